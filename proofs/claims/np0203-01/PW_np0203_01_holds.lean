import PyProof.Rows.All
import Wide.All
import OpenK.AllK
import Wide.FinOn
import KE.KBytesCut
import KE.KSliceW
import KE.KBytesWalk
import KE.KTurns
import PyProof.ExcClass3
import KE.KLam
import KE.KSortTup
import KE.KItemsList
import KE.KPar
import PyProof.TableCode
import Lean
import PySem.Challenge.RW_np0203_01
set_option Elab.async false
set_option autoImplicit false
set_option maxRecDepth 100000
set_option linter.all false
set_option genSizeOf false
set_option genInjectivity false
set_option genCtorIdx false
set_option bootstrap.genMatcherCode false
local macro_rules | `(tactic| rfl') => `(tactic| kernel_rfl)
section
open PySem PySem.W PyProof.Rows PySem.Calls
namespace Mine
abbrev NU:=@wpAny_bind
abbrev NW:=@wpAny_pure
abbrev NX:=@Option.some.inj
abbrev NY:=@Nat.le_of_ble_eq_true
abbrev NZ:=@of_decide_eq_true
abbrev Oa:=@List.mem_append_left
abbrev Ob:=@List.mem_append_right
abbrev Oc:=@Heap.get?_push_of_some
abbrev Od:=@Heap.get?_push_size
abbrev Oe:=@Nat.le_trans
abbrev Of {α : Type _} {a b : α} {l : List α} : a ∈ b :: l → a = b ∨ a ∈ l := List.mem_cons.mp
abbrev Og {α : Type _} {a b : α} : a ∈ [b] → a = b := List.mem_singleton.mp
abbrev Oh:=@congrArg
abbrev Oi:=@List.length_map
abbrev Oj:=@Nat.add_le_add_left
abbrev Ol:=@List.getElem?_eq_getElem
abbrev Om:=@Nat.eq_of_beq_eq_true
abbrev Oo:=@wpAny_holding
abbrev Oq:=@Nat.ble_eq_true_of_le
abbrev Ot:=@Nat.lt_of_le_of_lt
abbrev Ou:=@List.size_toArray
abbrev Ov:=@Int.natCast_nonneg
abbrev Ow:=@wpAny_standAt
abbrev Ox:=@List.append_nil
abbrev Oy:=@List.mem_of_getElem?
abbrev Oz:=@List.getElem?_append_left
abbrev OA:=@List.getElem?_map
abbrev OB:=@if_pos
abbrev OC:=@if_neg
abbrev OD:=@Nat.le_of_not_lt
abbrev OE:=@Heap.lt_size
abbrev OF:=@Nat.le_refl
abbrev OG {α : Type _} {a : α} {s t : List α} : a ∈ s ++ t → a ∈ s ∨ a ∈ t := List.mem_append.mp
abbrev OH {m n : Nat} : m < n → m ∈ List.range n := List.mem_range.mpr
end Mine
end
namespace Mine.joined
theorem tw17888585710585224838:0=0:=rfl
theorem tw13283044549052945301:0=0:=rfl
theorem tw4867809421075745472:0=0:=rfl
theorem tw3481307261989086896:0=0:=rfl
theorem tw14528545626678181820:0=0:=rfl
theorem tw12704206536657080654:0=0:=rfl
theorem tw6950984113090810197:0=0:=rfl
theorem tw2564387761458644965:0=0:=rfl
theorem tw14961681476069776921:0=0:=rfl
theorem tw15112584943659332722:0=0:=rfl
theorem tw9791849534426083911:0=0:=rfl
theorem tw14778848694990792706:0=0:=rfl
theorem tw14617233217761850614:0=0:=rfl
theorem tw6710031294030892662:0=0:=rfl
theorem tw15613585832246065563:0=0:=rfl
theorem tw11970225023544681590:0=0:=rfl
theorem tw11128129034674740981:0=0:=rfl
theorem tw2497402195988362284:0=0:=rfl
theorem tw14454099812786009461:0=0:=rfl
theorem tw4551292471165653624:0=0:=rfl
theorem tw6286687936375852794:0=0:=rfl
theorem tw17888968454332057197:0=0:=rfl
theorem tw2679192727715222525:0=0:=rfl
theorem tw1996535507060057891:0=0:=rfl
theorem tw8426781658677667043:0=0:=rfl
theorem tw15923319713793238076:0=0:=rfl
theorem tw13285523337496608297:0=0:=rfl
theorem tw5189370864665632131:0=0:=rfl
theorem tw6335107738273780477:0=0:=rfl
theorem tw11421613375669989904:0=0:=rfl
theorem tw9609751458467649087:0=0:=rfl
theorem tw4174137184562547226:0=0:=rfl
theorem tw6938567014899700505:0=0:=rfl
theorem tw18204641548583106809:0=0:=rfl
theorem tw11243246605663307545:0=0:=rfl
theorem tw8770013327099595116:0=0:=rfl
theorem tw2970512288193091884:0=0:=rfl
theorem tw15903888842496024497:0=0:=rfl
theorem tw5663810429357968387:0=0:=rfl
theorem tw3233648098770525570:0=0:=rfl
theorem tw9173169302022139451:0=0:=rfl
theorem tw12870520257254962980:0=0:=rfl
theorem tw7696114513982583326:0=0:=rfl
theorem tw5314279950874285637:0=0:=rfl
theorem tw11839054532545846439:0=0:=rfl
theorem tw16485566728759249922:0=0:=rfl
theorem tw16261231784805191920:0=0:=rfl
theorem tw7250677759686996298:0=0:=rfl
theorem tw5778669617643854188:0=0:=rfl
theorem tw867673367905134308:0=0:=rfl
theorem tw6548782596753904508:0=0:=rfl
theorem tw9992769695651470906:0=0:=rfl
theorem tw1514223933013583144:0=0:=rfl
theorem tw17758460738420188823:0=0:=rfl
theorem tw14703629193810653219:0=0:=rfl
theorem tw1115802768397368120:0=0:=rfl
theorem tw6660585410900781158:0=0:=rfl
theorem tw5289178461673833280:0=0:=rfl
theorem tw7307041767694285627:0=0:=rfl
theorem tw11059096323027773216:0=0:=rfl
theorem tw2983302505445936011:0=0:=rfl
theorem tw6673139995557400273:0=0:=rfl
theorem tw15336329430699769934:0=0:=rfl
theorem tw14580722781044315962:0=0:=rfl
theorem tw14530442589256621152:0=0:=rfl
theorem tw15659285519611499591:0=0:=rfl
theorem tw4027784698583265890:0=0:=rfl
theorem tw9349239116704703383:0=0:=rfl
theorem tw11603759540401589259:0=0:=rfl
theorem tw340950619205272454:0=0:=rfl
theorem tw8086153641537136857:0=0:=rfl
theorem tw5190687368830680973:0=0:=rfl
theorem tw3346923407652593782:0=0:=rfl
theorem tw5753564542348303140:0=0:=rfl
theorem tw10609230238181370458:0=0:=rfl
theorem tw1798705781526824666:0=0:=rfl
theorem tw4481877371251650782:0=0:=rfl
theorem tw13024299467639704695:0=0:=rfl
theorem tw12730010551415567971:0=0:=rfl
theorem tw4218127863400304040:0=0:=rfl
theorem tw13769043119676962778:0=0:=rfl
theorem tw1652825429631583628:0=0:=rfl
theorem tw7193377846799356611:0=0:=rfl
theorem tw4140524117491737647:0=0:=rfl
theorem tw8808236482860676978:0=0:=rfl
theorem tw17532912108963075000:0=0:=rfl
theorem tw9208729113307467758:0=0:=rfl
theorem tw1671189119395786579:0=0:=rfl
theorem tw8691446290586122678:0=0:=rfl
theorem tw15956394820722649806:0=0:=rfl
theorem tw1423844593754189579:0=0:=rfl
theorem tw6740593750985759556:0=0:=rfl
theorem tw14031295095113832593:0=0:=rfl
theorem tw15468174949624382930:0=0:=rfl
theorem tw13576946419387440194:0=0:=rfl
theorem tw14337520525746954113:0=0:=rfl
theorem tw11956584335591001760:0=0:=rfl
theorem tw14715493235164814907:0=0:=rfl
theorem tw11631650267907413870:0=0:=rfl
theorem tw5471916891196267162:0=0:=rfl
theorem tw20323368330508326:0=0:=rfl
theorem tw12822060873304067373:0=0:=rfl
theorem tw1907675731559990814:0=0:=rfl
theorem tw17149885236099821607:0=0:=rfl
theorem tw12688996676015680117:0=0:=rfl
theorem tw13742793217553821419:0=0:=rfl
theorem tw1839023692322007700:0=0:=rfl
theorem tw6372584442211725069:0=0:=rfl
theorem tw8740092050100313922:0=0:=rfl
theorem tw14231800460104718424:0=0:=rfl
theorem tw6030574262309857619:0=0:=rfl
theorem tw12245324597558655149:0=0:=rfl
theorem tw10766008756960666907:0=0:=rfl
theorem tw2158020974795696408:0=0:=rfl
theorem tw6990575811273812209:0=0:=rfl
theorem tw12977101826324027025:0=0:=rfl
theorem tw10758430014739480931:0=0:=rfl
theorem tw5042494123705775302:0=0:=rfl
theorem tw2017685740956429606:0=0:=rfl
theorem tw4089293968724162514:0=0:=rfl
theorem tw11960269536643645858:0=0:=rfl
theorem tw18230528989732561281:0=0:=rfl
theorem tw4797844729617909256:0=0:=rfl
theorem tw15114411007651695138:0=0:=rfl
theorem tw6158118317179492165:0=0:=rfl
theorem tw14684560226150848902:0=0:=rfl
theorem tw10138030884195887095:0=0:=rfl
theorem tw3544590782296325340:0=0:=rfl
theorem tw7616145789135678495:0=0:=rfl
theorem tw3844193690266985949:0=0:=rfl
theorem tw18166183397334346089:0=0:=rfl
theorem tw12935316574246691570:0=0:=rfl
theorem tw2411650052134736930:0=0:=rfl
theorem tw16273289483504163117:0=0:=rfl
theorem tw4004592628988791186:0=0:=rfl
theorem tw1094444791511364183:0=0:=rfl
theorem tw6595198642837920275:0=0:=rfl
theorem tw4483015308503028672:0=0:=rfl
theorem tw7138953914073240751:0=0:=rfl
theorem tw4428365302791956943:0=0:=rfl
theorem tw14713736250677219245:0=0:=rfl
theorem tw1815830949600081067:0=0:=rfl
theorem tw13648465573092469800:0=0:=rfl
theorem tw618092884007527642:0=0:=rfl
theorem tw10347221406564756343:0=0:=rfl
theorem tw1163659114103003515:0=0:=rfl
theorem tw9099067272640071924:0=0:=rfl
theorem tw18001825594168006124:0=0:=rfl
theorem tw3602669931363719478:0=0:=rfl
theorem tw1392342342523155264:0=0:=rfl
theorem tw14792969236133780645:0=0:=rfl
theorem tw10027794470092845962:0=0:=rfl
theorem tw6591701492826863241:0=0:=rfl
theorem tw7526312467794094199:0=0:=rfl
theorem tw6497057828953842894:0=0:=rfl
theorem tw12619050085948657212:0=0:=rfl
theorem tw14519532512230897668:0=0:=rfl
theorem tw8879296853574622908:0=0:=rfl
theorem tw12851258536491721756:0=0:=rfl
theorem tw10787060299181407602:0=0:=rfl
theorem tw15239909403622730504:0=0:=rfl
theorem tw900516813502517799:0=0:=rfl
theorem tw17670864313496248493:0=0:=rfl
theorem tw17893950960644248766:0=0:=rfl
theorem tw433856122321234214:0=0:=rfl
theorem tw5814720046119203905:0=0:=rfl
theorem tw13876830911239791029:0=0:=rfl
theorem tw3686542836851991395:0=0:=rfl
theorem tw4812552560597901628:0=0:=rfl
theorem tw6701581885665587972:0=0:=rfl
theorem tw17060932044675388686:0=0:=rfl
theorem tw1617410390953448707:0=0:=rfl
theorem tw6813801989917657285:0=0:=rfl
theorem tw2114177011325882295:0=0:=rfl
theorem tw352588641260010399:0=0:=rfl
theorem tw9142989863805927427:0=0:=rfl
theorem tw15433800927828613050:0=0:=rfl
theorem tw15146853470125386913:0=0:=rfl
theorem tw17877342664156804334:0=0:=rfl
theorem tw13937332576677664196:0=0:=rfl
theorem tw15669734846985968899:0=0:=rfl
theorem tw12203803775953965700:0=0:=rfl
theorem tw6043949546502296984:0=0:=rfl
theorem tw8239022586110839985:0=0:=rfl
theorem tw17640097302616934070:0=0:=rfl
theorem tw2090019564919606927:0=0:=rfl
theorem tw4081167350768344080:0=0:=rfl
theorem tw1331748133232024959:0=0:=rfl
theorem tw1709066945609698558:0=0:=rfl
theorem tw4023086643844819663:0=0:=rfl
theorem tw3517114705414072183:0=0:=rfl
theorem tw15937734751865107153:0=0:=rfl
theorem tw15958632083591183138:0=0:=rfl
theorem tw7600036822165926523:0=0:=rfl
theorem tw11614832086255653318:0=0:=rfl
theorem tw14808135488732212432:0=0:=rfl
theorem tw6851400109904463414:0=0:=rfl
theorem tw14295126339887948828:0=0:=rfl
theorem tw12924740449605173631:0=0:=rfl
theorem tw10452763101987186345:0=0:=rfl
theorem tw7202382722322411881:0=0:=rfl
theorem tw8160888894232303802:0=0:=rfl
theorem tw5374014946334845779:0=0:=rfl
theorem tw13380925995320132239:0=0:=rfl
theorem tw2780462673051835710:0=0:=rfl
theorem tw16164244290553661633:0=0:=rfl
theorem tw16801590394301388392:0=0:=rfl
theorem tw2502018317805250501:0=0:=rfl
theorem tw14326764572723267326:0=0:=rfl
theorem tw17084330165039383440:0=0:=rfl
theorem tw9199968646932539294:0=0:=rfl
theorem tw10953261282597234525:0=0:=rfl
theorem tw16895920979631868647:0=0:=rfl
theorem tw4565901059516194835:0=0:=rfl
theorem tw7825462465049666276:0=0:=rfl
theorem tw9631569120137429881:0=0:=rfl
theorem tw14353285027930708982:0=0:=rfl
theorem tw11575999429368719281:0=0:=rfl
theorem tw689746494016383729:0=0:=rfl
theorem tw2108538598182203602:0=0:=rfl
theorem tw10945569150627998511:0=0:=rfl
theorem tw11275528950826531980:0=0:=rfl
theorem tw11643005839818190551:0=0:=rfl
theorem tw7490343410714882329:0=0:=rfl
theorem tw7657181668488618272:0=0:=rfl
theorem tw6954738875774135688:0=0:=rfl
theorem tw15270529102946293798:0=0:=rfl
theorem tw5185981675955114155:0=0:=rfl
theorem tw4184305123840918967:0=0:=rfl
theorem tw16328696636219402476:0=0:=rfl
theorem tw15940238307627816558:0=0:=rfl
theorem tw17710452633426353712:0=0:=rfl
theorem tw6885607212837177478:0=0:=rfl
theorem tw13276936418821766155:0=0:=rfl
theorem tw12445727051573689628:0=0:=rfl
theorem tw710359117151955353:0=0:=rfl
theorem tw16033756025491496821:0=0:=rfl
theorem tw15303051068107833283:0=0:=rfl
theorem tw8932171510552795524:0=0:=rfl
theorem tw16298419094358496465:0=0:=rfl
theorem tw18024750971303507005:0=0:=rfl
theorem tw10471073327044583175:0=0:=rfl
theorem tw12933898343944204498:0=0:=rfl
theorem tw12715753457471352607:0=0:=rfl
theorem tw13287154390593592114:0=0:=rfl
theorem tw7630611541834391033:0=0:=rfl
theorem tw11620889845469277017:0=0:=rfl
theorem tw1687972356952143254:0=0:=rfl
theorem tw9134446068944456515:0=0:=rfl
theorem tw10043780633087404568:0=0:=rfl
theorem tw13792200264802072302:0=0:=rfl
theorem tw10285783229602491089:0=0:=rfl
theorem tw15690039062468177693:0=0:=rfl
theorem tw158506580546336343:0=0:=rfl
theorem tw17219311126408656947:0=0:=rfl
theorem tw6243907186569951216:0=0:=rfl
theorem tw4554379266847124498:0=0:=rfl
theorem tw4622957960692925995:0=0:=rfl
theorem tw16276573893895910959:0=0:=rfl
theorem tw16826927756990863607:0=0:=rfl
theorem tw15632969931342143734:0=0:=rfl
theorem tw17779272493919850062:0=0:=rfl
theorem tw5671898875089045584:0=0:=rfl
theorem tw890200830820759619:0=0:=rfl
theorem tw1668453939461434196:0=0:=rfl
theorem tw5316640747354644597:0=0:=rfl
theorem tw6654576711655533257:0=0:=rfl
theorem tw15787432104482085410:0=0:=rfl
theorem tw14240127461196482955:0=0:=rfl
theorem tw111974796399722432:0=0:=rfl
theorem tw17317330702079542238:0=0:=rfl
theorem tw5724587671023358661:0=0:=rfl
theorem tw15962715962563352973:0=0:=rfl
theorem tw7210363422772695193:0=0:=rfl
theorem tw17581213090353212425:0=0:=rfl
theorem tw9666484516180707263:0=0:=rfl
theorem tw9260299135454317180:0=0:=rfl
theorem tw2144793239308718167:0=0:=rfl
theorem tw1373007556353070522:0=0:=rfl
theorem tw10379583804533317680:0=0:=rfl
theorem tw2751316888645702312:0=0:=rfl
theorem tw8655928049174703924:0=0:=rfl
theorem tw1039270786920065136:0=0:=rfl
theorem tw4270019880831204414:0=0:=rfl
theorem tw9833176073938090876:0=0:=rfl
theorem tw9815319924283290635:0=0:=rfl
theorem tw9571094410748800265:0=0:=rfl
theorem tw1479946527748924440:0=0:=rfl
theorem tw16690610002466576062:0=0:=rfl
theorem tw8122766967260607416:0=0:=rfl
theorem tw16216000159505118076:0=0:=rfl
theorem tw2743579411119997329:0=0:=rfl
theorem tw1072120426460951307:0=0:=rfl
theorem tw7518761083921567604:0=0:=rfl
theorem tw8086261850621634794:0=0:=rfl
theorem tw16850972947788270639:0=0:=rfl
theorem tw7695242533436624187:0=0:=rfl
theorem tw8088105184325955375:0=0:=rfl
theorem tw7709912315149591512:0=0:=rfl
theorem tw4210893056703228144:0=0:=rfl
theorem tw15695975740179977635:0=0:=rfl
theorem tw16292622055295949322:0=0:=rfl
theorem tw1512254853051110231:0=0:=rfl
theorem tw1432120138829775037:0=0:=rfl
theorem tw18059063039120509979:0=0:=rfl
theorem tw12985861415366581583:0=0:=rfl
theorem tw15788006984615825013:0=0:=rfl
theorem tw11124573095698391855:0=0:=rfl
theorem tw11343068035858373527:0=0:=rfl
theorem tw14085002994172272155:0=0:=rfl
theorem tw4643573623161296698:0=0:=rfl
theorem tw9070446793620409361:0=0:=rfl
theorem tw1654528905826664966:0=0:=rfl
theorem tw9882928893169816324:0=0:=rfl
theorem tw6862686176828954152:0=0:=rfl
theorem tw1840786086739801038:0=0:=rfl
theorem tw11115680792016288644:0=0:=rfl
theorem tw5384113530097030075:0=0:=rfl
theorem tw6444604846956090376:0=0:=rfl
theorem tw4771584328235484591:0=0:=rfl
theorem tw9273381627207791347:0=0:=rfl
theorem tw14402831029255140106:0=0:=rfl
theorem tw7047166328252539228:0=0:=rfl
theorem tw10597082943531382793:0=0:=rfl
theorem tw14341828971820723477:0=0:=rfl
theorem tw168651603973544931:0=0:=rfl
theorem tw13800845187903892289:0=0:=rfl
theorem tw7100521450666677377:0=0:=rfl
theorem tw10153361378485386366:0=0:=rfl
theorem tw8114994674982737558:0=0:=rfl
theorem tw12385784493381813556:0=0:=rfl
theorem tw4256345428217367818:0=0:=rfl
theorem tw15392277163550815459:0=0:=rfl
theorem tw10442094470229254151:0=0:=rfl
theorem tw1886671632533377639:0=0:=rfl
theorem tw7977041375747040339:0=0:=rfl
theorem tw6221210460407477601:0=0:=rfl
theorem tw6675286112704590240:0=0:=rfl
theorem tw2253163231936739053:0=0:=rfl
theorem tw16821017878029228456:0=0:=rfl
theorem tw15118253157379383873:0=0:=rfl
theorem tw10675090398975467965:0=0:=rfl
theorem tw4272830096711481041:0=0:=rfl
theorem tw10947918980473559059:0=0:=rfl
theorem tw1868779541259626320:0=0:=rfl
theorem tw3991555000232219151:0=0:=rfl
theorem tw10083057399521828773:0=0:=rfl
theorem tw6270814659203235082:0=0:=rfl
theorem tw8231841351284497096:0=0:=rfl
theorem tw8478316199244965997:0=0:=rfl
theorem tw14268928449978483302:0=0:=rfl
theorem tw4374295744847189607:0=0:=rfl
theorem tw851362639569405504:0=0:=rfl
theorem tw9373018862967921435:0=0:=rfl
theorem tw1746748386789266123:0=0:=rfl
theorem tw8760308097243906762:0=0:=rfl
theorem tw751438437898936053:0=0:=rfl
theorem tw17302469283819097501:0=0:=rfl
theorem tw9036089530938874974:0=0:=rfl
theorem tw3156509118324913927:0=0:=rfl
theorem tw4547569224705138977:0=0:=rfl
theorem tw1027942130893854691:0=0:=rfl
theorem tw7587333845339716718:0=0:=rfl
theorem tw6730537670034618453:0=0:=rfl
theorem tw9435528666004889120:0=0:=rfl
theorem tw4779350796276676384:0=0:=rfl
theorem tw1744670950240856715:0=0:=rfl
theorem tw7289989994908920146:0=0:=rfl
theorem tw3236761906080466394:0=0:=rfl
theorem tw3944401725586385466:0=0:=rfl
theorem tw2479905804122917012:0=0:=rfl
theorem tw1122322509465194181:0=0:=rfl
theorem tw1445205654946360439:0=0:=rfl
theorem tw5328313232275962622:0=0:=rfl
theorem tw8312431965694662742:0=0:=rfl
theorem tw17155335430730779482:0=0:=rfl
theorem tw4629509380502741176:0=0:=rfl
theorem tw8887806392580539912:0=0:=rfl
theorem tw2661789196457824703:0=0:=rfl
theorem tw4105994598657355658:0=0:=rfl
theorem tw13696127280957440197:0=0:=rfl
theorem tw7206964369590423574:0=0:=rfl
theorem tw654713601734331886:0=0:=rfl
theorem tw3290803848320030093:0=0:=rfl
theorem tw6490533585117335859:0=0:=rfl
theorem tw14503487535435279655:0=0:=rfl
theorem tw17743896444261515447:0=0:=rfl
theorem tw13800626967037318241:0=0:=rfl
theorem tw906024395274585278:0=0:=rfl
theorem tw437105557778151852:0=0:=rfl
theorem tw15760344974446126212:0=0:=rfl
theorem tw12240710815909189973:0=0:=rfl
theorem tw13303873326811934841:0=0:=rfl
theorem tw17255363389683276993:0=0:=rfl
theorem tw16295340587488028283:0=0:=rfl
theorem tw6393877673199089841:0=0:=rfl
theorem tw11585944667476867275:0=0:=rfl
theorem tw11723151151384497609:0=0:=rfl
theorem tw17165257631095743358:0=0:=rfl
theorem tw13218874710986472609:0=0:=rfl
theorem tw2213364716433512672:0=0:=rfl
theorem tw17697649985433978820:0=0:=rfl
theorem tw825472786010668174:0=0:=rfl
theorem tw15380553609194300408:0=0:=rfl
theorem tw12415063787053806138:0=0:=rfl
theorem tw9621816398741126464:0=0:=rfl
theorem tw5933116591080273626:0=0:=rfl
theorem tw6913776176988338094:0=0:=rfl
theorem tw9074753307322130271:0=0:=rfl
theorem tw17142454556407235265:0=0:=rfl
theorem tw16237066859623733021:0=0:=rfl
theorem tw9334581331135254264:0=0:=rfl
theorem tw7100640888837620389:0=0:=rfl
theorem tw12830383582667482676:0=0:=rfl
theorem tw9915437245143846420:0=0:=rfl
theorem tw17357089961931387220:0=0:=rfl
theorem tw3742600544284344810:0=0:=rfl
theorem tw9153007501047805650:0=0:=rfl
theorem tw9974941247824670803:0=0:=rfl
theorem tw14245053231124882230:0=0:=rfl
theorem tw3857584865778263019:0=0:=rfl
theorem tw1119578126498703889:0=0:=rfl
theorem tw5647487063889257127:0=0:=rfl
theorem tw6764314816658360613:0=0:=rfl
theorem tw9787476174000342950:0=0:=rfl
theorem tw14687959968615189323:0=0:=rfl
theorem tw4402761416555159719:0=0:=rfl
theorem tw162232346707859638:0=0:=rfl
theorem tw5156530466238557513:0=0:=rfl
theorem tw16174037856172910435:0=0:=rfl
theorem tw18005711976960834531:0=0:=rfl
theorem tw1482434017810264714:0=0:=rfl
theorem tw1646768812407117981:0=0:=rfl
theorem tw13467597903635157657:0=0:=rfl
theorem tw7527527833876995007:0=0:=rfl
theorem tw2336401995730633647:0=0:=rfl
theorem tw16936705119723668205:0=0:=rfl
theorem tw1274967394984148028:0=0:=rfl
theorem tw17182070805859786185:0=0:=rfl
theorem tw6197229665259672227:0=0:=rfl
theorem tw5045034467032488100:0=0:=rfl
theorem tw7127858643285370096:0=0:=rfl
theorem tw13989489628850159846:0=0:=rfl
theorem tw18255373868976488042:0=0:=rfl
theorem tw13865232951877102196:0=0:=rfl
theorem tw14231657303244132909:0=0:=rfl
theorem tw6644606788864357622:0=0:=rfl
theorem tw16704345239658076125:0=0:=rfl
theorem tw12026885297294267670:0=0:=rfl
theorem tw2784050069302060264:0=0:=rfl
theorem tw15056841645599980175:0=0:=rfl
theorem tw15701807646722796950:0=0:=rfl
theorem tw887149136845917924:0=0:=rfl
theorem tw2318198991891879410:0=0:=rfl
theorem tw2594056996518637476:0=0:=rfl
theorem tw16476162458633157031:0=0:=rfl
theorem tw1919398298840785490:0=0:=rfl
theorem tw5646837175724408884:0=0:=rfl
theorem tw8613441269544181578:0=0:=rfl
theorem tw2870893818462738019:0=0:=rfl
theorem tw7609582054869971400:0=0:=rfl
theorem tw12910484780263986383:0=0:=rfl
theorem tw6916910268950492485:0=0:=rfl
theorem tw13858363419877018049:0=0:=rfl
theorem tw2950270719379943473:0=0:=rfl
theorem tw16164350171221891553:0=0:=rfl
theorem tw6654244315375624037:0=0:=rfl
theorem tw2224887864867524385:0=0:=rfl
theorem tw5332516678748288206:0=0:=rfl
theorem tw7255269526312786388:0=0:=rfl
theorem tw6794984851780174019:0=0:=rfl
theorem tw486874932563379821:0=0:=rfl
theorem tw16925183325409403569:0=0:=rfl
theorem tw14659174919405660586:0=0:=rfl
theorem tw5279545341077042511:0=0:=rfl
theorem tw17359013648044423437:0=0:=rfl
theorem tw17668187780202778113:0=0:=rfl
theorem tw15911654918141069280:0=0:=rfl
theorem tw1994942868616304148:0=0:=rfl
theorem tw17869428700794652671:0=0:=rfl
end Mine.joined
section
set_option backward.match.sparseCases false
namespace Mine
noncomputable abbrev Txt:=List Nat
set_option genCtorIdx true in
inductive Bi|len|isinstance|sorted|all|sum|bytes|dict|int|bool
set_option genCtorIdx true in
inductive V
 |none|bool (b:Bool)|int (i:Int)|str (s:Txt)|bytes (b:List Nat)
 |tup (xs:List V)|lst (xs:List V)|g6 (xs:List V)|snap (xs:List V)
 |obj (c:Nat) (at_:List (Nat×V))|ct (c:Nat) (at_:List (Nat×V))
 |uf (kvs:List (Txt×V))|E1 (kvs:List (Txt×V))|Z9 (kvs:List (Txt×V))
 |loc (i:Nat)|fn (k:Nat)|cls (k:Nat)|bi (b:Bi)
set_option genCtorIdx true in
inductive O
 |list (xs:List V)|map (f:Txt->Option V)|dy (kvs:List (Int×V))|inst (c:Nat) (d:Nat)|emp
set_option genCtorIdx true in
inductive Io|add|sub|mul|mod|pow|shl|shr|band|fdiv
set_option genCtorIdx true in
inductive hV|eq|ne|lt|le|gt|ge|is|M5|ik|R7
set_option genCtorIdx true in
inductive mq|val|enum|range
inductive X
 |lit (v:V)|NT (x:Nat)|bin (op:Io) (l r:X)|not (e:X)|neg (e:X)
 |R5 (es:List X)|mw (es:List X)|cmp (l:X) (rs:List (hV×X))|ite (t b e:X)
 |call (f:X) (args:List X)|l5 (o:X) (m:Nat) (args:List X)|attr (o:X) (a:Nat)
 |sub (o i:X)|slice (o:X) (lo hi:Option X)
 |list (es:List X)|tuple (es:List X)|dict (kvs:List (X×X))
 |Y5 (es:List X)|K4 (kvs:List (X×X))
 |comp (p:Bool) (elt:X) (xs:List Nat) (src:mq) (it:List X) (cond:Option X)
 |A2 (body:X)|l4 (o:X)
set_option genCtorIdx true in
inductive T|NT (x:Nat)|B3 (x:Nat)|attr (o:X) (a:Nat)|item (o i:X)|Y6 (x:Nat) (i:X)
inductive S
 |assign (t:T) (e:X)|M9 (ts:List T) (es:List X)|F6 (ts:List T) (es:List X)|H4 (ts:List T) (e:X)
 |expr (e:X)|ite (t:X) (b e:List S)|y6 (t:X) (b:List S)
 |F1 (xs:List Nat) (src:mq) (it:List X) (b:List S)|ret (e:X)|raise (hY:X)|o8
 |F0 (x:Nat) (e:X)|K5 (x:Nat) (e:X)|fO (y x:Nat)|J1 (x:Nat) (e:X)|pass
noncomputable abbrev Hp:=List O
noncomputable abbrev Fr:=List (Nat×V)
set_option genCtorIdx true in
inductive R (α:Type)
 |ok (a:α) (Y:Hp)|exc (t:Txt) (Y:Hp)|no (why:Nat)
namespace R
noncomputable def bind {α β:Type}:R α->(α->Hp->R β)->R β
 |ok a Y,f=>f a Y
 |exc t Y,_=>exc t Y
 |no w,_=>no w
noncomputable def z6 {α:Type}:R α->R α
 |exc _ _=>no 1
 |r=>r
def c4 {α:Type} (r:R α) (K:α->Hp->Prop) (X:Txt->Hp->Prop):Prop:=match r with
 |ok a Y=>K a Y
 |exc t Y=>X t Y
 |no _=>False
theorem d5 {α β:Type} {r:R α} {f:α->Hp->R β} {K:β->Hp->Prop} {X:Txt->Hp->Prop}:(r.bind f).c4 K X↔r.c4 (fun a Y=>(f a Y).c4 K X) X:=by
 cases r<;>exact Iff.rfl
theorem c4.mono {α:Type} {r:R α} {K K':α->Hp->Prop} {X X':Txt->Hp->Prop} (h:r.c4 K X) (k:∀a Y,K a Y->K' a Y) (x:∀t Y,X t Y->X' t Y):r.c4 K' X':=by
 cases r with
 |ok a Y=>exact k a Y h
 |exc t Y=>exact x t Y h
 |no w=>exact h
theorem c4.and {α:Type} {r:R α} {K:α->Hp->Prop} {X:Txt->Hp->Prop} (h:r.c4 K X):r.c4 (fun a Y=>r=.ok a Y∧K a Y) (fun t Y=>r=.exc t Y∧X t Y):=by
 cases r with
 |ok a Y=>exact⟨rfl,h⟩
 |exc t Y=>exact⟨rfl,h⟩
 |no w=>exact h
theorem J6 {α:Type} {r:R α} {K:α->Hp->Prop} {X:Txt->Hp->Prop} (h:r.z6.c4 K X):r.c4 K (fun J J=>False):=by
 cases r with
 |ok a Y=>exact h
 |exc t Y=>exact h.elim
 |no w=>exact h
end R
noncomputable def b8 {α:Type} (w:Nat) (o:Option α) (Y:Hp):R α:=match o with
 |some a=>.ok a Y
 |none=>.no w
noncomputable def nM {α β:Type} (o:Option α) (f:α->β) (g:β):β:=match o with
 |some a=>f a
 |none=>g
noncomputable def R8 {κ:Type} (eq:κ->κ->Bool):List (κ×V)->κ->Option V
 | [],_=>none
 |p::r,k=>bif eq p.1 k then some p.2 else R8 eq r k
noncomputable def qy {κ:Type} (eq:κ->κ->Bool) (kvs:List (κ×V)) (k:κ) (v:V):List (κ×V):=bif kvs.any (fun p=>eq p.1 k)then kvs.map (fun p=>bif eq p.1 k then(p.1,v)else p)else kvs++[(k,v)]
noncomputable def d6:Fr->Nat->Option V:=R8 Nat.beq
noncomputable def putN:Fr->Nat->V->Fr:=qy Nat.beq
noncomputable def r5:Txt->Txt->Bool
 | [],[]=>true
 |a::r,b::q=>Nat.beq a b&&r5 r q
 |_,_=>false
noncomputable def yY:Txt->Txt->Bool
 | [],[]=>false
 | [],_::_=>true
 |_::_,[]=>false
 |a::r,b::q=>Nat.blt a b ||(Nat.beq a b&&yY r q)
noncomputable def FT:Txt->Txt->Bool
 | [],_=>true
 |_::_,[]=>false
 |a::r,b::q=>Nat.beq a b&&FT r q
noncomputable def LA (p:Txt):Txt->Bool
 | []=>FT p []
 |a::r=>FT p (a::r)|| LA p r
noncomputable def bc:List (Txt×V)->Txt->Option V:=R8 r5
noncomputable def BO:List (Txt×V)->Txt->V->List (Txt×V):=qy r5
noncomputable def Iu (a b:Int):Bool:=decide (a=b)
noncomputable def En:List (Int×V)->Int->Option V:=R8 Iu
noncomputable def FI:List (Int×V)->Int->V->List (Int×V):=qy Iu
noncomputable def t9 (f:Txt->Option V) (k:Txt) (v:Option V):Txt->Option V:=fun q=>bif r5 k q then v else f q
noncomputable def oq (k:Txt):List Txt->List Txt
 | []=>[k]
 |q::r=>bif yY k q then k::q::r else q::oq k r
noncomputable def sR (ks:List Txt):List Txt:=ks.foldl (fun l k=>oq k l) []
noncomputable def y0 {α:Type}:List α->Option α
 | [x]=>some x
 |_=>none
noncomputable def Lc {α:Type}:List α->Option (α×List α)
 |a::r=>some (a,r)
 | []=>none
noncomputable def two1 {α:Type} (l:List α):Option (α×α):=(Lc l).bind fun q=>(y0 q.2).map fun y=>(q.1,y)
noncomputable def three1 {α:Type} (l:List α):Option (α×α×α):=(Lc l).bind fun q=>(two1 q.2).map fun y=>(q.1,y)
noncomputable def gd {α:Type} (b:Bool) (v:α):Option α:=bif b then some v else none
noncomputable def F7:V->Option Unit
 |.none=>some ()
 |_=>none
noncomputable def L6:V->Option Bool
 |.bool b=>some b
 |_=>none
noncomputable def z5:V->Option Int
 |.int i=>some i
 |_=>none
noncomputable def r6:V->Option Txt
 |.str s=>some s
 |_=>none
noncomputable def H9:V->Option (List Nat)
 |.bytes s=>some s
 |_=>none
noncomputable def N0:V->Option (List V)
 |.tup xs=>some xs
 |_=>none
noncomputable def jP:V->Option (Nat×Fr)
 |.obj c a=>some (c,a)
 |_=>none
noncomputable def L5:V->Option Nat
 |.loc i=>some i
 |_=>none
noncomputable def DQ:V->Option Nat
 |.fn i=>some i
 |_=>none
noncomputable def AO:V->Option Nat
 |.cls i=>some i
 |_=>none
noncomputable def AQ:V->Option Bi
 |.bi b=>some b
 |_=>none
noncomputable def xb:V->Option (List V)
 |.g6 xs=>some xs
 |_=>none
noncomputable def sq:V->Option (List (Txt×V))
 |.E1 xs=>some xs
 |_=>none
noncomputable def DP:V->Option (Nat×Fr)
 |.ct c a=>some (c,a)
 |_=>none
noncomputable def HX:X->Option Nat
 |.NT x=>some x
 |_=>none
noncomputable def iW:Int->Option Nat
 |.ofNat n=>some n
 |.negSucc _=>none
noncomputable def fF:O->Option (List V)
 |.list xs=>some xs
 |_=>none
noncomputable def ib:O->Option (Txt->Option V)
 |.map f=>some f
 |_=>none
noncomputable def tj:O->Option (List (Int×V))
 |.dy f=>some f
 |_=>none
noncomputable def sZ:O->Option (Nat×Nat)
 |.inst c d=>some (c,d)
 |_=>none
noncomputable def nP:O->Option Unit
 |.emp=>some ()
 |_=>none
noncomputable def cV {α:Type} (a b:R α):R α:=match a with
 |.no _=>b
 |r=>r
noncomputable def freeze:V->Option V
 |.g6 xs=>some (.lst xs)
 |.E1 kvs=>some (.uf kvs)
 |.ct c a=>some (.obj c a)
 |.snap _=>none
 |.Z9 _=>none
 |v=>some v
noncomputable def HM:V->V
 |.g6 xs=>.snap xs
 |.E1 kvs=>.Z9 kvs
 |v=>v
noncomputable def dw:V->Bool
 |.snap _=>true
 |.Z9 _=>true
 |_=>false
noncomputable def NP:V->Option (List V)
 |.tup xs=>some xs
 |.lst xs=>some xs
 |.g6 xs=>some xs
 |.snap xs=>some xs
 |_=>none
noncomputable def ents:V->Option (List (Txt×V))
 |.uf kvs=>some kvs
 |.E1 kvs=>some kvs
 |.Z9 kvs=>some kvs
 |_=>none
noncomputable def t6 (s:Txt):Bool:=s.all fun c=>Nat.blt c 128
noncomputable def EI:V->Option (List V)
 |.lst xs=>some xs
 |.g6 xs=>some xs
 |_=>none
noncomputable def quiet:V->Bool
 |.snap _=>false
 |.Z9 _=>false
 |.g6 _=>false
 |.E1 _=>false
 |.ct _ _=>false
 |_=>true
noncomputable def M7 (x:Nat):List (Nat×V)->List (Nat×V)
 | []=>[]
 |(y,v)::r=>bif Nat.beq y x then M7 x r else(y,v)::M7 x r
noncomputable def C6:List (Nat×V)->List (Nat×V)
 | []=>[]
 |(x,v)::r=>bif quiet v then(x,v)::C6 r else M7 x (C6 r)
noncomputable def b2i (b:Bool):Int:=bif b then 1 else 0
noncomputable def E2:V->Option (List V)
 |.lst xs=>some xs
 |.g6 xs=>some xs
 |.snap xs=>some xs
 |_=>none
inductive D
 |none|bool (b:Bool)|int (i:Int)|str (s:Txt)|seq (t:Bool) (xs:List D)
noncomputable def AG (v:V):Option D:=((F7 v).map fun J=>D.none).or <|((L6 v).map D.bool).or <|((z5 v).map D.int).or <|(r6 v).map D.str
noncomputable def U4 (f:V->Option D):List V->Option (List D)
 | []=>some []
 |v::r=>(f v).bind fun d=>(U4 f r).map (d:: ·)
noncomputable def dat:Nat->V->Option D
 |0,v=>AG v
 |n+1,v=>(AG v).or <|((N0 v).bind fun xs=>(U4 (dat n) xs).map (.seq true)).or <|(E2 v).bind fun xs=>(U4 (dat n) xs).map (.seq false)
mutual
noncomputable def jC:D->D->Bool
 |.none,.none=>true
 |.bool x,.bool y=>x == y
 |.bool x,.int y=>decide (b2i x=y)
 |.int x,.bool y=>decide (x=b2i y)
 |.int x,.int y=>decide (x=y)
 |.str x,.str y=>r5 x y
 |.seq t xs,.seq u ys=>t == u&&we xs ys
 |_,_=>false
noncomputable def we:List D->List D->Bool
 | [],[]=>true
 |x::xs,y::ys=>jC x y&&we xs ys
 |_,_=>false
end
noncomputable def zW (a b:V):Option Bool:=(dat 8 a).bind fun x=>(dat 8 b).map fun y=>jC x y
noncomputable def rn (v:V) (xs:List V):Option Bool:=(dat 8 v).bind fun d=>(U4 (dat 8) xs).map fun ds=>ds.any fun y=>jC y d
noncomputable def CZ (d:D):Nat->List D->Option Nat
 |_,[]=>none
 |k,x::r=>bif jC x d then some k else CZ d (k+1) r
noncomputable def EA (v:V) (xs:List V):Option Nat:=(dat 8 v).bind fun d=>(U4 (dat 8) xs).bind fun ds=>CZ d 0 ds
noncomputable def um (n:Nat):Int->Nat
 |.ofNat k=>bif Nat.ble k n then k else n
 |.negSucc k=>n - (k+1)
noncomputable def uh (n:Nat):Option Int->Nat
 |none=>0
 |some i=>um n i
noncomputable def ER (n:Nat):Option Int->Nat
 |none=>n
 |some i=>um n i
noncomputable def cut {α:Type} (lo hi:Option Int) (xs:List α):List α:=(xs.drop (uh xs.length lo)).take (ER xs.length hi - uh xs.length lo)
noncomputable def NC:V->Option Txt
 |.str s=>some s
 |_=>none
noncomputable def m9 (NR:List Txt) (f:Txt->Option V):List Txt:=NR.filter fun k=>(f k).isSome
noncomputable def c3 (o:Option V):Bool:=match o with|some _=>true|none=>false
structure Fd where
 params:List Nat
 dA:List V
 body:List S
structure Cd where
 init:Option Nat
 keeps:Bool
 meths:List (Nat×Nat)
 body:List (List Nat×Bool×X):=[]
structure Pg where
 fns:List Fd
 pe:List Cd
 glob:List (Nat×V)
 univ:List Txt
 names:List Txt
inductive Fl|next|ret (v:V)
structure Ev where
 ev:Fr->X->Hp->R V
 tr:Fr->X->Hp->R Bool
 Y9:Fr->List S->Hp->R (Fl×Fr)
 run:Nat->List V->Hp->R V
noncomputable def eX (v:V):Option Bool:=(L6 v).or <|((F7 v).map fun J=>false).or <|(z5 v).map fun i=>decide (i≠0)
noncomputable def isNone:V->Option Bool
 |.none=>some true
 |.g6 _=>some false
 |.lst _=>some false
 |.tup _=>some false
 |.str _=>some false
 |.int _=>some false
 |.bool _=>some false
 |_=>none
noncomputable def oS (a:V):Option Bool:=((r6 a).map fun J=>false).or ((z5 a).map fun J=>false)
noncomputable def Lg (a:V) (o:O):Option Bool:=((ib o).bind fun f=>(r6 a).map fun k=>c3 (f k)).or <|((tj o).bind fun kvs=>(z5 a).map fun k=>c3 (En kvs k)).or <|
 ((nP o).bind fun J=>oS a).or <|(fF o).bind (rn a)
noncomputable def Iq (a b:V) (Y:Hp):Option Bool:=((r6 b).bind fun t=>(r6 a).bind fun s=>(y0 s).map fun c=>t.any (Nat.beq c)).or <|((L5 b).bind fun i=>(Y[i]?).bind (Lg a)).or <|
 ((N0 b).bind (rn a)).or <|((E2 b).bind (rn a)).or <|(ents b).bind fun kvs=>(r6 a).map fun k=>c3 (bc kvs k)
noncomputable def yE (f:Int->Int->Bool) (a b:V):Option Bool:=(z5 a).bind fun x=>(z5 b).map fun y=>f x y
noncomputable def rV (op:hV) (a b:V) (Y:Hp):Option Bool:=match op with
 |.eq=>zW a b
 |.ne=>(zW a b).map not
 |.is=>(F7 b).bind fun J=>isNone a
 |.M5=>((F7 b).bind fun J=>isNone a).map not
 |.ik=>Iq a b Y
 |.R7=>(Iq a b Y).map not
 |.lt=>yE (fun x y=>decide (x < y)) a b
 |.le=>yE (fun x y=>decide (x≤y)) a b
 |.gt=>yE (fun x y=>decide (x > y)) a b
 |.ge=>yE (fun x y=>decide (x≥y)) a b
noncomputable def rk (a b:V) (f:Int->Int->Option V):Option V:=(z5 a).bind fun x=>(z5 b).bind fun y=>f x y
noncomputable def vn (a b:V) (f:Nat->Nat->Option V):Option V:=rk a b fun x y=>(iW x).bind fun x=>(iW y).bind fun y=>f x y
noncomputable def Kz (a b:V):Option V:=(rk a b fun x y=>some (.int (x+y))).or <|((r6 a).bind fun x=>(r6 b).bind fun y=>gd (Nat.ble (x.length+y.length) 1000) (.str (x++y))).or <|
 ((N0 a).bind fun x=>(N0 b).bind fun y=>gd (Nat.ble (x.length+y.length) 1000&&(!x.isEmpty&&!y.isEmpty)) (.tup (x++y))).or <|(E2 a).bind fun x=>(E2 b).bind fun y=>gd (Nat.ble (x.length+y.length) 1000) (.g6 (x++y))
noncomputable def wW (op:Io) (a b:V):Option V:=match op with
 |.add=>Kz a b
 |.sub=>rk a b fun x y=>some (.int (x - y))
 |.mul=>vn a b fun x y=>gd (Nat.ble x 1000&&Nat.ble y 1000) (.int (Int.ofNat (x * y)))
 |.mod=>rk a b fun x y=>gd (decide (0 < y)&&decide (y < 1000000)) (.int (x % y))
 |.fdiv=>rk a b fun x y=>gd (decide (0 < y)&&decide (y < 1000000)) (.int (x / y))
 |.pow=>vn a b fun x y=>gd (Nat.ble y 64&&Nat.ble x 256) (.int (Int.ofNat (Nat.pow x y)))
 |.shl=>vn a b fun x y=>gd (Nat.ble y 64&&Nat.ble x 256) (.int (Int.ofNat (x * Nat.pow 2 y)))
 |.shr=>vn a b fun x y=>gd (Nat.ble y 64) (.int (Int.ofNat (x / Nat.pow 2 y)))
 |.band=>vn a b fun x y=>some (.int (Int.ofNat (Nat.land x y)))
noncomputable def Mf (n:Nat) (i:Int):Option Nat:=(iW i).bind fun k=>gd (Nat.blt k n&&Nat.ble k 1000) k
noncomputable def jj (xs:List V) (i:V):Option V:=(z5 i).bind fun k=>(Mf xs.length k).bind fun j=>xs[j]?
noncomputable def IK (i:V) (o:O):Option V:=((ib o).bind fun f=>(r6 i).bind f).or <|((tj o).bind fun kvs=>(z5 i).bind (En kvs)).or <|(fF o).bind fun xs=>jj xs i
noncomputable def uP (o i:V) (Y:Hp):Option V:=((L5 o).bind fun l=>(Y[l]?).bind (IK i)).or <|((N0 o).bind fun xs=>jj xs i).or <|((E2 o).bind fun xs=>jj xs i).or <|(ents o).bind fun kvs=>(r6 i).bind (bc kvs)
noncomputable def dT (o:V) (Y:Hp):Option (Nat×(Txt->Option V)):=(L5 o).bind fun i=>(Y[i]?).bind fun ob=>(sZ ob).bind fun q=>(Y[q.2]?).bind fun od=>(ib od).map fun f=>(q.2,f)
noncomputable def EY (o:V) (a:Nat) (P:Pg) (Y:Hp):Option V:=((jP o).bind fun q=>d6 q.2 a).or <|(dT o Y).bind fun q=>(P.names[a]?).bind q.2
noncomputable def LV (v:V):Option Nat:=((r6 v).map List.length).or <|((H9 v).map List.length).or <|((N0 v).map List.length).or <|(E2 v).map List.length
noncomputable def allB:List V->Option Bool
 | []=>some true
 |v::r=>(L6 v).bind fun b=>(allB r).map (b&& ·)
noncomputable def mN:List V->Option Int
 | []=>some 0
 |v::r=>(z5 v).bind fun i=>(mN r).map (i+ ·)
noncomputable def dF:List V->Option (List Nat)
 | []=>some []
 |v::r=>(z5 v).bind fun i=>(iW i).bind fun i=>(gd (Nat.blt i 256) i).bind fun i=>(dF r).map (i:: ·)
noncomputable def dE:List V->Option (List (Txt×V))
 | []=>some []
 |v::r=>(N0 v).bind fun p=>(two1 p).bind fun q=>(r6 q.1).bind fun k=>(dE r).map ((k,q.2):: ·)
noncomputable def qo:List V->Option (List Txt)
 | []=>some []
 |v::r=>(r6 v).bind fun s=>(qo r).map (s:: ·)
noncomputable def lH:List V->Option (List (List Nat))
 | []=>some []
 |v::r=>(H9 v).bind fun s=>(lH r).map (s:: ·)
noncomputable def gb (sep:Txt):List Txt->Txt
 | []=>[]
 |s::r=>match r with
  | []=>s
  |_=>s++sep++gb sep r
noncomputable def z7 (kvs:List (Txt×V)):List (Txt×V)->List (Txt×V)
 | []=>kvs
 |(k,v)::r=>z7 (BO kvs k v) r
noncomputable def Dj (ks:List Txt):Bool:=Nat.blt ks.length 64&&ks.all t6
noncomputable def Lj (ks:List Txt):Option V:=gd (Dj ks) (.g6 (ks.map .str))
noncomputable def small (n:Nat) (v:V):Option V:=gd (Nat.ble n 1000) v
noncomputable def N1 (xs:List V):Option (List V):=gd (Nat.ble xs.length 1000) xs
noncomputable def Ew (b:Bi) (v:V):Option Bool:=match b with
 |.int=>((z5 v).map fun J=>true).or <|((L6 v).map fun J=>true).or <|(r6 v).map fun J=>false
 |.bool=>((z5 v).map fun J=>false).or <|((L6 v).map fun J=>true).or <|(r6 v).map fun J=>false
 |_=>none
noncomputable def EW (v:V) (Y:Hp):Option V:=((L5 v).bind fun i=>(Y[i]?).bind fun o=>(fF o).bind fun xs=>small xs.length (.int (Int.ofNat xs.length))).or <|(LV v).bind fun n=>small n (.int (Int.ofNat n))
noncomputable def pC (P:Pg) (v:V) (Y:Hp):Option V:=((L5 v).bind fun i=>(Y[i]?).bind fun o=>((ib o).bind fun f=>Lj (m9 P.univ f)).or <|(nP o).map fun J=>.g6 []).or <|(ents v).bind fun kvs=>Lj (sR (kvs.map (·.1)))
noncomputable def DM (v:V):Option V:=((H9 v).map .bytes).or <|(E2 v).bind fun xs=>(N1 xs).bind fun xs=>(dF xs).map .bytes
noncomputable def HS (v:V):Option V:=(E2 v).bind fun xs=>(N1 xs).bind fun xs=>(dE xs).map fun ps=>.E1 (z7 [] ps)
noncomputable def I6 (P:Pg) (b:Bi) (args:List V) (Y:Hp):Option V:=match b with
 |.len=>(y0 args).bind fun v=>EW v Y
 |.isinstance=>(two1 args).bind fun q=>(AQ q.2).bind fun b=>(Ew b q.1).map .bool
 |.sorted=>(y0 args).bind fun v=>pC P v Y
 |.all=>(y0 args).bind fun v=>(E2 v).bind fun xs=>(allB xs).map .bool
 |.sum=>(y0 args).bind fun v=>(E2 v).bind fun xs=>(mN xs).map .int
 |.bytes=>(y0 args).bind DM
 |.dict=>(y0 args).bind HS
 |.int=>(y0 args).bind fun v=>(L6 v).map fun b=>.int (b2i b)
 |.bool=>none
noncomputable def Bl:List Nat->List V->Fr
 |x::xs,v::vs=>(x,v)::Bl xs vs
 |_,_=>[]
noncomputable def U7 (fd:Fd) (args:List V):Option Fr:=
 gd (Nat.ble args.length fd.params.length&&Nat.ble (fd.params.length - args.length) fd.dA.length) (Bl fd.params (args++fd.dA.drop (fd.dA.length - (fd.params.length - args.length))))
noncomputable def dictOf:List (V×V)->Option (List (Txt×V))
 | []=>some []
 |p::r=>(r6 p.1).bind fun k=>(freeze p.2).bind fun v=>(dictOf r).map ((k,v):: ·)
noncomputable def wg:V->Option (List V)
 |.tup xs=>some xs
 |.lst xs=>some xs
 |.g6 xs=>some xs
 |_=>none
noncomputable def FA (k:Nat) (v:V):Option (List V):=((r6 v).bind fun s=>gd (Nat.beq k 1&&t6 s) (s.map fun c=>.str [c])).or (wg v)
noncomputable def ua (b:List Nat):List V:=(b.zipIdx).map fun p=>.tup [.int (Int.ofNat p.2),.int (Int.ofNat p.1)]
noncomputable def gH (xs:List V):List V:=(xs.zipIdx).map fun p=>.tup [.int (Int.ofNat p.2),p.1]
noncomputable def BI (k:Nat) (v:V):Option (List V):=(gd (Nat.beq k 2) ()).bind fun J=>((H9 v).bind fun b=>gd (Nat.ble b.length 1000) (ua b)).or <|(EI v).bind fun xs=>gd (Nat.ble xs.length 1000) (gH xs)
noncomputable def K2 (a b c:Nat):List V:=(List.range ((b - a+(c - 1)) / c)).map fun(i:Nat)=>.int (Int.ofNat (a+i * c))
noncomputable def Gn:List V->Option (List Nat)
 | []=>some []
 |v::r=>(z5 v).bind fun i=>(iW i).bind fun i=>(Gn r).map (i:: ·)
noncomputable def rngL (l:List Nat):Option (List V):=((y0 l).bind fun b=>gd (Nat.ble b 1000) (K2 0 b 1)).or <|((two1 l).bind fun q=>gd (Nat.ble q.1 1000&&Nat.ble q.2 1000) (K2 q.1 q.2 1)).or <|(three1 l).bind fun q=>gd (Nat.ble q.1 1000&&Nat.ble q.2.1 1000&&Nat.beq q.2.2 8) (K2 q.1 q.2.1 q.2.2)
noncomputable def ya (k:Nat) (vs:List V):Option (List V):=(gd (Nat.beq k 1) ()).bind fun J=>(Gn vs).bind rngL
noncomputable def aI (src:mq) (k:Nat) (vs:List V):Option (List V):=match src with
 |.val=>(y0 vs).bind (FA k)
 |.enum=>(y0 vs).bind (BI k)
 |.range=>ya k vs
noncomputable def jL (xs:List Nat) (v:V) (m:Fr):Option Fr:=match xs with
 | [x]=>some (putN m x v)
 | [x,y]=>(N0 v).bind fun p=>(two1 p).map fun q=>putN (putN m x q.1) y q.2
 |_=>none
noncomputable def aY:Nat:=0
noncomputable def fN:Nat:=1
noncomputable def qX:Nat:=2
noncomputable def aW:Nat:=3
noncomputable def N3:Nat:=4
noncomputable def fM:Nat:=5
noncomputable def putAll (f:Txt->Option V):List (Txt×V)->Txt->Option V
 | []=>f
 |(k,v)::r=>putAll (t9 f k (some v)) r
noncomputable def tE (i:Nat) (xs args:List V) (Y:Hp):R V:=(b8 20 ((y0 args).bind freeze) Y).bind fun v Y=>.ok .none (Y.set i (.list (xs++[v])))
noncomputable def LS (i:Nat) (f:Txt->Option V) (args:List V) (Y:Hp):R V:=cV
 ((b8 23 ((y0 args).bind r6) Y).bind fun k Y=>(b8 23 (f k) Y).bind fun v Y=>.ok v (Y.set i (.map (t9 f k none))))
 ((b8 24 ((two1 args).bind fun q=>(F7 q.2).bind fun J=>r6 q.1) Y).bind fun k Y=>.ok ((f k).getD .none) (Y.set i (.map (t9 f k none))))
noncomputable def CE (NR:List Txt) (i:Nat) (f:Txt->Option V) (args:List V) (Y:Hp):R V:=(b8 25 ((y0 args).bind sq) Y).bind fun kvs Y=>bif Nat.ble kvs.length 1000&&kvs.all (fun p=>NR.any (r5 p.1))then .ok .none (Y.set i (.map (putAll f kvs)))else .no 25
noncomputable def Jp (NR:List Txt) (i:Nat) (f:Txt->Option V) (m:Nat) (args:List V) (Y:Hp):R V:=bif Nat.beq m fN then(b8 22 ((y0 args).bind r6) Y).bind fun k Y=>.ok ((f k).getD .none) Y
 else bif Nat.beq m qX then LS i f args Y else bif Nat.beq m aW then CE NR i f args Y else .no 26
noncomputable def Jq (m:Nat) (args:List V) (Y:Hp):R V:=bif Nat.beq m fN then(b8 27 ((y0 args).bind r6) Y).bind fun J Y=>.ok .none Y
 else bif Nat.beq m qX then(b8 28 ((two1 args).bind fun q=>(F7 q.2).bind fun J=>r6 q.1) Y).bind fun J Y=>.ok .none Y else .no 29
noncomputable def Em (i:Nat) (xs:List V) (m:Nat) (args:List V) (Y:Hp):R V:=bif Nat.beq m aY&&Nat.ble xs.length 1000 then tE i xs args Y else .no 21
noncomputable def Gx (s:Txt) (args:List V):Option V:=(y0 args).bind fun v=>(E2 v).bind fun xs=>(N1 xs).bind fun xs=>(qo xs).bind fun ts=>(gd (Nat.ble (ts.foldl (fun n t=>n+t.length+s.length) 0) 1000) ()).bind fun J=>small (gb s ts).length (.str (gb s ts))
noncomputable def Gz (args:List V):Option V:=(y0 args).bind fun v=>(E2 v).bind fun xs=>(N1 xs).bind fun xs=>(lH xs).bind fun ts=>small ts.flatten.length (.bytes ts.flatten)
noncomputable def Jr (kvs:List (Txt×V)) (args:List V):Option V:=((y0 args).bind fun k=>(r6 k).map fun k=>(bc kvs k).getD .none).or <|(two1 args).bind fun q=>(r6 q.1).map fun k=>(bc kvs k).getD q.2
noncomputable def rg (xs:List V) (args:List V):Option V:=(y0 args).bind fun v=>(EA v xs).map fun k=>.int (Int.ofNat k)
noncomputable def nY (NR:List Txt) (o:V) (m:Nat) (args:List V) (Y:Hp):R V:=
 cV ((b8 30 (L5 o) Y).bind fun i Y=>(b8 30 (Y[i]?) Y).bind fun ob Y=>cV ((b8 21 (fF ob) Y).bind fun xs Y=>Em i xs m args Y) <| cV ((b8 21 (ib ob) Y).bind fun f Y=>Jp NR i f m args Y) ((b8 21 (nP ob) Y).bind fun J Y=>Jq m args Y)) <|
 cV ((b8 33 (r6 o) Y).bind fun s Y=>bif Nat.beq m fM&&Nat.ble s.length 1000 then b8 31 (Gx s args) Y else .no 33) <|
 cV ((b8 36 (H9 o) Y).bind fun s Y=>bif Nat.beq m fM&&s.isEmpty then b8 34 (Gz args) Y else .no 36) <|
 cV ((b8 39 (N0 o) Y).bind fun xs Y=>bif Nat.beq m N3&&Nat.ble xs.length 1000 then b8 37 (rg xs args) Y else .no 39) <|
 cV ((b8 39 (E2 o) Y).bind fun xs Y=>bif Nat.beq m N3&&Nat.ble xs.length 1000 then b8 37 (rg xs args) Y else .no 39) <|
 (b8 42 (ents o) Y).bind fun kvs Y=>bif Nat.beq m fN then b8 40 (Jr kvs args) Y else .no 41
noncomputable def Kn (m:Nat) (o:O):Option Unit:=((fF o).bind fun J=>gd (Nat.beq m aY) ()).or <|((ib o).bind fun J=>gd (Nat.beq m fN || Nat.beq m qX || Nat.beq m aW) ()).or <|(nP o).bind fun J=>gd (Nat.beq m fN || Nat.beq m qX) ()
noncomputable def DF (o:V) (m:Nat) (Y:Hp):Option Unit:=((L5 o).bind fun i=>(Y[i]?).bind (Kn m)).or <|((r6 o).bind fun J=>gd (Nat.beq m fM) ()).or <|((H9 o).bind fun J=>gd (Nat.beq m fM) ()).or <|
 ((N0 o).bind fun J=>gd (Nat.beq m N3) ()).or <|((E2 o).bind fun J=>gd (Nat.beq m N3) ()).or <|(ents o).bind fun J=>gd (Nat.beq m fN) ()
noncomputable def gO (o:V) (Y:Hp):Option Nat:=((jP o).map (·.1)).or <|(L5 o).bind fun i=>(Y[i]?).bind fun ob=>(sZ ob).map (·.1)
noncomputable def kB {α:Type} (o:Option α):Option Unit:=match o with
 |none=>some ()
 |some _=>none
noncomputable def pD (P:Pg) (o:V) (m:Nat) (Y:Hp):Option Unit:=((jP o).bind fun q=>kB (d6 q.2 m)).or <|(dT o Y).bind fun q=>(P.names[m]?).bind fun k=>kB (q.2 k)
noncomputable def jV (P:Pg) (l:Nat) (f:Txt->Option V) (k:Txt) (v:V) (Y:Hp):R Unit:=bif P.univ.any (r5 k)then .ok () (Y.set l (.map (t9 f k (some v))))else .no 50
noncomputable def IQ (P:Pg) (l:Nat) (i v:V) (ob:O) (Y:Hp):R Unit:=cV ((b8 51 (ib ob) Y).bind fun f Y=>(b8 51 (r6 i) Y).bind fun k Y=>jV P l f k v Y) <|
 cV ((b8 52 (tj ob) Y).bind fun kvs Y=>(b8 52 (z5 i) Y).bind fun k Y=>bif Nat.ble kvs.length 1000 then .ok () (Y.set l (.dy (FI kvs k v)))else .no 51) <|
 (b8 53 (nP ob) Y).bind fun J Y=>cV ((b8 53 (r6 i) Y).bind fun k Y=>jV P l (fun J=>none) k v Y) ((b8 54 (z5 i) Y).bind fun k Y=>.ok () (Y.set l (.dy [(k,v)])))
noncomputable def S7 (P:Pg) (o i v:V) (Y:Hp):R Unit:=(b8 56 (L5 o) Y).bind fun l Y=>(b8 55 (Y[l]?) Y).bind fun ob Y=>IQ P l i v ob Y
noncomputable def fj (P:Pg) (o:V) (a:Nat) (v:V) (Y:Hp):R Unit:=(b8 61 (dT o Y) Y).bind fun q Y=>(b8 60 (P.names[a]?) Y).bind fun k Y=>jV P q.1 q.2 k v Y
noncomputable def G7 (r:Ev) (m:Fr):List X->Hp->R (List V)
 | [],Y=>.ok [] Y
 |e::es,Y=>(r.ev m e Y).bind fun v Y=>(b8 70 (freeze v) Y).bind fun v Y=>(G7 r m es Y).bind fun vs Y=>.ok (v::vs) Y
noncomputable def m7 (r:Ev) (m:Fr):List X->Hp->R (List V)
 | [],Y=>.ok [] Y
 |e::es,Y=>(r.ev m e Y).bind fun v Y=>(m7 r m es Y).bind fun vs Y=>.ok (v::vs) Y
noncomputable def lk (r:Ev) (m:Fr):Option X->Hp->R (Option Int)
 |none,Y=>.ok none Y
 |some e,Y=>(r.ev m e Y).bind fun v Y=>(b8 95 (z5 v) Y).bind fun i Y=>.ok (some i) Y
noncomputable def br (r:Ev) (m:Fr):List (X×X)->Hp->R (List (V×V))
 | [],Y=>.ok [] Y
 |p::es,Y=>(r.ev m p.1 Y).z6.bind fun kv Y=>(r.ev m p.2 Y).z6.bind fun v Y=>(br r m es Y).bind fun vs Y=>.ok ((kv,v)::vs) Y
noncomputable def Dp (r:Ev) (m:Fr) (b:Bool):X->List X->Hp->R V
 |e,[],Y=>r.ev m e Y
 |e,e2::es,Y=>(r.ev m e Y).bind fun v Y=>(b8 72 (eX v) Y).bind fun t Y=>bif t == b then Dp r m b e2 es Y else .ok v Y
noncomputable def rP (r:Ev) (m:Fr) (b:Bool) (es:List X) (Y:Hp):R V:=match es with
 | []=>.no 71
 |e::es=>Dp r m b e es Y
noncomputable def bQ (r:Ev) (m:Fr) (b:Bool):List X->Hp->R Bool
 | [],Y=>.ok b Y
 |e::es,Y=>(r.tr m e Y).bind fun t Y=>bif t == b then bQ r m b es Y else .ok t Y
noncomputable def wH (r:Ev) (m:Fr) (a:V):hV->X->List (hV×X)->Hp->R Bool
 |op,e,[],Y=>(r.ev m e Y).bind fun b Y=>(b8 74 (rV op a b Y) Y).bind fun t Y=>.ok t Y
 |op,e,p::rest,Y=>(r.ev m e Y).bind fun b Y=>(b8 74 (rV op a b Y) Y).bind fun t Y=>bif t then wH r m b p.1 p.2 rest Y else .ok false Y
noncomputable def Z0 (r:Ev) (m:Fr) (a:V) (rs:List (hV×X)) (Y:Hp):R Bool:=match rs with
 | []=>.no 73
 |p::rest=>wH r m a p.1 p.2 rest Y
noncomputable def Kk (r:Ev) (m:Fr) (cond:Option X) (Y:Hp):R Bool:=match cond with
 |none=>.ok true Y
 |some c=>(r.tr m c Y).z6
noncomputable def jI (r:Ev) (m:Fr) (elt:X) (xs:List Nat) (cond:Option X) (v:V) (Y:Hp):R (List V):=(b8 75 (jL xs v m) Y).bind fun m Y=>(Kk r m cond Y).bind fun b Y=>
 bif b then(r.ev m elt Y).z6.bind fun y Y=>(b8 76 (freeze y) Y).bind fun y Y=>.ok [y] Y else .ok [] Y
noncomputable def bA (r:Ev) (m:Fr) (elt:X) (xs:List Nat) (cond:Option X):List V->Hp->R (List V)
 | [],Y=>.ok [] Y
 |v::vs,Y=>(jI r m elt xs cond v Y).bind fun y Y=>(bA r m elt xs cond vs Y).bind fun ys Y=>.ok (y++ys) Y
noncomputable def listAt (Y:Hp) (l:Nat):Option (List V):=(Y[l]?).bind fF
noncomputable def jJ (r:Ev) (m:Fr) (elt:X) (xs:List Nat) (cond:Option X) (l:Nat):Nat->Nat->Hp->R (List V)
 |0,_,_=>.no 77
 |k+1,j,Y=>(b8 78 (listAt Y l) Y).bind fun us Y=>nM us[j]? (fun v=>(jI r m elt xs cond v Y).bind fun y Y=>(jJ r m elt xs cond l k (j+1) Y).bind fun ys Y=>.ok (y++ys) Y) (.ok [] Y)
noncomputable def fW (src:mq) (vs:List V):Option Nat:=match src with
 |.val=>(y0 vs).bind L5
 |_=>none
noncomputable def pa (r:Ev) (m:Fr) (elt:X) (xs:List Nat) (cond:Option X) (src:mq) (vs:List V) (Y:Hp):R (List V):=nM (fW src vs) (fun l=>bif Nat.beq xs.length 1 then jJ r (C6 m) elt xs cond l 64 0 Y else .no 102) <|
 (b8 101 (aI src xs.length vs) Y).bind fun items Y=>bif Nat.ble items.length 1000 then bA r (C6 m) elt xs cond items Y else .no 103
noncomputable def It:Fl->V
 |.ret v=>v
 |.next=>.none
noncomputable def ET (P:Pg) (r:Ev) (k:Nat) (args:List V) (Y:Hp):R V:=(b8 80 (P.fns[k]?) Y).bind fun fd Y=>(b8 81 (U7 fd args) Y).bind fun m Y=>(r.Y9 m fd.body Y).bind fun p Y=>.ok (It p.1) Y
noncomputable def putL (at_:Fr):List Nat->List V->Fr
 |a::as,v::vs=>putL (putN at_ a v) as vs
 |_,_=>at_
noncomputable def gL (r:Ev) (m:Fr):List (List Nat×Bool×X)->Fr->Hp->R Fr
 | [],at_,Y=>.ok at_ Y
 |p::rest,at_,Y=>(r.ev m p.2.2 Y).bind fun v Y=>
  bif p.2.1 then(b8 87 (wg v) Y).bind fun vs Y=>bif Nat.beq vs.length p.1.length&&Nat.ble (at_.length+p.1.length) 1000 then gL r m rest (putL at_ p.1 vs) Y else .no 87
  else(b8 87 (freeze v) Y).bind fun v Y=>(b8 87 (y0 p.1) Y).bind fun a Y=>bif Nat.ble at_.length 1000 then gL r m rest (putN at_ a v) Y else .no 87
noncomputable def jE (P:Pg) (r:Ev) (c:Nat) (args:List V) (Y:Hp):R V:=(b8 82 (P.pe[c]?) Y).bind fun cd Y=>(b8 83 cd.init Y).bind fun k Y=>
 bif cd.keeps then(r.run k (.loc (Y.length+1)::args) (Y++[.map (fun J=>none),.inst c Y.length])).z6.bind fun v c7=>(b8 85 (F7 v) c7).bind fun J c7=>.ok (.loc (Y.length+1)) c7
 else(b8 84 (P.fns[k]?) Y).bind fun fd Y=>(b8 86 (U7 ⟨fd.params.tail,fd.dA,[]⟩ args) Y).bind fun m Y=>(gL r m cd.body [] Y).z6.bind fun at_ Y=>.ok (.obj c at_) Y
noncomputable def Y4:V->Option V
 |.ct ..=>none
 |v=>some (HM v)
noncomputable def Au (P:Pg) (r:Ev) (m:Fr) (args:List X) (fv:V) (Y:Hp):R V:=cV ((b8 88 (AQ fv) Y).bind fun b Y=>(m7 r m args Y).bind fun vs Y=>b8 88 (I6 P b vs Y) Y) <|
 cV ((b8 89 (DQ fv) Y).bind fun k Y=>(G7 r m args Y).bind fun vs Y=>r.run k vs Y) ((b8 89 (AO fv) Y).bind fun c Y=>(G7 r m args Y).bind fun vs Y=>jE P r c vs Y)
noncomputable def ag (P:Pg) (c n:Nat):Option Nat:=(P.pe[c]?).bind fun cd=>(d6 (cd.meths.map fun p=>(p.1,V.fn p.2)) n).bind DQ
noncomputable def Jl (P:Pg) (r:Ev) (m:Fr) (args:List X) (n:Nat) (ov:V) (Y:Hp):R V:=nM (gO ov Y) (fun c=>(b8 93 (ag P c n) Y).bind fun k Y=>(b8 92 (pD P ov n Y) Y).bind fun J Y=>(G7 r m args Y).bind fun vs Y=>r.run k (ov::vs) Y) <|
 (b8 91 (DF ov n Y) Y).bind fun J Y=>(m7 r m args Y).bind fun vs Y=>nY P.univ ov n vs Y
noncomputable def fg (o:V) (l h:Option Int):Option V:=((r6 o).bind fun s=>gd (Nat.ble s.length 1000) (.str (cut l h s))).or <|((H9 o).bind fun s=>gd (Nat.ble s.length 1000) (.bytes (cut l h s))).or <|(E2 o).bind fun xs=>gd (Nat.ble xs.length 1000) (.g6 (cut l h xs))
noncomputable def cz:R V->R V
 |.ok v Y=>(b8 102 (freeze v) Y).bind fun v Y=>.ok (.tup [.str [],v]) Y
 |.exc t Y=>.ok (.tup [.str t,.none]) Y
 |.no w=>.no w
noncomputable def s7 (P:Pg) (r:Ev) (m:Fr) (e:X) (Y:Hp):R V:=match e with
 |.lit v=>.ok v Y
 |.NT x=>nM (d6 m x) (fun v=>b8 89 (Y4 v) Y) (b8 90 (d6 P.glob x) Y)
 |.bin op l q=>(r.ev m l Y).bind fun a Y=>(r.ev m q Y).bind fun b Y=>b8 91 (wW op a b) Y
 |.not e=>(r.ev m e Y).bind fun v Y=>(b8 87 (eX v) Y).bind fun b Y=>.ok (.bool (!b)) Y
 |.neg e=>(r.ev m e Y).bind fun a Y=>(b8 92 (z5 a) Y).bind fun i Y=>.ok (.int (-i)) Y
 |.R5 es=>rP r m true es Y
 |.mw es=>rP r m false es Y
 |.cmp l rs=>(r.ev m l Y).bind fun a Y=>(Z0 r m a rs Y).bind fun b Y=>.ok (.bool b) Y
 |.ite t b e=>(r.tr m t Y).bind fun c Y=>bif c then r.ev m b Y else r.ev m e Y
 |.call f args=>(r.ev m f Y).bind fun fv Y=>Au P r m args fv Y
 |.l5 o n args=>(r.ev m o Y).bind fun ov Y=>Jl P r m args n ov Y
 |.attr o a=>(r.ev m o Y).bind fun ov Y=>b8 94 (EY ov a P Y) Y
 |.sub o i=>(r.ev m o Y).bind fun ov Y=>(r.ev m i Y).bind fun iv Y=>b8 95 (uP ov iv Y) Y
 |.slice o lo hi=>(r.ev m o Y).bind fun ov Y=>(lk r m lo Y).bind fun l Y=>(lk r m hi Y).bind fun h Y=>b8 96 (fg ov l h) Y
 |.list es=>(G7 r m es Y).bind fun vs Y=>(b8 97 (N1 vs) Y).bind fun vs Y=>.ok (.g6 vs) Y
 |.tuple es=>(G7 r m es Y).bind fun vs Y=>(b8 97 (N1 vs) Y).bind fun vs Y=>.ok (.tup vs) Y
 |.dict kvs=>(br r m kvs Y).bind fun ps Y=>(b8 99 (dictOf ps) Y).bind fun ds Y=>.ok (.E1 (z7 [] ds)) Y
 |.Y5 es=>(G7 r m es Y).bind fun vs Y=>(b8 97 (N1 vs) Y).bind fun vs Y=>.ok (.loc Y.length) (Y++[.list vs])
 |.K4 kvs=>match kvs with
  | []=>.ok (.loc Y.length) (Y++[.emp])
  |_::_=>(br r m kvs Y).bind fun ps Y=>(b8 100 (dictOf ps) Y).bind fun ds Y=>(b8 99 (gd (ds.all fun p=>P.univ.any (r5 p.1)) ()) Y).bind fun J Y=>.ok (.loc Y.length) (Y++[.map (bc (z7 [] ds))])
 |.comp p elt xs src it cond=>(m7 r m it Y).z6.bind fun vs Y=>(pa r m elt xs cond src vs Y).bind fun ys Y=>
  bif p then .ok (.loc Y.length) (Y++[.list ys])else .ok (.g6 ys) Y
 |.A2 body=>cz (r.ev (C6 m) body Y)
 |.l4 o=>(r.ev m o Y).bind fun ov Y=>(b8 104 (L5 ov) Y).bind fun i Y=>(b8 103 (Y[i]?) Y).bind fun ob Y=>cV
  ((b8 103 (ib ob) Y).bind fun f Y=>(b8 103 (gd (Nat.blt (m9 P.univ f).length 8&&(m9 P.univ f).all t6) ()) Y).bind fun J Y=>.ok (.g6 ((m9 P.univ f).map fun k=>.tup [.str k,(f k).getD .none])) Y)
  ((b8 103 (nP ob) Y).bind fun J Y=>.ok (.g6 []) Y)
noncomputable def xM (r:Ev) (m:Fr) (e:X) (Y:Hp):R Bool:=match e with
 |.not e=>(r.tr m e Y).bind fun b Y=>.ok (!b) Y
 |.R5 es=>bQ r m true es Y
 |.mw es=>bQ r m false es Y
 |.ite t b e=>(r.tr m t Y).bind fun c Y=>bif c then r.tr m b Y else r.tr m e Y
 |.cmp l rs=>(r.ev m l Y).bind fun a Y=>Z0 r m a rs Y
 |e=>(r.ev m e Y).bind fun v Y=>b8 110 (eX v) Y
noncomputable def tw:V->Option V
 |.g6 xs=>some (.g6 xs)
 |.E1 kvs=>some (.E1 kvs)
 |_=>none
noncomputable def Fy (P:Pg) (x a:Nat) (v:V) (m:Fr) (Y:Hp):R Fr:=(b8 123 (d6 m x) Y).bind fun o Y=>cV ((b8 122 (DP o) Y).bind fun q Y=>bif Nat.ble q.2.length 1000 then .ok (putN m x (.ct q.1 (putN q.2 a v))) Y else .no 122) ((fj P o a v Y).bind fun J Y=>.ok m Y)
noncomputable def Ee (xs:List V) (i v:V):Option V:=(z5 i).bind fun k=>(Mf xs.length k).map fun j=>.g6 (xs.set j v)
noncomputable def Ef (kvs:List (Txt×V)) (i v:V):Option V:=(r6 i).bind fun k=>gd (Nat.ble kvs.length 1000) (.E1 (BO kvs k v))
noncomputable def store (P:Pg) (r:Ev) (t:T) (v:V) (m:Fr) (Y:Hp):R Fr:=match t with
 |.NT x=>(b8 120 (freeze v) Y).bind fun v Y=>.ok (putN m x v) Y
 |.B3 x=>(b8 121 (tw v) Y).bind fun v Y=>.ok (putN m x v) Y
 |.attr o a=>(b8 124 (HX o) Y).bind fun x Y=>(b8 122 (freeze v) Y).bind fun v Y=>Fy P x a v m Y
 |.item o i=>(b8 125 (freeze v) Y).bind fun v Y=>(r.ev m o Y).bind fun ov Y=>(r.ev m i Y).bind fun iv Y=>(S7 P ov iv v Y).bind fun J Y=>.ok m Y
 |.Y6 x i=>(b8 125 (freeze v) Y).bind fun v Y=>(b8 127 (d6 m x) Y).bind fun o Y=>(r.ev m i Y).bind fun iv Y=>
  (b8 126 (((sq o).bind fun kvs=>Ef kvs iv v).or <|(xb o).bind fun xs=>Ee xs iv v) Y).bind fun u Y=>.ok (putN m x u) Y
noncomputable def storeAll (P:Pg) (r:Ev):List T->List V->Fr->Hp->R Fr
 | [],[],m,Y=>.ok m Y
 |t::ts,v::vs,m,Y=>(store P r t v m Y).bind fun m Y=>storeAll P r ts vs m Y
 |_,_,_,_=>.no 128
noncomputable def gN (p:Fl×Fr) (k:Fr->Hp->R (Fl×Fr)) (Y:Hp):R (Fl×Fr):=match p.1 with
 |.ret v=>.ok (.ret v,p.2) Y
 |.next=>k p.2 Y
noncomputable def Q4 (r:Ev) (xs:List Nat) (b:List S):List V->Fr->Hp->R (Fl×Fr)
 | [],m,Y=>.ok (.next,m) Y
 |v::vs,m,Y=>(b8 130 (jL xs v m) Y).bind fun m Y=>(r.Y9 m b Y).z6.bind fun p Y=>gN p (Q4 r xs b vs) Y
noncomputable def Dg (r:Ev) (xs:List Nat) (b:List S) (l:Nat):Nat->Nat->Fr->Hp->R (Fl×Fr)
 |0,_,_,_=>.no 132
 |k+1,j,m,Y=>(b8 133 (listAt Y l) Y).bind fun us Y=>nM us[j]? (fun v=>(b8 130 (jL xs v m) Y).bind fun m Y=>(r.Y9 m b Y).z6.bind fun p Y=>gN p (Dg r xs b l k (j+1)) Y) (.ok (.next,m) Y)
noncomputable def G4 (r:Ev) (t:X) (b:List S):Nat->Fr->Hp->R (Fl×Fr)
 |0,_,_=>.no 131
 |n+1,m,Y=>(r.tr m t Y).z6.bind fun c Y=>bif c then(r.Y9 m b Y).z6.bind fun p Y=>gN p (G4 r t b n) Y else .ok (.next,m) Y
noncomputable def oD:V->Bool
 |.snap _=>false
 |.Z9 _=>false
 |.E1 _=>false
 |.ct _ _=>false
 |_=>true
noncomputable def Hg (ts:List T) (vs:List V):Bool:=vs.all oD&&(Nat.beq vs.length ts.length&&Nat.ble vs.length 1000)
noncomputable def ownOf (e:X) (m:Fr):Option V:=(HX e).bind fun x=>(d6 m x).bind tw
noncomputable def LK (r:Ev) (e:X) (m:Fr) (Y:Hp):R (Fl×Fr):=nM (ownOf e m) (fun v=>.ok (.ret v,m) Y) <|(r.ev m e Y).bind fun v Y=>bif dw v then .no 149 else .ok (.ret v,m) Y
noncomputable def Ec (r:Ev) (x:Nat) (e:X) (m:Fr) (f:List V->V->List V) (Y:Hp):R (Fl×Fr):=(b8 145 ((d6 m x).bind xb) Y).bind fun xs Y=>(r.ev m e Y).bind fun v Y=>(b8 145 (freeze v) Y).bind fun v Y=>
 bif Nat.ble xs.length 1000 then .ok (.next,putN m x (.g6 (f xs v))) Y else .no 145
noncomputable def g8 (P:Pg) (r:Ev) (m:Fr) (s:S) (Y:Hp):R (Fl×Fr):=match s with
 |.assign t e=>(r.ev m e Y).bind fun v Y=>(store P r t v m Y).bind fun m Y=>.ok (.next,m) Y
 |.M9 ts es=>(m7 r m es Y).bind fun vs Y=>(b8 138 (gd (Hg ts vs) ()) Y).bind fun J Y=>(storeAll P r ts vs m Y).bind fun m Y=>.ok (.next,m) Y
 |.F6 ts es=>(m7 r m es Y).bind fun vs Y=>(b8 138 (gd (Hg ts vs) ()) Y).bind fun J Y=>(storeAll P r ts.reverse vs.reverse m Y).bind fun m Y=>.ok (.next,m) Y
 |.H4 ts e=>(r.ev m e Y).bind fun v Y=>(b8 141 (wg v) Y).bind fun vs Y=>(b8 140 (gd (Nat.beq vs.length ts.length) ()) Y).bind fun J Y=>(storeAll P r ts vs m Y).bind fun m Y=>.ok (.next,m) Y
 |.expr e=>(r.ev m e Y).bind fun J Y=>.ok (.next,m) Y
 |.ite t b e=>(r.tr m t Y).bind fun c Y=>bif c then r.Y9 m b Y else r.Y9 m e Y
 |.y6 t b=>G4 r t b 20 m Y
 |.F1 xs src it b=>(m7 r m it Y).z6.bind fun vs Y=>nM (fW src vs) (fun l=>bif Nat.beq xs.length 1 then Dg r xs b l 64 0 m Y else .no 139) <|(b8 142 (aI src xs.length vs) Y).bind fun items Y=>Q4 r xs b items m Y
 |.ret e=>LK r e m Y
 |.raise e=>(r.ev m e Y).bind fun v Y=>(b8 143 (r6 v) Y).bind fun t Y=>.exc t Y
 |.o8=>.no 144
 |.F0 x e=>Ec r x e m (fun xs v=>xs++[v]) Y
 |.K5 x e=>Ec r x e m (fun xs v=>v::xs) Y
 |.fO y x=>(b8 147 ((d6 m x).bind fun o=>(xb o).bind Lc) Y).bind fun q Y=>bif Nat.ble q.2.length 1000 then .ok (.next,putN (putN m x (.g6 q.2)) y q.1) Y else .no 147
 |.J1 x e=>(b8 148 ((d6 m x).bind sq) Y).bind fun old Y=>(r.ev m e Y).bind fun v Y=>(b8 148 (freeze v) Y).bind fun u Y=>(b8 148 (ents u) Y).bind fun kvs Y=>
  bif Nat.ble (old.length+kvs.length) 1000 then .ok (.next,putN m x (.E1 (z7 old kvs))) Y else .no 148
 |.pass=>.ok (.next,m) Y
noncomputable def a8 (P:Pg) (r:Ev):Fr->List S->Hp->R (Fl×Fr)
 |m,[],Y=>.ok (.next,m) Y
 |m,s::ss,Y=>(g8 P r m s Y).bind fun p Y=>gN p (fun m Y=>a8 P r m ss Y) Y
noncomputable def LB:Ev:=⟨fun J J J=>.no 0,fun J J J=>.no 0,fun J J J=>.no 0,fun J J J=>.no 0⟩
noncomputable def Fz (P:Pg) (r:Ev):Ev:=⟨s7 P r,xM r,a8 P r,ET P r⟩
noncomputable def b9 (P:Pg):Nat->Ev
 |0=>LB
 |n+1=>Fz P (b9 P n)
end Mine
end
section
namespace Mine
noncomputable def gE:Fd:=⟨[6],[],
 [.assign (.attr (.NT 6) 7) (.lit (V.int 0)),
  .assign (.attr (.NT 6) 8) (.K4 []),
  .assign (.attr (.NT 6) 9) (.K4 []),
  .expr (.l5 (.NT 6) 10 [])]⟩
noncomputable def aq:Fd:=⟨[6,11],[],
 [.assign (.attr (.NT 6) 7) (.bin .add (.attr (.NT 6) 7) (.lit (V.int 1))),
  .assign (.item (.attr (.NT 6) 8) (.attr (.NT 6) 7)) (.call (.NT 12) [(.NT 11)]),
  .ret (.attr (.NT 6) 7)]⟩
noncomputable def gD:Fd:=⟨[6,13],[],
 [.ite (.cmp (.NT 13) [(.R7,(.attr (.NT 6) 8))])
  [.o8]
  [],
  .ret (.sub (.attr (.NT 6) 8) (.NT 13))]⟩
noncomputable def bq:Fd:=⟨[6],[],
 [.assign (.attr (.NT 6) 7) (.bin .add (.attr (.NT 6) 7) (.lit (V.int 1))),
  .assign (.item (.attr (.NT 6) 9) (.attr (.NT 6) 7)) (.K4 []),
  .ret (.attr (.NT 6) 7)]⟩
noncomputable def gC:Fd:=⟨[6,13],[],
 [.ite (.cmp (.NT 13) [(.R7,(.attr (.NT 6) 9))])
  [.o8]
  [],
  .ret (.sub (.attr (.NT 6) 9) (.NT 13))]⟩
noncomputable def ix:Fd:=⟨[6,13,14],[],
 [.ret (.l5 (.l5 (.NT 6) 15 [(.NT 13)]) 1 [(.NT 14)])]⟩
noncomputable def o6:Fd:=⟨[6,13,14,16],[],
 [.ite (.not (.cmp (.lit (V.int 0)) [(.le,(.NT 16)),(.lt,(.bin .pow (.lit (V.int 2)) (.lit (V.int 64))))]))
  [.o8]
  [],
  .assign (.item (.l5 (.NT 6) 15 [(.NT 13)]) (.NT 14)) (.NT 16)]⟩
noncomputable def gB:Fd:=⟨[6,13,14],[],
 [.assign (.NT 17) (.l5 (.NT 6) 15 [(.NT 13)]),
  .ite (.cmp (.NT 14) [(.R7,(.NT 17))])
   [.o8]
   [],
  .ret (.l5 (.NT 17) 2 [(.NT 14)])]⟩
noncomputable def R9:Fd:=⟨[6,13],[],
 [.ret (.call (.NT 18) [(.l5 (.NT 6) 15 [(.NT 13)])])]⟩
noncomputable def oM:Fd:=⟨[11],[],
 [.ret (.call (.NT 19) [(.comp false (.bin .shl (.NT 20) (.bin .mul (.lit (V.int 8)) (.NT 21))) [21,20] .enum [(.NT 11)] none)])]⟩
noncomputable def oK:Fd:=⟨[16,22],[],
 [.ite (.not (.cmp (.lit (V.int 0)) [(.le,(.NT 16)),(.lt,(.bin .pow (.lit (V.int 256)) (.NT 22)))]))
  [.o8]
  [],
  .ret (.call (.NT 12) [(.comp false (.bin .band (.bin .shr (.NT 16) (.bin .mul (.lit (V.int 8)) (.NT 21))) (.lit (V.int 255))) [21] .range [(.NT 22)] none)])]⟩
noncomputable def kY:Fd:=⟨[23],[],
 [.ret (.l5 (.lit (V.bytes [])) 5 [(.comp false (.call (.NT 24) [(.NT 16),(.NT 25)]) [16] .val [(.NT 23)] none)])]⟩
noncomputable def lg:Fd:=⟨[11],[],
 [.ite (.cmp (.bin .mod (.call (.NT 26) [(.NT 11)]) (.NT 25)) [(.ne,(.lit (V.int 0)))])
  [.o8]
  [],
  .ret (.comp false (.call (.NT 27) [(.slice (.NT 11) (some (.NT 28)) (some (.bin .add (.NT 28) (.NT 25))))]) [28] .range [(.lit (V.int 0)),(.call (.NT 26) [(.NT 11)]),(.NT 25)] none)]⟩
noncomputable def gF:Fd:=⟨[6,34],[],
 []⟩
noncomputable def iy:Fd:=⟨[6],[],
 [.assign (.NT 40) (.list [(.attr (.NT 6) 29),(.attr (.NT 6) 30),(.attr (.NT 6) 31),(.attr (.NT 6) 32),(.attr (.NT 6) 33)]),
  .ret (.bin .add (.NT 40) (.list [(.attr (.NT 6) 35),(.attr (.NT 6) 36),(.attr (.NT 6) 37),(.attr (.NT 6) 38),(.attr (.NT 6) 39)]))]⟩
noncomputable def rL:Fd:=⟨[41,21],[],
 [.ret (.call (.NT 42) [(.call (.NT 43) [(.l5 (.NT 41) 44 [(.NT 21)])])])]⟩
noncomputable def oG:Fd:=⟨[14],[],
 [.ite (.mw [(.not (.cmp (.lit (V.int 1)) [(.le,(.call (.NT 26) [(.NT 14)])),(.le,(.NT 45))])),(.not (.call (.NT 46) [(.comp false (.cmp (.NT 47) [(.ik,(.NT 48))]) [47] .val [(.NT 14)] none)]))])
  [.o8]
  [],
  .ite (.cmp (.NT 14) [(.ik,(.tuple [(.lit (V.str [46])),(.lit (V.str [46,46]))]))])
   [.o8]
   []]⟩
noncomputable def vW:Fd:=⟨[41,29,33],[],
 [.assign (.NT 34) (.list [(.NT 29),(.lit (V.int 0)),(.l5 (.NT 41) 10 []),(.l5 (.NT 41) 10 []),(.NT 33),(.lit (V.int 0)),(.lit (V.int 0)),(.lit (V.int 0)),(.lit (V.int 0)),(.lit (V.int 0))]),
  .ret (.l5 (.NT 41) 49 [(.call (.NT 50) [(.NT 34)])])]⟩
noncomputable def oN:Fd:=⟨[41],[],
 [.assign (.NT 21) (.call (.NT 51) [(.NT 41),(.lit (V.int 0)),(.lit (V.int 0))]),
  .expr (.l5 (.NT 41) 52 [(.NT 53),(.NT 54),(.NT 21)]),
  .ret (.NT 21)]⟩
noncomputable def rN:Fd:=⟨[41,21,14],[],
 [.ret (.l5 (.NT 41) 1 [(.attr (.call (.NT 55) [(.NT 41),(.NT 21)]) 31),(.NT 14)])]⟩
noncomputable def iw:Fd:=⟨[41,21],[],
 [.ret (.l5 (.NT 41) 56 [(.attr (.call (.NT 55) [(.NT 41),(.NT 21)]) 31)])]⟩
noncomputable def oH:Fd:=⟨[41,29,14],[],
 [.expr (.call (.NT 57) [(.NT 14)]),
  .ite (.cmp (.call (.NT 58) [(.NT 41),(.NT 29),(.NT 14)]) [(.M5,(.lit V.none))])
   [.o8]
   []]⟩
noncomputable def vZ:Fd:=⟨[41,29,14,33],[(V.int 0)],
 [.expr (.call (.NT 59) [(.NT 41),(.NT 29),(.NT 14)]),
  .assign (.NT 21) (.call (.NT 51) [(.NT 41),(.NT 29),(.NT 33)]),
  .expr (.l5 (.NT 41) 52 [(.attr (.call (.NT 55) [(.NT 41),(.NT 29)]) 31),(.NT 14),(.NT 21)]),
  .ret (.NT 21)]⟩
noncomputable def vY:Fd:=⟨[41,29,21],[],
 [.assign (.NT 31) (.attr (.call (.NT 55) [(.NT 41),(.NT 29)]) 31),
  .F1 [14] .val [(.l5 (.NT 41) 56 [(.NT 31)])]
   [.ite (.cmp (.l5 (.NT 41) 1 [(.NT 31),(.NT 14)]) [(.eq,(.NT 21))])
    [.ret (.NT 14)]
    []],
  .o8]⟩
noncomputable def vV:Fd:=⟨[41,21],[],
 [.F6 [(.B3 56),(.NT 29)] [(.list []),(.attr (.call (.NT 55) [(.NT 41),(.NT 21)]) 29)],
  .y6 (.cmp (.NT 29) [(.ne,(.lit (V.int 0)))])
   [.K5 56 (.call (.NT 60) [(.NT 41),(.NT 29),(.NT 21)]),
    .F6 [(.NT 21),(.NT 29)] [(.NT 29),(.attr (.call (.NT 55) [(.NT 41),(.NT 29)]) 29)]],
  .ret (.l5 (.lit (V.str [47])) 5 [(.NT 56)])]⟩
noncomputable def lj:Fd:=⟨[6,61,62,63,64],[(V.int 1),(V.int 0)],
 []⟩
noncomputable def dz:Fd:=⟨[6,65,66,67,68,69],[V.tup [],(V.int 0),(V.int 0),(V.bool false)],
 []⟩
noncomputable def Y2:Fd:=⟨[6,16],[],
 [.ite (.cmp (.attr (.NT 6) 66) [(.ne,(.tuple []))])
  [.ret (.cmp (.lit (V.int 0)) [(.le,(.NT 16)),(.lt,(.call (.NT 26) [(.attr (.NT 6) 66)]))])]
  [],
  .ret (.R5 [(.cmp (.attr (.NT 6) 67) [(.le,(.NT 16)),(.le,(.attr (.NT 6) 68))]),(.mw [(.not (.attr (.NT 6) 69)),(.cmp (.bin .band (.NT 16) (.bin .sub (.NT 16) (.lit (V.int 1)))) [(.eq,(.lit (V.int 0)))])])])]⟩
noncomputable def kZ:Fd:=⟨[],[],
 [.assign (.NT 70) (.tuple [(.lit (V.str [111,102,102])),(.lit (V.str [111,110]))]),
  .ret (.dict [((.lit (V.str [99,111,112,105,101,115])),(.call (.NT 71) [(.lit (V.int 1)),(.tuple []),(.lit (V.int 1)),(.lit (V.int 3))])),((.lit (V.str [100,101,100,117,112])),(.call (.NT 71) [(.lit (V.int 0)),(.NT 70)])),((.lit (V.str [112,97,99,107,101,100])),(.call (.NT 71) [(.NT 72),(.tuple [(.lit (V.str [111,102,102])),(.lit (V.str [122,108,101])),(.lit (V.str [108,122,106,98])),(.lit (V.str [108,122,52]))])])),((.lit (V.str [114,101,97,100,111,110,108,121])),(.call (.NT 71) [(.lit (V.int 0)),(.NT 70)])),((.lit (V.str [114,101,99,111,114,100])),(.call (.NT 71) [(.lit (V.int 32)),(.tuple []),(.lit (V.int 8)),(.lit (V.int 4096)),(.lit (V.bool true))])),((.lit (V.str [115,110,97,112,100,105,114])),(.call (.NT 71) [(.lit (V.int 0)),(.tuple [(.lit (V.str [104,105,100,100,101,110])),(.lit (V.str [118,105,115,105,98,108,101]))])])),((.lit (V.str [115,117,109,109,101,100])),(.call (.NT 71) [(.NT 73),(.tuple [(.lit (V.str [111,102,102])),(.lit (V.str [102,108,101,116,99,104,101,114,50])),(.lit (V.str [102,108,101,116,99,104,101,114,52])),(.lit (V.str [109,105,120]))])])),((.lit (V.str [115,121,110,99])),(.call (.NT 71) [(.lit (V.int 0)),(.tuple [(.lit (V.str [115,116,97,110,100,97,114,100])),(.lit (V.str [97,108,119,97,121,115])),(.lit (V.str [100,105,115,97,98,108,101,100]))])]))])]⟩
noncomputable def gA:Fd:=⟨[14],[],
 [.ite (.mw [(.not (.cmp (.lit (V.int 3)) [(.le,(.call (.NT 26) [(.NT 14)])),(.le,(.NT 74))])),(.not (.call (.NT 46) [(.comp false (.cmp (.NT 47) [(.ik,(.NT 75))]) [47] .val [(.NT 14)] none)]))])
  [.ret (.lit (V.bool false))]
  [],
  .ret (.cmp (.NT 76) [(.ik,(.slice (.NT 14) (some (.lit (V.int 1))) (some (.bin .sub (.call (.NT 26) [(.NT 14)]) (.lit (V.int 1))))))])]⟩
noncomputable def rM:Fd:=⟨[14],[],
 [.assign (.NT 77) (.call (.NT 78) []),
  .ite (.cmp (.NT 14) [(.ik,(.NT 77))])
   [.ret (.sub (.NT 77) (.NT 14))]
   [],
  .ite (.call (.NT 79) [(.NT 14)])
   [.ret (.call (.NT 71) [(.lit V.none),(.tuple []),(.lit (V.int 0)),(.NT 80)])]
   [],
  .raise (.bin .add (.lit (V.str [110,111,32,115,117,99,104,32,112,114,111,112,101,114,116,121,58,32])) (.NT 14))]⟩
noncomputable def lh:Fd:=⟨[14,81],[],
 [.assign (.NT 82) (.call (.NT 83) [(.NT 14)]),
  .ite (.cmp (.attr (.NT 82) 66) [(.ne,(.tuple []))])
   [.ite (.cmp (.NT 81) [(.R7,(.attr (.NT 82) 66))])
    [.raise (.bin .add (.lit (V.str [110,111,32,118,97,108,117,101,32,111,102,32])) (.NT 14))]
    [],
    .ret (.l5 (.attr (.NT 82) 66) 4 [(.NT 81)])]
   [],
  .ite (.mw [(.not (.call (.NT 84) [(.NT 81),(.NT 85)])),(.call (.NT 84) [(.NT 81),(.NT 86)]),(.not (.l5 (.NT 82) 87 [(.NT 81)]))])
   [.raise (.bin .add (.lit (V.str [110,111,32,118,97,108,117,101,32,111,102,32])) (.NT 14))]
   [],
  .ret (.NT 81)]⟩
noncomputable def oJ:Fd:=⟨[14,16],[],
 [.assign (.NT 82) (.call (.NT 83) [(.NT 14)]),
  .ite (.cmp (.NT 16) [(.is,(.lit V.none))])
   [.ret (.lit V.none)]
   [],
  .ite (.not (.l5 (.NT 82) 87 [(.NT 16)]))
   [.o8]
   [],
  .ret (.ite (.cmp (.attr (.NT 82) 66) [(.ne,(.tuple []))]) (.sub (.attr (.NT 82) 66) (.NT 16)) (.NT 16))]⟩
noncomputable def zS:Fd:=⟨[41,32,14],[],
 [.ite (.cmp (.l5 (.NT 41) 1 [(.NT 32),(.NT 14)]) [(.is,(.lit V.none))])
  [.ret (.lit (V.bool false))]
  [],
  .expr (.l5 (.NT 41) 88 [(.NT 32),(.NT 14)]),
  .ret (.lit (V.bool true))]⟩
noncomputable def K9:Fd:=⟨[41,21,14,81],[],
 [.assign (.NT 16) (.call (.NT 89) [(.NT 14),(.NT 81)]),
  .assign (.NT 32) (.attr (.call (.NT 55) [(.NT 41),(.NT 21)]) 32),
  .expr (.l5 (.NT 41) 52 [(.NT 32),(.NT 14),(.NT 16)]),
  .expr (.call (.NT 90) [(.NT 41),(.NT 32),(.bin .add (.NT 14) (.NT 91))])]⟩
noncomputable def G6:Fd:=⟨[41,21,14,92],[(V.bool false)],
 [.expr (.call (.NT 83) [(.NT 14)]),
  .assign (.NT 32) (.attr (.call (.NT 55) [(.NT 41),(.NT 21)]) 32),
  .expr (.call (.NT 90) [(.NT 41),(.NT 32),(.NT 14)]),
  .ite (.NT 92)
   [.expr (.call (.NT 90) [(.NT 41),(.NT 32),(.bin .add (.NT 14) (.NT 91))])]
   [.ite (.cmp (.l5 (.NT 41) 1 [(.NT 32),(.bin .add (.NT 14) (.NT 93))]) [(.M5,(.lit V.none))])
    [.expr (.l5 (.NT 41) 52 [(.NT 32),(.bin .add (.NT 14) (.NT 91)),(.lit (V.int 1))])]
    []]]⟩
noncomputable def K7:Fd:=⟨[41,21,14,81],[],
 [.assign (.NT 16) (.call (.NT 89) [(.NT 14),(.NT 81)]),
  .expr (.l5 (.NT 41) 52 [(.attr (.call (.NT 55) [(.NT 41),(.NT 21)]) 32),(.bin .add (.NT 14) (.NT 93)),(.NT 16)])]⟩
noncomputable def A4:Fd:=⟨[41,21,14],[],
 [.expr (.call (.NT 83) [(.NT 14)]),
  .assign (.NT 32) (.attr (.call (.NT 55) [(.NT 41),(.NT 21)]) 32),
  .expr (.call (.NT 90) [(.NT 41),(.NT 32),(.bin .add (.NT 14) (.NT 91))]),
  .ret (.call (.NT 90) [(.NT 41),(.NT 32),(.bin .add (.NT 14) (.NT 93))])]⟩
noncomputable def F2:Fd:=⟨[41,21,14],[],
 [.assign (.NT 32) (.attr (.call (.NT 55) [(.NT 41),(.NT 21)]) 32),
  .assign (.NT 94) (.l5 (.NT 41) 1 [(.NT 32),(.NT 14)]),
  .ite (.mw [(.cmp (.NT 94) [(.M5,(.lit V.none))]),(.cmp (.l5 (.NT 41) 1 [(.NT 32),(.bin .add (.NT 14) (.NT 91))]) [(.M5,(.lit V.none))])])
   [.ret (.NT 94)]
   [],
  .ret (.l5 (.NT 41) 1 [(.NT 32),(.bin .add (.NT 14) (.NT 93))])]⟩
noncomputable def A3:Fd:=⟨[41,21,95],[],
 [.F6 [(.NT 32),(.B3 94)] [(.attr (.call (.NT 55) [(.NT 41),(.NT 21)]) 32),(.list [])],
  .F1 [14] .val [(.l5 (.NT 41) 56 [(.NT 32)])]
   [.assign (.NT 96) (.slice (.NT 14) none (some (.bin .sub (.call (.NT 26) [(.NT 14)]) (.call (.NT 26) [(.NT 95)])))),
    .ite (.R5 [(.cmp (.NT 14) [(.eq,(.bin .add (.NT 96) (.NT 95)))]),(.cmp (.lit (V.str [36])) [(.R7,(.NT 96))])])
     [.F0 94 (.tuple [(.NT 96),(.call (.NT 97) [(.NT 96),(.l5 (.NT 41) 1 [(.NT 32),(.NT 14)])])])]
     []],
  .ret (.NT 94)]⟩
noncomputable def Y8:Fd:=⟨[41,21],[],
 [.ret (.call (.NT 98) [(.NT 41),(.NT 21),(.lit (V.str []))])]⟩
noncomputable def O8:Fd:=⟨[41,21],[],
 [.ret (.call (.NT 98) [(.NT 41),(.NT 21),(.NT 93)])]⟩
noncomputable def da:Fd:=⟨[41,21,14],[],
 [.y6 (.R5 [(.cmp (.NT 21) [(.ne,(.lit (V.int 0)))]),(.cmp (.call (.NT 99) [(.NT 41),(.NT 21),(.NT 14)]) [(.is,(.lit V.none))])])
  [.assign (.NT 21) (.attr (.call (.NT 55) [(.NT 41),(.NT 21)]) 29)],
  .ret (.NT 21)]⟩
noncomputable def D9:Fd:=⟨[41,21,14],[],
 [.assign (.NT 82) (.call (.NT 83) [(.NT 14)]),
  .assign (.NT 100) (.call (.NT 101) [(.NT 41),(.NT 21),(.NT 14)]),
  .ite (.cmp (.NT 100) [(.eq,(.lit (V.int 0)))])
   [.ret (.tuple [(.call (.NT 97) [(.NT 14),(.attr (.NT 82) 65)]),(.NT 102)])]
   [],
  .ret (.tuple [(.call (.NT 97) [(.NT 14),(.call (.NT 99) [(.NT 41),(.NT 100),(.NT 14)])]),(.call (.NT 103) [(.NT 41),(.NT 100)])])]⟩
noncomputable def de:Fd:=⟨[41,21],[],
 [.assign (.B3 94) (.call (.NT 78) []),
  .y6 (.cmp (.NT 21) [(.ne,(.lit (V.int 0)))])
   [.F1 [95] .val [(.tuple [(.lit (V.str [])),(.NT 93)])]
    [.J1 94 (.call (.NT 104) [(.call (.NT 98) [(.NT 41),(.NT 21),(.NT 95)])])],
    .assign (.NT 21) (.attr (.call (.NT 55) [(.NT 41),(.NT 21)]) 29)],
  .ret (.call (.NT 18) [(.NT 94)])]⟩
noncomputable def df:Fd:=⟨[41,21],[],
 [.assign (.NT 15) (.comp false (.bin .add (.tuple [(.NT 14)]) (.call (.NT 105) [(.NT 41),(.NT 21),(.NT 14)])) [14] .val [(.call (.NT 106) [(.NT 41),(.NT 21)])] none),
  .ret (.comp false (.NT 34) [34] .val [(.NT 15)] (some (.cmp (.sub (.NT 34) (.lit (V.int 1))) [(.M5,(.lit V.none))])))]⟩
noncomputable def O7:Fd:=⟨[41,21,14],[],
 [.expr (.call (.NT 83) [(.NT 14)]),
  .F6 [(.B3 94),(.B3 107)] [(.list []),(.comp false (.call (.NT 58) [(.NT 41),(.NT 21),(.NT 108)]) [108] .val [(.call (.NT 109) [(.NT 41),(.NT 21)])] none)],
  .y6 (.cmp (.NT 107) [(.ne,(.list []))])
   [.fO 110 107,
    .ite (.cmp (.call (.NT 99) [(.NT 41),(.NT 110),(.NT 14)]) [(.is,(.lit V.none))])
     [.F0 94 (.NT 110),
      .assign (.B3 107) (.bin .add (.comp false (.call (.NT 58) [(.NT 41),(.NT 110),(.NT 108)]) [108] .val [(.call (.NT 109) [(.NT 41),(.NT 110)])] none) (.NT 107))]
     []],
  .ret (.NT 94)]⟩
noncomputable def ao:Fd:=⟨[41,21],[],
 [.assign (.B3 23) (.comp false (.call (.NT 89) [(.NT 14),(.sub (.call (.NT 105) [(.NT 41),(.NT 21),(.NT 14)]) (.lit (V.int 0)))]) [14] .val [(.tuple [(.lit (V.str [112,97,99,107,101,100])),(.lit (V.str [115,117,109,109,101,100])),(.lit (V.str [99,111,112,105,101,115])),(.lit (V.str [100,101,100,117,112]))])] none),
  .ite (.cmp (.sub (.NT 23) (.lit (V.int 3))) [(.eq,(.lit (V.int 1)))])
   [.assign (.Y6 23 (.lit (V.int 1))) (.NT 111)]
   [],
  .ret (.call (.NT 112) [(.sub (.NT 23) (.lit (V.int 0))),(.sub (.NT 23) (.lit (V.int 1))),(.sub (.NT 23) (.lit (V.int 2))),(.sub (.NT 23) (.lit (V.int 3)))])]⟩
noncomputable def iu:Fd:=⟨[14],[],
 [.assign (.B3 113) (.dict [((.lit (V.str [112,97,99,107,101,100])),(.list [(.lit (V.str [111,102,102])),(.lit (V.str [122,108,101])),(.lit (V.str [108,122,106,98])),(.lit (V.str [108,122,52]))])),((.lit (V.str [115,117,109,109,101,100])),(.list [(.lit (V.str [111,102,102])),(.lit (V.str [102,108,101,116,99,104,101,114,50])),(.lit (V.str [102,108,101,116,99,104,101,114,52])),(.lit (V.str [109,105,120]))])),((.lit (V.str [114,101,97,100,111,110,108,121])),(.list [(.lit (V.str [111,102,102])),(.lit (V.str [111,110]))])),((.lit (V.str [100,101,100,117,112])),(.list [(.lit (V.str [111,102,102])),(.lit (V.str [111,110]))]))]),
  .M9 [(.Y6 113 (.lit (V.str [99,111,112,105,101,115]))),(.Y6 113 (.lit (V.str [114,101,99,111,114,100])))] [(.list [(.lit (V.int 1)),(.lit (V.int 2)),(.lit (V.int 3))]),(.comp false (.bin .pow (.lit (V.int 2)) (.NT 114)) [114] .range [(.lit (V.int 3)),(.lit (V.int 13))] none)],
  .ret (.l5 (.NT 113) 1 [(.NT 14),(.list [])])]⟩
noncomputable def ir:Fd:=⟨[14],[],
 [.ret (.l5 (.dict [((.lit (V.str [112,97,99,107,101,100])),(.lit (V.str [111,102,102]))),((.lit (V.str [115,117,109,109,101,100])),(.lit (V.str [102,108,101,116,99,104,101,114,52]))),((.lit (V.str [114,101,97,100,111,110,108,121])),(.lit (V.str [111,102,102]))),((.lit (V.str [100,101,100,117,112])),(.lit (V.str [111,102,102]))),((.lit (V.str [99,111,112,105,101,115])),(.lit (V.int 1))),((.lit (V.str [114,101,99,111,114,100])),(.lit (V.int 32)))]) 1 [(.NT 14)])]⟩
noncomputable def iq:Fd:=⟨[14,81],[],
 [.ite (.cmp (.NT 14) [(.ik,(.tuple [(.lit (V.str [110,111,110,101])),(.lit (V.str [58,97,98]))]))])
  [.ret (.bin .add (.lit (V.str [110,111,32,115,117,99,104,32,112,114,111,112,101,114,116,121,58,32])) (.NT 14))]
  [],
  .ite (.cmp (.NT 14) [(.eq,(.lit (V.str [97,58,98])))])
   [.assign (.NT 87) (.R5 [(.call (.NT 84) [(.NT 81),(.NT 85)]),(.not (.call (.NT 84) [(.NT 81),(.NT 86)])),(.cmp (.lit (V.int 0)) [(.le,(.NT 81)),(.lt,(.bin .pow (.lit (V.int 2)) (.lit (V.int 32))))])])]
   [.assign (.NT 87) (.R5 [(.not (.call (.NT 84) [(.NT 81),(.NT 86)])),(.cmp (.NT 81) [(.ik,(.call (.NT 115) [(.NT 14)]))])])],
  .ret (.ite (.NT 87) (.lit (V.str [])) (.bin .add (.lit (V.str [110,111,32,118,97,108,117,101,32,111,102,32])) (.NT 14)))]⟩
noncomputable def A7:Fd:=⟨[34,14],[],
 [.ite (.cmp (.NT 14) [(.ik,(.sub (.NT 34) (.lit (V.str [111,119,110]))))])
  [.ret (.sub (.sub (.NT 34) (.lit (V.str [111,119,110]))) (.NT 14))]
  [],
  .ret (.ite (.cmp (.NT 14) [(.R7,(.sub (.NT 34) (.lit (V.str [110,111]))))]) (.l5 (.sub (.NT 34) (.lit (V.str [103,111,116]))) 1 [(.NT 14)]) (.lit V.none))]⟩
noncomputable def F3:Fd:=⟨[15,21,14],[],
 [.y6 (.cmp (.NT 21) [(.ge,(.lit (V.int 0)))])
  [.assign (.NT 94) (.call (.NT 116) [(.sub (.NT 15) (.NT 21)),(.NT 14)]),
   .ite (.cmp (.NT 94) [(.M5,(.lit V.none))])
    [.ret (.tuple [(.NT 94),(.sub (.sub (.NT 15) (.NT 21)) (.lit (V.str [112,97,116,104])))])]
    [],
   .assign (.NT 21) (.sub (.sub (.NT 15) (.NT 21)) (.lit (V.str [112,97,114,101,110,116])))],
  .ret (.tuple [(.call (.NT 117) [(.NT 14)]),(.lit (V.str [100,101,102,97,117,108,116]))])]⟩
noncomputable def J2:Fd:=⟨[15,21,14],[],
 [.assign (.B3 94) (.list []),
  .F1 [118] .range [(.bin .add (.NT 21) (.lit (V.int 1))),(.call (.NT 26) [(.NT 15)])]
   [.assign (.NT 119) (.NT 118),
    .y6 (.R5 [(.cmp (.NT 119) [(.ne,(.NT 21))]),(.cmp (.NT 119) [(.ge,(.lit (V.int 0)))]),(.cmp (.call (.NT 116) [(.sub (.NT 15) (.NT 119)),(.NT 14)]) [(.is,(.lit V.none))])])
     [.assign (.NT 119) (.sub (.sub (.NT 15) (.NT 119)) (.lit (V.str [112,97,114,101,110,116])))],
    .ite (.cmp (.NT 119) [(.eq,(.NT 21))])
     [.F0 94 (.sub (.sub (.NT 15) (.NT 118)) (.lit (V.str [111,98,106,101,99,116])))]
     []],
  .ret (.NT 94)]⟩
noncomputable def f9:Fd:=⟨[41,15,120,21,14,81],[],
 [.M9 [(.NT 34),(.NT 28)] [(.sub (.NT 15) (.NT 21)),(.sub (.sub (.NT 15) (.NT 21)) (.lit (V.str [111,98,106,101,99,116])))],
  .assign (.NT 121) (.call (.NT 122) [(.NT 14),(.ite (.cmp (.NT 120) [(.ik,(.tuple [(.lit (V.int 0)),(.lit (V.int 1)),(.lit (V.int 4))]))]) (.NT 81) (.lit (V.int 1)))]),
  .assign (.NT 121) (.ite (.mw [(.cmp (.NT 120) [(.ik,(.tuple [(.lit (V.int 0)),(.lit (V.int 1)),(.lit (V.int 4))]))]),(.cmp (.slice (.NT 121) none (some (.lit (V.int 7)))) [(.eq,(.lit (V.str [110,111,32,115,117,99,104])))])]) (.NT 121) (.lit (V.str []))),
  .ite (.cmp (.NT 120) [(.lt,(.lit (V.int 2)))])
   [.assign (.NT 123) (.A2 (.call (.NT 124) [(.NT 41),(.NT 28),(.NT 14),(.NT 81)]))]
   [.ite (.cmp (.NT 120) [(.eq,(.lit (V.int 2)))])
    [.assign (.NT 123) (.A2 (.call (.NT 125) [(.NT 41),(.NT 28),(.NT 14)]))]
    [.ite (.cmp (.NT 120) [(.eq,(.lit (V.int 3)))])
     [.assign (.NT 123) (.A2 (.call (.NT 125) [(.NT 41),(.NT 28),(.NT 14),(.lit (V.bool true))]))]
     [.ite (.cmp (.NT 120) [(.eq,(.lit (V.int 4)))])
      [.assign (.NT 123) (.A2 (.call (.NT 126) [(.NT 41),(.NT 28),(.NT 14),(.NT 81)]))]
      [.assign (.NT 123) (.A2 (.call (.NT 127) [(.NT 41),(.NT 28),(.NT 14)]))]]]],
  .ite (.cmp (.NT 123) [(.ne,(.tuple [(.NT 121),(.ite (.R5 [(.cmp (.NT 120) [(.eq,(.lit (V.int 5)))]),(.cmp (.NT 121) [(.eq,(.lit (V.str [])))])]) (.cmp (.NT 14) [(.ik,(.sub (.NT 34) (.lit (V.str [103,111,116]))))]) (.lit V.none))]))])
   [.ret (.lit (V.bool false))]
   [],
  .ite (.cmp (.NT 121) [(.eq,(.lit (V.str [])))])
   [.assign (.item (.NT 34) (.lit (V.str [110,111]))) (.comp true (.NT 118) [118] .val [(.sub (.NT 34) (.lit (V.str [110,111])))] (some (.mw [(.cmp (.NT 118) [(.ne,(.NT 14))]),(.cmp (.NT 120) [(.eq,(.lit (V.int 4)))])]))),
    .ite (.cmp (.NT 120) [(.lt,(.lit (V.int 2)))])
     [.assign (.item (.sub (.NT 34) (.lit (V.str [111,119,110]))) (.NT 14)) (.NT 81)]
     [.ite (.cmp (.NT 120) [(.lt,(.lit (V.int 4)))])
      [.expr (.l5 (.sub (.NT 34) (.lit (V.str [111,119,110]))) 2 [(.NT 14),(.lit V.none)])]
      []],
    .ite (.R5 [(.cmp (.NT 120) [(.eq,(.lit (V.int 2)))]),(.cmp (.NT 14) [(.ik,(.sub (.NT 34) (.lit (V.str [103,111,116]))))])])
     [.expr (.l5 (.sub (.NT 34) (.lit (V.str [110,111]))) 0 [(.NT 14)])]
     [],
    .ite (.cmp (.NT 120) [(.eq,(.lit (V.int 4)))])
     [.assign (.item (.sub (.NT 34) (.lit (V.str [103,111,116]))) (.NT 14)) (.NT 81)]
     [],
    .ite (.cmp (.NT 120) [(.eq,(.lit (V.int 5)))])
     [.expr (.l5 (.sub (.NT 34) (.lit (V.str [103,111,116]))) 2 [(.NT 14),(.lit V.none)])]
     []]
   [],
  .ret (.lit (V.bool true))]⟩
noncomputable def m6:Fd:=⟨[41,15,21,14],[],
 [.assign (.NT 28) (.sub (.sub (.NT 15) (.NT 21)) (.lit (V.str [111,98,106,101,99,116]))),
  .ite (.mw [(.cmp (.call (.NT 128) [(.NT 41),(.NT 28)]) [(.ne,(.l4 (.sub (.sub (.NT 15) (.NT 21)) (.lit (V.str [111,119,110])))))]),(.cmp (.call (.NT 129) [(.NT 41),(.NT 28)]) [(.ne,(.l4 (.sub (.sub (.NT 15) (.NT 21)) (.lit (V.str [103,111,116])))))])])
   [.ret (.lit (V.bool false))]
   [],
  .ite (.cmp (.NT 14) [(.ik,(.tuple [(.lit (V.str [110,111,110,101])),(.lit (V.str [58,97,98]))]))])
   [.ret (.cmp (.A2 (.call (.NT 105) [(.NT 41),(.NT 28),(.NT 14)])) [(.eq,(.tuple [(.bin .add (.lit (V.str [110,111,32,115,117,99,104,32,112,114,111,112,101,114,116,121,58,32])) (.NT 14)),(.lit V.none)]))])]
   [],
  .F1 [118] .range [(.call (.NT 26) [(.NT 15)])]
   [.ite (.cmp (.call (.NT 105) [(.NT 41),(.sub (.sub (.NT 15) (.NT 118)) (.lit (V.str [111,98,106,101,99,116]))),(.NT 14)]) [(.ne,(.call (.NT 130) [(.NT 15),(.NT 118),(.NT 14)]))])
    [.ret (.lit (V.bool false))]
    []],
  .ret (.cmp (.call (.NT 131) [(.NT 41),(.NT 28),(.NT 14)]) [(.eq,(.call (.NT 132) [(.NT 15),(.NT 21),(.NT 14)]))])]⟩
noncomputable def U2:Fd:=⟨[15,21],[],
 [.assign (.NT 133) (.comp false (.sub (.call (.NT 130) [(.NT 15),(.NT 21),(.NT 14)]) (.lit (V.int 0))) [14] .val [(.tuple [(.lit (V.str [112,97,99,107,101,100])),(.lit (V.str [115,117,109,109,101,100])),(.lit (V.str [99,111,112,105,101,115])),(.lit (V.str [100,101,100,117,112]))])] none),
  .assign (.NT 62) (.ite (.cmp (.sub (.NT 133) (.lit (V.int 3))) [(.eq,(.lit (V.str [111,110])))]) (.lit (V.int 3)) (.l5 (.call (.NT 115) [(.lit (V.str [115,117,109,109,101,100]))]) 4 [(.sub (.NT 133) (.lit (V.int 1)))])),
  .ret (.list [(.l5 (.call (.NT 115) [(.lit (V.str [112,97,99,107,101,100]))]) 4 [(.sub (.NT 133) (.lit (V.int 0)))]),(.NT 62),(.sub (.NT 133) (.lit (V.int 2))),(.call (.NT 85) [(.cmp (.sub (.NT 133) (.lit (V.int 3))) [(.eq,(.lit (V.str [111,110])))])])])]⟩
noncomputable def M6:Fd:=⟨[15,21],[],
 [.assign (.B3 94) (.list []),
  .F1 [14] .val [(.list [(.lit (V.str [97,58,98])),(.lit (V.str [99,111,112,105,101,115])),(.lit (V.str [100,101,100,117,112])),(.lit (V.str [112,97,99,107,101,100])),(.lit (V.str [114,101,97,100,111,110,108,121])),(.lit (V.str [114,101,99,111,114,100])),(.lit (V.str [115,110,97,112,100,105,114])),(.lit (V.str [115,117,109,109,101,100])),(.lit (V.str [115,121,110,99]))])]
   [.H4 [(.NT 81),(.NT 100)] (.call (.NT 130) [(.NT 15),(.NT 21),(.NT 14)]),
    .assign (.NT 134) (.l5 (.dict [((.lit (V.str [115,110,97,112,100,105,114])),(.lit (V.str [104,105,100,100,101,110]))),((.lit (V.str [115,121,110,99])),(.lit (V.str [115,116,97,110,100,97,114,100])))]) 1 [(.NT 14),(.NT 81)]),
    .ite (.cmp (.NT 134) [(.M5,(.lit V.none))])
     [.F0 94 (.tuple [(.NT 14),(.NT 134),(.NT 100)])]
     []],
  .ret (.NT 94)]⟩
noncomputable def I8:Fd:=⟨[135],[],
 [.assign (.NT 135) (.slice (.NT 135) none (some (.lit (V.int 63)))),
  .assign (.NT 41) (.call (.NT 136) []),
  .assign (.NT 15) (.Y5 [(.K4 [((.lit (V.str [112,97,116,104])),(.lit (V.str []))),((.lit (V.str [112,97,114,101,110,116])),(.neg (.lit (V.int 1)))),((.lit (V.str [111,98,106,101,99,116])),(.call (.NT 137) [(.NT 41)]))])]),
  .F1 [14,29] .val [(.list [(.tuple [(.lit (V.str [97])),(.lit (V.int 0))]),(.tuple [(.lit (V.str [98])),(.lit (V.int 1))]),(.tuple [(.lit (V.str [99])),(.lit (V.int 2))]),(.tuple [(.lit (V.str [100])),(.lit (V.int 1))]),(.tuple [(.lit (V.str [101])),(.lit (V.int 0))])])]
   [.assign (.NT 138) (.bin .add (.bin .add (.sub (.sub (.NT 15) (.NT 29)) (.lit (V.str [112,97,116,104]))) (.ite (.cmp (.NT 29) [(.gt,(.lit (V.int 0)))]) (.lit (V.str [47])) (.lit (V.str [])))) (.NT 14)),
    .expr (.l5 (.NT 15) 0 [(.K4 [((.lit (V.str [112,97,116,104])),(.NT 138)),((.lit (V.str [112,97,114,101,110,116])),(.NT 29)),((.lit (V.str [111,98,106,101,99,116])),(.call (.NT 139) [(.NT 41),(.sub (.sub (.NT 15) (.NT 29)) (.lit (V.str [111,98,106,101,99,116]))),(.NT 14)]))])])],
  .F1 [34] .val [(.NT 15)]
   [.expr (.l5 (.NT 34) 3 [.dict [((.lit (V.str [111,119,110])),(.K4 [])),((.lit (V.str [103,111,116])),(.K4 [])),((.lit (V.str [110,111])),(.Y5 []))]])],
  .assign (.NT 56) (.list [(.lit (V.str [112,97,99,107,101,100])),(.lit (V.str [99,111,112,105,101,115])),(.lit (V.str [114,101,99,111,114,100])),(.lit (V.str [114,101,97,100,111,110,108,121])),(.lit (V.str [100,101,100,117,112])),(.lit (V.str [115,117,109,109,101,100])),(.lit (V.str [97,58,98])),(.lit (V.str [110,111,110,101])),(.lit (V.str [58,97,98]))]),
  .assign (.NT 140) (.list [(.lit (V.str [111,102,102])),(.lit (V.str [111,110])),(.lit (V.str [122,108,101])),(.lit (V.str [108,122,52])),(.lit (V.str [109,105,120])),(.lit (V.str [103,122,105,112])),(.lit (V.int 0)),(.lit (V.int 1)),(.lit (V.int 2)),(.lit (V.int 3)),(.lit (V.int 4)),(.lit (V.int 8)),(.lit (V.int 24)),(.lit (V.int 4096)),(.lit (V.int 8192)),(.bin .sub (.bin .pow (.lit (V.int 2)) (.lit (V.int 32))) (.lit (V.int 1))),(.bin .pow (.lit (V.int 2)) (.lit (V.int 32))),(.lit (V.bool true))]),
  .F1 [141,142] .enum [(.ite (.cmp (.NT 135) [(.ne,(.list []))]) (.slice (.NT 135) none (some (.lit (V.int 10)))) (.list [(.lit (V.int 100)),(.lit (V.int 7)),(.lit (V.int 1000)),(.lit (V.int 12))]))]
   [.F6 [(.NT 120),(.NT 21),(.NT 14)] [(.bin .mod (.NT 142) (.lit (V.int 6))),(.bin .mod (.bin .fdiv (.NT 142) (.lit (V.int 6))) (.lit (V.int 6))),(.sub (.NT 56) (.bin .mod (.bin .add (.bin .fdiv (.NT 142) (.lit (V.int 36))) (.NT 141)) (.lit (V.int 9))))],
    .assign (.NT 143) (.call (.NT 115) [(.NT 14)]),
    .assign (.NT 81) (.ite (.R5 [(.cmp (.NT 143) [(.ne,(.list []))]),(.cmp (.bin .mod (.bin .fdiv (.NT 142) (.lit (V.int 324))) (.lit (V.int 3))) [(.gt,(.lit (V.int 0)))])]) (.sub (.NT 143) (.bin .mod (.bin .fdiv (.NT 142) (.lit (V.int 5832))) (.call (.NT 26) [(.NT 143)]))) (.sub (.NT 140) (.bin .mod (.bin .fdiv (.NT 142) (.lit (V.int 972))) (.lit (V.int 18))))),
    .ite (.not (.call (.NT 144) [(.NT 41),(.NT 15),(.NT 120),(.NT 21),(.NT 14),(.NT 81)]))
     [.ret (.lit (V.bool false))]
     []],
  .ite (.not (.call (.NT 145) [(.NT 41),(.NT 15),(.NT 21),(.NT 14)]))
   [.ret (.lit (V.bool false))]
   [],
  .assign (.NT 21) (.bin .mod (.call (.NT 19) [(.NT 135)]) (.lit (V.int 6))),
  .assign (.NT 133) (.call (.NT 146) [(.NT 41),(.sub (.sub (.NT 15) (.NT 21)) (.lit (V.str [111,98,106,101,99,116])))]),
  .ite (.cmp (.list [(.attr (.NT 133) 61),(.attr (.NT 133) 62),(.attr (.NT 133) 63),(.attr (.NT 133) 64)]) [(.ne,(.call (.NT 147) [(.NT 15),(.NT 21)]))])
   [.ret (.lit (V.bool false))]
   [],
  .ret (.cmp (.call (.NT 148) [(.NT 41),(.sub (.sub (.NT 15) (.NT 21)) (.lit (V.str [111,98,106,101,99,116])))]) [(.eq,(.call (.NT 149) [(.NT 15),(.NT 21)]))])]⟩
noncomputable def G5:List Fd:=[gE,aq,gD,bq,gC,ix,o6,gB,R9,oM,oK,kY,lg,gF,iy,rL,oG,vW,oN,rN,iw,oH,vZ,vY,vV,lj,dz,Y2,kZ,gA,rM,lh,oJ,zS,K9,G6,K7,A4,F2,A3,Y8,O8,da,D9,de,df,O7,ao,iu,ir,iq,A7,F3,J2,f9,m6,U2,M6,I8]
noncomputable def Q9:List Cd:=[⟨(some 0),true,[(49,1),(44,2),(10,3),(15,4),(1,5),(52,6),(88,7),(56,8)],[]⟩,⟨(some 13),false,[(34,14)],[([29,30,31,32,33],true,(.slice (.NT 34) none (some (.lit (V.int 5))))),([35,36,37,38,39],true,(.slice (.NT 34) (some (.lit (V.int 5))) none))]⟩,⟨(some 25),false,[],[([61],false,(.NT 61)),([62],false,(.NT 62)),([63],false,(.NT 63)),([64],false,(.NT 64))]⟩,⟨(some 26),false,[(87,27)],[([65],false,(.NT 65)),([66],false,(.NT 66)),([67],false,(.NT 67)),([68],false,(.NT 68)),([69],false,(.NT 69))]⟩]
noncomputable def tU:List (Nat×V):=[(53,(V.int 1)),(136,.cls 0),(27,.fn 9),(24,.fn 10),(25,(V.int 8)),(50,.fn 11),(43,.fn 12),(54,(V.str [114,111,111,116])),(48,(V.str [97,98,99,100,101,102,103,104,105,106,107,108,109,110,111,112,113,114,115,116,117,118,119,120,121,122,48,49,50,51,52,53,54,55,56,57,45,95,46])),(45,(V.int 12)),(42,.cls 1),(55,.fn 15),(57,.fn 16),(51,.fn 17),(137,.fn 18),(58,.fn 19),(109,.fn 20),(59,.fn 21),(139,.fn 22),(60,.fn 23),(103,.fn 24),(72,(V.int 0)),(73,(V.int 2)),(111,(V.int 3)),(112,.cls 2),(93,(V.str [36,114,101,99,118,100])),(91,(V.str [36,105,110,104,101,114,105,116])),(102,(V.str [100,101,102,97,117,108,116])),(76,(V.str [58])),(74,(V.int 20)),(80,(V.int 4294967295)),(75,(V.str [97,98,99,100,101,102,103,104,105,106,107,108,109,110,111,112,113,114,115,116,117,118,119,120,121,122,48,49,50,51,52,53,54,55,56,57,45,95,46,58])),(71,.cls 3),(78,.fn 28),(79,.fn 29),(83,.fn 30),(89,.fn 31),(97,.fn 32),(90,.fn 33),(124,.fn 34),(125,.fn 35),(126,.fn 36),(127,.fn 37),(99,.fn 38),(98,.fn 39),(128,.fn 40),(129,.fn 41),(101,.fn 42),(105,.fn 43),(106,.fn 44),(148,.fn 45),(131,.fn 46),(146,.fn 47),(115,.fn 48),(117,.fn 49),(122,.fn 50),(116,.fn 51),(130,.fn 52),(132,.fn 53),(144,.fn 54),(145,.fn 55),(147,.fn 56),(149,.fn 57),(150,.fn 58),(26,.bi .len),(84,.bi .isinstance),(18,.bi .sorted),(46,.bi .all),(19,.bi .sum),(12,.bi .bytes),(104,.bi .dict),(85,.bi .int),(86,.bi .bool)]
noncomputable def univ:List Txt:=[[97],[97,58,98],[97,58,98,36,105,110,104,101,114,105,116],[97,58,98,36,114,101,99,118,100],[98],[99],[99,111,112,105,101,115],[99,111,112,105,101,115,36,105,110,104,101,114,105,116],[99,111,112,105,101,115,36,114,101,99,118,100],[100],[100,101,100,117,112],[100,101,100,117,112,36,105,110,104,101,114,105,116],[100,101,100,117,112,36,114,101,99,118,100],[101],[103,111,116],[108,97,115,116],[110,111],[110,111,116,101,115],[111,98,106,101,99,116],[111,119,110],[112,97,99,107,101,100],[112,97,99,107,101,100,36,105,110,104,101,114,105,116],[112,97,99,107,101,100,36,114,101,99,118,100],[112,97,114,101,110,116],[112,97,116,104],[114,101,97,100,111,110,108,121],[114,101,97,100,111,110,108,121,36,105,110,104,101,114,105,116],[114,101,97,100,111,110,108,121,36,114,101,99,118,100],[114,101,99,111,114,100],[114,101,99,111,114,100,36,105,110,104,101,114,105,116],[114,101,99,111,114,100,36,114,101,99,118,100],[114,111,111,116],[115,117,109,109,101,100],[115,117,109,109,101,100,36,105,110,104,101,114,105,116],[115,117,109,109,101,100,36,114,101,99,118,100],[122,97,112,115]]
noncomputable def names:List Txt:=[[97,112,112,101,110,100],[103,101,116],[112,111,112],[117,112,100,97,116,101],[105,110,100,101,120],[106,111,105,110],[115,101,108,102],[108,97,115,116],[110,111,116,101,115],[122,97,112,115],[110,101,119,95,122,97,112],[111,99,116,101,116,115],[98,121,116,101,115],[111,98,106,101,99,116,95,110,117,109,98,101,114],[110,97,109,101],[114,111,119,115],[110,117,109,98,101,114],[115,111,109,101],[115,111,114,116,101,100],[115,117,109],[111,99,116,101,116],[112,108,97,99,101],[115,105,122,101],[110,117,109,98,101,114,115],[111,99,116,101,116,115,95,111,102],[78,85,77,66,69,82],[108,101,110],[110,117,109,98,101,114,95,111,102],[97,116],[112,97,114,101,110,116],[104,101,97,100],[99,104,105,108,100,114,101,110],[112,114,111,112,115],[111,114,105,103,105,110],[114,111,119],[117,115,101,100],[98,101,108,111,119],[113,117,111,116,97],[114,101,115,101,114,118,101,100],[114,101,102,113,117,111,116,97],[111,98,106,101,99,116,115],[98,97,115,101],[68,105,114,73,110,102,111],[111,99,116,101,116,115,95,114,111,119],[110,111,116,101],[77,79,83,84,95,76,69,84,84,69,82,83,95,100,105,114,115],[97,108,108],[108,101,116,116,101,114],[76,69,84,84,69,82,83,95,100,105,114,115],[110,101,119,95,110,111,116,101],[114,111,119,95,111,99,116,101,116,115],[110,101,119,95,100,105,114],[112,117,116],[78,65,77,69,83],[82,79,79,84],[108,111,97,100,95,100,105,114],[110,97,109,101,115],[119,97,110,116,95,110,97,109,101],[99,104,105,108,100,95,111,102],[119,97,110,116,95,102,114,101,101],[110,97,109,101,95,105,110],[112,97,99,107,101,100],[115,117,109,109,101,100],[99,111,112,105,101,115],[100,101,100,117,112],[100,101,102,97,117,108,116],[99,104,111,105,99,101,115],[108,101,97,115,116],[109,111,115,116],[105,115,95,112,111,119,101,114],[115,119,105,116,99,104],[80,114,111,112,75,105,110,100],[80,76,65,73,78],[70,76,69,84,67,72,69,82,52],[77,79,83,84,95,76,69,84,84,69,82,83,95,112,114,111,112,115],[76,69,84,84,69,82,83,95,112,114,111,112,115],[85,83,69,82,95,83,73,71,78],[107,105,110,100,115],[112,114,111,112,95,107,105,110,100,115],[105,115,95,117,115,101,114,95,110,97,109,101],[77,79,83,84,95,85,83,69,82],[118,97,108,117,101],[107,105,110,100],[107,105,110,100,95,102,111,114],[105,115,105,110,115,116,97,110,99,101],[105,110,116],[98,111,111,108],[105,115,95,114,105,103,104,116],[116,97,107,101],[110,117,109,98,101,114,95,102,111,114],[102,111,114,103,101,116],[73,78,72,69,82,73,84],[105,115,95,98,97,99,107],[82,69,67,69,73,86,69,68],[102,111,117,110,100],[115,105,103,110],[98,97,114,101],[118,97,108,117,101,95,102,111,114],[118,97,108,117,101,115,95,98,101,104,105,110,100],[111,119,110,95,110,117,109,98,101,114],[115,111,117,114,99,101],[115,111,117,114,99,101,95,111,102],[68,69,70,65,85,76,84],[112,97,116,104,95,111,102],[100,105,99,116],[112,114,111,112,95,111,102],[110,97,109,101,115,95,102,111,114],[119,97,105,116,105,110,103],[99,104,105,108,100],[99,104,105,108,100,95,110,97,109,101,115],[104,101,114,101],[77,73,88],[82,117,108,101,115],[116,97,98,108,101],[112,111,119,101,114],[95,108,97,119,95,99,104,111,105,99,101,115],[95,108,97,119,95,111,119,110],[95,108,97,119,95,100,101,102,97,117,108,116],[111,110,101],[117,112],[119,104,97,116],[100,117,101],[95,108,97,119,95,114,101,102,117,115,97,108],[104,101,97,114,100],[115,101,116,95,112,114,111,112],[105,110,104,101,114,105,116],[115,101,116,95,114,101,99,101,105,118,101,100],[100,114,111,112,95,114,101,99,101,105,118,101,100],[108,111,99,97,108,95,112,114,111,112,115],[114,101,99,101,105,118,101,100,95,112,114,111,112,115],[95,108,97,119,95,99,111,117,110,116,115],[116,97,107,101,114,115],[95,108,97,119,95,116,97,107,101,114,115],[116,111,108,100],[111,116,104,101,114],[115,99,114,105,112,116],[77,101,109,66,97,115,101],[109,97,107,101,95,114,111,111,116],[112,97,116,104],[97,100,100,95,100,105,114],[118,97,108,117,101,115],[116,117,114,110],[120],[110,101,97,114],[95,108,97,119,95,99,97,108,108],[95,108,97,119,95,105,115,95,116,111,108,100],[114,117,108,101,115,95,111,102],[95,108,97,119,95,114,117,108,101,115],[97,108,108,95,112,114,111,112,115],[95,108,97,119,95,101,118,101,114,121],[108,97,119]]
noncomputable def pg:Pg:=⟨G5,Q9,tU,univ,names⟩
end Mine
end
section
open PySem PySem.W PyProof.Rows PySem.Calls
namespace Mine
noncomputable def i3 (s:Txt):Str:=⟨s.toArray⟩
theorem dD {a b:Txt} (h:i3 a=i3 b):a=b:=Oh Array.toList (Str.mk.inj h)
noncomputable def solid:V->Bool
 |.snap _=>false
 |.Z9 _=>false
 |.g6 _=>false
 |.E1 _=>false
 |_=>true
theorem R2 {a b:Txt} (ha:t6 a=true) (hb:t6 b=true):t6 (a++b)=true:=by
 unfold t6 at *
 rw[List.all_append,ha,hb];rfl
def At (a:Addr) (h h':Heap):Prop:=∀o,h.get? a=some o->h'.get? a=some o
noncomputable def CH (ws:List Value) (n:Nat):Obj:={cls:=.type "list",data:=.seq ws.toArray n}
noncomputable def qk (ws:List Value) (n:Nat):Obj:={cls:=.type "tuple",data:=.seq ws.toArray n}
def R6 (h:Heap) (a:Addr) (ws:List Value):Prop:=∃n,h.get? a=some (CH ws n)
def mA (h:Heap) (a:Addr) (ws:List Value):Prop:=∃n,h.get? a=some (qk ws n)
variable {h h':Heap}
section
variable {a:Addr} {ws:List Value}
theorem R6.list (l:R6 h a ws):h.IsList a ws.toArray:=l.elim fun n e=>⟨_,e,rfl,n,rfl⟩
theorem mA.tup (l:mA h a ws):h.IsTuple a ws.toArray:=l.elim fun n e=>⟨_,e,rfl,n,rfl⟩
theorem R6.there (l:R6 h a ws):∃o,h.get? a=some o:=l.elim fun J e=>⟨_,e⟩
theorem mA.there (l:mA h a ws):∃o,h.get? a=some o:=l.elim fun J e=>⟨_,e⟩
theorem R6.at (l:R6 h a ws) (k:At a h h'):R6 h' a ws:=l.elim fun n e=>⟨n,k _ e⟩
theorem mA.at (l:mA h a ws) (k:At a h h'):mA h' a ws:=l.elim fun n e=>⟨n,k _ e⟩
theorem B6 {prog:Program} {w:World} {K:Type} [DecidableEq K] {knd:KeyKind prog w K} {kvs:List (K×Value)} (l:h.DictOf knd a kvs) (k:At a h h'):h'.DictOf knd a kvs:=match l with|⟨o,es,ep,e,r⟩=>⟨o,es,ep,k o e,r⟩
theorem l9 {prog:Program} {w:World} {K:Type} [DecidableEq K] {knd:KeyKind prog w K} {kvs:List (K×Value)} (l:h.DictOf knd a kvs):∃o,h.get? a=some o:=match l with|⟨o,_,_,e,_⟩=>⟨o,e⟩
theorem iV {f:Str->Option Value} (l:h.Ns a f) (k:At a h h'):h'.Ns a f:=match l with|⟨o,es,ep,e,r⟩=>⟨o,es,ep,k o e,r⟩
theorem D4 {v:Option Value} (l:h.IsCell a v) (k:At a h h'):h'.IsCell a v:=match l with|⟨o,e,r⟩=>⟨o,k o e,r⟩
end
noncomputable abbrev Kd:=Str->Option NameKind
structure i7 where
 prog:Program
 w:World
 fn:Nat->Option Addr
 cls:Nat->Option Addr
 bi:Bi->Value
 nm:Nat->Str
 univ:List Txt
 glob:List (Nat×V)
 exc:Addr
 why:Str
 K:Frag
 tabs:List Addr
 zh:Addr->Str
 lam:Kd->Option Addr
 A2:Addr
 Q0:Str
 S0:Str
 AF:List Str
 SF:List Str
 B:Heap
inductive bN (T:i7):V->Value->Prop
 |none:bN T .none .none
 |bool (b:Bool):bN T (.bool b) (.bool b)
 |int (i:Int) (t:Tok):bN T (.int i) (.int i t)
 |str (s:Txt) (t:Tok):t6 s=true->bN T (.str s) (.str (i3 s) t)
 |bytes (b:List Nat) (a:Array UInt8) (t:Tok):a.toList.map UInt8.toNat=b->bN T (.bytes b) (.bytes a t)
 |fn (k:Nat) (a:Addr):T.fn k=some a->bN T (.fn k) (.ref a)
 |cls (k:Nat) (a:Addr):T.cls k=some a->bN T (.cls k) (.ref a)
 |bi (b:Bi):bN T (.bi b) (T.bi b)
mutual
inductive VS (T:i7) (U:List Addr) (bad:Addr->Prop) (h:Heap):V->Value->Prop
 |G3 (v:V) (w:Value):bN T v w->VS T U bad h v w
 |loc (i:Nat) (a:Addr):U[i]? =some a->VS T U bad h (.loc i) (.ref a)
 |tup (xs:List V) (ws:List Value) (a:Addr):mA h a ws->¬bad a->z1 T U bad h xs ws->VS T U bad h (.tup xs) (.ref a)
 |je (v:V) (xs:List V) (ws:List Value) (a:Addr):E2 v=some xs->dw v=false->R6 h a ws->¬bad a->z1 T U bad h xs ws->VS T U bad h v (.ref a)
 |obj (c:Nat) (C:Addr) (at_:List (Nat×V)) (a dx:Addr) (kws:List (Str×Value)):T.cls c=some C->h.get? a=some ⟨.ref C,some dx,.plain,#[]⟩->¬bad a->h.DictOf (strKind T.prog T.w) dx kws->¬bad dx->
  kws.map Prod.fst=at_.map (fun p=>T.nm p.1)->z1 T U bad h (at_.map Prod.snd) (kws.map Prod.snd)->VS T U bad h (.obj c at_) (.ref a)
 |my (v:V) (kvs:List (Txt×V)) (a:Addr) (kws:List (Str×Value)):ents v=some kvs->dw v=false->h.DictOf (strKind T.prog T.w) a kws->(a == sysModules)=false->¬bad a->
  kws.map Prod.fst=kvs.map (fun p=>i3 p.1)->z1 T U bad h (kvs.map Prod.snd) (kws.map Prod.snd)->VS T U bad h v (.ref a)
inductive z1 (T:i7) (U:List Addr) (bad:Addr->Prop) (h:Heap):List V->List Value->Prop
 |nil:z1 T U bad h [] []
 |cons (v:V) (w:Value) (vs:List V) (ws:List Value):solid v=true->VS T U bad h v w->z1 T U bad h vs ws->z1 T U bad h (v::vs) (w::ws)
end
inductive VR (T:i7) (U:List Addr) (bad f7:Addr->Prop) (h:Heap):V->Value->Prop
 |mk (v:V) (w:Value):VS T U bad h v w->VR T U bad f7 h v w
 |FE (xs:List V) (ws:List Value) (a:Addr):R6 h a ws->f7 a->z1 T U bad h xs ws->VR T U bad f7 h (.snap xs) (.ref a)
 |snd (kvs:List (Txt×V)) (a:Addr) (kws:List (Str×Value)):h.DictOf (strKind T.prog T.w) a kws->(a == sysModules)=false->f7 a->
  kws.map Prod.fst=kvs.map (fun p=>i3 p.1)->z1 T U bad h (kvs.map Prod.snd) (kws.map Prod.snd)->VR T U bad f7 h (.Z9 kvs) (.ref a)
def Off (S:Addr->Prop) (h h':Heap):Prop:=∀a o,h.get? a=some o->¬S a->h'.get? a=some o
theorem Off.refl (S:Addr->Prop) (h:Heap):Off S h h:=fun J J e J=>e
theorem Off.trans {S S':Addr->Prop} {n6 r3 T9:Heap} (x:Off S n6 r3) (y:Off S' r3 T9) (hs:∀a o,n6.get? a=some o->S' a->S a):Off S n6 T9:=fun a o e n=>y a o (x a o e n) fun q=>n (hs a o e q)
theorem Off.of_keeps {S:Addr->Prop} {h h':Heap} (k:∀a o,h.get? a=some o->h'.get? a=some o):Off S h h':=fun a o e J=>k a o e
theorem Off.mono {S S':Addr->Prop} {h h':Heap} (x:Off S h h') (hs:∀a o,h.get? a=some o->S a->S' a):Off S' h h':=fun a o e n=>x a o e fun q=>n (hs a o e q)
theorem Off.at {S:Addr->Prop} {h h':Heap} (x:Off S h h') {a:Addr} (n:¬S a):At a h h':=fun o e=>x a o e n
structure Ms (U d7:List Addr) (bad bad' S:Addr->Prop) (h h':Heap):Prop where
 pre:∀(i:Nat) (a:Addr),U[i]? =some a->d7[i]? =some a
 off:Off S h h'
 sb:∀a o,h.get? a=some o->S a->bad a
 bb:∀a o,h.get? a=some o->bad' a->bad a
variable {T:i7} {U d7:List Addr}
section
variable {bad bad' f7 still' S:Addr->Prop}
theorem Ms.at (m:Ms U d7 bad bad' S h h') {a:Addr} (n:¬bad a):At a h h':=fun o e=>m.off a o e fun q=>n (m.sb a o e q)
theorem Ms.nb (m:Ms U d7 bad bad' S h h') {a:Addr} (n:¬bad a) (t:∃o,h.get? a=some o):¬bad' a:=fun q=>t.elim fun o e=>n (m.bb a o e q)
theorem VS.MP (m:Ms U d7 bad bad' S h h'):(∀v w,VS T U bad h v w->VS T d7 bad' h' v w)∧∀vs ws,z1 T U bad h vs ws->z1 T d7 bad' h' vs ws:=by
 have key:(∀(v:V) (w:Value),VS T U bad h v w->VS T d7 bad' h' v w)∧∀vs ws,z1 T U bad h vs ws->z1 T d7 bad' h' vs ws:=by
  constructor<;>intro v w x
  ·exact VS.rec (motive_1:=fun v w J=>VS T d7 bad' h' v w) (motive_2:=fun vs ws J=>z1 T d7 bad' h' vs ws) .G3 (fun i a e=>.loc i a (m.pre i a e))
    (fun xs ws a l n J r=>.tup xs ws a (l.at (m.at n)) (m.nb n l.there) r) (fun v xs ws a e e2 l n J r=>.je v xs ws a e e2 (l.at (m.at n)) (m.nb n l.there) r)
    (fun c C at_ a dx kws hc ha n hd nd e J r=>.obj c C at_ a dx kws hc (m.at n _ ha) (m.nb n ⟨_,ha⟩) (B6 hd (m.at nd)) (m.nb nd (l9 hd)) e r)
    (fun v kvs a kws e e2 hd hs n e3 J r=>.my v kvs a kws e e2 (B6 hd (m.at n)) hs (m.nb n (l9 hd)) e3 r) .nil (fun v w vs ws g J J a r=>.cons v w vs ws g a r) x
  ·exact z1.rec (motive_1:=fun v w J=>VS T d7 bad' h' v w) (motive_2:=fun vs ws J=>z1 T d7 bad' h' vs ws) .G3 (fun i a e=>.loc i a (m.pre i a e))
    (fun xs ws a l n J r=>.tup xs ws a (l.at (m.at n)) (m.nb n l.there) r) (fun v xs ws a e e2 l n J r=>.je v xs ws a e e2 (l.at (m.at n)) (m.nb n l.there) r)
    (fun c C at_ a dx kws hc ha n hd nd e J r=>.obj c C at_ a dx kws hc (m.at n _ ha) (m.nb n ⟨_,ha⟩) (B6 hd (m.at nd)) (m.nb nd (l9 hd)) e r)
    (fun v kvs a kws e e2 hd hs n e3 J r=>.my v kvs a kws e e2 (B6 hd (m.at n)) hs (m.nb n (l9 hd)) e3 r) .nil (fun v w vs ws g J J a r=>.cons v w vs ws g a r) x
 exact key
theorem VS.ms (m:Ms U d7 bad bad' S h h') {v:V} {w:Value} (x:VS T U bad h v w):VS T d7 bad' h' v w:=(VS.MP m).1 v w x
theorem z1.ms (m:Ms U d7 bad bad' S h h') {v:List V} {w:List Value} (x:z1 T U bad h v w):z1 T d7 bad' h' v w:=(VS.MP m).2 v w x
theorem VR.mv (m:Ms U d7 bad bad' S h h') (st:∀a o,h.get? a=some o->f7 a->still' a∧¬S a) {v:V} {w:Value} (x:VR T U bad f7 h v w):VR T d7 bad' still' h' v w:=by
 induction x with
 |mk _ _ x=>exact .mk _ _ (x.ms m)
 |FE xs ws a l s r=>exact l.there.elim fun o e=>.FE xs ws a (l.at (m.off.at (st a o e s).2)) (st a o e s).1 (r.ms m)
 |snd kvs a kws d hs s e r=>exact(l9 d).elim fun o e'=>.snd kvs a kws (B6 d (m.off.at (st a o e' s).2)) hs (st a o e' s).1 e (r.ms m)
theorem VR.vs {v:V} {w:Value} (x:VR T U bad f7 h v w) (g:solid v=true):VS T U bad h v w:=by
 induction x with
 |mk _ _ x=>exact x
 |FE=>cases g
 |snd=>cases g
end
structure r9 where
 l6:List Addr
 own:List Addr
def k9 (T:i7) (W:r9) (U:List Addr) (a:Addr):Prop:=a∈U∨a∈W.l6∨a∈W.own∨a∈T.tabs
def A6 (T:i7) (W:r9) (U:List Addr) (a:Addr):Prop:=a∈U∨a∈W.l6∨a∈T.tabs
def pS (T:i7) (W:r9) (U:List Addr) (a:Addr):Prop:=¬A6 T W U a
noncomputable abbrev C4 (T:i7) (W:r9) (U:List Addr) (h:Heap):V->Value->Prop:=VR T U (k9 T W U) (pS T W U) h
noncomputable abbrev eK (T:i7) (W:r9) (U:List Addr) (h:Heap):V->Value->Prop:=VS T U (k9 T W U) h
noncomputable abbrev E3 (T:i7) (W:r9) (U:List Addr) (h:Heap):List V->List Value->Prop:=z1 T U (k9 T W U) h
inductive B0 (T:i7) (U:List Addr) (bad:Addr->Prop) (h:Heap):Option V->Option Value->Prop
 |none:B0 T U bad h none none
 |some (v:V) (w:Value):solid v=true->VS T U bad h v w->B0 T U bad h (some v) (some w)
inductive MD (T:i7) (W:r9) (U:List Addr) (h:Heap) (a:Addr) (xs:List V):Prop
 |mk (ws:List Value) (l:R6 h a ws) (r:E3 T W U h xs ws)
inductive Ie (T:i7) (W:r9) (U:List Addr) (h:Heap) (a:Addr) (f:Txt->Option V):Prop
 |mk (kws:List (Str×Value)) (d:h.DictOf (strKind T.prog T.w) a kws) (s:(a == sysModules)=false) (r:∀k,B0 T U (k9 T W U) h (f k) (valueAt kws (i3 k))) (u:∀p∈kws,∃k∈T.univ,p.1=i3 k)
inductive NK (T:i7) (W:r9) (U:List Addr) (h:Heap) (a:Addr) (kvs:List (Int×V)):Prop
 |mk (kws:List (Int×Value)) (d:h.DictOf (intKind T.prog T.w) a kws) (s:(a == sysModules)=false) (e:kws.map Prod.fst=kvs.map fun p=>p.1) (r:E3 T W U h (kvs.map Prod.snd) (kws.map Prod.snd))
inductive NJ (T:i7) (U:List Addr) (h:Heap) (a:Addr) (c d:Nat):Prop
 |mk (C dx:Addr) (hc:T.cls c=some C) (hd:U[d]? =some dx) (e:h.get? a=some ⟨.ref C,some dx,.plain,#[]⟩)
inductive ME (h:Heap) (a:Addr):Prop
 |mk (n:Nat) (s:(a == sysModules)=false) (e:h.get? a=some {cls:=.type "dict",data:=.dict #[] n})
noncomputable def OR (T:i7) (W:r9) (U:List Addr) (h:Heap) (a:Addr):O->Prop
 |.list xs=>MD T W U h a xs
 |.map f=>Ie T W U h a f
 |.dy kvs=>NK T W U h a kvs
 |.inst c d=>NJ T U h a c d
 |.emp=>ME h a
structure AW (T:i7) (W:r9) (U:List Addr) (h:Heap) (a:Addr):Prop where
 nm:¬A6 T W U a
 ex:∃o,h.get? a=some o
structure KL (T:i7) (U:List Addr) (h:Heap) (a:Addr):Prop where
 nr:a∉U
 nt:a∉T.tabs
 ex:∃o,h.get? a=some o
structure Bj (T:i7) (W:r9) (U:List Addr) (h:Heap):Prop where
 own:∀a,a∈W.own->AW T W U h a
 l6:∀a,a∈W.l6->KL T U h a
inductive gZ (T:i7) (bad:Addr->Prop) (h:Heap) (P:Addr):Prop
 |mk (ps:Array Value) (e:h.get? P=some (tabObj ps)) (t:TriplesOk ps.toList) (r:∀pos cv,codeAmong pos ps.toList=some cv->∃c,cv=.ref c∧¬bad c∧h.CodeRec cv (T.zh P))
structure d9 (T:i7) (W:r9) (U:List Addr) (Y:Hp) (h:Heap):Prop where
 len:U.length=Y.length
 nodup:U.Nodup
 objs:∀(i:Nat) (o:O) (a:Addr),Y[i]? =some o->U[i]? =some a->OR T W U h a o
 base:T.B.StaysIn h
 fresh:∀a,k9 T W U a->T.B.get? a=none
 o5:Bj T W U h
 tabs:∀P,P∈T.tabs->gZ T (k9 T W U) h P
structure V3 (T:i7) (W:r9) (U d7:List Addr) (s s':Shared):Prop where
 pre:∀(i:Nat) (a:Addr),U[i]? =some a->d7[i]? =some a
 new:∀a,a∈d7->a∈U∨s.heap.get? a=none
 off:Off (A6 T W U) s.heap s'.heap
 there:∀a o,s.heap.get? a=some o->∃o',s'.heap.get? a=some o'
 slots:∀a,a∈W.l6->∀o,s.heap.get? a=some o->∃sl,s'.heap.get? a=some {o with slots:=sl}
 gens:s'.gens=s.gens
 os:s'.os=s.os
 drawn:s'.drawn=s.drawn
section
variable {W W':r9} {aE:List Addr} {s s' s'':Shared} {Y:Hp} {S:Addr->Prop}
theorem kF {α:Type} {l:List α} {a:α} (h:a∈l):∃i:Nat,l[i]? =some a:=List.mem_iff_getElem?.mp h
theorem Q1 {α:Type} {l:List α} {a:α} {i:Nat} (h:l[i]? =some a):a∈l:=Oy h
theorem d0 {α:Type} {x:Option α} {o:α} {G:Prop} (a:x=none) (b:x=some o):G:=nomatch a.symm.trans b
theorem B0.ms {bad bad':Addr->Prop} {x:Option V} {y:Option Value} (m:Ms U d7 bad bad' S h h') (r:B0 T U bad h x y):B0 T d7 bad' h' x y:=by
 induction r with
 |none=>exact .none
 |some v w g r=>exact .some v w g (r.ms m)
theorem OR.ms {o:O} {a:Addr} (m:Ms U d7 (k9 T W U) (k9 T W' d7) S h h') (k:At a h h') (g:OR T W U h a o):OR T W' d7 h' a o:=by
 induction o with
 |list xs=>exact match g with|⟨ws,l,r⟩=>⟨ws,l.at k,r.ms m⟩
 |map f=>exact match g with|⟨kws,d,s,r,u⟩=>⟨kws,B6 d k,s,fun k=>(r k).ms m,u⟩
 |dy kvs=>exact match g with|⟨kws,d,s,e,r⟩=>⟨kws,B6 d k,s,e,r.ms m⟩
 |inst c d=>exact match g with|⟨C,dx,hc,hd,e⟩=>⟨C,dx,hc,m.pre _ _ hd,k _ e⟩
 |emp=>exact match g with|⟨n,s,e⟩=>⟨n,s,k _ e⟩
theorem OR.there {o:O} {a:Addr} (g:OR T W U h a o):∃ob,h.get? a=some ob:=by
 induction o with
 |list xs=>exact match g with|⟨_,l,_⟩=>l.there
 |map f=>exact match g with|⟨_,d,_,_,_⟩=>l9 d
 |dy kvs=>exact match g with|⟨_,d,_,_,_⟩=>l9 d
 |inst c d=>exact match g with|⟨_,_,_,_,e⟩=>⟨_,e⟩
 |emp=>exact match g with|⟨_,_,e⟩=>⟨_,e⟩
theorem gZ.move {bad bad':Addr->Prop} {P:Addr} (x:gZ T bad h P) (off:Off S h h') (hP:¬S P) (sb:∀a o,h.get? a=some o->S a->bad a) (bb:∀a o,h.get? a=some o->bad' a->bad a):gZ T bad' h' P:=
 match x with
 |⟨ps,e,t,r⟩=>⟨ps,off _ _ e hP,t,fun pos cv q=>match r pos cv q with
  |⟨c,ec,nb,c',o,vs,t',e2,g,d,z⟩=>have hc:c'=c:=Value.ref.inj (e2.symm.trans ec);⟨c,ec,fun q=>nb (bb c o (hc▸g) q),c',o,vs,t',e2,off _ _ g fun q=>nb (sb c o (hc▸g) (hc▸q)),d,z⟩⟩
theorem d9.at (x:d9 T W U Y h) {i:Nat} {o:O} (e:Y[i]? =some o) {G:Prop} (k:∀a,U[i]? =some a->OR T W U h a o->G):G:=by
 have hi:i < U.length:=x.len▸(List.getElem?_eq_some_iff.mp e).1
 exact k _ (Ol hi) (x.objs i o _ e (Ol hi))
theorem d9.there (x:d9 T W U Y h) {a:Addr} (ha:a∈U):∃ob,h.get? a=some ob:=by
 obtain⟨i,e⟩:=kF ha
 have hi:i < Y.length:=x.len▸(List.getElem?_eq_some_iff.mp e).1
 exact(x.objs i _ a (Ol hi) e).there
theorem d9.cJ (x:d9 T W U Y h) {a:Addr} (q:k9 T W U a):∃ob,h.get? a=some ob:=
 q.elim x.there fun q=>q.elim (fun q=>(x.o5.l6 a q).ex) fun q=>q.elim (fun q=>(x.o5.own a q).ex) fun q=>match x.tabs a q with|⟨_,e,_,_⟩=>⟨_,e⟩
theorem d9.N2 (x:d9 T W U Y h) {a:Addr} (e:h.get? a=none):¬k9 T W U a:=fun q=>(x.cJ q).elim fun J e'=>d0 e e'
theorem d9.T3 (c:d9 T W U Y h) (bb:∀a,k9 T W' U a->k9 T W U a∨h.get? a=none) (off:Off S h h') (hS:∀a,S a->a∈W.l6∨a∈W.own):Ms U U (k9 T W U) (k9 T W' U) S h h':=
 ⟨fun J J e=>e,off,fun a J J q=>.inr ((hS a q).imp id .inl),fun a o e q=>(bb a q).elim id fun q=>d0 q e⟩
theorem d9.move (c:d9 T W U Y h) (bb:∀a,k9 T W' U a->k9 T W U a∨h.get? a=none) (off:Off S h h') (hS:∀a,S a->a∈W.l6∨a∈W.own) (o5:Bj T W' U h'):d9 T W' U Y h':=
 have ms:=c.T3 bb off hS
 have nS:∀a,S a->∀{G:Prop},a∈U∨a∈T.tabs->G:=fun a q J z=>absurd z fun z=>(hS a q).elim (fun q=>z.elim (c.o5.l6 a q).nr (c.o5.l6 a q).nt) fun q=>(c.o5.own a q).nm (z.imp id .inr)
 {len:=c.len
  nodup:=c.nodup
  objs:=fun i o a h1 h2=>OR.ms ms (off.at fun q=>nS a q (.inl (Q1 h2))) (c.objs i o a h1 h2)
  base:=fun a o e=>off a o (c.base a o e) fun q=>d0 (c.fresh a (.inr ((hS a q).imp id .inl))) e
  fresh:=fun a q=>(bb a q).elim (c.fresh a) fun q=>by
   cases e:T.B.get? a with
   |none=>rfl
   |some o=>exact d0 q (c.base a o e)
  o5:=o5
  tabs:=fun P hP=>(c.tabs P hP).move off (fun q=>nS P q (.inr hP)) ms.sb ms.bb}
theorem Bj.keeps (x:Bj T W U h) (k:∀a o,h.get? a=some o->∃o',h'.get? a=some o'):Bj T W U h':=
 ⟨fun a ha=>⟨(x.own a ha).nm,(x.own a ha).ex.elim (k a)⟩,fun a ha=>⟨(x.l6 a ha).nr,(x.l6 a ha).nt,(x.l6 a ha).ex.elim (k a)⟩⟩
theorem d9.keeps (c:d9 T W U Y h) (k:∀a o,h.get? a=some o->h'.get? a=some o):d9 T W U Y h':=
 c.move (S:=fun J=>False) (fun J q=>.inl q) (Off.of_keeps k) (fun J q=>q.elim) (c.o5.keeps fun a o e=>⟨o,k a o e⟩)
theorem V3.sub (x:V3 T W U d7 s s') {a:Addr} (h:a∈U):a∈d7:=(kF h).elim fun i e=>Q1 (x.pre i a e)
theorem V3.refl:V3 T W U U s s:=⟨fun J J e=>e,fun J h=>.inl h,Off.refl _ _,fun J o e=>⟨o,e⟩,fun J J o e=>⟨o.slots,e⟩,rfl,rfl,rfl⟩
theorem V3.since (x:V3 T W U d7 s s') {a:Addr} (e:s'.heap.get? a=none):s.heap.get? a=none:=by
 induction q:s.heap.get? a with
 |none=>rfl
 |some o=>exact(x.there a o q).elim fun J e'=>d0 e e'
theorem V3.bE (x:V3 T W U d7 s s') {a:Addr} {o:Obj} (e:s.heap.get? a=some o) (h:k9 T W d7 a):k9 T W U a:=h.imp (fun h=>(x.new a h).elim id fun q=>d0 q e) id
theorem A6.bad {a:Addr} (q:A6 T W U a):k9 T W U a:=q.imp id fun q=>q.imp id .inr
theorem V3.ms (x:V3 T W U d7 s s'):Ms U d7 (k9 T W U) (k9 T W d7) (A6 T W U) s.heap s'.heap:=⟨x.pre,x.off,fun J J J q=>q.bad,fun J J e q=>x.bE e q⟩
theorem V3.f7 (x:V3 T W U d7 s s'):∀a o,s.heap.get? a=some o->pS T W U a->pS T W d7 a∧¬A6 T W U a:=fun a J e q=>⟨fun z=>q (z.imp (fun z=>(x.new a z).elim id fun z=>d0 z e) id),q⟩
theorem V3.vr (x:V3 T W U d7 s s') {v:V} {w:Value} (h:C4 T W U s.heap v w):C4 T W d7 s'.heap v w:=VR.mv x.ms x.f7 h
theorem V3.vs (x:V3 T W U d7 s s') {v:V} {w:Value} (h:eK T W U s.heap v w):eK T W d7 s'.heap v w:=h.ms x.ms
theorem V3.Ip (x:V3 T W U d7 s s') {v:List V} {w:List Value} (h:E3 T W U s.heap v w):E3 T W d7 s'.heap v w:=h.ms x.ms
theorem V3.trans (x:V3 T W U d7 s s') (y:V3 T W d7 aE s' s''):V3 T W U aE s s'' where
 pre:=fun i a e=>y.pre i a (x.pre i a e)
 new:=fun a h=>(y.new a h).elim (x.new a) fun h=>.inr (x.since h)
 off:=x.off.trans y.off fun a o e h=>h.imp (fun h=>(x.new a h).elim id fun q=>d0 q e) id
 there:=fun a o e=>(x.there a o e).elim (y.there a)
 slots:=fun a ha o e=>(x.slots a ha o e).elim fun J B9=>(y.slots a ha _ B9).elim fun sl' Hk=>⟨sl',Hk⟩
 gens:=y.gens.trans x.gens
 os:=y.os.trans x.os
 drawn:=y.drawn.trans x.drawn
theorem V3.of_keeps {t:Nat} (k:∀a o,s.heap.get? a=some o->h'.get? a=some o):V3 T W U U s {s with heap:=h',toks:=t}:=
 ⟨fun J J e=>e,fun J h=>.inl h,Off.of_keeps k,fun a o e=>⟨o,k a o e⟩,fun a J o e=>⟨o.slots,k a o e⟩,rfl,rfl,rfl⟩
structure i4 (T:i7) (W:r9) (U:List Addr) (s:Shared) (c7:Hp) (d7:List Addr) (s':Shared):Prop where
 ext:V3 T W U d7 s s'
 rel:d9 T W d7 c7 s'.heap
variable {c7 u3:Hp}
theorem i4.refl (c:d9 T W U Y s.heap):i4 T W U s Y U s:=⟨V3.refl,c⟩
theorem i4.trans (x:i4 T W U s c7 d7 s') (y:i4 T W d7 s' u3 aE s''):i4 T W U s u3 aE s'':=⟨x.ext.trans y.ext,y.rel⟩
theorem i4.keeps (c:d9 T W U Y s.heap) {t:Nat} (k:∀a o,s.heap.get? a=some o->h'.get? a=some o):i4 T W U s Y U {s with heap:=h',toks:=t}:=⟨V3.of_keeps k,c.keeps k⟩
theorem i4.toks (c:d9 T W U Y s.heap) {t:Nat}:i4 T W U s Y U {s with toks:=t}:=i4.keeps c fun J J e=>e
noncomputable def r9.add (W:r9) (ds:List Addr):r9:=⟨W.l6,ds++W.own⟩
theorem R1 {ds:List Addr} {a:Addr} (q:k9 T (W.add ds) U a):a∈ds∨k9 T W U a:=
 q.elim (fun q=>.inr (.inl q)) fun q=>q.elim (fun q=>.inr (.inr (.inl q))) fun q=>q.elim (fun q=>(OG q).imp id fun q=>.inr (.inr (.inl q))) fun q=>.inr (.inr (.inr (.inr q)))
theorem d9.adopt {ds:List Addr} (c:d9 T W U Y h) (k:∀a o,h.get? a=some o->h'.get? a=some o) (hn:∀d,d∈ds->h.get? d=none) (hy:∀d,d∈ds->∃o,h'.get? d=some o):d9 T (W.add ds) U Y h':=
 c.move (S:=fun J=>False) (fun a q=>(R1 q).elim (fun q=>.inr (hn a q)) .inl) (Off.of_keeps k) (fun J q=>q.elim)
  ⟨fun a ha=>(OG ha).elim (fun q=>⟨fun z=>c.N2 (hn a q) (A6.bad z),hy a q⟩) fun q=>⟨(c.o5.own a q).nm,(c.o5.own a q).ex.elim fun o e=>⟨o,k a o e⟩⟩,(c.o5.keeps fun a o e=>⟨o,k a o e⟩).l6⟩
theorem bH {ds:List Addr} (k:∀a o,h.get? a=some o->h'.get? a=some o) (hn:∀d,d∈ds->h.get? d=none):Ms U U (k9 T W U) (k9 T (W.add ds) U) (fun J=>False) h h':=
 ⟨fun J J e=>e,Off.of_keeps k,fun J J J q=>q.elim,fun a J e q=>(R1 q).elim (fun q=>d0 (hn a q) e) id⟩
structure pO (W:r9) (D:Addr->Prop) (h h':Heap):Prop where
 keep:Off D h h'
 there:∀a o,h.get? a=some o->∃o',h'.get? a=some o'
 held:∀a,D a->a∈W.l6∨a∈W.own
 frame:∀a,a∈W.l6->D a->∃o',h'.get? a=some o'∧∀vs,o'.data≠.fields vs
variable {D:Addr->Prop}
theorem pO.ms (t:pO W D h h'):Ms U U (k9 T W U) (k9 T W U) D h h':=⟨fun J J e=>e,t.keep,fun a J J q=>.inr ((t.held a q).imp id .inl),fun J J J q=>q⟩
theorem d9.turn (c:d9 T W U Y h) (t:pO W D h h'):d9 T W U Y h':=c.move (fun J q=>.inl q) t.keep t.held (c.o5.keeps t.there)
structure s8 (s:Shared) (W W':r9):Prop where
 l6:W'.l6=W.l6
 own:∀a,a∈W.own->a∈W'.own
 C0:∀a,a∈W'.own->a∈W.own∨s.heap.get? a=none
structure In (W W':r9) (s:Shared):Prop where
 l6:∀a,a∈W.l6->a∈W'.l6
 own:∀a,a∈W.own->a∈W'.own
 gu:∀a,a∈W'.l6->a∈W.l6∨s.heap.get? a=none
 C0:∀a,a∈W'.own->a∈W.own∨s.heap.get? a=none
variable {W'':r9}
theorem s8.v5 (g:s8 s W W'):In W W' s:=⟨fun J q=>g.l6▸q,g.own,fun J q=>.inl (g.l6▸q),g.C0⟩
theorem s8.refl:s8 s W W:=⟨rfl,fun J h=>h,fun J h=>.inl h⟩
theorem s8.add {ds:List Addr} (hn:∀d,d∈ds->s.heap.get? d=none):s8 s W (W.add ds):=⟨rfl,fun J h=>Ob _ h,fun a h=>(OG h).elim (fun h=>.inr (hn a h)) .inl⟩
theorem In.bad (x:In W W' s) {a:Addr} (h:k9 T W U a):k9 T W' U a:=h.imp id fun h=>h.imp (x.l6 a) fun h=>h.imp (x.own a) id
theorem In.back (x:In W W' s) {a:Addr} {o:Obj} (e:s.heap.get? a=some o) (h:k9 T W' U a):k9 T W U a:=h.imp id fun h=>h.imp (fun h=>(x.gu a h).elim id fun q=>d0 q e) fun h=>h.imp (fun h=>(x.C0 a h).elim id fun q=>d0 q e) id
theorem In.ms (x:In W W' s) (h:Heap):Ms U U (k9 T W' U) (k9 T W U) (fun J=>False) h h:=⟨fun J J e=>e,Off.refl _ _,fun J J J q=>q.elim,fun J J J q=>x.bad q⟩
theorem d9.shrink (x:In W W' s) (c:d9 T W' U Y h):d9 T W U Y h:=
 c.move (S:=fun J=>False) (fun J q=>.inl (x.bad q)) (Off.refl _ _) (fun J q=>q.elim) ⟨fun a ha=>⟨fun z=>(c.o5.own a (x.own a ha)).nm (z.imp id fun z=>z.imp (x.l6 a) id),(c.o5.own a (x.own a ha)).ex⟩,fun a ha=>c.o5.l6 a (x.l6 a ha)⟩
theorem s8.ms (g:s8 s W W') (h:Heap):Ms U U (k9 T W' U) (k9 T W U) (fun J=>False) h h:=g.v5.ms h
theorem s8.since (g:s8 s' W W') (x:V3 T W'' U d7 s s'):s8 s W W':=⟨g.l6,g.own,fun a h=>(g.C0 a h).imp id x.since⟩
theorem s8.trans (g:s8 s W W') (g':s8 s W' W''):s8 s W W'':=⟨g'.l6.trans g.l6,fun a h=>g'.own a (g.own a h),fun a h=>(g'.C0 a h).elim (g.C0 a) .inr⟩
theorem d9.Fn (g:s8 s W W') (c:d9 T W' U Y h):d9 T W U Y h:=c.shrink g.v5
theorem i4.under (x:In W W' s) (o:i4 T W U s c7 d7 s') (p:i4 T W' d7 s' u3 aE s''):i4 T W U s u3 aE s'' where
 ext:={
  pre:=fun i a e=>p.ext.pre i a (o.ext.pre i a e)
  new:=fun a h=>(p.ext.new a h).elim (o.ext.new a) fun h=>.inr (o.ext.since h)
  off:=fun a ob e q=>p.ext.off a ob (o.ext.off a ob e q) fun z=>q (z.imp (fun z=>(o.ext.new a z).elim id fun z=>d0 z e) fun z=>z.imp (fun z=>(x.gu a z).elim id fun z=>d0 z e) id)
  there:=fun a ob e=>(o.ext.there a ob e).elim (p.ext.there a)
  slots:=fun a ha ob e=>(o.ext.slots a ha ob e).elim fun J B9=>(p.ext.slots a (x.l6 a ha) _ B9).elim fun sl' Hk=>⟨sl',Hk⟩
  gens:=p.ext.gens.trans o.ext.gens
  os:=p.ext.os.trans o.ext.os
  drawn:=p.ext.drawn.trans o.ext.drawn}
 rel:=p.rel.shrink x
theorem i4.jv (g:s8 s W W') (o:i4 T W U s c7 d7 s') (p:i4 T W' d7 s' u3 aE s''):i4 T W U s u3 aE s'':=i4.under g.v5 o p
structure hJ (s s':Shared):Prop where
 gens:s'.gens=s.gens
 os:s'.os=s.os
 drawn:s'.drawn=s.drawn
theorem i4.turn (o:i4 T W U s c7 d7 s') (k:Off D s'.heap s''.heap) (hD:∀a,D a->s.heap.get? a=none) (hg:hJ s' s'') (c:d9 T W d7 u3 s''.heap):i4 T W U s u3 d7 s'' where
 ext:={
  pre:=o.ext.pre
  new:=o.ext.new
  off:=fun a ob e q=>k a ob (o.ext.off a ob e q) fun z=>d0 (hD a z) e
  there:=fun a ob e=>(o.ext.there a ob e).elim fun ob' e'=>⟨ob',k a ob' e' fun q=>d0 (hD a q) e⟩
  slots:=fun a ha ob e=>(o.ext.slots a ha ob e).elim fun sl B9=>⟨sl,k a _ B9 fun z=>d0 (hD a z) e⟩
  gens:=hg.gens.trans o.ext.gens
  os:=hg.os.trans o.ext.os
  drawn:=hg.drawn.trans o.ext.drawn}
 rel:=c
theorem g9 (h:Heap) (o:Obj):∀a o',h.get? a=some o'->(h.push o).get? a=some o':=fun J J e=>Oc o e
theorem none_at_size (h:Heap):h.get? h.objs.size=none:=by
 induction q:h.get? h.objs.size with
 |none=>rfl
 |some o=>exact absurd (OE q) (Nat.lt_irrefl _)
theorem y9 (h:Heap):∀d,d∈[h.objs.size]->h.get? d=none:=fun d hd=>(Og hd)▸none_at_size h
theorem O1 {h:Heap} {ob:Obj} (hf:ob.isFreed=false):∀d,d∈[h.objs.size]->∃o,(h.push ob).get? d=some o:=fun d hd=>⟨ob,(Og hd)▸Od _ hf⟩
end
theorem ns {α:Type} {x:α} {G:Prop} (e:none=some x):G:=nomatch e
theorem a0 {α β:Type} {o:Option α} {f:α->Option β} {b:β} {G:Prop} (e:o.bind f=some b) (k:∀a,o=some a->f a=some b->G):G:=by
 induction o with
 |none=>cases e
 |some a=>exact k a rfl e
theorem cf {α β:Type} {o:Option α} {f:α->β} {g:β} {K:β->Prop} {G:Prop} (h:K (nM o f g)) (k:∀a,o=some a->K (f a)->G) (k':o=none->K g->G):G:=by
 induction o with
 |none=>exact k' rfl h
 |some a=>exact k a rfl h
theorem d8 {α β:Type} {o:Option α} {f:α->β} {b:β} {G:Prop} (e:o.map f=some b) (k:∀a,o=some a->f a=b->G):G:=by
 induction o with
 |none=>cases e
 |some a=>exact k a rfl (NX e)
theorem i0 {α:Type} {o p:Option α} {b:α} {G:Prop} (e:o.or p=some b) (k:o=some b->G) (k':p=some b->G):G:=by
 induction o with
 |none=>exact k' e
 |some a=>exact k e
theorem i9 {α:Type} {b:Bool} {x v:α} {G:Prop} (e:gd b x=some v) (k:b=true->x=v->G):G:=by
 induction b with
 |false=>cases e
 |true=>exact k rfl (NX e)
theorem B2 {α:Type} {l:List α} {x:α} (e:y0 l=some x):l=[x]:=by
 induction l with
 |nil=>cases e
 |cons a r=>induction r with
  |nil=>exact Oh (· ::[]) (NX e)
  |cons=>cases e
theorem un1_eq {α:Type} {l:List α} {q:α×List α} (e:Lc l=some q):l=q.1::q.2:=by
 induction l with
 |nil=>exact ns e
 |cons a r=>cases e;rfl
theorem two1_eq {α:Type} {l:List α} {x:α×α} (e:two1 l=some x):l=[x.1,x.2]:=a0 e fun q eq e=>d8 e fun y ey e=>by rw[un1_eq eq,B2 ey,←e]
theorem three1_eq {α:Type} {l:List α} {x:α×α×α} (e:three1 l=some x):l=[x.1,x.2.1,x.2.2]:=a0 e fun q eq e=>d8 e fun y ey e=>by rw[un1_eq eq,two1_eq ey,←e]
theorem T2 {i:Int} {n:Nat} (e:iW i=some n):i=Int.ofNat n:=by
 induction i with
 |ofNat=>exact Oh Int.ofNat (NX e)
 |negSucc=>cases e
theorem N8 {o:O} {x:List V} (e:fF o=some x):o=.list x:=by induction o<;>first|exact ns e|exact Oh _ (NX e)
theorem H5 {o:O} {x:Txt->Option V} (e:ib o=some x):o=.map x:=by induction o<;>first|exact ns e|exact Oh _ (NX e)
theorem fG {o:O} {x:List (Int×V)} (e:tj o=some x):o=.dy x:=by induction o<;>first|exact ns e|exact Oh _ (NX e)
theorem nO {o:O} {x:Nat×Nat} (e:sZ o=some x):o=.inst x.1 x.2:=by induction o<;>first|exact ns e|(cases e;rfl)
theorem W8 {o:O} {x:Unit} (e:nP o=some x):o=.emp:=by induction o<;>first|rfl|exact ns e
theorem uw {o:X} {x:Nat} (e:HX o=some x):o=.NT x:=by cases o<;>first|exact ns e|exact Oh _ (NX e)
variable {v:V}
section
theorem cK {x:Unit} (e:F7 v=some x):v=.none:=by cases v<;>first|rfl|exact ns e
theorem cL {x:Bool} (e:L6 v=some x):v=.bool x:=by cases v<;>first|exact ns e|exact Oh _ (NX e)
theorem gU {x:Int} (e:z5 v=some x):v=.int x:=by cases v<;>first|exact ns e|exact Oh _ (NX e)
theorem U8 {x:Txt} (e:r6 v=some x):v=.str x:=by cases v<;>first|exact ns e|exact Oh _ (NX e)
theorem aA {x:List Nat} (e:H9 v=some x):v=.bytes x:=by cases v<;>first|exact ns e|exact Oh _ (NX e)
theorem bF {x:List V} (e:N0 v=some x):v=.tup x:=by cases v<;>first|exact ns e|exact Oh _ (NX e)
theorem pM {x:Nat×Fr} (e:jP v=some x):v=.obj x.1 x.2:=by cases v<;>first|exact ns e|(cases e;rfl)
theorem U9 {x:Nat} (e:L5 v=some x):v=.loc x:=by cases v<;>first|exact ns e|exact Oh _ (NX e)
theorem lU {x:Nat} (e:DQ v=some x):v=.fn x:=by cases v<;>first|exact ns e|exact Oh _ (NX e)
theorem pN {x:Nat} (e:AO v=some x):v=.cls x:=by cases v<;>first|exact ns e|exact Oh _ (NX e)
theorem lY {x:Bi} (e:AQ v=some x):v=.bi x:=by cases v<;>first|exact ns e|exact Oh _ (NX e)
theorem eD {x:List V} (e:xb v=some x):v=.g6 x:=by cases v<;>first|exact ns e|exact Oh _ (NX e)
theorem lS {x:List (Txt×V)} (e:sq v=some x):v=.E1 x:=by cases v<;>first|exact ns e|exact Oh _ (NX e)
theorem DO {x:Nat×Fr} (e:DP v=some x):v=.ct x.1 x.2:=by cases v<;>first|exact ns e|(cases e;rfl)
theorem gI {xs:List V} {kvs:List (Txt×V)} {G:Prop} (e:E2 v=some xs) (e':ents v=some kvs):G:=by cases v<;>first|exact ns e|exact ns e'
end
section
variable {bad f7:Addr->Prop} {w:Value} {G:Value->Prop}
theorem bN.E2 (x:bN T v w):E2 v=Option.none:=by induction x<;>rfl
theorem bN.ents (x:bN T v w):ents v=Option.none:=by induction x<;>rfl
noncomputable def Gj:V->Bool
 |.loc _=>false
 |.tup _=>false
 |.obj _ _=>false
 |.snap _=>false
 |.Z9 _=>false
 |_=>true
theorem VR.G3 (x:VR T U bad f7 h v w) (e:Gj v=true) (h1:Mine.E2 v=Option.none) (h2:Mine.ents v=Option.none):bN T v w:=by
 induction x with
 |mk _ _ x=>
  cases x with
  |G3 _ _ x=>exact x
  |loc|tup|obj=>exact Bool.noConfusion e
  |je _ _ _ _ e1=>exact d0 h1 e1
  |my _ _ _ _ e1=>exact d0 h2 e1
 |FE|snd=>exact Bool.noConfusion e
@[elab_as_elim] theorem VR.J0 (x:VR T U bad f7 h .none w) (k:G .none):G w:=by
 cases x.G3 rfl rfl rfl with|none=>exact k
@[elab_as_elim] theorem VR.H7 {b:Bool} (x:VR T U bad f7 h (.bool b) w) (k:G (.bool b)):G w:=by
 cases x.G3 rfl rfl rfl with|bool=>exact k
@[elab_as_elim] theorem VR.u6 {b:Int} (x:VR T U bad f7 h (.int b) w) (k:∀t,G (.int b t)):G w:=by
 cases x.G3 rfl rfl rfl with|int _ t=>exact k t
@[elab_as_elim] theorem VR.n8 {b:Txt} (x:VR T U bad f7 h (.str b) w) (k:∀t,t6 b=true->G (.str (i3 b) t)):G w:=by
 cases x.G3 rfl rfl rfl with|str _ t a=>exact k t a
@[elab_as_elim] theorem VR.F5 {b:List Nat} (x:VR T U bad f7 h (.bytes b) w) (k:∀a t,a.toList.map UInt8.toNat=b->G (.bytes a t)):G w:=by
 cases x.G3 rfl rfl rfl with|bytes _ a t e=>exact k a t e
@[elab_as_elim] theorem VR.JR {b:Nat} (x:VR T U bad f7 h (.fn b) w) (k:∀a,T.fn b=Option.some a->G (.ref a)):G w:=by
 cases x.G3 rfl rfl rfl with|fn _ a e=>exact k a e
@[elab_as_elim] theorem VR.HC {b:Nat} (x:VR T U bad f7 h (.cls b) w) (k:∀a,T.cls b=Option.some a->G (.ref a)):G w:=by
 cases x.G3 rfl rfl rfl with|cls _ a e=>exact k a e
@[elab_as_elim] theorem VR.EV {b:Bi} (x:VR T U bad f7 h (.bi b) w) (k:G (T.bi b)):G w:=by
 cases x.G3 rfl rfl rfl with|bi=>exact k
@[elab_as_elim] theorem VR.A8 {b:Nat} (x:VR T U bad f7 h (.loc b) w) (k:∀a,U[b]? =Option.some a->G (.ref a)):G w:=by
 cases x with
 |mk _ _ x=>
  cases x with
  |G3 _ _ x=>cases x
  |loc _ a e=>exact k a e
  |je _ _ _ _ e=>cases e
  |my _ _ _ _ e=>cases e
@[elab_as_elim] theorem VR.E6 {b:List V} (x:VR T U bad f7 h (.tup b) w) (k:∀a ws,mA h a ws->¬bad a->z1 T U bad h b ws->G (.ref a)):G w:=by
 cases x with
 |mk _ _ x=>
  cases x with
  |G3 _ _ x=>cases x
  |tup _ ws a l n r=>exact k a ws l n r
  |je _ _ _ _ e=>cases e
  |my _ _ _ _ e=>cases e
inductive Fh (T:i7) (U:List Addr) (bad:Addr->Prop) (h:Heap) (c:Nat) (at_:Fr) (a:Addr):Prop
 |mk (C dx:Addr) (kws:List (Str×Value)) (hc:T.cls c=some C) (ha:h.get? a=some ⟨.ref C,some dx,.plain,#[]⟩) (n:¬bad a) (hd:h.DictOf (strKind T.prog T.w) dx kws) (nd:¬bad dx)
  (e:kws.map Prod.fst=at_.map (fun p=>T.nm p.1)) (r:z1 T U bad h (at_.map Prod.snd) (kws.map Prod.snd))
@[elab_as_elim] theorem VR.kf {c:Nat} {at_:Fr} (x:VR T U bad f7 h (.obj c at_) w) (k:∀a,Fh T U bad h c at_ a->G (.ref a)):G w:=by
 cases x with
 |mk _ _ x=>
  cases x with
  |G3 _ _ x=>cases x
  |obj _ C _ a dx kws hc ha n hd nd e r=>exact k a ⟨C,dx,kws,hc,ha,n,hd,nd,e,r⟩
  |je _ _ _ _ e=>cases e
  |my _ _ _ _ e=>cases e
@[elab_as_elim] theorem VR.z0 {xs:List V} (x:VR T U bad f7 h v w) (e:E2 v=some xs) (k:∀a ws,R6 h a ws->(dw v=false->¬bad a)->z1 T U bad h xs ws->G (.ref a)):G w:=by
 induction x with
 |mk _ _ x=>cases x with
  |G3 _ _ x=>exact d0 x.E2 e
  |loc|tup|obj=>cases e
  |je _ _ ws a e' _ l n r=>exact k a ws l (fun J=>n) (NX (e'.symm.trans e)▸r)
  |my _ _ _ _ e'=>exact gI e e'
 |FE xs ws a l s r=>exact k a ws l nofun (NX e▸r)
 |snd=>cases e
inductive V2 (T:i7) (U:List Addr) (bad:Addr->Prop) (h:Heap) (kvs:List (Txt×V)) (a:Addr):Prop
 |mk (kws:List (Str×Value)) (hd:h.DictOf (strKind T.prog T.w) a kws) (s:(a == sysModules)=false) (e:kws.map Prod.fst=kvs.map (fun p=>i3 p.1)) (r:z1 T U bad h (kvs.map Prod.snd) (kws.map Prod.snd))
@[elab_as_elim] theorem VR.U3 {kvs:List (Txt×V)} (x:VR T U bad f7 h v w) (e:ents v=some kvs) (k:∀a,V2 T U bad h kvs a->G (.ref a)):G w:=by
 induction x with
 |mk _ _ x=>cases x with
  |G3 _ _ x=>exact d0 x.ents e
  |loc|tup|obj=>cases e
  |je _ _ _ _ e'=>exact gI e' e
  |my _ _ a kws e' _ hd s n e2 r=>exact k a ⟨kws,hd,s,NX (e'.symm.trans e)▸e2,NX (e'.symm.trans e)▸r⟩
 |FE=>cases e
 |snd _ a kws hd s _ e2 r=>exact k a ⟨kws,hd,s,NX e▸e2,NX e▸r⟩
@[elab_as_elim] theorem u6 {b:Int} (x:VR T U bad f7 h v w) (e:z5 v=some b) (k:∀t,G (.int b t)):G w:=by obtain rfl:=gU e;exact VR.u6 x k
@[elab_as_elim] theorem n8 {b:Txt} (x:VR T U bad f7 h v w) (e:r6 v=some b) (k:∀t,t6 b=true->G (.str (i3 b) t)):G w:=by obtain rfl:=U8 e;exact VR.n8 x k
@[elab_as_elim] theorem H7 {b:Bool} (x:VR T U bad f7 h v w) (e:L6 v=some b) (k:G (.bool b)):G w:=by obtain rfl:=cL e;exact VR.H7 x k
@[elab_as_elim] theorem J0 {b:Unit} (x:VR T U bad f7 h v w) (e:F7 v=some b) (k:G .none):G w:=by obtain rfl:=cK e;exact VR.J0 x k
@[elab_as_elim] theorem F5 {b:List Nat} (x:VR T U bad f7 h v w) (e:H9 v=some b) (k:∀a t,a.toList.map UInt8.toNat=b->G (.bytes a t)):G w:=by obtain rfl:=aA e;exact VR.F5 x k
@[elab_as_elim] theorem A8 {b:Nat} (x:VR T U bad f7 h v w) (e:L5 v=some b) (k:∀a,U[b]? =some a->G (.ref a)):G w:=by obtain rfl:=U9 e;exact VR.A8 x k
@[elab_as_elim] theorem E6 {b:List V} (x:VR T U bad f7 h v w) (e:N0 v=some b) (k:∀a ws,mA h a ws->¬bad a->z1 T U bad h b ws->G (.ref a)):G w:=by obtain rfl:=bF e;exact VR.E6 x k
@[elab_as_elim] theorem kf {b:Nat×Fr} (x:VR T U bad f7 h v w) (e:jP v=some b) (k:∀a,Fh T U bad h b.1 b.2 a->G (.ref a)):G w:=by obtain rfl:=pM e;exact VR.kf x k
theorem z1.length {xs:List V} {ws:List Value} (x:z1 T U bad h xs ws):ws.length=xs.length:=by
 induction xs generalizing ws with
 |nil=>cases x;rfl
 |cons v r ih=>cases x with|cons _ w _ ws _ _ q=>exact Oh (· +1) (ih q)
theorem z1.append {xs ys:List V} {ws us:List Value} (x:z1 T U bad h xs ws) (y:z1 T U bad h ys us):z1 T U bad h (xs++ys) (ws++us):=by
 induction xs generalizing ws with
 |nil=>cases x;exact y
 |cons v r ih=>cases x with|cons _ w _ ws g a q=>exact .cons _ _ _ _ g a (ih q)
theorem z1.at {xs:List V} {ws:List Value} {j:Nat} {v:V} {G:Prop} (x:z1 T U bad h xs ws) (e:xs[j]? =some v) (k:∀w,ws[j]? =some w->solid v=true->VS T U bad h v w->G):G:=by
 induction j generalizing xs ws with
 |zero=>cases x with
  |nil=>cases e
  |cons _ w _ _ g a _=>cases e;exact k w rfl g a
 |succ j ih=>cases x with
  |nil=>cases e
  |cons _ _ _ _ _ _ q=>exact ih q e k
structure J9 {κ K:Type} (T:i7) (U:List Addr) (bad:Addr->Prop) (h:Heap) (key:κ->K) (kvs:List (κ×V)) (kws:List (K×Value)):Prop where
 e:kws.map Prod.fst=kvs.map fun p=>key p.1
 r:z1 T U bad h (kvs.map Prod.snd) (kws.map Prod.snd)
section
variable {κ K:Type} {key:κ->K} {kvs kvs':List (κ×V)} {kws kws':List (K×Value)}
@[elab_as_elim] theorem J9.aO {Q:List (κ×V)->List (K×Value)->Prop} (x:J9 T U bad h key kvs kws) (h0:Q [] []) (h1:∀p w r es,solid p.2=true->VS T U bad h p.2 w->J9 T U bad h key r es->Q r es->Q (p::r) ((key p.1,w)::es)):Q kvs kws:=by
 obtain⟨e,r⟩:=x
 induction kvs generalizing kws with
 |nil=>induction kws with
  |nil=>exact h0
  |cons=>cases e
 |cons p l ih=>cases kws with
  |nil=>cases e
  |cons q es=>induction q with|mk y w=>cases r with|cons _ _ _ _ g a r=>(have e1:y=key p.1:=(List.cons.inj e).1);subst e1;exact h1 p w l es g a ⟨(List.cons.inj e).2,r⟩ (ih (List.cons.inj e).2 r)
theorem J9.nil:J9 T U bad h key [] []:=⟨rfl,.nil⟩
theorem J9.cons {p:κ×V} (g:solid p.2=true) (a:VS T U bad h p.2 w) (x:J9 T U bad h key kvs kws):J9 T U bad h key (p::kvs) ((key p.1,w)::kws):=⟨Oh (_:: ·) x.e,.cons _ _ _ _ g a x.r⟩
theorem J9.append (x:J9 T U bad h key kvs kws) (y:J9 T U bad h key kvs' kws'):J9 T U bad h key (kvs++kvs') (kws++kws'):=x.aO y fun p w J J g a J ih=>.cons g a ih
theorem J9.ms {d7:List Addr} {bad' S:Addr->Prop} {h':Heap} (x:J9 T U bad h key kvs kws) (m:Ms U d7 bad bad' S h h'):J9 T d7 bad' h' key kvs kws:=⟨x.e,x.r.ms m⟩
variable [DecidableEq K]
theorem i6 (k q:K) (v:Value) (r:List (K×Value)):valueAt ((q,v)::r) k=if q=k then some v else valueAt r k:=by
 unfold valueAt
 by_cases h:q=k
 ·simp[h]
 ·simp[h]
variable {eq:κ->κ->Bool} (he:∀a b,eq a b=decide (key a=key b))
include he
theorem J9.look (x:J9 T U bad h key kvs kws) (k:κ):B0 T U bad h (R8 eq kvs k) (valueAt kws (key k)):=by
 refine x.aO .none fun p w r es g a J ih=>?_
 rw[i6]
 show B0 T U bad h (bif eq p.1 k then some p.2 else R8 eq r k) _
 rw[he]
 by_cases e:key p.1=key k
 ·rw[OB e,decide_eq_true e];exact .some _ _ g a
 ·rw[OC e,decide_eq_false e];exact ih
theorem J9.set (x:J9 T U bad h key kvs kws) {k:κ} {v:V} {w:Value} (g:solid v=true) (a:VS T U bad h v w):J9 T U bad h key (qy eq kvs k v) (stored kws (key k) w):=by
 have hany:kws.any (fun kv=>decide (kv.1=key k))=kvs.any fun p=>eq p.1 k:=x.aO rfl fun p w r es J J J ih=>by rw[List.any_cons,List.any_cons,ih,he]
 unfold qy stored
 rw[←hany]
 induction kws.any (fun kv=>decide (kv.1=key k))with
 |false=>exact x.append (.cons (p:=(k,v)) g a .nil)
 |true=>
  refine x.aO .nil fun p u r es g' a' J ih=>?_
  show J9 T U bad h key ((bif eq p.1 k then(p.1,v)else p)::_) ((if key p.1=key k then(key p.1,w)else(key p.1,u))::_)
  rw[he]
  by_cases e:key p.1=key k
  ·rw[OB e,decide_eq_true e];exact .cons (p:=(p.1,v)) g a ih
  ·rw[OC e,decide_eq_false e];exact .cons g' a' ih
end
theorem B0.W6 {b:V} {x:Option Value} (r:B0 T U bad h (Option.some b) x) {G:Prop} (k:∀w,x=Option.some w->solid b=true->VS T U bad h b w->G):G:=by
 cases r with|some _ w g a=>exact k w rfl g a
theorem B0.isSome {o:Option V} {x:Option Value} (r:B0 T U bad h o x):x.isSome=c3 o:=by induction r<;>rfl
theorem B0.aS {x:Option Value} (r:B0 T U bad h Option.none x):x=Option.none:=by cases r;rfl
end
theorem D0:∀{a b:Txt},r5 a b=true↔a=b:=@fun a=>by
 induction a with
 |nil=>intro b;induction b<;>simp[r5]
 |cons x r ih=>intro b;induction b<;>simp[r5,ih]
theorem D1 (a b:Txt):r5 a b=decide (i3 a=i3 b):=by
 cases e:r5 a b with
 |true=>rw[D0.mp e,decide_eq_true rfl]
 |false=>exact(decide_eq_false fun q=>by rw[dD q,D0.mpr rfl]at e;cases e).symm
theorem ll (a b:Int):Iu a b=decide (a=b):=rfl
end Mine
end
section
set_option backward.match.sparseCases false
open PySem PySem.W PyProof.Rows PySem.Calls
namespace Mine
noncomputable abbrev Ex:=PySem.Expr
noncomputable def Gd:Io->PySem.Operator
 |.add=>.Add|.sub=>.Sub|.mul=>.Mult|.mod=>.Mod|.pow=>.Pow|.shl=>.LShift|.shr=>.RShift|.band=>.BitAnd|.fdiv=>.FloorDiv
noncomputable def M8:hV->PySem.CmpOp
 |.eq=>.Eq|.ne=>.NotEq|.lt=>.Lt|.le=>.LtE|.gt=>.Gt|.ge=>.GtE|.is=>.Is|.M5=>.IsNot|.ik=>.In|.R7=>.NotIn
noncomputable def C5 (kd:Kd) (csc:Scope):Kd:=fun n=>(csc.names.map fun(p:Str×NameKind)=>if p.2 ==.free&&(kd p.1 == some .cell)then(p.1,NameKind.cell)else p).lookup n
noncomputable def I1:Ex->Bool
 |.Call (.Name id _) [] [] _=>id != "super"
 |_=>true
noncomputable def y4 (id:Str):Bool:=!(id ==("__debug__":Str))&&!(id ==("__classdict__":Str))
structure DZ (T:i7) (NT:Str) (C:Addr):Prop where
 g:plainGet T.K C NT=true
 d:hasDictIn T.K C=true
 f:findIn T.K (.ref C) NT=some none
structure AV (T:i7) (NT:Str) (C:Addr):Prop where
 s:findIn T.K (.ref C) "__setattr__"=some (some (.builtin "object.__setattr__"))
 o:plainOver T.K C=true
 t:takerIn T.K C NT=some none
 d:hasDictIn T.K C=true
noncomputable def T6 (k:NameKind):Bool:=k ==.local || k ==.cell || k ==.free
noncomputable def f6 {α:Type} (o:Option α) (f:α->Bool):Bool:=match o with
 |some a=>f a
 |none=>false
noncomputable def all2 {α β:Type} (f:α->β->Bool):List α->List β->Bool
 | [],[]=>true
 |a::as,b::bs=>f a b&&all2 f as bs
 |_,_=>false
theorem b7 {α:Type} {o:Option α} {f:α->Bool} {G:Prop} (h:f6 o f=true) (k:∀a,o=some a->f a=true->G):G:=by
 induction o with
 |none=>exact Bool.noConfusion h
 |some a=>exact k a rfl h
theorem a7 {a b:Bool} {G:Prop} (h:(a&&b)=true) (k:a=true->b=true->G):G:=by
 induction a with
 |false=>exact Bool.noConfusion h
 |true=>exact k rfl h
noncomputable def I4 {α β:Type} (f:α->Nat) (n:Nat) (g:(a:α)->f a=n->Option β) (a:α):Option β:=dite (f a=n) (g a) fun J=>none
theorem o2 {α β:Type} {f:α->Nat} {n:Nat} {g:(a:α)->f a=n->Option β} {a:α} {x:β} {G:Prop} (e:I4 f n g a=some x) (k:∀h,g a h=some x->G):G:=(inferInstance:Decidable (f a=n)).byCases (fun h=>k h ((dif_pos h).symm.trans e)) fun h=>ns ((dif_neg h).symm.trans e)
noncomputable def qV {α β:Type} (l:List α) (o:Option β):Option β:=List.casesOn l o fun J J=>none
theorem ko {α β:Type} {l:List α} {o:Option β} {x:β} {G:Prop} (e:qV l o=some x) (k:l=[]->o=some x->G):G:=by
 induction l with
 |nil=>exact k rfl e
 |cons=>exact ns e
noncomputable def nX {α β:Type} (l:Option α) (o:Option β):Option β:=Option.casesOn l o fun J=>none
theorem nV {α β:Type} {l:Option α} {o:Option β} {x:β} {G:Prop} (e:nX l o=some x) (k:l=none->o=some x->G):G:=by
 induction l with
 |none=>exact k rfl e
 |some=>exact ns e
noncomputable def y5:Ex->Option (Str×Pos):=I4 PySem.Expr.ctorIdx 23 fun e h=>PySem.Expr.Name.elim e h fun a p=>some (a,p)
noncomputable def gW:Ex->Option (Const×Nat×Pos):=I4 PySem.Expr.ctorIdx 19 fun e h=>PySem.Expr.Constant.elim e h fun a b p=>some (a,b,p)
noncomputable def AP:Ex->Option (Ex×Operator×Ex×Pos):=I4 PySem.Expr.ctorIdx 2 fun e h=>PySem.Expr.BinOp.elim e h fun a o b p=>some (a,o,b,p)
noncomputable def AH:Ex->Option (UnaryOp×Ex×Pos):=I4 PySem.Expr.ctorIdx 3 fun e h=>PySem.Expr.UnaryOp.elim e h fun o a p=>some (o,a,p)
noncomputable def lW:Ex->Option (BoolOp×List Ex×Pos):=I4 PySem.Expr.ctorIdx 0 fun e h=>PySem.Expr.BoolOp.elim e h fun o a p=>some (o,a,p)
noncomputable def AN:Ex->Option (Ex×List CmpOp×List Ex×Pos):=I4 PySem.Expr.ctorIdx 15 fun e h=>PySem.Expr.Compare.elim e h fun l o a p=>some (l,o,a,p)
noncomputable def Fe:Ex->Option (Ex×Ex×Ex×Pos):=I4 PySem.Expr.ctorIdx 5 fun e h=>PySem.Expr.IfExp.elim e h fun t b a p=>some (t,b,a,p)
noncomputable def H8:Ex->Option (Ex×List Ex×Pos):=I4 PySem.Expr.ctorIdx 16 fun e h=>PySem.Expr.Call.elim e h fun f a k p=>qV k (some (f,a,p))
noncomputable def X8:Ex->Option (Ex×Str×Pos):=I4 PySem.Expr.ctorIdx 20 fun e h=>PySem.Expr.Attribute.elim e h fun o a p=>some (o,a,p)
noncomputable def gS:Ex->Option (Ex×Ex×Pos):=I4 PySem.Expr.ctorIdx 21 fun e h=>PySem.Expr.Subscript.elim e h fun o a p=>some (o,a,p)
noncomputable def pJ:Ex->Option (Option Ex×Option Ex×Pos):=I4 PySem.Expr.ctorIdx 26 fun e h=>PySem.Expr.Slice.elim e h fun l a k p=>nX k (some (l,a,p))
noncomputable def lT:Ex->Option (List Ex×Pos):=I4 PySem.Expr.ctorIdx 24 fun e h=>PySem.Expr.List.elim e h fun a p=>some (a,p)
noncomputable def R3:Ex->Option (List Ex×Nat×Pos):=I4 PySem.Expr.ctorIdx 25 fun e h=>PySem.Expr.Tuple.elim e h fun a k p=>some (a,k,p)
noncomputable def lV:Ex->Option (List (Option Ex)×List Ex×Pos):=I4 PySem.Expr.ctorIdx 6 fun e h=>PySem.Expr.Dict.elim e h fun k a p=>some (k,a,p)
noncomputable def eH:Ex->Option (Ex×List Comprehension×Scope×Pos):=I4 PySem.Expr.ctorIdx 8 fun e h=>PySem.Expr.ListComp.elim e h fun a g c p=>some (a,g,c,p)
noncomputable def AJ:Ex->Option (PySem.Arguments×Ex×Scope×Pos):=I4 PySem.Expr.ctorIdx 4 fun e h=>PySem.Expr.Lambda.elim e h fun a b c p=>some (a,b,c,p)
noncomputable def Ez:List Ex->Option (Option Ex)
 | []=>some none
 |c::l=>if l.isEmpty then some (some c)else none
theorem zC {l:List Ex} {c:Option Ex} (h:Ez l=some c):l=c.toList:=by
 induction l with
 |nil=>cases h;rfl
 |cons a r=>induction r with
  |nil=>cases h;rfl
  |cons=>cases h
section
variable {e:Ex}
theorem q9 {q:Str×Pos} (h:y5 e=some q):e=.Name q.1 q.2:=o2 h fun i z=>PySem.Expr.Name.elim (motive_1:=fun e=>∀i,PySem.Expr.Name.elim (motive_1:=fun J=>Option (Str×Pos)) e i (fun a p=>some (a,p))=some q->e=.Name q.1 q.2) e i (fun a p J z=>(NX z:(a,p)=q)▸rfl) i z
theorem dm {q:Const×Nat×Pos} (h:gW e=some q):e=.Constant q.1 q.2.1 q.2.2:=o2 h fun i z=>PySem.Expr.Constant.elim (motive_1:=fun e=>∀i,PySem.Expr.Constant.elim (motive_1:=fun J=>Option (Const×Nat×Pos)) e i (fun a b p=>some (a,b,p))=some q->e=.Constant q.1 q.2.1 q.2.2) e i (fun a b p J z=>(NX z:(a,b,p)=q)▸rfl) i z
theorem xh {q:Ex×Operator×Ex×Pos} (h:AP e=some q):e=.BinOp q.1 q.2.1 q.2.2.1 q.2.2.2:=o2 h fun i z=>PySem.Expr.BinOp.elim (motive_1:=fun e=>∀i,PySem.Expr.BinOp.elim (motive_1:=fun J=>Option (Ex×Operator×Ex×Pos)) e i (fun a o b p=>some (a,o,b,p))=some q->e=.BinOp q.1 q.2.1 q.2.2.1 q.2.2.2) e i (fun a o b p J z=>(NX z:(a,o,b,p)=q)▸rfl) i z
theorem pH {q:UnaryOp×Ex×Pos} (h:AH e=some q):e=.UnaryOp q.1 q.2.1 q.2.2:=o2 h fun i z=>PySem.Expr.UnaryOp.elim (motive_1:=fun e=>∀i,PySem.Expr.UnaryOp.elim (motive_1:=fun J=>Option (UnaryOp×Ex×Pos)) e i (fun o a p=>some (o,a,p))=some q->e=.UnaryOp q.1 q.2.1 q.2.2) e i (fun o a p J z=>(NX z:(o,a,p)=q)▸rfl) i z
theorem gY {q:BoolOp×List Ex×Pos} (h:lW e=some q):e=.BoolOp q.1 q.2.1 q.2.2:=o2 h fun i z=>PySem.Expr.BoolOp.elim (motive_1:=fun e=>∀i,PySem.Expr.BoolOp.elim (motive_1:=fun J=>Option (BoolOp×List Ex×Pos)) e i (fun o a p=>some (o,a,p))=some q->e=.BoolOp q.1 q.2.1 q.2.2) e i (fun o a p J z=>(NX z:(o,a,p)=q)▸rfl) i z
theorem xf {q:Ex×List CmpOp×List Ex×Pos} (h:AN e=some q):e=.Compare q.1 q.2.1 q.2.2.1 q.2.2.2:=o2 h fun i z=>PySem.Expr.Compare.elim (motive_1:=fun e=>∀i,PySem.Expr.Compare.elim (motive_1:=fun J=>Option (Ex×List CmpOp×List Ex×Pos)) e i (fun l o a p=>some (l,o,a,p))=some q->e=.Compare q.1 q.2.1 q.2.2.1 q.2.2.2) e i (fun l o a p J z=>(NX z:(l,o,a,p)=q)▸rfl) i z
theorem AL {q:Ex×Ex×Ex×Pos} (h:Fe e=some q):e=.IfExp q.1 q.2.1 q.2.2.1 q.2.2.2:=o2 h fun i z=>PySem.Expr.IfExp.elim (motive_1:=fun e=>∀i,PySem.Expr.IfExp.elim (motive_1:=fun J=>Option (Ex×Ex×Ex×Pos)) e i (fun t b a p=>some (t,b,a,p))=some q->e=.IfExp q.1 q.2.1 q.2.2.1 q.2.2.2) e i (fun t b a p J z=>(NX z:(t,b,a,p)=q)▸rfl) i z
theorem z9 {q:Ex×List Ex×Pos} (h:H8 e=some q):e=.Call q.1 q.2.1 [] q.2.2:=o2 h fun i z=>PySem.Expr.Call.elim (motive_1:=fun e=>∀i,PySem.Expr.Call.elim (motive_1:=fun J=>Option (Ex×List Ex×Pos)) e i (fun f a k p=>qV k (some (f,a,p)))=some q->e=.Call q.1 q.2.1 [] q.2.2) e i (fun f a k p J z=>ko z fun y z=>by subst y;exact(NX z:(f,a,p)=q)▸rfl) i z
theorem L7 {q:Ex×Str×Pos} (h:X8 e=some q):e=.Attribute q.1 q.2.1 q.2.2:=o2 h fun i z=>PySem.Expr.Attribute.elim (motive_1:=fun e=>∀i,PySem.Expr.Attribute.elim (motive_1:=fun J=>Option (Ex×Str×Pos)) e i (fun o a p=>some (o,a,p))=some q->e=.Attribute q.1 q.2.1 q.2.2) e i (fun o a p J z=>(NX z:(o,a,p)=q)▸rfl) i z
theorem X7 {q:Ex×Ex×Pos} (h:gS e=some q):e=.Subscript q.1 q.2.1 q.2.2:=o2 h fun i z=>PySem.Expr.Subscript.elim (motive_1:=fun e=>∀i,PySem.Expr.Subscript.elim (motive_1:=fun J=>Option (Ex×Ex×Pos)) e i (fun o a p=>some (o,a,p))=some q->e=.Subscript q.1 q.2.1 q.2.2) e i (fun o a p J z=>(NX z:(o,a,p)=q)▸rfl) i z
theorem pI {q:Option Ex×Option Ex×Pos} (h:pJ e=some q):e=.Slice q.1 q.2.1 none q.2.2:=o2 h fun i z=>PySem.Expr.Slice.elim (motive_1:=fun e=>∀i,PySem.Expr.Slice.elim (motive_1:=fun J=>Option (Option Ex×Option Ex×Pos)) e i (fun l a k p=>nX k (some (l,a,p)))=some q->e=.Slice q.1 q.2.1 none q.2.2) e i (fun l a k p J z=>nV z fun y z=>by subst y;exact(NX z:(l,a,p)=q)▸rfl) i z
theorem gT {q:List Ex×Pos} (h:lT e=some q):e=.List q.1 q.2:=o2 h fun i z=>PySem.Expr.List.elim (motive_1:=fun e=>∀i,PySem.Expr.List.elim (motive_1:=fun J=>Option (List Ex×Pos)) e i (fun a p=>some (a,p))=some q->e=.List q.1 q.2) e i (fun a p J z=>(NX z:(a,p)=q)▸rfl) i z
theorem G9 {q:List Ex×Nat×Pos} (h:R3 e=some q):e=.Tuple q.1 q.2.1 q.2.2:=o2 h fun i z=>PySem.Expr.Tuple.elim (motive_1:=fun e=>∀i,PySem.Expr.Tuple.elim (motive_1:=fun J=>Option (List Ex×Nat×Pos)) e i (fun a k p=>some (a,k,p))=some q->e=.Tuple q.1 q.2.1 q.2.2) e i (fun a k p J z=>(NX z:(a,k,p)=q)▸rfl) i z
theorem gV {q:List (Option Ex)×List Ex×Pos} (h:lV e=some q):e=.Dict q.1 q.2.1 q.2.2:=o2 h fun i z=>PySem.Expr.Dict.elim (motive_1:=fun e=>∀i,PySem.Expr.Dict.elim (motive_1:=fun J=>Option (List (Option Ex)×List Ex×Pos)) e i (fun k a p=>some (k,a,p))=some q->e=.Dict q.1 q.2.1 q.2.2) e i (fun k a p J z=>(NX z:(k,a,p)=q)▸rfl) i z
theorem gX {q:Ex×List Comprehension×Scope×Pos} (h:eH e=some q):e=.ListComp q.1 q.2.1 q.2.2.1 q.2.2.2:=o2 h fun i z=>PySem.Expr.ListComp.elim (motive_1:=fun e=>∀i,PySem.Expr.ListComp.elim (motive_1:=fun J=>Option (Ex×List Comprehension×Scope×Pos)) e i (fun a g c p=>some (a,g,c,p))=some q->e=.ListComp q.1 q.2.1 q.2.2.1 q.2.2.2) e i (fun a g c p J z=>(NX z:(a,g,c,p)=q)▸rfl) i z
theorem xc {q:PySem.Arguments×Ex×Scope×Pos} (h:AJ e=some q):e=.Lambda q.1 q.2.1 q.2.2.1 q.2.2.2:=o2 h fun i z=>PySem.Expr.Lambda.elim (motive_1:=fun e=>∀i,PySem.Expr.Lambda.elim (motive_1:=fun J=>Option (PySem.Arguments×Ex×Scope×Pos)) e i (fun a b c p=>some (a,b,c,p))=some q->e=.Lambda q.1 q.2.1 q.2.2.1 q.2.2.2) e i (fun a b c p J z=>(NX z:(a,b,c,p)=q)▸rfl) i z
end
noncomputable abbrev ck:PySem.Arguments:={posonlyargs:=[],args:=[],vararg:=none,kwonlyargs:=[],kw_defaults:=[],kwarg:=none,defaults:=[]}
noncomputable def kl (a:PySem.Arguments):Bool:=a.posonlyargs.isEmpty&&a.args.isEmpty&&a.vararg.isNone&&a.kwonlyargs.isEmpty&&a.kw_defaults.isEmpty&&a.kwarg.isNone&&a.defaults.isEmpty
noncomputable def DD (T:i7) (kd:Kd) (x:Nat) (id:Str):Bool:=decide (T.nm x=id)&&(y4 id&&(match d6 T.glob x with
 |some _=>decide (kd id=some .globalImplicit)
 |none=>f6 (kd id) T6))
noncomputable def GG (v:V):Const->Bool
 |.none=>(F7 v).isSome
 |.bool b=>f6 (L6 v) fun x=>decide (x=b)
 |.int b=>f6 (z5 v) fun x=>decide (x=b)
 |.str b=>f6 (r6 v) fun x=>decide (i3 x=b)&&t6 x
 |.bytes b=>f6 (H9 v) fun x=>decide (b.map UInt8.toNat=x)
 |_=>false
noncomputable def gR (T:i7) (kd:Kd) (x:Nat) (id:Str):Bool:=decide (T.nm x=id)&&(decide (kd id=some .local)&&(d6 T.glob x).isNone)
noncomputable def HE (T:i7) (kd:Kd) (xs:List Nat) (e:Ex):Bool:=match xs with
 | [x]=>f6 (y5 e) fun q=>gR T kd x q.1
 | [x,y]=>f6 (R3 e) fun q=>f6 (two1 q.1) fun r=>f6 (y5 r.1) fun a=>f6 (y5 r.2) fun b=>gR T kd x a.1&&gR T kd y b.1
 |_=>false
noncomputable def uo (T:i7) (kd:Kd) (xs:List Nat) (sc:Scope):Bool:=decide (sc.kind=.function)&&(sc.names.all (fun x=>!decide (x.2=.local)|| decide (sc.names.lookup x.1=some .local))&&(sc.names.all (fun x=>!decide (x.2=.cell))&&
 (sc.names.all (fun x=>!decide (x.2=.free)|| decide (kd x.1=some .cell))&&(sc.names.all (fun p=>!decide (p.2=.local)||(decide (p.1= ".0")|| xs.any fun x=>decide (T.nm x=p.1)))&&(T.lam (C5 kd sc)).isNone))))
noncomputable def Aq (T:i7) (kd:Kd) (sc:Scope):Bool:=decide (sc.kind=.function)&&(!sc.isGenerator&&(!sc.isCoroutine&&(sc.names.all (fun x=>!decide (x.2=.cell)&&!decide (x.2=.local))&&(sc.names.all (fun x=>!decide (x.2=.free)|| decide (kd x.1=some .cell))&&(T.lam fun n=>sc.names.lookup n).isNone))))
noncomputable def DC (f:X->Ex->Bool) (x:Option X) (e:Option Ex):Bool:=match x with
 |none=>e.isNone
 |some x=>f6 e (f x)
noncomputable def DB (f:X->Ex->Bool):List (X×X)->List (Option Ex)->List Ex->Bool
 | [],[],[]=>true
 |p::es,some k::ks,v::vs=>f p.1 k&&(f p.2 v&&DB f es ks vs)
 |_,_,_=>false
noncomputable def HF (f:X->Ex->Bool):List (hV×X)->List CmpOp->List Ex->Bool
 | [],[],[]=>true
 |p::es,o::os,v::vs=>decide (M8 p.1=o)&&(f p.2 v&&HF f es os vs)
 |_,_,_=>false
noncomputable def Mi (kd:Kd) (id:Str) (s:String):Bool:=decide (id=s)&&decide (kd s=some .globalImplicit)
noncomputable def rW (f:X->Ex->Bool) (kd:Kd) (src:mq) (it:List X) (e:Ex):Bool:=match src with
 |.val=>f6 (y0 it) fun x=>f x e
 |.enum=>f6 (H8 e) fun q=>f6 (y5 q.1) fun r=>Mi kd r.1 "enumerate" &&all2 f it q.2.1
 |.range=>f6 (H8 e) fun q=>f6 (y5 q.1) fun r=>Mi kd r.1 "range" &&(Nat.ble it.length 3&&all2 f it q.2.1)
noncomputable def r4 (T:i7):Nat->Kd->X->Ex->Bool
 |0,_,_,_=>false
 |n+1,kd,x,e=>match x with
  |.lit v=>f6 (gW e) fun q=>GG v q.1
  |.NT x=>f6 (y5 e) fun q=>DD T kd x q.1
  |.bin op l r=>f6 (AP e) fun q=>decide (Gd op=q.2.1)&&(r4 T n kd l q.1&&r4 T n kd r q.2.2.1)
  |.not x=>f6 (AH e) fun q=>decide (q.1=.Not)&&r4 T n kd x q.2.1
  |.neg x=>f6 (AH e) fun q=>decide (q.1=.USub)&&r4 T n kd x q.2.1
  |.R5 xs=>f6 (lW e) fun q=>decide (q.1=.And)&&all2 (r4 T n kd) xs q.2.1
  |.mw xs=>f6 (lW e) fun q=>decide (q.1=.Or)&&all2 (r4 T n kd) xs q.2.1
  |.cmp l rs=>f6 (AN e) fun q=>r4 T n kd l q.1&&HF (r4 T n kd) rs q.2.1 q.2.2.1
  |.ite t b f=>f6 (Fe e) fun q=>r4 T n kd t q.1&&(r4 T n kd b q.2.1&&r4 T n kd f q.2.2.1)
  |.call f xs=>f6 (H8 e) fun q=>f6 (y5 q.1) fun r=>r4 T n kd f (.Name r.1 r.2)&&(all2 (r4 T n kd) xs q.2.1&&Nat.ble xs.length 12)
  |.l5 o m xs=>f6 (H8 e) fun q=>f6 (X8 q.1) fun r=>decide (T.nm m=r.2.1)&&(r4 T n kd o r.1&&(all2 (r4 T n kd) xs q.2.1&&(I1 r.1&&((r.2.2.endLine == q.2.2.line)&&Nat.ble xs.length 12))))
  |.attr o a=>f6 (X8 e) fun q=>decide (T.nm a=q.2.1)&&(r4 T n kd o q.1&&(I1 q.1&&T.AF.any fun s=>decide (s=T.nm a)))
  |.sub o i=>f6 (gS e) fun q=>r4 T n kd o q.1&&r4 T n kd i q.2.1
  |.slice o lo hi=>f6 (gS e) fun q=>f6 (pJ q.2.1) fun r=>r4 T n kd o q.1&&(DC (r4 T n kd) lo r.1&&DC (r4 T n kd) hi r.2.1)
  |.list xs=>f6 (lT e) fun q=>all2 (r4 T n kd) xs q.1
  |.Y5 xs=>f6 (lT e) fun q=>all2 (r4 T n kd) xs q.1
  |.tuple xs=>f6 (R3 e) fun q=>all2 (r4 T n kd) xs q.1
  |.dict kvs=>f6 (lV e) fun q=>DB (r4 T n kd) kvs q.1 q.2.1&&Nat.ble kvs.length 15
  |.K4 kvs=>f6 (lV e) fun q=>DB (r4 T n kd) kvs q.1 q.2.1&&Nat.ble kvs.length 15
  |.comp _ elt xs src it cond=>f6 (eH e) fun q=>f6 (y0 q.2.1) fun g=>f6 (Ez g.ifs) fun c=>decide (g.is_async=0)&&(rW (r4 T n kd) kd src it g.iter&&(HE T (C5 kd q.2.2.1) xs g.target&&
   (r4 T n (C5 kd q.2.2.1) elt q.1&&(DC (r4 T n (C5 kd q.2.2.1)) cond c&&uo T kd xs q.2.2.1))))
  |.A2 b=>f6 (H8 e) fun q=>f6 (y5 q.1) fun r=>f6 (y0 q.2.1) fun a=>f6 (AJ a) fun l=>(T.lam kd).isSome&&(decide (r.1=T.Q0)&&(kl l.1&&(decide (kd T.Q0=some .globalImplicit)&&(Aq T kd l.2.2.1&&r4 T n (fun n=>l.2.2.1.names.lookup n) b l.2.1))))
  |.l4 o=>f6 (H8 e) fun q=>f6 (y5 q.1) fun r=>f6 (y0 q.2.1) fun a=>f6 (H8 a) fun c=>f6 (X8 c.1) fun d=>Mi kd r.1 "sorted" &&(decide (d.2.1=("items":Str))&&(decide (c.2.1=[])&&(r4 T n kd o d.1&&(I1 d.1&&(d.2.2.endLine == c.2.2.line)))))
def Tr (T:i7) (kd:Kd) (x:X) (e:Ex):Prop:=∃n,r4 T (n+1) kd x e=true
end Mine
end
section
open PySem PySem.W PyProof.Rows PySem.Calls
namespace Mine
variable {T:i7} {kd:Kd} {n:Nat} {x:X}
section
variable {G:Ex->Prop} {e:Ex}
theorem Tr.of (h:r4 T n kd x e=true):Tr T kd x e:=by
 induction n with
 |zero=>exact Bool.noConfusion h
 |succ n=>exact⟨n,h⟩
inductive Z2 (T:i7) (kd:Kd):List X->List Ex->Prop
 |nil:Z2 T kd [] []
 |cons (x:X) (e:Ex) (xs:List X) (es:List Ex):Tr T kd x e->Z2 T kd xs es->Z2 T kd (x::xs) (e::es)
inductive Ff (T:i7) (kd:Kd):List (hV×X)->List Ex->Prop
 |nil:Ff T kd [] []
 |cons (q:hV×X) (e:Ex) (xs:List (hV×X)) (es:List Ex):Tr T kd q.2 e->Ff T kd xs es->Ff T kd (q::xs) (e::es)
inductive Bk (T:i7) (kd:Kd):List (X×X)->List Ex->List Ex->Prop
 |nil:Bk T kd [] [] []
 |cons (q:X×X) (k e:Ex) (xs:List (X×X)) (ks es:List Ex):Tr T kd q.1 k->Tr T kd q.2 e->Bk T kd xs ks es->Bk T kd (q::xs) (k::ks) (e::es)
inductive AU (T:i7) (kd:Kd):Option X->Option Ex->Prop
 |none:AU T kd none none
 |some (x:X) (e:Ex):Tr T kd x e->AU T kd (some x) (some e)
theorem K0 {xs:List X} {es:List Ex} (h:all2 (r4 T n kd) xs es=true):Z2 T kd xs es:=by
 induction xs generalizing es with
 |nil=>induction es with
  |nil=>exact .nil
  |cons=>exact Bool.noConfusion h
 |cons x xs ih=>induction es with
  |nil=>exact Bool.noConfusion h
  |cons e es=>exact a7 h fun h1 h2=>.cons x e xs es (.of h1) (ih h2)
theorem xJ {xs:List (hV×X)} {os:List CmpOp} {es:List Ex} (h:HF (r4 T n kd) xs os es=true):os=xs.map (fun q=>M8 q.1)∧Ff T kd xs es:=by
 induction xs generalizing os es with
 |nil=>induction os with
  |nil=>induction es with
   |nil=>exact⟨rfl,.nil⟩
   |cons=>exact Bool.noConfusion h
  |cons=>exact Bool.noConfusion h
 |cons x xs ih=>induction os with
  |nil=>exact Bool.noConfusion h
  |cons o os=>induction es with
   |nil=>exact Bool.noConfusion h
   |cons e es=>exact a7 h fun h1 h=>a7 h fun h2 h3=>⟨NZ h1▸Oh (_:: ·) (ih h3).1,.cons x e xs es (.of h2) (ih h3).2⟩
theorem xH {xs:List (X×X)} {os:List (Option Ex)} {es:List Ex} (h:DB (r4 T n kd) xs os es=true):∃ks,os=ks.map some∧Bk T kd xs ks es:=by
 induction xs generalizing os es with
 |nil=>induction os with
  |nil=>induction es with
   |nil=>exact⟨[],rfl,.nil⟩
   |cons=>exact Bool.noConfusion h
  |cons=>exact Bool.noConfusion h
 |cons x xs ih=>induction os with
  |nil=>exact Bool.noConfusion h
  |cons o os=>induction o with
   |none=>exact Bool.noConfusion h
   |some o=>induction es with
    |nil=>exact Bool.noConfusion h
    |cons e es=>exact a7 h fun h1 h=>a7 h fun h2 h3=>(ih h3).elim fun ks q=>⟨o::ks,Oh (_:: ·) q.1,.cons x o e xs ks es (.of h1) (.of h2) q.2⟩
theorem qj {x:Option X} {e:Option Ex} (h:DC (r4 T n kd) x e=true):AU T kd x e:=by
 induction x with
 |none=>cases e with
  |none=>exact .none
  |some=>exact Bool.noConfusion h
 |some x=>exact b7 h fun a q h=>q▸.some x a (.of h)
theorem Z2.len {xs:List X} {es:List Ex} (t:Z2 T kd xs es):es.length=xs.length:=by induction t with
 |nil=>rfl
 |cons _ _ _ _ _ _ ih=>exact Oh (· +1) ih
@[elab_as_elim] theorem Tr.rh {v:V} (t:Tr T kd (.lit v) e) (k:∀c i p,GG v c=true->G (.Constant c i p)):G e:=t.elim fun n h=>b7 h fun q e h=>by rw[dm e];exact k _ _ _ h
@[elab_as_elim] theorem Tr.P5 {x:Nat} (t:Tr T kd (.NT x) e) (k:∀p,y4 (T.nm x)=true->(∀v,d6 T.glob x=some v->kd (T.nm x)=some .globalImplicit)->(d6 T.glob x=none->f6 (kd (T.nm x)) T6=true)->G (.Name (T.nm x) p)):G e:=
 t.elim fun n h=>b7 h fun q e h=>a7 h fun h1 h=>a7 h fun h2 h3=>by
  rw[q9 e]
  induction q with|mk id p=>
  obtain rfl:T.nm x=id:=NZ h1
  refine k _ h2 (fun v e=>?_) fun e=>?_
  ·rw[e]at h3;exact NZ h3
  ·rw[e]at h3;exact h3
@[elab_as_elim] theorem Tr.sh {op:Io} {l r:X} (t:Tr T kd (.bin op l r) e) (k:∀l' r' p,Tr T kd l l'->Tr T kd r r'->G (.BinOp l' (Gd op) r' p)):G e:=t.elim fun n h=>b7 h fun q e h=>a7 h fun h1 h=>a7 h fun h2 h3=>by
 rw[xh e];rw[←NZ h1];exact k _ _ _ (.of h2) (.of h3)
@[elab_as_elim] theorem Tr.qS (t:Tr T kd (.not x) e) (k:∀x' p,Tr T kd x x'->G (.UnaryOp .Not x' p)):G e:=t.elim fun n h=>b7 h fun q e h=>a7 h fun h1 h=>by
 rw[pH e];rw[NZ h1];exact k _ _ (.of h)
@[elab_as_elim] theorem Tr.qW (t:Tr T kd (.neg x) e) (k:∀x' p,Tr T kd x x'->G (.UnaryOp .USub x' p)):G e:=t.elim fun n h=>b7 h fun q e h=>a7 h fun h1 h=>by
 rw[pH e];rw[NZ h1];exact k _ _ (.of h)
@[elab_as_elim] theorem Tr.a7 {xs:List X} (t:Tr T kd (.R5 xs) e) (k:∀es p,Z2 T kd xs es->G (.BoolOp .And es p)):G e:=t.elim fun n h=>b7 h fun q e h=>Mine.a7 h fun h1 h=>by
 rw[gY e];rw[NZ h1];exact k _ _ (K0 h)
@[elab_as_elim] theorem Tr.i0 {xs:List X} (t:Tr T kd (.mw xs) e) (k:∀es p,Z2 T kd xs es->G (.BoolOp .Or es p)):G e:=t.elim fun n h=>b7 h fun q e h=>Mine.a7 h fun h1 h=>by
 rw[gY e];rw[NZ h1];exact k _ _ (K0 h)
@[elab_as_elim] theorem Tr.rU {rs:List (hV×X)} (t:Tr T kd (.cmp x rs) e) (k:∀l es p,Tr T kd x l->Ff T kd rs es->G (.Compare l (rs.map fun q=>M8 q.1) es p)):G e:=t.elim fun n h=>b7 h fun q e h=>Mine.a7 h fun h1 h=>by
 rw[xf e];rw[(xJ h).1];exact k _ _ _ (.of h1) (xJ h).2
@[elab_as_elim] theorem Tr.gh {b f:X} (t:Tr T kd (.ite x b f) e) (k:∀t' b' f' p,Tr T kd x t'->Tr T kd b b'->Tr T kd f f'->G (.IfExp t' b' f' p)):G e:=t.elim fun n h=>b7 h fun q e h=>Mine.a7 h fun h1 h=>Mine.a7 h fun h2 h3=>by
 rw[AL e];exact k _ _ _ _ (.of h1) (.of h2) (.of h3)
@[elab_as_elim] theorem Tr.ly {xs:List X} (t:Tr T kd (.call x xs) e) (k:∀id q es p,Tr T kd x (.Name id q)->Z2 T kd xs es->xs.length≤12->G (.Call (.Name id q) es [] p)):G e:=t.elim fun n h=>b7 h fun q e h=>b7 h fun r e2 h=>Mine.a7 h fun h1 h=>Mine.a7 h fun h2 h3=>by
 rw[z9 e];rw[q9 e2];exact k _ _ _ _ (.of h1) (K0 h2) (NY h3)
@[elab_as_elim] theorem Tr.kE {m:Nat} {xs:List X} (t:Tr T kd (.l5 x m xs) e) (k:∀o q es p,Tr T kd x o->Z2 T kd xs es->I1 o=true->(q.endLine == p.line)=true->xs.length≤12->G (.Call (.Attribute o (T.nm m) q) es [] p)):G e:=
 t.elim fun n h=>b7 h fun q e h=>b7 h fun r e2 h=>Mine.a7 h fun h1 h=>Mine.a7 h fun h2 h=>Mine.a7 h fun h3 h=>Mine.a7 h fun h4 h=>Mine.a7 h fun h5 h6=>by
 rw[z9 e];rw[L7 e2,←NZ h1];exact k _ _ _ _ (.of h2) (K0 h3) h4 h5 (NY h6)
@[elab_as_elim] theorem Tr.lL {a:Nat} (t:Tr T kd (.attr x a) e) (k:∀o p,Tr T kd x o->I1 o=true->T.nm a∈T.AF->G (.Attribute o (T.nm a) p)):G e:=t.elim fun n h=>b7 h fun q e h=>Mine.a7 h fun h1 h=>Mine.a7 h fun h2 h=>Mine.a7 h fun h3 h4=>by
 rw[L7 e]
 rw[←NZ h1]
 obtain⟨s,hs,es⟩:=List.any_eq_true.mp h4
 exact k _ _ (.of h2) h3 (NZ es▸hs)
@[elab_as_elim] theorem Tr.qm {i:X} (t:Tr T kd (.sub x i) e) (k:∀o i' p,Tr T kd x o->Tr T kd i i'->G (.Subscript o i' p)):G e:=t.elim fun n h=>b7 h fun q e h=>Mine.a7 h fun h1 h2=>by
 rw[X7 e];exact k _ _ _ (.of h1) (.of h2)
@[elab_as_elim] theorem Tr.ff {lo hi:Option X} (t:Tr T kd (.slice x lo hi) e) (k:∀o lo' hi' q p,Tr T kd x o->AU T kd lo lo'->AU T kd hi hi'->G (.Subscript o (.Slice lo' hi' none q) p)):G e:=t.elim fun n h=>b7 h fun q e h=>b7 h fun r e2 h=>Mine.a7 h fun h1 h=>Mine.a7 h fun h2 h3=>by
 rw[X7 e];rw[pI e2];exact k _ _ _ _ _ (.of h1) (qj h2) (qj h3)
@[elab_as_elim] theorem Tr.kL {xs:List X} (t:Tr T kd (.list xs) e) (k:∀es p,Z2 T kd xs es->G (.List es p)):G e:=t.elim fun n h=>b7 h fun q e h=>by rw[gT e];exact k _ _ (K0 h)
@[elab_as_elim] theorem Tr.fy {xs:List X} (t:Tr T kd (.Y5 xs) e) (k:∀es p,Z2 T kd xs es->G (.List es p)):G e:=t.elim fun n h=>b7 h fun q e h=>by rw[gT e];exact k _ _ (K0 h)
@[elab_as_elim] theorem Tr.eU {xs:List X} (t:Tr T kd (.tuple xs) e) (k:∀es i p,Z2 T kd xs es->G (.Tuple es i p)):G e:=t.elim fun n h=>b7 h fun q e h=>by rw[G9 e];exact k _ _ _ (K0 h)
@[elab_as_elim] theorem Tr.lr {kvs:List (X×X)} (t:Tr T kd (.dict kvs) e) (k:∀ks es p,Bk T kd kvs ks es->kvs.length≤15->G (.Dict (ks.map some) es p)):G e:=t.elim fun n h=>b7 h fun q e h=>Mine.a7 h fun h1 h2=>by
 rw[gV e];obtain⟨ks,e2,t⟩:=xH h1;rw[e2];exact k _ _ _ t (NY h2)
@[elab_as_elim] theorem Tr.fB {kvs:List (X×X)} (t:Tr T kd (.K4 kvs) e) (k:∀ks es p,Bk T kd kvs ks es->kvs.length≤15->G (.Dict (ks.map some) es p)):G e:=t.elim fun n h=>b7 h fun q e h=>Mine.a7 h fun h1 h2=>by
 rw[gV e];obtain⟨ks,e2,t⟩:=xH h1;rw[e2];exact k _ _ _ t (NY h2)
inductive pQ (T:i7) (kd:Kd):List Nat->Ex->Prop
 |one (x:Nat) (p:Pos):kd (T.nm x)=some .local->d6 T.glob x=none->pQ T kd [x] (.Name (T.nm x) p)
 |two (x y:Nat) (p q:Pos) (i:Nat) (r:Pos):kd (T.nm x)=some .local->d6 T.glob x=none->kd (T.nm y)=some .local->d6 T.glob y=none->pQ T kd [x,y] (.Tuple [.Name (T.nm x) p,.Name (T.nm y) q] i r)
theorem kb {kd:Kd} {x:Nat} {q:Str×Pos} {G:Str->Prop} (h:gR T kd x q.1=true) (k:kd (T.nm x)=some .local->d6 T.glob x=none->G (T.nm x)):G q.1:=
 Mine.a7 h fun h1 h=>Mine.a7 h fun h2 h3=>by rw[←NZ h1]at h2⊢;exact k (NZ h2) (Option.isNone_iff_eq_none.mp h3)
theorem xG {xs:List Nat} {e:Ex} (h:HE T kd xs e=true):pQ T kd xs e:=by
 induction xs with
 |nil=>exact Bool.noConfusion h
 |cons x xs=>induction xs with
  |nil=>exact b7 h fun q e h=>by rw[q9 e];exact kb (G:=fun s=>pQ T kd [x] (.Name s q.2)) h fun h1 h2=>.one x q.2 h1 h2
  |cons y xs=>induction xs with
   |nil=>exact b7 h fun q e h=>b7 h fun r e2 h=>b7 h fun a ea h=>b7 h fun b eb h=>Mine.a7 h fun h1 h2=>(by
    rw[G9 e,two1_eq e2,q9 ea,q9 eb]
    exact kb (G:=fun s=>pQ T kd [x,y] (.Tuple [.Name s a.2,.Name b.1 b.2] q.2.1 q.2.2)) h1 fun k1 k2=>kb (G:=fun s=>pQ T kd [x,y] (.Tuple [.Name _ a.2,.Name s b.2] q.2.1 q.2.2)) h2 fun k3 k4=>.two x y a.2 b.2 _ _ k1 k2 k3 k4)
   |cons=>exact Bool.noConfusion h
inductive bJ (T:i7) (kd:Kd):mq->List X->Ex->Prop
 |val (x:X) (e:Ex):Tr T kd x e->bJ T kd .val [x] e
 |enum (xs:List X) (es:List Ex) (q p:Pos):kd "enumerate"=some .globalImplicit->Z2 T kd xs es->bJ T kd .enum xs (.Call (.Name "enumerate" q) es [] p)
 |range (xs:List X) (es:List Ex) (q p:Pos):kd "range"=some .globalImplicit->Z2 T kd xs es->xs.length≤3->bJ T kd .range xs (.Call (.Name "range" q) es [] p)
theorem mH {src:mq} {it:List X} {e:Ex} (h:rW (r4 T n kd) kd src it e=true):bJ T kd src it e:=by
 induction src with
 |val=>exact b7 h fun x e h=>B2 e▸.val x _ (.of h)
 |enum=>exact b7 h fun q e h=>b7 h fun r e2 h=>Mine.a7 h fun h1 h2=>Mine.a7 h1 fun h1 h3=>by rw[z9 e];rw[q9 e2,NZ h1];exact .enum _ _ _ _ (NZ h3) (K0 h2)
 |range=>exact b7 h fun q e h=>b7 h fun r e2 h=>Mine.a7 h fun h1 h=>Mine.a7 h fun h4 h2=>Mine.a7 h1 fun h1 h3=>by rw[z9 e];rw[q9 e2,NZ h1];exact .range _ _ _ _ (NZ h3) (K0 h2) (NY h4)
structure cO (T:i7) (kd:Kd) (xs:List Nat) (sc:Scope):Prop where
 kind:sc.kind=.function
 locals:∀x∈sc.names,x.2=.local->sc.names.lookup x.1=some .local
 cell:∀x∈sc.names,x.2≠.cell
 free:∀x∈sc.names,x.2=.free->kd x.1=some .cell
 own:∀p∈sc.names,p.2=.local->p.1= ".0"∨∃x,x∈xs∧T.nm x=p.1
 lam:T.lam (C5 kd sc)=none
structure pU (T:i7) (kd:Kd) (sc:Scope):Prop where
 kind:sc.kind=.function
 gen:sc.isGenerator=false
 co:sc.isCoroutine=false
 cell:∀x∈sc.names,x.2≠.cell
 loc:∀x∈sc.names,x.2≠.local
 free:∀x∈sc.names,x.2=.free->kd x.1=some .cell
 lam:T.lam (fun n=>sc.names.lookup n)=none
theorem ro {p q:Prop} {_:Decidable p} {_:Decidable q} (h:(!decide p || decide q)=true) (k:p):q:=by rw[decide_eq_true k]at h;exact NZ h
theorem kj {p:Prop} {_:Decidable p} (h:(!decide p)=true):¬p:=fun k=>by rw[decide_eq_true k]at h;exact Bool.noConfusion h
theorem wA {xs:List Nat} {sc:Scope} (h:uo T kd xs sc=true):cO T kd xs sc:=
 Mine.a7 h fun h1 h=>Mine.a7 h fun h2 h=>Mine.a7 h fun h3 h=>Mine.a7 h fun h4 h=>Mine.a7 h fun h5 h6=>
 ⟨NZ h1,fun x hx=>ro (List.all_eq_true.mp h2 x hx),fun x hx=>kj (List.all_eq_true.mp h3 x hx),fun x hx=>ro (List.all_eq_true.mp h4 x hx),fun p hp k=>by
  have:=List.all_eq_true.mp h5 p hp
  rw[decide_eq_true k]at this
  have this:(decide (p.1=Str.ofString ".0")|| xs.any fun x=>decide (T.nm x=p.1))=true:=this
  exact(Bool.or_eq_true_iff.mp this).imp NZ fun q=>(List.any_eq_true.mp q).imp fun x q=>⟨q.1,NZ q.2⟩,Option.isNone_iff_eq_none.mp h6⟩
theorem ze {sc:Scope} (h:Aq T kd sc=true):pU T kd sc:=
 Mine.a7 h fun h1 h=>Mine.a7 h fun h2 h=>Mine.a7 h fun h3 h=>Mine.a7 h fun h4 h=>Mine.a7 h fun h5 h6=>
 ⟨NZ h1,Bool.not_eq_true' _ |>.mp h2,Bool.not_eq_true' _ |>.mp h3,fun x hx=>Mine.a7 (List.all_eq_true.mp h4 x hx) fun a J=>kj a,fun x hx=>Mine.a7 (List.all_eq_true.mp h4 x hx) fun J a=>kj a,fun x hx=>ro (List.all_eq_true.mp h5 x hx),Option.isNone_iff_eq_none.mp h6⟩
theorem Dz (g:Comprehension):g=⟨g.target,g.iter,g.ifs,g.is_async⟩:=by cases g;rfl
@[elab_as_elim] theorem Tr.dY {pp:Bool} {elt:X} {xs:List Nat} {src:mq} {it:List X} {cond:Option X} (t:Tr T kd (.comp pp elt xs src it cond) e) (k:∀elt' tgt it' cond' sc p,bJ T kd src it it'->pQ T (C5 kd sc) xs tgt->Tr T (C5 kd sc) elt elt'->AU T (C5 kd sc) cond cond'->cO T kd xs sc->
 G (.ListComp elt' [⟨tgt,it',Option.toList cond',0⟩] sc p)):G e:=
 t.elim fun n h=>b7 h fun q e h=>b7 h fun g e2 h=>b7 h fun c e3 h=>Mine.a7 h fun h0 h=>Mine.a7 h fun h1 h=>Mine.a7 h fun h2 h=>Mine.a7 h fun h3 h=>Mine.a7 h fun h4 h5=>by
  rw[gX e]
  rw[B2 e2]
  have eg:g=⟨g.target,g.iter,c.toList,0⟩:=(Dz g).trans (by rw[zC e3,NZ h0])
  rw[eg]
  exact k _ _ _ _ _ _ (mH h1) (xG h2) (.of h3) (qj h4) (wA h5)
theorem qT {a:PySem.Arguments} (h:kl a=true):a=ck:=by
 cases a
 simp only[kl,Bool.and_eq_true,List.isEmpty_iff,Option.isNone_iff_eq_none]at h
 obtain⟨⟨⟨⟨⟨⟨rfl,rfl⟩,rfl⟩,rfl⟩,rfl⟩,rfl⟩,rfl⟩:=h
 rfl
@[elab_as_elim] theorem Tr.gn (t:Tr T kd (.A2 x) e) (k:∀b sc Pt lp q p,T.lam kd=some Pt->kd T.Q0=some .globalImplicit->pU T kd sc->Tr T (fun n=>sc.names.lookup n) x b->G (.Call (.Name T.Q0 q) [.Lambda ck b sc lp] [] p)):G e:=
 t.elim fun n h=>b7 h fun q e h=>b7 h fun r e2 h=>b7 h fun a e3 h=>b7 h fun l e4 h=>Mine.a7 h fun h0 h=>Mine.a7 h fun h1 h=>Mine.a7 h fun h2 h=>Mine.a7 h fun h3 h=>Mine.a7 h fun h4 h5=>by
  rw[z9 e]
  obtain⟨Pt,hP⟩:=Option.isSome_iff_exists.mp h0
  rw[q9 e2,NZ h1,B2 e3,xc e4,qT h2]
  exact k _ _ Pt _ _ _ hP (NZ h3) (ze h4) (.of h5)
@[elab_as_elim] theorem Tr.bX (t:Tr T kd (.l4 x) e) (k:∀o q1 q2 q3 p,kd "sorted"=some .globalImplicit->Tr T kd x o->I1 o=true->(q2.endLine == q3.line)=true->G (.Call (.Name "sorted" q1) [.Call (.Attribute o "items" q2) [] [] q3] [] p)):G e:=
 t.elim fun n h=>b7 h fun q e h=>b7 h fun r e2 h=>b7 h fun a e3 h=>b7 h fun c e4 h=>b7 h fun d e5 h=>Mine.a7 h fun h0 h=>Mine.a7 h fun h1 h=>Mine.a7 h fun h2 h=>Mine.a7 h fun h3 h=>Mine.a7 h fun h4 h5=>Mine.a7 h0 fun k1 k2=>by
  rw[z9 e]
  rw[q9 e2,NZ k1,B2 e3,z9 e4,L7 e5,NZ h1,NZ h2]
  exact k _ _ _ _ _ (NZ k2) (.of h3) h4 h5
theorem Tr.all (t:Tr T kd x e) (hn:∀id p,G (.Name id p)) (hc:∀c k p,G (.Constant c k p)) (hb:∀a o b p,G (.BinOp a o b p)) (hu:∀o a p,G (.UnaryOp o a p)) (ho:∀o a p,G (.BoolOp o a p)) (hm:∀l os es p,G (.Compare l os es p)) (hi:∀t b e p,G (.IfExp t b e p))
 (hf:∀f es p,G (.Call f es [] p)) (ha:∀o a p,G (.Attribute o a p)) (hs:∀o a p,G (.Subscript o a p)) (hl:∀es p,G (.List es p)) (ht:∀es i p,G (.Tuple es i p)) (hd:∀ks vs p,G (.Dict ks vs p)) (hp:∀e g sc p,G (.ListComp e g sc p)):G e:=by
 cases x with
 |lit=>exact t.rh fun J J J J=>hc _ _ _
 |NT=>exact t.P5 fun J J J J=>hn _ _
 |bin=>exact t.sh fun J J J J J=>hb _ _ _ _
 |not=>exact t.qS fun J J J=>hu _ _ _
 |neg=>exact t.qW fun J J J=>hu _ _ _
 |R5=>exact t.a7 fun J J J=>ho _ _ _
 |mw=>exact t.i0 fun J J J=>ho _ _ _
 |cmp=>exact t.rU fun J J J J J=>hm _ _ _ _
 |ite=>exact t.gh fun J J J J J J J=>hi _ _ _ _
 |call=>exact t.ly fun J J J J J J J=>hf _ _ _
 |l5=>exact t.kE fun J J J J J J J J J=>hf _ _ _
 |attr=>exact t.lL fun J J J J J=>ha _ _ _
 |sub=>exact t.qm fun J J J J J=>hs _ _ _
 |slice=>exact t.ff fun J J J J J J J J=>hs _ _ _
 |list=>exact t.kL fun J J J=>hl _ _
 |Y5=>exact t.fy fun J J J=>hl _ _
 |tuple=>exact t.eU fun J J J J=>ht _ _ _
 |dict=>exact t.lr fun J J J J J=>hd _ _ _
 |K4=>exact t.fB fun J J J J J=>hd _ _ _
 |comp=>exact t.dY fun J J J J J J J J J J J=>hp _ _ _ _
 |A2=>exact t.gn fun J J J J J J J J J J=>hf _ _ _
 |l4=>exact t.bX fun J J J J J J J J J=>hf _ _ _
end
inductive FV (T:i7) (W:r9) (U:List Addr) (h:Heap) (own:List (Nat×Addr)) (x:Nat):V->Value->Prop
 |ml (xs:List V) (ws:List Value) (a:Addr):(x,a)∈own->R6 h a ws->E3 T W U h xs ws->FV T W U h own x (.g6 xs) (.ref a)
 |md (kvs:List (Txt×V)) (a:Addr):(x,a)∈own->V2 T U (k9 T W U) h kvs a->FV T W U h own x (.E1 kvs) (.ref a)
 |mo (c:Nat) (at_:Fr) (C a dx:Addr) (kws:List (Str×Value)):(x,a)∈own->(x,dx)∈own->T.cls c=some C->h.get? a=some ⟨.ref C,some dx,.plain,#[]⟩->h.DictOf (strKind T.prog T.w) dx kws->J9 T U (k9 T W U) h T.nm at_ kws->FV T W U h own x (.ct c at_) (.ref a)
 |pl (v:V) (w:Value):solid v=true->eK T W U h v w->FV T W U h own x v w
inductive n7 (W:r9) (env:Env) (h:Heap) (y:Str) (w:Value):Prop
 |loc (f:Str->Option Value) (k:env.kindOf y=some .local) (n:h.Ns env.locals f) (e:f y=some w)
 |P0 (c:Addr) (k:env.kindOf y=some .cell∨env.kindOf y=some .free) (hc:env.cells.lookup y=some c) (o:c∈W.own) (i:h.IsCell c (some w))
inductive aD (W:r9) (env:Env) (h:Heap) (y:Str):Prop
 |mk (c:Addr) (v:Option Value) (hc:env.cells.lookup y=some c) (o:c∈W.own) (i:h.IsCell c v)
inductive DU (T:i7) (env:Env) (Pt:Addr):Prop
 |mk (c:Addr) (t:Pt∈T.tabs) (q:T.zh Pt=env.qual++("<lambda>":Str)) (e:env.code=.ref c) (hd:CodeHd T.B c Pt)
structure G2 (T:i7) (W:r9) (U:List Addr) (env:Env) (own:List (Nat×Addr)) (m:Fr) (h:Heap):Prop where
 kind:env.scope.kind=.function
 glob:env.globals=mainGlobals
 blt:env.builtins=builtinsNs
 Y1:env.locals∈W.l6
 loc:∀x v,d6 m x=some v->d6 T.glob x=none
 ns:∃f,h.Ns env.locals f
 var:∀x v,d6 m x=some v->f6 (env.kindOf (T.nm x)) T6=true->∃w,n7 W env h (T.nm x) w∧FV T W U h own x v w
 has:∀y,env.kindOf y=some .cell->aD W env h y
 own:∀x a,(x,a)∈own->a∈W.own
 code:∀Pt,T.lam env.kindOf=some Pt->DU T env Pt
inductive La (T:i7) (W:r9) (A:Around) (h:Heap):Prop
 |mk (fs:List Env) (e:A.frames=some fs) (f:h.FunFrames T.B fs) (w:∀env∈fs,∀L,env.frame=some L->L∈W.l6)
structure Ar (T:i7) (W:r9) (A:Around) (n:Nat) (h:Heap):Prop where
 handled:A.handled=none
 depth:A.depth+2 * n≤900
 units:A.units+20 * n≤9000
 frames:La T W A h
theorem room_le {a k c n m:Nat} (h:a+c * (n+1)≤m) (hk:k≤c):a+k+c * n≤m:=Oe (by rw[Nat.add_assoc,Nat.add_comm k];exact Oj (Oj hk _) a) h
theorem room_0 {a k c n m:Nat} (h:a+c * (n+1)≤m) (hk:k≤c):a+k≤m:=Oe (Oj (Oe hk (Nat.le_add_left c (c * n))) a) h
noncomputable def made:V->Bool
 |.g6 _=>true
 |.E1 _=>true
 |_=>false
inductive M0 (T:i7) (W:r9) (U:List Addr) (h:Heap) (a:Addr):V->Prop
 |l (xs:List V) (ws:List Value):R6 h a ws->E3 T W U h xs ws->M0 T W U h a (.g6 xs)
 |d (kvs:List (Txt×V)):V2 T U (k9 T W U) h kvs a->M0 T W U h a (.E1 kvs)
inductive bK (T:i7) (W:r9) (s:Shared) (d7:List Addr) (c7:Hp) (h':Heap) (v:V):Value->Prop
 |mk (a:Addr) (W':r9) (n:s.heap.get? a=none) (g:s8 s W W') (o:a∈W'.own) (r:d9 T W' d7 c7 h') (q:M0 T W' d7 h' a v):bK T W s d7 c7 h' v (.ref a)
def G1 (T:i7) (W:r9) (s:Shared) (d7:List Addr) (c7:Hp) (h':Heap) (v:V) (w:Value):Prop:=made v=true->bK T W s d7 c7 h' v w
def KV (T:i7) (W:r9) (U:List Addr) (s:Shared) (Q:Value->Shared->Prop) (v:V) (c7:Hp):Prop:=
 ∀w s' d7,i4 T W U s c7 d7 s'->C4 T W d7 s'.heap v w->G1 T W s d7 c7 s'.heap v w->Q w s'
inductive mn (W:r9) (s:Shared) (h':Heap) (ea:Addr):Option Value->Prop
 |none:mn W s h' ea (some .none)
 |some (tt:Addr) (oT:Obj) (ts:Array Value):tt∈W.own->tt≠ea->s.heap.get? tt=none->h'.get? tt=some oT->oT.data=.fields ts->ts[3]? =some .none->mn W s h' ea (some (.ref tt))
inductive sD (T:i7) (W:r9) (s:Shared) (d7:List Addr) (c7:Hp) (h':Heap) (t:Txt):Value->Prop
 |mk (ea dx:Addr) (W':r9) (oe:Obj) (vs:Array Value) (kws:List (Str×Value)) (k:Tok) (g:s8 s W W') (r:d9 T W' d7 c7 h') (ho:ea∈W'.own) (hn:s.heap.get? ea=none) (dh:dx∈W'.own) (dn:s.heap.get? dx=none) (asc:t6 t=true)
  (e:h'.get? ea=some oe) (ec:oe.cls=.ref T.exc) (ed:oe.dict=some dx) (ef:oe.data=.fields vs) (hd:h'.DictOf (strKind T.prog T.w) dx kws) (hv:valueAt kws T.why=some (.str (i3 t) k)) (tb:mn W' s h' ea vs[1]?):sD T W s d7 c7 h' t (.ref ea)
def XV (T:i7) (W:r9) (U:List Addr) (s:Shared) (E:Value->Shared->Prop) (t:Txt) (c7:Hp):Prop:=
 ∀e s' d7,i4 T W U s c7 d7 s'->sD T W s d7 c7 s'.heap t e->E e s'
structure Cx (T:i7) (W:r9) (n:Nat) (A:Around) (env:Env) (own:List (Nat×Addr)) (m:Fr) (U:List Addr) (Y:Hp) (s:Shared):Prop where
 rel:d9 T W U Y s.heap
 fr:G2 T W U env own m s.heap
 ar:Ar T W A n s.heap
def g7 (T:i7) (n:Nat) (run:Fr->X->Hp->R V):Prop:=
 ∀{W:r9} {A:Around} {env:Env} {own:List (Nat×Addr)} {m:Fr} {U:List Addr} {Y:Hp} {s:Shared} {e:X} {e':Ex} {Q E:Value->Shared->Prop},
  Cx T W n A env own m U Y s->Tr T env.kindOf e e'->(run m e Y).c4 (KV T W U s Q) (XV T W U s E)->wpAny (model T.prog T.w) A (eval e' env) Q E s
def KT (T:i7) (W:r9) (U:List Addr) (s:Shared) (Q:Bool->Shared->Prop) (b:Bool) (c7:Hp):Prop:=∀s' d7,i4 T W U s c7 d7 s'->Q b s'
def D5 (T:i7) (n:Nat) (run:Fr->X->Hp->R Bool):Prop:=
 ∀{W:r9} {A:Around} {env:Env} {own:List (Nat×Addr)} {m:Fr} {U:List Addr} {Y:Hp} {s:Shared} {e:X} {e':Ex} {Q:Bool->Shared->Prop} {E:Value->Shared->Prop},
  Cx T W n A env own m U Y s->Tr T env.kindOf e e'->(run m e Y).c4 (KT T W U s Q) (XV T W U s E)->wpAny (model T.prog T.w) A (isTrue e' env (eval e' env)) Q E s
variable {W W':r9} {U d7:List Addr} {s s':Shared} {Y c7:Hp} {A:Around} {env:Env} {own:List (Nat×Addr)} {m:Fr} {h h':Heap} {r:Ev}
section
variable {aE:List Addr} {s'':Shared} {u3:Hp} {S:Addr->Prop}
theorem V2.at {kvs:List (Txt×V)} {a:Addr} {bad bad':Addr->Prop} (q:V2 T U bad h kvs a) (m:Ms U d7 bad bad' S h h') (k:At a h h'):V2 T d7 bad' h' kvs a:=match q with|⟨kws,hd,s,e,r⟩=>⟨kws,B6 hd k,s,e,r.ms m⟩
theorem V2.Ba {kvs:List (Txt×V)} {a:Addr} {bad:Addr->Prop} {G:Prop} (q:V2 T U bad h kvs a) (k:∀kws,h.DictOf (strKind T.prog T.w) a kws->(a == sysModules)=false->J9 T U bad h i3 kvs kws->G):G:=match q with|⟨kws,hd,s,e,r⟩=>k kws hd s ⟨e,r⟩
theorem FV.mv {x:Nat} {v:V} {w:Value} (f:FV T W U h own x v w) (m:Ms U d7 (k9 T W U) (k9 T W' d7) S h h') (k:∀a,(x,a)∈own->At a h h'):FV T W' d7 h' own x v w:=by
 induction f with
 |ml xs ws a o l r=>exact .ml xs ws a o (l.at (k a o)) (r.ms m)
 |md kvs a o q=>exact .md kvs a o (q.at m (k a o))
 |mo c at_ C a dx kws o o' hc ha hd r=>exact .mo c at_ C a dx kws o o' hc (k a o _ ha) (B6 hd (k dx o')) (r.ms m)
 |pl v w g r=>exact .pl v w g (r.ms m)
theorem T1 {L:Addr} {f:Str->Option Value} (x:h.Ns L f) (k:∀o,h.get? L=some o->∃sl,h'.get? L=some {o with slots:=sl}):h'.Ns L f:=match x with
 |⟨o,es,ep,e,d,r⟩=>(k o e).elim fun J e'=>⟨_,es,ep,e',d,r⟩
theorem n7.mv {y:Str} {w:Value} (x:n7 W env h y w) (i:∀a,a∈W.own->a∈W'.own) (k:∀f,h.Ns env.locals f->h'.Ns env.locals f) (o:∀a,a∈W.own->At a h h'):n7 W' env h' y w:=by
 induction x with
 |loc f k1 n e=>exact .loc f k1 (k f n) e
 |P0 c k1 hc ho i1=>exact .P0 c k1 hc (i c ho) (D4 i1 (o c ho))
theorem G2.mv (c:G2 T W U env own m h) (ms:Ms U d7 (k9 T W U) (k9 T W' d7) S h h') (i:∀a,a∈W.own->a∈W'.own) (f:∀a,a∈W.l6->a∈W'.l6) (k:∀f,h.Ns env.locals f->h'.Ns env.locals f) (o:∀a,a∈W.own->At a h h'):G2 T W' d7 env own m h' where
 kind:=c.kind
 glob:=c.glob
 blt:=c.blt
 Y1:=f _ c.Y1
 loc:=c.loc
 ns:=c.ns.elim fun f n=>⟨f,k f n⟩
 var:=fun x v e q=>(c.var x v e q).elim fun w z=>⟨w,z.1.mv i k o,z.2.mv ms fun a ha=>o a (c.own x a ha)⟩
 has:=fun y q=>match c.has y q with|⟨ca,v,hc,ho,hi⟩=>⟨ca,v,hc,i ca ho,D4 hi (o ca ho)⟩
 own:=fun x a q=>i a (c.own x a q)
 code:=c.code
theorem Q3 {B:Heap} {fs:List Env} (x:Off S h h') (hf:h.FunFrames B fs) (hs:∀env∈fs,∀L,env.frame=some L->S L->∀o,h.get? L=some o->(∀vs,o.data≠.fields vs)->∃o',h'.get? L=some o'∧∀vs,o'.data≠.fields vs):h'.FunFrames B fs:=by
 induction fs with
 |nil=>trivial
 |cons e r ih=>
  obtain⟨hk,⟨L,o,h1,hn,ho,hd⟩,hr⟩:=hf
  refine⟨hk,?_,ih hr fun e he=>hs e (.tail _ he)⟩
  by_cases hS:S L
  ·exact(hs e (.head _) L h1 hS o ho hd).elim fun o' q=>⟨L,o',h1,hn,q.1,q.2⟩
  ·exact⟨L,o,h1,hn,x L o ho hS,hd⟩
theorem Ar.mv (a:Ar T W A n h) (f:∀a,a∈W.l6->a∈W'.l6) (x:Off S h h') (k:∀a,a∈W.l6->S a->∀o,h.get? a=some o->(∀vs,o.data≠.fields vs)->∃o',h'.get? a=some o'∧∀vs,o'.data≠.fields vs):Ar T W' A n h' where
 handled:=a.handled
 depth:=a.depth
 units:=a.units
 frames:=match a.frames with|⟨fs,e,q,w⟩=>⟨fs,e,Q3 x q fun env he L hL=>k L (w env he L hL),fun env he L hL=>f L (w env he L hL)⟩
theorem V3.ownAt (x:V3 T W U d7 s s') (k:Bj T W U s.heap) {a:Addr} (ha:a∈W.own):At a s.heap s'.heap:=x.off.at (k.own a ha).nm
theorem Cx.grow (c:Cx T W n A env own m U Y s) (x:i4 T W U s c7 d7 s') (g:s8 s W W') (hr:d9 T W' d7 c7 s'.heap):Cx T W' n A env own m d7 c7 s':=
 ⟨hr,c.fr.mv ⟨x.ext.pre,x.ext.off,x.ext.ms.sb,fun a o e q=>x.ext.bE e (g.v5.back e q)⟩ g.own (fun a q=>g.l6▸q) (fun f n=>T1 n (x.ext.slots _ c.fr.Y1)) fun a ha=>x.ext.ownAt c.rel.o5 ha,
  c.ar.mv (fun a q=>g.l6▸q) x.ext.off fun a ha J o e d=>(x.ext.slots a ha o e).elim fun sl e'=>⟨_,e',d⟩⟩
theorem Cx.mv (c:Cx T W n A env own m U Y s) (x:i4 T W U s c7 d7 s'):Cx T W n A env own m d7 c7 s':=c.grow x s8.refl x.rel
theorem Cx.le {k:Nat} (c:Cx T W n A env own m U Y s) (h:k≤n):Cx T W k A env own m U Y s:=
 ⟨c.rel,c.fr,⟨c.ar.handled,Oe (Oj (Nat.mul_le_mul_left 2 h) _) c.ar.depth,Oe (Oj (Nat.mul_le_mul_left 20 h) _) c.ar.units,c.ar.frames⟩⟩
theorem Cx.low (c:Cx T W (n+1) A env own m U Y s):Cx T W n A env own m U Y s:=c.le (Nat.le_succ n)
theorem bK.step (x:V3 T W U d7 s s') {o7:List Addr} {n9:Hp} {r3:Heap} {v:V} {w:Value} (f:bK T W s' o7 n9 r3 v w):bK T W s o7 n9 r3 v w:=match f with|⟨a,W',n,g,o,r,q⟩=>⟨a,W',x.since n,g.since x,o,r,q⟩
theorem KV.step {Q:Value->Shared->Prop} {v:V} {n9:Hp} (x:i4 T W U s c7 d7 s') (h:KV T W U s Q v n9):KV T W d7 s' Q v n9:=fun w l3 o7 o r f=>h w l3 o7 (x.trans o) r fun q=>(f q).step x.ext
theorem mn.since {ea:Addr} {x:Option Value} (k:∀a,s'.heap.get? a=Option.none->s.heap.get? a=Option.none) (t:mn W s' h' ea x):mn W s h' ea x:=by
 induction t with
 |none=>exact .none
 |some tt oT ts o ne n e d z=>exact .some tt oT ts o ne (k tt n) e d z
theorem sD.LD (kk:∀a,s'.heap.get? a=Option.none->s.heap.get? a=Option.none) (g:s8 s W W') {o7:List Addr} {n9:Hp} {r3:Heap} {t:Txt} {e:Value} (h:sD T W' s' o7 n9 r3 t e):sD T W s o7 n9 r3 t e:=by
 induction h with
 |mk ea dx W2 oe vs kws k g' r ho hn d_ dn asc e ec ed ef hd hv tb=>exact .mk ea dx W2 oe vs kws k (g.trans ⟨g'.l6,g'.own,fun a h=>(g'.C0 a h).imp id (kk a)⟩) r ho (kk _ hn) d_ (kk _ dn) asc e ec ed ef hd hv (tb.since kk)
theorem sD.since (x:V3 T W U d7 s s') (g:s8 s W W') {o7:List Addr} {n9:Hp} {r3:Heap} {t:Txt} {e:Value} (h:sD T W' s' o7 n9 r3 t e):sD T W s o7 n9 r3 t e:=h.LD (fun J=>x.since) g
theorem XV.step {E:Value->Shared->Prop} {t:Txt} {n9:Hp} (x:i4 T W U s c7 d7 s') (h:XV T W U s E t n9):XV T W d7 s' E t n9:=fun e l3 o7 o q=>h e l3 o7 (x.trans o) (q.since x.ext s8.refl)
theorem KT.step {Q:Bool->Shared->Prop} {b:Bool} {n9:Hp} (x:i4 T W U s c7 d7 s') (h:KT T W U s Q b n9):KT T W d7 s' Q b n9:=fun l3 o7 o=>h l3 o7 (x.trans o)
theorem c4.step {α:Type} {rr:R α} {K K':α->Hp->Prop} {E:Value->Shared->Prop} (x:i4 T W U s c7 d7 s') (h:rr.c4 K (XV T W U s E)) (k:∀a Y,K a Y->K' a Y):rr.c4 K' (XV T W d7 s' E):=R.c4.mono h k fun J J h=>h.step x
theorem w0 {α:Type} {w:Nat} {o:Option α} {K:α->Hp->Prop} {X:Txt->Hp->Prop} {G:Prop} (h:(b8 w o Y).c4 K X) (k:∀a,o=some a->K a Y->G):G:=by
 induction o with
 |none=>exact h.elim
 |some a=>exact k a rfl h
theorem a9 {α β:Type} {w:Nat} {o:Option α} {f:α->Hp->R β} {K:β->Hp->Prop} {X:Txt->Hp->Prop} {G:Prop} (h:((b8 w o Y).bind f).c4 K X) (k:∀a,o=some a->(f a Y).c4 K X->G):G:=w0 (R.d5.mp h) k
theorem q8 {α:Type} {b:Bool} {r:R α} {w:Nat} {K:α->Hp->Prop} {X:Txt->Hp->Prop} {G:Prop} (h:(bif b then r else .no w).c4 K X) (k:b=true->r.c4 K X->G):G:=by
 induction b with
 |false=>exact h.elim
 |true=>exact k rfl h
theorem w7 {α:Type} {a b:R α} {K:α->Hp->Prop} {X:Txt->Hp->Prop} {G:Prop} (h:(cV a b).c4 K X) (k:a.c4 K X->G) (k':b.c4 K X->G):G:=by
 induction a with
 |ok=>exact k h
 |exc=>exact k h
 |no=>exact k' h
theorem Be {α:Type} {K:α->Hp->Prop} (hr:g7 T n r.ev) (c:Cx T W n A env own m U Y s) {x:X} {e':Ex} {E:Value->Shared->Prop} {Q:Value->Shared->Prop} {f:V->Hp->R α} (t:Tr T env.kindOf x e') (h:((r.ev m x Y).bind f).c4 K (XV T W U s E))
 (k:∀v c9 w c5 c8,i4 T W U s c9 c8 c5->C4 T W c8 c5.heap v w->G1 T W s c8 c9 c5.heap v w->(f v c9).c4 K (XV T W U s E)->Q w c5):wpAny (model T.prog T.w) A (eval e' env) Q E s:=
 hr c t (R.c4.mono (R.d5.mp h) (fun v c9 q w c5 c8 o hv hf=>k v c9 w c5 c8 o hv hf q) fun J J x=>x)
theorem Bd (hr:g7 T n r.ev) (c:Cx T W n A env own m U Y s) {x:X} {e':Ex} {Q K E:Value->Shared->Prop} {f:V->Hp->R V} (t:Tr T env.kindOf x e') (h:((r.ev m x Y).bind f).c4 (KV T W U s Q) (XV T W U s E))
 (k:∀v c9 w c5 c8,i4 T W U s c9 c8 c5->C4 T W c8 c5.heap v w->(f v c9).c4 (KV T W c8 c5 Q) (XV T W c8 c5 E)->K w c5):wpAny (model T.prog T.w) A (eval e' env) K E s:=
 Be hr c t h fun v c9 w c5 c8 o hv J q=>k v c9 w c5 c8 o hv (c4.step o q fun J J z=>z.step o)
theorem Ll (ht:D5 T n r.tr) (c:Cx T W n A env own m U Y s) {α:Type} {K:α->Hp->Prop} {x:X} {e':Ex} {Q:Bool->Shared->Prop} {E:Value->Shared->Prop} {f:Bool->Hp->R α} (t:Tr T env.kindOf x e') (h:((r.tr m x Y).bind f).c4 K (XV T W U s E))
 (k:∀b c9 c5 c8,i4 T W U s c9 c8 c5->(f b c9).c4 K (XV T W U s E)->Q b c5):wpAny (model T.prog T.w) A (isTrue e' env (eval e' env)) Q E s:=
 ht c t (R.c4.mono (R.d5.mp h) (fun b c9 q c5 c8 o=>k b c9 c5 c8 o q) fun J J x=>x)
end
variable {Q:Value->Shared->Prop}
section
theorem G1.not {d7:List Addr} {c7:Hp} {h':Heap} {v:V} {w:Value} (e:made v=false):G1 T W s d7 c7 h' v w:=fun q=>Bool.noConfusion (e.symm.trans q)
theorem P2 {v:V} (h:solid v=true):made v=false:=by cases v<;>first|rfl|exact Bool.noConfusion h
theorem KV.here (c:d9 T W U Y s.heap) {v:V} {w:Value} (hv:C4 T W U s.heap v w) (hf:made v=false) {k:Nat} (h:KV T W U s Q v Y):Q w {s with toks:=k}:=h _ _ _ (i4.toks c) hv (G1.not hf)
theorem KV.vs (c:d9 T W U Y s.heap) {v:V} {w:Value} (hv:eK T W U s.heap v w) (g:solid v=true) {k:Nat} (h:KV T W U s Q v Y):Q w {s with toks:=k}:=h.here c (.mk _ _ hv) (P2 g)
theorem KV.G3 (c:d9 T W U Y s.heap) {v:V} {w:Value} (hv:bN T v w) (hf:made v=false) {k:Nat} (h:KV T W U s Q v Y):Q w {s with toks:=k}:=h.here c (.mk _ _ (.G3 _ _ hv)) hf
theorem KV.int (c:d9 T W U Y s.heap) {i:Int} {t:Tok} {k:Nat} (h:KV T W U s Q (.int i) Y):Q (.int i t) {s with toks:=k}:=h.G3 c (.int i t) rfl
theorem KV.bool (c:d9 T W U Y s.heap) {b:Bool} {k:Nat} (h:KV T W U s Q (.bool b) Y):Q (.bool b) {s with toks:=k}:=h.G3 c (.bool b) rfl
theorem KV.str (c:d9 T W U Y s.heap) {x:Txt} {t:Tok} {k:Nat} (hx:t6 x=true) (h:KV T W U s Q (.str x) Y):Q (.str (i3 x) t) {s with toks:=k}:=h.G3 c (.str x t hx) rfl
theorem KV.newList (c:d9 T W U Y s.heap) {xs:List V} {ws:List Value} (r:E3 T W U s.heap xs ws) (h:KV T W U s Q (.g6 xs) Y):Q (.ref s.heap.objs.size) {s with heap:=s.heap.push {cls:=.type "list",data:=.seq ws.toArray}}:=
 have k:=g9 s.heap {cls:=.type "list",data:=.seq ws.toArray}
 have x:i4 T W U s Y U {s with heap:=s.heap.push {cls:=.type "list",data:=.seq ws.toArray}}:=i4.keeps (t:=s.toks) c k
 have l:R6 (s.heap.push {cls:=.type "list",data:=.seq ws.toArray}) s.heap.objs.size ws:=⟨_,Od _ rfl⟩
 have ms:=bH (T:=T) (W:=W) (U:=U) k (y9 s.heap)
 h _ _ _ x (.mk _ _ (.je _ xs ws _ rfl rfl l (c.N2 (none_at_size _)) (x.ext.Ip r)))
  fun J=>⟨_,W.add [s.heap.objs.size],none_at_size _,s8.add (y9 _),.head _,c.adopt k (y9 _) (O1 rfl),.l xs ws l (r.ms ms)⟩
theorem KV.newTuple (c:d9 T W U Y s.heap) {xs:List V} {ws:List Value} (r:E3 T W U s.heap xs ws) (h:KV T W U s Q (.tup xs) Y):Q (.ref s.heap.objs.size) {s with heap:=s.heap.push {cls:=.type "tuple",data:=.seq ws.toArray}}:=
 have x:i4 T W U s Y U {s with heap:=s.heap.push {cls:=.type "tuple",data:=.seq ws.toArray}}:=i4.keeps (t:=s.toks) c (g9 _ _)
 h _ _ _ x (.mk _ _ (.tup xs ws _ ⟨_,Od _ rfl⟩ (c.N2 (none_at_size _)) (x.ext.Ip r))) (G1.not rfl)
theorem Z5 (x y:Txt):i3 x++i3 y=i3 (x++y):=by
 apply Str.ext'
 simp[i3,Str.cps_append]
theorem K1 (x:Txt):(i3 x).length=x.length:=by simp[i3,Str.length]
theorem bp {n:Nat} (h:n≤1000):n≤sizeLine:=Oe h (by rw[sizeLine_eq];decide)
theorem u7 {n:Nat} (h:Nat.ble n 1000=true):n≤sizeLine:=bp (NY h)
end
variable {E:Value->Shared->Prop}
section
@[elab_as_elim] theorem bk {a b v:V} {f:Int->Int->Option V} {bad f7:Addr->Prop} {h:Heap} {wa wb:Value} {G:Value->Value->Prop} (e:rk a b f=some v) (ha:VR T U bad f7 h a wa) (hb:VR T U bad f7 h b wb) (k:∀x y t u,f x y=some v->G (.int x t) (.int y u)):G wa wb:=
 a0 e fun x ex e=>a0 e fun y ey e=>u6 ha ex fun t=>u6 hb ey fun u=>k x y t u e
@[elab_as_elim] theorem aT {a b v:V} {f:Nat->Nat->Option V} {bad f7:Addr->Prop} {h:Heap} {wa wb:Value} {G:Value->Value->Prop} (e:vn a b f=some v) (ha:VR T U bad f7 h a wa) (hb:VR T U bad f7 h b wb) (k:∀x y t u,f x y=some v->G (.int (Int.ofNat x) t) (.int (Int.ofNat y) u)):G wa wb:=
 bk e ha hb fun x y t u e=>a0 e fun x' ex e=>a0 e fun y' ey e=>by rw[T2 ex,T2 ey];exact k x' y' t u e
theorem vD {l b:Addr} {vs ws:List Value} (hl:R6 s.heap l vs) (hb:R6 s.heap b ws) (hsz:vs.length+ws.length≤sizeLine)
 (h:Q (.ref s.heap.objs.size) {s with heap:=s.heap.push {cls:=.type "list",data:=.seq (vs++ws).toArray}}):wpAny (model T.prog T.w) A (binaryOp .Add (.ref l) (.ref b)) Q E s:=
 hl.elim fun n ho=>hb.elim fun n2 ho2=>concat_meets (s:=s) (a:=.ref l) (b:=.ref b) ⟨_,ho,rfl⟩ ⟨_,ho2,rfl⟩ noFill_list_add seq_list_add PySem.F.slot_list_add PySem.F.entry_list_add (PySem.F.args_list_add_2 _ _) (list_addW l b vs.toArray ws.toArray n n2 none none #[] #[] (by rw[Ou,Ou];exact hsz))
  ⟨ho,ho2,(List.append_toArray vs ws).symm▸h⟩
theorem qi {t b:Addr} {vs ws:List Value} (ht:mA s.heap t vs) (hb:mA s.heap b ws) (hsz:vs.length+ws.length≤sizeLine) (h0:¬vs.toArray.isEmpty=true) (h1:¬ws.toArray.isEmpty=true)
 (h2:Q (.ref s.heap.objs.size) {s with heap:=s.heap.push {cls:=.type "tuple",data:=.seq (vs++ws).toArray}}):wpAny (model T.prog T.w) A (binaryOp .Add (.ref t) (.ref b)) Q E s:=
 ht.elim fun n ho=>hb.elim fun n2 ho2=>concat_meets (s:=s) (a:=.ref t) (b:=.ref b) ⟨_,ho,rfl⟩ ⟨_,ho2,rfl⟩ noFill_tuple_add seq_tuple_add PySem.F.slot_tuple_add PySem.F.entry_tuple_add (PySem.F.args_tuple_add_2 _ _)
  (tuple_addW2 t b vs.toArray ws.toArray n n2 none none #[] #[] h0 h1 (by rw[Ou,Ou];exact hsz)) ⟨ho,ho2,(List.append_toArray vs ws).symm▸h2⟩
theorem z1.full {bad:Addr->Prop} {h:Heap} {xs:List V} {ws:List Value} (x:z1 T U bad h xs ws) (e:(!xs.isEmpty)=true):¬ws.toArray.isEmpty=true:=by
 cases x with
 |nil=>exact Bool.noConfusion e
 |cons=>exact fun q=>by simp at q
theorem Ib (c:d9 T W U Y s.heap) {a b v:V} {wa wb:Value} (ha:C4 T W U s.heap a wa) (hb:C4 T W U s.heap b wb) (e:Kz a b=some v) (h:KV T W U s Q v Y):wpAny (model T.prog T.w) A (binaryOp .Add wa wb) Q E s:=
 i0 e (fun e=>bk e ha hb fun x y t u e=>add_int (KV.int c (NX e▸h))) fun e=>
 i0 e (fun e=>a0 e fun x ex e=>a0 e fun y ey e=>i9 e fun g e=>n8 ha ex fun t a1=>n8 hb ey fun u a2=>
  add_str (fun t' tk=>by rw[Z5];exact KV.str c (R2 a1 a2) (e▸h)) (by rw[K1,K1];exact u7 g)) fun e=>
 i0 e (fun e=>a0 e fun x ex e=>a0 e fun y ey e=>i9 e fun g e=>a7 g fun g g'=>a7 g' fun g1 g2=>E6 ha ex fun la ws l1 J r1=>E6 hb ey fun lb us l2 J r2=>
  qi l1 l2 (by rw[r1.length,r2.length];exact u7 g) (r1.full g1) (r2.full g2) (KV.newTuple c (r1.append r2) (e▸h))) fun e=>
 a0 e fun x ex e=>a0 e fun y ey e=>i9 e fun g e=>VR.z0 ha ex fun la ws l1 J r1=>VR.z0 hb ey fun lb us l2 J r2=>vD l1 l2 (by rw[r1.length,r2.length];exact u7 g) (KV.newList c (r1.append r2) (e▸h))
theorem ay {k:Nat} (h:k≤1000):Builtin.Int.intBits (Int.ofNat k)≤64:=intBits_le_64 (Int.lt_of_lt_of_le (by decide: -(2 ^ 64:Int) < 0) (Ov k)) (Int.lt_of_le_of_lt (Int.ofNat_le.mpr h) (by decide:((1000:Nat):Int) < 2 ^ 64))
theorem sd (x y:Nat):Builtin.bitAnd (Int.ofNat x) (Int.ofNat y)=Int.ofNat (Nat.land x y):=by first|rfl|simp[Builtin.bitAnd]
theorem yw (x y:Nat):(Int.ofNat x) ^ (Int.ofNat y).toNat=Int.ofNat (Nat.pow x y):=(Int.natCast_pow x y).symm
theorem yg (x y:Nat):(Int.ofNat x) * 2 ^ (Int.ofNat y).toNat=Int.ofNat (x * Nat.pow 2 y):=by
 show(x:Int) * 2 ^ y=((x * 2 ^ y:Nat):Int)
 rw[Int.natCast_mul,Int.natCast_pow];rfl
theorem ye (x y:Nat):(Int.ofNat x).fdiv (2 ^ (Int.ofNat y).toNat)=Int.ofNat (x / Nat.pow 2 y):=by
 show(x:Int).fdiv (2 ^ y)=((x / 2 ^ y:Nat):Int)
 have e4:(2:Int) ^ y=((2 ^ y:Nat):Int):=by rw[Int.natCast_pow];rfl
 rw[e4,Int.fdiv_eq_ediv_of_nonneg _ (Ov _),Int.natCast_ediv]
theorem yu {x y:Nat} (h1:y≤64) (h2:x≤256):(Builtin.Int.intBits (Int.ofNat x):Int) * (Int.ofNat y)≤64 * 64:=by
 have:Builtin.Int.intBits (Int.ofNat x) * y≤64 * 64:=Nat.mul_le_mul (ay (Oe h2 (by decide))) h1
 exact Int.ofNat_le.mpr this
theorem yf {x y:Nat} (h1:y≤64) (h2:x≤256):(Builtin.Int.intBits (Int.ofNat x):Int)+Int.ofNat y≤2 ^ 27:=by
 have:=ay (k:=x) (Oe h2 (by decide))
 exact Int.ofNat_le.mpr (Oe (Nat.add_le_add this h1) (by decide:64+64≤2 ^ 27))
theorem HN (c:d9 T W U Y s.heap) (hA:A.handled=none) {op:Io} {a b v:V} {wa wb:Value} (ha:C4 T W U s.heap a wa) (hb:C4 T W U s.heap b wb) (e:wW op a b=some v) (h:KV T W U s Q v Y):wpAny (model T.prog T.w) A (binaryOp (Gd op) wa wb) Q E s:=by
 induction op with
 |add=>exact Ib c ha hb e h
 |sub=>exact bk e ha hb fun x y t u e=>sub_int (KV.int c (NX e▸h))
 |mul=>exact aT e ha hb fun x y t u e=>i9 e fun g e=>a7 g fun g J=>mul_int (KV.int c (e▸h)) (IntMulOk.of_left (ay (NY g)))
 |mod=>exact bk e ha hb fun x y t u e=>i9 e fun g e=>a7 g fun g J=>mod_int (Int.ne_of_gt (NZ g)) (by rw[Int.fmod_eq_emod_of_nonneg _ (Int.le_of_lt (NZ g))];exact KV.int c (e▸h))
 |fdiv=>exact bk e ha hb fun x y t u e=>i9 e fun g e=>a7 g fun g g'=>floordiv_int_or hA (fun q=>absurd q (Int.ne_of_gt (NZ g))) (fun J=>by rw[Int.fdiv_eq_ediv_of_nonneg _ (Int.le_of_lt (NZ g))];exact KV.int c (e▸h)) (fun J=>.inl (PyProof.noPylong_small (by have:=NZ g;have:=NZ g';omega)))
 |pow=>exact aT e ha hb fun x y t u e=>i9 e fun g e=>a7 g fun g g'=>pow_int (Ov _) (Int.le_trans (yu (NY g) (NY g')) (by decide)) (by rw[yw];exact KV.int c (e▸h))
 |shl=>exact aT e ha hb fun x y t u e=>i9 e fun g e=>a7 g fun g g'=>lshift_int (Ov _) (yf (NY g) (NY g')) (by rw[yg];exact KV.int c (e▸h))
 |shr=>exact aT e ha hb fun x y t u e=>i9 e fun g e=>rshift_int (Ov _) (by rw[ye];exact KV.int c (e▸h))
 |band=>exact aT e ha hb fun x y t u e=>and_int (by rw[sd];exact KV.int c (NX e▸h))
end
mutual
noncomputable def aF:D->PyData
 |.none=>.none
 |.bool b=>.bool b
 |.int i=>.int i
 |.str s=>.str (i3 s)
 |.seq true xs=>.tuple (iM xs)
 |.seq false xs=>.list (iM xs)
noncomputable def iM:List D->List PyData
 | []=>[]
 |v::vs=>aF v::iM vs
end
theorem AE (a b:Txt):r5 a b=(i3 a == i3 b):=(D1 a b).trans rfl
theorem lq:∀a b:D,jC a b=PyData.eqv (aF a) (aF b):=by
 refine D.rec (motive_1:=fun a=>∀b,jC a b=PyData.eqv (aF a) (aF b)) (motive_2:=fun xs=>∀ys,we xs ys=PyData.eqvAll (iM xs) (iM ys)) ?_ ?_ ?_ ?_ ?_ ?_ ?_
 ·intro b;cases b with
  |seq t xs=>induction t<;>rfl
  |_=>rfl
 ·intro x b;cases b with
  |seq t xs=>induction t<;>rfl
  |int y=>induction x<;>rfl
  |_=>rfl
 ·intro x b;cases b with
  |seq t xs=>induction t<;>rfl
  |bool y=>induction y<;>rfl
  |_=>rfl
 ·intro x b;cases b with
  |seq t xs=>induction t<;>rfl
  |str y=>exact AE x y
  |_=>rfl
 ·intro t xs ih b;cases b with
  |seq u ys=>induction t<;>induction u<;>first|rfl|exact ih ys
  |_=>induction t<;>rfl
 ·intro ys;induction ys<;>rfl
 ·intro x xs h1 h2 ys;induction ys with
  |nil=>rfl
  |cons y ys=>exact congr (Oh and (h1 y)) (h2 ys)
theorem mX {s:Txt} (h:t6 s=true):PySem.PyData.strOk (i3 s)=true:=by
 unfold PySem.PyData.strOk i3
 unfold t6 at h
 simp only[List.all_toArray,List.all_eq_true,decide_eq_true_eq]at *
 intro c hc
 have h1:c+1≤128:=NY (h c hc)
 omega
inductive RD (h:Heap) (w:Value) (d:PyData) (n:Nat):Prop
 |mk (as:List Addr) (r:Reads h w d as) (l:d.canLay0=true) (dp:d.depth≤n)
inductive NG (h:Heap) (ws:List Value) (ds:List PyData) (n:Nat):Prop
 |mk (as:List Addr) (r:ReadsAll h ws ds as) (l:PyData.canLayAll0 ds=true) (dp:PyData.depthAll ds≤n)
variable {f7:Addr->Prop}
section
variable {bad:Addr->Prop}
theorem ug {f:V->Option D} {n:Nat} (hf:∀v d w,f v=some d->VS T U bad h v w->RD h w (aF d) n) {xs:List V} {ws:List Value} {ds:List D} (e:U4 f xs=some ds) (x:z1 T U bad h xs ws):NG h ws (iM ds) n:=by
 induction xs generalizing ws ds with
 |nil=>cases x;cases e;exact⟨_,.nil,rfl,Nat.zero_le _⟩
 |cons v r ih=>
  cases x with
  |cons _ w _ ws g a q=>
   refine a0 e fun d ed e=>d8 e fun ds' es e=>?_
   subst e
   exact match hf _ _ _ ed a,ih es q with|⟨as,r1,l1,d1⟩,⟨bs,r2,l2,d2⟩=>⟨_,.cons r1 r2,(Bool.and_eq_true_iff.mpr ⟨l1,l2⟩:(_&&_)=true),Nat.max_le.mpr ⟨d1,d2⟩⟩
theorem uu {n:Nat} {v:V} {d:D} {w:Value} (e:AG v=some d) (x:VR T U bad f7 h v w):RD h w (aF d) n:=
 i0 e (fun e=>d8 e fun J e1 e=>e▸J0 x e1 ⟨_,.none,rfl,Nat.zero_le _⟩) fun e=>
 i0 e (fun e=>d8 e fun J e1 e=>e▸H7 x e1 ⟨_,.bool _,rfl,Nat.zero_le _⟩) fun e=>
 i0 e (fun e=>d8 e fun J e1 e=>e▸u6 x e1 fun t=>⟨_,.int _ t,rfl,Nat.zero_le _⟩) fun e=>
 d8 e fun J e1 e=>e▸n8 x e1 fun t a=>⟨_,.str _ t,mX a,Nat.zero_le _⟩
theorem au (n:Nat) {v:V} {d:D} {w:Value} (e:dat n v=some d) (x:VR T U bad f7 h v w):RD h w (aF d) n:=by
 induction n generalizing v d w f7 with
 |zero=>exact uu e x
 |succ n ih=>
  exact i0 e (fun e=>uu e x) fun e=>
   i0 e (fun e=>a0 e fun xs ex e=>d8 e fun ds ed e=>e▸E6 x ex fun a ws l J r=>match l,ug (fun J J J e x=>ih (f7:=bad) e (.mk _ _ x)) ed r with|⟨k,l⟩,⟨as,r,c,dp⟩=>⟨_,.tuple l rfl rfl r,c,Nat.succ_le_succ dp⟩) fun e=>
   a0 e fun xs ex e=>d8 e fun ds ed e=>e▸VR.z0 x ex fun a ws l J r=>match l,ug (fun J J J e x=>ih (f7:=bad) e (.mk _ _ x)) ed r with|⟨k,l⟩,⟨as,r,c,dp⟩=>⟨_,.list l rfl rfl r,c,Nat.succ_le_succ dp⟩
end
section
variable {bad:Addr->Prop}
@[elab_as_elim] theorem zV {a b:V} {r:Bool} (e:zW a b=some r) {G:Bool->Prop} (k:∀x y,dat 8 a=some x->dat 8 b=some y->G (PyData.eqv (aF x) (aF y))):G r:=
 a0 e fun x ex e=>d8 e fun y ey e=>by rw[←e,lq];exact k x y ex ey
theorem JX {a b:V} {wa wb:Value} {r:Bool} (ha:C4 T W U s.heap a wa) (hb:C4 T W U s.heap b wb) (e:zW a b=some r) (hu:A.units+20 < cLine) (h:Q (.bool r) s):wpAny (model T.prog T.w) A (compareOp .Eq wa wb) Q E s:=by
 revert h
 exact zV e fun x y ex ey h=>match au 8 ex ha,au 8 ey hb with|⟨as,r1,l1,d1⟩,⟨bs,r2,l2,d2⟩=>PySem.SeqAt.eqOverData _ _ _ _ _ _ _ _ _ _ _ _ r1 r2 l1 l2 (Ot (Oj (Oe (Nat.min_le_left _ _) (Oe d1 (by decide))) _) hu) h
theorem Jf {a b:V} {wa wb:Value} {r:Bool} (ha:C4 T W U s.heap a wa) (hb:C4 T W U s.heap b wb) (e:zW a b=some r) (hu:A.units+20 < cLine) (h:Q (.bool (!r)) s):wpAny (model T.prog T.w) A (compareOp .NotEq wa wb) Q E s:=by
 revert h
 exact zV e fun x y ex ey h=>match au 8 ex ha,au 8 ey hb with|⟨as,r1,l1,d1⟩,⟨bs,r2,l2,d2⟩=>PySem.SeqAt.neOverData _ _ _ _ _ _ _ _ _ _ _ _ r1 r2 l1 l2 (Ot (Oj (Oe (Nat.min_le_left _ _) (Oe d1 (by decide))) _) hu) h
theorem Dq {a b:V} {wa wb:Value} {x y:D} (ha:VR T U bad f7 s.heap a wa) (hb:VR T U bad f7 s.heap b wb) (ex:dat 8 a=some x) (ey:dat 8 b=some y) (hu:A.units+20 < cLine):SeqAt.EqAt A s wa wb (jC x y):=
 match au 8 ex ha,au 8 ey hb with|⟨as,r1,l1,d1⟩,⟨bs,r2,l2,d2⟩=>fun prog w E Q hq=>PySem.SeqAt.eqBoolOverData _ _ _ _ _ _ _ _ _ _ _ _ r1 r2 l1 l2 (Ot (Oj (Oe (Nat.min_le_left _ _) (Oe d1 (by decide))) _) hu) (lq x y▸hq)
noncomputable def Bg (h:Heap) (x:D) (y:Value):Bool:=@decide (∃d as,Reads h y d as∧PyData.eqv d (aF x)=true) (Classical.propDecidable _)
theorem Ht {x d:D} {y:Value} {n:Nat} {h:Heap} (r:RD h y (aF d) n):Bg h x y=jC d x:=match r with
 |⟨as,q,_,_⟩=>by
  rw[lq]
  unfold Bg
  cases e:PyData.eqv (aF d) (aF x)with
  |true=>exact @decide_eq_true _ (Classical.propDecidable _) ⟨_,_,q,e⟩
  |false=>exact @decide_eq_false _ (Classical.propDecidable _) fun⟨d,bs,q2,e2⟩=>Bool.noConfusion (e.symm.trans ((PySem.Reads.unique q d bs q2).1▸e2))
theorem mf {v:V} {x:D} {wx:Value} {xs:List V} {ds:List D} {ws:List Value} (ed:U4 (dat 8) xs=some ds) (ex:dat 8 v=some x) (r:z1 T U bad s.heap xs ws) (rx:VR T U bad f7 s.heap v wx) (hu:A.units+20 < cLine):
 ws.map (Bg s.heap x)=ds.map (fun y=>jC y x)∧∀y,y∈ws->SeqAt.EqAt A s y wx (Bg s.heap x y):=by
 induction xs generalizing ws ds with
 |nil=>cases r;cases ed;exact⟨rfl,fun J q=>nomatch q⟩
 |cons v vs ih=>
  cases r with
  |cons _ w _ ws g a q=>
   refine a0 ed fun d e1 ed=>d8 ed fun ds' e2 ed=>?_
   subst ed
   have k:=Ht (x:=x) (au 8 e1 (.mk (f7:=f7) _ _ a))
   exact⟨(congr (Oh List.cons k) (ih e2 q).1:_=_),fun y hy=>(Of hy).elim (fun z=>by rw[z,k];exact Dq (.mk (f7:=f7) _ _ a) rx e1 ex hu) ((ih e2 q).2 y)⟩
theorem any_map {α β:Type} {f:α->Bool} {g:β->Bool} {l:List α} {m:List β} (e:l.map f=m.map g):l.toArray.any f=m.any g:=by
 rw[List.any_toArray]
 have:=Oh (fun o=>List.any o id) e
 simpa [List.any_map]using this
noncomputable def HG (t:Bool):CmpOp:=if t then .NotIn else .In
variable {t r:Bool}
@[elab_as_elim] theorem tM {v:V} {xs:List V} (e:rn v xs=some r) {G:Bool->Prop} (k:∀d ds,dat 8 v=some d->U4 (dat 8) xs=some ds->G (ds.any fun y=>jC y d)):G r:=a0 e fun d ed e=>d8 e fun ds es e=>e▸k d ds ed es
theorem gk {l:Addr} {v:V} {wv:Value} {xs:List V} {ws:List Value} (hl:R6 s.heap l ws) (hr:z1 T U bad s.heap xs ws) (hv:VR T U bad f7 s.heap v wv) (e:rn v xs=some r) (hu:A.units+30 < cLine) (h:Q (.bool (t ^^ r)) s):wpAny (model T.prog T.w) A (compareOp (HG t) wv (.ref l)) Q E s:=by
 revert h
 refine tM e fun d ds ed es h=>?_
 have k:=mf (A:=A.in1) es ed hr hv (Ot (Oj (by decide:21≤30) A.units) hu)
 have ha:∀y,y∈ws.toArray->SeqAt.EqAt A.in1 s y wv (Bg s.heap d y):=fun y hy=>k.2 y (List.mem_toArray.mp hy)
 induction t
 ·exact SeqAt.in_listAt (Bg s.heap d) hl.list ha (by rw[any_map k.1];simpa using h)
 ·exact SeqAt.notIn_listAt (Bg s.heap d) hl.list ha (by rw[any_map k.1];simpa using h)
theorem ot {l:Addr} {v:V} {wv:Value} {xs:List V} {ws:List Value} (hl:mA s.heap l ws) (hr:z1 T U bad s.heap xs ws) (hv:VR T U bad f7 s.heap v wv) (e:rn v xs=some r) (hu:A.units+30 < cLine) (h:Q (.bool (t ^^ r)) s):wpAny (model T.prog T.w) A (compareOp (HG t) wv (.ref l)) Q E s:=by
 revert h
 refine tM e fun d ds ed es h=>?_
 have k:=mf (A:=A.in1) es ed hr hv (Ot (Oj (by decide:21≤30) A.units) hu)
 have ha:∀y,y∈ws.toArray->SeqAt.EqAt A.in1 s y wv (Bg s.heap d y):=fun y hy=>k.2 y (List.mem_toArray.mp hy)
 induction t
 ·exact SeqAt.in_tupleAt (Bg s.heap d) hl.tup ha (by rw[any_map k.1];simpa using h)
 ·exact SeqAt.notIn_tupleAt (Bg s.heap d) hl.tup ha (by rw[any_map k.1];simpa using h)
theorem isStrOf_self (x:Str) (t:Tok):Value.isStrOf x (.str x t)=true:=by simp[Value.isStrOf]
theorem isInt_self (x:Int) (t:Tok):Value.isInt x (.int x t)=true:=by simp[Value.isInt]
theorem K6 {K:Type} [DecidableEq K] {knd:KeyKind T.prog T.w K} {a:Addr} {k:K} {wk:Value} {kws:List (K×Value)} {o:Option V} (hk:knd.is k wk=true) (hd:s.heap.DictOf knd a kws) (hs:(a == sysModules)=false) (q:B0 T U bad s.heap o (valueAt kws k))
 (h:∀n,Q (.bool (t ^^ c3 o)) {s with toks:=n}):wpAny (model T.prog T.w) A (compareOp (HG t) wk (.ref a)) Q E s:=by
 rw[←q.isSome]at h
 induction t
 ·exact wpAny_in_of (knd:=knd) hk hs hd.mapOf (by simpa using h _)
 ·exact wpAny_notIn_of (knd:=knd) hk hs hd.mapOf (by simpa using h _)
theorem v3 {K:Type} [DecidableEq K] (knd:KeyKind T.prog T.w K) {h:Heap} {a:Addr} {n:Nat} (e:h.get? a=some {cls:=.type "dict",data:=.dict #[] n}):h.DictOf knd a []:=by
 refine⟨_,#[],n,e,?_,rfl,?_,?_,?_⟩
 ·first|exact⟨rfl,rfl⟩|rfl|simp[Obj.ExactDict]
 ·intro e he;simp at he
 ·exact .nil
 ·simp
theorem vI {c:Nat} {x:Txt} {tk t':Tok} (h:Q (.bool (t ^^ x.any (Nat.beq c))) s):wpAny (model T.prog T.w) A (compareOp (HG t) (.str (i3 [c]) t') (.str (i3 x) tk)) Q E s:=by
 have e:(!(Builtin.Str.occurrences (i3 x) (i3 [c]) 0 (i3 x).length 1).isEmpty)=x.any (Nat.beq c):=by
  show(!(Builtin.Str.occurrences (i3 x) ⟨#[c]⟩ 0 (i3 x).length 1).isEmpty)=_
  rw[StrLaws.found_one,Bool.eq_iff_iff,decide_eq_true_iff,List.any_eq_true]
  exact⟨fun h=>⟨c,by simpa [i3]using h,Nat.beq_refl c⟩,fun⟨y,hy,q⟩=>by rw[Om q];simpa [i3]using hy⟩
 induction t
 ·exact PyProof.Rows.in_str (by rw[e];simpa using h)
 ·exact PyProof.Rows.notIn_str (by rw[e];simpa using h)
theorem Hn {a:V} {wa:Value} {ad:Addr} (g:ME s.heap ad) (ha:C4 T W U s.heap a wa) (e:oS a=some r) (h:∀n,Q (.bool (t ^^ r)) {s with toks:=n}):wpAny (model T.prog T.w) A (compareOp (HG t) wa (.ref ad)) Q E s:=by
 induction g with
 |mk n hs hd=>
  refine i0 e (fun e=>d8 e fun k ek e=>?_) fun e=>d8 e fun k ek e=>?_
  ·subst e;exact n8 ha ek fun tk J=>K6 (T:=T) (U:=U) (knd:=PySem.strKind T.prog T.w) (bad:=k9 T W U) (o:=none) (isStrOf_self _ tk) (v3 _ hd) hs .none h
  ·subst e;exact u6 ha ek fun tk=>K6 (T:=T) (U:=U) (knd:=PySem.intKind T.prog T.w) (bad:=k9 T W U) (o:=none) (isInt_self _ tk) (v3 _ hd) hs .none h
theorem GS {a:V} {o:O} {wa:Value} {ad:Addr} (g:OR T W U s.heap ad o) (ha:C4 T W U s.heap a wa) (e:Lg a o=some r) (hu:A.units+30 < cLine) (h:∀n,Q (.bool (t ^^ r)) {s with toks:=n}):wpAny (model T.prog T.w) A (compareOp (HG t) wa (.ref ad)) Q E s:=
 i0 e (fun e=>a0 e fun f ef e=>d8 e fun k ek e=>by
  rw[H5 ef]at g;subst e
  exact n8 ha ek fun tk J=>match g with|⟨kws,d,s,q,_⟩=>K6 (knd:=PySem.strKind T.prog T.w) (isStrOf_self _ tk) d s (q k) h) fun e=>
 i0 e (fun e=>a0 e fun f ef e=>d8 e fun k ek e=>by
  rw[fG ef]at g;subst e
  exact u6 ha ek fun tk=>match g with|⟨kws,d,s,e,q⟩=>K6 (knd:=PySem.intKind T.prog T.w) (isInt_self _ tk) d s (J9.look (key:=id) (eq:=Iu) ll ⟨e,q⟩ k) h) fun e=>
 i0 e (fun e=>a0 e fun f ef e=>by
  rw[W8 ef]at g
  exact Hn g ha e h) fun e=>
 a0 e fun xs ex e=>by
  rw[N8 ex]at g
  exact match g with|⟨ws,l,q⟩=>gk l q ha e hu (h s.toks)
theorem zB {a b:V} {wa wb:Value} (c:d9 T W U Y s.heap) (ha:C4 T W U s.heap a wa) (hb:C4 T W U s.heap b wb) (e:Iq a b Y=some r) (hu:A.units+30 < cLine) (h:∀n,Q (.bool (t ^^ r)) {s with toks:=n}):wpAny (model T.prog T.w) A (compareOp (HG t) wa wb) Q E s:=
 i0 e (fun e=>a0 e fun x ex e=>a0 e fun y ey e=>d8 e fun k ek e=>by
  subst e;obtain rfl:=B2 ek
  exact n8 ha ey fun t1 J=>n8 hb ex fun t2 J=>vI (h s.toks)) fun e=>
 i0 e (fun e=>a0 e fun i ei e=>a0 e fun o eo e=>c.at eo fun ad h1 g=>A8 hb ei fun ad' h2=>by
  obtain rfl:ad=ad':=NX (h1.symm.trans h2)
  exact GS g ha e hu h) fun e=>
 i0 e (fun e=>a0 e fun xs ex e=>E6 hb ex fun l ws hl J q=>ot hl q ha e hu (h s.toks)) fun e=>
 i0 e (fun e=>a0 e fun xs ex e=>VR.z0 hb ex fun l ws hl J q=>gk hl q ha e hu (h s.toks)) fun e=>
 a0 e fun kvs ek e=>d8 e fun k e1 e=>by
  subst e
  exact VR.U3 hb ek fun l d=>d.Ba fun kws hd hs q=>n8 ha e1 fun tk J=>K6 (knd:=PySem.strKind T.prog T.w) (isStrOf_self _ tk) hd hs (J9.look D1 q k) h
theorem VR.nR {v:V} {w:Value} (x:VR T U bad f7 s.heap v w) (e:isNone v=some false):w≠.none:=by
 cases v with
 |bool=>exact x.H7 nofun
 |int=>exact x.u6 fun J=>nofun
 |str=>exact x.n8 fun J J=>nofun
 |tup=>exact x.E6 fun J J J J J=>nofun
 |lst|g6=>exact VR.z0 x rfl fun J J J J J=>nofun
 |none=>exact absurd (NX e) (by decide)
 |_=>exact ns e
theorem kI {o:Option Bool} {r:Bool} (h:o.map not=some r):o=some !r:=by
 induction o with
 |none=>exact ns h
 |some b=>exact Oh some (by rw[←NX h,Bool.not_not])
theorem VR.is_none {v:V} {w:Value} (x:VR T U bad f7 s.heap v w) (e:isNone v=some true):w=.none:=by
 obtain rfl:v=.none:=by cases v<;>first|rfl|exact absurd (NX e) (by decide)|exact ns e
 exact x.J0 rfl
theorem HB {op:hV} {a b:V} {wa wb:Value} (c:d9 T W U Y s.heap) (ha:C4 T W U s.heap a wa) (hb:C4 T W U s.heap b wb) (e:rV op a b Y=some r) (hu:A.units+30 < cLine) (h:∀n,Q (.bool r) {s with toks:=n}):wpAny (model T.prog T.w) A (compareOp (M8 op) wa wb) Q E s:=by
 have ord:∀{f:Int->Int->Bool} {G:Value->Value->Bool->Prop},yE f a b=some r->(∀x y t u,G (.int x t) (.int y u) (f x y))->G wa wb r:=fun{f G} e k=>a0 e fun x ex e=>d8 e fun y ey e=>by subst e;exact u6 ha ex fun t=>u6 hb ey fun u=>k x y t u
 induction op with
 |eq=>exact JX ha hb e (Ot (Oj (by decide:20≤30) _) hu) (h s.toks)
 |ne=>exact Jf ha hb (kI e) (Ot (Oj (by decide:20≤30) _) hu) (by rw[Bool.not_not];exact h s.toks)
 |is=>exact a0 e fun J ex e=>J0 hb ex (by
  induction r with
  |true=>rw[ha.is_none e];exact is_none_none (h s.toks)
  |false=>exact is_none_ne (ha.nR e) (h s.toks))
 |M5=>exact a0 (kI e) fun J ex e=>J0 hb ex (by
  induction r with
  |true=>exact isnot_none_ne (ha.nR e) (h s.toks)
  |false=>rw[ha.is_none e];exact isnot_none_none (h s.toks))
 |ik=>exact zB (t:=false) c ha hb e hu (by simpa using h)
 |R7=>exact zB (t:=true) c ha hb (kI e) hu (by simpa using h)
 |lt=>exact ord (G:=fun wa wb r=>Q (.bool r) s->wpAny _ _ (compareOp _ wa wb) _ _ _) e (fun J J J J h=>wpAny_lt_int h) (h s.toks)
 |le=>exact ord (G:=fun wa wb r=>Q (.bool r) s->wpAny _ _ (compareOp _ wa wb) _ _ _) e (fun J J J J h=>le_int h) (h s.toks)
 |gt=>exact ord (G:=fun wa wb r=>Q (.bool r) s->wpAny _ _ (compareOp _ wa wb) _ _ _) e (fun J J J J h=>gt_int h) (h s.toks)
 |ge=>exact ord (G:=fun wa wb r=>Q (.bool r) s->wpAny _ _ (compareOp _ wa wb) _ _ _) e (fun J J J J h=>ge_int h) (h s.toks)
end
inductive Ii (T:i7):Prop
 |mk (mg mb:Str->Option Value) (n1:T.B.Ns mainGlobals mg) (n2:T.B.Ns builtinsNs mb) (r:∀x v,d6 T.glob x=some v->∃w,bN T v w∧(mg (T.nm x)=some w∨(mg (T.nm x)=none∧mb (T.nm x)=some w)))
structure E4 (T:i7) (P:Pg):Prop where
 Ei:P.glob=T.glob
 fx:P.univ=T.univ
 Ld:∀x k,P.names[x]? =some k->T.nm x=i3 k
 rG:∀x y,T.nm x=T.nm y->x=y
 glob:Ii T
 tp:T.B.NoLimit
 vE:T.K.In T.B
 bi:∀b,handedIn (T.bi b)=true
 small:T.univ.length≤1000
 af:∀n,n∈T.AF->∀c C,T.cls c=some C->DZ T n C
 sf:∀n,n∈T.SF->∀c C,T.cls c=some C->AV T n C
 dot:∀x,T.nm x≠ ".0"
section
theorem oW (c:Cx T W n A env own m U Y s):A.units+30 < cLine:=Ot (Nat.add_le_add_right (Oe (Nat.le_add_right _ _) c.ar.units) 30) (by decide)
theorem C1 {v v':V} {w:Value} {f7:Addr->Prop} {bad:Addr->Prop} (e:freeze v=some v') (x:VR T U bad f7 h v w):solid v'=true∧VS T U bad h v' w:=by
 have low:∀{xs:List V},E2 v=some xs->dw v=false->VS T U bad h (.lst xs) w:=fun{xs} e1 e2=>VR.z0 x e1 fun a ws l n r=>.je _ xs ws a rfl rfl l (n e2) r
 cases v with
 |g6 xs=>obtain rfl:=NX e;exact⟨rfl,low rfl rfl⟩
 |E1 kvs=>
  obtain rfl:=NX e
  refine⟨rfl,?_⟩
  cases x with
  |mk _ _ x=>cases x with
   |G3 _ _ x=>cases x
   |je _ _ _ _ e=>exact ns e
   |my _ kvs a kws e e2 hd hs nb ek r=>exact .my _ kvs a kws e rfl hd hs nb ek r
 |ct=>
  cases x with
  |mk _ _ x=>cases x with
   |G3 _ _ x=>cases x
   |je _ _ _ _ e=>exact ns e
   |my _ _ _ _ e=>exact ns e
 |snap=>exact ns e
 |Z9=>exact ns e
 |_=>obtain rfl:=NX e;exact⟨rfl,x.vs rfl⟩
theorem V6 {kd:Kd} {e:X} {e':Ex} (t:Tr T kd e e') (rest:List Ex) (env:Env):starEach (e'::rest) env=(false,eval e' env)::starEach rest env:=
 Tr.all (G:=fun e'=>starEach (e'::rest) env=(false,eval e' env)::starEach rest env) t (fun J J=>rfl) (fun J J J=>rfl) (fun J J J J=>rfl) (fun J J J=>rfl) (fun J J J=>rfl) (fun J J J J=>rfl) (fun J J J J=>rfl) (fun J J J=>rfl) (fun J J J=>rfl) (fun J J J=>rfl) (fun J J=>rfl) (fun J J J=>rfl) (fun J J J=>rfl) (fun J J J J=>rfl)
theorem xK {kd:Kd} {e:X} {e':Ex} (t:Tr T kd e e') (op:CmpOp):behindInMarks op e'=false:=
 Tr.all (G:=fun e'=>behindInMarks op e'=false) t (fun J J=>rfl) (fun J J J=>rfl) (fun J J J J=>rfl) (fun J J J=>rfl) (fun J J J=>rfl) (fun J J J J=>rfl) (fun J J J J=>rfl) (fun J J J=>rfl) (fun J J J=>rfl) (fun J J J=>rfl) (fun J J=>rfl) (fun J J J=>rfl) (fun J J J=>rfl) (fun J J J J=>rfl)
def Nd (T:i7) (W:r9) (U:List Addr) (s:Shared) (Q:List Value->Shared->Prop) (vs:List V) (c7:Hp):Prop:=∀ws s' d7,i4 T W U s c7 d7 s'->E3 T W d7 s'.heap vs ws->Q ws s'
theorem gG (hr:g7 T n r.ev) {pos:Pos} {es:List X} {es':List Ex} (t:Z2 T env.kindOf es es'):∀{U:List Addr} {Y:Hp} {s:Shared} {Q:List Value->Shared->Prop},Cx T W n A env own m U Y s->
 (G7 r m es Y).c4 (Nd T W U s Q) (XV T W U s E)->wpAny (model T.prog T.w) A (spliced (backTo pos (starEach es' env))) Q E s:=by
 induction t with
 |nil=>exact fun c h=>NW (h [] _ _ (i4.refl c.rel) .nil)
 |cons x e xs es te ts ih=>
  intro U Y s Q c h
  rw[V6 te]
  exact spliced_cons (Be hr c te h fun v c9 w c5 c8 o hv J h=>a9 h fun v' e h=>ih (c.mv o) (c4.step o (R.d5.mp h) fun vs n9 k ws l3 o7 i8 q=>
   k (w::ws) l3 o7 (o.trans i8) (.cons _ _ _ _ (C1 e hv).1 (i8.ext.vs (C1 e hv).2) q)))
inductive J5 (T:i7) (W:r9) (U:List Addr) (h:Heap):List V->List Value->List Addr->Prop
 |nil:J5 T W U h [] [] []
 |plain (v:V) (w:Value) (vs:List V) (ws:List Value) (as:List Addr):made v=false->C4 T W U h v w->J5 T W U h vs ws as->J5 T W U h (v::vs) (w::ws) as
 |own (v:V) (a:Addr) (vs:List V) (ws:List Value) (as:List Addr):a∈W.own->M0 T W U h a v->J5 T W U h vs ws as->J5 T W U h (v::vs) (.ref a::ws) (a::as)
inductive hM (T:i7) (W:r9) (U:List Addr) (s:Shared) (c7:Hp) (d7:List Addr) (s':Shared) (vs:List V) (ws:List Value):Prop
 |mk (W':r9) (as:List Addr) (g:s8 s W W') (r:d9 T W' d7 c7 s'.heap) (q:J5 T W' d7 s'.heap vs ws as) (nd:as.Nodup) (nw:∀a,a∈as->s.heap.get? a=none)
def Nf (T:i7) (W:r9) (U:List Addr) (s:Shared) (Q:List Value->Shared->Prop) (vs:List V) (c7:Hp):Prop:=∀ws s' d7,i4 T W U s c7 d7 s'->hM T W U s c7 d7 s' vs ws->Q ws s'
theorem M0.mv {a:Addr} {v:V} {S:Addr->Prop} {h':Heap} (q:M0 T W U h a v) (m:Ms U d7 (k9 T W U) (k9 T W' d7) S h h') (k:At a h h'):M0 T W' d7 h' a v:=by
 induction q with
 |l xs ws l r=>exact .l xs ws (l.at k) (r.ms m)
 |d kvs d=>exact .d kvs (d.at m k)
theorem M0.there {a:Addr} {v:V} (q:M0 T W U h a v):∃o,h.get? a=some o:=by
 induction q with
 |l xs ws l r=>exact l.there
 |d kvs d=>exact match d with|⟨_,hd,_,_,_⟩=>l9 hd
theorem rE (x:V3 T W U d7 s s') (g:s8 s W W'):Ms U d7 (k9 T W U) (k9 T W' d7) (A6 T W U) s.heap s'.heap:=⟨x.pre,x.off,x.ms.sb,fun a o e q=>x.bE e (g.v5.back e q)⟩
theorem jB (hr:g7 T n r.ev) {pos:Pos} {es:List X} {es':List Ex} (t:Z2 T env.kindOf es es'):∀{W:r9} {U:List Addr} {Y:Hp} {s:Shared} {Q:List Value->Shared->Prop},Cx T W n A env own m U Y s->
 (m7 r m es Y).c4 (Nf T W U s Q) (XV T W U s E)->wpAny (model T.prog T.w) A (spliced (backTo pos (starEach es' env))) Q E s:=by
 induction t with
 |nil=>exact fun c h=>NW (h [] _ _ (i4.refl c.rel) ⟨_,[],s8.refl,c.rel,.nil,List.nodup_nil,fun J q=>nomatch q⟩)
 |cons x e xs es te ts ih=>
  intro W U Y s Q c h
  rw[V6 te]
  refine spliced_cons (Be hr c te h fun v c9 w c5 c8 o hv hf h=>?_)
  have key:∀(iH:r9),s8 s W iH->d9 T iH c8 c9 c5.heap->(∀o7 l3 bI vs ws as,V3 T iH c8 o7 c5 l3->s8 c5 iH bI->J5 T bI o7 l3.heap vs ws as->(∀a,a∈as->c5.heap.get? a=none)->as.Nodup->
   ∃as',J5 T bI o7 l3.heap (v::vs) (w::ws) as'∧as'.Nodup∧∀a,a∈as'->s.heap.get? a=none)->wpAny (model T.prog T.w) A (spliced (backTo pos (starEach es env))) (fun vs l3=>Q (w::vs) l3) E c5:=
   fun iH rB tN hb=>ih (c.grow o rB tN) (R.c4.mono (R.d5.mp h) (fun vs n9 k ws l3 o7 i8 ⟨bI,as,oB,JK,q,nd,nw⟩=>
    match hb o7 l3 bI vs ws as i8.ext oB q nw nd with|⟨as',q',nd',nw'⟩=>k (w::ws) l3 o7 (o.jv rB i8) ⟨bI,as',rB.trans (oB.since o.ext),JK,q',nd',nw'⟩)
    fun t n9 k e l3 o7 i8 q=>k e l3 o7 (o.jv rB i8) (q.since o.ext rB))
  induction hm:made v with
  |false=>exact key W s8.refl o.rel fun o7 l3 bI vs ws as uC oB q nw nd=>⟨as,.plain _ w vs ws as hm (VR.mv (rE uC oB) (fun a o e z=>⟨fun y=>(uC.f7 a o e z).1 (y.imp id fun y=>y.imp (fun y=>oB.l6▸y) id),(uC.f7 a o e z).2⟩) hv) q,nd,fun b hb=>o.ext.since (nw b hb)⟩
  |true=>
   induction hf hm with
   |mk a iH n1 rB ha tN IU=>
    exact key iH rB tN fun o7 l3 bI vs ws as uC oB q nw nd=>⟨a::as,.own v a vs ws as (oB.own a ha) (IU.mv (rE uC oB) (uC.ownAt tN.o5 ha)) q,List.nodup_cons.mpr ⟨fun z=>IU.there.elim fun J e=>d0 (nw a z) e,nd⟩,fun b hb=>(Of hb).elim (fun z=>z▸n1) fun z=>o.ext.since (nw b z)⟩
inductive xi (T:i7) (W:r9) (U:List Addr) (h:Heap):List V->List Value->Prop
 |nil:xi T W U h [] []
 |cons (v:V) (w:Value) (vs:List V) (ws:List Value):C4 T W U h v w->xi T W U h vs ws->xi T W U h (v::vs) (w::ws)
theorem M0.vr {a:Addr} {v:V} (q:M0 T W' U h a v) (m:Ms U U (k9 T W' U) (k9 T W U) (fun J=>False) h h) (nb:¬k9 T W U a):C4 T W U h v (.ref a):=by
 induction q with
 |l xs ws l r=>exact .mk _ _ (.je _ xs ws a rfl rfl l nb (r.ms m))
 |d kvs d=>exact match d.at m (fun J e=>e)with|⟨kws,hd,s,e,r⟩=>.mk _ _ (.my _ kvs a kws rfl rfl hd s nb e r)
theorem bZ (c:Bj T W U s.heap) (g:s8 s W W') (r:d9 T W' d7 c7 h) {a:Addr} (ha:a∈W'.own) (hn:s.heap.get? a=none):¬k9 T W d7 a:=fun q=>(r.o5.own a ha).nm (q.imp id fun q=>q.imp (fun q=>g.l6▸q) fun q=>q.elim (fun q=>(c.own a q).ex.elim fun J e=>d0 hn e) id)
theorem hM.vr {vs:List V} {ws:List Value} (c:Bj T W U s.heap) (x:hM T W U s c7 d7 s' vs ws):xi T W d7 s'.heap vs ws:=by
 induction x with
 |mk W' as g r q nd nw=>
  clear nd
  have m:=g.ms (T:=T) (U:=d7) s'.heap
  induction q with
  |nil=>exact .nil
  |plain v w vs ws as hm hv _ ih=>exact .cons _ _ _ _ (VR.mv m (fun a J J q=>⟨fun z=>q (z.imp id fun z=>z.imp (fun z=>g.l6▸z) id),id⟩) hv) (ih nw)
  |own v a vs ws as ha q _ ih=>exact .cons _ _ _ _ (q.vr m (bZ c g r ha (nw a (.head _)))) (ih fun b hb=>nw b (.tail _ hb))
theorem xi.one {vs:List V} {ws:List Value} {v:V} {G:List Value->Prop} (x:xi T W U h vs ws) (e:y0 vs=some v) (k:∀w,C4 T W U h v w->G [w]):G ws:=by
 obtain rfl:=B2 e
 cases x with|cons _ w _ _ a q=>cases q;exact k w a
theorem xi.two {vs:List V} {ws:List Value} {v:V×V} {G:List Value->Prop} (x:xi T W U h vs ws) (e:two1 vs=some v) (k:∀w u,C4 T W U h v.1 w->C4 T W U h v.2 u->G [w,u]):G ws:=by
 obtain rfl:=two1_eq e
 cases x with|cons _ w _ _ a q=>cases q with|cons _ u _ _ b q=>cases q;exact k w u a b
end
theorem vG {α:Type} {o:Option α} {G:Prop} (h:o.isSome=true) (k:∀a,o=some a->G):G:=by
 induction o with
 |none=>exact Bool.noConfusion h
 |some a=>exact k a rfl
theorem A1 {B h:Heap} (k:B.StaysIn h) {a:Addr} {m:Str->Option Value} (n:B.Ns a m):h.Ns a m:=iV n fun o e=>k a o e
theorem nH {v:V} (h:solid v=true):Y4 v=none∨(Y4 v=some v∧made v=false):=by
 cases v<;>first|exact .inr ⟨rfl,rfl⟩|exact .inl rfl|exact Bool.noConfusion h
theorem IX {o:Option NameKind} (h:f6 o T6=true):o=some .local∨o=some .cell∨o=some .free:=by
 induction o with
 |none=>exact Bool.noConfusion h
 |some k=>induction k<;>first|exact .inl rfl|exact .inr (.inl rfl)|exact .inr (.inr rfl)|exact Bool.noConfusion h
theorem bN.made {T:i7} {v:V} {w:Value} (x:bN T v w):made v=false:=bN.rec (motive:=fun v J J=>Mine.made v=false) rfl (fun J=>rfl) (fun J J=>rfl) (fun J J J=>rfl) (fun J J J J=>rfl) (fun J J J=>rfl) (fun J J J=>rfl) (fun J=>rfl) x
variable {P:Pg} {e':Ex} {y:X}
section
variable {z:X}
theorem eW {v:V} {w:Value} {b:Bool} {Q:Bool->Shared->Prop} (hv:C4 T W U s.heap v w) (e:eX v=some b) (h:Q b s):wpAny (model T.prog T.w) A (truthy w) Q E s:=
 i0 e (fun e=>H7 hv e (wpAny_truthy_bool h)) fun e=>i0 e (fun e=>d8 e fun J e e'=>J0 hv e (truthy_none (e'▸h))) fun e=>d8 e fun i e e'=>u6 hv e fun t=>PyProof.Rows.truthy_int (by
  have e2:decide (i≠0)=(i != 0):=by by_cases q:i=0<;>simp[q]
  rw[←e2,e'];exact h)
theorem zc (c:Cx T W n A env own m U Y s) {v:V} (t:Tr T env.kindOf (.lit v) e') (h:KV T W U s Q v Y):wpAny (model T.prog T.w) A (eval e' env) Q E s:=
 t.rh fun cc i p q=>by
  induction cc with
  |none=>exact vG q fun J e=>wpAny_Constant_none (KV.G3 c.rel (cK e▸.none) (cK e▸rfl) h)
  |bool b=>exact b7 q fun J e q=>wpAny_Constant_bool (KV.bool c.rel (NZ q▸cL e▸h))
  |int b=>exact b7 q fun J e q=>wpAny_Constant_int (KV.int c.rel (NZ q▸gU e▸h))
  |str b=>exact b7 q fun J e q=>a7 q fun q1 q2=>(by rw[←NZ q1];exact wpAny_Constant_str (KV.str c.rel q2 (U8 e▸h)))
  |bytes b=>exact b7 q fun u e q=>(have:wpAny (model T.prog T.w) A (mkTextBytes b.toArray) Q E s:=fun J J J=>KV.G3 c.rel (.bytes u b.toArray s.toks (NZ q)) rfl (aA e▸h);this)
  |_=>exact Bool.noConfusion q
theorem D8 {h:Heap} {y:Str} {w:Value} (c:env.scope.kind=.function) (hd:y4 y=true) (x:n7 W env s.heap y w) {p:Pos} (h:Q w s):wpAny (model T.prog T.w) A (eval (.Name y p) env) Q E s:=
 a7 hd fun h1 h2=>wpAny_Name (match x with
  |.loc f k n e=>wpAny_loadName_local c k n e h
  |.P0 ca k hc ho hi=>k.elim (fun k=>wpAny_loadName_cell c k hc hi h) fun k=>wpAny_loadName_free c k hc hi h ((Bool.not_eq_true' _).mp h2)) ((Bool.not_eq_true' _).mp h1)
theorem FV.borrowed (k:Bj T W U s.heap) (ho:∀x a,(x,a)∈own->a∈W.own) {x:Nat} {v v':V} {w:Value} (h:FV T W U s.heap own x v w) (e:Y4 v=some v'):C4 T W U s.heap v' w∧made v'=false:=by
 induction h with
 |ml xs ws a o l r=>cases e;exact⟨.FE xs ws a l (k.own a (ho _ _ o)).nm r,rfl⟩
 |md kvs a o q=>cases e;exact match q with|⟨kws,hd,s,e,r⟩=>⟨.snd kvs a kws hd s (k.own a (ho _ _ o)).nm e r,rfl⟩
 |mo=>exact ns e
 |pl _ _ g r=>exact(nH g).elim (fun q=>d0 q e) fun q=>NX (q.1.symm.trans e)▸⟨.mk _ _ r,q.2⟩
theorem aU (c:Cx T W n A env own m U Y s) {x:Nat} {v:V} (t:Tr T env.kindOf (.NT x) e') (e:d6 m x=some v) (k:∀w,n7 W env s.heap (T.nm x) w->FV T W U s.heap own x v w->Q w s):wpAny (model T.prog T.w) A (eval e' env) Q E s:=
 t.P5 fun p h1 J h3=>(c.fr.var x v e (h3 (c.fr.loc x v e))).elim fun w z=>D8 (h:=s.heap) c.fr.kind h1 z.1 (k w z.1 z.2)
theorem vp (tk:E4 T P) (c:Cx T W n A env own m U Y s) {x:Nat} (t:Tr T env.kindOf (.NT x) e') (h:(s7 P r m (.NT x) Y).c4 (KV T W U s Q) (XV T W U s E)):wpAny (model T.prog T.w) A (eval e' env) Q E s:=
 cf (K:=fun z=>R.c4 z _ _) h (fun v e h=>w0 h fun v' e' h=>aU c t e fun w J f=>KV.here c.rel (f.borrowed c.rel.o5 c.fr.own e').1 (f.borrowed c.rel.o5 c.fr.own e').2 h) fun e h=>w0 h fun v e h=>by
  rw[tk.Ei]at e
  exact t.P5 fun p h1 h2 J=>match tk.glob with
  |⟨mg,mb,n1,n2,q⟩=>(q x v e).elim fun w z=>Name_function_global c.fr.kind (h2 v e) (z.2.elim (fun hw=>loadGlobal_global (c.fr.glob▸A1 c.rel.base n1) hw (KV.G3 c.rel z.1 z.1.made h))
   fun hw=>loadGlobal_builtin (c.fr.glob▸A1 c.rel.base n1) hw.1 (c.fr.blt▸A1 c.rel.base n2) hw.2 (KV.G3 c.rel z.1 z.1.made h)) (a7 h1 fun h1 J=>(Bool.not_eq_true' _).mp h1)
theorem AB (hr:g7 T n r.ev) (c:Cx T W n A env own m U Y s) {op:Io} (t:Tr T env.kindOf (.bin op x y) e') (h:(s7 P r m (.bin op x y) Y).c4 (KV T W U s Q) (XV T W U s E)):wpAny (model T.prog T.w) A (eval e' env) Q E s:=
 t.sh fun J J J t1 t2=>wpAny_BinOp (Bd hr c t1 h fun a c9 wa c5 c8 w3 va h=>Bd hr (c.mv w3) t2 h fun b n9 wb l3 o7 i8 vb h=>w0 h fun v e h=>HN i8.rel c.ar.handled (i8.ext.vr va) vb e h)
theorem yG (hr:g7 T n r.ev) (c:Cx T W n A env own m U Y s) (t:Tr T env.kindOf (.not x) e') (h:(s7 P r m (.not x) Y).c4 (KV T W U s Q) (XV T W U s E)):wpAny (model T.prog T.w) A (eval e' env) Q E s:=
 t.qS fun J J t1=>wpAny_UnaryOp (Bd hr c t1 h fun a c9 wa c5 c8 w3 va h=>a9 h fun b e h=>not_of (eW va e (KV.bool w3.rel h)))
theorem yO (hr:g7 T n r.ev) (c:Cx T W n A env own m U Y s) (t:Tr T env.kindOf (.neg x) e') (h:(s7 P r m (.neg x) Y).c4 (KV T W U s Q) (XV T W U s E)):wpAny (model T.prog T.w) A (eval e' env) Q E s:=
 t.qW fun J J t1=>wpAny_UnaryOp (Bd hr c t1 h fun a c9 wa c5 c8 w3 va h=>a9 h fun i e h=>u6 va e fun t=>PyProof.Rows.neg_int (KV.int w3.rel h))
noncomputable def Kv (b:Bool):BoolOp:=if b then .And else .Or
theorem DJ (hr:g7 T n r.ev) {pos:Pos} {b:Bool} {es:List X}:∀{x:X} {e':Ex} {es':List Ex} {U:List Addr} {Y:Hp} {s:Shared},Cx T W n A env own m U Y s->Tr T env.kindOf x e'->Z2 T env.kindOf es es'->
 (Dp r m b x es Y).c4 (KV T W U s Q) (XV T W U s E)->wpAny (model T.prog T.w) A (boolOp pos (Kv b) (evalEach (e'::es') env)) Q E s:=by
 induction es with
 |nil=>exact fun c t ts h=>by cases ts;exact hr c t h
 |cons e2 es ih=>
  intro x e' es' U Y s c t ts h
  cases ts with
  |cons _ e2' _ es' t2 ts=>
   show wpAny _ _ (do
    let v←eval e' env
    standAt pos
    let t←holding [v] (truthy v)
    match Kv b,t with
    |.And,false|.Or,true=>pure v
    |_,_=>boolOp pos (Kv b) (evalEach (e2'::es') env)) _ _ _
   refine NU (Be hr c t h fun v c9 w c5 c8 o hv hf h=>NU (Ow (NU (Oo (a9 h fun t e h=>eW hv e ?_)))))
   have go:(Dp r m b e2 es c9).c4 (KV T W U s Q) (XV T W U s E)->_:=fun h=>ih (c.mv o) t2 ts (c4.step o h fun J J q=>q.step o)
   have st:KV T W U s Q v c9->Q w c5:=fun k=>k _ _ _ o hv hf
   cases b<;>induction t<;>first|exact NW (st h)|exact go h
theorem ur (hr:g7 T n r.ev) (c:Cx T W n A env own m U Y s) {b:Bool} {es:List X} {es':List Ex} {p:Pos} (t:Z2 T env.kindOf es es') (h:(rP r m b es Y).c4 (KV T W U s Q) (XV T W U s E)):wpAny (model T.prog T.w) A (eval (.BoolOp (Kv b) es' p) env) Q E s:=by
 rw[arm_eval_BoolOp]
 induction t with
 |nil=>exact h.elim
 |cons _ _ _ _ t ts=>exact DJ hr c t ts h
theorem iY {kd:Kd} {env:Env} {rs:List (hV×X)} {es:List Ex} (t:Ff T kd rs es):markedEach (rs.map fun q=>M8 q.1) es (evalEach es env)=evalEach es env:=by
 induction t with
 |nil=>rfl
 |cons q e xs es te ts ih=>induction ts with
  |nil=>exact Oh (· ::[]) (markedBehindIn_of_false (xK te _))
  |cons=>exact Oh (_:: ·) ih
theorem wI (hr:g7 T n r.ev) {α β:Type} {op:hV} {a:V} {wa:Value} {f:V->Bool->Hp->R α} {K:α->Hp->Prop} {QQ:β->Shared->Prop} {H:Value->Sem Value->Sem β} {Q':Value->Value->Shared->Prop} (hH:∀{rv t s},wpAny (model T.prog T.w) A t (Q' rv) E s->wpAny (model T.prog T.w) A (H rv t) QQ E s)
 (c:Cx T W n A env own m U Y s) (va:C4 T W U s.heap a wa) (t:Tr T env.kindOf x e') {pos:Pos} (h:((r.ev m x Y).bind fun b Y=>(b8 74 (rV op a b Y) Y).bind (f b)).c4 K (XV T W U s E))
 (k:∀b c9 wb c5 c8 t,i4 T W U s c9 c8 c5->C4 T W c8 c5.heap b wb->(f b t c9).c4 K (XV T W U s E)->Q' wb (.bool t) c5):
 wpAny (model T.prog T.w) A (do let rv←holding [wa] (eval e' env);standAt pos;H rv (compareOp (M8 op) wa rv)) QQ E s:=
 NU (Oo (Be hr c t h fun b c9 wb c5 c8 o vb J h=>NU (Ow (hH (a9 h fun t e h=>HB o.rel (o.ext.vr va) vb e (oW c) fun i=>k b c9 wb _ c8 t (o.trans (i4.toks o.rel)) vb h)))))
theorem As (hr:g7 T n r.ev) {pos:Pos} {rs:List (hV×X)}:∀{op:hV} {x:X} {e':Ex} {es':List Ex} {a:V} {wa:Value} {U:List Addr} {Y:Hp} {s:Shared},Cx T W n A env own m U Y s->C4 T W U s.heap a wa->Tr T env.kindOf x e'->Ff T env.kindOf rs es'->
 (wH r m a op x rs Y).c4 (KT T W U s (fun b=>Q (.bool b))) (XV T W U s E)->wpAny (model T.prog T.w) A (compareChain pos wa (M8 op::rs.map fun q=>M8 q.1) (evalEach (e'::es') env)) Q E s:=by
 induction rs with
 |nil=>
  intro op x e' es' a wa U Y s c va t ts h
  cases ts
  exact wI (H:=fun rv=>operate [wa,rv]) (Q':=fun J=>Q) (f:=fun J t Y=>.ok t Y) hr (fun h=>wpAny_operating h) c va t h fun b c9 wb c5 c8 t o vb h=>h _ _ o
 |cons p rs ih=>
  intro op x e' es' a wa U Y s c va t ts h
  cases ts with
  |cons _ e2' _ es' t2 ts=>
   refine wI (H:=fun rv t=>do let c←holding [wa,rv] t;release [wa,rv] [c];if←holding [c,rv] (truthy c)then compareChain pos rv (M8 p.1::rs.map fun q=>M8 q.1) (evalEach (e2'::es') env)else pure c)
    (f:=fun b t Y=>bif t then wH r m b p.1 p.2 rs Y else .ok false Y) hr (fun h=>NU (Oo h)) c va t h fun b c9 wb c5 c8 t o vb h=>NU (wpAny_release (NU (Oo (wpAny_truthy_bool ?_))))
   cases t with
   |false=>exact NW (h _ _ o)
   |true=>exact ih (c.mv o) vb t2 ts (c4.step o h fun J J q=>q.step o)
theorem uL (hr:g7 T n r.ev) {pos:Pos} {Q:Bool->Shared->Prop} {rs:List (hV×X)}:∀{op:hV} {x:X} {e':Ex} {es':List Ex} {a:V} {wa:Value} {U:List Addr} {Y:Hp} {s:Shared},Cx T W n A env own m U Y s->C4 T W U s.heap a wa->Tr T env.kindOf x e'->Ff T env.kindOf rs es'->
 (wH r m a op x rs Y).c4 (KT T W U s Q) (XV T W U s E)->wpAny (model T.prog T.w) A (testChain pos wa (M8 op::rs.map fun q=>M8 q.1) (evalEach (e'::es') env)) Q E s:=by
 induction rs with
 |nil=>
  intro op x e' es' a wa U Y s c va t ts h
  cases ts
  exact wI (H:=fun rv t=>do let c←operate [wa,rv] t;holding [c] (truthy c)) (f:=fun J t Y=>.ok t Y) hr (fun h=>NU (wpAny_operating h)) c va t h fun b c9 wb c5 c8 t o vb h=>Oo (wpAny_truthy_bool (h _ _ o))
 |cons p rs ih=>
  intro op x e' es' a wa U Y s c va t ts h
  cases ts with
  |cons _ e2' _ es' t2 ts=>
   refine wI (H:=fun rv t=>do let c←holding [wa,rv] t;release [wa,rv] [c];if←holding [c,rv] (truthy c)then testChain pos rv (M8 p.1::rs.map fun q=>M8 q.1) (evalEach (e2'::es') env)else pure false)
    (f:=fun b t Y=>bif t then wH r m b p.1 p.2 rs Y else .ok false Y) hr (fun h=>NU (Oo h)) c va t h fun b c9 wb c5 c8 t o vb h=>NU (wpAny_release (NU (Oo (wpAny_truthy_bool ?_))))
   cases t with
   |false=>exact NW (h _ _ o)
   |true=>exact ih (c.mv o) vb t2 ts (c4.step o h fun J J q=>q.step o)
theorem An (hr:g7 T n r.ev) (c:Cx T W n A env own m U Y s) {rs:List (hV×X)} (t:Tr T env.kindOf (.cmp x rs) e') (h:(s7 P r m (.cmp x rs) Y).c4 (KV T W U s Q) (XV T W U s E)):wpAny (model T.prog T.w) A (eval e' env) Q E s:=
 t.rU fun l es p t1 t2=>by
  rw[arm_eval_Compare,iY t2]
  exact NU (Bd hr c t1 h fun a c9 wa c5 c8 o va h=>by
   induction t2 with
   |nil=>exact h.elim
   |cons _ _ _ _ u ts=>exact As hr (c.mv o) va u ts (R.c4.mono (R.d5.mp h) (fun b n9 h l3 o7 i8=>KV.bool i8.rel (h.step i8)) fun J J x=>x))
theorem zv (hr:g7 T n r.ev) (ht:D5 T n r.tr) (c:Cx T W n A env own m U Y s) (t:Tr T env.kindOf (.ite x y z) e') (h:(s7 P r m (.ite x y z) Y).c4 (KV T W U s Q) (XV T W U s E)):wpAny (model T.prog T.w) A (eval e' env) Q E s:=
 t.gh fun J J J J t1 t2 t3=>wpAny_IfExp (Ll ht c t1 h fun b c9 c5 c8 o h=>by
  induction b with
  |true=>exact hr (c.mv o) t2 (c4.step o h fun J J q=>q.step o)
  |false=>exact hr (c.mv o) t3 (c4.step o h fun J J q=>q.step o))
theorem vB (hr:g7 T n r.ev) (c:Cx T W n A env own m U Y s) {es:List X} (t:Tr T env.kindOf (.list es) e') (h:(s7 P r m (.list es) Y).c4 (KV T W U s Q) (XV T W U s E)):wpAny (model T.prog T.w) A (eval e' env) Q E s:=
 t.kL fun J J t1=>wpAny_List_spliced (gG hr t1 c (R.c4.mono (R.d5.mp h) (fun vs c9 h ws c5 c8 o q=>a9 h fun us e h=>i9 e fun g e=>⟨by rw[q.length];exact u7 g,KV.newList o.rel q (e▸KV.step o h)⟩) fun J J x=>x))
theorem qg (hr:g7 T n r.ev) (c:Cx T W n A env own m U Y s) {es:List X} (t:Tr T env.kindOf (.tuple es) e') (h:(s7 P r m (.tuple es) Y).c4 (KV T W U s Q) (XV T W U s E)):wpAny (model T.prog T.w) A (eval e' env) Q E s:=
 t.eU fun J J J t1=>wpAny_Tuple_spliced (gG hr t1 c (R.c4.mono (R.d5.mp h) (fun vs c9 h ws c5 c8 o q=>a9 h fun us e h=>i9 e fun g e=>⟨by rw[q.length];exact u7 g,KV.newTuple o.rel q (e▸KV.step o h)⟩) fun J J x=>x))
section
variable {Q:Bool->Shared->Prop}
theorem xP (ht:D5 T n r.tr) {b:Bool} {es:List X}:∀{es':List Ex} {U:List Addr} {Y:Hp} {s:Shared},Cx T W n A env own m U Y s->Z2 T env.kindOf es es'->
 (bQ r m b es Y).c4 (KT T W U s Q) (XV T W U s E)->wpAny (model T.prog T.w) A (allTrue (Kv b) es' env) Q E s:=by
 induction es with
 |nil=>exact fun c ts h=>by cases ts;induction b<;>exact NW (h _ _ (i4.refl c.rel))
 |cons x es ih=>
  intro es' U Y s c ts h
  cases ts with
  |cons _ e' _ es' t ts=>
   rw[arm_allTrue_cons]
   refine NU (Ll ht c t h fun t c9 c5 c8 o h=>?_)
   have go:(bQ r m b es c9).c4 (KT T W U s Q) (XV T W U s E)->_:=fun h=>ih (c.mv o) ts (c4.step o h fun J J q=>q.step o)
   have st:KT T W U s Q t c9->Q t c5:=fun k=>k _ _ o
   induction b<;>induction t<;>first|exact NW (st h)|exact go h
theorem v9 (hr:g7 T n r.ev) (c:Cx T W n A env own m U Y s) (t:Tr T env.kindOf x e') (h:((r.ev m x Y).bind fun v Y=>b8 110 (eX v) Y).c4 (KT T W U s Q) (XV T W U s E))
 (he:isTrue e' env (eval e' env)=(do let v←eval e' env;standAt e'.pos;holding [v] (truthy v))):wpAny (model T.prog T.w) A (isTrue e' env (eval e' env)) Q E s:=
 wpAny_isTrue_value (Be hr c t h fun v c9 w c5 c8 o hv J h=>w0 h fun b e h=>eW hv e (h _ _ o)) he
theorem By (hr:g7 T n r.ev) (ht:D5 T n r.tr):D5 T (n+1) (xM r):=by
 intro W A env own m U Y s x e' Q E c t h
 have c:=c.low
 cases x with
 |not=>exact t.qS fun J J t1=>wpAny_isTrue_Not (Ll ht c t1 h fun b c9 c5 c8 o h=>h _ _ o)
 |R5=>exact t.a7 fun J J t1=>wpAny_isTrue_BoolOp (xP (b:=true) ht c t1 h)
 |mw=>exact t.i0 fun J J t1=>wpAny_isTrue_BoolOp (xP (b:=false) ht c t1 h)
 |ite=>exact t.gh fun J J J J t1 t2 t3=>(by
  rw[arm_isTrue_IfExp]
  exact NU (Ll ht c t1 h fun b c9 c5 c8 o h=>by
   induction b with
   |true=>exact ht (c.mv o) t2 (c4.step o h fun J J q=>q.step o)
   |false=>exact ht (c.mv o) t3 (c4.step o h fun J J q=>q.step o)))
 |cmp=>exact t.rU fun l es p t1 t2=>(by
  rw[arm_isTrue_Compare,iY t2]
  exact NU (Be hr c t1 h fun a c9 wa c5 c8 o va J h=>by
   cases t2 with
   |nil=>exact h.elim
   |cons _ _ _ _ u ts=>exact uL hr (c.mv o) va u ts (c4.step o h fun J J q=>q.step o)))
 |lit=>exact v9 hr c t h (t.rh fun J J J J=>rfl)
 |NT=>exact v9 hr c t h (t.P5 fun J J J J=>rfl)
 |bin=>exact v9 hr c t h (t.sh fun J J J J J=>rfl)
 |neg=>exact v9 hr c t h (t.qW fun J J J=>rfl)
 |call=>exact v9 hr c t h (t.ly fun J J J J J J J=>rfl)
 |l5=>exact v9 hr c t h (t.kE fun J J J J J J J J J=>rfl)
 |attr=>exact v9 hr c t h (t.lL fun J J J J J=>rfl)
 |sub=>exact v9 hr c t h (t.qm fun J J J J J=>rfl)
 |slice=>exact v9 hr c t h (t.ff fun J J J J J J J J=>rfl)
 |list=>exact v9 hr c t h (t.kL fun J J J=>rfl)
 |Y5=>exact v9 hr c t h (t.fy fun J J J=>rfl)
 |tuple=>exact v9 hr c t h (t.eU fun J J J J=>rfl)
 |dict=>exact v9 hr c t h (t.lr fun J J J J J=>rfl)
 |K4=>exact v9 hr c t h (t.fB fun J J J J J=>rfl)
 |comp=>exact v9 hr c t h (t.dY fun J J J J J J J J J J J=>rfl)
 |A2=>exact v9 hr c t h (t.gn fun J J J J J J J J J J=>rfl)
 |l4=>exact v9 hr c t h (t.bX fun J J J J J J J J J=>rfl)
end
end
variable {v:V}
section
variable {z:X}
theorem W4 {value slice:Ex} {o i:Value} {Ty id:String} (hT:s.TypeIs o Ty) (hl:typeLookup (.type Ty) "__getitem__"=pure (some (.builtin id)))
 (hs:∃vs,subscripted slice false o i=operate vs (getItem o i)) (h:wpAny (model T.prog T.w) A (getItem o i) Q E s):wpAny (model T.prog T.w) A (subscriptTail value slice o i) Q E s:=by
 obtain⟨vs,hs⟩:=hs
 unfold subscriptTail
 refine NU ?_
 rw[getitemInPython_of_ne hT.not_modules]
 refine NU (wpAny_specialOf hT hl ?_)
 have U1:wpAny (model T.prog T.w) A (subscripted slice false o i) (fun r w9=>wpAny (model T.prog T.w) A (letTemporaryGo value o r >>= fun J=>pure r) Q E w9) E s:=by
  rw[hs]
  exact wpAny_operating (wpAny_mono h (fun r w9 T9=>NU (wpAny_letTemporaryGo (NW T9))) fun J J x=>x)
 first
  |exact NW (NU U1)
  |exact NU (NW (NU U1))
  |exact NU U1
theorem uO {kd:Kd} (t:Tr T kd x e') (o i:Value):∃vs,subscripted e' false o i=operate vs (getItem o i):=
 Tr.all (G:=fun e'=>∃vs,subscripted e' false o i=operate vs (getItem o i)) t (fun J J=>⟨_,rfl⟩) (fun J J J=>⟨_,rfl⟩) (fun J J J J=>⟨_,rfl⟩) (fun J J J=>⟨_,rfl⟩) (fun J J J=>⟨_,rfl⟩) (fun J J J J=>⟨_,rfl⟩) (fun J J J J=>⟨_,rfl⟩) (fun J J J=>⟨_,rfl⟩) (fun J J J=>⟨_,rfl⟩) (fun J J J=>⟨_,rfl⟩) (fun J J=>⟨_,rfl⟩) (fun J J J=>⟨_,rfl⟩) (fun J J J=>⟨_,rfl⟩) (fun J J J J=>⟨_,rfl⟩)
@[elab_as_elim] theorem zr {k:Nat} {i:Int} {j:Nat} {G:Int->Prop} (h:Mf k i=some j) (g:j < k->j≤1000->G (Int.ofNat j)):G i:=
 a0 h fun a e h=>i9 h fun b h=>a7 b fun b1 b2=>by rw[T2 e];subst h;exact g (NY b1) (NY b2)
theorem vC {a:Addr} {ws:List Value} {j:Nat} {t:Tok} {w:Value} (hl:R6 s.heap a ws) (hj:j≤1000) (e:ws[j]? =some w) (h:Q w s):wpAny (model T.prog T.w) A (getItem (.ref a) (.int (Int.ofNat j) t)) Q E s:=
 wpAny_getItem_list hl.list (Ov _) (Int.ofNat_lt.mpr (Ot hj (by decide))) ((List.getElem?_toArray ..).trans e) h
theorem qh {a:Addr} {ws:List Value} {j:Nat} {t:Tok} {w:Value} (hl:mA s.heap a ws) (hj:j≤1000) (e:ws[j]? =some w) (h:Q w s):wpAny (model T.prog T.w) A (getItem (.ref a) (.int (Int.ofNat j) t)) Q E s:=by
 have hlt:j < ws.length:=(List.getElem?_eq_some_iff.mp e).1
 have h0:(j:Int) < 2 ^ 63:=Int.ofNat_lt.mpr (Ot hj (by decide))
 refine getItem_tuple (j:=j) hl.tup (Int.le_trans (by decide) (Ov j)) h0 ?_ ((List.getElem?_toArray ..).trans e) h
 have h1:¬((j:Int) < 0):=Int.not_lt.mpr (Ov _)
 show seqIndex? (j:Int) ws.toArray.size=some j
 unfold seqIndex?
 simp only[h1,if_false]
 rw[OB]
 ·simp
 ·simpa using hlt
@[elab_as_elim] theorem z1.item {xs:List V} {ws:List Value} {bad:Addr->Prop} {h:Heap} {i v:V} {f7:Addr->Prop} {wi:Value} {G:Value->Prop} (q:z1 T U bad h xs ws) (hi:VR T U bad f7 h i wi) (e:jj xs i=some v) (k:∀(j:Nat) t w,j≤1000->ws[j]? =some w->solid v=true->VS T U bad h v w->G (.int (Int.ofNat j) t)):G wi:=
 a0 e fun a ea e=>a0 e fun j ej e=>u6 hi ea fun t=>zr (G:=fun a=>G (.int a t)) ej fun J hj=>q.at e fun w ew g a=>k j t w hj ew g a
section
variable {value slice:Ex} {i:V} {wi:Value}
theorem V9 {xs:List V} {ws:List Value} {a:Addr} (c:d9 T W U Y s.heap) (l:R6 s.heap a ws) (q:E3 T W U s.heap xs ws) (hi:C4 T W U s.heap i wi) (hs:∀o i,∃vs,subscripted slice false o i=operate vs (getItem o i)) (e:jj xs i=some v) (h:KV T W U s Q v Y):wpAny (model T.prog T.w) A (subscriptTail value slice (.ref a) wi) Q E s:=
 z1.item q hi e fun j t w hj ew g a=>W4 l.list.typeIs list_getitem_lookup (hs _ _) (vC l hj ew (KV.vs c a g h (k:=s.toks)))
theorem BF {xs:List V} {ws:List Value} {a:Addr} (c:d9 T W U Y s.heap) (l:mA s.heap a ws) (q:E3 T W U s.heap xs ws) (hi:C4 T W U s.heap i wi) (hs:∀o i,∃vs,subscripted slice false o i=operate vs (getItem o i)) (e:jj xs i=some v) (h:KV T W U s Q v Y):wpAny (model T.prog T.w) A (subscriptTail value slice (.ref a) wi) Q E s:=
 z1.item q hi e fun j t w hj ew g a=>W4 l.tup.typeIs PySem.F.slot_tuple_getitem.lookup (hs _ _) (qh l hj ew (KV.vs c a g h (k:=s.toks)))
theorem jS {K:Type} [DecidableEq K] {knd:KeyKind T.prog T.w K} {a:Addr} {kws:List (K×Value)} {k:K} {o:Option V} (c:d9 T W U Y s.heap) (hd:s.heap.DictOf knd a kws) (hk:knd.is k wi=true) (q:B0 T U (k9 T W U) s.heap o (valueAt kws k)) (hs:∀o i,∃vs,subscripted slice false o i=operate vs (getItem o i)) (e:o=some v) (h:KV T W U s Q v Y):
 wpAny (model T.prog T.w) A (subscriptTail value slice (.ref a) wi) Q E s:=
 B0.W6 (e▸q) fun w ew g a=>W4 hd.typeIs PySem.F.slot_dict_getitem.lookup (hs _ _) (wpAny_getItem_of (knd:=knd) hk hd.mapOf ew (KV.vs c a g h))
theorem IJ {a:Addr} {o:O} (c:d9 T W U Y s.heap) (q:OR T W U s.heap a o) (hi:C4 T W U s.heap i wi) (hs:∀o i,∃vs,subscripted slice false o i=operate vs (getItem o i)) (e:IK i o=some v) (h:KV T W U s Q v Y):wpAny (model T.prog T.w) A (subscriptTail value slice (.ref a) wi) Q E s:=
 i0 e (fun e=>a0 e fun f ef e=>a0 e fun k ek e=>n8 hi ek fun t J=>by
  rw[H5 ef]at q
  exact match q with|⟨kws,d,_,r,_⟩=>jS (knd:=strKind T.prog T.w) c d (isStrOf_self _ t) (r k) hs e h) fun e=>
 i0 e (fun e=>a0 e fun f ef e=>a0 e fun k ek e=>u6 hi ek fun t=>by
  rw[fG ef]at q
  exact match q with|⟨kws,d,_,e1,r⟩=>jS (knd:=intKind T.prog T.w) c d (isInt_self _ t) (J9.look (key:=id) (eq:=Iu) ll ⟨e1,r⟩ k) hs e h) fun e=>
 a0 e fun xs ex e=>by
  rw[N8 ex]at q
  exact match q with|⟨ws,l,r⟩=>V9 c l r hi hs e h
theorem Fw {o:V} {wo:Value} (c:d9 T W U Y s.heap) (ho:C4 T W U s.heap o wo) (hi:C4 T W U s.heap i wi) (e:uP o i Y=some v) (hs:∀o i,∃vs,subscripted slice false o i=operate vs (getItem o i)) (h:KV T W U s Q v Y):wpAny (model T.prog T.w) A (subscriptTail value slice wo wi) Q E s:=
 i0 e (fun e=>a0 e fun l el e=>a0 e fun ob eo e=>A8 ho el fun a ha=>c.at eo fun a' ha' q=>IJ c (NX (ha'.symm.trans ha)▸q) hi hs e h) fun e=>
 i0 e (fun e=>a0 e fun xs ex e=>E6 ho ex fun a ws l J q=>BF c l q hi hs e h) fun e=>
 i0 e (fun e=>a0 e fun xs ex e=>VR.z0 ho ex fun a ws l J q=>V9 c l q hi hs e h) fun e=>
 a0 e fun kvs ek e=>a0 e fun k ei e=>n8 hi ei fun t J=>VR.U3 ho ek fun a q=>q.Ba fun kws d J r=>jS (knd:=strKind T.prog T.w) c d (isStrOf_self _ t) (r.look D1 k) hs e h
end
theorem xT (hr:g7 T n r.ev) (c:Cx T W n A env own m U Y s) (t:Tr T env.kindOf (.sub x y) e') (h:(s7 P r m (.sub x y) Y).c4 (KV T W U s Q) (XV T W U s E)):wpAny (model T.prog T.w) A (eval e' env) Q E s:=
 t.qm fun J J J t1 t2=>Subscript_ (Bd hr c t1 h fun a c9 wa c5 c8 w3 va h=>Bd hr (c.mv w3) t2 h fun b n9 wb l3 o7 i8 vb h=>w0 h fun v e h=>Fw i8.rel (i8.ext.vr va) vb e (uO t2) h)
end
section
theorem gQ (n:Nat) (lo:Option Int):uh n lo=kms_lo lo n:=by
 induction lo with
 |none=>rfl
 |some i=>
  induction i with
  |negSucc k=>exact(OB (Int.negSucc_lt_zero k)).symm
  |ofNat k=>
   show(bif Nat.ble k n then k else n)=if Int.ofNat k < 0 then n - (-Int.ofNat k).toNat else min k n
   rw[OC (show¬(Int.ofNat k < 0)from Int.not_lt.mpr (Ov k))]
   induction q:Nat.ble k n with
   |true=>exact(Nat.min_eq_left (NY q)).symm
   |false=>exact(Nat.min_eq_right (Nat.le_of_not_le fun h=>Bool.noConfusion (q.symm.trans (Oq h)))).symm
theorem ph (n:Nat) (hi:Option Int):ER n hi=kms_hi hi n:=by
 induction hi with
 |none=>rfl
 |some i=>exact gQ n (some i)
theorem bx {α:Type} (lo hi:Option Int) (l:List α):(l.drop (kms_lo lo l.length)).take (kms_hi hi l.length - kms_lo lo l.length)=cut lo hi l:=by
 unfold cut
 rw[gQ,ph]
theorem z1.drop {bad:Addr->Prop} {h:Heap} (k:Nat):∀{xs:List V} {ws:List Value},z1 T U bad h xs ws->z1 T U bad h (xs.drop k) (ws.drop k):=by
 induction k with
 |zero=>exact fun q=>q
 |succ k ih=>exact fun q=>by cases q with
  |nil=>exact .nil
  |cons _ _ _ _ _ _ q=>exact ih q
theorem z1.take {bad:Addr->Prop} {h:Heap} (k:Nat):∀{xs:List V} {ws:List Value},z1 T U bad h xs ws->z1 T U bad h (xs.take k) (ws.take k):=by
 induction k with
 |zero=>exact fun q=>.nil
 |succ k ih=>exact fun q=>by cases q with
  |nil=>exact .nil
  |cons _ _ _ _ g a q=>exact .cons _ _ _ _ g a (ih q)
theorem z1.cut {bad:Addr->Prop} {h:Heap} {xs:List V} {ws:List Value} (lo hi:Option Int) (q:z1 T U bad h xs ws):z1 T U bad h (cut lo hi xs) (cut lo hi ws):=by
 unfold Mine.cut
 rw[q.length]
 exact(q.drop _).take _
theorem Dv {α:Type} (lo hi:Option Int) (l:List α):(cut lo hi l).length≤l.length:=Oe (List.length_take_le' ..) (List.length_drop (l:=l)▸Nat.sub_le _ _)
theorem wZ {s:Txt} (h:t6 s=true) (lo hi:Option Int):t6 (cut lo hi s)=true:=
 List.all_eq_true.mpr fun x hx=>List.all_eq_true.mp h x (List.mem_of_mem_drop (List.mem_of_mem_take hx))
inductive aB (w:Value) (i:Option Int):Prop
 |mk (l:Option (Int×Tok)) (h:IsPart w i) (e1:partValue l=w) (e2:l.map (·.1)=i)
theorem sV (hr:g7 T n r.ev) (c:Cx T W n A env own m U Y s) {α:Type} {K:α->Hp->Prop} {x:Option X} {e':Option Ex} {f:Option Int->Hp->R α} (t:AU T env.kindOf x e') (h:((lk r m x Y).bind f).c4 K (XV T W U s E))
 (k:∀i c7 w s' d7,i4 T W U s c7 d7 s'->aB w i->(f i c7).c4 K (XV T W U s E)->Q w s'):wpAny (model T.prog T.w) A (evalPart e' env) Q E s:=by
 induction t with
 |none=>exact NW (k none Y _ _ _ (i4.refl c.rel) ⟨none,.none,rfl,rfl⟩ h)
 |some x e' te=>
  rw[evalPart_some]
  exact Be hr c te (R.d5.mp h) fun v c9 w c5 c8 o hv J h=>a9 (f:=fun i Y=>.ok (some i) Y) h fun i e h=>u6 hv e fun t=>k (some i) c9 _ c5 c8 o ⟨some (i,t),.int i t,rfl,rfl⟩ h
theorem BG {x:Txt} {lo hi:Option Int} {a:Addr} {l u:Value} {t:Tok} (hx:x.length≤1000) (hs:s.heap.IsSliceOf a l u .none) (hl:aB l lo) (hu:aB u hi) (h:∀t' k,Q (.str (i3 (cut lo hi x)) t') {s with toks:=k}):
 wpAny (model T.prog T.w) A (getItem (.str (i3 x) t) (.ref a)) Q E s:=by
 obtain⟨l',_,e1,e2⟩:=hl
 obtain⟨u',_,e3,e4⟩:=hu
 refine wpAny_getItem_str_slice (l:=l') (u:=u') (st:=none) (by rw[←e1,←e3]at hs;exact hs) rfl ?_
 have hp:slicePicked (i3 x) l' u' none=(List.range (kms_hi hi x.length - kms_lo lo x.length)).map (kms_lo lo x.length+ ·):=by
  unfold slicePicked
  rw[e2,e4]
  have h1:Builtin.Str.strSliceIndices lo hi 1 (i3 x).length=sliceRange (sliceBounds lo hi none (i3 x).length).1 (sliceBounds lo hi none (i3 x).length).2.1 1:=rfl
  show Builtin.Str.strSliceIndices lo hi 1 (i3 x).length=_
  rw[h1,kms_bounds,sliceRange_one,K1]
 have hf:(slicePicked (i3 x) l' u' none).filterMap ((i3 x).cps[·]?)=cut lo hi x:=by
  rw[hp,pick_run]
  exact bx lo hi x
 unfold sliceMade
 split
 ·rename_i hw
  have hw:=(Bool.and_eq_true_iff.mp hw).2
  have hlen:(slicePicked (i3 x) l' u' none).length=x.length:=(beq_iff_eq.mp hw).trans (K1 x)
  have hc:cut lo hi x=x:=by
   rw[hp,Oi,List.length_range]at hlen
   rw[←bx]
   have h1:kms_hi hi x.length≤x.length:=by
    rw[←ph]
    induction hi with
    |none=>exact OF _
    |some y=>show um _ y≤_;rw[show um x.length y=uh x.length (some y)from rfl,gQ];unfold kms_lo;dsimp only;split<;>omega
   rw[hlen]
   by_cases h2:kms_lo lo x.length=0
   ·rw[h2,List.drop_zero,List.take_length]
   ·have:x=[]:=List.eq_nil_of_length_eq_zero (by omega)
    subst this
    rw[List.drop_nil,List.take_nil]
  rw[hc]at h
  exact h t s.toks
 ·refine⟨?_,?_⟩
  ·rw[hf]
   exact Oe (Dv lo hi x) (bp hx)
  ·rw[hf];exact h _ _
theorem wU {b:List Nat} {ab:Array UInt8} {lo hi:Option Int} {a:Addr} {l u:Value} {t:Tok} (hb:ab.toList.map UInt8.toNat=b) (hx:b.length≤1000) (hs:s.heap.IsSliceOf a l u .none) (hl:aB l lo) (hu:aB u hi)
 (h:∀ab' t' k,ab'.toList.map UInt8.toNat=cut lo hi b->Q (.bytes ab' t') {s with toks:=k}):
 wpAny (model T.prog T.w) A (getItem (.bytes ab t) (.ref a)) Q E s:=by
 have hsz:ab.size=b.length:=by rw[←hb,Oi];exact Array.length_toList.symm
 obtain⟨_,hl,_,_⟩:=hl
 obtain⟨_,hu,_,_⟩:=hu
 refine getItem_meets (typeIs_bytes _ _ _) (by decide) FB.slot_bytes_getitem FB.entry_bytes_getitem (FB.args_bytes_getitem_2 _ _) (KBc.meets_slice2 ab t a hl hu) ⟨hs,?_,fun t' k=>h _ _ _ ?_⟩
 ·exact Oe (KBc.size_picked_le ab lo hi) (hsz▸bp hx)
 ·have e1:KBy.picked ab lo hi=((ab.toList.drop (kms_lo lo ab.size)).take (kms_hi hi ab.size - kms_lo lo ab.size)).toArray:=by
   unfold KBy.picked
   rw[kms_bounds]
   show Builtin.Bytes.sliced ab ((kms_lo lo ab.size:Nat):Int) ((kms_hi hi ab.size:Nat):Int) 1=_
   unfold Builtin.Bytes.sliced
   rw[sliceRange_one,pick_run]
  rw[e1,←bx,←hsz,←hb]
  exact(List.map_take ..).trans (Oh _ (List.map_drop ..))
theorem yc {ov:V} {wo wl wu:Value} {l u:Option Int} {v:V} {value:Ex} {lo' hi':Option Ex} {q:Pos} (c:d9 T W U Y s.heap) (ho:C4 T W U s.heap ov wo) (pl:aB wl l) (pu:aB wu u) (e:fg ov l u=some v) (h:KV T W U s Q v Y) {c5:Shared} (es:c5={s with heap:=s.heap.push {cls:=.type "slice",data:=.fields #[wl,wu,.none]}}):
 wpAny (model T.prog T.w) A (subscriptTail value (.Slice lo' hi' none q) wo (.ref s.heap.objs.size)) Q E c5:=by
 have o:i4 T W U s Y U c5:=es▸i4.keeps (t:=s.toks) c (g9 _ _)
 have hS:c5.heap.IsSliceOf s.heap.objs.size wl wu .none:=es▸Heap.IsSliceOf.new s.heap wl wu .none
 have h:=h.step o
 have ho:=o.ext.vr ho
 clear es
 exact i0 e (fun e=>a0 e fun x ex e=>i9 e fun g e=>n8 ho ex fun t ha=>W4 (typeIs_str _ _ _) PySem.F.slot_str_getitem.lookup ⟨_,rfl⟩ (BG (NY g) hS pl pu fun t' i=>KV.str o.rel (wZ ha l u) (e▸h))) fun e=>
 i0 e (fun e=>a0 e fun x ex e=>i9 e fun g e=>F5 ho ex fun ab t hb=>W4 (typeIs_bytes _ _ _) FB.slot_bytes_getitem.lookup ⟨_,rfl⟩ (wU hb (NY g) hS pl pu fun ab' t' i he=>KV.G3 o.rel (.bytes _ ab' t' he) rfl (e▸h))) fun e=>
 a0 e fun xs ex e=>i9 e fun g e=>VR.z0 ho ex fun a ws hl J q=>match pl,pu with
  |⟨_,pl,_,_⟩,⟨_,pu,_,_⟩=>W4 hl.list.typeIs list_getitem_lookup ⟨_,rfl⟩ (wpAny_getItem_list_slice hl.list hS pl pu .none (by simp) (by rw[kms_pick_eq];exact KV.newList o.rel (bx l u ws▸q.cut l u) (e▸h)) (by rw[Ou,q.length];exact u7 g))
theorem qu (hr:g7 T n r.ev) (c:Cx T W n A env own m U Y s) {lo hi:Option X} (t:Tr T env.kindOf (.slice x lo hi) e') (h:(s7 P r m (.slice x lo hi) Y).c4 (KV T W U s Q) (XV T W U s E)):wpAny (model T.prog T.w) A (eval e' env) Q E s:=
 t.ff fun J J J J J t1 t2 t3=>Subscript_ (Bd hr c t1 h fun ov c9 wo c5 c8 w3 vo h=>wpAny_Slice (sV hr (c.mv w3) t2 h fun l n9 wl l3 o7 i8 pl h=>sV hr ((c.mv w3).mv i8) t3 (c4.step i8 h fun J J q=>q.step i8) fun u Ea wu w9 Iy jZ pu h=>by
  rw[evalPart_none]
  exact NW (w0 h fun v e h=>yc jZ.rel ((i8.trans jZ).ext.vr vo) pl pu e (h.step jZ) rfl)))
end
structure bM (ds:List Addr) (h h':Heap):Prop where
 off:Off (fun a=>a∈ds) h h'
 there:∀a o,h.get? a=some o->∃o',h'.get? a=some o'
theorem bM.refl {ds:List Addr} {h:Heap}:bM ds h h:=⟨Off.refl _ _,fun J o e=>⟨o,e⟩⟩
theorem hJ.refl {s:Shared}:hJ s s:=⟨rfl,rfl,rfl⟩
variable {ds:List Addr}
section
variable {c5 l3 w9:Shared} {pub:List Addr} {os:List O}
theorem Cx.adopt {h':Heap} {t:Nat} (c:Cx T W n A env own m U Y s) (k:∀a o,s.heap.get? a=some o->h'.get? a=some o) (hn:∀d,d∈ds->s.heap.get? d=none) (hy:∀d,d∈ds->∃o,h'.get? d=some o):Cx T (W.add ds) n A env own m U Y {s with heap:=h',toks:=t}:=
 c.grow (i4.keeps c.rel k) (s8.add hn) (c.rel.adopt k hn hy)
theorem dK (hsub:∀d,d∈pub->d∈ds) {a:Addr} (q:k9 T W (U++pub) a):k9 T (W.add ds) U a:=
 q.elim (fun q=>(OG q).elim .inl fun q=>.inr (.inr (.inl (Oa _ (hsub a q))))) fun q=>.inr (q.imp id fun q=>q.imp (Ob _) id)
theorem aP {i:Nat} {a:Addr} (e:U[i]? =some a):(U++pub)[i]? =some a:=(Oz (List.getElem?_eq_some_iff.mp e).1).trans e
theorem jX {h h':Heap} (b:Off (fun a=>a∈ds) h h') (hsub:∀d,d∈pub->d∈ds):Ms U (U++pub) (k9 T (W.add ds) U) (k9 T W (U++pub)) (fun a=>a∈ds) h h':=
 ⟨fun J J e=>aP e,b,fun a J J q=>.inr (.inr (.inl (Oa _ q))),fun a J J q=>dK hsub q⟩
theorem i4.jW (c:d9 T W U Y s.heap) (k:∀a o,s.heap.get? a=some o->c5.heap.get? a=some o) (hn:∀d,d∈ds->s.heap.get? d=none) (hg:hJ s c5) (o:i4 T (W.add ds) U c5 c7 d7 l3) (b:bM ds l3.heap w9.heap) (hg':hJ l3 w9)
 (hsub:∀d,d∈pub->d∈ds) (hnd:pub.Nodup) (hlen:pub.length=os.length) (hO:∀(i:Nat) (ob:O) (a:Addr),os[i]? =some ob->pub[i]? =some a->OR T W (d7++pub) w9.heap a ob):i4 T W U s (c7++os) (d7++pub) w9:=
 have ms:=jX (T:=T) (W:=W) (U:=d7) b.off hsub
 have nm:∀d,d∈ds->¬A6 T (W.add ds) d7 d:=fun d hd=>(o.rel.o5.own d (Oa _ hd)).nm
 have nd:∀a ob,s.heap.get? a=some ob->a∉ds:=fun a ob e q=>d0 (hn a q) e
 {ext:={
  pre:=fun i a e=>aP (o.ext.pre i a e)
  new:=fun a ha=>(OG ha).elim (fun q=>(o.ext.new a q).imp id fun q=>by
   cases e:s.heap.get? a with
   |none=>rfl
   |some ob=>exact d0 q (k a ob e)) fun q=>.inr (hn a (hsub a q))
  off:=fun a ob e q=>b.off a ob (o.ext.off a ob (k a ob e) q) (nd a ob e)
  there:=fun a ob e=>(o.ext.there a ob (k a ob e)).elim (b.there a)
  slots:=fun a ha ob e=>(o.ext.slots a ha ob (k a ob e)).elim fun sl e'=>⟨sl,b.off a _ e' (nd a ob e)⟩
  gens:=hg'.gens.trans (o.ext.gens.trans hg.gens)
  os:=hg'.os.trans (o.ext.os.trans hg.os)
  drawn:=hg'.drawn.trans (o.ext.drawn.trans hg.drawn)}
  rel:={
   len:=(List.length_append ..).trans ((congr (Oh HAdd.hAdd o.rel.len) hlen).trans (List.length_append ..).symm)
   nodup:=List.nodup_append.mpr ⟨o.rel.nodup,hnd,fun a ha b hb e=>nm b (hsub b hb) (.inl (e▸ha))⟩
   objs:=fun i ob a h1 h2=>by
    by_cases hi:i < c7.length
    ·rw[Oz hi]at h1
     rw[Oz (o.rel.len.symm▸hi)]at h2
     exact OR.ms ms (b.off.at fun q=>nm a q (.inl (Q1 h2))) (o.rel.objs i ob a h1 h2)
    ·rw[List.getElem?_append_right (OD hi)]at h1
     rw[List.getElem?_append_right (o.rel.len.symm▸OD hi),o.rel.len]at h2
     exact hO _ ob a h1 h2
   base:=fun a ob e=>b.off a ob (o.rel.base a ob e) fun q=>d0 (hn a q) (c.base a ob e)
   fresh:=fun a q=>o.rel.fresh a (dK hsub q)
   o5:=⟨fun a ha=>⟨fun z=>z.elim (fun z=>(OG z).elim (fun z=>(o.rel.o5.own a (Ob _ ha)).nm (.inl z)) fun z=>(c.o5.own a ha).ex.elim fun ob e=>nd a ob e (hsub a z)) fun z=>(o.rel.o5.own a (Ob _ ha)).nm (.inr z),
    (o.rel.o5.own a (Ob _ ha)).ex.elim fun ob e=>b.there a ob e⟩,
    fun a ha=>⟨fun z=>(OG z).elim (o.rel.o5.l6 a ha).nr fun z=>nm a (hsub a z) (.inr (.inl ha)),(o.rel.o5.l6 a ha).nt,(o.rel.o5.l6 a ha).ex.elim fun ob e=>b.there a ob e⟩⟩
   tabs:=fun P hP=>(o.rel.tabs P hP).move ms.off (fun q=>nm P q (.inr (.inr hP))) ms.sb ms.bb}}
theorem i4.LG (c:d9 T W U Y s.heap) (k:∀a o,s.heap.get? a=some o->c5.heap.get? a=some o) (hn:∀d,d∈ds->s.heap.get? d=none) (hg:hJ s c5) (o:i4 T (W.add ds) U c5 c7 d7 l3) (b:bM ds l3.heap w9.heap) (hg':hJ l3 w9):i4 T W U s c7 d7 w9:=by
 have:=i4.jW (pub:=[]) (os:=[]) c k hn hg o b hg' (fun J q=>nomatch q) List.nodup_nil rfl fun J J J h1 J=>nomatch h1
 rwa [Ox,Ox]at this
theorem BL {h h':Heap} (b:Off (fun a=>a∈ds) h h'):Ms U U (k9 T (W.add ds) U) (k9 T W U) (fun a=>a∈ds) h h':=⟨fun J J e=>e,b,fun a J J q=>.inr (.inr (.inl (Oa _ q))),fun a J J q=>q.imp id fun q=>q.imp id fun q=>q.imp (Ob _) id⟩
theorem qP {a:Addr} {o:O} {G:Addr->O->Prop} (g:G a o) (i:Nat) (ob:O) (b:Addr) (h1:[o][i]? =some ob) (h2:[a][i]? =some b):G b ob:=by
 induction i with
 |zero=>cases h1;cases h2;exact g
 |succ i=>exact nomatch h1
theorem i4.cq {ob:Obj} {o:O} (c:d9 T W U Y s.heap) (hf:ob.isFreed=false) (hO:Ms U (U++[s.heap.objs.size]) (k9 T W U) (k9 T W (U++[s.heap.objs.size])) (fun J=>False) s.heap (s.heap.push ob)->OR T W (U++[s.heap.objs.size]) (s.heap.push ob) s.heap.objs.size o):
 i4 T W U s (Y++[o]) (U++[s.heap.objs.size]) {s with heap:=s.heap.push ob}:=
 i4.jW (c5:={s with heap:=s.heap.push ob}) c (g9 s.heap ob) (y9 _) ⟨rfl,rfl,rfl⟩ (i4.refl (c.adopt (g9 s.heap ob) (y9 _) (O1 hf))) bM.refl hJ.refl (fun J q=>q) (List.nodup_cons.mpr ⟨nofun,List.nodup_nil⟩) rfl
  (qP (hO ⟨fun J J e=>aP e,Off.of_keeps (g9 _ _),fun J J J q=>q.elim,fun a ob e q=>(R1 (dK (fun J q=>q) q)).elim (fun q=>d0 (y9 _ a q) e) id⟩))
theorem KV.cq (c:d9 T W U Y s.heap) {ob:Obj} {o:O} (hf:ob.isFreed=false) (hO:Ms U (U++[s.heap.objs.size]) (k9 T W U) (k9 T W (U++[s.heap.objs.size])) (fun J=>False) s.heap (s.heap.push ob)->OR T W (U++[s.heap.objs.size]) (s.heap.push ob) s.heap.objs.size o)
 (h:KV T W U s Q (.loc Y.length) (Y++[o])):Q (.ref s.heap.objs.size) {s with heap:=s.heap.push ob}:=
 h _ _ _ (i4.cq c hf hO) (.mk _ _ (.loc _ _ (c.len▸List.getElem?_concat_length ..))) (G1.not rfl)
end
section
variable {bad:Addr->Prop}
theorem J9.qz {ds:List (Txt×V)} {es:List (Str×Value)} (y:J9 T U bad h i3 ds es):∀{kvs:List (Txt×V)} {kws:List (Str×Value)},J9 T U bad h i3 kvs kws->J9 T U bad h i3 (z7 kvs ds) (merged kws es):=
 y.aO (Q:=fun ds es=>∀{kvs:List (Txt×V)} {kws:List (Str×Value)},J9 T U bad h i3 kvs kws->J9 T U bad h i3 (z7 kvs ds) (merged kws es)) (fun x=>x) fun p w r es g a J ih J J x=>ih (x.set D1 g a)
inductive KC (T:i7) (W:r9) (U:List Addr) (h:Heap):List (V×V)->List (Value×Value)->Prop
 |nil:KC T W U h [] []
 |cons (p:V×V) (kw w:Value) (vs:List (V×V)) (ws:List (Value×Value)):C4 T W U h p.1 kw->C4 T W U h p.2 w->KC T W U h vs ws->KC T W U h (p::vs) ((kw,w)::ws)
inductive Carried (T:i7) (W:r9) (U:List Addr) (h:Heap) (ds:List (Txt×V)) (wps:List (Value×Value)):Prop
 |mk (kws:List (Str×Value)) (c:Carries (strKind T.prog T.w) wps kws) (r:J9 T U (k9 T W U) h i3 ds kws)
theorem rS {ps:List (V×V)} {wps:List (Value×Value)} (x:KC T W U h ps wps):∀{ds:List (Txt×V)},dictOf ps=some ds->Carried T W U h ds wps:=by
 induction x with
 |nil=>exact fun e=>by cases e;exact⟨[],trivial,.nil⟩
 |cons p kw w vs ws a b q ih=>
  exact fun e=>a0 e fun k ek e=>a0 e fun v ev e=>d8 e fun ds ed e=>n8 a ek fun t J=>match ih ed,C1 ev b with
   |⟨kws,c,r⟩,⟨g,hv⟩=>e▸⟨(i3 k,w)::kws,⟨isStrOf_self _ t,rfl,c⟩,J9.cons (p:=(k,v)) g hv r⟩
theorem Hm {α:Type} {K:α->Hp->Prop} {X':Txt->Hp->Prop} (hr:g7 T n r.ev) (c:Cx T W n A env own m U Y s) {Q:Value->Shared->Prop} {f:V->Hp->R α} (t:Tr T env.kindOf x e') (h:((r.ev m x Y).z6.bind f).c4 K X')
 (k:∀v c9 w c5 c8,i4 T W U s c9 c8 c5->C4 T W c8 c5.heap v w->G1 T W s c8 c9 c5.heap v w->(f v c9).c4 K X'->Q w c5):wpAny (model T.prog T.w) A (eval e' env) Q E s:=
 hr c t (R.c4.mono (R.J6 (R.d5.mp h)) (fun v c9 q w c5 c8 o hv hf=>k v c9 w c5 c8 o hv hf q) fun J J x=>x.elim)
theorem yy (hr:g7 T n r.ev) {pos:Pos} {kvs:List (X×X)} {ks vs:List Ex} {X':Txt->Hp->Prop} (t:Bk T env.kindOf kvs ks vs):∀{U:List Addr} {Y:Hp} {s:Shared} {Q:List (Value×Value)->Shared->Prop},Cx T W n A env own m U Y s->
 (br r m kvs Y).c4 (fun ps c7=>∀wps s' d7,i4 T W U s c7 d7 s'->KC T W d7 s'.heap ps wps->Q wps s') X'->wpAny (model T.prog T.w) A (evalPairs (pairTrees (ks.map some) vs env pos)) Q E s:=by
 induction t with
 |nil=>exact fun c h=>evalPairs_nil (h _ _ _ (i4.refl c.rel) .nil)
 |cons q k e xs ks es tk te ts ih=>
  exact fun c h=>evalPairs_cons (Hm hr c tk h fun kv c9 kw c5 c8 w3 vk J h=>NU (Hm hr (c.mv w3) te h fun v n9 w l3 o7 i8 vv J h=>NU (Ow (NW (ih ((c.mv w3).mv i8) (R.c4.mono (R.d5.mp h) (fun ps Ea h wps w9 Iy jZ r=>
   h _ _ _ (w3.trans (i8.trans jZ)) (.cons _ _ _ _ _ ((i8.trans jZ).ext.vr vk) (jZ.ext.vr vv) r)) fun J J x=>x))))))
theorem Bk.LU {kd:Kd} {kvs:List (X×X)} {ks vs:List Ex} (t:Bk T kd kvs ks vs):ks.length=kvs.length∧vs.length=kvs.length:=by
 induction t with
 |nil=>exact⟨rfl,rfl⟩
 |cons _ _ _ _ _ _ _ _ _ ih=>exact⟨Oh (· +1) ih.1,Oh (· +1) ih.2⟩
theorem ia {a:Addr} {h h':Heap} (x:Heap.SameBut a h h') {o:Obj} (e:h'.get? a=some o):bM [a] h h':=
 ⟨fun b o e n=>(x.2 b (fun q=>n (q▸.head _))).trans e,fun b o' e'=>by
  by_cases q:b=a
  ·exact⟨o,q▸e⟩
  ·exact⟨o',(x.2 b q).trans e'⟩⟩
theorem O0 (tk:E4 T P) (c:d9 T W U Y h):(h.objs.size == sysModules)=false:=
 match tk.tp with|⟨_,hn,_⟩=>beq_eq_false_iff_ne.mpr (Nat.ne_of_gt (Nat.lt_trans (by decide) (A1 c.base hn).lt))
theorem jD (hr:g7 T n r.ev) (c:Cx T W n A env own m U Y s) {α:Type} {K:α->Hp->Prop} {X':Txt->Hp->Prop} {i:Nat} {f:List (Txt×V)->Hp->R α} {kvs:List (X×X)} {ks vs:List Ex} {p:Pos} {Q:Value->Shared->Prop} (t:Bk T env.kindOf kvs ks vs) (hl:kvs.length≤15) (h0:kvs≠[])
 (h:((br r m kvs Y).bind fun ps Y=>(b8 i (dictOf ps) Y).bind f).c4 K X')
 (k:∀ds c7 l3 w9 d7 kws,i4 T (W.add [s.heap.objs.size]) U {s with heap:=s.heap.push {cls:=.type "dict",data:=.dict #[]}} c7 d7 l3->bM [s.heap.objs.size] l3.heap w9.heap->hJ l3 w9->J9 T d7 (k9 T (W.add [s.heap.objs.size]) d7) l3.heap i3 (z7 [] ds) kws->
  w9.heap.DictOf (strKind T.prog T.w) s.heap.objs.size kws->(f ds c7).c4 K X'->Q (.ref s.heap.objs.size) w9):wpAny (model T.prog T.w) A (eval (.Dict (ks.map some) vs p) env) Q E s:=by
 have hls:=t.LU
 have hall:(ks.map some).all (·.isSome)=true:=List.all_eq_true.mpr fun x hx=>match List.mem_map.mp hx with|⟨_,_,e⟩=>e▸rfl
 have hlen:(ks.map some).length=vs.length:=(Oi ..).trans (hls.1.trans hls.2.symm)
 have hpl:(pairTrees (ks.map some) vs env p).length=kvs.length:=(pairTrees_length _ vs env p hall hlen).trans ((Oi ..).trans hls.1)
 have c':=c.adopt (t:=s.toks) (g9 s.heap {cls:=.type "dict",data:=.dict #[]}) (y9 _) (O1 rfl)
 exact wpAny_Dict_pairs (knd:=strKind T.prog T.w) (pairs:=pairTrees (ks.map some) vs env p) (zip_pairTrees _ _ _ _ hall hlen) (fun e=>h0 (List.eq_nil_of_length_eq_zero (hpl.symm.trans (e▸rfl)))) (hpl▸hl)
  (yy hr t c' (R.c4.mono (R.d5.mp h) (fun ps c7 h wps l3 d7 o q=>a9 h fun ds e h=>match rS q e with
   |⟨kws,h1,h2⟩=>⟨kws,h1,v3 (strKind T.prog T.w) (n:=0) (o.ext.off _ _ (Od _ rfl) (c'.rel.o5.own _ (.head _)).nm),fun h' hd hs=>(l9 hd).elim fun od hd'=>k ds c7 l3 _ d7 (merged [] kws) o (ia hs hd') ⟨rfl,rfl,rfl⟩ (h2.qz .nil) hd h⟩) fun J J x=>x))
theorem J9.uf {kvs:List (Txt×V)} {kws:List (Str×Value)} {a:Addr} (q:J9 T U bad h i3 kvs kws) (hd:h.DictOf (strKind T.prog T.w) a kws) (hs:(a == sysModules)=false):V2 T U bad h kvs a:=⟨kws,hd,hs,q.e,q.r⟩
theorem KV.newDict (tk:E4 T P) {l3 w9:Shared} {c7:Hp} {d7:List Addr} {ds:List (Txt×V)} {kws:List (Str×Value)} (c:d9 T W U Y s.heap) (o:i4 T (W.add [s.heap.objs.size]) U {s with heap:=s.heap.push {cls:=.type "dict",data:=.dict #[]}} c7 d7 l3) (b:bM [s.heap.objs.size] l3.heap w9.heap) (hg:hJ l3 w9)
 (q:J9 T d7 (k9 T (W.add [s.heap.objs.size]) d7) l3.heap i3 ds kws) (hd:w9.heap.DictOf (strKind T.prog T.w) s.heap.objs.size kws) (h:KV T W U s Q (.E1 ds) c7):Q (.ref s.heap.objs.size) w9:=
 have tt:pO (W.add [s.heap.objs.size]) (fun b=>b∈[s.heap.objs.size]) l3.heap w9.heap:=⟨b.off,b.there,fun d hd=>.inr (Oa _ hd),fun d hf hd=>absurd (.inr (.inl hf)) (o.rel.o5.own d (Oa _ hd)).nm⟩
 have q':=q.ms (BL (T:=T) (W:=W) (U:=d7) b.off)
 h _ _ _ (i4.LG (c5:={s with heap:=s.heap.push {cls:=.type "dict",data:=.dict #[]}}) c (g9 _ _) (y9 _) ⟨rfl,rfl,rfl⟩ o b hg)
  (.mk _ _ (.my _ ds _ kws rfl rfl hd (O0 tk c) (fun hb=>hb.elim (fun z=>(o.rel.o5.own _ (.head _)).nm (.inl z)) fun z=>c.N2 (none_at_size _) (.inr z)) q'.e q'.r))
  fun J=>⟨_,W.add [s.heap.objs.size],none_at_size _,s8.add (y9 _),.head _,o.rel.turn tt,.d ds ((q.ms tt.ms).uf hd (O0 tk c))⟩
theorem wj (tk:E4 T P) (hr:g7 T n r.ev) (c:Cx T W n A env own m U Y s) {kvs:List (X×X)} (t:Tr T env.kindOf (.dict kvs) e') (h:(s7 P r m (.dict kvs) Y).c4 (KV T W U s Q) (XV T W U s E)):wpAny (model T.prog T.w) A (eval e' env) Q E s:=
 t.lr fun ks es p t1 hl=>by
  induction t1 with
  |nil=>exact wpAny_Dict_empty (KV.newDict tk c.rel (i4.refl (c.adopt (t:=s.toks) (g9 _ _) (y9 _) (O1 rfl)).rel) bM.refl hJ.refl .nil (v3 (strKind T.prog T.w) (n:=0) (Od _ rfl)) h)
  |cons q k e xs ks es tk' te ts=>exact jD hr c (.cons q k e xs ks es tk' te ts) hl nofun h fun ds c7 l3 w9 d7 kws o b hg q hd h=>KV.newDict tk c.rel o b hg q hd h
theorem Bv {kvs:List (Txt×V)} {kws:List (Str×Value)} (q:J9 T U bad h i3 kvs kws):kvs.all (fun p=>T.univ.any (r5 p.1))=true->∀p∈kws,∃k∈T.univ,p.1=i3 k:=
 q.aO (Q:=fun kvs kws=>kvs.all (fun p=>T.univ.any (r5 p.1))=true->∀p∈kws,∃k∈T.univ,p.1=i3 k) (fun J J q=>nomatch q) fun p w r es J J J ih hu p' hp=>a7 hu fun h1 h2=>(Of hp).elim (fun e=>match List.any_eq_true.mp h1 with|⟨u,hu,e2⟩=>⟨u,hu,by rw[e,D0.mp e2]⟩) (ih h2 p')
theorem uX {kvs:List (Txt×V)} {k:Txt} {v:V} {f:Txt->Bool} (h:kvs.all (fun p=>f p.1)=true) (hk:f k=true):(BO kvs k v).all (fun p=>f p.1)=true:=by
 have h:=List.all_eq_true.mp h
 refine List.all_eq_true.mpr fun p hp=>?_
 unfold BO qy at hp
 induction q:kvs.any fun p=>r5 p.1 k with
 |true=>
  rw[q]at hp
  obtain⟨a,ha,e⟩:=List.mem_map.mp hp
  have:p.1=a.1:=by rw[←e];induction r5 a.1 k<;>rfl
  rw[this];exact h a ha
 |false=>
  rw[q]at hp
  exact(OG hp).elim (h p) fun z=>(Og z)▸hk
theorem nv {ds:List (Txt×V)} {f:Txt->Bool}:∀{kvs:List (Txt×V)},ds.all (fun p=>f p.1)=true->kvs.all (fun p=>f p.1)=true->(z7 kvs ds).all (fun p=>f p.1)=true:=by
 induction ds with
 |nil=>exact fun J h=>h
 |cons p r ih=>exact fun hd h=>a7 hd fun h1 h2=>ih h2 (uX h h1)
theorem qL (tk:E4 T P) (hr:g7 T n r.ev) (c:Cx T W n A env own m U Y s) {kvs:List (X×X)} (t:Tr T env.kindOf (.K4 kvs) e') (h:(s7 P r m (.K4 kvs) Y).c4 (KV T W U s Q) (XV T W U s E)):wpAny (model T.prog T.w) A (eval e' env) Q E s:=
 t.fB fun ks es p t1 hl=>by
  induction t1 with
  |nil=>exact wpAny_Dict_empty (KV.cq (o:=.emp) c.rel rfl (fun J=>⟨0,O0 tk c.rel,Od _ rfl⟩) h)
  |cons q k e xs ks es tk' te ts=>
   exact jD hr c (.cons q k e xs ks es tk' te ts) hl nofun h fun ds c7 l3 w9 d7 kws o b hg q hd h=>a9 h fun J e h=>i9 e fun g J=>by
    have q':=q.ms (jX (T:=T) (W:=W) (pub:=[s.heap.objs.size]) b.off (fun J q=>q))
    rw[tk.fx]at g
    exact h _ _ _ (i4.jW (c5:={s with heap:=s.heap.push {cls:=.type "dict",data:=.dict #[]}}) c.rel (g9 _ _) (y9 _) ⟨rfl,rfl,rfl⟩ o b hg (fun J q=>q) (List.nodup_cons.mpr ⟨nofun,List.nodup_nil⟩) rfl
     (qP (o:=.map (bc (z7 [] ds))) ⟨kws,hd,O0 tk c.rel,q'.look D1,Bv q' (nv (f:=fun k=>T.univ.any (r5 k)) g rfl)⟩)) (.mk _ _ (.loc _ _ (o.rel.len▸List.getElem?_concat_length ..))) (G1.not rfl)
theorem qK (hr:g7 T n r.ev) (c:Cx T W n A env own m U Y s) {es:List X} (t:Tr T env.kindOf (.Y5 es) e') (h:(s7 P r m (.Y5 es) Y).c4 (KV T W U s Q) (XV T W U s E)):wpAny (model T.prog T.w) A (eval e' env) Q E s:=
 t.fy fun J J t1=>wpAny_List_spliced (gG hr t1 c (R.c4.mono (R.d5.mp h) (fun vs c9 h ws c5 c8 o q=>a9 h fun us e h=>i9 e fun g e=>
  ⟨by rw[q.length];exact u7 g,KV.cq (o:=.list us) o.rel rfl (fun ms=>⟨ws,⟨_,Od _ rfl⟩,e▸q.ms ms⟩) (KV.step o h)⟩) fun J J x=>x))
end
section
theorem qM {es:List DictEntry} {kws:List (Str×Value)} {prog:Program} {w:World} (x:Pairs (strKind prog w) es kws) (NT:Str):(es.find? (·.key.isStr NT)).map (·.val)=valueAt kws NT:=by
 induction x with
 |nil=>rfl
 | @cons e kv es kvs h1 h2 _ ih=>
  obtain⟨t,ht⟩:=Value.isStrOf_shape h1
  have hk:e.key.isStr NT=(kv.1 == NT):=by rw[ht];rfl
  rw[show kv=(kv.1,kv.2)from rfl,i6,List.find?_cons,hk]
  by_cases q:kv.1=NT
  ·rw[OB q,beq_iff_eq.mpr q];exact Oh some h2
  ·rw[OC q,beq_eq_false_iff_ne.mpr q];exact ih
theorem cU {es:List DictEntry} {kws:List (Str×Value)} {prog:Program} {w:World} (x:Pairs (strKind prog w) es kws):es.any (·.refKey)=false:=by
 induction x with
 |nil=>rfl
 | @cons e kv es kvs h1 h2 _ ih=>
  obtain⟨t,ht⟩:=Value.isStrOf_shape h1
  rw[List.any_cons,ih]
  unfold DictEntry.refKey
  rw[ht];rfl
theorem cu {dx:Addr} {kws:List (Str×Value)} (hd:h.DictOf (strKind T.prog T.w) dx kws) (NT:Str):∃o,h.get? dx=some o∧lookIn NT o=some (valueAt kws NT):=by
 obtain⟨o,es,ep,e,_,hdat,_,hp,_⟩:=hd
 refine⟨o,e,?_⟩
 unfold lookIn
 rw[hdat]
 dsimp only
 rw[←qM hp NT]
 induction es.toList.find? (·.key.isStr NT)with
 |none=>dsimp only;rw[cU hp];rfl
 |some e=>rfl
theorem rA (tk:E4 T P) {v:V} {w:Value} (x:bN T v w):handedIn w=true:=
 bN.rec (motive:=fun J w J=>handedIn w=true) rfl (fun J=>rfl) (fun J J=>rfl) (fun J J J=>rfl) (fun J J J J=>rfl) (fun J J J=>rfl) (fun J J J=>rfl) (fun b=>tk.bi b) x
theorem vL (tk:E4 T P) {v:V} {w:Value} {bad:Addr->Prop} (x:VS T U bad h v w):handedIn w=true:=by
 cases x with
 |G3 _ _ x=>exact rA tk x
 |_=>rfl
theorem k7 (tk:E4 T P) (c:d9 T W U Y h):T.K.In h:=tk.vE.keeps c.base
theorem jM (tk:E4 T P) (c:d9 T W U Y s.heap) {k:Nat} {C a dx:Addr} {kws:List (Str×Value)} {NT:Str} {v:V} {o:Option V} {expr:Bool} (hn:NT∈T.AF) (hC:T.cls k=some C) (ha:s.heap.get? a=some ⟨.ref C,some dx,.plain,#[]⟩)
 (hd:s.heap.DictOf (strKind T.prog T.w) dx kws) (q:B0 T U (k9 T W U) s.heap o (valueAt kws NT)) (e:o=some v) (h:KV T W U s Q v Y):wpAny (model T.prog T.w) A (getAttr (.ref a) NT expr) Q E s:=
 B0.W6 (e▸q) fun w ew g r=>(cu hd NT).elim fun o z=>get_value (k7 tk c) (C:=C) (ox:=⟨.ref C,some dx,.plain,#[]⟩) (od:=some o) ⟨ha,rfl,rfl,z.1⟩ (plainGet_of (tk.af _ hn k C hC).g).1 (findObj_own (tk.af _ hn k C hC).d (tk.af _ hn k C hC).f rfl (z.2.trans (Oh some ew))) (vL tk r) (KV.vs c r g h)
theorem P1 {o:Ex} {attr:Str} {whole:Sem Value} {M:Model} (hn:I1 o=true) (hw:wpAny M A whole Q E s):wpAny M A (attributeBase o attr env whole) Q E s:=by
 cases o with
 |Call f a k p=>cases f with
  |Name id q=>induction a with
   |nil=>induction k with
    |nil=>have hn:(id !=("super":Str))=true:=hn;unfold attributeBase;dsimp only;rw[hn];exact hw
    |cons=>exact hw
   |cons=>exact hw
  |_=>exact hw
 |_=>exact hw
theorem X1 (tk:E4 T P) (a b:Nat):Nat.beq a b=decide (T.nm a=T.nm b):=by
 cases e:Nat.beq a b with
 |true=>rw[Om e,decide_eq_true rfl]
 |false=>exact(decide_eq_false fun q=>by rw[tk.rG _ _ q,Nat.beq_refl]at e;exact Bool.noConfusion e).symm
inductive KI (T:i7) (W:r9) (U:List Addr) (h:Heap) (d:Nat) (f:Txt->Option V) (a:Addr):Prop
 |mk (k:Nat) (C dx:Addr) (hC:T.cls k=some C) (ha:h.get? a=some ⟨.ref C,some dx,.plain,#[]⟩) (hd:U[d]? =some dx) (q:Ie T W U h dx f)
@[elab_as_elim] theorem gj (c:d9 T W U Y h) {o:V} {wo:Value} {q:Nat×(Txt->Option V)} {G:Value->Prop} (ho:C4 T W U h o wo) (e:dT o Y=some q) (k:∀a,Y[q.1]? =some (.map q.2)->KI T W U h q.1 q.2 a->G (.ref a)):G wo:=
 a0 e fun i ei e=>a0 e fun ob eo e=>a0 e fun u eu e=>a0 e fun od ed e=>d8 e fun f ef e=>A8 ho ei fun a ha=>by
  rw[nO eu]at eo
  rw[H5 ef]at ed
  subst e
  refine k a ed (c.at eo fun a' ha' z=>match z with|⟨C,dx,hC,hd,g⟩=>c.at ed fun dx' hd' z=>⟨_,C,dx,hC,(NX (ha'.symm.trans ha))▸g,hd,(NX (hd'.symm.trans hd))▸z⟩)
theorem DN (tk:E4 T P) (c:d9 T W U Y s.heap) {o v:V} {wo:Value} {a:Nat} (ho:C4 T W U s.heap o wo) (e:EY o a P Y=some v) (hf:T.nm a∈T.AF) {expr:Bool} (h:KV T W U s Q v Y):wpAny (model T.prog T.w) A (getAttr wo (T.nm a) expr) Q E s:=
 i0 e (fun e=>a0 e fun q eq e=>kf ho eq fun ad i=>match i with|⟨C,dx,kws,hC,ha,_,hd,_,e1,r⟩=>jM tk c hf hC ha hd (J9.look (key:=T.nm) (eq:=Nat.beq) (X1 tk) ⟨e1,r⟩ a) e h) fun e=>
 a0 e fun q eq e=>a0 e fun nm en e=>gj c ho eq fun ad J i=>match i with|⟨k,C,dx,hC,ha,_,⟨kws,hd,_,q,_⟩⟩=>jM tk c hf hC ha hd (tk.Ld a nm en▸q nm) e h
theorem wY (tk:E4 T P) (hr:g7 T n r.ev) (c:Cx T W n A env own m U Y s) {a:Nat} (t:Tr T env.kindOf (.attr x a) e') (h:(s7 P r m (.attr x a) Y).c4 (KV T W U s Q) (XV T W U s E)):wpAny (model T.prog T.w) A (eval e' env) Q E s:=
 t.lL fun o p t1 hs hf=>by
  rw[arm_eval_Attribute]
  exact NU (P1 hs (Bd hr c t1 h fun ov c9 wo c5 c8 w3 vo h=>w0 h fun v e h=>NU (Ow (NU (Oo (DN tk w3.rel vo e hf fun w l3 o7 i8 hv hw=>NU (wpAny_letTemporaryGo (NW (h w l3 o7 i8 hv hw)))))))))
end
structure Fx (T:i7) where
 A:Around
 env:Env
 W0:r9
 Z4:List Addr
 s0:Shared
 H:List (Addr×Obj×Bool)
 Hv:List (V×Value)
structure Zt where
 W:r9
 own:List (Nat×Addr)
 U:List Addr
 s:Shared
noncomputable abbrev Zt.to (z:Zt) (U:List Addr) (s:Shared):Zt:=⟨z.W,z.own,U,s⟩
noncomputable abbrev Zt.hp (z:Zt) (h:Heap) (t:Nat):Zt:=⟨z.W,z.own,z.U,{z.s with heap:=h,toks:=t}⟩
structure St {T:i7} (F:Fx T) (W:r9) (own:List (Nat×Addr)):Prop where
 v5:In F.W0 W F.s0
 inj:∀x y a,(x,a)∈own->(y,a)∈own->x=y
 aR:∀x a,(x,a)∈own->F.s0.heap.get? a=none
 O3:F.s0.heap.get? F.env.locals=none
 cB:∀x a y c,(x,a)∈own->F.env.cells.lookup y=some c->a≠c
 aw:∀y c,F.env.cells.lookup y=some c->c∈W.own
 old:∀a,a∈F.W0.own->∃o,F.s0.heap.get? a=some o
structure jQ {T:i7} (F:Fx T):Prop where
 wG:∀x c,F.env.cells.lookup x=some c->F.s0.heap.get? c=none
 DA:∀x y c,F.env.cells.lookup x=some c->F.env.cells.lookup y=some c->x=y
structure sC {T:i7} (F:Fx T) (z:Zt) (a:Addr) (o:Obj) (b:Bool):Prop where
 at_:z.s.heap.get? a=some o
 nm:¬A6 T z.W z.U a
 nn:∀x,(x,a)∉z.own
 nc:∀y,F.env.cells.lookup y≠some a
 own:b=true->a∈z.W.own
 nb:b=false->¬k9 T z.W z.U a
structure KJ {T:i7} (F:Fx T) (z:Zt) (v:V) (w:Value):Prop where
 g:solid v=true
 r:eK T z.W z.U z.s.heap v w
structure Hd {T:i7} (F:Fx T) (z:Zt):Prop where
 objs:∀a o b,(a,o,b)∈F.H->sC F z a o b
 vals:∀v w,(v,w)∈F.Hv->KJ F z v w
structure Fs {T:i7} (F:Fx T) (z:Zt) (m:Fr) (Y:Hp):Prop where
 cx:Cx T z.W 0 F.A F.env z.own m z.U Y z.s
 st:St F z.W z.own
 out:i4 T F.W0 F.Z4 F.s0 Y z.U z.s
 hd:Hd F z
structure N6 (A:Around) (n:Nat):Prop where
 depth:A.depth+2 * n≤900
 units:A.units+20 * n≤9000
theorem N6.lo {A:Around} {n:Nat} (r:N6 A (n+1)):N6 A n:=⟨Oe (Oj (Nat.mul_le_mul_left 2 (Nat.le_succ n)) _) r.depth,Oe (Oj (Nat.mul_le_mul_left 20 (Nat.le_succ n)) _) r.units⟩
section
theorem iU {h:Heap} {L:Addr} {f g:Str->Option Value} (x:h.Ns L f) (y:h.Ns L g):f=g:=by
 obtain⟨o,es,ep,h1,h2,_,h3⟩:=x
 obtain⟨o',es',ep',h1',h2',_,h3'⟩:=y
 cases h1.symm.trans h1'
 cases h2.symm.trans h2'
 exact funext fun k=>(h3 k).symm.trans (h3' k)
theorem pk {h:Heap} {c:Addr} {v w:Option Value} (x:h.IsCell c v) (y:h.IsCell c w):v=w:=by
 obtain⟨o,e1,e2⟩:=x
 obtain⟨o',e1',e2'⟩:=y
 cases e1.symm.trans e1'
 cases e2.symm.trans e2'
 rfl
theorem S9 {α:Type} {x:Option α} {a b:α} {G:Prop} (e:x=some a) (e':x=some b) (n:a≠b):G:=absurd (NX (e.symm.trans e')) n
theorem n7.unique {W W':r9} {env:Env} {h:Heap} {y:Str} {w w':Value} (x:n7 W env h y w) (x':n7 W' env h y w'):w=w':=by
 induction x with
 |loc f k n e=>cases x' with
  |loc f' k' n' e'=>exact NX (e.symm.trans ((congrFun (iU n n') y).trans e'))
  |P0 c k'=>exact k'.elim (fun k'=>S9 k k' nofun) fun k'=>S9 k k' nofun
 |P0 c k hc o i=>induction x' with
  |loc f' k'=>exact k.elim (fun k=>S9 k k' nofun) fun k=>S9 k k' nofun
  |P0 c' k' hc' o' i'=>cases hc.symm.trans hc';exact NX (pk i i')
theorem yZ (m:Fr) {x y:Nat} (v:V) (n:Nat.beq x y=false):d6 (m.map fun p=>bif Nat.beq p.1 x then(p.1,v)else p) y=d6 m y:=by
 induction m with
 |nil=>rfl
 |cons p r ih=>
  show R8 Nat.beq ((bif Nat.beq p.1 x then(p.1,v)else p)::_) y=bif Nat.beq p.1 y then some p.2 else R8 Nat.beq r y
  cases e:Nat.beq p.1 x with
  |false=>exact Oh (fun z=>bif Nat.beq p.1 y then some p.2 else z) ih
  |true=>
   rw[Om e,n]
   exact(Oh (fun z=>bif z then some v else _) n).trans ih
theorem ie (m:Fr) {x:Nat} (v:V) (h:(m.any fun p=>Nat.beq p.1 x)=true):d6 (m.map fun p=>bif Nat.beq p.1 x then(p.1,v)else p) x=some v:=by
 induction m with
 |nil=>cases h
 |cons p r ih=>
  show R8 Nat.beq ((bif Nat.beq p.1 x then(p.1,v)else p)::_) x=_
  cases e:Nat.beq p.1 x with
  |true=>exact Oh (fun z=>bif z then some v else _) e
  |false=>
   rw[List.any_cons,e]at h
   exact(Oh (fun z=>bif z then some p.2 else _) e).trans (ih h)
theorem za (m:Fr) (x y:Nat) (v:V) (h:(m.any fun p=>Nat.beq p.1 x)=false):d6 (m++[(x,v)]) y=bif Nat.beq x y then some v else d6 m y:=by
 induction m with
 |nil=>rfl
 |cons p r ih=>
  rw[List.any_cons,Bool.or_eq_false_iff]at h
  show(bif Nat.beq p.1 y then some p.2 else R8 Nat.beq (r++[(x,v)]) y)=bif Nat.beq x y then some v else bif Nat.beq p.1 y then some p.2 else R8 Nat.beq r y
  cases e:Nat.beq p.1 y with
  |false=>exact ih h.2
  |true=>
   induction q:Nat.beq x y with
   |false=>rfl
   |true=>rw[Om e,Om q,Nat.beq_refl]at h;exact Bool.noConfusion h.1
theorem C9 (m:Fr) (x y:Nat) (v:V):d6 (putN m x v) y=bif Nat.beq x y then some v else d6 m y:=by
 show d6 (bif m.any (fun p=>Nat.beq p.1 x)then _ else _) y=_
 induction h:m.any fun p=>Nat.beq p.1 x with
 |false=>exact za m x y v h
 |true=>
  cases e:Nat.beq x y with
  |false=>exact yZ m v e
  |true=>rw[←Om e];exact ie m v h
theorem cY {m:Fr} {x y:Nat} {v u:V} {G:V->Prop} (e:d6 (putN m x v) y=some u) (k:x=y->G v) (k':x≠y->d6 m y=some u->G u):G u:=by
 rw[C9]at e
 induction q:Nat.beq x y with
 |true=>rw[q]at e;cases e;exact k (Om q)
 |false=>rw[q]at e;exact k' (fun z=>by rw[z,Nat.beq_refl]at q;cases q) e
variable {C0:List (Nat×Addr)}
theorem n7.to {y:Str} {w:Value} (x:n7 W env h y w) (ns:∀f,h.Ns env.locals f->h'.Ns env.locals f) (P0:∀y c,env.cells.lookup y=some c->c∈W.own->c∈W'.own∧At c h h'):n7 W' env h' y w:=by
 induction x with
 |loc f k n e=>exact .loc f k (ns f n) e
 |P0 c k hc o i=>exact .P0 c k hc (P0 y c hc o).1 (D4 i (P0 y c hc o).2)
theorem G2.to (c:G2 T W U env own m h) (Y1:env.locals∈W'.l6) (ns:∀f,h.Ns env.locals f->h'.Ns env.locals f) (P0:∀y c,env.cells.lookup y=some c->c∈W.own->c∈W'.own∧At c h h') (ow:∀x a,(x,a)∈C0->a∈W'.own) (fv:∀y v w,FV T W U h own y v w->FV T W' d7 h' C0 y v w):G2 T W' d7 env C0 m h' where
 kind:=c.kind
 glob:=c.glob
 blt:=c.blt
 Y1:=Y1
 loc:=c.loc
 ns:=c.ns.elim fun f n=>⟨f,ns f n⟩
 var:=fun x v e q=>(c.var x v e q).elim fun w z=>⟨w,z.1.to ns P0,fv x v w z.2⟩
 has:=fun y q=>match c.has y q with|⟨ca,v,hc,o,i⟩=>⟨ca,v,hc,(P0 y ca hc o).1,D4 i (P0 y ca hc o).2⟩
 own:=ow
 code:=c.code
theorem G2.put (c:G2 T W U env own m h) {x:Nat} {v:V} (hg:d6 T.glob x=none) (ns:∃f,h'.Ns env.locals f) (has:∀y,aD W env h y->aD W env h' y) (xl:∀y u,y≠x->n7 W env h (T.nm y) u->n7 W env h' (T.nm y) u) (fv:∀y v w,y≠x->FV T W U h own y v w->FV T W U h' own y v w)
 (hx:f6 (env.kindOf (T.nm x)) T6=true->∃w,n7 W env h' (T.nm x) w∧FV T W U h' own x v w):G2 T W U env own (putN m x v) h' where
 kind:=c.kind
 glob:=c.glob
 blt:=c.blt
 Y1:=c.Y1
 loc:=fun y u e=>cY (G:=fun J=>d6 T.glob y=none) e (fun q=>q▸hg) fun J e=>c.loc y u e
 ns:=ns
 var:=fun y u e q=>cY (G:=fun u=>∃w,n7 W env h' (T.nm y) w∧FV T W U h' own y u w) e (fun z=>by subst z;exact hx q) fun z e=>(c.var y u e q).elim fun w k=>⟨w,xl y w (Ne.symm z) k.1,fv y u w (Ne.symm z) k.2⟩
 has:=fun y q=>has y (c.has y q)
 own:=c.own
 code:=c.code
theorem G2.congr {m':Fr} (x:G2 T W U env own m h) (e:∀y,d6 m' y=d6 m y):G2 T W U env own m' h:=⟨x.kind,x.glob,x.blt,x.Y1,fun y v q=>x.loc y v (e y▸q),x.ns,fun y v q=>x.var y v (e y▸q),x.has,x.own,x.code⟩
end
variable {z:Zt} {F:Fx T} {m':Fr}
section
variable {D:Addr->Prop}
def I0 (L:Addr) (h:Heap):Prop:=∃o,h.get? L=some o∧∀vs,o.data≠.fields vs
theorem H6 {h:Heap} {L:Addr} {f:Str->Option Value} (x:h.Ns L f):I0 L h:=match x with
 |⟨o,es,ep,e,d,_⟩=>⟨o,e,fun vs q=>nomatch d.symm.trans q⟩
theorem X3 {h:Heap} {c:Addr} {v:Option Value} (x:h.IsCell c v):I0 c h:=match x with
 |⟨o,e,d⟩=>⟨o,e,fun vs q=>nomatch d.symm.trans q⟩
def XF (F:Fx T) (E:Value->Shared->Prop) (t:Txt) (c7:Hp):Prop:=
 ∀e s' d7 W,In F.W0 W F.s0->F.env.locals∈W.l6->I0 F.env.locals s'.heap->i4 T F.W0 F.Z4 F.s0 c7 d7 s'->sD T W F.s0 d7 c7 s'.heap t e->E e s'
theorem sC.to {z z':Zt} {a:Addr} {o:Obj} {b:Bool} (x:sC F z a o b) (k:At a z.s.heap z'.s.heap) (nm:A6 T z'.W z'.U a->A6 T z.W z.U a) (nn:∀x,(x,a)∈z'.own->(x,a)∈z.own) (own:a∈z.W.own->a∈z'.W.own) (nb:k9 T z'.W z'.U a->k9 T z.W z.U a):sC F z' a o b:=
 ⟨k o x.at_,fun q=>x.nm (nm q),fun y q=>x.nn y (nn y q),x.nc,fun q=>own (x.own q),fun q y=>x.nb q (nb y)⟩
theorem rD {W W':r9} {s:Shared} {T:i7} {U:List Addr} {a:Addr} (g:s8 s W W') (q:A6 T W' U a):A6 T W U a:=q.imp id fun q=>q.imp (fun q=>g.l6▸q) id
theorem Fs.grow (f:Fs F z m Y) (o:i4 T z.W z.U z.s c7 d7 s') (g:s8 z.s z.W W') (c:d9 T W' d7 c7 s'.heap):Fs F ⟨W',z.own,d7,s'⟩ m c7 where
 cx:=f.cx.grow o g c
 st:={f.st with v5:=⟨fun a q=>g.l6▸f.st.v5.l6 a q,fun a q=>g.own a (f.st.v5.own a q),fun a q=>f.st.v5.gu a (g.l6▸q),fun a q=>(g.C0 a q).elim (f.st.v5.C0 a) fun q=>.inr (f.out.ext.since q)⟩,aw:=fun y c q=>g.own c (f.st.aw y c q)}
 out:=i4.under f.st.v5 f.out o
 hd:=⟨fun a ob b q=>(f.hd.objs a ob b q).to (o.ext.off.at (f.hd.objs a ob b q).nm) (fun y=>(rD g y).imp (fun y=>(o.ext.new a y).elim id fun y=>d0 y (f.hd.objs a ob b q).at_) id) (fun J y=>y) (g.own a) (fun y=>o.ext.bE (f.hd.objs a ob b q).at_ (g.v5.back (f.hd.objs a ob b q).at_ y)),
  fun v w q=>⟨(f.hd.vals v w q).g,(f.hd.vals v w q).r.ms (rE o.ext g)⟩⟩
theorem Fs.step (f:Fs F z m Y) (o:i4 T z.W z.U z.s c7 d7 s'):Fs F (z.to d7 s') m c7:=f.grow o s8.refl o.rel
theorem Fs.congr (f:Fs F z m Y) (e:∀y,d6 m' y=d6 m y):Fs F z m' Y:=⟨⟨f.cx.rel,f.cx.fr.congr e,f.cx.ar⟩,f.st,f.out,f.hd⟩
theorem Fs.mz (f:Fs F z m Y) (r:N6 F.A n):Cx T z.W n F.A F.env z.own m z.U Y z.s:=⟨f.cx.rel,f.cx.fr,⟨f.cx.ar.handled,r.depth,r.units,f.cx.ar.frames⟩⟩
theorem Fs.nL (f:Fs F z m Y) {a:Addr} (ha:a∈z.W.own):a≠F.env.locals:=fun q=>(f.cx.rel.o5.own a ha).nm (.inr (.inl (q▸f.cx.fr.Y1)))
theorem Fs.turned (f:Fs F z m Y) {t:Nat} (tt:pO z.W D z.s.heap h') (fr:G2 T z.W z.U F.env z.own m' h') (new:∀a,D a->F.s0.heap.get? a=none) (hH:∀a o b,(a,o,b)∈F.H->¬D a):Fs F (z.hp h' t) m' Y where
 cx:=⟨f.cx.rel.turn tt,fr,f.cx.ar.mv (fun J q=>q) tt.keep fun a ha q o e d=>tt.frame a ha q⟩
 st:=f.st
 out:=f.out.turn (s'':={z.s with heap:=h',toks:=t}) tt.keep new ⟨rfl,rfl,rfl⟩ ((f.cx.rel.turn tt).shrink f.st.v5)
 hd:=⟨fun a ob b q=>(f.hd.objs a ob b q).to (tt.keep.at (hH a ob b q)) (fun y=>y) (fun J y=>y) (fun y=>y) (fun y=>y),fun v w q=>⟨(f.hd.vals v w q).g,(f.hd.vals v w q).r.ms tt.ms⟩⟩
theorem aM {W:r9} {a:Addr} {h h':Heap} (x:Heap.SameBut a h h') (ha:a∈W.l6∨a∈W.own) (t:I0 a h'):pO W (fun b=>b=a) h h':=
 t.elim fun o q=>⟨fun b ob e n=>(x.2 b n).trans e,fun b ob e=>by
  by_cases k:b=a
  ·exact⟨o,k▸q.1⟩
  ·exact⟨ob,(x.2 b k).trans e⟩,fun b k=>k▸ha,fun b J k=>⟨o,k▸q.1,q.2⟩⟩
inductive s6 (T:i7) (kd:Kd) (x:Nat):Prop
 |loc (g:d6 T.glob x=none) (k:kd (T.nm x)=some .local)
 |P0 (g:d6 T.glob x=none) (k:kd (T.nm x)=some .cell)
inductive cP (F:Fx T) (x:Nat):Prop
 |loc (g:d6 T.glob x=none) (k:F.env.kindOf (T.nm x)=some .local)
 |P0 (g:d6 T.glob x=none) (k:F.env.kindOf (T.nm x)=some .cell) (d:jQ F)
theorem s6.Ko {x:Nat} (h:s6 T F.env.kindOf x) (d:jQ F):cP F x:=by
 induction h with
 |loc g k=>exact .loc g k
 |P0 g k=>exact .P0 g k d
theorem n7.Cr {W:r9} {env:Env} {h h':Heap} {y:Str} {u:Value} {f:Str->Option Value} (c:∀c,c∈W.own->At c h h') (n:h.Ns env.locals f) {g:Str->Option Value} (n':h'.Ns env.locals g) (e:g y=f y) (x:n7 W env h y u):n7 W env h' y u:=by
 induction x with
 |loc f' k n2 e2=>exact .loc g k n' (e.trans ((congrFun (iU n n2) y).trans e2))
 |P0 ca k hc o i=>exact .P0 ca k hc o (D4 i (c ca o))
theorem pn {W:r9} {env:Env} {h h':Heap} {y:Str} {L:Addr} {v:Option Value} (x:aD W env h y) (k:∀c,c≠L->At c h h') (i:∀c v,c=L->h.IsCell c v->∃v,h'.IsCell c v):aD W env h' y:=match x with
 |⟨c,v,hc,o,q⟩=>if e:c=L then(i c v e q).elim fun v q=>⟨c,v,hc,o,q⟩else⟨c,v,hc,o,D4 q (k c e)⟩
theorem Fs.sQ {Q:Unit->Shared->Prop} {E:Value->Shared->Prop} (tk:E4 T P) (f:Fs F z m Y) {x:Nat} {v:V} {w:Value} (hs:cP F x) (fv:FV T z.W z.U z.s.heap z.own x v w)
 (k:∀s',Fs F (z.to z.U s') (putN m x v) Y->Q () s'):wpAny (model T.prog T.w) F.A (storeName F.env (T.nm x) w) Q E z.s:=by
 have go:∀{L:Addr} {h':Heap} {t:Nat},pO z.W (fun b=>b=L) z.s.heap h'->d6 T.glob x=none->F.s0.heap.get? L=none->(∀y a,(y,a)∈z.own->a≠L)->(∀a o b,(a,o,b)∈F.H->a≠L)->I0 L h'->(∃f,h'.Ns F.env.locals f)->(∀y,aD z.W F.env z.s.heap y->aD z.W F.env h' y)->
  (∀y u,y≠x->n7 z.W F.env z.s.heap (T.nm y) u->n7 z.W F.env h' (T.nm y) u)->n7 z.W F.env h' (T.nm x) w->Q () {z.s with heap:=h',toks:=t}:=fun{L h' t} tt hg ln on hH ft ns ca xl hx=>
  have fvm:∀{y v w},FV T z.W z.U z.s.heap z.own y v w->FV T z.W z.U h' z.own y v w:=fun{y v w} q=>q.mv tt.ms fun a ha=>tt.keep.at (on y a ha)
  k _ (f.turned tt (f.cx.fr.put hg ns ca xl (fun y v w J q=>fvm q) fun J=>⟨w,hx,fvm fv⟩) (fun a q=>q▸ln) hH)
 have oL:∀a,a∈z.W.own->a≠F.env.locals:=fun a ha=>f.nL ha
 induction hs with
 |loc g hk=>exact f.cx.fr.ns.elim fun nf hn=>wpAny_storeName_local hk hn (fun h' hn' hs=>by
  have tt:=aM hs (.inl f.cx.fr.Y1) (H6 hn')
  exact go tt g f.st.O3 (fun y a q=>oL a (f.cx.fr.own y a q)) (fun a o b q e=>(f.hd.objs a o b q).nm (.inr (.inl (e▸f.cx.fr.Y1)))) (H6 hn') ⟨_,hn'⟩ (fun y q=>match q with|⟨c,v,hc,o,i⟩=>⟨c,v,hc,o,D4 i (tt.keep.at (oL c o))⟩)
   (fun y u ne q=>q.Cr (fun c o=>tt.keep.at (oL c o)) hn hn' (OC fun e=>ne (tk.rG _ _ e))) (.loc _ hk hn' (OB rfl))) (hp:=by rw[f.cx.fr.kind];rfl)
 |P0 g hk d=>exact match f.cx.fr.has _ hk with
  |⟨ca,Nn,hca,ho,hi⟩=>wpAny_storeName_cell f.cx.fr.kind hk hca hi fun h' hi' hs=>by
   have tt:=aM hs (.inr ho) (X3 hi')
   have nsm:∀f',z.s.heap.Ns F.env.locals f'->h'.Ns F.env.locals f':=fun f' n=>iV n (tt.keep.at fun e=>oL ca ho e.symm)
   have hw:∀y,y≠x->F.env.cells.lookup (T.nm y)≠some ca:=fun y ne q=>ne (tk.rG _ _ (d.DA _ _ ca q hca))
   exact go tt g (d.wG _ ca hca) (fun y a q=>f.st.cB y a _ ca q hca) (fun a o b q e=>(f.hd.objs a o b q).nc _ (e▸hca)) (X3 hi') (f.cx.fr.ns.elim fun f' n=>⟨f',nsm f' n⟩)
    (fun y q=>pn (v:=none) q (fun c ne=>tt.keep.at ne) fun c v e J=>⟨_,e▸hi'⟩)
    (fun y u ne q=>match q with
     |.loc f' k n e=>.loc f' k (nsm f' n) e
     |.P0 c k hc o i=>.P0 c k hc o (D4 i (tt.keep.at fun e=>hw y ne (e▸hc)))) (.P0 ca (.inl hk) hca ho hi')
theorem Fs.store {Q:Unit->Shared->Prop} {E:Value->Shared->Prop} (tk:E4 T P) (f:Fs F z m Y) {x:Nat} {v:V} {w:Value} (hs:cP F x) (g:solid v=true) (r:eK T z.W z.U z.s.heap v w) (k:∀s',Fs F (z.to z.U s') (putN m x v) Y->Q () s'):wpAny (model T.prog T.w) F.A (storeName F.env (T.nm x) w) Q E z.s:=
 f.sQ tk hs (.pl v w g r) k
theorem Fs.turn (f:Fs F z m Y) {x:Nat} {v v':V} {t:Nat} (hx:d6 m x=some v) (hD:∀b,D b->(x,b)∈z.own) (keep:Off D z.s.heap h') (there:∀a ob,z.s.heap.get? a=some ob->∃ob',h'.get? a=some ob')
 (fv:∀w,n7 z.W F.env z.s.heap (T.nm x) w->Ms z.U z.U (k9 T z.W z.U) (k9 T z.W z.U) D z.s.heap h'->FV T z.W z.U z.s.heap z.own x v w->FV T z.W z.U h' z.own x v' w):Fs F (z.hp h' t) (putN m x v') Y:=
 have ow:∀a,D a->a∈z.W.own:=fun a q=>f.cx.fr.own x a (hD a q)
 have tt:pO z.W D z.s.heap h':=⟨keep,there,fun a q=>.inr (ow a q),fun a hf q=>absurd (.inr (.inl hf)) (f.cx.rel.o5.own a (ow a q)).nm⟩
 have nL:¬D F.env.locals:=fun q=>f.nL (ow _ q) rfl
 have nC:∀y c,F.env.cells.lookup y=some c->¬D c:=fun y c hc q=>f.st.cB x c y c (hD c q) hc rfl
 have held:∀y u,n7 z.W F.env z.s.heap y u->n7 z.W F.env h' y u:=fun y u q=>q.to (fun f' n=>iV n (keep.at nL)) fun y c hc o=>⟨o,keep.at (nC y c hc)⟩
 f.turned tt (f.cx.fr.put (f.cx.fr.loc x v hx) (f.cx.fr.ns.elim fun f' n=>⟨f',iV n (keep.at nL)⟩) (fun y q=>match q with|⟨c,v,hc,o,i⟩=>⟨c,v,hc,o,D4 i (keep.at (nC y c hc))⟩) (fun y u J=>held _ u)
  (fun y v w ne q=>q.mv tt.ms fun a ha=>keep.at fun y'=>ne (f.st.inj _ _ a ha (hD a y'))) fun q=>(f.cx.fr.var x v hx q).elim fun w k=>⟨w,held _ w k.1,fv w k.1 tt.ms k.2⟩) (fun a q=>f.st.aR x a (hD a q)) fun a o b q y=>(f.hd.objs a o b q).nn x (hD a y)
end
section
variable {D:Addr->Prop}
structure l8 (F:Fx T) (z:Zt) (a:Addr):Prop where
 C8:a∈z.W.own
 NT:∀y,(y,a)∉z.own
 cell:∀y,F.env.cells.lookup y≠some a
 new:F.s0.heap.get? a=none
 out:a∉F.W0.own
 held:∀o b,(a,o,b)∉F.H
theorem Fs.loose (f:Fs F z m Y) {a:Addr} (hn:z.s.heap.get? a=none) (ha:a∈W'.own):l8 F ⟨W',z.own,d7,s'⟩ a where
 C8:=ha
 NT:=fun y q=>(f.cx.rel.o5.own a (f.cx.fr.own y a q)).ex.elim fun o e=>d0 hn e
 cell:=fun y q=>(f.cx.rel.o5.own a (f.st.aw y a q)).ex.elim fun o e=>d0 hn e
 new:=f.out.ext.since hn
 out:=fun q=>(f.cx.rel.o5.own a (f.st.v5.own a q)).ex.elim fun o e=>d0 hn e
 held:=fun o b q=>d0 hn (f.hd.objs a o b q).at_
theorem Fs.more (f:Fs F z m Y) {x:Nat} {a:Addr} (l:l8 F z a):Fs F ⟨z.W,(x,a)::z.own,z.U,z.s⟩ m Y where
 cx:=⟨f.cx.rel,f.cx.fr.to f.cx.fr.Y1 (fun J n=>n) (fun J J J o=>⟨o,fun J e=>e⟩) (fun y b q=>(Of q).elim (fun e=>(Prod.mk.inj e).2▸l.C8) (f.cx.fr.own y b)) (fun y v w q=>match q with
  |.ml xs ws a o l r=>.ml xs ws a (.tail _ o) l r
  |.md kvs a o q=>.md kvs a (.tail _ o) q
  |.mo c at_ C a dx kws o o' hc ha hd r=>.mo c at_ C a dx kws (.tail _ o) (.tail _ o') hc ha hd r
  |.pl v w g r=>.pl v w g r),f.cx.ar⟩
 st:={f.st with
  inj:=fun y u b h1 h2=>(Of h1).elim (fun e1=>(Of h2).elim (fun e2=>(Prod.mk.inj e1).1.trans (Prod.mk.inj e2).1.symm) fun h2=>absurd ((Prod.mk.inj e1).2▸h2) (l.NT u)) fun h1=>(Of h2).elim (fun e2=>absurd ((Prod.mk.inj e2).2▸h1) (l.NT y)) fun h2=>f.st.inj y u b h1 h2
  aR:=fun y b q=>(Of q).elim (fun e=>(Prod.mk.inj e).2▸l.new) (f.st.aR y b)
  cB:=fun y b u c q hc=>(Of q).elim (fun e e2=>l.cell u ((Prod.mk.inj e).2▸e2▸hc)) fun q=>f.st.cB y b u c q hc}
 out:=f.out
 hd:=⟨fun b o bb q=>(f.hd.objs b o bb q).to (fun J e=>e) id (fun y k=>(Of k).elim (fun e=>absurd ((Prod.mk.inj e).2▸q) (l.held o bb)) id) id id,fun v w q=>⟨(f.hd.vals v w q).g,(f.hd.vals v w q).r⟩⟩
theorem Fs.chg (f:Fs F z m Y) {t:Nat} (l6:W'.l6=z.W.l6) (sub:∀a,a∈W'.own->a∈z.W.own) (gone:∀a,a∈z.W.own->a∈W'.own∨l8 F z a) (hD:∀a,D a->l8 F z a) (keep:Off D z.s.heap h') (there:∀a,a∈W'.own->D a->∃o,h'.get? a=some o):
 Fs F ⟨W',z.own,z.U,{z.s with heap:=h',toks:=t}⟩ m Y:=
 have nm:∀{a},D a->¬A6 T z.W z.U a:=fun q=>(f.cx.rel.o5.own _ (hD _ q).C8).nm
 have bb:∀{a},k9 T W' z.U a->k9 T z.W z.U a:=fun q=>q.imp id fun q=>q.imp (fun q=>l6▸q) fun q=>q.imp (sub _) id
 have ms:Ms z.U z.U (k9 T z.W z.U) (k9 T W' z.U) D z.s.heap h':=f.cx.rel.T3 (fun J q=>.inl (bb q)) keep fun a q=>.inr (hD a q).C8
 have thr:∀a,a∈W'.own->∃o,h'.get? a=some o:=fun a ha=>Classical.byCases (fun q:D a=>there a ha q) fun q=>(f.cx.rel.o5.own a (sub a ha)).ex.elim fun o e=>⟨o,keep a o e q⟩
 have mvs:∀{a},A6 T W' z.U a->A6 T z.W z.U a:=fun q=>q.imp id fun q=>q.imp (fun q=>l6▸q) id
 have rel:=f.cx.rel.move (fun J q=>.inl (bb q)) keep (fun a q=>.inr (hD a q).C8) ⟨fun a ha=>⟨fun q=>(f.cx.rel.o5.own a (sub a ha)).nm (mvs q),thr a ha⟩,fun a ha=>have ha:=l6▸ha;⟨(f.cx.rel.o5.l6 a ha).nr,(f.cx.rel.o5.l6 a ha).nt,(f.cx.rel.o5.l6 a ha).ex.elim fun o e=>⟨o,keep a o e fun q=>nm q (.inr (.inl ha))⟩⟩⟩
 have C0:∀a,a∈z.W.own->¬l8 F z a->a∈W'.own:=fun a ha n=>(gone a ha).elim id fun q=>absurd q n
 have v5:In F.W0 W' F.s0:=⟨fun a q=>l6▸f.st.v5.l6 a q,fun a q=>C0 a (f.st.v5.own a q) fun l=>l.out q,fun a q=>f.st.v5.gu a (l6▸q),fun a q=>f.st.v5.C0 a (sub a q)⟩
 {cx:=⟨rel,f.cx.fr.to (l6▸f.cx.fr.Y1) (fun J n=>iV n (keep.at fun q=>nm q (.inr (.inl f.cx.fr.Y1)))) (fun y c hc o=>⟨C0 c o fun l=>l.cell y hc,keep.at fun q=>(hD c q).cell y hc⟩) (fun x a q=>C0 a (f.cx.fr.own x a q) fun l=>l.NT x q)
  (fun y v w q=>q.mv ms fun a ha=>keep.at fun q=>(hD a q).NT y ha),f.cx.ar.mv (fun a q=>l6▸q) keep fun a ha q J J J=>absurd (.inr (.inl ha)) (nm q)⟩
  st:={f.st with v5:=v5,aw:=fun y c q=>C0 c (f.st.aw y c q) fun l=>l.cell y q}
  out:=f.out.turn (s'':={z.s with heap:=h',toks:=t}) keep (fun a q=>(hD a q).new) ⟨rfl,rfl,rfl⟩ (rel.shrink v5)
  hd:=⟨fun a o b q=>(f.hd.objs a o b q).to (keep.at fun y=>(hD a y).held o b q) mvs (fun J y=>y) (fun y=>C0 a y fun l=>l.held o b q) bb,fun v w q=>⟨(f.hd.vals v w q).g,(f.hd.vals v w q).r.ms ms⟩⟩}
noncomputable def r9.less (W:r9) (ds:List Addr):r9:=⟨W.l6,W.own.filter fun b=>!(ds.contains b)⟩
theorem E9 {W:r9} {ds:List Addr} {b:Addr}:b∈(W.less ds).own↔b∈W.own∧b∉ds:=by
 unfold r9.less
 rw[List.mem_filter]
 simp
theorem Fs.iS (f:Fs F z m Y) {ds:List Addr} {t:Nat} (hD:∀b,b∈ds->l8 F z b) (keep:Off (fun a=>a∈ds) z.s.heap h'):Fs F ⟨z.W.less ds,z.own,z.U,{z.s with heap:=h',toks:=t}⟩ m Y:=
 f.chg rfl (fun a q=>(E9.mp q).1) (fun a q=>Classical.byCases (fun e:a∈ds=>.inr (hD a e)) fun e=>.inl (E9.mpr ⟨q,e⟩)) hD keep fun a q e=>absurd e (E9.mp q).2
theorem Fs.drop (f:Fs F z m Y) {a:Addr} (l:l8 F z a):Fs F ⟨z.W.less [a],z.own,z.U,z.s⟩ m Y:=f.iS (t:=z.s.toks) (fun b q=>(Og q)▸l) (Off.refl _ _)
theorem Fs.cR (f:Fs F z m Y) {t:Nat} (hD:∀b,D b->l8 F z b) (keep:Off D z.s.heap h') (there:∀b,D b->∃o,h'.get? b=some o):Fs F (z.hp h' t) m Y:=
 f.chg rfl (fun J q=>q) (fun J q=>.inl q) hD keep fun a J q=>there a q
theorem Fs.adopt (f:Fs F z m Y) {ds:List Addr} {t:Nat} (k:∀a o,z.s.heap.get? a=some o->h'.get? a=some o) (hn:∀d,d∈ds->z.s.heap.get? d=none) (hy:∀d,d∈ds->∃o,h'.get? d=some o):Fs F ⟨z.W.add ds,z.own,z.U,{z.s with heap:=h',toks:=t}⟩ m Y:=
 f.grow (i4.keeps f.cx.rel k) (s8.add hn) (f.cx.rel.adopt k hn hy)
theorem l8.yH {a:Addr} (l:l8 F z a) (f:Fs F z m Y):¬k9 T (z.W.less [a]) z.U a:=fun q=>(f.cx.rel.o5.own a l.C8).nm (q.imp id fun q=>q.imp id fun q=>q.elim (fun q=>absurd (.head _) (E9.mp q).2) id)
theorem tF {a:Addr} {h:Heap}:Ms z.U z.U (k9 T z.W z.U) (k9 T (z.W.less [a]) z.U) (fun J=>False) h h:=⟨fun J J e=>e,Off.refl _ _,fun J J J q=>q.elim,fun b J J q=>q.imp id fun q=>q.imp id fun q=>q.imp (fun q=>(E9.mp q).1) id⟩
inductive Gv (F:Fx T) (z:Zt) (v:V):Value->Prop
 |plain (w:Value):made v=false->C4 T z.W z.U z.s.heap v w->Gv F z v w
 |own (a:Addr):l8 F z a->M0 T z.W z.U z.s.heap a v->Gv F z v (.ref a)
theorem Fs.give (f:Fs F z m Y) (o:i4 T z.W z.U z.s c7 d7 s') {v:V} {w:Value} (hv:C4 T z.W d7 s'.heap v w) (hf:G1 T z.W z.s d7 c7 s'.heap v w) {G:Prop} (k:∀W',Fs F ⟨W',z.own,d7,s'⟩ m c7->Gv F ⟨W',z.own,d7,s'⟩ v w->G):G:=by
 cases e:made v with
 |false=>exact k _ (f.step o) (.plain w e hv)
 |true=>induction hf e with|mk a W' n g ha r q=>exact k W' (f.grow o g r) (.own a (f.loose n ha) q)
theorem Fs.freeze (f:Fs F z m Y) {v v':V} {w:Value} (g:Gv F z v w) (e:freeze v=some v') {G:Prop} (k:∀W',Fs F ⟨W',z.own,z.U,z.s⟩ m Y->solid v'=true->eK T W' z.U z.s.heap v' w->G):G:=by
 induction g with
 |plain _ _ hv=>exact k _ f (C1 e hv).1 (C1 e hv).2
 |own a l q=>induction q with
  |l xs ws l1 r=>cases e;exact k _ (f.drop l) rfl (.je _ xs ws a rfl rfl l1 (l.yH f) (r.ms tF))
  |d kvs d=>cases e;exact match d with|⟨kws,hd,hs,e,r⟩=>k _ (f.drop l) rfl (.my _ kvs a kws rfl rfl hd hs (l.yH f) e (r.ms tF))
theorem Fs.keep (f:Fs F z m Y) {v:V} {w:Value} (x:Nat) (g:Gv F z v w) (e:made v=true) {G:Prop} (k:∀C0,Fs F ⟨z.W,C0,z.U,z.s⟩ m Y->FV T z.W z.U z.s.heap C0 x v w->G):G:=by
 induction g with
 |plain _ h _=>exact Bool.noConfusion (h.symm.trans e)
 |own a l q=>induction q with
  |l xs ws l1 r=>exact k _ (f.more l) (.ml xs ws a (.head _) l1 r)
  |d kvs d=>exact k _ (f.more l) (.md kvs a (.head _) d)
noncomputable abbrev Fx.hold (F:Fx T) (H:List (Addr×Obj×Bool)) (Hv:List (V×Value)):Fx T:=⟨F.A,F.env,F.W0,F.Z4,F.s0,H++F.H,Hv++F.Hv⟩
theorem Fs.holds (f:Fs F z m Y) {H:List (Addr×Obj×Bool)} {Hv:List (V×Value)} (ho:∀a o b,(a,o,b)∈H->sC F z a o b) (hv:∀v w,(v,w)∈Hv->KJ F z v w):Fs (F.hold H Hv) z m Y:=
 ⟨f.cx,⟨f.st.v5,f.st.inj,f.st.aR,f.st.O3,f.st.cB,f.st.aw,f.st.old⟩,f.out,⟨fun a o b q=>have x:=(OG q).elim (ho a o b) (f.hd.objs a o b);⟨x.at_,x.nm,x.nn,x.nc,x.own,x.nb⟩,fun v w q=>have x:=(OG q).elim (hv v w) (f.hd.vals v w);⟨x.g,x.r⟩⟩⟩
theorem Fs.y7 {H:List (Addr×Obj×Bool)} {Hv:List (V×Value)} (f:Fs (F.hold H Hv) z m Y):Fs F z m Y:=
 ⟨f.cx,⟨f.st.v5,f.st.inj,f.st.aR,f.st.O3,f.st.cB,f.st.aw,f.st.old⟩,f.out,⟨fun a o b q=>have x:=f.hd.objs a o b (Ob _ q);⟨x.at_,x.nm,x.nn,x.nc,x.own,x.nb⟩,fun v w q=>have x:=f.hd.vals v w (Ob _ q);⟨x.g,x.r⟩⟩⟩
theorem l8.EF {a:Addr} {o:Obj} (l:l8 F z a) (f:Fs F z m Y) (e:z.s.heap.get? a=some o):sC F z a o true:=⟨e,(f.cx.rel.o5.own a l.C8).nm,l.NT,l.cell,fun J=>l.C8,fun q=>nomatch q⟩
theorem Fs.MW (f:Fs F z m Y) {a:Addr} {o:Obj} (nb:¬k9 T z.W z.U a) (e:z.s.heap.get? a=some o):sC F z a o false:=
 ⟨e,fun q=>nb q.bad,fun y q=>nb (.inr (.inr (.inl (f.cx.fr.own y a q)))),fun y q=>nb (.inr (.inr (.inl (f.st.aw y a q)))),nofun,fun J=>nb⟩
theorem Fs.kv {Q:Value->Shared->Prop} (f:Fs F z m Y) (o:i4 T z.W z.U z.s c7 d7 s') {v:V} {w:Value} (hv:C4 T z.W d7 s'.heap v w) (hf:G1 T z.W z.s d7 c7 s'.heap v w) (k:KV T F.W0 F.Z4 F.s0 Q v c7):Q w s':=
 have v5:=f.st.v5
 k _ _ d7 (i4.under v5 f.out o) (VR.mv (v5.ms _) (fun a J J q=>⟨fun y=>q (y.imp id fun y=>y.imp (v5.l6 a) id),id⟩) hv) fun e=>match hf e with
  |⟨a,W',n,g,ha,r,q⟩=>
   have i2:In ⟨F.W0.l6,W'.own⟩ W' F.s0:=⟨fun a q=>g.l6▸v5.l6 a q,fun J q=>q,fun a q=>v5.gu a (g.l6▸q),fun J q=>.inl q⟩
   ⟨a,⟨F.W0.l6,W'.own⟩,f.out.ext.since n,⟨rfl,fun a q=>g.own a (v5.own a q),fun a q=>(g.C0 a q).elim (v5.C0 a) fun q=>.inr (f.out.ext.since q)⟩,ha,r.shrink i2,q.mv (i2.ms _) fun J e=>e⟩
theorem Fs.xv {E:Value->Shared->Prop} (f:Fs F z m Y) {t:Txt} (h:XF F E t c7):XV T z.W z.U z.s E t c7:=fun e s' d7 o q=>
 h e s' d7 z.W f.st.v5 f.cx.fr.Y1 (f.cx.fr.ns.elim fun g hn=>(H6 hn).elim fun ob k=>(o.ext.slots _ f.cx.fr.Y1 ob k.1).elim fun sl e=>⟨_,e,k.2⟩) (i4.under f.st.v5 f.out o) (q.LD (fun J=>f.out.ext.since) s8.refl)
theorem Fs.eval {α:Type} {K:α->Hp->Prop} {Q E:Value->Shared->Prop} (hr:g7 T n r.ev) (rm:N6 F.A n) (f:Fs F z m Y) {x:X} {e':Ex} {g:V->Hp->R α} (t:Tr T F.env.kindOf x e') (h:((r.ev m x Y).bind g).c4 K (XF F E))
 (k:∀v c9 w c5 c8,i4 T z.W z.U z.s c9 c8 c5->C4 T z.W c8 c5.heap v w->G1 T z.W z.s c8 c9 c5.heap v w->(g v c9).c4 K (XF F E)->Q w c5):wpAny (model T.prog T.w) F.A (PySem.eval e' F.env) Q E z.s:=
 hr (f.mz rm) t (R.c4.mono (R.d5.mp h) (fun v c9 q w c5 c8 o hv hf=>k v c9 w c5 c8 o hv hf q) fun J J x=>f.xv x)
theorem Fs.test {α:Type} {K:α->Hp->Prop} {Q:Bool->Shared->Prop} {E:Value->Shared->Prop} (ht:D5 T n r.tr) (rm:N6 F.A n) (f:Fs F z m Y) {x:X} {e':Ex} {g:Bool->Hp->R α} (t:Tr T F.env.kindOf x e') (h:((r.tr m x Y).bind g).c4 K (XF F E))
 (k:∀b c9 c5 c8,i4 T z.W z.U z.s c9 c8 c5->(g b c9).c4 K (XF F E)->Q b c5):wpAny (model T.prog T.w) F.A (isTrue e' F.env (PySem.eval e' F.env)) Q E z.s:=
 ht (f.mz rm) t (R.c4.mono (R.d5.mp h) (fun b c9 q c5 c8 o=>k b c9 c5 c8 o q) fun J J x=>f.xv x)
end
section
variable {K:Type} [DecidableEq K] {kws:List (K×Value)} {k q:K} {v:Value}
theorem Bn (n:k≠q):valueAt (kws.map fun kv=>if kv.1=k then(kv.1,v)else kv) q=valueAt kws q:=by
 induction kws with
 |nil=>rfl
 |cons p r ih=>
  rw[List.map_cons,show p=(p.1,p.2)from rfl,i6]
  by_cases e:p.1=k
  ·rw[OB e,i6,OC (e▸n),OC (e▸n),ih]
  ·rw[OC e,i6,ih]
theorem Bo (h:(kws.any fun kv=>decide (kv.1=k))=true):valueAt (kws.map fun kv=>if kv.1=k then(kv.1,v)else kv) k=some v:=by
 induction kws with
 |nil=>cases h
 |cons p r ih=>
  rw[List.map_cons]
  by_cases e:p.1=k
  ·rw[OB e,i6,OB e]
  ·rw[List.any_cons,decide_eq_false e]at h
   rw[OC e,show p=(p.1,p.2)from rfl,i6,OC e]
   exact ih h
theorem Lv (h:¬(kws.any fun kv=>decide (kv.1=k))=true):valueAt (kws++[(k,v)]) q=if k=q then some v else valueAt kws q:=by
 induction kws with
 |nil=>exact i6 ..
 |cons p r ih=>
  rw[List.any_cons,Bool.or_eq_true]at h
  rw[show p=(p.1,p.2)from rfl,List.cons_append,i6,i6,ih fun e=>h (.inr e)]
  by_cases e:p.1=q
  ·rw[OB e,OB e,OC fun z=>h (.inl (decide_eq_true (e.trans z.symm)))]
  ·rw[OC e,OC e]
theorem eP:valueAt (stored kws k v) q=if k=q then some v else valueAt kws q:=by
 unfold stored
 by_cases h:(kws.any fun kv=>decide (kv.1=k))=true
 ·rw[OB h]
  by_cases e:k=q
  ·rw[OB e,←e];exact Bo h
  ·rw[OC e];exact Bn e
 ·rw[OC h];exact Lv h
theorem cT {p:K×Value} (h:p∈stored kws k v):p.1=k∨∃q∈kws,q.1=p.1:=by
 unfold stored at h
 by_cases e:(kws.any fun kv=>decide (kv.1=k))=true
 ·rw[OB e]at h
  obtain⟨q,hq,e⟩:=List.mem_map.mp h
  by_cases hk:q.1=k
  ·rw[OB hk]at e;exact .inl (e▸hk)
  ·rw[OC hk]at e;exact .inr ⟨q,hq,Oh _ e⟩
 ·rw[OC e]at h
  exact(OG h).elim (fun h=>.inr ⟨p,h,rfl⟩) fun h=>.inl (Oh _ (Og h))
end
theorem FU {α:Type} [DecidableEq α] {l:List α}:∀{u:List α},l.Nodup->(∀x,x∈l->x∈u)->l.length≤u.length:=by
 induction l with
 |nil=>exact fun J J=>Nat.zero_le _
 |cons a t ih=>
  intro u hn hs
  obtain⟨h1,h2⟩:=List.nodup_cons.mp hn
  have ha:=hs a (.head _)
  have:=ih (u:=u.erase a) h2 fun x hx=>(List.mem_erase_of_ne (fun e:x=a=>h1 (e▸hx))).mpr (hs x (.tail _ hx))
  rw[List.length_erase_of_mem ha]at this
  exact Oe (Nat.succ_le_succ this) (Nat.le_of_eq (Nat.sub_add_cancel (List.length_pos_of_mem ha)))
variable {X':Txt->Hp->Prop} {w:Value}
section
theorem Q7 {K:Type} [DecidableEq K] {knd:KeyKind T.prog T.w K} {a:Addr} {kws:List (K×Value)} (hd:h.DictOf knd a kws):(kws.map (·.1)).Nodup:=match hd with|⟨_,_,_,_,_,_,_,_,hn⟩=>hn
theorem dR {a:Addr} {kws:List (Str×Value)} (hd:h.DictOf (strKind T.prog T.w) a kws) (hu:∀p∈kws,∃k∈T.univ,p.1=i3 k):kws.length≤T.univ.length:=by
 have:=FU (u:=T.univ.map i3) (Q7 hd) fun x hx=>by
  obtain⟨p,hp,e⟩:=List.mem_map.mp hx
  obtain⟨k,hk,e2⟩:=hu p hp
  exact List.mem_map.mpr ⟨k,hk,e2.symm.trans e⟩
 rwa [Oi,Oi]at this
theorem BN {Y:Hp} {l i:Nat} {o o':O} {G:Prop} (h:(Y.set l o')[i]? =some o) (k:i=l->o=o'->G) (k':i≠l->Y[i]? =some o->G):G:=by
 by_cases e:i=l
 ·subst e
  have hlt:i < Y.length:=by have:=(List.getElem?_eq_some_iff.mp h).1;rwa [List.length_set]at this
  rw[List.getElem?_set_self hlt]at h
  exact k rfl (NX h).symm
 ·rw[List.getElem?_set_ne (Ne.symm e)]at h
  exact k' e h
theorem vj {U:List Addr} (hn:U.Nodup) {i j:Nat} {a:Addr} (h1:U[i]? =some a) (h2:U[j]? =some a):i=j:=
 (List.getElem?_inj (List.getElem?_eq_some_iff.mp h1).1 hn).mp (h1.trans h2.symm)
theorem d9.sY (c:d9 T W U Y h) {a:Addr} (ha:a∈U):a∉T.tabs:=fun q=>by
 obtain⟨i,hi⟩:=kF ha
 have hlt:i < Y.length:=c.len▸(List.getElem?_eq_some_iff.mp hi).1
 have g:=c.objs i _ a (Ol hlt) hi
 revert g
 induction c.tabs a q with
 |mk ps e t r=>induction Y[i]with
  |list xs=>exact fun g=>match g with|⟨_,⟨_,e'⟩,_⟩=>nomatch Oh Obj.data (NX (e.symm.trans e'))
  |map f=>exact fun g=>match g with|⟨_,⟨o,_,_,e',_,d,_⟩,_,_,_⟩=>nomatch (Oh Obj.data (NX (e.symm.trans e'))).trans d
  |dy f=>exact fun g=>match g with|⟨_,⟨o,_,_,e',_,d,_⟩,_,_,_⟩=>nomatch (Oh Obj.data (NX (e.symm.trans e'))).trans d
  |inst c d=>exact fun g=>match g with|⟨_,_,_,_,e'⟩=>nomatch Oh Obj.data (NX (e.symm.trans e'))
  |emp=>exact fun g=>match g with|⟨_,_,e'⟩=>nomatch Oh Obj.data (NX (e.symm.trans e'))
theorem Z6 {l:Nat} {a:Addr} (ha:U[l]? =some a) (hs:Heap.SameBut a h h'):Ms U U (k9 T W U) (k9 T W U) (fun b=>b=a) h h':=⟨fun J J e=>e,fun b ob e q=>(hs.2 b q).trans e,fun b J J q=>.inl (q▸Q1 ha),fun J J J q=>q⟩
theorem i4.Z7 (c:d9 T W U Y s.heap) {l:Nat} {a:Addr} {o':O} {t:Nat} (ha:U[l]? =some a) (hs:Heap.SameBut a s.heap h') (hO:OR T W U h' a o'):i4 T W U s (Y.set l o') U {s with heap:=h',toks:=t}:=
 have hmem:=Q1 ha
 have ms:=Z6 (T:=T) (W:=W) ha hs
 have there:∀b ob,s.heap.get? b=some ob->∃ob',h'.get? b=some ob':=fun b ob e=>Classical.byCases (fun q:b=a=>q▸hO.there) fun q=>⟨ob,ms.off b ob e q⟩
 {ext:=⟨fun J J e=>e,fun J q=>.inl q,fun b ob e q=>ms.off b ob e fun z=>q (.inl (z▸hmem)),there,fun b hb ob e=>⟨ob.slots,ms.off b ob e fun z=>(c.o5.l6 b hb).nr (z▸hmem)⟩,rfl,rfl,rfl⟩
  rel:={
   len:=(List.length_set ..).symm▸c.len
   nodup:=c.nodup
   objs:=fun i ob b h1 h2=>BN h1 (fun e e'=>by subst e;subst e';exact(NX (ha.symm.trans h2))▸hO) fun ne h1=>OR.ms ms (ms.off.at fun z=>ne (vj c.nodup h2 (z▸ha))) (c.objs i ob b h1 h2)
   base:=fun b ob e=>ms.off b ob (c.base b ob e) fun z=>d0 (c.fresh a (.inl hmem)) (z▸e)
   fresh:=c.fresh
   o5:=c.o5.keeps there
   tabs:=fun P hP=>(c.tabs P hP).move ms.off (fun z=>c.sY hmem (z▸hP)) ms.sb ms.bb}}
theorem xy {f:Txt->Option V} {kws:List (Str×Value)} {k:Txt} {v:V} {w:Value} {bad:Addr->Prop} (r:∀k,B0 T U bad h (f k) (valueAt kws (i3 k))) (g:solid v=true) (hv:VS T U bad h v w) (q:Txt):B0 T U bad h (t9 f k (some v) q) (valueAt (stored kws (i3 k) w) (i3 q)):=by
 rw[eP]
 show B0 T U bad h (bif r5 k q then some v else f q) _
 rw[D1]
 by_cases e:i3 k=i3 q
 ·rw[OB e,decide_eq_true e];exact .some v w g hv
 ·rw[OC e,decide_eq_false e];exact r q
theorem tu {a:Addr} {f:Txt->Option V} {kws:List (Str×Value)} {k:Txt} {v:V} {w:Value} (hd:h.DictOf (strKind T.prog T.w) a (stored kws (i3 k) w)) (hs:(a == sysModules)=false) (r:∀k,B0 T U (k9 T W U) h (f k) (valueAt kws (i3 k))) (h3:∀p∈kws,∃k∈T.univ,p.1=i3 k)
 (hk:T.univ.any (r5 k)=true) (g:solid v=true) (hv:eK T W U h v w):Ie T W U h a (t9 f k (some v)):=
 ⟨_,hd,hs,xy r g hv,fun p hp=>(cT hp).elim (fun e=>match List.any_eq_true.mp hk with|⟨u,hu,e2⟩=>⟨u,hu,e.trans (Oh i3 (D0.mp e2))⟩) fun⟨q,hq,e⟩=>e▸h3 q hq⟩
theorem zw (prog:Program) (w:World) (NT:Str) (v:Value):v.isStr NT=(strKind prog w).is NT v:=by induction v<;>rfl
variable {Q:Unit->Shared->Prop}
section
variable {l:Nat} {a:Addr} {K:Unit->Hp->Prop} (tk:E4 T P) (c:d9 T W U Y s.heap) (ha:U[l]? =some a) (g:solid v=true) (hv:eK T W U s.heap v w) (k:∀c7 s',K () c7->i4 T W U s c7 U s'->Q () s')
include tk c ha g hv k
theorem iR {f:Txt->Option V} {key:Txt} {t:Tok} (q:Ie T W U s.heap a f) (h:(jV P l f key v Y).c4 K X'):wpAny (model T.prog T.w) A (setItem (.ref a) (.str (i3 key) t) w) Q E s:=match q with
 |⟨kws,hd,hs,r,u⟩=>q8 h fun hu h=>wpAny_setItem_pairs (hsz:=bp (Oe (dR hd u) tk.small)) (isStrOf_self (i3 key) t) hd fun h' hd' hs'=>
  have ms:=Z6 (T:=T) (W:=W) ha hs'
  k _ _ h (i4.Z7 (o':=.map (t9 f key (some v))) c ha hs' (tu hd' hs (fun k=>(r k).ms ms) u (tk.fx▸hu) g (hv.ms ms)))
theorem fi {kvs:List (Int×V)} {key:Int} {t:Tok} {kws:List (Int×Value)} (hd:s.heap.DictOf (intKind T.prog T.w) a kws) (hs:(a == sysModules)=false) (q:J9 T U (k9 T W U) s.heap id kvs kws) (hz:kws.length≤1000) (h:K () (Y.set l (.dy (FI kvs key v)))):
 wpAny (model T.prog T.w) A (setItem (.ref a) (.int key t) w) Q E s:=
 wpAny_setItem_pairs (knd:=intKind T.prog T.w) (k:=key) (hsz:=bp hz) (isInt_self key t) hd fun h' hd' hs'=>
  have ms:=Z6 (T:=T) (W:=W) ha hs'
  have q':=(q.ms ms).set (eq:=Iu) ll (k:=key) g (hv.ms ms)
  k _ _ h (i4.Z7 (o':=.dy (FI kvs key v)) c ha hs' ⟨_,hd',hs,q'.e,q'.r⟩)
theorem BP {o:O} {i:V} {wi:Value} (hi:C4 T W U s.heap i wi) (q:OR T W U s.heap a o) (h:(IQ P l i v o Y).c4 K X'):wpAny (model T.prog T.w) A (setItem (.ref a) wi w) Q E s:=
 w7 h (fun h=>a9 h fun f ef h=>a9 h fun key ek h=>n8 hi ek fun t J=>by
  rw[H5 ef]at q
  exact iR tk c ha g hv k q h) fun h=>
 w7 h (fun h=>a9 h fun f ef h=>a9 h fun key ek h=>q8 h fun hz h=>u6 hi ek fun t=>by
  rw[fG ef]at q
  exact match q with|⟨kws,hd,hs,e,r⟩=>fi tk c ha g hv k hd hs ⟨e,r⟩ (by rw[←Oi (f:=Prod.fst),e,Oi];exact NY hz) h) fun h=>
 a9 h fun J ef h=>by
  rw[W8 ef]at q
  exact match q with
   |⟨n,hs,e⟩=>w7 h (fun h=>a9 h fun key ek h=>n8 hi ek fun t J=>iR tk c ha g hv k ⟨[],v3 _ e,hs,fun J=>.none,fun J q=>nomatch q⟩ h) (fun h=>a9 h fun key ek h=>u6 hi ek fun t=>fi tk c ha g hv k (v3 (intKind T.prog T.w) e) hs .nil (Nat.zero_le _) h)
end
theorem qx (tk:E4 T P) (c:d9 T W U Y s.heap) {o i v:V} {wo wi w:Value} {K:Unit->Hp->Prop} {X':Txt->Hp->Prop} (ho:C4 T W U s.heap o wo) (hi:C4 T W U s.heap i wi) (g:solid v=true) (hv:eK T W U s.heap v w)
 (h:(S7 P o i v Y).c4 K X') (k:∀c7 s',K () c7->i4 T W U s c7 U s'->Q () s'):wpAny (model T.prog T.w) A (setItem wo wi w) Q E s:=
 a9 h fun l el h=>a9 h fun ob eo h=>A8 ho el fun a ha=>c.at eo fun a' ha' q=>BP tk c ha g hv k hi (NX (ha'.symm.trans ha)▸q) h
end
theorem qp {K:Type} [DecidableEq K] {kvs:List (K×Value)} {k:K} {v:Value} (h:(kvs.any fun kv=>decide (kv.1=k))=true):stored kvs k v=kvs.map fun kv=>if kv.1=k then(kv.1,v)else kv:=OB h
theorem qq {K:Type} [DecidableEq K] {kvs:List (K×Value)} {k:K} {v:Value} (h:k∉kvs.map (·.1)):stored kvs k v=kvs++[(k,v)]:=OC fun e=>match List.any_eq_true.mp e with|⟨kv,hkv,he⟩=>h (List.mem_map.mpr ⟨kv,hkv,NZ he⟩)
theorem fU (xs:Array Value) (n:Nat) (f:Array Value->Array Value) (sl:Array (Option Value)):∃k,Obj.mapSeq f {cls:=.type "list",dict:=none,data:=.seq xs n,slots:=sl}={cls:=.type "list",dict:=none,data:=.seq (f xs) k,slots:=sl}:=⟨_,rfl⟩
section
variable {Q:Unit->Shared->Prop}
theorem kJ {l:Addr} {xs:List Value} {k:Int} {t:Tok} {v:Value} (hl:R6 s.heap l xs) (h0:0≤k) (hfit:k < 2 ^ 63) (hn:k < xs.toArray.size)
 (hQ:∀h',R6 h' l (xs.set k.toNat v)->Heap.SameBut l s.heap h'->Q () {s with heap:=h'}):wpAny (model T.prog T.w) A (setItem (.ref l) (.int k t) v) Q E s:=by
 obtain⟨ne,ho⟩:=id hl
 have ht:=hl.list.typeIs
 unfold setItem
 try with_reducible refine Oo ?_
 first|refine NU (NW ?_)|skip
 refine NU (wpAny_sequenceKey ht (by decide) ?_)
 refine NU (wpAny_callSpecial?_slot (name:=Str.ofString "__setitem__") ht slot_list_setitem (wpAny_call_entry slot_list_setitem ht entry_list_setitem ?_ (args_list_setitem _ _ _)))
 show wpAny _ _ (Builtin.List.listSubscript? (.int k t) >>= _) _ _ s
 refine NU (wpAny_listSubscript_int (fitsIndex_of h0 hfit) ?_)
 clear hfit
 obtain⟨j,rfl⟩:=Int.eq_ofNat_of_zero_le h0
 have hj:j < xs.toArray.size:=Int.ofNat_lt.mp hn
 show wpAny _ _ ((seqItemAt l j >>= fun r=>pure (r.map (j,·))) >>= _) _ _ s
 refine NU (NU (wpAny_seqItemAt ho rfl (NW ?_)))
 rw[Array.getElem?_eq_getElem hj]
 show wpAny _ _ (setSeqItemAt l j v >>= _) _ _ s
 obtain⟨i,e⟩:=fU xs.toArray ne (·.setIfInBounds j v) #[]
 have U1:R6 (s.heap.update l (Obj.mapSeq (·.setIfInBounds j v))) l (xs.set j v):=⟨i,(Heap.get?_update_self _ ho (Oh Obj.isFreed e)).trans (Oh some (e.trans (Oh (fun x=>({cls:=.type "list",data:=.seq x i}:Obj)) (List.setIfInBounds_toArray ..))))⟩
 exact NU (wpAny_setSeqItemAt ho rfl (NU (NW (NW ⟨.none,rfl,NW (hQ _ U1 (Heap.SameBut.update ..))⟩))))
theorem oa {l:Addr} {xs:List Value} {k:Nat} {t:Tok} {v:Value} (hl:R6 s.heap l xs) (hfit:k≤1000) (hn:k < xs.length) (hQ:∀h',R6 h' l (xs.set k v)->Heap.SameBut l s.heap h'->Q () {s with heap:=h'}):wpAny (model T.prog T.w) A (setItem (.ref l) (.int (Int.ofNat k) t) v) Q E s:=
 have h0:(k:Int) < 2 ^ 63:=Int.ofNat_lt.mpr (Ot hfit (by decide))
 kJ hl (Ov k) h0 (Int.ofNat_lt.mpr hn) hQ
structure NH (T:i7) (h:Heap) (d:Addr) (o:Obj) (kvs:List (Str×Value)) (NT:Str) (t:Tok) (v:Value) (es:Array DictEntry) (n:Nat) (es':Array DictEntry) (n':Nat):Prop where
 dict:(h.update d (Obj.putName NT (PyData.keyHash T.w.params NT) (.str NT t) v)).DictOf (strKind T.prog T.w) d (stored kvs NT v)
 dat:o.data=.dict es n
 size:es.size=kvs.length
 noRef:(!es.any (·.key.isStr NT)&&es.any (·.refKey))=false
 at_:(h.update d (Obj.putName NT (PyData.keyHash T.w.params NT) (.str NT t) v)).get? d=some (Obj.putName NT (PyData.keyHash T.w.params NT) (.str NT t) v o)
 Ki:(Obj.putName NT (PyData.keyHash T.w.params NT) (.str NT t) v o).data=.dict es' n'
 grow:es'.size≤es.size+1
theorem nJ {d:Addr} {o:Obj} {kvs:List (Str×Value)} {NT:Str} {t:Tok} {v:Value} (hd:h.DictOf (strKind T.prog T.w) d kvs) (ho:h.get? d=some o):∃es n es' n',NH T h d o kvs NT t v es n es' n':=by
 obtain⟨o',es,ep,ho',hc,hdat,hk,hp,hn⟩:=hd
 cases ho.symm.trans ho'
 have hidx:(es.findIdx? fun e=>(strKind T.prog T.w).is NT e.key)=kvs.findIdx? fun kv=>decide (kv.1=NT):=by
  rw[←hp.findIdx NT];obtain⟨l⟩:=es;exact List.findIdx?_toArray ..
 have hf:(fun e:DictEntry=>e.key.isStr NT)=fun e=>(strKind T.prog T.w).is NT e.key:=funext fun e=>zw _ _ _ _
 have hsz:es.size=kvs.length:=hp.length.symm▸Array.length_toList.symm
 have hnr:(!es.any (·.key.isStr NT)&&es.any (·.refKey))=false:=by rw[←Array.any_toList (p:=fun e:DictEntry=>e.refKey),cU hp,Bool.and_false]
 obtain⟨c,dd,dt,sl⟩:=o
 dsimp only at hdat
 subst hdat
 have hkey:(strKind T.prog T.w).is NT (.str NT t)=true:=isStrOf_self NT t
 induction hi:es.findIdx? fun e=>(strKind T.prog T.w).is NT e.key with
 |some i=>
  have e1:Obj.putName NT (PyData.keyHash T.w.params NT) (.str NT t) v ⟨c,dd,.dict es ep,sl⟩=⟨c,dd,.dict (es.modify i fun e=>{e with val:=v}) ep,sl⟩:=by rw[Obj.putName_eq];unfold Obj.putNameByArray;dsimp only;rw[hf,hi]
  have h1:=(Heap.get?_update_self (Obj.putName NT (PyData.keyHash T.w.params NT) (.str NT t) v) ho (e1▸rfl))
  have hst:=qp (v:=v) (any_of_findIdx_some (hidx▸hi))
  refine⟨es,ep,_,ep,⟨_,_,ep,h1.trans (Oh some e1),hc,rfl,hk.modify _ _,?_,?_⟩,rfl,hsz,hnr,h1,Oh Obj.data e1,Oe (Nat.le_of_eq Array.size_modify) (Nat.le_succ _)⟩
  ·rw[hst]
   have hl:(es.toList.findIdx? fun e=>(strKind T.prog T.w).is NT e.key)=some i:=by rw[←hi];obtain⟨l⟩:=es;exact(List.findIdx?_toArray ..).symm
   have:=hp.modify hn hl v
   obtain⟨l⟩:=es
   rw[List.modify_toArray];exact this
  ·rw[hst,keys_map_store];exact hn
 |none=>
  have e1:Obj.putName NT (PyData.keyHash T.w.params NT) (.str NT t) v ⟨c,dd,.dict es ep,sl⟩=⟨c,dd,.dict (es.push ⟨PyData.keyHash T.w.params NT,.str NT t,v⟩) (ep+1),sl⟩:=by rw[Obj.putName_eq];unfold Obj.putNameByArray;dsimp only;rw[hf,hi]
  have h1:=(Heap.get?_update_self (Obj.putName NT (PyData.keyHash T.w.params NT) (.str NT t) v) ho (e1▸rfl))
  have hnot:NT∉kvs.map (·.1):=not_mem_of_findIdx_none (hidx▸hi)
  have hst:=qq (v:=v) hnot
  refine⟨es,ep,_,ep+1,⟨_,_,ep+1,h1.trans (Oh some e1),hc,rfl,hk.push hkey _,?_,?_⟩,rfl,hsz,hnr,h1,Oh Obj.data e1,Nat.le_of_eq (Array.size_push ..)⟩
  ·rw[hst,Array.toList_push]
   exact hp.append hkey (PyData.keyHash T.w.params NT) v
  ·rw[hst,List.map_append,List.nodup_append]
   exact⟨hn,List.nodup_cons.mpr ⟨nofun,List.nodup_nil⟩,fun a ha b hb e=>hnot ((show a=NT from e.trans (Og hb))▸ha)⟩
theorem Z8 {C a dx:Addr} {kvs:List (Str×Value)} {NT:Str} {v:Value} (X:T.K.In s.heap) (hf:AV T NT C) (ha:s.heap.get? a=some ⟨.ref C,some dx,.plain,#[]⟩) (hd:s.heap.DictOf (strKind T.prog T.w) dx kvs) (hz:kvs.length≤1000)
 (h:∀h' t,h'.DictOf (strKind T.prog T.w) dx (stored kvs NT v)->Heap.SameBut dx s.heap h'->Q () {s with heap:=h',toks:=t}):wpAny (model T.prog T.w) A (setAttr (.ref a) NT v) Q E s:=by
 obtain⟨od,hod⟩:=l9 hd
 have I:InstAt s.heap a ⟨.ref C,some dx,.plain,#[]⟩ C (some od):=⟨ha,rfl,rfl,hod⟩
 refine set_plain X I hf.s ?_
 refine osa_open (s:={s with toks:=s.toks+1}) X I hf.o hf.t fun b=>?_
 obtain⟨cd,hc,hd'⟩:=any_some hf.d
 have X':T.K.In ({s with toks:=s.toks+1}:Shared).heap:=X
 obtain⟨es,n,es',n',p⟩:=nJ (NT:=NT) (t:=s.toks+1) (v:=v) hd hod
 refine NU (NW (NU (NU (wpAny_loadPart ha (NU ((looks_clsIn X' hc).here ?_))))))
 rw[hd']
 refine NW (a:=some dx) (NU (NW (NU ?_)))
 unfold nsSet
 refine NU (NU (wpAny_askSetting (NW (NU (wpAny_mkText (NU (wpAny_loadPart hod ?_)))))))
 rw[p.dat]
 dsimp only
 rw[aRefKeyMayBeTheName_at,p.noRef]
 refine wpAny_updatePart hod ?_
 refine NU (wpAny_lookBehind p.at_ (by rw[p.Ki];exact pastItsLine_dict (Oe p.grow (by rw[p.size,sizeLine_eq];exact Oe (Nat.succ_le_succ hz) (by decide)))) ?_)
 exact NW (h _ _ p.dict (Heap.SameBut.update ..))
theorem nu (tk:E4 T P) (c:d9 T W U Y s.heap) {o v:V} {wo w:Value} {a:Nat} {K:Unit->Hp->Prop} {X':Txt->Hp->Prop} (ho:C4 T W U s.heap o wo) (hf:T.nm a∈T.SF) (g:solid v=true) (hv:eK T W U s.heap v w)
 (h:(fj P o a v Y).c4 K X') (k:∀c7 s',K () c7->i4 T W U s c7 U s'->Q () s'):wpAny (model T.prog T.w) A (setAttr wo (T.nm a) w) Q E s:=
 a9 h fun q eq h=>a9 h fun nm en h=>q8 h fun hu h=>gj c ho eq fun ad hf' i=>match i with
  |⟨k',C,dx,hC,hob,hdx,⟨kws,hd,hs,r,u⟩⟩=>Z8 (k7 tk c) (tk.sf _ hf k' C hC) hob hd (Oe (dR hd u) tk.small) fun h' t hd' hs'=>
   have ms:=Z6 (T:=T) (W:=W) hdx hs'
   k _ _ h (i4.Z7 (o':=.map (t9 q.2 nm (some v))) c hdx hs' (tu (tk.Ld a nm en▸hd') hs (fun k=>(r k).ms ms) u (tk.fx▸hu) g (hv.ms ms)))
end
inductive pR (T:i7) (kd:Kd):Mine.T->Ex->Prop
 |NT (x:Nat) (p:Pos):s6 T kd x->pR T kd (.NT x) (.Name (T.nm x) p)
 |B3 (x:Nat) (p:Pos):s6 T kd x->pR T kd (.B3 x) (.Name (T.nm x) p)
 |attr (o:X) (a:Nat) (o':Ex) (p:Pos):Tr T kd o o'->T.nm a∈T.SF->pR T kd (.attr o a) (.Attribute o' (T.nm a) p)
 |item (o i:X) (o' i':Ex) (p:Pos):Tr T kd o o'->Tr T kd i i'->pR T kd (.item o i) (.Subscript o' i' p)
 |Y6 (x:Nat) (i:X) (o' i':Ex) (p:Pos):Tr T kd (.NT x) o'->Tr T kd i i'->pR T kd (.Y6 x i) (.Subscript o' i' p)
@[elab_as_elim] theorem nZ {v u:V} {G:V->Prop} (e:tw v=some u) (k:made v=true->G v):G u:=by
 cases v<;>first|exact ns e|(cases e;exact k rfl)
section
variable {x:Nat}
@[elab_as_elim] theorem FV.fP {xs:List V} {G:Value->Prop} (f:FV T W U h own x (.g6 xs) w) (k:∀ws a,(x,a)∈own->R6 h a ws->E3 T W U h xs ws->G (.ref a)):G w:=by
 cases f with
 |ml _ ws a o l r=>exact k ws a o l r
 |pl _ _ g=>exact Bool.noConfusion g
@[elab_as_elim] theorem FV.yR {kvs:List (Txt×V)} {G:Value->Prop} (f:FV T W U h own x (.E1 kvs) w) (k:∀a,(x,a)∈own->V2 T U (k9 T W U) h kvs a->G (.ref a)):G w:=by
 cases f with
 |md _ a o q=>exact k a o q
 |pl _ _ g=>exact Bool.noConfusion g
structure sA (T:i7) (W:r9) (U:List Addr) (h:Heap) (own:List (Nat×Addr)) (x c:Nat) (at_:Fr) (C a dx:Addr) (kws:List (Str×Value)):Prop where
 o:(x,a)∈own
 o':(x,dx)∈own
 hC:T.cls c=some C
 ha:h.get? a=some ⟨.ref C,some dx,.plain,#[]⟩
 hd:h.DictOf (strKind T.prog T.w) dx kws
 r:J9 T U (k9 T W U) h T.nm at_ kws
@[elab_as_elim] theorem FV.Jh {c:Nat} {at_:Fr} {G:Value->Prop} (f:FV T W U h own x (.ct c at_) w) (k:∀C a dx kws,sA T W U h own x c at_ C a dx kws->G (.ref a)):G w:=by
 cases f with
 |mo _ _ C a dx kws o o' hc ha hd r=>exact k C a dx kws ⟨o,o',hc,ha,hd,r⟩
 |pl _ _ g r=>cases r with
  |G3 _ _ r=>cases r
  |je _ _ _ _ e=>exact ns e
  |my _ _ _ _ e=>exact ns e
theorem FV.loc {v:V} {i:Nat} (f:FV T W U h own x v w) (e:L5 v=some i):C4 T W U h v w:=by
 rw[U9 e]at f⊢
 cases f with|pl _ _ _ r=>exact .mk _ _ r
theorem sA.ne {c:Nat} {at_:Fr} {C a dx:Addr} {kws:List (Str×Value)} (q:sA T W U h own x c at_ C a dx kws):a≠dx:=fun y=>match q.hd with
 |⟨o,es,ep,e1,_,e2,_⟩=>nomatch (Oh Obj.data (NX ((show h.get? dx=some ⟨.ref C,some dx,.plain,#[]⟩from y▸q.ha).symm.trans e1))).trans e2
end
section
variable {Q:Unit->Shared->Prop} {K:Fr->Hp->Prop}
theorem fc (tk:E4 T P) (f:Fs F z m Y) {x:Nat} (hs:cP F x) (gv:Gv F z v w) (h:(store P r (.NT x) v m Y).c4 K X') (k:∀m' c7 z',K m' c7->Fs F z' m' c7->Q () z'.s):wpAny (model T.prog T.w) F.A (storeName F.env (T.nm x) w) Q E z.s:=
 a9 h fun v' e h=>f.freeze gv e fun W' f g r=>f.store (z:=⟨W',z.own,z.U,z.s⟩) tk hs g r fun s' f=>k _ _ _ h f
theorem bV (tk:E4 T P) (f:Fs F z m Y) {x:Nat} (hs:cP F x) (gv:Gv F z v w) (h:(store P r (.B3 x) v m Y).c4 K X') (k:∀m' c7 z',K m' c7->Fs F z' m' c7->Q () z'.s):wpAny (model T.prog T.w) F.A (storeName F.env (T.nm x) w) Q E z.s:=
 a9 h fun v' e h=>by
  revert h
  exact nZ e fun hm h=>f.keep x gv hm fun C0 f fv=>f.sQ (z:=⟨z.W,C0,z.U,z.s⟩) tk hs fv fun s' f=>k _ _ _ h f
theorem SameBut.there {a:Addr} {h h':Heap} (x:Heap.SameBut a h h') (t:∃o,h'.get? a=some o):∀b o,h.get? b=some o->∃o',h'.get? b=some o':=fun b o e=>Classical.byCases (fun q:b=a=>q▸t) fun q=>⟨o,(x.2 b q).trans e⟩
theorem SameBut.off {a:Addr} {h h':Heap} (x:Heap.SameBut a h h'):Off (fun b=>b=a) h h':=fun b o e q=>(x.2 b q).trans e
theorem Fs.eS (f:Fs F z m Y) {x:Nat} {v v':V} {w:Value} {a:Addr} {h':Heap} {t:Nat} (hx:d6 m x=some v) (hd:n7 z.W F.env z.s.heap (T.nm x) w) (ho:(x,a)∈z.own) (hs:Heap.SameBut a z.s.heap h') (ht:∃o,h'.get? a=some o)
 (fv:Ms z.U z.U (k9 T z.W z.U) (k9 T z.W z.U) (fun b=>b=a) z.s.heap h'->FV T z.W z.U h' z.own x v' w):Fs F (z.hp h' t) (putN m x v') Y:=
 f.turn (D:=fun b=>b=a) hx (fun b e=>(show b=a from e)▸ho) (SameBut.off hs) (SameBut.there hs ht) fun w' hw ms J=>hd.unique hw▸fv ms
theorem uQ (tk:E4 T P) (f:Fs F z m Y) {x a:Nat} {o v:V} {w wo:Value} (hf:T.nm a∈T.SF) (e:d6 m x=some o) (hd:n7 z.W F.env z.s.heap (T.nm x) wo) (fv:FV T z.W z.U z.s.heap z.own x o wo) (g:solid v=true) (hv:eK T z.W z.U z.s.heap v w) {q:Nat×Fr} (eq:DP o=some q) (hz:q.2.length≤1000)
 (k:∀z',Fs F z' (putN m x (.ct q.1 (putN q.2 a v))) Y->Q () z'.s):wpAny (model T.prog T.w) F.A (setAttr wo (T.nm a) w) Q E z.s:=by
 rw[DO eq]at e fv
 refine FV.Jh (G:=fun wo=>n7 z.W F.env z.s.heap (T.nm x) wo->wpAny (model T.prog T.w) F.A (setAttr wo (T.nm a) w) Q E z.s) fv (fun C ad dx kws q' hd=>?_) hd
 exact Z8 (k7 tk f.cx.rel) (tk.sf _ hf _ C q'.hC) q'.ha q'.hd (by rw[←Oi (f:=Prod.fst),q'.r.e,Oi];exact hz) fun h' t hd' hs'=>k (z.hp h' t) (f.eS e hd q'.o' hs' (l9 hd') fun ms=>
  .mo _ _ C ad dx _ q'.o q'.o' q'.hC ((hs'.2 ad q'.ne).trans q'.ha) hd' ((q'.r.ms ms).set (X1 tk) g (hv.ms ms)))
theorem store_attr (tk:E4 T P) (f:Fs F z m Y) {x a:Nat} {v:V} {w wo:Value} {o:V} (hf:T.nm a∈T.SF) (e:d6 m x=some o) (hd:n7 z.W F.env z.s.heap (T.nm x) wo) (fv:FV T z.W z.U z.s.heap z.own x o wo) (g:solid v=true) (hv:eK T z.W z.U z.s.heap v w)
 (h:(cV ((b8 122 (DP o) Y).bind fun q Y=>bif Nat.ble q.2.length 1000 then .ok (putN m x (.ct q.1 (putN q.2 a v))) Y else .no 122) ((fj P o a v Y).bind fun J Y=>.ok m Y)).c4 K X')
 (k:∀m' c7 z',K m' c7->Fs F z' m' c7->Q () z'.s):wpAny (model T.prog T.w) F.A (setAttr wo (T.nm a) w) Q E z.s:=
 w7 h (fun h=>a9 h fun q eq h=>q8 h fun hz h=>uQ tk f hf e hd fv g hv eq (NY hz) fun z' f=>k _ _ z' h f) fun h=>
  have h:=R.d5.mp h
  a9 h fun q eq J=>a0 eq fun i ei J=>nu tk f.cx.rel (fv.loc ei) hf g hv h fun c7 s' h o=>k m c7 (z.to z.U s') h (f.step o)
theorem z1.set {T:i7} {U:List Addr} {bad:Addr->Prop} {h:Heap} (j:Nat):∀{xs:List V} {ws:List Value},z1 T U bad h xs ws->solid v=true->VS T U bad h v w->z1 T U bad h (xs.set j v) (ws.set j w):=by
 induction j with
 |zero=>exact fun q g a=>by cases q with
  |nil=>exact .nil
  |cons _ _ _ _ _ _ q=>exact .cons _ _ _ _ g a q
 |succ j ih=>exact fun q g a=>by cases q with
  |nil=>exact .nil
  |cons _ _ _ _ g' a' q=>exact .cons _ _ _ _ g' a' (ih q g a)
theorem mY (tk:E4 T P) (f:Fs F z m Y) {x:Nat} {i u v:V} {w wo wi:Value} {o:V} (e:d6 m x=some o) (hd:n7 z.W F.env z.s.heap (T.nm x) wo) (fv:FV T z.W z.U z.s.heap z.own x o wo) (hi:C4 T z.W z.U z.s.heap i wi) (g:solid v=true) (hv:eK T z.W z.U z.s.heap v w)
 (eu:(((sq o).bind fun kvs=>Ef kvs i v).or <|(xb o).bind fun xs=>Ee xs i v)=some u) (k:∀z',Fs F z' (putN m x u) Y->Q () z'.s):wpAny (model T.prog T.w) F.A (setItem wo wi w) Q E z.s:=
 i0 eu (fun eu=>a0 eu fun kvs ek eu=>a0 eu fun key ei eu=>i9 eu fun hz eu=>by
  rw[lS ek]at e fv;subst eu
  refine n8 hi ei fun t J=>FV.yR (G:=fun wo=>n7 z.W F.env z.s.heap (T.nm x) wo->wpAny (model T.prog T.w) F.A (setItem wo (.str (i3 key) t) w) Q E z.s) fv (fun a ho q hd=>q.Ba fun kws d hs r=>?_) hd
  exact wpAny_setItem_pairs (hsz:=bp (by rw[←Oi (f:=Prod.fst),r.e,Oi];exact NY hz)) (isStrOf_self (i3 key) t) d fun h' hd' hs'=>k (z.hp h' _) (f.eS e hd ho hs' (l9 hd') fun ms=>.md _ a ho (((r.ms ms).set D1 g (hv.ms ms)).uf hd' hs))) fun eu=>
 a0 eu fun xs ex eu=>a0 eu fun key ei eu=>d8 eu fun j ej eu=>by
  rw[eD ex]at e fv;subst eu
  refine u6 hi ei fun t=>zr (G:=fun key=>wpAny (model T.prog T.w) F.A (setItem wo (.int key t) w) Q E z.s) ej fun hj hj'=>FV.fP (G:=fun wo=>n7 z.W F.env z.s.heap (T.nm x) wo->wpAny (model T.prog T.w) F.A (setItem wo (.int (Int.ofNat j) t) w) Q E z.s) fv (fun ws a ho l q hd=>?_) hd
  exact oa l hj' (q.length.symm▸hj) fun h' hd' hs'=>k (z.hp h' z.s.toks) (f.eS e hd ho hs' hd'.there fun ms=>.ml _ _ a ho hd' ((q.ms ms).set j g (hv.ms ms)))
theorem FV.step {x:Nat} {o:V} {wo:Value} {c7:Hp} {d7:List Addr} {s':Shared} (f:Fs F z m Y) (fv:FV T z.W z.U z.s.heap z.own x o wo) (k:i4 T z.W z.U z.s c7 d7 s'):FV T z.W d7 s'.heap z.own x o wo:=fv.mv k.ext.ms fun a ha=>k.ext.ownAt f.cx.rel.o5 (f.cx.fr.own x a ha)
theorem n7.step {y:Str} {wo:Value} {c7:Hp} {d7:List Addr} {s':Shared} (f:Fs F z m Y) (hd:n7 z.W F.env z.s.heap y wo) (k:i4 T z.W z.U z.s c7 d7 s'):n7 z.W F.env s'.heap y wo:=hd.mv (fun J q=>q) (fun f' n=>T1 n (k.ext.slots _ f.cx.fr.Y1)) fun a ha=>k.ext.ownAt f.cx.rel.o5 ha
theorem iO (tk:E4 T P) (cn:jQ F) (hr:g7 T n r.ev) (rm:N6 F.A n) (f:Fs F z m Y) {t:Mine.T} {t':Ex} (tt:pR T F.env.kindOf t t') (gv:Gv F z v w) (h:(store P r t v m Y).c4 K (XF F E)) (k:∀m' c7 z',K m' c7->Fs F z' m' c7->Q () z'.s):wpAny (model T.prog T.w) F.A (assign t' F.env w) Q E z.s:=by
 induction tt with
 |NT x p hs=>exact assign_Name (fc tk f (hs.Ko cn) gv h k)
 |B3 x p hs=>exact assign_Name (bV tk f (hs.Ko cn) gv h k)
 |attr o a o' p to hf=>
  rw[arm_assign_Attribute]
  exact a9 h fun x ex h=>a9 h fun v' e h=>a9 h fun ov eo h=>f.freeze gv e fun W' f g hv=>by
   rw[uw ex]at to
   exact NU (Oo (aU (f.mz rm) to eo fun wo hd fv=>NU (Ow (NU (Oo (store_attr tk f hf eo hd fv g hv h fun m' c7 z' h f=>wpAny_release (k m' c7 z' h f)))))))
 |item o i o' i' p to ti=>
  rw[arm_assign_Subscript]
  refine a9 h fun v' e h=>f.freeze gv e fun W' f g hv=>NU (Oo (f.eval hr rm to h fun ov c9 wo c5 c8 w3 vo J h=>NU (Oo ((f.step w3).eval hr rm ti h fun iv n9 wi l3 o7 i8 vi J h=>?_))))
  exact NU (Ow (NU (Oo (qx tk i8.rel (i8.ext.vr vo) vi g (i8.ext.vs (w3.ext.vs hv)) (R.d5.mp h) fun Ea w9 h jZ=>wpAny_release (k _ _ _ h (((f.step w3).step i8).step jZ))))))
 |Y6 x i o' i' p to ti=>
  rw[arm_assign_Subscript]
  refine a9 h fun v' e h=>a9 h fun ov eo h=>f.freeze gv e fun W' f g hv=>NU (Oo (aU (f.mz rm) to eo fun wo hd fv=>NU (Oo (f.eval hr rm ti h fun iv n9 wi l3 o7 i8 vi J h=>?_))))
  have hd:=n7.step f hd i8
  have fv:=FV.step f fv i8
  exact NU (Ow (NU (Oo (a9 h fun u eu h=>mY tk (f.step i8) eo hd fv vi g (i8.ext.vs hv) eu fun z' f=>wpAny_release (k _ _ z' h f)))))
end
structure Tb (e:Addr) (oe:Obj) (h h':Heap) (tt:Addr) (oT:Obj) (ts vs':Array Value):Prop where
 new:h.get? tt=none
 at_:h'.get? tt=some oT
 dat:oT.data=.fields ts
 n3:ts[3]? =some .none
 exc:h'.get? e=some {oe with data:=.fields vs'}
 ref:vs'[1]? =some (.ref tt)
structure Nc (fr:List Addr) (e:Addr) (oe:Obj) (vs:Array Value) (h h':Heap):Prop where
 keep:∀b o,h.get? b=some o->b≠e->vs[1]?≠some (.ref b)->b∉fr->h'.get? b=some o
 there:∀b o,h.get? b=some o->∃o',h'.get? b=some o'
 slots:∀b o,h.get? b=some o->b∈fr->∃sl,h'.get? b=some {o with slots:=sl}
 head:∃tt oT ts vs',Tb e oe h h' tt oT ts vs'
section
variable {M:Model} {Q:Unit->Shared->Prop}
theorem ba {o:Obj} {vs:Array Value} (hd:o.data=.fields vs) (f:Array Value->Array Value):Obj.mapFields f o={o with data:=.fields (f vs)}:=by
 obtain⟨c,d,dt,sl⟩:=o
 cases hd
 rfl
structure Lay (fr:List Addr) (e:Addr) (oe:Obj) (h h':Heap):Prop where
 keep:∀b o,h.get? b=some o->b≠e->b∉fr->h'.get? b=some o
 slots:∀b o,h.get? b=some o->b∈fr->∃sl,h'.get? b=some {o with slots:=sl}
 head:∃tt oT ts vs',Tb e oe h h' tt oT ts vs'
theorem oR {B:Heap} {env:Env} {outer:List Env} {L e:Addr} {oe:Obj} {vs:Array Value} {head:Value} {hadNext:Bool}
 (hfr:A.frames=some (env::outer)) (hl:s.heap.FunFrames B (env::outer)) (hf:env.frame=some L)
 (he:s.heap.get? e=some oe) (hd:oe.data=.fields vs) (hsz:1 < vs.size)
 (h:∀h',Lay ((env::outer).filterMap (·.frame)) e oe s.heap h'->Q () {s with heap:=h'}):
 wpAny M A (do let a←frameOf env;let pl←entryPlaceOf L hadNext;let b←EntryCells.newEntry head a .none (rawInt L) .none pl;setField (.ref e) 1 b) (fun J s'=>wpAny M A (setFlight (.ref e) none) Q E s') E s:=by
 have hne:e∉(env::outer).filterMap (·.frame):=fun hm=>by
  obtain⟨_,o,ho,hnf⟩:=hl.mem hm
  cases he.symm.trans ho;exact hnf vs hd
 refine NU (wpAny_frameOf_fun hfr hl hf fun g hg=>?_)
 refine NU (wpAny_entryPlaceOf fun pl hpl=>?_)
 unfold EntryCells.newEntry newFields
 refine NU (wpAny_newObj_type ?_ (hpl.sizeOk5 _ _ _ _ _))
 have e1:g.get? e=some oe:=(hg.2.1 e hne).trans he
 generalize ho:({cls:=.type "traceback",dict:=none,data:=.fields ([head,.ref L,.none,rawInt L,.none]++(if pl.isEmpty then List.replicate 6 Value.none else pl)).toArray}:Obj)=ob
 have hfreed:ob.isFreed=false:=ho▸rfl
 obtain⟨ws,hws,hw3⟩:∃ws,ob.data=.fields ws∧3 < ws.size:=ho▸⟨_,rfl,by simp only[Ou,List.length_append,List.length_cons,List.length_nil];exact Nat.lt_of_lt_of_le (by decide:3 < 5) (Nat.le_add_right 5 _)⟩
 have e2:(g.push ob).get? e=some oe:=Oc _ e1
 have hT:g.objs.size≠e:=Nat.ne_of_gt (OE e1)
 refine wpAny_setField e2 hd hsz ?_
 have d3:=Obj.data_mapFields hd (·.setIfInBounds 1 (Value.ref g.objs.size))
 have e3:=Heap.get?_update_self (Obj.mapFields (·.setIfInBounds 1 (Value.ref g.objs.size))) e2 (Obj.isFreed_of_fields d3)
 have t3:=(Heap.get?_update_other (g.push ob) (Obj.mapFields (·.setIfInBounds 1 (Value.ref g.objs.size))) (Ne.symm hT)).trans (Od g hfreed)
 unfold setFlight
 refine NU (wpAny_field e3 d3 (x:=.ref g.objs.size) (Array.getElem?_setIfInBounds_self_of_lt hsz) ?_)
 rw[OB (show(Value.ref g.objs.size != Value.none)=true from rfl)]
 refine wpAny_setField t3 hws hw3 (h _ ?_)
 have d4:=Obj.data_mapFields hws (·.setIfInBounds 3 ((none:Option Addr).elim Value.none fun f=>rawInt f))
 have t4:=Heap.get?_update_self (Obj.mapFields (·.setIfInBounds 3 ((none:Option Addr).elim Value.none fun f=>rawInt f))) t3 (Obj.isFreed_of_fields d4)
 have keep:∀b o,b≠e->g.get? b=some o->(((g.push ob).update e (Obj.mapFields (·.setIfInBounds 1 (Value.ref g.objs.size)))).update g.objs.size (Obj.mapFields (·.setIfInBounds 3 ((none:Option Addr).elim Value.none fun f=>rawInt f)))).get? b=some o:=fun b o hbe hb=>
  (Heap.get?_update_other _ _ (Nat.ne_of_gt (OE hb))).trans ((Heap.get?_update_other _ _ (Ne.symm hbe)).trans (Oc _ hb))
 exact⟨fun b o hb hbe hbf=>keep b o hbe ((hg.2.1 b hbf).trans hb),fun b o hb hbf=>(hg.2.2 b o hb).elim fun sl e=>⟨sl,keep b _ (fun q=>hne (q▸hbf)) e⟩,g.objs.size,_,_,vs.setIfInBounds 1 (Value.ref g.objs.size),by rw[hg.1];exact none_at_size _,t4,d4,Array.getElem?_setIfInBounds_self_of_lt hw3,
  by rw[Heap.get?_update_other _ _ hT,e3,ba hd],Array.getElem?_setIfInBounds_self_of_lt hsz⟩
theorem Lay.MS {fr:List Addr} {e:Addr} {oe:Obj} {vs:Array Value} {h h':Heap} (x:Lay fr e oe h h'):Nc fr e oe vs h h':=
 ⟨fun b o hb hbe J hbf=>x.keep b o hb hbe hbf,fun b o hb=>Classical.byCases (fun q:b=e=>match x.head with|⟨_,_,_,_,t⟩=>⟨_,q▸t.exc⟩) fun q=>Classical.byCases (fun q2:b∈fr=>(x.slots b o hb q2).elim fun J k=>⟨_,k⟩) fun q2=>⟨o,x.keep b o hb q q2⟩,x.slots,x.head⟩
theorem Cp {B:Heap} {env:Env} {outer:List Env} {L e:Addr} {oe:Obj} {vs:Array Value} {W:r9} {s0:Shared} (hfr:A.frames=some (env::outer)) (hl:s.heap.FunFrames B (env::outer)) (hf:env.frame=some L)
 (he:s.heap.get? e=some oe) (hd:oe.data=.fields vs) (ht:mn W s0 s.heap e vs[1]?) (h:∀h',Nc ((env::outer).filterMap (·.frame)) e oe vs s.heap h'->Q () {s with heap:=h'}):
 wpAny M A (noteFrame (.ref e) env) (fun J s'=>wpAny M A (setFlight (.ref e) none) Q E s') E s:=by
 unfold noteFrame
 simp only[hf]
 generalize hx:vs[1]? =x at ht
 induction ht with
 |none=>
  refine NU (wpAny_field he hd hx ?_)
  rw[OC (by decide)]
  exact oR hfr hl hf he hd (Array.getElem?_eq_some_iff.mp hx).1 fun h' x=>h h' x.MS
 |some tt oT ts _ hTe _ hT hdT h3=>
  refine NU (wpAny_field he hd hx ?_)
  rw[OB (show(Value.ref tt != Value.none)=true from rfl)]
  refine NU (wpAny_field hT hdT h3 ?_)
  rw[OC (show¬((Value.none == rawInt L)=true)from fun q=>nomatch q)]
  refine NU (wpAny_setField hT hdT (Array.getElem?_eq_some_iff.mp h3).1 ?_)
  have other:∀b,b≠tt->(s.heap.update tt (Obj.mapFields (·.setIfInBounds 3 Value.none))).get? b=s.heap.get? b:=fun b hb=>Heap.get?_update_other _ _ (Ne.symm hb)
  have nT:tt∉(env::outer).filterMap (·.frame):=fun hm=>by
   obtain⟨_,o,ho,hnf⟩:=hl.mem hm
   cases hT.symm.trans ho;exact hnf ts hdT
  have d2:=Obj.data_mapFields hdT (·.setIfInBounds 3 Value.none)
  have t2:=Heap.get?_update_self (Obj.mapFields (·.setIfInBounds 3 Value.none)) hT (Obj.isFreed_of_fields d2)
  refine oR (s:={s with heap:=s.heap.update tt (Obj.mapFields (·.setIfInBounds 3 Value.none))}) (e:=e) (oe:=oe) hfr (hl.of_keeps fun b o hb hnf=>⟨o,(other b fun q=>by subst q;cases hT.symm.trans hb;exact hnf ts hdT).trans hb,rfl⟩) hf ((other e (Ne.symm hTe)).trans he) hd (Array.getElem?_eq_some_iff.mp hx).1 fun h' x=>h h' ?_
  have l:=x.MS (vs:=vs)
  exact⟨fun b o hb hbe hbt hbf=>l.keep b o ((other b fun q=>hbt (q▸hx)).trans hb) hbe hbt hbf,fun b o hb=>Classical.byCases (fun q:b=tt=>q.symm▸l.there tt _ t2) fun q=>l.there b o ((other b q).trans hb),fun b o hb hbf=>l.slots b o ((other b fun q=>nT (q▸hbf)).trans hb) hbf,
   match l.head with|⟨t',oT',ts',vs',k⟩=>⟨t',oT',ts',vs',(other t' fun q=>d0 (show(s.heap.update tt (Obj.mapFields (·.setIfInBounds 3 Value.none))).get? tt=none from q▸k.new) t2).symm.trans k.new,k.at_,k.dat,k.n3,k.exc,k.ref⟩⟩
end
section
variable {E':Value->Shared->Prop} {outer:List Env} {e:Value} {t:Txt}
inductive KG (F:Fx T) (U:List Addr) (s:Shared) (Y:Hp) (t:Txt) (e:Value) (s':Shared):Prop
 |mk (W':r9) (o:i4 T F.W0 F.Z4 F.s0 Y U s') (x:sD T F.W0 F.s0 U Y s'.heap t e) (v5:In F.W0 W' F.s0) (l:F.env.locals∈W'.l6) (r:d9 T W' U Y s'.heap) (x':sD T W' F.s0 U Y s'.heap t e) (sl:∀ob,s.heap.get? F.env.locals=some ob->∃sl,s'.heap.get? F.env.locals=some {ob with slots:=sl})
theorem nQ {A:Around} (v5:In F.W0 W F.s0) (hA:A.frames=some (F.env::outer)) (hB:F.s0.heap.FunFrames T.B outer) (hfr:∀env∈outer,∀L,env.frame=some L->L∈F.W0.l6)
 (hL:F.env.locals∈W.l6) (hk:F.env.scope.kind=.function) (hf:F.env.frame=some F.env.locals) (ht:I0 F.env.locals s.heap) (hLB:T.B.get? F.env.locals=none) (o:i4 T F.W0 F.Z4 F.s0 Y U s) (x:sD T W F.s0 U Y s.heap t e) (h:∀s',KG F U s Y t e s'->E e s'):
 wpAny (model T.prog T.w) A (noteFrame e F.env) (fun J s'=>wpAny (model T.prog T.w) A (setFlight e none) (fun J s''=>E e s'') E' s') E' s:=by
 induction x with
 |mk ea dx W' oe vs kws k g rel ho hn dh dn asc he hcls hdict hdat hd hv tb=>
 have fsAll:s.heap.FunFrames T.B (F.env::outer):=ht.elim fun oL q=>⟨(by rw[hk];decide),⟨F.env.locals,oL,hf,hLB,q.1,q.2⟩,Q3 o.ext.off hB fun env he L hL J ob e hd=>(o.ext.slots L (hfr env he L hL) ob e).elim fun sl e'=>⟨_,e',hd⟩⟩
 have inFrs:∀b,b∈(F.env::outer).filterMap (·.frame)->b∈W'.l6:=fun b hb=>match List.mem_filterMap.mp hb with
  |⟨e1,he1,he2⟩=>g.l6▸(Of he1).elim (fun q=>NX (hf.symm.trans ((show e1=F.env from q)▸he2))▸hL) fun he1=>v5.l6 b (hfr e1 he1 b he2)
 refine Cp hA fsAll hf he hdat tb fun h' x=>?_
 obtain⟨t',oT',ts',vs',tx⟩:=x.head
 let D:Addr->Prop:=fun b=>b=ea∨vs[1]? =some (.ref b)∨b∈(F.env::outer).filterMap (·.frame)
 have tbOwn:∀b,vs[1]? =some (.ref b)->b∈W'.own∧F.s0.heap.get? b=none:=fun b k1=>by
  rw[k1]at tb
  cases tb with|some _ _ _ o _ n=>exact⟨o,n⟩
 have hD:∀b,D b->b∈W'.l6∨(b∈W'.own∧F.s0.heap.get? b=none):=fun b q=>q.elim (fun q=>.inr (q▸⟨ho,hn⟩)) fun q=>q.elim (fun q=>.inr (tbOwn b q)) fun q=>.inl (inFrs b q)
 have T8:Off D s.heap h':=fun b ob e q=>x.keep b ob e (fun k=>q (.inl k)) (fun k=>q (.inr (.inl k))) fun k=>q (.inr (.inr k))
 have rel':d9 T (W'.add [t']) U Y h':=rel.move (S:=D) (fun a q=>(R1 q).elim (fun q=>.inr ((Og q)▸tx.new)) .inl) T8 (fun b q=>(hD b q).imp id (·.1))
  ⟨fun a ha=>(Of ha).elim (fun q=>⟨fun k=>rel.N2 (q▸tx.new) (A6.bad k),q▸⟨_,tx.at_⟩⟩) fun q=>⟨((rel.o5.keeps x.there).own a q).nm,((rel.o5.keeps x.there).own a q).ex⟩,fun a ha=>⟨((rel.o5.keeps x.there).l6 a ha).nr,((rel.o5.keeps x.there).l6 a ha).nt,((rel.o5.keeps x.there).l6 a ha).ex⟩⟩
 have t0:F.s0.heap.get? t'=none:=o.ext.since tx.new
 have inn':In F.W0 (W'.add [t']) F.s0:=⟨fun a ha=>g.l6▸v5.l6 a ha,fun a ha=>Ob _ (g.own a (v5.own a ha)),fun a ha=>v5.gu a (g.l6▸ha),fun a ha=>(Of ha).elim (fun q=>.inr (q▸t0)) fun q=>(g.C0 a q).elim (v5.C0 a) .inr⟩
 have dxD:¬D dx:=fun q=>match hd with
  |⟨o1,es,ep,e1,_,e2,_⟩=>q.elim (fun q=>nomatch hdat.symm.trans ((Oh Obj.data (NX ((q▸he).symm.trans e1))).trans e2)) fun q=>q.elim (fun q=>by
   rw[q]at tb
   cases tb with|some _ oT ts _ _ _ k2 k3=>exact nomatch k3.symm.trans ((Oh Obj.data (NX (k2.symm.trans e1))).trans e2)) fun q=>(rel.o5.own _ dh).nm (.inr (.inl (inFrs dx q)))
 have new:∀a ob,F.s0.heap.get? a=some ob->D a->a∈F.W0.l6:=fun a ob e q=>(hD a q).elim (fun q=>(v5.gu a (g.l6▸q)).elim id fun q=>d0 q e) fun q=>d0 q.2 e
 have tok:∀{Wx:r9},(∀a,a∈(W'.add [t']).own->a∈Wx.own)->mn Wx F.s0 h' ea vs'[1]?:=fun k=>tx.ref.symm▸.some t' oT' ts' (k _ (.head _)) (fun k=>d0 tx.new (k▸he)) t0 tx.at_ tx.dat tx.n3
 have i2:In ⟨F.W0.l6,(W'.add [t']).own⟩ (W'.add [t']) F.s0:=⟨inn'.l6,fun J q=>q,inn'.gu,fun J q=>.inl q⟩
 exact h _ ⟨W'.add [t'],⟨⟨o.ext.pre,o.ext.new,fun a ob e q=>T8 a ob (o.ext.off a ob e q) fun k=>q (.inr (.inl (new a ob e k))),fun a ob e=>(o.ext.there a ob e).elim (x.there a),fun a ha ob e=>(o.ext.slots a ha ob e).elim fun sl e1=>
  Classical.byCases (fun q:a∈(F.env::outer).filterMap (·.frame)=>(x.slots a _ e1 q).elim fun sl' e2=>⟨sl',e2⟩) fun q=>⟨sl,T8 a _ e1 fun k=>k.elim (fun k=>d0 hn (k▸e)) fun k=>k.elim (fun k=>d0 (tbOwn a k).2 e) q⟩,o.ext.gens,o.ext.os,o.ext.drawn⟩,rel'.shrink inn'⟩,
  .mk ea dx ⟨F.W0.l6,(W'.add [t']).own⟩ _ vs' kws k ⟨rfl,inn'.own,inn'.C0⟩ (rel'.shrink i2) (Ob _ ho) hn (Ob _ dh) dn asc tx.exc hcls hdict rfl (B6 hd (T8.at dxD)) hv (tok fun J q=>q),
  inn',g.l6▸hL,rel',.mk ea dx (W'.add [t']) _ vs' kws k s8.refl rel' (Ob _ ho) hn (Ob _ dh) dn asc tx.exc hcls hdict rfl (B6 hd (T8.at dxD)) hv (tok fun J q=>q),fun ob e=>x.slots _ ob e (List.mem_filterMap.mpr ⟨F.env,.head _,hf⟩)⟩
theorem jg {A:Around} (v5:In F.W0 W F.s0) (hA:A.frames=some (F.env::outer)) (hB:F.s0.heap.FunFrames T.B outer) (hfr:∀env∈outer,∀L,env.frame=some L->L∈F.W0.l6)
 (hL:F.env.locals∈W.l6) (hk:F.env.scope.kind=.function) (hf:F.env.frame=some F.env.locals) (ht:I0 F.env.locals s.heap) (hLB:T.B.get? F.env.locals=none) (o:i4 T F.W0 F.Z4 F.s0 Y U s) (x:sD T W F.s0 U Y s.heap t e) (h:XV T F.W0 F.Z4 F.s0 E t Y):
 wpAny (model T.prog T.w) A (leaving F.env e) (fun J s''=>E e s'') E' s:=
 NU (nQ v5 hA hB hfr hL hk hf ht hLB o x fun s' q=>match q with|.mk _ o x _ _ _ _ _=>h _ s' U o x)
end
section
variable {B:List (Str×Value)->(Str->Option Value)->Str->Option Value} {c:Str->Prop} [DecidablePred c] (h0:∀m,B [] m=m) (h1:∀n v r m,B ((n,v)::r) m=B r (if c n then fun y=>if y=n then some v else m y else m))
include h0 h1
theorem wV {y:Str} {bs:List (Str×Value)}:∀{m:Str->Option Value},(∀b,b∈bs->b.1≠y)->B bs m y=m y:=by
 induction bs with
 |nil=>exact fun J=>congrFun (h0 _) y
 |cons b r ih=>
  intro m h
  rw[show b=(b.1,b.2)from rfl,h1,ih fun b hb=>h b (.tail _ hb)]
  by_cases q:c b.1
  ·rw[OB q];exact OC fun e=>h b (.head _) e.symm
  ·rw[OC q]
theorem pA {y:Str} {w:Value} {ns:List Str}:∀{ws:List Value} {m:Str->Option Value} {i:Nat},ns.Nodup->ns[i]? =some y->ws[i]? =some w->c y->B (ns.zip ws) m y=some w:=by
 induction ns with
 |nil=>exact fun J h J J=>nomatch h
 |cons n ns ih=>
  intro ws m i hn e1 e2 hc
  induction ws with
  |nil=>exact nomatch e2
  |cons u ws=>
   rw[List.zip_cons_cons,h1]
   induction i with
   |zero=>
    cases e1;cases e2
    rw[wV h0 h1 (y:=y) fun b hb e=>(List.nodup_cons.mp hn).1 ((show b.1=y from e)▸(List.of_mem_zip (a:=b.1) (b:=b.2) hb).1),OB hc]
    exact OB rfl
   |succ i=>exact ih (List.nodup_cons.mp hn).2 e1 e2 hc
end
theorem Az {kd:Kd} {y:Str} {w:Value} {ns:List Str} {ws:List Value} {m:Str->Option Value} {i:Nat} (hn:ns.Nodup) (e1:ns[i]? =some y) (e2:ws[i]? =some w) (k:kd y=some .local):bindL kd (ns.zip ws) m y=some w:=
 pA (B:=bindL kd) (c:=fun n=>kd n=some .local) (fun J=>rfl) (fun J J J J=>rfl) hn e1 e2 k
theorem AA {kd:Kd} {y:Str} {w:Value} {ns:List Str} {ws:List Value} {m:Str->Option Value} {i:Nat} (hn:ns.Nodup) (e1:ns[i]? =some y) (e2:ws[i]? =some w) (k:kd y≠some .local):bindC kd (ns.zip ws) m y=some w:=
 pA (B:=bindC kd) (c:=fun n=>¬kd n=some .local) (fun J=>rfl) (fun n v r m=>Oh (bindC kd r) (ite_not ..).symm) hn e1 e2 k
theorem iF {y:Str} {c:Addr} {l:List (Str×NameKind)}:∀{n:Nat} {acc:List (Str×Addr)},(y,c)∈acc->(y,c)∈cellsFrom n l acc:=by
 induction l with
 |nil=>exact fun h=>h
 |cons p r ih=>
  intro n acc h
  show _∈if p.2 ==.cell then cellsFrom (n+1) r ((p.1,n)::acc)else cellsFrom n r acc
  by_cases q:(p.2 == NameKind.cell)=true
  ·rw[OB q];exact ih (.tail _ h)
  ·rw[OC q];exact ih h
theorem iE {y:Str} {l:List (Str×NameKind)}:∀{n:Nat} {acc:List (Str×Addr)},(y,NameKind.cell)∈l->∃c,(y,c)∈cellsFrom n l acc:=by
 induction l with
 |nil=>exact fun h=>nomatch h
 |cons p r ih=>
  intro n acc h
  show∃c,_∈if p.2 ==.cell then cellsFrom (n+1) r ((p.1,n)::acc)else cellsFrom n r acc
  by_cases q:(p.2 == NameKind.cell)=true
  ·rw[OB q];exact(Of h).elim (fun e=>⟨n,iF (e▸.head _)⟩) ih
  ·rw[OC q];exact(Of h).elim (fun e=>absurd (e▸rfl) q) ih
theorem DE {y:Str} {c:Addr} {l:List (Str×NameKind)}:∀{n:Nat} {acc:List (Str×Addr)},(y,c)∈cellsFrom n l acc->(y,NameKind.cell)∈l∨(y,c)∈acc:=by
 induction l with
 |nil=>exact .inr
 |cons p r ih=>
  intro n acc h
  have h:_∈if p.2 ==.cell then cellsFrom (n+1) r ((p.1,n)::acc)else cellsFrom n r acc:=h
  by_cases q:(p.2 == NameKind.cell)=true
  ·rw[OB q]at h
   exact(ih h).elim (fun h=>.inl (.tail _ h)) fun h=>(Of h).elim (fun e=>.inl (by rw[(Prod.mk.inj e).1,←beq_iff_eq.mp q];exact .head _)) .inr
  ·rw[OC q]at h;exact(ih h).imp (.tail _) id
theorem Y7 {α:Type} {l:List (Str×α)} {y:Str} {c:α} (h:(y,c)∈l):∃c,l.lookup y=some c:=by
 induction l with
 |nil=>exact nomatch h
 |cons p r ih=>
  induction hb:y == p.1 with
  |true=>exact⟨p.2,by rw[show p=(p.1,p.2)from rfl,List.lookup_cons,hb]⟩
  |false=>exact(Of h).elim (fun e=>by rw[←e,beq_self_eq_true]at hb;exact Bool.noConfusion hb) fun h=>(ih h).imp fun c e=>by rw[show p=(p.1,p.2)from rfl,List.lookup_cons,hb];exact e
theorem jK {l:List (Str×NameKind)} {n:Nat} {y:Str} (h:l.lookup y=some .cell):∃c,(cellsFrom n l []).lookup y=some c:=(iE (n:=n) (acc:=[]) (mem_of_lookup h)).elim fun J hc=>Y7 hc
inductive KH (T:i7) (F:FuncData) (Pt:Addr):Prop
 |mk (t:Pt∈T.tabs) (q:T.zh Pt=F.qualname++(".<locals>.":Str)++("<lambda>":Str)) (c:Addr) (e:F.code=.ref c) (hd:CodeHd T.B c Pt)
structure MI (T:i7) (a:Addr) (fd:Fd) (F:FuncData) (body:List PySem.Stmt) (dv:List Value):Prop where
 look:∃oc od osl,T.K.lookup a=some ⟨oc,od,.func F,osl⟩
 co:F.scope.isCoroutine=false
 gen:F.scope.isGenerator=false
 body:F.body=.stmts body
 kind:F.scope.kind=.function
 glob:F.globals=mainGlobals
 Mo:F.closure=[]
 blt:F.builtins=builtinsNs
 code:codeIn T.K F.code F.qualname=true
 bind:∀(s:Shared) (args:List Value),T.K.In s.heap->args.length≤fd.params.length->fd.params.length - args.length≤fd.dA.length->BindsTo s F ⟨args,[]⟩ ((fd.params.map T.nm).zip (args++dv.drop (fd.dA.length - (fd.params.length - args.length))))
 dA:∀(U:List Addr) (bad:Addr->Prop) (h:Heap),T.B.StaysIn h->(∀a,bad a->T.B.get? a=none)->z1 T U bad h fd.dA dv
 nodup:fd.params.Nodup
 set:∀x,x∈fd.params->s6 T (fun n=>F.scope.names.lookup n) x
 P0:∀x∈F.scope.names,x.2=.cell->F.scope.names.lookup x.1=some .cell
 lam:∀Pt,T.lam (fun n=>F.scope.names.lookup n)=some Pt->KH T F Pt
inductive DX (T:i7) (a:Addr) (fd:Fd) (Tb:Kd->List PySem.Stmt->Prop):Prop
 |mk (F:FuncData) (body:List PySem.Stmt) (dv:List Value) (h:MI T a fd F body dv) (t:Tb (fun n=>F.scope.names.lookup n) body)
noncomputable def JS:Flow->Value
 |.ret v=>v
 |_=>.none
inductive KZ (T:i7) (W:r9) (U:List Addr) (h:Heap) (own:List (Nat×Addr)) (fd:Fd) (ws:List Value) (x:Nat) (v:V):Prop
 |arg (i:Nat) (w:Value) (h1:fd.params[i]? =some x) (h2:ws[i]? =some w) (f:FV T W U h own x v w)
 |dA (i:Nat) (h1:fd.params[ws.length+i]? =some x) (h2:(fd.dA.drop (fd.dA.length - (fd.params.length - ws.length)))[i]? =some v)
section
variable {L:Addr}
noncomputable def r9.enter (W:r9) (L:Addr) (ds:List Addr):r9:=⟨L::W.l6,ds++W.own⟩
structure dq (h h':Heap) (L:Addr) (ds:List Addr):Prop where
 keep:∀a o,h.get? a=some o->h'.get? a=some o
 O3:h.get? L=none
 GA:∃o,h'.get? L=some o
 wh:∀d,d∈ds->h.get? d=none
 Hu:∀d,d∈ds->∃o,h'.get? d=some o
 apart:L∉ds
theorem dq.bad (x:dq h h' L ds) {a:Addr} (q:k9 T (W.enter L ds) U a):k9 T W U a∨h.get? a=none:=
 q.elim (fun q=>.inl (.inl q)) fun q=>q.elim (fun q=>(Of q).elim (fun q=>.inr (q▸x.O3)) fun q=>.inl (.inr (.inl q))) fun q=>q.elim (fun q=>(OG q).elim (fun q=>.inr (x.wh a q)) fun q=>.inl (.inr (.inr (.inl q)))) fun q=>.inl (.inr (.inr (.inr q)))
theorem d9.enter (c:d9 T W U Y h) (x:dq h h' L ds):d9 T (W.enter L ds) U Y h':=
 have nw:∀{a},h.get? a=none->a∉U∧a∉T.tabs:=fun e=>⟨fun q=>c.N2 e (.inl q),fun q=>c.N2 e (.inr (.inr (.inr q)))⟩
 c.move (S:=fun J=>False) (fun J q=>x.bad q) (Off.of_keeps x.keep) (fun J q=>q.elim)
  ⟨fun a ha=>(OG ha).elim (fun q=>⟨fun y=>y.elim (nw (x.wh a q)).1 fun y=>y.elim (fun y=>(Of y).elim (fun y=>x.apart (y▸q)) fun y=>c.N2 (x.wh a q) (.inr (.inl y))) (nw (x.wh a q)).2,x.Hu a q⟩)
   fun q=>⟨fun y=>y.elim (fun y=>(c.o5.own a q).nm (.inl y)) fun y=>y.elim (fun y=>(Of y).elim (fun y=>(c.o5.own a q).ex.elim fun o e=>d0 x.O3 (y▸e)) fun y=>(c.o5.own a q).nm (.inr (.inl y))) fun y=>(c.o5.own a q).nm (.inr (.inr y)),(c.o5.own a q).ex.elim fun o e=>⟨o,x.keep a o e⟩⟩,
  fun a ha=>(Of ha).elim (fun q=>⟨q▸(nw x.O3).1,q▸(nw x.O3).2,q▸x.GA⟩) fun q=>⟨(c.o5.l6 a q).nr,(c.o5.l6 a q).nt,(c.o5.l6 a q).ex.elim fun o e=>⟨o,x.keep a o e⟩⟩⟩
theorem In.enter (x:dq s.heap h' L ds):In W (W.enter L ds) s:=
 ⟨fun a h=>.tail _ h,fun a h=>Ob _ h,fun a h=>(Of h).elim (fun q=>.inr (q▸x.O3)) .inl,fun a h=>(OG h).elim (fun q=>.inr (x.wh a q)) .inl⟩
theorem In.trans {W0 W W':r9} {s0 s:Shared} (x:In W0 W s0) (y:In W W' s) (k:∀a,s.heap.get? a=none->s0.heap.get? a=none):In W0 W' s0:=⟨fun a q=>y.l6 a (x.l6 a q),fun a q=>y.own a (x.own a q),fun a q=>(y.gu a q).elim (x.gu a) fun q=>.inr (k a q),fun a q=>(y.C0 a q).elim (x.C0 a) fun q=>.inr (k a q)⟩
theorem N6.deeper {A:Around} {env:Env} (r:N6 A (n+1)):N6 (A.deeper env) n:=⟨(room_le r.depth (by decide):A.depth+1+2 * n≤900),(room_le r.units (by decide):A.units+3+20 * n≤9000)⟩
theorem Ar.enter {A:Around} {env:Env} (a:Ar T W A 0 h) (rd:A.depth+1≤900) (ru:A.units+3≤9000) (x:dq h h' L ds) (hk:env.scope.kind=.function) (hf:env.frame=some L) (hB:T.B.get? L=none) (ht:I0 L h'):Ar T (W.enter L ds) (A.deeper env) 0 h' where
 handled:=a.handled
 depth:=rd
 units:=ru
 frames:=match a.frames with
  |⟨fs,h1,h2,h3⟩=>⟨env::fs,(Oh (Option.map _) h1:A.frames.map _=_),ht.elim fun o q=>⟨(by rw[hk];decide),⟨L,o,hf,hB,q.1,q.2⟩,Q3 (Off.of_keeps (S:=fun J=>False) x.keep) h2 fun J J J J q=>q.elim⟩,
   fun e he K hK=>(Of he).elim (fun q=>NX (hf.symm.trans (q▸hK))▸.head _) fun q=>.tail _ (h3 e q K hK)⟩
theorem vz {xs:List Nat} (hj:∀x y,T.nm x=T.nm y->x=y) (h:xs.Nodup):(xs.map T.nm).Nodup:=by
 induction xs with
 |nil=>exact List.nodup_nil
 |cons x r ih=>exact List.nodup_cons.mpr ⟨fun q=>match List.mem_map.mp q with|⟨y,hy,e⟩=>(List.nodup_cons.mp h).1 (hj _ _ e▸hy),ih (List.nodup_cons.mp h).2⟩
end
section
structure DY (T:i7) (A:Around) (env:Env) (W0:r9) (Z4:List Addr) (s0:Shared) (own:List (Nat×Addr)) (m:Fr) (U:List Addr) (Y:Hp) (W:r9) (s:Shared) (fd:Fd) (ws:List Value) (Rz:Result->Shared->Prop) (W1:r9) (s':Shared) (E:Value->Shared->Prop):Prop where
 fs:Fs (T:=T) ⟨A.deeper env,env,W0,Z4,s0,[],[]⟩ ⟨W1,own,U,s'⟩ m Y
 set:∀x,x∈fd.params->s6 T env.kindOf x
 held:∀(i x:Nat) (w:Value),fd.params[i]? =some x->ws[i]? =some w->n7 W1 env s'.heap (T.nm x) w
 exc:∀t c7,XV T W0 Z4 s0 (fun e=>Rz (.error e)) t c7->XF (T:=T) ⟨A.deeper env,env,W0,Z4,s0,[],[]⟩ E t c7
 own:∀b,b∈W.own->b∈W1.own
 keep:∀b o,s.heap.get? b=some o->s'.heap.get? b=some o
 frame:env.frame=some env.locals
 cn:jQ (T:=T) ⟨A.deeper env,env,W0,Z4,s0,[],[]⟩
 wG:∀y c,env.cells.lookup y=some c->s.heap.get? c=none
set_option maxHeartbeats 4000000 in
theorem Q6 (tk:E4 T P) {fd:Fd} {a:Addr} {Tb:Kd->List PySem.Stmt->Prop} (ED:DX T a fd Tb) {m:Fr} {W0 W:r9} {Z4 U:List Addr} {s0 s:Shared} {Y:Hp} {A:Around} {own:List (Nat×Addr)} {ws:List Value} {Rz:Result->Shared->Prop}
 (c:d9 T W U Y s.heap) (ar:Ar T W A 0 s.heap) (rd:A.depth+1≤900) (ru:A.units+3≤9000) (out0:i4 T W0 Z4 s0 Y U s) (inn0:In W0 W s0) (old0:∀a,a∈W0.own->∃o,s0.heap.get? a=some o) (fr0:La T W0 A s0.heap)
 (ho1:∀x y a,(x,a)∈own->(y,a)∈own->x=y) (ho2:∀x a,(x,a)∈own->a∈W.own∧s0.heap.get? a=none) (b1:ws.length≤fd.params.length) (b2:fd.params.length - ws.length≤fd.dA.length) (hv:∀x v,d6 m x=some v->KZ T W U s.heap own fd ws x v)
 (run:∀env W1 s' body E,DY T A env W0 Z4 s0 own m U Y W s fd ws Rz W1 s' E->Tb env.kindOf body->wpAny (model T.prog T.w) (A.deeper env) (execs body env) (fun fl s''=>Rz (.ok (.ret (JS fl))) s'') E s'):
 codeAny (model T.prog T.w) A (.call (.ref a) ⟨ws,[]⟩) Rz s:=by
 obtain⟨F,body,dv,hf,htr⟩:=ED
 obtain⟨oc,od,osl,hlook⟩:=hf.look
 have X:=k7 tk c
 have hd900:A.depth < recursionLimit:=Ot (Oe (Nat.le_add_right _ _) rd) (by decide)
 refine codeAny_call_function (fd:=F) (body:=body) hd900 (X _ _ hlook) rfl hf.co hf.gen hf.body (codeRec_of X hf.code) (hf.bind s ws X b1 b2 _ _ _ _ ?_)
 rw[hf.Mo,hf.glob,hf.blt]
 generalize hbs:(fd.params.map T.nm).zip (ws++dv.drop (fd.dA.length - (fd.params.length - ws.length)))=bs
 have hin:∀x,x∈bs->F.scope.names.lookup x.1=some .local∨(F.scope.names.lookup x.1=some .cell∧((cellsFrom (s.heap.objs.size+1) F.scope.names []).lookup x.1).isSome=true):=by
  intro x hx
  rw[←hbs]at hx
  obtain⟨p,hp,e⟩:=List.mem_map.mp (List.of_mem_zip (a:=x.1) (b:=x.2) hx).1
  induction hf.set p hp with
  |loc _ q=>exact .inl (e▸q)
  |P0 _ q=>exact .inr ⟨e▸q,(jK (n:=s.heap.objs.size+1) (e▸q:F.scope.names.lookup x.1=some .cell)).elim fun cc hcc=>hcc▸rfl⟩
 refine wpAny_newFunctionEnv_cells hf.kind hin fun env henv s' hic=>?_
 have hloc:env.locals=s.heap.objs.size:=henv▸rfl
 have hcells:env.cells=cellsFrom (s.heap.objs.size+1) F.scope.names []:=henv▸rfl
 have hscope:env.scope=F.scope:=henv▸rfl
 have hglb:env.globals=mainGlobals:=henv▸rfl
 have hblt':env.builtins=builtinsNs:=henv▸rfl
 have hframe:env.frame=some env.locals:=henv▸rfl
 have hqual:env.qual=F.qualname++(".<locals>.":Str):=henv▸rfl
 have hcode:env.code=F.code:=henv▸rfl
 clear henv
 have hkof:env.kindOf=fun x=>F.scope.names.lookup x:=by funext x;show env.scope.names.lookup x=_;rw[hscope]
 have hset:∀x,x∈fd.params->s6 T env.kindOf x:=hkof▸hf.set
 obtain⟨h',tok,rfl,keep⟩:=hic.done
 have above:∀{a o},s.heap.get? a=some o->∀{b},env.locals≤b->a≠b:=fun e J hb q=>absurd (OE e) (Nat.not_lt.mpr (hloc▸q▸hb))
 have Lnew:s.heap.get? env.locals=none:=hloc▸none_at_size _
 have newAt:∀{b},env.locals≤b->s.heap.get? b=none:=fun{b} hb=>by
  induction q:s.heap.get? b with
  |none=>rfl
  |some o=>exact absurd rfl (above q hb)
 let ds:List Addr:=(env.cells.map (·.2)).filter fun d=>(h'.get? d).isSome
 have dmem:∀d,d∈ds->env.locals < d∧∃o,h'.get? d=some o:=fun d hd=>match List.mem_filter.mp hd with
  |⟨h1,h2⟩=>match List.mem_map.mp h1 with|⟨p,hp,e⟩=>⟨e▸hic.above p.1 p.2 hp,Option.isSome_iff_exists.mp h2⟩
 have ent:dq s.heap h' env.locals ds:=⟨keep,Lnew,(H6 hic.toInCall.ns).elim fun o q=>⟨o,q.1⟩,fun d hd=>newAt (Nat.le_of_lt (dmem d hd).1),fun d hd=>(dmem d hd).2,fun q=>Nat.lt_irrefl _ (dmem _ q).1⟩
 have hLB:T.B.get? env.locals=none:=by
  induction q:T.B.get? env.locals with
  |none=>rfl
  |some o=>exact d0 Lnew (c.base _ _ q)
 have cellOf:∀y,env.kindOf y=some .cell->∃ca,env.cells.lookup y=some ca∧ca∈ds∧h'.IsCell ca (bindC env.kindOf bs (fun J=>none) y):=fun y hy=>by
  rw[hkof]at hy
  obtain⟨ca,hca⟩:=jK (n:=s.heap.objs.size+1) hy
  rw[←hcells]at hca
  have hi:h'.IsCell ca _:=hic.cell y ca hca
  exact⟨ca,hca,List.mem_filter.mpr ⟨List.mem_map.mpr ⟨(y,ca),mem_of_lookup hca,rfl⟩,(X3 hi).elim fun o q=>q.1▸rfl⟩,hi⟩
 have sold:∀{b:Addr},s.heap.get? b=none->F.scope=F.scope∧s0.heap.get? b=none:=fun e=>⟨rfl,out0.ext.since e⟩
 have nds:=vz tk.rG hf.nodup
 have ms:Ms U U (k9 T W U) (k9 T (W.enter env.locals ds) U) (fun J=>False) s.heap h':=c.T3 (fun J q=>ent.bad q) (Off.of_keeps keep) fun J q=>q.elim
 have heldAt:∀{x i:Nat} {w:Value},fd.params[i]? =some x->(ws++dv.drop (fd.dA.length - (fd.params.length - ws.length)))[i]? =some w->n7 (W.enter env.locals ds) env h' (T.nm x) w:=fun{x i w} h1 h2=>by
  have hp:=Oy h1
  have h1:(fd.params.map T.nm)[i]? =some (T.nm x):=by rw[OA,h1];rfl
  induction hset x hp with
  |loc _ q=>exact .loc _ q hic.toInCall.ns (hbs▸Az nds h1 h2 q)
  |P0 _ q=>
   obtain⟨ca,hca,hd,hi⟩:=cellOf _ q
   rw[←hbs,AA nds h1 h2 (q▸fun q=>nomatch q)]at hi
   exact .P0 ca (.inl q) hca (Oa _ hd) hi
 have fr:G2 T (W.enter env.locals ds) U env own m h':={
  kind:=hscope▸hf.kind
  glob:=hglb
  blt:=hblt'
  Y1:=.head _
  loc:=fun x v e=>match hv x v e with
   |.arg i w h1 _ _=>(match hf.set x (Oy h1)with|.loc g _=>g|.P0 g _=>g)
   |.dA i h1 _=>(match hf.set x (Oy h1)with|.loc g _=>g|.P0 g _=>g)
  ns:=⟨_,hic.toInCall.ns⟩
  var:=fun x v e J=>match hv x v e with
   |.arg i w h1 h2 f=>⟨w,heldAt h1 ((Oz (List.getElem?_eq_some_iff.mp h2).1).trans h2),f.mv ms fun J J=>keep _⟩
   |.dA i h1 h2=>z1.at (z1.drop _ (hf.dA U (k9 T W U) s.heap c.base c.fresh)) h2 fun w hw g q=>⟨w,heldAt h1 (by rw[List.getElem?_append_right (Nat.le_add_right _ _),Nat.add_sub_cancel_left];exact hw),.pl v w g (q.ms ms)⟩
  has:=fun y q=>(cellOf _ q).elim fun ca z=>⟨ca,_,z.1,Oa _ z.2.1,z.2.2⟩
  own:=fun x a e=>Ob _ (ho2 x a e).1
  code:=fun Pt q=>match hf.lam Pt (hkof▸q)with|⟨q1,q2,c',q3,q4⟩=>⟨c',q1,q2.trans (hqual▸rfl),hcode.trans q3,q4⟩}
 have ft:I0 env.locals h':=H6 hic.toInCall.ns
 have hk:env.scope.kind=.function:=hscope▸hf.kind
 have cx:Cx T (W.enter env.locals ds) 0 (A.deeper env) env own m U Y {s with heap:=h',toks:=tok}:=⟨c.enter ent,fr,ar.enter rd ru ent hk hframe hLB ft⟩
 have st:St (T:=T) ⟨A.deeper env,env,W0,Z4,s0,[],[]⟩ (W.enter env.locals ds) own:={
  v5:=inn0.trans (In.enter ent) fun J=>out0.ext.since
  inj:=ho1
  aR:=fun x b q=>(ho2 x b q).2
  O3:=out0.ext.since Lnew
  cB:=fun x b y ca q hca=>(c.o5.own b (ho2 x b q).1).ex.elim fun o e=>above e (Nat.le_of_lt (hic.above y ca (mem_of_lookup hca)))
  aw:=fun y ca hc=>Oa _ (List.mem_filter.mpr ⟨List.mem_map.mpr ⟨(y,ca),mem_of_lookup hc,rfl⟩,(X3 (hic.cell y ca hc:h'.IsCell ca _)).elim fun o q=>q.1▸rfl⟩)
  old:=old0}
 refine⟨match tk.tp with|⟨mc,hn,hm⟩=>⟨mc,(A1 c.base hn).keeps keep,hm⟩,codeAny_func (run env (W.enter env.locals ds) _ body _ ⟨⟨cx,st,i4.under inn0 out0 (i4.keeps c keep),⟨fun J J J q=>(nomatch q),fun J J q=>(nomatch q)⟩⟩,hset,fun i x w h1 h2=>
  heldAt h1 ((Oz (List.getElem?_eq_some_iff.mp h2).1).trans h2),fun t c7 xv=>?_,fun b hb=>Ob _ hb,keep,hframe,⟨fun x ca hca=>out0.ext.since (newAt (Nat.le_of_lt (hic.above x ca (mem_of_lookup hca)))),fun x y ca h1 h2=>name_of_addr hic.apart (mem_of_lookup h1) (mem_of_lookup h2)⟩,fun y ca hca=>newAt (Nat.le_of_lt (hic.above y ca (mem_of_lookup hca)))⟩ (hkof▸htr))⟩
 intro e s1 NO W1 inn1 hL1 ft1 out1 exc1
 exact match fr0 with
  |⟨fs,hA1,hA2,hA3⟩=>jg (F:=⟨A.deeper env,env,W0,Z4,s0,[],[]⟩) (A:=A.deeper env) inn1 (Oh (Option.map _) hA1:A.frames.map _=_) hA2 hA3 hL1 hk hframe ft1 hLB out1 exc1 xv
end
noncomputable def cw (e:Ex):Bool:=(R3 e).isSome
noncomputable def B4 (e:Ex):Bool:=(eH e).isSome
noncomputable def P8 (e:Ex):Bool:=(y5 e).isSome
noncomputable def eG:X->Option (X×List Nat×mq×List X×Option X)
 |.comp p a b c d e=>bif p then none else some (a,b,c,d,e)
 |_=>none
theorem su {e:X} {q:X×List Nat×mq×List X×Option X} (h:eG e=some q):e=.comp false q.1 q.2.1 q.2.2.1 q.2.2.2.1 q.2.2.2.2:=by
 cases e with
 |comp p=>induction p with
  |true=>exact ns h
  |false=>cases h;rfl
 |_=>exact ns h
noncomputable def eY (kd:Kd) (ts vs:List Ex):Option (Option (List Str)):=
 bif !(ts.length == 2 || ts.length == 3)|| vs.length != ts.length then some none else
 bif vs.any (fun|.Starred ..=>true|_=>false)then some none else
 bif (ts.filterMap fun
  |.Name id pos=>if kd id == some .local&&pos.line ==(ts.head?.map (·.pos.line)).getD 0 then some id else none
  |_=>none).length != ts.length ||(ts.filterMap fun
  |.Name id pos=>if kd id == some .local&&pos.line ==(ts.head?.map (·.pos.line)).getD 0 then some id else none
  |_=>none).eraseDups.length !=(ts.filterMap fun
  |.Name id pos=>if kd id == some .local&&pos.line ==(ts.head?.map (·.pos.line)).getD 0 then some id else none
  |_=>none).length then some none else
 bif vs.all (foldedForSure 8)then some none else
 bif vs.all (constantsAlone 8)then none else some (some (ts.filterMap fun
  |.Name id pos=>if kd id == some .local&&pos.line ==(ts.head?.map (·.pos.line)).getD 0 then some id else none
  |_=>none))
theorem sP {α β:Type} {c:Bool} {x y z:α} {a o:β} {p:Option β} (h:(bif c then some a else p)=some o) (k1:a=o->x=z) (k2:p=some o->y=z):(if c=true then x else y)=z:=by
 induction c with
 |true=>exact k1 (NX h)
 |false=>exact k2 h
theorem sO {env:Env} (hb:env.blockKind=.function) {ts vs:List Ex} {k k':Nat} {q r:Pos} {o:Option (List Str)} (h:eY env.kindOf ts vs=some o):swappedStores [.Tuple ts k q] (.Tuple vs k' r) env=pure o:=by
 unfold swappedStores
 dsimp only
 rw[hb,bne_self_eq_false,Bool.or_false]
 refine sP h (fun e=>e▸rfl) fun h=>sP h (fun e=>e▸rfl) fun h=>sP h (fun e=>e▸rfl) fun h=>sP h (fun e=>e▸rfl) fun h=>?_
 induction c:vs.all (constantsAlone 8)with
 |true=>rw[c]at h;exact nomatch h
 |false=>rw[c]at h;cases h;rfl
noncomputable def J8:PySem.Stmt->Option (Ex×Ex×Pos):=I4 PySem.Stmt.ctorIdx 5 fun e h=>PySem.Stmt.Assign.elim e h fun k a p=>(y0 k).map fun x=>(x,a,p)
noncomputable def bG:PySem.Stmt->Option (Ex×Pos):=I4 PySem.Stmt.ctorIdx 24 fun e h=>PySem.Stmt.Expr.elim e h fun a p=>some (a,p)
noncomputable def Fb:PySem.Stmt->Option (Ex×List PySem.Stmt×List PySem.Stmt×Pos):=I4 PySem.Stmt.ctorIdx 12 fun e h=>PySem.Stmt.If.elim e h fun t b a p=>some (t,b,a,p)
noncomputable def pG:PySem.Stmt->Option (Ex×List PySem.Stmt×Pos):=I4 PySem.Stmt.ctorIdx 11 fun e h=>PySem.Stmt.While.elim e h fun t b k p=>qV k (some (t,b,p))
noncomputable def AM:PySem.Stmt->Option (Ex×Ex×List PySem.Stmt×Pos):=I4 PySem.Stmt.ctorIdx 9 fun e h=>PySem.Stmt.For.elim e h fun t i b k p=>qV k (some (t,i,b,p))
noncomputable def AI:PySem.Stmt->Option (Ex×Pos):=I4 PySem.Stmt.ctorIdx 3 fun e h=>PySem.Stmt.Return.elim e h fun k p=>k.map fun x=>(x,p)
noncomputable def pL:PySem.Stmt->Option (Ex×Pos):=I4 PySem.Stmt.ctorIdx 16 fun e h=>PySem.Stmt.Raise.elim e h fun k c p=>nX c (k.map fun x=>(x,p))
noncomputable def lR:PySem.Stmt->Option (Pos):=I4 PySem.Stmt.ctorIdx 25 fun e h=>PySem.Stmt.Pass.elim e h fun p=>some p
section
variable {e:PySem.Stmt}
theorem F8 {q:Ex×Ex×Pos} (h:J8 e=some q):e=.Assign [q.1] q.2.1 q.2.2:=o2 h fun i z=>PySem.Stmt.Assign.elim (motive_2:=fun e=>∀i,PySem.Stmt.Assign.elim (motive_2:=fun J=>Option (Ex×Ex×Pos)) e i (fun k a p=>(y0 k).map fun x=>(x,a,p))=some q->e=.Assign [q.1] q.2.1 q.2.2) e i (fun k a p J z=>d8 z fun x y z=>by rw[B2 y,←z]) i z
theorem R4 {q:Ex×Pos} (h:bG e=some q):e=.Expr q.1 q.2:=o2 h fun i z=>PySem.Stmt.Expr.elim (motive_2:=fun e=>∀i,PySem.Stmt.Expr.elim (motive_2:=fun J=>Option (Ex×Pos)) e i (fun a p=>some (a,p))=some q->e=.Expr q.1 q.2) e i (fun a p J z=>(NX z:(a,p)=q)▸rfl) i z
theorem AK {q:Ex×List PySem.Stmt×List PySem.Stmt×Pos} (h:Fb e=some q):e=.If q.1 q.2.1 q.2.2.1 q.2.2.2:=o2 h fun i z=>PySem.Stmt.If.elim (motive_2:=fun e=>∀i,PySem.Stmt.If.elim (motive_2:=fun J=>Option (Ex×List PySem.Stmt×List PySem.Stmt×Pos)) e i (fun t b a p=>some (t,b,a,p))=some q->e=.If q.1 q.2.1 q.2.2.1 q.2.2.2) e i (fun t b a p J z=>(NX z:(t,b,a,p)=q)▸rfl) i z
theorem pF {q:Ex×List PySem.Stmt×Pos} (h:pG e=some q):e=.While q.1 q.2.1 [] q.2.2:=o2 h fun i z=>PySem.Stmt.While.elim (motive_2:=fun e=>∀i,PySem.Stmt.While.elim (motive_2:=fun J=>Option (Ex×List PySem.Stmt×Pos)) e i (fun t b k p=>qV k (some (t,b,p)))=some q->e=.While q.1 q.2.1 [] q.2.2) e i (fun t b k p J z=>ko z fun y z=>by subst y;exact(NX z:(t,b,p)=q)▸rfl) i z
theorem xe {q:Ex×Ex×List PySem.Stmt×Pos} (h:AM e=some q):e=.For q.1 q.2.1 q.2.2.1 [] q.2.2.2:=o2 h fun i z=>PySem.Stmt.For.elim (motive_2:=fun e=>∀i,PySem.Stmt.For.elim (motive_2:=fun J=>Option (Ex×Ex×List PySem.Stmt×Pos)) e i (fun t i b k p=>qV k (some (t,i,b,p)))=some q->e=.For q.1 q.2.1 q.2.2.1 [] q.2.2.2) e i (fun t i b k p J z=>ko z fun y z=>by subst y;exact(NX z:(t,i,b,p)=q)▸rfl) i z
theorem xa {q:Ex×Pos} (h:AI e=some q):e=.Return (some q.1) q.2:=o2 h fun i z=>PySem.Stmt.Return.elim (motive_2:=fun e=>∀i,PySem.Stmt.Return.elim (motive_2:=fun J=>Option (Ex×Pos)) e i (fun k p=>k.map fun x=>(x,p))=some q->e=.Return (some q.1) q.2) e i (fun k p J z=>d8 z fun x y z=>by rw[y,←z]) i z
theorem pK {q:Ex×Pos} (h:pL e=some q):e=.Raise (some q.1) none q.2:=o2 h fun i z=>PySem.Stmt.Raise.elim (motive_2:=fun e=>∀i,PySem.Stmt.Raise.elim (motive_2:=fun J=>Option (Ex×Pos)) e i (fun k c p=>nX c (k.map fun x=>(x,p)))=some q->e=.Raise (some q.1) none q.2) e i (fun k c p J z=>nV z fun y z=>d8 z fun x w z=>by rw[y,w,←z]) i z
theorem so {q:Pos} (h:lR e=some q):e=.Pass q:=o2 h fun i z=>PySem.Stmt.Pass.elim (motive_2:=fun e=>∀i,PySem.Stmt.Pass.elim (motive_2:=fun J=>Option (Pos)) e i (fun p=>some p)=some q->e=.Pass q) e i (fun p J z=>(NX z:(p)=q)▸rfl) i z
end
noncomputable def Jd:Mine.T->Option Nat
 |.NT x=>some x
 |.B3 x=>some x
 |_=>none
noncomputable def yL:List Mine.T->Option (List Nat)
 | []=>some []
 |t::ts=>(Jd t).bind fun x=>(yL ts).map (x:: ·)
section
variable (T:i7) (n:Nat) (kd:Kd)
noncomputable def cF (x:Nat) (id:Str):Bool:=decide (T.nm x=id)&&((d6 T.glob x).isNone&&(decide (kd id=some .local)|| decide (kd id=some .cell)))
noncomputable def Ao (t:Mine.T) (e:Ex):Bool:=match t with
 |.NT x=>f6 (y5 e) fun q=>cF T kd x q.1
 |.B3 x=>f6 (y5 e) fun q=>cF T kd x q.1
 |.attr o a=>f6 (X8 e) fun q=>decide (T.nm a=q.2.1)&&(r4 T n kd o q.1&&T.SF.any fun s=>decide (s=T.nm a))
 |.item o i=>f6 (gS e) fun q=>r4 T n kd o q.1&&r4 T n kd i q.2.1
 |.Y6 x i=>f6 (gS e) fun q=>r4 T n kd (.NT x) q.1&&r4 T n kd i q.2.1
noncomputable def ES (t:Mine.T) (e:X) (t' e':Ex):Bool:=f6 (y5 t') fun a=>f6 (eH e') fun c=>f6 (Jd t) fun x=>f6 (eG e) fun J=>
 gR T kd x a.1&&(r4 T n kd e e'&&((a.2.line == c.2.2.2.line)&&!(c.2.2.1.names.any fun(n,k)=>n == a.1&&(k ==.local || k ==.cell))))
noncomputable def Mp (t:Mine.T) (e:X) (t' e':Ex):Bool:=bif B4 e'&&P8 t' then ES T n kd t e t' e' else Ao T n kd t t'&&(r4 T n kd e e'&&!cw t')
noncomputable def Ap (x:Nat) (a:String) (e:Ex) (f:List Ex->Bool):Bool:=f6 (H8 e) fun q=>f6 (X8 q.1) fun r=>decide (r.2.1=a)&&(r4 T n kd (.NT x) r.1&&((r.2.2.endLine == q.2.2.line)&&f q.2.1))
noncomputable def xn (e:Ex):Bool:=f6 (gW e) fun q=>GG (.int 0) q.1
end
noncomputable def iD (T:i7) (kd:Kd):Nat->S->PySem.Stmt->Bool
 |0,_,_=>false
 |n+1,s,st=>match s with
  |.assign t e=>f6 (J8 st) fun q=>Mp T n kd t e q.1 q.2.1
  |.M9 ts es=>f6 (J8 st) fun q=>f6 (R3 q.1) fun a=>f6 (R3 q.2.1) fun b=>all2 (r4 T n kd) es b.1&&(decide (eY kd a.1 b.1=some none)&&all2 (Ao T n kd) ts a.1)
  |.F6 ts es=>f6 (J8 st) fun q=>f6 (R3 q.1) fun a=>f6 (R3 q.2.1) fun b=>f6 (yL ts) fun xs=>all2 (r4 T n kd) es b.1&&(decide (eY kd a.1 b.1=some (some (xs.map T.nm)))&&xs.all fun x=>cF T kd x (T.nm x))
  |.H4 ts e=>f6 (J8 st) fun q=>f6 (R3 q.1) fun a=>all2 (Ao T n kd) ts a.1&&(r4 T n kd e q.2.1&&(!cw q.2.1&&!B4 q.2.1))
  |.expr e=>f6 (bG st) fun q=>r4 T n kd e q.1&&!B4 q.1
  |.ite t b f=>f6 (Fb st) fun q=>r4 T n kd t q.1&&(all2 (iD T kd n) b q.2.1&&all2 (iD T kd n) f q.2.2.1)
  |.y6 t b=>f6 (pG st) fun q=>r4 T n kd t q.1&&all2 (iD T kd n) b q.2.1
  |.F1 xs src it b=>f6 (AM st) fun q=>rW (r4 T n kd) kd src it q.2.1&&(HE T kd xs q.1&&all2 (iD T kd n) b q.2.2.1)
  |.ret e=>f6 (AI st) fun q=>r4 T n kd e q.1
  |.raise e=>f6 (pL st) fun c=>f6 (H8 c.1) fun q=>f6 (y5 q.1) fun r=>f6 (y0 q.2.1) fun a=>decide (r.1=T.S0)&&(decide (kd T.S0=some .globalImplicit)&&r4 T n kd e a)
  |.o8=>true
  |.F0 x e=>f6 (bG st) fun q=>Ap T n kd x "append" q.1 fun es=>f6 (y0 es) fun a=>r4 T n kd e a
  |.K5 x e=>f6 (bG st) fun q=>Ap T n kd x "insert" q.1 fun es=>f6 (two1 es) fun a=>xn a.1&&r4 T n kd e a.2
  |.fO y x=>f6 (J8 st) fun q=>Ap T n kd x "pop" q.2.1 fun es=>f6 (y0 es) fun a=>xn a&&(f6 (y5 q.1) fun b=>cF T kd y b.1&&!Nat.beq x y)
  |.J1 x e=>f6 (bG st) fun q=>Ap T n kd x "update" q.1 fun es=>f6 (y0 es) fun a=>r4 T n kd e a
  |.pass=>(lR st).isSome
def I9 (T:i7) (kd:Kd) (s:S) (st:PySem.Stmt):Prop:=∃n,iD T kd (n+1) s st=true
inductive sy (T:i7) (kd:Kd):List S->List PySem.Stmt->Prop
 |nil:sy T kd [] []
 |cons (s:S) (s':PySem.Stmt) (ss:List S) (ss':List PySem.Stmt):I9 T kd s s'->sy T kd ss ss'->sy T kd (s::ss) (s'::ss')
inductive mj (T:i7) (kd:Kd):List Mine.T->List Ex->Prop
 |nil:mj T kd [] []
 |cons (t:Mine.T) (t':Ex) (ts:List Mine.T) (ts':List Ex):pR T kd t t'->mj T kd ts ts'->mj T kd (t::ts) (t'::ts')
variable {G:PySem.Stmt->Prop} {st:PySem.Stmt}
section
variable {s:S}
theorem I9.of (h:iD T kd n s st=true):I9 T kd s st:=by
 induction n with
 |zero=>exact Bool.noConfusion h
 |succ n=>exact⟨n,h⟩
theorem sy.of {ss:List S}:∀{st:List PySem.Stmt},all2 (iD T kd n) ss st=true->sy T kd ss st:=by
 induction ss with
 |nil=>exact fun{st} h=>by induction st with
  |nil=>exact .nil
  |cons=>exact Bool.noConfusion h
 |cons s ss ih=>exact fun{st} h=>by induction st with
  |nil=>exact Bool.noConfusion h
  |cons st r=>exact a7 h fun h1 h2=>.cons _ _ _ _ (.of h1) (ih h2)
theorem fh {x:Nat} {id:Str} {G:Str->Prop} (h:cF T kd x id=true) (k:s6 T kd x->G (T.nm x)):G id:=
 a7 h fun h1 h=>a7 h fun h2 h3=>by
  rw[←NZ h1]at h3⊢
  exact k ((Bool.or_eq_true_iff.mp h3).elim (fun h=>.loc (Option.isNone_iff_eq_none.mp h2) (NZ h)) fun h=>.P0 (Option.isNone_iff_eq_none.mp h2) (NZ h))
theorem pR.of {t:Mine.T} {e:Ex} (h:Ao T n kd t e=true):pR T kd t e:=by
 induction t with
 |NT x=>exact b7 h fun q e h=>q9 e▸fh (G:=fun s=>pR T kd (.NT x) (.Name s q.2)) h fun s=>.NT x _ s
 |B3 x=>exact b7 h fun q e h=>q9 e▸fh (G:=fun s=>pR T kd (.B3 x) (.Name s q.2)) h fun s=>.B3 x _ s
 |attr o a=>exact b7 h fun q e h=>a7 h fun h1 h=>a7 h fun h2 h3=>(by
  rw[L7 e,←NZ h1]
  exact match List.any_eq_true.mp h3 with|⟨s,hs,es⟩=>.attr o a _ _ (.of h2) (NZ es▸hs))
 |item o i=>exact b7 h fun q e h=>a7 h fun h1 h2=>X7 e▸.item o i _ _ _ (.of h1) (.of h2)
 |Y6 x i=>exact b7 h fun q e h=>a7 h fun h1 h2=>X7 e▸.Y6 x i _ _ _ (.of h1) (.of h2)
theorem mj.of {ts:List Mine.T}:∀{es:List Ex},all2 (Ao T n kd) ts es=true->mj T kd ts es:=by
 induction ts with
 |nil=>exact fun{st} h=>by induction st with
  |nil=>exact .nil
  |cons=>exact Bool.noConfusion h
 |cons s ss ih=>exact fun{st} h=>by induction st with
  |nil=>exact Bool.noConfusion h
  |cons st r=>exact a7 h fun h1 h2=>.cons _ _ _ _ (.of h1) (ih h2)
theorem not_true {b:Bool} (h:(!b)=true):b=false:=(Bool.not_eq_true' _).mp h
@[elab_as_elim] theorem I9.jN {t:Mine.T} {e:X} (h:I9 T kd (.assign t e) st) (k:∀t' e' p,pR T kd t t'->Tr T kd e e'->(B4 e'&&P8 t')=false->cw t'=false->G (.Assign [t'] e' p))
 (k':∀x q elt gens sc r p c,eG e=some c->Jd t=some x->kd (T.nm x)=some .local->d6 T.glob x=none->Tr T kd e (.ListComp elt gens sc r)->(q.line == r.line)=true->(sc.names.any fun(n,k)=>n == T.nm x&&(k ==.local || k ==.cell))=false->G (.Assign [.Name (T.nm x) q] (.ListComp elt gens sc r) p)):G st:=
 h.elim fun n h=>b7 h fun q e h=>by
  rw[F8 e]
  have h:(bif B4 q.2.1&&P8 q.1 then ES T n kd t _ q.1 q.2.1 else _)=true:=h
  induction c:B4 q.2.1&&P8 q.1 with
  |false=>rw[c]at h;exact a7 h fun h1 h=>a7 h fun h2 h3=>k _ _ _ (.of h1) (.of h2) c (not_true h3)
  |true=>
   rw[c]at h
   refine b7 h fun a ea h=>b7 h fun cc ec h=>b7 h fun x ex h=>b7 h fun d ed h=>a7 h fun h1 h=>a7 h fun h2 h=>a7 h fun h3 h4=>?_
   rw[q9 ea]
   rw[gX ec]at h2⊢
   rw[←NZ (a7 h1 fun a J=>a)]at h4⊢
   exact kb (G:=fun s=>True->G _) h1 (fun k1 k2 J=>k' x _ _ _ _ _ _ d ed ex k1 k2 (.of h2) h3 (not_true h4)) trivial
end
section
@[elab_as_elim] theorem I9.sk {ts:List Mine.T} {es:List X} (h:I9 T kd (.M9 ts es) st) (k:∀ts' es' i q j r p,mj T kd ts ts'->Z2 T kd es es'->eY kd ts' es'=some none->G (.Assign [.Tuple ts' i q] (.Tuple es' j r) p)):G st:=
 h.elim fun n h=>b7 h fun q e h=>b7 h fun a ea h=>b7 h fun b eb h=>a7 h fun h1 h=>a7 h fun h2 h3=>by
  rw[F8 e,G9 ea,G9 eb]
  exact k _ _ _ _ _ _ _ (.of h3) (K0 h1) (NZ h2)
@[elab_as_elim] theorem I9.sj {ts:List Mine.T} {es:List X} (h:I9 T kd (.F6 ts es) st) (k:∀ts' es' xs i q j r p,yL ts=some xs->Z2 T kd es es'->eY kd ts' es'=some (some (xs.map T.nm))->(∀x,x∈xs->s6 T kd x)->G (.Assign [.Tuple ts' i q] (.Tuple es' j r) p)):G st:=
 h.elim fun n h=>b7 h fun q e h=>b7 h fun a ea h=>b7 h fun b eb h=>b7 h fun xs ex h=>a7 h fun h1 h=>a7 h fun h2 h3=>by
  rw[F8 e,G9 ea,G9 eb]
  exact k _ _ xs _ _ _ _ _ ex (K0 h1) (NZ h2) (fun x hx=>fh (G:=fun J=>s6 T kd x) (List.all_eq_true.mp h3 x hx) id)
@[elab_as_elim] theorem I9.eR {ts:List Mine.T} {x:X} (h:I9 T kd (.H4 ts x) st) (k:∀ts' e' i q p,mj T kd ts ts'->Tr T kd x e'->cw e'=false->B4 e'=false->G (.Assign [.Tuple ts' i q] e' p)):G st:=
 h.elim fun n h=>b7 h fun q e h=>b7 h fun a ea h=>a7 h fun h1 h=>a7 h fun h2 h=>a7 h fun h3 h4=>by
  rw[F8 e,G9 ea]
  exact k _ _ _ _ _ (.of h1) (.of h2) (not_true h3) (not_true h4)
@[elab_as_elim] theorem I9.Dl {x:X} (h:I9 T kd (.expr x) st) (k:∀e' p,Tr T kd x e'->B4 e'=false->G (.Expr e' p)):G st:=h.elim fun n h=>b7 h fun q e h=>a7 h fun h1 h2=>R4 e▸k _ _ (.of h1) (not_true h2)
@[elab_as_elim] theorem I9.gh {t:X} {b f:List S} (h:I9 T kd (.ite t b f) st) (k:∀t' b' f' p,Tr T kd t t'->sy T kd b b'->sy T kd f f'->G (.If t' b' f' p)):G st:=h.elim fun n h=>b7 h fun q e h=>a7 h fun h1 h=>a7 h fun h2 h3=>AK e▸k _ _ _ _ (.of h1) (.of h2) (.of h3)
@[elab_as_elim] theorem I9.xr {t:X} {b:List S} (h:I9 T kd (.y6 t b) st) (k:∀t' b' p,Tr T kd t t'->sy T kd b b'->G (.While t' b' [] p)):G st:=h.elim fun n h=>b7 h fun q e h=>a7 h fun h1 h2=>pF e▸k _ _ _ (.of h1) (.of h2)
@[elab_as_elim] theorem I9.Hb {xs:List Nat} {src:mq} {it:List X} {b:List S} (h:I9 T kd (.F1 xs src it b) st) (k:∀tgt it' b' p,bJ T kd src it it'->pQ T kd xs tgt->sy T kd b b'->G (.For tgt it' b' [] p)):G st:=
 h.elim fun n h=>b7 h fun q e h=>a7 h fun h1 h=>a7 h fun h2 h3=>xe e▸k _ _ _ _ (mH h1) (xG h2) (.of h3)
@[elab_as_elim] theorem I9.FO {x:X} (h:I9 T kd (.ret x) st) (k:∀e' p,Tr T kd x e'->G (.Return (some e') p)):G st:=h.elim fun n h=>b7 h fun q e h=>xa e▸k _ _ (.of h)
@[elab_as_elim] theorem I9.yo {x:X} (h:I9 T kd (.raise x) st) (k:∀e' q r p,kd T.S0=some .globalImplicit->Tr T kd x e'->G (.Raise (some (.Call (.Name T.S0 q) [e'] [] r)) none p)):G st:=
 h.elim fun n h=>b7 h fun c ec h=>b7 h fun q e h=>b7 h fun r er h=>b7 h fun a ea h=>a7 h fun h1 h=>a7 h fun h2 h3=>by
  rw[pK ec,z9 e,q9 er,B2 ea,NZ h1]
  exact k _ _ _ _ (NZ h2) (.of h3)
theorem dZ {n x:Nat} {a:String} {f:List Ex->Bool} {e:Ex} {G:Ex->Prop} (h:Ap T n kd x a e f=true) (k:∀o q1 es q2,Tr T kd (.NT x) o->(q1.endLine == q2.line)=true->f es=true->G (.Call (.Attribute o a q1) es [] q2)):G e:=
 b7 h fun q e h=>b7 h fun r er h=>a7 h fun h1 h=>a7 h fun h2 h=>a7 h fun h3 h4=>by
  rw[z9 e,L7 er,NZ h1]
  exact k _ _ _ _ (.of h2) h3 h4
@[elab_as_elim] theorem I9.rb {x:Nat} {e:X} (h:I9 T kd (.F0 x e) st) (k:∀o e' q1 q2 p,Tr T kd (.NT x) o->Tr T kd e e'->(q1.endLine == q2.line)=true->G (.Expr (.Call (.Attribute o "append" q1) [e'] [] q2) p)):G st:=
 h.elim fun n h=>b7 h fun q eq h=>R4 eq▸dZ (G:=fun e=>G (.Expr e q.2)) h fun o q1 es q2 h1 h2 h=>b7 h fun a ea h=>B2 ea▸k _ _ _ _ _ h1 (.of h) h2
@[elab_as_elim] theorem I9.qY {x:Nat} {e:X} (h:I9 T kd (.J1 x e) st) (k:∀o e' q1 q2 p,Tr T kd (.NT x) o->Tr T kd e e'->(q1.endLine == q2.line)=true->G (.Expr (.Call (.Attribute o "update" q1) [e'] [] q2) p)):G st:=
 h.elim fun n h=>b7 h fun q eq h=>R4 eq▸dZ (G:=fun e=>G (.Expr e q.2)) h fun o q1 es q2 h1 h2 h=>b7 h fun a ea h=>B2 ea▸k _ _ _ _ _ h1 (.of h) h2
theorem sG {z:Ex} {G:Ex->Prop} (h:xn z=true) (k:∀i p,G (.Constant (.int 0) i p)):G z:=b7 h fun q e h=>by
 rw[dm e]
 induction hq:q.1 with
 |int b=>rw[hq]at h;exact NZ h▸k _ _
 |_=>rw[hq]at h;exact Bool.noConfusion h
@[elab_as_elim] theorem I9.qZ {x:Nat} {e:X} (h:I9 T kd (.K5 x e) st) (k:∀o e' i q0 q1 q2 p,Tr T kd (.NT x) o->Tr T kd e e'->(q1.endLine == q2.line)=true->G (.Expr (.Call (.Attribute o "insert" q1) [.Constant (.int 0) i q0,e'] [] q2) p)):G st:=
 h.elim fun n h=>b7 h fun q eq h=>R4 eq▸dZ (G:=fun e=>G (.Expr e q.2)) h fun o q1 es q2 h1 h2 h=>b7 h fun a ea h=>a7 h fun h3 h4=>two1_eq ea▸sG (G:=fun z=>G (.Expr (.Call (.Attribute o "insert" q1) [z,a.2] [] q2) q.2)) h3 fun i p=>k _ _ _ _ _ _ _ h1 (.of h4) h2
@[elab_as_elim] theorem I9.CA {x y:Nat} (h:I9 T kd (.fO y x) st) (k:∀o i q0 q1 q2 q4 p,Tr T kd (.NT x) o->s6 T kd y->x≠y->(q1.endLine == q2.line)=true->G (.Assign [.Name (T.nm y) q4] (.Call (.Attribute o "pop" q1) [.Constant (.int 0) i q0] [] q2) p)):G st:=
 h.elim fun n h=>b7 h fun q eq h=>F8 eq▸dZ (G:=fun e=>G (.Assign [q.1] e q.2.2)) h fun o q1 es q2 h1 h2 h=>b7 h fun a ea h=>a7 h fun h3 h4=>b7 h4 fun b eb h=>a7 h fun h5 h6=>by
  rw[B2 ea,q9 eb]
  exact sG (G:=fun z=>G (.Assign [.Name b.1 b.2] (.Call (.Attribute o "pop" q1) [z] [] q2) q.2.2)) h3 fun i p=>fh (G:=fun s=>G (.Assign [.Name s b.2] (.Call (.Attribute o "pop" q1) [.Constant (.int 0) i p] [] q2) q.2.2)) h5 fun hs=>k _ _ _ _ _ _ _ h1 hs (fun e=>by rw[e,Nat.beq_refl]at h6;exact Bool.noConfusion h6) h2
end
def KF {T:i7} (F:Fx T) (Q:Flow->Shared->Prop) (p:Fl×Fr) (c7:Hp):Prop:=match p.1 with
 |.ret v=>KV T F.W0 F.Z4 F.s0 (fun w=>Q (.ret w)) v c7
 |.next=>∀z,Fs F z p.2 c7->Q .next z.s
structure Rm {T:i7} (F:Fx T) (n:Nat):Prop where
 r:N6 F.A n
 c:jQ F
theorem Rm.hold {T:i7} {F:Fx T} {n:Nat} {H:List (Addr×Obj×Bool)} {Hv:List (V×Value)} (r:Rm F n):Rm (F.hold H Hv) n:=⟨r.r,r.c.wG,r.c.DA⟩
def V1 (T:i7) (n:Nat) (run:Fr->List S->Hp->R (Fl×Fr)):Prop:=
 ∀{F:Fx T} {z:Zt} {m:Fr} {Y:Hp} {ss:List S} {ss':List PySem.Stmt} {Q:Flow->Shared->Prop} {E:Value->Shared->Prop},
  Rm F n->Fs F z m Y->sy T F.env.kindOf ss ss'->(run m ss Y).c4 (KF F Q) (XF F E)->wpAny (model T.prog T.w) F.A (execs ss' F.env) Q E z.s
section
variable {Q:Flow->Shared->Prop}
theorem iN {kd:Kd} {t:Mine.T} {t' e':Ex} {e:X} (tt:pR T kd t t') (te:Tr T kd e e') (hc:(B4 e'&&P8 t')=false) (line:Nat) (env:Env):swapsWithSole [t'] e' line env=pure false:=by
 revert hc
 refine Tr.all (G:=fun e'=>(B4 e'&&P8 t')=false->swapsWithSole [t'] e' line env=pure false) te (fun J J J=>rfl) (fun J J J J=>rfl) (fun J J J J J=>rfl) (fun J J J J=>rfl) (fun J J J J=>rfl) (fun J J J J J=>rfl) (fun J J J J J=>rfl) (fun J J J J=>rfl) (fun J J J J=>rfl) (fun J J J J=>rfl) (fun J J J=>rfl) (fun J J J J=>rfl) (fun J J J J=>rfl) fun J J J J hc=>?_
 induction tt with
 |NT=>exact Bool.noConfusion hc
 |B3=>exact Bool.noConfusion hc
 |_=>rfl
theorem cS {kd:Kd} {t:Mine.T} {t':Ex} (tt:pR T kd t t') (e':Ex) (env:Env):swappedStores [t'] e' env=pure none:=by induction tt<;>rfl
theorem bw {kd:Kd} {t:Mine.T} {t':Ex} (tt:pR T kd t t') (rest:List Ex) (env:Env):assignEach (t'::rest) env=(false,assign t' env)::assignEach rest env:=by induction tt<;>rfl
theorem lM (tk:E4 T P) (hr:g7 T n r.ev) (rm:Rm F n) (f:Fs F z m Y) {t:Mine.T} {e:X} {t' e':Ex} {p:Pos} (tt:pR T F.env.kindOf t t') (te:Tr T F.env.kindOf e e') (hc:(B4 e'&&P8 t')=false)
 (h:(g8 P r m (.assign t e) Y).c4 (KF F Q) (XF F E)):wpAny (model T.prog T.w) F.A (exec (.Assign [t'] e' p) F.env) Q E z.s:=by
 rw[arm_exec_Assign]
 refine NU (Ow ?_)
 rw[iN tt te hc]
 refine NU (NW ?_)
 rw[OC Bool.false_ne_true]
 refine NU (f.eval hr rm.r te h fun v c9 w c5 c8 o hv hf h=>?_)
 rw[cS tt]
 refine NU (NW (f.give o hv hf fun W' f gv=>?_))
 rw[bw tt]
 show wpAny _ F.A (do assign t' F.env w;pure .next) Q E c5
 exact NU (iO (z:=⟨W',z.own,c8,c5⟩) tk rm.c hr rm.r f tt gv (R.d5.mp h) fun m' c7 z' h f=>NW (h z' f))
theorem wc (hr:g7 T n r.ev) (rm:Rm F n) (f:Fs F z m Y) {e:X} (t:I9 T F.env.kindOf (.expr e) st) (h:(g8 P r m (.expr e) Y).c4 (KF F Q) (XF F E)):wpAny (model T.prog T.w) F.A (exec st F.env) Q E z.s:=
 t.Dl fun e' p te hc=>wpAny_Expr_any (f.eval hr rm.r te h fun v c9 w c5 c8 o J J h=>h _ (f.step o)) (by unfold interactive;rw[f.cx.fr.kind];rfl)
  (Tr.all (G:=fun e'=>B4 e'=false->swapsWith e' none p.line F.env=pure false) te (fun J J J=>rfl) (fun J J J J=>rfl) (fun J J J J J=>rfl) (fun J J J J=>rfl) (fun J J J J=>rfl) (fun J J J J J=>rfl) (fun J J J J J=>rfl) (fun J J J J=>rfl) (fun J J J J=>rfl) (fun J J J J=>rfl) (fun J J J=>rfl) (fun J J J J=>rfl) (fun J J J J=>rfl) (fun J J J J hc=>Bool.noConfusion hc) hc)
theorem zu (ht:D5 T n r.tr) (hx:V1 T n r.Y9) (rm:Rm F n) (f:Fs F z m Y) {t:X} {b e:List S} (tt:I9 T F.env.kindOf (.ite t b e) st) (h:(g8 P r m (.ite t b e) Y).c4 (KF F Q) (XF F E)):wpAny (model T.prog T.w) F.A (exec st F.env) Q E z.s:=
 tt.gh fun J J J J tt tb te=>wpAny_If (f.test ht rm.r tt h fun c c9 c5 c8 o h=>by
  induction c with
  |true=>exact hx rm (f.step o) tb h
  |false=>exact hx rm (f.step o) te h)
theorem Dx {p:Fl×Fr} {k:Fr->Hp->R (Fl×Fr)} {X':Txt->Hp->Prop} (h:(gN p k Y).c4 (KF F Q) X') {Q':Flow->Shared->Prop} (hr:∀w s,Q (.ret w) s->Q' (.ret w) s) (hn:∀z,(k p.2 Y).c4 (KF F Q) X'->Fs F z p.2 Y->Q' .next z.s):KF F Q' p Y:=by
 obtain⟨fl,m⟩:=p
 induction fl with
 |ret v=>exact fun w s' d7 o hv hf=>hr w s' ((show KV T F.W0 F.Z4 F.s0 (fun w=>Q (.ret w)) v Y from h) w s' d7 o hv hf)
 |next=>exact fun z f=>hn z h f
inductive LoopAt (F:Fx T) (Q:Flow->Shared->Prop) (E:Value->Shared->Prop) (run:Fr->Hp->R (Fl×Fr)) (s:Shared):Prop
 |mk (z:Zt) (m:Fr) (Y:Hp) (e:z.s=s) (f:Fs F z m Y) (h:(run m Y).c4 (KF F Q) (XF F E))
end
section
variable {Q:Flow->Shared->Prop}
theorem dH {α β:Type} {x:R α} {f:α->Hp->R β} {K:β->Hp->Prop} {X' X'':Txt->Hp->Prop} (h:(x.z6.bind f).c4 K X'):x.c4 (fun a Y=>(f a Y).c4 K X') X'':=R.c4.mono (R.J6 (R.d5.mp h)) (fun J J q=>q) fun J J q=>q.elim
theorem pZ (ht:D5 T n r.tr) (hx:V1 T n r.Y9) (rm:Rm F n) (f:Fs F z m Y) {t:X} {b:List S} (tt:I9 T F.env.kindOf (.y6 t b) st) (h:(g8 P r m (.y6 t b) Y).c4 (KF F Q) (XF F E)):wpAny (model T.prog T.w) F.A (exec st F.env) Q E z.s:=
 tt.xr fun J J J tt tb=>wpAny_While (codeAny_whileLoop (fun k s'=>LoopAt F Q E (G4 r t b k) s') (fun k s' i=>by
  obtain⟨z,m,Y,e,f,h⟩:=i
  subst e
  induction k with
  |zero=>exact h.elim
  |succ k=>
   refine ht (f.mz rm.r) tt (R.c4.mono (dH (X'':=fun J J=>False) h) (fun c c9 h c5 c8 o=>?_) fun J J x=>x.elim)
   induction c with
   |true=>exact hx rm (f.step o) tb (R.c4.mono (dH (X'':=fun J J=>False) h) (fun p n9 h=>Dx h (fun J J q=>q) fun z h f=>⟨k,Nat.lt_succ_self k,z,p.2,n9,rfl,f,h⟩) fun J J x=>x.elim)
   |false=>exact wpAny_execs_nil (h _ (f.step o))) 20 ⟨z,m,Y,rfl,f,h⟩)
theorem fV {u v:V} (e:tw u=some v):v=u∧made u=true:=nZ (G:=fun v=>v=u∧made u=true) e fun h=>⟨rfl,h⟩
theorem yB {e:X} {v:V} {G:Prop} (h:ownOf e m=some v) (k:∀x,e=.NT x->d6 m x=some v->made v=true->G):G:=
 a0 h fun x ex h=>a0 h fun u eu h=>k x (uw ex) ((fV h).1▸eu) ((fV h).1▸(fV h).2)
theorem Fs.Dc (f:Fs F z m Y) {x:Nat} {v:V} {w:Value} {Q:Value->Shared->Prop} (fv:FV T z.W z.U z.s.heap z.own x v w) (hm:made v=true) (k:KV T F.W0 F.Z4 F.s0 Q v Y):Q w z.s:=by
 have v5:=f.st.v5
 have i2:In ⟨F.W0.l6,z.W.own⟩ z.W F.s0:=⟨v5.l6,fun J q=>q,v5.gu,fun J q=>.inl q⟩
 have nb:∀{a},(x,a)∈z.own->¬k9 T F.W0 z.U a:=fun{a} hm q=>(f.cx.rel.o5.own a (f.cx.fr.own x a hm)).nm (q.imp id fun q=>q.imp (v5.l6 a) fun q=>q.elim (fun q=>(f.st.old a q).elim fun o e=>d0 (f.st.aR x a hm) e) id)
 have U1:∀a,(x,a)∈z.own->M0 T z.W z.U z.s.heap a v->C4 T F.W0 z.U z.s.heap v (.ref a)->Q (.ref a) z.s:=fun a o q hv=>k _ _ _ f.out hv fun J=>
  ⟨a,⟨F.W0.l6,z.W.own⟩,f.st.aR x a o,⟨rfl,v5.own,v5.C0⟩,f.cx.fr.own x a o,f.cx.rel.shrink i2,q.mv (i2.ms _) fun J e=>e⟩
 induction fv with
 |ml xs ws a o l q=>exact U1 a o (.l xs ws l q) (.mk _ _ (.je _ xs ws a rfl rfl l (nb o) (q.ms (v5.ms _))))
 |md kvs a o d=>exact match d.at (v5.ms _) (fun J e=>e)with|⟨kws,hd,s,e,q⟩=>U1 a o (.d kvs d) (.mk _ _ (.my _ kvs a kws rfl rfl hd s (nb o) e q))
 |mo=>exact Bool.noConfusion hm
 |pl _ _ g=>exact Bool.noConfusion ((P2 g).symm.trans hm)
theorem ym (hr:g7 T n r.ev) (rm:Rm F n) (f:Fs F z m Y) {e:X} (t:I9 T F.env.kindOf (.ret e) st) (h:(g8 P r m (.ret e) Y).c4 (KF F Q) (XF F E)):wpAny (model T.prog T.w) F.A (exec st F.env) Q E z.s:=
 t.FO fun e' p te=>wpAny_Return_some (cf (K:=fun z=>R.c4 z _ _) h (fun v ev h=>yB ev fun x ex e2 hm=>by
  rw[ex]at te
  exact aU (f.mz rm.r) te e2 fun w J fv=>f.Dc fv hm h) fun J h=>f.eval hr rm.r te h fun v c9 w c5 c8 o hv hf h=>by
  induction hl:dw v with
  |true=>rw[hl]at h;exact h.elim
  |false=>rw[hl]at h;exact f.kv o hv hf h)
structure Ih (F:Fx T) (z:Zt) (vs:List V) (ws:List Value) (as:List Addr):Prop where
 r:J5 T z.W z.U z.s.heap vs ws as
 l:∀a,a∈as->l8 F z a
 nd:as.Nodup
 g:vs.all oD=true
theorem rF {v:V} (h:oD v=true) (m:made v=false):solid v=true:=by cases v<;>first|rfl|exact Bool.noConfusion h|exact Bool.noConfusion m
theorem C4.oD {W:r9} {U:List Addr} {h:Heap} {v:V} {w:Value} (x:C4 T W U h v w) (g:solid v=true):eK T W U h v w:=x.vs g
theorem X0 {xs:List V} {us:List Value} {W:r9} {U:List Addr} {h:Heap} (q:E3 T W U h xs us):∀v w,(v,w)∈xs.zip us->solid v=true∧eK T W U h v w:=by
 induction xs generalizing us with
 |nil=>exact fun J J k=>nomatch k
 |cons x xs ih=>cases q with
  |cons _ u _ us g a q=>exact fun v w k=>(Of k).elim (fun e=>by cases e;exact⟨g,a⟩) (ih q v w)
theorem eO {xs:List V} {us:List Value} {bad:Addr->Prop} {U:List Addr} {h:Heap} (e:us.length=xs.length) (q:∀v w,(v,w)∈xs.zip us->solid v=true∧VS T U bad h v w):z1 T U bad h xs us:=by
 induction xs generalizing us with
 |nil=>induction us with
  |nil=>exact .nil
  |cons=>exact nomatch e
 |cons x xs ih=>induction us with
  |nil=>exact nomatch e
  |cons u us=>exact .cons _ _ _ _ (q x u (.head _)).1 (q x u (.head _)).2 (ih (Nat.succ.inj e) fun v w k=>q v w (.tail _ k))
theorem l8.hold {a:Addr} {H:List (Addr×Obj×Bool)} {Hv:List (V×Value)} (l:l8 F z a) (n:∀p,p∈H->p.1≠a):l8 (F.hold H Hv) z a:=⟨l.C8,l.NT,l.cell,l.new,l.out,fun o b q=>(OG q).elim (fun q=>n _ q rfl) (l.held o b)⟩
theorem sC.loose {z':Zt} {a:Addr} {o:Obj} (l:l8 F z a) (x:sC F z' a o true):l8 F z' a:=⟨x.own rfl,x.nn,x.nc,l.new,l.out,l.held⟩
inductive uA (F:Fx T) (z:Zt) (m:Fr) (Y:Hp) (vs:List V) (ws:List Value) (as:List Addr):Prop
 |mk (H:List (Addr×Obj×Bool)) (Hv:List (V×Value)) (f:Fs (F.hold H Hv) z m Y) (ha:∀p,p∈H->p.1∈as) (back:∀z' m' c7,Fs (F.hold H Hv) z' m' c7->Ih F z' vs ws as)
theorem Fs.N7 {H H':List (Addr×Obj×Bool)} {Hv Hv':List (V×Value)} (f:Fs (F.hold H Hv) z m Y) (h1:∀p,p∈H'->p∈H) (h2:∀p,p∈Hv'->p∈Hv):Fs (F.hold H' Hv') z m Y:=
 ⟨f.cx,⟨f.st.v5,f.st.inj,f.st.aR,f.st.O3,f.st.cB,f.st.aw,f.st.old⟩,f.out,⟨fun a o b q=>have x:=f.hd.objs a o b ((OG q).elim (fun q=>Oa _ (h1 _ q)) (Ob _));⟨x.at_,x.nm,x.nn,x.nc,x.own,x.nb⟩,
  fun v w q=>have x:=f.hd.vals v w ((OG q).elim (fun q=>Oa _ (h2 _ q)) (Ob _));⟨x.g,x.r⟩⟩⟩
theorem oy (f:Fs F z m Y) {vs:List V} {ws:List Value} {as:List Addr} (q:J5 T z.W z.U z.s.heap vs ws as):(∀a,a∈as->l8 F z a)->as.Nodup->vs.all oD=true->uA F z m Y vs ws as:=by
 induction q with
 |nil=>exact fun J J J=>⟨[],[],f.holds (fun J J J q=>nomatch q) (fun J J q=>nomatch q),(fun J q=>nomatch q),fun J J J J=>⟨.nil,(fun J q=>nomatch q),List.nodup_nil,rfl⟩⟩
 |plain v w vs ws as hm hv q ih=>
  exact fun hl hn hg=>a7 hg fun g1 g2=>match ih hl hn g2 with
   |⟨H,Hv,f',ha,back⟩=>
    have g:=rF g1 hm
    have f2:Fs (F.hold H ((v,w)::Hv)) z m Y:=⟨f'.cx,⟨f.st.v5,f.st.inj,f.st.aR,f.st.O3,f.st.cB,f.st.aw,f.st.old⟩,f'.out,⟨fun a o b q=>have x:=f'.hd.objs a o b q;⟨x.at_,x.nm,x.nn,x.nc,x.own,x.nb⟩,fun v' w' q=>(Of q).elim (fun e=>by cases e;exact⟨g,hv.vs g⟩) fun q=>have x:=f'.hd.vals v' w' q;⟨x.g,x.r⟩⟩⟩
    ⟨H,(v,w)::Hv,f2,ha,fun z' m' c7 k=>have x:=k.hd.vals v w (.head _);have b:=back z' m' c7 (k.N7 (fun J q=>q) fun J q=>.tail _ q);⟨.plain v w vs ws as hm (.mk _ _ x.r) b.r,b.l,b.nd,Bool.and_eq_true_iff.mpr ⟨g1,b.g⟩⟩⟩
 |own v a vs ws as ha' q' q ih=>
  exact fun hl hn hg=>a7 hg fun g1 g2=>match ih (fun b k=>hl b (.tail _ k)) (List.nodup_cons.mp hn).2 g2 with
   |⟨H,Hv,f',ha,back⟩=>by
    have na:=(List.nodup_cons.mp hn).1
    have l:=hl a (.head _)
    induction q' with
    |d=>exact Bool.noConfusion g1
    |l xs us l1 r1=>
     obtain⟨i,e⟩:=id l1
     have f2:Fs (F.hold ((a,CH us i,true)::H) (xs.zip us++Hv)) z m Y:=⟨f'.cx,⟨f.st.v5,f.st.inj,f.st.aR,f.st.O3,f.st.cB,f.st.aw,f.st.old⟩,f'.out,⟨fun b o bb q=>(Of q).elim (fun e2=>by cases e2;exact⟨e,(f.cx.rel.o5.own a l.C8).nm,l.NT,l.cell,fun J=>l.C8,fun q=>nomatch q⟩) fun q=>have x:=f'.hd.objs b o bb q;⟨x.at_,x.nm,x.nn,x.nc,x.own,x.nb⟩,
      fun v' w' q=>(OG q).elim (fun q=>(OG q).elim (fun q=>have k:=X0 r1 v' w' q;⟨k.1,k.2⟩) fun q=>have x:=f'.hd.vals v' w' (Oa _ q);⟨x.g,x.r⟩) fun q=>have x:=f'.hd.vals v' w' (Ob _ q);⟨x.g,x.r⟩⟩⟩
     refine⟨_,_,f2,fun p hp=>(Of hp).elim (fun e=>e▸.head _) fun hp=>.tail _ (ha p hp),fun z' m' c7 k=>?_⟩
     have x:=k.hd.objs a _ true (.head _)
     have b:=back z' m' c7 (k.N7 (fun J q=>.tail _ q) fun J q=>Ob _ q)
     have la:l8 F z' a:=⟨x.own rfl,x.nn,x.nc,l.new,l.out,l.held⟩
     exact⟨.own _ a vs ws as (x.own rfl) (.l xs us ⟨i,x.at_⟩ (eO r1.length fun v w q=>have y:=k.hd.vals v w (Oa _ (Oa _ q));⟨y.g,y.r⟩)) b.r,fun c hc=>(Of hc).elim (fun e=>e▸la) (b.l c),List.nodup_cons.mpr ⟨na,b.nd⟩,Bool.and_eq_true_iff.mpr ⟨g1,b.g⟩⟩
def DR (F:Fx T) (P:Pg) (r:Ev) (E:Value->Shared->Prop) (t:Mine.T) (act:Value->Sem Unit):Prop:=
 ∀{H:List (Addr×Obj×Bool)} {Hv:List (V×Value)} {z:Zt} {m:Fr} {Y:Hp} {v:V} {w:Value} {K:Fr->Hp->Prop} {Q:Unit->Shared->Prop},Fs (F.hold H Hv) z m Y->Gv (F.hold H Hv) z v w->(store P r t v m Y).c4 K (XF F E)->(∀m' c7 z',K m' c7->Fs (F.hold H Hv) z' m' c7->Q () z'.s)->wpAny (model T.prog T.w) F.A (act w) Q E z.s
inductive Stores (F:Fx T) (P:Pg) (r:Ev) (E:Value->Shared->Prop):List Mine.T->List (Value->Sem Unit)->Prop
 |nil:Stores F P r E [] []
 |cons (t:Mine.T) (act:Value->Sem Unit) (ts:List Mine.T) (acts:List (Value->Sem Unit)):DR F P r E t act->Stores F P r E ts acts->Stores F P r E (t::ts) (act::acts)
theorem bW {ts:List Mine.T} {acts:List (Value->Sem Unit)} (tt:Stores F P r E ts acts) {Q:Unit->Shared->Prop} {K:Fr->Hp->Prop}:∀{z:Zt} {m:Fr} {Y:Hp} {vs:List V} {ws:List Value} {as:List Addr},Fs F z m Y->Ih F z vs ws as->(storeAll P r ts vs m Y).c4 K (XF F E)->(∀m' c7 z',K m' c7->Fs F z' m' c7->Q () z'.s)->
 wpAny (model T.prog T.w) F.A (assignInOrder acts ws) Q E z.s:=by
 induction tt with
 |nil=>intro z m Y vs ws as f g h k;induction g.r with
  |nil=>exact NW (k _ _ z h f)
  |_=>exact h.elim
 |cons t act ts acts hs _ ih=>
  intro z m Y vs ws as f g h k
  obtain⟨r',l,nd,gg⟩:=g
  have go:∀{v:V} {w:Value} {vs:List V} {ws:List Value} {as:List Addr},uA F z m Y vs ws as->(∀H Hv,(∀p,p∈H->p.1∈as)->Gv (F.hold H Hv) z v w)->((store P r t v m Y).bind fun m Y=>storeAll P r ts vs m Y).c4 K (XF F E)->wpAny (model T.prog T.w) F.A (assignInOrder (act::acts) (w::ws)) Q E z.s:=fun{v w vs ws as} ah gv h=>match ah with
   |⟨H,Hv,f',ha,back⟩=>NU (Oo (hs f' (gv H Hv ha) (R.d5.mp h) fun m₂ n9 Iz h B8=>ih B8.y7 (back _ _ _ B8) h k))
  induction r' with
  |nil=>exact h.elim
  |plain v w vs ws as hm hv q=>exact a7 gg fun g1 g2=>go (oy f q l nd g2) (fun J J J=>.plain w hm hv) h
  |own v a vs ws as ha q' q=>exact a7 gg fun g1 g2=>go (oy f q (fun b k=>l b (.tail _ k)) (List.nodup_cons.mp nd).2 g2) (fun H Hv hh=>.own a ((l a (.head _)).hold fun p hp e=>(List.nodup_cons.mp nd).1 (e▸hh p hp)) q') h
end
section
variable {Q:Flow->Shared->Prop}
theorem J5.C8 {W:r9} {U:List Addr} {h:Heap} {vs:List V} {ws:List Value} {as:List Addr} (q:J5 T W U h vs ws as):∀a,a∈as->a∈W.own:=by
 induction q with
 |nil=>exact fun J q=>nomatch q
 |plain _ _ _ _ _ _ _ _ ih=>exact ih
 |own v a vs ws as ha _ _ ih=>exact fun b hb=>(Of hb).elim (fun e=>e▸ha) (ih b)
theorem J5.len {W:r9} {U:List Addr} {h:Heap} {vs:List V} {ws:List Value} {as:List Addr} (q:J5 T W U h vs ws as):ws.length=vs.length:=by
 induction q with
 |nil=>rfl
 |plain _ _ _ _ _ _ _ _ ih=>exact Oh (· +1) ih
 |own _ _ _ _ _ _ _ _ ih=>exact Oh (· +1) ih
theorem J5.step {W:r9} {U d7:List Addr} {s s':Shared} {Y c7:Hp} (c:d9 T W U Y s.heap) (o:i4 T W U s c7 d7 s') {vs:List V} {ws:List Value} {as:List Addr} (q:J5 T W U s.heap vs ws as):J5 T W d7 s'.heap vs ws as:=by
 induction q with
 |nil=>exact .nil
 |plain v w vs ws as hm hv _ ih=>exact .plain v w vs ws as hm (o.ext.vr hv) ih
 |own v a vs ws as ha q _ ih=>exact .own v a vs ws as ha (q.mv o.ext.ms (o.ext.ownAt c.o5 ha)) ih
theorem J5.rev {W:r9} {U:List Addr} {h:Heap} {vs:List V} {ws:List Value} {as:List Addr} (q:J5 T W U h vs ws as):∀{vs':List V} {ws':List Value} {as':List Addr},J5 T W U h vs' ws' as'->J5 T W U h (vs.reverseAux vs') (ws.reverseAux ws') (as.reverseAux as'):=by
 induction q with
 |nil=>exact fun q=>q
 |plain v w vs ws as hm hv _ ih=>exact fun q=>ih (.plain v w _ _ _ hm hv q)
 |own v a vs ws as ha q' _ ih=>exact fun q=>ih (.own v a _ _ _ ha q' q)
theorem Ih.rev {vs:List V} {ws:List Value} {as:List Addr} (g:Ih F z vs ws as):Ih F z vs.reverse ws.reverse as.reverse:=
 ⟨g.r.rev .nil,fun a ha=>g.l a (List.mem_reverse.mp ha),(List.reverse_perm _).nodup_iff.mpr g.nd,(List.all_reverse ..).trans g.g⟩
theorem F4 {b:Addr} {h h':Heap} (x:Heap.ExtBut b h h') (hb:h.get? b=none):∀a o,h.get? a=some o->h'.get? a=some o:=fun a o e=>x a o (fun q=>d0 (q▸hb) e) e
theorem l8.to {a:Addr} {U:List Addr} {s:Shared} (l:l8 F z a):l8 F (z.to U s) a:=⟨l.C8,l.NT,l.cell,l.new,l.out,l.held⟩
theorem eT (hr:g7 T n r.ev) (rm:Rm F n) (f:Fs F z m Y) {ts:List Mine.T} {es:List X} {es':List Ex} {kk i:Nat} {p:Pos} {Q:Value->Shared->Prop} {K:Fl×Fr->Hp->Prop} {g:List V->Hp->R (Fl×Fr)} (t:Z2 T F.env.kindOf es es')
 (h:((m7 r m es Y).bind fun vs Y=>(b8 i (gd (Hg ts vs) ()) Y).bind fun J Y=>g vs Y).c4 K (XF F E))
 (k:∀vs c7 z' a ws as,Fs F z' m c7->mA z'.s.heap a ws->Ih F z' vs ws as->ws.length=ts.length->(g vs c7).c4 K (XF F E)->Q (.ref a) z'.s):wpAny (model T.prog T.w) F.A (PySem.eval (.Tuple es' kk p) F.env) Q E z.s:=
 wpAny_Tuple_spliced (jB hr t (f.mz rm.r) (R.c4.mono (R.d5.mp h) (fun vs c9 h ws c5 c8 o x=>a9 h fun J e h=>i9 e fun e J=>a7 e fun e1 e=>a7 e fun e2 e3=>match x with
  |⟨W',as,g,hr',q,nd,nw⟩=>by
   have z8:=f.grow o g hr'
   have i8:i4 T W' c8 c5 c9 c8 {c5 with heap:=c5.heap.push {cls:=.type "tuple",data:=.seq ws.toArray}}:=i4.keeps (t:=c5.toks) hr' (g9 _ _)
   exact⟨by rw[q.len];exact u7 e3,k vs c9 _ _ ws as (z8.step i8) ⟨_,Od _ rfl⟩ ⟨q.step hr' i8,fun a ha=>(f.loose (nw a ha) (q.C8 a ha)).to,nd,e1⟩ (q.len.trans (Om e2)) h⟩) fun J J x=>f.xv x))
theorem V0 (tk:E4 T P) (hr:g7 T n r.ev) (rm:Rm F n) {ts:List Mine.T} {ts':List Ex} (t:mj T F.env.kindOf ts ts'):Stores F P r E ts ((assignEach ts' F.env).map (·.2))∧(assignEach ts' F.env).length=ts.length∧(assignEach ts' F.env).findIdx? (·.1)=none:=by
 induction t with
 |nil=>exact⟨.nil,rfl,rfl⟩
 |cons t t' ts ts' tt _ ih=>
  rw[bw tt]
  exact⟨.cons _ _ _ _ (fun{H Hv _ _ _ _ _ _ _} f gv h k=>iO (F:=F.hold H Hv) tk rm.hold.c hr rm.r f tt gv h k) ih.1,Oh (· +1) ih.2.1,by rw[List.findIdx?_cons,ih.2.2];rfl⟩
theorem gr (f:Fs F z m Y):F.env.blockKind=.function:=by
 unfold Env.blockKind
 rw[f.cx.fr.kind];rfl
theorem lO (tk:E4 T P) (hr:g7 T n r.ev) (rm:Rm F n) (f:Fs F z m Y) {ts:List Mine.T} {es:List X} (t:I9 T F.env.kindOf (.M9 ts es) st) (h:(g8 P r m (.M9 ts es) Y).c4 (KF F Q) (XF F E)):wpAny (model T.prog T.w) F.A (exec st F.env) Q E z.s:=
 t.sk fun ts' es' i q j u p tt te hw=>Assign_Tuple (eT hr rm f te h fun vs c7 z' a ws as f ht g hl h=>match V0 (E:=E) tk hr rm tt with
  |⟨ss,e1,e2⟩=>wpAny_assign_Tuple f.cx.ar.handled ht.tup (e1.trans (hl.symm.trans (Ou ..).symm)) e2 fun h' he=>by
   have i8:i4 T z'.W z'.U z'.s c7 z'.U {z'.s with heap:=h'}:=i4.keeps (t:=z'.s.toks) f.cx.rel (F4 he (none_at_size _))
   exact bW ss (f.step i8) ⟨g.r.step f.cx.rel i8,fun a ha=>(g.l a ha).to,g.nd,g.g⟩ (R.d5.mp h) fun m' c7 z' h f=>h z' f) rfl (sO (gr f) hw)
theorem qU (tk:E4 T P) (cn:jQ F) {ts:List Mine.T}:∀{xs:List Nat},yL ts=some xs->(∀x,x∈xs->s6 T F.env.kindOf x)->∀{ts':List Mine.T} {acts:List (Value->Sem Unit)},Stores F P r E ts' acts->Stores F P r E (ts.reverseAux ts') ((xs.map fun x=>bindName F.env (T.nm x)).reverseAux acts):=by
 induction ts with
 |nil=>exact fun e J J J s=>by cases e;exact s
 |cons t ts ih=>
  intro xs e hs ts' acts s
  refine a0 e fun x ex e=>d8 e fun ys ey e=>?_
  subst e
  refine ih ey (fun y hy=>hs y (.tail _ hy)) (.cons t (bindName F.env (T.nm x)) _ _ ?_ s)
  intro H Hv z m Y v w K Q f gv h k
  have hx:=hs x (.head _)
  induction t with
  |NT y=>cases ex;exact wpAny_bindName (fc (F:=F.hold H Hv) tk f (s6.Ko (F:=F.hold H Hv) hx ⟨cn.wG,cn.DA⟩) gv h k)
  |B3 y=>cases ex;exact wpAny_bindName (bV (F:=F.hold H Hv) tk f (s6.Ko (F:=F.hold H Hv) hx ⟨cn.wG,cn.DA⟩) gv h k)
  |_=>exact ns ex
theorem yK {ts:List Mine.T}:∀{xs:List Nat},yL ts=some xs->xs.length=ts.length:=by
 induction ts with
 |nil=>exact fun e=>by cases e;rfl
 |cons t ts ih=>exact fun e=>a0 e fun x ex e=>d8 e fun ys ey e=>e▸Oh (· +1) (ih ey)
theorem lN (tk:E4 T P) (hr:g7 T n r.ev) (rm:Rm F n) (f:Fs F z m Y) {ts:List Mine.T} {es:List X} (t:I9 T F.env.kindOf (.F6 ts es) st) (h:(g8 P r m (.F6 ts es) Y).c4 (KF F Q) (XF F E)):wpAny (model T.prog T.w) F.A (exec st F.env) Q E z.s:=
 t.sj fun ts' es' xs i q j u p hx te hw hs=>Assign_Tuple_swapped (eT hr rm f te h fun vs c7 z' a ws as f ht g hl h=>by
  have hlen:(xs.map T.nm).length=ws.toArray.size:=by
   rw[Oi,Ou,hl]
   exact yK hx
  rw[hlen]
  refine wpAny_unpackItems_tuple f.cx.ar.handled ht.tup fun h' he=>?_
  have i8:i4 T z'.W z'.U z'.s c7 z'.U {z'.s with heap:=h'}:=i4.keeps (t:=z'.s.toks) f.cx.rel (F4 he (none_at_size _))
  rw[show((xs.map T.nm).reverse.map fun n=>bindName F.env n)=(xs.map fun x=>bindName F.env (T.nm x)).reverse by rw[←List.map_reverse,List.map_map,List.map_reverse];rfl]
  exact bW (qU tk rm.c hx hs .nil) (f.step i8) (Ih.rev ⟨g.r.step f.cx.rel i8,fun a ha=>(g.l a ha).to,g.nd,g.g⟩) (R.d5.mp h) fun m' c7 z' h f=>h z' f) rfl (sO (gr f) hw)
theorem z1.Ca {W:r9} {U:List Addr} {h:Heap} {xs:List V} {ws:List Value} (q:E3 T W U h xs ws):J5 T W U h xs ws []:=by
 induction xs generalizing ws with
 |nil=>cases q;exact .nil
 |cons x xs ih=>cases q with|cons _ w _ _ g a q=>exact .plain x w xs _ [] (P2 g) (.mk _ _ a) (ih q)
theorem z1.oD {bad:Addr->Prop} {U:List Addr} {h:Heap} {xs:List V} {ws:List Value} (q:z1 T U bad h xs ws):xs.all Mine.oD=true:=by
 induction xs generalizing ws with
 |nil=>rfl
 |cons x xs ih=>cases q with|cons _ w _ _ g a q=>exact Bool.and_eq_true_iff.mpr ⟨by
  cases x with
  |ct=>cases a with
   |G3 _ _ a=>cases a
   |je _ _ _ _ e=>exact ns e
   |my _ _ _ _ e=>exact ns e
  |snap|Z9|E1=>exact Bool.noConfusion g
  |_=>rfl,ih q⟩
theorem VR.zY {bad f7:Addr->Prop} {U:List Addr} {h:Heap} {v:V} {w:Value} {xs:List V} {G:Value->Prop} (hv:VR T U bad f7 h v w) (e:wg v=some xs) (k1:∀a ws,mA h a ws->¬bad a->z1 T U bad h xs ws->G (.ref a)) (k2:∀a ws,R6 h a ws->¬bad a->z1 T U bad h xs ws->G (.ref a)):G w:=by
 cases v with
 |tup=>cases e;exact hv.E6 k1
 |lst=>cases e;exact hv.z0 rfl fun a ws l n q=>k2 a ws l (n rfl) q
 |g6=>cases e;exact hv.z0 rfl fun a ws l n q=>k2 a ws l (n rfl) q
 |_=>exact ns e
theorem iK {W:r9} {U:List Addr} {s:Shared} {A:Around} {env:Env} {ts':List Ex} {i:Nat} {q:Pos} {v:V} {w:Value} {xs:List V} {Q:Unit->Shared->Prop} (hh:A.handled=none) (hv:C4 T W U s.heap v w) (ex:wg v=some xs) (e1:(assignEach ts' env).length=xs.length) (e2:(assignEach ts' env).findIdx? (·.1)=none)
 (U1:∀ws,E3 T W U s.heap xs ws->∀h',(∀a o,s.heap.get? a=some o->h'.get? a=some o)->wpAny (model T.prog T.w) A (assignInOrder ((assignEach ts' env).map (·.2)) ws) Q E {s with heap:=h'}):wpAny (model T.prog T.w) A (assign (.Tuple ts' i q) env w) Q E s:=by
 have hn:∀{ws:List Value},E3 T W U s.heap xs ws->(assignEach ts' env).length=ws.toArray.size:=fun qs=>by rw[e1,Ou,qs.length]
 refine VR.zY (G:=fun w=>wpAny (model T.prog T.w) A (assign (.Tuple ts' i q) env w) Q E s) hv ex (fun a ws l J qs=>wpAny_assign_Tuple hh l.tup (hn qs) e2 fun h' he=>U1 ws qs h' (F4 he (none_at_size _))) fun a ws l J qs=>?_
 rw[arm_assign_Tuple]
 refine NU (Ow ?_)
 unfold unpack
 rw[hn qs,e2]
 exact NU (Oo (kun_itemsOf hh l.list fun h' he=>U1 ws qs h' (F4 he (none_at_size _))))
theorem oZ {kd:Kd} {e:X} {e':Ex} (te:Tr T kd e e') (h2:B4 e'=false) {ts':List Ex} {i line:Nat} {q:Pos} {env:Env}:swapsWithSole [.Tuple ts' i q] e' line env=pure false:=
 Tr.all (G:=fun e'=>B4 e'=false->swapsWithSole [.Tuple ts' i q] e' line env=pure false) te (fun J J J=>rfl) (fun J J J J=>rfl) (fun J J J J J=>rfl) (fun J J J J=>rfl) (fun J J J J=>rfl) (fun J J J J J=>rfl) (fun J J J J J=>rfl) (fun J J J J=>rfl) (fun J J J J=>rfl) (fun J J J J=>rfl) (fun J J J=>rfl) (fun J J J J=>rfl) (fun J J J J=>rfl) (fun J J J J hc=>Bool.noConfusion hc) h2
theorem sL {kd:Kd} {e:X} {e':Ex} (te:Tr T kd e e') (h1:cw e'=false) {ts':List Ex} {i:Nat} {q:Pos} {env:Env}:swappedStores [.Tuple ts' i q] e' env=pure none:=
 Tr.all (G:=fun e'=>cw e'=false->swappedStores [.Tuple ts' i q] e' env=pure none) te (fun J J J=>rfl) (fun J J J J=>rfl) (fun J J J J J=>rfl) (fun J J J J=>rfl) (fun J J J J=>rfl) (fun J J J J J=>rfl) (fun J J J J J=>rfl) (fun J J J J=>rfl) (fun J J J J=>rfl) (fun J J J J=>rfl) (fun J J J=>rfl) (fun J J J hc=>Bool.noConfusion hc) (fun J J J J=>rfl) (fun J J J J J=>rfl) h1
theorem mF (tk:E4 T P) (hr:g7 T n r.ev) (rm:Rm F n) (f:Fs F z m Y) {ts:List Mine.T} {e:X} (t:I9 T F.env.kindOf (.H4 ts e) st) (h:(g8 P r m (.H4 ts e) Y).c4 (KF F Q) (XF F E)):wpAny (model T.prog T.w) F.A (exec st F.env) Q E z.s:=
 t.eR fun ts' e' i q p tt te h1 h2=>Assign_Tuple (f.eval hr rm.r te h fun v c9 w c5 c8 o hv hf h=>a9 h fun xs ex h=>a9 h fun J eg h=>i9 eg fun hz J=>match V0 (E:=E) tk hr rm tt with
  |⟨ss,e1,e2⟩=>iK f.cx.ar.handled hv ex (e1.trans (Om hz).symm) e2 fun ws qs h' he=>
   have i8:i4 T z.W c8 c5 c9 c8 {c5 with heap:=h'}:=i4.keeps (t:=c5.toks) o.rel he
   bW ss ((f.step o).step i8) ⟨(i8.ext.Ip qs).Ca,(fun J q=>nomatch q),List.nodup_nil,qs.oD⟩ (R.d5.mp h) fun m' c7 z' h f=>h z' f)
  (oZ te h2) (sL te h1)
end
end Mine
end
section
open PySem PySem.W PyProof.Rows PySem.Calls
open AutoSeq1 (wpAny_loadPart')
namespace Mine
noncomputable abbrev G0:=@PySem.W.KBw.IsBytesIter
theorem P9 {h h':Heap} {a:Addr} {b:Array UInt8} {t:Tok} {i:Nat} (x:G0 h a b t i) (k:∀o,h.get? a=some o->h'.get? a=some o):G0 h' a b t i:=let ⟨o,e,r⟩:=x;⟨o,k o e,r⟩
variable {prog:Program} {w:World} {A:Around} {E:Value->Shared->Prop} {s:Shared}
section
variable {b:Array UInt8} {t:Tok}
theorem ku {it:Addr} {i:Nat} {c:UInt8} {Q:Value->Shared->Prop} (hit:G0 s.heap it b t i) (hx:b[i]? =some c)
 (hQ:∀h',G0 h' it b t (i+1)->Heap.SameBut it s.heap h'->Q (.int (c.toNat:Int) s.toks) {s with heap:=h',toks:=s.toks+1}):wpAny (model prog w) A (Builtin.SmallTypes.nextOf (.ref it)) Q E s:=by
 obtain⟨o,ho,hc,hd⟩:=id hit
 unfold Builtin.SmallTypes.nextOf
 refine NU (wpAny_callSpecial?_slot (name:=Str.ofString "__next__") (KBw.iter_typeIs hit) KBw.slot_next (wpAny_call_entry KBw.slot_next (KBw.iter_typeIs hit) KBw.entry_next ?_ (KBw.args_next _)))
 show wpAny _ _ (field (.ref it) 0 >>= _) _ _ s
 refine NU (wpAny_field ho hd (x:=.bytes b t) rfl ?_)
 show wpAny _ _ (if(Value.bytes b t == Value.none)=true then _ else _) _ _ s
 rw[OC (show¬((Value.bytes b t == Value.none)=true)from Bool.false_ne_true)]
 show wpAny _ _ (field (.ref it) 1 >>= _) _ _ s
 refine NU (wpAny_field ho hd (x:=.int i 0) rfl ?_)
 refine NU (wpAny_of_eq (a:=b) rfl ?_)
 simp only[Int.toNat_natCast,hx]
 refine NU (wpAny_setField ho hd (by simp) (NU (wpAny_mkInt (NW ⟨_,rfl,NW (hQ _ ?_ (Heap.SameBut.update ..))⟩))))
 exact⟨_,Heap.get?_update_self _ ho (Obj.isFreed_of_fields (Obj.data_mapFields hd _)),(Obj.cls_mapFields ..).trans hc,by
  rw[Obj.data_mapFields hd];simp[rawInt]⟩
theorem cp {it:Addr} {i:Nat} {Q:Value->Shared->Prop} (hh:A.handled=none) (hit:G0 s.heap it b t i) (hx:b[i]? =none)
 (hE:∀h' e,Heap.ExtBut it s.heap h'->(∃o,h'.get? e=some o∧o.cls=.type "StopIteration")->E (.ref e) {s with heap:=h'}):
 wpAny (model prog w) A (Builtin.SmallTypes.nextOf (.ref it)) Q E s:=by
 obtain⟨o,ho,hc,hd⟩:=id hit
 unfold Builtin.SmallTypes.nextOf
 refine NU (wpAny_callSpecial?_slot (name:=Str.ofString "__next__") (KBw.iter_typeIs hit) KBw.slot_next (wpAny_call_entry KBw.slot_next (KBw.iter_typeIs hit) KBw.entry_next ?_ (KBw.args_next _)))
 show wpAny _ _ (field (.ref it) 0 >>= _) _ _ s
 refine NU (wpAny_field ho hd (x:=.bytes b t) rfl ?_)
 show wpAny _ _ (if(Value.bytes b t == Value.none)=true then _ else _) _ _ s
 rw[OC (show¬((Value.bytes b t == Value.none)=true)from Bool.false_ne_true)]
 show wpAny _ _ (field (.ref it) 1 >>= _) _ _ s
 refine NU (wpAny_field ho hd (x:=.int i 0) rfl ?_)
 refine NU (wpAny_of_eq (a:=b) rfl ?_)
 simp only[Int.toNat_natCast,hx]
 refine NU (wpAny_rule (NU (wpAny_setField ho hd (by simp) ?_)))
 show wpAny _ _ (newExc (.type "StopIteration") [] >>= _) _ _ _
 refine NU ?_
 simp only[newExc,newTuple]
 refine NU (wpAny_newObj_type ?_ (by size_fits))
 refine NU (m:=firstArgMember _ _) (wpAny_of_eq (a:=Value.none) (by first|rfl|(simp only[firstArgMember];rfl)) ?_)
 refine wpAny_newObj_type ?_ (by size_fits)
 simp only[raiseNew]
 refine NU (wpAny_handled ?_)
 first|rw[show A.in1.handled=none from hh]|rw[hh]
 refine NU (NW (wpAny_throw ?_))
 exact hE _ _ (((Heap.SameBut.update ..).extBut.push _).push _) ⟨_,Od _ rfl,rfl⟩
theorem rQ {e it:Addr} {i:Nat} {c:UInt8} {old:Value} {Q:Value->Shared->Prop}
 (he:IsEnum s.heap e it i old) (hit:G0 s.heap it b t i) (hx:b[i]? =some c) (hne:e≠it)
 (hQ:∀h',IsEnumOut h' e it ((i:Int)+1) (.int (c.toNat:Int) s.toks) s.heap.objs.size->G0 h' it b t (i+1)->
  h'.get? s.heap.objs.size=some {cls:=.type "tuple",data:=.seq #[.int i (s.toks+1),.int (c.toNat:Int) s.toks]}->h'.objs.size=s.heap.objs.size+1->
  (∀b o,b≠e->b≠it->s.heap.get? b=some o->h'.get? b=some o)->Q (.ref s.heap.objs.size) {s with heap:=h',toks:=s.toks+1+1}):
 wpAny (model prog w) A (Builtin.«enumerate.__next__» ⟨[.ref e],[]⟩) (fun U1 s'=>∃v,U1=.done (.ret v)∧Q v s') E s:=by
 obtain⟨hp,g,d,tk,os⟩:=s
 show wpAny _ _ (field (.ref e) 2 >>= _) _ _ _
 refine NU (wpAny_field he rfl (x:=.ref it) rfl ?_)
 refine NU (ku hit hx fun n6 zG jr=>?_)
 replace jr:Heap.SameBut it hp n6:=jr
 have gm:IsEnum n6 e it i old:=(jr.2 e hne).trans he
 show wpAny _ _ (field (.ref e) 3 >>= _) _ _ ⟨n6,g,d,tk+1,os⟩
 refine NU (wpAny_field gm rfl (x:=rawInt i) rfl ?_)
 show wpAny _ _ (field (.ref e) 4 >>= _) _ _ ⟨n6,g,d,tk+1,os⟩
 refine NU (wpAny_field gm rfl (x:=.none) rfl ?_)
 show wpAny _ _ (mkInt i >>= _) _ _ ⟨n6,g,d,tk+1,os⟩
 refine NU (wpAny_mkInt ?_)
 show wpAny _ _ (setField (.ref e) 3 (rawInt ((i:Int)+1)) >>= _) _ _ ⟨n6,g,d,tk+1+1,os⟩
 refine NU (wpAny_setField_rec gm (by simp) fun r3 tQ jq=>?_)
 replace jq:Heap.SameBut e n6 r3:=jq
 replace tQ:IsEnum r3 e it ((i:Int)+1) old:=tQ
 show wpAny _ _ (setField (.ref e) 4 .none >>= _) _ _ ⟨r3,g,d,tk+1+1,os⟩
 refine NU (wpAny_setField_rec tQ (by simp) fun T9 tP jo=>?_)
 replace jo:Heap.SameBut e r3 T9:=jo
 replace tP:IsEnum T9 e it ((i:Int)+1) old:=tP
 show wpAny _ _ (newTuple [.int i (tk+1),.int (c.toNat:Int) tk] >>= _) _ _ ⟨T9,g,d,tk+1+1,os⟩
 refine NU (wpAny_newTuple ?_)
 have tO:IsEnum (T9.push {cls:=.type "tuple",data:=.seq #[.int i (tk+1),.int (c.toNat:Int) tk]}) e it ((i:Int)+1) old:=Oc _ tP
 generalize oz:T9.push {cls:=.type "tuple",data:=.seq #[.int i (tk+1),.int (c.toNat:Int) tk]}=ou at tO
 have hsz:T9.objs.size=hp.objs.size:=by rw[jo.1,jq.1,jr.1]
 have hel:e < hp.objs.size:=OE he
 have JJ:ou.get? hp.objs.size=some {cls:=.type "tuple",data:=.seq #[.int i (tk+1),.int (c.toNat:Int) tk]}:=by rw[←oz,←hsz];exact Od _ rfl
 have JH:ou.objs.size=hp.objs.size+1:=by rw[←oz,Heap.size_push,hsz]
 have JL:∀b o,b≠e->b≠it->hp.get? b=some o->ou.get? b=some o:=fun b o hbe hbi hb=>by
  rw[←oz];exact Oc _ (jo.extBut b o hbe (jq.extBut b o hbe (jr.extBut b o hbi hb)))
 have GY:G0 ou it b t (i+1):=P9 zG fun o ho=>by
  rw[←oz];exact Oc _ (jo.extBut it o (Ne.symm hne) (jq.extBut it o (Ne.symm hne) ho))
 show wpAny _ _ (Builtin.SmallTypes.ownedTupleIsFree (.ref e) >>= _) _ _ ⟨ou,g,d,tk+1+1,os⟩
 rw[hsz]
 clear oz tP jo tQ jq gm jr zG hsz T9 r3 n6
 refine NU ?_
 unfold Builtin.SmallTypes.ownedTupleIsFree
 refine NU (wpAny_field tO rfl (x:=.none) rfl (NW ?_))
 simp only[if_true]
 refine NU (wpAny_rule ?_)
 refine NU (wpAny_field tO rfl (x:=old) rfl ?_)
 refine NU (wpAny_setField_rec tO (by simp) fun il zJ bl=>?_)
 replace bl:Heap.SameBut e ou il:=bl
 replace zJ:IsEnum il e it ((i:Int)+1) (.int (c.toNat:Int) tk):=zJ
 show wpAny _ _ (Builtin.SmallTypes.ownedTupleHandOut (.ref e) (.ref hp.objs.size) >>= _) _ _ ⟨il,g,d,tk+1+1,os⟩
 refine NU ?_
 unfold Builtin.SmallTypes.ownedTupleHandOut
 refine NU (wpAny_setField_rec zJ (by simp) fun GX zI jn=>?_)
 replace jn:Heap.SameBut e il GX:=jn
 replace zI:IsEnumOut GX e it ((i:Int)+1) (.int (c.toNat:Int) tk) hp.objs.size:=zI
 refine wpAny_setField_rec zI (by simp) fun GW zH jm=>?_
 replace jm:Heap.SameBut e GX GW:=jm
 replace zH:IsEnumOut GW e it ((i:Int)+1) (.int (c.toNat:Int) tk) hp.objs.size:=zH
 refine NU (wpAny_letGo (NW ⟨_,rfl,hQ GW zH ?_ ?_ ?_ ?_⟩))
 ·exact P9 GY fun o ho=>jm.extBut it o (Ne.symm hne) (jn.extBut it o (Ne.symm hne) (bl.extBut it o (Ne.symm hne) ho))
 ·exact jm.extBut _ _ (Nat.ne_of_gt hel) (jn.extBut _ _ (Nat.ne_of_gt hel) (bl.extBut _ _ (Nat.ne_of_gt hel) JJ))
 ·rw[jm.1,jn.1,bl.1,JH]
 ·exact fun b o hbe hbi hb=>jm.extBut b o hbe (jn.extBut b o hbe (bl.extBut b o hbe (JL b o hbe hbi hb)))
end
theorem Fm {prog:Program} {w:World} {A:Around} (hh:A.handled=none) (e it:Addr) (hei:e≠it) (b:Array UInt8) (t:Tok):
 WalksT prog w A e [e,it] [e,it] b.size
  (fun i vals=>∃t1 t2 c,b[i]? =some c∧vals= #[.int i t1,.int (c.toNat:Int) t2])
  (fun i h=>(∃old,IsEnum h e it i old)∧G0 h it b t i)
  (fun i T h=>(∃x,IsEnumOut h e it ((i:Int)+1) x T)∧G0 h it b t (i+1)∧T≠e∧T≠it) where
 sub:=fun J hb=>hb
 frame:=fun i h h' hst hk=>by
  obtain⟨⟨old,he⟩,hit⟩:=hst
  exact⟨⟨old,hk e (by simp) _ he⟩,P9 hit fun o x=>hk it (by simp) o x⟩
 item:=fun i s Q E hi hst hQ=>by
  obtain⟨⟨old,he⟩,hit⟩:=hst
  have hx:b[i]? =some b[i]:=Array.getElem?_eq_getElem hi
  have hT:s.TypeIs (.ref e) "enumerate":=⟨_,he,rfl⟩
  unfold pyNext
  refine NU (wpAny_attempt (wpAny_callSpecial?_slot (name:=Str.ofString "__next__") hT F.slot_enumerate_next
   (wpAny_call_entry F.slot_enumerate_next hT F.entry_enumerate_next (rQ he hit hx hei fun h' ho hit' hTt hsz hk=>NW ?_) (F.args_enumerate_next_1 _))))
  have helt:e < s.heap.objs.size:=OE he
  have hilt:it < s.heap.objs.size:=by obtain⟨_,x,_⟩:=hit;exact OE x
  exact hQ s.heap.objs.size _ h' (s.toks+1+1) ⟨_,_,_,hx,rfl⟩ (OF _) ⟨_,hTt,rfl,_,rfl⟩
   ⟨⟨_,ho⟩,hit',Nat.ne_of_gt helt,Nat.ne_of_gt hilt⟩
   fun b o hb x=>hk b o (fun e'=>hb (by simp[e'])) (fun e'=>hb (by simp[e'])) x
 go:=fun elts k pos i T s Q E hm hQ=>by
  obtain⟨⟨x,ho⟩,hit,hTe,hTi⟩:=hm
  refine wpAny_letOwnedTupleGo_enum ho fun h' he' hs'=>hQ h' ⟨⟨x,by simpa using he'⟩,P9 hit fun o y=>(hs'.2 it hei.symm).trans y⟩ fun b o hb y=>?_
  exact(hs'.2 b fun e'=>hb (by simp[e'])).trans y
 apart:=fun i T h hm hT=>by
  obtain⟨_,_,hTe,hTi⟩:=hm
  rcases Of hT with rfl|hT
  ·exact hTe rfl
  ·rcases Of hT with rfl|hT
   ·exact hTi rfl
   ·cases hT
 done:=fun s Q E hst hQ=>by
  obtain⟨⟨old,he⟩,hit⟩:=hst
  have hT:s.TypeIs (.ref e) "enumerate":=⟨_,he,rfl⟩
  unfold pyNext
  refine NU (wpAny_attempt (wpAny_callSpecial?_slot (name:=Str.ofString "__next__") hT F.slot_enumerate_next
   (wpAny_call_entry F.slot_enumerate_next hT F.entry_enumerate_next ?_ (F.args_enumerate_next_1 _))))
  show wpAny _ _ (field (.ref e) 2 >>= _) _ _ _
  refine NU (wpAny_field he rfl (x:=.ref it) rfl ?_)
  refine NU (cp hh hit (Array.getElem?_eq_none (OF _)) fun h' x he' hx'=>?_)
  obtain⟨o,ho,hc⟩:=hx'
  refine NU (wpAny_isInstance (T:="StopIteration") (b:=true) ⟨o,ho,hc⟩ isSubtype_stop ?_)
  exact NW (hQ h' s.toks fun b o hb y=>he' b o (fun e'=>hb (by simp[e'])) y)
 self:=fun i s Q E hst hQ=>by
  obtain⟨⟨old,he⟩,_⟩:=hst
  exact wpAny_pyIter_enum he hQ
set_option maxHeartbeats 1000000 in
theorem T4 (b:Array UInt8) (t:Tok):
 Meets (Builtin.«enumerate.__new__» ⟨[.type "enumerate",.bytes b t],[]⟩) (fun J R s=>
  R (.ok (.ret (.ref (s.heap.push {cls:=.type "bytes_iterator",data:=.fields #[.bytes b t,.int 0 0]}).objs.size)))
   {s with heap:=(s.heap.push {cls:=.type "bytes_iterator",data:=.fields #[.bytes b t,.int 0 0]}).push {cls:=.type "enumerate",data:=.fields #[.none,.bool false,.ref s.heap.objs.size,rawInt 0,.none,.none]}}):=
 .of_wp fun prog w A R s h=>by
  obtain⟨hp,g,d,tk,os⟩:=s
  have hsub:=sub_enumerate
  wp_walk
  refine wpAny_stack_any fun st=>NW ?_
  split
  ·rename_i c _ _ _ _ _
   induction (c == Value.type "enumerate")
   ·wp_walk using KBw.pyIter_bytes
    exact⟨_,rfl,h⟩
   ·wp_walk using KBw.pyIter_bytes
    exact⟨_,rfl,h⟩
  ·wp_walk using KBw.pyIter_bytes
   exact⟨_,rfl,h⟩
section
theorem U5 {b:Array UInt8} {t:Tok} {Q:Value->Shared->Prop}
 (h:∀h',IsEnum h' (s.heap.objs.size+1) s.heap.objs.size 0 .none->G0 h' s.heap.objs.size b t 0->h'.objs.size=s.heap.objs.size+2->
  (∀b o,s.heap.get? b=some o->h'.get? b=some o)->Q (.ref (s.heap.objs.size+1)) {s with heap:=h'}):
 wpAny (model prog w) A (call (.type "enumerate") [.bytes b t]) Q E s:=by
 refine callType_new F.called_enumerate (by decide) (F.typeCall_enumerate_1 _) (F.newCall_enumerate_1 _) (fun obj=>F.args_object_init_2 obj _) F.entry_enumerate_new
  (T4 b t) ?_
 have hz:(s.heap.push {cls:=.type "bytes_iterator",data:=.fields #[.bytes b t,.int 0 0]}).objs.size=s.heap.objs.size+1:=Heap.size_push ..
 show _∧_
 rw[hz]
 have he:IsEnum ((s.heap.push {cls:=.type "bytes_iterator",data:=.fields #[.bytes b t,.int 0 0]}).push
  {cls:=.type "enumerate",data:=.fields #[.none,.bool false,.ref s.heap.objs.size,rawInt 0,.none,.none]}) (s.heap.objs.size+1) s.heap.objs.size 0 .none:=by
  have:=Od (s.heap.push {cls:=.type "bytes_iterator",data:=.fields #[.bytes b t,.int 0 0]})
   (o:={cls:=.type "enumerate",data:=.fields #[.none,.bool false,.ref s.heap.objs.size,rawInt 0,.none,.none]}) rfl
  rw[hz]at this;exact this
 refine⟨⟨_,he,rfl⟩,h _ he ⟨_,Oc _ (Od _ rfl),rfl,rfl⟩ (by rw[Heap.size_push,hz]) fun b o y=>Oc _ (Oc _ y)⟩
end
end Mine
end
section
open PySem PySem.W PyProof.Rows PySem.Calls
namespace Mine
structure AX (T:i7) (A:Around) (target:Ex) (I:Addr) (fp wr:List Addr) (n:Nat) (P Md:Nat->Value->Heap->Prop) (St:Nat->Heap->Prop):Prop where
 k:KTurns T.prog T.w A target I fp wr n P Md St
 self:∀i (s:Shared) (Q:Value->Shared->Prop) (E:Value->Shared->Prop),St i s.heap->Q (.ref I) s->wpAny (model T.prog T.w) A (pyIter (.ref I)) Q E s
 ex:∀i h,St i h->∀b,b∈wr->∃o,h.get? b=some o
 Lk:∀i v h,Md i v h->∀b,b∈wr->∃o,h.get? b=some o
inductive Lo (T:i7) (Hs:List (V×Value)) (u:V) (v:Value):Prop
 |G3 (i:bN T u v)
 |held (m:(u,v)∈Hs)
inductive KA (T:i7) (Hs:List (V×Value)) (k:Nat) (u:V) (v:Value) (h:Heap):Prop
 |one (y:Lo T Hs u v)
 |two (x y:V) (wx wy:Value) (a:Addr) (hk:k=2) (eu:u=.tup [x,y]) (ev:v=.ref a) (t:h.IsTuple a #[wx,wy]) (y1:Lo T Hs x wx) (y2:Lo T Hs y wy)
structure DT (T:i7) (W:r9) (U:List Addr) (A:Around) (target:Ex) (k:Nat) (s:Shared) (items:List V) (I:Addr) (h':Heap) (fp wr:List Addr) (P Md:Nat->Value->Heap->Prop) (St:Nat->Heap->Prop) (Hs:List (V×Value)):Prop where
 L:AX T A target I fp wr items.length P Md St
 st:St 0 h'
 kp:∀a o,s.heap.get? a=some o->h'.get? a=some o
 new:∀b,b∈wr->s.heap.get? b=none
 fp:∀b,b∈fp->b∈wr∨(¬k9 T W U b∧∃o,s.heap.get? b=some o)
 hs:∀u v,(u,v)∈Hs->solid u=true∧eK T W U s.heap u v
 it:∀i v h,P i v h->∃u,items[i]? =some u∧KA T Hs k u v h
inductive Ready (T:i7) (W:r9) (U:List Addr) (A:Around) (target:Ex) (k:Nat) (s:Shared) (items:List V):Value->Shared->Prop
 |mk (I:Addr) (h':Heap) (t:Nat) (fp wr:List Addr) (P Md:Nat->Value->Heap->Prop) (St:Nat->Heap->Prop) (Hs:List (V×Value)) (q:DT T W U A target k s items I h' fp wr P Md St Hs):Ready T W U A target k s items (.ref I) {s with heap:=h',toks:=t}
variable {T:i7} {P:Pg} {W:r9} {U:List Addr} {s:Shared} {Y:Hp} {A:Around} {E Q:Value->Shared->Prop} {target:Ex} {h:Heap}
section
variable {kx:Nat}
theorem dS {I:Addr} {fp:List Addr} {n:Nat} {P:Nat->Value->Prop} {St:Nat->Heap->Prop} (Wk:Walks T.prog T.w A I fp [I] n P St) (hgo:∀i v (s:Shared) (Q:Unit->Shared->Prop) (E:Value->Shared->Prop),St i s.heap->Q () s->wpAny (model T.prog T.w) A (letOwnedTupleGo target (.ref I) v) Q E s)
 (hex:∀i h,St i h->∃o,h.get? I=some o):AX T A target I fp [I] n (fun i v J=>P i v) (fun i v h=>P i v∧St (i+1) h) St where
 k:=KTurns.ofWalks Wk hgo
 self:=Wk.self
 ex:=fun i h st b hb=>(Og hb)▸hex i h st
 Lk:=fun i v h st b hb=>(Og hb)▸hex _ h st.2
theorem eM {xs:List V} {us:List Value} {i:Nat} {v:Value} (q:us.length=xs.length) (hp:us[i]? =some v):∃u,xs[i]? =some u∧(u,v)∈xs.zip us:=by
 have hi:i < xs.length:=q▸(List.getElem?_eq_some_iff.mp hp).1
 exact⟨xs[i],Ol hi,Oy (List.getElem?_zip_eq_some.mpr ⟨Ol hi,hp⟩)⟩
theorem ma {us:List Value} {i:Nat} {v:Value} (h:us.toArray[i]? =some v):us[i]? =some v:=(List.getElem?_toArray ..).symm.trans h
theorem dM {h:Heap}:∀b,b∈[h.objs.size]->h.get? b=none:=y9 h
theorem zN {I a:Addr} (nb:¬k9 T W U a) (ha:∃o,h.get? a=some o):∀b,b∈[I,a]->b∈[I]∨(¬k9 T W U b∧∃o,h.get? b=some o):=fun b hb=>(Of hb).elim (fun e=>.inl (e▸.head _)) fun hb=>.inr ((Og hb)▸⟨nb,ha⟩)
theorem qD {a:Addr} {xs:List V} {us:List Value} (hh:A.handled=none) (hl:R6 s.heap a us) (nb:¬k9 T W U a) (q:E3 T W U s.heap xs us) (k:∀it s2,Ready T W U A target kx s xs it s2->Q it s2):wpAny (model T.prog T.w) A (pyIter (.ref a)) Q E s:=by
 have Wk:=Walks.list (prog:=T.prog) (w:=T.w) hh s.heap.objs.size a (Nat.ne_of_lt (hl.there.elim fun J e=>OE e)) us.toArray
 rw[show us.toArray.size=xs.length from(Ou ..).trans q.length]at Wk
 exact wpAny_pyIter_list hl.list (k _ _ ⟨s.heap.objs.size,_,s.toks,_,_,_,_,_,xs.zip us,dS (target:=target) Wk (fun i v s Q E st h=>letGo_listiter st.1 h) (fun i h st=>match st.1 with|⟨o,e,_,_⟩=>⟨o,e⟩),⟨⟨_,Od _ rfl,rfl,rfl⟩,hl.list.push _⟩,g9 _ _,dM,zN nb hl.there,X0 q,
  fun i v h hp=>(eM q.length (ma hp)).elim fun u z=>⟨u,z.1,.one (.held z.2)⟩⟩)
theorem nA {a:Addr} {xs:List V} {us:List Value} (hh:A.handled=none) (hl:mA s.heap a us) (nb:¬k9 T W U a) (q:E3 T W U s.heap xs us) (k:∀it s2,Ready T W U A target kx s xs it s2->Q it s2):wpAny (model T.prog T.w) A (pyIter (.ref a)) Q E s:=by
 have Wk:=Walks.tuple (prog:=T.prog) (w:=T.w) hh s.heap.objs.size a (Nat.ne_of_lt (hl.there.elim fun J e=>OE e)) us.toArray
 rw[show us.toArray.size=xs.length from(Ou ..).trans q.length]at Wk
 exact wpAny_pyIter_tuple hl.tup (k _ _ ⟨s.heap.objs.size,_,s.toks,_,_,_,_,_,xs.zip us,dS (target:=target) Wk (fun i v s Q E st h=>letGo_tupleiter st.1 h) (fun i h st=>match st.1 with|⟨o,e,_,_⟩=>⟨o,e⟩),⟨⟨_,Od _ rfl,rfl,rfl⟩,hl.tup.push _⟩,g9 _ _,dM,zN nb hl.there,X0 q,
  fun i v h hp=>(eM q.length (ma hp)).elim fun u z=>⟨u,z.1,.one (.held z.2)⟩⟩)
theorem vc {x:Txt} {t:Tok} {id:Str} {p:Pos} (hh:A.handled=none) (ha:t6 x=true) (k:∀it s2,Ready T W U A (.Name id p) 1 s (x.map fun c=>.str [c]) it s2->Q it s2):wpAny (model T.prog T.w) A (pyIter (.str (i3 x) t)) Q E s:=by
 have hc:(i3 x).cps.all (· < 128)=true:=by
  show x.toArray.all _=true
  rw[List.all_toArray]
  exact List.all_eq_true.mpr fun c hc=>decide_eq_true (NY (List.all_eq_true.mp ha c hc))
 have Wk:=Walks.strAscii (prog:=T.prog) (w:=T.w) hh s.heap.objs.size (i3 x) t
 rw[show(i3 x).cps.size=(x.map fun c=>V.str [c]).length from(Oi ..).symm]at Wk
 exact wpAny_pyIter_ascii hc (k _ _ ⟨s.heap.objs.size,_,s.toks,_,_,_,_,_,[],dS (target:=.Name id p) Wk (fun i v s Q E st h=>NW h) (fun i h st=>match st with|⟨o,e,_,_⟩=>⟨o,e⟩),⟨_,Od _ rfl,rfl,rfl⟩,g9 _ _,dM,fun b hb=>.inl hb,(fun J J q=>nomatch q),fun i v h hp=>match hp with
  |⟨c,u,e,ev⟩=>by
   have e:x[i]? =some c:=(List.getElem?_toArray ..).symm.trans e
   exact⟨.str [c],by rw[OA,e];rfl,.one (.G3 (ev▸.str [c] u (Bool.and_eq_true_iff.mpr ⟨List.all_eq_true.mp ha c (Oy e),rfl⟩)))⟩⟩)
theorem nE {h0:Heap} {t0:Nat} (kp:∀a o,s.heap.get? a=some o->h0.get? a=some o) {rr:Addr} {a b c:Nat} {t u v:Tok} {id:Str} {p:Pos} {items:List V} (hh:A.handled=none) (hr:IsRange h0 rr (a:Int) (b:Int) (c:Int) t u v) (hsmall:Builtin.Range.small (a:Int) (b:Int) (c:Int)=true) (hn:Builtin.Range.rangeSize (a:Int) (b:Int) (c:Int)=(items.length:Int))
 (hi:∀i,i < items.length->items[i]? =some (.int (a+i * c:Int))) (k:∀it s2,Ready T W U A (.Name id p) 1 s items it s2->Q it s2):wpAny (model T.prog T.w) A (pyIter (.ref rr)) Q E {s with heap:=h0,toks:=t0}:=by
 have Wk:=(Walks.range (prog:=T.prog) (w:=T.w) hh h0.objs.size (a:Int) (c:Int) items.length).bound
 have e1:=Od h0 (o:={cls:=.type "range_iterator",data:=.fields #[rawInt (a:Int),rawInt (items.length:Int),rawInt (c:Int)]}) rfl
 have e2:(a:Int)+(0:Nat) * (c:Int)=a:=by rw[Int.natCast_zero,Int.zero_mul,Int.add_zero]
 refine wpAny_pyIter_range (s:={s with heap:=h0,toks:=t0}) hr hsmall (k _ _ ⟨h0.objs.size,_,t0,_,_,_,_,_,[],dS (target:=.Name id p) Wk (fun i v s Q E st h=>NW h) (fun i h st=>⟨_,st⟩),?_,fun a o e=>g9 _ _ _ _ (kp a o e),fun b hb=>?_,fun b hb=>.inl hb,(fun J J q=>nomatch q),fun i v h hp=>?_⟩)
 ·rw[hn]
  simpa using e1
 ·rw[Og hb]
  cases e:s.heap.get? h0.objs.size with
  |none=>rfl
  |some o=>exact d0 (none_at_size _) (kp _ o e)
 ·obtain⟨hlt,t,ev⟩:=hp
  exact⟨_,hi i hlt,.one (.G3 (ev▸.int _ t))⟩
theorem iZ {e it:Addr} {fp:List Addr} {k:Nat} {elts:List Ex} {x1:Nat} {pos:Pos} {Pt:Nat->Array Value->Prop} {St:Nat->Heap->Prop} {Mid:Nat->Addr->Heap->Prop} (Wk:WalksT T.prog T.w A e fp [e,it] k Pt St Mid)
 (h1:∀i h,St i h->(∃o,h.get? e=some o)∧∃o,h.get? it=some o) (h2:∀i a h,Mid i a h->(∃o,h.get? e=some o)∧∃o,h.get? it=some o):
 AX T A (.Tuple elts x1 pos) e fp [e,it] k (fun i v h=>∃T vals,v=.ref T∧Pt i vals∧h.IsTuple T vals) (fun i v h=>∃T vals,v=.ref T∧Pt i vals∧h.IsTuple T vals∧Mid i T h) St where
 k:=KTurns.ofWalksU Wk.toU
 self:=Wk.self
 ex:=fun i h st b hb=>(Of hb).elim (fun q=>q▸(h1 i h st).1) fun hb=>(Og hb)▸(h1 i h st).2
 Lk:=fun i v h st b hb=>match st with
  |⟨_,_,_,_,_,hm⟩=>(Of hb).elim (fun q=>q▸(h2 _ _ h hm).1) fun hb=>(Og hb)▸(h2 _ _ h hm).2
theorem two_new {h:Heap}:∀b,b∈[h.objs.size+1,h.objs.size]->h.get? b=none:=fun b hb=>(Of hb).elim (fun q=>q▸Heap.get?_none_of_le (Nat.le_succ _)) fun q=>(Og q)▸none_at_size _
theorem oQ {α:Type} {f:α×Nat->V} {xs:List α} {i:Nat} {x:α} (h:xs[i]? =some x):(xs.zipIdx.map f)[i]? =some (f (x,i)):=by rw[OA,List.getElem?_zipIdx,h,Option.map_some,Option.map_some,Nat.zero_add]
theorem nF {a:Addr} {xs:List V} {us:List Value} {elts:List Ex} {x1:Nat} {pos:Pos} (hh:A.handled=none) (hl:R6 s.heap a us) (nb:¬k9 T W U a) (q:E3 T W U s.heap xs us) {R:Value->Shared->Prop}
 (k:∀x c5,(∀Q E,(∀it s2,Ready T W U A (.Tuple elts x1 pos) 2 s (gH xs) it s2->Q it s2)->wpAny (model T.prog T.w) A (pyIter x) Q E c5)->R x c5):wpAny (model T.prog T.w) A (call (.type "enumerate") [.ref a]) R E s:=by
 have hlt:a < s.heap.objs.size:=hl.there.elim fun J e=>OE e
 have Wk:=WalksT.enumerate (prog:=T.prog) (w:=T.w) hh (s.heap.objs.size+1) s.heap.objs.size a (Nat.succ_ne_self _) (Nat.ne_of_lt (Nat.lt_succ_of_lt hlt)) (Nat.ne_of_lt hlt) us.toArray
 rw[show us.toArray.size=(gH xs).length by rw[gH,Oi,List.length_zipIdx,Ou,q.length]]at Wk
 refine call_enumerate_list hl.list fun h' he hit hsz hk=>k _ _ fun Q E kq=>wpAny_pyIter_enum he (kq _ _ ⟨_,h',s.toks,_,_,_,_,_,xs.zip us,iZ (elts:=elts) (x1:=x1) (pos:=pos) Wk (fun i h st=>match st with|⟨⟨_,h1⟩,⟨o,h2,_,_⟩,_⟩=>⟨⟨_,h1⟩,o,h2⟩) (fun i a h hm=>match hm with|⟨⟨_,h1⟩,⟨o,h2,_⟩,_⟩=>⟨⟨_,h1⟩,o,h2⟩),
  ⟨⟨_,he⟩,hit,hl.list.at fun o e=>hk _ _ e⟩,hk,two_new,fun b hb=>?_,X0 q,fun i v h hp=>?_⟩)
 ·exact(Of hb).elim (fun e=>.inl (e▸.head _)) fun hb=>(Of hb).elim (fun e=>.inl (e▸.tail _ (.head _))) fun hb=>.inr ((Og hb)▸⟨nb,hl.there⟩)
 ·obtain⟨Ta,vals,ev,⟨t,x,hx,e2⟩,hT⟩:=hp
  obtain⟨u,hu,hm⟩:=eM q.length (ma hx)
  exact⟨_,oQ hu,.two _ _ _ _ Ta rfl rfl ev (e2▸hT) (.G3 (.int _ t)) (.held hm)⟩
theorem nG {b:List Nat} {ab:Array UInt8} {t:Tok} {elts:List Ex} {x1:Nat} {pos:Pos} (hh:A.handled=none) (hb:ab.toList.map UInt8.toNat=b) {R:Value->Shared->Prop}
 (k:∀x c5,(∀Q E,(∀it s2,Ready T W U A (.Tuple elts x1 pos) 2 s (ua b) it s2->Q it s2)->wpAny (model T.prog T.w) A (pyIter x) Q E c5)->R x c5):wpAny (model T.prog T.w) A (call (.type "enumerate") [.bytes ab t]) R E s:=by
 have Wk:=Fm (prog:=T.prog) (w:=T.w) hh (s.heap.objs.size+1) s.heap.objs.size (Nat.succ_ne_self _) ab t
 rw[show ab.size=(ua b).length by rw[ua,Oi,List.length_zipIdx,←hb,Oi,Array.length_toList]]at Wk
 refine U5 fun h' he hit hsz hk=>k _ _ fun Q E kq=>wpAny_pyIter_enum he (kq _ _ ⟨_,h',s.toks,_,_,_,_,_,[],iZ (elts:=elts) (x1:=x1) (pos:=pos) Wk (fun i h st=>match st with|⟨⟨_,h1⟩,⟨o,h2,_,_⟩⟩=>⟨⟨_,h1⟩,o,h2⟩) (fun i a h hm=>match hm with|⟨⟨_,h1⟩,⟨o,h2,_⟩,_⟩=>⟨⟨_,h1⟩,o,h2⟩),
  ⟨⟨_,he⟩,hit⟩,hk,two_new,fun b hb=>.inl hb,(fun J J q=>nomatch q),fun i v h hp=>?_⟩)
 obtain⟨Ta,vals,ev,⟨t1,t2,c,hc,e2⟩,hT⟩:=hp
 have hc':b[i]? =some c.toNat:=by rw[←hb,OA,Array.getElem?_toList,hc];rfl
 exact⟨_,oQ hc',.two _ _ _ _ Ta rfl rfl ev (e2▸hT) (.G3 (.int _ t1)) (.G3 (.int _ t2))⟩
end
noncomputable def AD:Bi->Value
 |.len=>.builtin "len" |.isinstance=>.builtin "isinstance" |.sorted=>.builtin "sorted" |.all=>.builtin "all" |.sum=>.builtin "sum" |.bytes=>.type "bytes" |.dict=>.type "dict" |.int=>.type "int" |.bool=>.type "bool"
inductive Ig (T:i7) (C:Addr) (m k:Nat):Prop
 |mk (a:Addr) (ha:T.fn k=some a) (g:plainGet T.K C (T.nm m)=true) (f:findIn T.K (.ref C) (T.nm m)=some (some (.ref a))) (i:isFn T.K (.ref a)=true)
inductive KW (T:i7):Prop
 |mk (mg mb:Str->Option Value) (n1:T.B.Ns mainGlobals mg) (n2:T.B.Ns builtinsNs mb) (e1:mg "enumerate"=none∧mb "enumerate"=some (.type "enumerate")) (e2:mg "range"=none∧mb "range"=some (.type "range")) (e3:mg "sorted"=none∧mb "sorted"=some (.builtin "sorted"))
structure TM (T:i7) (P:Pg):Prop extends E4 T P where
 fns:∀k a fd,T.fn k=some a->P.fns[k]? =some fd->DX T a fd fun kd body=>sy T kd fd.body body
 l5:∀c C m k,T.cls c=some C->ag P c m=some k->Ig T C m k
 keep:∀k a,T.fn k=some a->keepIn T.K (.ref a)=true
 blt:KW T
 Ln:∀b,T.bi b=AD b
def Keeps (K:Frag) (M:Model) (f:Value):Prop:=∀h,K.In h->∃k,(k=Keeper.frame∨k=Keeper.machine∨k=Keeper.boundFrame)∧Looks M h (keeperOf f) k
theorem M4 {K:Frag} {M:Model} {f:Value} (hf:keeperOf f=pure .machine):Keeps K M f:=fun h J=>⟨.machine,.inr (.inl rfl),hf▸.now⟩
variable {n:Nat} {r:Ev} {env:Env} {own:List (Nat×Addr)} {m:Fr}
section
theorem W7 {kd:Kd} {es:List X} {es':List Ex} (t:Z2 T kd es es') (pos:Pos) (env:Env):(backTo pos (starEach es' env)).any (·.1)=false:=by
 induction t with
 |nil=>rfl
 |cons _ e' _ es' te _ ih=>rw[V6 te];exact ih
theorem J3 {kd:Kd} {es:List X} {es':List Ex} (t:Z2 T kd es es') {f:Value} {pos:Pos} {Q:Args->Shared->Prop} (h0:es'=[]->Q ⟨[],[]⟩ s)
 (h:wpAny (model T.prog T.w) A (spliced (backTo pos (starEach es' env))) (fun ws s'=>Q ⟨ws,[]⟩ s') E s):wpAny (model T.prog T.w) A (evalArgs f true (backTo pos (starEach es' env)) (backToKw pos (keywordEach [] env))) Q E s:=by
 induction t with
 |nil=>exact evalArgs_nil3 (h0 rfl)
 |cons _ e' es es' te ts=>
  rw[V6 te]at h⊢
  exact evalArgs_plain h
theorem bD (tk:E4 T P) (hr:g7 T n r.ev) (c:Cx T W n A env own m U Y s) {es:List X} {es':List Ex} (t:Z2 T env.kindOf es es') {f:Value} {first:List Value} {pos:Pos} (hk:Keeps T.K (model T.prog T.w) f) {α:Type} {K:α->Hp->Prop} {g:List V->Hp->R α}
 (h:((G7 r m es Y).bind g).c4 K (XV T W U s E)) (k:∀vs c7 ws s' d7,i4 T W U s c7 d7 s'->E3 T W d7 s'.heap vs ws->(g vs c7).c4 K (XV T W U s E)->wpAny (model T.prog T.w) A (call f (first++ws)) Q E s'):
 wpAny (model T.prog T.w) A (callWith pos f first (backTo pos (starEach es' env)) (backToKw pos (keywordEach [] env))) Q E s:=by
 refine callWith_of (P:=fun h=>T.K.In h) (by rw[W7 t];rfl) hk (J3 t (fun e=>?_) (gG hr t c (R.c4.mono (R.d5.mp h) (fun vs c7 q ws s' d7 o x=>⟨k7 tk o.rel,k vs c7 ws s' d7 o x q⟩) fun J J x=>x)))
 subst e
 cases t
 exact⟨k7 tk c.rel,k [] Y [] s U (i4.refl c.rel) .nil h⟩
theorem J4 (tk:E4 T P) (hr:g7 T n r.ev) (c:Cx T W n A env own m U Y s) {es:List X} {es':List Ex} (t:Z2 T env.kindOf es es') {f:Value} {first:List Value} {pos:Pos} (hk:Keeps T.K (model T.prog T.w) f)
 (h:(m7 r m es Y).c4 (Nf T W U s fun ws s'=>wpAny (model T.prog T.w) A (call f (first++ws)) Q E s') (XV T W U s E)):
 wpAny (model T.prog T.w) A (callWith pos f first (backTo pos (starEach es' env)) (backToKw pos (keywordEach [] env))) Q E s:=by
 refine callWith_of (P:=fun h=>T.K.In h) (by rw[W7 t];rfl) hk (J3 t (fun e=>?_) (jB hr t c (R.c4.mono h (fun vs c7 q ws s' d7 o x=>⟨k7 tk o.rel,q ws s' d7 o x⟩) fun J J x=>x)))
 subst e
 cases t
 exact⟨k7 tk c.rel,h [] s U (i4.refl c.rel) ⟨W,[],s8.refl,c.rel,.nil,List.nodup_nil,fun J q=>nomatch q⟩⟩
theorem aV (c:Cx T W n A env own m U Y s) {id:Str} {v:Value} {p:Pos} {mg mb:Str->Option Value} (n1:T.B.Ns mainGlobals mg) (n2:T.B.Ns builtinsNs mb) (e:mg id=none∧mb id=some v) (hd:(id ==("__debug__":Str))=false) (hk:env.kindOf id=some .globalImplicit) (h:Q v s):wpAny (model T.prog T.w) A (eval (.Name id p) env) Q E s:=
 Name_function_global c.fr.kind hk (loadGlobal_builtin (c.fr.glob▸A1 c.rel.base n1) e.1 (c.fr.blt▸A1 c.rel.base n2) e.2 h) hd
theorem u9 (id:Str) (q:Pos) (args:List Ex) (kws:List Keyword) (pos:Pos) (env:Env):eval (.Call (.Name id q) args kws pos) env=(do callWith pos (←eval (.Name id q) env) [] (backTo pos (starEach args env)) (backToKw pos (keywordEach kws env))):=rfl
theorem len_s {α:Type} {l:List α} {n:Nat} (h:l.length=n+1):∃a r,l=a::r∧r.length=n:=by
 induction l with
 |nil=>exact nomatch h
 |cons a r=>exact⟨a,r,rfl,Nat.succ.inj h⟩
theorem drop_lt {n i:Nat} (h:i < n):n+1 - (i+1) < n+1 - i:=Nat.sub_lt_sub_left (Nat.lt_succ_of_lt h) (Nat.lt_succ_self i)
theorem U0 {z:Int} (h1:0≤z) (h2:z≤3000):Builtin.Range.rangeFitsLong z=true:=by
 unfold Builtin.Range.rangeFitsLong
 exact Bool.and_eq_true_iff.mpr ⟨decide_eq_true (Int.le_trans (by decide) h1),decide_eq_true (Int.lt_of_le_of_lt h2 (by decide))⟩
theorem qE {a b c:Nat} (hc:0 < c):Builtin.Range.rangeSize (a:Int) (b:Int) (c:Int)=(((b - a+(c - 1)) / c:Nat):Int):=by
 unfold Builtin.Range.rangeSize
 rw[OB (Int.natCast_pos.mpr hc)]
 by_cases h:(a:Int) < b
 ·rw[OB h]
  have e:((b:Int) - a - 1) / c+1=(((b - a - 1) / c+1:Nat):Int):=by
   rw[Int.natCast_add,Int.natCast_ediv]
   congr 2
   omega
  have h':a < b:=Int.ofNat_lt.mp h
  have e2:b - a+(c - 1)=(b - a - 1)+c:=(Nat.add_sub_assoc hc (b - a)).symm.trans (Nat.sub_add_comm (Nat.sub_pos_of_lt h'))
  rw[e2,Nat.add_div_right _ hc]
  first|exact e|(simp only[e])|(rw[←e];rfl)
 ·rw[OC h]
  have h':b≤a:=OD fun q=>h (Int.ofNat_lt.mpr q)
  rw[Nat.sub_eq_zero_of_le h',Nat.zero_add,Nat.div_eq_of_lt (Nat.sub_lt hc Nat.one_pos)];rfl
theorem qG {a b c i:Nat} (h:i < (K2 a b c).length):(K2 a b c)[i]? =some (.int (a+i * c:Int)):=by
 unfold K2 at h⊢
 rw[Oi,List.length_range]at h
 rw[OA,List.getElem?_range h]
 rfl
theorem qF {a b c:Nat}:(K2 a b c).length=(b - a+(c - 1)) / c:=(Oi ..).trans List.length_range
theorem aa {kx:Nat} {a b c:Nat} (hh:A.handled=none) (ha:a≤1000) (hb:b≤1000) (hc:0 < c) (hc':c≤8) {rr:Addr} {t u v:Tok} {h0:Heap} {t0:Nat} {id:Str} {p:Pos} (kp:∀a o,s.heap.get? a=some o->h0.get? a=some o) (hr:IsRange h0 rr (a:Int) (b:Int) (c:Int) t u v)
 (k:∀it s2,Ready T W U A (.Name id p) 1 s (K2 a b c) it s2->Q it s2):wpAny (model T.prog T.w) A (pyIter (.ref rr)) Q E {s with heap:=h0,toks:=t0}:=by
 have hN:=qE (a:=a) (b:=b) hc
 have hk:(b - a+(c - 1)) / c≤1007:=Oe (Nat.div_le_self _ _) (Nat.add_le_add (Oe (Nat.sub_le b a) hb) (Nat.sub_le_sub_right hc' 1))
 have hm:(b - a+(c - 1)) / c * c≤1007:=Oe (Nat.div_mul_le_self _ _) (Nat.add_le_add (Oe (Nat.sub_le b a) hb) (Nat.sub_le_sub_right hc' 1))
 refine nE kp hh hr ?_ (hN.trans (Oh Nat.cast qF.symm)) (fun i hi=>qG hi) k
 unfold Builtin.Range.small
 rw[hN]
 have e:(((b - a+(c - 1)) / c:Nat):Int) * (c:Int)=(((b - a+(c - 1)) / c * c:Nat):Int):=(Int.natCast_mul _ _).symm
 rw[U0 (Ov a) (Int.ofNat_le.mpr (Oe ha (by decide))),U0 (Ov b) (Int.ofNat_le.mpr (Oe hb (by decide))),U0 (Ov c) (Int.ofNat_le.mpr (Oe hc' (by decide))),U0 (Ov ((b - a+(c - 1)) / c)) (Int.ofNat_le.mpr (Oe hk (by decide)))]
 simp only[Bool.true_and,Bool.and_true]
 have hp:(0:Int) < (c:Int):=Int.natCast_pos.mpr hc
 rw[OB hp]
 rw[U0 (z:=(b:Int)+((c:Int) - 1)) (Int.add_nonneg (Ov b) (Int.le_sub_one_of_lt hp)) (Int.le_trans (Int.add_le_add (Int.ofNat_le.mpr hb) (Int.sub_le_sub_right (Int.ofNat_le.mpr hc') 1)) (by decide)),Bool.or_true]
theorem NF {a:Nat} {t:Tok}:(Value.int (Int.ofNat a) t)=.int ((a:Nat):Int) t:=rfl
theorem Cv {vs:List V} {ws:List Value} {h:Heap} (x:xi T W U h vs ws):∀{l:List Nat},Gn vs=some l->∃ts:List Tok,ts.length=l.length∧ws=(l.zip ts).map fun p=>Value.int ((p.1:Nat):Int) p.2:=by
 induction x with
 |nil=>exact fun e=>by cases e;exact⟨[],rfl,rfl⟩
 |cons v w vs ws a _ ih=>exact fun e=>a0 e fun i ei e=>a0 e fun k ek e=>d8 e fun r er e=>(by
  obtain⟨ts,h1,h2⟩:=ih er
  subst e
  refine u6 (G:=fun w=>∃ts:List Tok,ts.length=(k::r).length∧w::ws=((k::r).zip ts).map fun p=>Value.int ((p.1:Nat):Int) p.2) a ei fun t=>⟨t::ts,Oh (· +1) h1,?_⟩
  rw[h2,T2 ek];rfl)
theorem oU {v:V} {ys:List V} (e:EI v=some ys):E2 v=some ys∧dw v=false:=by cases v<;>first|exact⟨e,rfl⟩|exact ns e
theorem rng_el {l:List Nat} {ts:List Tok} {items:List V} {G:List Value->Prop} (hl:ts.length=l.length) (e:rngL l=some items)
 (h1:∀b t,b≤1000->K2 0 b 1=items->G [.int (b:Nat) t]) (h2:∀a b t u,a≤1000->b≤1000->K2 a b 1=items->G [.int (a:Nat) t,.int (b:Nat) u])
 (h3:∀a b t u v,a≤1000->b≤1000->K2 a b 8=items->G [.int (a:Nat) t,.int (b:Nat) u,.int (8:Nat) v]):G ((l.zip ts).map fun p=>Value.int ((p.1:Nat):Int) p.2):=by
 unfold rngL at e
 refine i0 e (fun e=>a0 e fun b eb e=>i9 e fun g er=>?_) fun e=>i0 e (fun e=>a0 e fun q eq e=>i9 e fun g er=>a7 g fun g1 g2=>?_) fun e=>a0 e fun q eq e=>i9 e fun g er=>a7 g fun g g3=>a7 g fun g1 g2=>?_
 ·rw[B2 eb]at hl⊢
  obtain⟨t,rfl⟩:=List.length_eq_one_iff.mp hl
  exact h1 b t (NY g) er
 ·rw[two1_eq eq]at hl⊢
  obtain⟨t,ts',rfl,hl2⟩:=len_s hl
  obtain⟨u,rfl⟩:=List.length_eq_one_iff.mp hl2
  exact h2 _ _ t u (NY g1) (NY g2) er
 ·rw[three1_eq eq]at hl⊢
  obtain⟨t,ts',rfl,hl2⟩:=len_s hl
  obtain⟨u,ts'',rfl,hl3⟩:=len_s hl2
  obtain⟨v,rfl⟩:=List.length_eq_one_iff.mp hl3
  have g3:=Om g3
  rw[g3]at er⊢
  exact h3 _ _ t u v (NY g1) (NY g2) er
theorem xX (tm:TM T P) (hr:g7 T n r.ev) (c:Cx T W n A env own m U Y s) {src:mq} {it:List X} {it':Ex} {xs:List Nat} {Rx:Value->Shared->Prop} {α:Type} {K:α->Hp->Prop} {X':Txt->Hp->Prop} {i:Nat} {g1:Nat->Hp->R α} {g2:List V->Hp->R α} {kd:Kd} (t:bJ T env.kindOf src it it') (tx:pQ T kd xs target)
 (h:(m7 r m it Y).z6.c4 (fun vs c7=>(nM (fW src vs) (fun l=>g1 l c7) ((b8 i (aI src xs.length vs) c7).bind g2)).c4 K X') X')
 (k1:∀items c9 c5 c8 x l3,i4 T W U s c9 c8 c5->(∀Q E,(∀it s3,Ready T W c8 A target xs.length c5 items it s3->Q it s3)->wpAny (model T.prog T.w) A (pyIter x) Q E l3)->(g2 items c9).c4 K X'->Rx x l3)
 (k2:∀l c9 c5 c8 a,i4 T W U s c9 c8 c5->c8[l]? =some a->(g1 l c9).c4 K X'->Rx (.ref a) c5):wpAny (model T.prog T.w) A (eval it' env) Rx E s:=by
 have hh:=c.ar.handled
 have h:=R.J6 h
 induction t with
 |val e e' te=>
  refine hr c te (R.c4.mono (R.d5.mp h) (fun v c9 k w c5 c8 o hw hf=>?_) fun J J x=>x.elim)
  refine cf (K:=fun z=>R.c4 z _ _) (o:=L5 v) k (fun l el k=>A8 hw el fun a ha=>k2 l c9 c5 c8 a o ha k) fun J k=>a9 k fun items ei k=>k1 items c9 c5 c8 w c5 o (fun Q E kq=>?_) k
  exact i0 ei (fun ei=>a0 ei fun x ex ei=>i9 ei fun g e0=>a7 g fun g1 g2=>by
   induction tx with
   |one y p _ _=>exact n8 hw ex fun tk ha=>vc hh ha (e0▸kq)
   |two=>exact Bool.noConfusion g1) fun ei=>VR.zY (G:=fun w=>wpAny (model T.prog T.w) A (pyIter w) Q E c5) hw ei (fun a ws l nb q=>nA hh l nb q kq) fun a ws l nb q=>qD hh l nb q kq
 |enum es es' q p hk te=>
  rw[u9]
  refine NU (match tm.blt with|⟨mg,mb,n1,n2,e1,_,_⟩=>aV c n1 n2 e1 rfl hk (J4 tm.toE4 hr c te (M4 rfl) (R.c4.mono h (fun vs c9 k ws c5 c8 o x=>?_) fun J J x=>x.elim)))
  have vr:=x.vr c.rel.o5
  show wpAny (model T.prog T.w) A (call (.type "enumerate") ([]++ws)) Rx E c5
  refine a9 k fun items ei k=>a0 ei fun v ev ei=>vr.one (G:=fun ws=>wpAny (model T.prog T.w) A (call (.type "enumerate") ([]++ws)) Rx E c5) ev fun w hw=>a0 ei fun J g e9=>i9 g fun g J=>?_
  have k1:=fun x l3 hx=>k1 items c9 c5 c8 x l3 o hx k
  induction tx with
  |one=>exact Bool.noConfusion g
  |two y z p q i r _ _ _ _=>
   exact i0 e9 (fun e9=>a0 e9 fun b eb e9=>i9 e9 fun J e9=>F5 hw eb fun ab t hb=>nG hh hb fun x l3 kq=>k1 x l3 (e9▸kq)) fun e9=>a0 e9 fun ys ey e9=>i9 e9 fun J e9=>
    VR.z0 hw (oU ey).1 fun a ws l nb q=>nF hh l (nb (oU ey).2) q fun x l3 kq=>k1 x l3 (e9▸kq)
 |range es es' q p hk te hlen=>
  rw[u9]
  refine NU (match tm.blt with|⟨mg,mb,n1,n2,_,e1,_⟩=>aV c n1 n2 e1 rfl hk (J4 tm.toE4 hr c te (M4 rfl) (R.c4.mono h (fun vs c9 k ws c5 c8 o x=>?_) fun J J x=>x.elim)))
  have vr:=x.vr c.rel.o5
  show wpAny (model T.prog T.w) A (call (.type "range") ([]++ws)) Rx E c5
  refine a9 k fun items ei k=>a0 ei fun J g ei=>i9 g fun g J=>a0 ei fun l el e9=>?_
  have k1:=fun x l3 hx=>k1 items c9 c5 c8 x l3 o hx k
  induction tx with
  |two=>exact Bool.noConfusion g
  |one y p _ _=>
   obtain⟨ts,hl,hw⟩:=Cv vr el
   rw[hw]
   exact rng_el (G:=fun ws=>wpAny (model T.prog T.w) A (call (.type "range") ([]++ws)) Rx E c5) hl e9 (fun b t g er=>call_range_1 (k1 _ _ (er▸fun Q E kq=>aa (kx:=1) hh (Nat.zero_le _) g Nat.one_pos (by decide) (g9 _ _) (Od _ rfl) kq)))
    (fun a b t u g1 g2 er=>call_range_2 (k1 _ _ (er▸fun Q E kq=>aa (kx:=1) hh g1 g2 Nat.one_pos (by decide) (g9 _ _) (Od _ rfl) kq)))
    fun a b t u v g1 g2 er=>call_range_3 (show((8:Nat):Int)≠0 by decide) (k1 _ _ (er▸fun Q E kq=>aa (c:=8) (kx:=1) hh g1 g2 (by decide) (by decide) (g9 _ _) (Od _ rfl) kq)) (.inl (PyProof.noPylong_small (show((8:Nat):Int).natAbs < 1073741824 by decide)))
end
theorem bN.solid {T:i7} {v:V} {w:Value} (x:bN T v w):solid v=true:=bN.rec (motive:=fun v J J=>Mine.solid v=true) rfl (fun J=>rfl) (fun J J=>rfl) (fun J J J=>rfl) (fun J J J J=>rfl) (fun J J J=>rfl) (fun J J J=>rfl) (fun J=>rfl) x
variable {F:Fx T} {z:Zt} {m':Fr} {st:PySem.Stmt} {Hs:List (V×Value)}
section
variable {Q:Flow->Shared->Prop}
theorem Fs.Lb (f:Fs F z m Y) (hs:∀u v,(u,v)∈Hs->(u,v)∈F.Hv) {u:V} {v:Value} (y:Lo T Hs u v):KJ F z u v:=by
 induction y with
 |G3 i=>exact⟨i.solid,.G3 _ _ i⟩
 |held q=>exact f.hd.vals u v (hs u v q)
theorem px (tk:E4 T P) (f:Fs F z m Y) {x y:Nat} {a b:V} {wa wb:Value} {Tt:Addr} {p q r:Pos} {i:Nat} {Q:Unit->Shared->Prop} (gx:d6 T.glob x=none) (kx:F.env.kindOf (T.nm x)=some .local) (gy:d6 T.glob y=none) (ky:F.env.kindOf (T.nm y)=some .local) (ht:z.s.heap.IsTuple Tt #[wa,wb]) (ha:KJ F z a wa) (hb:KJ F z b wb)
 (k:∀s',Fs F (z.to z.U s') (putN (putN m x a) y b) Y->Q () s'):wpAny (model T.prog T.w) F.A (assign (.Tuple [.Name (T.nm x) p,.Name (T.nm y) q] i r) F.env (.ref Tt)) Q E z.s:=by
 refine wpAny_assign_Tuple f.cx.ar.handled ht rfl rfl fun h' he=>?_
 have i8:i4 T z.W z.U z.s Y z.U {z.s with heap:=h'}:=i4.keeps (t:=z.s.toks) f.cx.rel (F4 he (none_at_size _))
 have B8:Fs (F.hold [] [(b,wb)]) _ m Y:=(f.step i8).holds (fun J J J q=>nomatch q) fun v w q=>by cases Og q;exact⟨hb.g,i8.ext.vs hb.r⟩
 show wpAny _ F.A (do holding [wb] (assign (.Name (T.nm x) p) F.env wa);assignInOrder [assign (.Name (T.nm y) q) F.env] [wb]) Q E _
 refine NU (Oo (assign_Name (B8.store tk (.loc gx kx) ha.g (i8.ext.vs ha.r) fun w9 Q2=>?_)))
 show wpAny _ F.A (do holding [] (assign (.Name (T.nm y) q) F.env wb);assignInOrder [] []) Q E _
 have hb':=Q2.hd.vals b wb (.head _)
 exact NU (Oo (assign_Name (Q2.store tk (.loc gy ky) hb'.g hb'.r fun aG S5=>NW (k aG S5.y7))))
theorem lI (tk:E4 T P) (f:Fs F z m Y) (hs:∀u v,(u,v)∈Hs->(u,v)∈F.Hv) {xs:List Nat} {u:V} {v:Value} {Q:Unit->Shared->Prop} (tx:pQ T F.env.kindOf xs target) (y:KA T Hs xs.length u v z.s.heap) (e:jL xs u m=some m') (k:∀s',Fs F (z.to z.U s') m' Y->Q () s'):wpAny (model T.prog T.w) F.A (assign target F.env v) Q E z.s:=by
 induction tx with
 |one x p h1 h2=>
  cases e
  induction y with
  |one y=>have q:=f.Lb hs y;exact assign_Name (f.store tk (.loc h2 h1) q.g q.r k)
  |two _ _ _ _ _ hk=>exact nomatch hk
 |two x x' p q i r h1 h2 h3 h4=>
  refine a0 e fun l el e=>d8 e fun ab eab e=>?_
  subst e
  rw[bF el,two1_eq eab]at y
  induction y with
  |one y=>
   have d:=f.Lb hs y
   exact VR.E6 (bad:=k9 T z.W z.U) (f7:=k9 T z.W z.U) (G:=fun v=>wpAny (model T.prog T.w) F.A (assign (.Tuple [.Name (T.nm x) p,.Name (T.nm x') q] i r) F.env v) Q E z.s) (.mk _ _ d.r) fun a ws ht J qs=>by
    cases qs with|cons _ wa _ ws g1 q1 qs=>cases qs with|cons _ wb _ ws g2 q2 qs=>cases qs;exact px tk f h2 h1 h4 h3 ht.tup ⟨g1,q1⟩ ⟨g2,q2⟩ k
  |two x1 y1 wx wy Tt _ eu ev ht y1 y2=>
   cases eu
   subst ev
   exact px tk f h2 h1 h4 h3 ht (f.Lb hs y1) (f.Lb hs y2) k
noncomputable def y8 (h:Heap) (b:Bool) (ds:List Addr):List (Addr×Obj×Bool):=ds.filterMap fun a=>(h.get? a).map fun o=>(a,o,b)
theorem w8 {h:Heap} {b b':Bool} {ds:List Addr} {a:Addr} {o:Obj}:(a,o,b')∈y8 h b ds↔a∈ds∧h.get? a=some o∧b'=b:=by
 unfold y8
 rw[List.mem_filterMap]
 constructor
 ·rintro⟨c,hc,e⟩
  exact d8 e fun o' e1 e2=>by cases e2;exact⟨hc,e1,rfl⟩
 ·rintro⟨h1,h2,rfl⟩
  exact⟨a,h1,by rw[h2];rfl⟩
structure Walk (F:Fx T) (z:Zt) (fp wr:List Addr):Prop where
 l:∀b,b∈wr->l8 F z b
 fp:∀b,b∈fp->b∈wr∨(¬k9 T z.W z.U b∧∃o,z.s.heap.get? b=some o)
inductive KO (F:Fx T) (Hs:List (V×Value)) (fp wr:List Addr) (St:Nat->Heap->Prop) (items:List V) (Kp:Fr->Hp->List V->Prop) (k:Nat) (s':Shared):Prop
 |mk (i:Nat) (z:Zt) (m:Fr) (Y:Hp) (e:z.s=s') (ek:k=items.length+1 - i) (hi:i≤items.length) (f:Fs (F.hold [] Hs) z m Y) (w:Walk F z fp wr) (st:St i s'.heap) (h:Kp m Y (items.drop i))
theorem Fs.bo {H:List (Addr×Obj×Bool)} (f:Fs (F.hold [] Hs) z m Y) (hH:∀a o b,(a,o,b)∈H->sC F z a o b):Fs (F.hold H Hs) z m Y:=
 ⟨f.cx,⟨f.st.v5,f.st.inj,f.st.aR,f.st.O3,f.st.cB,f.st.aw,f.st.old⟩,f.out,⟨fun a o b q=>have x:sC (F.hold [] Hs) z a o b:=(OG q).elim (fun q=>have x:=hH a o b q;⟨x.at_,x.nm,x.nn,x.nc,x.own,x.nb⟩) (f.hd.objs a o b);⟨x.at_,x.nm,x.nn,x.nc,x.own,x.nb⟩,fun v w q=>have x:=f.hd.vals v w q;⟨x.g,x.r⟩⟩⟩
theorem oX {H:List (Addr×Obj×Bool)} {Hv:List (V×Value)} {p:Fl×Fr} {k:Fr->Hp->R (Fl×Fr)} {X':Txt->Hp->Prop} (h:(gN p k Y).c4 (KF F Q) X') {Q':Flow->Shared->Prop} (hr:∀w s,Q (.ret w) s->Q' (.ret w) s) (hn:∀z,(k p.2 Y).c4 (KF F Q) X'->Fs (F.hold H Hv) z p.2 Y->Q' .next z.s):KF (F.hold H Hv) Q' p Y:=by
 obtain⟨fl,m⟩:=p
 induction fl with
 |ret v=>exact fun w s' d7 o hv hf=>hr w s' ((show KV T F.W0 F.Z4 F.s0 (fun w=>Q (.ret w)) v Y from h) w s' d7 o hv hf)
 |next=>exact fun z f=>hn z h f
theorem l8.ig {z':Zt} {a:Addr} (l:l8 F z a) (e1:z'.W=z.W) (e2:z'.own=z.own):l8 F z' a:=⟨e1▸l.C8,e2▸l.NT,l.cell,l.new,l.out,l.held⟩
theorem De (tk:E4 T P) (hx:V1 T n r.Y9) (rm:Rm F n) {xs:List Nat} {b:List S} {b':List PySem.Stmt} {items:List V} {I:Addr} {fp wr:List Addr} {Pt Md:Nat->Value->Heap->Prop} {St:Nat->Heap->Prop} {Rz:Result->Shared->Prop} (tx:pQ T F.env.kindOf xs target) (tb:sy T F.env.kindOf b b')
 (L:AX T F.A target I fp wr items.length Pt Md St) (hR:∀f s,Q f s->Rz (.ok f) s) (hP:∀i v h,Pt i v h->∃u,items[i]? =some u∧KA T Hs xs.length u v h) (f:Fs (F.hold [] Hs) z m Y) (w:Walk F z fp wr) (st:St 0 z.s.heap)
 (h:(Q4 r xs b items m Y).c4 (KF F Q) (XF F E)):codeAny (model T.prog T.w) F.A (.forLoop target (.ref I) b' [] F.env) Rz z.s:=by
 refine codeAny_forLoop_any (KO F Hs fp wr St items fun m Y l=>(Q4 r xs b l m Y).c4 (KF F Q) (XF F E)) (fun k s' a=>?_) _ ⟨0,z,m,Y,rfl,rfl,Nat.zero_le _,f,w,st,h⟩
 obtain⟨i,y,l,τ,e,ek,hi,f,w,st,h⟩:=a
 subst e
 by_cases hlt:i < items.length
 ·refine L.k.item i _ _ _ hlt st fun v n6 E7 md ji=>?_
  have lo:∀b,b∈wr->l8 (F.hold [] Hs) y b:=fun b hb=>(w.l b hb).hold fun J q=>nomatch q
  have z8:=f.cR (h':=n6) (t:=E7) (D:=fun b=>b∈wr) lo (fun a ob e q=>ji a ob q e) fun b hb=>L.Lk i v n6 md b hb
  refine L.k.go i v _ _ _ md fun r3 hp eZ jh=>?_
  have B8:Fs (F.hold [] Hs) (y.hp r3 E7) l τ:=z8.cR (h':=r3) (t:=E7) (D:=fun b=>b∈wr) (fun b hb=>(lo b hb).ig rfl rfl) (fun a ob e q=>jh a ob q e) fun b hb=>L.ex _ _ eZ b hb
  obtain⟨u,hu,hy⟩:=hP i v r3 hp
  have hd:items.drop i=u::items.drop (i+1):=(List.drop_eq_getElem_cons hlt).trans (Oh (· ::_) (NX ((Ol hlt).symm.trans hu)))
  rw[hd]at h
  refine a9 h fun m₂ eb h=>?_
  have l₂:∀b,b∈wr->l8 F (y.hp r3 E7) b:=fun b hb=>(w.l b hb).ig rfl rfl
  have jx:∀b,b∈fp->b∉wr->¬k9 T y.W y.U b∧∃o,r3.get? b=some o:=fun b hb hw=>(w.fp b hb).elim (fun q=>absurd q hw) fun q=>⟨q.1,q.2.elim fun o e=>⟨o,jh b o hw (ji b o hw e)⟩⟩
  have nw:∀{c},c∈fp.filter (fun b=>!(wr.contains b))->c∈fp∧c∉wr:=fun q=>⟨(List.mem_filter.mp q).1,fun k=>by have c2:=(List.mem_filter.mp q).2;rw[List.contains_iff_mem.mpr k]at c2;exact Bool.noConfusion c2⟩
  have g:Fs (F.hold (y8 r3 true wr++y8 r3 false (fp.filter fun b=>!(wr.contains b))) Hs) (y.hp r3 E7) l τ:=Fs.bo B8 fun a o bb q=>(OG q).elim (fun q=>by
   obtain⟨q1,q2,rfl⟩:=w8.mp q
   exact(l₂ a q1).EF B8.y7 q2) fun q=>by
   obtain⟨q1,q2,rfl⟩:=w8.mp q
   exact B8.y7.MW (jx a (nw q1).1 (nw q1).2).1 q2
  refine lI tk g (fun u v q=>Oa _ q) tx hy eb fun w9 Q2=>?_
  refine hx (F:=F.hold (y8 r3 true wr++y8 r3 false (fp.filter fun b=>!(wr.contains b))) Hs) rm.hold Q2 tb (R.c4.mono (dH (X'':=fun J J=>False) h) (fun p n9 h=>oX h (fun w s q=>hR _ _ q) fun eL h S5=>?_) fun J J x=>x.elim)
  have Y1:∀{c},c∈wr->∃o,r3.get? c=some o∧sC (F.hold (y8 r3 true wr++y8 r3 false (fp.filter fun b=>!(wr.contains b))) Hs) eL c o true:=fun{c} hc=>(L.ex _ _ eZ c hc).elim fun o e=>⟨o,e,S5.hd.objs c o true (Oa _ (Oa _ (w8.mpr ⟨hc,e,rfl⟩)))⟩
  have inF:∀{c},c∈fp->c∉wr->∃o,r3.get? c=some o∧sC (F.hold (y8 r3 true wr++y8 r3 false (fp.filter fun b=>!(wr.contains b))) Hs) eL c o false:=fun{c} hc hw=>(jx c hc hw).2.elim fun o e=>⟨o,e,S5.hd.objs c o false (Oa _ (Ob _ (w8.mpr ⟨List.mem_filter.mpr ⟨hc,by induction q:wr.contains c with|false=>rfl|true=>exact absurd (List.contains_iff_mem.mp q) hw⟩,e,rfl⟩)))⟩
  exact⟨items.length+1 - (i+1),ek.symm▸drop_lt hlt,i+1,eL,p.2,n9,rfl,rfl,hlt,S5.N7 (fun J q=>nomatch q) fun J q=>q,⟨fun c hc=>(Y1 hc).elim fun o q=>⟨q.2.own rfl,q.2.nn,q.2.nc,(w.l c hc).new,(w.l c hc).out,(w.l c hc).held⟩,
   fun c hc=>Classical.byCases (fun hw:c∈wr=>.inl hw) fun hw=>.inr ((inF hc hw).elim fun o q=>⟨q.2.nb rfl,o,q.2.at_⟩)⟩,L.k.frame _ _ _ eZ fun c hc o e=>Classical.byCases (fun hw:c∈wr=>(Y1 hw).elim fun o' q=>NX (q.1.symm.trans e)▸q.2.at_) fun hw=>(inF hc hw).elim fun o' q=>NX (q.1.symm.trans e)▸q.2.at_,h⟩
 ·have hin:i=items.length:=Nat.le_antisymm hi (OD hlt)
  subst hin
  refine L.k.done _ _ _ st fun n6 E7 kp=>?_
  have z8:=f.y7.iS (h':=n6) (t:=E7) (ds:=wr) w.l fun a ob e q=>kp a ob q e
  rw[List.drop_length]at h
  exact wpAny_execs_nil (hR _ _ (h _ z8))
end
section
variable {Q:Flow->Shared->Prop}
theorem bf {W:r9} {U:List Addr} {h:Heap} (c:d9 T W U Y h) {l:Nat} {a:Addr} {us:List V} (ha:U[l]? =some a) (e:listAt Y l=some us):MD T W U h a us:=
 a0 e fun o eo e=>by
  rw[N8 e]at eo
  exact c.at eo fun a' h1 q=>(NX (h1.symm.trans ha))▸q
theorem P6 {h:Heap} {I a:Addr} {j:Nat} (x:h.IsListIter I a j):∃o,h.get? I=some o:=match x with|⟨o,e,_,_⟩=>⟨o,e⟩
inductive MH (F:Fx T) (l:Nat) (a I:Addr) (Kp:Nat->Nat->Fr->Hp->Prop) (k:Nat) (s':Shared):Prop
 |mk (j:Nat) (z:Zt) (m:Fr) (Y:Hp) (e:z.s=s') (f:Fs (F.hold [] [(.loc l,.ref a)]) z m Y) (w:l8 F z I) (st:s'.heap.IsListIter I a j) (h:Kp k j m Y)
theorem Df (tk:E4 T P) (hx:V1 T n r.Y9) (rm:Rm F n) {xs:List Nat} {b:List S} {b':List PySem.Stmt} {l:Nat} {a I:Addr} {Rz:Result->Shared->Prop} (tx:pQ T F.env.kindOf xs target) (tb:sy T F.env.kindOf b b')
 (hR:∀f s,Q f s->Rz (.ok f) s) (f:Fs (F.hold [] [(.loc l,.ref a)]) z m Y) (w:l8 F z I) (st:z.s.heap.IsListIter I a 0) (h:(Dg r xs b l 64 0 m Y).c4 (KF F Q) (XF F E)):codeAny (model T.prog T.w) F.A (.forLoop target (.ref I) b' [] F.env) Rz z.s:=by
 refine codeAny_forLoop_any (MH F l a I fun k j m Y=>(Dg r xs b l k j m Y).c4 (KF F Q) (XF F E)) (fun k s' c=>?_) _ ⟨0,z,m,Y,rfl,f,w,st,h⟩
 obtain⟨j,y,q,τ,e,f,w,st,h⟩:=c
 subst e
 induction k with
 |zero=>exact h.elim
 |succ k=>
  have hla:y.U[l]? =some a:=VR.A8 (G:=fun v=>v=Value.ref a->y.U[l]? =some a) (bad:=k9 T y.W y.U) (f7:=k9 T y.W y.U) (h:=y.s.heap) (.mk _ _ (f.hd.vals (.loc l) (.ref a) (.head _)).r) (fun a' e q=>Value.ref.inj q▸e) rfl
  refine a9 h fun us eu h=>match bf f.cx.rel hla eu with|⟨ws,hls,qs⟩=>cf (K:=fun z=>R.c4 z _ _) h (fun u eu h=>?_) fun eu h=>?_
  ·refine qs.at eu fun v hw g hv=>?_
   refine wpAny_pyNext_list_item st hls.list (x:=v) ((List.getElem?_toArray ..).trans hw) fun n6 aH sb=>?_
   have zM:Fs (F.hold [] [(u,v),(.loc l,.ref a)]) y q τ:=⟨f.cx,⟨f.st.v5,f.st.inj,f.st.aR,f.st.O3,f.st.cB,f.st.aw,f.st.old⟩,f.out,⟨fun a o b q=>have x:=f.hd.objs a o b q;⟨x.at_,x.nm,x.nn,x.nc,x.own,x.nb⟩,fun v' w' q=>(Of q).elim (fun e=>by cases e;exact⟨g,hv⟩) fun q=>have x:=f.hd.vals v' w' q;⟨x.g,x.r⟩⟩⟩
   have z8:Fs (F.hold [] [(u,v),(.loc l,.ref a)]) (y.hp n6 y.s.toks) q τ:=zM.cR (h':=n6) (t:=y.s.toks) (D:=fun b=>b=I) (fun b e=>(show b=I from e)▸w.hold fun J q=>nomatch q) (SameBut.off sb) fun b e=>(show b=I from e)▸P6 aH
   refine letGo_listiter aH (a9 h fun m₂ eb h=>?_)
   obtain⟨oI,eI⟩:=P6 aH
   have Fj:l8 F (y.hp n6 y.s.toks) I:=w.ig rfl rfl
   have B8:Fs (F.hold [(I,oI,true)] [(u,v),(.loc l,.ref a)]) (y.hp n6 y.s.toks) q τ:=Fs.bo z8 fun a o bb q=>by cases Og q;exact Fj.EF z8.y7 eI
   refine lI (Hs:=[(u,v)]) tk B8 (fun u' v' q=>(Og q)▸.head _) tx (.one (.held (.head _))) eb fun w9 Q2=>?_
   refine hx (F:=F.hold [(I,oI,true)] [(u,v),(.loc l,.ref a)]) rm.hold Q2 tb (R.c4.mono (dH (X'':=fun J J=>False) h) (fun p n9 h=>oX h (fun w s q=>hR _ _ q) fun eL h S5=>?_) fun J J x=>x.elim)
   have x:=S5.hd.objs I oI true (.head _)
   exact⟨k,Nat.lt_succ_self k,j+1,eL,p.2,n9,rfl,S5.N7 (H':=[]) (Hv':=[(.loc l,.ref a)]) (fun J q=>nomatch q) fun J q=>.tail _ q,⟨x.own rfl,x.nn,x.nc,w.new,w.out,w.held⟩,(match aH with|⟨o,e,r⟩=>⟨o,NX (eI.symm.trans e)▸x.at_,r⟩),h⟩
  ·have hw:ws.toArray[j]? =none:=(List.getElem?_toArray ..).trans (List.getElem?_eq_none (qs.length.symm▸List.getElem?_eq_none_iff.mp eu))
   refine wpAny_pyNext_list_end f.cx.ar.handled st hls.list hw fun n6 kp=>?_
   have z8:=f.y7.iS (h':=n6) (t:=y.s.toks) (ds:=[I]) (fun b hb=>(Og hb)▸w) fun a ob e q=>kp a ob (fun z=>q (List.mem_singleton.mpr z)) e
   exact wpAny_execs_nil (hR _ _ (h _ z8))
theorem ng {kd:Kd} {src:mq} {it:List X} {it':Ex} (t:bJ T kd src it it') (env:Env):∀x,foldedSetIterable it' env x=pure x:=by
 induction t with
 |val e e' te=>exact Tr.all (G:=fun it'=>∀x,foldedSetIterable it' env x=pure x) te (fun J J J=>rfl) (fun J J J J=>rfl) (fun J J J J J=>rfl) (fun J J J J=>rfl) (fun J J J J=>rfl) (fun J J J J J=>rfl) (fun J J J J J=>rfl) (fun J J J J=>rfl) (fun J J J J=>rfl) (fun J J J J=>rfl) (fun J J J=>rfl) (fun J J J J=>rfl) (fun J J J J=>rfl) (fun J J J J J=>rfl)
 |enum=>exact fun J=>rfl
 |range=>exact fun J=>rfl
theorem zO (tm:TM T P) (hr:g7 T n r.ev) (hx:V1 T n r.Y9) (rm:Rm F n) (f:Fs F z m Y) {xs:List Nat} {src:mq} {it:List X} {b:List S} (t:I9 T F.env.kindOf (.F1 xs src it b) st) (h:(g8 P r m (.F1 xs src it b) Y).c4 (KF F Q) (XF F E)):wpAny (model T.prog T.w) F.A (exec st F.env) Q E z.s:=
 t.Hb fun tgt it' b' p ts tx tb=>wpAny_For (xX tm hr (f.mz rm.r) ts tx (R.d5.mp h) (fun items c9 c5 c8 x l3 o kr h=>kr _ _ fun it s3 rd=>by
  induction rd with
  |mk I hh tt fp wr Pt Md St Hs q=>
   have z8:=f.step o
   have B8:Fs (F.hold [] Hs) _ m c9:=(z8.holds (H:=[]) (fun J J J q=>nomatch q) fun u v k=>⟨(q.hs u v k).1,(q.hs u v k).2⟩).adopt (ds:=wr) (t:=tt) q.kp q.new fun d hd=>q.L.ex _ _ q.st d hd
   exact De tm.toE4 hx rm tx tb q.L (fun f s q=>q) q.it B8 ⟨fun b hb=>z8.loose (q.new b hb) (Oa _ hb),fun b hb=>(q.fp b hb).imp id fun k=>⟨fun y=>(R1 y).elim (fun y=>k.2.elim fun o e=>d0 (q.new b y) e) k.1,k.2.elim fun o e=>⟨o,q.kp b o e⟩⟩⟩ q.st h)
  fun l c9 c5 c8 a o ha h=>q8 h fun J h=>by
   have z8:=f.step o
   have hls:∃us,listAt c9 l=some us:=a9 h fun us e J=>⟨us,e⟩
   exact match hls with
    |⟨us,eu⟩=>match bf z8.cx.rel ha eu with
     |⟨ws,hl,qs⟩=>wpAny_pyIter_list hl.list (by
      have B8:Fs (F.hold [] [(.loc l,.ref a)]) _ m c9:=(z8.holds (H:=[]) (Hv:=[(.loc l,.ref a)]) (fun J J J q=>nomatch q) fun u v k=>by cases Og k;exact⟨rfl,.loc l a ha⟩).adopt (h':=c5.heap.push {cls:=.type "list_iterator",data:=.fields #[.ref a,.int 0 0]}) (ds:=[c5.heap.objs.size]) (t:=c5.toks) (g9 _ _) (y9 _) (O1 rfl)
      exact Df tm.toE4 hx rm tx tb (fun f s q=>q) B8 (z8.loose (none_at_size _) (.head _)) ⟨_,Od _ rfl,rfl,rfl⟩ h)) (ng ts F.env)
end
noncomputable def v7 (cells:List (Str×Addr)):List (Str×NameKind)->List (Str×Addr)->List (Str×Addr)
 | [],acc=>acc
 |p::r,acc=>if p.2 ==.free then v7 cells r ((p.1,(cells.lookup p.1).getD 0)::acc)else v7 cells r acc
section
variable {cells:List (Str×Addr)} {y:Str} {c:Addr} {names:List (Str×NameKind)}
theorem wK:∀{acc:List (Str×Addr)},(∀x∈names,x.2=.free->∃c,cells.lookup x.1=some c)->(y,c)∈v7 cells names acc->(y,c)∈acc∨((y,NameKind.free)∈names∧cells.lookup y=some c):=by
 induction names with
 |nil=>exact fun J=>.inl
 |cons p r ih=>
  intro acc hc h
  have h:_∈if p.2 ==.free then v7 cells r ((p.1,(cells.lookup p.1).getD 0)::acc)else v7 cells r acc:=h
  by_cases q:(p.2 == NameKind.free)=true
  ·rw[OB q]at h
   have q:=beq_iff_eq.mp q
   exact(ih (fun x hx=>hc x (.tail _ hx)) h).elim (fun h=>(Of h).elim (fun e=>.inr ((hc p (.head _) q).elim fun c' e'=>by
    rw[e']at e
    cases e
    exact⟨by rw[←q];exact .head _,e'⟩)) .inl) fun h=>.inr ⟨.tail _ h.1,h.2⟩
  ·rw[OC q]at h
   exact(ih (fun x hx=>hc x (.tail _ hx)) h).imp id fun h=>⟨.tail _ h.1,h.2⟩
theorem wM {p:Str×Addr}:∀{acc:List (Str×Addr)},p∈acc->p∈v7 cells names acc:=by
 induction names with
 |nil=>exact fun h=>h
 |cons a r ih=>
  intro acc h
  show _∈if a.2 ==.free then v7 cells r ((a.1,(cells.lookup a.1).getD 0)::acc)else v7 cells r acc
  by_cases q:(a.2 == NameKind.free)=true
  ·rw[OB q];exact ih (.tail _ h)
  ·rw[OC q];exact ih h
theorem wL:∀{acc:List (Str×Addr)},(y,NameKind.free)∈names->∃c,(y,c)∈v7 cells names acc:=by
 induction names with
 |nil=>exact fun h=>nomatch h
 |cons a r ih=>
  intro acc h
  show∃c,_∈if a.2 ==.free then v7 cells r ((a.1,(cells.lookup a.1).getD 0)::acc)else v7 cells r acc
  by_cases q:(a.2 == NameKind.free)=true
  ·rw[OB q];exact(Of h).elim (fun e=>by cases e;exact⟨_,wM (.head _)⟩) ih
  ·rw[OC q];exact(Of h).elim (fun e=>absurd (e▸rfl) q) ih
theorem gP (hc:∀x∈names,x.2=.free->∃c,cells.lookup x.1=some c) (h:(v7 cells names []).lookup y=some c):(y,NameKind.free)∈names∧cells.lookup y=some c:=(wK hc (mem_of_lookup h)).elim (fun q=>absurd q List.not_mem_nil) id
theorem ax (hc:∀x∈names,x.2=.free->∃c,cells.lookup x.1=some c) (h:(y,NameKind.free)∈names):(v7 cells names []).lookup y=cells.lookup y:=
 (wL (cells:=cells) (acc:=[]) h).elim fun c hm=>(Y7 hm).elim fun c' e=>e.trans (gP hc e).2.symm
end
noncomputable def pf (env:Env) (x:Str×NameKind) (cs:List (Str×Addr)):Sem (ForInStep (List (Str×Addr))):=match x with
 |(NT,kind)=>if(kind == NameKind.free)=true then(do let a←cellOf env NT;pure (ForInStep.yield ((NT,a)::cs)))else pure (ForInStep.yield cs)
theorem rH {env:Env} {names:List (Str×NameKind)}:∀{acc:List (Str×Addr)},(∀x∈names,x.2=.free->∃c,env.cells.lookup x.1=some c)->forIn names acc (pf env)=(pure (v7 env.cells names acc):Sem (List (Str×Addr))):=by
 induction names with
 |nil=>exact fun J=>rfl
 |cons p r ih=>
  intro acc hc
  rw[List.forIn_cons]
  show((if(p.2 == NameKind.free)=true then(do let a←cellOf env p.1;pure (ForInStep.yield ((p.1,a)::acc)))else pure (ForInStep.yield acc)) >>= _)=pure (if p.2 ==.free then v7 env.cells r ((p.1,(env.cells.lookup p.1).getD 0)::acc)else v7 env.cells r acc)
  by_cases q:(p.2 == NameKind.free)=true
  ·rw[OB q,OB q]
   obtain⟨c,e⟩:=hc p (.head _) (beq_iff_eq.mp q)
   simp only[cellOf,e,Option.getD_some,pure_bind]
   exact ih fun x hx=>hc x (.tail _ hx)
  ·rw[OC q,OC q,pure_bind]
   exact ih fun x hx=>hc x (.tail _ hx)
theorem Z1 {scope:Scope} {env:Env} (hc:∀x∈scope.names,x.2=.free->∃c,env.cells.lookup x.1=some c):closureFor scope env=pure (v7 env.cells scope.names []):=by
 have e:closureFor scope env=(forIn scope.names [] (pf env) >>= fun cs=>pure cs):=rfl
 rw[e,rH hc];rfl
theorem O2 (x y:Nat) (m:Fr):d6 (M7 x m) y=bif Nat.beq x y then none else d6 m y:=by
 induction m with
 |nil=>show none=_;induction Nat.beq x y<;>rfl
 |cons p r ih=>
  show d6 (bif Nat.beq p.1 x then M7 x r else p::M7 x r) y=bif Nat.beq x y then none else bif Nat.beq p.1 y then some p.2 else d6 r y
  cases e:Nat.beq p.1 x with
  |true=>
   rw[Om e]
   exact ih.trans (by induction Nat.beq x y<;>rfl)
  |false=>
   show(bif Nat.beq p.1 y then some p.2 else d6 (M7 x r) y)=_
   induction q:Nat.beq p.1 y with
   |false=>exact ih
   |true=>rw[←Om q,show Nat.beq x p.1=false by induction k:Nat.beq x p.1 with|false=>rfl|true=>rw[Om k,Nat.beq_refl]at e;exact Bool.noConfusion e];rfl
theorem X5 {m:Fr} {x:Nat} {v:V}:d6 (C6 m) x=some v->d6 m x=some v∧quiet v=true:=by
 induction m with
 |nil=>exact fun h=>nomatch h
 |cons p r ih=>
  intro h
  have h:d6 (bif quiet p.2 then p::C6 r else M7 p.1 (C6 r)) x=some v:=h
  show(bif Nat.beq p.1 x then some p.2 else d6 r x)=some v∧_
  induction hq:quiet p.2 with
  |true=>
   rw[hq]at h
   have h:(bif Nat.beq p.1 x then some p.2 else d6 (C6 r) x)=some v:=h
   cases e:Nat.beq p.1 x with
   |true=>rw[e]at h;cases h;exact⟨rfl,hq⟩
   |false=>rw[e]at h;exact ih h
  |false=>
   rw[hq]at h
   have h:d6 (M7 p.1 (C6 r)) x=some v:=h
   rw[O2]at h
   cases e:Nat.beq p.1 x with
   |true=>rw[e]at h;exact nomatch h
   |false=>rw[e]at h;exact ih h
noncomputable def r7 (xs:List Nat) (m:Fr):Fr:=xs.foldl (fun m x=>M7 x m) m
theorem C3 {xs:List Nat} {y:Nat} {v:V}:∀{m:Fr},d6 (r7 xs m) y=some v->y∉xs∧d6 m y=some v:=by
 induction xs with
 |nil=>exact fun h=>⟨nofun,h⟩
 |cons x r ih=>
  intro m h
  have k:=ih (m:=M7 x m) h
  rw[O2]at k
  cases e:Nat.beq x y with
  |true=>rw[e]at k;exact nomatch k.2
  |false=>rw[e]at k;exact⟨fun q=>(Of q).elim (fun q=>by rw[q,Nat.beq_refl]at e;exact Bool.noConfusion e) k.1,k.2⟩
variable {d7:List Addr} {h':Heap}
section
theorem E8 {kd:Kd} {sc:Scope} {y:Str} {k:NameKind} {G:Prop} (h:C5 kd sc y=some k) (k1:(y,k)∈sc.names->G) (k2:(y,NameKind.free)∈sc.names->k=.cell->G):G:=by
 obtain⟨p,hp,e⟩:=List.mem_map.mp (mem_of_lookup (show _=some k from h))
 by_cases hc:(p.2 == NameKind.free&&(kd p.1 == some .cell))=true
 ·rw[OB hc]at e
  have e2:p.2=.free:=beq_iff_eq.mp (Bool.and_eq_true_iff.mp hc).1
  cases e
  exact k2 (e2▸hp) rfl
 ·rw[OC hc]at e
  exact k1 (e▸hp)
theorem bB {sc:Scope} {cl:List (Str×Addr)} {C:Addr} (hk:env.scope.kind=.function):(compEnvC sc cl C env).kindOf=C5 env.kindOf sc:=by
 funext y
 show(relabel sc env).names.lookup y=_
 unfold relabel C5
 rw[hk]
 congr 1
 refine List.map_congr_left fun p J=>?_
 obtain⟨a,b⟩:=p
 simp
theorem E0 (c:G2 T W U env own m h) {sc:Scope} (hf:∀x∈sc.names,x.2=.free->env.kindOf x.1=some .cell):∀x∈sc.names,x.2=.free->∃c,env.cells.lookup x.1=some c:=fun x hx hk=>
 match c.has x.1 (hf x hx hk)with|⟨ca,_,h1,_,_⟩=>⟨ca,h1⟩
theorem G2.sub (x:G2 T W U env own m h) (e:∀y v,d6 m' y=some v->d6 m y=some v):G2 T W U env own m' h:=⟨x.kind,x.glob,x.blt,x.Y1,fun y v q=>x.loc y v (e y v q),x.ns,fun y v q=>x.var y v (e y v q),x.has,x.own,x.code⟩
theorem FV.quiet {x:Nat} {v:V} {w:Value} (hq:Mine.quiet v=true) (f:FV T W U h own x v w):solid v=true∧eK T W U h v w:=by
 induction f with
 |pl _ _ g r=>exact⟨g,r⟩
 |_=>exact Bool.noConfusion hq
theorem vO {kd:Kd} {xs:List Nat} {sc:Scope} (tk:E4 T P) (hs:cO T kd xs sc) {x:Nat} (hx:x∉xs) (q:f6 (C5 kd sc (T.nm x)) T6=true):(T.nm x,NameKind.free)∈sc.names:=by
 rcases IX q with q|q|q
 ·exact E8 q (fun h1=>(hs.own _ h1 rfl).elim (fun e=>absurd e (tk.dot x)) fun⟨x',hx',e⟩=>absurd (tk.rG _ _ e▸hx') hx) fun J e=>nomatch e
 ·exact E8 q (fun h1=>absurd rfl (hs.cell _ h1)) fun h2 J=>h2
 ·exact E8 q id fun J e=>nomatch e
theorem G2.comp (tk:E4 T P) (c:G2 T W U env own m h) {xs:List Nat} {sc:Scope} {C:Addr} {ds:List Addr} (hs:cO T env.kindOf xs sc) (keep:∀a o,h.get? a=some o->h'.get? a=some o) (mm:Ms U d7 (k9 T W U) (k9 T (W.enter C ds) d7) (fun J=>False) h h') {f:Str->Option Value} (hn:h'.Ns C f):
 G2 T (W.enter C ds) d7 (compEnvC sc (v7 env.cells sc.names []) C env) [] (r7 xs (C6 m)) h':=
 have hk:=bB (sc:=sc) (cl:=v7 env.cells sc.names []) (C:=C) c.kind
 have ht:=E0 c hs.free
 {kind:=hs.kind
  glob:=c.glob
  blt:=c.blt
  Y1:=.head _
  loc:=fun x v e=>c.loc x v (X5 (C3 e).2).1
  ns:=⟨f,hn⟩
  var:=fun x v e q=>by
   have l:=X5 (C3 e).2
   have hf:=vO tk hs (C3 e).1 (hk▸q)
   have hc:=hs.free _ hf rfl
   obtain⟨w,hd,fv⟩:=c.var x v l.1 (by rw[hc];rfl)
   refine⟨w,?_,.pl v w (fv.quiet l.2).1 ((fv.quiet l.2).2.ms mm)⟩
   induction hd with
   |loc _ k=>exact S9 k hc nofun
   |P0 ca k hc' o i=>exact .P0 ca ((IX q).elim (fun z=>by
    rw[hk]at z
    exact E8 z (fun h1=>(hs.own _ h1 rfl).elim (fun e=>absurd e (tk.dot x)) fun⟨x',hx',e'⟩=>absurd (tk.rG _ _ e'▸hx') (C3 e).1) fun J e=>nomatch e) id) ((ax ht hf).trans hc') (Ob _ o) (D4 i (keep _))
  has:=fun y q=>by
   rw[hk]at q
   have hf:(y,NameKind.free)∈sc.names:=E8 q (fun h1=>absurd rfl (hs.cell _ h1)) fun h2 J=>h2
   exact match c.has y (hs.free _ hf rfl)with|⟨ca,v,hc,o,i⟩=>⟨ca,v,(ax ht hf).trans hc,Ob _ o,D4 i (keep _)⟩
  own:=fun J J q=>nomatch q
  code:=fun Pt q=>d0 (hk▸hs.lam) q}
end
variable {prog:Program} {w:World}
section
variable {R:Result->Shared->Prop}
theorem bz {elt target iter:Ex} {ifs:List Ex} {scope:Scope} {pos:Pos} {it acc:Value} {env:Env} (I:Nat->Shared->Prop)
 (turn:∀n s,I n s->wpAny (model prog w) A (pyNext it) (fun r c5=>match r with
  |none=>R (.ok .next) c5
  |some v=>wpAny (model prog w) A (letOwnedTupleGo target it v) (fun J Ed=>wpAny (model prog w) A (assign target env v) (fun J l3=>
   wpAny (model prog w) A (forIn ifs true fun c r=>if r=true then do let ok←isTrue c env (eval c env);pure (ForInStep.yield ok)else pure (ForInStep.yield r)) (fun ok w9=>
    if ok=true then wpAny (model prog w) A (eval elt env) (fun x aG=>
     wpAny (model prog w) A (call (.builtin "list.append") [acc,x]) (fun J uM=>∃m,m < n∧I m uM) (notedBy (model prog w) A env fun e s'=>R (.error e) s') aG) (notedBy (model prog w) A env fun e s'=>R (.error e) s') w9
    else∃m,m < n∧I m w9) (notedBy (model prog w) A env fun e s'=>R (.error e) s') l3) (notedBy (model prog w) A env fun e s'=>R (.error e) s') Ed) (notedBy (model prog w) A env fun e s'=>R (.error e) s') c5) (notedBy (model prog w) A env fun e s'=>R (.error e) s') s)
 (n:Nat) (h:I n s):codeAny (model prog w) A (.compLoop (.ListComp elt [⟨target,iter,ifs,0⟩] scope pos) 0 it acc env) R s:=by
 refine codeAny_loop rfl I (fun n s hI=>?_) n h
 show wpAny _ A ((compTurn (.ListComp elt [⟨target,iter,ifs,0⟩] scope pos) 0 it acc env).onRaise (fun x=>do noteFrame x env;theTreesLotGoes x)) _ _ s
 refine wpAny_noted ?_
 rw[compTurn_list]
 refine NU (Ow (NU (wpAny_mono (turn n s hI) (fun r c5 n6=>?_) fun J J h'=>h')))
 induction r with
 |none=>exact NW n6
 |some v=>
  refine NU (wpAny_mono n6 (fun J Ed JG=>?_) fun J J h'=>h')
  refine NU (wpAny_mono JG (fun J l3 r3=>NU (wpAny_mono r3 (fun ok w9 T9=>?_) fun J J h'=>h')) fun J J h'=>h')
  induction ok with
  |false=>exact NW ⟨rfl,T9⟩
  |true=>
   exact NU (NU (wpAny_mono T9 (fun x aG ou=>NU (wpAny_mono ou (fun J uM il=>NW (NW ⟨rfl,il⟩)) fun J J h'=>h')) fun J J h'=>h'))
end
variable {mc:Fr} {zs:List V} {ys:List Value} {xs:List Nat}
section
variable {m0:Fr} {D:Addr}
structure Acc (F:Fx T) (z:Zt) (D:Addr) (zs:List V) (ys:List Value):Prop where
 l:l8 F z D
 at_:z.s.heap.get? D=some (LCg.lst ys)
 r:E3 T z.W z.U z.s.heap zs ys
theorem se {u:V} {mu:Fr} {kd:Kd} (tx:pQ T kd xs target) (e:jL xs u mc=some mu):∃m',jL xs u (r7 xs mc)=some m'∧(∀y,d6 m' y=d6 mu y)∧∀y v,d6 (r7 xs mc) y=some v->d6 mu y=some v:=by
 have b:∀{x y:Nat},Nat.beq x y=false->d6 (M7 x mc) y=d6 mc y:=fun q=>(O2 ..).trans (by rw[q];rfl)
 induction tx with
 |one x p _ _=>
  cases e
  refine⟨_,rfl,fun y=>?_,fun y v k=>?_⟩
  ·rw[C9,C9]
   induction q:Nat.beq x y with
   |true=>rfl
   |false=>exact b q
  ·have d:=C3 k
   rw[C9,show Nat.beq x y=false by induction q:Nat.beq x y with|false=>rfl|true=>exact absurd (Om q▸.head _) d.1]
   exact d.2
 |two x x' p q i r _ _ _ _=>
  refine a0 e fun l el e=>d8 e fun ab eab e=>?_
  subst e
  refine⟨putN (putN (r7 [x,x'] mc) x ab.1) x' ab.2,by show(N0 u).bind _=_;rw[el,Option.bind_some,eab];rfl,fun y=>?_,fun y v k=>?_⟩
  ·rw[C9,C9,C9,C9]
   induction q:Nat.beq x' y with
   |true=>rfl
   |false=>induction q2:Nat.beq x y with
    |true=>rfl
    |false=>
     show d6 (M7 x' (M7 x mc)) y=d6 mc y
     rw[O2,q,O2,q2];rfl
  ·have d:=C3 k
   have n1:Nat.beq x y=false:=by induction q:Nat.beq x y with|false=>rfl|true=>exact absurd (Om q▸.head _) d.1
   have n2:Nat.beq x' y=false:=by induction q:Nat.beq x' y with|false=>rfl|true=>exact absurd (Om q▸.tail _ (.head _)) d.1
   rw[C9,C9,n1,n2]
   exact d.2
theorem Fs.II {m m':Fr} (f:Fs F z m Y) (e:∀y v,d6 m' y=some v->d6 m y=some v):Fs F z m' Y:=⟨⟨f.cx.rel,f.cx.fr.sub e,f.cx.ar⟩,f.st,f.out,f.hd⟩
theorem Acc.held {z':Zt} (a:Acc F z D zs ys) {m:Fr} (f:Fs (F.hold [(D,LCg.lst ys,true)] (zs.zip ys)) z' m Y):Acc F z' D zs ys:=
 have x:=f.hd.objs D _ true (.head _)
 ⟨⟨x.own rfl,x.nn,x.nc,a.l.new,a.l.out,a.l.held⟩,x.at_,eO a.r.length fun v w q=>have y:=f.hd.vals v w (Oa _ q);⟨y.g,y.r⟩⟩
theorem jF (tk:E4 T P) (hr:g7 T n r.ev) (ht:D5 T n r.tr) (rm:N6 F.A n) (f:Fs F z (r7 xs mc) Y) (a:Acc F z D zs ys) (hz:ys.length≤1000) (hs:∀u v,(u,v)∈Hs->(u,v)∈F.Hv) {u:V} {v:Value} {elt:X} {cond:Option X} {elt':Ex} {cond':Option Ex} {α:Type} {K:α->Hp->Prop} {X':Txt->Hp->Prop} {g:List V->Hp->R α} {Nx:Shared->Prop}
 (tx:pQ T F.env.kindOf xs target) (y:KA T Hs xs.length u v z.s.heap) (te:Tr T F.env.kindOf elt elt') (tc:AU T F.env.kindOf cond cond') (h:((jI r mc elt xs cond u Y).bind g).c4 K X')
 (nx:∀z' c7 qs ys',Fs F z' (r7 xs mc) c7->Acc F z' D (zs++qs) ys'->ys'.length≤ys.length+1->(g qs c7).c4 K X'->Nx z'.s):
 wpAny (model T.prog T.w) F.A (assign target F.env v) (fun J l3=>
  wpAny (model T.prog T.w) F.A (forIn cond'.toList true fun c r=>if r=true then do let ok←isTrue c F.env (PySem.eval c F.env);pure (ForInStep.yield ok)else pure (ForInStep.yield r)) (fun ok w9=>
   if ok=true then wpAny (model T.prog T.w) F.A (PySem.eval elt' F.env) (fun x aG=>
    wpAny (model T.prog T.w) F.A (call (.builtin "list.append") [.ref D,x]) (fun J uM=>Nx uM) E aG) E w9
   else Nx w9) E l3) E z.s:=by
 have h:=R.d5.mp h
 refine a9 h fun mu eb h=>?_
 obtain⟨m',eb',em,sub⟩:=se tx eb
 have z8:Fs (F.hold [(D,LCg.lst ys,true)] (zs.zip ys)) z (r7 xs mc) Y:=f.holds (fun b o bb q=>by cases Og q;exact a.l.EF f a.at_) fun v w q=>have k:=X0 a.r v w q;⟨k.1,k.2⟩
 refine lI (F:=F.hold [(D,LCg.lst ys,true)] (zs.zip ys)) tk z8 (fun u v q=>Ob _ (hs u v q)) tx y eb' fun w9 Q2=>?_
 have Q2:=Q2.congr fun y=>(em y).symm
 have go:∀b Fi z2,Fs (F.hold [(D,LCg.lst ys,true)] (zs.zip ys)) z2 mu Fi->(bif b then(r.ev mu elt Fi).z6.bind fun y Y=>(b8 76 (freeze y) Y).bind fun y Y=>.ok [y] Y else .ok [] Fi:R (List V)).c4 (fun a Y=>(g a Y).c4 K X') X'->
  if b=true then wpAny (model T.prog T.w) F.A (PySem.eval elt' F.env) (fun x aG=>wpAny (model T.prog T.w) F.A (call (.builtin "list.append") [.ref D,x]) (fun J uM=>Nx uM) E aG) E z2.s else Nx z2.s:=fun b Fi z2 f h=>by
  induction b with
  |false=>exact nx z2 Fi [] ys (f.y7.II sub) (by rw[Ox];exact a.held f) (Nat.le_succ _) h
  |true=>
   refine(OB rfl).mpr (Hm hr (f.mz rm) te h fun yv Nh w s3 AZ o hw J h=>a9 h fun yv' ef h=>?_)
   have S5:=f.step o
   have lK:=a.held S5
   refine append_at (hsz:=by rw[Ou];exact bp hz) lK.at_ fun il bl tS=>?_
   have tS:il.get? D=some (LCg.lst (ys++[w])):=by rw[tS,LCg.lst_snoc]
   have Mm:=S5.y7.cR (h':=il) (t:=s3.toks) (D:=fun b=>b=D) (fun b e=>(show b=D from e)▸lK.l) (SameBut.off bl) fun b e=>(show b=D from e)▸⟨_,tS⟩
   have ms:Ms AZ AZ (k9 T z2.W AZ) (k9 T z2.W AZ) (fun b=>b=D) s3.heap il:=⟨fun J J e=>e,SameBut.off bl,fun b J J e=>.inr (.inr (.inl ((show b=D from e)▸lK.l.C8))),fun J J J q=>q⟩
   have fz:=C1 ef hw
   exact nx _ Nh [yv'] (ys++[w]) (Mm.II sub) ⟨lK.l.ig rfl rfl,tS,(lK.r.ms ms).append (.cons _ _ _ _ fz.1 (fz.2.ms ms) .nil)⟩ (by rw[List.length_append];exact OF _) h
 have h:=R.d5.mp h
 induction tc with
 |none=>exact wpAny_tests_nil (go true Y _ Q2 h)
 |some cc cc' tcc=>exact wpAny_tests_one (ht (Q2.mz rm) tcc (R.c4.mono (R.J6 h) (fun b Fi h s2 Nj o=>go b Fi _ (Q2.step o) h) fun J J x=>x.elim))
end
section
variable {D:Addr} {elt:X} {cond:Option X} {elt' iter:Ex} {cond':Option Ex} {sc:Scope} {pos:Pos} {K:List V->Hp->Prop} {X':Txt->Hp->Prop} {Rz:Result->Shared->Prop}
inductive Il (F:Fx T) (Hs:List (V×Value)) (D:Addr) (fp wr:List Addr) (St:Nat->Heap->Prop) (items:List V) (m0:Fr) (Kp:List V->Hp->List V->Prop) (k:Nat) (s':Shared):Prop
 |mk (i:Nat) (z:Zt) (Y:Hp) (zs:List V) (ys:List Value) (e:z.s=s') (ek:k=items.length+1 - i) (hi:i≤items.length) (hy:ys.length≤i) (f:Fs (F.hold [] Hs) z m0 Y) (w:Walk F z fp wr) (a:Acc F z D zs ys) (st:St i s'.heap) (h:Kp zs Y (items.drop i))
theorem Acc.hold {H:List (Addr×Obj×Bool)} {Hv:List (V×Value)} (a:Acc F z D zs ys) (n:∀p,p∈H->p.1≠D):Acc (F.hold H Hv) z D zs ys:=⟨a.l.hold n,a.at_,a.r⟩
theorem Acc.y7 {H:List (Addr×Obj×Bool)} {Hv:List (V×Value)} (a:Acc (F.hold H Hv) z D zs ys):Acc F z D zs ys:=⟨⟨a.l.C8,a.l.NT,a.l.cell,a.l.new,a.l.out,fun o b q=>a.l.held o b (Ob _ q)⟩,a.at_,a.r⟩
theorem Acc.turn {D':Addr->Prop} {h':Heap} {t:Nat} (a:Acc F z D zs ys) (hD:∀b,D' b->b∈z.W.own) (keep:Off D' z.s.heap h') (nD:¬D' D):Acc F (z.hp h' t) D zs ys:=
 ⟨a.l.ig rfl rfl,keep _ _ a.at_ nD,a.r.ms (⟨fun J J e=>e,keep,fun b J q=>fun k=>.inr (.inr (.inl (hD b k))),fun J J J q=>q⟩:Ms z.U z.U (k9 T z.W z.U) (k9 T z.W z.U) D' z.s.heap h')⟩
theorem Aj (tk:E4 T P) (hr:g7 T n r.ev) (ht:D5 T n r.tr) (rm:N6 F.A n) {items:List V} {I:Addr} {fp wr:List Addr} {Pt Md:Nat->Value->Heap->Prop} {St:Nat->Heap->Prop} (tx:pQ T F.env.kindOf xs target) (te:Tr T F.env.kindOf elt elt') (tc:AU T F.env.kindOf cond cond')
 (L:AX T F.A target I fp wr items.length Pt Md St) (hP:∀i v h,Pt i v h->∃u,items[i]? =some u∧KA T Hs xs.length u v h) (hlen:items.length≤1000) (hw:D∉wr) (f:Fs (F.hold [] Hs) z (r7 xs mc) Y) (w:Walk F z fp wr) (a:Acc F z D [] []) (st:St 0 z.s.heap)
 (h:(bA r mc elt xs cond items Y).c4 K X') (U1:∀z' c7 zs ys,Fs F z' (r7 xs mc) c7->Acc F z' D zs ys->K zs c7->Rz (.ok .next) z'.s):
 codeAny (model T.prog T.w) F.A (.compLoop (.ListComp elt' [⟨target,iter,cond'.toList,0⟩] sc pos) 0 (.ref I) (.ref D) F.env) Rz z.s:=by
 refine bz (Il F Hs D fp wr St items (r7 xs mc) fun zs Y l=>(bA r mc elt xs cond l Y).c4 (fun q c7=>K (zs++q) c7) X') (fun k s' c=>?_) _ ⟨0,z,Y,[],[],rfl,rfl,Nat.zero_le _,OF _,f,w,a,st,h⟩
 obtain⟨i,y,τ,zs,ys,e,ek,hi,hy,f,w,a,st,h⟩:=c
 subst e
 by_cases hlt:i < items.length
 ·refine L.k.item i _ _ _ hlt st fun v n6 E7 md ji=>?_
  have lo:∀b,b∈wr->l8 (F.hold [] Hs) y b:=fun b hb=>(w.l b hb).hold fun J q=>nomatch q
  have z8:=f.cR (h':=n6) (t:=E7) (D:=fun b=>b∈wr) lo (fun a ob e q=>ji a ob q e) fun b hb=>L.Lk i v n6 md b hb
  have Mt:=a.turn (h':=n6) (t:=E7) (D':=fun b=>b∈wr) (fun b hb=>(w.l b hb).C8) (fun a ob e q=>ji a ob q e) hw
  refine L.k.go i v _ _ _ md fun r3 hp eZ jh=>?_
  have B8:Fs (F.hold [] Hs) (y.hp r3 E7) (r7 xs mc) τ:=z8.cR (h':=r3) (t:=E7) (D:=fun b=>b∈wr) (fun b hb=>(lo b hb).ig rfl rfl) (fun a ob e q=>jh a ob q e) fun b hb=>L.ex _ _ eZ b hb
  have Mr:Acc F (y.hp r3 E7) D zs ys:=Mt.turn (h':=r3) (t:=E7) (D':=fun b=>b∈wr) (fun b hb=>(w.l b hb).C8) (fun a ob e q=>jh a ob q e) hw
  obtain⟨u,hu,hyl⟩:=hP i v r3 hp
  have hd:items.drop i=u::items.drop (i+1):=(List.drop_eq_getElem_cons hlt).trans (Oh (· ::_) (NX ((Ol hlt).symm.trans hu)))
  rw[hd]at h
  have l₂:∀b,b∈wr->l8 F (y.hp r3 E7) b:=fun b hb=>(w.l b hb).ig rfl rfl
  have jx:∀b,b∈fp->b∉wr->¬k9 T y.W y.U b∧∃o,r3.get? b=some o:=fun b hb hw=>(w.fp b hb).elim (fun q=>absurd q hw) fun q=>⟨q.1,q.2.elim fun o e=>⟨o,jh b o hw (ji b o hw e)⟩⟩
  have nw:∀{c},c∈fp.filter (fun b=>!(wr.contains b))->c∈fp∧c∉wr:=fun q=>⟨(List.mem_filter.mp q).1,fun k=>by have c2:=(List.mem_filter.mp q).2;rw[List.contains_iff_mem.mpr k]at c2;exact Bool.noConfusion c2⟩
  have nD:∀{c},c∈fp.filter (fun b=>!(wr.contains b))->c≠D:=fun q e=>(jx _ (nw q).1 (nw q).2).1 (.inr (.inr (.inl (e▸a.l.C8))))
  have g:Fs (F.hold (y8 r3 true wr++y8 r3 false (fp.filter fun b=>!(wr.contains b))) Hs) (y.hp r3 E7) (r7 xs mc) τ:=Fs.bo B8 fun a o bb q=>(OG q).elim (fun q=>by
   obtain⟨q1,q2,rfl⟩:=w8.mp q
   exact(l₂ a q1).EF B8.y7 q2) fun q=>by
   obtain⟨q1,q2,rfl⟩:=w8.mp q
   exact B8.y7.MW (jx a (nw q1).1 (nw q1).2).1 q2
  have Mq:Acc (F.hold (y8 r3 true wr++y8 r3 false (fp.filter fun b=>!(wr.contains b))) Hs) (y.hp r3 E7) D zs ys:=Mr.hold fun p q=>(OG q).elim (fun q e=>hw (e▸(w8 (a:=p.1) (o:=p.2.1) (b':=p.2.2)|>.mp q).1)) fun q=>nD (w8 (a:=p.1) (o:=p.2.1) (b':=p.2.2)|>.mp q).1
  refine jF (F:=F.hold (y8 r3 true wr++y8 r3 false (fp.filter fun b=>!(wr.contains b))) Hs) tk hr ht rm g Mq (Oe hy (Oe hi hlen)) (fun u v q=>Oa _ q) tx hyl te tc h fun eL n9 qs ys' S5 lK hl4 h=>?_
  have Y1:∀{c},c∈wr->∃o,r3.get? c=some o∧sC (F.hold (y8 r3 true wr++y8 r3 false (fp.filter fun b=>!(wr.contains b))) Hs) eL c o true:=fun{c} hc=>(L.ex _ _ eZ c hc).elim fun o e=>⟨o,e,S5.hd.objs c o true (Oa _ (Oa _ (w8.mpr ⟨hc,e,rfl⟩)))⟩
  have inF:∀{c},c∈fp->c∉wr->∃o,r3.get? c=some o∧sC (F.hold (y8 r3 true wr++y8 r3 false (fp.filter fun b=>!(wr.contains b))) Hs) eL c o false:=fun{c} hc hw=>(jx c hc hw).2.elim fun o e=>⟨o,e,S5.hd.objs c o false (Oa _ (Ob _ (w8.mpr ⟨List.mem_filter.mpr ⟨hc,by induction q:wr.contains c with|false=>rfl|true=>exact absurd (List.contains_iff_mem.mp q) hw⟩,e,rfl⟩)))⟩
  exact⟨items.length+1 - (i+1),ek.symm▸drop_lt hlt,i+1,eL,n9,zs++qs,ys',rfl,rfl,hlt,Oe hl4 (Nat.succ_le_succ hy),S5.N7 (H':=[]) (fun J q=>nomatch q) fun J q=>q,⟨fun c hc=>(Y1 hc).elim fun o q=>⟨q.2.own rfl,q.2.nn,q.2.nc,(w.l c hc).new,(w.l c hc).out,(w.l c hc).held⟩,
   fun c hc=>Classical.byCases (fun hw:c∈wr=>.inl hw) fun hw=>.inr ((inF hc hw).elim fun o q=>⟨q.2.nb rfl,o,q.2.at_⟩)⟩,lK.y7,L.k.frame _ _ _ eZ fun c hc o e=>Classical.byCases (fun hw:c∈wr=>(Y1 hw).elim fun o' q=>NX (q.1.symm.trans e)▸q.2.at_) fun hw=>(inF hc hw).elim fun o' q=>NX (q.1.symm.trans e)▸q.2.at_,
   R.c4.mono (R.d5.mp h) (fun l Ng k4=>(List.append_assoc zs qs l).symm▸k4) fun J J x=>x⟩
 ·have hin:i=items.length:=Nat.le_antisymm hi (OD hlt)
  subst hin
  refine L.k.done _ _ _ st fun n6 E7 kp=>?_
  have z8:Fs F _ (r7 xs mc) τ:=f.y7.iS (h':=n6) (t:=E7) (ds:=wr) w.l fun a ob e q=>kp a ob q e
  rw[List.drop_length]at h
  have h:K (zs++[]) τ:=h
  rw[Ox]at h
  have ms:Ms y.U y.U (k9 T y.W y.U) (k9 T (y.W.less wr) y.U) (fun b=>b∈wr) y.s.heap n6:=⟨fun J J e=>e,fun a ob e q=>kp a ob q e,fun b J J k=>.inr (.inr (.inl (w.l b k).C8)),fun b J J q=>q.imp id fun q=>q.imp id fun q=>q.imp (fun q=>(E9.mp q).1) id⟩
  exact U1 _ τ zs ys z8 ⟨⟨E9.mpr ⟨a.l.C8,hw⟩,a.l.NT,a.l.cell,a.l.new,a.l.out,a.l.held⟩,kp D _ hw a.at_,a.r.ms ms⟩ h
inductive KR (F:Fx T) (l:Nat) (a I D:Addr) (m0:Fr) (Kp:Nat->Nat->List V->Hp->Prop) (k:Nat) (s':Shared):Prop
 |mk (j:Nat) (z:Zt) (Y:Hp) (zs:List V) (ys:List Value) (e:z.s=s') (ej:j+k=64) (hy:ys.length≤j) (f:Fs (F.hold [] [(.loc l,.ref a)]) z m0 Y) (w:l8 F z I) (c:Acc F z D zs ys) (st:s'.heap.IsListIter I a j) (h:Kp k j zs Y)
theorem Ak (tk:E4 T P) (hr:g7 T n r.ev) (ht:D5 T n r.tr) (rm:N6 F.A n) {l:Nat} {a I:Addr} (tx:pQ T F.env.kindOf xs target) (te:Tr T F.env.kindOf elt elt') (tc:AU T F.env.kindOf cond cond') (hw:I≠D) (f:Fs (F.hold [] [(.loc l,.ref a)]) z (r7 xs mc) Y) (w:l8 F z I) (c:Acc F z D [] []) (st:z.s.heap.IsListIter I a 0)
 (h:(jJ r mc elt xs cond l 64 0 Y).c4 K X') (U1:∀z' c7 zs ys,Fs F z' (r7 xs mc) c7->Acc F z' D zs ys->K zs c7->Rz (.ok .next) z'.s):
 codeAny (model T.prog T.w) F.A (.compLoop (.ListComp elt' [⟨target,iter,cond'.toList,0⟩] sc pos) 0 (.ref I) (.ref D) F.env) Rz z.s:=by
 refine bz (KR F l a I D (r7 xs mc) fun k j zs Y=>(jJ r mc elt xs cond l k j Y).c4 (fun q c7=>K (zs++q) c7) X') (fun k s' c=>?_) _ ⟨0,z,Y,[],[],rfl,rfl,OF _,f,w,c,st,h⟩
 obtain⟨j,y,τ,zs,ys,e,ej,hy,f,w,c,st,h⟩:=c
 subst e
 induction k with
 |zero=>exact h.elim
 |succ k=>
  have hla:y.U[l]? =some a:=VR.A8 (G:=fun v=>v=Value.ref a->y.U[l]? =some a) (bad:=k9 T y.W y.U) (f7:=k9 T y.W y.U) (h:=y.s.heap) (.mk _ _ (f.hd.vals (.loc l) (.ref a) (.head _)).r) (fun a' e q=>Value.ref.inj q▸e) rfl
  refine a9 h fun us eu h=>match bf f.cx.rel hla eu with|⟨ws,hls,qs⟩=>cf (K:=fun z=>R.c4 z _ _) h (fun u eu h=>?_) fun eu h=>?_
  ·refine qs.at eu fun v hv g rv=>?_
   refine wpAny_pyNext_list_item st hls.list (x:=v) ((List.getElem?_toArray ..).trans hv) fun n6 aH sb=>?_
   have zM:Fs (F.hold [] [(u,v),(.loc l,.ref a)]) y (r7 xs mc) τ:=⟨f.cx,⟨f.st.v5,f.st.inj,f.st.aR,f.st.O3,f.st.cB,f.st.aw,f.st.old⟩,f.out,⟨fun a o b q=>have x:=f.hd.objs a o b q;⟨x.at_,x.nm,x.nn,x.nc,x.own,x.nb⟩,fun v' w' q=>(Of q).elim (fun e=>by cases e;exact⟨g,rv⟩) fun q=>have x:=f.hd.vals v' w' q;⟨x.g,x.r⟩⟩⟩
   have z8:Fs (F.hold [] [(u,v),(.loc l,.ref a)]) (y.hp n6 y.s.toks) (r7 xs mc) τ:=zM.cR (h':=n6) (t:=y.s.toks) (D:=fun b=>b=I) (fun b e=>(show b=I from e)▸w.hold fun J q=>nomatch q) (SameBut.off sb) fun b e=>(show b=I from e)▸P6 aH
   have c₁:Acc F (y.hp n6 y.s.toks) D zs ys:=c.turn (D':=fun b=>b=I) (fun b e=>(show b=I from e)▸w.C8) (SameBut.off sb) (Ne.symm hw)
   obtain⟨oI,eI⟩:=P6 aH
   have Fj:l8 F (y.hp n6 y.s.toks) I:=w.ig rfl rfl
   have B8:Fs (F.hold [(I,oI,true)] [(u,v),(.loc l,.ref a)]) (y.hp n6 y.s.toks) (r7 xs mc) τ:=Fs.bo z8 fun a o bb q=>by cases Og q;exact Fj.EF z8.y7 eI
   refine letGo_listiter aH ?_
   refine jF (F:=F.hold [(I,oI,true)] [(u,v),(.loc l,.ref a)]) (Hs:=[(u,v)]) tk hr ht rm B8 (c₁.hold fun p q=>by rw[Og q];exact hw) (Oe hy (Oe (Nat.le_add_right j (k+1)) (Oe (Nat.le_of_eq ej) (by decide)))) (fun u' v' q=>(Og q)▸.head _) tx (.one (.held (.head _))) te tc h fun eL n9 qs ys' S5 lK hl4 h=>?_
   have x:=S5.hd.objs I oI true (.head _)
   exact⟨k,Nat.lt_succ_self k,j+1,eL,n9,zs++qs,ys',rfl,(by rw[Nat.add_assoc,Nat.add_comm 1];exact ej),Oe hl4 (Nat.succ_le_succ hy),S5.N7 (H':=[]) (Hv':=[(.loc l,.ref a)]) (fun J q=>nomatch q) fun J q=>.tail _ q,⟨x.own rfl,x.nn,x.nc,w.new,w.out,w.held⟩,lK.y7,(match aH with|⟨o,e,r⟩=>⟨o,NX (eI.symm.trans e)▸x.at_,r⟩),
    R.c4.mono (R.d5.mp h) (fun l Ng k4=>(List.append_assoc zs qs l).symm▸k4) fun J J x=>x⟩
  ·have hw':ws.toArray[j]? =none:=(List.getElem?_toArray ..).trans (List.getElem?_eq_none (qs.length.symm▸List.getElem?_eq_none_iff.mp eu))
   refine wpAny_pyNext_list_end f.cx.ar.handled st hls.list hw' fun n6 kp=>?_
   have z8:=f.y7.iS (h':=n6) (t:=y.s.toks) (ds:=[I]) (fun b hb=>(Og hb)▸w) fun a ob e q=>kp a ob (fun z=>q (List.mem_singleton.mpr z)) e
   have h:K (zs++[]) τ:=h
   rw[Ox]at h
   have ms:Ms y.U y.U (k9 T y.W y.U) (k9 T (y.W.less [I]) y.U) (fun b=>b∈[I]) y.s.heap n6:=⟨fun J J e=>e,fun a ob e q=>kp a ob (fun z=>q (List.mem_singleton.mpr z)) e,fun b J J k=>.inr (.inr (.inl ((Og k)▸w.C8))),fun b J J q=>q.imp id fun q=>q.imp id fun q=>q.imp (fun q=>(E9.mp q).1) id⟩
   exact U1 _ τ zs ys z8 ⟨⟨E9.mpr ⟨c.l.C8,fun q=>hw (Og q).symm⟩,c.l.NT,c.l.cell,c.l.new,c.l.out,c.l.held⟩,kp D _ (Ne.symm hw) c.at_,c.r.ms ms⟩ h
end
variable {s':Shared} {c7:Hp} {C:Addr}
section
variable {s3:Shared} {D:Addr}
theorem jG {e:Ex} {it:Value} {sc:Scope} {cl:List (Str×Addr)} {RR:Value->Addr->Result->Shared->Prop} (hk:sc.kind=.function) (hcell:∀x∈sc.names,x.2≠.cell)
 (kk:∀D C h4 tk f,(∀b o,s3.heap.get? b=some o->h4.get? b=some o)->s3.heap.get? D=none->s3.heap.get? C=none->D≠C->h4.get? D=some (LCg.lst [])->h4.Ns C f->
  codeAny (model T.prog T.w) A (.compStart e 0 it (.ref D) (compEnvC sc cl C env)) (RR (.ref D) C) {s3 with heap:=h4,toks:=tk}):
 wpAny (model T.prog T.w) A (newList []) (fun acc w9=>wpAny (model T.prog T.w) A (newFunctionEnv sc env.globals cl [] env.qual none .none (some env)) (fun cenv aG=>
  codeAny (model T.prog T.w) A (.compStart e 0 it acc {cenv with scope:=relabel sc env}) (RR acc cenv.locals) aG) E w9) E s3:=by
 refine wpAny_newObj_type (wpAny_newFunctionEnv hcell (fun y hy=>absurd hy List.not_mem_nil) (fun n6 rq kR=>?_) hk)
 dsimp only at rq kR⊢
 generalize hH2:s3.heap.push {cls:=.type "list",dict:=none,data:=.seq ([]:List Value).toArray}=H2 at rq kR⊢
 have hC:H2.objs.size=s3.heap.objs.size+1:=by rw[←hH2,Heap.size_push]
 have hDC:s3.heap.objs.size≠H2.objs.size:=by rw[hC];exact Nat.ne_of_lt (Nat.lt_succ_self _)
 refine kk s3.heap.objs.size H2.objs.size n6 _ _ (fun b o e=>kR.extBut b o ?_ (Oc _ (hH2▸Oc _ e))) (none_at_size _) ?_ hDC (kR.extBut _ _ hDC (Oc _ (hH2▸Od _ rfl))) rq
 ·rw[hC];exact Nat.ne_of_lt (Nat.lt_succ_of_lt (OE e))
 ·rw[hC];exact Heap.get?_none_of_le (Nat.le_succ _)
inductive sE (T:i7) (W:r9) (U:List Addr) (s:Shared) (zs:List V) (c7:Hp) (D C:Addr) (s':Shared):Prop
 |mk (d7:List Addr) (ys:List Value) (mC:Str->Option Value) (o:i4 T W U s c7 d7 s') (rel:d9 T (W.add [D,C]) d7 c7 s'.heap) (dc:D≠C) (dn:s.heap.get? D=none) (cn:s.heap.get? C=none) (hl:R6 s'.heap D ys) (q:E3 T (W.add [D,C]) d7 s'.heap zs ys) (hn:s'.heap.Ns C mC)
theorem In.refl:In W W s:=⟨fun J h=>h,fun J h=>h,fun J h=>.inl h,fun J h=>.inl h⟩
noncomputable abbrev Bh (T:i7) (A:Around) (sc:Scope) (C:Addr) (env:Env) (W:r9) (U:List Addr) (s:Shared):Fx T:=⟨A,compEnvC sc (v7 env.cells sc.names []) C env,W,U,s,[],[]⟩
structure KS (T:i7) (A:Around) (sc:Scope) (C D:Addr) (env:Env) (W:r9) (U:List Addr) (s:Shared) (fp wr:List Addr) (Hs:List (V×Value)) (m0:Fr) (c8:List Addr) (c9:Hp) (aG:Shared):Prop where
 f:Fs ((Bh T A sc C env W U s).hold [] Hs) ⟨W.enter C (D::wr),[],c8,aG⟩ m0 c9
 w:Walk (Bh T A sc C env W U s) ⟨W.enter C (D::wr),[],c8,aG⟩ fp wr
 a:Acc (Bh T A sc C env W U s) ⟨W.enter C (D::wr),[],c8,aG⟩ D [] []
 nw:D∉wr
theorem di (tk:E4 T P) (c:Cx T W n A env own m U Y s) {xs:List Nat} {sc:Scope} (hs:cO T env.kindOf xs sc) {c5:Shared} {c8:List Addr} {c9:Hp} {fp wr:List Addr} {h3 h4:Heap} {t3 t4:Nat} {f:Str->Option Value} (o:i4 T W U s c9 c8 c5) (kp3:∀a ob,c5.heap.get? a=some ob->h3.get? a=some ob)
 (hw:∀b,b∈wr->c5.heap.get? b=none) (hw3:∀b,b∈wr->∃o,h3.get? b=some o) (hfp:∀b,b∈fp->b∈wr∨(¬k9 T W c8 b∧∃o,c5.heap.get? b=some o)) (kp:∀b ob,h3.get? b=some ob->h4.get? b=some ob) (dn:h3.get? D=none) (cn:h3.get? C=none) (dc:D≠C) (hD:h4.get? D=some (LCg.lst [])) (hC:h4.Ns C f)
 (hHs:∀u v,(u,v)∈Hs->solid u=true∧eK T W c8 c5.heap u v):KS T A sc C D env W U s fp wr Hs (r7 xs (C6 m)) c8 c9 {c5 with heap:=h4,toks:=t4}:=by
 have back:∀{a},h3.get? a=none->c5.heap.get? a=none:=fun{a} e=>by
  induction q:c5.heap.get? a with
  |none=>rfl
  |some ob=>exact d0 e (kp3 a ob q)
 have ent:dq c5.heap h4 C (D::wr):=⟨fun a ob e=>kp a ob (kp3 a ob e),back cn,(H6 hC).elim fun ob e=>⟨ob,e.1⟩,fun d hd=>(Of hd).elim (fun e=>e▸back dn) (hw d),fun d hd=>(Of hd).elim (fun e=>e▸⟨_,hD⟩) fun hd=>(hw3 d hd).elim fun ob e=>⟨ob,kp d ob e⟩,
  fun q=>(Of q).elim (fun q=>dc q.symm) fun q=>(hw3 C q).elim fun ob e=>d0 cn e⟩
 have c₁:=c.mv o
 have ms:Ms c8 c8 (k9 T W c8) (k9 T (W.enter C (D::wr)) c8) (fun J=>False) c5.heap h4:=o.rel.T3 (fun J q=>ent.bad q) (Off.of_keeps ent.keep) fun J q=>q.elim
 have cl:∀{y ca},(v7 env.cells sc.names []).lookup y=some ca->ca∈W.own:=fun hc=>by
  have k:=gP (E0 c.fr hs.free) hc
  exact match c.fr.has _ (hs.free _ k.1 rfl)with|⟨ca',_,h1,ho,_⟩=>NX (h1.symm.trans k.2)▸ho
 have old:∀{a},a∈W.own->s.heap.get? a≠none:=fun ha e=>(c.rel.o5.own _ ha).ex.elim fun ob e'=>d0 e e'
 have loose:∀{b},b∈D::wr->l8 (Bh T A sc C env W U s) ⟨W.enter C (D::wr),[],c8,{c5 with heap:=h4,toks:=t4}⟩ b:=fun{b} hb=>
  have new:=o.ext.since (ent.wh b hb)
  ⟨Oa _ hb,(fun J q=>nomatch q),fun y q=>old (cl q) new,new,fun q=>old q new,(fun J J q=>nomatch q)⟩
 have st:St (Bh T A sc C env W U s) (W.enter C (D::wr)) []:=⟨In.refl.trans (In.enter ent) fun J=>o.ext.since,(fun J J J q=>nomatch q),(fun J J q=>nomatch q),o.ext.since ent.O3,(fun J J J J q=>nomatch q),fun y ca q=>Ob _ (cl q),fun a ha=>(c.rel.o5.own a ha).ex⟩
 have zM:Fs (Bh T A sc C env W U s) ⟨W.enter C (D::wr),[],c8,{c5 with heap:=h4,toks:=t4}⟩ (r7 xs (C6 m)) c9:=
  ⟨⟨o.rel.enter ent,G2.comp tk c₁.fr hs ent.keep ms hC,(c₁.le (Nat.zero_le n)).ar.mv (fun a q=>.tail _ q) (Off.of_keeps (S:=fun J=>False) ent.keep) fun J J q=>q.elim⟩,st,o.trans (i4.keeps (t:=t4) o.rel ent.keep),⟨(fun J J J q=>nomatch q),(fun J J q=>nomatch q)⟩⟩
 exact⟨zM.holds (H:=[]) (fun J J J q=>nomatch q) fun u v q=>⟨(hHs u v q).1,(hHs u v q).2.ms ms⟩,⟨fun b hb=>loose (.tail _ hb),fun b hb=>(hfp b hb).imp id fun q=>⟨fun k=>(ent.bad k).elim q.1 fun k=>q.2.elim fun ob e=>d0 k e,q.2.elim fun ob e=>⟨ob,ent.keep b ob e⟩⟩⟩,⟨loose (.head _),hD,.nil⟩,fun q=>(hw3 D q).elim fun ob e=>d0 dn e⟩
theorem dj (c:d9 T W U Y s.heap) {sc:Scope} {z:Zt} {m0:Fr} (cn:s.heap.get? C=none) (dc:D≠C) (f:Fs (Bh T A sc C env W U s) z m0 c7) (a:Acc (Bh T A sc C env W U s) z D zs ys):sE T W U s zs c7 D C z.s:=by
 have bb:∀b,k9 T (W.add [D,C]) z.U b->k9 T z.W z.U b:=fun b q=>(R1 q).elim (fun q=>(Of q).elim (fun q=>.inr (.inr (.inl (q▸a.l.C8)))) fun q=>.inr (.inl ((Og q)▸f.cx.fr.Y1))) f.st.v5.bad
 have ms:=f.cx.rel.T3 (S:=fun J=>False) (h':=z.s.heap) (fun b q=>.inl (bb b q)) (Off.refl _ _) fun J q=>q.elim
 have fC:=f.cx.rel.o5.l6 C f.cx.fr.Y1
 have mv:∀{b},A6 T (W.add [D,C]) z.U b->A6 T z.W z.U b:=fun q=>q.imp id fun q=>q.imp (f.st.v5.l6 _) id
 have rel:d9 T (W.add [D,C]) z.U c7 z.s.heap:=f.cx.rel.move (S:=fun J=>False) (fun b q=>.inl (bb b q)) (Off.refl _ _) (fun J q=>q.elim)
  ⟨fun b hb=>(OG hb).elim (fun q=>(Of q).elim (fun q=>(show b=D from q).symm▸(⟨fun k=>(f.cx.rel.o5.own D a.l.C8).nm (mv k),_,a.at_⟩:AW T (W.add [D,C]) z.U z.s.heap D)) fun q=>(Og q).symm▸(⟨fun k=>k.elim fC.nr fun k=>k.elim (fun k=>(c.o5.l6 C k).ex.elim fun o e=>d0 cn e) fC.nt,fC.ex⟩:AW T (W.add [D,C]) z.U z.s.heap C))
   fun q=>⟨fun k=>(f.cx.rel.o5.own b (f.st.v5.own b q)).nm (mv k),(f.cx.rel.o5.own b (f.st.v5.own b q)).ex⟩,fun b hb=>f.cx.rel.o5.l6 b (f.st.v5.l6 b hb)⟩
 exact f.cx.fr.ns.elim fun mC hn=>.mk z.U ys mC f.out rel dc a.l.new cn ⟨_,a.at_⟩ (a.r.ms ms) hn
theorem jH (tm:TM T P) (hr:g7 T n r.ev) (ht:D5 T n r.tr) (c:Cx T W n A env own m U Y s) {xs:List Nat} {src:mq} {it:List X} {elt:X} {cond:Option X} {elt' it':Ex} {cond':Option Ex} {sc:Scope} {pos:Pos} {K:List V->Hp->Prop} {X':Txt->Hp->Prop} {Q:Value->Shared->Prop} {use:Option (Value->Sem Unit)}
 (t:bJ T env.kindOf src it it') (tx:pQ T (C5 env.kindOf sc) xs target) (te:Tr T (C5 env.kindOf sc) elt elt') (tc:AU T (C5 env.kindOf sc) cond cond') (hs:cO T env.kindOf xs sc)
 (h:((m7 r m it Y).z6.bind fun vs Y=>pa r m elt xs cond src vs Y).c4 K X')
 (U1:∀zs c7 D C s',K zs c7->sE T W U s zs c7 D C s'->compPost (model T.prog T.w) A E use Q (.ref D) C (.ok .next) s'):
 wpAny (model T.prog T.w) A (comprehension (.ListComp elt' [⟨target,it',cond'.toList,0⟩] sc pos) sc env (firstIterPos [⟨target,it',cond'.toList,0⟩] pos) (newList []) (firstAsync [⟨target,it',cond'.toList,0⟩]) (firstIter [⟨target,it',cond'.toList,0⟩] env) use) Q E s:=by
 have hks:∀{C:Addr},(compEnvC sc (v7 env.cells sc.names []) C env).kindOf=C5 env.kindOf sc:=bB c.fr.kind
 refine wpAny_comprehension_free rfl (ng t env) (Z1 (E0 c.fr hs.free)) hs.kind (fun x hx hl=>hs.locals x hx hl) ?_
 show wpAny _ A (eval it' env) _ _ _
 have rm:N6 A n:=⟨c.ar.depth,c.ar.units⟩
 refine xX tm hr c t tx (R.d5.mp h) (fun items c9 c5 c8 x l3 o kr h=>kr _ _ fun itv s3 rd=>q8 h fun hlen h=>?_) fun l c9 c5 c8 a o ha h=>q8 h fun J h=>?_
 ·induction rd with
  |mk I h3 t3 fp wr Pt Md St Hs q=>
   refine jG (RR:=compPost (model T.prog T.w) A E use Q) hs.kind hs.cell fun D C h4 tk f kp dn cn dc hD hC=>?_
   have op:=di (t3:=t3) (t4:=tk) tm.toE4 c hs o q.kp q.new (q.L.ex _ _ q.st) q.fp kp dn cn dc hD hC q.hs
   have st4:St 0 h4:=q.L.k.frame _ _ _ q.st fun b J ob e=>kp b ob e
   have cn':s.heap.get? C=none:=op.f.st.O3
   have loop:=Aj (F:=Bh T A sc C env W U s) (iter:=it') (sc:=sc) (pos:=pos) (K:=K) (Rz:=compPost (model T.prog T.w) A E use Q (.ref D) C) tm.toE4 hr ht rm (by rw[hks];exact tx) (by rw[hks];exact te) (by rw[hks];exact tc) q.L q.it (NY hlen) op.nw op.f op.w op.a st4 h fun z' c7 zs ys f a k=>U1 zs c7 D C _ k (dj c.rel cn' dc f a)
   exact codeAny_compStart_list loop (q.L.self 0 _ _ _ st4 loop)
 ·have hls:∃us,listAt c9 l=some us:=a9 h fun us e J=>⟨us,e⟩
  obtain⟨us,eu⟩:=hls
  induction bf o.rel ha eu with
  |mk ws hl qs=>
   refine wpAny_pyIter_list hl.list (jG (RR:=compPost (model T.prog T.w) A E use Q) hs.kind hs.cell fun D C h4 tk f kp dn cn dc hD hC=>?_)
   have op:=di (fp:=[c5.heap.objs.size]) (wr:=[c5.heap.objs.size]) (Hs:=[(.loc l,.ref a)]) (t3:=c5.toks) (t4:=tk) tm.toE4 c hs o (g9 _ _) dM (O1 rfl) (fun b hb=>.inl hb) kp dn cn dc hD hC fun u v q=>by cases Og q;exact⟨rfl,.loc l a ha⟩
   have st4:h4.IsListIter c5.heap.objs.size a 0:=⟨_,kp _ _ (Od _ rfl),rfl,rfl⟩
   have cn':s.heap.get? C=none:=op.f.st.O3
   have loop:=Ak (F:=Bh T A sc C env W U s) (iter:=it') (sc:=sc) (pos:=pos) (K:=K) (Rz:=compPost (model T.prog T.w) A E use Q (.ref D) C) tm.toE4 hr ht rm (by rw[hks];exact tx) (by rw[hks];exact te) (by rw[hks];exact tc) (fun q:c5.heap.objs.size=D=>op.nw (q▸.head _)) op.f (op.w.l _ (.head _)) op.a st4 h fun z' c7 zs ys f a k=>U1 zs c7 D C _ k (dj c.rel cn' dc f a)
   exact codeAny_compStart_list loop (wpAny_pyIter_listiter st4 loop)
end
section
variable {D:Addr} {e':Ex}
theorem i4.yr {ob:O} (c:d9 T W U Y s.heap) (o:i4 T W U s c7 d7 s') (rel:d9 T (W.add [D]) d7 c7 s'.heap) (dn:s.heap.get? D=none) (hO:OR T W (d7++[D]) s'.heap D ob):i4 T W U s (c7++[ob]) (d7++[D]) s':=
 have ms:=jX (T:=T) (W:=W) (U:=d7) (ds:=[D]) (pub:=[D]) (Off.refl _ s'.heap) fun J q=>q
 have nm:¬A6 T (W.add [D]) d7 D:=(rel.o5.own D (.head _)).nm
 {ext:={o.ext with
  pre:=fun i a e=>aP (o.ext.pre i a e)
  new:=fun a ha=>(OG ha).elim (o.ext.new a) fun q=>.inr ((Og q)▸dn)}
  rel:={
   len:=by rw[List.length_append,List.length_append,o.rel.len];rfl
   nodup:=List.nodup_append.mpr ⟨o.rel.nodup,List.nodup_cons.mpr ⟨nofun,List.nodup_nil⟩,fun a ha b hb e=>nm (.inl ((Og hb)▸e▸ha))⟩
   objs:=fun i ob a h1 h2=>by
    by_cases hi:i < c7.length
    ·rw[Oz hi]at h1
     rw[Oz (o.rel.len.symm▸hi)]at h2
     exact OR.ms ms (fun J e=>e) (rel.objs i ob a h1 h2)
    ·rw[List.getElem?_append_right (OD hi)]at h1
     rw[List.getElem?_append_right (o.rel.len.symm▸OD hi),o.rel.len]at h2
     exact qP hO _ ob a h1 h2
   base:=o.rel.base
   fresh:=fun a q=>rel.fresh a (dK (fun J q=>q) q)
   o5:=⟨fun a ha=>⟨fun z=>z.elim (fun z=>(OG z).elim (fun z=>(o.rel.o5.own a ha).nm (.inl z)) fun z=>(c.o5.own a ha).ex.elim fun ob e=>d0 dn ((Og z)▸e)) fun z=>(o.rel.o5.own a ha).nm (.inr z),(o.rel.o5.own a ha).ex⟩,
    fun a ha=>⟨fun z=>(OG z).elim (o.rel.o5.l6 a ha).nr fun z=>nm (.inr (.inl ((Og z)▸ha))),(o.rel.o5.l6 a ha).nt,(o.rel.o5.l6 a ha).ex⟩⟩
   tabs:=fun P hP=>(rel.tabs P hP).move (S:=fun J=>False) (Off.refl _ _) id (fun J J J q=>q.elim) ms.bb}}
inductive KU (T:i7) (W:r9) (U:List Addr) (s:Shared) (zs:List V) (c7:Hp) (D:Addr) (s':Shared):Prop
 |mk (d7:List Addr) (ys:List Value) (o:i4 T W U s c7 d7 s') (rel:d9 T (W.add [D]) d7 c7 s'.heap) (dn:s.heap.get? D=none) (hl:R6 s'.heap D ys) (q:E3 T (W.add [D]) d7 s'.heap zs ys)
theorem sE.close (c:d9 T W U Y s.heap) (e:sE T W U s zs c7 D C s') (hs:Heap.SameBut C s'.heap h'):KU T W U s zs c7 D {s' with heap:=h'}:=match e with
 |.mk d7 ys mC o rel dc dn cn hl q hn=>by
  have bb:∀a,k9 T (W.add [D]) d7 a->k9 T (W.add [D,C]) d7 a:=fun a q=>q.imp id fun q=>q.imp id fun q=>q.imp (fun q=>(Of q).elim (fun q=>by rw[show a=D from q];exact .head _) fun q=>.tail _ (.tail _ q)) id
  have kS:∀a,(fun a=>a=C) a->a∈(W.add [D,C]).l6∨a∈(W.add [D,C]).own:=fun a k=>.inr ((show a=C from k)▸.tail _ (.head _))
  have ms:=rel.T3 (S:=fun a=>a=C) (fun a q=>.inl (bb a q)) (SameBut.off hs) kS
  have nm:¬A6 T (W.add [D,C]) d7 C:=(rel.o5.own C (.tail _ (.head _))).nm
  have kp:∀{a ob},s'.heap.get? a=some ob->a≠C->h'.get? a=some ob:=fun e k=>SameBut.off hs _ _ e k
  have rel':d9 T (W.add [D]) d7 c7 h':=rel.move (S:=fun a=>a=C) (fun a q=>.inl (bb a q)) (SameBut.off hs) kS
   ⟨fun a ha=>(Of ha).elim (fun q=>q.symm▸⟨(rel.o5.own D (.head _)).nm,hl.there.elim fun ob e=>⟨ob,kp e dc⟩⟩) fun q=>⟨(rel.o5.own a (.tail _ (.tail _ q))).nm,(rel.o5.own a (.tail _ (.tail _ q))).ex.elim fun ob e=>⟨ob,kp e fun k=>(c.o5.own a q).ex.elim fun o e=>d0 cn (k▸e)⟩⟩,
    fun a ha=>⟨(o.rel.o5.l6 a ha).nr,(o.rel.o5.l6 a ha).nt,(o.rel.o5.l6 a ha).ex.elim fun ob e=>⟨ob,kp e fun k=>nm (.inr (.inl (k▸ha)))⟩⟩⟩
  exact .mk d7 ys (o.turn (s'':={s' with heap:=h'}) (SameBut.off hs) (fun a k=>(show a=C from k)▸cn) ⟨rfl,rfl,rfl⟩ (rel'.Fn (s8.add (s:=s) fun d hd=>(Og hd)▸dn))) rel' dn (hl.at fun ob e=>kp e dc) (q.ms ms)
theorem wB (tm:TM T P) (hr:g7 T n r.ev) (ht:D5 T n r.tr) (c:Cx T W n A env own m U Y s) {pp:Bool} {elt:X} {xs:List Nat} {src:mq} {it:List X} {cond:Option X} (t:Tr T env.kindOf (.comp pp elt xs src it cond) e')
 (h:(s7 P r m (.comp pp elt xs src it cond) Y).c4 (KV T W U s Q) (XV T W U s E)):wpAny (model T.prog T.w) A (eval e' env) Q E s:=
 t.dY fun elt' tgt it' cond' sc p t1 t2 t3 t4 t5=>by
  rw[eval_ListComp]
  refine jH tm hr ht c t1 t2 t3 t4 t5 (R.d5.mpr (R.c4.mono (R.d5.mp h) (fun vs c7 q=>R.d5.mp q) fun J J x=>x)) fun zs c7 D C s' hK ce=>?_
  induction ce with
  |mk Z4 ys0 mC o0 rel0 dc0 dn0 cn0 hl0 q0 hn0=>
  refine⟨mC,hn0,fun n6 sb=>?_⟩
  induction sE.close (h':=n6) c.rel (.mk Z4 ys0 mC o0 rel0 dc0 dn0 cn0 hl0 q0 hn0) sb with
  |mk Nj ys o rel dn hl q=>
  have g:s8 s W (W.add [D]):=s8.add fun d hd=>(Og hd)▸dn
  induction pp with
  |true=>exact(show KV T W U s Q (.loc c7.length) (c7++[.list zs])from hK) _ _ _ (i4.yr (ob:=.list zs) c.rel o rel dn ⟨ys,hl,q.ms (jX (Off.refl _ _) fun J q=>q)⟩) (.mk _ _ (.loc _ _ (o.rel.len▸List.getElem?_concat_length ..))) (G1.not rfl)
  |false=>exact(show KV T W U s Q (.g6 zs) c7 from hK) _ _ _ o (.mk _ _ (.je _ zs ys D rfl rfl hl (bZ c.rel.o5 g rel (.head _) dn) (q.ms (g.ms _)))) fun J=>⟨D,W.add [D],dn,g,.head _,rel,.l zs ys hl q⟩
def DS (T:i7) (n:Nat) (run:Fr->X->Hp->R V):Prop:=
 ∀{W:r9} {A:Around} {env:Env} {own:List (Nat×Addr)} {m:Fr} {U:List Addr} {Y:Hp} {s:Shared} {elt:X} {xs:List Nat} {src:mq} {it:List X} {cond:Option X} {e':Ex} {gens:List Comprehension} {sc:Scope} {rp:Pos} {u:Value->Sem Unit} {Q:Shared->Prop} {E:Value->Shared->Prop} {X':Txt->Hp->Prop},
  Cx T W n A env own m U Y s->Tr T env.kindOf (.comp false elt xs src it cond) (.ListComp e' gens sc rp)->
  (run m (.comp false elt xs src it cond) Y).c4 (fun v c7=>∀zs D C s',v=.g6 zs->sE T W U s zs c7 D C s'->wpAny (model T.prog T.w) A (u (.ref D)) (fun J s''=>∃mC,s''.heap.Ns C mC∧∀h',Heap.SameBut C s''.heap h'->Q {s'' with heap:=h'}) E s') X'->
  wpAny (model T.prog T.w) A (evalThenUse (.ListComp e' gens sc rp) env u) (fun J=>Q) E s
theorem xx (tm:TM T P) (hr:g7 T n r.ev) (ht:D5 T n r.tr):DS T (n+1) (s7 P r):=by
 intro W A env own m U Y s elt xs src it cond e' gens sc rp u Q E X' c t h
 have h:((m7 r m it Y).z6.bind fun vs Y=>(pa r m elt xs cond src vs Y).bind fun ys Y=>.ok (.g6 ys) Y:R V).c4 (fun v c7=>∀zs D C s',v=.g6 zs->sE T W U s zs c7 D C s'->wpAny (model T.prog T.w) A (u (.ref D)) (fun J s''=>∃mC,s''.heap.Ns C mC∧∀h',Heap.SameBut C s''.heap h'->Q {s'' with heap:=h'}) E s') X':=h
 refine t.dY (G:=fun x=>x=.ListComp e' gens sc rp->wpAny (model T.prog T.w) A (evalThenUse (.ListComp e' gens sc rp) env u) (fun J=>Q) E s) (fun elt' tgt it' cond' sc' p t1 t2 t3 t4 t5 e=>?_) rfl
 cases e
 show wpAny _ A (do let _←comprehension (.ListComp e' [⟨tgt,it',cond'.toList,0⟩] sc rp) sc env (firstIterPos [⟨tgt,it',cond'.toList,0⟩] rp) (newList []) (firstAsync [⟨tgt,it',cond'.toList,0⟩]) (firstIter [⟨tgt,it',cond'.toList,0⟩] env) (some u)) _ _ _
 refine NU (wpAny_mono (jH (Q:=fun J s=>Q s) tm hr ht c.low t1 t2 t3 t4 t5 (R.d5.mpr (R.c4.mono (R.d5.mp h) (fun vs c7 q=>R.d5.mp q) fun J J x=>x)) fun zs c7 D C s' hK ce=>?_) (fun J J q=>NW q) fun J J x=>x)
 exact hK zs D C s' rfl ce
end
section
variable {Q:Flow->Shared->Prop}
theorem uR (tk:E4 T P) (f:Fs F z m Y) {t:Mine.T} {x:Nat} (ht:Jd t=some x) (hs:cP F x) {v:V} {w:Value} (gv:Gv F z v w) {K:Fr->Hp->Prop} {X':Txt->Hp->Prop} {Q:Unit->Shared->Prop} (h:(store P r t v m Y).c4 K X') (k:∀m' c7 z',K m' c7->Fs F z' m' c7->Q () z'.s):wpAny (model T.prog T.w) F.A (storeName F.env (T.nm x) w) Q E z.s:=by
 induction t with
 |NT=>cases ht;exact fc tk f hs gv h k
 |B3=>cases ht;exact bV tk f hs gv h k
 |_=>exact ns ht
theorem lP (tk:E4 T P) (hu:DS T n r.ev) (rm:Rm F n) (f:Fs F z m Y) {t:Mine.T} {x:Nat} {e:X} {q:Pos} {elt:Ex} {gens:List Comprehension} {sc:Scope} {rp p:Pos} {c:X×List Nat×mq×List X×Option X} (hc:eG e=some c) (hx:Jd t=some x) (hk:F.env.kindOf (T.nm x)=some .local) (hg:d6 T.glob x=none)
 (te:Tr T F.env.kindOf e (.ListComp elt gens sc rp)) (hl:(q.line == rp.line)=true) (hn:(sc.names.any fun(n,k)=>n == T.nm x&&(k ==.local || k ==.cell))=false)
 (h:(g8 P r m (.assign t e) Y).c4 (KF F Q) (XF F E)):wpAny (model T.prog T.w) F.A (exec (.Assign [.Name (T.nm x) q] (.ListComp elt gens sc rp) p) F.env) Q E z.s:=by
 have hsw:swapsWithSole [.Name (T.nm x) q] (.ListComp elt gens sc rp) p.line F.env=pure true:=by
  show swapsWith (.ListComp elt gens sc rp) (some (.Name (T.nm x) q)) p.line F.env=_
  unfold swapsWith
  dsimp only
  have hn':(sc.names.any fun x_1=>match x_1 with|(n,k)=>n == T.nm x&&(k ==.local || k ==.cell))=false:=hn
  rw[gr f,hk,show(PySem.Expr.ListComp elt gens sc rp).pos=rp from rfl,hl]
  simp only[beq_self_eq_true,Bool.true_and]
  exact Oh pure (by rw[Bool.not_eq_true'];exact hn)
 rw[su hc]at te h
 rw[arm_exec_Assign]
 refine NU (Ow ?_)
 rw[hsw]
 refine NU (NW ?_)
 rw[OB rfl]
 have key:wpAny (model T.prog T.w) F.A (evalThenUse (.ListComp elt gens sc rp) F.env fun v=>assignAll v ((assignEach [.Name (T.nm x) q] F.env).map (·.2))) (fun J s'=>Q .next s') E z.s:=hu (Q:=fun s'=>Q .next s') (E:=E) (f.mz rm.r) te (R.c4.mono (R.d5.mp h) (fun v c7 k zs D C s' hv ce=>?_) fun J J x=>x)
 ·exact NU (wpAny_mono key (fun J s' q=>NW q) fun J J x=>x)
 subst hv
 obtain⟨d7,ys,mC,o,rel,dc,dn,cn,hld,qv,hnC⟩:=ce
 have hnew:∀d,d∈[D,C]->z.s.heap.get? d=none:=fun d hd=>(Of hd).elim (fun e=>e▸dn) fun hd=>(Og hd)▸cn
 have z8:=f.grow o (s8.add hnew) rel
 have lD:l8 F ⟨z.W.add [D,C],z.own,d7,s'⟩ D:=f.loose dn (.head _)
 have lC:l8 F ⟨z.W.add [D,C],z.own,d7,s'⟩ C:=f.loose cn (.tail _ (.head _))
 obtain⟨oC,es,ep,eC,rC⟩:=id hnC
 have B8:Fs (F.hold [(C,oC,true)] []) ⟨z.W.add [D,C],z.own,d7,s'⟩ m c7:=z8.holds (fun a o b q=>by cases Og q;exact lC.EF z8 eC) fun J J q=>nomatch q
 show wpAny _ F.A (assign (.Name (T.nm x) q) F.env (.ref D)) _ _ _
 refine assign_Name (uR (F:=F.hold [(C,oC,true)] []) tk B8 hx (.loc hg hk) (.own D (lD.hold fun p q=>by rw[Og q];exact Ne.symm dc) (.l zs ys hld qv)) (R.d5.mp k) fun m₂ n9 Iz k₂ Q2=>?_)
 have x:=Q2.hd.objs C oC true (.head _)
 exact⟨mC,⟨oC,es,ep,x.at_,rC⟩,fun n6 sb=>k₂ _ (Q2.y7.iS (h':=n6) (t:=Iz.s.toks) (ds:=[C]) (fun b hb=>(Og hb)▸⟨x.own rfl,x.nn,x.nc,lC.new,lC.out,lC.held⟩) fun a ob e k=>SameBut.off sb a ob e fun q=>k (List.mem_singleton.mpr q))⟩
theorem pE (tk:E4 T P) (hr:g7 T n r.ev) (hu:DS T n r.ev) (rm:Rm F n) (f:Fs F z m Y) {t:Mine.T} {e:X} (ts:I9 T F.env.kindOf (.assign t e) st) (h:(g8 P r m (.assign t e) Y).c4 (KF F Q) (XF F E)):wpAny (model T.prog T.w) F.A (exec st F.env) Q E z.s:=
 ts.jN (fun t' e' p tt te hc J=>lM tk hr rm f tt te hc h) fun x q elt gens sc rp p c hc hx hk hg te hl hn=>lP tk hu rm f hc hx hk hg te hl hn h
end
section
variable {o':Ex}
theorem W9 {NT:Str} {apos pos:Pos} {ov:Value} {k:Nat} {args:List (Bool×Sem Value)} {kws:List (Option Str×Sem Value)} (hf:methodCallForm k args kws=true) (hp:(apos.endLine == pos.line)=true)
 (h:∀pl,wpAny (model T.prog T.w) A (getMethod ov NT pl) (fun f s'=>wpAny (model T.prog T.w) A (callWith pos f.1 f.2 args kws) Q E s') E s):wpAny (model T.prog T.w) A (methodCall o' NT apos pos env ov k args kws) Q E s:=by
 unfold methodCall
 rw[hf]
 refine NU (Oo ?_)
 show wpAny _ _ (getMethod ov NT _) _ _ _
 refine wpAny_mono (h _) (fun f s' k=>?_) fun J J x=>x
 show wpAny _ _ (methodCallPos true o' env apos pos >>= _) _ _ _
 refine NU ?_
 unfold methodCallPos
 have e:((!true || apos.endLine == pos.line)=true):=hp
 rw[OB e]
 exact NW k
theorem tZ {kd:Kd} {es:List X} {es':List Ex} (t:Z2 T kd es es') (pos:Pos) (env:Env) (hl:es.length≤12):methodCallForm (es'.length+([]:List Keyword).length) (backTo pos (starEach es' env)) (backToKw pos (keywordEach [] env))=true:=by
 have h2:(backTo pos (starEach es' env)).all (!·.1)=true:=by
  clear hl
  induction t with
  |nil=>rfl
  |cons _ e' _ es' te _ ih=>rw[V6 te];exact ih
 unfold methodCallForm
 rw[h2]
 show(true&&true&&decide (es'.length+0+0 < 30))=true
 exact decide_eq_true (p:=es'.length < 30) (Ot (t.len▸hl:es'.length≤12) (by decide))
theorem Cx.look (c:Cx T W n A env own m U Y s) {x:Nat} {v:V} (t:Tr T env.kindOf (.NT x) o') (e:d6 m x=some v):∃w,n7 W env s.heap (T.nm x) w∧FV T W U s.heap own x v w:=
 t.P5 (G:=fun J=>∃w,n7 W env s.heap (T.nm x) w∧FV T W U s.heap own x v w) fun J J J h3=>c.fr.var x v e (h3 (c.fr.loc x v e))
theorem aQ (c:Cx T W n A env own m U Y s) {x:Nat} {v:V} {NT:Str} {bid:String} {es:List X} {es':List Ex} {q1 q2:Pos} (tn:Tr T env.kindOf (.NT x) o') (ts:Z2 T env.kindOf es es') (hn:es'≠[]) (hlen:es.length≤12) (hl:(q1.endLine == q2.line)=true) (hx:d6 m x=some v)
 (hg:∀w {pl} {Q':Value×List Value->Shared->Prop},FV T W U s.heap own x v w->Q' (.builtin bid,[w]) s->wpAny (model T.prog T.w) A (getMethod w NT pl) Q' E s)
 (h:∀w,n7 W env s.heap (T.nm x) w->FV T W U s.heap own x v w->wpAny (model T.prog T.w) A (spliced (backTo q2 (starEach es' env))) (fun ws s'=>T.K.In s'.heap∧wpAny (model T.prog T.w) A (call (.builtin bid) (w::ws)) Q E s') E s):
 wpAny (model T.prog T.w) A (eval (.Call (.Attribute o' NT q1) es' [] q2) env) Q E s:=by
 rw[arm_eval_Call]
 exact NU (P1 (tn.P5 fun J J J J=>rfl) (aU c tn hx fun w held fv=>NU (Ow (W9 (tZ ts q2 env hlen) hl fun pl=>hg w fv
  (callWith_of (P:=fun h=>T.K.In h) (by rw[W7 ts];rfl) (M4 rfl) (J3 ts (fun e=>absurd e hn) (h w held fv)))))))
theorem L2 {Q:Flow->Shared->Prop} (hk:env.scope.kind=.function) {f:Ex} {es':List Ex} {q p:Pos} (h:wpAny (model T.prog T.w) A (eval (.Call f es' [] q) env) (fun J s=>Q .next s) E s):wpAny (model T.prog T.w) A (exec (.Expr (.Call f es' [] q) p) env) Q E s:=
 wpAny_Expr_any h (by unfold interactive;rw[hk];rfl) rfl
theorem T5 {xs:List Value} {a:Addr} {NT:Str} {id:String} {pl:Sem Bool} {Q:Value×List Value->Shared->Prop} (l:R6 s.heap a xs) (slot:Slot "list" NT id) (hty:typeOf (.builtin id)=pure (.type "method_descriptor")) (h:Q (.builtin id,[.ref a]) s):wpAny (model T.prog T.w) A (getMethod (.ref a) NT pl) Q E s:=
 l.elim fun J e=>getMethod_builtin l.list.typeIs PySem.F.plainAttrs_list slot hty (fun b q=>by cases q;exact⟨_,e,rfl⟩) h
end
section
variable {Q:Flow->Shared->Prop}
theorem kc {α:Type} {K:α->Hp->Prop} {Q:List Value->Shared->Prop} (hr:g7 T n r.ev) (rm:N6 F.A n) (f:Fs F z m Y) {x i:Nat} {v:V} {w:Value} {e:X} {o' e':Ex} {q:Pos} {g:V->Hp->R α} (tn:Tr T F.env.kindOf (.NT x) o') (te:Tr T F.env.kindOf e e') (hx:d6 m x=some v) (held:n7 z.W F.env z.s.heap (T.nm x) w)
 (h:((r.ev m e Y).bind fun v Y=>(b8 i (freeze v) Y).bind g).c4 K (XF F E)) (k:∀u c9 z' wu,Fs F z' m c9->n7 z'.W F.env z'.s.heap (T.nm x) w->FV T z'.W z'.U z'.s.heap z'.own x v w->solid u=true->eK T z'.W z'.U z'.s.heap u wu->(g u c9).c4 K (XF F E)->Q [wu] z'.s):
 wpAny (model T.prog T.w) F.A (spliced (backTo q (starEach [e'] F.env))) Q E z.s:=by
 rw[V6 te]
 refine spliced_cons (f.eval hr rm te h fun u c9 wu c5 c8 o hv hf h=>a9 h fun u' hz h=>f.give o hv hf fun iH z8 gv=>z8.freeze gv hz fun bI B8 gs hv'=>?_)
 obtain⟨w',held',fv'⟩:=B8.cx.look tn hx
 have e:=(n7.step f held o).unique held'
 subst e
 exact NW (k u' c9 ⟨bI,z.own,c8,c5⟩ wu B8 held' fv' gs hv' h)
theorem kG (tk:E4 T P) (hr:g7 T n r.ev) (rm:Rm F n) (f:Fs F z m Y) {x:Nat} {e:X} (t:I9 T F.env.kindOf (.F0 x e) st) (h:(g8 P r m (.F0 x e) Y).c4 (KF F Q) (XF F E)):wpAny (model T.prog T.w) F.A (exec st F.env) Q E z.s:=
 t.rb fun o' e' q1 q2 p tn te hl=>a9 h fun xs ex h=>a0 ex fun o eo ex=>by
  rw[eD ex]at eo
  refine L2 f.cx.fr.kind (aQ (bid:="list.append") (f.mz rm.r) tn (.cons e e' [] [] te .nil) nofun (show 1≤12 by decide) hl eo (fun w pl Q' fv hq=>?_) fun w held fv=>kc hr rm.r f tn te eo held h fun u c9 z' wu f' held' fv' g hv h=>⟨k7 tk f'.cx.rel,q8 h fun hz h=>?_⟩)
  ·revert hq
   exact fv.fP fun ws a o l q hq=>T5 l slot_list_append type_list_append hq
  ·revert held'
   exact fv'.fP fun ws a o l q held'=>l.elim fun k ho=>append_at (hsz:=by rw[Ou,q.length];exact u7 hz) ho fun h' hs' ho'=>h _ (f'.eS (t:=z'.s.toks) eo held' o hs' ⟨_,ho'⟩ fun ms=>.ml _ (ws++[wu]) a o ⟨k+1,ho'.trans (Oh (fun x=>some ({cls:=.type "list",data:=.seq x (k+1)}:Obj)) (List.push_toArray ws wu))⟩ ((q.ms ms).append (.cons _ _ _ _ g (hv.ms ms) .nil)))
end
theorem R6.update {h:Heap} {a:Addr} {xs ys:List Value} (l:R6 h a xs) (f:Array Value->Array Value) (e:f xs.toArray=ys.toArray):R6 (h.update a (Obj.mapSeq f)) a ys:=
 l.elim fun k ho=>(fU xs.toArray k f #[]).elim fun k' e'=>⟨k',(Heap.get?_update_self _ ho (Oh Obj.isFreed e')).trans (Oh some (e'.trans (Oh (fun x=>({cls:=.type "list",data:=.seq x k'}:Obj)) e)))⟩
theorem CV {xs:List Value} {y:Value}:(have k:=if(0:Int) < 0 then((0:Int)+((xs.toArray.size:Nat):Int)).toNat else min (Int.toNat 0) xs.toArray.size;(xs.toArray.extract 0 k).push y++xs.toArray.extract k)=(y::xs).toArray:=by
 apply Array.toList_inj.mp
 simp
section
variable {Q:Flow->Shared->Prop}
theorem sF {kd:Kd} {i:Nat} {q:Pos}:Tr T kd (.lit (.int 0)) (.Constant (.int 0) i q):=⟨0,rfl⟩
theorem kC (tk:E4 T P) (hr:g7 T n r.ev) (rm:Rm F n) (f:Fs F z m Y) {x:Nat} {e:X} (t:I9 T F.env.kindOf (.K5 x e) st) (h:(g8 P r m (.K5 x e) Y).c4 (KF F Q) (XF F E)):wpAny (model T.prog T.w) F.A (exec st F.env) Q E z.s:=
 t.qZ fun o' e' i q0 q1 q2 p tn te hl=>a9 h fun xs ex h=>a0 ex fun o eo ex=>by
  rw[eD ex]at eo
  refine L2 f.cx.fr.kind (aQ (bid:="list.insert") (f.mz rm.r) tn (.cons (.lit (.int 0)) _ _ _ sF (.cons e e' [] [] te .nil)) nofun (show 2≤12 by decide) hl eo (fun w pl Q' fv hq=>?_) fun w held fv=>spliced_cons (wpAny_Constant_int (k:=i) (pos:=q0) ?_))
  ·revert hq
   exact fv.fP fun ws a o l q hq=>T5 l PySem.F.slot_list_insert PySem.F.type_list_insert hq
  ·have o:=i4.toks (t:=z.s.toks+1) f.cx.rel
   have held1:=n7.step f held o
   refine kc (Q:=fun ws s'=>T.K.In s'.heap∧wpAny (model T.prog T.w) F.A (call (.builtin "list.insert") (w::.int 0 z.s.toks::ws)) (fun J s=>Q .next s) E s') hr rm.r (f.step o) tn te eo held1 h fun u c9 z' wu f' held' fv' g hv h=>⟨k7 tk f'.cx.rel,q8 h fun hz h=>?_⟩
   revert held'
   exact fv'.fP fun ws a o l q held'=>l.elim fun k ho=>by
    have l2:=l.update (fun xs=>have k:=if(0:Int) < 0 then((0:Int)+((xs.size:Nat):Int)).toNat else min (Int.toNat 0) xs.size;(xs.extract 0 k).push wu++xs.extract k) CV
    exact call_meets PySem.F.slot_list_insert l.list.typeIs PySem.F.entry_list_insert (PySem.F.args_list_insert_3 _ _ _) (PySem.AutoListH.list_insert_list_int_val_1 a ws.toArray k 0 z.s.toks wu (by decide) (hsz:=by rw[Ou,q.length];exact u7 hz)) ⟨ho,h _ (f'.eS (t:=z'.s.toks) eo held' o (Heap.SameBut.update ..) l2.there fun ms=>.ml _ (wu::ws) a o l2 (.cons _ _ _ _ g (hv.ms ms) (q.ms ms)))⟩
theorem vt (tk:E4 T P) (rm:Rm F n) (f:Fs F z m Y) {x y:Nat} (t:I9 T F.env.kindOf (.fO y x) st) (h:(g8 P r m (.fO y x) Y).c4 (KF F Q) (XF F E)):wpAny (model T.prog T.w) F.A (exec st F.env) Q E z.s:=
 t.CA fun o' i q0 q1 q2 q4 p tn hs hxy hl=>a9 h fun vx ev h=>a0 ev fun o eo ev=>a0 ev fun us eu ev=>q8 h fun hz h=>by
  rw[eD eu]at eo
  induction us with
  |nil=>exact ns ev
  |cons v xs=>
   cases ev
   rw[arm_exec_Assign]
   refine NU (Ow ?_)
   rw[show swapsWithSole [.Name (T.nm y) q4] (.Call (.Attribute o' "pop" q1) [.Constant (.int 0) i q0] [] q2) p.line F.env=pure false from rfl]
   refine NU (NW ?_)
   rw[OC Bool.false_ne_true]
   refine NU (aQ (bid:="list.pop") (f.mz rm.r) tn (.cons (.lit (.int 0)) _ [] [] sF .nil) nofun (show 1≤12 by decide) hl eo (fun w pl Q' fv hq=>?_) fun w held fv=>spliced_cons (wpAny_Constant_int (k:=i) (pos:=q0) ?_))
   ·revert hq
    exact fv.fP fun ws a o l q hq=>T5 l PySem.F.slot_list_pop PySem.F.type_list_pop hq
   ·have o:=i4.toks (t:=z.s.toks+1) f.cx.rel
    have f':=f.step o
    have held':=n7.step f held o
    refine NW ⟨k7 tk f'.cx.rel,?_⟩
    revert held'
    exact fv.fP fun ws a o l q held'=>by
     cases q with
     |cons _ wv _ ws g hv q=>
     refine l.elim fun k0 ho=>?_
     have l2:=l.update (fun xs=>xs.eraseIdxIfInBounds 0) (kl_erase [] ws wv)
     refine call_meets PySem.F.slot_list_pop l.list.typeIs PySem.F.entry_list_pop (PySem.F.args_list_pop_2 _ _) (PySem.MeetsSeq.list_pop_at a (wv::ws).toArray k0 0 z.s.toks 0 wv (by decide) (by simp[seqIndex?]) (by simp) (hs1:=?_)) ⟨ho,?_⟩
     ·rw[Ou,List.length_cons,q.length,sizeLine_eq]
      exact Oe (Nat.succ_le_succ (NY hz)) (by decide)
     have z8:Fs (F.hold [] [(v,wv)]) _ m Y:=f'.holds (fun J J J q=>nomatch q) fun u w k=>by cases Og k;exact⟨g,hv⟩
     have B8:=z8.eS (v':=.g6 xs) (t:=z.s.toks+1) eo held' o (Heap.SameBut.update _ a (Obj.mapSeq fun xs=>xs.eraseIdxIfInBounds 0)) l2.there fun ms=>.ml _ ws a o l2 (q.ms ms)
     have hv2:=B8.hd.vals v wv (.head _)
     show wpAny _ F.A _ Q E _
     rw[show swappedStores [.Name (T.nm y) q4] (.Call (.Attribute o' "pop" q1) [.Constant (.int 0) i q0] [] q2) F.env=pure none from rfl]
     refine NU (NW ?_)
     show wpAny _ F.A (do assign (.Name (T.nm y) q4) F.env wv;pure .next) Q E _
     exact NU (assign_Name (B8.y7.store tk (hs.Ko rm.c) hv2.g hv2.r fun w9 Q2=>NW (h _ Q2)))
end
section
variable {Q:Flow->Shared->Prop}
@[elab_as_elim] theorem VS.U3 {U:List Addr} {bad:Addr->Prop} {h:Heap} {v:V} {w:Value} {kvs:List (Txt×V)} {G:Value->Prop} (x:VS T U bad h v w) (e:ents v=some kvs) (k:∀a,V2 T U bad h kvs a->¬bad a->G (.ref a)):G w:=by
 cases x with
 |G3 _ _ x=>exact d0 x.ents e
 |loc|tup|obj=>cases e
 |je _ _ _ _ e'=>exact gI e' e
 |my _ _ a kws e' _ hd s n e2 r=>exact k a ⟨kws,hd,s,NX (e'.symm.trans e)▸e2,NX (e'.symm.trans e)▸r⟩ n
theorem J9.len {κ K:Type} {key:κ->K} {U:List Addr} {bad:Addr->Prop} {h:Heap} {kvs:List (κ×V)} {kws:List (K×Value)} (x:J9 T U bad h key kvs kws):kws.length=kvs.length:=by rw[←Oi (f:=Prod.fst),x.e,Oi]
theorem kA (tk:E4 T P) (hr:g7 T n r.ev) (rm:Rm F n) (f:Fs F z m Y) {x:Nat} {e:X} (t:I9 T F.env.kindOf (.J1 x e) st) (h:(g8 P r m (.J1 x e) Y).c4 (KF F Q) (XF F E)):wpAny (model T.prog T.w) F.A (exec st F.env) Q E z.s:=
 t.qY fun o' e' q1 q2 p tn te hl=>a9 h fun old ex h=>a0 ex fun o eo ex=>by
  rw[lS ex]at eo
  refine L2 f.cx.fr.kind (aQ (bid:="dict.update") (f.mz rm.r) tn (.cons e e' [] [] te .nil) nofun (show 1≤12 by decide) hl eo (fun w pl Q' fv hq=>?_) fun w held fv=>kc hr rm.r f tn te eo held h fun u c9 z' wu f' held' fv' g hv h=>⟨k7 tk f'.cx.rel,a9 h fun kvs ek h=>q8 h fun hz h=>?_⟩)
  ·revert hq
   exact fv.yR fun a o q hq=>q.Ba fun kws d J J=>getMethod_builtin d.typeIs PySem.F.plainAttrs_dict PySem.F.slot_dict_update PySem.F.type_dict_update d.mapOf.noDict hq
  ·revert held'
   exact fv'.yR fun a o q held'=>hv.U3 ek fun d qd nb=>q.Ba fun ws l hs q=>qd.Ba fun kws hd hds qd=>by
    have ne:a≠d:=fun k=>nb (k▸.inr (.inr (.inl (f'.cx.fr.own x a o))))
    refine call_meetsIn PySem.F.slot_dict_update l.typeIs PySem.F.entry_dict_update (PySem.F.args_dict_update_2 _ _) (meets_dict_update _ a d ne hds) ⟨ws,kws,l,hd,by rw[q.len,qd.len];exact u7 hz,fun h' hd' J hs'=>?_⟩
    exact h _ (f'.eS (t:=z'.s.toks) eo held' o hs' (l9 hd') fun ms=>.md _ a o (((qd.ms ms).qz (q.ms ms)).uf hd' hs))
end
variable {bad f7:Addr->Prop} {v:V}
section
variable {r:V} {w:Value}
@[elab_as_elim] theorem z1.aO {G:List V->List Value->Prop} {xs:List V} {ws:List Value} (x:z1 T U bad h xs ws) (h0:G [] []) (h1:∀v w vs ws,solid v=true->VS T U bad h v w->z1 T U bad h vs ws->G vs ws->G (v::vs) (w::ws)):G xs ws:=by
 induction xs generalizing ws with
 |nil=>cases x;exact h0
 |cons v r ih=>cases x with|cons _ w _ ws g a q=>exact h1 _ _ _ _ g a q (ih q)
theorem KV.keep (c:d9 T W U Y s.heap) {h':Heap} {t:Nat} (hk:∀b o,s.heap.get? b=some o->h'.get? b=some o) (hv:bN T v w) (k:KV T W U s Q v Y):Q w {s with heap:=h',toks:=t}:=k _ _ _ (i4.keeps c hk) (.mk _ _ (.G3 _ _ hv)) (G1.not hv.made)
theorem Ha {n:Nat} (h:Nat.ble n 1000=true):(n:Int) < 2 ^ 63:=Int.ofNat_lt.mpr (Ot (NY h) (by decide))
theorem Eo {xs:List V} {ws:List Value} {a:Addr} (c:d9 T W U Y s.heap) (l:R6 s.heap a ws) (q:z1 T U bad s.heap xs ws) (hz:Nat.ble xs.length 1000=true) (k:KV T W U s Q (.int (Int.ofNat xs.length)) Y):wpAny (model T.prog T.w) A (call (.builtin "len") [.ref a]) Q E s:=by
 rw[←q.length]at hz k
 exact call_len_list l.list (Ha hz) (KV.int c k)
theorem HP (c:d9 T W U Y s.heap) (hv:C4 T W U s.heap v w) (e:EW v Y=some r) (k:KV T W U s Q r Y):wpAny (model T.prog T.w) A (call (.builtin "len") [w]) Q E s:=
 i0 e (fun e=>a0 e fun i ei e=>a0 e fun o eo e=>a0 e fun xs ex e=>i9 e fun g e=>A8 hv ei fun a ha=>c.at eo fun a' ha' q=>by
  rw[N8 ex,NX (ha'.symm.trans ha)]at q
  exact match q with|⟨ws,l,q⟩=>Eo c l q g (e▸k)) fun e=>
 a0 e fun n en e=>i9 e fun g e=>by
  subst e
  exact i0 en (fun e=>d8 e fun x ex e=>n8 hv ex fun t J=>by
   subst e
   rw[←K1]at k g
   exact PySem.P.len_str (Int.not_le.mpr (Ha g)) (KV.int c k)) fun e=>
  i0 e (fun e=>d8 e fun x ex e=>F5 hv ex fun b t hb=>by
   subst e
   have e:b.size=x.length:=by rw[←hb,Oi];exact Array.length_toList.symm
   rw[←e]at k g
   exact PySem.W.len_bytes (Oe (NY g) (by decide)) (KV.int c k)) fun e=>
  i0 e (fun e=>d8 e fun x ex e=>E6 hv ex fun a ws l J q=>by
   subst e
   rw[←q.length]at k g
   exact PyProof.Rows.len_tuple l.tup (Ha g) (KV.int c k)) fun e=>
  d8 e fun x ex e=>VR.z0 hv ex fun a ws l J q=>Eo c l q (e▸g) (e▸k)
theorem iG (c:d9 T W U Y s.heap) {b:Bi} {t:Bool} (hv:C4 T W U s.heap v w) (e:Ew b v=some t) (k:KV T W U s Q (.bool t) Y):wpAny (model T.prog T.w) A (call (.builtin "isinstance") [w,AD b]) Q E s:=by
 induction b with
 |int=>exact i0 e (fun e=>d8 e fun J ex e=>u6 hv ex fun J=>IsiPair.int_int (KV.bool c (e▸k))) fun e=>i0 e (fun e=>d8 e fun J ex e=>H7 hv ex (IsiPair.bool_int (KV.bool c (e▸k)))) fun e=>d8 e fun J ex e=>n8 hv ex fun J J=>IsiPair.str_int (KV.bool c (e▸k))
 |bool=>exact i0 e (fun e=>d8 e fun J ex e=>u6 hv ex fun J=>IsiPair.int_bool (KV.bool c (e▸k))) fun e=>i0 e (fun e=>d8 e fun J ex e=>H7 hv ex (IsiPair.bool_bool (KV.bool c (e▸k)))) fun e=>d8 e fun J ex e=>n8 hv ex fun J J=>IsiPair.str_bool (KV.bool c (e▸k))
 |_=>exact ns e
theorem HQ (c:d9 T W U Y s.heap) (hv:C4 T W U s.heap v w) {b:Bool} (e:L6 v=some b) (k:KV T W U s Q (.int (b2i b)) Y):wpAny (model T.prog T.w) A (call (.type "int") [w]) Q E s:=
 H7 hv e (call_int_bool (KV.int c (by induction b<;>exact k)))
theorem Ax {xs:List V} {ws:List Value} (q:z1 T U bad h xs ws):∀b,allB xs=some b->∃bs,LSm.BoolsAre ws bs∧bs.all id=b:=
 q.aO (fun b e=>⟨[],.nil,NX e⟩) fun v w vs ws g a q ih b e=>a0 e fun x ex e=>d8 e fun y ey e=>(ih y ey).elim fun bs z=>H7 (.mk (f7:=bad) _ _ a) ex ⟨x::bs,.cons x z.1,by rw[List.all_cons,z.2];exact e⟩
theorem CU {xs:List V} {ws:List Value} (q:z1 T U bad h xs ws):∀i,mN xs=some i->∃ns,IntsAre ws ns∧ns.sum=i:=
 q.aO (fun b e=>⟨[],.nil,NX e⟩) fun v w vs ws g a q ih b e=>a0 e fun x ex e=>d8 e fun y ey e=>(ih y ey).elim fun bs z=>u6 (.mk (f7:=bad) _ _ a) ex fun t=>⟨x::bs,.cons x t z.1,by rw[List.sum_cons,z.2];exact e⟩
inductive MC (ws:List Value) (b:List Nat):Prop
 |mk (h:IntsAre ws (b.map Int.ofNat)) (k:∀i,i∈b->i < 256)
theorem vg {xs:List V} {ws:List Value} (q:z1 T U bad h xs ws):∀b,dF xs=some b->MC ws b:=
 q.aO (fun b e=>NX e▸⟨.nil,fun J q=>nomatch q⟩) fun v w vs ws g a q ih b e=>a0 e fun x ex e=>a0 e fun n en e=>a0 e fun m em e=>i9 em fun g em=>d8 e fun y ey e=>match ih y ey with
  |⟨h,k⟩=>u6 (.mk (f7:=bad) _ _ a) ex fun t=>by
   subst e;subst em
   rw[T2 en]
   exact⟨.cons _ t h,fun i hi=>(Of hi).elim (fun q=>q▸NY g) (k i)⟩
theorem xm {xs:List Bool}:((List.range xs.length).all fun i=>(xs[i]?).getD true)=xs.all id:=by
 induction xs with
 |nil=>rfl
 |cons x r ih=>rw[List.length_cons,List.range_succ_eq_map,List.all_cons,List.all_map,List.all_cons];exact Oh (x&& ·) ih
theorem pw {prog:Program} {wd:World} {ws:List Value} {bs:List Bool} (z:LSm.BoolsAre ws bs):TruthOf prog wd A (fun i v=>ws.toArray[i]? =some v) fun i=>(bs[i]?).getD true:=by
 intro i v s' Q' E' hP hQ
 obtain⟨b,e,rfl⟩:=z.get i v ((List.getElem?_toArray ..).symm.trans hP)
 have hQ:Q' ((bs[i]?).getD true) s':=hQ
 rw[e]at hQ
 exact wpAny_truthy_bool hQ
theorem HR (c:d9 T W U Y s.heap) (hh:A.handled=none) {xs:List V} {b:Bool} (hv:C4 T W U s.heap v w) (e1:E2 v=some xs) (e:allB xs=some b) (k:KV T W U s Q (.bool b) Y):wpAny (model T.prog T.w) A (call (.builtin "all") [w]) Q E s:=
 VR.z0 hv e1 fun a ws l J q=>(Ax q b e).elim fun bs z=>l.elim fun j hl=>
  call_all_walk (wpAny_pyIter_list l.list ⟨s.heap.objs.size,[s.heap.objs.size,a],[s.heap.objs.size],ws.toArray.size,_,_,fun i=>(bs[i]?).getD true,rfl,Walks.list (A:=A.in1) hh _ a (Nat.ne_of_lt (OE hl)) ws.toArray,
   ⟨⟨_,Od _ rfl,rfl,rfl⟩,l.list.push _⟩,pw z.1,
   fun h' tk hk=>by rw[Ou,z.1.length,xm,z.2];exact KV.keep c (LSm.kept_iter hk) (.bool b) k⟩)
theorem HO (c:d9 T W U Y s.heap) (hh:A.handled=none) {xs:List V} {b:Int} (hv:C4 T W U s.heap v w) (e1:E2 v=some xs) (e:mN xs=some b) (k:KV T W U s Q (.int b) Y):wpAny (model T.prog T.w) A (call (.builtin "sum") [w]) Q E s:=
 VR.z0 hv e1 fun a ws l J q=>(CU q b e).elim fun bs z=>z.1.allInts.items.elim fun xs' hx=>sum_intListG hh (hx▸l.list) fun h' tk t' hk=>by
  have e1:bs=xs'.toList.map (·.1):=by
   rw[←nums_intItems,←hx]
   exact(show numsOf ws.toArray.toList=bs from z.1.numsOf).symm
  rw[preSum_eq,List.take_of_length_le (by rw[Oi];exact OF _),←e1,z.2]
  exact KV.keep c hk (.int b t') k
theorem nN {b:List Nat} (h:∀i,i∈b->i < 256):(byteArr (b.map Int.ofNat)).toList.map UInt8.toNat=b:=by
 have e:∀i,i∈b->((Int.toNat (Int.ofNat i)).toUInt8).toNat=id i:=fun i hi=>Nat.mod_eq_of_lt (h i hi)
 unfold byteArr
 rw[List.map_map,List.map_map]
 exact(List.map_congr_left e).trans (List.map_id b)
theorem wX (c:d9 T W U Y s.heap) (hh:A.handled=none) {xs:List V} {b:List Nat} (hv:C4 T W U s.heap v w) (e1:E2 v=some xs) (hz:Nat.ble xs.length 1000=true) (e:dF xs=some b) (k:KV T W U s Q (.bytes b) Y):wpAny (model T.prog T.w) A (call (.type "bytes") [w]) Q E s:=
 VR.z0 hv e1 fun a ws l J q=>match vg q b e with
  |⟨hi,hb⟩=>call_bytes_ints l.list hi (fun n hn=>match List.mem_map.mp hn with|⟨i,h1,e⟩=>e▸⟨Ov i,Int.ofNat_lt.mpr (hb i h1)⟩) (by rw[q.length];exact u7 hz) hh fun h' t kk hk=>KV.keep c hk (.bytes b _ t (nN hb)) k
end
theorem bY:typeLookup (.type "bytes") "__bytes__"=pure (some (.builtin "bytes.__bytes__")):=by rw[typeLookup_type,builtinLookup_eq_fast];rfl'
section
theorem cE {b:Array UInt8} {t:Tok} {Q:Value->Shared->Prop} (hQ:Q (.bytes b t) s):codeAny (model prog w) A (.call (.builtin "bytes.__new__") ⟨[.type "bytes",.bytes b t],[]⟩) (wants Q E) s:=by
 refine codeAny_of_tree ?_
 show wpAny _ A.in1 (do checkBuiltinCall "bytes.__new__" ⟨[.type "bytes",.bytes b t],[]⟩;again (.builtin "bytes.__new__" ⟨[.type "bytes",.bytes b t],[]⟩)) _ _ s
 refine NU (wpAny_of_eq (F.bm_newCall _) (NW ⟨plainId_quiet F.bm_plain _,codeAny_builtin F.bm_entry ?_⟩))
 rw[Around.under_plainId F.bm_plain _]
 have hT:s.TypeIs (.bytes b t) "bytes":=PySem.W.typeIs_bytes _ _ _
 unfold Builtin.«bytes.__new__»
 refine NU (wpAny_of_eq (a:=true) rfl ?_)
 refine bm_if_false rfl ?_
 refine NU (wpAny_of_eq F.bm_sub ?_)
 refine bm_if_false rfl ?_
 refine NU (wpAny_of_eq (F.bm_bind _) ?_)
 refine NU (wpAny_of_eq (a:=()) rfl ?_)
 refine NU (wpAny_of_eq (a:=()) rfl ?_)
 refine bm_if_false rfl ?_
 refine NU (wpAny_specialOf hT bY ?_)
 with_unfolding_all show wpAny _ _ (rule "bytes.__new__.of-bytes" >>= fun J=>typeOf (Value.bytes b t) >>= fun z=>if(z == Value.type "bytes")=true then _ else _) _ _ _
 refine NU (wpAny_rule ?_)
 refine NU (wpAny_typeOf hT ?_)
 refine bm_if_true (by decide) ?_
 show wpAny _ _ (if(Value.type "bytes"== Value.type "bytes")=true then _ else _) _ _ _
 refine bm_if_true (by decide) ?_
 first
  |exact NW hQ
  |exact NU (NW (NW hQ))
theorem cG {b:Array UInt8} {t:Tok} {Q:Value->Shared->Prop} (hQ:Q (.bytes b t) s):wpAny (model prog w) A (call (.type "bytes") [.bytes b t]) Q E s:=
 callType_codes (Q₁:=fun obj c5=>c5.TypeIs obj "bytes"∧Q obj c5) F.bm_called (F.bm_typeCall _) F.entry_object_init (cE ⟨PySem.W.typeIs_bytes _ _ _,hQ⟩) fun obj c5 n6=>
  ⟨n6.1,F.args_object_init_2 obj _,object_init_meets F.bm_called.init.lookup F.bm_called.made (by decide) prog w A.in1 _ c5 ⟨n6.1,rfl,n6.2⟩⟩
end
theorem kK:typeLookup (.type "list") "keys"=pure none:=by rw[typeLookup_type,builtinLookup_eq_fast];rfl'
section
theorem ip {a:Addr} {xs:Array Value} {k:Nat} {Q:Option Value->Shared->Prop} (hx:s.heap.get? a=some {cls:=.type "list",data:=.seq xs k}) (hA:A.handled=none)
 (h:∀h' tk,(∀b o,s.heap.get? b=some o->h'.get? b=some o)->Q none {s with heap:=h',toks:=tk}):wpAny (model prog w) A (getAttr? (.ref a) "keys") Q E s:=by
 obtain⟨hp,g,d,tk,os⟩:=s
 have hT:∀tk',(⟨hp,g,d,tk',os⟩:Shared).TypeIs (.ref a) "list":=fun J=>⟨_,hx,rfl⟩
 have f1:=sub_AttributeError
 have f3:=F.slot_list_getattribute.lookup
 have f4:=F.slot_list_getattribute.bind (.ref a)
 have f5:=am_list_getattr_none
 unfold getAttr? getAttrBy? getAttrBy
 repeat (any_goals (first|assumption|exact hT _|((with_reducible show wpAny _ _ (call (Value.builtin "list.__getattribute__") _ _) _ _ _);refine call_meets F.slot_list_getattribute (hT _) am_entry_list_getattribute (F.args_list_getattribute_2 _ _) (meets_getattribute_miss_list a xs k #[] "keys" _ kK (by decide+kernel) (by decide+kernel)) ⟨hx,hA,fun h' tk' e hx'=>?_⟩)|wp_step))
 obtain⟨t',u',he⟩:=hx'.there
 show wpAny _ _ (getattributeRaised _ _ _ _ _ _ _) _ _ _
 unfold getattributeRaised
 repeat (any_goals (first|assumption|wp_step))
 exact h _ _ hx'.of.keeps
theorem S1:entryFor table "dict.update.loop"=some Builtin.«dict.update.loop»:=entryFor_of_tree (by rfl')
theorem D2:plainId "dict.update.loop"=true:=by decide+kernel
inductive cM (h:Heap) (ws:List Value) (i:Nat) (k:Str) (v:Value):Prop
 |mk (p:Addr) (t:Tok) (n:Nat) (e:ws[i]? =some (.ref p)) (hp:h.get? p=some (qk [.str k t,v] n))
structure KQ (prog:Program) (w:World) (h0:Heap) (l I d:Addr) (ws:List Value) (es:List (Str×Value)) (i:Nat) (h:Heap):Prop where
 lst:h.IsList l ws.toArray
 it:h.IsListIter I l i
 uf:h.DictOf (strKind prog w) d (merged [] (es.take i))
 old:∀b o,b≠I->b≠d->h0.get? b=some o->h.get? b=some o
theorem wm {R:Result->Shared->Prop} {l I d:Addr} {ws:List Value} {es:List (Str×Value)} {h0:Heap} (hh:A.handled=none) (hz:es.length≤1000) (hlen:ws.length=es.length) (hI:h0.get? I=none) (hd0:h0.get? d=none) (hId:I≠d) (hlI:l≠I) (hld:l≠d)
 (pr:∀i k v,es[i]? =some (k,v)->cM h0 ws i k v):∀(k i:Nat) (s:Shared),i+k=es.length->KQ prog w h0 l I d ws es i s.heap->
  (∀h' k',(∀b o,b≠I->b≠d->h0.get? b=some o->h'.get? b=some o)->h'.DictOf (strKind prog w) d (merged [] es)->R (.ok (.ret .none)) {s with heap:=h',toks:=k'})->
  codeAny (model prog w) A (.builtin "dict.update.loop" ⟨[.ref d,.ref I,rawInt i,.none],[]⟩) R s:=by
 intro k
 induction k with
 |zero=>
  intro i s hk q hR
  obtain rfl:i=es.length:=hk
  refine codeAny_builtin S1 ?_
  rw[Around.under_plainId D2 _]
  show wpAny _ A.in1 (pyNext (.ref I) >>= _) _ _ s
  refine NU (wpAny_pyNext_list_end hh q.it q.lst ((List.getElem?_toArray ..).trans (List.getElem?_eq_none (Nat.le_of_eq hlen))) fun h' he=>?_)
  have hd:=q.uf
  rw[List.take_length]at hd
  obtain⟨o,e1,e2,e3,e4⟩:=hd
  exact NU (NW (NW (hR h' _ (fun b o' n1 n2 e=>he b o' n1 (q.old b o' n1 n2 e)) ⟨o,e1,e2,he d o (Ne.symm hId) e3,e4⟩)))
 |succ k ih=>
  intro i s hk q hR
  have hlt:i < es.length:=hk▸Nat.lt_add_of_pos_right (Nat.succ_pos k)
  have e:=Ol hlt
  obtain⟨p,t,n,hw,hp⟩:=pr i es[i].1 es[i].2 e
  have hpI:p≠I:=fun z=>d0 hI (z▸hp)
  have hpd:p≠d:=fun z=>d0 hd0 (z▸hp)
  refine codeAny_builtin S1 ?_
  rw[Around.under_plainId D2 _]
  show wpAny _ A.in1 (pyNext (.ref I) >>= _) _ _ s
  refine NU (wpAny_pyNext_list_item (x:=.ref p) q.it q.lst ((List.getElem?_toArray ..).trans hw) fun h' hit' hs'=>?_)
  have hop:=(hs'.2 p hpI).trans (q.old p _ hpI hpd hp)
  refine NU (Oo (NU (wpAny_tryCatch ?_)))
  show wpAny _ _ (Builtin.Dict.pairItems (.ref p)) _ _ _
  unfold Builtin.Dict.pairItems
  refine NU (wpAny_typeOf (T:="tuple") ⟨_,hop,rfl⟩ (bm_if_true (by decide) (NU ?_)))
  unfold seqItems?
  refine NU (wpAny_load hop (NW (NW ?_)))
  show wpAny _ _ (holding [.str es[i].1 t,es[i].2] (dictSet d (.str es[i].1 t) es[i].2)) _ _ _
  have hm:=merged_length_le [] (es.take i)
  have e2:merged [] (es.take (i+1))=stored (merged [] (es.take i)) es[i].1 es[i].2:=merged_take_succ [] es i _ e
  exact Oo (wpAny_dictSet_pairs (knd:=strKind prog w) (k:=es[i].1) (isStrOf_self _ t) (q.uf.sameBut hs' (Ne.symm hId)) (fun h2 hd2 hs2=>NW ⟨plainId_quiet D2 _,
   ih (i+1) _ ((Nat.add_right_comm ..).trans hk) ⟨(q.lst.extBut hs'.extBut hlI).extBut hs2.extBut hld,hit'.extBut hs2.extBut hId,e2▸hd2,fun b o n1 n2 eb=>(hs2.2 b n2).trans ((hs'.2 b n1).trans (q.old b o n1 n2 eb))⟩ hR⟩)
   (bp (Oe hm (Oe (Nat.le_of_eq (Nat.zero_add _)) (Oe (List.length_take_le' ..) hz)))))
theorem dB {l:Addr} {ws:List Value} {es:List (Str×Value)} {Q:Value->Shared->Prop} {n:Nat} (hh:A.handled=none) (hl:s.heap.get? l=some (CH ws n)) (hz:es.length≤1000) (hlen:ws.length=es.length) (pr:∀i k v,es[i]? =some (k,v)->cM s.heap ws i k v)
 (h:∀h' k,(∀b o,s.heap.get? b=some o->h'.get? b=some o)->h'.DictOf (strKind prog w) s.heap.objs.size (merged [] es)->Q (.ref s.heap.objs.size) {s with heap:=h',toks:=k}):
 wpAny (model prog w) A (call (.type "dict") [.ref l]) Q E s:=by
 refine callType_codes (Q₁:=fun obj c5=>obj=.ref s.heap.objs.size∧c5={s with heap:=s.heap.push {cls:=.type "dict",data:=.dict #[]}}) F.kt_called_dict (F.kt_typeCall_dict_1 _) F.entry_dict_init (kt_code_dict_new _ ⟨rfl,rfl⟩) ?_
 rintro obj c5 ⟨rfl,rfl⟩
 have hnew:(s.heap.push {cls:=.type "dict",data:=.dict #[]}).DictOf (strKind prog w) s.heap.objs.size []:=Heap.DictOf.new s.heap
 have hl':(s.heap.push {cls:=.type "dict",data:=.dict #[]}).get? l=some (CH ws n):=Oc _ hl
 refine⟨hnew.typeIs,F.args_dict_init_2 _ _,?_⟩
 unfold Builtin.«dict.__init__»
 refine NU ?_
 unfold Builtin.Dict.selfAndRest
 refine NU (wpAny_notOrdered_dict hnew.typeIs ?_)
 show wpAny _ _ (pure (s.heap.objs.size,[Value.ref l])) _ _ _
 refine NW ?_
 show wpAny _ _ (Builtin.Dict.updateFrom "dict.__init__" s.heap.objs.size (.ref l) [] .none) _ _ _
 unfold Builtin.Dict.updateFrom
 refine NU (wpAny_typeOf (T:="list") ⟨_,hl',rfl⟩ ?_)
 rw[OB (by decide)]
 refine NU (ip hl' hh fun h2 tk hk2=>?_)
 refine bm_if_true rfl (NU (wpAny_rule ?_))
 have hl2:=hk2 _ _ hl'
 have hd2:=hk2 _ _ (show(s.heap.push {cls:=.type "dict",data:=.dict #[]}).get? s.heap.objs.size=some {cls:=.type "dict",data:=.dict #[]}from Od _ rfl)
 have hdlt:=OE hd2
 refine NU (wpAny_pyIter_list (R6.list ⟨n,hl2⟩) (NW ⟨plainId_quiet D2 _,?_⟩))
 have k1:∀b o,(s.heap.push {cls:=.type "dict",data:=.dict #[]}).get? b=some o->(h2.push {cls:=.type "list_iterator",data:=.fields #[.ref l,.int 0 0]}).get? b=some o:=fun b o e=>Oc _ (hk2 b o e)
 have nI:∀b o,s.heap.get? b=some o->b≠h2.objs.size∧b≠s.heap.objs.size:=fun b o e=>⟨Nat.ne_of_lt (Nat.lt_trans (OE e) hdlt),Nat.ne_of_lt (OE e)⟩
 have hI:s.heap.get? h2.objs.size=none:=by
  induction q:s.heap.get? h2.objs.size with
  |none=>rfl
  |some o=>exact absurd rfl (nI _ _ q).1
 refine wm (A:=A.in1) hh hz hlen hI (none_at_size _) (Nat.ne_of_gt hdlt) (nI _ _ hl).1 (nI _ _ hl).2 pr es.length 0 _ (Nat.zero_add _) ?_ fun h' k' hk' hd'=>?_
 ·exact⟨(R6.list ⟨n,hl2⟩).push _,⟨_,Od _ rfl,rfl,rfl⟩,B6 hnew (k1 _),fun b o J J e=>k1 b o (Oc _ e)⟩
 ·exact⟨rfl,h h' k' (fun b o e=>hk' b o (nI b o e).1 (nI b o e).2 e) hd'⟩
end
section
variable {w:Value}
theorem all1 {d D:Addr} {p:Addr->Prop} (h:p D) (q:d∈[D]):p d:=Og q▸h
theorem KV.made {D:Addr} {h':Heap} {t:Nat} (c:d9 T W U Y s.heap) (hk:∀b o,s.heap.get? b=some o->h'.get? b=some o) (hn:s.heap.get? D=none) (q:M0 T (W.add [D]) U h' D v) (k:KV T W U s Q v Y):Q (.ref D) {s with heap:=h',toks:=t}:=
 have nn:∀d,d∈[D]->s.heap.get? d=none:=fun d hd=>all1 (p:=fun d=>s.heap.get? d=none) hn hd
 have r:=c.adopt hk nn (fun d hd=>all1 (p:=fun d=>∃o,h'.get? d=some o) q.there hd)
 have g:s8 s W (W.add [D]):=s8.add nn
 k _ _ _ (i4.keeps c hk) (q.vr (g.ms h') (bZ c.o5 g r (.head _) hn)) fun J=>⟨D,W.add [D],hn,g,.head _,r,q⟩
@[elab_as_elim] theorem z1.two_el {G:List Value->Prop} {p q:V} {ws:List Value} (x:z1 T U bad h [p,q] ws) (k:∀w u,VS T U bad h p w->solid q=true->VS T U bad h q u->G [w,u]):G ws:=by
 cases x with|cons _ w _ us _ a r=>cases r with|cons _ u _ us g b r=>cases r;exact k w u a g b
inductive NI (T:i7) (U:List Addr) (bad:Addr->Prop) (h:Heap) (ws:List Value) (ps:List (Txt×V)):Prop
 |mk (es:List (Str×Value)) (r:J9 T U bad h i3 ps es) (l:ws.length=es.length) (k:∀i k v,es[i]? =some (k,v)->cM h ws i k v)
theorem cM.tail {ws:List Value} {i:Nat} {k:Str} {v:Value} (x:cM h ws i k v):cM h (w::ws) (i+1) k v:=match x with|⟨p,t,n,e,hp⟩=>⟨p,t,n,e,hp⟩
theorem yz {xs:List V} {ws:List Value} (q:z1 T U bad h xs ws):∀ps,dE xs=some ps->NI T U bad h ws ps:=
 q.aO (fun b e=>NX e▸⟨[],.nil,rfl,fun i k v e=>nomatch e⟩) fun v w vs ws g a q ih b e=>a0 e fun u eu e=>a0 e fun p ep e=>a0 e fun x ex e=>d8 e fun y ey e=>match ih y ey with
  |⟨es,r,l,k⟩=>E6 (.mk (f7:=bad) _ _ a) eu fun ad us ⟨n,hl⟩ J r2=>by
   subst e
   obtain rfl:=two1_eq ep
   revert hl
   refine r2.two_el fun w1 w2 a1 g2 a2=>n8 (.mk (f7:=bad) _ _ a1) ex fun t ha hl=>⟨(i3 x,w2)::es,.cons (p:=(x,p.2)) g2 a2 r,Oh (· +1) l,fun i k' v' e=>?_⟩
   induction i with
   |zero=>cases e;exact⟨ad,t,n,rfl,hl⟩
   |succ i=>exact(k i k' v' e).tail
theorem DL (tk:E4 T P) (c:d9 T W U Y s.heap) (hh:A.handled=none) {xs:List V} {ps:List (Txt×V)} (hv:C4 T W U s.heap v w) (e1:E2 v=some xs) (hz:Nat.ble xs.length 1000=true) (e:dE xs=some ps) (k:KV T W U s Q (.E1 (z7 [] ps)) Y):wpAny (model T.prog T.w) A (call (.type "dict") [w]) Q E s:=
 VR.z0 hv e1 fun a ws ⟨n,l⟩ J q=>match yz q ps e with
  |⟨es,h1,h2,h3⟩=>dB hh l (h2▸q.length▸NY hz) h2 h3 fun h' kk hk hd=>
   KV.made c hk (none_at_size _) (.d _ ((h1.qz .nil).ms (bH hk fun d hd=>all1 (p:=fun d=>s.heap.get? d=none) (none_at_size _) hd)|>.uf hd (O0 tk c))) k
end
end Mine
end
section
open PySem PySem.W PyProof.Rows PySem.Calls PySem.Spec
namespace Mine
theorem M3 {a:Txt}:∀{b:Txt},yY a b=true↔a < b:=by
 induction a with
 |nil=>
  intro b
  induction b with
  |nil=>exact⟨fun h=>Bool.noConfusion h,fun h=>absurd h (List.lt_irrefl _)⟩
  |cons=>exact⟨fun J=>.nil,fun J=>rfl⟩
 |cons x r ih=>
  intro b
  induction b with
  |nil=>exact⟨fun h=>Bool.noConfusion h,fun h=>nomatch h⟩
  |cons y t=>exact Bool.or_eq_true_iff.trans ((or_congr (iff_of_eq Nat.ble_eq) (Bool.and_eq_true_iff.trans (and_congr (iff_of_eq Nat.beq_eq) ih))).trans (List.cons_lt_cons_iff (a:=x) (b:=y) (l₁:=r) (l₂:=t)).symm)
theorem qc {a b:Txt} (h:yY a b=false):b≤a:=fun q=>Bool.noConfusion (h.symm.trans (M3.mpr q))
theorem eQ {a b:Txt} (h:yY a b=true):a≤b:=List.le_of_lt (M3.mp h)
abbrev Up (l:List Txt):Prop:=l.Pairwise fun a b=>a≤b
noncomputable def Q8 (x:Str):Txt:=x.cps.toList
theorem gM (l:List Txt):(l.map i3).map Q8=l:=by rw[List.map_map];exact List.map_id l
theorem mK (l:List Str):(l.map Q8).map i3=l:=by rw[List.map_map];exact List.map_id l
theorem uZ {ss:List Str}:∀{p:Str},risingS p ss=true->Up ((p::ss).map Q8):=by
 induction ss with
 |nil=>exact fun J=>List.pairwise_singleton _ _
 |cons x r ih=>
  intro p h
  exact a7 (show(!ltCps x.cps.toList p.cps.toList&&risingS x r)=true from h) fun h1 h2=>
  have k:=ih h2
  have h3:Q8 p≤Q8 x:=List.not_lt.mp (of_decide_eq_false ((ltCps_eq ..).symm.trans (not_true h1)))
  List.pairwise_cons.mpr ⟨fun y hy=>(Of hy).elim (fun e=>e▸h3) fun hy=>List.le_trans h3 ((List.pairwise_cons.mp k).1 y hy),k⟩
theorem iP {ss:List Str} (h:sortedS ss=true):Up (ss.map Q8):=by
 induction ss with
 |nil=>exact .nil
 |cons x r=>exact uZ h
theorem uU {ss:List Str} {ks:List Txt} (hs:sortedS ss=true) (hk:Up ks) (hp:ss.Perm (ks.map i3)):ss=ks.map i3:=by
 have e:ss.map Q8=ks:=List.Perm.eq_of_pairwise (fun J J J J=>List.le_antisymm) (iP hs) hk (gM ks▸hp.map Q8)
 rw[←e,mK]
theorem oo {k:Txt} {l:List Txt}:(oq k l).Perm (k::l):=by
 induction l with
 |nil=>exact .refl _
 |cons q r ih=>
  show List.Perm (bif yY k q then k::q::r else q::oq k r) _
  induction yY k q with
  |true=>exact .refl _
  |false=>exact(ih.cons q).trans (.swap ..)
theorem zA {k:Txt} {l:List Txt} (h:Up l):Up (oq k l):=by
 induction h with
 |nil=>exact List.pairwise_singleton _ _
 | @cons q r h1 h2 ih=>
  show Up (bif yY k q then k::q::r else q::oq k r)
  cases e:yY k q with
  |true=>exact .cons (fun x hx=>(Of hx).elim (fun z=>z▸eQ e) fun hx=>List.le_trans (eQ e) (h1 x hx)) (.cons h1 h2)
  |false=>exact .cons (fun x hx=>(Of (oo.mem_iff.mp hx)).elim (fun z=>z▸qc e) (h1 x)) ih
theorem iQ {ks:List Txt}:∀{l:List Txt},Up l->Up (ks.foldl (fun l k=>oq k l) l)∧(ks.foldl (fun l k=>oq k l) l).Perm (ks++l):=by
 induction ks with
 |nil=>exact fun h=>⟨h,.refl _⟩
 |cons k ks ih=>exact fun{l} h=>⟨(ih (zA h)).1,(ih (zA h)).2.trans ((oo.append_left ks).trans List.perm_middle)⟩
theorem BK {ks:List Txt}:Up (sR ks):=(iQ .nil).1
theorem uV {ks:List Txt}:(sR ks).Perm ks:=(iQ (ks:=ks) .nil).2.trans (.of_eq (Ox ks))
variable {A:Around} {E:Value->Shared->Prop} {s:Shared}
section
variable {prog:Program} {w:World}
theorem qn {vs:List Value}:∀{ks:List (Str×Value)},vs.length=ks.length->(∀(j:Nat) (v:Value),vs[j]? =some v->∃k x,ks[j]? =some (k,x)∧(PySem.strKind prog w).is k v=true)->StrsAre vs (ks.map (·.1)):=by
 induction vs with
 |nil=>exact fun{ks} e J=>by induction ks with|nil=>exact .nil|cons _ _=>cases e
 |cons v vs ih=>
  intro ks e hv
  induction ks with
  |nil=>cases e
  |cons p ks=>
   obtain⟨k,x,e1,e2⟩:=hv 0 v rfl
   cases e1
   obtain⟨t,rfl⟩:=Value.isStrOf_shape e2
   exact .cons _ t (ih (Nat.succ.inj e) fun j v hj=>hv (j+1) v hj)
theorem nk {d:Addr} {kws:List (Str×Value)} {Q:Value->Shared->Prop} (hh:A.handled=none) (lo:(d == sysModules)=false) (hd:s.heap.DictOf (PySem.strKind prog w) d kws) (h64:kws.length < 64)
 (h:∀h' tk D (ws:List Value) ss,(∀b o,s.heap.get? b=some o->h'.get? b=some o)->s.heap.get? D=none->R6 h' D ws->StrsAre ws ss->ss.Perm (kws.map (·.1))->sortedS ss=true->Q (.ref D) {s with heap:=h',toks:=tk}):
 wpAny (model prog w) A (call (.builtin "sorted") [.ref d]) Q E s:=by
 obtain⟨ep,hat⟩:=hd.dictAt
 have hz:kws.length≤sizeLine:=bp (Oe (Nat.le_of_lt h64) (by decide))
 refine call_function_entry kind_sorted plain_sorted entry_sorted (args_sorted1 _) ?_
 unfold Builtin.«sorted»
 refine NU (m:=checkCount "sorted" 1 1 _) (NW ?_)
 refine NU (kdu_collect (A:=A.in1) (kdl_dict (knd:=PySem.strKind prog w) (kvs:=kws) (ep:=ep) lo) hh hat hz fun h' tk acc hk hacc=>?_)
 have hl:acc.toList.length=kws.length:=Array.length_toList.trans hacc.1
 refine NU (wpAny_newList ?_ (by rw[hl];exact hz))
 have hS:StrsAre acc.toList (kws.map (·.1)):=qn hl fun j v e=>hacc.2 j v (Array.getElem?_toList▸e)
 have ho:(h'.push {cls:=.type "list",data:=.seq acc.toList.toArray}).get? h'.objs.size=some (seqObj "list" acc.toList.toArray 0):=Od _ rfl
 refine NU (Oo (wpAny_call_entry slot_list_sort ⟨_,ho,rfl⟩ PyProof.Rows.entry_list_sort (list_sort_treeK strKind_oneLt ho hS.keysOf (fun Nm Nk rest e=>keyKind_strs (e▸hS)) (hl▸h64) fun st' hp hs=>⟨_,rfl,?_⟩) (args_list_sort _)))
 refine NW ⟨_,rfl,?_⟩
 obtain⟨ss',h1,h2,h3⟩:=sorted_out_str hS hp hs
 obtain⟨e,he⟩:=sortedHeap_at (out:=(arrOf st').map (·.2)) ho
 have hn:s.heap.get? h'.objs.size=none:=by
  induction q:s.heap.get? h'.objs.size with
  |none=>rfl
  |some o=>exact d0 (none_at_size h') (hk _ o q)
 exact h _ _ _ _ ss' (fun b o e=>(sortedHeap_old (fun z=>d0 hn (z▸e)) (OE (Oc _ (hk b o e)))).trans (Oc _ (hk b o e))) hn ⟨e,he.trans (Oh (fun x=>some (seqObj "list" x e)) (Array.toArray_toList ..).symm)⟩ h1 h2 h3
end
section
variable {T:i7} {P:Pg} {W:r9} {U:List Addr} {Y:Hp} {Q:Value->Shared->Prop} {h:Heap} {bad f7:Addr->Prop} {v r:V} {w:Value}
theorem xV {ks:List Txt}:∀{ws:List Value},ks.all t6=true->StrsAre ws (ks.map i3)->z1 T U bad h (ks.map V.str) ws:=by
 induction ks with
 |nil=>exact fun J x=>by cases x;exact .nil
 |cons k ks ih=>exact fun hk x=>a7 hk fun h1 h2=>by cases x with|cons _ t q=>exact .cons _ _ _ _ rfl (.G3 _ _ (.str k t h1)) (ih h2 q)
theorem cI (c:d9 T W U Y s.heap) (hh:A.handled=none) {d:Addr} {kws:List (Str×Value)} {ks:List Txt} (lo:(d == sysModules)=false) (hd:s.heap.DictOf (PySem.strKind T.prog T.w) d kws) (hp:(kws.map (·.1)).Perm (ks.map i3)) (hr:Up ks)
 (e:Lj ks=some r) (k:KV T W U s Q r Y):wpAny (model T.prog T.w) A (call (.builtin "sorted") [.ref d]) Q E s:=
 i9 e fun g e=>a7 g fun g1 g2=>nk hh lo hd (by rw[←Oi (f:=(·.1)),hp.length_eq,Oi];exact NY g1) fun h' tk D ws ss hk hn hl hs hp' hss=>
  KV.made (v:=.g6 (ks.map .str)) c hk hn (.l _ ws hl (xV g2 (uU hss hr (hp'.trans hp)▸hs))) (e▸k)
theorem cQ {kws:List (Str×Value)} {k:Str}:(valueAt kws k).isSome=true↔k∈kws.map (·.1):=by
 induction kws with
 |nil=>exact⟨fun h=>Bool.noConfusion h,fun h=>nomatch h⟩
 |cons p r ih=>
  rw[show p=(p.1,p.2)from rfl,i6,List.map_cons,List.mem_cons]
  by_cases e:p.1=k
  ·rw[OB e];exact⟨fun J=>.inl e.symm,fun J=>rfl⟩
  ·rw[OC e,ih];exact⟨.inr,fun h=>h.elim (fun z=>absurd z.symm e) id⟩
theorem uI {l:List Txt} (h:l.Nodup):(l.map i3).Nodup:=List.Pairwise.map i3 (fun J J q z=>q (dD z)) h
structure AS (T:i7):Prop where
 up:sortedS (T.univ.map i3)=true
 nodup:T.univ.Nodup
theorem aZ (u:AS T) {d:Addr} {kws:List (Str×Value)} {f:Txt->Option V} (hd:h.DictOf (PySem.strKind T.prog T.w) d kws) (r:∀k,B0 T U bad h (f k) (valueAt kws (i3 k))) (hu:∀p∈kws,∃k∈T.univ,p.1=i3 k):(kws.map (·.1)).Perm ((m9 T.univ f).map i3)∧Up (m9 T.univ f):=
 have eq:∀k,(valueAt kws (i3 k)).isSome=(f k).isSome:=fun k=>(r k).isSome.trans (by induction f k<;>rfl)
 ⟨(List.perm_ext_iff_of_nodup (Q7 hd) (uI (List.Pairwise.filter _ u.nodup))).mpr fun x=>⟨fun hx=>match List.mem_map.mp hx with
  |⟨p,hp,e⟩=>match hu p hp with|⟨k,hk,e2⟩=>List.mem_map.mpr ⟨k,List.mem_filter.mpr ⟨hk,(eq k).symm.trans (cQ.mpr (e2.symm.trans e▸hx))⟩,e2.symm.trans e⟩,
  fun hx=>match List.mem_map.mp hx with|⟨k,hk,e⟩=>e▸cQ.mp ((eq k).trans (List.mem_filter.mp hk).2)⟩,
 List.Pairwise.filter _ (gM T.univ▸iP u.up)⟩
theorem si (u:AS T) (tk:E4 T P) (c:d9 T W U Y s.heap) (hh:A.handled=none) (hv:C4 T W U s.heap v w) (e:pC P v Y=some r) (k:KV T W U s Q r Y):wpAny (model T.prog T.w) A (call (.builtin "sorted") [w]) Q E s:=
 i0 e (fun e=>a0 e fun i ei e=>a0 e fun o eo e=>A8 hv ei fun a ha=>c.at eo fun a' ha' q=>by
  rw[NX (ha'.symm.trans ha)]at q
  exact i0 e (fun e=>a0 e fun f ef e=>by
   rw[H5 ef]at q
   rw[tk.fx]at e
   exact match q with|⟨kws,hd,hs,r,hu⟩=>cI c hh hs hd (aZ u hd r hu).1 (aZ u hd r hu).2 e k) fun e=>d8 e fun J ef e=>by
   rw[W8 ef]at q
   exact match q with|⟨j,hs,ho⟩=>cI (ks:=[]) c hh hs (v3 _ ho) (.refl _) .nil rfl (e▸k)) fun e=>
 a0 e fun kvs ek e=>VR.U3 hv ek fun a d=>d.Ba fun kws hd hs q=>cI c hh hs hd (ks:=sR (kvs.map (·.1))) (by rw[q.e];exact(List.map_map (f:=Prod.fst) (g:=i3))▸uV.symm.map i3) BK e k
structure TN (T:i7) (P:Pg):Prop extends TM T P where
 sI:AS T
theorem Kt (tn:TN T P) (c:d9 T W U Y s.heap) (hh:A.handled=none) {b:Bi} {vs:List V} {ws:List Value} (x:xi T W U s.heap vs ws) (e:I6 P b vs Y=some r) (k:KV T W U s Q r Y):wpAny (model T.prog T.w) A (call (T.bi b) ws) Q E s:=by
 rw[tn.Ln]
 induction b with
 |len=>exact a0 e fun v ev e=>x.one (G:=fun ws=>wpAny _ _ (call (AD .len) ws) Q E s) ev fun w hv=>HP c hv e k
 |isinstance=>exact a0 e fun v ev e=>a0 e fun b eb e=>d8 e fun t et e=>x.two (G:=fun ws=>wpAny _ _ (call (AD .isinstance) ws) Q E s) ev fun w u hv hu=>(by
  rw[lY eb]at hu
  exact hu.EV (tn.Ln b▸iG c hv et (e▸k)))
 |sorted=>exact a0 e fun v ev e=>x.one (G:=fun ws=>wpAny _ _ (call (AD .sorted) ws) Q E s) ev fun w hv=>si tn.sI tn.toE4 c hh hv e k
 |all=>exact a0 e fun v ev e=>a0 e fun xs ex e=>d8 e fun b eb e=>x.one (G:=fun ws=>wpAny _ _ (call (AD .all) ws) Q E s) ev fun w hv=>HR c hh hv ex eb (e▸k)
 |sum=>exact a0 e fun v ev e=>a0 e fun xs ex e=>d8 e fun b eb e=>x.one (G:=fun ws=>wpAny _ _ (call (AD .sum) ws) Q E s) ev fun w hv=>HO c hh hv ex eb (e▸k)
 |bytes=>exact a0 e fun v ev e=>x.one (G:=fun ws=>wpAny _ _ (call (AD .bytes) ws) Q E s) ev fun w hv=>i0 e (fun e=>d8 e fun b eb e=>F5 hv eb fun a t ha=>cG (KV.G3 c (.bytes b a t ha) rfl (e▸k))) fun e=>a0 e fun xs ex e=>a0 e fun ys ey e=>d8 e fun b eb e=>i9 ey fun g ey=>wX c hh hv ex g (ey▸eb) (e▸k)
 |dict=>exact a0 e fun v ev e=>x.one (G:=fun ws=>wpAny _ _ (call (AD .dict) ws) Q E s) ev fun w hv=>a0 e fun xs ex e=>a0 e fun ys ey e=>d8 e fun b eb e=>i9 ey fun g ey=>DL tn.toE4 c hh hv ex g (ey▸eb) (e▸k)
 |int=>exact a0 e fun v ev e=>d8 e fun b eb e=>x.one (G:=fun ws=>wpAny _ _ (call (AD .int) ws) Q E s) ev fun w hv=>HQ c hv eb (e▸k)
 |bool=>exact ns e
end
end Mine
end
section
open PySem PySem.W PyProof.Rows PySem.Calls
namespace Mine
structure Lu (T:i7) (P:Pg) (W:r9) (U:List Addr) (s:Shared) (c7:Hp) (d7:List Addr) (s':Shared) (A:Around) (vs:List V) (ws:List Value):Prop where
 out:i4 T W U s c7 d7 s'
 Ca:hM T W U s c7 d7 s' vs ws
 o5:Bj T W U s.heap
 hh:A.handled=none
 hu:A.units+30 < cLine
def Z3 (T:i7) (P:Pg) (ov:V) (wo:Value) (mm:Nat) (bid:String):Prop:=∀{W:r9} {U:List Addr} {s:Shared} {c7:Hp} {d7:List Addr} {s':Shared} {A:Around} {vs:List V} {ws:List Value} {Q E:Value->Shared->Prop},
 Lu T P W U s c7 d7 s' A vs ws->C4 T W d7 s'.heap ov wo->(nY P.univ ov mm vs c7).c4 (KV T W U s Q) (XV T W U s E)->wpAny (model T.prog T.w) A (call (.builtin bid) (wo::ws)) Q E s'
variable {T:i7} {P:Pg} {W:r9} {U d7:List Addr} {s s':Shared} {Y c7:Hp} {A:Around} {Q E:Value->Shared->Prop} {h:Heap} {v:V} {w:Value} {vs:List V} {ws:List Value} {a:Addr}
section
theorem Lu.uD (i:Lu T P W U s c7 d7 s' A vs ws):xi T W d7 s'.heap vs ws:=i.Ca.vr i.o5
theorem KV.put {u3:Hp} {aE:List Addr} {s'':Shared} (o:i4 T W U s c7 d7 s') (k:KV T W U s Q v u3) (o':i4 T W d7 s' u3 aE s'') (hv:eK T W aE s''.heap v w) (g:solid v=true):Q w s'':=k _ _ _ (o.trans o') (.mk _ _ hv) (G1.not (P2 g))
theorem KV.nothing {u3:Hp} {aE:List Addr} {s'':Shared} (o:i4 T W U s c7 d7 s') (k:KV T W U s Q .none u3) (o':i4 T W d7 s' u3 aE s''):Q .none s'':=k.put o o' (.G3 _ _ .none) rfl
theorem IY {o:Option V} {x:Option Value} {t:Nat} {bad:Addr->Prop} (c:d9 T W U Y s.heap) (q:B0 T U (k9 T W U) s.heap o x) (k:KV T W U s Q (o.getD .none) Y):Q (x.getD .none) {s with toks:=t}:=by
 induction q with
 |none=>exact k.here c (.mk _ _ (.G3 _ _ .none)) rfl
 |some v w g a=>exact KV.vs c a g k
theorem ke {k:Txt} {G:List Value->Prop} (x:xi T W U h vs ws) (e:(y0 vs).bind r6=some k) (kk:∀t,t6 k=true->G [.str (i3 k) t]):G ws:=a0 e fun v ev e=>x.one ev fun w hw=>n8 hw e fun t a=>kk t a
theorem mV {k:Txt} {G:List Value->Prop} (x:xi T W U h vs ws) (e:((two1 vs).bind fun q=>(F7 q.2).bind fun J=>r6 q.1)=some k) (kk:∀t,t6 k=true->G [.str (i3 k) t,.none]):G ws:=
 a0 e fun v ev e=>a0 e fun J en e=>x.two ev fun w u hw hu=>J0 hu en (n8 hw e fun t a=>kk t a)
section
variable {kws:List (Str×Value)} {k:Txt} {t:Tok} (hd:s.heap.DictOf (strKind T.prog T.w) a kws) (lo:(a == sysModules)=false)
include hd lo
theorem Hw (h:Q ((valueAt kws (i3 k)).getD .none) {s with toks:=s.toks+1}):wpAny (model T.prog T.w) A (call (.builtin "dict.get") [.ref a,.str (i3 k) t]) Q E s:=
 call_meetsIn PySem.F.slot_dict_get hd.typeIs PySem.F.entry_dict_get (PySem.F.args_dict_get_2 _ _) (meets_dict_get (knd:=strKind T.prog T.w) (k:=i3 k) (key:=.str (i3 k) t) (d:=a) (isStrOf_self (i3 k) t) lo) ⟨_,hd.mapOf,h⟩
theorem Kf {d:Value} (h:Q ((valueAt kws (i3 k)).getD d) {s with toks:=s.toks+1}):wpAny (model T.prog T.w) A (call (.builtin "dict.get") [.ref a,.str (i3 k) t,d]) Q E s:=
 call_meetsIn PySem.F.slot_dict_get hd.typeIs PySem.F.entry_dict_get (PySem.F.args_dict_get_3 _ _ _) (meets_dict_get_default (knd:=strKind T.prog T.w) (k:=i3 k) (key:=.str (i3 k) t) (d:=a) (isStrOf_self (i3 k) t) lo d) ⟨_,hd.mapOf,h⟩
theorem EM (e:valueAt kws (i3 k)=none) (h:Q .none {s with toks:=s.toks+1}):wpAny (model T.prog T.w) A (call (.builtin "dict.pop") [.ref a,.str (i3 k) t,.none]) Q E s:=
 call_meetsIn PySem.F.slot_dict_pop hd.typeIs PySem.F.entry_dict_pop (PySem.F.args_dict_pop_3 _ _ _) (meets_dict_pop_default (k:=i3 k) (key:=.str (i3 k) t) (strKind T.prog T.w) a (isStrOf_self (i3 k) t) lo rfl .none) ⟨_,hd,e,h⟩
end
theorem dr {kws:List (Str×Value)} {k q:Str}:valueAt (without kws k) q=if q=k then none else valueAt kws q:=by
 induction kws with
 |nil=>exact(ite_self _).symm
 |cons p r ih=>
  rw[show p=(p.1,p.2)from rfl,i6]
  have hw:without ((p.1,p.2)::r) k=if p.1=k then without r k else(p.1,p.2)::without r k:=by
   unfold without
   rw[List.filter_cons]
   by_cases e:p.1=k
   ·rw[OB e,decide_eq_false (fun z=>z e)];rfl
   ·rw[OC e,decide_eq_true e];rfl
  rw[hw]
  by_cases e:p.1=k
  ·rw[OB e,ih]
   by_cases e2:q=k
   ·rw[OB e2,OB e2]
   ·rw[OC e2,OC e2,OC fun z=>e2 (z.symm.trans e)]
  ·rw[OC e,i6,ih]
   by_cases e2:q=k
   ·rw[OB e2,OB e2,OC fun z=>e (z.trans e2)]
   ·rw[OC e2,OC e2]
theorem dX {f:Txt->Option V} {kws kws':List (Str×Value)} {k:Txt} {bad:Addr->Prop} (r:∀k,B0 T U bad h (f k) (valueAt kws (i3 k))) (hw:∀q,valueAt kws' q=if q=i3 k then none else valueAt kws q) (q:Txt):B0 T U bad h (t9 f k none q) (valueAt kws' (i3 q)):=by
 rw[hw]
 show B0 T U bad h (bif r5 k q then none else f q) _
 rw[D1]
 by_cases e:i3 k=i3 q
 ·rw[OB e.symm,decide_eq_true e];exact .none
 ·rw[OC fun z=>e z.symm,decide_eq_false e];exact r q
theorem EL (tk:E4 T P) (c:d9 T W U Y s.heap) {l:Nat} {f:Txt->Option V} {k:Txt} {t:Tok} {rest:List Value} {v:V} (ha:U[l]? =some a) (q:Ie T W U s.heap a f) (ar:argsOk "dict.pop" ⟨.ref a::.str (i3 k) t::rest,[]⟩) (hr:rest=[]∨∃d,rest=[d]) (e:f k=some v)
 (kk:∀w s',i4 T W U s (Y.set l (.map (t9 f k none))) U s'->eK T W U s'.heap v w->solid v=true->Q w s'):wpAny (model T.prog T.w) A (call (.builtin "dict.pop") (.ref a::.str (i3 k) t::rest)) Q E s:=match q with
 |⟨kws,hd,hs,r,u⟩=>B0.W6 (e▸r k) fun w ew g av=>call_meetsIn PySem.F.slot_dict_pop hd.typeIs PySem.F.entry_dict_pop ar (meets_dict_pop_there (k:=i3 k) (key:=.str (i3 k) t) (strKind T.prog T.w) a (isStrOf_self (i3 k) t) rest hr rfl) ⟨kws,w,hd,bp (Oe (dR hd u) tk.small),ew,fun h' hd' hs'=>
  have ms:=Z6 (T:=T) (W:=W) ha hs'
  have o:i4 T W U s (Y.set l (.map (t9 f k none))) U {s with heap:=h',toks:=s.toks+1}:=i4.Z7 (o':=.map (t9 f k none)) c ha hs' ⟨_,hd',hs,dX (fun k=>(r k).ms ms) fun q=>dr,fun p hp=>u p (List.mem_filter.mp hp).1⟩
  kk w _ o (o.ext.vs av) g⟩
theorem Ka (tk:E4 T P) (c:d9 T W U Y s.heap) {l:Nat} {f:Txt->Option V} {k:Txt} {t:Tok} (ha:U[l]? =some a) (q:Ie T W U s.heap a f)
 (kk:∀v w s',(f k).getD .none=v->i4 T W U s (Y.set l (.map (t9 f k none))) U s'->eK T W U s'.heap v w->solid v=true->Q w s'):wpAny (model T.prog T.w) A (call (.builtin "dict.pop") [.ref a,.str (i3 k) t,.none]) Q E s:=by
 cases e:f k with
 |some v=>exact EL tk c ha q (PySem.F.args_dict_pop_3 _ _ _) (.inr ⟨_,rfl⟩) e fun w s'=>kk v w s' (by rw[e];rfl)
 |none=>exact match q with|⟨kws,hd,hs,r,u⟩=>EM hd hs (r k |> fun z=>(e▸z).aS) (kk .none .none _ (by rw[e];rfl) (i4.Z7 (h':=s.heap) (o':=.map (t9 f k none)) c ha ⟨rfl,fun J J=>rfl⟩ ⟨_,hd,hs,dX r fun q=>by
  by_cases z:q=i3 k
  ·rw[OB z,z];exact(e▸r k).aS
  ·rw[OC z],u⟩) (.G3 _ _ .none) rfl)
theorem vd {bad:Addr->Prop} {ds:List (Txt×V)} {es:List (Str×Value)} (y:J9 T U bad h i3 ds es):∀{f:Txt->Option V} {kws:List (Str×Value)},ds.all (fun p=>T.univ.any (r5 p.1))=true->(∀k,B0 T U bad h (f k) (valueAt kws (i3 k)))->(∀p∈kws,∃k∈T.univ,p.1=i3 k)->
 (∀k,B0 T U bad h (putAll f ds k) (valueAt (merged kws es) (i3 k)))∧∀p∈merged kws es,∃k∈T.univ,p.1=i3 k:=
 y.aO (Q:=fun ds es=>∀{f:Txt->Option V} {kws:List (Str×Value)},ds.all (fun p=>T.univ.any (r5 p.1))=true->(∀k,B0 T U bad h (f k) (valueAt kws (i3 k)))->(∀p∈kws,∃k∈T.univ,p.1=i3 k)->
  (∀k,B0 T U bad h (putAll f ds k) (valueAt (merged kws es) (i3 k)))∧∀p∈merged kws es,∃k∈T.univ,p.1=i3 k) (fun J r u=>⟨r,u⟩) fun p w ds es g a J ih J J hu r u=>a7 hu fun h1 h2=>ih h2 (xy r g a) fun p hp=>(cT hp).elim (fun e=>match List.any_eq_true.mp h1 with|⟨u,hu,e2⟩=>⟨u,hu,e.trans (Oh i3 (D0.mp e2))⟩) fun⟨q,hq,e⟩=>e▸u q hq
theorem tD {i:Lu T P W U s c7 d7 s' A vs ws} {l mm:Nat} {G:Prop} (ha:d7[l]? =some a) (h:(nY P.univ (.loc l) mm vs c7).c4 (KV T W U s Q) (XV T W U s E)) (k1:∀xs,MD T W d7 s'.heap a xs->(Em l xs mm vs c7).c4 (KV T W U s Q) (XV T W U s E)->G)
 (k2:∀f,Ie T W d7 s'.heap a f->(Jp P.univ l f mm vs c7).c4 (KV T W U s Q) (XV T W U s E)->G) (k3:ME s'.heap a->(Jq mm vs c7).c4 (KV T W U s Q) (XV T W U s E)->G):G:=
 w7 h (fun h=>a9 h fun l' el h=>a9 h fun ob eo h=>by
  cases el
  exact i.out.rel.at eo fun a' ha' q=>by
   obtain rfl:=NX (ha'.symm.trans ha)
   exact w7 h (fun h=>a9 h fun xs ex h=>by rw[N8 ex]at q;exact k1 xs q h) fun h=>w7 h (fun h=>a9 h fun f ef h=>by rw[H5 ef]at q;exact k2 f q h) fun h=>a9 h fun J ef h=>by rw[W8 ef]at q;exact k3 q h) fun h=>False.elim h
theorem yX {l:Nat}:Z3 T P (.loc l) w aY "list.append":=fun{W U s c7 d7 s' A vs ws Q E} i hv h=>VR.A8 (G:=fun w=>wpAny _ _ (call _ (w::ws)) _ _ _) hv fun a ha=>tD (i:=i) ha h (fun xs q h=>q8 h fun g h=>a7 g fun J g=>a9 h fun v ev h=>a0 ev fun u eu ev=>i.uD.one (G:=fun ws=>wpAny _ _ (call _ (_::ws)) _ _ _) eu fun wu hu=>match q with
 |⟨us,⟨n,ho⟩,q⟩=>append_at (hsz:=by rw[Ou,q.length];exact u7 g) ho fun h' hs' ho'=>
  have ms:=Z6 (T:=T) (W:=W) ha hs'
  h.nothing i.out (i4.Z7 (o':=.list (xs++[v])) (t:=s'.toks) i.out.rel ha hs' ⟨us++[wu],⟨n+1,ho'.trans (Oh (fun x=>some ({cls:=.type "list",data:=.seq x (n+1)}:Obj)) (List.push_toArray us wu))⟩,(q.ms ms).append (.cons _ _ _ _ (C1 ev hu).1 ((C1 ev hu).2.ms ms) .nil)⟩)) (fun f J h=>False.elim h) fun J h=>False.elim h
theorem Jo {l:Nat}:Z3 T P (.loc l) w fN "dict.get":=fun{W U s c7 d7 s' A vs ws Q E} i hv h=>VR.A8 (G:=fun w=>wpAny _ _ (call _ (w::ws)) _ _ _) hv fun a ha=>tD (i:=i) ha h (fun J J h=>False.elim h)
 (fun f q h=>a9 h fun k ek h=>ke (G:=fun ws=>wpAny _ _ (call _ (_::ws)) _ _ _) i.uD ek fun t J=>match q with|⟨kws,hd,hs,r,_⟩=>Hw hd hs (IY (bad:=k9 T W d7) i.out.rel (r k) (h.step i.out)))
 fun q h=>a9 h fun k ek h=>ke (G:=fun ws=>wpAny _ _ (call _ (_::ws)) _ _ _) i.uD ek fun t J=>match q with|⟨n,hs,ho⟩=>Hw (v3 _ ho) hs (h.nothing i.out (i4.toks i.out.rel))
theorem Jn (tk:E4 T P) {l:Nat}:Z3 T P (.loc l) w qX "dict.pop":=fun{W U s c7 d7 s' A vs ws Q E} i hv h=>VR.A8 (G:=fun w=>wpAny _ _ (call _ (w::ws)) _ _ _) hv fun a ha=>tD (i:=i) ha h (fun J J h=>False.elim h)
 (fun f q h=>w7 h (fun h=>a9 h fun k ek h=>a9 h fun v ev h=>ke (G:=fun ws=>wpAny _ _ (call _ (_::ws)) _ _ _) i.uD ek fun t J=>EL tk i.out.rel ha q (PySem.F.args_dict_pop_2 _ _) (.inl rfl) ev fun w s'' o r g=>h.put i.out o r g)
  fun h=>a9 h fun k ek h=>mV (G:=fun ws=>wpAny _ _ (call _ (_::ws)) _ _ _) i.uD ek fun t J=>Ka tk i.out.rel ha q fun v w s'' e o r g=>KV.put i.out (e▸h) o r g)
 fun q h=>a9 h fun k ek h=>mV (G:=fun ws=>wpAny _ _ (call _ (_::ws)) _ _ _) i.uD ek fun t J=>match q with|⟨n,hs,ho⟩=>EM (v3 _ ho) hs rfl (h.nothing i.out (i4.toks i.out.rel))
theorem yU (tk:E4 T P) {l:Nat}:Z3 T P (.loc l) w aW "dict.update":=fun{W U s c7 d7 s' A vs ws Q E} i hv h=>VR.A8 (G:=fun w=>wpAny _ _ (call _ (w::ws)) _ _ _) hv fun a ha=>tD (i:=i) ha h (fun J J h=>False.elim h)
 (fun f q h=>a9 h fun ds ek h=>q8 h fun g h=>a7 g fun g1 g2=>a0 ek fun v ev ek=>i.uD.one (G:=fun ws=>wpAny _ _ (call _ (_::ws)) _ _ _) ev fun w hw=>by
  rw[lS ek]at hw
  have hz:solid (.uf ds)=true∧VS T d7 (k9 T W d7) s'.heap (.uf ds) w:=C1 rfl hw
  exact hz.2.U3 rfl fun d qd nb=>qd.Ba fun es hd2 hs2 qd=>match q with
   |⟨kws,hd,hs,r,u⟩=>call_meetsIn PySem.F.slot_dict_update hd.typeIs PySem.F.entry_dict_update (PySem.F.args_dict_update_2 _ _) (meets_dict_update _ a d (fun k=>nb (k▸.inl (Q1 ha))) hs2) ⟨kws,es,hd,hd2,Oe (Nat.add_le_add (Oe (dR hd u) tk.small) (qd.len▸NY g1)) (Oe (by decide:1000+1000≤2000) (by rw[sizeLine_eq];decide)),fun h' hd' J hs'=>
    have ms:=Z6 (T:=T) (W:=W) ha hs'
    have z:=vd (qd.ms ms) (tk.fx▸g2) (fun k=>(r k).ms ms) u
    h.nothing i.out (i4.Z7 (o':=.map (putAll f ds)) (t:=s'.toks) i.out.rel ha hs' ⟨_,hd',hs,z.1,z.2⟩)⟩) fun J h=>False.elim h
inductive Fg (T:i7) (W:r9) (U:List Addr) (h:Heap) (as:List Addr) (v:V):Value->Prop
 |mk (a:Addr) (m:a∈as) (o:a∈W.own) (q:M0 T W U h a v):Fg T W U h as v (.ref a)
theorem J5.at {as:List Addr} (x:J5 T W U h vs ws as):∀{i:Nat} {v:V} {w:Value},vs[i]? =some v->ws[i]? =some w->made v=true->Fg T W U h as v w:=by
 induction x with
 |nil=>exact fun e=>nomatch e
 |plain v w vs ws as hm _ _ ih=>
  intro i v w e1 e2 hm'
  induction i with
  |zero=>cases e1;exact Bool.noConfusion (hm.symm.trans hm')
  |succ i=>exact ih e1 e2 hm'
 |own v a vs ws as ha q _ ih=>
  intro i v w e1 e2 hm'
  induction i with
  |zero=>cases e1;cases e2;exact⟨a,.head _,ha,q⟩
  |succ i=>exact match ih e1 e2 hm' with|⟨a,m,o,q⟩=>⟨a,.tail _ m,o,q⟩
theorem Ds {kvs:List (Txt×V)} {ov:V} {G:V->Prop} (e:ents ov=some kvs) (k1:G (.uf kvs)) (k2:G (.E1 kvs)) (k3:G (.Z9 kvs)):G ov:=by
 cases ov with
 |uf=>cases e;exact k1
 |E1=>cases e;exact k2
 |Z9=>cases e;exact k3
 |_=>exact ns e
theorem Dt {xs:List V} {ov:V} {G:V->Prop} (e:E2 ov=some xs) (k1:G (.lst xs)) (k2:G (.g6 xs)) (k3:G (.snap xs)):G ov:=by
 cases ov with
 |lst=>cases e;exact k1
 |g6=>cases e;exact k2
 |snap=>cases e;exact k3
 |_=>exact ns e
theorem Gw {kvs:List (Txt×V)} {ov:V} (ek:ents ov=some kvs):Z3 T P ov w fN "dict.get":=fun{W U s c7 d7 s' A vs ws Q E} i hv h=>by
 have h:(b8 40 (Jr kvs vs) c7).c4 (KV T W U s Q) (XV T W U s E):=Ds (G:=fun ov=>(nY P.univ ov fN vs c7).c4 (KV T W U s Q) (XV T W U s E)->_) ek id id id h
 refine VR.U3 (G:=fun w=>wpAny _ _ (call _ (w::ws)) _ _ _) hv ek fun a d=>d.Ba fun kws hd hs q=>w0 h fun r er hq=>i0 er (fun er=>a0 er fun u eu er=>d8 er fun k ek er=>i.uD.one (G:=fun ws=>wpAny _ _ (call _ (_::ws)) _ _ _) eu fun wu hu=>n8 hu ek fun t J=>
  Hw hd hs (IY (bad:=k9 T W d7) i.out.rel (q.look D1 k) (KV.step i.out (er▸hq)))) fun er=>a0 er fun u eu er=>d8 er fun k ek2 erk=>?_
 have hx:=i.Ca
 refine i.uD.two (G:=fun ws=>hM T W U s c7 d7 s' vs ws->wpAny _ _ (call _ (_::ws)) _ _ _) eu (fun wk wd hk hw=>n8 hk ek2 fun t J hx=>Kf hd hs ?_) hx
 have l:=q.look D1 k
 cases e:R8 r5 kvs k with
 |some v=>rw[e]at l;exact B0.W6 l fun w ew g a=>ew▸KV.vs i.out.rel a g (KV.step i.out ((erk.symm.trans (Oh (fun o=>Option.getD o u.2) e):r=v)▸hq))
 |none=>
  rw[e]at l
  rw[l.aS]
  exact((erk.symm.trans (Oh (fun o=>Option.getD o u.2) e):r=u.2)▸hq) wd _ _ (i.out.trans (i4.toks i.out.rel)) hw fun hm=>match hx with
   |⟨W',as,g,hr,z,nd,nw⟩=>match wd,z.at (i:=1) (v:=u.2) (by rw[two1_eq eu];rfl) rfl hm with|_,⟨b,m,o,qb⟩=>⟨b,W',nw b m,g,o,hr,qb⟩
end
theorem oi {sep:Txt} {ts:List Txt}:Str.join (i3 sep) (ts.map i3)=i3 (gb sep ts):=by
 induction ts with
 |nil=>rfl
 |cons s r ih=>induction r with
  |nil=>rfl
  |cons t r=>exact(Oh (i3 s++i3 sep++ ·) ih).trans (by rw[Z5,Z5];rfl)
theorem oj {sep:Txt} (hs:t6 sep=true) {ts:List Txt}:ts.all t6=true->t6 (gb sep ts)=true:=by
 induction ts with
 |nil=>exact fun J=>rfl
 |cons s r ih=>
  refine fun h=>a7 h fun h1 h2=>?_
  induction r with
  |nil=>exact h1
  |cons t r=>exact R2 (R2 h1 hs) (ih h2)
variable {bad:Addr->Prop}
section
inductive MB (ws:List Value) (ts:List Txt):Prop
 |mk (l:List (Str×Tok)) (e:ws=strValues l) (e2:l.map (·.1)=ts.map i3) (a:ts.all t6=true)
theorem xO {xs:List V} {ws:List Value} (q:z1 T U bad h xs ws):∀ts,qo xs=some ts->MB ws ts:=
 q.aO (fun b e=>NX e▸⟨[],rfl,rfl,rfl⟩) fun v w vs ws g a q ih b e=>a0 e fun x ex e=>d8 e fun y ey e=>match ih y ey with
  |⟨l,e1,e2,al⟩=>n8 (.mk (f7:=bad) _ _ a) ex fun t ha=>e▸⟨(i3 x,t)::l,Oh (_:: ·) e1,Oh (_:: ·) e2,Bool.and_eq_true_iff.mpr ⟨ha,al⟩⟩
theorem CC {s0:Txt}:Z3 T P (.str s0) w fM "str.join":=fun{W U s c7 d7 s' A vs ws Q E} i hv h=>w7 h False.elim fun h=>w7 h (fun h=>a9 h fun sep es h=>q8 h fun g h=>w0 h fun r er h=>VR.n8 (G:=fun w=>wpAny _ _ (call _ (w::ws)) _ _ _) hv fun tk hs=>by
 obtain rfl:=NX es
 exact a0 er fun v ev er=>a0 er fun xs ex er=>a0 er fun ys ey er=>a0 er fun ts et er=>a0 er fun J gf er=>i9 er fun gz er=>i9 gf fun gf J=>i9 ey fun J ey=>i.uD.one (G:=fun ws=>wpAny _ _ (call _ (_::ws)) _ _ _) ev fun w hw=>VR.z0 hw ex fun a us lst J q=>by
  subst er;subst ey
  obtain⟨l,e1,e2,al⟩:=xO q ts et
  have tl:Builtin.Str.tooLong ((l.map (·.1)).toArray.foldl (· + ·.length+(i3 s0).length) 0)=false:=by
   rw[List.foldl_toArray' _ _ _ rfl,e2,List.foldl_map]
   exact decide_eq_false (Nat.not_lt.mpr (u7 gf))
  refine call_meets PySem.F.slot_str_join (typeIs_str s' _ tk) PySem.F.entry_str_join (PySem.F.args_str_join_2 _ _) (meets_str_join_list (i3 s0) tk a l tl) ⟨e1▸lst.list,?_⟩
  have h:=h.step i.out
  have ha:=oj hs al
  have eg:Builtin.Str.glued (i3 s0) (l.map (·.1))=i3 (gb s0 ts):=by rw[StrLaws.glued_eq_join,e2,oi]
  have big:(Made.str (Builtin.Str.glued (i3 s0) (l.map (·.1)))).post (fun v s'=>wants Q E (.ok (.ret v)) s') s':=by rw[eg];exact⟨u7 gz,KV.str i.out.rel ha h⟩
  induction l with
  |nil=>exact big
  |cons p l=>induction l with
   |cons=>exact big
   |nil=>
    have e:p.1=i3 (gb s0 ts):=oi (sep:=s0) (ts:=ts)▸e2▸rfl
    show Q (.str p.1 p.2) _
    rw[e]
    exact KV.str i.out.rel ha h) False.elim
theorem CY {d:D} {ds:List D}:∀{j k:Nat},CZ d j ds=some k->∃i,k=j+i∧(ds.map fun y=>jC y d)[i]? =some true∧∀m,m < i->(ds.map fun y=>jC y d)[m]? =some false:=by
 induction ds with
 |nil=>exact fun e=>nomatch e
 |cons x r ih=>
  intro j k e
  have e:(bif jC x d then some j else CZ d (j+1) r)=some k:=e
  induction hb:jC x d with
  |true=>rw[hb]at e;cases e;exact⟨0,rfl,Oh some hb,fun m h=>nomatch h⟩
  |false=>
   rw[hb]at e
   obtain⟨i,h1,h2,h3⟩:=ih e
   refine⟨i+1,by rw[h1,Nat.add_assoc,Nat.add_comm 1],h2,fun m hm=>?_⟩
   induction m with
   |zero=>exact Oh some hb
   |succ m=>exact h3 m (Nat.lt_of_succ_lt_succ hm)
structure MG (e:Value->Bool) (ws:List Value) (k:Nat):Prop where
 lt:k < ws.toArray.size
 hit:e ws.toArray[k]=true
 no:∀m (hm:m < ws.toArray.size),m < k->e ws.toArray[m]=false
theorem yS {e:Value->Bool} {ws:List Value} {m:Nat} {b:Bool} (q:(ws.map e)[m]? =some b) (hm:m < ws.toArray.size):e ws.toArray[m]=b:=by
 rw[OA,Ol (show m < ws.length from hm)]at q
 exact NX q
theorem zD {xs:List V} {us:List Value} {wv:Value} {k:Nat} (q:z1 T U bad s.heap xs us) (hv:VR T U bad (pS T W U) s.heap v wv) (e:EA v xs=some k) (hu:A.units+30 < cLine):∃f,MG f us k∧∀y,y∈us.toArray->SeqAt.EqAt A.in1 s y wv (f y):=
 a0 e fun d ed e=>a0 e fun ds es e=>match CY e with
  |⟨i,h1,h2,h3⟩=>by
   obtain rfl:k=i:=h1.trans (Nat.zero_add i)
   have z:=mf (A:=A.in1) es ed q hv (Ot (Oj (by decide:21≤30) A.units) hu)
   rw[←z.1]at h2 h3
   have lt:k < us.length:=by have:=(List.getElem?_eq_some_iff.mp h2).1;rwa [Oi]at this
   exact⟨_,⟨lt,yS h2 lt,fun m hm hk=>yS (h3 m hk) hm⟩,fun y hy=>z.2 y (List.mem_toArray.mp hy)⟩
theorem yW {xs:List V} {ov:V} (ek:E2 ov=some xs):Z3 T P ov w N3 "list.index":=fun{W U s c7 d7 s' A vs ws Q E} i hv h=>by
 have h:(cV (bif Nat.beq N3 N3&&Nat.ble xs.length 1000 then b8 37 (rg xs vs) c7 else .no 39) (.no 42:R V)).c4 (KV T W U s Q) (XV T W U s E):=Dt (G:=fun ov=>(nY P.univ ov N3 vs c7).c4 (KV T W U s Q) (XV T W U s E)->_) ek id id id h
 have h:=w7 h id False.elim
 exact VR.z0 (G:=fun w=>wpAny _ _ (call _ (w::ws)) _ _ _) hv ek fun a us l J q=>q8 h fun g h=>w0 h fun r er h=>a0 er fun v ev er=>d8 er fun k ek er=>i.uD.one (G:=fun ws=>wpAny _ _ (call _ (_::ws)) _ _ _) ev fun wv hw=>match zD q hw ek i.hu with
  |⟨f,z,y⟩=>l.elim fun j ho=>call_meets PySem.F.slot_list_index l.list.typeIs PySem.F.entry_list_index (PySem.F.args_list_index_2 _ _) (SeqAt.list_indexAt a us.toArray j none #[] wv f k z.lt (Int.ofNat_lt.mpr (Nat.lt_of_lt_of_le z.lt (Oe (Nat.le_of_eq q.length) (Oe (NY g) (by decide)))):(k:Int) < 2 ^ 63 - 1) z.hit z.no) ⟨ho,y,KV.int i.out.rel (h.step i.out |> fun h=>er▸h)⟩
end
theorem du:typeOf (.builtin "bytes.join")=pure (.type "method_descriptor"):=by show builtinType _=_;rw[builtinType_eq_fast];rfl'
theorem I3:Slot "bytes" "join" "bytes.join":=
 .of (owner:="bytes") (n:="join") (by rw[typeLookup_type,builtinLookup_eq_fast];rfl') (by decide+kernel) (by decide+kernel) (by decide+kernel)
  (by first|exact .inl (by decide+kernel)|exact .inr (by decide+kernel)) (by rw[isSubtype_type];rfl')
theorem O9:entryFor table "bytes.join"=some Builtin.«bytes.join»:=entryFor_of_tree (by rfl')
theorem S2 (a b:Value):argsOk "bytes.join" ⟨[a,b],[]⟩:=by unfold argsOk;rfl'
open Builtin in
theorem BA {b:Array UInt8} {t:Tok} {id:String}:Bytes.takeBuffer? id (.bytes b t) 0=pure (some (b,none)):=by
 unfold Bytes.takeBuffer?
 rw[KBy.special_eq KBy.look_buffer,KBy.own_buffer]
 simp only[pure_bind]
 have e:((0:Int)== Bytes.fullReadOnly)=false:=by decide
 rw[e,KBy.buffer_eq]
 rfl
open Builtin in
theorem xQ {b:Array UInt8} {t:Tok} {id:String}:Bytes.takeBufferQuiet? id (.bytes b t) 0=pure (some (b,none)):=by
 unfold Bytes.takeBufferQuiet?
 rw[BA]
 rfl
section
inductive F9:List Value->List (Array UInt8)->Prop
 |nil:F9 [] []
 |cons (b:Array UInt8) (t:Tok) (vs:List Value) (bs:List (Array UInt8)):F9 vs bs->F9 (.bytes b t::vs) (b::bs)
theorem F9.len {vs:List Value} {bs:List (Array UInt8)} (x:F9 vs bs):vs.length=bs.length:=by
 induction x with
 |nil=>rfl
 |cons _ _ _ _ _ ih=>rw[List.length_cons,List.length_cons,ih]
theorem F9.at {vs:List Value} {bs:List (Array UInt8)} (x:F9 vs bs):∀{i:Nat},i < vs.length->∃b t,vs[i]? =some (.bytes b t)∧bs[i]? =some b:=by
 induction x with
 |nil=>intro i h;cases h
 |cons b t _ _ _ ih=>
  intro i h
  induction i with
  |zero=>exact⟨b,t,rfl,rfl⟩
  |succ i=>exact ih (Nat.lt_of_succ_lt_succ h)
theorem F9.not {vs:List Value} {bs:List (Array UInt8)} (x:F9 vs bs):∀v,v∈vs->v.onHeap=false:=by
 induction x with
 |nil=>intro v h;cases h
 |cons b t _ _ _ ih=>
  intro v h
  rcases Of h with rfl|h
  ·rfl
  ·exact ih v h
theorem subs_1 {n i:Nat} (h:i < n):n - i=(n - (i+1))+1:=(Nat.sub_add_cancel (Nat.sub_pos_of_lt h)).symm
theorem range_step {n i x:Nat} {rest:List Nat} (h:i < n) (hr:x::rest=List.range' i (n - i)):x=i∧rest=List.range' (i+1) (n - (i+1)):=by
 rw[subs_1 h,List.range'_succ]at hr
 exact List.cons.inj hr
theorem range_not {n i:Nat} (h:i < n) (hr:([]:List Nat)=List.range' i (n - i)):False:=by
 rw[subs_1 h,List.range'_succ]at hr
 exact nomatch hr
theorem range_lt {n i x:Nat} {rest:List Nat} (hr:x::rest=List.range' i (n - i)):i < n:=by
 rcases Nat.lt_or_ge i n with h|h
 ·exact h
 ·rw[Nat.sub_eq_zero_of_le h]at hr;exact nomatch hr
theorem jf {M:Model} {Q:Unit->Shared->Prop}:∀(l:List (Value×Option Value)) {keep:List Value} {s:Shared},(∀p,p∈l->p.2=none)->Q () s->wpAny M A (Builtin.Bytes.joinLetGo l keep) Q E s
 | [],keep,s,_,h=>NW h
 |(x,w)::rest,keep,s,hn,h=>by
  have:w=none:=hn (x,w) (.head _)
  subst this
  unfold Builtin.Bytes.joinLetGo
  dsimp only
  exact NU (wpAny_letGo (jf rest (fun p hp=>hn p (.tail _ hp)) h))
theorem Cq {α:Type} {M:Model} {arr:Array Value} {f:Value->Sem α} {g:Sem α} {Q:α->Shared->Prop} (h:arr.size≠1) (k:wpAny M A g Q E s):wpAny M A (match arr with| #[x]=>f x|_=>g) Q E s:=by
 obtain⟨l⟩:=arr
 match l,h with
 | [],_=>exact k
 | [_],h=>exact absurd rfl h
 |_::_::_,_=>exact k
theorem vF {prog:Program} {w:World} {a:Addr} {arr:Array Value} {ws:List Value} {bs:List (Array UInt8)} {t:Tok} {k:Nat} (harr:arr=ws.toArray) (ho:s.heap.get? a=some {cls:=.type "list",data:=.seq arr k}) (hb:F9 ws bs) (hz:bs.length≠1) (hs:bs.foldl (fun x b=>x+b.size) 0≤1000) (hj:(Builtin.Bytes.joined #[] bs).size≤1000) (h:∀u t,Q (.bytes (Builtin.Bytes.joined #[] bs) t) {s with toks:=u}):
 wpAny (model prog w) A (Builtin.«bytes.join» ⟨[.bytes #[] t,.ref a],[]⟩) (fun U1 s'=>∃r,U1=.done (.ret r)∧Q r s') E s:=by
 show wpAny _ _ (Builtin.Bytes.joinM .bytes ⟨[.bytes #[] t,.ref a],[]⟩) _ _ _
 unfold Builtin.Bytes.joinM
 refine NU (NW ?_)
 dsimp only
 have hT:s.TypeIs (.ref a) "list":=⟨_,ho,rfl⟩
 refine bm_if_true rfl (NU ?_)
 unfold Builtin.Bytes.joinItems
 refine NU (wpAny_typeOf hT ?_)
 refine bm_if_true (by decide) (NW (NU ?_))
 have items:∀{Q:Option (Array Value)->Shared->Prop} {E:Value->Shared->Prop},Q (some arr) s->wpAny (model prog w) A (seqItems? (.ref a)) Q E s:=fun{Q E} q=>by
  unfold seqItems?
  refine NU (wpAny_load ho ?_)
  exact NW q
 refine items ?_
 dsimp only
 refine bm_if_true rfl ?_
 have hlen:=hb.len
 have hsz:arr.size=ws.length:=by rw[harr,Ou]
 refine Cq (by rw[hsz,hlen];exact hz) ?_
 ·rw[hsz]
  rw[Std.Legacy.Range.forIn_eq_forIn_range']
  simp only[Std.Legacy.Range.size,Nat.sub_zero,Nat.add_sub_cancel,Nat.div_one]
  refine NU (wpAny_forIn_list _ (fun rest b s'=>∃i,rest=List.range' i (ws.length - i)∧i≤ws.length∧b=((bs.take i).toArray,(ws.take i).map fun v=>(v,(none:Option Value)))∧s'=s) _ ?_ ?_ _ _ ⟨0,by simp,Nat.zero_le _,by simp,rfl⟩)
  ·rintro x rest b s' ⟨i,hr,hi,rfl,rfl⟩
   have hlt:i < ws.length:=range_lt hr
   obtain⟨rfl,hrest⟩:=range_step hlt hr
   obtain⟨bb,tt,hw,hbb⟩:=hb.at hlt
   refine NU (items ?_)
   dsimp only
   have hany:((ws.take x).map fun v=>(v,(none:Option Value))).any (fun x=>x.fst.onHeap)=false:=by
    rw[List.any_map,List.any_eq_false]
    intro v hv
    have:=hb.not v (List.mem_of_mem_take hv)
    simpa using this
   have hget:arr.getD x .none=.bytes bb tt:=by
    rw[harr,Array.getD_eq_getD_getElem?]
    simp[hw]
   refine bm_if_false (by rw[hany];rfl) ?_
   rw[hget]
   refine NU (Oo (wpAny_of_eq xQ ?_))
   dsimp only
   refine NU (items ?_)
   dsimp only
   refine bm_if_false (by rw[hsz];simp) ?_
   refine NW ⟨x+1,by rw[hrest],hlt,?_,rfl⟩
   rw[List.take_add_one,List.take_add_one,hw,hbb]
   simp
  ·rintro b s' ⟨i,hr,hi,rfl,rfl⟩
   have hi':i=ws.length:=(Nat.lt_or_ge i ws.length).elim (fun h=>(range_not h hr).elim) fun h=>Nat.le_antisymm hi h
   subst hi'
   have e1:bs.take ws.length=bs:=by rw[hlen];exact List.take_length
   rw[e1,List.take_length]
   refine NU (NU (NW (NW ?_)))
   dsimp only
   refine bm_if_false ?_ ?_
   ·unfold Builtin.Bytes.tooLong
    refine decide_eq_false (Nat.not_lt.mpr ?_)
    rw[List.foldl_toArray']
    case h=>rfl
    refine Oe (Nat.le_of_eq ?_) (bp hs)
    congr 1
    simp
   ·refine NU (wpAny_mkBytes ?_ (bp hj))
    refine NU (Oo (wpAny_point (NU (jf (ws.map fun v=>(v,(none:Option Value))) (fun p hp=>?_) ?_))))
    ·obtain⟨v,_,rfl⟩:=List.mem_map.mp hp;rfl
    ·exact NW ⟨_,rfl,h _ _⟩
theorem rj {prog:Program} {w:World} {a:Addr} {b:Array UInt8} {t u:Tok} {k:Nat} (ho:s.heap.get? a=some {cls:=.type "list",data:=.seq #[.bytes b u] k}) (h:Q (.bytes b u) s):
 wpAny (model prog w) A (Builtin.«bytes.join» ⟨[.bytes #[] t,.ref a],[]⟩) (fun U1 s'=>∃r,U1=.done (.ret r)∧Q r s') E s:=by
 show wpAny _ _ (Builtin.Bytes.joinM .bytes ⟨[.bytes #[] t,.ref a],[]⟩) _ _ _
 unfold Builtin.Bytes.joinM
 refine NU (NW ?_)
 dsimp only
 have hT:s.TypeIs (.ref a) "list":=⟨_,ho,rfl⟩
 refine bm_if_true rfl (NU ?_)
 unfold Builtin.Bytes.joinItems
 refine NU (wpAny_typeOf hT ?_)
 refine bm_if_true (by decide) (NW (NU ?_))
 unfold seqItems?
 refine NU (wpAny_load ho ?_)
 refine NW ?_
 dsimp only
 refine bm_if_true rfl ?_
 show wpAny _ _ (typeOf (.bytes b u) >>= fun z=>if(z == Value.type "bytes")=true then _ else _) _ _ _
 refine NU (wpAny_typeOf (PySem.W.typeIs_bytes _ _ _) ?_)
 exact bm_if_true (by decide) (NU (wpAny_rule (NW ⟨_,rfl,h⟩)))
inductive KD (ws:List Value) (n:Nat) (ts:List (List Nat)):Prop
 |mk (bs:List (Array UInt8)) (h:F9 ws bs) (e:bs.map (fun b=>b.toList.map UInt8.toNat)=ts)
theorem Ck {xs:List V} {ws:List Value} (q:z1 T U bad h xs ws):∀ts,lH xs=some ts->KD ws xs.length ts:=
 q.aO (fun b e=>NX e▸⟨[],.nil,rfl⟩) fun v w vs ws g a q ih b e=>a0 e fun x ex e=>d8 e fun y ey e=>match ih y ey with
  |⟨bs,h1,h2⟩=>F5 (.mk (f7:=bad) _ _ a) ex fun ar t ha=>e▸⟨ar::bs,.cons ar t _ _ h1,(congr (Oh List.cons ha) h2:_=_)⟩
theorem ri {bs:List (Array UInt8)}:∀{k:Nat} {acc:Array UInt8},((bs.zipIdx k).foldl (fun out (p,i)=>(if i > 0 then out++(#[]:Array UInt8)else out)++p) acc).toList=acc.toList++(bs.map Array.toList).flatten:=by
 induction bs with
 |nil=>exact(Ox _).symm
 |cons b bs ih=>
  intro k acc
  rw[List.zipIdx_cons,List.foldl_cons,ih,Array.toList_append,show(if k > 0 then acc++(#[]:Array UInt8)else acc)=acc by rw[Array.append_empty];exact ite_self _,List.append_assoc];rfl
theorem qw {bs:List (Array UInt8)}:∀{k:Nat},bs.foldl (fun x b=>x+b.size) k=k+(bs.map Array.toList).flatten.length:=by
 induction bs with
 |nil=>exact rfl
 |cons b bs ih=>intro k;rw[List.foldl_cons,ih,List.map_cons,List.flatten_cons,List.length_append,Nat.add_assoc];rfl
theorem oE (bs:List (Array UInt8)):(bs.map fun b=>b.toList.map UInt8.toNat).flatten=((bs.map Array.toList).flatten).map UInt8.toNat:=by
 rw[List.map_flatten,List.map_map];rfl
theorem tY {bs:List (Array UInt8)} {ts:List (List Nat)} (e:bs.map (fun b=>b.toList.map UInt8.toNat)=ts) {c:Array UInt8} (k:c.toList=(bs.map Array.toList).flatten):c.toList.map UInt8.toNat=ts.flatten:=by rw[k,←e,oE]
theorem CD {b0:List Nat}:Z3 T P (.bytes b0) w fM "bytes.join":=fun{W U s c7 d7 s' A vs ws Q E} i hv h=>w7 h False.elim fun h=>w7 h False.elim fun h=>w7 h (fun h=>a9 h fun sp es h=>q8 h fun g h=>a7 g fun J g=>w0 h fun r er h=>VR.F5 (G:=fun w=>wpAny _ _ (call _ (w::ws)) _ _ _) hv fun b tk hb=>by
 obtain rfl:b= #[]:=Array.toList_inj.mp (List.map_eq_nil_iff.mp (hb.trans ((NX es:b0=sp).trans (List.isEmpty_iff.mp g))))
 exact a0 er fun v ev er=>a0 er fun xs ex er=>a0 er fun ys ey er=>a0 er fun ts et er=>i9 er fun gz er=>i9 ey fun J ey=>i.uD.one (G:=fun ws=>wpAny _ _ (call _ (_::ws)) _ _ _) ev fun w hw=>VR.z0 hw ex fun a us ⟨j,ho⟩ J q=>by
  subst er;subst ey
  obtain⟨bs,h1,h2⟩:=Ck q ts et
  have hT:=PySem.W.typeIs_bytes s' #[] tk
  have h:=h.step i.out
  have hlen:(bs.map Array.toList).flatten.length≤1000:=by rw[←Oi (f:=UInt8.toNat),←oE,h2];exact NY gz
  by_cases h1':bs.length=1
  ·induction h1 with
   |nil=>cases h1'
   |cons b u _ bs h1=>induction h1 with
    |cons=>cases h1'
    |nil=>exact call_meetsIn I3 hT O9 (S2 _ _) (S:=fun J R s=>s.heap.get? a=some {cls:=.type "list",data:=.seq #[.bytes b u] j}∧R (.ok (.ret (.bytes b u))) s) (.of_wp fun A R s h=>rj (Q:=fun v s'=>R (.ok (.ret v)) s') h.1 h.2) ⟨ho,KV.G3 i.out.rel (.bytes _ b u (tY h2 (Ox _).symm)) rfl h (k:=s'.toks)⟩
  ·have ej:(Builtin.Bytes.joined #[] bs).toList=(bs.map Array.toList).flatten:=(ri (k:=0) (acc:=#[])).trans (List.nil_append _)
   exact call_meetsIn I3 hT O9 (S2 _ _) (S:=fun J R s=>s.heap.get? a=some {cls:=.type "list",data:=.seq us.toArray j}∧∀u t,R (.ok (.ret (.bytes (Builtin.Bytes.joined #[] bs) t))) {s with toks:=u})
    (.of_wp fun A R s h=>vF (Q:=fun v s'=>R (.ok (.ret v)) s') rfl h.1 h1 h1' (by rw[qw,Nat.zero_add];exact hlen) (by rw[←Array.length_toList,ej];exact hlen) h.2) ⟨ho,fun u t'=>KV.G3 i.out.rel (.bytes _ _ t' (tY h2 ej)) rfl h⟩) False.elim
theorem mM {prog:Program} {w:World} {a:Addr} {arr:Array Value} {x:Value} {e:Value->Bool} {j k:Nat} (ho:s.heap.get? a=some {cls:=.type "tuple",data:=.seq arr k}) (he:∀y,y∈arr->SeqAt.EqAt A s y x (e y)) (hj:j < arr.size) (hit:e arr[j]=true) (hno:∀m (hm:m < arr.size),m < j->e arr[m]=false) (h:Q (.int (j:Int) s.toks) {s with toks:=s.toks+1}):
 wpAny (model prog w) A (Builtin.«tuple.index» ⟨[.ref a,x],[]⟩) (fun U1 s'=>∃r,U1=.done (.ret r)∧Q r s') E s:=by
 unfold Builtin.«tuple.index»
 refine NU (NW ?_)
 dsimp only
 refine NU ?_
 unfold Builtin.Tuple.tupleItemsOf seqItems?
 refine NU (NU (wpAny_load ho ?_))
 refine NW (NW ?_)
 refine NU (NW (NU (NW ?_)))
 rw[Std.Legacy.Range.forIn_eq_forIn_range']
 simp only[Std.Legacy.Range.size,Nat.sub_zero,Nat.add_sub_cancel,Nat.div_one,Nat.min_self]
 refine NU (wpAny_forIn_list _ (fun rest b s'=>∃i,rest=List.range' i (arr.size - i)∧i≤j∧b=((none:Option Fin),())∧s'=s) _ ?_ ?_ _ _ ⟨0,by simp,Nat.zero_le _,rfl,rfl⟩)
 ·rintro y rest b s' ⟨i,hr,hi,rfl,rfl⟩
  have hlt:i < arr.size:=Ot hi hj
  obtain⟨rfl,hrest⟩:=range_step hlt hr
  rw[Array.getElem?_eq_getElem hlt]
  dsimp only
  refine NU (he _ (Array.getElem_mem hlt) prog w _ _ ?_)
  by_cases e1:y=j
  ·subst e1
   rw[hit]
   refine bm_if_true rfl (NU (NU (wpAny_mkInt (NW (NW ?_)))))
   exact NW ⟨_,rfl,h⟩
  ·rw[hno y hlt (Nat.lt_of_le_of_ne hi e1)]
   exact bm_if_false rfl (NW ⟨y+1,hrest,Nat.lt_of_le_of_ne hi e1,rfl,rfl⟩)
 ·rintro b s' ⟨i,hr,hi,rfl,rfl⟩
  exact(range_not (Ot hi hj) hr).elim
theorem yV {xs:List V}:Z3 T P (.tup xs) w N3 "tuple.index":=fun{W U s c7 d7 s' A vs ws Q E} i hv h=>w7 h False.elim fun h=>w7 h False.elim fun h=>w7 h False.elim fun h=>w7 h (fun h=>VR.E6 (G:=fun w=>wpAny _ _ (call _ (w::ws)) _ _ _) hv fun a us l J q=>q8 h fun g h=>w0 h fun r er h=>a0 er fun v ev er=>d8 er fun k ek er=>i.uD.one (G:=fun ws=>wpAny _ _ (call _ (_::ws)) _ _ _) ev fun wv hw=>match zD q hw ek i.hu with
 |⟨f,z,y⟩=>l.elim fun j ho=>call_meetsIn PySem.F.slot_tuple_index l.tup.typeIs PySem.F.entry_tuple_index (PySem.F.args_tuple_index_2 _ _) (S:=fun B R t=>t=s'∧B=A∧R (.ok (.ret (.int (k:Int) t.toks))) {t with toks:=t.toks+1})
  (.of_wp fun B R t h=>by
   obtain⟨rfl,rfl,hr⟩:=h
   exact mM (Q:=fun v s'=>R (.ok (.ret v)) s') (e:=f) (j:=k) ho y z.lt z.hit z.no hr) ⟨rfl,rfl,KV.int i.out.rel (h.step i.out |> fun h=>er▸h)⟩) False.elim
end
def SRun (T:i7) (n:Nat) (run:Nat->List V->Hp->R V):Prop:=
 ∀{W:r9} {A:Around} {U:List Addr} {Y:Hp} {s:Shared} {k:Nat} {a:Addr} {vs:List V} {ws:List Value} {Rz:Result->Shared->Prop},
  d9 T W U Y s.heap->Ar T W A n s.heap->T.fn k=some a->E3 T W U s.heap vs ws->(run k vs Y).c4 (KV T W U s fun v=>Rz (.ok (.ret v))) (XV T W U s fun e=>Rz (.error e))->codeAny (model T.prog T.w) A (.call (.ref a) ⟨ws,[]⟩) Rz s
def rz (Q E:Value->Shared->Prop) (r:Result) (s:Shared):Prop:=match r with|.ok (.ret v)=>Q v s|.ok _=>False|.error e=>E e s
theorem Ar.le {T:i7} {W:r9} {A:Around} {n k:Nat} {h:Heap} (a:Ar T W A n h) (l:k≤n):Ar T W A k h:=⟨a.handled,Oe (Oj (Nat.mul_le_mul_left 2 l) _) a.depth,Oe (Oj (Nat.mul_le_mul_left 20 l) _) a.units,a.frames⟩
theorem Ar.room {T:i7} {W:r9} {A:Around} {n:Nat} {h:Heap} (a:Ar T W A n h):N6 A n:=⟨a.depth,a.units⟩
theorem Ar.ext {T:i7} {W:r9} {U d7:List Addr} {s s':Shared} {A:Around} {n:Nat} (x:V3 T W U d7 s s') (a:Ar T W A n s.heap):Ar T W A n s'.heap:=a.mv (fun J q=>q) x.off fun b hb J o e d=>(x.slots b hb o e).elim fun sl e'=>⟨_,e',d⟩
variable {n:Nat} {r:Ev} {env:Env} {own:List (Nat×Addr)} {m:Fr}
section
variable {k:Nat}
theorem SRun.call {run:Nat->List V->Hp->R V} (h:SRun T n run) (c:d9 T W U Y s.heap) (ar:Ar T W A n s.heap) (ha:T.fn k=some a) (q:E3 T W U s.heap vs ws) (k:(run k vs Y).c4 (KV T W U s Q) (XV T W U s E)):wpAny (model T.prog T.w) A (PySem.call (.ref a) ws) Q E s:=
 wpAny_call (h (Rz:=rz Q E) c ar ha q k)
theorem iJ {xs:List Nat}:∀{vs:List V} {x:Nat} {v:V},d6 (Bl xs vs) x=some v->∃i:Nat,xs[i]? =some x∧vs[i]? =some v:=by
 induction xs with
 |nil=>exact fun e=>nomatch e
 |cons y ys ih=>
  intro vs x v e
  induction vs with
  |nil=>exact nomatch e
  |cons u us=>
   have e:(bif Nat.beq y x then some u else d6 (Bl ys us) x)=some v:=e
   induction h:Nat.beq y x with
   |true=>rw[h]at e;exact⟨0,Oh some (Om h),e⟩
   |false=>rw[h]at e;exact(ih e).elim fun i z=>⟨i+1,z.1,z.2⟩
theorem yk (tm:TM T P) (he:V1 T n r.Y9):SRun T (n+1) (ET P r):=by
 intro W A U Y s k a vs ws Rz c ar hk hv h
 refine a9 h fun fd ef h=>a9 h fun m em h=>i9 em fun g em=>a7 g fun g1 g2=>Q6 tm.toE4 (tm.fns k a fd hk ef) (own:=[]) (m:=m) c (ar.le (Nat.zero_le _)) (Oe (Oj (Nat.le_add_left 1 (2 * n+1)) A.depth) ar.depth) (Oe (Oj (Oe (by decide:3≤20) (Nat.le_add_left 20 (20 * n))) A.units) ar.units) (i4.refl c) s8.refl.v5 (fun a ha=>(c.o5.own a ha).ex) ar.frames (fun J J J q=>nomatch q) (fun J J q=>nomatch q)
  (hv.length▸NY g1) (hv.length▸NY g2) (fun x v e=>?_) fun env W1 s' body E en htr=>he (F:=⟨A.deeper env,env,W,U,s,[],[]⟩) (z:=⟨W1,[],U,s'⟩) ⟨ar.room.deeper,en.cn⟩ en.fs htr (R.c4.mono (R.d5.mp h) (fun p c7 k=>?_) en.exc)
 ·rw[←em,←hv.length]at e
  obtain⟨i,h1,h2⟩:=iJ e
  by_cases hi:i < vs.length
  ·rw[Oz hi]at h2
   exact hv.at h2 fun w hw g q=>.arg i w h1 hw (.pl v w g q)
  ·rw[List.getElem?_append_right (OD hi),←hv.length]at h2
   exact .dA (i - ws.length) (by rw[Nat.add_sub_cancel' (hv.length▸OD hi)];exact h1) h2
 ·obtain⟨fl,m'⟩:=p
  induction fl with
  |ret v=>exact k
  |next=>exact fun z f=>(show KV T W U s (fun v=>Rz (.ok (.ret v))) .none c7 from k) .none _ _ f.out (.mk _ _ (.G3 _ _ .none)) (G1.not rfl)
theorem uq (tm:TM T P) (hr:g7 T n r.ev) (hrun:SRun T n r.run) (c:Cx T W n A env own m U Y s) {es:List X} {es':List Ex} (t:Z2 T env.kindOf es es') {pos:Pos} (ha:T.fn k=some a) {first:List V} {fw:List Value} (hf:E3 T W U s.heap first fw)
 (h:((G7 r m es Y).bind fun vs Y=>r.run k (first++vs) Y).c4 (KV T W U s Q) (XV T W U s E)):wpAny (model T.prog T.w) A (callWith pos (.ref a) fw (backTo pos (starEach es' env)) (backToKw pos (keywordEach [] env))) Q E s:=
 bD tm.toE4 hr c t (keeps_K (tm.keep k a ha)) h fun vs c7 ws s' d7 o q h=>hrun.call o.rel (c.ar.ext o.ext) ha ((o.ext.Ip hf).append q) (c4.step o h fun J J q=>q.step o)
theorem fR {α:Type} {o:Option α} {u:Unit} (h:kB o=some u):o=none:=by
 induction o with
 |none=>rfl
 |some=>exact ns h
theorem iX (tm:TM T P) (c:d9 T W U Y s.heap) {cc mm:Nat} {C x dx:Addr} {pl:Sem Bool} {kws:List (Str×Value)} {Q:Value×List Value->Shared->Prop} (hC:T.cls cc=some C) (hm:ag P cc mm=some k) (hx:s.heap.get? x=some ⟨.ref C,some dx,.plain,#[]⟩) (hd:s.heap.DictOf (strKind T.prog T.w) dx kws) (hn:valueAt kws (T.nm mm)=none)
 (h:∀a,T.fn k=some a->Q (.ref a,[.ref x]) s):wpAny (model T.prog T.w) A (getMethod (.ref x) (T.nm mm) pl) Q E s:=match tm.l5 cc C mm k hC hm with
 |⟨a,ha,hg,hf,ht⟩=>(cu hd (T.nm mm)).elim fun od z=>method_fn (k7 tm.toE4 c) (C:=C) (ox:=⟨.ref C,some dx,.plain,#[]⟩) (od:=some od) ⟨hx,rfl,rfl,z.1⟩ (plainGet_of hg).1 (plainGet_of hg).2 hf (beq_iff_eq.mp ht) (show(lookIn (T.nm mm) od).map _=_ by rw[z.2,hn];rfl) (h a ha)
theorem vu (tm:TM T P) (c:d9 T W U Y s.heap) {o:V} {wo:Value} {cc mm:Nat} {pl:Sem Bool} {Q:Value×List Value->Shared->Prop} {u:Unit} (ho:C4 T W U s.heap o wo) (hc:gO o Y=some cc) (hm:ag P cc mm=some k) (hb:pD P o mm Y=some u) (h:∀a,T.fn k=some a->solid o=true->Q (.ref a,[wo]) s):wpAny (model T.prog T.w) A (getMethod wo (T.nm mm) pl) Q E s:=by
 revert h
 refine i0 hc (fun hc=>d8 hc fun q eq hc=>kf (G:=fun wo=>(∀a,T.fn k=some a->solid o=true->Q (.ref a,[wo]) s)->wpAny (model T.prog T.w) A (getMethod wo (T.nm mm) pl) Q E s) ho eq fun ad i h=>match i with
  |⟨C,dx,kws,hC,ha,_,hd,_,e1,r⟩=>?_) fun hc=>a0 hc fun i ei hc=>a0 hc fun ob eo hc=>d8 hc fun q eq hc=>i0 hb (fun hb=>a0 hb fun q eq J=>ns ((U9 ei▸eq:jP (.loc i)=some q))) fun hb=>a0 hb fun q' eq' hb=>a0 hb fun nm en hb=>a0 eq' fun i' ei' e=>a0 e fun ob' eo' e=>a0 e fun q2 eq2 e=>a0 e fun od ed e=>d8 e fun f ef e=>
   A8 (G:=fun wo=>(∀a,T.fn k=some a->solid o=true->Q (.ref a,[wo]) s)->wpAny (model T.prog T.w) A (getMethod wo (T.nm mm) pl) Q E s) ho ei fun ad ha h=>?_
 ·rw[pM eq]at hb h
  have l:=J9.look (key:=T.nm) (eq:=Nat.beq) (X1 tm.toE4) ⟨e1,r⟩ mm
  have e2:d6 q.2 mm=none:=i0 hb fR fun hb=>a0 hb fun J e J=>a0 e fun J e J=>ns e
  have l:B0 T U (k9 T W U) s.heap (d6 q.2 mm) _:=l
  rw[e2]at l
  exact iX tm c (hc▸hC) hm ha hd l.aS fun a ha=>h a ha rfl
 ·obtain rfl:=NX (ei'.symm.trans ei)
  obtain rfl:=NX (eo'.symm.trans eo)
  obtain rfl:=NX (eq2.symm.trans eq)
  subst e;subst hc
  refine c.at eo fun ad' ha' z=>?_
  rw[nO eq,NX (ha'.symm.trans ha)]at z
  obtain⟨C,dx,hC,hdx,g⟩:=z
  refine c.at ed fun dx' hd' z2=>?_
  rw[H5 ef,NX (hd'.symm.trans hdx)]at z2
  obtain⟨kws,d,_,r,_⟩:=z2
  have l:=r nm
  rw[show f nm=none from fR hb,←tm.Ld mm nm en]at l
  exact iX tm c hC hm g d l.aS fun a ha=>h a ha (by rw[U9 ei];rfl)
theorem vy {α:Type} {K:α->Hp->Prop} (hr:g7 T n r.ev) (c:Cx T W n A env own m U Y s) {o:X} {mm:Nat} {es:List X} {o':Ex} {q p:Pos} {es':List Ex} {f:V->Hp->R α} (t:Tr T env.kindOf o o') (ts:Z2 T env.kindOf es es') (hs:I1 o'=true) (hq:(q.endLine == p.line)=true) (hl:es.length≤12) (h:((r.ev m o Y).bind f).c4 K (XV T W U s E))
 (k:∀ov c9 wo c5 c8 pl,i4 T W U s c9 c8 c5->C4 T W c8 c5.heap ov wo->(f ov c9).c4 K (XV T W U s E)->wpAny (model T.prog T.w) A (getMethod wo (T.nm mm) pl) (fun f s'=>wpAny (model T.prog T.w) A (callWith p f.1 f.2 (backTo p (starEach es' env)) (backToKw p (keywordEach [] env))) Q E s') E c5):
 wpAny (model T.prog T.w) A (eval (.Call (.Attribute o' (T.nm mm) q) es' [] p) env) Q E s:=by
 rw[arm_eval_Call]
 exact NU (P1 hs (Be hr c t h fun ov c9 wo c5 c8 w3 vo fo h=>NU (Ow (W9 (tZ ts p env hl) hq fun pl=>k ov c9 wo c5 c8 pl w3 vo h))))
inductive C7 (T:i7) (P:Pg) (ov:V) (mm:Nat) (s:Shared) (wo:Value):Prop
 |mk (bid:String) (g:∀{A:Around} {pl:Sem Bool} {Q:Value×List Value->Shared->Prop} {E:Value->Shared->Prop},Q (.builtin bid,[wo]) s->wpAny (model T.prog T.w) A (getMethod wo (T.nm mm) pl) Q E s) (c:Z3 T P ov wo mm bid)
structure TQ (T:i7) (P:Pg):Prop extends TN T P where
 n0:T.nm aY= "append"
 n1:T.nm fN= "get"
 n2:T.nm qX= "pop"
 n3:T.nm aW= "update"
 n4:T.nm N3= "index"
 n5:T.nm fM= "join"
theorem R0 {a b:Nat} {G:Nat->Prop} (h:Nat.beq a b=true) (k:G b):G a:=(Om h).symm▸k
theorem or_bool {a b:Bool} {G:Prop} (h:(a || b)=true) (k1:a=true->G) (k2:b=true->G):G:=by
 induction a with
 |true=>exact k1 rfl
 |false=>exact k2 h
theorem gJ (tq:TQ T P) {l:Nat} {a:Addr} {kws:List (Str×Value)} {mm:Nat} (hd:s.heap.DictOf (strKind T.prog T.w) a kws) (h:(Nat.beq mm fN || Nat.beq mm qX || Nat.beq mm aW)=true):C7 T P (.loc l) mm s (.ref a):=
 or_bool h (fun h=>or_bool h (fun h=>R0 (G:=fun mm=>C7 T P (.loc l) mm s (.ref a)) h ⟨_,fun q=>tq.n1▸getMethod_builtin hd.typeIs PySem.F.plainAttrs_dict PySem.F.slot_dict_get PySem.F.type_dict_get hd.mapOf.noDict q,Jo⟩)
  fun h=>R0 (G:=fun mm=>C7 T P (.loc l) mm s (.ref a)) h ⟨_,fun q=>tq.n2▸getMethod_builtin hd.typeIs PySem.F.plainAttrs_dict PySem.F.slot_dict_pop PySem.F.type_dict_pop hd.mapOf.noDict q,Jn tq.toE4⟩)
  fun h=>R0 (G:=fun mm=>C7 T P (.loc l) mm s (.ref a)) h ⟨_,fun q=>tq.n3▸getMethod_builtin hd.typeIs PySem.F.plainAttrs_dict PySem.F.slot_dict_update PySem.F.type_dict_update hd.mapOf.noDict q,yU tq.toE4⟩
theorem JP (tq:TQ T P) (c:d9 T W U Y s.heap) {ov:V} {wo:Value} {mm:Nat} {u:Unit} (hv:C4 T W U s.heap ov wo) (e:DF ov mm Y=some u):C7 T P ov mm s wo:=
 i0 e (fun e=>a0 e fun i ei e=>a0 e fun o eo e=>A8 hv ei fun a ha=>c.at eo fun a' ha' q=>by
  rw[NX (ha'.symm.trans ha)]at q
  rw[U9 ei]
  exact i0 e (fun e=>a0 e fun xs ex e=>i9 e fun g J=>by
   rw[N8 ex]at q
   exact match q with|⟨ws,l,_⟩=>R0 (G:=fun mm=>C7 T P (.loc i) mm s (.ref a)) g ⟨_,fun q=>tq.n0▸T5 l slot_list_append type_list_append q,yX⟩) fun e=>i0 e (fun e=>a0 e fun f ef e=>i9 e fun g J=>by
   rw[H5 ef]at q
   exact match q with|⟨kws,d,_,_,_⟩=>gJ tq d g) fun e=>a0 e fun J ef e=>i9 e fun g J=>by
   rw[W8 ef]at q
   exact match q with|⟨n,_,ho⟩=>gJ tq (v3 (strKind T.prog T.w) ho) (Bool.or_eq_true_iff.mpr (.inl g))) fun e=>
 i0 e (fun e=>a0 e fun x ex e=>i9 e fun g J=>by
  rw[U8 ex]at hv⊢
  exact VR.n8 (G:=fun wo=>C7 T P (.str x) mm s wo) hv fun t J=>R0 (G:=fun mm=>C7 T P (.str x) mm s (.str (i3 x) t)) g ⟨_,fun q=>tq.n5▸(by with_reducible exact GM.join q),CC⟩) fun e=>
 i0 e (fun e=>a0 e fun x ex e=>i9 e fun g J=>by
  rw[aA ex]at hv⊢
  exact VR.F5 (G:=fun wo=>C7 T P (.bytes x) mm s wo) hv fun a t J=>R0 (G:=fun mm=>C7 T P (.bytes x) mm s (.bytes a t)) g ⟨_,fun q=>tq.n5▸(by with_reducible exact KBd.method_of (.bytes a t) (PySem.W.typeIs_bytes _ _ _) I3 du KBd.noRef q),CD⟩) fun e=>
 i0 e (fun e=>a0 e fun x ex e=>i9 e fun g J=>by
  rw[bF ex]at hv⊢
  exact VR.E6 (G:=fun wo=>C7 T P (.tup x) mm s wo) hv fun a ws l J J=>l.elim fun k ho=>R0 (G:=fun mm=>C7 T P (.tup x) mm s (.ref a)) g ⟨_,fun q=>tq.n4▸getMethod_builtin l.tup.typeIs PySem.F.plainAttrs_tuple PySem.F.slot_tuple_index PySem.F.type_tuple_index (fun b q=>⟨_,Value.ref.inj q▸ho,rfl⟩) q,yV⟩) fun e=>
 i0 e (fun e=>a0 e fun x ex e=>i9 e fun g J=>VR.z0 (G:=fun wo=>C7 T P ov mm s wo) hv ex fun a ws l J J=>R0 (G:=fun mm=>C7 T P ov mm s (.ref a)) g ⟨_,fun q=>tq.n4▸T5 l PySem.F.slot_list_index PySem.F.type_list_index q,yW ex⟩) fun e=>
 a0 e fun x ex e=>i9 e fun g J=>VR.U3 (G:=fun wo=>C7 T P ov mm s wo) hv ex fun a d=>d.Ba fun kws hd J J=>R0 (G:=fun mm=>C7 T P ov mm s (.ref a)) g ⟨_,fun q=>tq.n1▸getMethod_builtin hd.typeIs PySem.F.plainAttrs_dict PySem.F.slot_dict_get PySem.F.type_dict_get hd.mapOf.noDict q,Gw ex⟩
theorem vw (tq:TQ T P) (hr:g7 T n r.ev) (hrun:SRun T n r.run) (c:Cx T W n A env own m U Y s) {o:X} {mm:Nat} {es:List X} {e':Ex} (t:Tr T env.kindOf (.l5 o mm es) e') (h:(s7 P r m (.l5 o mm es) Y).c4 (KV T W U s Q) (XV T W U s E)):wpAny (model T.prog T.w) A (eval e' env) Q E s:=
 t.kE fun o' q es' p t1 ts hs hq hl=>vy hr c t1 ts hs hq hl h fun ov c9 wo c5 c8 pl w3 vo h=>cf (K:=fun z=>R.c4 z _ _) (c4.step w3 h fun J J z=>z.step w3) (fun cc ec h=>a9 h fun k ek h=>a9 h fun J eb h=>vu tq.toTM w3.rel vo ec ek eb fun a ha g=>
  uq tq.toTM hr hrun (c.mv w3) ts ha (.cons _ _ _ _ g (vo.vs g) .nil) h) fun J h=>a9 h fun J e h=>match JP tq w3.rel vo e with
  |⟨bid,g,mc⟩=>g (J4 tq.toE4 hr (c.mv w3) ts (M4 rfl) (R.c4.mono (R.d5.mp h) (fun vs n9 h ws l3 o7 i8 x=>mc ⟨i8,x,w3.rel.o5,c.ar.handled,oW c⟩ (i8.ext.vr vo) h) fun J J x=>x))
theorem DH (tn:TN T P) (hr:g7 T n r.ev) (c:Cx T W n A env own m U Y s) {es:List X} {es':List Ex} {b:Bi} {pos:Pos} (ts:Z2 T env.kindOf es es') (h:((m7 r m es Y).bind fun vs Y=>b8 88 (I6 P b vs Y) Y).c4 (KV T W U s Q) (XV T W U s E)):
 wpAny (model T.prog T.w) A (callWith pos (T.bi b) [] (backTo pos (starEach es' env)) (backToKw pos (keywordEach [] env))) Q E s:=
 J4 tn.toE4 hr c ts (M4 (by rw[tn.Ln];induction b<;>rfl)) (R.c4.mono (R.d5.mp h) (fun vs c9 h ws l3 o7 i8 x=>w0 h fun v e h=>Kt tn i8.rel c.ar.handled (x.vr c.rel.o5) e (h.step i8)) fun J J x=>x)
end
structure MJ (T:i7) (C fI:Addr):Prop where
 m:makesIn T.K C=true
 f:findIn T.K (.ref C) "__init__"=some (some (.ref fI))
 i:isFn T.K (.ref fI)=true
structure TC (T:i7) (P:Pg):Prop extends TQ T P where
 ctor:∀c C cd k,T.cls c=some C->P.pe[c]? =some cd->cd.init=some k->∃fI,(cd.keeps=true->T.fn k=some fI)∧MJ T C fI
 Es:∀c C,T.cls c=some C->keepIn T.K (.ref C)=true
section
noncomputable abbrev vm (h:Heap) (C:Addr):Heap:=(h.push emptyDict).push (instObj C h.objs.size)
structure MF (h:Heap) (C:Addr):Prop where
 k:∀b o,h.get? b=some o->(vm h C).get? b=some o
 d:(vm h C).get? h.objs.size=some emptyDict
 x:(vm h C).get? (h.objs.size+1)=some (instObj C h.objs.size)
theorem Je (h:Heap) (C:Addr):MF h C:=⟨fun b o e=>Oc _ (Oc _ e),Oc _ (Od _ rfl),by heap_get⟩
theorem zz (tk:E4 T P) (c:d9 T W U Y s.heap) {cc:Nat} {C:Addr} (hC:T.cls cc=some C):i4 T W U s (Y++[.map fun J=>none]++[.inst cc Y.length]) (U++[s.heap.objs.size]++[s.heap.objs.size+1]) {s with heap:=vm s.heap C}:=by
 have o1:=i4.cq (s:=s) (ob:=emptyDict) (o:=.map fun J=>none) c rfl fun J=>⟨[],v3 (strKind T.prog T.w) (n:=0) (Od _ rfl),O0 tk c,fun J=>.none,fun J q=>nomatch q⟩
 have e1:(U++[s.heap.objs.size])[Y.length]? =some s.heap.objs.size:=c.len▸List.getElem?_concat_length ..
 have o:=o1.trans (i4.cq (s:={s with heap:=s.heap.push emptyDict}) (ob:=instObj C s.heap.objs.size) (o:=.inst cc Y.length) o1.rel rfl fun J=>⟨C,s.heap.objs.size,hC,aP e1,Od _ rfl⟩)
 rwa [show({s with heap:=s.heap.push emptyDict}:Shared).heap.objs.size=s.heap.objs.size+1 from Heap.size_push _ _]at o
theorem S6 {A:Around} {args:List Value} {C:Addr} (ar:Ar T W A (n+1) h):Ar T W (A.under (.builtin "type.__call__" ⟨.ref C::args,[]⟩)) n h:=
 ⟨ar.handled,(room_le ar.depth (by decide):A.depth+1+2 * n≤900),(room_le ar.units (NY rfl):A.units+(Code.builtin "type.__call__" ⟨.ref C::args,[]⟩).cUnits+20 * n≤9000),match ar.frames with|⟨fs,e,f,w⟩=>⟨fs,e,f,w⟩⟩
theorem zm (tc:TC T P) (hrun:SRun T n r.run) (c:d9 T W U Y s.heap) (ar:Ar T W A (n+1) s.heap) {cc k:Nat} {C:Addr} {cd:Cd} {vs:List V} {ws:List Value} (hC:T.cls cc=some C) (hcd:P.pe[cc]? =some cd) (hi:cd.init=some k) (hk:cd.keeps=true) (q:E3 T W U s.heap vs ws)
 (h:((r.run k (.loc (Y.length+1)::vs) (Y++[.map (fun J=>none),.inst cc Y.length])).z6.bind fun v c7=>(b8 85 (F7 v) c7).bind fun J c7=>.ok (.loc (Y.length+1)) c7).c4 (KV T W U s Q) (XV T W U s E)):wpAny (model T.prog T.w) A (PySem.call (.ref C) ws) Q E s:=by
 obtain⟨fI,hf,hm⟩:=tc.ctor cc C cd k hC hcd hi
 have X:=k7 tc.toE4 c
 refine wpAny_call (make_core (makes_of X hm.m) (looks_findIn X hm.f) (fun self=>bind_fn X self (beq_iff_eq.mp hm.i)) (.inl rfl) ?_)
 have o:=zz tc.toE4 c hC
 have hx:(U++[s.heap.objs.size]++[s.heap.objs.size+1])[Y.length+1]? =some (s.heap.objs.size+1):=by
  have:Y.length+1=(U++[s.heap.objs.size]).length:=by rw[List.length_append,c.len];rfl
  rw[this];exact List.getElem?_concat_length ..
 refine hrun (A:=A.under _) o.rel (S6 (ar.ext o.ext)) (hf hk) (.cons _ _ _ _ rfl (.loc _ _ hx) (o.ext.Ip q)) ?_
 rw[List.append_assoc]
 exact R.c4.mono (R.J6 (R.d5.mp h)) (fun v c7 kk w s3 AZ o3 hv J=>a9 kk fun J e kk=>J0 hv e ⟨rfl,kk _ _ _ (o.trans o3) (.mk _ _ (.loc _ _ (o3.ext.pre _ _ hx))) (G1.not rfl)⟩) fun J J x=>x.elim
end
theorem yq (m:Fr) (a:Nat) (v:V):(putN m a v).length≤m.length+1:=by
 unfold putN qy
 induction m.any fun p=>Nat.beq p.1 a with
 |true=>exact Oe (Nat.le_of_eq (Oi ..)) (Nat.le_succ _)
 |false=>exact Nat.le_of_eq (List.length_append ..)
noncomputable def Jk (x:Nat) (p:List Nat×Bool×X):S:=bif p.2.1 then .H4 (p.1.map fun a=>.attr (.NT x) a) p.2.2 else .assign (.attr (.NT x) (p.1.headD 0)) p.2.2
section
variable {F:Fx T} {z:Zt} {x dx C:Addr} {sn:Str} {at_:Fr}
inductive KY (T:i7) (z:Zt) (dx:Addr) (at_:Fr):Prop
 |mk (kws:List (Str×Value)) (d:z.s.heap.DictOf (strKind T.prog T.w) dx kws) (r:J9 T z.U (k9 T z.W z.U) z.s.heap T.nm at_ kws)
structure Mk (F:Fx T) (z:Zt) (x dx C:Addr) (sn:Str) (at_:Fr):Prop where
 lx:l8 F z x
 ld:l8 F z dx
 ox:z.s.heap.get? x=some (instObj C dx)
 dd:KY T z dx at_
 held:n7 z.W F.env z.s.heap sn (.ref x)
theorem n7.re {W W':r9} {U:List Addr} {env:Env} {own:List (Nat×Addr)} {h:Heap} {x0:Nat} {w:Value} (c:G2 T W' U env own m h) (hk:s6 T env.kindOf x0) (x:n7 W env h (T.nm x0) w):n7 W' env h (T.nm x0) w:=by
 induction x with
 |loc f k n e=>exact .loc f k n e
 |P0 ca k hc o i=>induction hk with
  |loc _ q=>exact k.elim (fun k=>S9 q k nofun) fun k=>S9 q k nofun
  |P0 _ q=>exact match c.has _ q with|⟨ca',v',hc',o',i'⟩=>.P0 ca k hc ((NX (hc'.symm.trans hc))▸o') i
theorem Mk.hold {G:Prop} (k:Mk F z x dx C sn at_) (f:Fs F z m Y) (g:∀H Hv,Fs (F.hold H Hv) z m Y->(∀{z':Zt} {m':Fr} {c7:Hp},Fs (F.hold H Hv) z' m' c7->n7 z'.W F.env z'.s.heap sn (.ref x)->Mk F z' x dx C sn at_)->G):G:=match k.dd with
 |⟨kws,d,r⟩=>(l9 d).elim fun od ed=>g [(dx,od,true),(x,instObj C dx,true)] ((at_.map Prod.snd).zip (kws.map Prod.snd)) (f.holds (fun a o b q=>(Of q).elim (fun e=>by cases e;exact k.ld.EF f ed) fun q=>by cases Og q;exact k.lx.EF f k.ox) fun v w q=>have y:=X0 r.r v w q;⟨y.1,y.2⟩)
  fun{z' m' c7} f' hd=>
   have yd:=f'.hd.objs dx od true (.head _)
   have yx:=f'.hd.objs x _ true (.tail _ (.head _))
   ⟨⟨yx.own rfl,yx.nn,yx.nc,k.lx.new,k.lx.out,k.lx.held⟩,⟨yd.own rfl,yd.nn,yd.nc,k.ld.new,k.ld.out,k.ld.held⟩,yx.at_,⟨kws,B6 d fun o e=>(NX (ed.symm.trans e))▸yd.at_,r.e,eO r.r.length fun v w q=>have y:=f'.hd.vals v w (Oa _ q);⟨y.g,y.r⟩⟩,hd⟩
theorem Mk.step (k:Mk F z x dx C sn at_) (f:Fs F z m Y) (o:i4 T z.W z.U z.s c7 d7 s'):Mk F (z.to d7 s') x dx C sn at_:=have hd:=n7.step f k.held o;k.hold f fun J J f' g=>g (z':=z.to d7 s') (f'.step o) hd
theorem Mk.put {Q:Unit->Shared->Prop} {E:Value->Shared->Prop} (tk:E4 T P) (f:Fs F z m Y) {cc a x0:Nat} (mk:Mk F z x dx C (T.nm x0) at_) (hC:T.cls cc=some C) (hxd:x≠dx) {t':Ex} (tt:pR T F.env.kindOf (.attr (.NT x0) a) t') (hz:at_.length≤1000) (g:solid v=true) (hv:eK T z.W z.U z.s.heap v w)
 (k:∀h' t,Fs F (z.hp h' t) m Y->Mk F (z.hp h' t) x dx C (T.nm x0) (putN at_ a v)->Ms z.U z.U (k9 T z.W z.U) (k9 T z.W z.U) (fun b=>b=dx) z.s.heap h'->Q () {z.s with heap:=h',toks:=t}):wpAny (model T.prog T.w) F.A (assign t' F.env w) Q E z.s:=by
 cases tt with
 |attr _ _ o' q to hf=>
  rw[arm_assign_Attribute]
  refine NU (Oo (to.P5 fun p hcl J J=>D8 (h:=z.s.heap) f.cx.fr.kind hcl mk.held (NU (Ow (NU (Oo ?_))))))
  exact match mk.dd with
   |⟨kws,hd,r⟩=>Z8 (k7 tk f.cx.rel) (tk.sf _ hf cc C hC) mk.ox hd (r.len▸hz) fun h' t hd' hs'=>
    have ms:=f.cx.rel.T3 (W':=z.W) (fun J q=>.inl q) (SameBut.off hs') fun a q=>.inr ((show a=dx from q)▸mk.ld.C8)
    wpAny_release (k h' t (f.cR (D:=fun b=>b=dx) (fun b e=>(show b=dx from e)▸mk.ld) (SameBut.off hs') fun b e=>(show b=dx from e)▸l9 hd')
     ⟨mk.lx.ig rfl rfl,mk.ld.ig rfl rfl,(hs'.2 x hxd).trans mk.ox,⟨_,hd',(r.ms ms).set (X1 tk) g (hv.ms ms)⟩,mk.held.to (fun f' n=>iV n fun o e=>(hs'.2 _ (f.nL mk.ld.C8).symm).trans e) fun y c hc o=>⟨o,fun ob e=>(hs'.2 c fun q=>mk.ld.cell y (q▸hc)).trans e⟩⟩ ms)
section
variable {cc x0:Nat} (tk:E4 T P) (hC:T.cls cc=some C) (hxd:x≠dx)
include tk hC hxd
theorem Gs {Q:Unit->Shared->Prop} {as:List Nat}:∀{ts:List Ex} {xs:List V} {ws:List Value} {at_:Fr} {z:Zt},Fs F z m Y->Mk F z x dx C (T.nm x0) at_->mj T F.env.kindOf (as.map fun a=>.attr (.NT x0) a) ts->E3 T z.W z.U z.s.heap xs ws->xs.length=as.length->at_.length+as.length≤1000->
 (∀z',Fs F z' m Y->Mk F z' x dx C (T.nm x0) (putL at_ as xs)->Q () z'.s)->wpAny (model T.prog T.w) F.A (assignInOrder ((assignEach ts F.env).map (·.2)) ws) Q E z.s:=by
 induction as with
 |nil=>
  intro ts xs ws at_ z f mk ta q h1 _ k
  cases ta
  cases q with
  |nil=>exact NW (k z f mk)
  |cons=>exact nomatch h1
 |cons a as ih=>
  intro ts xs ws at_ z f mk ta q h1 hz k
  cases ta with
  |cons _ t' _ ts tt tr=>cases q with
   |nil=>exact nomatch h1
   |cons v w vs ws g hv q=>
    rw[bw tt]
    show wpAny _ F.A (do holding ws (assign t' F.env w);assignInOrder ((assignEach ts F.env).map (·.2)) ws) Q E z.s
    exact NU (Oo (Mk.put tk f mk hC hxd tt (Oe (Nat.le_add_right _ _) hz) g hv fun h' t f' mk' ms=>
     ih f' mk' tr (q.ms ms) (Nat.succ.inj h1) (Oe (Nat.add_le_add_right (yq at_ a v) _) (by rw[Nat.add_assoc,Nat.add_comm 1];exact hz)) k))
variable {Q:Flow->Shared->Prop} {K:Fr->Hp->Prop} (hr:g7 T n r.ev) (rm:Rm F n)
include hr rm
theorem Ae (hs:s6 T F.env.kindOf x0) {as:List Nat} {e:X} {st:PySem.Stmt} {c:Fr->Hp->R Fr} (f:Fs F z m Y) (mk:Mk F z x dx C (T.nm x0) at_) (ts:I9 T F.env.kindOf (Jk x0 (as,false,e)) st)
 (h:((r.ev m e Y).bind fun v Y=>(b8 87 (freeze v) Y).bind fun v Y=>(b8 87 (y0 as) Y).bind fun a Y=>bif Nat.ble at_.length 1000 then c (putN at_ a v) Y else .no 87).c4 K (XF F E))
 (k:∀at_ z Y,Fs F z m Y->Mk F z x dx C (T.nm x0) at_->(c at_ Y).c4 K (XF F E)->Q .next z.s):wpAny (model T.prog T.w) F.A (exec st F.env) Q E z.s:=
 I9.jN (G:=fun st=>wpAny (model T.prog T.w) F.A (exec st F.env) Q E z.s) (t:=.attr (.NT x0) (as.headD 0)) (e:=e) ts (fun t' e' p tt te hc J=>by
  rw[arm_exec_Assign]
  refine NU (Ow ?_)
  rw[iN tt te hc]
  refine NU (NW ?_)
  rw[OC Bool.false_ne_true]
  refine NU (mk.hold f fun H Hv f' back=>Fs.eval (F:=F.hold H Hv) hr rm.r f' te h fun v c9 w c5 c8 o hv hf h=>?_)
  rw[cS tt]
  refine NU (NW ?_)
  rw[bw tt]
  show wpAny _ F.A (do assign t' F.env w;pure Flow.next) _ E c5
  have hd:=n7.step f mk.held o
  refine a9 h fun v' ev h=>a9 h fun a ea h=>q8 h fun hz h=>Fs.give (F:=F.hold H Hv) f' o hv hf fun iH z8 gv=>Fs.freeze (F:=F.hold H Hv) z8 gv ev fun bI B8 g hv'=>?_
  rw[B2 ea]at tt
  exact NU (Mk.put (z:=⟨bI,z.own,c8,c5⟩) tk B8.y7 (back B8 (n7.re B8.cx.fr hs hd)) hC hxd tt (NY hz) g hv' fun h' t Q2 Ji J=>NW (k _ ((⟨bI,z.own,c8,c5⟩:Zt).hp h' t) _ Q2 Ji h))) fun J J J J J J J J J ex=>ns ex
theorem wz {as:List Nat} {e:X} {st:PySem.Stmt} {c:Fr->Hp->R Fr} (f:Fs F z m Y) (mk:Mk F z x dx C (T.nm x0) at_) (ts:I9 T F.env.kindOf (Jk x0 (as,true,e)) st)
 (h:((r.ev m e Y).bind fun v Y=>(b8 87 (wg v) Y).bind fun vs Y=>bif Nat.beq vs.length as.length&&Nat.ble (at_.length+as.length) 1000 then c (putL at_ as vs) Y else .no 87).c4 K (XF F E))
 (k:∀at_ z Y,Fs F z m Y->Mk F z x dx C (T.nm x0) at_->(c at_ Y).c4 K (XF F E)->Q .next z.s):wpAny (model T.prog T.w) F.A (exec st F.env) Q E z.s:=
 I9.eR (G:=fun st=>wpAny (model T.prog T.w) F.A (exec st F.env) Q E z.s) (ts:=as.map fun a=>.attr (.NT x0) a) (x:=e) ts fun ts' e' i q p tt te h1 h2=>Assign_Tuple (f.eval hr rm.r te h fun v c9 w c5 c8 o hv hf h=>a9 h fun xs ex h=>q8 h fun hz h=>a7 hz fun hz1 hz2=>match V0 (E:=E) tk hr rm tt with
  |⟨_,e1,e2⟩=>
   have hl:=Om hz1
   iK f.cx.ar.handled hv ex (e1.trans ((Oi ..).trans hl.symm)) e2 fun ws qs h' he=>
    have i8:i4 T z.W c8 c5 c9 c8 {c5 with heap:=h'}:=i4.keeps (t:=c5.toks) o.rel he
    have Jj:=(mk.step f o).step (f.step o) i8
    Gs (z:=z.to c8 {c5 with heap:=h'}) tk hC hxd ((f.step o).step i8) Jj tt (i8.ext.Ip qs) hl (NY hz2) fun z' f' mk'=>k _ z' _ f' mk' h) (oZ te h2) (sL te h1)
theorem Dw (hs:s6 T F.env.kindOf x0) {cs:List (List Nat×Bool×X)}:∀{body:List PySem.Stmt} {at_:Fr} {z:Zt} {Y:Hp},Fs F z m Y->Mk F z x dx C (T.nm x0) at_->sy T F.env.kindOf (cs.map (Jk x0)) body->
 (gL r m cs at_ Y).c4 K (XF F E)->(∀at_ Y z,K at_ Y->Fs F z m Y->Mk F z x dx C (T.nm x0) at_->Q .next z.s)->wpAny (model T.prog T.w) F.A (execs body F.env) Q E z.s:=by
 induction cs with
 |nil=>exact fun f mk ta h k=>by cases ta;exact wpAny_execs_nil (k _ _ _ h f mk)
 |cons p cs ih=>
  intro body at_ z Y f mk ta h k
  obtain⟨as,b,e⟩:=p
  cases ta with
  |cons _ st _ ss ts tb=>induction b with
   |false=>exact wpAny_execs_cons (Ae tk hC hxd hr rm hs (c:=gL r m cs) f mk ts h fun at_ z Y f mk h=>ih f mk tb h k)
   |true=>exact wpAny_execs_cons (wz tk hC hxd hr rm (c:=gL r m cs) f mk ts h fun at_ z Y f mk h=>ih f mk tb h k)
end
end
inductive Maker (T:i7) (C:Addr) (cd:Cd) (fd:Fd):Prop
 |mk (fI:Addr) (x0:Nat) (ps:List Nat) (f:findIn T.K (.ref C) "__init__"=some (some (.ref fI))) (e:fd.params=x0::ps) (h:DX T fI fd fun kd body=>sy T kd (cd.body.map (Jk x0)) body)
structure TD (T:i7) (P:Pg):Prop extends TC T P where
 make:∀c C cd k fd,T.cls c=some C->P.pe[c]? =some cd->cd.init=some k->cd.keeps=false->P.fns[k]? =some fd->Maker T C cd fd
section
theorem two_all {p:Addr->Prop} {a b:Addr} (ha:p a) (hb:p b):∀d,d∈[a,b]->p d:=fun d q=>(Of q).elim (fun e=>e▸ha) fun q=>Og q▸hb
theorem rf {A:Around} {args:List Value} {C:Addr} {env:Env} (ar:Ar T W A (n+1) h):N6 ((A.under (.builtin "type.__call__" ⟨.ref C::args,[]⟩)).deeper env) n:=by
 exact⟨(room_le ar.depth (OF 2):A.depth+2+2 * n≤900),(room_le ar.units (NY rfl):A.units+((Code.builtin "type.__call__" ⟨.ref C::args,[]⟩).cUnits+3)+20 * n≤9000)⟩
theorem yT (td:TD T P) (hr:g7 T n r.ev) (c:d9 T W U Y s.heap) (ar:Ar T W A (n+1) s.heap) {cc k:Nat} {C:Addr} {cd:Cd} {fd:Fd} {vs:List V} {ws:List Value} (hC:T.cls cc=some C) (hcd:P.pe[cc]? =some cd) (hi:cd.init=some k) (hk:cd.keeps=false) (hfd:P.fns[k]? =some fd) (q:E3 T W U s.heap vs ws)
 (h:((b8 86 (U7 ⟨fd.params.tail,fd.dA,[]⟩ vs) Y).bind fun m Y=>(gL r m cd.body [] Y).z6.bind fun at_ Y=>.ok (.obj cc at_) Y).c4 (KV T W U s Q) (XV T W U s E)):wpAny (model T.prog T.w) A (PySem.call (.ref C) ws) Q E s:=by
 obtain⟨fI,_,hm⟩:=td.ctor cc C cd k hC hcd hi
 obtain⟨fI',x0,ps,hfi',hps,hF⟩:=td.make cc C cd k fd hC hcd hi hk hfd
 rw[hm.f]at hfi'
 obtain rfl:fI=fI':=Value.ref.inj (NX (NX hfi'))
 have X:=k7 td.toE4 c
 refine a9 h fun m em h=>i9 em fun g em=>a7 g fun g1 g2=>wpAny_call (make_core (makes_of X hm.m) (looks_findIn X hm.f) (fun self=>bind_fn X self (beq_iff_eq.mp hm.i)) (.inl rfl) ?_)
 have nh:=Je s.heap C
 have nw:∀d,d∈[s.heap.objs.size,s.heap.objs.size+1]->s.heap.get? d=none:=two_all (none_at_size _) (Heap.get?_none_of_le (Nat.le_succ _))
 have ne:s.heap.objs.size+1≠s.heap.objs.size:=Nat.ne_of_gt (Nat.lt_succ_self _)
 have ee:fd.params.length - (Value.ref (s.heap.objs.size+1)::ws).length=fd.params.tail.length - vs.length:=by rw[hps,List.length_cons,List.length_cons,q.length];exact Nat.add_sub_add_right _ 1 _
 have rm:∀env,N6 ((A.under (.builtin "type.__call__" ⟨.ref C::ws,[]⟩)).deeper env) n:=fun env=>rf ar
 have ar2:Ar T (W.add [s.heap.objs.size,s.heap.objs.size+1]) (A.under (.builtin "type.__call__" ⟨.ref C::ws,[]⟩)) n (vm s.heap C):=(S6 ar).mv (W':=W.add [s.heap.objs.size,s.heap.objs.size+1]) (fun J q=>q) (Off.of_keeps (S:=fun J=>False) nh.k) (fun J J q=>q.elim)
 refine Q6 td.toE4 hF (A:=A.under _) (own:=[]) (W0:=W) (Z4:=U) (s0:=s) (m:=m) (c.adopt nh.k nw (two_all ⟨_,nh.d⟩ ⟨_,nh.x⟩)) (ar2.le (Nat.zero_le n)) ?_ ?_ (i4.keeps (t:=s.toks) c nh.k) (s8.add nw).v5 (fun a ha=>(c.o5.own a ha).ex) (S6 ar).frames (fun J J J q=>nomatch q) (fun J J q=>nomatch q)
  (by rw[hps,List.length_cons,List.length_cons,q.length];exact Nat.succ_le_succ (by rw[hps]at g1;exact NY g1)) (by rw[ee];exact NY g2) (fun x v e=>?_) fun env W1 s' body E' en htr=>?_
 ·exact(room_0 ar.depth (OF 2):A.depth+2≤900)
 ·exact(room_0 ar.units (NY rfl):A.units+((Code.builtin "type.__call__" ⟨.ref C::ws,[]⟩).cUnits+3)≤9000)
 ·rw[←em]at e
  obtain⟨j,h1,h2⟩:=iJ e
  rw[hps]at h1
  by_cases hj:j < vs.length
  ·rw[Oz hj]at h2
   exact q.at h2 fun w hw g hv=>.arg (j+1) w (hps▸h1) hw (.pl v w g (hv.ms (bH nh.k nw)))
  ·rw[List.getElem?_append_right (OD hj),←ee]at h2
   exact .dA (j - vs.length) (by rw[hps,List.length_cons,q.length,Nat.succ_add,Nat.add_sub_cancel' (OD hj)];exact h1) h2
 ·have h0:fd.params[0]? =some x0:=hps▸rfl
  have lo:∀{b ob},b∈[s.heap.objs.size,s.heap.objs.size+1]->(vm s.heap C).get? b=some ob->l8 (T:=T) ⟨(A.under (.builtin "type.__call__" ⟨.ref C::ws,[]⟩)).deeper env,env,W,U,s,[],[]⟩ ⟨W1,[],U,s'⟩ b:=fun{b ob} hb eb=>⟨en.own _ (Oa _ hb),fun J q=>(nomatch q),fun y q=>d0 (en.wG y b q) eb,nw b hb,fun z=>(c.o5.own b z).ex.elim fun o e=>d0 (nw b hb) e,fun J J q=>nomatch q⟩
  refine Dw (T:=T) (F:=⟨(A.under _).deeper env,env,W,U,s,[],[]⟩) (z:=⟨W1,[],U,s'⟩) (K:=fun at_ c7=>KV T W U s Q (.obj cc at_) c7) td.toE4 hC ne hr ⟨rm env,en.cn⟩ (en.set x0 (Oy h0)) en.fs ⟨lo (.tail _ (.head _)) nh.x,lo (.head _) nh.d,en.keep _ _ nh.x,⟨[],B6 (v3 (strKind T.prog T.w) (n:=0) nh.d) (en.keep _),.nil⟩,en.held 0 x0 _ h0 rfl⟩ htr
   (R.c4.mono (R.J6 (R.d5.mp h)) (fun J J q=>q) fun J J x=>x.elim) fun at_ c7 z kq f mk=>⟨rfl,?_⟩
  have v5:=f.st.v5
  have nb:∀{b},l8 (T:=T) ⟨(A.under (.builtin "type.__call__" ⟨.ref C::ws,[]⟩)).deeper env,env,W,U,s,[],[]⟩ z b->¬k9 T W z.U b:=fun{b} l y=>y.elim (fun y=>(f.cx.rel.o5.own b l.C8).nm (.inl y)) fun y=>y.elim (fun y=>(f.cx.rel.o5.own b l.C8).nm (.inr (.inl (v5.l6 b y)))) fun y=>y.elim l.out fun y=>(f.cx.rel.o5.own b l.C8).nm (.inr (.inr y))
  exact match mk.dd with|⟨kws,hd,r⟩=>kq _ _ z.U f.out (.mk _ _ (.obj cc C at_ _ _ kws hC mk.ox (nb mk.lx) hd (nb mk.ld) r.e (r.r.ms (v5.ms z.s.heap)))) (G1.not rfl)
theorem lu (td:TD T P) (hr:g7 T n r.ev) (hrun:SRun T n r.run) (c:d9 T W U Y s.heap) (ar:Ar T W A (n+1) s.heap) {cc:Nat} {C:Addr} {vs:List V} {ws:List Value} (hC:T.cls cc=some C) (q:E3 T W U s.heap vs ws)
 (h:(jE P r cc vs Y).c4 (KV T W U s Q) (XV T W U s E)):wpAny (model T.prog T.w) A (PySem.call (.ref C) ws) Q E s:=
 a9 h fun cd hcd h=>a9 h fun k hi h=>by
  induction hk:cd.keeps with
  |true=>rw[hk]at h;exact zm td.toTC hrun c ar hC hcd hi hk q h
  |false=>rw[hk]at h;exact a9 h fun fd hfd h=>yT td hr c ar hC hcd hi hk hfd q h
theorem wQ (td:TD T P) (hr:g7 T n r.ev) (hrun:SRun T n r.run) (c:Cx T W (n+1) A env own m U Y s) {f:X} {es:List X} {e':Ex} (t:Tr T env.kindOf (.call f es) e') (h:(s7 P r m (.call f es) Y).c4 (KV T W U s Q) (XV T W U s E)):wpAny (model T.prog T.w) A (eval e' env) Q E s:=
 t.ly fun id q es' p tf ts J=>by
  rw[u9]
  refine NU (Bd hr c.low tf h fun fv c9 wf c5 c8 w3 vf h=>w7 h (fun h=>a9 h fun b eb h=>?_) fun h=>w7 h (fun h=>a9 h fun k ek h=>?_) fun h=>a9 h fun cc ec h=>?_)
  ·rw[lY eb]at vf
   exact vf.EV (DH td.toTN hr (c.low.mv w3) ts h)
  ·rw[lU ek]at vf
   exact vf.JR fun a ha=>uq td.toTM hr hrun (c.low.mv w3) ts ha (first:=[]) .nil h
  ·rw[pN ec]at vf
   exact vf.HC fun C hC=>bD td.toE4 hr (c.low.mv w3) ts (keeps_K (td.Es cc C hC)) h fun vs n9 ws l3 o7 i8 q h=>lu td hr hrun i8.rel ((c.mv w3).mv i8).ar hC q (c4.step i8 h fun J J q=>q.step i8)
end
end Mine
end
section
open PySem PySem.W PySem.Calls
open Builtin Builtin.ObjectAttr
namespace Mine
noncomputable abbrev A9 (C t:Addr):Obj:={cls:=.ref C,data:=.fields #[.ref t,.none,.none,.none,.bool false,.none]}
variable {prog:Program} {w:World} {A:Around} {E:Value->Shared->Prop} {h:Heap} {g:Array GenState} {d:Drawn} {t:Nat} {os:OsState} {nm q:Str} {C N:Addr} {bs bmB sub:List Value} {sn:List Str} {ab:Bool} {col:Option Bool} {dd:Option Addr} {k0 k1 k2 k3 k5:Option Value} {B newId initId:String}
section
variable {bm:List Value} {hdct:Bool}
theorem wD {R:Result->Shared->Prop} (F:ExcBaseFacts B newId initId bmB) (hcB:(Value.ref C::bm).contains (.type B)=true) (hcA:(Value.ref C::bm).contains (.type "AttributeError")=false) (hcN:(Value.ref C::bm).contains (.type "NameError")=false) {rest:List Value} (hC:h.get? C=some (excClassObj nm q C N bs bm hdct sn sub ab col dd k0 k1 k2 k3 k5 newId))
 (hq:R (.ok (.ret (.ref (h.objs.size+1)))) ⟨(h.push {cls:=.type "tuple",data:=.seq rest.toArray}).push (A9 C h.objs.size),g,d,t,os⟩) (hrest:rest.length≤sizeLine):
 codeAny (model prog w) A (.builtin newId ⟨.ref C::rest,[]⟩) R ⟨h,g,d,t,os⟩:=by
 have hends:=F.ends
 refine codeAny_builtinAt F.entry ?_
 unfold Builtin.«BaseException.__new__»
 refine wpAt_bind ?_
 show wpAt _ _ _ (stack >>= _) _ _ _
 refine wpAt_bind (wpAt_stack fun p below=>wpAt_of_wpAny ?_)
 wp_walk
 refine wpAt_of_wpAny ?_
 rw[F.owner]
 repeat (first|with_reducible refine wpAny_madeHere_exc F.canon hC ?_|with_reducible refine wpAny_loadPart_at hC ?_|(with_reducible refine wpAny_isSubtype_exc hC ?_;first|rw[hcB]|rw[hcA]|rw[hcN])|wp_step)
 show R _ _
 rw[Heap.size_push]
 exact hq
theorem qf (F:ExcBaseFacts B newId initId bmB) (hcb:bm.contains (.type B)=true) (hcB:(Value.ref C::bm).contains (.type B)=true) (hcA:(Value.ref C::bm).contains (.type "AttributeError")=false) (hcN:(Value.ref C::bm).contains (.type "NameError")=false) {rest:List Value} {fI:Addr} {oI:Obj} {Q:Fin->Shared->Prop}
 (hC:h.get? C=some (excClassObj nm q C N bs bm hdct sn sub ab col dd k0 k1 k2 k3 k5 newId)) (hi:Looks (model prog w) h (typeLookup (.ref C) "__init__") (some (.ref fI))) (hfI:h.get? fI=some oI) (hfc:oI.cls=.type "function")
 (hq:wpAny (model prog w) A (call (.ref fI) (.ref (h.objs.size+1)::rest)) (fun r s'=>r=.none∧Q (.done (.ret (.ref (h.objs.size+1)))) s') E ⟨(h.push {cls:=.type "tuple",data:=.seq rest.toArray}).push (A9 C h.objs.size),g,d,t,os⟩) (hrest:rest.length≤sizeLine):
 wpAny (model prog w) A (Builtin.«type.__call__» ⟨.ref C::rest,[]⟩) Q E ⟨h,g,d,t,os⟩:=by
 repeat (first|with_reducible refine wpAny_loadPart_at hC ?_|with_reducible refine wpAny_madeBy_exc hC ?_|wp_step)
 refine codeAny_call_builtin_code (Code.quiet_builtin _ F.quiet) (wpAny_check_new_subU F (bmB:=bm) hcb .base hC ?_)
 refine wD F hcB hcA hcN hC ?_ hrest
 show wpAny _ _ _ _ _ _
 have kp:∀b o,h.get? b=some o->((h.push {cls:=.type "tuple",data:=.seq rest.toArray}).push (A9 C h.objs.size)).get? b=some o:=fun b o e=>Oc _ (Oc _ e)
 have JO:=kp _ _ hC
 have GZ:=kp _ _ hfI
 have hget:((h.push {cls:=.type "tuple",data:=.seq rest.toArray}).push (A9 C h.objs.size)).get? (h.objs.size+1)=some (A9 C h.objs.size):=by heap_get
 have hcC:(Value.ref C::bm).contains (.ref C)=true:=by simp
 unfold isInstance
 repeat (first|with_reducible refine wpAny_loadPart_at hget ?_|(with_reducible refine wpAny_isSubtype_exc JO ?_;rw[hcC])|wp_step)
 show wpAny _ _ (typeLookup (.ref C) _) _ _ _
 refine(hi.keeps kp).at ?_
 refine Oo (NU ?_)
 unfold bindSpecial
 refine NU (wpAny_typeOf (T:="function") ⟨_,GZ,hfc⟩ ?_)
 rw[OB (by decide)]
 refine NW (NU (wpAny_mono hq (fun r s' hr=>?_) fun J J x=>x))
 obtain⟨rfl,hQ⟩:=hr
 wp_walk
 exact hQ
theorem wR (F:ExcBaseFacts B newId initId bmB) (hcb:bm.contains (.type B)=true) (hcB:(Value.ref C::bm).contains (.type B)=true) (hcA:(Value.ref C::bm).contains (.type "AttributeError")=false) (hcN:(Value.ref C::bm).contains (.type "NameError")=false) {rest:List Value} {fI:Addr} {oI:Obj} {Q:Value->Shared->Prop}
 (hC:h.get? C=some (excClassObj nm q C N bs bm hdct sn sub ab col dd k0 k1 k2 k3 k5 newId)) (hi:Looks (model prog w) h (typeLookup (.ref C) "__init__") (some (.ref fI))) (hfI:h.get? fI=some oI) (hfc:oI.cls=.type "function")
 (hq:wpAny (model prog w) (A.under (.builtin "type.__call__" ⟨.ref C::rest,[]⟩)) (call (.ref fI) (.ref (h.objs.size+1)::rest)) (fun r s'=>r=.none∧Q (.ref (h.objs.size+1)) s') E ⟨(h.push {cls:=.type "tuple",data:=.seq rest.toArray}).push (A9 C h.objs.size),g,d,t,os⟩) (hrest:rest.length≤sizeLine):
 wpAny (model prog w) A (call (.ref C) rest) Q E ⟨h,g,d,t,os⟩:=by
 have f1:=tc_lookup
 have f2:=tc_bind (.ref C)
 have hT:(⟨h,g,d,t,os⟩:Shared).TypeIs (.ref C) "type":=⟨_,hC,rfl⟩
 refine wpAny_call (codeAny_of_tree ?_)
 show wpAny _ _ (callAny (.ref C) _) _ _ _
 repeat (any_goals (first|assumption|with_reducible refine wpAny_loadPart_at hC ?_|wp_step))
 refine⟨rfl,?_⟩
 exact codeAny_call_builtin_at (Code.quiet_builtin _ (by decide+kernel)) entry_typeCall (wpAny_check_type_call_sub hC (qf F hcb hcB hcA hcN hC hi hfI hfc hq hrest))
theorem FQ {s:Shared} {env:Env} {x:Sem Value} {Q:Flow->Shared->Prop} (hbase:(Value.ref C::bm).contains (.type "BaseException")=true) (hh:A.handled=none)
 (k:wpAny (model prog w) A x (fun v c5=>∃e t od,v=.ref e∧c5.heap.get? C=some (excClassObj nm q C N bs bm hdct sn sub ab col dd k0 k1 k2 k3 k5 newId)∧c5.heap.get? e=some {A9 C t with dict:=od}∧E (.ref e) c5) E s):
 wpAny (model prog w) A (raiseStmt env (some x) none) Q E s:=by
 unfold raiseStmt
 refine NU (wpAny_mono k (fun v c5 n6=>?_) fun J J x=>x)
 obtain⟨e,t,od,rfl,hC,he,hE⟩:=n6
 obtain⟨hp,g,d,tk,os⟩:=c5
 repeat (first|with_reducible refine wpAny_loadPart_at he ?_|with_reducible refine wpAny_loadPart_at hC ?_|(with_reducible refine wpAny_isSubtype_exc hC ?_;rw[hbase])|wp_step)
 exact wpAny_raiseNew_none hh hE
theorem pj {M:Model} (F:ExcBaseFacts B newId initId bmB) (hcB:(Value.ref C::bm).contains (.type B)=true) {e:Addr} {oe:Obj} {rest:List Value} {Q:Unit->Shared->Prop} (hC:h.get? C=some (excClassObj nm q C N bs bm hdct sn sub ab col dd k0 k1 k2 k3 k5 newId)) (he:h.get? e=some oe) (hcls:oe.cls=.ref C)
 (hq:Q () ⟨h,g,d,t,os⟩):wpAny M A (checkBuiltinCall initId ⟨.ref e::rest,[]⟩) Q E ⟨h,g,d,t,os⟩:=by
 have hshort:=F.noStar
 simp only[checkBuiltinCall,F.initKind,F.initSplit,F.initRow]
 repeat (first|(with_reducible refine wpAny_loadPart_at he ?_;rw[hcls])|with_reducible refine wpAny_loadPart_at hC ?_|(with_reducible refine wpAny_isSubtype_exc hC ?_;rw[hcB])|wp_step)
 refine wpAny_onRaise ?_
 rw[show∀(a b:String) (n:Nat),Bind.check ⟨.positional,"*",B,.self,[⟨"args",.varPos,false⟩]⟩ a b n (List.map (fun x=>x.fst) ({pos:=Value.ref e::rest}:Args).kw)=pure ()from
  fun a b n=>check_star_args _ _ _ _ _ _]
 exact NW hq
theorem rZ (F:ExcBaseFacts B newId initId bmB) (hcB:(Value.ref C::bm).contains (.type B)=true) {e t0:Addr} {oe:Obj} {vs:Array Value} {rest:List Value} {Q:Value->Shared->Prop} (hC:h.get? C=some (excClassObj nm q C N bs bm hdct sn sub ab col dd k0 k1 k2 k3 k5 newId)) (he:h.get? e=some oe) (hcls:oe.cls=.ref C)
 (hd:oe.data=.fields vs) (h0:vs[0]? =some (.ref t0)) (hq:Q .none ⟨(h.push {cls:=.type "tuple",data:=.seq rest.toArray}).update e (Obj.mapFields (·.setIfInBounds 0 (.ref h.objs.size))),g,d,t,os⟩) (hrest:rest.length≤sizeLine):
 wpAny (model prog w) A (call (.builtin initId) (.ref e::rest)) Q E ⟨h,g,d,t,os⟩:=by
 refine wpAny_call (codeAny_call_builtin F.init.plain F.initEntry (pj F hcB hC he hcls ?_))
 unfold Builtin.«BaseException.__init__»
 dsimp only
 rw[OC (by simp)]
 unfold newTuple Builtin.BaseException.bexcPut
 have hsz:0 < vs.size:=(Array.getElem?_eq_some_iff.mp h0).1
 have gm:=Oc (h:=h) {cls:=.type "tuple",data:=.seq rest.toArray} he
 refine NU (wpAny_newObj_type (NU (NU (wpAny_field gm hd h0 (NU (wpAny_setField gm hd hsz ?_))))) (by show rest.toArray.size≤sizeLine;rw[Ou];exact hrest))
 exact wpAny_letGo (NW hq)
open PyProof.Rows in
theorem kD {K:Frag} {T:String} {NT:Str} {v:Value} {s:Shared} {pl:Sem Bool} {Q:Value×List Value->Shared->Prop} (X:K.In s.heap) (ht:typeOf (.type T)=pure (.type "type")) (hs:Manifest.isStub T=false)
 (e:findCls K (.type T) (.type "type") NT=some (.val v)) (hh:handedIn v=true) (h:Q (v,[]) {s with toks:=s.toks+1}):wpAny (model prog w) A (getMethod (.type T) NT pl) Q E s:=by
 have hstub:opaqueClassAbove (.type T)=pure none:=by unfold opaqueClassAbove;dsimp only;rw[hs];rfl
 have L0:Looks (model prog w) s.heap (typeOf (.type T)) (.type "type"):=Looks.of_pure ht
 have hg:findIn K (.type "type") "__getattribute__"=some (some (.builtin "type.__getattribute__")):=type_tga
 unfold getMethod specialOf
 refine NU (NU (L0.here ((looks_findIn X hg).here ?_)))
 dsimp only
 rw[OB canon_tga]
 refine NU (wpAny_mono (Q:=fun v=>Q (v,[])) (E:=E) ?_ (fun J J z=>NW z) fun J J z=>z)
 have LO:Looks (model prog w) s.heap (opaqueClassAbove (.type T)) none:=Looks.of_pure hstub
 refine cls_open X LO L0 hg (looks_hook X (r:=none) (by rfl)) (by show subIn K _ _=_;rfl) e
  (NW (by show wpAny _ _ (handedOut v) _ _ _;rw[handedOut_of hh];exact NW h))
end
section
variable {prog:Program} {w:World} {A:Around} {E:Value->Shared->Prop} {h:Heap} {g:Array GenState} {d:Drawn} {t:Nat} {os:OsState}
variable {nm q:Str} {C D N x:Addr} {bs bmB:List Value} {sn:List Str} {sub:List Value} {ab:Bool} {col:Option Bool} {dd:Option Addr} {k0 k1 k2 k3 k5:Option Value} {B newId initId:String} {NT:Str} {v:Value} {vs:Array Value} {sl:Array (Option Value)}
theorem wN {sa owner:String} {M:Model} {o:Obj} {nameV:Value} {Q:Unit->Shared->Prop} (SF:StoreFacts B bmB sa owner)
 (hC:h.get? C=some (excClassObj nm q C N bs (.ref D::bmB) true sn sub ab col dd k0 k1 k2 k3 k5 newId)) (hx:h.get? x=some o) (hc:o.cls=.ref C) (hq:Q () ⟨h,g,d,t,os⟩):
 wpAny M A (checkBuiltinCall sa ⟨[.ref x,nameV,v],[]⟩) Q E ⟨h,g,d,t,os⟩:=by
 have hcB:(Value.ref C::.ref D::bmB).contains (.type owner)=true:=by rw[List.contains_cons,List.contains_cons,SF.hasOwner,Bool.or_true,Bool.or_true]
 have ha:=SF.args (.ref x) nameV v
 simp only[checkBuiltinCall,SF.kind,SF.split]
 refine NU ?_
 ·unfold isInstance
  repeat (first|(with_reducible refine wpAny_loadPart_at hx ?_;rw[hc])|(with_reducible refine wpAny_isSubtype_exc hC ?_;rw[hcB])|wp_step)
  induction hsig:Manifest.signature? sa with
  |none=>exact NW hq
  |some sig=>
   simp only[argsOk,hsig]at ha
   have h2:Bind.checkArgs sa sig ⟨[.ref x,nameV,v],[]⟩=pure ():=ha
   show wpAny M A (Bind.checkArgs sa sig ⟨[.ref x,nameV,v],[]⟩) Q E _
   rw[h2];exact NW hq
theorem jT {T:i7} {tk:Tok} {Q:PySem.Fin->Shared->Prop} (SF:StoreFacts B bmB "object.__setattr__" "object")
 (hC:h.get? C=some (excClassObj nm q C N bs (.ref D::bmB) true sn sub ab col dd k0 k1 k2 k3 k5 newId)) (h2:Looks (model T.prog T.w) h (typeLookup (.ref C) NT) none) (hx:h.get? x=some ⟨.ref C,none,.fields vs,sl⟩)
 (hq:∀h' tk',h'.get? x=some ⟨.ref C,some h.objs.size,.fields vs,sl⟩->h'.DictOf (PySem.strKind T.prog T.w) h.objs.size [(NT,v)]->(∀b o,b≠x->h.get? b=some o->h'.get? b=some o)->Q (.done (.ret .none)) ⟨h',g,d,tk',os⟩):
 wpAny (model T.prog T.w) A (Builtin.«object.__setattr__» ⟨[.ref x,.str NT tk,v],[]⟩) Q E ⟨h,g,d,t,os⟩:=by
 have hpass:=SF.passes (.ref x)
 have JI:(h.push {cls:=.type "dict",data:=.dict #[]}).get? x=some ⟨.ref C,none,.fields vs,sl⟩:=Oc _ hx
 have hxs:x≠h.objs.size:=Nat.ne_of_lt (OE hx)
 unfold Builtin.«object.__setattr__»
 repeat (first|rw[refuse_eq]|(rw[refuseLoop_ref,refuseLoop_ref,hpass])|with_reducible refine wpAny_loadPart_at hx ?_|with_reducible refine wpAny_mroOf_exc hC ?_|(with_reducible refine NU (h2.at ?_))|wp_step)
 have hgd:((h.push {cls:=.type "dict",data:=.dict #[]}).update x fun o=>{cls:=o.cls,dict:=some h.objs.size,data:=o.data,slots:=o.slots}).get? h.objs.size
  =some {cls:=.type "dict",data:=.dict #[]}:=(Heap.get?_update_ne _ _ _ _ hxs.symm).trans (Heap.get?_push_at rfl rfl)
 have hxd:=Heap.get?_update_self (fun o=>{cls:=o.cls,dict:=some h.objs.size,data:=o.data,slots:=o.slots}) JI rfl
 have hoff:∀b o,b≠x->h.get? b=some o->((h.push {cls:=.type "dict",data:=.dict #[]}).update x fun o=>{cls:=o.cls,dict:=some h.objs.size,data:=o.data,slots:=o.slots}).get? b=some o:=fun b o hb e=>(Heap.get?_update_ne _ _ _ _ hb).trans (Oc _ e)
 generalize ((h.push {cls:=.type "dict",data:=.dict #[]}).update x fun o=>{cls:=o.cls,dict:=some h.objs.size,data:=o.data,slots:=o.slots})=n6 at hgd hxd hoff
 obtain⟨es,n,es',n',p⟩:=nJ (T:=T) (NT:=NT) (t:=t) (v:=v) (v3 (PySem.strKind T.prog T.w) (n:=0) hgd) hgd
 have hnr:=p.noRef
 cases p.dat
 refine wpAny_askSetting (NW (NU (wpAny_mkText (NU (wpAny_loadPart hgd ?_)))))
 dsimp only
 rw[aRefKeyMayBeTheName_at,hnr]
 refine wpAny_updatePart hgd ?_
 refine NU (wpAny_lookBehind p.at_ (by rw[p.Ki];exact pastItsLine_dict (Oe p.grow (by rw[sizeLine_eq];decide))) ?_)
 exact NW (hq _ _ ((Heap.get?_update_ne _ _ _ _ hxs).trans hxd) p.dict fun b o hb e=>(Heap.get?_update_ne _ _ _ _ (Nat.ne_of_lt (OE e))).trans (hoff b o hb e))
theorem qr {T:i7} {Q:Unit->Shared->Prop} (SF:StoreFacts B bmB "object.__setattr__" "object")
 (hC:h.get? C=some (excClassObj nm q C N bs (.ref D::bmB) true sn sub ab col dd k0 k1 k2 k3 k5 newId)) (h1:Looks (model T.prog T.w) h (typeLookup (.ref C) "__setattr__") (some (.builtin "object.__setattr__"))) (h2:Looks (model T.prog T.w) h (typeLookup (.ref C) NT) none) (hx:h.get? x=some ⟨.ref C,none,.fields vs,sl⟩)
 (hq:∀h' tk',h'.get? x=some ⟨.ref C,some h.objs.size,.fields vs,sl⟩->h'.DictOf (PySem.strKind T.prog T.w) h.objs.size [(NT,v)]->(∀b o,b≠x->h.get? b=some o->h'.get? b=some o)->Q () ⟨h',g,d,tk',os⟩):
 wpAny (model T.prog T.w) A (setAttr (.ref x) NT v) Q E ⟨h,g,d,t,os⟩:=by
 have f3:=SF.slot.bind (.ref x)
 unfold setAttr callSpecial? specialOf
 repeat (any_goals (first|assumption|with_reducible refine wpAny_loadPart_at hx ?_|(with_reducible refine NU (h1.at ?_))|wp_step))
 dsimp only
 refine h1.at ?_
 repeat (any_goals (first|assumption|wp_step))
 show codeAny _ _ (.call (.builtin "object.__setattr__") ⟨[.ref x,.str NT t,v],[]⟩) _ _
 refine codeAny_call_builtin SF.slot.plain SF.entry ?_
 have z:=fun(Q:Unit->Shared->Prop) (E:Value->Shared->Prop) (A:Around) (t':Nat)=>@wN A E h g d t' os nm q C D N x bs bmB sn sub ab col dd k0 k1 k2 k3 k5 B newId v _ _ (model T.prog T.w) _ (.str NT t) Q SF hC hx rfl
 refine z _ _ _ _ ?_
 refine jT (T:=T) SF hC h2 hx fun h' tk' I' hk hsame=>?_
 repeat (any_goals (first|assumption|wp_step))
 exact hq h' tk' I' hk hsame
end
end Mine
end
section
open PySem PySem.W PyProof.Rows PySem.Calls
namespace Mine
noncomputable def jA (q0 q1 q2 q3 q4 p0 q5 q6 q7 p1:Pos) (self why attr:Str):List PySem.Stmt:=
 [.Expr (.Call (.Attribute (.Name "Exception" q0) "__init__" q1) [.Name self q2,.Name why q3] [] q4) p0,.Assign [.Attribute (.Name self q5) attr q6] (.Name why q7) p1]
inductive Lq (T:i7) (x0 x1:Nat) (kd:Kd):List PySem.Stmt->Prop
 |mk (q0 q1 q2 q3 q4 p0 q5 q6 q7 p1:Pos) (hq:(q1.endLine == q4.line)=true) (hk:kd "Exception"=some .globalImplicit):Lq T x0 x1 kd (jA q0 q1 q2 q3 q4 p0 q5 q6 q7 p1 (T.nm x0) (T.nm x1) T.why)
noncomputable abbrev EU:List Value:=[.type "Exception",.type "BaseException",.type "object"]
structure XD where
 nm:Str
 q:Str
 N:Addr
 bs:List Value
 D:Addr
 sn:List Str
 sub:List Value
 ab:Bool
 col:Option Bool
 dd:Option Addr
 k0:Option Value
 k1:Option Value
 k2:Option Value
 k3:Option Value
 k5:Option Value
noncomputable abbrev XD.obj (x:XD) (C:Addr):Obj:=excClassObj x.nm x.q C x.N x.bs (.ref x.D::EU) true x.sn x.sub x.ab x.col x.dd x.k0 x.k1 x.k2 x.k3 x.k5 "Exception.__new__"
inductive Ik (T:i7):Prop
 |mk (mg mb:Str->Option Value) (n1:T.B.Ns mainGlobals mg) (n2:T.B.Ns builtinsNs mb) (g1:mg T.S0=some (.ref T.exc)) (g2:mg "Exception"=none∧mb "Exception"=some (.type "Exception"))
inductive KP (T:i7):Prop
 |mk (fI:Addr) (x0 x1:Nat) (f:findIn T.K (.ref T.exc) "__init__"=some (some (.ref fI))) (i:isFn T.K (.ref fI)=true) (c0:y4 (T.nm x0)=true) (c1:y4 (T.nm x1)=true) (h:DX T fI ⟨[x0,x1],[],[]⟩ (Lq T x0 x1))
structure TE (T:i7) (P:Pg):Prop extends TD T P where
 cls:∃x:XD,T.K.lookup T.exc=some (x.obj T.exc)
 EJ:keepIn T.K (.ref T.exc)=true
 JW:findIn T.K (.ref T.exc) "__setattr__"=some (some (.builtin "object.__setattr__"))
 Hl:findIn T.K (.ref T.exc) T.why=some none
 JY:findCls T.K (.type "Exception") (.type "type") "__init__"=some (.val (.builtin "Exception.__init__"))
 ub:Ik T
 Mn:(T.S0 ==("__debug__":Str))=false
 MZ:KP T
variable {T:i7} {P:Pg} {W:r9} {U:List Addr} {s:Shared} {Y:Hp} {A:Around} {n:Nat} {r:Ev} {env:Env} {own:List (Nat×Addr)} {m:Fr} {h h':Heap} {E:Value->Shared->Prop} {Q:Flow->Shared->Prop}
section
variable {eA tA:Addr} {wv:Value} {sn wn:Str}
theorem n7.IZ {y:Str} {w:Value} {oe:Obj} {vs:Array Value} (x:n7 W env h y w) (he:h.get? eA=some oe) (hd:oe.data=.fields vs) (k:∀b o,b≠eA->h.get? b=some o->h'.get? b=some o):n7 W env h' y w:=by
 have ne:∀{b o},h.get? b=some o->(∀vs,o.data≠.fields vs)->b≠eA:=fun e q z=>q vs ((Oh Obj.data (NX ((z▸e:h.get? eA=_).symm.trans he))).trans hd)
 induction x with
 |loc f kk n e=>exact match n with|⟨o,es,ep,e1,d,r⟩=>.loc f kk ⟨o,es,ep,k _ _ (ne e1 fun vs q=>nomatch d.symm.trans q) e1,d,r⟩ e
 |P0 c kk hc ho i=>exact match i with|⟨o,e,d⟩=>.P0 c kk hc ho ⟨o,k _ _ (ne e fun vs q=>nomatch d.symm.trans q) e,d⟩
structure Flt (T:i7) (h h':Heap) (eA:Addr) (wv:Value) (t dx:Addr):Prop where
 at_:h'.get? eA=some {A9 T.exc t with dict:=some dx}
 dn:h.get? dx=none
 d:h'.DictOf (strKind T.prog T.w) dx [(T.why,wv)]
 k:∀b o,b≠eA->h.get? b=some o->h'.get? b=some o
theorem rI (te:TE T P) (c:Cx T W n A env own m U Y s) {q0 q1 q2 q3 q4 p0:Pos} (hs:n7 W env s.heap sn (.ref eA)) (hw:n7 W env s.heap wn wv) (hcs:y4 sn=true) (hcw:y4 wn=true) (hk:env.kindOf "Exception"=some .globalImplicit) (hq:(q1.endLine == q4.line)=true) (he:s.heap.get? eA=some (A9 T.exc tA))
 (k:∀h' tk t2,h'.get? eA=some (A9 T.exc t2)->(∀b o,b≠eA->s.heap.get? b=some o->h'.get? b=some o)->Q .next {s with heap:=h',toks:=tk}):wpAny (model T.prog T.w) A (exec (.Expr (.Call (.Attribute (.Name "Exception" q0) "__init__" q1) [.Name sn q2,.Name wn q3] [] q4) p0) env) Q E s:=by
 have X:=k7 te.toE4 c.rel
 have kd:=c.fr.kind
 obtain⟨xd,hK⟩:=te.cls
 refine wpAny_Expr_any ?_ (by unfold interactive;rw[kd];rfl) rfl
 rw[arm_eval_Call]
 obtain⟨mg,mb,n1,n2,_,g⟩:=te.ub
 refine NU (P1 rfl (aV c n1 n2 g rfl hk (NU (Ow (W9 rfl hq fun pl=>kD X rfl (by decide+kernel) te.JY (by decide+kernel) ?_)))))
 refine callWith_of (P:=fun h=>T.K.In h) rfl (M4 (K:=T.K) rfl) (evalArgs_plain (spliced_cons (D8 (h:=s.heap) (s:={s with toks:=s.toks+1}) kd hcs hs (spliced_cons (D8 (h:=s.heap) (s:={s with toks:=s.toks+1}) kd hcw hw (spliced_nil ⟨X,?_⟩))))))
 show wpAny _ _ (call (.builtin "Exception.__init__") (.ref eA::[wv])) _ E {s with toks:=s.toks+1}
 refine rZ (rest:=[wv]) F.excBase_Exception (by rfl) (X _ _ hK) he rfl rfl (t0:=tA) rfl ?_ (NY rfl)
 exact k _ _ s.heap.objs.size (Heap.get?_update_self (Obj.mapFields (·.setIfInBounds 0 (.ref s.heap.objs.size))) (Oc (h:=s.heap) {cls:=.type "tuple",data:=.seq [wv].toArray} he) rfl) fun b o hb e=>(Heap.get?_update_other _ _ (Ne.symm hb)).trans (Oc _ e)
theorem oF (te:TE T P) {q5 q6 q7 p1:Pos} (kd:env.scope.kind=.function) (hs:n7 W env s.heap sn (.ref eA)) (hw:n7 W env s.heap wn wv) (hcs:y4 sn=true) (hcw:y4 wn=true) (X:T.K.In s.heap) (he:s.heap.get? eA=some (A9 T.exc tA)) (k:∀h' tk dx,Flt T s.heap h' eA wv tA dx->Q .next {s with heap:=h',toks:=tk}):
 wpAny (model T.prog T.w) A (exec (.Assign [.Attribute (.Name sn q5) T.why q6] (.Name wn q7) p1) env) Q E s:=by
 obtain⟨xd,hK⟩:=te.cls
 rw[arm_exec_Assign]
 refine NU (Ow ?_)
 rw[show swapsWithSole [.Attribute (.Name sn q5) T.why q6] (.Name wn q7) p1.line env=pure false from rfl]
 refine NU (NW ?_)
 rw[OC Bool.false_ne_true]
 refine NU (D8 (h:=s.heap) kd hcw hw ?_)
 rw[show swappedStores [.Attribute (.Name sn q5) T.why q6] (.Name wn q7) env=pure none from rfl]
 refine NU (NW ?_)
 show wpAny _ A (do assign (.Attribute (.Name sn q5) T.why q6) env wv;pure Flow.next) _ E _
 refine NU ?_
 rw[arm_assign_Attribute]
 exact NU (Oo (D8 (h:=s.heap) kd hcs hs (NU (Ow (NU (Oo (qr F.store_Exception (X _ _ hK) (looks_findIn X te.JW) (looks_findIn X te.Hl) he fun h' tk' I' hk hsame=>wpAny_release (NW (k _ _ _ ⟨I',none_at_size _,hk,hsame⟩)))))))))
theorem rJ (te:TE T P) (c:Cx T W n A env own m U Y s) {body:List PySem.Stmt} {x0 x1:Nat} (t:Lq T x0 x1 env.kindOf body) (hs:n7 W env s.heap (T.nm x0) (.ref eA)) (hw:n7 W env s.heap (T.nm x1) wv) (hcs:y4 (T.nm x0)=true) (hcw:y4 (T.nm x1)=true) (he:s.heap.get? eA=some (A9 T.exc tA)) (hB:T.B.get? eA=none)
 (k:∀h' tk t dx,Flt T s.heap h' eA wv t dx->Q .next {s with heap:=h',toks:=tk}):wpAny (model T.prog T.w) A (execs body env) Q E s:=by
 induction t with
 |mk q0 q1 q2 q3 q4 p0 q5 q6 q7 p1 hq hk=>
  refine wpAny_execs_cons (rI te c hs hw hcs hcw hk hq he fun h1 tk1 t2 he1 keep1=>wpAny_execs_cons (oF (s:={s with heap:=h1,toks:=tk1}) te c.fr.kind (hs.IZ he rfl keep1) (hw.IZ he rfl keep1) hcs hcw (fun a o e=>keep1 a o (fun z=>d0 hB (z▸te.vE a o e)) (k7 te.toE4 c.rel a o e)) he1 fun h2 tk2 dx f=>wpAny_execs_nil (k h2 tk2 t2 dx ⟨f.at_,?_,f.d,fun b o hb e=>f.k b o hb (keep1 b o hb e)⟩)))
  induction z:s.heap.get? dx with
  |none=>rfl
  |some o=>
   by_cases hz:dx=eA
   ·exact d0 (hz▸f.dn) he1
   ·exact d0 f.dn (keep1 dx o hz z)
end
variable {F:Fx T}
section
variable {z:Zt} {st:PySem.Stmt}
theorem Flt.exc {W W1:r9} {U:List Addr} {s s':Shared} {Y:Hp} {h':Heap} {tk eA t dx:Nat} {txt:Txt} {tok:Tok} (f:Flt T s'.heap h' eA (.str (i3 txt) tok) t dx) (ha:t6 txt=true) (v5:In W W1 s) (o:i4 T W U s Y U s') (c:d9 T W1 U Y s'.heap) (oe:eA∈W1.own) (e0:s.heap.get? eA=none) (xv:XV T W U s E txt Y):E (.ref eA) {s' with heap:=h',toks:=tk}:=by
 have dx0:=o.ext.since f.dn
 have off:Off (fun b=>b=eA) s'.heap h':=fun a ob e q=>f.k a ob q e
 have hdx:∃o,h'.get? dx=some o:=l9 f.d
 have there:∀a ob,s'.heap.get? a=some ob->∃ob',h'.get? a=some ob':=fun a ob e=>Classical.byCases (fun q:a=eA=>⟨_,q▸f.at_⟩) fun q=>⟨ob,f.k a ob q e⟩
 have mv:∀{a},A6 T ⟨W.l6,dx::W1.own⟩ U a->A6 T W1 U a:=fun z=>z.imp id fun z=>z.imp (v5.l6 _) id
 have rel:d9 T ⟨W.l6,dx::W1.own⟩ U Y h':=c.move (S:=fun b=>b=eA) (fun a q=>q.elim (fun q=>.inl (.inl q)) fun q=>q.elim (fun q=>.inl (.inr (.inl (v5.l6 a q)))) fun q=>q.elim (fun q=>(Of q).elim (fun q=>.inr (q▸f.dn)) fun q=>.inl (.inr (.inr (.inl q)))) fun q=>.inl (.inr (.inr (.inr q)))) off (fun a q=>.inr ((show a=eA from q)▸oe))
  ⟨fun a ha=>(Of ha).elim (fun q=>⟨fun y=>c.N2 f.dn (q▸(mv y).bad),q▸hdx⟩) fun q=>⟨fun y=>(c.o5.own a q).nm (mv y),(c.o5.own a q).ex.elim (there a)⟩,fun a ha=>⟨(c.o5.l6 a (v5.l6 a ha)).nr,(c.o5.l6 a (v5.l6 a ha)).nt,(c.o5.l6 a (v5.l6 a ha)).ex.elim (there a)⟩⟩
 have g:s8 s W ⟨W.l6,dx::W1.own⟩:=⟨rfl,fun a q=>.tail _ (v5.own a q),fun a q=>(Of q).elim (fun q=>.inr (q▸dx0)) (v5.C0 a)⟩
 exact xv _ _ U (o.turn (s'':={s' with heap:=h',toks:=tk}) off (fun a q=>(show a=eA from q)▸e0) ⟨rfl,rfl,rfl⟩ (rel.shrink g.v5)) ⟨_,dx,⟨W.l6,dx::W1.own⟩,_,_,_,tok,g,rel,.tail _ oe,e0,.head _,dx0,ha,f.at_,rfl,rfl,rfl,f.d,(i6 ..).trans (OB rfl),.none⟩
inductive hU (T:i7) (E:Value->Shared->Prop):Value->Shared->Prop
 |mk (e t:Addr) (od:Option Addr) (s:Shared) (X:T.K.In s.heap) (he:s.heap.get? e=some {A9 T.exc t with dict:=od}) (hE:E (.ref e) s):hU T E (.ref e) s
theorem qI (te:TE T P) {W:r9} {U:List Addr} {s:Shared} {A:Around} {txt:Txt} {tok:Tok} (c:d9 T W U Y s.heap) (ar:Ar T W A (n+1) s.heap) (ha:t6 txt=true) (xv:XV T W U s E txt Y):wpAny (model T.prog T.w) A (call (.ref T.exc) [Value.str (i3 txt) tok]) (hU T E) E s:=by
 obtain⟨xd,hK⟩:=te.cls
 obtain⟨fI,x0,x1,hfi,ED,hc0,hc1,hF⟩:=te.MZ
 have X:=k7 te.toE4 c
 obtain⟨FD,body0,dv0,hh,_⟩:=id hF
 obtain⟨oc,od,osl,hlook⟩:=hh.look
 have hoc:oc=.type "function":=by
  have z:=beq_iff_eq.mp ED
  unfold typeIn at z
  simp only[hlook]at z
  injection z
 refine wR F.excBase_Exception (by rfl) (by rfl) (by rfl) (by rfl) (X _ _ hK) (looks_findIn X hfi) (X _ _ hlook) hoc ?_ (NY rfl)
 have nw:∀d,d∈[s.heap.objs.size,s.heap.objs.size+1]->s.heap.get? d=none:=two_all (none_at_size _) (Heap.get?_none_of_le (Nat.le_succ _))
 have keep:∀b ob,s.heap.get? b=some ob->((s.heap.push {cls:=.type "tuple",data:=.seq [Value.str (i3 txt) tok].toArray}).push (A9 T.exc s.heap.objs.size)).get? b=some ob:=fun b ob e=>Oc _ (Oc _ e)
 have gd:((s.heap.push {cls:=.type "tuple",data:=.seq [Value.str (i3 txt) tok].toArray}).push (A9 T.exc s.heap.objs.size)).get? s.heap.objs.size=some {cls:=.type "tuple",data:=.seq [Value.str (i3 txt) tok].toArray}:=by heap_get
 have gx:((s.heap.push {cls:=.type "tuple",data:=.seq [Value.str (i3 txt) tok].toArray}).push (A9 T.exc s.heap.objs.size)).get? (s.heap.objs.size+1)=some (A9 T.exc s.heap.objs.size):=by heap_get
 generalize (s.heap.push {cls:=.type "tuple",data:=.seq [Value.str (i3 txt) tok].toArray}).push (A9 T.exc s.heap.objs.size)=h2 at keep gd gx⊢
 have ar2:Ar T (W.add [s.heap.objs.size,s.heap.objs.size+1]) (A.under (.builtin "type.__call__" ⟨.ref T.exc::[Value.str (i3 txt) tok],[]⟩)) n h2:=(S6 ar).mv (W':=W.add [s.heap.objs.size,s.heap.objs.size+1]) (fun J q=>q) (Off.of_keeps (S:=fun J=>False) keep) (fun J J q=>q.elim)
 exact wpAny_call (Q6 te.toE4 hF (A:=A.under _) (own:=[]) (W0:=W) (Z4:=U) (s0:=s) (m:=[]) (s:={s with heap:=h2}) (c.adopt keep nw (two_all ⟨_,gd⟩ ⟨_,gx⟩)) (ar2.le (Nat.zero_le n)) (room_0 ar.depth (OF 2):A.depth+2≤900) (room_0 ar.units (NY rfl):A.units+((Code.builtin "type.__call__" ⟨.ref T.exc::[Value.str (i3 txt) tok],[]⟩).cUnits+3)≤9000) (i4.keeps (t:=s.toks) c keep) (s8.add nw).v5 (fun a ha=>(c.o5.own a ha).ex) (S6 ar).frames (fun J J J q=>nomatch q) (fun J J q=>nomatch q) (OF _) (OF _) (fun x v e=>nomatch e)
  fun env W1 s' body E' en htr=>rJ te en.fs.cx htr (en.held 0 x0 _ rfl rfl) (en.held 1 x1 _ rfl rfl) hc0 hc1 (en.keep _ _ gx) (by
   induction q:T.B.get? (s.heap.objs.size+1)with
   |none=>rfl
   |some o=>exact d0 (nw _ (.tail _ (.head _))) (c.base _ _ q)) fun h' tk t dx f=>⟨rfl,.mk _ t (some dx) _ (fun a o e=>f.k a o (fun q=>d0 (nw _ (.tail _ (.head _))) (q▸X a o e)) (en.keep a o (keep a o (X a o e)))) f.at_ (f.exc ha en.fs.st.v5 en.fs.out en.fs.cx.rel (en.own _ (Oa _ (.tail _ (.head _)))) (nw _ (.tail _ (.head _))) xv)⟩)
theorem qH (te:TE T P) (hr:g7 T n r.ev) (rm:Rm F (n+1)) (f:Fs F z m Y) {e:X} (t:I9 T F.env.kindOf (.raise e) st) (h:(g8 P r m (.raise e) Y).c4 (KF F Q) (XF F E)):wpAny (model T.prog T.w) F.A (exec st F.env) Q E z.s:=
 t.yo fun e' q r' p hk te'=>by
  obtain⟨xd,hK⟩:=te.cls
  rw[arm_exec_Raise]
  refine NU (Ow (FQ (C:=T.exc) (nm:=xd.nm) (q:=xd.q) (N:=xd.N) (bs:=xd.bs) (bm:=.ref xd.D::EU) (hdct:=true) (sn:=xd.sn) (sub:=xd.sub) (ab:=xd.ab) (col:=xd.col) (dd:=xd.dd) (k0:=xd.k0) (k1:=xd.k1) (k2:=xd.k2) (k3:=xd.k3) (k5:=xd.k5) (newId:="Exception.__new__") (by rfl) f.cx.ar.handled (NU (wpAny_mono (Q:=hU T E) (E:=E) ?_ (fun v w9 T9=>NU (Ow (NW (match v,w9,T9 with|_,_,.mk e t od s X he hE=>⟨e,t,od,rfl,X _ _ hK,he,hE⟩)))) fun J J x=>x))))
  rw[u9]
  have rm':N6 F.A n:=⟨Oe (Oj (Nat.mul_le_mul_left 2 (Nat.le_succ n)) _) rm.r.depth,Oe (Oj (Nat.mul_le_mul_left 20 (Nat.le_succ n)) _) rm.r.units⟩
  refine NU (match te.ub with|⟨mg,mb,n1,n2,g1,_⟩=>Name_function_global f.cx.fr.kind hk (loadGlobal_global (f.cx.fr.glob▸A1 f.cx.rel.base n1) g1 ?_) te.Mn)
  have h1:(G7 r m [e] Y).c4 (Nd T z.W z.U z.s fun ws c5=>T.K.In c5.heap∧wpAny (model T.prog T.w) F.A (call (.ref T.exc) ([]++ws)) (hU T E) E c5) (XV T z.W z.U z.s E):=R.d5.mpr (R.c4.mono (R.d5.mp h) (fun v c9 h=>a9 h fun txt et (h:XF F E txt c9)=>by
   obtain rfl:=U8 et
   refine fun ws c5 c8 o q=>⟨k7 te.toE4 o.rel,?_⟩
   cases q with
   |cons _ w _ ws _ a q=>cases q with
    |nil=>exact VR.n8 (G:=fun w=>wpAny (model T.prog T.w) F.A (call (.ref T.exc) [w]) (hU T E) E c5) (.mk (f7:=pS T z.W c8) _ _ a) fun tok ha=>qI te o.rel ((f.mz rm.r).ar.ext o.ext) ha ((f.xv h).step o)) fun J J x=>f.xv x)
  refine callWith_of (P:=fun h=>T.K.In h) (by rw[W7 (.cons _ e' _ _ te' .nil)];rfl) (keeps_K te.EJ) (J3 (.cons _ e' _ _ te' .nil) nofun (gG hr (.cons _ e' _ _ te' .nil) (f.mz rm') h1))
end
structure TG (T:i7) (P:Pg):Prop extends TE T P where
 Na:∃mg,T.B.Ns mainGlobals mg∧∀Pt,Pt∈T.tabs->T.B.BuiltinsAt mg Pt
theorem sv {pos pos':Pos} {c cv:Value} (l:List Value) (h:TriplesOk l) (e:codeAmong pos' (l++[rawInt pos.line,rawInt pos.col,c])=some cv):codeAmong pos' l=some cv∨cv=c:=by
 fun_induction TriplesOk l with
 |case1=>
  simp only[List.nil_append,codeAmong,rawInt]at e
  split at e
  ·exact .inr (NX e).symm
  ·cases e
 |case2 a t b u x rest ih=>
  simp only[List.cons_append,codeAmong]at e⊢
  split at e
  ·rename_i hc;rw[OB hc];exact .inl e
  ·rename_i hc;rw[OC hc];exact ih h e
 |case3 l h1 h2=>exact h.elim
section
variable {W':r9} {d7:List Addr} {sc:Scope}
theorem BC (c:d9 T W U Y s.heap) {Pt:Addr} (hP:Pt∈T.tabs) {tk:Nat} (keep:∀a o,a≠Pt->s.heap.get? a=some o->h'.get? a=some o) (hinv:gZ T (k9 T W U) h' Pt):i4 T W U s Y U {s with heap:=h',toks:=tk}:=
 have off:Off (fun a=>a=Pt) s.heap h':=fun a o e q=>keep a o q e
 have bP:k9 T W U Pt:=.inr (.inr (.inr hP))
 have there:∀a o,s.heap.get? a=some o->∃o',h'.get? a=some o':=fun a o e=>Classical.byCases (fun q:a=Pt=>q▸match hinv with|⟨_,e,_,_⟩=>⟨_,e⟩) fun q=>⟨o,keep a o q e⟩
 have ms:Ms U U (k9 T W U) (k9 T W U) (fun a=>a=Pt) s.heap h':=⟨fun J J e=>e,off,fun a J J q=>(show a=Pt from q)▸bP,fun J J J q=>q⟩
 {ext:=⟨fun J J e=>e,fun J q=>.inl q,off.mono fun a o J q=>.inr (.inr ((show a=Pt from q)▸hP)),there,fun a ha o e=>⟨o.slots,keep a o (fun q=>(c.o5.l6 a ha).nt (q▸hP)) e⟩,rfl,rfl,rfl⟩
  rel:={
   len:=c.len
   nodup:=c.nodup
   objs:=fun i o a h1 h2=>OR.ms ms (off.at fun q=>c.sY (Q1 h2) ((show a=Pt from q)▸hP)) (c.objs i o a h1 h2)
   base:=fun a o e=>keep a o (fun q=>d0 (c.fresh Pt bP) (q▸e)) (c.base a o e)
   fresh:=c.fresh
   o5:=c.o5.keeps there
   tabs:=fun P' hP'=>Classical.byCases (fun q:P'=Pt=>q▸hinv) fun q=>(c.tabs P' hP').move off q ms.sb ms.bb}}
noncomputable abbrev GJ (q:Str) (body':Ex) (sc:Scope) (cl:List (Str×Addr)) (pm:Value) (cA:Addr) (ctv:Value):Obj:={cls:=.type "function",data:=.func (kla_fn "<lambda>" q ck body' sc cl pm (.ref cA) ctv)}
theorem zf (tg:TG T P) (c:Cx T W n A env own m U Y s) {body':Ex} {Pt:Addr} {lp:Pos} (hl:T.lam env.kindOf=some Pt) (ls:pU T env.kindOf sc) {Q E:Value->Shared->Prop}
 (k:∀fA pm ctv cA h' tk,i4 T W U s Y U {s with heap:=h',toks:=tk}->h'.get? fA=some (GJ (env.qual++ "<lambda>") body' sc (v7 env.cells sc.names []) pm cA ctv)->h'.CodeRec (.ref cA) (env.qual++ "<lambda>")->Q (.ref fA) {s with heap:=h',toks:=tk}):
 wpAny (model T.prog T.w) A (eval (.Lambda ck body' sc lp) env) Q E s:=by
 obtain⟨cc,hPt,hq,hcode,hd⟩:=c.fr.code Pt hl
 obtain⟨ps,hP,ht,hcv⟩:=c.rel.tabs Pt hPt
 obtain⟨mg,n1,hbl⟩:=tg.Na
 have hg:=A1 c.rel.base n1
 have hC:=hd.keeps c.rel.base
 have hcl:=Z1 (E0 c.fr ls.free)
 obtain⟨bm,ob,b1,b2,b3,b4,b5,b6⟩:=hbl Pt hPt
 have hb:s.heap.BuiltinsAt mg Pt:=⟨bm,ob,b1,b2,b3,b4,c.rel.base _ _ b5,b6⟩
 have hgP:mainGlobals≠Pt:=fun q=>match hg with|⟨o,es,ep,e,d,_⟩=>nomatch (Oh Obj.data (NX (hP.symm.trans (q▸e)))).trans d
 refine kla_eval rfl ?_
 induction hcm:codeAmong lp ps.toList with
 |some cv=>
  obtain⟨cA,rfl,nb,hrec⟩:=hcv lp cv hcm
  refine kla_makeFunctionHit hcl c.fr.glob hg hcode hC hP ht hcm hb fun ctv h' tk hk hsz=>?_
  have keep:∀b o,s.heap.get? b=some o->(h'.push (GJ (env.qual++ "<lambda>") body' sc (v7 env.cells sc.names []) ((mg "__name__").getD .none) cA ctv)).get? b=some o:=fun b o e=>Oc _ (hk b o e)
  exact k _ _ _ cA _ tk (i4.keeps c.rel keep) (Od _ rfl) ((hq▸hrec).keeps keep)
 |none=>
  refine kla_makeFunction hcl c.fr.glob hg hcode hC hP ht hcm hgP hb fun cA ctv h' tk hx hge hlt hrec htb=>?_
  have hrec':=hrec.push (kla_obj "<lambda>" (env.qual++ "<lambda>") ck body' sc (v7 env.cells sc.names []) ((mg "__name__").getD .none) cA ctv)
  have nbad:¬k9 T W U cA:=fun q=>(c.rel.cJ q).elim fun o e=>absurd (OE e) (Nat.not_lt.mpr hge)
  refine k _ _ _ cA _ tk (BC c.rel hPt (fun a o q e=>Oc _ (hx a o q e)) ⟨_,Oc _ htb,(Array.toList_append ..)▸TriplesOk_snoc _ _ _ _ ht,fun pos' cv q=>(sv _ ht ((Array.toList_append ..)▸q)).elim (fun q=>match hcv pos' cv q with
   |⟨c1,e1,nb,c2,o,vs,t',e2,g,d,z⟩=>⟨c1,e1,nb,c2,o,vs,t',e2,Oc _ (hx _ _ (fun z=>nb (Value.ref.inj (e2.symm.trans e1)▸z▸.inr (.inr (.inr hPt)))) g),d,z⟩) fun q=>⟨cA,q,nbad,q▸hq▸hrec'⟩⟩) (Od _ rfl) hrec'
theorem G2.lam (c:G2 T W U env own m h) {env':Env} (ls:pU T env.kindOf sc) (es:env'.scope=sc) (ec:env'.cells=v7 env.cells sc.names []) (eg:env'.globals=mainGlobals) (eb:env'.builtins=builtinsNs) (hL:env'.locals∈W'.l6) (ho:∀a,a∈W.own->a∈W'.own) (keep:∀a o,h.get? a=some o->h'.get? a=some o)
 (mm:Ms U d7 (k9 T W U) (k9 T W' d7) (fun J=>False) h h') {f:Str->Option Value} (hn:h'.Ns env'.locals f):G2 T W' d7 env' [] (C6 m) h':=
 have hk:env'.kindOf=fun n=>sc.names.lookup n:=by funext x;show env'.scope.names.lookup x=_;rw[es]
 have ht:=E0 c ls.free
 have fr:∀{y k},sc.names.lookup y=some k->T6 k=true->k=.free:=fun{y k} e q=>by
  have hm:=mem_of_lookup e
  induction k<;>first|rfl|exact absurd rfl (ls.loc _ hm)|exact absurd rfl (ls.cell _ hm)|exact Bool.noConfusion q
 {kind:=es▸ls.kind
  glob:=eg
  blt:=eb
  Y1:=hL
  loc:=fun x v e=>c.loc x v (X5 e).1
  ns:=⟨f,hn⟩
  var:=fun x v e q=>b7 (hk▸q:f6 ((fun n=>sc.names.lookup n) (T.nm x)) T6=true) fun k ek q=>by
   have ek:sc.names.lookup (T.nm x)=some k:=ek
   obtain rfl:=fr ek q
   have l:=X5 e
   have hf:=mem_of_lookup ek
   have hc:=ls.free _ hf rfl
   obtain⟨w,hd,fv⟩:=c.var x v l.1 (by rw[hc];rfl)
   refine⟨w,?_,.pl v w (fv.quiet l.2).1 ((fv.quiet l.2).2.ms mm)⟩
   induction hd with
   |loc _ k=>exact S9 k hc nofun
   |P0 ca k hc' o i=>exact .P0 ca (.inr ((congrFun hk _).trans ek)) (ec▸(ax ht hf).trans hc') (ho _ o) (D4 i (keep _))
  has:=fun y q=>by
   rw[hk]at q
   exact absurd (fr q rfl) nofun
  own:=fun J J q=>nomatch q
  code:=fun Pt q=>d0 ls.lam (hk▸q)}
theorem zg (tk:E4 T P) (hr:g7 T n r.ev) {body:X} {body':Ex} {q:Str} {fA cA:Addr} {pm ctv:Value} {Rz:Result->Shared->Prop} (c0:G2 T W U env own m h) (ho:∀a,a∈W.own->a∈W'.own) (keep0:∀a o,h.get? a=some o->s.heap.get? a=some o) (mm:Ms U U (k9 T W U) (k9 T W' U) (fun J=>False) h s.heap)
 (c:d9 T W' U Y s.heap) (ar:Ar T W' A 0 s.heap) (rm:∀env,N6 (A.deeper env) n) (ED:s.heap.get? fA=some (GJ q body' sc (v7 env.cells sc.names []) pm cA ctv)) (hcd:s.heap.CodeRec (.ref cA) q) (ls:pU T env.kindOf sc) (t:Tr T (fun n=>sc.names.lookup n) body body')
 (h:(r.ev (C6 m) body Y).c4 (KV T W' U s fun v=>Rz (.ok (.ret v))) (XV T W' U s fun e=>Rz (.error e))):codeAny (model T.prog T.w) A (.call (.ref fA) ⟨[],[]⟩) Rz s:=by
 refine kla_callFunE (Ot (Oe (Nat.le_add_right A.depth (1+2 * n)) (by have:=(rm env).depth;rw[←Nat.add_assoc];exact this)) (by decide:900 < 1000)) ED rfl ls.co ls.gen rfl hcd ?_
 rw[show bindArgs (kla_fn "<lambda>" q ck body' sc (v7 env.cells sc.names []) pm (.ref cA) ctv) ⟨[],[]⟩=pure []from rfl]
 refine NW (wpAny_newFunctionEnv ls.cell (fun x hx=>nomatch hx) (fun n6 hns hsb=>?_) ls.kind)
 have keep:∀b o,s.heap.get? b=some o->n6.get? b=some o:=fun b o e=>hsb.extBut b o (Nat.ne_of_lt (OE e)) (Oc _ e)
 refine⟨match tk.tp with|⟨mc,hn,hm⟩=>⟨mc,(A1 c.base hn).keeps keep,hm⟩,?_⟩
 generalize henv:newEnv sc s.heap.objs.size mainGlobals (v7 env.cells sc.names []) (q++ ".<locals>.") (some fA) (.ref cA) none builtinsNs=B9
 show codeAny _ _ (.expr body' _) _ _
 have e1:B9.locals=s.heap.objs.size:=henv▸rfl
 have e2:B9.scope=sc:=henv▸rfl
 have e3:B9.cells=v7 env.cells sc.names []:=henv▸rfl
 have e4:B9.globals=mainGlobals:=henv▸rfl
 have e5:B9.builtins=builtinsNs:=henv▸rfl
 have e6:B9.frame=some B9.locals:=henv▸rfl
 rw[←e1]at hns
 clear henv
 have ek:B9.kindOf=fun n=>sc.names.lookup n:=by funext x;show B9.scope.names.lookup x=_;rw[e2]
 have hke:B9.scope.kind=.function:=e2▸ls.kind
 have Lnew:s.heap.get? B9.locals=none:=e1▸none_at_size _
 have ft:I0 B9.locals n6:=H6 hns
 have ent:dq s.heap n6 B9.locals []:=⟨keep,Lnew,ft.elim fun o q=>⟨o,q.1⟩,fun J q=>(nomatch q),fun J q=>(nomatch q),fun q=>nomatch q⟩
 have hLB:T.B.get? B9.locals=none:=by
  induction z:T.B.get? B9.locals with
  |none=>rfl
  |some o=>exact d0 Lnew (c.base _ _ z)
 have m2:Ms U U (k9 T W' U) (k9 T (W'.enter B9.locals []) U) (fun J=>False) s.heap n6:=c.T3 (fun J q=>ent.bad q) (Off.of_keeps keep) fun J q=>q.elim
 have fr:G2 T (W'.enter B9.locals []) U B9 [] (C6 m) n6:=c0.lam ls e2 e3 e4 e5 (.head _) (fun a q=>ho a q) (fun a o e=>keep a o (keep0 a o e)) ⟨fun J J e=>e,fun a o e q=>keep a o (keep0 a o e),fun J J J q=>q.elim,fun a o e q=>mm.bb a o e (m2.bb a o (keep0 a o e) q)⟩ hns
 have r0:=rm B9
 have cx:Cx T (W'.enter B9.locals []) 0 (A.deeper B9) B9 [] (C6 m) U Y {s with heap:=n6,toks:=s.toks+([]:List (Str×Value)).length}:=⟨c.enter ent,fr,ar.enter (Oe (Nat.le_add_right _ _) r0.depth) (Oe (Nat.le_add_right _ _) r0.units) ent hke e6 hLB ft⟩
 have cm:∀y ca,B9.cells.lookup y=some ca->ca∈W'.own:=fun y ca hc=>by
  obtain⟨hf,hc⟩:=gP (E0 c0 ls.free) (e3▸hc)
  exact match c0.has y (ls.free _ hf rfl)with|⟨ca',v,hc',o,i⟩=>(NX (hc'.symm.trans hc))▸ho _ o
 have f:Fs (T:=T) ⟨A.deeper B9,B9,W',U,s,[],[]⟩ ⟨W'.enter B9.locals [],[],U,{s with heap:=n6,toks:=s.toks+([]:List (Str×Value)).length}⟩ (C6 m) Y:=⟨cx,⟨In.enter ent,fun J J J q=>(nomatch q),fun J J q=>(nomatch q),Lnew,fun J J J J q=>(nomatch q),cm,fun a ha=>(c.o5.own a ha).ex⟩,i4.keeps c keep,⟨fun J J J q=>(nomatch q),fun J J q=>(nomatch q)⟩⟩
 refine kla_codeExpr (hr (f.mz r0) (ek▸t) (R.c4.mono h (fun v c7 k w s3 AZ o hv hf=>f.kv o hv hf k) fun txt c7 x=>f.xv fun e s3 AZ W3 inn3 hL3 ft3 out3 exc3=>?_))
 exact match ar.frames with
  |⟨fs,hA1,hA2,hA3⟩=>jg (F:=⟨A.deeper B9,B9,W',U,s,[],[]⟩) (A:=A.deeper B9) inn3 (Oh (Option.map _) hA1:A.frames.map _=_) hA2 hA3 hL3 hke e6 ft3 hLB out3 exc3 x
end
section
variable {prog:Program} {w:World} {g:Array GenState} {d:Drawn} {t:Nat} {os:OsState} {a:Addr} {o:Obj} {vs:Array Value}
 {nm q:Str} {C N:Addr} {bs bm bmB:List Value} {hdct:Bool} {sn:List Str} {sub:List Value} {ab:Bool} {col:Option Bool} {dd:Option Addr} {k0 k1 k2 k3 k5:Option Value} {B newId:String} {K:Frag} {od:Option Obj} {NT:Str} {v:Value}
theorem wO {M:Model} {nameV:Value} {Q:Unit->Shared->Prop} (hcB:(Value.ref C::bm).contains (.type "BaseException")=true) (hC:h.get? C=some (excClassObj nm q C N bs bm hdct sn sub ab col dd k0 k1 k2 k3 k5 newId))
 (hx:h.get? a=some o) (hc:o.cls=.ref C) (hq:Q () ⟨h,g,d,t,os⟩):wpAny M A (checkBuiltinCall "BaseException.__getattribute__" ⟨[.ref a,nameV],[]⟩) Q E ⟨h,g,d,t,os⟩:=by
 have hk:builtinKind "BaseException.__getattribute__"=some .slot:=by decide+kernel
 have hsplit:splitId "BaseException.__getattribute__"=some ("BaseException","__getattribute__"):=by decide+kernel
 have ha:=F.args_bexc_ga (.ref a) nameV
 simp only[checkBuiltinCall,hk,hsplit]
 refine NU ?_
 ·unfold isInstance
  repeat (first|(with_reducible refine wpAny_loadPart_at hx ?_;rw[hc])|(with_reducible refine wpAny_isSubtype_exc hC ?_;rw[hcB])|wp_step)
  exact hq
theorem Dm {expr:Bool} {Q:Value->Shared->Prop} (FB:ExcAttrFacts B) (X:K.In h) (hcB:(Value.ref C::bm).contains (.type "BaseException")=true) (hC:h.get? C=some (excClassObj nm q C N bs bm hdct sn sub ab col dd k0 k1 k2 k3 k5 newId))
 (I:InstAt h a o C od) (hg:findIn K (.ref C) "__getattribute__"=some (some (.builtin "BaseException.__getattribute__"))) (hga:findIn K (.ref C) "__getattr__"=some none) (hf:findObj K C od NT=some (.value v)) (hh:handedIn v=true) (hq:Q v ⟨h,g,d,t+1,os⟩):
 wpAny (model prog w) A (getAttr (.ref a) NT expr) Q E ⟨h,g,d,t,os⟩:=by
 have f3:=FB.ga.bind (.ref a)
 have hx0:(expr&&onTheHeap (Value.builtin "BaseException.__getattribute__"))=false:=by induction expr<;>rfl
 have hx2:(Value.builtin "BaseException.__getattribute__"== Value.builtin "object.__getattribute__")=false:=by decide+kernel
 have hx1:(onTheHeap (Value.ref C)&&Value.builtin "BaseException.__getattribute__"== Value.builtin "object.__getattribute__")=false:=by rw[hx2];rfl
 have hx:=I.at_
 have hc:=I.cls
 have h1:=looks_findIn (M:=model prog w) X hg
 have hl:=looks_find (M:=model prog w) X I hf
 unfold getAttr getAttrBy
 refine NU (wpAny_mkText (Oo (NU (I.type.at (NU (h1.at ?_))))))
 dsimp only
 rw[hx1]
 rw[OC (by decide)]
 have h2:=looks_findIn (M:=model prog w) X hga
 repeat (any_goals (first|assumption|(with_reducible refine wpAny_loadPart_at hx ?_;rw[hc])|wp_step))
 refine h2.at ?_
 repeat (any_goals (first|assumption|(with_reducible refine wpAny_loadPart_at hx ?_;rw[hc])|wp_step))
 refine codeAny_call_builtin FB.ga.plain F.entry_bexc_ga (wO hcB hC hx hc ?_)
 unfold Builtin.«object.__getattribute__»
 repeat (any_goals (first|assumption|(with_reducible refine wpAny_loadPart_at hx ?_;rw[hc])|with_reducible refine NU (hl.at ?_)|wp_step))
 show wpAny _ _ (handedOut v) _ _ _
 rw[handedOut_of hh]
 exact NW hq
end
noncomputable def js (k0 k1 k2 k3:Nat) (p0 p1 p2 p3 p4 p5 p6 p7 p8 p9 p10 p11 p12:Pos) (call fault why exc:Str):List PySem.Stmt:=
 [.Try [.Return (some (.Tuple [.Constant (.str "") k0 p0,.Call (.Name call p1) [] [] p2] k1 p3)) p4]
  [.ExceptHandler (some (.Name exc p5)) (some fault) [.Return (some (.Tuple [.Attribute (.Name fault p6) why p7,.Constant .none k2 p8] k3 p9)) p10] p11] [] [] p12]
inductive Lp (T:i7) (x0:Nat) (fault:Str) (kd:Kd):List PySem.Stmt->Prop
 |mk (k0 k1 k2 k3:Nat) (p0 p1 p2 p3 p4 p5 p6 p7 p8 p9 p10 p11 p12:Pos) (hx:kd T.S0=some .globalImplicit) (hf:kd fault=some .local):Lp T x0 fault kd (js k0 k1 k2 k3 p0 p1 p2 p3 p4 p5 p6 p7 p8 p9 p10 p11 p12 (T.nm x0) fault T.why T.S0)
inductive DW (T:i7):Prop
 |mk (x0:Nat) (fault:Str) (c0:y4 (T.nm x0)=true) (c1:y4 fault=true) (h:DX T T.A2 ⟨[x0],[],[]⟩ (Lp T x0 fault))
structure TH (T:i7) (P:Pg):Prop extends TG T P where
 MY:findIn T.K (.ref T.exc) "__getattribute__"=some (some (.builtin "BaseException.__getattribute__"))
 MX:findIn T.K (.ref T.exc) "__getattr__"=some none
 EK:hasDictIn T.K T.exc=true
 EB:keepIn T.K (.ref T.A2)=true
 EC:∃mg,T.B.Ns mainGlobals mg∧mg T.Q0=some (.ref T.A2)
 MV:(T.Q0 ==("__debug__":Str))=false
 ED:DW T
theorem Dh {M:Model} {A:Around} {E:Value->Shared->Prop} {s s0:Shared} {Q:Unit->Shared->Prop} {W:r9} {ea:Addr} {oe:Obj} {vs:Array Value} (he:s.heap.get? ea=some oe) (hd:oe.data=.fields vs) (ht:mn W s0 s.heap ea vs[1]?)
 (h:∀h',(∀b,h'.get? b=s.heap.get? b)->Q () {s with heap:=h'}):wpAny M A (setFlight (.ref ea) none) Q E s:=by
 unfold setFlight
 generalize hx:vs[1]? =x at ht
 induction ht with
 |none=>
  refine NU (wpAny_field he hd hx ?_)
  rw[OC (by decide)]
  exact NW (h _ fun J=>rfl)
 |some tt oT ts _ _ _ hT hdT h3=>
  refine NU (wpAny_field he hd hx ?_)
  rw[OB (show(Value.ref tt != Value.none)=true from rfl)]
  refine wpAny_setField hT hdT (Array.getElem?_eq_some_iff.mp h3).1 (h _ fun b=>?_)
  by_cases q:tt=b
  ·subst q
   have d4:=Obj.data_mapFields hdT (·.setIfInBounds 3 ((none:Option Addr).elim Value.none fun f=>rawInt f))
   have e:ts.setIfInBounds 3 ((none:Option Addr).elim Value.none fun f=>rawInt f)=ts:=by
    have hlt:=(Array.getElem?_eq_some_iff.mp h3)
    rw[Array.setIfInBounds,dif_pos hlt.1]
    exact(Oh (fun x=>ts.set 3 x hlt.1) hlt.2.symm).trans (Array.set_getElem_self hlt.1)
   rw[Heap.get?_update_self (Obj.mapFields (·.setIfInBounds 3 ((none:Option Addr).elim Value.none fun f=>rawInt f))) hT (Obj.isFreed_of_fields d4),hT,ba hdT,e]
   obtain⟨c,d,dt,sl⟩:=oT
   cases hdT
   rfl
  ·exact Heap.get?_update_other _ _ q
section
variable {fault:Str} {t:Txt} {e:Value}
theorem vJ (th:TH T P) {k2 k3:Nat} {p5 p6 p7 p8 p9 p10 p11:Pos} {g0:Str->Option Value} (kd:F.env.scope.kind=.function) (hgl:F.env.globals=mainGlobals) (hfk:F.env.kindOf fault=some .local) (hxk:F.env.kindOf T.S0=some .globalImplicit) (hfl:y4 fault=true) (hLB:T.B.get? F.env.locals=none) (hLn:F.s0.heap.get? F.env.locals=none)
 (v5:In F.W0 W F.s0) (hL:F.env.locals∈W.l6) (rel5:d9 T W U Y s.heap) (o:i4 T F.W0 F.Z4 F.s0 Y U s) (x:sD T F.W0 F.s0 U Y s.heap t e) (hns:s.heap.Ns F.env.locals g0) (x':sD T W F.s0 U Y s.heap t e) (kx:KV T F.W0 F.Z4 F.s0 (fun w=>Q (.ret w)) (.tup [.str t,.none]) Y):
 wpAny (model T.prog T.w) A (handleBy e F.env [.ExceptHandler (some (.Name T.S0 p5)) (some fault) [.Return (some (.Tuple [.Attribute (.Name fault p6) T.why p7,.Constant .none k2 p8] k3 p9)) p10] p11]) (fun f s'=>match f with|.next=>wpAny (model T.prog T.w) A (execs [] F.env) Q E s'|f=>Q f s') E s:=by
 have tk:=th.toE4
 induction x' with
 |mk ea dx W' oe vs kws k g rel hea hen hdx hdn hasc he hcls hdict hdat hd hwhy htr=>
 obtain⟨xd,hK⟩:=th.cls
 have X4:=k7 tk o.rel
 have hC:=X4 _ _ hK
 obtain⟨mg,mb,n1,n2,g1,_⟩:=th.ub
 refine wpAny_handleBy_cons (codeAny_handlers_test (Name_function_global kd hxk (loadGlobal_global (hgl▸A1 o.rel.base n1) g1 ?_) th.Mn)) (by intro q;cases q)
 obtain⟨h4,g4,d4,t4,os4⟩:=s
 refine wpAny_excMatches_sub_self hC he hcls rfl (codeAny_handlers_suite_as ?_)
 refine Dh he hdat htr fun h5 e5=>?_
 have hns5:h5.Ns F.env.locals g0:=T1 hns fun ob e=>⟨ob.slots,(e5 _).trans e⟩
 have hp:(F.env.scope.kind ==.class ||(F.env.scope.kind ==.module&&F.env.locals != F.env.globals))=false:=by rw[kd];rfl
 refine wpAny_storeName_local hfk hns5 (fun h6 hns6 hs6=>?_) hp
 have nfr:∀b,b∈W'.own->b≠F.env.locals:=fun b hb q=>(rel.o5.own b hb).nm (.inr (.inl (by rw[g.l6,q];exact hL)))
 have k6:∀b ob,b≠F.env.locals->h4.get? b=some ob->h6.get? b=some ob:=fun b ob q e=>(hs6.2 b q).trans ((e5 b).trans e)
 have he6:=k6 _ _ (nfr _ hea) he
 have X6:T.K.In h6:=fun a o e=>k6 a o (fun q=>d0 hLB (q▸th.vE a o e)) (X4 a o e)
 obtain⟨odx,hodx,hl⟩:=cu hd T.why
 have hodx6:=k6 _ _ (nfr _ hdx) hodx
 refine wpAny_execs_cons (wpAny_Return_some (wpAny_Tuple_spliced (spliced_cons ?_)))
 rw[arm_eval_Attribute]
 refine NU (P1 rfl (D8 (T:=T) (W:=W) (h:=h6) kd hfl (.loc _ hfk hns6 (OB rfl)) ?_))
 refine NU (Ow (NU (Oo (Dm PySem.F.attr_Exception X6 (by rfl) (X6 _ _ hK) (o:=oe) (od:=some odx) ⟨he6,hcls,by unfold notCls;rw[hdat],by rw[hdict];exact hodx6⟩ th.MY th.MX (findObj_own th.EK th.Hl rfl (by rw[hl,hwhy])) rfl ?_))))
 refine NU (wpAny_letTemporaryGo (NW (spliced_cons (wpAny_Constant_none (k:=k2) (pos:=p8) (spliced_nil ⟨NY rfl,?_⟩)))))
 refine wpAny_nameGoes hfk (hns6.keeps fun b o e=>Oc _ e) hp fun h8 m8 hns8 hs8=>?_
 have k8:∀b ob,h4.get? b=some ob->b≠F.env.locals->h8.get? b=some ob:=fun b ob e q=>(hs8.2 b q).trans (Oc _ (k6 b ob q e))
 have L8:=H6 hns8
 have th8:∀b ob,h4.get? b=some ob->∃ob',h8.get? b=some ob':=fun b ob e=>Classical.byCases (fun q:b=F.env.locals=>q▸L8.elim fun o q=>⟨o,q.1⟩) fun q=>⟨ob,k8 b ob e q⟩
 have rel8:d9 T F.W0 U Y h8:=(rel5.turn ⟨fun b ob e q=>k8 b ob e q,th8,fun b q=>.inl ((show b=F.env.locals from q)▸hL),fun b J q=>(show b=F.env.locals from q)▸L8⟩).shrink v5
 have tL:h6.objs.size≠F.env.locals:=fun q=>(H6 hns6).elim fun o z=>absurd (q▸OE z.1) (Nat.lt_irrefl _)
 exact kx _ _ U (o.turn (s'':=⟨h8,g4,d4,_,os4⟩) (D:=fun b=>b=F.env.locals) (fun b ob e q=>k8 b ob e q) (fun b q=>(show b=F.env.locals from q)▸hLn) ⟨rfl,rfl,rfl⟩ rel8) (.mk _ _ (.tup _ [.str (i3 t) k,.none] _ ⟨_,(hs8.2 _ tL).trans (Od _ rfl)⟩ (fun z=>(o.rel.cJ z).elim fun ob e1=>Classical.byCases (fun q:h6.objs.size=F.env.locals=>tL q) fun q=>d0 (none_at_size h6) (k6 _ _ q e1)) (.cons _ _ _ _ rfl (.G3 _ _ (.str t k hasc)) (.cons _ _ _ _ rfl (.G3 _ _ .none) .nil)))) (G1.not rfl)
theorem oA {r:R V} {K:V->Hp->Prop} {X:Txt->Hp->Prop} (h:(cz r).c4 K X):r.c4 (fun v Y=>((b8 102 (freeze v) Y).bind fun v Y=>(.ok (.tup [.str [],v]) Y:R V)).c4 K X) fun t Y=>K (.tup [.str t,.none]) Y:=by induction r<;>exact h
theorem ry (th:TH T P) {z:Zt} {m:Fr} {x0:Nat} {fA:Addr} {r:R V} {outer:List Env} {body:List PySem.Stmt} (f:Fs F z m Y) (t:Lp T x0 fault F.env.kindOf body) (hcall:n7 z.W F.env z.s.heap (T.nm x0) (.ref fA)) (hcl:y4 (T.nm x0)=true) (hfl:y4 fault=true) (hfo:FnAt fA z.s.heap)
 (hA:F.A.frames=some (F.env::outer)) (hB:F.s0.heap.FunFrames T.B outer) (hfr:∀e∈outer,∀L,e.frame=some L->L∈F.W0.l6) (hf:F.env.frame=some F.env.locals)
 (hlam:∀tk Rz,r.c4 (KV T z.W z.U {z.s with toks:=tk} fun v=>Rz (.ok (.ret v))) (XV T z.W z.U {z.s with toks:=tk} fun e=>Rz (.error e))->codeAny (model T.prog T.w) F.A (.call (.ref fA) ⟨[],[]⟩) Rz {z.s with toks:=tk})
 {X:Txt->Hp->Prop} (h:(cz r).c4 (KV T F.W0 F.Z4 F.s0 fun w=>Q (.ret w)) X):wpAny (model T.prog T.w) F.A (execs body F.env) Q E z.s:=by
 induction t with
 |mk k0 k1 k2 k3 p0 p1 p2 p3 p4 p5 p6 p7 p8 p9 p10 p11 p12 hxk hfk=>
 have kd:=f.cx.fr.kind
 refine wpAny_execs_cons (wpAny_Try_except (wpAny_execs_cons (wpAny_Return_some (wpAny_Tuple_spliced (spliced_cons (wpAny_Constant_str (k:=k0) (pos:=p0) (spliced_cons ?_)))))))
 have o1:i4 T z.W z.U z.s Y z.U {z.s with toks:=z.s.toks+1}:=i4.toks f.cx.rel
 have f1:=f.step o1
 rw[u9]
 refine NU (D8 (h:=z.s.heap) (s:={z.s with toks:=z.s.toks+1}) kd hcl hcall ?_)
 refine callWith_of (P:=FnAt fA) rfl keeps_F (evalArgs_nil3 ⟨hfo,wpAny_call (hlam _ _ (R.c4.mono (oA h) (fun v c7 kx w s3 AZ o hv hfr'=>?_) fun t c7 kx e s3 AZ o exc=>?_))⟩)
 ·exact a9 kx fun v' ef kq=>f1.give o hv hfr' fun iH z8 gv=>z8.freeze gv ef fun bI B8 g hv'=>spliced_nil ⟨NY rfl,KV.newTuple B8.cx.rel (.cons _ _ _ _ rfl (.G3 _ _ (.str [] z.s.toks rfl)) (.cons _ _ _ _ g hv' .nil)) fun w s4 NN o4 hv4 hf4=>B8.kv o4 hv4 hf4 kq⟩
 ·have out3:i4 T F.W0 F.Z4 F.s0 c7 AZ s3:=i4.under f.st.v5 f1.out o
  obtain⟨g0,hns0⟩:=f.cx.fr.ns
  have hns3:s3.heap.Ns F.env.locals g0:=T1 hns0 (o.ext.slots _ f.cx.fr.Y1)
  have hLB:=f.cx.rel.fresh _ (.inr (.inl f.cx.fr.Y1))
  show wpAny _ _ (noteFrame e F.env) _ _ _
  refine nQ (F:=F) (E:=fun e s'=>wpAny (model T.prog T.w) F.A (handleBy e F.env _) _ E s') f.st.v5 hA hB hfr f.cx.fr.Y1 kd hf (H6 hns3) hLB out3 (exc.LD (fun J=>f1.out.ext.since) s8.refl) fun s4 no=>?_
  exact match no with|.mk W5 o4 x4 inn5 hL5 rel5 x5 hsl=>vJ th kd f.cx.fr.glob hfk hxk hfl hLB f.st.O3 inn5 hL5 rel5 o4 x4 (T1 hns3 hsl) x5 kx
theorem rt (th:TH T P) {r:Ev} {W:r9} {U:List Addr} {s:Shared} {env:Env} {own:List (Nat×Addr)} {m:Fr} {b:X} {e':Ex} {Q E:Value->Shared->Prop} (hr:g7 T n r.ev) (c:Cx T W (n+1) A env own m U Y s) (t:Tr T env.kindOf (.A2 b) e') (h:(s7 P r m (.A2 b) Y).c4 (KV T W U s Q) (XV T W U s E)):wpAny (model T.prog T.w) A (eval e' env) Q E s:=
 t.gn fun body' sc Pt lp q p hl hk ls tb=>by
  have tk:=th.toE4
  obtain⟨mg,n1,g1⟩:=th.EC
  obtain⟨x0,fault,hc0,hcf,hF⟩:=th.ED
  rw[u9]
  refine NU (Name_function_global c.fr.kind hk (loadGlobal_global (c.fr.glob▸A1 c.rel.base n1) g1 ?_) th.MV)
  refine callWith_of (P:=fun h=>T.K.In h) rfl (keeps_K th.EB) (evalArgs_plain (spliced_cons (zf th.toTG c.low hl ls fun fA pm ctv cA h1 tk1 o ho hcd=>spliced_nil ⟨k7 tk o.rel,?_⟩)))
  have c1:=c.mv o
  have rd:=c.ar.depth
  have ru:=c.ar.units
  have h:(cz (r.ev (C6 m) b Y)).c4 (KV T W U {s with heap:=h1,toks:=tk1} Q) (XV T W U {s with heap:=h1,toks:=tk1} E):=c4.step o h fun J J q=>q.step o
  refine wpAny_call (Q6 tk hF (A:=A) (own:=[]) (W0:=W) (Z4:=U) (s0:={s with heap:=h1,toks:=tk1}) (m:=[]) c1.rel (c1.ar.le (Nat.zero_le _)) (room_0 rd (by decide)) (room_0 ru (by decide)) (i4.refl c1.rel) s8.refl.v5 (fun a ha=>(c1.rel.o5.own a ha).ex) c1.ar.frames (fun J J J q=>nomatch q) (fun J J q=>nomatch q) (OF _) (OF _) (fun x v e=>nomatch e) fun env' W1 s' body E' en htr=>?_)
  obtain⟨outer,ho1,ho2,ho3⟩:=c1.ar.frames
  have v5:=en.fs.st.v5
  exact ry th (F:=⟨A.deeper env',env',W,U,{s with heap:=h1,toks:=tk1},[],[]⟩) (z:=⟨W1,[],U,s'⟩) (r:=r.ev (C6 m) b Y) en.fs htr (en.held 0 x0 _ rfl rfl) hc0 hcf ⟨_,_,_,_,en.keep _ _ ho⟩ (Oh (Option.map _) ho1:A.frames.map _=_) ho2 ho3 en.frame
   (fun tk2 Rz hz=>zg th.toE4 hr (s:={s' with toks:=tk2}) c1.fr (fun a ha=>v5.own a ha) en.keep ⟨fun J J e=>e,Off.of_keeps en.keep,fun J J J q=>q.elim,fun a o e q=>v5.back e q⟩ en.fs.cx.rel (en.fs.cx.ar) (fun e2=>⟨(room_le rd (OF 2):A.depth+2+2 * n≤900),(room_le ru (by decide):A.units+6+20 * n≤9000)⟩) (en.keep _ _ ho) (hcd.keeps en.keep) ls tb hz) h
end
end Mine
end
section
open PySem PySem.W PyProof.Rows
namespace Mine
inductive Fc:Type
 |nil
 |cons (i j:Nat) (r:Fc)
noncomputable def Fc.any (F:Fc) (p:Nat->Nat->Bool):Bool:=Fc.rec false (fun i j J h=>p i j || h) F
noncomputable def Fc.has (F:Fc) (f:Nat):Nat->Nat->Bool:=Nat.rec (fun J J=>false) (fun J ih i j=>F.any fun a b=>Nat.beq a i&&(Nat.beq b j || ih b j)) f
noncomputable def sX (F:Fc) (l:List Nat):Bool:=List.rec true (fun a r h=>List.rec true (fun b J J=>F.has 1 a b) r&&h) l
noncomputable def rY (n:Nat) (t:KasT (Array Nat)):Nat->Fc->Bool:=KasT.rec (fun p J F=>p.toList.isPerm (List.range n)&&sX F p.toList)
 (fun i j J ih d F=>Nat.blt i n&&(Nat.blt j n&&(!Nat.beq i j&&(bif F.has (d * 8+1) i j then ih true d F else bif F.has (d * 8+1) j i then ih false d F else(ih true d.pred (.cons i j F)&&ih false d.pred (.cons j i F)))))) t
noncomputable def Ky (n:Nat):Bool:=Nat.rec true (fun k h=>rY k (kas_sort k) k .nil&&h) n
theorem MA:Ky 8=true:=by decide+kernel
theorem HD {n:Nat}:∀{k:Nat},Ky k=true->n < k->rY n (kas_sort n) n .nil=true:=fun{k}=>by
 induction k with
 |zero=>exact fun J q=>(nomatch q)
 |succ k ih=>exact fun h q=>a7 h fun h1 h2=>(Nat.lt_or_eq_of_le (Nat.le_of_lt_succ q)).elim (ih h2) fun e=>e▸h1
structure Ord (n:Nat) (lt:Nat->Nat->Bool):Prop where
 tr:∀{i j k},lt i j=true->lt j k=true->lt i k=true
 as:∀{i j},lt i j=true->lt j i=false
 to:∀{i j},i < n->j < n->i≠j->lt i j=false->lt j i=true
section
variable {n:Nat} {lt:Nat->Nat->Bool} {F:Fc}
def Fc.Ok (lt:Nat->Nat->Bool) (F:Fc):Prop:=Fc.rec True (fun i j J h=>lt i j=true∧h) F
theorem HY {p:Nat->Nat->Bool} {C:Prop} (f:F.Ok lt) (h:F.any p=true) (k:∀a b,lt a b=true->p a b=true->C):C:=by
 induction F with
 |nil=>exact Bool.noConfusion h
 |cons i j r ih=>exact(Bool.or_eq_true_iff.mp (show(p i j || r.any p)=true from h)).elim (k i j f.1) (ih f.2)
theorem kT (o:Ord n lt) (f:F.Ok lt) {d:Nat}:∀{i j:Nat},F.has d i j=true->lt i j=true:=by
 induction d with
 |zero=>exact fun h=>Bool.noConfusion h
 |succ d ih=>exact fun{i j} h=>HY f (show(F.any fun a b=>Nat.beq a i&&(Nat.beq b j || F.has d b j))=true from h) fun a b g h=>a7 h fun h1 h2=>(Bool.or_eq_true_iff.mp h2).elim (fun e=>Om h1▸Om e▸g) fun e=>Om h1▸o.tr g (ih e)
theorem FY (o:Ord n lt) (f:F.Ok lt) {l:List Nat} (h:sX F l=true):l.Pairwise fun i j=>lt i j=true:=by
 induction l with
 |nil=>exact .nil
 |cons a r ih=>exact a7 (show(List.rec true (fun b J J=>F.has 1 a b) r&&sX F r)=true from h) fun h1 h2=>.cons (by
  have k:=ih h2
  induction r with
  |nil=>exact fun J q=>(nomatch q)
  |cons b r=>exact fun c q=>(Of q).elim (fun e=>e▸kT o f h1) fun q=>o.tr (kT o f h1) ((List.pairwise_cons.mp k).1 c q)) (ih h2)
theorem Bx (o:Ord n lt) {I:Shared->Prop} {cmp:Nat->Nat->(Bool->Shared->Prop)->Shared->Prop} {G:Array Nat->Shared->Prop} (hc:∀i j C s,I s->i < n->j < n->i≠j->(∀s',I s'->C (lt i j) s')->cmp i j C s)
 (hG:∀(p:Array Nat) s,p.toList.Perm (List.range n)->(p.toList.Pairwise fun i j=>lt i j=true)->I s->G p s) {t:KasT (Array Nat)}:∀{d:Nat} {F:Fc} {s:Shared},rY n t d F=true->F.Ok lt->I s->t.kasWp cmp G s:=by
 induction t with
 |ret p=>exact fun{d F s} h f i=>a7 (show(p.toList.isPerm (List.range n)&&sX F p.toList)=true from h) fun h1 h2=>hG p s (List.isPerm_iff.mp h1) (FY o f h2) i
 |ask i j k ih=>
  exact fun{d F s} h f g=>a7 (show(Nat.blt i n&&(Nat.blt j n&&(!Nat.beq i j&&(bif F.has (d * 8+1) i j then rY n (k true) d F else bif F.has (d * 8+1) j i then rY n (k false) d F else(rY n (k true) d.pred (.cons i j F)&&rY n (k false) d.pred (.cons j i F))))))=true from h) fun h1 h=>a7 h fun h2 h=>a7 h fun h3 h=>
   have l1:i < n:=NY h1
   have l2:j < n:=NY h2
   have ne:i≠j:=fun e=>Bool.noConfusion ((not_true h3).symm.trans (e.subst (motive:=fun j=>Nat.beq i j=true) (Nat.beq_refl i)))
   hc i j _ s g l1 l2 ne fun s' g'=>by
    cases e1:F.has (d * 8+1) i j with
    |true=>rw[e1]at h;rw[kT o f e1];exact ih true h f g'
    |false=>
     rw[e1]at h
     cases e2:F.has (d * 8+1) j i with
     |true=>rw[e2]at h;rw[o.as (kT o f e2)];exact ih false h f g'
     |false=>
      rw[e2]at h
      exact a7 h fun q1 q2=>by
       cases e:lt i j with
       |true=>exact ih true q1 ⟨e,f⟩ g'
       |false=>exact ih false q2 ⟨o.to l1 l2 ne e,f⟩ g'
theorem jU (o:Ord n lt) (hn:n < 8) {I:Shared->Prop} {cmp:Nat->Nat->(Bool->Shared->Prop)->Shared->Prop} {G:Array Nat->Shared->Prop} {s:Shared} (hc:∀i j C s,I s->i < n->j < n->i≠j->(∀s',I s'->C (lt i j) s')->cmp i j C s)
 (hG:∀(p:Array Nat) s,p.toList.Perm (List.range n)->(p.toList.Pairwise fun i j=>lt i j=true)->I s->G p s) (i:I s):(kas_sort n).kasWp cmp G s:=Bx o hc hG (HD MA hn) trivial i
end
end Mine
end
section
open PySem PySem.W PyProof.Rows PySem.Calls PySem.Spec
namespace Mine
noncomputable def O5 (kws:List (Str×Value)) (i:Nat):Txt:=(kws[i]?).elim [] fun p=>Q8 p.1
noncomputable def CG (kws:List (Str×Value)) (i j:Nat):Bool:=yY (O5 kws i) (O5 kws j)
theorem O4 {kws:List (Str×Value)} {i:Nat} {k:Str} {x:Value} (e:kws[i]? =some (k,x)):O5 kws i=Q8 k:=by unfold O5;rw[e];rfl
theorem Af {a b:Str} (e:Q8 a=Q8 b):a=b:=Str.ext' (Array.toList_inj.mp e)
theorem CF {kws:List (Str×Value)} (nd:(kws.map (·.1)).Nodup):Ord kws.length (CG kws) where
 tr h1 h2:=M3.mpr (List.lt_trans (M3.mp h1) (M3.mp h2))
 as {i j} h:=by
  cases e:CG kws j i with
  |false=>rfl
  |true=>exact absurd (M3.mp e) (List.lt_asymm (M3.mp h))
 to {i j} hi hj ne h:=by
  cases e:CG kws j i with
  |true=>rfl
  |false=>
   have q:O5 kws i=O5 kws j:=List.le_antisymm (qc e) (qc h)
   rw[O4 (Ol hi),O4 (Ol hj)]at q
   exact absurd ((List.getElem?_inj (by rw[Oi];exact hi) nd).mp (by rw[OA,OA,Ol hi,Ol hj];exact Oh some (Af q))) ne
inductive TupAt (kws:List (Str×Value)) (ok:Addr->Prop) (h:Heap) (vs:List Value) (i:Nat):Prop
 |mk (a:Addr) (k:Str) (t:Tok) (x:Value) (e1:vs[i]? =some (.ref a)) (e2:kws[i]? =some (k,x)) (g:ok a) (ha:h.get? a=some {cls:=.type "tuple",data:=.seq #[.str k t,x]})
variable {A:Around} {E:Value->Shared->Prop} {s:Shared} {h:Heap}
section
variable {prog:Program} {w:World} {a:Addr} {vs:List Value} {kws:List (Str×Value)} {h':Heap} {ok ok':Addr->Prop}
theorem TupAt.keep {i:Nat} (x:TupAt kws ok h vs i) (g:∀a,ok a->ok' a) (k:∀b o,ok b->h.get? b=some o->h'.get? b=some o):TupAt kws ok' h' vs i:=
 match x with|⟨a,n,t,v,e1,e2,g1,ha⟩=>⟨a,n,t,v,e1,e2,g _ g1,k _ _ g1 ha⟩
inductive Ij (h:Heap) (vs:List Value):Prop
 |mk (fs:List Value) (k:KatTups h vs fs) (l:fs.length=vs.length) (s:∀v∈fs,∃n t,v=.str n t)
theorem Hh {vs:List Value}:∀{kws:List (Str×Value)},vs.length=kws.length->(∀i,i < kws.length->TupAt kws ok h vs i)->Ij h vs:=by
 induction vs with
 |nil=>exact fun J J=>⟨[],trivial,rfl,fun J q=>(nomatch q)⟩
 |cons v vs ih=>
  intro kws l x
  induction kws with
  |nil=>cases l
  |cons p kws=>
   induction x 0 (Nat.zero_lt_succ _)with
   |mk a k t y e1 e2 g ha=>
    cases e1
    induction ih (kws:=kws) (Nat.succ.inj l) fun i hi=>(match x (i+1) (Nat.succ_lt_succ hi)with|⟨a,n,t,v,e1,e2,g1,ha⟩=>⟨a,n,t,v,e1,e2,g1,ha⟩)with
    |mk fs h1 h2 h3=>exact⟨.str k t::fs,.cons ha rfl rfl rfl h1,Oh Nat.succ h2,fun u hu=>(Of hu).elim (fun q=>⟨_,_,q⟩) (h3 u)⟩
theorem Bw (nd:(kws.map (·.1)).Nodup) {i j:Nat} {C:Bool->Shared->Prop} (x:TupAt kws ok s.heap vs i) (y:TupAt kws ok s.heap vs j) (ne:i≠j) (hC:C (CG kws i j) s):kas_ask prog w A (tuples' true) vs i j C s:=by
 induction x with
 |mk a1 k1 t1 x1 e1 f1 _ g1=>
  induction y with
  |mk a2 k2 t2 x2 e2 f2 _ g2=>
   have dk:k1≠k2:=fun q=>ne ((List.getElem?_inj (by rw[Oi];exact(List.getElem?_eq_some_iff.mp f1).1) nd).mp (by rw[OA,OA,f1,f2];exact Oh some q))
   unfold CG at hC
   rw[O4 f1,O4 f2]at hC
   unfold kas_ask
   rw[List.getD_eq_getElem?_getD,List.getD_eq_getElem?_getD,e1,e2]
   refine kat_lt g1 rfl g2 rfl (kat_cons (eqBool_str ?_))
   rw[beq_eq_false_iff_ne.mpr dk]
   refine kat_no (oneLt_str ?_)
   rw[show decide (k1.cps.toList < k2.cps.toList)=yY (Q8 k1) (Q8 k2)from Bool.eq_iff_iff.mpr (decide_eq_true_iff.trans M3.symm)]
   exact hC
theorem fX {n:Nat} {P:PySem.Fin->Shared->Prop} (ho:s.heap.get? a=some (seqObj "list" vs.toArray n)) (l:vs.length=kws.length) (x:∀i,i < kws.length->TupAt kws (·≠a) s.heap vs i) (nd:(kws.map (·.1)).Nodup) (h8:kws.length < 8)
 (h:∀h' (p:List Nat) c,p.Perm (List.range kws.length)->(p.Pairwise fun i j=>CG kws i j=true)->(∀b o,b≠a->s.heap.get? b=some o->h'.get? b=some o)->h'.get? a=some (seqObj "list" (p.map fun i=>vs.getD i Value.none).toArray c)->P (.done (.ret .none)) {s with heap:=h'}):
 wpAny (model prog w) A (Builtin.«list.sort» ⟨[.ref a],[]⟩) P E s:=by
 have hz:vs.length≤sizeLine:=bp (Oe (Nat.le_of_lt (l▸h8)) (by decide))
 have ha:a < s.heap.objs.size:=OE ho
 rw[list_sort_plain]
 refine NU (listItems_at ho rfl ?_)
 refine NU (listUpdate_at ho rfl ?_ hz (Nat.zero_le _))
 induction show∃e1,(s.heap.update a (Obj.mapSeq fun J=>#[])).get? a=some (seqObj "list" #[] e1)from⟨_,get?_update_seq ho (fun J=>#[])⟩with
 |intro e1 ho1=>
 refine NU (seqEpoch_at ho1 rfl ?_)
 refine NU (wpAny_newTuple ?_ hz)
 refine NU (wpAny_newList ?_ (Nat.zero_le _))
 refine Oo ?_
 have ho6:(((s.heap.update a (Obj.mapSeq fun J=>#[])).push (seqObj "tuple" vs.toArray 0)).push (seqObj "list" #[] 0)).get? a=some (seqObj "list" #[] e1):=Oc _ (Oc _ ho1)
 have keep:∀b o,b≠a->s.heap.get? b=some o->(((s.heap.update a (Obj.mapSeq fun J=>#[])).push (seqObj "tuple" vs.toArray 0)).push (seqObj "list" #[] 0)).get? b=some o:=fun b o q e=>Oc _ (Oc _ ((Heap.get?_update_ne _ _ _ _ q).trans e))
 show wpAny (model prog w) A _ P E {s with heap:=((s.heap.update a (Obj.mapSeq fun J=>#[])).push (seqObj "tuple" vs.toArray 0)).push (seqObj "list" #[] 0)}
 generalize ((s.heap.update a (Obj.mapSeq fun J=>#[])).push (seqObj "tuple" vs.toArray 0)).push (seqObj "list" #[] 0)=h6 at ho6 keep
 dsimp only
 by_cases h2:vs.toArray.size < 2
 ·rw[OB h2,OB h2]
  refine NU (NW ?_)
  rw[StateT.run_pure]
  refine NU (NW ?_)
  dsimp only
  refine NU (seqEpoch_at ho6 rfl ?_)
  refine NU (listUpdate_at ho6 rfl ?_ (hsz2:=by rw[Array.size_map];show(pairsOf vs).size≤_;rw[pairsOf_size];exact Nat.le_succ_of_le hz))
  rw[show(e1 != e1)=false from bne_self_eq_false _]
  refine NW (h _ (List.range kws.length) _ (.refl _) ?_ (fun b o q e=>(Heap.get?_update_ne _ _ _ _ q).trans (keep b o q e)) ((get?_update_seq ho6 _).trans (Oh (fun z=>some (seqObj "list" z _)) ?_)))
  ·rw[←l]
   exact match vs,h2 with
   | [],_=>.nil
   | [v],_=>List.pairwise_singleton _ _
   |_::_::_,q=>absurd (Nat.lt_of_succ_lt_succ (Nat.lt_of_succ_lt_succ q)) (Nat.not_lt_zero _)
  ·exact kat_snds (ks:=vs) (vs:=vs) (p:=(List.range kws.length).toArray) rfl (by rw[←l];exact((Oh (fun n=>(List.range n).toArray.map (kas_item (pairsOf vs))) (pairsOf_size vs)).symm.trans (kas_range _)).symm)
 ·rw[OC h2,OC h2]
  have x6:∀i,i < kws.length->TupAt kws (·≠a) h6 vs i:=fun i hi=>(x i hi).keep (fun J=>id) keep
  induction Hh l x6 with
  |mk fs t1 t2 t3=>
  have h2':2≤vs.length:=OD h2
  refine NU (kat_kind (s:={s with heap:=h6}) (T:=.type "str") t1 (t2▸Nat.lt_of_lt_of_le (by decide) h2') (fun v hv=>match t3 v hv with|⟨k,t,e⟩=>e▸Looks.of_pure rfl) (by decide) ?_)
  rw[show(Value.type "str" != Value.type "tuple")=true from by decide]
  have sorted:(kas_sort vs.length).kasWp (kas_ask prog w A (tuples' true) vs) (fun p s'=>p.toList.Perm (List.range kws.length)∧(p.toList.Pairwise fun i j=>CG kws i j=true)∧s'={s with heap:=h6}) {s with heap:=h6}:=
   by rw[l];exact jU (CF nd) h8 (I:=fun s'=>s'={s with heap:=h6}) (fun i j C s' e hi hj ne hC=>e▸Bw (s:={s with heap:=h6}) nd (x6 i hi) (x6 j hj) ne (hC _ rfl)) (fun p s' h1 h2 e=>⟨h1,h2,e⟩) rfl
  refine NU (wpAny_mono (kat_run (Q:=fun st' s'=>∃p:Array Nat,arrOf st'=p.map (kas_item (vs.toArray.zip vs.toArray))∧failedOf st'=none∧p.size=vs.length∧p.toList.Perm (List.range kws.length)∧(p.toList.Pairwise fun i j=>CG kws i j=true)∧s'={s with heap:=h6}) rfl h2' (Nat.lt_trans (l▸h8) (by decide)) (fun p' st' s' a1 a2 a3 a4=>⟨p',a2,a3,a1,a4⟩) sorted) (fun r s' hq=>?_) fun J J e=>e)
  exact match r,s',hq with
  |(_,st'),s',⟨p,har,hf,hs,hp,hi,e⟩=>by
   subst e
   dsimp only
   have hout:=kat_snds rfl har
   refine NU (seqEpoch_at ho6 rfl ?_)
   refine NU (listUpdate_at ho6 rfl ?_ (Nat.zero_le _) (by rw[hout,Ou,Oi,Array.length_toList,hs];exact Nat.le_succ_of_le hz))
   rw[hf,show(e1 != e1)=false from bne_self_eq_false _]
   exact NW (h _ p.toList _ hp hi (fun b o q e=>(Heap.get?_update_ne _ _ _ _ q).trans (keep b o q e)) ((get?_update_seq ho6 _).trans (Oh (fun z=>some (seqObj "list" z _)) hout)))
end
theorem sM (k:Str):i3 (Q8 k)=k:=(List.cons.inj (mK [k])).1
theorem qa {kws:List (Str×Value)} {k:Str} {x:Value}:∀{i:Nat},(kws.map (·.1)).Nodup->kws[i]? =some (k,x)->valueAt kws k=some x:=by
 induction kws with
 |nil=>exact fun J e=>nomatch e
 |cons p r ih=>
  intro i nd e
  rw[List.map_cons,List.nodup_cons]at nd
  rw[show p=(p.1,p.2)from rfl,i6]
  induction i with
  |zero=>cases e;exact OB rfl
  |succ i=>exact(OC fun z=>nd.1 (List.mem_map.mpr ⟨_,Oy e,z.symm⟩)).trans (ih nd.2 e)
variable {T:i7}
section
theorem ni {r d:Addr} {kws:List (Str×Value)} {Q:Value->Shared->Prop} (hh:A.handled=none) (hv:s.heap.IsItemsView r d) (hd:s.heap.DictOf (PySem.strKind T.prog T.w) d kws) (h8:kws.length < 8)
 (h:∀h' tk D (vs:List Value) (p:List Nat),(∀b o,s.heap.get? b=some o->h'.get? b=some o)->s.heap.get? D=none->R6 h' D (p.map fun i=>vs.getD i Value.none)->p.Perm (List.range kws.length)->(p.Pairwise fun i j=>CG kws i j=true)->
  (∀i,i < kws.length->TupAt kws (fun a=>s.heap.get? a=none∧a≠D) h' vs i)->Q (.ref D) {s with heap:=h',toks:=tk}):
 wpAny (model T.prog T.w) A (call (.builtin "sorted") [.ref r]) Q E s:=by
 obtain⟨ep,hat⟩:=hd.dictAt
 have hz:kws.length≤sizeLine:=bp (Oe (Nat.le_of_lt h8) (by decide))
 refine call_function_entry kind_sorted plain_sorted entry_sorted (args_sorted1 _) ?_
 unfold Builtin.«sorted»
 refine NU (m:=checkCount "sorted" 1 1 _) (NW ?_)
 refine NU (kdx_collect (A:=A.in1) (knd:=PySem.strKind T.prog T.w) hh hv hat hz fun h1 tk as hk hl hG=>?_)
 have l:(as.map Value.ref).length=kws.length:=by rw[Oi];exact hl
 refine NU (wpAny_newList ?_ (l▸hz))
 have ho:(h1.push {cls:=.type "list",data:=.seq (as.map Value.ref).toArray}).get? h1.objs.size=some (seqObj "list" (as.map Value.ref).toArray 0):=Od _ rfl
 have hT:∀i,i < kws.length->TupAt kws (fun a=>s.heap.get? a=none∧a≠h1.objs.size) (h1.push {cls:=.type "list",data:=.seq (as.map Value.ref).toArray}) (as.map Value.ref) i:=fun i hi=>by
  have ea:as[i]? =some (as[i]'(hl▸hi)):=Ol _
  obtain⟨key,k,x,e1,e2,e3⟩:=hG.pairs i _ ea
  obtain⟨t,rfl⟩:=Value.isStrOf_shape e2
  exact⟨_,k,t,x,by rw[OA,ea];rfl,e1,⟨Heap.get?_none_of_le (Nat.le_of_lt (hG.above _ (Oy ea))),Nat.ne_of_lt (hG.there (Oy ea))⟩,Oc _ e3⟩
 refine NU (Oo (wpAny_call_entry slot_list_sort ⟨_,ho,rfl⟩ PyProof.Rows.entry_list_sort (fX ho l (fun i hi=>(hT i hi).keep (fun J g=>g.2) fun J J J=>id) (Q7 hd) h8 fun h2 p c hp hi keep hD=>⟨_,rfl,?_⟩) (args_list_sort _)))
 refine NW ⟨_,rfl,?_⟩
 have old:∀b o,s.heap.get? b=some o->b < h1.objs.size:=fun b o e=>OE (hk b o e)
 refine h h2 tk h1.objs.size (as.map Value.ref) p (fun b o e=>keep b o (Nat.ne_of_lt (old b o e)) (Oc _ (hk b o e))) ?_ ⟨_,hD⟩ hp hi fun i hi=>(hT i hi).keep (fun J=>id) fun b o g=>keep b o g.2
 induction q:s.heap.get? h1.objs.size with
 |none=>rfl
 |some o=>exact absurd (old _ _ q) (Nat.lt_irrefl _)
theorem zl {kws:List (Str×Value)}:(List.range kws.length).map (O5 kws)=(kws.map (·.1)).map Q8:=by
 refine List.ext_getElem? fun i=>?_
 rw[OA,OA,OA]
 by_cases h:i < kws.length
 ·rw[List.getElem?_range h,Ol h]
  exact Oh some (O4 (Ol h))
 ·rw[List.getElem?_eq_none (by rw[List.length_range];exact OD h),List.getElem?_eq_none (OD h)];rfl
end
variable {P:Pg} {W:r9} {U:List Addr} {Y:Hp} {Q:Value->Shared->Prop} {n:Nat} {r:Ev} {m:Fr} {env:Env} {own:List (Nat×Addr)}
section
variable {bad:Addr->Prop}
theorem xF {kws:List (Str×Value)} {f:Txt->Option V} {vs:List Value} {ok:Addr->Prop} (nd:(kws.map (·.1)).Nodup) (rr:∀k,B0 T U bad h (f k) (valueAt kws (i3 k))) (nb:∀a,ok a->¬bad a) (ht:∀i,i < kws.length->TupAt kws ok h vs i) {p:List Nat}:
 (∀i∈p,i < kws.length)->(p.map (O5 kws)).all t6=true->z1 T U bad h ((p.map (O5 kws)).map fun k=>.tup [.str k,(f k).getD .none]) (p.map fun i=>vs.getD i Value.none):=by
 induction p with
 |nil=>exact fun J J=>.nil
 |cons i p ih=>exact fun hp ha=>a7 ha fun h1 h2=>.cons _ _ _ _ rfl (by
  induction ht i (hp i (.head _))with
  |mk a k t x e1 e2 g hat=>
   show VS T U bad h (.tup [.str (O5 kws i),(f (O5 kws i)).getD .none]) (vs.getD i Value.none)
   rw[List.getD_eq_getElem?_getD,e1]
   rw[O4 e2]at h1⊢
   have q:=rr (Q8 k)
   rw[sM,qa nd e2]at q
   exact .tup _ [.str k t,x] a ⟨0,hat⟩ (nb a g) (.cons _ _ _ _ rfl (.G3 _ _ (sM k▸.str _ t h1)) (by
    cases e:f (Q8 k)with
    |none=>rw[e]at q;cases q
    |some v=>rw[e]at q;cases q with|some _ _ g a=>exact .cons _ _ _ _ g a .nil))) (ih (fun j hj=>hp j (.tail _ hj)) h2)
theorem aJ (c:d9 T W U Y s.heap) (hh:A.handled=none) {r d:Addr} {kws:List (Str×Value)} {f:Txt->Option V} {ks:List Txt} (hv:s.heap.IsItemsView r d) (hd:s.heap.DictOf (PySem.strKind T.prog T.w) d kws) (rr:∀k,B0 T U (k9 T W U) s.heap (f k) (valueAt kws (i3 k)))
 (hp:(kws.map (·.1)).Perm (ks.map i3)) (hu:Up ks) (h8:ks.length < 8) (ha:ks.all t6=true) (k:KV T W U s Q (.g6 (ks.map fun k=>.tup [.str k,(f k).getD .none])) Y):wpAny (model T.prog T.w) A (call (.builtin "sorted") [.ref r]) Q E s:=
 ni hh hv hd (by rw[←Oi (f:=(·.1)),hp.length_eq,Oi];exact h8) fun h' tk D vs p hk hn hl hpm hpw ht=>by
  have e:p.map (O5 kws)=ks:=List.Perm.eq_of_pairwise (fun J J J J=>List.le_antisymm) (List.Pairwise.map _ (fun J J q=>eQ q) hpw) hu ((hpm.map (O5 kws)).trans (zl▸(gM ks▸hp.map Q8)))
  subst e
  have nn:∀d,d∈[D]->s.heap.get? d=none:=fun d hd=>all1 (p:=fun d=>s.heap.get? d=none) hn hd
  exact KV.made c hk hn (.l _ _ hl (xF (Q7 hd) (fun k=>(rr k).ms (bH hk nn)) (fun a g q=>(R1 q).elim (fun z=>g.2 (Og z)) (c.N2 g.1)) ht (fun i hi=>List.mem_range.mp (hpm.mem_iff.mp hi)) ha)) k
end
section
theorem gc (tk:E4 T P) (c:d9 T W U Y s.heap) {a:Addr} {kws:List (Str×Value)} {o:Ex} {q p:Pos} (hd:s.heap.DictOf (strKind T.prog T.w) a kws) (lo:(a == sysModules)=false) (hq:(q.endLine == p.line)=true)
 (h:Q (.ref s.heap.objs.size) {s with heap:=s.heap.push {cls:=.type "dict_items",data:=.fields #[.ref a]}}):
 wpAny (model T.prog T.w) A (do standAt q.atName;methodCall o "items" q p env (.ref a) ([]:List Ex).length (backTo p (starEach [] env)) (backToKw p (keywordEach [] env))) Q E s:=
 NU (Ow (W9 rfl hq fun pl=>getMethod_builtin hd.typeIs PySem.F.plainAttrs_dict PySem.F.slot_dict_items PySem.F.type_dict_items hd.mapOf.noDict (callWith_of (P:=fun h=>T.K.In h) rfl (M4 (K:=T.K) rfl) (evalArgs_nil3 ⟨k7 tk c,
  call_meetsIn PySem.F.slot_dict_items hd.typeIs PySem.F.entry_dict_items (PySem.F.args_dict_items_1 _) (meets_dict_items (PySem.strKind T.prog T.w) a lo) ⟨⟨kws,hd⟩,h⟩⟩))))
theorem nj (tn:TN T P) (hr:g7 T n r.ev) (c:Cx T W n A env own m U Y s) {x:X} {e':Ex} (t:Tr T env.kindOf (.l4 x) e') (h:(s7 P r m (.l4 x) Y).c4 (KV T W U s Q) (XV T W U s E)):wpAny (model T.prog T.w) A (eval e' env) Q E s:=
 t.bX fun o q1 q2 q3 p hk te hs hq=>by
  rw[u9]
  refine NU (match tn.blt with|⟨mg,mb,n1,n2,_,_,e3⟩=>aV c n1 n2 e3 rfl hk (callWith_of (P:=fun h=>T.K.In h) rfl (M4 (K:=T.K) rfl) (evalArgs_plain (spliced_cons ?_))))
  rw[arm_eval_Call]
  refine NU (P1 hs (Be hr c te h fun ov c9 wo c5 c8 w3 vo fo h=>a9 h fun i ei h=>A8 (G:=fun wo=>wpAny _ _ (do standAt q2.atName;methodCall o "items" q2 q3 env wo ([]:List Ex).length (backTo q3 (starEach [] env)) (backToKw q3 (keywordEach [] env))) _ _ c5) vo ei fun a ha=>a9 h fun ob eo h=>w3.rel.at eo fun a' ha' q=>?_))
  rw[NX (ha'.symm.trans ha)]at q
  have hk:∀b o,c5.heap.get? b=some o->(c5.heap.push {cls:=.type "dict_items",data:=.fields #[.ref a]}).get? b=some o:=g9 _ _
  have i8:i4 T W c8 c5 c9 c8 {c5 with heap:=c5.heap.push {cls:=.type "dict_items",data:=.fields #[.ref a]}}:=i4.keeps (t:=c5.toks) w3.rel hk
  have hv:(c5.heap.push {cls:=.type "dict_items",data:=.fields #[.ref a]}).IsItemsView c5.heap.objs.size a:=⟨_,Od _ rfl,rfl,rfl⟩
  have go:∀{s'},i4 T W U s c9 c8 s'->wpAny (model T.prog T.w) A (call (.builtin "sorted") [.ref c5.heap.objs.size]) Q E s'->wpAny (model T.prog T.w) A (spliced (backTo p (starEach [] env))) (fun vs s'=>T.K.In s'.heap∧wpAny (model T.prog T.w) A (call (.builtin "sorted") ([]++(.ref c5.heap.objs.size::vs))) Q E s') E s':=fun o k=>spliced_nil ⟨k7 tn.toE4 o.rel,k⟩
  refine w7 h (fun h=>a9 h fun f ef h=>a9 h fun J eg h=>i9 eg fun g J=>a7 g fun g1 g2=>?_) fun h=>a9 h fun J ef h=>?_
  ·rw[H5 ef]at q
   rw[tn.fx]at g1 g2 h
   exact match q with|⟨kws,hd,lo,rr,u⟩=>gc tn.toE4 w3.rel hd lo hq (go (w3.trans i8) (i8.rel.at eo fun b hb z=>(by
    rw[NX (hb.symm.trans ha),H5 ef]at z
    exact match z with|⟨kws,hd,lo,rr,u⟩=>aJ i8.rel c.ar.handled hv hd rr (aZ tn.sI hd rr u).1 (aZ tn.sI hd rr u).2 (NY g1) g2 (h.step (w3.trans i8)))))
  ·rw[W8 ef]at q
   exact match q with|⟨j,lo,ho⟩=>gc tn.toE4 w3.rel (v3 _ ho) lo hq (go (w3.trans i8) (aJ (f:=fun J=>none) (ks:=[]) i8.rel c.ar.handled hv (v3 _ (hk _ _ ho)) (fun J=>.none) (.refl _) .nil (by decide) rfl (h.step (w3.trans i8))))
end
section
structure Lr (T:i7) (n:Nat) (r:Ev):Prop where
 ev:g7 T n r.ev
 tr:D5 T n r.tr
 Y9:V1 T n r.Y9
 run:SRun T n r.run
 use:DS T n r.ev
theorem Rm.low {F:Fx T} (r:Rm F (n+1)):Rm F n:=⟨r.r.lo,r.c⟩
theorem uS (th:TH T P) (h0:Lr T n r) {F:Fx T} {z:Zt} {m:Fr} {Y:Hp} {s:S} {st:PySem.Stmt} {Q:Flow->Shared->Prop} {E:Value->Shared->Prop} (rm:Rm F (n+1)) (f:Fs F z m Y) (t:I9 T F.env.kindOf s st) (h:(g8 P r m s Y).c4 (KF F Q) (XF F E)):wpAny (model T.prog T.w) F.A (exec st F.env) Q E z.s:=by
 cases s with
 |assign=>exact pE th.toE4 h0.ev h0.use rm.low f t h
 |M9=>exact lO th.toE4 h0.ev rm.low f t h
 |F6=>exact lN th.toE4 h0.ev rm.low f t h
 |H4=>exact mF th.toE4 h0.ev rm.low f t h
 |expr=>exact wc h0.ev rm.low f t h
 |ite=>exact zu h0.tr h0.Y9 rm.low f t h
 |y6=>exact pZ h0.tr h0.Y9 rm.low f t h
 |F1=>exact zO th.toTM h0.ev h0.Y9 rm.low f t h
 |ret=>exact ym h0.ev rm.low f t h
 |raise=>exact qH th.toTE h0.ev rm f t h
 |o8=>exact h.elim
 |F0=>exact kG th.toE4 h0.ev rm.low f t h
 |K5=>exact kC th.toE4 h0.ev rm.low f t h
 |fO=>exact vt (r:=r) th.toE4 rm.low f t h
 |J1=>exact kA th.toE4 h0.ev rm.low f t h
 |pass=>exact t.elim fun n q=>(Option.isSome_iff_exists.mp (show(lR st).isSome=true from q)).elim fun p e=>so e▸wpAny_Pass (h z f)
theorem zT (th:TH T P) (h0:Lr T n r):V1 T (n+1) (a8 P r):=by
 intro F z m Y ss ss' Q E rm f t h
 induction t generalizing z m Y with
 |nil=>exact wpAny_execs_nil (h z f)
 |cons s s' ss ss' ts tb ih=>exact wpAny_execs_cons (uS th h0 rm f ts (R.c4.mono (R.d5.mp h) (fun p c7 k=>(by
  obtain⟨fl,m'⟩:=p
  induction fl with
  |ret v=>exact k
  |next=>exact fun z f=>ih f k)) fun J J x=>x))
theorem Dn (th:TH T P) (h0:Lr T n r):g7 T (n+1) (s7 P r):=by
 intro W A env own m U Y s e e' Q E c t h
 cases e with
 |lit=>exact zc c t h
 |NT=>exact vp th.toE4 c t h
 |bin=>exact AB h0.ev c.low t h
 |not=>exact yG h0.ev c.low t h
 |neg=>exact yO h0.ev c.low t h
 |R5=>exact t.a7 fun J J t=>ur h0.ev c.low (b:=true) t h
 |mw=>exact t.i0 fun J J t=>ur h0.ev c.low (b:=false) t h
 |cmp=>exact An h0.ev c.low t h
 |ite=>exact zv h0.ev h0.tr c.low t h
 |call=>exact wQ th.toTD h0.ev h0.run c t h
 |l5=>exact vw th.toTQ h0.ev h0.run c.low t h
 |attr=>exact wY th.toE4 h0.ev c.low t h
 |sub=>exact xT h0.ev c.low t h
 |slice=>exact qu h0.ev c.low t h
 |list=>exact vB h0.ev c.low t h
 |tuple=>exact qg h0.ev c.low t h
 |dict=>exact wj th.toE4 h0.ev c.low t h
 |Y5=>exact qK h0.ev c.low t h
 |K4=>exact qL th.toE4 h0.ev c.low t h
 |comp=>exact wB th.toTM h0.ev h0.tr c.low t h
 |A2=>exact rt th h0.ev c t h
 |l4=>exact nj th.toTN h0.ev c.low t h
theorem IL (th:TH T P) (n:Nat):Lr T n (b9 P n):=by
 induction n with
 |zero=>exact⟨fun J J h=>h.elim,fun J J h=>h.elim,fun J J J h=>h.elim,fun J J J J h=>h.elim,fun J J h=>h.elim⟩
 |succ n ih=>exact⟨Dn th ih,By ih.ev ih.tr,zT th ih,yk th.toTM ih.Y9,xx th.toTM ih.ev ih.tr⟩
end
end Mine
end
section
open PySem PySem.W PyProof.Rows PySem.Calls
namespace Mine
noncomputable def lQ:Value->Option Addr
 |.ref a=>some a
 |_=>none
noncomputable def ux:Data->Option FuncData
 |.func F=>some F
 |_=>none
noncomputable def HW:Data->Option (Array Value)
 |.seq xs _=>some xs
 |_=>none
noncomputable def ez:FuncBody->Option (List PySem.Stmt)
 |.stmts b=>some b
 |_=>none
theorem jO {v:Value} {a:Addr} (h:lQ v=some a):v=.ref a:=by induction v<;>first|exact ns h|(cases h;rfl)
theorem sr {v:Data} {a:FuncData} (h:ux v=some a):v=.func a:=by induction v<;>first|exact ns h|(cases h;rfl)
theorem sm {v:FuncBody} {a:List PySem.Stmt} (h:ez v=some a):v=.stmts a:=by induction v<;>first|exact ns h|(cases h;rfl)
noncomputable def vU (K:Frag) (a:Addr):Option FuncData:=(K.lookup a).bind fun o=>ux o.data
noncomputable def Aa (K:Frag) (v:Value):List Value:=((lQ v).bind fun a=>(K.lookup a).bind fun o=>HW o.data).elim [] Array.toList
noncomputable abbrev uz:=(Nat->Value)->PySem.Setting->Option (List (Str×Value))
noncomputable def bL (K:Frag) (F:FuncData) (k:Nat):uz:=fun v S=>peek K S (bindArgs F ⟨(List.range k).map v,[]⟩)
noncomputable def bR (T:i7) (fd:Fd) (dv:List Value) (k:Nat):uz:=fun v J=>some ((fd.params.map T.nm).zip ((List.range k).map v++dv.drop (fd.dA.length - (fd.params.length - k))))
noncomputable def eJ (fd:Fd):List Nat:=(List.range (fd.params.length+1)).filter fun k=>Nat.ble (fd.params.length - k) fd.dA.length
noncomputable def gw {α β:Type} (g:α->β) (l:List α):List β:=l.foldr (fun a r=>g a::r) []
noncomputable def Ks (T:i7) (p:Option Addr×Fd):List uz:=(p.1.bind (vU T.K)).elim [] fun F=>(eJ p.2).map (bL T.K F)
noncomputable def Kr (T:i7) (p:Option Addr×Fd):List uz:=(p.1.bind (vU T.K)).elim [] fun F=>gw (bR T p.2 (Aa T.K F.defaults)) (eJ p.2)
theorem tW {α β:Type} {f g:α->β} {l:List α} (h:l.map f=gw g l):∀a∈l,f a=g a:=by
 induction l with
 |nil=>exact fun J q=>(nomatch q)
 |cons x r ih=>exact fun a q=>(Of q).elim (fun e=>e▸(List.cons.inj (h:f x::r.map f=g x::gw g r)).1) (ih (List.cons.inj (h:f x::r.map f=g x::gw g r)).2 a)
theorem range_getD {l:List Value}:(List.range l.length).map (fun i=>l.getD i Value.none)=l:=by
 refine List.ext_getElem? fun i=>?_
 rw[OA]
 by_cases h:i < l.length
 ·rw[List.getElem?_range h];exact(Oh some (List.getD_eq_getElem?_getD.trans (Oh (·.getD Value.none) (Ol h)))).trans (Ol h).symm
 ·rw[List.getElem?_eq_none (by rw[List.length_range];exact OD h),List.getElem?_eq_none (OD h)];rfl
variable {T:i7}
section
variable {kd:Kd} {a:Addr} {fd:Fd} {F:FuncData} {v:V} {w:Value}
theorem Ay {dv:List Value} (h:(eJ fd).map (bL T.K F)=gw (bR T fd dv) (eJ fd)) (s:Shared) (args:List Value) (X:T.K.In s.heap) (h1:args.length≤fd.params.length) (h2:fd.params.length - args.length≤fd.dA.length):
 BindsTo s F ⟨args,[]⟩ ((fd.params.map T.nm).zip (args++dv.drop (fd.dA.length - (fd.params.length - args.length)))):=
 kp_binds X fun S=>by
  have e:=congrFun (congrFun (tW h args.length (List.mem_filter.mpr ⟨OH (Nat.lt_succ_of_le h1),Oq h2⟩)) fun i=>args.getD i Value.none) S
  unfold bL bR at e
  rw[range_getD]at e
  exact e
noncomputable def CX (T:i7) (v:V) (w:Value):Bool:=match w with
 |.bool b=>f6 (L6 v) fun c=>b == c
 |.int i _=>f6 (z5 v) fun j=>decide (i=j)
 |.str s _=>f6 (r6 v) fun t=>decide (s=i3 t)&&t6 t
 |.ref a=>f6 (DQ v) (fun k=>decide (T.fn k=some a))|| f6 (AO v) fun k=>decide (T.cls k=some a)
 |w=>f6 (AQ v) fun b=>decide (w=T.bi b)
theorem dU (h:CX T v w=true):bN T v w:=by
 have bi:∀{w:Value},(f6 (AQ v) fun b=>decide (w=T.bi b))=true->bN T v w:=fun h=>b7 h fun b e h=>lY e▸NZ h▸.bi b
 induction w with
 |bool b=>exact b7 h fun c e h=>cL e▸beq_iff_eq.mp h▸.bool b
 |int i t=>exact b7 h fun c e h=>gU e▸NZ h▸.int i t
 |str s t=>exact b7 h fun c e h=>a7 h fun h1 h2=>U8 e▸NZ h1▸.str c t h2
 |ref a=>exact(Bool.or_eq_true_iff.mp h).elim (fun h=>b7 h fun k e h=>lU e▸.fn k a (NZ h)) fun h=>b7 h fun k e h=>pN e▸.cls k a (NZ h)
 |_=>exact bi h
noncomputable def Hx (T:i7) (t0:Addr) (v:V) (w:Value):Bool:=CX T v w ||(f6 (N0 v) fun xs=>xs.isEmpty&&decide (w=.ref t0))
theorem uc {t0:Addr} (vE:T.K.In T.B) (h0:T.K.lookup t0=some (qk [] 0)) {U:List Addr} {bad:Addr->Prop} {h:Heap} (hs:T.B.StaysIn h) (hb:∀a,bad a->T.B.get? a=none) (e:Hx T t0 v w=true):solid v=true∧VS T U bad h v w:=
 (Bool.or_eq_true_iff.mp e).elim (fun e=>⟨(dU e).solid,.G3 _ _ (dU e)⟩) fun e=>b7 e fun xs ex e=>a7 e fun h1 h2=>by
  rw[bF ex,NZ h2,List.isEmpty_iff.mp h1]
  exact⟨rfl,.tup [] [] t0 ⟨0,hs _ _ (vE _ _ h0)⟩ (fun q=>d0 (hb _ q) (vE _ _ h0)) .nil⟩
theorem Du {t0:Addr} (vE:T.K.In T.B) (h0:T.K.lookup t0=some (qk [] 0)) {U:List Addr} {bad:Addr->Prop} {h:Heap} (hs:T.B.StaysIn h) (hb:∀a,bad a->T.B.get? a=none) {vs:List V}:∀{ws:List Value},all2 (Hx T t0) vs ws=true->z1 T U bad h vs ws:=by
 induction vs with
 |nil=>exact fun{ws} e=>by induction ws with
  |nil=>exact .nil
  |cons=>exact Bool.noConfusion e
 |cons v vs ih=>exact fun{ws} e=>by induction ws with
  |nil=>exact Bool.noConfusion e
  |cons w ws=>exact a7 e fun h1 h2=>.cons _ _ _ _ (uc (U:=U) vE h0 hs hb h1).1 (uc vE h0 hs hb h1).2 (ih h2)
variable (T)in
noncomputable def Jt (kd:Kd) (F:FuncData):Bool:=(T.lam kd).elim true fun Pt=>T.tabs.any (Nat.beq Pt)&&(decide (T.zh Pt=F.qualname++(".<locals>.":Str)++("<lambda>":Str))&&f6 (lQ F.code) fun c=>codeHdIn T.K c Pt)
variable (T)in
noncomputable def JN (t0:Addr) (fd:Fd) (F:FuncData) (kd:Kd):Bool:=!F.scope.isCoroutine&&(!F.scope.isGenerator&&(decide (F.scope.kind=.function)&&(decide (F.globals=mainGlobals)&&(F.closure.isEmpty&&(decide (F.builtins=builtinsNs)&&(codeIn T.K F.code F.qualname&&
 (all2 (Hx T t0) fd.dA (Aa T.K F.defaults)&&(decide fd.params.Nodup&&(fd.params.all (fun x=>cF T kd x (T.nm x))&&(F.scope.names.all (fun x=>!decide (x.2=.cell)|| decide (F.scope.names.lookup x.1=some .cell))&&Jt T kd F))))))))))
variable (T)in
noncomputable def Ir (t0:Addr) (tb:Kd->List PySem.Stmt->Bool) (a:Addr) (fd:Fd):Bool:=f6 (vU T.K a) fun F=>f6 (ez F.body) fun b=>JN T t0 fd F (fun n=>F.scope.names.lookup n)&&tb (fun n=>F.scope.names.lookup n) b
theorem kX {t0:Addr} (vE:T.K.In T.B) (h0:T.K.lookup t0=some (qk [] 0)) {tb:Kd->List PySem.Stmt->Bool} {Tb:Kd->List PySem.Stmt->Prop} (htb:∀kd b,tb kd b=true->Tb kd b) (h:Ir T t0 tb a fd=true) (hb:Ks T (some a,fd)=Kr T (some a,fd)):DX T a fd Tb:=
 b7 h fun F eF h=>b7 h fun b eb h=>a7 h fun h ht=>a7 h fun h1 h=>a7 h fun h2 h=>a7 h fun h3 h=>a7 h fun h4 h=>a7 h fun h5 h=>a7 h fun h6 h=>a7 h fun h7 h=>a7 h fun h8 h=>a7 h fun h9 h=>a7 h fun h10 h=>a7 h fun h11 h12=>by
  unfold Ks Kr at hb
  rw[show(some a).bind (vU T.K)=some F from eF]at hb
  refine⟨F,b,Aa T.K F.defaults,⟨?_,not_true h1,not_true h2,sm eb,NZ h3,NZ h4,List.isEmpty_iff.mp h5,NZ h6,h7,Ay hb,fun U bad h hs hb=>Du vE h0 hs hb h8,NZ h9,fun x hx=>fh (G:=fun J=>s6 T _ x) (List.all_eq_true.mp h10 x hx) id,fun x hx e=>?_,fun Pt e=>?_⟩,htb _ _ ht⟩
  ·exact a0 eF fun o eo ef=>⟨o.cls,o.dict,o.slots,eo.trans (Oh (fun d=>some (⟨o.cls,o.dict,d,o.slots⟩:Obj)) (sr ef))⟩
  ·exact(Bool.or_eq_true_iff.mp (List.all_eq_true.mp h11 x hx)).elim (fun q=>absurd e (of_decide_eq_false (not_true q))) NZ
  ·unfold Jt at h12
   rw[e]at h12
   exact a7 h12 fun q1 q=>a7 q fun q2 q3=>b7 q3 fun c ec q3=>match List.any_eq_true.mp q1 with|⟨t,ht,et⟩=>⟨Om et▸ht,NZ q2,c,jO ec,codeHd_of_K vE q3⟩
noncomputable def cH (K:Frag) (a:Addr):Option (List PySem.Stmt):=(vU K a).bind fun F=>ez F.body
theorem DX.uv {Tb Tb':Kd->List PySem.Stmt->Prop} {b:List PySem.Stmt} (h:DX T a fd Tb) (e:cH T.K a=some b) (k:∀kd,Tb kd b->Tb' kd b):DX T a fd Tb':=match h with
 |⟨F,body,dv,h,t⟩=>match h.look with
  |⟨oc,od,osl,hl⟩=>by
   have q:body=b:=by
    unfold cH vU at e
    rw[hl]at e
    have e:ez F.body=some b:=e
    rw[h.body]at e
    exact NX e
   subst q
   exact⟨F,body,dv,h,k _ t⟩
end
noncomputable def Bc:List Txt:=names++[[119,104,121],[99,97,108,108]]
noncomputable def Jc (x:Nat):Txt:=(Bc[x]?).getD (List.replicate (x+1) 0)
noncomputable def kn (x:Nat):Str:=i3 (Jc x)
noncomputable def Hf:List (Option Addr):=[some 127,some 141,some 148,some 176,some 183,some 190,some 197,some 204,some 211,some 223,some 228,some 233,some 238,none,some 259,some 273,some 278,some 285,some 292,some 299,some 306,some 313,some 321,some 328,some 335,none,none,some 380,some 394,some 399,some 406,some 413,some 420,some 427,some 434,some 442,some 449,some 456,some 463,some 470,some 477,some 484,some 491,some 498,some 505,some 510,some 515,some 520,some 525,some 532,some 539,some 553,some 560,some 567,some 572,some 579,some 584,some 591,some 598]
noncomputable def wJ:List Addr:=[214,262,353,383]
noncomputable def Js (kd:Kd):Option Addr:=if kd "due"=some .local then some 569 else if kd "at"=some .cell then some 574 else none
noncomputable def Li (k:Nat):Option Addr:=(Hf[k]?).join
noncomputable def Nb:List Str:=["last","notes","zaps","parent","head","children","props","origin","used","below","quota","reserved","refquota","packed","summed","copies","dedup","default","choices","least","most","is_power"]
noncomputable def Y0 (prog:Program) (w:World) (K:Frag) (B:Heap):i7 where
 prog:=prog
 w:=w
 fn:=Li
 cls:=fun c=>wJ[c]?
 bi:=AD
 nm:=kn
 univ:=univ
 glob:=tU
 exc:=99
 why:="why"
 K:=K
 tabs:=[569,574]
 zh:=fun a=>if a=569 then "_law_call.<locals>.<lambda>" else "_law_is_told.<locals>.<lambda>"
 lam:=Js
 A2:=546
 Q0:="_law_heard"
 S0:="InvalidProp"
 AF:=Nb
 SF:=Nb
 B:=B
theorem vl:Bc.Nodup:=by decide+kernel
theorem yM:(Bc.all fun k=>Nat.blt 0 (k.headD 0))=true:=by decide+kernel
theorem Cu:(Bc.all fun k=>!decide (k=[46,48]))=true:=by decide+kernel
theorem qe:univ.Nodup:=by decide+kernel
theorem Bu:sortedS (univ.map i3)=true:=by decide+kernel
theorem km {x:Nat} {G:Txt->Prop} (h1:∀k,Bc[x]? =some k->G k) (h2:x≥Bc.length->G (0::List.replicate x 0)):G (Jc x):=by
 unfold Jc
 cases e:Bc[x]? with
 |some k=>exact h1 k e
 |none=>exact h2 (List.getElem?_eq_none_iff.mp e)
theorem tR {k:Txt} {x n:Nat} (e:Bc[x]? =some k) (h:k=0::List.replicate n 0):False:=Nat.lt_irrefl 0 (by
 have q:=List.all_eq_true.mp yM k (Oy e)
 rw[h]at q
 exact NY q)
theorem Gl (x y:Nat) (h:kn x=kn y):x=y:=
 km (x:=x) (G:=fun a=>a=Jc y->x=y) (fun k e=>km (x:=y) (G:=fun b=>k=b->x=y) (fun q e2 z=>(List.getElem?_inj (List.getElem?_eq_some_iff.mp e).1 vl).mp (e.trans ((Oh some z).trans e2.symm))) fun J z=>(tR e z).elim)
  (fun J=>km (x:=y) (G:=fun b=>0::List.replicate x 0=b->x=y) (fun q e2 z=>(tR e2 z.symm).elim) fun J z=>by
   have q:=Oh List.length z
   rw[List.length_cons,List.length_cons,List.length_replicate,List.length_replicate]at q
   exact Nat.succ.inj q) (dD h)
theorem yJ (x:Nat) (k:Txt) (e:names[x]? =some k):kn x=i3 k:=by
 have q:Bc[x]? =some k:=by unfold Bc;rw[Oz (List.getElem?_eq_some_iff.mp e).1];exact e
 unfold kn Jc
 rw[q];rfl
theorem Gm (x:Nat):kn x≠ ".0":=fun h=>km (x:=x) (G:=fun a=>a=[46,48]->False) (fun k e z=>of_decide_eq_false (not_true (List.all_eq_true.mp Cu k (Oy e))) z) (fun J z=>nomatch (List.cons.inj z).1) (dD (b:=[46,48]) h)
theorem jd {m:Fr} {x:Nat} {v:V} (h:d6 m x=some v):(x,v)∈m:=by
 induction m with
 |nil=>exact nomatch h
 |cons p r ih=>
  have h:(bif Nat.beq p.1 x then some p.2 else d6 r x)=some v:=h
  cases e:Nat.beq p.1 x with
  |true=>rw[e]at h;rw[←Om e,←NX h];exact .head _
  |false=>rw[e]at h;exact .tail _ (ih h)
theorem dC {α β:Type} {l:List α} {r:List β} {i:Nat} {a:α} {b:β} (h1:l[i]? =some a) (h2:r[i]? =some b):(a,b)∈l.zip r:=Oy (List.getElem?_zip_eq_some.mpr ⟨h1,h2⟩)
section
variable (T:i7)
noncomputable def EZ (C:Addr) (n:Str):Bool:=plainGet T.K C n&&(hasDictIn T.K C&&(decide (findIn T.K (.ref C) n=some none)&&(decide (findIn T.K (.ref C) "__setattr__"=some (some (.builtin "object.__setattr__")))&&(plainOver T.K C&&decide (takerIn T.K C n=some none)))))
noncomputable def EG (p:Nat×V):Bool:=f6 (nsIn T.K mainGlobals (T.nm p.1)) fun o=>o.elim (!decide (T.nm p.1= "__name__")&&f6 (bootBuiltins (T.nm p.1)) (CX T p.2)) (CX T p.2)
noncomputable def El (C:Addr) (p:Nat×Nat):Bool:=f6 (T.fn p.2) fun a=>plainGet T.K C (T.nm p.1)&&(decide (findIn T.K (.ref C) (T.nm p.1)=some (some (.ref a)))&&isFn T.K (.ref a))
noncomputable def cy (K:Frag) (C:Addr):Option Addr:=(findIn K (.ref C) "__init__").join.bind lQ
noncomputable def Kh (t0:Addr) (p:Option Addr×Fd):Bool:=p.1.elim true fun a=>keepIn T.K (.ref a)&&Ir T t0 (fun kd b=>all2 (iD T kd 40) p.2.body b) a p.2
noncomputable def Gu (t0 fI:Addr) (cd:Cd) (fd:Fd):Bool:=f6 fd.params.head? fun x0=>Ir T t0 (fun kd b=>all2 (iD T kd 40) (cd.body.map (Jk x0)) b) fI fd
noncomputable def Kl (t0:Addr) (p:Addr×Cd):Bool:=keepIn T.K (.ref p.1)&&(p.2.meths.all (El T p.1)&&(T.AF.all (EZ T p.1)&&f6 (cy T.K p.1) fun fI=>makesIn T.K p.1&&(isFn T.K (.ref fI)&&f6 p.2.init fun k=>bif p.2.keeps then decide (T.fn k=some fI)else f6 (G5[k]?) (Gu T t0 fI p.2))))
noncomputable def MO (l:List (Str×Option Value)):Bool:=l.all fun p=>decide (nsIn T.K mainGlobals p.1=some p.2)
noncomputable def JV (t0:Addr):Bool:=keepIn T.K (.ref T.exc)&&(decide (findIn T.K (.ref T.exc) "__setattr__"=some (some (.builtin "object.__setattr__")))&&(decide (findIn T.K (.ref T.exc) T.why=some none)&&(decide (findIn T.K (.ref T.exc) "__init__"=some (some (.ref 35)))&&(isFn T.K (.ref 35)&&
 (decide (findIn T.K (.ref T.exc) "__getattribute__"=some (some (.builtin "BaseException.__getattribute__")))&&(decide (findIn T.K (.ref T.exc) "__getattr__"=some none)&&(hasDictIn T.K T.exc&&(keepIn T.K (.ref T.A2)&&(Ir T t0 (fun kd J=>decide (kd "Exception"=some .globalImplicit)) 35 ⟨[6,151],[],[]⟩&&
 Ir T t0 (fun kd J=>decide (kd T.S0=some .globalImplicit)&&decide (kd "fault"=some .local)) 546 ⟨[152],[],[]⟩)))))))))
noncomputable def rK (t0:Addr):Bool:=tU.all (EG T)&&((Hf.zip G5).all (Kh T t0)&&((wJ.zip Q9).all (Kl T t0)&&(MO T [("enumerate",none),("range",none),("sorted",none),("Exception",none),("InvalidProp",some (.ref 99)),("_law_heard",some (.ref 546))]&&JV T t0)))
noncomputable def uY (K:Frag):List (Option Addr×Fd):=(Hf.zip G5)++((wJ.zip Q9).map (fun p=>(cy K p.1,(p.2.init.bind fun k=>G5[k]?).getD ⟨[],[],[]⟩))++[(some 35,⟨[6,151],[],[]⟩),(some 546,⟨[152],[],[]⟩)])
end
variable {w:World} {prog:Program} {K:Frag}
section
variable {B:Heap} {mg mb:Str->Option Value} {t0:Addr}
structure uy (T:i7) (t0:Addr):Prop where
 glob:tU.all (EG T)=true
 defs:(Hf.zip G5).all (Kh T t0)=true
 pe:(wJ.zip Q9).all (Kl T t0)=true
 ns:MO T [("enumerate",none),("range",none),("sorted",none),("Exception",none),("InvalidProp",some (.ref 99)),("_law_heard",some (.ref 546))]=true
 exc:JV T t0=true
theorem zR (h:rK T t0=true):uy T t0:=a7 h fun h1 h=>a7 h fun h2 h=>a7 h fun h3 h=>a7 h fun h4 h=>⟨h1,h2,h3,h4,h⟩
structure Im (T:i7) (t0 C fI:Addr) (cd:Cd):Prop where
 keep:keepIn T.K (.ref C)=true
 meths:cd.meths.all (El T C)=true
 attrs:T.AF.all (EZ T C)=true
 Mj:cy T.K C=some fI
 makes:makesIn T.K C=true
 fn:isFn T.K (.ref fI)=true
 body:(f6 cd.init fun k=>bif cd.keeps then decide (T.fn k=some fI)else f6 (G5[k]?) (Gu T t0 fI cd))=true
theorem X2 (f:uy T t0) {c:Nat} {C:Addr} {cd:Cd} (h1:wJ[c]? =some C) (h2:Q9[c]? =some cd):∃fI,Im T t0 C fI cd:=
 a7 (List.all_eq_true.mp f.pe (C,cd) (dC h1 h2)) fun k1 h=>a7 h fun k2 h=>a7 h fun k3 h=>b7 h fun fI e h=>a7 h fun k4 h=>a7 h fun k5 k6=>⟨fI,k1,k2,k3,e,k4,k5,k6⟩
theorem jk {C fI:Addr} (h:cy K C=some fI):findIn K (.ref C) "__init__"=some (some (.ref fI)):=a0 h fun v ev h=>by
 rw[jO h]at ev
 cases e:findIn K (.ref C) "__init__" with
 |none=>rw[e]at ev;cases ev
 |some o=>rw[e]at ev;exact Oh some (show o=some (.ref fI)from ev)
theorem fk {c:Nat} {C:Addr} (h:wJ[c]? =some C):∃cd,Q9[c]? =some cd:=⟨_,Ol (show c < Q9.length from(List.getElem?_eq_some_iff.mp h).1)⟩
theorem kW {k:Nat} {a:Addr} (h:Li k=some a):Hf[k]? =some (some a):=by
 unfold Li at h
 cases e:Hf[k]? with
 |none=>rw[e]at h;cases h
 |some o=>rw[e]at h;exact Oh some h
theorem Hc {k:Nat} {a:Addr} (h:Li k=some a):∃fd,G5[k]? =some fd:=⟨_,Ol (show k < G5.length from(List.getElem?_eq_some_iff.mp (kW h)).1)⟩
theorem ue (f:uy T t0) {k:Nat} {a:Addr} {fd:Fd} (h1:Hf[k]? =some (some a)) (h2:G5[k]? =some fd):keepIn T.K (.ref a)=true∧Ir T t0 (fun kd b=>all2 (iD T kd 40) fd.body b) a fd=true:=
 a7 (List.all_eq_true.mp f.defs (some a,fd) (dC h1 h2)) fun k1 k2=>⟨k1,k2⟩
theorem jw (f:uy T t0) {x:Str} {o:Option Value} (h:(x,o)∈[(("enumerate":Str),(none:Option Value)),("range",none),("sorted",none),("Exception",none),("InvalidProp",some (.ref 99)),("_law_heard",some (.ref 546))]):nsIn T.K mainGlobals x=some o:=NZ (List.all_eq_true.mp f.ns (x,o) h)
theorem IF (hK:K.In B) (hmg:B.Ns mainGlobals mg) (hmb:B.Ns builtinsNs mb) (hbi:∀x:Str,x≠ "__name__"->mb x=bootBuiltins x) (hlim:B.NoLimit) (hbl:∀Pt,Pt∈[569,574]->B.BuiltinsAt mg Pt) (h0:K.lookup t0=some (qk [] 0)) (hF:rK (Y0 prog w K B) t0=true)
 (hB:(uY K).map (Ks (Y0 prog w K B))=gw (Kr (Y0 prog w K B)) (uY K)) (hX:∃x:XD,K.lookup 99=some (x.obj 99)) (hE:findCls K (.type "Exception") (.type "type") "__init__"=some (.val (.builtin "Exception.__init__")))
 {b1 b2:List PySem.Stmt} (e1:cH K 35=some b1) (t1:∀kd,kd "Exception"=some .globalImplicit->Lq (Y0 prog w K B) 6 151 kd b1) (e2:cH K 546=some b2) (t2:∀kd,kd "InvalidProp"=some .globalImplicit->kd "fault"=some .local->Lp (Y0 prog w K B) 152 "fault" kd b2):TH (Y0 prog w K B) pg:=by
 have f:=zR hF
 have x:=f.exc
 refine a7 x fun x1 x=>a7 x fun x2 x=>a7 x fun x3 x=>a7 x fun x4 x=>a7 x fun x5 x=>a7 x fun x6 x=>a7 x fun x7 x=>a7 x fun x8 x=>a7 x fun x9 x=>a7 x fun x10 x11=>?_
 have mg0:∀{x:Str},nsIn K mainGlobals x=some none->mg x=none:=fun e=>mg_none_of hK hmg e
 have mb0:∀{x:Str} {v:Value},x≠ "__name__"->bootBuiltins x=some v->mb x=some v:=fun n e=>(hbi _ n).trans e
 have hmem:∀{p:Option Addr×Fd},p∈uY K->Ks (Y0 prog w K B) p=Kr (Y0 prog w K B) p:=fun{p}=>tW hB p
 exact{
  Ei:=rfl
  fx:=rfl
  Ld:=yJ
  rG:=Gl
  glob:=⟨mg,mb,hmg,hmb,fun x v e=>b7 (List.all_eq_true.mp f.glob _ (jd e)) fun o eo h=>by
   induction o with
   |some u=>exact⟨u,dU h,.inl (mg_of hK hmg eo)⟩
   |none=>exact a7 h fun h1 h2=>b7 h2 fun u eu h=>⟨u,dU h,.inr ⟨mg0 eo,(hbi _ (of_decide_eq_false (not_true h1))).trans eu⟩⟩⟩
  tp:=hlim
  vE:=hK
  bi:=fun b=>by induction b<;>rfl
  small:=by show univ.length≤1000;decide
  af:=fun n hn c C hc=>(fk hc).elim fun cd hcd=>(X2 f hc hcd).elim fun fI q=>a7 (List.all_eq_true.mp q.attrs n hn) fun a1 a=>a7 a fun a2 a=>a7 a fun a3 J=>⟨a1,a2,NZ a3⟩
  sf:=fun n hn c C hc=>(fk hc).elim fun cd hcd=>(X2 f hc hcd).elim fun fI q=>a7 (List.all_eq_true.mp q.attrs n hn) fun J a=>a7 a fun a2 a=>a7 a fun J a=>a7 a fun a4 a=>a7 a fun a5 a6=>⟨NZ a4,a5,NZ a6,a2⟩
  dot:=Gm
  fns:=fun k a fd ha hfd=>kX hK h0 (fun kd b h=>.of h) (ue f (kW ha) hfd).2 (hmem (Oa _ (dC (kW ha) hfd)))
  l5:=fun c C m k hC hm=>a0 hm fun cd hcd h=>a0 h fun v hv h=>(X2 f hC hcd).elim fun fI q=>by
   rw[lU h]at hv
   obtain⟨p,hp,e⟩:=List.mem_map.mp (jd hv)
   cases e
   exact b7 (List.all_eq_true.mp q.meths p hp) fun a ha h=>a7 h fun h1 h=>a7 h fun h2 h3=>⟨a,ha,h1,NZ h2,h3⟩
  keep:=fun k a ha=>(Hc ha).elim fun fd hfd=>(ue f (kW ha) hfd).1
  blt:=⟨mg,mb,hmg,hmb,⟨mg0 (jw f (.head _)),mb0 (by decide) (by rfl')⟩,⟨mg0 (jw f (.tail _ (.head _))),mb0 (by decide) (by rfl')⟩,⟨mg0 (jw f (.tail _ (.tail _ (.head _)))),mb0 (by decide) (by rfl')⟩⟩
  Ln:=fun J=>rfl
  sI:=⟨Bu,qe⟩
  n0:=by rfl'
  n1:=by rfl'
  n2:=by rfl'
  n3:=by rfl'
  n4:=by rfl'
  n5:=by rfl'
  ctor:=fun c C cd k hC hcd hi=>(X2 f hC hcd).elim fun fI q=>⟨fI,fun hk=>by
   have b:=q.body
   rw[hi,hk]at b
   exact NZ b,q.makes,jk q.Mj,q.fn⟩
  Es:=fun c C hC=>(fk hC).elim fun cd hcd=>(X2 f hC hcd).elim fun fI q=>q.keep
  make:=fun c C cd k fd hC hcd hi hk hfd=>(X2 f hC hcd).elim fun fI q=>by
   have b:=q.body
   rw[hi,hk]at b
   have b:f6 (G5[k]?) (Gu (Y0 prog w K B) t0 fI cd)=true:=b
   rw[show G5[k]? =some fd from hfd]at b
   have hm:(some fI,fd)∈uY K:=Ob _ (Oa _ (List.mem_map.mpr ⟨(C,cd),dC hC hcd,by
    show(cy K C,(cd.init.bind fun k=>G5[k]?).getD _)=_
    rw[hi,show cy K C=some fI from q.Mj]
    exact Oh (fun z=>(some fI,Option.getD z ⟨[],[],[]⟩)) hfd⟩))
   exact b7 (show f6 fd.params.head? _=true from b) fun x0 e0 b=>by
    induction hp:fd.params with
    |nil=>rw[hp]at e0;cases e0
    |cons y ps=>
     rw[hp]at e0
     cases e0
     exact⟨fI,x0,ps,jk q.Mj,hp,kX hK h0 (fun kd b h=>.of h) b (hmem hm)⟩
  cls:=hX
  EJ:=x1
  JW:=NZ x2
  Hl:=NZ x3
  JY:=hE
  ub:=⟨mg,mb,hmg,hmb,mg_of hK hmg (jw f (.tail _ (.tail _ (.tail _ (.tail _ (.head _)))))),mg0 (jw f (.tail _ (.tail _ (.tail _ (.head _))))),mb0 (by decide) (by rfl')⟩
  Mn:=by rfl'
  MZ:=⟨35,6,151,NZ x4,x5,by rfl',by rfl',(kX hK h0 (Tb:=fun kd J=>kd "Exception"=some .globalImplicit) (fun J J h=>NZ h) x10 (hmem (Ob _ (Ob _ (.head _))))).uv e1 fun kd h=>t1 kd h⟩
  Na:=⟨mg,hmg,hbl⟩
  MY:=NZ x6
  MX:=NZ x7
  EK:=x8
  EB:=x9
  EC:=⟨mg,hmg,mg_of hK hmg (jw f (.tail _ (.tail _ (.tail _ (.tail _ (.tail _ (.head _)))))))⟩
  MV:=by rfl'
  ED:=⟨152,"fault",by rfl',by rfl',(kX hK h0 (Tb:=fun kd J=>kd "InvalidProp"=some .globalImplicit∧kd "fault"=some .local) (fun J J h=>a7 h fun h1 h2=>⟨NZ h1,NZ h2⟩) x11 (hmem (Ob _ (Ob _ (.tail _ (.head _)))))).uv e2 fun kd h=>t2 kd h.1 h.2⟩}
end
noncomputable abbrev xR:List Addr:=[569,574]
noncomputable abbrev EX (h:Heap):Heap:=hideAll h xR
section
variable {h:Heap}
abbrev TabsAt (h:Heap):Prop:=∀P,P∈[574,569]->h.get? P=some (tabObj #[])
theorem V8 {P:Addr} (q:P∈xR):P∈([574,569]:List Addr):=(Of q).elim (fun e=>e▸.tail _ (.head _)) fun q=>Og q▸.head _
theorem ki (hT:TabsAt h) {a:Addr} {o:Obj} (e:h.get? a=some o) (n:∀vs,o.data≠.fields vs):a∉xR:=fun q=>n _ (Oh Obj.data (NX (e.symm.trans (hT a (V8 q)))))
theorem kh (hT:TabsAt h) {a:Addr} {m:Str->Option Value} (n:h.Ns a m):(EX h).Ns a m:=match n with
 |⟨o,es,ep,e,d,r⟩=>⟨o,es,ep,hideAll_get _ e (ki hT e fun vs q=>nomatch d.symm.trans q),d,r⟩
theorem zx {T:i7} {U:List Addr} {bad:Addr->Prop} {vs:List Value} {xs:List Int} (x:IntsAre vs xs):z1 T U bad h (xs.map .int) vs:=by
 induction x with
 |nil=>exact .nil
 |cons _ _ _ ih=>exact .cons _ _ _ _ rfl (.G3 _ _ (.int _ _)) ih
theorem zd {s:Shared} (th:TH (Y0 prog w K (EX s.heap)) pg) (hX:K.In s.heap) (hT:TabsAt s.heap) (hc1:codeHdIn K 571 569=true) (hc2:codeHdIn K 578 574=true) (hg:s.gens= #[]) {l:Addr} {vs:List Value} {xs:List Int} (hl:s.heap.get? l=some {cls:=.type "list",data:=.seq vs.toArray}) (hI:IntsAre vs xs) {n:Nat} (hn:n≤290)
 (run:((b9 pg n).run 58 [.lst (xs.map .int)] []).c4 (fun v J=>v=.bool true) fun J J=>False) {E:Value->Shared->Prop}:
 wpAny (model prog w) callerA (call (.ref 598) [.ref l]) (fun v s'=>v=.bool true∧OldK s.heap s'.heap∧s'.os=s.os∧AllBare s'.gens) E s:=by
 have bt:∀a,k9 (Y0 prog w K (EX s.heap)) ⟨[],[]⟩ [] a->a∈xR:=fun a q=>q.elim nofun fun q=>q.elim nofun fun q=>q.elim nofun id
 have rel:d9 (Y0 prog w K (EX s.heap)) ⟨[],[]⟩ [] [] s.heap:=⟨rfl,List.nodup_nil,(fun i o a e=>nomatch e),fun a o e=>of_hideAll _ e,fun a q=>hideAll_none _ (bt a q),⟨(fun a q=>nomatch q),fun a q=>nomatch q⟩,fun P hP=>⟨#[],hT P (V8 hP),trivial,(fun pos cv e=>nomatch e)⟩⟩
 have ar:Ar (Y0 prog w K (EX s.heap)) ⟨[],[]⟩ callerA n s.heap:=⟨rfl,Oe (Oj (Nat.mul_le_mul_left 2 hn) _) (by decide),Oe (Oj (Nat.mul_le_mul_left 20 hn) _) (by decide),[],rfl,trivial,(fun J q=>nomatch q)⟩
 refine SRun.call (IL th n).run rel ar (k:=58) rfl (.cons _ _ [] [] rfl (.je _ _ vs l rfl rfl ⟨_,hl⟩ (fun q=>ki hT hl (fun vs z=>nomatch z) (bt l q)) (zx hI)) .nil) (R.c4.mono run (fun v c7 e u s' d7 o hv J=>?_) fun J J q=>q.elim)
 subst e
 refine⟨VR.H7 (G:=fun u=>u=.bool true) hv rfl,⟨fun b ob e=>?_,o.ext.there⟩,o.ext.os,.of_eq (o.ext.gens.trans hg)⟩
 by_cases hb:b∈xR
 ·have ht:=NX (e.symm.trans (hT b (V8 hb)))
  subst ht
  exact match o.rel.tabs b hb with|⟨ps,e',_,_⟩=>.inr (.inl ⟨(Of hb).elim (fun z=>by subst z;exact((codeHd_of_K hX hc1).tab e).isCodeTable) fun z=>by
   rw[List.mem_singleton]at z
   subst z;exact((codeHd_of_K hX hc2).tab e).isCodeTable,rfl,#[],ps,rfl,by rw[e'];simp⟩)
 ·exact .inl (o.ext.off b ob e fun q=>q.elim nofun fun q=>q.elim nofun hb)
end
end Mine
end
section
namespace Mine.Z
variable {α β:Type} {P:Pg} {n:Nat} {r:Ev} {m m':Fr} {Y c7 u3:Hp} {v:V} {e:X} {es:List X} {vs:List V}
section
variable {t:Txt} {w:V} {k:Nat} {s:S} {ss:List S}
theorem v8 {x:R α} {f:α->Hp->R β} {a:α} {y:R β} (h:x=.ok a c7) (k:f a c7=y):x.bind f=y:=h▸k
theorem DK {x:R α} {f:α->Hp->R β} (h:x=.exc t c7):x.bind f=.exc t c7:=h▸rfl
theorem Cw (h:d6 m k=some v) (h':Y4 v=some w):s7 P r m (.NT k) Y=.ok w Y:=by
 show nM (d6 m k) (fun v=>b8 89 (Y4 v) Y) (b8 90 (d6 P.glob k) Y)=_
 rw[h]
 show b8 89 (Y4 v) Y=_
 rw[h'];rfl
theorem i5 (h:r.ev m e Y=.ok v c7) (hf:freeze v=some w) (hs:G7 r m es c7=.ok vs u3):G7 r m (e::es) Y=.ok (w::vs) u3:=
 v8 h (v8 (a:=w) (c7:=c7) (by rw[hf];rfl) (v8 hs rfl))
theorem JQ (he:G7 r m es Y=.ok vs c7) (hr:r.run k vs c7=.ok v u3):Au P r m es (.fn k) Y=.ok v u3:=by
 show cV ((G7 r m es Y).bind fun vs Y=>r.run k vs Y) _=_
 rw[v8 he hr];rfl
theorem He (he:G7 r m es Y=.ok vs c7) (hr:r.run k vs c7=.exc t u3):Au P r m es (.fn k) Y=.exc t u3:=by
 show cV ((G7 r m es Y).bind fun vs Y=>r.run k vs Y) _=_
 rw[v8 he hr];rfl
theorem DG (hf:r.ev m e Y=.ok (.fn k) Y) (he:G7 r m es Y=.ok vs c7) (hr:r.run k vs c7=.ok v u3):s7 P r m (.call e es) Y=.ok v u3:=v8 hf (JQ he hr)
theorem call_exc (hf:r.ev m e Y=.ok (.fn k) Y) (he:G7 r m es Y=.ok vs c7) (hr:r.run k vs c7=.exc t u3):s7 P r m (.call e es) Y=.exc t u3:=v8 hf (He he hr)
theorem D3 {x:Nat} (h:freeze v=some w):store P r (.NT x) v m Y=.ok (putN m x w) Y:=by
 show(b8 120 (freeze v) Y).bind _=_
 rw[h];rfl
theorem m3 {t:T} (h:r.ev m e Y=.ok v c7) (hs:store P r t v m c7=.ok m' u3):g8 P r m (.assign t e) Y=.ok (.next,m') u3:=v8 h (v8 hs rfl)
theorem az {t:T} {w:Txt} (h:r.ev m e Y=.exc w c7):g8 P r m (.assign t e) Y=.exc w c7:=DK h
theorem c6 (h:g8 P r m s Y=.ok (.next,m') c7):a8 P r m (s::ss) Y=a8 P r m' ss c7:=v8 h rfl
theorem aL {w:Txt} (h:g8 P r m s Y=.exc w c7):a8 P r m (s::ss) Y=.exc w c7:=DK h
theorem t8 {fd:Fd} {p:Fl×Fr} (h1:P.fns[k]? =some fd) (h2:U7 fd vs=some m) (h:(b9 P n).Y9 m fd.body Y=.ok p c7):(b9 P (n+1)).run k vs Y=.ok (It p.1) c7:=by
 show(b8 80 (P.fns[k]?) Y).bind _=_
 rw[h1]
 show(b8 81 (U7 fd vs) Y).bind _=_
 rw[h2]
 exact v8 (a:=m) (c7:=Y) rfl (v8 h rfl)
theorem aN {fd:Fd} {w:Txt} (h1:P.fns[k]? =some fd) (h2:U7 fd vs=some m) (h:(b9 P n).Y9 m fd.body Y=.exc w c7):(b9 P (n+1)).run k vs Y=.exc w c7:=by
 show(b8 80 (P.fns[k]?) Y).bind _=_
 rw[h1]
 show(b8 81 (U7 fd vs) Y).bind _=_
 rw[h2]
 exact v8 (a:=m) (c7:=Y) rfl (DK h)
theorem BQ {a b:List S}:∀{m Y},a8 P r m (a++b) Y=(a8 P r m a Y).bind fun p Y=>gN p (fun m Y=>a8 P r m b Y) Y:=by
 induction a with
 |nil=>exact rfl
 |cons s a ih=>
  intro m Y
  show(g8 P r m s Y).bind _=((g8 P r m s Y).bind _).bind _
  induction g8 P r m s Y with
  |no w=>rfl
  |exc w Y=>rfl
  |ok q Y=>
   induction q with
   |mk f m'=>
    induction f with
    |ret v=>rfl
    |next=>exact ih
theorem z4 {b:List S} (j:Nat) (h:a8 P r m (b.take j) Y=.ok (.next,m') c7):a8 P r m b Y=a8 P r m' (b.drop j) c7:=by
 have e:=BQ (P:=P) (r:=r) (a:=b.take j) (b:=b.drop j) (m:=m) (Y:=Y)
 rw[List.take_append_drop]at e
 exact e.trans (v8 h rfl)
end
theorem e8 {α β:Type} {f h:α->β} {l:List α} (e:l.map f=l.foldr (fun a r=>h a::r) []) {a:α} (ha:a∈l):f a=h a:=by
 induction l with
 |nil=>exact nomatch ha
 |cons x l ih=>exact(Of ha).elim (fun q=>q▸(List.cons.inj (e:f x::l.map f=h x::_)).1) (ih (List.cons.inj (e:f x::l.map f=h x::_)).2)
theorem M1 {β:Type} {f h:Nat->β} (e:(List.range 6).map f=(List.range 6).foldr (fun a r=>h a::r) []) {d:Nat} (hd:d < 6):f d=h d:=e8 e (OH hd)
noncomputable def Jx:Txt:=[112,97,116,104]
noncomputable def LZ:Txt:=[112,97,114,101,110,116]
noncomputable def Mb:Txt:=[111,98,106,101,99,116]
noncomputable def Ma:Txt:=[111,119,110]
noncomputable def Me:Txt:=[103,111,116]
noncomputable def Mc:Txt:=[110,111]
noncomputable def Et:Txt:=[108,97,115,116]
noncomputable def GO:Txt:=[110,111,116,101,115]
noncomputable def Jw:Txt:=[122,97,112,115]
noncomputable def m0:Txt->Option V:=(List.range 19).foldl (fun f i=>t9 f Et (some (.int (Int.ofNat i+1)))) (t9 (t9 (t9 (fun J=>none) Et (some (.int 0))) GO (some (.loc 2))) Jw (some (.loc 3)))
noncomputable def r8 (a:Nat):List Nat:=[a,0,0,0,0,0,0,0]
noncomputable def vh (par ch pr:Nat):V:=.bytes (r8 par++r8 0++r8 ch++r8 pr++r8 0++r8 0++r8 0++r8 0++r8 0++r8 0)
noncomputable def Gi:List (Int×V):=[(4,vh 0 2 3),(7,vh 4 5 6),(10,vh 7 8 9),(13,vh 10 11 12),(16,vh 7 14 15),(19,vh 4 17 18)]
noncomputable def IA:List (Int×V):=[(1,.loc 4),(2,.loc 5),(3,.loc 6),(5,.loc 9),(6,.loc 10),(8,.loc 12),(9,.loc 13),(11,.loc 15),(12,.loc 16),(14,.loc 18),(15,.loc 19),(17,.loc 21),(18,.loc 22)]
noncomputable def y0 (k:Txt) (v:Int):Txt->Option V:=t9 (fun J=>none) k (some (.int v))
noncomputable def fQ (path:Txt) (par obj:Int) (a b k:Nat):O:=.map (t9 (t9 (t9 (bc [(Jx,.str path),(LZ,.int par),(Mb,.int obj)]) Ma (some (.loc a))) Me (some (.loc b))) Mc (some (.loc k)))
noncomputable def H (p o g:Nat->O) (k:Nat->Nat) (t:List O):Hp:=
 .map m0::.inst 0 0::.dy Gi::.dy IA::.map (y0 [114,111,111,116] 4)::.map (t9 (y0 [97] 7) [101] (some (.int 19)))::
 p 0::fQ [] (-1) 4 24 25 (k 0)::.list [.loc 7,.loc 11,.loc 14,.loc 17,.loc 20,.loc 23]::.map (t9 (y0 [98] 10) [100] (some (.int 16)))::
 p 1::fQ [97] 0 7 27 28 (k 1)::.map (y0 [99] 13)::
 p 2::fQ [97,47,98] 1 10 30 31 (k 2)::.emp::
 p 3::fQ [97,47,98,47,99] 2 13 33 34 (k 3)::.emp::
 p 4::fQ [97,47,100] 1 16 36 37 (k 4)::.emp::
 p 5::fQ [101] 0 19 39 40 (k 5)::
 o 0::g 0::.list []::o 1::g 1::.list []::o 2::g 2::.list []::o 3::g 3::.list []::o 4::g 4::.list []::o 5::g 5::.list []::t
noncomputable def fL:List Txt:=[[112,97,99,107,101,100],[99,111,112,105,101,115],[114,101,99,111,114,100],[114,101,97,100,111,110,108,121],[100,101,100,117,112],[115,117,109,109,101,100],[97,58,98],[110,111,110,101],[58,97,98]]
noncomputable def bO:List V:=[(.str [111,102,102]),(.str [111,110]),(.str [122,108,101]),(.str [108,122,52]),(.str [109,105,120]),(.str [103,122,105,112]),(.int 0),(.int 1),(.int 2),(.int 3),(.int 4),(.int 8),(.int 24),(.int 4096),(.int 8192),(.int 4294967295),(.int 4294967296),(.bool true)]
noncomputable def HU (xs:List V):Fr:=[(135,.lst xs),(41,.loc 1),(15,.loc 8),(14,.str [101]),(29,.int 0),(138,.str [101]),(34,.loc 23),(56,.lst (fL.map .str)),(140,.lst bO)]
noncomputable def H0:Hp:=H (fun J=>.emp) (fun J=>.emp) (fun J=>.emp) (fun d=>26+3 * d) []
theorem xq (n:Nat) (xs:List V):a8 pg (b9 pg (n+60)) [(135,.lst xs)] ((I8.body.drop 1).take 6) []=.ok (.next,HU xs) H0:=by rfl'
noncomputable def ob (d:Nat):Int:=Int.ofNat (3 * d+4)
noncomputable def zp (d:Nat):Int:=Int.ofNat (3 * d+3)
noncomputable def rl (d:Nat):Nat:=Nat.rec 7 (fun d J=>3 * d+11) d
noncomputable def ol (d:Nat):Nat:=24+3 * d
noncomputable def gq (d:Nat):Nat:=25+3 * d
noncomputable def Bb (d:Nat):Txt:=[[],[97],[97,47,98],[97,47,98,47,99],[97,47,100],[101]].getD d []
noncomputable def EN (d:Nat):Fr:=[(29,.int ([0,4,7,10,7,4].getD d 0)),(30,.int 0),(31,.int (Int.ofNat (3 * d+2))),(32,.int (zp d)),(33,.int 0),(35,.int 0),(36,.int 0),(37,.int 0),(38,.int 0),(39,.int 0)]
variable {t:List O} {k:Nat->Nat} {p o g:Nat->O} {d:Nat}
section
variable (n:Nat)
theorem Lf (hd:d < 6):(b9 pg (n+20)).run 15 [.loc 1,.int (ob d)] (H p o g k t)=.ok (.obj 1 (EN d)) (H p o g k t):=M1 (f:=fun d=>(b9 pg (n+20)).run 15 [.loc 1,.int (ob d)] (H p o g k t)) (h:=fun d=>.ok (.obj 1 (EN d)) (H p o g k t)) (by rfl') hd
theorem Ce (hd:d < 6):(b9 pg (n+35)).run 24 [.loc 1,.int (ob d)] (H p o g k t)=.ok (.str (Bb d)) (H p o g k t):=M1 (f:=fun d=>(b9 pg (n+35)).run 24 [.loc 1,.int (ob d)] (H p o g k t)) (h:=fun d=>.ok (.str (Bb d)) (H p o g k t)) (by rfl') hd
end
noncomputable abbrev y3:Txt:=[36,105,110,104,101,114,105,116]
noncomputable abbrev u4:Txt:=[36,114,101,99,118,100]
noncomputable def put {α:Type} (p:Nat->α) (d:Nat) (x:α):Nat->α:=fun i=>bif Nat.beq i d then x else p i
theorem w4 {α:Type} {p:Nat->α} {d:Nat} {x:α}:put p d x d=x:=by
 show(bif Nat.beq d d then x else p d)=x
 rw[Nat.beq_refl];rfl
theorem K3 {α:Type} {p:Nat->α} {d e:Nat} {x:α} (h:e≠d):put p d x e=p e:=by
 show(bif Nat.beq e d then x else p e)=p e
 induction q:Nat.beq e d with
 |false=>rfl
 |true=>exact absurd (Om q) h
theorem o9 {α:Type} {p:Nat->α} {d:Nat}:put p d (p d)=p:=funext fun e=>(Nat.decEq e d).byCases (fun h=>h▸w4) fun h=>K3 h
theorem dI {α:Type} {p:Nat->α} {d:Nat} {x y:α}:put (put p d x) d y=put p d y:=funext fun e=>(Nat.decEq e d).byCases (fun h=>h▸w4.trans w4.symm) fun h=>(K3 h).trans ((K3 h).trans (K3 h).symm)
theorem G8 (a:Txt):r5 a a=true:=Mine.D0.mpr rfl
theorem lJ {a b:Txt} (h:a≠b):r5 a b=false:=by
 cases e:r5 a b with
 |false=>rfl
 |true=>exact absurd (Mine.D0.mp e) h
theorem u5 {f:Txt->Option V} {a:Txt} {x:Option V}:t9 f a x a=x:=by
 show(bif r5 a a then x else f a)=x
 rw[G8];rfl
theorem l0 {f:Txt->Option V} {a b:Txt} {x:Option V} (h:a≠b):t9 f a x b=f b:=by
 show(bif r5 a b then x else f b)=f b
 rw[lJ h];rfl
theorem E5 {f:Txt->Option V} {a:Txt}:t9 f a (f a)=f:=funext fun b=>(inferInstance:Decidable (a=b)).byCases (fun h=>h▸u5) l0
theorem Bs {f:Txt->Option V} {a:Txt} {x y:Option V}:t9 (t9 f a x) a y=t9 f a y:=funext fun b=>(inferInstance:Decidable (a=b)).byCases (fun h=>h▸u5.trans u5.symm) fun h=>(l0 h).trans ((l0 h).trans (l0 h).symm)
noncomputable def fo:O->Txt->Option V
 |.map f=>f
 |_=>fun J=>none
noncomputable def A0 (x:O) (k:Txt) (v:V):O:=.map (t9 (fo x) k (some v))
noncomputable def cut (x:O) (k:Txt):O:=bif c3 (fo x k)then .map (t9 (fo x) k none)else x
inductive A5:O->Prop
 |emp:A5 .emp
 |map (f:Txt->Option V) (h:∀q v,f q=some v->∃j,v=.int j):A5 (.map f)
theorem A5.el {x:O} (h:A5 x) {key:Txt} {G:O->Prop} (h1:G .emp) (h2:∀f,G (.map (t9 f key none))) (h3:∀f j,G (.map (t9 f key (some (.int j))))):G x:=by
 induction h with
 |emp=>exact h1
 |map f h=>
  have e:t9 f key (f key)=f:=E5
  rw[←e]
  induction q:f key with
  |none=>exact h2 f
  |some v=>exact(h key v q).elim fun j hj=>hj▸h3 f j
noncomputable def V7:List Txt:=[[97,58,98],[99,111,112,105,101,115],[100,101,100,117,112],[112,97,99,107,101,100],[114,101,97,100,111,110,108,121],[114,101,99,111,114,100],[115,117,109,109,101,100]]
noncomputable def tI:Txt:=[115,110,97,112,100,105,114]
noncomputable def tH:Txt:=[115,121,110,99]
noncomputable def N5:List Txt:=V7++[tI,tH]
noncomputable def DV (l:List Txt):List Txt:=l++(l.map (· ++y3)++l.map (· ++u4))
section
noncomputable def B7 (l1:List α) (l2:List β):List (α×β):=l1.flatMap fun a=>l2.map fun b=>(a,b)
theorem fT {l1:List α} {l2:List β} {a:α} {b:β} (h1:a∈l1) (h2:b∈l2):(a,b)∈B7 l1 l2:=List.mem_flatMap.mpr ⟨a,h1,List.mem_map.mpr ⟨b,h2,rfl⟩⟩
theorem Y3 {γ:Type} {f h:α->β->γ} {l1:List α} {l2:List β} (e:(B7 l1 l2).map (fun q=>f q.1 q.2)=(B7 l1 l2).foldr (fun q r=>h q.1 q.2::r) []) {a:α} {b:β} (h1:a∈l1) (h2:b∈l2):f a b=h a b:=e8 (f:=fun q:α×β=>f q.1 q.2) (h:=fun q=>h q.1 q.2) e (fT h1 h2)
end
noncomputable abbrev D6:List Nat:=List.range 6
variable {i:Int}
section
variable (n:Nat) (f:Txt->Option V) {key:Txt} {j:Int}
noncomputable abbrev vN (n:Nat) (Y:Hp) (d:Nat) (key:Txt):R V:=(b9 pg (n+10)).run 5 [.loc 1,.int (zp d),.str key] Y
theorem zL (hd:d < 6) (hk:key∈DV N5) (hc:A5 (p d)):vN n (H p o g k t) d key=.ok ((fo (p d) key).getD .none) (H p o g k t):=by
 have hd:=OH hd
 have go:∀x,A5 x->vN n (H (put p d x) o g k t) d key=.ok ((fo x key).getD .none) (H (put p d x) o g k t):=fun x hx=>hx.el (key:=key) (G:=fun x=>vN n (H (put p d x) o g k t) d key=.ok ((fo x key).getD .none) (H (put p d x) o g k t))
  (Y3 (f:=fun d key=>vN n (H (put p d .emp) o g k t) d key) (h:=fun d key=>.ok .none (H (put p d .emp) o g k t)) (by rfl') hd hk)
  (fun f=>Y3 (f:=fun d key=>vN n (H (put p d (.map (t9 f key none))) o g k t) d key) (h:=fun d key=>.ok .none (H (put p d (.map (t9 f key none))) o g k t)) (by rfl') hd hk |>.trans (by rw[show(fo (.map (t9 f key none)) key)=none from u5];rfl))
  (fun f j=>Y3 (f:=fun d key=>vN n (H (put p d (.map (t9 f key (some (.int j))))) o g k t) d key) (h:=fun d key=>.ok (.int j) (H (put p d (.map (t9 f key (some (.int j))))) o g k t)) (by rfl') hd hk |>.trans (by rw[show(fo (.map (t9 f key (some (.int j)))) key)=some (.int j)from u5];rfl))
 have q:=go (p d) hc
 rw[o9]at q
 exact q
noncomputable abbrev Nz (i:Int):Bool:=decide (0≤i)&&decide (i < 18446744073709551616)
noncomputable abbrev LM (n:Nat) (Y:Hp) (d:Nat) (key:Txt) (i:Int):R V:=(b9 pg (n+10)).run 6 [.loc 1,.int (zp d),.str key,.int i] Y
theorem qJ (hd:d < 6) (hk:key∈DV V7) (hc:A5 (p d)) (hi:a8 pg (b9 pg (n+8)) [(6,.loc 1),(13,.int (zp d)),(14,.str key),(16,.int i)] (o6.body.take 1) (H p o g k t)=.ok (.next,[(6,.loc 1),(13,.int (zp d)),(14,.str key),(16,.int i)]) (H p o g k t)):
 LM n (H p o g k t) d key i=.ok .none (H (put p d (A0 (p d) key (.int i))) o g k t):=by
 have hd:=OH hd
 have go:∀x,A5 x->a8 pg (b9 pg (n+8)) [(6,.loc 1),(13,.int (zp d)),(14,.str key),(16,.int i)] (o6.body.drop 1) (H (put p d x) o g k t)=.ok (.next,[(6,.loc 1),(13,.int (zp d)),(14,.str key),(16,.int i)]) (H (put p d (A0 x key (.int i))) o g k t):=fun x hx=>by
  induction hx with
  |emp=>exact Y3 (f:=fun d key=>a8 pg (b9 pg (n+8)) [(6,.loc 1),(13,.int (zp d)),(14,.str key),(16,.int i)] (o6.body.drop 1) (H (put p d .emp) o g k t)) (h:=fun d key=>.ok (.next,[(6,.loc 1),(13,.int (zp d)),(14,.str key),(16,.int i)]) (H (put p d (A0 .emp key (.int i))) o g k t)) (by rfl') hd hk
  |map f=>exact Y3 (f:=fun d key=>a8 pg (b9 pg (n+8)) [(6,.loc 1),(13,.int (zp d)),(14,.str key),(16,.int i)] (o6.body.drop 1) (H (put p d (.map f)) o g k t)) (h:=fun d key=>.ok (.next,[(6,.loc 1),(13,.int (zp d)),(14,.str key),(16,.int i)]) (H (put p d (A0 (.map f) key (.int i))) o g k t)) (by rfl') hd hk
 have q:=go (p d) hc
 rw[o9]at q
 exact t8 (n:=n+9) (fd:=o6) rfl rfl ((z4 1 hi).trans q)
noncomputable abbrev vP (n:Nat) (Y:Hp) (d:Nat) (key:Txt):R V:=(b9 pg (n+15)).run 33 [.loc 1,.int (zp d),.str key] Y
theorem J7 (hd:d < 6) (hk:key∈DV V7) (hc:A5 (p d)):vP n (H p o g k t) d key=.ok (.bool (c3 (fo (p d) key))) (H (put p d (cut (p d) key)) o g k t):=by
 have hd:=OH hd
 have go:∀x,A5 x->vP n (H (put p d x) o g k t) d key=.ok (.bool (c3 (fo x key))) (H (put p d (cut x key)) o g k t):=fun x hx=>hx.el (key:=key) (G:=fun x=>vP n (H (put p d x) o g k t) d key=.ok (.bool (c3 (fo x key))) (H (put p d (cut x key)) o g k t))
  (Y3 (f:=fun d key=>vP n (H (put p d .emp) o g k t) d key) (h:=fun d key=>.ok (.bool (c3 (fo .emp key))) (H (put p d (cut .emp key)) o g k t)) (by rfl') hd hk)
  (fun f=>Y3 (f:=fun d key=>vP n (H (put p d (.map (t9 f key none))) o g k t) d key) (h:=fun d key=>.ok (.bool (c3 (fo (.map (t9 f key none)) key))) (H (put p d (cut (.map (t9 f key none)) key)) o g k t)) (by rfl') hd hk)
  (fun f j=>Y3 (f:=fun d key=>vP n (H (put p d (.map (t9 f key (some (.int j))))) o g k t) d key) (h:=fun d key=>.ok (.bool (c3 (fo (.map (t9 f key (some (.int j)))) key))) (H (put p d (cut (.map (t9 f key (some (.int j)))) key)) o g k t)) (by rfl') hd hk)
 have q:=go (p d) hc
 rw[o9]at q
 exact q
end
noncomputable def BD:V:=.str [111,102,102]
noncomputable def ML:V:=.str [111,110]
noncomputable def N9:List (Txt×List V):=[
 ([112,97,99,107,101,100],[BD,.str [122,108,101],.str [108,122,106,98],.str [108,122,52]]),
 ([99,111,112,105,101,115],[.int 1,.int 2,.int 3]),
 ([114,101,99,111,114,100],[.int 8,.int 16,.int 32,.int 64,.int 128,.int 256,.int 512,.int 1024,.int 2048,.int 4096]),
 ([114,101,97,100,111,110,108,121],[BD,ML]),
 ([100,101,100,117,112],[BD,ML]),
 ([115,117,109,109,101,100],[BD,.str [102,108,101,116,99,104,101,114,50],.str [102,108,101,116,99,104,101,114,52],.str [109,105,120]]),
 ([97,58,98],[]),([110,111,110,101],[]),([58,97,98],[])]
noncomputable def NV:List (Txt×V):=N9.flatMap fun q=>(q.2++bO).map fun v=>(q.1,v)
theorem Ja {q:Txt×List V} {v:V} (hq:q∈N9) (hv:v∈q.2++bO):(q.1,v)∈NV:=List.mem_flatMap.mpr ⟨q,hq,List.mem_map.mpr ⟨v,hv,rfl⟩⟩
noncomputable def B5 (nm:Txt):Bool:=r5 nm [110,111,110,101]|| r5 nm [58,97,98]
noncomputable def I5 (nm:Txt):Txt:=[110,111,32,115,117,99,104,32,112,114,111,112,101,114,116,121,58,32]++nm
noncomputable def hY (nm:Txt):Txt:=bif B5 nm then I5 nm else[110,111,32,118,97,108,117,101,32,111,102,32]++nm
noncomputable def Nw:R V->Option Int
 |.ok v _=>z5 v
 |_=>none
noncomputable def iz (q:Txt×V):Option Int:=Nw ((b9 pg 60).run 31 [.str q.1,q.2] [])
noncomputable def isQ (v:V):Bool:=((z5 v).map fun J=>()).isSome ||((r6 v).map fun J=>()).isSome
structure Acc (nm:Txt) (v:V) (i:Int):Prop where
 key:nm∈V7
 mem:(nm,v)∈NV
 en:iz (nm,v)=some i
 num:∀n Y,(b9 pg (n+60)).run 31 [.str nm,v] Y=.ok (.int i) Y
 ref:∀n Y,(b9 pg (n+60)).run 50 [.str nm,v] Y=.ok (.str []) Y
 val:∀n Y,(b9 pg (n+60)).run 32 [.str nm,.int i] Y=.ok v Y
 fit:∀n Y d key,a8 pg (b9 pg (n+8)) [(6,.loc 1),(13,.int d),(14,.str key),(16,.int i)] (o6.body.take 1) Y=.ok (.next,[(6,.loc 1),(13,.int d),(14,.str key),(16,.int i)]) Y
 q:isQ v=true
structure Ls (nm:Txt) (v:V):Prop where
 num:∀n Y,(b9 pg (n+60)).run 31 [.str nm,v] Y=.exc (hY nm) Y
 ref:∀n Y,(b9 pg (n+60)).run 50 [.str nm,v] Y=.ok (.str (hY nm)) Y
structure Pv (v:V):Prop where
 rd:Y4 v=some v
 fz:freeze v=some v
 qt:quiet v=true
theorem kQ {l:List Txt} {x:Txt} (h:l.any (r5 x)=true):x∈l:=match List.any_eq_true.mp h with|⟨_,hy,e⟩=>Mine.D0.mp e▸hy
theorem Cn (n:Nat) (Y:Hp):NV.map (fun q=>(b9 pg (n+60)).run 31 [.str q.1,q.2] Y)=NV.foldr (fun q r=>(iz q).elim (.exc (hY q.1) Y) (fun i=>.ok (.int i) Y)::r) []:=by rfl'
theorem yF (n:Nat) (Y:Hp) {q:Txt×V} (h:q∈NV):(b9 pg (n+60)).run 31 [.str q.1,q.2] Y=(iz q).elim (.exc (hY q.1) Y) fun i=>.ok (.int i) Y:=e8 (Cn n Y) h
theorem Gg (n:Nat) (Y:Hp) {q:Txt×V} (h:q∈NV):(b9 pg (n+60)).run 50 [.str q.1,q.2] Y=.ok (.str ((iz q).elim (hY q.1) fun J=>[])) Y:=e8 (β:=R V) (a:=q) (f:=fun q=>(b9 pg (n+60)).run 50 [.str q.1,q.2] Y) (h:=fun q=>.ok (.str ((iz q).elim (hY q.1) fun J=>[])) Y) (by rfl') h
theorem Ge (n:Nat) (Y:Hp) {q:Txt×V} (h:q∈NV):(iz q).elim (.ok q.2 Y) (fun i=>(b9 pg (n+60)).run 32 [.str q.1,.int i] Y)=.ok q.2 Y:=e8 (β:=R V) (a:=q) (f:=fun q=>(iz q).elim (.ok q.2 Y) fun i=>(b9 pg (n+60)).run 32 [.str q.1,.int i] Y) (h:=fun q=>.ok q.2 Y) (by rfl') h
theorem Gh (n:Nat) (Y:Hp) (d:Int) (key:Txt) {q:Txt×V} (h:q∈NV):(iz q).elim none (fun i=>some (a8 pg (b9 pg (n+8)) [(6,.loc 1),(13,.int d),(14,.str key),(16,.int i)] (o6.body.take 1) Y))=(iz q).map fun i=>.ok (.next,[(6,.loc 1),(13,.int d),(14,.str key),(16,.int i)]) Y:=
 e8 (β:=Option (R (Fl×Fr))) (a:=q) (f:=fun q=>(iz q).elim none (fun i=>some (a8 pg (b9 pg (n+8)) [(6,.loc 1),(13,.int d),(14,.str key),(16,.int i)] (o6.body.take 1) Y))) (h:=fun q=>(iz q).map fun i=>.ok (.next,[(6,.loc 1),(13,.int d),(14,.str key),(16,.int i)]) Y) (by rfl') h
theorem Co:(NV.all fun q=>(iz q).elim true fun i=>V7.any (r5 q.1)&&isQ q.2)=true:=by rfl'
theorem Ej {q:Txt×V} (h:q∈NV):Pv q.2:=⟨e8 (a:=q) (f:=fun q:Txt×V=>Y4 q.2) (h:=fun q=>some q.2) (by rfl') h,e8 (a:=q) (f:=fun q:Txt×V=>freeze q.2) (h:=fun q=>some q.2) (by rfl') h,e8 (a:=q) (f:=fun q:Txt×V=>quiet q.2) (h:=fun q=>true) (by rfl') h⟩
theorem fH {nm:Txt} {v:V} (h:(nm,v)∈NV):(∃i,Acc nm v i)∨Ls nm v:=by
 have h1:=fun n Y=>yF n Y h
 have h2:=fun n Y=>Gg n Y h
 have h3:=fun n Y=>Ge n Y h
 have h4:=fun n Y d key=>Gh n Y d key h
 have h5:=List.all_eq_true.mp Co _ h
 cases e:iz (nm,v)with
 |none=>rw[e]at h1 h2;exact .inr ⟨h1,h2⟩
 |some i=>rw[e]at h1 h2 h3 h4 h5;exact .inl ⟨i,kQ (a7 h5 fun a J=>a),h,e,h1,h2,h3,fun n Y d key=>NX (h4 n Y d key),a7 h5 fun J a=>a⟩
noncomputable def I7 (nm:Txt):V:=match(b9 pg 60).run 30 [.str nm] []with
 |.ok v _=>v
 |_=>.none
noncomputable def NM:List Txt:=N9.map Prod.fst
theorem og (n:Nat) (Y:Hp) {nm:Txt} (h:nm∈NM):(b9 pg (n+50)).run 30 [.str nm] Y=bif B5 nm then .exc (I5 nm) Y else .ok (I7 nm) Y:=e8 (β:=R V) (a:=nm) (f:=fun nm=>(b9 pg (n+50)).run 30 [.str nm] Y) (h:=fun nm=>bif B5 nm then .exc (I5 nm) Y else .ok (I7 nm) Y) (by rfl') h
theorem Ct:(NM.all fun a=>B5 a || V7.any (r5 a))=true:=by rfl'
theorem fK {nm:Txt} (h:nm∈NM) (hb:B5 nm=false):nm∈V7:=kQ ((Bool.or_eq_true_iff.mp (List.all_eq_true.mp Ct nm h)).elim (fun q=>Bool.noConfusion (hb.symm.trans q)) id)
noncomputable def Lm (l:List V):V:=bif l.isEmpty then .g6 []else .lst l
theorem Km (n:Nat) (Y:Hp) {q:Txt×List V} (h:q∈N9):(b9 pg (n+60)).run 48 [.str q.1] Y=.ok (Lm q.2) Y:=e8 (a:=q) (f:=fun q:Txt×List V=>(b9 pg (n+60)).run 48 [.str q.1] Y) (h:=fun q=>.ok (Lm q.2) Y) (by rfl') h
variable {ov:V} {c:Nat}
section
variable {t:Txt} {w:V} {o:X} {k mm:Nat} {s:S} {ss:List S} {u:Unit}
theorem CB (ho:r.ev m o Y=.ok ov Y) (hc:gO ov Y=some c) (hm:ag P c mm=some k) (hb:pD P ov mm Y=some u) (he:G7 r m es Y=.ok vs c7) (hr:r.run k (ov::vs) c7=.ok v u3):s7 P r m (.l5 o mm es) Y=.ok v u3:=by
 refine v8 ho ?_
 show nM (gO ov Y) _ _=_
 rw[hc]
 show(b8 93 (ag P c mm) Y).bind _=_
 rw[hm]
 show(b8 92 (pD P ov mm Y) Y).bind _=_
 rw[hb]
 exact v8 (a:=u) (c7:=Y) rfl (v8 he hr)
theorem I2 (h:d6 m k=some v) (h':Y4 v=some w):(b9 P (n+1)).ev m (.NT k) Y=.ok w Y:=Cw (r:=b9 P n) h h'
theorem j0 (hf:(b9 P n).ev m e Y=.ok (.fn k) Y) (he:G7 (b9 P n) m es Y=.ok vs c7) (hr:(b9 P n).run k vs c7=.ok v u3):(b9 P (n+1)).ev m (.call e es) Y=.ok v u3:=DG hf he hr
theorem U6 (hf:(b9 P n).ev m e Y=.ok (.fn k) Y) (he:G7 (b9 P n) m es Y=.ok vs c7) (hr:(b9 P n).run k vs c7=.exc t u3):(b9 P (n+1)).ev m (.call e es) Y=.exc t u3:=call_exc hf he hr
theorem fS (ho:(b9 P n).ev m o Y=.ok ov Y) (hc:gO ov Y=some c) (hm:ag P c mm=some k) (hb:pD P ov mm Y=some u) (he:G7 (b9 P n) m es Y=.ok vs c7) (hr:(b9 P n).run k (ov::vs) c7=.ok v u3):(b9 P (n+1)).ev m (.l5 o mm es) Y=.ok v u3:=CB ho hc hm hb he hr
theorem C2 (h:r.ev m e Y=.ok v c7):g8 P r m (.expr e) Y=.ok (.next,m) c7:=v8 h rfl
theorem oO (h:r.ev m e Y=.exc t c7):g8 P r m (.expr e) Y=.exc t c7:=DK h
theorem g5:a8 P r m [] Y=.ok (.next,m) Y:=rfl
theorem B1 {z:V} (h1:ownOf e m=none) (h:r.ev m e Y=.ok z c7) (hl:dw z=false):g8 P r m (.ret e) Y=.ok (.ret z,m) c7:=by
 show nM (ownOf e m) _ ((r.ev m e Y).bind fun v Y=>bif dw v then .no 149 else .ok (Fl.ret v,m) Y)=_
 rw[h1]
 refine v8 h ?_
 rw[hl];rfl
theorem s9 {z:V} (h:g8 P r m s Y=.ok (.ret z,m') c7):a8 P r m (s::ss) Y=.ok (.ret z,m') c7:=v8 h rfl
end
variable {nm:Txt}
section
noncomputable def Iv {α:Type} {f h:Txt->α} {nm:Txt} (hk:nm∈V7) (e:V7.map f=V7.foldr (fun a r=>h a::r) []):f nm=h nm:=e8 e hk
theorem CQ (hk:nm∈V7):nm∈DV V7:=Oa _ hk
theorem CP (hk:nm∈V7):(nm++y3)∈DV V7:=Ob _ (Oa _ (List.mem_map.mpr ⟨nm,hk,rfl⟩))
theorem CO (hk:nm∈V7):(nm++u4)∈DV V7:=Ob _ (Ob _ (List.mem_map.mpr ⟨nm,hk,rfl⟩))
theorem A5.A0 {x:O} (h:A5 x) {key:Txt}:A5 (A0 x key (.int i)):=.map _ fun q v e=>(inferInstance:Decidable (key=q)).byCases (fun z=>by
 subst z;rw[u5]at e;exact⟨i,(NX e).symm⟩) fun z=>by
 rw[l0 z]at e
 induction h with
 |emp=>exact nomatch e
 |map f h=>exact h q v e
theorem A5.cut {x:O} (h:A5 x) {key:Txt}:A5 (cut x key):=by
 show A5 (bif c3 (fo x key)then .map (t9 (fo x) key none)else x)
 induction c3 (fo x key)with
 |false=>exact h
 |true=>exact .map _ fun q v e=>(inferInstance:Decidable (key=q)).byCases (fun z=>by
  subst z;rw[u5]at e;exact nomatch e) fun z=>(by
  rw[l0 z]at e
  induction h with
  |emp=>exact nomatch e
  |map f h=>exact h q v e)
noncomputable def m4 (d:Nat) (nm:Txt) (v:V):Fr:=[(41,.loc 1),(21,.int (ob d)),(14,.str nm),(81,v)]
noncomputable def m5 (d:Nat) (nm:Txt) (v:V) (i:Int):Fr:=[(41,.loc 1),(21,.int (ob d)),(14,.str nm),(81,v),(16,.int i),(32,.int (zp d))]
theorem uW (n:Nat) (hd:d < 6):a8 pg (b9 pg (n+68)) [(41,.loc 1),(21,.int (ob d)),(14,.str nm),(81,v),(16,.int i)] ((K9.body.drop 1).take 1) (H p o g k t)=.ok (.next,m5 d nm v i) (H p o g k t):=
 M1 (f:=fun d=>a8 pg (b9 pg (n+68)) [(41,.loc 1),(21,.int (ob d)),(14,.str nm),(81,v),(16,.int i)] ((K9.body.drop 1).take 1) (H p o g k t)) (h:=fun d=>.ok (.next,m5 d nm v i) (H p o g k t)) (by rfl') hd
theorem yj (n:Nat) {Y:Hp} (hk:nm∈V7):G7 (b9 pg (n+67)) (m5 d nm v i) [(.NT 41),(.NT 32),(.bin .add (.NT 14) (.NT 91))] Y=.ok [.loc 1,.int (zp d),.str (nm++y3)] Y:=
 Iv (f:=fun nm=>G7 (b9 pg (n+67)) (m5 d nm v i) [(.NT 41),(.NT 32),(.bin .add (.NT 14) (.NT 91))] Y) (h:=fun nm=>.ok [.loc 1,.int (zp d),.str (nm++y3)] Y) hk (by rfl')
theorem me (n:Nat) {Y:Hp} (pv:Pv v):G7 (b9 pg (n+67)) (m4 d nm v) [(.NT 14),(.NT 81)] Y=.ok [.str nm,v] Y:=
 i5 (I2 (v:=.str nm) (w:=.str nm) rfl rfl) rfl (i5 (I2 (v:=v) (w:=v) rfl pv.rd) pv.fz rfl)
theorem FG (a:Acc nm v i) (pv:Pv v) (hd:d < 6) (hc:A5 (p d)) (n:Nat):(b9 pg (n+70)).run 34 [.loc 1,.int (ob d),.str nm,v] (H p o g k t)=.ok .none (H (put p d (cut (A0 (p d) nm (.int i)) (nm++y3))) o g k t):=by
 refine t8 (n:=n+69) (fd:=K9) (p:=(.next,m5 d nm v i)) (m:=m4 d nm v) rfl rfl ?_
 refine(c6 (m':=[(41,.loc 1),(21,.int (ob d)),(14,.str nm),(81,v),(16,.int i)]) (m3 (j0 (k:=31) rfl (me n pv) (a.num (n+7) _)) (D3 (v:=.int i) (w:=.int i) rfl))).trans ?_
 refine(z4 1 (uW n hd)).trans ?_
 refine(c6 (C2 (fS (ov:=.loc 1) (c:=0) (k:=6) (u:=()) (vs:=[.int (zp d),.str nm,.int i]) rfl rfl rfl rfl rfl (qJ (n:=n+57) hd (CQ a.key) hc (a.fit (n+57) _ _ _))))).trans ?_
 have f1:=J7 (p:=put p d (A0 (p d) nm (.int i))) (o:=o) (g:=g) (k:=k) (t:=t) (n+52) hd (CP a.key) (by rw[w4];exact hc.A0)
 rw[dI,w4]at f1
 exact(c6 (C2 (j0 (k:=33) rfl (yj n a.key) f1))).trans g5
theorem sS (a:Ls nm v) (pv:Pv v) (n:Nat) {Y:Hp}:(b9 pg (n+70)).run 34 [.loc 1,.int (ob d),.str nm,v] Y=.exc (hY nm) Y:=
 aN (n:=n+69) (fd:=K9) (m:=m4 d nm v) rfl rfl (aL (az (U6 (k:=31) rfl (me n pv) (a.num (n+7) _))))
theorem yn (n:Nat) (hd:d < 6) (hk:nm∈V7):G7 (b9 pg (n+67)) [(41,.loc 1),(21,.int (ob d)),(14,.str nm),(81,v),(16,.int i)] [(.attr (.call (.NT 55) [(.NT 41),(.NT 21)]) 32),(.bin .add (.NT 14) (.NT 93)),(.NT 16)] (H p o g k t)=.ok [.int (zp d),.str (nm++u4),.int i] (H p o g k t):=
 Y3 (f:=fun d nm=>G7 (b9 pg (n+67)) [(41,.loc 1),(21,.int (ob d)),(14,.str nm),(81,v),(16,.int i)] [(.attr (.call (.NT 55) [(.NT 41),(.NT 21)]) 32),(.bin .add (.NT 14) (.NT 93)),(.NT 16)] (H p o g k t)) (h:=fun d nm=>.ok [.int (zp d),.str (nm++u4),.int i] (H p o g k t)) (by rfl') (OH hd) hk
theorem FP (a:Acc nm v i) (pv:Pv v) (hd:d < 6) (hc:A5 (p d)) (n:Nat):(b9 pg (n+70)).run 36 [.loc 1,.int (ob d),.str nm,v] (H p o g k t)=.ok .none (H (put p d (A0 (p d) (nm++u4) (.int i))) o g k t):=by
 refine t8 (n:=n+69) (fd:=K7) (p:=(.next,[(41,.loc 1),(21,.int (ob d)),(14,.str nm),(81,v),(16,.int i)])) (m:=m4 d nm v) rfl rfl ?_
 refine(c6 (m':=[(41,.loc 1),(21,.int (ob d)),(14,.str nm),(81,v),(16,.int i)]) (m3 (j0 (k:=31) rfl (me n pv) (a.num (n+7) _)) (D3 (v:=.int i) (w:=.int i) rfl))).trans ?_
 exact(c6 (C2 (fS (ov:=.loc 1) (c:=0) (k:=6) (u:=()) (vs:=[.int (zp d),.str (nm++u4),.int i]) rfl rfl rfl rfl (yn n hd a.key) (qJ (n:=n+57) hd (CO a.key) hc (a.fit (n+57) _ _ _))))).trans g5
theorem BZ (a:Ls nm v) (pv:Pv v) (n:Nat) {Y:Hp}:(b9 pg (n+70)).run 36 [.loc 1,.int (ob d),.str nm,v] Y=.exc (hY nm) Y:=
 aN (n:=n+69) (fd:=K7) (m:=m4 d nm v) rfl rfl (aL (az (U6 (k:=31) rfl (me n pv) (a.num (n+7) _))))
noncomputable def mI (d:Nat) (nm:Txt) (b:Bool):Fr:=[(41,.loc 1),(21,.int (ob d)),(14,.str nm),(92,.bool b)]
noncomputable def mJ (d:Nat) (nm:Txt) (b:Bool):Fr:=[(41,.loc 1),(21,.int (ob d)),(14,.str nm),(92,.bool b),(32,.int (zp d))]
noncomputable def mD (d:Nat) (nm:Txt):Fr:=[(41,.loc 1),(21,.int (ob d)),(14,.str nm)]
noncomputable def mE (d:Nat) (nm:Txt):Fr:=[(41,.loc 1),(21,.int (ob d)),(14,.str nm),(32,.int (zp d))]
theorem kM (n:Nat) (Y:Hp) (hq:nm∈NM) (hb:B5 nm=false):(b9 pg (n+50)).run 30 [.str nm] Y=.ok (I7 nm) Y:=(og n Y hq).trans (by rw[hb];rfl)
theorem fZ (n:Nat) (Y:Hp) (hq:nm∈NM) (hb:B5 nm=true):(b9 pg (n+50)).run 30 [.str nm] Y=.exc (I5 nm) Y:=(og n Y hq).trans (by rw[hb];rfl)
theorem jl (n:Nat) {b:Bool} (hd:d < 6):a8 pg (b9 pg (n+68)) (mI d nm b) ((G6.body.drop 1).take 1) (H p o g k t)=.ok (.next,mJ d nm b) (H p o g k t):=
 M1 (f:=fun d=>a8 pg (b9 pg (n+68)) (mI d nm b) ((G6.body.drop 1).take 1) (H p o g k t)) (h:=fun d=>.ok (.next,mJ d nm b) (H p o g k t)) (by rfl') hd
theorem rR (n:Nat) (hd:d < 6):a8 pg (b9 pg (n+68)) (mD d nm) ((A4.body.drop 1).take 1) (H p o g k t)=.ok (.next,mE d nm) (H p o g k t):=
 M1 (f:=fun d=>a8 pg (b9 pg (n+68)) (mD d nm) ((A4.body.drop 1).take 1) (H p o g k t)) (h:=fun d=>.ok (.next,mE d nm) (H p o g k t)) (by rfl') hd
theorem kP (n:Nat) {b:Bool} {Y:Hp} (hk:nm∈V7):G7 (b9 pg (n+60)) (mJ d nm b) [(.NT 41),(.NT 32),(.bin .add (.NT 14) (.NT 91))] Y=.ok [.loc 1,.int (zp d),.str (nm++y3)] Y∧G7 (b9 pg (n+60)) (mJ d nm b) [(.NT 32),(.bin .add (.NT 14) (.NT 93))] Y=.ok [.int (zp d),.str (nm++u4)] Y∧
 G7 (b9 pg (n+60)) (mJ d nm b) [(.NT 32),(.bin .add (.NT 14) (.NT 91)),(.lit (V.int 1))] Y=.ok [.int (zp d),.str (nm++y3),.int 1] Y:=
 ⟨Iv (f:=fun nm=>G7 (b9 pg (n+60)) (mJ d nm b) [(.NT 41),(.NT 32),(.bin .add (.NT 14) (.NT 91))] Y) (h:=fun nm=>.ok [.loc 1,.int (zp d),.str (nm++y3)] Y) hk (by rfl'),Iv (f:=fun nm=>G7 (b9 pg (n+60)) (mJ d nm b) [(.NT 32),(.bin .add (.NT 14) (.NT 93))] Y) (h:=fun nm=>.ok [.int (zp d),.str (nm++u4)] Y) hk (by rfl'),
  Iv (f:=fun nm=>G7 (b9 pg (n+60)) (mJ d nm b) [(.NT 32),(.bin .add (.NT 14) (.NT 91)),(.lit (V.int 1))] Y) (h:=fun nm=>.ok [.int (zp d),.str (nm++y3),.int 1] Y) hk (by rfl')⟩
theorem oV (n:Nat) {Y:Hp} (hk:nm∈V7):G7 (b9 pg (n+60)) (mE d nm) [(.NT 41),(.NT 32),(.bin .add (.NT 14) (.NT 91))] Y=.ok [.loc 1,.int (zp d),.str (nm++y3)] Y∧G7 (b9 pg (n+60)) (mE d nm) [(.NT 41),(.NT 32),(.bin .add (.NT 14) (.NT 93))] Y=.ok [.loc 1,.int (zp d),.str (nm++u4)] Y:=
 ⟨Iv (f:=fun nm=>G7 (b9 pg (n+60)) (mE d nm) [(.NT 41),(.NT 32),(.bin .add (.NT 14) (.NT 91))] Y) (h:=fun nm=>.ok [.loc 1,.int (zp d),.str (nm++y3)] Y) hk (by rfl'),Iv (f:=fun nm=>G7 (b9 pg (n+60)) (mE d nm) [(.NT 41),(.NT 32),(.bin .add (.NT 14) (.NT 93))] Y) (h:=fun nm=>.ok [.loc 1,.int (zp d),.str (nm++u4)] Y) hk (by rfl')⟩
theorem dX (hq:nm∈NM) (hb:B5 nm=false) (hd:d < 6) (hc:A5 (p d)) (n:Nat):(b9 pg (n+70)).run 37 [.loc 1,.int (ob d),.str nm] (H p o g k t)=.ok (.bool (c3 (fo (cut (p d) (nm++y3)) (nm++u4)))) (H (put p d (cut (cut (p d) (nm++y3)) (nm++u4))) o g k t):=by
 have hk:=fK hq hb
 refine t8 (n:=n+69) (fd:=A4) (p:=(.ret (.bool (c3 (fo (cut (p d) (nm++y3)) (nm++u4)))),mE d nm)) (m:=mD d nm) rfl rfl ?_
 refine(c6 (C2 (j0 (k:=30) (vs:=[.str nm]) rfl rfl (kM (n+17) _ hq hb)))).trans ?_
 refine(z4 1 (rR n hd)).trans ?_
 refine(c6 (C2 (j0 (k:=33) rfl (oV (n+7) hk).1 (J7 (n+52) hd (CP hk) hc)))).trans ?_
 have f1:=J7 (p:=put p d (cut (p d) (nm++y3))) (o:=o) (g:=g) (k:=k) (t:=t) (n+52) hd (CO hk) (by rw[w4];exact hc.cut)
 rw[dI,w4]at f1
 exact s9 (B1 rfl (j0 (k:=33) rfl (oV (n+7) hk).2 f1) rfl)
theorem zZ (hq:nm∈NM) (hb:B5 nm=true) (n:Nat) {Y:Hp}:(b9 pg (n+70)).run 37 [.loc 1,.int (ob d),.str nm] Y=.exc (I5 nm) Y:=
 aN (n:=n+69) (fd:=A4) (m:=mD d nm) rfl rfl (aL (oO (U6 (k:=30) (vs:=[.str nm]) rfl rfl (fZ (n+17) _ hq hb))))
end
variable {b:Bool} {rs:List (hV×X)}
section
variable {x y:List S} {r:R (Fl×Fr)} {c:hV} {a:X}
theorem bh (ht:(b9 P (n+1)).tr m e Y=.ok true c7) (h:a8 P (b9 P n) m x c7=r):g8 P (b9 P (n+1)) m (.ite e x y) Y=r:=v8 ht h
theorem N4 (ht:(b9 P (n+1)).tr m e Y=.ok false c7) (h:a8 P (b9 P n) m y c7=r):g8 P (b9 P (n+1)) m (.ite e x y) Y=r:=v8 ht h
theorem iC (h:(b9 P n).ev m e Y=.ok v c7) (k:Z0 (b9 P n) m v rs c7=.ok b u3):(b9 P (n+1)).tr m (.cmp e rs) Y=.ok b u3:=v8 h k
end
section
noncomputable def cW (x:O) (nm:Txt):O:=bif c3 (fo x (nm++u4))then A0 x (nm++y3) (.int 1)else x
theorem Cj (n:Nat) (Y:Hp) (d:Int) (key:Txt):a8 pg (b9 pg (n+8)) [(6,.loc 1),(13,.int d),(14,.str key),(16,.int 1)] (o6.body.take 1) Y=.ok (.next,[(6,.loc 1),(13,.int d),(14,.str key),(16,.int 1)]) Y:=by rfl'
theorem Jm {x:Txt} (h:x∈DV V7):x∈DV N5:=(OG h).elim (fun h=>Oa _ (Oa _ h)) fun h=>(OG h).elim (fun h=>Ob _ (Oa _ (by rw[N5,List.map_append];exact Oa _ h))) fun h=>Ob _ (Ob _ (by rw[N5,List.map_append];exact Oa _ h))
theorem W6 {x:O} (hx:A5 x) (key:Txt) {G:Option V->Prop} (h1:G none) (h2:∀j,G (some (.int j))):G (fo x key):=by
 cases e:fo x key with
 |none=>exact h1
 |some v=>induction hx with
  |emp=>exact nomatch e
  |map f h=>exact(h key v e).elim fun j hj=>hj▸h2 j
theorem GR (hq:nm∈NM) (hb:B5 nm=false) (hd:d < 6) (hc:A5 (p d)) (n:Nat):(b9 pg (n+70)).run 35 [.loc 1,.int (ob d),.str nm] (H p o g k t)=.ok .none (H (put p d (cW (cut (p d) nm) nm)) o g k t):=by
 have hk:=fK hq hb
 refine t8 (n:=n+69) (fd:=G6) (p:=(.next,mJ d nm false)) (m:=mI d nm false) rfl rfl ?_
 refine(c6 (C2 (j0 (k:=30) (vs:=[.str nm]) rfl rfl (kM (n+17) _ hq hb)))).trans ?_
 refine(z4 1 (jl n hd)).trans ?_
 refine(c6 (C2 (j0 (k:=33) (vs:=[.loc 1,.int (zp d),.str nm]) rfl rfl (J7 (n+52) hd (CQ hk) hc)))).trans ?_
 have hc':A5 (put p d (cut (p d) nm) d):=by rw[w4];exact hc.cut
 have g1:=zL (o:=o) (g:=g) (k:=k) (t:=t) (n+55) hd (Jm (CO hk)) hc'
 rw[w4]at g1
 have ht:∀b,c3 (fo (cut (p d) nm) (nm++u4))=b->(b9 pg (n+67)).tr (mJ d nm false) (.cmp (.l5 (.NT 41) 1 [(.NT 32),(.bin .add (.NT 14) (.NT 93))]) [(.M5,(.lit V.none))]) (H (put p d (cut (p d) nm)) o g k t)=.ok b (H (put p d (cut (p d) nm)) o g k t):=fun b hb=>by
  refine iC (fS (ov:=.loc 1) (c:=0) (k:=5) (u:=()) rfl rfl rfl rfl (kP (n+5) hk).2.1 g1) ?_
  revert hb
  exact W6 (G:=fun x=>c3 x=b->Z0 (b9 pg (n+66)) (mJ d nm false) (x.getD .none) [(.M5,(.lit V.none))] (H (put p d (cut (p d) nm)) o g k t)=.ok b (H (put p d (cut (p d) nm)) o g k t)) hc.cut (nm++u4) (fun hb=>hb▸rfl) fun j hb=>hb▸rfl
 refine(c6 (m':=mJ d nm false) (c7:=H (put p d (cW (cut (p d) nm) nm)) o g k t) (N4 rfl ((c6 (m':=mJ d nm false) (c7:=H (put p d (cW (cut (p d) nm) nm)) o g k t) ?_).trans g5))).trans g5
 unfold cW
 cases e:c3 (fo (cut (p d) nm) (nm++u4))with
 |false=>exact N4 (ht false e) rfl
 |true=>
  have p1:=qJ (p:=put p d (cut (p d) nm)) (o:=o) (g:=g) (k:=k) (t:=t) (n+55) hd (CP hk) hc' (Cj (n+55) _ _ _)
  rw[dI,w4]at p1
  exact bh (ht true e) ((c6 (C2 (fS (ov:=.loc 1) (c:=0) (k:=6) (u:=()) rfl rfl rfl rfl (kP (n+5) hk).2.2 p1))).trans g5)
theorem CW (hq:nm∈NM) (hb:B5 nm=false) (hd:d < 6) (hc:A5 (p d)) (n:Nat):(b9 pg (n+70)).run 35 [.loc 1,.int (ob d),.str nm,.bool true] (H p o g k t)=.ok .none (H (put p d (cut (cut (p d) nm) (nm++y3))) o g k t):=by
 have hk:=fK hq hb
 refine t8 (n:=n+69) (fd:=G6) (p:=(.next,mJ d nm true)) (m:=mI d nm true) rfl rfl ?_
 refine(c6 (C2 (j0 (k:=30) (vs:=[.str nm]) rfl rfl (kM (n+17) _ hq hb)))).trans ?_
 refine(z4 1 (jl n hd)).trans ?_
 refine(c6 (C2 (j0 (k:=33) (vs:=[.loc 1,.int (zp d),.str nm]) rfl rfl (J7 (n+52) hd (CQ hk) hc)))).trans ?_
 have f1:=J7 (p:=put p d (cut (p d) nm)) (o:=o) (g:=g) (k:=k) (t:=t) (n+51) hd (CP hk) (by rw[w4];exact hc.cut)
 rw[dI,w4]at f1
 exact(c6 (m':=mJ d nm true) (bh rfl ((c6 (C2 (j0 (k:=33) rfl (kP (n+6) hk).1 f1))).trans g5))).trans g5
theorem tJ {b:Bool} {r:List V} (hr:U7 G6 (.loc 1::.int (ob d)::.str nm::r)=some (mI d nm b)) (hq:nm∈NM) (hb:B5 nm=true) (n:Nat) {Y:Hp}:(b9 pg (n+70)).run 35 (.loc 1::.int (ob d)::.str nm::r) Y=.exc (I5 nm) Y:=
 aN (n:=n+69) (fd:=G6) (m:=mI d nm b) rfl hr (aL (oO (U6 (k:=30) (vs:=[.str nm]) rfl rfl (fZ (n+17) _ hq hb))))
end
inductive Cl:O->Prop
 |emp:Cl .emp
 |map (f:Txt->Option V):Cl (.map f)
noncomputable def ae (x:O) (k:Txt):O:=match x with
 |.map f=>.map (t9 f k none)
 |x=>x
theorem Cl.A0 {x:O} {k:Txt} {v:V}:Cl (A0 x k v):=.map _
theorem Cl.ae {x:O} (h:Cl x) {k:Txt}:Cl (ae x k):=by
 induction h with
 |emp=>exact .emp
 |map f=>exact .map _
theorem tX {x:O} {k:Txt} {v:V}:fo (A0 x k v)=t9 (fo x) k (some v):=rfl
theorem mB {f:Txt->Option V} {k:Txt} (h:f k=none):t9 f k none=f:=h▸E5
theorem kU {x:O} (h:Cl x) {k:Txt}:fo (ae x k)=t9 (fo x) k none:=by
 induction h with
 |emp=>exact(mB rfl).symm
 |map f=>rfl
theorem Q5 {x:O} {k:Txt}:fo (cut x k)=t9 (fo x) k none:=by
 unfold cut
 cases e:fo x k with
 |none=>exact(mB e).symm
 |some v=>rfl
def Nl (x:Nat) (t:List O) (d:Nat) (ns:List Txt):Prop:=(x=26+3 * d∧ns=[])∨∃j,x=j+42∧t[j]? =some (.list (ns.map .str))
structure Wd (p o g:Nat->O) (k:Nat->Nat) (t:List O) (N:Nat->List Txt):Prop where
 p:∀d,d < 6->A5 (p d)
 o:∀d,d < 6->Cl (o d)
 g:∀d,d < 6->Cl (g d)
 n:∀d,d < 6->Nl (k d) t d (N d)
variable {N:Nat->List Txt}
section
variable {x y:O} {ns:List Txt}
theorem dJ {α:Type} {f:Nat->α} {Q:Nat->α->Prop} (h:∀e,e < 6->Q e (f e)) {z:α} (hz:Q d z):∀e,e < 6->Q e (put f d z e):=fun e he=>(Nat.decEq e d).byCases (fun q=>by rw[q,w4];exact hz) fun q=>by rw[K3 q];exact h e he
theorem Wd.yh (w:Wd p o g k t N) (h:A5 x):Wd (put p d x) o g k t N:=⟨dJ (Q:=fun J=>A5) w.p h,w.o,w.g,w.n⟩
theorem Wd.FF (w:Wd p o g k t N) (h:Cl x):Wd p (put o d x) g k t N:=⟨w.p,dJ (Q:=fun J=>Cl) w.o h,w.g,w.n⟩
theorem Wd.IM (w:Wd p o g k t N) (h:Cl x):Wd p o (put g d x) k t N:=⟨w.p,w.o,dJ (Q:=fun J=>Cl) w.g h,w.n⟩
theorem Wd.yi (w:Wd p o g k t N):Wd p o g (put k d (t.length+42)) (t++[.list (ns.map .str)]) (put N d ns):=⟨w.p,w.o,w.g,fun e he=>(Nat.decEq e d).byCases (fun q=>by
 rw[q,w4,w4]
 exact .inr ⟨t.length,rfl,List.getElem?_concat_length⟩) fun q=>by
 rw[K3 q,K3 q]
 exact(w.n e he).imp id fun⟨j,e1,e2⟩=>⟨j,e1,(Oz (List.getElem?_eq_some_iff.mp e2).1).trans e2⟩⟩
theorem Kw (w:Wd p o g k t N) (hd:d < 6):(H p o g k t)[k d]? =some (.list ((N d).map .str)):=(w.n d hd).elim (fun⟨e,e'⟩=>by
 rw[e,e']
 exact M1 (f:=fun d=>(H p o g k t)[26+3 * d]?) (h:=fun d=>some (.list [])) (by rfl') hd) fun⟨j,e,e'⟩=>by rw[e];exact e'
noncomputable def qC (d:Nat) (x:Nat):O:=fQ (Bb d) ([-1,0,1,2,1,0].getD d 0) (ob d) (ol d) (gq d) x
theorem IP {x:Nat} (hd:d < 6):(H p o g k t).set (rl d) (qC d x)=H p o g (put k d x) t:=M1 (f:=fun d=>(H p o g k t).set (rl d) (qC d x)) (h:=fun d=>H p o g (put k d x) t) (by rfl') hd
theorem Mu (hd:d < 6):(H p o g k t)[rl d]? =some (qC d (k d)):=M1 (f:=fun d=>(H p o g k t)[rl d]?) (h:=fun d=>some (qC d (k d))) (by rfl') hd
theorem FH {x:Nat} (hd:d < 6):S7 pg (.loc (rl d)) (.str [110,111]) (.loc x) (H p o g k t)=.ok () (H p o g (put k d x) t):=by
 have e:S7 pg (.loc (rl d)) (.str [110,111]) (.loc x) (H p o g k t)=.ok () ((H p o g k t).set (rl d) (.map (t9 (fo (qC d (k d))) Mc (some (.loc x))))):=by
  show(b8 55 ((H p o g k t)[rl d]?) (H p o g k t)).bind _=_
  rw[Mu hd];rfl
 rw[e,show O.map (t9 (fo (qC d (k d))) Mc (some (.loc x)))=qC d x from Oh O.map Bs,IP hd]
end
noncomputable def t7 (w:Int) (nm:Txt):Txt->Bool:=fun a=>!r5 a nm || decide (w=4)
noncomputable def Le:X:=.mw [(.cmp (.NT 118) [(.ne,(.NT 14))]),(.cmp (.NT 120) [(.eq,(.lit (V.int 4)))])]
variable {l:Nat}
section
variable {a:Txt} {cond:X}
theorem Ai (hc:r.tr (putN m 118 (.str a)) cond Y=.ok b Y) (he:r.ev (putN m 118 (.str a)) (.NT 118) Y=.ok (.str a) Y):jI r m (.NT 118) [118] (some cond) (.str a) Y=.ok (bif b then[.str a]else[]) Y:=by
 refine v8 (a:=putN m 118 (.str a)) (c7:=Y) rfl ?_
 show((r.tr (putN m 118 (.str a)) cond Y).z6).bind _=_
 rw[hc]
 induction b with
 |false=>rfl
 |true=>
  show((r.ev (putN m 118 (.str a)) (.NT 118) Y).z6).bind _=_
  rw[he];rfl
theorem rT {ns:List Txt} {c:Txt->Bool} (hl:Y[l]? =some (.list (ns.map .str))) (hc:∀a,r.tr (putN m 118 (.str a)) cond Y=.ok (c a) Y) (he:∀a,r.ev (putN m 118 (.str a)) (.NT 118) Y=.ok (.str a) Y) {fu:Nat}:
 ∀{j:Nat},j≤ns.length->ns.length < j+fu->jJ r m (.NT 118) [118] (some cond) l fu j Y=.ok (((ns.drop j).filter c).map .str) Y:=by
 have la:listAt Y l=some (ns.map .str):=by unfold listAt;rw[hl];rfl
 induction fu with
 |zero=>exact fun h1 h2=>absurd h2 (Nat.not_lt.mpr h1)
 |succ fu ih=>
  intro j h1 h2
  show(b8 78 (listAt Y l) Y).bind _=_
  rw[la]
  show nM (ns.map V.str)[j]? _ _=_
  rw[OA]
  cases e:ns[j]? with
  |none=>rw[List.drop_of_length_le (List.getElem?_eq_none_iff.mp e)];rfl
  |some a=>
   have hj:=(List.getElem?_eq_some_iff.mp e).1
   rw[List.drop_eq_getElem_cons hj,(List.getElem?_eq_some_iff.mp e).2,List.filter_cons]
   refine v8 (Ai (hc a) (he a)) (v8 (ih hj (by rw[Nat.succ_add];exact h2)) ?_)
   induction c a<;>rfl
theorem fq {m:Fr}:m.all (fun q=>quiet q.2)=true->C6 m=m:=by
 induction m with
 |nil=>exact fun J=>rfl
 |cons p r ih=>
  intro h
  refine a7 h fun h1 h2=>?_
  show(bif quiet p.2 then(p.1,p.2)::C6 r else _)=_
  rw[show quiet p.2=true from h1,ih h2];rfl
end
noncomputable def L4 (w:Int) (d:Nat) (nm:Txt) (v:V) (due:Txt) (y:V):Fr:=[(41,.loc 1),(15,.loc 8),(120,.int w),(21,.int (Int.ofNat d)),(14,.str nm),(81,v),(34,.loc (rl d)),(28,.int (ob d)),(121,.str due),(123,y)]
noncomputable def sN:S->List S
 |.ite _ a _=>a
 |_=>[]
noncomputable def NA:List S:=sN (f9.body.getD 5 .pass)
variable {w:Int}
section
variable {y:V}
theorem Cs (n:Nat) (a:Txt) {Y:Hp} (hw:w∈[(0:Int),1,2,3,4,5]):(b9 pg (n+10)).tr (putN (L4 w d nm v [] y) 118 (.str a)) Le Y=.ok (t7 w nm a) Y:=by
 have h1:(b9 pg (n+9)).tr (putN (L4 w d nm v [] y) 118 (.str a)) (.cmp (.NT 118) [(.ne,(.NT 14))]) Y=.ok (!r5 a nm) Y:=by rfl'
 have h2:(b9 pg (n+9)).tr (putN (L4 w d nm v [] y) 118 (.str a)) (.cmp (.NT 120) [(.eq,(.lit (V.int 4)))]) Y=.ok (decide (w=4)) Y:=e8 (a:=w) (f:=fun w=>(b9 pg (n+9)).tr (putN (L4 w d nm v [] y) 118 (.str a)) (.cmp (.NT 120) [(.eq,(.lit (V.int 4)))]) Y) (h:=fun w=>.ok (decide (w=4)) Y) (by rfl') hw
 have e0:(b9 pg (n+10)).tr (putN (L4 w d nm v [] y) 118 (.str a)) Le Y=((b9 pg (n+9)).tr (putN (L4 w d nm v [] y) 118 (.str a)) (.cmp (.NT 118) [(.ne,(.NT 14))]) Y).bind fun t Y=>bif t == false then(((b9 pg (n+9)).tr (putN (L4 w d nm v [] y) 118 (.str a)) (.cmp (.NT 120) [(.eq,(.lit (V.int 4)))]) Y).bind fun t Y=>bif t == false then .ok false Y else .ok t Y)else .ok t Y:=by rfl'
 rw[e0,h1]
 unfold t7
 induction r5 a nm with
 |false=>rfl
 |true=>
  show(((b9 pg (n+9)).tr (putN (L4 w d nm v [] y) 118 (.str a)) (.cmp (.NT 120) [(.eq,(.lit (V.int 4)))]) Y).bind fun t Y=>bif t == false then R.ok false Y else R.ok t Y)=_
  rw[h2]
  induction decide (w=4)<;>rfl
theorem Gk (n:Nat) (hv:quiet v=true) (hy:quiet y=true) (hw:w∈[(0:Int),1,2,3,4,5]) (ww:Wd p o g k t N) (hd:d < 6) (hl:(N d).length≤60):
 pa (b9 pg (n+10)) (L4 w d nm v [] y) (.NT 118) [118] (some Le) .val [.loc (k d)] (H p o g k t)=.ok (((N d).filter (t7 w nm)).map .str) (H p o g k t):=by
 have ec:C6 (L4 w d nm v [] y)=L4 w d nm v [] y:=fq (show(quiet v&&(quiet y&&true))=true by rw[hv,hy];rfl)
 show jJ (b9 pg (n+10)) (C6 (L4 w d nm v [] y)) (.NT 118) [118] (some Le) (k d) 64 0 (H p o g k t)=_
 rw[ec]
 exact rT (Kw ww hd) (fun a=>Cs n a hw) (fun a=>by rfl') (Nat.zero_le _) (by rw[Nat.zero_add];exact Ot hl (by decide))
end
section
variable {x y:X} {z:R V} {t:Txt}
theorem JB (ht:(b9 P n).tr m e Y=.ok true c7) (h:(b9 P n).ev m x c7=z):(b9 P (n+1)).ev m (.ite e x y) Y=z:=v8 ht h
theorem JM (hc:C6 m=m) (h:(b9 P n).ev m e Y=.ok v c7) (hf:freeze v=some v):(b9 P (n+1)).ev m (.A2 e) Y=.ok (.tup [.str [],v]) c7:=by
 show cz ((b9 P n).ev (C6 m) e Y)=_
 rw[hc,h]
 show(b8 102 (freeze v) c7).bind _=_
 rw[hf];rfl
theorem zK (hc:C6 m=m) (h:(b9 P n).ev m e Y=.exc t c7):(b9 P (n+1)).ev m (.A2 e) Y=.ok (.tup [.str t,.none]) c7:=by
 show cz ((b9 P n).ev (C6 m) e Y)=_
 rw[hc,h];rfl
end
noncomputable def L0 (w:Int) (d:Nat) (nm:Txt) (v:V):Fr:=[(41,.loc 1),(15,.loc 8),(120,.int w),(21,.int (Int.ofNat d)),(14,.str nm),(81,v)]
noncomputable def L1 (w:Int) (d:Nat) (nm:Txt) (v:V):Fr:=[(41,.loc 1),(15,.loc 8),(120,.int w),(21,.int (Int.ofNat d)),(14,.str nm),(81,v),(34,.loc (rl d)),(28,.int (ob d))]
noncomputable def L3 (w:Int) (d:Nat) (nm:Txt) (v:V) (due:Txt):Fr:=[(41,.loc 1),(15,.loc 8),(120,.int w),(21,.int (Int.ofNat d)),(14,.str nm),(81,v),(34,.loc (rl d)),(28,.int (ob d)),(121,.str due)]
noncomputable abbrev WS:List Int:=[0,1,4]
noncomputable abbrev WO:List Int:=[2,3,5]
noncomputable def iA (nm:Txt):Txt:=bif B5 nm then I5 nm else[]
section
variable {due:Txt} {y:V} (n:Nat)
theorem LH (hd:d < 6):a8 pg (b9 pg (n+73)) (L0 w d nm v) (f9.body.take 1) (H p o g k t)=.ok (.next,L1 w d nm v) (H p o g k t):=M1 (f:=fun d=>a8 pg (b9 pg (n+73)) (L0 w d nm v) (f9.body.take 1) (H p o g k t)) (h:=fun d=>.ok (.next,L1 w d nm v) (H p o g k t)) (by rfl') hd
theorem FJ {Y:Hp} (hw:w∈WS) (pv:Pv v) (hr:∀n Y,(b9 pg (n+60)).run 50 [.str nm,v] Y=.ok (.str due) Y):a8 pg (b9 pg (n+73)) (L1 w d nm v) ((f9.body.drop 1).take 2) Y=.ok (.next,L3 w d nm v due) Y:=by
 have ht:(b9 pg (n+70)).tr (L1 w d nm v) (.cmp (.NT 120) [(.ik,(.tuple [(.lit (V.int 0)),(.lit (V.int 1)),(.lit (V.int 4))]))]) Y=.ok true Y:=e8 (β:=R Bool) (a:=w) (f:=fun w=>(b9 pg (n+70)).tr (L1 w d nm v) (.cmp (.NT 120) [(.ik,(.tuple [(.lit (V.int 0)),(.lit (V.int 1)),(.lit (V.int 4))]))]) Y) (h:=fun w=>.ok true Y) (by rfl') hw
 have he:G7 (b9 pg (n+71+1)) (L1 w d nm v) [(.NT 14),(.ite (.cmp (.NT 120) [(.ik,(.tuple [(.lit (V.int 0)),(.lit (V.int 1)),(.lit (V.int 4))]))]) (.NT 81) (.lit (V.int 1)))] Y=.ok [.str nm,v] Y:=by
  have ht:(b9 pg (n+71)).tr (L1 w d nm v) (.cmp (.NT 120) [(.ik,(.tuple [(.lit (V.int 0)),(.lit (V.int 1)),(.lit (V.int 4))]))]) Y=.ok true Y:=e8 (β:=R Bool) (a:=w) (f:=fun w=>(b9 pg (n+71)).tr (L1 w d nm v) (.cmp (.NT 120) [(.ik,(.tuple [(.lit (V.int 0)),(.lit (V.int 1)),(.lit (V.int 4))]))]) Y) (h:=fun w=>.ok true Y) (by rfl') hw
  exact i5 (I2 (v:=.str nm) (w:=.str nm) rfl rfl) rfl (i5 (JB ht (I2 (n:=n+70) (v:=v) (w:=v) rfl pv.rd)) pv.fz rfl)
 refine(c6 (m':=L3 w d nm v due) (m3 (j0 (n:=n+72) (k:=50) rfl he (hr (n+12) _)) (D3 (v:=.str due) (w:=.str due) rfl))).trans ?_
 exact e8 (β:=R (Fl×Fr)) (a:=w) (f:=fun w=>a8 pg (b9 pg (n+73)) (L3 w d nm v due) ((f9.body.drop 2).take 1) Y) (h:=fun w=>.ok (.next,L3 w d nm v due) Y) (by rfl') hw
theorem BS {Y:Hp} (hw:w∈WO) (hn:nm∈NM):a8 pg (b9 pg (n+73)) (L1 w d nm v) ((f9.body.drop 1).take 2) Y=.ok (.next,L3 w d nm v (iA nm)) Y:=
 Y3 (γ:=R (Fl×Fr)) (a:=w) (b:=nm) (f:=fun w nm=>a8 pg (b9 pg (n+73)) (L1 w d nm v) ((f9.body.drop 1).take 2) Y) (h:=fun w nm=>.ok (.next,L3 w d nm v (iA nm)) Y) (by rfl') hw hn
theorem Kq (pv:Pv v):C6 (L3 w d nm v due)=L3 w d nm v due:=fq (show(quiet v&&true)=true by rw[pv.qt];rfl)
inductive Hr:R V->V->Hp->Prop
 |ok (z:V) (Y:Hp) (hf:freeze z=some z):Hr (.ok z Y) (.tup [.str [],z]) Y
 |exc (t:Txt) (Y:Hp):Hr (.exc t Y) (.tup [.str t,.none]) Y
theorem Hr.ND {r:R V} {y:V} {Y:Hp} (h:Hr r y Y):freeze y=some y:=by induction h<;>rfl
theorem vK {n:Nat} {m:Fr} {Y c7:Hp} {e:X} {es:List X} {vs:List V} {f:Nat} {r:R V} {y:V} (hc:C6 m=m) (hf:(b9 pg n).ev m e Y=.ok (.fn f) Y) (he:G7 (b9 pg n) m es Y=.ok vs Y) (hr:(b9 pg n).run f vs Y=r) (h:Hr r y c7):
 a8 pg (b9 pg (n+2)) m [.assign (.NT 123) (.A2 (.call e es))] Y=.ok (.next,putN m 123 y) c7:=by
 refine(c6 (m':=putN m 123 y) (c7:=c7) (m3 (v:=y) (c7:=c7) ?_ (D3 h.ND))).trans g5
 induction h with
 |ok z Y hz=>exact JM hc (j0 hf he hr) hz
 |exc t Y=>exact zK hc (U6 hf he hr)
inductive iI (n:Nat) (Y:Hp) (d:Nat) (nm:Txt) (v:V) (r:R V):Int->Prop
 |s0 (h:(b9 pg (n+70)).run 34 [.loc 1,.int (ob d),.str nm,v] Y=r):iI n Y d nm v r 0
 |s1 (h:(b9 pg (n+70)).run 34 [.loc 1,.int (ob d),.str nm,v] Y=r):iI n Y d nm v r 1
 |s2 (h:(b9 pg (n+69)).run 35 [.loc 1,.int (ob d),.str nm] Y=r):iI n Y d nm v r 2
 |s3 (h:(b9 pg (n+68)).run 35 [.loc 1,.int (ob d),.str nm,.bool true] Y=r):iI n Y d nm v r 3
 |s4 (h:(b9 pg (n+67)).run 36 [.loc 1,.int (ob d),.str nm,v] Y=r):iI n Y d nm v r 4
 |s5 (h:(b9 pg (n+67)).run 37 [.loc 1,.int (ob d),.str nm] Y=r):iI n Y d nm v r 5
theorem AR {Y:Hp} {w:Int} {n:Nat} (pv:Pv v):G7 (b9 pg (n+1)) (L3 w d nm v due) [(.NT 41),(.NT 28),(.NT 14),(.NT 81)] Y=.ok [.loc 1,.int (ob d),.str nm,v] Y:=
 i5 (I2 (v:=.loc 1) (w:=.loc 1) rfl rfl) rfl (i5 (I2 (v:=.int (ob d)) (w:=.int (ob d)) rfl rfl) rfl (i5 (I2 (v:=.str nm) (w:=.str nm) rfl rfl) rfl (i5 (I2 (v:=v) (w:=v) rfl pv.rd) pv.fz rfl)))
theorem qA {Y c7:Hp} {r:R V} (pv:Pv v) (hd:iI n Y d nm v r w) (h:Hr r y c7):a8 pg (b9 pg (n+73)) (L3 w d nm v due) ((f9.body.drop 3).take 1) Y=.ok (.next,L4 w d nm v due y) c7:=by
 have hc:=Kq (d:=d) (nm:=nm) (due:=due) (w:=w) pv
 induction hd with
 |s0 hr=>exact(c6 (bh (n:=n+72) rfl (vK hc rfl (AR (n:=n+69) pv) hr h))).trans g5
 |s1 hr=>exact(c6 (bh (n:=n+72) rfl (vK hc rfl (AR (n:=n+69) pv) hr h))).trans g5
 |s2 hr=>exact(c6 (N4 (n:=n+72) rfl ((c6 (bh (n:=n+71) rfl (vK (n:=n+69) hc rfl rfl hr h))).trans g5))).trans g5
 |s3 hr=>exact(c6 (N4 (n:=n+72) rfl ((c6 (N4 (n:=n+71) rfl ((c6 (bh (n:=n+70) rfl (vK (n:=n+68) hc rfl rfl hr h))).trans g5))).trans g5))).trans g5
 |s4 hr=>exact(c6 (N4 (n:=n+72) rfl ((c6 (N4 (n:=n+71) rfl ((c6 (N4 (n:=n+70) rfl ((c6 (bh (n:=n+69) rfl (vK (n:=n+67) hc rfl (AR (n:=n+66) pv) hr h))).trans g5))).trans g5))).trans g5))).trans g5
 |s5 hr=>exact(c6 (N4 (n:=n+72) rfl ((c6 (N4 (n:=n+71) rfl ((c6 (N4 (n:=n+70) rfl ((c6 (N4 (n:=n+69) rfl (vK (n:=n+67) hc rfl rfl hr h))).trans g5))).trans g5))).trans g5))).trans g5
noncomputable abbrev yN:V:=.tup [.str [],.none]
theorem BR {Y:Hp} (hw:w∈[(0:Int),1,2,3,4]):a8 pg (b9 pg (n+73)) (L4 w d nm v [] yN) ((f9.body.drop 4).take 1) Y=.ok (.next,L4 w d nm v [] yN) Y:=
 e8 (β:=R (Fl×Fr)) (a:=w) (f:=fun w=>a8 pg (b9 pg (n+73)) (L4 w d nm v [] yN) ((f9.body.drop 4).take 1) Y) (h:=fun w=>.ok (.next,L4 w d nm v [] yN) Y) (by rfl') hw
theorem Eg {Y:Hp} (hw:w∈[(0:Int),1,2,3,4,5]) (hn:nm∈NM):a8 pg (b9 pg (n+73)) (L4 w d nm v (hY nm) (.tup [.str (hY nm),.none])) (f9.body.drop 4) Y=.ok (.ret (.bool true),L4 w d nm v (hY nm) (.tup [.str (hY nm),.none])) Y:=
 Y3 (γ:=R (Fl×Fr)) (a:=w) (b:=nm) (f:=fun w nm=>a8 pg (b9 pg (n+73)) (L4 w d nm v (hY nm) (.tup [.str (hY nm),.none])) (f9.body.drop 4) Y) (h:=fun w nm=>.ok (.ret (.bool true),L4 w d nm v (hY nm) (.tup [.str (hY nm),.none])) Y) (by rfl') hw hn
theorem IS (hd:d < 6) (hn:nm∈V7) {b:Bool} (hc:Cl (g d)) (hb:c3 (fo (g d) nm)=b):a8 pg (b9 pg (n+73)) (L4 5 d nm v [] (.tup [.str [],.bool b])) ((f9.body.drop 4).take 1) (H p o g k t)=.ok (.next,L4 5 d nm v [] (.tup [.str [],.bool b])) (H p o g k t):=by
 have hd':=OH hd
 have go:∀x,Cl x->c3 (fo x nm)=b->a8 pg (b9 pg (n+73)) (L4 5 d nm v [] (.tup [.str [],.bool b])) ((f9.body.drop 4).take 1) (H p o (put g d x) k t)=.ok (.next,L4 5 d nm v [] (.tup [.str [],.bool b])) (H p o (put g d x) k t):=fun x hx hb=>by
  subst hb
  induction hx with
  |emp=>exact Y3 (γ:=R (Fl×Fr)) (a:=d) (b:=nm) (f:=fun d nm=>a8 pg (b9 pg (n+73)) (L4 5 d nm v [] (.tup [.str [],.bool (c3 (fo .emp nm))])) ((f9.body.drop 4).take 1) (H p o (put g d .emp) k t)) (h:=fun d nm=>.ok (.next,L4 5 d nm v [] (.tup [.str [],.bool (c3 (fo .emp nm))])) (H p o (put g d .emp) k t)) (by rfl') hd' hn
  |map f=>
   have e:t9 f nm (f nm)=f:=E5
   rw[←e]
   induction f nm with
   |none=>exact Y3 (γ:=R (Fl×Fr)) (a:=d) (b:=nm) (f:=fun d nm=>a8 pg (b9 pg (n+73)) (L4 5 d nm v [] (.tup [.str [],.bool (c3 (fo (.map (t9 f nm none)) nm))])) ((f9.body.drop 4).take 1) (H p o (put g d (.map (t9 f nm none))) k t)) (h:=fun d nm=>.ok (.next,L4 5 d nm v [] (.tup [.str [],.bool (c3 (fo (.map (t9 f nm none)) nm))])) (H p o (put g d (.map (t9 f nm none))) k t)) (by rfl') hd' hn
   |some u=>exact Y3 (γ:=R (Fl×Fr)) (a:=d) (b:=nm) (f:=fun d nm=>a8 pg (b9 pg (n+73)) (L4 5 d nm v [] (.tup [.str [],.bool (c3 (fo (.map (t9 f nm (some u))) nm))])) ((f9.body.drop 4).take 1) (H p o (put g d (.map (t9 f nm (some u)))) k t)) (h:=fun d nm=>.ok (.next,L4 5 d nm v [] (.tup [.str [],.bool (c3 (fo (.map (t9 f nm (some u))) nm))])) (H p o (put g d (.map (t9 f nm (some u)))) k t)) (by rfl') hd' hn
 have q:=go (g d) hc hb
 rw[o9]at q
 exact q
end
variable {iv:V} {xs:List V}
section
variable {o i:X} {w:V} {a:Txt}
theorem CT (hf:freeze v=some w) (ho:r.ev m o Y=.ok ov Y) (hi:r.ev m i Y=.ok iv Y) (hs:S7 P ov iv w Y=.ok () c7):store P r (.item o i) v m Y=.ok m c7:=by
 show(b8 125 (freeze v) Y).bind _=_
 rw[hf]
 exact v8 (a:=w) (c7:=Y) rfl (v8 ho (v8 hi (v8 hs rfl)))
theorem My (ho:(b9 P n).ev m o Y=.ok (.loc l) Y) (hl:Y[l]? =some (.list xs)) (ha:m7 (b9 P n) m es Y=.ok [.str a] Y) (hz:xs.length≤1000):(b9 P (n+1)).ev m (.l5 o 0 es) Y=.ok .none (Y.set l (.list (xs++[.str a]))):=by
 refine v8 ho ?_
 have h1:gO (.loc l) Y=none:=by
  show((Y[l]?).bind fun ob=>(sZ ob).map (·.1))=none
  rw[hl];rfl
 have h2:DF (.loc l) 0 Y=some ():=by
  show(((Y[l]?).bind (Kn 0)).or _)=_
  rw[hl];rfl
 show nM (gO (.loc l) Y) _ _=_
 rw[h1]
 show(b8 91 (DF (.loc l) 0 Y) Y).bind _=_
 rw[h2]
 refine v8 (a:=()) (c7:=Y) rfl (v8 ha ?_)
 show cV ((b8 30 (Y[l]?) Y).bind _) _=_
 rw[hl]
 show cV (cV (bif Nat.beq 0 aY&&Nat.ble xs.length 1000 then tE l xs [.str a] Y else .no 21) _) _=_
 rw[Oq hz];rfl
end
noncomputable def cs (j:Nat):S:=NA.getD j .pass
section
variable {y:V} (n:Nat)
theorem MT:(H p o g k t).length=t.length+42:=rfl
theorem pq (hv:quiet v=true) (hy:quiet y=true) (hw:w∈[(0:Int),1,2,3,4,5]) (ww:Wd p o g k t N) (hd:d < 6) (hl:(N d).length≤60):
 g8 pg (b9 pg (n+12)) (L4 w d nm v [] y) (cs 0) (H p o g k t)=.ok (.next,L4 w d nm v [] y) (H p o g (put k d (t.length+42)) (t++[.list (((N d).filter (t7 w nm)).map .str)])):=by
 refine m3 (v:=.loc (t.length+42)) (c7:=H p o g k (t++[.list (((N d).filter (t7 w nm)).map .str)])) ?_ (CT (o:=.NT 34) (i:=.lit (V.str [110,111])) (ov:=.loc (rl d)) (iv:=.str [110,111]) (w:=.loc (t.length+42)) rfl rfl rfl (FH hd))
 have e1:m7 (b9 pg (n+11)) (L4 w d nm v [] y) [.sub (.NT 34) (.lit (V.str [110,111]))] (H p o g k t)=.ok [.loc (k d)] (H p o g k t):=M1 (β:=R (List V)) (f:=fun d=>m7 (b9 pg (n+11)) (L4 w d nm v [] y) [.sub (.NT 34) (.lit (V.str [110,111]))] (H p o g k t)) (h:=fun d=>.ok [.loc (k d)] (H p o g k t)) (by rfl') hd
 show((m7 (b9 pg (n+11)) (L4 w d nm v [] y) [.sub (.NT 34) (.lit (V.str [110,111]))] (H p o g k t)).z6).bind _=_
 rw[e1]
 exact v8 (a:=[V.loc (k d)]) (c7:=H p o g k t) rfl (v8 (Gk (nm:=nm) (n+1) hv hy hw ww hd hl) rfl)
theorem bC {α:Type} {F NS:Nat->Txt->O->α} (h1:(B7 D6 V7).map (fun q=>F q.1 q.2 .emp)=(B7 D6 V7).foldr (fun q r=>NS q.1 q.2 .emp::r) []) (h2:∀f,(B7 D6 V7).map (fun q=>F q.1 q.2 (.map f))=(B7 D6 V7).foldr (fun q r=>NS q.1 q.2 (.map f)::r) []) (hd:d < 6) (hn:nm∈V7) {x:O} (hx:Cl x):F d nm x=NS d nm x:=by
 induction hx with
 |emp=>exact Y3 (f:=fun d nm=>F d nm .emp) (h:=fun d nm=>NS d nm .emp) h1 (OH hd) hn
 |map f=>exact Y3 (f:=fun d nm=>F d nm (.map f)) (h:=fun d nm=>NS d nm (.map f)) (h2 f) (OH hd) hn
theorem aj {G:V->Prop} (h:isQ v=true) (h1:∀i,G (.int i)) (h2:∀s,G (.str s)):G v:=by
 cases v with
 |int i=>exact h1 i
 |str s=>exact h2 s
 |_=>exact Bool.noConfusion h
noncomputable abbrev bU (n:Nat) (w:Int) (d:Nat) (nm:Txt) (v y:V) (j:Nat) (Y:Hp):R (Fl×Fr):=g8 pg (b9 pg (n+12)) (L4 w d nm v [] y) (cs j) Y
noncomputable abbrev cj (w:Int) (d:Nat) (nm:Txt) (v y:V) (Y:Hp):R (Fl×Fr):=.ok (.next,L4 w d nm v [] y) Y
theorem HL (hw:w∈[(0:Int),1]) (hq:isQ v=true) (hd:d < 6) (hn:nm∈V7) (hc:Cl (o d)):bU n w d nm v y 1 (H p o g k t)=cj w d nm v y (H p (put o d (A0 (o d) nm v)) g k t):=by
 have go:∀x,Cl x->bU n w d nm v y 1 (H p (put o d x) g k t)=cj w d nm v y (H p (put o d (A0 x nm v)) g k t):=fun x hx=>aj (G:=fun v=>bU n w d nm v y 1 (H p (put o d x) g k t)=cj w d nm v y (H p (put o d (A0 x nm v)) g k t)) hq
  (fun i=>(Of hw).elim (fun e=>e▸bC (F:=fun d nm x=>bU n 0 d nm (.int i) y 1 (H p (put o d x) g k t)) (NS:=fun d nm x=>cj 0 d nm (.int i) y (H p (put o d (A0 x nm (.int i))) g k t)) (by rfl') (fun f=>by rfl') hd hn hx)
   fun e=>Og e▸bC (F:=fun d nm x=>bU n 1 d nm (.int i) y 1 (H p (put o d x) g k t)) (NS:=fun d nm x=>cj 1 d nm (.int i) y (H p (put o d (A0 x nm (.int i))) g k t)) (by rfl') (fun f=>by rfl') hd hn hx)
  (fun i=>(Of hw).elim (fun e=>e▸bC (F:=fun d nm x=>bU n 0 d nm (.str i) y 1 (H p (put o d x) g k t)) (NS:=fun d nm x=>cj 0 d nm (.str i) y (H p (put o d (A0 x nm (.str i))) g k t)) (by rfl') (fun f=>by rfl') hd hn hx)
   fun e=>Og e▸bC (F:=fun d nm x=>bU n 1 d nm (.str i) y 1 (H p (put o d x) g k t)) (NS:=fun d nm x=>cj 1 d nm (.str i) y (H p (put o d (A0 x nm (.str i))) g k t)) (by rfl') (fun f=>by rfl') hd hn hx)
 have q:=go (o d) hc
 rw[o9]at q
 exact q
theorem Av (hw:w∈[(2:Int),3]) (hd:d < 6) (hn:nm∈V7) (hc:Cl (o d)):bU n w d nm v y 1 (H p o g k t)=cj w d nm v y (H p (put o d (ae (o d) nm)) g k t):=by
 have go:∀x,Cl x->bU n w d nm v y 1 (H p (put o d x) g k t)=cj w d nm v y (H p (put o d (ae x nm)) g k t):=fun x hx=>
  (Of hw).elim (fun e=>e▸bC (F:=fun d nm x=>bU n 2 d nm v y 1 (H p (put o d x) g k t)) (NS:=fun d nm x=>cj 2 d nm v y (H p (put o d (ae x nm)) g k t)) (by rfl') (fun f=>by rfl') hd hn hx)
   fun e=>Og e▸bC (F:=fun d nm x=>bU n 3 d nm v y 1 (H p (put o d x) g k t)) (NS:=fun d nm x=>cj 3 d nm v y (H p (put o d (ae x nm)) g k t)) (by rfl') (fun f=>by rfl') hd hn hx
 have q:=go (o d) hc
 rw[o9]at q
 exact q
theorem Aw {Y:Hp} (hw:w∈[(4:Int),5]):bU n w d nm v y 1 Y=cj w d nm v y Y:=e8 (f:=fun w=>bU n w d nm v y 1 Y) (h:=fun w=>cj w d nm v y Y) (by rfl') hw
theorem lE {Y:Hp} (hw:w∈[(0:Int),1,3,4,5]):bU n w d nm v y 2 Y=cj w d nm v y Y:=e8 (f:=fun w=>bU n w d nm v y 2 Y) (h:=fun w=>cj w d nm v y Y) (by rfl') hw
theorem lA {Y:Hp} (hw:w∈[(0:Int),1,2,3,5]):bU n w d nm v y 3 Y=cj w d nm v y Y:=e8 (f:=fun w=>bU n w d nm v y 3 Y) (h:=fun w=>cj w d nm v y Y) (by rfl') hw
theorem lz {Y:Hp} (hw:w∈[(0:Int),1,2,3,4]):bU n w d nm v y 4 Y=cj w d nm v y Y:=e8 (f:=fun w=>bU n w d nm v y 4 Y) (h:=fun w=>cj w d nm v y Y) (by rfl') hw
theorem HJ (hq:isQ v=true) (hd:d < 6) (hn:nm∈V7) (hc:Cl (g d)):bU n 4 d nm v y 3 (H p o g k t)=cj 4 d nm v y (H p o (put g d (A0 (g d) nm v)) k t):=by
 have go:∀x,Cl x->bU n 4 d nm v y 3 (H p o (put g d x) k t)=cj 4 d nm v y (H p o (put g d (A0 x nm v)) k t):=fun x hx=>aj (G:=fun v=>bU n 4 d nm v y 3 (H p o (put g d x) k t)=cj 4 d nm v y (H p o (put g d (A0 x nm v)) k t)) hq
  (fun i=>bC (F:=fun d nm x=>bU n 4 d nm (.int i) y 3 (H p o (put g d x) k t)) (NS:=fun d nm x=>cj 4 d nm (.int i) y (H p o (put g d (A0 x nm (.int i))) k t)) (by rfl') (fun f=>by rfl') hd hn hx)
  fun i=>bC (F:=fun d nm x=>bU n 4 d nm (.str i) y 3 (H p o (put g d x) k t)) (NS:=fun d nm x=>cj 4 d nm (.str i) y (H p o (put g d (A0 x nm (.str i))) k t)) (by rfl') (fun f=>by rfl') hd hn hx
 have q:=go (g d) hc
 rw[o9]at q
 exact q
theorem HI (hd:d < 6) (hn:nm∈V7) (hc:Cl (g d)):bU n 5 d nm v y 4 (H p o g k t)=cj 5 d nm v y (H p o (put g d (ae (g d) nm)) k t):=by
 have q:=bC (F:=fun d nm x=>bU n 5 d nm v y 4 (H p o (put g d x) k t)) (NS:=fun d nm x=>cj 5 d nm v y (H p o (put g d (ae x nm)) k t)) (by rfl') (fun f=>by rfl') hd hn hc
 rw[o9]at q
 exact q
end
noncomputable def dg:S->X
 |.ite c _ _=>c
 |_=>.lit .none
section
variable {y:V} {L:List Txt} (n:Nat)
theorem DI (hd:d < 6) (hn:nm∈V7) (hc:Cl (g d)):(b9 pg (n+12)).tr (L4 2 d nm v [] y) (dg (cs 2)) (H p o g k t)=.ok (c3 (fo (g d) nm)) (H p o g k t):=by
 have hd':=OH hd
 have go:∀x,Cl x->(b9 pg (n+12)).tr (L4 2 d nm v [] y) (dg (cs 2)) (H p o (put g d x) k t)=.ok (c3 (fo x nm)) (H p o (put g d x) k t):=fun x hx=>by
  induction hx with
  |emp=>exact Y3 (γ:=R Bool) (a:=d) (b:=nm) (f:=fun d nm=>(b9 pg (n+12)).tr (L4 2 d nm v [] y) (dg (cs 2)) (H p o (put g d .emp) k t)) (h:=fun d nm=>.ok (c3 (fo .emp nm)) (H p o (put g d .emp) k t)) (by rfl') hd' hn
  |map f=>
   have e:t9 f nm (f nm)=f:=E5
   rw[←e]
   induction f nm with
   |none=>exact Y3 (γ:=R Bool) (a:=d) (b:=nm) (f:=fun d nm=>(b9 pg (n+12)).tr (L4 2 d nm v [] y) (dg (cs 2)) (H p o (put g d (.map (t9 f nm none))) k t)) (h:=fun d nm=>.ok (c3 (fo (.map (t9 f nm none)) nm)) (H p o (put g d (.map (t9 f nm none))) k t)) (by rfl') hd' hn
   |some u=>exact Y3 (γ:=R Bool) (a:=d) (b:=nm) (f:=fun d nm=>(b9 pg (n+12)).tr (L4 2 d nm v [] y) (dg (cs 2)) (H p o (put g d (.map (t9 f nm (some u)))) k t)) (h:=fun d nm=>.ok (c3 (fo (.map (t9 f nm (some u))) nm)) (H p o (put g d (.map (t9 f nm (some u)))) k t)) (by rfl') hd' hn
 have q:=go (g d) hc
 rw[o9]at q
 exact q
theorem HV {x:O}:(H p o g k (t++[x]))[t.length+42]? =some x:=(show(t++[x])[t.length]? =some x from List.getElem?_concat_length)
theorem BM {x y:O}:(H p o g k (t++[x])).set (t.length+42) y=H p o g k (t++[y]):=Oh (H p o g k) ((List.set_append_right _ _ (OF _)).trans (by rw[Nat.sub_self];rfl))
theorem HK (hd:d < 6) (hn:nm∈V7) (hc:Cl (g d)) (hk:k d=t.length+42) (hl:L.length≤100):bU n 2 d nm v y 2 (H p o g k (t++[.list (L.map .str)]))=cj 2 d nm v y (H p o g k (t++[.list ((L++bif c3 (fo (g d) nm)then[nm]else[]).map .str)])):=by
 have ht:=DI (p:=p) (o:=o) (k:=k) (t:=t++[.list (L.map .str)]) (v:=v) (y:=y) n hd hn hc
 cases e:c3 (fo (g d) nm)with
 |false=>
  rw[e]at ht
  refine N4 (n:=n+11) ht ?_
  rw[cond_false,Ox]
  rfl
 |true=>
  rw[e]at ht
  have ho:(b9 pg (n+10)).ev (L4 2 d nm v [] y) (.sub (.NT 34) (.lit (V.str [110,111]))) (H p o g k (t++[.list (L.map .str)]))=.ok (.loc (t.length+42)) (H p o g k (t++[.list (L.map .str)])):=by
   rw[←hk]
   exact M1 (β:=R V) (f:=fun d=>(b9 pg (n+10)).ev (L4 2 d nm v [] y) (.sub (.NT 34) (.lit (V.str [110,111]))) (H p o g k (t++[.list (L.map .str)]))) (h:=fun d=>.ok (.loc (k d)) (H p o g k (t++[.list (L.map .str)]))) (by rfl') hd
  refine(bh (n:=n+11) ht ((c6 (C2 (My (a:=nm) ho HV rfl (by rw[Oi];exact Oe hl (by decide))))).trans g5)).trans ?_
  rw[BM,cond_true,List.map_append]
  rfl
def xj (n:Nat) (w:Int) (d:Nat) (nm:Txt) (v y:V) (p o g:Nat->O) (k:Nat->Nat) (t:List O) (o' g':Nat->O) (N':Nat->List Txt):Prop:=
 ∃k' t',a8 pg (b9 pg (n+73)) (L4 w d nm v [] y) (f9.body.drop 5) (H p o g k t)=.ok (.ret (.bool true),L4 w d nm v [] y) (H p o' g' k' t')∧Wd p o' g' k' t' N'
theorem yC {o' g':Nat->O} {k':Nat->Nat} {t':List O} {N':Nat->List Txt} (h:a8 pg (b9 pg (n+72)) (L4 w d nm v [] y) [cs 0,cs 1,cs 2,cs 3,cs 4] (H p o g k t)=.ok (.next,L4 w d nm v [] y) (H p o' g' k' t')) (hw:Wd p o' g' k' t' N'):xj n w d nm v y p o g k t o' g' N':=
 ⟨k',t',(c6 (bh (n:=n+72) rfl h)).trans (s9 (B1 rfl rfl rfl)),hw⟩
variable (ww:Wd p o g k t N) (hd:d < 6) (hn:nm∈V7) (hl:(N d).length≤60) (hv:quiet v=true) (hy:quiet y=true)
include ww hd hn hl hv hy
theorem FK (hw:w∈[(0:Int),1]) (hq:isQ v=true):xj n w d nm v y p o g k t (put o d (A0 (o d) nm v)) g (put N d ((N d).filter (t7 w nm))):=
 have h6:w∈[(0:Int),1,2,3,4,5]:=Oa [2,3,4,5] hw
 have h5:w∈[(0:Int),1,3,4,5]:=Oa [3,4,5] hw
 have h3:w∈[(0:Int),1,2,3,5]:=Oa [2,3,5] hw
 have h4:w∈[(0:Int),1,2,3,4]:=Oa [2,3,4] hw
 yC n ((c6 (pq (n+60) hv hy h6 ww hd hl)).trans ((c6 (HL (n+60) hw hq hd hn (ww.o d hd))).trans ((c6 (lE (n+60) h5)).trans ((c6 (lA (n+60) h3)).trans ((c6 (lz (n+60) h4)).trans g5))))) ((ww.yi (d:=d) (ns:=(N d).filter (t7 w nm))).FF .A0)
theorem FN:xj n 2 d nm v y p o g k t (put o d (ae (o d) nm)) g (put N d ((N d).filter (t7 2 nm)++bif c3 (fo (g d) nm)then[nm]else[])):=
 yC n ((c6 (pq (n+60) hv hy (by decide) ww hd hl)).trans ((c6 (Av (n+60) (by decide) hd hn (ww.o d hd))).trans ((c6 (HK (n+60) hd hn (ww.g d hd) w4 (Oe (List.length_filter_le _ _) (Oe hl (by decide))))).trans ((c6 (lA (n+60) (by decide))).trans ((c6 (lz (n+60) (by decide))).trans g5))))) ((ww.yi (d:=d)).FF (ww.o d hd).ae)
theorem BW:xj n 3 d nm v y p o g k t (put o d (ae (o d) nm)) g (put N d ((N d).filter (t7 3 nm))):=
 yC n ((c6 (pq (n+60) hv hy (by decide) ww hd hl)).trans ((c6 (Av (n+60) (by decide) hd hn (ww.o d hd))).trans ((c6 (lE (n+60) (by decide))).trans ((c6 (lA (n+60) (by decide))).trans ((c6 (lz (n+60) (by decide))).trans g5))))) ((ww.yi (d:=d)).FF (ww.o d hd).ae)
theorem FL (hq:isQ v=true):xj n 4 d nm v y p o g k t o (put g d (A0 (g d) nm v)) (put N d ((N d).filter (t7 4 nm))):=
 yC n ((c6 (pq (n+60) hv hy (by decide) ww hd hl)).trans ((c6 (Aw (n+60) (by decide))).trans ((c6 (lE (n+60) (by decide))).trans ((c6 (HJ (n+60) hq hd hn (ww.g d hd))).trans ((c6 (lz (n+60) (by decide))).trans g5))))) ((ww.yi (d:=d)).IM .A0)
theorem BV:xj n 5 d nm v y p o g k t o (put g d (ae (g d) nm)) (put N d ((N d).filter (t7 5 nm))):=
 yC n ((c6 (pq (n+60) hv hy (by decide) ww hd hl)).trans ((c6 (Aw (n+60) (by decide))).trans ((c6 (lE (n+60) (by decide))).trans ((c6 (lA (n+60) (by decide))).trans ((c6 (HI (n+60) hd hn (ww.g d hd))).trans g5))))) ((ww.yi (d:=d)).IM (ww.g d hd).ae)
end
inductive cN (nm:Txt):Option V->Option V->Prop
 |none:cN nm none none
 |some (i:Int) (v:V) (a:Acc nm v i):cN nm (some (.int i)) (some v)
noncomputable def z3 (ns:List Txt) (nm:Txt):Bool:=ns.any fun y=>r5 y nm
structure Dir (f a b:Txt->Option V) (ns:List Txt):Prop where
 keys:∀q,f q≠none->∃nm,nm∈V7∧(q=nm∨q=nm++y3∨q=nm++u4)
 ka:∀q,a q≠none->q∈V7
 kg:∀q,b q≠none->q∈V7
 own:∀nm,nm∈V7->cN nm (f nm) (a nm)
 got:∀nm,nm∈V7->cN nm (f (nm++u4)) (b nm)
 JD:∀nm,nm∈V7->c3 (f (nm++y3))=z3 ns nm
 LR:∀nm,nm∈V7->z3 ns nm=true->b nm≠none
variable {a f:Txt->Option V}
section
variable {x y:Txt} {b:Txt->Option V} {ns:List Txt}
theorem xw (h:x∈V7):x.any (Nat.beq 36)=false:=e8 (f:=fun x:Txt=>x.any (Nat.beq 36)) (h:=fun J=>false) (by rfl') h
theorem X9 {k:Txt} (h:k.any (Nat.beq 36)=true):(y++k).any (Nat.beq 36)=true:=by rw[List.any_append,h,Bool.or_true]
theorem fJ (h:x∈V7):x≠y++y3:=fun e=>Bool.noConfusion ((xw h).symm.trans (e▸X9 rfl))
theorem cX (h:x∈V7):x≠y++u4:=fun e=>Bool.noConfusion ((xw h).symm.trans (e▸X9 rfl))
theorem P4:x++y3≠y++u4:=fun e=>by
 have e:=Oh List.reverse e
 rw[List.reverse_append,List.reverse_append]at e
 exact nomatch (List.cons.inj (show(116:Nat)::_=100::_ from e)).1
theorem ju:z3 (ns.filter (t7 w nm)) x=(z3 ns x&&t7 w nm x):=by
 induction ns with
 |nil=>rfl
 |cons z r ih=>
  rw[List.filter_cons]
  show _=((r5 z x || z3 r x)&&t7 w nm x)
  cases e2:r5 z x with
  |false=>induction t7 w nm z with
   |true=>exact(show(r5 z x || z3 (r.filter (t7 w nm)) x)=_ by rw[e2,ih];rfl)
   |false=>exact ih
  |true=>
   rw[Mine.D0.mp e2]
   cases e:t7 w nm x with
   |true=>exact(show(r5 x x || z3 (r.filter (t7 w nm)) x)=_ by rw[G8];rfl)
   |false=>exact ih.trans (by rw[e,Bool.and_false,Bool.and_false])
theorem jt:z3 (ns++[nm]) x=(z3 ns x || r5 nm x):=by
 unfold z3
 rw[List.any_append]
 exact Oh _ (Bool.or_false _)
theorem CR (h:x≠nm):t7 w nm x=true:=by unfold t7;rw[lJ h];rfl
theorem CS (h:w≠4):t7 w nm nm=false:=by unfold t7;rw[G8,decide_eq_false h];rfl
theorem zo {z:Txt}:t7 4 nm z=true:=Bool.or_true _
theorem Dir.turn (h:Dir f a b ns) (hn:nm∈V7) {f' a' b':Txt->Option V} {ns':List Txt} (hf:∀q,q≠nm->q≠nm++y3->q≠nm++u4->f' q=f q) (ha:∀q,q≠nm->a' q=a q) (hb:∀q,q≠nm->b' q=b q) (hs:∀q,q≠nm->z3 ns' q=z3 ns q)
 (h1:cN nm (f' nm) (a' nm)) (h2:cN nm (f' (nm++u4)) (b' nm)) (h3:c3 (f' (nm++y3))=z3 ns' nm) (h4:z3 ns' nm=true->b' nm≠none):Dir f' a' b' ns':=
 have em:∀{q r:Txt} {G:Prop},(q=r->G)->(q≠r->G)->G:=fun{q r G}=>(inferInstance:Decidable (q=r)).byCases
 {keys:=fun q e=>em (q:=q) (r:=nm) (fun z=>⟨nm,hn,.inl z⟩) fun e1=>em (q:=q) (r:=nm++y3) (fun z=>⟨nm,hn,.inr (.inl z)⟩) fun e2=>em (q:=q) (r:=nm++u4) (fun z=>⟨nm,hn,.inr (.inr z)⟩) fun e3=>h.keys q (hf q e1 e2 e3▸e)
  ka:=fun q e=>em (q:=q) (r:=nm) (fun z=>z▸hn) fun e1=>h.ka q (ha q e1▸e)
  kg:=fun q e=>em (q:=q) (r:=nm) (fun z=>z▸hn) fun e1=>h.kg q (hb q e1▸e)
  own:=fun x hx=>em (q:=x) (r:=nm) (fun z=>z▸h1) fun e1=>by rw[ha x e1,hf x e1 (fJ hx) (cX hx)];exact h.own x hx
  got:=fun x hx=>em (q:=x) (r:=nm) (fun z=>z▸h2) fun e1=>by rw[hb x e1,hf _ (Ne.symm (cX hn)) (Ne.symm P4) fun e=>e1 (List.append_cancel_right e)];exact h.got x hx
  JD:=fun x hx=>em (q:=x) (r:=nm) (fun z=>z▸h3) fun e1=>by rw[hs x e1,hf _ (Ne.symm (fJ hn)) (fun e=>e1 (List.append_cancel_right e)) P4];exact h.JD x hx
  LR:=fun x hx=>em (q:=x) (r:=nm) (fun z=>z▸h4) fun e1=>by rw[hs x e1,hb x e1];exact h.LR x hx}
theorem cN.aK {p q:Option V} (h:cN nm p q):c3 q=c3 p:=by induction h<;>rfl
theorem T8 (hw:w≠4):z3 (ns.filter (t7 w nm)) nm=false:=by rw[ju,CS hw,Bool.and_false]
theorem oh {q:Txt} (e:q≠nm):z3 (ns.filter (t7 w nm)) q=z3 ns q:=by rw[ju,CR e,Bool.and_true]
theorem dO {G:Prop} (hw:w≠4) (e:z3 (ns.filter (t7 w nm)) nm=true):G:=Bool.noConfusion ((T8 hw).symm.trans e)
theorem FZ (h:Dir f a b ns) (hn:nm∈V7) (hA:Acc nm v i) (hw:w≠4):Dir (t9 (t9 f nm (some (.int i))) (nm++y3) none) (t9 a nm (some v)) b (ns.filter (t7 w nm)):=
 h.turn hn (fun q e1 e2 e3=>(l0 (Ne.symm e2)).trans (l0 (Ne.symm e1))) (fun q e=>l0 (Ne.symm e)) (fun q e=>rfl) (fun q e=>oh e) (by rw[l0 (Ne.symm (fJ hn)),u5,u5];exact .some i v hA)
  (by rw[l0 P4,l0 (cX hn)];exact h.got nm hn) (by rw[u5,T8 hw];rfl) (dO hw)
theorem Ci (h:Dir f a b ns) (hn:nm∈V7) (hw:w≠4):Dir (t9 (t9 f nm none) (nm++y3) none) (t9 a nm none) b (ns.filter (t7 w nm)):=
 h.turn hn (fun q e1 e2 e3=>(l0 (Ne.symm e2)).trans (l0 (Ne.symm e1))) (fun q e=>l0 (Ne.symm e)) (fun q e=>rfl) (fun q e=>oh e) (by rw[l0 (Ne.symm (fJ hn)),u5,u5];exact .none)
  (by rw[l0 P4,l0 (cX hn)];exact h.got nm hn) (by rw[u5,T8 hw];rfl) (dO hw)
theorem Ga (h:Dir f a b ns) (hn:nm∈V7) (hA:Acc nm v i):Dir (t9 f (nm++u4) (some (.int i))) a (t9 b nm (some v)) (ns.filter (t7 4 nm)):=by
 rw[show ns.filter (t7 4 nm)=ns from List.filter_eq_self.mpr fun J J=>zo]
 exact h.turn hn (fun q e1 e2 e3=>l0 (Ne.symm e3)) (fun q e=>rfl) (fun q e=>l0 (Ne.symm e)) (fun q e=>rfl) (by rw[l0 (Ne.symm (cX hn))];exact h.own nm hn)
  (by rw[u5,u5];exact .some i v hA) (by rw[l0 (Ne.symm P4)];exact h.JD nm hn) (fun e=>by rw[u5];exact nofun)
theorem Cg (h:Dir f a b ns) (hn:nm∈V7) (hw:w≠4):Dir (t9 (t9 f (nm++y3) none) (nm++u4) none) a (t9 b nm none) (ns.filter (t7 w nm)):=
 h.turn hn (fun q e1 e2 e3=>(l0 (Ne.symm e3)).trans (l0 (Ne.symm e2))) (fun q e=>rfl) (fun q e=>l0 (Ne.symm e)) (fun q e=>oh e) (by rw[l0 (Ne.symm (cX hn)),l0 (Ne.symm (fJ hn))];exact h.own nm hn)
  (by rw[u5,u5];exact .none) (by rw[l0 (Ne.symm P4),u5,T8 hw];rfl) (dO hw)
theorem Gb {z:O} (h:Dir (fo z) a b ns) (hn:nm∈V7):Dir (fo (cW (cut z nm) nm)) (t9 a nm none) b (ns.filter (t7 2 nm)++bif c3 (b nm)then[nm]else[]):=by
 have hg:=h.got nm hn
 have hm:=h.LR nm hn
 have er:fo (cut z nm) (nm++u4)=fo z (nm++u4):=by rw[Q5];exact l0 (cX hn)
 have ef:∀q,q≠nm->fo (cut z nm) q=fo z q:=fun q e=>by rw[Q5];exact l0 (Ne.symm e)
 have e0:fo (cut z nm) nm=none:=by rw[Q5];exact u5
 unfold cW
 rw[hg.aK,er]
 cases e:c3 (fo z (nm++u4))with
 |false=>
  have hb:b nm=none:=by
   have q:=hg.aK
   rw[e]at q
   induction hbn:b nm with
   |none=>rfl
   |some _=>rw[hbn]at q;exact Bool.noConfusion q
  have hh:z3 ns nm=false:=by
   cases e2:z3 ns nm with
   |false=>rfl
   |true=>exact absurd hb (hm e2)
  rw[cond_false,cond_false,Ox]
  exact h.turn hn (fun q e1 J J=>ef q e1) (fun q e=>l0 (Ne.symm e)) (fun q e=>rfl) (fun q e=>oh e) (by rw[e0,u5];exact .none) (by rw[er];exact hg) (by rw[ef _ (Ne.symm (fJ hn)),h.JD nm hn,hh,T8 (by decide)]) (dO (by decide))
 |true=>
  rw[cond_true,cond_true]
  refine h.turn hn (fun q e1 e2 J=>(l0 (Ne.symm e2)).trans (ef q e1)) (fun q e=>l0 (Ne.symm e)) (fun q e=>rfl) (fun q e=>by rw[jt,oh e,lJ (Ne.symm e),Bool.or_false]) ?_ ?_ ?_ fun J=>?_
  ·rw[show fo (A0 (cut z nm) (nm++y3) (.int 1)) nm=none from(l0 (Ne.symm (fJ hn))).trans e0,u5];exact .none
  ·rw[show fo (A0 (cut z nm) (nm++y3) (.int 1)) (nm++u4)=_ from(l0 P4).trans er];exact hg
  ·rw[jt,G8,Bool.or_true,show fo (A0 (cut z nm) (nm++y3) (.int 1)) (nm++y3)=_ from u5];rfl
  ·intro hb
   have q:=hg.aK
   rw[e,hb]at q
   exact Bool.noConfusion q
end
structure Wk (c:Nat) (p o g:Nat->O) (k:Nat->Nat) (t:List O) (N:Nat->List Txt):Prop where
 w:Wd p o g k t N
 d:∀d,d < 6->Dir (fo (p d)) (fo (o d)) (fo (g d)) (N d)
 l:∀d,d < 6->(N d).length≤c
inductive St (c:Nat):Hp->Prop
 |mk (p o g:Nat->O) (k:Nat->Nat) (t:List O) (N:Nat->List Txt) (w:Wk c p o g k t N):St c (H p o g k t)
section
def L9 (n c:Nat) (Y:Hp) (w:Int) (d:Nat) (nm:Txt) (v:V):Prop:=∃c7,(b9 pg (n+75)).run 54 [.loc 1,.loc 8,.int w,.int (Int.ofNat d),.str nm,v] Y=.ok (.bool true) c7∧St (c+1) c7
theorem fm (n:Nat) {m:Fr} {due:Txt} {y:V} {c7 u3:Hp} (hd:d < 6) (e1:a8 pg (b9 pg (n+73)) (L1 w d nm v) ((f9.body.drop 1).take 2) (H p o g k t)=.ok (.next,L3 w d nm v due) (H p o g k t)) (e3:a8 pg (b9 pg (n+73)) (L3 w d nm v due) ((f9.body.drop 3).take 1) (H p o g k t)=.ok (.next,L4 w d nm v due y) c7)
 (e4:a8 pg (b9 pg (n+73)) (L4 w d nm v due y) (f9.body.drop 4) c7=.ok (.ret (.bool true),m) u3):(b9 pg (n+75)).run 54 [.loc 1,.loc 8,.int w,.int (Int.ofNat d),.str nm,v] (H p o g k t)=.ok (.bool true) u3:=
 t8 (n:=n+74) (fd:=f9) (m:=L0 w d nm v) rfl rfl ((z4 1 (LH n hd)).trans ((z4 2 e1).trans ((z4 (b:=f9.body.drop 3) 1 e3).trans e4)))
theorem ny (n:Nat) {y:V} {due:Txt} {Y:Hp} {r:R (Fl×Fr)} (h:a8 pg (b9 pg (n+73)) (L4 w d nm v due y) ((f9.body.drop 4).take 1) Y=.ok (.next,L4 w d nm v due y) Y) (h5:a8 pg (b9 pg (n+73)) (L4 w d nm v due y) (f9.body.drop 5) Y=r):a8 pg (b9 pg (n+73)) (L4 w d nm v due y) (f9.body.drop 4) Y=r:=(z4 (b:=f9.body.drop 4) 1 h).trans h5
theorem LN {α β γ δ:Type} {Q:α->β->γ->δ->Prop} {f:Nat->α} {a:Nat->β} {b:Nat->γ} {s:Nat->δ} (h:∀e,e < 6->Q (f e) (a e) (b e) (s e)) {f':α} {a':β} {b':γ} {s':δ} (hz:Q f' a' b' s'):∀e,e < 6->Q (put f d f' e) (put a d a' e) (put b d b' e) (put s d s' e):=fun e he=>
 (Nat.decEq e d).byCases (fun q=>by rw[q,w4,w4,w4,w4];exact hz) fun q=>by rw[K3 q,K3 q,K3 q,K3 q];exact h e he
theorem Wk.more (x:Wk c p o g k t N):Wk (c+1) p o g k t N:=⟨x.w,x.d,fun d hd=>Nat.le_succ_of_le (x.l d hd)⟩
theorem Wk.go (x:Wk c p o g k t N) (hd:d < 6) {xp xo xg:O} {ns:List Txt} {k':Nat->Nat} {t':List O} (w:Wd (put p d xp) (put o d xo) (put g d xg) k' t' (put N d ns)) (hD:Dir (fo xp) (fo xo) (fo xg) ns) (hl:ns.length≤(N d).length+1):Wk (c+1) (put p d xp) (put o d xo) (put g d xg) k' t' (put N d ns):=
 ⟨w,LN (Q:=fun a b c s=>Dir (fo a) (fo b) (fo c) s) x.d hD,dJ (Q:=fun J (s:List Txt)=>s.length≤c+1) (fun e he=>Nat.le_succ_of_le (x.l e he)) (Oe hl (Nat.succ_le_succ (x.l d hd)))⟩
theorem Di {w:Int} {nm:Txt} {ns:List Txt}:(ns.filter (t7 w nm)).length≤ns.length+1:=Nat.le_succ_of_le (List.length_filter_le _ _)
variable (n:Nat) (x:Wk c p o g k t N) (hc:c≤50) (hd:d < 6)
include x hc hd
theorem xC (a:Acc nm v i) (pv:Pv v) (hw:w∈[(0:Int),1]):L9 (n+10) c (H p o g k t) w d nm v:=by
 have s:=FG (o:=o) (g:=g) (k:=k) (t:=t) a pv hd (x.w.p d hd) (n+10)
 have hw2:=x.w.yh (d:=d) (x.w.p d hd).A0.cut (x:=cut (A0 (p d) nm (.int i)) (nm++y3))
 obtain⟨k',t',e5,w5⟩:=FK (y:=yN) (w:=w) (n+10) hw2 hd a.key (Oe (x.l d hd) (Oe hc (by decide))) pv.qt rfl hw a.q
 have hDo:iI (n+10) (H p o g k t) d nm v (.ok .none (H (put p d (cut (A0 (p d) nm (.int i)) (nm++y3))) o g k t)) w:=(Of hw).elim (fun e=>e▸.s0 s) fun e=>Og e▸.s1 s
 have e3:=qA (n+10) (due:=[]) pv hDo (.ok .none _ rfl)
 have h4:w∈[(0:Int),1,2,3,4]:=Oa [2,3,4] hw
 have hS:w∈WS:=Oa [4] hw
 refine⟨_,fm (n+10) hd (FJ (n+10) hS pv a.ref) e3 (ny (n+10) (BR (n+10) h4) e5),?_⟩
 have hD:=FZ (w:=w) (x.d d hd) a.key a (fun e=>absurd (e▸hw) (by decide))
 have eg:put g d (g d)=g:=o9
 rw[←eg]at w5⊢
 exact .mk _ _ _ _ _ _ (x.go hd w5 (by rw[Q5,tX,tX];exact hD) Di)
theorem xD (a:Acc nm v i) (pv:Pv v):L9 (n+10) c (H p o g k t) 4 d nm v:=by
 have s:=FP (o:=o) (g:=g) (k:=k) (t:=t) a pv hd (x.w.p d hd) (n+7)
 obtain⟨k',t',e5,w5⟩:=FL (y:=yN) (n+10) (x.w.yh (d:=d) (x.w.p d hd).A0) hd a.key (Oe (x.l d hd) (Oe hc (by decide))) pv.qt rfl a.q
 refine⟨_,fm (n+10) hd (FJ (n+10) (by decide) pv a.ref) (qA (n+10) (due:=[]) pv (.s4 s) (.ok .none _ rfl)) (ny (n+10) (BR (n+10) (by decide)) e5),?_⟩
 have hD:=Ga (x.d d hd) a.key a
 have eo:put o d (o d)=o:=o9
 rw[←eo]at w5⊢
 exact .mk _ _ _ _ _ _ (x.go hd w5 hD Di)
theorem mG (a:Ls nm v) (hn:nm∈NM) (pv:Pv v) (hw:w∈WS):L9 (n+10) c (H p o g k t) w d nm v:=by
 have h6:w∈[(0:Int),1,2,3,4,5]:=(by decide:∀w∈WS,w∈[(0:Int),1,2,3,4,5]) w hw
 have hD:iI (n+10) (H p o g k t) d nm v (.exc (hY nm) (H p o g k t)) w:=(Of hw).elim (fun e=>e▸.s0 (sS a pv _)) fun hw=>(Of hw).elim (fun e=>e▸.s1 (sS a pv _)) fun e=>Og e▸.s4 (BZ a pv (n+7))
 exact⟨_,fm (n+10) hd (FJ (n+10) hw pv a.ref) (qA (n+10) pv hD (.exc _ _)) (Eg (n+10) h6 hn),.mk _ _ _ _ _ _ x.more⟩
theorem uE (hn:nm∈NM) (hb:B5 nm=true) (pv:Pv v) (hw:w∈WO):L9 (n+10) c (H p o g k t) w d nm v:=by
 have em:hY nm=I5 nm:=by unfold hY;rw[hb];rfl
 have ed:iA nm=hY nm:=by rw[em];unfold iA;rw[hb];rfl
 have h6:w∈[(0:Int),1,2,3,4,5]:=(by decide:∀w∈WO,w∈[(0:Int),1,2,3,4,5]) w hw
 have hD:iI (n+10) (H p o g k t) d nm v (.exc (hY nm) (H p o g k t)) w:=em▸(Of hw).elim (fun e=>e▸.s2 (tJ (b:=false) rfl hn hb (n+9))) fun hw=>(Of hw).elim (fun e=>e▸.s3 (tJ (b:=true) rfl hn hb (n+8))) fun e=>Og e▸.s5 (zZ hn hb (n+7))
 have e2:=BS (d:=d) (v:=v) (n+10) (Y:=H p o g k t) hw hn
 rw[ed]at e2
 exact⟨_,fm (n+10) hd e2 (qA (n+10) pv hD (.exc _ _)) (Eg (n+10) h6 hn),.mk _ _ _ _ _ _ x.more⟩
theorem xE (hn:nm∈NM) (hb:B5 nm=false) (pv:Pv v):L9 (n+10) c (H p o g k t) 2 d nm v:=by
 have hk:=fK hn hb
 have s:=GR (o:=o) (g:=g) (k:=k) (t:=t) hn hb hd (x.w.p d hd) (n+9)
 have hp:A5 (cW (cut (p d) nm) nm):=by
  unfold cW
  induction c3 (fo (cut (p d) nm) (nm++u4))with
  |true=>exact(x.w.p d hd).cut.A0
  |false=>exact(x.w.p d hd).cut
 obtain⟨k',t',e5,w5⟩:=FN (v:=v) (y:=yN) (n+10) (x.w.yh (d:=d) hp) hd hk (Oe (x.l d hd) (Oe hc (by decide))) pv.qt rfl
 have e2:=BS (d:=d) (v:=v) (n+10) (Y:=H p o g k t) (w:=2) (by decide) hn
 rw[show iA nm=[]from by unfold iA;rw[hb];rfl]at e2
 refine⟨_,fm (n+10) hd e2 (qA (n+10) pv (.s2 s) (.ok .none _ rfl)) (ny (n+10) (BR (n+10) (by decide)) e5),?_⟩
 have hD:=Gb (x.d d hd) hk
 have eg:put g d (g d)=g:=o9
 rw[←eg]at w5⊢
 refine .mk _ _ _ _ _ _ (x.go hd w5 (by rw[kU (x.w.o d hd),w4];exact hD) ?_)
 rw[List.length_append]
 refine Nat.add_le_add (List.length_filter_le _ _) ?_
 induction c3 (fo (put g d (g d) d) nm)with
 |true=>exact OF _
 |false=>exact Nat.zero_le _
theorem uG (hn:nm∈NM) (hb:B5 nm=false) (pv:Pv v):L9 (n+10) c (H p o g k t) 3 d nm v:=by
 have hk:=fK hn hb
 have s:=CW (o:=o) (g:=g) (k:=k) (t:=t) hn hb hd (x.w.p d hd) (n+8)
 obtain⟨k',t',e5,w5⟩:=BW (v:=v) (y:=yN) (n+10) (x.w.yh (d:=d) (x.w.p d hd).cut.cut) hd hk (Oe (x.l d hd) (Oe hc (by decide))) pv.qt rfl
 have e2:=BS (d:=d) (v:=v) (n+10) (Y:=H p o g k t) (w:=3) (by decide) hn
 rw[show iA nm=[]from by unfold iA;rw[hb];rfl]at e2
 refine⟨_,fm (n+10) hd e2 (qA (n+10) pv (.s3 s) (.ok .none _ rfl)) (ny (n+10) (BR (n+10) (by decide)) e5),?_⟩
 have hD:=Ci (w:=3) (x.d d hd) hk (by decide)
 have eg:put g d (g d)=g:=o9
 rw[←eg]at w5⊢
 exact .mk _ _ _ _ _ _ (x.go hd w5 (by rw[kU (x.w.o d hd),Q5,Q5];exact hD) Di)
theorem uF (hn:nm∈NM) (hb:B5 nm=false) (pv:Pv v):L9 (n+10) c (H p o g k t) 5 d nm v:=by
 have hk:=fK hn hb
 have s:=dX (o:=o) (g:=g) (k:=k) (t:=t) hn hb hd (x.w.p d hd) (n+7)
 have er:c3 (fo (g d) nm)=c3 (fo (cut (p d) (nm++y3)) (nm++u4)):=by
  rw[Q5,l0 P4];exact((x.d d hd).got nm hk).aK
 obtain⟨k',t',e5,w5⟩:=BV (v:=v) (y:=.tup [.str [],.bool (c3 (fo (cut (p d) (nm++y3)) (nm++u4)))]) (n+10) (x.w.yh (d:=d) (x.w.p d hd).cut.cut) hd hk (Oe (x.l d hd) (Oe hc (by decide))) pv.qt rfl
 have e2:=BS (d:=d) (v:=v) (n+10) (Y:=H p o g k t) (w:=5) (by decide) hn
 rw[show iA nm=[]from by unfold iA;rw[hb];rfl]at e2
 refine⟨_,fm (n+10) hd e2 (qA (n+10) pv (.s5 s) (.ok (.bool _) _ rfl)) (ny (n+10) (IS (n+10) hd hk (x.w.g d hd) er) e5),?_⟩
 have hD:=Cg (w:=5) (x.d d hd) hk (by decide)
 have eo:put o d (o d)=o:=o9
 rw[←eo]at w5⊢
 exact .mk _ _ _ _ _ _ (x.go hd w5 (by rw[kU (x.w.g d hd),Q5,Q5];exact hD) Di)
end
theorem Kb (n:Nat) {c:Nat} {Y:Hp} {w:Int} {d:Nat} {nm:Txt} {v:V} (s:St c Y) (hc:c≤50) (hw:w∈[(0:Int),1,2,3,4,5]) (hd:d < 6) (hn:nm∈NM) (hv:(nm,v)∈NV):L9 (n+10) c Y w d nm v:=by
 induction s with
 |mk p o g k t N x=>
  have pv:Pv v:=Ej hv
  have ha:∀{w:Int},w∈[(0:Int),1]->L9 (n+10) c (H p o g k t) w d nm v:=fun{w} hw=>(fH hv).elim (fun⟨i,a⟩=>xC n x hc hd a pv hw) fun a=>mG n x hc hd a hn pv (Oa [4] hw)
  have hb:∀{w:Int},w∈WO->(B5 nm=false->L9 (n+10) c (H p o g k t) w d nm v)->L9 (n+10) c (H p o g k t) w d nm v:=fun{w} hw h=>by
   cases e:B5 nm with
   |true=>exact uE n x hc hd hn e pv hw
   |false=>exact h e
  exact(Of hw).elim (fun e=>e▸ha (by decide)) fun hw=>(Of hw).elim (fun e=>e▸ha (by decide)) fun hw=>(Of hw).elim (fun e=>e▸hb (by decide) fun e=>xE n x hc hd hn e pv) fun hw=>(Of hw).elim (fun e=>e▸hb (by decide) fun e=>uG n x hc hd hn e pv) fun hw=>
   (Of hw).elim (fun e=>e▸(fH hv).elim (fun⟨i,a⟩=>xD n x hc hd a pv) fun a=>mG n x hc hd a hn pv (by decide)) fun e=>Og e▸hb (by decide) fun e=>uF n x hc hd hn e pv
noncomputable def iL (f:Txt->Option V) (nm:Txt) (a b c:Option V):O:=.map (t9 (t9 (t9 f nm a) (nm++y3) b) (nm++u4) c)
noncomputable def cb (f:Txt->Option V) (nm:Txt):Option V:=(f nm).or (bif c3 (f (nm++y3))then none else f (nm++u4))
noncomputable def ai (a b:Option V) (h:Bool):Option V:=a.or (bif h then none else b)
section
variable {x:O} (n:Nat)
theorem xI {f:Txt->Option V}:iL f nm (f nm) (f (nm++y3)) (f (nm++u4))=.map f:=by
 unfold iL
 rw[E5,E5,E5]
theorem A5.iL {G:O->Prop} (h:A5 x) (nm:Txt) (h0:G .emp) (h1:∀f i b c,G (iL f nm (some (.int i)) b c)) (h2:∀f i c,G (iL f nm none (some (.int i)) c)) (h3:∀f,G (iL f nm none none none)) (h4:∀f i,G (iL f nm none none (some (.int i)))):G x:=by
 induction h with
 |emp=>exact h0
 |map f h=>
  rw[←xI (nm:=nm)]
  cases e1:f nm with
  |some v=>exact(h _ _ e1).elim fun i e=>e▸h1 f i _ _
  |none=>
   cases e2:f (nm++y3)with
   |some v=>exact(h _ _ e2).elim fun i e=>e▸h2 f i _
   |none=>
    cases e3:f (nm++u4)with
    |some v=>exact(h _ _ e3).elim fun i e=>e▸h4 f i
    |none=>exact h3 f
noncomputable def mO (d:Nat) (nm:Txt):Fr:=[(41,.loc 1),(21,.int (ob d)),(14,.str nm),(32,.int (zp d))]
theorem ve (hd:d < 6):a8 pg (b9 pg (n+28)) [(41,.loc 1),(21,.int (ob d)),(14,.str nm)] (F2.body.take 1) (H p o g k t)=.ok (.next,mO d nm) (H p o g k t):=
 M1 (β:=R (Fl×Fr)) (f:=fun d=>a8 pg (b9 pg (n+28)) [(41,.loc 1),(21,.int (ob d)),(14,.str nm)] (F2.body.take 1) (H p o g k t)) (h:=fun d=>.ok (.next,mO d nm) (H p o g k t)) (by rfl') hd
noncomputable abbrev qO (n:Nat) (Y:Hp) (d:Nat) (nm:Txt):R V:=(a8 pg (b9 pg (n+28)) (mO d nm) (F2.body.drop 1) Y).bind fun p Y=>.ok (It p.1) Y
theorem qN (hd:d < 6) (hn:nm∈N5) (hc:A5 (p d)):(b9 pg (n+30)).run 38 [.loc 1,.int (ob d),.str nm] (H p o g k t)=.ok ((cb (fo (p d)) nm).getD .none) (H p o g k t):=by
 have hd':=OH hd
 have go:∀x,A5 x->qO n (H (put p d x) o g k t) d nm=.ok ((cb (fo x) nm).getD .none) (H (put p d x) o g k t):=fun x hx=>hx.iL (G:=fun x=>qO n (H (put p d x) o g k t) d nm=.ok ((cb (fo x) nm).getD .none) (H (put p d x) o g k t)) nm
  (Y3 (f:=fun d nm=>qO n (H (put p d .emp) o g k t) d nm) (h:=fun d nm=>.ok ((cb (fo .emp) nm).getD .none) (H (put p d .emp) o g k t)) (by rfl') hd' hn)
  (fun f i b c=>Y3 (f:=fun d nm=>qO n (H (put p d (iL f nm (some (.int i)) b c)) o g k t) d nm) (h:=fun d nm=>.ok ((cb (fo (iL f nm (some (.int i)) b c)) nm).getD .none) (H (put p d (iL f nm (some (.int i)) b c)) o g k t)) (by rfl') hd' hn)
  (fun f i c=>Y3 (f:=fun d nm=>qO n (H (put p d (iL f nm none (some (.int i)) c)) o g k t) d nm) (h:=fun d nm=>.ok ((cb (fo (iL f nm none (some (.int i)) c)) nm).getD .none) (H (put p d (iL f nm none (some (.int i)) c)) o g k t)) (by rfl') hd' hn)
  (fun f=>Y3 (f:=fun d nm=>qO n (H (put p d (iL f nm none none none)) o g k t) d nm) (h:=fun d nm=>.ok ((cb (fo (iL f nm none none none)) nm).getD .none) (H (put p d (iL f nm none none none)) o g k t)) (by rfl') hd' hn)
  (fun f i=>Y3 (f:=fun d nm=>qO n (H (put p d (iL f nm none none (some (.int i)))) o g k t) d nm) (h:=fun d nm=>.ok ((cb (fo (iL f nm none none (some (.int i)))) nm).getD .none) (H (put p d (iL f nm none none (some (.int i)))) o g k t)) (by rfl') hd' hn)
 have q:=go (p d) hc
 rw[o9]at q
 exact(show((a8 pg (b9 pg (n+28)) [(41,.loc 1),(21,.int (ob d)),(14,.str nm)] F2.body (H p o g k t)).bind fun p Y=>R.ok (It p.1) Y)=_ from by rw[z4 1 (ve n hd)];exact q)
theorem Ac {ns:List Txt}:U4 (dat 8) (ns.map V.str)=some (ns.map D.str):=by
 induction ns with
 |nil=>rfl
 |cons a r ih=>
  show(U4 (dat 8) (r.map V.str)).map (D.str a:: ·)=_
  rw[ih];rfl
theorem Kx {ns:List Txt}:((ns.map D.str).any fun y=>jC y (D.str nm))=z3 ns nm:=by
 induction ns with
 |nil=>rfl
 |cons a r ih=>exact Oh (r5 a nm ||·) ih
theorem JE {i:Nat} {ns:List Txt} {Y:Hp} (h:Y[i]? =some (.list (ns.map .str))):Iq (.str nm) (.loc i) Y=some (z3 ns nm):=by
 have e:rn (.str nm) (ns.map V.str)=some (z3 ns nm):=by
  show(U4 (dat 8) (ns.map V.str)).map (fun ds=>ds.any fun y=>jC y (D.str nm))=_
  rw[Ac]
  exact Oh some Kx
 show(((Y[i]?).bind (Lg (.str nm))).or _)=_
 rw[h,show(some (O.list (ns.map V.str))).bind (Lg (.str nm))=some (z3 ns nm)from e]
 rfl
noncomputable def mL (d:Nat) (nm:Txt):Fr:=[(34,.loc (rl d)),(14,.str nm)]
theorem GD {i:V} (hi:(∃j,i=.int j)∨∃s,i=.str s) {f:Txt->Option V} (hd:d < 6) (hn:nm∈N5):a8 pg (b9 pg (n+18)) (mL d nm) A7.body (H p (put o d (.map (t9 f nm (some i)))) g k t)=.ok (.ret i,mL d nm) (H p (put o d (.map (t9 f nm (some i)))) g k t):=
 hi.elim (fun⟨i,e⟩=>e▸Y3 (γ:=R (Fl×Fr)) (a:=d) (b:=nm) (f:=fun d nm=>a8 pg (b9 pg (n+18)) (mL d nm) A7.body (H p (put o d (.map (t9 f nm (some (.int i))))) g k t)) (h:=fun d nm=>.ok (.ret (.int i),mL d nm) (H p (put o d (.map (t9 f nm (some (.int i))))) g k t)) (by rfl') (OH hd) hn)
  fun⟨i,e⟩=>e▸Y3 (γ:=R (Fl×Fr)) (a:=d) (b:=nm) (f:=fun d nm=>a8 pg (b9 pg (n+18)) (mL d nm) A7.body (H p (put o d (.map (t9 f nm (some (.str i))))) g k t)) (h:=fun d nm=>.ok (.ret (.str i),mL d nm) (H p (put o d (.map (t9 f nm (some (.str i))))) g k t)) (by rfl') (OH hd) hn
theorem GC {x:O} (hx:x=.emp∨∃f,x=.map (t9 f nm none)) (hd:d < 6) (hn:nm∈N5):a8 pg (b9 pg (n+18)) (mL d nm) (A7.body.take 1) (H p (put o d x) g k t)=.ok (.next,mL d nm) (H p (put o d x) g k t):=
 hx.elim (fun e=>e▸Y3 (γ:=R (Fl×Fr)) (a:=d) (b:=nm) (f:=fun d nm=>a8 pg (b9 pg (n+18)) (mL d nm) (A7.body.take 1) (H p (put o d .emp) g k t)) (h:=fun d nm=>.ok (.next,mL d nm) (H p (put o d .emp) g k t)) (by rfl') (OH hd) hn)
  fun⟨f,e⟩=>e▸Y3 (γ:=R (Fl×Fr)) (a:=d) (b:=nm) (f:=fun d nm=>a8 pg (b9 pg (n+18)) (mL d nm) (A7.body.take 1) (H p (put o d (.map (t9 f nm none))) g k t)) (h:=fun d nm=>.ok (.next,mL d nm) (H p (put o d (.map (t9 f nm none))) g k t)) (by rfl') (OH hd) hn
theorem GF (hd:d < 6) (hn:nm∈N5) (hc:Cl (g d)):(b9 pg (n+16)).ev (mL d nm) (.l5 (.sub (.NT 34) (.lit (V.str [103,111,116]))) 1 [(.NT 14)]) (H p o g k t)=.ok ((fo (g d) nm).getD .none) (H p o g k t):=by
 have go:∀x,Cl x->(b9 pg (n+16)).ev (mL d nm) (.l5 (.sub (.NT 34) (.lit (V.str [103,111,116]))) 1 [(.NT 14)]) (H p o (put g d x) k t)=.ok ((fo x nm).getD .none) (H p o (put g d x) k t):=fun x hx=>by
  induction hx with
  |emp=>exact Y3 (γ:=R V) (a:=d) (b:=nm) (f:=fun d nm=>(b9 pg (n+16)).ev (mL d nm) (.l5 (.sub (.NT 34) (.lit (V.str [103,111,116]))) 1 [(.NT 14)]) (H p o (put g d .emp) k t)) (h:=fun d nm=>.ok ((fo .emp nm).getD .none) (H p o (put g d .emp) k t)) (by rfl') (OH hd) hn
  |map f=>exact Y3 (γ:=R V) (a:=d) (b:=nm) (f:=fun d nm=>(b9 pg (n+16)).ev (mL d nm) (.l5 (.sub (.NT 34) (.lit (V.str [103,111,116]))) 1 [(.NT 14)]) (H p o (put g d (.map f)) k t)) (h:=fun d nm=>.ok ((fo (.map f) nm).getD .none) (H p o (put g d (.map f)) k t)) (by rfl') (OH hd) hn
 have q:=go (g d) hc
 rw[o9]at q
 exact q
theorem GP (h:isQ v=true):(∃j,v=.int j)∨∃s,v=.str s:=aj (G:=fun v=>(∃j,v=.int j)∨∃s,v=.str s) h (fun i=>.inl ⟨i,rfl⟩) fun s=>.inr ⟨s,rfl⟩
noncomputable def MR:X:=.ite (.cmp (.NT 14) [(.R7,(.sub (.NT 34) (.lit (V.str [110,111]))))]) (.l5 (.sub (.NT 34) (.lit (V.str [103,111,116]))) 1 [(.NT 14)]) (.lit V.none)
theorem GB (ww:Wd p o g k t N) (hd:d < 6) (hn:nm∈N5):(b9 pg (n+18)).ev (mL d nm) MR (H p o g k t)=.ok ((bif z3 (N d) nm then none else fo (g d) nm:Option V).getD .none) (H p o g k t):=by
 have ek:(b9 pg (n+16)).ev (mL d nm) (.sub (.NT 34) (.lit (V.str [110,111]))) (H p o g k t)=.ok (.loc (k d)) (H p o g k t):=M1 (β:=R V) (f:=fun d=>(b9 pg (n+16)).ev (mL d nm) (.sub (.NT 34) (.lit (V.str [110,111]))) (H p o g k t)) (h:=fun d=>.ok (.loc (k d)) (H p o g k t)) (by rfl') hd
 have eh:Iq (.str nm) (.loc (k d)) (H p o g k t)=some (z3 (N d) nm):=JE (Kw ww hd)
 have hc:Z0 (b9 pg (n+16)) (mL d nm) (.str nm) [(.R7,(.sub (.NT 34) (.lit (V.str [110,111]))))] (H p o g k t)=.ok (!z3 (N d) nm) (H p o g k t):=v8 ek (by
  show(b8 74 ((Iq (.str nm) (.loc (k d)) (H p o g k t)).map not) (H p o g k t)).bind _=_
  rw[eh];rfl)
 have ht:(b9 pg (n+17)).tr (mL d nm) (.cmp (.NT 14) [(.R7,(.sub (.NT 34) (.lit (V.str [110,111]))))]) (H p o g k t)=.ok (!z3 (N d) nm) (H p o g k t):=iC (n:=n+16) (v:=.str nm) rfl hc
 cases e:z3 (N d) nm with
 |true=>rw[e]at ht;exact v8 ht rfl
 |false=>
  rw[e]at ht
  exact v8 (a:=true) (c7:=H p o g k t) ht (GF (n+1) hd hn (ww.g d hd))
theorem CK (ww:Wd p o g k t N) (hd:d < 6) (hn:nm∈N5) (ha:∀v,fo (o d) nm=some v->isQ v=true) (hb:∀v,fo (g d) nm=some v->isQ v=true):
 (b9 pg (n+20)).run 51 [.loc (rl d),.str nm] (H p o g k t)=.ok ((ai (fo (o d) nm) (fo (g d) nm) (z3 (N d) nm)).getD .none) (H p o g k t):=by
 have hl:dw ((bif z3 (N d) nm then none else fo (g d) nm:Option V).getD .none)=false:=by
  induction z3 (N d) nm with
  |true=>rfl
  |false=>
   show dw ((fo (g d) nm).getD .none)=false
   cases e:fo (g d) nm with
   |none=>rfl
   |some v=>exact aj (G:=fun v=>dw v=false) (hb v e) (fun J=>rfl) fun J=>rfl
 have e2:a8 pg (b9 pg (n+18)) (mL d nm) (A7.body.drop 1) (H p o g k t)=.ok (.ret ((bif z3 (N d) nm then none else fo (g d) nm:Option V).getD .none),mL d nm) (H p o g k t):=s9 (B1 (e:=MR) rfl (GB n ww hd hn) hl)
 have U1:∀{x:O},put o d x=o->(x=.emp∨∃f,x=.map (t9 f nm none))->(b9 pg (n+20)).run 51 [.loc (rl d),.str nm] (H p o g k t)=.ok ((bif z3 (N d) nm then none else fo (g d) nm:Option V).getD .none) (H p o g k t):=fun{x} ex hx=>by
  have e1:=GC (p:=p) (o:=o) (g:=g) (k:=k) (t:=t) n hx hd hn
  rw[ex]at e1
  exact t8 (n:=n+19) (fd:=A7) (m:=mL d nm) rfl rfl ((z4 1 e1).trans e2)
 induction ho:o d with
 |map f=>
  cases e:f nm with
  |none=>exact(U1 (x:=.map (t9 f nm none)) (by rw[←e,E5,←ho];exact o9) (.inr ⟨f,rfl⟩)).trans (by rw[show fo (.map f) nm=none from e];rfl)
  |some v=>
   have ex:put o d (.map (t9 f nm (some v)))=o:=by rw[←e,E5,←ho];exact o9
   have q:=GD (p:=p) (o:=o) (g:=g) (k:=k) (t:=t) (f:=f) n (GP (ha v (by rw[ho];exact e))) hd hn
   rw[ex]at q
   exact(t8 (n:=n+19) (fd:=A7) (m:=mL d nm) rfl rfl q).trans (by rw[show fo (.map f) nm=some v from e];rfl)
 |emp=>exact U1 (x:=.emp) (by rw[←ho];exact o9) (.inl rfl)
 |_=>exact absurd (ho▸ww.o d hd) nofun
end
noncomputable def up (d:Nat):Nat:=[6,0,1,2,1,0].getD d 6
noncomputable def ht (d:Nat):Nat:=[1,2,3,4,3,2].getD d 0
noncomputable def qR (d:Nat):Int:=bif Nat.blt d 6 then ob d else 0
inductive Sr (e:Nat->Option V):Nat->Nat->Prop
 |top:Sr e 6 6
 |here {d:Nat} {v:V}:d < 6->e d=some v->Sr e d d
 |up {d s:Nat}:d < 6->e d=none->Sr e (up d) s->Sr e d s
theorem LF {α:Type} {f h:Nat->α} {d:Nat} (e:(List.range 6).map f=(List.range 6).foldr (fun a r=>h a::r) []) (hd:d < 6):f d=h d:=M1 e hd
theorem cZ {d:Nat} (hd:d < 6):ht d=ht (up d)+1:=M1 (f:=ht) (h:=fun d=>ht (up d)+1) rfl hd
theorem eQ {d:Nat} (hd:d < 6):up d < 7:=NY (M1 (f:=fun d=>Nat.blt (up d) 7) (h:=fun J=>true) rfl hd)
theorem cg {d:Nat} (hd:d < 6):qR d=ob d:=by unfold qR;rw[show Nat.blt d 6=true from Oq hd];rfl
theorem yb (e:Nat->Option V) {d:Nat}:∀{j:Nat},ht d≤j->d < 7->∃s,Sr e d s:=fun{j}=>by
 induction j generalizing d with
 |zero=>
  intro h hd
  rcases Nat.lt_or_ge d 6 with h6|h6
  ·rw[cZ h6]at h;exact absurd h (Nat.not_succ_le_zero _)
  ·rw[show d=6 from Nat.le_antisymm (Nat.le_of_lt_succ hd) h6];exact⟨6,.top⟩
 |succ j ih=>
  intro h hd
  rcases Nat.lt_or_ge d 6 with h6|h6
  ·induction q:e d with
   |some v=>exact⟨d,.here h6 q⟩
   |none=>exact(ih (by rw[cZ h6]at h;exact Nat.le_of_succ_le_succ h) (eQ h6)).elim fun s hs=>⟨s,.up h6 q hs⟩
  ·rw[show d=6 from Nat.le_antisymm (Nat.le_of_lt_succ hd) h6];exact⟨6,.top⟩
theorem fe {e:Nat->Option V} {d s:Nat} (h:Sr e d s):s < 7∧(s < 6->∃v,e s=some v):=by
 induction h with
 |top=>exact⟨by decide,fun h=>absurd h (by decide)⟩
 |here h q=>exact⟨Nat.lt_succ_of_lt h,fun J=>⟨_,q⟩⟩
 |up h _ _ ih=>exact ih
variable {s:Nat}
section
variable (n:Nat)
noncomputable abbrev eN (p:Nat->O) (nm:Txt) (d:Nat):Option V:=cb (fo (p d)) nm
noncomputable abbrev eV (o g:Nat->O) (N:Nat->List Txt) (nm:Txt) (d:Nat):Option V:=ai (fo (o d) nm) (fo (g d) nm) (z3 (N d) nm)
theorem Cf {f a b:Txt->Option V} {ns:List Txt} (D:Dir f a b ns) (hn:nm∈V7):cN nm (cb f nm) (ai (a nm) (b nm) (z3 ns nm)):=by
 have h1:=D.own nm hn
 have h2:=D.got nm hn
 unfold cb ai
 rw[D.JD nm hn]
 generalize f nm=x1,a nm=y1 at h1
 induction h1 with
 |some i v A=>exact .some i v A
 |none=>induction z3 ns nm with
  |true=>exact .none
  |false=>exact h2
theorem yI {f a b:Txt->Option V} {ns:List Txt} (D:Dir f a b ns) (hn:nm∉V7) (h36:nm.any (Nat.beq 36)=false):cN nm (cb f nm) (ai (a nm) (b nm) (z3 ns nm)):=by
 have no:∀{α:Type} {z:Option α},(z≠none->False)->z=none:=fun{α z} h=>by
  induction z with
  |none=>rfl
  |some _=>exact(h nofun).elim
 have e1:f nm=none:=no fun h=>(D.keys nm h).elim fun m q=>q.2.elim (fun e=>hn (e▸q.1)) fun e=>e.elim (fun e=>Bool.noConfusion (h36.symm.trans (e▸X9 rfl))) fun e=>Bool.noConfusion (h36.symm.trans (e▸X9 rfl))
 have e2:f (nm++u4)=none:=no fun h=>(D.keys _ h).elim fun m q=>q.2.elim (fun e=>cX q.1 e.symm) fun e=>e.elim (fun e=>P4 e.symm) fun e=>hn (List.append_cancel_right e▸q.1)
 have e3:a nm=none:=no fun h=>hn (D.ka nm h)
 have e4:b nm=none:=no fun h=>hn (D.kg nm h)
 unfold cb ai
 rw[e1,e2,e3,e4]
 induction c3 (f (nm++y3))<;>induction z3 ns nm<;>exact .none
theorem S8 (x:Wk c p o g k t N) (hd:d < 6) (hn:nm∈N5):cN nm (eN p nm d) (eV o g N nm d):=
 (OG hn).elim (fun h=>Cf (x.d d hd) h) fun h=>(Of h).elim (fun e=>e▸yI (x.d d hd) (by decide) rfl) fun e=>Og e▸yI (x.d d hd) (by decide) rfl
noncomputable def mS (d:Nat) (nm:Txt):Fr:=[(41,.loc 1),(21,.int (qR d)),(14,.str nm)]
noncomputable def BH:X:=.R5 [(.cmp (.NT 21) [(.ne,(.lit (V.int 0)))]),(.cmp (.call (.NT 99) [(.NT 41),(.NT 21),(.NT 14)]) [(.is,(.lit V.none))])]
noncomputable def BJ:List S:=[.assign (.NT 21) (.attr (.call (.NT 55) [(.NT 41),(.NT 21)]) 29)]
theorem mZ (x:Wk c p o g k t N) (hd:d < 6) (hn:nm∈N5):(b9 pg (n+34)).tr (mS d nm) BH (H p o g k t)=.ok (!c3 (eV o g N nm d)) (H p o g k t):=by
 have h1:(b9 pg (n+33)).tr (mS d nm) (.cmp (.NT 21) [(.ne,(.lit (V.int 0)))]) (H p o g k t)=.ok true (H p o g k t):=M1 (β:=R Bool) (f:=fun d=>(b9 pg (n+33)).tr (mS d nm) (.cmp (.NT 21) [(.ne,(.lit (V.int 0)))]) (H p o g k t)) (h:=fun d=>.ok true (H p o g k t)) (by rfl') hd
 have ho:=qN (o:=o) (g:=g) (k:=k) (t:=t) (n+1) hd hn (x.w.p d hd)
 have h2:(b9 pg (n+33)).tr (mS d nm) (.cmp (.call (.NT 99) [(.NT 41),(.NT 21),(.NT 14)]) [(.is,(.lit V.none))]) (H p o g k t)=.ok (!c3 (eV o g N nm d)) (H p o g k t):=by
  refine iC (n:=n+32) (v:=(eN p nm d).getD .none) (j0 (n:=n+31) (k:=38) (vs:=[.loc 1,.int (ob d),.str nm]) rfl (by rw[←cg hd];rfl) ho) ?_
  have hp:=S8 x hd hn
  generalize eN p nm d=a,eV o g N nm d=b at hp
  induction hp<;>rfl
 have e0:(b9 pg (n+34)).tr (mS d nm) BH (H p o g k t)=((b9 pg (n+33)).tr (mS d nm) (.cmp (.NT 21) [(.ne,(.lit (V.int 0)))]) (H p o g k t)).bind fun t Y=>bif t == true then(((b9 pg (n+33)).tr (mS d nm) (.cmp (.call (.NT 99) [(.NT 41),(.NT 21),(.NT 14)]) [(.is,(.lit V.none))]) Y).bind fun t Y=>bif t == true then .ok true Y else .ok t Y)else .ok t Y:=rfl
 rw[e0,h1]
 refine v8 (a:=true) (c7:=H p o g k t) rfl (v8 h2 ?_)
 induction c3 (eV o g N nm d)<;>rfl
theorem xZ (hd:d < 6):a8 pg (b9 pg (n+33)) (mS d nm) BJ (H p o g k t)=.ok (.next,mS (up d) nm) (H p o g k t):=M1 (β:=R (Fl×Fr)) (f:=fun d=>a8 pg (b9 pg (n+33)) (mS d nm) BJ (H p o g k t)) (h:=fun d=>.ok (.next,mS (up d) nm) (H p o g k t)) (by rfl') hd
theorem V5 {r:Ev} {m m':Fr} {Y c7 u3:Hp} {a:X} {b:List S} {j:Nat} {z:R (Fl×Fr)} (h:r.tr m a Y=.ok true c7) (h2:r.Y9 m b c7=.ok (.next,m') u3) (h3:G4 r a b j m' u3=z):G4 r a b (j+1) m Y=z:=by
 show((r.tr m a Y).z6).bind _=_
 rw[h]
 show((r.Y9 m b c7).z6).bind _=_
 rw[h2]
 exact h3
theorem H3 {r:Ev} {m:Fr} {Y c7:Hp} {a:X} {b:List S} {j:Nat} (h:r.tr m a Y=.ok false c7):G4 r a b (j+1) m Y=.ok (.next,m) c7:=by
 show((r.tr m a Y).z6).bind _=_
 rw[h];rfl
theorem xY (x:Wk c p o g k t N) (hn:nm∈N5) (h:Sr (eV o g N nm) d s):∀{j:Nat},ht d≤j->G4 (b9 pg (n+34)) BH BJ (j+1) (mS d nm) (H p o g k t)=.ok (.next,mS s nm) (H p o g k t):=by
 induction h with
 |top=>exact fun J=>H3 (by rfl')
 | @here d v hd q=>exact fun J=>H3 ((mZ n x hd hn).trans (by rw[q];rfl))
 | @up d s hd q _ ih=>
  intro j hj
  rw[cZ hd]at hj
  induction j with
  |zero=>exact absurd hj (Nat.not_succ_le_zero _)
  |succ j=>exact V5 ((mZ n x hd hn).trans (by rw[q];rfl)) (xZ n hd) (ih (Nat.le_of_succ_le_succ hj))
theorem uT (x:Wk c p o g k t N) (hd:d < 6) (hn:nm∈N5) (h:Sr (eV o g N nm) d s):(b9 pg (n+36)).run 42 [.loc 1,.int (ob d),.str nm] (H p o g k t)=.ok (.int (qR s)) (H p o g k t):=by
 refine t8 (n:=n+35) (fd:=da) (m:=mS d nm) (p:=(.ret (.int (qR s)),mS s nm)) rfl (by rw[mS,cg hd];rfl) ?_
 exact(c6 (P:=pg) (r:=b9 pg (n+34)) (s:=.y6 BH BJ) (xY n x hn h (j:=19) (Oe (NY (M1 (f:=fun d=>Nat.ble (ht d) 19) (h:=fun J=>true) rfl hd)) (OF _)))).trans (s9 (B1 rfl rfl rfl))
end
variable {j:Nat}
section
variable {z:R (Fl×Fr)} {w:V} {a:X} {b:List S}
theorem Fo (he:G7 (b9 P n) m es Y=.ok vs c7) (hz:vs.length≤1000):(b9 P (n+1)).ev m (.tuple es) Y=.ok (.tup vs) c7:=by
 refine v8 he ?_
 show(b8 97 (N1 vs) c7).bind _=_
 rw[show N1 vs=some vs from by unfold N1 gd;rw[Oq hz];rfl]
 rfl
theorem Bm {r:Ev} (h:r.tr m a Y=.ok true c7) (h2:r.Y9 m b c7=.ok (.ret w,m') u3):G4 r a b (j+1) m Y=.ok (.ret w,m') u3:=by
 show((r.tr m a Y).z6).bind _=_
 rw[h]
 show((r.Y9 m b c7).z6).bind _=_
 rw[h2];rfl
end
noncomputable def BU:Txt:=[100,101,102,97,117,108,116]
noncomputable def ud (nm:Txt):V:=match(b9 pg 60).ev [(41,.loc 1),(14,.str nm),(82,I7 nm)] (.call (.NT 97) [(.NT 14),(.attr (.NT 82) 65)]) []with
 |.ok v _=>v
 |_=>.none
noncomputable def mx (v:V):Bool:=isQ v ||(F7 v).isSome
noncomputable def pP (s:Nat):Txt:=bif Nat.blt s 6 then Bb s else BU
variable {z:V}
section
variable (n:Nat)
theorem zj (n:Nat) (Y:Hp) (hn:nm∈N5):(b9 pg (n+50)).run 30 [.str nm] Y=.ok (I7 nm) Y:=e8 (β:=R V) (a:=nm) (f:=fun nm=>(b9 pg (n+50)).run 30 [.str nm] Y) (h:=fun nm=>.ok (I7 nm) Y) (by rfl') hn
theorem zk (hn:nm∈N5):freeze (I7 nm)=some (I7 nm):=e8 (β:=Option V) (a:=nm) (f:=fun nm=>freeze (I7 nm)) (h:=fun nm=>some (I7 nm)) (by rfl') hn
theorem HA (hn:nm∈N5):mx (ud nm)=true:=e8 (β:=Bool) (a:=nm) (f:=fun nm=>mx (ud nm)) (h:=fun nm=>true) (by rfl') hn
noncomputable def mP (d s:Nat) (nm:Txt):Fr:=[(41,.loc 1),(21,.int (ob d)),(14,.str nm),(82,I7 nm),(100,.int (qR s))]
theorem Kg (n:Nat) {x:V} {Y:Hp} (hn:nm∈N5):a8 pg (b9 pg (n+65)) [(41,.loc 1),(21,x),(14,.str nm),(82,I7 nm),(100,.int 0)] (D9.body.drop 2) Y=.ok (.ret (.tup [ud nm,.str BU]),[(41,.loc 1),(21,x),(14,.str nm),(82,I7 nm),(100,.int 0)]) Y:=
 e8 (β:=R (Fl×Fr)) (a:=nm) (f:=fun nm=>a8 pg (b9 pg (n+65)) [(41,.loc 1),(21,x),(14,.str nm),(82,I7 nm),(100,.int 0)] (D9.body.drop 2) Y) (h:=fun nm=>.ok (.ret (.tup [ud nm,.str BU]),[(41,.loc 1),(21,x),(14,.str nm),(82,I7 nm),(100,.int 0)]) Y) (by rfl') hn
theorem yt (n:Nat) {x y:V} {Y:Hp} (hs:s < 6):a8 pg (b9 pg (n+65)) [(41,.loc 1),(21,x),(14,.str nm),(82,y),(100,.int (qR s))] ((D9.body.drop 2).take 1) Y=.ok (.next,[(41,.loc 1),(21,x),(14,.str nm),(82,y),(100,.int (qR s))]) Y:=
 M1 (β:=R (Fl×Fr)) (f:=fun s=>a8 pg (b9 pg (n+65)) [(41,.loc 1),(21,x),(14,.str nm),(82,y),(100,.int (qR s))] ((D9.body.drop 2).take 1) Y) (h:=fun s=>.ok (.next,[(41,.loc 1),(21,x),(14,.str nm),(82,y),(100,.int (qR s))]) Y) (by rfl') hs
noncomputable def pV (o g:Nat->O) (N:Nat->List Txt) (z:V) (nm:Txt) (s:Nat):V:=bif Nat.blt s 6 then(eV o g N nm s).getD .none else z
theorem bj (h:isQ v=true):freeze v=some v:=aj (G:=fun v=>freeze v=some v) h (fun J=>rfl) fun J=>rfl
theorem jY (x:Wk c p o g k t N) (hd:d < 6) (hn:nm∈N5) (h:Sr (eV o g N nm) d s):(b9 pg (n+67)).run 43 [.loc 1,.int (ob d),.str nm] (H p o g k t)=.ok (.tup [pV o g N (ud nm) nm s,.str (pP s)]) (H p o g k t):=by
 refine t8 (n:=n+66) (fd:=D9) (m:=[(41,.loc 1),(21,.int (ob d)),(14,.str nm)]) (p:=(.ret (.tup [pV o g N (ud nm) nm s,.str (pP s)]),mP d s nm)) rfl rfl ?_
 refine(c6 (m':=[(41,.loc 1),(21,.int (ob d)),(14,.str nm),(82,I7 nm)]) (m3 (j0 (n:=n+64) (k:=30) (vs:=[.str nm]) rfl rfl (zj (n+14) _ hn)) (D3 (zk hn)))).trans ?_
 refine(c6 (m':=mP d s nm) (m3 (j0 (n:=n+64) (k:=42) (vs:=[.loc 1,.int (ob d),.str nm]) rfl rfl (uT (n+28) x hd hn h)) (D3 (v:=.int (qR s)) (w:=.int (qR s)) rfl))).trans ?_
 rcases Nat.lt_or_ge s 6 with hs|hs
 ·refine(z4 (b:=D9.body.drop 2) 1 (yt n hs)).trans (s9 (B1 rfl (Fo (n:=n+64) (vs:=[pV o g N (ud nm) nm s,.str (pP s)]) ?_ (by show 2≤1000;decide)) rfl))
  have e6:Nat.blt s 6=true:=Oq hs
  have ho:(b9 pg (n+62)).run 38 [.loc 1,.int (ob s),.str nm] (H p o g k t)=.ok ((eN p nm s).getD .none) (H p o g k t):=qN (n+32) hs hn (x.w.p s hs)
  have hp:=Ce (p:=p) (o:=o) (g:=g) (k:=k) (t:=t) (n+28) hs
  obtain⟨v,hv⟩:=(fe h).2 hs
  have hq:=S8 x hs hn
  unfold pV pP
  rw[e6]
  show G7 _ _ _ _=.ok [(eV o g N nm s).getD .none,.str (Bb s)] _
  rw[hv]at hq⊢
  generalize eN p nm s=a at hq ho
  cases hq with
  |some i v A=>exact i5 (j0 (n:=n+63) (k:=32) rfl (i5 (I2 (n:=n+62) (v:=.str nm) (w:=.str nm) rfl rfl) rfl (i5 (j0 (n:=n+62) (k:=38) (vs:=[.loc 1,.int (ob s),.str nm]) rfl (by rw[←cg hs];rfl) ho) rfl rfl)) (A.val (n+3) _)) (bj A.q) (i5 (j0 (n:=n+63) (k:=24) (vs:=[.loc 1,.int (ob s)]) rfl (by rw[←cg hs];rfl) hp) rfl rfl)
 ·have e:s=6:=Nat.le_antisymm (Nat.le_of_lt_succ (fe h).1) hs
  subst e
  exact Kg n hn
end
noncomputable def Jz (d:Nat):Int:=bif Nat.blt d 6 then Int.ofNat d else -1
theorem zq {d:Nat} (hd:d < 6):Jz d=Int.ofNat d:=by unfold Jz;rw[show Nat.blt d 6=true from Oq hd];rfl
noncomputable def hZ (nm:Txt):V:=match(b9 pg 60).run 49 [.str nm] []with
 |.ok v _=>v
 |_=>.none
section
variable (n:Nat)
theorem LW (n:Nat) {Y:Hp} (hn:nm∈N5):(b9 pg (n+60)).run 49 [.str nm] Y=.ok (hZ nm) Y:=e8 (β:=R V) (a:=nm) (f:=fun nm=>(b9 pg (n+60)).run 49 [.str nm] Y) (h:=fun nm=>.ok (hZ nm) Y) (by rfl') hn
theorem GH (hn:nm∈N5):mx (hZ nm)=true:=e8 (β:=Bool) (a:=nm) (f:=fun nm=>mx (hZ nm)) (h:=fun nm=>true) (by rfl') hn
theorem fD {a b:Option V} (h:cN nm a b) (e:b=some v):isQ v=true:=by
 induction h with
 |none=>cases e
 |some i v A=>cases e;exact A.q
theorem sW (x:Wk c p o g k t N) (hd:d < 6):(∀v,fo (o d) nm=some v->isQ v=true)∧∀v,fo (g d) nm=some v->isQ v=true:=
 ⟨fun v e=>fD ((x.d d hd).own nm ((x.d d hd).ka nm (by rw[e];exact nofun))) e,fun v e=>fD ((x.d d hd).got nm ((x.d d hd).kg nm (by rw[e];exact nofun))) e⟩
theorem Er (x:Wk c p o g k t N) (hd:d < 6) (hn:nm∈N5):(b9 pg (n+20)).run 51 [.loc (rl d),.str nm] (H p o g k t)=.ok ((eV o g N nm d).getD .none) (H p o g k t):=CK n x.w hd hn (sW x hd).1 (sW x hd).2
inductive Cy:Fr->Prop
 |nil:Cy []
 |one:Cy [(94,.none)]
noncomputable def mC (d:Nat) (nm:Txt) (y:Fr):Fr:=[(15,.loc 8),(21,.int (Jz d)),(14,.str nm)]++y
noncomputable def wF:X:=.cmp (.NT 21) [(.ge,(.lit (V.int 0)))]
noncomputable def iB:List S:=match F3.body with
 |.y6 _ b::_=>b
 |_=>[]
theorem uk (x:Wk c p o g k t N) (hd:d < 6) (hn:nm∈N5) {y:Fr} (hy:Cy y) (hz:freeze ((eV o g N nm d).getD .none)=some ((eV o g N nm d).getD .none)):a8 pg (b9 pg (n+24)) (mC d nm y) (iB.take 1) (H p o g k t)=.ok (.next,mC d nm [(94,(eV o g N nm d).getD .none)]) (H p o g k t):=by
 have h51:=Er (n+3) x hd hn
 have he:∀y,Cy y->G7 (b9 pg (n+23)) (mC d nm y) [(.sub (.NT 15) (.NT 21)),(.NT 14)] (H p o g k t)=.ok [.loc (rl d),.str nm] (H p o g k t):=fun y hy=>by
  induction hy with
  |nil=>exact M1 (β:=R (List V)) (f:=fun d=>G7 (b9 pg (n+23)) (mC d nm []) [(.sub (.NT 15) (.NT 21)),(.NT 14)] (H p o g k t)) (h:=fun d=>.ok [.loc (rl d),.str nm] (H p o g k t)) (by rfl') hd
  |one=>exact M1 (β:=R (List V)) (f:=fun d=>G7 (b9 pg (n+23)) (mC d nm [(94,.none)]) [(.sub (.NT 15) (.NT 21)),(.NT 14)] (H p o g k t)) (h:=fun d=>.ok [.loc (rl d),.str nm] (H p o g k t)) (by rfl') hd
 have h1:(b9 pg (n+24)).ev (mC d nm y) (.call (.NT 116) [(.sub (.NT 15) (.NT 21)),(.NT 14)]) (H p o g k t)=.ok ((eV o g N nm d).getD .none) (H p o g k t):=j0 (n:=n+23) (k:=51) (by induction hy<;>rfl) (he y hy) h51
 have h2:store pg (b9 pg (n+24)) (.NT 94) ((eV o g N nm d).getD .none) (mC d nm y) (H p o g k t)=.ok (mC d nm [(94,(eV o g N nm d).getD .none)]) (H p o g k t):=(D3 hz).trans (by induction hy<;>rfl)
 exact(c6 (m3 h1 h2)).trans g5
theorem cnt_none (n:Nat) (hd:d < 6):a8 pg (b9 pg (n+24)) (mC d nm [(94,.none)]) (iB.drop 1) (H p o g k t)=.ok (.next,mC (up d) nm [(94,.none)]) (H p o g k t):=
 M1 (β:=R (Fl×Fr)) (f:=fun d=>a8 pg (b9 pg (n+24)) (mC d nm [(94,.none)]) (iB.drop 1) (H p o g k t)) (h:=fun d=>.ok (.next,mC (up d) nm [(94,.none)]) (H p o g k t)) (by rfl') hd
theorem Al (n:Nat) (hd:d < 6) (hq:isQ v=true):a8 pg (b9 pg (n+24)) (mC d nm [(94,v)]) (iB.drop 1) (H p o g k t)=.ok (.ret (.tup [v,.str (Bb d)]),mC d nm [(94,v)]) (H p o g k t):=
 aj (G:=fun v=>a8 pg (b9 pg (n+24)) (mC d nm [(94,v)]) (iB.drop 1) (H p o g k t)=.ok (.ret (.tup [v,.str (Bb d)]),mC d nm [(94,v)]) (H p o g k t)) hq
  (fun i=>M1 (β:=R (Fl×Fr)) (f:=fun d=>a8 pg (b9 pg (n+24)) (mC d nm [(94,.int i)]) (iB.drop 1) (H p o g k t)) (h:=fun d=>.ok (.ret (.tup [.int i,.str (Bb d)]),mC d nm [(94,.int i)]) (H p o g k t)) (by rfl') hd)
  fun i=>M1 (β:=R (Fl×Fr)) (f:=fun d=>a8 pg (b9 pg (n+24)) (mC d nm [(94,.str i)]) (iB.drop 1) (H p o g k t)) (h:=fun d=>.ok (.ret (.tup [.str i,.str (Bb d)]),mC d nm [(94,.str i)]) (H p o g k t)) (by rfl') hd
theorem pb (n:Nat) (hd:d < 6) {y:Fr} (hy:Cy y):(b9 pg (n+25)).tr (mC d nm y) wF (H p o g k t)=.ok true (H p o g k t):=by
 induction hy with
 |nil=>exact M1 (β:=R Bool) (f:=fun d=>(b9 pg (n+25)).tr (mC d nm []) wF (H p o g k t)) (h:=fun d=>.ok true (H p o g k t)) (by rfl') hd
 |one=>exact M1 (β:=R Bool) (f:=fun d=>(b9 pg (n+25)).tr (mC d nm [(94,.none)]) wF (H p o g k t)) (h:=fun d=>.ok true (H p o g k t)) (by rfl') hd
noncomputable def HH (o g:Nat->O) (N:Nat->List Txt) (nm:Txt) (s:Nat) (m:Fr) (Y:Hp):R (Fl×Fr):=.ok (bif Nat.blt s 6 then .ret (.tup [(eV o g N nm s).getD .none,.str (Bb s)])else .next,m) Y
theorem Am (x:Wk c p o g k t N) (hn:nm∈N5) (h:Sr (eV o g N nm) d s):∀{j:Nat} {y:Fr},ht d≤j->Cy y->∃m,(s=6->∃y',Cy y'∧m=mC 6 nm y')∧G4 (b9 pg (n+25)) wF iB (j+1) (mC d nm y) (H p o g k t)=HH o g N nm s m (H p o g k t):=by
 induction h with
 |top=>exact fun{j y} J hy=>⟨mC 6 nm y,fun J=>⟨y,hy,rfl⟩,H3 (by induction hy<;>rfl')⟩
 | @here d v hd q=>
  intro j y _ hy
  have hq:isQ v=true:=fD (S8 x hd hn) q
  have h1:=uk n x hd hn hy (by rw[q];exact bj hq)
  rw[q]at h1
  refine⟨mC d nm [(94,v)],fun e=>absurd hd (by rw[e];decide),?_⟩
  unfold HH
  rw[show Nat.blt d 6=true from Oq hd,q]
  exact Bm (pb n hd hy) ((z4 1 h1).trans (Al n hd hq))
 | @up d s hd q _ ih=>
  intro j y hj hy
  rw[cZ hd]at hj
  have h1:=uk n x hd hn hy (by rw[q];rfl)
  rw[q]at h1
  induction j with
  |zero=>exact absurd hj (Nat.not_succ_le_zero _)
  |succ j=>exact(ih (y:=[(94,.none)]) (Nat.le_of_succ_le_succ hj) .one).elim fun m hm=>⟨m,hm.1,V5 (pb n hd hy) ((z4 1 h1).trans (cnt_none n hd)) hm.2⟩
theorem zF (hd:d < 6):ht d≤19:=NY (M1 (f:=fun d=>Nat.ble (ht d) 19) (h:=fun J=>true) rfl hd)
theorem ak {G:V->Prop} (h:mx v=true) (h0:G .none) (h1:∀i,G (.int i)) (h2:∀s,G (.str s)):G v:=by
 cases v with
 |none=>exact h0
 |int i=>exact h1 i
 |str s=>exact h2 s
 |_=>exact Bool.noConfusion h
theorem kO (h:mx v=true):freeze v=some v:=ak (G:=fun v=>freeze v=some v) h rfl (fun J=>rfl) fun J=>rfl
theorem cC (x:Wk c p o g k t N) (hd:d < 6) (hn:nm∈N5) (h:Sr (eV o g N nm) d s):(b9 pg (n+65)).run 52 [.loc 8,.int (Int.ofNat d),.str nm] (H p o g k t)=.ok (.tup [pV o g N (hZ nm) nm s,.str (pP s)]) (H p o g k t):=by
 obtain⟨m,hm,e⟩:=Am (n+38) x hn h (zF hd) .nil
 have eb:U7 F3 [.loc 8,.int (Int.ofNat d),.str nm]=some (mC d nm []):=by rw[←zq hd];rfl
 unfold HH at e
 rcases Nat.lt_or_ge s 6 with hs|hs
 ·have e6:Nat.blt s 6=true:=Oq hs
  unfold pV pP
  rw[e6]at e⊢
  exact t8 (n:=n+64) (fd:=F3) (m:=mC d nm []) rfl eb (s9 (P:=pg) (r:=b9 pg (n+63)) (s:=.y6 wF iB) e)
 ·have e6:s=6:=Nat.le_antisymm (Nat.le_of_lt_succ (fe h).1) hs
  subst e6
  obtain⟨y,hy,rfl⟩:=hm rfl
  refine t8 (n:=n+64) (fd:=F3) (m:=mC d nm []) rfl eb ((c6 (P:=pg) (r:=b9 pg (n+63)) (s:=.y6 wF iB) e).trans (s9 (B1 rfl (Fo (n:=n+62) (vs:=[hZ nm,.str BU]) (i5 (j0 (n:=n+61) (k:=49) (vs:=[.str nm]) ?_ ?_ (LW (n+1) hn)) (kO (GH hn)) rfl) (by show 2≤1000;decide)) rfl)))
  ·induction hy<;>rfl
  ·induction hy<;>rfl
end
noncomputable def kN (d:Nat):List Nat:=[[1,5],[2,4],[3]].getD d []
noncomputable def dN (l:List Nat):List V:=l.map fun d=>.int (ob d)
noncomputable def pre (e:Nat->Bool):Nat->List Nat->List Nat->List Nat
 |0,acc,_=>acc
 |_+1,acc,[]=>acc
 |f+1,acc,d::w=>bif e d then pre e f acc w else pre e f (acc++[d]) (kN d++w)
noncomputable def dW:Nat->List Nat->List Nat->List (List Nat×List Nat)
 |0,acc,w=>[(acc,w)]
 |_+1,acc,[]=>[(acc,[])]
 |f+1,acc,d::w=>(acc,d::w)::(dW f acc w++dW f (acc++[d]) (kN d++w))
noncomputable def Iw:List (List Nat×List Nat):=(List.range 6).flatMap fun pl=>dW 19 [] (kN pl)
noncomputable def uN (w:List Nat):Nat:=w.foldr (fun d n=>[6,4,2,1,1,1].getD d 1+n) 0
theorem dG {a b:List Nat}:uN (a++b)=uN a+uN b:=by
 induction a with
 |nil=>exact(Nat.zero_add _).symm
 |cons x a ih=>exact(Oh (_+ ·) ih).trans (Nat.add_assoc _ _ _).symm
noncomputable def tB:List S:=match O7.body with
 |_::_::.y6 _ b::_=>b
 |_=>[]
noncomputable def tT:X:=.cmp (.NT 107) [(.ne,(.list []))]
noncomputable def tC:X:=.cmp (.call (.NT 99) [(.NT 41),(.NT 110),(.NT 14)]) [(.is,(.lit V.none))]
noncomputable def bT (pl:Nat) (nm:Txt) (acc w:List Nat) (y:Fr):Fr:=[(41,.loc 1),(21,.int (ob pl)),(14,.str nm),(107,.g6 (dN w)),(94,.g6 (dN acc))]++y
inductive Ty:Fr->Prop
 |nil:Ty []
 |one (i:Int):Ty [(110,.int i)]
noncomputable def vH {α:Type} (l:List α):Bool:=List.rec false (fun J J J=>true) l
variable {y:Fr} {pl:Nat}
section
variable {acc w:List Nat} (n:Nat)
theorem jR (hs:(acc,w)∈Iw) (hy:Ty y):(b9 pg (n+60)).tr (bT pl nm acc w y) tT Y=.ok (vH w) Y:=by
 induction hy with
 |nil=>exact e8 (β:=R Bool) (a:=(acc,w)) (f:=fun q=>(b9 pg (n+60)).tr (bT pl nm q.1 q.2 []) tT Y) (h:=fun q=>.ok (vH q.2) Y) (by rfl') hs
 |one i=>exact e8 (β:=R Bool) (a:=(acc,w)) (f:=fun q=>(b9 pg (n+60)).tr (bT pl nm q.1 q.2 [(110,.int i)]) tT Y) (h:=fun q=>.ok (vH q.2) Y) (by rfl') hs
theorem IG (hs:(acc,d::w)∈Iw) (hy:Ty y):a8 pg (b9 pg (n+59)) (bT pl nm acc (d::w) y) (tB.take 1) Y=.ok (.next,bT pl nm acc w [(110,.int (ob d))]) Y:=by
 have go:∀y,Ty y->(bif vH (acc,d::w).2 then a8 pg (b9 pg (n+59)) (bT pl nm acc (d::w) y) (tB.take 1) Y else .no 0)=(bif vH (acc,d::w).2 then .ok (.next,bT pl nm acc (d::w).tail [(110,.int (ob ((d::w).headD 0)))]) Y else .no 0:R (Fl×Fr)):=fun y hy=>by
  induction hy with
  |nil=>exact e8 (β:=R (Fl×Fr)) (a:=(acc,d::w)) (f:=fun q=>bif vH q.2 then a8 pg (b9 pg (n+59)) (bT pl nm q.1 q.2 []) (tB.take 1) Y else .no 0) (h:=fun q=>bif vH q.2 then .ok (.next,bT pl nm q.1 q.2.tail [(110,.int (ob (q.2.headD 0)))]) Y else .no 0) (by rfl') hs
  |one i=>exact e8 (β:=R (Fl×Fr)) (a:=(acc,d::w)) (f:=fun q=>bif vH q.2 then a8 pg (b9 pg (n+59)) (bT pl nm q.1 q.2 [(110,.int i)]) (tB.take 1) Y else .no 0) (h:=fun q=>bif vH q.2 then .ok (.next,bT pl nm q.1 q.2.tail [(110,.int (ob (q.2.headD 0)))]) Y else .no 0) (by rfl') hs
 exact go y hy
theorem Fq (hs:(acc,d::w)∈Iw):a8 pg (b9 pg (n+58)) (bT pl nm acc w [(110,.int (ob d))]) (sN (tB.getD 1 .pass)) (H p o g k t)=.ok (.next,bT pl nm (acc++[d]) (kN d++w) [(110,.int (ob d))]) (H p o g k t):=
 show(bif vH (acc,d::w).2 then a8 pg (b9 pg (n+58)) (bT pl nm acc w [(110,.int (ob d))]) (sN (tB.getD 1 .pass)) (H p o g k t)else .no 0)=(bif vH (acc,d::w).2 then .ok (.next,bT pl nm (acc++[d]) (kN d++w) [(110,.int (ob d))]) (H p o g k t)else .no 0:R (Fl×Fr))from
  e8 (β:=R (Fl×Fr)) (a:=(acc,d::w)) (f:=fun q=>bif vH q.2 then a8 pg (b9 pg (n+58)) (bT pl nm q.1 q.2.tail [(110,.int (ob (q.2.headD 0)))]) (sN (tB.getD 1 .pass)) (H p o g k t)else .no 0)
   (h:=fun q=>bif vH q.2 then .ok (.next,bT pl nm (q.1++[q.2.headD 0]) (kN (q.2.headD 0)++q.2.tail) [(110,.int (ob (q.2.headD 0)))]) (H p o g k t)else .no 0) (by rfl') hs
theorem Ft (hs:(acc,d::w)∈Iw):d < 6:=NY (show Nat.blt ((acc,d::w).2.headD 0) 6=true from e8 (β:=Bool) (a:=(acc,d::w)) (f:=fun q=>Nat.blt (q.2.headD 0) 6) (h:=fun q=>true) (by rfl') hs)
theorem IH (x:Wk c p o g k t N) (hd:d < 6) (hn:nm∈N5):(b9 pg (n+59)).tr (bT pl nm acc w [(110,.int (ob d))]) tC (H p o g k t)=.ok (!c3 (eV o g N nm d)) (H p o g k t):=by
 have ho:(b9 pg (n+57)).run 38 [.loc 1,.int (ob d),.str nm] (H p o g k t)=.ok ((eN p nm d).getD .none) (H p o g k t):=qN (n+27) hd hn (x.w.p d hd)
 refine iC (n:=n+58) (v:=(eN p nm d).getD .none) (j0 (n:=n+57) (k:=38) (vs:=[.loc 1,.int (ob d),.str nm]) rfl rfl ho) ?_
 have hp:=S8 x hd hn
 generalize eN p nm d=a,eV o g N nm d=b at hp
 induction hp<;>rfl
theorem Fp (x:Wk c p o g k t N) (hn:nm∈N5) (hs:(acc,d::w)∈Iw) (hy:Ty y):a8 pg (b9 pg (n+59)) (bT pl nm acc (d::w) y) tB (H p o g k t)=.ok (.next,bif c3 (eV o g N nm d)then bT pl nm acc w [(110,.int (ob d))]else bT pl nm (acc++[d]) (kN d++w) [(110,.int (ob d))]) (H p o g k t):=by
 refine(z4 1 (IG n hs hy)).trans ?_
 have ht:=IH (pl:=pl) (acc:=acc) (w:=w) n x (Ft hs) hn
 cases e:c3 (eV o g N nm d)with
 |true=>
  rw[e]at ht
  exact(c6 (N4 (n:=n+58) ht rfl)).trans g5
 |false=>
  rw[e]at ht
  exact(c6 (bh (n:=n+58) ht (Fq n hs))).trans g5
theorem xS (hd:d < 6):uN [d]=uN (kN d)+1:=M1 (f:=fun d=>uN [d]) (h:=fun d=>uN (kN d)+1) rfl hd
theorem Fu (x:Wk c p o g k t N) (hn:nm∈N5):∀{f:Nat} {acc w:List Nat} {y:Fr},(∀st∈dW f acc w,st∈Iw)->uN w≤f->Ty y->∃y',Ty y'∧G4 (b9 pg (n+60)) tT tB (f+1) (bT pl nm acc w y) (H p o g k t)=.ok (.next,bT pl nm (pre (fun d=>c3 (eV o g N nm d)) f acc w) [] y') (H p o g k t):=fun{f}=>by
 induction f with
 |zero=>
  intro acc w y hst hz hy
  induction w with
  |nil=>exact⟨y,hy,H3 (jR n (hst _ (.head _)) hy)⟩
  |cons d w=>
   have hd:d < 6:=Ft (hst _ (.head _))
   rw[show uN (d::w)=uN ([d]++w)from rfl,dG,xS hd,Nat.succ_add]at hz
   exact absurd hz (Nat.not_succ_le_zero _)
 |succ f ih=>
  intro acc w y hst hz hy
  induction w with
  |nil=>exact⟨y,hy,H3 (jR n (hst _ (.head _)) hy)⟩
  |cons d w=>
   have h0:=hst _ (.head _)
   have hd:d < 6:=Ft h0
   rw[show uN (d::w)=uN ([d]++w)from rfl,dG,xS hd,Nat.succ_add,←dG]at hz
   have hz':=Nat.le_of_succ_le_succ hz
   have st:=Fp (pl:=pl) n x hn h0 hy
   show∃y',Ty y'∧_=R.ok (Fl.next,bT pl nm (bif c3 (eV o g N nm d)then pre (fun d=>c3 (eV o g N nm d)) f acc w else pre (fun d=>c3 (eV o g N nm d)) f (acc++[d]) (kN d++w)) [] y') _
   cases e:c3 (eV o g N nm d)with
   |true=>
    rw[e]at st
    exact(ih (fun q hq=>hst q (.tail _ (Oa _ hq))) (Oe (by rw[dG];exact Nat.le_add_left _ _) hz') (.one (ob d))).elim fun y' h=>⟨y',h.1,V5 (jR n h0 hy) st h.2⟩
   |false=>
    rw[e]at st
    exact(ih (fun q hq=>hst q (.tail _ (Ob _ hq))) hz' (.one (ob d))).elim fun y' h=>⟨y',h.1,V5 (jR n h0 hy) st h.2⟩
theorem Fv (hd:d < 6):a8 pg (b9 pg (n+60)) [(41,.loc 1),(21,.int (ob d)),(14,.str nm)] ((O7.body.drop 1).take 1) (H p o g k t)=.ok (.next,bT d nm [] (kN d) []) (H p o g k t):=
 M1 (β:=R (Fl×Fr)) (f:=fun d=>a8 pg (b9 pg (n+60)) [(41,.loc 1),(21,.int (ob d)),(14,.str nm)] ((O7.body.drop 1).take 1) (H p o g k t)) (h:=fun d=>.ok (.next,bT d nm [] (kN d) []) (H p o g k t)) (by rfl') hd
theorem bS (x:Wk c p o g k t N) (hd:d < 6) (hn:nm∈N5):(b9 pg (n+62)).run 46 [.loc 1,.int (ob d),.str nm] (H p o g k t)=.ok (.g6 (dN (pre (fun d=>c3 (eV o g N nm d)) 19 [] (kN d)))) (H p o g k t):=by
 obtain⟨y,hy,e⟩:=Fu (pl:=d) n x hn (f:=19) (acc:=[]) (w:=kN d) (fun q hq=>List.mem_flatMap.mpr ⟨d,OH hd,hq⟩) (NY (M1 (f:=fun d=>Nat.ble (uN (kN d)) 19) (h:=fun J=>true) rfl hd)) .nil
 refine t8 (n:=n+61) (fd:=O7) (m:=[(41,.loc 1),(21,.int (ob d)),(14,.str nm)]) (p:=(.ret (.g6 (dN (pre (fun d=>c3 (eV o g N nm d)) 19 [] (kN d)))),bT d nm (pre (fun d=>c3 (eV o g N nm d)) 19 [] (kN d)) [] y)) rfl rfl ?_
 refine(c6 (C2 (j0 (n:=n+59) (k:=30) (vs:=[.str nm]) rfl rfl (zj (n+9) _ hn)))).trans ?_
 refine(z4 (b:=O7.body.drop 1) 1 (Fv n hd)).trans ?_
 refine(c6 (P:=pg) (r:=b9 pg (n+60)) (s:=.y6 tT tB) e).trans (s9 ?_)
 induction hy<;>rfl
end
noncomputable def cl (e:Nat->Bool) (pl:Nat):Nat->Nat->Bool
 |0,_=>false
 |f+1,u=>bif Nat.beq u pl then true else bif !Nat.blt u 6 || e u then false else cl e pl f (up u)
noncomputable def lB:List S:=match J2.body with
 |_::.F1 _ _ _ b::_=>b
 |_=>[]
noncomputable def Ml:X:=.R5 [(.cmp (.NT 119) [(.ne,(.NT 21))]),(.cmp (.NT 119) [(.ge,(.lit (V.int 0)))]),(.cmp (.call (.NT 116) [(.sub (.NT 15) (.NT 119)),(.NT 14)]) [(.is,(.lit V.none))])]
noncomputable def Lh:List S:=[.assign (.NT 119) (.sub (.sub (.NT 15) (.NT 119)) (.lit (V.str [112,97,114,101,110,116])))]
noncomputable def mT (pl:Nat) (nm:Txt) (acc:List V) (y:Fr):Fr:=[(15,.loc 8),(21,.int (Int.ofNat pl)),(14,.str nm),(94,.g6 acc)]++y
noncomputable abbrev mU (pl:Nat) (nm:Txt) (acc:List V) (one:Int) (u:Nat):Fr:=mT pl nm acc [(118,.int one),(119,.int (Jz u))]
noncomputable abbrev D7:List Nat:=List.range 7
variable {x:Nat}
section
variable {w:V}
theorem HZ {a:X} {as:List X} {b1 b:Bool} (h1:r.tr m a Y=.ok b1 Y) (h:b1=true->bQ r m true as Y=.ok b Y):bQ r m true (a::as) Y=.ok (b1&&b) Y:=by
 show((r.tr m a Y).bind fun t Y=>bif t == true then bQ r m true as Y else R.ok t Y)=_
 rw[h1]
 induction b1 with
 |false=>rfl
 |true=>exact h rfl
theorem kH (h:d6 m x=some (.g6 xs)) (he:r.ev m e Y=.ok v c7) (hf:freeze v=some w) (hz:xs.length≤1000):g8 P r m (.F0 x e) Y=.ok (.next,putN m x (.g6 (xs++[w]))) c7:=by
 show(b8 145 ((d6 m x).bind xb) Y).bind _=_
 rw[h]
 refine v8 (a:=xs) (c7:=Y) rfl (v8 he ?_)
 show(b8 145 (freeze v) c7).bind _=_
 rw[hf]
 show(bif Nat.ble xs.length 1000 then R.ok (Fl.next,putN m x (.g6 (xs++[w]))) c7 else .no 145)=_
 rw[Oq hz];rfl
end
variable {u:Nat} {acc:List V}
section
variable {one:Int} (n:Nat)
theorem zE (x:Wk c p o g k t N) (hn:nm∈N5) (hu:u < 7) (hp:pl < 6):(b9 pg (n+34)).tr (mU pl nm acc one u) Ml (H p o g k t)=.ok (!Nat.beq u pl&&(Nat.blt u 6&&!c3 (eV o g N nm u))) (H p o g k t):=by
 have h1:(b9 pg (n+33)).tr (mU pl nm acc one u) (.cmp (.NT 119) [(.ne,(.NT 21))]) (H p o g k t)=.ok (!Nat.beq u pl) (H p o g k t):=Y3 (γ:=R Bool) (a:=u) (b:=pl) (l1:=D7) (f:=fun u pl=>(b9 pg (n+33)).tr (mU pl nm acc one u) (.cmp (.NT 119) [(.ne,(.NT 21))]) (H p o g k t)) (h:=fun u pl=>.ok (!Nat.beq u pl) (H p o g k t)) (by rfl') (OH hu) (OH hp)
 have h2:(b9 pg (n+33)).tr (mU pl nm acc one u) (.cmp (.NT 119) [(.ge,(.lit (V.int 0)))]) (H p o g k t)=.ok (Nat.blt u 6) (H p o g k t):=e8 (β:=R Bool) (a:=u) (l:=D7) (f:=fun u=>(b9 pg (n+33)).tr (mU pl nm acc one u) (.cmp (.NT 119) [(.ge,(.lit (V.int 0)))]) (H p o g k t)) (h:=fun u=>.ok (Nat.blt u 6) (H p o g k t)) (by rfl') (OH hu)
 refine(show bQ (b9 pg (n+33)) (mU pl nm acc one u) true _ _=_ from HZ h1 fun J=>HZ h2 fun e6=>?_)
 have h6:u < 6:=NY e6
 have he:G7 (b9 pg (n+31)) (mU pl nm acc one u) [(.sub (.NT 15) (.NT 119)),(.NT 14)] (H p o g k t)=.ok [.loc (rl u),.str nm] (H p o g k t):=M1 (β:=R (List V)) (f:=fun u=>G7 (b9 pg (n+31)) (mU pl nm acc one u) [(.sub (.NT 15) (.NT 119)),(.NT 14)] (H p o g k t)) (h:=fun u=>.ok [.loc (rl u),.str nm] (H p o g k t)) (by rfl') h6
 have h3:(b9 pg (n+33)).tr (mU pl nm acc one u) (.cmp (.call (.NT 116) [(.sub (.NT 15) (.NT 119)),(.NT 14)]) [(.is,(.lit V.none))]) (H p o g k t)=.ok (!c3 (eV o g N nm u)) (H p o g k t):=by
  refine iC (n:=n+32) (v:=(eV o g N nm u).getD .none) (j0 (n:=n+31) (k:=51) rfl he (Er (n+11) x h6 hn)) ?_
  induction q:eV o g N nm u with
  |none=>rfl
  |some v=>exact aj (G:=fun v=>Z0 (b9 pg (n+32)) (mU pl nm acc one u) ((some v).getD .none) [(.is,(.lit V.none))] (H p o g k t)=.ok (!c3 (some v)) (H p o g k t)) (fD (S8 x h6 hn) q) (fun J=>rfl) fun J=>rfl
 exact(HZ (as:=[]) (b:=true) h3 fun J=>rfl).trans (by rw[Bool.and_true])
theorem GV (hu:u < 6):a8 pg (b9 pg (n+33)) (mU pl nm acc one u) Lh (H p o g k t)=.ok (.next,mU pl nm acc one (up u)) (H p o g k t):=M1 (β:=R (Fl×Fr)) (f:=fun u=>a8 pg (b9 pg (n+33)) (mU pl nm acc one u) Lh (H p o g k t)) (h:=fun u=>.ok (.next,mU pl nm acc one (up u)) (H p o g k t)) (by rfl') hu
theorem GU (x:Wk c p o g k t N) (hn:nm∈N5) (hp:pl < 6):∀{f u:Nat},ht u≤f->u < 7->∃u',u' < 7∧Nat.beq u' pl=cl (fun d=>c3 (eV o g N nm d)) pl (f+1) u∧G4 (b9 pg (n+34)) Ml Lh (f+1) (mU pl nm acc one u) (H p o g k t)=.ok (.next,mU pl nm acc one u') (H p o g k t):=fun{f}=>by
 induction f with
 |zero=>
  intro u hf hu
  have it:=zE (acc:=acc) (one:=one) n x hn hu hp
  rcases Nat.lt_or_ge u 6 with h6|h6
  ·rw[cZ h6]at hf;exact absurd hf (Nat.not_succ_le_zero _)
  ·have e6:u=6:=Nat.le_antisymm (Nat.le_of_lt_succ hu) h6
   subst e6
   refine⟨6,hu,?_,H3 (it.trans (by rw[show Nat.blt 6 6=false from rfl,Bool.false_and,Bool.and_false]))⟩
   unfold cl
   induction Nat.beq 6 pl<;>rfl
 |succ f ih=>
  intro u hf hu
  have it:=zE (acc:=acc) (one:=one) n x hn hu hp
  show∃u',u' < 7∧Nat.beq u' pl=(bif Nat.beq u pl then true else bif !Nat.blt u 6 || c3 (eV o g N nm u)then false else cl (fun d=>c3 (eV o g N nm d)) pl (f+1) (up u))∧_
  induction q1:Nat.beq u pl with
  |true=>exact⟨u,hu,q1,H3 (it.trans (by rw[q1];rfl))⟩
  |false=>
   induction q2:Nat.blt u 6 with
   |false=>exact⟨u,hu,q1,H3 (it.trans (by rw[q1,q2];rfl))⟩
   |true=>
    have h6:u < 6:=NY q2
    induction q3:c3 (eV o g N nm u)with
    |true=>exact⟨u,hu,q1,H3 (it.trans (by rw[q1,q2,q3];rfl))⟩
    |false=>
     rw[cZ h6]at hf
     exact(ih (Nat.le_of_succ_le_succ hf) (eQ h6)).elim fun u' h=>⟨u',h.1,h.2.1,V5 (it.trans (by rw[q1,q2,q3];rfl)) (GV n h6) h.2.2⟩
end
variable {it:List X} {items:List V}
section
variable {b:List S} {z:R (Fl×Fr)}
theorem O6 (h:r.Y9 (putN m x v) b Y=.ok (.next,m') c7) (h2:Q4 r [x] b vs m' c7=z):Q4 r [x] b (v::vs) m Y=z:=by
 show(b8 130 (some (putN m x v)) Y).bind _=_
 refine v8 (a:=putN m x v) (c7:=Y) rfl ?_
 show((r.Y9 (putN m x v) b Y).z6).bind _=_
 rw[h]
 exact h2
theorem jy (he:m7 r m it Y=.ok vs Y) (hs:aI .range 1 vs=some items) (h:Q4 r [x] b items m Y=z):g8 P r m (.F1 [x] .range it b) Y=z:=by
 show((m7 r m it Y).z6).bind _=_
 rw[he]
 show(b8 142 (aI .range 1 vs) Y).bind _=_
 rw[hs]
 exact h
end
noncomputable def tk (e:Nat->Bool) (pl:Nat):List Nat:=((List.range (6 - (pl+1))).map (pl+1+ ·)).filter (cl e pl 20)
inductive Ly:Fr->Prop
 |nil:Ly []
 |two (a b:Int):Ly [(118,.int a),(119,.int b)]
section
variable {acc:List Nat} (n:Nat)
theorem Jv (x:Wk c p o g k t N) (hn:nm∈N5) (hp:pl < 6) (hj:j < 6) (hy:Ly y) (hz:acc.length≤1000):∃y',Ly y'∧(b9 pg (n+35)).Y9 (putN (mT pl nm (dN acc) y) 118 (.int (Int.ofNat j))) lB (H p o g k t)=.ok (.next,mT pl nm (dN (acc++bif cl (fun d=>c3 (eV o g N nm d)) pl 20 j then[j]else[])) y') (H p o g k t):=by
 have s1:a8 pg (b9 pg (n+34)) (putN (mT pl nm (dN acc) y) 118 (.int (Int.ofNat j))) (lB.take 1) (H p o g k t)=.ok (.next,mU pl nm (dN acc) (Int.ofNat j) j) (H p o g k t):=by
  unfold mU
  rw[zq hj]
  induction hy<;>rfl
 obtain⟨u,hu,hb,s2⟩:=GU (acc:=dN acc) (one:=Int.ofNat j) n x hn hp (zF hj) (Nat.lt_succ_of_lt hj)
 have s3:(b9 pg (n+34)).tr (mU pl nm (dN acc) (Int.ofNat j) u) (.cmp (.NT 119) [(.eq,(.NT 21))]) (H p o g k t)=.ok (Nat.beq u pl) (H p o g k t):=Y3 (γ:=R Bool) (a:=u) (b:=pl) (l1:=D7) (f:=fun u pl=>(b9 pg (n+34)).tr (mU pl nm (dN acc) (Int.ofNat j) u) (.cmp (.NT 119) [(.eq,(.NT 21))]) (H p o g k t)) (h:=fun u pl=>.ok (Nat.beq u pl) (H p o g k t)) (by rfl') (OH hu) (OH hp)
 rw[hb]at s3
 refine⟨[(118,.int (Int.ofNat j)),(119,.int (Jz u))],.two _ _,(z4 (b:=lB) 1 s1).trans ((c6 (P:=pg) (r:=b9 pg (n+34)) (s:=.y6 Ml Lh) s2).trans ?_)⟩
 cases e:cl (fun d=>c3 (eV o g N nm d)) pl (19+1) j with
 |false=>
  rw[e]at s3
  rw[cond_false,Ox]
  exact(c6 (N4 (n:=n+33) s3 rfl)).trans g5
 |true=>
  rw[e]at s3
  rw[cond_true]
  have ho:(b9 pg (n+33)).ev (mU pl nm (dN acc) (Int.ofNat j) u) (.sub (.sub (.NT 15) (.NT 118)) (.lit (V.str [111,98,106,101,99,116]))) (H p o g k t)=.ok (.int (ob j)) (H p o g k t):=M1 (β:=R V) (f:=fun j=>(b9 pg (n+33)).ev (mU pl nm (dN acc) (Int.ofNat j) u) (.sub (.sub (.NT 15) (.NT 118)) (.lit (V.str [111,98,106,101,99,116]))) (H p o g k t)) (h:=fun j=>.ok (.int (ob j)) (H p o g k t)) (by rfl') hj
  have eo:dN (acc++[j])=dN acc++[.int (ob j)]:=List.map_append
  rw[eo]
  exact(c6 (bh (n:=n+33) s3 ((c6 (kH (xs:=dN acc) (w:=.int (ob j)) rfl ho rfl (by unfold dN;rw[Oi];exact hz))).trans g5))).trans g5
theorem GL (x:Wk c p o g k t N) (hn:nm∈N5) (hp:pl < 6) {l:List Nat}:∀{acc:List Nat} {y:Fr},(∀j∈l,j < 6)->acc.length+l.length≤1000->Ly y->∃y',Ly y'∧Q4 (b9 pg (n+35)) [118] lB (l.map fun j=>.int (Int.ofNat j)) (mT pl nm (dN acc) y) (H p o g k t)=.ok (.next,mT pl nm (dN (acc++l.filter (cl (fun d=>c3 (eV o g N nm d)) pl 20))) y') (H p o g k t):=by
 induction l with
 |nil=>exact fun{acc y} J J hy=>⟨y,hy,by rw[List.filter_nil,Ox];rfl⟩
 |cons j l ih=>
  intro acc y hl hz hy
  obtain⟨y1,hy1,e1⟩:=Jv n x hn hp (hl j (.head _)) hy (Oe (Nat.le_add_right _ _) hz)
  have hz2:(acc++bif cl (fun d=>c3 (eV o g N nm d)) pl 20 j then[j]else[]).length+l.length≤1000:=by
   rw[List.length_append,Nat.add_assoc]
   refine Oe (Oj ?_ _) hz
   rw[List.length_cons,Nat.add_comm]
   refine Oj ?_ _
   induction cl (fun d=>c3 (eV o g N nm d)) pl 20 j with
   |true=>exact OF _
   |false=>exact Nat.zero_le _
  obtain⟨y2,hy2,e2⟩:=ih (fun q hq=>hl q (.tail _ hq)) hz2 hy1
  refine⟨y2,hy2,O6 e1 (e2.trans ?_)⟩
  rw[List.append_assoc,List.filter_cons]
  induction cl (fun d=>c3 (eV o g N nm d)) pl 20 j<;>rfl
theorem fY (x:Wk c p o g k t N) (hn:nm∈N5) (hp:pl < 6):(b9 pg (n+37)).run 53 [.loc 8,.int (Int.ofNat pl),.str nm] (H p o g k t)=.ok (.g6 (dN (tk (fun d=>c3 (eV o g N nm d)) pl))) (H p o g k t):=by
 obtain⟨y,hy,e⟩:=GL (l:=(List.range (6 - (pl+1))).map (pl+1+ ·)) n x hn hp (acc:=[]) (y:=[]) (fun j hj=>NY (List.all_eq_true.mp (e8 (β:=Bool) (a:=pl) (l:=D6) (f:=fun pl=>((List.range (6 - (pl+1))).map (pl+1+ ·)).all fun j=>Nat.blt j 6) (h:=fun J=>true) rfl (OH hp)) j hj)) (by rw[Oi,List.length_range];exact Oe (Oj (Nat.sub_le _ _) _) (by decide)) .nil
 refine t8 (n:=n+36) (fd:=J2) (m:=[(15,.loc 8),(21,.int (Int.ofNat pl)),(14,.str nm)]) (p:=(.ret (.g6 (dN (tk (fun d=>c3 (eV o g N nm d)) pl))),mT pl nm (dN (tk (fun d=>c3 (eV o g N nm d)) pl)) y)) rfl rfl ?_
 refine(z4 1 (show a8 pg (b9 pg (n+35)) [(15,.loc 8),(21,.int (Int.ofNat pl)),(14,.str nm)] (J2.body.take 1) (H p o g k t)=.ok (.next,mT pl nm (dN []) []) (H p o g k t)from rfl)).trans ?_
 have hs:aI .range 1 [.int (Int.ofNat pl+1),.int 6]=some (((List.range (6 - (pl+1))).map (pl+1+ ·)).map fun j=>V.int (Int.ofNat j)):=e8 (β:=Option (List V)) (a:=pl) (l:=D6) (f:=fun pl=>aI .range 1 [.int (Int.ofNat pl+1),.int 6]) (h:=fun pl=>some (((List.range (6 - (pl+1))).map (pl+1+ ·)).map fun j=>V.int (Int.ofNat j))) (by rfl') (OH hp)
 refine(c6 (P:=pg) (r:=b9 pg (n+35)) (s:=.F1 [118] .range [(.bin .add (.NT 21) (.lit (V.int 1))),(.call (.NT 26) [(.NT 15)])] lB) (jy (vs:=[.int (Int.ofNat pl+1),.int 6]) (by rfl') hs e)).trans (s9 ?_)
 induction hy<;>rfl
end
noncomputable def pT:Nat->List (List Bool)
 |0=>[[]]
 |n+1=>(pT n).flatMap fun l=>[true::l,false::l]
theorem tK {l:List Bool}:l∈pT l.length:=by
 induction l with
 |nil=>exact .head _
 |cons b l ih=>exact List.mem_flatMap.mpr ⟨l,ih,by induction b;exact .tail _ (.head _);exact .head _⟩
noncomputable def qQ (r:Nat->Bool) (m:List Bool) (d:Nat):Bool:=m.getD d (r d)
theorem ql {e:Nat->Bool} {pl:Nat} (hp:pl < 6):pre e 19 [] (kN pl)=tk e pl:=by
 have ee:qQ e [e 0,e 1,e 2,e 3,e 4,e 5]=e:=funext fun d=>match d with
  |0=>rfl
  |1=>rfl
  |2=>rfl
  |3=>rfl
  |4=>rfl
  |5=>rfl
  |_+6=>rfl
 have q:=Y3 (γ:=List Nat) (a:=[e 0,e 1,e 2,e 3,e 4,e 5]) (b:=pl) (l1:=pT 6) (l2:=D6) (f:=fun m pl=>pre (qQ e m) 19 [] (kN pl)) (h:=fun m pl=>tk (qQ e m) pl) (by rfl') tK (OH hp)
 rw[ee]at q
 exact q
theorem Ku {P:Pg} {n:Nat} {m:Fr} {Y c7:Hp} {e:X} {es:List X} {vs:List V} {v:V} {b:Bi} (hf:(b9 P n).ev m e Y=.ok (.bi b) Y) (he:m7 (b9 P n) m es Y=.ok vs c7) (hb:I6 P b vs c7=some v):(b9 P (n+1)).ev m (.call e es) Y=.ok v c7:=by
 refine v8 hf ?_
 show cV ((m7 (b9 P n) m es Y).bind fun vs Y=>b8 88 (I6 P b vs Y) Y) _=_
 rw[he]
 show cV (b8 88 (I6 P b vs c7) c7) _=_
 rw[hb];rfl
section
variable (n:Nat)
theorem Hi (f:Txt->Option V):Dj (m9 univ f)=true:=by
 unfold Dj
 rw[Bool.and_eq_true]
 refine⟨Oq (Ot (List.length_filter_le _ _) (by decide)),List.all_eq_true.mpr fun x hx=>List.all_eq_true.mp (show univ.all t6=true by decide) x (List.mem_filter.mp hx).1⟩
theorem BX (n:Nat) (hd:d < 6):(b9 pg (n+5)).run 4 [.loc 1,.int (zp d)] (H p o g k t)=.ok (.loc ([6,10,13,16,19,22].getD d 0)) (H p o g k t):=M1 (β:=R V) (f:=fun d=>(b9 pg (n+5)).run 4 [.loc 1,.int (zp d)] (H p o g k t)) (h:=fun d=>.ok (.loc ([6,10,13,16,19,22].getD d 0)) (H p o g k t)) (by rfl') hd
theorem Mv (hd:d < 6):(H p o g k t)[[6,10,13,16,19,22].getD d 0]? =some (p d):=M1 (f:=fun d=>(H p o g k t)[[6,10,13,16,19,22].getD d 0]?) (h:=fun d=>some (p d)) (by rfl') hd
theorem nq {l:Nat} {x:O} (hl:Y[l]? =some x) (hx:A5 x):I6 pg .sorted [.loc l] Y=some (.g6 ((m9 univ (fo x)).map .str)):=by
 show(((Y[l]?).bind fun o=>((ib o).bind fun f=>Lj (m9 pg.univ f)).or <|(nP o).map fun J=>.g6 []).or _)=_
 rw[hl]
 induction hx with
 |emp=>rfl
 |map f h=>
  show(((gd (Dj (m9 univ f)) (V.g6 ((m9 univ f).map .str))).or _).or _)=_
  rw[Hi];rfl
theorem yP (hd:d < 6) (hc:A5 (p d)):(b9 pg (n+10)).run 8 [.loc 1,.int (zp d)] (H p o g k t)=.ok (.g6 ((m9 univ (fo (p d))).map .str)) (H p o g k t):=by
 have h1:(b9 pg (n+7)).ev [(6,.loc 1),(13,.int (zp d))] (.l5 (.NT 6) 15 [(.NT 13)]) (H p o g k t)=.ok (.loc ([6,10,13,16,19,22].getD d 0)) (H p o g k t):=fS (n:=n+6) (ov:=.loc 1) (c:=0) (k:=4) (u:=()) (vs:=[.int (zp d)]) rfl rfl rfl rfl rfl (BX (n+1) hd)
 have h2:m7 (b9 pg (n+7)) [(6,.loc 1),(13,.int (zp d))] [.l5 (.NT 6) 15 [(.NT 13)]] (H p o g k t)=.ok [.loc ([6,10,13,16,19,22].getD d 0)] (H p o g k t):=v8 h1 rfl
 have h3:(b9 pg (n+8)).ev [(6,.loc 1),(13,.int (zp d))] (.call (.NT 18) [.l5 (.NT 6) 15 [(.NT 13)]]) (H p o g k t)=.ok (.g6 ((m9 univ (fo (p d))).map .str)) (H p o g k t):=Ku (n:=n+7) (b:=.sorted) rfl h2 (nq (Mv hd) hc)
 exact t8 (n:=n+9) (fd:=R9) (m:=[(6,.loc 1),(13,.int (zp d))]) (p:=(.ret (.g6 ((m9 univ (fo (p d))).map .str)),[(6,.loc 1),(13,.int (zp d))])) rfl rfl (s9 (B1 rfl h3 rfl))
noncomputable def xk:List S:=match A3.body with
 |_::.F1 _ _ _ b::_=>b
 |_=>[]
noncomputable def pW (d:Nat) (sg:Txt) (acc:List V) (y:Fr):Fr:=[(41,.loc 1),(21,.int (ob d)),(95,.str sg),(94,.g6 acc),(32,.int (zp d))]++y
inductive Vy:Fr->Prop
 |nil:Vy []
 |two (a b:Txt):Vy [(14,.str a),(96,.str b)]
noncomputable abbrev vM (d:Nat) (sg:Txt) (acc:List V) (x b:Txt):Fr:=pW d sg acc [(14,.str x),(96,.str b)]
noncomputable def mr:List (Txt×Txt):=B7 ((V7.map (· ++y3))++(V7.map (· ++u4))) [[]]++B7 (V7++V7.map (· ++y3)) [u4]
noncomputable def HT (q:Txt×Txt):Txt:=Mine.cut none (some (Int.ofNat q.1.length - Int.ofNat q.2.length)) q.1
theorem xu (n:Nat):mr.map (fun q=>a8 pg (b9 pg (n+20)) (putN (pW d q.2 acc []) 14 (.str q.1)) xk Y)=mr.foldr (fun q r=>.ok (.next,vM d q.2 acc q.1 (HT q)) Y::r) []:=by rfl'
theorem xt (n:Nat) (a b:Txt):mr.map (fun q=>a8 pg (b9 pg (n+20)) (putN (pW d q.2 acc [(14,.str a),(96,.str b)]) 14 (.str q.1)) xk Y)=mr.foldr (fun q r=>.ok (.next,vM d q.2 acc q.1 (HT q)) Y::r) []:=by rfl'
theorem Bq (n:Nat) {x sg:Txt} (hq:(x,sg)∈mr) (hy:Vy y):a8 pg (b9 pg (n+20)) (putN (pW d sg acc y) 14 (.str x)) xk Y=.ok (.next,vM d sg acc x (HT (x,sg))) Y:=by
 induction hy with
 |nil=>
  have q:=e8 (xu (d:=d) (acc:=acc) (Y:=Y) n) hq
  exact q
 |two a b=>
  have q:=e8 (xt (d:=d) (acc:=acc) (Y:=Y) n a b) hq
  exact q
end
noncomputable abbrev sz:List Txt:=[[],u4]
noncomputable def MK:X:=dg (xk.getD 1 .pass)
variable {sg:Txt}
section
variable (n:Nat)
theorem ID (n:Nat):(B7 V7 sz).map (fun q=>a8 pg (b9 pg (n+20)) (putN (pW d q.2 acc []) 14 (.str (q.1++q.2))) (xk.take 1) Y)=(B7 V7 sz).foldr (fun q r=>.ok (.next,vM d q.2 acc (q.1++q.2) q.1) Y::r) []:=by rfl'
theorem IC (n:Nat) (a b:Txt):(B7 V7 sz).map (fun q=>a8 pg (b9 pg (n+20)) (putN (pW d q.2 acc [(14,.str a),(96,.str b)]) 14 (.str (q.1++q.2))) (xk.take 1) Y)=(B7 V7 sz).foldr (fun q r=>.ok (.next,vM d q.2 acc (q.1++q.2) q.1) Y::r) []:=by rfl'
theorem IB (n:Nat):(B7 V7 sz).map (fun q=>(b9 pg (n+20)).tr (vM d q.2 acc (q.1++q.2) q.1) MK Y)=(B7 V7 sz).foldr (fun q r=>.ok true Y::r) []:=by rfl'
theorem GN (hn:nm∈V7) (hs:sg∈sz):(nm++sg)∈DV V7:=(Of hs).elim (fun e=>by rw[e,Ox];exact CQ hn) fun e=>by rw[Og e];exact CO hn
theorem Bp (hd:d < 6) (hc:A5 (p d)) (hn:nm∈V7) (hs:sg∈sz) (hy:Vy y) (A:Acc nm v i) (hv:fo (p d) (nm++sg)=some (.int i)) (hz:acc.length≤1000):
 a8 pg (b9 pg (n+65)) (putN (pW d sg acc y) 14 (.str (nm++sg))) xk (H p o g k t)=.ok (.next,vM d sg (acc++[.tup [.str nm,v]]) (nm++sg) nm) (H p o g k t):=by
 have h1:a8 pg (b9 pg (n+65)) (putN (pW d sg acc y) 14 (.str (nm++sg))) (xk.take 1) (H p o g k t)=.ok (.next,vM d sg acc (nm++sg) nm) (H p o g k t):=by
  induction hy with
  |nil=>
   have q:=e8 (ID (d:=d) (acc:=acc) (Y:=H p o g k t) (n+45)) (fT hn hs)
   exact q
  |two a b=>
   have q:=e8 (IC (d:=d) (acc:=acc) (Y:=H p o g k t) (n+45) a b) (fT hn hs)
   exact q
 have h2:(b9 pg (n+65)).tr (vM d sg acc (nm++sg) nm) MK (H p o g k t)=.ok true (H p o g k t):=by
  have q:=e8 (IB (d:=d) (acc:=acc) (Y:=H p o g k t) (n+45)) (fT hn hs)
  exact q
 have hg:(b9 pg (n+61)).run 5 [.loc 1,.int (zp d),.str (nm++sg)] (H p o g k t)=.ok (.int i) (H p o g k t):=(zL (o:=o) (g:=g) (k:=k) (t:=t) (n+51) hd (Jm (GN hn hs)) hc).trans (by rw[hv];rfl)
 have he:(b9 pg (n+64)).ev (vM d sg acc (nm++sg) nm) (.tuple [(.NT 96),(.call (.NT 97) [(.NT 96),(.l5 (.NT 41) 1 [(.NT 32),(.NT 14)])])]) (H p o g k t)=.ok (.tup [.str nm,v]) (H p o g k t):=
  Fo (n:=n+63) (vs:=[.str nm,v]) (i5 (I2 (n:=n+62) (v:=.str nm) (w:=.str nm) rfl rfl) rfl (i5 (j0 (n:=n+62) (k:=32) (vs:=[.str nm,.int i]) rfl (i5 (I2 (n:=n+61) (v:=.str nm) (w:=.str nm) rfl rfl) rfl (i5 (fS (n:=n+61) (ov:=.loc 1) (c:=0) (k:=5) (u:=()) (vs:=[.int (zp d),.str (nm++sg)]) rfl rfl rfl rfl rfl hg) rfl rfl)) (A.val (n+2) _)) (bj A.q) rfl)) (by show 2≤1000;decide)
 exact(z4 (b:=xk) 1 h1).trans ((c6 (bh (n:=n+64) h2 ((c6 (kH (xs:=acc) (w:=.tup [.str nm,v]) rfl he rfl hz)).trans g5))).trans g5)
end
noncomputable def tv (a:Txt->Option V) (nm:Txt):List V:=(a nm).elim [] fun v=>[.tup [.str nm,v]]
noncomputable def ui (a:Txt->Option V) (sg x:Txt):List V:=(V7.find? fun nm=>r5 x (nm++sg)).elim [] (tv a)
theorem vR:(B7 V7 sz).map (fun q=>V7.find? fun nm=>r5 (q.1++q.2) (nm++q.2))=(B7 V7 sz).foldr (fun q r=>some q.1::r) []:=by rfl'
theorem vS:mr.map (fun q=>V7.find? fun nm=>r5 q.1 (nm++q.2))=mr.foldr (fun q r=>none::r) []:=by rfl'
section
variable {x:Txt} (n:Nat)
theorem Ag (hn:nm∈V7) (hs:sg∈sz):ui a sg (nm++sg)=tv a nm:=by
 have q:=e8 vR (fT hn hs)
 exact Oh (fun o=>Option.elim o [] (tv a)) q
theorem Ah (h:(x,sg)∈mr):ui a sg x=[]:=by
 have q:=e8 vS h
 exact Oh (fun o=>Option.elim o [] (tv a)) q
inductive Ic (f a:Txt->Option V) (sg x:Txt):Prop
 |take (nm:Txt) (i:Int) (v:V) (hn:nm∈V7) (e:x=nm++sg) (A:Acc nm v i) (hf:f (nm++sg)=some (.int i)) (ha:a nm=some v)
 |skip (h:(x,sg)∈mr)
theorem uJ (hd:d < 6) (hc:A5 (p d)) (hs:sg∈sz) (hy:Vy y) (h:Ic (fo (p d)) a sg x) (hz:acc.length≤1000):∃y',Vy y'∧a8 pg (b9 pg (n+65)) (putN (pW d sg acc y) 14 (.str x)) xk (H p o g k t)=.ok (.next,pW d sg (acc++ui a sg x) y') (H p o g k t):=by
 induction h with
 |take nm i v hn e A hf ha=>
  subst e
  rw[Ag hn hs,show tv a nm=[.tup [.str nm,v]]from by unfold tv;rw[ha];rfl]
  exact⟨_,.two _ _,Bp n hd hc hn hs hy A hf hz⟩
 |skip h=>
  rw[Ah h,Ox]
  exact⟨_,.two _ _,Bq (n+45) h hy⟩
theorem Dy:(ui a sg x).length≤1:=by
 unfold ui tv
 induction V7.find? fun nm=>r5 x (nm++sg)with
 |none=>exact Nat.zero_le _
 |some nm=>
  show((a nm).elim [] fun v=>[V.tup [.str nm,v]]).length≤1
  induction a nm with
  |none=>exact Nat.zero_le _
  |some v=>exact OF _
theorem uK (hd:d < 6) (hc:A5 (p d)) (hs:sg∈sz) {l:List Txt}:∀{acc:List V} {y:Fr},(∀x∈l,Ic (fo (p d)) a sg x)->acc.length+l.length≤1000->Vy y->∃y',Vy y'∧Q4 (b9 pg (n+66)) [14] xk (l.map .str) (pW d sg acc y) (H p o g k t)=.ok (.next,pW d sg (acc++l.flatMap (ui a sg)) y') (H p o g k t):=by
 induction l with
 |nil=>exact fun{acc y} J J hy=>⟨y,hy,by rw[List.flatMap_nil,Ox];rfl⟩
 |cons x l ih=>
  intro acc y hl hz hy
  obtain⟨y1,hy1,e1⟩:=uJ (o:=o) (g:=g) (k:=k) (t:=t) n hd hc hs hy (hl x (.head _)) (Oe (Nat.le_add_right _ _) hz)
  have hz2:(acc++ui a sg x).length+l.length≤1000:=by
   rw[List.length_append,Nat.add_assoc]
   refine Oe (Oj ?_ _) hz
   rw[List.length_cons,Nat.add_comm]
   exact Oj Dy _
  obtain⟨y2,hy2,e2⟩:=ih (fun q hq=>hl q (.tail _ hq)) hz2 hy1
  refine⟨y2,hy2,O6 e1 (e2.trans ?_)⟩
  rw[List.append_assoc,List.flatMap_cons]
end
theorem vQ {α β:Type} {f:α->List β} {q:α->Bool} {l:List α} (h:∀x,q x=false->f x=[]):(l.filter q).flatMap f=l.flatMap f:=by
 induction l with
 |nil=>rfl
 |cons a l ih=>
  rw[List.filter_cons,List.flatMap_cons]
  cases e:q a with
  |true=>exact Oh (f a++ ·) ih
  |false=>rw[h a e];exact ih
theorem xA {a:Txt->Option V} {sg:Txt} (hs:sg∈sz):univ.flatMap (ui a sg)=V7.flatMap (tv a):=(Of hs).elim (fun e=>e▸(show univ.flatMap (ui a [])=V7.flatMap (tv a) by rfl')) fun e=>Og e▸(show univ.flatMap (ui a u4)=V7.flatMap (tv a) by rfl')
section
variable {b:List S} {z:R (Fl×Fr)}
theorem zP (he:m7 r m it Y=.ok [.g6 items] Y) (h:Q4 r [x] b items m Y=z):g8 P r m (.F1 [x] .val it b) Y=z:=by
 show((m7 r m it Y).z6).bind _=_
 rw[he]
 exact h
end
section
variable {x:Txt} {b:Txt->Option V} {ns:List Txt} (n:Nat)
theorem Br (hd:d < 6):a8 pg (b9 pg (n+66)) [(41,.loc 1),(21,.int (ob d)),(95,.str sg)] (A3.body.take 1) (H p o g k t)=.ok (.next,pW d sg [] []) (H p o g k t):=M1 (β:=R (Fl×Fr)) (f:=fun d=>a8 pg (b9 pg (n+66)) [(41,.loc 1),(21,.int (ob d)),(95,.str sg)] (A3.body.take 1) (H p o g k t)) (h:=fun d=>.ok (.next,pW d sg [] []) (H p o g k t)) (by rfl') hd
theorem Eb (hd:d < 6) (hc:A5 (p d)) (hs:sg∈sz) (ht:∀x∈m9 univ (fo (p d)),Ic (fo (p d)) a sg x) (h0:∀x,fo (p d) x=none->ui a sg x=[]):
 (b9 pg (n+68)).run 39 [.loc 1,.int (ob d),.str sg] (H p o g k t)=.ok (.g6 (V7.flatMap (tv a))) (H p o g k t):=by
 obtain⟨y,hy,e⟩:=uK (o:=o) (g:=g) (k:=k) (t:=t) n hd hc hs (acc:=[]) (y:=[]) ht (Oe (Oj (List.length_filter_le _ _) _) (by decide)) .nil
 have ef:(m9 univ (fo (p d))).flatMap (ui a sg)=V7.flatMap (tv a):=(vQ fun x hx=>h0 x (by
  induction q:fo (p d) x with
  |none=>rfl
  |some v=>rw[q]at hx;exact Bool.noConfusion hx)).trans (xA hs)
 rw[List.nil_append,ef]at e
 have hn:m7 (b9 pg (n+66)) (pW d sg [] []) [.l5 (.NT 41) 56 [.NT 32]] (H p o g k t)=.ok [.g6 ((m9 univ (fo (p d))).map .str)] (H p o g k t):=v8 (fS (n:=n+65) (ov:=.loc 1) (c:=0) (k:=8) (u:=()) (vs:=[.int (zp d)]) rfl rfl rfl rfl rfl (yP (n+55) hd hc)) rfl
 refine t8 (n:=n+67) (fd:=A3) (m:=[(41,.loc 1),(21,.int (ob d)),(95,.str sg)]) (p:=(.ret (.g6 (V7.flatMap (tv a))),pW d sg (V7.flatMap (tv a)) y)) rfl rfl ?_
 refine(z4 1 (Br n hd)).trans ((c6 (P:=pg) (r:=b9 pg (n+66)) (s:=.F1 [14] .val [.l5 (.NT 41) 56 [.NT 32]] xk) (zP hn e)).trans (s9 ?_))
 induction hy<;>rfl
theorem bg (h:x∈m9 univ f):f x≠none:=fun e=>by
 have q:=(List.mem_filter.mp h).2
 rw[e]at q
 exact Bool.noConfusion q
theorem iT {p q:Option V} (h:cN nm p q) (e:p≠none):∃i v,p=some (.int i)∧q=some v∧Acc nm v i:=by
 induction h with
 |none=>exact absurd rfl e
 |some i v A=>exact⟨i,v,rfl,rfl,A⟩
theorem oY {sg:Txt} (h:∀nm,nm∈V7->x=nm++sg->a nm=none):ui a sg x=[]:=by
 unfold ui
 cases e:V7.find? fun nm=>r5 x (nm++sg)with
 |none=>rfl
 |some nm=>
  show tv a nm=[]
  unfold tv
  rw[h nm (List.mem_of_find?_eq_some e) (Mine.D0.mp (List.find?_some (p:=fun nm=>r5 x (nm++sg)) e))];rfl
theorem fE (x:Wk c p o g k t N) (hd:d < 6):(b9 pg (n+68)).run 39 [.loc 1,.int (ob d),.str []] (H p o g k t)=.ok (.g6 (V7.flatMap (tv (fo (o d))))) (H p o g k t):=
 have D:=x.d d hd
 Eb n hd (x.w.p d hd) (.head _) (fun z hz=>(D.keys z (bg hz)).elim fun nm q=>q.2.elim (fun e=>match iT (D.own nm q.1) (e▸bg hz)with
  |⟨i,v,e1,e2,A⟩=>.take nm i v q.1 (by rw[e,Ox]) A (by rw[Ox];exact e1) e2) fun e=>.skip (Oa _ (fT (e.elim (fun e=>Oa _ (List.mem_map.mpr ⟨nm,q.1,e.symm⟩)) fun e=>Ob _ (List.mem_map.mpr ⟨nm,q.1,e.symm⟩)) (.head _))))
  fun z hz=>oY fun nm hn e=>by
   have e:z=nm:=e.trans (Ox nm)
   subst e
   have q:=D.own z hn
   rw[hz]at q
   generalize fo (o d) z=b at q⊢
   cases q;rfl
theorem gp (x:Wk c p o g k t N) (hd:d < 6):(b9 pg (n+68)).run 39 [.loc 1,.int (ob d),.str u4] (H p o g k t)=.ok (.g6 (V7.flatMap (tv (fo (g d))))) (H p o g k t):=
 have D:=x.d d hd
 Eb n hd (x.w.p d hd) (.tail _ (.head _)) (fun z hz=>(D.keys z (bg hz)).elim fun nm q=>q.2.elim (fun e=>.skip (Ob _ (fT (Oa _ (e▸q.1)) (.head _)))) fun e=>e.elim (fun e=>.skip (Ob _ (fT (Ob _ (List.mem_map.mpr ⟨nm,q.1,e.symm⟩)) (.head _)))) fun e=>match iT (D.got nm q.1) (e▸bg hz)with
  |⟨i,v,e1,e2,A⟩=>.take nm i v q.1 e A e1 e2)
  fun z hz=>oY fun nm hn e=>by
   subst e
   have q:=D.got nm hn
   rw[hz]at q
   generalize fo (g d) nm=b at q⊢
   cases q;rfl
theorem zb (x:Wk c p o g k t N) (hd:d < 6):(b9 pg (n+72)).run 40 [.loc 1,.int (ob d)] (H p o g k t)=.ok (.g6 (V7.flatMap (tv (fo (o d))))) (H p o g k t):=
 t8 (n:=n+71) (fd:=Y8) (m:=[(41,.loc 1),(21,.int (ob d))]) (p:=(.ret (.g6 (V7.flatMap (tv (fo (o d))))),[(41,.loc 1),(21,.int (ob d))])) rfl rfl (s9 (B1 rfl (j0 (n:=n+69) (k:=39) (vs:=[.loc 1,.int (ob d),.str []]) rfl rfl (fE (n+1) x hd)) rfl))
theorem BY (x:Wk c p o g k t N) (hd:d < 6):(b9 pg (n+72)).run 41 [.loc 1,.int (ob d)] (H p o g k t)=.ok (.g6 (V7.flatMap (tv (fo (g d))))) (H p o g k t):=
 t8 (n:=n+71) (fd:=O8) (m:=[(41,.loc 1),(21,.int (ob d))]) (p:=(.ret (.g6 (V7.flatMap (tv (fo (g d))))),[(41,.loc 1),(21,.int (ob d))])) rfl rfl (s9 (B1 rfl (j0 (n:=n+69) (k:=39) (vs:=[.loc 1,.int (ob d),.str u4]) rfl rfl (gp (n+1) x hd)) rfl))
end
theorem zX:∀x:D,jC x x=true:=fun x=>D.rec (motive_1:=fun x=>jC x x=true) (motive_2:=fun l=>we l l=true) rfl (fun b=>by induction b<;>rfl) (fun i=>decide_eq_true rfl) (fun s=>G8 s) (fun t xs ih=>by
 show(t == t&&we xs xs)=true
 rw[ih];induction t<;>rfl) rfl (fun x xs h1 h2=>by
 show(jC x x&&we xs xs)=true
 rw[h1,h2];rfl) x
theorem oP {v:V} {x:D} (h:dat 8 v=some x):zW v v=some true:=by
 unfold zW
 rw[h]
 exact Oh some (zX x)
theorem wt {f:V->Option D} {l:List V} (h:∀v∈l,∃x,f v=some x):∃xs,U4 f l=some xs:=by
 induction l with
 |nil=>exact⟨[],rfl⟩
 |cons v l ih=>
  obtain⟨x,hx⟩:=h v (.head _)
  obtain⟨xs,hxs⟩:=ih fun u hu=>h u (.tail _ hu)
  exact⟨x::xs,by
   show(f v).bind (fun d=>(U4 f l).map (d:: ·))=_
   rw[hx,hxs];rfl⟩
theorem gK {l:List V} (h:∀v∈l,∃x,dat 7 v=some x):∃x,dat 8 (.g6 l)=some x:=(wt h).elim fun xs e=>⟨.seq false xs,by
 show((U4 (dat 7) l).map (D.seq false))=_
 rw[e];rfl⟩
theorem Ab {s:Txt} {v:V} (h:mx v=true):∃x,dat 7 (.tup [.str s,v])=some x:=ak (G:=fun v=>∃x,dat 7 (.tup [.str s,v])=some x) h ⟨_,rfl⟩ (fun J=>⟨_,rfl⟩) fun J=>⟨_,rfl⟩
theorem Eu {v:V} (h:isQ v=true):mx v=true:=by unfold mx;rw[h];rfl
theorem xB {a:Txt->Option V} (h:∀nm v,a nm=some v->isQ v=true):∃x,dat 8 (.g6 (V7.flatMap (tv a)))=some x:=gK fun v hv=>match List.mem_flatMap.mp hv with
 |⟨nm,_,hm⟩=>by
  unfold tv at hm
  cases e:a nm with
  |none=>rw[e]at hm;exact nomatch hm
  |some u=>
   rw[e]at hm
   rw[Og hm]
   exact Ab (Eu (h nm u e))
theorem Bt:univ.filter (fun x=>V7.any (r5 x))=V7:=by rfl'
theorem CN {a:Txt->Option V} (h:∀q,a q≠none->q∈V7):m9 univ a=V7.filter fun k=>(a k).isSome:=by
 have e:univ.filter (fun k=>(a k).isSome)=(univ.filter fun x=>V7.any (r5 x)).filter fun k=>(a k).isSome:=by
  rw[List.filter_filter]
  refine List.filter_congr fun x J=>?_
  induction q:a x with
  |none=>rfl
  |some v=>
   have hx:=h x (by rw[q];exact nofun)
   exact(Bool.and_eq_true_iff.mpr ⟨rfl,List.any_eq_true.mpr ⟨x,hx,G8 x⟩⟩).symm
 exact e.trans (by rw[Bt])
theorem zt {a:Txt->Option V} {l:List Txt}:(l.filter fun k=>(a k).isSome).map (fun k=>V.tup [.str k,(a k).getD .none])=l.flatMap (tv a):=by
 induction l with
 |nil=>rfl
 |cons x l ih=>
  rw[List.filter_cons,List.flatMap_cons]
  unfold tv
  induction q:a x with
  |none=>exact ih
  |some v=>
   rw[show(some v:Option V).isSome=true from rfl,OB rfl,List.map_cons,q]
   exact Oh (V.tup [.str x,v]:: ·) ih
section
variable {x:O}
theorem om (he:(b9 pg n).ev m e Y=.ok (.loc l) Y) (hl:Y[l]? =some x) (hx:Cl x) (h:∀q,fo x q≠none->q∈V7):(b9 pg (n+1)).ev m (.l4 e) Y=.ok (.g6 (V7.flatMap (tv (fo x)))) Y:=by
 refine v8 he ?_
 show(b8 103 (Y[l]?) Y).bind _=_
 rw[hl]
 induction hx with
 |emp=>rfl
 |map f=>
  have hk:m9 univ f=V7.filter fun k=>(f k).isSome:=CN h
  have hg:(Nat.blt (m9 univ f).length 8&&(m9 univ f).all t6)=true:=by
   rw[hk]
   exact Bool.and_eq_true_iff.mpr ⟨Oq (Nat.succ_le_succ (Oe (List.length_filter_le _ _) (by decide))),List.all_eq_true.mpr fun y hy=>List.all_eq_true.mp (show V7.all t6=true by decide) y (List.mem_filter.mp hy).1⟩
  show cV ((b8 103 (gd (Nat.blt (m9 univ f).length 8&&(m9 univ f).all t6) ()) Y).bind fun J Y=>R.ok (V.g6 ((m9 univ f).map fun k=>V.tup [V.str k,(f k).getD V.none])) Y) _=_
  rw[hg,hk,zt]
  rfl
end
section
variable {w:V} {a:X} {as:List X} {b1:Bool}
theorem MM (h1:r.tr m a Y=.ok b1 Y) (h:b1=false->bQ r m false as Y=.ok b Y):bQ r m false (a::as) Y=.ok (b1 || b) Y:=by
 show((r.tr m a Y).bind fun t Y=>bif t == false then bQ r m false as Y else R.ok t Y)=_
 rw[h1]
 induction b1 with
 |true=>rfl
 |false=>exact h rfl
theorem dP {d:D} (he:(b9 P n).ev m e Y=.ok v Y) (hd:dat 8 v=some d):Z0 (b9 P n) m v [(.ne,e)] Y=.ok false Y:=by
 refine v8 he ?_
 show(b8 74 ((zW v v).map not) Y).bind _=_
 rw[oP hd];rfl
theorem bu {d:D} (he:(b9 P n).ev m e Y=.ok v Y) (hd:dat 8 v=some d):Z0 (b9 P n) m v [(.eq,e)] Y=.ok true Y:=by
 refine v8 he ?_
 show(b8 74 (zW v v) Y).bind _=_
 rw[oP hd];rfl
end
section
variable (n:Nat)
noncomputable def LQ:List X:=[(.cmp (.call (.NT 128) [(.NT 41),(.NT 28)]) [(.ne,(.l4 (.sub (.sub (.NT 15) (.NT 21)) (.lit (V.str [111,119,110])))))]),(.cmp (.call (.NT 129) [(.NT 41),(.NT 28)]) [(.ne,(.l4 (.sub (.sub (.NT 15) (.NT 21)) (.lit (V.str [103,111,116])))))])]
noncomputable def mQ (d:Nat) (nm:Txt):Fr:=[(41,.loc 1),(15,.loc 8),(21,.int (Int.ofNat d)),(14,.str nm),(28,.int (ob d))]
theorem LL (hd:d < 6):a8 pg (b9 pg (n+80)) [(41,.loc 1),(15,.loc 8),(21,.int (Int.ofNat d)),(14,.str nm)] (m6.body.take 1) (H p o g k t)=.ok (.next,mQ d nm) (H p o g k t):=M1 (β:=R (Fl×Fr)) (f:=fun d=>a8 pg (b9 pg (n+80)) [(41,.loc 1),(15,.loc 8),(21,.int (Int.ofNat d)),(14,.str nm)] (m6.body.take 1) (H p o g k t)) (h:=fun d=>.ok (.next,mQ d nm) (H p o g k t)) (by rfl') hd
theorem Mw (hd:d < 6):(H p o g k t)[ol d]? =some (o d):=M1 (f:=fun d=>(H p o g k t)[ol d]?) (h:=fun d=>some (o d)) (by rfl') hd
theorem Mx (hd:d < 6):(H p o g k t)[gq d]? =some (g d):=M1 (f:=fun d=>(H p o g k t)[gq d]?) (h:=fun d=>some (g d)) (by rfl') hd
theorem Cc (x:Wk c p o g k t N) (hd:d < 6):a8 pg (b9 pg (n+80)) (mQ d nm) ((m6.body.drop 1).take 1) (H p o g k t)=.ok (.next,mQ d nm) (H p o g k t):=by
 have D:=x.d d hd
 obtain⟨d1,e1⟩:=xB (a:=fo (o d)) fun q v e=>(sW x hd).1 v e
 obtain⟨d2,e2⟩:=xB (a:=fo (g d)) fun q v e=>(sW x hd).2 v e
 have ho:(b9 pg (n+77)).ev (mQ d nm) (.sub (.sub (.NT 15) (.NT 21)) (.lit (V.str [111,119,110]))) (H p o g k t)=.ok (.loc (ol d)) (H p o g k t):=M1 (β:=R V) (f:=fun d=>(b9 pg (n+77)).ev (mQ d nm) (.sub (.sub (.NT 15) (.NT 21)) (.lit (V.str [111,119,110]))) (H p o g k t)) (h:=fun d=>.ok (.loc (ol d)) (H p o g k t)) (by rfl') hd
 have hg:(b9 pg (n+77)).ev (mQ d nm) (.sub (.sub (.NT 15) (.NT 21)) (.lit (V.str [103,111,116]))) (H p o g k t)=.ok (.loc (gq d)) (H p o g k t):=M1 (β:=R V) (f:=fun d=>(b9 pg (n+77)).ev (mQ d nm) (.sub (.sub (.NT 15) (.NT 21)) (.lit (V.str [103,111,116]))) (H p o g k t)) (h:=fun d=>.ok (.loc (gq d)) (H p o g k t)) (by rfl') hd
 have h1:(b9 pg (n+79)).tr (mQ d nm) (.cmp (.call (.NT 128) [(.NT 41),(.NT 28)]) [(.ne,(.l4 (.sub (.sub (.NT 15) (.NT 21)) (.lit (V.str [111,119,110])))))]) (H p o g k t)=.ok false (H p o g k t):=iC (n:=n+78) (j0 (n:=n+77) (k:=40) (vs:=[.loc 1,.int (ob d)]) rfl rfl (zb (n+5) x hd)) (dP (om ho (Mw hd) (x.w.o d hd) D.ka) e1)
 have h2:(b9 pg (n+79)).tr (mQ d nm) (.cmp (.call (.NT 129) [(.NT 41),(.NT 28)]) [(.ne,(.l4 (.sub (.sub (.NT 15) (.NT 21)) (.lit (V.str [103,111,116])))))]) (H p o g k t)=.ok false (H p o g k t):=iC (n:=n+78) (j0 (n:=n+77) (k:=41) (vs:=[.loc 1,.int (ob d)]) rfl rfl (BY (n+5) x hd)) (dP (om hg (Mx hd) (x.w.g d hd) D.kg) e2)
 have ht:bQ (b9 pg (n+79)) (mQ d nm) false LQ (H p o g k t)=.ok false (H p o g k t):=MM (b1:=false) (b:=false) h1 fun J=>MM (as:=[]) (b1:=false) (b:=false) h2 fun J=>rfl
 have ht2:(b9 pg (n+80)).tr (mQ d nm) (.mw LQ) (H p o g k t)=.ok false (H p o g k t):=ht
 exact(c6 (s:=.ite (.mw LQ) [.ret (.lit (V.bool false))] []) (N4 (n:=n+79) ht2 rfl)).trans g5
end
section
theorem pd (h:(b9 P n).ev m e Y=.ok v c7) (k:Z0 (b9 P n) m v rs c7=.ok b u3):(b9 P (n+1)).ev m (.cmp e rs) Y=.ok (.bool b) u3:=v8 h (v8 k rfl)
end
section
variable (n:Nat)
theorem nK (n:Nat) (hn:nm∈NM) (hb:B5 nm=true):(b9 pg (n+67)).run 43 [.loc 1,.int (ob d),.str nm] Y=.exc (I5 nm) Y:=
 aN (n:=n+66) (fd:=D9) (m:=[(41,.loc 1),(21,.int (ob d)),(14,.str nm)]) rfl rfl (aL (az (U6 (n:=n+64) (k:=30) (vs:=[.str nm]) rfl rfl (fZ (n+14) _ hn hb))))
theorem Cb (n:Nat):NM.map (fun nm=>(b9 pg (n+80)).tr (mQ d nm) (dg (m6.body.getD 2 .pass)) Y)=NM.foldr (fun nm r=>.ok (B5 nm) Y::r) []:=by rfl'
theorem sU (n:Nat):NM.map (fun nm=>(b9 pg (n+20)).ev (mQ d nm) (.tuple [(.bin .add (.lit (V.str [110,111,32,115,117,99,104,32,112,114,111,112,101,114,116,121,58,32])) (.NT 14)),(.lit V.none)]) Y)=NM.foldr (fun nm r=>.ok (.tup [.str (I5 nm),.none]) Y::r) []:=by rfl'
theorem yp (n:Nat) (hn:nm∈NM):(b9 pg (n+80)).tr (mQ d nm) (dg (m6.body.getD 2 .pass)) Y=.ok (B5 nm) Y:=by
 have q:=e8 (Cb (d:=d) (Y:=Y) n) hn
 exact q
theorem IW (hn:nm∈NM) (hb:B5 nm=true):a8 pg (b9 pg (n+80)) (mQ d nm) (m6.body.drop 2) Y=.ok (.ret (.bool true),mQ d nm) Y:=by
 have h1:=yp (d:=d) (Y:=Y) n hn
 rw[hb]at h1
 have h2:(b9 pg (n+77)).ev (mQ d nm) (.tuple [(.bin .add (.lit (V.str [110,111,32,115,117,99,104,32,112,114,111,112,101,114,116,121,58,32])) (.NT 14)),(.lit V.none)]) Y=.ok (.tup [.str (I5 nm),.none]) Y:=by
  have q:=e8 (sU (d:=d) (Y:=Y) (n+57)) hn
  exact q
 have h3:(b9 pg (n+77)).ev (mQ d nm) (.A2 (.call (.NT 105) [(.NT 41),(.NT 28),(.NT 14)])) Y=.ok (.tup [.str (I5 nm),.none]) Y:=zK (n:=n+76) rfl (U6 (n:=n+75) (k:=43) (vs:=[.loc 1,.int (ob d),.str nm]) rfl rfl (nK (n+8) hn hb))
 have h4:(b9 pg (n+78)).ev (mQ d nm) (.cmp (.A2 (.call (.NT 105) [(.NT 41),(.NT 28),(.NT 14)])) [(.eq,(.tuple [(.bin .add (.lit (V.str [110,111,32,115,117,99,104,32,112,114,111,112,101,114,116,121,58,32])) (.NT 14)),(.lit V.none)]))]) Y=.ok (.bool true) Y:=pd h3 (bu h2 rfl)
 exact s9 (bh (n:=n+79) h1 (s9 (B1 rfl (show(b9 pg (n+79)).ev (mQ d nm) _ Y=_ from pd (n:=n+78) (zK (n:=n+77) rfl (U6 (n:=n+76) (k:=43) (vs:=[.loc 1,.int (ob d),.str nm]) rfl rfl (nK (n+9) hn hb))) (bu (by have q:=e8 (sU (d:=d) (Y:=Y) (n+58)) hn;exact q) rfl)) rfl)))
theorem EO (hn:nm∈V7):ud nm=hZ nm:=e8 (β:=V) (a:=nm) (f:=ud) (h:=hZ) (by rfl') hn
theorem yA (x:Wk c p o g k t N) (hn:nm∈N5) (hz:mx z=true):mx (pV o g N z nm s)=true:=by
 unfold pV
 cases e:Nat.blt s 6 with
 |false=>exact hz
 |true=>
  show mx ((eV o g N nm s).getD .none)=true
  induction q:eV o g N nm s with
  |none=>rfl
  |some v=>exact Eu (fD (S8 x (NY e) hn) q)
theorem wq {s:Txt} {v:V} (h:mx v=true):∃x,dat 8 (.tup [v,.str s])=some x:=ak (G:=fun v=>∃x,dat 8 (.tup [v,.str s])=some x) h ⟨_,rfl⟩ (fun J=>⟨_,rfl⟩) fun J=>⟨_,rfl⟩
end
noncomputable def qB:List S:=match m6.body.getD 3 .pass with
 |.F1 _ _ _ b=>b
 |_=>[]
noncomputable def mW (d:Nat) (nm:Txt) (j:Nat):Fr:=mQ d nm++[(118,.int (Int.ofNat j))]
inductive Qy (d:Nat) (nm:Txt):Fr->Prop
 |nil:Qy d nm (mQ d nm)
 |one (i:Nat):Qy d nm (mW d nm i)
section
variable (n:Nat)
theorem IV (x:Wk c p o g k t N) (hn:nm∈V7) (hj:j < 6):a8 pg (b9 pg (n+79)) (mW d nm j) qB (H p o g k t)=.ok (.next,mW d nm j) (H p o g k t):=by
 have h9:nm∈N5:=Oa _ hn
 obtain⟨s,hs⟩:=yb (eV o g N nm) (d:=j) (OF _) (Nat.lt_succ_of_lt hj)
 obtain⟨D,hD⟩:=wq (s:=pP s) (yA (s:=s) x h9 (GH h9))
 have h1:=jY (n+10) x hj h9 hs
 rw[EO hn]at h1
 have h2:=cC (n+12) x hj h9 hs
 have he:G7 (b9 pg (n+77)) (mW d nm j) [(.NT 41),(.sub (.sub (.NT 15) (.NT 118)) (.lit (V.str [111,98,106,101,99,116]))),(.NT 14)] (H p o g k t)=.ok [.loc 1,.int (ob j),.str nm] (H p o g k t):=M1 (β:=R (List V)) (f:=fun j=>G7 (b9 pg (n+77)) (mW d nm j) [(.NT 41),(.sub (.sub (.NT 15) (.NT 118)) (.lit (V.str [111,98,106,101,99,116]))),(.NT 14)] (H p o g k t)) (h:=fun j=>.ok [.loc 1,.int (ob j),.str nm] (H p o g k t)) (by rfl') hj
 have ht:(b9 pg (n+79)).tr (mW d nm j) (.cmp (.call (.NT 105) [(.NT 41),(.sub (.sub (.NT 15) (.NT 118)) (.lit (V.str [111,98,106,101,99,116]))),(.NT 14)]) [(.ne,(.call (.NT 130) [(.NT 15),(.NT 118),(.NT 14)]))]) (H p o g k t)=.ok false (H p o g k t):=iC (n:=n+78) (j0 (n:=n+77) (k:=43) rfl he h1) (dP (j0 (n:=n+77) (k:=52) (vs:=[.loc 8,.int (Int.ofNat j),.str nm]) rfl rfl h2) hD)
 exact(c6 (N4 (n:=n+78) ht rfl)).trans g5
theorem FR (x:Wk c p o g k t N) (hn:nm∈V7) {l:List Nat}:∀{m:Fr},(∀j∈l,j < 6)->Qy d nm m->∃m',Qy d nm m'∧Q4 (b9 pg (n+80)) [118] qB (l.map fun j=>.int (Int.ofNat j)) m (H p o g k t)=.ok (.next,m') (H p o g k t):=by
 induction l with
 |nil=>exact fun{m} J h=>⟨m,h,rfl⟩
 |cons j l ih=>
  intro m hl hm
  obtain⟨m',hm',e⟩:=ih (m:=mW d nm j) (fun q hq=>hl q (.tail _ hq)) (.one j)
  have hp:putN m 118 (.int (Int.ofNat j))=mW d nm j:=by induction hm<;>rfl
  exact⟨m',hm',O6 (by rw[hp];exact IV n x hn (hl j (.head _))) e⟩
theorem Cm {l:List Nat}:∃x,dat 8 (.g6 (dN l))=some x:=gK fun v hv=>match List.mem_map.mp hv with|⟨_,_,e⟩=>e▸⟨_,rfl⟩
theorem Bz (x:Wk c p o g k t N) (hd:d < 6) (hn:nm∈NM):(b9 pg (n+82)).run 55 [.loc 1,.loc 8,.int (Int.ofNat d),.str nm] (H p o g k t)=.ok (.bool true) (H p o g k t):=by
 have U1:∀{m:Fr},a8 pg (b9 pg (n+80)) (mQ d nm) (m6.body.drop 2) (H p o g k t)=.ok (.ret (.bool true),m) (H p o g k t)->(b9 pg (n+82)).run 55 [.loc 1,.loc 8,.int (Int.ofNat d),.str nm] (H p o g k t)=.ok (.bool true) (H p o g k t):=fun e=>
  t8 (n:=n+81) (fd:=m6) (m:=[(41,.loc 1),(15,.loc 8),(21,.int (Int.ofNat d)),(14,.str nm)]) rfl rfl ((z4 1 (LL n hd)).trans ((z4 (b:=m6.body.drop 1) 1 (Cc n x hd)).trans e))
 induction hb:B5 nm with
 |true=>exact U1 (IW n hn hb)
 |false=>
  have hk:=fK hn hb
  have h9:nm∈N5:=Oa _ hk
  have h1:=yp (d:=d) (Y:=H p o g k t) n hn
  rw[hb]at h1
  obtain⟨m,hm,e⟩:=FR (d:=d) (l:=[0,1,2,3,4,5]) n x hk (by decide) .nil
  obtain⟨D,hD⟩:=Cm (l:=tk (fun d=>c3 (eV o g N nm d)) d)
  have h3:=bS (n+15) x hd h9
  rw[ql hd]at h3
  have h4:=fY (n+40) x h9 hd
  refine U1 (m:=m) ((c6 (N4 (n:=n+79) h1 rfl)).trans ((c6 (s:=.F1 [118] .range [.call (.NT 26) [(.NT 15)]] qB) (jy (vs:=[.int 6]) rfl rfl e)).trans (s9 (B1 rfl (show(b9 pg (n+80)).ev m (.cmp (.call (.NT 131) [(.NT 41),(.NT 28),(.NT 14)]) [(.eq,(.call (.NT 132) [(.NT 15),(.NT 21),(.NT 14)]))]) (H p o g k t)=_ from ?_) rfl))))
  induction hm with
  |nil=>exact pd (n:=n+79) (j0 (n:=n+78) (k:=46) (vs:=[.loc 1,.int (ob d),.str nm]) rfl rfl (bS (n+16) x hd h9 |>.trans (by rw[ql hd]))) (bu (j0 (n:=n+78) (k:=53) (vs:=[.loc 8,.int (Int.ofNat d),.str nm]) rfl rfl (fY (n+41) x h9 hd)) hD)
  |one i=>exact pd (n:=n+79) (j0 (n:=n+78) (k:=46) (vs:=[.loc 1,.int (ob d),.str nm]) rfl rfl (bS (n+16) x hd h9 |>.trans (by rw[ql hd]))) (bu (j0 (n:=n+78) (k:=53) (vs:=[.loc 8,.int (Int.ofNat d),.str nm]) rfl rfl (fY (n+41) x h9 hd)) hD)
end
variable {elt:X}
section
variable {f g:α->V}
theorem cD {l:List α} (h:∀a∈l,r.ev (putN m x (f a)) elt Y=.ok (g a) Y∧freeze (g a)=some (g a)):bA r m elt [x] none (l.map f) Y=.ok (l.map g) Y:=by
 induction l with
 |nil=>rfl
 |cons a l ih=>
  obtain⟨h1,h2⟩:=h a (.head _)
  have e:jI r m elt [x] none (f a) Y=.ok [g a] Y:=by
   refine v8 (a:=putN m x (f a)) (c7:=Y) rfl (v8 (a:=true) (c7:=Y) rfl ?_)
   show((r.ev (putN m x (f a)) elt Y).z6).bind _=_
   rw[h1]
   show(b8 76 (freeze (g a)) Y).bind _=_
   rw[h2];rfl
  exact v8 e (v8 (ih fun b hb=>h b (.tail _ hb)) rfl)
end
noncomputable def pX:Txt:=[112,97,99,107,101,100]
noncomputable def vq:Txt:=[115,117,109,109,101,100]
noncomputable def pY:Txt:=[99,111,112,105,101,115]
noncomputable def hW:Txt:=[100,101,100,117,112]
noncomputable def VI (nm:Txt):List (V×Int):=NV.filterMap fun q=>bif r5 q.1 nm then(iz q).map fun i=>(q.2,i)else none
theorem mi {nm:Txt} {v:V} {i:Int} (A:Acc nm v i):(v,i)∈VI nm:=List.mem_filterMap.mpr ⟨(nm,v),A.mem,by
 show(bif r5 nm nm then(iz (nm,v)).map fun i=>(v,i)else none)=_
 rw[G8,A.en];rfl⟩
theorem mh {α:Type} {nm:Txt} {f h:V->Int->α} (e:(VI nm).map (fun q=>f q.1 q.2)=(VI nm).foldr (fun q r=>h q.1 q.2::r) []) {v:V} {i:Int} (A:Acc nm v i):f v i=h v i:=by
 have q:=e8 (f:=fun q:V×Int=>f q.1 q.2) (h:=fun q=>h q.1 q.2) e (mi A)
 exact q
theorem GQ {v:V} {i:Int} (A:Acc pY v i):v=.int i:=mh (f:=fun v i=>v) (h:=fun v i=>.int i) (by rfl') A
theorem MN {v:V} {i:Int} (A:Acc hW v i):zW v (.str [111,110])=some (decide (i=1)):=mh (f:=fun v i=>zW v (.str [111,110])) (h:=fun v i=>some (decide (i=1))) (by rfl') A
section
variable {o i:X} {ys:List V} {c:Option X}
theorem xU (ho:(b9 P n).ev m o Y=.ok ov Y) (hi:(b9 P n).ev m i Y=.ok iv Y) (h:uP ov iv Y=some v):(b9 P (n+1)).ev m (.sub o i) Y=.ok v Y:=v8 ho (v8 hi (by show b8 95 (uP ov iv Y) Y=_;rw[h];rfl))
theorem uj (he:m7 (b9 P n) m it Y=.ok vs Y) (hl:fW .val vs=none) (hs:aI .val 1 vs=some items) (hz:Nat.ble items.length 1000=true) (hc:C6 m=m') (h:bA (b9 P n) m' elt [x] c items Y=.ok ys Y):(b9 P (n+1)).ev m (.comp false elt [x] .val it c) Y=.ok (.g6 ys) Y:=by
 show((m7 (b9 P n) m it Y).z6).bind _=_
 rw[he]
 show(pa (b9 P n) m elt [x] c .val vs Y).bind _=_
 refine v8 (a:=ys) (c7:=Y) ?_ rfl
 show nM (fW .val vs) _ ((b8 101 (aI .val 1 vs) Y).bind fun items Y=>bif Nat.ble items.length 1000 then bA (b9 P n) (C6 m) elt [x] c items Y else .no 103)=_
 rw[hl,hs]
 show(bif Nat.ble items.length 1000 then bA (b9 P n) (C6 m) elt [x] c items Y else .no 103)=_
 rw[hz,hc]
 exact h
theorem Eh {fd:Fd} {b:List S} {k:Nat} {r:R V} (h1:P.fns[k]? =some fd) (h2:U7 fd vs=some m) (h3:a8 P (b9 P n) m fd.body Y=a8 P (b9 P n) m' b Y) (h:((a8 P (b9 P n) m' b Y).bind fun p Y=>.ok (It p.1) Y)=r):(b9 P (n+2)).run k vs Y=r:=by
 show(b8 80 (P.fns[k]?) Y).bind _=_
 rw[h1]
 show(b8 81 (U7 fd vs) Y).bind _=_
 rw[h2]
 show((a8 P (b9 P n) m fd.body Y).bind _)=_
 rw[h3]
 exact h
end
noncomputable def NL:List (Txt×Nat):=[(pX,0),(vq,113),(pY,22),(hW,91)]
noncomputable def V4:List Txt:=[pX,vq,pY,hW]
theorem sH {nm:Txt} (h:nm∈V4):nm∈V7:=kQ (List.all_eq_true.mp (show(V4.all fun a=>V7.any (r5 a))=true by rfl') nm h)
theorem Ep {nm:Txt} (h:nm∈V4):(nm,hZ nm)∈NV:=match List.mem_map.mp (show nm∈NL.map Prod.fst from h)with
 |⟨q,hq,e⟩=>Oy (i:=q.2) (e▸e8 (β:=Option (Txt×V)) (f:=fun q:Txt×Nat=>NV[q.2]?) (h:=fun q=>some (q.1,hZ q.1)) (by rfl') hq)
theorem GI {nm:Txt} (h:nm∈V4):∃i,Acc nm (hZ nm) i:=(fH (Ep h)).elim id fun r=>by
 have h1:=yF 0 [] (Ep h)
 rw[show iz (nm,hZ nm)=some ((iz (nm,hZ nm)).getD 0)from e8 (f:=fun nm=>iz (nm,hZ nm)) (h:=fun nm=>some ((iz (nm,hZ nm)).getD 0)) (by rfl') h]at h1
 exact nomatch h1.symm.trans (r.num 0 [])
variable {Z:Txt->V} {I:Txt->Int}
section
variable {S:Txt->Nat} (n:Nat)
theorem FW (x:Wk c p o g k t N) (hs:Sr (eV o g N nm) d s) (h:nm∈V4):∃i,Acc nm (pV o g N (hZ nm) nm s) i:=by
 unfold pV
 rcases Nat.lt_or_ge s 6 with h6|h6
 ·have hp:=S8 x h6 (Oa _ (sH h))
  obtain⟨v,e⟩:=(fe hs).2 h6
  rw[show Nat.blt s 6=true from Oq h6,e]
  rw[e]at hp
  generalize eN p nm s=a at hp
  cases hp with
  |some i v A=>exact⟨i,A⟩
 ·rw[show s=6 from Nat.le_antisymm (Nat.le_of_lt_succ (fe hs).1) h6]
  exact GI h
structure AY (H:Hp) (pl:Nat) (Z:Txt->V) (I:Txt->Int):Prop where
 a:∀x,x∈V4->Acc x (Z x) (I x)
 p:∀x,x∈V4->∀n,∃s,(b9 pg (n+67)).run 43 [.loc 1,.int (ob pl),.str x] H=.ok (.tup [Z x,.str s]) H
 c:∀x,x∈V4->∀n,∃s,(b9 pg (n+65)).run 52 [.loc 8,.int (Int.ofNat pl),.str x] H=.ok (.tup [Z x,.str s]) H
theorem four (x:Wk c p o g k t N) (hd:pl < 6) (hS:∀x,Sr (eV o g N x) pl (S x)):∃Z I,AY (H p o g k t) pl Z I:=
 ⟨fun nm=>pV o g N (hZ nm) nm (S nm),fun nm=>(iz (nm,pV o g N (hZ nm) nm (S nm))).getD 0,fun nm h=>(FW x (hS nm) h).elim fun i A=>by
  show Acc nm _ ((iz (nm,pV o g N (hZ nm) nm (S nm))).getD 0)
  rw[A.en];exact A,
  fun nm h n=>⟨_,by rw[←EO (sH h)];exact jY n x hd (Oa _ (sH h)) (hS nm)⟩,
  fun nm h n=>⟨_,cC n x hd (Oa _ (sH h)) (hS nm)⟩⟩
noncomputable def mR (pl:Nat):Fr:=[(41,.loc 1),(21,.int (ob pl))]
noncomputable def rX:X:=.call (.NT 89) [(.NT 14),(.sub (.call (.NT 105) [(.NT 41),(.NT 21),(.NT 14)]) (.lit (V.int 0)))]
theorem IT (f:AY Y pl Z I) (h:nm∈V4):(b9 pg (n+80)).ev (putN (mR pl) 14 (.str nm)) rX Y=.ok (.int (I nm)) Y:=match f.p nm h (n+10)with
 |⟨s,e⟩=>j0 (n:=n+79) (k:=31) (vs:=[.str nm,Z nm]) rfl (i5 (I2 (n:=n+78) (v:=.str nm) (w:=.str nm) rfl rfl) rfl (i5 (xU (n:=n+78) (j0 (n:=n+77) (k:=43) (vs:=[.loc 1,.int (ob pl),.str nm]) rfl rfl e) rfl rfl) (bj (f.a nm h).q) rfl)) ((f.a nm h).num (n+19) Y)
noncomputable def U1 (r:R (Fl×Fr)):R V:=r.bind fun p Y=>.ok (It p.1) Y
theorem yl (f:AY Y pl Z I):(b9 pg (n+83)).run 47 [.loc 1,.int (ob pl)] Y=.ok (.obj 2 [(61,.int (I pX)),(62,.int (bif decide (I hW=1)then 3 else I vq)),(63,.int (I pY)),(64,.int (I hW))]) Y:=by
 have h1:(b9 pg (n+81)).ev (mR pl) (.comp false rX [14] .val [(.tuple [(.lit (V.str [112,97,99,107,101,100])),(.lit (V.str [115,117,109,109,101,100])),(.lit (V.str [99,111,112,105,101,115])),(.lit (V.str [100,101,100,117,112]))])] none) Y=.ok (.g6 (V4.map fun x=>.int (I x))) Y:=
  uj (n:=n+80) (vs:=[.tup (V4.map .str)]) (items:=V4.map .str) rfl rfl rfl rfl rfl (cD fun x hx=>⟨IT n f hx,rfl⟩)
 refine Eh (n:=n+81) (fd:=ao) (m:=mR pl) (m':=[(41,.loc 1),(21,.int (ob pl)),(23,.g6 (V4.map fun x=>.int (I x)))]) rfl rfl (c6 (m3 h1 rfl)) ?_
 have q:=mh (nm:=hW) (f:=fun v i=>U1 (a8 pg (b9 pg (n+81)) [(41,.loc 1),(21,.int (ob pl)),(23,.g6 [.int (I pX),.int (I vq),.int (I pY),.int i])] (ao.body.drop 1) Y)) (h:=fun v i=>.ok (.obj 2 [(61,.int (I pX)),(62,.int (bif decide (i=1)then 3 else I vq)),(63,.int (I pY)),(64,.int i)]) Y) (by rfl') (f.a hW (by decide))
 exact q
noncomputable def MQ (pl:Nat) (a b c d:V):Fr:=[(15,.loc 8),(21,.int (Int.ofNat pl)),(133,.lst [a,b,c,d])]
theorem CI (j:Int):(B7 (VI pX) (B7 (VI vq) (VI hW))).map (fun q=>U1 (a8 pg (b9 pg (n+81)) (MQ pl q.1.1 q.2.1.1 (.int j) q.2.2.1) (U2.body.drop 1) Y))=(B7 (VI pX) (B7 (VI vq) (VI hW))).foldr (fun q r=>.ok (.g6 [.int q.1.2,.int (bif decide (q.2.2.2=1)then 3 else q.2.1.2),.int j,.int q.2.2.2]) Y::r) []:=by rfl'
noncomputable def lX:X:=.sub (.call (.NT 130) [(.NT 15),(.NT 21),(.NT 14)]) (.lit (V.int 0))
theorem vA (f:AY Y pl Z I):(b9 pg (n+83)).run 56 [.loc 8,.int (Int.ofNat pl)] Y=.ok (.g6 [.int (I pX),.int (bif decide (I hW=1)then 3 else I vq),.int (I pY),.int (I hW)]) Y:=by
 have h1:(b9 pg (n+81)).ev [(15,.loc 8),(21,.int (Int.ofNat pl))] (.comp false lX [14] .val [(.tuple [(.lit (V.str [112,97,99,107,101,100])),(.lit (V.str [115,117,109,109,101,100])),(.lit (V.str [99,111,112,105,101,115])),(.lit (V.str [100,101,100,117,112]))])] none) Y=.ok (.g6 (V4.map Z)) Y:=
  uj (n:=n+80) (vs:=[.tup (V4.map .str)]) (items:=V4.map .str) rfl rfl rfl rfl rfl (cD fun x hx=>⟨match f.c x hx (n+13)with
   |⟨s,e⟩=>xU (n:=n+79) (j0 (n:=n+78) (k:=52) (vs:=[.loc 8,.int (Int.ofNat pl),.str x]) rfl rfl e) rfl rfl,bj (f.a x hx).q⟩)
 refine Eh (n:=n+81) (fd:=U2) (m:=[(15,.loc 8),(21,.int (Int.ofNat pl))]) (m':=MQ pl (Z pX) (Z vq) (Z pY) (Z hW)) rfl rfl (c6 (m3 h1 rfl)) ?_
 rw[GQ (f.a pY (by decide))]
 have q:=e8 (CI (pl:=pl) (Y:=Y) n (I pY)) (fT (mi (f.a pX (by decide))) (fT (mi (f.a vq (by decide))) (mi (f.a hW (by decide)))))
 exact q
end
noncomputable def ij:Txt:=[97,58,98]
noncomputable def K8:List Txt:=[[99,111,112,105,101,115],[100,101,100,117,112],[112,97,99,107,101,100],[114,101,97,100,111,110,108,121],[114,101,99,111,114,100],tI,[115,117,109,109,101,100],tH]
noncomputable def KN:List Txt:=ij::K8
noncomputable def mk (b:Bool) (u:Txt->V):List (Txt×V):=(bif b then K8++[ij]else K8).map fun x=>(x,u x)
noncomputable def T7 (w:Txt->V) (l:List (Txt×Bool)):List V:=l.flatMap fun q=>bif q.2 then[.tup [.str q.1,w q.1]]else[]
noncomputable def P7 (w:Txt->V) (l:List (Txt×Bool)):List (Txt×V):=l.flatMap fun q=>bif q.2 then[(q.1,w q.1)]else[]
theorem IE {a:Txt->Option V} {l:List Txt}:l.flatMap (tv a)=T7 (fun x=>(a x).getD .none) (l.zip (l.map fun x=>c3 (a x))):=by
 induction l with
 |nil=>rfl
 |cons x l ih=>
  show tv a x++l.flatMap (tv a)=(bif c3 (a x)then[.tup [.str x,(a x).getD .none]]else[])++T7 (fun x=>(a x).getD .none) (l.zip (l.map fun x=>c3 (a x)))
  rw[ih]
  unfold tv
  induction a x<;>rfl
section
variable {u w:Txt->V}
theorem Ke:(pT 7).map (fun m=>I6 pg .dict [.g6 (T7 w (V7.zip m))] Y)=(pT 7).foldr (fun m r=>some (.E1 (P7 w (V7.zip m)))::r) []:=by rfl'
noncomputable def BB:List Bool:=[true,false]
theorem JF {b:Bool}:b∈BB:=by induction b;exact .tail _ (.head _);exact .head _
theorem Lw:(B7 (pT 7) BB).map (fun q=>(Nat.ble ((mk q.2 u).length+(P7 w (V7.zip q.1)).length) 1000,z7 (mk q.2 u) (P7 w (V7.zip q.1))))=(B7 (pT 7) BB).foldr (fun q r=>(true,mk (q.2 || q.1.headD false) fun x=>(bc (P7 w (V7.zip q.1)) x).getD (u x))::r) []:=by rfl'
end
section
variable {b:List S} {z:R (Fl×Fr)} {w:V} {old kvs:List (Txt×V)}
theorem tV (he:m7 r m it Y=.ok vs Y) (hl:fW .val vs=none) (hs:aI .val 1 vs=some items) (h:Q4 r [x] b items m Y=z):g8 P r m (.F1 [x] .val it b) Y=z:=by
 show((m7 r m it Y).z6).bind _=_
 rw[he]
 show nM (fW .val vs) _ ((b8 142 (aI .val 1 vs) Y).bind fun items Y=>Q4 r [x] b items m Y)=_
 rw[hl,hs]
 exact h
theorem Cz (h:d6 m x=some (.E1 old)) (he:r.ev m e Y=.ok v Y) (hf:freeze v=some w) (hn:ents w=some kvs) (hb:Nat.ble (old.length+kvs.length) 1000=true):g8 P r m (.J1 x e) Y=.ok (.next,putN m x (.E1 (z7 old kvs))) Y:=by
 show(b8 148 ((d6 m x).bind sq) Y).bind _=_
 rw[h]
 refine v8 (a:=old) (c7:=Y) rfl (v8 he ?_)
 show(b8 148 (freeze v) Y).bind _=_
 rw[hf]
 show(b8 148 (ents w) Y).bind _=_
 rw[hn]
 show(bif Nat.ble (old.length+kvs.length) 1000 then _ else _)=_
 rw[hb];rfl
end
noncomputable def ic (d:Nat) (b:Bool) (u:Txt->V) (y:Fr):Fr:=[(41,.loc 1),(21,.int (qR d)),(94,.E1 (mk b u))]++y
inductive Ny:Fr->Prop
 |nil:Ny []
 |one (s:Txt):Ny [(95,.str s)]
noncomputable def nT:X:=.cmp (.NT 21) [(.ne,(.lit (V.int 0)))]
noncomputable def nU:S:=.J1 94 (.call (.NT 104) [(.call (.NT 98) [(.NT 41),(.NT 21),(.NT 95)])])
noncomputable def nB:S:=.assign (.NT 21) (.attr (.call (.NT 55) [(.NT 41),(.NT 21)]) 29)
noncomputable def nW:List S:=[.F1 [95] .val [(.tuple [(.lit (V.str [])),(.NT 93)])] [nU],nB]
noncomputable def u0 (x:Txt):V:=match(b9 pg 60).run 28 [] []with
 |.ok v _=>(((sq v).getD []).lookup x).getD .none
 |_=>.none
section
variable {u:Txt->V} (n:Nat)
theorem Jg (hd:d < 6) (hy:Ny y) (hr:(b9 pg (n+70)).run 39 [.loc 1,.int (ob d),.str sg] Y=.ok (.g6 (V7.flatMap (tv a))) Y):∃u',(b9 pg (n+73)).Y9 (putN (ic d b u y) 95 (.str sg)) [nU] Y=.ok (.next,ic d (b || c3 (a ij)) u' [(95,.str sg)]) Y:=by
 have hm:(V7.map fun x=>c3 (a x))∈pT 7:=tK
 have h1:=e8 (Ke (w:=fun x=>(a x).getD .none) (Y:=Y)) hm
 have h2:=e8 (Lw (u:=u) (w:=fun x=>(a x).getD .none)) (fT hm (JF (b:=b)))
 rw[IE]at hr
 have e:putN (ic d b u y) 95 (.str sg)=ic d b u [(95,.str sg)]:=by induction hy<;>rfl
 rw[e]
 have h3:g8 pg (b9 pg (n+72)) (ic d b u [(95,.str sg)]) nU Y=.ok (.next,putN (ic d b u [(95,.str sg)]) 94 (.E1 (z7 (mk b u) (P7 (fun x=>(a x).getD .none) (V7.zip (V7.map fun x=>c3 (a x))))))) Y:=Cz rfl (Ku (n:=n+71) (b:=.dict) rfl (v8 (j0 (n:=n+70) (k:=39) (vs:=[.loc 1,.int (ob d),.str sg]) rfl (by rw[←cg hd];rfl) hr) rfl) h1) rfl rfl (Oh Prod.fst h2)
 rw[show z7 (mk b u) (P7 (fun x=>(a x).getD .none) (V7.zip (V7.map fun x=>c3 (a x))))=_ from Oh Prod.snd h2]at h3
 exact⟨_,(c6 h3).trans g5⟩
theorem Gr (hd:d < 6):a8 pg (b9 pg (n+73)) (ic d b u [(95,.str sg)]) [nB] (H p o g k t)=.ok (.next,ic (up d) b u [(95,.str sg)]) (H p o g k t):=M1 (β:=R (Fl×Fr)) (f:=fun d=>a8 pg (b9 pg (n+73)) (ic d b u [(95,.str sg)]) [nB] (H p o g k t)) (h:=fun d=>.ok (.next,ic (up d) b u [(95,.str sg)]) (H p o g k t)) (by rfl') hd
theorem Gp (x:Wk c p o g k t N) (hd:d < 6) (hy:Ny y):∃u',(b9 pg (n+74)).Y9 (ic d b u y) nW (H p o g k t)=.ok (.next,ic (up d) (b || c3 (fo (o d) ij)|| c3 (fo (g d) ij)) u' [(95,.str u4)]) (H p o g k t):=by
 obtain⟨u1,e1⟩:=Jg (b:=b) (u:=u) n hd hy (fE (n+2) x hd)
 obtain⟨u2,e2⟩:=Jg (b:=b || c3 (fo (o d) ij)) (u:=u1) n hd (.one []) (gp (n+2) x hd)
 exact⟨u2,(c6 (P:=pg) (r:=b9 pg (n+73)) (tV (vs:=[.tup [.str [],.str u4]]) (items:=[.str [],.str u4]) (by induction hy<;>rfl) rfl rfl (O6 e1 (O6 e2 rfl)))).trans (Gr n hd)⟩
theorem yQ (hd:d < 7) (hy:Ny y):(b9 pg (n+74)).tr (ic d b u y) nT Y=.ok (Nat.blt d 6) Y:=by
 have hd:=OH hd
 induction hy with
 |nil=>exact e8 (β:=R Bool) (f:=fun d=>(b9 pg (n+74)).tr (ic d b u []) nT Y) (h:=fun d=>.ok (Nat.blt d 6) Y) (by rfl') hd
 |one s=>exact e8 (β:=R Bool) (f:=fun d=>(b9 pg (n+74)).tr (ic d b u [(95,.str s)]) nT Y) (h:=fun d=>.ok (Nat.blt d 6) Y) (by rfl') hd
theorem FC {e:Nat->Option V} (h:Sr e 6 s):s=6:=by
 cases h with
 |top=>rfl
 |here q _=>exact absurd q (by decide)
 |up q _ _=>exact absurd q (by decide)
theorem Gq (x:Wk c p o g k t N):∀{d b u y},ht d≤j->d < 7->Ny y->∃b' u' y',Ny y'∧(b'=false->b=false∧∀s,Sr (eV o g N ij) d s->s=6)∧G4 (b9 pg (n+74)) nT nW (j+1) (ic d b u y) (H p o g k t)=.ok (.next,ic 6 b' u' y') (H p o g k t):=by
 have top:∀{d b u y} {j:Nat},¬d < 6->d < 7->Ny y->∃b' u' y',Ny y'∧(b'=false->b=false∧∀s,Sr (eV o g N ij) d s->s=6)∧G4 (b9 pg (n+74)) nT nW (j+1) (ic d b u y) (H p o g k t)=.ok (.next,ic 6 b' u' y') (H p o g k t):=fun{d b u y j} h6 hd hy=>by
  have e:d=6:=Nat.le_antisymm (Nat.le_of_lt_succ hd) (OD h6)
  subst e
  exact⟨b,u,y,hy,fun q=>⟨q,fun s=>FC⟩,H3 (yQ n hd hy)⟩
 induction j with
 |zero=>exact fun{d b u y} hj hd hy=>top (fun h6=>by rw[cZ h6]at hj;exact absurd hj (Nat.not_succ_le_zero _)) hd hy
 |succ j ih=>
  intro d b u y hj hd hy
  rcases Nat.lt_or_ge d 6 with h6|h6
  ·obtain⟨u1,e1⟩:=Gp (b:=b) (u:=u) n x h6 hy
   rw[cZ h6]at hj
   obtain⟨b',u',y',hy',hb,e⟩:=ih (u:=u1) (b:=b || c3 (fo (o d) ij)|| c3 (fo (g d) ij)) (Nat.le_of_succ_le_succ hj) (eQ h6) (.one u4)
   refine⟨b',u',y',hy',fun q=>?_,V5 ((yQ n hd hy).trans (by rw[show Nat.blt d 6=true from Oq h6])) e1 e⟩
   have hq:=hb q
   have ee:eV o g N ij d=none->∀s,Sr (eV o g N ij) d s->s=6:=fun e s hs=>by
    cases hs with
    |top=>rfl
    |here _ z=>exact nomatch e.symm.trans z
    |up _ _ hs=>exact hq.2 s hs
   have hz:=hq.1
   unfold eV ai at ee
   cases e1:b with
   |true=>rw[e1]at hz;exact nomatch hz
   |false=>
    cases e2:fo (o d) ij with
    |some v=>rw[e1,e2]at hz;exact nomatch hz
    |none=>
     cases e3:fo (g d) ij with
     |some v=>rw[e1,e2,e3]at hz;exact nomatch hz
     |none=>
      rw[e2,e3]at ee
      exact⟨rfl,ee (by induction z3 (N d) ij<;>rfl)⟩
  ·exact top (Nat.not_lt_of_le h6) hd hy
theorem zi (n:Nat):(b9 pg (n+60)).run 28 [] Y=.ok (.E1 (mk false u0)) Y:=by rfl'
theorem jU:I6 pg .sorted [.Z9 (mk b u)] Y=some (.g6 ((bif b then KN else K8).map .str)):=by
 induction b with
 |true=>rfl'
 |false=>rfl'
theorem kz (x:Wk c p o g k t N) (hd:d < 6):∃b,(b=false->∀s,Sr (eV o g N ij) d s->s=6)∧(b9 pg (n+76)).run 44 [.loc 1,.int (ob d)] (H p o g k t)=.ok (.g6 ((bif b then KN else K8).map .str)) (H p o g k t):=by
 obtain⟨b,u,y,hy,hb,e⟩:=Gq (j:=19) (b:=false) (u:=u0) n x (zF hd) (Nat.lt_succ_of_lt hd) .nil
 refine⟨b,fun q=>(hb q).2,t8 (n:=n+75) (fd:=de) (m:=[(41,.loc 1),(21,.int (qR d))]) (p:=(.ret (.g6 ((bif b then KN else K8).map .str)),ic 6 b u y)) rfl (by rw[cg hd];rfl) ?_⟩
 have h0:g8 pg (b9 pg (n+74)) [(41,.loc 1),(21,.int (qR d))] (.assign (.B3 94) (.call (.NT 78) [])) (H p o g k t)=.ok (.next,ic d false u0 []) (H p o g k t):=m3 (j0 (n:=n+73) (k:=28) (vs:=[]) rfl rfl (zi (n+13))) rfl
 exact(c6 h0).trans ((c6 (s:=.y6 nT nW) e).trans (s9 (B1 rfl (Ku (n:=n+73) (b:=.sorted) (e:=.NT 18) (es:=[.NT 94]) (c7:=H p o g k t) (vs:=[.Z9 (mk b u)]) (by induction hy<;>rfl) (by induction hy<;>rfl) jU) rfl)))
end
noncomputable def nz (Z:Txt->V) (S:Txt->Txt) (x:Txt):V:=.tup [.str x,Z x,.str (S x)]
noncomputable def gi (v:V):Bool:=!(F7 v).isSome
noncomputable def sT (Z:Txt->V) (S:Txt->Txt) (x:Txt):List V:=bif gi (Z x)then[nz Z S x]else[]
theorem tG {x:Txt} (h:x∈KN):x∈N5:=kQ (List.all_eq_true.mp (show(KN.all fun x=>N5.any (r5 x))=true by rfl') x h)
section
variable {cd:X} {y:Nat} {f:Txt->V} {q:Txt->Bool}
theorem wC {l:List Txt} (h:∀x∈l,r.tr (putN m y (f x)) cd Y=.ok (q x) Y∧r.ev (putN m y (f x)) elt Y=.ok (f x) Y∧freeze (f x)=some (f x)):bA r m elt [y] (some cd) (l.map f) Y=.ok (l.flatMap fun x=>bif q x then[f x]else[]) Y:=by
 induction l with
 |nil=>rfl
 |cons x l ih=>
  obtain⟨h1,h2,h3⟩:=h x (.head _)
  have e:jI r m elt [y] (some cd) (f x) Y=.ok (bif q x then[f x]else[]) Y:=by
   refine v8 (a:=putN m y (f x)) (c7:=Y) rfl ?_
   show((r.tr (putN m y (f x)) cd Y).z6).bind _=_
   rw[h1]
   induction q x with
   |false=>rfl
   |true=>
    show((r.ev (putN m y (f x)) elt Y).z6).bind _=_
    rw[h2]
    show(b8 76 (freeze (f x)) Y).bind _=_
    rw[h3];rfl
  exact v8 e (v8 (ih fun b hb=>h b (.tail _ hb)) rfl)
end
noncomputable def LJ:V:=.str [104,105,100,100,101,110]
noncomputable def LI:V:=.str [115,116,97,110,100,97,114,100]
noncomputable def xl (x:Txt):Option V:=bc [(tI,LJ),(tH,LI)] x
theorem Hz {x:Txt} (h:x∈N5):(xl x).getD (hZ x)=ud x:=e8 (β:=V) (a:=x) (f:=fun x=>(xl x).getD (hZ x)) (h:=ud) (by rfl') h
theorem yD {x:Txt} (h:x∈V7):xl x=none:=e8 (β:=Option V) (a:=x) (f:=xl) (h:=fun J=>none) (by rfl') h
theorem LP:[tI,tH].map (fun x=>V7.any (r5 x))=[false,false]:=by rfl'
noncomputable def eB:List S:=match M6.body with
 |_::.F1 _ _ _ b::_=>b
 |_=>[]
noncomputable def Bf (pl:Nat) (acc:List V) (y:Fr):Fr:=[(15,.loc 8),(21,.int (Int.ofNat pl)),(94,.g6 acc)]++y
inductive Ey:Fr->Prop
 |nil:Ey []
 |four (a b c d:V):Ey [(14,a),(81,b),(100,c),(134,d)]
section
variable {x sx:Txt} {z':V} {S:Txt->Nat} {T:Txt->Txt} (n:Nat)
theorem FX (w:Wk c p o g k t N) (hx:x∈N5) (hs:Sr (eV o g N x) d s):(xl x).getD (pV o g N (hZ x) x s)=pV o g N (ud x) x s:=by
 unfold pV
 rcases Nat.lt_or_ge s 6 with h|h
 ·rw[show Nat.blt s 6=true from Oq h]
  refine(OG hx).elim (fun h7=>by rw[yD h7];rfl) fun h2=>?_
  obtain⟨v,e⟩:=(fe hs).2 h
  have hp:=S8 w h hx
  have no:¬x∈V7:=fun h7=>by
   have e7:=yD h7
   exact(Of h2).elim (fun q=>by rw[q]at e7;exact nomatch e7) fun q=>by rw[Og q]at e7;exact nomatch e7
  rw[e]at hp
  generalize eN p x s=a at hp
  cases hp with
  |some i v A=>exact absurd A.key no
 ·rw[show s=6 from Nat.le_antisymm (Nat.le_of_lt_succ (fe hs).1) h]
  exact Hz hx
noncomputable def Dd:X:=.l5 (.dict [((.lit (V.str [115,110,97,112,100,105,114])),(.lit (V.str [104,105,100,100,101,110]))),((.lit (V.str [115,121,110,99])),(.lit (V.str [115,116,97,110,100,97,114,100])))]) 1 [(.NT 14),(.NT 81)]
noncomputable def eE (pl:Nat) (acc:List V) (x:Txt) (z:V) (sx:Txt) (y:Fr):Fr:=Bf pl acc ([(14,.str x),(81,z),(100,.str sx)]++y)
theorem JZ (n:Nat) {y:Fr} (h:mx z=true):(b9 pg (n+75)).ev (eE pl acc x z sx y) Dd Y=.ok ((xl x).getD z) Y:=ak (G:=fun z=>(b9 pg (n+75)).ev (eE pl acc x z sx y) Dd Y=.ok ((xl x).getD z) Y) h rfl (fun J=>rfl) fun J=>rfl
theorem Lx {P:Pg} {r:Ev} {m:Fr} {e:X} {a b:V} {i j:Nat} (he:r.ev m e Y=.ok (.tup [a,b]) Y) (ha:freeze a=some a) (hb:freeze b=some b):g8 P r m (.H4 [.NT i,.NT j] e) Y=.ok (.next,putN (putN m i a) j b) Y:=by
 refine v8 he (v8 (a:=[a,b]) (c7:=Y) rfl (v8 (a:=()) (c7:=Y) rfl ?_))
 refine v8 (c7:=Y) (v8 (D3 ha) (v8 (D3 hb) rfl)) rfl
theorem Ho (hy:Ey y) (hz:mx z=true) (hz':mx z'=true) (ho:(xl x).getD z=z') (hl:acc.length≤1000) (h52:(b9 pg (n+78)).run 52 [.loc 8,.int (Int.ofNat pl),.str x] Y=.ok (.tup [z,.str sx]) Y):
 a8 pg (b9 pg (n+79)) (putN (Bf pl acc y) 14 (.str x)) eB Y=.ok (.next,eE pl (acc++bif gi z' then[.tup [.str x,z',.str sx]]else[]) x z sx [(134,z')]) Y:=by
 have h3:a8 pg (b9 pg (n+79)) (eE pl acc x z sx [(134,z')]) (eB.drop 2) Y=.ok (.next,eE pl (acc++bif gi z' then[.tup [.str x,z',.str sx]]else[]) x z sx [(134,z')]) Y:=by
  have go:∀{w:V},(b9 pg (n+79)).tr (eE pl acc x z sx [(134,w)]) (.cmp (.NT 134) [(.M5,(.lit V.none))]) Y=.ok true Y->(b9 pg (n+78)).ev (eE pl acc x z sx [(134,w)]) (.tuple [(.NT 14),(.NT 134),(.NT 100)]) Y=.ok (.tup [.str x,w,.str sx]) Y->a8 pg (b9 pg (n+79)) (eE pl acc x z sx [(134,w)]) (eB.drop 2) Y=.ok (.next,eE pl (acc++[.tup [.str x,w,.str sx]]) x z sx [(134,w)]) Y:=fun{w} ht he=>
   (c6 (bh (n:=n+78) ht ((c6 (kH (xs:=acc) (w:=.tup [.str x,w,.str sx]) rfl he rfl hl)).trans g5))).trans g5
  have h0:a8 pg (b9 pg (n+79)) (eE pl acc x z sx [(134,.none)]) (eB.drop 2) Y=.ok (.next,eE pl acc x z sx [(134,.none)]) Y:=by rfl'
  exact ak (G:=fun w=>a8 pg (b9 pg (n+79)) (eE pl acc x z sx [(134,w)]) (eB.drop 2) Y=.ok (.next,eE pl (acc++bif gi w then[.tup [.str x,w,.str sx]]else[]) x z sx [(134,w)]) Y) hz'
   (h0.trans (by rw[show(bif gi V.none then[V.tup [.str x,V.none,.str sx]]else[])=[]from rfl,Ox])) (fun i=>go (by rfl') (by rfl')) fun s=>go (by rfl') (by rfl')
 have h2:∀y',putN (eE pl acc x z sx y') 134 z'=eE pl acc x z sx [(134,z')]->a8 pg (b9 pg (n+79)) (eE pl acc x z sx y') (eB.drop 1) Y=.ok (.next,eE pl (acc++bif gi z' then[.tup [.str x,z',.str sx]]else[]) x z sx [(134,z')]) Y:=fun y' e=>
  have hs:store pg (b9 pg (n+79)) (.NT 134) z' (eE pl acc x z sx y') Y=.ok (eE pl acc x z sx [(134,z')]) Y:=(D3 (kO hz')).trans (Oh (fun m:Fr=>R.ok m Y) e)
  have hg:(b9 pg (n+79)).ev (eE pl acc x z sx y') Dd Y=.ok z' Y:=ho▸JZ (n+4) hz
  (c6 (s:=.assign (.NT 134) Dd) (m3 hg hs)).trans h3
 have h1:∀y,(b9 pg (n+78)).ev (putN (Bf pl acc y) 14 (.str x)) (.NT 130) Y=.ok (.fn 52) Y->G7 (b9 pg (n+78)) (putN (Bf pl acc y) 14 (.str x)) [(.NT 15),(.NT 21),(.NT 14)] Y=.ok [.loc 8,.int (Int.ofNat pl),.str x] Y->∀y',putN (putN (putN (Bf pl acc y) 14 (.str x)) 81 z) 100 (.str sx)=eE pl acc x z sx y'->putN (eE pl acc x z sx y') 134 z'=eE pl acc x z sx [(134,z')]->a8 pg (b9 pg (n+79)) (putN (Bf pl acc y) 14 (.str x)) eB Y=.ok (.next,eE pl (acc++bif gi z' then[.tup [.str x,z',.str sx]]else[]) x z sx [(134,z')]) Y:=fun y a b y' e1 e2=>
  (c6 (s:=.H4 [(.NT 81),(.NT 100)] (.call (.NT 130) [(.NT 15),(.NT 21),(.NT 14)])) (Lx (j0 (n:=n+78) a b h52) (kO hz) rfl)).trans (by rw[e1];exact h2 y' e2)
 induction hy with
 |nil=>exact h1 [] rfl rfl [] rfl rfl
 |four a b c d=>exact h1 [(14,a),(81,b),(100,c),(134,d)] rfl rfl [(134,d)] rfl rfl
noncomputable def Zf (o g:Nat->O) (N:Nat->List Txt) (S:Txt->Nat) (x:Txt):V:=pV o g N (ud x) x (S x)
noncomputable abbrev S3 (o g:Nat->O) (N:Nat->List Txt) (S:Txt->Nat) (x:Txt):List V:=sT (Zf o g N S) (fun x=>pP (S x)) x
theorem Hq (w:Wk c p o g k t N) (hp:pl < 6) (hS:∀x,Sr (eV o g N x) pl (S x)) {l:List Txt}:∀{acc:List V} {y:Fr},(∀x∈l,x∈N5)->acc.length+l.length≤1000->Ey y->∃y',Ey y'∧Q4 (b9 pg (n+80)) [14] eB (l.map .str) (Bf pl acc y) (H p o g k t)=.ok (.next,Bf pl (acc++l.flatMap (S3 o g N S)) y') (H p o g k t):=by
 induction l with
 |nil=>exact fun{acc y} J J hy=>⟨y,hy,by rw[List.flatMap_nil,Ox];rfl⟩
 |cons x l ih=>
  intro acc y hl hz hy
  have hx:=hl x (.head _)
  have e1:=Ho (x:=x) n hy (yA w hx (GH hx)) (yA w hx (HA hx)) (FX w hx (hS x)) (Oe (Nat.le_add_right _ _) hz) (cC (n+13) w hp hx (hS x))
  have hz2:(acc++S3 o g N S x).length+l.length≤1000:=by
   rw[List.length_append,Nat.add_assoc]
   refine Oe (Oj ?_ _) hz
   rw[List.length_cons,Nat.add_comm]
   refine Oj ?_ _
   unfold S3 sT
   induction gi (Zf o g N S x)with
   |true=>exact OF _
   |false=>exact Nat.zero_le _
  obtain⟨y2,hy2,e2⟩:=ih (fun q hq=>hl q (.tail _ hq)) hz2 (.four _ _ _ _)
  refine⟨y2,hy2,O6 e1 (e2.trans ?_)⟩
  rw[List.append_assoc,List.flatMap_cons]
theorem zU (w:Wk c p o g k t N) (hp:pl < 6) (hS:∀x,Sr (eV o g N x) pl (S x)):(b9 pg (n+82)).run 57 [.loc 8,.int (Int.ofNat pl)] (H p o g k t)=.ok (.g6 (KN.flatMap (S3 o g N S))) (H p o g k t):=by
 obtain⟨y,hy,e⟩:=Hq (acc:=[]) (y:=[]) n w hp hS (l:=KN) (fun x=>tG) (by decide) .nil
 refine t8 (n:=n+81) (fd:=M6) (m:=[(15,.loc 8),(21,.int (Int.ofNat pl))]) (p:=(.ret (.g6 (KN.flatMap (S3 o g N S))),Bf pl (KN.flatMap (S3 o g N S)) y)) rfl rfl ?_
 refine(z4 1 (show a8 pg (b9 pg (n+80)) [(15,.loc 8),(21,.int (Int.ofNat pl))] (M6.body.take 1) (H p o g k t)=.ok (.next,Bf pl [] []) (H p o g k t)from rfl)).trans ((c6 (P:=pg) (r:=b9 pg (n+80)) (tV (vs:=[.g6 (KN.map .str)]) rfl rfl rfl e)).trans (s9 ?_))
 induction hy<;>rfl
theorem xN (w:Wk c p o g k t N):∃x,dat 8 (.g6 (KN.flatMap (S3 o g N S)))=some x:=gK fun v hv=>match List.mem_flatMap.mp hv with
 |⟨nm,hn,hm⟩=>by
  have hN:mx (Zf o g N S nm)=true:=yA w (tG hn) (HA (tG hn))
  unfold S3 sT nz at hm
  generalize Zf o g N S nm=z at hm hN
  cases e:gi z with
  |false=>rw[e]at hm;exact nomatch hm
  |true=>
   rw[e]at hm
   rw[Og hm]
   exact ak (G:=fun z=>∃x,dat 7 (.tup [.str nm,z,.str (pP (S nm))])=some x) hN ⟨_,rfl⟩ (fun J=>⟨_,rfl⟩) fun J=>⟨_,rfl⟩
theorem pB {P:Pg} {m:Fr} {e i:X} {a b v:V} {q:Io} {n:Nat} (h:(b9 P n).ev m e Y=.ok a Y) (h2:(b9 P n).ev m i Y=.ok b Y) (hv:wW q a b=some v):(b9 P (n+1)).ev m (.bin q e i) Y=.ok v Y:=v8 h (v8 h2 (by show b8 91 (wW q a b) Y=_;rw[hv];rfl))
noncomputable def aX:X:=.bin .add (.tuple [(.NT 14)]) (.call (.NT 105) [(.NT 41),(.NT 21),(.NT 14)])
noncomputable def aC:X:=.cmp (.sub (.NT 34) (.lit (V.int 1))) [(.M5,(.lit V.none))]
theorem Ia (w:Wk c p o g k t N) (hp:pl < 6) (hS:∀x,Sr (eV o g N x) pl (S x)):(b9 pg (n+82)).run 45 [.loc 1,.int (ob pl)] (H p o g k t)=.ok (.g6 (KN.flatMap (S3 o g N S))) (H p o g k t):=by
 obtain⟨b,hb,hn⟩:=kz (n+2) w hp
 have hin:∀x,x∈(bif b then KN else K8)->x∈N5:=fun x hx=>tG (by
  induction b with
  |true=>exact hx
  |false=>exact .tail _ hx)
 have hR:(bif b then KN else K8).flatMap (S3 o g N S)=KN.flatMap (S3 o g N S):=by
  induction b with
  |true=>rfl
  |false=>
   have h0:Zf o g N S ij=.none:=by
    unfold Zf
    rw[hb rfl (S ij) (hS ij)]
    show ud ij=_
    rfl'
   show _=S3 o g N S ij++K8.flatMap (S3 o g N S)
   unfold S3 sT
   rw[h0];rfl
 have hl:Nat.ble (bif b then KN else K8).length 1000=true:=by induction b<;>rfl
 rw[←hR]
 generalize (bif b then KN else K8)=L at hn hin hl
 have hm:∀{f:Txt->V},Nat.ble (L.map f).length 1000=true:=fun{f}=>by rw[Oi];exact hl
 have c1:(b9 pg (n+80)).ev (mR pl) (.comp false aX [14] .val [(.call (.NT 106) [(.NT 41),(.NT 21)])] none) (H p o g k t)=.ok (.g6 (L.map (nz (Zf o g N S) fun x=>pP (S x)))) (H p o g k t):=
  uj (n:=n+79) (vs:=[.g6 (L.map .str)]) (items:=L.map .str) (v8 (j0 (n:=n+78) (k:=44) (vs:=[.loc 1,.int (ob pl)]) rfl rfl hn) rfl) rfl rfl hm rfl (cD fun x hx=>⟨pB (n:=n+78) (a:=.tup [.str x]) (e:=.tuple [(.NT 14)]) rfl (j0 (n:=n+77) (k:=43) (vs:=[.loc 1,.int (ob pl),.str x]) rfl rfl (jY (n+10) w hp (hin x hx) (hS x))) rfl,rfl⟩)
 have c2:(b9 pg (n+80)).ev [(41,.loc 1),(21,.int (ob pl)),(15,.lst (L.map (nz (Zf o g N S) fun x=>pP (S x))))] (.comp false (.NT 34) [34] .val [(.NT 15)] (some aC)) (H p o g k t)=.ok (.g6 (L.flatMap (S3 o g N S))) (H p o g k t):=
  uj (n:=n+79) (vs:=[.lst (L.map (nz (Zf o g N S) fun x=>pP (S x)))]) (items:=L.map (nz (Zf o g N S) fun x=>pP (S x))) rfl rfl rfl hm rfl (wC (q:=fun x=>gi (Zf o g N S x)) fun x hx=>⟨ak (G:=fun z=>(b9 pg (n+79)).tr (putN [(41,.loc 1),(21,.int (ob pl)),(15,.lst (L.map (nz (Zf o g N S) fun x=>pP (S x))))] 34 (.tup [.str x,z,.str (pP (S x))])) aC (H p o g k t)=.ok (gi z) (H p o g k t)) (yA w (hin x hx) (HA (hin x hx)):mx (Zf o g N S x)=true) rfl (fun J=>rfl) fun J=>rfl,rfl,rfl⟩)
 exact t8 (n:=n+81) (fd:=df) (m:=mR pl) (p:=(.ret (.g6 (L.flatMap (S3 o g N S))),[(41,.loc 1),(21,.int (ob pl)),(15,.lst (L.map (nz (Zf o g N S) fun x=>pP (S x))))])) rfl rfl ((c6 (m3 c1 rfl)).trans (s9 (B1 rfl c2 rfl)))
end
section
variable {b:List S} {y:Nat} {z:R (Fl×Fr)} {u:V}
theorem jz (h:r.Y9 (putN (putN m x u) y v) b Y=.ok (.next,m') c7) (h2:Q4 r [x,y] b vs m' c7=z):Q4 r [x,y] b (.tup [u,v]::vs) m Y=z:=by
 show(b8 130 (some (putN (putN m x u) y v)) Y).bind _=_
 refine v8 (a:=putN (putN m x u) y v) (c7:=Y) rfl ?_
 show((r.Y9 (putN (putN m x u) y v) b Y).z6).bind _=_
 rw[h]
 exact h2
theorem Ek {P:Pg} {n k:Nat} {m:Fr} {Y:Hp} {v:V} (h:d6 m k=none) (h2:d6 P.glob k=some v):(b9 P (n+1)).ev m (.NT k) Y=.ok v Y:=by
 show nM (d6 m k) _ (b8 90 (d6 P.glob k) Y)=_
 rw[h,h2];rfl
theorem JA {P:Pg} {n:Nat} {m:Fr} {Y c7:Hp} {t e i:X} {r:R V} (ht:(b9 P n).tr m t Y=.ok true c7) (h:(b9 P n).ev m e c7=r):(b9 P (n+1)).ev m (.ite t e i) Y=r:=v8 ht h
theorem Mg {P:Pg} {n:Nat} {m:Fr} {Y c7:Hp} {t e i:X} {r:R V} (ht:(b9 P n).tr m t Y=.ok false c7) (h:(b9 P n).ev m i c7=r):(b9 P (n+1)).ev m (.ite t e i) Y=r:=v8 ht h
theorem Mz {P:Pg} {n:Nat} {m:Fr} {Y:Hp} {t e:X} {a b:Bool} (h1:(b9 P n).tr m t Y=.ok a Y) (h2:(b9 P n).tr m e Y=.ok b Y):(b9 P (n+1)).tr m (.R5 [t,e]) Y=.ok (a&&b) Y:=by
 show((b9 P n).tr m t Y).bind _=_
 rw[h1]
 induction a with
 |false=>rfl
 |true=>
  show((b9 P n).tr m e Y).bind _=_
  rw[h2]
  induction b<;>rfl
theorem Jb {P:Pg} {n:Nat} {m:Fr} {Y c7:Hp} {f:X} {es:List X} {b:Bool} (h:(b9 P n).ev m (.call f es) Y=.ok (.bool b) c7):(b9 P (n+2)).tr m (.not (.call f es)) Y=.ok (!b) c7:=v8 (x:=(b9 P (n+1)).tr m (.call f es) Y) (a:=b) (v8 h rfl) rfl
theorem zQ (he:m7 r m it Y=.ok vs Y) (hs:aI .enum 2 vs=some items) (h:Q4 r [x,y] b items m Y=z):g8 P r m (.F1 [x,y] .enum it b) Y=z:=by
 show((m7 r m it Y).z6).bind _=_
 rw[he]
 show(b8 142 (aI .enum 2 vs) Y).bind _=_
 rw[hs]
 exact h
end
section
theorem dQ (x:Int) {n:Nat} (h:0 < n):∃j,j < n∧x % Int.ofNat n=Int.ofNat j:=
 have h0:=Int.emod_nonneg x (show Int.ofNat n≠0 from fun e=>absurd (Int.ofNat.inj e) (Nat.pos_iff_ne_zero.mp h))
 have h1:=Int.emod_lt_of_pos x (Int.ofNat_lt.mpr h)
 match e:x % Int.ofNat n with
 |.ofNat j=>⟨j,Int.ofNat_lt.mp (show Int.ofNat j < Int.ofNat n from e▸h1),rfl⟩
 |.negSucc j=>absurd (e▸h0) (Int.not_le.mpr (Int.negSucc_lt_zero j))
theorem V9 {l:List V} (x:Int) (h:0 < l.length) (hl:l.length≤1000):∃v,v∈l∧uP (.lst l) (.int (x % Int.ofNat l.length)) Y=some v:=by
 obtain⟨j,hj,e⟩:=dQ x h
 refine⟨l[j],List.getElem_mem hj,?_⟩
 rw[e]
 show((((gd (Nat.blt j l.length&&Nat.ble j 1000) j).bind fun j=>l[j]?)).or none)=_
 rw[show Nat.blt j l.length=true from Oq hj,show Nat.ble j 1000=true from Oq (Oe (Nat.le_of_lt hj) hl)]
 show(l[j]?).or none=_
 rw[Ol hj];rfl
end
noncomputable def lF (L:List V) (nm:Txt) (y:Fr):Fr:=[(135,.lst L),(41,.loc 1),(15,.loc 8),(14,.str nm),(29,.int 0),(138,.str [101]),(34,.loc 23),(56,.lst (fL.map .str)),(140,.lst bO)]++y
noncomputable def lG (i x pl w:Int) (y:Fr):Fr:=[(141,.int i),(142,.int x),(21,.int pl),(120,.int w)]++y
inductive Gy:Fr->Prop
 |nil:Gy []
 |full (i x pl w:Int) (l:List V) (v:V):Gy (lG i x pl w [(143,.lst l),(81,v)])
inductive Hy:Fr->Prop
 |nil:Hy []
 |two (l:List V) (v:V):Hy [(143,.lst l),(81,v)]
inductive Jy:Fr->Prop
 |nil:Jy []
 |one (v:V):Jy [(81,v)]
inductive Gf (L:List V):Fr->Prop
 |mk (nm:Txt) (pl:Nat) (i x w:Int) (l:List V) (v:V) (hn:nm∈NM) (hp:pl < 6):Gf L (lF L nm (lG i x (Int.ofNat pl) w [(143,.lst l),(81,v)]))
noncomputable def uB:List S:=match I8.body.getD 7 .pass with
 |.F1 _ _ _ b=>b
 |_=>[]
noncomputable def vX:X:=match uB.getD 2 .pass with
 |.assign _ e=>e
 |_=>.lit .none
noncomputable def vT:X:=match vX with
 |.ite t _ _=>t
 |_=>.lit .none
variable {L:List V}
section
variable {nm':Txt} {x pl a:Int} {q:Txt×List V} (n:Nat)
theorem LY (hy:Gy y) (hs:uP (.lst (fL.map .str)) (.int ((x / 36+i) % 9)) Y=some (.str nm')):∃y1,Hy y1∧g8 pg (b9 pg (n+90)) (putN (putN (lF L nm y) 141 (.int i)) 142 (.int x)) (uB.getD 0 .pass) Y=.ok (.next,lF L nm' (lG i x (x / 6 % 6) (x % 6) y1)) Y:=by
 have go:∀m,d6 m 142=some (.int x)->d6 m 141=some (.int i)->d6 m 56=some (.lst (fL.map .str))->g8 pg (b9 pg (n+90)) m (uB.getD 0 .pass) Y=.ok (.next,putN (putN (putN m 14 (.str nm')) 21 (.int (x / 6 % 6))) 120 (.int (x % 6))) Y:=fun m h1 h2 h3=>by
  have ex:∀n,(b9 pg (n+1)).ev m (.NT 142) Y=.ok (.int x) Y:=fun n=>I2 h1 rfl
  have ed:∀(n:Nat) {k:Int} {r:Int},rk (.int x) (.int k) (fun x y=>gd (decide (0 < y)&&decide (y < 1000000)) (.int (x / y)))=some (.int r)->(b9 pg (n+2)).ev m (.bin .fdiv (.NT 142) (.lit (.int k))) Y=.ok (.int r) Y:=fun n {k r} h=>pB (ex n) rfl h
  refine v8 (v8 (pB (n:=n+89) (ex (n+88)) rfl rfl) (v8 (v8 (pB (n:=n+89) (ed (n+87) rfl) rfl rfl) (v8 (v8 (xU (n:=n+89) (I2 (n:=n+88) h3 rfl) (pB (n:=n+88) (pB (n:=n+87) (ed (n+85) rfl) (I2 (n:=n+86) h2 rfl) rfl) rfl rfl) hs) rfl) rfl)) rfl)) rfl
 induction hy with
 |nil=>exact⟨[],.nil,go _ rfl rfl rfl⟩
 |full a b c d l v=>exact⟨_,.two l v,go _ rfl rfl rfl⟩
theorem LX (hy:Hy y) (hq:q∈N9):∃y2,Jy y2∧g8 pg (b9 pg (n+90)) (lF L q.1 (lG i x pl w y)) (uB.getD 1 .pass) Y=.ok (.next,lF L q.1 (lG i x pl w ((143,.lst q.2)::y2))) Y:=by
 have h48:(b9 pg (n+89)).run 48 [.str q.1] Y=.ok (Lm q.2) Y:=Km (n+29) Y hq
 have hf:freeze (Lm q.2)=some (.lst q.2):=by induction q with|mk a b=>induction b<;>rfl
 have go:∀m,d6 m 14=some (.str q.1)->d6 m 115=none->g8 pg (b9 pg (n+90)) m (.assign (.NT 143) (.call (.NT 115) [(.NT 14)])) Y=.ok (.next,putN m 143 (.lst q.2)) Y:=fun m h h2=>
  m3 (j0 (n:=n+89) (k:=48) (vs:=[.str q.1]) (Ek h2 rfl) (i5 (I2 (n:=n+88) h rfl) rfl rfl) h48) (D3 hf)
 induction hy with
 |nil=>exact⟨[],.nil,go _ rfl rfl⟩
 |two l v=>exact⟨[(81,v)],.one v,go _ rfl rfl⟩
theorem GK (n:Nat) (hq:q∈N9) {y2:Fr}:(b9 pg (n+80)).tr (lF L nm (lG i x pl w ((143,.lst q.2)::y2))) vT Y=.ok (!q.2.isEmpty&&decide (x / 324 % 3 > 0)) Y:=by
 have h2:(b9 pg (n+79)).tr (lF L nm (lG i x pl w ((143,.lst q.2)::y2))) (.cmp (.bin .mod (.bin .fdiv (.NT 142) (.lit (V.int 324))) (.lit (V.int 3))) [(.gt,(.lit (V.int 0)))]) Y=.ok (decide (x / 324 % 3 > 0)) Y:=rfl
 have h1:(b9 pg (n+79)).tr (lF L nm (lG i x pl w ((143,.lst q.2)::y2))) (.cmp (.NT 143) [(.ne,(.list []))]) Y=.ok (!q.2.isEmpty) Y:=e8 (β:=R Bool) (a:=q) (f:=fun q=>(b9 pg (n+79)).tr (lF L nm (lG i x pl w ((143,.lst q.2)::y2))) (.cmp (.NT 143) [(.ne,(.list []))]) Y) (h:=fun q=>.ok (!q.2.isEmpty) Y) (by rfl') hq
 exact Mz h1 h2
theorem Ju (n:Nat) (hq:q∈N9) {y2:Fr} (hy2:Jy y2):∃v,v∈q.2++bO∧(b9 pg (n+81)).ev (lF L nm (lG i x pl w ((143,.lst q.2)::y2))) vX Y=.ok v Y:=by
 have ht:=GK (L:=L) (nm:=nm) (i:=i) (x:=x) (pl:=pl) (w:=w) (Y:=Y) (y2:=y2) n hq
 cases e:(!q.2.isEmpty&&decide (x / 324 % 3 > 0))with
 |false=>
  rw[e]at ht
  obtain⟨v,hv,hs⟩:=V9 (Y:=Y) (l:=bO) (x / 972) (by decide) (by decide)
  exact⟨v,Ob _ hv,Mg ht (xU (n:=n+79) (o:=.NT 140) (i:=.bin .mod (.bin .fdiv (.NT 142) (.lit (V.int 972))) (.lit (V.int 18))) rfl rfl hs)⟩
 |true=>
  rw[e]at ht
  have h0:q.2.isEmpty=false:=by induction z:q.2.isEmpty with
   |false=>rfl
   |true=>rw[z]at e;exact nomatch e
  have hl:(bif q.2.isEmpty then none else wW .mod (.int (x / 5832)) (.int (Int.ofNat q.2.length)))=(bif q.2.isEmpty then none else some (.int (x / 5832 % Int.ofNat q.2.length))):=e8 (β:=Option V) (a:=q) (f:=fun q=>bif q.2.isEmpty then none else wW .mod (.int (x / 5832)) (.int (Int.ofNat q.2.length))) (h:=fun q=>bif q.2.isEmpty then none else some (.int (x / 5832 % Int.ofNat q.2.length))) (by rfl') hq
  have hk:I6 pg .len [.lst q.2] Y=some (.int (Int.ofNat q.2.length)):=e8 (β:=Option V) (a:=q) (f:=fun q=>I6 pg .len [.lst q.2] Y) (h:=fun q=>some (.int (Int.ofNat q.2.length))) (by rfl') hq
  have hm:Nat.ble q.2.length 1000=true:=e8 (β:=Bool) (a:=q) (f:=fun q=>Nat.ble q.2.length 1000) (h:=fun J=>true) (by rfl') hq
  rw[h0]at hl
  obtain⟨v,hv,hs⟩:=V9 (Y:=Y) (l:=q.2) (x / 5832) (Nat.pos_of_ne_zero fun z=>by rw[List.eq_nil_of_length_eq_zero z]at h0;exact nomatch h0) (NY hm)
  exact⟨v,Oa _ hv,JA ht (xU (n:=n+79) (o:=.NT 143) (i:=.bin .mod (.bin .fdiv (.NT 142) (.lit (V.int 5832))) (.call (.NT 26) [(.NT 143)])) rfl (pB (n:=n+78) (a:=.int (x / 5832)) rfl (Ku (n:=n+77) (b:=.len) (Ek (n:=n+76) (by induction hy2<;>rfl) rfl) rfl hk) hl) hs)⟩
theorem w6 (x:Int):x % 6∈[(0:Int),1,2,3,4,5]:=match dQ x (n:=6) (by decide)with
 |⟨j,hj,e⟩=>by
  rw[show x % 6=Int.ofNat j from e]
  exact(List.mem_map.mpr ⟨j,OH hj,rfl⟩:Int.ofNat j∈(List.range 6).map Int.ofNat)
theorem sJ (s:St c Y) (hc:c≤50) (hy:Gy y):∃c7 m,St (c+1) c7∧Gf L m∧(b9 pg (n+91)).Y9 (putN (putN (lF L nm y) 141 (.int i)) 142 (.int x)) uB Y=.ok (.next,m) c7:=by
 obtain⟨u,hu,hs⟩:=V9 (Y:=Y) (l:=fL.map .str) (x / 36+i) (by decide) (by decide)
 obtain⟨nm',hn',rfl⟩:=List.mem_map.mp hu
 obtain⟨q,hq,rfl⟩:=List.mem_map.mp (show nm'∈N9.map Prod.fst from hn')
 obtain⟨pl,hp,ep⟩:=dQ (x / 6) (n:=6) (by decide)
 have ep:x / 6 % 6=Int.ofNat pl:=ep
 obtain⟨y1,hy1,e1⟩:=LY (L:=L) (nm:=nm) n hy hs
 rw[ep]at e1
 obtain⟨y2,hy2,e2⟩:=LX (L:=L) (Y:=Y) (i:=i) (x:=x) (pl:=Int.ofNat pl) (w:=x % 6) n hy1 hq
 obtain⟨v,hv,e3⟩:=Ju (L:=L) (nm:=q.1) (i:=i) (x:=x) (pl:=Int.ofNat pl) (w:=x % 6) (Y:=Y) (n+9) hq hy2
 have hnv:=Ja hq hv
 have pv:=Ej hnv
 obtain⟨c7,e4,s'⟩:=Kb (n+2) s hc (w6 x) hp (show q.1∈NM from hn') hnv
 have est:store pg (b9 pg (n+90)) (.NT 81) v (lF L q.1 (lG i x (Int.ofNat pl) (x % 6) ((143,.lst q.2)::y2))) Y=.ok (lF L q.1 (lG i x (Int.ofNat pl) (x % 6) [(143,.lst q.2),(81,v)])) Y:=(D3 pv.fz).trans (by induction hy2<;>rfl)
 refine⟨c7,_,s',.mk q.1 pl i x (x % 6) q.2 v hn' hp,(c6 e1).trans ((c6 e2).trans ((c6 (s:=.assign (.NT 81) vX) (m':=lF L q.1 (lG i x (Int.ofNat pl) (x % 6) [(143,.lst q.2),(81,v)])) (m3 e3 est)).trans ?_))⟩
 have e5:(b9 pg (n+88)).ev (lF L q.1 (lG i x (Int.ofNat pl) (x % 6) [(143,.lst q.2),(81,v)])) (.call (.NT 144) [(.NT 41),(.NT 15),(.NT 120),(.NT 21),(.NT 14),(.NT 81)]) Y=.ok (.bool true) c7:=j0 (n:=n+87) (k:=54) (vs:=[.loc 1,.loc 8,.int (x % 6),.int (Int.ofNat pl),.str q.1,v]) rfl (i5 rfl rfl (i5 rfl rfl (i5 rfl rfl (i5 rfl rfl (i5 rfl rfl (i5 (I2 (n:=n+86) rfl pv.rd) pv.fz rfl)))))) e4
 exact(c6 (N4 (n:=n+89) (Jb (n:=n+88) e5) rfl)).trans g5
end
noncomputable abbrev S4 (l:List Int):List V:=l.map V.int
section
variable {o:X} {a b:V} {op:hV} {t:Bool} {k:Int}
theorem wI (he:(b9 P n).ev m e Y=.ok b Y) (h:rV op a b Y=some t):Z0 (b9 P n) m a [(op,e)] Y=.ok t Y:=by
 refine v8 he ?_
 show(b8 74 (rV op a b Y) Y).bind _=_
 rw[h];rfl
theorem EE (ho:(b9 P n).ev m o Y=.ok ov Y) (hi:(b9 P n).ev m e Y=.ok (.int k) Y) (h:fg ov none (some k)=some v):(b9 P (n+1)).ev m (.slice o none (some e)) Y=.ok v Y:=by
 refine v8 ho ?_
 show(lk (b9 P n) m (some e) Y).bind _=_
 refine v8 (a:=some k) (c7:=Y) (v8 hi rfl) ?_
 show b8 96 (fg ov none (some k)) Y=_
 rw[h];rfl
end
section
variable {l:List Int} (n:Nat)
theorem Ad:U4 (dat 7) (S4 l)=some (l.map D.int):=by
 induction l with
 |nil=>rfl
 |cons a r ih=>
  show(U4 (dat 7) (S4 r)).map (D.int a:: ·)=_
  rw[ih];rfl
theorem zy {d:Nat}:dat 8 (.g6 (S4 l))=some (.seq false (l.map D.int)):=by
 show(U4 (dat 7) (S4 l)).map (D.seq false)=_
 rw[Ad];rfl
theorem BE:∃s,mN (S4 l)=some s:=by
 induction l with
 |nil=>exact⟨0,rfl⟩
 |cons a r ih=>exact ih.elim fun s h=>⟨a+s,by
  show(mN (S4 r)).map (a+ ·)=_
  rw[h];rfl⟩
theorem Kj {α:Type} {xs:List α} {k:Nat}:Mine.cut none (some (Int.ofNat k)) xs=xs.take k:=by
 show(xs.drop 0).take ((bif Nat.ble k xs.length then k else xs.length) - 0)=_
 rw[List.drop_zero,Nat.sub_zero]
 cases e:Nat.ble k xs.length with
 |true=>rfl
 |false=>exact(List.take_length ..).trans (List.take_of_length_le (Nat.le_of_lt (Nat.lt_of_not_le fun h=>Bool.noConfusion (e.symm.trans (Oq h))))).symm
theorem EP {k:Nat} (h:l.length≤1000):fg (.lst (S4 l)) none (some (Int.ofNat k))=some (.g6 ((S4 l).take k)):=by
 show(gd (Nat.ble (S4 l).length 1000) (V.g6 (Mine.cut none (some (Int.ofNat k)) (S4 l))))=_
 rw[Kj,show Nat.ble (S4 l).length 1000=true from by rw[Oi];exact Oq h]
 rfl
noncomputable def Mh (l:List Int):List V:=l.zipIdx.map fun a=>.tup [.int (Int.ofNat a.2),.int a.1]
theorem Dr (h:l.length≤1000):aI .enum 2 [.g6 (S4 l)]=some (Mh l):=by
 show(gd (Nat.ble (S4 l).length 1000) (gH (S4 l)))=_
 rw[show Nat.ble (S4 l).length 1000=true from by rw[Oi];exact Oq h]
 show some (gH (S4 l))=_
 unfold gH Mh S4
 rw[List.zipIdx_map,List.map_map]
 rfl
theorem CM {l:List (Int×Nat)}:∀{c:Nat} {Y:Hp} {m:Fr},c+l.length≤50->St c Y->Gf L m->∃c' c7 m',St c' c7∧Gf L m'∧Q4 (b9 pg (n+91)) [141,142] uB (l.map fun a=>.tup [.int (Int.ofNat a.2),.int a.1]) m Y=.ok (.next,m') c7:=by
 induction l with
 |nil=>exact fun{c Y m} J s h=>⟨c,Y,m,s,h,rfl⟩
 |cons a r ih=>
  intro c Y m hc s h
  induction h with
  |mk nm pl i x w l v hn hp=>
   obtain⟨Ni,m1,s1,h1,e1⟩:=sJ (L:=L) (i:=Int.ofNat a.2) (x:=a.1) n s (Oe (Nat.le_add_right _ _) hc) (.full i x (Int.ofNat pl) w l v)
   obtain⟨c',c7,m',s',h',e'⟩:=ih (by rw[Nat.add_assoc,Nat.add_comm 1];exact hc) s1 h1
   exact⟨c',c7,m',s',h',jz e1 e'⟩
theorem CL {a:Int} (hl:(a::l).length≤50) (s:St 0 Y):∃c' c7 m',St c' c7∧Gf L m'∧Q4 (b9 pg (n+91)) [141,142] uB (Mh (a::l)) (lF L [101] []) Y=.ok (.next,m') c7:=by
 obtain⟨Ni,m1,s1,h1,e1⟩:=sJ (L:=L) (nm:=[101]) (i:=0) (x:=a) n s (Nat.zero_le _) .nil
 obtain⟨c',c7,m',s',h',e'⟩:=CM (l:=l.zipIdx 1) n (by rw[List.length_zipIdx,Nat.add_comm];exact hl) s1 h1
 exact⟨c',c7,m',s',h',jz e1 e'⟩
theorem Kc:Dir (fun J=>none) (fun J=>none) (fun J=>none) []:=⟨fun q h=>absurd rfl h,fun q h=>absurd rfl h,fun q h=>absurd rfl h,fun nm J=>.none,fun nm J=>.none,fun nm J=>rfl,fun nm J h=>nomatch h⟩
theorem LC:St 0 H0:=.mk _ _ _ _ _ (fun J=>[]) ⟨⟨fun d J=>.emp,fun d J=>.emp,fun d J=>.emp,fun d J=>.inl ⟨rfl,rfl⟩⟩,fun d J=>Kc,fun d J=>OF _⟩
noncomputable def MU:X:=match I8.body.getD 7 .pass with
 |.F1 _ _ (e::_) _=>e
 |_=>.lit .none
theorem JC (n:Nat) {xs:List Int} (hx:xs.length≤63):∃a l,(a::l).length≤50∧(b9 pg (n+90)).ev (lF (S4 xs) [101] []) MU Y=.ok (.g6 (S4 (a::l))) Y:=by
 induction xs with
 |nil=>exact⟨100,[7,1000,12],by decide,by rfl'⟩
 |cons a l=>
  refine⟨a,l.take 9,Oe (Nat.succ_le_succ (List.length_take_le _ _)) (by decide),?_⟩
  have hc:rV .ne (.lst (S4 (a::l))) (.g6 []) Y=some true:=by
   show(((dat 8 (.lst (S4 (a::l)))).bind fun x=>(dat 8 (.g6 [])).map fun y=>jC x y).map not)=_
   rw[show dat 8 (.lst (S4 (a::l)))=some (.seq false ((a::l).map D.int))from zy (d:=0)];rfl
  have ht:(b9 pg (n+89)).tr (lF (S4 (a::l)) [101] []) (.cmp (.NT 135) [(.ne,(.list []))]) Y=.ok true Y:=iC (n:=n+88) (v:=.lst (S4 (a::l))) rfl (wI rfl hc)
  refine JA (n:=n+89) (e:=.slice (.NT 135) none (some (.lit (V.int 10)))) ht (EE (n:=n+88) (ov:=.lst (S4 (a::l))) (k:=10) rfl rfl ((EP (k:=10) (Oe hx (by decide))).trans ?_))
  show some (V.g6 (V.int a::(S4 l).take 9))=_
  rw[←List.map_take]
  rfl
theorem CJ {xs:List Int} (hx:xs.length≤63):∃c Y m,St c Y∧Gf (S4 xs) m∧g8 pg (b9 pg (n+91)) (lF (S4 xs) [101] []) (I8.body.getD 7 .pass) H0=.ok (.next,m) Y:=by
 obtain⟨a,l,hl,e⟩:=JC (Y:=H0) (n+1) hx
 obtain⟨c,Y,m,s,h,e2⟩:=CL (L:=S4 xs) n hl LC
 exact⟨c,Y,m,s,h,zQ (it:=[MU]) (v8 e rfl) (Dr (Oe hl (by decide))) e2⟩
theorem xW (n:Nat) {xs:List Int} (hx:xs.length≤63):a8 pg (b9 pg (n+91)) [(135,.lst (S4 xs))] (I8.body.take 1) []=.ok (.next,[(135,.lst (S4 xs))]) []:=by
 have e:(b9 pg (n+91)).ev [(135,.lst (S4 xs))] (.slice (.NT 135) none (some (.lit (V.int 63)))) []=.ok (.g6 (S4 xs)) []:=EE (n:=n+90) (ov:=.lst (S4 xs)) (k:=63) rfl rfl ((EP (k:=63) (Oe hx (by decide))).trans (by rw[List.take_of_length_le (by rw[Oi];exact hx)]))
 exact(c6 (m3 e rfl)).trans g5
end
noncomputable def lZ (L:List V) (nm:Txt) (i x w:Int) (l:List V) (v:V) (pl:Nat) (y:Fr):Fr:=lF L nm (lG i x (Int.ofNat pl) w ([(143,.lst l),(81,v)]++y))
noncomputable def rO (a b c d:Int):V:=.obj 2 [(61,.int a),(62,.int b),(63,.int c),(64,.int d)]
section
variable {p2:Nat} {l:List V} {x s:Int} {S:Txt->Nat} (n:Nat)
theorem Hj (W:Wk c p o g k t N) (hp:pl < 6) (hn:nm∈NM):g8 pg (b9 pg (n+91)) (lZ L nm i x w l v pl []) (I8.body.getD 8 .pass) (H p o g k t)=.ok (.next,lZ L nm i x w l v pl []) (H p o g k t):=by
 have e:(b9 pg (n+89)).ev (lZ L nm i x w l v pl []) (.call (.NT 145) [(.NT 41),(.NT 15),(.NT 21),(.NT 14)]) (H p o g k t)=.ok (.bool true) (H p o g k t):=j0 (n:=n+88) (k:=55) (vs:=[.loc 1,.loc 8,.int (Int.ofNat pl),.str nm]) rfl rfl (Bz (n+6) W hp hn)
 exact N4 (n:=n+90) (Jb (n:=n+89) e) rfl
theorem JT (hs:mN L=some s) (e:s % 6=Int.ofNat p2):g8 pg (b9 pg (n+91)) (lZ L nm i x w l v pl []) (I8.body.getD 9 .pass) Y=.ok (.next,lZ L nm i x w l v p2 []) Y:=by
 have h1:I6 pg .sum [.lst L] Y=some (.int s):=by
  show(mN L).map V.int=_
  rw[hs];rfl
 have h2:(b9 pg (n+91)).ev (lZ L nm i x w l v pl []) (.bin .mod (.call (.NT 19) [(.NT 135)]) (.lit (V.int 6))) Y=.ok (.int (Int.ofNat p2)) Y:=e▸pB (n:=n+90) (Ku (n:=n+89) (b:=.sum) rfl rfl h1) rfl rfl
 exact m3 h2 rfl
theorem EH (n:Nat) (hp:pl < 6):G7 (b9 pg (n+80)) (lZ L nm i x w l v pl []) [(.NT 41),(.sub (.sub (.NT 15) (.NT 21)) (.lit (V.str [111,98,106,101,99,116])))] (H p o g k t)=.ok [.loc 1,.int (ob pl)] (H p o g k t)∧∀u,G7 (b9 pg (n+80)) (lZ L nm i x w l v pl [(133,u)]) [(.NT 41),(.sub (.sub (.NT 15) (.NT 21)) (.lit (V.str [111,98,106,101,99,116])))] (H p o g k t)=.ok [.loc 1,.int (ob pl)] (H p o g k t):=
 ⟨M1 (β:=R (List V)) (f:=fun pl=>G7 (b9 pg (n+80)) (lZ L nm i x w l v pl []) [(.NT 41),(.sub (.sub (.NT 15) (.NT 21)) (.lit (V.str [111,98,106,101,99,116])))] (H p o g k t)) (h:=fun pl=>.ok [.loc 1,.int (ob pl)] (H p o g k t)) (by rfl') hp,
  fun u=>M1 (β:=R (List V)) (f:=fun pl=>G7 (b9 pg (n+80)) (lZ L nm i x w l v pl [(133,u)]) [(.NT 41),(.sub (.sub (.NT 15) (.NT 21)) (.lit (V.str [111,98,106,101,99,116])))] (H p o g k t)) (h:=fun pl=>.ok [.loc 1,.int (ob pl)] (H p o g k t)) (by rfl') hp⟩
theorem Dk (hp:pl < 6) (f:AY (H p o g k t) pl Z I):a8 pg (b9 pg (n+91)) (lZ L nm i x w l v pl []) ((I8.body.drop 10).take 2) (H p o g k t)=.ok (.next,lZ L nm i x w l v pl [(133,rO (I pX) (bif decide (I hW=1)then 3 else I vq) (I pY) (I hW))]) (H p o g k t):=by
 have h1:(b9 pg (n+91)).ev (lZ L nm i x w l v pl []) (.call (.NT 146) [(.NT 41),(.sub (.sub (.NT 15) (.NT 21)) (.lit (V.str [111,98,106,101,99,116])))]) (H p o g k t)=.ok (rO (I pX) (bif decide (I hW=1)then 3 else I vq) (I pY) (I hW)) (H p o g k t):=j0 (n:=n+90) (k:=47) rfl (EH (n+10) hp).1 (yl (n+7) f)
 have h2:=vA (n+6) f
 generalize (bif decide (I hW=1)then 3 else I vq)=b at h1 h2⊢
 have h3:(b9 pg (n+90)).ev (lZ L nm i x w l v pl [(133,rO (I pX) b (I pY) (I hW))]) (.call (.NT 147) [(.NT 15),(.NT 21)]) (H p o g k t)=.ok (.g6 [.int (I pX),.int b,.int (I pY),.int (I hW)]) (H p o g k t):=j0 (n:=n+89) (k:=56) rfl rfl h2
 have h4:(b9 pg (n+90)).ev (lZ L nm i x w l v pl [(133,rO (I pX) b (I pY) (I hW))]) (.list [(.attr (.NT 133) 61),(.attr (.NT 133) 62),(.attr (.NT 133) 63),(.attr (.NT 133) 64)]) (H p o g k t)=.ok (.g6 [.int (I pX),.int b,.int (I pY),.int (I hW)]) (H p o g k t):=rfl
 exact(c6 (m3 h1 rfl)).trans ((c6 (N4 (n:=n+90) (iC (n:=n+90) h4 (dP h3 rfl)) rfl)).trans g5)
theorem JU (W:Wk c p o g k t N) (hp:pl < 6) (hS:∀x,Sr (eV o g N x) pl (S x)) {u:V}:a8 pg (b9 pg (n+91)) (lZ L nm i x w l v pl [(133,u)]) (I8.body.drop 12) (H p o g k t)=.ok (.ret (.bool true),lZ L nm i x w l v pl [(133,u)]) (H p o g k t):=by
 obtain⟨D,hD⟩:=xN (S:=S) W
 have h1:(b9 pg (n+90)).ev (lZ L nm i x w l v pl [(133,u)]) (.call (.NT 148) [(.NT 41),(.sub (.sub (.NT 15) (.NT 21)) (.lit (V.str [111,98,106,101,99,116])))]) (H p o g k t)=.ok (.g6 (KN.flatMap (S3 o g N S))) (H p o g k t):=j0 (n:=n+89) (k:=45) rfl ((EH (n+9) hp).2 u) (Ia (n+7) W hp hS)
 have h2:(b9 pg (n+90)).ev (lZ L nm i x w l v pl [(133,u)]) (.call (.NT 149) [(.NT 15),(.NT 21)]) (H p o g k t)=.ok (.g6 (KN.flatMap (S3 o g N S))) (H p o g k t):=j0 (n:=n+89) (k:=57) rfl rfl (zU (n+7) W hp hS)
 exact s9 (B1 rfl (pd (n:=n+90) h1 (bu h2 hD)) rfl)
theorem NB (xs:List Int) (hx:xs.length≤63):∃n,n≤290∧((b9 pg n).run 58 [.lst (xs.map .int)] []).c4 (fun v J=>v=.bool true) fun J J=>False:=by
 obtain⟨c,Y,m,s,h,e⟩:=CJ 0 hx
 induction s with
 |mk p o g k t N W=>
  induction h with
  |mk nm pl i x w l v hn hp=>
   obtain⟨s,hs⟩:=BE (l:=xs)
   obtain⟨p2,hp2,ep⟩:=dQ s (n:=6) (by decide)
   have hS:∃S:Txt->Nat,∀x,Sr (eV o g N x) p2 (S x):=⟨fun x=>Classical.choose (yb (eV o g N x) (d:=p2) (OF _) (Nat.lt_succ_of_lt hp2)),fun x=>Classical.choose_spec (yb (eV o g N x) (d:=p2) (OF _) (Nat.lt_succ_of_lt hp2))⟩
   obtain⟨S,hS⟩:=hS
   obtain⟨Z,I,f⟩:=four W hp2 hS
   have q:(b9 pg 93).run 58 [.lst (S4 xs)] []=.ok (.bool true) (H p o g k t):=t8 (n:=92) (fd:=I8) (m:=[(135,.lst (S4 xs))]) rfl rfl ((z4 1 (xW 0 hx)).trans ((z4 (b:=I8.body.drop 1) 6 (xq 31 (S4 xs))).trans ((c6 (s:=I8.body.getD 7 .pass) e).trans ((c6 (s:=I8.body.getD 8 .pass) (Hj 0 W hp hn)).trans ((c6 (s:=I8.body.getD 9 .pass) (JT 0 hs ep)).trans ((z4 (b:=I8.body.drop 10) 2 (Dk 0 hp2 f)).trans (JU 0 W hp2 hS)))))))
   exact⟨93,by decide,q▸rfl⟩
end
end Mine.Z
end
section
open PySem PySem.W PyProof.Rows PySem.Calls
namespace Mine
noncomputable def pz (a b c d:Nat):Pos:=⟨a,b,c,d⟩
noncomputable def fb:List PySem.Stmt:=jA (pz 8 8 8 17) (pz 8 8 8 26) (pz 8 27 8 31) (pz 8 33 8 36) (pz 8 8 8 37) (pz 8 8 8 37) (pz 9 8 9 12) (pz 9 8 9 16) (pz 9 19 9 22) (pz 9 8 9 22) (kn 6) (kn 151) "why"
noncomputable def hb:List PySem.Stmt:=js 0 0 0 0 (pz 303 16 303 18) (pz 303 20 303 24) (pz 303 20 303 26) (pz 303 15 303 27) (pz 303 8 303 27) (pz 304 11 304 22) (pz 305 16 305 21) (pz 305 16 305 25) (pz 305 27 305 31) (pz 305 15 305 32) (pz 305 8 305 32) (pz 304 4 305 32) (pz 302 4 305 32) (kn 152) "fault" "why" "InvalidProp"
theorem isList_uniq {h:Heap} {a:Addr} {x y:Array Value} (p:h.IsList a x) (q:h.IsList a y):x=y:=by
 obtain⟨o,e,_,n,d⟩:=p
 obtain⟨o',e',_,n',d'⟩:=q
 rw[e]at e';cases e'
 rw[d]at d';cases d';rfl
set_option Elab.async true in
set_option maxHeartbeats 16000000 in
theorem joined:PySem.Challenge.rw_np0203_01.Holds:=by
 w_on;o_law;k_head;(case hw=>w_witness2)
 have j1:∀P,(joined.heap_1_39 P).lookup 365=some (qk [] 0):=fun P=>by rfl'
 have j2:∀P,(joined.heap_1_39 P).lookup 99=some (XD.obj ⟨"InvalidProp","InvalidProp",98,[.ref 38],38,[],[],false,none,none,some (.ref 90),none,some (.str "InvalidProp" 289),some (.str "InvalidProp" 297),some (.bool true)⟩ 99):=fun P=>by rfl'
 have j3:∀P,findCls (joined.heap_1_39 P) (.type "Exception") (.type "type") "__init__"=some (.val (.builtin "Exception.__init__")):=fun P=>by rfl'
 have j4:∀P,cH (joined.heap_1_39 P) 35=some fb:=fun P=>by rfl'
 have j5:∀P,cH (joined.heap_1_39 P) 546=some hb:=fun P=>by rfl'
 have j6:∀prog w B,rK (Y0 prog w (joined.heap_1_39 w.params) B) 365=true:=fun prog w B=>by rfl'
 have j7:∀prog w B,(uY (joined.heap_1_39 w.params)).map (Ks (Y0 prog w (joined.heap_1_39 w.params) B))=gw (Kr (Y0 prog w (joined.heap_1_39 w.params) B)) (uY (joined.heap_1_39 w.params)):=fun prog w B=>by rfl'
 have j8:∀P,nsIn (joined.heap_1_39 P) mainGlobals "law"=some (some (.ref 598)):=fun P=>by rfl'
 have j9:∀P,codeHdIn (joined.heap_1_39 P) 571 569=true:=fun P=>by rfl'
 have ja:∀P,codeHdIn (joined.heap_1_39 P) 578 574=true:=fun P=>by rfl'
 have jb:∀P,(joined.heap_1_39 P).lookup 569=none:=fun P=>by rfl'
 have jc:∀P,(joined.heap_1_39 P).lookup 574=none:=fun P=>by rfl'
 intro w Nv c5 mg mb G NQ fa o pm cd doc dV kV ho hd hcd hD hmg hg args vals as hpre hlay hrd hwl hlo
 have KX:=km_in_of NQ
 have KT:=km_tabs_of NQ
 clear NQ ho hd hcd hD
 refine Ground.open G ?_
 intro T B D TE TW
 wrow_args hpre hlay hrd hwl hlo
 rename_i xs hs hlay0 hL1 hr1 hl2 as4 as3 l vs as0 hL ra w1 r0 hI hr hc1 hc0
 have efa:fa=598:=by
  have h1:mg "law"=some (.ref fa):=hmg
  rw[mg_of KX T.g (j8 _)]at h1
  cases h1;rfl
 subst efa
 have hKB:(joined.heap_1_39 w.params).In (EX c5.heap):=fun a o e=>hideAll_get _ (KX a o e) fun q=>(Of q).elim (fun z=>d0 (jb w.params) (z▸e)) fun q=>d0 (jc w.params) (Og q▸e)
 have hlim:(EX c5.heap).NoLimit:=match T.nolimit with|⟨mc,h1,h2⟩=>⟨mc,kh KT h1,h2⟩
 have hbl:∀Pt,Pt∈([569,574]:List Addr)->(EX c5.heap).BuiltinsAt mg Pt:=fun Pt hPt=>by
  obtain⟨bm,ob,b1,b2,b3,b4,b5,b6⟩:=T.bmain
  refine⟨bm,ob,b1,b2,fun q=>?_,fun q=>?_,hideAll_get _ b3 (ki KT b3 fun vs q=>nomatch b6.symm.trans q),b4,b5,b6⟩
  ·obtain⟨o,es,ep,e,d,_⟩:=T.g
   rw[←q,b3]at e;cases e;rw[b6]at d;cases d
  ·have:=KT Pt (V8 hPt)
   rw[←q,b3]at this;cases this;cases b6
 have th:=IF (prog:=PySem.Challenge.rw_np0203_01.row.prog) (w:=w) hKB (kh KT T.g) (kh KT T.b) T.builtins hlim hbl (j1 _) (j6 _ _ _) (j7 _ _ _) ⟨_,j2 _⟩ (j3 _) (j4 _) (fun kd h=>.mk _ _ _ _ _ _ _ _ _ _ rfl h) (j5 _) (fun kd h1 h2=>.mk _ _ _ _ _ _ _ _ _ _ _ _ _ _ _ _ _ h1 h2)
 obtain⟨n,hn,hrun⟩:=Z.NB xs (by omega)
 have hlo:c5.heap.get? l=some {cls:=.type "list",data:=.seq vs.toArray}:=by
  have w2:Well w.params c5.heap (Value.ref l) (.list (ofPys (xs.map PyData.int))):=w1
  cases w2 with
  |list e _=>
   have:=isList_uniq hL ⟨_,e,rfl,_,rfl⟩
   rw[this];exact e
 refine wpAny_mono (zd th KX KT (j9 _) (ja _) hg hlo hI hn hrun) (fun v s' h=>?_) fun _ _ x=>x
 obtain⟨rfl,hold,hos,hbare⟩:=h
 exact⟨.inl ⟨_,.bool true,[],rfl,fun _=>rfl,ReadsW.bool true,by first|rfl'|simp|decide,fun _=>⟨List.nodup_nil,fun _ hm=>nomatch hm⟩⟩,hold,hos,hbare⟩
end Mine
end
theorem PySem.Challenge.cw_np0203_01_holds : PySem.Challenge.rw_np0203_01.Holds :=
  Mine.joined
