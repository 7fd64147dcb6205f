import PyProof.Rows.All
import Wide.All
import OpenK.AllK
import Wide.FinOn
import Lean
import PySem.Challenge.RW_on0193_01
set_option genSizeOf false
set_option bootstrap.genMatcherCode false
set_option backward.eqns.nonrecursive false
set_option compiler.extract_closed false
set_option Elab.async false
set_option tactic.hygienic false
set_option maxRecDepth 100000
set_option maxHeartbeats 2000000
set_option linter.unusedVariables false
set_option linter.unusedSimpArgs false
namespace Mine
def Tr:=True
theorem tr:Tr:=⟨⟩
end Mine
namespace PySem.W.Fast
open Mine
theorem tw10010936943081839664:Tr:=tr
theorem tw10015664371746657536:Tr:=tr
theorem tw10029231156530900338:Tr:=tr
theorem tw10030586065758793078:Tr:=tr
theorem tw10042830170769951172:Tr:=tr
theorem tw10045867985992453528:Tr:=tr
theorem tw10057510723706494237:Tr:=tr
theorem tw10181792811725400092:Tr:=tr
theorem tw10205541121877940668:Tr:=tr
theorem tw10227693086864044499:Tr:=tr
theorem tw10308316962582663543:Tr:=tr
theorem tw10314498396905981064:Tr:=tr
theorem tw10317580896714288900:Tr:=tr
theorem tw10323183001455561277:Tr:=tr
theorem tw10352308551163946355:Tr:=tr
theorem tw10379131730601215995:Tr:=tr
theorem tw1041845030581493396:Tr:=tr
theorem tw10470071008263537045:Tr:=tr
theorem tw10487160056961263569:Tr:=tr
theorem tw10500077913531017323:Tr:=tr
theorem tw10528696920762540405:Tr:=tr
theorem tw1055568401681811165:Tr:=tr
theorem tw10670733350059645105:Tr:=tr
theorem tw10706342367453228570:Tr:=tr
theorem tw10758392820592806131:Tr:=tr
theorem tw10819683100428557426:Tr:=tr
theorem tw10833955939284561965:Tr:=tr
theorem tw1085346719588807367:Tr:=tr
theorem tw10887116778572429059:Tr:=tr
theorem tw10919533547850550483:Tr:=tr
theorem tw1092655722715705105:Tr:=tr
theorem tw10938465397075749097:Tr:=tr
theorem tw10939839348159177617:Tr:=tr
theorem tw10942035263794033107:Tr:=tr
theorem tw10996506086634736982:Tr:=tr
theorem tw11013792430000457035:Tr:=tr
theorem tw1102190903223815498:Tr:=tr
theorem tw11027842469998634660:Tr:=tr
theorem tw1107438419126420414:Tr:=tr
theorem tw11108263761283441063:Tr:=tr
theorem tw11130039905162102590:Tr:=tr
theorem tw11161088081135249708:Tr:=tr
theorem tw11166942722945506595:Tr:=tr
theorem tw11270796479367742343:Tr:=tr
theorem tw11277413387252134812:Tr:=tr
theorem tw11277716924127702174:Tr:=tr
theorem tw11306939235166856333:Tr:=tr
theorem tw11310463157757771331:Tr:=tr
theorem tw11317593695737139937:Tr:=tr
theorem tw11333186260410459676:Tr:=tr
theorem tw1139862187096482527:Tr:=tr
theorem tw11420187438672877268:Tr:=tr
theorem tw11445135464325071761:Tr:=tr
theorem tw11462045893675790159:Tr:=tr
theorem tw11495947367809530248:Tr:=tr
theorem tw11518781747449614426:Tr:=tr
theorem tw11519604305632133818:Tr:=tr
theorem tw11566699232636054958:Tr:=tr
theorem tw11588390666370768167:Tr:=tr
theorem tw11625766737575182897:Tr:=tr
theorem tw11636919720809706868:Tr:=tr
theorem tw11682084944484805031:Tr:=tr
theorem tw11707371222683016368:Tr:=tr
theorem tw11707433790658880453:Tr:=tr
theorem tw117213463901210413:Tr:=tr
theorem tw11729385059970357855:Tr:=tr
theorem tw11740888236361828772:Tr:=tr
theorem tw11767421526060770920:Tr:=tr
theorem tw11788150170368784547:Tr:=tr
theorem tw11790162104776037713:Tr:=tr
theorem tw11796506867022685745:Tr:=tr
theorem tw11817470609975844035:Tr:=tr
theorem tw11825729669827539873:Tr:=tr
theorem tw1184552218554016812:Tr:=tr
theorem tw11853533878840232495:Tr:=tr
theorem tw11863081143760314161:Tr:=tr
theorem tw11892598404827812706:Tr:=tr
theorem tw1189734492583310:Tr:=tr
theorem tw11939915149646268982:Tr:=tr
theorem tw11957962974430299695:Tr:=tr
theorem tw11964429278604863157:Tr:=tr
theorem tw11985326045990495214:Tr:=tr
theorem tw11994158751524154303:Tr:=tr
theorem tw1204117194425446250:Tr:=tr
theorem tw12095823642532355627:Tr:=tr
theorem tw12114495157272644582:Tr:=tr
theorem tw12172078356533094185:Tr:=tr
theorem tw12177639751122801600:Tr:=tr
theorem tw1218959903707654005:Tr:=tr
theorem tw12224578244612797663:Tr:=tr
theorem tw12233582284571471492:Tr:=tr
theorem tw12237943961548833269:Tr:=tr
theorem tw12268644228514654432:Tr:=tr
theorem tw12290603225136948437:Tr:=tr
theorem tw12329403913580668285:Tr:=tr
theorem tw12359285113459375979:Tr:=tr
theorem tw12371321757623732685:Tr:=tr
theorem tw12393455550290869266:Tr:=tr
theorem tw12450158673883907302:Tr:=tr
theorem tw12488000419048109807:Tr:=tr
theorem tw1258717718454355964:Tr:=tr
theorem tw12635297910168745909:Tr:=tr
theorem tw12635813782599140982:Tr:=tr
theorem tw12659028871203227004:Tr:=tr
theorem tw12660628722211587041:Tr:=tr
theorem tw12679591844961189642:Tr:=tr
theorem tw12726346659333912481:Tr:=tr
theorem tw12734952128020822468:Tr:=tr
theorem tw12809422525583811893:Tr:=tr
theorem tw12813236842856870187:Tr:=tr
theorem tw12832477231654346042:Tr:=tr
theorem tw12835720964997663042:Tr:=tr
theorem tw12850107946570832962:Tr:=tr
theorem tw12866136484021002089:Tr:=tr
theorem tw12898947447245864913:Tr:=tr
theorem tw1291980286583624508:Tr:=tr
theorem tw12945451867199242903:Tr:=tr
theorem tw12981051755390344553:Tr:=tr
theorem tw13002492023102617099:Tr:=tr
theorem tw13016732220969518872:Tr:=tr
theorem tw13036272033356848781:Tr:=tr
theorem tw13141144453892091621:Tr:=tr
theorem tw13160144027095335755:Tr:=tr
theorem tw13169248704851481478:Tr:=tr
theorem tw1320183511955256522:Tr:=tr
theorem tw13215998728584607739:Tr:=tr
theorem tw13236226663087606529:Tr:=tr
theorem tw13252181687094117063:Tr:=tr
theorem tw13254397897704925713:Tr:=tr
theorem tw13314330512976039754:Tr:=tr
theorem tw13317431791736044220:Tr:=tr
theorem tw13320674448307528323:Tr:=tr
theorem tw1333364371103165705:Tr:=tr
theorem tw1340868782516533803:Tr:=tr
theorem tw13471461260053382970:Tr:=tr
theorem tw13505292571300825877:Tr:=tr
theorem tw13512673800721320934:Tr:=tr
theorem tw13526986893379352335:Tr:=tr
theorem tw1355338860687761863:Tr:=tr
theorem tw13559156169165276386:Tr:=tr
theorem tw13580328829973926956:Tr:=tr
theorem tw13581749221687468397:Tr:=tr
theorem tw13607416678640721797:Tr:=tr
theorem tw13615603153576403970:Tr:=tr
theorem tw13640514254501968386:Tr:=tr
theorem tw136631920214876835:Tr:=tr
theorem tw13678640442995254988:Tr:=tr
theorem tw1370275717833778536:Tr:=tr
theorem tw13721567128424951087:Tr:=tr
theorem tw13725850141900786883:Tr:=tr
theorem tw13746126617404028095:Tr:=tr
theorem tw13759679279233594173:Tr:=tr
theorem tw13764463391892403441:Tr:=tr
theorem tw13776390136698705113:Tr:=tr
theorem tw13789449189825218787:Tr:=tr
theorem tw13809362725867891129:Tr:=tr
theorem tw13833065179229638619:Tr:=tr
theorem tw13871001218405608335:Tr:=tr
theorem tw13900631225919944168:Tr:=tr
theorem tw13912434898499826684:Tr:=tr
theorem tw13915792640404377917:Tr:=tr
theorem tw13925586954763233925:Tr:=tr
theorem tw1393629259489396696:Tr:=tr
theorem tw13951257522405164796:Tr:=tr
theorem tw13981391230805400906:Tr:=tr
theorem tw13987355940573415152:Tr:=tr
theorem tw1401972060568974870:Tr:=tr
theorem tw1402947280878808549:Tr:=tr
theorem tw14073706353221006472:Tr:=tr
theorem tw14097648870716263351:Tr:=tr
theorem tw14108194823987119177:Tr:=tr
theorem tw14112274594779413971:Tr:=tr
theorem tw14126943448341045398:Tr:=tr
theorem tw1414301608579184545:Tr:=tr
theorem tw14168537005229113720:Tr:=tr
theorem tw1419416864934026935:Tr:=tr
theorem tw14209830616999942402:Tr:=tr
theorem tw14210447440969649564:Tr:=tr
theorem tw14214133299417103183:Tr:=tr
theorem tw14223099787259518943:Tr:=tr
theorem tw14224011070414065920:Tr:=tr
theorem tw14285029430470858289:Tr:=tr
theorem tw14305139224198610471:Tr:=tr
theorem tw14311459727803291754:Tr:=tr
theorem tw14323765505736481980:Tr:=tr
theorem tw14326252917377295143:Tr:=tr
theorem tw14333388528381170442:Tr:=tr
theorem tw14386061602966655976:Tr:=tr
theorem tw14530364306720264245:Tr:=tr
theorem tw14537914154153760125:Tr:=tr
theorem tw14544052848187043789:Tr:=tr
theorem tw14553827428707814869:Tr:=tr
theorem tw14559557019303687921:Tr:=tr
theorem tw14649835086701579774:Tr:=tr
theorem tw14714103240675001986:Tr:=tr
theorem tw14778209649434054790:Tr:=tr
theorem tw14821650378409806113:Tr:=tr
theorem tw14834023430324568649:Tr:=tr
theorem tw14837249469386935497:Tr:=tr
theorem tw14847034805825309785:Tr:=tr
theorem tw14884601019740666482:Tr:=tr
theorem tw14896874001708588922:Tr:=tr
theorem tw14934708107589980039:Tr:=tr
theorem tw14952990662201256454:Tr:=tr
theorem tw14973007898608030118:Tr:=tr
theorem tw14979626087600564940:Tr:=tr
theorem tw15007238320947547705:Tr:=tr
theorem tw1503297043503765363:Tr:=tr
theorem tw15040288709643333888:Tr:=tr
theorem tw15041003319150489328:Tr:=tr
theorem tw15066959818950650227:Tr:=tr
theorem tw15079194523842364033:Tr:=tr
theorem tw15112985482279097393:Tr:=tr
theorem tw15115017634950401937:Tr:=tr
theorem tw15157221202141545114:Tr:=tr
theorem tw15168306246750427876:Tr:=tr
theorem tw151948405760981731:Tr:=tr
theorem tw15199281503961881116:Tr:=tr
theorem tw15202239659555905331:Tr:=tr
theorem tw15207642765257501584:Tr:=tr
theorem tw15215539614974913122:Tr:=tr
theorem tw15263041282635125899:Tr:=tr
theorem tw15278061642289888581:Tr:=tr
theorem tw15323854079317868165:Tr:=tr
theorem tw1536587703002861866:Tr:=tr
theorem tw15376083050721069600:Tr:=tr
theorem tw1537898542681612871:Tr:=tr
theorem tw15423634916342008072:Tr:=tr
theorem tw15450981722951097364:Tr:=tr
theorem tw15468230090516036684:Tr:=tr
theorem tw15475462885187679331:Tr:=tr
theorem tw15542503528162795033:Tr:=tr
theorem tw15542691292777871779:Tr:=tr
theorem tw15560500314895047343:Tr:=tr
theorem tw15562837088269578035:Tr:=tr
theorem tw15601113415458257849:Tr:=tr
theorem tw15663404670287596823:Tr:=tr
theorem tw15736541856241217950:Tr:=tr
theorem tw15742981410569661332:Tr:=tr
theorem tw1574873078441994576:Tr:=tr
theorem tw15766043655864335149:Tr:=tr
theorem tw15806122291839087668:Tr:=tr
theorem tw15823609455315575823:Tr:=tr
theorem tw15880737140895825463:Tr:=tr
theorem tw15883128290750243503:Tr:=tr
theorem tw15894407043143930727:Tr:=tr
theorem tw15900120412870309639:Tr:=tr
theorem tw15902184279288820625:Tr:=tr
theorem tw15980859228951719591:Tr:=tr
theorem tw16018607276475445134:Tr:=tr
theorem tw16039550372008468697:Tr:=tr
theorem tw16049961110935095269:Tr:=tr
theorem tw16145008321745377990:Tr:=tr
theorem tw16176465441171805009:Tr:=tr
theorem tw1617757218408452269:Tr:=tr
theorem tw16180483070735683940:Tr:=tr
theorem tw16180582048198870337:Tr:=tr
theorem tw16189536214700107852:Tr:=tr
theorem tw1620339239838986703:Tr:=tr
theorem tw16223305294053301992:Tr:=tr
theorem tw16241802466949684156:Tr:=tr
theorem tw16292439048969090190:Tr:=tr
theorem tw16296994325663420285:Tr:=tr
theorem tw1631149150583789468:Tr:=tr
theorem tw16326889199254633757:Tr:=tr
theorem tw16328912562034613984:Tr:=tr
theorem tw16339471991904476338:Tr:=tr
theorem tw16349216596472256690:Tr:=tr
theorem tw16350708796919097252:Tr:=tr
theorem tw16366562015402752707:Tr:=tr
theorem tw1638017585896720355:Tr:=tr
theorem tw16406328271908756883:Tr:=tr
theorem tw16413264400604254196:Tr:=tr
theorem tw16413963553889246368:Tr:=tr
theorem tw16417370028952169744:Tr:=tr
theorem tw16437185098154296904:Tr:=tr
theorem tw16439824349840649037:Tr:=tr
theorem tw16494616584097029746:Tr:=tr
theorem tw16521520704757860501:Tr:=tr
theorem tw16531745337717519161:Tr:=tr
theorem tw16548257151911338427:Tr:=tr
theorem tw16593013826814733010:Tr:=tr
theorem tw16643379632663270332:Tr:=tr
theorem tw16644606511662114574:Tr:=tr
theorem tw16648231224745350325:Tr:=tr
theorem tw16655555454665732581:Tr:=tr
theorem tw16741492637210864865:Tr:=tr
theorem tw16752143609539240740:Tr:=tr
theorem tw16758808235637498351:Tr:=tr
theorem tw16792545251062261874:Tr:=tr
theorem tw16817318245366136608:Tr:=tr
theorem tw16846860572762119324:Tr:=tr
theorem tw16865151637890581275:Tr:=tr
theorem tw16869277618539721502:Tr:=tr
theorem tw16873187988247708562:Tr:=tr
theorem tw16874561944515371726:Tr:=tr
theorem tw16916688483869632129:Tr:=tr
theorem tw16942194440817826258:Tr:=tr
theorem tw16966814322356759819:Tr:=tr
theorem tw16979880578912567463:Tr:=tr
theorem tw17000155066101142889:Tr:=tr
theorem tw17000458434675057986:Tr:=tr
theorem tw17005011963521035879:Tr:=tr
theorem tw17015423121036801654:Tr:=tr
theorem tw17018628822417861297:Tr:=tr
theorem tw17024950926791866790:Tr:=tr
theorem tw1702518465993881591:Tr:=tr
theorem tw17057272898397164401:Tr:=tr
theorem tw1706496860858754268:Tr:=tr
theorem tw17071476683966804577:Tr:=tr
theorem tw1708024556718086227:Tr:=tr
theorem tw17100903815162463580:Tr:=tr
theorem tw17101871299007795629:Tr:=tr
theorem tw17111948838632640456:Tr:=tr
theorem tw17164873540382356111:Tr:=tr
theorem tw17183712847048597117:Tr:=tr
theorem tw17244072584429378644:Tr:=tr
theorem tw17274371674624000324:Tr:=tr
theorem tw17279654841073493023:Tr:=tr
theorem tw17280976486791472633:Tr:=tr
theorem tw17300597898927385350:Tr:=tr
theorem tw17325535178939296128:Tr:=tr
theorem tw17341736924252097559:Tr:=tr
theorem tw17344680358763864322:Tr:=tr
theorem tw17352973434858128600:Tr:=tr
theorem tw1735497430108182060:Tr:=tr
theorem tw17394056326795013819:Tr:=tr
theorem tw17429684086410527887:Tr:=tr
theorem tw17434858337260393937:Tr:=tr
theorem tw17475289236778735526:Tr:=tr
theorem tw17476080006546285661:Tr:=tr
theorem tw17497748084772794779:Tr:=tr
theorem tw1749818173716722547:Tr:=tr
theorem tw17503288770812694035:Tr:=tr
theorem tw17517737089405305841:Tr:=tr
theorem tw17520869792638436183:Tr:=tr
theorem tw17532440430192770315:Tr:=tr
theorem tw17532718790514356516:Tr:=tr
theorem tw17537794083376710389:Tr:=tr
theorem tw17552769576498331613:Tr:=tr
theorem tw17554001833073541016:Tr:=tr
theorem tw17679261114430710190:Tr:=tr
theorem tw17719373434677690450:Tr:=tr
theorem tw1772237422875290029:Tr:=tr
theorem tw17730428716208468724:Tr:=tr
theorem tw17730448691065144110:Tr:=tr
theorem tw17765544955259793912:Tr:=tr
theorem tw17774800907425398282:Tr:=tr
theorem tw17814930658547583709:Tr:=tr
theorem tw17827458813498177553:Tr:=tr
theorem tw17828083071136270317:Tr:=tr
theorem tw17842620306162639686:Tr:=tr
theorem tw17853915177807527196:Tr:=tr
theorem tw17863021456227041891:Tr:=tr
theorem tw17888162413812561239:Tr:=tr
theorem tw17899373020297197333:Tr:=tr
theorem tw17913803186225011329:Tr:=tr
theorem tw17943406268862710625:Tr:=tr
theorem tw17954471519018878134:Tr:=tr
theorem tw17954736447514056666:Tr:=tr
theorem tw17964007177503468958:Tr:=tr
theorem tw17975652961387846372:Tr:=tr
theorem tw17988542015724977305:Tr:=tr
theorem tw17993156020533580102:Tr:=tr
theorem tw18011898689540126615:Tr:=tr
theorem tw18056578402003937789:Tr:=tr
theorem tw18081866645286916028:Tr:=tr
theorem tw18101931140130867144:Tr:=tr
theorem tw18126140380344562322:Tr:=tr
theorem tw18163462532019968843:Tr:=tr
theorem tw18163708392712065173:Tr:=tr
theorem tw18188234029961486008:Tr:=tr
theorem tw18220123701641295943:Tr:=tr
theorem tw18260038339965228139:Tr:=tr
theorem tw18263319221461684349:Tr:=tr
theorem tw18273839248471157720:Tr:=tr
theorem tw1829445100760108279:Tr:=tr
theorem tw18340240734955500558:Tr:=tr
theorem tw18345786424863182364:Tr:=tr
theorem tw18350330562280901221:Tr:=tr
theorem tw18350638575300117064:Tr:=tr
theorem tw183835017167291270:Tr:=tr
theorem tw18410474027866654770:Tr:=tr
theorem tw18416463498863911781:Tr:=tr
theorem tw1886563365779066154:Tr:=tr
theorem tw189603312586018693:Tr:=tr
theorem tw1962928258387122110:Tr:=tr
theorem tw196644378293983589:Tr:=tr
theorem tw2001226814458364393:Tr:=tr
theorem tw2011108890870493169:Tr:=tr
theorem tw2039238271031011813:Tr:=tr
theorem tw219737044198020058:Tr:=tr
theorem tw2283851925072248500:Tr:=tr
theorem tw2315820567201803617:Tr:=tr
theorem tw2354101950205528012:Tr:=tr
theorem tw2378363196638174374:Tr:=tr
theorem tw2401699919119007470:Tr:=tr
theorem tw2408619945344806742:Tr:=tr
theorem tw2447775223705975068:Tr:=tr
theorem tw2460228577881660442:Tr:=tr
theorem tw2478078296215019888:Tr:=tr
theorem tw2569364866550412066:Tr:=tr
theorem tw2571919107429820419:Tr:=tr
theorem tw2599325451414397859:Tr:=tr
theorem tw2611137233208623240:Tr:=tr
theorem tw2627984346626558326:Tr:=tr
theorem tw2660918139993853925:Tr:=tr
theorem tw2664551874359636763:Tr:=tr
theorem tw2670528217467546775:Tr:=tr
theorem tw2711585505577850959:Tr:=tr
theorem tw2718901123391026995:Tr:=tr
theorem tw2719445374943340272:Tr:=tr
theorem tw2736616831223182526:Tr:=tr
theorem tw274283560391228834:Tr:=tr
theorem tw2759451637364818457:Tr:=tr
theorem tw282004115355043989:Tr:=tr
theorem tw2902314222560053993:Tr:=tr
theorem tw2905824091091238844:Tr:=tr
theorem tw2922074901204462755:Tr:=tr
theorem tw2948108419219029167:Tr:=tr
theorem tw2951486255847992690:Tr:=tr
theorem tw2958062672499776758:Tr:=tr
theorem tw2968979199505139716:Tr:=tr
theorem tw3039592710220408265:Tr:=tr
theorem tw3093977132361051618:Tr:=tr
theorem tw3094477031063562474:Tr:=tr
theorem tw3118938333895590913:Tr:=tr
theorem tw3131671291697673992:Tr:=tr
theorem tw313226197891681235:Tr:=tr
theorem tw3142773779024712118:Tr:=tr
theorem tw3152983702415266003:Tr:=tr
theorem tw3209381107111851631:Tr:=tr
theorem tw3264259588550801142:Tr:=tr
theorem tw3267979357774110234:Tr:=tr
theorem tw3282434896037501709:Tr:=tr
theorem tw3315324234476444515:Tr:=tr
theorem tw3325841961599345399:Tr:=tr
theorem tw3327986453032591115:Tr:=tr
theorem tw3355348695024010778:Tr:=tr
theorem tw3424931102881643321:Tr:=tr
theorem tw3442601649717412197:Tr:=tr
theorem tw347637069881736656:Tr:=tr
theorem tw352327453830155157:Tr:=tr
theorem tw3560238982266916124:Tr:=tr
theorem tw3577408171920636059:Tr:=tr
theorem tw3619232141914619222:Tr:=tr
theorem tw3632806688527778417:Tr:=tr
theorem tw3695515675974049574:Tr:=tr
theorem tw3698559305507148144:Tr:=tr
theorem tw3740020263889925745:Tr:=tr
theorem tw3764465048917985505:Tr:=tr
theorem tw3766158894648301139:Tr:=tr
theorem tw3778451253796500701:Tr:=tr
theorem tw3820604794100220378:Tr:=tr
theorem tw383695940523520267:Tr:=tr
theorem tw3856783459128436802:Tr:=tr
theorem tw387338674003428930:Tr:=tr
theorem tw3880421473898291048:Tr:=tr
theorem tw3891137856419664920:Tr:=tr
theorem tw389472881494512206:Tr:=tr
theorem tw39160002569200845:Tr:=tr
theorem tw392140993173905013:Tr:=tr
theorem tw3952652319720093869:Tr:=tr
theorem tw3953757239420563355:Tr:=tr
theorem tw3972328310683599613:Tr:=tr
theorem tw3976722010076183465:Tr:=tr
theorem tw4011157648589011858:Tr:=tr
theorem tw4039474712603431140:Tr:=tr
theorem tw4071324889030633612:Tr:=tr
theorem tw4075660801711882420:Tr:=tr
theorem tw4090926877573551719:Tr:=tr
theorem tw4172830789200971933:Tr:=tr
theorem tw4275521005467322725:Tr:=tr
theorem tw4278798014809849964:Tr:=tr
theorem tw4292500188555128830:Tr:=tr
theorem tw4299136966843209011:Tr:=tr
theorem tw4302124980754421698:Tr:=tr
theorem tw4319705520415482375:Tr:=tr
theorem tw43969757491396457:Tr:=tr
theorem tw4405960384096086239:Tr:=tr
theorem tw4407734736301137906:Tr:=tr
theorem tw441327347791068078:Tr:=tr
theorem tw4434333111790514575:Tr:=tr
theorem tw4525517667737911620:Tr:=tr
theorem tw4552823106982906706:Tr:=tr
theorem tw4558998842232669794:Tr:=tr
theorem tw4575980220486274672:Tr:=tr
theorem tw460243522976405022:Tr:=tr
theorem tw4613930686462287906:Tr:=tr
theorem tw4658958612460137192:Tr:=tr
theorem tw4679858250743294509:Tr:=tr
theorem tw4681523508651956083:Tr:=tr
theorem tw470574548607681690:Tr:=tr
theorem tw4748654258956052638:Tr:=tr
theorem tw4775785305629353868:Tr:=tr
theorem tw4797165386629745026:Tr:=tr
theorem tw4800724452203346748:Tr:=tr
theorem tw4858009861420398278:Tr:=tr
theorem tw4879560196417449868:Tr:=tr
theorem tw4904739604578439355:Tr:=tr
theorem tw4921902886906138986:Tr:=tr
theorem tw4933834842325187142:Tr:=tr
theorem tw4936483359421988267:Tr:=tr
theorem tw4966893808263662355:Tr:=tr
theorem tw5032809538720368765:Tr:=tr
theorem tw505943868828395459:Tr:=tr
theorem tw5076957145309523181:Tr:=tr
theorem tw5111356299099525756:Tr:=tr
theorem tw5149714755402479525:Tr:=tr
theorem tw5152784196030571298:Tr:=tr
theorem tw5189142188285759775:Tr:=tr
theorem tw5200128776193632040:Tr:=tr
theorem tw5248340912204065574:Tr:=tr
theorem tw5268983451555188008:Tr:=tr
theorem tw5345256250457102556:Tr:=tr
theorem tw5349121933718820234:Tr:=tr
theorem tw535072334866317008:Tr:=tr
theorem tw5357591511691535388:Tr:=tr
theorem tw5396446701170858492:Tr:=tr
theorem tw5450187663091677483:Tr:=tr
theorem tw5518745428033880147:Tr:=tr
theorem tw5565278806992967083:Tr:=tr
theorem tw558745408833754511:Tr:=tr
theorem tw563124612126607214:Tr:=tr
theorem tw5701610774189311196:Tr:=tr
theorem tw5706481520468235054:Tr:=tr
theorem tw5719599256827190719:Tr:=tr
theorem tw5721027456603625697:Tr:=tr
theorem tw5732905514179830355:Tr:=tr
theorem tw5758256569797452207:Tr:=tr
theorem tw5770868932273138760:Tr:=tr
theorem tw5823794197072137003:Tr:=tr
theorem tw5832503352825792928:Tr:=tr
theorem tw5882768191206486792:Tr:=tr
theorem tw5902227825499142635:Tr:=tr
theorem tw5923252988546675246:Tr:=tr
theorem tw5925582254088234700:Tr:=tr
theorem tw5976474108018559520:Tr:=tr
theorem tw5978237884098788730:Tr:=tr
theorem tw6004533443673955352:Tr:=tr
theorem tw6012508502120743258:Tr:=tr
theorem tw6019396324639902685:Tr:=tr
theorem tw6059929106960060952:Tr:=tr
theorem tw607167704815816724:Tr:=tr
theorem tw608726401823008365:Tr:=tr
theorem tw6090905460779295987:Tr:=tr
theorem tw6122645084068987007:Tr:=tr
theorem tw6123655918767846522:Tr:=tr
theorem tw6125931036764729998:Tr:=tr
theorem tw6127375697748050860:Tr:=tr
theorem tw6135381517318000843:Tr:=tr
theorem tw6179359751918216688:Tr:=tr
theorem tw618205885557783147:Tr:=tr
theorem tw6213141578215901147:Tr:=tr
theorem tw6214688769961185500:Tr:=tr
theorem tw6245536207120538393:Tr:=tr
theorem tw6363645014702824404:Tr:=tr
theorem tw6380047634161181297:Tr:=tr
theorem tw6380782515089751550:Tr:=tr
theorem tw6426273055680023932:Tr:=tr
theorem tw6434138532213402376:Tr:=tr
theorem tw6434265647005701932:Tr:=tr
theorem tw6448080314894763839:Tr:=tr
theorem tw6550987210724342151:Tr:=tr
theorem tw6580340599500149305:Tr:=tr
theorem tw6587116730350146372:Tr:=tr
theorem tw6589095468515690095:Tr:=tr
theorem tw6607189417530752870:Tr:=tr
theorem tw6662432510661729299:Tr:=tr
theorem tw667198328695590252:Tr:=tr
theorem tw6683783046931543321:Tr:=tr
theorem tw6711915476519705758:Tr:=tr
theorem tw6714822604882049554:Tr:=tr
theorem tw6722154040420286063:Tr:=tr
theorem tw6789855027759293466:Tr:=tr
theorem tw6817277305950994716:Tr:=tr
theorem tw682011567655089306:Tr:=tr
theorem tw6832808476680081064:Tr:=tr
theorem tw6834602518627153040:Tr:=tr
theorem tw6891000109920058784:Tr:=tr
theorem tw6907747680420023104:Tr:=tr
theorem tw6909570525239066004:Tr:=tr
theorem tw6929956602132211858:Tr:=tr
theorem tw6967401301877209104:Tr:=tr
theorem tw6993175162768986339:Tr:=tr
theorem tw7009043117176579089:Tr:=tr
theorem tw7035115661146626270:Tr:=tr
theorem tw704327219915372674:Tr:=tr
theorem tw7081425507203772304:Tr:=tr
theorem tw7082770336023389322:Tr:=tr
theorem tw7094674258960923220:Tr:=tr
theorem tw7098571738820278039:Tr:=tr
theorem tw7140130562030077042:Tr:=tr
theorem tw716658179208862652:Tr:=tr
theorem tw7198390536060210744:Tr:=tr
theorem tw721709456127091705:Tr:=tr
theorem tw7229665172594901996:Tr:=tr
theorem tw7232422423428716515:Tr:=tr
theorem tw724751600484774222:Tr:=tr
theorem tw7250012664060256230:Tr:=tr
theorem tw725871291056497461:Tr:=tr
theorem tw7269565832213808900:Tr:=tr
theorem tw7275051467321613617:Tr:=tr
theorem tw7276740287692124622:Tr:=tr
theorem tw7299303143086499733:Tr:=tr
theorem tw7299951869573292228:Tr:=tr
theorem tw7323676302269181137:Tr:=tr
theorem tw7344376507651311505:Tr:=tr
theorem tw7365555872484859036:Tr:=tr
theorem tw7392212959928792091:Tr:=tr
theorem tw7397068168572129948:Tr:=tr
theorem tw7401281599722004195:Tr:=tr
theorem tw7405434945208526273:Tr:=tr
theorem tw7483462131439158144:Tr:=tr
theorem tw7496433998918960881:Tr:=tr
theorem tw7499937903120025604:Tr:=tr
theorem tw7503421922109321716:Tr:=tr
theorem tw7504490480230193789:Tr:=tr
theorem tw757081541053455785:Tr:=tr
theorem tw7581816359482902497:Tr:=tr
theorem tw7615264395923872581:Tr:=tr
theorem tw7619357645376055252:Tr:=tr
theorem tw7650934615059315214:Tr:=tr
theorem tw7670514497116975361:Tr:=tr
theorem tw774047393022817027:Tr:=tr
theorem tw7745614565497352828:Tr:=tr
theorem tw7783732958741208154:Tr:=tr
theorem tw7788680626742099145:Tr:=tr
theorem tw7892128664451923741:Tr:=tr
theorem tw7955060689067889023:Tr:=tr
theorem tw7987952416473584550:Tr:=tr
theorem tw8017206721242287953:Tr:=tr
theorem tw8047484207015712433:Tr:=tr
theorem tw8075568018651887793:Tr:=tr
theorem tw8098380416015320538:Tr:=tr
theorem tw8119918657739134586:Tr:=tr
theorem tw8172093975534723114:Tr:=tr
theorem tw8206430501311747189:Tr:=tr
theorem tw8253183596043897158:Tr:=tr
theorem tw8376441433122354887:Tr:=tr
theorem tw8400853705098224536:Tr:=tr
theorem tw8424611434330503625:Tr:=tr
theorem tw8450942572126056277:Tr:=tr
theorem tw8459811325457737761:Tr:=tr
theorem tw8488268690174267210:Tr:=tr
theorem tw8516911021179611081:Tr:=tr
theorem tw8537084889766193716:Tr:=tr
theorem tw8579058602437062094:Tr:=tr
theorem tw8595292554425487202:Tr:=tr
theorem tw8603108125212654177:Tr:=tr
theorem tw8611980101048724488:Tr:=tr
theorem tw8620020772036689432:Tr:=tr
theorem tw8642067239939848140:Tr:=tr
theorem tw8656719876789144132:Tr:=tr
theorem tw8695380994152314050:Tr:=tr
theorem tw8719427161674164953:Tr:=tr
theorem tw8727135674562949291:Tr:=tr
theorem tw8732485361984058174:Tr:=tr
theorem tw8753696776887207221:Tr:=tr
theorem tw8796240567053077481:Tr:=tr
theorem tw8860024209350480642:Tr:=tr
theorem tw8881496252177385917:Tr:=tr
theorem tw8902219603052485911:Tr:=tr
theorem tw8946543629884556368:Tr:=tr
theorem tw8987815912523675519:Tr:=tr
theorem tw8989982439271903415:Tr:=tr
theorem tw8999186272805695465:Tr:=tr
theorem tw9029142643779711378:Tr:=tr
theorem tw9082586571710850966:Tr:=tr
theorem tw912392155897948271:Tr:=tr
theorem tw9136488742655976645:Tr:=tr
theorem tw9151444980202551346:Tr:=tr
theorem tw9206804518496725263:Tr:=tr
theorem tw9219426015542480343:Tr:=tr
theorem tw9236875199018929784:Tr:=tr
theorem tw9265879793445154701:Tr:=tr
theorem tw9281714027785469542:Tr:=tr
theorem tw9285146279643344392:Tr:=tr
theorem tw9300948228871686676:Tr:=tr
theorem tw9305782018832362445:Tr:=tr
theorem tw930746551332336609:Tr:=tr
theorem tw9315938663221665524:Tr:=tr
theorem tw932993149863042379:Tr:=tr
theorem tw9376109419431680627:Tr:=tr
theorem tw9396933662098498411:Tr:=tr
theorem tw9407582987413476825:Tr:=tr
theorem tw9413167413068371254:Tr:=tr
theorem tw9458956999447867950:Tr:=tr
theorem tw9467589175468403638:Tr:=tr
theorem tw9501820088010722379:Tr:=tr
theorem tw9504726810853072989:Tr:=tr
theorem tw951843321253372498:Tr:=tr
theorem tw9529234661008812162:Tr:=tr
theorem tw9537544019596298400:Tr:=tr
theorem tw9564595351457756722:Tr:=tr
theorem tw9575731206691268911:Tr:=tr
theorem tw9577309144901391297:Tr:=tr
theorem tw9594665118957945026:Tr:=tr
theorem tw9626621113073979434:Tr:=tr
theorem tw9673203406766833760:Tr:=tr
theorem tw9674257727999782656:Tr:=tr
theorem tw973662469405803806:Tr:=tr
theorem tw9759809726879904816:Tr:=tr
theorem tw9763268239775435451:Tr:=tr
theorem tw9787396351842916947:Tr:=tr
theorem tw9787463984185863102:Tr:=tr
theorem tw9794667896261083176:Tr:=tr
theorem tw9800571698397750058:Tr:=tr
theorem tw9821368406582625841:Tr:=tr
theorem tw990087539832940089:Tr:=tr
theorem tw9908251947323293946:Tr:=tr
theorem tw9931943479562821362:Tr:=tr
theorem tw9948023125614773506:Tr:=tr
theorem tw9979284746773624096:Tr:=tr
end PySem.W.Fast
namespace Mine
open PySem PySem.W PyProof.Rows in
set_option maxHeartbeats 8000000 in
open_top hd for PySem.Challenge.rw_on0193_01
end Mine
open And renaming intro->abi
open Array renaming length_toList->abm,getElem?_eq_none->acf,getElem?_toList->adv,getElem?_eq_getElem->adU,toList_push->aex,getElem?_eq_some_iff->aeD,toList_inj->ag1,toList_append->ah4,forIn_toList->ain
open Bool renaming and_eq_true->ab2,false_eq_true->ab5,not_true->adM,not_false->adT,false_and->agC,true_xor->agU,eq_iff_iff->ahm,false_xor->ahM,or_eq_true_iff->ahX,true_and->ah7,and_false->ajd
open Eq renaming symm->ajm
open Exists renaming intro->ad5
open False renaming elim->ahd
open ForInStep renaming yield->ach
open Iff renaming rfl->ajo
open Int renaming gcd->acl,fmod->adb,natCast_nonneg->aem,fmod_nonneg->aep,fdiv_eq_ediv_of_nonneg->aeG,fmod_lt_of_pos->ae0,ofNat_lt->afM,fdiv->af7,fmod_eq_emod_of_nonneg->agz,lt_irrefl->agT,toNat_of_nonneg->ahY,toNat_natCast->aiL
open List renaming prefix_refl->aaj,mem_append_left->aa8,mem_append_right->aba,getElem?_eq_getElem->abc,length_append->abd,length_map->abg,getElem?_set_ne->abh,map_cons->abj,mem_of_getElem?->abk,getElem?_append_left->abo,length_singleton->abr,getElem?_set_self->abu,append_nil->abv,not_mem_nil->abx,length_cons->abz,nil_append->abA,mem_cons->abB,map_append->abE,getElem?_map->abF,prefix_append->abI,eq_nil_of_length_eq_zero->abL,append_assoc->abO,nodup_append->abR,all_eq_true->abT,replicate->abV,nodup_cons->abY,mem_range->abZ,map_map->ab6,range->aca,drop_eq_getElem_cons->acb,length_drop->ack,getElem?_cons_succ->acm,cons_append->add,length_reverse->ade,mem_filter->adj,reverse_cons->adp,range'->adt,mem_flatMap->adx,pairwise_cons->adz,getElem?_cons_zero->adI,mapM_cons->adN,mem_filterMap->adS,mem_append->adV,find?_cons->adX,size_toArray->ad2,map_nil->ad4,filter_eq_self->ad9,range'_succ->aed,drop_eq_nil_of_le->aej,of_mem_zip->aen,filter_map->aeq,getElem?_concat_length->aev,mem_iff_getElem->aeB,getElem?_append_right->aeE,map_congr_left->aeP,findSome?_cons->aeS,takeWhile_cons->aeT,length_set->aeV,idxOf_cons->aeX,lookup_eq_none_iff->aff,getElem?_replicate->afo,length->aft,mem_map->afw,toArray->afJ,length_range->afN,filter_congr->afO,filter_eq_nil_iff->afP,take_of_length_le->afQ,getElem?_eq_none->afS,length_filter_le->afW,perm_middle->af0,isEmpty_nil->af3,map_id->af8,range_eq_range'->aga,pairwise_append->agb,mem_singleton->agn,lookup_append->ags,getD_eq_getElem?_getD->agy,filter_filter->agB,set_cons_zero->agD,set_cons_succ->agE,getElem?_drop->agF,isEmpty_cons->agM,mem_range'_1->agN,lookup_cons->agV,lookup_eq_some_iff->agX,drop_length->agZ,pairwise_singleton->ag4,length_pos_of_mem->ahg,forIn_cons->ahj,length_nil->ahl,foldl_cons->ahn,dropLast_eq_take->ahp,getElem?_reverse->ahw,mem_iff_getElem?->ahx,getElem?_append->ahF,length_take_le'->ahN,mem_of_mem_drop->ahO,flatMap_append->ahW,mem_map_of_mem->ah0,toList_toArray->ah1,findIdx?->ah8,zip_cons_cons->aie,any_eq_false->aiq,getElem?_set->aiu,getElem?_inj->aiv,take_add_one->aiF,set->aiK,length_take->aiP
open Nat renaming le_trans->aan,ne_of_lt->abf,le_refl->abt,lt_succ_self->aby,lt_of_lt_of_le->abJ,lt_succ_of_lt->abN,zero_le->abS,ne_of_gt->abW,not_lt_zero->ab9,lt_of_le_of_lt->ace,lt_irrefl->acj,strongRecOn->adc,le_of_lt->adl,le_add_right->adm,add_sub_cancel->ady,le_of_eq->aeK,sub_lt_sub_left->aeQ,add_sub_cancel_left->afr,zero_add->afE,min_le_right->af1,le_antisymm->agc,mul_le_mul_left->agg,lt_trans->agk,add_right_comm->agG,le_succ_of_le->agI,le_succ->agJ,lt_add_of_pos_right->ag7,lt_asymm->aha,add_le_add_right->ahA,add_le_add_left->ahV,sub_add_cancel->aio,lt_trichotomy->ait,lt_or_ge->aiz,log2_lt->aiV,not_lt->aje
open Nat.succ renaming inj->aiw
open Ne renaming symm->aef
open Option renaming isSome_iff_exists->adB,map->aeY,some->ajr
open Option.some renaming inj->abl,injEq->ajs
open PyProof.Rows renaming assign_Name->ab4,seqObj->adD,assignInOrder_cons->adP,args_cons->aeI,assignInOrder_nil->afC,tail_any->agu,assign_Tuple_tuple->agv,Call_->agW,args_nil->ahz,IntsAre->ahJ,subscriptTail->ah6,Subscript_->aig,sortedHeap->aik,ksk_tree->aiG,Below->ai3,envOfC->ajj,IsTup->ajq
open PyProof.Rows.F renaming plain_set_update_loop->adK,entry_set_update_loop->aeR
open PyProof.Rows.News renaming push->aiN
open PySem renaming Value->aac,wpAny_bind->aag,Shared->aal,mainGlobals->aam,World->aa9,wpAny_pure->abb,model->abe,Around->abw,sizeLine->abD,Scope->abM,call->abQ,wpAny_mono->abU,PyData->abX,wpAny_execs_cons->ab1,wpAny_holding->ab3,letOwnedTupleGo->ab8,IntMulOk->acg,compareOp->aci,starEach->ada,Program->adh,wpAny_standAt->ado,intKind->adr,wpAny_storeName_local->adu,compEnvC->adw,codeAny->adA,DictEntry->adE,Arguments->adF,rawInt->adQ,SetTable->adR,wpAny_execs_nil->adW,wpAny_truthy_bool->adY,relabel->ad0,wpAny_newObj_type->ad1,wpAny_askSetting->aeb,sysModules->aee,Builtin->aei,codeAny_builtin->aeo,swapsWith->aer,builtinLookup_eq_fast->aeu,foldedSetIterable->aew,wpAny_loadPart_at->aey,wpAny_loadName_local->aeA,wpAny_call->aeC,cellsFrom->aeJ,notedBy->aeL,wpAny_call_entry->aeN,wpAny_comprehension_free->aeU,valueAt->aeW,seqIndex?->afp,recursionLimit->afx,wpAny_Return_some->afz,wpAny_Assign_Name->afA,assign->afB,pyNext->afD,wpAny_setState_of->afI,plainObj_wpAny_Assign_Attribute->afR,Result->afZ,intKind_is->af2,attributeBase->af4,codeAny_call_builtin->af9,typeLookup_type->agd,wpAny_setEntries_of->agh,wpAny_isSubtype_exc->agi,bootBuiltins->agj,wpAny_Name->ago,backTo->agp,binaryOp->agr,closureFor->agw,wpAny_pyIter_list->agK,sizeLine_eq->agL,strLen_append->agP,behindInMarks->agQ,wpAny_getItem_list_slice->agR,plainId_quiet->agS,checkBuiltinCall->ag2,wpAny_callSpecial?_slot->ag3,holding->ag9,assignEach->ahb,wpAny_pyNext_list_item->ahc,codeAny_of_tree->ahk,wpAny_pyNext_list_end->aho,wpAny_storeName_cell->ahE,subscripted->ahG,wpAny_newFunctionEnv->ahH,intText?->ahI,isSubtype_type->ahK,wpAny_setField->ahL,hashInt->ahR,Fin->ahS,wpAny_loadName_cell->ahT,wpAny_Constant_bool->ahU,wpAny_dictSet_pairs->ahZ,wpAt_of_wpAny->ah2,Model->ah5,wpAny_attempt->ah9,wpAny_Constant_str->aic,wpAny_getItem_list->aif,getattributeRaised->ail,NameKind->aix,wpAny_pyIter_enum->aiy,codeAny_mono->aiA,wpAny_pyIter_slot->aiC,wpAny_typeOf->aiE,keywordEach->aiQ,interactive->aiR,operate->aiY,getItem->aiZ,Params->ai2,keeperOf->ai4,callWith->ai5,wpAny_Expr->ai6,strKind_is->ai7,layNew->ai9,wpAny_rule->aja,setsByText->ajb,entryFor->ajc,ExcName->ajg,spliced->ajh,truthy->aji,pyIter->ajk
open PySem.Around renaming under_plainId->ad3
open PySem.BindsTo renaming of_eq->aaq
open PySem.Builtin.Dict renaming updateFrom->ag5
open PySem.Builtin.Int renaming intBits->ah3
open PySem.Builtin.List renaming listLengthHint->agl
open PySem.Builtin.Range renaming rangeSize->ag0
open PySem.Builtin.Str renaming occurrences->adH,strSliceIndices->aez,strSub->afd
open PySem.Calls renaming Name_function_global->ahB
open PySem.Challenge renaming pw_on0193_01->agf
open PySem.Code renaming quiet_builtin->agx
open PySem.Env renaming kindOf->acd
open PySem.F renaming slot_list_append->abp,type_list_append->abq,slot_str_lower->aek,type_str_lower->ael,excBase_Exception->aeO,slot_list_index->afu,type_list_index->afv,slot_str_split->afK,type_str_split->afL,slot_dict_get->afT,slot_str_join->afU,type_str_join->afV,plain_set_new->ahq,slot_set_iter->ahr,slot_list_pop->aht,type_list_pop->ahu,type_dict_get->ahv
open PySem.Heap renaming get?_push_of_some->aao,lt_size->abn,get?_push_size->abC,get?_update_self->adf,SameBut->adi,get?_update_other->adL,size_push->adO,get?_none_of_le->adZ,ExtBut->afq,dictOf_iff->age
open PySem.Heap.IsList renaming typeIs->aih
open PySem.Heap.IsSliceOf renaming new->aii
open PySem.Heap.SameBut renaming update->ads
open PySem.Heap.UpToSlots renaming of_keeps->aec
open PySem.Keeper renaming boundFrame->afy,machine->agq,frame->ag8
open PySem.NameKind renaming free->af5
open PySem.Obj renaming mapSeq->ad6,data_mapFields->aeZ,isFreed_of_fields->ahs,cls_mapFields->aiD,cls->aiX
open PySem.PyData renaming eqv->abK,strOk->ab7,depthAll->adk,keyHash->adC,canLayAll0->adG,int->adJ,eqvAll->ad8,canLay0->aea,depth->aeh,str->agA,weightAll->ag6,weight->aib,list->aiU
open PySem.SeqAt renaming shaped->afF,canLay_of_shaped->ahe
open PySem.SetTable renaming below->adg,freeSlot->afH,bits->af6,probe->ai8,slot->ajf
open PySem.SetTable.probe renaming go->adq
open PySem.Str renaming ofString->ahf,join->ahP
open PySem.StrLaws renaming strSub_toList->afX,sliceText_nat->ahy
open PySem.Txt renaming slice->abG,lower->abP,join->aeF,words->aeM,split->afs,stripChars->afG
open PySem.Value renaming int->aet,ref->aeH,str->agY,type->aid,none->aij
open PySem.Value.type renaming inj->ahD
open PySem.W renaming keepIn->abH,findIn->ab0,tabObj->adn,topRead_of->afY,emptyDict->agm,codeRec_of->agt,instObj->agH,hasDictIn->ahQ,of_hideAll->aim,nameG_K->aip,Looks->air,plainGet->ais,hideAll->aiJ,getL->aiM,plainOver->aiO,hideAll_get->aiS,keeps_K->aiW,kla_obj->ai0,binds_K->ai1,makesIn->ajl,CodeHd->ajn,RaisedN->ajp
open PySem.W.InstAt renaming of_news->ahC
open PySem.W.KasFin renaming intro->ahi
open PySem.W.KatBack renaming intro->aia
open PySem.W.KatFin renaming intro->ahh
open PySem.W.KatKeys renaming cons->aiH,nil->aiT
open PySem.W.Looks renaming of_pure->agO
open PySem.callAny renaming viaDunder->aiI
open PySem.pickOrder renaming go->aiB
namespace Mine.Internal
noncomputable section
open PySem PySem.W PySem.Spec PySem.Calls PyProof.Rows
@[irreducible] def sN (k:Lean.Name) (a:Array Lean.Syntax):Lean.Syntax:=.node .none k a
@[irreducible] def sQ (a:Array Lean.Syntax):Lean.Syntax:=sN `Lean.Parser.Tactic.tacticSeq #[sN `Lean.Parser.Tactic.tacticSeq1Indented #[sN `null a]]
@[irreducible] def sK (a:Array Lean.Syntax):Lean.Syntax:=sQ #[sN `Lean.Parser.Tactic.decide #[.atom .none "decide",sN `Lean.Parser.Tactic.optConfig #[sN `null a]]]
@[irreducible] def aR:Lean.Syntax:=sQ #[sN `Lean.Parser.Tactic.tacticRfl #[.atom .none "rfl"]]
@[irreducible] def aK:Lean.Syntax:=sK #[]
@[irreducible] def aD:Lean.Syntax:=sK #[sN `Lean.Parser.Tactic.configItem #[sN `Lean.Parser.Tactic.posConfigItem #[.atom .none "+",.ident .none "kernel".toRawSubstring `kernel []]]]
@[irreducible] def aI:Lean.Syntax:=sQ #[sN `Lean.Parser.Tactic.intros #[.atom .none "intros",sN `null #[]],.atom .none ";",sN `Lean.Parser.Tactic.tacticRfl #[.atom .none "rfl"]]
@[elab_as_elim] theorem rwl {α:Sort _} {P:α->Prop} {a b:α} (h:a=b) (e:P b):P a:=h ▸ e
@[elab_as_elim] theorem rwr {α:Sort _} {P:α->Prop} {a b:α} (h:b=a) (e:P b):P a:=h ▸ e
@[irreducible] def sJ (a:Array Lean.Syntax):Lean.Syntax:=sN `Lean.Parser.Tactic.first #[.atom .none "first",sN `null (a.map λx=>sN `group #[.atom .none "|",sQ #[x]])]
@[irreducible] def sA (n:String) (a:Array Lean.Syntax):Lean.Syntax:=sN `Lean.Parser.Term.app #[.ident .none n.toRawSubstring (.mkSimple n) [],sN `null a]
@[irreducible] def sE (r:Lean.Syntax):Array Lean.Syntax:=
 let n:=if (r.getArg 0).getNumArgs == 0 then "rwl" else "rwr"
 let g (x:Lean.Syntax):=sN `Lean.Parser.Tactic.refine #[.atom .none "refine",sA n #[x,sN `Lean.Parser.Term.syntheticHole #[.atom .none "?",.atom .none "_"]]]
 #[sJ #[g (r.getArg 1),g (sN `Lean.Parser.Term.paren #[.atom .none "(",sA "propext" #[r.getArg 1],.atom .none ")"]),
  sN `Lean.Parser.Tactic.rewriteSeq #[.atom .none "rewrite",sN `Lean.Parser.Tactic.optConfig #[sN `null #[]],sN `Lean.Parser.Tactic.rwRuleSeq #[.atom .none "[",sN `null #[r],.atom .none "]"],sN `null #[]]],.atom .none ";"]
@[irreducible] def sX (rs:Array Lean.Syntax):Lean.Syntax:=
 sN `Lean.Parser.Tactic.paren #[.atom .none "(",sQ (rs.flatMap sE++#[sJ #[sN `Lean.Parser.Tactic.withReducible #[.atom .none "with_reducible",sQ #[sN `Lean.Parser.Tactic.tacticRfl #[.atom .none "rfl"]]],sN `Lean.Parser.Tactic.skip #[.atom .none "skip"]]]),.atom .none ")"]
@[irreducible] def sC (n:String) (k:Nat):Lean.Syntax:=
 let b:=sN `Lean.Parser.Term.byTactic #[.atom .none "by",sQ #[sN `Lean.Parser.Tactic.assumption #[.atom .none "assumption"]]]
 sN `group #[.atom .none "|",if k == 0 then sQ #[sN `Lean.Parser.Tactic.apply #[.atom .none "apply",.ident .none n.toRawSubstring n.toName []],.atom .none ";",sN `Lean.Parser.Tactic.done #[.atom .none "done"]]
  else sQ #[sN `Lean.Parser.Tactic.exact #[.atom .none "exact",sN `Lean.Parser.Term.app #[.ident .none n.toRawSubstring n.toName [],sN `null (abV k b).toArray]]]]
@[irreducible] def sO (t:Lean.Syntax):Lean.Syntax:=
 let l (k:Nat) (s:String):=(s.splitOn " ").map λn=>sC n k
 sJ #[sN `Lean.Parser.Tactic.withReducible #[.atom .none "with_reducible",sQ #[sN `Lean.Parser.Tactic.first #[.atom .none "first",sN `null ((sN `group #[.atom .none "|",sQ #[sN `Lean.Parser.Tactic.assumption #[.atom .none "assumption"]]]::l 1 "Nat.le_of_lt Nat.ne_of_lt Nat.ne_of_gt Nat.le_of_eq Nat.succ_le_of_lt Nat.le_of_lt_succ Nat.lt_succ_of_le Nat.lt_succ_of_lt Nat.le_succ_of_le Nat.le_of_not_lt Nat.le_of_not_gt Nat.lt_of_not_le Nat.lt_of_not_ge Nat.not_lt_of_le Nat.not_le_of_lt Nat.lt_of_succ_lt Nat.lt_of_succ_le Nat.lt_of_succ_lt_succ Nat.succ_lt_succ Nat.succ_le_succ Nat.le_of_succ_le_succ Nat.succ.inj Nat.pos_of_ne_zero Nat.ne_zero_of_lt Nat.lt_add_right Nat.le_add_right_of_le Eq.symm Ne.symm Int.le_of_lt Int.ofNat_lt.mpr Int.ofNat_le.mpr Int.not_lt.mpr Int.not_le.mpr Int.ne_of_lt Int.ne_of_gt Int.lt_of_not_le Int.le_of_not_lt Nat.lt_of_add_right_lt Nat.lt_of_add_left_lt Nat.le_of_add_right_le Nat.lt_irrefl Nat.not_lt_zero Int.lt_irrefl"++(l 0 "Nat.le_add_left Nat.le_add_right Nat.succ_ne_self Nat.zero_le Nat.succ_pos Nat.lt_succ_self Nat.le_succ Int.natCast_nonneg Nat.sub_le"++l 2 "Nat.lt_of_lt_of_le Nat.lt_of_le_of_lt Nat.le_trans Nat.lt_trans absurd Nat.le_antisymm Int.lt_of_lt_of_le Int.lt_of_le_of_lt Int.le_trans Int.lt_trans Int.le_antisymm Nat.lt_of_le_of_ne")).toArray)]]],t]
local macro_rules | `(tactic| walk_at "o")=>do pure (sO (<- `(tactic| (first | lia | omega))))
local macro_rules | `(tactic| rw [$rs,*])=>pure (sX rs.getElems)
theorem bP {α:Type}{l:List α}{i:Nat}{a:α}(h:l[i]?=some a):∃h:i < l.length,l[i]=a:=List.getElem?_eq_some_iff.mp h
theorem bN {α:Type}{a b:α}{l:List α}(h:a∈b::l):a=b\/a∈l:=abB.mp h
theorem cq {α:Type}{a b:α}(h:a∈[b]):a=b:=agn.mp h
theorem c9 {α β:Type}{f:α->β}{b:β}{l:List α}(h:b∈l.map f):∃a,a∈l/\f a=b:=afw.mp h
theorem ew {α β:Type}{f:α->β}{b:β}{l:List α}(h:∃a,a∈l/\f a=b):b∈l.map f:=afw.mpr h
theorem dU {α:Type}{a:α}{s t:List α}(h:a∈s++t):a∈s\/a∈t:=adV.mp h
theorem iX {α:Type}{l:List α}{p:α->Bool}(h:l.all p=true):∀x∈l,p x=true:=abT.mp h
inductive MV where
 | none | bool (b:Bool) | int (i:Int) | str (s:Str) | ref (i:Nat) | tup (xs:List MV) | ext (ns:List Int)
inductive MO where
 | list (xs:List MV) | inst (c:Addr) (fs:List (Str×MV)) | dict (es:List (Str×MV)) (ep:Nat)
abbrev aO:=List (Addr×Obj)
abbrev bk:=List (Addr×Addr)
abbrev MS:=List MO
noncomputable abbrev bV (its:Array aac)(n:Nat):Obj:={ cls:=.type "list",data:=.seq its n }
noncomputable abbrev bA (its:Array aac):Obj:={ cls:=.type "tuple",data:=.seq its }
def A8 (hB:Heap)(news:aO)(a:Addr)(o:Obj):Prop:=(a,o)∈news\/hB.get? a=some o
theorem bv {P:Prop}(h:∀G:Prop,(P->G)->G):P:=h P id
mutual
inductive RV (hB:Heap)(news:aO)(φ:bk):MV->aac->Prop
 | none:RV hB news φ .none .none
 | bool (b:Bool):RV hB news φ (.bool b) (.bool b)
 | int (i:Int) (t:Tok):RV hB news φ (.int i) (.int i t)
 | str (x:Str) (t:Tok):RV hB news φ (.str x) (.str x t)
 | ref {i:Nat} {a d:Addr} (h:φ[i]?=some (a,d)):RV hB news φ (.ref i) (.ref a)
 | tup {xs:List MV} {a:Addr} {its:Array aac} (h:A8 hB news a (bA its)) (r:bg hB news φ xs its.toList):RV hB news φ (.tup xs) (.ref a)
 | ext {ns:List Int} {l:Addr} {vs:List aac} (h:hB.IsList l vs.toArray) (r:IntsAre vs ns):RV hB news φ (.ext ns) (.ref l)
inductive bg (hB:Heap)(news:aO)(φ:bk):List MV->List aac->Prop
 | nil:bg hB news φ [] []
 | cons {x:MV} {v:aac} {xs:List MV} {vs:List aac} (h:RV hB news φ x v) (r:bg hB news φ xs vs):bg hB news φ (x::xs) (v::vs)
end
section
variable {hB:Heap}{news:aO}{φ:bk}{v:aac}{P:aac->Prop}
theorem bg.c {x:MV}{xs:List MV}{vs:List aac}{P:List aac->Prop}(r:bg hB news φ (x::xs) vs)(k:∀v vs',RV hB news φ x v->bg hB news φ xs vs'->P (v::vs')):P vs:=by
 cases r with | cons h r=>exact k _ _ h r
theorem bg.n {vs:List aac}{P:List aac->Prop}(r:bg hB news φ [] vs)(k:P []):P vs:=by cases r; exact k
theorem RV.s {x:Str}(r:RV hB news φ (.str x) v)(k:∀t,P (.str x t)):P v:=by cases r; exact k _
theorem RV.r {i:Nat}(r:RV hB news φ (.ref i) v)(k:∀a d,φ[i]?=some (a,d)->P (.ref a)):P v:=by cases r with | ref h=>exact k _ _ h
theorem RV.t {xs:List MV}(r:RV hB news φ (.tup xs) v)(k:∀a its,A8 hB news a (bA its)->bg hB news φ xs its.toList->P (.ref a)):P v:=by cases r with | tup h q=>exact k _ _ h q
def gC (ki:Int->Prop)(ks:Str->Prop)(kt:List MV->Prop)(kr:Nat->Prop)(ke:List Int->Prop)(V:MV):Prop:=match V with | .int i=>ki i | .str x=>ks x | .tup xs=>kt xs | .ref i=>kr i | .ext ns=>ke ns | _=>False
theorem RV.cV {V:MV}{ki:Int->Prop}{ks:Str->Prop}{kt:List MV->Prop}{kr:Nat->Prop}{ke:List Int->Prop}(r:RV hB news φ V v)(t:gC ki ks kt kr ke V)(hi:∀i u,ki i->P (.int i u))(hs:∀x u,ks x->P (.str x u))
  (ht:∀xs a its,A8 hB news a (bA its)->bg hB news φ xs its.toList->kt xs->P (.ref a)) (hr:∀i a d,φ[i]?=some (a,d)->kr i->P (.ref a)) (he:∀ns l vs,hB.IsList l vs.toArray->IntsAre vs ns->ke ns->P (.ref l)):P v:=by
 cases r with
 | int i u=>exact hi i u t
 | str x u=>exact hs x u t
 | tup h q=>exact ht _ _ _ h q t
 | ref h=>exact hr _ _ _ h t
 | ext h q=>exact he _ _ _ h q t
 | _=>exact t.elim
def nK (X:Type):X->Prop:=λ_=>False
def kg (k:Int->Prop):MV->Prop:=gC k (nK _) (nK _) (nK _) (nK _)
def xc (k:Str->Prop):MV->Prop:=gC (nK _) k (nK _) (nK _) (nK _)
def uQ (k:List MV->Prop):MV->Prop:=gC (nK _) (nK _) k (nK _) (nK _)
def h7 (k:Nat->Prop):MV->Prop:=gC (nK _) (nK _) (nK _) k (nK _)
theorem RV.oI {V:MV}{k:Int->Prop}(r:RV hB news φ V v)(t:kg k V)(h:∀i u,k i->P (.int i u)):P v:=r.cV t h (λ_ _ f=>f.elim) (λ_ _ _ _ _ f=>f.elim) (λ_ _ _ _ f=>f.elim) (λ_ _ _ _ _ f=>f.elim)
theorem RV.oS {V:MV}{k:Str->Prop}(r:RV hB news φ V v)(t:xc k V)(h:∀x u,k x->P (.str x u)):P v:=r.cV t (λ_ _ f=>f.elim) h (λ_ _ _ _ _ f=>f.elim) (λ_ _ _ _ f=>f.elim) (λ_ _ _ _ _ f=>f.elim)
theorem RV.oT {V:MV}{k:List MV->Prop}(r:RV hB news φ V v)(t:uQ k V)(h:∀xs a its,A8 hB news a (bA its)->bg hB news φ xs its.toList->k xs->P (.ref a)):P v:=r.cV t (λ_ _ f=>f.elim) (λ_ _ f=>f.elim) h (λ_ _ _ _ f=>f.elim) (λ_ _ _ _ _ f=>f.elim)
theorem RV.oR {V:MV}{k:Nat->Prop}(r:RV hB news φ V v)(t:h7 k V)(h:∀i a d,φ[i]?=some (a,d)->k i->P (.ref a)):P v:=r.cV t (λ_ _ f=>f.elim) (λ_ _ f=>f.elim) (λ_ _ _ _ _ f=>f.elim) h (λ_ _ _ _ _ f=>f.elim)
def Cg (p:MV->Prop)(Vs:List MV):Prop:=match Vs with | [V]=>p V | _=>False
theorem bg.o1 {Vs:List MV}{vs:List aac}{p:MV->Prop}{P:List aac->Prop}(r:bg hB news φ Vs vs)(t:Cg p Vs)(h:∀V v,RV hB news φ V v->p V->P [v]):P vs:=by
 cases r with
 | nil=>exact t.elim
 | cons r1 r=>cases r with
  | nil=>exact h _ _ r1 t
  | cons _ _=>exact t.elim
def Ml (p:MV->MV->Prop)(Vs:List MV):Prop:=match Vs with | [V,W]=>p V W | _=>False
theorem bg.o2 {Vs:List MV}{vs:List aac}{p:MV->MV->Prop}{P:List aac->Prop}(r:bg hB news φ Vs vs)(t:Ml p Vs)(h:∀V W v w,RV hB news φ V v->RV hB news φ W w->p V W->P [v,w]):P vs:=by
 cases r with
 | nil=>exact t.elim
 | cons r1 r=>cases r with
  | nil=>exact t.elim
  | cons r2 r=>cases r with
   | nil=>exact h _ _ _ _ r1 r2 t
   | cons _ _=>exact t.elim
def Nc (k:Prop)(V:MV):Prop:=match V with | .none=>k | .int _=>k | _=>False
theorem RV.oX {V:MV}{k:Prop}(r:RV hB news φ V v)(t:Nc k V)(hz:k->P .none)(hi:∀i u,k->P (.int i u)):P v:=by
 cases r with
 | none=>exact hz t
 | int i u=>exact hi i u t
 | _=>exact t.elim
def Ko (k:Prop)(V:MV):Prop:=match V with | .none=>k | _=>False
theorem RV.oZ {V:MV}{k:Prop}(r:RV hB news φ V v)(t:Ko k V)(h:k->P .none):P v:=by
 cases r with
 | none=>exact h t
 | _=>exact t.elim
def rc (k:Bool->Prop)(V:MV):Prop:=match V with | .bool b=>k b | _=>False
theorem RV.oB {V:MV}{k:Bool->Prop}(r:RV hB news φ V v)(t:rc k V)(h:∀b,k b->P (.bool b)):P v:=by
 cases r with
 | bool b=>exact h b t
 | _=>exact t.elim
theorem wV {X Y:Type}{f:X->Option Y}{x:X}{xs:List X}{ys:List Y}{G:Prop}(e:(x::xs).mapM f=some ys)(k:∀y ys',f x=some y->xs.mapM f=some ys'->ys=y::ys'->G):G:=by
 rw [adN] at e
 cases h:f x with
 | none=>rw [h] at e; cases e
 | some y=>cases h':xs.mapM f with
  | none=>rw [h,h'] at e; cases e
  | some ys'=>rw [h,h'] at e; exact k y ys' h h' (abl e).symm
theorem Km {X Y:Type}{f:X->Y}{o:Option X}{y:Y}{G:Prop}(e:o.map f=some y)(k:∀x,o=some x->y=f x->G):G:=by
 cases o with
 | none=>cases e
 | some x=>exact k x rfl (abl e).symm
def dT {X:Type}(o:Option X)(K:X->Prop):Prop:=match o with | some x=>K x | none=>False
theorem dI {X:Type}{o:Option X}{K:X->Prop}{G:Prop}(t:dT o K)(k:∀x,o=some x->K x->G):G:=by
 cases o with
 | none=>exact t.elim
 | some x=>exact k x rfl t
end
noncomputable def bq (φ:bk):List Addr:=φ.flatMap λp=>[p.1,p.2]
theorem aA {α:Type}{l l':List α}{i:Nat}{x:α}(hp:l <+: l')(h:l[i]?=some x):l'[i]?=some x:=by
 obtain⟨t,rfl⟩:=hp
 rw [abo (bP h).1]; exact h
structure a9 (X:List Addr)(φ:bk)(news:aO)(PG:bk)(Pu:aO):Prop where
 pre:φ <+: PG
 tups:∀a its,(a,bA its)∈news->(a,bA its)∈Pu
 kept:∀p∈news,p.1 ∉ bq φ->p.1 ∉ X->p∈Pu
 keys:∀p∈news,∃o,(p.1,o)∈Pu
 fresh:∀p∈news,p.1∈bq PG->p.1∈bq φ
theorem a9.refl {X:List Addr}{φ:bk}{news:aO}:a9 X φ news φ news:=⟨aaj _,λ_ _ h=>h,λ_ h _ _=>h,λp h=>⟨p.2,h⟩,λ_ _ h=>h⟩
theorem a9.trans {X:List Addr}{φ Px PE:bk}{n PC PS:aO}(a:a9 X φ n Px PC)(b:a9 X Px PC PE PS):a9 X φ n PE PS where
 pre:=a.pre.trans b.pre
 tups x its h:=b.tups x its (a.tups x its h)
 kept p h hf hx:=b.kept p (a.kept p h hf hx) (λq=>hf (a.fresh p h q)) hx
 keys p h:=let ⟨o,ho⟩:=a.keys p h; b.keys (p.1,o) ho
 fresh p h hf:=let ⟨o,ho⟩:=a.keys p h; a.fresh p h (b.fresh (p.1,o) ho hf)
theorem a9.wide {X Y:List Addr}{φ PG:bk}{n n':aO}(a:a9 X φ n PG n')(h:∀x∈X,x∈Y):a9 Y φ n PG n':=
 ⟨a.pre,a.tups,λp hp hf hx=>a.kept p hp hf λq=>hx (h _ q),a.keys,a.fresh⟩
theorem a9.sub {X:List Addr}{φ PG:bk}{n n':aO}(hp:φ <+: PG)(hs:∀p∈n,p∈n')(hf:∀p∈n,p.1∈bq PG->p.1∈bq φ):a9 X φ n PG n':=
 ⟨hp,λ_ _ h=>hs _ h,λp h _ _=>hs p h,λp h=>⟨p.2,hs p h⟩,hf⟩
theorem a9.led {X:List Addr}{φ:bk}{n n':aO}(hs:∀p∈n,p∈n'):a9 X φ n φ n':=.sub (aaj _) hs λ_ _ h=>h
section
variable {hB:Heap}{news Pu:aO}{φ PG:bk}
theorem RV.mono' (hp:φ <+: PG)(ht:∀a its,(a,bA its)∈news->(a,bA its)∈Pu){V:MV}{v:aac}(r:RV hB news φ V v):RV hB Pu PG V v:=
 RV.rec (motive_1:=λV v _=>RV hB Pu PG V v) (motive_2:=λV v _=>bg hB Pu PG V v) .none (λb=>.bool b) (λi t=>.int i t) (λx t=>.str x t) (λh=>.ref (aA hp h)) (λh _ ih=>.tup (h.imp (λh=>ht _ _ h) id) ih) (λh r=>.ext h r) .nil (λ_ _ h ih=>.cons h ih) r
theorem bg.mono' (hp:φ <+: PG)(ht:∀a its,(a,bA its)∈news->(a,bA its)∈Pu){V:List MV}{v:List aac}(r:bg hB news φ V v):bg hB Pu PG V v:=by
 induction V generalizing v with
 | nil=>exact r.n .nil
 | cons x xs ih=>exact r.c λ_ _ h r=>.cons (h.mono' hp ht) (ih r)
end
section
variable {hB:Heap}{news Pu:aO}{φ PG:bk}{X:List Addr}
theorem RV.mono {V:MV}{v:aac}(r:RV hB news φ V v)(g:a9 X φ news PG Pu):RV hB Pu PG V v:=RV.mono' g.pre g.tups r
theorem bg.mono {V:List MV}{v:List aac}(r:bg hB news φ V v)(g:a9 X φ news PG Pu):bg hB Pu PG V v:=bg.mono' g.pre g.tups r
theorem bg.length {V:List MV}:∀{v:List aac},bg hB news φ V v->v.length=V.length:=by
 induction V with
 | nil=>intro v h; cases h; rfl
 | cons x xs ih=>intro v h; cases h with | cons _ r=>simp [ih r]
theorem bg.get {V:List MV}:∀{v:List aac}{i:Nat}{x:MV},bg hB news φ V v->V[i]?=some x->∃y,v[i]?=some y/\RV hB news φ x y:=by
 induction V with
 | nil=>intro v i x _ e; cases e
 | cons a xs ih =>
  intro v i x h e
  cases h with
  | cons h r =>
   cases i with
   | zero=>cases e; exact⟨_,rfl,h⟩
   | succ i =>
    obtain⟨y,e',q⟩:=ih (i:=i) r (by simpa using e)
    exact⟨y,by simpa using e',q⟩
theorem bg.append {V W:List MV}:∀{v w:List aac},bg hB news φ V v->bg hB news φ W w->bg hB news φ (V++W) (v++w):=by
 induction V with
 | nil=>intro v w h k; cases h; exact k
 | cons a xs ih=>intro v w h k; cases h with | cons h r=>exact .cons h (ih r k)
theorem bg.reverse {V:List MV}:∀{v:List aac},bg hB news φ V v->bg hB news φ V.reverse v.reverse:=by
 induction V with
 | nil=>intro v h; cases h; exact .nil
 | cons a xs ih=>intro v h; cases h with | cons h r=>rw [adp,adp]; exact (ih r).append (.cons h .nil)
theorem bg.drop {V:List MV}:∀{v:List aac}(k:Nat),bg hB news φ V v->bg hB news φ (V.drop k) (v.drop k):=by
 induction V with
 | nil=>intro v k h; cases h; simp; exact .nil
 | cons a xs ih=>intro v k h; cases h with | cons h r=>cases k with | zero=>exact .cons h r | succ k=>exact ih k r
theorem bg.take {V:List MV}:∀{v:List aac}(k:Nat),bg hB news φ V v->bg hB news φ (V.take k) (v.take k):=by
 induction V with
 | nil=>intro v k h; cases h; simp; exact .nil
 | cons a xs ih=>intro v k h; cases h with | cons h r=>cases k with | zero=>exact .nil | succ k=>exact .cons h (ih k r)
theorem bg.set {V:List MV}:∀{v:List aac}{x:MV}{y:aac}(k:Nat),bg hB news φ V v->RV hB news φ x y->bg hB news φ (V.set k x) (v.set k y):=by
 induction V with
 | nil=>intro v x y k h _; cases h; exact .nil
 | cons a xs ih=>intro v x y k h q; cases h with | cons h r=>cases k with | zero=>exact .cons q r | succ k=>exact .cons h (ih k r q)
end
inductive ku (P:ai2)(hB:Heap)(news:aO)(φ:bk):List (Str×MV)->List adE->Prop
 | nil:ku P hB news φ [] []
 | cons {k:Str} {t:Tok} {V:MV} {v:aac} {fs:List (Str×MV)} {es:List adE} (h:RV hB news φ V v) (r:ku P hB news φ fs es):ku P hB news φ ((k,V)::fs) (⟨adC P k,.str k t,v⟩::es)
inductive ml (hB:Heap)(news:aO)(φ:bk):List (Str×MV)->List (Str×aac)->Prop
 | nil:ml hB news φ [] []
 | cons {k:Str} {V:MV} {v:aac} {fs:List (Str×MV)} {kvs:List (Str×aac)} (h:RV hB news φ V v) (r:ml hB news φ fs kvs):ml hB news φ ((k,V)::fs) ((k,v)::kvs)
theorem ml.mono {hB:Heap}{news Pu:aO}{φ PG:bk}(hp:φ <+: PG)(ht:∀a its,(a,bA its)∈news->(a,bA its)∈Pu){fs:List (Str×MV)}{es:List (Str×aac)}(r:ml hB news φ fs es):ml hB Pu PG fs es:=by
 induction r with
 | nil=>exact .nil
 | cons h _ ih=>exact .cons (RV.mono' hp ht h) ih
theorem ku.mono {P:ai2}{hB:Heap}{news Pu:aO}{φ PG:bk}(hp:φ <+: PG)(ht:∀a its,(a,bA its)∈news->(a,bA its)∈Pu){fs:List (Str×MV)}{es:List adE}(r:ku P hB news φ fs es):ku P hB Pu PG fs es:=by
 induction r with
 | nil=>exact .nil
 | cons h _ ih=>exact .cons (RV.mono' hp ht h) ih
set_option genInjectivity false in
structure bC where
 prog:adh
 w:aa9
 K:Frag
 p:adh
 loose:List Str
 mean:ajg->Option aac
 mg:Str->Option aac
 mb:Str->Option aac
 hB:Heap
 tab:Addr
 GT:Array aac->Prop
 GO:Obj->Prop
 flds:Addr->List Str
 more:Heap->Prop
structure bC.Ok (α:bC):Prop where
 X:α.K.In α.hB
 T:Top α.p α.loose α.mean α.mg α.mb α.hB
 M:α.more α.hB
def qD (o:Obj):Prop:=o.cls=.type "code"/\∃vs,o.data=.fields vs
section
variable (α:bC)
def vd (o:Obj)(kvs:List (Str×aac))(ep:Nat):Prop:=
 ∃es,o.ExactDict/\o.data=.dict es ep/\KeysOf (strKind α.prog α.w) es/\Pairs (strKind α.prog α.w) es.toList kvs/\(kvs.map (·.1)).Nodup
def OR (news:aO)(φ:bk)(a d:Addr):MO->Prop
 | .list xs=>d=a/\∃its n,(a,bV its n)∈news/\bg α.hB news φ xs its.toList
 | .inst c fs=>(a,agH c d)∈news/\((∀p∈fs,p.1∈α.flds c)/\fs.length<=100)/\∃es n,(d,dictOf es n)∈news/\ku α.w.params α.hB news φ fs es
 | .dict fs ep=>d=a/\(a == aee)=false/\∃o kvs,(a,o)∈news/\vd α o kvs ep/\ml α.hB news φ fs kvs
structure Wd (st:MS)(φ:bk)(news:aO):Prop where
 nodup:(news.map (·.1)).Nodup
 len:φ.length=st.length
 apart:∀(i j:Nat) (p q:Addr×Addr),φ[i]?=some p->φ[j]?=some q->i≠j->p.1≠q.1/\p.1≠q.2/\p.2≠q.1/\p.2≠q.2
 objs:∀(i:Nat) (o:MO),st[i]?=some o->∃a d,φ[i]?=some (a,d)/\OR α news φ a d o
 tabs:∃ps,(α.tab,adn ps)∈news/\α.GT ps/\∀c,aeH c∈ps.toList->∃oc,(c,oc)∈news/\c ∉ bq φ/\qD oc/\α.GO oc
structure Sn (h₀:Heap)(L:Addr)(m:Str->Option aac)(h:Heap)(st:MS)(φ:bk)(news:aO):Prop where
 F:Fr h₀ L h m
 N:News h₀ L h news
 W:Wd α st φ news
structure Cf (ℓ:Nat)(A:abw)(h₀:Heap)(L:Addr):Prop where
 ok:α.Ok
 fr:∃A₀ outer Ql,ai3 A₀ α.hB outer h₀/\A.frames=some (Ql::outer)/\Ql.frame=some L/\Ql.scope.kind=.function
 hand:A.handled=none
 depth:A.depth+3 * ℓ+3 < afx
 units:A.units+10 * ℓ+200 < cLine
 tp:ℓ<=10/\(ℓ=10->(∃Ql,A.frames=some [Ql])/\h₀=α.hB)
structure Ce (sc:abM)(env:Env):Prop where
 scope:env.scope=sc
 kind:sc.kind=.function
 glob:env.globals=aam
 bul:env.builtins=builtinsNs
inductive vk (φ:bk)(env:Env)(L:Addr)(m:Str->Option aac)(news:aO)(x:Str)(v:aac):Prop
 | fr (k:env.kindOf x=some .local) (hL:env.locals=L) (hm:m x=some v)
 | ns (k:env.kindOf x=some .local) (ht:env.locals≠α.tab) (hf:env.locals ∉ bq φ) (o:Obj) (es:Array adE) (ep:Nat) (hm:(env.locals,o)∈news) (r:o.data=.dict es ep/\StrKeys es/\nsFind es x=some v)
 | cell (k:env.kindOf x=some .cell) (c:Addr) (o:Obj) (hc:env.cells.lookup x=some c) (ht:c≠α.tab) (hf:c ∉ bq φ) (hm:(c,o)∈news) (hd:o.data=.cell (some v))
noncomputable abbrev aG:=List (Option MV)
def Lc (slots:List Str)(env:Env)(L:Addr)(m:Str->Option aac)(news:aO)(φ:bk)(ρ:aG):Prop:=
 ∀(i:Nat) (x:Str) (V:MV),slots[i]?=some x->ρ[i]?=some (some V)->∃v,vk α φ env L m news x v/\RV α.hB news φ V v
def g6 (h₀:Heap)(L:Addr)(m:Str->Option aac)(s:aal)(φ:bk)(news:aO)(Q:MV->MS->Prop)(Qc:aac->aal->Prop):Prop:=
 ∀V Ps PG Pu v h' PV,Sn α h₀ L m h' Ps PG Pu->a9 [α.tab] φ news PG Pu->RV α.hB Pu PG V v->Q V Ps->Qc v { s with heap:=h',toks:=PV }
abbrev TE:=aG->MS->(MV->MS->Prop)->Prop
abbrev TL:=aG->MS->(List MV->MS->Prop)->Prop
abbrev TP:=List MV->MS->(MV->MS->Prop)->Prop
abbrev TB:=aG->MS->(Bool->MS->Prop)->Prop
def aa (ℓ:Nat)(sc:abM)(slots:List Str)(e:Expr)(T:TE):Prop:=
 ∀A h₀ L env,Cf α ℓ A h₀ L->Ce sc env->∀s m st φ news ρ,Sn α h₀ L m s.heap st φ news->Lc α slots env L m news φ ρ->∀Q Qc E,T ρ st Q->g6 α h₀ L m s φ news Q Qc ->
  wpAny (abe α.prog α.w) A (eval e env) Qc E s
def nY (h₀:Heap)(L:Addr)(m:Str->Option aac)(s:aal)(φ:bk)(news:aO)(Q:Bool->MS->Prop)(Qc:Bool->aal->Prop):Prop:=
 ∀b Ps PG Pu h' PV,Sn α h₀ L m h' Ps PG Pu->a9 [α.tab] φ news PG Pu->Q b Ps->Qc b { s with heap:=h',toks:=PV }
def aJ (ℓ:Nat)(sc:abM)(slots:List Str)(e:Expr)(T:TB):Prop:=
 ∀A h₀ L env,Cf α ℓ A h₀ L->Ce sc env->∀s m st φ news ρ,Sn α h₀ L m s.heap st φ news->Lc α slots env L m news φ ρ->∀Q Qc E,T ρ st Q->nY α h₀ L m s φ news Q Qc ->
  wpAny (abe α.prog α.w) A (isTrue e env (eval e env)) Qc E s
def Ng (n:Nat)(h₀:Heap)(L:Addr)(m:Str->Option aac)(s:aal)(φ:bk)(news:aO)(Q:List MV->MS->Prop)(Qc:List aac->aal->Prop):Prop:=
 ∀Vs Ps PG Pu vs h' PV,Sn α h₀ L m h' Ps PG Pu->a9 [α.tab] φ news PG Pu->bg α.hB Pu PG Vs vs->Q Vs Ps->Vs.length=n->Qc vs { s with heap:=h',toks:=PV }
def aM (ℓ:Nat)(code:List aac->Sem aac)(S:TP):Prop:=
 ∀A h₀ L,Cf α ℓ A h₀ L->∀s m st φ news Vs vs,Sn α h₀ L m s.heap st φ news->bg α.hB news φ Vs vs->∀Q Qc E,S Vs st Q->g6 α h₀ L m s φ news Q Qc ->
  wpAny (abe α.prog α.w) A (code vs) Qc E s
end
section
variable {α:bC}{h₀:Heap}{L:Addr}{m:Str->Option aac}{s:aal}{φ PG:bk}{news Pu:aO}
theorem g6.after {Q:MV->MS->Prop}{Qc:aac->aal->Prop}(P:g6 α h₀ L m s φ news Q Qc)(g:a9 [α.tab] φ news PG Pu)(h':Heap)(PV:Nat):g6 α h₀ L m { s with heap:=h',toks:=PV } PG Pu Q Qc:=
 λV Pz PE SB v PM PN S PH r q=>P V Pz PE SB v PM PN S (g.trans PH) r q
theorem nY.after {Q:Bool->MS->Prop}{Qc:Bool->aal->Prop}(P:nY α h₀ L m s φ news Q Qc)(g:a9 [α.tab] φ news PG Pu)(h':Heap)(PV:Nat):nY α h₀ L m { s with heap:=h',toks:=PV } PG Pu Q Qc:=
 λV Pz PE SB PM PN S PH q=>P V Pz PE SB PM PN S (g.trans PH) q
theorem vk.grow {env:Env}{x:Str}{v:aac}(h:vk α φ env L m news x v)(g:a9 [α.tab] φ news PG Pu):vk α PG env L m Pu x v:=by
 cases h with
 | fr k hL hm=>exact .fr k hL hm
 | ns k ht hf o es ep hm r=>exact .ns k ht (λq=>hf (g.fresh _ hm q)) o es ep (g.kept _ hm hf (by simpa using ht)) r
 | cell k c o hc ht hf hm hd=>exact .cell k c o hc ht (λq=>hf (g.fresh _ hm q)) (g.kept _ hm hf (by simpa using ht)) hd
theorem vk.setM {env:Env}{m':Str->Option aac}{x:Str}{v:aac}(h:vk α φ env L m news x v)(e:m x=some v->m' x=some v):vk α φ env L m' news x v:=by
 cases h with
 | fr k hL hm=>exact .fr k hL (e hm)
 | ns k ht hf o es ep hm r=>exact .ns k ht hf o es ep hm r
 | cell k c o hc ht hf hm hd=>exact .cell k c o hc ht hf hm hd
theorem Lc.grow {slots:List Str}{env:Env}{ρ:aG}(h:Lc α slots env L m news φ ρ)(g:a9 [α.tab] φ news PG Pu):Lc α slots env L m Pu PG ρ:=
 λi x V hx hv=>let ⟨v,hl,hr⟩:=h i x V hx hv; ⟨v,hl.grow g,hr.mono g⟩
theorem g6.now {Q:MV->MS->Prop}{Qc:aac->aal->Prop}{st:MS}{V:MV}{v:aac}(P:g6 α h₀ L m s φ news Q Qc)(S:Sn α h₀ L m s.heap st φ news)(r:RV α.hB news φ V v)(q:Q V st)(tk:Nat):Qc v { s with toks:=tk }:=
 P V st φ news v s.heap tk S .refl r q
theorem nY.now {Q:Bool->MS->Prop}{Qc:Bool->aal->Prop}{st:MS}{b:Bool}(P:nY α h₀ L m s φ news Q Qc)(S:Sn α h₀ L m s.heap st φ news)(q:Q b st)(tk:Nat):Qc b { s with toks:=tk }:=
 P b st φ news s.heap tk S .refl q
end
section
variable {α:bC}{ℓ:Nat}{sc:abM}{slots:List Str}
theorem Cf.frC {A:abw}{h₀:Heap}{L:Addr}(C:Cf α ℓ A h₀ L){G:Prop}(k:∀(A₀:abw) outer Ql,ai3 A₀ α.hB outer h₀->A.frames=some (Ql::outer)->Ql.frame=some L->Ql.scope.kind=.function->G):G:=
 let ⟨A₀,outer,Ql,B,hA,hf,hk⟩:=C.fr; k A₀ outer Ql B hA hf hk
theorem Cf.stays {A:abw}{h₀:Heap}{L:Addr}(C:Cf α ℓ A h₀ L):α.hB.StaysIn h₀:=let ⟨_,_,_,B,_⟩:=C.fr; B.stays
theorem Cf.X {A:abw}{h₀:Heap}{L:Addr}(C:Cf α ℓ A h₀ L):α.K.In h₀:=C.ok.X.keeps C.stays
theorem Cf.T {A:abw}{h₀:Heap}{L:Addr}(C:Cf α ℓ A h₀ L):Top α.p α.loose α.mean α.mg α.mb h₀:=C.ok.T.keeps C.stays
def af (i:Nat):TE:=λρ st Q=>match ρ[i]? with | some (some V)=>Q V st | _=>False
def tK (V:MV):TE:=λ_ st Q=>Q V st
def ak:TL:=λ_ st Q=>Q [] st
def ad (a:TE)(r:TL):TL:=λρ st Q=>a ρ st λV Pt=>r ρ Pt λVs Pz=>Q (V::Vs) Pz
def aF (S:TP)(r:TL):TE:=λρ st Q=>r ρ st λVs Pt=>S Vs Pt Q
theorem vg {A:abw}{env:Env}{h₀:Heap}{L:Addr}{m:Str->Option aac}{s:aal}{st:MS}{φ:bk}{news:aO}{Qc E:aac->aal->Prop}{ρ:aG}{i:Nat}{x:Str}{V:MV}(D:Ce sc env)(S:Sn α h₀ L m s.heap st φ news)(Lo:Lc α slots env L m news φ ρ)(hx:slots[i]?=some x)(hV:ρ[i]?=some (some V))
  (P:∀v,RV α.hB news φ V v->Qc v s):wpAny (abe α.prog α.w) A (loadName env x) Qc E s:=by
 obtain⟨v,hl,hr⟩:=Lo i x V hx hV
 have q:=P v hr
 have hk:env.scope.kind=.function:=D.scope ▸ D.kind
 cases hl with
 | fr QA hL hm=>subst hL; exact aeA hk QA S.F.ns hm q
 | ns QA _ _ o es ep hm r=>exact aeA hk QA ⟨o,es,ep,S.N.get hm,r.1,r.2.1,λ_=>rfl⟩ r.2.2 q
 | cell QA c o hc _ _ hm ho=>exact ahT hk QA hc ⟨o,S.N.get hm,ho⟩ q
theorem qH {st:MS}{i:Nat}{ρ:aG}{Q:MV->MS->Prop}{G:Prop}(t:af i ρ st Q)(k:∀V,ρ[i]?=some (some V)->Q V st->G):G:=by
 unfold af at t
 cases e:ρ[i]? with
 | none=>rw [e] at t; exact t.elim
 | some o =>
  rw [e] at t
  cases o with
  | none=>exact t.elim
  | some V=>exact k V e t
theorem aa.loc {i:Nat}{x:Str}{pos:Pos}(hx:autoParam (slots[i]?=some x) aR)(hd:autoParam ((x == ("__debug__":Str))=false) aD):aa α ℓ sc slots (.Name x pos) (af i):=
 λA h₀ L env C D s m st φ news ρ S Lo Q Qc E t P=>qH t λV hV t=>ago (vg D S Lo hx hV λv hr=>P.now S hr t s.toks) hd
theorem bo {k:_}{pos:Pos}:aa α ℓ sc slots (.Constant .none k pos) (tK .none):=λ_ _ _ _ _ _ s _ _ _ _ _ S _ _ _ _ t P=>wpAny_Constant_none (P.now S .none t s.toks)
theorem dl {k:_}{pos:Pos}{b:Bool}:aa α ℓ sc slots (.Constant (.bool b) k pos) (tK (.bool b)):=λ_ _ _ _ _ _ s _ _ _ _ _ S _ _ _ _ t P=>ahU (P.now S (.bool b) t s.toks)
theorem aq {k:_}{pos:Pos}{i:Int}:aa α ℓ sc slots (.Constant (.int i) k pos) (tK (.int i)):=λ_ _ _ _ _ _ s _ _ _ _ _ S _ _ _ _ t P=>wpAny_Constant_int (P.now S (.int i s.toks) t (s.toks+1))
theorem aw {k:_}{pos:Pos}{x:Str}:aa α ℓ sc slots (.Constant (.str x) k pos) (tK (.str x)):=λ_ _ _ _ _ _ s _ _ _ _ _ S _ _ _ _ t P=>aic (P.now S (.str x s.toks) t (s.toks+1))
theorem aa.glob {x:Str}{pos:Pos}{v:aac}{V:MV}(e:nsIn α.K aam x=some (some v))(r:α.Ok->RV α.hB [] [] V v)(hx:autoParam (sc.names.lookup x=some .globalImplicit) aR)
  (hd:autoParam ((x == ("__debug__":Str))=false) aD):aa α ℓ sc slots (.Name x pos) (tK V):=by
 intro A h₀ L env C D s m st φ news ρ S Lo Q Qc E t P
 exact aip S.F C.X (afY C.T) e (P.now S (RV.mono' (List.nil_prefix) (λ_ _ h=>absurd h abx) (r C.ok)) t s.toks) D.glob (D.scope ▸ D.kind) (by unfold acd; rw [D.scope]; exact hx) hd
def fB (es:List Expr):Prop:=∀env,ada es env=es.map λe=>(false,eval e env)
theorem fB.nil:fB []:=λ_=>rfl
theorem fB.cons {e:Expr}{es:List Expr}(h:∀rest env,ada (e::rest) env=(false,eval e env)::ada rest env)(r:fB es):fB (e::es):=λenv=>by rw [h,r env]; rfl
theorem fB.any {es:List Expr}(h:fB es)(pos:Pos)(env:Env):(agp pos (ada es env)).any (·.1)=false:=by
 rw [h env]
 unfold agp
 rw [aiq]
 intro x hx
 simp only [afw] at hx
 refine bv λGG PD=>?_
 obtain⟨_,⟨_,_,rfl⟩,rfl⟩:=hx
 refine PD ?_
 simp
structure ae (α:bC)(ℓ:Nat)(sc:abM)(slots:List Str)(es:List Expr)(T:TL):Prop where
 plain:fB es
 run:∀A h₀ L env,Cf α ℓ A h₀ L->Ce sc env->∀s m st φ news ρ,Sn α h₀ L m s.heap st φ news->Lc α slots env L m news φ ρ->∀pos Q Qc E,T ρ st Q->Ng α es.length h₀ L m s φ news Q Qc ->
  wpAny (abe α.prog α.w) A (ajh (agp pos (ada es env))) Qc E s
theorem ai:ae α ℓ sc slots [] ak where
 plain:=.nil
 run:=λA h₀ L env C D s m st φ news ρ S Lo pos Q Qc E t P=>ahz (P [] st φ news [] s.heap s.toks S .refl .nil t rfl)
theorem ac {e:Expr}{es:List Expr}{a:TE}{r:TL}(h:aa α ℓ sc slots e a)(k:ae α ℓ sc slots es r)(hs:autoParam (∀rest env,ada (e::rest) env=(false,eval e env)::ada rest env) aI):ae α ℓ sc slots (e::es) (ad a r) where
 plain:=.cons hs k.plain
 run:=λA h₀ L env C D s m st φ news ρ S Lo pos Q Qc E t P =>
  aeI (he:=hs _ _) (h A h₀ L env C D s m st φ news ρ S Lo _ _ E t λV Pt Px PC v h₁ PA Pv Py PO Pw =>
   k.run A h₀ L env C D _ m Pt Px PC ρ Pv (Lo.grow Py) pos _ _ E Pw λVs Pz PE PS vs PM PN PF PH P5 PU hn =>
    P (V::Vs) Pz PE PS (v::vs) PM PN PF (Py.trans PH) (.cons (PO.mono PH) P5) PU (by simp [hn]))
theorem bR {A:abw}{env:Env}{pos:Pos}{f:aac}{first:List aac}{es:List Expr}{s:aal}{Q:aac->aal->Prop}{E:aac->aal->Prop}(pl:fB es){Pp:Heap->Prop}
  (hk:∀h,Pp h->∃k,(k=ag8\/k=agq\/k=afy)/\air (abe α.prog α.w) h (ai4 f) k)
  (h:wpAny (abe α.prog α.w) A (ajh (agp pos (ada es env))) (λvs P0=>Pp P0.heap/\wpAny (abe α.prog α.w) A (call f (first++vs)) Q E P0) E s) :
  wpAny (abe α.prog α.w) A (ai5 pos f first (agp pos (ada es env)) []) Q E s:=by
 refine callWith_of (P:=Pp) (by rw [pl.any]; rfl) hk ?_
 have e:=pl env
 cases es with
 | nil =>
  intro Γ p W7
  exact evalArgs_nil3 (h Γ p W7) Γ p W7
 | cons a as =>
  rw [e] at h ⊢
  exact evalArgs_plain h
end
section
variable {α:bC}{ℓ:Nat}{sc:abM}{slots:List Str}
theorem ku.look {P:ai2}{hB:Heap}{news:aO}{φ:bk}{name:Str}{fs:List (Str×MV)}{es:List adE}(r:ku P hB news φ fs es) :
  match fs.lookup name with
  | some V=>∃v,aiM name es=some (some v)/\RV hB news φ V v
  | none=>aiM name es=some none:=by
 induction r with
 | nil=>rfl
 | @cons k t V v fs es h r ih =>
  rw [agV]
  cases hk:name == k with
  | true =>
   refine⟨v,?_,h⟩
   obtain rfl:=eq_of_beq hk
   unfold aiM
   rw [List.find?_cons_of_pos (a:=⟨adC P name,.str name t,v⟩) (p:=λe:adE=>e.key.isStr name) (beq_self_eq_true name)]
  | false =>
   have QA:(k == name)=false:=by rw [Bool.beq_comm]; exact hk
   have e:aiM name (⟨adC P k,.str k t,v⟩::es)=aiM name es:=by
    unfold aiM
    rw [List.find?_cons_of_neg (a:=⟨adC P k,.str k t,v⟩) (p:=λe:adE=>e.key.isStr name) (λq=>Bool.noConfusion (QA.symm.trans q))]; rfl
   rw [e]
   exact ih
theorem ku.noneOf {P:ai2}{hB:Heap}{news:aO}{φ:bk}{name:Str}{fs:List (Str×MV)}{es:List adE}(r:ku P hB news φ fs es)(h:∀p∈fs,p.1≠name):aiM name es=some none:=by
 have:=r.look (name:=name)
 have hn:fs.lookup name=none:=by
  rw [aff]
  intro p hp; have:=h p hp; simpa using λe=>this e.symm
 rw [hn] at this; exact this
theorem Wd.inst {st:MS}{φ:bk}{news:aO}(W:Wd α st φ news){i:Nat}{c:Addr}{fs:List (Str×MV)}{a:Addr}{d':Addr}(h:st[i]?=some (.inst c fs))(PP:φ[i]?=some (a,d')) :
  (a,agH c d')∈news/\((∀p∈fs,p.1∈α.flds c)/\fs.length<=100)/\∃es n,(d',dictOf es n)∈news/\ku α.w.params α.hB news φ fs es:=by
 obtain⟨TM,TF,e,r⟩:=W.objs i _ h
 rw [PP] at e; cases e
 exact r
theorem Wd.list {st:MS}{φ:bk}{news:aO}(W:Wd α st φ news){i:Nat}{xs:List MV}{a d':Addr}(h:st[i]?=some (.list xs))(PP:φ[i]?=some (a,d')) :
  d'=a/\∃its n,(a,bV its n)∈news/\bg α.hB news φ xs its.toList:=by
 obtain⟨TM,TF,e,r⟩:=W.objs i _ h
 rw [PP] at e; cases e
 exact r
theorem Wd.dict {st:MS}{φ:bk}{news:aO}(W:Wd α st φ news){i:Nat}{fs:List (Str×MV)}{ep:Nat}{a d':Addr}(h:st[i]?=some (.dict fs ep))(PP:φ[i]?=some (a,d')) :
  d'=a/\(a == aee)=false/\∃o kvs,(a,o)∈news/\vd α o kvs ep/\ml α.hB news φ fs kvs:=by
 obtain⟨TM,TF,e,r⟩:=W.objs i _ h
 rw [PP] at e; cases e
 exact r
theorem Wd.listC {st:MS}{φ:bk}{news:aO}(W:Wd α st φ news){i:Nat}{xs:List MV}{a d':Addr}{G:Prop}(h:st[i]?=some (.list xs))(PP:φ[i]?=some (a,d'))(k:∀its n,φ[i]?=some (a,a)->(a,bV its n)∈news->bg α.hB news φ xs its.toList->G):G:=
 let ⟨e,its,n,hm,q⟩:=W.list h PP; k its n (e ▸ PP) hm q
theorem Wd.dictC {st:MS}{φ:bk}{news:aO}(W:Wd α st φ news){i:Nat}{fs:List (Str×MV)}{ep:Nat}{a d':Addr}{G:Prop}(h:st[i]?=some (.dict fs ep))(PP:φ[i]?=some (a,d'))
  (k:∀o kvs,φ[i]?=some (a,a)->(a == aee)=false->(a,o)∈news->vd α o kvs ep->ml α.hB news φ fs kvs->G):G:=
 let ⟨e,e2,o,kvs,hm,hd,q⟩:=W.dict h PP; k o kvs (e ▸ PP) e2 hm hd q
theorem Cf.inner {A A':abw}{h₀ g:Heap}{L:Addr}(C:Cf α (ℓ+1) A h₀ L):ℓ<=10/\(ℓ=10->(∃Ql,A'.frames=some [Ql])/\g=α.hB):=⟨by have:=C.tp.1; walk_at "o",λe=>by have:=C.tp.1; walk_at "o"⟩
theorem Cf.mono {Rz:Nat}{A:abw}{h₀:Heap}{L:Addr}(C:Cf α Rz A h₀ L)(h:ℓ<=Rz):Cf α ℓ A h₀ L:=⟨C.ok,C.fr,C.hand,ace (ahA (ahV (agg 3 h) _) 3) C.depth,ace (ahA (ahV (agg 10 h) _) 200) C.units,⟨aan h C.tp.1,λe=>C.tp.2 (agc C.tp.1 (e ▸ h))⟩⟩
theorem Cf.dep1 {A:abw}{h₀:Heap}{L:Addr}(C:Cf α (ℓ+1) A h₀ L):A.depth+1+3 * ℓ+3 < afx:=by have:=C.depth; walk_at "o"
theorem aM.mono {Rz:Nat}{code:List aac->Sem aac}{S:TP}(h:aM α ℓ code S)(hl:ℓ<=Rz):aM α Rz code S:=λA h₀ L C=>h A h₀ L (C.mono hl)
theorem aa.call {x:Str}{p pos:Pos}{args:List Expr}{f:Addr}{S:TP}{T:TL}(e:nsIn α.K aam x=some (some (.ref f)))(hk:abH α.K (.ref f)=true)(hS:aM α ℓ (λvs=>abQ (.ref f) vs) S)
  (hT:ae α ℓ sc slots args T) (hx:autoParam (sc.names.lookup x=some .globalImplicit) aR) (hd:autoParam ((x == ("__debug__":Str))=false) aD):aa α ℓ sc slots (.Call (.Name x p) args [] pos) (aF S T):=by
 intro A h₀ L env C D s m st φ news ρ Qq Lo Q Qc E t P
 refine agW (aip Qq.F C.X (afY C.T) e ?_ D.glob (D.scope ▸ D.kind) (by unfold acd; rw [D.scope]; exact hx) hd)
 refine bR (α:=α) hT.plain (Pp:=α.K.In) (aiW hk) (hT.run A h₀ L env C D s m st φ news ρ Qq Lo pos _ _ E t λVs Pt Px PC vs h₁ PA Pv Py PO Pw _=>⟨C.X.keeps Pv.F.keep,?_⟩)
 exact hS A h₀ L C _ m Pt Px PC Vs vs Pv PO Q Qc E Pw (P.after Py h₁ PA)
theorem eY {id:String}(M:ah5)(h:Heap):∃k,(k=ag8\/k=agq\/k=afy)/\air M h (ai4 (.builtin id)) k:=⟨.machine,.inr (.inl rfl),agO rfl⟩
theorem iU {id:String}(M:ah5)(h:Heap):∃k,(k=ag8\/k=agq\/k=afy)/\air M h (ai4 (.type id)) k:=⟨.machine,.inr (.inl rfl),agO rfl⟩
theorem fy {A:abw}{E:aac->aal->Prop}{s:aal}{h₀:Heap}{L:Addr}{m:Str->Option aac}{env:Env}{x:Str}{pos:Pos}{v:aac}{Q:aac->aal->Prop}(C:Cf α ℓ A h₀ L)(D:Ce sc env)(F:Fr h₀ L s.heap m)
  (e:nsIn α.K aam x=some none) (hv:agj x=some v) (hn:x≠"__name__") (h:Q v s) (hx:sc.names.lookup x=some .globalImplicit) (hd:(x == ("__debug__":Str))=false) :
  wpAny (abe α.prog α.w) A (eval (.Name x pos) env) Q E s:=by
 have hk:env.scope.kind=.function:=D.scope ▸ D.kind
 refine ahB hk (by unfold acd; rw [D.scope]; exact hx) (loadGlobal_builtin (env:=env) (mg:=α.mg) (mb:=α.mb) ?_ (mg_none_of C.X C.T.g e) ?_ ((C.T.builtins x hn).trans hv) h) hd
 ·rw [D.glob]; exact C.T.g.keeps F.keep
 ·rw [D.bul]; exact C.T.b.keeps F.keep
theorem bB {x:Str}{p pos:Pos}{args:List Expr}{id:String}{S:TP}{T:TL}(e:nsIn α.K aam x=some none)(hv:agj x=some (.builtin id))(hS:aM α ℓ (λvs=>abQ (.builtin id) vs) S)
  (hT:ae α ℓ sc slots args T) (hx:autoParam (sc.names.lookup x=some .globalImplicit) aR) (hn:autoParam (x≠"__name__") aD) (hd:autoParam ((x == ("__debug__":Str))=false) aD):aa α ℓ sc slots (.Call (.Name x p) args [] pos) (aF S T):=by
 intro A h₀ L env C D s m st φ news ρ Qq Lo Q Qc E t P
 refine agW (fy C D Qq.F e hv hn ?_ hx hd)
 refine bR (α:=α) hT.plain (Pp:=λ_=>True) (λh _=>eY _ h) (hT.run A h₀ L env C D s m st φ news ρ Qq Lo pos _ _ E t λVs Pt Px PC vs h₁ PA Pv Py PO Pw _=>⟨trivial,?_⟩)
 exact hS A h₀ L C _ m Pt Px PC Vs vs Pv PO Q Qc E Pw (P.after Py h₁ PA)
theorem cG {x:Str}{p pos:Pos}{args:List Expr}{id:String}{S:TP}{T:TL}(e:nsIn α.K aam x=some none)(hv:agj x=some (.type id))(hS:aM α ℓ (λvs=>abQ (.type id) vs) S)
  (hT:ae α ℓ sc slots args T) (hx:autoParam (sc.names.lookup x=some .globalImplicit) aR) (hn:autoParam (x≠"__name__") aD) (hd:autoParam ((x == ("__debug__":Str))=false) aD):aa α ℓ sc slots (.Call (.Name x p) args [] pos) (aF S T):=by
 intro A h₀ L env C D s m st φ news ρ Qq Lo Q Qc E t P
 refine agW (fy C D Qq.F e hv hn ?_ hx hd)
 refine bR (α:=α) hT.plain (Pp:=λ_=>True) (λh _=>iU _ h) (hT.run A h₀ L env C D s m st φ news ρ Qq Lo pos _ _ E t λVs Pt Px PC vs h₁ PA Pv Py PO Pw _=>⟨trivial,?_⟩)
 exact hS A h₀ L C _ m Pt Px PC Vs vs Pv PO Q Qc E Pw (P.after Py h₁ PA)
theorem qc {A:abw}{env:Env}{o:Expr}{name:Str}{Tl pos:Pos}{args:List Expr}{s:aal}{Q:aac->aal->Prop}{E:aac->aal->Prop}(pl:fB args)(hl:args.length < 30)
  (hb:∀QQ,af4 o name env QQ=QQ) (hp:(Tl.endLine == pos.line)=true)
  (h:wpAny (abe α.prog α.w) A (eval o env) (λov P0=>wpAny (abe α.prog α.w) A (getMethod ov name (do return (<- importBound o env).getD true)) (λfx Qo=>wpAny (abe α.prog α.w) A (ai5 pos fx.1 fx.2 (agp pos (ada args env)) []) Q E Qo) E P0) E s) :
  wpAny (abe α.prog α.w) A (eval (.Call (.Attribute o name Tl) args [] pos) env) Q E s:=by
 rw [arm_eval_Call,hb]
 refine aag (abU h (λov P0 h₁=>aag (ado ?_)) λ_ _ x=>x)
 have few:methodCallForm (args.length+([]:List Keyword).length) (agp pos (ada args env)) (backToKw pos (aiQ [] env))=true:=by
  unfold methodCallForm
  have:=pl.any pos env
  have h1:(agp pos (ada args env)).all (λx=>!x.1)=true:=by
   rw [abT]; intro x hx
   rw [aiq] at this
   simpa using this x hx
  rw [h1]
  show (true && true && decide (args.length+0+0 < 30))=true
  simpa using hl
 unfold methodCall
 rw [few]
 refine aag (ab3 ?_)
 show wpAny _ _ (getMethod ov name _) _ _ _
 refine abU h₁ (λfx Qo PM=>?_) λ_ _ x=>x
 unfold methodCallPos
 rw [hp]
 exact aag (abb PM)
def w8 (C:Addr)(V:MV)(st:MS):Prop:=∃i fs,V=.ref i/\st[i]?=some (.inst C fs)
def bf (C:Addr)(S:TP)(o:TE)(args:TL):TE:=λρ st Q=>o ρ st λV Pt=>w8 C V Pt/\args ρ Pt λVs Pz=>S (V::Vs) Pz Q
theorem aQ {o:Expr}{name:Str}{Tl pos:Pos}{args:List Expr}{C f:Addr}{S:TP}{To:TE}{T:TL}(ho:aa α ℓ sc slots o To)(hT:ae α ℓ sc slots args T)(hS:aM α ℓ (λvs=>abQ (.ref f) vs) S)
  (hg:ais α.K C name=true) (hf:ab0 α.K (.ref C) name=some (some (.ref f))) (ht:isFn α.K (.ref f)=true) (hk:abH α.K (.ref f)=true) (hnm:name ∉ α.flds C)
  (hl:autoParam (args.length < 30) aK) (hp:autoParam ((Tl.endLine == pos.line)=true) aR) (hb:autoParam (∀env QQ,af4 o name env QQ=QQ) aI) :
  aa α ℓ sc slots (.Call (.Attribute o name Tl) args [] pos) (bf C S To T):=by
 intro A h₀ L env Cx D s m st φ news ρ Qq Lo Q Qc E t P
 refine qc hT.plain hl (hb env) hp (ho A h₀ L env Cx D s m st φ news ρ Qq Lo _ _ E t λV Pt Px PC v h₁ PA Pv Py PO Pw=>?_)
 refine bv λGG PD=>?_
 obtain⟨⟨i,fs,rfl,hi⟩,Pw⟩:=Pw
 refine PD ?_
 apply RV.r PO; intro a d PP
 refine bv λGG PD=>?_
 obtain⟨hm,⟨VZ,_⟩,es,n,hd,hF⟩:=Pv.W.inst hi PP
 refine PD ?_
 refine method_inst (K:=α.K) (C:=C) (ox:=agH C d) (n:=n) (es:=es) Pv.F Cx.X (ahC Pv.N hm hd) hg hf ht (hF.noneOf λp hp e=>hnm (e ▸ VZ p hp)) ?_
 refine bR (α:=α) hT.plain (Pp:=α.K.In) (aiW hk) (hT.run A h₀ L env Cx D _ m Pt Px PC ρ Pv (Lo.grow Py) pos _ _ E Pw λVs Pz PE PS vs PM PN PF PH P5 PU _=>⟨Cx.X.keeps PF.F.keep,?_⟩)
 exact hS A h₀ L Cx _ m Pz PE PS _ _ PF (.cons ((RV.ref PP).mono PH) P5) Q Qc E PU ((P.after Py h₁ PA).after PH PM PN)
def w4 (C:Addr)(K:List (Str×MV)->Prop)(o:Option MO):Prop:=match o with | some (.inst c fs)=>c=C/\K fs | _=>False
theorem wX {C:Addr}{K:List (Str×MV)->Prop}{o:Option MO}{G:Prop}(t:w4 C K o)(k:∀fs,o=some (.inst C fs)->K fs->G):G:=by
 cases o with
 | none=>exact t.elim
 | some x=>cases x with
  | inst c fs=>exact k fs (t.1 ▸ rfl) t.2
  | _=>exact t.elim
def I1 (C:Addr)(name:Str)(Q:MV->MS->Prop):MV->MS->Prop:=λV Pt=>h7 (λi=>w4 C (λfs=>dT (fs.lookup name) λW=>Q W Pt) Pt[i]?) V
def cC (C:Addr)(name:Str)(o:TE):TE:=λρ st Q=>o ρ st (I1 C name Q)
theorem bn {o:Expr}{name:Str}{pos:Pos}{C:Addr}{To:TE}{Zy:Option aac}(ho:aa α ℓ sc slots o To)(hg:ais α.K C name=true)(hh:ahQ α.K C=true)(ha:ab0 α.K (.ref C) name=some Zy)(hn:noGet α.K Zy=true)
  (hb:autoParam (∀env QQ,af4 o name env QQ=QQ) aI):aa α ℓ sc slots (.Attribute o name pos) (cC C name To):=by
 intro A h₀ L env Cx D s m st φ news ρ Qq Lo Q Qc E t P
 rw [arm_eval_Attribute,hb]
 refine aag (ho A h₀ L env Cx D s m st φ news ρ Qq Lo _ _ E t λV Pt Px PC v h₁ PA Pv Py PO Pw=>aag (ado (aag (ab3 ?_))))
 apply PO.oR Pw; intro i a d PP Pw
 refine wX Pw λfs hi Pw=>dI Pw λW hW Pw=>?_
 refine bv λGG PD=>?_
 obtain⟨hm,⟨VZ,_⟩,es,n,hd,hF⟩:=Pv.W.inst hi PP
 have gl:=hF.look (name:=name)
 rw [hW] at gl
 obtain⟨v,gl,rv⟩:=gl
 refine PD ?_
 refine get_own (K:=α.K) (C:=C) (ox:=agH C d) (n:=n) (es:=es) Pv.F Cx.X (ahC Pv.N hm hd) hg hh ha hn gl (by cases rv <;> rfl) ?_
 refine aag (wpAny_letTemporaryGo (abb ?_))
 exact P W Pt Px PC v h₁ _ Pv Py rv Pw
end
section
variable {α:bC}{ℓ:Nat}{sc:abM}{slots:List Str}{h₀ h h':Heap}{L:Addr}{m:Str->Option aac}{st:MS}{φ:bk}{news:aO}
theorem OR.mono {PG:bk}{Pu:aO}{a d:Addr}{o:MO}(hp:φ <+: PG)(hs:∀p∈news,p∈Pu)(r:OR α news φ a d o):OR α Pu PG a d o:=by
 cases o with
 | list xs=>obtain⟨e,its,n,hm,q⟩:=r; exact⟨e,its,n,hs _ hm,bg.mono' hp (λ_ _ h=>hs _ h) q⟩
 | inst c fs=>obtain⟨hm,hf,es,n,hd,q⟩:=r; exact⟨hs _ hm,hf,es,n,hs _ hd,q.mono hp λ_ _ h=>hs _ h⟩
 | dict fs ep=>obtain⟨e,e2,o,kvs,hm,hd,q⟩:=r; exact⟨e,e2,o,kvs,hs _ hm,hd,q.mono hp λ_ _ h=>hs _ h⟩
theorem OR.inKeys {a d:Addr}{o:MO}(r:OR α news φ a d o):(∃TN,(a,TN)∈news)/\∃Rh,(d,Rh)∈news:=by
 cases o with
 | list xs=>obtain⟨rfl,its,n,hm,q⟩:=r; exact⟨⟨_,hm⟩,⟨_,hm⟩⟩
 | inst c fs=>obtain⟨hm,hf,es,n,hd,q⟩:=r; exact⟨⟨_,hm⟩,⟨_,hd⟩⟩
 | dict fs ep=>obtain⟨rfl,e2,o,kvs,hm,hd,q⟩:=r; exact⟨⟨_,hm⟩,⟨_,hm⟩⟩
theorem Wd.footKeys (W:Wd α st φ news){a:Addr}(h:a∈bq φ):∃o,(a,o)∈news:=by
 unfold bq at h
 refine bv λGG PD=>?_
 obtain⟨p,hp,ha⟩:=adx.mp h
 obtain⟨i,hi,e⟩:=aeB.mp hp
 have Xf:i < st.length:=W.len ▸ hi
 obtain⟨TM,TF,VP,r⟩:=W.objs i st[i] (by simp)
 refine PD ?_
 have:φ[i]?=some p:=by rw [abc hi,e]
 rw [this] at VP
 cases VP
 have k:=r.inKeys
 simp only [abB,abx,or_false] at ha
 rcases ha with rfl | rfl
 ·exact k.1
 ·exact k.2
theorem eH {news:aO}(hn:(news.map (·.1)).Nodup){a:Addr}{TN Rh:Obj}(h1:(a,TN)∈news)(h2:(a,Rh)∈news):TN=Rh:=by
 induction news with
 | nil=>cases h1
 | cons p r ih =>
  rw [abj,abY] at hn
  cases h1 with
  | head=>cases h2 with
   | head=>rfl
   | tail _ h2=>exact absurd (ew ⟨_,h2,rfl⟩) hn.1
  | tail _ h1=>cases h2 with
   | head=>exact absurd (ew ⟨_,h1,rfl⟩) hn.1
   | tail _ h2=>exact ih hn.2 h1 h2
theorem lI {a d x:Addr}(h:x∈bq (φ++[(a,d)])):x∈bq φ\/x=a\/x=d:=by
 unfold bq at h ⊢
 rw [ahW] at h
 rcases dU h with h | h
 ·exact .inl h
 ·simp at h; exact .inr h
theorem Jq {a b:String}(h:a≠b):aid a≠aid b:=λe=>h (ahD e)
theorem OR.noCo {a d c:Addr}{o:MO}{oc:Obj}(r:OR α news φ a d o)(hn:(news.map (·.1)).Nodup)(hc:(c,oc)∈news)(h:qD oc):c≠a/\c≠d:=by
 obtain⟨h1,vs,h2⟩:=h
 have key:∀x ox,(x,ox)∈news->(ox.cls≠.type "code"\/∀vs,ox.data≠.fields vs)->c≠x:=λx ox hx hq e=>by
  subst e
  obtain rfl:=eH hn hc hx
  rcases hq with q | q
  ·exact q h1
  ·exact q _ h2
 cases o with
 | list xs=>obtain⟨rfl,its,n,hm,q⟩:=r; exact⟨key _ _ hm (.inl (Jq (by decide))),key _ _ hm (.inl (Jq (by decide)))⟩
 | inst cc fs=>obtain⟨hm,hf,es,n,hd,q⟩:=r; exact⟨key _ _ hm (.inl (λe=>by cases e)),key _ _ hd (.inl (Jq (by decide)))⟩
 | dict fs ep =>
  refine bv λGG PD=>?_
  obtain⟨rfl,e2,o,kvs,hm,⟨es,_,Qn,_⟩,q⟩:=r
  refine PD ?_
  exact⟨key _ _ hm (.inr λvs e=>by rw [Qn] at e; cases e),key _ _ hm (.inr λvs e=>by rw [Qn] at e; cases e)⟩
theorem Wd.more {D:Addr}{o:Obj}(W:Wd α st φ news)(hD:∀p∈news,p.1≠D):Wd α st φ ((D,o)::news) where
 nodup:=abY.mpr ⟨λh=>by obtain⟨p,hp,e⟩:=c9 h; exact hD p hp e,W.nodup⟩
 len:=W.len
 apart:=W.apart
 objs:=λi o' hi=>let ⟨a,d,e,r⟩:=W.objs i o' hi; ⟨a,d,e,r.mono (aaj _) λp h=>.tail _ h⟩
 tabs:=let ⟨ps,hm,g,k⟩:=W.tabs; ⟨ps,.tail _ hm,g,λc hc=>let ⟨oc,h1,h2⟩:=k c hc; ⟨oc,.tail _ h1,h2⟩⟩
theorem mN {X:Type}{l:List X}{y x:X}{i:Nat}{G:Prop}(h:(l++[y])[i]?=some x)(h1:l[i]?=some x->G)(h2:i=l.length->x=y->G):G:=by
 rcases ait i l.length with hi | hi | hi
 ·exact h1 (by rwa [abo hi] at h)
 ·rw [hi,aev] at h; exact h2 hi (abl h).symm
 ·rw [afS (by rw [abd]; exact hi)] at h; cases h
theorem Wd.alloc {a d:Addr}{o:MO}(W:Wd α st φ news)(ha:a ∉ bq φ)(hd:d ∉ bq φ)(r:OR α news (φ++[(a,d)]) a d o):Wd α (st++[o]) (φ++[(a,d)]) news where
 nodup:=W.nodup
 len:=by rw [abd,abd,W.len]; rfl
 apart:=by
  have mem:∀(i:Nat) (p:Addr×Addr),φ[i]?=some p->(p.1≠a/\p.1≠d)/\p.2≠a/\p.2≠d:=λi p e=>by
   have hp:=abk e
   have m1:p.1∈bq φ:=adx.mpr ⟨p,hp,.head _⟩
   have m2:p.2∈bq φ:=adx.mpr ⟨p,hp,.tail _ (.head _)⟩
   exact⟨⟨λe=>ha (e ▸ m1),λe=>hd (e ▸ m1)⟩,λe=>ha (e ▸ m2),λe=>hd (e ▸ m2)⟩
  intro i j p q hi hj Ys
  refine mN hi (λhi=>mN hj (λhj=>W.apart i j p q hi hj Ys) λ_ e=>?_) λei e=>mN hj (λhj=>?_) λej _=>absurd (ei.trans ej.symm) Ys
  ·have m:=mem i p hi
   rw [e]; exact⟨m.1.1,m.1.2,m.2.1,m.2.2⟩
  ·have m:=mem j q hj
   rw [e]; exact⟨m.1.1.symm,m.2.1.symm,m.1.2.symm,m.2.2.symm⟩
 objs:=λi o' hi=>by
  refine mN hi (λhi=>?_) λei eo=>⟨a,d,by rw [ei,<- W.len]; exact aev,eo ▸ r⟩
  obtain⟨TM,TF,e,PO⟩:=W.objs i o' hi
  exact⟨TM,TF,aA (abI _ _) e,PO.mono (abI _ _) λp h=>h⟩
 tabs:=by
  obtain⟨ps,hm,g,k⟩:=W.tabs
  refine⟨ps,hm,g,λc hc=>?_⟩
  obtain⟨oc,h1,h2,h3,h4⟩:=k c hc
  refine⟨oc,h1,λq=>?_,h3,h4⟩
  rcases lI q with q | q | q
  ·exact h2 q
  ·exact (r.noCo W.nodup h1 h3).1 q
  ·exact (r.noCo W.nodup h1 h3).2 q
theorem Sn.lt (S:Sn α h₀ L m h st φ news):∀p∈news,p.1≠h.objs.size:=λp hp=>abf (abn (S.N p hp).1)
theorem Sn.notFoot (S:Sn α h₀ L m h st φ news){D:Addr}(hD:∀p∈news,p.1≠D):D ∉ bq φ:=λq=>let ⟨o,ho⟩:=S.W.footKeys q; hD _ ho rfl
theorem Sn.entry {D:Addr}{o:Obj}(S:Sn α h₀ L m h st φ news)(F:Fr h₀ L h' m)(N:News h₀ L h' ((D,o)::news))(hD:∀p∈news,p.1≠D) :
  Sn α h₀ L m h' st φ ((D,o)::news)/\a9 [α.tab] φ news φ ((D,o)::news):=⟨⟨F,N,S.W.more hD⟩,.led λp h=>.tail _ h⟩
theorem Sn.newList {D:Addr}{its:Array aac}{n:Nat}{xs:List MV}(S:Sn α h₀ L m h st φ news)(F:Fr h₀ L h' m)(N:News h₀ L h' ((D,bV its n)::news))(hD:∀p∈news,p.1≠D)(r:bg α.hB news φ xs its.toList) :
  Sn α h₀ L m h' (st++[.list xs]) (φ++[(D,D)]) ((D,bV its n)::news)/\a9 [α.tab] φ news (φ++[(D,D)]) ((D,bV its n)::news):=by
 have hf:=S.notFoot hD
 refine⟨⟨F,N,(S.W.more hD).alloc hf hf ⟨rfl,its,n,.head _,bg.mono' (abI _ _) (λ_ _ h=>.tail _ h) r⟩⟩,.sub (abI _ _) (λp h=>.tail _ h) λp hp h=>?_⟩
 rcases lI h with h | h | h
 ·exact h
 ·exact absurd h (hD p hp)
 ·exact absurd h (hD p hp)
theorem Sn.refNew {D d:Addr}(S:Sn α h₀ L m h st φ news){Pu:aO}:RV α.hB Pu (φ++[(D,d)]) (.ref st.length) (.ref D):=.ref (d:=d) (by rw [<- S.W.len]; simp)
end
section
variable {α:bC}{ℓ:Nat}{h₀:Heap}{L:Addr}{m:Str->Option aac}{s:aal}{st:MS}{φ:bk}{news:aO}
noncomputable def c2 (f:aac->aac->Sem aac):List aac->Sem aac:=λvs=>match vs with | [a,b]=>f a b | _=>.unsupported ""
noncomputable def c1 (f:aac->Sem aac):List aac->Sem aac:=λvs=>match vs with | [a]=>f a | _=>.unsupported ""
theorem Sn.isList (S:Sn α h₀ L m s.heap st φ news){a:Addr}{its:Array aac}{n:Nat}(h:(a,bV its n)∈news):s.heap.IsList a its:=⟨_,S.N.get h,rfl,n,rfl⟩
theorem Sn.has (C:α.hB.StaysIn h₀)(S:Sn α h₀ L m s.heap st φ news){a:Addr}{o:Obj}(h:A8 α.hB news a o):s.heap.get? a=some o:=by
 rcases h with h | h
 ·exact S.N.get h
 ·exact S.F.keep _ _ (C _ _ h)
theorem Sn.isTup (C:α.hB.StaysIn h₀)(S:Sn α h₀ L m s.heap st φ news){a:Addr}{its:Array aac}(h:A8 α.hB news a (bA its)):ajq s.heap a its:=⟨_,S.has C h,rfl,0,rfl⟩
theorem g6.newList {Q:MV->MS->Prop}{Qc:aac->aal->Prop}{xs:List MV}{its:Array aac}{n:Nat}{h':Heap}{tk:Nat}(P:g6 α h₀ L m s φ news Q Qc)(S:Sn α h₀ L m s.heap st φ news)
  {D:Addr} (F:Fr h₀ L h' m) (N:News h₀ L h' ((D,bV its n)::news)) (hD:∀p∈news,p.1≠D) (r:bg α.hB news φ xs its.toList) (q:Q (.ref st.length) (st++[.list xs])):Qc (.ref D) { s with heap:=h',toks:=tk }:=by
 obtain⟨S',g⟩:=S.newList F N hD r
 exact P _ _ _ _ _ h' tk S' g S.refNew q
theorem g6.newTup {Q:MV->MS->Prop}{Qc:aac->aal->Prop}{xs:List MV}{its:Array aac}{h':Heap}{tk:Nat}(P:g6 α h₀ L m s φ news Q Qc)(S:Sn α h₀ L m s.heap st φ news)
  {D:Addr} (F:Fr h₀ L h' m) (N:News h₀ L h' ((D,bA its)::news)) (hD:∀p∈news,p.1≠D) (r:bg α.hB news φ xs its.toList) (q:Q (.tup xs) st):Qc (.ref D) { s with heap:=h',toks:=tk }:=by
 obtain⟨S',g⟩:=S.entry F N hD
 exact P _ _ _ _ _ h' tk S' g (.tup (.inl (.head _)) (r.mono g)) q
def one (p:MV->MS->(MV->MS->Prop)->Prop):TP:=λVs st Q=>match Vs with | [V]=>p V st Q | _=>False
def two (p:MV->MV->MS->(MV->MS->Prop)->Prop):TP:=λVs st Q=>match Vs with | [V,W]=>p V W st Q | _=>False
def cE (o:Option MO)(K:List MV->Prop):Prop:=match o with | some (.list xs)=>K xs | _=>False
def wN (o:Option MO)(K:List (Str×MV)->Prop):Prop:=match o with | some (.dict fs _)=>K fs | _=>False
theorem bZ {o:Option MO}{K:List MV->Prop}{G:Prop}(t:cE o K)(k:∀xs,o=some (.list xs)->K xs->G):G:=by
 cases o with
 | none=>exact t.elim
 | some a=>cases a with
  | list xs=>exact k xs rfl t
  | _=>exact t.elim
theorem wo {o:Option MO}{K:List (Str×MV)->Prop}{G:Prop}(t:wN o K)(k:∀fs ep,o=some (.dict fs ep)->K fs->G):G:=by
 cases o with
 | none=>exact t.elim
 | some a=>cases a with
  | dict fs ep=>exact k fs ep rfl t
  | _=>exact t.elim
theorem oh {code:List aac->Sem aac}{p:MV->MS->(MV->MS->Prop)->Prop}
  (h:∀A h₀ L,Cf α ℓ A h₀ L->∀(s:aal) m st φ news V v,Sn α h₀ L m s.heap st φ news->RV α.hB news φ V v->∀Q Qc E,p V st Q->g6 α h₀ L m s φ news Q Qc->wpAny (abe α.prog α.w) A (code [v]) Qc E s):aM α ℓ code (one p):=by
 intro A h₀ L C s m st φ news Vs vs S r Q Qc E t P
 cases r with
 | nil=>exact t.elim
 | cons r1 r=>cases r with
  | nil=>exact h A h₀ L C s m st φ news _ _ S r1 Q Qc E t P
  | cons _ _=>exact t.elim
theorem gU {code:List aac->Sem aac}{p:MV->MV->MS->(MV->MS->Prop)->Prop}
  (h:∀A h₀ L,Cf α ℓ A h₀ L->∀(s:aal) m st φ news V W v w,Sn α h₀ L m s.heap st φ news->RV α.hB news φ V v->RV α.hB news φ W w->∀Q Qc E,p V W st Q->g6 α h₀ L m s φ news Q Qc->wpAny (abe α.prog α.w) A (code [v,w]) Qc E s):aM α ℓ code (two p):=by
 intro A h₀ L C s m st φ news Vs vs S r Q Qc E t P
 cases r with
 | nil=>exact t.elim
 | cons r1 r=>cases r with
  | nil=>exact t.elim
  | cons r2 r=>cases r with
   | nil=>exact h A h₀ L C s m st φ news _ _ _ _ S r1 r2 Q Qc E t P
   | cons _ _=>exact t.elim
def M0:MV->MV->MS->(MV->MS->Prop)->Prop:=λV W st Q=>gC (λa=>kg (λb=>Q (.int (a+b)) st) W) (λx=>xc (λy=>(x++y).length<=abD/\Q (.str (x++y)) st) W)
 (λxs=>uQ (λys=>xs.length+ys.length<=abD/\Q (.tup (xs++ys)) st) W) (λi=>h7 (λj=>cE st[i]? λxs=>cE st[j]? λys=>xs.length+ys.length<=abD/\Q (.ref st.length) (st++[.list (xs++ys)])) W) (nK _) V
def cM:TP:=two M0
theorem cL:aM α 0 (c2 (agr .Add)) cM:=gU λA h₀ L C s m st φ news V W v w S r1 r2 Q Qc E t P=>by
 apply r1.cV t
 ·intro a ta t; apply r2.oI t; intro b tb t; exact add_int (P.now S (.int _ _) t _)
 ·intro x ta t; apply r2.oS t; intro y tb t; exact PyProof.Rows.add_str (λt' tk=>P.now S (.str _ _) t.2 tk) (by rw [<- agP]; exact t.1)
 ·intro xs a its h1 q1 t; apply r2.oT t; intro ys b RB h2 q2 t
  refine add_tuples S.F S.N (vs:=its.toList) (ws:=RB.toList) (S.isTup C.stays h1) (S.isTup C.stays h2) (λe=>?_) (λ_ e=>?_) (λ_ _ h' F' N'=>P.newTup S F' N' S.lt (q1.append q2) t.2) (by rw [q1.length,q2.length]; exact t.1)
  ·obtain rfl:xs=[]:=abL (by rw [<- q1.length,e]; rfl)
   exact P.now S (.tup h2 q2) t.2 s.toks
  ·obtain rfl:ys=[]:=abL (by rw [<- q2.length,e]; rfl)
   exact P.now S (.tup h1 q1) (abv xs ▸ t.2) s.toks
 ·intro i a d h1 t; apply r2.oR t; intro j b d2 h2 t
  refine bZ t λxs hx t=>bZ t λys hy t=>?_
  refine S.W.listC hx h1 λits n h1 hm q=>?_
  refine S.W.listC hy h2 λRB n2 h2 SU q2=>?_
  exact add_arrays S.F S.N (S.isList hm) (S.isList SU) (λh' F' N'=>P.newList S F' N' S.lt (q.append q2) t.2) (by rw [<- abm,<- abm,q.length,q2.length]; exact t.1)
 ·exact λ_ _ _ _ _ f=>f.elim
def nR (K:Int->Int->Prop)(V W:MV):Prop:=kg (λa=>kg (K a) W) V
theorem tX {hB:Heap}{K:Int->Int->Prop}{V W:MV}{v w:aac}{P:aac->aac->Prop}(r1:RV hB news φ V v)(r2:RV hB news φ W w)(t:nR K V W)(k:∀a b t u,K a b->P (.int a t) (.int b u)):P v w:=by
 apply r1.oI t; intro a ta t; apply r2.oI t; intro b tb t; exact k a b ta tb t
def bh (f:Int->Int->Int)(ok:Int->Int->Prop):TP:=two λV W st Q=>nR (λa b=>ok a b/\Q (.int (f a b)) st) V W
theorem jo {c:aac->aac->Sem aac}{f:Int->Int->Int}{ok:Int->Int->Prop}
  (h:∀A s a t b u (Q:aac->aal->Prop) E,ok a b->Q (.int (f a b) s.toks) { s with toks:=s.toks+1 }->wpAny (abe α.prog α.w) A (c (.int a t) (.int b u)) Q E s):aM α 0 (c2 c) (bh f ok):=
 gU λA h₀ L C s m st φ news V W v w S r1 r2 Q Qc E t P=>tX (P:=λv w=>wpAny (abe α.prog α.w) A (c v w) Qc E s) r1 r2 t λa b ta tb t=>h _ _ _ _ _ _ _ _ t.1 (P.now S (.int _ _) t.2 _)
def mq:Int->Int->Prop:=λ_ _=>True
def t9:Int->Int->Prop:=λ_ b=>b≠0/\b.natAbs < 1073741824
theorem mB:aM α 0 (c2 (agr .Sub)) (bh (· - ·) mq):=jo λ_ _ _ _ _ _ _ _ _ h=>sub_int h
theorem fz:aM α 0 (c2 (agr .Mult)) (bh (· * ·) acg):=jo λ_ _ _ _ _ _ _ _ k h=>mul_int h k
theorem oW:aM α 0 (c2 (agr .FloorDiv)) (bh af7 t9):=jo λ_ _ _ _ _ _ _ _ k h=>floordiv_int k.1 h (.inl (PyProof.noPylong_small k.2))
theorem ju:aM α 0 (c2 (agr .Mod)) (bh adb (λ_ b=>b≠0)):=jo λ_ _ _ _ _ _ _ _ k h=>mod_int' k h
theorem E0:aM α 0 (c2 (agr .Pow)) (bh (λa n=>a ^ n.toNat) λa n=>0<=n/\n<=1000000/\a.natAbs < 2 ^ 64):=jo λ_ _ _ _ _ _ _ _ k h=>pow_int_small k.1 k.2.1 k.2.2 h
def Mv:MV->MS->(MV->MS->Prop)->Prop:=λV st Q=>kg (λa=>Q (.int (-a)) st) V
def fP:TP:=one Mv
theorem eZ:aM α 0 (c1 (unaryOp .USub)) fP:=oh λA h₀ L C s m st φ news V v S r Q Qc E t P=>by
 apply r.oI t; intro a ta t; exact neg_int (P.now S (.int _ _) t _)
def bw (f:Int->Int->Bool):TP:=two λV W st Q=>nR (λa b=>Q (.bool (f a b)) st) V W
theorem mw {c:aac->aac->Sem aac}{f:Int->Int->Bool}
  (h:∀A s a t b u (Q:aac->aal->Prop) E,Q (.bool (f a b)) s->wpAny (abe α.prog α.w) A (c (.int a t) (.int b u)) Q E s):aM α 0 (c2 c) (bw f):=
 gU λA h₀ L C s m st φ news V W v w S r1 r2 Q Qc E t P=>tX (P:=λv w=>wpAny (abe α.prog α.w) A (c v w) Qc E s) r1 r2 t λa b ta tb t=>h _ _ _ _ _ _ _ _ (P.now S (.bool _) t s.toks)
theorem lm:aM α 0 (c2 (aci .Lt)) (bw λa b=>decide (a < b)):=mw λ_ _ _ _ _ _ _ _ h=>lt_int h
theorem MM:aM α 0 (c2 (aci .LtE)) (bw λa b=>decide (a<=b)):=mw λ_ _ _ _ _ _ _ _ h=>le_int h
theorem mZ:aM α 0 (c2 (aci .Gt)) (bw λa b=>decide (a > b)):=mw λ_ _ _ _ _ _ _ _ h=>gt_int h
theorem MD:aM α 0 (c2 (aci .GtE)) (bw λa b=>decide (a ≥ b)):=mw λ_ _ _ _ _ _ _ _ h=>ge_int h
def MV.isNone:MV->Bool | .none=>true | _=>false
def Oy:MV->MV->MS->(MV->MS->Prop)->Prop:=λV W st Q=>Ko (Q (.bool V.isNone) st) W
def mR:TP:=two Oy
def M1:MV->MV->MS->(MV->MS->Prop)->Prop:=λV W st Q=>Ko (Q (.bool (!V.isNone)) st) W
def fH:TP:=two M1
theorem RV.isNone {hB:Heap}{V:MV}{v:aac}(r:RV hB news φ V v):(v == .none)=V.isNone:=by cases r <;> rfl
theorem jD:aM α 0 (c2 (aci .Is)) mR:=gU λA h₀ L C s m st φ news V W v w S r1 r2 Q Qc E t P=>by
 apply r2.oZ t; intro t; exact is_none (by rw [r1.isNone]; exact P.now S (.bool _) t s.toks)
theorem fF:aM α 0 (c2 (aci .IsNot)) fH:=gU λA h₀ L C s m st φ news V W v w S r1 r2 Q Qc E t P=>by
 apply r2.oZ t; intro t; exact isNot_none (by rw [r1.isNone]; exact P.now S (.bool _) t s.toks)
end
section
variable {α:bC}{ℓ:Nat}{sc:abM}{slots:List Str}
def ar (S:TP)(a b:TE):TE:=λρ st Q=>a ρ st λV Pt=>b ρ Pt λW Pz=>S [V,W] Pz Q
theorem aU {op:Operator}{l r:Expr}{pos:Pos}{S:TP}{a b:TE}(hl:aa α ℓ sc slots l a)(hr:aa α ℓ sc slots r b)(hS:aM α 0 (c2 (agr op)) S):aa α ℓ sc slots (.BinOp l op r pos) (ar S a b):=by
 intro A h₀ L env C D s m st φ news ρ PB Lo Q Qc E t P
 refine wpAny_BinOp (hl A h₀ L env C D s m st φ news ρ PB Lo _ _ E t λV Pt Px PC v h₁ PA Pv Py PO Pw=>?_)
 refine hr A h₀ L env C D _ m Pt Px PC ρ Pv (Lo.grow Py) _ _ E Pw λW Pz PE PS w PM PN PF PH P5 PU=>?_
 exact hS A h₀ L (C.mono (abS _)) _ m Pz PE PS [V,W] [v,w] PF (.cons (PO.mono PH) (.cons P5 .nil)) Q Qc E PU ((P.after Py h₁ PA).after PH PM PN)
def ir (S:TP)(a:TE):TE:=λρ st Q=>a ρ st λV Pt=>S [V] Pt Q
theorem e9 {op:UnaryOp}{x:Expr}{pos:Pos}{S:TP}{a:TE}(hx:aa α ℓ sc slots x a)(hS:aM α 0 (c1 (unaryOp op)) S):aa α ℓ sc slots (.UnaryOp op x pos) (ir S a):=by
 intro A h₀ L env C D s m st φ news ρ PB Lo Q Qc E t P
 refine wpAny_UnaryOp (hx A h₀ L env C D s m st φ news ρ PB Lo _ _ E t λV Pt Px PC v h₁ PA Pv Py PO Pw=>?_)
 exact hS A h₀ L (C.mono (abS _)) _ m Pt Px PC [V] [v] Pv (.cons PO .nil) Q Qc E Pw (P.after Py h₁ PA)
theorem fm {op:CmpOp}{l r:Expr}{pos:Pos}{S:TP}{a b:TE}(hl:aa α ℓ sc slots l a)(hr:aa α ℓ sc slots r b)(hS:aM α 0 (c2 (aci op)) S)
  (hm:autoParam (agQ op r=false) aR):aa α ℓ sc slots (.Compare l [op] [r] pos) (ar S a b):=by
 intro A h₀ L env C D s m st φ news ρ PB Lo Q Qc E t P
 refine wpAny_Compare1 (hl A h₀ L env C D s m st φ news ρ PB Lo _ _ E t λV Pt Px PC v h₁ PA Pv Py PO Pw=>?_) hm
 refine hr A h₀ L env C D _ m Pt Px PC ρ Pv (Lo.grow Py) _ _ E Pw λW Pz PE PS w PM PN PF PH P5 PU=>?_
 exact hS A h₀ L (C.mono (abS _)) _ m Pz PE PS [V,W] [v,w] PF (.cons (PO.mono PH) (.cons P5 .nil)) Q Qc E PU ((P.after Py h₁ PA).after PH PM PN)
end
theorem Hn {its:Array aac}{n:Nat}(S0:Array aac):bV its n≠bA S0:=λe=>by
 have:=congrArg aiX e
 simp at this
theorem uZ {its:Array aac}{n:Nat}(ps:Array aac):bV its n≠adn ps:=λe=>by
 have:=congrArg aiX e
 simp at this
theorem H9 {es:List adE}{n:Nat}(S0:Array aac):dictOf es n≠bA S0:=λe=>by
 have:=congrArg aiX e
 simp at this
theorem Eh {es:List adE}{n:Nat}(ps:Array aac):dictOf es n≠adn ps:=λe=>by
 have:=congrArg aiX e
 simp at this
noncomputable def upd (news:aO)(c:Addr)(o':Obj):aO:=news.map λp=>if p.1=c then (c,o') else p
set_option tactic.hygienic true in
theorem mM (news:aO)(c:Addr)(o':Obj):(upd news c o').map (·.1)=news.map (·.1):=by
 unfold upd
 rw [ab6]
 refine aeP λp _=>?_
 show (if p.1=c then (c,o') else p).1=p.1
 split
 ·rename_i h; exact h.symm
 ·rfl
theorem dW {news:aO}{c:Addr}{o':Obj}{p:Addr×Obj}(h:p∈news)(hn:p.1≠c):p∈upd news c o':=ew ⟨p,h,by rw [if_neg hn]⟩
theorem il {news:aO}{c:Addr}{o o':Obj}(h:(c,o)∈news):(c,o')∈upd news c o':=ew ⟨_,h,by rw [if_pos rfl]⟩
set_option tactic.hygienic true in
theorem yv {news:aO}{c:Addr}{o':Obj}{p:Addr×Obj}(h:p∈upd news c o'):(p=(c,o')/\∃o,(c,o)∈news)\/(p∈news/\p.1≠c):=by
 obtain⟨q,hq,e⟩:=c9 h
 split at e
 ·rename_i hc; exact .inl ⟨e.symm,q.2,by rw [<- hc]; exact hq⟩
 ·rename_i hc; exact .inr (e ▸ ⟨hq,hc⟩)
theorem KP {news:aO}(hn:(news.map (·.1)).Nodup){c:Addr}{o o':Obj}(h:(c,o)∈news):Upd c o o' news (upd news c o'):=by
 induction news with
 | nil=>cases h
 | cons p r ih =>
  rw [abj,abY] at hn
  by_cases hp:p.1=c
  ·have hr:∀q∈r,q.1≠c:=λq hq e=>hn.1 (ew ⟨q,hq,by rw [e,hp]⟩)
   have e1:p=(c,o):=by
    cases h with
    | head=>rfl
    | tail _ h=>exact absurd rfl (hr _ h)
   subst e1
   have e2:upd ((c,o)::r) c o'=(c,o')::r:=by
    unfold upd
    rw [abj,if_pos rfl]
    congr 1
    exact (aeP λq hq=>by rw [if_neg (hr q hq)]; rfl).trans (af8 r)
   rw [e2]
   exact .head hr
  ·have h':(c,o)∈r:=by
    cases h with
    | head=>exact absurd rfl hp
    | tail _ h=>exact h
   have e2:upd (p::r) c o'=p::upd r c o':=by
    unfold upd
    rw [abj,if_neg hp]
   rw [e2]
   exact .tail hp (ih hn.2 h')
section
variable {α:bC}{h₀ h h':Heap}{L:Addr}{m:Str->Option aac}{st:MS}{φ:bk}{news:aO}
theorem News.upd {c:Addr}{o o':Obj}(N:News h₀ L h news)(hm:(c,o)∈news)(hs:adi c h h')(ho:h'.get? c=some o'):News h₀ L h' (upd news c o'):=λp hp=>by
 rcases yv hp with ⟨rfl,_⟩ | ⟨hp,hn⟩
 ·exact⟨ho,(N _ hm).2⟩
 ·exact⟨(hs.2 _ hn).trans (N p hp).1,(N p hp).2⟩
theorem bg.upd {c:Addr}{o o':Obj}(hn:(news.map (·.1)).Nodup)(hm:(c,o)∈news)(hk:∀its,o≠bA its):∀a its,(a,bA its)∈news->(a,bA its)∈upd news c o':=λa its ht =>
 dW ht λ(e:a=c)=>by subst e; exact hk _ (eH hn hm ht)
theorem OR.upd {c:Addr}{o o':Obj}(hn:(news.map (·.1)).Nodup)(hm:(c,o)∈news)(hk:∀its,o≠bA its){a d:Addr}{x:MO}(r:OR α news φ a d x)(ha:a≠c)(hd:d≠c):OR α (upd news c o') φ a d x:=by
 have ht:=bg.upd (o':=o') hn hm hk
 cases x with
 | list xs=>obtain⟨e,its,n,UG,q⟩:=r; exact⟨e,its,n,dW UG ha,bg.mono' (aaj _) ht q⟩
 | inst cc fs=>obtain⟨UG,hf,es,n,UM,q⟩:=r; exact⟨dW UG ha,hf,es,n,dW UM hd,q.mono (aaj _) ht⟩
 | dict fs ep=>obtain⟨e,e2,o,kvs,UG,Z1,q⟩:=r; exact⟨e,e2,o,kvs,dW UG ha,Z1,q.mono (aaj _) ht⟩
theorem iE {i:Nat}{a d:Addr}(h:φ[i]?=some (a,d)):a∈bq φ/\d∈bq φ:=by
 have hp:=abk h
 unfold bq
 exact⟨adx.mpr ⟨_,hp,by simp⟩,adx.mpr ⟨_,hp,by simp⟩⟩
theorem Mk {c:Addr}{o:Obj}(W:Wd α st φ news)(hm:(c,o)∈news)(hk:∀ps,o≠adn ps):c≠α.tab:=λe=>by
 obtain⟨ps,ht,_⟩:=W.tabs
 exact hk ps (eH W.nodup (e ▸ hm) ht)
set_option tactic.hygienic true in
theorem Wd.turn {c:Addr}{o o':Obj}{i:Nat}{x y:MO}{a d:Addr}(W:Wd α st φ news)(hi:st[i]?=some x)(PP:φ[i]?=some (a,d))(hc:c=a\/c=d)(hm:(c,o)∈news)(hk:∀its,o≠bA its)(hp:∀ps,o≠adn ps)
  (r:OR α (upd news c o') φ a d y):Wd α (st.set i y) φ (upd news c o') where
 nodup:=by rw [mM]; exact W.nodup
 len:=by rw [aeV]; exact W.len
 apart:=W.apart
 objs:=λj z hj=>by
  rw [aiu] at hj
  split at hj
  ·rename_i e
   subst e
   split at hj
   ·cases hj; exact⟨a,d,PP,r⟩
   ·cases hj
  ·rename_i e
   obtain⟨TM,TF,VP,PO⟩:=W.objs j z hj
   have ap:=W.apart i j _ _ PP VP e
   refine⟨TM,TF,VP,PO.upd W.nodup hm hk ?_ ?_⟩
   ·rcases hc with rfl | rfl
    ·exact ap.1.symm
    ·exact ap.2.2.1.symm
   ·rcases hc with rfl | rfl
    ·exact ap.2.1.symm
    ·exact ap.2.2.2.symm
 tabs:=by
  obtain⟨ps,ht,g,k⟩:=W.tabs
  refine⟨ps,dW ht (Mk W hm hp).symm,g,λc' Sa=>?_⟩
  obtain⟨oc,h1,h2,h3⟩:=k c' Sa
  have ff:=iE PP
  exact⟨oc,dW h1 λe=>h2 (by have e':c'=c:=e; rw [e']; rcases hc with q | q <;> rw [q]; exact ff.1; exact ff.2),h2,h3⟩
theorem a9.upd {X:List Addr}{c:Addr}{o o':Obj}(hn:(news.map (·.1)).Nodup)(hm:(c,o)∈news)(hk:∀its,o≠bA its)(hc:c∈bq φ\/c∈X):a9 X φ news φ (upd news c o') where
 pre:=aaj _
 tups:=bg.upd hn hm hk
 kept:=λp hp hf hx=>dW hp λe=>hc.elim (λq=>hf (e ▸ q)) λq=>hx (e ▸ q)
 keys:=λp hp=>by
  have:p.1∈(Internal.upd news c o').map (·.1):=by rw [mM]; exact ew ⟨p,hp,rfl⟩
  obtain⟨q,hq,e⟩:=c9 this
  exact⟨q.2,by rw [<- e]; exact hq⟩
 fresh:=λ_ _ h=>h
theorem Sn.setList {i:Nat}{xs xs':List MV}{a d:Addr}{its its':Array aac}{n n':Nat}(S:Sn α h₀ L m h st φ news)(hi:st[i]?=some (.list xs))(PP:φ[i]?=some (a,d))(hm:(a,bV its n)∈news)
  (hs:adi a h h') (ho:h'.get? a=some (bV its' n')) (r:bg α.hB news φ xs' its'.toList) :
  Sn α h₀ L m h' (st.set i (.list xs')) φ (upd news a (bV its' n'))/\a9 [α.tab] φ news φ (upd news a (bV its' n')):=by
 have hk:∀S0,bV its n≠bA S0:=Hn
 have g:a9 [α.tab] φ news φ (upd news a (bV its' n')):=.upd S.W.nodup hm hk (.inl (iE PP).1)
 refine⟨⟨S.F.change hs (S.N _ hm).2.1 (S.N _ hm).2.2,News.upd S.N hm hs ho,?_⟩,g⟩
 obtain⟨rfl,_⟩:=S.W.list hi PP
 exact S.W.turn hi PP (.inl rfl) hm hk uZ ⟨rfl,its',n',il hm,r.mono g⟩
end
section
variable {α:bC}{ℓ:Nat}{sc:abM}{slots:List Str}
def bT (T:TE):TB:=λρ st Q=>T ρ st λV Pt=>rc (λb=>Q b Pt) V
theorem aJ.val {e:Expr}{T:TE}(h:aa α ℓ sc slots e T)(he:autoParam (∀env,isTrue e env (eval e env)=(do let v <- eval e env; standAt e.pos; ag9 [v] (aji v))) aI):aJ α ℓ sc slots e (bT T):=by
 intro A h₀ L env C D s m st φ news ρ PB Lo Q Qc E t P
 refine wpAny_isTrue_value (h A h₀ L env C D s m st φ news ρ PB Lo _ _ E t λV Pt Px PC v h₁ PA Pv Py PO Pw=>?_) (he env)
 apply PO.oB Pw; intro b Pw
 exact adY (P b Pt Px PC h₁ PA Pv Py Pw)
theorem aC {op:CmpOp}{l r:Expr}{pos:Pos}{S:TP}{a b:TE}(hl:aa α ℓ sc slots l a)(hr:aa α ℓ sc slots r b)(hS:aM α 0 (c2 (aci op)) S)
  (hm:autoParam (agQ op r=false) aR):aJ α ℓ sc slots (.Compare l [op] [r] pos) (bT (ar S a b)):=by
 intro A h₀ L env C D s m st φ news ρ PB Lo Q Qc E t P
 refine wpAny_isTrue_Compare1 (hl A h₀ L env C D s m st φ news ρ PB Lo _ _ E t λV Pt Px PC v h₁ PA Pv Py PO Pw=>?_) hm
 refine hr A h₀ L env C D _ m Pt Px PC ρ Pv (Lo.grow Py) _ _ E Pw λW Pz PE PS w PM PN PF PH P5 PU=>?_
 refine hS A h₀ L (C.mono (abS _)) _ m Pz PE PS [V,W] [v,w] PF (.cons (PO.mono PH) (.cons P5 .nil)) _ _ E PU λU Qd QB Qs u P2 P7 P3 Qg RA Qe=>?_
 apply RA.oB Qe; intro b Qe
 exact adY (P b Qd QB Qs P2 P7 P3 ((Py.trans PH).trans Qg) Qe)
def oJ (T:TB):TB:=λρ st Q=>T ρ st λb Pt=>Q (!b) Pt
theorem nz {x:Expr}{pos:Pos}{T:TB}(h:aJ α ℓ sc slots x T):aJ α ℓ sc slots (.UnaryOp .Not x pos) (oJ T):=
 λA h₀ L env C D s m st φ news ρ PB Lo Q Qc E t P=>wpAny_isTrue_Not (h A h₀ L env C D s m st φ news ρ PB Lo _ _ E t λb Pt Px PC h₁ PA Pv Py Pw=>P _ Pt Px PC h₁ PA Pv Py Pw)
def bt (α:bC)(ℓ:Nat)(sc:abM)(slots:List Str)(op:BoolOp)(es:List Expr)(T:TB):Prop:=
 ∀A h₀ L env,Cf α ℓ A h₀ L->Ce sc env->∀s m st φ news ρ,Sn α h₀ L m s.heap st φ news->Lc α slots env L m news φ ρ->∀Q Qc E,T ρ st Q->nY α h₀ L m s φ news Q Qc ->
  wpAny (abe α.prog α.w) A (allTrue op es env) Qc E s
def fV:TB:=λ_ st Q=>Q true st
def iw:TB:=λ_ st Q=>Q false st
def dz (a b:TB):TB:=λρ st Q=>a ρ st λx Pt=>if x then b ρ Pt Q else Q false Pt
def lJ (a b:TB):TB:=λρ st Q=>a ρ st λx Pt=>if x then Q true Pt else b ρ Pt Q
theorem dh:bt α ℓ sc slots .And [] fV:=λA h₀ L env C D s m st φ news ρ PB Lo Q Qc E t P=>wpAny_allTrue_And_nil (P true st φ news s.heap s.toks PB .refl t)
theorem k8:bt α ℓ sc slots .Or [] iw:=λA h₀ L env C D s m st φ news ρ PB Lo Q Qc E t P=>wpAny_allTrue_Or_nil (P false st φ news s.heap s.toks PB .refl t)
theorem bp {x:Expr}{es:List Expr}{a b:TB}(h:aJ α ℓ sc slots x a)(k:bt α ℓ sc slots .And es b):bt α ℓ sc slots .And (x::es) (dz a b):=by
 intro A h₀ L env C D s m st φ news ρ PB Lo Q Qc E t P
 refine wpAny_allTrue_And_cons (h A h₀ L env C D s m st φ news ρ PB Lo _ _ E t λv Pt Px PC h₁ PA Pv Py Pw=>?_)
 cases v with
 | true=>exact k A h₀ L env C D _ m Pt Px PC ρ Pv (Lo.grow Py) _ _ E Pw (P.after Py h₁ PA)
 | false=>exact P false Pt Px PC h₁ PA Pv Py Pw
theorem eA {x:Expr}{es:List Expr}{a b:TB}(h:aJ α ℓ sc slots x a)(k:bt α ℓ sc slots .Or es b):bt α ℓ sc slots .Or (x::es) (lJ a b):=by
 intro A h₀ L env C D s m st φ news ρ PB Lo Q Qc E t P
 refine wpAny_allTrue_Or_cons (h A h₀ L env C D s m st φ news ρ PB Lo _ _ E t λv Pt Px PC h₁ PA Pv Py Pw=>?_)
 cases v with
 | true=>exact P true Pt Px PC h₁ PA Pv Py Pw
 | false=>exact k A h₀ L env C D _ m Pt Px PC ρ Pv (Lo.grow Py) _ _ E Pw (P.after Py h₁ PA)
theorem db {op:BoolOp}{es:List Expr}{pos:Pos}{T:TB}(h:bt α ℓ sc slots op es T):aJ α ℓ sc slots (.BoolOp op es pos) T:=
 λA h₀ L env C D s m st φ news ρ PB Lo Q Qc E t P=>wpAny_isTrue_BoolOp (h A h₀ L env C D s m st φ news ρ PB Lo Q Qc E t P)
def fh (c:TB)(a b:TE):TE:=λρ st Q=>c ρ st λx Pt=>if x then a ρ Pt Q else b ρ Pt Q
theorem cA {Ru body Td:Expr}{pos:Pos}{c:TB}{a b:TE}(hc:aJ α ℓ sc slots Ru c)(ha:aa α ℓ sc slots body a)(hb:aa α ℓ sc slots Td b):aa α ℓ sc slots (.IfExp Ru body Td pos) (fh c a b):=by
 intro A h₀ L env C D s m st φ news ρ PB Lo Q Qc E t P
 refine wpAny_IfExp (hc A h₀ L env C D s m st φ news ρ PB Lo _ _ E t λv Pt Px PC h₁ PA Pv Py Pw=>?_)
 cases v with
 | true=>exact ha A h₀ L env C D _ m Pt Px PC ρ Pv (Lo.grow Py) _ _ E Pw (P.after Py h₁ PA)
 | false=>exact hb A h₀ L env C D _ m Pt Px PC ρ Pv (Lo.grow Py) _ _ E Pw (P.after Py h₁ PA)
def l6 (a b:TE):TE:=λρ st Q=>a ρ st λV Pt=>rc (λx=>if x then b ρ Pt Q else Q (.bool false) Pt) V
def Bb (a b:TE):TE:=λρ st Q=>a ρ st λV Pt=>rc (λx=>if x then Q (.bool true) Pt else b ρ Pt Q) V
theorem qJ {x y:Expr}{pos:Pos}{a b:TE}(ha:aa α ℓ sc slots x a)(hb:aa α ℓ sc slots y b):aa α ℓ sc slots (.BoolOp .And [x,y] pos) (l6 a b):=by
 intro A h₀ L env C D s m st φ news ρ PB Lo Q Qc E t P
 refine wpAny_And2 (ha A h₀ L env C D s m st φ news ρ PB Lo _ _ E t λV Pt Px PC v h₁ PA Pv Py PO Pw=>?_)
 apply PO.oB Pw; intro x Pw
 refine adY ?_
 cases x with
 | true=>exact hb A h₀ L env C D _ m Pt Px PC ρ Pv (Lo.grow Py) _ _ E Pw (P.after Py h₁ PA)
 | false=>exact P _ Pt Px PC _ h₁ PA Pv Py (.bool false) Pw
theorem Fe {x y:Expr}{pos:Pos}{a b:TE}(ha:aa α ℓ sc slots x a)(hb:aa α ℓ sc slots y b):aa α ℓ sc slots (.BoolOp .Or [x,y] pos) (Bb a b):=by
 intro A h₀ L env C D s m st φ news ρ PB Lo Q Qc E t P
 refine wpAny_Or2 (ha A h₀ L env C D s m st φ news ρ PB Lo _ _ E t λV Pt Px PC v h₁ PA Pv Py PO Pw=>?_)
 apply PO.oB Pw; intro x Pw
 refine adY ?_
 cases x with
 | true=>exact P _ Pt Px PC _ h₁ PA Pv Py (.bool true) Pw
 | false=>exact hb A h₀ L env C D _ m Pt Px PC ρ Pv (Lo.grow Py) _ _ E Pw (P.after Py h₁ PA)
def NM (PF:TP)(c:TE)(ρ:aG)(Q:Bool->MS->Prop)(V:MV):MV->MS->Prop:=λX Qd=>rc (λx=>if x then c ρ Qd λW WC=>PF [V,W] WC λY Sh=>rc (λy=>Q y Sh) Y else Q false Qd) X
def Bz (Pv PF:TP)(a b c:TE):TB:=λρ st Q=>a ρ st λU Pt=>b ρ Pt λV Pz=>Pv [U,V] Pz (NM PF c ρ Q V)
theorem HD {M:ah5}{A:abw}{E:aac->aal->Prop}{s:aal}{vs keep:List aac}{Q:Unit->aal->Prop}(h:Q () s):wpAny M A (release vs keep) Q E s:=λΓ p W7=>by rw [Sem.wp_release]; exact h
theorem GN {M:ah5}{A:abw}{E:aac->aal->Prop}{s:aal}{Q:Bool->aal->Prop}{env:Env}{l r r2:Expr}{op SA:CmpOp}{pos:Pos}{QQ:Sem aac}
  (h:wpAny M A (eval l env) (λa P0=>wpAny M A (eval r env) (λb Qo=>wpAny M A (aci op a b) (λc Qu=>wpAny M A (aji c) (λt Rv=>if t then wpAny M A (eval r2 env) (λd SP=>wpAny M A (aci SA b d) (λc2 U8=>wpAny M A (aji c2) Q E U8) E SP) E Rv else Q false Rv) E Qu) E Qo) E P0) E s)
  (hm:agQ SA r2=false) :
  wpAny M A (isTrue (.Compare l [op,SA] [r,r2] pos) env QQ) Q E s:=by
 rw [arm_isTrue_Compare]
 refine aag (abU h (λa P0 h₁=>?_) λ_ _ x=>x)
 show wpAny M A (testChain pos a [op,SA] (markedEach [op,SA] [r,r2] [eval r env,eval r2 env])) Q E P0
 have e:markedEach [op,SA] [r,r2] [eval r env,eval r2 env]=[eval r env,eval r2 env]:=by
  show eval r env::[markedBehindIn SA r2 (eval r2 env)]=_
  rw [markedBehindIn_of_false hm]
 rw [e]
 show wpAny M A (do
  let rv <- ag9 [a] (eval r env)
  standAt pos
  let c <- ag9 [a,rv] (aci op a rv)
  release [a,rv] [c]
  if <- ag9 [c,rv] (aji c) then testChain pos rv [SA] [eval r2 env] else pure false) Q E P0
 refine aag (ab3 (abU h₁ (λb Qo PM=>aag (ado (aag (ab3 (abU PM (λc Qu P2=>?_) λ_ _ x=>x))))) λ_ _ x=>x))
 refine aag (HD (aag (ab3 (abU P2 (λt Rv QN=>?_) λ_ _ x=>x))))
 cases t with
 | false=>exact abb QN
 | true =>
  show wpAny M A (do
   let rv <- ag9 [b] (eval r2 env)
   standAt pos
   let c <- aiY [b,rv] (aci SA b rv)
   ag9 [c] (aji c)) Q E Rv
  refine aag (ab3 (abU QN (λd SP Qv=>aag (ado (aag ?_))) λ_ _ x=>x))
  intro Γ p W7
  rw [Sem.wp_operate]
  exact Sem.wp_mono M Γ _ (λc2 p' U8 Q3=>ab3 Q3) (λ_ _ _ x=>x) p SP (Qv Γ p W7)
theorem GV {op SA:CmpOp}{l r r2:Expr}{pos:Pos}{Pv PF:TP}{a b c:TE}(hl:aa α ℓ sc slots l a)(hr:aa α ℓ sc slots r b)(hr2:aa α ℓ sc slots r2 c)(hS:aM α 0 (c2 (aci op)) Pv)(hS2:aM α 0 (c2 (aci SA)) PF)
  (hm:autoParam (agQ SA r2=false) aR):aJ α ℓ sc slots (.Compare l [op,SA] [r,r2] pos) (Bz Pv PF a b c):=by
 intro A h₀ L env C D s m st φ news ρ PB Lo Q Qc E t P
 have C0:=C.mono (abS ℓ)
 refine GN (hl A h₀ L env C D s m st φ news ρ PB Lo _ _ E t λU Pt Px PC u h₁ PA Pv Py PO Pw=>?_) hm
 refine hr A h₀ L env C D _ m Pt Px PC ρ Pv (Lo.grow Py) _ _ E Pw λV Pz PE PS v PM PN PF PH P5 PU=>?_
 refine hS A h₀ L C0 _ m Pz PE PS [U,V] [u,v] PF (.cons (PO.mono PH) (.cons P5 .nil)) _ _ E PU λX Qd QB Qs x P2 P7 P3 Qg RA Qe=>?_
 apply RA.oB Qe; intro q Qe
 refine adY ?_
 cases q with
 | false=>exact P false Qd QB Qs P2 P7 P3 ((Py.trans PH).trans Qg) Qe
 | true =>
  refine hr2 A h₀ L env C D _ m Qd QB Qs ρ P3 (((Lo.grow Py).grow PH).grow Qg) _ _ E Qe λW WC aa1 VF w QN R9 R4 Rm Xk XL=>?_
  refine hS2 A h₀ L C0 _ m WC aa1 VF [V,W] [v,w] R4 (.cons ((P5.mono Qg).mono Rm) (.cons Xk .nil)) _ _ E XL λY Sh Ts U6 y Qv RJ RM SO VQ Rg=>?_
  apply VQ.oB Rg; intro y Rg
  exact adY (P y Sh Ts U6 Qv RJ RM ((((Py.trans PH).trans Qg).trans Rm).trans SO) Rg)
end
inductive MF where
 | next | brk | cont | ret (V:MV)
abbrev TS:=aG->MS->(MF->aG->MS->Prop)->Prop
section
variable (α:bC)
inductive FR (news:aO)(φ:bk):MF->Flow->Prop
 | next:FR news φ .next .next
 | brk:FR news φ .brk .brk
 | cont:FR news φ .cont .cont
 | ret {V:MV} {v:aac} (r:RV α.hB news φ V v):FR news φ (.ret V) (.ret v)
structure dR (slots:List Str)(env:Env)(L:Addr)(φ:bk)(news:aO):Prop where
 nodup:slots.Nodup
 loc:env.locals=L
 kinds:∀x∈slots,env.kindOf x=some .local\/env.kindOf x=some .cell
 cells:∀x,env.kindOf x=some .cell->∃c o R2,env.cells.lookup x=some c/\c≠α.tab/\c ∉ bq φ/\(c,o)∈news/\o.data=.cell R2
 inj:∀x y c,env.cells.lookup x=some c->env.cells.lookup y=some c->x=y
 all:∀p∈env.cells,∃o,(p.2,o)∈news
noncomputable abbrev ft (env:Env):List Addr:=α.tab::env.cells.map (·.2)
def t5 (slots:List Str)(env:Env)(h₀:Heap)(L:Addr)(s:aal)(φ:bk)(news:aO)(Q:MF->aG->MS->Prop)(Qc:Flow->aal->Prop):Prop:=
 ∀f fc Rq Ps PG Pu m' h' PV,Sn α h₀ L m' h' Ps PG Pu->Lc α slots env L m' Pu PG Rq->dR α slots env L PG Pu->a9 (ft α env) φ news PG Pu->FR α Pu PG f fc->Q f Rq Ps->Qc fc { s with heap:=h',toks:=PV }
def au (ℓ:Nat)(sc:abM)(slots:List Str)(c:Stmt)(T:TS):Prop:=
 ∀A h₀ L env,Cf α ℓ A h₀ L->Ce sc env->∀s m st φ news ρ,Sn α h₀ L m s.heap st φ news->Lc α slots env L m news φ ρ->dR α slots env L φ news->∀Q Qc E,T ρ st Q->t5 α slots env h₀ L s φ news Q Qc ->
  wpAny (abe α.prog α.w) A (exec c env) Qc E s
def ah (ℓ:Nat)(sc:abM)(slots:List Str)(cs:List Stmt)(T:TS):Prop:=
 ∀A h₀ L env,Cf α ℓ A h₀ L->Ce sc env->∀s m st φ news ρ,Sn α h₀ L m s.heap st φ news->Lc α slots env L m news φ ρ->dR α slots env L φ news->∀Q Qc E,T ρ st Q->t5 α slots env h₀ L s φ news Q Qc ->
  wpAny (abe α.prog α.w) A (execs cs env) Qc E s
end
theorem dO {β:Type}{l:List (Str×β)}{k:Str}{b:β}(h:l.lookup k=some b):(k,b)∈l:=by
 obtain⟨RG,l₂,rfl,_⟩:=agX.mp h
 simp
section
variable {α:bC}{ℓ:Nat}{sc:abM}{slots:List Str}{h₀:Heap}{L:Addr}{env:Env}{s:aal}{φ PG:bk}{news Pu:aO}
theorem t5.after {Q:MF->aG->MS->Prop}{Qc:Flow->aal->Prop}(P:t5 α slots env h₀ L s φ news Q Qc)(g:a9 (ft α env) φ news PG Pu)(h':Heap)(PV:Nat):t5 α slots env h₀ L { s with heap:=h',toks:=PV } PG Pu Q Qc:=
 λf fc Qk Pz PE SB QI PM PN S Lo O PH r q=>P f fc Qk Pz PE SB QI PM PN S Lo O (g.trans PH) r q
theorem dR.grow (O:dR α slots env L φ news)(g:a9 [α.tab] φ news PG Pu):dR α slots env L PG Pu where
 nodup:=O.nodup
 loc:=O.loc
 kinds:=O.kinds
 cells:=λx hx=>by
  refine bv λGG PD=>?_
  obtain⟨c,o,R2,hc,ht,hf,hm,hd⟩:=O.cells x hx
  refine PD ?_
  exact⟨c,o,R2,hc,ht,λq=>hf (g.fresh _ hm q),g.kept _ hm hf (by simpa using ht),hd⟩
 inj:=O.inj
 all:=λp hp=>let ⟨o,ho⟩:=O.all p hp; g.keys _ ho
theorem dC (g:a9 [α.tab] φ news PG Pu):a9 (ft α env) φ news PG Pu:=g.wide λx hx=>by
 rw [cq hx]; exact .head _
def az:TS:=λρ st Q=>Q .next ρ st
def aj (a b:TS):TS:=λρ st Q=>a ρ st λf P9 Pt=>match f with | .next=>b P9 Pt Q | f=>Q f P9 Pt
theorem ao:ah α ℓ sc slots [] az:=λA h₀ L env C D s m st φ news ρ PB Lo O Q Qc E t P=>adW (P .next .next ρ st φ news m s.heap s.toks PB Lo O .refl .next t)
theorem ag {c:Stmt}{cs:List Stmt}{a b:TS}(h:au α ℓ sc slots c a)(k:ah α ℓ sc slots cs b):ah α ℓ sc slots (c::cs) (aj a b):=by
 intro A h₀ L env C D s m st φ news ρ PB Lo O Q Qc E t P
 refine ab1 (h A h₀ L env C D s m st φ news ρ PB Lo O _ _ E t λf fc P9 Pt Px PC QJ h₁ PA Pv QF QH Py PO Pw=>?_)
 cases PO with
 | next=>exact k A h₀ L env C D _ QJ Pt Px PC P9 Pv QF QH _ _ E Pw (P.after Py h₁ PA)
 | brk=>exact P _ _ P9 Pt Px PC QJ h₁ PA Pv QF QH Py .brk Pw
 | cont=>exact P _ _ P9 Pt Px PC QJ h₁ PA Pv QF QH Py .cont Pw
 | ret r=>exact P _ _ P9 Pt Px PC QJ h₁ PA Pv QF QH Py (.ret r) Pw
def aS (a:TE):TS:=λρ st Q=>a ρ st λV Pt=>Q (.ret V) ρ Pt
theorem aE {e:Expr}{pos:Pos}{a:TE}(h:aa α ℓ sc slots e a):au α ℓ sc slots (.Return (some e) pos) (aS a):=
 λA h₀ L env C D s m st φ news ρ PB Lo O Q Qc E t P=>afz (h A h₀ L env C D s m st φ news ρ PB Lo _ _ E t λV Pt Px PC v h₁ PA Pv Py PO Pw =>
  P (.ret V) (.ret v) ρ Pt Px PC m h₁ PA Pv (Lo.grow Py) (O.grow Py) (dC Py) (.ret PO) Pw)
def qG:TS:=λ_ _ _=>False
theorem jy {c:Stmt}:au α ℓ sc slots c qG:=λ_ _ _ _ _ _ _ _ _ _ _ _ _ _ _ _ _ _ t _=>t.elim
def bX (c:TB)(a b:TS):TS:=λρ st Q=>c ρ st λx Pt=>if x then a ρ Pt Q else b ρ Pt Q
theorem aZ {Ru:Expr}{body Td:List Stmt}{pos:Pos}{c:TB}{a b:TS}(hc:aJ α ℓ sc slots Ru c)(ha:ah α ℓ sc slots body a)(hb:ah α ℓ sc slots Td b):au α ℓ sc slots (.If Ru body Td pos) (bX c a b):=by
 intro A h₀ L env C D s m st φ news ρ PB Lo O Q Qc E t P
 refine wpAny_If (hc A h₀ L env C D s m st φ news ρ PB Lo _ _ E t λv Pt Px PC h₁ PA Pv Py Pw=>?_)
 cases v with
 | true=>exact ha A h₀ L env C D _ m Pt Px PC ρ Pv (Lo.grow Py) (O.grow Py) _ _ E Pw (P.after (dC Py) h₁ PA)
 | false=>exact hb A h₀ L env C D _ m Pt Px PC ρ Pv (Lo.grow Py) (O.grow Py) _ _ E Pw (P.after (dC Py) h₁ PA)
def bY (a:TE):TS:=λρ st Q=>a ρ st λV Pt=>Nc (Q .next ρ Pt) V
theorem cg {e:Expr}{pos:Pos}{a:TE}(h:aa α ℓ sc slots e a)(hi:autoParam (sc.kind=.function) aR)(hs:autoParam (∀env,aer e none pos.line env=pure false) aI):au α ℓ sc slots (.Expr e pos) (bY a):=by
 intro A h₀ L env C D s m st φ news ρ PB Lo O Q Qc E t P
 refine ai6 (h A h₀ L env C D s m st φ news ρ PB Lo _ _ E t λV Pt Px PC v h₁ PA Pv Py PO Pw=>?_) ?_ (hs env)
 ·have q:=P .next .next ρ Pt Px PC m h₁ PA Pv (Lo.grow Py) (O.grow Py) (dC Py) .next
  apply PO.oX Pw
  ·exact q
  ·exact λ_ _=>q
 ·unfold aiR
  rw [D.scope,hi]; rfl
theorem EJ {ρ:aG}{i j:Nat}{V W:MV}{G:Prop}(hW:(ρ.set i (some V))[j]?=some (some W))(h1:j=i->W=V->G)(h2:j≠i->ρ[j]?=some (some W)->G):G:=by
 by_cases e:j=i
 ·refine h1 e ?_
  subst e
  rw [abu (by rw [<- aeV (i:=j) (a:=some V)]; exact (bP hW).1)] at hW
  exact (abl (abl hW)).symm
 ·rw [abh (aef e)] at hW
  exact h2 e hW
theorem Ez {i j:Nat}{x y:Str}(nd:slots.Nodup)(hx:slots[i]?=some x)(hy:slots[j]?=some y)(h:j≠i):y≠x:=λe=>by
 subst e
 exact h ((aiv (bP hy).1 nd).mp (hy.trans hx.symm))
theorem Lc.put {m:Str->Option aac}{ρ:aG}{i:Nat}{x:Str}{V:MV}{v:aac}(Lo:Lc α slots env L m news φ ρ)(O:dR α slots env L φ news)(hx:slots[i]?=some x)(hl:env.kindOf x=some .local)(r:RV α.hB news φ V v) :
  Lc α slots env L (λy=>if y=x then some v else m y) news φ (ρ.set i (some V)):=by
 intro j y W hj hW
 refine EJ hW (λe eW=>?_) λe hW=>?_
 ·subst e eW
  rw [hx] at hj
  obtain rfl:=abl hj
  exact⟨v,.fr hl O.loc (if_pos rfl),r⟩
 ·obtain⟨w,hlw,hr⟩:=Lo j y W hj hW
  exact⟨w,hlw.setM λa3=>by simp only [if_neg (Ez O.nodup hx hj e)]; exact a3,hr⟩
theorem dR.cellSet {m:Str->Option aac}{h h':Heap}{st:MS}{ρ:aG}{i:Nat}{x:Str}{V:MV}{v:aac}{c:Addr}{o o':Obj}{R2:Option aac}(S:Sn α h₀ L m h st φ news)(Lo:Lc α slots env L m news φ ρ)(O:dR α slots env L φ news)
  (hx:slots[i]?=some x) (r:RV α.hB news φ V v) (hl:env.kindOf x=some .cell) (hc:env.cells.lookup x=some c) (ht:c≠α.tab) (hf:c ∉ bq φ) (hm:(c,o)∈news) (hd:o.data=.cell R2) (SY:h'.get? c=some o') (UM:o'.data=.cell (some v)) (hs:adi c h h') :
  Sn α h₀ L m h' st φ (upd news c o')/\Lc α slots env L m (upd news c o') φ (ρ.set i (some V))/\dR α slots env L φ (upd news c o')/\a9 (ft α env) φ news φ (upd news c o'):=by
 have SD:∀its,o≠bA its:=λits e=>by rw [e] at hd; cases hd
 have g:a9 (ft α env) φ news φ (upd news c o'):=.upd S.W.nodup hm SD (.inr (.tail _ (ew ⟨(x,c),dO hc,rfl⟩)))
 have W':Wd α st φ (upd news c o'):=by
  refine⟨by rw [mM]; exact S.W.nodup,S.W.len,S.W.apart,λj z hj=>?_,?_⟩
  ·obtain⟨a,d,e,q⟩:=S.W.objs j z hj
   have ff:=iE e
   exact⟨a,d,e,q.upd S.W.nodup hm SD (λe=>hf (e ▸ ff.1)) (λe=>hf (e ▸ ff.2))⟩
  ·obtain⟨ps,hp,q,k⟩:=S.W.tabs
   refine⟨ps,dW hp (aef ht),q,λc' Sa=>?_⟩
   obtain⟨oc,h1,h2,h3⟩:=k c' Sa
   refine⟨oc,dW h1 λe=>?_,h2,h3⟩
   obtain rfl:c'=c:=e
   obtain rfl:=eH S.W.nodup h1 hm
   obtain⟨⟨_,vs,hv⟩,_⟩:=h3
   rw [hd] at hv; cases hv
 refine⟨⟨S.F.change hs (S.N _ hm).2.1 (S.N _ hm).2.2,News.upd S.N hm hs SY,W'⟩,λj y W hj hW=>?_,⟨O.nodup,O.loc,O.kinds,λy hy=>?_,O.inj,λp hp=>let ⟨o,ho⟩:=O.all p hp; g.keys _ ho⟩,g⟩
 ·refine EJ hW (λe eW=>?_) λe hW=>?_
  ·subst e eW
   rw [hx] at hj
   obtain rfl:=abl hj
   exact⟨v,.cell hl c o' hc ht hf (il hm) UM,r.mono g⟩
  ·obtain⟨w,hlw,hr⟩:=Lo j y W hj hW
   refine⟨w,?_,hr.mono g⟩
   cases hlw with
   | fr a1 a2 a3=>exact .fr a1 a2 a3
   | ns _ _ _ Rh _ _ SK _=>exact absurd O.loc (λe=>(S.N _ SK).2.1 e)
   | cell a1 RZ Rh Si a2 a3 SK q=>exact .cell a1 RZ Rh Si a2 a3 (dW SK λz=>Ez O.nodup hx hj e (O.inj _ _ _ ((show RZ=c from z) ▸ Si) hc)) q
 ·obtain⟨RZ,Rh,XB,Si,Uq,SN,SK,Wm⟩:=O.cells y hy
  by_cases e:RZ=c
  ·subst e; exact⟨RZ,o',some v,Si,Uq,SN,il hm,UM⟩
  ·exact⟨RZ,Rh,XB,Si,Uq,SN,dW SK e,Wm⟩
theorem jB {A:abw}{sh:aal}{m:Str->Option aac}{st:MS}{ρ:aG}{i:Nat}{x:Str}{V:MV}{v:aac}{Qc:Unit->aal->Prop}{E:aac->aal->Prop}(D:Ce sc env)(S:Sn α h₀ L m sh.heap st φ news)(Lo:Lc α slots env L m news φ ρ)(O:dR α slots env L φ news)
  (hx:slots[i]?=some x) (r:RV α.hB news φ V v)
  (P:∀Pu m' h' PV,Sn α h₀ L m' h' st φ Pu->Lc α slots env L m' Pu φ (ρ.set i (some V))->dR α slots env L φ Pu->a9 (ft α env) φ news φ Pu->Qc () { sh with heap:=h',toks:=PV }) :
  wpAny (abe α.prog α.w) A (storeName env x v) Qc E sh:=by
 have hk:env.scope.kind=.function:=D.scope ▸ D.kind
 rcases O.kinds x (abk hx) with hl | hl
 ·have lc:=Lo.put O hx hl r
  obtain rfl:=O.loc
  exact adu hl S.F.ns (λh' hn hs=>P news _ h' _ ⟨S.F.set hn hs,S.N.set hs,S.W⟩ lc O .refl) (by rw [hk]; rfl)
 ·obtain⟨c,o,R2,hc,ht,hf,hm,hd⟩:=O.cells x hl
  refine ahE hk hl hc ⟨o,S.N.get hm,hd⟩ λh' hv hs=>?_
  refine bv λGG PD=>?_
  obtain⟨o',SY,UM⟩:=hv
  obtain⟨S',lc,O',g⟩:=O.cellSet S Lo hx r hl hc ht hf hm hd SY UM hs
  refine PD ?_
  exact P _ m h' sh.toks S' lc O' g
def aX (i:Nat)(a:TE):TS:=λρ st Q=>a ρ st λV Pt=>Q .next (ρ.set i (some V)) Pt
theorem au.set {x:Str}{px pos:Pos}{i:Nat}{e:Expr}{a:TE}(h:aa α ℓ sc slots e a)(hx:autoParam (slots[i]?=some x) aR)(hs:autoParam (∀env,aer e (some (.Name x px)) pos.line env=pure false) aI) :
  au α ℓ sc slots (.Assign [.Name x px] e pos) (aX i a):=by
 intro A h₀ L env C D s m st φ news ρ PB Lo O Q Qc E t P
 refine afA (h A h₀ L env C D s m st φ news ρ PB Lo _ _ E t λV Pt Px PC v h₁ PA Pv Py PO Pw=>?_) (hs env)
 exact jB D Pv (Lo.grow Py) (O.grow Py) hx PO λPS QI PM PN PF QU Q6 PH=>P .next .next _ Pt Px PS QI PM PN PF QU Q6 ((dC Py).trans PH) .next Pw
end
section
variable {α:bC}{ℓ:Nat}{slots:List Str}
def fa (Q:MV->MS->Prop):MF->aG->MS->Prop:=λf _ st=>match f with | .ret V=>Q V st | .next=>Q .none st | _=>False
theorem yF {ps:List Str}:∀{vs:List aac}{i:Nat}{x:Str}{v:aac},ps.Nodup->ps[i]?=some x->vs[i]?=some v->(ps.zip vs).reverse.lookup x=some v:=by
 induction ps with
 | nil=>intro vs i x v _ h; cases h
 | cons p r ih =>
  intro vs i x v hn hp hv
  rw [abY] at hn
  cases vs with
  | nil=>cases hv
  | cons w ws =>
   rw [aie,adp,ags]
   cases i with
   | zero =>
    cases hp; cases hv
    have:(r.zip ws).reverse.lookup p=none:=by
     rw [aff]
     intro q hq
     have:=aen (List.mem_reverse.mp hq)
     simp only [bne_iff_ne,ne_eq]
     simpa using λe:p=q.1=>hn.1 (e ▸ this.1)
    rw [this]
    simp
   | succ i =>
    have:=ih (i:=i) hn.2 (by simpa using hp) (by simpa using hv)
    rw [this]; rfl
def bJ (α:bC)(ℓ:Nat)(f:Addr)(S:TP):Prop:=
 ∀A h₀ L,Cf α ℓ A h₀ L->∀s m st φ news Vs vs,Sn α h₀ L m s.heap st φ news->bg α.hB news φ Vs vs->∀Q (R:afZ->aal->Prop),S Vs st Q->g6 α h₀ L m s φ news Q (λv s'=>R (.ok (.ret v)) s') ->
  adA (abe α.prog α.w) A (.call (.ref f) ⟨vs,[]⟩) R s
theorem aM.fn {f:Addr}{S:TP}(h:bJ α ℓ f S):aM α ℓ (λvs=>abQ (.ref f) vs) S:=
 λA h₀ L C s m st φ news Vs vs PB r Q Qc E t P=>aeC (h A h₀ L C s m st φ news Vs vs PB r Q _ t P)
theorem bJ.mono {Rz:Nat}{f:Addr}{S:TP}(h:bJ α ℓ f S)(hl:ℓ<=Rz):bJ α Rz f S:=λA h₀ L C=>h A h₀ L (C.mono hl)
structure u9 (α:bC)(f:Addr)(name qual:Str)(params:adF)(body:List Stmt)(scope:abM)(dV kV Qw pm P4 ct oc:aac)(an od:Option Addr)(Ri:Array (Option aac)):Prop where
 look:α.K.lookup f=some ⟨oc,od,.func (fnOf name qual params body scope dV kV Qw pm an P4 ct),Ri⟩
 code:codeIn α.K P4 qual=true
 co:scope.isCoroutine=false
 gen:scope.isGenerator=false
 kind:scope.kind=.function
def jJ (α:bC)(fd:FuncData)(n:Nat)(ps:List Str)(ds:List aac):Prop:=∀(s:aal)(vs:List aac),α.K.In s.heap->vs.length=n->BindsTo s fd ⟨vs,[]⟩ (ps.zip (vs++ds))
noncomputable def Jj:Nat->(List aac->Prop)->Prop
 | 0,P=>P []
 | n+1,P=>∀v,Jj n λvs=>P (v::vs)
theorem NT {n:Nat}:∀{P:List aac->Prop},Jj n P->∀vs:List aac,vs.length=n->P vs:=by
 induction n with
 | zero=>intro P h vs e; rw [abL e]; exact h
 | succ n ih =>
  intro P h vs e
  cases vs with
  | nil=>cases e
  | cons v vs=>exact ih (h v) vs (aiw e)
theorem bM {fd:FuncData}{n:Nat}{ps:List Str}{ds:List aac}(h:Jj n λvs=>∀s:aal,α.K.In s.heap->BindsTo s fd ⟨vs,[]⟩ (ps.zip (vs++ds))):jJ α fd n ps ds:=
 λs vs X hn=>NT h vs hn s X
theorem bg.base {hB:Heap}{news:aO}{φ:bk}{V:List MV}{v:List aac}(r:bg hB [] [] V v):bg hB news φ V v:=bg.mono' List.nil_prefix (λ_ _ h=>absurd h abx) r
set_option tactic.hygienic true in
theorem Bw {ps rest:List Str}{Vs:List MV}{vs:List aac}{hB:Heap}{news:aO}{φ:bk}{i:Nat}{x:Str}{V:MV}(r:bg hB news φ Vs vs)(hl:vs.length=ps.length)(Qt:ps.Nodup)(hx:(ps++rest)[i]?=some x)
  (hV:(Vs.map some++abV rest.length none)[i]?=some (some V)):∃v,(ps.zip vs).reverse.lookup x=some v/\RV hB news φ V v/\x∈ps:=by
 rw [ahF] at hV
 split at hV
 ·rename_i hi
  simp only [abg] at hi
  rw [abF] at hV
  have W0:Vs[i]?=some V:=by
   cases e:Vs[i]? with
   | none=>rw [e] at hV; cases hV
   | some W=>rw [e] at hV; cases hV; rfl
  obtain⟨v,hv,hr⟩:=r.get W0
  have Ti:ps[i]?=some x:=by
   have:=r.length
   rw [abo (by walk_at "o")] at hx; exact hx
  exact⟨v,yF Qt Ti hv,hr,abk Ti⟩
 ·rw [afo] at hV
  split at hV <;> cases hV
theorem Cf.deeper {A:abw}{h₀ g:Heap}{L L':Addr}{Vl Ql:Env}{outer:List Env}(C:Cf α (ℓ+1) A h₀ L)(hA:A.frames=some (Ql::outer))(B':ai3 A α.hB (Ql::outer) g)(Sk:Vl.frame=some L')(QA:Vl.scope.kind=.function):Cf α ℓ (A.deeper Vl) g L':=
 ⟨C.ok,⟨A,Ql::outer,Vl,B',by show (A.frames.map _)=_; rw [hA]; rfl,Sk,QA⟩,C.hand,C.dep1,by have h1:=C.units; rw [show (A.deeper Vl).units=A.units+3 from rfl]; walk_at "o",C.inner⟩
theorem Kx {scope:abM}{qual:Str}{f L':Addr}{P4:aac}{ps rest:List Str}{news:aO}{φ:bk}{Vs:List MV}{vs:List aac}(Qz:∀x∈ps++rest,scope.names.lookup x=some .local)(r:bg α.hB news φ Vs vs)(hl:vs.length=ps.length)(Qt:(ps++rest).Nodup) :
  Lc α (ps++rest) (envX qual scope L' f P4 []) L' (λx=>(ps.zip vs).reverse.lookup x) news φ (Vs.map some++abV rest.length none):=λi x V hx hV =>
 let ⟨v,hv,hr,hm⟩:=Bw r hl (abR.mp Qt).1 hx hV
 ⟨v,.fr (Qz x (aa8 _ hm)) rfl hv,hr⟩
theorem AB {scope:abM}{qual:Str}{f L':Addr}{P4:aac}{sl:List Str}{news:aO}{φ:bk}(Qz:∀x∈sl,scope.names.lookup x=some .local)(QC:∀x∈scope.names,x.2≠.cell)(Qt:sl.Nodup):dR α sl (envX qual scope L' f P4 []) L' φ news:=
 ⟨Qt,rfl,λx hx=>.inl (Qz x hx),λx hx=>(by
  exfalso
  have Rf:scope.names.lookup x=some .cell:=hx
  obtain⟨RG,l₂,e,_⟩:=agX.mp Rf
  exact QC (x,.cell) (by rw [e]; simp) rfl),λx y c hc=>(by cases hc),λp hp=>(by cases hp)⟩
theorem kG {f:Addr}{name qual:Str}{params:adF}{body:List Stmt}{scope:abM}{dV kV Qw pm P4 ct oc:aac}{an od:Option Addr}{Ri:Array (Option aac)}{n:Nat}{ps rest:List Str}{ds:List aac}{dVs:List MV}{S:TP}{T:TS}
  (D:u9 α f name qual params body scope dV kV Qw pm P4 ct oc an od Ri) (hb:jJ α (fnOf name qual params body scope dV kV Qw pm an P4 ct) n ps ds) (PL:n+ds.length=ps.length) (Vj:α.Ok->bg α.hB [] [] dVs ds)
  (Qt:(ps++rest).Nodup) (Qz:((ps++rest).all λx=>scope.names.lookup x == some .local)=true) (QC:(scope.names.all λx=>x.2 != .cell)=true)
  (hT:ah α ℓ scope (ps++rest) body T)
  (SX:∀Vs st Q,S Vs st Q->Vs.length=n/\T ((Vs++dVs).map some++abV rest.length none) st (fa Q)):bJ α (ℓ+1) f S:=by
 intro A h₀ L C s m st φ news Vs vs PB r Q R t P
 obtain⟨hn,t⟩:=SX Vs st Q t
 have RS:vs.length=n:=by rw [r.length]; exact hn
 refine C.frC λA₀ outer Ql B hA hf RY=>?_
 have X:=C.X
 have Q5:∀x∈scope.names,x.2≠.cell:=λx hx=>by simpa using iX QC x hx
 have QE:∀x∈ps++rest,scope.names.lookup x=some .local:=λx hx=>eq_of_beq (iX Qz x hx)
 refine callX_plain (cl:=[]) B PB.F PB.N C.T.nolimit hA hf RY ((X.keeps PB.F.keep) _ _ D.look) rfl (agt (X.keeps PB.F.keep) D.code) (by have:=C.depth; walk_at "o") (hb s vs (X.keeps PB.F.keep) RS)
  (λy hy=>QE _ (aa8 _ (aen hy).1)) (λg L' h₁ FG F' N' B' Ps PR=>?_) Q5 D.co D.gen D.kind
 have rr:bg α.hB news φ (Vs++dVs) (vs++ds):=r.append (Vj C.ok).base
 refine hT (A.deeper (envX qual scope L' f P4 [])) g L' (envX qual scope L' f P4 []) (C.deeper hA B' rfl D.kind) ⟨rfl,D.kind,rfl,rfl⟩ _ _ st φ news _ ⟨F',N',PB.W⟩ (Kx QE rr (by rw [abd,RS]; exact PL) Qt) (AB QE Q5 Qt) (fa Q) _ _ t ?_
 ·intro fl fc Rq Pz PE PS QI PM PN PF QU Q6 PH P5 PU
  refine⟨L',QI,PS,PF.F,PF.N,λQM QO=>?_⟩
  have gg:a9 [α.tab] φ news PE PS:=PH
  cases P5 with
  | next=>exact P .none Pz PE PS .none PM PN ⟨QM,QO,PF.W⟩ gg .none PU
  | ret r=>exact P _ Pz PE PS _ PM PN ⟨QM,QO,PF.W⟩ gg r PU
  | brk=>exact PU.elim
  | cont=>exact PU.elim
theorem mX:∀(names:List (Str×aix))(n lo:Nat)(PZ:List (Str×Addr)),(PZ.map (·.2)).Nodup->(∀p∈PZ,p.2 < n/\lo<=p.2)->lo<=n ->
  ((aeJ n names PZ).map (·.2)).Nodup/\∀p∈aeJ n names PZ,lo<=p.2
 | [],n,lo,PZ,h1,h2,_=>⟨h1,λp hp=>(h2 p hp).2⟩
 | (x,k)::r,n,lo,PZ,h1,h2,h3=>by
  unfold aeJ
  split
  ·refine mX r (n+1) lo ((x,n)::PZ) (by
    rw [abj,abY]
    refine⟨λhm=>?_,h1⟩
    obtain⟨p,hp,e⟩:=c9 hm
    have h4:p.2 < n:=(h2 p hp).1
    have e':p.2=n:=e
    exact absurd h4 (e' ▸ acj _)) (λp hp=>?_) (agI h3)
   rcases bN hp with rfl | hp
   ·exact⟨aby _,h3⟩
   ·exact⟨abN (h2 p hp).1,(h2 p hp).2⟩
  ·exact mX r n lo PZ h1 h2 h3
theorem M2 {cl:List (Str×Addr)}{x y:Str}{c:Addr}(nd:(cl.map (·.2)).Nodup)(h1:(x,c)∈cl)(h2:(y,c)∈cl):x=y:=by
 induction cl with
 | nil=>cases h1
 | cons p r ih =>
  rw [abj,abY] at nd
  have no:∀z,(z,c)∈r->p.2=c->False:=λz hz e=>nd.1 (ew ⟨_,hz,e.symm⟩)
  cases h1 with
  | head=>cases h2 with
   | head=>rfl
   | tail _ h=>exact (no _ h rfl).elim
  | tail _ h=>cases h2 with
   | head=>exact (no _ h rfl).elim
   | tail _ h'=>exact ih nd.2 h h'
theorem kK {cm:Str->Option aac}{cl:List (Str×Addr)}{cells:aO}(h:CellsAre cm cl cells):cells.map (·.1)=cl.map (·.2):=by
 induction h with
 | nil=>rfl
 | cons _ _ ih=>simp [ih]
theorem Dd {cm:Str->Option aac}{cl:List (Str×Addr)}{cells:aO}(h:CellsAre cm cl cells){x:Str}{c:Addr}(hm:(x,c)∈cl):∃o,(c,o)∈cells/\o.data=.cell (cm x):=by
 induction h with
 | nil=>cases hm
 | cons hd r ih =>
  cases hm with
  | head=>exact⟨_,.head _,hd⟩
  | tail _ hm=>obtain⟨o,h1,h2⟩:=ih hm; exact⟨o,.tail _ h1,h2⟩
theorem Ki {x n:Str}{v:aac}{m m':Str->Option aac}(h1:x=n->m' x=some v)(h2:¬x=n->m' x=m x):m' x=(List.lookup x [(n,v)]).or (m x):=by
 rw [agV]
 by_cases e:x=n
 ·rw [h1 e,e,beq_self_eq_true]; rfl
 ·rw [h2 e,beq_false_of_ne e]; rfl
theorem Jk {kindOf:Str->Option aix}{x:Str}(hx:kindOf x=some .local)(binds:List (Str×aac)):∀m:Str->Option aac,bindL kindOf binds m x=(binds.reverse.lookup x).or (m x):=by
 induction binds with
 | nil=>intro m; rfl
 | cons p r ih =>
  intro m
  refine (ih _).trans ?_
  rw [adp,ags,Option.or_assoc]
  refine congrArg _ (Ki (n:=p.1) (v:=p.2) (λe=>?_) λe=>?_)
  ·rw [if_pos (e ▸ hx)]; exact if_pos e
  ·by_cases hn:kindOf p.1=some .local
   ·rw [if_pos hn]; exact if_neg e
   ·rw [if_neg hn]
theorem JP {kindOf:Str->Option aix}{x:Str}(hx:kindOf x≠some .local)(binds:List (Str×aac)):∀m:Str->Option aac,bindC kindOf binds m x=(binds.reverse.lookup x).or (m x):=by
 induction binds with
 | nil=>intro m; rfl
 | cons p r ih =>
  intro m
  refine (ih _).trans ?_
  rw [adp,ags,Option.or_assoc]
  refine congrArg _ (Ki (n:=p.1) (v:=p.2) (λe=>?_) λe=>?_)
  ·rw [if_neg (e ▸ hx)]; exact if_pos e
  ·by_cases hn:kindOf p.1=some .local
   ·rw [if_pos hn]
   ·rw [if_neg hn]; exact if_neg e
def CR (α:bC)(ℓ:Nat)(sc:abM)(slots:List Str)(cs:List Stmt)(T:TS)(qual:Str)(P4:aac):Prop:=
 ∀A h₀ L env,Cf α ℓ A h₀ L->Ce sc env->env.qual=qual++(".<locals>.":Str)->env.code=P4->∀s m st φ news ρ,Sn α h₀ L m s.heap st φ news->Lc α slots env L m news φ ρ->dR α slots env L φ news->∀Q Qc E,T ρ st Q->t5 α slots env h₀ L s φ news Q Qc ->
  wpAny (abe α.prog α.w) A (execs cs env) Qc E s
theorem DQ {cm:Str->Option aac}{names:List (Str×aix)}{L':Addr}{cells:aO}(Y:CellsAre cm (aeJ (L'+1) names []) cells):((aeJ (L'+1) names []).map (·.2)).Nodup/\(∀q∈aeJ (L'+1) names [],L' < q.2)/\∀p∈cells,L' < p.1:=by
 obtain⟨nd,lo⟩:=mX names (L'+1) (L'+1) [] .nil (λ_ h=>absurd h abx) (abt _)
 refine⟨nd,lo,λp hp=>?_⟩
 have:p.1∈(aeJ (L'+1) names []).map (·.2):=(kK Y) ▸ ew ⟨p,hp,rfl⟩
 obtain⟨q,hq,e⟩:=c9 this
 exact e ▸ lo q hq
theorem Wd.above {st:MS}{φ:bk}{news:aO}{L' c:Addr}(W:Wd α st φ news)(PR:∀p∈news,p.1 < L')(hc:L' < c):c≠α.tab/\c ∉ bq φ:=by
 refine⟨λe=>?_,λhf=>?_⟩
 ·obtain⟨ps,hp,_⟩:=W.tabs
  exact aha hc (e ▸ PR _ hp)
 ·obtain⟨o,ho⟩:=W.footKeys hf
  exact aha hc (PR _ ho)
theorem Wd.front {st:MS}{φ:bk}{news:aO}{L':Addr}(W:Wd α st φ news)(PR:∀p∈news,p.1 < L'){cells:aO}(nd:(cells.map (·.1)).Nodup)(ap:∀p∈cells,L' < p.1):Wd α st φ (cells++news):=by
 induction cells with
 | nil=>exact W
 | cons p cells ih =>
  rw [abj,abY] at nd
  refine (ih nd.2 λq hq=>ap q (.tail _ hq)).more (λq hq e=>?_)
  rcases dU hq with hq | hq
  ·exact nd.1 (ew ⟨q,hq,e⟩)
  ·exact aha (ap p (.head _)) (e ▸ PR q hq)
theorem a9.back {φ PE:bk}{news PS cells:aO}{L':Addr}{cl:List (Str×Addr)}(g:a9 (α.tab::cl.map (·.2)) φ (cells++news) PE PS)(PR:∀p∈news,p.1 < L')(lo:∀q∈cl,L' < q.2):a9 [α.tab] φ news PE PS:=by
 have sub:∀p∈news,p∈cells++news:=λp h=>aba _ h
 refine⟨g.pre,λa its h=>g.tups a its (sub _ h),λp hp hf hx=>g.kept p (sub p hp) hf λq=>?_,λp hp=>g.keys p (sub p hp),λp hp h=>g.fresh p (sub p hp) h⟩
 rcases bN q with q | q
 ·exact hx (by rw [q]; exact .head _)
 ·obtain⟨y,hy,e⟩:=c9 q
  exact aha (lo y hy) (e ▸ PR p hp)
theorem y5 {f:Addr}{name qual:Str}{params:adF}{body:List Stmt}{scope:abM}{dV kV Qw pm P4 ct oc:aac}{an od:Option Addr}{Ri:Array (Option aac)}{n:Nat}{ps rest:List Str}{ds:List aac}{dVs:List MV}{S:TP}{T:TS}
  (D:u9 α f name qual params body scope dV kV Qw pm P4 ct oc an od Ri) (hb:jJ α (fnOf name qual params body scope dV kV Qw pm an P4 ct) n ps ds) (PL:n+ds.length=ps.length) (Vj:α.Ok->bg α.hB [] [] dVs ds)
  (Qt:(ps++rest).Nodup) (Qz:((ps++rest).all λx=>scope.names.lookup x == some .local || scope.names.lookup x == some .cell)=true) (ZS:((aeJ 0 scope.names []).map (·.1)).Nodup)
  (hT:CR α ℓ scope (ps++rest) body T qual P4)
  (SX:∀Vs st Q,S Vs st Q->Vs.length=n/\T ((Vs++dVs).map some++abV rest.length none) st (fa Q)):bJ α (ℓ+1) f S:=by
 intro A h₀ L C s m st φ news Vs vs PB r Q R t P
 obtain⟨hn,t⟩:=SX Vs st Q t
 have RS:vs.length=n:=by rw [r.length]; exact hn
 refine C.frC λA₀ outer Ql B hA hf RY=>?_
 have X:=C.X
 have QE:∀x∈ps++rest,scope.names.lookup x=some .local\/scope.names.lookup x=some .cell:=λx hx=>by
  have:=iX Qz x hx
  rcases ahX.mp this with q | q
  ·exact .inl (eq_of_beq q)
  ·exact .inr (eq_of_beq q)
 have Vi:((ps.zip (vs++ds)).all λy=>scope.names.lookup y.1 == some .local || scope.names.lookup y.1 == some .cell)=true:=
  abT.mpr λy hy=>iX Qz y.1 (aa8 _ (aen hy).1)
 refine callX_cells B PB.F PB.N C.T.nolimit hA hf RY ((X.keeps PB.F.keep) _ _ D.look) rfl (agt (X.keeps PB.F.keep) D.code) (by have:=C.depth; walk_at "o") (hb s vs (X.keeps PB.F.keep) RS)
  (kindsX Vi) ZS (λg L' h₁ tk cells FG F' N' Y B' Ps PR=>?_) D.co D.gen D.kind
 have rr:bg α.hB news φ (Vs++dVs) (vs++ds):=r.append (Vj C.ok).base
 obtain⟨nd,lo,ap⟩:=DQ Y
 have hW:Wd α st φ (cells++news):=PB.W.front PR (by rw [kK Y]; exact nd) ap
 have gr:a9 [α.tab] φ news φ (cells++news):=.led λp h=>aba _ h
 have cellAt:∀x,scope.names.lookup x=some .cell->∃c o,(aeJ (L'+1) scope.names []).lookup x=some c/\c≠α.tab/\c ∉ bq φ/\(c,o)∈cells++news/\o.data=.cell (bindC (ajj qual scope L' f P4).kindOf (ps.zip (vs++ds)) (λ_=>none) x):=λx hx=>by
  have hs:=cellsFrom_some (x:=x) scope.names (L'+1) [] (.inl hx)
  obtain⟨c,hc⟩:=adB.mp hs
  have hm:=dO hc
  obtain⟨o,ho,hd⟩:=Dd Y hm
  obtain⟨nT,nF⟩:=PB.W.above PR (lo _ hm)
  exact⟨c,o,hc,nT,nF,aa8 _ ho,hd⟩
 refine hT (A.deeper (ajj qual scope L' f P4)) g L' (ajj qual scope L' f P4) (C.deeper hA B' rfl D.kind) ⟨rfl,D.kind,rfl,rfl⟩ rfl rfl _ _ st φ (cells++news) _ ⟨F',N',hW⟩ ?_
  ⟨Qt,rfl,λx hx=>QE x hx,λx hx=>?_,λx y c hc Sa=>?_,λp hp=>?_⟩ (fa Q) _ _ t ?_
 ·intro i x V hx hV
  obtain⟨v,hv,hr,hm⟩:=Bw rr (by rw [abd,RS]; exact PL) (abR.mp Qt).1 hx hV
  refine⟨v,?_,hr.mono gr⟩
  rcases QE x (aa8 _ hm) with hk | hk
  ·refine .fr hk rfl ?_
   rw [Jk (kindOf:=(ajj qual scope L' f P4).kindOf) (x:=x) hk,hv]; rfl
  ·obtain⟨c,o,h1,h2,h3,h4,h5⟩:=cellAt x hk
   refine .cell hk c o h1 h2 h3 h4 ?_
   rw [h5,JP (kindOf:=(ajj qual scope L' f P4).kindOf) (x:=x) (by show scope.names.lookup x≠_; rw [hk]; simp),hv]; rfl
 ·obtain⟨c,o,h1,h2,h3,h4,h5⟩:=cellAt x hx
  exact⟨c,o,_,h1,h2,h3,h4,h5⟩
 ·have h1:=dO hc
  have h2:=dO Sa
  exact M2 nd h1 h2
 ·have:p.2∈cells.map (·.1):=(kK Y) ▸ ew ⟨p,hp,rfl⟩
  obtain⟨q,hq,e⟩:=c9 this
  exact⟨q.2,aa8 _ (by rw [<- e]; exact hq)⟩
 ·intro fl fc Rq Pz PE PS QI PM PN PF QU Q6 PH P5 PU
  refine⟨L',QI,PS,PF.F,PF.N,λQM QO=>?_⟩
  have gg:a9 [α.tab] φ news PE PS:=PH.back PR lo
  cases P5 with
  | next=>exact P .none Pz PE PS .none PM PN ⟨QM,QO,PF.W⟩ gg .none PU
  | ret r=>exact P _ Pz PE PS _ PM PN ⟨QM,QO,PF.W⟩ gg r PU
  | brk=>exact PU.elim
  | cont=>exact PU.elim
theorem vN {f:Addr}{name qual:Str}{params:adF}{body:List Stmt}{scope:abM}{dV kV Qw pm P4 ct oc:aac}{an od:Option Addr}{Ri:Array (Option aac)}{n:Nat}{ps rest:List Str}{ds:List aac}{dVs:List MV}{S:TP}{T:TS}
  (D:u9 α f name qual params body scope dV kV Qw pm P4 ct oc an od Ri) (hb:jJ α (fnOf name qual params body scope dV kV Qw pm an P4 ct) n ps ds) (PL:n+ds.length=ps.length) (Vj:α.Ok->bg α.hB [] [] dVs ds)
  (Qt:(ps++rest).Nodup) (Qz:((ps++rest).all λx=>scope.names.lookup x == some .local || scope.names.lookup x == some .cell)=true) (ZS:((aeJ 0 scope.names []).map (·.1)).Nodup)
  (hT:ah α ℓ scope (ps++rest) body T)
  (SX:∀Vs st Q,S Vs st Q->Vs.length=n/\T ((Vs++dVs).map some++abV rest.length none) st (fa Q)):bJ α (ℓ+1) f S:=
 y5 D hb PL Vj Qt Qz ZS (λA h₀ L env C D _ _=>hT A h₀ L env C D) SX
end
section
variable {α:bC}{ℓ:Nat}{sc:abM}{slots:List Str}{h₀:Heap}{L:Addr}{m:Str->Option aac}{s:aal}{st:MS}{φ:bk}{news:aO}
def bl (r:TL):TE:=λρ st Q=>r ρ st λVs Pt=>Q (.tup Vs) Pt
def be (r:TL):TE:=λρ st Q=>r ρ st λVs Pt=>Q (.ref Pt.length) (Pt++[.list Vs])
theorem BX {n:Nat}(h:n<=1000):n<=abD:=aan h (by decide)
theorem aV {es:List Expr}{k:Nat}{pos:Pos}{r:TL}(h:ae α ℓ sc slots es r)(hl:autoParam (es.length<=1000) aK):aa α ℓ sc slots (.Tuple es k pos) (bl r):=by
 intro A h₀ L env C D s m st φ news ρ PB Lo Q Qc E t P
 refine Tuple_ (h.run A h₀ L env C D s m st φ news ρ PB Lo pos _ _ E t λVs Pt Px PC vs h₁ PA Pv Py PO Pw hn=>?_)
 have e:=PO.length
 exact newTuple_N Pv.F Pv.N (λh' F' N'=>(P.after Py h₁ PA).newTup Pv F' N' Pv.lt PO Pw) (BX (by rw [e,hn]; exact hl))
theorem aY {es:List Expr}{pos:Pos}{r:TL}(h:ae α ℓ sc slots es r)(hl:autoParam (es.length<=1000) aK):aa α ℓ sc slots (.List es pos) (be r):=by
 intro A h₀ L env C D s m st φ news ρ PB Lo Q Qc E t P
 refine List_ (h.run A h₀ L env C D s m st φ news ρ PB Lo pos _ _ E t λVs Pt Px PC vs h₁ PA Pv Py PO Pw hn=>?_)
 have e:=PO.length
 exact newList_N Pv.F Pv.N (λh' F' N'=>(P.after Py h₁ PA).newList Pv F' N' Pv.lt PO Pw) (BX (by rw [e,hn]; exact hl))
theorem vd.at {h:Heap}{a:Addr}{o:Obj}{kvs:List (Str×aac)}{ep:Nat}(D:vd α o kvs ep)(e:h.get? a=some o):h.DictAt (strKind α.prog α.w) a kvs ep:=let ⟨es,r⟩:=D; ⟨o,es,e,r⟩
theorem ml.find {hB:Heap}{name:Str}{fs:List (Str×MV)}{kvs:List (Str×aac)}(r:ml hB news φ fs kvs) :
  match fs.lookup name with
  | some V=>∃v,aeW kvs name=some v/\RV hB news φ V v
  | none=>aeW kvs name=none:=by
 induction r with
 | nil=>rfl
 | @cons k V v fs kvs h r ih =>
  rw [agV]
  cases hk:name == k with
  | true =>
   refine⟨v,?_,h⟩
   obtain rfl:=eq_of_beq hk
   exact congrArg (aeY Prod.snd) (List.find?_cons_of_pos (a:=(name,v)) (p:=λkv=>kv.1=name) (decide_eq_true rfl))
  | false =>
   have e:aeW ((k,v)::kvs) name=aeW kvs name:=
    congrArg (aeY Prod.snd) (List.find?_cons_of_neg (a:=(k,v)) (p:=λkv=>kv.1=name) λq=>ne_of_beq_false hk (of_decide_eq_true q).symm)
   rw [e]
   exact ih
def uh (j:Int):Prop:=-(2 ^ 63)<=j/\j < 2 ^ 63
def NX:MV->MV->MS->(MV->MS->Prop)->Prop:=λV W st Q=>gC (nK _)
 (λx=>kg (λj=>uh j/\∃n c,afp j x.length=some n/\x.cps[n]?=some c/\Q (.str ⟨#[c]⟩) st) W)
 (λxs=>kg (λj=>uh j/\∃n x,afp j xs.length=some n/\xs[n]?=some x/\Q x st) W)
 (λk=>gC (λj=>cE st[k]? λxs=>uh j/\∃n x,afp j xs.length=some n/\xs[n]?=some x/\Q x st) (λkey=>wN st[k]? λfs=>dT (fs.lookup key) λV=>Q V st) (nK _) (nK _) (nK _) W)
 (λns=>kg (λj=>0<=j/\j < 2 ^ 63/\∃n,ns[j.toNat]?=some n/\Q (.int n) st) W) V
def aN:TP:=two NX
theorem wj {A:abw}{E:aac->aal->Prop}{l:Addr}{its:Array aac}{k:Int}{t:Tok}{n:Nat}{x:aac}{Q:aac->aal->Prop}(hl:s.heap.IsList l its)(hs:uh k)(hn:afp k its.size=some n)(hx:its[n]?=some x)(h:Q x s) :
  wpAny (abe α.prog α.w) A (aiZ (.ref l) (.int k t)) Q E s:=by
 by_cases h0:0<=k
 ·refine aif hl h0 hs.2 ?_ h
  obtain⟨j,rfl⟩:=Int.eq_ofNat_of_zero_le h0
  have:n=j:=by
   have PR:=(aeD.mp hx).1
   unfold afp at hn
   simp only at hn
   split at hn <;> simp_all <;> walk_at "o"
  subst this; simpa using hx
 ·have h0':k < 0:=by walk_at "o"
  have h1:-(its.size:Int)<=k:=by
   cases Int.lt_or_le k (-(its.size:Int)) with
   | inr h=>exact h
   | inl h =>
    exfalso
    unfold afp at hn
    simp only at hn
    split at hn <;> simp_all <;> walk_at "o"
  have e:=seqIndex_neg h0' h1
  rw [e] at hn
  cases hn
  exact wpAny_getItem_list_neg hl h0' h1 hs.1 hx h
theorem AV {Qh slice:Expr}(QG:∀o i,ahG slice false o i=aiY [o,i] (aiZ o i)):aM α 0 (c2 (ah6 Qh slice)) aN:=gU λA h₀ L C s m st φ news V W v w S r1 r2 Q Qc E t P=>by
 apply r1.cV t
 ·exact λ_ _ f=>f.elim
 ·intro x tx t; apply r2.oI t; intro j tk t
  refine bv λGG PD=>?_
  obtain⟨hs,n,c,hn,hc,t⟩:=t
  refine PD ?_
  refine agu (typeIs_str _ _ _) PyProof.Rows.slot_str_getitem.lookup (PyProof.Rows.getItem_str (c:=c) ?_ (by rw [hn]; exact hc) (P.now S (.str _ _) t _)) (QG _ _)
  have h1:=hs.1; have h2:=hs.2
  simp only [Bool.or_eq_false_iff,decide_eq_false_iff_not]
  walk_at "o"
 ·intro xs a its hh q t; apply r2.oI t; intro j tk t
  refine bv λGG PD=>?_
  obtain⟨hs,n,x,hn,hx,t⟩:=t
  have hT:=S.isTup C.stays hh
  obtain⟨y,hy,ry⟩:=q.get hx
  refine PD ?_
  exact agu hT.typeIs slot_tuple_getitem.lookup (getItem_tuple hT hs.1 hs.2 (by rw [<- abm,q.length]; exact hn) (by simpa using hy) (P.now S ry t s.toks)) (QG _ _)
 ·intro k a d PP t; apply r2.cV t
  ·intro j tk t
   refine bZ t λxs hk t=>?_
   refine bv λGG PD=>?_
   obtain⟨hs,n,x,hn,hx,t⟩:=t
   refine PD ?_
   refine S.W.listC hk PP λits nn PP hm q=>?_
   have hl:=S.isList hm
   obtain⟨y,hy,ry⟩:=q.get hx
   exact agu hl.typeIs PySem.slot_list_getitem.lookup (wj hl hs (n:=n) (by rw [<- abm,q.length]; exact hn) (by simpa using hy) (P.now S ry t s.toks)) (QG _ _)
  ·intro key tk t
   refine wo t λfs ep hk t=>dI t λV hV t=>?_
   refine S.W.dictC hk PP λo kvs PP _ hm hd F=>?_
   have ff:=F.find (name:=key)
   rw [hV] at ff
   obtain⟨v,hv,rv⟩:=ff
   have hM:=(hd.at (S.N.get hm)).dictOf.mapOf
   exact agu hM.typeIs slot_dict_getitem.lookup (wpAny_getItem_of (ai7 _ _ _ _) hM hv (P.now S rv t _)) (QG _ _)
  ·exact λ_ _ _ _ _ f=>f.elim
  ·exact λ_ _ _ _ f=>f.elim
  ·exact λ_ _ _ _ _ f=>f.elim
 ·intro ns l vs hl hi t; apply r2.oI t; intro j tk t
  refine bv λGG PD=>?_
  obtain⟨h0,h1,n,hn,t⟩:=t
  obtain⟨o,ho,hr⟩:=hl
  have hl:s.heap.IsList l vs.toArray:=⟨o,S.F.keep _ _ (C.stays _ _ ho),hr⟩
  obtain⟨tt,hx⟩:=hi.get _ _ hn
  refine PD ?_
  exact agu hl.typeIs PySem.slot_list_getitem.lookup (aif hl h0 h1 (by simpa using hx) (P.now S (.int _ _) t s.toks)) (QG _ _)
theorem aa.sub {Qh slice:Expr}{pos:Pos}{a b:TE}(ha:aa α ℓ sc slots Qh a)(hb:aa α ℓ sc slots slice b)(QG:autoParam (∀o i,ahG slice false o i=aiY [o,i] (aiZ o i)) aI) :
  aa α ℓ sc slots (.Subscript Qh slice pos) (ar aN a b):=by
 intro A h₀ L env C D s m st φ news ρ PB Lo Q Qc E t P
 refine aig (ha A h₀ L env C D s m st φ news ρ PB Lo _ _ E t λV Pt Px PC v h₁ PA Pv Py PO Pw=>?_)
 refine hb A h₀ L env C D _ m Pt Px PC ρ Pv (Lo.grow Py) _ _ E Pw λW Pz PE PS w PM PN PF PH P5 PU=>?_
 exact AV QG A h₀ L (C.mono (abS _)) _ m Pz PE PS [V,W] [v,w] PF (.cons (PO.mono PH) (.cons P5 .nil)) Q Qc E PU ((P.after Py h₁ PA).after PH PM PN)
end
section
variable {α:bC}{ℓ:Nat}{sc:abM}{slots:List Str}{h₀:Heap}{L:Addr}{m:Str->Option aac}{s:aal}{st:MS}{φ:bk}{news:aO}
def Mo (K:Option Int->Prop)(V:MV):Prop:=match V with | .none=>K Option.none | .int i=>K (ajr i) | _=>False
theorem RV.oP {hB:Heap}{V:MV}{v:aac}{K:Option Int->Prop}{P:aac->Prop}(r:RV hB news φ V v)(t:Mo K V)(hz:K Option.none->P .none)(hi:∀i u,K (ajr i)->P (.int i u)):P v:=by
 cases r with
 | none=>exact hz t
 | int i u=>exact hi i u t
 | _=>exact t.elim
def AH (V l u:MV)(st:MS)(Q:MV->MS->Prop):Prop:=gC (nK _) (λx=>Mo (λlo=>Mo (λhi=>x.length<=abD/\Q (.str (abG x lo hi)) st) u) l) (nK _)
 (λk=>kg (λj=>Ko (cE st[k]? λxs=>0<=j/\xs.length<=abD/\Q (.ref st.length) (st++[.list (xs.drop j.toNat)])) u) l) (nK _) V
def NR:MV->MV->MS->(MV->MS->Prop)->Prop:=λV W st Q=>h7 (λk=>kg (λj=>cE st[k]? λxs=>j=-1/\xs.length<=abD/\Q (.ref st.length) (st++[.list xs.reverse])) W) V
def Cb:TP:=two NR
noncomputable abbrev E9 (l u t:aac):Obj:={ cls:=.type "slice",data:=.fields #[l,u,t] }
theorem t8 {Qh:Expr}{x:Str}{t:Tok}:∀r,letTemporaryGo Qh (.str x t) r=pure ():=by intro r; cases Qh <;> rfl
theorem ME {Qh slice:Expr}{A:abw}{V l u:MV}{v vl vu:aac}{Q:MV->MS->Prop}{Qc E:aac->aal->Prop}(C:Cf α 0 A h₀ L)(S:Sn α h₀ L m s.heap st φ news)(r:RV α.hB news φ V v)(rl:RV α.hB news φ l vl)(ru:RV α.hB news φ u vu)
  (t:AH V l u st Q) (P:g6 α h₀ L m s φ news Q Qc) (QG:∀o i,ahG slice false o i=aiY [i,o] (aiZ o i)) :
  wpAny (abe α.prog α.w) A (ah6 Qh slice v (.ref s.heap.objs.size)) Qc E { s with heap:=s.heap.push (E9 vl vu .none) }:=by
 apply r.cV t
 ·exact λ_ _ f=>f.elim
 ·intro x tx t
  have QK:∀lo hi,Q (.str (abG x lo hi)) st->∀h' t' k,Fr h₀ L h' m->News h₀ L h' news->Qc (.str (abG x lo hi) t') { s with heap:=h',toks:=k }:=λlo hi t h' t' k F' N'=>P _ st φ news _ h' k ⟨F',N',S.W⟩ .refl (.str _ _) t
  apply rl.oP t
  ·intro t; apply ru.oP t
   ·intro t; exact slice_strN_nn S.F S.N (QK _ _ t.2) (QG _ _) t8 t.1
   ·intro j uj t; exact slice_strN_ns S.F S.N (QK _ _ t.2) (QG _ _) t8 t.1
  ·intro i ui t; apply ru.oP t
   ·intro t; exact slice_strN_sn S.F S.N (QK _ _ t.2) (QG _ _) t8 t.1
   ·intro j uj t; exact slice_strN_ss S.F S.N (QK _ _ t.2) (QG _ _) t8 t.1
 ·exact λ_ _ _ _ _ f=>f.elim
 ·intro k a d PP t; apply rl.oI t; intro j tj t; apply ru.oZ t; intro t
  refine bZ t λxs hk t=>?_
  refine S.W.listC hk PP λits n PP hm q=>?_
  have hl:=S.isList hm
  refine agu (aih (s:={ s with heap:=s.heap.push (E9 (.int j tj) .none .none) }) (hl.push _)) PySem.slot_list_getitem.lookup
   (agR (hl.push _) (aii ..) (.int j tj) .none .none (by simp) ?_ (by rw [<- abm,q.length]; exact t.2.1)) (QG _ _)
  have N1:=aiN (S.F.push (E9 (.int j tj) .none .none)) (S.N.grown λ_ _ e=>aao _ e) { cls:=.type "list",data:=.seq (slicePick its (some j) none none) }
  refine P.newList S (tk:=s.toks) ((S.F.push _).push _) N1 (λp hp=>?_) (xs:=xs.drop j.toNat) ?_ t.2.2
  ·rw [adO]; exact abf (abN (abn (S.N p hp).1))
  ·have e2:=slicePick_from' its j.toNat
   rw [ahY t.1] at e2
   rw [e2]
   exact q.drop _
 ·exact λ_ _ _ _ _ f=>f.elim
theorem LC {Qh slice:Expr}{A:abw}{V j:MV}{v vj:aac}{Q:MV->MS->Prop}{Qc E:aac->aal->Prop}(C:Cf α 0 A h₀ L)(S:Sn α h₀ L m s.heap st φ news)(r:RV α.hB news φ V v)(rj:RV α.hB news φ j vj)
  (t:Cb [V,j] st Q) (P:g6 α h₀ L m s φ news Q Qc) (QG:∀o i,ahG slice false o i=aiY [o,i] (aiZ o i)) :
  wpAny (abe α.prog α.w) A (ah6 Qh slice v (.ref s.heap.objs.size)) Qc E { s with heap:=s.heap.push (E9 .none .none vj) }:=by
 apply r.oR t; intro k a d PP t; apply rj.oI t; intro j' tj t
 refine bZ t λxs hk t=>?_
 obtain⟨rfl,hz,t⟩:=t
 refine S.W.listC hk PP λits n PP hm q=>?_
 have hl:=S.isList hm
 refine agu (aih (s:={ s with heap:=s.heap.push (E9 .none .none (.int (-1) tj)) }) (hl.push _)) PySem.slot_list_getitem.lookup
  (agR (hl.push _) (aii ..) .none .none (.int (-1) tj) (by simp) ?_ (by rw [<- abm,q.length]; exact hz)) (QG _ _)
 have N1:=aiN (S.F.push (E9 .none .none (.int (-1) tj))) (S.N.grown λ_ _ e=>aao _ e) { cls:=.type "list",data:=.seq (slicePick its none none (some (-1))) }
 refine P.newList S (tk:=s.toks) ((S.F.push _).push _) N1 (λp hp=>?_) (xs:=xs.reverse) ?_ t
 ·rw [adO]; exact abf (abN (abn (S.N p hp).1))
 ·rw [krv_pick]
  exact q.reverse
inductive dA (α:bC)(ℓ:Nat)(sc:abM)(slots:List Str):Option Expr->TE->Prop
 | none:dA α ℓ sc slots none (tK .none)
 | some {e:Expr} {T:TE} (h:aa α ℓ sc slots e T):dA α ℓ sc slots (some e) T
theorem dA.run {e:Option Expr}{T:TE}(h:dA α ℓ sc slots e T):∀A h₀ L env,Cf α ℓ A h₀ L->Ce sc env->∀s m st φ news ρ,Sn α h₀ L m s.heap st φ news->Lc α slots env L m news φ ρ->∀Q Qc E,T ρ st Q->g6 α h₀ L m s φ news Q Qc ->
  wpAny (abe α.prog α.w) A (evalPart e env) Qc E s:=by
 cases h with
 | none=>exact λA h₀ L env C D s m st φ news ρ S Lo Q Qc E t P=>abb (P.now S .none t s.toks)
 | some h=>exact h
def iV (a l u:TE):TE:=λρ st Q=>a ρ st λV Pt=>l ρ Pt λlo Pz=>u ρ Pz λhi Qd=>AH V lo hi Qd Q
theorem dm {Qh:Expr}{lo hi:Option Expr}{p pos:Pos}{a l u:TE}(ha:aa α ℓ sc slots Qh a)(hl:dA α ℓ sc slots lo l)(hu:dA α ℓ sc slots hi u):aa α ℓ sc slots (.Subscript Qh (.Slice lo hi none p) pos) (iV a l u):=by
 intro A h₀ L env C D s m st φ news ρ PB Lo Q Qc E t P
 refine aig (ha A h₀ L env C D s m st φ news ρ PB Lo _ _ E t λV Pt Px PC v h₁ PA Pv Py PO Pw=>?_)
 refine wpAny_Slice (hl.run A h₀ L env C D _ m Pt Px PC ρ Pv (Lo.grow Py) _ _ E Pw λl Pz PE PS vl PM PN PF PH P5 PU=>?_)
 refine hu.run A h₀ L env C D _ m Pz PE PS ρ PF ((Lo.grow Py).grow PH) _ _ E PU λu Qd QB Qs vu P2 P7 P3 Qg RA Qe=>abb ?_
 exact ME (s:={ s with heap:=P2,toks:=P7 }) (C.mono (abS _)) P3 ((PO.mono PH).mono Qg) (P5.mono Qg) RA Qe (((P.after Py h₁ PA).after PH PM PN).after Qg P2 P7) λ_ _=>rfl
def sq (a c:TE):TE:=λρ st Q=>a ρ st λV Pt=>c ρ Pt λj Pz=>Cb [V,j] Pz Q
theorem wc {Qh step:Expr}{p pos:Pos}{a c:TE}(ha:aa α ℓ sc slots Qh a)(hc:aa α ℓ sc slots step c):aa α ℓ sc slots (.Subscript Qh (.Slice none none (some step) p) pos) (sq a c):=by
 intro A h₀ L env C D s m st φ news ρ PB Lo Q Qc E t P
 refine aig (ha A h₀ L env C D s m st φ news ρ PB Lo _ _ E t λV Pt Px PC v h₁ PA Pv Py PO Pw=>?_)
 refine wpAny_Slice (abb (abb ?_))
 refine hc A h₀ L env C D _ m Pt Px PC ρ Pv (Lo.grow Py) _ _ E Pw λj Pz PE PS vj PM PN PF PH P5 PU=>?_
 exact LC (s:={ s with heap:=PM,toks:=PN }) (C.mono (abS _)) PF (PO.mono PH) P5 PU ((P.after Py h₁ PA).after PH PM PN) λ_ _=>rfl
end
section
variable {α:bC}{ℓ:Nat}{sc:abM}{slots:List Str}{h₀ h h':Heap}{L:Addr}{m:Str->Option aac}{s:aal}{st:MS}{φ:bk}{news:aO}{env:Env}
theorem Sn.keeps (S:Sn α h₀ L m h st φ news)(hk:∀b o,h.get? b=some o->h'.get? b=some o):Sn α h₀ L m h' st φ news:=⟨S.F.keeps hk,S.N.grown hk,S.W⟩
theorem HO {A:abw}{Q:MV->MS->Prop}{Qc E:aac->aal->Prop}{ρ:aG}{i:Nat}{x:Str}{V:MV}(D:Ce sc env)(S:Sn α h₀ L m s.heap st φ news)(Lo:Lc α slots env L m news φ ρ)(hx:slots[i]?=some x)(hV:ρ[i]?=some (some V))(t:Q V st)(P:g6 α h₀ L m s φ news Q Qc) :
  wpAny (abe α.prog α.w) A (loadName env x) Qc E s:=
 vg D S Lo hx hV λv hr=>P.now S hr t s.toks
def pW (S:TP)(i:Nat)(a:TE):TS:=λρ st Q=>ar S (af i) a ρ st λV Pt=>Q .next (ρ.set i (some V)) Pt
theorem wb {op:Operator}{x:Str}{px pos:Pos}{i:Nat}{e:Expr}{S:TP}{a:TE}(h:aa α ℓ sc slots e a)(hS:aM α 0 (c2 (inplaceOp op)) S)(hx:autoParam (slots[i]?=some x) aR):au α ℓ sc slots (.AugAssign (.Name x px) op e pos) (pW S i a):=by
 intro A h₀ L env C D s m st φ news ρ PB Lo O Q Qc E t P
 unfold pW ar at t
 refine qH t λU hU t=>?_
 refine wpAny_AugAssign_Name (HO (Q:=λU Pt=>a ρ Pt λW Pz=>S [U,W] Pz λV Qd=>Q .next (ρ.set i (some V)) Qd) D PB Lo hx hU t λV Pt Px PC v h₁ PA Pv Py PO Pw=>?_)
 refine h A h₀ L env C D _ m Pt Px PC ρ Pv (Lo.grow Py) _ _ E Pw λW Pz PE PS w PM PN PF PH P5 PU=>?_
 refine hS A h₀ L (C.mono (abS _)) _ m Pz PE PS [V,W] [v,w] PF (.cons (PO.mono PH) (.cons P5 .nil)) _ _ E PU λR Qd QB Qs r P2 P7 P3 Qg RA Qe=>?_
 have g:=(Py.trans PH).trans Qg
 exact jB D P3 (Lo.grow g) (O.grow g) hx RA λVF Xs QN R9 R4 WR Vq Rm=>P .next .next _ Qd QB VF Xs QN R9 R4 WR Vq ((dC g).trans Rm) .next Qe
theorem Bg:aM α 0 (c2 (inplaceOp .Add)) (bh (·+·) mq):=jo λ_ _ _ _ _ _ _ _ _ h=>PyProof.Rows.iadd_int h
theorem IH:aM α 0 (c2 (inplaceOp .Sub)) (bh (· - ·) mq):=jo λ_ _ _ _ _ _ _ _ _ h=>PyProof.Rows.isub_int h
inductive kE (slots:List Str):List Expr->List Nat->Prop
 | nil:kE slots [] []
 | cons {x:Str} {p:Pos} {i:Nat} {es:List Expr} {is:List Nat} (hx:slots[i]?=some x) (r:kE slots es is):kE slots (.Name x p::es) (i::is)
noncomputable def fj:aG->List Nat->List MV->aG
 | ρ,i::is,V::Vs=>fj (ρ.set i (some V)) is Vs
 | ρ,_,_=>ρ
theorem kE.each {es:List Expr}{is:List Nat}(h:kE slots es is)(env:Env):(ahb es env).length=es.length/\(ahb es env).findIdx? (·.1)=none:=by
 induction h with
 | nil=>exact⟨rfl,rfl⟩
 | @cons x p i es is hx r ih =>
  have e:ahb (.Name x p::es) env=(false,afB (.Name x p) env)::ahb es env:=rfl
  rw [e]
  refine⟨by simp [ih.1],?_⟩
  rw [List.findIdx?_cons]
  simp [ih.2]
theorem kE.run {A:abw}{E:aac->aal->Prop}{es:List Expr}{is:List Nat}(T:kE slots es is)(D:Ce sc env):∀{Vs:List MV}{vs:List aac}{ρ:aG}{m:Str->Option aac}{news:aO}{s:aal}{Qc:Unit->aal->Prop},vs.length=es.length ->
  Sn α h₀ L m s.heap st φ news->Lc α slots env L m news φ ρ->dR α slots env L φ news->bg α.hB news φ Vs vs ->
  (∀Pu m' h' PV,Sn α h₀ L m' h' st φ Pu->Lc α slots env L m' Pu φ (fj ρ is Vs)->dR α slots env L φ Pu->a9 (ft α env) φ news φ Pu->Qc () { s with heap:=h',toks:=PV }) ->
  wpAny (abe α.prog α.w) A (assignInOrder ((ahb es env).map (·.2)) vs) Qc E s:=by
 induction T with
 | nil =>
  intro Vs vs ρ m news s Qc hl S Lo O r P
  cases vs with
  | nil=>cases r; exact afC (P news m s.heap s.toks S Lo O .refl)
  | cons _ _=>cases hl
 | @cons x p i es is hx T ih =>
  intro Vs vs ρ m news s Qc hl S Lo O r P
  cases r with
  | nil=>cases hl
  | @cons V v Vs vs rv rs =>
   refine adP (ab4 (jB D S Lo O hx rv λPC QJ h₁ PA Pv QF QH Py=>?_))
   exact ih (by simpa using hl) Pv QF QH (rs.mono Py) λPS QI PM PN PF QU Q6 PH=>P PS QI PM PN PF QU Q6 (Py.trans PH)
inductive wz (slots:List Str):List Str->List Nat->Prop
 | nil:wz slots [] []
 | cons {x:Str} {i:Nat} {xs:List Str} {is:List Nat} (hx:slots[i]?=some x) (r:wz slots xs is):wz slots (x::xs) (i::is)
theorem wz.length_eq {xs:List Str}{is:List Nat}(h:wz slots xs is):xs.length=is.length:=by induction h with | nil=>rfl | cons _ _ ih=>simp [ih]
theorem wz.run {A:abw}{E:aac->aal->Prop}:∀{xs:List Str}{is:List Nat}(_:wz slots xs is)(D:Ce sc env){Vs:List MV}{vs:List aac}{ρ:aG}{m:Str->Option aac}{news:aO}{s:aal}{Qc:Unit->aal->Prop},vs.length=xs.length ->
  Sn α h₀ L m s.heap st φ news->Lc α slots env L m news φ ρ->dR α slots env L φ news->bg α.hB news φ Vs vs ->
  (∀Pu m' h' PV,Sn α h₀ L m' h' st φ Pu->Lc α slots env L m' Pu φ (fj ρ is Vs)->dR α slots env L φ Pu->a9 (ft α env) φ news φ Pu->Qc () { s with heap:=h',toks:=PV }) ->
  wpAny (abe α.prog α.w) A (assignInOrder (xs.map λn=>bindName env n) vs) Qc E s:=by
 intro xs is T D
 induction T with
 | nil =>
  intro Vs vs ρ m news s Qc hl S Lo O r P
  cases vs with
  | nil=>cases r; exact afC (P news m s.heap s.toks S Lo O .refl)
  | cons _ _=>cases hl
 | @cons x i xs is hx T ih =>
  intro Vs vs ρ m news s Qc hl S Lo O r P
  cases r with
  | nil=>cases hl
  | @cons V v Vs vs rv rs =>
   refine adP (wpAny_bindName (jB D S Lo O hx rv λPC QJ h₁ PA Pv QF QH Py=>?_))
   exact ih (by simpa using hl) Pv QF QH (rs.mono Py) λPS QI PM PN PF QU Q6 PH=>P PS QI PM PN PF QU Q6 (Py.trans PH)
def vP (is:List Nat)(a:TE):TS:=λρ st Q=>a ρ st λV Pt=>uQ (λVs=>Vs.length=is.length/\Q .next (fj ρ is Vs) Pt) V
theorem kE.len {es:List Expr}{is:List Nat}(h:kE slots es is):es.length=is.length:=by induction h with | nil=>rfl | cons _ _ ih=>simp [ih]
theorem xm {A:abw}{E:aac->aal->Prop}{es:List Expr}{k:Nat}{p:Pos}{is:List Nat}{Vs:List MV}{v:aac}{ρ:aG}{Qc:Unit->aal->Prop}(T:kE slots es is)(C:Cf α ℓ A h₀ L)(D:Ce sc env)(S:Sn α h₀ L m s.heap st φ news)
  (Lo:Lc α slots env L m news φ ρ) (O:dR α slots env L φ news) (r:RV α.hB news φ (.tup Vs) v) (hn:Vs.length=is.length)
  (P:∀Pu m' h' PV,Sn α h₀ L m' h' st φ Pu->Lc α slots env L m' Pu φ (fj ρ is Vs)->dR α slots env L φ Pu->a9 (ft α env) φ news φ Pu->Qc () { s with heap:=h',toks:=PV }) :
  wpAny (abe α.prog α.w) A (afB (.Tuple es k p) env v) Qc E s:=by
 apply RV.t r; intro a its hh q
 have hl:=q.length
 refine agv C.hand (S.isTup C.stays hh) (by rw [(T.each env).1,T.len,<- hn,<- hl,abm]) (T.each env).2 λh₁ he=>?_
 have Pv:Sn α h₀ L m h₁ st φ news:=S.keeps λb o e=>he b o (abf (abn e)) e
 exact T.run D (s:={ s with heap:=h₁ }) (by rw [hl,hn,T.len]) Pv Lo O q P
theorem C6 {es:List Expr}{k:Nat}{TQ pos:Pos}{is:List Nat}{Qh:Expr}{a:TE}(h:aa α ℓ sc slots Qh a)(T:kE slots es is)(hs:autoParam (∀env,swapsWithSole [.Tuple es k TQ] Qh pos.line env=pure false) aI)
  (hw:∀env,env.scope=sc->swappedStores [.Tuple es k TQ] Qh env=pure none:=by rintro⟨_⟩ rfl; rfl):au α ℓ sc slots (.Assign [.Tuple es k TQ] Qh pos) (vP is a):=by
 intro A h₀ L env C D s m st φ news ρ PB Lo O Q Qc E t P
 refine Assign_Tuple (h A h₀ L env C D s m st φ news ρ PB Lo _ _ E t λV Pt Px PC v h₁ PA Pv Py PO Pw=>?_) (hs env) (hw env D.scope)
 apply PO.oT Pw; intro Vs a its hh q Pw
 exact xm T C D Pv (Lo.grow Py) (O.grow Py) (.tup hh q) Pw.1 λPS QI PM PN PF QU Q6 PH=>P .next .next _ Pt Px PS QI PM PN PF QU Q6 ((dC Py).trans PH) .next Pw.2
def c8 (is:List Nat)(a:TE):TS:=λρ st Q=>a ρ st λV Pt=>uQ (λVs=>Vs.length=is.length/\Q .next (fj ρ is Vs.reverse) Pt) V
theorem cP {es:List Expr}{k:Nat}{TQ pos:Pos}{is:List Nat}{xs:List Str}{Qh:Expr}{a:TE}(h:aa α ℓ sc slots Qh a)(T:wz slots xs.reverse is)(hs:autoParam (∀env,swapsWithSole [.Tuple es k TQ] Qh pos.line env=pure false) aI)
  (hw:∀env,env.scope=sc->swappedStores [.Tuple es k TQ] Qh env=pure (some xs):=by rintro⟨_⟩ rfl; rfl):au α ℓ sc slots (.Assign [.Tuple es k TQ] Qh pos) (c8 is a):=by
 intro A h₀ L env C D s m st φ news ρ PB Lo O Q Qc E t P
 refine Assign_Tuple_swapped (names:=xs) (h A h₀ L env C D s m st φ news ρ PB Lo _ _ E t λV Pt Px PC v h₁ PA Pv Py PO Pw=>?_) (hs env) (hw env D.scope)
 apply PO.oT Pw; intro Vs b its hh q Pw
 have hn:=Pw.1
 have hl:=q.length
 have hxl:xs.length=is.length:=by have:=T.length_eq; simpa using this
 have e:xs.length=its.size:=by rw [<- abm,hl,hn,hxl]
 rw [e]
 refine unpackItems_tuple C.hand (Pv.isTup C.stays hh) λPM he=>?_
 have PF:Sn α h₀ L m PM Pt Px PC:=Pv.keeps λb o e=>he b o (abf (abn e)) e
 exact wz.run T D (s:={ s with heap:=PM,toks:=PA }) (by simp only [ade]; rw [hl,hn,hxl]) PF (Lo.grow Py) (O.grow Py) q.reverse λPS QI PM PN PF QU Q6 PH=>P .next .next _ Pt Px PS QI PM PN PF QU Q6 ((dC Py).trans PH) .next Pw.2
end
noncomputable def kz (name:Str)(V:MV):List (Str×MV)->List (Str×MV)
 | []=>[(name,V)]
 | (k,W)::r=>if k == name then (k,V)::r else (k,W)::kz name V r
theorem sf {name:Str}{V:MV}{p:Str×MV}{r:List (Str×MV)}:kz name V (p::r)=if p.1 == name then (p.1,V)::r else p::kz name V r:=rfl
theorem uU (name:Str)(V:MV)(fs:List (Str×MV)):(kz name V fs).length<=fs.length+1:=by
 induction fs with
 | nil=>exact abt _
 | cons p r ih =>
  rw [sf]
  by_cases e:(p.1 == name)=true
  ·rw [if_pos e]; exact agJ _
  ·rw [if_neg e]; exact Nat.succ_le_succ ih
theorem I3 {name:Str}{V:MV}{fs:List (Str×MV)}{p:Str×MV}(h:p∈kz name V fs):p.1=name\/∃q∈fs,q.1=p.1:=by
 induction fs with
 | nil=>exact .inl (by rw [cq h])
 | cons q r ih =>
  rw [sf] at h
  by_cases hk:(q.1 == name)=true
  ·rw [if_pos hk] at h
   rcases bN h with rfl | h
   ·exact .inl (eq_of_beq hk)
   ·exact .inr ⟨p,.tail _ h,rfl⟩
  ·rw [if_neg hk] at h
   rcases bN h with rfl | h
   ·exact .inr ⟨_,.head _,rfl⟩
   ·rcases ih h with e | ⟨q,hq,e⟩
    ·exact .inl e
    ·exact .inr ⟨q,.tail _ hq,e⟩
section
variable {α:bC}{ℓ:Nat}{sc:abM}{slots:List Str}{h₀ h h':Heap}{L:Addr}{m:Str->Option aac}{s:aal}{st:MS}{φ:bk}{news:aO}{env:Env}
theorem ku.put {P:ai2}{hB:Heap}{name:Str}{t:Tok}{V:MV}{v:aac}{fs:List (Str×MV)}{es:List adE}(r:ku P hB news φ fs es)(h:RV hB news φ V v):ku P hB news φ (kz name V fs) (putL name (adC P name) (.str name t) v es):=by
 induction r with
 | nil=>exact .cons h .nil
 | @cons k tk W w fs es hw r ih =>
  rw [sf]
  unfold putL
  have e:(agY k tk).isStr name=(k == name):=rfl
  rw [show (DictEntry.mk (adC P k) (agY k tk) w).key.isStr name=(k == name) from e]
  split
  ·exact .cons h r
  ·exact .cons hw ih
theorem ku.length {P:ai2}{hB:Heap}{fs:List (Str×MV)}{es:List adE}(r:ku P hB news φ fs es):es.length=fs.length:=by
 induction r with
 | nil=>rfl
 | cons _ _ ih=>simp [ih]
structure dp (α:bC)(C:Addr)(name:Str):Prop where
 set:ab0 α.K (.ref C) "__setattr__"=some (some (.builtin "object.__setattr__"))
 plain:aiO α.K C=true
 taker:takerIn α.K C name=some none
 dict:ahQ α.K C=true
 fld:name∈α.flds C
def wT (C:Addr)(name:Str)(o:TE)(ρ:aG)(Q:MF->aG->MS->Prop):MV->MS->Prop:=λW Pt=>o ρ Pt λV Pz=>h7 (λi=>w4 C (λfs=>fs.length < 100/\Q .next ρ (Pz.set i (.inst C (kz name W fs)))) Pz[i]?) V
def dk (C:Addr)(name:Str)(o val:TE):TS:=λρ st Q=>val ρ st (wT C name o ρ Q)
theorem b7 {o val:Expr}{name:Str}{tp pos:Pos}{C:Addr}{to tv:TE}(ho:aa α ℓ sc slots o to)(hv:aa α ℓ sc slots val tv)(hc:dp α C name)(hs:autoParam (∀env,aer val (some (.Attribute o name tp)) pos.line env=pure false) aI) :
  au α ℓ sc slots (.Assign [.Attribute o name tp] val pos) (dk C name to tv):=by
 intro A h₀ L env Cx D s m st φ news ρ PB Lo O Q Qc E t P
 refine afR (hv A h₀ L env Cx D s m st φ news ρ PB Lo _ _ E t λW Pt Px PC w h₁ PA Pv Py PO Pw=>?_) (hs env)
 refine ho A h₀ L env Cx D _ m Pt Px PC ρ Pv (Lo.grow Py) _ _ E Pw λV Pz PE PS v PM PN PF PH P5 PU=>?_
 have rW:=PO.mono PH
 apply P5.oR PU; intro i a d PP PU
 refine wX PU λfs hi PU=>?_
 have PL:=PU.1
 refine bv λGG PD=>?_
 obtain⟨hm,⟨VZ,hl⟩,es,n,hd,hF⟩:=PF.W.inst hi PP
 refine PD ?_
 have SD:∀its,dictOf es n≠bA its:=H9
 have Rc:(PySem.W.getL name es).isSome=true:=by
  have:=hF.look (name:=name)
  cases q:fs.lookup name with
  | none=>rw [q] at this; rw [this]; rfl
  | some V=>rw [q] at this; obtain⟨v,e,_⟩:=this; rw [e]; rfl
 refine set_dict (K:=α.K) (ox:=agH C d) (es:=es) (n:=n) PF.F Cx.X PF.N (ahC PF.N hm hd) rfl hc.set hc.plain hc.taker hc.dict Rc rfl (KP PF.W.nodup hd) ?_ λP2 QM QO=>?_
 ·have:(kz name W fs).length=(putL name (adC α.w.params name) (.str name (PN+1)) w es).length:=(ku.length (hF.put (t:=PN+1) rW)).symm
  have q:=uU name W fs
  show (putL _ _ _ _ _).length<=1000
  rw [<- this]; walk_at "o"
 ·have ff:=iE PP
  have Qg:a9 [α.tab] PE PS PE (upd PS d (dictOf (putL name (adC α.w.params name) (.str name (PN+1)) w es) (putN name es n))):=.upd PF.W.nodup hd SD (.inl ff.2)
  have P6:a≠d:=λe=>by
   subst e
   have:=eH PF.W.nodup hm hd
   have:=congrArg aiX this
   simp at this
  have acU:Wd α (Pz.set i (.inst C (kz name W fs))) PE (upd PS d (dictOf (putL name (adC α.w.params name) (.str name (PN+1)) w es) (putN name es n))):=
   PF.W.turn hi PP (.inr rfl) hd SD Eh ⟨dW hm P6,⟨λp hp=>(I3 hp).elim (λe=>e ▸ hc.fld) λ⟨q,hq,e⟩=>e ▸ VZ q hq,aan (uU _ _ _) PL⟩,_,_,il hd,(hF.put rW).mono (aaj _) Qg.tups⟩
  have g:=(Py.trans PH).trans Qg
  exact P .next .next ρ _ PE _ m P2 _ ⟨QM,QO,acU⟩ (Lo.grow g) (O.grow g) (dC g) .next PU.2
def Ft (o i:TE)(ρ:aG)(Q:MF->aG->MS->Prop):MV->MS->Prop:=λW Pt=>o ρ Pt λV Pz=>i ρ Pz λJ Qd=>h7 (λk=>kg (λj=>cE Qd[k]? λxs=>0<=j/\j < xs.length/\j < 2 ^ 63/\Q .next ρ (Qd.set k (.list (xs.set j.toNat W)))) J) V
def AA (o i val:TE):TS:=λρ st Q=>val ρ st (Ft o i ρ Q)
theorem zY {o i val:Expr}{tp pos:Pos}{to ti tv:TE}(ho:aa α ℓ sc slots o to)(hi:aa α ℓ sc slots i ti)(hv:aa α ℓ sc slots val tv)(hs:autoParam (∀env,aer val (some (.Subscript o i tp)) pos.line env=pure false) aI) :
  au α ℓ sc slots (.Assign [.Subscript o i tp] val pos) (AA to ti tv):=by
 intro A h₀ L env Cx D s m st φ news ρ PB Lo O Q Qc E t P
 refine wpAny_Assign_Subscript (hv A h₀ L env Cx D s m st φ news ρ PB Lo _ _ E t λW Pt Px PC w h₁ PA Pv Py PO Pw=>?_) (hs env)
 refine ho A h₀ L env Cx D _ m Pt Px PC ρ Pv (Lo.grow Py) _ _ E Pw λV Pz PE PS v PM PN PF PH P5 PU=>?_
 refine hi A h₀ L env Cx D _ m Pz PE PS ρ PF ((Lo.grow Py).grow PH) _ _ E PU λJ Qd QB Qs j P2 P7 P3 Qg RA Qe=>?_
 have rW:=(PO.mono PH).mono Qg
 have rV:=P5.mono Qg
 apply rV.oR Qe; intro k a d PP Qe; apply RA.oI Qe; intro j tj Qe
 refine bZ Qe λxs hk Qe=>?_
 refine P3.W.listC hk PP λits n PP hm q=>?_
 have SY:=P3.N.get hm
 have hsz:its.size=xs.length:=by rw [<- abm,q.length]
 refine ki_setAt SY Qe.1 Qe.2.2.1 (by rw [hsz]; exact Qe.2.1) ?_
 have e:ad6 (·.setIfInBounds j.toNat w) (bV its n)=bV (its.setIfInBounds j.toNat w) n:=by simp [ad6]
 have UP:adi a P2 (P2.update a (ad6 (·.setIfInBounds j.toNat w))):=ads ..
 obtain⟨R4,Rm⟩:=P3.setList (xs':=xs.set j.toNat W) (its':=its.setIfInBounds j.toNat w) (n':=n) hk PP hm UP (by rw [adf _ SY (by rw [e]; rfl),e]) (by rw [Array.toList_setIfInBounds]; exact q.set _ rW)
 have g:=((Py.trans PH).trans Qg).trans Rm
 exact P .next .next ρ _ QB _ m _ P7 R4 (Lo.grow g) (O.grow g) (dC g) .next Qe.2.2.2
noncomputable def ey (c:TB)(b:TS):Nat->TS
 | 0=>λ_ _ _=>False
 | n+1=>λρ st Q=>c ρ st λx Pt=>if x then b ρ Pt λf Qk Pz=>(match f with
  | .next=>ey c b n Qk Pz Q
  | .cont=>ey c b n Qk Pz Q
  | .brk=>Q .next Qk Pz
  | .ret V=>Q (.ret V) Qk Pz) else Q .next ρ Pt
def f2 (c:TB)(b:TS):TS:=λρ st Q=>∃n,ey c b n ρ st Q
def NS (α:bC)(slots:List Str)(env:Env)(h₀:Heap)(L:Addr)(s:aal)(φ:bk)(news:aO)(T:Nat->aG->MS->Prop)(n:Nat)(s':aal):Prop:=
 ∀P:aal->Prop,(∀QJ Pt Px PC P9 h₁ PA,Sn α h₀ L QJ h₁ Pt Px PC->Lc α slots env L QJ PC Px P9->dR α slots env L Px PC->a9 (ft α env) φ news Px PC->T n P9 Pt->P { s with heap:=h₁,toks:=PA })->P s'
theorem eT {Ru:Expr}{body:List Stmt}{pos:Pos}{c:TB}{b:TS}(hc:aJ α ℓ sc slots Ru c)(hb:ah α ℓ sc slots body b):au α ℓ sc slots (.While Ru body [] pos) (f2 c b):=by
 intro A h₀ L env C D s m st φ news ρ PB Lo O Q Qc E t P
 obtain⟨n,t⟩:=t
 refine wpAny_While (codeAny_whileLoop (NS α slots env h₀ L s φ news λn ρ st=>ey c b n ρ st Q) ?_ n λ_ k=>k m st φ news ρ s.heap s.toks PB Lo O .refl t)
 intro n s' hI
 apply hI; intro QJ Pt Px PC P9 h₁ PA Pv QF QH Py Pw
 cases n with
 | zero=>exact Pw.elim
 | succ n =>
  refine hc A h₀ L env C D _ QJ Pt Px PC P9 Pv QF _ _ _ Pw λx Pz PE PS PM PN PF PH PU=>?_
  cases x with
  | true =>
   refine hb A h₀ L env C D _ QJ Pz PE PS P9 PF (QF.grow PH) (QH.grow PH) _ _ _ PU λf fc Tt Qd QB Qs Ux P2 P7 P3 SJ Ss Qg RA Qe=>?_
   have g:=(Py.trans (dC PH)).trans Qg
   cases RA with
   | next=>exact⟨n,aby _,λ_ k=>k Ux Qd QB Qs Tt P2 P7 P3 SJ Ss g Qe⟩
   | cont=>exact⟨n,aby _,λ_ k=>k Ux Qd QB Qs Tt P2 P7 P3 SJ Ss g Qe⟩
   | brk=>exact P .next .next Tt Qd QB Qs Ux P2 P7 P3 SJ Ss g .next Qe
   | ret r=>exact P _ _ Tt Qd QB Qs Ux P2 P7 P3 SJ Ss g (.ret r) Qe
  | false =>
   exact adW (P .next .next P9 Pz PE PS QJ PM PN PF (QF.grow PH) (QH.grow PH) (Py.trans (dC PH)) .next PU)
end
def Pl (o:aO):Prop:=∀p∈o,(∀its,p.2≠bA its)/\(∀ps,p.2≠adn ps)/\¬qD p.2
theorem Pl.noT {o:aO}(h:Pl o):∀p∈o,∀its,p.2≠bA its:=λp hp=>(h p hp).1
theorem Pl.noTab {o:aO}(h:Pl o):∀p∈o,∀ps,p.2≠adn ps:=λp hp=>(h p hp).2.1
theorem Pl.noCo {o:aO}(h:Pl o):∀p∈o,¬qD p.2:=λp hp=>(h p hp).2.2
theorem qj {p:Addr×Obj}{c:String}(h1:p.2.cls=.type c)(h2:c≠"tuple") (h3:autoParam (c≠"code") aK):(∀its,p.2≠bA its)/\(∀ps,p.2≠adn ps)/\¬qD p.2:=
 ⟨λits e=>by rw [e] at h1; exact h2 (ahD h1).symm,λps e=>(by rw [e] at h1; cases h1),λq=>h3 (ahD (h1.symm.trans q.1))⟩
theorem lb {p:Addr×Obj}{es:Array adE}{ep:Nat}(h1:p.2.data=.dict es ep):(∀its,p.2≠bA its)/\(∀ps,p.2≠adn ps)/\¬qD p.2:=
 ⟨λits e=>(by rw [e] at h1; cases h1),λps e=>(by rw [e] at h1; cases h1),λ⟨_,vs,e⟩=>(by rw [h1] at e; cases e)⟩
section
variable {α:bC}{ℓ:Nat}{sc:abM}{slots:List Str}{h₀ h h':Heap}{L:Addr}{m:Str->Option aac}{s:aal}{st:MS}{φ PG:bk}{o o' news Pu:aO}{env:Env}{X:List Addr}
theorem OR.mem {a d:Addr}{x:MO}(hk:a∈bq φ/\d∈bq φ)(hs:∀p∈news,p.1∈bq φ->p∈Pu)(ht:∀a its,(a,bA its)∈news->(a,bA its)∈Pu)(r:OR α news φ a d x):OR α Pu φ a d x:=by
 cases x with
 | list xs=>obtain⟨e,its,n,hm,q⟩:=r; exact⟨e,its,n,hs _ hm hk.1,bg.mono' (aaj _) ht q⟩
 | inst c fs=>obtain⟨hm,hf,es,n,hd,q⟩:=r; exact⟨hs _ hm hk.1,hf,es,n,hs _ hd hk.2,q.mono (aaj _) ht⟩
 | dict fs ep=>obtain⟨e,e2,o,kvs,hm,hd,q⟩:=r; exact⟨e,e2,o,kvs,hs _ hm hk.1,hd,q.mono (aaj _) ht⟩
theorem Wd.mem (W:Wd α st φ news)(hn:(Pu.map (·.1)).Nodup)(hs:∀p∈news,p.1∈bq φ->p∈Pu)(ht:∀a its,(a,bA its)∈news->(a,bA its)∈Pu)(hb:∀ps,(α.tab,adn ps)∈news->(α.tab,adn ps)∈Pu)(hc:∀c oc,(c,oc)∈news->qD oc->(c,oc)∈Pu):Wd α st φ Pu where
 nodup:=hn
 len:=W.len
 apart:=W.apart
 objs:=λi x hi=>let ⟨a,d,e,r⟩:=W.objs i x hi; ⟨a,d,e,r.mem (iE e) hs ht⟩
 tabs:=let ⟨ps,hp,g,k⟩:=W.tabs; ⟨ps,hb _ hp,g,λc h=>let ⟨oc,h1,h2,h3,h4⟩:=k c h; ⟨oc,hc _ _ h1 h3,h2,h3,h4⟩⟩
theorem Sn.own (S:Sn α h₀ L m h st φ (o++news))(pl:Pl o)(hf:∀p∈o,p.1 ∉ bq φ)(hk:∀b z,b ∉ o.map (·.1)->h.get? b=some z->h'.get? b=some z)
  (ho:∀p∈o',h'.get? p.1=some p.2) (hn:(o'.map (·.1)).Nodup) (hs:∀p∈o',p.1∈o.map (·.1)):Sn α h₀ L m h' st φ (o'++news):=by
 have nd:=S.W.nodup
 rw [abE,abR] at nd
 obtain⟨nd1,Xa,XX⟩:=nd
 have WL:∀p∈news,p.1 ∉ o.map (·.1):=λp hp hm=>XX _ hm _ (ew ⟨p,hp,rfl⟩) rfl
 have hL:L ∉ o.map (·.1):=λhm=>by
  obtain⟨p,hp,e⟩:=c9 hm
  exact (S.N p (aa8 _ hp)).2.1 e
 have hB:∀b z,h₀.get? b=some z->b ∉ o.map (·.1):=λb z e hm=>by
  obtain⟨p,hp,e'⟩:=c9 hm
  have:=(S.N p (aa8 _ hp)).2.2
  have e'':p.1=b:=e'
  rw [e'',e] at this; cases this
 refine⟨⟨S.F.ns.at' λz e=>hk L z hL e,λb z e=>hk b z (hB b z e) (S.F.keep b z e),S.F.above⟩,λp hp=>?_,S.W.mem ?_ (λp hp hq=>?_) (λa its hm=>?_) (λps hm=>?_) λc oc hm Ui=>?_⟩
 ·rcases dU hp with hp | hp
  ·obtain⟨q,hq,e⟩:=c9 (hs p hp)
   have:=(S.N q (aa8 _ hq)).2
   have e':q.1=p.1:=e
   rw [e'] at this
   exact⟨ho p hp,this⟩
  ·have:=S.N p (aba _ hp)
   exact⟨hk _ _ (WL p hp) this.1,this.2⟩
 ·rw [abE,abR]
  refine⟨hn,Xa,λa ha b hb e=>?_⟩
  obtain⟨p,hp,rfl⟩:=c9 ha
  exact XX _ (hs p hp) _ hb e
 ·rcases dU hp with hp | hp
  ·exact absurd hq (hf p hp)
  ·exact aba _ hp
 ·rcases dU hm with hm | hm
  ·exact absurd rfl (pl.noT _ hm its)
  ·exact aba _ hm
 ·rcases dU hm with hm | hm
  ·exact absurd rfl (pl.noTab _ hm ps)
  ·exact aba _ hm
 ·rcases dU hm with hm | hm
  ·exact absurd Ui (pl.noCo _ hm)
  ·exact aba _ hm
theorem Sn.same (S:Sn α h₀ L m h st φ news)(hn:(Pu.map (·.1)).Nodup)(h1:∀p∈news,p∈Pu)(h2:∀p∈Pu,p∈news):Sn α h₀ L m h st φ Pu:=
 ⟨S.F,λp h=>S.N p (h2 p h),S.W.mem hn (λp h _=>h1 p h) (λa its h=>h1 _ h) (λps h=>h1 _ h) λc oc h _=>h1 _ h⟩
noncomputable abbrev oq (o:aO)(l:aO):aO:=l.filter λp=>!(o.map (·.1)).contains p.1
theorem gE {l:aO}{p:Addr×Obj}:p∈oq o l↔p∈l/\p.1 ∉ o.map (·.1):=by
 unfold oq
 rw [adj]
 simp [List.contains_eq_mem]
theorem Sn.split (S:Sn α h₀ L m h st PG Pu)(g:a9 X φ (o++news) PG Pu)(pl:Pl o)(nd:(((o++news).map (·.1)).Nodup))(hf:∀p∈o,p.1 ∉ bq φ)(hX:∀p∈o,p.1 ∉ X) :
  Sn α h₀ L m h st PG (o++oq o Pu)/\a9 X φ news PG (oq o Pu)/\(∀p∈o,p.1 ∉ bq PG)/\(∀a its,(a,bA its)∈Pu->(a,bA its)∈oq o Pu):=by
 have kept:∀p∈o,p∈Pu:=λp hp=>g.kept p (aa8 _ hp) (hf p hp) (hX p hp)
 have nd':=nd
 rw [abE,abR] at nd
 obtain⟨nd1,Xa,XX⟩:=nd
 have WL:∀p∈news,p.1 ∉ o.map (·.1):=λp hp hm=>XX _ hm _ (ew ⟨p,hp,rfl⟩) rfl
 have tup:∀a its,(a,bA its)∈Pu->(a,bA its)∈oq o Pu:=λa its hm=>gE.mpr ⟨hm,λhq=>by
  obtain⟨p,hp,e⟩:=c9 hq
  have e':p.1=a:=e
  subst e'
  exact pl.noT p hp its (eH S.W.nodup (kept p hp) hm)⟩
 refine⟨S.same ?_ (λp hp=>?_) (λp hp=>?_),⟨g.pre,λa its hm=>tup a its (g.tups a its (aba _ hm)),λp hp h1 h2=>gE.mpr ⟨g.kept p (aba _ hp) h1 h2,WL p hp⟩,λp hp=>?_,λp hp=>g.fresh p (aba _ hp)⟩,λp hp q=>hf p hp (g.fresh p (aa8 _ hp) q),tup⟩
 ·rw [abE,abR]
  refine⟨nd1,(List.filter_sublist.map _).nodup S.W.nodup,λa ha b hb e=>?_⟩
  obtain⟨p,hp,rfl⟩:=c9 hb
  exact (gE.mp hp).2 (e ▸ ha)
 ·by_cases hm:p.1∈o.map (·.1)
  ·obtain⟨q,hq,e⟩:=c9 hm
   have h1:=kept q hq
   have e':q.1=p.1:=e
   have:q.2=p.2:=eH S.W.nodup (a:=p.1) (e' ▸ h1) hp
   exact aa8 _ (by rw [show p=q from Prod.ext e'.symm this.symm]; exact hq)
  ·exact aba _ (gE.mpr ⟨hp,hm⟩)
 ·rcases dU hp with hp | hp
  ·exact kept p hp
  ·exact (gE.mp hp).1
 ·obtain⟨z,hz⟩:=g.keys p (aba _ hp)
  exact⟨z,gE.mpr ⟨hz,WL p hp⟩⟩
end
structure qX (α:bC)(A:abw)(h₀:Heap)(L:Addr)(Uj:bk)(P8:Expr)(I:Addr)(xs:List MV)(G:MS->Prop)(keys:List Addr)(own:Nat->aO->Prop):Prop where
 keys:∀i o,own i o->o.map (·.1)=keys
 pl:∀i o,own i o->Pl o
 item:∀i x,xs[i]?=some x->∀(s:aal) m st φ o news (Q:aac->aal->Prop) E,Sn α h₀ L m s.heap st φ (o++news)->G st->own i o->Uj <+: φ->(∀p∈o,p.1 ∉ bq φ) ->
  (∀v h' PV o' n',Sn α h₀ L m h' st φ (o'++n')->(∀p∈news,p∈n')->own (i+1) o'->RV α.hB n' φ x v->Q v { s with heap:=h',toks:=PV }) ->
  wpAny (abe α.prog α.w) A (afD (.ref I)) (λr P0=>∃v,r=some v/\wpAny (abe α.prog α.w) A (ab8 P8 (.ref I) v) (λ_ Qo=>Q v Qo) E P0) E s
 self:∀(s:aal) m st φ o news (Q:aac->aal->Prop) E,Sn α h₀ L m s.heap st φ (o++news)->own 0 o->Q (.ref I) s->wpAny (abe α.prog α.w) A (ajk (.ref I)) Q E s
 done:∀(s:aal) m st φ o news (Q:Option aac->aal->Prop) E,Sn α h₀ L m s.heap st φ (o++news)->G st->own xs.length o->Uj <+: φ->(∀p∈o,p.1 ∉ bq φ) ->
  (∀h' PV,Sn α h₀ L m h' st φ news->Q none { s with heap:=h',toks:=PV })->wpAny (abe α.prog α.w) A (afD (.ref I)) Q E s
abbrev TI:=aG->MS->(List MV->(MS->Prop)->MS->Prop)->Prop
section
variable (α:bC)
def Nh (A:abw)(P8:Expr)(h₀:Heap)(L:Addr)(m:Str->Option aac)(s:aal)(φ:bk)(news:aO)(Q:List MV->(MS->Prop)->MS->Prop)(Qc:aac->aal->Prop):Prop:=
 ∀I xs G keys own o Ps PG Pu h' PV,Sn α h₀ L m h' Ps PG (o++Pu)->a9 [α.tab] φ news PG Pu->qX α A h₀ L PG P8 I xs G keys own->own 0 o->(∀p∈o,p.1 ∉ bq PG)->I∈keys->Q xs G Ps->Qc (.ref I) { s with heap:=h',toks:=PV }
def ch (ℓ:Nat)(sc:abM)(slots:List Str)(P8 e:Expr)(T:TI):Prop:=
 ∀A h₀ L env,Cf α ℓ A h₀ L->Ce sc env->∀s m st φ news ρ,Sn α h₀ L m s.heap st φ news->Lc α slots env L m news φ ρ->∀Q Qc E,T ρ st Q->Nh α A P8 h₀ L m s φ news Q Qc ->
  wpAny (abe α.prog α.w) A (eval e env) (λxv P0=>wpAny (abe α.prog α.w) A (ajk xv) Qc E P0) E s
abbrev TG:=MV->aG->(aG->Prop)->Prop
def fY (ℓ:Nat)(sc:abM)(slots:List Str)(P8:Expr)(T:TG):Prop:=
 ∀A h₀ L env,Cf α ℓ A h₀ L->Ce sc env->∀(s:aal) m st φ news ρ V v,Sn α h₀ L m s.heap st φ news->Lc α slots env L m news φ ρ->dR α slots env L φ news->RV α.hB news φ V v->∀K Qc E,T V ρ K ->
  (∀Rq Pu m' h' PV,Sn α h₀ L m' h' st φ Pu->Lc α slots env L m' Pu φ Rq->dR α slots env L φ Pu->a9 (ft α env) φ news φ Pu->K Rq->Qc () { s with heap:=h',toks:=PV }) ->
  wpAny (abe α.prog α.w) A (afB P8 env v) Qc E s
end
section
variable {α:bC}{ℓ:Nat}{sc:abM}{slots:List Str}
def b8 (i:Nat):TG:=λV ρ K=>K (ρ.set i (some V))
def iq (is:List Nat):TG:=λV ρ K=>uQ (λVs=>Vs.length=is.length/\K (fj ρ is Vs)) V
theorem fY.name {x:Str}{p:Pos}{i:Nat}(hx:autoParam (slots[i]?=some x) aR):fY α ℓ sc slots (.Name x p) (b8 i):=by
 intro A h₀ L env C D s m st φ news ρ V v S Lo O r K Qc E t P
 exact ab4 (jB D S Lo O hx r λPC QJ h₁ PA Pv QF QH Py=>P _ PC QJ h₁ PA Pv QF QH Py t)
theorem qI {es:List Expr}{k:Nat}{p:Pos}{is:List Nat}(T:kE slots es is):fY α ℓ sc slots (.Tuple es k p) (iq is):=by
 intro A h₀ L env C D s m st φ news ρ V v S Lo O r K Qc E t P
 apply r.oT t; intro Vs a its hh q t
 exact xm T C D S Lo O (.tup hh q) t.1 λPC QJ h₁ PA Pv QF QH Py=>P _ PC QJ h₁ PA Pv QF QH Py t.2
noncomputable def eh (G:MS->Prop)(tg:TG)(b:TS):List MV->TS
 | []=>λρ st Q=>G st/\Q .next ρ st
 | x::xs=>λρ st Q=>G st/\tg x ρ λP9=>b P9 st λf Qk Pz=>match f with
  | .next=>eh G tg b xs Qk Pz Q
  | .cont=>eh G tg b xs Qk Pz Q
  | .brk=>Q .next Qk Pz
  | .ret V=>Q (.ret V) Qk Pz
def eO (T:TI)(tg:TG)(b:TS):TS:=λρ st Q=>T ρ st λxs G Pt=>eh G tg b xs ρ Pt Q
def Mm (α:bC)(slots:List Str)(env:Env)(h₀:Heap)(L:Addr)(s:aal)(φ:bk)(news:aO)(Px:bk)(N:Nat)(own:Nat->aO->Prop)(T:Nat->aG->MS->Prop)(k:Nat)(s':aal):Prop:=
 ∀P:Nat->aal->Prop,(∀i o m st PE n ρ h tk,i<=N->Sn α h₀ L m h st PE (o++n)->own i o->(∀p∈o,p.1 ∉ bq PE)->Lc α slots env L m n PE ρ->dR α slots env L PE n->Px <+: PE->a9 (ft α env) φ news PE n->T i ρ st->P (N+1 - i) { s with heap:=h,toks:=tk })->P k s'
theorem Lc.off {o n:aO}{φ:bk}{env:Env}{h₀ h:Heap}{L:Addr}{m:Str->Option aac}{st:MS}{ρ:aG}(Lo:Lc α slots env L m n φ ρ)(O:dR α slots env L φ n)(S:Sn α h₀ L m h st φ n)(tup:∀a its,(a,bA its)∈n->(a,bA its)∈oq o n)(off:∀p∈env.cells,p.2 ∉ o.map (·.1)):Lc α slots env L m (oq o n) φ ρ/\dR α slots env L φ (oq o n):=by
 refine⟨λj y V hj hV=>?_,O.nodup,O.loc,O.kinds,λy hy=>?_,O.inj,λp hp=>?_⟩
 ·obtain⟨u,hl,hr⟩:=Lo j y V hj hV
  refine⟨u,?_,hr.mono' (aaj _) tup⟩
  cases hl with
  | fr a1 a2 a3=>exact .fr a1 a2 a3
  | ns _ _ _ o _ _ hm _=>exact absurd O.loc λe=>(S.N _ hm).2.1 e
  | cell a1 c o hc a2 a3 hm q=>exact .cell a1 c o hc a2 a3 (gE.mpr ⟨hm,off _ (dO hc)⟩) q
 ·obtain⟨c,o,R2,hc,a2,a3,hm,hd⟩:=O.cells y hy
  exact⟨c,o,R2,hc,a2,a3,gE.mpr ⟨hm,off _ (dO hc)⟩,hd⟩
 ·obtain⟨z,hz⟩:=O.all p hp
  exact⟨z,gE.mpr ⟨hz,off p hp⟩⟩
theorem zF {prog:adh}{w:aa9}{A:abw}{env:Env}{Qm:Expr}{it:aac}{body:List Stmt}{s:aal}{Qc:Flow->aal->Prop}{E:aac->aal->Prop}(I:Nat->aal->Prop)
  (turn:∀n s (KF:Flow->aal->Prop) (E':aac->aal->Prop),(∀s',(∃m,m < n/\I m s')->KF .next s'/\KF .cont s')->(∀s',Qc .next s'->KF .brk s')->(∀v s',Qc (.ret v) s'->KF (.ret v) s')->I n s ->
   wpAny (abe prog w) A (afD it) (λr P0=>match r with
    | none=>wpAny (abe prog w) A (execs [] env) (λf Qu=>Qc f Qu) E' P0
    | some v=>wpAny (abe prog w) A (ab8 Qm it v) (λ_ RC=>wpAny (abe prog w) A (afB Qm env v) (λ_ Qo=>wpAny (abe prog w) A (execs body env) KF E' Qo) E' RC) E' P0) E' s)
  (n:Nat) (h:I n s):adA (abe prog w) A (.forLoop Qm it body [] env) (λr s'=>match r with | .ok f=>Qc f s' | .error e=>cameBackBy (abe prog w) A env E e s') s:=
 codeAny_forLoop_any I (λn s hI=>turn n s (λf Qu=>match f with
  | .next | .cont=>∃m,m < n/\I m Qu
  | .brk=>Qc .next Qu
  | .ret v=>Qc (.ret v) Qu) _ (λs' h=>⟨h,h⟩) (λs' h=>h) (λv s' h=>h) hI) n h
theorem dn {Qm iter:Expr}{body:List Stmt}{pos:Pos}{T:TI}{tg:TG}{b:TS}(hi:ch α ℓ sc slots Qm iter T)(ht:fY α ℓ sc slots Qm tg)(hb:ah α ℓ sc slots body b)
  (hs:autoParam (∀env x,aew iter env x=pure x) aI):au α ℓ sc slots (.For Qm iter body [] pos) (eO T tg b):=by
 intro A h₀ L env C D s m st φ news ρ PB Lo O Q Qc E t P
 refine wpAny_For (hi A h₀ L env C D s m st φ news ρ PB Lo _ _ E t λI xs G keys own o Pt Px PC h₁ PA Pv Py W Qx U7 hI Pw=>?_) (hs env)
 have QH:=O.grow Py
 have Wn:=Pv.W.nodup
 have kX:∀k∈keys,k ∉ ft α env:=λk hk hx=>by
  rw [<- W.keys 0 o Qx] at hk
  obtain⟨p,hp,rfl⟩:=c9 hk
  rcases bN hx with hx | hx
  ·obtain⟨ps,Sv,_⟩:=Pv.W.tabs
   exact (W.pl 0 o Qx).noTab p hp ps (eH Wn (a:=p.1) (aa8 _ hp) (hx ▸ Sv))
  ·obtain⟨q,hq,e⟩:=c9 hx
   obtain⟨z,hz⟩:=QH.all q hq
   rw [abE,abR] at Wn
   exact Wn.2.2 _ (ew ⟨p,hp,rfl⟩) _ (ew ⟨_,hz,rfl⟩) e.symm
 generalize hInv:Mm α slots env h₀ L s φ news Px xs.length own (λi ρ st=>eh G tg b (xs.drop i) ρ st Q)=Inv
 refine zF Inv ?_ (xs.length+1) (hInv ▸ λ_ k=>k 0 o m Pt Px PC ρ h₁ PA (abS _) Pv Qx U7 (Lo.grow Py) QH (aaj _) (dC Py) Pw)
 intro k s' KF E' kN kB kR QA
 rw [<- hInv] at QA
 revert kN
 apply QA; intro i Rh QI Pz PE PS Qk PM PN hi PF Ra Vd QU Q6 VM PH PU kN
 by_cases PR:i < xs.length
 ·have hx:xs[i]?=some xs[i]:=abc PR
  rw [acb PR] at PU
  obtain⟨hG,PU⟩:=PU
  refine abU (W.item i _ hx _ QI Pz PE Rh PS (λv RC=>wpAny (abe α.prog α.w) A (afB Qm env v) (λ_ Qo=>wpAny (abe α.prog α.w) A (execs body env) KF E' Qo) E' RC) E' PF hG Ra VM Vd λv P2 P7 Uy Qs P3 VJ Rb rv=>?_) (λr P0 hr=>?_) λ_ _ e=>e
  ·have hk3:Uy.map (·.1)=Rh.map (·.1):=(W.keys _ _ Rb).trans (W.keys _ _ Ra).symm
   have ZD:∀p∈Uy,p.1 ∉ bq PE:=λp hp=>by
    have:p.1∈Rh.map (·.1):=hk3 ▸ ew ⟨p,hp,rfl⟩
    obtain⟨q,hq,e⟩:=c9 this
    exact e ▸ Vd q hq
   have aaC:∀p∈Uy,p.1 ∉ ft α env:=λp hp=>kX _ (W.keys _ _ Rb ▸ ew ⟨p,hp,rfl⟩)
   have ga:a9 [α.tab] PE PS PE Qs:=.led VJ
   have gb:a9 [α.tab] PE Qs PE (Uy++Qs):=.led λp hp=>aba _ hp
   have Z5:=ga.trans gb
   refine ht A h₀ L env C D _ QI Pz PE (Uy++Qs) Qk _ v P3 (QU.grow Z5) (Q6.grow Z5) (rv.mono gb) _ _ _ PU λaaY VF Xs QN R9 R4 WR Vq Rm XL=>?_
   refine hb A h₀ L env C D _ Xs Pz PE VF aaY R4 WR Vq _ _ _ XL λf fc Q0 Sh Ts U6 XU Qv RJ RM Wz Xq SO VQ Rg=>?_
   have g45:=Rm.trans SO
   obtain⟨U3,Su,Zg,YK⟩:=RM.split g45 (W.pl _ _ Rb) P3.W.nodup ZD aaC
   have acr:=(PH.trans (dC ga)).trans Su
   obtain⟨back,aaB⟩:=Wz.off Xq RM YK λp hp hq=>by
    rw [W.keys _ _ Rb] at hq
    exact kX p.2 hq (.tail _ (ew ⟨_,hp,rfl⟩))
   have YY:a9 (ft α env) φ news Ts U6:=((PH.trans (dC Z5)).trans g45)
   have QK:eh G tg b (xs.drop (i+1)) Q0 Sh Q->∃m,m < xs.length+1 - i/\Inv m { s with heap:=Qv,toks:=RJ }:=λt=>⟨xs.length+1 - (i+1),aeQ (abN PR) (aby i),hInv ▸ λ_ k=>k (i+1) Uy XU Sh Ts _ Q0 Qv RJ PR U3 Rb Zg back aaB (VM.trans Su.pre) acr t⟩
   cases VQ with
   | next=>exact (kN _ (QK Rg)).1
   | cont=>exact (kN _ (QK Rg)).2
   | brk=>exact kB _ (P .next .next Q0 Sh Ts U6 XU Qv RJ RM Wz Xq YY .next Rg)
   | ret r=>exact kR _ _ (P _ _ Q0 Sh Ts U6 XU Qv RJ RM Wz Xq YY (.ret r) Rg)
  ·obtain⟨v,rfl,h⟩:=hr
   exact h
 ·have QY:i=xs.length:=by walk_at "o"
  subst QY
  rw [agZ] at PU
  exact W.done _ QI Pz PE Rh PS _ _ PF PU.1 Ra VM Vd λP2 P7 P3=>adW (P .next .next Qk Pz PE PS QI P2 P7 P3 QU Q6 PH .next PU.2)
end
section
variable {α:bC}{ℓ:Nat}{sc:abM}{slots:List Str}{h₀ h h':Heap}{L:Addr}{m:Str->Option aac}{s:aal}{st:MS}{φ PG:bk}{o o' news Pu:aO}{env:Env}{X:List Addr}{P8:Expr}
abbrev own1 (I:Addr)(IsO:Nat->Obj->Prop):Nat->aO->Prop:=λi o=>∃z,o=[(I,z)]/\IsO i z
theorem Sn.own1 {I:Addr}{z z':Obj}(S:Sn α h₀ L m h st φ ([(I,z)]++news))(pl:Pl [(I,z)])(hf:I ∉ bq φ)(hs:adi I h h')(hz:h'.get? I=some z'):Sn α h₀ L m h' st φ ([(I,z')]++news):=
 S.own pl (λp hp=>by rw [cq hp]; exact hf) (λb y hb e=>hs.extBut b y (λq=>hb (by subst q; exact .head _)) e) (λp hp=>by rw [cq hp]; exact hz) (by simp) (λp hp=>by rw [cq hp]; exact .head _)
theorem Sn.drop1 {I:Addr}{z:Obj}(S:Sn α h₀ L m h st φ ([(I,z)]++news))(pl:Pl [(I,z)])(hf:I ∉ bq φ)(hs:afq I h h'):Sn α h₀ L m h' st φ news:=
 S.own (o':=[]) pl (λp hp=>by rw [cq hp]; exact hf) (λb y hb e=>hs b y (λq=>hb (by subst q; exact .head _)) e) (λp hp=>by cases hp) .nil (λp hp=>by cases hp)
theorem Sn.new1 {I:Addr}{z:Obj}(S:Sn α h₀ L m h st φ news)(hn:h.get? I=none)(hI:L < I)(hz:h'.get? I=some z)(hk:∀b o,h.get? b=some o->h'.get? b=some o):Sn α h₀ L m h' st φ ([(I,z)]++news)/\I ∉ bq φ:=by
 have P6:∀p∈news,p.1≠I:=λp hp e=>by
  have:=(S.N p hp).1
  rw [e,hn] at this; cases this
 have N':News h₀ L h' ((I,z)::news):=λp hp=>by
  rcases bN hp with rfl | hp
  ·exact⟨hz,abW hI,by
    cases q:h₀.get? I with
    | none=>rfl
    | some y=>rw [S.F.keep _ _ q] at hn; cases hn⟩
  ·exact⟨hk _ _ (S.N p hp).1,(S.N p hp).2⟩
 exact⟨(S.entry (S.F.keeps hk) N' P6).1,S.notFoot P6⟩
theorem Sn.nextNone (S:Sn α h₀ L m h st φ news):h.get? h.objs.size=none/\L < h.objs.size:=by
 refine⟨?_,S.F.ns.lt⟩
 cases q:h.get? h.objs.size with
 | none=>rfl
 | some y=>exact absurd (abn q) (acj _)
abbrev AE (ax:Addr):Nat->Obj->Prop:=λi z=>z.cls=.type "list_iterator"/\z.data=.fields #[.ref ax,.int i 0]
theorem nv {I:Addr}{z:Obj}{c:String}(h:z.cls=.type c)(hc:c≠"tuple") (QX:autoParam (c≠"code") aK):Pl [(I,z)]:=λp hp=>by rw [cq hp]; exact qj (c:=c) h hc QX
theorem Wd.listIn {r:Nat}{xs:List MV}{ax d:Addr}(W:Wd α st φ (o++news))(pl:Pl o)(h:st[r]?=some (.list xs))(PP:φ[r]?=some (ax,d))(hf:∀p∈o,p.1 ∉ bq φ):d=ax/\∃its n,(ax,bV its n)∈news/\bg α.hB news φ xs its.toList:=by
 obtain⟨e,its,n,hm,q⟩:=W.list h PP
 refine⟨e,its,n,?_,bg.mono' (aaj _) (λa j hm=>?_) q⟩
 ·rcases dU hm with hm | hm
  ·exact absurd (iE PP).1 (hf _ hm)
  ·exact hm
 ·rcases dU hm with hm | hm
  ·exact absurd rfl (pl.noT _ hm j)
  ·exact hm
theorem IM {A:abw}{I ax d:Addr}{r:Nat}{xs:List MV}(hh:A.handled=none)(PP:φ[r]?=some (ax,d)):qX α A h₀ L φ P8 I xs (λst=>st[r]?=some (.list xs)) [I] (own1 I (AE ax)) where
 keys:=λi o h=>by obtain⟨z,rfl,_⟩:=h; rfl
 pl:=λi o h=>by obtain⟨z,rfl,hc,_⟩:=h; exact nv hc (by decide)
 item:=λi x hx s m st Px o news Q E S hG h pre hf P=>by
  refine bv λGG PD=>?_
  obtain⟨z,rfl,hz⟩:=h
  have pl:Pl [(I,z)]:=nv hz.1 (by decide)
  have Q7:=aA pre PP
  have YZ:=hf _ (.head _)
  obtain⟨rfl,its,n,hm,q⟩:=S.W.listIn pl hG Q7 hf
  have hI:s.heap.get? I=some z:=S.N.get (.head _)
  obtain⟨v,hv,rv⟩:=q.get hx
  refine PD ?_
  have hl:s.heap.IsList d its:=S.isList (aba _ hm)
  refine ahc (i:=i) ⟨z,hI,hz⟩ hl (x:=v) (by rw [<- hv]; simp) λh₁ SG hs=>⟨v,rfl,?_⟩
  obtain⟨z',Q2,Rx⟩:=SG
  refine letGo_listiter (s':={ s with heap:=h₁ }) (i:=i+1) ⟨z',Q2,Rx⟩ (P v h₁ s.toks [(I,z')] news (S.own1 pl YZ hs Q2) (λ_ h=>h) ⟨z',rfl,Rx⟩ rv)
 self:=λs m st Px o news Q E S h P=>by
  obtain⟨z,rfl,hz⟩:=h
  exact wpAny_pyIter_listiter (i:=0) ⟨z,S.N.get (.head _),hz⟩ P
 done:=λs m st Px o news Q E S hG h pre hf P=>by
  refine bv λGG PD=>?_
  obtain⟨z,rfl,hz⟩:=h
  have pl:Pl [(I,z)]:=nv hz.1 (by decide)
  have Q7:=aA pre PP
  obtain⟨rfl,its,n,hm,q⟩:=S.W.listIn pl hG Q7 hf
  refine PD ?_
  have hI:s.heap.get? I=some z:=S.N.get (.head _)
  have hl:s.heap.IsList d its:=S.isList (aba _ hm)
  refine aho hh ⟨z,hI,hz⟩ hl (acf (by rw [<- abm,q.length]; exact abt _)) λh₁ hs=>P h₁ s.toks (S.drop1 pl (hf _ (.head _)) hs)
def b9 (a:TE):TI:=λρ st Q=>a ρ st λV Pt=>h7 (λr=>cE Pt[r]? λxs=>Q xs (λst=>st[r]?=some (.list xs)) Pt) V
theorem bU {e:Expr}{a:TE}(h:aa α ℓ sc slots e a):ch α ℓ sc slots P8 e (b9 a):=by
 intro A h₀ L env C D s m st φ news ρ PB Lo Q Qc E t P
 refine h A h₀ L env C D s m st φ news ρ PB Lo _ _ E t λV Pt Px PC v h₁ PA Pv Py PO Pw=>?_
 apply PO.oR Pw; intro r a d PP Pw
 refine bZ Pw λxs hr Pw=>?_
 refine Pv.W.listC hr PP λits n PP hm q=>?_
 refine agK (Pv.isList hm) ?_
 obtain⟨n1,n2⟩:=Pv.nextNone
 obtain⟨PF,hf⟩:=Pv.new1 (h':=h₁.push { cls:=.type "list_iterator",data:=.fields #[.ref a,.int 0 0] }) n1 n2 (abC _ rfl) λ_ _ e=>aao _ e
 exact P _ _ _ _ _ _ Pt Px PC _ PA PF Py (IM C.hand PP) ⟨_,rfl,rfl,rfl⟩ (λp hp=>by rw [cq hp]; exact hf) (.head _) Pw
abbrev Nw (n:Nat):Nat->Obj->Prop:=λi z=>z={ cls:=.type "range_iterator",dict:=none,data:=.fields #[adQ (i:Int),adQ ((n:Int) - i),adQ 1],slots:=#[] }
noncomputable def oG (n:Nat):List MV:=(aca n).map λ(i:Nat)=>.int (i:Int)
theorem HH {A:abw}{I:Addr}{n:Nat}{x:Str}{p:Pos}(hh:A.handled=none):qX α A h₀ L φ (.Name x p) I (oG n) (λ_=>True) [I] (own1 I (Nw n)) where
 keys:=λi o h=>by obtain⟨z,rfl,_⟩:=h; rfl
 pl:=λi o h=>by obtain⟨z,rfl,rfl⟩:=h; exact nv rfl (by decide)
 item:=λi x hx s m st Px o news Q E S hG h pre hf P=>by
  obtain⟨z,rfl,rfl⟩:=h
  have hi:i < n:=by
   have:=(bP hx).1
   simpa [oG] using this
  have Rf:x=.int (i:Int):=by
   simp only [oG,abF,List.getElem?_range hi,Option.map_some] at hx
   exact (abl hx).symm
  subst Rf
  have hI:=S.N.get (.head _)
  refine wpAny_pyNext_range_item hI (by walk_at "o") λh₁ SG hs=>⟨_,rfl,?_⟩
  rw [show ab8 (.Name _ _) (.ref I) (aet (i:Int) s.toks)=pure () from rfl]
  refine abb (P _ h₁ _ [(I,_)] news (S.own1 (nv rfl (by decide)) (hf _ (.head _)) hs SG) (λ_ h=>h) ⟨_,rfl,?_⟩ (.int _ _))
  have e:(n:Int) - ((i+1:Nat):Int)=(n:Int) - (i:Int) - 1:=by walk_at "o"
  have e2:((i+1:Nat):Int)=(i:Int)+1:=by walk_at "o"
  show _=_
  rw [e,e2]
 self:=λs m st Px o news Q E S h P=>by
  obtain⟨z,rfl,rfl⟩:=h
  exact wpAny_pyIter_rangeiter (S.N.get (.head _)) P
 done:=λs m st Px o news Q E S hG h pre hf P=>by
  obtain⟨z,rfl,rfl⟩:=h
  have hI:=S.N.get (.head _)
  refine wpAny_pyNext_range_end hh hI (by simp [oG]) λh₁ hs=>P h₁ s.toks (S.drop1 (nv rfl (by decide)) (hf _ (.head _)) hs)
def nj (a:TL):TI:=λρ st Q=>a ρ st λVs Pt=>Cg (kg λn=>0<=n/\n < 2 ^ 62/\Q (oG n.toNat) (λ_=>True) Pt) Vs
theorem mz {x:Str}{p px pos:Pos}{es:List Expr}{a:TL}(h:ae α ℓ sc slots es a)(he:nsIn α.K aam ("range":Str)=some none)
  (hx:autoParam (sc.names.lookup ("range":Str)=some .globalImplicit) aR):ch α ℓ sc slots (.Name x px) (.Call (.Name ("range":Str) p) es [] pos) (nj a):=by
 intro A h₀ L env C D s m st φ news ρ PB Lo Q Qc E t P
 refine agW (fy C D PB.F he (v:=.type "range") (by decide +kernel) (by decide +kernel) ?_ hx (by decide +kernel))
 refine bR (α:=α) h.plain (Pp:=λ_=>True) (λh _=>iU _ h) (h.run A h₀ L env C D s m st φ news ρ PB Lo pos _ _ E t λVs Pt Px PC vs h₁ PA Pv Py PO Pw PL=>⟨trivial,?_⟩)
 clear PL
 apply PO.o1 Pw; intro V v r Pw; apply r.oI Pw; intro n tk Pw
 have h0:=Pw.1
 have h1:=Pw.2.1
 replace Pw:=Pw.2.2
 refine call_range_1 ?_
 have Rl:Builtin.Range.small 0 n 1=true:=small_one (by walk_at "o") (by walk_at "o") (by walk_at "o") h1
 have hsz:ag0 0 n 1=((n.toNat:Nat):Int):=by
  rw [rangeSize_one]; split <;> walk_at "o"
 have hr:IsRange (h₁.push { cls:=.type "range",data:=.fields #[.int 0 PA,.int n tk,.int 1 (PA+1)] }) h₁.objs.size 0 n 1 PA tk (PA+1):=IsRange.new ..
 refine wpAny_pyIter_range (s:={ s with heap:=h₁.push { cls:=.type "range",data:=.fields #[.int 0 PA,.int n tk,.int 1 (PA+1)] },toks:=PA+1+1 }) hr Rl ?_
 have PF:=Pv.keeps (h':=h₁.push { cls:=.type "range",data:=.fields #[.int 0 PA,.int n tk,.int 1 (PA+1)] }) λ_ _ e=>aao _ e
 obtain⟨n1,n2⟩:=PF.nextNone
 obtain⟨P3,hf⟩:=PF.new1 (h':=(h₁.push { cls:=.type "range",data:=.fields #[.int 0 PA,.int n tk,.int 1 (PA+1)] }).push { cls:=.type "range_iterator",data:=.fields #[adQ 0,adQ (ag0 0 n 1),adQ 1] }) n1 n2 (abC _ rfl) λ_ _ e=>aao _ e
 refine P _ _ _ _ _ _ Pt Px PC _ _ P3 Py (HH C.hand) ⟨_,rfl,?_⟩ (λp hp=>by rw [cq hp]; exact hf) (.head _) Pw
 show _=_
 rw [hsz]
 simp
end
section
variable {α:bC}{ℓ:Nat}{sc:abM}{slots:List Str}{h₀ h h':Heap}{L:Addr}{m:Str->Option aac}{s:aal}{st:MS}{φ PG:bk}{o o' news Pu:aO}{env:Env}{X:List Addr}{P8:Expr}
abbrev Ku (ty:String)(x:Str)(t:Tok):Nat->Obj->Prop:=λi z=>z.cls=.type ty/\z.data=.fields #[.str x t,.int i 0]
noncomputable def gv (x:Str):List MV:=x.cps.toList.map λc=>.str ⟨#[c]⟩
theorem zM {x:Str}{i:Nat}{V:MV}(h:(gv x)[i]?=some V):∃c,x.cps[i]?=some c/\V=.str ⟨#[c]⟩:=by
 unfold gv at h
 rw [abF,adv] at h
 cases e:x.cps[i]? with
 | none=>rw [e] at h; cases h
 | some c=>rw [e] at h; exact⟨c,rfl,(abl h).symm⟩
theorem zy (x:Str):x.cps[(gv x).length]?=none:=by
 exact acf (aeK ((abg _).trans abm).symm)
theorem Jl {A:abw}{I:Addr}{x y:Str}{t:Tok}{p:Pos}(hh:A.handled=none):qX α A h₀ L φ (.Name y p) I (gv x) (λ_=>True) [I] (own1 I (Ku "str_ascii_iterator" x t)) where
 keys:=λi o h=>by obtain⟨z,rfl,_⟩:=h; rfl
 pl:=λi o h=>by obtain⟨z,rfl,hc,_⟩:=h; exact nv hc (by decide)
 item:=λi V hx s m st Px o news Q E S hG h pre hf P=>by
  refine bv λGG PD=>?_
  obtain⟨z,rfl,hz⟩:=h
  obtain⟨c,hc,rfl⟩:=zM hx
  refine PD ?_
  have hI:=S.N.get (.head _)
  refine wpAny_pyNext_ascii_item (i:=i) ⟨z,hI,hz⟩ hc λh₁ SG hs=>⟨_,rfl,?_⟩
  obtain⟨z',Q2,Rx⟩:=SG
  rw [show ab8 (.Name y p) (.ref I) (agY ⟨#[c]⟩ s.toks)=pure () from rfl]
  exact abb (P _ h₁ _ [(I,z')] news (S.own1 (nv hz.1 (by decide)) (hf _ (.head _)) hs Q2) (λ_ h=>h) ⟨_,rfl,Rx⟩ (.str _ _))
 self:=λs m st Px o news Q E S h P=>by
  obtain⟨z,rfl,hz⟩:=h
  exact wpAny_pyIter_striter_ascii (i:=0) ⟨z,S.N.get (.head _),hz⟩ P
 done:=λs m st Px o news Q E S hG h pre hf P=>by
  obtain⟨z,rfl,hz⟩:=h
  have hI:=S.N.get (.head _)
  exact wpAny_pyNext_ascii_end hh ⟨z,hI,hz⟩ (zy x) λh₁ hs=>P h₁ s.toks (S.drop1 (nv hz.1 (by decide)) (hf _ (.head _)) hs)
theorem JE {A:abw}{I:Addr}{x y:Str}{t:Tok}{p:Pos}(hh:A.handled=none):qX α A h₀ L φ (.Name y p) I (gv x) (λ_=>True) [I] (own1 I (Ku "str_iterator" x t)) where
 keys:=λi o h=>by obtain⟨z,rfl,_⟩:=h; rfl
 pl:=λi o h=>by obtain⟨z,rfl,hc,_⟩:=h; exact nv hc (by decide)
 item:=λi V hx s m st Px o news Q E S hG h pre hf P=>by
  refine bv λGG PD=>?_
  obtain⟨z,rfl,hz⟩:=h
  obtain⟨c,hc,rfl⟩:=zM hx
  refine PD ?_
  have hI:=S.N.get (.head _)
  refine wpAny_pyNext_wide_item (i:=i) ⟨z,hI,hz⟩ hc λh₁ SG hs=>⟨_,rfl,?_⟩
  obtain⟨z',Q2,Rx⟩:=SG
  rw [show ab8 (.Name y p) (.ref I) (agY ⟨#[c]⟩ s.toks)=pure () from rfl]
  exact abb (P _ h₁ _ [(I,z')] news (S.own1 (nv hz.1 (by decide)) (hf _ (.head _)) hs Q2) (λ_ h=>h) ⟨_,rfl,Rx⟩ (.str _ _))
 self:=λs m st Px o news Q E S h P=>by
  obtain⟨z,rfl,hz⟩:=h
  exact wpAny_pyIter_striter_wide (i:=0) ⟨z,S.N.get (.head _),hz⟩ P
 done:=λs m st Px o news Q E S hG h pre hf P=>by
  obtain⟨z,rfl,hz⟩:=h
  have hI:=S.N.get (.head _)
  exact wpAny_pyNext_wide_end hh ⟨z,hI,hz⟩ (zy x) λh₁ hs=>P h₁ s.toks (S.drop1 (nv hz.1 (by decide)) (hf _ (.head _)) hs)
def CJ (a:TE):TI:=λρ st Q=>a ρ st λV Pt=>xc (λx=>Q (gv x) (λ_=>True) Pt) V
theorem C4 {y:Str}{p:Pos}{e:Expr}{a:TE}(h:aa α ℓ sc slots e a):ch α ℓ sc slots (.Name y p) e (CJ a):=by
 intro A h₀ L env C D s m st φ news ρ PB Lo Q Qc E t P
 refine h A h₀ L env C D s m st φ news ρ PB Lo _ _ E t λV Pt Px PC v h₁ PA Pv Py PO Pw=>?_
 apply PO.oS Pw; intro x tk Pw
 obtain⟨n1,n2⟩:=Pv.nextNone
 cases ha:x.cps.all (· < 128) with
 | true =>
  refine wpAny_pyIter_ascii ha ?_
  obtain⟨PF,hf⟩:=Pv.new1 (h':=h₁.push { cls:=.type "str_ascii_iterator",data:=.fields #[.str x tk,.int 0 0] }) n1 n2 (abC _ rfl) λ_ _ e=>aao _ e
  exact P _ _ _ _ _ _ Pt Px PC _ PA PF Py (Jl C.hand) ⟨_,rfl,rfl,rfl⟩ (λp hp=>by rw [cq hp]; exact hf) (.head _) Pw
 | false =>
  refine wpAny_pyIter_wide ha ?_
  obtain⟨PF,hf⟩:=Pv.new1 (h':=h₁.push { cls:=.type "str_iterator",data:=.fields #[.str x tk,.int 0 0] }) n1 n2 (abC _ rfl) λ_ _ e=>aao _ e
  exact P _ _ _ _ _ _ Pt Px PC _ PA PF Py (JE C.hand) ⟨_,rfl,rfl,rfl⟩ (λp hp=>by rw [cq hp]; exact hf) (.head _) Pw
noncomputable def lY (k:Nat):List MV->List MV
 | []=>[]
 | x::xs=>.tup [.int (k:Int),x]::lY (k+1) xs
theorem Cq:∀{xs:List MV}{k i:Nat}{V:MV},(lY k xs)[i]?=some V->∃x,xs[i]?=some x/\V=.tup [.int ((k+i:Nat):Int),x]
 | [],k,i,V,h=>by cases h
 | x::xs,k,0,V,h=>⟨x,rfl,(abl h).symm⟩
 | x::xs,k,i+1,V,h=>by
  obtain⟨y,h1,h2⟩:=Cq (xs:=xs) (k:=k+1) (i:=i) h
  exact⟨y,h1,by rw [h2,show k+1+i=k+(i+1) by walk_at "o"]⟩
theorem vF:∀(xs:List MV)(k:Nat),(lY k xs).length=xs.length:=by
 intro xs
 induction xs with
 | nil =>
  intro _
  exact rfl
 | cons _ xs ih =>
  intro k
  exact congrArg (·+1) (ih _)
noncomputable abbrev nq (f:aac)(it:Addr)(i:Int)(Qp:aac):Obj:={ cls:=.type "enumerate",dict:=none,data:=.fields #[f,.bool false,.ref it,adQ i,.none,Qp],slots:=#[] }
abbrev N9 (e it ax:Addr):Nat->aO->Prop:=λi o=>∃Qp z,o=[(e,nq .none it (i:Int) Qp),(it,z)]/\AE ax i z
theorem yB {e it ax:Addr}{i:Nat}{f Qp:aac}{z:Obj}(hz:AE ax i z):Pl [(e,nq f it (i:Int) Qp),(it,z)]:=λp hp=>by
 rcases bN hp with rfl | hp
 ·exact qj (c:="enumerate") rfl (by decide)
 ·rw [cq hp]; exact qj hz.1 (by decide)
theorem Sn.tupIn {T:Addr}{its:Array aac}(S:Sn α h₀ L m h st φ (o++news))(hT:h.get? T=some (bA its))(hL:T≠L)(h0:h₀.get? T=none)(P6:∀p∈o++news,p.1≠T):Sn α h₀ L m h st φ (o++(T,bA its)::news):=by
 have N':News h₀ L h ((T,bA its)::(o++news)):=λp hp=>by
  rcases bN hp with rfl | hp
  ·exact⟨hT,hL,h0⟩
  ·exact S.N p hp
 have S':=(S.entry S.F N' P6).1
 refine S'.same ?_ (λp hp=>?_) λp hp=>?_
 ·have:=S'.W.nodup
  rw [abj,abE] at this
  rw [abE,abj]
  exact (List.perm_middle.nodup_iff).mpr this
 ·rcases bN hp with rfl | hp
  ·exact aba _ (.head _)
  ·rcases dU hp with hp | hp
   ·exact aa8 _ hp
   ·exact aba _ (.tail _ hp)
 ·rcases dU hp with hp | hp
  ·exact .tail _ (aa8 _ hp)
  ·rcases bN hp with rfl | hp
   ·exact .head _
   ·exact .tail _ (aba _ hp)
theorem I2 {A:abw}{e it ax d:Addr}{r:Nat}{xs:List MV}{es:List Expr}{k:Nat}{p:Pos}(hh:A.handled=none)(PP:φ[r]?=some (ax,d))(Ym:e≠it):qX α A h₀ L φ (.Tuple es k p) e (lY 0 xs) (λst=>st[r]?=some (.list xs)) [e,it] (N9 e it ax) where
 keys:=λi o h=>by obtain⟨Qp,z,rfl,_⟩:=h; rfl
 pl:=λi o h=>by obtain⟨Qp,z,rfl,hz⟩:=h; exact yB hz
 item:=λi V hx s m st Px o news Q E S hG h pre hf P=>by
  refine bv λGG PD=>?_
  obtain⟨Qp,z,rfl,hz⟩:=h
  have pl:Pl [(e,nq .none it (i:Int) Qp),(it,z)]:=yB hz
  have Q7:=aA pre PP
  obtain⟨x,Rp,rfl⟩:=Cq hx
  clear hx
  rw [afE] at *
  obtain⟨rfl,its,n,hm,q⟩:=S.W.listIn pl hG Q7 hf
  have he:IsEnum s.heap e it (i:Int) Qp:=S.N.get (.head _)
  have hI:s.heap.get? it=some z:=S.N.get (.tail _ (.head _))
  obtain⟨v,hv,rv⟩:=q.get Rp
  have hl:s.heap.IsList d its:=S.isList (aba _ hm)
  obtain⟨n1,n2⟩:=S.nextNone
  refine PD ?_
  refine wpAny_pyNext_enum_item he ⟨z,hI,hz⟩ hl (x:=v) (by rw [<- hv]; simp) Ym λh₁ ho SG hT hsz hk=>⟨_,rfl,?_⟩
  obtain⟨z',Q2,Rx⟩:=SG
  have Pv:Sn α h₀ L m h₁ st Px ([(e,nq (adQ s.heap.objs.size) it ((i:Int)+1) v),(it,z')]++news):=S.own pl hf (λb y hb q=>hk b y (λw=>hb (by subst w; exact .head _)) (λw=>hb (by subst w; exact .tail _ (.head _))) q)
   (λp hp=>by
    rcases bN hp with rfl | hp
    ·exact ho
    ·rw [cq hp]; exact Q2) (by simpa using Ym) (λp hp=>by
    rcases bN hp with rfl | hp
    ·exact .head _
    ·rw [cq hp]; exact .tail _ (.head _))
  have PR:∀p∈[(e,nq (adQ s.heap.objs.size) it ((i:Int)+1) v),(it,z')]++news,p.1≠s.heap.objs.size:=λp hp=>by
   have:∃y,(p.1,y)∈[(e,nq .none it (i:Int) Qp),(it,z)]++news:=by
    rcases bN hp with rfl | hp
    ·exact⟨_,.head _⟩
    ·rcases bN hp with rfl | hp
     ·exact⟨_,.tail _ (.head _)⟩
     ·exact⟨_,.tail _ (.tail _ hp)⟩
   obtain⟨y,hy⟩:=this
   exact S.lt (p.1,y) hy
  have h0:h₀.get? s.heap.objs.size=none:=by
   cases q:h₀.get? s.heap.objs.size with
   | none=>rfl
   | some y=>rw [S.F.keep _ _ q] at n1; cases n1
  have PF:=Pv.tupIn hT (abW n2) h0 PR
  refine wpAny_letOwnedTupleGo_enum ho λPM SL hs=>?_
  have VY:AE d (i+1) z':=Rx
  have P3:Sn α h₀ L m PM st Px ([(e,nq .none it (((i+1:Nat)):Int) v),(it,z')]++(s.heap.objs.size,bA #[.int (i:Int) s.toks,v])::news):=PF.own (by
    intro p hp
    rcases bN hp with rfl | hp
    ·exact qj (c:="enumerate") rfl (by decide)
    ·rw [cq hp]; exact qj Rx.1 (by decide)) (λp hp=>by
    rcases bN hp with rfl | hp
    ·exact hf (e,nq .none it (i:Int) Qp) (.head _)
    ·rw [cq hp]; exact hf (it,z) (.tail _ (.head _)))
   (λb y hb q=>hs.extBut b y (λw=>hb (by subst w; exact .head _)) q) (λp hp=>by
    rcases bN hp with rfl | hp
    ·exact SL
    ·rw [cq hp]; exact (hs.2 it Ym.symm).trans Q2) (by simpa using Ym) (λp hp=>by
    rcases bN hp with rfl | hp
    ·exact .head _
    ·rw [cq hp]; exact .tail _ (.head _))
  refine P _ PM (s.toks+1) _ _ P3 (λp hp=>.tail _ hp) ⟨v,z',rfl,VY⟩ (.tup (its:=#[.int (i:Int) s.toks,v]) (.inl (.head _)) (.cons (.int _ _) (.cons (RV.mono' (aaj _) (λ_ _ h=>.tail _ h) rv) .nil)))
 self:=λs m st Px o news Q E S h P=>by
  obtain⟨Qp,z,rfl,hz⟩:=h
  have he:IsEnum s.heap e it (0:Int) Qp:=S.N.get (.head _)
  exact aiy he P
 done:=λs m st Px o news Q E S hG h pre hf P=>by
  refine bv λGG PD=>?_
  obtain⟨Qp,z,rfl,hz⟩:=h
  have pl:Pl [(e,nq .none it (((lY 0 xs).length:Nat):Int) Qp),(it,z)]:=yB hz
  have Q7:=aA pre PP
  obtain⟨rfl,its,n,hm,q⟩:=S.W.listIn pl hG Q7 hf
  refine PD ?_
  have he:IsEnum s.heap e it (((lY 0 xs).length:Nat):Int) Qp:=S.N.get (.head _)
  have hI:s.heap.get? it=some z:=S.N.get (.tail _ (.head _))
  have hl:s.heap.IsList d its:=S.isList (aba _ hm)
  refine wpAny_pyNext_enum_end hh he ⟨z,hI,hz⟩ hl (acf (by rw [<- abm,q.length,vF]; exact abt _)) λh₁ hs=>P h₁ s.toks ?_
  exact S.own (o':=[]) pl hf (λb y hb e=>hs b y (λq=>hb (by subst q; exact .tail _ (.head _))) e) (λp hp=>by cases hp) .nil (λp hp=>by cases hp)
def AC (a:TL):TI:=λρ st Q=>a ρ st λVs Pt=>Cg (h7 λr=>cE Pt[r]? λxs=>Q (lY 0 xs) (λst=>st[r]?=some (.list xs)) Pt) Vs
theorem zZ {tes:List Expr}{k:Nat}{tp p pos:Pos}{es:List Expr}{a:TL}(h:ae α ℓ sc slots es a)(he:nsIn α.K aam ("enumerate":Str)=some none)
  (hx:autoParam (sc.names.lookup ("enumerate":Str)=some .globalImplicit) aR):ch α ℓ sc slots (.Tuple tes k tp) (.Call (.Name ("enumerate":Str) p) es [] pos) (AC a):=by
 intro A h₀ L env C D s m st φ news ρ PB Lo Q Qc E t P
 refine agW (fy C D PB.F he (v:=.type "enumerate") (by decide +kernel) (by decide +kernel) ?_ hx (by decide +kernel))
 refine bR (α:=α) h.plain (Pp:=λ_=>True) (λh _=>iU _ h) (h.run A h₀ L env C D s m st φ news ρ PB Lo pos _ _ E t λVs Pt Px PC vs h₁ PA Pv Py PO Pw PL=>⟨trivial,?_⟩)
 clear PL
 apply PO.o1 Pw; intro V v rr Pw; apply rr.oR Pw; intro r a d PP Pw
 refine bZ Pw λxs hr Pw=>?_
 refine Pv.W.listC hr PP λits n PP hm q=>?_
 obtain⟨n1,n2⟩:=Pv.nextNone
 refine call_enumerate_list (Pv.isList hm) λPM SL aar hsz hk=>?_
 obtain⟨z,hz,Rx⟩:=aar
 refine aiy SL ?_
 obtain⟨PF,SN⟩:=Pv.new1 (h':=PM) n1 n2 hz hk
 have Wp:h₁.get? (h₁.objs.size+1)=none:=adZ (agJ _)
 have P6:∀p∈[(h₁.objs.size,z)]++PC,p.1≠h₁.objs.size+1:=λp hp e=>by
  rcases bN hp with rfl | hp
  ·exact abf (aby _) e
  ·have:=(Pv.N p hp).1
   rw [e,Wp] at this; cases this
 have N':News h₀ L PM ((h₁.objs.size+1,nq .none h₁.objs.size 0 .none)::([(h₁.objs.size,z)]++PC)):=λp hp=>by
  rcases bN hp with rfl | hp
  ·refine⟨SL,abW (abN n2),?_⟩
   cases q:h₀.get? (h₁.objs.size+1) with
   | none=>rfl
   | some y=>rw [Pv.F.keep _ _ q] at Wp; cases Wp
  ·exact PF.N p hp
 obtain⟨P3,_⟩:=PF.entry PF.F N' P6
 refine P _ _ _ _ _ [(h₁.objs.size+1,nq .none h₁.objs.size 0 .none),(h₁.objs.size,z)] Pt Px PC PM PA P3 Py (I2 C.hand PP (abW (aby _))) ⟨.none,z,rfl,Rx⟩ (λp hp=>?_) (.head _) Pw
 rcases bN hp with rfl | hp
 ·exact PF.notFoot P6
 ·rw [cq hp]; exact SN
end
section
open PyProof.Rows.LCg
noncomputable abbrev gm (sc scope:abM):abM:=
 { scope with names:=scope.names.map λ(n,k)=>if (k == .free && sc.kind == .function && sc.names.lookup n == some .cell) then (n,.cell) else (n,k) }
theorem sR {sc:abM}{env:Env}(scope:abM)(D:Ce sc env):ad0 scope env=gm sc scope:=by
 unfold ad0 gm acd
 rw [D.scope]
theorem AZ {env:Env}:∀(names:List (Str×aix))(PZ:List (Str×Addr)),(∀p∈names,p.2=.free->(env.cells.lookup p.1).isSome) ->
  ∃cl,(forIn names PZ λx r=>do
   let (name,kind):=x
   let cs:=r
   if (kind == af5)=true then do
    let c <- cellOf env name
    pure (ach ((name,c)::cs))
   else pure (ach cs):Sem (List (Str×Addr)))=pure cl/\(∀q∈cl,q∈PZ\/(env.cells.lookup q.1=some q.2/\(q.1,af5)∈names))/\(∀q∈PZ,q∈cl)/\∀n,(n,af5)∈names->∃c,(n,c)∈cl:=by
 intro names
 induction names with
 | nil=>exact λPZ _=>⟨PZ,rfl,λq h=>.inl h,λq h=>h,λn h=>nomatch h⟩
 | cons p r ih =>
  intro PZ h
  obtain⟨n,k⟩:=p
  rw [ahj]
  by_cases hk:(k == af5)=true
  ·have QA:k=.free:=eq_of_beq hk
   refine bv λGG PD=>?_
   obtain⟨c,hc⟩:=adB.mp (h _ (.head _) QA)
   obtain⟨cl,e,h1,h2,h3⟩:=ih ((n,c)::PZ) λp hp=>h p (.tail _ hp)
   refine PD ?_
   refine⟨cl,?_,λq hq=>?_,λq hq=>h2 q (.tail _ hq),λx hx=>?_⟩
   ·refine (congrArg (λz=>Bind.bind z _) (if_pos hk)).trans ?_
    unfold cellOf
    rw [hc]
    exact e
   ·rcases h1 q hq with q1 | ⟨q1,q2⟩
    ·rcases bN q1 with rfl | q1
     ·exact .inr ⟨hc,by rw [QA]; exact .head _⟩
     ·exact .inl q1
    ·exact .inr ⟨q1,.tail _ q2⟩
   ·rcases bN hx with e | hx
    ·cases e; exact⟨c,h2 _ (.head _)⟩
    ·exact h3 x hx
  ·obtain⟨cl,e,h1,h2,h3⟩:=ih PZ λp hp=>h p (.tail _ hp)
   refine⟨cl,?_,λq hq=>(h1 q hq).imp id λz=>⟨z.1,.tail _ z.2⟩,h2,λx hx=>?_⟩
   ·exact (congrArg (λz=>Bind.bind z _) (if_neg hk)).trans e
   ·rcases bN hx with e | hx
    ·cases e; exact absurd rfl hk
    ·exact h3 x hx
theorem FP {env:Env}{scope:abM}(h:∀p∈scope.names,p.2=.free->(env.cells.lookup p.1).isSome) :
  ∃cl,agw scope env=pure cl/\(∀q∈cl,env.cells.lookup q.1=some q.2)/\∀n,(n,af5)∈scope.names->cl.lookup n=env.cells.lookup n:=by
 obtain⟨cl,e,h1,_,h3⟩:=AZ (env:=env) scope.names [] h
 have h1':∀q∈cl,env.cells.lookup q.1=some q.2:=λq hq=>by
  rcases h1 q hq with q1 | q1
  ·cases q1
  ·exact q1.1
 refine⟨cl,?_,h1',λn hn=>?_⟩
 ·unfold agw
  rw [bind_pure]
  exact e
 ·obtain⟨c,hc⟩:=h3 n hn
  cases q:cl.lookup n with
  | none =>
   rw [aff] at q
   have:=q _ hc
   simp at this
  | some d=>exact (h1' _ (dO q)).symm
section
variable {prog:adh}{w:aa9}{A:abw}{R:afZ->aal->Prop}{s:aal}
theorem rR {Q8 Qm iter:Expr}{QS:List Expr}{scope:abM}{pos:Pos}{it PZ:aac}{env:Env}(I:Nat->aal->Prop)
  (turn:∀n s,I n s->wpAny (abe prog w) A (afD it) (λr P0=>match r with
   | none=>R (.ok .next) P0
   | some v=>wpAny (abe prog w) A (ab8 Qm it v) (λ_ RC=>wpAny (abe prog w) A (afB Qm env v) (λ_ Qo =>
     wpAny (abe prog w) A (forIn QS true λc r=>if r=true then do let ok <- isTrue c env (eval c env); pure (ach ok) else pure (ach r)) (λok Qu =>
      if ok=true then wpAny (abe prog w) A (eval Q8 env) (λx Rv =>
       wpAny (abe prog w) A (call (.builtin "list.append") [PZ,x]) (λ_ SP=>∃m,m < n/\I m SP) (aeL (abe prog w) A env λe s'=>R (.error e) s') Rv) (aeL (abe prog w) A env λe s'=>R (.error e) s') Qu
      else ∃m,m < n/\I m Qu) (aeL (abe prog w) A env λe s'=>R (.error e) s') Qo) (aeL (abe prog w) A env λe s'=>R (.error e) s') RC) (aeL (abe prog w) A env λe s'=>R (.error e) s') P0) (aeL (abe prog w) A env λe s'=>R (.error e) s') s)
  (n:Nat) (h:I n s) :
  adA (abe prog w) A (.compLoop (.ListComp Q8 [⟨Qm,iter,QS,0⟩] scope pos) 0 it PZ env) R s:=by
 refine codeAny_loop rfl I (λn s hI=>?_) n h
 show wpAny _ A ((compTurn (.ListComp Q8 [⟨Qm,iter,QS,0⟩] scope pos) 0 it PZ env).onRaise (λx=>do noteFrame x env; theTreesLotGoes x)) _ _ s
 refine wpAny_noted ?_
 rw [compTurn_list]
 refine aag (ado (aag (abU (turn n s hI) (λr P0 h₁=>?_) λ_ _ h'=>h')))
 cases r with
 | none=>exact abb h₁
 | some v =>
  refine aag (abU h₁ (λ_ RC WO=>?_) λ_ _ h'=>h')
  refine aag (abU WO (λ_ Qo PM=>aag (abU PM (λok Qu P2=>?_) λ_ _ h'=>h')) λ_ _ h'=>h')
  cases ok with
  | false=>exact abb ⟨rfl,P2⟩
  | true =>
   exact aag (aag (abU P2 (λx Rv QN=>aag (abU QN (λ_ SP Qv=>abb (abb ⟨rfl,Qv⟩)) λ_ _ h'=>h')) λ_ _ h'=>h'))
end
section
variable (α:bC)
def CL (news:aO)(φ:bk)(tgts:List Str)(mC:Str->Option aac)(ρ:aG):Prop:=
 ∀(i:Nat) (x:Str) (V:MV),tgts[i]?=some x->ρ[i]?=some (some V)->∃v,mC x=some v/\RV α.hB news φ V v
def cY (sc:abM)(tgts:List Str)(P8:Expr)(T:TG):Prop:=
 ∀(A:abw) (h₀:Heap) (env:Env),A.handled=none->α.hB.StaysIn h₀->env.scope=sc->sc.kind=.function->∀(s:aal) L m st φ news mC ρ V v,Sn α h₀ L m s.heap st φ news->s.heap.Ns env.locals mC->CL α news φ tgts mC ρ->RV α.hB news φ V v->∀K Qc E,T V ρ K ->
  (∀Rq h' PV QR,afq env.locals s.heap h'->h'.Ns env.locals QR->CL α news φ tgts QR Rq->(∀i,tgts.length<=i->Rq[i]?=ρ[i]?)->K Rq->Qc () { s with heap:=h',toks:=PV }) ->
  wpAny (abe α.prog α.w) A (afB P8 env v) Qc E s
def dv (ℓ:Nat)(sc:abM)(slots:List Str)(QS:List Expr)(T:TB):Prop:=
 ∀A h₀ L env,Cf α ℓ A h₀ L->Ce sc env->∀s m st φ news ρ,Sn α h₀ L m s.heap st φ news->Lc α slots env L m news φ ρ->∀Q Qc E,T ρ st Q->nY α h₀ L m s φ news Q Qc ->
  wpAny (abe α.prog α.w) A (forIn QS true λc r=>if r=true then do let ok <- isTrue c env (eval c env); pure (ach ok) else pure (ach r)) Qc E s
end
section
variable {α:bC}{ℓ:Nat}{sc:abM}{slots tgts:List Str}
def d3:TB:=λ_ st Q=>Q true st
theorem eV:dv α ℓ sc slots [] d3:=λA h₀ L env C D s m st φ news ρ S Lo Q Qc E t P=>wpAny_tests_nil (P.now S t s.toks)
theorem iz {c:Expr}{T:TB}(h:aJ α ℓ sc slots c T):dv α ℓ sc slots [c] T:=λA h₀ L env C D s m st φ news ρ S Lo Q Qc E t P=>wpAny_tests_one (h A h₀ L env C D s m st φ news ρ S Lo Q Qc E t P)
set_option tactic.hygienic true in
theorem CL.set {news:aO}{φ:bk}{mC:Str->Option aac}{ρ:aG}{i:Nat}{x:Str}{V:MV}{v:aac}(h:CL α news φ tgts mC ρ)(nd:tgts.Nodup)(hx:tgts[i]?=some x)(r:RV α.hB news φ V v) :
  CL α news φ tgts (λy=>if y=x then some v else mC y) (ρ.set i (some V)):=by
 intro j y W hj hW
 by_cases hji:j=i
 ·subst hji
  rw [hx] at hj
  obtain rfl:=abl hj
  have:W=V:=by
   rw [aiu] at hW
   split at hW
   ·split at hW
    ·simpa using hW.symm
    ·cases hW
   ·rename_i q; exact absurd rfl q
  subst this
  exact⟨v,by simp,r⟩
 ·rw [abh (aef hji)] at hW
  obtain⟨w,h1,h2⟩:=h j y W hj hW
  refine⟨w,?_,h2⟩
  have:y≠x:=λe=>by
   subst e
   exact hji ((aiv (bP hj).1 nd).mp (hj.trans hx.symm))
  simp only [if_neg this]; exact h1
theorem cY.name {x:Str}{p:Pos}{i:Nat}(nd:tgts.Nodup)(hx:tgts[i]?=some x)(hl:sc.names.lookup x=some .local):cY α sc tgts (.Name x p) (b8 i):=by
 intro A h₀ env hh hB Te hk s L m st φ news mC ρ V v S hn hC r K Qc E t P
 refine ab4 (adu (env:=env) (by unfold acd; rw [Te]; exact hl) hn (λh' Xd UP=>?_) (by rw [Te,hk]; rfl))
 refine P (ρ.set i (some V)) h' _ _ UP.extBut Xd (hC.set nd hx r) (λj hj=>?_) t
 exact abh (abf (abJ (bP hx).1 hj))
theorem NY {X:Type}{l:List X}{G:Prop}(h:l.length=2)(k:∀a b,l=[a,b]->G):G:=by
 cases l with
 | nil=>cases h
 | cons a l=>cases l with
  | nil=>cases h
  | cons b l=>cases l with
   | nil=>exact k a b rfl
   | cons _ _=>cases h
theorem xY {x y:Str}{px py p:Pos}{k i j:Nat}(nd:tgts.Nodup)(hx:tgts[i]?=some x)(hy:tgts[j]?=some y)(hl:sc.names.lookup x=some .local)(Tb:sc.names.lookup y=some .local) :
  cY α sc tgts (.Tuple [.Name x px,.Name y py] k p) (iq [i,j]):=by
 intro A h₀ env hh hB Te hk s L m st φ news mC ρ V v S hn hC r K Qc E t P
 apply r.oT t; intro Vs a its hh' q t
 refine NY t.1 λacW ac7 e=>?_
 subst e
 replace t:=t.2
 have RL:=q.length
 refine agv hh (S.isTup hB hh') (by rw [<- abm,RL]; rfl) rfl λh₁ he=>?_
 have n1:=hn.at' λo e=>he _ o (abf (abn e)) e
 generalize its.toList=vs at q
 apply bg.c q; intro _ _ r1 q
 apply bg.c q; intro _ _ r2 q
 cases q
 have kx:env.kindOf x=some .local:=by unfold acd; rw [Te]; exact hl
 have ky:env.kindOf y=some .local:=by unfold acd; rw [Te]; exact Tb
 refine adP (ab4 (adu (env:=env) kx n1 (λPM n2 s2=>?_) (by rw [Te,hk]; rfl)))
 refine adP (ab4 (adu (env:=env) ky n2 (λP2 n3 s3=>?_) (by rw [Te,hk]; rfl)))
 refine afC (P _ P2 _ _ (λb o hb e=>s3.extBut b o hb (s2.extBut b o hb (he b o (abf (abn e)) e))) n3 ((hC.set nd hx r1).set nd hy r2) (λl hl=>?_) t)
 show ((ρ.set i (some acW)).set j (some ac7))[l]?=_
 rw [abh (abf (abJ (bP hy).1 hl)),abh (abf (abJ (bP hx).1 hl))]
end
end
section
open PyProof.Rows.LCg
noncomputable def fq (G:MS->Prop)(tg:TG)(c:TB)(e:TE):List MV->aG->List MV->MS->(List MV->MS->Prop)->Prop
 | [],_,ys,st,Q=>G st/\Q ys st
 | x::xs,ρ,ys,st,Q=>G st/\tg x ρ λP9=>c P9 st λb Pt=>if b then e P9 Pt λV Pz=>fq G tg c e xs P9 (ys++[V]) Pz Q else fq G tg c e xs P9 ys Pt Q
section
variable {α:bC}{ℓ:Nat}{sc scope:abM}{slots tgts cn:List Str}{h₀ h h':Heap}{L:Addr}{m:Str->Option aac}{st:MS}{φ PG:bk}{o o' news Pu:aO}{env:Env}{X:List Addr}{P8:Expr}
def oK (φ:bk)(cl:List (Str×Addr))(news:aO)(nT:Nat)(cn:List Str)(ρ:aG):Prop:=
 ∀(i:Nat) (x:Str) (V:MV),cn[i]?=some x->ρ[nT+i]?=some (some V)->∃v c o,cl.lookup x=some c/\c≠α.tab/\c ∉ bq φ/\(c,o)∈news/\o.data=.cell (some v)/\RV α.hB news φ V v
theorem oK.grow {cl:List (Str×Addr)}{nT:Nat}{ρ:aG}(h:oK (α:=α) φ cl news nT cn ρ)(g:a9 [α.tab] φ news PG Pu):oK (α:=α) PG cl Pu nT cn ρ:=λi x V hx hV=>by
 refine bv λGG PD=>?_
 obtain⟨v,c,o,h1,h2,h3,h4,h5,h6⟩:=h i x V hx hV
 refine PD ?_
 exact⟨v,c,o,h1,h2,λq=>h3 (g.fresh _ h4 q),g.kept _ h4 h3 (by simpa using h2),h5,h6.mono g⟩
theorem CL.grow {mC:Str->Option aac}{ρ:aG}(h:CL α news φ tgts mC ρ)(g:a9 [α.tab] φ news PG Pu):CL α Pu PG tgts mC ρ:=λi x V hx hV =>
 let ⟨v,h1,h2⟩:=h i x V hx hV; ⟨v,h1,h2.mono g⟩
set_option tactic.hygienic true in
theorem LT {cl:List (Str×Addr)}{C:Addr}{z:Obj}{mC:Str->Option aac}{ρ:aG}(hk:∀x∈tgts,(ad0 scope env).names.lookup x=some .local)(hc:∀x∈cn,(ad0 scope env).names.lookup x=some .cell)
  (h1:CL α news φ tgts mC ρ) (h2:oK (α:=α) φ cl news tgts.length cn ρ) (hz:NsObj z mC) (hm:(C,z)∈news) (hC:C≠α.tab) (hf:C ∉ bq φ):Lc α (tgts++cn) (adw scope cl C env) L m news φ ρ:=by
 intro i x V hx hV
 rw [ahF] at hx
 split at hx
 ·obtain⟨v,e,r⟩:=h1 i x V hx hV
  obtain⟨es,ep,hd,hs,hn⟩:=hz
  exact⟨v,.ns (hk x (abk hx)) hC hf z es ep hm ⟨hd,hs,(hn x).trans e⟩,r⟩
 ·rename_i hi
  have e:tgts.length+(i - tgts.length)=i:=Nat.add_sub_cancel' (Nat.le_of_not_lt hi)
  refine bv λGG PD=>?_
  obtain⟨v,c,o,a1,a2,a3,a4,a5,a6⟩:=h2 (i - tgts.length) x V hx (by rw [e]; exact hV)
  refine PD ?_
  exact⟨v,.cell (hc x (abk hx)) c o a1 a2 a3 a4 a5,a6⟩
noncomputable abbrev oD (C D:Addr)(oI:aO)(z od:Obj):aO:=oI++[(C,z),(D,od)]
noncomputable abbrev oT (C D:Addr)(oI:aO)(z:Obj)(its:Array aac)(n:Nat):aO:=oD C D oI z (bV its n)
def G2 (od:Obj):Prop:=(∀its,od≠bA its)/\(∀ps,od≠adn ps)/\¬qD od
theorem CN {its:Array aac}{n:Nat}:G2 (bV its n):=qj (p:=(aee,bV its n)) (c:="list") rfl (by decide)
theorem JX {C D:Addr}{oI:aO}{z od:Obj}{mC:Str->Option aac}(h:Pl oI)(hz:NsObj z mC)(hd:G2 od):Pl (oD C D oI z od):=λp hp=>by
 rcases dU hp with hp | hp
 ·exact h p hp
 ·rcases bN hp with rfl | hp
  ·obtain⟨es,ep,hd,_⟩:=hz; exact lb hd
  ·rw [cq hp]; exact hd
theorem pa {C D:Addr}{oI Sp:aO}{z z' od QZ:Obj}(h:Sp.map (·.1)=oI.map (·.1)):(oD C D Sp z' QZ).map (·.1)=(oD C D oI z od).map (·.1):=by
 rw [abE,abE,h]; rfl
theorem Sn.turnO (S:Sn α h₀ L m h st φ (o++news))(pl:Pl o)(hf:∀p∈o,p.1 ∉ bq φ)(hk:∀b z,b ∉ o.map (·.1)->h.get? b=some z->h'.get? b=some z)
  (ho:∀p∈o',h'.get? p.1=some p.2) (hs:o'.map (·.1)=o.map (·.1)):Sn α h₀ L m h' st φ (o'++news):=
 S.own pl hf hk ho (by
  have:=S.W.nodup
  rw [abE,abR] at this
  rw [hs]; exact this.1) λp hp=>hs ▸ ew ⟨p,hp,rfl⟩
theorem IW {o o':aO}{φ:bk}(hk:o'.map (·.1)=o.map (·.1))(h:∀p∈o,p.1 ∉ bq φ):∀p∈o',p.1 ∉ bq φ:=λp hp=>by
 have:p.1∈o.map (·.1):=hk ▸ ew ⟨p,hp,rfl⟩
 obtain⟨q,hq,e⟩:=c9 this
 exact e ▸ h q hq
structure CS (α:bC)(h₀:Heap)(L:Addr)(m:Str->Option aac)(tgts cn:List Str)(cl:List (Str×Addr))(C D:Addr)(oI:aO)(z od:Obj)(mC:Str->Option aac)(st:MS)(φ:bk)(r:aO)(ρ:aG)(h:Heap):Prop where
 S:Sn α h₀ L m h st φ (oD C D oI z od++r)
 pl:Pl oI
 po:G2 od
 off:∀p∈oD C D oI z od,p.1 ∉ bq φ
 ns:NsObj z mC
 nm:CL α r φ tgts mC ρ
 ca:oK (α:=α) φ cl r tgts.length cn ρ
section
variable {cl:List (Str×Addr)}{C D:Addr}{oI Sp:aO}{z od QZ:Obj}{mC QR:Str->Option aac}{r n:aO}{ρ Rq:aG}{G:Prop}
theorem Fa:(C,z)∈oD C D oI z od:=aba _ (.head _)
theorem Kc:(D,od)∈oD C D oI z od:=aba _ (.tail _ (.head _))
theorem CS.plO (X:CS α h₀ L m tgts cn cl C D oI z od mC st φ r ρ h):Pl (oD C D oI z od):=JX X.pl X.ns X.po
theorem CS.tab (X:CS α h₀ L m tgts cn cl C D oI z od mC st φ r ρ h):α.tab ∉ (oD C D oI z od).map (·.1):=λhq=>by
 obtain⟨q,hq,e⟩:=c9 hq
 obtain⟨ps,Sv,_⟩:=X.S.W.tabs
 exact X.plO.noTab q hq ps (eH X.S.W.nodup (a:=q.1) (aa8 _ hq) ((show q.1=α.tab from e) ▸ Sv))
theorem CS.tabs (X:CS α h₀ L m tgts cn cl C D oI z od mC st φ r ρ h)(hk:o.map (·.1)=(oD C D oI z od).map (·.1)):∀p∈o,p.1 ∉ [α.tab]:=λp hp hq =>
 X.tab (hk ▸ ew ⟨p,hp,cq hq⟩)
theorem CS.nds (X:CS α h₀ L m tgts cn cl C D oI z od mC st φ r ρ h):(∀p∈oI,p.1≠C/\p.1≠D)/\D≠C:=by
 have nd:=X.S.W.nodup
 rw [abE,abR,abE,abR] at nd
 exact⟨λp hp=>⟨nd.1.2.2 _ (ew ⟨p,hp,rfl⟩) C (.head _),nd.1.2.2 _ (ew ⟨p,hp,rfl⟩) D (.tail _ (.head _))⟩,λe=>(abY.mp nd.1.2.1).1 (e ▸ .head _)⟩
theorem CS.after (X:CS α h₀ L m tgts cn cl C D oI z od mC st φ r ρ h){Ps:MS}(S':Sn α h₀ L m h' Ps PG n)(g:a9 [α.tab] φ (oD C D oI z od++r) PG n)
  (k:∀r',CS α h₀ L m tgts cn cl C D oI z od mC Ps PG r' ρ h'->a9 [α.tab] φ r PG r'->(∀a its,(a,bA its)∈n->(a,bA its)∈r')->G):G:=
 let ⟨Pv,Py,XN,Pw⟩:=S'.split g X.plO X.S.W.nodup X.off (X.tabs rfl)
 k _ ⟨Pv,X.pl,X.po,XN,X.ns,X.nm.grow Py,X.ca.grow Py⟩ Py Pw
theorem CS.item (X:CS α h₀ L m tgts cn cl C D oI z od mC st φ r ρ h)(S':Sn α h₀ L m h' st φ (Sp++n))(sub:∀p∈[(C,z),(D,od)]++r,p∈n)(hk:Sp.map (·.1)=oI.map (·.1))(pl:Pl Sp)
  (k:∀r',CS α h₀ L m tgts cn cl C D Sp z od mC st φ r' ρ h'->a9 [α.tab] φ r φ r'->(∀a its,(a,bA its)∈n->(a,bA its)∈r')->G):G:=by
 have ZE:(oD C D Sp z od).map (·.1)=(oD C D oI z od).map (·.1):=pa hk
 have nd:(((oD C D Sp z od)++r).map (·.1)).Nodup:=by
  have:=X.S.W.nodup
  rw [abE] at this ⊢
  rw [ZE]; exact this
 have ga:a9 [α.tab] φ (oD C D Sp z od++r) φ (Sp++n):=.led λp hp=>by
  rw [abO] at hp
  exact (dU hp).elim (aa8 _) λhp=>aba _ (sub p hp)
 obtain⟨Pv,Py,XN,Pw⟩:=S'.split ga (JX pl X.ns X.po) nd (IW ZE X.off) (X.tabs ZE)
 exact k _ ⟨Pv,pl,X.po,XN,X.ns,X.nm.grow Py,X.ca.grow Py⟩ Py λa its hm=>Pw a its (aba _ hm)
theorem CS.turnC (X:CS α h₀ L m tgts cn cl C D oI z od mC st φ r ρ h)(hx:afq C h h')(hn:h'.Ns C QR)(ZT:CL α (oD C D oI z od++r) φ tgts QR Rq)(hρ:∀i,tgts.length<=i->Rq[i]?=ρ[i]?)
  (k:∀z',CS α h₀ L m tgts cn cl C D oI z' od QR st φ r Rq h'->G):G:=by
 obtain⟨z',hz,Rx⟩:=ns_obj hn
 refine k z' ⟨X.S.turnO X.plO X.off (λb y hb e=>hx b y (λq=>hb ((show b=C from q) ▸ ew ⟨_,Fa,rfl⟩)) e) (λp hp=>?_) (pa rfl),X.pl,X.po,IW (pa rfl) X.off,Rx,λj y V hj hV=>?_,λj y V hj hV=>X.ca j y V hj (by rw [<- hρ _ (adm _ _)]; exact hV)⟩
 ·rcases dU hp with hp | hp
  ·exact hx _ _ (X.nds.1 p hp).1 (X.S.N.get (a:=p.1) (o:=p.2) (aa8 _ (aa8 _ hp)))
  ·rcases bN hp with rfl | hp
   ·exact hz
   ·rw [cq hp]
    exact hx _ _ X.nds.2 (X.S.N.get (aa8 _ Kc))
 ·obtain⟨w,e,q⟩:=ZT j y V hj hV
  exact⟨w,e,RV.mono' (aaj _) (λa its hm=>(dU hm).elim (λhm=>absurd rfl (X.plO.noT _ hm its)) id) q⟩
theorem CS.turnD (X:CS α h₀ L m tgts cn cl C D oI z od mC st φ r ρ h)(hx:afq D h h')(hd:h'.get? D=some QZ)(po:G2 QZ):CS α h₀ L m tgts cn cl C D oI z QZ mC st φ r ρ h':=
 ⟨X.S.turnO X.plO X.off (λb y hb e=>hx b y (λq=>hb ((show b=D from q) ▸ ew ⟨_,Kc,rfl⟩)) e) (λp hp=>by
  rcases dU hp with hp | hp
  ·exact hx _ _ (X.nds.1 p hp).2 (X.S.N.get (a:=p.1) (o:=p.2) (aa8 _ (aa8 _ hp)))
  ·rcases bN hp with rfl | hp
   ·exact hx _ _ X.nds.2.symm (X.S.N.get (aa8 _ Fa))
   ·rw [cq hp]; exact hd) (pa rfl),X.pl,po,IW (pa rfl) X.off,X.ns,X.nm,X.ca⟩
theorem CS.lc (X:CS α h₀ L m tgts cn cl C D oI z od mC st φ r ρ h)(hk:∀x∈tgts,(ad0 scope env).names.lookup x=some .local)(hc:∀x∈cn,(ad0 scope env).names.lookup x=some .cell) :
  Lc α (tgts++cn) (adw scope cl C env) L m (oD C D oI z od++r) φ ρ:=
 have gl:a9 [α.tab] φ r φ (oD C D oI z od++r):=.led λp hp=>aba _ hp
 LT hk hc (X.nm.grow gl) (X.ca.grow gl) X.ns (aa8 _ Fa) (λe=>X.tab (e ▸ ew ⟨_,Fa,rfl⟩)) (X.off _ Fa)
def JL (α:bC)(h₀:Heap)(L:Addr)(m:Str->Option aac)(tgts cn:List Str)(cl:List (Str×Addr))(C D:Addr)(s:aal)(φ:bk)(news:aO)(own:Nat->aO->Prop)(N:Nat)(T:Nat->aG->bk->aO->Obj->MS->Prop)(k:Nat)(s':aal):Prop:=
 ∀P:Nat->aal->Prop,(∀i oI z od mC Ps PG r ρ h tk,i<=N->CS α h₀ L m tgts cn cl C D oI z od mC Ps PG r ρ h->own i oI->a9 [α.tab] φ news PG r->T i ρ PG r od Ps->P (N+1 - i) { s with heap:=h,toks:=tk })->P k s'
end
theorem zb {A:abw}{cl:List (Str×Addr)}{C D I:Addr}{s:aal}{xs:List MV}{G:MS->Prop}{keys:List Addr}{own:Nat->aO->Prop}{oI:aO}{z od:Obj}{mC:Str->Option aac}{r:aO}{ρ:aG}{Uj:bk}{i tk:Nat}
  {tg:TG} {Kt:aG->Prop} {K:aal->Prop} {Kn:Option aac->aal->Prop} {E:aac->aal->Prop}
  (Cx:Cf α ℓ A h₀ L) (Dx:Ce sc env) (W:qX α A h₀ L Uj P8 I xs G keys own) (Qr:scope.kind=.function) (ht:cY α (gm sc scope) tgts P8 tg)
  (X:CS α h₀ L m tgts cn cl C D oI z od mC st φ r ρ h) (Qx:own i oI) (pre:Uj <+: φ) (hG:G st) (hx:i < xs.length) (t:tg xs[i] ρ Kt)
  (hn:∀v P0,wpAny (abe α.prog α.w) A (ab8 P8 (.ref I) v) (λ_ Qo=>wpAny (abe α.prog α.w) A (afB P8 (adw scope cl C env) v) (λ_ Qu=>K Qu) E Qo) E P0->Kn (some v) P0)
  (k:∀Sp z' QR r' Rq h' PV,own (i+1) Sp->CS α h₀ L m tgts cn cl C D Sp z' od QR st φ r' Rq h'->a9 [α.tab] φ r φ r'->Kt Rq->K { s with heap:=h',toks:=PV }) :
  wpAny (abe α.prog α.w) A (afD (.ref I)) Kn E { s with heap:=h,toks:=tk }:=by
 refine abU (W.item i _ (abc hx) { s with heap:=h,toks:=tk } m st φ oI ([(C,z),(D,od)]++r) (λv RC=>wpAny (abe α.prog α.w) A (afB P8 (adw scope cl C env) v) (λ_ Qu=>K Qu) E RC) E (by rw [<- abO]; exact X.S) hG Qx pre (λp hp=>X.off p (aa8 _ hp)) λv P2 P7 aav Qs P3 VJ Rb rv=>?_) (λr P0 hr=>?_) λ_ _ e=>e
 ·refine X.item P3 VJ ((W.keys _ _ Rb).trans (W.keys _ _ Qx).symm) (W.pl _ _ Rb) λXk VN Rm Y8=>?_
  refine ht A h₀ (adw scope cl C env) Cx.hand Cx.stays (sR scope Dx) Qr { s with heap:=P2,toks:=P7 } L m st φ (oD C D aav z od++Xk) mC ρ _ v VN.S (VN.ns.ns (VN.S.N.get (aa8 _ Fa))) (VN.nm.grow (.led λp hp=>aba _ hp))
   (RV.mono' (aaj _) (λa its hm=>aba _ (Y8 a its hm)) rv) _ _ _ t λQ0 Qv RJ Ul aa4 aa6 Z2 YI Rg=>VN.turnC aa4 aa6 Z2 YI λVp RN=>k _ _ _ _ _ _ _ Rb RN Rm Rg
 ·obtain⟨v,rfl,q⟩:=hr
  exact hn v P0 q
theorem Ha {A:abw}{Q8 iter:Expr}{QS:List Expr}{pos:Pos}{cl:List (Str×Addr)}{s:aal}{I C D:Addr}{xs:List MV}{G:MS->Prop}{keys:List Addr}{own:Nat->aO->Prop}{oI:aO}{z:Obj}{mC:Str->Option aac}{ρ:aG}
  {tg:TG} {tc:TB} {te:TE} {R:afZ->aal->Prop} {Q:List MV->MS->Prop}
  (Cx:Cf α ℓ A h₀ L) (Dx:Ce sc env) (W:qX α A h₀ L φ P8 I xs G keys own) (PL:xs.length<=abD)
  (hk:∀x∈tgts,(ad0 scope env).names.lookup x=some .local) (hc:∀x∈cn,(ad0 scope env).names.lookup x=some .cell) (Qr:scope.kind=.function)
  (ht:cY α (gm sc scope) tgts P8 tg) (YJ:dv α ℓ (gm sc scope) (tgts++cn) QS tc) (he:aa α ℓ (gm sc scope) (tgts++cn) Q8 te)
  (S:Sn α h₀ L m s.heap st φ (oT C D oI z #[] 0++news)) (Qx:own 0 oI) (hf:∀p∈oT C D oI z #[] 0,p.1 ∉ bq φ) (hz:NsObj z mC) (h1:CL α news φ tgts mC ρ) (h2:oK (α:=α) φ cl news tgts.length cn ρ)
  (t:fq G tg tc te xs ρ [] st Q)
  (P:∀ys Ps PG Pu z' its n h' PV QR,Sn α h₀ L m h' Ps PG ([(C,z'),(D,bV its n)]++Pu)->NsObj z' QR->a9 [α.tab] φ news PG Pu->(∀p∈[(C,z'),(D,bV its n)],p.1 ∉ bq PG)->bg α.hB Pu PG ys its.toList->Q ys Ps->R (.ok .next) { s with heap:=h',toks:=PV }) :
  adA (abe α.prog α.w) A (.compLoop (.ListComp Q8 [⟨P8,iter,QS,0⟩] scope pos) 0 (.ref I) (.ref D) (adw scope cl C env)) R s:=by
 have Dc:Ce (gm sc scope) (adw scope cl C env):=⟨sR scope Dx,Qr,Dx.glob,Dx.bul⟩
 refine rR (JL α h₀ L m tgts cn cl C D s φ news own xs.length λi ρ φ r od st=>∀G₀:Prop,(∀ys its n,od=bV its n->bg α.hB r φ ys its.toList->its.size<=i->fq G tg tc te (xs.drop i) ρ ys st Q->G₀)->G₀) ?_ (xs.length+1)
  (λ_ k=>k 0 oI z _ mC st φ news ρ s.heap s.toks (abS _) ⟨S,W.pl _ _ Qx,CN,hf,hz,h1,h2⟩ Qx .refl λ_ k=>k [] #[] 0 rfl .nil (abt _) t)
 intro k s' hI
 apply hI; intro i oI z od mC Pz PE P5 Qk PM PN hi X Ra PH tt
 refine tt _ λys its n eo VU hsz PU=>?_
 subst eo
 generalize (aeL (abe α.prog α.w) A (adw scope cl C env) λe s'=>R (.error e) s')=E
 rcases aiz i xs.length with PR | Rr
 ·rw [acb PR] at PU
  refine zb (K:=λQo=>wpAny (abe α.prog α.w) A (forIn QS true λc r=>if r=true then do let ok <- isTrue c (adw scope cl C env) (eval c (adw scope cl C env)); pure (ach ok) else pure (ach r)) _ E Qo) Cx Dx W Qr ht X Ra PH.pre PU.1 PR PU.2 (λv P0 q=>q) λUX Vp Ul VQ Q0 Qv RJ UE RN SO Rg=>?_
  refine YJ A h₀ L (adw scope cl C env) Cx Dc _ m Pz PE _ Q0 RN.S (RN.lc hk hc) _ _ _ Rg λb aau aaP afi Q3 ae3 U3 Su Y4=>RN.after U3 Su λaff WB acv _=>?_
  have Zu:=SO.trans acv
  have QK:∀Ps PG r' QZ h' PV,CS α h₀ L m tgts cn cl C D UX Vp QZ Ul Ps PG r' Q0 h'->a9 [α.tab] PE P5 PG r'->(∀G₀:Prop,(∀ys its n,QZ=bV its n->bg α.hB r' PG ys its.toList->its.size<=i+1->fq G tg tc te (xs.drop (i+1)) Q0 ys Ps Q->G₀)->G₀)->∃m',m' < xs.length+1 - i/\JL α h₀ L m tgts cn cl C D s φ news own xs.length (λi ρ φ r od st=>∀G₀:Prop,(∀ys its n,od=bV its n->bg α.hB r φ ys its.toList->its.size<=i->fq G tg tc te (xs.drop i) ρ ys st Q->G₀)->G₀) m' { s with heap:=h',toks:=PV }:=
   λPs PG r' QZ h' PV X' g' t'=>⟨xs.length+1 - (i+1),aeQ (abN PR) (aby i),λ_ k=>k (i+1) UX Vp QZ Ul Ps PG r' Q0 h' PV PR X' UE (PH.trans g') t'⟩
  cases b with
  | false=>exact QK _ _ _ _ _ _ WB Zu λ_ k=>k ys its n rfl (VU.mono Zu) (agI hsz) Y4
  | true =>
   refine he A h₀ L (adw scope cl C env) Cx Dc _ m aau aaP _ Q0 WB.S (WB.lc hk hc) _ _ _ Y4 λV Yq Yj acy u U5 Tn VE Xz XI Xh=>WB.after VE Xz λZ6 Vu Vz Vo=>?_
   refine append_at (s:={ s with heap:=U5,toks:=Tn }) (hsz:=aan hsz (aan hi PL)) (Vu.S.N.get (aa8 _ Kc)) λUz TY Ty=>?_
   have g49:=Zu.trans Vz
   exact QK _ _ _ _ _ _ (Vu.turnD TY.extBut Ty CN) g49 λ_ k=>k (ys++[V]) (its.push u) (n+1) rfl (by rw [aex]; exact (VU.mono g49).append (.cons (RV.mono' (aaj _) Vo XI) .nil)) (by rw [Array.size_push]; exact Nat.succ_le_succ hsz) Xh
 ·obtain rfl:i=xs.length:=agc hi Rr
  rw [agZ] at PU
  exact W.done _ m Pz PE oI _ _ _ (by rw [<- abO]; exact X.S) PU.1 Ra PH.pre (λp hp=>X.off p (aa8 _ hp)) λP2 P7 P3=>P ys Pz PE P5 z its n P2 P7 mC P3 X.ns PH (λp hp=>X.off p (aba _ hp)) VU PU.2
end
end
section
open PyProof.Rows.LCg
section
variable {α:bC}{ℓ:Nat}{sc scope:abM}{slots tgts cn:List Str}{h₀ h h':Heap}{L:Addr}{m:Str->Option aac}{st:MS}{φ PG:bk}{o o' news Pu:aO}{env:Env}{X:List Addr}{P8:Expr}
theorem wP {A:abw}{Q8 iter:Expr}{QS:List Expr}{pos:Pos}{cl:List (Str×Addr)}{s:aal}{I:Addr}{xs:List MV}{G:MS->Prop}{keys:List Addr}{own:Nat->aO->Prop}{oI:aO}{ρ:aG}
  {tg:TG} {tc:TB} {te:TE} {RR:aac->Addr->afZ->aal->Prop} {Q:List MV->MS->Prop} {E:aac->aal->Prop}
  (Cx:Cf α ℓ A h₀ L) (Dx:Ce sc env) (W:qX α A h₀ L φ P8 I xs G keys own) (PL:xs.length<=abD)
  (hk:∀x∈tgts,(ad0 scope env).names.lookup x=some .local) (hc:∀x∈cn,(ad0 scope env).names.lookup x=some .cell) (Qr:scope.kind=.function) (QC:∀y∈scope.names,y.2≠.cell)
  (ht:cY α (gm sc scope) tgts P8 tg) (YJ:dv α ℓ (gm sc scope) (tgts++cn) QS tc) (he:aa α ℓ (gm sc scope) (tgts++cn) Q8 te)
  (S:Sn α h₀ L m s.heap st φ (oI++news)) (Qx:own 0 oI) (hf:∀p∈oI,p.1 ∉ bq φ) (h1:∀i,i < tgts.length->ρ[i]?=some none) (h2:oK (α:=α) φ cl news tgts.length cn ρ)
  (t:fq G tg tc te xs ρ [] st Q)
  (P:∀D C ys Ps PG Pu z' its n h' PV QR,Sn α h₀ L m h' Ps PG ([(C,z'),(D,bV its n)]++Pu)->NsObj z' QR->a9 [α.tab] φ news PG Pu->(∀p∈[(C,z'),(D,bV its n)],p.1 ∉ bq PG)->(∀p∈news,p.1≠C)->bg α.hB Pu PG ys its.toList->Q ys Ps ->
   RR (.ref D) C (.ok .next) { s with heap:=h',toks:=PV }) :
  wpAny (abe α.prog α.w) A (newList []) (λPZ Qu=>wpAny (abe α.prog α.w) A (newFunctionEnv scope env.globals cl [] env.qual none .none (some env)) (λVy Rv =>
   adA (abe α.prog α.w) A (.compStart (.ListComp Q8 [⟨P8,iter,QS,0⟩] scope pos) 0 (.ref I) PZ { Vy with scope:=ad0 scope env }) (RR PZ Vy.locals) Rv) E Qu) E s:=by
 refine ad1 (ahH QC (by intro y hy; simp at hy) (λh₁ RX Ry=>?_) Qr)
 dsimp only at RX Ry ⊢
 generalize hH2:s.heap.push { cls:=.type "list",dict:=none,data:=.seq ([]:List aac).toArray }=H2 at RX Ry ⊢
 have hC:H2.objs.size=s.heap.objs.size+1:=by rw [<- hH2,adO]
 refine bv λGG PD=>?_
 obtain⟨n1,n2⟩:=S.nextNone
 have hDC:s.heap.objs.size≠H2.objs.size:=by rw [hC]; exact abf (aby _)
 have Xe:∀b o,s.heap.get? b=some o->H2.get? b=some o:=λb o e=>hH2 ▸ aao _ e
 have hD2:H2.get? s.heap.objs.size=some (bV #[] 0):=by rw [<- hH2]; exact abC _ rfl
 have Qp:∀b o,s.heap.get? b=some o->h₁.get? b=some o:=λb o e=>Ry.extBut b o (by rw [hC]; exact abf (abN (abn e))) (aao _ (Xe b o e))
 obtain⟨z,hz,Rx⟩:=ns_obj RX
 obtain⟨Sd,VD⟩:=S.new1 (h':=H2) n1 n2 hD2 Xe
 obtain⟨m1,m2⟩:=Sd.nextNone
 obtain⟨Sc,Zs⟩:=Sd.new1 (h':=h₁) (I:=H2.objs.size) (z:=z) m1 m2 hz λb o e=>Ry.extBut b o (abf (abn e)) (aao _ e)
 refine PD ?_
 have XE:∀p∈news,p.1≠H2.objs.size:=λp hp e=>by
  have:=(Sd.N p (aba _ (aba _ hp))).1
  rw [e,m1] at this; cases this
 have Pv:Sn α h₀ L m h₁ st φ (oT H2.objs.size s.heap.objs.size oI z #[] 0++news):=by
  refine Sc.same ?_ (λp hp=>?_) (λp hp=>?_)
  ·have:=Sc.W.nodup
   simp only [abE,abj,abO,add,abA] at this ⊢
   have q:(oI.map (·.1)++H2.objs.size::s.heap.objs.size::news.map (·.1)).Perm (H2.objs.size::s.heap.objs.size::(oI.map (·.1)++news.map (·.1))):=by
    refine af0.trans (.cons _ af0)
   exact q.nodup_iff.mpr this
  ·simp only [adV,abB,abx,or_false] at hp ⊢
   rcases hp with hp | hp | hp | hp
   ·exact .inl (.inr (.inl hp))
   ·exact .inl (.inr (.inr hp))
   ·exact .inl (.inl hp)
   ·exact .inr hp
  ·simp only [adV,abB,abx,or_false] at hp ⊢
   rcases hp with (hp | hp | hp) | hp
   ·exact .inr (.inr (.inl hp))
   ·exact .inl hp
   ·exact .inr (.inl hp)
   ·exact .inr (.inr (.inr hp))
 have Tq:∀p∈oT H2.objs.size s.heap.objs.size oI z #[] 0,p.1 ∉ bq φ:=λp hp=>by
  rcases dU hp with hp | hp
  ·exact hf p hp
  ·rcases bN hp with rfl | hp
   ·exact Zs
   ·rw [cq hp]; exact VD
 have Vk:∀Qu:aal,Qu={ s with heap:=h₁,toks:=s.toks+([]:List (Str×aac)).length } ->
   adA (abe α.prog α.w) A (.compLoop (.ListComp Q8 [⟨P8,iter,QS,0⟩] scope pos) 0 (.ref I) (.ref s.heap.objs.size) (adw scope cl H2.objs.size env))
    (RR (.ref s.heap.objs.size) H2.objs.size) Qu:=by
  rintro Qu rfl
  refine Ha Cx Dx W PL hk hc Qr ht YJ he Pv Qx Tq Rx ?_ h2 t λys Ps PG Pu z' its n h' PV QR S' Q2 g' Sk r' t'=>P _ _ ys Ps PG Pu z' its n h' PV QR S' Q2 g' Sk XE r' t'
  intro i x V hx hV
  rw [h1 i (bP hx).1] at hV
  cases hV
 exact codeAny_compStart_list (Vk _ rfl) (W.self _ m st φ oI ([(H2.objs.size,z),(s.heap.objs.size,bV #[] 0)]++news) _ _ (by rw [<- abO]; exact Pv) Qx (Vk _ rfl))
noncomputable def jv (nT:Nat)(caps:List Nat)(ρ:aG):aG:=abV nT none++caps.map λi=>(ρ[i]?).join
def c7 (nT:Nat)(caps:List Nat)(src:TI)(tg:TG)(c:TB)(e:TE):TE:=λρ st Q=>(caps.all λi=>((ρ[i]?).join).isSome)=true/\src ρ st λxs G Pt=>xs.length<=abD/\fq G tg c e xs (jv nT caps ρ) [] Pt λys Pz=>Q (.ref Pz.length) (Pz++[.list ys])
structure gp (α:bC)(ℓ:Nat)(sc scope:abM)(slots tgts cn:List Str)(caps:List Nat)(P8:Expr)(QS:List Expr)(Q8:Expr)(tg:TG)(tc:TB)(te:TE):Prop where
 capN:caps.map (λi=>slots[i]?)=cn.map some
 kT:(tgts.all λx=>(gm sc scope).names.lookup x == some .local)=true
 kC:(cn.all λx=>(gm sc scope).names.lookup x == some .cell && sc.names.lookup x == some .cell && scope.names.lookup x == some .free)=true
 free:(scope.names.all λp=>p.2 != .free || cn.contains p.1)=true
 kind:scope.kind=.function
 cell:(scope.names.all λp=>p.2 != .cell)=true
 names:(scope.names.all λp=>p.2 != .local || scope.names.lookup p.1 == some .local)=true
 t:cY α (gm sc scope) tgts P8 tg
 ts:dv α ℓ (gm sc scope) (tgts++cn) QS tc
 e:aa α ℓ (gm sc scope) (tgts++cn) Q8 te
section
variable {caps:List Nat}{QS:List Expr}{Q8:Expr}{tg:TG}{tc:TB}{te:TE}
theorem gp.slot (K:gp α ℓ sc scope slots tgts cn caps P8 QS Q8 tg tc te){x:Str}(hx:x∈cn):∃(i j:Nat),cn[i]?=some x/\caps[i]?=some j/\slots[j]?=some x:=by
 obtain⟨i,hi,e⟩:=aeB.mp hx
 have Rf:cn[i]?=some x:=by rw [abc hi,e]
 have R0:(caps.map (λi=>slots[i]?))[i]?=some (some x):=by rw [K.capN,abF,Rf]; rfl
 rw [abF] at R0
 cases hj:caps[i]? with
 | none=>rw [hj] at R0; cases R0
 | some j=>rw [hj] at R0; exact⟨i,j,Rf,hj,abl R0⟩
theorem gp.closure (K:gp α ℓ sc scope slots tgts cn caps P8 QS Q8 tg tc te)(D:Ce sc env){ρ:aG}(Lo:Lc α slots env L m news φ ρ)(hs:(caps.all λi=>((ρ[i]?).join).isSome)=true) :
  ∃cl,agw scope env=pure cl/\∀x∈cn,cl.lookup x=env.cells.lookup x:=by
 have aaf:∀x∈cn,(env.cells.lookup x).isSome:=λx hx=>by
  refine bv λGG PD=>?_
  obtain⟨i,j,h1,h2,h3⟩:=K.slot hx
  have:=iX hs j (abk h2)
  obtain⟨V,hV⟩:=adB.mp this
  have W0:ρ[j]?=some (some V):=by
   cases q:ρ[j]? with
   | none=>rw [q] at hV; cases hV
   | some w=>rw [q] at hV; exact congrArg some hV
  obtain⟨v,hl,r⟩:=Lo j x V h3 W0
  refine PD ?_
  have hk:=iX K.kC _ hx
  simp only [ab2,beq_iff_eq] at hk
  have Qr:env.kindOf x=some .cell:=by unfold acd; rw [D.scope]; exact hk.1.2
  rcases hl with ⟨q,_⟩ | ⟨q,_⟩ | ⟨_,c,o,hc,_⟩
  ·rw [Qr] at q; cases q
  ·rw [Qr] at q; cases q
  ·rw [hc]; rfl
 obtain⟨cl,e,h1,h2⟩:=FP (env:=env) (scope:=scope) (λp hp hk=>by
  have:=iX K.free p hp
  rw [hk] at this
  exact aaf p.1 (by simpa using this))
 refine⟨cl,e,λx hx=>h2 x ?_⟩
 have:=iX K.kC _ hx
 simp only [ab2,beq_iff_eq] at this
 exact dO this.2
theorem gp.capsOk (K:gp α ℓ sc scope slots tgts cn caps P8 QS Q8 tg tc te)(D:Ce sc env){cl:List (Str×Addr)}(Q9:∀x∈cn,cl.lookup x=env.cells.lookup x){ρ:aG}(Lo:Lc α slots env L m news φ ρ) :
  oK (α:=α) φ cl news tgts.length cn (jv tgts.length caps ρ):=by
 intro i x V hx hV
 have R0:(caps.map (λi=>slots[i]?))[i]?=some (some x):=by rw [K.capN,abF,hx]; rfl
 rw [abF] at R0
 cases hj:caps[i]? with
 | none=>rw [hj] at R0; cases R0
 | some j =>
  rw [hj] at R0
  have QG:slots[j]?=some x:=abl R0
  have W0:ρ[j]?=some (some V):=by
   unfold jv at hV
   rw [aeE (by simp),List.length_replicate,afr,abF,hj] at hV
   have Yx:(ρ[j]?).join=some V:=abl hV
   cases q:ρ[j]? with
   | none=>rw [q] at Yx; cases Yx
   | some w=>rw [q] at Yx; exact congrArg some Yx
  obtain⟨v,hl,r⟩:=Lo j x V QG W0
  have hm:x∈cn:=abk hx
  have hk:=iX K.kC _ hm
  simp only [ab2,beq_iff_eq] at hk
  have Qr:env.kindOf x=some .cell:=by unfold acd; rw [D.scope]; exact hk.1.2
  rcases hl with ⟨q,_⟩ | ⟨q,_⟩ | ⟨_,c,o,hc,a1,a2,a3,a4⟩
  ·rw [Qr] at q; cases q
  ·rw [Qr] at q; cases q
  ·exact⟨v,c,o,(Q9 x hm).trans hc,a1,a2,a3,a4,r⟩
theorem Sn.compEnd {C D:Addr}{z:Obj}{its:Array aac}{n:Nat}{mC:Str->Option aac}{ys:List MV}(S:Sn α h₀ L m h st φ ([(C,z),(D,bV its n)]++news))(hz:NsObj z mC)(hf:∀p∈[(C,z),(D,bV its n)],p.1 ∉ bq φ)(hs:adi C h h')(r:bg α.hB news φ ys its.toList) :
  Sn α h₀ L m h' (st++[.list ys]) (φ++[(D,D)]) ((D,bV its n)::news)/\a9 [α.tab] φ news (φ++[(D,D)]) ((D,bV its n)::news):=by
 have nd:=S.W.nodup
 have hCD:C≠D:=λe=>by subst e; simp at nd
 have pl:Pl [(C,z),(D,bV its n)]:=λp hp=>by
  rcases bN hp with rfl | hp
  ·obtain⟨es,ep,hd,_⟩:=hz; exact lb hd
  ·rw [cq hp]; exact qj (c:="list") rfl (by decide)
 have Pv:Sn α h₀ L m h' st φ ([(D,bV its n)]++news):=S.own pl hf (λb y hb e=>hs.extBut b y (λq=>hb (by
   have q':b=C:=q
   rw [q']; exact .head _)) e) (λp hp=>by
   rw [cq hp]
   exact hs.extBut _ _ (aef hCD) (S.N.get (aa8 _ (.tail _ (.head _))))) (by simp) (λp hp=>by rw [cq hp]; exact .tail _ (.head _))
 have hD:D ∉ bq φ:=hf (D,bV its n) (.tail _ (.head _))
 have P6:∀p∈news,p.1≠D:=λp hp e=>by
  have:=Pv.W.nodup
  rw [abE,abR] at this
  exact this.2.2 D (.head _) p.1 (ew ⟨p,hp,rfl⟩) e.symm
 refine⟨⟨Pv.F,Pv.N,Pv.W.alloc hD hD ⟨rfl,its,n,.head _,bg.mono' (abI _ _) (λ_ _ h=>.tail _ h) r⟩⟩,.sub (abI _ _) (λp h=>.tail _ h) λp hp h=>?_⟩
 rcases lI h with h | h | h
 ·exact h
 ·exact absurd h (P6 p hp)
 ·exact absurd h (P6 p hp)
theorem gp.kinds (K:gp α ℓ sc scope slots tgts cn caps P8 QS Q8 tg tc te)(D:Ce sc env):(∀x∈tgts,(ad0 scope env).names.lookup x=some .local)/\(∀x∈cn,(ad0 scope env).names.lookup x=some .cell)/\(∀y∈scope.names,y.2≠.cell)/\(∀y∈scope.names,y.2=.local->scope.names.lookup y.1=some .local):=by
 refine⟨λx hx=>?_,λx hx=>?_,λy hy=>?_,λy hy hl=>?_⟩
 ·rw [sR scope D]; exact eq_of_beq (iX K.kT x hx)
 ·rw [sR scope D]
  have:=iX K.kC x hx
  rw [ab2,ab2] at this
  exact eq_of_beq this.1.1
 ·have:=iX K.cell y hy
  simpa using this
 ·have:=iX K.names y hy
  rw [hl] at this
  simpa using this
theorem nh {i:Nat}{nT:Nat}{ρ:aG}(h:i < nT):(jv nT caps ρ)[i]?=some none:=by
 unfold jv
 rw [abo (by simpa using h),afo,if_pos h]
theorem ez {iter:Expr}{pos:Pos}{src:TI}(K:gp α ℓ sc scope slots tgts cn caps P8 QS Q8 tg tc te)(hi:ch α ℓ sc slots P8 iter src)
  (hs:autoParam (∀env x,aew iter env x=pure x) aI):aa α ℓ sc slots (.ListComp Q8 [⟨P8,iter,QS,0⟩] scope pos) (c7 tgts.length caps src tg tc te):=by
 intro A h₀ L env C D s m st φ news ρ PB Lo Q Qc E t P
 refine bv λGG PD=>?_
 obtain⟨W5,t⟩:=t
 obtain⟨cl,Q9,VG⟩:=K.closure D Lo W5
 obtain⟨k1,k2,k3,k4⟩:=K.kinds D
 refine PD ?_
 rw [eval_ListComp]
 refine aeU (use:=none) rfl (hs env) Q9 K.kind k4 (hi A h₀ L env C D s m st φ news ρ PB Lo _ _ E t λI xs G keys own o Pt Px PC h₁ PA Pv Py W Qx U7 hI Pw=>?_)
 obtain⟨PL,Pw⟩:=Pw
 refine wP (ℓ:=ℓ) (RR:=λPZ Ca=>compPost (abe α.prog α.w) A E none Qc PZ Ca) C D W PL k1 k2 K.kind k3 K.t K.ts K.e Pv Qx U7 (λi hi=>nh hi) (K.capsOk D VG (Lo.grow Py)) Pw ?_
 intro Da Ca ys Ps PG Pu z' its n h' PV QR S' Q2 g' Sk _ r' t'
 refine⟨QR,Q2.ns (S'.N.get (aa8 _ (.head _))),λVb TW=>?_⟩
 obtain⟨YU,g''⟩:=S'.compEnd Q2 Sk TW r'
 exact P _ _ _ _ _ Vb PV YU ((Py.trans g').trans g'') (.ref (d:=Da) (by rw [<- S'.W.len]; simp)) t'
theorem iA {iter:Expr}{y:Str}{py pos ZP:Pos}{j:Nat}{src:TI}(K:gp α ℓ sc scope slots tgts cn caps P8 QS Q8 tg tc te)(hi:ch α ℓ sc slots P8 iter src)(hy:slots[j]?=some y)(hyl:sc.names.lookup y=some .local)
  (WZ:∀env,env.scope=sc->aer (.ListComp Q8 [⟨P8,iter,QS,0⟩] scope pos) (some (.Name y py)) ZP.line env=pure true:=by rintro⟨_⟩ rfl; rfl)
  (hs:autoParam (∀env x,aew iter env x=pure x) aI):au α ℓ sc slots (.Assign [.Name y py] (.ListComp Q8 [⟨P8,iter,QS,0⟩] scope pos) ZP) (aX j (c7 tgts.length caps src tg tc te)):=by
 intro A h₀ L env C D s m st φ news ρ PB Lo O Q Qc E t P
 refine bv λGG PD=>?_
 obtain⟨W5,t⟩:=t
 obtain⟨cl,Q9,VG⟩:=K.closure D Lo W5
 obtain⟨k1,k2,k3,k4⟩:=K.kinds D
 refine PD ?_
 rw [exec_Assign_Name_used _ _ _ _ (WZ env D.scope)]
 refine aag (ado (aag ?_))
 show wpAny _ A (do let _ <- comprehension (.ListComp Q8 [⟨P8,iter,QS,0⟩] scope pos) scope env _ (newList []) false (eval iter env) (some (afB (.Name y py) env))) _ _ s
 refine aag (abU (aeU (use:=some (afB (.Name y py) env)) (Q:=λ_ s'=>Qc .next s') rfl (hs env) Q9 K.kind k4
  (hi A h₀ L env C D s m st φ news ρ PB Lo _ _ E t λI xs G keys own o Pt Px PC h₁ PA Pv Py W Qx U7 hI Pw=>?_)) (λ_ s' hq=>abb (abb hq)) λ_ _ e=>e)
 obtain⟨PL,Pw⟩:=Pw
 refine wP (ℓ:=ℓ) (RR:=λPZ Ca=>compPost (abe α.prog α.w) A E (some (afB (.Name y py) env)) (λ_ s'=>Qc .next s') PZ Ca) C D W PL k1 k2 K.kind k3 K.t K.ts K.e Pv Qx U7 (λi hi=>nh hi) (K.capsOk D VG (Lo.grow Py)) Pw ?_
 intro Da Ca ys Ps PG Pu z' its n h' PV QR S' Q2 g' Sk hCn r' t'
 have g2:=Py.trans g'
 have ZT:Ca≠L:=(S'.N _ (aa8 _ (.head _))).2.1
 have hC0:h₀.get? Ca=none:=(S'.N _ (aa8 _ (.head _))).2.2
 have nsC:=Q2.ns (S'.N.get (aa8 _ (.head _)))
 show wpAny _ A (afB (.Name y py) env (.ref Da)) _ _ _
 refine ab4 (adu (env:=env) (by unfold acd; rw [D.scope]; exact hyl) (by rw [O.loc]; exact S'.F.ns) (λPM X5 Se=>?_) (by rw [D.scope,D.kind]; rfl))
 rw [O.loc] at X5 Se
 have PF:Sn α h₀ L (λz=>if z=y then some (.ref Da) else m z) PM Ps PG ([(Ca,z'),(Da,bV its n)]++Pu):=⟨S'.F.set X5 Se,S'.N.set Se,S'.W⟩
 refine⟨QR,nsC.sameBut Se ZT,λVb TW=>?_⟩
 obtain⟨P3,Qg⟩:=PF.compEnd Q2 Sk TW r'
 have g:=g2.trans Qg
 have rD:RV α.hB ((Da,bV its n)::Pu) (PG++[(Da,Da)]) (.ref Ps.length) (.ref Da):=.ref (d:=Da) (by rw [<- S'.W.len]; simp)
 exact P .next .next _ _ _ _ _ Vb _ P3 ((Lo.grow g).put (O.grow g) hy (by unfold acd; rw [D.scope]; exact hyl) rD) (O.grow g) (dC g) .next t'
end
end
end
noncomputable def ed:MV->Option abX
 | .none=>some .none
 | .bool b=>some (.bool b)
 | .int i=>some (.int i)
 | .str x=>if ab7 x then some (.str x) else none
 | _=>none
noncomputable def fw (xs:List MV):Option (List abX):=xs.mapM ed
noncomputable def lN (f:MV->Option abX)(o:Option MO):Option abX:=match o with | some (.list xs)=>(xs.mapM f).map .list | _=>none
noncomputable def fu (st:MS):MV->Option abX
 | .tup xs=>(fw xs).map .tuple
 | .ref i=>lN ed st[i]?
 | V=>ed V
theorem Jm {f:MV->Option abX}{o:Option MO}{d:abX}{G:Prop}(e:lN f o=some d)(k:∀xs ds,o=some (.list xs)->xs.mapM f=some ds->d=.list ds->G):G:=by
 cases o with
 | none=>cases e
 | some x=>cases x with
  | list xs=>exact Km e λds h1 h2=>k xs ds rfl h1 h2
  | _=>cases e
section
variable {α:bC}{ℓ:Nat}{h₀ h:Heap}{L:Addr}{m:Str->Option aac}{s:aal}{st:MS}{φ:bk}{news:aO}
set_option tactic.hygienic true in
theorem qn {hB:Heap}{V:MV}{v:aac}{d:abX}(r:RV hB news φ V v)(e:ed V=some d):Reads h v d []/\d.canLay0=true/\d.depth<=1:=by
 cases r with
 | none=>cases e; exact⟨.none,rfl,by simp [aeh]⟩
 | bool b=>cases e; exact⟨.bool b,rfl,by simp [aeh]⟩
 | int i t=>cases e; exact⟨.int i t,rfl,by simp [aeh]⟩
 | str x t =>
  dsimp only [ed] at e
  split at e
  ·rename_i hx
   cases e
   exact⟨.str x t,by simpa [aea] using hx,by simp [aeh]⟩
  ·cases e
 | _=>cases e
def Rd (h:Heap)(k:Nat)(v:aac)(d:abX):Prop:=(∃as,Reads h v d as)/\d.canLay0=true/\d.depth<=k
def zg (h:Heap)(k:Nat)(vs:List aac)(ds:List abX):Prop:=(∃as,ReadsAll h vs ds as)/\adG ds=true/\adk ds<=k
theorem zg.of {hB:Heap}{f:MV->Option abX}{k:Nat}(hf:∀V v d,RV hB news φ V v->f V=some d->Rd h k v d){Vs:List MV}:∀{vs:List aac}{ds:List abX},bg hB news φ Vs vs->Vs.mapM f=some ds->zg h k vs ds:=by
 induction Vs with
 | nil=>intro vs ds r e; apply bg.n r; cases e; exact⟨⟨_,.nil⟩,by simp [adG],by simp [adk]⟩
 | cons V Vs ih =>
  intro vs ds r e
  apply bg.c r; intro v vs r rs
  refine wV e λd ds e1 e2 e3=>?_
  have a:=hf _ _ _ r e1
  have b:=ih rs e2
  rw [e3]
  exact⟨let ⟨as,x⟩:=a.1; let ⟨bs,y⟩:=b.1; ⟨_,.cons x y⟩,by unfold adG; rw [a.2.1,b.2.1]; rfl,by unfold adk; exact Nat.max_le.mpr ⟨a.2.2,b.2.2⟩⟩
theorem zg.list {k:Nat}{a:Addr}{its:Array aac}{n:Nat}{ds:List abX}(b:zg h k its.toList ds)(hg:h.get? a=some (bV its n)):Rd h (k+1) (.ref a) (.list ds):=
 ⟨let ⟨_,x⟩:=b.1; ⟨_,.list hg rfl rfl x⟩,by simpa [aea] using b.2.1,by unfold aeh; have:=b.2.2; walk_at "o"⟩
theorem zg.tuple {k:Nat}{a:Addr}{its:Array aac}{ds:List abX}(b:zg h k its.toList ds)(hg:h.get? a=some (bA its)):Rd h (k+1) (.ref a) (.tuple ds):=
 ⟨let ⟨_,x⟩:=b.1; ⟨_,.tuple hg rfl rfl x⟩,by simpa [aea] using b.2.1,by unfold aeh; have:=b.2.2; walk_at "o"⟩
theorem Rd.ref (S:Sn α h₀ L m h st φ news){f:MV->Option abX}{k i:Nat}{a dd:Addr}{d:abX}(PP:φ[i]?=some (a,dd))(hf:∀V v d,RV α.hB news φ V v->f V=some d->Rd h k v d)(e:lN f st[i]?=some d):Rd h (k+1) (.ref a) d:=by
 refine Jm e λxs ds hi e1 e2=>?_
 refine S.W.listC hi PP λits n PP hm q=>?_
 rw [e2]; exact (zg.of hf q e1).list (S.N.get hm)
theorem Bi {hB:Heap}(V:MV)(v:aac)(d:abX)(r:RV hB news φ V v)(e:ed V=some d):Rd h 1 v d:=let ⟨a,b⟩:=qn r e; ⟨⟨_,a⟩,b⟩
theorem uT (C:α.hB.StaysIn h₀)(S:Sn α h₀ L m h st φ news){V:MV}{v:aac}{d:abX}(r:RV α.hB news φ V v)(e:fu st V=some d):Rd h 2 v d:=by
 cases V with
 | tup xs =>
  apply RV.t r; intro a its hh q
  refine Km e λds e1 e2=>?_
  rw [e2]; exact (zg.of Bi q e1).tuple (hh.elim (λhh=>S.N.get hh) λhh=>S.F.keep _ _ (C _ _ hh))
 | ref i=>apply RV.r r; intro a dd PP; exact .ref S PP Bi e
 | _=>have a:=Bi (h:=h) _ _ _ r e; exact⟨a.1,a.2.1,agI a.2.2⟩
theorem Rd.shaped {k:Nat}{v:aac}{d:abX}(a:Rd h k v d)(hk:k<=3):(∃as,Reads h v d as)/\afF d=true:=by
 refine⟨a.1,?_⟩
 unfold afF
 rw [a.2.1,ah7]
 exact decide_eq_true (aan a.2.2 (aan hk (by decide)))
theorem iI (C:α.hB.StaysIn h₀)(S:Sn α h₀ L m h st φ news){V:MV}{v:aac}{d:abX}(r:RV α.hB news φ V v)(e:fu st V=some d):(∃as,Reads h v d as)/\afF d=true:=(uT C S r e).shaped (by decide)
noncomputable def xn (st:MS)(V:MV):Option abX:=match V with | .ref i=>lN (fu st) st[i]? | _=>none
theorem uO (C:α.hB.StaysIn h₀)(S:Sn α h₀ L m h st φ news){V:MV}{v:aac}{d:abX}(r:RV α.hB news φ V v)(e:xn st V=some d):(∃as,Reads h v d as)/\afF d=true:=by
 cases V with
 | ref i=>apply RV.r r; intro a dd PP; exact (Rd.ref S PP (λ_ _ _ r e=>uT C S r e) e).shaped (abt _)
 | _=>cases e
def oF (V W:MV)(K:Str->Str->Prop)(R:Prop):Prop:=match V with | .str x=>(match W with | .str y=>K x y | _=>R) | _=>R
theorem jd {V W:MV}{v w:aac}{hB:Heap}{K:Str->Str->Prop}{R:Prop}{P:aac->aac->Prop}(r1:RV hB news φ V v)(r2:RV hB news φ W w)(t:oF V W K R)(k:∀x y t u,K x y->P (.str x t) (.str y u))(k':R->P v w):P v w:=by
 cases V with
 | str x=>cases W with
  | str y=>apply RV.s r1; intro tx; apply RV.s r2; intro ty; exact k x y tx ty t
  | _=>exact k' t
 | _=>exact k' t
def pU (a b:Option abX)(K:abX->abX->Prop)(R:Prop):Prop:=match a with | some d=>(match b with | some e=>K d e | none=>R) | none=>R
theorem vD {a b:Option abX}{K:abX->abX->Prop}{R G:Prop}(t:pU a b K R)(k:∀d e,a=some d->b=some e->K d e->G)(k':R->G):G:=by
 cases a with
 | none=>exact k' t
 | some d=>cases b with
  | none=>exact k' t
  | some e=>exact k d e rfl rfl t
def bL:TP:=two λV W st Q=>oF V W (λx y=>Q (.bool (decide (x=y))) st) (pU (fu st V) (fu st W) (λd e=>Q (.bool (abK d e)) st) (pU (xn st V) (xn st W) (λd e=>Q (.bool (abK d e)) st) False))
def ia:TP:=two λV W st Q=>oF V W (λx y=>Q (.bool (!decide (x=y))) st) (pU (fu st V) (fu st W) (λd e=>Q (.bool (!abK d e)) st) False)
theorem EH (x y:Str):(x.cps.toList == y.cps.toList)=decide (x=y):=by
 by_cases h:x=y
 ·subst h; simp
 ·rw [decide_eq_false h]
  refine Bool.eq_false_iff.mpr λe=>h ?_
  have:=eq_of_beq e
  cases x; cases y
  congr
  exact ag1.mp this
theorem bc:aM α 0 (c2 (aci .Eq)) bL:=gU λA h₀ L C s m st φ news V W v w S r1 r2 Q Qc E t P=>by
 refine jd (P:=λv w=>wpAny (abe α.prog α.w) A (aci .Eq v w) Qc E s) r1 r2 t (λx y tx ty t=>PySem.P.eq_str (by rw [EH]; exact P.now S (.bool _) t s.toks)) λt=>vD t (λd e h1 h2 t=>?_) λt=>vD t (λd e h1 h2 t=>?_) ahd
 ·obtain⟨⟨as,ra⟩,sa⟩:=iI C.stays S r1 h1
  obtain⟨⟨bs,rb⟩,sb⟩:=iI C.stays S r2 h2
  exact eq_dataH ra rb sa sb (by have:=C.units; walk_at "o") (P.now S (.bool _) t s.toks)
 ·obtain⟨⟨as,ra⟩,sa⟩:=uO C.stays S r1 h1
  obtain⟨⟨bs,rb⟩,sb⟩:=uO C.stays S r2 h2
  exact eq_dataH ra rb sa sb (by have:=C.units; walk_at "o") (P.now S (.bool _) t s.toks)
theorem ii:aM α 0 (c2 (aci .NotEq)) ia:=gU λA h₀ L C s m st φ news V W v w S r1 r2 Q Qc E t P=>by
 refine jd (P:=λv w=>wpAny (abe α.prog α.w) A (aci .NotEq v w) Qc E s) r1 r2 t (λx y tx ty t=>PySem.P.ne_str (by rw [bne,EH]; exact P.now S (.bool _) t s.toks)) λt=>vD t (λd e h1 h2 t=>?_) ahd
 obtain⟨⟨as,ra⟩,sa⟩:=iI C.stays S r1 h1
 obtain⟨⟨bs,rb⟩,sb⟩:=iI C.stays S r2 h2
 exact ne_dataH ra rb sa sb (by have:=C.units; walk_at "o") (P.now S (.bool _) t s.toks)
noncomputable def ln (y x:Str):Bool:=!(adH x y 0 x.length 1).isEmpty
def xt (a b:Option abX)(K:abX->List abX->Prop):Prop:=match a with
 | some d=>(match b with | some D=>(match D with | .list ds=>K d ds | .tuple ds=>K d ds | _=>False) | none=>False)
 | none=>False
theorem zr {a b:Option abX}{K:abX->List abX->Prop}{G:Prop}(t:xt a b K)(k1:∀d ds,a=some d->b=some (.list ds)->K d ds->G)(k2:∀d ds,a=some d->b=some (.tuple ds)->K d ds->G):G:=by
 cases a with
 | none=>exact t.elim
 | some d=>cases b with
  | none=>exact t.elim
  | some D=>cases D with
   | list ds=>exact k1 d ds rfl rfl t
   | tuple ds=>exact k2 d ds rfl rfl t
   | _=>exact t.elim
def ic (UI:Bool):TP:=two λV W st Q=>oF V W (λy x=>Q (.bool (xor UI (ln y x))) st) (xt (ed V) (fu st W) λd ds=>Q (.bool (xor UI (ds.any λy=>abK y d))) st)
theorem Iw (b:Bool):(xor false b)=b:=by cases b <;> rfl
theorem zk (b:Bool):(xor true b)=!b:=by cases b <;> rfl
theorem kb {ds:List abX}(h:afF (.list ds)=true\/afF (.tuple ds)=true):adG ds=true:=by
 rcases h with h | h
 ·have:=ahe h; simpa [aea] using this
 ·have:=ahe h; simpa [aea] using this
theorem mO:aM α 0 (c2 (aci .In)) (ic false):=gU λA h₀ L C s m st φ news V W v w S r1 r2 Q Qc E t P=>by
 refine jd (P:=λv w=>wpAny (abe α.prog α.w) A (aci .In v w) Qc E s) r1 r2 t (λx y tx ty t=>PySem.P.in_str (P.now S (.bool _) (by rw [Iw] at t; exact t) s.toks)) λt=>zr t (λd ds h1 h2 t=>?_) λd ds h1 h2 t=>?_
 all_goals
  obtain⟨⟨bs,rb⟩,sb⟩:=iI C.stays S r2 h2
  obtain⟨ra,la,da⟩:=qn (h:=s.heap) r1 h1
  rw [Iw] at t
 ·exact SeqAt.in_list_reads rb ra (kb (.inl sb)) la (by have:=C.units; have:=af1 (adk ds) d.depth; walk_at "o") (P.now S (.bool _) t s.toks)
 ·exact SeqAt.in_tuple_reads rb ra (kb (.inr sb)) la (by have:=C.units; have:=af1 (adk ds) d.depth; walk_at "o") (P.now S (.bool _) t s.toks)
theorem lG:aM α 0 (c2 (aci .NotIn)) (ic true):=gU λA h₀ L C s m st φ news V W v w S r1 r2 Q Qc E t P=>by
 refine jd (P:=λv w=>wpAny (abe α.prog α.w) A (aci .NotIn v w) Qc E s) r1 r2 t (λx y tx ty t=>PySem.P.notIn_str (P.now S (.bool _) (by rw [zk] at t; exact t) s.toks)) λt=>zr t (λd ds h1 h2 t=>?_) λd ds h1 h2 t=>?_
 all_goals
  obtain⟨⟨bs,rb⟩,sb⟩:=iI C.stays S r2 h2
  obtain⟨ra,la,da⟩:=qn (h:=s.heap) r1 h1
  rw [zk] at t
 ·exact SeqAt.notIn_list_reads rb ra (kb (.inl sb)) la (by have:=C.units; have:=af1 (adk ds) d.depth; walk_at "o") (P.now S (.bool _) t s.toks)
 ·exact SeqAt.notIn_tuple_reads rb ra (kb (.inr sb)) la (by have:=C.units; have:=af1 (adk ds) d.depth; walk_at "o") (P.now S (.bool _) t s.toks)
end
section
variable {α:bC}{ℓ:Nat}{h₀ h:Heap}{L:Addr}{m:Str->Option aac}{s:aal}{st:MS}{φ:bk}{news:aO}
theorem Cf.under {A:abw}(C:Cf α (ℓ+1) A h₀ L)(c:Addr)(vs:List aac):Cf α ℓ (A.under (.builtin "type.__call__" ⟨.ref c::vs,[]⟩)) h₀ L:=by
 refine C.frC λA₀ outer Ql B hA hf hk=>?_
 refine⟨C.ok,⟨A₀,outer,Ql,B,hA,hf,hk⟩,C.hand,?_,?_,C.inner⟩
 ·exact C.dep1
 ·have h1:=C.units
  have:(A.under (.builtin "type.__call__" ⟨.ref c::vs,[]⟩)).units=A.units+1:=rfl
  walk_at "o"
def kM (C:Addr)(SI:TP):TP:=λVs st Q=>SI (.ref st.length::Vs) (st++[.inst C []]) λV Ps=>V=.none/\Q (.ref st.length) Ps
theorem mJ {C fI:Addr}{SI:TP}(hm:ajl α.K C=true)(hi:ab0 α.K (.ref C) "__init__"=some (some (.ref fI))) (hf:isFn α.K (.ref fI)=true) (hI:bJ α ℓ fI SI):aM α (ℓ+1) (λvs=>abQ (.ref C) vs) (kM C SI):=by
 intro A h₀ L Cx s m st φ news Vs vs S r Q Qc E t P
 refine call_cls S.F Cx.X S.N hm hi hf λx dx h' F' N' l1 l2=>?_
 have e1:∀p∈news,p.1≠dx:=λp hp=>abf (l1 p hp)
 have e2:∀p∈((dx,dictOf [] 0)::news:aO),p.1≠x:=λp hp=>by
  rcases bN hp with rfl | hp
  ·exact abf l2
  ·exact abf (agk (l1 p hp) l2)
 have W2:Wd α st φ ((x,agH C dx)::(dx,dictOf [] 0)::news):=(S.W.more e1).more e2
 have fd:=S.notFoot e1
 have fx:x ∉ bq φ:=S.notFoot λp hp=>e2 p (.tail _ hp)
 have W3:Wd α (st++[.inst C []]) (φ++[(x,dx)]) ((x,agH C dx)::(dx,dictOf [] 0)::news):=W2.alloc fx fd ⟨.head _,⟨λ_ h=>(by cases h),abS _⟩,[],0,.tail _ (.head _),.nil⟩
 have g:a9 [α.tab] φ news (φ++[(x,dx)]) ((x,agH C dx)::(dx,dictOf [] 0)::news):=.sub (abI _ _) (λp h=>.tail _ (.tail _ h)) λp hp h=>by
  rcases lI h with h | h | h
  ·exact h
  ·exact absurd h (e2 p (.tail _ hp))
  ·exact absurd h (e1 p hp)
 have rx:RV α.hB ((x,agH C dx)::(dx,dictOf [] 0)::news) (φ++[(x,dx)]) (.ref st.length) (.ref x):=.ref (d:=dx) (by rw [<- S.W.len]; simp)
 refine hI _ h₀ L (Cx.under _ _) { s with heap:=h' } m _ _ _ _ _ ⟨F',N',W3⟩ (.cons rx (r.mono g)) _ _ t λV Pz PE PS v PM PN PF PH P5 PU=>?_
 obtain⟨rfl,PU⟩:=PU
 cases P5
 exact⟨rfl,P _ Pz PE PS _ PM PN PF (g.trans PH) (rx.mono PH) PU⟩
end
inductive Kd | str | list | dict
def Kd.nm:Kd->String | .str=>"str" | .list=>"list" | .dict=>"dict"
def Kd.ok:Kd->MV->MS->Prop
 | .str,V,_=>∃x,V=.str x
 | .list,V,st=>∃i xs,V=.ref i/\st[i]?=some (.list xs)
 | .dict,V,st=>∃i fs ep,V=.ref i/\st[i]?=some (.dict fs ep)
section
variable {α:bC}{ℓ:Nat}{sc:abM}{slots:List Str}{h₀ h:Heap}{L:Addr}{m:Str->Option aac}{s:aal}{st:MS}{φ:bk}{news:aO}
theorem Kd.type {k:Kd}{V:MV}{v:aac}(S:Sn α h₀ L m s.heap st φ news)(r:RV α.hB news φ V v)(h:k.ok V st):s.TypeIs v k.nm/\∀a,v=.ref a->∃o,s.heap.get? a=some o/\o.dict=none:=by
 cases k with
 | str =>
  obtain⟨x,rfl⟩:=h
  cases r
  exact⟨typeIs_str _ _ _,λ_ e=>nomatch e⟩
 | list =>
  obtain⟨i,xs,rfl,hi⟩:=h
  apply RV.r r; intro a d PP
  refine S.W.listC hi PP λits n PP hm q=>?_
  exact⟨⟨_,S.N.get hm,rfl⟩,λb e=>by cases e; exact⟨_,S.N.get hm,rfl⟩⟩
 | dict =>
  refine bv λGG PD=>?_
  obtain⟨i,xs,ep,rfl,hi⟩:=h
  refine PD ?_
  apply RV.r r; intro a d PP
  refine bv λGG PD=>?_
  obtain⟨rfl,e2,o,kvs,hm,⟨es,hx,_⟩,q⟩:=S.W.dict hi PP
  refine PD ?_
  exact⟨⟨_,S.N.get hm,hx.1⟩,λb e=>by cases e; exact⟨_,S.N.get hm,hx.2.1⟩⟩
theorem Kd.attrs:∀k:Kd,PlainAttrs k.nm
 | .str=>PySem.F.plainAttrs_str
 | .list=>PySem.F.plainAttrs_list
 | .dict=>PySem.F.plainAttrs_dict
def cr (k:Kd)(S:TP)(o:TE)(args:TL):TE:=λρ st Q=>o ρ st λV Pt=>k.ok V Pt/\args ρ Pt λVs Pz=>S (V::Vs) Pz Q
theorem ba {o:Expr}{name:Str}{Tl pos:Pos}{args:List Expr}{k:Kd}{id:String}{S:TP}{To:TE}{T:TL}(ho:aa α ℓ sc slots o To)(hT:ae α ℓ sc slots args T)(hS:aM α ℓ (λvs=>abQ (.builtin id) vs) S)
  (slot:Slot k.nm name id) (hty:typeOf (.builtin id)=pure (.type "method_descriptor"))
  (hl:autoParam (args.length < 30) aK) (hp:autoParam ((Tl.endLine == pos.line)=true) aR) (hb:autoParam (∀env QQ,af4 o name env QQ=QQ) aI) :
  aa α ℓ sc slots (.Call (.Attribute o name Tl) args [] pos) (cr k S To T):=by
 intro A h₀ L env Cx D s m st φ news ρ Qq Lo Q Qc E t P
 refine qc hT.plain hl (hb env) hp (ho A h₀ L env Cx D s m st φ news ρ Qq Lo _ _ E t λV Pt Px PC v h₁ PA Pv Py PO Pw=>?_)
 obtain⟨hk,Pw⟩:=Pw
 obtain⟨hT',hd⟩:=Kd.type (s:={ s with heap:=h₁,toks:=PA }) Pv PO hk
 refine getMethod_builtin hT' k.attrs slot hty hd ?_
 refine bR (α:=α) hT.plain (Pp:=λ_=>True) (λh _=>eY _ h) (hT.run A h₀ L env Cx D _ m Pt Px PC ρ Pv (Lo.grow Py) pos _ _ E Pw λVs Pz PE PS vs PM PN PF PH P5 PU _=>⟨trivial,?_⟩)
 exact hS A h₀ L Cx _ m Pz PE PS _ _ PF (.cons (PO.mono PH) P5) Q Qc E PU ((P.after Py h₁ PA).after PH PM PN)
def KS:MV->MV->MS->(MV->MS->Prop)->Prop:=λV W st Q=>h7 (λi=>cE st[i]? λxs=>xs.length<=abD/\Q .none (st.set i (.list (xs++[W])))) V
def bx:TP:=two KS
theorem cf:aM α ℓ (λvs=>abQ (.builtin "list.append") vs) bx:=gU λA h₀ L C s m st φ news V W v w S r1 r2 Q Qc E t P=>by
 apply r1.oR t; intro i a d PP t
 refine bZ t λxs hi t=>?_
 refine S.W.listC hi PP λits n PP hm q=>?_
 refine append_at (hsz:=by rw [<- abm,q.length]; exact t.1) (S.N.get hm) λh' hs hD=>?_
 obtain⟨Pv,Py⟩:=S.setList (xs':=xs++[W]) (its':=its.push _) (n':=n+1) hi PP hm hs hD (by rw [aex]; exact q.append (.cons r2 .nil))
 exact P _ _ _ _ _ h' _ Pv Py .none t.2
def NV:MV->MS->(MV->MS->Prop)->Prop:=λV st Q=>h7 (λi=>cE st[i]? λxs=>xs.length<=abD/\dT xs.getLast? λV=>Q V (st.set i (.list xs.dropLast))) V
def Gb:TP:=one NV
theorem EM:aM α ℓ (λvs=>abQ (.builtin "list.pop") vs) Gb:=oh λA h₀ L C s m st φ news V v S r Q Qc E t P=>by
 apply r.oR t; intro i a d PP t
 refine bZ t λxs hi t=>?_
 refine dI t.2 λV hV t'=>?_
 refine S.W.listC hi PP λits n PP hm q=>?_
 have PL:=q.length
 rw [List.getLast?_eq_getElem?] at hV
 obtain⟨v,hv,rv⟩:=q.get hV
 refine Copied.pop_at (y:=v) (hsz:=by rw [<- abm,PL]; exact t.1) (S.N.get hm) (by rw [<- adv,<- abm,PL]; exact hv) λh' hs hD=>?_
 obtain⟨Pv,Py⟩:=S.setList (xs':=xs.dropLast) (its':=its.pop) (n':=n+1) hi PP hm hs hD (by rw [Array.toList_pop,ahp,ahp,PL]; exact q.take _)
 exact P _ _ _ _ _ h' _ Pv Py (rv.mono Py) t'
noncomputable def theI (V:MV):Option Int:=match V with | .int i=>some i | _=>none
noncomputable def theS (V:MV):Option Str:=match V with | .str i=>some i | _=>none
noncomputable def fJ (xs:List MV):Option (List Int):=xs.mapM theI
noncomputable def xS (xs:List MV):Option (List Str):=xs.mapM theS
theorem RV.theI {hB:Heap}{V:MV}{v:aac}{i:Int}{P:aac->Prop}(r:RV hB news φ V v)(e:theI V=some i)(k:∀t,P (.int i t)):P v:=by
 cases r with
 | int j t=>cases e; exact k t
 | _=>cases e
theorem RV.theS {hB:Heap}{V:MV}{v:aac}{i:Str}{P:aac->Prop}(r:RV hB news φ V v)(e:theS V=some i)(k:∀t,P (.str i t)):P v:=by
 cases r with
 | str j t=>cases e; exact k t
 | _=>cases e
theorem pT {hB:Heap}{Vs:List MV}:∀{vs:List aac}{ns:List Int},bg hB news φ Vs vs->fJ Vs=some ns->IntsAre vs ns:=by
 induction Vs with
 | nil=>intro vs ns r e; cases r; cases e; exact .nil
 | cons V Vs ih =>
  intro vs ns r e
  apply bg.c r; intro _ _ r rs
  refine wV e λy ys e1 e2 e3=>?_
  rw [e3]; apply r.theI e1; exact λt=>.cons _ _ (ih rs e2)
theorem IL {hB:Heap}{Vs:List MV}:∀{vs:List aac}{ns:List Str},bg hB news φ Vs vs->xS Vs=some ns->StrsAre vs ns:=by
 induction Vs with
 | nil=>intro vs ns r e; cases r; cases e; exact .nil
 | cons V Vs ih =>
  intro vs ns r e
  apply bg.c r; intro _ _ r rs
  refine wV e λy ys e1 e2 e3=>?_
  rw [e3]; apply r.theS e1; exact λt=>.cons _ _ (ih rs e2)
theorem EZ {hB:Heap}{vs:List aac}{ns:List Str}(h:StrsAre vs ns):bg hB news φ (ns.map .str) vs:=by
 induction h with
 | nil=>exact .nil
 | cons x t r ih=>exact .cons (.str x t) ih
def Mb:MV->MV->MS->(MV->MS->Prop)->Prop:=λV W st Q=>h7 (λi=>kg (λk=>cE st[i]? λxs=>dT (fJ xs) λns=>PyData.layable0 (.list (ns.map .int))=true/\k∈ns/\Q (.int (ns.idxOf k:Nat)) st) W) V
def th:TP:=two Mb
theorem sg:aM α ℓ (λvs=>abQ (.builtin "list.index") vs) th:=gU λA h₀ L C s m st φ news V W v w S r1 r2 Q Qc E t P=>by
 apply r1.oR t; intro i a d PP t; apply r2.oI t; intro k tk t
 refine bZ t λxs hi t=>dI t λns SE t=>?_
 refine S.W.listC hi PP λits n PP hm q=>?_
 exact index_list_ints (vs:=its.toList) (by simpa using S.isList hm) (pT q SE) t.1 t.2.1 (P.now S (.int _ _) t.2.2 _)
def N4:MV->MS->(MV->MS->Prop)->Prop:=λV st Q=>gC (nK _) (λx=>x.length < 2 ^ 62/\Q (.int x.length) st) (nK _) (λi=>cE st[i]? λxs=>xs.length < 2 ^ 62/\Q (.int xs.length) st) (λns=>ns.length < 2 ^ 62/\Q (.int ns.length) st) V
def dP:TP:=one N4
theorem JF {n:Nat}(h:n < 2 ^ 62):(n:Int) < 2 ^ 63:=by walk_at "o"
theorem c0:aM α ℓ (λvs=>abQ (.builtin "len") vs) dP:=oh λA h₀ L C s m st φ news V v S r Q Qc E t P=>by
 apply r.cV t
 ·exact λ_ _ f=>f.elim
 ·intro x tk t; exact PySem.P.len_str (Int.not_le.mpr (JF t.1)) (P.now S (.int _ _) t.2 _)
 ·exact λ_ _ _ _ _ f=>f.elim
 ·intro i a d PP t
  refine bZ t λxs hi t=>?_
  refine S.W.listC hi PP λits n PP hm q=>?_
  have PL:its.size=xs.length:=by rw [<- abm,q.length]
  exact call_len_list (S.isList hm) (by rw [PL]; exact JF t.1) (by rw [PL]; exact P.now S (.int _ _) t.2 _)
 ·intro ns l ws hl hi t
  obtain⟨o,ho,hr⟩:=hl
  have hl:s.heap.IsList l ws.toArray:=⟨o,S.F.keep _ _ (C.stays _ _ ho),hr⟩
  have PL:ws.toArray.size=ns.length:=by rw [ad2]; exact hi.length
  exact call_len_list hl (by rw [PL]; exact JF t.1) (by rw [PL]; exact P.now S (.int _ _) t.2 _)
def KL:MV->MS->(MV->MS->Prop)->Prop:=λV st Q=>h7 (λi=>cE st[i]? λxs=>xs.length<=abD/\Q (.ref st.length) (st++[.list xs])) V
def oN:TP:=one KL
theorem pS:aM α ℓ (λvs=>abQ (.type "list") vs) oN:=oh λA h₀ L C s m st φ news V v S r Q Qc E t P=>by
 apply r.oR t; intro i a d PP t
 refine bZ t λxs hi t=>?_
 refine S.W.listC hi PP λits n PP hm q=>?_
 exact list_copyK S.F S.N (S.isList hm) (λD c h' F' N' l1=>P.newList S F' N' (λp hp=>abf (l1 p hp)) q t.2) (by rw [<- abm,q.length]; exact t.1)
def FK:TP:=two λV W st Q=>nR (λa b=>Q (.int (if b > a then b else a)) st) V W
theorem Lg:aM α ℓ (λvs=>abQ (.builtin "max") vs) FK:=gU λA h₀ L C s m st φ news V W v w S r1 r2 Q Qc E t P =>
 tX (P:=λv w=>wpAny (abe α.prog α.w) A (abQ (.builtin "max") [v,w]) Qc E s) r1 r2 t λa b ta tb t=>max_two_N C.hand S.F S.N λh' tk F' N'=>P _ st φ news _ h' tk ⟨F',N',S.W⟩ .refl (.int _ _) t
def N5:MV->MS->(MV->MS->Prop)->Prop:=λV st Q=>kg (λa=>Q (.int (if a < 0 then -a else a)) st) V
def MX:TP:=one N5
theorem KH:aM α ℓ (λvs=>abQ (.builtin "abs") vs) MX:=oh λA h₀ L C s m st φ news V v S r Q Qc E t P=>by
 apply r.oI t; intro a ta t; exact call_abs_int λu tk=>P.now S (.int _ _) t tk
def FM:MV->MS->(MV->MS->Prop)->Prop:=λV st Q=>match V with
 | .bool b=>Q (.int (if b then 1 else 0)) st
 | _=>gC (λa=>Q (.int a) st) (λx=>dT (ahI x) λn=>x.length<=640/\Q (.int n) st) (nK _) (nK _) (nK _) V
def eJ:TP:=one FM
theorem fZ:aM α ℓ (λvs=>abQ (.type "int") vs) eJ:=oh λA h₀ L C s m st φ news V v S r Q Qc E t P=>by
 cases r with
 | int a ta=>exact call_int_int (P.now S (.int _ _) t _)
 | bool b=>exact call_int_bool (P.now S (.int _ _) t _)
 | str x tx=>exact dI t λn hn t=>KIN.call_text hn t.1 (P.now S (.int _ _) t.2 _)
 | _=>exact t.elim
end
section
variable {α:bC}{ℓ:Nat}{sc:abM}{slots:List Str}{h₀ h:Heap}{L:Addr}{m:Str->Option aac}{s:aal}{st:MS}{φ:bk}{news:aO}
def Nl:MV->MS->(MV->MS->Prop)->Prop:=λV st Q=>h7 (λi=>cE st[i]? λxs=>dT (fJ xs) λns=>Q (.int ns.sum) st) V
def xO:TP:=one Nl
theorem x5:aM α ℓ (λvs=>abQ (.builtin "sum") vs) xO:=oh λA h₀ L C s m st φ news V v S r Q Qc E t P=>by
 apply r.oR t; intro i a d PP t
 refine bZ t λxs hi t=>dI t λns SE t=>?_
 refine S.W.listC hi PP λits n PP hm q=>?_
 exact LSm.sum_ints (vs:=its.toList) S.F S.N C.hand (by simpa using S.isList hm) (pT q SE) λh' tk t' F' N'=>P _ st φ news _ h' tk ⟨F',N',S.W⟩ .refl (.int _ _) t
def NE:MV->MV->MS->(MV->MS->Prop)->Prop:=λV W st Q=>xc (λSw=>h7 (λi=>cE st[i]? λxs=>dT (xS xs) λys=>(ys.map (·.length)).sum+ys.length * Sw.length<=16777216/\Q (.str (aeF Sw ys)) st) W) V
def qx:TP:=two NE
theorem vW:aM α ℓ (λvs=>abQ (.builtin "str.join") vs) qx:=gU λA h₀ L C s m st φ news V W v w S r1 r2 Q Qc E t P=>by
 apply r1.oS t; intro Sw tk t; apply r2.oR t; intro i a d PP t
 refine bZ t λxs hi t=>dI t λys SE t=>?_
 refine S.W.listC hi PP λits n PP hm q=>?_
 exact PyProof.Rows.join_list (S.isList hm) (IL q SE) t.1 λt' k=>P.now S (.str _ _) t.2 k
def L0:MV->MS->(MV->MS->Prop)->Prop:=λV st Q=>xc (λx=>(abP x).length<=abD/\Q (.str (abP x)) st) V
def pg:TP:=one L0
theorem nM:aM α ℓ (λvs=>abQ (.builtin "str.lower") vs) pg:=oh λA h₀ L C s m st φ news V v S r Q Qc E t P=>by
 apply r.oS t; intro x tx t; exact SC.lower (by unfold Builtin.Str.tooLong; simpa using t.1) (P.now S (.str _ _) t.2 _)
def Hj:TP:=two λV W st Q=>oF V W (λx y=>x.length<=abD/\Q (.str (afG x y)) st) False
theorem HZ:aM α ℓ (λvs=>abQ (.builtin "str.strip") vs) Hj:=gU λA h₀ L C s m st φ news V W v w S r1 r2 Q Qc E t P =>
 jd (P:=λv w=>wpAny (abe α.prog α.w) A (abQ (.builtin "str.strip") [v,w]) Qc E s) r1 r2 t (λx y tx ty t=>SC.stripChars (hsz:=t.1) λt' k=>P.now S (.str _ _) t.2 k) ahd
def HB:MV->MV->MS->(MV->MS->Prop)->Prop:=λV W st Q=>oF V W (λx y=>dT (adH x y 0 x.length 1).head? λi=>Q (.int (i:Nat)) st) False
def zz:TP:=two HB
theorem CH:aM α ℓ (λvs=>abQ (.builtin "str.index") vs) zz:=gU λA h₀ L C s m st φ news V W v w S r1 r2 Q Qc E t P =>
 jd (P:=λv w=>wpAny (abe α.prog α.w) A (abQ (.builtin "str.index") [v,w]) Qc E s) r1 r2 t (λx y tx ty t=>by
  refine dI t λi ho t=>?_
  obtain⟨rest,ho⟩:=List.head?_eq_some_iff.mp ho
  exact SC.index ho (P.now S (.int _ _) t _)) ahd
def KY:MV->MS->(MV->MS->Prop)->Prop:=λV st Q=>xc (λx=>x.length+2<=abD/\Q (.ref st.length) (st++[.list ((aeM x).map .str)])) V
def Ey:TP:=one KY
def ET:TP:=two λV W st Q=>oF V W (λx y=>x.length+2<=abD/\(y.length == 0)=false/\Q (.ref st.length) (st++[.list ((afs x y).map .str)])) False
def lE:TP:=λVs st Q=>match Vs with | [V]=>Ey [V] st Q | [V,W]=>ET [V,W] st Q | _=>False
theorem Gk:aM α ℓ (λvs=>abQ (.builtin "str.split") vs) Ey:=oh λA h₀ L C s m st φ news V v S r Q Qc E t P=>by
 apply r.oS t; intro x tx t; exact KSpl.split0 S.F S.N (λD l h' k e1 e2 F' N' l1=>P.newList S F' N' (λp hp=>abf (l1 p hp)) (by rw [<- e1]; exact EZ e2) t.2) t.1
theorem Gf:aM α ℓ (λvs=>abQ (.builtin "str.split") vs) ET:=gU λA h₀ L C s m st φ news V W v w S r1 r2 Q Qc E t P =>
 jd (P:=λv w=>wpAny (abe α.prog α.w) A (abQ (.builtin "str.split") [v,w]) Qc E s) r1 r2 t (λx y tx ty t=>KSpl.split1 S.F S.N t.2.1 (λD l h' k e1 e2 F' N' l1=>P.newList S F' N' (λp hp=>abf (l1 p hp)) (by rw [<- e1]; exact EZ e2) t.2.2) t.1) ahd
theorem sd:aM α ℓ (λvs=>abQ (.builtin "str.split") vs) lE:=by
 intro A h₀ L C s m st φ news Vs vs S r Q Qc E t P
 cases Vs with
 | nil=>exact t.elim
 | cons V Vs=>cases Vs with
  | nil=>exact Gk A h₀ L C s m st φ news _ _ S r Q Qc E t P
  | cons W Vs=>cases Vs with
   | nil=>exact Gf A h₀ L C s m st φ news _ _ S r Q Qc E t P
   | cons _ _=>exact t.elim
noncomputable def Ay (o:Option MO):Option Bool:=match o with | some (.list _)=>some true | _=>none
noncomputable def yj:MV->MS->Option Bool
 | .ref i,st=>Ay st[i]?
 | .str _,_=>some false
 | .bool _,_=>some false
 | .tup _,_=>some false
 | _,_=>none
noncomputable def MG:MV->MS->Option Bool
 | .str _,_=>some true
 | _,_=>none
def pM (f:MV->MS->Option Bool)(a:TE):TE:=λρ st Q=>a ρ st λV Pt=>dT (f V Pt) λb=>Q (.bool b) Pt
end
section
variable {α:bC}{ℓ:Nat}{sc:abM}{slots:List Str}{h₀ h:Heap}{L:Addr}{m:Str->Option aac}{s:aal}{st:MS}{φ:bk}{news:aO}
def MI (α:bC)(T:String)(f:MV->MS->Option Bool):Prop:=
 ∀(A:abw) h₀ L m (s:aal) st φ news V v b (Q:aac->aal->Prop) E,α.hB.StaysIn h₀->Sn α h₀ L m s.heap st φ news->RV α.hB news φ V v->f V st=some b->(∀tk,Q (.bool b) { s with toks:=tk })->wpAny (abe α.prog α.w) A (abQ (.builtin "isinstance") [v,.type T]) Q E s
theorem wa:MI α "list" yj:=by
 intro A h₀ L m s st φ news V v b Q E C S r hf q
 cases r with
 | @ref i a d PP =>
  cases hi:st[i]? with
  | none=>exact nomatch (congrArg (λo=>Ay o) hi).symm.trans hf
  | some o=>cases o with
   | list xs =>
    cases (congrArg (λo=>Ay o) hi).symm.trans hf
    refine S.W.listC hi PP λits n PP hm _=>?_
    exact IsiPair.isList_list (S.isList hm) (λ_ _ e=>e) (q _)
   | _=>exact nomatch (congrArg (λo=>Ay o) hi).symm.trans hf
 | str x t=>cases hf; exact IsiPair.str_list (q _)
 | bool b=>cases hf; exact IsiPair.bool_list (q _)
 | @tup xs a its hh _ =>
  cases hf
  exact IsiPair.isTuple_list (h₀:=s.heap) (S.isTup C hh) (λ_ _ e=>e) (q _)
 | _=>cases hf
theorem LU:MI α "str" MG:=by
 intro A h₀ L m s st φ news V v b Q E C S r hf q
 cases r with
 | str x t=>cases hf; exact IsiPair.str_str (q _)
 | _=>cases hf
theorem qK {e:Expr}{x:Str}{T:String}{p q pos:Pos}{a:TE}{f:MV->MS->Option Bool}(ha:aa α ℓ sc slots e a)(hI:MI α T f)(he:nsIn α.K aam ("isinstance":Str)=some none) (Z7:nsIn α.K aam x=some none) (hv:agj x=some (.type T))
  (hn:autoParam (x≠"__name__") aD) (hd:autoParam ((x == ("__debug__":Str))=false) aD)
  (hx:autoParam (sc.names.lookup ("isinstance":Str)=some .globalImplicit) aR) (Rp:autoParam (sc.names.lookup x=some .globalImplicit) aR) (hs:autoParam (∀rest env,ada (e::rest) env=(false,eval e env)::ada rest env) aI) :
  aa α ℓ sc slots (.Call (.Name ("isinstance":Str) p) [e,.Name x q] [] pos) (pM f a):=by
 intro A h₀ L env C D s m st φ news ρ PB Lo Q Qc E t P
 have pl:fB [e,.Name x q]:=.cons hs (.cons (λ_ _=>rfl) .nil)
 refine agW (fy C D PB.F he (v:=.builtin "isinstance") (by decide +kernel) (by decide +kernel) ?_ hx (by decide +kernel))
 refine bR (α:=α) pl (Pp:=λ_=>True) (λh _=>eY _ h) (aeI (he:=hs _ _) (ha A h₀ L env C D s m st φ news ρ PB Lo _ _ E t λV Pt Px PC v h₁ PA Pv Py PO Pw=>?_))
 refine aeI (he:=rfl) (fy C D (s:={ s with heap:=h₁,toks:=PA }) Pv.F Z7 hv hn ?_ Rp hd)
 refine ahz ⟨trivial,?_⟩
 refine dI Pw λb hb Pw=>?_
 exact hI A h₀ L m _ Pt Px PC V v b Qc E C.stays Pv PO hb (λtk=>P _ Pt Px PC _ h₁ tk Pv Py (.bool b) Pw)
end
section
variable {α:bC}{ℓ:Nat}{sc:abM}{slots:List Str}{h₀ h:Heap}{L:Addr}{m:Str->Option aac}{s:aal}{st:MS}{φ:bk}{o news Pu:aO}
def N2:MV->MV->MS->(MV->MS->Prop)->Prop:=λV W st Q=>h7 (λi=>xc (λkey=>wN st[i]? λfs=>Q ((fs.lookup key).getD .none) st) W) V
def JS:TP:=two N2
theorem Fd:aM α ℓ (λvs=>abQ (.builtin "dict.get") vs) JS:=gU λA h₀ L C s m st φ news V W v w S r1 r2 Q Qc E t P=>by
 apply r1.oR t; intro i a d PP t; apply r2.oS t; intro key tk t
 refine wo t λfs ep hi t=>?_
 refine S.W.dictC hi PP λo kvs PP hs hm hd F=>?_
 have hM:=(hd.at (S.N.get hm)).dictOf.mapOf
 refine call_meetsIn afT hM.typeIs PySem.F.entry_dict_get (PySem.F.args_dict_get_2 _ _) (meets_dict_get (strKind α.prog α.w) a (k:=key) (ai7 _ _ _ _) hs) ⟨_,hM,?_⟩
 have ff:=F.find (name:=key)
 cases hl:fs.lookup key with
 | none =>
  rw [hl] at ff t
  rw [ff]
  exact P.now S .none t _
 | some V =>
  rw [hl] at ff t
  obtain⟨v,hv,rv⟩:=ff
  rw [hv]
  exact P.now S rv t _
inductive wK (hB:Heap)(news:aO)(φ:bk):List (Str×MV)->List (aac×aac)->Prop
 | nil:wK hB news φ [] []
 | cons {k:Str} {t:Tok} {V:MV} {v:aac} {fs:List (Str×MV)} {kvs:List (aac×aac)} (h:RV hB news φ V v) (r:wK hB news φ fs kvs):wK hB news φ ((k,V)::fs) ((.str k t,v)::kvs)
theorem wK.mono {hB:Heap}{news Pu:aO}{φ PG:bk}(hp:φ <+: PG)(ht:∀a its,(a,bA its)∈news->(a,bA its)∈Pu){fs:List (Str×MV)}{es:List (aac×aac)}(r:wK hB news φ fs es):wK hB Pu PG fs es:=by
 induction r with
 | nil=>exact .nil
 | cons h _ ih=>exact .cons (RV.mono' hp ht h) ih
theorem wK.kvs {hB:Heap}{fs:List (Str×MV)}{vs:List (aac×aac)}(r:wK hB news φ fs vs):ml hB news φ fs (strPairs vs)/\allStrKeys vs=true/\(strPairs vs).map (·.1)=fs.map (·.1)/\vs.length=fs.length:=by
 induction r with
 | nil=>exact⟨.nil,rfl,rfl,rfl⟩
 | cons h _ ih=>exact⟨.cons h ih.1,ih.2.1,by simp only [strPairs,abj,ih.2.2.1],by simp [ih.2.2.2]⟩
abbrev TD:=aG->MS->(List (Str×MV)->MS->Prop)->Prop
def oC:TD:=λ_ st Q=>Q [] st
def wy (k:Str)(a:TE)(r:TD):TD:=λρ st Q=>a ρ st λV Pt=>r ρ Pt λfs Pz=>Q ((k,V)::fs) Pz
structure ow (α:bC)(ℓ:Nat)(sc:abM)(slots:List Str)(ks:List Str)(keys:List (Option Expr))(Tk:List Expr)(T:TD):Prop where
 all:keys.all (·.isSome)=true
 len:keys.length=Tk.length
 run:∀A h₀ L env,Cf α ℓ A h₀ L->Ce sc env->∀s m st φ news ρ,Sn α h₀ L m s.heap st φ news->Lc α slots env L m news φ ρ->∀pos Q (Qc:List (aac×aac)->aal->Prop) E,T ρ st Q ->
  (∀fs Ps PG Pu vs h' PV,Sn α h₀ L m h' Ps PG Pu->a9 [α.tab] φ news PG Pu->wK α.hB Pu PG fs vs->fs.map (·.1)=ks->Q fs Ps->Qc vs { s with heap:=h',toks:=PV }) ->
  wpAny (abe α.prog α.w) A (evalPairs (pairTrees keys Tk env pos)) Qc E s
theorem ow.nil:ow α ℓ sc slots [] [] [] oC where
 all:=rfl
 len:=rfl
 run:=λA h₀ L env C D s m st φ news ρ S Lo pos Q Qc E t P=>evalPairs_nil (P [] st φ news [] s.heap s.toks S .refl .nil rfl t)
theorem ow.cons {x:Str}{kd:_}{kp:Pos}{v:Expr}{ks:List Str}{keys:List (Option Expr)}{Tk:List Expr}{a:TE}{r:TD}(h:aa α ℓ sc slots v a)(k:ow α ℓ sc slots ks keys Tk r) :
  ow α ℓ sc slots (x::ks) (some (.Constant (.str x) kd kp)::keys) (v::Tk) (wy x a r) where
 all:=by simpa using k.all
 len:=by simpa using k.len
 run:=λA h₀ L env C D s m st φ news ρ S Lo pos Q Qc E t P=>by
  refine evalPairs_cons (aic ?_)
  refine aag (h A h₀ L env C D { s with toks:=s.toks+1 } m st φ news ρ S Lo _ _ E t λV Pt Px PC afb h₁ PA Pv Py PO Pw=>aag (ado (abb ?_)))
  refine k.run A h₀ L env C D _ m Pt Px PC ρ Pv (Lo.grow Py) pos _ _ E Pw λfs Pz PE PS vs PM PN PF PH P5 Xo PU=>?_
  exact P _ Pz PE PS _ PM PN PF (Py.trans PH) (.cons (PO.mono PH) P5) (by rw [abj,Xo]) PU
theorem qL {d:Addr}{o o':Obj}{kvs:List (Str×aac)}{ep:Nat}{fs:List (Str×MV)}{h':Heap}(S:Sn α h₀ L m h st φ ([(d,o)]++news))(pl:Pl [(d,o)])(hf:d ∉ bq φ)(F:Fr h₀ L h' m)(N:News h₀ L h' ((d,o')::news))(hs:(d == aee)=false)
  (hd:vd α o' kvs ep) (r:ml α.hB news φ fs kvs):Sn α h₀ L m h' (st++[.dict fs ep]) (φ++[(d,d)]) ((d,o')::news)/\a9 [α.tab] φ news (φ++[(d,d)]) ((d,o')::news):=by
 have nd:=S.W.nodup
 have Xa:=nd
 rw [abE,abR] at Xa
 have P6:∀p∈news,p.1≠d:=λp hp e=>Xa.2.2 d (.head _) p.1 (ew ⟨p,hp,rfl⟩) e.symm
 have W':Wd α st φ ((d,o')::news):=S.W.mem (by simpa using nd) (λp hp hq=>by
   rcases dU hp with hp | hp
   ·rw [cq hp] at hq; exact absurd hq hf
   ·exact .tail _ hp) (λa its hm=>by
   rcases dU hm with hm | hm
   ·exact absurd rfl (pl.noT _ hm its)
   ·exact .tail _ hm) (λps hm=>by
   rcases dU hm with hm | hm
   ·exact absurd rfl (pl.noTab _ hm ps)
   ·exact .tail _ hm) (λc oc hm Ui=>by
   rcases dU hm with hm | hm
   ·exact absurd Ui (pl.noCo _ hm)
   ·exact .tail _ hm)
 refine⟨⟨F,N,W'.alloc hf hf ⟨rfl,hs,o',kvs,.head _,hd,r.mono (abI _ _) λ_ _ h=>.tail _ h⟩⟩,.sub (abI _ _) (λp h=>.tail _ h) λp hp h=>?_⟩
 rcases lI h with h | h | h
 ·exact h
 ·exact absurd h (P6 p hp)
 ·exact absurd h (P6 p hp)
def kU (T:TD):TE:=λρ st Q=>T ρ st λfs Pt=>∀ep,Q (.ref Pt.length) (Pt++[.dict fs ep])
theorem mA {pos:Pos}:aa α ℓ sc slots (.Dict [] [] pos) (kU oC):=by
 intro A h₀ L env C D s m st φ news ρ S Lo Q Qc E t P
 refine newDict_K S.F S.N C.T.nolimit λd h' o F' N' l1 hs hd _ _ _=>?_
 refine bv λGG PD=>?_
 obtain⟨es,ep,hx,Qn,hk,hp,hn⟩:=hd
 have P6:∀p∈news,p.1≠d:=λp hp=>abf (l1 p hp)
 obtain⟨Pv,_⟩:=S.entry F' N' P6
 have pl:Pl [(d,o)]:=λp hp=>by rw [cq hp]; exact lb Qn
 obtain⟨PF,PH⟩:=qL (news:=news) Pv pl (S.notFoot P6) F' N' hs ⟨es,hx,Qn,hk,hp,hn⟩ .nil
 refine PD ?_
 exact P _ _ _ _ _ h' s.toks PF PH (.ref (d:=d) (by rw [<- S.W.len]; simp)) (t ep)
theorem aa.dict {ks:List Str}{keys:List (Option Expr)}{Tk:List Expr}{pos:Pos}{T:TD}(h:ow α ℓ sc slots ks keys Tk T)(h0:keys≠[])(PL:keys.length<=15)(Qt:ks.Nodup):aa α ℓ sc slots (.Dict keys Tk pos) (kU T):=by
 intro A h₀ L env C D s m st φ news ρ S Lo Q Qc E t P
 refine kdn_eval (knd:=strKind α.prog α.w) S.F S.N C.T.nolimit h.all h.len h0 PL λd h' o F' N' l1 hs hd=>?_
 refine bv λGG PD=>?_
 obtain⟨es,ep,hx,Qn,hk,hp,hn⟩:=hd
 have P6:∀p∈news,p.1≠d:=λp hp=>abf (l1 p hp)
 have VD:=S.notFoot P6
 obtain⟨Pv,Py⟩:=S.entry F' N' P6
 refine PD ?_
 have pl:Pl [(d,o)]:=λp hp=>by rw [cq hp]; exact lb Qn
 refine h.run A h₀ L env C D _ m st φ ((d,o)::news) ρ Pv (Lo.grow Py) pos _ _ E t λfs Pz PE PS vs PM PN PF PH P5 Xo PU=>?_
 have Sv:∀p∈([(d,o)]:aO),p.1 ∉ [α.tab]:=λp hp hq=>by
  rw [cq hp] at hq
  have SV:d=α.tab:=cq hq
  obtain⟨ps,hm,_⟩:=S.W.tabs
  exact P6 _ hm SV.symm
 obtain⟨P3,Qg,aaH,W6⟩:=PF.split (o:=[(d,o)]) (news:=news) PH pl Pv.W.nodup (λp hp=>by rw [cq hp]; exact VD) Sv
 generalize oq [(d,o)] PS=RA at P3 Qg W6
 have hnr:∀p∈RA,p.1≠d:=λp hp e=>by
  have:=P3.W.nodup
  rw [abE,abR] at this
  exact this.2.2 d (.head _) p.1 (ew ⟨p,hp,rfl⟩) e.symm
 have aaE:=P5.mono (aaj _) W6
 obtain⟨kv,ks1,ks2,ks3⟩:=aaE.kvs
 refine kdn_made_str P3.F P3.N (.head hnr) ⟨es,ep,hx,Qn,hk,hp,hn⟩ ks1 (by rw [ks2,Xo]; exact Qt) λQN afk TV TK aaS=>?_
 obtain⟨aaG,aa2,Z1⟩:=aaS
 obtain⟨RM,SO⟩:=qL (news:=RA) P3 pl (aaH _ (.head _)) TV TK hs ⟨aaG,Z1⟩ kv
 exact P _ _ _ _ _ QN _ RM (Qg.trans SO) (.ref (d:=d) (by rw [<- PF.W.len]; simp)) (PU aa2)
end
section
variable {α:bC}{ℓ:Nat}{sc:abM}{slots:List Str}{h₀ h:Heap}{L:Addr}{m:Str->Option aac}{s:aal}{st:MS}{φ:bk}{news Pu:aO}{P8:Expr}
abbrev Nq (d n ep:Nat):Nat->Obj->Prop:=λi z=>z.cls=.type "dict_keyiterator"/\z.data=.fields #[.ref d,.int i 0,.int n 0,.int ep 0]
theorem ml.keysL {hB:Heap}{fs:List (Str×MV)}{kvs:List (Str×aac)}(r:ml hB news φ fs kvs):kvs.map (·.1)=fs.map (·.1):=by
 induction r with
 | nil=>rfl
 | cons _ _ ih=>simp [ih]
theorem Wd.dictIn {o:aO}{r:Nat}{fs:List (Str×MV)}{ep:Nat}{a d:Addr}(W:Wd α st φ (o++news))(h:st[r]?=some (.dict fs ep))(PP:φ[r]?=some (a,d))(hf:∀p∈o,p.1 ∉ bq φ) :
  d=a/\(a == aee)=false/\∃ob kvs,(a,ob)∈news/\vd α ob kvs ep/\kvs.map (·.1)=fs.map (·.1):=by
 refine bv λGG PD=>?_
 obtain⟨e,e2,ob,kvs,hm,hd,q⟩:=W.dict h PP
 refine PD ?_
 refine⟨e,e2,ob,kvs,?_,hd,q.keysL⟩
 rcases dU hm with hm | hm
 ·exact absurd (iE PP).1 (hf _ hm)
 ·exact hm
theorem IT {A:abw}{I a d:Addr}{r:Nat}{fs:List (Str×MV)}{ep:Nat}{y:Str}{p:Pos}(hh:A.handled=none)(PP:φ[r]?=some (a,d)):qX α A h₀ L φ (.Name y p) I (fs.map λx=>.str x.1) (λst=>st[r]?=some (.dict fs ep)) [I] (own1 I (Nq a fs.length ep)) where
 keys:=λi o h=>by obtain⟨z,rfl,_⟩:=h; rfl
 pl:=λi o h=>by obtain⟨z,rfl,hc,_⟩:=h; exact nv hc (by decide)
 item:=λi x hx s m st Px o news Q E S hG h pre hf P=>by
  refine bv λGG PD=>?_
  obtain⟨z,rfl,hz⟩:=h
  have pl:Pl [(I,z)]:=nv hz.1 (by decide)
  have Q7:=aA pre PP
  have YZ:=hf _ (.head _)
  obtain⟨rfl,_,ob,kvs,hm,hd,hk⟩:=S.W.dictIn hG Q7 hf
  refine PD ?_
  have hI:s.heap.get? I=some z:=S.N.get (.head _)
  rw [abF] at hx
  cases hfi:fs[i]? with
  | none=>rw [hfi] at hx; cases hx
  | some f =>
   rw [hfi] at hx
   have Rf:x=.str f.1:=(abl hx).symm
   subst Rf
   have Sm:∃v,kvs[i]?=some (f.1,v):=by
    have e1:(kvs.map (·.1))[i]?=some f.1:=by rw [hk,abF,hfi]; rfl
    rw [abF] at e1
    cases q:kvs[i]? with
    | none=>rw [q] at e1; cases e1
    | some kv=>rw [q] at e1; exact⟨kv.2,by rw [<- abl e1]⟩
   obtain⟨v,Sm⟩:=Sm
   have PL:fs.length=kvs.length:=by have:=congrArg aft hk; simpa using this.symm
   have hD:=hd.at (S.N.get (aba _ hm))
   refine wpAny_pyNext_dict_item (knd:=strKind α.prog α.w) (i:=i) ⟨z,hI,by rw [<- PL]; exact hz⟩ hD Sm λkey h₁ XT SG hs=>?_
   obtain⟨tk,rfl⟩:∃tk,key=.str f.1 tk:=by
    have:Value.isStrOf f.1 key=true:=XT
    cases key with
    | str x t=>simp [Value.isStrOf] at this; exact⟨t,by rw [this]⟩
    | _=>cases this
   refine⟨_,rfl,?_⟩
   obtain⟨z',Q2,Rx⟩:=SG
   rw [show ab8 (.Name y p) (.ref I) (agY f.1 tk)=pure () from rfl]
   exact abb (P _ h₁ s.toks [(I,z')] news (S.own1 pl YZ hs Q2) (λ_ h=>h) ⟨z',rfl,by rw [PL]; exact Rx⟩ (.str _ _))
 self:=λs m st Px o news Q E S h P=>by
  obtain⟨z,rfl,hz⟩:=h
  exact wpAny_pyIter_keyiter (i:=0) ⟨z,S.N.get (.head _),hz⟩ P
 done:=λs m st Px o news Q E S hG h pre hf P=>by
  refine bv λGG PD=>?_
  obtain⟨z,rfl,hz⟩:=h
  have pl:Pl [(I,z)]:=nv hz.1 (by decide)
  have Q7:=aA pre PP
  obtain⟨rfl,_,ob,kvs,hm,hd,hk⟩:=S.W.dictIn hG Q7 hf
  refine PD ?_
  have hI:s.heap.get? I=some z:=S.N.get (.head _)
  have PL:fs.length=kvs.length:=by have:=congrArg aft hk; simpa using this.symm
  have hD:=hd.at (S.N.get (aba _ hm))
  exact wpAny_pyNext_dict_end (knd:=strKind α.prog α.w) (kvs:=kvs) hh ⟨z,hI,by rw [<- PL]; exact hz⟩ hD (afS (by simp [PL])) λh₁ hs=>P h₁ s.toks (S.drop1 pl (hf _ (.head _)) hs)
def Cw (o:Option MO)(K:List (Str×MV)->Nat->Prop):Prop:=match o with | some (.dict fs ep)=>K fs ep | _=>False
theorem Gp {o:Option MO}{K:List (Str×MV)->Nat->Prop}{G:Prop}(t:Cw o K)(k:∀fs ep,o=some (.dict fs ep)->K fs ep->G):G:=by
 cases o with
 | none=>exact t.elim
 | some a=>cases a with
  | dict fs ep=>exact k fs ep rfl t
  | _=>exact t.elim
def AY (Q:List MV->(MS->Prop)->MS->Prop):MV->MS->Prop:=λV Pt =>
 h7 (λr=>Cw Pt[r]? λfs ep=>Q (fs.map λx=>.str x.1) (λst=>st[r]?=some (.dict fs ep)) Pt) V
def FV (a:TE):TI:=λρ st Q=>a ρ st (AY Q)
theorem ch.dict {y:Str}{p:Pos}{e:Expr}{a:TE}(h:aa α ℓ sc slots e a):ch α ℓ sc slots (.Name y p) e (FV a):=by
 intro A h₀ L env C D s m st φ news ρ PB Lo Q Qc E t P
 refine h A h₀ L env C D s m st φ news ρ PB Lo _ _ E t λV Pt Px PC v h₁ PA Pv Py PO Pw=>?_
 apply PO.oR Pw; intro r a d PP Pw
 refine Gp Pw λfs ep hr Pw=>?_
 refine Pv.W.dictC hr PP λob kvs PP hs hm hd q=>?_
 have PL:fs.length=kvs.length:=by have:=congrArg aft q.keysL; simpa using this.symm
 refine wpAny_pyIter_dict (knd:=strKind α.prog α.w) hs (hd.at (Pv.N.get hm)) ?_
 obtain⟨n1,n2⟩:=Pv.nextNone
 obtain⟨PF,hf⟩:=Pv.new1 (h':=h₁.push { cls:=.type "dict_keyiterator",data:=.fields #[.ref a,.int 0 0,.int kvs.length 0,.int ep 0] }) n1 n2 (abC _ rfl) λ_ _ e=>aao _ e
 exact P _ _ _ _ _ _ Pt Px PC _ PA PF Py (IT C.hand PP) ⟨_,rfl,rfl,by rw [PL]; rfl⟩ (λp hp=>by rw [cq hp]; exact hf) (.head _) Pw
end
noncomputable def dH (led:Bool)(place:Array Nat):adR:={ mask:=7,place:=place,dummies:=#[],finger:=0,led:=led,moves:=0,plain:=true }
theorem wL (p j:Nat):adg #[p] j=if p < j then 1 else 0:=by with_unfolding_all rfl
theorem Nv (led:Bool)(j:Nat):ajf (dH led #[]) j=.empty:=rfl
theorem Ke (led:Bool)(p j:Nat):ajf (dH led #[p]) j=if j=p then .live 0 else .empty:=by
 show (if (#[p])[adg #[p] j]? == some j then SetTable.Slot.live (adg #[p] j) else .empty)=_
 rw [wL]
 by_cases h:j=p
 ·rw [if_pos h,h,if_neg (acj p)]; exact if_pos (beq_self_eq_true (some p))
 ·rw [if_neg h]
  by_cases h2:p < j
  ·rw [if_pos h2]; rfl
  ·rw [if_neg h2]; exact if_neg λq=>h (abl (eq_of_beq q)).symm
theorem Md {led:Bool}{p:Nat}{P:SetTable.Probe}(hm:P.more=0):(dH led #[p]).advance P=⟨(P.i * 5+1+P.perturb / 32) % 8,0,(P.i * 5+1+P.perturb / 32) % 8,P.perturb / 32,P.dummy⟩:=by
 refine (if_neg (by rw [hm]; exact acj 0)).trans ?_
 have q (i:Nat):SetTable.runEnd 7 i - i=0:=by
  rw [show SetTable.runEnd 7 i=i from if_neg λq=>absurd (aan (Nat.le_add_left 9 i) q) (by decide)]; exact Nat.sub_self i
 exact congrArg (λn=>SetTable.Probe.mk _ n _ _ _) (q _)
theorem JR {t:adR}{f:Nat->Int}{h:Int}{fuel:Nat}{P:SetTable.Probe}{s:SetTable.Slot}(e:t.slot P.j=s):adq t f h (fuel+1) P =
  s.casesOn (motive:=λ_=>Option SetTable.Met) (some (.empty P.j P.dummy)) (adq t f h fuel (t.advance { P with dummy:=some P.j }))
   λi=>if f i == h then some (.candidate P.j i (t.advance P)) else adq t f h fuel (t.advance P):=by
 cases e; rfl'
theorem ML (led:Bool)(p:Nat)(f:Nat->Int)(h:Int)(hf:∀i,f i≠h):∀(k fuel:Nat)(P:SetTable.Probe),P.j=P.i->P.more=0->P.perturb < 32 ^ k->k+2<=fuel->∃j,j≠p/\adq (dH led #[p]) f h fuel P=some (.empty j P.dummy):=by
 intro k
 have XR (fuel:Nat) (P:SetTable.Probe) (h1:P.j≠p):adq (dH led #[p]) f h (fuel+1) P=some (.empty P.j P.dummy):=
  JR ((Ke led p P.j).trans (if_neg h1))
 have Zx (fuel:Nat) (P:SetTable.Probe) (h1:P.j=p):adq (dH led #[p]) f h (fuel+1) P=adq (dH led #[p]) f h fuel ((dH led #[p]).advance P):=
  (JR ((Ke led p P.j).trans (if_pos h1))).trans (if_neg λq=>hf 0 (eq_of_beq q))
 induction k with
 | zero =>
  intro fuel P hj hm hp hk
  obtain⟨fuel,rfl⟩:∃n,fuel=n+2:=⟨fuel - 2,by walk_at "o"⟩
  by_cases h1:P.j=p
  ·have e0:P.perturb / 32=0:=by rw [Nat.lt_one_iff.mp hp]
   have e1:(P.i * 5+1) % 8≠p:=by rw [<- h1,hj]; walk_at "o"
   refine⟨_,e1,?_⟩
   rw [Zx _ P h1,Md hm,e0]
   exact XR _ _ e1
  ·exact⟨P.j,h1,XR _ P h1⟩
 | succ k ih =>
  intro fuel P hj hm hp hk
  obtain⟨fuel,rfl⟩:∃n,fuel=n+1:=⟨fuel - 1,by walk_at "o"⟩
  by_cases h1:P.j=p
  ·rw [Zx _ P h1,Md hm]
   exact ih fuel _ rfl rfl (by show P.perturb / 32 < 32 ^ k; rw [Nat.pow_succ] at hp; exact Nat.div_lt_of_lt_mul (Nat.mul_comm .. ▸ hp)) (Nat.le_of_succ_le_succ hk)
  ·exact⟨P.j,h1,XR _ P h1⟩
theorem Nr (led:Bool)(h:Int):afH (dH led #[]) h=some (af6 h % 8,false):=by
 unfold afH ai8
 rw [show adq (dH led #[]) (λ_=>h+1) h (10 * SetTable.turns (dH led #[]).mask) _=_ from JR (fuel:=219) (Nv led _)]
 rfl
theorem NI (led:Bool)(p:Nat)(h:Int):∃j,j≠p/\afH (dH led #[p]) h=some (j,false):=by
 obtain⟨j,a,b⟩:=ML led p (λ_=>h+1) h (λ_=>by walk_at "o") 13 (10 * SetTable.turns (dH led #[p]).mask) ((dH led #[p]).probeStart h) rfl (by
   show SetTable.runEnd 7 _ - _=0
   rw [show SetTable.runEnd 7 (af6 h % 8)=af6 h % 8 from if_neg λq=>absurd (aan (Nat.le_add_left 9 _) q) (by decide)]; exact Nat.sub_self _) (by
   show af6 h < _
   unfold af6
   have:h % 18446744073709551616 < 18446744073709551616:=Int.emod_lt_of_pos _ (by decide)
   have h2:(2:Int) ^ 64=18446744073709551616:=by decide
   have h3:(32:Nat) ^ 13=36893488147419103232:=by decide
   rw [h2,h3]
   walk_at "o") (by show 15<=220; decide)
 refine⟨j,a,?_⟩
 unfold afH ai8
 rw [b]
 rfl
theorem NU (led:Bool)(h:Int)(x:aac):∃p,ai9 (dH led #[]) #[] h x=(#[(h,x)],dH led #[p],false,false):=by
 unfold ai9
 rw [Nr]
 exact⟨_,rfl⟩
theorem N8 (led:Bool)(p:Nat)(h h':Int)(x x':aac):∃q r,q < r/\(ai9 (dH led #[p]) #[(h',x')] h x=(#[(h',x'),(h,x)],dH led #[q,r],false,false)\/ai9 (dH led #[p]) #[(h',x')] h x=(#[(h,x),(h',x')],dH led #[q,r],false,false)):=by
 obtain⟨j,hj,e⟩:=NI led p h
 unfold ai9
 rw [e]
 dsimp only
 unfold SetTable.put
 have e1:adg (dH led #[p]).place j=if p < j then 1 else 0:=wL p j
 dsimp only
 rw [e1]
 by_cases hp:p < j
 ·refine⟨p,j,hp,.inl ?_⟩
  rw [if_pos hp]
  rfl
 ·refine⟨j,p,by walk_at "o",.inr ?_⟩
  rw [if_neg hp]
  rfl
theorem AO (p q j:Nat):adg #[p,q] j=if q < j then 2 else if p < j then 1 else 0:=by with_unfolding_all rfl
theorem LP (p q:Nat):adg #[p,q] 0=0:=by
 rw [AO,if_neg (ab9 q),if_neg (ab9 p)]
theorem KU (p q:Nat)(h:p < q):adg #[p,q] (p+1)=1:=by
 rw [AO,if_neg (Nat.not_lt_of_le h),if_pos (aby p)]
theorem KX (p q:Nat)(h:p < q):adg #[p,q] (q+1)=2:=by
 rw [AO,if_pos (aby q)]
inductive ig (led:Bool):List (Int×Tok)->adR->Prop
 | nil:ig led [] (dH led #[])
 | one (x:Int×Tok) (p:Nat):ig led [x] (dH led #[p])
 | two (x y:Int×Tok) (p q:Nat) (h:p < q):ig led [x,y] (dH led #[p,q])
noncomputable def cI (ps:List (Int×Tok)):Array (Int×aac):=(ps.map λp=>(ahR p.1,aet p.1 p.2)).toArray
def vQ (led:Bool)(h:Heap)(S:Addr)(ps:List (Int×Tok)):Prop:=∃o ep t,h.get? S=some o/\o.ExactSet/\o.data=.set (cI ps) ep t/\ig led ps t/\(ps.map (·.1)).Nodup
theorem ig.fits {led:Bool}{ps:List (Int×Tok)}{t:adR}(h:ig led ps t):t.fits (cI ps).size=true:=by
 cases h <;> rfl
theorem ig.small {led:Bool}{ps:List (Int×Tok)}{t:adR}(h:ig led ps t):(cI ps).size<=2:=by
 cases h <;> simp [cI]
section
variable {prog:adh}{w:aa9}{A:abw}{E:aac->aal->Prop}{s:aal}
theorem Fk (ps:List (Int×Tok)):ElemsOf (adr prog w) (cI ps).toList:=λe he=>by
 unfold cI at he
 simp only [afw] at he
 obtain⟨p,_,rfl⟩:=he
 exact⟨⟨p.1,af2 _ _ _ _,rfl⟩,rfl⟩
theorem vQ.keep {led:Bool}{h h':Heap}{S:Addr}{ps:List (Int×Tok)}(hS:vQ led h S ps)(k:∀o,h.get? S=some o->h'.get? S=some o):vQ led h' S ps:=by
 obtain⟨o,ep,t,ho,r⟩:=hS
 exact⟨o,ep,t,k _ ho,r⟩
theorem FT {α:Type}{M:ah5}{A:abw}{c:Prop} [Decidable c] {a b:Sem α}{Q:α->aal->Prop}{E:aac->aal->Prop}{s:aal}(h:c)(k:wpAny M A a Q E s):wpAny M A (ite c a b) Q E s:=by
 rw [if_pos h]; exact k
theorem xw {α:Type}{M:ah5}{A:abw}{c:Prop} [Decidable c] {a b:Sem α}{Q:α->aal->Prop}{E:aac->aal->Prop}{s:aal}(h:¬c)(k:wpAny M A b Q E s):wpAny M A (ite c a b) Q E s:=by
 rw [if_neg h]; exact k
theorem KJ {led:Bool}{S:Addr}{ps:List (Int×Tok)}{k:Int}{tk:Tok}{Q:Bool->aal->Prop}{o:Obj}{ep:Nat}{t:adR}(ho:s.heap.get? S=some o)(Um:o.ExactSet)(hd:o.data=.set (cI ps) ep t)
  (h:∀b h' Qj,adi S s.heap h'->vQ led h' S Qj->(∀x,x∈Qj.map (·.1)↔x∈ps.map (·.1)\/x=k)->Q b { s with heap:=h' })
  {X:Array (Int×aac)×adR×Bool×Bool} (Qj:List (Int×Tok)) (t':adR) (e:X=(cI Qj,t',false,false)) (Ut:t'.plain=true) (ZH:t'.tooFull=false) (Tb:ig led Qj t') (Xd:(Qj.map (·.1)).Nodup) (hx:∀x,x∈Qj.map (·.1)↔x∈ps.map (·.1)\/x=k) :
  wpAny (abe prog w) A (do
   let (es,t,wasDummy,gave):=X
   (match gave with | true=>rule "set.scan.the-table-gave-way" | false=>pure ())
   let byValue <- if t.plain then hashByValue 8 (.int k tk) else pure true
   let t:=if byValue then t else { t with plain:=false }
   storeSet S es t
   if !wasDummy && t.tooFull then
    let (es,t,gave):=relayAll t es (SetTable.grown es.size)
    (match gave with | true=>rule "set.scan.the-table-gave-way" | false=>pure ())
    storeSet S es t
   return some true) (λr P0=>match r with | some a=>wpAny (abe prog w) A (pure a) Q E P0 | none=>False) E s:=by
 subst e
 dsimp only
 refine aag (abb ?_)
 rw [Ut,hashByValue_scannable 8 rfl]
 refine aag (abb ?_)
 refine aag (wpAny_storeSet_of (t':=t') ho hd ?_ (aan Tb.small (by decide)))
 refine xw (λq=>Bool.noConfusion (q.symm.trans ZH)) ?_
 refine abb (abb (h true _ Qj (ads s.heap S _) ?_ hx))
 have hg:(s.heap.update S (Obj.putSet (cI Qj) t')).get? S=some { o with data:=.set (cI Qj) (ep+1) t' }:=by
  have:=adf (Obj.putSet (cI Qj) t') ho (by rw [putSet_of (cI Qj) t' hd]; rfl)
  rw [putSet_of (cI Qj) t' hd] at this; exact this
 exact⟨_,ep+1,t',hg,Um,rfl,Tb,Xd⟩
theorem LX {led:Bool}{ps:List (Int×Tok)}{k:Int}{tk:Tok}{t:adR}(hl:ig led ps t)(hk:k ∉ ps.map (·.1))(h2:ps.length < 2){G:Prop}
  (f:∀Qj t',ai9 t (cI ps) (ahR k) (.int k tk)=(cI Qj,t',false,false)->t'.plain=true->t'.tooFull=false->ig led Qj t'->(Qj.map (·.1)).Nodup->(∀x,x∈Qj.map (·.1)↔x∈ps.map (·.1)\/x=k)->G):G:=by
 cases hl with
 | nil =>
  obtain⟨p,e⟩:=NU led (ahR k) (.int k tk)
  exact f [(k,tk)] _ e rfl rfl (.one _ p) (by simp) (by simp)
 | one x p =>
  obtain⟨q,r,hqr,e⟩:=N8 led p (ahR k) (ahR x.1) (.int k tk) (.int x.1 x.2)
  have UL:k≠x.1:=by simpa using hk
  rcases e with e | e
  ·exact f [x,(k,tk)] _ e rfl rfl (.two _ _ q r hqr) (by simp; exact λq=>UL q.symm) (by simp)
  ·exact f [(k,tk),x] _ e rfl rfl (.two _ _ q r hqr) (by simp; exact UL) (by intro y; simp; constructor <;> rintro (q | q) <;> simp [q])
 | two x y p q hpq=>exact absurd h2 (acj 2)
theorem Hd {ps:List (Int×Tok)}{k:Int}{j:Nat}(hr:ah8 (λe=>(adr prog w).is k e.2) (cI ps).toList=some j):k∈ps.map (·.1):=by
 obtain⟨hj,hpj,_⟩:=List.findIdx?_eq_some_iff_getElem.mp hr
 have hm:=List.getElem_mem hj
 unfold cI at hm hpj
 obtain⟨p,hp,e⟩:=c9 hm
 rw [<- e] at hpj
 exact ew ⟨p,hp,((adr prog w).inj _ _ _ hpj (af2 _ _ _ _)).symm⟩
theorem HN {ps:List (Int×Tok)}{k:Int}(hr:ah8 (λe=>(adr prog w).is k e.2) (cI ps).toList=none):k ∉ ps.map (·.1):=λhm=>by
 obtain⟨p,hp,e⟩:=c9 hm
 have:=List.findIdx?_eq_none_iff.mp hr (ahR p.1,aet p.1 p.2) (by unfold cI; exact ew ⟨p,hp,rfl⟩)
 rw [<- e,show (adr prog w).is p.1 (aet p.1 p.2)=true from af2 _ _ _ _] at this
 cases this
theorem FH {led:Bool}{S:Addr}{ps:List (Int×Tok)}{k:Int}{tk:Tok}{Q:Bool->aal->Prop}(hS:vQ led s.heap S ps)(hr:k∈ps.map (·.1)\/ps.length < 2)
  (h:∀b h' Qj,adi S s.heap h'->vQ led h' S Qj->(∀x,x∈Qj.map (·.1)↔x∈ps.map (·.1)\/x=k)->Q b { s with heap:=h' }) :
  wpAny (abe prog w) A (setAddHashed S (.int k tk) (ahR k)) Q E s:=by
 have U9:=hS
 refine bv λGG PD=>?_
 obtain⟨o,ep,t,ho,Um,hd,hl,hn⟩:=hS
 refine PD ?_
 have SR:=Fk (prog:=prog) (w:=w) ps
 have hb:(cI ps).size < scanBound:=ace hl.small (by decide)
 have hf:=hl.fits
 have XT:(adr prog w).is k (.int k tk)=true:=af2 _ _ _ _
 unfold setAddHashed setAddHashedIn
 refine ab3 (aag (afI ho hd hf ?_))
 dsimp only
 rw [byScan_of rfl hb SR]
 rw [if_pos rfl]
 unfold setAddByScan
 refine aag ?_
 refine aag (aja ?_)
 refine aag (wpAny_setScan_of (knd:=adr prog w) XT ho hd hf SR ?_)
 cases VI:ah8 (λe=>(adr prog w).is k e.2) (cI ps).toList with
 | some j =>
  exact abb (abb (h false s.heap ps (Heap.SameBut.refl S s.heap) U9 λx=>⟨.inl,λq=>q.elim id λe=>e ▸ Hd VI⟩))
 | none =>
  have hk:=HN VI
  refine LX (tk:=tk) hl hk (hr.elim (λq=>absurd q hk) id) λQj t' e Ut ZH Tb Xd hx=>?_
  refine abU (KJ ho Um hd h Qj t' e Ut ZH Tb Xd hx) (λr P0 hr=>?_) λ_ _ q=>q
  cases r with
  | some a=>exact hr
  | none=>exact hr.elim
end
section
variable {prog:adh}{w:aa9}{A:abw}{R:afZ->aal->Prop}{I:Addr}{fp wr:List Addr}{G:Array GenState->Array GenState->Prop}{n:Nat}{P:Nat->aac->Prop}{St:Nat->aal->Prop}
def k6 (led:Bool)(h:Heap)(S:Addr)(val:Nat->Int)(i:Nat):Prop:=∃ps,vQ led h S ps/\∀x,x∈ps.map (·.1)↔∃j,j < i/\x=val j
theorem k6.keep {led:Bool}{h h':Heap}{S:Addr}{val:Nat->Int}{i:Nat}(hS:k6 led h S val i)(k:∀o,h.get? S=some o->h'.get? S=some o):k6 led h' S val i:=by
 obtain⟨ps,a,b⟩:=hS
 exact⟨ps,a.keep k,b⟩
theorem K0 (W:WalksS prog w A.in1 I fp wr G n P St)(led:Bool)(S:Addr)(Ya:S ∉ fp)(val:Nat->Int)(Xv:∀i v,P i v->∃t,v=.int (val i) t)
  (Rl:∀l:List Int,l.Nodup->(∀x∈l,∃j,j < n/\x=val j)->l.length<=2) :
  ∀(k i:Nat) (s:aal),n - i=k->i<=n->St i s->k6 led s.heap S val i ->
   (∀s',Moved (S::wr) G s s'->k6 led s'.heap S val n->R (.ok (.ret .none)) s') ->
   adA (abe prog w) A (.builtin "set.update.loop" ⟨[.ref S,.ref I],[]⟩) R s:=by
 have hSw:S ∉ wr:=λh=>Ya (W.sub _ h)
 have Vr:∀b∈wr,b∈S::wr:=λb hb=>List.mem_cons_of_mem _ hb
 intro k
 induction k with
 | zero =>
  intro i s hk hi QL hS hR
  have QY:i=n:=by walk_at "o"
  subst QY
  refine aeo aeR ?_
  rw [ad3 adK _]
  show wpAny _ A.in1 (afD (.ref I) >>= _) _ _ s
  refine aag (W.done s _ _ QL λs' hm=>?_)
  show wpAny _ A.in1 (ret aij) _ _ s'
  exact abb (hR s' (hm.mono Vr) (hS.keep λo e=>hm.heap S _ hSw e))
 | succ k ih =>
  intro i s hk hi QL hS hR
  have PR:i < n:=by walk_at "o"
  refine aeo aeR ?_
  rw [ad3 adK _]
  show wpAny _ A.in1 (afD (.ref I) >>= _) _ _ s
  refine aag (W.item i s _ _ PR QL λv s' hP acS hm=>?_)
  obtain⟨t,rfl⟩:=Xv i v hP
  obtain⟨ps,hL,Ti⟩:=hS.keep (h':=s'.heap) λo e=>hm.heap S _ hSw e
  have Uh:val i∈ps.map (·.1)\/ps.length < 2:=by
   by_cases hq:val i∈ps.map (·.1)
   ·exact .inl hq
   ·refine .inr ?_
    refine bv λGG PD=>?_
    obtain⟨o,ep,tt,_,_,_,_,hn⟩:=id hL
    refine PD ?_
    have:=Rl (val i::ps.map (·.1)) (abY.mpr ⟨hq,hn⟩) λx hx=>by
     rcases bN hx with rfl | hx
     ·exact⟨i,PR,rfl⟩
     ·obtain⟨j,a,b⟩:=(Ti x).mp hx
      exact⟨j,by walk_at "o",b⟩
    simp only [abz,abg] at this
    walk_at "o"
  show wpAny _ A.in1 (ag9 [aet (val i) t] (setAdd S (.int (val i) t)) >>= _) _ _ s'
  refine aag (ab3 ?_)
  unfold setAdd
  refine ab3 ?_
  refine aag ((adr prog w).pyHash (k:=val i) (af2 _ _ _ _) ?_)
  refine FH (s:={ s' with toks:=s'.toks+1 }) hL Uh λb h' Qj hsb hL' hx=>?_
  have hSi:k6 led h' S val (i+1):=⟨Qj,hL',λx=>by
   rw [hx,Ti]
   constructor
   ·rintro (⟨j,a,b⟩ | rfl)
    ·exact⟨j,by walk_at "o",b⟩
    ·exact⟨i,by walk_at "o",rfl⟩
   ·rintro⟨j,a,b⟩
    by_cases q:j=i
    ·subst q; exact .inr b
    ·exact .inl ⟨j,by walk_at "o",b⟩⟩
  refine abb ⟨agS adK _,ih (i+1) _ (by walk_at "o") PR (W.frame _ s' _ _ acS (agJ _) λb hb o e=>?_) hSi λUJ acR acx=>?_⟩
  ·rw [hsb.2 b (λh:b=S=>Ya (by rw [<- h]; exact hb))]; exact e
  ·refine hR UJ (Moved.trans W.gtrans ((hm.mono Vr).then_heap (agJ _) λb o hb e=>?_) acR) acx
   rw [hsb.2 b (λh:b=S=>hb (by rw [h]; exact List.mem_cons_self))]; exact e
end
noncomputable abbrev r4 (led:Bool):Obj:={ cls:=.type "set",dict:=none,data:=.set #[] 0 (.fresh 0 0 led) }
theorem Ll {led:Bool}{h:Heap}{S:Addr}{val:Nat->Int}(e:h.get? S=some (r4 led)):k6 led h S val 0:=
 ⟨[],⟨_,0,_,e,⟨rfl,rfl,rfl⟩,rfl,.nil,List.nodup_nil⟩,λx=>by simp⟩
section
variable {prog:adh}{w:aa9}{A:abw}{E:aac->aal->Prop}{s:aal}
theorem Dk (a:aac){Q₁:aac->aal->Prop}(h:Q₁ (.ref s.heap.objs.size) { s with heap:=s.heap.push (r4 !(w.params.followText "set-order")) }) :
  adA (abe prog w) A (.call (.builtin "set.__new__") ⟨[.type "set",a],[]⟩) (wants Q₁ E) s:=by
 refine ahk ?_
 show wpAny _ A.in1 (do ag2 "set.__new__" ⟨[.type "set",a],[]⟩; again (.builtin "set.__new__" ⟨[.type "set",a],[]⟩)) _ _ s
 refine aag (wpAny_of_eq (PySem.F.newCall_set_1 a) (abb ⟨agS ahq _,aeo PySem.F.entry_set_new ?_⟩))
 rw [ad3 ahq _]
 unfold aei.«set.__new__» Builtin.Frozenset.newClass
 have Vr:=sub_set_self
 obtain⟨hp,g,d,tk,os⟩:=s
 dsimp only
 wp_walk
 refine aeb (abb ?_)
 dsimp only
 simp only [newObj]
 refine aag (wpAny_alloc (abb ?_))
 exact abb h
set_option maxHeartbeats 3200000 in
theorem Jy {h₁:Heap}{S l:Addr}{items:Array aac}{ns:List Int}{led:Bool}{K:ahS->aal->Prop}(hh:A.handled=none)(hS:h₁.get? S=some (r4 led))(hl:h₁.IsList l items)(hi:ahJ items.toList ns)
  (Rl:∀l:List Int,l.Nodup->(∀x∈l,∃j,j < items.size/\x=ns.getD j 0)->l.length<=2) (hlS:l < S) (hsz:h₁.objs.size=S+1)
  (k:∀h' tk,k6 led h' S (λi=>ns.getD i 0) items.size->(∀b o,b < S->h₁.get? b=some o->h'.get? b=some o)->K (.done (.ret .none)) { s with heap:=h',toks:=tk }) :
  wpAny (abe prog w) A (aei.«set.__init__» ⟨[.ref S,.ref l],[]⟩) K E { s with heap:=h₁ }:=by
 obtain⟨⟨acG,ae1,aaZ,aeg⟩,hol',Q9,nl,V7⟩:=id hl
 obtain rfl:acG=.type "list":=Q9
 obtain rfl:aaZ=.seq items nl:=V7
 have hT:Shared.TypeIs { s with heap:=h₁ } (.ref S) "set":=⟨_,hS,rfl⟩
 have Vr:=PySem.F.called_set.sub
 have afh:=PySem.F.sub_list_set
 have afe:=PySem.F.sub_list_frozenset
 have P6:(aid "list" == aid "dict")=false:=by decide
 unfold aei.«set.__init__» noKeywords Builtin.Frozenset.updateFrom
 generalize hPI:ajk=PI
 wp_walk
 subst hPI
 refine agK hl ?_
 refine aag (wpAny_runValue ?_)
 have hh3:A.in1.handled=none:=by simp [hh]
 have acn:l≠h₁.objs.size:=by rw [hsz]; exact abf (abN hlS)
 have Ya:S ∉ [h₁.objs.size,l]:=by
  rw [hsz]; simp only [abB,agn,abx,or_false,not_or]
  exact⟨abf (aby _),abW hlS⟩
 have Xv:∀(i:Nat) (v:aac),items[i]?=some v->∃t,v=.int ((λi=>ns.getD i 0) i) t:=λi v hv =>
  PyProof.Rows.IntsAre.int_at hi i v (by rw [adv]; exact hv)
 refine K0 ((Walks.list hh3 _ l acn items).toS) led S Ya (λi=>ns.getD i 0) Xv Rl (items.size - 0) 0 _ (by walk_at "o") (abS _)
  ⟨⟨_,abC _ rfl,rfl,rfl⟩,(hl.push _)⟩ (Ll (aao _ hS)) ?hR
 case hR =>
  intro s' hm U9
  obtain⟨h',g',d',PV,os'⟩:=s'
  obtain rfl:g'=s.gens:=hm.gens
  obtain rfl:d'=s.drawn:=hm.drawn
  obtain rfl:os'=s.os:=hm.os
  show wpAny _ _ _ _ _ _
  refine abb ?_
  show wpAny _ _ (ret aij) _ _ _
  refine abb (k h' PV U9 λb o hb e=>?_)
  have Wg:b≠h₁.objs.size:=by rw [hsz]; exact abf (abN hb)
  exact hm.heap b o (by simp only [abB,agn,abx,or_false,not_or]; exact⟨abf hb,Wg⟩) (aao _ e)
set_option maxHeartbeats 3200000 in
theorem Ej {l:Addr}{items:Array aac}{ns:List Int}{Q:aac->aal->Prop}
  (hh:A.handled=none) (hl:s.heap.IsList l items) (hi:ahJ items.toList ns) (Rl:∀l:List Int,l.Nodup->(∀x∈l,∃j,j < items.size/\x=ns.getD j 0)->l.length<=2)
  (h:∀(h':Heap) (tk:Nat),k6 (!(w.params.followText "set-order")) h' s.heap.objs.size (λi=>ns.getD i 0) items.size ->
   (∀b o,b < s.heap.objs.size->s.heap.get? b=some o->h'.get? b=some o)->Q (.ref s.heap.objs.size) { s with heap:=h',toks:=tk }) :
  wpAny (abe prog w) A (call (.type "set") [.ref l]) Q E s:=by
 obtain⟨c,tl,afa⟩:=PySem.F.called_set.mro
 have ae4:=PySem.F.called_set.made
 have Vr:=PySem.F.called_set.sub
 refine aeC (ahk ?_)
 show wpAny _ _ (callAny (.type "set") _) _ _ _
 refine abb ⟨agx _ (by decide +kernel),aeo PySem.F.entry_type_call ?_⟩
 rw [Around.under_plain (weight_type_call_type "set" [.ref l] []) rfl]
 have h1:=PySem.F.called_set.notType
 have h2:=PySem.F.called_set.canCreate
 have Vn:=PySem.F.typeCall_set_1 (.ref l)
 repeat (any_goals (first | assumption | wp_step))
 generalize hled:(!(w.params.followText "set-order"))=led at h
 refine aiA (Dk (.ref l) (E:=E) (Q₁:=λobj P0=>obj=.ref s.heap.objs.size/\P0={ s with heap:=s.heap.push (r4 led) }) ⟨rfl,by rw [hled]⟩) λr P0 hr=>?_
 cases r with
 | error e=>exact hr
 | ok fl =>
  cases fl with
  | ret obj =>
   obtain⟨rfl,rfl⟩:=hr
   have hS:(s.heap.push (r4 led)).get? s.heap.objs.size=some (r4 led):=abC _ rfl
   have hT:Shared.TypeIs { s with heap:=s.heap.push (r4 led) } (.ref s.heap.objs.size) "set":=⟨_,hS,rfl⟩
   have hli:=PySem.F.called_set.init.lookup
   have hbi:=PySem.F.called_set.init.bind (.ref s.heap.objs.size)
   repeat (any_goals (first | assumption | wp_step))
   refine aiA (af9 (R:=wants (λr Qo=>r=.none/\∃h' tk,Qo={ s with heap:=h',toks:=tk } /\
     k6 led h' s.heap.objs.size (λi=>ns.getD i 0) items.size/\(∀b o,b < s.heap.objs.size->s.heap.get? b=some o->h'.get? b=some o)) E) PySem.F.called_set.init.plain PySem.F.entry_set_init (check_set_init_1 hT ?_)) λP5 Qo Wr=>?_
   ·have Z8:=hl
    obtain⟨ol,Z8,_⟩:=Z8
    exact Jy (s:=s) (h₁:=s.heap.push (r4 led)) (by simp [hh]) hS (hl.push _) hi Rl (abn Z8) (adO _ _) λh' tk U9 hk=>⟨rfl,h',tk,rfl,U9,λb o hb e=>hk b o hb (aao _ e)⟩
   ·cases P5 with
    | error e=>exact Wr
    | ok fl₂ =>
     cases fl₂ with
     | ret r =>
      refine bv λGG PD=>?_
      obtain⟨rfl,h',tk,rfl,U9,QA⟩:=Wr
      refine PD ?_
      repeat (any_goals (first | assumption | wp_step))
      exact h _ _ U9 QA
     | _=>exact Wr.elim
  | _=>exact hr.elim
end
theorem xD {β:Type}:∀(l:List β)(i:Nat)(h:i < l.length),(l[i]::l.eraseIdx i).Perm l
 | a::l,0,_=>.refl _
 | a::l,i+1,h=>(List.Perm.swap _ _ _).trans (.cons a (xD l i (by simpa using h)))
theorem Lx {β:Type}{next:Nat->Nat}{fuel k:Nat}{left:List β}{out:Array β}{o:Option β}(e:left[next k % left.length]?=o) :
  aiB next (fuel+1) k left out=o.elim out λx=>aiB next fuel (k+1) (left.eraseIdx (next k % left.length)) (out.push x):=by
 cases e; rfl'
theorem HQ {β:Type}(next:Nat->Nat):∀(fuel k:Nat)(left:List β)(out:Array β),left.length=fuel->(aiB next fuel k left out).toList.Perm (out.toList++left):=by
 intro fuel
 induction fuel with
 | zero =>
  intro k left out h
  rw [abL h,abv]
  exact .refl _
 | succ fuel ih =>
  intro k left out h
  have PR:next k % left.length < left.length:=Nat.mod_lt _ (h ▸ Nat.succ_pos _)
  rw [Lx (abc PR)]
  refine (ih (k+1) _ _ (by rw [List.length_eraseIdx_of_lt PR,h]; exact ady ..)).trans ?_
  rw [aex,abO]
  exact List.Perm.append_left _ (xD left _ PR)
noncomputable def jn (w:aa9)(S:Addr)(ep:Nat)(ps:List (Int×Tok)):Array (Int×aac):=if w.params.followText "set-order" then pickOrder (w.params.setOrder S ep) (cI ps) else cI ps
theorem zC (w:aa9)(S:Addr)(ep:Nat)(ps:List (Int×Tok)):(jn w S ep ps).toList.Perm (cI ps).toList:=by
 unfold jn
 by_cases h:w.params.followText "set-order"=true
 ·rw [if_pos h]; exact HQ (w.params.setOrder S ep) (cI ps).size 0 (cI ps).toList #[] abm
 ·rw [if_neg h]
theorem nQ (w:aa9)(S:Addr)(ep:Nat)(ps:List (Int×Tok)):(jn w S ep ps).size=ps.length:=by
 have:=(zC w S ep ps).length_eq
 rw [abm] at this
 rw [this]
 simp [cI]
noncomputable def jO (b:Bool)(place:Array Nat):Nat->Nat
 | 0=>0
 | i+1=>if b then 0 else place.getD i 0+1
section
variable {prog:adh}{w:aa9}{A:abw}{E:aac->aal->Prop}{s:aal}
theorem ig.plain {led:Bool}{ps:List (Int×Tok)}{t:adR}(h:ig led ps t):t.plain=true:=by cases h <;> rfl
theorem NL {led:Bool}{ps:List (Int×Tok)}{t:adR}(h:ig led ps t):t.led=led:=by cases h <;> rfl
theorem w2 {es:Array (Int×aac)}{pl:Array Nat}{j b:Nat}{Q:Option (aac×Nat)->aal->Prop}(e:adg pl j=b)
  (h:Q (match es[b]?,pl[b]? with | some (_,x),some j=>some (x,j+1) | _,_=>none) s) :
  wpAny (abe prog w) A (pure (match es[adg pl j]?,pl[adg pl j]? with | some (_,x),some j=>some (x,j+1) | _,_=>none)) Q E s:=
 abb (e ▸ h)
theorem w7 {S:Addr}{o:Obj}{ep i:Nat}{t:adR}{ps:List (Int×Tok)}{Q:Option (aac×Nat)->aal->Prop}(ho:s.heap.get? S=some o)(hd:o.data=.set (cI ps) ep t)(hl:ig (!(w.params.followText "set-order")) ps t) (hi:i<=ps.length)
  (h:Q ((jn w S ep ps)[i]?.map λe=>(e.2,jO (w.params.followText "set-order") t.place (i+1))) s):wpAny (abe prog w) A (setNext S (jO (w.params.followText "set-order") t.place i) i ep) Q E s:=by
 unfold setNext
 refine aag (afI ho hd hl.fits ?_)
 unfold ajb
 refine aag (aag (aeb (abb ?_)))
 cases hb:w.params.followText "set-order" with
 | true =>
  refine FT hb (xw (λq=>Bool.noConfusion (q.symm.trans (bne_self_eq_false' ep))) ?_)
  have hs:jO true t.place i=jO true t.place (i+1):=by cases i <;> rfl
  unfold setWalk ajb
  refine aag (aag (afI ho hd hl.fits ?_))
  refine aag (aag (aeb (abb ?_)))
  refine FT hb ?_
  refine aag (aeb (abb (abb ?_)))
  unfold jn at h
  rw [hb,<- hs] at h
  rw [hb]
  exact h
 | false =>
  refine xw (λq=>Bool.noConfusion (q.symm.trans hb)) ?_
  unfold jn at h
  rw [hb] at hl h
  cases hl with
  | nil =>
   have e0:i=0:=by simpa using hi
   subst e0
   exact aag (abb (abb h))
  | one x p =>
   rcases (show i=0\/i=1 by simp at hi; walk_at "o") with rfl | rfl
   ·exact aag (abb (w2 (es:=cI [x]) (pl:=(dH true #[p]).place) (j:=0) ((wL p 0).trans (if_neg (ab9 p))) h))
   ·exact aag (abb (w2 (es:=cI [x]) (pl:=(dH true #[p]).place) (j:=p+1) ((wL p (p+1)).trans (if_pos (aby p))) h))
  | two x y p q hpq =>
   rcases (show i=0\/i=1\/i=2 by simp at hi; walk_at "o") with rfl | rfl | rfl
   ·exact aag (abb (w2 (es:=cI [x,y]) (pl:=(dH true #[p,q]).place) (j:=0) (LP p q) h))
   ·exact aag (abb (w2 (es:=cI [x,y]) (pl:=(dH true #[p,q]).place) (j:=p+1) (KU p q hpq) h))
   ·exact aag (abb (w2 (es:=cI [x,y]) (pl:=(dH true #[p,q]).place) (j:=q+1) (KX p q hpq) h))
end
theorem dL:Slot "set_iterator" "__next__" "set_iterator.__next__":=
 .of (owner:="set_iterator") (n:="__next__") (by rw [agd,aeu]; kernel_rfl) (by decide +kernel) (by decide +kernel) (by decide +kernel)
  (by first | exact .inl (by decide +kernel) | exact .inr (by decide +kernel)) (by rw [ahK]; kernel_rfl)
theorem lL:ajc table "set_iterator.__next__"=some aei.«set_iterator.__next__»:=entryFor_of_tree (by kernel_rfl)
theorem qP:Manifest.owners.lookup (String.ofList "rotareti_tes".toList.reverse)=some Manifest.sig_set_iterator:=by kernel_rfl
theorem l8 (a:aac):argsOk "set_iterator.__next__" ⟨[a],[]⟩:=by
 unfold argsOk; rw [signature?_of (id:="set_iterator.__next__") (n:="__txen__".toList) (o:="rotareti_tes".toList) (by kernel_rfl) qP]; kernel_rfl
theorem yO:ajc table "set.__iter__"=some aei.«frozenset.__iter__»:=entryFor_alias (id':="frozenset.__iter__") (by kernel_rfl) rfl (by decide +kernel) (by kernel_rfl)
theorem mi:Slot "set_iterator" "__iter__" "set_iterator.__iter__":=
 .of (owner:="set_iterator") (n:="__iter__") (by rw [agd,aeu]; kernel_rfl) (by decide +kernel) (by decide +kernel) (by decide +kernel)
  (by first | exact .inl (by decide +kernel) | exact .inr (by decide +kernel)) (by rw [ahK]; kernel_rfl)
theorem r8:ajc table "set_iterator.__iter__"=some aei.«dict_keyiterator.__iter__»:=entryFor_alias (id':="dict_keyiterator.__iter__") (by kernel_rfl) rfl (by decide +kernel) (by kernel_rfl)
theorem uK (a:aac):argsOk "set_iterator.__iter__" ⟨[a],[]⟩:=by
 unfold argsOk; rw [signature?_of (id:="set_iterator.__iter__") (n:="__reti__".toList) (o:="rotareti_tes".toList) (by kernel_rfl) qP]; kernel_rfl
structure fN (w:aa9)(h:Heap)(S:Addr)(ps:List (Int×Tok))(ep:Nat)(t:adR):Prop where
 here:∃o,h.get? S=some o/\o.ExactSet/\o.data=.set (cI ps) ep t
 lay:ig (!(w.params.followText "set-order")) ps t
noncomputable abbrev Gz (w:aa9)(S:Addr)(ps:List (Int×Tok))(ep:Nat)(t:adR)(i:Nat):Obj:=
 { cls:=.type "set_iterator",data:=.fields #[.int (jO (w.params.followText "set-order") t.place i) 0,.int i 0,.ref S,.int ps.length 0,.int ep 0] }
def eU (w:aa9)(h:Heap)(I S:Addr)(ps:List (Int×Tok))(ep:Nat)(t:adR)(i:Nat):Prop:=
 ∃o,h.get? I=some o/\o.cls=.type "set_iterator"/\o.data=.fields #[.int (jO (w.params.followText "set-order") t.place i) 0,.int i 0,.ref S,.int ps.length 0,.int ep 0]
section
variable {prog:adh}{w:aa9}{A:abw}{E:aac->aal->Prop}{s:aal}{S I:Addr}{ps:List (Int×Tok)}{ep:Nat}{t:adR}
theorem fN.typeIs (h:fN w s.heap S ps ep t):s.TypeIs (.ref S) "set":=let ⟨o,ho,hx,_⟩:=h.here; ⟨o,ho,hx.1⟩
theorem eU.typeIs {i:Nat}(h:eU w s.heap I S ps ep t i):s.TypeIs (.ref I) "set_iterator":=let ⟨o,ho,hx,_⟩:=h; ⟨o,ho,hx⟩
theorem fN.keep {h h':Heap}(x:fN w h S ps ep t)(k:∀o,h.get? S=some o->h'.get? S=some o):fN w h' S ps ep t:=⟨let ⟨o,ho,r⟩:=x.here; ⟨o,k _ ho,r⟩,x.lay⟩
theorem nI:(cI ps).size=ps.length:=by simp [cI]
theorem Fj {Q:aac->aal->Prop}(hS:fN w s.heap S ps ep t)(hQ:Q (.ref s.heap.objs.size) { s with heap:=s.heap.push (Gz w S ps ep t 0) }) :
  wpAny (abe prog w) A (ajk (.ref S)) Q E s:=by
 have hT:=hS.typeIs
 obtain⟨⟨o,ho,hx,hd⟩,hl⟩:=id hS
 refine aiC hT ahr (aeN ahr hT yO ?_ (PySem.F.args_set_iter_1 _))
 unfold aei.«frozenset.__iter__»
 refine aag (abb ?_)
 unfold Builtin.Frozenset.sizeOf
 refine aag (aag (agh ho hd hl.fits (abb ?_)))
 refine aag ?_
 unfold setDrawn ajb
 refine aag (afI ho hd hl.fits ?_)
 refine aag (aag (aeb (abb ?_)))
 dsimp only
 have hp:=hl.plain
 refine bv λGG PD=>?_
 obtain⟨mask,place,dummies,finger,led,moves,plain⟩:=t
 refine PD ?_
 dsimp only at hp
 subst hp
 refine abb ?_
 show wpAny _ _ (if (!w.params.followText "set-order" && false)=true then _ else _) _ _ _
 rw [ajd,if_neg Bool.false_ne_true]
 refine aag (abb ?_)
 refine aag (wpAny_setEpoch_of ho hd hl.fits ?_)
 refine aag (ad1 (abb ⟨_,rfl,"set_iterator",_,⟨_,abC _ rfl,rfl⟩,dL.lookup,?_⟩))
 simp only [Gz,jO] at hQ
 simpa [adQ,nI] using hQ
theorem Gh {i:Nat}{Q:Option aac->aal->Prop}(hI:eU w s.heap I S ps ep t i)(hS:fN w s.heap S ps ep t){x:Int×aac}(hx:(jn w S ep ps)[i]?=some x)
  (hQ:∀h',eU w h' I S ps ep t (i+1)->adi I s.heap h'->Q (some x.2) { s with heap:=h' }):wpAny (abe prog w) A (afD (.ref I)) Q E s:=by
 refine bv λGG PD=>?_
 obtain⟨oI,V5,hcI,Tf⟩:=id hI
 obtain⟨⟨o,ho,Um,hd⟩,hl⟩:=id hS
 refine PD ?_
 have PR:i < ps.length:=by rw [<- nQ w S ep ps]; exact (aeD.mp hx).1
 unfold afD
 refine aag (ah9 (ag3 (name:=ahf "__next__") hI.typeIs dL
  (aeN dL hI.typeIs lL ?_ (l8 _))))
 unfold aei.«set_iterator.__next__»
 refine aag (abb ?_)
 refine aag (wpAny_fieldsOf V5 Tf ?_)
 dsimp only
 refine aag (agh ho hd hl.fits ?_)
 refine xw (by rw [nI]; simp) ?_
 refine aag (w7 ho hd hl (adl PR) ?_)
 rw [hx]
 dsimp only [aeY]
 refine aag (ahL V5 Tf (by simp) ?_)
 have ho2:=adf (Obj.mapFields (·.setIfInBounds 0 (adQ (jO (w.params.followText "set-order") t.place (i+1))))) V5 (ahs (aeZ Tf _))
 have ZV:=aeZ Tf (·.setIfInBounds 0 (adQ (jO (w.params.followText "set-order") t.place (i+1))))
 refine aag (ahL ho2 ZV (by simp) ?_)
 refine abb ⟨_,rfl,abb (hQ _ ⟨_,adf _ ho2 (ahs (aeZ ZV _)),(aiD ..).trans ((aiD ..).trans hcI),?_⟩ ((ads ..).trans (ads ..)))⟩
 rw [aeZ ZV]
 simp [adQ]
theorem yP {Q:Option aac->aal->Prop}(hh:A.handled=none)(hI:eU w s.heap I S ps ep t ps.length)(hS:fN w s.heap S ps ep t)
  (hQ:∀h',afq I s.heap h'->Q none { s with heap:=h' }):wpAny (abe prog w) A (afD (.ref I)) Q E s:=by
 refine bv λGG PD=>?_
 obtain⟨oI,V5,hcI,Tf⟩:=id hI
 obtain⟨⟨o,ho,Um,hd⟩,hl⟩:=id hS
 refine PD ?_
 unfold afD
 refine aag (ah9 (ag3 (name:=ahf "__next__") hI.typeIs dL
  (aeN dL hI.typeIs lL ?_ (l8 _))))
 unfold aei.«set_iterator.__next__»
 refine aag (abb ?_)
 refine aag (wpAny_fieldsOf V5 Tf ?_)
 dsimp only
 refine aag (agh ho hd hl.fits ?_)
 refine xw (by rw [nI]; simp) ?_
 refine aag (w7 ho hd hl (abt _) ?_)
 rw [acf (by rw [nQ]; exact abt _)]
 dsimp only [aeY]
 refine aag (ahL V5 Tf (by simp) ?_)
 show wpAny _ _ (newExc (.type "StopIteration") [] >>= _) _ _ _
 refine aag ?_
 unfold newExc newTuple
 refine aag (ad1 ?_ (by size_fits))
 refine aag (m:=firstArgMember _ _) (wpAny_of_eq (a:=aij) (by first | rfl | (simp only [firstArgMember]; rfl)) ?_)
 refine ad1 ?_ (by size_fits)
 unfold raiseNew
 refine aag (wpAny_handled ?_)
 rw [show A.in1.handled=none from hh]
 refine aag (abb (wpAny_throw ?_))
 refine aag (wpAny_isInstance (T:="StopIteration") (b:=true) ⟨_,abC _ rfl,rfl⟩ isSubtype_stop ?_)
 exact abb (hQ _ (((ads ..).extBut.push _).push _))
theorem x3 {i:Nat}{Q:aac->aal->Prop}(hI:eU w s.heap I S ps ep t i)(h:Q (.ref I) s):wpAny (abe prog w) A (ajk (.ref I)) Q E s:=by
 refine aiC hI.typeIs mi (aeN mi hI.typeIs r8 ?_ (uK _))
 show wpAny _ _ (ret (.ref I)) _ _ s
 exact abb ⟨_,rfl,"set_iterator",_,hI.typeIs,dL.lookup,h⟩
theorem BC:typeLookup (.type "set") "__len__"=pure (some (.builtin "set.__len__")):=by rw [agd,aeu]; kernel_rfl
theorem IQ {r:Addr}{Q:Bool->aal->Prop}(hT:s.TypeIs (.ref r) "set") (h:Q false s):wpAny (abe prog w) A (agl (.ref r)) Q E s:=by
 unfold agl
 refine aag (wpAny_specialOf hT BC ?_)
 generalize V6:("set.__len__":String)=id0
 wp_delta
 rw [show splitId id0=some ("set","__len__") from by subst V6; decide +kernel]
 subst V6
 refine aag (wpAny_isInstance (T:="set") (b:=true) hT (by rw [ahK]; kernel_rfl) ?_)
 refine wpAny_ite_split (λQP=>absurd QP (by decide)) (λ_=>?_)
 refine wpAny_ite_split (λ_=>?_) (λQP=>absurd (by decide +kernel) QP)
 refine aag (aiE hT ?_)
 exact abb h
theorem eU.keep {h h':Heap}{i:Nat}(x:eU w h I S ps ep t i)(k:∀o,h.get? I=some o->h'.get? I=some o):eU w h' I S ps ep t i:=let ⟨o,ho,r⟩:=x; ⟨o,k _ ho,r⟩
theorem Jg (hh:A.handled=none)(P6:S≠I):Walks prog w A I [I,S] [I] ps.length (λi v=>∃x,(jn w S ep ps)[i]?=some x/\v=x.2) (λi h=>eU w h I S ps ep t i/\fN w h S ps ep t) where
 sub:=λb hb=>by simp at hb; simp [hb]
 frame:=λ_ _ _ st hk=>⟨st.1.keep λo e=>hk I (by simp) o e,st.2.keep λo e=>hk S (by simp) o e⟩
 item:=λi s Q E hi st hQ=>by
  obtain⟨x,hx⟩:∃x,(jn w S ep ps)[i]?=some x:=⟨_,adU (by rw [nQ]; exact hi)⟩
  refine Gh st.1 st.2 hx λh' hI' UP=>?_
  exact hQ _ h' s.toks ⟨x,hx,rfl⟩ ⟨hI',st.2.keep λo e=>UP.extBut S o P6 e⟩ λb o hb e=>UP.extBut b o (λq=>hb (by simp [q])) e
 done:=λs Q E st hQ=>yP hh st.1 st.2 λh' W9=>hQ h' s.toks λb o hb e=>W9 b o (λq=>hb (by simp [q])) e
 self:=λ_ _ _ _ st hQ=>x3 st.1 hQ
theorem Mj:KdlSrc prog w "set" S S ps.length (λi v=>∃x,(jn w S ep ps)[i]?=some x/\v=x.2) (λh=>fN w h S ps ep t) where
 type:=λ_ hm=>hm.typeIs
 there:=λ_ hm=>⟨let ⟨_,ho,_⟩:=hm.here; abn ho,let ⟨_,ho,_⟩:=hm.here; abn ho⟩
 keep:=λ_ _ hm hk=>hm.keep λo e=>hk S (.inl rfl) o e
 notList:=by decide
 notTuple:=by decide
 hint:=λ_ _ _ _ hm hq=>IQ hm.typeIs hq
 iter:=λ_ s hh hm=>⟨Gz w S ps ep t 0,_,(λ_ _ hq=>Fj hm hq),Jg hh (let ⟨_,ho,_⟩:=hm.here; abf (abn ho)),⟨⟨_,abC _ rfl,rfl,rfl⟩,hm.keep λo e=>aao _ e⟩⟩
end
noncomputable def vL (a:Int):List Int->List Int
 | []=>[a]
 | b::r=>if a < b then a::b::r else if a=b then b::r else b::vL a r
noncomputable def i6 (ns:List Int):List Int:=ns.foldr vL []
def qb (r:TL):TE:=λρ st Q=>r ρ st λVs Pt=>Cg (h7 λi=>cE Pt[i]? λxs=>dT (fJ xs) λns=>(i6 ns).length<=2/\ns.length<=1000/\Q (.ref Pt.length) (Pt++[.list ((i6 ns).map .int)])) Vs
theorem Hp {a b:Int}{r:List Int}:vL a (b::r)=if a < b then a::b::r else if a=b then b::r else b::vL a r:=rfl
theorem CC {a x:Int}{l:List Int}:x∈vL a l↔x=a\/x∈l:=by
 induction l with
 | nil=>exact abB
 | cons b r ih =>
  rw [Hp]
  by_cases h:a < b
  ·rw [if_pos h]; exact abB
  ·rw [if_neg h]
   by_cases e:a=b
   ·rw [if_pos e]; exact⟨.inr,λq=>q.elim (λq=>by rw [q,e]; exact .head _) id⟩
   ·rw [if_neg e,abB,ih,abB]; exact or_left_comm
theorem Jh {a:Int}{l:List Int}(h:l.Pairwise (· < ·)):(vL a l).Pairwise (· < ·):=by
 induction l with
 | nil=>exact ag4 _ _
 | cons b r ih =>
  have h':=adz.mp h
  rw [Hp]
  by_cases PR:a < b
  ·rw [if_pos PR]
   exact .cons (λx hx=>(bN hx).elim (λq=>q ▸ PR) λq=>Int.lt_trans PR (h'.1 x q)) h
  ·rw [if_neg PR]
   by_cases e:a=b
   ·rw [if_pos e]; exact h
   ·rw [if_neg e]
    exact .cons (λx hx=>(CC.mp hx).elim (λq=>q ▸ Int.lt_iff_le_and_ne.mpr ⟨Int.not_lt.mp PR,aef e⟩) (h'.1 x)) (ih h'.2)
theorem tm {x:Int}{l:List Int}:x∈i6 l↔x∈l:=by
 induction l with
 | nil=>exact .rfl
 | cons a l ih =>
  show x∈vL a (i6 l)↔_
  rw [CC,ih,abB]
theorem zn (l:List Int):(i6 l).Pairwise (· < ·):=by
 induction l with
 | nil=>exact .nil
 | cons a l ih=>exact Jh ih
theorem u8 {RG l₂:List Int}(h1:RG.Pairwise (· < ·))(h2:l₂.Pairwise (· < ·))(h:∀x,x∈RG↔x∈l₂):RG=l₂:=by
 induction RG generalizing l₂ with
 | nil =>
  cases l₂ with
  | nil=>rfl
  | cons y r=>exact absurd ((h y).mpr (.head _)) (by simp)
 | cons x l ih =>
  cases l₂ with
  | nil=>exact absurd ((h x).mp (.head _)) (by simp)
  | cons y r =>
   rw [adz] at h1 h2
   have Zi:x=y:=by
    rcases bN ((h x).mp (.head _)) with e | e
    ·exact e
    ·rcases bN ((h y).mpr (.head _)) with e' | e'
     ·exact e'.symm
     ·have:=h2.1 x e
      have:=h1.1 y e'
      walk_at "o"
   subst Zi
   congr 1
   refine ih h1.2 h2.2 λz=>⟨λhz=>?_,λhz=>?_⟩
   ·rcases bN ((h z).mp (.tail _ hz)) with e | e
    ·subst e; exact absurd (h1.1 z hz) (agT _)
    ·exact e
   ·rcases bN ((h z).mpr (.tail _ hz)) with e | e
    ·subst e; exact absurd (h2.1 z hz) (agT _)
    ·exact e
theorem G7 {l:List Int}(h:l.Pairwise (·<=·))(hn:l.Nodup):l.Pairwise (· < ·):=by
 induction l with
 | nil=>exact .nil
 | cons a l ih =>
  rw [adz] at h
  rw [abY] at hn
  refine adz.mpr ⟨λx hx=>?_,ih h.2 hn.2⟩
  have h1:=h.1 x hx
  have h2:a≠x:=λe=>hn.1 (e ▸ hx)
  walk_at "o"
theorem sU {hB:Heap}{news:aO}{φ:bk}:∀{vs:List aac}{ns:List Int},IntsAre vs ns->bg hB news φ (ns.map .int) vs
 | _,_,.nil=>.nil
 | _,_,.cons n t r=>.cons (.int n t) (sU r)
theorem Em {a b:List Int}(hn:a.Nodup)(hs:∀x∈a,x∈b):a.length<=b.length:=by
 induction a generalizing b with
 | nil=>exact abS _
 | cons x a ih =>
  rw [abY] at hn
  have hx:=hs x (.head _)
  have:=ih (b:=b.erase x) hn.2 λy hy=>(List.mem_erase_of_ne (λe:y=x=>hn.1 (e ▸ hy))).mpr (hs y (.tail _ hy))
  rw [List.length_erase_of_mem hx] at this
  have h0:0 < b.length:=ahg hx
  simp only [abz]
  walk_at "o"
theorem Ht {w:aa9}{S:Addr}{ep:Nat}{ps:List (Int×Tok)}{vs:List aac}(hl:vs.length=ps.length)(hv:∀(j:Nat)(v:aac),vs[j]?=some v->∃x:Int×aac,(jn w S ep ps)[j]?=some x/\v=x.2):∃ns,IntsAre vs ns/\ns.Perm (ps.map (·.1)):=by
 have e:vs=(jn w S ep ps).toList.map (·.2):=by
  apply List.ext_getElem?
  intro j
  have e0:(jn w S ep ps).toList[j]?=(jn w S ep ps)[j]?:=adv
  rw [abF,e0]
  by_cases hj:j < vs.length
  ·obtain⟨x,hx,e⟩:=hv j _ (abc hj)
   rw [hx,abc hj,e]; rfl
  ·have e1:vs[j]?=none:=afS (by walk_at "o")
   have e2:(jn w S ep ps)[j]?=none:=acf (by rw [nQ]; walk_at "o")
   rw [e1,e2]; rfl
 have p:=(zC w S ep ps).map (·.2)
 rw [<- e] at p
 have q:(cI ps).toList.map (·.2)=ps.map λp=>aet p.1 p.2:=by simp [cI]
 rw [q] at p
 have key:∀(vs:List aac) (ps:List (Int×Tok)),vs.Perm (ps.map λp=>aet p.1 p.2)->∃ns,IntsAre vs ns/\ns.Perm (ps.map (·.1)):=by
  intro vs ps h
  generalize hq:(ps.map λp=>aet p.1 p.2)=qs at h
  induction h generalizing ps with
  | nil=>rw [List.map_eq_nil_iff.mp hq]; exact⟨[],.nil,.refl _⟩
  | @cons x RG l₂ _ ih =>
   cases ps with
   | nil=>cases hq
   | cons a ps =>
    simp only [abj,List.cons.injEq] at hq
    obtain⟨rfl,hq⟩:=hq
    obtain⟨ns,h1,h2⟩:=ih ps hq
    exact⟨a.1::ns,.cons _ _ h1,h2.cons _⟩
  | swap x y l =>
   match ps,hq with
   | a::b::ps,hq =>
    simp only [abj,List.cons.injEq] at hq
    refine bv λGG PD=>?_
    obtain⟨rfl,rfl,rfl⟩:=hq
    refine PD ?_
    have:∀ps:List (Int×Tok),IntsAre (ps.map λp=>aet p.1 p.2) (ps.map (·.1)):=λps=>by
     induction ps with
     | nil=>exact .nil
     | cons a ps ih=>exact .cons _ _ ih
    exact⟨b.1::a.1::ps.map (·.1),.cons _ _ (.cons _ _ (this ps)),.swap _ _ _⟩
  | @trans RG l₂ l₃ _ _ ih1 ih2 =>
   refine bv λGG PD=>?_
   obtain⟨ns,h1,h2⟩:=ih2 ps hq
   have acX:∀(vs:List aac) (ns:List Int),IntsAre vs ns->∃Qj:List (Int×Tok),(Qj.map λp=>aet p.1 p.2)=vs/\Qj.map (·.1)=ns:=by
    intro vs ns h
    induction h with
    | nil=>exact⟨[],rfl,rfl⟩
    | cons n t _ ih=>obtain⟨Qj,a,b⟩:=ih; exact⟨(n,t)::Qj,by simp [a],by simp [b]⟩
   obtain⟨Qj,a,b⟩:=acX _ _ h1
   obtain⟨Zd,h3,h4⟩:=ih1 Qj a
   refine PD ?_
   rw [b] at h4
   exact⟨Zd,h3,h4.trans h2⟩
 exact key vs ps p
section
variable {α:bC}{ℓ:Nat}{sc:abM}{slots:List Str}
theorem y4 {es:List Expr}{p q pos Zl:Pos}{T:TL}(h:ae α ℓ sc slots es T)(he:nsIn α.K aam ("sorted":Str)=some none) (Z7:nsIn α.K aam ("set":Str)=some none)
  (hx:autoParam (sc.names.lookup ("sorted":Str)=some .globalImplicit) aR) (Rp:autoParam (sc.names.lookup ("set":Str)=some .globalImplicit) aR) :
  aa α ℓ sc slots (.Call (.Name ("sorted":Str) p) [.Call (.Name ("set":Str) q) es [] Zl] [] pos) (qb T):=by
 intro A h₀ L env C D s m st φ news ρ PB Lo Q Qc E t P
 refine agW (fy C D PB.F he (v:=.builtin "sorted") (by decide +kernel) (by decide +kernel) ?_ hx (by decide +kernel))
 refine bR (α:=α) (fB.cons (λ_ _=>rfl) fB.nil) (Pp:=λ_=>True) (λh _=>eY _ h) ?_
 refine aeI (he:=rfl) ?_
 refine agW (fy C D PB.F Z7 (v:=.type "set") (by decide +kernel) (by decide +kernel) ?_ Rp (by decide +kernel))
 refine bR (α:=α) h.plain (Pp:=λ_=>True) (λh _=>iU _ h) (h.run A h₀ L env C D s m st φ news ρ PB Lo Zl _ _ E t λVs Pt Px PC vs h₁ PA Pv Py PO Pw PL=>⟨trivial,?_⟩)
 clear t PL
 apply PO.o1 Pw; intro V v ra Pw; apply ra.oR Pw; intro i a d PP Pw
 refine bZ Pw λxs hi Pw=>dI Pw λns SE Pw=>?_
 have h2:=Pw.1
 have hk:=Pw.2.1
 replace Pw:=Pw.2.2
 refine Pv.W.listC hi PP λits n PP hm q=>?_
 have hI:IntsAre its.toList ns:=pT q SE
 have hsz:its.size=ns.length:=by rw [<- abm]; exact IntsAre.length hI
 have Wx:∀x,(∃j,j < its.size/\x=ns.getD j 0)↔x∈ns:=λx=>by
  constructor
  ·rintro⟨j,hj,rfl⟩
   rw [hsz] at hj
   simp [agy,abc hj]
  ·intro hx
   obtain⟨j,hj,rfl⟩:=aeB.mp hx
   exact⟨j,by walk_at "o",by simp [agy,abc hj]⟩
 have hL:Heap.IsList h₁ a its:=Pv.isList (s:={ s with heap:=h₁ }) hm
 refine Ej (items:=its) (ns:=ns) C.hand hL hI (λl hl hs=>?_) λPM PN SX Yz=>?_
 ·exact aan (Em hl λx hx=>tm.mpr ((Wx x).mp (hs x hx))) h2
 ·dsimp only at SX Yz
  refine bv λGG PD=>?_
  obtain⟨ps,⟨o,ep,tt,ho,Um,hd,YX,Qt⟩,Ti⟩:=SX
  refine PD ?_
  refine ahz ⟨trivial,?_⟩
  have keep:∀b o,h₁.get? b=some o->PM.get? b=some o:=λb o e=>Yz b o (abn e) e
  have RH:Fr h₀ L PM m:=Pv.F.keeps keep
  have RI:News h₀ L PM PC:=λp hp=>⟨keep _ _ (Pv.N p hp).1,(Pv.N p hp).2⟩
  have PL:ps.length<=2:=by
   have:=YX.small
   rwa [nI] at this
  refine kdu_sorted (n:=ps.length) (Mj (prog:=α.prog) (w:=α.w) (S:=h₁.objs.size) (ps:=ps) (ep:=ep) (t:=tt)) C.hand RH RI ⟨⟨o,ho,Um,hd⟩,YX⟩ (aan PL (by decide)) λD P2 P7 vs QM QO l1 RS hv=>?_
  obtain⟨ks,Yo,pks⟩:=Ht RS hv
  have ZA:P2.get? D=some (adD "list" vs.toArray 0):=(QO _ (.head _)).1
  refine aeN slot_list_sort ⟨_,ZA,rfl⟩ entry_list_sort (list_sort_tree ZA Yo (by walk_at "o") λout Zd a1 a2 a3=>⟨_,rfl,?_⟩) (args_list_sort _)
  dsimp only
  have P6:∀p∈PC,p.1≠D:=λp hp=>abf (l1 p hp)
  refine bv λGG PD=>?_
  obtain⟨oL,_,_,hLo,_⟩:=QM.ns
  obtain⟨_,hDL,hD0⟩:=QO _ (.head _)
  have Qp:∀b o,b≠D->P2.get? b=some o->(aik P2 D vs out).get? b=some o:=λb o hb e=>by rw [sortedHeap_old hb (abn e)]; exact e
  obtain⟨e,W9⟩:=sortedHeap_at (out:=out) ZA
  refine PD ?_
  have TV:Fr h₀ L (aik P2 D vs out) m:=⟨QM.ns.at' λo e=>Qp L o (aef hDL) e,λb o e=>Qp b o (λq=>by rw [q,hD0] at e; cases e) (QM.keep b o e),QM.above⟩
  have TK:News h₀ L (aik P2 D vs out) ((D,bV out e)::PC):=λp hp=>by
   rcases bN hp with rfl | hp
   ·exact⟨W9,hDL,hD0⟩
   ·exact⟨Qp _ _ (P6 p hp) (QO p (.tail _ hp)).1,(QO p (.tail _ hp)).2⟩
  have acI:Zd=i6 ns:=u8 (G7 a3 ((a2.trans pks).nodup_iff.mpr Qt)) (zn ns) λx=>by
   rw [(a2.trans pks).mem_iff,Ti,Wx,tm]
  subst acI
  obtain⟨R4,Rm⟩:=Pv.newList TV TK P6 (sU a1)
  exact P _ _ _ _ _ (aik P2 D vs out) P7 R4 (Py.trans Rm) Pv.refNew Pw
end
theorem nH:ajc table "dict.update.loop"=some aei.«dict.update.loop»:=entryFor_of_tree (by kernel_rfl)
theorem hO:plainId "dict.update.loop"=true:=by decide +kernel
theorem A1:typeLookup (.type "list") ("keys":Str)=pure none:=by rw [agd,aeu]; kernel_rfl
section
variable {prog:adh}{w:aa9}{A:abw}{E:aac->aal->Prop}{s:aal}
set_option maxHeartbeats 1600000 in
theorem x4 {a:Addr}{o:Obj}{xs:Array aac}{k:Nat}{Q:Option aac->aal->Prop}
  (hx:s.heap.get? a=some o) (hc:o.cls=.type "list") (Qn:o.data=.seq xs k) (hd:o.dict=none) (hA:A.handled=none)
  (h:∀h' tk,(∀b ob,s.heap.get? b=some ob->h'.get? b=some ob)->Q none { s with heap:=h',toks:=tk }) :
  wpAny (abe prog w) A (getAttr? (.ref a) ("keys":Str)) Q E s:=by
 obtain⟨c,dct,dat,sl⟩:=o
 simp only at hc Qn hd
 subst hc Qn hd
 obtain⟨hp,g,d,tk,os⟩:=s
 have hT:∀PV,(⟨hp,g,d,PV,os⟩:aal).TypeIs (.ref a) "list":=λ_=>⟨_,hx,rfl⟩
 have f1:=sub_AttributeError
 have f3:=PySem.F.slot_list_getattribute.lookup
 have f4:=PySem.F.slot_list_getattribute.bind (.ref a)
 have f5:=am_list_getattr_none
 unfold getAttr? getAttrBy? getAttrBy
 repeat (any_goals (first | assumption | exact hT _ | ((with_reducible show wpAny _ _ (call (Value.builtin "list.__getattribute__") _ _) _ _ _); refine call_meets PySem.F.slot_list_getattribute (hT _) am_entry_list_getattribute (PySem.F.args_list_getattribute_2 _ _) (meets_getattribute_miss_list a xs k sl ("keys":Str) _ A1 (by decide +kernel)) ⟨hx,hA,λh' PV e Rf=>?_⟩) | wp_step))
 obtain⟨t',u',he⟩:=Rf.there
 show wpAny _ _ (ail _ _ _ _ _ _ _) _ _ _
 unfold ail
 repeat (any_goals (first | assumption | wp_step))
 exact h _ _ Rf.keeps
end
theorem xl {K:Type} [DecidableEq K] {kvs:List (K×aac)}{k:K}{v:aac}(h:k ∉ kvs.map (·.1)):stored kvs k v=kvs++[(k,v)]:=by
 unfold stored
 rw [if_neg]
 rw [List.any_eq_true]
 rintro⟨kv,Sm,he⟩
 exact h (ew ⟨kv,Sm,by simpa using he⟩)
section
variable {prog:adh}{w:aa9}{A:abw}{R:afZ->aal->Prop}
def J0 (h:Heap)(items:Array aac)(kvs:List (Str×aac))(no:List Addr):Prop:=∀(j:Nat)(v:aac),items[j]?=some v->∃a k t x,v=.ref a/\a ∉ no/\ajq h a #[.str k t,x]/\kvs[j]?=some (k,x)
theorem IU (hh:A.handled=none){d l I:Addr}{items:Array aac}{kvs:List (Str×aac)}(Tf:d≠I)(V7:d≠l)(hIl:I≠l)(PL:kvs.length=items.size)(Qt:(kvs.map (·.1)).Nodup)(hsz:items.size<=abD):∀(k i:Nat)(s:aal),items.size - i=k->i<=items.size ->
  s.heap.IsListIter I l i->s.heap.IsList l items->J0 s.heap items kvs [d,I]->s.heap.DictOf (strKind prog w) d (kvs.take i) ->
  (∀h' tk,h'.DictOf (strKind prog w) d kvs->(∀b o,b≠d->b≠I->s.heap.get? b=some o->h'.get? b=some o)->R (.ok (.ret .none)) { s with heap:=h',toks:=tk }) ->
  adA (abe prog w) A (.builtin "dict.update.loop" ⟨[.ref d,.ref I,.int i 0,.none],[]⟩) R s:=by
 intro k
 induction k with
 | zero =>
  intro i s hk hi hI hL hP hD hR
  have QY:i=items.size:=agc hi (Nat.le_of_sub_eq_zero hk)
  subst QY
  refine aeo nH ?_
  rw [ad3 hO _]
  show wpAny _ A.in1 (afD (.ref I) >>= _) _ _ s
  refine aag (aho (A:=A.in1) hh hI hL (acf (abt _)) λh' he=>?_)
  show wpAny _ A.in1 (Builtin.Dict.addKeywords d [] >>= λ_=>ret aij) _ _ _
  refine aag (abb ?_)
  rw [<- PL,List.take_length] at hD
  exact abb (hR h' s.toks (hD.extBut he Tf) λb o _ hb e=>he b o hb e)
 | succ k ih =>
  intro i s hk hi hI hL hP hD hR
  have PR:i < items.size:=Nat.lt_of_sub_eq_succ hk
  have hx:items[i]?=some items[i]:=adU PR
  refine aeo nH ?_
  rw [ad3 hO _]
  show wpAny _ A.in1 (afD (.ref I) >>= _) _ _ s
  refine aag (ahc hI hL hx λh₁ aaI U0=>?_)
  refine bv λGG PD=>?_
  obtain⟨a,key,t,x,e,ZK,hT,Sm⟩:=hP i _ hx
  refine PD ?_
  rw [e]
  have hnI:a≠I:=λe=>ZK (e ▸ .tail _ (.head _))
  have aay:ajq h₁ a #[.str key t,x]:=by
   obtain⟨o,ho,r⟩:=hT
   exact⟨o,U0.extBut a o hnI ho,r⟩
  obtain⟨ot,hot,Vn,nt,hdt⟩:=id aay
  dsimp only
  refine aag (ab3 ?_)
  refine aag (wpAny_tryCatch ?_)
  unfold Builtin.Dict.pairItems
  refine aag (aiE (T:="tuple") ⟨ot,hot,Vn⟩ ?_)
  rw [if_pos (by decide)]
  refine aag (wpAny_seqItems hot hdt (abb ?_))
  show wpAny _ _ (ag9 [agY key t,x] (dictSet d (.str key t) x)) _ _ _
  refine ab3 ?_
  have UW:h₁.DictOf (strKind prog w) d (kvs.take i):=hD.extBut U0.extBut Tf
  refine ahZ (s:={ s with heap:=h₁ }) (ai7 _ _ _ _) UW (λPM Yu Se=>?_) (aan (List.length_take_le i kvs) (aan hi hsz))
  have SM:key ∉ (kvs.take i).map (·.1):=λhm=>by
   have Xf:i < kvs.length:=PL.symm ▸ PR
   have e1:kvs=kvs.take i++kvs[i]::kvs.drop (i+1):=by rw [<- acb Xf,List.take_append_drop]
   have e2:kvs[i]=(key,x):=by rw [abc Xf] at Sm; exact abl Sm
   rw [e1,abE,abR] at Qt
   exact Qt.2.2 key hm key (by rw [e2]; exact .head _) rfl
  have aas:PM.DictOf (strKind prog w) d (kvs.take (i+1)):=by
   rw [xl SM] at Yu
   rw [aiF,Sm]
   exact Yu
  have k1:∀b o,b≠d->b≠I->s.heap.get? b=some o->PM.get? b=some o:=λb o hb Wg e=>Se.extBut b o hb (U0.extBut b o Wg e)
  refine abb ⟨agS hO _,ih (i+1) _ (by rw [Nat.sub_add_eq,hk]; rfl) PR (aaI.at λo e=>Se.extBut I o Tf.symm e) ((hL.extBut U0.extBut hIl.symm).extBut Se.extBut V7.symm) (λj v hv=>?_) aas λP2 P7 WP WD=>?_⟩
  ·obtain⟨a',key',t',x',e',hno',⟨o',SY,r'⟩,hkv'⟩:=hP j v hv
   exact⟨a',key',t',x',e',hno',⟨o',k1 _ _ (λe=>hno' (e ▸ .head _)) (λe=>hno' (e ▸ .tail _ (.head _))) SY,r'⟩,hkv'⟩
  ·exact hR P2 P7 WP λb o hb Wg e=>WD b o hb Wg (k1 b o hb Wg e)
end
section
variable {prog:adh}{w:aa9}{A:abw}{E:aac->aal->Prop}{s:aal}
theorem Cv {l:Addr}{items:Array aac}{o:Obj}{n:Nat}{kvs:List (Str×aac)}{Q:aac->aal->Prop}(hh:A.handled=none)(ho:s.heap.get? l=some o)(hc:o.cls=.type "list") (Qn:o.data=.seq items n) (hdn:o.dict=none)
  (hP:J0 s.heap items kvs []) (PL:kvs.length=items.size) (Qt:(kvs.map (·.1)).Nodup) (hsz:items.size<=abD)
  (h:∀h' tk,h'.DictOf (strKind prog w) s.heap.objs.size kvs->(∀b o,s.heap.get? b=some o->h'.get? b=some o)->Q (.ref s.heap.objs.size) { s with heap:=h',toks:=tk }) :
  wpAny (abe prog w) A (call (.type "dict") [.ref l]) Q E s:=by
 refine callType_codes (Q₁:=λobj P0=>obj=.ref s.heap.objs.size/\P0={ s with heap:=s.heap.push { cls:=.type "dict",data:=.dict #[] } }) PySem.F.kt_called_dict (PySem.F.kt_typeCall_dict_1 _) PySem.F.entry_dict_init (kt_code_dict_new _ ⟨rfl,rfl⟩) ?_
 rintro obj P0 ⟨rfl,rfl⟩
 have SM:(s.heap.push { cls:=.type "dict",data:=.dict #[] }).DictOf (strKind prog w) s.heap.objs.size []:=Heap.DictOf.new s.heap
 have Ww:(s.heap.push { cls:=.type "dict",data:=.dict #[] }).get? l=some o:=aao _ ho
 have hll:l < s.heap.objs.size:=abn ho
 refine⟨SM.typeIs,PySem.F.args_dict_init_2 _ _,?_⟩
 unfold aei.«dict.__init__»
 refine aag ?_
 unfold Builtin.Dict.selfAndRest
 refine aag (wpAny_notOrdered_dict SM.typeIs ?_)
 show wpAny _ _ (pure (s.heap.objs.size,[aeH l])) _ _ _
 refine abb ?_
 show wpAny _ _ (ag5 "dict.__init__" s.heap.objs.size (.ref l) [] .none) _ _ _
 unfold ag5
 refine aag (aiE (T:="list") ⟨o,Ww,hc⟩ ?_)
 rw [if_pos (by decide)]
 refine aag (x4 Ww hc Qn hdn (A:=A.in1.in1) hh λh₁ PA Uv=>?_)
 refine FT rfl ?_
 refine aag (aja ?_)
 have X2:h₁.IsList l items:=⟨o,Uv _ _ Ww,hc,n,Qn⟩
 refine aag (agK X2 ?_)
 dsimp only
 have Vh:∀b ob,s.heap.get? b=some ob->(h₁.push { cls:=.type "list_iterator",data:=.fields #[.ref l,.int 0 0] }).get? b=some ob:=λb ob e=>aao _ (Uv _ _ (aao _ e))
 have UW:h₁.DictOf (strKind prog w) s.heap.objs.size []:=by
  obtain⟨od,es,ep,RT,r⟩:=SM
  exact⟨od,es,ep,Uv _ _ RT,r⟩
 have UO:s.heap.objs.size < h₁.objs.size:=by obtain⟨od,es,ep,RT,r⟩:=UW; exact abn RT
 refine abb ⟨agS hO _,IU (A:=A.in1) hh (abf UO) (abW hll) (abW (agk hll UO)) PL Qt hsz items.size 0 _ rfl (abS _) ⟨_,abC _ rfl,rfl,rfl⟩ (X2.push _) (λj v hv=>?_) (UW.push _) λP2 P7 WP WD=>⟨rfl,?_⟩⟩
 ·obtain⟨a,key,t,x,e,_,⟨oa,hoa,r⟩,Sm⟩:=hP j v hv
  have ha:a < s.heap.objs.size:=abn hoa
  exact⟨a,key,t,x,e,λq=>(bN q).elim (abf ha) λq=>absurd (cq q) (abf (agk ha UO)),⟨oa,Vh _ _ hoa,r⟩,Sm⟩
 ·exact h P2 P7 WP λb ob e=>WD b ob (abf (abn e)) (abf (agk (abn e) UO)) (Vh _ _ e)
end
section
variable {α:bC}{ℓ:Nat}{sc:abM}{slots:List Str}{h₀ h:Heap}{L:Addr}{m:Str->Option aac}{s:aal}{st:MS}{φ:bk}{news Pu:aO}{P8:Expr}
noncomputable def iK:List MV->Option (List (Str×MV))
 | []=>some []
 | .tup [.str k,V]::xs=>(iK xs).map ((k,V)::·)
 | _=>none
def LG:MV->MS->(MV->MS->Prop)->Prop:=λV st Q=>h7 (λi=>cE st[i]? λxs=>dT (iK xs) λfs=>(fs.map (·.1)).Nodup/\fs.length<=100/\∀ep,Q (.ref st.length) (st++[.dict fs ep])) V
def Ew:TP:=one LG
theorem Bn (X:MV)(xs:List MV):iK (X::xs)=none\/∃k V,X=.tup [.str k,V]:=by
 cases X with
 | tup ys=>cases ys with
  | nil=>exact .inl rfl
  | cons K ys=>cases K with
   | str k=>cases ys with
    | nil=>exact .inl rfl
    | cons V ys=>cases ys with
     | nil=>exact .inr ⟨k,V,rfl⟩
     | cons _ _=>exact .inl rfl
   | _=>cases ys with
    | nil=>exact .inl rfl
    | cons _ ys=>cases ys <;> exact .inl rfl
 | _=>exact .inl rfl
theorem C7 {X:MV}{xs:List MV}{fs:List (Str×MV)}{G:Prop}(e:iK (X::xs)=some fs)(k:∀key V W8,X=.tup [.str key,V]->iK xs=some W8->(key,V)::W8=fs->G):G:=by
 rcases Bn X xs with h | ⟨key,V,rfl⟩
 ·rw [h] at e; cases e
 ·have e':(iK xs).map ((key,V)::·)=some fs:=e
  cases q:iK xs with
  | none=>rw [q] at e'; cases e'
  | some W8=>rw [q] at e'; exact k key V W8 rfl q (abl e')
theorem Hu {hB:Heap}:∀{xs:List MV}{vs:List aac}{fs:List (Str×MV)},bg hB news φ xs vs->iK xs=some fs->∃kvs,ml hB news φ fs kvs/\kvs.length=vs.length /\
  ∀(j:Nat) (v:aac),vs[j]?=some v->∃a k t x,v=.ref a/\A8 hB news a (bA #[.str k t,x])/\kvs[j]?=some (k,x):=by
 intro xs
 induction xs with
 | nil=>intro vs fs r e; cases r; cases e; exact⟨[],.nil,rfl,λj v h=>by simp at h⟩
 | cons X xs ih =>
  intro vs fs r e
  refine C7 e λk V W8 eX q ef=>?_
  subst eX ef
  clear e
  apply bg.c r; intro v vs1 h rs
  clear r
  obtain⟨kvs,h1,h2,h3⟩:=ih rs q
  apply RV.t h; intro a its ha hs
  have ex:∃t y,its.toList=[.str k t,y]/\RV hB news φ V y:=by
   generalize its.toList=us at hs
   apply bg.c hs; intro u us hu hs
   apply RV.s hu; intro t
   apply bg.c hs; intro y us hy hs
   apply bg.n hs
   exact⟨t,y,rfl,hy⟩
  obtain⟨t,y,hi,hy⟩:=ex
  have e1:its=#[.str k t,y]:=by rw [<- Array.toArray_toList (xs:=its),hi]
  rw [e1] at ha
  refine⟨(k,y)::kvs,.cons hy h1,by simp [h2],λj v hv=>?_⟩
  cases j with
  | zero=>cases hv; exact⟨a,k,t,y,rfl,ha,rfl⟩
  | succ j=>exact h3 j v (by simpa using hv)
theorem FY:aM α ℓ (λvs=>abQ (.type "dict") vs) Ew:=oh λA h₀ L C s m st φ news V v S r Q Qc E t P=>by
 apply r.oR t; intro i a d PP t
 refine bZ t λxs hi t=>dI t λfs VZ t=>?_
 refine S.W.listC hi PP λits n PP hm q=>?_
 obtain⟨kvs,Sm,PL,hat⟩:=Hu q VZ
 have Sz:kvs.map (·.1)=fs.map (·.1):=Sm.keysL
 have hsz:its.size=kvs.length:=by rw [PL,abm]
 have Tu:kvs.length=fs.length:=by have:=congrArg aft Sz; simpa using this
 refine Cv (items:=its) (kvs:=kvs) C.hand (S.N.get hm) rfl rfl rfl (λj v hv=>?_) hsz.symm (by rw [Sz]; exact t.1) (aan (by rw [hsz,Tu]; exact t.2.1) (by decide)) λh' tk hD hk=>?_
 ·obtain⟨a,k,t,x,e,ha,hx⟩:=hat j v (by simpa using hv)
  exact⟨a,k,t,x,e,by simp,S.isTup C.stays ha,hx⟩
 ·obtain⟨o,es,ep,ho,Um,Qn,aaz,hp,hn⟩:=hD
  have F':Fr h₀ L h' m:=S.F.keeps hk
  have N':News h₀ L h' ((s.heap.objs.size,o)::news):=News.kept_cons S.F S.N hk (abt _) ho
  obtain⟨Pv,_⟩:=S.entry F' N' S.lt
  have pl:Pl [(s.heap.objs.size,o)]:=λp hp=>by rw [cq hp]; exact lb Qn
  obtain⟨PF,PH⟩:=qL (news:=news) Pv pl (S.notFoot S.lt) F' N' (S.F.notModules (modules_low C.T.nolimit)) ⟨es,Um,Qn,aaz,hp,hn⟩ Sm
  exact P _ _ _ _ _ h' tk PF PH (.ref (d:=s.heap.objs.size) (by rw [<- S.W.len]; simp)) (t.2.2 ep)
end
def w6 (news Pu:aO)(h h':Heap):Prop:=(∀b o,h.get? b=some o->(∀p∈news,p.1≠b)->h'.get? b=some o)/\∀p∈Pu,(∃o,(p.1,o)∈news)\/h.get? p.1=none
section
variable {prog:adh}{w:aa9}{A₀ A:abw}{s:aal}{base h₀:Heap}{outer:List Env}{L:Addr}{m:Str->Option aac}{env:Env}{news:List (Addr×Obj)}
 {R:afZ->aal->Prop} {name qual:Str} {params:adF} {body:List Stmt} {scope:abM} {cl:List (Str×Addr)} {dV kV Qw pm P4 ct:aac} {an:Option Addr} {fo:Obj} {f:Addr} {args:Args} {binds:List (Str×aac)}
theorem om (B:ai3 A₀ base outer h₀)(F:Fr h₀ L s.heap m)(N:News h₀ L s.heap news)(acC:h₀.NoLimit)(hA:A.frames=some (env::outer))(hf:env.frame=some L)(RY:env.scope.kind=.function)
  (ho:s.heap.get? f=some fo) (hd:fo.data=.func (fnX name qual params body scope cl dV kV Qw pm an P4 ct)) (UU:s.heap.CodeRec P4 qual) (Uh:A.depth < afx)
  (aat:BindsTo s (fnX name qual params body scope cl dV kV Qw pm an P4 ct) args binds) (Qz:∀y∈binds,scope.names.lookup y.1=some .local)
  (h:∀g L' h₁,Fr h₀ L g m->Fr g L' h₁ (λy=>binds.reverse.lookup y)->News g L' h₁ news->ai3 A base (env::outer) g->h₀.StaysIn g->(∀p∈news,p.1 < L') ->
   (∀b o,s.heap.get? b=some o->(∀p∈news,p.1≠b)->g.get? b=some o) ->
   wpAny (abe prog w) (A.deeper (envX qual scope L' f P4 cl)) (execs body (envX qual scope L' f P4 cl))
    (λfl s'=>LeaveK h₀ L m g R (match fl with | .ret v=>v | _=>.none) s')
    (λe s'=>wpAny (abe prog w) (A.deeper (envX qual scope L' f P4 cl)) (leaving (envX qual scope L' f P4 cl) e) (λ_ UJ=>R (.error e) UJ) (λe' UJ=>R (.error e') UJ) s')
    { s with heap:=h₁,toks:=s.toks+binds.length })
  (QC:∀x∈scope.names,x.2≠.cell) (Ui:autoParam (scope.isCoroutine=false) aR) (acH:autoParam (scope.isGenerator=false) aR) (hk:autoParam (scope.kind=.function) aR):adA (abe prog w) A (.call (.ref f) args) R s:=by
 obtain⟨FG,BG,st,lv⟩:=groundX (R:=R) B F N hA hf RY
 refine codeAny_call_def (fd:=fnX name qual params body scope cl dV kV Qw pm an P4 ct) (body:=body) (binds:=binds) Uh ho hd (acC.keeps F.keep) UU rfl aat QC Qz (λh₁ SE R8=>?_) Ui acH hk
 exact abU (h _ s.heap.objs.size h₁ FG ⟨SE,λb o e=>R8 b o (aim _ e),aeK (hideAll_size _ _)⟩
  (λp hp=>⟨R8 _ _ (N p hp).1,abf (abn (N p hp).1),hideAll_none _ (ah0 hp)⟩) BG st (λp hp=>abn (N p hp).1)
  (λb o e hb=>aiS _ e λq=>by obtain⟨p,hp,e'⟩:=c9 q; exact hb p hp e')) (λfl s' hl=>lv _ _ hl) λ_ _ y=>y
end
section
variable {α:bC}{ℓ:Nat}{sc:abM}{slots:List Str}{h₀ h:Heap}{L:Addr}{m:Str->Option aac}{s:aal}{st:MS}{φ:bk}{news Pu:aO}{env:Env}
def Er (α:bC)(ℓ:Nat)(f:Addr)(S:TP):Prop:=
 ∀A h₀ L,Cf α ℓ A h₀ L->∀s m st φ news Vs vs,Sn α h₀ L m s.heap st φ news->bg α.hB news φ Vs vs->∀Q (R:afZ->aal->Prop),S Vs st Q ->
  (∀V Ps PG Pu v h' PV,Sn α h₀ L m h' Ps PG Pu->a9 [α.tab] φ news PG Pu->RV α.hB Pu PG V v->w6 news Pu s.heap h'->Q V Ps->R (.ok (.ret v)) { s with heap:=h',toks:=PV }) ->
  adA (abe α.prog α.w) A (.call (.ref f) ⟨vs,[]⟩) R s
theorem Er.mono {Rz:Nat}{f:Addr}{S:TP}(h:Er α ℓ f S)(hl:ℓ<=Rz):Er α Rz f S:=λA h₀ L C=>h A h₀ L (C.mono hl)
theorem HW {f:Addr}{name qual:Str}{params:adF}{body:List Stmt}{scope:abM}{dV kV Qw pm P4 ct oc:aac}{an od:Option Addr}{Ri:Array (Option aac)}{n:Nat}{ps rest:List Str}{ds:List aac}{dVs:List MV}{S:TP}{T:TS}
  (D:u9 α f name qual params body scope dV kV Qw pm P4 ct oc an od Ri) (hb:jJ α (fnOf name qual params body scope dV kV Qw pm an P4 ct) n ps ds) (PL:n+ds.length=ps.length) (Vj:α.Ok->bg α.hB [] [] dVs ds)
  (Qt:(ps++rest).Nodup) (Qz:((ps++rest).all λx=>scope.names.lookup x == some .local)=true) (QC:(scope.names.all λx=>x.2 != .cell)=true)
  (hT:ah α ℓ scope (ps++rest) body T)
  (SX:∀Vs st Q,S Vs st Q->Vs.length=n/\T ((Vs++dVs).map some++abV rest.length none) st (fa Q)):Er α (ℓ+1) f S:=by
 intro A h₀ L C s m st φ news Vs vs PB r Q R t P
 obtain⟨hn,t⟩:=SX Vs st Q t
 have RS:vs.length=n:=by rw [r.length]; exact hn
 refine C.frC λA₀ outer Ql B hA hf RY=>?_
 have X:=C.X
 have Q5:∀x∈scope.names,x.2≠.cell:=λx hx=>by simpa using iX QC x hx
 have QE:∀x∈ps++rest,scope.names.lookup x=some .local:=λx hx=>eq_of_beq (iX Qz x hx)
 refine om (cl:=[]) B PB.F PB.N C.T.nolimit hA hf RY ((X.keeps PB.F.keep) _ _ D.look) rfl (agt (X.keeps PB.F.keep) D.code) (by have:=C.depth; walk_at "o") (hb s vs (X.keeps PB.F.keep) RS)
  (λy hy=>QE _ (aa8 _ (aen hy).1)) (λg L' h₁ FG F' N' B' Ps PR Us=>?_) Q5 D.co D.gen D.kind
 have rr:bg α.hB news φ (Vs++dVs) (vs++ds):=r.append (Vj C.ok).base
 refine hT (A.deeper (envX qual scope L' f P4 [])) g L' (envX qual scope L' f P4 []) (C.deeper hA B' rfl D.kind) ⟨rfl,D.kind,rfl,rfl⟩ _ _ st φ news _ ⟨F',N',PB.W⟩ (Kx QE rr (by rw [abd,RS]; exact PL) Qt) (AB QE Q5 Qt) (fa Q) _ _ t ?_
 ·intro fl fc Rq Pz PE PS QI PM PN PF QU Q6 PH P5 PU
  refine⟨L',QI,PS,PF.F,PF.N,λQM QO=>?_⟩
  have gg:a9 [α.tab] φ news PE PS:=PH
  have kk:w6 news PS s.heap PM:=⟨λb o e hb=>PF.F.keep b o (Us b o e hb),λp hp=>by
   by_cases hk:∃o,(p.1,o)∈news
   ·exact .inl hk
   ·refine .inr ?_
    cases e:s.heap.get? p.1 with
    | none=>rfl
    | some o =>
     have:=Us p.1 o e λq hq e'=>hk ⟨q.2,by rw [<- e']; exact hq⟩
     rw [(PF.N p hp).2.2] at this; cases this⟩
  cases P5 with
  | next=>exact P .none Pz PE PS .none PM PN ⟨QM,QO,PF.W⟩ gg .none kk PU
  | ret r=>exact P _ Pz PE PS _ PM PN ⟨QM,QO,PF.W⟩ gg r kk PU
  | brk=>exact PU.elim
  | cont=>exact PU.elim
def AF (α:bC)(ℓ:Nat)(sc:abM)(slots:List Str)(e:Expr)(T:TE):Prop:=
 ∀A h₀ L env,Cf α ℓ A h₀ L->Ce sc env->∀s m st φ news ρ,Sn α h₀ L m s.heap st φ news->Lc α slots env L m news φ ρ->∀Q Qc E,T ρ st Q ->
  (∀V Ps PG Pu v h' PV,Sn α h₀ L m h' Ps PG Pu->a9 [α.tab] φ news PG Pu->RV α.hB Pu PG V v->w6 news Pu s.heap h'->Q V Ps->Qc v { s with heap:=h',toks:=PV }) ->
  wpAny (abe α.prog α.w) A (eval e env) Qc E s
inductive Nm (slots:List Str):List Expr->List Nat->Prop
 | nil:Nm slots [] []
 | cons {x:Str} {p:Pos} {i:Nat} {es:List Expr} {is:List Nat} (hx:slots[i]?=some x) (hd:(x == ("__debug__":Str))=false) (r:Nm slots es is):Nm slots (.Name x p::es) (i::is)
noncomputable def C3:List Nat->TL
 | []=>ak
 | i::is=>ad (af i) (C3 is)
theorem LZ {i:Nat}{is:List Nat}:C3 (i::is)=ad (af i) (C3 is):=rfl
end
section
variable {α:bC}{ℓ:Nat}{sc:abM}{slots:List Str}{h₀ h h':Heap}{L:Addr}{m:Str->Option aac}{s:aal}{st:MS}{φ:bk}{news Pu:aO}{env:Env}
theorem CB {A:abw}{sh:aal}{ρ:aG}{i:Nat}{x:Str}{V:MV}{v:aac}{Qc:Unit->aal->Prop}{E:aac->aal->Prop}(D:Ce sc env)(S:Sn α h₀ L m sh.heap st φ news)(Lo:Lc α slots env L m news φ ρ)(O:dR α slots env L φ news)
  (hx:slots[i]?=some x) (hl:env.kindOf x=some .local) (r:RV α.hB news φ V v)
  (P:∀m' h' PV,Sn α h₀ L m' h' st φ news->Lc α slots env L m' news φ (ρ.set i (some V))->adi L sh.heap h'->Qc () { sh with heap:=h',toks:=PV }) :
  wpAny (abe α.prog α.w) A (storeName env x v) Qc E sh:=by
 have hk:env.scope.kind=.function:=D.scope ▸ D.kind
 have hL:=O.loc
 subst hL
 exact adu hl S.F.ns (λh' hn hs=>P (λy=>if y=x then some v else m y) h' _ ⟨S.F.set hn hs,S.N.set hs,S.W⟩ (Lo.put O hx hl r) hs) (by rw [hk]; rfl)
theorem FA {A:abw}{Qc E:aac->aal->Prop}{ρ:aG}{i:Nat}{x:Str}{V:MV}{pos:Pos}(D:Ce sc env)(S:Sn α h₀ L m s.heap st φ news)(Lo:Lc α slots env L m news φ ρ)(hx:slots[i]?=some x)(hd:(x == ("__debug__":Str))=false) (hV:ρ[i]?=some (some V))
  (P:∀v,RV α.hB news φ V v->Qc v s):wpAny (abe α.prog α.w) A (eval (.Name x pos) env) Qc E s:=
 ago (vg D S Lo hx hV P) hd
theorem Nm.runK {es:List Expr}{is:List Nat}(h:Nm slots es is){A:abw}(D:Ce sc env){ρ:aG}(S:Sn α h₀ L m s.heap st φ news)(Lo:Lc α slots env L m news φ ρ)(pos:Pos){Qc:List aac->aal->Prop}{E:aac->aal->Prop}:∀{Q:List MV->MS->Prop},
  C3 is ρ st Q->(∀Vs vs,bg α.hB news φ Vs vs->Q Vs st->Qc vs s)->wpAny (abe α.prog α.w) A (ajh (agp pos (ada es env))) Qc E s:=by
 induction h generalizing Qc with
 | nil=>intro Q t P; exact ahz (P [] [] .nil t)
 | @cons x p i es is hx hd r ih =>
  intro Q t P
  rw [LZ] at t
  unfold ad at t
  refine qH t λV hV t=>?_
  exact aeI (he:=rfl) (FA D S Lo hx hd hV λv rv=>ih t λVs vs rvs q=>P (V::Vs) (v::vs) (.cons rv rvs) q)
theorem Nm.plain {es:List Expr}{is:List Nat}(h:Nm slots es is):fB es:=by
 induction h with
 | nil=>exact .nil
 | cons hx hd _ ih=>exact .cons (λ_ _=>rfl) ih
theorem AF.call {x:Str}{p pos:Pos}{args:List Expr}{is:List Nat}{f:Addr}{S:TP}(e:nsIn α.K aam x=some (some (.ref f)))(hk:abH α.K (.ref f)=true)(hS:Er α ℓ f S)
  (hT:Nm slots args is) (hx:autoParam (sc.names.lookup x=some .globalImplicit) aR) (hd:autoParam ((x == ("__debug__":Str))=false) aD):AF α ℓ sc slots (.Call (.Name x p) args [] pos) (aF S (C3 is)):=by
 intro A h₀ L env C D s m st φ news ρ PB Lo Q Qc E t P
 refine agW (aip PB.F C.X (afY C.T) e ?_ D.glob (D.scope ▸ D.kind) (by unfold acd; rw [D.scope]; exact hx) hd)
 refine bR (α:=α) hT.plain (Pp:=α.K.In) (aiW hk) (hT.runK D PB Lo pos (Q:=λVs Pt=>S Vs Pt Q) t λVs vs r q=>⟨C.X.keeps PB.F.keep,?_⟩)
 exact aeC (hS A h₀ L C _ m st φ news Vs vs PB r Q _ q P)
end
def F4:TP:=λVs st Q=>Ml (λV W=>uQ (λxs=>uQ (λys=>xs.length+ys.length<=abD/\Q (.tup (xs++ys)) st) W) V) Vs
noncomputable def BA (G:MS->Prop)(x y i:Nat)(T:TE):List MV->List MV->TS
 | u::us,v::vs=>λρ st Q=>G st/\ar F4 (af i) T ((ρ.set x (some u)).set y (some v)) st λV Pt=>BA G x y i T us vs (((ρ.set x (some u)).set y (some v)).set i (some V)) Pt Q
 | _,_=>λρ st Q=>G st/\Q .next ρ st
def MQ (x y i:Nat)(T:TE)(ρ:aG)(Q:MF->aG->MS->Prop):MV->MV->MS->Prop:=λV W Pz=>h7 (λr=>h7 (λr'=>cE Pz[r]? λus=>cE Pz[r']? λvs=>BA (λst=>st[r]?=some (.list us)/\st[r']?=some (.list vs)) x y i T us vs ρ Pz Q) W) V
def yG (a b:TE)(x y i:Nat)(T:TE):TS:=λρ st Q=>a ρ st λV Pt=>b ρ Pt λW Pz=>MQ x y i T ρ Q V W Pz
section
variable {α:bC}{ℓ:Nat}{sc:abM}{slots:List Str}{h₀ h h':Heap}{L:Addr}{m:Str->Option aac}{s:aal}{st:MS}{φ PG:bk}{news Pu:aO}{env:Env}
def K3 (L:Addr)(news Pu:aO)(h h':Heap):Prop:=(∀b o,L < b->(∀p∈news,p.1≠b)->h.get? b=some o->h'.get? b=some o)/\∀p∈Pu,(∃o,(p.1,o)∈news)\/h.get? p.1=none
theorem w6.k3 (k:w6 news Pu h h'):K3 L news Pu h h':=⟨λb o _ hb e=>k.1 b o e hb,k.2⟩
theorem K3.same (hs:adi L h h'):K3 L news news h h':=⟨λb o hb _ e=>hs.extBut b o (abW hb) e,λp hp=>.inl ⟨p.2,hp⟩⟩
structure Zp (L:Addr)(h:Heap)(z TI TO i1 i2 l1 l2:Addr)(k:Nat)(news:aO):Prop where
 D:ZipApart z TI TO i1 i2 l1 l2
 hz:IsZip h z TI TO .none
 hTI:IsPair h TI (.ref i1) (.ref i2)
 hTO:∃a b,IsPair h TO a b
 h1:h.IsListIter i1 l1 k
 h2:h.IsListIter i2 l2 k
 ab:∀a,a=z\/a=TI\/a=TO\/a=i1\/a=i2->L < a/\∀p∈news,p.1≠a
theorem Zp.keepZ {z TI TO i1 i2 l1 l2:Addr}{k:Nat}(Z:Zp L h z TI TO i1 i2 l1 l2 k news)(kk:∀a o,(a=z\/a=TI\/a=TO\/a=i1\/a=i2)->h.get? a=some o->h'.get? a=some o)(K:∀p∈Pu,(∃o,(p.1,o)∈news)\/h.get? p.1=none):Zp L h' z TI TO i1 i2 l1 l2 k Pu:=by
 refine bv λGG PD=>?_
 obtain⟨a,b,QP⟩:=Z.hTO
 obtain⟨o1,e1,c1⟩:=id Z.h1
 obtain⟨o2,e2,c2⟩:=id Z.h2
 refine PD ?_
 refine⟨Z.D,kk _ _ (.inl rfl) Z.hz,kk _ _ (.inr (.inl rfl)) Z.hTI,⟨a,b,kk _ _ (.inr (.inr (.inl rfl))) QP⟩,⟨o1,kk _ _ (.inr (.inr (.inr (.inl rfl)))) e1,c1⟩,⟨o2,kk _ _ (.inr (.inr (.inr (.inr rfl)))) e2,c2⟩,λc hc=>⟨(Z.ab c hc).1,λp hp e=>?_⟩⟩
 rcases K p hp with ⟨o,ho⟩ | q
 ·exact (Z.ab c hc).2 (p.1,o) ho e
 ·rw [e] at q
  rcases hc with rfl | rfl | rfl | rfl | rfl
  ·have:=Z.hz; rw [IsZip,q] at this; cases this
  ·have:=Z.hTI; rw [IsPair,q] at this; cases this
  ·rw [IsPair,q] at QP; cases QP
  ·rw [q] at e1; cases e1
  ·rw [q] at e2; cases e2
theorem Zp.keep {z TI TO i1 i2 l1 l2:Addr}{k:Nat}(Z:Zp L h z TI TO i1 i2 l1 l2 k news)(K:K3 L news Pu h h'):Zp L h' z TI TO i1 i2 l1 l2 k Pu:=
 Z.keepZ (λa o ha e=>K.1 a o (Z.ab a ha).1 (Z.ab a ha).2 e) K.2
theorem Zp.led {z TI TO i1 i2 l1 l2:Addr}{k:Nat}(Z:Zp L h z TI TO i1 i2 l1 l2 k news)(S:Sn α h₀ L m h st φ news):∃zE:aO,News h₀ L h (zE++news)/\∀a o,(a=z\/a=TI\/a=TO\/a=i1\/a=i2)->h.get? a=some o->(a,o)∈zE:=by
 refine bv λGG PD=>?_
 obtain⟨oT,QP⟩:∃o,h.get? TO=some o:=let ⟨a,b,e⟩:=Z.hTO; ⟨_,e⟩
 obtain⟨o1,e1⟩:∃o,h.get? i1=some o:=let ⟨o,e,_⟩:=Z.h1; ⟨o,e⟩
 obtain⟨o2,e2⟩:∃o,h.get? i2=some o:=let ⟨o,e,_⟩:=Z.h2; ⟨o,e⟩
 obtain⟨oz,hz⟩:∃o,h.get? z=some o:=⟨_,Z.hz⟩
 obtain⟨oI,hTI⟩:∃o,h.get? TI=some o:=⟨_,Z.hTI⟩
 refine PD ?_
 have ok:∀c o,(c=z\/c=TI\/c=TO\/c=i1\/c=i2)->h.get? c=some o->h.get? c=some o/\c≠L/\h₀.get? c=none:=λc o hc e=>⟨e,abW (Z.ab c hc).1,by
  cases q:h₀.get? c with
  | none=>rfl
  | some y=>exact absurd (abJ (abn q) S.F.above) (aje.mpr (adl (Z.ab c hc).1))⟩
 refine⟨[(z,oz),(TI,oI),(TO,oT),(i1,o1),(i2,o2)],λp hp=>?_,λc o hc e=>?_⟩
 ·rcases dU hp with hp | hp
  ·simp only [abB,abx,or_false] at hp
   rcases hp with rfl | rfl | rfl | rfl | rfl
   ·exact ok _ _ (.inl rfl) hz
   ·exact ok _ _ (.inr (.inl rfl)) hTI
   ·exact ok _ _ (.inr (.inr (.inl rfl))) QP
   ·exact ok _ _ (.inr (.inr (.inr (.inl rfl)))) e1
   ·exact ok _ _ (.inr (.inr (.inr (.inr rfl)))) e2
  ·exact S.N p hp
 ·rcases hc with rfl | rfl | rfl | rfl | rfl
  ·rw [e] at hz; cases hz; simp
  ·rw [e] at hTI; cases hTI; simp
  ·rw [e] at QP; cases QP; simp
  ·rw [e] at e1; cases e1; simp
  ·rw [e] at e2; cases e2; simp
end
section
variable {α:bC}{ℓ:Nat}{sc:abM}{slots:List Str}{h₀ h h':Heap}{L:Addr}{m:Str->Option aac}{s:aal}{st:MS}{φ PG:bk}{news Pu:aO}{env:Env}
theorem Sn.but (S:Sn α h₀ L m h st φ news)(av:Addr->Prop)(ZM:∀a,av a->L < a/\∀p∈news,p.1≠a)(hk:∀b o,¬av b->h.get? b=some o->h'.get? b=some o):Sn α h₀ L m h' st φ news:=
 ⟨⟨S.F.ns.at' λz e=>hk L z (λq=>acj _ (ZM L q).1) e,λb z e=>hk b z (λq=>absurd (abJ (abn e) S.F.above) (aje.mpr (adl (ZM b q).1))) (S.F.keep b z e),S.F.above⟩,
  λp hp=>⟨hk _ _ (λq=>(ZM _ q).2 p hp rfl) (S.N p hp).1,(S.N p hp).2⟩,S.W⟩
theorem Jw {G:MS->Prop}{x y i:Nat}{T:TE}{us vs:List MV}{ρ:aG}{Q:MF->aG->MS->Prop}(h:us=[]\/vs=[])(t:BA G x y i T us vs ρ st Q):G st/\Q .next ρ st:=by
 cases us with
 | nil=>exact t
 | cons u us =>
  cases vs with
  | nil=>exact t
  | cons v vs=>rcases h with h | h <;> cases h
section
variable {A:abw}{E:aac->aal->Prop}{j tk:Nat}{z TI TO i1 i2 d1 d2:Addr}
theorem Sn.noObj (S:Sn α h₀ L m h st φ news):h.get? h.objs.size=none/\h₀.get? h.objs.size=none:=by
 have hT:h.get? h.objs.size=none:=by
  cases q:h.get? h.objs.size with
  | none=>rfl
  | some y=>exact absurd (abn q) (acj _)
 refine⟨hT,?_⟩
 cases q:h₀.get? h.objs.size with
 | none=>rfl
 | some y=>rw [S.F.keep _ _ q] at hT; cases hT
theorem Zp.objs (Z:Zp L h z TI TO i1 i2 d1 d2 j news){a:Addr}(ha:a=z\/a=TI\/a=TO\/a=i1\/a=i2):∃o,h.get? a=some o:=by
 refine bv λGG PD=>?_
 obtain⟨_,_,hTO⟩:=Z.hTO
 obtain⟨o1,e1,_⟩:=Z.h1
 obtain⟨o2,e2,_⟩:=Z.h2
 refine PD ?_
 rcases ha with rfl | rfl | rfl | rfl | rfl
 ·exact⟨_,Z.hz⟩
 ·exact⟨_,Z.hTI⟩
 ·exact⟨_,hTO⟩
 ·exact⟨o1,e1⟩
 ·exact⟨o2,e2⟩
theorem Zp.but (Z:Zp L h z TI TO i1 i2 d1 d2 j news)(S:Sn α h₀ L m h st φ news)(hk:∀b o,b≠z->b≠TO->b≠i1->b≠i2->h.get? b=some o->h'.get? b=some o):Sn α h₀ L m h' st φ news:=
 S.but (λa=>a=z\/a=TO\/a=i1\/a=i2) (λa ha=>Z.ab a (ha.elim .inl λq=>.inr (.inr q))) λb o hb e=>hk b o (λq=>hb (.inl q)) (λq=>hb (.inr (.inl q))) (λq=>hb (.inr (.inr (.inl q)))) (λq=>hb (.inr (.inr (.inr q)))) e
theorem IK {Kn:Option aac->aal->Prop}{K:Unit->aal->Prop}{nx ny:Str}{p1 p2 p3:Pos}{kk x y c1 c2:Nat}{Tc RB:Array aac}{V1 V2:MV}{v1 v2:aac}{ρ:aG}(hh:A.handled=none)
  (D:Ce sc env) (hx:slots[x]?=some nx) (hy:slots[y]?=some ny) (lx:env.kindOf nx=some .local) (ly:env.kindOf ny=some .local)
  (S:Sn α h₀ L m h st φ news) (Z:Zp L h z TI TO i1 i2 d1 d2 j news) (Lo:Lc α slots env L m news φ ρ) (O:dR α slots env L φ news)
  (UT:(d1,bV Tc c1)∈news) (SU:(d2,bV RB c2)∈news) (e1:Tc[j]?=some v1) (e2:RB[j]?=some v2) (ZU:RV α.hB news φ V1 v1) (Za:RV α.hB news φ V2 v2)
  (hn:∀v P0,wpAny (abe α.prog α.w) A (ab8 (.Tuple [.Name nx p1,.Name ny p2] kk p3) (.ref z) v) (λ_ Qo=>wpAny (abe α.prog α.w) A (afB (.Tuple [.Name nx p1,.Name ny p2] kk p3) env v) K E Qo) E P0->Kn (some v) P0)
  (k:∀m' h' PV n',Sn α h₀ L m' h' st φ n'->Zp L h' z TI TO i1 i2 d1 d2 (j+1) n'->Lc α slots env L m' n' φ ((ρ.set x (some V1)).set y (some V2))->dR α slots env L φ n'->a9 [α.tab] φ news φ n'->K () { s with heap:=h',toks:=PV }) :
  wpAny (abe α.prog α.w) A (afD (.ref z)) Kn E { s with heap:=h,toks:=tk }:=by
 obtain⟨ta,tb,hTO⟩:=Z.hTO
 refine wpAny_pyNext_zip_item Z.D Z.hz Z.hTI hTO Z.h1 Z.h2 (S.isList (s:={ s with heap:=h }) UT) (S.isList (s:={ s with heap:=h }) SU) e1 e2 λQN aaF ZY aaw aaT aaQ aes WK=>hn _ _ ?_
 refine wpAny_letOwnedTupleGo_zip aaF λQv aaM Ud=>?_
 have Qp:∀b o,h.get? b=some o->b≠h.objs.size:=λb o e=>abf (abn e)
 have k35:∀b o,b≠z->b≠TO->b≠i1->b≠i2->h.get? b=some o->Qv.get? b=some o:=λb o b1 b2 b3 b4 e=>Ud.extBut b o b1 (WK b o b1 b2 b3 b4 e)
 have RM:Sn α h₀ L m Qv st φ news:=Z.but S k35
 have Yr:Qv.get? h.objs.size=some (bA #[v1,v2]):=Ud.extBut _ _ (Qp z _ Z.hz).symm aaQ
 have no:=S.noObj
 have SH:News h₀ L Qv ((h.objs.size,bA #[v1,v2])::news):=λp hp=>by
  rcases bN hp with rfl | hp
  ·exact⟨Yr,abW S.F.ns.lt,no.2⟩
  ·exact RM.N p hp
 obtain⟨U3,Su⟩:=RM.entry RM.F SH λp hp e=>by
  have:=(S.N p hp).1
  rw [e,no.1] at this; cases this
 have ac3:Zp L Qv z TI TO i1 i2 d1 d2 (j+1) ((h.objs.size,bA #[v1,v2])::news):=by
  refine⟨Z.D,aaM,k35 _ _ Z.D.TIz Z.D.TITO Z.D.TIi1 Z.D.TIi2 Z.hTI,⟨v1,v2,Ud.extBut _ _ Z.D.TOz ZY⟩,aaw.extBut Ud.extBut Z.D.i1z,aaT.extBut Ud.extBut Z.D.i2z,λa ha=>⟨(Z.ab a ha).1,λp hp e=>?_⟩⟩
  rcases bN hp with rfl | hp
  ·obtain⟨o,eo⟩:=Z.objs ha
   exact Qp a o eo e.symm
  ·exact (Z.ab a ha).2 p hp e
 have TT:kE slots [.Name nx p1,.Name ny p2] [x,y]:=.cons hx (.cons hy .nil)
 refine agv (s:={ s with heap:=Qv,toks:=tk }) hh (items:=#[v1,v2]) ⟨_,Yr,rfl,0,rfl⟩ (by rw [(TT.each env).1]; rfl) (TT.each env).2 λR6 aa7=>?_
 have k57:∀b o,Qv.get? b=some o->R6.get? b=some o:=λb o e=>aa7 b o (abf (abn e)) e
 have XA:=O.grow Su
 refine adP (ab4 (CB (sh:={ s with heap:=R6,toks:=tk }) D (U3.keeps k57) (Lo.grow Su) XA hx lx (ZU.mono Su) λafd U5 Tn VE aaN aaL=>?_))
 have acM:=(ac3.keepZ (h':=R6) (λa o _ e=>k57 a o e) λp hp=>.inl ⟨p.2,hp⟩).keep (K3.same aaL)
 refine adP (ab4 (CB (sh:={ s with heap:=U5,toks:=Tn }) D VE aaN XA hy ly (Za.mono Su) λZt ZQ Yi WI Ur aaU=>?_))
 exact afC (k _ _ _ _ WI (acM.keep (K3.same aaU)) Ur XA Su)
theorem Lr {K:aac->aal->Prop}{V W:MV}{v w:aac}{Q:MV->MS->Prop}(Ps:α.hB.StaysIn h₀)(S:Sn α h₀ L m h st φ news)(Z:Zp L h z TI TO i1 i2 d1 d2 j news)(rv:RV α.hB news φ V v)(rw':RV α.hB news φ W w)(t:F4 [V,W] st Q)
  (QK:∀U v' h' n',Sn α h₀ L m h' st φ n'->a9 [α.tab] φ news φ n'->Zp L h' z TI TO i1 i2 d1 d2 j n'->RV α.hB n' φ U v'->Q U st->K v' { s with heap:=h',toks:=tk }) :
  wpAny (abe α.prog α.w) A (agr .Add v w) K E { s with heap:=h,toks:=tk }:=by
 apply rv.oT t; intro xs ta its hh1 ZO t; apply rw'.oT t; intro ys tb RB hh2 Zq t
 have l1:=ZO.length
 have l2:=Zq.length
 obtain⟨zE,Nz,Wx⟩:=Z.led S
 refine add_tuples (s:={ s with heap:=h,toks:=tk }) S.F Nz (vs:=its.toList) (ws:=RB.toList) (S.isTup (s:={ s with heap:=h,toks:=tk }) Ps hh1) (S.isTup (s:={ s with heap:=h,toks:=tk }) Ps hh2) (λe=>?_) (λ_ e=>?_) (λ_ _ h' F' N'=>?_) (by rw [l1,l2]; exact t.1)
 ·obtain rfl:xs=[]:=by rw [e] at l1; exact abL l1.symm
  exact QK _ _ _ _ S .refl Z (.tup hh2 Zq) t.2
 ·obtain rfl:ys=[]:=by rw [e] at l2; exact abL l2.symm
  exact QK _ _ _ _ S .refl Z (.tup hh1 ZO) (abv xs ▸ t.2)
 ·have N'':News h₀ L h' ((h.objs.size,bA (its.toList++RB.toList).toArray)::news):=λp hp=>by
   rcases bN hp with rfl | hp
   ·exact N' _ (.head _)
   ·exact N' p (.tail _ (aba _ hp))
  obtain⟨S',g'⟩:=S.entry F' N'' λp hp=>abf (abn (S.N p hp).1)
  refine QK _ _ _ _ S' g' (Z.keepZ (λa o ha e=>(N' (a,o) (.tail _ (aa8 _ (Wx a o ha e)))).1) λp hp=>?_) (.tup (.inl (.head _)) ((ZO.append Zq).mono g')) t.2
  rcases bN hp with rfl | hp
  ·exact .inr S.noObj.1
  ·exact .inl ⟨p.2,hp⟩
end
def N6 (α:bC)(h₀:Heap)(L:Addr)(slots:List Str)(env:Env)(s:aal)(Px φ:bk)(news:aO)(z TI TO i1 i2 d1 d2:Addr)(N:Nat)(Tz:Nat->aG->MS->Prop)(k:Nat)(s':aal):Prop:=
 ∀P:Nat->aal->Prop,(∀j m st PE n ρ h tk,j<=N->Sn α h₀ L m h st PE n->Zp L h z TI TO i1 i2 d1 d2 j n->Lc α slots env L m n PE ρ->dR α slots env L PE n->Px <+: PE->a9 [α.tab] φ news PE n->Tz j ρ st->P (N+1 - j) { s with heap:=h,toks:=tk })->P k s'
theorem Eo {e1 e2 call:Expr}{nx ny nf:Str}{k:Nat}{p1 p2 p3 p4 p5 p6 p7 p8 p9 pos:Pos}{x y i:Nat}{a b T:TE}(QP:ae α ℓ sc slots [e1,e2] (ad a (ad b ak)))(hT:AF α ℓ sc slots call T)(he:nsIn α.K aam ("zip":Str)=some none)
  (hx:autoParam (slots[x]?=some nx) aR) (hy:autoParam (slots[y]?=some ny) aR) (hi:autoParam (slots[i]?=some nf) aR) (hz:autoParam (sc.names.lookup ("zip":Str)=some .globalImplicit) aR)
  (lx:autoParam (sc.names.lookup nx=some .local) aR) (ly:autoParam (sc.names.lookup ny=some .local) aR) (lf:autoParam (sc.names.lookup nf=some .local) aR) (hdf:autoParam ((nf == ("__debug__":Str))=false) aD) :
  au α ℓ sc slots (.For (.Tuple [.Name nx p1,.Name ny p2] k p3) (.Call (.Name ("zip":Str) p4) [e1,e2] [] p5) [.Assign [.Name nf p6] (.BinOp (.Name nf p7) .Add call p8) pos] [] p9) (yG a b x y i T):=by
 intro A h₀ L env C D s m st φ news ρ PB Lo O Q Qc E t P
 have kl:∀z,sc.names.lookup z=some .local->env.kindOf z=some .local:=λz hz=>by unfold acd; rw [D.scope]; exact hz
 refine wpAny_For ?_ (λ_=>rfl)
 refine agW (fy C D PB.F he (v:=.type "zip") (by decide +kernel) (by decide +kernel) ?_ hz (by decide +kernel))
 refine bR (α:=α) QP.plain (Pp:=λ_=>True) (λh _=>iU _ h) (QP.run A h₀ L env C D s m st φ news ρ PB Lo p5 (λVs Pz=>Ml (λV W=>MQ x y i T ρ Q V W Pz) Vs) _ E t λVs Pt Px PC vs h₁ PA Pv Py PO Pw PL=>⟨trivial,?_⟩)
 clear PL t
 apply PO.o2 Pw; intro V W va vb ra rb Pw; apply ra.oR Pw; intro r d1 x1 Xp Pw; apply rb.oR Pw; intro r' d2 x2 XH Pw
 refine bZ Pw λus hr Pw=>bZ Pw λws VI tz=>?_
 refine Pv.W.listC hr Xp λTc c1 Xp UT _=>Pv.W.listC VI XH λRB c2 XH SU _=>?_
 have lt1:d1 < h₁.objs.size:=abn (Pv.N _ UT).1
 have lt2:d2 < h₁.objs.size:=abn (Pv.N _ SU).1
 refine call_zip_2 (Pv.isList (s:={ s with heap:=h₁ }) UT) (Pv.isList (s:={ s with heap:=h₁ }) SU) λPM VY aae Zm Xb UK hsz hk=>?_
 refine wpAny_pyIter_zip VY ?_
 have PF:Sn α h₀ L m PM Pt Px PC:=Pv.keeps hk
 have UD:Zp L PM (h₁.objs.size+4) (h₁.objs.size+2) (h₁.objs.size+3) h₁.objs.size (h₁.objs.size+1) d1 d2 0 PC:=⟨zipApart_new lt1 lt2,VY,aae,⟨_,_,Zm⟩,Xb,UK,λa ha=>by
  have:h₁.objs.size<=a:=by rcases ha with rfl | rfl | rfl | rfl | rfl <;> walk_at "o"
  exact⟨abJ Pv.F.ns.lt this,λp hp e=>absurd (abn (Pv.N p hp).1) (aje.mpr (e ▸ this))⟩⟩
 generalize h₁.objs.size+4=z at UD VY ⊢
 generalize h₁.objs.size+2=TI at UD
 generalize h₁.objs.size+3=TO at UD
 generalize h₁.objs.size+1=i2 at UD
 generalize h₁.objs.size=i1 at UD
 clear VY aae Zm Xb UK hsz hk lt1 lt2
 generalize hInv:N6 α h₀ L slots env s Px φ news z TI TO i1 i2 d1 d2 us.length (λj ρ st=>BA (λst=>st[r]?=some (.list us)/\st[r']?=some (.list ws)) x y i T (us.drop j) (ws.drop j) ρ st Q)=Inv
 refine zF Inv ?_ (us.length+1) (hInv ▸ λ_ k=>k 0 m Pt Px PC ρ PM PA (abS _) PF UD (Lo.grow Py) (O.grow Py) (aaj _) Py tz)
 intro kk s' KF E' kN kB kR QA
 rw [<- hInv] at QA
 revert kN
 apply QA; intro j Ux Qd QB Qs Tt P2 P7 hj P3 Tg SJ Ss VH Qg Qe kN
 have Yf:(Qd[r]?=some (.list us)/\Qd[r']?=some (.list ws))->(∃Tc n1,(d1,bV Tc n1)∈Qs/\bg α.hB Qs QB us Tc.toList)/\∃RB n2,(d2,bV RB n2)∈Qs/\bg α.hB Qs QB ws RB.toList:=λhG =>
  ⟨(P3.W.list hG.1 (aA VH Xp)).2,(P3.W.list hG.2 (aA VH XH)).2⟩
 by_cases PR:j < us.length/\j < ws.length
 ·rw [acb PR.1,acb PR.2] at Qe
  refine bv λGG PD=>?_
  obtain⟨⟨Tc,c1,UT,q1⟩,RB,c2,SU,q2⟩:=Yf Qe.1
  obtain⟨v1,hv1,ZU⟩:=q1.get (abc PR.1)
  obtain⟨v2,hv2,Za⟩:=q2.get (abc PR.2)
  refine PD ?_
  refine IK (K:=λ_ Qo=>wpAny (abe α.prog α.w) A (execs _ env) KF E' Qo) C.hand D hx hy (kl _ lx) (kl _ ly) P3 Tg SJ Ss UT SU (by simpa using hv1) (by simpa using hv2) ZU Za (λv P0 q=>q) λZt ZQ Yi afj WI acV Ur aad Vz=>?_
  refine qH Qe.2 λV0 hV0 Qe=>?_
  refine ab1 (afA (wpAny_BinOp (FA (s:={ s with heap:=ZQ,toks:=Yi }) D WI Ur hi hdf hV0 λv0 rv0=>hT A h₀ L env C D _ Zt Qd QB _ _ WI Ur _ _ _ Qe λW XW XG ac9 w Uz Xi YH We YD YE YF=>?_)) rfl)
  refine Lr C.stays YH (acV.keep YE.k3) (rv0.mono We) YD YF λU v' h' n' S' g' Z' rv' tz=>?_
  have gg:=We.trans g'
  refine CB (sh:={ s with heap:=h',toks:=Xi }) D S' (Ur.grow gg) (aad.grow gg) hi (kl _ lf) rv' λm'' Vb acB YU acK TW=>?_
  have g3:=Vz.trans gg
  exact adW (kN _ ⟨us.length+1 - (j+1),aeQ (abN PR.1) (aby j),hInv ▸ λ_ k=>k (j+1) m'' XW XG n' _ Vb acB PR.1 YU (Z'.keep (K3.same TW)) acK (aad.grow gg) (VH.trans g3.pre) (Qg.trans g3) tz⟩).1
 ·have Xy:j=us.length\/ws.length<=j:=by walk_at "o"
  refine bv λGG PD=>?_
  obtain⟨hG,tq⟩:=Jw (Xy.imp (λe=>aej (aeK e.symm)) aej) Qe
  obtain⟨⟨Tc,c1,UT,q1⟩,RB,c2,SU,q2⟩:=Yf hG
  obtain⟨ta,tb,Z9⟩:=Tg.hTO
  refine PD ?_
  refine wpAny_pyNext_zip_end C.hand Tg.D Tg.hz Tg.hTI Z9 Tg.h1 Tg.h2 (P3.isList (s:={ s with heap:=P2 }) UT) (P3.isList (s:={ s with heap:=P2 }) SU) (Xy.imp (λe=>acf (by rw [<- abm,q1.length,e]; exact abt _)) λh=>acf (by rw [<- abm,q2.length]; exact h)) λQN WK =>
   adW (P .next .next Tt Qd QB Qs Ux QN P7 (Tg.but P3 WK) SJ Ss (dC Qg) .next tq)
end
section
open PyProof.Rows.LCg
inductive jY (hB:Heap)(news:aO)(φ:bk):List (Int×MV)->List (Int×aac)->Prop
 | nil:jY hB news φ [] []
 | cons {k:Int} {V:MV} {v:aac} {fs:List (Int×MV)} {kvs:List (Int×aac)} (h:RV hB news φ V v) (r:jY hB news φ fs kvs):jY hB news φ ((k,V)::fs) ((k,v)::kvs)
theorem jY.mono {X:List Addr}{hB:Heap}{news Pu:aO}{φ PG:bk}{fs:List (Int×MV)}{es:List (Int×aac)}(r:jY hB news φ fs es)(g:a9 X φ news PG Pu):jY hB Pu PG fs es:=by
 induction r with
 | nil=>exact .nil
 | cons h _ ih=>exact .cons (h.mono g) ih
theorem jY.snoc {hB:Heap}{news:aO}{φ:bk}{fs:List (Int×MV)}{es:List (Int×aac)}{k:Int}{V:MV}{v:aac}(r:jY hB news φ fs es)(h:RV hB news φ V v):jY hB news φ (fs++[(k,V)]) (es++[(k,v)]):=by
 induction r with
 | nil=>exact .cons h .nil
 | cons h' _ ih=>exact .cons h' ih
theorem jY.keys {hB:Heap}{news:aO}{φ:bk}{fs:List (Int×MV)}{es:List (Int×aac)}(r:jY hB news φ fs es):es.map (·.1)=fs.map (·.1):=by
 induction r with
 | nil=>rfl
 | cons _ _ ih=>simp [ih]
noncomputable def Ih (G:MS->Prop)(tg:TG)(kx:Nat)(e:TE):List MV->aG->List (Int×MV)->MS->(List (Int×MV)->MS->Prop)->Prop
 | [],_,ys,st,Q=>G st/\Q ys st
 | x::xs,ρ,ys,st,Q=>G st/\tg x ρ λP9=>∃i,P9[kx]?=some (some (.int i))/\i ∉ ys.map (·.1)/\e P9 st λV Pz=>Ih G tg kx e xs P9 (ys++[(i,V)]) Pz Q
section
variable {prog:adh}{w:aa9}{A:abw}{R:afZ->aal->Prop}{s:aal}
theorem qw {kx vx Qm iter:Expr}{scope:abM}{pos:Pos}{it:aac}{D:Addr}{env:Env}(I:Nat->aal->Prop)
  (turn:∀n s,I n s->wpAny (abe prog w) A (afD it) (λr P0=>match r with
   | none=>R (.ok .next) P0
   | some v=>wpAny (abe prog w) A (ab8 Qm it v) (λ_ RC=>wpAny (abe prog w) A (afB Qm env v) (λ_ Qo =>
      wpAny (abe prog w) A (eval kx env) (λkv Rv=>wpAny (abe prog w) A (eval vx env) (λvv SP =>
       wpAny (abe prog w) A (dictSet D kv vv) (λ_ U8=>∃m,m < n/\I m U8) (aeL (abe prog w) A env λe s'=>R (.error e) s') SP) (aeL (abe prog w) A env λe s'=>R (.error e) s') Rv) (aeL (abe prog w) A env λe s'=>R (.error e) s') Qo) (aeL (abe prog w) A env λe s'=>R (.error e) s') RC) (aeL (abe prog w) A env λe s'=>R (.error e) s') P0) (aeL (abe prog w) A env λe s'=>R (.error e) s') s)
  (n:Nat) (h:I n s) :
  adA (abe prog w) A (.compLoop (.DictComp kx vx [⟨Qm,iter,[],0⟩] scope pos) 0 it (.ref D) env) R s:=by
 refine codeAny_loop rfl I (λn s hI=>?_) n h
 show wpAny _ A ((compTurn (.DictComp kx vx [⟨Qm,iter,[],0⟩] scope pos) 0 it (.ref D) env).onRaise (λx=>do noteFrame x env; theTreesLotGoes x)) _ _ s
 refine wpAny_noted ?_
 rw [compTurn_dict]
 refine aag (ado (aag (abU (turn n s hI) (λr P0 h₁=>?_) λ_ _ h'=>h')))
 cases r with
 | none=>exact abb h₁
 | some v =>
  refine aag (abU h₁ (λ_ RC WO=>?_) λ_ _ h'=>h')
  refine aag (abU WO (λ_ Qo PM=>aag (wpAny_tests_nil ?_)) λ_ _ h'=>h')
  exact aag (aag (abU PM (λkv Rv QN=>aag (ab3 (abU QN (λvv SP Qv=>aag (ado (ab3 (abU Qv (λ_ U8 Q3=>abb ⟨rfl,Q3⟩) λ_ _ h'=>h')))) λ_ _ h'=>h'))) λ_ _ h'=>h'))
end
section
variable {α:bC}{ℓ:Nat}{sc scope:abM}{slots tgts cn:List Str}{h₀ h h':Heap}{L:Addr}{m:Str->Option aac}{st:MS}{φ PG:bk}{o o' news Pu:aO}{env:Env}{X:List Addr}{P8:Expr}
theorem AS {prog:adh}{w:aa9}{od:Obj}{kvs:List (Int×aac)}(hd:od.IsDictOf (adr prog w) kvs):G2 od:=let ⟨_,_,_,hd,_⟩:=hd; lb (p:=(aee,od)) hd
theorem FW {A:abw}{vx iter:Expr}{kn:Str}{TA pos:Pos}{cl:List (Str×Addr)}{s:aal}{I C D:Addr}{xs:List MV}{G:MS->Prop}{keys:List Addr}{own:Nat->aO->Prop}{oI:aO}{z od:Obj}{mC:Str->Option aac}{ρ:aG}
  {tg:TG} {kx:Nat} {te:TE} {R:afZ->aal->Prop} {Q:List (Int×MV)->MS->Prop}
  (Cx:Cf α ℓ A h₀ L) (Dx:Ce sc env) (W:qX α A h₀ L φ P8 I xs G keys own) (PL:xs.length<=abD)
  (hk:∀x∈tgts,(ad0 scope env).names.lookup x=some .local) (hc:∀x∈cn,(ad0 scope env).names.lookup x=some .cell) (Qr:scope.kind=.function)
  (ht:cY α (gm sc scope) tgts P8 tg) (UL:(tgts++cn)[kx]?=some kn) (Ro:(kn == ("__debug__":Str))=false) (Wv:∀v,ab8 P8 (.ref I) v=pure ()) (he:aa α ℓ (gm sc scope) (tgts++cn) vx te)
  (S:Sn α h₀ L m s.heap st φ (oD C D oI z od++news)) (Qx:own 0 oI) (hf:∀p∈oD C D oI z od,p.1 ∉ bq φ) (RT:od.IsDictOf (adr α.prog α.w) []) (hz:NsObj z mC) (h1:CL α news φ tgts mC ρ) (h2:oK (α:=α) φ cl news tgts.length cn ρ)
  (t:Ih G tg kx te xs ρ [] st Q)
  (P:∀ys kvs Ps PG Pu z' QZ h' PV QR,Sn α h₀ L m h' Ps PG ([(C,z'),(D,QZ)]++Pu)->NsObj z' QR->QZ.IsDictOf (adr α.prog α.w) kvs->a9 [α.tab] φ news PG Pu->(∀p∈[(C,z'),(D,QZ)],p.1 ∉ bq PG)->jY α.hB Pu PG ys kvs->Q ys Ps->R (.ok .next) { s with heap:=h',toks:=PV }) :
  adA (abe α.prog α.w) A (.compLoop (.DictComp (.Name kn TA) vx [⟨P8,iter,[],0⟩] scope pos) 0 (.ref I) (.ref D) (adw scope cl C env)) R s:=by
 have Dc:Ce (gm sc scope) (adw scope cl C env):=⟨sR scope Dx,Qr,Dx.glob,Dx.bul⟩
 refine qw (JL α h₀ L m tgts cn cl C D s φ news own xs.length λi ρ φ r od st=>∀G₀:Prop,(∀ys kvs,od.IsDictOf (adr α.prog α.w) kvs->jY α.hB r φ ys kvs->kvs.length<=i->Ih G tg kx te (xs.drop i) ρ ys st Q->G₀)->G₀) ?_ (xs.length+1)
  (λ_ k=>k 0 oI z od mC st φ news ρ s.heap s.toks (abS _) ⟨S,W.pl _ _ Qx,AS RT,hf,hz,h1,h2⟩ Qx .refl λ_ k=>k [] [] RT .nil (abt _) t)
 intro k s' hI
 apply hI; intro i oI z od mC Pz PE P5 Qk PM PN hi X Ra PH tt
 refine tt _ λys kvs WY VU hsz PU=>?_
 generalize (aeL (abe α.prog α.w) A (adw scope cl C env) λe s'=>R (.error e) s')=E
 rcases aiz i xs.length with PR | Rr
 ·rw [acb PR] at PU
  refine zb (K:=λQo=>wpAny (abe α.prog α.w) A (eval (.Name kn TA) (adw scope cl C env)) _ E Qo) Cx Dx W Qr ht X Ra PH.pre PU.1 PR PU.2 (λv P0 q=>q) λUX Vp Ul VQ Q0 Qv RJ UE RN SO Rg=>?_
  obtain⟨ki,hki,SM,Rg⟩:=Rg
  have Yb:=RN.lc hk hc
  refine FA (s:={ s with heap:=Qv,toks:=RJ }) Dc RN.S Yb UL Ro hki λkv rk=>?_
  cases rk with | int _ kt =>
  refine he A h₀ L (adw scope cl C env) Cx Dc _ m Pz PE _ Q0 RN.S Yb _ _ _ Rg λV Yq Yj acy u U5 Tn VE Xz XI Xh=>RN.after VE Xz λZ6 Vu Vz Vo=>?_
  refine ahZ (s:={ s with heap:=U5,toks:=Tn }) (knd:=adr α.prog α.w) (k:=ki) (af2 _ _ _ _) (age.mpr ⟨od,Vu.S.N.get (aa8 _ Kc),WY⟩) (λUz Ty TY=>?_) (aan hsz (aan hi PL))
  obtain⟨QZ,SY,Ta⟩:=age.mp Ty
  rw [xl (by rw [VU.keys]; exact SM)] at Ta
  have g':=SO.trans Vz
  exact⟨xs.length+1 - (i+1),aeQ (abN PR) (aby i),λ_ k=>k (i+1) UX Vp QZ Ul Yq Yj Z6 Q0 Uz (Tn+1) PR (Vu.turnD TY.extBut SY (AS Ta)) UE (PH.trans g') λ_ k=>k (ys++[(ki,V)]) _ Ta ((VU.mono g').snoc (RV.mono' (aaj _) Vo XI)) (by rw [abd]; exact Nat.succ_le_succ hsz) Xh⟩
 ·obtain rfl:i=xs.length:=agc hi Rr
  rw [agZ] at PU
  exact W.done _ m Pz PE oI _ _ _ (by rw [<- abO]; exact X.S) PU.1 Ra PH.pre (λp hp=>X.off p (aa8 _ hp)) λP2 P7 P3=>P ys kvs Pz PE P5 z od P2 P7 mC P3 X.ns WY PH (λp hp=>X.off p (aba _ hp)) VU PU.2
end
end
section
open PyProof.Rows.LCg
noncomputable abbrev ua:Obj:={ cls:=.type "dict",data:=.dict #[] }
theorem Ja {prog:adh}{w:aa9}:ua.IsDictOf (adr prog w) []:=⟨#[],0,⟨rfl,rfl,rfl⟩,rfl,λe he=>by simp at he,.nil,List.nodup_nil⟩
section
variable {α:bC}{ℓ:Nat}{sc scope:abM}{slots tgts cn:List Str}{h₀ h h':Heap}{L:Addr}{m:Str->Option aac}{st:MS}{φ PG:bk}{o o' news Pu:aO}{env:Env}{X:List Addr}{P8:Expr}
theorem Dg {A:abw}{vx iter:Expr}{kn:Str}{TA pos:Pos}{cl:List (Str×Addr)}{s:aal}{I:Addr}{xs:List MV}{G:MS->Prop}{keys:List Addr}{own:Nat->aO->Prop}{oI:aO}{ρ:aG}
  {tg:TG} {kx:Nat} {te:TE} {RR:aac->Addr->afZ->aal->Prop} {Q:List (Int×MV)->MS->Prop} {E:aac->aal->Prop}
  (Cx:Cf α ℓ A h₀ L) (Dx:Ce sc env) (W:qX α A h₀ L φ P8 I xs G keys own) (PL:xs.length<=abD)
  (hk:∀x∈tgts,(ad0 scope env).names.lookup x=some .local) (hc:∀x∈cn,(ad0 scope env).names.lookup x=some .cell) (Qr:scope.kind=.function) (QC:∀y∈scope.names,y.2≠.cell)
  (ht:cY α (gm sc scope) tgts P8 tg) (UL:(tgts++cn)[kx]?=some kn) (Ro:(kn == ("__debug__":Str))=false) (Wv:∀v,ab8 P8 (.ref I) v=pure ()) (he:aa α ℓ (gm sc scope) (tgts++cn) vx te)
  (S:Sn α h₀ L m s.heap st φ (oI++news)) (Qx:own 0 oI) (hf:∀p∈oI,p.1 ∉ bq φ) (h1:∀i,i < tgts.length->ρ[i]?=some none) (h2:oK (α:=α) φ cl news tgts.length cn ρ)
  (t:Ih G tg kx te xs ρ [] st Q)
  (P:∀D C ys kvs Ps PG Pu z' QZ h' PV QR,(D == aee)=false->Sn α h₀ L m h' Ps PG ([(C,z'),(D,QZ)]++Pu)->NsObj z' QR->QZ.IsDictOf (adr α.prog α.w) kvs->a9 [α.tab] φ news PG Pu->(∀p∈[(C,z'),(D,QZ)],p.1 ∉ bq PG)->(∀p∈news,p.1≠C)->jY α.hB Pu PG ys kvs->Q ys Ps ->
   RR (.ref D) C (.ok .next) { s with heap:=h',toks:=PV }) :
  wpAny (abe α.prog α.w) A newDict (λPZ Qu=>wpAny (abe α.prog α.w) A (newFunctionEnv scope env.globals cl [] env.qual none .none (some env)) (λVy Rv =>
   adA (abe α.prog α.w) A (.compStart (.DictComp (.Name kn TA) vx [⟨P8,iter,[],0⟩] scope pos) 0 (.ref I) PZ { Vy with scope:=ad0 scope env }) (RR PZ Vy.locals) Rv) E Qu) E s:=by
 refine ad1 (M:=abe α.prog α.w) (ahH QC (by intro y hy; simp at hy) (λh₁ RX Ry=>?_) Qr)
 dsimp only at RX Ry ⊢
 generalize hH2:s.heap.push ua=H2 at RX Ry ⊢
 have hC:H2.objs.size=s.heap.objs.size+1:=by rw [<- hH2,adO]
 refine bv λGG PD=>?_
 obtain⟨n1,n2⟩:=S.nextNone
 have hDC:s.heap.objs.size≠H2.objs.size:=by rw [hC]; exact abf (aby _)
 have Xe:∀b o,s.heap.get? b=some o->H2.get? b=some o:=λb o e=>hH2 ▸ aao _ e
 have hD2:H2.get? s.heap.objs.size=some (ua):=by rw [<- hH2]; exact abC _ rfl
 have Qp:∀b o,s.heap.get? b=some o->h₁.get? b=some o:=λb o e=>Ry.extBut b o (by rw [hC]; exact abf (abN (abn e))) (aao _ (Xe b o e))
 obtain⟨z,hz,Rx⟩:=ns_obj RX
 obtain⟨Sd,VD⟩:=S.new1 (h':=H2) n1 n2 hD2 Xe
 obtain⟨m1,m2⟩:=Sd.nextNone
 obtain⟨Sc,Zs⟩:=Sd.new1 (h':=h₁) (I:=H2.objs.size) (z:=z) m1 m2 hz λb o e=>Ry.extBut b o (abf (abn e)) (aao _ e)
 refine PD ?_
 have XE:∀p∈news,p.1≠H2.objs.size:=λp hp e=>by
  have:=(Sd.N p (aba _ (aba _ hp))).1
  rw [e,m1] at this; cases this
 have Pv:Sn α h₀ L m h₁ st φ (oD H2.objs.size s.heap.objs.size oI z ua++news):=by
  refine Sc.same ?_ (λp hp=>?_) (λp hp=>?_)
  ·have:=Sc.W.nodup
   simp only [abE,abj,abO,add,abA] at this ⊢
   have q:(oI.map (·.1)++H2.objs.size::s.heap.objs.size::news.map (·.1)).Perm (H2.objs.size::s.heap.objs.size::(oI.map (·.1)++news.map (·.1))):=by
    refine af0.trans (.cons _ af0)
   exact q.nodup_iff.mpr this
  ·simp only [adV,abB,abx,or_false] at hp ⊢
   rcases hp with hp | hp | hp | hp
   ·exact .inl (.inr (.inl hp))
   ·exact .inl (.inr (.inr hp))
   ·exact .inl (.inl hp)
   ·exact .inr hp
  ·simp only [adV,abB,abx,or_false] at hp ⊢
   rcases hp with (hp | hp | hp) | hp
   ·exact .inr (.inr (.inl hp))
   ·exact .inl hp
   ·exact .inr (.inl hp)
   ·exact .inr (.inr (.inr hp))
 have Tq:∀p∈oD H2.objs.size s.heap.objs.size oI z ua,p.1 ∉ bq φ:=λp hp=>by
  rcases dU hp with hp | hp
  ·exact hf p hp
  ·rcases bN hp with rfl | hp
   ·exact Zs
   ·rw [cq hp]; exact VD
 have Vk:∀Qu:aal,Qu={ s with heap:=h₁,toks:=s.toks+([]:List (Str×aac)).length } ->
   adA (abe α.prog α.w) A (.compLoop (.DictComp (.Name kn TA) vx [⟨P8,iter,[],0⟩] scope pos) 0 (.ref I) (.ref s.heap.objs.size) (adw scope cl H2.objs.size env))
    (RR (.ref s.heap.objs.size) H2.objs.size) Qu:=by
  rintro Qu rfl
  refine FW Cx Dx W PL hk hc Qr ht UL Ro Wv he Pv Qx Tq Ja Rx ?_ h2 t λys kvs Ps PG Pu z' QZ h' PV QR S' Q2 Ta g' Sk r' t'=>P _ _ ys kvs Ps PG Pu z' QZ h' PV QR (S.F.notModules (modules_low Cx.T.nolimit)) S' Q2 Ta g' Sk XE r' t'
  intro i x V hx hV
  rw [h1 i (bP hx).1] at hV
  cases hV
 exact codeAny_compStart_dict (Vk _ rfl) (W.self _ m st φ oI ([(H2.objs.size,z),(s.heap.objs.size,ua)]++news) _ _ (by rw [<- abO]; exact Pv) Qx (Vk _ rfl))
def CM (nT:Nat)(caps:List Nat)(src:TI)(tg:TG)(kx:Nat)(e:TE):aG->MS->(List (Int×MV)->MS->Prop)->Prop:=λρ st Q=>(caps.all λi=>((ρ[i]?).join).isSome)=true/\src ρ st λxs G Pt=>xs.length<=abD/\Ih G tg kx e xs (jv nT caps ρ) [] Pt Q
theorem Jp {C D:Addr}{z od:Obj}{kvs:List (Int×aac)}{mC:Str->Option aac}(S:Sn α h₀ L m h st φ ([(C,z),(D,od)]++news))(hz:NsObj z mC)(RT:od.IsDictOf (adr α.prog α.w) kvs)(hf:∀p∈[(C,z),(D,od)],p.1 ∉ bq φ)(hs:adi C h h') :
  Sn α h₀ L m h' st φ ((D,od)::news):=by
 have nd:=S.W.nodup
 have hCD:C≠D:=λe=>by subst e; simp at nd
 have pl:Pl [(C,z),(D,od)]:=λp hp=>by
  rcases bN hp with rfl | hp
  ·obtain⟨es,ep,hd,_⟩:=hz; exact lb hd
  ·rw [cq hp]; obtain⟨es,ep,_,hd,_⟩:=RT; exact lb hd
 exact S.own (o':=[(D,od)]) pl hf (λb y hb e=>hs.extBut b y (λq=>hb (by
   have q':b=C:=q
   rw [q']; exact .head _)) e) (λp hp=>by
   rw [cq hp]
   exact hs.extBut _ _ (aef hCD) (S.N.get (aa8 _ (.tail _ (.head _))))) (by simp) (λp hp=>by rw [cq hp]; exact .tail _ (.head _))
theorem F0 {iter vx:Expr}{kn:Str}{TA pos:Pos}{src:TI}{caps:List Nat}{kx:Nat}{tg:TG}{te:TE}(K:gp α ℓ sc scope slots tgts cn caps P8 [] vx tg d3 te)(hi:ch α ℓ sc slots P8 iter src)(UL:(tgts++cn)[kx]?=some kn)(Ro:(kn == ("__debug__":Str))=false)
  (Wv:∀I v,ab8 P8 (.ref I) v=pure ()) (hs:autoParam (∀env x,aew iter env x=pure x) aI) {A:abw} (C:Cf α ℓ A h₀ L) (D:Ce sc env) {s:aal} {ρ:aG} (PB:Sn α h₀ L m s.heap st φ news) (Lo:Lc α slots env L m news φ ρ)
  {Q:List (Int×MV)->MS->Prop} {Qc:aac->aal->Prop} {E:aac->aal->Prop} (t:CM tgts.length caps src tg kx te ρ st Q)
  (P:∀Da od ys kvs Ps PG Pu h' PV,(Da == aee)=false->Sn α h₀ L m h' Ps PG ((Da,od)::Pu)->Da ∉ bq PG->od.IsDictOf (adr α.prog α.w) kvs->a9 [α.tab] φ news PG Pu->jY α.hB Pu PG ys kvs->Q ys Ps->Qc (.ref Da) { s with heap:=h',toks:=PV }) :
  wpAny (abe α.prog α.w) A (eval (.DictComp (.Name kn TA) vx [⟨P8,iter,[],0⟩] scope pos) env) Qc E s:=by
 refine bv λGG PD=>?_
 obtain⟨W5,t⟩:=t
 obtain⟨cl,Q9,VG⟩:=K.closure D Lo W5
 obtain⟨k1,k2,k3,k4⟩:=K.kinds D
 refine PD ?_
 rw [arm_eval_DictComp]
 refine aeU (use:=none) rfl (hs env) Q9 K.kind k4 (hi A h₀ L env C D s m st φ news ρ PB Lo _ _ E t λI xs G keys own o Pt Px PC h₁ PA Pv Py W Qx U7 hI Pw=>?_)
 obtain⟨PL,Pw⟩:=Pw
 refine Dg (ℓ:=ℓ) (RR:=λPZ Ca=>compPost (abe α.prog α.w) A E none Qc PZ Ca) C D W PL k1 k2 K.kind k3 K.t UL Ro (Wv I) K.e Pv Qx U7 (λi hi=>nh hi) (K.capsOk D VG (Lo.grow Py)) Pw ?_
 intro Da Ca ys kvs Ps PG Pu z' QZ h' PV QR Rl S' Q2 Ta g' Sk _ r' t'
 refine⟨QR,Q2.ns (S'.N.get (aa8 _ (.head _))),λVb TW=>?_⟩
 exact P Da QZ ys kvs Ps PG Pu Vb PV Rl (Jp S' Q2 Ta Sk TW) (Sk (Da,QZ) (.tail _ (.head _))) Ta (Py.trans g') r' t'
end
end
theorem Ie:kas_sort 2=.ask 1 0 λc=>.ret (if c=true then #[1,0] else #[0,1]):=by
 show KasT.ask 1 0 _=KasT.ask 1 0 _
 congr 1
 funext c
 cases c <;> rfl
noncomputable def dg:List Int->List Int->Bool
 | [],[]=>false
 | [],_::_=>true
 | _::_,[]=>false
 | a::r,b::q=>if a < b then true else if b < a then false else dg r q
theorem qy {a b:Int}{x y:List Int}:dg (a::x) (b::y)=if a < b then true else if b < a then false else dg x y:=rfl
theorem GC {a:Int}{x y:List Int}:dg (a::x) (a::y)=dg x y:=by
 rw [qy,if_neg (agT a),if_neg (agT a)]
section
variable {prog:adh}{w:aa9}{A:abw}{E:aac->aal->Prop}{s:aal}
theorem JT {b:Bool}{Q:Bool->aal->Prop}:∀{xs ys:List aac}{ns ms:List Int}{QK:Bool}{i:Nat}{s:aal},IntsAre xs ns->IntsAre ys ms->QK=decide (xs.length < ys.length)->Q (dg ns ms) s->KatLex prog w A b QK Q (xs.zip ys) i s:=by
 intro xs ys ns ms QK i s h1
 induction h1 generalizing ys ms QK i s with
 | nil =>
  intro h2 hf hq
  refine kat_nil ?_
  cases h2 with
  | nil=>subst hf; exact hq
  | cons n t r=>subst hf; exact hq
 | cons n t r ih =>
  intro h2 hf hq
  cases h2 with
  | nil=>exact kat_nil (by subst hf; exact hq)
  | cons m u r2 =>
   refine kat_cons (wpAny_eqBool_int ?_)
   by_cases e:n=m
   ·subst e
    rw [show (n == n)=true from by simp]
    refine kat_yes (ih r2 (by simpa using hf) ?_)
    rw [GC] at hq
    exact hq
   ·rw [show (n == m)=false from by simpa using e]
    have hv:∀p q,dg (n::p) (m::q)=decide (n < m):=λp q=>by
     rw [qy]
     by_cases h:n < m
     ·rw [if_pos h,decide_eq_true h]
     ·rw [if_neg h,if_pos (Int.lt_iff_le_and_ne.mpr ⟨Int.not_lt.mp h,λq=>e q.symm⟩),decide_eq_false h]
    rw [hv] at hq
    refine kat_no ?_
    cases hb:(b && i == 0) with
    | true=>exact oneLt_int hq
    | false=>exact kat_one _ _ (lt_int hq)
theorem LA {x y:Addr}{xs ys:Array aac}{ns ms:List Int}{b:Bool}{Q:Bool->aal->Prop}(hx:ajq s.heap x xs)(hy:ajq s.heap y ys)(h1:IntsAre xs.toList ns)(h2:IntsAre ys.toList ms)(h:Q (dg ns ms) s) :
  wpAny (abe prog w) A (keyLt' (tuples' b) (.ref x) (.ref y)) Q E s:=by
 refine bv λGG PD=>?_
 obtain⟨ox,ZL,_,n,dx⟩:=hx
 obtain⟨oy,Zv,_,k,dy⟩:=hy
 refine PD ?_
 exact kat_lt ZL dx Zv dy (JT h1 h2 (by simp) h)
end
section
variable {prog:adh}{w:aa9}{A:abw}{E:aac->aal->Prop}{s:aal}{h₀:Heap}{L a f:Addr}{m:Str->Option aac}{news:aO}
def qk (h₀:Heap)(news:aO)(k:aac)(ns:List Int):Prop:=∃x its,k=.ref x/\((x,bA its)∈news\/h₀.get? x=some (bA its))/\IntsAre its.toList ns/\ns≠[]
def mx (prog:adh)(w:aa9)(A:abw)(h₀:Heap)(L:Addr)(m:Str->Option aac)(news:aO)(f:Addr)(i:Int)(k:aac):Prop:=
 ∀(t:Tok) (s:aal) (Pu:aO),Fr h₀ L s.heap m->News h₀ L s.heap Pu->(∀p∈news,p∈Pu)->∀(Q E:aac->aal->Prop),
  (∀h' tk,Fr h₀ L h' m->News h₀ L h' Pu->Q k { s with heap:=h',toks:=tk })->wpAny (abe prog w) A (call (.ref f) [.int i t]) Q E s
theorem qk.at {k:aac}{ns:List Int}{h:Heap}{Pu:aO}(K:qk h₀ news k ns)(F:Fr h₀ L h m)(N:News h₀ L h Pu)(hs:∀p∈news,p∈Pu):∃x its,k=.ref x/\ajq h x its/\IntsAre its.toList ns/\ns≠[]:=by
 refine bv λGG PD=>?_
 obtain⟨x,its,rfl,hx,hi,hn⟩:=K
 refine PD ?_
 refine⟨x,its,rfl,?_,hi,hn⟩
 rcases hx with hx | hx
 ·exact⟨_,(N _ (hs _ hx)).1,rfl,0,rfl⟩
 ·exact⟨_,F.keep _ _ hx,rfl,0,rfl⟩
theorem Hq {i j:Int}{t u:Tok}{k l:aac}{ns ms:List Int}{n:Nat}{P:ahS->aal->Prop}(F:Fr h₀ L s.heap m)(N:News h₀ L s.heap news)(ho:s.heap.get? a=some (adD "list" #[.int i t,.int j u] n)) (SQ:a≠L) (Sj:h₀.get? a=none) (RQ:∀p∈news,p.1≠a)
  (Vt:mx prog w A h₀ L m news f i k) (hf2:mx prog w A h₀ L m news f j l) (K1:qk h₀ news k ns) (K2:qk h₀ news l ms)
  (h:∀h' tk out c,Fr h₀ L h' m->News h₀ L h' ((a,bV out c)::news)->IntsAre out.toList (if dg ms ns=true then [j,i] else [i,j])->P (.done (.ret .none)) { s with heap:=h',toks:=tk }) :
  wpAny (abe prog w) A (aiG a (.ref f) false) P E s:=by
 refine kat_keyed (vs:=[.int i t,.int j u]) F N ho SQ Sj RQ (abt _) (by show 2 < 64; decide) λkS e1 h₁ Qy QW l0 l1=>?_
 have Ug:kS≠a:=abW l0
 have Th:∀p∈(a,adD "list" #[] e1)::news,p.1≠kS:=λp hp=>by
  rcases bN hp with rfl | hp
  ·exact Ug.symm
  ·exact abf (l1 p hp)
 have sub:∀(o o':Obj),∀p∈news,p∈(kS,o)::(a,o')::news:=λ_ _ p hp=>.tail _ (.tail _ hp)
 refine aiH (Vt t _ _ Qy QW (sub _ _) _ _ λPM PN RH RI=>?_)
 refine aia RH RI (.head Th) λP2 ac8 QM QO=>?_
 refine aiH (hf2 u _ _ QM QO (sub _ _) _ _ λQN R9 TV TK=>?_)
 refine aia TV TK (.head Th) λQv afg WJ Ws=>?_
 refine aiT ?_
 refine bv λGG PD=>?_
 obtain⟨x,xs,rfl,hx,hI,hn⟩:=K1.at WJ Ws (sub _ _)
 obtain⟨y,ys,rfl,hy,hJ,hm⟩:=K2.at WJ Ws (sub _ _)
 obtain⟨ox,ZL,hcx,nx,hdx⟩:=id hx
 obtain⟨oy,Zv,hcy,ny,hdy⟩:=id hy
 have first:∀{its:Array aac} {ns:List Int},IntsAre its.toList ns->ns≠[]->∃z v,its[0]?=some (.int z v):=by
  intro its ns hi P6
  cases ns with
  | nil=>exact absurd rfl P6
  | cons z r =>
   generalize hl:its.toList=l at hi
   cases hi with
   | cons z v _=>exact⟨z,v,by rw [<- adv,hl]; rfl⟩
 obtain⟨z1,v1,e1'⟩:=first hI hn
 obtain⟨z2,v2,e2'⟩:=first hJ hm
 refine PD ?_
 refine kat_kind (fs:=[.int z1 v1,.int z2 v2]) (T:=.type "int") (KatTups.cons ZL hcx hdx e1' (KatTups.cons Zv hcy hdy e2' KatTups.nil)) (by show 0 < 2; decide) (λv hv=>?_) (by decide) ?_
 ·simp only [abB,abx,or_false] at hv
  rcases hv with rfl | rfl
  ·exact agO rfl
  ·exact agO rfl
 show (kas_sort 2).kasWp _ _ _
 rw [Ie]
 show wpAny (abe prog w) A (keyLt' _ (.ref y) (.ref x)) _ _ _
 refine LA hy hx hJ hI ?_
 cases hb:dg ms ns with
 | true =>
  refine ahh WJ Ws (.head Th) λQ3 Xx Tx SH=>ahi Tx SH (.tail Ug (.head RQ)) λR6 TH TR TC=>?_
  refine h R6 R9 #[.int j u,.int i t] TH TR (λp hp=>?_) (by rw [hb]; exact .cons _ _ (.cons _ _ .nil))
  exact TC p (.tail _ hp)
 | false =>
  refine ahh WJ Ws (.head Th) λQ3 Xx Tx SH=>ahi Tx SH (.tail Ug (.head RQ)) λR6 TH TR TC=>?_
  refine h R6 R9 #[.int i t,.int j u] TH TR (λp hp=>?_) (by rw [hb]; exact .cons _ _ (.cons _ _ .nil))
  exact TC p (.tail _ hp)
end
section
variable {prog:adh}{w:aa9}{A:abw}{E:aac->aal->Prop}{s:aal}{h₀:Heap}{L a kS:Addr}{m:Str->Option aac}{news:aO}{vs ks:List aac}{f:aac}{e e1:Nat}{P:ahS->aal->Prop}
theorem Iz (hl:ks.length=vs.length)(h2:vs.length < 2)(h:KatFin h₀ L m kS a ks e e1 vs (λs3=>P (.done (.ret .none)) s3) s) :
  wpAny (abe prog w) A (ksk_end a false vs.toArray e1 (.ref kS) (afJ ks)) P E s:=by
 unfold ksk_end
 simp only [ab5,if_false]
 rw [if_pos (by rw [ad2]; exact h2),if_pos (by rw [ad2]; exact h2)]
 refine aag (abb ?_)
 rw [StateT.run_pure]
 refine aag (abb ?_)
 refine kat_tail (b:=false) (out:=vs) (ks:=ks) ?_ (by walk_at "o") (by walk_at "o") rfl h
 show ((afJ ks).zip vs.toArray).map (·.2)=vs.toArray
 apply ag1.mp
 rw [Array.toList_map,ksk_zip,List.map_snd_zip (by rw [ah1]; walk_at "o")]
theorem FQ (hk:s.heap.get? kS=some (adD "list" #[] 0)) (h2:vs.length < 2)
  (h:KatKeys prog w A h₀ L m kS f (λks e s'=>KatFin h₀ L m kS a ks e e1 vs (λs4=>P (.done (.ret .none)) s4) s') vs [] 0 s):wpAny (abe prog w) A (ksk_rest a f false vs.toArray e1 (.ref kS)) P E s:=by
 unfold ksk_rest
 refine aag (aja ?_)
 first
  | rw [List.forIn_toArray]
  | (rw [<- ain]; simp only [ah1])
  | rw [<- ain]
 refine aag (abU (kat_fold (n:=vs.length) (by walk_at "o") (λx ks e s' C hz hx=>?_) vs [] 0 s (by simp) hk h) (λ_ s' hd=>?_) λ_ _ x=>x)
 ·refine aag (ah9 (abU hx (λk UJ hk=>?_) λ_ _ hF=>hF.elim))
  refine bv λGG PD=>?_
  obtain⟨Pu,g,F',N',U,c⟩:=hk
  obtain⟨pre,afn,e0,hg,x1,x2⟩:=U.split
  rw [e0] at N'
  have nk:=N' (kS,adD "list" (afJ ks) e) (aba _ (.head _))
  have s1:=ads UJ.heap kS (ad6 (·.push k))
  have ea:(afJ ks).push k=afJ (ks++[k]):=by simp
  obtain⟨c2,QX⟩:∃c2,(UJ.heap.update kS (ad6 (·.push k))).get? kS=some (adD "list" (afJ (ks++[k])) c2):=⟨_,by rw [<- ea]; exact get?_update_seq nk.1 (·.push k)⟩
  refine PD ?_
  refine aag (listUpdate_at nk.1 rfl ?_ (by rw [ad2,agL]; walk_at "o") (aan (aeK (Array.size_push ..)) (by rw [ad2,agL]; walk_at "o")))
  exact abb ⟨rfl,k,c2,QX,c _ c2 (kas_fr F' s1 nk.2.1 nk.2.2) (by rw [hg]; exact news_set N' x1 x2 s1 QX)⟩
 ·obtain⟨ks,e,QA,hl,QK⟩:=hd
  refine aag (listItems_at QA rfl ?_)
  exact Iz hl h2 QK
theorem wB {n:Nat}(F:Fr h₀ L s.heap m)(N:News h₀ L s.heap news)(ho:s.heap.get? a=some (adD "list" vs.toArray n)) (SQ:a≠L) (Sj:h₀.get? a=none) (RQ:∀p∈news,p.1≠a) (h2:vs.length < 2)
  (h:∀kS e1 h',Fr h₀ L h' m->News h₀ L h' ((kS,adD "list" #[] 0)::(a,adD "list" #[] e1)::news)->a < kS->(∀q∈news,q.1 < kS) ->
   KatKeys prog w A h₀ L m kS f (λks e s'=>KatFin h₀ L m kS a ks e e1 vs (λs4=>P (.done (.ret .none)) s4) s') vs [] 0 { s with heap:=h' }):wpAny (abe prog w) A (aiG a f false) P E s:=by
 have ha:a < s.heap.objs.size:=abn ho
 have s1:=ads s.heap a (ad6 λ_=>(#[]:Array aac))
 obtain⟨e1,ho1⟩:∃e1,(s.heap.update a (ad6 λ_=>(#[]:Array aac))).get? a=some (adD "list" #[] e1):=⟨_,get?_update_seq ho λ_=>#[]⟩
 have F1:=kas_fr F s1 SQ Sj
 have N1:=kas_news N s1 RQ
 have hkS:((s.heap.update a (ad6 λ_=>(#[]:Array aac))).push (adD "tuple" vs.toArray 0)).objs.size=s.heap.objs.size+1:=by rw [size_push',Heap.size_update]
 have hLk:L < ((s.heap.update a (ad6 λ_=>(#[]:Array aac))).push (adD "tuple" vs.toArray 0)).objs.size:=(F1.push _).ns.lt
 unfold aiG
 refine aag (listItems_at ho rfl ?_)
 refine aag (listUpdate_at ho rfl ?_ (by rw [ad2,agL]; walk_at "o") (abS _))
 refine aag (seqEpoch_at ho1 rfl ?_)
 refine aag (wpAny_newTuple ?_ (by show vs.length<=_; rw [agL]; walk_at "o"))
 refine aag (wpAny_newList ?_ (abS _))
 refine ab3 ?_
 refine FQ (s:={ s with heap:=((s.heap.update a (ad6 λ_=>(#[]:Array aac))).push (adD "tuple" vs.toArray 0)).push (adD "list" #[] 0) }) (kS:=((s.heap.update a (ad6 λ_=>(#[]:Array aac))).push (adD "tuple" vs.toArray 0)).objs.size)
  (abC _ rfl) h2 (h _ e1 _ ((F1.push _).push _) (λp hp=>?_) (by rw [hkS]; exact abN ha) λq hq=>by rw [hkS]; exact abN (abn (N q hq).1))
 rcases bN hp with rfl | hp
 ·exact⟨abC _ rfl,abW hLk,adZ (aan F.above (adl hLk))⟩
 ·rcases bN hp with rfl | hp
  ·exact⟨aao _ (aao _ ho1),SQ,Sj⟩
  ·exact⟨aao _ (aao _ (N1 p hp).1),(N1 p hp).2⟩
end
section
variable {prog:adh}{w:aa9}{A:abw}{E:aac->aal->Prop}{s:aal}{h₀:Heap}{L a f D:Addr}{m:Str->Option aac}{news:aO}{P:ahS->aal->Prop}{n:Nat}
theorem Iv (F:Fr h₀ L s.heap m)(N:News h₀ L s.heap news)(ho:s.heap.get? a=some (adD "list" #[] n)) (SQ:a≠L) (Sj:h₀.get? a=none) (RQ:∀p∈news,p.1≠a)
  (h:∀h' tk out c,Fr h₀ L h' m->News h₀ L h' ((a,bV out c)::news)->IntsAre out.toList []->P (.done (.ret .none)) { s with heap:=h',toks:=tk }) :
  wpAny (abe prog w) A (aiG a (.ref f) false) P E s:=by
 refine wB (vs:=[]) F N ho SQ Sj RQ (by show 0 < 2; decide) λkS e1 h₁ Qy QW l0 l1=>aiT ?_
 have Ug:kS≠a:=abW l0
 have Th:∀p∈(a,adD "list" #[] e1)::news,p.1≠kS:=λp hp=>by
  rcases bN hp with rfl | hp
  ·exact Ug.symm
  ·exact abf (l1 p hp)
 exact ahh Qy QW (.head Th) λQ3 Xx Tx SH=>ahi Tx SH (.tail Ug (.head RQ)) λR6 TH TR TC=>h R6 s.toks #[] TH TR (λp hp=>TC p (.tail _ hp)) .nil
theorem Hz {i:Int}{t:Tok}{k:aac}(F:Fr h₀ L s.heap m)(N:News h₀ L s.heap news)(ho:s.heap.get? a=some (adD "list" #[.int i t] n)) (SQ:a≠L) (Sj:h₀.get? a=none) (RQ:∀p∈news,p.1≠a)
  (Vt:mx prog w A h₀ L m news f i k)
  (h:∀h' tk out c,Fr h₀ L h' m->News h₀ L h' ((a,bV out c)::news)->IntsAre out.toList [i]->P (.done (.ret .none)) { s with heap:=h',toks:=tk }) :
  wpAny (abe prog w) A (aiG a (.ref f) false) P E s:=by
 refine wB (vs:=[.int i t]) F N ho SQ Sj RQ (by show 1 < 2; decide) λkS e1 h₁ Qy QW l0 l1=>?_
 have Ug:kS≠a:=abW l0
 have Th:∀p∈(a,adD "list" #[] e1)::news,p.1≠kS:=λp hp=>by
  rcases bN hp with rfl | hp
  ·exact Ug.symm
  ·exact abf (l1 p hp)
 refine aiH (Vt t _ _ Qy QW (λp hp=>.tail _ (.tail _ hp)) _ _ λPM PN RH RI=>?_)
 refine aia RH RI (.head Th) λP2 ac8 QM QO=>aiT ?_
 exact ahh QM QO (.head Th) λQ3 Xx Tx SH=>ahi Tx SH (.tail Ug (.head RQ)) λR6 TH TR TC=>h R6 PN #[.int i t] TH TR (λp hp=>TC p (.tail _ hp)) (.cons _ _ .nil)
inductive mE (prog:adh)(w:aa9)(A:abw)(h₀:Heap)(L:Addr)(m:Str->Option aac)(news:aO)(f:Addr):List (Int×aac)->List Int->Prop
 | zero:mE prog w A h₀ L m news f [] []
 | one {i:Int} {k:aac} (h:mx prog w A h₀ L m news f i k):mE prog w A h₀ L m news f [(i,k)] [i]
 | two {i j:Int} {k l:aac} {ns ms:List Int} (h1:mx prog w A h₀ L m news f i k) (h2:mx prog w A h₀ L m news f j l) (K1:qk h₀ news k ns) (K2:qk h₀ news l ms):mE prog w A h₀ L m news f [(i,k),(j,l)] (if dg ms ns=true then [j,i] else [i,j])
theorem J7 {β:Type}{vs:List β}{a:β}(h:vs.length=1)(e:vs[0]?=some a):vs=[a]:=by
 cases vs with
 | nil=>cases e
 | cons x r=>cases e; rw [abL (aiw h)]
theorem NB {β:Type}{vs:List β}{a b:β}(h:vs.length=2)(e:vs[0]?=some a)(e':vs[1]?=some b):vs=[a,b]:=by
 cases vs with
 | nil=>cases e
 | cons x r=>cases e; rw [J7 (aiw h) e']
theorem Dv {kvs:List (Int×aac)}{rs:List Int}{od:Obj}{Q:aac->aal->Prop}(F:Fr h₀ L s.heap m)(N:News h₀ L s.heap news)(hh:A.handled=none)(hD:(D,od)∈news)(RT:od.IsDictOf (adr prog w) kvs)(hs:(D == aee)=false)
  (O:mE prog w A.in1.in1 h₀ L m news f kvs rs)
  (h:∀D2 h' tk out c,Fr h₀ L h' m->News h₀ L h' ((D2,bV out c)::news)->(∀p∈news,p.1≠D2)->IntsAre out.toList rs->Q (.ref D2) { s with heap:=h',toks:=tk }) :
  wpAny (abe prog w) A (call (.builtin "sorted") [.ref D] [(ahf "key",.ref f)]) Q E s:=by
 obtain⟨ep,hat⟩:=(age.mpr ⟨od,(N _ hD).1,RT⟩:s.heap.DictOf (adr prog w) D kvs).dictAt
 refine call_function_entry_kw kind_sorted plain_sorted entry_sorted (ksk_s1 _ _) ?_
 unfold aei.«sorted»
 refine aag (m:=checkCount "sorted" 1 1 _) (abb ?_)
 have hn2:kvs.length<=2:=by cases O <;> simp
 refine aag (kdu_collect (A:=A.in1) (kdl_dict (knd:=adr prog w) (kvs:=kvs) (ep:=ep) hs) hh hat (aan hn2 (by decide)) λh₁ PA PZ R8 WM=>?_)
 have Qy:Fr h₀ L h₁ m:=F.keeps R8
 have QW:News h₀ L h₁ news:=λp hp=>⟨R8 _ _ (N p hp).1,(N p hp).2⟩
 refine aag (wpAny_newList ?_ (by rw [abm,WM.1]; exact aan hn2 (by decide)))
 have hLt:L < h₁.objs.size:=Qy.ns.lt
 have WT:(h₁.push (adD "list" PZ.toList.toArray 0)).get? h₁.objs.size=some (adD "list" PZ.toList.toArray 0):=abC _ rfl
 refine aag (ab3 (wpAny_call_entry_kw slot_list_sort ⟨_,WT,rfl⟩ entry_list_sort ?body (ksk_l1 _ _)))
 case body =>
  show wpAny (abe prog w) A.in1.in1 (aei.«list.sort» ⟨[.ref h₁.objs.size],[(ahf "key",.ref f)]⟩) _ _ { s with heap:=h₁.push (adD "list" PZ.toList.toArray 0),toks:=PA }
  rw [ksk_t1]
  have RH:Fr h₀ L (h₁.push (adD "list" PZ.toList.toArray 0)) m:=Qy.push _
  have RI:News h₀ L (h₁.push (adD "list" PZ.toList.toArray 0)) news:=λp hp=>⟨aao _ (QW p hp).1,(QW p hp).2⟩
  have SQ:h₁.objs.size≠L:=abW hLt
  have Sj:h₀.get? h₁.objs.size=none:=adZ (aan F.above (adl hLt))
  have RQ:∀p∈news,p.1≠h₁.objs.size:=λp hp=>abf (abn (QW p hp).1)
  have QK:∀h' tk out c,Fr h₀ L h' m->News h₀ L h' ((h₁.objs.size,bV out c)::news)->IntsAre out.toList rs ->
    (λ(QK:ahS) s'=>∃r,QK=.done (.ret r)/\wpAny (abe prog w) A.in1 (ret (aeH h₁.objs.size)) (λQK s'=>∃r,QK=.done (.ret r)/\Q r s') E s') (.done (.ret .none)) { s with heap:=h',toks:=tk }:=
   λh' tk out c F' N' hI=>⟨_,rfl,abb ⟨_,rfl,h _ h' tk out c F' N' RQ hI⟩⟩
  have item:∀(j:Nat) (i:Int) (k:aac),kvs[j]?=some (i,k)->∃t,PZ.toList[j]?=some (aet i t):=λj i k hj=>by
   have PR:j < PZ.size:=by rw [WM.1]; exact (bP hj).1
   obtain⟨i',x,hx,hi⟩:=WM.2 j _ (adU PR)
   rw [hj] at hx
   cases hx
   obtain⟨t,e⟩:=Value.isInt_shape hi
   exact⟨t,by rw [adv,adU PR,e]⟩
  have PL:PZ.toList.length=kvs.length:=by rw [abm]; exact WM.1
  generalize PZ.toList=vs at item PL RH RI WT
  cases O with
  | zero =>
   obtain rfl:vs=[]:=abL PL
   exact Iv (s:={ s with heap:=h₁.push (adD "list" #[] 0),toks:=PA }) RH RI WT SQ Sj RQ QK
  | one Vt =>
   obtain⟨t,e⟩:=item 0 _ _ rfl
   obtain rfl:=J7 PL e
   exact Hz (s:={ s with heap:=h₁.push (adD "list" #[_] 0),toks:=PA }) RH RI WT SQ Sj RQ Vt QK
  | two Vt hf2 K1 K2 =>
   obtain⟨t,e⟩:=item 0 _ _ rfl
   obtain⟨u,e'⟩:=item 1 _ _ rfl
   obtain rfl:=NB PL e e'
   exact Hq (s:={ s with heap:=h₁.push (adD "list" #[_,_] 0),toks:=PA }) RH RI WT SQ Sj RQ Vt hf2 K1 K2 QK
end
section
variable {α:bC}{h₀ h h':Heap}{L:Addr}{m:Str->Option aac}{st:MS}{φ:bk}{news:aO}
theorem Sn.cellSet {c:Addr}{o o':Obj}{R2:Option aac}(S:Sn α h₀ L m h st φ news)(hm:(c,o)∈news)(hd:o.data=.cell R2)(ht:c≠α.tab)(hf:c ∉ bq φ)(SY:h'.get? c=some o')(hs:adi c h h') :
  Sn α h₀ L m h' st φ (upd news c o')/\a9 [α.tab,c] φ news φ (upd news c o'):=by
 have SD:∀its,o≠bA its:=λits e=>by rw [e] at hd; cases hd
 have g:a9 [α.tab,c] φ news φ (upd news c o'):=.upd S.W.nodup hm SD (.inr (.tail _ (.head _)))
 refine⟨⟨S.F.change hs (S.N _ hm).2.1 (S.N _ hm).2.2,News.upd S.N hm hs SY,by rw [mM]; exact S.W.nodup,S.W.len,S.W.apart,λj z hj=>?_,?_⟩,g⟩
 ·obtain⟨a,d,e,q⟩:=S.W.objs j z hj
  have ff:=iE e
  exact⟨a,d,e,q.upd S.W.nodup hm SD (λe=>hf (e ▸ ff.1)) (λe=>hf (e ▸ ff.2))⟩
 ·obtain⟨ps,hp,q,k⟩:=S.W.tabs
  refine⟨ps,dW hp (aef ht),q,λc' Sa=>?_⟩
  obtain⟨oc,h1,h2,h3⟩:=k c' Sa
  refine⟨oc,dW h1 λe=>?_,h2,h3⟩
  have e':c'=c:=e
  subst e'
  obtain rfl:=eH S.W.nodup h1 hm
  obtain⟨⟨_,vs,hv⟩,_⟩:=h3
  rw [hd] at hv; cases hv
theorem Sn.tabSet {ps Qj:Array aac}{c':Addr}{oc:Obj}(S:Sn α h₀ L m h st φ news)(hm:(α.tab,adn ps)∈news)(F:Fr h₀ L h' m)(N:News h₀ L h' ((c',oc)::upd news α.tab (adn Qj)))(hc:∀p∈news,p.1≠c')(hg:α.GT Qj)(Ui:qD oc)(YP:α.GO oc)(Ti:∀c,aeH c∈Qj.toList->c=c') :
  Sn α h₀ L m h' st φ ((c',oc)::upd news α.tab (adn Qj))/\a9 [α.tab] φ news φ ((c',oc)::upd news α.tab (adn Qj)):=by
 have SD:∀its,adn ps≠bA its:=λits e=>by cases e
 have g:a9 [α.tab] φ news φ (upd news α.tab (adn Qj)):=.upd S.W.nodup hm SD (.inr (.head _))
 have g2:a9 [α.tab] φ (upd news α.tab (adn Qj)) φ ((c',oc)::upd news α.tab (adn Qj)):=.led λp hp=>.tail _ hp
 have P6:∀p∈upd news α.tab (adn Qj),p.1≠c':=λp hp=>by
  rcases yv hp with ⟨rfl,_⟩ | ⟨hp,_⟩
  ·exact hc (α.tab,adn ps) hm
  ·exact hc p hp
 have X0:c' ∉ bq φ:=S.notFoot hc
 have aaa:α.tab ∉ bq φ:=λq=>by
  unfold bq at q
  refine bv λGG PD=>?_
  obtain⟨p,hp,hq⟩:=adx.mp q
  obtain⟨i,hi,e⟩:=aeB.mp hp
  have PP:φ[i]?=some p:=by rw [abc hi,e]
  have Xf:i < st.length:=S.W.len ▸ hi
  obtain⟨mo,hmo⟩:∃mo,st[i]?=some mo:=⟨_,abc Xf⟩
  obtain⟨a,d,e',r⟩:=S.W.objs i mo hmo
  refine PD ?_
  rw [PP] at e'
  obtain rfl:p=(a,d):=abl e'
  have key:∀x ox,(x,ox)∈news->(∀ps,ox≠adn ps)->x≠α.tab:=λx ox hx hn e=>hn _ (eH S.W.nodup (e ▸ hx) hm)
  have SV:α.tab=a\/α.tab=d:=by simpa using hq
  cases mo with
  | list xs=>obtain⟨rfl,its,n,h1,_⟩:=r; exact key _ _ h1 uZ (SV.elim ajm ajm)
  | inst cc fs=>obtain⟨h1,hf,es,n,h2,_⟩:=r; exact SV.elim (λe=>key _ _ h1 (λps e=>by cases e) e.symm) (λe=>key _ _ h2 (λps e=>by cases e) e.symm)
  | dict fs ep=>obtain⟨rfl,_,o,kvs,h1,⟨es,_,Qn,_⟩,_⟩:=r; exact key _ _ h1 (λps e=>by rw [e] at Qn; cases Qn) (SV.elim ajm ajm)
 have W1:Wd α st φ (upd news α.tab (adn Qj))->Wd α st φ ((c',oc)::upd news α.tab (adn Qj)):=λW=>W.more P6
 refine⟨⟨F,N,?_,S.W.len,S.W.apart,λj z hj=>?_,⟨Qj,.tail _ (il hm),hg,λc hcc=>?_⟩⟩,g.trans g2⟩
 ·rw [abj,abY,mM]
  exact⟨λhq=>by obtain⟨p,hp,e⟩:=c9 hq; exact hc p hp e,S.W.nodup⟩
 ·obtain⟨a,d,e,q⟩:=S.W.objs j z hj
  have ff:=iE e
  exact⟨a,d,e,(q.upd S.W.nodup hm SD (λe=>aaa (e ▸ ff.1)) (λe=>aaa (e ▸ ff.2))).mono (aaj _) λp hp=>.tail _ hp⟩
 ·rw [Ti c hcc]
  exact⟨oc,.head _,X0,Ui,YP⟩
end
section
variable {M:ah5}{A:abw}{E:aac->aal->Prop}{s:aal}{name qual:Str}{params:adF}{body:Expr}{scope:abM}{env:Env}{c P L:Addr}{ps:Array aac}{pos:Pos}{UQ:Nat}{mg mb m:Str->Option aac}
 {h₀:Heap} {news:aO} {q:Str×Addr} {r:List (Str×Addr)} {Q:aac->aal->Prop} {p:adh} {loose:List Str} {mean:ajg->Option aac}
theorem Cl (F:Fr h₀ L s.heap m)(T:Top p loose mean mg mb h₀)(hP:s.heap.get? P=some (adn ps))(hP0:h₀.get? P=none):aam≠P/\s.heap.BuiltinsAt mg P:=by
 have hgs:=T.g.keeps F.keep
 refine bv λGG PD=>?_
 obtain⟨bm,ob,b1,b2,b3,b4,b5,b6⟩:=T.bmain
 refine PD ?_
 have Zw:aam≠P:=λq=>by
  refine bv λGG PD=>?_
  obtain⟨o,es,ep,e,hd,_⟩:=hgs
  refine PD ?_
  rw [q,hP] at e; cases e; cases hd
 have hbP:bm≠P:=λq=>by
  have e:=F.keep _ _ b3
  rw [q,hP] at e; cases e; cases b4
 have hbG:bm≠aam:=λq=>by
  refine bv λGG PD=>?_
  obtain⟨o,es,ep,e,hd,_⟩:=T.g
  refine PD ?_
  rw [q,e] at b3; cases b3; rw [hd] at b6; cases b6
 exact⟨Zw,⟨bm,ob,b1,b2,hbG,hbP,F.keep _ _ b3,b4,b5,b6⟩⟩
theorem Hs (F:Fr h₀ L s.heap m)(T:Top p loose mean mg mb h₀)(Q9:agw scope env=pure (q::r))(ac4:env.globals=aam)(aaA:env.code=.ref c)(C:ajn h₀ c P)(hP:s.heap.get? P=some (adn ps))(hP0:h₀.get? P=none)(ht:TriplesOk ps.toList)
  (hnf:codeAmong pos ps.toList=none)
  (h:∀c' oc SW h' tk vs t,afq P s.heap h'->s.heap.objs.size<=c'->c' < h'.objs.size->h'.get? c'=some oc->oc.cls=.type "code"->oc.data=.fields vs->vs[1]?=some (.str qual t)->h'.get? P=some (adn (ps++#[adQ pos.line,adQ pos.col,.ref c'])) ->
   Q (.ref h'.objs.size) { s with heap:=h'.push (ai0 name qual params body scope (q::r) ((mg "__name__").getD .none) c' SW),toks:=tk }) :
  wpAny M A (makeFunction name qual params (.expr body) scope env [] [] [] pos UQ) Q E s:=by
 refine bv λGG PD=>?_
 obtain⟨Zw,bm,ob,hbm,acQ,_,acw,hbo,Xr,Wl,aaD⟩:=Cl F T hP hP0
 refine PD ?_
 have hg:=T.g.keeps F.keep
 have C':=C.keeps F.keep
 rw [makeFunction_eq]
 simp only [List.zip_nil_right,List.filterMap_nil,af3,if_true,pure_bind]
 show wpAny M A (makeTail name qual params (.expr body) scope env .none .none none pos UQ) Q E s
 unfold makeTail
 rw [Q9,ac4]
 refine aag (abb ?_)
 simp only [agM,ab5,if_false]
 refine aag (wpAny_newTextTuple ?_)
 refine aag (wpAny_functionCodeX aaA ((C'.keeps λb o e=>aao _ e).code (aao _ hP) ht) ((C'.keeps λb o e=>aao _ e).tab (aao _ hP)) hnf λc' h' tk hx Rr PR _ ac2 YR Qx=>?_)
 have hg':=(hg.push _).extBut hx Zw
 have Rf:afq P s.heap h':=λb o Wb e=>hx b o Wb (aao _ e)
 have WE:s.heap.objs.size<=c':=aan (by rw [adO]; walk_at "o") Rr
 obtain⟨RZ,oc,vs,t,e2,Wh,hd,hv⟩:=ac2
 cases e2
 refine bv λGG PD=>?_
 obtain⟨P',_,_,⟨o2,vs2,e1,e2,e3,e4⟩,_⟩:=Qx
 refine PD ?_
 rw [Wh] at e1
 obtain rfl:=abl e1
 refine aag (wpAny_builtinsFor hg' hbm acQ (Rf _ _ acw hbo) Xr Wl aaD ?_)
 refine aag (wpAny_nsGet hg' ?_)
 exact aag (abb (ad1 (h c' oc _ h' tk vs t Rf WE PR Wh e2 hd hv YR.2) (by size_fits)))
end
noncomputable abbrev vH:abM:={ kind:=.function,names:=[(("node":Str),.local),(("known":Str),.free)],isGenerator:=false,isCoroutine:=false,more:=[] }
noncomputable abbrev x6 (p4:Pos):adF:={ posonlyargs:=[],args:=[{ arg:=("node":Str),annotation:=none,pos:=p4 }],vararg:=none,kwonlyargs:=[],kw_defaults:=[],kwarg:=none,defaults:=[] }
noncomputable abbrev yn (p1 p2 p3:Pos):Expr:=.Subscript (.Name ("known":Str) p1) (.Name ("node":Str) p2) p3
theorem A4:(("node":Str) == ("__debug__":Str))=false:=by decide +kernel
theorem zm:(("known":Str) == ("__debug__":Str))=false:=by decide +kernel
section
variable {α:bC}{ℓ:Nat}{A:abw}{h₀:Heap}{L f c c' D:Addr}{m:Str->Option aac}{news:aO}
theorem MK {name qual:Str}{p1 p2 p3 p4:Pos}{pm SW k:aac}{i:Int}{kvs:List (Int×aac)}{od Zh oc:Obj}{vs:Array aac}{t:Tok}(C:Cf α ℓ A h₀ L)(hf:(f,ai0 name qual (x6 p4) (yn p1 p2 p3) vH [(("known":Str),c)] pm c' SW)∈news)
  (Sa:(c',oc)∈news) (Qn:oc.data=.fields vs) (hv:vs[1]?=some (.str qual t)) (QC:(c,Zh)∈news) (Ui:Zh.data=.cell (some (.ref D))) (hD:(D,od)∈news) (RT:od.IsDictOf (adr α.prog α.w) kvs) (hk:aeW kvs i=some k) :
  mx α.prog α.w A.in1.in1 h₀ L m news f i k:=by
 intro tk s Pu F N sub Q E P
 refine C.frC λA₀ outer Ql B hA US RY=>?_
 have Uh:A.in1.in1.depth < afx:=by
  have:=C.depth
  show A.depth < _
  walk_at "o"
 refine aeC (kla_code (A₀:=A₀) (base:=α.hB) (outer:=outer) (env:=Ql) (K:=α.K) (p:=α.p) (loose:=α.loose) (mean:=α.mean) (mg:=α.mg) (mb:=α.mb) (binds:=[(("node":Str),.int i tk)])
  B F C.X N C.T hA US RY (sub _ hf) ⟨c',oc,vs,t,rfl,(N _ (sub _ Sa)).1,Qn,hv⟩ Uh rfl (by intro y hy; rw [cq hy]; rfl) (λg L' h₁ FG F' N' B' X' T'=>?_) rfl rfl rfl (by decide))
 have NG:∀p∈Pu,h₁.get? p.1=some p.2:=λp hp=>(N' p hp).1
 refine aig (ago (wpAny_loadName_free rfl rfl rfl ⟨Zh,NG _ (sub _ QC),Ui⟩ ?_) zm)
 refine ago (aeA rfl rfl F'.ns (v:=.int i tk) (by simp) ?_) A4
 obtain⟨ep,hat⟩:=(age.mpr ⟨od,NG _ (sub _ hD),RT⟩:h₁.DictOf (adr α.prog α.w) D kvs).dictAt
 have hM:=hat.dictOf.mapOf
 refine agu hM.typeIs slot_dict_getitem.lookup (wpAny_getItem_of (knd:=adr α.prog α.w) (af2 _ _ _ _) hM hk ?_) rfl
 exact⟨L',_,Pu,F',N',λQM QO=>P h₁ _ QM QO⟩
end
inductive ud:List (Int×MV)->List Int->Prop
 | zero:ud [] []
 | one {a:Int} {V:MV}:ud [(a,V)] [a]
 | two {a b:Int} {ps qs:List MV} {ns ms:List Int} (QP:a≠b) (h1:fJ ps=some ns) (h2:fJ qs=some ms) (n1:ns≠[]) (n2:ms≠[]):ud [(a,.tup ps),(b,.tup qs)] (if dg ms ns=true then [b,a] else [a,b])
def Bl (te:TE):TS:=λρ st Q=>CM 1 [0] (b9 (af 1)) (b8 0) 0 te ρ st λys Ps=>∃rs,ud ys rs/\Q (.ret (.ref Ps.length)) [none,none,none] (Ps++[.list (rs.map .int)])
section
variable {M:ah5}{A:abw}{E:aac->aal->Prop}{s:aal}{env:Env}
theorem Nx {func:Expr}{args:List Expr}{Ye:List Keyword}{pos:Pos}{Q:aac->aal->Prop}
  (h:wpAny M A (eval func env) (λf P0=>wpAny M A (ai5 pos f [] (agp pos (ada args env)) (backToKw pos (aiQ Ye env))) Q E P0) E s)
  (he:autoParam (eval (.Call func args Ye pos) env=(do ai5 pos (<- eval func env) [] (agp pos (ada args env)) (backToKw pos (aiQ Ye env)))) aR) :
  wpAny M A (eval (.Call func args Ye pos) env) Q E s:=by
 rw [he]; exact aag h
theorem DU {c:Addr}(hc:env.cells.lookup ("known":Str)=some c):agw vH env=pure [(("known":Str),c)]:=by
 unfold agw
 simp only [ahj,List.forIn_nil]
 unfold cellOf
 rw [hc]
 rfl
end
section
variable {α:bC}{ℓ:Nat}{sc scope:abM}{slots:List Str}{h₀:Heap}{L:Addr}{m:Str->Option aac}{st:MS}{φ PG:bk}{news Pu:aO}{env:Env}
theorem dR.cellTo {c:Addr}{o o':Obj}{v:Option aac}(O:dR α slots env L φ news)(ht:c≠α.tab)(hf:c ∉ bq φ)(hm:(c,o)∈news)(hd:o'.data=.cell v):dR α slots env L φ (upd news c o'):=by
 refine⟨O.nodup,O.loc,O.kinds,λy hy=>?_,O.inj,λp hp=>?_⟩
 ·obtain⟨RZ,Rh,XB,Si,Uq,SN,SK,Wm⟩:=O.cells y hy
  by_cases e:RZ=c
  ·subst e; exact⟨RZ,o',v,Si,Uq,SN,il hm,hd⟩
  ·exact⟨RZ,Rh,XB,Si,Uq,SN,dW SK e,Wm⟩
 ·obtain⟨TN,aaR⟩:=O.all p hp
  by_cases e:p.2=c
  ·exact⟨o',by rw [e]; exact il hm⟩
  ·exact⟨TN,dW aaR e⟩
theorem z4 {hB:Heap}{ps:List MV}{ns:List Int}{v:aac}(h:RV hB news φ (.tup ps) v)(e:fJ ps=some ns)(hn:ns≠[])(hs:hB.StaysIn h₀):qk h₀ news v ns:=by
 apply RV.t h; intro x its hx q
 exact⟨x,its,rfl,hx.imp id λe=>hs _ _ e,pT q e,hn⟩
end
noncomputable abbrev uo:List Str:=[("tree":Str),("nodes":Str),("known":Str)]
section
variable {α:bC}{ℓ:Nat}{sc scope:abM}
structure FI (α:bC)(lp:Pos):Prop where
 code:∀h,α.more h->ajn h 140 α.tab
 gt:∀ps,α.GT ps↔(ps=#[]\/∃c,ps=#[adQ lp.line,adQ lp.col,.ref c])
 go:∀o,α.GO o↔∃vs t,o.data=.fields vs/\vs[1]?=some (.str ("in_order.<locals>.<lambda>":Str) t)
theorem JK {A:abw}{h₀:Heap}{L c:Addr}{m:Str->Option aac}{st:MS}{φ:bk}{news:aO}{env:Env}{s:aal}{p1 p2 p3 p4 lp:Pos}{Q E:aac->aal->Prop}(X:FI α lp)(C:Cf α ℓ A h₀ L)(Rr:env.globals=aam)(UU:env.code=.ref 140)(hq:env.qual=("in_order":Str)++(".<locals>.":Str)) (hc:env.cells.lookup ("known":Str)=some c) (S:Sn α h₀ L m s.heap st φ news)
  (P:∀f c' oc pm SW vs t Pu h' PV,Sn α h₀ L m h' st φ Pu->a9 [α.tab] φ news φ Pu->(f,ai0 ("<lambda>":Str) ("in_order.<locals>.<lambda>":Str) (x6 p4) (yn p1 p2 p3) vH [(("known":Str),c)] pm c' SW)∈Pu->(c',oc)∈Pu->oc.data=.fields vs->vs[1]?=some (.str ("in_order.<locals>.<lambda>":Str) t)->Q (.ref f) { s with heap:=h',toks:=PV }) :
  wpAny (abe α.prog α.w) A (eval (.Lambda (x6 p4) (yn p1 p2 p3) vH lp) env) Q E s:=by
 obtain⟨ps,Sv,hgt,aaJ⟩:=S.W.tabs
 have Q9:=DU hc
 have T:=C.T
 have Cd:=X.code _ C.ok.M
 have Yw:ajn h₀ 140 α.tab:=Cd.keeps C.stays
 have hm:=S.N _ Sv
 have aaW:env.qual++("<lambda>":Str)=("in_order.<locals>.<lambda>":Str):=by rw [hq]; decide +kernel
 refine kla_eval rfl ?_
 rw [aaW]
 rcases (X.gt _).mp hgt with rfl | ⟨c',rfl⟩
 ·refine Hs S.F T Q9 Rr UU Yw hm.1 hm.2.2 (by simp [TriplesOk]) (by simp [codeAmong]) λc' oc SW h' tk vs t hx WE PR Wh Xr Qn hv YR=>?_
  have hLs:L < s.heap.objs.size:=S.F.ns.lt
  have hLc:L < c':=abJ hLs WE
  have Qp:∀b o,h₀.get? b=some o->h'.get? b=some o:=λb o e=>hx b o (λq=>by rw [q,hm.2.2] at e; cases e) (S.F.keep b o e)
  have fresh:∀b,L < b->h₀.get? b=none:=λb hb=>adZ (aan S.F.above (adl hb))
  have hnc:∀p∈news,p.1≠c':=λp hp=>abf (abJ (abn (S.N p hp).1) WE)
  have Qy:Fr h₀ L h' m:=⟨S.F.ns.extBut hx hm.2.1.symm,Qp,S.F.above⟩
  have QW:News h₀ L h' ((c',oc)::upd news α.tab (adn (#[]++#[adQ lp.line,adQ lp.col,.ref c']))):=λq SV=>by
   rcases bN SV with rfl | SV
   ·exact⟨Wh,abW hLc,fresh _ hLc⟩
   ·rcases yv SV with ⟨rfl,_⟩ | ⟨SV,hn⟩
    ·exact⟨YR,hm.2⟩
    ·exact⟨hx _ _ hn (S.N q SV).1,(S.N q SV).2⟩
  obtain⟨Pv,Py⟩:=S.tabSet Sv Qy QW hnc ((X.gt _).mpr (.inr ⟨c',by simp⟩)) ⟨Xr,vs,Qn⟩ ((X.go _).mpr ⟨vs,t,Qn,hv⟩) (λc hc=>by simpa [adQ] using hc)
  obtain⟨PF,PH⟩:=Pv.entry (D:=h'.objs.size) (Qy.push _) (aiN Qy QW (ai0 ("<lambda>":Str) ("in_order.<locals>.<lambda>":Str) (x6 p4) (yn p1 p2 p3) vH [(("known":Str),c)] ((α.mg "__name__").getD .none) c' SW)) (Pv.lt)
  exact P h'.objs.size c' oc _ SW vs t _ _ tk PF (Py.trans PH) (.head _) (.tail _ (.head _)) Qn hv
 ·obtain⟨oc,Wh,_,_,YP⟩:=aaJ c' (by simp)
  obtain⟨vs,t,Qn,hv⟩:=(X.go _).mp YP
  obtain⟨_,hb⟩:=Cl S.F T hm.1 hm.2.2
  refine kla_makeFunctionHit (mg:=α.mg) Q9 Rr (T.g.keeps S.F.keep) UU (Yw.keeps S.F.keep) hm.1 (by simp [TriplesOk,adQ]) (cv:=.ref c') (by simp [codeAmong,adQ]) hb λSW h' tk hk hsz=>?_
  have Qy:Fr h₀ L h' m:=S.F.keeps hk
  have QW:News h₀ L h' news:=λp hp=>⟨hk _ _ (S.N p hp).1,(S.N p hp).2⟩
  have Pv:Sn α h₀ L m h' st φ news:=⟨Qy,QW,S.W⟩
  obtain⟨PF,PH⟩:=Pv.entry (D:=h'.objs.size) (Qy.push _) (aiN Qy QW (ai0 ("<lambda>":Str) ("in_order.<locals>.<lambda>":Str) (x6 p4) (yn p1 p2 p3) vH [(("known":Str),c)] ((α.mg "__name__").getD .none) c' SW)) (Pv.lt)
  exact P h'.objs.size c' oc _ SW vs t _ _ tk PF PH (.head _) (.tail _ Wh) Qn hv
end
theorem Ni {a b:Int}{v u:aac}:aeW [(a,v),(b,u)] a=some v:=by simp [aeW]
theorem Np {a b:Int}{v u:aac}(h:a≠b):aeW [(a,v),(b,u)] b=some u:=by simp [aeW,h]
theorem N0 {a:Int}{v:aac}:aeW [(a,v)] a=some v:=by simp [aeW]
section
variable {α:bC}{ℓ:Nat}{sc scope:abM}
theorem Mr {A:abw}{h₀:Heap}{L:Addr}{m:Str->Option aac}{n:aO}{φ:bk}{f:Addr}{ys:List (Int×MV)}{rs:List Int}{kvs:List (Int×aac)}(Z4:ud ys rs)(kv:jY α.hB n φ ys kvs)(hs:α.hB.StaysIn h₀)
  (Ve:∀i k,aeW kvs i=some k->mx α.prog α.w A h₀ L m n f i k):mE α.prog α.w A h₀ L m n f kvs rs:=by
 cases Z4 with
 | zero=>cases kv; exact .zero
 | one =>
  cases kv with | cons r1 kv =>
  cases kv
  exact .one (Ve _ _ N0)
 | two QP i1 i2 e1 e2 =>
  cases kv with | cons r1 kv =>
  cases kv with | cons r2 kv =>
  cases kv
  exact .two (Ve _ _ Ni) (Ve _ _ (Np QP)) (z4 r1 i1 e1 hs) (z4 r2 i2 e2 hs)
theorem KD {vx:Expr}{te:TE}{p1 p2 p3 p4 lp q1 q2 q3 q4 q5 q6 q7 q8 q9 q10 q11:Pos}(K:gp α ℓ sc scope uo [("node":Str)] [("tree":Str)] [0] (.Name ("node":Str) q1) [] vx (b8 0) d3 te) (X:FI α lp) (nbs:nsIn α.K aam ("sorted":Str)=some none)
  (hx:sc.names.lookup ("sorted":Str)=some .globalImplicit) (Th:sc.names.lookup ("known":Str)=some .cell) :
  CR α ℓ sc uo [.Assign [.Name ("known":Str) q2] (.DictComp (.Name ("node":Str) q3) vx [⟨.Name ("node":Str) q1,.Name ("nodes":Str) q4,[],0⟩] scope q5) q6,
   .Return (some (.Call (.Name ("sorted":Str) q7) [.Name ("known":Str) q8] [⟨some ("key":Str),.Lambda (x6 p4) (yn p1 p2 p3) vH lp,q9⟩] q10)) q11] (Bl te) ("in_order":Str) (.ref 140):=by
 intro A h₀ L env C D hq UU s m st φ news ρ PB Lo O Q Qc E t P
 have hk:env.scope.kind=.function:=D.scope ▸ D.kind
 have VS:env.kindOf ("known":Str)=some .cell:=by unfold acd; rw [D.scope]; exact Th
 have WZ:∀v:Expr,aer (.DictComp (.Name ("node":Str) q3) vx [⟨.Name ("node":Str) q1,.Name ("nodes":Str) q4,[],0⟩] scope q5) (some (.Name ("known":Str) q2)) q6.line env=pure false:=λ_=>by
  have Q9:(NameKind.cell == NameKind.local)=false:=rfl
  unfold aer
  simp [VS,Q9]
 refine ab1 (afA ?_ (WZ vx))
 refine F0 (iter:=.Name ("nodes":Str) q4) K (bU (aa.loc (i:=1) rfl)) rfl A4 (λ_ _=>rfl) (λ_ _=>rfl) C D PB Lo t λDa od ys kvs Pt Px PC h₁ PA acu Pv hDf RT Py aaK Pw=>?_
 refine bv λGG PD=>?_
 obtain⟨rs,Z4,Pw⟩:=Pw
 obtain⟨c,oc0,R2,hc,Vn,X0,Wk,X7⟩:=O.cells _ VS
 refine PD ?_
 have QH:=O.grow Py
 have S7:(c,oc0)∈PC:=Py.kept _ Wk X0 (by simpa using Vn)
 have Vc:c ∉ bq Px:=λq=>X0 (Py.fresh _ Wk q)
 have acA:∀p∈PC,p.1≠Da:=λp hp e=>by
  have:=Pv.W.nodup
  rw [abj,abY] at this
  exact this.1 (e ▸ ew ⟨p,hp,rfl⟩)
 have hDc:Da≠c:=λe=>acA _ S7 e.symm
 have gD:a9 [α.tab] Px PC Px ((Da,od)::PC):=.led λp hp=>.tail _ hp
 have Q6:=QH.grow gD
 refine ahE hk VS hc ⟨oc0,Pv.N.get (.tail _ S7),X7⟩ λPM hv hs=>?_
 obtain⟨UR,acZ,XM⟩:=hv
 obtain⟨PF,PH⟩:=Pv.cellSet (.tail _ S7) X7 Vn Vc acZ hs
 have Ss:=Q6.cellTo (o':=UR) Vn Vc (.tail _ S7) XM
 have Wt:(Da,od)∈upd ((Da,od)::PC) c UR:=dW (.head _) hDc
 have WF:(c,UR)∈upd ((Da,od)::PC) c UR:=il (.tail _ S7)
 have X6:a9 (ft α env) Px ((Da,od)::PC) Px (upd ((Da,od)::PC) c UR):=PH.wide λx hx=>by
  rcases bN hx with rfl | hx
  ·exact .head _
  ·rw [cq hx]; exact .tail _ (ew ⟨_,dO hc,rfl⟩)
 have YB:=(aaK.mono gD).mono PH
 generalize upd ((Da,od)::PC) c UR=PS at PF PH Ss Wt WF X6 YB
 refine ab1 (afz ?_)
 refine Nx (fy C D PF.F nbs (v:=.builtin "sorted") (by decide +kernel) (by decide +kernel) ?_ hx (by decide +kernel))
 refine callWith_kw ?_
 refine aeI (he:=rfl) (ago (ahT hk VS hc ⟨UR,PF.N.get WF,XM⟩ ?_) zm)
 refine ahz ?_
 refine kws_cons (JK X C D.glob UU hq hc (s:={ s with heap:=PM,toks:=PA }) PF λf c' oc pm SW vs t Qs P2 P7 P3 Qg mf mc' Qn hvs=>?_)
 refine kws_nil ?_
 have Yh:(Da,od)∈Qs:=Qg.kept _ Wt hDf (λq=>by
  have q':Da=α.tab:=cq q
  refine bv λGG PD=>?_
  obtain⟨ps,Sv,_⟩:=PF.W.tabs
  have:=eH PF.W.nodup Wt (q' ▸ Sv)
  obtain⟨es,ep,_,hd,_⟩:=RT
  refine PD ?_
  rw [this] at hd; cases hd)
 have aaV:(c,UR)∈Qs:=Qg.kept _ WF Vc (by simpa using Vn)
 have aa0:=YB.mono Qg
 have Ve:∀i k,aeW kvs i=some k->mx α.prog α.w A.in1.in1 h₀ L m Qs f i k:=λi k hik=>MK C mf mc' Qn hvs aaV XM Yh RT hik
 have ord:mE α.prog α.w A.in1.in1 h₀ L m Qs f kvs rs:=Mr Z4 aa0 C.stays Ve
 refine Dv (s:={ s with heap:=P2,toks:=P7 }) P3.F P3.N C.hand Yh RT acu ord λD2 QN R9 out ae9 TV TK P6 hI=>?_
 obtain⟨R4,Rm⟩:=P3.newList TV TK P6 (sU hI)
 have Vq:=(Ss.grow Qg).grow Rm
 refine P (.ret _) (.ret _) [none,none,none] _ _ _ m QN R9 R4 (λi x V hx hV=>?_) Vq ((((dC Py).trans (dC gD)).trans X6).trans (dC (Qg.trans Rm))) (.ret P3.refNew) Pw
 rcases i with _ | _ | _ | i <;> simp at hV
end
noncomputable abbrev KK (w:aa9):Frag:=hd.heap_39 w.params
noncomputable def bD (c:Addr):List Str:=if c=335 then ["kind","name","uri","local","value","parent","children","attributes","namespaces"] else if c=524 then ["rows"] else if c=313 then ["tree","node","position","size","variables","names","calls","current","ids"] else []
noncomputable abbrev Zz:=aa9×Heap×adh×List Str×(ajg->Option aac)×(Str->Option aac)×(Str->Option aac)
noncomputable def aP (z:Zz):bC:=
 ⟨agf,z.1,KK z.1,z.2.2.1,z.2.2.2.1,z.2.2.2.2.1,z.2.2.2.2.2.1,z.2.2.2.2.2.2,z.2.1,138,λps=>ps=#[]\/∃c,ps=#[adQ 119,adQ 29,.ref c],λo=>∃vs t,o.data=.fields vs/\vs[1]?=some (.str ("in_order.<locals>.<lambda>":Str) t),bD,λh=>ajn h 140 138⟩
noncomputable def Bm (s:Stmt):adF×List Stmt×abM:=match s with | .FunctionDef _ a b _ _ _ sc _ _ _=>(a,b,sc) | _=>(⟨[],[],none,[],[],none,[]⟩,[],default)
noncomputable def top (i:Nat):Stmt:=(PySem.Challenge.pw_on0193_01.main.body[i]?).getD (.Pass default)
noncomputable def cls (i j:Nat):Stmt:=match top i with | .ClassDef _ _ _ b _ _ _ _ _ _ _=>(b[j]?).getD (.Pass default) | _=>.Pass default
theorem DP (w:aa9):nsIn (KK w) aam ("is_space":Str)=some (some (.ref 28)):=by kernel_rfl
theorem DH (w:aa9):abH (KK w) (.ref 28)=true:=by kernel_rfl
theorem pn (w:aa9):nsIn (KK w) aam ("space_split":Str)=some (some (.ref 35)):=by kernel_rfl
theorem pA (w:aa9):abH (KK w) (.ref 35)=true:=by kernel_rfl
theorem uN (w:aa9):nsIn (KK w) aam ("common_divisor":Str)=some (some (.ref 43)):=by kernel_rfl
theorem uy (w:aa9):abH (KK w) (.ref 43)=true:=by kernel_rfl
theorem Fw (w:aa9):nsIn (KK w) aam ("sign_of":Str)=some (some (.ref 50)):=by kernel_rfl
theorem Ga (w:aa9):abH (KK w) (.ref 50)=true:=by kernel_rfl
theorem d9 (w:aa9):nsIn (KK w) aam ("number_of":Str)=some (some (.ref 58)):=by kernel_rfl
theorem eu (w:aa9):abH (KK w) (.ref 58)=true:=by kernel_rfl
theorem za (w:aa9):nsIn (KK w) aam ("is_nan":Str)=some (some (.ref 65)):=by kernel_rfl
theorem zd (w:aa9):abH (KK w) (.ref 65)=true:=by kernel_rfl
theorem F3 (w:aa9):nsIn (KK w) aam ("negated":Str)=some (some (.ref 72)):=by kernel_rfl
theorem GB (w:aa9):abH (KK w) (.ref 72)=true:=by kernel_rfl
theorem KG (w:aa9):nsIn (KK w) aam ("plus":Str)=some (some (.ref 79)):=by kernel_rfl
theorem KE (w:aa9):abH (KK w) (.ref 79)=true:=by kernel_rfl
theorem re (w:aa9):nsIn (KK w) aam ("digits_end":Str)=some (some (.ref 86)):=by kernel_rfl
theorem qM (w:aa9):abH (KK w) (.ref 86)=true:=by kernel_rfl
theorem F6 (w:aa9):nsIn (KK w) aam ("trimmed":Str)=some (some (.ref 93)):=by kernel_rfl
theorem Go (w:aa9):abH (KK w) (.ref 93)=true:=by kernel_rfl
theorem Ed (w:aa9):nsIn (KK w) aam ("whole_of":Str)=some (some (.ref 100)):=by kernel_rfl
theorem El (w:aa9):abH (KK w) (.ref 100)=true:=by kernel_rfl
theorem yU (w:aa9):nsIn (KK w) aam ("read_number":Str)=some (some (.ref 107)):=by kernel_rfl
theorem yZ (w:aa9):abH (KK w) (.ref 107)=true:=by kernel_rfl
theorem Ak (w:aa9):nsIn (KK w) aam ("lines_down":Str)=some (some (.ref 122)):=by kernel_rfl
theorem Ai (w:aa9):abH (KK w) (.ref 122)=true:=by kernel_rfl
theorem yQ (w:aa9):nsIn (KK w) aam ("place_among":Str)=some (some (.ref 129)):=by kernel_rfl
theorem x7 (w:aa9):abH (KK w) (.ref 129)=true:=by kernel_rfl
theorem Eb (w:aa9):nsIn (KK w) aam ("place_of":Str)=some (some (.ref 136)):=by kernel_rfl
theorem DJ (w:aa9):abH (KK w) (.ref 136)=true:=by kernel_rfl
theorem Ds (w:aa9):nsIn (KK w) aam ("in_order":Str)=some (some (.ref 141)):=by kernel_rfl
theorem Dy (w:aa9):abH (KK w) (.ref 141)=true:=by kernel_rfl
theorem GH (w:aa9):nsIn (KK w) aam ("beneath":Str)=some (some (.ref 148)):=by kernel_rfl
theorem Gs (w:aa9):abH (KK w) (.ref 148)=true:=by kernel_rfl
theorem jz (w:aa9):nsIn (KK w) aam ("string_value":Str)=some (some (.ref 153)):=by kernel_rfl
theorem jF (w:aa9):abH (KK w) (.ref 153)=true:=by kernel_rfl
theorem wq (w:aa9):nsIn (KK w) aam ("as_text":Str)=some (some (.ref 160)):=by kernel_rfl
theorem wt (w:aa9):abH (KK w) (.ref 160)=true:=by kernel_rfl
theorem gQ (w:aa9):nsIn (KK w) aam ("nodes_of":Str)=some (some (.ref 211)):=by kernel_rfl
theorem gR (w:aa9):abH (KK w) (.ref 211)=true:=by kernel_rfl
theorem xU (w:aa9):nsIn (KK w) aam ("counted":Str)=some (some (.ref 218)):=by kernel_rfl
theorem wl (w:aa9):abH (KK w) (.ref 218)=true:=by kernel_rfl
theorem zq (w:aa9):nsIn (KK w) aam ("summed":Str)=some (some (.ref 225)):=by kernel_rfl
theorem zo (w:aa9):abH (KK w) (.ref 225)=true:=by kernel_rfl
theorem sz (w:aa9):nsIn (KK w) aam ("told_node":Str)=some (some (.ref 232)):=by kernel_rfl
theorem tV (w:aa9):abH (KK w) (.ref 232)=true:=by kernel_rfl
theorem s7 (w:aa9):nsIn (KK w) aam ("name_part":Str)=some (some (.ref 239)):=by kernel_rfl
theorem tB (w:aa9):abH (KK w) (.ref 239)=true:=by kernel_rfl
theorem DK (w:aa9):nsIn (KK w) aam ("id_texts":Str)=some (some (.ref 246)):=by kernel_rfl
theorem DA (w:aa9):abH (KK w) (.ref 246)=true:=by kernel_rfl
theorem s8 (w:aa9):nsIn (KK w) aam ("elements_by_ids":Str)=some (some (.ref 253)):=by kernel_rfl
theorem si (w:aa9):abH (KK w) (.ref 253)=true:=by kernel_rfl
theorem yx (w:aa9):nsIn (KK w) aam ("language_of":Str)=some (some (.ref 260)):=by kernel_rfl
theorem yH (w:aa9):abH (KK w) (.ref 260)=true:=by kernel_rfl
theorem GZ (w:aa9):nsIn (KK w) aam ("speaks":Str)=some (some (.ref 267)):=by kernel_rfl
theorem HU (w:aa9):abH (KK w) (.ref 267)=true:=by kernel_rfl
theorem ib (w:aa9):nsIn (KK w) aam ("call_of_sets":Str)=some (some (.ref 274)):=by kernel_rfl
theorem g7 (w:aa9):abH (KK w) (.ref 274)=true:=by kernel_rfl
theorem BV (w:aa9):nsIn (KK w) aam ("_law_pool":Str)=some (some (.ref 535)):=by kernel_rfl
theorem BF (w:aa9):abH (KK w) (.ref 535)=true:=by kernel_rfl
theorem dc (w:aa9):nsIn (KK w) aam ("_law_take":Str)=some (some (.ref 542)):=by kernel_rfl
theorem df (w:aa9):abH (KK w) (.ref 542)=true:=by kernel_rfl
theorem dZ (w:aa9):nsIn (KK w) aam ("_law_one":Str)=some (some (.ref 549)):=by kernel_rfl
theorem d4 (w:aa9):abH (KK w) (.ref 549)=true:=by kernel_rfl
theorem xA (w:aa9):nsIn (KK w) aam ("_law_element":Str)=some (some (.ref 556)):=by kernel_rfl
theorem w3 (w:aa9):abH (KK w) (.ref 556)=true:=by kernel_rfl
theorem BH (w:aa9):nsIn (KK w) aam ("_law_rows":Str)=some (some (.ref 563)):=by kernel_rfl
theorem Bt (w:aa9):abH (KK w) (.ref 563)=true:=by kernel_rfl
theorem tH (w:aa9):nsIn (KK w) aam ("_law_line":Str)=some (some (.ref 570)):=by kernel_rfl
theorem tM (w:aa9):abH (KK w) (.ref 570)=true:=by kernel_rfl
theorem i5 (w:aa9):nsIn (KK w) aam ("_law_shown":Str)=some (some (.ref 575)):=by kernel_rfl
theorem i8 (w:aa9):abH (KK w) (.ref 575)=true:=by kernel_rfl
theorem pt (w:aa9):nsIn (KK w) aam ("_law_halves":Str)=some (some (.ref 580)):=by kernel_rfl
theorem pB (w:aa9):abH (KK w) (.ref 580)=true:=by kernel_rfl
theorem uV (w:aa9):nsIn (KK w) aam ("_law_sum":Str)=some (some (.ref 585)):=by kernel_rfl
theorem uW (w:aa9):abH (KK w) (.ref 585)=true:=by kernel_rfl
theorem yR (w:aa9):nsIn (KK w) aam ("_law_speaks":Str)=some (some (.ref 592)):=by kernel_rfl
theorem ye (w:aa9):abH (KK w) (.ref 592)=true:=by kernel_rfl
theorem rZ (w:aa9):nsIn (KK w) aam ("_law_is_refused":Str)=some (some (.ref 599)):=by kernel_rfl
theorem se (w:aa9):abH (KK w) (.ref 599)=true:=by kernel_rfl
theorem rL (w:aa9):nsIn (KK w) aam ("_law_small_right":Str)=some (some (.ref 606)):=by kernel_rfl
theorem rO (w:aa9):abH (KK w) (.ref 606)=true:=by kernel_rfl
theorem uu (w:aa9):nsIn (KK w) aam ("_law_ids_right":Str)=some (some (.ref 611)):=by kernel_rfl
theorem uB (w:aa9):abH (KK w) (.ref 611)=true:=by kernel_rfl
theorem tJ (w:aa9):nsIn (KK w) aam ("PathFault":Str)=some (some (.ref 202)):=by kernel_rfl
theorem qm (w:aa9):nsIn (KK w) aam ("Context":Str)=some (some (.ref 313)):=by kernel_rfl
theorem pR (w:aa9):abH (KK w) (.ref 313)=true:=by kernel_rfl
theorem qC (w:aa9):ajl (KK w) 313=true:=by kernel_rfl
theorem FC (w:aa9):nsIn (KK w) aam ("NodeRow":Str)=some (some (.ref 335)):=by kernel_rfl
theorem F9 (w:aa9):abH (KK w) (.ref 335)=true:=by kernel_rfl
theorem FL (w:aa9):ajl (KK w) 335=true:=by kernel_rfl
theorem Es (w:aa9):nsIn (KK w) aam ("Tree":Str)=some (some (.ref 524)):=by kernel_rfl
theorem EW (w:aa9):abH (KK w) (.ref 524)=true:=by kernel_rfl
theorem EG (w:aa9):ajl (KK w) 524=true:=by kernel_rfl
theorem qe (w:aa9):nsIn (KK w) aam ("range":Str)=some none:=by kernel_rfl
theorem dq (w:aa9):nsIn (KK w) aam ("len":Str)=some none:=by kernel_rfl
theorem Na (w:aa9):nsIn (KK w) aam ("abs":Str)=some none:=by kernel_rfl
theorem MW (w:aa9):nsIn (KK w) aam ("str":Str)=some none:=by kernel_rfl
theorem MY (w:aa9):nsIn (KK w) aam ("zip":Str)=some none:=by kernel_rfl
theorem i9 (w:aa9):nsIn (KK w) aam ("isinstance":Str)=some none:=by kernel_rfl
theorem mG (w:aa9):nsIn (KK w) aam ("list":Str)=some none:=by kernel_rfl
theorem tW (w:aa9):nsIn (KK w) aam ("enumerate":Str)=some none:=by kernel_rfl
theorem ie (w:aa9):nsIn (KK w) aam ("int":Str)=some none:=by kernel_rfl
theorem Mi (w:aa9):nsIn (KK w) aam ("max":Str)=some none:=by kernel_rfl
theorem Ci (w:aa9):nsIn (KK w) aam ("sum":Str)=some none:=by kernel_rfl
theorem zQ (w:aa9):nsIn (KK w) aam ("sorted":Str)=some none:=by kernel_rfl
theorem MZ (w:aa9):nsIn (KK w) aam ("set":Str)=some none:=by kernel_rfl
theorem LJ (w:aa9):nsIn (KK w) aam ("dict":Str)=some none:=by kernel_rfl
theorem gY (w:aa9):ab0 (KK w) (.ref 313) ("__init__":Str)=some (some (.ref 289)):=by kernel_rfl
theorem gT (w:aa9):isFn (KK w) (.ref 289)=true:=by kernel_rfl
theorem rB (w:aa9):ab0 (KK w) (.ref 335) ("__init__":Str)=some (some (.ref 332)):=by kernel_rfl
theorem rN (w:aa9):isFn (KK w) (.ref 332)=true:=by kernel_rfl
theorem nu (w:aa9):ab0 (KK w) (.ref 524) ("__init__":Str)=some (some (.ref 353)):=by kernel_rfl
theorem mP (w:aa9):isFn (KK w) (.ref 353)=true:=by kernel_rfl
theorem ka (w:aa9):ab0 (KK w) (.ref 524) ("new_row":Str)=some (some (.ref 360)):=by kernel_rfl
theorem jM (w:aa9):isFn (KK w) (.ref 360)=true:=by kernel_rfl
theorem jL (w:aa9):abH (KK w) (.ref 360)=true:=by kernel_rfl
theorem cW (w:aa9):ab0 (KK w) (.ref 524) ("row":Str)=some (some (.ref 367)):=by kernel_rfl
theorem cT (w:aa9):isFn (KK w) (.ref 367)=true:=by kernel_rfl
theorem cQ (w:aa9):abH (KK w) (.ref 367)=true:=by kernel_rfl
theorem jc (w:aa9):ab0 (KK w) (.ref 524) ("new_root":Str)=some (some (.ref 374)):=by kernel_rfl
theorem jg (w:aa9):isFn (KK w) (.ref 374)=true:=by kernel_rfl
theorem js (w:aa9):abH (KK w) (.ref 374)=true:=by kernel_rfl
theorem iO (w:aa9):ab0 (KK w) (.ref 524) ("add_child":Str)=some (some (.ref 381)):=by kernel_rfl
theorem iT (w:aa9):isFn (KK w) (.ref 381)=true:=by kernel_rfl
theorem iP (w:aa9):abH (KK w) (.ref 381)=true:=by kernel_rfl
theorem g5 (w:aa9):ab0 (KK w) (.ref 524) ("add_element":Str)=some (some (.ref 388)):=by kernel_rfl
theorem gS (w:aa9):isFn (KK w) (.ref 388)=true:=by kernel_rfl
theorem gZ (w:aa9):abH (KK w) (.ref 388)=true:=by kernel_rfl
theorem vS (w:aa9):ab0 (KK w) (.ref 524) ("add_text":Str)=some (some (.ref 395)):=by kernel_rfl
theorem vt (w:aa9):isFn (KK w) (.ref 395)=true:=by kernel_rfl
theorem vT (w:aa9):abH (KK w) (.ref 395)=true:=by kernel_rfl
theorem rF (w:aa9):ab0 (KK w) (.ref 524) ("add_comment":Str)=some (some (.ref 402)):=by kernel_rfl
theorem rq (w:aa9):isFn (KK w) (.ref 402)=true:=by kernel_rfl
theorem ri (w:aa9):abH (KK w) (.ref 402)=true:=by kernel_rfl
theorem rE (w:aa9):ab0 (KK w) (.ref 524) ("element_row":Str)=some (some (.ref 416)):=by kernel_rfl
theorem rH (w:aa9):isFn (KK w) (.ref 416)=true:=by kernel_rfl
theorem rA (w:aa9):abH (KK w) (.ref 416)=true:=by kernel_rfl
theorem f8 (w:aa9):ab0 (KK w) (.ref 524) ("set_attribute":Str)=some (some (.ref 423)):=by kernel_rfl
theorem gn (w:aa9):isFn (KK w) (.ref 423)=true:=by kernel_rfl
theorem ge (w:aa9):abH (KK w) (.ref 423)=true:=by kernel_rfl
theorem j7 (w:aa9):ab0 (KK w) (.ref 524) ("kind":Str)=some (some (.ref 444)):=by kernel_rfl
theorem kh (w:aa9):isFn (KK w) (.ref 444)=true:=by kernel_rfl
theorem jK (w:aa9):abH (KK w) (.ref 444)=true:=by kernel_rfl
theorem r5 (w:aa9):ab0 (KK w) (.ref 524) ("name":Str)=some (some (.ref 451)):=by kernel_rfl
theorem sH (w:aa9):isFn (KK w) (.ref 451)=true:=by kernel_rfl
theorem tP (w:aa9):abH (KK w) (.ref 451)=true:=by kernel_rfl
theorem Ec (w:aa9):ab0 (KK w) (.ref 524) ("uri":Str)=some (some (.ref 458)):=by kernel_rfl
theorem DE (w:aa9):isFn (KK w) (.ref 458)=true:=by kernel_rfl
theorem Dr (w:aa9):abH (KK w) (.ref 458)=true:=by kernel_rfl
theorem As (w:aa9):ab0 (KK w) (.ref 524) ("local":Str)=some (some (.ref 465)):=by kernel_rfl
theorem An (w:aa9):isFn (KK w) (.ref 465)=true:=by kernel_rfl
theorem Aa (w:aa9):abH (KK w) (.ref 465)=true:=by kernel_rfl
theorem lU (w:aa9):ab0 (KK w) (.ref 524) ("value":Str)=some (some (.ref 472)):=by kernel_rfl
theorem lZ (w:aa9):isFn (KK w) (.ref 472)=true:=by kernel_rfl
theorem lP (w:aa9):abH (KK w) (.ref 472)=true:=by kernel_rfl
theorem pq (w:aa9):ab0 (KK w) (.ref 524) ("parent":Str)=some (some (.ref 479)):=by kernel_rfl
theorem oU (w:aa9):isFn (KK w) (.ref 479)=true:=by kernel_rfl
theorem o4 (w:aa9):abH (KK w) (.ref 479)=true:=by kernel_rfl
theorem jp (w:aa9):ab0 (KK w) (.ref 524) ("children":Str)=some (some (.ref 486)):=by kernel_rfl
theorem jb (w:aa9):isFn (KK w) (.ref 486)=true:=by kernel_rfl
theorem je (w:aa9):abH (KK w) (.ref 486)=true:=by kernel_rfl
theorem lM (w:aa9):ab0 (KK w) (.ref 524) ("attributes":Str)=some (some (.ref 493)):=by kernel_rfl
theorem lB (w:aa9):isFn (KK w) (.ref 493)=true:=by kernel_rfl
theorem lq (w:aa9):abH (KK w) (.ref 493)=true:=by kernel_rfl
theorem s9 (w:aa9):ab0 (KK w) (.ref 524) ("namespaces":Str)=some (some (.ref 500)):=by kernel_rfl
theorem su (w:aa9):isFn (KK w) (.ref 500)=true:=by kernel_rfl
theorem tn (w:aa9):abH (KK w) (.ref 500)=true:=by kernel_rfl
theorem nL (w:aa9):ab0 (KK w) (.ref 524) ("root_of":Str)=some (some (.ref 507)):=by kernel_rfl
theorem nO (w:aa9):isFn (KK w) (.ref 507)=true:=by kernel_rfl
theorem nW (w:aa9):abH (KK w) (.ref 507)=true:=by kernel_rfl
theorem ce (w:aa9)(n:Str):ais (KK w) 335 n=true:=by kernel_rfl
theorem bu (w:aa9):ahQ (KK w) 335=true:=by kernel_rfl
theorem eQ (w:aa9):aiO (KK w) 335=true:=by kernel_rfl
theorem eN (w:aa9):ab0 (KK w) (.ref 335) "__setattr__"=some (some (.builtin "object.__setattr__")):=by kernel_rfl
theorem jS (w:aa9):ab0 (KK w) (.ref 335) ("kind":Str)=some none:=by kernel_rfl
theorem wJ {z}:dp (aP z) 335 ("kind":Str):=⟨eN _,eQ _,by kernel_rfl,bu _,(show ("kind":Str)∈bD 335 by decide +kernel)⟩
theorem xu (w:aa9):ab0 (KK w) (.ref 335) ("name":Str)=some none:=by kernel_rfl
theorem oe {z}:dp (aP z) 335 ("name":Str):=⟨eN _,eQ _,by kernel_rfl,bu _,(show ("name":Str)∈bD 335 by decide +kernel)⟩
theorem pd (w:aa9):ab0 (KK w) (.ref 335) ("uri":Str)=some none:=by kernel_rfl
theorem yD {z}:dp (aP z) 335 ("uri":Str):=⟨eN _,eQ _,by kernel_rfl,bu _,(show ("uri":Str)∈bD 335 by decide +kernel)⟩
theorem mS (w:aa9):ab0 (KK w) (.ref 335) ("local":Str)=some none:=by kernel_rfl
theorem vr {z}:dp (aP z) 335 ("local":Str):=⟨eN _,eQ _,by kernel_rfl,bu _,(show ("local":Str)∈bD 335 by decide +kernel)⟩
theorem vy (w:aa9):ab0 (KK w) (.ref 335) ("value":Str)=some none:=by kernel_rfl
theorem nr {z}:dp (aP z) 335 ("value":Str):=⟨eN _,eQ _,by kernel_rfl,bu _,(show ("value":Str)∈bD 335 by decide +kernel)⟩
theorem iN (w:aa9):ab0 (KK w) (.ref 335) ("parent":Str)=some none:=by kernel_rfl
theorem uA {z}:dp (aP z) 335 ("parent":Str):=⟨eN _,eQ _,by kernel_rfl,bu _,(show ("parent":Str)∈bD 335 by decide +kernel)⟩
theorem kq (w:aa9):ab0 (KK w) (.ref 335) ("children":Str)=some none:=by kernel_rfl
theorem rh {z}:dp (aP z) 335 ("children":Str):=⟨eN _,eQ _,by kernel_rfl,bu _,(show ("children":Str)∈bD 335 by decide +kernel)⟩
theorem fX (w:aa9):ab0 (KK w) (.ref 335) ("attributes":Str)=some none:=by kernel_rfl
theorem pi {z}:dp (aP z) 335 ("attributes":Str):=⟨eN _,eQ _,by kernel_rfl,bu _,(show ("attributes":Str)∈bD 335 by decide +kernel)⟩
theorem o0 (w:aa9):ab0 (KK w) (.ref 335) ("namespaces":Str)=some none:=by kernel_rfl
theorem o5 {z}:dp (aP z) 335 ("namespaces":Str):=⟨eN _,eQ _,by kernel_rfl,bu _,(show ("namespaces":Str)∈bD 335 by decide +kernel)⟩
theorem aW (w:aa9)(n:Str):ais (KK w) 524 n=true:=by kernel_rfl
theorem jx (w:aa9):ahQ (KK w) 524=true:=by kernel_rfl
theorem LE (w:aa9):aiO (KK w) 524=true:=by kernel_rfl
theorem LQ (w:aa9):ab0 (KK w) (.ref 524) "__setattr__"=some (some (.builtin "object.__setattr__")):=by kernel_rfl
theorem fg (w:aa9):ab0 (KK w) (.ref 524) ("rows":Str)=some none:=by kernel_rfl
theorem AN {z}:dp (aP z) 524 ("rows":Str):=⟨LQ _,LE _,by kernel_rfl,jx _,(show ("rows":Str)∈bD 524 by decide +kernel)⟩
theorem dj (w:aa9)(n:Str):ais (KK w) 313 n=true:=by kernel_rfl
theorem bO (w:aa9):ahQ (KK w) 313=true:=by kernel_rfl
theorem eM (w:aa9):aiO (KK w) 313=true:=by kernel_rfl
theorem eL (w:aa9):ab0 (KK w) (.ref 313) "__setattr__"=some (some (.builtin "object.__setattr__")):=by kernel_rfl
theorem eB (w:aa9):ab0 (KK w) (.ref 313) ("tree":Str)=some none:=by kernel_rfl
theorem xK {z}:dp (aP z) 313 ("tree":Str):=⟨eL _,eM _,by kernel_rfl,bO _,(show ("tree":Str)∈bD 313 by decide +kernel)⟩
theorem jW (w:aa9):ab0 (KK w) (.ref 313) ("node":Str)=some none:=by kernel_rfl
theorem w5 {z}:dp (aP z) 313 ("node":Str):=⟨eL _,eM _,by kernel_rfl,bO _,(show ("node":Str)∈bD 313 by decide +kernel)⟩
theorem rG (w:aa9):ab0 (KK w) (.ref 313) ("position":Str)=some none:=by kernel_rfl
theorem rP {z}:dp (aP z) 313 ("position":Str):=⟨eL _,eM _,by kernel_rfl,bO _,(show ("position":Str)∈bD 313 by decide +kernel)⟩
theorem wE (w:aa9):ab0 (KK w) (.ref 313) ("size":Str)=some none:=by kernel_rfl
theorem xp {z}:dp (aP z) 313 ("size":Str):=⟨eL _,eM _,by kernel_rfl,bO _,(show ("size":Str)∈bD 313 by decide +kernel)⟩
theorem pN {z}:dp (aP z) 313 ("variables":Str):=⟨eL _,eM _,by kernel_rfl,bO _,(show ("variables":Str)∈bD 313 by decide +kernel)⟩
theorem vK {z}:dp (aP z) 313 ("names":Str):=⟨eL _,eM _,by kernel_rfl,bO _,(show ("names":Str)∈bD 313 by decide +kernel)⟩
theorem vO {z}:dp (aP z) 313 ("calls":Str):=⟨eL _,eM _,by kernel_rfl,bO _,(show ("calls":Str)∈bD 313 by decide +kernel)⟩
theorem tE {z}:dp (aP z) 313 ("current":Str):=⟨eL _,eM _,by kernel_rfl,bO _,(show ("current":Str)∈bD 313 by decide +kernel)⟩
theorem yE (w:aa9):ab0 (KK w) (.ref 313) ("ids":Str)=some none:=by kernel_rfl
theorem yK {z}:dp (aP z) 313 ("ids":Str):=⟨eL _,eM _,by kernel_rfl,bO _,(show ("ids":Str)∈bD 313 by decide +kernel)⟩
theorem xe (w:aa9):nsIn (KK w) aam ("SPACES_chars":Str)=some (some (.str (" \t\n\r":Str) 196)):=by kernel_rfl
theorem xQ {α:bC}(h:α.Ok):RV α.hB [] [] (.str (" \t\n\r":Str)) (.str (" \t\n\r":Str) 196):=.str _ _
theorem ma (w:aa9):nsIn (KK w) aam ("SPACES_numbers":Str)=some (some (.str (" \t\n\r":Str) 220)):=by kernel_rfl
theorem mh {α:bC}(h:α.Ok):RV α.hB [] [] (.str (" \t\n\r":Str)) (.str (" \t\n\r":Str) 220):=.str _ _
theorem zD (w:aa9):nsIn (KK w) aam ("DIGITS":Str)=some (some (.str ("0123456789":Str) 222)):=by kernel_rfl
theorem zS {α:bC}(h:α.Ok):RV α.hB [] [] (.str ("0123456789":Str)) (.str ("0123456789":Str) 222):=.str _ _
noncomputable def sp:MV:=.tup [.int 0,.int 0]
theorem AJ (w:aa9):nsIn (KK w) aam ("NAN":Str)=some (some (.ref 36)):=by kernel_rfl
theorem Cz {z}(k:(aP z).Ok):RV (aP z).hB [] [] sp (.ref 36):=.tup (.inr (k.X 36 _ rfl)) (.cons (.int _ _) (.cons (.int _ _) .nil))
noncomputable def qv:MV:=.tup [.str ("root":Str),.str ("element":Str)]
theorem GR (w:aa9):nsIn (KK w) aam ("PARENTS":Str)=some (some (.ref 318)):=by kernel_rfl
theorem FF {z}(k:(aP z).Ok):RV (aP z).hB [] [] qv (.ref 318):=.tup (.inr (k.X 318 _ rfl)) (.cons (.str _ _) (.cons (.str _ _) .nil))
theorem j4:("new_row":Str) ∉ bD 524:=by decide +kernel
theorem cX:("row":Str) ∉ bD 524:=by decide +kernel
theorem jr:("new_root":Str) ∉ bD 524:=by decide +kernel
theorem iQ:("add_child":Str) ∉ bD 524:=by decide +kernel
theorem g4:("add_element":Str) ∉ bD 524:=by decide +kernel
theorem vz:("add_text":Str) ∉ bD 524:=by decide +kernel
theorem rn:("add_comment":Str) ∉ bD 524:=by decide +kernel
theorem rQ:("element_row":Str) ∉ bD 524:=by decide +kernel
theorem gk:("set_attribute":Str) ∉ bD 524:=by decide +kernel
theorem jX:("kind":Str) ∉ bD 524:=by decide +kernel
theorem sB:("name":Str) ∉ bD 524:=by decide +kernel
theorem DI:("uri":Str) ∉ bD 524:=by decide +kernel
theorem Ao:("local":Str) ∉ bD 524:=by decide +kernel
theorem lX:("value":Str) ∉ bD 524:=by decide +kernel
theorem o8:("parent":Str) ∉ bD 524:=by decide +kernel
theorem jk:("children":Str) ∉ bD 524:=by decide +kernel
theorem lu:("attributes":Str) ∉ bD 524:=by decide +kernel
theorem sF:("namespaces":Str) ∉ bD 524:=by decide +kernel
theorem n8:("root_of":Str) ∉ bD 524:=by decide +kernel
def bW (n:Nat)(dVs:List MV)(k:Nat)(T:TS):TP:=λVs st Q=>Vs.length=n/\T ((Vs++dVs).map some++abV k none) st (fa Q)
noncomputable abbrev cO (i:Nat):List Stmt:=(Bm (top i)).2.1
noncomputable abbrev cF (i:Nat):abM:=(Bm (top i)).2.2
noncomputable abbrev ix (i j:Nat):List Stmt:=(Bm (cls i j)).2.1
noncomputable abbrev iu (i j:Nat):abM:=(Bm (cls i j)).2.2
theorem br {α:bC}{ℓ:Nat}{f:Addr}{name qual:Str}{params:adF}{body:List Stmt}{scope:abM}{dV kV Qw pm P4 ct oc:aac}{an od:Option Addr}{Ri:Array (Option aac)}{n:Nat}{ps rest:List Str}{T:TS}
  (D:u9 α f name qual params body scope dV kV Qw pm P4 ct oc an od Ri) (hb:jJ α (fnOf name qual params body scope dV kV Qw pm an P4 ct) n ps []) (hT:ah α ℓ scope (ps++rest) body T)
  (PL:autoParam (n=ps.length) aR) (Qt:autoParam (ps++rest).Nodup aD) (Qz:autoParam (((ps++rest).all λx=>scope.names.lookup x == some .local)=true) aR) (QC:autoParam ((scope.names.all λx=>x.2 != .cell)=true) aR):bJ α (ℓ+1) f (bW n [] rest.length T):=
 kG (ds:=[]) (dVs:=[]) D hb PL (λ_=>.nil) Qt Qz QC hT λ_ _ _ h=>h
noncomputable abbrev DT:List Str:=["sign"]
abbrev xh:TS:=
 (aj (aS (l6 (ar (ic false) (af 0) (tK (.str " \t\n\r"))) (ar ia (af 0) (tK (.str "")))))
 az)
theorem AR {z}:ah (aP z) 0 (cF 3) DT (cO 3) xh:=
 (ag (aE (qJ (fm aa.loc (aa.glob (xe _) (xQ)) mO) (fm aa.loc aw ii)))
 ao)
def qB:TP:=bW 1 [] 0 xh
theorem Dh {z}:bJ (aP z) 1 28 qB:=
 br (n:=1) (ps:=["sign"]) (rest:=[]) ⟨rfl,by rfl,rfl,rfl,rfl⟩ (bM λ_ _ X=>aaq rfl) AR
noncomputable abbrev yq:List Str:=["text","found","begin","place"]
abbrev mQ:TS:=(aj (bX (lJ (bT (ar bL (af 3) (aF dP (ad (af 0) ak)))) (lJ (bT (aF qB (ad (ar aN (af 0) (af 3)) ak))) iw)) (aj (bX (bT (ar (bw λa b=>decide (a > b)) (af 3) (af 2))) (aj (bY (cr .list bx (af 1) (ad (iV (af 0) (af 2) (af 3)) ak)))
 az) az)
 (aj (aX 2 (ar cM (af 3) (tK (.int 1))))
 az)) az)
 az)
abbrev qW:TS:=
 (aj (c8 [2,1] (bl (ad (be ak) (ad (tK (.int 0)) ak))))
 (aj (eO (nj (ad (ar cM (aF dP (ad (af 0) ak)) (tK (.int 1))) ak)) (b8 3) mQ)
 (aj (aS (af 1))
 az)))
theorem wQ {z}:ah (aP z) 1 (cF 4) yq (cO 4) qW:=
 (ag (cP (is:=[2,1]) (xs:=["found","begin"]) (aV (ac (aY ai) (ac aq ai))) (.cons (i:=2) rfl (.cons (i:=1) rfl .nil)))
 (ag (dn (mz (ac (aU (bB (dq _) (by decide +kernel) c0 (ac aa.loc ai)) aq cL) ai) (qe _)) (fY.name (i:=3)) (ag (aZ (db (eA (aC aa.loc (bB (dq _) (by decide +kernel) c0 (ac aa.loc ai)) bc) (eA (aJ.val (aa.call (DP _) (DH _) (aM.fn (Dh.mono (by decide))) (ac (aa.sub aa.loc aa.loc) ai))) k8))) (ag (aZ (aC aa.loc aa.loc mZ) (ag (cg (ba (k:=.list) aa.loc (ac (dm aa.loc (dA.some aa.loc) (dA.some aa.loc)) ai) cf abp abq))
 ao) ao)
 (ag (au.set (i:=2) (aU aa.loc aq cL))
 ao)) ao)
 ao))
 (ag (aE aa.loc)
 ao)))
def i7:TP:=bW 1 [] 3 qW
theorem oY {z}:bJ (aP z) 2 35 i7:=
 br (n:=1) (ps:=["text"]) (rest:=["found","begin","place"]) ⟨rfl,by rfl,rfl,rfl,rfl⟩ (bM λ_ _ X=>aaq rfl) wQ
noncomputable abbrev ux:List Str:=["one","other","first","second"]
abbrev rM:TB:=(bT (ar (bw λa b=>decide (a > b)) (af 3) (tK (.int 0))))
abbrev rt:TS:=(aj (c8 [3,2] (bl (ad (af 3) (ad (ar (bh adb (λ_ b=>b≠0)) (af 2) (af 3)) ak))))
 az)
abbrev ni:TS:=
 (aj (c8 [3,2] (bl (ad (aF MX (ad (af 0) ak)) (ad (af 1) ak))))
 (aj (f2 rM rt)
 (aj (aS (af 2))
 az)))
theorem s0 {z}:ah (aP z) 0 (cF 9) ux (cO 9) ni:=
 (ag (cP (is:=[3,2]) (xs:=["first","second"]) (aV (ac (bB (Na _) (by decide +kernel) KH (ac aa.loc ai)) (ac aa.loc ai))) (.cons (i:=3) rfl (.cons (i:=2) rfl .nil)))
 (ag (eT (aC aa.loc aq mZ) (ag (cP (is:=[3,2]) (xs:=["first","second"]) (aV (ac aa.loc (ac (aU aa.loc aa.loc ju) ai))) (.cons (i:=3) rfl (.cons (i:=2) rfl .nil)))
 ao))
 (ag (aE aa.loc)
 ao)))
def jl:TP:=bW 2 [] 2 ni
theorem uL {z}:bJ (aP z) 1 43 jl:=
 br (n:=2) (ps:=["one","other"]) (rest:=["first","second"]) ⟨rfl,by rfl,rfl,rfl,rfl⟩ (bM λ_ _ _ X=>aaq rfl) s0
noncomputable abbrev F7:List Str:=["number"]
abbrev zf:TS:=
 (aj (bX (bT (ar (bw λa b=>decide (a > b)) (af 0) (tK (.int 0)))) (aj (aS (tK (.int 1)))
 az) az)
 (aj (bX (bT (ar (bw λa b=>decide (a < b)) (af 0) (tK (.int 0)))) (aj (aS (ir fP (tK (.int 1))))
 az) az)
 (aj (aS (tK (.int 0)))
 az)))
theorem DC {z}:ah (aP z) 0 (cF 10) F7 (cO 10) zf:=
 (ag (aZ (aC aa.loc aq mZ) (ag (aE aq)
 ao) ao)
 (ag (aZ (aC aa.loc aq lm) (ag (aE (e9 aq eZ))
 ao) ao)
 (ag (aE aq)
 ao)))
def zU:TP:=bW 1 [] 0 zf
theorem Fg {z}:bJ (aP z) 1 50 zU:=
 br (n:=1) (ps:=["number"]) (rest:=[]) ⟨rfl,by rfl,rfl,rfl,rfl⟩ (bM λ_ _ X=>aaq rfl) DC
noncomputable abbrev AL:List Str:=["top","bottom","common"]
abbrev oM:TS:=
 (aj (bX (bT (ar bL (af 1) (tK (.int 0)))) (aj (aS (bl (ad (aF zU (ad (af 0) ak)) (ad (tK (.int 0)) ak))))
 az) az)
 (aj (bX (bT (ar (bw λa b=>decide (a < b)) (af 1) (tK (.int 0)))) (aj (c8 [1,0] (bl (ad (ir fP (af 0)) (ad (ir fP (af 1)) ak))))
 az) az)
 (aj (aX 2 (aF jl (ad (af 0) (ad (af 1) ak))))
 (aj (aS (bl (ad (ar (bh af7 t9) (af 0) (af 2)) (ad (ar (bh af7 t9) (af 1) (af 2)) ak))))
 az))))
theorem rf {z}:ah (aP z) 1 (cF 11) AL (cO 11) oM:=
 (ag (aZ (aC aa.loc aq bc) (ag (aE (aV (ac (aa.call (Fw _) (Ga _) (aM.fn (Fg.mono (by decide))) (ac aa.loc ai)) (ac aq ai))))
 ao) ao)
 (ag (aZ (aC aa.loc aq lm) (ag (cP (is:=[1,0]) (xs:=["top","bottom"]) (aV (ac (e9 aa.loc eZ) (ac (e9 aa.loc eZ) ai))) (.cons (i:=1) rfl (.cons (i:=0) rfl .nil)))
 ao) ao)
 (ag (au.set (i:=2) (aa.call (uN _) (uy _) (aM.fn (uL.mono (by decide))) (ac aa.loc (ac aa.loc ai))))
 (ag (aE (aV (ac (aU aa.loc aa.loc oW) (ac (aU aa.loc aa.loc oW) ai))))
 ao))))
def eI:TP:=bW 1 [.int 1] 1 oM
theorem gj {z}:bJ (aP z) 2 58 eI:=
 kG (n:=1) (ps:=["top","bottom"]) (rest:=["common"]) (dVs:=[.int 1]) ⟨rfl,by rfl,rfl,rfl,rfl⟩ (bM λ_ _ X=>ai1 X rfl (by rfl) rfl rfl rfl) rfl (λ_=>(.cons (.int _ _) .nil)) (by decide +kernel) (by rfl) (by rfl) rf (λ_ _ _ h=>h)
def gJ:TP:=bW 2 [] 1 oM
theorem o7 {z}:bJ (aP z) 2 58 gJ:=
 kG (n:=2) (ps:=["top","bottom"]) (rest:=["common"]) (dVs:=[]) ⟨rfl,by rfl,rfl,rfl,rfl⟩ (bM λ_ _ _ X=>ai1 X rfl (by rfl) rfl rfl rfl) rfl (λ_=>.nil) (by decide +kernel) (by rfl) (by rfl) rf (λ_ _ _ h=>h)
noncomputable abbrev HL:List Str:=["a"]
abbrev Ch:TS:=
 (aj (aS (l6 (ar bL (ar aN (af 0) (tK (.int 1))) (tK (.int 0))) (ar bL (ar aN (af 0) (tK (.int 0))) (tK (.int 0)))))
 az)
theorem FZ {z}:ah (aP z) 0 (cF 12) HL (cO 12) Ch:=
 (ag (aE (qJ (fm (aa.sub aa.loc aq) aq bc) (fm (aa.sub aa.loc aq) aq bc)))
 ao)
def kO:TP:=bW 1 [] 0 Ch
theorem zG {z}:bJ (aP z) 1 65 kO:=
 br (n:=1) (ps:=["a"]) (rest:=[]) ⟨rfl,by rfl,rfl,rfl,rfl⟩ (bM λ_ _ X=>aaq rfl) FZ
noncomputable abbrev FN:List Str:=["a"]
abbrev zX:TS:=
 (aj (aS (bl (ad (ir fP (ar aN (af 0) (tK (.int 0)))) (ad (ar aN (af 0) (tK (.int 1))) ak))))
 az)
theorem Dm {z}:ah (aP z) 0 (cF 13) FN (cO 13) zX:=
 (ag (aE (aV (ac (e9 (aa.sub aa.loc aq) eZ) (ac (aa.sub aa.loc aq) ai))))
 ao)
def nD:TP:=bW 1 [] 0 zX
theorem Gq {z}:bJ (aP z) 1 72 nD:=
 br (n:=1) (ps:=["a"]) (rest:=[]) ⟨rfl,by rfl,rfl,rfl,rfl⟩ (bM λ_ _ X=>aaq rfl) Dm
noncomputable abbrev KR:List Str:=["a","b"]
abbrev Hl:TS:=
 (aj (bX (lJ (bT (aF kO (ad (af 0) ak))) (lJ (bT (aF kO (ad (af 1) ak))) iw)) (aj (aS (tK sp))
 az) az)
 (aj (bX (dz (bT (ar bL (ar aN (af 0) (tK (.int 1))) (tK (.int 0)))) (dz (bT (ar bL (ar aN (af 1) (tK (.int 1))) (tK (.int 0)))) fV)) (aj (aS (fh (bT (ar bL (ar aN (af 0) (tK (.int 0))) (ar aN (af 1) (tK (.int 0))))) (af 0) (tK sp)))
 az) az)
 (aj (bX (bT (ar bL (ar aN (af 0) (tK (.int 1))) (tK (.int 0)))) (aj (aS (af 0))
 az) az)
 (aj (bX (bT (ar bL (ar aN (af 1) (tK (.int 1))) (tK (.int 0)))) (aj (aS (af 1))
 az) az)
 (aj (aS (aF gJ (ad (ar cM (ar (bh (· * ·) acg) (ar aN (af 0) (tK (.int 0))) (ar aN (af 1) (tK (.int 1)))) (ar (bh (· * ·) acg) (ar aN (af 1) (tK (.int 0))) (ar aN (af 0) (tK (.int 1))))) (ad (ar (bh (· * ·) acg) (ar aN (af 0) (tK (.int 1))) (ar aN (af 1) (tK (.int 1)))) ak))))
 az)))))
theorem JV {z}:ah (aP z) 2 (cF 14) KR (cO 14) Hl:=
 (ag (aZ (db (eA (aJ.val (aa.call (za _) (zd _) (aM.fn (zG.mono (by decide))) (ac aa.loc ai))) (eA (aJ.val (aa.call (za _) (zd _) (aM.fn (zG.mono (by decide))) (ac aa.loc ai))) k8))) (ag (aE (aa.glob (AJ _) (Cz)))
 ao) ao)
 (ag (aZ (db (bp (aC (aa.sub aa.loc aq) aq bc) (bp (aC (aa.sub aa.loc aq) aq bc) dh))) (ag (aE (cA (aC (aa.sub aa.loc aq) (aa.sub aa.loc aq) bc) aa.loc (aa.glob (AJ _) (Cz))))
 ao) ao)
 (ag (aZ (aC (aa.sub aa.loc aq) aq bc) (ag (aE aa.loc)
 ao) ao)
 (ag (aZ (aC (aa.sub aa.loc aq) aq bc) (ag (aE aa.loc)
 ao) ao)
 (ag (aE (aa.call (d9 _) (eu _) (aM.fn (o7.mono (by decide))) (ac (aU (aU (aa.sub aa.loc aq) (aa.sub aa.loc aq) fz) (aU (aa.sub aa.loc aq) (aa.sub aa.loc aq) fz) cL) (ac (aU (aa.sub aa.loc aq) (aa.sub aa.loc aq) fz) ai))))
 ao)))))
def j5:TP:=bW 2 [] 0 Hl
theorem Li {z}:bJ (aP z) 3 79 j5:=
 br (n:=2) (ps:=["a","b"]) (rest:=[]) ⟨rfl,by rfl,rfl,rfl,rfl⟩ (bM λ_ _ _ X=>aaq rfl) JV
noncomputable abbrev Ab:List Str:=["text","at"]
abbrev nE:TB:=(dz (bT (ar (bw λa b=>decide (a < b)) (af 1) (aF dP (ad (af 0) ak)))) (dz (bT (ar (ic false) (ar aN (af 0) (af 1)) (tK (.str "0123456789")))) fV))
abbrev n9:TS:=(aj (pW (bh (·+·) mq) 1 (tK (.int 1)))
 az)
abbrev tC:TS:=
 (aj (f2 nE n9)
 (aj (aS (af 1))
 az))
theorem yk {z}:ah (aP z) 0 (cF 15) Ab (cO 15) tC:=
 (ag (eT (db (bp (aC aa.loc (bB (dq _) (by decide +kernel) c0 (ac aa.loc ai)) lm) (bp (aC (aa.sub aa.loc aa.loc) (aa.glob (zD _) (zS)) mO) dh))) (ag (wb (i:=1) aq Bg)
 ao))
 (ag (aE aa.loc)
 ao))
def gu:TP:=bW 2 [] 0 tC
theorem q0 {z}:bJ (aP z) 1 86 gu:=
 br (n:=2) (ps:=["text","at"]) (rest:=[]) ⟨rfl,by rfl,rfl,rfl,rfl⟩ (bM λ_ _ _ X=>aaq rfl) yk
noncomputable abbrev Fv:List Str:=["text","begin","end"]
abbrev td:TB:=(dz (bT (ar (bw λa b=>decide (a > b)) (af 2) (af 1))) (dz (bT (ar (ic false) (ar aN (af 0) (ar (bh (· - ·) mq) (af 2) (tK (.int 1)))) (tK (.str " \t\n\r")))) fV))
abbrev tG:TS:=(aj (pW (bh (· - ·) mq) 2 (tK (.int 1)))
 az)
abbrev r6:TB:=(dz (bT (ar (bw λa b=>decide (a < b)) (af 1) (af 2))) (dz (bT (ar (ic false) (ar aN (af 0) (af 1)) (tK (.str " \t\n\r")))) fV))
abbrev tL:TS:=(aj (pW (bh (·+·) mq) 1 (tK (.int 1)))
 az)
abbrev zx:TS:=
 (aj (c8 [2,1] (bl (ad (tK (.int 0)) (ad (aF dP (ad (af 0) ak)) ak))))
 (aj (f2 r6 tL)
 (aj (f2 td tG)
 (aj (aS (iV (af 0) (af 1) (af 2)))
 az))))
theorem En {z}:ah (aP z) 0 (cF 16) Fv (cO 16) zx:=
 (ag (cP (is:=[2,1]) (xs:=["begin","end"]) (aV (ac aq (ac (bB (dq _) (by decide +kernel) c0 (ac aa.loc ai)) ai))) (.cons (i:=2) rfl (.cons (i:=1) rfl .nil)))
 (ag (eT (db (bp (aC aa.loc aa.loc lm) (bp (aC (aa.sub aa.loc aa.loc) (aa.glob (ma _) (mh)) mO) dh))) (ag (wb (i:=1) aq Bg)
 ao))
 (ag (eT (db (bp (aC aa.loc aa.loc mZ) (bp (aC (aa.sub aa.loc (aU aa.loc aq mB)) (aa.glob (ma _) (mh)) mO) dh))) (ag (wb (i:=2) aq IH)
 ao))
 (ag (aE (dm aa.loc (dA.some aa.loc) (dA.some aa.loc)))
 ao))))
def tY:TP:=bW 1 [] 2 zx
theorem Ff {z}:bJ (aP z) 1 93 tY:=
 br (n:=1) (ps:=["text"]) (rest:=["begin","end"]) ⟨rfl,by rfl,rfl,rfl,rfl⟩ (bM λ_ _ X=>aaq rfl) En
noncomputable abbrev Di:List Str:=["digits","number","digit"]
abbrev qR:TS:=(aj (aX 1 (ar cM (ar (bh (· * ·) acg) (af 1) (tK (.int 10))) (cr .str zz (tK (.str "0123456789")) (ad (af 2) ak))))
 az)
abbrev xj:TS:=
 (aj (aX 1 (tK (.int 0)))
 (aj (eO (CJ (af 0)) (b8 2) qR)
 (aj (aS (af 1))
 az)))
theorem Bx {z}:ah (aP z) 0 (cF 17) Di (cO 17) xj:=
 (ag (au.set (i:=1) aq)
 (ag (dn (C4 aa.loc) (fY.name (i:=2)) (ag (au.set (i:=1) (aU (aU aa.loc aq fz) (ba (k:=.str) (aa.glob (zD _) (zS)) (ac aa.loc ai) CH PySem.F.slot_str_index PySem.F.type_str_index) cL))
 ao))
 (ag (aE aa.loc)
 ao)))
def mv:TP:=bW 1 [] 2 xj
theorem Dp {z}:bJ (aP z) 1 100 mv:=
 br (n:=1) (ps:=["digits"]) (rest:=["number","digit"]) ⟨rfl,by rfl,rfl,rfl,rfl⟩ (bM λ_ _ X=>aaq rfl) Bx
noncomputable abbrev yb:List Str:=["text","told","begin","end","whole","parts","last","found"]
abbrev rd:TS:=
 (aj (aX 1 (aF tY (ad (af 0) ak)))
 (aj (aX 2 (fh (bT (ar bL (iV (af 1) (tK .none) (tK (.int 1))) (tK (.str "-")))) (tK (.int 1)) (tK (.int 0))))
 (aj (aX 3 (aF gu (ad (af 1) (ad (af 2) ak))))
 (aj (c8 [5,4] (bl (ad (iV (af 1) (af 2) (af 3)) (ad (tK (.str "")) ak))))
 (aj (bX (bT (ar bL (iV (af 1) (af 3) (ar cM (af 3) (tK (.int 1)))) (tK (.str ".")))) (aj (aX 6 (aF gu (ad (af 1) (ad (ar cM (af 3) (tK (.int 1))) ak))))
 (aj (aX 5 (iV (af 1) (ar cM (af 3) (tK (.int 1))) (af 6)))
 (aj (aX 3 (af 6))
 az))) az)
 (aj (bX (lJ (bT (ar (bw λa b=>decide (a < b)) (af 3) (aF dP (ad (af 1) ak)))) (lJ (bT (ar bL (ar cM (af 4) (af 5)) (tK (.str "")))) iw)) (aj (aS (tK sp))
 az) az)
 (aj (aX 7 (aF gJ (ad (aF mv (ad (ar cM (af 4) (af 5)) ak)) (ad (ar (bh (λa n=>a ^ n.toNat) λa n=>0<=n/\n<=1000000/\a.natAbs < 2 ^ 64) (tK (.int 10)) (aF dP (ad (af 5) ak))) ak))))
 (aj (aS (fh (bT (ar bL (af 2) (tK (.int 1)))) (aF nD (ad (af 7) ak)) (af 7)))
 az))))))))
theorem xT {z}:ah (aP z) 2 (cF 18) yb (cO 18) rd:=
 (ag (au.set (i:=1) (aa.call (F6 _) (Go _) (aM.fn (Ff.mono (by decide))) (ac aa.loc ai)))
 (ag (au.set (i:=2) (cA (aC (dm aa.loc dA.none (dA.some aq)) aw bc) aq aq))
 (ag (au.set (i:=3) (aa.call (re _) (qM _) (aM.fn (q0.mono (by decide))) (ac aa.loc (ac aa.loc ai))))
 (ag (cP (is:=[5,4]) (xs:=["whole","parts"]) (aV (ac (dm aa.loc (dA.some aa.loc) (dA.some aa.loc)) (ac aw ai))) (.cons (i:=5) rfl (.cons (i:=4) rfl .nil)))
 (ag (aZ (aC (dm aa.loc (dA.some aa.loc) (dA.some (aU aa.loc aq cL))) aw bc) (ag (au.set (i:=6) (aa.call (re _) (qM _) (aM.fn (q0.mono (by decide))) (ac aa.loc (ac (aU aa.loc aq cL) ai))))
 (ag (au.set (i:=5) (dm aa.loc (dA.some (aU aa.loc aq cL)) (dA.some aa.loc)))
 (ag (au.set (i:=3) aa.loc)
 ao))) ao)
 (ag (aZ (db (eA (aC aa.loc (bB (dq _) (by decide +kernel) c0 (ac aa.loc ai)) lm) (eA (aC (aU aa.loc aa.loc cL) aw bc) k8))) (ag (aE (aa.glob (AJ _) (Cz)))
 ao) ao)
 (ag (au.set (i:=7) (aa.call (d9 _) (eu _) (aM.fn (o7.mono (by decide))) (ac (aa.call (Ed _) (El _) (aM.fn (Dp.mono (by decide))) (ac (aU aa.loc aa.loc cL) ai)) (ac (aU aq (bB (dq _) (by decide +kernel) c0 (ac aa.loc ai)) E0) ai))))
 (ag (aE (cA (aC aa.loc aq bc) (aa.call (F3 _) (GB _) (aM.fn (Gq.mono (by decide))) (ac aa.loc ai)) aa.loc))
 ao))))))))
def gK:TP:=bW 1 [] 7 rd
theorem yw {z}:bJ (aP z) 3 107 gK:=
 br (n:=1) (ps:=["text"]) (rest:=["told","begin","end","whole","parts","last","found"]) ⟨rfl,by rfl,rfl,rfl,rfl⟩ (bM λ_ _ X=>aaq rfl) xT
noncomputable abbrev xG:List Str:=["self","kind","name","uri","local","value","parent"]
abbrev o6:TS:=
 (aj (dk 335 "kind" (af 0) (af 1))
 (aj (dk 335 "name" (af 0) (af 2))
 (aj (dk 335 "uri" (af 0) (af 3))
 (aj (dk 335 "local" (af 0) (af 4))
 (aj (dk 335 "value" (af 0) (af 5))
 (aj (dk 335 "parent" (af 0) (af 6))
 (aj (dk 335 "children" (af 0) (be ak))
 (aj (dk 335 "attributes" (af 0) (be ak))
 (aj (dk 335 "namespaces" (af 0) (be ak))
 az)))))))))
theorem vX {z}:ah (aP z) 0 (iu 48 0) xG (ix 48 0) o6:=
 (ag (b7 aa.loc aa.loc wJ)
 (ag (b7 aa.loc aa.loc oe)
 (ag (b7 aa.loc aa.loc yD)
 (ag (b7 aa.loc aa.loc vr)
 (ag (b7 aa.loc aa.loc nr)
 (ag (b7 aa.loc aa.loc uA)
 (ag (b7 aa.loc (aY ai) rh)
 (ag (b7 aa.loc (aY ai) pi)
 (ag (b7 aa.loc (aY ai) o5)
 ao)))))))))
def kJ:TP:=bW 7 [] 0 o6
theorem wU {z}:bJ (aP z) 1 332 kJ:=
 br (n:=7) (ps:=["self","kind","name","uri","local","value","parent"]) (rest:=[]) ⟨rfl,by rfl,rfl,rfl,rfl⟩ (bM λ_ _ _ _ _ _ _ _ X=>aaq rfl) vX
noncomputable abbrev BP:List Str:=["self"]
abbrev u3:TS:=
 (aj (dk 524 "rows" (af 0) (be ak))
 az)
theorem Am {z}:ah (aP z) 0 (iu 49 0) BP (ix 49 0) u3:=
 (ag (b7 aa.loc (aY ai) AN)
 ao)
def kQ:TP:=bW 1 [] 0 u3
theorem sL {z}:bJ (aP z) 1 353 kQ:=
 br (n:=1) (ps:=["self"]) (rest:=[]) ⟨rfl,by rfl,rfl,rfl,rfl⟩ (bM λ_ _ X=>aaq rfl) Am
noncomputable abbrev wp:List Str:=["self","kind","name","uri","local","value","parent"]
abbrev kI:TS:=
 (aj (bY (cr .list bx (cC 524 "rows" (af 0)) (ad (aF (kM 335 kJ) (ad (af 1) (ad (af 2) (ad (af 3) (ad (af 4) (ad (af 5) (ad (af 6) ak))))))) ak)))
 (aj (aS (ar (bh (· - ·) mq) (aF dP (ad (cC 524 "rows" (af 0)) ak)) (tK (.int 1))))
 az))
theorem vJ {z}:ah (aP z) 2 (iu 49 1) wp (ix 49 1) kI:=
 (ag (cg (ba (k:=.list) (bn aa.loc (aW _ _) (jx _) (fg _) rfl) (ac (aa.call (FC _) (F9 _) ((mJ (FL _) (rB _) (rN _) wU).mono (by decide)) (ac aa.loc (ac aa.loc (ac aa.loc (ac aa.loc (ac aa.loc (ac aa.loc ai))))))) ai) cf abp abq))
 (ag (aE (aU (bB (dq _) (by decide +kernel) c0 (ac (bn aa.loc (aW _ _) (jx _) (fg _) rfl) ai)) aq mB))
 ao))
def e8:TP:=bW 7 [] 0 kI
theorem jT {z}:bJ (aP z) 3 360 e8:=
 br (n:=7) (ps:=["self","kind","name","uri","local","value","parent"]) (rest:=[]) ⟨rfl,by rfl,rfl,rfl,rfl⟩ (bM λ_ _ _ _ _ _ _ _ X=>aaq rfl) vJ
noncomputable abbrev DR:List Str:=["self","node"]
abbrev wD:TS:=
 (aj (bX (oJ (Bz (bw λa b=>decide (a<=b)) (bw λa b=>decide (a < b)) (tK (.int 0)) (af 1) (aF dP (ad (cC 524 "rows" (af 0)) ak)))) (aj qG
 az) az)
 (aj (aS (ar aN (cC 524 "rows" (af 0)) (af 1)))
 az))
theorem AK {z}:ah (aP z) 0 (iu 49 2) DR (ix 49 2) wD:=
 (ag (aZ (nz (GV aq aa.loc (bB (dq _) (by decide +kernel) c0 (ac (bn aa.loc (aW _ _) (jx _) (fg _) rfl) ai)) MM lm)) (ag jy
 ao) ao)
 (ag (aE (aa.sub (bn aa.loc (aW _ _) (jx _) (fg _) rfl) aa.loc))
 ao))
def cN:TP:=bW 2 [] 0 wD
theorem cU {z}:bJ (aP z) 1 367 cN:=
 br (n:=2) (ps:=["self","node"]) (rest:=[]) ⟨rfl,by rfl,rfl,rfl,rfl⟩ (bM λ_ _ _ X=>aaq rfl) AK
noncomputable abbrev vA:List Str:=["self"]
abbrev nP:TS:=
 (aj (aS (bf 524 e8 (af 0) (ad (tK (.str "root")) (ad (tK (.str "")) (ad (tK (.str "")) (ad (tK (.str "")) (ad (tK (.str "")) (ad (tK .none) ak))))))))
 az)
theorem uG {z}:ah (aP z) 3 (iu 49 3) vA (ix 49 3) nP:=
 (ag (aE (aQ aa.loc (ac aw (ac aw (ac aw (ac aw (ac aw (ac bo ai)))))) (aM.fn (jT.mono (by decide))) (aW _ _) (ka _) (jM _) (jL _) j4))
 ao)
def fG:TP:=bW 1 [] 0 nP
theorem jf {z}:bJ (aP z) 4 374 fG:=
 br (n:=1) (ps:=["self"]) (rest:=[]) ⟨rfl,by rfl,rfl,rfl,rfl⟩ (bM λ_ _ X=>aaq rfl) uG
noncomputable abbrev uE:List Str:=["self","parent","kind","name","uri","local","value","node"]
abbrev m4:TS:=
 (aj (bX (dz (bT (ar fH (af 1) (tK .none))) (dz (bT (ar (ic true) (cC 335 "kind" (bf 524 cN (af 0) (ad (af 1) ak))) (tK qv))) fV)) (aj qG
 az) az)
 (aj (aX 7 (bf 524 e8 (af 0) (ad (af 2) (ad (af 3) (ad (af 4) (ad (af 5) (ad (af 6) (ad (af 1) ak))))))))
 (aj (bX (bT (ar fH (af 1) (tK .none))) (aj (bY (cr .list bx (cC 335 "children" (ar aN (cC 524 "rows" (af 0)) (af 1))) (ad (af 7) ak)))
 az) az)
 (aj (aS (af 7))
 az))))
theorem tU {z}:ah (aP z) 3 (iu 49 4) uE (ix 49 4) m4:=
 (ag (aZ (db (bp (aC aa.loc bo fF) (bp (aC (bn (aQ aa.loc (ac aa.loc ai) (aM.fn (cU.mono (by decide))) (aW _ _) (cW _) (cT _) (cQ _) cX) (ce _ _) (bu _) (jS _) rfl) (aa.glob (GR _) (FF)) lG) dh))) (ag jy
 ao) ao)
 (ag (au.set (i:=7) (aQ aa.loc (ac aa.loc (ac aa.loc (ac aa.loc (ac aa.loc (ac aa.loc (ac aa.loc ai)))))) (aM.fn (jT.mono (by decide))) (aW _ _) (ka _) (jM _) (jL _) j4))
 (ag (aZ (aC aa.loc bo fF) (ag (cg (ba (k:=.list) (bn (aa.sub (bn aa.loc (aW _ _) (jx _) (fg _) rfl) aa.loc) (ce _ _) (bu _) (kq _) rfl) (ac aa.loc ai) cf abp abq))
 ao) ao)
 (ag (aE aa.loc)
 ao))))
def fe:TP:=bW 7 [] 1 m4
theorem iR {z}:bJ (aP z) 4 381 fe:=
 br (n:=7) (ps:=["self","parent","kind","name","uri","local","value"]) (rest:=["node"]) ⟨rfl,by rfl,rfl,rfl,rfl⟩ (bM λ_ _ _ _ _ _ _ _ X=>aaq rfl) tU
noncomputable abbrev rz:List Str:=["self","parent","name","uri","local"]
abbrev lD:TS:=
 (aj (aS (bf 524 fe (af 0) (ad (af 1) (ad (tK (.str "element")) (ad (af 2) (ad (af 3) (ad (af 4) (ad (tK (.str "")) ak))))))))
 az)
theorem pQ {z}:ah (aP z) 4 (iu 49 5) rz (ix 49 5) lD:=
 (ag (aE (aQ aa.loc (ac aa.loc (ac aw (ac aa.loc (ac aa.loc (ac aa.loc (ac aw ai)))))) (aM.fn (iR.mono (by decide))) (aW _ _) (iO _) (iT _) (iP _) iQ))
 ao)
def ee:TP:=bW 5 [] 0 lD
theorem gX {z}:bJ (aP z) 5 388 ee:=
 br (n:=5) (ps:=["self","parent","name","uri","local"]) (rest:=[]) ⟨rfl,by rfl,rfl,rfl,rfl⟩ (bM λ_ _ _ _ _ _ X=>aaq rfl) pQ
noncomputable abbrev vY:List Str:=["self","parent","value"]
abbrev nG:TS:=
 (aj (aS (bf 524 fe (af 0) (ad (af 1) (ad (tK (.str "text")) (ad (tK (.str "")) (ad (tK (.str "")) (ad (tK (.str "")) (ad (af 2) ak))))))))
 az)
theorem uw {z}:ah (aP z) 4 (iu 49 6) vY (ix 49 6) nG:=
 (ag (aE (aQ aa.loc (ac aa.loc (ac aw (ac aw (ac aw (ac aw (ac aa.loc ai)))))) (aM.fn (iR.mono (by decide))) (aW _ _) (iO _) (iT _) (iP _) iQ))
 ao)
def fD:TP:=bW 3 [] 0 nG
theorem vV {z}:bJ (aP z) 5 395 fD:=
 br (n:=3) (ps:=["self","parent","value"]) (rest:=[]) ⟨rfl,by rfl,rfl,rfl,rfl⟩ (bM λ_ _ _ _ X=>aaq rfl) uw
noncomputable abbrev rI:List Str:=["self","parent","value"]
abbrev lg:TS:=
 (aj (aS (bf 524 fe (af 0) (ad (af 1) (ad (tK (.str "comment")) (ad (tK (.str "")) (ad (tK (.str "")) (ad (tK (.str "")) (ad (af 2) ak))))))))
 az)
theorem qh {z}:ah (aP z) 4 (iu 49 7) rI (ix 49 7) lg:=
 (ag (aE (aQ aa.loc (ac aa.loc (ac aw (ac aw (ac aw (ac aw (ac aa.loc ai)))))) (aM.fn (iR.mono (by decide))) (aW _ _) (iO _) (iT _) (iP _) iQ))
 ao)
def ec:TP:=bW 3 [] 0 lg
theorem rC {z}:bJ (aP z) 5 402 ec:=
 br (n:=3) (ps:=["self","parent","value"]) (rest:=[]) ⟨rfl,by rfl,rfl,rfl,rfl⟩ (bM λ_ _ _ _ X=>aaq rfl) qh
noncomputable abbrev ro:List Str:=["self","element","row"]
abbrev lA:TS:=
 (aj (aX 2 (bf 524 cN (af 0) (ad (af 1) ak)))
 (aj (bX (bT (ar ia (cC 335 "kind" (af 2)) (tK (.str "element")))) (aj qG
 az) az)
 (aj (aS (af 2))
 az)))
theorem qF {z}:ah (aP z) 1 (iu 49 9) ro (ix 49 9) lA:=
 (ag (au.set (i:=2) (aQ aa.loc (ac aa.loc ai) (aM.fn (cU.mono (by decide))) (aW _ _) (cW _) (cT _) (cQ _) cX))
 (ag (aZ (aC (bn aa.loc (ce _ _) (bu _) (jS _) rfl) aw ii) (ag jy
 ao) ao)
 (ag (aE aa.loc)
 ao)))
def io:TP:=bW 2 [] 1 lA
theorem rS {z}:bJ (aP z) 2 416 io:=
 br (n:=2) (ps:=["self","element"]) (rest:=["row"]) ⟨rfl,by rfl,rfl,rfl,rfl⟩ (bM λ_ _ _ X=>aaq rfl) qF
noncomputable abbrev pC:List Str:=["self","element","name","uri","local","value","row","node","known"]
abbrev iL:TS:=(aj (aX 8 (ar aN (cC 524 "rows" (af 0)) (af 7)))
 (aj (bX (dz (bT (ar bL (cC 335 "uri" (af 8)) (af 3))) (dz (bT (ar bL (cC 335 "local" (af 8)) (af 4))) fV)) (aj (dk 335 "name" (af 8) (af 2))
 (aj (dk 335 "value" (af 8) (af 5))
 (aj (aS (af 7))
 az))) az)
 az))
abbrev kc:TS:=
 (aj (aX 6 (bf 524 io (af 0) (ad (af 1) ak)))
 (aj (eO (b9 (cC 335 "attributes" (af 6))) (b8 7) iL)
 (aj (aX 7 (bf 524 e8 (af 0) (ad (tK (.str "attribute")) (ad (af 2) (ad (af 3) (ad (af 4) (ad (af 5) (ad (af 1) ak))))))))
 (aj (bY (cr .list bx (cC 335 "attributes" (af 6)) (ad (af 7) ak)))
 (aj (aS (af 7))
 az)))))
theorem oE {z}:ah (aP z) 3 (iu 49 10) pC (ix 49 10) kc:=
 (ag (au.set (i:=6) (aQ aa.loc (ac aa.loc ai) (aM.fn (rS.mono (by decide))) (aW _ _) (rE _) (rH _) (rA _) rQ))
 (ag (dn (bU (bn aa.loc (ce _ _) (bu _) (fX _) rfl)) (fY.name (i:=7)) (ag (au.set (i:=8) (aa.sub (bn aa.loc (aW _ _) (jx _) (fg _) rfl) aa.loc))
 (ag (aZ (db (bp (aC (bn aa.loc (ce _ _) (bu _) (pd _) rfl) aa.loc bc) (bp (aC (bn aa.loc (ce _ _) (bu _) (mS _) rfl) aa.loc bc) dh))) (ag (b7 aa.loc aa.loc oe)
 (ag (b7 aa.loc aa.loc nr)
 (ag (aE aa.loc)
 ao))) ao)
 ao)))
 (ag (au.set (i:=7) (aQ aa.loc (ac aw (ac aa.loc (ac aa.loc (ac aa.loc (ac aa.loc (ac aa.loc ai)))))) (aM.fn (jT.mono (by decide))) (aW _ _) (ka _) (jM _) (jL _) j4))
 (ag (cg (ba (k:=.list) (bn aa.loc (ce _ _) (bu _) (fX _) rfl) (ac aa.loc ai) cf abp abq))
 (ag (aE aa.loc)
 ao)))))
def b0:TP:=bW 6 [] 3 kc
theorem gq {z}:bJ (aP z) 4 423 b0:=
 br (n:=6) (ps:=["self","element","name","uri","local","value"]) (rest:=["row","node","known"]) ⟨rfl,by rfl,rfl,rfl,rfl⟩ (bM λ_ _ _ _ _ _ _ X=>aaq rfl) oE
noncomputable abbrev BI:List Str:=["self","node"]
abbrev u4:TS:=
 (aj (aS (cC 335 "kind" (bf 524 cN (af 0) (ad (af 1) ak))))
 az)
theorem z7 {z}:ah (aP z) 1 (iu 49 13) BI (ix 49 13) u4:=
 (ag (aE (bn (aQ aa.loc (ac aa.loc ai) (aM.fn (cU.mono (by decide))) (aW _ _) (cW _) (cT _) (cQ _) cX) (ce _ _) (bu _) (jS _) rfl))
 ao)
def gP:TP:=bW 2 [] 0 u4
theorem j9 {z}:bJ (aP z) 2 444 gP:=
 br (n:=2) (ps:=["self","node"]) (rest:=[]) ⟨rfl,by rfl,rfl,rfl,rfl⟩ (bM λ_ _ _ X=>aaq rfl) z7
noncomputable abbrev Co:List Str:=["self","node"]
abbrev u0:TS:=
 (aj (aS (cC 335 "name" (bf 524 cN (af 0) (ad (af 1) ak))))
 az)
theorem Af {z}:ah (aP z) 1 (iu 49 14) Co (ix 49 14) u0:=
 (ag (aE (bn (aQ aa.loc (ac aa.loc ai) (aM.fn (cU.mono (by decide))) (aW _ _) (cW _) (cT _) (cQ _) cX) (ce _ _) (bu _) (xu _) rfl))
 ao)
def kY:TP:=bW 2 [] 0 u0
theorem sY {z}:bJ (aP z) 2 451 kY:=
 br (n:=2) (ps:=["self","node"]) (rest:=[]) ⟨rfl,by rfl,rfl,rfl,rfl⟩ (bM λ_ _ _ X=>aaq rfl) Af
noncomputable abbrev Dt:List Str:=["self","node"]
abbrev xf:TS:=
 (aj (aS (cC 335 "uri" (bf 524 cN (af 0) (ad (af 1) ak))))
 az)
theorem CG {z}:ah (aP z) 1 (iu 49 15) Dt (ix 49 15) xf:=
 (ag (aE (bn (aQ aa.loc (ac aa.loc ai) (aM.fn (cU.mono (by decide))) (aW _ _) (cW _) (cT _) (cQ _) cX) (ce _ _) (bu _) (pd _) rfl))
 ao)
def pP:TP:=bW 2 [] 0 xf
theorem DL {z}:bJ (aP z) 2 458 pP:=
 br (n:=2) (ps:=["self","node"]) (rest:=[]) ⟨rfl,by rfl,rfl,rfl,rfl⟩ (bM λ_ _ _ X=>aaq rfl) CG
noncomputable abbrev z5:List Str:=["self","node"]
abbrev tD:TS:=
 (aj (aS (cC 335 "local" (bf 524 cN (af 0) (ad (af 1) ak))))
 az)
theorem yA {z}:ah (aP z) 1 (iu 49 16) z5 (ix 49 16) tD:=
 (ag (aE (bn (aQ aa.loc (ac aa.loc ai) (aM.fn (cU.mono (by decide))) (aW _ _) (cW _) (cT _) (cQ _) cX) (ce _ _) (bu _) (mS _) rfl))
 ao)
def m9:TP:=bW 2 [] 0 tD
theorem Ae {z}:bJ (aP z) 2 465 m9:=
 br (n:=2) (ps:=["self","node"]) (rest:=[]) ⟨rfl,by rfl,rfl,rfl,rfl⟩ (bM λ_ _ _ X=>aaq rfl) yA
noncomputable abbrev At:List Str:=["self","node"]
abbrev tu:TS:=
 (aj (aS (cC 335 "value" (bf 524 cN (af 0) (ad (af 1) ak))))
 az)
theorem yt {z}:ah (aP z) 1 (iu 49 17) At (ix 49 17) tu:=
 (ag (aE (bn (aQ aa.loc (ac aa.loc ai) (aM.fn (cU.mono (by decide))) (aW _ _) (cW _) (cT _) (cQ _) cX) (ce _ _) (bu _) (vy _) rfl))
 ao)
def iv:TP:=bW 2 [] 0 tu
theorem l5 {z}:bJ (aP z) 2 472 iv:=
 br (n:=2) (ps:=["self","node"]) (rest:=[]) ⟨rfl,by rfl,rfl,rfl,rfl⟩ (bM λ_ _ _ X=>aaq rfl) yt
noncomputable abbrev yo:List Str:=["self","node"]
abbrev qZ:TS:=
 (aj (aS (cC 335 "parent" (bf 524 cN (af 0) (ad (af 1) ak))))
 az)
theorem xy {z}:ah (aP z) 1 (iu 49 18) yo (ix 49 18) qZ:=
 (ag (aE (bn (aQ aa.loc (ac aa.loc ai) (aM.fn (cU.mono (by decide))) (aW _ _) (cW _) (cT _) (cQ _) cX) (ce _ _) (bu _) (iN _) rfl))
 ao)
def gL:TP:=bW 2 [] 0 qZ
theorem pu {z}:bJ (aP z) 2 479 gL:=
 br (n:=2) (ps:=["self","node"]) (rest:=[]) ⟨rfl,by rfl,rfl,rfl,rfl⟩ (bM λ_ _ _ X=>aaq rfl) xy
noncomputable abbrev vC:List Str:=["self","node"]
abbrev nN:TS:=
 (aj (aS (aF oN (ad (cC 335 "children" (bf 524 cN (af 0) (ad (af 1) ak))) ak)))
 az)
theorem uD {z}:ah (aP z) 1 (iu 49 19) vC (ix 49 19) nN:=
 (ag (aE (cG (mG _) (by decide +kernel) pS (ac (bn (aQ aa.loc (ac aa.loc ai) (aM.fn (cU.mono (by decide))) (aW _ _) (cW _) (cT _) (cQ _) cX) (ce _ _) (bu _) (kq _) rfl) ai)))
 ao)
def fC:TP:=bW 2 [] 0 nN
theorem jq {z}:bJ (aP z) 2 486 fC:=
 br (n:=2) (ps:=["self","node"]) (rest:=[]) ⟨rfl,by rfl,rfl,rfl,rfl⟩ (bM λ_ _ _ X=>aaq rfl) uD
noncomputable abbrev sG:List Str:=["self","node"]
abbrev l7:TS:=
 (aj (aS (aF oN (ad (cC 335 "attributes" (bf 524 cN (af 0) (ad (af 1) ak))) ak)))
 az)
theorem rg {z}:ah (aP z) 1 (iu 49 20) sG (ix 49 20) l7:=
 (ag (aE (cG (mG _) (by decide +kernel) pS (ac (bn (aQ aa.loc (ac aa.loc ai) (aM.fn (cU.mono (by decide))) (aW _ _) (cW _) (cT _) (cQ _) cX) (ce _ _) (bu _) (fX _) rfl) ai)))
 ao)
def fT:TP:=bW 2 [] 0 l7
theorem lK {z}:bJ (aP z) 2 493 fT:=
 br (n:=2) (ps:=["self","node"]) (rest:=[]) ⟨rfl,by rfl,rfl,rfl,rfl⟩ (bM λ_ _ _ X=>aaq rfl) rg
noncomputable abbrev r0:List Str:=["self","node"]
abbrev md:TS:=
 (aj (aS (aF oN (ad (cC 335 "namespaces" (bf 524 cN (af 0) (ad (af 1) ak))) ak)))
 az)
theorem rm {z}:ah (aP z) 1 (iu 49 21) r0 (ix 49 21) md:=
 (ag (aE (cG (mG _) (by decide +kernel) pS (ac (bn (aQ aa.loc (ac aa.loc ai) (aM.fn (cU.mono (by decide))) (aW _ _) (cW _) (cT _) (cQ _) cX) (ce _ _) (bu _) (o0 _) rfl) ai)))
 ao)
def mn:TP:=bW 2 [] 0 md
theorem sT {z}:bJ (aP z) 2 500 mn:=
 br (n:=2) (ps:=["self","node"]) (rest:=[]) ⟨rfl,by rfl,rfl,rfl,rfl⟩ (bM λ_ _ _ X=>aaq rfl) rm
noncomputable abbrev xI:List Str:=["self","node"]
abbrev l9:TB:=(bT (ar fH (cC 335 "parent" (bf 524 cN (af 0) (ad (af 1) ak))) (tK .none)))
abbrev me:TS:=(aj (aX 1 (cC 335 "parent" (ar aN (cC 524 "rows" (af 0)) (af 1))))
 az)
abbrev oV:TS:=
 (aj (f2 l9 me)
 (aj (aS (af 1))
 az))
theorem vn {z}:ah (aP z) 1 (iu 49 22) xI (ix 49 22) oV:=
 (ag (eT (aC (bn (aQ aa.loc (ac aa.loc ai) (aM.fn (cU.mono (by decide))) (aW _ _) (cW _) (cT _) (cQ _) cX) (ce _ _) (bu _) (iN _) rfl) bo fF) (ag (au.set (i:=1) (bn (aa.sub (bn aa.loc (aW _ _) (jx _) (fg _) rfl) aa.loc) (ce _ _) (bu _) (iN _) rfl))
 ao))
 (ag (aE aa.loc)
 ao))
def gs:TP:=bW 2 [] 0 oV
theorem nC {z}:bJ (aP z) 2 507 gs:=
 br (n:=2) (ps:=["self","node"]) (rest:=[]) ⟨rfl,by rfl,rfl,rfl,rfl⟩ (bM λ_ _ _ X=>aaq rfl) vn
noncomputable abbrev wg:List Str:=["self","tree","node","position","size","variables","names","calls","current","ids"]
abbrev f9:TS:=
 (aj (dk 313 "tree" (af 0) (af 1))
 (aj (dk 313 "node" (af 0) (af 2))
 (aj (dk 313 "position" (af 0) (af 3))
 (aj (dk 313 "size" (af 0) (af 4))
 (aj (dk 313 "variables" (af 0) (fh (bT (ar mR (af 5) (tK .none))) (kU oC) (af 5)))
 (aj (dk 313 "names" (af 0) (fh (bT (ar mR (af 6) (tK .none))) (kU oC) (af 6)))
 (aj (dk 313 "calls" (af 0) (fh (bT (ar mR (af 7) (tK .none))) (kU oC) (af 7)))
 (aj (dk 313 "current" (af 0) (fh (bT (ar mR (af 8) (tK .none))) (af 2) (af 8)))
 (aj (dk 313 "ids" (af 0) (fh (bT (ar mR (af 9) (tK .none))) (kU oC) (af 9)))
 az)))))))))
theorem jm {z}:ah (aP z) 0 (iu 45 0) wg (ix 45 0) f9:=
 (ag (b7 aa.loc aa.loc xK)
 (ag (b7 aa.loc aa.loc w5)
 (ag (b7 aa.loc aa.loc rP)
 (ag (b7 aa.loc aa.loc xp)
 (ag (b7 aa.loc (cA (aC aa.loc bo jD) mA aa.loc) pN)
 (ag (b7 aa.loc (cA (aC aa.loc bo jD) mA aa.loc) vK)
 (ag (b7 aa.loc (cA (aC aa.loc bo jD) mA aa.loc) vO)
 (ag (b7 aa.loc (cA (aC aa.loc bo jD) aa.loc aa.loc) tE)
 (ag (b7 aa.loc (cA (aC aa.loc bo jD) mA aa.loc) yK)
 ao)))))))))
def gB:TP:=bW 3 [.int 1,.int 1,.none,.none,.none,.none,.none] 0 f9
theorem uv {z}:bJ (aP z) 1 289 gB:=
 kG (n:=3) (ps:=["self","tree","node","position","size","variables","names","calls","current","ids"]) (rest:=[]) (dVs:=[.int 1,.int 1,.none,.none,.none,.none,.none]) ⟨rfl,by rfl,rfl,rfl,rfl⟩ (bM λ_ _ _ _ X=>ai1 X rfl (by rfl) rfl rfl rfl) rfl (λ_=>(.cons (.int _ _) (.cons (.int _ _) (.cons .none (.cons .none (.cons .none (.cons .none (.cons .none .nil)))))))) (by decide +kernel) (by rfl) (by rfl) jm (λ_ _ _ h=>h)
def ja:TP:=bW 5 [.none,.none,.none,.none,.none] 0 f9
theorem uM {z}:bJ (aP z) 1 289 ja:=
 kG (n:=5) (ps:=["self","tree","node","position","size","variables","names","calls","current","ids"]) (rest:=[]) (dVs:=[.none,.none,.none,.none,.none]) ⟨rfl,by rfl,rfl,rfl,rfl⟩ (bM λ_ _ _ _ _ _ X=>ai1 X rfl (by rfl) rfl rfl rfl) rfl (λ_=>(.cons .none (.cons .none (.cons .none (.cons .none (.cons .none .nil)))))) (by decide +kernel) (by rfl) (by rfl) jm (λ_ _ _ h=>h)
def iS:TP:=bW 10 [] 0 f9
theorem tN {z}:bJ (aP z) 1 289 iS:=
 kG (n:=10) (ps:=["self","tree","node","position","size","variables","names","calls","current","ids"]) (rest:=[]) (dVs:=[]) ⟨rfl,by rfl,rfl,rfl,rfl⟩ (bM λ_ _ _ _ _ _ _ _ _ _ _ X=>ai1 X rfl (by rfl) rfl rfl rfl) rfl (λ_=>.nil) (by decide +kernel) (by rfl) (by rfl) jm (λ_ _ _ h=>h)
noncomputable abbrev Ag:List Str:=["tree","node","found"]
abbrev jH:TB:=(bT (ar fH (af 1) (tK .none)))
abbrev jV:TS:=(aj (bY (cr .list bx (af 2) (ad (af 1) ak)))
 (aj (aX 1 (bf 524 gL (af 0) (ad (af 1) ak)))
 az))
abbrev tO:TS:=
 (aj (aX 2 (be ak))
 (aj (f2 jH jV)
 (aj (aS (sq (af 2) (ir fP (tK (.int 1)))))
 az)))
theorem yi {z}:ah (aP z) 2 (cF 21) Ag (cO 21) tO:=
 (ag (au.set (i:=2) (aY ai))
 (ag (eT (aC aa.loc bo fF) (ag (cg (ba (k:=.list) aa.loc (ac aa.loc ai) cf abp abq))
 (ag (au.set (i:=1) (aQ aa.loc (ac aa.loc ai) (aM.fn (pu.mono (by decide))) (aW _ _) (pq _) (oU _) (o4 _) o8))
 ao)))
 (ag (aE (wc aa.loc (e9 aq eZ)))
 ao)))
def ng:TP:=bW 2 [] 1 tO
theorem z8 {z}:bJ (aP z) 3 122 ng:=
 br (n:=2) (ps:=["tree","node"]) (rest:=["found"]) ⟨rfl,by rfl,rfl,rfl,rfl⟩ (bM λ_ _ _ X=>aaq rfl) yi
noncomputable abbrev ya:List Str:=["tree","parent","node","kind"]
abbrev qN:TS:=
 (aj (aX 3 (bf 524 gP (af 0) (ad (af 2) ak)))
 (aj (bX (bT (ar bL (af 3) (tK (.str "namespace")))) (aj (aS (bl (ad (tK (.int 0)) (ad (cr .list th (bf 524 mn (af 0) (ad (af 1) ak)) (ad (af 2) ak)) ak))))
 az) az)
 (aj (bX (bT (ar bL (af 3) (tK (.str "attribute")))) (aj (aS (bl (ad (tK (.int 1)) (ad (cr .list th (bf 524 fT (af 0) (ad (af 1) ak)) (ad (af 2) ak)) ak))))
 az) az)
 (aj (aS (bl (ad (tK (.int 2)) (ad (cr .list th (bf 524 fC (af 0) (ad (af 1) ak)) (ad (af 2) ak)) ak))))
 az))))
theorem xo {z}:ah (aP z) 2 (cF 22) ya (cO 22) qN:=
 (ag (au.set (i:=3) (aQ aa.loc (ac aa.loc ai) (aM.fn (j9.mono (by decide))) (aW _ _) (j7 _) (kh _) (jK _) jX))
 (ag (aZ (aC aa.loc aw bc) (ag (aE (aV (ac aq (ac (ba (k:=.list) (aQ aa.loc (ac aa.loc ai) (aM.fn (sT.mono (by decide))) (aW _ _) (s9 _) (su _) (tn _) sF) (ac aa.loc ai) sg afu afv) ai))))
 ao) ao)
 (ag (aZ (aC aa.loc aw bc) (ag (aE (aV (ac aq (ac (ba (k:=.list) (aQ aa.loc (ac aa.loc ai) (aM.fn (lK.mono (by decide))) (aW _ _) (lM _) (lB _) (lq _) lu) (ac aa.loc ai) sg afu afv) ai))))
 ao) ao)
 (ag (aE (aV (ac aq (ac (ba (k:=.list) (aQ aa.loc (ac aa.loc ai) (aM.fn (jq.mono (by decide))) (aW _ _) (jp _) (jb _) (je _) jk) (ac aa.loc ai) sg afu afv) ai))))
 ao))))
def gI:TP:=bW 3 [] 1 qN
theorem xX {z}:Er (aP z) 3 129 gI:=
 HW (n:=3) (ps:=["tree","parent","node"]) (rest:=["kind"]) (dVs:=[]) ⟨rfl,by rfl,rfl,rfl,rfl⟩ (bM λ_ _ _ _ X=>aaq rfl) rfl (λ_=>.nil) (by decide +kernel) (by rfl) (by rfl) xo (λ_ _ _ h=>h)
noncomputable abbrev DO:List Str:=["tree","node","line","found","above","below"]
abbrev xV:TS:=
 (aj (aX 2 (aF ng (ad (af 0) (ad (af 1) ak))))
 (aj (aX 3 (bl (ad (ar aN (af 2) (tK (.int 0))) ak)))
 (aj (yG (af 2) (iV (af 2) (tK (.int 1)) (tK .none)) 4 5 3 (aF gI (ad (af 0) (ad (af 4) (ad (af 5) ak)))))
 (aj (aS (af 3))
 az))))
theorem BU {z}:ah (aP z) 3 (cF 23) DO (cO 23) xV:=
 (ag (au.set (i:=2) (aa.call (Ak _) (Ai _) (aM.fn (z8.mono (by decide))) (ac aa.loc (ac aa.loc ai))))
 (ag (au.set (i:=3) (aV (ac (aa.sub aa.loc aq) ai)))
 (ag (Eo (x:=4) (y:=5) (i:=3) (ac aa.loc (ac (dm aa.loc (dA.some aq) dA.none) ai)) (AF.call (is:=[0,4,5]) (yQ _) (x7 _) (xX.mono (by decide)) (.cons rfl (by decide +kernel) (.cons rfl (by decide +kernel) (.cons rfl (by decide +kernel) .nil)))) (MY _))
 (ag (aE aa.loc)
 ao))))
def iG:TP:=bW 2 [] 4 xV
theorem DG {z}:bJ (aP z) 4 136 iG:=
 br (n:=2) (ps:=["tree","node"]) (rest:=["line","found","above","below"]) ⟨rfl,by rfl,rfl,rfl,rfl⟩ (bM λ_ _ _ X=>aaq rfl) BU
def oH:TE:=aF iG (ad (af 1) (ad (af 0) ak))
def mu:TP:=λVs st Q=>match Vs with
 | [t,V]=>CM 1 [0] (b9 (af 1)) (b8 0) 0 oH [some t,some V,none] st λys Ps=>∃rs,ud ys rs/\Q (.ref Ps.length) (Ps++[.list (rs.map .int)])
 | _=>False
theorem Mg {z}:FI (aP z) ⟨119,29,119,53⟩:=⟨λ_ x=>x,λ_=>ajo,λ_=>ajo⟩
noncomputable abbrev Nd:abM:={ kind:=.function,names:=[((".0":Str),.local),(("node":Str),.local),(("place_of":Str),.globalImplicit),(("tree":Str),.free)],isGenerator:=false,isCoroutine:=false,more:=[] }
theorem Lp {z}{p0 p1 p2 p3 q1:Pos}:gp (aP z) 5 (cF 24) Nd uo [("node":Str)] [("tree":Str)] [0] (.Name ("node":Str) q1) [] (.Call (.Name ("place_of":Str) p0) [.Name ("tree":Str) p1,.Name ("node":Str) p2] [] p3) (b8 0) d3 oH:=
 ⟨by rfl,by rfl,by rfl,by rfl,rfl,by rfl,by rfl,cY.name (i:=0) (by decide +kernel) rfl (by rfl),eV,
  aa.call (Eb _) (DJ _) (aM.fn (DG.mono (by decide))) (ac aa.loc (ac aa.loc ai))⟩
theorem CE {z}:CR (aP z) 5 (cF 24) uo (cO 24) (Bl oH) ("in_order":Str) (.ref 140):=
 KD Lp Mg (zQ _) rfl rfl
theorem DZ {z}:bJ (aP z) 6 141 mu:=
 y5 (n:=2) (ps:=[("tree":Str),("nodes":Str)]) (rest:=[("known":Str)]) (dVs:=[]) ⟨rfl,by rfl,rfl,rfl,rfl⟩ (bM λ_ _ _ X=>aaq rfl) rfl (λ_=>.nil) (by decide +kernel) (by rfl) (by decide +kernel) CE (λVs st Q h=>by
  match Vs,h with
  | [t,V],h=>exact⟨rfl,h.1,h.2⟩)
noncomputable abbrev GE:List Str:=["tree","node","found","left","here"]
abbrev sk:TB:=(bT (ar ia (af 3) (be ak)))
abbrev tA:TS:=(aj (aX 4 (cr .list Gb (af 3) ak))
 (aj (bY (cr .list bx (af 2) (ad (af 4) ak)))
 (aj (aX 3 (ar cM (af 3) (sq (bf 524 fC (af 0) (ad (af 4) ak)) (ir fP (tK (.int 1))))))
 az)))
abbrev zW:TS:=
 (aj (aX 2 (be ak))
 (aj (aX 3 (sq (bf 524 fC (af 0) (ad (af 1) ak)) (ir fP (tK (.int 1)))))
 (aj (f2 sk tA)
 (aj (aS (af 2))
 az))))
theorem DM {z}:ah (aP z) 2 (cF 25) GE (cO 25) zW:=
 (ag (au.set (i:=2) (aY ai))
 (ag (au.set (i:=3) (wc (aQ aa.loc (ac aa.loc ai) (aM.fn (jq.mono (by decide))) (aW _ _) (jp _) (jb _) (je _) jk) (e9 aq eZ)))
 (ag (eT (aC aa.loc (aY ai) ii) (ag (au.set (i:=4) (ba (k:=.list) aa.loc ai EM aht ahu))
 (ag (cg (ba (k:=.list) aa.loc (ac aa.loc ai) cf abp abq))
 (ag (au.set (i:=3) (aU aa.loc (wc (aQ aa.loc (ac aa.loc ai) (aM.fn (jq.mono (by decide))) (aW _ _) (jp _) (jb _) (je _) jk) (e9 aq eZ)) cL))
 ao))))
 (ag (aE aa.loc)
 ao))))
def rX:TP:=bW 2 [] 3 zW
theorem Fl {z}:bJ (aP z) 3 148 rX:=
 br (n:=2) (ps:=["tree","node"]) (rest:=["found","left","here"]) ⟨rfl,by rfl,rfl,rfl,rfl⟩ (bM λ_ _ _ X=>aaq rfl) DM
noncomputable abbrev xN:List Str:=["tree","node"]
abbrev uI:TE:=(bf 524 iv (af 1) (ad (af 0) ak))
abbrev uH:TB:=(bT (ar bL (bf 524 gP (af 1) (ad (af 0) ak)) (tK (.str "text"))))
abbrev pD:TS:=
 (aj (bX (bT (ar (ic true) (bf 524 gP (af 0) (ad (af 1) ak)) (bl (ad (tK (.str "root")) (ad (tK (.str "element")) ak))))) (aj (aS (bf 524 iv (af 0) (ad (af 1) ak)))
 az) az)
 (aj (aS (cr .str qx (tK (.str "")) (ad (c7 1 [0] (b9 (aF rX (ad (af 0) (ad (af 1) ak)))) (b8 0) uH uI) ak)))
 az))
theorem vE {z}:ah (aP z) 3 (cF 26) xN (cO 26) pD:=
 (ag (aZ (aC (aQ aa.loc (ac aa.loc ai) (aM.fn (j9.mono (by decide))) (aW _ _) (j7 _) (kh _) (jK _) jX) (aV (ac aw (ac aw ai))) lG) (ag (aE (aQ aa.loc (ac aa.loc ai) (aM.fn (l5.mono (by decide))) (aW _ _) (lU _) (lZ _) (lP _) lX))
 ao) ao)
 (ag (aE (ba (k:=.str) aw (ac (ez (tgts:=["one"]) (cn:=["tree"]) (caps:=[0]) ⟨by rfl,by rfl,by rfl,by rfl,rfl,by rfl,by rfl,(cY.name (i:=0) (by decide +kernel) rfl (by rfl)),(iz (aC (aQ aa.loc (ac aa.loc ai) (aM.fn (j9.mono (by decide))) (aW _ _) (j7 _) (kh _) (jK _) jX) aw bc)),(aQ aa.loc (ac aa.loc ai) (aM.fn (l5.mono (by decide))) (aW _ _) (lU _) (lZ _) (lP _) lX)⟩ (bU (aa.call (GH _) (Gs _) (aM.fn (Fl.mono (by decide))) (ac aa.loc (ac aa.loc ai))))) ai) vW afU afV))
 ao))
def gc:TP:=bW 2 [] 0 pD
theorem jG {z}:bJ (aP z) 4 153 gc:=
 vN (n:=2) (ps:=["tree","node"]) (rest:=[]) (dVs:=[]) ⟨rfl,by rfl,rfl,rfl,rfl⟩ (bM λ_ _ _ X=>aaq rfl) rfl (λ_=>.nil) (by decide +kernel) (by rfl) (by decide +kernel) vE (λ_ _ _ h=>h)
noncomputable abbrev Gy:List Str:=["value","tree"]
abbrev y8:TS:=
 (aj (bX (bT (pM MG (af 0))) (aj (aS (af 0))
 az) az)
 (aj qG
 (aj qG
 (aj (aS (fh (bT (ar ia (af 0) (be ak))) (aF gc (ad (af 1) (ad (ar aN (af 0) (tK (.int 0))) ak))) (tK (.str ""))))
 az))))
theorem Ee {z}:ah (aP z) 4 (cF 28) Gy (cO 28) y8:=
 (ag (aZ (aJ.val (qK aa.loc LU (i9 _) (MW _) (by decide +kernel))) (ag (aE aa.loc)
 ao) ao)
 (ag jy
 (ag jy
 (ag (aE (cA (aC aa.loc (aY ai) ii) (aa.call (jz _) (jF _) (aM.fn (jG.mono (by decide))) (ac aa.loc (ac (aa.sub aa.loc aq) ai))) aw))
 ao))))
def nA:TP:=bW 2 [] 0 y8
theorem wO {z}:bJ (aP z) 5 160 nA:=
 br (n:=2) (ps:=["value","tree"]) (rest:=[]) ⟨rfl,by rfl,rfl,rfl,rfl⟩ (bM λ_ _ _ X=>aaq rfl) Ee
noncomputable abbrev Ea:List Str:=["value"]
abbrev xa:TS:=
 (aj (bX (oJ (bT (pM yj (af 0)))) (aj qG
 az) az)
 (aj (aS (af 0))
 az))
theorem Bp {z}:ah (aP z) 0 (cF 34) Ea (cO 34) xa:=
 (ag (aZ (nz (aJ.val (qK aa.loc wa (i9 _) (mG _) (by decide +kernel)))) (ag jy
 ao) ao)
 (ag (aE aa.loc)
 ao))
def jZ:TP:=bW 1 [] 0 xa
theorem oj {z}:bJ (aP z) 1 211 jZ:=
 br (n:=1) (ps:=["value"]) (rest:=[]) ⟨rfl,by rfl,rfl,rfl,rfl⟩ (bM λ_ _ X=>aaq rfl) Bp
noncomputable abbrev GS:List Str:=["value"]
abbrev zL:TS:=
 (aj (aS (aF eI (ad (aF dP (ad (aF jZ (ad (af 0) ak)) ak)) ak)))
 az)
theorem C8 {z}:ah (aP z) 2 (cF 35) GS (cO 35) zL:=
 (ag (aE (aa.call (d9 _) (eu _) (aM.fn (gj.mono (by decide))) (ac (bB (dq _) (by decide +kernel) c0 (ac (aa.call (gQ _) (gR _) (aM.fn (oj.mono (by decide))) (ac aa.loc ai)) ai)) ai)))
 ao)
def sx:TP:=bW 1 [] 0 zL
theorem Gx {z}:bJ (aP z) 3 218 sx:=
 br (n:=1) (ps:=["value"]) (rest:=[]) ⟨rfl,by rfl,rfl,rfl,rfl⟩ (bM λ_ _ X=>aaq rfl) C8
noncomputable abbrev G4:List Str:=["value","tree","total","node"]
abbrev u6:TS:=(aj (aX 2 (aF j5 (ad (af 2) (ad (aF gK (ad (aF gc (ad (af 1) (ad (af 3) ak))) ak)) ak))))
 az)
abbrev CY:TS:=
 (aj (aX 2 (aF eI (ad (tK (.int 0)) ak)))
 (aj (eO (b9 (aF jZ (ad (af 0) ak))) (b8 3) u6)
 (aj (aS (af 2))
 az)))
theorem Fu {z}:ah (aP z) 4 (cF 36) G4 (cO 36) CY:=
 (ag (au.set (i:=2) (aa.call (d9 _) (eu _) (aM.fn (gj.mono (by decide))) (ac aq ai)))
 (ag (dn (bU (aa.call (gQ _) (gR _) (aM.fn (oj.mono (by decide))) (ac aa.loc ai))) (fY.name (i:=3)) (ag (au.set (i:=2) (aa.call (KG _) (KE _) (aM.fn (Li.mono (by decide))) (ac aa.loc (ac (aa.call (yU _) (yZ _) (aM.fn (yw.mono (by decide))) (ac (aa.call (jz _) (jF _) (aM.fn (jG.mono (by decide))) (ac aa.loc (ac aa.loc ai))) ai)) ai))))
 ao))
 (ag (aE aa.loc)
 ao)))
def vZ:TP:=bW 2 [] 2 CY
theorem Im {z}:bJ (aP z) 5 225 vZ:=
 br (n:=2) (ps:=["value","tree"]) (rest:=["total","node"]) ⟨rfl,by rfl,rfl,rfl,rfl⟩ (bM λ_ _ _ X=>aaq rfl) Fu
noncomputable abbrev Bj:List Str:=["arguments","context","nodes"]
abbrev uP:TS:=
 (aj (bX (bT (ar bL (af 0) (be ak))) (aj (aS (cC 313 "node" (af 1)))
 az) az)
 (aj (aX 2 (aF jZ (ad (ar aN (af 0) (tK (.int 0))) ak)))
 (aj (aS (fh (bT (ar ia (af 2) (be ak))) (ar aN (af 2) (tK (.int 0))) (tK .none)))
 az)))
theorem Ad {z}:ah (aP z) 1 (cF 37) Bj (cO 37) uP:=
 (ag (aZ (aC aa.loc (aY ai) bc) (ag (aE (bn aa.loc (dj _ _) (bO _) (jW _) rfl))
 ao) ao)
 (ag (au.set (i:=2) (aa.call (gQ _) (gR _) (aM.fn (oj.mono (by decide))) (ac (aa.sub aa.loc aq) ai)))
 (ag (aE (cA (aC aa.loc (aY ai) ii) (aa.sub aa.loc aq) bo))
 ao)))
def iW:TP:=bW 2 [] 1 uP
theorem Bq {z}:bJ (aP z) 2 232 iW:=
 br (n:=2) (ps:=["arguments","context"]) (rest:=["nodes"]) ⟨rfl,by rfl,rfl,rfl,rfl⟩ (bM λ_ _ _ X=>aaq rfl) Ad
noncomputable abbrev Bh:List Str:=["part","node","tree","told"]
abbrev u5:TS:=
 (aj (bX (bT (ar mR (af 1) (tK .none))) (aj (aS (tK (.str "")))
 az) az)
 (aj (bX (bT (ar bL (af 0) (tK (.str "name")))) (aj (aX 3 (bf 524 kY (af 2) (ad (af 1) ak)))
 az) (aj (aX 3 (fh (bT (ar bL (af 0) (tK (.str "local-name")))) (bf 524 m9 (af 2) (ad (af 1) ak)) (bf 524 pP (af 2) (ad (af 1) ak))))
 az))
 (aj (aS (fh (bT (ar mR (af 3) (tK .none))) (tK (.str "")) (af 3)))
 az)))
theorem Ax {z}:ah (aP z) 2 (cF 38) Bh (cO 38) u5:=
 (ag (aZ (aC aa.loc bo jD) (ag (aE aw)
 ao) ao)
 (ag (aZ (aC aa.loc aw bc) (ag (au.set (i:=3) (aQ aa.loc (ac aa.loc ai) (aM.fn (sY.mono (by decide))) (aW _ _) (r5 _) (sH _) (tP _) sB))
 ao) (ag (au.set (i:=3) (cA (aC aa.loc aw bc) (aQ aa.loc (ac aa.loc ai) (aM.fn (Ae.mono (by decide))) (aW _ _) (As _) (An _) (Aa _) Ao) (aQ aa.loc (ac aa.loc ai) (aM.fn (DL.mono (by decide))) (aW _ _) (Ec _) (DE _) (Dr _) DI)))
 ao))
 (ag (aE (cA (aC aa.loc bo jD) aw aa.loc))
 ao)))
def iY:TP:=bW 3 [] 1 u5
theorem BR {z}:bJ (aP z) 3 239 iY:=
 br (n:=3) (ps:=["part","node","tree"]) (rest:=["told"]) ⟨rfl,by rfl,rfl,rfl,rfl⟩ (bM λ_ _ _ _ X=>aaq rfl) Ax
noncomputable abbrev DD:List Str:=["value","tree","found","node"]
abbrev qV:TS:=(aj (aX 2 (ar cM (af 2) (aF i7 (ad (aF gc (ad (af 1) (ad (af 3) ak))) ak))))
 az)
abbrev wY:TS:=
 (aj (bX (oJ (bT (pM yj (af 0)))) (aj (aS (aF i7 (ad (aF nA (ad (af 0) (ad (af 1) ak))) ak)))
 az) az)
 (aj (aX 2 (be ak))
 (aj (eO (b9 (af 0)) (b8 3) qV)
 (aj (aS (af 2))
 az))))
theorem Bu {z}:ah (aP z) 5 (cF 39) DD (cO 39) wY:=
 (ag (aZ (nz (aJ.val (qK aa.loc wa (i9 _) (mG _) (by decide +kernel)))) (ag (aE (aa.call (pn _) (pA _) (aM.fn (oY.mono (by decide))) (ac (aa.call (wq _) (wt _) (aM.fn (wO.mono (by decide))) (ac aa.loc (ac aa.loc ai))) ai)))
 ao) ao)
 (ag (au.set (i:=2) (aY ai))
 (ag (dn (bU aa.loc) (fY.name (i:=3)) (ag (au.set (i:=2) (aU aa.loc (aa.call (pn _) (pA _) (aM.fn (oY.mono (by decide))) (ac (aa.call (jz _) (jF _) (aM.fn (jG.mono (by decide))) (ac aa.loc (ac aa.loc ai))) ai)) cL))
 ao))
 (ag (aE aa.loc)
 ao))))
def iB:TP:=bW 2 [] 2 wY
theorem DW {z}:bJ (aP z) 6 246 iB:=
 br (n:=2) (ps:=["value","tree"]) (rest:=["found","node"]) ⟨rfl,by rfl,rfl,rfl,rfl⟩ (bM λ_ _ _ X=>aaq rfl) Bu
noncomputable abbrev sr:List Str:=["value","context","tree","found","root","text","node"]
abbrev gx:TS:=(aj (aX 6 (cr .dict JS (cC 313 "ids" (af 1)) (ad (af 5) ak)))
 (aj (bX (dz (bT (ar fH (af 6) (tK .none))) (dz (bT (ar (ic true) (af 6) (af 3))) (dz (bT (ar bL (bf 524 gs (af 2) (ad (af 6) ak)) (af 4))) fV))) (aj (bY (cr .list bx (af 3) (ad (af 6) ak)))
 az) az)
 az))
abbrev mc:TS:=
 (aj (c8 [3,2] (bl (ad (cC 313 "tree" (af 1)) (ad (be ak) ak))))
 (aj (aX 4 (bf 524 gs (af 2) (ad (cC 313 "node" (af 1)) ak)))
 (aj (eO (b9 (aF iB (ad (af 0) (ad (af 2) ak)))) (b8 5) gx)
 (aj (aS (aF mu (ad (af 2) (ad (af 3) ak))))
 az))))
theorem rJ {z}:ah (aP z) 6 (cF 40) sr (cO 40) mc:=
 (ag (cP (is:=[3,2]) (xs:=["tree","found"]) (aV (ac (bn aa.loc (dj _ _) (bO _) (eB _) rfl) (ac (aY ai) ai))) (.cons (i:=3) rfl (.cons (i:=2) rfl .nil)))
 (ag (au.set (i:=4) (aQ aa.loc (ac (bn aa.loc (dj _ _) (bO _) (jW _) rfl) ai) (aM.fn (nC.mono (by decide))) (aW _ _) (nL _) (nO _) (nW _) n8))
 (ag (dn (bU (aa.call (DK _) (DA _) (aM.fn (DW.mono (by decide))) (ac aa.loc (ac aa.loc ai)))) (fY.name (i:=5)) (ag (au.set (i:=6) (ba (k:=.dict) (bn aa.loc (dj _ _) (bO _) (yE _) rfl) (ac aa.loc ai) Fd afT ahv))
 (ag (aZ (db (bp (aC aa.loc bo fF) (bp (aC aa.loc aa.loc lG) (bp (aC (aQ aa.loc (ac aa.loc ai) (aM.fn (nC.mono (by decide))) (aW _ _) (nL _) (nO _) (nW _) n8) aa.loc bc) dh)))) (ag (cg (ba (k:=.list) aa.loc (ac aa.loc ai) cf abp abq))
 ao) ao)
 ao)))
 (ag (aE (aa.call (Ds _) (Dy _) (aM.fn (DZ.mono (by decide))) (ac aa.loc (ac aa.loc ai))))
 ao))))
def fR:TP:=bW 2 [] 5 mc
theorem tI {z}:bJ (aP z) 7 253 fR:=
 br (n:=2) (ps:=["value","context"]) (rest:=["tree","found","root","text","node"]) ⟨rfl,by rfl,rfl,rfl,rfl⟩ (bM λ_ _ _ X=>aaq rfl) rJ
noncomputable abbrev yT:List Str:=["node","tree","attribute"]
abbrev nc:TS:=(aj (bX (bT (ar bL (bf 524 kY (af 1) (ad (af 2) ak)) (tK (.str "xml:lang")))) (aj (aS (bf 524 iv (af 1) (ad (af 2) ak)))
 az) az)
 az)
abbrev mT:TB:=(bT (ar fH (af 0) (tK .none)))
abbrev jj:TS:=(aj (bX (bT (ar bL (bf 524 gP (af 1) (ad (af 0) ak)) (tK (.str "element")))) (aj (eO (b9 (bf 524 fT (af 1) (ad (af 0) ak))) (b8 2) nc)
 az) az)
 (aj (aX 0 (bf 524 gL (af 1) (ad (af 0) ak)))
 az))
abbrev qQ:TS:=
 (aj (f2 mT jj)
 (aj (aS (tK .none))
 az))
theorem xE {z}:ah (aP z) 2 (cF 41) yT (cO 41) qQ:=
 (ag (eT (aC aa.loc bo fF) (ag (aZ (aC (aQ aa.loc (ac aa.loc ai) (aM.fn (j9.mono (by decide))) (aW _ _) (j7 _) (kh _) (jK _) jX) aw bc) (ag (dn (bU (aQ aa.loc (ac aa.loc ai) (aM.fn (lK.mono (by decide))) (aW _ _) (lM _) (lB _) (lq _) lu)) (fY.name (i:=2)) (ag (aZ (aC (aQ aa.loc (ac aa.loc ai) (aM.fn (sY.mono (by decide))) (aW _ _) (r5 _) (sH _) (tP _) sB) aw bc) (ag (aE (aQ aa.loc (ac aa.loc ai) (aM.fn (l5.mono (by decide))) (aW _ _) (lU _) (lZ _) (lP _) lX))
 ao) ao)
 ao))
 ao) ao)
 (ag (au.set (i:=0) (aQ aa.loc (ac aa.loc ai) (aM.fn (pu.mono (by decide))) (aW _ _) (pq _) (oU _) (o4 _) o8))
 ao)))
 (ag (aE bo)
 ao))
def lV:TP:=bW 2 [] 1 qQ
theorem xZ {z}:bJ (aP z) 3 260 lV:=
 br (n:=2) (ps:=["node","tree"]) (rest:=["attribute"]) ⟨rfl,by rfl,rfl,rfl,rfl⟩ (bM λ_ _ _ X=>aaq rfl) xE
noncomputable abbrev Iy:List Str:=["text","context","told"]
abbrev CK:TS:=
 (aj (aX 2 (aF lV (ad (cC 313 "node" (af 1)) (ad (cC 313 "tree" (af 1)) ak))))
 (aj (bX (bT (ar mR (af 2) (tK .none))) (aj (aS (tK (.bool false)))
 az) az)
 (aj (c8 [0,2] (bl (ad (cr .str pg (af 2) ak) (ad (cr .str pg (af 0) ak) ak))))
 (aj (aS (Bb (ar bL (af 2) (af 0)) (ar bL (iV (af 2) (tK .none) (ar cM (aF dP (ad (af 0) ak)) (tK (.int 1)))) (ar cM (af 0) (tK (.str "-"))))))
 az))))
theorem Gj {z}:ah (aP z) 3 (cF 42) Iy (cO 42) CK:=
 (ag (au.set (i:=2) (aa.call (yx _) (yH _) (aM.fn (xZ.mono (by decide))) (ac (bn aa.loc (dj _ _) (bO _) (jW _) rfl) (ac (bn aa.loc (dj _ _) (bO _) (eB _) rfl) ai))))
 (ag (aZ (aC aa.loc bo jD) (ag (aE dl)
 ao) ao)
 (ag (cP (is:=[0,2]) (xs:=["told","text"]) (aV (ac (ba (k:=.str) aa.loc ai nM aek ael) (ac (ba (k:=.str) aa.loc ai nM aek ael) ai))) (.cons (i:=0) rfl (.cons (i:=2) rfl .nil)))
 (ag (aE (Fe (fm aa.loc aa.loc bc) (fm (dm aa.loc dA.none (dA.some (aU (bB (dq _) (by decide +kernel) c0 (ac aa.loc ai)) aq cL))) (aU aa.loc aw cL) bc)))
 ao))))
def qE:TP:=bW 2 [] 1 CK
theorem It {z}:bJ (aP z) 4 267 qE:=
 br (n:=2) (ps:=["text","context"]) (rest:=["told"]) ⟨rfl,by rfl,rfl,rfl,rfl⟩ (bM λ_ _ _ X=>aaq rfl) Gj
noncomputable abbrev wA:List Str:=["name","arguments","context"]
abbrev oO:TS:=
 (aj (bX (bT (ar bL (af 0) (tK (.str "last")))) (aj (aS (aF eI (ad (cC 313 "size" (af 2)) ak)))
 az) az)
 (aj (bX (bT (ar bL (af 0) (tK (.str "position")))) (aj (aS (aF eI (ad (cC 313 "position" (af 2)) ak)))
 az) az)
 (aj (bX (bT (ar bL (af 0) (tK (.str "count")))) (aj (aS (aF sx (ad (ar aN (af 1) (tK (.int 0))) ak)))
 az) az)
 (aj (bX (bT (ar bL (af 0) (tK (.str "sum")))) (aj (aS (aF vZ (ad (ar aN (af 1) (tK (.int 0))) (ad (cC 313 "tree" (af 2)) ak))))
 az) az)
 (aj (bX (bT (ar bL (af 0) (tK (.str "id")))) (aj (aS (aF fR (ad (ar aN (af 1) (tK (.int 0))) (ad (af 2) ak))))
 az) az)
 (aj (bX (bT (ar bL (af 0) (tK (.str "lang")))) (aj (aS (aF qE (ad (aF nA (ad (ar aN (af 1) (tK (.int 0))) (ad (cC 313 "tree" (af 2)) ak))) (ad (af 2) ak))))
 az) az)
 (aj (aS (aF iY (ad (af 0) (ad (aF iW (ad (af 1) (ad (af 2) ak))) (ad (cC 313 "tree" (af 2)) ak)))))
 az)))))))
theorem vM {z}:ah (aP z) 7 (cF 43) wA (cO 43) oO:=
 (ag (aZ (aC aa.loc aw bc) (ag (aE (aa.call (d9 _) (eu _) (aM.fn (gj.mono (by decide))) (ac (bn aa.loc (dj _ _) (bO _) (wE _) rfl) ai)))
 ao) ao)
 (ag (aZ (aC aa.loc aw bc) (ag (aE (aa.call (d9 _) (eu _) (aM.fn (gj.mono (by decide))) (ac (bn aa.loc (dj _ _) (bO _) (rG _) rfl) ai)))
 ao) ao)
 (ag (aZ (aC aa.loc aw bc) (ag (aE (aa.call (xU _) (wl _) (aM.fn (Gx.mono (by decide))) (ac (aa.sub aa.loc aq) ai)))
 ao) ao)
 (ag (aZ (aC aa.loc aw bc) (ag (aE (aa.call (zq _) (zo _) (aM.fn (Im.mono (by decide))) (ac (aa.sub aa.loc aq) (ac (bn aa.loc (dj _ _) (bO _) (eB _) rfl) ai))))
 ao) ao)
 (ag (aZ (aC aa.loc aw bc) (ag (aE (aa.call (s8 _) (si _) (aM.fn (tI.mono (by decide))) (ac (aa.sub aa.loc aq) (ac aa.loc ai))))
 ao) ao)
 (ag (aZ (aC aa.loc aw bc) (ag (aE (aa.call (GZ _) (HU _) (aM.fn (It.mono (by decide))) (ac (aa.call (wq _) (wt _) (aM.fn (wO.mono (by decide))) (ac (aa.sub aa.loc aq) (ac (bn aa.loc (dj _ _) (bO _) (eB _) rfl) ai))) (ac aa.loc ai))))
 ao) ao)
 (ag (aE (aa.call (s7 _) (tB _) (aM.fn (BR.mono (by decide))) (ac aa.loc (ac (aa.call (sz _) (tV _) (aM.fn (Bq.mono (by decide))) (ac aa.loc (ac aa.loc ai))) (ac (bn aa.loc (dj _ _) (bO _) (eB _) rfl) ai)))))
 ao)))))))
def bF:TP:=bW 3 [] 0 oO
theorem j6 {z}:bJ (aP z) 8 274 bF:=
 br (n:=3) (ps:=["name","arguments","context"]) (rest:=[]) ⟨rfl,by rfl,rfl,rfl,rfl⟩ (bM λ_ _ _ _ X=>aaq rfl) vM
noncomputable abbrev De:List Str:=["script","k","cell","big","mixed"]
abbrev pX:TS:=
 (aj (aX 2 (tK (.int 0)))
 (aj (bX (bT (ar (bw λa b=>decide (a < b)) (af 1) (aF dP (ad (af 0) ak)))) (aj (aX 2 (ar aN (af 0) (af 1)))
 az) az)
 (aj (aX 3 (aF FK (ad (aF eJ (ad (af 2) ak)) (ad (aF eJ (ad (ar (bh (· - ·) mq) (ir fP (tK (.int 1))) (af 2)) ak)) ak))))
 (aj (aX 4 (ar (bh adb (λ_ b=>b≠0)) (aF eJ (ad (ar (bh (· * ·) acg) (ar cM (ar cM (ar cM (ar (bh adb (λ_ b=>b≠0)) (aF eJ (ad (af 3) ak)) (tK (.int 2147483629))) (ar (bh (· * ·) acg) (ar (bh (· * ·) acg) (tK (.int 7919)) (af 1)) (af 1))) (ar (bh (· * ·) acg) (tK (.int 31)) (af 1))) (tK (.int 17))) (tK (.int 48271))) ak)) (tK (.int 2147483647))))
 (aj (aS (be (ad (ar (bh (· * ·) acg) (af 3) (aF eJ (ad (ar (bw λa b=>decide (a ≥ b)) (af 3) (ar (bh (λa n=>a ^ n.toNat) λa n=>0<=n/\n<=1000000/\a.natAbs < 2 ^ 64) (tK (.int 10)) (tK (.int 18)))) ak))) (ad (af 4) ak))))
 az)))))
theorem Cy {z}:ah (aP z) 0 (cF 51) De (cO 51) pX:=
 (ag (au.set (i:=2) aq)
 (ag (aZ (aC aa.loc (bB (dq _) (by decide +kernel) c0 (ac aa.loc ai)) lm) (ag (au.set (i:=2) (aa.sub aa.loc aa.loc))
 ao) ao)
 (ag (au.set (i:=3) (bB (Mi _) (by decide +kernel) Lg (ac (cG (ie _) (by decide +kernel) fZ (ac aa.loc ai)) (ac (cG (ie _) (by decide +kernel) fZ (ac (aU (e9 aq eZ) aa.loc mB) ai)) ai))))
 (ag (au.set (i:=4) (aU (cG (ie _) (by decide +kernel) fZ (ac (aU (aU (aU (aU (aU (cG (ie _) (by decide +kernel) fZ (ac aa.loc ai)) aq ju) (aU (aU aq aa.loc fz) aa.loc fz) cL) (aU aq aa.loc fz) cL) aq cL) aq fz) ai)) aq ju))
 (ag (aE (aY (ac (aU aa.loc (cG (ie _) (by decide +kernel) fZ (ac (fm aa.loc (aU aq aq E0) MD) ai)) fz) (ac aa.loc ai))))
 ao)))))
def pZ:TP:=bW 2 [] 3 pX
theorem Dl {z}:bJ (aP z) 1 535 pZ:=
 br (n:=2) (ps:=["script","k"]) (rest:=["cell","big","mixed"]) ⟨rfl,by rfl,rfl,rfl,rfl⟩ (bM λ_ _ _ X=>aaq rfl) Cy
noncomputable abbrev Ei:List Str:=["source","top","drawn"]
abbrev xz:TS:=
 (aj (bX (bT (ar (bw λa b=>decide (a > b)) (ar aN (af 0) (tK (.int 0))) (tK (.int 0)))) (aj (aX 2 (ar (bh adb (λ_ b=>b≠0)) (aF eJ (ad (ar aN (af 0) (tK (.int 0))) ak)) (af 1)))
 (aj (AA (af 0) (tK (.int 0)) (ar (bh af7 t9) (ar aN (af 0) (tK (.int 0))) (af 1)))
 (aj (aS (af 2))
 az))) az)
 (aj (AA (af 0) (tK (.int 1)) (ar (bh adb (λ_ b=>b≠0)) (aF eJ (ad (ar cM (ar (bh (· * ·) acg) (ar aN (af 0) (tK (.int 1))) (tK (.int 39373))) (tK (.int 7))) ak)) (tK (.int 2147483647))))
 (aj (aS (ar (bh adb (λ_ b=>b≠0)) (aF eJ (ad (ar (bh af7 t9) (ar (bh adb (λ_ b=>b≠0)) (aF eJ (ad (ar (bh (· * ·) acg) (ar aN (af 0) (tK (.int 1))) (ar aN (af 0) (tK (.int 1)))) ak)) (tK (.int 2147483629))) (tK (.int 32))) ak)) (af 1)))
 az)))
theorem Cr {z}:ah (aP z) 0 (cF 52) Ei (cO 52) xz:=
 (ag (aZ (aC (aa.sub aa.loc aq) aq mZ) (ag (au.set (i:=2) (aU (cG (ie _) (by decide +kernel) fZ (ac (aa.sub aa.loc aq) ai)) aa.loc ju))
 (ag (zY aa.loc aq (aU (aa.sub aa.loc aq) aa.loc oW))
 (ag (aE aa.loc)
 ao))) ao)
 (ag (zY aa.loc aq (aU (cG (ie _) (by decide +kernel) fZ (ac (aU (aU (aa.sub aa.loc aq) aq fz) aq cL) ai)) aq ju))
 (ag (aE (aU (cG (ie _) (by decide +kernel) fZ (ac (aU (aU (cG (ie _) (by decide +kernel) fZ (ac (aU (aa.sub aa.loc aq) (aa.sub aa.loc aq) fz) ai)) aq ju) aq oW) ai)) aa.loc ju))
 ao)))
def cy:TP:=bW 2 [] 1 xz
theorem dB {z}:bJ (aP z) 1 542 cy:=
 br (n:=2) (ps:=["source","top"]) (rest:=["drawn"]) ⟨rfl,by rfl,rfl,rfl,rfl⟩ (bM λ_ _ _ X=>aaq rfl) Cr
noncomputable abbrev Ge:List Str:=["source","things"]
abbrev zK:TS:=
 (aj (aS (ar aN (af 1) (aF cy (ad (af 0) (ad (aF dP (ad (af 1) ak)) ak)))))
 az)
theorem Ef {z}:ah (aP z) 1 (cF 53) Ge (cO 53) zK:=
 (ag (aE (aa.sub aa.loc (aa.call (dc _) (df _) (aM.fn (dB.mono (by decide))) (ac aa.loc (ac (bB (dq _) (by decide +kernel) c0 (ac aa.loc ai)) ai)))))
 ao)
def cx:TP:=bW 2 [] 0 zK
theorem eS {z}:bJ (aP z) 2 549 cx:=
 br (n:=2) (ps:=["source","things"]) (rest:=[]) ⟨rfl,by rfl,rfl,rfl,rfl⟩ (bM λ_ _ _ X=>aaq rfl) Ef
noncomputable abbrev yp:List Str:=["source","tree","rows","around","name","local","uri","at","here","told","space","made"]
abbrev qO:TS:=
 (aj (vP [4,5,6] (aF cx (ad (af 0) (ad (be (ad (bl (ad (tK (.str "a")) (ad (tK (.str "a")) (ad (tK (.str "")) ak)))) (ad (bl (ad (tK (.str "b")) (ad (tK (.str "b")) (ad (tK (.str "")) ak)))) (ad (bl (ad (tK (.str "p:a")) (ad (tK (.str "a")) (ad (tK (.str "urn:p")) ak)))) ak)))) ak))))
 (aj (bY (cr .list bx (af 2) (ad (be (ad (bf 524 ee (af 1) (ad (ar aN (ar aN (af 2) (af 3)) (tK (.int 0))) (ad (af 4) (ad (af 6) (ad (af 5) ak))))) (ad (tK (.str "element")) (ad (af 4) (ad (af 5) (ad (af 6) (ad (tK (.str "")) (ad (af 3) ak)))))))) ak)))
 (aj (c8 [8,7] (bl (ad (ar (bh (· - ·) mq) (aF dP (ad (af 2) ak)) (tK (.int 1))) (ad (ar aN (ar aN (af 2) (ir fP (tK (.int 1)))) (tK (.int 0))) ak))))
 (aj (bX (bT (ar bL (aF cy (ad (af 0) (ad (tK (.int 2)) ak))) (tK (.int 0)))) (aj (aX 9 (aF cx (ad (af 0) (ad (be (ad (tK (.str "1")) (ad (tK (.str "2.5")) (ad (tK (.str "x")) ak)))) ak))))
 (aj (bY (cr .list bx (af 2) (ad (be (ad (bf 524 b0 (af 1) (ad (af 8) (ad (tK (.str "n")) (ad (tK (.str "")) (ad (tK (.str "n")) (ad (af 9) ak)))))) (ad (tK (.str "attribute")) (ad (tK (.str "n")) (ad (tK (.str "n")) (ad (tK (.str "")) (ad (af 9) (ad (af 7) ak)))))))) ak)))
 az)) az)
 (aj (bX (bT (ar bL (aF cy (ad (af 0) (ad (tK (.int 2)) ak))) (tK (.int 0)))) (aj (c8 [10,9] (bl (ad (aF cx (ad (af 0) (ad (be (ad (tK (.str "en")) (ad (tK (.str "EN-us")) (ad (tK (.str "fr")) (ad (tK (.str "enx")) ak))))) ak))) (ad (tK (.str "http://www.w3.org/XML/1998/namespace")) ak))))
 (aj (aX 11 (bf 524 b0 (af 1) (ad (af 8) (ad (tK (.str "xml:lang")) (ad (af 10) (ad (tK (.str "lang")) (ad (af 9) ak)))))))
 (aj (bY (cr .list bx (af 2) (ad (be (ad (af 11) (ad (tK (.str "attribute")) (ad (tK (.str "xml:lang")) (ad (tK (.str "lang")) (ad (af 10) (ad (af 9) (ad (af 7) ak)))))))) ak)))
 az))) az)
 (aj (aS (af 7))
 az))))))
theorem xq {z}:ah (aP z) 5 (cF 54) yp (cO 54) qO:=
 (ag (C6 (is:=[4,5,6]) (aa.call (dZ _) (d4 _) (aM.fn (eS.mono (by decide))) (ac aa.loc (ac (aY (ac (aV (ac aw (ac aw (ac aw ai)))) (ac (aV (ac aw (ac aw (ac aw ai)))) (ac (aV (ac aw (ac aw (ac aw ai)))) ai)))) ai))) (.cons (i:=4) rfl (.cons (i:=5) rfl (.cons (i:=6) rfl .nil))))
 (ag (cg (ba (k:=.list) aa.loc (ac (aY (ac (aQ aa.loc (ac (aa.sub (aa.sub aa.loc aa.loc) aq) (ac aa.loc (ac aa.loc (ac aa.loc ai)))) (aM.fn (gX.mono (by decide))) (aW _ _) (g5 _) (gS _) (gZ _) g4) (ac aw (ac aa.loc (ac aa.loc (ac aa.loc (ac aw (ac aa.loc ai)))))))) ai) cf abp abq))
 (ag (cP (is:=[8,7]) (xs:=["at","here"]) (aV (ac (aU (bB (dq _) (by decide +kernel) c0 (ac aa.loc ai)) aq mB) (ac (aa.sub (aa.sub aa.loc (e9 aq eZ)) aq) ai))) (.cons (i:=8) rfl (.cons (i:=7) rfl .nil)))
 (ag (aZ (aC (aa.call (dc _) (df _) (aM.fn (dB.mono (by decide))) (ac aa.loc (ac aq ai))) aq bc) (ag (au.set (i:=9) (aa.call (dZ _) (d4 _) (aM.fn (eS.mono (by decide))) (ac aa.loc (ac (aY (ac aw (ac aw (ac aw ai)))) ai))))
 (ag (cg (ba (k:=.list) aa.loc (ac (aY (ac (aQ aa.loc (ac aa.loc (ac aw (ac aw (ac aw (ac aa.loc ai))))) (aM.fn (gq.mono (by decide))) (aW _ _) (f8 _) (gn _) (ge _) gk) (ac aw (ac aw (ac aw (ac aw (ac aa.loc (ac aa.loc ai)))))))) ai) cf abp abq))
 ao)) ao)
 (ag (aZ (aC (aa.call (dc _) (df _) (aM.fn (dB.mono (by decide))) (ac aa.loc (ac aq ai))) aq bc) (ag (cP (is:=[10,9]) (xs:=["told","space"]) (aV (ac (aa.call (dZ _) (d4 _) (aM.fn (eS.mono (by decide))) (ac aa.loc (ac (aY (ac aw (ac aw (ac aw (ac aw ai))))) ai))) (ac aw ai))) (.cons (i:=10) rfl (.cons (i:=9) rfl .nil)))
 (ag (au.set (i:=11) (aQ aa.loc (ac aa.loc (ac aw (ac aa.loc (ac aw (ac aa.loc ai))))) (aM.fn (gq.mono (by decide))) (aW _ _) (f8 _) (gn _) (ge _) gk))
 (ag (cg (ba (k:=.list) aa.loc (ac (aY (ac aa.loc (ac aw (ac aw (ac aw (ac aa.loc (ac aa.loc (ac aa.loc ai)))))))) ai) cf abp abq))
 ao))) ao)
 (ag (aE aa.loc)
 ao))))))
def gN:TP:=bW 4 [] 8 qO
theorem yr {z}:bJ (aP z) 6 556 gN:=
 br (n:=4) (ps:=["source","tree","rows","around"]) (rest:=["name","local","uri","at","here","told","space","made"]) ⟨rfl,by rfl,rfl,rfl,rfl⟩ (bM λ_ _ _ _ _ X=>aaq rfl) xq
noncomputable abbrev Eg:List Str:=["source","tree","rows","open_ones","turn","way","told","around","made"]
abbrev lO:TS:=(aj (bX (dz (bT (ar (bw λa b=>decide (a > b)) (aF dP (ad (af 3) ak)) (tK (.int 2)))) (dz (bT (ar bL (aF cy (ad (af 0) (ad (tK (.int 3)) ak))) (tK (.int 0)))) fV)) (aj (bY (cr .list Gb (af 3) ak))
 az) az)
 (aj (aX 5 (fh (bT (ar (bw λa b=>decide (a > b)) (aF dP (ad (af 3) ak)) (tK (.int 1)))) (aF cy (ad (af 0) (ad (tK (.int 5)) ak))) (tK (.int 0))))
 (aj (bX (bT (ar (bw λa b=>decide (a < b)) (af 5) (tK (.int 3)))) (aj (bY (cr .list bx (af 3) (ad (aF gN (ad (af 0) (ad (af 1) (ad (af 2) (ad (ar aN (af 3) (ir fP (tK (.int 1)))) ak))))) ak)))
 az) (aj (c8 [7,6] (bl (ad (aF cx (ad (af 0) (ad (be (ad (tK (.str "1")) (ad (tK (.str " 3 ")) (ad (tK (.str "-1")) (ad (tK (.str "b a")) (ad (tK (.str "q")) ak)))))) ak))) (ad (ar aN (af 3) (ir fP (tK (.int 1)))) ak))))
 (aj (aX 8 (fh (bT (ar bL (af 5) (tK (.int 3)))) (bf 524 fD (af 1) (ad (ar aN (ar aN (af 2) (af 7)) (tK (.int 0))) (ad (af 6) ak))) (bf 524 ec (af 1) (ad (ar aN (ar aN (af 2) (af 7)) (tK (.int 0))) (ad (af 6) ak)))))
 (aj (bY (cr .list bx (af 2) (ad (be (ad (af 8) (ad (ar aN (be (ad (tK (.str "text")) (ad (tK (.str "comment")) ak))) (ar (bh (· - ·) mq) (af 5) (tK (.int 3)))) (ad (tK (.str "")) (ad (tK (.str "")) (ad (tK (.str "")) (ad (af 6) (ad (af 7) ak)))))))) ak)))
 az))))
 az)))
abbrev wR:TS:=
 (aj (c8 [3,2] (bl (ad (be (ad (be (ad (bf 524 fG (af 1) ak) (ad (tK (.str "root")) (ad (tK (.str "")) (ad (tK (.str "")) (ad (tK (.str "")) (ad (tK (.str "")) (ad (tK .none) ak)))))))) ak)) (ad (be (ad (tK (.int 0)) ak)) ak))))
 (aj (eO (nj (ad (ar cM (tK (.int 3)) (aF cy (ad (af 0) (ad (tK (.int 4)) ak)))) ak)) (b8 4) lO)
 (aj (aS (af 2))
 az)))
theorem AW {z}:ah (aP z) 6 (cF 55) Eg (cO 55) wR:=
 (ag (cP (is:=[3,2]) (xs:=["rows","open_ones"]) (aV (ac (aY (ac (aY (ac (aQ aa.loc ai (aM.fn (jf.mono (by decide))) (aW _ _) (jc _) (jg _) (js _) jr) (ac aw (ac aw (ac aw (ac aw (ac aw (ac bo ai)))))))) ai)) (ac (aY (ac aq ai)) ai))) (.cons (i:=3) rfl (.cons (i:=2) rfl .nil)))
 (ag (dn (mz (ac (aU aq (aa.call (dc _) (df _) (aM.fn (dB.mono (by decide))) (ac aa.loc (ac aq ai))) cL) ai) (qe _)) (fY.name (i:=4)) (ag (aZ (db (bp (aC (bB (dq _) (by decide +kernel) c0 (ac aa.loc ai)) aq mZ) (bp (aC (aa.call (dc _) (df _) (aM.fn (dB.mono (by decide))) (ac aa.loc (ac aq ai))) aq bc) dh))) (ag (cg (ba (k:=.list) aa.loc ai EM aht ahu))
 ao) ao)
 (ag (au.set (i:=5) (cA (aC (bB (dq _) (by decide +kernel) c0 (ac aa.loc ai)) aq mZ) (aa.call (dc _) (df _) (aM.fn (dB.mono (by decide))) (ac aa.loc (ac aq ai))) aq))
 (ag (aZ (aC aa.loc aq lm) (ag (cg (ba (k:=.list) aa.loc (ac (aa.call (xA _) (w3 _) (aM.fn (yr.mono (by decide))) (ac aa.loc (ac aa.loc (ac aa.loc (ac (aa.sub aa.loc (e9 aq eZ)) ai))))) ai) cf abp abq))
 ao) (ag (cP (is:=[7,6]) (xs:=["told","around"]) (aV (ac (aa.call (dZ _) (d4 _) (aM.fn (eS.mono (by decide))) (ac aa.loc (ac (aY (ac aw (ac aw (ac aw (ac aw (ac aw ai)))))) ai))) (ac (aa.sub aa.loc (e9 aq eZ)) ai))) (.cons (i:=7) rfl (.cons (i:=6) rfl .nil)))
 (ag (au.set (i:=8) (cA (aC aa.loc aq bc) (aQ aa.loc (ac (aa.sub (aa.sub aa.loc aa.loc) aq) (ac aa.loc ai)) (aM.fn (vV.mono (by decide))) (aW _ _) (vS _) (vt _) (vT _) vz) (aQ aa.loc (ac (aa.sub (aa.sub aa.loc aa.loc) aq) (ac aa.loc ai)) (aM.fn (rC.mono (by decide))) (aW _ _) (rF _) (rq _) (ri _) rn)))
 (ag (cg (ba (k:=.list) aa.loc (ac (aY (ac aa.loc (ac (aa.sub (aY (ac aw (ac aw ai))) (aU aa.loc aq mB)) (ac aw (ac aw (ac aw (ac aa.loc (ac aa.loc ai)))))))) ai) cf abp abq))
 ao))))
 ao))))
 (ag (aE aa.loc)
 ao)))
def qi:TP:=bW 2 [] 7 wR
theorem C9 {z}:bJ (aP z) 7 563 qi:=
 br (n:=2) (ps:=["source","tree"]) (rest:=["rows","open_ones","turn","way","told","around","made"]) ⟨rfl,by rfl,rfl,rfl,rfl⟩ (bM λ_ _ _ X=>aaq rfl) AW
noncomputable abbrev Do:List Str:=["rows","at","found"]
abbrev lQ:TB:=(bT (ar fH (af 1) (tK .none)))
abbrev l3:TS:=(aj (bY (cr .list bx (af 2) (ad (af 1) ak)))
 (aj (aX 1 (ar aN (ar aN (af 0) (af 1)) (tK (.int 6))))
 az))
abbrev wk:TS:=
 (aj (aX 2 (be ak))
 (aj (f2 lQ l3)
 (aj (aS (af 2))
 az)))
theorem CT {z}:ah (aP z) 0 (cF 56) Do (cO 56) wk:=
 (ag (au.set (i:=2) (aY ai))
 (ag (eT (aC aa.loc bo fF) (ag (cg (ba (k:=.list) aa.loc (ac aa.loc ai) cf abp abq))
 (ag (au.set (i:=1) (aa.sub (aa.sub aa.loc aa.loc) aq))
 ao)))
 (ag (aE aa.loc)
 ao)))
def my:TP:=bW 2 [] 1 wk
theorem vc {z}:bJ (aP z) 1 570 my:=
 br (n:=2) (ps:=["rows","at"]) (rest:=["found"]) ⟨rfl,by rfl,rfl,rfl,rfl⟩ (bM λ_ _ _ X=>aaq rfl) CT
noncomputable abbrev A2:List Str:=["rows","at"]
abbrev yX:TE:=(ar aN (af 1) (tK (.int 5)))
abbrev yy:TB:=(dz (bT (ar bL (ar aN (af 1) (tK (.int 1))) (tK (.str "text")))) (dz (bT (ar (ic false) (af 2) (aF my (ad (af 3) (ad (af 0) ak))))) fV))
abbrev uR:TS:=
 (aj (bX (bT (ar (ic true) (ar aN (ar aN (af 0) (af 1)) (tK (.int 1))) (be (ad (tK (.str "element")) (ad (tK (.str "root")) ak))))) (aj (aS (ar aN (ar aN (af 0) (af 1)) (tK (.int 5))))
 az) az)
 (aj (aS (cr .str qx (tK (.str "")) (ad (c7 2 [1,0] (AC (ad (af 0) ak)) (iq [0,1]) yy yX) ak)))
 az))
theorem Al {z}:ah (aP z) 1 (cF 57) A2 (cO 57) uR:=
 (ag (aZ (aC (aa.sub (aa.sub aa.loc aa.loc) aq) (aY (ac aw (ac aw ai))) lG) (ag (aE (aa.sub (aa.sub aa.loc aa.loc) aq))
 ao) ao)
 (ag (aE (ba (k:=.str) aw (ac (ez (tgts:=["place","row"]) (cn:=["at","rows"]) (caps:=[1,0]) ⟨by rfl,by rfl,by rfl,by rfl,rfl,by rfl,by rfl,(xY (i:=0) (j:=1) (by decide +kernel) rfl rfl (by rfl) (by rfl)),(iz (db (bp (aC (aa.sub aa.loc aq) aw bc) (bp (aC aa.loc (aa.call (tH _) (tM _) (aM.fn (vc.mono (by decide))) (ac aa.loc (ac aa.loc ai))) mO) dh)))),(aa.sub aa.loc aq)⟩ (zZ (ac aa.loc ai) (tW _))) ai) vW afU afV))
 ao))
def fQ:TP:=bW 2 [] 0 uR
theorem j3 {z}:bJ (aP z) 2 575 fQ:=
 vN (n:=2) (ps:=["rows","at"]) (rest:=[]) (dVs:=[]) ⟨rfl,by rfl,rfl,rfl,rfl⟩ (bM λ_ _ _ X=>aaq rfl) rfl (λ_=>.nil) (by decide +kernel) (by rfl) (by decide +kernel) Al (λ_ _ _ h=>h)
noncomputable abbrev z9:List Str:=["text","told","plain","whole","many"]
abbrev g8:TE:=(af 0)
abbrev nX:TB:=(bT (ar (ic true) (af 0) (tK (.str "0123456789"))))
abbrev rT:TS:=
 (aj (aX 1 (cr .str Hj (af 0) (ad (tK (.str " ")) ak)))
 (aj (aX 2 (fh (bT (ar bL (iV (af 1) (tK .none) (tK (.int 1))) (tK (.str "-")))) (iV (af 1) (tK (.int 1)) (tK .none)) (af 1)))
 (aj (aX 3 (fh (bT (ar bL (iV (af 2) (ir fP (tK (.int 2))) (tK .none)) (tK (.str ".5")))) (iV (af 2) (tK .none) (ir fP (tK (.int 2)))) (af 2)))
 (aj (bX (lJ (bT (ar bL (af 3) (tK (.str "")))) (lJ (bT (ar ia (c7 1 [] (CJ (af 3)) (b8 0) nX g8) (be ak))) iw)) (aj (aS (tK .none))
 az) az)
 (aj (aX 4 (ar cM (ar (bh (· * ·) acg) (tK (.int 2)) (aF eJ (ad (af 3) ak))) (aF eJ (ad (ar ia (af 3) (af 2)) ak))))
 (aj (aS (fh (bT (ar bL (af 1) (af 2))) (af 4) (ar (bh (· - ·) mq) (tK (.int 0)) (af 4))))
 az))))))
theorem yd {z}:ah (aP z) 0 (cF 58) z9 (cO 58) rT:=
 (ag (au.set (i:=1) (ba (k:=.str) aa.loc (ac aw ai) HZ PySem.F.slot_str_strip PySem.F.type_str_strip))
 (ag (au.set (i:=2) (cA (aC (dm aa.loc dA.none (dA.some aq)) aw bc) (dm aa.loc (dA.some aq) dA.none) aa.loc))
 (ag (au.set (i:=3) (cA (aC (dm aa.loc (dA.some (e9 aq eZ)) dA.none) aw bc) (dm aa.loc dA.none (dA.some (e9 aq eZ))) aa.loc))
 (ag (aZ (db (eA (aC aa.loc aw bc) (eA (aC (ez (tgts:=["sign"]) (cn:=[]) (caps:=[]) ⟨by rfl,by rfl,by rfl,by rfl,rfl,by rfl,by rfl,(cY.name (i:=0) (by decide +kernel) rfl (by rfl)),(iz (aC aa.loc aw lG)),aa.loc⟩ (C4 aa.loc)) (aY ai) ii) k8))) (ag (aE bo)
 ao) ao)
 (ag (au.set (i:=4) (aU (aU aq (cG (ie _) (by decide +kernel) fZ (ac aa.loc ai)) fz) (cG (ie _) (by decide +kernel) fZ (ac (fm aa.loc aa.loc ii) ai)) cL))
 (ag (aE (cA (aC aa.loc aa.loc bc) aa.loc (aU aq aa.loc mB)))
 ao))))))
def f6:TP:=bW 1 [] 4 rT
theorem qS {z}:bJ (aP z) 1 580 f6:=
 br (n:=1) (ps:=["text"]) (rest:=["told","plain","whole","many"]) ⟨rfl,by rfl,rfl,rfl,rfl⟩ (bM λ_ _ X=>aaq rfl) yd
noncomputable abbrev Fn:List Str:=["texts","some"]
abbrev A5:TE:=(aF f6 (ad (af 0) ak))
abbrev zO:TS:=
 (aj (aX 1 (c7 1 [] (b9 (af 0)) (b8 0) d3 A5))
 (aj (bX (bT (ar (ic false) (tK .none) (af 1))) (aj (aS (bl (ad (tK (.int 0)) (ad (tK (.int 0)) ak))))
 az) az)
 (aj (aS (fh (bT (ar bL (ar (bh adb (λ_ b=>b≠0)) (aF xO (ad (af 1) ak)) (tK (.int 2))) (tK (.int 0)))) (bl (ad (ar (bh af7 t9) (aF xO (ad (af 1) ak)) (tK (.int 2))) (ad (tK (.int 1)) ak))) (bl (ad (aF xO (ad (af 1) ak)) (ad (tK (.int 2)) ak)))))
 az)))
theorem Db {z}:ah (aP z) 1 (cF 59) Fn (cO 59) zO:=
 (ag (iA (j:=1) (tgts:=["text"]) (cn:=[]) (caps:=[]) ⟨by rfl,by rfl,by rfl,by rfl,rfl,by rfl,by rfl,(cY.name (i:=0) (by decide +kernel) rfl (by rfl)),eV,(aa.call (pt _) (pB _) (aM.fn (qS.mono (by decide))) (ac aa.loc ai))⟩ (bU aa.loc) rfl (by rfl))
 (ag (aZ (aC bo aa.loc mO) (ag (aE (aV (ac aq (ac aq ai))))
 ao) ao)
 (ag (aE (cA (aC (aU (bB (Ci _) (by decide +kernel) x5 (ac aa.loc ai)) aq ju) aq bc) (aV (ac (aU (bB (Ci _) (by decide +kernel) x5 (ac aa.loc ai)) aq oW) (ac aq ai))) (aV (ac (bB (Ci _) (by decide +kernel) x5 (ac aa.loc ai)) (ac aq ai)))))
 ao)))
def jt:TP:=bW 1 [] 1 zO
theorem wZ {z}:bJ (aP z) 2 585 jt:=
 br (n:=1) (ps:=["texts"]) (rest:=["some"]) ⟨rfl,by rfl,rfl,rfl,rfl⟩ (bM λ_ _ X=>aaq rfl) Db
noncomputable abbrev Au:List Str:=["rows","at","asked","place","row","told"]
abbrev g9:TS:=(aj (bX (dz (bT (ar bL (ar aN (af 4) (tK (.int 2))) (tK (.str "xml:lang")))) (dz (bT (ar bL (ar aN (af 4) (tK (.int 6))) (af 3))) (dz (bT (ar bL (ar aN (ar aN (af 0) (af 3)) (tK (.int 1))) (tK (.str "element")))) fV))) (aj (c8 [2,5] (bl (ad (cr .str pg (ar aN (af 4) (tK (.int 5))) ak) (ad (cr .str pg (af 2) ak) ak))))
 (aj (aS (Bb (ar bL (af 5) (af 2)) (l6 (ar bL (ar aN (cr .str lE (af 5) (ad (tK (.str "-")) ak)) (tK (.int 0))) (af 2)) (ar (ic false) (tK (.str "-")) (af 5)))))
 az)) az)
 az)
abbrev n7:TS:=(aj (eO (b9 (af 0)) (b8 4) g9)
 az)
abbrev sW:TS:=
 (aj (eO (b9 (aF my (ad (af 0) (ad (af 1) ak)))) (b8 3) n7)
 (aj (aS (tK (.bool false)))
 az))
theorem yL {z}:ah (aP z) 1 (cF 60) Au (cO 60) sW:=
 (ag (dn (bU (aa.call (tH _) (tM _) (aM.fn (vc.mono (by decide))) (ac aa.loc (ac aa.loc ai)))) (fY.name (i:=3)) (ag (dn (bU aa.loc) (fY.name (i:=4)) (ag (aZ (db (bp (aC (aa.sub aa.loc aq) aw bc) (bp (aC (aa.sub aa.loc aq) aa.loc bc) (bp (aC (aa.sub (aa.sub aa.loc aa.loc) aq) aw bc) dh)))) (ag (cP (is:=[2,5]) (xs:=["told","asked"]) (aV (ac (ba (k:=.str) (aa.sub aa.loc aq) ai nM aek ael) (ac (ba (k:=.str) aa.loc ai nM aek ael) ai))) (.cons (i:=2) rfl (.cons (i:=5) rfl .nil)))
 (ag (aE (Fe (fm aa.loc aa.loc bc) (qJ (fm (aa.sub (ba (k:=.str) aa.loc (ac aw ai) sd afK afL) aq) aa.loc bc) (fm aw aa.loc mO))))
 ao)) ao)
 ao))
 ao))
 (ag (aE dl)
 ao))
def iy:TP:=bW 3 [] 3 sW
theorem Ah {z}:bJ (aP z) 2 592 iy:=
 br (n:=3) (ps:=["rows","at","asked"]) (rest:=["place","row","told"]) ⟨rfl,by rfl,rfl,rfl,rfl⟩ (bM λ_ _ _ _ X=>aaq rfl) yL
noncomputable abbrev wm:List aac:=[.ref 177,.type "Exception",.type "BaseException",.type "object"]
def Jd (h:Heap):Prop:=∀G:Prop,(∀nm q N bs RF sn sub ab col dd k0 k1 k2 k3 k5,h.get? 202=some (excClassObj nm q 202 N bs wm RF sn sub ab col dd k0 k1 k2 k3 k5 "Exception.__new__")->G)->G
noncomputable abbrev em (T:Addr):Obj:={ cls:=.ref 202,data:=.fields #[.ref T,.none,.none,.none,.bool false,.none] }
noncomputable abbrev l4 (rest:List aac):Obj:={ cls:=.type "tuple",data:=.seq rest.toArray }
structure pr (K:Frag):Prop where
 cls:∀G:Prop,(∀nm q N bs RF sn sub ab col dd k0 k1 k2 k3 k5,K.lookup 202=some (excClassObj nm q 202 N bs wm RF sn sub ab col dd k0 k1 k2 k3 k5 "Exception.__new__")->G)->G
 init:ab0 K (.ref 202) "__init__"=some (some (.ref 174))
 fn:typeIn K (.ref 174)=some (.type "function")
 call:specialIn K (.ref 202) "__call__"=some (some (.builtin "type.__call__"))
 inst:instIn K (.ref 202) (.type "type")=some true
 self:mroIn K 202 (.ref 202)=some true
 exc:mroIn K 202 (.type "Exception")=some true
 base:mroIn K 202 (.type "BaseException")=some true
 sets:ab0 K (.ref 202) "__setattr__"=some (some (.builtin "object.__setattr__"))
 msg:ab0 K (.ref 202) "message"=some none
 obj:mroIn K 202 (.type "object")=some true
 dict:(clsIn K 202).any (·.hasDict)=true
 cinit:findCls K (.type "Exception") (.type "type") "__init__"=some (.val (.builtin "Exception.__init__"))
 name:nsIn K aam ("Exception":Str)=some none
theorem Mz (w:aa9):pr (KK w):=⟨λ_ k=>k _ _ _ _ _ _ _ _ _ _ _ _ _ _ _ rfl,by rfl,by rfl,by rfl,by rfl,by rfl,by rfl,by rfl,by rfl,by rfl,by rfl,by rfl,by rfl,by rfl⟩
section
variable {prog:adh}{w:aa9}{A:abw}{R:afZ->aal->Prop}{h:Heap}{g:Array GenState}{d:Drawn}{t:Nat}{os:OsState}{K:Frag}
theorem Ma {rest:List aac}(hP:Jd h)(hq:R (.ok (.ret (.ref (h.objs.size+1)))) ⟨(h.push (l4 rest)).push (em h.objs.size),g,d,t,os⟩)(Wu:rest.length<=abD) :
  adA (abe prog w) A (.builtin "Exception.__new__" ⟨.ref 202::rest,[]⟩) R ⟨h,g,d,t,os⟩:=by
 refine hP _ λnm q N bs RF sn sub ab col dd k0 k1 k2 k3 k5 hC=>?_
 have F:=aeO
 have ae2:=F.ends
 have WV:(aeH 202::wm).contains (.type "Exception")=true:=by decide +kernel
 have hcA:(aeH 202::wm).contains (.type "AttributeError")=false:=by decide +kernel
 have hcN:(aeH 202::wm).contains (.type "NameError")=false:=by decide +kernel
 refine codeAny_builtinAt F.entry ?_
 unfold aei.«BaseException.__new__»
 refine PySem.wpAt_bind ?_
 show PySem.wpAt _ _ _ (stack >>= _) _ _ _
 refine PySem.wpAt_bind (PySem.wpAt_stack λp below=>ah2 ?_)
 wp_walk
 refine ah2 ?_
 rw [F.owner]
 repeat (first | with_reducible refine wpAny_madeHere_exc F.canon hC ?_ | with_reducible refine aey hC ?_ | (with_reducible refine agi hC ?_; first | rw [WV] | rw [hcA] | rw [hcN]) | wp_step)
 show R _ _
 rw [adO]
 exact hq
theorem JQ {M:ah5}{E:aac->aal->Prop}{rest:List aac}{Q:Unit->aal->Prop}(hP:Jd h)(hq:Q () ⟨h,g,d,t,os⟩):wpAny M A (ag2 "Exception.__new__" ⟨.ref 202::rest,[]⟩) Q E ⟨h,g,d,t,os⟩:=
 hP _ λnm q N bs RF sn sub ab col dd k0 k1 k2 k3 k5 hC=>wpAny_check_new_subU aeO (by decide +kernel) .base hC hq
theorem LM {rest:List aac}(X:K.In h)(P:pr K)(Wu:rest.length<=abD)
  (hq:adA (abe prog w) (A.under (.builtin "type.__call__" ⟨.ref 202::rest,[]⟩)) (.call (.ref 174) ⟨.ref (h.objs.size+1)::rest,[]⟩) (InitBack (h.objs.size+1) R) ⟨(h.push (l4 rest)).push (em h.objs.size),g,d,t,os⟩) :
  adA (abe prog w) A (.call (.ref 202) ⟨rest,[]⟩) R ⟨h,g,d,t,os⟩:=by
 have hP:Jd h:=λG k=>P.cls G λnm q N bs RF sn sub ab col dd k0 k1 k2 k3 k5 e=>k nm q N bs RF sn sub ab col dd k0 k1 k2 k3 k5 (X _ _ e)
 have hP':=hP
 refine hP' _ λnm q N bs RF sn sub ab col dd k0 k1 k2 k3 k5 hC=>?_
 have call:=looks_specialIn (M:=abe prog w) X P.call
 have typ:=looks_instIn (M:=abe prog w) X P.inst
 have self:=looks_mroIn (M:=abe prog w) X P.self
 have made:air (abe prog w) h (Bind.madeBy (.ref 202)) (some "Exception.__new__"):=λA Q E s k q=>by
  obtain⟨hh,g,d,t,os⟩:=s
  exact wpAny_madeBy_exc (k _ _ hC) q
 have hm:air (abe prog w) h (mroOf (.ref 202)) (.ref 202::wm):=λA Q E s k q=>by
  obtain⟨hh,g,d,t,os⟩:=s
  exact wpAny_mroOf_exc (k _ _ hC) q
 refine ahk ?_
 show wpAny _ _ (callAny (.ref 202) _) _ _ _
 refine nd_load hC ?_
 show wpAny _ _ (aiI (.ref 202) _) _ _ _
 unfold aiI
 refine aag (call.at ?_)
 dsimp only
 rw [tc_bind]
 refine aag (abb (aag (abb ?_)))
 refine abb (a:=Fin.again (.call (.builtin "type.__call__") ⟨.ref 202::rest,[]⟩)) (abi rfl ?_)
 refine codeAny_call_builtin_at (agx _ (by decide +kernel)) entry_typeCall (check_slot tc_kind tc_split typ (tc_args _ _ _) ?_)
 unfold aei.«type.__call__»
 repeat (first | with_reducible refine aeC ?_ | lk)
 refine codeAny_call_builtin_code (agx _ PySem.F.excBase_Exception.quiet) (JQ hP ?_)
 refine Ma hP ?_ Wu
 have k:∀b o,h.get? b=some o->((h.push (l4 rest)).push (em h.objs.size)).get? b=some o:=λb o e=>aao _ (aao _ e)
 have hx:((h.push (l4 rest)).push (em h.objs.size)).get? (h.objs.size+1)=some (em h.objs.size):=by heap_get
 have t1:air (abe prog w) ((h.push (l4 rest)).push (em h.objs.size)) (typeOf (.ref (h.objs.size+1))) (.ref 202):=(Looks.ld hx).andThen .now
 have s1:=self.keeps k
 have i1:=(looks_findIn (M:=abe prog w) X P.init).keeps k
 have b1:=(bind_fn (M:=abe prog w) X (.ref (h.objs.size+1)) P.fn).keeps k
 unfold isInstance callSpecial? specialOf
 repeat (first | with_reducible refine aeC ?_ | lk)
 refine aiA hq λr s' z=>?_
 rcases r with e | (v | _ | _ | _) <;> first | exact z | exact z.elim | skip
 obtain⟨rfl,z⟩:=z
 exact abb (abb z)
theorem LD {rest:List aac}{e T:Addr}(X:K.In h)(P:pr K)(he:h.get? e=some (em T))(Wu:rest.length<=abD)
  (hq:∀h',(∀b o,b≠e->h.get? b=some o->h'.get? b=some o)->h'.get? e=some (em h.objs.size)->R (.ok (.ret .none)) ⟨h',g,d,t,os⟩) :
  adA (abe prog w) A (.call (.builtin "Exception.__init__") ⟨.ref e::rest,[]⟩) R ⟨h,g,d,t,os⟩:=by
 have F:=aeO
 refine P.cls _ λnm q N bs RF sn sub ab col dd k0 k1 k2 k3 k5 Ub=>?_
 have hC:=X _ _ Ub
 have WV:(aeH 202::wm).contains (.type "Exception")=true:=by decide +kernel
 have ad7:=F.noStar
 refine af9 F.init.plain F.initEntry ?_
 simp only [ag2,F.initKind,F.initSplit,F.initRow]
 repeat (first | with_reducible refine aey he ?_ | with_reducible refine aey hC ?_ | (with_reducible refine agi hC ?_; rw [WV]) | wp_step)
 refine wpAny_onRaise ?_
 rw [show ∀(a b:String) (n:Nat),Bind.check ⟨.positional,"*","Exception",.self,[⟨"args",.varPos,false⟩]⟩ a b n (List.map (λx=>x.fst) ({ pos:=aeH e::rest }:Args).kw)=pure () from
  λa b n=>check_star_args _ _ _ _ _ _]
 refine abb ?_
 unfold aei.«BaseException.__init__»
 have W9:(h.push (l4 rest)).get? e=some (em T):=aao _ he
 wp_walk
 refine hq _ (λb o hb ho=>?_) ?_
 ·exact (adL _ _ (aef hb)).trans (aao _ ho)
 ·exact adf _ W9 rfl
theorem M4 {s:aal}{e T:Addr}{v:aac}{tk:Tok}(X:K.In s.heap)(P:pr K)(he:s.heap.get? e=some (em T))
  (hq:∀h' PV,(∀b o,b≠e->s.heap.get? b=some o->h'.get? b=some o)->(∃dx,h'.get? e=some { em T with dict:=dx })->R (.ok (.ret .none)) { s with heap:=h',toks:=PV }) :
  adA (abe prog w) A (.call (.builtin "object.__setattr__") ⟨[.ref e,.str ("message":Str) tk,v],[]⟩) R s:=by
 have I:InstAt s.heap e (em T) 202 none:=⟨he,rfl,rfl,trivial⟩
 have SF:=PySem.F.store_object
 refine P.cls _ λnm q N bs RF sn sub ab col dd k0 k1 k2 k3 k5 Ub=>?_
 have hm:air (abe prog w) s.heap (mroOf (.ref 202)) (.ref 202::wm):=by
  intro A Q E s' k q
  obtain⟨hh,g,d,t,os⟩:=s'
  exact wpAny_mroOf_exc (k _ _ (X _ _ Ub)) q
 have sub:air (abe prog w) s.heap (isInstance (.ref e) (.type "object")) true:=I.type.andThen (looks_mroIn X P.obj)
 refine af9 SF.slot.plain SF.entry (@check_slot (abe prog w) _ _ s "object.__setattr__" "object" "__setattr__" (.ref e) [.str ("message":Str) tk,v] [] _ SF.kind SF.split sub (SF.args (.ref e) (.str ("message":Str) tk) v) ?_)
 rw [osa_eq,refuse_eq]
 refine aag (aag (I.type.here (aag (hm.here ?_))))
 rw [refuseLoop_ref,refuseLoop_ref,PySem.F.store_Exception.passes]
 refine abb (aag (I.type.here (aag ((looks_findIn X P.msg).here (aag ((Looks.now:air _ _ (Builtin.ObjectAttr.storeTaker? none) none).here ?_))))))
 dsimp only
 obtain⟨cd,UU,Wl⟩:=any_some P.dict
 refine aag (abb (aag (aag (wpAny_loadPart he ?_))))
 dsimp only
 refine aag ((looks_clsIn X UU).here ?_)
 rw [Wl]
 have UV:(s.heap.push agm).get? e=some (em T):=aao _ he
 have Yp:e≠s.heap.objs.size:=abf (abn he)
 refine aag (wpAny_alloc (aag (wpAny_update UV (abb ?_))))
 dsimp only
 have SL:((s.heap.push agm).update e λo=>{ cls:=o.cls,dict:=some s.heap.objs.size,data:=o.data,slots:=o.slots }).get? e=some { em T with dict:=some s.heap.objs.size }:=adf _ UV rfl
 have hD:((s.heap.push agm).update e λo=>{ cls:=o.cls,dict:=some s.heap.objs.size,data:=o.data,slots:=o.slots }).get? s.heap.objs.size=some agm:=
  (adL _ _ Yp).trans (abC _ rfl)
 have hk:∀b o,b≠e->s.heap.get? b=some o->((s.heap.push agm).update e λo=>{ cls:=o.cls,dict:=some s.heap.objs.size,data:=o.data,slots:=o.slots }).get? b=some o:=λb o hb ho =>
  (adL _ _ (aef hb)).trans (aao _ ho)
 generalize ((s.heap.push agm).update e λo=>{ cls:=o.cls,dict:=some s.heap.objs.size,data:=o.data,slots:=o.slots })=PM at SL hD hk ⊢
 refine aag (abb (aag ?_))
 unfold nsSet
 refine aag (aag (aeb (abb (aag (wpAny_mkText (aag (wpAny_loadPart hD ?_)))))))
 dsimp only
 have c:(!(#[]:Array adE).any (·.key.isStr ("message":Str)) && (#[]:Array adE).any (·.refKey))=false:=by simp
 rw [aRefKeyMayBeTheName_at,c]
 refine wpAny_updatePart hD ?_
 generalize (if Str.cps ("message":Str) |>.isEmpty then 0 else reduceHash ((abe prog w).w.params.strHash (Str.cps ("message":Str))))=hh
 have e':Obj.putName ("message":Str) hh (.str ("message":Str) s.toks) v agm={ cls:=.type "dict",data:=.dict #[⟨hh,.str ("message":Str) s.toks,v⟩] 1 }:=by
  rw [Obj.putName_eq]; simp [Obj.putNameByArray]
 have D':=adf (Obj.putName ("message":Str) hh (.str ("message":Str) s.toks) v) hD (by rw [e']; rfl)
 rw [e'] at D'
 refine aag (wpAny_lookBehind D' (pastItsLine_dict (by rw [agL]; show 1<=_; decide)) ?_)
 refine abb (hq _ _ (λb o hb ho=>?_) ⟨some s.heap.objs.size,?_⟩)
 ·exact (adL _ _ (abW (abn ho))).trans (hk b o hb ho)
 ·exact (adL _ _ (aef Yp)).trans SL
theorem M9 {s:aal}{E:aac->aal->Prop}{e T:Addr}{v:aac}{Q:Unit->aal->Prop}(X:K.In s.heap)(P:pr K)(he:s.heap.get? e=some (em T))
  (hq:∀h' PV,(∀b o,b≠e->s.heap.get? b=some o->h'.get? b=some o)->(∃dx,h'.get? e=some { em T with dict:=dx })->Q () { s with heap:=h',toks:=PV }) :
  wpAny (abe prog w) A (setAttr (.ref e) "message" v) Q E s:=
 set_plain (od:=none) X ⟨he,rfl,rfl,trivial⟩ P.sets (M4 (s:={ s with toks:=s.toks+1 }) X P he λh' PV k d=>hq h' PV k d)
end
theorem Fr.but {g h h':Heap}{L e:Addr}{m:Str->Option aac}(F:Fr g L h m)(k:∀b o,b≠e->h.get? b=some o->h'.get? b=some o)(hL:e≠L)(hg:g.get? e=none):Fr g L h' m:=by
 refine bv λGG PD=>?_
 obtain⟨⟨o,es,ep,ho,r⟩,keep,above⟩:=F
 refine PD ?_
 exact⟨⟨o,es,ep,k _ _ (aef hL) ho,r⟩,λb o e'=>k b o (λq=>by rw [q,hg] at e'; cases e') (keep b o e'),above⟩
theorem News.but {g h h':Heap}{L e:Addr}{news:aO}(N:News g L h news)(k:∀b o,b≠e->h.get? b=some o->h'.get? b=some o)(hn:∀p∈news,p.1≠e):News g L h' news:=λp hp =>
 ⟨k _ _ (hn p hp) (N p hp).1,(N p hp).2⟩
noncomputable abbrev mK:List Stmt:=ix 30 0
noncomputable abbrev gh:abM:=iu 30 0
section
variable {α:bC}{ℓ:Nat}
theorem LW {A:abw}{g:Heap}{L e T:Addr}{env:Env}{s:aal}{m:Str->Option aac}{news:aO}{v:aac}{Qc:Flow->aal->Prop}{E:aac->aal->Prop}{p1 p2 p3 p4 p5 p6 p7 p8 p9 p10:Pos}
  (P:pr α.K) (C:Cf α ℓ A g L) (D:Ce gh env) (Qz:env.locals=L) (F:Fr g L s.heap m) (N:News g L s.heap news) (he:s.heap.get? e=some (em T)) (heL:e≠L) (heg:g.get? e=none) (P6:∀p∈news,p.1≠e)
  (hs:m ("self":Str)=some (.ref e)) (hm:m ("message":Str)=some v)
  (h:∀h' PV,Fr g L h' m->News g L h' news->(∃dx T',h'.get? e=some { em T' with dict:=dx })->Qc .next { s with heap:=h',toks:=PV })
  (hp:(p2.endLine == p5.line)=true) (WZ:∀env,aer (.Call (.Attribute (.Name "Exception" p1) "__init__" p2) [.Name "self" p3,.Name "message" p4] [] p5) none p6.line env=pure false)
  (acp:∀env,aer (.Name "message" p9) (some (.Attribute (.Name "self" p7) "message" p8)) p10.line env=pure false) (hb:∀env QQ,af4 (.Name "Exception" p1) "__init__" env QQ=QQ) :
  wpAny (abe α.prog α.w) A (execs [.Expr (.Call (.Attribute (.Name "Exception" p1) "__init__" p2) [.Name "self" p3,.Name "message" p4] [] p5) p6,.Assign [.Attribute (.Name "self" p7) "message" p8] (.Name "message" p9) p10] env) Qc E s:=by
 have hk:env.scope.kind=.function:=D.scope ▸ D.kind
 have kind:∀x,env.kindOf x=gh.names.lookup x:=λx=>by unfold acd; rw [D.scope]
 subst Qz
 have loc:∀(x:Str) (vx:aac) (p:Pos) (P0:aal) (Q:aac->aal->Prop),gh.names.lookup x=some .local->m x=some vx->(x == ("__debug__":Str))=false->Fr g env.locals P0.heap m->Q vx P0->wpAny (abe α.prog α.w) A (eval (.Name x p) env) Q E P0:=
  λx vx p P0 Q hl hv hd Qy q=>ago (aeA hk ((kind x).trans hl) Qy.ns hv q) hd
 have pl:fB [.Name "self" p3,.Name "message" p4]:=.cons (λ_ _=>rfl) (.cons (λ_ _=>rfl) .nil)
 refine ab1 (ai6 ?_ (by unfold aiR; rw [hk]; rfl) (WZ env))
 refine qc pl (by show 2 < 30; decide) (hb env) hp (fy C D F P.name (by rfl) (by decide +kernel) ?_ (by rfl) (by decide +kernel))
 refine method_type F C.X (kitMeta_of (by decide +kernel)) (by decide +kernel) (v:=.builtin "Exception.__init__") P.cinit (by rfl) ?_
 refine bR (α:=α) pl (Pp:=λ_=>True) (λh _=>eY _ h) (aeI (he:=rfl) (loc _ _ _ _ _ (by rfl) hs (by decide +kernel) F (aeI (he:=rfl) (loc _ _ _ _ _ (by rfl) hm (by decide +kernel) F (ahz ⟨trivial,?_⟩)))))
 refine aeC (LD (C.X.keeps F.keep) P he (by show 1<=abD; decide) λh₁ Uv UV=>?_)
 have Qy:=Fr.but F Uv heL heg
 have QW:=News.but N Uv P6
 refine ab1 (afR (loc _ _ _ _ _ (by rfl) hm (by decide +kernel) Qy (loc _ _ _ _ _ (by rfl) hs (by decide +kernel) Qy ?_)) (acp env))
 refine M9 (C.X.keeps Qy.keep) P UV λPM PN Vh hd=>?_
 exact adW (h _ _ (Fr.but Qy Vh heL heg) (News.but QW Vh P6) (let ⟨dx,q⟩:=hd; ⟨dx,_,q⟩))
end
structure Gm (h h':Heap)(e:Addr):Prop where
 keeps:∀b o,h.get? b=some o->h'.get? b=some o
 new:h.get? e=none
 there:∃dx T,h'.get? e=some { em T with dict:=dx }
section
variable {α:bC}{ℓ:Nat}
theorem KO {A:abw}{h₀:Heap}{L:Addr}{m:Str->Option aac}{s:aal}{st:MS}{φ:bk}{news:aO}{v:aac}{R:afZ->aal->Prop}{name qual:Str}{params:adF}{dV kV Qw pm P4 ct oc:aac}{an od:Option Addr}{Ri:Array (Option aac)}
  (P:pr α.K) (Dn:u9 α 174 name qual params mK gh dV kV Qw pm P4 ct oc an od Ri) (hb:jJ α (fnOf name qual params mK gh dV kV Qw pm an P4 ct) 2 [("self":Str),("message":Str)] [])
  (C:Cf α (ℓ+2) A h₀ L) (S:Sn α h₀ L m s.heap st φ news)
  (hq:∀h' PV e,Gm s.heap h' e->R (.ok (.ret (.ref e))) { s with heap:=h',toks:=PV }):adA (abe α.prog α.w) A (.call (.ref 202) ⟨[v],[]⟩) R s:=by
 obtain⟨hh,gg,d,tk,os⟩:=s
 have ac0:=C.X.keeps S.F.keep
 refine LM ac0 P (by show 1<=abD; decide) ?_
 have C1:=C.under 202 [v]
 refine C1.frC λA₀ outer Ql B hA hf RY=>?_
 have Qy:Fr h₀ L ((hh.push (l4 [v])).push (em hh.objs.size)) m:=(S.F.push _).push _
 have QW:News h₀ L ((hh.push (l4 [v])).push (em hh.objs.size)) ((hh.objs.size+1,em hh.objs.size)::(hh.objs.size,l4 [v])::news):=by
  have:=(S.N.push S.F (l4 [v])).push (S.F.push _) (em hh.objs.size)
  rwa [adO] at this
 have Xj:α.K.In ((hh.push (l4 [v])).push (em hh.objs.size)):=C.X.keeps Qy.keep
 refine om (cl:=[]) B Qy QW C.T.nolimit hA hf RY (Xj _ _ Dn.look) rfl (agt Xj Dn.code) (by have:=C1.depth; walk_at "o") (hb _ [.ref (hh.objs.size+1),v] Xj rfl)
  (λy hy=>?_) (λg L' h₁ FG F' N' B' Ps PR Us=>?_) (by decide +kernel) Dn.co Dn.gen Dn.kind
 ·simp only [abv,aie,List.zip_nil_left,abB,abx,or_false] at hy
  rcases hy with rfl | rfl <;> rfl
 have Ne:=N' _ (.head _)
 have C2:Cf α ℓ ((A.under (.builtin "type.__call__" ⟨.ref 202::[v],[]⟩)).deeper (envX qual gh L' 174 P4 [])) g L':=by
  refine⟨C.ok,⟨_,Ql::outer,envX qual gh L' 174 P4 [],B',?_,rfl,Dn.kind⟩,C1.hand,?_,?_,C1.inner⟩
  ·show (List.cons _ <$> (A.under (.builtin "type.__call__" ⟨.ref 202::[v],[]⟩)).frames)=_; rw [hA]; rfl
  ·have h1:=C1.depth; show (A.under (.builtin "type.__call__" ⟨.ref 202::[v],[]⟩)).depth+1+3 * ℓ+3 < _; walk_at "o"
  ·have h1:=C1.units; show (A.under (.builtin "type.__call__" ⟨.ref 202::[v],[]⟩)).units+3+10 * ℓ+200 < _; walk_at "o"
 refine LW (e:=hh.objs.size+1) (T:=hh.objs.size) (v:=v) (news:=(hh.objs.size,l4 [v])::news) P C2 ⟨rfl,Dn.kind,rfl,rfl⟩ rfl F' (λp hp=>N' p (.tail _ hp)) Ne.1 Ne.2.1 Ne.2.2 (λp hp=>?_) (by rfl) (by rfl) (λh' PV RH RI hd=>?_)
  rfl (λ_=>rfl) (λ_=>rfl) (λ_ _=>rfl)
 ·rcases bN hp with rfl | hp
  ·exact abf (aby _)
  ·exact abf (abN (abn (S.N p hp).1))
 ·refine⟨L',_,_,RH,RI,λ_ _=>⟨rfl,hq h' PV _ ⟨λb o hb=>?_,adZ (agJ _),hd⟩⟩⟩
  by_cases hn:∃p∈news,p.1=b
  ·obtain⟨p,hp,rfl⟩:=hn
   have:=(S.N p hp).1
   rw [show hh.get? p.1=some o from hb] at this
   rw [this]
   exact (RI p (.tail _ hp)).1
  ·refine RH.keep b o (Us b o (aao _ (aao _ hb)) λp hp e=>?_)
   have hlb:=abn hb
   rcases bN hp with rfl | hp
   ·exact absurd e (abW (abN hlb))
   ·rcases bN hp with rfl | hp
    ·exact absurd e (abW hlb)
    ·exact hn ⟨p,hp,e⟩
end
section
variable {α:bC}{ℓ:Nat}{sc:abM}{slots:List Str}
theorem A0 {A:abw}{env:Env}{s:aal}{x:Sem aac}{Q:Flow->aal->Prop}{E:aac->aal->Prop}(P:pr α.K)(hh:A.handled=none)
  (h:wpAny (abe α.prog α.w) A x (λv P0=>∃e dx T,v=.ref e/\α.K.In P0.heap/\P0.heap.get? e=some { em T with dict:=dx }/\E (.ref e) P0) E s) :
  wpAny (abe α.prog α.w) A (raiseStmt env (some x) none) Q E s:=by
 have WV:(aeH 202::wm).contains (.type "BaseException")=true:=by decide +kernel
 unfold raiseStmt
 refine aag (abU h (λv P0 h₁=>?_) λ_ _ x=>x)
 refine bv λGG PD=>?_
 obtain⟨e,dx,T,rfl,X,he,hE⟩:=h₁
 refine PD ?_
 refine P.cls _ λnm q N bs RF sn sub ab col dd k0 k1 k2 k3 k5 Ub=>?_
 have hC:=X _ _ Ub
 obtain⟨hp,g,d,tk,os⟩:=P0
 repeat (first | with_reducible refine aey he ?_ | with_reducible refine aey hC ?_ | (with_reducible refine agi hC ?_; rw [WV]) | wp_step)
 exact wpAny_raiseNew_none hh hE
theorem Hb (P:pr α.K)(M:ah5)(h:Heap)(X:α.K.In h):∃k,(k=ag8\/k=agq\/k=afy)/\air M h (ai4 (.ref 202)) k:=by
 refine P.cls _ λnm q N bs RF sn sub ab col dd k0 k1 k2 k3 k5 Ub=>?_
 exact⟨.machine,.inr (.inl rfl),λA Q E s k q=>by
  obtain⟨hp,g,d,tk,os⟩:=s
  exact wpAny_keeperOf_exc (k _ _ (X _ _ Ub)) q⟩
theorem I7 {A:abw}{g:Heap}{L:Addr}{env:Env}{m:Str->Option aac}{s:aal}{st:MS}{φ:bk}{news:aO}{ρ:aG}{Q:Flow->aal->Prop}{E:aac->aal->Prop}{c:Expr}{z:Str}{p1 p2 p3:Pos}{name qual:Str}{params:adF}{dV kV Qw pm P4 ct oc:aac}{an od:Option Addr}{Ri:Array (Option aac)}
  (P:pr α.K) (Dn:u9 α 174 name qual params mK gh dV kV Qw pm P4 ct oc an od Ri) (hb:jJ α (fnOf name qual params mK gh dV kV Qw pm an P4 ct) 2 [("self":Str),("message":Str)] [])
  (gl:nsIn α.K aam ("PathFault":Str)=some (some (.ref 202))) (hc:aa α (ℓ+2) sc slots c (tK (.str z))) (QL:∀rest env,ada (c::rest) env=(false,eval c env)::ada rest env)
  (C:Cf α (ℓ+2) A g L) (D:Ce sc env) (S:Sn α g L m s.heap st φ news) (Lo:Lc α slots env L m news φ ρ) (hx:sc.names.lookup ("PathFault":Str)=some .globalImplicit)
  (hE:∀h₁ Px PC h' PV e,Sn α g L m h₁ st Px PC->a9 [α.tab] φ news Px PC->Gm h₁ h' e->E (.ref e) { s with heap:=h',toks:=PV }) :
  wpAny (abe α.prog α.w) A (exec (.Raise (some (.Call (.Name "PathFault" p1) [c] [] p2)) none p3) env) Q E s:=by
 have hT:ae α (ℓ+2) sc slots [c] (ad (tK (.str z)) ak):=ac hc ai QL
 have key:wpAny (abe α.prog α.w) A (eval (.Call (.Name "PathFault" p1) [c] [] p2) env) (λv P0=>∃e dx T,v=.ref e/\α.K.In P0.heap/\P0.heap.get? e=some { em T with dict:=dx }/\E (.ref e) P0) E s:=by
  refine agW (aip S.F C.X (afY C.T) gl ?_ D.glob (D.scope ▸ D.kind) (by unfold acd; rw [D.scope]; exact hx) (by decide +kernel))
  refine bR (α:=α) hT.plain (Pp:=α.K.In) (Hb P _) (hT.run A g L env C D s m st φ news ρ S Lo p2 (λVs Pt=>Vs=[.str z]/\Pt=st) _ E ⟨rfl,rfl⟩ λVs Pt Px PC vs h₁ PA Pv Py PO Pw _=>⟨C.X.keeps Pv.F.keep,?_⟩)
  obtain⟨rfl,rfl⟩:=Pw
  cases PO with | cons r1 r2 =>
  cases r2
  refine aeC (KO P Dn hb C Pv λh' PV e M=>?_)
  obtain⟨dx,T,he⟩:=M.there
  exact⟨e,dx,T,rfl,(C.X.keeps Pv.F.keep).keeps M.keeps,he,hE _ _ _ _ _ _ Pv Py M⟩
 rw [arm_exec_Raise]
 refine aag (ado (A0 P C.hand ?_))
 exact aag (abU key (λv P0 h₁=>aag (ado (abb h₁))) λ_ _ x=>x)
end
section
variable {M:ah5}{A:abw}{E:aac->aal->Prop}{s':aal}{base g h:Heap}{outer:List Env}{L a e:Addr}{m:Str->Option aac}{name:Str}{scope:abM}{cd:aac}{Q:Unit->aal->Prop}{news:aO}
theorem Dz (K:ai3 A base outer g)(hx:Gm h s'.heap e)(F:Fr g L h m)(N:News g L h news)
  (hQ:∀h',ajp base outer e (.ref 202) news h'->g.UpToSlots h'->Q () { s' with heap:=h' }) (hk:scope.kind=.function) :
  wpAny M (A.deeper (envOf name scope L a cd)) (leaving (envOf name scope L a cd) (.ref e)) Q E s':=by
 have K':=K.push (name:=name) (a:=a) (cd:=cd) F hk
 have QY:∀env∈(envOf name scope L a cd::outer),∀b,env.frame=some b->b∈(envOf name scope L a cd::outer).filterMap (·.frame):=λenv he b hb=>adS.mpr ⟨env,he,hb⟩
 have st:base.StaysIn (aiJ h ((envOf name scope L a cd::outer).filterMap (·.frame))):=λb o q=>aiS _ (K'.stays b o q) λhm=>by
  rw [(K'.frames.mem hm).1] at q; cases q
 have hl:∀q∈news,(aiJ h ((envOf name scope L a cd::outer).filterMap (·.frame))).get? q.1=some q.2/\base.get? q.1=none:=λq hq=>by
  refine⟨aiS _ (N q hq).1 λhm=>?_,fresh_of_stays K.stays (N q hq).2.2⟩
  obtain⟨env,he,hf⟩:=adS.mp hm
  rcases bN he with rfl | he
  ·exact (N q hq).2.1 (abl hf).symm
  ·obtain⟨o,ho,_⟩:=(K.frames.mem (adS.mpr ⟨env,he,hf⟩)).2
   rw [(N q hq).2.2] at ho; cases ho
 obtain⟨dx,T,he⟩:=hx.there
 have hen:(aiJ h ((envOf name scope L a cd::outer).filterMap (·.frame))).get? e=none:=by
  cases q:(aiJ h ((envOf name scope L a cd::outer).filterMap (·.frame))).get? e with
  | none=>rfl
  | some o=>have:=aim _ q; rw [hx.new] at this; cases this
 refine wpAny_leaving_firstW (a0:=.ref T) K'.stack ((funFrames_hide K'.frames QY).of_keeps λb o hb _=>⟨o,hx.keeps b o hb,rfl⟩) rfl he (λb o hb=>hx.keeps b o (aim _ hb)) hen rfl rfl rfl λh' hL=>?_
 refine bv λGG PD=>?_
 obtain⟨k1,⟨_,_,k2⟩,k3,k4⟩:=hL
 refine PD ?_
 exact hQ h' ⟨_,.ref T,st,hl,k1,hen,k2,k3⟩ (((aec F.keep).trans (aec hx.keeps)).trans k4)
theorem Fx (K:ai3 A base outer g)(R:ajp base (envOf name scope L a cd::outer) e (.ref 202) news s'.heap)(Rl:g.UpToSlots s'.heap)
  (hQ:∀h',ajp base outer e (.ref 202) news h'->g.UpToSlots h'->Q () { s' with heap:=h' }) :
  wpAny M (A.deeper (envOf name scope L a cd)) (leaving (envOf name scope L a cd) (.ref e)) Q E s':=by
 obtain⟨B,a0,hB,hl,Tu⟩:=R
 exact wpAny_leaves_onW (Around.frames_deeper K.stack) rfl Tu λh' x1 x2=>hQ h' ⟨B,a0,hB,hl,x1⟩ (Rl.trans x2)
end
section
variable (α:bC)
def XP (A:abw)(own:List Addr)(h₀:Heap)(s:aal)(st:MS)(φ:bk)(news:aO)(E:aac->aal->Prop):Prop:=
 ∀e Ps PG Pu h' PV,st <+: Ps->Wd α Ps PG Pu->a9 own φ news PG Pu->(∀l,A.frames=some l->ajp α.hB l e (.ref 202) Pu h')->h₀.UpToSlots h'->E (.ref e) { s with heap:=h',toks:=PV }
def u1 (ℓ:Nat)(f:Addr)(S:List MV->MS->Prop):Prop:=
 ∀A h₀ L,Cf α ℓ A h₀ L->∀s m st φ news Vs vs,Sn α h₀ L m s.heap st φ news->bg α.hB news φ Vs vs->∀(R:afZ->aal->Prop),S Vs st->XP α A [α.tab] h₀ s st φ news (λe s'=>R (.error e) s') ->
  adA (abe α.prog α.w) A (.call (.ref f) ⟨vs,[]⟩) R s
def d8 (ℓ:Nat)(sc:abM)(slots:List Str)(e:Expr)(P:aG->MS->Prop):Prop:=
 ∀A h₀ L env,Cf α ℓ A h₀ L->Ce sc env->∀s m st φ news ρ,Sn α h₀ L m s.heap st φ news->Lc α slots env L m news φ ρ->∀Qc E,P ρ st->XP α A [α.tab] h₀ s st φ news E->wpAny (abe α.prog α.w) A (eval e env) Qc E s
def fU (ℓ:Nat)(sc:abM)(slots:List Str)(c:Stmt)(P:aG->MS->Prop):Prop:=
 ∀A h₀ L env,Cf α ℓ A h₀ L->Ce sc env->∀s m st φ news ρ,Sn α h₀ L m s.heap st φ news->Lc α slots env L m news φ ρ->dR α slots env L φ news->∀Qc E,P ρ st->XP α A (ft α env) h₀ s st φ news E->wpAny (abe α.prog α.w) A (exec c env) Qc E s
def bS (ℓ:Nat)(sc:abM)(slots:List Str)(cs:List Stmt)(P:aG->MS->Prop):Prop:=
 ∀A h₀ L env,Cf α ℓ A h₀ L->Ce sc env->∀s m st φ news ρ,Sn α h₀ L m s.heap st φ news->Lc α slots env L m news φ ρ->dR α slots env L φ news->∀Qc E,P ρ st->XP α A (ft α env) h₀ s st φ news E->wpAny (abe α.prog α.w) A (execs cs env) Qc E s
def XF (own:List Addr)(h₀:Heap)(L:Addr)(s:aal)(st:MS)(φ:bk)(news:aO)(E:aac->aal->Prop):Prop:=
 ∀QJ h₁ Px PC h' PV e,Sn α h₀ L QJ h₁ st Px PC->a9 own φ news Px PC->Gm h₁ h' e->E (.ref e) { s with heap:=h',toks:=PV }
def sS (ℓ:Nat)(sc:abM)(slots:List Str)(cs:List Stmt)(P:aG->MS->Prop):Prop:=
 ∀A h₀ L env,Cf α ℓ A h₀ L->Ce sc env->∀s m st φ news ρ,Sn α h₀ L m s.heap st φ news->Lc α slots env L m news φ ρ->dR α slots env L φ news->∀Qc E,P ρ st->XP α A (ft α env) h₀ s st φ news E->XF α (ft α env) h₀ L s st φ news E ->
  wpAny (abe α.prog α.w) A (execs cs env) Qc E s
end
section
variable {α:bC}{ℓ:Nat}{sc:abM}{slots:List Str}{own:List Addr}{h₀:Heap}{s:aal}{st Pt:MS}{φ Px:bk}{news PC:aO}{A:abw}{E:aac->aal->Prop}
theorem XP.after (X:XP α A own h₀ s st φ news E)(hp:st <+: Pt)(g:a9 own φ news Px PC)(h₁:Heap)(PA:Nat):XP α A own h₀ { s with heap:=h₁,toks:=PA } Pt Px PC E:=
 λe Ps PG Pu h' PV p w g' r u=>X e Ps PG Pu h' PV (hp.trans p) w (g.trans g') r u
theorem XP.tab {env:Env}(X:XP α A (ft α env) h₀ s st φ news E):XP α A [α.tab] h₀ s st φ news E:=
 λe Ps PG Pu h' PV p w g' r u=>X e Ps PG Pu h' PV p w (dC g') r u
theorem u1.mono {Rz:Nat}{f:Addr}{S:List MV->MS->Prop}(h:u1 α ℓ f S)(hl:ℓ<=Rz):u1 α Rz f S:=λA h₀ L C=>h A h₀ L (C.mono hl)
theorem bS.x {cs:List Stmt}{P:aG->MS->Prop}(h:bS α ℓ sc slots cs P):sS α ℓ sc slots cs P:=λA h₀ L env C D s m st φ news ρ S Lo O Qc E p x _=>h A h₀ L env C D s m st φ news ρ S Lo O Qc E p x
theorem lF {f:Addr}{name qual:Str}{params:adF}{body:List Stmt}{scope:abM}{dV kV Qw pm P4 ct oc:aac}{an od:Option Addr}{Ri:Array (Option aac)}{n:Nat}{ps rest:List Str}{S:List MV->MS->Prop}{P:aG->MS->Prop}
  (D:u9 α f name qual params body scope dV kV Qw pm P4 ct oc an od Ri) (hb:jJ α (fnOf name qual params body scope dV kV Qw pm an P4 ct) n ps []) (PL:n=ps.length)
  (Qt:(ps++rest).Nodup) (Qz:((ps++rest).all λx=>scope.names.lookup x == some .local)=true) (QC:(scope.names.all λx=>x.2 != .cell)=true)
  (hT:sS α ℓ scope (ps++rest) body P)
  (SX:∀Vs st,S Vs st->Vs.length=n/\P (Vs.map some++abV rest.length none) st):u1 α (ℓ+1) f S:=by
 intro A h₀ L C s m st φ news Vs vs PB r R t X
 obtain⟨hn,t⟩:=SX Vs st t
 have RS:vs.length=n:=by rw [r.length]; exact hn
 refine C.frC λA₀ outer Ql B hA hf RY=>?_
 have XK:=C.X
 have Q5:∀x∈scope.names,x.2≠.cell:=λx hx=>by simpa using iX QC x hx
 have QE:∀x∈ps++rest,scope.names.lookup x=some .local:=λx hx=>eq_of_beq (iX Qz x hx)
 refine om (cl:=[]) B PB.F PB.N C.T.nolimit hA hf RY ((XK.keeps PB.F.keep) _ _ D.look) rfl (agt (XK.keeps PB.F.keep) D.code) (by have:=C.depth; walk_at "o") (hb s vs (XK.keeps PB.F.keep) RS)
  (λy hy=>QE _ (aa8 _ (aen hy).1)) (λg L' h₁ FG F' N' B' Ps PR Us=>?_) Q5 D.co D.gen D.kind
 have rr:bg α.hB news φ Vs (vs++[]):=by rw [abv]; exact r
 refine hT (A.deeper (envX qual scope L' f P4 [])) g L' (envX qual scope L' f P4 []) (C.deeper hA B' rfl D.kind) ⟨rfl,D.kind,rfl,rfl⟩ _ _ st φ news _ ⟨F',N',PB.W⟩ (Kx QE rr (by rw [abv,RS]; exact PL) Qt) (AB QE Q5 Qt) _ _ t ?_ ?_
 ·intro e Pz PE PS PM PN hp U4 PH Xt XO
  refine Fx (name:=qual) (scope:=scope) (a:=f) (cd:=P4) B' (Xt _ (by show (A.frames.map _)=_; rw [hA]; rfl)) XO λP2 acs aco=>?_
  have gg:a9 [α.tab] φ news PE PS:=PH
  exact X e Pz PE PS P2 PN hp U4 gg (λl hl=>by rw [hA] at hl; cases hl; exact acs) ((aec Ps).trans aco)
 ·intro QJ PM PE PS P2 P7 e PF PH M
  refine Dz (name:=qual) (scope:=scope) (a:=f) (cd:=P4) B' M PF.F PF.N (λQN ac6 acN=>?_) D.kind
  have gg:a9 [α.tab] φ news PE PS:=PH
  exact X e st PE PS QN P7 (aaj _) PF.W gg (λl hl=>by rw [hA] at hl; cases hl; exact ac6) ((aec Ps).trans acN)
end
section
variable {α:bC}{ℓ:Nat}{sc:abM}{slots:List Str}
structure jN (α:bC)(ℓ:Nat)(sc:abM)(slots:List Str)(es:List Expr)(P:aG->MS->Prop):Prop where
 plain:fB es
 run:∀A h₀ L env,Cf α ℓ A h₀ L->Ce sc env->∀s m st φ news ρ,Sn α h₀ L m s.heap st φ news->Lc α slots env L m news φ ρ->∀pos Qc E,P ρ st->XP α A [α.tab] h₀ s st φ news E ->
  wpAny (abe α.prog α.w) A (ajh (agp pos (ada es env))) Qc E s
theorem jN.head {e:Expr}{es:List Expr}{P:aG->MS->Prop}(h:d8 α ℓ sc slots e P)(k:fB es)(hs:autoParam (∀rest env,ada (e::rest) env=(false,eval e env)::ada rest env) aI):jN α ℓ sc slots (e::es) P where
 plain:=.cons hs k
 run:=λA h₀ L env C D s m st φ news ρ S Lo pos Qc E t X=>aeI (he:=hs _ _) (h A h₀ L env C D s m st φ news ρ S Lo _ E t X)
theorem GU {e:Expr}{es:List Expr}{a:TE}{P:aG->MS->Prop}(h:aa α ℓ sc slots e a)(k:jN α ℓ sc slots es P)(hs:autoParam (∀rest env,ada (e::rest) env=(false,eval e env)::ada rest env) aI) :
  jN α ℓ sc slots (e::es) (λρ st=>a ρ st λ_ Pt=>st <+: Pt/\P ρ Pt) where
 plain:=.cons hs k.plain
 run:=λA h₀ L env C D s m st φ news ρ S Lo pos Qc E t X =>
  aeI (he:=hs _ _) (h A h₀ L env C D s m st φ news ρ S Lo _ _ E t λV Pt Px PC v h₁ PA Pv Py PO Pw =>
   k.run A h₀ L env C D _ m Pt Px PC ρ Pv (Lo.grow Py) pos _ E Pw.2 (X.after Pw.1 Py h₁ PA))
theorem d8.call {x:Str}{p pos:Pos}{args:List Expr}{f:Addr}{S:List MV->MS->Prop}{T:TL}(e:nsIn α.K aam x=some (some (.ref f)))(hk:abH α.K (.ref f)=true)(hS:u1 α ℓ f S)
  (hT:ae α ℓ sc slots args T) (hx:autoParam (sc.names.lookup x=some .globalImplicit) aR) (hd:autoParam ((x == ("__debug__":Str))=false) aD):d8 α ℓ sc slots (.Call (.Name x p) args [] pos) (λρ st=>T ρ st λVs Pt=>st <+: Pt/\S Vs Pt):=by
 intro A h₀ L env C D s m st φ news ρ Qq Lo Qc E t X
 refine agW (aip Qq.F C.X (afY C.T) e ?_ D.glob (D.scope ▸ D.kind) (by unfold acd; rw [D.scope]; exact hx) hd)
 refine bR (α:=α) hT.plain (Pp:=α.K.In) (aiW hk) (hT.run A h₀ L env C D s m st φ news ρ Qq Lo pos _ _ E t λVs Pt Px PC vs h₁ PA Pv Py PO Pw _=>⟨C.X.keeps Pv.F.keep,?_⟩)
 exact aeC (hS A h₀ L C _ m Pt Px PC Vs vs Pv PO _ Pw.2 (X.after Pw.1 Py h₁ PA))
theorem d8.arg {x:Str}{p pos:Pos}{args:List Expr}{f:Addr}{P:aG->MS->Prop}(e:nsIn α.K aam x=some (some (.ref f)))(hk:abH α.K (.ref f)=true)
  (hT:jN α ℓ sc slots args P) (hx:autoParam (sc.names.lookup x=some .globalImplicit) aR) (hd:autoParam ((x == ("__debug__":Str))=false) aD):d8 α ℓ sc slots (.Call (.Name x p) args [] pos) P:=by
 intro A h₀ L env C D s m st φ news ρ Qq Lo Qc E t X
 refine agW (aip Qq.F C.X (afY C.T) e ?_ D.glob (D.scope ▸ D.kind) (by unfold acd; rw [D.scope]; exact hx) hd)
 exact bR (α:=α) hT.plain (Pp:=α.K.In) (aiW hk) (hT.run A h₀ L env C D s m st φ news ρ Qq Lo pos _ E t X)
theorem GW {x:Str}{p pos:Pos}{args:List Expr}{id:String}{P:aG->MS->Prop}(e:nsIn α.K aam x=some none)(hv:agj x=some (.builtin id))
  (hT:jN α ℓ sc slots args P) (hx:autoParam (sc.names.lookup x=some .globalImplicit) aR) (hn:autoParam (x≠"__name__") aD) (hd:autoParam ((x == ("__debug__":Str))=false) aD):d8 α ℓ sc slots (.Call (.Name x p) args [] pos) P:=by
 intro A h₀ L env C D s m st φ news ρ Qq Lo Qc E t X
 refine agW (fy C D Qq.F e hv hn ?_ hx hd)
 exact bR (α:=α) hT.plain (Pp:=λ_=>True) (λh _=>eY _ h) (hT.run A h₀ L env C D s m st φ news ρ Qq Lo pos _ E t X)
theorem og {e:Expr}{pos:Pos}{P:aG->MS->Prop}(h:d8 α ℓ sc slots e P):fU α ℓ sc slots (.Return (some e) pos) P:=
 λA h₀ L env C D s m st φ news ρ PB Lo O Qc E t X=>afz (h A h₀ L env C D s m st φ news ρ PB Lo _ E t X.tab)
theorem fU.set {x:Str}{px pos:Pos}{e:Expr}{P:aG->MS->Prop}(h:d8 α ℓ sc slots e P)(hs:autoParam (∀env,aer e (some (.Name x px)) pos.line env=pure false) aI) :
  fU α ℓ sc slots (.Assign [.Name x px] e pos) P:=
 λA h₀ L env C D s m st φ news ρ PB Lo O Qc E t X=>afA (h A h₀ L env C D s m st φ news ρ PB Lo _ E t X.tab) (hs env)
theorem ID {Qm iter:Expr}{body:List Stmt}{pos:Pos}{P:aG->MS->Prop}(h:d8 α ℓ sc slots iter P)(hs:autoParam (∀env x,aew iter env x=pure x) aI):fU α ℓ sc slots (.For Qm iter body [] pos) P:=
 λA h₀ L env C D s m st φ news ρ PB Lo O Qc E t X=>wpAny_For (h A h₀ L env C D s m st φ news ρ PB Lo _ E t X.tab) (hs env)
theorem GX {e:Expr}{pos:Pos}{P:aG->MS->Prop}(h:d8 α ℓ sc slots e P)(hi:autoParam (sc.kind=.function) aR)(hs:autoParam (∀env,aer e none pos.line env=pure false) aI):fU α ℓ sc slots (.Expr e pos) P:=
 λA h₀ L env C D s m st φ news ρ PB Lo O Qc E t X=>ai6 (h A h₀ L env C D s m st φ news ρ PB Lo _ E t X.tab) (by unfold aiR; rw [D.scope,hi]; rfl) (hs env)
theorem bS.head {c:Stmt}{cs:List Stmt}{P:aG->MS->Prop}(h:fU α ℓ sc slots c P):bS α ℓ sc slots (c::cs) P:=
 λA h₀ L env C D s m st φ news ρ PB Lo O Qc E t X=>ab1 (h A h₀ L env C D s m st φ news ρ PB Lo O _ E t X)
theorem Ep {c:Stmt}{cs:List Stmt}{a:TS}{P:aG->MS->Prop}(h:au α ℓ sc slots c a)(k:bS α ℓ sc slots cs P):bS α ℓ sc slots (c::cs) (λρ st=>a ρ st λf P9 Pt=>match f with | .next=>st <+: Pt/\P P9 Pt | _=>False):=by
 intro A h₀ L env C D s m st φ news ρ PB Lo O Qc E t X
 refine ab1 (h A h₀ L env C D s m st φ news ρ PB Lo O _ _ E t λf fc P9 Pt Px PC QJ h₁ PA Pv QF QH Py PO Pw=>?_)
 cases PO with
 | next=>exact k A h₀ L env C D _ QJ Pt Px PC P9 Pv QF QH _ E Pw.2 (X.after Pw.1 Py h₁ PA)
 | brk=>exact Pw.elim
 | cont=>exact Pw.elim
 | ret r=>exact Pw.elim
theorem gH {Ru:Expr}{body cs:List Stmt}{pos:Pos}{c:TB}{P P':aG->MS->Prop}(hc:aJ α ℓ sc slots Ru c)(ha:bS α ℓ sc slots body P)(hb:bS α ℓ sc slots cs P') :
  bS α ℓ sc slots (.If Ru body [] pos::cs) (λρ st=>c ρ st λx Pt=>st <+: Pt/\if x then P ρ Pt else P' ρ Pt):=by
 intro A h₀ L env C D s m st φ news ρ PB Lo O Qc E t X
 refine ab1 (wpAny_If (hc A h₀ L env C D s m st φ news ρ PB Lo _ _ E t λv Pt Px PC h₁ PA Pv Py Pw=>?_))
 have X':=X.after Pw.1 (dC Py) h₁ PA
 cases v with
 | true=>exact ha A h₀ L env C D _ m Pt Px PC ρ Pv (Lo.grow Py) (O.grow Py) _ E Pw.2 X'
 | false=>exact adW (hb A h₀ L env C D _ m Pt Px PC ρ Pv (Lo.grow Py) (O.grow Py) _ E Pw.2 X')
end
section
variable {α:bC}{ℓ:Nat}{sc:abM}{slots:List Str}
theorem iZ {cs:List Stmt}:bS α ℓ sc slots cs (λ_ _=>False):=λ_ _ _ _ _ _ _ _ _ _ _ _ _ _ _ _ _ t _=>t.elim
def CP (n r:Nat)(P:aG->MS->Prop):List MV->MS->Prop:=λVs st=>Vs.length=n/\P (Vs.map some++abV r none) st
theorem C5 {Ru:Expr}{cs:List Stmt}{c:TB}{k:_}{z:Str}{p1 p2 p3 p4 pos:Pos}{name qual:Str}{params:adF}{dV kV Qw pm P4 ct oc:aac}{an od:Option Addr}{Ri:Array (Option aac)}(hc:aJ α (ℓ+2) sc slots Ru c)
  (P:pr α.K) (Dn:u9 α 174 name qual params mK gh dV kV Qw pm P4 ct oc an od Ri) (hb:jJ α (fnOf name qual params mK gh dV kV Qw pm an P4 ct) 2 [("self":Str),("message":Str)] [])
  (gl:nsIn α.K aam ("PathFault":Str)=some (some (.ref 202))) (hx:sc.names.lookup ("PathFault":Str)=some .globalImplicit) :
  sS α (ℓ+2) sc slots (.If Ru [.Raise (some (.Call (.Name "PathFault" p1) [.Constant (.str z) k p4] [] p2)) none p3] [] pos::cs) (λρ st=>c ρ st λb Pt=>b=true/\Pt=st):=by
 intro A h₀ L env C D s m st φ news ρ PB Lo O Qc E t X XF
 refine ab1 (wpAny_If (hc A h₀ L env C D s m st φ news ρ PB Lo _ _ E t λv Pt Px PC h₁ PA Pv Py Pw=>?_))
 obtain⟨rfl,rfl⟩:=Pw
 exact ab1 (I7 (ℓ:=ℓ) (sc:=sc) (slots:=slots) P Dn hb gl aw (λ_ _=>rfl) C D Pv (Lo.grow Py) hx λPM PE PS h' PV e PF PH M=>XF _ _ _ _ _ _ _ PF (dC (Py.trans PH)) M)
end
def CQ:aG->MS->Prop:=λρ st=>oJ (bT (pM yj (af 0))) ρ st λb Pt=>b=true/\Pt=st
def qa:List MV->MS->Prop:=CP 1 0 CQ
section
variable {z:Zz}
theorem oi:u1 (aP z) 3 211 qa:=
 lF (n:=1) (ps:=[("value":Str)]) (rest:=[]) (P:=CQ) (body:=(cO 34)) (scope:=cF 34) ⟨rfl,by rfl,rfl,rfl,rfl⟩ (bM λ_ _ X=>aaq rfl) rfl (by decide +kernel) (by rfl) (by rfl)
  (C5 (ℓ:=0) (nz (aJ.val (qK aa.loc wa (i9 _) (mG _) (by decide +kernel)))) (Mz _) ⟨rfl,by rfl,rfl,rfl,rfl⟩ (bM λ_ _ _ X=>aaq rfl) (tJ _) (by rfl)) (λ_ _ h=>h)
def qp:aG->MS->Prop:=λρ st=>(ad (af 0) ak) ρ st λVs Pt=>st <+: Pt/\qa Vs Pt
def wH:List MV->MS->Prop:=CP 1 0 qp
theorem F5:u1 (aP z) 4 218 wH:=
 lF (n:=1) (ps:=[("value":Str)]) (rest:=[]) (P:=qp) (body:=(cO 35)) (scope:=cF 35) ⟨rfl,by rfl,rfl,rfl,rfl⟩ (bM λ_ _ X=>aaq rfl) rfl (by decide +kernel) (by rfl) (by rfl)
  (bS.head (og (d8.arg (d9 _) (eu _) (jN.head (GW (id:="len") (dq _) (by decide +kernel) (jN.head (d8.call (gQ _) (gR _) (oi.mono (by decide)) (ac aa.loc ai)) .nil)) .nil)))).x (λ_ _ h=>h)
def zi:aG->MS->Prop:=λρ st=>aX 2 (aF eI (ad (tK (.int 0)) ak)) ρ st λf P9 Pt=>match f with | .next=>st <+: Pt/\qp P9 Pt | _=>False
def zT:List MV->MS->Prop:=CP 2 2 zi
theorem H5:u1 (aP z) 5 225 zT:=
 lF (n:=2) (ps:=[("value":Str),("tree":Str)]) (rest:=[("total":Str),("node":Str)]) (P:=zi) (body:=(cO 36)) (scope:=cF 36) ⟨rfl,by rfl,rfl,rfl,rfl⟩ (bM λ_ _ _ X=>aaq rfl) rfl (by decide +kernel) (by rfl) (by rfl)
  (Ep (au.set (i:=2) (aa.call (d9 _) (eu _) (aM.fn (gj.mono (by decide))) (ac aq ai)))
   (bS.head (ID (d8.call (gQ _) (gR _) (oi.mono (by decide)) (ac aa.loc ai))))).x (λ_ _ h=>h)
def JH:aG->MS->Prop:=λρ st=>(ad (ar aN (af 0) (tK (.int 0))) ak) ρ st λVs Pt=>st <+: Pt/\qa Vs Pt
def yg:aG->MS->Prop:=λρ st=>bT (ar bL (af 0) (be ak)) ρ st λx Pt=>st <+: Pt/\if x then False else JH ρ Pt
def Fc:List MV->MS->Prop:=CP 2 1 yg
theorem AI:u1 (aP z) 4 232 Fc:=
 lF (n:=2) (ps:=[("arguments":Str),("context":Str)]) (rest:=[("nodes":Str)]) (P:=yg) (body:=(cO 37)) (scope:=cF 37) ⟨rfl,by rfl,rfl,rfl,rfl⟩ (bM λ_ _ _ X=>aaq rfl) rfl (by decide +kernel) (by rfl) (by rfl)
  (gH (aC aa.loc (aY ai) bc) iZ
   (bS.head (fU.set (d8.call (gQ _) (gR _) (oi.mono (by decide)) (ac (aa.sub aa.loc aq) ai))))).x (λ_ _ h=>h)
def zP (x:Str):TB:=bT (ar bL (af 0) (tK (.str x)))
def IF:aG->MS->Prop:=λρ st=>(ad (ar aN (af 1) (tK (.int 0))) ak) ρ st λVs Pt=>st <+: Pt/\wH Vs Pt
def H3:aG->MS->Prop:=λρ st=>(ad (ar aN (af 1) (tK (.int 0))) (ad (cC 313 ("tree":Str) (af 2)) ak)) ρ st λVs Pt=>st <+: Pt/\zT Vs Pt
def Lv:aG->MS->Prop:=λρ st=>af 0 ρ st λ_ Pt=>st <+: Pt/\(ad (af 1) (ad (af 2) ak)) ρ Pt λVs Pz=>Pt <+: Pz/\Fc Vs Pz
def sy (c:TB)(P P':aG->MS->Prop):aG->MS->Prop:=λρ st=>c ρ st λx Pt=>st <+: Pt/\if x then P ρ Pt else P' ρ Pt
def J1:aG->MS->Prop:=λ_ _=>False
def HJ:aG->MS->Prop:=sy (zP "last") J1 (sy (zP "position") J1 (sy (zP "count") IF (sy (zP "sum") H3 (sy (zP "id") J1 (sy (zP "lang") J1 Lv)))))
def Hi:List MV->MS->Prop:=CP 3 0 HJ
theorem xd:u1 (aP z) 8 274 Hi:=
 lF (n:=3) (ps:=[("name":Str),("arguments":Str),("context":Str)]) (rest:=[]) (P:=HJ) (body:=(cO 43)) (scope:=cF 43) ⟨rfl,by rfl,rfl,rfl,rfl⟩ (bM λ_ _ _ _ X=>aaq rfl) rfl (by decide +kernel) (by rfl) (by rfl)
  (gH (aC aa.loc aw bc) iZ
  (gH (aC aa.loc aw bc) iZ
  (gH (aC aa.loc aw bc) (bS.head (og (d8.call (xU _) (wl _) (F5.mono (by decide)) (ac (aa.sub aa.loc aq) ai))))
  (gH (aC aa.loc aw bc) (bS.head (og (d8.call (zq _) (zo _) (H5.mono (by decide)) (ac (aa.sub aa.loc aq) (ac (bn aa.loc (dj _ _) (bO _) (eB _) rfl) ai)))))
  (gH (aC aa.loc aw bc) iZ
  (gH (aC aa.loc aw bc) iZ
  (bS.head (og (d8.arg (s7 _) (tB _) (GU aa.loc (jN.head (d8.call (sz _) (tV _) (AI.mono (by decide)) (ac aa.loc (ac aa.loc ai))) (.cons (λ_ _=>rfl) .nil)))))))))))).x (λ_ _ h=>h)
end
section
variable {α:bC}
theorem KI {Uo WG:List Stmt}{k:_}{np cp rp hp tp:Pos}{scope:abM}{slots:List Str}{P:aG->MS->Prop}{A':abw}{env Ql:Env}{H:Heap}{L' L:Addr}{s:aal}{m':Str->Option aac}{st:MS}{φ:bk}{news:aO}{ρ:aG}{Qf:Flow->aal->Prop}{E:aac->aal->Prop}
  (PK:pr α.K) (gl:nsIn α.K aam ("PathFault":Str)=some (some (.ref 202))) (hx:scope.names.lookup ("PathFault":Str)=some .globalImplicit) (hT:bS α 9 scope slots Uo P)
  (US:A'.frames=some [env,Ql]) (hfe:env.frame=some L') (hf:Ql.frame=some L) (C:Cf α 9 A' H L') (D:Ce scope env) (Lo:Lc α slots env L' m' news φ ρ) (O:dR α slots env L' φ news) (S:Sn α H L' m' s.heap st φ news) (t:P ρ st)
  (XK:α.K.In α.hB) (T:TopRead α.p α.loose α.mg α.mb α.hB)
  (K:∀Pz PE PS Q3 PN,st <+: Pz->Wd α Pz PE PS->a9 (ft α env) φ news PE PS->H.UpToSlots Q3->α.hB.StaysIn Q3->(∀q∈PS,Q3.get? q.1=some q.2/\q.1≠L/\α.hB.get? q.1=none)->Qf (.ret (.bool true)) { s with heap:=Q3,toks:=PN }) :
  wpAny (abe α.prog α.w) A' (execs (.Try Uo [.ExceptHandler (some (.Name "PathFault" np)) none [.Return (some (.Constant (.bool true) k cp)) rp] hp] [] [] tp::WG) env) Qf E s:=by
 refine ab1 (wpAny_Try_except (hT A' _ L' env C D _ _ st φ news _ S Lo O _ _ t ?_))
 intro e Pz PE PS PM PN hp U4 PH Xt XO
 obtain⟨B',a0,hB,hl,Tu⟩:=Xt _ US
 refine wpAny_looks_onW US hfe Tu λQN XS YL=>?_
 refine wpAny_landsW XS λQv Yl YG=>?_
 have ZC:=YL.trans YG
 have VR:=flyingW_base hB Yl
 obtain⟨ob,hob,acT⟩:=VR.there
 have RN:α.K.In Qv:=XK.keeps VR.1
 refine PK.cls _ λnm q N bs RF sn sub ab col dd k0 k1 k2 k3 k5 Ub=>?_
 refine wpAny_handleBy_cons (codeAny_handlers_test (ahB (by rw [D.scope]; exact D.kind) (by unfold acd; rw [D.scope]; exact hx) (loadGlobal_global (env:=env) (by rw [D.glob]; exact T.g.keeps VR.1) (mg_of XK T.g gl) ?_) (by decide +kernel))) (by intro q; cases q)
 refine wpAny_excMatches_sub_self (RN _ _ Ub) hob acT (by decide +kernel) (codeAny_handlers_suite ?_)
 refine lands_againW Yl λQ3 U1 YT=>?_
 have YC:=flyingW_base hB U1
 refine ab1 (afz (ahU ?_))
 have hL:B'.get? L=none:=by
  refine bv λGG PD=>?_
  obtain⟨_,_,_,⟨afc,TN,Tq,aa3,_⟩,_⟩:=U1.2.2.1
  refine PD ?_
  rw [hf] at Tq
  cases Tq
  exact aa3
 exact K Pz PE PS Q3 PN hp U4 PH ((XO.trans ZC).trans YT) YC.1 λq hq=>⟨U1.1 _ _ (hl q hq).1,(λz=>by have:=(hl q hq).1; rw [z,hL] at this; cases this),(hl q hq).2⟩
theorem Io {f:Addr}{name qual:Str}{params:adF}{Uo WG:List Stmt}{k:_}{np cp rp hp tp:Pos}{scope:abM}{dV kV Qw pm P4 ct oc:aac}{an od:Option Addr}{Ri:Array (Option aac)}{n:Nat}{ps rest:List Str}{P:aG->MS->Prop}
  {bd:List Stmt} (hbd:bd=.Try Uo [.ExceptHandler (some (.Name "PathFault" np)) none [.Return (some (.Constant (.bool true) k cp)) rp] hp] [] [] tp::WG) (D:u9 α f name qual params bd scope dV kV Qw pm P4 ct oc an od Ri)
  (hb:jJ α (fnOf name qual params bd scope dV kV Qw pm an P4 ct) n ps []) (PL:n=ps.length)
  (Qt:(ps++rest).Nodup) (Qz:((ps++rest).all λx=>scope.names.lookup x == some .local)=true) (QC:(scope.names.all λx=>x.2 != .cell)=true)
  (PK:pr α.K) (gl:nsIn α.K aam ("PathFault":Str)=some (some (.ref 202))) (hx:scope.names.lookup ("PathFault":Str)=some .globalImplicit)
  (hT:bS α 9 scope (ps++rest) Uo P):bJ α 10 f (λVs st Q=>CP n rest.length P Vs st/\∀Ps,st <+: Ps->Q (.bool true) Ps):=by
 intro A h₀ L C s m st φ news Vs vs PB r Q R t PQ
 refine bv λGG PD=>?_
 obtain⟨⟨hn,t⟩,tQ⟩:=t
 obtain⟨⟨Ql,UY⟩,rfl⟩:=C.tp.2 rfl
 refine PD ?_
 have RS:vs.length=n:=by rw [r.length]; exact hn
 refine C.frC λA₀ outer ae6 B hA hf RY=>?_
 rw [UY] at hA
 cases hA
 have XK:=C.X
 have Q5:∀x∈scope.names,x.2≠.cell:=λx hx=>by simpa using iX QC x hx
 have QE:∀x∈ps++rest,scope.names.lookup x=some .local:=λx hx=>eq_of_beq (iX Qz x hx)
 obtain⟨FG,BG,stg,lv⟩:=groundX (R:=R) B PB.F PB.N UY hf RY
 refine codeAny_call_def (fd:=fnX name qual params _ scope [] dV kV Qw pm an P4 ct) (binds:=ps.zip (vs++[])) (by have:=C.depth; walk_at "o") ((XK.keeps PB.F.keep) _ _ D.look) rfl (C.T.nolimit.keeps PB.F.keep) (agt (XK.keeps PB.F.keep) D.code) rfl (hb s vs (XK.keeps PB.F.keep) RS) Q5
  (λy hy=>QE _ (aa8 _ (aen hy).1)) (λh₁ SE R8=>?_) D.co D.gen D.kind
 have F':Fr (aiJ s.heap (news.map (·.1))) s.heap.objs.size h₁ _:=⟨SE,λb o e=>R8 b o (aim _ e),aeK (hideAll_size _ _)⟩
 have N':News (aiJ s.heap (news.map (·.1))) s.heap.objs.size h₁ news:=λp hp=>⟨R8 _ _ (PB.N p hp).1,abf (abn (PB.N p hp).1),hideAll_none _ (ah0 hp)⟩
 have rr:bg α.hB news φ Vs (vs++[]):=by rw [abv]; exact r
 have US:(A.deeper (envX qual scope s.heap.objs.size f P4 [])).frames=some [envX qual scope s.heap.objs.size f P4 [],Ql]:=by show (A.frames.map _)=_; rw [UY]; rfl
 rw [hbd]
 exact KI PK gl hx hT US rfl hf (C.deeper UY BG rfl D.kind) ⟨rfl,D.kind,rfl,rfl⟩ (Kx QE rr (by rw [abv,RS]; exact PL) Qt) (AB QE Q5 Qt) ⟨F',N',PB.W⟩ t XK (afY C.T)
  λPz PE PS Q3 PN hp U4 PH up sb nw=>PQ (.bool true) Pz PE PS (.bool true) Q3 PN ⟨⟨up.ns FG.ns,sb,PB.F.above⟩,nw,U4⟩ PH (.bool true) (tQ Pz hp)
end
def Ii:aG->MS->Prop:=λρ st=>(ad (af 0) (ad (be (ad (af 1) ak)) (ad (af 2) ak))) ρ st λVs Pt=>st <+: Pt/\Hi Vs Pt
def jh:TP:=λVs st Q=>CP 3 0 Ii Vs st/\∀Ps,st <+: Ps->Q (.bool true) Ps
section
variable {z:Zz}
theorem uF:bJ (aP z) 10 599 jh:=
 Io (n:=3) (ps:=[("name":Str),("argument":Str),("context":Str)]) (rest:=[]) (P:=Ii) (scope:=(Bm (top 61)).2.2) rfl ⟨rfl,by rfl,rfl,rfl,rfl⟩ (bM λ_ _ _ _ X=>aaq rfl) rfl (by decide +kernel) (by rfl) (by rfl) (Mz _) (tJ _) (by rfl)
  (bS.head (GX (d8.call (ib _) (g7 _) (xd.mono (by decide)) (ac aa.loc (ac (aY (ac aa.loc ai)) (ac aa.loc ai))))))
end
noncomputable abbrev sv:List Str:=["tree","space","node","told","due"]
abbrev ql:TS:=(aj (bY (bf 524 b0 (af 0) (ad (af 2) (ad (tK (.str "xml:lang")) (ad (af 1) (ad (tK (.str "lang")) (ad (af 3) ak)))))))
 (aj (bX (bT (ar ia (aF bF (ad (tK (.str "lang")) (ad (be (ad (tK (.str "en")) ak)) (ad (aF (kM 313 gB) (ad (af 0) (ad (af 2) ak))) ak)))) (af 4))) (aj (aS (tK (.bool false)))
 az) az)
 az))
abbrev mj:TS:=
 (aj (c8 [1,0] (bl (ad (aF (kM 524 kQ) ak) (ad (tK (.str "http://www.w3.org/XML/1998/namespace")) ak))))
 (aj (aX 2 (bf 524 ee (af 0) (ad (bf 524 fG (af 0) ak) (ad (tK (.str "a")) (ad (tK (.str "")) (ad (tK (.str "a")) ak))))))
 (aj (eO (b9 (be (ad (bl (ad (tK (.str "enx")) (ad (tK (.bool false)) ak))) (ad (bl (ad (tK (.str "en-GB")) (ad (tK (.bool true)) ak))) (ad (bl (ad (tK (.str "EN")) (ad (tK (.bool true)) ak))) ak))))) (iq [3,4]) ql)
 (aj (aS (tK (.bool true)))
 az))))
theorem rK {z}:ah (aP z) 8 (cF 62) sv (cO 62) mj:=
 (ag (cP (is:=[1,0]) (xs:=["tree","space"]) (aV (ac (aa.call (Es _) (EW _) ((mJ (EG _) (nu _) (mP _) sL).mono (by decide)) ai) (ac aw ai))) (.cons (i:=1) rfl (.cons (i:=0) rfl .nil)))
 (ag (au.set (i:=2) (aQ aa.loc (ac (aQ aa.loc ai (aM.fn (jf.mono (by decide))) (aW _ _) (jc _) (jg _) (js _) jr) (ac aw (ac aw (ac aw ai)))) (aM.fn (gX.mono (by decide))) (aW _ _) (g5 _) (gS _) (gZ _) g4))
 (ag (dn (bU (aY (ac (aV (ac aw (ac dl ai))) (ac (aV (ac aw (ac dl ai))) (ac (aV (ac aw (ac dl ai))) ai))))) (qI (.cons (i:=3) rfl (.cons (i:=4) rfl .nil))) (ag (cg (aQ aa.loc (ac aa.loc (ac aw (ac aa.loc (ac aw (ac aa.loc ai))))) (aM.fn (gq.mono (by decide))) (aW _ _) (f8 _) (gn _) (ge _) gk))
 (ag (aZ (aC (aa.call (ib _) (g7 _) (aM.fn (j6.mono (by decide))) (ac aw (ac (aY (ac aw ai)) (ac (aa.call (qm _) (pR _) ((mJ (qC _) (gY _) (gT _) uv).mono (by decide)) (ac aa.loc (ac aa.loc ai))) ai)))) aa.loc ii) (ag (aE dl)
 ao) ao)
 ao)))
 (ag (aE dl)
 ao))))
def dK:TP:=bW 0 [] 5 mj
theorem tF {z}:bJ (aP z) 9 606 dK:=
 br (n:=0) (ps:=[]) (rest:=["tree","space","node","told","due"]) ⟨rfl,by rfl,rfl,rfl,rfl⟩ (bM λ_ X=>aaq rfl) rK
noncomputable abbrev vi:List Str:=["source","tree","rows","at","some","places","far","told","ids","context","asked","argument","words","due"]
abbrev lC:TE:=(aF fQ (ad (af 1) (ad (af 0) ak)))
abbrev lz:TE:=(ar aN (ar aN (af 1) (af 0)) (tK (.int 0)))
abbrev tS:TE:=(ar aN (ar aN (af 1) (af 0)) (tK (.int 0)))
abbrev r7:TE:=(ar aN (af 1) (af 0))
abbrev sD:TB:=(bT (ar fH (cr .dict JS (af 1) (ad (af 0) ak)) (tK .none)))
abbrev ip:TS:=(aj (aX 13 (qb (ad (c7 1 [7] (b9 (af 12)) (b8 0) sD r7) ak)))
 (aj (bX (bT (ar ia (aF bF (ad (tK (.str "id")) (ad (be (ad (af 11) ak)) (ad (af 9) ak)))) (c7 1 [2] (b9 (af 13)) (b8 0) d3 tS))) (aj (aS (tK (.bool false)))
 az) az)
 az))
abbrev im:TE:=(bl (ad (af 0) (ad (fh (bT (ar mR (ar aN (af 2) (af 0)) (tK .none))) (af 1) (ar aN (ar aN (af 3) (ar aN (af 2) (af 0))) (tK (.int 0)))) ak)))
abbrev ll:TE:=(af 0)
abbrev lh:TB:=(bT (ar bL (ar aN (af 1) (tK (.int 1))) (tK (.str "element"))))
abbrev nS:TS:=
 (aj (aX 5 (c7 2 [] (AC (ad (af 2) ak)) (iq [0,1]) lh ll))
 (aj (aX 6 (bf 524 ee (af 1) (ad (bf 524 fG (af 1) ak) (ad (tK (.str "z")) (ad (tK (.str "")) (ad (tK (.str "z")) ak))))))
 (aj (aX 7 (kU (wy "a" (aF cx (ad (af 0) (ad (af 5) ak))) (wy "b" (aF cx (ad (af 0) (ad (af 5) ak))) (wy "x" (tK .none) oC)))))
 (aj (aX 8 (aF Ew (ad (c7 1 [6,7,2] (FV (af 7)) (b8 0) d3 im) ak)))
 (aj (aX 9 (aF (kM 313 iS) (ad (af 1) (ad (ar aN (ar aN (af 2) (af 3)) (tK (.int 0))) (ad (tK (.int 1)) (ad (tK (.int 1)) (ad (tK .none) (ad (tK .none) (ad (tK .none) (ad (tK .none) (ad (af 8) ak)))))))))))
 (aj (aX 10 (aF cx (ad (af 0) (ad (be (ad (tK (.str "b a")) (ad (tK (.str " a x ")) (ad (tK (.str "a a q")) (ad (tK (.str "")) ak))))) ak))))
 (aj (eO (b9 (be (ad (bl (ad (af 10) (ad (cr .str lE (af 10) ak) ak))) (ad (bl (ad (c7 1 [2] (b9 (af 4)) (b8 0) d3 lz) (ad (cr .str lE (cr .str qx (tK (.str " ")) (ad (c7 1 [2] (b9 (af 4)) (b8 0) d3 lC) ak)) ak) ak))) ak)))) (iq [11,12]) ip)
 (aj (aS (tK (.bool true)))
 az))))))))
theorem uz {z}:ah (aP z) 8 (cF 63) vi (cO 63) nS:=
 (ag (iA (j:=5) (tgts:=["place","row"]) (cn:=[]) (caps:=[]) ⟨by rfl,by rfl,by rfl,by rfl,rfl,by rfl,by rfl,(xY (i:=0) (j:=1) (by decide +kernel) rfl rfl (by rfl) (by rfl)),(iz (aC (aa.sub aa.loc aq) aw bc)),aa.loc⟩ (zZ (ac aa.loc ai) (tW _)) rfl (by rfl))
 (ag (au.set (i:=6) (aQ aa.loc (ac (aQ aa.loc ai (aM.fn (jf.mono (by decide))) (aW _ _) (jc _) (jg _) (js _) jr) (ac aw (ac aw (ac aw ai)))) (aM.fn (gX.mono (by decide))) (aW _ _) (g5 _) (gS _) (gZ _) g4))
 (ag (au.set (i:=7) (aa.dict (ks:=["a","b","x"]) (ow.cons (aa.call (dZ _) (d4 _) (aM.fn (eS.mono (by decide))) (ac aa.loc (ac aa.loc ai))) (ow.cons (aa.call (dZ _) (d4 _) (aM.fn (eS.mono (by decide))) (ac aa.loc (ac aa.loc ai))) (ow.cons bo ow.nil))) (by simp) (by decide) (by decide +kernel)))
 (ag (au.set (i:=8) (cG (LJ _) (by decide +kernel) FY (ac (ez (tgts:=["text"]) (cn:=["far","told","rows"]) (caps:=[6,7,2]) ⟨by rfl,by rfl,by rfl,by rfl,rfl,by rfl,by rfl,(cY.name (i:=0) (by decide +kernel) rfl (by rfl)),eV,(aV (ac aa.loc (ac (cA (aC (aa.sub aa.loc aa.loc) bo jD) aa.loc (aa.sub (aa.sub aa.loc (aa.sub aa.loc aa.loc)) aq)) ai)))⟩ (ch.dict aa.loc)) ai)))
 (ag (au.set (i:=9) (aa.call (qm _) (pR _) ((mJ (qC _) (gY _) (gT _) tN).mono (by decide)) (ac aa.loc (ac (aa.sub (aa.sub aa.loc aa.loc) aq) (ac aq (ac aq (ac bo (ac bo (ac bo (ac bo (ac aa.loc ai)))))))))))
 (ag (au.set (i:=10) (aa.call (dZ _) (d4 _) (aM.fn (eS.mono (by decide))) (ac aa.loc (ac (aY (ac aw (ac aw (ac aw (ac aw ai))))) ai))))
 (ag (dn (bU (aY (ac (aV (ac aa.loc (ac (ba (k:=.str) aa.loc ai sd afK afL) ai))) (ac (aV (ac (ez (tgts:=["place"]) (cn:=["rows"]) (caps:=[2]) ⟨by rfl,by rfl,by rfl,by rfl,rfl,by rfl,by rfl,(cY.name (i:=0) (by decide +kernel) rfl (by rfl)),eV,(aa.sub (aa.sub aa.loc aa.loc) aq)⟩ (bU aa.loc)) (ac (ba (k:=.str) (ba (k:=.str) aw (ac (ez (tgts:=["place"]) (cn:=["rows"]) (caps:=[2]) ⟨by rfl,by rfl,by rfl,by rfl,rfl,by rfl,by rfl,(cY.name (i:=0) (by decide +kernel) rfl (by rfl)),eV,(aa.call (i5 _) (i8 _) (aM.fn (j3.mono (by decide))) (ac aa.loc (ac aa.loc ai)))⟩ (bU aa.loc)) ai) vW afU afV) ai sd afK afL) ai))) ai)))) (qI (.cons (i:=11) rfl (.cons (i:=12) rfl .nil))) (ag (au.set (i:=13) (y4 (ac (ez (tgts:=["word"]) (cn:=["told"]) (caps:=[7]) ⟨by rfl,by rfl,by rfl,by rfl,rfl,by rfl,by rfl,(cY.name (i:=0) (by decide +kernel) rfl (by rfl)),(iz (aC (ba (k:=.dict) aa.loc (ac aa.loc ai) Fd afT ahv) bo fF)),(aa.sub aa.loc aa.loc)⟩ (bU aa.loc)) ai) (zQ _) (MZ _)))
 (ag (aZ (aC (aa.call (ib _) (g7 _) (aM.fn (j6.mono (by decide))) (ac aw (ac (aY (ac aa.loc ai)) (ac aa.loc ai)))) (ez (tgts:=["place"]) (cn:=["rows"]) (caps:=[2]) ⟨by rfl,by rfl,by rfl,by rfl,rfl,by rfl,by rfl,(cY.name (i:=0) (by decide +kernel) rfl (by rfl)),eV,(aa.sub (aa.sub aa.loc aa.loc) aq)⟩ (bU aa.loc)) ii) (ag (aE dl)
 ao) ao)
 ao)))
 (ag (aE dl)
 ao))))))))
def eC:TP:=bW 5 [] 9 nS
theorem ve {z}:bJ (aP z) 9 611 eC:=
 vN (n:=5) (ps:=["source","tree","rows","at","some"]) (rest:=["places","far","told","ids","context","asked","argument","words","due"]) (dVs:=[]) ⟨rfl,by rfl,rfl,rfl,rfl⟩ (bM λ_ _ _ _ _ _ X=>aaq rfl) rfl (λ_=>.nil) (by decide +kernel) (by rfl) (by decide +kernel) uz (λ_ _ _ h=>h)
noncomputable abbrev Ig:List Str:=["script","source","tree","rows","at","size","position","context","some","lot","due","plain","word","column","asked","name","arguments","wanted"]
abbrev qg:TS:=(aj (bX (oJ (bT (aF jh (ad (af 15) (ad (aF cx (ad (af 1) (ad (be (ad (tK (.str "a")) (ad (bl (ad (tK (.int 1)) (ad (tK (.int 1)) ak))) (ad (tK (.bool true)) ak)))) ak))) (ad (af 7) ak)))))) (aj (aS (tK (.bool false)))
 az) az)
 az)
abbrev qq:TS:=(aj (bX (bT (ar ia (aF bF (ad (af 15) (ad (af 16) (ad (af 7) ak)))) (af 17))) (aj (aS (tK (.bool false)))
 az) az)
 az)
abbrev m7:TS:=(aj (bY (cr .list bx (af 10) (ad (bl (ad (af 12) (ad (be (ad (af 9) ak)) (ad (fh (bT (ar ia (af 8) (be ak))) (ar aN (ar aN (af 3) (ar aN (af 8) (tK (.int 0)))) (af 13)) (tK (.str ""))) ak)))) ak)))
 (aj (bY (cr .list bx (af 10) (ad (bl (ad (af 12) (ad (be ak) (ad (ar aN (ar aN (af 3) (af 4)) (af 13)) ak)))) ak)))
 az))
abbrev AX:TE:=(aF fQ (ad (af 1) (ad (af 0) ak)))
abbrev CU:TE:=(ar aN (ar aN (af 1) (af 0)) (tK (.int 0)))
abbrev pI:TE:=(af 0)
abbrev vU:TB:=(bT (ar fH (aF f6 (ad (aF fQ (ad (af 1) (ad (af 0) ak))) ak)) (tK .none)))
abbrev A3:TE:=(aF fQ (ad (af 1) (ad (af 0) ak)))
abbrev Ju:TE:=(ar aN (ar aN (af 1) (af 0)) (tK (.int 0)))
abbrev zt:TE:=(af 0)
abbrev sI:TB:=(bT (ar bL (aF cy (ad (af 1) (ad (tK (.int 3)) ak))) (tK (.int 0))))
abbrev J9:TS:=
 (aj (vP [1,2] (bl (ad (aF pZ (ad (af 0) (ad (tK (.int 0)) ak))) (ad (aF (kM 524 kQ) ak) ak))))
 (aj (aX 3 (aF qi (ad (af 1) (ad (af 2) ak))))
 (aj (c8 [5,4] (bl (ad (aF cy (ad (af 1) (ad (aF dP (ad (af 3) ak)) ak))) (ad (ar cM (tK (.int 1)) (aF cy (ad (af 1) (ad (tK (.int 9)) ak)))) ak))))
 (aj (aX 6 (ar cM (tK (.int 1)) (aF cy (ad (af 1) (ad (af 5) ak)))))
 (aj (aX 7 (aF (kM 313 ja) (ad (af 2) (ad (ar aN (ar aN (af 3) (af 4)) (tK (.int 0))) (ad (af 6) (ad (af 5) ak))))))
 (aj (aX 8 (c7 1 [1] (nj (ad (aF dP (ad (af 3) ak)) ak)) (b8 0) sI zt))
 (aj (aX 9 (c7 1 [3] (b9 (af 8)) (b8 0) d3 Ju))
 (aj (aX 10 (be (ad (bl (ad (tK (.str "last")) (ad (be ak) (ad (bl (ad (af 5) (ad (tK (.int 1)) ak))) ak)))) (ad (bl (ad (tK (.str "position")) (ad (be ak) (ad (bl (ad (af 6) (ad (tK (.int 1)) ak))) ak)))) (ad (bl (ad (tK (.str "count")) (ad (be (ad (af 9) ak)) (ad (bl (ad (aF dP (ad (af 9) ak)) (ad (tK (.int 1)) ak))) ak)))) ak)))))
 (aj (bY (cr .list bx (af 10) (ad (bl (ad (tK (.str "sum")) (ad (be (ad (af 9) ak)) (ad (aF jt (ad (c7 1 [3] (b9 (af 8)) (b8 0) d3 A3) ak)) ak)))) ak)))
 (aj (aX 11 (c7 1 [3] (nj (ad (aF dP (ad (af 3) ak)) ak)) (b8 0) vU pI))
 (aj (bY (cr .list bx (af 10) (ad (bl (ad (tK (.str "sum")) (ad (be (ad (c7 1 [3] (b9 (af 11)) (b8 0) d3 CU) ak)) (ad (aF jt (ad (c7 1 [3] (b9 (af 11)) (b8 0) d3 AX) ak)) ak)))) ak)))
 (aj (eO (b9 (be (ad (bl (ad (tK (.str "name")) (ad (tK (.int 2)) ak))) (ad (bl (ad (tK (.str "local-name")) (ad (tK (.int 3)) ak))) (ad (bl (ad (tK (.str "namespace-uri")) (ad (tK (.int 4)) ak))) ak))))) (iq [12,13]) m7)
 (aj (aX 14 (aF cx (ad (af 1) (ad (be (ad (tK (.str "en")) (ad (tK (.str "EN-US")) (ad (tK (.str "fr")) (ad (tK (.str "e")) ak))))) ak))))
 (aj (bY (cr .list bx (af 10) (ad (bl (ad (tK (.str "lang")) (ad (be (ad (af 14) ak)) (ad (aF iy (ad (af 3) (ad (af 4) (ad (af 14) ak)))) ak)))) ak)))
 (aj (eO (b9 (af 10)) (iq [15,16,17]) qq)
 (aj (eO (b9 (be (ad (tK (.str "count")) (ad (tK (.str "sum")) (ad (tK (.str "name")) ak))))) (b8 15) qg)
 (aj (aS (l6 (aF dK ak) (aF eC (ad (af 1) (ad (af 2) (ad (af 3) (ad (af 4) (ad (af 8) ak))))))))
 az)))))))))))))))))
theorem KW {z}:ah (aP z) 10 (cF 64) Ig (cO 64) J9:=
 (ag (C6 (is:=[1,2]) (aV (ac (aa.call (BV _) (BF _) (aM.fn (Dl.mono (by decide))) (ac aa.loc (ac aq ai))) (ac (aa.call (Es _) (EW _) ((mJ (EG _) (nu _) (mP _) sL).mono (by decide)) ai) ai))) (.cons (i:=1) rfl (.cons (i:=2) rfl .nil)))
 (ag (au.set (i:=3) (aa.call (BH _) (Bt _) (aM.fn (C9.mono (by decide))) (ac aa.loc (ac aa.loc ai))))
 (ag (cP (is:=[5,4]) (xs:=["at","size"]) (aV (ac (aa.call (dc _) (df _) (aM.fn (dB.mono (by decide))) (ac aa.loc (ac (bB (dq _) (by decide +kernel) c0 (ac aa.loc ai)) ai))) (ac (aU aq (aa.call (dc _) (df _) (aM.fn (dB.mono (by decide))) (ac aa.loc (ac aq ai))) cL) ai))) (.cons (i:=5) rfl (.cons (i:=4) rfl .nil)))
 (ag (au.set (i:=6) (aU aq (aa.call (dc _) (df _) (aM.fn (dB.mono (by decide))) (ac aa.loc (ac aa.loc ai))) cL))
 (ag (au.set (i:=7) (aa.call (qm _) (pR _) ((mJ (qC _) (gY _) (gT _) uM).mono (by decide)) (ac aa.loc (ac (aa.sub (aa.sub aa.loc aa.loc) aq) (ac aa.loc (ac aa.loc ai))))))
 (ag (iA (j:=8) (tgts:=["place"]) (cn:=["source"]) (caps:=[1]) ⟨by rfl,by rfl,by rfl,by rfl,rfl,by rfl,by rfl,(cY.name (i:=0) (by decide +kernel) rfl (by rfl)),(iz (aC (aa.call (dc _) (df _) (aM.fn (dB.mono (by decide))) (ac aa.loc (ac aq ai))) aq bc)),aa.loc⟩ (mz (ac (bB (dq _) (by decide +kernel) c0 (ac aa.loc ai)) ai) (qe _)) rfl (by rfl))
 (ag (iA (j:=9) (tgts:=["place"]) (cn:=["rows"]) (caps:=[3]) ⟨by rfl,by rfl,by rfl,by rfl,rfl,by rfl,by rfl,(cY.name (i:=0) (by decide +kernel) rfl (by rfl)),eV,(aa.sub (aa.sub aa.loc aa.loc) aq)⟩ (bU aa.loc) rfl (by rfl))
 (ag (au.set (i:=10) (aY (ac (aV (ac aw (ac (aY ai) (ac (aV (ac aa.loc (ac aq ai))) ai)))) (ac (aV (ac aw (ac (aY ai) (ac (aV (ac aa.loc (ac aq ai))) ai)))) (ac (aV (ac aw (ac (aY (ac aa.loc ai)) (ac (aV (ac (bB (dq _) (by decide +kernel) c0 (ac aa.loc ai)) (ac aq ai))) ai)))) ai)))))
 (ag (cg (ba (k:=.list) aa.loc (ac (aV (ac aw (ac (aY (ac aa.loc ai)) (ac (aa.call (uV _) (uW _) (aM.fn (wZ.mono (by decide))) (ac (ez (tgts:=["place"]) (cn:=["rows"]) (caps:=[3]) ⟨by rfl,by rfl,by rfl,by rfl,rfl,by rfl,by rfl,(cY.name (i:=0) (by decide +kernel) rfl (by rfl)),eV,(aa.call (i5 _) (i8 _) (aM.fn (j3.mono (by decide))) (ac aa.loc (ac aa.loc ai)))⟩ (bU aa.loc)) ai)) ai)))) ai) cf abp abq))
 (ag (iA (j:=11) (tgts:=["place"]) (cn:=["rows"]) (caps:=[3]) ⟨by rfl,by rfl,by rfl,by rfl,rfl,by rfl,by rfl,(cY.name (i:=0) (by decide +kernel) rfl (by rfl)),(iz (aC (aa.call (pt _) (pB _) (aM.fn (qS.mono (by decide))) (ac (aa.call (i5 _) (i8 _) (aM.fn (j3.mono (by decide))) (ac aa.loc (ac aa.loc ai))) ai)) bo fF)),aa.loc⟩ (mz (ac (bB (dq _) (by decide +kernel) c0 (ac aa.loc ai)) ai) (qe _)) rfl (by rfl))
 (ag (cg (ba (k:=.list) aa.loc (ac (aV (ac aw (ac (aY (ac (ez (tgts:=["place"]) (cn:=["rows"]) (caps:=[3]) ⟨by rfl,by rfl,by rfl,by rfl,rfl,by rfl,by rfl,(cY.name (i:=0) (by decide +kernel) rfl (by rfl)),eV,(aa.sub (aa.sub aa.loc aa.loc) aq)⟩ (bU aa.loc)) ai)) (ac (aa.call (uV _) (uW _) (aM.fn (wZ.mono (by decide))) (ac (ez (tgts:=["place"]) (cn:=["rows"]) (caps:=[3]) ⟨by rfl,by rfl,by rfl,by rfl,rfl,by rfl,by rfl,(cY.name (i:=0) (by decide +kernel) rfl (by rfl)),eV,(aa.call (i5 _) (i8 _) (aM.fn (j3.mono (by decide))) (ac aa.loc (ac aa.loc ai)))⟩ (bU aa.loc)) ai)) ai)))) ai) cf abp abq))
 (ag (dn (bU (aY (ac (aV (ac aw (ac aq ai))) (ac (aV (ac aw (ac aq ai))) (ac (aV (ac aw (ac aq ai))) ai))))) (qI (.cons (i:=12) rfl (.cons (i:=13) rfl .nil))) (ag (cg (ba (k:=.list) aa.loc (ac (aV (ac aa.loc (ac (aY (ac aa.loc ai)) (ac (cA (aC aa.loc (aY ai) ii) (aa.sub (aa.sub aa.loc (aa.sub aa.loc aq)) aa.loc) aw) ai)))) ai) cf abp abq))
 (ag (cg (ba (k:=.list) aa.loc (ac (aV (ac aa.loc (ac (aY ai) (ac (aa.sub (aa.sub aa.loc aa.loc) aa.loc) ai)))) ai) cf abp abq))
 ao)))
 (ag (au.set (i:=14) (aa.call (dZ _) (d4 _) (aM.fn (eS.mono (by decide))) (ac aa.loc (ac (aY (ac aw (ac aw (ac aw (ac aw ai))))) ai))))
 (ag (cg (ba (k:=.list) aa.loc (ac (aV (ac aw (ac (aY (ac aa.loc ai)) (ac (aa.call (yR _) (ye _) (aM.fn (Ah.mono (by decide))) (ac aa.loc (ac aa.loc (ac aa.loc ai)))) ai)))) ai) cf abp abq))
 (ag (dn (bU aa.loc) (qI (.cons (i:=15) rfl (.cons (i:=16) rfl (.cons (i:=17) rfl .nil)))) (ag (aZ (aC (aa.call (ib _) (g7 _) (aM.fn (j6.mono (by decide))) (ac aa.loc (ac aa.loc (ac aa.loc ai)))) aa.loc ii) (ag (aE dl)
 ao) ao)
 ao))
 (ag (dn (bU (aY (ac aw (ac aw (ac aw ai))))) (fY.name (i:=15)) (ag (aZ (nz (aJ.val (aa.call (rZ _) (se _) (aM.fn (uF.mono (by decide))) (ac aa.loc (ac (aa.call (dZ _) (d4 _) (aM.fn (eS.mono (by decide))) (ac aa.loc (ac (aY (ac aw (ac (aV (ac aq (ac aq ai))) (ac dl ai)))) ai))) (ac aa.loc ai)))))) (ag (aE dl)
 ao) ao)
 ao))
 (ag (aE (qJ (aa.call (rL _) (rO _) (aM.fn (tF.mono (by decide))) ai) (aa.call (uu _) (uB _) (aM.fn (ve.mono (by decide))) (ac aa.loc (ac aa.loc (ac aa.loc (ac aa.loc (ac aa.loc ai))))))))
 ao)))))))))))))))))
def Kf:TP:=bW 1 [] 17 J9

theorem law_run {w:aa9}{h:Heap}{p:adh}{loose:List Str}{mean:ajg->Option aac}{mg mb:Str->Option aac}{L l a1 a2:Addr}{h₁:Heap}{m:Str->Option aac}{ws:List aac}{ns:List Int}{o1 o2:Obj}{v1 v2:Option aac}{env:Env}{s:aal}
  {Qc:Flow->aal->Prop} {E:aac->aal->Prop}
  (X':(KK w).In h) (T':Top p loose mean mg mb h) (aap:ajn h 140 138) (K':ai3 callerA h [] h) (hs:s.heap=h₁) (F':Fr h L h₁ m) (ZI:h.IsList l ws.toArray) (hI:IntsAre ws ns) (hm:m ("script":Str)=some (.ref l))
  (N':News h L h₁ [(a1,o1),(a2,o2),(138,adn #[])]) (Zb:a1≠a2) (h13:a1≠138) (h23:a2≠138) (d1:o1.data=.cell v1) (d2:o2.data=.cell v2)
  (Te:env.scope=(cF 64)) (VL:env.globals=aam) (hbu:env.builtins=builtinsNs) (Qz:env.locals=L) (US:env.frame=some L) (Q9:env.cells=[(("rows":Str),a1),(("source":Str),a2)])
  (hL:Kf [.ext ns] [] λV _=>V=.bool true)
  (P:∀h' m' tk,Fr h L h' m'->GrownAt 138 h'->Qc (.ret (.bool true)) { s with heap:=h',toks:=tk }) :
  wpAny (abe agf w) (callerA.deeper env) (execs (cO 64) env) Qc E s:=by
 subst hs
 have hk:env.scope.kind=.function:=by rw [Te]; rfl
 have C:Cf (aP (w,h,p,loose,mean,mg,mb)) 10 (callerA.deeper env) h L:=⟨⟨X',T',aap⟩,⟨callerA,[],env,K',rfl,US,hk⟩,rfl,(show callerA.depth+1+3 * 10+3 < afx by decide),(show callerA.units+3+10 * 10+200 < cLine by decide),⟨abt _,λ_=>⟨⟨env,rfl⟩,rfl⟩⟩⟩
 have W:Wd (aP (w,h,p,loose,mean,mg,mb)) [] [] [(a1,o1),(a2,o2),(138,adn #[])]:=by
  refine⟨by simp [Zb,h13,h23],rfl,λi j p q hp=>(by cases hp),λi o hi=>(by cases hi),⟨#[],by simp [aP],.inl rfl,λc hc=>by simp at hc⟩⟩
 have Qr:∀x,env.kindOf x=(cF 64).names.lookup x:=λx=>by unfold acd; rw [Te]
 obtain⟨_,t⟩:=hL
 refine KW (z:=(w,h,p,loose,mean,mg,mb)) (callerA.deeper env) h L env C ⟨Te,rfl,VL,hbu⟩ s m [] [] _ _ ⟨F',N',W⟩ ?_ ⟨by decide +kernel,Qz,?_,?_,?_,?_⟩ _ _ E t ?_
 ·intro i x V hx hV
  rcases i with _ | i
  ·cases hx
   cases hV
   exact⟨.ref l,.fr (by rw [Qr]; rfl) Qz hm,.ext ZI hI⟩
  ·exfalso
   simp only [abj,ad4,abv,add,abA,acm,afo] at hV
   split at hV <;> cases hV
 ·intro x hx
  have:(Ig.all λx=>(cF 64).names.lookup x == some .local || (cF 64).names.lookup x == some .cell)=true:=by rfl
  have:=iX this x hx
  rw [Qr]
  rcases ahX.mp this with q | q
  ·exact .inl (eq_of_beq q)
  ·exact .inr (eq_of_beq q)
 ·intro x hx
  rw [Qr] at hx
  have Rf:x=("rows":Str)\/x=("source":Str):=by
   have hm:=dO hx
   have:((cF 64).names.all λq=>!(q.2 == .cell) || (q.1 == ("rows":Str) || q.1 == ("source":Str)))=true:=by rfl
   have:=iX this _ hm
   simpa using this
  rcases Rf with rfl | rfl
  ·exact⟨a1,o1,v1,by rw [Q9]; rfl,h13,by simp [bq],.head _,d1⟩
  ·exact⟨a2,o2,v2,by rw [Q9]; rfl,h23,by simp [bq],.tail _ (.head _),d2⟩
 ·intro x y c hx hy
  rw [Q9] at hx hy
  have h1:=dO hx
  have h2:=dO hy
  simp only [abB,Prod.mk.injEq,abx,or_false] at h1 h2
  rcases h1 with ⟨rfl,rfl⟩ | ⟨rfl,rfl⟩ <;> rcases h2 with ⟨rfl,e⟩ | ⟨rfl,e⟩
  ·rfl
  ·exact absurd e Zb
  ·exact absurd e.symm Zb
  ·rfl
 ·intro q hq
  rw [Q9] at hq
  simp only [abB,abx,or_false] at hq
  rcases hq with rfl | rfl
  ·exact⟨o1,.head _⟩
  ·exact⟨o2,.tail _ (.head _)⟩
 ·intro f fc Rq Ps PG Pu m' h' PV S' Lo' O' g' r' q'
  cases r' with
  | ret r =>
   have q'':_=MV.bool true:=q'
   subst q''
   cases r
   obtain⟨ps,Ti,_⟩:=S'.W.tabs
   exact P h' m' PV S'.F ⟨ps,S'.N.get Ti⟩
  | next=>cases (show MV.none=.bool true from q')
  | brk=>exact (show False from q').elim
  | cont=>exact (show False from q').elim
theorem zV {a b:Int}:(adJ a).eqv (adJ b)=decide (a=b):=by
 unfold abK
 by_cases h:a=b <;> simp [h]
def BS (b:TS)(Q:MF->aG->MS->Prop):MF->aG->MS->Prop:=λf P9 Pt=>match f with | .next=>b P9 Pt Q | f=>Q f P9 Pt
def JZ (Q:Bool->MS->Prop):MV->MS->Prop:=λV Pt=>rc (λb=>Q b Pt) V
def G5 (a b:TS)(ρ:aG)(Q:MF->aG->MS->Prop):Bool->MS->Prop:=λx st=>if x then a ρ st Q else b ρ st Q
def BQ (a b:TE)(ρ:aG)(Q:MV->MS->Prop):Bool->MS->Prop:=λx st=>if x then a ρ st Q else b ρ st Q
def BN (b:TB)(ρ:aG)(Q:Bool->MS->Prop):Bool->MS->Prop:=λx st=>if x then b ρ st Q else Q false st
def HA (b:TB)(ρ:aG)(Q:Bool->MS->Prop):Bool->MS->Prop:=λx st=>if x then Q true st else b ρ st Q
def Je (B:Bool->MS->Prop):Bool->MS->Prop:=λb st=>B (!b) st
def M3 (is:List Nat)(ρ:aG)(Q:MF->aG->MS->Prop):MV->MS->Prop:=λV Pt=>uQ (λVs=>Vs.length=is.length/\Q .next (fj ρ is Vs) Pt) V
def Kk (is:List Nat)(ρ:aG)(Q:MF->aG->MS->Prop):MV->MS->Prop:=λV Pt=>uQ (λVs=>Vs.length=is.length/\Q .next (fj ρ is Vs.reverse) Pt) V
def N7 (tg:TG)(b:TS)(ρ:aG)(Q:MF->aG->MS->Prop):List MV->(MS->Prop)->MS->Prop:=λxs G Pt=>eh G tg b xs ρ Pt Q
def Hh (Q:List MV->(MS->Prop)->MS->Prop):MV->MS->Prop:=λV Pt=>h7 (λr=>cE Pt[r]? λxs=>Q xs (λst=>st[r]?=some (.list xs)) Pt) V
def LB (Q:List MV->(MS->Prop)->MS->Prop):List MV->MS->Prop:=λVs Pt=>Cg (kg λn=>0<=n/\n < 2 ^ 62/\Q (oG n.toNat) (λ_=>True) Pt) Vs
def uc (G:MS->Prop)(tg:TG)(b:TS)(xs:List MV)(Q:MF->aG->MS->Prop):MF->aG->MS->Prop:=λf Qk Pz=>match f with
 | .next=>eh G tg b xs Qk Pz Q
 | .cont=>eh G tg b xs Qk Pz Q
 | .brk=>Q .next Qk Pz
 | .ret V=>Q (.ret V) Qk Pz
def yf (c:TB)(b:TS)(n:Nat)(Q:MF->aG->MS->Prop):MF->aG->MS->Prop:=λf Qk Pz=>match f with
 | .next=>ey c b n Qk Pz Q
 | .cont=>ey c b n Qk Pz Q
 | .brk=>Q .next Qk Pz
 | .ret V=>Q (.ret V) Qk Pz
def By (c:TB)(b:TS)(n:Nat)(ρ:aG)(Q:MF->aG->MS->Prop):Bool->MS->Prop:=λx st=>if x then b ρ st (yf c b n Q) else Q .next ρ st
def MH (i:Nat)(ρ:aG)(Q:MF->aG->MS->Prop):MV->MS->Prop:=λV st=>Q .next (ρ.set i (some V)) st
def Hx (ρ:aG)(Q:MF->aG->MS->Prop):MV->MS->Prop:=λV st=>Q (.ret V) ρ st
def MJ (S:TP)(P:MV->MS->Prop):List MV->MS->Prop:=λVs st=>S Vs st P
def CW (V:MV)(K:List MV->MS->Prop):List MV->MS->Prop:=λVs st=>K (V::Vs) st
def NP (l:TL)(ρ:aG)(K:List MV->MS->Prop):MV->MS->Prop:=λV st=>l ρ st (CW V K)
def MU (P:MV->MS->Prop):List MV->MS->Prop:=λVs st=>P (.tup Vs) st
def MN (P:MV->MS->Prop):List MV->MS->Prop:=λVs st=>P (.ref st.length) (st++[.list Vs])
def II (S:TP)(V:MV)(P:MV->MS->Prop):MV->MS->Prop:=λW st=>S [V,W] st P
def IX (S:TP)(y:TE)(ρ:aG)(P:MV->MS->Prop):MV->MS->Prop:=λV st=>y ρ st (II S V P)
def NQ (S:TP)(P:MV->MS->Prop):MV->MS->Prop:=λV st=>S [V] st P
def vw (S:TP)(V:MV)(P:MV->MS->Prop):List MV->MS->Prop:=λVs st=>S (V::Vs) st P
def M5 (C:Addr)(S:TP)(l:TL)(ρ:aG)(P:MV->MS->Prop):MV->MS->Prop:=λV st=>w8 C V st/\l ρ st (vw S V P)
def Kw (k:Kd)(S:TP)(l:TL)(ρ:aG)(P:MV->MS->Prop):MV->MS->Prop:=λV st=>k.ok V st/\l ρ st (vw S V P)
def Jv (V lo:MV)(P:MV->MS->Prop):MV->MS->Prop:=λhi st=>AH V lo hi st P
def JG (V:MV)(u:TE)(ρ:aG)(P:MV->MS->Prop):MV->MS->Prop:=λlo st=>u ρ st (Jv V lo P)
def NN (y u:TE)(ρ:aG)(P:MV->MS->Prop):MV->MS->Prop:=λV st=>y ρ st (JG V u ρ P)
def Mn (S:TP)(W:MV)(P:MV->MS->Prop):MV->MS->Prop:=λV st=>S [V,W] st P
def MT (i:Nat)(b:TS)(ρ:aG)(Q:MF->aG->MS->Prop):MV->MS->Prop:=λV st=>b (ρ.set i (some V)) st Q
def Jo (b:TS)(ρ:aG)(Q:MF->aG->MS->Prop):MV->MS->Prop:=λV st=>Nc (b ρ st Q) V
def M8 (y:TE)(ρ:aG)(Q:MV->MS->Prop):MV->MS->Prop:=λV Pt=>rc (λx=>if x then Q (.bool true) Pt else y ρ Pt Q) V
def xH (y:TE)(ρ:aG)(Q:MV->MS->Prop):MV->MS->Prop:=λV Pt=>rc (λx=>if x then y ρ Pt Q else Q (.bool false) Pt) V
def Kg (nT:Nat)(caps:List Nat)(tg:TG)(c:TB)(e:TE)(ρ:aG)(Q:MV->MS->Prop):List MV->(MS->Prop)->MS->Prop:=λxs G Pt=>xs.length<=abD/\fq G tg c e xs (jv nT caps ρ) [] Pt λys Pz=>Q (.ref Pz.length) (Pz++[.list ys])
def Ia (Q:List MV->(MS->Prop)->MS->Prop):List MV->MS->Prop:=λVs Pt=>Cg (h7 λr=>cE Pt[r]? λxs=>Q (lY 0 xs) (λst=>st[r]?=some (.list xs)) Pt) Vs
section
variable {ρ:aG}{st:MS}{Q:MF->aG->MS->Prop}{P:MV->MS->Prop}{B:Bool->MS->Prop}{a b:TS}{x y z:TE}{c e:TB}{i:Nat}{V:MV}{l r:TL}{S:TP}
theorem Mc (h:a ρ st (BS b Q)):aj a b ρ st Q:=h
theorem Kb (h:Q .next ρ st):az ρ st Q:=h
theorem tw (h:b ρ st Q):BS b Q .next ρ st:=h
theorem OL (h:Q (.ret V) ρ st):BS b Q (.ret V) ρ st:=h
theorem OB (h:P V st):fa P (.ret V) ρ st:=h
theorem OY (h:a ρ st Q):G5 a b ρ Q true st:=h
theorem ND (h:b ρ st Q):G5 a b ρ Q false st:=h
theorem bH {p:Prop} [Decidable p] (h1:p->a ρ st Q)(h2:¬p->b ρ st Q):G5 a b ρ Q (decide p) st:=by
 unfold G5
 by_cases h:p
 ·rw [decide_eq_true h]; exact h1 h
 ·rw [decide_eq_false h]; exact h2 h
theorem O3 {is:List Nat}(h:x ρ st (M3 is ρ Q)):vP is x ρ st Q:=h
theorem OE {is:List Nat}(h:x ρ st (Kk is ρ Q)):c8 is x ρ st Q:=h
theorem Iq {is:List Nat}{Vs:List MV}(hl:Vs.length=is.length)(h:Q .next (fj ρ is Vs) st):M3 is ρ Q (.tup Vs) st:=⟨hl,h⟩
theorem eD {is:List Nat}{Vs:List MV}(hl:Vs.length=is.length)(h:Q .next (fj ρ is Vs.reverse) st):Kk is ρ Q (.tup Vs) st:=⟨hl,h⟩
theorem OQ (h:ar S (af i) x ρ st (MH i ρ Q)):pW S i x ρ st Q:=h
theorem Pe {T:TI}{tg:TG}(h:T ρ st (N7 tg b ρ Q)):eO T tg b ρ st Q:=h
theorem LV {K:List MV->(MS->Prop)->MS->Prop}(h:x ρ st (Hh K)):b9 x ρ st K:=h
theorem NZ {K:List MV->(MS->Prop)->MS->Prop}(h:l ρ st (LB K)):nj l ρ st K:=h
theorem cb {K:List MV->(MS->Prop)->MS->Prop}{xs:List MV}(hx:st[i]?=some (.list xs))(h:K xs (λst=>st[i]?=some (.list xs)) st):Hh K (.ref i) st:=by
 show cE st[i]? _
 rw [hx]; exact h
theorem iF (h0:ρ[i]?=some (some V))(h:P V st):af i ρ st P:=by unfold af; rw [h0]; exact h
theorem Pq (h:P V st):tK V ρ st P:=h
theorem O4 (h:l ρ st (MJ S P)):aF S l ρ st P:=h
theorem Ow {K:List MV->MS->Prop}(h:K [] st):ak ρ st K:=h
theorem Od {K:List MV->MS->Prop}(h:x ρ st (NP l ρ K)):ad x l ρ st K:=h
theorem OU (h:l ρ st (MU P)):bl l ρ st P:=h
theorem Nu (h:l ρ st (MN P)):be l ρ st P:=h
theorem Pc (h:x ρ st (IX S y ρ P)):ar S x y ρ st P:=h
theorem Po (h:x ρ st (NQ S P)):ir S x ρ st P:=h
theorem Ks (h:c ρ st (BQ x y ρ P)):fh c x y ρ st P:=h
theorem OA (h:x ρ st P):BQ x y ρ P true st:=h
theorem OK (h:y ρ st P):BQ x y ρ P false st:=h
theorem LY (h:x ρ st (JZ B)):bT x ρ st B:=h
theorem NW {t:Bool}(h:B t st):JZ B (.bool t) st:=h
theorem Oc (h:B true st):fV ρ st B:=h
theorem N3 (h:B false st):iw ρ st B:=h
theorem Nn (h:c ρ st (Je B)):oJ c ρ st B:=h
theorem On (h:B false st):Je B true st:=h
theorem Oo (h:B true st):Je B false st:=h
theorem Pg (h:c ρ st (BN e ρ B)):dz c e ρ st B:=h
theorem Ox (h:e ρ st B):BN e ρ B true st:=h
theorem Oi (h:B false st):BN e ρ B false st:=h
theorem Pn (h:c ρ st (HA e ρ B)):lJ c e ρ st B:=h
theorem Pj (h:B true st):HA e ρ B true st:=h
theorem Pb (h:e ρ st B):HA e ρ B false st:=h
theorem Ka {C:Addr}{name:Str}(h:x ρ st (I1 C name P)):cC C name x ρ st P:=h
theorem eG {o:Option MO}{K:List MV->Prop}{xs:List MV}(hi:o=some (.list xs))(h:K xs):cE o K:=by rw [hi]; exact h
theorem GL {o:Option MO}{K:List (Str×MV)->Prop}{fs:List (Str×MV)}{ep:Nat}(hi:o=some (.dict fs ep))(h:K fs):wN o K:=by rw [hi]; exact h
theorem lT {X:Type}{o:Option X}{K:X->Prop}{x:X}(hi:o=some x)(h:K x):dT o K:=by rw [hi]; exact h
theorem GF {o:Option MO}{C:Addr}{K:List (Str×MV)->Prop}{fs:List (Str×MV)}(hi:o=some (.inst C fs))(h:K fs):w4 C K o:=by rw [hi]; exact⟨rfl,h⟩
theorem bE {C:Addr}{name:Str}{fs:List (Str×MV)}(hi:st[i]?=some (.inst C fs))(hf:fs.lookup name=some V)(h:P V st):I1 C name P (.ref i) st:=GF hi (lT hf h)
theorem LF {a b c:TE}{x y z:Int}{Q:Bool->MS->Prop}(ha:∀P:MV->MS->Prop,P (.int x) st->a ρ st P)(hb:∀P:MV->MS->Prop,P (.int y) st->b ρ st P)(hc:∀P:MV->MS->Prop,P (.int z) st->c ρ st P)(h1:x<=y)(h2:y < z)(h:Q true st) :
  Bz (bw λa b=>decide (a<=b)) (bw λa b=>decide (a < b)) a b c ρ st Q:=
 ha _ (hb _ (show NM (bw λa b=>decide (a < b)) c ρ Q (.int y) (.bool (decide (x<=y))) st by
  rw [decide_eq_true h1]; exact hc _ (show Q (decide (y < z)) st by rw [decide_eq_true h2]; exact h)))
theorem OC {C:Addr}(h:x ρ st (M5 C S l ρ P)):bf C S x l ρ st P:=h
theorem Pm {k:Kd}(h:x ρ st (Kw k S l ρ P)):cr k S x l ρ st P:=h
theorem OZ {n:Int}(h:P (.bool false) st):mR [.int n,.none] st P:=h
theorem O5 {n:Str}(h:P (.bool false) st):mR [.str n,.none] st P:=h
theorem OO {n:Nat}(h:P (.bool false) st):mR [.ref n,.none] st P:=h
theorem J5 (h:P (.bool true) st):mR [.none,.none] st P:=h
theorem O0 {n:Int}(h:P (.bool true) st):fH [.int n,.none] st P:=h
theorem Pf (h:P (.bool false) st):fH [.none,.none] st P:=h
theorem xF {G:MS->Prop}{tg:TG}(hG:G st)(h:Q .next ρ st):eh G tg b [] ρ st Q:=⟨hG,h⟩
theorem cS {G:MS->Prop}{xs:List MV}(hG:G st)(h:b (ρ.set i (some V)) st (uc G (b8 i) b xs Q)):eh G (b8 i) b (V::xs) ρ st Q:=⟨hG,h⟩
theorem Ph {G:MS->Prop}{tg:TG}{xs:List MV}(h:eh G tg b xs ρ st Q):uc G tg b xs Q .next ρ st:=h
theorem OV {G:MS->Prop}{tg:TG}{xs:List MV}(h:Q (.ret V) ρ st):uc G tg b xs Q (.ret V) ρ st:=h
theorem dG {p:Prop} [Decidable p] (h1:p->e ρ st B)(h2:¬p->B false st):BN e ρ B (decide p) st:=by
 unfold BN
 by_cases h:p
 ·rw [decide_eq_true h]; exact h1 h
 ·rw [decide_eq_false h]; exact h2 h
theorem fA {n:Nat}(h:c ρ st (By c b n ρ Q)):ey c b (n+1) ρ st Q:=h
theorem OD {n:Nat}(h:b ρ st (yf c b n Q)):By c b n ρ Q true st:=h
theorem Mw {n:Nat}(h:Q .next ρ st):By c b n ρ Q false st:=h
theorem Ou {n:Nat}(h:ey c b n ρ st Q):yf c b n Q .next ρ st:=h
theorem Os {n:Nat}(h:Q (.ret V) ρ st):yf c b n Q (.ret V) ρ st:=h
theorem IC {n:Nat}{p:Prop} [Decidable p] (h1:p->b ρ st (yf c b n Q))(h2:¬p->Q .next ρ st):By c b n ρ Q (decide p) st:=by
 unfold By
 by_cases h:p
 ·rw [decide_eq_true h]; exact h1 h
 ·rw [decide_eq_false h]; exact h2 h
theorem O9 {f:Int->Int->Bool}{m n:Int}(h:P (.bool (f m n)) st):bw f [.int m,.int n] st P:=h
theorem ck {f:Int->Int->Int}{ok:Int->Int->Prop}{m n:Int}(hk:ok m n)(h:P (.int (f m n)) st):bh f ok [.int m,.int n] st P:=⟨hk,h⟩
theorem O2 {m:Int}(h:P (.int (-m)) st):fP [.int m] st P:=h
theorem O1 {m n:Int}(h:P (.int (m+n)) st):cM [.int m,.int n] st P:=h
theorem Pa {m n:Str}(h:P (.bool (decide (m=n))) st):bL [.str m,.str n] st P:=h
theorem Kl {m n:Str}(h:P (.bool (!decide (m=n))) st):ia [.str m,.str n] st P:=h
theorem jI {a b:Option abX}{K:abX->abX->Prop}{R:Prop}{d e:abX}(ha:a=some d)(hb:b=some e)(h:K d e):pU a b K R:=by rw [ha,hb]; exact h
theorem JB {a b:Option abX}{K:abX->List abX->Prop}{d:abX}{ds:List abX}(ha:a=some d)(hb:b=some (.list ds))(h:K d ds):xt a b K:=by rw [ha,hb]; exact h
theorem JO {UI:Bool}{x y:Str}(h:P (.bool (xor UI (ln y x))) st):ic UI [.str y,.str x] st P:=h
theorem dX {xs:List MV}{ds:List abX}(hi:st[i]?=some (.list xs))(hd:fw xs=some ds):fu st (.ref i)=some (.list ds):=by
 show lN ed st[i]?=_
 rw [hi]; exact congrArg (aeY aiU) hd
theorem HR {xs:List MV}{ds:List abX}(hd:fw xs=some ds):fu st (.tup xs)=some (.tuple ds):=congrArg (aeY PyData.tuple) hd
theorem pH {x:Str}(h:ab7 x=true):ed (.str x)=some (.str x):=if_pos h
theorem yz {a b:Str}(ha:ab7 a=true)(hb:ab7 b=true):fw [.str a,.str b]=some [.str a,.str b]:=by
 unfold fw
 rw [adN,adN,pH ha,pH hb]; rfl
theorem pG {X Y Z:Type}{f:X->Option Z}{g:Y->X}{k:Y->Z}(hf:∀y,f (g y)=some (k y))(ys:List Y):(ys.map g).mapM f=some (ys.map k):=by
 induction ys with
 | nil=>rfl
 | cons y ys ih=>rw [abj,adN,hf,ih]; rfl
theorem wn {V W:MV}(hV:∀(K:Str->Str->Prop)(R:Prop),oF V W K R=R)(h:pU (fu st V) (fu st W) (λd e=>P (.bool (abK d e)) st) (pU (xn st V) (xn st W) (λd e=>P (.bool (abK d e)) st) False)):bL [V,W] st P:=(hV _ _).mpr h
theorem AD {V W:MV}(hV:∀(K:Str->Str->Prop)(R:Prop),oF V W K R=R)(h:pU (fu st V) (fu st W) (λd e=>P (.bool (!abK d e)) st) False):ia [V,W] st P:=(hV _ _).mpr h
theorem Fo {UI:Bool}{V W:MV}(hV:∀(K:Str->Str->Prop)(R:Prop),oF V W K R=R)(h:xt (ed V) (fu st W) λd ds=>P (.bool (xor UI (ds.any λy=>abK y d))) st):ic UI [V,W] st P:=(hV _ _).mpr h
theorem Ky {g e:Nat}{xs:List MV}{ds:List abX}(hg:st[g]?=some (.list xs))(h0:fw xs=none)(h2:xs.mapM (fu st)=some ds)(he:st[e]?=some (.list []))(h:P (.bool (abK (.list ds) (.list []))) st):bL [.ref g,.ref e] st P:=by
 have e1:fu st (.ref g)=none:=by
  show lN ed st[g]?=none
  rw [hg]; exact congrArg (aeY aiU) h0
 refine wn (λ_ _=>rfl) ?_
 rw [e1]
 show pU (lN (fu st) st[g]?) (lN (fu st) st[e]?) _ False
 rw [hg,he]
 exact jI (congrArg (aeY aiU) h2) rfl h
theorem NH {m n:Int}(h:P (.bool (decide (m=n))) st):bL [.int m,.int n] st P:=wn (λ_ _=>rfl) (jI rfl rfl (by rw [zV]; exact h))
theorem ES {g e:Nat}{xs:List MV}{ds:List abX}(hg:st[g]?=some (.list xs))(hd:fw xs=some ds)(he:st[e]?=some (.list []))(h:P (.bool (!xs.isEmpty)) st):ia [.ref g,.ref e] st P:=by
 refine AD (λ_ _=>rfl) (jI (dX hg hd) (dX (ds:=[]) he rfl) ?_)
 cases xs with
 | nil=>cases hd; simpa [abK,ad8] using h
 | cons v xs=>exact wV hd λy ys _ _ e=>by subst e; simpa [abK,ad8] using h
theorem Pk {u:TE}(h:x ρ st (NN y u ρ P)):iV x y u ρ st P:=h
theorem pz {t:Str}{j:Int}(hl:t.length<=1000)(h:P (.str (abG t none (some j))) st):AH (.str t) .none (.int j) st P:=⟨aan hl (by decide),h⟩
theorem xM {t:Str}{j:Int}(hl:t.length<=1000)(h:P (.str (abG t (some j) none)) st):AH (.str t) (.int j) .none st P:=⟨aan hl (by decide),h⟩
theorem m5 {t:Str}{i j:Int}(hl:t.length<=1000)(h:P (.str (abG t (some i) (some j))) st):AH (.str t) (.int i) (.int j) st P:=⟨aan hl (by decide),h⟩
theorem rU {t u:Str}(hl:(t++u).length<=1000)(h:P (.str (t++u)) st):cM [.str t,.str u] st P:=⟨aan hl (by decide),h⟩
theorem pE {p:Prop} [Decidable p] (h1:p->B true st)(h2:¬p->e ρ st B):HA e ρ B (decide p) st:=by
 unfold HA
 by_cases h:p
 ·rw [decide_eq_true h]; exact h1 h
 ·rw [decide_eq_false h]; exact h2 h
theorem Of (h:Q .next (ρ.set i (some V)) st):MH i ρ Q V st:=h
theorem Pi (h:Q (.ret V) ρ st):Hx ρ Q V st:=h
theorem OX (h:Hx ρ Q V st):Hx ρ (BS b Q) V st:=h
theorem O7 (h:P V st):Hx ρ (fa P) V st:=h
theorem OJ {Vs:List MV}(h:S Vs st P):MJ S P Vs st:=h
theorem Oz {Vs:List MV}{K:List MV->MS->Prop}(h:K (V::Vs) st):CW V K Vs st:=h
theorem ON {K:List MV->MS->Prop}(h:l ρ st (CW V K)):NP l ρ K V st:=h
theorem Oq {Vs:List MV}(h:P (.tup Vs) st):MU P Vs st:=h
theorem Oj {Vs:List MV}(h:P (.ref st.length) (st++[.list Vs])):MN P Vs st:=h
theorem Ov {W:MV}(h:S [V,W] st P):II S V P W st:=h
theorem OM (h:y ρ st (II S V P)):IX S y ρ P V st:=h
theorem OS (h:S [V] st P):NQ S P V st:=h
theorem Oe {Vs:List MV}(h:S (V::Vs) st P):vw S V P Vs st:=h
theorem bK {C:Addr}(h:w8 C V st)(h':l ρ st (vw S V P)):M5 C S l ρ P V st:=⟨h,h'⟩
theorem Oh {lo hi:MV}(h:AH V lo hi st P):Jv V lo P hi st:=h
theorem Om {u:TE}{lo:MV}(h:u ρ st (Jv V lo P)):JG V u ρ P lo st:=h
theorem OP {u:TE}(h:y ρ st (JG V u ρ P)):NN y u ρ P V st:=h
theorem Og (h:x ρ st (MT i b ρ Q)):aj (aX i x) b ρ st Q:=h
theorem OF (h:b (ρ.set i (some V)) st Q):MT i b ρ Q V st:=h
theorem Op (h:x ρ st (Hx ρ Q)):aj (aS x) b ρ st Q:=h
theorem Oa (h:x ρ st P):aj (aS x) b ρ st (fa P):=h
theorem Ob (h:x ρ st (Jo b ρ Q)):aj (bY x) b ρ st Q:=h
theorem HC (h:b ρ st Q):Jo b ρ Q .none st:=h
theorem OI {n:Int}(h:b ρ st Q):Jo b ρ Q (.int n) st:=h
theorem NK {a':TS}(h:c ρ st (G5 a a' ρ (BS b Q))):aj (bX c a a') b ρ st Q:=h
theorem OW {K:List MV->MS->Prop}(h0:ρ[i]?=some (some V))(h:l ρ st (CW V K)):ad (af i) l ρ st K:=iF h0 h
theorem Ol {K:List MV->MS->Prop}(h:l ρ st (CW V K)):ad (tK V) l ρ st K:=h
theorem O8 {K:List MV->MS->Prop}(h0:ρ[i]?=some (some V))(h:K [V] st):ad (af i) ak ρ st K:=iF h0 h
theorem Pd {K:List MV->MS->Prop}(h:K [V] st):ad (tK V) ak ρ st K:=h
theorem O6 {j:Nat}{W:MV}(h0:ρ[i]?=some (some V))(h1:ρ[j]?=some (some W))(h:S [V,W] st P):ar S (af i) (af j) ρ st P:=iF h0 (iF h1 h)
theorem Kq {W:MV}(h0:ρ[i]?=some (some V))(h:S [V,W] st P):ar S (af i) (tK W) ρ st P:=iF h0 h
theorem OT {W:MV}(h:x ρ st (Mn S W P)):ar S x (tK W) ρ st P:=h
theorem Ot {W:MV}(h:S [V,W] st P):Mn S W P V st:=h
theorem Kr (h:x ρ st (M8 y ρ P)):Bb x y ρ st P:=h
theorem wd (h:x ρ st (xH y ρ P)):l6 x y ρ st P:=h
theorem Ln {p:Prop} [Decidable p] (h1:p->y ρ st P)(h2:¬p->P (.bool false) st):xH y ρ P (.bool (decide p)) st:=by
 unfold xH
 by_cases h:p
 ·rw [decide_eq_true h]; exact h1 h
 ·rw [decide_eq_false h]; exact h2 h
theorem cD {n k:Nat}{ds Vs:List MV}{T:TS}(hn:Vs.length=n)(h:T ((Vs++ds).map some++abV k none) st (fa P)):bW n ds k T Vs st P:=⟨hn,h⟩
theorem dY {xs:List MV}(hi:st[i]?=some (.list xs))(h:l ρ st (vw S (.ref i) P)):Kw .list S l ρ P (.ref i) st:=⟨⟨i,xs,rfl,hi⟩,h⟩
theorem iJ {t:Str}(h:l ρ st (vw S (.str t) P)):Kw .str S l ρ P (.str t) st:=⟨⟨t,rfl⟩,h⟩
theorem J6 {fs:List (Str×MV)}{ep:Nat}(hi:st[i]?=some (.dict fs ep))(h:l ρ st (vw S (.ref i) P)):Kw .dict S l ρ P (.ref i) st:=⟨⟨i,fs,ep,rfl,hi⟩,h⟩
theorem eq {nT:Nat}{caps:List Nat}{src:TI}{tg:TG}{c:TB}{e:TE}(hc:(caps.all λi=>((ρ[i]?).join).isSome)=true)(h:src ρ st (Kg nT caps tg c e ρ P)):c7 nT caps src tg c e ρ st P:=⟨hc,h⟩
theorem dr {nT:Nat}{caps:List Nat}{tg:TG}{c:TB}{e:TE}{xs:List MV}{G:MS->Prop}(hl:xs.length<=1000)(h:fq G tg c e xs (jv nT caps ρ) [] st λys Pz=>P (.ref Pz.length) (Pz++[.list ys])):Kg nT caps tg c e ρ P xs G st:=⟨aan hl (by decide),h⟩
theorem EY {l:TL}{K:List MV->(MS->Prop)->MS->Prop}(h:l ρ st (Ia K)):AC l ρ st K:=h
theorem Bk {i:Nat}{xs:List MV}{K:List MV->(MS->Prop)->MS->Prop}(hi:st[i]?=some (.list xs))(h:K (lY 0 xs) (λst=>st[i]?=some (.list xs)) st):Ia K [.ref i] st:=eG hi h
end
theorem m0 {X:Type}{a:X}{l:List X}:a∈a::l:=.head _
theorem m1 {X:Type}{a b:X}{l:List X}:b∈a::b::l:=.tail _ (.head _)
theorem m2 {X:Type}{a b c:X}{l:List X}:c∈a::b::c::l:=.tail _ (.tail _ (.head _))
local macro_rules | `(tactic| walk_at "m")=>`(tactic| (first | exact m0 | exact m1 | exact m2 | simp))
@[irreducible] def sV (k:Nat) (n:String):Lean.Syntax:=
 let q:=sN `Lean.Parser.Term.syntheticHole #[.atom .none "?",.atom .none "_"]
 let w:=sN `Lean.Parser.Term.byTactic #[.atom .none "by",sQ #[sN `Lean.Parser.Tactic.withUnfoldingAll #[.atom .none "with_unfolding_all",sQ #[sN `Lean.Parser.Tactic.exact #[.atom .none "exact",.ident .none "rfl".toRawSubstring `rfl []]]]]]
 sN `group #[.atom .none "|",sQ #[sN `Lean.Parser.Tactic.refine #[.atom .none "refine",sN `Lean.Parser.Term.app #[.ident .none n.toRawSubstring (.mkSimple n) [],sN `null ((abV k w).toArray.push q)]]]]
@[irreducible] def sZ (a b c:String):Lean.Syntax:=
 sN `Lean.Parser.Tactic.withReducible #[.atom .none "with_reducible",sQ #[sN `Lean.Parser.Tactic.tacticRepeat_ #[.atom .none "repeat",sQ #[sN `Lean.Parser.Tactic.first #[.atom .none "first",sN `null (((a.splitOn " ").map (sV 1)++((b.splitOn " ").map (sV 2)++(c.splitOn " ").map (sV 0))).toArray)]]]]]
local macro_rules | `(tactic| walk_at "w")=>pure (sZ "O8 OW Kq iF" "O6" "Og Oa Op Ob NK Mc Kb tw OL OB OX O7 Pi OF Of HC OI OY ND O3 OE OQ Pe LV NZ Pq O4 Ow Pd Ol Od OT Ot OJ Oz ON Oq Oj Ov OM OS Oe Oh Om OP OU Nu Pc Po Ks OA OK LY NW Oc N3 Nn Pg Ox Oi Pn Pj Pb Ka OC Pm OZ O5 OO J5 O0 Pf On Oo O9 O2 O1 Ph OV Pk OD Mw Ou Os Pa Kl NH")
theorem yl {j:Int}{n k:Nat}(hj:j=(k:Int))(hk:k < n):afp j n=some k:=by
 subst hj
 unfold afp
 have h1:¬((k:Int) < 0):=by walk_at "o"
 simp [h1,hk]
theorem EK {xs:List MV}{j:Int}{k:Nat}{x:MV}{st:MS}{Q:MV->MS->Prop}(hj:j=(k:Int))(hx:xs[k]?=some x)(hl:xs.length < 2 ^ 62):aN [.tup xs,.int j] st Q↔Q x st:=by
 have hk:=(bP hx).1
 have e:=yl hj hk
 constructor
 ·rintro⟨_,n,y,h1,h2,h3⟩
  rw [e] at h1; cases h1
  rw [hx] at h2; cases h2
  exact h3
 ·intro h
  exact⟨⟨by walk_at "o",by walk_at "o"⟩,k,x,e,hx,h⟩
theorem Jz {x:MV}{st:MS}{Q:MV->MS->Prop}{y:MV}:aN [.tup [x,y],.int 0] st Q↔Q x st:=EK (k:=0) rfl rfl (by simp)
theorem I4 {x:MV}{st:MS}{Q:MV->MS->Prop}{y:MV}:aN [.tup [x,y],.int 1] st Q↔Q y st:=EK (k:=1) rfl rfl (by simp)
theorem kP {a b:Int}(h:a.natAbs < 2 ^ 63):acg a b:=by
 refine IntMulOk.of_left ?_
 unfold ah3
 by_cases h0:a.natAbs=0
 ·simp [h0]; split <;> walk_at "o"
 ·split
  ·simp
  ·have:a.natAbs.log2 < 63:=(aiV h0).mpr h
   walk_at "o"
theorem pf {a b:Int}(h:b.natAbs < 2 ^ 63):acg a b:=by
 refine IntMulOk.of_right ?_
 unfold ah3
 by_cases h0:b.natAbs=0
 ·simp [h0]; split <;> walk_at "o"
 ·split
  ·simp
  ·have:b.natAbs.log2 < 63:=(aiV h0).mpr h
   walk_at "o"
section
noncomputable abbrev num (a b:Int):MV:=.tup [.int a,.int b]
theorem xb {x y:MV}{st:MS}{Q:MV->MS->Prop}(h:Q x st):aN [.tup [x,y],.int 0] st Q:=Jz.mpr h
theorem j8 {x y:MV}{st:MS}{Q:MV->MS->Prop}(h:Q y st):aN [.tup [x,y],.int 1] st Q:=I4.mpr h
theorem CF {a b:Int}{st:MS}{Q:MV->MS->Prop}(h0:b=0->Q (.bool (decide (a=0))) st)(h1:b≠0->Q (.bool false) st):kO [num a b] st Q:=by
 refine cD rfl ?_
 walk_at "w"
 refine wd ?_
 walk_at "w"
 refine j8 ?_
 walk_at "w"
 refine Ln (λe=>?_) h1
 walk_at "w"
 refine xb ?_
 walk_at "w"
 exact h0 e
theorem AT {a b:Int}{st:MS}{Q:MV->MS->Prop}(hb:b≠0)(h:Q (.bool false) st):kO [num a b] st Q:=CF (λe=>absurd e hb) λ_=>h
theorem HT {st:MS}{Q:MV->MS->Prop}(h:Q (.bool true) st):kO [num 0 0] st Q:=CF (λ_=>h) λe=>absurd rfl e
noncomputable def Pr (n:Int):Int:=if n > 0 then 1 else if n < 0 then -1 else 0
theorem HX {a b:Int}{st:MS}{Q:MV->MS->Prop}(h:Q (num (-a) b) st):nD [num a b] st Q:=by
 refine cD rfl ?_
 walk_at "w"
 refine xb ?_
 walk_at "w"
 refine j8 ?_
 walk_at "w"
 exact h
theorem Hc (a b:Int):acl b (a % b)=acl a b:=by
 rw [Int.gcd_comm a b]
 have h:=Int.gcd_add_mul_right_right b (a % b) (a / b)
 rw [show a % b+a / b * b=a by rw [Int.mul_comm]; exact Int.emod_add_mul_ediv a b] at h
 exact h.symm
theorem FE:∀(n:Nat)(a b:Int)(x y:Option MV)(st:MS)(Q:MF->aG->MS->Prop),0<=a->0<=b->b.toNat < n->(∀b',Q .next [x,y,some (.int (acl a b:Nat)),b'] st) ->
  ey (bT (ar (bw λa b=>decide (a > b)) (af 3) (tK (.int 0)))) (aj (c8 [3,2] (bl (ad (af 3) (ad (ar (bh adb (λ_ b=>b≠0)) (af 2) (af 3)) ak)))) az) n [x,y,some (.int a),some (.int b)] st Q:=by
 intro n
 induction n with
 | zero =>
  intro a b x y st Q _ _ h _
  exact absurd h (ab9 _)
 | succ n ih =>
  intro a b x y st Q ha hb h q
  refine fA ?_
  by_cases hb0:b > 0
  ·have hm:0<=adb a b:=aep ha hb
   have PR:adb a b < b:=ae0 a hb0
   have e:acl b (adb a b)=acl a b:=by
    rw [agz a hb]
    exact Hc a b
   have:=ih b (adb a b) x y st Q hb hm (abJ ((Int.toNat_lt_toNat hb0).mpr PR) (Nat.le_of_lt_succ h)) (by rw [e]; exact q)
   walk_at "w"
   refine IC (λ_=>?_) λq=>absurd hb0 q
   walk_at "w"
   refine ck (Int.ne_of_gt hb0) ?_
   walk_at "w"
   refine eD rfl ?_
   walk_at "w"
   exact this
  ·have Wb:b=0:=by walk_at "o"
   subst Wb
   have:=q (some (.int 0))
   have e:acl a 0=a.natAbs:=by simp
   rw [e,Int.natAbs_of_nonneg ha] at this
   walk_at "w"
   refine IC (λq=>absurd q hb0) λ_=>?_
   exact this
theorem vo {a b:Int}{st:MS}{Q:MV->MS->Prop}(hb:0<=b)(h:Q (.int (acl a b:Nat)) st):jl [.int a,.int b] st Q:=by
 have e:(if a < 0 then -a else a)=(a.natAbs:Int):=by split <;> walk_at "o"
 refine abi rfl ?_
 refine abi rfl ?_
 show f2 _ _ [some (.int a),some (.int b),some (.int (if a < 0 then -a else a)),some (.int b)] st _
 rw [e]
 refine ad5 (b.toNat+1) (FE _ _ _ _ _ _ _ (by walk_at "o") hb (by walk_at "o") λb'=>?_)
 have e2:acl (a.natAbs:Int) b=acl a b:=by simp [acl]
 rw [e2]
 exact h
theorem i0 {a b:Int}{st:MS}{Q:MV->MS->Prop}(hb:0 < b)(Wb:b < 1000)(h:Q (num (a / (acl a b:Nat)) (b / (acl a b:Nat))) st):gJ [.int a,.int b] st Q:=by
 refine abi rfl ?_
 have h0:b≠0:=by walk_at "o"
 have h1:¬b < 0:=by walk_at "o"
 have g0:((acl a b:Nat):Int)≠0:=by
  have:=Int.gcd_pos_of_ne_zero_right a h0
  walk_at "o"
 have g1:((acl a b:Nat):Int).natAbs < 1073741824:=by
  have:acl a b<=b.natAbs:=Int.gcd_le_natAbs_right a h0
  walk_at "o"
 walk_at "w"
 refine bH (λq=>absurd q h0) λ_=>?_
 walk_at "w"
 refine bH (λq=>absurd q h1) λ_=>?_
 walk_at "w"
 refine vo (by walk_at "o") ?_
 rw [<- aeG _ (by walk_at "o"),<- aeG _ (by walk_at "o")] at h
 walk_at "w"
 refine ck ⟨g0,g1⟩ ?_
 walk_at "w"
 refine ck ⟨g0,g1⟩ ?_
 walk_at "w"
 exact h
theorem KC {x:Int}(h:x % 2=1):acl x 2=1:=by
 have h1:acl x 2 ∣ 2:=by
  have:=Int.gcd_dvd_right x 2
  exact_mod_cast this
 have h2:((acl x 2:Nat):Int) ∣ x:=Int.gcd_dvd_left x 2
 have h3:acl x 2<=2:=Nat.le_of_dvd (by decide) h1
 have h4:acl x 2≠0:=λe=>by rw [e] at h1; walk_at "o"
 have h5:acl x 2≠2:=λe=>by rw [e] at h2; walk_at "o"
 walk_at "o"
theorem gO {a:Int}{st:MS}{Q:MV->MS->Prop}(h:Q (num a 1) st):eI [.int a] st Q:=by
 have:=(i0 (a:=a) (b:=1) (st:=st) (Q:=Q) (by walk_at "o") (by walk_at "o") (by simpa [Int.gcd_one] using h)).2
 exact abi rfl this
noncomputable def gM:Option Int->MV
 | none=>num 0 0
 | some h=>if h % 2=0 then num (h / 2) 1 else num h 2
noncomputable def tf:Option Int->Option Int->Option Int
 | some a,some b=>some (a+b)
 | _,_=>none
theorem Az {x:Int}{P:MV->Prop}(h1:∀n,2 * n=x->P (num n 1))(h2:x % 2=1->P (num x 2)):P (gM (some x)):=by
 show P (if x % 2=0 then num (x / 2) 1 else num x 2)
 by_cases he:x % 2=0
 ·rw [if_pos he]; exact h1 _ (by walk_at "o")
 ·rw [if_neg he]; exact h2 (by walk_at "o")
theorem J3 {n x:Int}(h:2 * n=x):gM (some x)=num n 1:=by
 subst h
 have h1:2 * n % 2=0:=by walk_at "o"
 have h2:2 * n / 2=n:=by walk_at "o"
 show (if 2 * n % 2=0 then num (2 * n / 2) 1 else num (2 * n) 2)=_
 rw [if_pos h1,h2]
theorem J4 {x:Int}(h:x % 2=1):gM (some x)=num x 2:=if_neg (by walk_at "o")
theorem zw {n d:Int}{st:MS}{Q:MV->MS->Prop}(d0:d≠0)(h:Q (num 0 0) st):j5 [num n d,num 0 0] st Q:=by
 refine cD rfl ?_
 walk_at "w"
 refine AT d0 ?_
 walk_at "w"
 refine HT ?_
 walk_at "w"
 exact h
theorem ul {n d k f:Int}{st:MS}{Q:MV->MS->Prop}(d0:d≠0)(f0:f≠0)(m1:acg n f)(m2:acg k d)(m3:acg d f)(hd:0 < d * f)(UM:d * f < 1000)
  (h:Q (num ((n * f+k * d) / (acl (n * f+k * d) (d * f):Nat)) (d * f / (acl (n * f+k * d) (d * f):Nat))) st):j5 [num n d,num k f] st Q:=by
 refine cD rfl ?_
 walk_at "w"
 refine AT d0 ?_
 walk_at "w"
 refine AT f0 ?_
 walk_at "w"
 refine j8 ?_
 walk_at "w"
 refine dG (λq=>absurd q d0) λ_=>?_
 walk_at "w"
 refine j8 ?_
 walk_at "w"
 refine bH (λq=>absurd q d0) λ_=>?_
 walk_at "w"
 refine j8 ?_
 walk_at "w"
 refine bH (λq=>absurd q f0) λ_=>?_
 walk_at "w"
 refine xb ?_
 walk_at "w"
 refine j8 ?_
 walk_at "w"
 refine ck m1 ?_
 walk_at "w"
 refine xb ?_
 walk_at "w"
 refine j8 ?_
 walk_at "w"
 refine ck m2 ?_
 walk_at "w"
 refine j8 ?_
 walk_at "w"
 refine j8 ?_
 walk_at "w"
 refine ck m3 ?_
 walk_at "w"
 exact i0 hd UM h
theorem H6 {z:Int}(h:z % 2=1){a b:Int}(e:a=z)(eb:b=2):acl a b=1:=by subst e; subst eb; exact KC h
theorem ur {a b g x y:Int}(e1:a / g=x)(e2:b / g=y):num (a / g) (b / g)=num x y:=by rw [e1,e2]
theorem MA {a b:Option Int}{st:MS}{Q:MV->MS->Prop}(h:Q (gM (tf a b)) st):j5 [gM a,gM b] st Q:=by
 cases a with
 | none =>
  refine cD rfl ?_
  walk_at "w"
  refine HT ?_
  walk_at "w"
  exact h
 | some x =>
  cases b with
  | none=>exact Az (P:=λV=>j5 [V,num 0 0] st Q) (λn _=>zw (by decide) h) λ_=>zw (by decide) h
  | some y =>
   have V9:∀z:Int,acg z 1:=λz=>pf (by decide)
   have Wc:∀z:Int,acg z 2:=λz=>pf (by decide)
   have h':Q (gM (some (x+y))) st:=h
   refine Az (P:=λV=>j5 [V,gM (some y)] st Q) (λn en=>Az (P:=λV=>j5 [_,V] st Q) (λk ek=>?_) λok=>?_) λon=>Az (P:=λV=>j5 [_,V] st Q) (λk ek=>?_) λok=>?_
   ·refine ul (by decide) (by decide) (V9 _) (V9 _) (V9 _) (by decide) (by decide) ?_
    rw [J3 (n:=n+k) (by walk_at "o")] at h'
    rw [show (1:Int) * 1=1 from rfl,Int.gcd_one,ur (x:=n+k) (y:=1) (by walk_at "o") rfl]
    exact h'
   ·refine ul (by decide) (by decide) (Wc _) (V9 _) (Wc _) (by decide) (by decide) ?_
    rw [J4 (by walk_at "o")] at h'
    rw [H6 (z:=x+y) (a:=n * 2+y * 1) (b:=1 * 2) (by walk_at "o") (by walk_at "o") rfl,ur (x:=x+y) (y:=2) (by walk_at "o") rfl]
    exact h'
   ·refine ul (by decide) (by decide) (V9 _) (Wc _) (V9 _) (by decide) (by decide) ?_
    rw [J4 (by walk_at "o")] at h'
    rw [H6 (z:=x+y) (a:=x * 1+k * 2) (b:=2 * 1) (by walk_at "o") (by walk_at "o") rfl,ur (x:=x+y) (y:=2) (by walk_at "o") rfl]
    exact h'
   ·refine ul (by decide) (by decide) (Wc _) (Wc _) (Wc _) (by decide) (by decide) ?_
    obtain⟨z,hz⟩:∃z,x+y=2 * z:=⟨(x+y) / 2,by walk_at "o"⟩
    rw [J3 hz.symm] at h'
    rw [show x * 2+y * 2=4 * z by walk_at "o",show acl (4 * z) (2 * 2)=4 from (congrArg (Nat.gcd · 4) (Int.natAbs_mul 4 z)).trans (Nat.gcd_mul_right_left _ 4),ur (x:=z) (y:=1) (by walk_at "o") rfl]
    exact h'
end
set_option genInjectivity false in
structure Rw where
 kind:Str
 name:Str
 loc:Str
 uri:Str
 val:Str
 par:Option Nat
noncomputable def aT (d:List Rw)(k:Nat):Option Nat:=(d[k]?).bind (·.par)
noncomputable def kZ (d:List Rw):Nat->Nat->List Nat
 | 0,_=>[]
 | f+1,k=>k::(match aT d k with | some p=>kZ d f p | none=>[])
noncomputable def line (d:List Rw)(k:Nat):List Nat:=kZ d (k+1) k
noncomputable abbrev cw:Str:=("attribute":Str)
noncomputable def bz (d:List Rw)(k:Nat):Bool:=match d[k]? with | some r=>decide (r.kind=cw) | none=>false
noncomputable def bG (d:List Rw)(i:Nat):List Nat:=(aca d.length).filter λj=>decide (aT d j=some i) && !bz d j
noncomputable def cZ (d:List Rw)(i:Nat):List Nat:=(aca d.length).filter λj=>decide (aT d j=some i) && bz d j
structure Wf (d:List Rw):Prop where
 low:∀k p,aT d k=some p->p < k
 pre:∀k p,aT d (k+1)=some p->p∈line d k
 elm:∀k p,aT d k=some p->∃r,d[p]?=some r/\(r.kind=("root":Str)\/r.kind=("element":Str))
def Tp (d:List Rw)(n:Nat):Prop:=∀k,k < n->aT d k=none->k=0
section
variable {d:List Rw}
theorem qo {k p:Nat}(h:aT d k=some p):k < d.length:=by
 unfold aT at h
 cases e:d[k]? with
 | none=>rw [e] at h; cases h
 | some r=>exact (bP e).1
theorem qr {f k:Nat}{o:Option Nat}(e:aT d k=o):kZ d (f+1) k=k::o.elim [] (kZ d f):=by
 cases e; rfl'
theorem FO (W:Wf d)(f:Nat):∀k g:Nat,k < f->k < g->kZ d f k=kZ d g k:=by
 induction f with
 | zero=>exact λk g h _=>absurd h (ab9 _)
 | succ f ih =>
  intro k g h1 h2
  cases g with
  | zero=>exact absurd h2 (ab9 _)
  | succ g =>
   rw [qr rfl,qr rfl]
   cases e:aT d k with
   | none=>rfl
   | some p =>
    have:=W.low k p e
    exact congrArg (k::·) (ih p g (abJ this (Nat.le_of_lt_succ h1)) (abJ this (Nat.le_of_lt_succ h2)))
theorem e6 (W:Wf d){k:Nat}{o:Option Nat}(e:aT d k=o):line d k=k::o.elim [] (line d):=by
 refine (qr e).trans ?_
 cases o with
 | none=>rfl
 | some p=>exact congrArg (k::·) (FO W k p (p+1) (W.low k p e) (aby _))
theorem Cp (k:Nat):(line d k).length<=k+1:=by
 have (f:Nat):∀k:Nat,(kZ d f k).length<=f:=by
  induction f with
  | zero=>exact λk=>abt _
  | succ f ih =>
   intro k
   rw [qr rfl]
   cases aT d k with
   | none=>exact Nat.succ_le_succ (abS _)
   | some p=>exact Nat.succ_le_succ (ih p)
 exact this (k+1) k
theorem dN (W:Wf d)(k:Nat):k∈line d k:=by rw [e6 W rfl]; exact .head _
theorem dE (W:Wf d){k p:Nat}(e:aT d k=some p):line d k=k::line d p:=e6 W e
theorem gG (W:Wf d){a k:Nat}(h:a∈line d k):a=k\/∃p,aT d k=some p/\a∈line d p:=by
 cases e:aT d k with
 | none=>rw [e6 W e] at h; exact .inl (cq h)
 | some p=>rw [e6 W e] at h; exact (bN h).imp_right λh=>⟨p,rfl,h⟩
theorem iH (W:Wf d):∀{k a:Nat},a∈line d k->a<=k:=by
 intro k
 induction k using adc with
 | _ k ih =>
  intro a h
  rcases gG W h with rfl | ⟨p,e,h⟩
  ·exact abt _
  ·have:=W.low k p e
   have:=ih p this h
   walk_at "o"
theorem wM (W:Wf d):∀{c b a:Nat},b∈line d c->a∈line d b->a∈line d c:=by
 intro c
 induction c using adc with
 | _ c ih =>
  intro b a hb ha
  rcases gG W hb with rfl | ⟨p,e,h⟩
  ·exact ha
  ·rw [dE W e]
   exact .tail _ (ih p (W.low c p e) h ha)
theorem vm (W:Wf d){a:Nat}:∀{c b:Nat},a∈line d c->a<=b->b<=c->a∈line d b:=by
 intro c
 induction c with
 | zero =>
  intro b h h1 h2
  have:b=0:=by walk_at "o"
  subst this; exact h
 | succ c ih =>
  intro b h h1 h2
  by_cases hb:b=c+1
  ·subst hb; exact h
  ·rcases gG W h with rfl | ⟨p,e,h⟩
   ·walk_at "o"
   ·exact ih (wM W (W.pre c p e) h) h1 (by walk_at "o")
theorem Aw (W:Wf d){c c' i j:Nat}(h1:aT d c=some i)(h2:aT d c'=some i)(PR:c < c')(hj:c∈line d j):j < c':=by
 cases aiz j c' with
 | inl h=>exact h
 | inr h =>
  exfalso
  have:=vm W hj (adl PR) h
  rw [dE W h2] at this
  rcases bN this with e | e
  ·walk_at "o"
  ·have:=iH W e
   have:=W.low c i h1
   walk_at "o"
theorem Hw (W:Wf d){n:Nat}(tp:Tp d n):∀{k:Nat},k < n->0∈line d k:=by
 intro k
 induction k using adc with
 | _ k ih =>
  intro h
  cases e:aT d k with
  | none =>
   have:=tp k h e
   subst this; exact dN W _
  | some p =>
   rw [dE W e]
   have:=W.low k p e
   exact .tail _ (ih p this (by walk_at "o"))
theorem fi {i j:Nat}:j∈bG d i↔j < d.length/\aT d j=some i/\bz d j=false:=by
 unfold bG
 rw [adj,abZ]
 simp
theorem vR {i j:Nat}:j∈cZ d i↔j < d.length/\aT d j=some i/\bz d j=true:=by
 unfold cZ
 rw [adj,abZ]
 simp
theorem uS (d:List Rw)(i:Nat):(bG d i).Pairwise (· < ·):=List.pairwise_lt_range.filter _
theorem wu (W:Wf d){k p:Nat}(h:aT d k=some p):bz d p=false:=by
 obtain⟨r,e,hr⟩:=W.elm k p h
 unfold bz
 rw [e]
 show decide (r.kind=cw)=false
 rcases hr with hr | hr
 ·rw [hr]; decide +kernel
 ·rw [hr]; decide +kernel
theorem GM {RG l₂:List Nat}(h1:RG.Pairwise (· < ·))(h2:l₂.Pairwise (· < ·))(h:∀x,x∈RG↔x∈l₂):RG=l₂:=by
 induction RG generalizing l₂ with
 | nil =>
  cases l₂ with
  | nil=>rfl
  | cons y r=>exact absurd ((h y).mpr (.head _)) (by simp)
 | cons x l ih =>
  cases l₂ with
  | nil=>exact absurd ((h x).mp (.head _)) (by simp)
  | cons y r =>
   rw [adz] at h1 h2
   have Zi:x=y:=by
    rcases bN ((h x).mp (.head _)) with e | e
    ·exact e
    ·rcases bN ((h y).mpr (.head _)) with e' | e'
     ·exact e'.symm
     ·have:=h2.1 x e
      have:=h1.1 y e'
      walk_at "o"
   subst Zi
   congr 1
   refine ih h1.2 h2.2 λz=>⟨λhz=>?_,λhz=>?_⟩
   ·rcases bN ((h z).mp (.tail _ hz)) with e | e
    ·subst e; exact absurd (h1.1 z hz) (acj _)
    ·exact e
   ·rcases bN ((h z).mpr (.tail _ hz)) with e | e
    ·subst e; exact absurd (h2.1 z hz) (acj _)
    ·exact e
noncomputable def de (d:List Rw):Nat->Nat->List Nat
 | 0,_=>[]
 | f+1,i=>(bG d i).flatMap λc=>c::de d f c
theorem Mx {f i:Nat}:de d (f+1) i=(bG d i).flatMap λc=>c::de d f c:=rfl
theorem fO (W:Wf d):∀(f i j:Nat),d.length<=i+f->(j∈de d f i↔j < d.length/\j≠i/\i∈line d j/\bz d j=false):=by
 intro f
 induction f with
 | zero =>
  intro i j hf
  constructor
  ·intro h; cases h
  ·rintro⟨h1,h2,h3,_⟩
   have:=iH W h3
   walk_at "o"
 | succ f ih =>
  intro i j hf
  rw [Mx,adx]
  constructor
  ·rintro⟨c,hc,hj⟩
   obtain⟨c1,c2,c3⟩:=fi.mp hc
   have PR:=W.low c i c2
   have hci:i∈line d c:=by rw [dE W c2]; exact .tail _ (dN W i)
   rcases bN hj with rfl | hj
   ·exact⟨c1,by walk_at "o",hci,c3⟩
   ·obtain⟨q1,q2,q3,q4⟩:=(ih c j (by walk_at "o")).mp hj
    have:=iH W q3
    exact⟨q1,by walk_at "o",wM W q3 hci,q4⟩
  ·rintro⟨h1,h2,h3,h4⟩
   have key:∀j,i∈line d j->j≠i->bz d j=false->∃c,aT d c=some i/\c∈line d j/\bz d c=false:=by
    intro j
    induction j using adc with
    | _ j ih =>
     intro h3 h2 h4
     rcases gG W h3 with e | ⟨p,e,h⟩
     ·exact absurd e.symm h2
     ·by_cases hp:p=i
      ·subst hp; exact⟨j,e,dN W j,h4⟩
      ·obtain⟨c,q1,q2,q3⟩:=ih p (W.low j p e) h hp (wu W e)
       exact⟨c,q1,by rw [dE W e]; exact .tail _ q2,q3⟩
   obtain⟨c,c1,c2,c3⟩:=key j h3 h2 h4
   refine⟨c,fi.mpr ⟨qo c1,c1,c3⟩,?_⟩
   by_cases So:j=c
   ·subst So; exact .head _
   ·have:=W.low c i c1
    exact .tail _ ((ih c j (by walk_at "o")).mpr ⟨h1,So,c2,h4⟩)
theorem DS (W:Wf d):∀(f i:Nat),d.length<=i+f->(de d f i).Pairwise (· < ·):=by
 intro f
 induction f with
 | zero =>
  intro _ _
  exact .nil
 | succ f ih =>
  intro i hf
  unfold de
  rw [List.pairwise_flatMap]
  refine⟨λc hc=>?_,(uS d i).imp_of_mem fun {c c'} hc Sa PR=>?_⟩
  ·obtain⟨c1,c2,c3⟩:=fi.mp hc
   have:=W.low c i c2
   refine adz.mpr ⟨λj hj=>?_,ih c (by walk_at "o")⟩
   obtain⟨q1,q2,q3,q4⟩:=(fO W f c j (by walk_at "o")).mp hj
   have:=iH W q3
   walk_at "o"
  ·obtain⟨c1,c2,c3⟩:=fi.mp hc
   obtain⟨e1,e2,e3⟩:=fi.mp Sa
   have l1:=W.low c i c2
   have l2:=W.low c' i e2
   have hx:∀x∈c::de d f c,c∈line d x/\c<=x:=λx hx=>by
    rcases bN hx with rfl | hx
    ·exact⟨dN W _,abt _⟩
    ·obtain⟨q1,q2,q3,q4⟩:=(fO W f c x (by walk_at "o")).mp hx
     exact⟨q3,iH W q3⟩
   have hy:∀y∈c'::de d f c',c'<=y:=λy hy=>by
    rcases bN hy with rfl | hy
    ·exact abt _
    ·obtain⟨q1,q2,q3,q4⟩:=(fO W f c' y (by walk_at "o")).mp hy
     exact iH W q3
   intro x Rf y hy'
   have:=Aw W c2 e2 PR (hx x Rf).1
   have:=hy y hy'
   walk_at "o"
theorem iC (W:Wf d){f i:Nat}(hf:d.length<=i+f):de d f i=(aca d.length).filter λj=>decide (j≠i) && decide (i∈line d j) && !bz d j:=by
 refine GM (DS W f i hf) (List.pairwise_lt_range.filter _) λj=>?_
 rw [fO W f i j hf,adj,abZ]
 simp only [ab2,decide_eq_true_eq,Bool.not_eq_true']
 constructor
 ·rintro⟨a,b,c,e⟩; exact⟨a,⟨b,c⟩,e⟩
 ·rintro⟨a,⟨b,c⟩,e⟩; exact⟨a,b,c,e⟩
theorem Me (x:List Int):∀(a:Int)(z:List Int),dg x (x++a::z)=true:=by
 induction x with
 | nil=>exact λ_ _=>rfl
 | cons b r ih=>exact λa z=>GC.trans (ih a z)
theorem Ms (x:List Int):∀y z:List Int,dg x y=true->dg x (y++z)=true:=by
 induction x with
 | nil =>
  intro y z h
  cases y with
  | nil=>cases h
  | cons b r=>rfl
 | cons a r ih =>
  intro y z h
  cases y with
  | nil=>cases h
  | cons b q =>
   rw [qy] at h
   refine qy.trans ?_
   by_cases h1:a < b
   ·exact if_pos h1
   ·rw [if_neg h1] at h
    rw [if_neg h1]
    by_cases h2:b < a
    ·rw [if_pos h2] at h; cases h
    ·rw [if_neg h2] at h; rw [if_neg h2]; exact ih q z h
theorem Nj (x:List Int):∀(a b:Int)(y z:List Int),a < b->dg (x++a::y) (x++b::z)=true:=by
 induction x with
 | nil=>exact λa b y z h=>qy.trans (if_pos h)
 | cons c r ih=>exact λa b y z h=>GC.trans (ih a b y z h)
theorem lt_asymm (x:List Int):∀y:List Int,dg x y=true->dg y x=false:=by
 induction x with
 | nil =>
  intro y h
  cases y with
  | nil=>cases h
  | cons b r=>rfl
 | cons a r ih =>
  intro y h
  cases y with
  | nil=>cases h
  | cons b q =>
   rw [qy] at h
   refine qy.trans ?_
   by_cases h1:a < b
   ·rw [if_neg (Int.not_lt.mpr (Int.le_of_lt h1)),if_pos h1]
   ·rw [if_neg h1] at h
    by_cases h2:b < a
    ·rw [if_pos h2] at h; cases h
    ·rw [if_neg h2] at h
     rw [if_neg h2,if_neg h1]
     exact ih q h
noncomputable def c6 (d:List Rw)(p k:Nat):List Int:=[2,((bG d p).idxOf k:Nat)]
noncomputable def ub (d:List Rw):Nat->Nat->List Int
 | 0,_=>[]
 | f+1,k=>match aT d k with | some p=>ub d f p++c6 d p k | none=>[(k:Int)]
noncomputable def gA (d:List Rw)(k:Nat):List Int:=ub d (k+1) k
theorem m8 {f k:Nat}{o:Option Nat}(e:aT d k=o):ub d (f+1) k=o.elim [(k:Int)] λp=>ub d f p++c6 d p k:=by
 cases e; rfl'
theorem zc {k:Nat}(e:aT d k=none):gA d k=[(k:Int)]:=m8 e
theorem GJ (W:Wf d)(f:Nat):∀k g:Nat,k < f->k < g->ub d f k=ub d g k:=by
 induction f with
 | zero=>exact λk g h _=>absurd h (ab9 _)
 | succ f ih =>
  intro k g h1 h2
  cases g with
  | zero=>exact absurd h2 (ab9 _)
  | succ g =>
   rw [m8 rfl,m8 rfl]
   cases e:aT d k with
   | none=>rfl
   | some p =>
    have:=W.low k p e
    exact congrArg (·++c6 d p k) (ih p g (abJ this (Nat.le_of_lt_succ h1)) (abJ this (Nat.le_of_lt_succ h2)))
theorem qd (W:Wf d){k p:Nat}(e:aT d k=some p):gA d k=gA d p++c6 d p k:=
 (m8 e).trans (congrArg (·++c6 d p k) (GJ W k p (p+1) (W.low k p e) (aby _)))
theorem AQ (W:Wf d):∀{k a:Nat},a∈line d k->∃z,gA d k=gA d a++z:=by
 intro k
 induction k using adc with
 | _ k ih =>
  intro a h
  rcases gG W h with rfl | ⟨p,e,h⟩
  ·exact⟨[],by simp⟩
  ·obtain⟨z,hz⟩:=ih p (W.low k p e) h
   exact⟨z++c6 d p k,by rw [qd W e,hz,abO]⟩
theorem Mq {l:List Nat}(h:l.Pairwise (· < ·)){a b:Nat}(ha:a∈l)(hb:b∈l)(PR:a < b):l.idxOf a < l.idxOf b:=by
 induction l with
 | nil=>cases ha
 | cons x r ih =>
  rw [adz] at h
  rcases bN ha with rfl | ha
  ·have P6:(a == b)=false:=by simp; walk_at "o"
   rw [List.idxOf_cons_self,aeX,P6]
   simp
  ·have hx:=h.1 a ha
   rcases bN hb with rfl | hb
   ·walk_at "o"
   ·have h1:(x == a)=false:=by simp; walk_at "o"
    have h2:(x == b)=false:=by simp; walk_at "o"
    rw [aeX,aeX,h1,h2]
    simp only [cond_false]
    have:=ih h.2 ha hb
    walk_at "o"
theorem EC (W:Wf d){n:Nat}(tp:Tp d n)(hn:n<=d.length):∀{b a:Nat},a < b->b < n->bz d a=false->bz d b=false->dg (gA d a) (gA d b)=true:=by
 intro b
 induction b using adc with
 | _ b ih =>
  intro a QP hb ha hbb
  cases e:aT d b with
  | none =>
   have:=tp b hb e
   walk_at "o"
  | some p =>
   have hp:=W.low b p e
   rw [qd W e]
   rcases ait a p with h | h | h
   ·exact Ms _ _ _ (ih p hp h (by walk_at "o") ha (wu W e))
   ·subst h; exact Me _ _ _
   ·have hpb:p∈line d b:=by rw [dE W e]; exact .tail _ (dN W p)
    have hpa:=vm W hpb (adl h) (adl QP)
    have:a∈de d d.length p:=(fO W _ _ _ (by walk_at "o")).mpr ⟨by walk_at "o",by walk_at "o",hpa,ha⟩
    refine bv λGG PD=>?_
    obtain⟨f,hf⟩:∃f,d.length=f+1:=⟨d.length - 1,by walk_at "o"⟩
    rw [hf] at this
    unfold de at this
    obtain⟨c,hc,YS⟩:=adx.mp this
    obtain⟨c1,c2,c3⟩:=fi.mp hc
    have TX:=W.low c p c2
    have hca:c∈line d a:=by
     rcases bN YS with rfl | YS
     ·exact dN W _
     ·exact ((fO W f c a (by walk_at "o")).mp YS).2.2.1
    obtain⟨z,hz⟩:=AQ W hca
    refine PD ?_
    have Vm:=iH W hca
    rw [hz,qd W c2,abO]
    have acL:=Mq (uS d p) hc (fi.mpr ⟨by walk_at "o",e,hbb⟩) (by walk_at "o")
    show dg (gA d p++(c6 d p c++z)) (gA d p++c6 d p b)=true
    unfold c6
    have:=Nj (gA d p++[2]) ((bG d p).idxOf c:Nat) ((bG d p).idxOf b:Nat) z [] (by exact_mod_cast acL)
    simpa using this
end
set_option genInjectivity false in
structure cJ where
 i:Nat
 c:Nat
 a:Nat
 s:Nat
noncomputable def kD:Option Nat->MV | none=>.none | some n=>.int (n:Int)
noncomputable def ay (l:List Nat):List MV:=l.map λ(n:Nat)=>.int (n:Int)
noncomputable def d6 (r:Rw)(l:cJ):List (Str×MV):=
 [(("kind":Str),.str r.kind),(("name":Str),.str r.name),(("uri":Str),.str r.uri),(("local":Str),.str r.loc),(("value":Str),.str r.val),(("parent":Str),kD r.par),(("children":Str),.ref l.c),(("attributes":Str),.ref l.a),(("namespaces":Str),.ref l.s)]
structure Tr (st:MS)(t R:Nat)(lay:List cJ)(d:List Rw):Prop where
 tree:st[t]?=some (.inst 524 [(("rows":Str),.ref R)])
 rows:st[R]?=some (.list (lay.map λl=>.ref l.i))
 len:lay.length=d.length
 small:d.length<=200
 node:∀(k:Nat) (l:cJ) (r:Rw),lay[k]?=some l->d[k]?=some r->st[l.i]?=some (.inst 335 (d6 r l))/\st[l.c]?=some (.list (ay (bG d k)))/\st[l.a]?=some (.list (ay (cZ d k)))/\st[l.s]?=some (.list [])
theorem Tr.mono {st Ps:MS}{t R:Nat}{lay:List cJ}{d:List Rw}(T:Tr st t R lay d)(hp:st <+: Ps):Tr Ps t R lay d where
 tree:=aA hp T.tree
 rows:=aA hp T.rows
 len:=T.len
 small:=T.small
 node:=λk l r h1 h2=>let ⟨a,b,c,e⟩:=T.node k l r h1 h2; ⟨aA hp a,aA hp b,aA hp c,aA hp e⟩
theorem Tr.at {st:MS}{t R:Nat}{lay:List cJ}{d:List Rw}(T:Tr st t R lay d){k:Nat}{r:Rw}(h:d[k]?=some r):∃l,lay[k]?=some l:=by
 have:=(bP h).1
 rw [<- T.len] at this
 exact⟨_,abc this⟩
section
variable {st:MS}{t R:Nat}{lay:List cJ}{d:List Rw}{k:Nat}{r:Rw}{l:cJ}{Q:MV->MS->Prop}
theorem bI {i:Nat}{xs:List MV}{j:Int}{n:Nat}{x:MV}(hi:st[i]?=some (.list xs))(hj:j=(n:Int))(hx:xs[n]?=some x)(hl:xs.length < 2 ^ 62)(h:Q x st):aN [.ref i,.int j] st Q:=by
 have hk:=(bP hx).1
 exact eG hi ⟨⟨by walk_at "o",by walk_at "o"⟩,n,x,yl hj hk,hx,h⟩
theorem AG {C:Addr}{name:Str}{i j:Nat}{fs:List (Str×MV)}{W:MV}{ρ:aG}(h0:ρ[i]?=some (some (.ref j)))(h1:st[j]?=some (.inst C fs))(h2:fs.lookup name=some W)(h:Q W st):cC C name (af i) ρ st Q:=Ka (iF h0 (bE h1 h2 h))
theorem bj (T:Tr st t R lay d):w8 524 (.ref t) st:=⟨t,_,rfl,T.tree⟩
theorem fW {i:Nat}{xs:List MV}(hi:st[i]?=some (.list xs))(hl:xs.length < 2 ^ 62)(h:Q (.int xs.length) st):dP [.ref i] st Q:=eG hi ⟨hl,h⟩
theorem len_str {x:Str}(hl:x.length < 2 ^ 62)(h:Q (.int x.length) st):dP [.str x] st Q:=⟨hl,h⟩
theorem wI {i:Nat}{xs:List MV}(hi:st[i]?=some (.list xs))(hl:xs.length<=abD)(h:Q (.ref st.length) (st++[.list xs])):oN [.ref i] st Q:=eG hi ⟨hl,h⟩
theorem dF {i:Nat}{xs:List MV}{V:MV}(hi:st[i]?=some (.list xs))(hl:xs.length<=abD)(h:Q .none (st.set i (.list (xs++[V])))):bx [.ref i,V] st Q:=eG hi ⟨hl,h⟩
theorem EA {i:Nat}{xs:List MV}{V:MV}(hi:st[i]?=some (.list (xs++[V])))(hl:xs.length < abD)(h:Q V (st.set i (.list xs))):Gb [.ref i] st Q:=eG hi ⟨by rw [abd]; exact hl,lT List.getLast?_concat (by rw [List.dropLast_concat]; exact h)⟩
theorem xg (ns:List Int):fJ (ns.map .int)=some ns:=(pG (f:=theI) (k:=id) (λ_=>rfl) ns).trans (congrArg some (af8 ns))
theorem Cn (l:List Nat):fJ (ay l)=some (l.map λ(n:Nat)=>(n:Int)):=by
 have:=xg (l.map λ(n:Nat)=>(n:Int))
 rw [ab6] at this
 exact this
theorem xr (ns:List Str):xS (ns.map .str)=some ns:=(pG (f:=theS) (k:=id) (λ_=>rfl) ns).trans (congrArg some (af8 ns))
theorem jE (T:Tr st t R lay d)(hl:lay[k]?=some l)(h:Q (.ref l.i) st):cN [.ref t,.int (k:Int)] st Q:=by
 have hk:=(bP hl).1
 have PL:(lay.map λl=>MV.ref l.i).length=lay.length:=abg _
 have l62:(lay.map λl=>MV.ref l.i).length < 2 ^ 62:=by rw [PL,T.len]; exact ace T.small (by decide)
 refine cD rfl ?_
 refine NK (Nn (LF (x:=0) (y:=(k:Int)) (z:=((lay.map λl=>MV.ref l.i).length:Int)) (λP h=>h) (λP h=>iF rfl h) (λP h=>?_) (aem _) (by rw [PL]; exact afM.mpr hk) ?_))
 ·walk_at "w"
  refine bE T.tree rfl ?_
  exact fW T.rows l62 h
 ·walk_at "w"
  refine bE T.tree rfl ?_
  walk_at "w"
  exact bI T.rows rfl (by rw [abF,hl]; rfl) l62 h
theorem wF (T:Tr st t R lay d)(hr:d[k]?=some r)(h:Q (.str r.kind) st):gP [.ref t,.int (k:Int)] st Q:=by
 obtain⟨l,hl⟩:=T.at hr
 refine abi rfl (abi (bj T) (jE T hl (bE (T.node k l r hl hr).1 rfl h)))
theorem Hr (T:Tr st t R lay d)(hr:d[k]?=some r)(h:Q (.str r.name) st):kY [.ref t,.int (k:Int)] st Q:=by
 obtain⟨l,hl⟩:=T.at hr
 refine abi rfl (abi (bj T) (jE T hl (bE (T.node k l r hl hr).1 rfl h)))
theorem Nk (T:Tr st t R lay d)(hr:d[k]?=some r)(h:Q (.str r.uri) st):pP [.ref t,.int (k:Int)] st Q:=by
 obtain⟨l,hl⟩:=T.at hr
 refine abi rfl (abi (bj T) (jE T hl (bE (T.node k l r hl hr).1 rfl h)))
theorem Ls (T:Tr st t R lay d)(hr:d[k]?=some r)(h:Q (.str r.loc) st):m9 [.ref t,.int (k:Int)] st Q:=by
 obtain⟨l,hl⟩:=T.at hr
 refine abi rfl (abi (bj T) (jE T hl (bE (T.node k l r hl hr).1 rfl h)))
theorem ym (T:Tr st t R lay d)(hr:d[k]?=some r)(h:Q (.str r.val) st):iv [.ref t,.int (k:Int)] st Q:=by
 obtain⟨l,hl⟩:=T.at hr
 refine abi rfl (abi (bj T) (jE T hl (bE (T.node k l r hl hr).1 rfl h)))
theorem Jr (hr:d[k]?=some r):aT d k=r.par:=by unfold aT; rw [hr]; rfl
theorem CA (T:Tr st t R lay d)(hk:k < d.length)(h:Q (kD (aT d k)) st):gL [.ref t,.int (k:Int)] st Q:=by
 have hr:d[k]?=some d[k]:=abc hk
 obtain⟨l,hl⟩:=T.at hr
 rw [Jr hr] at h
 refine abi rfl (abi (bj T) (jE T hl (bE (T.node k l _ hl hr).1 rfl h)))
theorem e7 (d:List Rw)(p:Nat->Bool):((aca d.length).filter p).length<=d.length:=by
 have:=afW p (aca d.length)
 rwa [afN] at this
theorem bb (l:List Nat):(ay l).length=l.length:=by simp [ay]
theorem qA (T:Tr st t R lay d)(hk:k < d.length)(h:Q (.ref st.length) (st++[.list (ay (bG d k))])):fC [.ref t,.int (k:Int)] st Q:=by
 have hr:d[k]?=some d[k]:=abc hk
 obtain⟨l,hl⟩:=T.at hr
 have small:=T.small
 have:=e7 d λj=>decide (aT d j=some k) && !bz d j
 refine abi rfl (abi (bj T) (jE T hl (bE (T.node k l _ hl hr).1 rfl (wI (T.node k l _ hl hr).2.1 ?_ h))))
 rw [bb]
 exact aan this (aan small (by decide))
theorem A6 (T:Tr st t R lay d)(hk:k < d.length)(h:Q (.ref st.length) (st++[.list (ay (cZ d k))])):fT [.ref t,.int (k:Int)] st Q:=by
 have hr:d[k]?=some d[k]:=abc hk
 obtain⟨l,hl⟩:=T.at hr
 have small:=T.small
 have:=e7 d λj=>decide (aT d j=some k) && bz d j
 refine abi rfl (abi (bj T) (jE T hl (bE (T.node k l _ hl hr).1 rfl (wI (T.node k l _ hl hr).2.2.1 ?_ h))))
 rw [bb]
 exact aan this (aan small (by decide))
end
section
variable {st Ps:MS}{t R:Nat}{lay:List cJ}{d:List Rw}{k:Nat}{r:Rw}{l:cJ}{Q:MV->MS->Prop}
theorem aH (o:MO):(st++[o])[st.length]?=some o:=by simp
theorem aB (o:MO):st <+: st++[o]:=abI _ _
theorem mI {j:Nat}{o:MO}(hp:st <+: Ps)(hj:st.length<=j):st <+: Ps.set j o:=by
 obtain⟨u,rfl⟩:=hp
 rw [List.set_append_right _ _ hj]
 exact abI _ _
theorem Fh (W:Wf d):∀(n k:Nat)(xs:List MV)(Ps:MS)(f:Nat)(P:MF->aG->MS->Prop),Tr st t R lay d->st <+: Ps->st.length<=f->Ps[f]?=some (.list xs)->k < n->k < d.length->xs.length+k < 1000 ->
  (∀PT,st <+: PT->PT[f]?=some (.list (xs++ay (line d k)))->P .next [some (.ref t),some .none,some (.ref f)] PT) ->
  ey jH jV (n+1) [some (.ref t),some (.int (k:Int)),some (.ref f)] Ps P:=by
 intro n
 induction n with
 | zero=>intro _ _ _ _ _ _ _ _ _ h; exact absurd h (ab9 _)
 | succ n ih =>
  intro k xs Ps f P T hp hf hx hn hk hl q
  have PW:st <+: Ps.set f (.list (xs++[.int (k:Int)])):=mI hp hf
  have T2:=T.mono PW
  have Rp:(Ps.set f (.list (xs++[.int (k:Int)])))[f]?=some (.list (xs++[.int (k:Int)])):=by
   rw [abu (bP hx).1]
  refine fA ?_
  walk_at "w"
  refine dY hx ?_
  walk_at "w"
  refine dF hx (aan (by walk_at "o") (by decide:1000<=abD)) ?_
  walk_at "w"
  refine bK (bj T2) ?_
  walk_at "w"
  refine CA T2 hk ?_
  cases e:aT d k with
  | none =>
   refine q _ PW ?_
   rw [e6 W e]; exact Rp
  | some p =>
   have TX:=W.low k p e
   refine ih p (xs++[.int (k:Int)]) _ f P T PW hf Rp (by walk_at "o") (by walk_at "o") (by simp; walk_at "o") λPT h1 h2=>q PT h1 ?_
   rw [dE W e]
   simpa [ay] using h2
theorem Bf (W:Wf d)(T:Tr st t R lay d)(hk:k < d.length)(h:∀Ps i,st <+: Ps->st.length<=i->Ps[i]?=some (.list (ay (line d k).reverse))->Q (.ref i) Ps):ng [.ref t,.int (k:Int)] st Q:=by
 have small:=T.small
 refine abi rfl ?_
 show f2 jH jV [some (.ref t),some (.int (k:Int)),some (.ref st.length)] (st++[.list []]) _
 refine ad5 (k+1+1) (Fh W (k+1) k [] (st++[.list []]) st.length _ T (aB _) (abt _) (aH _) (aby _) hk (by simp; walk_at "o") λPT h1 h2=>?_)
 rw [abA] at h2
 show Cb [.ref st.length,.int (-1)] PT Q
 refine eG h2 ⟨rfl,?_,h _ _ (h1.trans (aB _)) h1.length_le ?_⟩
 ·rw [bb]
  have:=Cp (d:=d) k
  exact aan this (aan (by walk_at "o") (by decide:1000<=abD))
 ·rw [aH]
  simp [ay,List.map_reverse]
set_option tactic.hygienic true in
theorem LN {i:Nat}{ns:List Nat}{k:Nat}(hi:st[i]?=some (.list (ay ns)))(hk:k∈ns)(hs:ns.length<=200)(hb:∀n∈ns,n < 1000)(h:Q (.int ((ns.idxOf k:Nat):Int)) st):th [.ref i,.int (k:Int)] st Q:=by
 refine eG hi (lT (Cn _) ⟨?_,ew ⟨k,hk,rfl⟩,?_⟩)
 ·have w:∀l:List Nat,(∀n∈l,n < 1000)->ag6 ((l.map λ(n:Nat)=>(n:Int)).map adJ)<=11 * l.length/\adG ((l.map λ(n:Nat)=>(n:Int)).map adJ)=true/\adk ((l.map λ(n:Nat)=>(n:Int)).map adJ)=0:=by
   intro l hl
   induction l with
   | nil=>simp [ag6,adG,adk]
   | cons n r ih =>
    obtain⟨h1,h2,h3⟩:=ih λm hm=>hl m (.tail _ hm)
    have hn:=hl n (.head _)
    have hw:aib (.int (n:Int))<=10:=by
     simp only [aib]
     split
     ·walk_at "o"
     ·rename_i h0
      have:n≠0:=by intro e; subst e; simp at h0
      have:(n:Int).natAbs.log2 < 10:=(aiV (by simpa using this)).mpr (by simp; walk_at "o")
      walk_at "o"
    refine⟨?_,?_,?_⟩
    ·simp only [abj,ag6,abz]; walk_at "o"
    ·simp [adG,aea] at h2 ⊢; exact h2
    ·simp only [abj,adk,aeh,h3]; rfl
  obtain⟨h1,h2,h3⟩:=w ns hb
  unfold PyData.layable0
  simp only [aea,aeh,aib,h2,h3,ah7,ab2,decide_eq_true_eq]
  exact⟨by decide,decide_eq_true (aan h1 (aan (agg 11 hs) (by decide:11 * 200<=2 ^ 20)))⟩
 ·have e:(ns.map λ(n:Nat)=>(n:Int)).idxOf (k:Int)=ns.idxOf k:=by
   clear hs hb h hi
   induction ns with
   | nil=>rfl
   | cons n r ih =>
    rw [abj,aeX,aeX]
    by_cases hnk:n=k
    ·subst hnk; simp
    ·have h1:((n:Int) == (k:Int))=false:=by simp; walk_at "o"
     have h2:(n == k)=false:=by simp; walk_at "o"
     rw [h1,h2]
     simp only [cond_false]
     rw [ih (by rcases bN hk with q | q; exact absurd q.symm hnk; exact q)]
  rw [e]; exact h
theorem z6 {p:Nat}(W:Wf d)(T:Tr st t R lay d)(hr:d[k]?=some r)(hp:aT d k=some p)(hk:r.kind≠cw)(QA:r.kind≠("namespace":Str)) (h:∀Ps,st <+: Ps->Q (.tup [.int 2,.int (((bG d p).idxOf k:Nat):Int)]) Ps):gI [.ref t,.int (p:Int),.int (k:Int)] st Q:=by
 have small:=T.small
 have Sz:=(bP hr).1
 have TX:=W.low k p hp
 refine cD rfl ?_
 have T2:=T.mono (aB (st:=st) (.list (ay (bG d p))))
 have QY:k∈bG d p:=fi.mpr ⟨Sz,hp,by unfold bz; rw [hr]; exact decide_eq_false hk⟩
 have:=e7 d λj=>decide (aT d j=some p) && !bz d j
 walk_at "w"
 refine bK (bj T) ?_
 walk_at "w"
 refine wF T hr ?_
 walk_at "w"
 refine bH (λq=>absurd q QA) λ_=>?_
 walk_at "w"
 refine bH (λq=>absurd q hk) λ_=>?_
 walk_at "w"
 refine bK (bj T) ?_
 walk_at "w"
 refine qA T (by walk_at "o") ?_
 walk_at "w"
 refine dY (aH _) ?_
 walk_at "w"
 refine LN (aH _) QY (by unfold bG; walk_at "o") (λn hn=>by have:=(fi.mp hn).1; walk_at "o") ?_
 walk_at "w"
 exact h _ (aB _)
noncomputable def kW (d:List Rw):List Nat->List Int
 | p::k::r=>c6 d p k++kW d (k::r)
 | _=>[]
theorem Gn (d:List Rw)(l:List Nat)(p k:Nat):kW d (l++[p,k])=kW d (l++[p])++c6 d p k:=by
 induction l with
 | nil=>exact abv _
 | cons a l ih =>
  cases l with
  | nil =>
   show c6 d a p++(c6 d p k++[])=(c6 d a p++[])++c6 d p k
   rw [abv,abv]
  | cons b r =>
   show c6 d a b++kW d (b::r++[p,k])=(c6 d a b++kW d (b::r++[p]))++c6 d p k
   rw [ih,abO]
theorem xC (W:Wf d){n:Nat}(tp:Tp d n):∀{k:Nat},k < n->gA d k=0::kW d (line d k).reverse:=by
 intro k
 induction k using adc with
 | _ k ih =>
  intro hk
  cases e:aT d k with
  | none =>
   have:=tp k hk e
   subst this
   rw [e6 W e,zc e]
   rfl
  | some p =>
   have TX:=W.low k p e
   rw [qd W e,ih p TX (by walk_at "o"),dE W e]
   have:∃q,(line d p).reverse=q++[p]:=⟨((aT d p).elim [] (line d)).reverse,by rw [e6 W rfl]; exact adp⟩
   obtain⟨q,hq⟩:=this
   rw [hq,adp,hq]
   have:=Gn d q p k
   simp only [abO,add,abA] at this ⊢
   rw [this]
theorem KZ {xs ys:List MV}(hl:xs.length+ys.length<=abD)(h:Q (.tup (xs++ys)) st):F4 [.tup xs,.tup ys] st Q:=⟨hl,h⟩
noncomputable def nV (l:List Int):List MV:=l.map .int
theorem Gi (W:Wf d)(T:Tr st t R lay d)(G:MS->Prop)(hG:∀Ps,st <+: Ps->G Ps){c1 c2:Option MV}:∀(l:List Nat)(PZ:List Int)(Ps:MS)(x y:Option MV)(P:MF->aG->MS->Prop),st <+: Ps->PZ.length+2 * l.length < 5000 ->
  (∀k∈l,∃r,d[k]?=some r/\r.kind≠cw/\r.kind≠("namespace":Str))->(∀(i p k:Nat),l[i]?=some p->l[i+1]?=some k->aT d k=some p) ->
  (∀PT x y,st <+: PT->P .next [some (.ref t),c1,c2,some (.tup (nV (PZ++kW d l))),x,y] PT) ->
  BA G 4 5 3 (aF gI (ad (af 0) (ad (af 4) (ad (af 5) ak)))) (ay l) (ay (l.drop 1)) [some (.ref t),c1,c2,some (.tup (nV PZ)),x,y] Ps P:=by
 intro l
 induction l with
 | nil=>intro PZ Ps x y P hp _ _ _ q; exact abi (hG _ hp) (by have:=q Ps x y hp; rw [show kW d _=[] from rfl,abv] at this; exact this)
 | cons a l ih=>cases l with
  | nil=>intro PZ Ps x y P hp _ _ _ q; exact abi (hG _ hp) (by have:=q Ps x y hp; rw [show kW d _=[] from rfl,abv] at this; exact this)
  | cons b l =>
   intro PZ Ps x y P hp hl hk hc q
   obtain⟨r,hr,h1,h2⟩:=hk b (.tail _ (.head _))
   have UA:=hc 0 a b rfl rfl
   refine abi (hG _ hp) ?_
   show gI [.ref t,.int (a:Int),.int (b:Int)] Ps _
   refine z6 W (T.mono hp) hr UA h1 h2 λP1 PW=>?_
   refine KZ (aan (by simp [nV]; simp at hl; walk_at "o") (by decide:6000<=abD)) ?_
   have e:nV PZ++[.int 2,.int (((bG d a).idxOf b:Nat):Int)]=nV (PZ++c6 d a b):=by simp [nV,c6]
   rw [e]
   refine ih (PZ++c6 d a b) P1 _ _ P (hp.trans PW) (by simp [c6] at hl ⊢; walk_at "o") (λk h=>hk k (.tail _ h)) (λi p k e1 e2=>hc (i+1) p k e1 e2) λPT x y h=>?_
   rw [abO]
   exact q PT x y h
theorem I9 (W:Wf d):∀{k:Nat}(i p q:Nat),(line d k)[i]?=some q->(line d k)[i+1]?=some p->aT d q=some p:=by
 intro k
 induction k using adc with
 | _ k ih =>
  intro i p q h1 h2
  cases e:aT d k with
  | none=>rw [e6 W e] at h2; cases h2
  | some z =>
   rw [dE W e] at h1 h2
   cases i with
   | zero =>
    simp only [adI,ajs] at h1
    subst h1
    rw [acm,e6 W rfl] at h2
    rw [<- abl h2]; exact e
   | succ i =>
    rw [acm] at h1 h2
    exact ih z (W.low k z e) i p q h1 h2
theorem qf (W:Wf d){n:Nat}(tp:Tp d n)(T:Tr st t R lay d)(hk:k < n)(hn:n<=d.length)(hr:d[k]?=some r)(SR:r.kind=("element":Str)\/r.kind=("root":Str))
  (h:∀Ps,st <+: Ps->Q (.tup (nV (gA d k))) Ps):iG [.ref t,.int (k:Int)] st Q:=by
 have small:=T.small
 have Vi:∀j∈line d k,∃r,d[j]?=some r/\r.kind≠cw/\r.kind≠("namespace":Str):=by
  have ok:∀r:Rw,(r.kind=("root":Str)\/r.kind=("element":Str))->r.kind≠cw/\r.kind≠("namespace":Str):=by
   rintro r (e | e) <;> rw [e] <;> exact⟨by decide +kernel,by decide +kernel⟩
  intro j hj
  rcases gG W hj with rfl | ⟨p,e,hj⟩
  ·exact⟨r,hr,ok r SR.symm⟩
  ·clear hr SR
   have:∀{k:Nat},∀p,aT d k=some p->j∈line d p->∃r,d[j]?=some r/\(r.kind=("root":Str)\/r.kind=("element":Str)):=by
    intro k
    induction k using adc with
    | _ k ih =>
     intro p e hj
     rcases gG W hj with rfl | ⟨q,e2,hj⟩
     ·exact W.elm k _ e
     ·exact ih p (W.low k p e) q e2 hj
   obtain⟨r,h1,h2⟩:=this p e hj
   exact⟨r,h1,ok r h2⟩
 refine abi rfl ?_
 refine Bf W T (by walk_at "o") λPs i hp hi hx=>?_
 have PL:=Cp (d:=d) k
 have P6:∃q,(line d k).reverse=0::q:=by
  have hz:=xC W tp hk
  have:∀{k:Nat},k < n->∃q,(line d k).reverse=0::q:=by
   intro k
   induction k using adc with
   | _ k ih =>
    intro hk
    cases e:aT d k with
    | none=>have:=tp k hk e; subst this; exact⟨[],by rw [e6 W e]; rfl⟩
    | some p =>
     obtain⟨q,hq⟩:=ih p (W.low k p e) (by have:=W.low k p e; walk_at "o")
     exact⟨q++[k],by rw [dE W e,adp,hq]; rfl⟩
  exact this hk
 obtain⟨q,hq⟩:=P6
 have XZ:(ay (line d k).reverse)[0]?=some (.int ((0:Nat):Int)):=by rw [hq]; rfl
 refine bI hx rfl XZ (by rw [bb,ade]; walk_at "o") ?_
 show yG _ _ 4 5 3 _ _ Ps _
 have T1:=T.mono hp
 have QG:(ay (line d k).reverse).length<=abD:=by rw [bb,ade]; exact aan PL (aan (by walk_at "o") (by decide:1000<=abD))
 refine eG hx ⟨by decide,QG,?_⟩
 have Sf:(Ps++[MO.list ((ay (line d k).reverse).drop (1:Int).toNat)])[i]?=some (.list (ay (line d k).reverse)):=aA (aB _) hx
 refine eG Sf (eG (aH _) ?_)
 have Yk:(ay (line d k).reverse).drop (1:Int).toNat=ay ((line d k).reverse.drop 1):=by simp [ay]
 rw [Yk]
 have T2:=T1.mono (aB (st:=Ps) (.list (ay ((line d k).reverse.drop 1))))
 refine Gi (st:=Ps++[.list (ay ((line d k).reverse.drop 1))]) W T2 _ (λs hs=>?_) (line d k).reverse [0] _ _ _ _ (aaj _) (by simp; walk_at "o") (λj hj=>Vi j (List.mem_reverse.mp hj)) (λa p c e1 e2=>?_) λP1 x y PW=>?_
 ·exact⟨aA hs (by rw [<- Yk]; exact Sf),aA hs (aH _)⟩
 ·have ha:=(bP e2).1
  rw [ade] at ha
  rw [ahw (by walk_at "o")] at e1 e2
  have:(line d k).length - 1 - a=((line d k).length - 1 - (a+1))+1:=by walk_at "o"
  rw [this] at e1
  exact I9 W _ p c e2 e1
 ·have e:[0]++kW d (line d k).reverse=gA d k:=(xC W tp hk).symm
  rw [e]
  exact h P1 (hp.trans ((aB _).trans PW))
end
section
variable {st Ps:MS}{t R:Nat}{lay:List cJ}{d:List Rw}{k:Nat}{r:Rw}{l:cJ}{Q:MV->MS->Prop}
theorem BJ (l:List Int):fJ (nV l)=some l:=xg l
theorem Fb {d:List Rw}{k:Nat}:gA d k≠[]:=by
 cases e:aT d k with
 | none=>rw [zc e]; exact List.cons_ne_nil _ _
 | some p=>rw [show gA d k=_ from m8 e]; exact List.append_ne_nil_of_right_ne_nil _ (List.cons_ne_nil _ _)
noncomputable def gw:List Nat->List Nat
 | [a,b]=>if b < a then [b,a] else [a,b]
 | l=>l
theorem Gc (W:Wf d){n i:Nat}(tp:Tp d n)(T:Tr st t R lay d)(hn:n<=d.length){ns:List Nat}(hi:st[i]?=some (.list (ay ns)))(h2:ns.length<=2)(Qt:ns.Nodup)
  (SR:∀k∈ns,k < n/\∃r,d[k]?=some r/\r.kind=("element":Str)) (h:∀Ps j,st <+: Ps->Ps[j]?=some (.list (ay (gw ns)))->Q (.ref j) Ps):mu [.ref t,.ref i] st Q:=by
 unfold mu
 dsimp only
 refine⟨rfl,?_⟩
 show (match st[i]? with
  | some (.list xs)=>_
  | _=>False)
 rw [hi]
 dsimp only
 refine⟨by rw [bb]; exact aan h2 (by decide),?_⟩
 match ns,h2,Qt,SR,h,hi with
 | [],_,_,_,h,hi=>exact⟨hi,[],.zero,h _ _ (aB _) (aH _)⟩
 | [a],_,_,SR,h,hi =>
  obtain⟨ha,r,hr,hk⟩:=SR a (.head _)
  refine⟨hi,(a:Int),rfl,by simp,?_⟩
  show iG [.ref t,.int (a:Int)] st _
  exact qf W tp T ha hn hr (.inl hk) λPs hp=>⟨aA hp hi,[(a:Int)],.one,h _ _ (hp.trans (aB _)) (aH _)⟩
 | [a,b],_,Qt,SR,h,hi =>
  refine bv λGG PD=>?_
  obtain⟨ha,r,hr,hk⟩:=SR a (.head _)
  obtain⟨hb,r',VI,QA⟩:=SR b (.tail _ (.head _))
  refine PD ?_
  have QP:a≠b:=λe=>by subst e; simp at Qt
  have YN:(a:Int)≠(b:Int):=by exact_mod_cast QP
  have na:bz d a=false:=by unfold bz; rw [hr]; show decide (r.kind=cw)=false; rw [hk]; decide +kernel
  have nb:bz d b=false:=by unfold bz; rw [VI]; show decide (r'.kind=cw)=false; rw [QA]; decide +kernel
  refine⟨hi,(a:Int),rfl,by simp,?_⟩
  show iG [.ref t,.int (a:Int)] st _
  refine qf W tp T ha hn hr (.inl hk) λst1 PY=>⟨aA PY hi,(b:Int),rfl,by simpa using λe:(b:Int)=a=>YN e.symm,?_⟩
  show iG [.ref t,.int (b:Int)] st1 _
  refine qf W tp (T.mono PY) hb hn VI (.inl QA) λP1 PW=>⟨aA (PY.trans PW) hi,_,.two YN (BJ (gA d a)) (BJ (gA d b)) Fb Fb,?_⟩
  have e:(if dg (gA d b) (gA d a)=true then [(b:Int),(a:Int)] else [(a:Int),(b:Int)]).map MV.int=ay (gw [a,b]):=by
   show _=ay (if b < a then [b,a] else [a,b])
   by_cases PR:b < a
   ·rw [if_pos (EC W tp hn PR ha nb na),if_pos PR]; rfl
   ·have:=lt_asymm _ _ (EC W tp hn (show a < b by walk_at "o") hb na nb)
    rw [this,if_neg PR]; rfl
  rw [e]
  exact h _ _ ((PY.trans PW).trans (aB _)) (aH _)
theorem mH (l:List Nat):fw (ay l)=some (l.map λ(n:Nat)=>adJ (n:Int)):=pG (f:=ed) (k:=λ(n:Nat)=>adJ (n:Int)) (λ_=>rfl) l
theorem vf {g e:Nat}{s:List Nat}(hg:st[g]?=some (.list (ay s)))(he:st[e]?=some (.list []))(h:Q (.bool (!s.isEmpty)) st):ia [.ref g,.ref e] st Q:=ES hg (mH s) he (by cases s <;> exact h)
theorem Jf (W:Wf d)(c:Nat):de d d.length c=(bG d c).flatMap λx=>x::de d d.length x:=by
 have e:de d d.length c=de d (d.length+1) c:=by rw [iC W (by (first | lia | omega)),iC W (by (first | lia | omega))]
 rw [e]; rfl
noncomputable def qu (d:List Rw)(s:List Nat):List Nat:=s.flatMap λc=>c::de d d.length c
theorem NC {a c:TE}{ρ:aG}{P:MV->MS->Prop}(h:a ρ st (IX Cb c ρ P)):sq a c ρ st P:=h
theorem Lu {i:Nat}{xs:List MV}(hi:st[i]?=some (.list xs))(hl:xs.length<=abD)(h:Q (.ref st.length) (st++[.list xs.reverse])):Cb [.ref i,.int (-1)] st Q:=eG hi ⟨rfl,hl,h⟩
theorem I5 {i j:Nat}{xs ys:List MV}(hi:st[i]?=some (.list xs))(hj:st[j]?=some (.list ys))(hl:xs.length+ys.length<=abD)(h:Q (.ref st.length) (st++[.list (xs++ys)])):cM [.ref i,.ref j] st Q:=eG hi (eG hj ⟨hl,h⟩)
theorem BL (W:Wf d):∀(n:Nat)(s PZ:List Nat)(Ps:MS)(f g:Nat)(nd x:Option MV)(P:MF->aG->MS->Prop),Tr st t R lay d->st <+: Ps->st.length<=f->f≠g->st.length<=g->Ps[f]?=some (.list (ay PZ))->Ps[g]?=some (.list (ay s.reverse))->(qu d s).length < n->(∀c∈s,c < d.length)->s.length+PZ.length+250 * n < 100000 ->
  (∀PT y z,st <+: PT->PT[f]?=some (.list (ay (PZ++qu d s)))->P .next [some (.ref t),nd,some (.ref f),y,z] PT) ->
  ey sk tA n [some (.ref t),nd,some (.ref f),some (.ref g),x] Ps P:=by
 intro n
 induction n with
 | zero=>intro _ _ _ _ _ _ _ _ _ _ _ _ _ _ _ h; exact absurd h (ab9 _)
 | succ n ih =>
  intro s PZ Ps f g nd x P T hp hf hfg hg hF hG hn hs hb q
  refine fA ?_
  walk_at "w"
  refine vf (e:=Ps.length) (aA (aB _) hG) (aH _) ?_
  cases s with
  | nil =>
   refine NW (Mw (q _ _ _ (hp.trans (aB _)) ?_))
   simpa [qu] using aA (aB _) hF
  | cons c r =>
   have Q9:=hs c (.head _)
   have e:ay (c::r).reverse=ay r.reverse++[.int (c:Int)]:=by simp [ay]
   rw [e] at hG
   have he:(!(c::r).reverse.isEmpty)=true:=by simp
   rw [he]
   have X4:=aA (aB (st:=Ps) (.list [])) hG
   have hF1:=aA (aB (st:=Ps) (.list [])) hF
   have PY:=hp.trans (aB (st:=Ps) (.list []))
   generalize Ps++[MO.list []]=s1 at X4 hF1 PY
   walk_at "w"
   refine dY X4 ?_
   walk_at "w"
   have small:=T.small
   have hsz:(ay r.reverse).length < abD:=by
    rw [bb,ade]
    simp only [abz] at hb
    exact abJ (by walk_at "o":r.length < 100000) (by decide)
   refine EA X4 hsz ?_
   have VC:(s1.set g (.list (ay r.reverse)))[f]?=some (.list (ay PZ)):=by rw [abh (aef hfg)]; exact hF1
   have hG2:(s1.set g (.list (ay r.reverse)))[g]?=some (.list (ay r.reverse)):=abu (bP X4).1
   have PW:st <+: s1.set g (.list (ay r.reverse)):=mI PY hg
   generalize s1.set g (MO.list (ay r.reverse))=s2 at VC hG2 PW
   walk_at "w"
   refine dY VC ?_
   walk_at "w"
   have acP:(ay PZ).length<=abD:=by
    rw [bb]
    exact aan (by walk_at "o":PZ.length<=100000) (by decide)
   refine dF VC acP ?_
   have e2:ay PZ++[.int (c:Int)]=ay (PZ++[c]):=by simp [ay]
   rw [e2]
   have hF3:(s2.set f (.list (ay (PZ++[c]))))[f]?=some (.list (ay (PZ++[c]))):=abu (bP VC).1
   have hG3:(s2.set f (.list (ay (PZ++[c]))))[g]?=some (.list (ay r.reverse)):=by rw [abh hfg]; exact hG2
   have Qi:st <+: s2.set f (.list (ay (PZ++[c]))):=mI PW hf
   generalize s2.set f (MO.list (ay (PZ++[c])))=s3 at hF3 hG3 Qi
   have T3:=T.mono Qi
   walk_at "w"
   refine NC ?_
   walk_at "w"
   refine bK (bj T3) ?_
   walk_at "w"
   refine qA T3 Q9 ?_
   walk_at "w"
   have T4:=T3.mono (aB (st:=s3) (.list (ay (bG d c))))
   have Sz:=e7 d λj=>decide (aT d j=some c) && !bz d j
   refine Lu (aH _) (by rw [bb]; unfold bG; exact aan Sz (aan small (by decide))) ?_
   have Rs:=aB (st:=s3) (.list (ay (bG d c)))
   have hF4:=aA Rs hF3
   have hG4:=aA Rs hG3
   have UF:s3.length<=(s3++[MO.list (ay (bG d c))]).length:=by simp
   generalize s3++[MO.list (ay (bG d c))]=s4 at Rs hF4 hG4 T4 UF
   have RD:=aB (st:=s4) (.list (ay (bG d c)).reverse)
   have Zk:=aA RD hF4
   have hG5:=aA RD hG4
   walk_at "w"
   have aa5:(ay r.reverse).length+(ay (bG d c)).reverse.length<=abD:=by
    rw [ade,bb,bb,ade]
    unfold bG
    simp only [abz] at hb
    exact aan (by walk_at "o":r.length+_<=100000+200) (by decide)
   refine I5 hG5 (aH _) aa5 ?_
   have e5:ay r.reverse++(ay (bG d c)).reverse=ay (bG d c++r).reverse:=by simp [ay]
   rw [e5]
   generalize hs5:s4++[MO.list (ay (bG d c)).reverse]=s5 at RD Zk hG5
   have Sg:=aB (st:=s5) (.list (ay (bG d c++r).reverse))
   have X1:qu d (c::r)=c::qu d (bG d c++r):=by
    unfold qu
    rw [List.flatMap_cons,ahW,Jf W c]
    simp
   have Vf:st <+: s5++[MO.list (ay (bG d c++r).reverse)]:=((Qi.trans Rs).trans RD).trans Sg
   have h35:s3.length<=s5.length:=(Rs.trans RD).length_le
   walk_at "w"
   refine ih (bG d c++r) (PZ++[c]) _ f s5.length nd _ P T Vf hf ?_ ?_ (aA Sg Zk) (aH _) ?_ ?_ ?_ λPT y z h1 h2=>q PT y z h1 ?_
   ·have:=(bP Zk).1
    walk_at "o"
   ·exact aan Qi.length_le h35
   ·rw [X1,abz] at hn; walk_at "o"
   ·intro x hx
    rcases dU hx with hx | hx
    ·exact (fi.mp hx).1
    ·exact hs x (.tail _ hx)
   ·rw [abd,abd]
    unfold bG
    simp only [abz,ahl] at hb ⊢
    walk_at "o"
   ·rw [X1]
    simpa using h2
theorem Lf (W:Wf d)(s:Nat):(qu d (bG d s)).length<=d.length:=by
 have:qu d (bG d s)=de d d.length s:=(Jf W s).symm
 rw [this,iC W (by (first | lia | omega))]
 exact e7 d _
theorem HM (W:Wf d)(T:Tr st t R lay d)(hk:k < d.length)(h:∀Ps i,st <+: Ps->st.length<=i->Ps[i]?=some (.list (ay (de d d.length k)))->Q (.ref i) Ps):rX [.ref t,.int (k:Int)] st Q:=by
 have small:=T.small
 refine abi rfl ?_
 have PY:=aB (st:=st) (.list [])
 have T1:=T.mono PY
 refine abi (bj T1) (qA T1 hk ?_)
 have Sz:=e7 d λj=>decide (aT d j=some k) && !bz d j
 have PW:=aB (st:=st++[.list []]) (.list (ay (bG d k)))
 refine eG (aH _) ⟨rfl,by rw [bb]; unfold bG; exact aan Sz (aan small (by decide)),?_⟩
 have VC:=aA PW (aH (st:=st) (.list []))
 have RL:st.length < (st++[MO.list []]++[MO.list (ay (bG d k))]).length:=by simp
 generalize st++[MO.list []]++[MO.list (ay (bG d k))]=s2 at PW VC RL
 have e:(ay (bG d k)).reverse=ay (bG d k).reverse:=by simp [ay]
 rw [e]
 have Qi:=aB (st:=s2) (.list (ay (bG d k).reverse))
 have hp:st <+: s2++[MO.list (ay (bG d k).reverse)]:=(PY.trans PW).trans Qi
 have ht:=Lf W k
 refine ad5 202 (BL W 202 (bG d k) [] _ st.length s2.length _ _ _ T hp (abt _) (by walk_at "o") (by walk_at "o") (aA Qi VC) (aH _) (by walk_at "o") (λc hc=>(fi.mp hc).1) (by unfold bG; simp; walk_at "o") λPT y z h1 h2=>?_)
 refine h PT _ h1 (abt _) ?_
 rw [Jf W k]
 simpa [qu] using h2
theorem d7 {G:MS->Prop}{c:TB}{e:TE}{p:MV->Bool}{f:MV->MV}{caps:aG}(hG:∀Ps,st <+: Ps->G Ps):∀(xs:List MV)(hc:∀x∈xs,∀st1 (K:Bool->MS->Prop),st <+: st1->(∀P1,st1 <+: P1->K (p x) P1)->c (some x::caps) st1 K)
  (he:∀x∈xs,p x=true->∀st1 (K:MV->MS->Prop),st <+: st1->(∀P1,st1 <+: P1->K (f x) P1)->e (some x::caps) st1 K) (y:Option MV) (ys:List MV) (Ps:MS) (Q:List MV->MS->Prop),st <+: Ps ->
  (∀PT,st <+: PT->Q (ys++(xs.filter p).map f) PT)->fq G (b8 0) c e xs (y::caps) ys Ps Q:=by
 intro xs
 induction xs with
 | nil =>
  intro hc he y ys Ps Q hp q
  exact⟨hG _ hp,by have:=q Ps hp; simpa using this⟩
 | cons x xs ih =>
  intro hc he y ys Ps Q hp q
  refine abi (hG _ hp) ?_
  refine hc x (.head _) Ps _ hp λP1 PW=>?_
  cases hpx:p x with
  | false =>
   simp only [ab5,if_false]
   refine ih (λz hz=>hc z (.tail _ hz)) (λz hz=>he z (.tail _ hz)) _ ys P1 Q (hp.trans PW) λPT h=>?_
   have:=q PT h
   simpa [hpx] using this
  | true =>
   simp only [if_true]
   refine he x (.head _) hpx P1 _ (hp.trans PW) λQa Qi=>?_
   refine ih (λz hz=>hc z (.tail _ hz)) (λz hz=>he z (.tail _ hz)) _ _ Qa Q ((hp.trans PW).trans Qi) λPT h=>?_
   have:=q PT h
   simpa [hpx] using this
noncomputable def aL (d:List Rw)(k:Nat):Rw:=(d[k]?).getD ⟨"","","","","",none⟩
theorem c5 (h:k < d.length):d[k]?=some (aL d k):=by unfold aL; rw [abc h]; rfl
noncomputable def bi (d:List Rw)(k:Nat):Str:=
 if (aL d k).kind=("root":Str)\/(aL d k).kind=("element":Str) then aeF ("":Str) (((de d d.length k).filter λj=>decide ((aL d j).kind=("text":Str))).map λj=>(aL d j).val) else (aL d k).val
def h8 (d:List Rw):Prop:=(∀j,j < d.length->(aL d j).val.length<=100)/\∀j,j < d.length->ab7 (aL d j).kind=true
theorem HV:∀(l:List Str)(b:Nat),(∀x∈l,x.length<=b)->(l.map (·.length)).sum<=b * l.length:=by
 intro l
 induction l with
 | nil =>
  intro b _
  simp
 | cons x r ih =>
  intro b h
  have:=ih b λy hy=>h y (.tail _ hy)
  have:=h x (.head _)
  simp only [abj,List.sum_cons,abz,Nat.mul_add]
  walk_at "o"
theorem Dj (l:List Nat):xS (l.map λj=>MV.str (aL d j).val)=some (l.map λj=>(aL d j).val):=by
 have:=xr (l.map λj=>(aL d j).val)
 rw [ab6] at this
 exact this
theorem xL (W:Wf d)(small:d.length<=200)(hs:h8 d)(hk:k < d.length)(hc:(aL d k).kind=("root":Str)\/(aL d k).kind=("element":Str)) {i:Nat} (hi:st[i]?=some (.list (((de d d.length k).filter λj=>decide ((aL d j).kind=("text":Str))).map λj=>MV.str (aL d j).val))) (h:Q (.str (bi d k)) st) :
  qx [.str ("":Str),.ref i] st Q:=by
 have Up:bi d k=aeF ("":Str) (((de d d.length k).filter λj=>decide ((aL d j).kind=("text":Str))).map λj=>(aL d j).val):=by unfold bi; rw [if_pos hc]
 have V7:(de d d.length k).length<=d.length:=by rw [iC W (by (first | lia | omega))]; exact e7 d _
 refine eG hi (lT (Dj _) ⟨?_,Up ▸ h⟩)
 have XC:=HV (((de d d.length k).filter λj=>decide ((aL d j).kind=("text":Str))).map λj=>(aL d j).val) 100 λx Sf=>by
  obtain⟨j,hj,rfl⟩:=c9 Sf
  exact hs.1 j ((fO W d.length k j (by walk_at "o")).mp (adj.mp hj).1).1
 have hl:=afW (λj=>decide ((aL d j).kind=("text":Str))) (de d d.length k)
 rw [abg] at XC
 rw [show ("":Str).length=0 by decide +kernel]
 walk_at "o"
theorem x8 {V:MV}{x a b:Str}(hx:ab7 x=true)(hn:∀y,V≠.str y)(hV:fu st V=some (.list [.str a,.str b])\/fu st V=some (.tuple [.str a,.str b]))(h1:x=a\/x=b->Q (.bool false) st)(h2:¬(x=a\/x=b)->Q (.bool true) st):ic true [.str x,V] st Q:=by
 have e1:∀a b:Str,abK (.str a) (.str b)=decide (b=a):=λa b=>by
  unfold abK
  by_cases QP:b=a
  ·subst QP; simp
  ·have:¬a=b:=λq=>QP q.symm
   simp [QP,this]
 have e:(xor true ([agA a,agA b].any λy=>abK y (agA x)))=!decide (x=a\/x=b):=by
  simp only [List.any_cons,List.any_nil,e1,Bool.or_false,agU]
  rw [<- Bool.decide_or]
 have q:Q (.bool (xor true ([agA a,agA b].any λy=>abK y (agA x)))) st:=by
  rw [e]
  by_cases h:x=a\/x=b
  ·rw [decide_eq_true h]; exact h1 h
  ·rw [decide_eq_false h]; exact h2 h
 have ea:ed (.str x)=some (.str x):=if_pos hx
 have am:xt (ed (.str x)) (fu st V) (λd ds=>Q (.bool (xor true (ds.any λy=>abK y d))) st):=by
  rw [ea]
  rcases hV with e | e <;> rw [e] <;> exact q
 cases V with
 | str y=>exact absurd rfl (hn y)
 | _=>exact am
theorem pj (W:Wf d)(T:Tr st t R lay d)(hs:h8 d)(hk:k < d.length)(h:∀Ps,st <+: Ps->Q (.str (bi d k)) Ps):gc [.ref t,.int (k:Int)] st Q:=by
 have small:=T.small
 have hr:=c5 hk
 refine cD rfl ?_
 walk_at "w"
 refine bK (bj T) ?_
 walk_at "w"
 refine wF T hr ?_
 have WW:=hs.2 k hk
 walk_at "w"
 refine x8 (a:=("root":Str)) (b:=("element":Str)) WW (λ_=>nofun) (.inr ?_) (λhc=>?_) λhc=>?_
 ·exact HR (yz (by decide +kernel) (by decide +kernel))
 ·walk_at "w"
  refine iJ ?_
  walk_at "w"
  refine eq rfl ?_
  walk_at "w"
  refine HM W T hk λs1 i PY hi hx=>?_
  refine cb hx ?_
  have V7:(de d d.length k).length<=d.length:=by rw [iC W (by (first | lia | omega))]; exact e7 d _
  refine dr (by rw [bb]; walk_at "o") ?_
  have T1:=T.mono PY
  refine d7 (p:=λV=>match V with | .int j=>decide ((aL d j.toNat).kind=("text":Str)) | _=>false) (f:=λV=>match V with | .int j=>.str (aL d j.toNat).val | _=>.none) (caps:=[some (.ref t)]) (λs hs=>aA hs hx) _ ?_ ?_ none [] s1 _ (aaj _) λs2 PW=>?_
  ·intro x Sf s2 K PW q
   obtain⟨j,hj,rfl⟩:=c9 Sf
   have UN:=((fO W d.length k j (by walk_at "o")).mp hj).1
   have T2:=T1.mono PW
   refine abi (bj T2) (wF T2 (c5 UN) ?_)
   have q':K (decide ((aL d j).kind=("text":Str))) s2:=q s2 (aaj _)
   exact q'
  ·intro x Sf _ s2 K PW q
   obtain⟨j,hj,rfl⟩:=c9 Sf
   have UN:=((fO W d.length k j (by walk_at "o")).mp hj).1
   have T2:=T1.mono PW
   refine abi (bj T2) (ym T2 (c5 UN) ?_)
   have:=q s2 (aaj _)
   simpa using this
  ·have el:[]++((ay (de d d.length k)).filter λV=>match V with | .int j=>decide ((aL d j.toNat).kind=("text":Str)) | _=>false).map (λV=>match V with | .int j=>MV.str (aL d j.toNat).val | _=>.none)=((de d d.length k).filter λj=>decide ((aL d j).kind=("text":Str))).map λj=>MV.str (aL d j).val:=by
    rw [abA]
    unfold ay
    rw [aeq,ab6]
    rfl
   rw [el]
   walk_at "w"
   exact xL W small hs hk hc (aH _) (h _ ((PY.trans PW).trans (aB _)))
 ·walk_at "w"
  refine bK (bj T) ?_
  walk_at "w"
  refine ym T hr ?_
  have Up:bi d k=(aL d k).val:=by unfold bi; rw [if_neg hc]
  rw [<- Up]
  exact h st (aaj _)
end
noncomputable def eK (k:Nat)(r:Rw):List MV:=[.int (k:Int),.str r.kind,.str r.name,.str r.loc,.str r.uri,.str r.val,kD r.par]
structure LR (st:MS)(rl:Nat)(PJ:List Nat)(d:List Rw):Prop where
 rows:st[rl]?=some (.list (PJ.map .ref))
 len:PJ.length=d.length
 row:∀(k i:Nat),PJ[k]?=some i->st[i]?=some (.list (eK k (aL d k)))
theorem LR.mono {st Ps:MS}{rl:Nat}{PJ:List Nat}{d:List Rw}(T:LR st rl PJ d)(hp:st <+: Ps):LR Ps rl PJ d where
 rows:=aA hp T.rows
 len:=T.len
 row:=λk i h=>aA hp (T.row k i h)
theorem LR.at {st:MS}{rl:Nat}{PJ:List Nat}{d:List Rw}(T:LR st rl PJ d){k:Nat}(h:k < d.length):∃i,PJ[k]?=some i/\(PJ.map MV.ref)[k]?=some (.ref i)/\st[i]?=some (.list (eK k (aL d k))):=by
 rw [<- T.len] at h
 have:=abc h
 exact⟨_,this,by rw [abF,this]; rfl,T.row k _ this⟩
section
variable {st Ps:MS}{rl:Nat}{PJ:List Nat}{d:List Rw}{k:Nat}{Q:MV->MS->Prop}
theorem nJ (hk:k < d.length):aT d k=(aL d k).par:=by unfold aT; rw [c5 hk]; rfl
theorem ue (T:LR st rl PJ d)(small:d.length<=200)(hk:k < d.length){j:Int}{n:Nat}{V:MV}(hj:j=(n:Int))(hV:(eK k (aL d k))[n]?=some V)(h:Q V st):aN [.ref rl,.int (k:Int)] st λW Pt=>aN [W,.int j] Pt Q:=by
 obtain⟨i,h1,h2,h3⟩:=T.at hk
 have:=T.len
 exact bI T.rows rfl h2 (by rw [abg]; walk_at "o") (bI h3 hj hV (by simp [eK]) h)
theorem Ap (W:Wf d)(small:d.length<=200):∀(n k:Nat)(xs:List MV)(Ps:MS)(f:Nat)(P:MF->aG->MS->Prop),LR st rl PJ d->st <+: Ps->st.length<=f->Ps[f]?=some (.list xs)->k < n->k < d.length->xs.length+k < 1000 ->
  (∀PT,st <+: PT->PT[f]?=some (.list (xs++ay (line d k)))->P .next [some (.ref rl),some .none,some (.ref f)] PT) ->
  ey lQ l3 (n+1) [some (.ref rl),some (.int (k:Int)),some (.ref f)] Ps P:=by
 intro n
 induction n with
 | zero =>
  intro _ _ _ _ _ _ _ _ _ h _ _ _
  exact absurd h (ab9 _)
 | succ n ih =>
  intro k xs Ps f P T hp hf hx hn hk hl q
  have PW:st <+: Ps.set f (.list (xs++[.int (k:Int)])):=mI hp hf
  have T2:=T.mono PW
  have Rp:(Ps.set f (.list (xs++[.int (k:Int)])))[f]?=some (.list (xs++[.int (k:Int)])):=by
   rw [abu (bP hx).1]
  refine fA ?_
  walk_at "w"
  refine dY hx ?_
  walk_at "w"
  refine dF hx (aan (by walk_at "o") (by decide:1000<=abD)) ?_
  walk_at "w"
  refine ue T2 small hk (n:=6) rfl rfl ?_
  walk_at "w"
  rw [<- nJ hk]
  cases e:aT d k with
  | none =>
   refine q _ PW ?_
   rw [e6 W e]; exact Rp
  | some p =>
   have TX:=W.low k p e
   refine ih p (xs++[.int (k:Int)]) _ f P T PW hf Rp (by walk_at "o") (by walk_at "o") (by simp; walk_at "o") λPT h1 h2=>q PT h1 ?_
   rw [dE W e]
   simpa [ay] using h2
theorem xx (W:Wf d)(small:d.length<=200)(T:LR st rl PJ d)(hk:k < d.length)(h:∀Ps i,st <+: Ps->st.length<=i->Ps[i]?=some (.list (ay (line d k)))->Q (.ref i) Ps):my [.ref rl,.int (k:Int)] st Q:=by
 refine abi rfl ?_
 show f2 lQ l3 [some (.ref rl),some (.int (k:Int)),some (.ref st.length)] (st++[.list []]) _
 refine ad5 (k+1+1) (Ap W small (k+1) k [] (st++[.list []]) st.length _ T (aB _) (abt _) (aH _) (aby _) hk (by simp; walk_at "o") λPT h1 h2=>?_)
 rw [abA] at h2
 exact h _ _ h1 (abt _) h2
theorem xR {G:MS->Prop}{c:TB}{e:TE}{p:MV->MV->Bool}{f:MV->MV->MV}{caps:aG}(hG:∀Ps,st <+: Ps->G Ps):∀(xs:List (MV×MV))(hc:∀x∈xs,∀st1 (K:Bool->MS->Prop),st <+: st1->(∀P1,st1 <+: P1->K (p x.1 x.2) P1)->c (some x.1::some x.2::caps) st1 K)
  (he:∀x∈xs,p x.1 x.2=true->∀st1 (K:MV->MS->Prop),st <+: st1->(∀P1,st1 <+: P1->K (f x.1 x.2) P1)->e (some x.1::some x.2::caps) st1 K) (y z:Option MV) (ys:List MV) (Ps:MS) (Q:List MV->MS->Prop),st <+: Ps ->
  (∀PT,st <+: PT->Q (ys++(xs.filter λx=>p x.1 x.2).map λx=>f x.1 x.2) PT)->fq G (iq [0,1]) c e (xs.map λx=>.tup [x.1,x.2]) (y::z::caps) ys Ps Q:=by
 intro xs
 induction xs with
 | nil =>
  intro hc he y z ys Ps Q hp q
  exact⟨hG _ hp,by have:=q Ps hp; simpa using this⟩
 | cons x xs ih =>
  intro hc he y z ys Ps Q hp q
  refine abi (hG _ hp) (abi rfl ?_)
  refine hc x (.head _) Ps _ hp λP1 PW=>?_
  cases hpx:p x.1 x.2 with
  | false =>
   simp only [ab5,if_false]
   refine ih (λz hz=>hc z (.tail _ hz)) (λz hz=>he z (.tail _ hz)) _ _ ys P1 Q (hp.trans PW) λPT h=>?_
   have:=q PT h
   simpa [hpx] using this
  | true =>
   simp only [if_true]
   refine he x (.head _) hpx P1 _ (hp.trans PW) λQa Qi=>?_
   refine ih (λz hz=>hc z (.tail _ hz)) (λz hz=>he z (.tail _ hz)) _ _ _ Qa Q ((hp.trans PW).trans Qi) λPT h=>?_
   have:=q PT h
   simpa [hpx] using this
noncomputable def i4:Nat->List MV->List (MV×MV)
 | _,[]=>[]
 | k,x::xs=>(.int (k:Int),x)::i4 (k+1) xs
theorem EV:∀(xs:List MV)(k:Nat),lY k xs=(i4 k xs).map λx=>.tup [x.1,x.2]:=by
 intro xs
 induction xs with
 | nil =>
  intro _
  exact rfl
 | cons x xs ih =>
  intro k
  simp [lY,i4,ih]
theorem Cu:∀(xs:List MV)(k:Nat),(i4 k xs).map (·.1)=(adt k xs.length).map λ(n:Nat)=>MV.int (n:Int):=by
 intro xs
 induction xs with
 | nil =>
  intro _
  exact rfl
 | cons x xs ih =>
  intro k
  simp [i4,ih,aed]
theorem mW:∀{xs:List MV}{k:Nat}{y:MV×MV},y∈i4 k xs->∃j V,y=(.int ((k+j:Nat):Int),V)/\xs[j]?=some V
 | [],_,_,h=>by cases h
 | x::xs,k,y,h=>by
  rcases bN h with rfl | h
  ·exact⟨0,x,rfl,rfl⟩
  ·obtain⟨j,V,e,h2⟩:=mW h
   exact⟨j+1,V,by rw [e,show k+1+j=k+(j+1) by walk_at "o"],h2⟩
theorem zH (n:Nat):(adt 0 n).map (λ(n:Nat)=>MV.int (n:Int))=ay (aca n):=by rw [aga]; rfl
theorem J2 (ns:List Nat)(k:Nat):((ns.map λ(n:Nat)=>adJ (n:Int)).any λy=>abK y (.int (k:Int)))=decide (k∈ns):=by
 rw [List.any_map]
 rw [ahm,List.any_eq_true,decide_eq_true_eq]
 constructor
 ·rintro⟨x,hx,hy⟩
  have:(x:Int)=(k:Int):=by simpa [abK] using hy
  have:x=k:=by walk_at "o"
  exact this ▸ hx
 ·intro hk
  exact⟨k,hk,by simp [abK]⟩
theorem MR {i:Nat}{ns:List Nat}{k:Nat}(hi:st[i]?=some (.list (ay ns)))(h:Q (.bool (decide (k∈ns))) st):ic false [.int (k:Int),.ref i] st Q:=Fo (λ_ _=>rfl) (JB rfl (dX hi (mH _)) (by rw [J2,ahM]; exact h))
theorem DF (W:Wf d)(hk:k < d.length)(hc:(aL d k).kind=("root":Str)\/(aL d k).kind=("element":Str)) :
  (de d d.length k).filter (λj=>decide ((aL d j).kind=("text":Str)))=(aca d.length).filter λj=>decide ((aL d j).kind=("text":Str)) && decide (k∈line d j):=by
 rw [iC W (by (first | lia | omega)),agB]
 refine afO λj hj=>?_
 rw [abZ] at hj
 by_cases ht:(aL d j).kind=("text":Str)
 ·have P6:j≠k:=by
   intro e
   subst e
   rcases hc with hc | hc <;> (rw [hc] at ht; exact absurd ht (by decide +kernel))
  have na:bz d j=false:=by
   unfold bz
   rw [c5 hj]
   show decide ((aL d j).kind=cw)=false
   rw [ht]; decide +kernel
  simp [ht,P6,na]
 ·simp [ht]
theorem ou (W:Wf d)(small:d.length<=200)(T:LR st rl PJ d)(hs:h8 d)(hk:k < d.length)(h:∀Ps,st <+: Ps->Q (.str (bi d k)) Ps):fQ [.ref rl,.int (k:Int)] st Q:=by
 refine cD rfl ?_
 have WW:=hs.2 k hk
 walk_at "w"
 refine ue T small hk (n:=1) rfl rfl ?_
 have PY:=aB (st:=st) (.list [.str ("element":Str),.str ("root":Str)])
 have T1:=T.mono PY
 walk_at "w"
 refine x8 (a:=("element":Str)) (b:=("root":Str)) WW (λ_=>nofun) (.inl ?_) (λhc=>?_) λhc=>?_
 ·exact dX (aH _) (yz (by decide +kernel) (by decide +kernel))
 ·replace hc:=hc.symm
  walk_at "w"
  refine iJ ?_
  walk_at "w"
  have PL:(PJ.map MV.ref).length=d.length:=by rw [abg,T.len]
  generalize hs1:st++[MO.list [MV.str ("element":Str),.str ("root":Str)]]=s1 at PY T1
  refine eq rfl ?_
  refine EY ?_
  walk_at "w"
  refine Bk T1.rows ?_
  refine dr (by rw [vF,PL]; exact aan small (by decide)) ?_
  rw [EV]
  refine xR (st:=s1) (p:=λa _=>match a with | .int j=>decide ((aL d j.toNat).kind=("text":Str)) && decide (k∈line d j.toNat) | _=>false) (f:=λa _=>match a with | .int j=>.str (aL d j.toNat).val | _=>.none) (caps:=[some (.int (k:Int)),some (.ref rl)]) (λs hs=>aA hs T1.rows) _ ?_ ?_ none none [] s1 _ (aaj _) λs2 PW=>?_
  ·intro x hx s2 K PW q
   refine bv λGG PD=>?_
   obtain⟨j,V,rfl,hV⟩:=mW hx
   rw [afE] at *
   have hj:j < d.length:=by have:=(bP hV).1; rwa [PL] at this
   have T2:=T1.mono PW
   obtain⟨i,Xb,UK,Wi⟩:=T2.at hj
   refine PD ?_
   rw [UK] at hV
   obtain rfl:=(abl hV).symm
   walk_at "w"
   refine bI Wi (n:=1) rfl rfl (by simp [eK]) ?_
   walk_at "w"
   refine dG (λht=>?_) λht=>?_
   ·walk_at "w"
    refine xx W small T2 hj λs3 i3 Qi Wi Uc=>?_
    walk_at "w"
    refine MR Uc ?_
    have q':K (decide ((aL d j).kind=("text":Str)) && decide (k∈line d j)) s3:=q s3 Qi
    rw [decide_eq_true ht,ah7] at q'
    walk_at "w"
    refine dG (λSz=>?_) λSz=>?_
    ·rw [decide_eq_true Sz] at q'
     walk_at "w"
     exact q'
    ·rw [decide_eq_false Sz] at q'
     exact q'
   ·have q':K (decide ((aL d j).kind=("text":Str)) && decide (k∈line d j)) s2:=q s2 (aaj _)
    rw [decide_eq_false ht,agC] at q'
    exact q'
  ·intro x hx _ s2 K PW q
   refine bv λGG PD=>?_
   obtain⟨j,V,rfl,hV⟩:=mW hx
   rw [afE] at *
   have hj:j < d.length:=by have:=(bP hV).1; rwa [PL] at this
   have T2:=T1.mono PW
   obtain⟨i,Xb,UK,Wi⟩:=T2.at hj
   refine PD ?_
   rw [UK] at hV
   obtain rfl:=(abl hV).symm
   walk_at "w"
   exact bI Wi (n:=5) rfl rfl (by simp [eK]) (q s2 (aaj _))
  ·have el:([]:List MV)++((i4 0 (PJ.map MV.ref)).filter λx=>(match x.1 with | .int j=>decide ((aL d j.toNat).kind=("text":Str)) && decide (k∈line d j.toNat) | _=>false)).map (λx=>match x.1 with | .int j=>MV.str (aL d j.toNat).val | _=>.none)=((de d d.length k).filter λj=>decide ((aL d j).kind=("text":Str))).map λj=>MV.str (aL d j).val:=by
    rw [abA,DF W hk hc]
    have e1:=Cu (PJ.map MV.ref) 0
    rw [PL,zH] at e1
    have e2:((i4 0 (PJ.map MV.ref)).filter λx=>(match x.1 with | .int j=>decide ((aL d j.toNat).kind=("text":Str)) && decide (k∈line d j.toNat) | _=>false)).map (λx=>match x.1 with | .int j=>MV.str (aL d j.toNat).val | _=>.none)=(((i4 0 (PJ.map MV.ref)).map (·.1)).filter λa=>(match a with | .int j=>decide ((aL d j.toNat).kind=("text":Str)) && decide (k∈line d j.toNat) | _=>false)).map (λa=>match a with | .int j=>MV.str (aL d j.toNat).val | _=>.none):=by
     rw [aeq,ab6]; rfl
    rw [e2,e1]
    unfold ay
    rw [aeq,ab6]
    rfl
   rw [el]
   walk_at "w"
   exact xL W small hs hk hc (aH _) (h _ ((PY.trans PW).trans (aB _)))
 ·replace hc:¬((aL d k).kind=("root":Str)\/(aL d k).kind=("element":Str)):=λq=>hc q.symm
  walk_at "w"
  refine ue T1 small hk (n:=5) rfl rfl ?_
  walk_at "w"
  have Up:bi d k=(aL d k).val:=by unfold bi; rw [if_neg hc]
  have:=h _ PY
  rw [Up] at this
  exact this
end
structure u2 (j:Nat)(st Ps:MS):Prop where
 len:st.length<=Ps.length
 keep:∀i o,i≠j->st[i]?=some o->Ps[i]?=some o
theorem u2.set {j:Nat}{a:MS}{o:MO}:u2 j a (a.set j o):=⟨by simp,λi o h e=>by rw [abh (aef h)]; exact e⟩
def dQ (st:MS)(j:Nat):Prop:=∃a b:Int,st[j]?=some (.list [.int a,.int b])/\0<=a/\0<=b/\b < 2147483648
theorem dQ.pre {st Ps:MS}{j:Nat}(h:dQ st j)(hp:st <+: Ps):dQ Ps j:=let ⟨a,b,e,r⟩:=h; ⟨a,b,aA hp e,r⟩
section
variable {st Ps:MS}{j:Nat}{Q:MV->MS->Prop}
theorem G1 {o i v:TE}{ρ:aG}{F:MF->aG->MS->Prop}(h:v ρ st (Ft o i ρ F)):AA o i v ρ st F:=h
theorem Eu {p k:Nat}{i:Int}{xs:List MV}{W:MV}{ρ:aG}{F:MF->aG->MS->Prop}(h0:ρ[p]?=some (some (.ref k)))(hk:st[k]?=some (.list xs))(j0:0<=i)(j1:i < xs.length)(j2:i < 2 ^ 63)(h:F .next ρ (st.set k (.list (xs.set i.toNat W)))) :
  Ft (af p) (tK (.int i)) ρ F W st:=iF h0 (eG hk ⟨j0,j1,j2,h⟩)
theorem xi {a:Int}(h:Q (.int a) st):eJ [.int a] st Q:=h
theorem d5 {top:Nat}(h0:0 < top)(h1:top < 1000)(S:dQ st j)(h:∀Ps (x:Nat),x < top->u2 j st Ps->dQ Ps j->Q (.int (x:Int)) Ps):cy [.ref j,.int (top:Int)] st Q:=by
 refine bv λGG PD=>?_
 obtain⟨a,b,e,ha,hb,Wb⟩:=S
 refine PD ?_
 refine cD rfl ?_
 have Yn:(0:Int) < top:=Int.natCast_pos.mpr h0
 have YW:(top:Int)≠0:=Int.ne_of_gt Yn
 have PR:j < st.length:=(bP e).1
 have g0:∀(P:MV->MS->Prop) (s:MS) (x y:Int),s[j]?=some (.list [.int x,.int y])->P (.int x) s->aN [.ref j,.int 0] s P:=λP s x y e q=>bI (n:=0) e rfl rfl (by simp) q
 have g1:∀(P:MV->MS->Prop) (s:MS) (x y:Int),s[j]?=some (.list [.int x,.int y])->P (.int y) s->aN [.ref j,.int 1] s P:=λP s x y e q=>bI (n:=1) e rfl rfl (by simp) q
 have drawn:∀x:Int,0<=x->∃n:Nat,n < top/\adb x top=(n:Int):=λx hx=>by
  have h1:=aep hx (Int.le_of_lt Yn)
  have h2:=ae0 x Yn
  exact⟨(adb x top).toNat,(Int.toNat_lt h1).mpr h2,(ahY h1).symm⟩
 walk_at "w"
 refine g0 _ _ _ _ e ?_
 walk_at "w"
 refine bH (λSj=>?_) λSj=>?_
 ·walk_at "w"
  refine g0 _ _ _ _ e ?_
  walk_at "w"
  refine xi ?_
  walk_at "w"
  refine ck YW ?_
  walk_at "w"
  refine G1 ?_
  walk_at "w"
  refine g0 _ _ _ _ e ?_
  walk_at "w"
  refine ck ⟨YW,by rw [Int.natAbs_natCast]; exact agk h1 (by decide)⟩ ?_
  refine Eu rfl e (by decide) (by simp) (by decide) ?_
  walk_at "w"
  obtain⟨n,hn,en⟩:=drawn a ha
  rw [en]
  refine h _ n hn u2.set ⟨af7 a top,b,by simp [PR],?_,hb,Wb⟩
  exact Int.fdiv_nonneg ha (Int.le_of_lt Yn)
 ·walk_at "w"
  refine G1 ?_
  walk_at "w"
  refine g1 _ _ _ _ e ?_
  walk_at "w"
  refine ck (kP (by walk_at "o")) ?_
  walk_at "w"
  refine xi ?_
  walk_at "w"
  refine ck (by decide) ?_
  have hm:=aep (show (0:Int)<=b * 39373+7 by walk_at "o") (show (0:Int)<=2147483647 by decide)
  have SU:=ae0 (b * 39373+7) (show (0:Int) < 2147483647 by decide)
  generalize adb (b * 39373+7) 2147483647=b' at hm SU ⊢
  refine Eu rfl e (by decide) (by simp) (by decide) ?_
  have e':(aiK st j (MO.list ([MV.int a,MV.int b].set (Int.toNat 1) (MV.int b'))))[j]?=some (.list [.int a,.int b']):=by simp [PR]
  walk_at "w"
  refine g1 _ _ _ _ e' ?_
  walk_at "w"
  refine g1 _ _ _ _ e' ?_
  walk_at "w"
  refine ck (kP (by walk_at "o")) ?_
  walk_at "w"
  refine xi ?_
  walk_at "w"
  refine ck (by decide) ?_
  walk_at "w"
  have hq:0<=af7 (adb (b' * b') 2147483629) 32:=Int.fdiv_nonneg (aep (Int.mul_nonneg hm hm) (by decide)) (by decide)
  refine ck ⟨by decide,by decide⟩ ?_
  walk_at "w"
  refine xi ?_
  walk_at "w"
  refine ck YW ?_
  obtain⟨n,hn,en⟩:=drawn _ hq
  rw [en]
  walk_at "w"
  exact h _ n hn u2.set ⟨a,b',e',ha,hm,by walk_at "o"⟩
end
section
variable {st Ps:MS}{i j:Nat}{xs:List MV}{Q:MV->MS->Prop}
theorem fK (hi:st[i]?=some (.list xs))(Ys:i≠j)(h0:0 < xs.length)(h1:xs.length < 1000)(S:dQ st j)(h:∀(Ps:MS)(n:Nat)(x:MV),(xs:List MV)[(n:Nat)]?=some (x:MV)->u2 j st Ps->dQ Ps j->Q x Ps):cx [.ref j,.ref i] st Q:=by
 refine cD rfl ?_
 walk_at "w"
 refine fW hi (by walk_at "o") ?_
 walk_at "w"
 refine d5 h0 h1 S λPs n hn E S'=>?_
 walk_at "w"
 obtain⟨x,hx⟩:∃x,xs[n]?=some x:=⟨_,abc hn⟩
 exact bI (E.keep _ _ Ys hi) rfl hx (by walk_at "o") (h Ps n x hx E S')
def ER:TE:=(ar (bh (λa n=>a ^ n.toNat) λa n=>0<=n/\n<=1000000/\a.natAbs < 2 ^ 64) (tK (.int 10)) (tK (.int 18)))
def FS:TE:=(aF FK (ad (aF eJ (ad (af 2) ak)) (ad (aF eJ (ad (ar (bh (· - ·) mq) (ir fP (tK (.int 1))) (af 2)) ak)) ak)))
def Fs:TE:=(ar (bh adb (λ_ b=>b≠0)) (aF eJ (ad (ar (bh (· * ·) acg) (ar cM (ar cM (ar cM (ar (bh adb (λ_ b=>b≠0)) (aF eJ (ad (af 3) ak)) (tK (.int 2147483629))) (ar (bh (· * ·) acg) (ar (bh (· * ·) acg) (tK (.int 7919)) (af 1)) (af 1))) (ar (bh (· * ·) acg) (tK (.int 31)) (af 1))) (tK (.int 17))) (tK (.int 48271))) ak)) (tK (.int 2147483647)))
def Gu (pw:TE):TE:=(be (ad (ar (bh (· * ·) acg) (af 3) (aF eJ (ad (ar (bw λa b=>decide (a ≥ b)) (af 3) pw) ak))) (ad (af 4) ak)))
theorem JM {Qb:MS}{a b:Option MV}{c:Int}{K:MV->MS->Prop}(h:∀VW:Int,0<=VW->K (.int VW) Qb):FS [a,b,some (.int c),none,none] Qb K:=by
 unfold FS
 simp only [rc,aj,az,bX,aS,aX,bY,vP,c8,pW,bT,dz,lJ,fV,iw,oJ,ar,ir,af,tK,aF,ad,ak,bl,be,fh,l6,Bb,bf,cr,iV,sq,pM,fa,fj,b8,iq,adI,acm,agD,agE,abj,ad4,add,abA,abv,abV,if_true,if_false,ab5,adM,adT,bh,eJ,FK,fP,two,nR,one,dT,FM,Mv,kg,gC]
 refine⟨trivial,h _ ?_⟩
 split <;> walk_at "o"
theorem Ji {Qb:MS}{a b d:Option MV}{m:Int}(hm:0<=m){K:MV->MS->Prop}(h:∀n:Int,0<=n->n < 2147483648->K (.int n) Qb):Fs [a,some (.int 0),b,some (.int m),d] Qb K:=by
 unfold Fs
 have m0:∀k:Int,0 < k->0<=adb m k:=λk hk=>aep hm (by walk_at "o")
 have mm:∀x:Int,0<=x->0<=adb x 2147483647/\adb x 2147483647 < 2147483648:=λx hx=>⟨aep hx (by decide),Int.lt_trans (ae0 _ (by decide)) (by decide)⟩
 have k0:(0:Int) < 2147483629:=by decide
 have k1:(2147483647:Int)≠0:=by decide
 generalize (2147483629:Int)=c1 at *
 generalize (2147483647:Int)=c2 at *
 simp only [rc,aj,az,bX,aS,aX,bY,vP,c8,pW,bT,dz,lJ,fV,iw,oJ,ar,ir,af,tK,aF,ad,ak,bl,be,fh,l6,Bb,bf,cr,iV,sq,pM,fa,fj,b8,iq,adI,acm,agD,agE,abj,ad4,add,abA,abv,abV,if_true,if_false,ab5,adM,adT,bh,eJ,cM,two,nR,one,dT,cE,FM,M0,kg,h7,xc,uQ,gC]
 have:=m0 c1 k0
 refine⟨by walk_at "o",kP (by decide),kP (by decide),kP (by decide),pf (by decide),k1,h _ (mm _ (by walk_at "o")).1 (mm _ (by walk_at "o")).2⟩
theorem I6 {pw:TE}(hpw:∀ρ st (K:MV->MS->Prop),(∀v:Int,K (.int v) st)->pw ρ st K){Qb:MS}{a b c:Option MV}{m n:Int}(hm:0<=m){K:MV->MS->Prop}(h:∀r:Int,0<=r->K (.ref Qb.length) (Qb++[.list [.int r,.int n]])):Gu pw [a,b,c,some (.int m),some (.int n)] Qb K:=by
 unfold Gu
 simp only [rc,aj,az,bX,aS,aX,bY,vP,c8,pW,bT,dz,lJ,fV,iw,oJ,ar,ir,af,tK,aF,ad,ak,bl,be,fh,l6,Bb,bf,cr,iV,sq,pM,fa,fj,b8,iq,adI,acm,agD,agE,abj,ad4,add,abA,abv,abV,if_true,if_false,ab5,adM,adT,bw,bh,eJ,two,nR,one,dT,FM,kg,gC]
 refine hpw _ _ _ λv=>?_
 dsimp only
 by_cases hB:m ≥ v
 all_goals simp only [hB,decide_true,decide_false,if_true,if_false,ab5]
 all_goals refine⟨pf (by decide),?_⟩
 all_goals exact h _ (by walk_at "o")
theorem DB {X Y Z:TE}{Qb:MS}{a:Option MV}{c:Int}
  (hX:∀(b:Option MV) (K:MV->MS->Prop),(∀VW:Int,0<=VW->K (.int VW) Qb)->X [a,b,some (.int c),none,none] Qb K)
  (hY:∀(b d:Option MV) (m:Int) (K:MV->MS->Prop),0<=m->(∀n:Int,0<=n->n < 2147483648->K (.int n) Qb)->Y [a,some (.int 0),b,some (.int m),d] Qb K)
  (hZ:∀(b c:Option MV) (m n:Int) (K:MV->MS->Prop),0<=m->(∀r:Int,0<=r->K (.ref Qb.length) (Qb++[.list [.int r,.int n]]))->Z [a,b,c,some (.int m),some (.int n)] Qb K)
  {F:MF->aG->MS->Prop} (h:∀r Ps m n,0<=m->0<=n->n < 2147483648->Ps=Qb++[.list [.int m,.int n]]->F (.ret (.ref Qb.length)) r Ps):(aj (aX 3 X) (aj (aX 4 Y) (aj (aS Z) az))) [a,some (.int 0),some (.int c),none,none] Qb F:=by
 simp only [aj,aX]
 refine hX _ _ λVW hb=>?_
 refine hY _ _ _ _ hb λn n0 n1=>?_
 refine hZ _ _ _ _ _ hb λr hr=>?_
 exact h _ _ _ _ hr n0 n1 rfl
theorem Av:pX=aj (aX 2 (tK (.int 0))) (aj (bX (bT (ar (bw λa b=>decide (a < b)) (af 1) (aF dP (ad (af 0) ak)))) (aj (aX 2 (ar aN (af 0) (af 1))) az) az) (aj (aX 3 FS) (aj (aX 4 Fs) (aj (aS (Gu ER)) az)))):=rfl
theorem IS:∀ρ st (K:MV->MS->Prop),(∀v:Int,K (.int v) st)->ER ρ st K:=λρ st K h=>⟨⟨by decide,by decide,by decide⟩,h _⟩
theorem D0 {T:TS}{ns:List Int}{F:MF->aG->MS->Prop}(hl:ns.length<=63)(h:∀c:Int,T [some (.ext ns),some (.int 0),some (.int c),none,none] st F):(aj (aX 2 (tK (.int 0))) (aj (bX (bT (ar (bw λa b=>decide (a < b)) (af 1) (aF dP (ad (af 0) ak)))) (aj (aX 2 (ar aN (af 0) (af 1))) az) az) T)) [some (.ext ns),some (.int 0),none,none,none] st F:=by
 walk_at "w"
 refine abi (ace hl (by decide)) ?_
 walk_at "w"
 refine bH (λPR=>?_) λ_=>?_
 ·walk_at "w"
  have PR:0 < ns.length:=afM.mp PR
  refine⟨by decide,by decide,ns[0],abc PR,?_⟩
  walk_at "w"
  exact h _
 ·walk_at "w"
  exact h _
theorem FB {ns:List Int}(hl:ns.length<=63)(h:∀Ps,st <+: Ps->dQ Ps st.length->Ps.length=st.length+1->Q (.ref st.length) Ps):pZ [.ext ns,.int 0] st Q:=by
 refine abi rfl ?_
 rw [Av]
 refine D0 hl λc=>?_
 refine DB (λb K k=>JM k) (λb d m K hm k=>Ji hm k) (λb c m n K hm k=>I6 IS hm k) ?_
 intro r Ps m n h0 h1 h2 e
 subst e
 exact h _ (abI _ _) ⟨m,n,by simp,h0,h1,h2⟩ (by simp)
end
theorem s6 {A B:MS}{x:MO}:(A++x::B)[A.length]?=some x:=by simp
theorem EX {A B:MS}{x y:MO}:(A++x::B).set A.length y=A++y::B:=by simp
section
variable {st Ps:MS}{Q:MV->MS->Prop}
theorem jw {C:Addr}{name:Str}{ρ:aG}{F:MF->aG->MS->Prop}{A B:MS}{fs:List (Str×MV)}{V:MV}{v:TE}{B':MS}{b:TS}
  (hv:∀K:MV->MS->Prop,K V (A++.inst C fs::B')->v ρ (A++.inst C fs::B) K) (hl:fs.length < 100) (h0:ρ[0]?=some (some (.ref A.length)))
  (h:b ρ (A++.inst C (kz name V fs)::B') F):aj (dk C name (af 0) v) b ρ (A++.inst C fs::B) F:=
 hv _ (iF h0 (GF s6 ⟨hl,by rw [EX]; exact h⟩))
theorem Kv {ρ:aG}{i:Nat}{V:MV}{st:MS}(h0:ρ[i]?=some (some V)):∀K:MV->MS->Prop,K V st->af i ρ st K:=λK k=>iF h0 k
theorem J8 {ρ:aG}{A B:MS}{x:MO}{n:Nat}(hn:B.length+1=n)(K:MV->MS->Prop)(k:K (.ref (A.length+n)) (A++x::(B++[.list []]))):be ak ρ (A++x::B) K:=by
 refine Nu ?_
 walk_at "w"
 rw [abd,abO]
 show K (.ref (A.length+(B.length+1))) (A++x::(B++[.list []]))
 rw [hn]; exact k
theorem yW {k nm u l v p:MV}{A:MS}(h:Q .none (A++.inst 335 [(("kind":Str),k),(("name":Str),nm),(("uri":Str),u),(("local":Str),l),(("value":Str),v),(("parent":Str),p),(("children":Str),.ref (A.length+1)),(("attributes":Str),.ref (A.length+2)),(("namespaces":Str),.ref (A.length+3))]::[.list [],.list [],.list []])) :
  kJ [.ref A.length,k,nm,u,l,v,p] (A++[.inst 335 []]) Q:=by
 refine cD rfl ?_
 iterate 6 refine jw (Kv rfl) (of_decide_eq_true rfl) rfl ?_
 iterate 3 refine jw (J8 rfl) (of_decide_eq_true rfl) rfl ?_
 exact h
noncomputable def cK (st:MS)(R:Nat)(xs:List MV)(fs:List (Str×MV)):MS:=
 aiK (α:=MO) (st++MO.inst 335 fs::[MO.list [],MO.list [],MO.list []]) R (MO.list (xs++[.ref st.length]))
theorem zs {t R:Nat}{xs:List MV}{r:Rw}(ht:st[t]?=some (.inst 524 [(("rows":Str),.ref R)])) (hR:st[R]?=some (.list xs)) (hx:xs.length<=200) (Un:t≠R)
  (h:Q (.int (xs.length:Int)) (cK st R xs (d6 r ⟨st.length,st.length+1,st.length+2,st.length+3⟩))) :
  e8 [.ref t,.str r.kind,.str r.name,.str r.uri,.str r.loc,.str r.val,kD r.par] st Q:=by
 refine abi rfl ?_
 unfold kI
 have lR:=(bP hR).1
 have lt:=(bP ht).1
 unfold aj bY cr
 refine AG rfl ht rfl ?_
 refine abi ⟨R,xs,rfl,hR⟩ ?_
 unfold ad aF
 dsimp only [af,ak,abj,ad4,add,abA,abv,abV,adI,acm]
 unfold kM
 refine yW ?_
 refine abi rfl ?_
 refine dF (xs:=xs) (by rw [abo lR]; exact hR) (aan hx (by decide)) ?_
 dsimp only [aS,ar,aF,ad]
 refine AG (i:=0) rfl (by rw [abh Un.symm,abo lt]; exact ht) rfl ?_
 refine fW (xs:=xs++[.ref st.length]) (by rw [abu (by simp; walk_at "o")]) (by simp; walk_at "o") ?_
 dsimp only [tK,bh,two,nR,kg,gC]
 refine abi trivial ?_
 simp only [abd,abz,ahl]
 have:((xs.length+(0+1):Nat):Int) - 1=(xs.length:Int):=by walk_at "o"
 rw [this]
 exact h
end
section
variable {d:List Rw}{r:Rw}{k p:Nat}
theorem cR (h:k < d.length):aT (d++[r]) k=aT d k:=by unfold aT; rw [abo h]
theorem cz:aT (d++[r]) d.length=r.par:=by unfold aT; simp
theorem kA (h:k < d.length):bz (d++[r]) k=bz d k:=by unfold bz; rw [abo h]
theorem pe:bz (d++[r]) d.length=decide (r.kind=cw):=by unfold bz; simp
theorem cH (h:k < d.length):aL (d++[r]) k=aL d k:=by unfold aL; rw [abo h]
theorem dJ:aL (d++[r]) d.length=r:=by unfold aL; simp
theorem oo (f g:Nat->Bool)(n:Nat)(h:∀j,j < n->f j=g j):(aca (n+1)).filter f=(aca n).filter g++(if f n then [n] else []):=by
 rw [List.range_succ,List.filter_append]
 congr 1
 ·exact afO λj hj=>h j (abZ.mp hj)
 ·cases e:f n <;> simp [e]
theorem zu (d:List Rw)(r:Rw)(k:Nat):bG (d++[r]) k=bG d k++(if decide (r.par=some k) && !decide (r.kind=cw) then [d.length] else []):=by
 unfold bG
 rw [abd,abr,oo _ (λj=>decide (aT d j=some k) && !bz d j) d.length λj hj=>by rw [cR hj,kA hj],cz,pe]
theorem nU (d:List Rw)(r:Rw)(k:Nat):cZ (d++[r]) k=cZ d k++(if decide (r.par=some k) && decide (r.kind=cw) then [d.length] else []):=by
 unfold cZ
 rw [abd,abr,oo _ (λj=>decide (aT d j=some k) && bz d j) d.length λj hj=>by rw [cR hj,kA hj],cz,pe]
theorem Le (W:Wf d)(h:d.length<=k):cZ d k=[]:=by
 unfold cZ
 rw [afP]
 intro j hj
 rw [abZ] at hj
 have:aT d j≠some k:=λe=>by have:=W.low j k e; walk_at "o"
 simp [this]
theorem FJ (W:Wf d):∀(f k:Nat),k < d.length->kZ (d++[r]) f k=kZ d f k:=by
 intro f
 induction f with
 | zero =>
  intro _ _
  exact rfl
 | succ f ih =>
  intro k h
  unfold kZ
  rw [cR h]
  cases e:aT d k with
  | none=>rfl
  | some p =>
   have:=W.low k p e
   simp only
   rw [ih p (by walk_at "o")]
theorem r9 (W:Wf d)(h:k < d.length):line (d++[r]) k=line d k:=FJ W _ k h
theorem Wf.snoc (W:Wf d)(h:∀p,r.par=some p->p < d.length/\p∈line d (d.length - 1)/\((aL d p).kind=("root":Str)\/(aL d p).kind=("element":Str))):Wf (d++[r]) where
 low:=λk p e=>by
  have hk:=qo e
  rw [abd,abr] at hk
  by_cases Ro:k < d.length
  ·rw [cR Ro] at e; exact W.low k p e
  ·have:k=d.length:=by walk_at "o"
   subst this
   rw [cz] at e
   exact (h p e).1
 pre:=λk p e=>by
  have hk:=qo e
  rw [abd,abr] at hk
  rw [r9 W (by walk_at "o")]
  by_cases Ro:k+1 < d.length
  ·rw [cR Ro] at e; exact W.pre k p e
  ·have SD:k+1=d.length:=by walk_at "o"
   rw [SD,cz] at e
   have:=(h p e).2.1
   rwa [show d.length - 1=k by walk_at "o"] at this
 elm:=λk p e=>by
  have hk:=qo e
  rw [abd,abr] at hk
  by_cases Ro:k < d.length
  ·rw [cR Ro] at e
   obtain⟨q,h1,h2⟩:=W.elm k p e
   have:=(bP h1).1
   exact⟨q,by rw [abo this]; exact h1,h2⟩
  ·have:k=d.length:=by walk_at "o"
   subst this
   rw [cz] at e
   obtain⟨h1,h2,h3⟩:=h p e
   exact⟨aL d p,by rw [abo h1]; exact c5 h1,h3⟩
theorem CV:Wf []:=⟨λk p e=>by simp [aT] at e,λk p e=>by simp [aT] at e,λk p e=>by simp [aT] at e⟩
theorem Tp.snoc (T:Tp d d.length)(h:r.par=none->d=[]):Tp (d++[r]) (d++[r]).length:=λk hk e=>by
 rw [abd,abr] at hk
 by_cases Ro:k < d.length
 ·rw [cR Ro] at e; exact T k Ro e
 ·have:k=d.length:=by walk_at "o"
  subst this
  rw [cz] at e
  rw [h e]; rfl
end
structure Kp (S:Nat->Prop)(st Ps:MS):Prop where
 len:st.length<=Ps.length
 keep:∀i o,¬S i->st[i]?=some o->Ps[i]?=some o
section
variable {S S':Nat->Prop}{a b c:MS}
theorem Kp.refl:Kp S a a:=⟨abt _,λ_ _ _ h=>h⟩
theorem Kp.trans (x:Kp S a b)(y:Kp S b c):Kp S a c:=⟨aan x.len y.len,λi o h e=>y.keep i o h (x.keep i o h e)⟩
theorem Kp.pre (x:a <+: b):Kp S a b:=⟨x.length_le,λi o _ e=>aA x e⟩
theorem Kp.set {j:Nat}{o:MO}(hj:S j):Kp S a (a.set j o):=⟨by simp,λi o h e=>by rw [abh (λq:j=i=>h (q ▸ hj))]; exact e⟩
theorem Kp.wide (x:Kp S a b)(h:∀i,S i->S' i):Kp S' a b:=⟨x.len,λi o hi e=>x.keep i o (λq=>hi (h i q)) e⟩
theorem u2.kp {j:Nat}(x:u2 j a b):Kp (·=j) a b:=⟨x.len,λi o h e=>x.keep i o h e⟩
theorem Kp.new {j:Nat}{o:MO}(x:Kp S a b)(hj:S j\/a.length<=j):Kp S a (b.set j o):=⟨by simpa using x.len,λi o h e=>by
 have PR:=(bP e).1
 rw [abh (λq:j=i=>hj.elim (λw=>h (q ▸ w)) λw=>by walk_at "o")]
 exact x.keep i o h e⟩
end
def cu (t R:Nat)(lay:List cJ)(x:Nat):Prop:=x=t\/x=R\/∃l∈lay,l.i<=x/\x < l.i+4
structure Ly (t R:Nat)(lay:List cJ):Prop where
 tR:t < R
 low:∀l∈lay,R < l.i/\l.c=l.i+1/\l.a=l.i+2/\l.s=l.i+3
 inc:lay.Pairwise λl l'=>l.i+4<=l'.i
noncomputable def dt (n:Nat):cJ:=⟨n,n+1,n+2,n+3⟩
section
variable {st Ps:MS}{t R:Nat}{lay:List cJ}{d:List Rw}{k:Nat}{r:Rw}{l:cJ}{S:Nat->Prop}
theorem Ly.apart (Y:Ly t R lay){k k':Nat}{l l':cJ}(h:lay[k]?=some l)(h':lay[k']?=some l')(hk:k≠k'):l.i+4<=l'.i\/l'.i+4<=l.i:=by
 have P:=List.pairwise_iff_getElem.mp Y.inc
 obtain⟨a,rfl⟩:=bP h
 obtain⟨b,rfl⟩:=bP h'
 rcases Nat.lt_or_gt_of_ne hk with q | q
 ·exact .inl (P k k' a b q)
 ·exact .inr (P k' k b a q)
theorem Ly.at (Y:Ly t R lay)(h:lay[k]?=some l):R < l.i/\l.c=l.i+1/\l.a=l.i+2/\l.s=l.i+3:=Y.low l (abk h)
theorem Tr.row (T:Tr st t R lay d)(h:lay[k]?=some l):∃r,d[k]?=some r:=by
 have:=(bP h).1
 rw [T.len] at this
 exact⟨_,abc this⟩
theorem Tr.lt (T:Tr st t R lay d)(Y:Ly t R lay){x:Nat}(h:cu t R lay x):x < st.length:=by
 rcases h with rfl | rfl | ⟨l,hl,h1,h2⟩
 ·exact (bP T.tree).1
 ·exact (bP T.rows).1
 ·obtain⟨k,hk⟩:=ahx.mp hl
  obtain⟨r,hr⟩:=T.row hk
  have:=(bP (T.node k l r hk hr).2.2.2).1
  have:=(Y.at hk).2.2.2
  walk_at "o"
theorem Tr.frame (T:Tr st t R lay d)(Y:Ly t R lay)(K:Kp S st Ps)(hS:∀x,S x->¬cu t R lay x):Tr Ps t R lay d where
 tree:=K.keep _ _ (λq=>hS _ q (.inl rfl)) T.tree
 rows:=K.keep _ _ (λq=>hS _ q (.inr (.inl rfl))) T.rows
 len:=T.len
 small:=T.small
 node:=λk l r h1 h2=>by
  refine bv λGG PD=>?_
  obtain⟨a,b,c,e⟩:=T.node k l r h1 h2
  obtain⟨y0,y1,y2,y3⟩:=Y.at h1
  refine PD ?_
  have hm:=abk h1
  refine⟨K.keep _ _ (λq=>hS _ q (.inr (.inr ⟨l,hm,?_⟩))) a,K.keep _ _ (λq=>hS _ q (.inr (.inr ⟨l,hm,?_⟩))) b,K.keep _ _ (λq=>hS _ q (.inr (.inr ⟨l,hm,?_⟩))) c,K.keep _ _ (λq=>hS _ q (.inr (.inr ⟨l,hm,?_⟩))) e⟩ <;> walk_at "o"
theorem Ly.snoc (Y:Ly t R lay)(T:Tr st t R lay d):Ly t R (lay++[dt st.length]) where
 tR:=Y.tR
 low:=λl hl=>by
  rcases dU hl with h | h
  ·exact Y.low l h
  ·rw [cq h]
   exact⟨T.lt Y (.inr (.inl rfl)),rfl,rfl,rfl⟩
 inc:=by
  rw [agb]
  refine⟨Y.inc,by simp,λl hl l' Tb=>?_⟩
  rw [cq Tb]
  have:=T.lt Y (.inr (.inr ⟨l,hl,by walk_at "o",by walk_at "o"⟩)) (x:=l.i+3)
  show l.i+4<=st.length
  walk_at "o"
theorem cu.snoc {x:Nat}{n:Nat}(h:¬cu t R lay x)(hx:x < n):¬cu t R (lay++[dt n]) x:=by
 rintro (e | e | ⟨l,hl,h1,h2⟩)
 ·exact h (.inl e)
 ·exact h (.inr (.inl e))
 ·rcases dU hl with q | q
  ·exact h (.inr (.inr ⟨l,q,h1,h2⟩))
  ·rw [cq q] at h1
   have:n<=x:=h1
   walk_at "o"
theorem Tr.snoc (T:Tr st t R lay d)(W:Wf (d++[r]))(hs:d.length < 200)
  (h1:Ps[t]?=some (.inst 524 [(("rows":Str),.ref R)])) (h2:Ps[R]?=some (.list ((lay++[l]).map λl=>.ref l.i)))
  (h3:Ps[l.i]?=some (.inst 335 (d6 r l))/\Ps[l.c]?=some (.list [])/\Ps[l.a]?=some (.list [])/\Ps[l.s]?=some (.list []))
  (h4:∀(k:Nat) (l':cJ) (r':Rw),lay[k]?=some l'->d[k]?=some r'->Ps[l'.i]?=some (.inst 335 (d6 r' l'))/\Ps[l'.c]?=some (.list (ay (bG (d++[r]) k)))/\Ps[l'.a]?=some (.list (ay (cZ (d++[r]) k)))/\Ps[l'.s]?=some (.list [])):Tr Ps t R (lay++[l]) (d++[r]) where
 tree:=h1
 rows:=h2
 len:=by simp [T.len]
 small:=by simp; walk_at "o"
 node:=λk l' r' e1 e2=>by
  refine mN e2 (λe2=>?_) λek er=>?_
  ·have hk:=(bP e2).1
   rw [abo (by rw [T.len]; exact hk)] at e1
   exact h4 k l' r' e1 e2
  ·have hW:(d++[r]).length=d.length+1:=abd
   rw [ek,<- T.len,aev] at e1
   cases e1
   subst ek
   rw [er]
   have z1:bG (d++[r]) d.length=[]:=by
    unfold bG
    rw [afP]
    intro j hj
    rw [abZ] at hj
    have:aT (d++[r]) j≠some d.length:=λe=>by have:=W.low j _ e; walk_at "o"
    simp [this]
   have z2:cZ (d++[r]) d.length=[]:=by
    unfold cZ
    rw [afP]
    intro j hj
    rw [abZ] at hj
    have:aT (d++[r]) j≠some d.length:=λe=>by have:=W.low j _ e; walk_at "o"
    simp [this]
   rw [z1,z2]
   exact h3
end
section
variable {st Ps:MS}{t R:Nat}{lay:List cJ}{d:List Rw}{k p:Nat}{r:Rw}{l:cJ}{xs:List MV}{fs:List (Str×MV)}{Q:MV->MS->Prop}
theorem eP {i:Nat}(hi:i < st.length)(hR:i≠R):(cK st R xs fs)[i]?=st[i]?:=by
 unfold cK
 rw [abh (aef hR),abo hi]
theorem vI (hR:R < st.length):(cK st R xs fs)[R]?=some (.list (xs++[.ref st.length])):=by
 unfold cK
 rw [abu (by simp; walk_at "o")]
theorem w1 (hR:R < st.length):(cK st R xs fs)[st.length]?=some (.inst 335 fs)/\(cK st R xs fs)[st.length+1]?=some (.list [])/\(cK st R xs fs)[st.length+2]?=some (.list [])/\(cK st R xs fs)[st.length+3]?=some (.list []):=by
 unfold cK
 refine⟨?_,?_,?_,?_⟩ <;> rw [abh (by walk_at "o"),aeE (by walk_at "o")] <;> simp
theorem y9 {S:Nat->Prop}(hS:S R):Kp S st (cK st R xs fs):=⟨by unfold cK; simp,λi o h e=>by
 have:=(bP e).1
 rw [eP this (λq:i=R=>h (q ▸ hS))]; exact e⟩
theorem Gw:(cK st R xs fs).length=st.length+4:=by unfold cK; simp
theorem xk {V:MV}(hV:V=kD r.par)(ht:st[t]?=some (.inst 524 [(("rows":Str),.ref R)])) (hR:st[R]?=some (.list xs)) (hx:xs.length<=200) (Un:t≠R)
  (h:Q (.int (xs.length:Int)) (cK st R xs (d6 r (dt st.length)))) :
  e8 [.ref t,.str r.kind,.str r.name,.str r.uri,.str r.loc,.str r.val,V] st Q:=by subst hV; exact zs ht hR hx Un h
theorem Tr.new0 (T:Tr st t R lay d)(Y:Ly t R lay)(W:Wf (d++[r]))(hs:d.length < 200)(hp:r.par=none) :
  Tr (cK st R (lay.map λl=>.ref l.i) (d6 r (dt st.length))) t R (lay++[dt st.length]) (d++[r]):=by
 have lR:=(bP T.rows).1
 have lt:=(bP T.tree).1
 have Un:=Y.tR
 refine T.snoc W hs ?_ ?_ (w1 lR) λk l' r' e1 e2=>?_
 ·rw [eP lt (by walk_at "o")]; exact T.tree
 ·rw [vI lR]; simp [dt]
 ·obtain⟨a,b,c,e⟩:=T.node k l' r' e1 e2
  obtain⟨y0,y1,y2,y3⟩:=Y.at e1
  have z:=T.lt Y (.inr (.inr ⟨l',abk e1,by walk_at "o",by walk_at "o"⟩)) (x:=l'.i+3)
  rw [zu,nU,hp]
  simp only [reduceCtorEq,decide_false,agC,ab5,if_false,abv]
  refine⟨?_,?_,?_,?_⟩ <;> rw [eP (by walk_at "o") (by walk_at "o")] <;> assumption
theorem jP (l:List Nat)(n:Nat):ay l++[.int (n:Int)]=ay (l++[n]):=by simp [ay]
theorem t7 {c:Prop} [Decidable c] {l:List Nat}{n:Nat}(h:¬c):l++(if c then [n] else [])=l:=by rw [if_neg h,abv]
theorem HE {S:MS}{q:Nat}{ks:List Nat}(T:Tr st t R lay d)(Y:Ly t R lay)(W:Wf (d++[r]))(hs:d.length < 200)(hp:r.par=some p)(hl:lay[p]?=some l)
  (hq:l.i < q/\q < l.i+3) (hqa:r.kind=cw->q=l.a/\ks=cZ d p) (hqc:¬r.kind=cw->q=l.c/\ks=bG d p) (Qp:∀(i:Nat) (v:MO),i≠q->i≠R->st[i]?=some v->S[i]?=some v) (at':S[q]?=some (.list (ay (ks++[d.length]))))
  (hR:S[R]?=some (.list ((lay++[dt st.length]).map λl=>.ref l.i))) (hn:S[st.length]?=some (.inst 335 (d6 r (dt st.length)))/\S[st.length+1]?=some (.list [])/\S[st.length+2]?=some (.list [])/\S[st.length+3]?=some (.list [])):Tr S t R (lay++[dt st.length]) (d++[r]):=by
 have Un:=Y.tR
 obtain⟨p0,p1,p2,p3⟩:=Y.at hl
 refine T.snoc W hs (Qp _ _ (by walk_at "o") (by walk_at "o") T.tree) hR hn λk l' r' e1 e2=>?_
 obtain⟨a,b,c,e⟩:=T.node k l' r' e1 e2
 obtain⟨y0,y1,y2,y3⟩:=Y.at e1
 rw [zu,nU,hp]
 by_cases hk:k=p
 ·subst hk
  rw [hl] at e1
  cases e1
  by_cases ha:r.kind=cw
  ·obtain⟨rfl,rfl⟩:=hqa ha
   rw [t7 (by simp [ha]),if_pos (by simp [ha])]
   exact⟨Qp _ _ (by walk_at "o") (by walk_at "o") a,Qp _ _ (by walk_at "o") (by walk_at "o") b,at',Qp _ _ (by walk_at "o") (by walk_at "o") e⟩
  ·obtain⟨rfl,rfl⟩:=hqc ha
   rw [if_pos (by simp [ha]),t7 (by simp [ha])]
   exact⟨Qp _ _ (by walk_at "o") (by walk_at "o") a,at',Qp _ _ (by walk_at "o") (by walk_at "o") c,Qp _ _ (by walk_at "o") (by walk_at "o") e⟩
 ·have hpk:¬some p=some k:=λq=>hk (abl q).symm
  have:=Y.apart e1 hl hk
  rw [t7 (by simp [hpk]),t7 (by simp [hpk])]
  exact⟨Qp _ _ (by walk_at "o") (by walk_at "o") a,Qp _ _ (by walk_at "o") (by walk_at "o") b,Qp _ _ (by walk_at "o") (by walk_at "o") c,Qp _ _ (by walk_at "o") (by walk_at "o") e⟩
theorem Tr.newp (T:Tr st t R lay d)(Y:Ly t R lay)(W:Wf (d++[r]))(hs:d.length < 200)(hp:r.par=some p)(hl:lay[p]?=some l) :
  Tr ((cK st R (lay.map λl=>.ref l.i) (d6 r (dt st.length))).set (if r.kind=cw then l.a else l.c) (.list (ay (if r.kind=cw then cZ d p else bG d p)++[.int (d.length:Int)]))) t R (lay++[dt st.length]) (d++[r]):=by
 have lR:=(bP T.rows).1
 obtain⟨p0,p1,p2,p3⟩:=Y.at hl
 have hq:l.i < (if r.kind=cw then l.a else l.c)/\(if r.kind=cw then l.a else l.c) < l.i+3:=by split <;> walk_at "o"
 have qlt:(if r.kind=cw then l.a else l.c) < st.length:=T.lt Y (.inr (.inr ⟨l,abk hl,adl hq.1,abN hq.2⟩))
 obtain⟨n0,n1,n2,n3⟩:=w1 (xs:=lay.map λl=>.ref l.i) (fs:=d6 r (dt st.length)) lR
 have new:∀(i:Nat) (o:MO),st.length<=i->((cK st R (lay.map λl=>.ref l.i) (d6 r (dt st.length))).set (if r.kind=cw then l.a else l.c) o)[i]?=(cK st R (lay.map λl=>.ref l.i) (d6 r (dt st.length)))[i]?:=λi o h=>abh (abf (abJ qlt h))
 refine HE T Y W hs hp hl hq (λh=>⟨if_pos h,if_pos h⟩) (λh=>⟨if_neg h,if_neg h⟩) (λi v h1 h2 e=>by rw [abh (aef h1),eP (bP e).1 h2]; exact e) (by rw [abu (by rw [Gw]; exact Nat.lt_add_right 4 qlt),jP]) ?_
  ⟨(new _ _ (abt _)).trans n0,(new _ _ (adm _ 1)).trans n1,(new _ _ (adm _ 2)).trans n2,(new _ _ (adm _ 3)).trans n3⟩
 rw [abh (by have:=Y.tR; walk_at "o"),vI lR,abE]; rfl
theorem Kp.newp (T:Tr st t R lay d)(Y:Ly t R lay)(hl:lay[p]?=some l){o:MO}:Kp (cu t R lay) st ((cK st R xs fs).set (if r.kind=cw then l.a else l.c) o):=by
 obtain⟨p0,p1,p2,p3⟩:=Y.at hl
 refine (y9 (.inr (.inl rfl))).new (.inl (.inr (.inr ⟨l,abk hl,?_,?_⟩)))
 ·split <;> walk_at "o"
 ·split <;> walk_at "o"
theorem F2 {x:Str}(hx:x=("root":Str)\/x=("element":Str)) (h:Q (.bool false) st):ic true [.str x,qv] st Q:=by
 have ok:ab7 x=true:=by rcases hx with rfl | rfl <;> decide +kernel
 exact x8 ok (λ_=>nofun) (.inr (HR (yz (by decide +kernel) (by decide +kernel)))) (λ_=>h) λq=>absurd hx q
theorem pO (T:Tr st t R lay d)(Y:Ly t R lay)(W:Wf (d++[⟨"root","","","","",none⟩])) (hs:d.length < 200)
  (h:∀Ps,Tr Ps t R (lay++[dt st.length]) (d++[⟨"root","","","","",none⟩])->Kp (cu t R lay) st Ps->Q (.int (d.length:Int)) Ps):fG [.ref t] st Q:=by
 refine abi rfl (abi (bj T) ?_)
 have Un:=Y.tR
 refine zs (r:=⟨"root","","","","",none⟩) T.tree T.rows (by simp [T.len]; walk_at "o") (by walk_at "o") ?_
 have:=h _ (T.new0 Y W hs rfl) (y9 (.inr (.inl rfl)))
 rw [<- T.len] at this
 rw [abg]
 exact this
theorem oA (T:Tr st t R lay d)(Y:Ly t R lay)(W:Wf (d++[r]))(hs:d.length < 200)(hp:r.par=some p)(hk:r.kind≠cw)
  (h:∀Ps,Tr Ps t R (lay++[dt st.length]) (d++[r])->Kp (cu t R lay) st Ps->Q (.int (d.length:Int)) Ps) :
  fe [.ref t,.int (p:Int),.str r.kind,.str r.name,.str r.uri,.str r.loc,.str r.val] st Q:=by
 refine abi rfl ?_
 have Un:=Y.tR
 have Tm:p < d.length:=W.low d.length p (by rw [cz]; exact hp)
 refine bv λGG PD=>?_
 obtain⟨q,hq,hqk⟩:=W.elm d.length p (by rw [cz]; exact hp)
 rw [abo Tm] at hq
 obtain⟨l,hl⟩:=T.at hq
 obtain⟨y0,y1,y2,y3⟩:=Y.at hl
 refine PD ?_
 have zp:=T.lt Y (.inr (.inr ⟨l,abk hl,by walk_at "o",by walk_at "o"⟩)) (x:=l.i+3)
 have hT:=T.newp Y W hs hp hl
 have hK:=Kp.newp (r:=r) (xs:=lay.map λl=>.ref l.i) (fs:=d6 r (dt st.length)) (o:=.list (ay (if r.kind=cw then cZ d p else bG d p)++[.int (d.length:Int)])) T Y hl
 rw [if_neg hk,if_neg hk] at hT hK
 have XQ:=h _ hT hK
 clear hT hK h
 have lt:=(bP T.tree).1
 have lR:=(bP T.rows).1
 walk_at "w"
 refine bK (bj T) ?_
 walk_at "w"
 refine jE T hl ?_
 refine bE (T.node p l q hl hq).1 rfl ?_
 walk_at "w"
 refine F2 hqk ?_
 walk_at "w"
 refine bK (bj T) ?_
 walk_at "w"
 refine xk (by rw [hp]; rfl) T.tree T.rows (by simp [T.len]; walk_at "o") (by walk_at "o") ?_
 have hR1:((cK st R (lay.map λl=>.ref l.i) (d6 r (dt st.length))))[t]?=some (.inst 524 [(("rows":Str),.ref R)]):=by rw [eP lt (by walk_at "o")]; exact T.tree
 have hC:(cK st R (lay.map λl=>.ref l.i) (d6 r (dt st.length)))[l.c]?=some (.list (ay (bG d p))):=by
  rw [eP (by walk_at "o") (by walk_at "o")]; exact (T.node p l q hl hq).2.1
 have hI:(cK st R (lay.map λl=>.ref l.i) (d6 r (dt st.length)))[l.i]?=some (.inst 335 (d6 q l)):=by
  rw [eP (by walk_at "o") (by walk_at "o")]; exact (T.node p l q hl hq).1
 walk_at "w"
 refine bE hR1 rfl ?_
 walk_at "w"
 refine bI (n:=p) (x:=.ref l.i) (vI lR) rfl ?_ (by simp [T.len]; walk_at "o") ?_
 ·rw [abo (by rw [abg,T.len]; exact Tm),abF,hl]; rfl
 refine bE hI rfl ?_
 refine dY (hC) ?_
 walk_at "w"
 refine dF hC ?_ ?_
 ·rw [bb]
  have:=e7 d λj=>decide (aT d j=some p) && !bz d j
  exact aan this (aan (by walk_at "o") (by decide:1000<=abD))
 walk_at "w"
 rw [show (lay.map λl=>MV.ref l.i).length=d.length by rw [abg,T.len]]
 exact XQ
end
section
variable {st Ps:MS}{t R:Nat}{lay:List cJ}{d:List Rw}{k p:Nat}{r:Rw}{l:cJ}{xs:List MV}{fs:List (Str×MV)}{Q:MV->MS->Prop}
theorem lW {nm u lc:Str}(T:Tr st t R lay d)(Y:Ly t R lay)(W:Wf (d++[⟨"element",nm,lc,u,"",some p⟩])) (hs:d.length < 200)
  (h:∀Ps,Tr Ps t R (lay++[dt st.length]) (d++[⟨"element",nm,lc,u,"",some p⟩])->Kp (cu t R lay) st Ps->Q (.int (d.length:Int)) Ps) :
  ee [.ref t,.int (p:Int),.str nm,.str u,.str lc] st Q:=by
 refine abi rfl (abi (bj T) ?_)
 exact oA (r:=⟨"element",nm,lc,u,"",some p⟩) T Y W hs rfl (show ("element":Str)≠cw by decide +kernel) h
theorem F8 {v:Str}(T:Tr st t R lay d)(Y:Ly t R lay)(W:Wf (d++[⟨"text","","","",v,some p⟩])) (hs:d.length < 200)
  (h:∀Ps,Tr Ps t R (lay++[dt st.length]) (d++[⟨"text","","","",v,some p⟩])->Kp (cu t R lay) st Ps->Q (.int (d.length:Int)) Ps) :
  fD [.ref t,.int (p:Int),.str v] st Q:=by
 refine abi rfl (abi (bj T) ?_)
 exact oA (r:=⟨"text","","","",v,some p⟩) T Y W hs rfl (show ("text":Str)≠cw by decide +kernel) h
theorem Aj {v:Str}(T:Tr st t R lay d)(Y:Ly t R lay)(W:Wf (d++[⟨"comment","","","",v,some p⟩])) (hs:d.length < 200)
  (h:∀Ps,Tr Ps t R (lay++[dt st.length]) (d++[⟨"comment","","","",v,some p⟩])->Kp (cu t R lay) st Ps->Q (.int (d.length:Int)) Ps) :
  ec [.ref t,.int (p:Int),.str v] st Q:=by
 refine abi rfl (abi (bj T) ?_)
 exact oA (r:=⟨"comment","","","",v,some p⟩) T Y W hs rfl (show ("comment":Str)≠cw by decide +kernel) h
theorem qT (T:Tr st t R lay d)(hr:d[k]?=some r)(hl:lay[k]?=some l)(he:r.kind=("element":Str)) (h:Q (.ref l.i) st):io [.ref t,.int (k:Int)] st Q:=by
 refine cD rfl ?_
 walk_at "w"
 refine bK (bj T) ?_
 walk_at "w"
 refine jE T hl ?_
 walk_at "w"
 refine bE (T.node k l r hl hr).1 rfl ?_
 walk_at "w"
 rw [he]
 refine ND ?_
 walk_at "w"
 exact h
theorem Ir (T:Tr st t R lay d){G:MS->Prop}(hG:G st){x0:Option MV}{F:MF->aG->MS->Prop}:∀(ks:List Nat)(a b:Option MV),(∀k∈ks,k < d.length/\¬((aL d k).uri=r.uri/\(aL d k).loc=r.loc)) ->
  (∀a b,F .next [some (.ref t),some (.int (p:Int)),some (.str r.name),some (.str r.uri),some (.str r.loc),some (.str r.val),x0,a,b] st) ->
  eh G (b8 7) iL (ay ks) [some (.ref t),some (.int (p:Int)),some (.str r.name),some (.str r.uri),some (.str r.loc),some (.str r.val),x0,a,b] st F:=by
 intro ks
 induction ks with
 | nil =>
  intro a b _ h
  exact⟨hG,h a b⟩
 | cons k ks ih =>
  intro a b hk h
  obtain⟨Ro,P6⟩:=hk k (.head _)
  have hr:=c5 Ro
  obtain⟨l,hl⟩:=T.at hr
  have small:=T.small
  have len:=T.len
  refine cS hG ?_
  walk_at "w"
  refine bE T.tree rfl ?_
  walk_at "w"
  refine bI (n:=k) (x:=.ref l.i) T.rows rfl (by rw [abF,hl]; rfl) (by simp; walk_at "o") ?_
  walk_at "w"
  refine bE (T.node k l _ hl hr).1 rfl ?_
  walk_at "w"
  refine dG (λh1=>?_) λh1=>?_
  ·walk_at "w"
   refine bE (T.node k l _ hl hr).1 rfl ?_
   walk_at "w"
   refine dG (λh2=>absurd ⟨h1,h2⟩ P6) λh2=>?_
   walk_at "w"
   exact ih _ _ (λk QA=>hk k (.tail _ QA)) h
  ·walk_at "w"
   exact ih _ _ (λk QA=>hk k (.tail _ QA)) h
theorem kf {nm u lc v:Str}(T:Tr st t R lay d)(Y:Ly t R lay)(W:Wf (d++[⟨"attribute",nm,lc,u,v,some p⟩])) (hs:d.length < 200) (he:(aL d p).kind=("element":Str))
  (hn:∀k∈cZ d p,¬((aL d k).uri=u/\(aL d k).loc=lc))
  (h:∀Ps,Tr Ps t R (lay++[dt st.length]) (d++[⟨"attribute",nm,lc,u,v,some p⟩])->Kp (cu t R lay) st Ps->Q (.int (d.length:Int)) Ps) :
  b0 [.ref t,.int (p:Int),.str nm,.str u,.str lc,.str v] st Q:=by
 have Un:=Y.tR
 have Tm:p < d.length:=W.low d.length p (by rw [cz])
 have hq:=c5 Tm
 obtain⟨l,hl⟩:=T.at hq
 obtain⟨y0,y1,y2,y3⟩:=Y.at hl
 have zp:=T.lt Y (.inr (.inr ⟨l,abk hl,by walk_at "o",by walk_at "o"⟩)) (x:=l.i+3)
 have hk:(⟨"attribute",nm,lc,u,v,some p⟩:Rw).kind=cw:=rfl
 have hT:=T.newp Y W hs rfl hl
 have hK:=Kp.newp (r:=⟨"attribute",nm,lc,u,v,some p⟩) (xs:=lay.map λl=>.ref l.i) (fs:=d6 ⟨"attribute",nm,lc,u,v,some p⟩ (dt st.length)) (o:=.list (ay (if (⟨"attribute",nm,lc,u,v,some p⟩:Rw).kind=cw then cZ d p else bG d p)++[.int (d.length:Int)])) T Y hl
 rw [if_pos hk,if_pos hk] at hT hK
 have XQ:=h _ hT hK
 clear hT hK h
 have lt:=(bP T.tree).1
 have lR:=(bP T.rows).1
 refine cD rfl ?_
 walk_at "w"
 refine bK (bj T) ?_
 walk_at "w"
 refine qT T hq hl he ?_
 walk_at "w"
 refine bE (T.node p l _ hl hq).1 rfl ?_
 refine cb (T.node p l _ hl hq).2.2.1 ?_
 refine Ir (r:=⟨"attribute",nm,lc,u,v,some p⟩) T (T.node p l _ hl hq).2.2.1 (cZ d p) _ _ (λk hk=>⟨(vR.mp hk).1,hn k hk⟩) λa b=>?_
 walk_at "w"
 refine bK (bj T) ?_
 walk_at "w"
 refine xk (r:=⟨"attribute",nm,lc,u,v,some p⟩) rfl T.tree T.rows (by simp [T.len]; walk_at "o") (by walk_at "o") ?_
 have hC:(cK st R (lay.map λl=>.ref l.i) (d6 ⟨"attribute",nm,lc,u,v,some p⟩ (dt st.length)))[l.a]?=some (.list (ay (cZ d p))):=by
  rw [eP (by walk_at "o") (by walk_at "o")]; exact (T.node p l _ hl hq).2.2.1
 have hI:(cK st R (lay.map λl=>.ref l.i) (d6 ⟨"attribute",nm,lc,u,v,some p⟩ (dt st.length)))[l.i]?=some (.inst 335 (d6 (aL d p) l)):=by
  rw [eP (by walk_at "o") (by walk_at "o")]; exact (T.node p l _ hl hq).1
 walk_at "w"
 refine bE hI rfl ?_
 refine dY (hC) ?_
 walk_at "w"
 refine dF hC ?_ ?_
 ·rw [bb]
  have:=e7 d λj=>decide (aT d j=some p) && bz d j
  exact aan this (aan (by walk_at "o") (by decide:1000<=abD))
 walk_at "w"
 rw [show (lay.map λl=>MV.ref l.i).length=d.length by rw [abg,T.len]]
 exact XQ
end
inductive dD:Rw->Prop
 | root:dD ⟨"root","","","","",none⟩
 | elm {nm lc u:Str} {p:Nat} (h:(nm,lc,u)∈([("a","a",""),("b","b",""),("p:a","a","urn:p")]:List (Str×Str×Str))):dD ⟨"element",nm,lc,u,"",some p⟩
 | num {v:Str} {p:Nat} (h:v∈(["1","2.5","x"]:List Str)):dD ⟨"attribute","n","n","",v,some p⟩
 | lang {v:Str} {p:Nat} (h:v∈(["en","EN-us","fr","enx"]:List Str)):dD ⟨"attribute","xml:lang","lang","http://www.w3.org/XML/1998/namespace",v,some p⟩
 | text {v:Str} {p:Nat} (h:v∈(["1"," 3 ","-1","b a","q"]:List Str)):dD ⟨"text","","","",v,some p⟩
 | comm {v:Str} {p:Nat} (h:v∈(["1"," 3 ","-1","b a","q"]:List Str)):dD ⟨"comment","","","",v,some p⟩
structure Gd (d:List Rw)(ss:List Nat):Prop where
 wf:Wf d
 tp:Tp d d.length
 ok:∀k,k < d.length->dD (aL d k)
 ne:0 < d.length
 asc:ss.Pairwise (· < ·)
 on:∀x∈ss,x∈line d (d.length - 1)
 el:∀x∈ss,(aL d x).kind=("root":Str)\/(aL d x).kind=("element":Str)
section
variable {d:List Rw}{ss:List Nat}{r:Rw}{p:Nat}
theorem Gd.lt (G:Gd d ss){x:Nat}(h:x∈ss):x < d.length:=by
 have:=iH G.wf (G.on x h)
 have:=G.ne
 walk_at "o"
theorem Gd.wsnoc (G:Gd d ss)(hp:r.par=some p)(hm:p∈ss):Wf (d++[r]):=G.wf.snoc λq e=>by
 rw [hp] at e
 obtain rfl:=abl e
 exact⟨G.lt hm,G.on _ hm,G.el _ hm⟩
theorem Gd.snoc (G:Gd d ss)(hr:dD r)(hp:r.par=some p)(hm:p∈ss)(R5:∀x∈ss,x<=p):Gd (d++[r]) ss where
 wf:=G.wsnoc hp hm
 tp:=G.tp.snoc λe=>by rw [hp] at e; cases e
 ok:=λk hk=>by
  rw [abd,abr] at hk
  by_cases h:k < d.length
  ·rw [cH h]; exact G.ok k h
  ·have:k=d.length:=by walk_at "o"
   subst this; rw [dJ]; exact hr
 ne:=by simp
 asc:=G.asc
 on:=λx hx=>by
  have W:=G.wsnoc hp hm
  have Tm:=G.lt hm
  have ne:=G.ne
  rw [abd,abr,ady,dE W (p:=p) (by rw [cz,hp]),r9 G.wf Tm]
  exact .tail _ (vm G.wf (G.on x hx) (R5 x hx) (by walk_at "o"))
 el:=λx hx=>by rw [cH (G.lt hx)]; exact G.el x hx
theorem Gd.open (G:Gd (d++[r]) ss)(hk:r.kind=("element":Str)) (R5:∀x∈ss,x < d.length):Gd (d++[r]) (ss++[d.length]) where
 wf:=G.wf
 tp:=G.tp
 ok:=G.ok
 ne:=G.ne
 asc:=by
  rw [agb]
  exact⟨G.asc,by simp,λx hx y hy=>by rw [cq hy]; exact R5 x hx⟩
 on:=λx hx=>by
  rcases dU hx with h | h
  ·exact G.on x h
  ·rw [cq h,abd,abr,ady]; exact dN G.wf _
 el:=λx hx=>by
  rcases dU hx with h | h
  ·exact G.el x h
  ·rw [cq h,dJ]; exact .inr hk
theorem Gd.sub {Q1:List Nat}(G:Gd d ss)(h:List.Sublist Q1 ss):Gd d Q1:=⟨G.wf,G.tp,G.ok,G.ne,G.asc.sublist h,λx hx=>G.on x (h.subset hx),λx hx=>G.el x (h.subset hx)⟩
end
structure Bs (st:MS)(j t R rl os:Nat)(lay:List cJ)(PJ:List Nat)(d d':List Rw)(ss:List Nat):Prop where
 tr:Tr st t R lay d
 ly:Ly t R lay
 lr:LR st rl PJ d'
 src:dQ st j
 opn:st[os]?=some (.list (ay ss))
 nd:(j::rl::os::PJ).Nodup
 ap:∀x∈j::rl::os::PJ,¬cu t R lay x
section
variable {st Ps:MS}{j t R rl os:Nat}{lay:List cJ}{PJ:List Nat}{d d':List Rw}{ss:List Nat}{r:Rw}{Q:MV->MS->Prop}
theorem Bs.lt (B:Bs st j t R rl os lay PJ d d' ss){x:Nat}(h:x∈j::rl::os::PJ):x < st.length:=by
 rcases bN h with rfl | h
 ·obtain⟨a,b,e,_⟩:=B.src; exact (bP e).1
 rcases bN h with rfl | h
 ·exact (bP B.lr.rows).1
 rcases bN h with rfl | h
 ·exact (bP B.opn).1
 ·obtain⟨k,hk⟩:=ahx.mp h
  exact (bP (B.lr.row k x hk)).1
theorem LR.keep (T:LR st rl PJ d){S:Nat->Prop}(K:Kp S st Ps)(h0:¬S rl)(h1:∀i∈PJ,¬S i):LR Ps rl PJ d where
 rows:=K.keep _ _ h0 T.rows
 len:=T.len
 row:=λk i h=>K.keep _ _ (h1 i (abk h)) (T.row k i h)
theorem dQ.keep (h:dQ st j){S:Nat->Prop}(K:Kp S st Ps)(h0:¬S j):dQ Ps j:=let ⟨a,b,e,r⟩:=h; ⟨a,b,K.keep _ _ h0 e,r⟩
theorem Bs.pre (B:Bs st j t R rl os lay PJ d d' ss)(hp:st <+: Ps):Bs Ps j t R rl os lay PJ d d' ss:=
 ⟨B.tr.mono hp,B.ly,B.lr.mono hp,B.src.pre hp,aA hp B.opn,B.nd,B.ap⟩
theorem Bs.ne (B:Bs st j t R rl os lay PJ d d' ss):j≠rl/\j≠os/\rl≠os/\j ∉ PJ/\rl ∉ PJ/\os ∉ PJ:=by
 have:=B.nd
 simp only [abY,abB,not_or] at this
 exact⟨this.1.1,this.1.2.1,this.2.1.1,this.1.2.2,this.2.1.2,this.2.2.1⟩
theorem Bs.ext (B:Bs st j t R rl os lay PJ d d' ss)(E:u2 j st Ps)(S:dQ Ps j):Bs Ps j t R rl os lay PJ d d' ss:=by
 refine bv λGG PD=>?_
 obtain⟨n1,n2,n3,n4,n5,n6⟩:=B.ne
 refine PD ?_
 exact⟨B.tr.frame B.ly E.kp λx hx=>by rw [hx]; exact B.ap j (.head _),B.ly,B.lr.keep E.kp (λq=>n1 q.symm) λi hi q=>n4 (q ▸ hi),S,E.keep _ _ (λq=>n2 q.symm) B.opn,B.nd,B.ap⟩
theorem Bs.grow (B:Bs st j t R rl os lay PJ d d' ss)(T:Tr Ps t R (lay++[dt st.length]) (d++[r]))(K:Kp (cu t R lay) st Ps):Bs Ps j t R rl os (lay++[dt st.length]) PJ (d++[r]) d' ss:=
 ⟨T,B.ly.snoc B.tr,B.lr.keep K (B.ap _ (by walk_at "m")) λi hi=>B.ap _ (by simp [hi]),B.src.keep K (B.ap _ (by walk_at "m")),K.keep _ _ (B.ap _ (by walk_at "m")) B.opn,B.nd,λx hx=>cu.snoc (B.ap x hx) (B.lt hx)⟩
theorem Bs.row (B:Bs st j t R rl os lay PJ d d' ss){row:List MV}(hr:row=eK d'.length r) :
  Bs (aiK (α:=MO) (st++[MO.list row]) rl (MO.list (PJ.map MV.ref++[.ref st.length]))) j t R rl os lay (PJ++[st.length]) d (d'++[r]) ss:=by
 refine bv λGG PD=>?_
 obtain⟨n1,n2,n3,n4,n5,n6⟩:=B.ne
 refine PD ?_
 have l1:=B.lt (x:=rl) (by walk_at "m")
 have lid:∀x∈PJ,x < st.length:=λx hx=>B.lt (by simp [hx])
 have K:Kp (·=rl) st (aiK (α:=MO) (st++[MO.list row]) rl (MO.list (PJ.map MV.ref++[.ref st.length]))):=(Kp.pre (aB _)).trans (.set rfl)
 have TL:∀x,cu t R lay x->x < st.length:=λx h=>B.tr.lt B.ly h
 refine⟨B.tr.frame B.ly K λx hx=>by rw [hx]; exact B.ap rl (by walk_at "m"),B.ly,⟨?_,by simp [B.lr.len],λk i h=>?_⟩,B.src.keep K n1,K.keep _ _ n3.symm B.opn,?_,?_⟩
 ·rw [abu (by simp; walk_at "o")]; simp
 ·by_cases hk:k < PJ.length
  ·rw [abo hk] at h
   have hm:=abk h
   rw [cH (by rw [<- B.lr.len]; exact hk)]
   exact K.keep _ _ (λq:i=rl=>n5 (q ▸ hm)) (B.lr.row k i h)
  ·have QA:=(bP h).1
   rw [abd,abr] at QA
   have:k=PJ.length:=by walk_at "o"
   subst this
   have:st.length=i:=by simpa using h
   subst this
   rw [abh (by walk_at "o"),B.lr.len,dJ,hr]
   simp
 ·have lo:=B.lt (x:=os) (by walk_at "m")
  have lj:=B.lt (x:=j) (by walk_at "m")
  have SM:st.length ∉ PJ:=λq=>acj _ (lid _ q)
  have:=B.nd
  simp only [abY,abB,adV,not_or] at this ⊢
  refine⟨⟨this.1.1,this.1.2.1,this.1.2.2,?_,by simp⟩,⟨this.2.1.1,this.2.1.2,?_,by simp⟩,⟨this.2.2.1,?_,by simp⟩,?_⟩
  ·walk_at "o"
  ·walk_at "o"
  ·walk_at "o"
  ·rw [abR]
   exact⟨this.2.2.2,by simp,λa ha b hb e=>by rw [cq hb] at e; exact SM (e ▸ ha)⟩
 ·intro x hx
  by_cases hxn:x=st.length
  ·subst hxn; exact λq=>acj _ (TL _ q)
  ·refine B.ap x ?_
   simp only [abB,adV,abx,or_false] at hx ⊢
   rcases hx with h | h | h | h | h
   ·exact .inl h
   ·exact .inr (.inl h)
   ·exact .inr (.inr (.inl h))
   ·exact .inr (.inr (.inr h))
   ·exact absurd h hxn
theorem Bs.setOpen (B:Bs st j t R rl os lay PJ d d' ss){Q1:List Nat}:Bs (st.set os (.list (ay Q1))) j t R rl os lay PJ d d' Q1:=by
 refine bv λGG PD=>?_
 obtain⟨n1,n2,n3,n4,n5,n6⟩:=B.ne
 refine PD ?_
 have K:Kp (·=os) st (st.set os (.list (ay Q1))):=.set rfl
 exact⟨B.tr.frame B.ly K λx hx=>by rw [hx]; exact B.ap os (by walk_at "m"),B.ly,B.lr.keep K n3 λi hi q=>n6 (q ▸ hi),B.src.keep K n2,abu (B.lt (by walk_at "m")),B.nd,B.ap⟩
theorem vp {i:Nat}{xs:List MV}{x:MV}{n:Nat}(hi:st[i]?=some (.list xs))(hn:xs.length=n+1)(hx:xs[n]?=some x)(hl:xs.length < 2 ^ 62)(h:Q x st):aN [.ref i,.int (-1)] st Q:=by
 refine eG hi ⟨⟨by decide,by decide⟩,n,x,?_,hx,h⟩
 unfold afp
 simp only [hn]
 split <;> simp_all <;> walk_at "o"
end
section
variable {st Ps:MS}{j t R rl os:Nat}{lay:List cJ}{PJ:List Nat}{d d':List Rw}{ss so:List Nat}{r:Rw}{Q:MV->MS->Prop}
def Mu (st:MS)(j t R rl os:Nat)(d:List Rw)(so ss:List Nat)(n:Nat)(K:MS->Prop):Prop:=
 ∀Ps QV QT d',Bs Ps j t R rl os QV QT d' d' so->Gd d' ss->d'.length<=n->K Ps
theorem fk {k n:Nat}{rl:Nat}{PJ:List Nat}{j:Int}{d:List Rw}{V:MV}(T:LR st rl PJ d)(small:d.length<=200)(hk:k < d.length)(hj:j=(n:Int))(hV:(eK k (aL d k))[n]?=some V){K:MV->MS->Prop}(hK:∀W Pt,K W Pt=aN [W,.int j] Pt Q)(h:Q V st):aN [.ref rl,.int (k:Int)] st K:=by
 have:K=λW Pt=>aN [W,.int j] Pt Q:=by funext W Pt; exact hK W Pt
 rw [this]
 exact ue T small hk hj hV h
theorem jA (B:Bs st j t R rl os lay PJ d d' ss)(hs:d'.length < 200){row:List MV}(hr:row=eK d'.length r)
  (h:∀Ps,Bs Ps j t R rl os lay (PJ++[st.length]) d (d'++[r]) ss->Q .none Ps):bx [.ref rl,.ref st.length] (st++[.list row]) Q:=by
 refine dF (xs:=PJ.map MV.ref) (aA (aB _) B.lr.rows) ?_ (h _ (B.row hr))
 rw [abg,B.lr.len]
 exact aan (by walk_at "o") (by decide:1000<=abD)
theorem ph {xs:List Str}{n:Nat}{x:MV}(h:(xs.map MV.str)[n]?=some x):∃v,x=.str v/\v∈xs:=by
 obtain⟨v,hv,rfl⟩:=c9 (abk h)
 exact⟨v,rfl,hv⟩
theorem EE {a b c e:MV}{v9 Sq Rj:Option MV}{p:Nat}(B:Bs st j t R rl os lay PJ d d so)(G:Gd d ss)(hn:d.length < 200)(hp:p∈ss)(R5:∀x∈ss,x<=p)(he:(aL d p).kind=("element":Str))
  (hat:∀k∈cZ d p,(aL d k).loc≠("lang":Str))
  (h:Mu st j t R rl os d so ss (d.length+1) (Q (.int (p:Int)))) :
  (aj (bX (bT (ar bL (aF cy (ad (af 0) (ad (tK (.int 2)) ak))) (tK (.int 0)))) (aj (c8 [10,9] (bl (ad (aF cx (ad (af 0) (ad (be (ad (tK (.str ("en":Str))) (ad (tK (.str ("EN-us":Str))) (ad (tK (.str ("fr":Str))) (ad (tK (.str ("enx":Str))) ak))))) ak))) (ad (tK (.str ("http://www.w3.org/XML/1998/namespace":Str))) ak))))
 (aj (aX 11 (bf 524 b0 (af 1) (ad (af 8) (ad (tK (.str ("xml:lang":Str))) (ad (af 10) (ad (tK (.str ("lang":Str))) (ad (af 9) ak)))))))
 (aj (bY (cr .list bx (af 2) (ad (be (ad (af 11) (ad (tK (.str ("attribute":Str))) (ad (tK (.str ("xml:lang":Str))) (ad (tK (.str ("lang":Str))) (ad (af 10) (ad (af 9) (ad (af 7) ak)))))))) ak)))
 az))) az)
 (aj (aS (af 7))
 az)) [some (.ref j),some (.ref t),some (.ref rl),some a,some b,some c,some e,some (.int (p:Int)),some (.int (p:Int)),v9,Sq,Rj] st (fa Q):=by
 walk_at "w"
 refine d5 (top:=2) (by decide) (by decide) B.src λst1 x hx E S=>?_
 have B1:=B.ext E S
 walk_at "w"
 refine bH (λ_=>?_) λ_=>?_
 ·walk_at "w"
  refine fK (j:=j) (aH _) (by have:=B1.lt (x:=j) (by walk_at "m"); walk_at "o") (by walk_at "m") (by walk_at "m") (B1.src.pre (aB _)) λP1 n x hx E2 S2=>?_
  obtain⟨v,rfl,hv⟩:=ph (xs:=["en","EN-us","fr","enx"]) hx
  have B2:=(B1.pre (aB _)).ext E2 S2
  walk_at "w"
  refine eD rfl ?_
  walk_at "w"
  refine bK (bj B2.tr) ?_
  walk_at "w"
  refine kf B2.tr B2.ly (G.wsnoc (r:=⟨"attribute","xml:lang","lang","http://www.w3.org/XML/1998/namespace",v,some p⟩) rfl hp) hn he (λk hk q=>hat k hk q.2) λQa T3 K3=>?_
  have B3:=B2.grow T3 K3
  have G3:=G.snoc (.lang hv) rfl hp R5
  walk_at "w"
  refine dY (B3.lr.rows) ?_
  walk_at "w"
  refine jA B3 hn (r:=⟨"attribute","xml:lang","lang","http://www.w3.org/XML/1998/namespace",v,some p⟩) rfl λRK B4=>?_
  walk_at "w"
  exact h _ _ _ _ B4 G3 (by walk_at "m")
 ·walk_at "w"
  exact h _ _ _ _ B1 G (by walk_at "o")
theorem o9:∀(xs:List Str){v:Str}{n:Nat},v∈xs->(xs.all λx=>decide (x.length<=n))=true->v.length<=n:=λxs v n h e=>by
 rw [abT] at e
 exact of_decide_eq_true (e v h)
theorem dD.vlen {r:Rw}(h:dD r):r.val.length<=5:=by
 cases h with
 | root=>decide +kernel
 | elm h=>show ("":Str).length<=5; decide +kernel
 | num h=>exact o9 _ h (by decide +kernel)
 | lang h=>exact o9 _ h (by decide +kernel)
 | text h=>exact o9 _ h (by decide +kernel)
 | comm h=>exact o9 _ h (by decide +kernel)
theorem dD.kok {r:Rw}(h:dD r):ab7 r.kind=true:=by
 cases h with
 | root=>decide +kernel
 | elm h=>show ab7 ("element":Str)=true; decide +kernel
 | num h=>show ab7 ("attribute":Str)=true; decide +kernel
 | lang h=>show ab7 ("attribute":Str)=true; decide +kernel
 | text h=>show ab7 ("text":Str)=true; decide +kernel
 | comm h=>show ab7 ("comment":Str)=true; decide +kernel
theorem Gd.short (G:Gd d ss):h8 d:=⟨λk hk=>aan (G.ok k hk).vlen (by decide),λk hk=>(G.ok k hk).kok⟩
theorem H7 (W:Wf d){u:Str}{nm lc:Str}{p:Nat}:cZ (d++[⟨"element",nm,lc,u,"",some p⟩]) d.length=[]:=by
 rw [nU,Le W (abt _)]
 have:("element":Str)≠cw:=by decide +kernel
 simp [this]
theorem Mp {a b c e:MV}{v9 Sq Rj:Option MV}{p:Nat}(B:Bs st j t R rl os lay PJ d d so)(G:Gd d ss)(hn:d.length < 199)(hp:p∈ss)(R5:∀x∈ss,x<=p)(he:(aL d p).kind=("element":Str))
  (hat:cZ d p=[])
  (h:Mu st j t R rl os d so ss (d.length+2) (Q (.int (p:Int)))) :
  (aj (bX (bT (ar bL (aF cy (ad (af 0) (ad (tK (.int 2)) ak))) (tK (.int 0)))) (aj (aX 9 (aF cx (ad (af 0) (ad (be (ad (tK (.str ("1":Str))) (ad (tK (.str ("2.5":Str))) (ad (tK (.str ("x":Str))) ak)))) ak))))
 (aj (bY (cr .list bx (af 2) (ad (be (ad (bf 524 b0 (af 1) (ad (af 8) (ad (tK (.str ("n":Str))) (ad (tK (.str ("":Str))) (ad (tK (.str ("n":Str))) (ad (af 9) ak)))))) (ad (tK (.str ("attribute":Str))) (ad (tK (.str ("n":Str))) (ad (tK (.str ("n":Str))) (ad (tK (.str ("":Str))) (ad (af 9) (ad (af 7) ak)))))))) ak)))
 az)) az)
 (aj (bX (bT (ar bL (aF cy (ad (af 0) (ad (tK (.int 2)) ak))) (tK (.int 0)))) (aj (c8 [10,9] (bl (ad (aF cx (ad (af 0) (ad (be (ad (tK (.str ("en":Str))) (ad (tK (.str ("EN-us":Str))) (ad (tK (.str ("fr":Str))) (ad (tK (.str ("enx":Str))) ak))))) ak))) (ad (tK (.str ("http://www.w3.org/XML/1998/namespace":Str))) ak))))
 (aj (aX 11 (bf 524 b0 (af 1) (ad (af 8) (ad (tK (.str ("xml:lang":Str))) (ad (af 10) (ad (tK (.str ("lang":Str))) (ad (af 9) ak)))))))
 (aj (bY (cr .list bx (af 2) (ad (be (ad (af 11) (ad (tK (.str ("attribute":Str))) (ad (tK (.str ("xml:lang":Str))) (ad (tK (.str ("lang":Str))) (ad (af 10) (ad (af 9) (ad (af 7) ak)))))))) ak)))
 az))) az)
 (aj (aS (af 7))
 az))) [some (.ref j),some (.ref t),some (.ref rl),some a,some b,some c,some e,some (.int (p:Int)),some (.int (p:Int)),v9,Sq,Rj] st (fa Q):=by
 walk_at "w"
 refine d5 (top:=2) (by decide) (by decide) B.src λst1 x hx E S=>?_
 have B1:=B.ext E S
 walk_at "w"
 refine bH (λ_=>?_) λ_=>?_
 ·walk_at "w"
  refine fK (j:=j) (aH _) (by have:=B1.lt (x:=j) (by walk_at "m"); walk_at "o") (by walk_at "m") (by walk_at "m") (B1.src.pre (aB _)) λP1 n x hx E2 S2=>?_
  obtain⟨v,rfl,hv⟩:=ph (xs:=["1","2.5","x"]) hx
  have B2:=(B1.pre (aB _)).ext E2 S2
  walk_at "w"
  refine dY (B2.lr.rows) ?_
  walk_at "w"
  refine bK (bj B2.tr) ?_
  walk_at "w"
  refine kf B2.tr B2.ly (G.wsnoc (r:=⟨"attribute","n","n","",v,some p⟩) rfl hp) (by walk_at "o") he (λk hk q=>by rw [hat] at hk; cases hk) λQa T3 K3=>?_
  have B3:=B2.grow T3 K3
  have G3:=G.snoc (.num hv) rfl hp R5
  walk_at "w"
  refine jA B3 (by walk_at "o") (r:=⟨"attribute","n","n","",v,some p⟩) rfl λRK B4=>?_
  walk_at "w"
  refine EE B4 G3 (by simp; walk_at "o") hp R5 (by rw [cH (G.lt hp)]; exact he) (λk hk=>?_) λPs QV QT d' B' G' hl=>h Ps QV QT d' B' G' (by simp at hl; walk_at "o")
  ·rw [nU,hat] at hk
   have:k=d.length:=by simpa using hk
   subst this
   rw [dJ]
   show ("n":Str)≠("lang":Str)
   decide +kernel
 ·walk_at "w"
  exact EE B1 G (by walk_at "o") hp R5 he (λk hk=>by rw [hat] at hk; cases hk) λPs QV QT d' B' G' hl=>h Ps QV QT d' B' G' (by walk_at "o")
theorem Ar {p:Nat}(B:Bs st j t R rl os lay PJ d d ss)(G:Gd d ss)(hn:d.length < 198)(hp:p∈ss)(R5:∀x∈ss,x<=p)
  (h:Mu st j t R rl os d ss (ss++[d.length]) (d.length+3) (Q (.int (d.length:Int)))) :
  gN [.ref j,.ref t,.ref rl,.int (p:Int)] st Q:=by
 refine cD rfl ?_
 walk_at "w"
 refine fK (j:=j) (aH _) (by have:=B.lt (x:=j) (by walk_at "m"); walk_at "o") (by walk_at "m") (by walk_at "m") (B.src.pre (aB _)) λP1 n x hx E2 S2=>?_
 have B2:=(B.pre (aB _)).ext E2 S2
 refine bv λGG PD=>?_
 obtain⟨nm,lc,u,rfl,hm⟩:∃nm lc u:Str,x=.tup [.str nm,.str lc,.str u]/\(nm,lc,u)∈([("a","a",""),("b","b",""),("p:a","a","urn:p")]:List (Str×Str×Str)):=by
  have:=abk hx
  simp only [abB,abx,or_false] at this
  rcases this with rfl | rfl | rfl
  ·exact⟨_,_,_,rfl,by simp⟩
  ·exact⟨_,_,_,rfl,by simp⟩
  ·exact⟨_,_,_,rfl,by simp⟩
 refine PD ?_
 refine Iq rfl ?_
 walk_at "w"
 refine dY (B2.lr.rows) ?_
 walk_at "w"
 refine bK (bj B2.tr) ?_
 walk_at "w"
 refine fk (n:=0) B2.lr B2.tr.small (G.lt hp) rfl rfl (λW Pt=>rfl) ?_
 walk_at "w"
 have hw:=G.wsnoc (r:=⟨"element",nm,lc,u,"",some p⟩) rfl hp
 refine lW B2.tr B2.ly hw (by walk_at "o") λQa T3 K3=>?_
 have B3:=B2.grow T3 K3
 have G3:=(G.snoc (r:=⟨"element",nm,lc,u,"",some p⟩) (.elm hm) rfl hp R5).open rfl λx hx=>G.lt hx
 walk_at "w"
 refine jA B3 (by walk_at "o") (r:=⟨"element",nm,lc,u,"",some p⟩) rfl λRK B4=>?_
 walk_at "w"
 have PL:((PJ++[Qa.length]).map MV.ref).length=d.length+1:=by simp [B.lr.len]
 refine fW B4.lr.rows (by rw [PL]; walk_at "o") ?_
 walk_at "w"
 refine ck trivial ?_
 have e1:(((PJ++[Qa.length]).map MV.ref).length:Int) - 1=(d.length:Int):=by rw [PL]; walk_at "o"
 rw [e1]
 walk_at "w"
 refine vp B4.lr.rows PL (x:=.ref Qa.length) (by simp [<- B.lr.len]) (by rw [PL]; walk_at "o") ?_
 walk_at "w"
 refine bI (n:=0) (B4.lr.row d.length Qa.length (by simp [<- B.lr.len])) rfl rfl (by simp [eK]) ?_
 refine eD rfl ?_
 walk_at "w"
 refine Mp B4 G3 (by simp; walk_at "o") (by walk_at "m") (λx hx=>?_) (by rw [dJ]) (H7 G.wf) λPs QV QT d' B' G' hl=>h Ps QV QT d' B' G' (by simp at hl; walk_at "o")
 rcases dU hx with hx | hx
 ·exact adl (G.lt hx)
 ·rw [cq hx]; exact abt _
end
section
variable {st Ps:MS}{j t R rl os:Nat}{lay:List cJ}{PJ:List Nat}{d d':List Rw}{ss so:List Nat}{r:Rw}{Q:MV->MS->Prop}{F:MF->aG->MS->Prop}
theorem dS {p:Prop} [Decidable p] {a b:TE}{ρ:aG}(h1:p->a ρ st Q)(h2:¬p->b ρ st Q):BQ a b ρ Q (decide p) st:=by
 unfold BQ
 by_cases h:p
 ·rw [decide_eq_true h]; exact h1 h
 ·rw [decide_eq_false h]; exact h2 h
def gz (d:List Rw):Prop:=∃k,k < d.length/\(aL d k).kind=("element":Str)
theorem gz.snoc (h:gz d):gz (d++[r]):=let ⟨k,h1,h2⟩:=h; ⟨k,by simp; walk_at "o",by rw [cH h1]; exact h2⟩
theorem Gd.elOf (G:Gd d ss){x:Nat}(h:x∈ss)(h0:0 < x):(aL d x).kind=("element":Str):=by
 rcases G.el x h with e | e
 ·exfalso
  have hx:=G.lt h
  have WW:=G.ok x hx
  have hp:=nJ hx
  have:∀r:Rw,dD r->r.kind=("root":Str)->r.par=none:=by
   intro r h e
   cases h with
   | root=>rfl
   | elm _=>exact absurd e (show ("element":Str)≠("root":Str) by decide +kernel)
   | num _=>exact absurd e (show ("attribute":Str)≠("root":Str) by decide +kernel)
   | lang _=>exact absurd e (show ("attribute":Str)≠("root":Str) by decide +kernel)
   | text _=>exact absurd e (show ("text":Str)≠("root":Str) by decide +kernel)
   | comm _=>exact absurd e (show ("comment":Str)≠("root":Str) by decide +kernel)
  rw [this _ WW e] at hp
  have:=G.tp x hx hp
  walk_at "o"
 ·exact e
theorem EP {l:List Nat}(h:0 < l.length):∃s p,l=s++[p]:=⟨l.dropLast,l.getLast (List.ne_nil_of_length_pos h),(List.dropLast_concat_getLast _).symm⟩
theorem yC {l:List Nat}{n:Nat}(h1:l.Pairwise (· < ·))(h2:∀x∈l,x < n):l.length<=n:=by
 have nd:l.Nodup:=h1.imp λh=>abf h
 have:=nd.length_le_of_subset (l₂:=aca n) λx hx=>abZ.mpr (h2 x hx)
 rwa [afN] at this
theorem Jt {s:List Nat}{p:Nat}(h:(s++[p]).Pairwise (· < ·)):∀x∈s++[p],x<=p:=λx hx=>by
 rw [agb] at h
 rcases dU hx with q | q
 ·exact adl (h.2.2 x q p (by walk_at "m"))
 ·rw [cq q]; exact abt _
theorem ED {w:Nat}{v4 v6 v7 v8:Option MV}(B:Bs st j t R rl os lay PJ d d ss)(G:Gd d ss)(hn:d.length < 197)(hs:0 < ss.length)(hw:w < 5)(hE:gz d\/w=0)
  (h:∀Ps QV QT d' Q1 a4 a5 a6 a7 a8,Bs Ps j t R rl os QV QT d' d' Q1->Gd d' Q1->d'.length<=d.length+3->0 < Q1.length->gz d'->F .next [some (.ref j),some (.ref t),some (.ref rl),some (.ref os),a4,a5,a6,a7,a8] Ps) :
  (aj (bX (bT (ar (bw λa b=>decide (a < b)) (af 5) (tK (.int 3)))) (aj (bY (cr .list bx (af 3) (ad (aF gN (ad (af 0) (ad (af 1) (ad (af 2) (ad (ar aN (af 3) (ir fP (tK (.int 1)))) ak))))) ak)))
 az) (aj (c8 [7,6] (bl (ad (aF cx (ad (af 0) (ad (be (ad (tK (.str ("1":Str))) (ad (tK (.str (" 3 ":Str))) (ad (tK (.str ("-1":Str))) (ad (tK (.str ("b a":Str))) (ad (tK (.str ("q":Str))) ak)))))) ak))) (ad (ar aN (af 3) (ir fP (tK (.int 1)))) ak))))
 (aj (aX 8 (fh (bT (ar bL (af 5) (tK (.int 3)))) (bf 524 fD (af 1) (ad (ar aN (ar aN (af 2) (af 7)) (tK (.int 0))) (ad (af 6) ak))) (bf 524 ec (af 1) (ad (ar aN (ar aN (af 2) (af 7)) (tK (.int 0))) (ad (af 6) ak)))))
 (aj (bY (cr .list bx (af 2) (ad (be (ad (af 8) (ad (ar aN (be (ad (tK (.str ("text":Str))) (ad (tK (.str ("comment":Str))) ak))) (ar (bh (· - ·) mq) (af 5) (tK (.int 3)))) (ad (tK (.str ("":Str))) (ad (tK (.str ("":Str))) (ad (tK (.str ("":Str))) (ad (af 6) (ad (af 7) ak)))))))) ak)))
 az))))
 az) [some (.ref j),some (.ref t),some (.ref rl),some (.ref os),v4,some (.int (w:Int)),v6,v7,v8] st F:=by
 obtain⟨s,p,rfl⟩:=EP hs
 have R5:=Jt G.asc
 have PL:(ay (s++[p])).length=s.length+1:=by simp [ay]
 have ZG:(ay (s++[p]))[s.length]?=some (.int (p:Int)):=by simp [ay]
 have V3:s.length+1<=d.length:=by
  have:=yC G.asc λx hx=>G.lt hx
  rwa [abd,abr] at this
 walk_at "w"
 refine bH (λPR=>?_) λRr=>?_
 ·walk_at "w"
  refine dY (B.opn) ?_
  walk_at "w"
  refine vp B.opn PL ZG (by rw [PL]; walk_at "o") ?_
  walk_at "w"
  refine Ar B G (by walk_at "o") (by walk_at "m") R5 λPs QV QT d' B' G' hl=>?_
  walk_at "w"
  refine dF B'.opn (by rw [PL]; exact aan (by walk_at "o") (by decide:1000<=abD)) ?_
  rw [jP]
  walk_at "w"
  exact h _ _ _ _ _ _ _ _ _ _ B'.setOpen G' hl (by walk_at "m") ⟨d.length,G'.lt (by walk_at "m"),G'.elOf (by walk_at "m") G.ne⟩
 ·replace hE:gz d:=hE.resolve_right λq=>Rr (by subst q; decide)
  walk_at "w"
  refine fK (j:=j) (aH _) (by have:=B.lt (x:=j) (by walk_at "m"); walk_at "o") (by walk_at "m") (by walk_at "m") (B.src.pre (aB _)) λP1 n x hx E2 S2=>?_
  obtain⟨v,rfl,hv⟩:=ph (xs:=["1"," 3 ","-1","b a","q"]) hx
  have B2:=(B.pre (aB _)).ext E2 S2
  walk_at "w"
  refine vp B2.opn PL ZG (by rw [PL]; walk_at "o") ?_
  walk_at "w"
  refine eD rfl ?_
  have Tm:p < d.length:=G.lt (by walk_at "m")
  obtain rfl | rfl:w=3\/w=4:=by walk_at "o"
  ·walk_at "w"
   refine dS (λ_=>?_) λq=>absurd rfl q
   walk_at "w"
   refine bK (bj B2.tr) ?_
   walk_at "w"
   refine fk (n:=0) B2.lr B2.tr.small Tm rfl rfl (λW Pt=>rfl) ?_
   walk_at "w"
   refine F8 B2.tr B2.ly (G.wsnoc (r:=⟨"text","","","",v,some p⟩) rfl (by walk_at "m")) (by walk_at "o") λQa T3 K3=>?_
   have B3:=B2.grow T3 K3
   have G3:=G.snoc (r:=⟨"text","","","",v,some p⟩) (.text hv) rfl (by walk_at "m") R5
   walk_at "w"
   refine dY (B3.lr.rows) ?_
   walk_at "w"
   refine ck trivial ?_
   refine bI (n:=0) (x:=.str "text") (aH _) rfl rfl (by walk_at "m") ?_
   walk_at "w"
   refine jA (B3.pre (aB _)) (by walk_at "o") (r:=⟨"text","","","",v,some p⟩) rfl λRK B4=>?_
   walk_at "w"
   exact h _ _ _ _ _ _ _ _ _ _ B4 G3 (by walk_at "m") (by walk_at "m") hE.snoc
  ·walk_at "w"
   refine dS (λq=>absurd q (by decide)) λq=>?_
   walk_at "w"
   refine bK (bj B2.tr) ?_
   walk_at "w"
   refine fk (n:=0) B2.lr B2.tr.small Tm rfl rfl (λW Pt=>rfl) ?_
   walk_at "w"
   refine Aj B2.tr B2.ly (G.wsnoc (r:=⟨"comment","","","",v,some p⟩) rfl (by walk_at "m")) (by walk_at "o") λQa T3 K3=>?_
   have B3:=B2.grow T3 K3
   have G3:=G.snoc (r:=⟨"comment","","","",v,some p⟩) (.comm hv) rfl (by walk_at "m") R5
   walk_at "w"
   refine dY (B3.lr.rows) ?_
   walk_at "w"
   refine ck trivial ?_
   refine bI (n:=1) (x:=.str "comment") (aH _) rfl rfl (by walk_at "m") ?_
   walk_at "w"
   refine jA (B3.pre (aB _)) (by walk_at "o") (r:=⟨"comment","","","",v,some p⟩) rfl λRK B4=>?_
   walk_at "w"
   exact h _ _ _ _ _ _ _ _ _ _ B4 G3 (by walk_at "m") (by walk_at "m") hE.snoc
theorem CD {v4 v5 v6 v7 v8:Option MV}(B:Bs st j t R rl os lay PJ d d ss)(G:Gd d ss)(hn:d.length < 197)(hs:0 < ss.length)(hE:gz d\/ss.length<=1)
  (h:∀Ps QV QT d' Q1 a4 a5 a6 a7 a8,Bs Ps j t R rl os QV QT d' d' Q1->Gd d' Q1->d'.length<=d.length+3->0 < Q1.length->gz d'->F .next [some (.ref j),some (.ref t),some (.ref rl),some (.ref os),a4,a5,a6,a7,a8] Ps) :
  (aj (aX 5 (fh (bT (ar (bw λa b=>decide (a > b)) (aF dP (ad (af 3) ak)) (tK (.int 1)))) (aF cy (ad (af 0) (ad (tK (.int 5)) ak))) (tK (.int 0))))
 (aj (bX (bT (ar (bw λa b=>decide (a < b)) (af 5) (tK (.int 3)))) (aj (bY (cr .list bx (af 3) (ad (aF gN (ad (af 0) (ad (af 1) (ad (af 2) (ad (ar aN (af 3) (ir fP (tK (.int 1)))) ak))))) ak)))
 az) (aj (c8 [7,6] (bl (ad (aF cx (ad (af 0) (ad (be (ad (tK (.str ("1":Str))) (ad (tK (.str (" 3 ":Str))) (ad (tK (.str ("-1":Str))) (ad (tK (.str ("b a":Str))) (ad (tK (.str ("q":Str))) ak)))))) ak))) (ad (ar aN (af 3) (ir fP (tK (.int 1)))) ak))))
 (aj (aX 8 (fh (bT (ar bL (af 5) (tK (.int 3)))) (bf 524 fD (af 1) (ad (ar aN (ar aN (af 2) (af 7)) (tK (.int 0))) (ad (af 6) ak))) (bf 524 ec (af 1) (ad (ar aN (ar aN (af 2) (af 7)) (tK (.int 0))) (ad (af 6) ak)))))
 (aj (bY (cr .list bx (af 2) (ad (be (ad (af 8) (ad (ar aN (be (ad (tK (.str ("text":Str))) (ad (tK (.str ("comment":Str))) ak))) (ar (bh (· - ·) mq) (af 5) (tK (.int 3)))) (ad (tK (.str ("":Str))) (ad (tK (.str ("":Str))) (ad (tK (.str ("":Str))) (ad (af 6) (ad (af 7) ak)))))))) ak)))
 az))))
 az)) [some (.ref j),some (.ref t),some (.ref rl),some (.ref os),v4,v5,v6,v7,v8] st F:=by
 have V3:ss.length<=d.length:=yC G.asc λx hx=>G.lt hx
 walk_at "w"
 refine fW B.opn (by rw [bb]; walk_at "o") ?_
 rw [bb]
 walk_at "w"
 refine dS (λPR=>?_) λRr=>?_
 ·walk_at "w"
  refine d5 (top:=5) (by decide) (by decide) B.src λst1 x hx E S=>?_
  have B1:=B.ext E S
  walk_at "w"
  exact ED B1 G hn hs hx (.inl (hE.resolve_right λq=>by walk_at "o")) h
 ·walk_at "w"
  exact ED (w:=0) B G hn hs (by decide) (.inr rfl) h
theorem KA {v4 v5 v6 v7 v8:Option MV}(B:Bs st j t R rl os lay PJ d d ss)(G:Gd d ss)(hn:d.length < 197)(hs:0 < ss.length)(hE:gz d\/ss.length<=1)
  (h:∀Ps QV QT d' Q1 a4 a5 a6 a7 a8,Bs Ps j t R rl os QV QT d' d' Q1->Gd d' Q1->d'.length<=d.length+3->0 < Q1.length->gz d'->F .next [some (.ref j),some (.ref t),some (.ref rl),some (.ref os),a4,a5,a6,a7,a8] Ps) :
  lO [some (.ref j),some (.ref t),some (.ref rl),some (.ref os),v4,v5,v6,v7,v8] st F:=by
 have V3:ss.length<=d.length:=yC G.asc λx hx=>G.lt hx
 walk_at "w"
 refine fW B.opn (by rw [bb]; walk_at "o") ?_
 rw [bb]
 walk_at "w"
 refine dG (λPR=>?_) λRr=>?_
 ·walk_at "w"
  refine d5 (top:=3) (by decide) (by decide) B.src λst1 x hx E S=>?_
  have B1:=B.ext E S
  walk_at "w"
  refine dG (λhz=>?_) λhz=>?_
  ·walk_at "w"
   obtain⟨s,p,rfl⟩:=EP hs
   refine dY (B1.opn) ?_
   walk_at "w"
   refine EA (xs:=ay s) (V:=.int (p:Int)) (by rw [jP]; exact B1.opn) ?_ ?_
   ·rw [bb]; simp at V3; exact abJ (by walk_at "o":s.length < 1000) (by decide)
   walk_at "w"
   simp only [abd,abr] at PR
   exact CD B1.setOpen (G.sub (List.sublist_append_left s [p])) hn (by walk_at "o") (.inl (hE.resolve_right λq=>by simp only [abd,abr] at q; walk_at "o")) h
  ·walk_at "w"
   exact CD B1 G hn hs hE h
 ·walk_at "w"
  exact CD B G hn hs hE h
theorem KV:∀(n:Nat)(xs:List MV)(st:MS)(lay:List cJ)(PJ:List Nat)(d:List Rw)(ss:List Nat)(v4 v5 v6 v7 v8:Option MV),xs.length=n->Bs st j t R rl os lay PJ d d ss->Gd d ss->d.length+3 * n < 197->0 < ss.length->(gz d\/ss.length<=1/\0 < n) ->
  (∀Ps QV QT d' Q1 a4 a5 a6 a7 a8,Bs Ps j t R rl os QV QT d' d' Q1->Gd d' Q1->d'.length<=d.length+3 * n->gz d'->F .next [some (.ref j),some (.ref t),some (.ref rl),some (.ref os),a4,a5,a6,a7,a8] Ps) ->
  eh (λ_=>True) (b8 4) lO xs [some (.ref j),some (.ref t),some (.ref rl),some (.ref os),v4,v5,v6,v7,v8] st F:=by
 intro n xs
 induction xs generalizing n with
 | nil=>intro st lay PJ d ss v4 v5 v6 v7 v8 hx B G hn hs hE h; exact⟨trivial,h _ _ _ _ _ _ _ _ _ _ B G (by walk_at "o") (hE.resolve_right λq=>by simp at hx; walk_at "o")⟩
 | cons x xs ih =>
  intro st lay PJ d ss v4 v5 v6 v7 v8 hx B G hn hs hE h
  obtain⟨m,rfl⟩:∃m,n=m+1:=⟨xs.length,by simpa using hx.symm⟩
  refine cS trivial ?_
  refine KA B G (by walk_at "o") hs (hE.imp id λq=>q.1) λPs QV QT d' Q1 a4 a5 a6 a7 a8 B' G' hl UP hE'=>?_
  walk_at "w"
  exact ih m Ps QV QT d' Q1 _ _ _ _ _ (by simpa using hx) B' G' (by walk_at "o") UP (.inl hE') λPT ae8 ae7 d'' afl a4 a5 a6 a7 a8 B'' G'' Tb acY=>h _ _ _ _ _ _ _ _ _ _ B'' G'' (by walk_at "o") acY
end
structure Dc (st:MS)(j t R rl:Nat)(lay:List cJ)(PJ:List Nat)(d:List Rw):Prop where
 bs:∃os ss,Bs st j t R rl os lay PJ d d ss/\Gd d ss
 el:gz d
 le:d.length<=19
theorem EB:Gd [⟨"root","","","","",none⟩] [0] where
 wf:=CV.snoc (d:=[]) (r:=⟨"root","","","","",none⟩) λp e=>by cases e
 tp:=λk hk _=>by simp at hk; exact hk
 ok:=λk hk=>by
  have:k=0:=by simp at hk; exact hk
  subst this
  exact .root
 ne:=by simp
 asc:=by simp
 on:=λx hx=>by rw [cq hx]; exact dN (CV.snoc (d:=[]) (r:=⟨"root","","","","",none⟩) λp e=>by cases e) 0
 el:=λx hx=>by rw [cq hx]; exact .inl rfl
theorem Fp {st:MS}{j t R:Nat}{Q:MV->MS->Prop}(S:dQ st j)(T:Tr st t R [] [])(Y:Ly t R [])(hj:¬cu t R [] j)
  (h:∀Ps rl lay PJ d,Dc Ps j t R rl lay PJ d->Q (.ref rl) Ps):qi [.ref j,.ref t] st Q:=by
 refine cD rfl ?_
 walk_at "w"
 refine bK (bj T) ?_
 walk_at "w"
 refine pO T Y EB.wf (by walk_at "m") λst1 T1 K1=>?_
 walk_at "w"
 refine eD rfl ?_
 walk_at "w"
 have l1:st.length<=st1.length:=K1.len
 have lj:j < st.length:=by obtain⟨a,b,e,_⟩:=S; exact (bP e).1
 have own1:∀x,x=j\/st1.length<=x->¬cu t R [dt st.length] x:=by
  intro x hx
  have hxx:¬cu t R ([]++[dt st.length]) x:=by
   rcases hx with rfl | hx
   ·exact cu.snoc hj lj
   ·intro q
    have:=T1.lt (Y.snoc T) q
    walk_at "o"
  exact hxx
 have T4:=((T1.mono (aB (.list [.int 0,.str "root",.str "",.str "",.str "",.str "",.none]))).mono (aB (.list [.ref st1.length]))).mono (aB (.list [.int 0]))
 have S4:=(((S.keep K1 hj).pre (aB (.list [.int 0,.str "root",.str "",.str "",.str "",.str "",.none]))).pre (aB (.list [.ref st1.length]))).pre (aB (.list [.int 0]))
 have B:Bs (st1++[.list [.int 0,.str "root",.str "",.str "",.str "",.str "",.none]]++[.list [.ref st1.length]]++[.list [.int 0]]) j t R (st1.length+1) (st1.length+2) [dt st.length] [st1.length] [⟨"root","","","","",none⟩] [⟨"root","","","","",none⟩] [0]:=by
  refine⟨T4,Y.snoc T,⟨?_,rfl,λk i h=>?_⟩,S4,?_,?_,λx hx=>own1 x ?_⟩
  ·simp
  ·have hk:=(bP h).1
   have:k=0:=by simpa using hk
   subst this
   have:st1.length=i:=by simpa using h
   subst this
   simp [eK,aL,kD]
  ·simp [ay]
  ·simp; walk_at "o"
  ·simp only [abB,abx,or_false] at hx
   walk_at "o"
 have e1:(st1++[MO.list [.int 0,.str "root",.str "",.str "",.str "",.str "",.none]]).length=st1.length+1:=by simp
 have e2:(st1++[MO.list [.int 0,.str "root",.str "",.str "",.str "",.str "",.none]]++[MO.list [.ref st1.length]]).length=st1.length+2:=by simp
 refine d5 (top:=4) (by decide) (by decide) S4 λRk x hx E5 S5=>?_
 have B5:=B.ext E5 S5
 walk_at "w"
 refine abi (by walk_at "o") (abi (by walk_at "o") ?_)
 simp only [abd,abr]
 refine KV (3+x) _ _ _ _ _ _ _ _ _ _ _ (by simp [oG]; walk_at "o") B5 EB (by simp; walk_at "o") (by walk_at "m") (.inr ⟨by simp,by walk_at "o"⟩) λPs QV QT d' Q1 a4 a5 a6 a7 a8 B' G' hl hE=>?_
 walk_at "w"
 exact h _ _ _ _ _ ⟨⟨_,_,B',G'⟩,hE,by simp at hl; walk_at "o"⟩
noncomputable abbrev eE:Str:=("xml:lang":Str)
noncomputable def fM (d:List Rw)(p:Nat):Option Nat:=
 if (aL d p).kind=("element":Str) then (aca d.length).find? λk=>decide ((aL d k).name=eE) && decide (aT d k=some p) else none
noncomputable def lang (d:List Rw)(k:Nat):Option Nat:=(line d k).findSome? (fM d)
noncomputable def Fz (d:List Rw)(k:Nat):MV:=match lang d k with | some a=>.str (aL d a).val | none=>.none
noncomputable def xW (d:List Rw)(k:Nat):MF:=match lang d k with | some a=>.ret (.str (aL d a).val) | none=>.next
theorem Fi {f g:Nat->Bool}:∀(l:List Nat),(∀x∈l,f x=g x)->l.find? f=l.find? g:=by
 intro l
 induction l with
 | nil =>
  intro _
  exact rfl
 | cons x l ih =>
  intro h
  rw [adX,adX,h x (.head _),ih λy hy=>h y (.tail _ hy)]
section
variable {st Ps:MS}{t R:Nat}{lay:List cJ}{d:List Rw}{k p:Nat}{r:Rw}{l:cJ}{xs:List MV}{fs:List (Str×MV)}{Q:MV->MS->Prop}
theorem dD.lang_attr {r:Rw}(h:dD r)(e:r.name=eE):r.kind=cw/\r.val∈(["en","EN-us","fr","enx"]:List Str):=by
 cases h with
 | root=>exact absurd e (by decide +kernel)
 | elm h =>
  exfalso
  simp only [abB,Prod.mk.injEq,abx,or_false] at h
  rcases h with ⟨rfl,_⟩ | ⟨rfl,_⟩ | ⟨rfl,_⟩
  ·exact absurd e (show ("a":Str)≠eE by decide +kernel)
  ·exact absurd e (show ("b":Str)≠eE by decide +kernel)
  ·exact absurd e (show ("p:a":Str)≠eE by decide +kernel)
 | num h=>exact absurd e (show ("n":Str)≠eE by decide +kernel)
 | lang h=>exact⟨rfl,h⟩
 | text h=>exact absurd e (show ("":Str)≠eE by decide +kernel)
 | comm h=>exact absurd e (show ("":Str)≠eE by decide +kernel)
def oQ (d:List Rw):Prop:=∀k,k < d.length->(aL d k).name=eE->bz d k=true
theorem Gd.langOk {ss:List Nat}(G:Gd d ss):oQ d:=λk hk e=>by
 unfold bz
 rw [c5 hk]
 exact decide_eq_true ((G.ok k hk).lang_attr e).1
theorem Hg (hL:oQ d)(p:Nat):(cZ d p).find? (λk=>decide ((aL d k).name=eE))=(aca d.length).find? λk=>decide ((aL d k).name=eE) && decide (aT d k=some p):=by
 unfold cZ
 rw [List.find?_filter]
 refine Fi _ λk hk=>?_
 rw [abZ] at hk
 by_cases e:(aL d k).name=eE
 ·simp [e,hL k hk e]
 ·simp [e]
theorem zN (W:Wf d)(k:Nat):lang d k=(fM d k).or (match aT d k with | some p=>lang d p | none=>none):=by
 unfold lang
 rw [e6 W (k:=k) rfl,aeS]
 cases fM d k with
 | some a=>rfl
 | none=>cases aT d k <;> rfl
theorem HP (T:Tr st t R lay d){G:MS->Prop}(hG:G st){F:MF->aG->MS->Prop}{x0:Option MV}:∀(ks:List Nat)(x:Option MV),(∀k∈ks,k < d.length) ->
  (∀ρ,(∀a,ks.find? (λk=>decide ((aL d k).name=eE))=some a->F (.ret (.str (aL d a).val)) ρ st)) ->
  (∀x,ks.find? (λk=>decide ((aL d k).name=eE))=none->F .next [x0,some (.ref t),x] st) ->
  eh G (b8 2) nc (ay ks) [x0,some (.ref t),x] st F:=by
 intro ks
 induction ks with
 | nil =>
  intro x hk h1 h2
  exact⟨hG,h2 x rfl⟩
 | cons k ks ih =>
  intro x hk h1 h2
  have hr:=c5 (hk k (.head _))
  refine cS hG ?_
  walk_at "w"
  refine bK (bj T) ?_
  walk_at "w"
  refine Hr T hr ?_
  walk_at "w"
  refine bH (λe=>?_) λe=>?_
  ·walk_at "w"
   refine bK (bj T) ?_
   walk_at "w"
   refine ym T hr ?_
   walk_at "w"
   exact h1 _ k (by rw [adX,decide_eq_true e])
  ·walk_at "w"
   have e':(k::ks).find? (λk=>decide ((aL d k).name=eE))=ks.find? (λk=>decide ((aL d k).name=eE)):=by rw [adX,decide_eq_false e]
   rw [e'] at h1 h2
   exact ih _ (λy hy=>hk y (.tail _ hy)) h1 h2
theorem HF (W:Wf d)(hL:oQ d){P:MF->aG->MS->Prop}:∀(n k:Nat)(Ps:MS)(x:Option MV),k < n->k < d.length->Tr Ps t R lay d->st <+: Ps->(∀PT ρ,st <+: PT->P (xW d k) ρ PT) ->
  ey mT jj (n+1) [some (.int (k:Int)),some (.ref t),x] Ps P:=by
 intro n
 induction n with
 | zero =>
  intro k Ps x hn hk T hp h
  exact absurd hn (ab9 _)
 | succ n ih =>
  intro k Ps x hn hk T hp h
  refine fA ?_
  walk_at "w"
  walk_at "w"
  refine bK (bj T) ?_
  walk_at "w"
  have hr:=c5 hk
  refine wF T hr ?_
  have up:∀(P1:MS) (x:Option MV),st <+: P1->Tr P1 t R lay d->fM d k=none->(aj (aX 0 (bf 524 gL (af 1) (ad (af 0) ak))) az) [some (.int (k:Int)),some (.ref t),x] P1 (yf (bT (ar fH (af 0) (tK .none))) jj (n+1) P):=by
   intro P1 x PW T2 hn0
   walk_at "w"
   refine bK (bj T2) ?_
   walk_at "w"
   refine CA T2 hk ?_
   walk_at "w"
   have hl:=zN W k
   rw [hn0,Option.none_or] at hl
   cases e:aT d k with
   | none =>
    rw [e] at hl
    refine fA ?_
    simp only [kD]
    walk_at "w"
    have:=h P1 [some .none,some (.ref t),x] PW
    unfold xW at this
    rw [hl] at this
    exact this
   | some q =>
    rw [e] at hl
    have TX:=W.low k q e
    refine ih q P1 x (by walk_at "o") (by walk_at "o") T2 PW λPT ρ Qi=>?_
    have:=h PT ρ Qi
    unfold xW at this ⊢
    rw [hl] at this
    exact this
  walk_at "w"
  refine bH (λe=>?_) λe=>?_
  ·walk_at "w"
   refine bK (bj T) ?_
   walk_at "w"
   refine A6 T hk ?_
   have PY:=aB (st:=Ps) (.list (ay (cZ d k)))
   have T1:=T.mono PY
   have hf:=Hg hL k
   have hat:fM d k=(cZ d k).find? (λk=>decide ((aL d k).name=eE)):=by unfold fM; rw [if_pos e,hf]
   refine cb (aH _) ?_
   refine HP T1 (aH _) (cZ d k) _ (λy hy=>(vR.mp hy).1) (λρ a ha=>?_) λx hx=>?_
   ·walk_at "w"
    have:=h (Ps++[.list (ay (cZ d k))]) ρ (hp.trans PY)
    have hl:=zN W k
    rw [hat,ha,Option.some_or] at hl
    unfold xW at this
    rw [hl] at this
    exact this
   ·refine tw ?_
    refine Kb ?_
    refine tw ?_
    exact up _ _ (hp.trans PY) T1 (by rw [hat,hx])
  ·refine Kb ?_
   refine tw ?_
   exact up _ _ hp T (by unfold fM; rw [if_neg e])
theorem Ac (W:Wf d)(hL:oQ d)(T:Tr st t R lay d)(hk:k < d.length)(h:∀Ps,st <+: Ps->Q (Fz d k) Ps):lV [.int (k:Int),.ref t] st Q:=by
 refine cD rfl ?_
 walk_at "w"
 refine ad5 (k+1+1) ?_
 refine HF W hL (k+1) k st _ (by walk_at "o") hk T (aaj _) λPs ρ hp=>?_
 have:=h Ps hp
 unfold Fz at this
 unfold xW
 cases e:lang d k with
 | none =>
  rw [e] at this
  walk_at "w"
  exact this
 | some a =>
  rw [e] at this
  walk_at "w"
  exact this
end
noncomputable def EU (v a:Str):Bool:=decide (abP v=abP a) || (decide ((afs (abP v) ("-":Str))[0]?=some (abP a)) && ln ("-":Str) (abP v))
noncomputable def Bc (v a:Str):Bool:=decide (abP v=abP a) || decide (abG (abP v) none (some (((abP a).length:Int)+1))=abP a++("-":Str))
noncomputable abbrev wG:List Str:=["en","EN-us","fr","enx"]
noncomputable abbrev m6:List Str:=["en","EN-US","fr","e"]
theorem M7:(wG.all λv=>m6.all λa=>EU v a == Bc v a)=true:=by decide +kernel
theorem Ny {v a:Str}(hv:v∈wG)(ha:a∈m6):EU v a=Bc v a:=by
 have:=M7
 rw [abT] at this
 have:=this v hv
 rw [abT] at this
 simpa using this a ha
theorem NJ:(wG.all λv=>decide ((abP v).length<=100/\(afs (abP v) ("-":Str)).length<=100) && ((afs (abP v) ("-":Str))[0]?).isSome)=true:=by decide +kernel
theorem EI {v:Str}(hv:v∈wG):((abP v).length<=100/\(afs (abP v) ("-":Str)).length<=100)/\∃w,(afs (abP v) ("-":Str))[0]?=some w:=by
 have:=NJ
 rw [abT] at this
 have:=this v hv
 rw [ab2,decide_eq_true_eq,adB] at this
 exact this
theorem Nf:(m6.all λv=>decide ((abP v).length<=100))=true:=by decide +kernel
theorem Cc {v:Str}(hv:v∈m6):(abP v).length<=100:=by
 have:=Nf
 rw [abT] at this
 exact of_decide_eq_true (this v hv)
section
variable {st Ps:MS}{rl:Nat}{PJ:List Nat}{d:List Rw}{k p:Nat}{Q:MV->MS->Prop}{PX:Str}
theorem Mf {o:Option Nat}(h:Q (.bool (decide (o=some p))) st):bL [kD o,.int (p:Int)] st Q:=by
 cases o with
 | none=>exact h
 | some q =>
  refine NH ?_
  have:decide ((q:Int)=(p:Int))=decide (some q=some p):=by
   by_cases e:q=p
   ·simp [e]
   ·simp [e]; walk_at "o"
  rw [this]; exact h
theorem G0 {ρ:aG}{y:TE}{b c:Bool}(hy:b=false->∀K:MV->MS->Prop,(∀Ps,st <+: Ps->K (.bool c) Ps)->y ρ st K)(h:∀Ps,st <+: Ps->Q (.bool (b || c)) Ps):M8 y ρ Q (.bool b) st:=by
 cases b with
 | true=>exact h st (aaj _)
 | false=>exact hy rfl _ h
theorem Lk {ρ:aG}{y:TE}{b c:Bool}(hy:b=true->∀K:MV->MS->Prop,(∀Ps,st <+: Ps->K (.bool c) Ps)->y ρ st K)(h:∀Ps,st <+: Ps->Q (.bool (b && c)) Ps):xH y ρ Q (.bool b) st:=by
 cases b with
 | true=>exact hy rfl _ h
 | false=>exact h st (aaj _)
theorem tZ {x:Str}(hl:(abP x).length<=100)(h:Q (.str (abP x)) st):pg [.str x] st Q:=⟨aan hl (by decide),h⟩
theorem JW {x y:Str}(hl:x.length<=100)(hy:(y.length == 0)=false)(h:Q (.ref st.length) (st++[.list ((afs x y).map .str)])):lE [.str x,.str y] st Q:=⟨aan (by walk_at "o":x.length+2<=102) (by decide),hy,h⟩
theorem pF {x y:Str}(h:Q (.bool (ln y x)) st):ic false [.str y,.str x] st Q:=by
 refine JO ?_; rw [ahM]; exact h
noncomputable abbrev mY (d:List Rw)(p:Nat):Nat->Bool:=λk=>decide ((aL d k).name=eE) && decide (aT d k=some p)
theorem DY (small:d.length<=200)(T:LR st rl PJ d)(hp:p < d.length)(ok:∀k,k < d.length->dD (aL d k))(ha:PX∈m6){G:MS->Prop}(hG:G st){x1:Option MV}{F:MF->aG->MS->Prop}:∀(is:List Nat)(i:Nat)(x y:Option MV),PJ.drop i=is ->
  (∀Ps ρ a,st <+: Ps->(adt i is.length).find? (mY d p)=some a->(aL d p).kind=("element":Str)->F (.ret (.bool (EU (aL d a).val PX))) ρ Ps) ->
  (∀x y,(adt i is.length).find? (mY d p)=none\/(aL d p).kind≠("element":Str)->F .next [some (.ref rl),x1,some (.str PX),some (.int (p:Int)),x,y] st) ->
  eh G (b8 4) g9 (is.map .ref) [some (.ref rl),x1,some (.str PX),some (.int (p:Int)),x,y] st F:=by
 intro is
 induction is with
 | nil =>
  intro i x y hi h1 h2
  exact⟨hG,h2 _ _ (.inl rfl)⟩
 | cons q is ih =>
  intro k x y hi h1 h2
  have hq:PJ[k]?=some q:=by
   have:=congrArg (λl=>l[0]?) hi
   simpa using this
  have hk:k < d.length:=by rw [<- T.len]; exact (bP hq).1
  have Xn:=T.row k q hq
  have aaO:PJ.drop (k+1)=is:=by
   have:=congrArg List.tail hi
   simpa using this
  have UA:=nJ hk
  refine cS hG ?_
  unfold g9
  have skip:mY d p k=false\/(aL d p).kind≠("element":Str)->∀(x y:Option MV),eh G (b8 4) g9 (is.map .ref) [some (.ref rl),x1,some (.str PX),some (.int (p:Int)),x,y] st F:=by
   intro hs x y
   refine ih (k+1) x y aaO (λPs ρ a QL hf he=>?_) λx y hf=>?_
   ·refine h1 Ps ρ a QL ?_ he
    rw [abz,aed,adX,hs.resolve_right λq=>q he]
    exact hf
   ·refine h2 x y ?_
    by_cases he:(aL d p).kind=("element":Str)
    ·rw [abz,aed,adX,hs.resolve_right λq=>q he]
     exact hf
    ·exact .inr he
  walk_at "w"
  refine bI (n:=2) Xn rfl rfl (by simp [eK]) ?_
  walk_at "w"
  refine dG (λe1=>?_) λe1=>?_
  ·walk_at "w"
   refine bI (n:=6) Xn rfl rfl (by simp [eK]) ?_
   walk_at "w"
   refine Mf ?_
   rw [<- UA]
   walk_at "w"
   refine dG (λe2=>?_) λe2=>?_
   ·walk_at "w"
    refine fk (n:=1) T small hp rfl rfl (λW Pt=>rfl) ?_
    walk_at "w"
    refine dG (λe3=>?_) λe3=>?_
    ·walk_at "w"
     have hf:(adt k (q::is).length).find? (mY d p)=some k:=by
      rw [abz,aed,adX]
      unfold mY
      rw [decide_eq_true e1,decide_eq_true e2]
      rfl
     have hF:=λPs ρ QL=>h1 Ps ρ k QL hf e3
     have hv:=((ok k hk).lang_attr e1).2
     obtain⟨⟨t1,t4⟩,w,t2⟩:=EI hv
     have t3:=Cc ha
     refine bI (n:=5) Xn rfl rfl (by simp [eK]) ?_
     refine iJ ?_
     walk_at "w"
     refine tZ t1 ?_
     walk_at "w"
     refine iJ ?_
     walk_at "w"
     refine tZ t3 ?_
     refine eD rfl ?_
     walk_at "w"
     refine Kr ?_
     walk_at "w"
     refine G0 (c:=decide ((afs (abP (aL d k).val) ("-":Str))[0]?=some (abP PX)) && ln ("-":Str) (abP (aL d k).val)) (λ_ K hK=>?_) ?_
     ·refine wd ?_
      walk_at "w"
      refine iJ ?_
      walk_at "w"
      refine JW t1 (by decide +kernel) ?_
      walk_at "w"
      refine bI (n:=0) (x:=.str w) (aH _) rfl ?_ ?_ ?_
      ·rw [abF,t2]; rfl
      ·rw [abg]; walk_at "o"
      walk_at "w"
      have e5:decide ((afs (abP (aL d k).val) ("-":Str))[0]?=some (abP PX))=decide (w=abP PX):=by rw [t2]; simp
      rw [e5] at hK
      refine Lk (c:=ln ("-":Str) (abP (aL d k).val)) (λ_ K' Z3=>?_) λPs QL=>hK Ps ((aB _).trans QL)
      walk_at "w"
      exact pF (Z3 _ (aaj _))
     ·intro Ps QL
      walk_at "w"
      exact hF Ps _ QL
    ·walk_at "w"
     exact skip (.inr e3) _ _
   ·walk_at "w"
    exact skip (.inl (by unfold mY; rw [decide_eq_false e2,ajd])) _ _
  ·walk_at "w"
   exact skip (.inl (by unfold mY; rw [decide_eq_false e1,agC])) _ _
set_option tactic.hygienic true in
theorem AU (W:Wf d)(small:d.length<=200)(T:LR st rl PJ d)(hk:k < d.length)(ok:∀k,k < d.length->dD (aL d k))(ha:PX∈m6)
  (h:∀Ps,st <+: Ps->Q (.bool (match lang d k with | some a=>EU (aL d a).val PX | none=>false)) Ps):iy [.ref rl,.int (k:Int),.str PX] st Q:=by
 refine cD rfl ?_
 walk_at "w"
 refine xx W small T hk λst1 i PY hi hx=>?_
 refine cb hx ?_
 have T1:=T.mono PY
 have hN:(PJ.map MV.ref).length=d.length:=by rw [abg,T.len]
 have aaX:∀x∈line d k,x < d.length:=λx hx=>by have:=iH W hx; walk_at "o"
 have key:∀(ls:List Nat) (a b c:Option MV) (F:MF->aG->MS->Prop),(∀x∈ls,x < d.length) ->
   (∀Ps ρ a,st1 <+: Ps->ls.findSome? (fM d)=some a->F (.ret (.bool (EU (aL d a).val PX))) ρ Ps) ->
   (∀Ps ρ,st1 <+: Ps->ls.findSome? (fM d)=none->F .next ρ Ps) ->
   eh (λs=>s[i]?=some (.list (ay (line d k)))) (b8 3) n7 (ay ls) [some (.ref rl),some (.int (k:Int)),some (.str PX),a,b,c] st1 F:=by
  intro ls
  induction ls with
  | nil=>intro a b c F _ _ h2; exact⟨hx,h2 _ _ (aaj _) rfl⟩
  | cons p ls ih =>
   intro a b c F V3 h1 h2
   refine cS hx ?_
   walk_at "w"
   refine cb T1.rows ?_
   have Tm:=V3 p (.head _)
   have ZX:aca d.length=adt 0 PJ.length:=by rw [T.len,aga]
   refine DY small T1 Tm ok ha T1.rows PJ 0 _ _ rfl (λPs ρ a QL hf he=>?_) λx y hf=>?_
   ·walk_at "w"
    refine h1 _ _ a QL ?_
    have:fM d p=some a:=by unfold fM; rw [if_pos he,ZX]; exact hf
    rw [aeS,this]
   ·walk_at "w"
    have:fM d p=none:=by
     unfold fM
     split
     ·rename_i he
      rw [ZX]; exact hf.resolve_right λq=>q he
     ·rfl
    refine ih _ _ _ _ (λx hx=>V3 x (.tail _ hx)) (λPs ρ a QL hf=>h1 Ps ρ a QL ?_) λPs ρ QL hf=>h2 Ps ρ QL ?_
    ·rw [aeS,this]; exact hf
    ·rw [aeS,this]; exact hf
 refine key (line d k) _ _ _ _ aaX (λPs ρ a QL hf=>?_) λPs ρ QL hf=>?_
 ·walk_at "w"
  have:=h Ps (PY.trans QL)
  unfold lang at this
  rw [hf] at this
  exact this
 ·walk_at "w"
  have:=h Ps (PY.trans QL)
  unfold lang at this
  rw [hf] at this
  exact this
end
section
variable {st Ps:MS}{t R:Nat}{lay:List cJ}{d:List Rw}{k p:Nat}{r:Rw}{l:cJ}{xs:List MV}{fs:List (Str×MV)}{Q:MV->MS->Prop}{F:MF->aG->MS->Prop}{ρ:aG}{V:MV}
theorem BZ {C:Addr}{name:Str}{o v:TE}(h:v ρ st (wT C name o ρ F)):dk C name o v ρ st F:=h
theorem Ld {C:Addr}{name:Str}{A B:MS}(h0:ρ[0]?=some (some (.ref A.length)))(hl:fs.length < 100)(h:F .next ρ (A++.inst C (kz name V fs)::B)):wT C name (af 0) ρ F V (A++.inst C fs::B):=iF h0 (GF s6 ⟨hl,by rw [EX]; exact h⟩)
theorem Lq {K:MV->MS->Prop}(h:∀ep,K (.ref st.length) (st++[.dict [] ep])):kU oC ρ st K:=h
theorem nB {C:Addr}{name:Str}{A B:MS}{b:TS}{n i:Nat}(hi:ρ[i]?=some (some .none))(hn:B.length+1=n)(hl:fs.length < 100)(h0:ρ[0]?=some (some (.ref A.length)))
  (h:∀ep,b ρ (A++.inst C (kz name (.ref (A.length+n)) fs)::(B++[.dict [] ep])) F):aj (dk C name (af 0) (fh (bT (ar mR (af i) (tK .none))) (kU oC) (af i))) b ρ (A++.inst C fs::B) F:=by
 refine Mc (BZ (Ks ?_))
 refine LY (Kq hi (J5 ?_))
 walk_at "w"
 refine Lq λep=>?_
 rw [abd,abO]
 show wT C name (af 0) ρ _ (.ref (A.length+(B.length+1))) (A++.inst C fs::(B++[.dict [] ep]))
 rw [hn]; exact Ld h0 hl (h ep)
def c4 (st:MS)(c:Nat)(t k:Nat)(pos size:Int)(PJ:MV):Prop:=∃fs,st[c]?=some (.inst 313 fs)/\fs.lookup ("tree":Str)=some (.ref t)/\fs.lookup ("node":Str)=some (.int (k:Int))/\fs.lookup ("position":Str)=some (.int pos)/\fs.lookup ("size":Str)=some (.int size)/\(PJ≠.none->fs.lookup ("ids":Str)=some PJ)
theorem c4.keep {c:Nat}{pos size:Int}{PJ:MV}(h:c4 st c t k pos size PJ){S:Nat->Prop}(K:Kp S st Ps)(h0:¬S c):c4 Ps c t k pos size PJ:=let ⟨fs,e,r⟩:=h; ⟨fs,K.keep _ _ h0 e,r⟩
theorem c4.pre {c:Nat}{pos size:Int}{PJ:MV}(h:c4 st c t k pos size PJ)(hp:st <+: Ps):c4 Ps c t k pos size PJ:=let ⟨fs,e,r⟩:=h; ⟨fs,aA hp e,r⟩
theorem vG {A:MS}{pos size:Int}{PJ:MV}(XD:PJ=.none\/∃i,PJ=.ref i)
  (h:∀Ps,A <+: Ps->c4 Ps A.length t k pos size PJ->F .next [some (.ref A.length),some (.ref t),some (.int (k:Int)),some (.int pos),some (.int size),some .none,some .none,some .none,some .none,some PJ] Ps) :
  f9 [some (.ref A.length),some (.ref t),some (.int (k:Int)),some (.int pos),some (.int size),some .none,some .none,some .none,some .none,some PJ] (A++[.inst 313 []]) F:=by
 iterate 4 refine jw (Kv rfl) (of_decide_eq_true rfl) rfl ?_
 refine nB rfl rfl (of_decide_eq_true rfl) rfl λe1=>?_
 refine nB rfl rfl (of_decide_eq_true rfl) rfl λe2=>?_
 refine nB rfl rfl (of_decide_eq_true rfl) rfl λe3=>?_
 refine jw (V:=.int (k:Int)) (λK q=>by
  refine Ks (LY (Kq rfl (J5 ?_)))
  walk_at "w"
  exact q) (of_decide_eq_true rfl) rfl ?_
 rcases XD with rfl | ⟨i,rfl⟩
 ·refine nB rfl rfl (of_decide_eq_true rfl) rfl λe4=>?_
  exact h _ (abI _ _) ⟨_,s6,rfl,rfl,rfl,rfl,λq=>absurd rfl q⟩
 ·refine jw (V:=.ref i) (λK q=>by
   walk_at "w"
   exact q) (of_decide_eq_true rfl) rfl ?_
  exact h _ (abI _ _) ⟨_,s6,rfl,rfl,rfl,rfl,λq=>rfl⟩
theorem IY {pos size:Int}(h:∀Ps,st <+: Ps->c4 Ps st.length t k pos size .none->Q (.ref st.length) Ps):kM 313 ja [.ref t,.int (k:Int),.int pos,.int size] st Q:=by
 refine abi rfl ?_
 exact vG (.inl rfl) λPs hp hc=>⟨rfl,h Ps hp hc⟩
theorem JU (h:∀Ps,st <+: Ps->c4 Ps st.length t k 1 1 .none->Q (.ref st.length) Ps):kM 313 gB [.ref t,.int (k:Int)] st Q:=by
 refine abi rfl ?_
 exact vG (.inl rfl) λPs hp hc=>⟨rfl,h Ps hp hc⟩
theorem Hv {i:Nat}(h:∀Ps,st <+: Ps->c4 Ps st.length t k 1 1 (.ref i)->Q (.ref st.length) Ps):kM 313 iS [.ref t,.int (k:Int),.int 1,.int 1,.none,.none,.none,.none,.ref i] st Q:=by
 refine abi rfl ?_
 exact vG (.inr ⟨i,rfl⟩) λPs hp hc=>⟨rfl,h Ps hp hc⟩
theorem BT (h:∀Ps,st <+: Ps->Tr Ps st.length (st.length+1) [] []->Ps.length=st.length+2->Q (.ref st.length) Ps):kM 524 kQ [] st Q:=by
 refine cD rfl ?_
 refine jw (J8 rfl) (of_decide_eq_true rfl) rfl ?_
 refine abi rfl ?_
 refine h _ (abI _ _) ⟨s6,?_,rfl,abS _,λk l r h1 h2=>by cases h2⟩ (by rw [abd]; rfl)
 rw [aeE (adm _ 1),afr]; rfl
theorem Hm {t:Nat}:Ly t (t+1) []:=⟨aby _,λl h=>by simp at h,.nil⟩
theorem BD {ss:List Nat}(G:Gd d ss){a:Nat}(h:lang d k=some a):(aL d a).val∈wG:=by
 unfold lang at h
 obtain⟨p,_,hp⟩:=List.exists_of_findSome?_eq_some h
 unfold fM at hp
 split at hp
 ·have h1:=List.find?_some hp
  have h2:=List.mem_of_find?_eq_some hp
  rw [abZ] at h2
  simp only [ab2,decide_eq_true_eq] at h1
  exact ((G.ok a h2).lang_attr h1.1).2
 ·cases hp
theorem u7 {PX:Str}(W:Wf d)(hL:oQ d)(T:Tr st t R lay d)(hk:k < d.length){c:Nat}{pos size:Int}{PJ:MV}(hc:c4 st c t k pos size PJ)(ha:(abP PX).length<=100)
  (hv:∀a,lang d k=some a->(abP (aL d a).val).length<=100)
  (h:∀Ps,st <+: Ps->Q (.bool (match lang d k with | some a=>Bc (aL d a).val PX | none=>false)) Ps):qE [.str PX,.ref c] st Q:=by
 obtain⟨fs,Re,QX,Uu,_⟩:=hc
 refine cD rfl ?_
 walk_at "w"
 refine bE Re Uu ?_
 walk_at "w"
 refine bE Re QX ?_
 walk_at "w"
 refine Ac W hL T hk λst1 PY=>?_
 have hQ:=h st1 PY
 unfold Fz
 cases e:lang d k with
 | none =>
  rw [e] at hQ
  walk_at "w"
  exact hQ
 | some a =>
  rw [e] at hQ
  have hva:=hv a e
  walk_at "w"
  refine iJ ?_
  walk_at "w"
  refine tZ hva ?_
  walk_at "w"
  refine iJ ?_
  walk_at "w"
  refine tZ ha ?_
  walk_at "w"
  refine eD rfl ?_
  walk_at "w"
  refine Kr ?_
  walk_at "w"
  refine G0 (c:=decide (abG (abP (aL d a).val) none (some (((abP PX).length:Int)+1))=abP PX++("-":Str))) (λ_ K' Z3=>?_) λPs QL=>?_
  ·walk_at "w"
   refine len_str (by walk_at "o") ?_
   walk_at "w"
   refine pz (by walk_at "o") ?_
   walk_at "w"
   refine rU ?_ ?_
   ·have h1:("-":Str).length=1:=by decide +kernel
    rw [agP,h1]; walk_at "o"
   walk_at "w"
   exact Z3 _ (aaj _)
  ·walk_at "w"
   have:=h Ps (PY.trans QL)
   rw [e] at this
   exact this
end
open PySem.NumText
noncomputable abbrev tl (x:Str):List Nat:=x.cps.toList
theorem jC {x y:Str}(h:tl x=tl y):x=y:=Str.ext' (ag1.mp h)
theorem ci (x:Str):x.length=(tl x).length:=by simp [Str.length]
theorem Bv (x:Str)(l u:Option Int):abG x l u=StrLaws.sliceText x l u:=rfl
theorem Ix (l:Option Int){b n:Nat}(h:n<=b):aez l (some (b:Int)) 1 n=aez l (some (n:Int)) 1 n:=by
 have h1:¬((b:Int) < 0):=Int.not_lt.mpr (aem b)
 have h2:¬((n:Int) < 0):=Int.not_lt.mpr (aem n)
 have h3:(1:Int) > 0:=by decide
 have e1:max (0:Int) (min (b:Int) (n:Int))=n:=by rw [Int.min_eq_right (Int.ofNat_le.mpr h)]; exact Int.max_eq_right (aem n)
 have e2:max (0:Int) (min (n:Int) (n:Int))=n:=by rw [Int.min_eq_right (Int.le_refl _)]; exact Int.max_eq_right (aem n)
 simp only [aez,h1,h2,h3,if_false,if_true,e1,e2]
theorem Dw (x:Str)(l:Option Int){b:Nat}(h:x.length<=b):abG x l (some (b:Int))=abG x l (some (x.length:Int)):=by
 unfold abG
 rw [Ix l h]
theorem lH (x:Str){a b:Nat}(QP:a<=b)(ha:a<=x.length):tl (abG x (some (a:Int)) (some (b:Int)))=((tl x).drop a).take (b - a):=by
 by_cases hb:b<=x.length
 ·rw [Bv,ahy x QP hb]
 ·rw [Dw x _ (Nat.le_of_not_le hb),Bv,ahy x ha (abt _)]
  show ((tl x).drop a).take (x.length - a)=_
  rw [afQ (by rw [ack,ci]; exact abt _),afQ (by rw [ack,<- ci]; exact Nat.sub_le_sub_right (Nat.le_of_not_le hb) a)]
theorem JC (x:Str)(b:Nat):tl (abG x none (some (b:Int)))=(tl x).take b:=by
 have:abG x none (some (b:Int))=abG x (some ((0:Nat):Int)) (some (b:Int)):=by
  unfold abG
  rw [StrLaws.sliceIdx_none_lo]; rfl
 rw [this,lH x (abS _) (abS _)]
 simp
theorem GP (x:Str){a:Nat}(ha:a<=x.length):tl (abG x (some (a:Int)) none)=(tl x).drop a:=by
 have:abG x (some (a:Int)) none=abG x (some (a:Int)) (some (x.length:Int)):=by
  unfold abG
  rw [StrLaws.sliceIdx_none_hi]
 rw [this,lH x ha ha,afQ (by rw [ack,ci]; exact abt _)]
theorem sw (x:Str)(l u:Option Int):∀c∈tl (abG x l u),c∈tl x:=by
 intro c hc
 unfold abG at hc
 split at hc
 ·exact hc
 ·obtain⟨i,_,hi⟩:=adS.mp (by simpa using hc)
  obtain⟨h,rfl⟩:=aeD.mp hi
  simp
theorem mD (x:Str)(c:Nat):ln ⟨#[c]⟩ x=decide (c∈tl x):=StrLaws.found_one x c
noncomputable def dw (c:Nat):Bool:=c == 32
noncomputable def cB (c:Nat):Bool:=decide (48<=c) && decide (c<=57)
theorem Iu (c:Nat):decide (c∈tl (" \t\n\r":Str))=(c == 32 || c == 9 || c == 10 || c == 13):=by
 have:tl (" \t\n\r":Str)=[32,9,10,13]:=by decide +kernel
 rw [this,ahm]
 simp [or_assoc]
theorem t6 (c:Nat):decide (c∈tl ("0123456789":Str))=cB c:=by
 have e:tl ("0123456789":Str)=adt 48 10:=by decide +kernel
 have h:c∈adt 48 10↔(48<=c/\c<=57):=agN.trans (and_congr_right λ_=>Nat.lt_succ_iff)
 rw [e,ahm,decide_eq_true_iff,h]
 unfold cB
 rw [ab2,decide_eq_true_iff,decide_eq_true_iff]
noncomputable def bQ (l:List Nat):Nat:=(l.takeWhile dw).length
noncomputable def BW (l:List Nat):Nat:=l.length - ((l.drop (bQ l)).reverse.takeWhile dw).length
noncomputable def eR (x:Str):Str:=afG x (" ":Str)
theorem yh (x:Str):tl (eR x)=((tl x).drop (bQ (tl x))).take (BW (tl x) - bQ (tl x)):=by
 have e:(" ":Str).cps.contains=dw:=by
  have:(" ":Str).cps=#[32]:=by decide +kernel
  funext c
  rw [this]
  unfold dw
  by_cases h:c=32
  ·subst h; simp
  ·simp [h]
 unfold eR
 rw [afG,W.stripBy_eq,e]
 unfold W.stripped
 simp only [if_true]
 refine (afX _ _ _).trans ?_
 rw [ci]
 rfl
theorem mF (p:Nat->Bool)(l:List Nat):(l.takeWhile p).length<=l.length:=(List.takeWhile_sublist p).length_le
theorem FU (p:Nat->Bool):∀(l:List Nat)(i c:Nat),i < (l.takeWhile p).length->l[i]?=some c->p c=true:=by
 intro l
 induction l with
 | nil =>
  intro i c h _
  simp at h
 | cons x l ih =>
  intro i c h e
  rw [aeT] at h
  cases hx:p x with
  | false=>rw [hx] at h; simp at h
  | true =>
   cases i with
   | zero=>simp at e; subst e; exact hx
   | succ i =>
    rw [hx] at h
    exact ih i c (by simpa using h) (by simpa using e)
theorem Ba (p:Nat->Bool):∀(l:List Nat)(c:Nat),l[(l.takeWhile p).length]?=some c->p c=false:=by
 intro l
 induction l with
 | nil =>
  intro c e
  simp at e
 | cons x l ih =>
  intro c e
  rw [aeT] at e
  cases hx:p x with
  | false=>rw [hx] at e; simp at e; subst e; exact hx
  | true=>rw [hx] at e; exact ih c (by simpa using e)
def o3 (x:Str):Prop:=∀c∈tl x,c≠9/\c≠10/\c≠13
section
variable {st:MS}{Q:MV->MS->Prop}{x:Str}{F:MF->aG->MS->Prop}
theorem mL {j:Int}{n c:Nat}(hj:j=(n:Int))(hc:(tl x)[n]?=some c)(hl:x.length < 2 ^ 62)(h:Q (.str ⟨#[c]⟩) st):aN [.str x,.int j] st Q:=by
 have hn:n < x.length:=by rw [ci]; exact (bP hc).1
 refine⟨⟨by walk_at "o",by walk_at "o"⟩,n,c,yl hj hn,by simpa using hc,h⟩
theorem Kj (hp:o3 x){n c:Nat}(hc:(tl x)[n]?=some c):ln ⟨#[c]⟩ (" \t\n\r":Str)=dw c:=by
 obtain⟨h1,h2,h3⟩:=hp c (abk hc)
 rw [mD,Iu]
 have g1:(c == 9)=false:=by simp [h1]
 have g2:(c == 10)=false:=by simp [h2]
 have g3:(c == 13)=false:=by simp [h3]
 rw [g1,g2,g3]
 simp [dw]
theorem LL (hp:o3 x)(hl:x.length<=1000):∀(m b:Nat),b+m=bQ (tl x)->F .next [some (.str x),some (.int ((bQ (tl x):Nat):Int)),some (.int (x.length:Int))] st ->
  ey r6 tL (m+1) [some (.str x),some (.int (b:Int)),some (.int (x.length:Int))] st F:=by
 intro m
 induction m using adc with
 | _ m ih =>
  intro b hb h
  have Vm:=mF dw (tl x)
  have PL:=ci x
  refine fA ?_
  walk_at "w"
  refine dG (λPR=>?_) λRr=>?_
  ·have hbl:b < (tl x).length:=by walk_at "o"
   obtain⟨c,hc⟩:∃c,(tl x)[b]?=some c:=⟨_,abc hbl⟩
   walk_at "w"
   refine mL rfl hc (by walk_at "o") ?_
   walk_at "w"
   refine pF ?_
   rw [Kj hp hc]
   cases m with
   | zero =>
    have:b=bQ (tl x):=by walk_at "o"
    subst this
    rw [Ba dw (tl x) c hc]
    walk_at "w"
    exact h
   | succ m =>
    rw [FU dw (tl x) b c (by unfold bQ at hb; walk_at "o") hc]
    walk_at "w"
    walk_at "w"
    refine ck trivial ?_
    walk_at "w"
    exact ih m (aby m) (b+1) (by walk_at "o") h
  ·have:b=bQ (tl x):=by unfold bQ at hb ⊢; walk_at "o"
   subst this
   walk_at "w"
   exact h
theorem tT (n:Nat):((n+1:Nat):Int) - 1=(n:Int):=by walk_at "o"
theorem H1 (l:List Nat):bQ l<=l.length:=mF dw l
theorem IB {l:List Nat}{i j:Nat}(h:i+j+1=l.length):l.reverse[j]?=l[i]?:=by
 rw [ahw (by rw [<- h]; exact Nat.lt_succ_of_le (Nat.le_add_left _ _)),<- h,ady,ady]
def IG (l:List Nat)(H:Nat):Prop:=BW l=bQ l+H/\bQ l+H<=l.length/\(∀i c,H<=i->l[bQ l+i]?=some c->dw c=true)/\∀i c,H=i+1->l[bQ l+i]?=some c->dw c=false
theorem No (l:List Nat):∃H,IG l H:=by
 have hq:(l.drop (bQ l)).length+bQ l=l.length:=by rw [ack]; exact aio (H1 l)
 have hT:=mF dw (l.drop (bQ l)).reverse
 rw [ade] at hT
 have e:BW l=l.length - ((l.drop (bQ l)).reverse.takeWhile dw).length:=rfl
 have e2:∀i,l[bQ l+i]?=(l.drop (bQ l))[i]?:=λi=>agF.symm
 have t1:=FU dw (l.drop (bQ l)).reverse
 have t2:=Ba dw (l.drop (bQ l)).reverse
 unfold IG
 rw [e]
 simp only [e2]
 generalize ((l.drop (bQ l)).reverse.takeWhile dw).length=T at *
 generalize l.drop (bQ l)=q at *
 obtain⟨H,hH⟩:∃H,H+T=q.length:=⟨_,aio hT⟩
 refine⟨H,by rw [<- hq,<- hH,agG,ady,Nat.add_comm],by rw [<- hq,<- hH]; walk_at "o",λi c hi hc=>?_,λi c hi hc=>?_⟩
 ·obtain⟨j,hj⟩:=Nat.exists_eq_add_of_lt (bP hc).1
  exact t1 j c (by walk_at "o") ((IB hj.symm).trans hc)
 ·exact t2 c ((IB (by rw [<- hH,hi,agG])).trans hc)
theorem KQ (hp:o3 x)(hl:x.length<=1000){H:Nat}(hH:IG (tl x) H)(h:F .next [some (.str x),some (.int ((bQ (tl x):Nat):Int)),some (.int ((bQ (tl x)+H:Nat):Int))] st)(m:Nat):bQ (tl x)+(H+m)<=x.length ->
  ey td tG (m+1) [some (.str x),some (.int ((bQ (tl x):Nat):Int)),some (.int ((bQ (tl x)+(H+m):Nat):Int))] st F:=by
 have t1:=hH.2.2.1
 have t2:=hH.2.2.2
 have ht:=λn c=>Kj (n:=n) (c:=c) hp
 revert ht
 generalize bQ (tl x)=lo at *
 intro ht
 induction m with
 | zero =>
  intro hm
  refine fA ?_
  walk_at "w"
  refine dG (λPR=>?_) λRr=>?_
  ·have PR:lo < lo+H:=afM.mp PR
   cases H with
   | zero=>exact absurd PR (acj _)
   | succ i =>
    have hi:lo+i < (tl x).length:=by rw [<- ci]; exact hm
    have hc:=abc hi
    walk_at "w"
    refine ck trivial ?_
    refine mL (n:=lo+i) (tT (lo+i)) hc (ace hl (by decide)) ?_
    walk_at "w"
    refine pF ?_
    rw [ht _ _ hc,t2 i _ rfl hc]
    walk_at "w"
    exact h
  ·walk_at "w"
   exact h
 | succ m ih =>
  intro hm
  refine fA ?_
  walk_at "w"
  refine dG (λPR=>?_) λRr=>absurd (afM.mpr (show lo < lo+(H+(m+1)) from ag7 (Nat.succ_pos _))) Rr
  have hi:lo+(H+m) < (tl x).length:=by rw [<- ci]; exact hm
  have hc:=abc hi
  walk_at "w"
  refine ck trivial ?_
  refine mL (n:=lo+(H+m)) (tT (lo+(H+m))) hc (ace hl (by decide)) ?_
  walk_at "w"
  refine pF ?_
  rw [ht _ _ hc,t1 (H+m) _ (adm _ _) hc]
  walk_at "w"
  walk_at "w"
  refine ck trivial ?_
  rw [show ((lo+(H+(m+1)):Nat):Int) - 1=((lo+(H+m):Nat):Int) from tT (lo+(H+m))]
  walk_at "w"
  exact ih (Nat.le_of_succ_le hm)
theorem zl (hp:o3 x)(hl:x.length<=1000)(h:Q (.str (eR x)) st):tY [.str x] st Q:=by
 refine bv λGG PD=>?_
 obtain⟨H,hH⟩:=No (tl x)
 refine PD ?_
 have e1:=hH.1
 have e2:=hH.2.1
 rw [<- ci] at e2
 obtain⟨m,hm⟩:=Nat.exists_eq_add_of_le e2
 refine cD rfl ?_
 walk_at "w"
 refine len_str (ace hl (by decide)) ?_
 walk_at "w"
 refine eD rfl ?_
 walk_at "w"
 refine ad5 (bQ (tl x)+1) ?_
 refine LL hp hl (bQ (tl x)) 0 (afE _) ?_
 walk_at "w"
 refine ad5 (m+1) ?_
 have UG:x.length=bQ (tl x)+(H+m):=by rw [hm,Nat.add_assoc]
 have key:=λ(F:MF->aG->MS->Prop) h=>KQ (F:=F) (st:=st) hp hl hH h m (aeK UG.symm)
 rw [<- UG] at key
 refine key _ ?_
 walk_at "w"
 refine m5 hl ?_
 walk_at "w"
 have e:abG x (some ((bQ (tl x):Nat):Int)) (some ((bQ (tl x)+H:Nat):Int))=eR x:=by
  refine jC ?_
  rw [lH x (adm _ _) (aan (adm _ _) e2),yh,e1]
 rw [e]
 exact h
theorem CX (x:Str):(eR x).length<=x.length:=by
 rw [ci,ci,yh]
 exact aan (ahN _ _) (by rw [ack]; exact Nat.sub_le _ _)
theorem pV {x:Str}{c:Nat}(h:c∈tl (eR x)):c∈tl x:=by
 rw [yh] at h
 exact ahO (List.mem_of_mem_take h)
noncomputable def fE (x:Str)(a:Nat):Nat:=a+(((tl x).drop a).takeWhile cB).length
theorem zI {a:Nat}(ha:a<=x.length):fE x a<=x.length/\a<=fE x a:=by
 have Vm:=mF cB ((tl x).drop a)
 rw [ack,<- ci] at Vm
 exact⟨Nat.add_le_of_le_sub' ha Vm,adm _ _⟩
theorem I0 (hl:x.length<=1000){a:Nat}(ha:a<=x.length)(h:F .next [some (.str x),some (.int ((fE x a:Nat):Int))] st)(m:Nat):∀k,a+(k+m)=fE x a ->
  ey nE n9 (m+1) [some (.str x),some (.int ((a+k:Nat):Int))] st F:=by
 have t1:=FU cB ((tl x).drop a)
 have t2:=Ba cB ((tl x).drop a)
 have Vm:=(zI ha).1
 have e0:fE x a=a+(((tl x).drop a).takeWhile cB).length:=rfl
 generalize (((tl x).drop a).takeWhile cB).length=D at *
 have e2:∀i,((tl x).drop a)[i]?=(tl x)[a+i]?:=λi=>agF
 have RL:=ace hl (by decide:1000 < 2 ^ 62)
 induction m with
 | zero =>
  intro k hk
  refine fA ?_
  walk_at "w"
  refine len_str RL ?_
  walk_at "w"
  refine dG (λPR=>?_) λRr=>?_
  ·have hc:=abc (l:=tl x) (i:=a+k) (by rw [<- ci]; exact afM.mp PR)
   walk_at "w"
   refine mL rfl hc RL ?_
   walk_at "w"
   refine pF ?_
   rw [mD,t6,t2 _ ((e2 D).trans (by rw [<- e0,<- hk]; exact hc))]
   walk_at "w"
   rw [show a+k=fE x a from hk]
   exact h
  ·walk_at "w"
   rw [show a+k=fE x a from hk]
   exact h
 | succ m ih =>
  intro k hk
  have hkD:k+(m+1)=D:=Nat.add_left_cancel (hk.trans e0)
  have PR:a+k < x.length:=abJ (by rw [<- hk]; walk_at "o") Vm
  refine fA ?_
  walk_at "w"
  refine len_str RL ?_
  walk_at "w"
  refine dG (λ_=>?_) λRr=>absurd (afM.mpr PR) Rr
  have hc:=abc (l:=tl x) (i:=a+k) (by rw [<- ci]; exact PR)
  walk_at "w"
  refine mL rfl hc RL ?_
  walk_at "w"
  refine pF ?_
  rw [mD,t6,t1 k _ (by rw [<- hkD]; exact ag7 (Nat.succ_pos _)) ((e2 k).trans hc)]
  walk_at "w"
  walk_at "w"
  refine ck trivial ?_
  walk_at "w"
  exact ih (k+1) (by rw [agG k 1 m]; exact hk)
theorem mV (hl:x.length<=1000){a:Nat}(ha:a<=x.length)(h:Q (.int ((fE x a:Nat):Int)) st):gu [.str x,.int (a:Int)] st Q:=by
 refine cD rfl ?_
 walk_at "w"
 refine ad5 ((((tl x).drop a).takeWhile cB).length+1) ?_
 refine I0 (a:=a) hl ha ?_ _ 0 (by rw [afE]; rfl)
 walk_at "w"
 exact h
end
def Kh (Q:List MV->(MS->Prop)->MS->Prop):MV->MS->Prop:=λV Pt=>xc (λx=>Q (gv x) (λ_=>True) Pt) V
theorem Lh:((adt 48 10).all λc=>(adH ("0123456789":Str) ⟨#[c]⟩ 0 ("0123456789":Str).length 1).head? == some (c - 48))=true:=by decide +kernel
theorem HY {c:Nat}(h:cB c=true):∃r,adH ("0123456789":Str) ⟨#[c]⟩ 0 ("0123456789":Str).length 1=(c - 48)::r:=by
 have:=Lh
 rw [abT] at this
 unfold cB at h
 rw [ab2,decide_eq_true_eq,decide_eq_true_eq] at h
 have:=this c (by rw [agN]; walk_at "o")
 rw [beq_iff_eq] at this
 cases e:adH ("0123456789":Str) ⟨#[c]⟩ 0 ("0123456789":Str).length 1 with
 | nil=>rw [e] at this; simp at this
 | cons a r=>rw [e] at this; simp at this; exact⟨r,by rw [this]⟩
section
variable {st:MS}{Q:MV->MS->Prop}{x:Str}{F:MF->aG->MS->Prop}
theorem BK {ρ:aG}{a:TE}{K:List MV->(MS->Prop)->MS->Prop}(h:a ρ st (Kh K)):CJ a ρ st K:=h
theorem yI {K:List MV->(MS->Prop)->MS->Prop}(h:K (gv x) (λ_=>True) st):Kh K (.str x) st:=h
theorem FX {a:Option MV}:∀(l:List Nat)(n:Nat)(b:Option MV),(∀c∈l,cB c=true)->(∀b,F .next [a,some (.int ((l.foldl (λPZ c=>PZ * 10+(c - 48)) n:Nat):Int)),b] st) ->
  eh (λ_=>True) (b8 2) qR (l.map λc=>.str ⟨#[c]⟩) [a,some (.int (n:Int)),b] st F:=by
 intro l
 induction l with
 | nil =>
  intro n b hd h
  exact⟨trivial,h b⟩
 | cons c l ih =>
  intro n b hd h
  refine cS trivial ?_
  walk_at "w"
  refine ck (pf (by decide)) ?_
  walk_at "w"
  refine iJ ?_
  walk_at "w"
  obtain⟨r,hr⟩:=HY (hd c (.head _))
  refine lT (by rw [hr]; rfl) ?_
  walk_at "w"
  rw [show (n:Int) * 10+((c - 48:Nat):Int)=((n * 10+(c - 48):Nat):Int) by push_cast; rfl]
  exact ih _ _ (λy hy=>hd y (.tail _ hy)) h
theorem w0 (hd:(tl x).all cB=true)(h:Q (.int ((digitsVal (tl x):Nat):Int)) st):mv [.str x] st Q:=by
 rw [abT] at hd
 refine cD rfl ?_
 walk_at "w"
 refine BK ?_
 walk_at "w"
 refine yI ?_
 refine FX (tl x) 0 _ hd λb=>?_
 walk_at "w"
 exact h
noncomputable def hv (t:List Nat):Option Int:=
 if (if t.take 1=[45] then t.drop 1 else t)≠[]/\(if t.take 1=[45] then t.drop 1 else t).all cB=true then some (if t.take 1=[45] then -(2 * ((digitsVal (t.drop 1):Nat):Int)) else 2 * ((digitsVal t:Nat):Int)) else none
theorem LO (n:Int):gM (some (2 * n))=num n 1:=by
 unfold gM
 dsimp only
 rw [if_pos (by walk_at "o"),show 2 * n / 2=n by walk_at "o"]
theorem KN (n:Int):gM (some (-(2 * n)))=num (-n) 1:=by
 unfold gM
 dsimp only
 rw [if_pos (by walk_at "o"),show -(2 * n) / 2=-n by walk_at "o"]
theorem AM:tl ("-":Str)=[45]:=by decide +kernel
theorem kL:tl ("":Str)=[]:=by decide +kernel
theorem sM {p:Nat->Bool}:∀{l:List Nat},(l.takeWhile p).length=l.length↔l.all p=true
 | []=>by simp
 | c::l=>by
  rw [aeT]
  cases h:p c with
  | false=>simp [h]
  | true=>simp [h,<- sM (l:=l)]
theorem yc {p:Nat->Bool}:∀{l:List Nat},l.take (l.takeWhile p).length=l.takeWhile p
 | []=>by simp
 | c::l=>by
  rw [aeT]
  cases h:p c with
  | false=>simp
  | true=>simp [yc (l:=l)]
theorem t0 (x:Str):abG x none (some 1)=("-":Str)↔(tl x).take 1=[45]:=by
 have e:tl (abG x none (some 1))=(tl x).take 1:=JC x 1
 constructor
 ·intro h; rw [h,AM] at e; exact e.symm
 ·intro h; exact jC (by rw [e,h,AM])
theorem DN {l u:Option Int}(hd:46 ∉ tl x):abG x l u≠(".":Str):=λe=>by
 have:=sw x l u 46 (by rw [e]; decide +kernel)
 exact hd this
set_option tactic.hygienic true in
theorem EO {y:Str}(hl:y.length<=1000)(hd:46 ∉ tl y){a:Option MV}{b:Nat}(hb:b=(if (tl y).take 1=[45] then 1 else 0))(h:Q (gM (hv (tl y))) st) :
  (aj (aX 3 (aF gu (ad (af 1) (ad (af 2) ak))))
 (aj (c8 [5,4] (bl (ad (iV (af 1) (af 2) (af 3)) (ad (tK (.str "")) ak))))
 (aj (bX (bT (ar bL (iV (af 1) (af 3) (ar cM (af 3) (tK (.int 1)))) (tK (.str ".")))) (aj (aX 6 (aF gu (ad (af 1) (ad (ar cM (af 3) (tK (.int 1))) ak))))
 (aj (aX 5 (iV (af 1) (ar cM (af 3) (tK (.int 1))) (af 6)))
 (aj (aX 3 (af 6))
 az))) az)
 (aj (bX (lJ (bT (ar (bw λa b=>decide (a < b)) (af 3) (aF dP (ad (af 1) ak)))) (lJ (bT (ar bL (ar cM (af 4) (af 5)) (tK (.str "")))) iw)) (aj (aS (tK sp))
 az) az)
 (aj (aX 7 (aF gJ (ad (aF mv (ad (ar cM (af 4) (af 5)) ak)) (ad (ar (bh (λa n=>a ^ n.toNat) λa n=>0<=n/\n<=1000000/\a.natAbs < 2 ^ 64) (tK (.int 10)) (aF dP (ad (af 5) ak))) ak))))
 (aj (aS (fh (bT (ar bL (af 2) (tK (.int 1)))) (aF nD (ad (af 7) ak)) (af 7)))
 az)))))) [a,some (.str y),some (.int (b:Int)),none,none,none,none,none] st (fa Q):=by
 have PL:=ci y
 have Tj:b<=y.length:=by
  rw [hb]
  split
  ·rename_i e
   have:((tl y).take 1).length=1:=by rw [e]; rfl
   rw [ci]; exact aan (aeK this.symm) (ahN 1 (tl y))
  ·exact abS _
 have hr:(if (tl y).take 1=[45] then (tl y).drop 1 else tl y)=(tl y).drop b:=by
  rw [hb]; split <;> simp
 have hE:=zI Tj
 have hTW:=mF cB ((tl y).drop b)
 walk_at "w"
 refine mV hl Tj ?_
 walk_at "w"
 refine m5 hl ?_
 walk_at "w"
 refine eD rfl ?_
 walk_at "w"
 refine m5 hl ?_
 walk_at "w"
 refine bH (λe=>absurd e (DN hd)) λ_=>?_
 walk_at "w"
 refine len_str (ace hl (by decide)) ?_
 walk_at "w"
 have hw:tl (abG y (some (b:Int)) (some ((fE y b:Nat):Int)))=((tl y).drop b).takeWhile cB:=by
  rw [lH y hE.2 Tj,show fE y b - b=(((tl y).drop b).takeWhile cB).length from afr _ _,yc]
 generalize hW:abG y (some (b:Int)) (some ((fE y b:Nat):Int))=w at hw
 have Yt:w++("":Str)=w:=jC (by
  show (w++("":Str)).cps.toList=_
  rw [Str.cps_append,ah4,show (("":Str)).cps.toList=[] from kL,abv])
 have VK:w.length<=1000:=by
  rw [ci,hw]
  exact aan (mF cB _) (by rw [ack,<- ci]; exact aan (Nat.sub_le _ _) hl)
 have Xy:fE y b=b+(((tl y).drop b).takeWhile cB).length:=rfl
 have V7:((tl y).drop b).length=y.length - b:=by rw [ack,PL]
 have Y9:¬((tl y).drop b≠[]/\((tl y).drop b).all cB=true)->Q (num 0 0) st:=λq=>by
  unfold hv at h
  rw [hr,if_neg q] at h
  exact h
 refine pE (λe=>?_) λe=>?_
 ·walk_at "w"
  refine Y9 λq=>?_
  have:=sM.mpr q.2
  walk_at "o"
 ·have Vf:((tl y).drop b).all cB=true:=sM.mp (by walk_at "o")
  walk_at "w"
  refine rU (by rw [Yt]; exact VK) ?_
  rw [Yt]
  walk_at "w"
  refine pE (λe2=>?_) λe2=>?_
  ·walk_at "w"
   refine Y9 λq=>q.1 ?_
   have e3:tl w=[]:=by rw [e2,kL]
   rw [hw] at e3
   have:=sM.mpr q.2
   rw [e3] at this
   exact abL this.symm
  ·have P6:(tl y).drop b≠[]:=λq=>e2 (jC (by rw [hw,q,kL]; rfl))
   have hww:tl w=(tl y).drop b:=by
    rw [hw,<- yc,sM.mpr Vf,List.take_length]
   unfold hv at h
   rw [hr,if_pos ⟨P6,Vf⟩] at h
   walk_at "w"
   refine rU (by rw [Yt]; exact VK) ?_
   rw [Yt]
   walk_at "w"
   refine w0 (by rw [hww]; exact Vf) ?_
   walk_at "w"
   refine len_str (by decide +kernel) ?_
   walk_at "w"
   refine ck ⟨by decide +kernel,by decide +kernel,by decide⟩ ?_
   have e10:(10:Int) ^ ((("":Str).length:Int)).toNat=1:=by decide +kernel
   rw [e10]
   refine i0 (by decide) (by decide) ?_
   have eg:∀v:Int,num (v / (acl v 1:Nat)) (1 / (acl v 1:Nat))=num v 1:=λv=>by
    rw [Int.gcd_one_right]; simp
   rw [eg,hww]
   walk_at "w"
   by_cases hneg:(tl y).take 1=[45]
   ·rw [if_pos hneg] at h hb
    subst hb
    refine dS (λ_=>?_) λq=>absurd rfl q
    walk_at "w"
    refine HX ?_
    rw [KN] at h
    walk_at "w"
    exact h
   ·rw [if_neg hneg] at h hb
    subst hb
    refine dS (λq=>absurd q (by decide)) λq=>?_
    walk_at "w"
    rw [LO] at h
    exact h
theorem Be (hp:o3 x)(hd:46 ∉ tl x)(hl:x.length<=1000)(h:Q (gM (hv (tl (eR x)))) st):gK [.str x] st Q:=by
 have htl:=CX x
 refine cD rfl ?_
 walk_at "w"
 refine zl hp hl ?_
 walk_at "w"
 refine pz (by walk_at "o") ?_
 walk_at "w"
 refine dS (λe=>?_) λe=>?_
 ·walk_at "w"
  exact EO (b:=1) (by walk_at "o") (λq=>hd (pV q)) (by rw [if_pos ((t0 _).mp e)]) h
 ·walk_at "w"
  exact EO (b:=0) (by walk_at "o") (λq=>hd (pV q)) (by rw [if_neg (λq=>e ((t0 _).mpr q))]) h
end
set_option maxHeartbeats 1000000
open PySem PySem.W PySem.Spec PySem.Calls PyProof.Rows PySem.NumText
section
variable {st:MS}{Q:MV->MS->Prop}{x:Str}{F:MF->aG->MS->Prop}{ρ:aG}
theorem GA (xs:List MV)(h:∀v∈xs,∃p,ed v=some p):∃ds,fw xs=some ds:=by
 induction xs with
 | nil=>exact⟨[],rfl⟩
 | cons v xs ih =>
  obtain⟨p,hp⟩:=h v (.head _)
  obtain⟨ds,hd⟩:=ih λw hw=>h w (.tail _ hw)
  unfold fw at hd ⊢
  exact⟨p::ds,by rw [adN,hp,hd]; rfl⟩
theorem Bd {g e:Nat}{xs:List MV}(ha:∀v∈xs,∃p,ed v=some p)(hg:st[g]?=some (.list xs))(he:st[e]?=some (.list []))(h:Q (.bool (!xs.isEmpty)) st):ia [.ref g,.ref e] st Q:=let ⟨_,hd⟩:=GA xs ha; ES hg hd he h
noncomputable def dM (o:Option Int):MV:=match o with | some n=>.int n | none=>.none
theorem G6 {x:Str}{n:Int}(hi:ahI x=some n)(hl:x.length<=640)(h:Q (.int n) st):eJ [.str x] st Q:=lT hi ⟨hl,h⟩
theorem E7 {b:Bool}(h:Q (.int (if b then 1 else 0)) st):eJ [.bool b] st Q:=h
noncomputable def kF:MV->Bool:=λv=>match v with | .str s=>(tl s).any λc=>!cB c | _=>false
theorem BY (l:List Nat):((l.map λc=>MV.str ⟨#[c]⟩).filter kF).isEmpty=l.all cB:=by
 induction l with
 | nil=>rfl
 | cons c l ih =>
  have:kF (.str ⟨#[c]⟩)=!cB c:=by simp [kF,tl]
  rw [abj,List.filter_cons,this]
  cases h:cB c with
  | true=>simpa [h] using ih
  | false=>simp [h]
theorem EL {y w:Str}{a:Option MV}(hl:y.length<=640)(hd:46 ∉ tl y)(ha:∀c∈tl y,c < 128)(hw:tl w=(if (tl y).take 1=[45] then (tl y).drop 1 else tl y))(h:∀Ps,st <+: Ps->Q (dM (hv (tl y))) Ps) :
  (aj (bX (lJ (bT (ar bL (af 3) (tK (.str ("":Str))))) (lJ (bT (ar ia (c7 1 [] (CJ (af 3)) (b8 0) nX g8) (be ak))) iw)) (aj (aS (tK .none))
 az) az)
 (aj (aX 4 (ar cM (ar (bh (· * ·) acg) (tK (.int 2)) (aF eJ (ad (af 3) ak))) (aF eJ (ad (ar ia (af 3) (af 2)) ak))))
 (aj (aS (fh (bT (ar bL (af 1) (af 2))) (af 4) (ar (bh (· - ·) mq) (tK (.int 0)) (af 4))))
 az))) [a,some (.str y),some (.str w),some (.str w),none] st (fa Q):=by
 have VK:w.length<=640:=by
  rw [ci,hw]
  have:=ci y
  split
  ·rw [ack]; walk_at "o"
  ·walk_at "o"
 have Yd:∀c∈tl w,c < 128:=λc hc=>by
  rw [hw] at hc
  split at hc
  ·exact ha c (ahO hc)
  ·exact ha c hc
 have Yv:¬(tl w≠[]/\(tl w).all cB=true)->hv (tl y)=none:=λq=>by
  unfold hv
  rw [<- hw,if_neg q]
 walk_at "w"
 refine pE (λe=>?_) λe=>?_
 ·walk_at "w"
  have:=h st (aaj _)
  rw [Yv λq=>q.1 (by rw [e,kL])] at this
  exact this
 ·walk_at "w"
  refine eq rfl ?_
  refine BK ?_
  walk_at "w"
  refine yI ?_
  refine dr (by rw [gv,abg,<- ci]; walk_at "o") ?_
  refine d7 (st:=st) (p:=kF) (f:=id) (caps:=[]) (λ_ _=>trivial) (gv w) (λv hv st1 K hp hK=>?_) (λv hv _ st1 K hp hK=>?_) none [] st _ (aaj _) λst1 PY=>?_
  ·obtain⟨c,hc,rfl⟩:=c9 hv
   walk_at "w"
   refine JO ?_
   rw [agU,mD,t6]
   walk_at "w"
   have:kF (.str ⟨#[c]⟩)=!cB c:=by simp [kF,tl]
   rw [<- this]
   exact hK _ (aaj _)
  ·unfold g8
   walk_at "w"
   exact hK _ (aaj _)
  ·rw [abA,af8]
   have PW:=PY.trans (aB (st:=st1) (.list ((gv w).filter kF)))
   walk_at "w"
   refine Bd (λv hv=>?_) (aA (aB _) (aH _)) (aH _) ?_
   ·obtain⟨hv,_⟩:=adj.mp hv
    obtain⟨c,hc,rfl⟩:=c9 hv
    have:=Yd c hc
    exact⟨.str ⟨#[c]⟩,pH (by unfold ab7; simp; walk_at "o")⟩
   have hb:((gv w).filter kF).isEmpty=(tl w).all cB:=BY (tl w)
   rw [hb]
   have Qi:=PW.trans (aB (.list []))
   walk_at "w"
   cases X8:(tl w).all cB with
   | false =>
    simp only [adT]
    walk_at "w"
    have:=h _ Qi
    rw [Yv λq=>by rw [X8] at q; exact absurd q.2 (by decide)] at this
    exact this
   | true =>
    simp only [adM]
    walk_at "w"
    have P6:tl w≠[]:=λq=>e (jC (by rw [q,kL]))
    have SG:ahI w=some ((digitsVal (tl w):Nat):Int):=by
     refine intText_digits (λc hc=>?_) P6 (by walk_at "o")
     rw [abT] at X8
     have:=X8 c hc
     unfold cB at this
     rw [ab2,decide_eq_true_eq,decide_eq_true_eq] at this
     exact this
    refine G6 SG VK ?_
    refine ck (kP (by decide)) ?_
    walk_at "w"
    refine E7 ?_
    walk_at "w"
    have:=h _ Qi
    unfold hv at this
    rw [<- hw,if_pos ⟨P6,X8⟩] at this
    have e0:(if (!decide (w=w))=true then (1:Int) else 0)=0:=by simp
    rw [e0]
    refine dS (λe3=>?_) λe3=>?_
    ·walk_at "w"
     subst e3
     have hn:¬(tl y).take 1=[45]:=λq=>by
      rw [if_pos q] at hw
      have h1:=congrArg aft hw
      rw [ack] at h1
      have:(tl y).length≠0:=λq=>P6 (abL q)
      walk_at "o"
     rw [if_neg hn] at this
     rw [Int.add_zero]
     exact this
    ·walk_at "w"
     refine ck trivial ?_
     have hn:(tl y).take 1=[45]:=by
      by_cases q:(tl y).take 1=[45]
      ·exact q
      ·rw [if_neg q] at hw
       exact absurd (jC hw.symm) e3
     rw [if_pos hn] at this
     rw [if_pos hn] at hw
     rw [hw,Int.add_zero,Int.zero_sub]
     exact this
theorem yu (hl:x.length<=640)(hd:46 ∉ tl x)(ha:∀c∈tl x,c < 128)(h:∀Ps,st <+: Ps->Q (dM (hv (tl (eR x)))) Ps):f6 [.str x] st Q:=by
 have htl:=CX x
 refine cD rfl ?_
 walk_at "w"
 refine iJ ?_
 walk_at "w"
 refine abi (aan hl (by decide)) ?_
 have et:afG x (" ":Str)=eR x:=rfl
 rw [et]
 walk_at "w"
 refine pz (by walk_at "o") ?_
 walk_at "w"
 have UO:46 ∉ tl (eR x):=λq=>hd (pV q)
 have Wj:∀c∈tl (eR x),c < 128:=λc hc=>ha c (pV hc)
 have dot:∀w:Str,(∀c∈tl w,c∈tl (eR x))->abG w (some (-2)) none≠(".5":Str):=λw hw e=>by
  have:=sw w (some (-2)) none 46 (by rw [e]; decide +kernel)
  exact UO (hw 46 this)
 refine dS (λe=>?_) λe=>?_
 ·have hn:=(t0 _).mp e
  have h1:1<=(eR x).length:=by
   have:((tl (eR x)).take 1).length=1:=by rw [hn]; rfl
   rw [aiP] at this
   rw [ci]; walk_at "o"
  have hf:tl (abG (eR x) (some 1) none)=(tl (eR x)).drop 1:=GP (eR x) h1
  walk_at "w"
  refine xM (by walk_at "o") ?_
  walk_at "w"
  have Vm:=Txt.slice_le (eR x) (some 1) none
  refine xM (by walk_at "o") ?_
  walk_at "w"
  have d1:=dot (abG (eR x) (some 1) none) (sw (eR x) (some 1) none)
  refine dS ?_ ?_
  ·exact λe2=>absurd e2 d1
  intro _
  walk_at "w"
  exact EL (by walk_at "o") UO Wj (by rw [hf,if_pos hn]) h
 ·have hn:¬(tl (eR x)).take 1=[45]:=λq=>e ((t0 _).mpr q)
  walk_at "w"
  refine xM (by walk_at "o") ?_
  walk_at "w"
  have d1:=dot (eR x) λc hc=>hc
  refine dS ?_ ?_
  ·exact λe2=>absurd e2 d1
  intro _
  walk_at "w"
  exact EL (by walk_at "o") UO Wj (by rw [if_neg hn]) h
end
noncomputable abbrev iM:Str:=("2.5":Str)
theorem H0:eR iM=iM:=by decide +kernel
section
variable {st:MS}{Q:MV->MS->Prop}{x:Str}{F:MF->aG->MS->Prop}{ρ:aG}
theorem H4 (h:Q (num 5 2) st):gK [.str iM] st Q:=by
 refine cD rfl ?_
 walk_at "w"
 refine zl (by unfold o3; decide +kernel) (by decide +kernel) ?_
 rw [H0]
 walk_at "w"
 refine pz (by decide +kernel) ?_
 rw [show abG iM none (some 1)=("2":Str) by decide +kernel]
 walk_at "w"
 refine dS (λe=>absurd e (by decide +kernel)) λ_=>?_
 walk_at "w"
 refine mV (a:=0) (by decide +kernel) (by decide +kernel) ?_
 rw [show fE iM 0=1 by decide +kernel]
 walk_at "w"
 refine m5 (by decide +kernel) ?_
 rw [show abG iM (some 0) (some ((1:Nat):Int))=("2":Str) by decide +kernel]
 walk_at "w"
 refine eD rfl ?_
 walk_at "w"
 refine m5 (by decide +kernel) ?_
 rw [show abG iM (some ((1:Nat):Int)) (some (((1:Nat):Int)+1))=(".":Str) by decide +kernel]
 walk_at "w"
 refine bH (λ_=>?_) λe=>absurd rfl e
 walk_at "w"
 refine mV (a:=2) (by decide +kernel) (by decide +kernel) ?_
 rw [show fE iM 2=3 by decide +kernel]
 walk_at "w"
 refine m5 (by decide +kernel) ?_
 rw [show abG iM (some (((1:Nat):Int)+1)) (some ((3:Nat):Int))=("5":Str) by decide +kernel]
 walk_at "w"
 refine len_str (by decide +kernel) ?_
 walk_at "w"
 refine pE (λe=>absurd e (by decide +kernel)) λ_=>?_
 walk_at "w"
 refine rU (by decide +kernel) ?_
 rw [show ("2":Str)++("5":Str)=("25":Str) by decide +kernel]
 walk_at "w"
 refine pE (λe=>absurd e (by decide +kernel)) λ_=>?_
 walk_at "w"
 refine rU (by decide +kernel) ?_
 rw [show ("2":Str)++("5":Str)=("25":Str) by decide +kernel]
 walk_at "w"
 refine w0 (by decide +kernel) ?_
 rw [show digitsVal (tl ("25":Str))=25 by decide +kernel]
 walk_at "w"
 refine len_str (by decide +kernel) ?_
 walk_at "w"
 refine ck ⟨by decide +kernel,by decide +kernel,by decide⟩ ?_
 rw [show (10:Int) ^ ((("5":Str).length:Int)).toNat=10 by decide +kernel]
 refine i0 (by decide) (by decide) ?_
 rw [show num (((25:Nat):Int) / (acl ((25:Nat):Int) 10:Nat)) (10 / (acl ((25:Nat):Int) 10:Nat))=num 5 2 by
  rw [show acl ((25:Nat):Int) 10=5 by decide +kernel]; rfl]
 walk_at "w"
 refine dS (λe=>absurd e (by decide)) λ_=>?_
 walk_at "w"
 exact h
theorem DV (h:∀Ps,st <+: Ps->Q (.int 5) Ps):f6 [.str iM] st Q:=by
 refine cD rfl ?_
 walk_at "w"
 refine iJ ?_
 walk_at "w"
 refine abi (by decide +kernel) ?_
 rw [show afG iM (" ":Str)=iM from H0]
 walk_at "w"
 refine pz (by decide +kernel) ?_
 rw [show abG iM none (some 1)=("2":Str) by decide +kernel]
 walk_at "w"
 refine dS (λe=>absurd e (by decide +kernel)) λ_=>?_
 walk_at "w"
 refine xM (by decide +kernel) ?_
 rw [show abG iM (some (-2)) none=(".5":Str) by decide +kernel]
 walk_at "w"
 refine dS (λ_=>?_) λe=>absurd rfl e
 walk_at "w"
 refine pz (by decide +kernel) ?_
 rw [show abG iM none (some (-2))=("2":Str) by decide +kernel]
 walk_at "w"
 refine pE (λe=>absurd e (by decide +kernel)) λ_=>?_
 walk_at "w"
 refine eq rfl ?_
 refine BK ?_
 walk_at "w"
 refine yI ?_
 refine dr (by decide +kernel) ?_
 refine d7 (st:=st) (p:=kF) (f:=id) (caps:=[]) (λ_ _=>trivial) (gv ("2":Str)) (λv hv st1 K hp hK=>?_) (λv hv _ st1 K hp hK=>?_) none [] st _ (aaj _) λst1 PY=>?_
 ·obtain⟨c,hc,rfl⟩:=c9 hv
  walk_at "w"
  refine JO ?_
  rw [agU,mD,t6]
  walk_at "w"
  have:kF (.str ⟨#[c]⟩)=!cB c:=by simp [kF,tl]
  rw [<- this]
  exact hK _ (aaj _)
 ·unfold g8
  walk_at "w"
  exact hK _ (aaj _)
 ·have PW:=PY.trans (aB (st:=st1) (.list ([]++((gv ("2":Str)).filter kF).map id)))
  have hb:((gv ("2":Str)).filter kF).isEmpty=true:=by
   have:=BY (tl ("2":Str))
   rw [show (tl ("2":Str)).all cB=true by decide +kernel] at this
   exact this
  rw [List.isEmpty_iff] at hb
  rw [hb] at PW ⊢
  walk_at "w"
  refine Bd (xs:=[]) (λv hv=>by cases hv) (aA (aB _) (aH _)) (aH _) ?_
  have Qi:=PW.trans (aB (.list []))
  simp only [af3,adM]
  walk_at "w"
  refine G6 (n:=2) ((intText_digits (x:=("2":Str)) (by unfold AllDigits; decide +kernel) (by decide +kernel) (by decide +kernel)).trans (by decide +kernel)) (by decide +kernel) ?_
  walk_at "w"
  refine ck (kP (by decide)) ?_
  walk_at "w"
  refine E7 ?_
  walk_at "w"
  rw [show (if (!decide (("2":Str)=iM))=true then (1:Int) else 0)=1 by decide +kernel]
  refine dS (λ_=>?_) λe=>absurd rfl e
  walk_at "w"
  exact h _ Qi
noncomputable def halves (x:Str):Option Int:=if x=iM then some 5 else hv (tl (eR x))
def jR (x:Str):Prop:=x.length<=640/\(x=iM\/(46 ∉ tl x/\∀c∈tl x,32<=c/\c < 128))
theorem jR.read (hx:jR x)(h:Q (gM (halves x)) st):gK [.str x] st Q:=by
 unfold halves at h
 obtain⟨hl,rfl | ⟨h1,h2⟩⟩:=hx
 ·rw [if_pos rfl] at h; exact H4 h
 ·rw [if_neg (λe=>h1 (by rw [e]; decide +kernel))] at h
  exact Be (λc hc=>by have:=h2 c hc; walk_at "o") h1 (by walk_at "o") h
theorem jR.halves (hx:jR x)(h:∀Ps,st <+: Ps->Q (dM (halves x)) Ps):f6 [.str x] st Q:=by
 unfold Internal.halves at h
 obtain⟨hl,rfl | ⟨h1,h2⟩⟩:=hx
 ·rw [if_pos rfl] at h; exact DV h
 ·rw [if_neg (λe=>h1 (by rw [e]; decide +kernel))] at h
  exact yu hl h1 (λc hc=>(h2 c hc).2) h
end
noncomputable def gy:List (Option Int)->Option (List Int)
 | []=>some []
 | some n::os=>(gy os).map (n::·)
 | none::_=>none
noncomputable def pY (os:List (Option Int)):Option Int:=os.foldl tf (some 0)
theorem H8 (o:Option Int):tf none o=none:=rfl
theorem zJ:∀os:List (Option Int),os.foldl tf none=none
 | []=>rfl
 | o::os=>by rw [ahn,H8]; exact zJ os
theorem zv:∀(os:List (Option Int))(a:Int),os.foldl tf (some a)=(gy os).map λns=>a+ns.sum
 | [],a=>by simp [gy]
 | none::os,a=>by
  rw [ahn]
  show os.foldl tf none=_
  rw [zJ]; rfl
 | some n::os,a=>by
  rw [ahn]
  show os.foldl tf (some (a+n))=_
  rw [zv os]
  cases e:gy os with
  | none=>simp [gy,e]
  | some ns=>simp [gy,e]; walk_at "o"
theorem IP (os:List (Option Int)):pY os=(gy os).map List.sum:=by
 unfold pY
 rw [zv]
 cases gy os <;> simp
theorem Dq (os:List (Option Int)):fJ (os.map dM)=gy os:=by
 induction os with
 | nil=>rfl
 | cons o os ih =>
  unfold fJ at ih ⊢
  rw [abj,adN,ih]
  cases o with
  | none=>rfl
  | some n =>
   show (gy os >>= λys=>pure (n::ys))=(gy os).map (n::·)
   cases gy os <;> rfl
noncomputable def um:Option Int->abX | some n=>.int n | none=>.none
theorem BE (os:List (Option Int)):fw (os.map dM)=some (os.map um):=pG (f:=ed) (k:=um) (λo=>by cases o <;> rfl) os
theorem Br:∀os:List (Option Int),((os.map um).any λy=>abK y .none)=(gy os).isNone
 | []=>rfl
 | none::os=>by simp [um,gy,abK]
 | some n::os=>by
  have:=Br os
  rw [abj,List.any_cons,this]
  have e:abK (um (some n)) .none=false:=by simp [um,abK]
  rw [e,Bool.false_or]
  cases h:gy os <;> simp [gy,h]
section
variable {st Ps:MS}{t R:Nat}{lay:List cJ}{d:List Rw}{k:Nat}{Q:MV->MS->Prop}{x:Str}{F:MF->aG->MS->Prop}{ρ:aG}
def Mt (f:MV->MS->Option Bool)(Q:MV->MS->Prop):MV->MS->Prop:=λV Pt=>dT (f V Pt) λb=>Q (.bool b) Pt
theorem we {f:MV->MS->Option Bool}{a:TE}(h:a ρ st (Mt f Q)):pM f a ρ st Q:=h
theorem ug {f:MV->MS->Option Bool}{V:MV}{b:Bool}(hf:f V st=some b)(h:Q (.bool b) st):Mt f Q V st:=lT hf h
theorem qt {i:Nat}{xs:List MV}(hi:st[i]?=some (.list xs))(h:Q (.ref i) st):jZ [.ref i] st Q:=by
 refine cD rfl ?_
 walk_at "w"
 refine we ?_
 walk_at "w"
 refine ug (b:=true) (by unfold yj; dsimp only; rw [hi]; rfl) ?_
 walk_at "w"
 exact h
theorem HG {i:Nat}{xs:List MV}(hi:st[i]?=some (.list xs))(hl:xs.length<=1000)(h:Q (num (xs.length:Int) 1) st):sx [.ref i] st Q:=by
 refine cD rfl ?_
 walk_at "w"
 refine qt hi ?_
 walk_at "w"
 refine fW hi (by walk_at "o") ?_
 walk_at "w"
 refine gO ?_
 walk_at "w"
 exact h
theorem JI (W:Wf d)(T:Tr st t R lay d)(hs:h8 d){i:Nat}{ks:List Nat}(hi:st[i]?=some (.list (ay ks)))(hk:∀k∈ks,k < d.length)(hn:∀k,k < d.length->jR (bi d k))
  (h:∀Ps,st <+: Ps->Q (gM (pY (ks.map λk=>halves (bi d k)))) Ps):vZ [.ref i,.ref t] st Q:=by
 refine cD rfl ?_
 walk_at "w"
 refine gO ?_
 walk_at "w"
 refine qt hi ?_
 refine cb hi ?_
 have key:∀(l:List Nat) (o:Option Int) (st1:MS) (a:Option MV) (F:MF->aG->MS->Prop),(∀k∈l,k < d.length)->st <+: st1->(∀Ps a,st <+: Ps->F .next [some (.ref i),some (.ref t),some (gM ((l.map λk=>halves (bi d k)).foldl tf o)),a] Ps) ->
   eh (λs=>s[i]?=some (.list (ay ks))) (b8 3) u6 (ay l) [some (.ref i),some (.ref t),some (gM o),a] st1 F:=by
  intro l
  induction l with
  | nil=>intro o st1 a F _ hp h; exact⟨aA hp hi,h _ _ hp⟩
  | cons k l ih =>
   intro o st1 a F hl hp h
   refine cS (aA hp hi) ?_
   walk_at "w"
   refine pj W (T.mono hp) hs (hl k (.head _)) λP1 PW=>?_
   walk_at "w"
   refine (hn k (hl k (.head _))).read ?_
   walk_at "w"
   refine MA ?_
   walk_at "w"
   refine ih _ _ _ _ (λy hy=>hl y (.tail _ hy)) (hp.trans PW) λPs a R7=>?_
   exact h Ps a R7
 refine key ks (some 0) st _ _ hk (aaj _) λPs a hp=>?_
 walk_at "w"
 exact h Ps hp
theorem zR {i:Nat}{ts:List Str}(hi:st[i]?=some (.list (ts.map .str)))(hl:ts.length<=200)(hn:∀x∈ts,jR x)
  (h:∀Ps,st <+: Ps->Q (gM (pY (ts.map halves))) Ps):jt [.ref i] st Q:=by
 refine cD rfl ?_
 walk_at "w"
 refine eq rfl ?_
 refine LV ?_
 walk_at "w"
 refine cb hi ?_
 refine dr (by rw [abg]; walk_at "o") ?_
 refine d7 (st:=st) (p:=λ_=>true) (f:=λv=>match v with | .str x=>dM (halves x) | _=>.none) (caps:=[]) (λs hs=>aA hs hi) (ts.map .str) (λv hv st1 K hp hK=>?_) (λv hv _ st1 K hp hK=>?_) none [] st _ (aaj _) λst1 PY=>?_
 ·walk_at "w"
  exact hK _ (aaj _)
 ·obtain⟨x,hx,rfl⟩:=c9 hv
  walk_at "w"
  exact (hn x hx).halves hK
 ·have e:[]++((ts.map MV.str).filter λ_=>true).map (λv=>match v with | .str x=>dM (halves x) | _=>.none)=(ts.map halves).map dM:=by
   rw [abA,ad9.mpr (λ_ _=>rfl),ab6,ab6]; rfl
  rw [e]
  generalize hos:ts.map halves=os at h
  have PW:=PY.trans (aB (st:=st1) (.list (os.map dM)))
  have hg:=aH (st:=st1) (.list (os.map dM))
  have QY:∀K:MV->MS->Prop,K (.bool (gy os).isNone) (st1++[.list (os.map dM)])->ic false [.none,.ref st1.length] (st1++[.list (os.map dM)]) K:=by
   intro K hK
   exact Fo (λ_ _=>rfl) (JB rfl (dX hg (BE _)) (by rw [Br,ahM]; exact hK))
  have hQ:=h _ PW
  rw [IP] at hQ
  have XC:∀(ns:List Int) (K:MV->MS->Prop),gy os=some ns->K (.int ns.sum) (st1++[.list (os.map dM)])->xO [.ref st1.length] (st1++[.list (os.map dM)]) K:=by
   intro ns K e hK
   exact eG hg (lT ((Dq _).trans e) hK)
  walk_at "w"
  refine QY _ ?_
  cases ea:gy os with
  | none =>
   rw [ea] at hQ
   simp only [Option.isNone_none]
   walk_at "w"
   exact hQ
  | some ns =>
   rw [ea] at hQ
   simp only [Option.isNone_some]
   have YQ:=XC ns
   walk_at "w"
   refine YQ _ ea ?_
   walk_at "w"
   refine ck (by decide) ?_
   walk_at "w"
   have hfm:adb ns.sum 2=ns.sum % 2:=agz _ (by decide)
   have VD:af7 ns.sum 2=ns.sum / 2:=aeG _ (by decide)
   rw [hfm]
   change Q (gM (some ns.sum)) _ at hQ
   unfold gM at hQ
   dsimp only at hQ
   refine dS (λe=>?_) λe=>?_
   ·rw [if_pos e] at hQ
    walk_at "w"
    refine YQ _ ea ?_
    walk_at "w"
    refine ck ⟨by decide,by decide⟩ ?_
    rw [VD]
    walk_at "w"
    exact hQ
   ·rw [if_neg e] at hQ
    walk_at "w"
    refine YQ _ ea ?_
    walk_at "w"
    exact hQ
end
open PySem.StrLaws
noncomputable def f7:List Nat->List Nat->List (List Nat)
 | QD,[]=>if QD=[] then [] else [QD]
 | QD,c::r=>if dw c then (if QD=[] then f7 [] r else QD::f7 [] r) else f7 (QD++[c]) r
noncomputable def pk (l:List Nat):List (List Nat):=f7 [] l
theorem vh (QD:List Nat):f7 QD []=if QD=[] then [] else [QD]:=by rw [f7]
theorem ik (QD:List Nat)(c:Nat)(r:List Nat):f7 QD (c::r)=if dw c then (if QD=[] then f7 [] r else QD::f7 [] r) else f7 (QD++[c]) r:=by rw [f7]
theorem Jn:∀(a QD b:List Nat),f7 QD (a++32::b)=f7 QD a++f7 [] b:=by
 intro a
 induction a with
 | nil =>
  intro QD b
  rw [abA,ik,vh,if_pos (show dw 32=true from rfl)]
  by_cases h:QD=[]
  ·rw [if_pos h,if_pos h]; rfl
  ·rw [if_neg h,if_neg h]; rfl
 | cons c a ih =>
  intro QD b
  rw [add,ik,ik]
  by_cases hs:dw c=true
  ·rw [if_pos hs,if_pos hs]
   by_cases h:QD=[]
   ·rw [if_pos h,if_pos h]; exact ih [] b
   ·rw [if_neg h,if_neg h,ih [] b]; rfl
  ·rw [if_neg hs,if_neg hs]; exact ih (QD++[c]) b
noncomputable def nZ (w:List Nat):Str:=⟨w.toArray⟩
theorem Ct (w:List Nat):tl (nZ w)=w:=by simp [nZ,tl]
def kj (x:Str):Prop:=∀c∈tl x,32<=c/\c < 128
theorem He:((adt 32 96).all λc=>Unicode.isSpace c == dw c)=true:=by decide +kernel
theorem HS {c:Nat}(h:32<=c/\c < 128):Unicode.isSpace c=dw c:=by
 have:=He
 rw [abT] at this
 exact eq_of_beq (this c (by rw [agN]; walk_at "o"))
noncomputable def gW (l:List Nat)(b i:Nat):List Nat:=(l.drop b).take (i - b)
theorem vq {l:List Nat}{b i c:Nat}(hb:b<=i)(hc:l[i]?=some c):gW l b (i+1)=gW l b i++[c]:=by
 unfold gW
 rw [show i+1 - b=(i - b)+1 by walk_at "o",aiF,agF,show b+(i - b)=i by walk_at "o",hc]
 rfl
theorem xP {l:List Nat}{b i:Nat}(hb:b < i)(hi:i<=l.length):gW l b i≠[]:=by
 intro e
 have:=congrArg aft e
 unfold gW at this
 rw [aiP,ack] at this
 simp at this
 walk_at "o"
theorem yY {l:List Nat}{i c:Nat}(hc:l[i]?=some c):l.drop i=c::l.drop (i+1):=by
 obtain⟨h,rfl⟩:=bP hc
 exact acb h
theorem JD (x:Str)(ha:kj x):∀(m i:Nat)(w:Array (Nat×Nat))(b:Option Nat),i+m=x.length->w.size<=i->(∀s,b=some s->s < i) ->
  (swEnd x (forIn (adt i m) ((none,w,b):SwSt) (swBody x (x.length+1))).run).map (λp=>afd x p.1 p.2) =
   (w.toList.map λp=>afd x p.1 p.2)++(f7 (match b with | some s=>gW (tl x) s i | none=>[]) ((tl x).drop i)).map nZ:=by
 intro m
 induction m with
 | zero =>
  intro i w b hi hw hb
  have PL:=ci x
  have hd:(tl x).drop i=[]:=aej (by walk_at "o")
  rw [hd]
  cases b with
  | none =>
   show (swEnd x (none,w,none)).map _=_
   simp [swEnd,f7]
  | some s =>
   have P6:=xP (l:=tl x) (hb s rfl) (by walk_at "o")
   show (swEnd x (none,w,some s)).map _=_
   simp only [swEnd,aex,abE,abj,ad4,f7,if_neg P6]
   congr 2
   refine jC ?_
   refine (afX _ _ _).trans ?_
   rw [Ct]
   unfold gW
   rw [show x.length=i by walk_at "o"]
 | succ m ih =>
  intro i w b hi hw hb
  have PL:=ci x
  obtain⟨c,hc⟩:∃c,(tl x)[i]?=some c:=⟨_,abc (by walk_at "o")⟩
  have Vx:=HS (ha c (abk hc))
  have hg:x.cps.getD i 0=c:=by
   have:x.cps[i]?=some c:=by simpa using hc
   rw [Array.getD_eq_getD_getElem?,this]; rfl
  have hsz:¬((w.size == x.length+1)=true):=by
   rw [beq_iff_eq]; walk_at "o"
  rw [aed,ahj,yY hc]
  rw [ik]
  cases b with
  | none =>
   cases QX:dw c with
   | true =>
    have Tj:swBody x (x.length+1) i (none,w,none)=pure (ach (none,w,none)):=by
     unfold swBody
     rw [if_neg hsz,hg,Vx,QX]
    rw [Tj]
    exact ih (i+1) w none (by walk_at "o") (by walk_at "o") λs e=>by cases e
   | false =>
    have Tj:swBody x (x.length+1) i (none,w,none)=pure (ach (none,w,some i)):=by
     unfold swBody
     rw [if_neg hsz,hg,Vx,QX]
    rw [Tj]
    have:=ih (i+1) w (some i) (by walk_at "o") (by walk_at "o") λs e=>by cases e; walk_at "o"
    dsimp only at this
    rw [vq (abt i) hc,show gW (tl x) i i=[] by unfold gW; simp] at this
    exact this
  | some s =>
   have hs:=hb s rfl
   have P6:=xP (l:=tl x) hs (by walk_at "o")
   cases QX:dw c with
   | true =>
    have Tj:swBody x (x.length+1) i (none,w,some s)=pure (ach (none,w.push (s,i),none)):=by
     unfold swBody
     rw [if_neg hsz,hg,Vx,QX]
    rw [Tj]
    have:=ih (i+1) (w.push (s,i)) none (by walk_at "o") (by simp; walk_at "o") λs e=>by cases e
    rw [aex,abE,abj,ad4] at this
    have e2:afd x s i=nZ (gW (tl x) s i):=jC ((afX _ _ _).trans (Ct _).symm)
    rw [e2] at this
    simp only [if_true,if_neg P6,abj]
    refine Eq.trans this ?_
    simp
   | false =>
    have Tj:swBody x (x.length+1) i (none,w,some s)=pure (ach (none,w,some s)):=by
     unfold swBody
     rw [if_neg hsz,hg,Vx,QX]
    rw [Tj]
    have:=ih (i+1) w (some s) (by walk_at "o") (by walk_at "o") λs' e=>by cases e; walk_at "o"
    dsimp only at this
    rw [vq (adl hs) hc] at this
    exact this
set_option tactic.hygienic true in
theorem Cj (x:Str)(ha:kj x):aeM x=(pk (tl x)).map nZ:=by
 have hw:=JD x ha x.length 0 #[] none (by walk_at "o") (by simp) λs e=>by cases e
 rw [<- sw_eq] at hw
 have h1:aeM x=(Builtin.Str.spaceWords x (x.length+1)).map λp=>afd x p.1 p.2:=by
  unfold aeM
  split
  ·rename_i e
   rw [eq_of_beq e]
   simp only [abj,ad4]
   rw [strSub_whole]
  ·rfl
 rw [h1]
 simpa [pk] using hw
section
variable {st:MS}{Q:MV->MS->Prop}{x:Str}{F:MF->aG->MS->Prop}
theorem E8 {y:TE}{ρ:aG}(h:y ρ st Q):xH y ρ Q (.bool true) st:=h
theorem Fy {c:Nat}(h9:c≠9/\c≠10/\c≠13)(h:Q (.bool (dw c)) st):qB [.str ⟨#[c]⟩] st Q:=by
 refine cD rfl ?_
 walk_at "w"
 refine wd ?_
 walk_at "w"
 refine pF ?_
 rw [mD,Iu]
 have g1:(c == 9)=false:=by simp [h9.1]
 have g2:(c == 10)=false:=by simp [h9.2.1]
 have g3:(c == 13)=false:=by simp [h9.2.2]
 rw [g1,g2,g3]
 simp only [Bool.or_false]
 cases e:(c == 32) with
 | true =>
  have e1:dw c=true:=e
  rw [e1] at h
  refine E8 ?_
  walk_at "w"
  have:¬(⟨#[c]⟩:Str)=("":Str):=λq=>by
   have:=congrArg (λs:Str=>(tl s).length) q
   rw [show (tl ("":Str)).length=0 by decide +kernel] at this
   simp at this
  rw [decide_eq_false this]
  exact h
 | false =>
  have e1:dw c=false:=e
  rw [e1] at h
  exact h
noncomputable abbrev fS (fd:List (List Nat)):List MV:=(fd.map nZ).map .str
noncomputable def ut (x:Str)(b i:Nat):List (List Nat):=if i<=x.length then f7 (gW (tl x) b i) ((tl x).drop i) else []
theorem Ij {x:Str}{b i:Nat}(h:x.length < i):ut x b i=[]:=by unfold ut; rw [if_neg (by walk_at "o")]
theorem kH {x:Str}{b i:Nat}(h:i<=x.length):ut x b i=f7 (gW (tl x) b i) ((tl x).drop i):=by unfold ut; rw [if_pos h]
theorem yJ {l:List Nat}{b i:Nat}(h:¬b < i):gW l b i=[]:=by
 unfold gW; rw [show i - b=0 by walk_at "o",List.take_zero]
theorem Ik {b i:Nat}(hb:b<=i)(hi:i<=x.length):abG x (some (b:Int)) (some (i:Int))=nZ (gW (tl x) b i):=
 jC (by rw [lH x hb (by walk_at "o"),Ct]; rfl)
theorem Et (hl:x.length<=1000){Ps:MS}{f i b:Nat}{fd:List (List Nat)}(hb:b<=i)(hi:i<=x.length)(hp:st <+: Ps)(hf:st.length<=f)(hx:Ps[f]?=some (.list (fS fd)))(Tu:fd.length<=i)
  (h:∀P1,st <+: P1->P1[f]?=some (.list (fS (fd++(if b < i then [gW (tl x) b i] else []))))->F .next [some (.str x),some (.ref f),some (.int ((i+1:Nat):Int)),some (.int (i:Int))] P1) :
  (aj (bX (bT (ar (bw λa b=>decide (a > b)) (af 3) (af 2))) (aj (bY (cr .list bx (af 1) (ad (iV (af 0) (af 2) (af 3)) ak))) az) az) (aj (aX 2 (ar cM (af 3) (tK (.int 1)))) az)) [some (.str x),some (.ref f),some (.int (b:Int)),some (.int (i:Int))] Ps F:=by
 walk_at "w"
 refine bH (λPR=>?_) λRr=>?_
 ·rw [if_pos (by walk_at "o")] at h
  walk_at "w"
  refine dY (hx) ?_
  walk_at "w"
  refine m5 hl ?_
  rw [Ik hb hi]
  refine dF hx (by simp [fS]; exact aan (by walk_at "o":fd.length<=1000) (by decide)) ?_
  walk_at "w"
  refine h _ (mI hp hf) ?_
  rw [abu (bP hx).1]
  simp [fS]
 ·rw [if_neg (by walk_at "o"),abv] at h
  walk_at "w"
  exact h _ hp hx
theorem GQ (ha:kj x)(hl:x.length<=1000){f:Nat}:∀(m i b:Nat)(fd:List (List Nat))(Ps:MS)(a:Option MV),i+m=x.length+1->b<=i->st <+: Ps->st.length<=f->Ps[f]?=some (.list (fS fd))->fd.length<=i ->
  (∀PT b' a',st <+: PT->PT[f]?=some (.list (fS (fd++ut x b i)))->F .next [some (.str x),some (.ref f),b',a'] PT) ->
  eh (λ_=>True) (b8 3) mQ ((adt i m).map λ(i:Nat)=>.int (i:Int)) [some (.str x),some (.ref f),some (.int (b:Int)),a] Ps F:=by
 intro m
 induction m with
 | zero =>
  intro i b fd Ps a hi hb hp hf hx Tu h
  refine⟨trivial,h _ _ _ hp ?_⟩
  unfold ut
  rw [if_neg (by walk_at "o"),abv]
  exact hx
 | succ m ih =>
  intro i b fd Ps a hi hb hp hf hx Tu h
  have PL:=ci x
  rw [aed,abj]
  refine cS trivial ?_
  walk_at "w"
  refine len_str (by walk_at "o") ?_
  walk_at "w"
  refine pE (λhe=>?_) λP6=>?_
  ·have he:i=x.length:=by walk_at "o"
   walk_at "w"
   refine Et hl hb (by walk_at "o") hp hf hx Tu λP1 PW Rp=>?_
   walk_at "w"
   refine ih (i+1) (i+1) _ P1 _ (by walk_at "o") (abt _) PW hf Rp ?_ λPT b' a' Qi Uc=>h PT b' a' Qi ?_
   ·split <;> simp <;> walk_at "o"
   ·rw [Uc]
    rw [Ij (i:=i+1) (by walk_at "o"),kH (i:=i) (by walk_at "o"),abv,aej (by walk_at "o":(tl x).length<=i),vh]
    congr 3
    by_cases PR:b < i
    ·rw [if_pos PR,if_neg (xP PR (by walk_at "o"))]
    ·rw [if_neg PR,if_pos (yJ PR)]
  ·have hil:i < x.length:=by walk_at "o"
   obtain⟨c,hc⟩:∃c,(tl x)[i]?=some c:=⟨_,abc (by walk_at "o")⟩
   have hca:=ha c (abk hc)
   walk_at "w"
   refine mL rfl hc (by walk_at "o") ?_
   walk_at "w"
   refine Fy (by walk_at "o") ?_
   cases Vx:dw c with
   | true =>
    walk_at "w"
    refine Et hl hb (by walk_at "o") hp hf hx Tu λP1 PW Rp=>?_
    walk_at "w"
    refine ih (i+1) (i+1) _ P1 _ (by walk_at "o") (abt _) PW hf Rp ?_ λPT b' a' Qi Uc=>h PT b' a' Qi ?_
    ·split <;> simp <;> walk_at "o"
    ·rw [Uc]
     rw [kH (i:=i+1) (by walk_at "o"),kH (i:=i) (by walk_at "o"),yJ (by walk_at "o":¬i+1 < i+1),yY hc,ik,if_pos Vx]
     congr 3
     by_cases PR:b < i
     ·rw [if_pos PR,if_neg (xP PR (by walk_at "o"))]; simp
     ·rw [if_neg PR,if_pos (yJ PR)]; simp
   | false =>
    walk_at "w"
    refine ih (i+1) b _ Ps _ (by walk_at "o") (by walk_at "o") hp hf hx (by walk_at "o") λPT b' a' Qi Uc=>h PT b' a' Qi ?_
    rw [Uc]
    rw [kH (i:=i+1) (by walk_at "o"),kH (i:=i) (by walk_at "o"),vq hb hc,yY hc,ik,Vx]
    rfl
theorem qU (ha:kj x)(hl:x.length<=1000)(h:∀Ps i,st <+: Ps->st.length<=i->Ps[i]?=some (.list (fS (pk (tl x))))->Q (.ref i) Ps):i7 [.str x] st Q:=by
 refine cD rfl ?_
 walk_at "w"
 refine eD rfl ?_
 walk_at "w"
 refine len_str (by walk_at "o") ?_
 walk_at "w"
 refine abi (by walk_at "o") (abi (by walk_at "o") ?_)
 have e:oG ((x.length:Int)+1).toNat=(adt 0 (x.length+1)).map λ(i:Nat)=>MV.int (i:Int):=by
  unfold oG
  rw [aga,show ((x.length:Int)+1).toNat=x.length+1 by walk_at "o"]
 rw [e]
 refine GQ (st:=st) ha hl (x.length+1) 0 0 [] _ _ (by walk_at "o") (abt _) (aB _) (abt _) (aH _) (abS _) λPT b' a' hp hx=>?_
 walk_at "w"
 refine h _ _ hp (abt _) ?_
 rw [hx]
 rw [kH (abS _),show gW (tl x) 0 0=[] by unfold gW; simp]
 rfl
end
theorem y7 (x y:Str):tl (x++y)=tl x++tl y:=by
 show (x++y).cps.toList=_
 rw [Str.cps_append,ah4]
theorem fv (Sw:Str)(l:List Str):aeF Sw l=ahP Sw l:=glued_eq_join Sw l
theorem mU (Sw x y:Str)(l:List Str):tl (ahP Sw (x::y::l))=tl x++tl Sw++tl (ahP Sw (y::l)):=by
 show tl (x++Sw++ahP Sw (y::l))=_
 rw [y7,y7]
theorem pJ:∀l:List Str,tl (aeF ("":Str) l)=(l.map tl).flatten
 | []=>by rw [fv]; rfl
 | [x]=>by rw [fv]; show tl x=_; simp
 | x::y::l=>by
  have:=pJ (y::l)
  rw [fv] at this ⊢
  rw [mU,this,kL]
  simp
theorem CZ:∀l:List Str,pk (tl (aeF (" ":Str) l))=(l.map λx=>pk (tl x)).flatten
 | []=>by rw [fv]; rfl
 | [x]=>by rw [fv]; show pk (tl x)=_; simp
 | x::y::l=>by
  have:=CZ (y::l)
  rw [fv] at this ⊢
  rw [mU,show tl (" ":Str)=[32] by decide +kernel,abO,add,abA]
  unfold pk at this ⊢
  rw [Jn,this]
  rfl
theorem Jc {l:List Str}(h:∀x∈l,kj x):kj (aeF (" ":Str) l):=by
 induction l with
 | nil=>intro c hc; rw [fv] at hc; exact absurd hc (by simp [ahP,Str.empty,tl])
 | cons x l ih =>
  cases l with
  | nil=>rw [fv]; exact h x (.head _)
  | cons y l =>
   have:=ih λz hz=>h z (.tail _ hz)
   intro c hc
   rw [fv] at this hc
   rw [mU] at hc
   rcases dU hc with hc | hc
   ·rcases dU hc with hc | hc
    ·exact h x (.head _) c hc
    ·rw [show tl (" ":Str)=[32] by decide +kernel] at hc
     rw [cq hc]; walk_at "o"
   ·exact this c hc
theorem IV:∀(l QD:List Nat),2 * (f7 QD l).length<=l.length+(if QD=[] then 1 else 2):=by
 intro l
 induction l with
 | nil =>
  intro QD
  rw [vh]
  by_cases h:QD=[] <;> simp [h]
 | cons c l ih =>
  intro QD
  rw [ik]
  have h1:=ih []
  have h2:=ih (QD++[c])
  rw [if_pos rfl] at h1
  rw [if_neg (by simp)] at h2
  by_cases hs:dw c=true
  ·rw [if_pos hs]
   by_cases h:QD=[]
   ·rw [if_pos h,if_pos h,abz]; walk_at "o"
   ·rw [if_neg h,if_neg h,abz,abz]; walk_at "o"
  ·rw [if_neg hs,abz]
   split <;> walk_at "o"
theorem yN (l:List Nat):2 * (pk l).length<=l.length+1:=by
 have:=IV l []
 rw [if_pos rfl] at this
 exact this
noncomputable def Js (x:Str):Bool:=(tl x).all λc=>decide (32<=c) && decide (c < 128)
theorem x9 {x:Str}(h:Js x=true):kj x:=λc hc=>by
 unfold Js at h
 rw [abT] at h
 have:=h c hc
 rw [ab2,decide_eq_true_eq,decide_eq_true_eq] at this
 exact this
theorem pv (xs:List Str){v:Str}(h:v∈xs)(e:xs.all Js=true):kj v:=by
 rw [abT] at e
 exact x9 (e v h)
theorem LH (xs:List Str){v:Str}(h:v∈xs)(e:(xs.all λx=>!(tl x).contains 46)=true):46 ∉ tl v:=by
 rw [abT] at e
 have:=e v h
 simpa using this
theorem pK (xs:List Str){v:Str}(h:v∈xs)(e:(xs.all λx=>x == iM || !(tl x).contains 46)=true):v=iM\/46 ∉ tl v:=by
 rw [abT] at e
 have:=e v h
 simpa using this
theorem dD.asc {r:Rw}(h:dD r):kj r.val/\(r.val=iM\/46 ∉ tl r.val):=by
 cases h with
 | root=>exact⟨x9 (x:=("":Str)) (by decide +kernel),.inr (show 46 ∉ tl ("":Str) by decide +kernel)⟩
 | elm h=>exact⟨x9 (x:=("":Str)) (by decide +kernel),.inr (show 46 ∉ tl ("":Str) by decide +kernel)⟩
 | num h=>exact⟨pv _ h (by decide +kernel),pK _ h (by decide +kernel)⟩
 | lang h=>exact⟨pv _ h (by decide +kernel),pK _ h (by decide +kernel)⟩
 | text h=>exact⟨pv _ h (by decide +kernel),pK _ h (by decide +kernel)⟩
 | comm h=>exact⟨pv _ h (by decide +kernel),pK _ h (by decide +kernel)⟩
theorem dD.textDot {r:Rw}(h:dD r)(e:r.kind=("text":Str)):46 ∉ tl r.val:=by
 cases h with
 | root=>exact absurd e (show ("root":Str)≠("text":Str) by decide +kernel)
 | elm h=>exact absurd e (show ("element":Str)≠("text":Str) by decide +kernel)
 | num h=>exact absurd e (show ("attribute":Str)≠("text":Str) by decide +kernel)
 | lang h=>exact absurd e (show ("attribute":Str)≠("text":Str) by decide +kernel)
 | text h=>exact LH _ h (by decide +kernel)
 | comm h=>exact absurd e (show ("comment":Str)≠("text":Str) by decide +kernel)
section
variable {d:List Rw}{ss:List Nat}
set_option tactic.hygienic true in
theorem CO (W:Wf d)(ok:∀k,k < d.length->dD (aL d k))(hs:d.length<=19){k:Nat}(hk:k < d.length):(bi d k).length<=95/\kj (bi d k)/\(bi d k=iM\/46 ∉ tl (bi d k)):=by
 unfold bi
 split
 ·rename_i hc
  have QY:∀x∈((de d d.length k).filter λj=>decide ((aL d j).kind=("text":Str))).map λj=>(aL d j).val,kj x/\46 ∉ tl x/\x.length<=5:=by
   intro x hx
   obtain⟨j,hj,rfl⟩:=c9 hx
   obtain⟨hj,ht⟩:=adj.mp hj
   have hjd:=((fO W d.length k j (by walk_at "o")).mp hj).1
   have hr:=ok j hjd
   exact⟨hr.asc.1,hr.textDot (of_decide_eq_true ht),hr.vlen⟩
  have hn:(((de d d.length k).filter λj=>decide ((aL d j).kind=("text":Str))).map λj=>(aL d j).val).length<=19:=by
   rw [abg]
   refine aan (afW _ _) ?_
   rw [iC W (by (first | lia | omega))]
   exact aan (e7 d _) hs
  generalize ((de d d.length k).filter λj=>decide ((aL d j).kind=("text":Str))).map (λj=>(aL d j).val)=l at QY hn
  refine⟨?_,λc hc=>?_,.inr λhc=>?_⟩
  ·rw [ci,pJ,List.length_flatten,ab6]
   have:∀l:List Str,(∀x∈l,kj x/\46 ∉ tl x/\x.length<=5)->(l.map (aft ∘ tl)).sum<=5 * l.length:=by
    intro l
    induction l with
    | nil=>intro _; simp
    | cons x l ih =>
     intro h
     have h1:=(h x (.head _)).2.2
     rw [ci] at h1
     have:=ih λy hy=>h y (.tail _ hy)
     simp only [abj,List.sum_cons,abz,Function.comp]
     walk_at "o"
   have:=this l QY
   walk_at "o"
  ·rw [pJ] at hc
   refine bv λGG PD=>?_
   obtain⟨m,hm,Wk⟩:=List.mem_flatten.mp hc
   obtain⟨x,hx,rfl⟩:=c9 hm
   refine PD ?_
   exact (QY x hx).1 c Wk
  ·rw [pJ] at hc
   refine bv λGG PD=>?_
   obtain⟨m,hm,Wk⟩:=List.mem_flatten.mp hc
   obtain⟨x,hx,rfl⟩:=c9 hm
   refine PD ?_
   exact (QY x hx).2.1 Wk
 ·have hr:=ok k hk
  exact⟨aan hr.vlen (by decide),hr.asc.1,hr.asc.2⟩
theorem ze (W:Wf d)(ok:∀k,k < d.length->dD (aL d k))(hs:d.length<=19){k:Nat}(hk:k < d.length):jR (bi d k):=by
 obtain⟨h1,h2,h3⟩:=CO W ok hs hk
 refine⟨by walk_at "o",h3.imp id λh=>⟨h,h2⟩⟩
end
section
variable {st Ps:MS}{t R:Nat}{lay:List cJ}{d:List Rw}{k p:Nat}{r:Rw}{l:cJ}{xs:List MV}{fs:List (Str×MV)}{Q:MV->MS->Prop}{F:MF->aG->MS->Prop}{ρ:aG}{x:Str}
theorem wC (W:Wf d)(W2:Wf (d++[r]))(hr:r.kind≠("text":Str)) (hk:k < d.length):bi (d++[r]) k=bi d k:=by
 unfold bi
 rw [cH hk]
 split
 ·congr 1
  rw [iC W (by (first | lia | omega)),iC W2 (by walk_at "o"),agB,agB,abd,abr]
  rw [oo _ (λj=>decide ((aL d j).kind=("text":Str)) && (decide (j≠k) && decide (k∈line d j) && !bz d j)) d.length λj hj=>by rw [cH hj,kA hj,r9 W hj]]
  rw [dJ,decide_eq_false hr,agC]
  simp only [ab5,if_false,abv]
  refine aeP λj hj=>?_
  have:=(adj.mp hj).1
  rw [abZ] at this
  rw [cH this]
 ·rfl
theorem h8.snoc (h:h8 d)(h1:r.val.length<=100)(h2:ab7 r.kind=true):h8 (d++[r]):=by
 refine⟨λj hj=>?_,λj hj=>?_⟩
 ·rw [abd,abr] at hj
  by_cases e:j < d.length
  ·rw [cH e]; exact h.1 j e
  ·have:j=d.length:=by walk_at "o"
   subst this; rw [dJ]; exact h1
 ·rw [abd,abr] at hj
  by_cases e:j < d.length
  ·rw [cH e]; exact h.2 j e
  ·have:j=d.length:=by walk_at "o"
   subst this; rw [dJ]; exact h2
theorem qY (h:Q (.str x) st){V:MV}:nA [.str x,V] st Q:=by
 refine cD rfl ?_
 walk_at "w"
 refine we ?_
 walk_at "w"
 refine ug (b:=true) rfl ?_
 walk_at "w"
 exact h
theorem yV (ha:kj x)(hl:x.length<=1000){V:MV}(h:∀Ps i,st <+: Ps->st.length<=i->Ps[i]?=some (.list (fS (pk (tl x))))->Q (.ref i) Ps):iB [.str x,V] st Q:=by
 refine cD rfl ?_
 walk_at "w"
 refine we ?_
 walk_at "w"
 refine ug (b:=false) rfl ?_
 walk_at "w"
 refine qY ?_
 walk_at "w"
 refine qU ha hl λPs i hp hi hx=>?_
 walk_at "w"
 exact h Ps i hp hi hx
theorem Hk {a b:Nat}{xs ys:List MV}(ha:st[a]?=some (.list xs))(hb:st[b]?=some (.list ys))(hl:xs.length+ys.length<=100000)(h:Q (.ref st.length) (st++[.list (xs++ys)])):cM [.ref a,.ref b] st Q:=eG ha (eG hb ⟨aan hl (by decide),h⟩)
noncomputable def ij (d:List Rw)(ks:List Nat):List (List Nat):=(ks.map λk=>pk (tl (bi d k))).flatten
theorem I8 {ks:List Nat}(h:∀k∈ks,(bi d k).length<=95):(ij d ks).length<=48 * ks.length:=by
 induction ks with
 | nil=>simp [ij]
 | cons k ks ih =>
  have h1:=yN (tl (bi d k))
  have h2:=h k (.head _)
  rw [ci] at h2
  have:=ih λy hy=>h y (.tail _ hy)
  unfold ij at this ⊢
  simp only [abj,List.flatten_cons,abd,abz]
  walk_at "o"
theorem ww (W:Wf d)(T:Tr st t R lay d)(hs:h8 d){i:Nat}{ks:List Nat}(hi:st[i]?=some (.list (ay ks)))(hk:∀k∈ks,k < d.length)(hn:∀k∈ks,kj (bi d k)/\(bi d k).length<=95)(Sz:ks.length<=100)
  (h:∀Ps f,st <+: Ps->st.length<=f->Ps[f]?=some (.list (fS (ij d ks)))->Q (.ref f) Ps):iB [.ref i,.ref t] st Q:=by
 refine cD rfl ?_
 walk_at "w"
 refine we ?_
 walk_at "w"
 refine ug (b:=true) (by unfold yj; dsimp only; rw [hi]; rfl) ?_
 walk_at "w"
 have U2:=aB (st:=st) (.list [])
 refine cb (aA U2 hi) ?_
 have key:∀(l:List Nat) (PZ:List (List Nat)) (st1:MS) (f:Nat) (a:Option MV) (F:MF->aG->MS->Prop),(∀k∈l,k∈ks)->st <+: st1->st.length<=f->st1[f]?=some (.list (fS PZ))->PZ.length+48 * l.length<=10000 ->
   (∀Ps f' a,st <+: Ps->st.length<=f'->Ps[f']?=some (.list (fS (PZ++ij d l)))->F .next [some (.ref i),some (.ref t),some (.ref f'),a] Ps) ->
   eh (λs=>s[i]?=some (.list (ay ks))) (b8 3) qV (ay l) [some (.ref i),some (.ref t),some (.ref f),a] st1 F:=by
  intro l
  induction l with
  | nil =>
   intro PZ st1 f a F _ hp hf hx _ h
   exact⟨aA hp hi,h _ _ _ hp hf (by simpa [ij] using hx)⟩
  | cons k l ih =>
   intro PZ st1 f a F hl hp hf hx hb h
   have VS:=hl k (.head _)
   obtain⟨ha,PL⟩:=hn k VS
   refine cS (aA hp hi) ?_
   walk_at "w"
   refine pj W (T.mono hp) hs (hk k VS) λP1 PW=>?_
   walk_at "w"
   refine qU ha (by walk_at "o") λQa g Qi hg hxg=>?_
   have VK:=yN (tl (bi d k))
   rw [ci] at PL
   refine Hk (aA (PW.trans Qi) hx) hxg ?_ ?_
   ·simp only [fS,abg,abz] at hb ⊢
    walk_at "o"
   have e:fS PZ++fS (pk (tl (bi d k)))=fS (PZ++pk (tl (bi d k))):=by simp [fS]
   rw [e]
   walk_at "w"
   refine ih (PZ++pk (tl (bi d k))) _ _ _ _ (λy hy=>hl y (.tail _ hy)) (((hp.trans PW).trans Qi).trans (aB _)) ((hp.trans PW).trans Qi).length_le (aH _) ?_ λPs f' a R7 Sk Rf=>h Ps f' a R7 Sk ?_
   ·simp only [abd,abz] at hb ⊢; walk_at "o"
   ·rw [Rf]
    simp [ij]
 refine key ks [] _ _ _ _ (λk hk=>hk) U2 (abt _) (aH _) (by simp; walk_at "o") λPs f' a hp hf hx=>?_
 walk_at "w"
 exact h Ps f' hp hf (by simpa using hx)
theorem Ip (W:Wf d)(T:Tr st t R lay d){r:Nat}(hr:aT d r=none):∀(n k:Nat),k < n->k < d.length->r∈line d k->F .next [some (.ref t),some (.int (r:Int))] st ->
  ey l9 me n [some (.ref t),some (.int (k:Int))] st F:=by
 intro n
 induction n with
 | zero =>
  intro k hn _ _ _
  exact absurd hn (ab9 _)
 | succ n ih =>
  intro k hn hk hm h
  have YM:=c5 hk
  obtain⟨l,hl⟩:=T.at YM
  have UA:=nJ hk
  refine fA ?_
  walk_at "w"
  refine bK (bj T) ?_
  walk_at "w"
  refine jE T hl ?_
  refine bE (V:=kD (aL d k).par) (T.node k l _ hl YM).1 rfl ?_
  rw [<- UA]
  cases e:aT d k with
  | none =>
   simp only [kD]
   walk_at "w"
   rw [e6 W e] at hm
   have:r=k:=by simpa using hm
   rw [this] at h
   exact h
  | some p =>
   have TX:=W.low k p e
   simp only [kD]
   walk_at "w"
   walk_at "w"
   refine bE T.tree rfl ?_
   walk_at "w"
   have small:=T.small
   refine bI (n:=k) (x:=.ref l.i) T.rows rfl (by rw [abF,hl]; rfl) (by simp [T.len]; walk_at "o") ?_
   refine bE (V:=kD (aL d k).par) (T.node k l _ hl YM).1 rfl ?_
   rw [<- UA,e]
   simp only [kD]
   walk_at "w"
   refine ih p (by walk_at "o") (by walk_at "o") ?_ h
   rw [dE W e] at hm
   rcases bN hm with q | q
   ·subst q; rw [hr] at e; cases e
   ·exact q
theorem rY (W:Wf d)(T:Tr st t R lay d){r:Nat}(hr:aT d r=none)(hk:k < d.length)(hm:r∈line d k)(h:Q (.int (r:Int)) st):gs [.ref t,.int (k:Int)] st Q:=by
 refine cD rfl ?_
 walk_at "w"
 refine ad5 (k+1) ?_
 refine Ip W T hr (k+1) k (by walk_at "o") hk hm ?_
 walk_at "w"
 exact h
end
noncomputable def look (A B:Nat)(w:Str):Option Nat:=if w=("a":Str) then some A else if w=("b":Str) then some B else none
noncomputable def iD (A B:Nat)(F:List Nat)(w:Str):List Nat:=match look A B w with | some k=>if k∈F then F else F++[k] | none=>F
noncomputable def du (A B:Nat)(ws:List Str)(F:List Nat):List Nat:=ws.foldl (iD A B) F
theorem Lb {A B k:Nat}{w:Str}(h:look A B w=some k):k=A\/k=B:=by
 unfold look at h
 split at h
 ·cases h; exact .inl rfl
 ·split at h
  ·cases h; exact .inr rfl
  ·cases h
set_option tactic.hygienic true in
theorem zA {A B:Nat}{F:List Nat}{w:Str}(h:F.Nodup/\∀k∈F,k=A\/k=B):(iD A B F w).Nodup/\∀k∈iD A B F w,k=A\/k=B:=by
 unfold iD
 split
 ·rename_i k e
  split
  ·exact h
  ·rename_i hk
   refine⟨?_,λx hx=>?_⟩
   ·rw [abR]
    exact⟨h.1,by simp,λa ha b hb q=>by rw [cq hb] at q; exact hk (q ▸ ha)⟩
   ·rcases dU hx with q | q
    ·exact h.2 x q
    ·rw [cq q]; exact Lb e
 ·exact h
set_option tactic.hygienic true in
theorem Ib {A B x:Nat}{F:List Nat}{w:Str}:x∈iD A B F w↔x∈F\/look A B w=some x:=by
 unfold iD
 cases e:look A B w with
 | none=>simp
 | some k =>
  dsimp only
  split
  ·rename_i hk
   constructor
   ·exact .inl
   ·rintro (h | h)
    ·exact h
    ·cases h; exact hk
  ·simp [eq_comm]
theorem mt {A B:Nat}:∀(ws:List Str)(F:List Nat),(F.Nodup/\∀k∈F,k=A\/k=B)->(du A B ws F).Nodup/\∀k∈du A B ws F,k=A\/k=B:=by
 intro ws
 induction ws with
 | nil =>
  intro F h
  exact h
 | cons w ws ih =>
  intro F h
  exact ih (iD A B F w) (zA h)
theorem xJ {A B x:Nat}:∀(ws:List Str)(F:List Nat),x∈du A B ws F↔x∈F\/∃w∈ws,look A B w=some x:=by
 intro ws
 induction ws with
 | nil =>
  intro F
  simp [du]
 | cons w ws ih =>
  intro F
  show x∈du A B ws (iD A B F w)↔_
  rw [ih,Ib]
  simp [or_assoc]
theorem uk {A B:Nat}{F:List Nat}(h:F.Nodup/\∀k∈F,k=A\/k=B):F.length<=2:=by
 have:=h.1.length_le_of_subset (l₂:=[A,B]) λk hk=>by simpa using h.2 k hk
 exact this
theorem sP {F:List Nat}{x:Nat}:x∈gw F↔x∈F:=by
 unfold gw
 split
 ·split <;> simp [or_comm]
 ·rfl
theorem G8 {F:List Nat}(h:F.Nodup)(h2:F.length<=2):(gw F).Pairwise (· < ·):=by
 match F,h,h2 with
 | [],_,_=>exact .nil
 | [a],_,_=>exact ag4 _ _
 | [a,b],h,_ =>
  have QP:a≠b:=by simpa using h
  unfold gw
  dsimp only
  split <;> simp <;> walk_at "o"
noncomputable def jQ (l:List Nat):List Int:=l.map λ(n:Nat)=>(n:Int)
theorem A9 {A B:Nat}(ws:List Str):i6 (jQ (ws.filterMap (look A B)))=jQ (gw (du A B ws [])):=by
 have Sr:=mt (A:=A) (B:=B) ws [] ⟨by simp,by simp⟩
 refine u8 (zn _) ?_ λx=>?_
 ·unfold jQ
  rw [List.pairwise_map]
  exact (G8 Sr.1 (uk Sr)).imp λh=>by walk_at "o"
 ·rw [tm]
  unfold jQ
  rw [afw,afw]
  constructor
  ·rintro⟨n,hn,rfl⟩
   obtain⟨w,hw,e⟩:=adS.mp hn
   exact⟨n,sP.mpr ((xJ ws []).mpr (.inr ⟨w,hw,e⟩)),rfl⟩
  ·rintro⟨n,hn,rfl⟩
   rcases (xJ ws []).mp (sP.mp hn) with q | ⟨w,hw,e⟩
   ·cases q
   ·exact⟨n,adS.mpr ⟨w,hw,e⟩,rfl⟩
theorem EF {A B:Nat}(ws:List Str):(i6 (jQ (ws.filterMap (look A B)))).length<=2:=by
 rw [A9]
 have Sr:=mt (A:=A) (B:=B) ws [] ⟨by simp,by simp⟩
 have h2:=uk Sr
 unfold jQ
 rw [abg]
 generalize du A B ws []=F at h2
 unfold gw
 split
 ·split <;> simp
 ·exact h2
theorem wW {VA VB VX:MV}(w:Str):([(("a":Str),VA),(("b":Str),VB),(("x":Str),VX)]:List (Str×MV)).lookup w=if w=("a":Str) then some VA else if w=("b":Str) then some VB else if w=("x":Str) then some VX else none:=by
 simp only [List.lookup]
 by_cases h1:w=("a":Str)
 ·simp [h1]
 ·have e1:(w == ("a":Str))=false:=by simp [h1]
  rw [if_neg h1,e1]
  dsimp only
  by_cases h2:w=("b":Str)
  ·simp [h2]
  ·have e2:(w == ("b":Str))=false:=by simp [h2]
   rw [if_neg h2,e2]
   dsimp only
   by_cases h3:w=("x":Str)
   ·simp [h3]
   ·have e3:(w == ("x":Str))=false:=by simp [h3]
    rw [if_neg h3,e3]
section
variable {st Ps:MS}{t R:Nat}{lay:List cJ}{D:List Rw}{Q:MV->MS->Prop}{F:MF->aG->MS->Prop}
theorem EQ {i:Nat}{ns:List Nat}{k:Nat}(hi:st[i]?=some (.list (ay ns)))(h:Q (.bool (!decide (k∈ns))) st):ic true [.int (k:Int),.ref i] st Q:=Fo (λ_ _=>rfl) (JB rfl (dX hi (mH _)) (by rw [J2,agU]; exact h))
theorem IZ {n z A B:Nat}(W:Wf D)(T:Tr st t R lay D)(h0:aT D 0=none)(hn0:aT D n=none)(hn:0 < n)(hz:z < D.length)(hzr:n∈line D z)(hA:A < D.length/\0∈line D A)(hB:B < D.length/\0∈line D B)
  {c di f:Nat} {fs:List (Str×MV)} {ep:Nat} {x0:Option MV} (hc:st[c]?=some (.inst 313 fs)) (XD:fs.lookup ("ids":Str)=some (.ref di)) (hd:st[di]?=some (.dict [(("a":Str),.int (A:Int)),(("b":Str),.int (B:Int)),(("x":Str),.int (z:Int))] ep))
  {G:MS->Prop} {st1:MS} (hG:∀s,Kp (·=f) st1 s->G s) (hf:st.length<=f):∀(ws:List Str) (fd:List Nat) (Ps:MS) (a b:Option MV),st <+: Ps->Kp (·=f) st1 Ps->Ps[f]?=some (.list (ay fd))->(fd.Nodup/\∀k∈fd,k=A\/k=B) ->
   (∀PT a b,st <+: PT->PT[f]?=some (.list (ay (du A B ws fd)))->F .next [x0,some (.ref c),some (.ref t),some (.ref f),some (.int 0),a,b] PT) ->
   eh G (b8 5) gx (ws.map .str) [x0,some (.ref c),some (.ref t),some (.ref f),some (.int 0),a,b] Ps F:=by
 intro ws
 induction ws with
 | nil =>
  intro fd Ps a b hp hK hx hi h
  exact⟨hG _ hK,h _ _ _ hp hx⟩
 | cons w ws ih =>
  intro fd Ps a b hp hK hx hi h
  have hz0:¬(0:Nat)=n:=by walk_at "o"
  refine cS (hG _ hK) ?_
  walk_at "w"
  refine bE (aA hp hc) XD ?_
  refine J6 (aA hp hd) ?_
  walk_at "w"
  refine GL (aA hp hd) ?_
  rw [wW]
  have yes:∀k:Nat,look A B w=some k->k < D.length->0∈line D k->(aj (bX (dz (bT (ar fH (af 6) (tK .none))) (dz (bT (ar (ic true) (af 6) (af 3))) (dz (bT (ar bL (bf 524 gs (af 2) (ad (af 6) ak)) (af 4))) fV))) (aj (bY (cr .list bx (af 3) (ad (af 6) ak))) az) az) az) [x0,some (.ref c),some (.ref t),some (.ref f),some (.int 0),some (.str w),some (.int (k:Int))] Ps (uc G (b8 5) gx (ws.map .str) F):=by
   intro k hk Ro hk0
   have hT:=T.mono hp
   have QL:du A B (w::ws) fd=du A B ws (iD A B fd w):=rfl
   have QY:=zA (w:=w) hi
   have hsd:iD A B fd w=if k∈fd then fd else fd++[k]:=by unfold iD; rw [hk]
   rw [QL] at h
   rw [hsd] at h QY
   walk_at "w"
   refine EQ hx ?_
   by_cases hm:k∈fd
   ·rw [if_pos hm] at h QY
    rw [decide_eq_true hm]
    simp only [adM]
    walk_at "w"
    exact ih fd Ps _ _ hp hK hx hi h
   ·rw [if_neg hm] at h QY
    rw [decide_eq_false hm]
    simp only [adT]
    walk_at "w"
    refine bK (bj hT) ?_
    walk_at "w"
    refine rY W hT h0 Ro hk0 ?_
    walk_at "w"
    refine dG (λ_=>?_) λe=>absurd rfl e
    walk_at "w"
    refine dY (hx) ?_
    walk_at "w"
    have h2:=uk hi
    refine dF hx (by rw [bb]; exact aan h2 (by decide)) ?_
    rw [jP]
    walk_at "w"
    exact ih (fd++[k]) _ _ _ (mI hp hf) (hK.trans (.set rfl)) (abu (bP hx).1) QY h
  by_cases ha:w=("a":Str)
  ·rw [if_pos ha]
   exact yes A (by unfold look; rw [if_pos ha]) hA.1 hA.2
  rw [if_neg ha]
  by_cases hb:w=("b":Str)
  ·rw [if_pos hb]
   exact yes B (by unfold look; rw [if_neg ha,if_pos hb]) hB.1 hB.2
  rw [if_neg hb]
  have ZK:look A B w=none:=by unfold look; rw [if_neg ha,if_neg hb]
  have QL:du A B (w::ws) fd=du A B ws fd:=by
   show du A B ws (iD A B fd w)=_
   unfold iD
   rw [ZK]
  rw [QL] at h
  by_cases Sf:w=("x":Str)
  ·rw [if_pos Sf]
   have hT:=T.mono hp
   dsimp only [Option.getD_some]
   walk_at "w"
   refine EQ hx ?_
   by_cases hm:z∈fd
   ·rw [decide_eq_true hm]
    simp only [adM]
    walk_at "w"
    exact ih fd Ps _ _ hp hK hx hi h
   ·rw [decide_eq_false hm]
    simp only [adT]
    walk_at "w"
    refine bK (bj hT) ?_
    walk_at "w"
    refine rY W hT hn0 hz hzr ?_
    walk_at "w"
    refine dG (λe=>by walk_at "o") λe=>?_
    walk_at "w"
    exact ih fd Ps _ _ hp hK hx hi h
  ·rw [if_neg Sf]
   dsimp only [Option.getD_none]
   walk_at "w"
   exact ih fd Ps _ _ hp hK hx hi h
end
section
variable {st Ps:MS}{t R:Nat}{lay:List cJ}{D:List Rw}{Q:MV->MS->Prop}{F:MF->aG->MS->Prop}
structure Mh (D:List Rw)(n z A B:Nat):Prop where
 wf:Wf D
 tp:Tp D n
 le:n<=D.length
 h0:aT D 0=none
 hn0:aT D n=none
 hn:0 < n
 hz:z < D.length
 hzr:n∈line D z
 hA:A < n/\(aL D A).kind=("element":Str)
 hB:B < n/\(aL D B).kind=("element":Str)
theorem uC {n z A B:Nat}(X:Mh D n z A B)(T:Tr st t R lay D){c k di:Nat}{pos size:Int}{ep:Nat}(hc:c4 st c t k pos size (.ref di))(hk:k < n)
  (hd:st[di]?=some (.dict [(("a":Str),.int (A:Int)),(("b":Str),.int (B:Int)),(("x":Str),.int (z:Int))] ep)) {arg:MV} {ws:List Str}
  (V6:∀P1 (K:MV->MS->Prop),st <+: P1->(∀Ps f,P1 <+: Ps->P1.length<=f->Ps[f]?=some (.list (ws.map .str))->K (.ref f) Ps)->iB [arg,.ref t] P1 K)
  (h:∀Ps j,st <+: Ps->Ps[j]?=some (.list (ay (gw (du A B ws []))))->Q (.ref j) Ps):fR [arg,.ref c] st Q:=by
 refine bv λGG PD=>?_
 obtain⟨fs,Re,QX,Uu,_,_,Zf⟩:=hc
 refine PD ?_
 have Zf:=Zf (λq=>by cases q)
 have Qt:=X.le
 have l0:∀k,k < n->0∈line D k:=λk hk=>Hw X.wf X.tp hk
 refine cD rfl ?_
 walk_at "w"
 refine bE Re QX ?_
 walk_at "w"
 refine eD rfl ?_
 have U2:=aB (st:=st) (.list [])
 have T0:=T.mono U2
 walk_at "w"
 refine bK (bj T0) ?_
 walk_at "w"
 refine bE (aA U2 Re) Uu ?_
 walk_at "w"
 refine rY (r:=0) X.wf T0 X.h0 (by walk_at "o") (l0 k hk) ?_
 walk_at "w"
 refine V6 _ _ U2 λst1 g PY VL hg=>?_
 refine cb hg ?_
 have acJ:=U2.trans PY
 have hfx:st1[st.length]?=some (.list (ay [])):=aA PY (aH _)
 have hgf:g≠st.length:=by rw [abd,abr] at VL; walk_at "o"
 refine IZ (st:=st) X.wf T X.h0 X.hn0 X.hn X.hz X.hzr ⟨by have:=X.hA.1; walk_at "o",l0 A X.hA.1⟩ ⟨by have:=X.hB.1; walk_at "o",l0 B X.hB.1⟩ Re Zf hd (f:=st.length) (G:=λs=>s[g]?=some (.list (ws.map .str))) (st1:=st1) (λs hK=>hK.keep _ _ hgf hg) (abt _) ws [] st1 _ _ acJ .refl hfx ⟨by simp,by simp⟩ λP1 a b PW Rp=>?_
 have Sr:=mt (A:=A) (B:=B) ws [] ⟨by simp,by simp⟩
 walk_at "w"
 refine Gc X.wf X.tp (T.mono PW) X.le Rp (uk Sr) Sr.1 (λk hk=>?_) λQa j Qi hj=>?_
 ·rcases Sr.2 k hk with rfl | rfl
  ·exact⟨X.hA.1,_,c5 (by have:=X.hA.1; walk_at "o"),X.hA.2⟩
  ·exact⟨X.hB.1,_,c5 (by have:=X.hB.1; walk_at "o"),X.hB.2⟩
 walk_at "w"
 exact h Qa j (PW.trans Qi) hj
theorem KT {al c:Nat}{arg:MV}(ha:st[al]?=some (.list [arg]))(h:fR [arg,.ref c] st Q):bF [.str "id",.ref al,.ref c] st Q:=by
 refine cD rfl ?_
 walk_at "w"
 refine bH (λe=>absurd e (by decide +kernel)) λ_=>?_
 walk_at "w"
 refine bH (λe=>absurd e (by decide +kernel)) λ_=>?_
 walk_at "w"
 refine bH (λe=>absurd e (by decide +kernel)) λ_=>?_
 walk_at "w"
 refine bH (λe=>absurd e (by decide +kernel)) λ_=>?_
 walk_at "w"
 refine bH (λ_=>?_) λe=>absurd rfl e
 walk_at "w"
 refine bI (n:=0) ha rfl rfl (by simp) ?_
 walk_at "w"
 exact h
end
def JY (Q:MV->MS->Prop):List MV->MS->Prop:=λVs Pt=>Cg (h7 λi=>cE Pt[i]? λxs=>dT (fJ xs) λns=>(i6 ns).length<=2/\ns.length<=1000/\Q (.ref Pt.length) (Pt++[.list ((i6 ns).map .int)])) Vs
section
variable {st Ps:MS}{t R:Nat}{lay:List cJ}{D d:List Rw}{Q:MV->MS->Prop}{F:MF->aG->MS->Prop}{ρ:aG}
theorem My {r:TL}(h:r ρ st (JY Q)):qb r ρ st Q:=h
theorem LK {i:Nat}{xs:List MV}{ns:List Int}(hi:st[i]?=some (.list xs))(hx:fJ xs=some ns)(h2:(i6 ns).length<=2)(hl:ns.length<=1000)(h:Q (.ref st.length) (st++[.list ((i6 ns).map .int)])):JY Q [.ref i] st:=eG hi (lT hx ⟨h2,hl,h⟩)
theorem fb {G:MS->Prop}{b:TS}{is:List Nat}{xs:List MV}{Vs:List MV}(hG:G st)(hl:Vs.length=is.length)(h:b (fj ρ is Vs) st (uc G (iq is) b xs F)):eh G (iq is) b (.tup Vs::xs) ρ st F:=⟨hG,hl,h⟩
theorem uX:∀l:List Nat,ad8 (l.map λ(n:Nat)=>adJ (n:Int)) (l.map λ(n:Nat)=>adJ (n:Int))=true
 | []=>rfl
 | n::l=>by
  have:=uX l
  simp only [abj,ad8,this,zV]
  simp
theorem KB {g e:Nat}{l:List Nat}(hg:st[g]?=some (.list (ay l)))(he:st[e]?=some (.list (ay l)))(h:Q (.bool false) st):ia [.ref g,.ref e] st Q:=by
 refine AD (λ_ _=>rfl) (jI (dX hg (mH _)) (dX he (mH _)) ?_)
 have:=uX l
 rw [show abK (.list (l.map λ(n:Nat)=>adJ (n:Int))) (.list (l.map λ(n:Nat)=>adJ (n:Int)))=true by simpa only [abK] using this]
 exact h
noncomputable def mr (A B:Nat)(w:Str):MV:=match look A B w with | some k=>.int (k:Int) | none=>.none
theorem Id {A B:Nat}(w:Str):(([(("a":Str),.int (A:Int)),(("b":Str),.int (B:Int)),(("x":Str),.none)]:List (Str×MV)).lookup w).getD .none=mr A B w:=by
 rw [wW]
 unfold mr look
 by_cases h1:w=("a":Str)
 ·simp [h1]
 ·by_cases h2:w=("b":Str)
  ·rw [if_neg h1,if_pos h2,if_neg h1,if_pos h2]; rfl
  ·rw [if_neg h1,if_neg h2,if_neg h1,if_neg h2]
   split <;> rfl
noncomputable def pL (A B:Nat):MV->Bool:=λv=>match v with | .str w=>(look A B w).isSome | _=>false
noncomputable def fL (A B:Nat):MV->MV:=λv=>match v with | .str w=>mr A B w | _=>.none
theorem Cm {A B:Nat}(w:Str):pL A B (.str w)=(look A B w).isSome:=rfl
theorem Il {A B:Nat}(w:Str):fL A B (.str w)=mr A B w:=rfl
theorem wx {A B:Nat}:∀ws:List Str,((ws.map MV.str).filter (pL A B)).map (fL A B)=ay (ws.filterMap (look A B))
 | []=>rfl
 | w::ws=>by
  have:=wx (A:=A) (B:=B) ws
  rw [abj,List.filter_cons,List.filterMap_cons,Cm]
  cases e:look A B w with
  | none =>
   rw [if_neg (by simp)]
   exact this
  | some k =>
   have e2:mr A B w=.int (k:Int):=by unfold mr; rw [e]
   rw [if_pos (by simp),abj,Il,e2,this]
   rfl
theorem A7 {A B:Nat}(ws:List Str):(ws.filterMap (look A B)).length<=ws.length:=List.length_filterMap_le _ _
theorem uf {rl:Nat}{PJ:List Nat}(small:d.length<=200){c:TB}{e:TE}(hc:c=d3){rl':Nat}(LRs:LR st rl PJ d){ps:List Nat}{G:MS->Prop}(hG:∀s,st <+: s->G s)(hp:∀p∈ps,p < d.length)
  (he:e=ar aN (ar aN (af 1) (af 0)) (tK (.int 0))) {K:List MV->MS->Prop} (h:∀Ps,st <+: Ps->K (ay ps) Ps) {y:Option MV}:fq G (b8 0) c e (ay ps) (y::[some (.ref rl)]) [] st K:=by
 subst hc
 subst he
 refine d7 (st:=st) (p:=λ_=>true) (f:=id) (caps:=[some (.ref rl)]) hG (ay ps) (λv hv st1 K PY hK=>?_) (λv hv _ st1 K PY hK=>?_) y [] st _ (aaj _) λst1 PY=>?_
 ·walk_at "w"
  exact hK _ (aaj _)
 ·obtain⟨p,Ua,rfl⟩:=c9 hv
  walk_at "w"
  refine fk (n:=0) (LRs.mono PY) small (hp p Ua) rfl rfl (λW Pt=>rfl) ?_
  exact hK _ (aaj _)
 ·rw [abA,ad9.mpr (λ_ _=>rfl),af8]
  exact h _ PY
theorem BM {n z A B rl k c di Sl wi:Nat}{PJ:List Nat}{ep Tv:Nat}(X:Mh D n z A B)(T:Tr st t R lay D)(L:LR st rl PJ d)(hdn:d.length=n)(ae5:n<=200)(hc:c4 st c t k 1 1 (.ref di))(hk:k < n)
  (hd:st[di]?=some (.dict [(("a":Str),.int (A:Int)),(("b":Str),.int (B:Int)),(("x":Str),.int (z:Int))] ep))
  (Ue:st[Sl]?=some (.dict [(("a":Str),.int (A:Int)),(("b":Str),.int (B:Int)),(("x":Str),.none)] Tv))
  {arg:MV} {ws:List Str} (hw:st[wi]?=some (.list (ws.map .str))) (VK:ws.length<=1000)
  (V6:∀P1 (K:MV->MS->Prop),st <+: P1->(∀Ps f,P1 <+: Ps->P1.length<=f->Ps[f]?=some (.list (ws.map .str))->K (.ref f) Ps)->iB [arg,.ref t] P1 K)
  {v0 v1 v3 v4 v5 v6 v8 Sq RU:Option MV}
  (h:∀Ps a,st <+: Ps->F .next [v0,v1,some (.ref rl),v3,v4,v5,v6,some (.ref Sl),v8,some (.ref c),Sq,some arg,some (.ref wi),a] Ps) :
  ip [v0,v1,some (.ref rl),v3,v4,v5,v6,some (.ref Sl),v8,some (.ref c),Sq,some arg,some (.ref wi),RU] st F:=by
 walk_at "w"
 refine My ?_
 walk_at "w"
 refine eq rfl ?_
 walk_at "w"
 refine cb hw ?_
 refine dr (by rw [abg]; exact VK) ?_
 refine d7 (st:=st) (p:=pL A B) (f:=fL A B) (caps:=[some (.ref Sl)]) (λs hs=>aA hs hw) (ws.map .str) (λv hv st1 K PY hK=>?_) (λv hv ZW st1 K PY hK=>?_) none [] st _ (aaj _) λst1 PY=>?_
 ·obtain⟨w,hw,rfl⟩:=c9 hv
  walk_at "w"
  refine J6 (aA PY Ue) ?_
  walk_at "w"
  refine GL (aA PY Ue) ?_
  rw [Id]
  rw [Cm] at hK
  unfold mr
  cases e:look A B w with
  | none =>
   rw [e] at hK
   walk_at "w"
   exact hK _ (aaj _)
  | some k =>
   rw [e] at hK
   walk_at "w"
   exact hK _ (aaj _)
 ·obtain⟨w,hw,rfl⟩:=c9 hv
  rw [Cm] at ZW
  rw [Il] at hK
  walk_at "w"
  refine GL (aA PY Ue) ?_
  have hl:=Id (A:=A) (B:=B) w
  cases e:([(("a":Str),.int (A:Int)),(("b":Str),.int (B:Int)),(("x":Str),.none)]:List (Str×MV)).lookup w with
  | none =>
   rw [e] at hl
   unfold mr at hl
   rw [adB] at ZW
   obtain⟨k,hk⟩:=ZW
   rw [hk] at hl
   cases hl
  | some V =>
   rw [e] at hl
   have hl:V=mr A B w:=hl
   rw [hl]
   exact hK _ (aaj _)
 ·rw [abA,wx]
  have hg:=aH (st:=st1) (.list (ay (ws.filterMap (look A B))))
  have PW:=PY.trans (aB (st:=st1) (.list (ay (ws.filterMap (look A B)))))
  generalize st1++[MO.list (ay (ws.filterMap (look A B)))]=P1 at hg PW
  walk_at "w"
  refine LK (ns:=jQ (ws.filterMap (look A B))) hg (Cn _) (EF ws) ?_ ?_
  ·unfold jQ; rw [abg]; have:=A7 (A:=A) (B:=B) ws; walk_at "o"
  rw [A9]
  have acz:(jQ (gw (du A B ws []))).map MV.int=ay (gw (du A B ws [])):=by
   unfold jQ ay; rw [ab6]; rfl
  rw [acz]
  have Qi:=PW.trans (aB (st:=P1) (.list (ay (gw (du A B ws [])))))
  have Uw:=aH (st:=P1) (.list (ay (gw (du A B ws []))))
  generalize hdi:P1.length=due at Uw
  generalize P1++[MO.list (ay (gw (du A B ws [])))]=Qa at Qi Uw
  walk_at "w"
  have Rs:=Qi.trans (aB (st:=Qa) (.list [arg]))
  refine KT (aH _) ?_
  refine uC X (T.mono Rs) (hc.pre Rs) hk (aA Rs hd) (λRk K RD hK=>V6 Rk K (Rs.trans RD) hK) λRk j RD hj=>?_
  have ZZ:=(aB (st:=Qa) (.list [arg])).trans RD
  have ZB:=Rs.trans RD
  walk_at "w"
  refine eq rfl ?_
  walk_at "w"
  refine cb (aA ZZ Uw) ?_
  have Sr:=mt (A:=A) (B:=B) ws [] ⟨by simp,by simp⟩
  have h2:(gw (du A B ws [])).length<=2:=by
   have:=EF (A:=A) (B:=B) ws
   rw [A9] at this
   unfold jQ at this
   rwa [abg] at this
  refine dr (by rw [bb]; walk_at "o") ?_
  refine uf (d:=d) (rl:=rl) (rl':=0) (by walk_at "o") rfl (L.mono ZB) (λs hs=>aA (ZZ.trans hs) Uw) (λp hp=>?_) rfl λRt Sg=>?_
  ·rcases Sr.2 p (sP.mp hp) with rfl | rfl
   ·have:=X.hA.1; walk_at "o"
   ·have:=X.hB.1; walk_at "o"
  refine KB (aA (Sg.trans (aB _)) hj) (aH _) ?_
  walk_at "w"
  exact h _ _ ((ZB.trans Sg).trans (aB _))
end
section
variable {st Ps:MS}{j t R rl os:Nat}{lay:List cJ}{PJ:List Nat}{D d:List Rw}{ss so:List Nat}{Q:MV->MS->Prop}{F:MF->aG->MS->Prop}{ρ:aG}{k p:Nat}
noncomputable def gF (d:List Rw):List Nat:=(aca d.length).filter λk=>decide ((aL d k).kind=("element":Str))
theorem pp:k∈gF d↔k < d.length/\(aL d k).kind=("element":Str):=by
 unfold gF
 rw [adj,abZ,decide_eq_true_eq]
theorem Ek (small:d.length<=200)(T:LR st rl PJ d){K:List MV->MS->Prop}(h:∀Ps,st <+: Ps->K (ay (gF d)) Ps) :
  fq (λs=>s[rl]?=some (.list (PJ.map .ref))) (iq [0,1]) lh ll (lY 0 (PJ.map .ref)) [none,none] [] st K:=by
 have PL:(PJ.map MV.ref).length=d.length:=by rw [abg,T.len]
 rw [EV]
 refine xR (st:=st) (p:=λa _=>match a with | .int j=>decide ((aL d j.toNat).kind=("element":Str)) | _=>false) (f:=λa _=>a) (caps:=[]) (λs hs=>aA hs T.rows) _ ?_ ?_ none none [] st _ (aaj _) λs2 PW=>?_
 ·intro x hx s2 K PW q
  refine bv λGG PD=>?_
  obtain⟨j,V,rfl,hV⟩:=mW hx
  rw [afE] at *
  have hj:j < d.length:=by have:=(bP hV).1; rwa [PL] at this
  have T2:=T.mono PW
  obtain⟨i,Xb,UK,Wi⟩:=T2.at hj
  refine PD ?_
  rw [UK] at hV
  obtain rfl:=(abl hV).symm
  walk_at "w"
  refine bI Wi (n:=1) rfl rfl (by simp [eK]) ?_
  walk_at "w"
  exact q s2 (aaj _)
 ·intro x hx _ s2 K PW q
  obtain⟨j,V,rfl,hV⟩:=mW hx
  walk_at "w"
  exact q s2 (aaj _)
 ·have e1:=Cu (PJ.map MV.ref) 0
  rw [PL,zH] at e1
  have el:([]:List MV)++((i4 0 (PJ.map MV.ref)).filter λx=>(match x.1 with | .int j=>decide ((aL d j.toNat).kind=("element":Str)) | _=>false)).map (λx=>x.1)=ay (gF d):=by
   rw [abA]
   have e2:((i4 0 (PJ.map MV.ref)).filter λx=>(match x.1 with | .int j=>decide ((aL d j.toNat).kind=("element":Str)) | _=>false)).map (λx=>x.1)=(((i4 0 (PJ.map MV.ref)).map (·.1)).filter λa=>(match a with | .int j=>decide ((aL d j.toNat).kind=("element":Str)) | _=>false)):=by
    rw [aeq]; rfl
   rw [e2,e1]
   unfold ay gF
   rw [aeq]
   rfl
  rw [el]
  exact h s2 PW
theorem MB {T:TD}(h:T ρ st λfs Pt=>∀ep,Q (.ref Pt.length) (Pt++[.dict fs ep])):kU T ρ st Q:=h
theorem yS {k:Str}{a:TE}{r:TD}{K:List (Str×MV)->MS->Prop}(h:a ρ st λV Pt=>r ρ Pt λfs Pz=>K ((k,V)::fs) Pz):wy k a r ρ st K:=h
theorem MC {K:List (Str×MV)->MS->Prop}(h:K [] st):oC ρ st K:=h
noncomputable abbrev jU:Rw:=⟨"root","","","","",none⟩
noncomputable abbrev NO (n:Nat):Rw:=⟨"element","z","z","","",some n⟩
noncomputable abbrev lS (d:List Rw):List Rw:=d++[jU]++[NO d.length]
theorem pb (W:Wf d):Wf (d++[jU]):=W.snoc λp e=>by cases e
theorem wv (W:Wf d):Wf (lS d):=(pb W).snoc λp e=>by
 have e:some d.length=some p:=e
 obtain rfl:=abl e
 refine⟨by simp,?_,.inl ?_⟩
 ·rw [abd,abr,ady]; exact dN (pb W) _
 ·rw [dJ]
theorem AP (h:k < d.length):aL (lS d) k=aL d k:=by
 rw [cH (by simp; walk_at "o"),cH h]
theorem KM (h:k < d.length):aT (lS d) k=aT d k:=by
 rw [cR (by simp; walk_at "o"),cR h]
theorem yM:(lS d).length=d.length+2:=by simp
theorem LI (G:Gd d ss){A B:Nat}(hA:A∈gF d)(hB:B∈gF d):Mh (lS d) d.length (d.length+1) A B:=by
 have W:=wv G.wf
 have hA:=pp.mp hA
 have hB:=pp.mp hB
 have hn:aT (lS d) d.length=none:=by
  rw [cR (by simp),cz]
 refine⟨W,λk hk e=>?_,by rw [yM]; walk_at "o",?_,hn,G.ne,by rw [yM]; walk_at "o",?_,⟨hA.1,by rw [AP hA.1]; exact hA.2⟩,⟨hB.1,by rw [AP hB.1]; exact hB.2⟩⟩
 ·rw [KM hk] at e
  exact G.tp k hk e
 ·cases e:aT (lS d) 0 with
  | none=>rfl
  | some p=>have:=W.low 0 p e; walk_at "o"
 ·have e:aT (lS d) (d.length+1)=some d.length:=by
   have:=cz (d:=d++[jU]) (r:=NO d.length)
   rw [abd,abr] at this
   exact this
  rw [dE W e]
  exact .tail _ (dN W _)
theorem GY (h:h8 d):h8 (lS d):=(h.snoc (r:=jU) (show ("":Str).length<=100 by decide +kernel) (show ab7 ("root":Str)=true by decide +kernel)).snoc (show ("":Str).length<=100 by decide +kernel) (show ab7 ("element":Str)=true by decide +kernel)
theorem y6 (W:Wf d)(h:k < d.length):bi (lS d) k=bi d k:=by
 rw [wC (pb W) (wv W) (show ("element":Str)≠("text":Str) by decide +kernel) (by simp; walk_at "o"),wC W (pb W) (show ("root":Str)≠("text":Str) by decide +kernel) h]
theorem JA (W:Wf d){ks:List Nat}(h:∀k∈ks,k < d.length):ij (lS d) ks=ij d ks:=by
 unfold ij
 congr 1
 exact aeP λk hk=>by rw [y6 W (h k hk)]
noncomputable def gV (A B z:Nat):MV->MV:=λv=>match v with | .str w=>.tup [.str w,if w=("a":Str) then .int (A:Int) else if w=("b":Str) then .int (B:Int) else .int (z:Int)] | _=>.none
theorem Lz (A B z:Nat):iK ([MV.str ("a":Str),.str ("b":Str),.str ("x":Str)].map (gV A B z))=some [(("a":Str),.int (A:Int)),(("b":Str),.int (B:Int)),(("x":Str),.int (z:Int))]:=by
 have h1:("b":Str)≠("a":Str):=by decide +kernel
 have h2:("x":Str)≠("a":Str):=by decide +kernel
 have h3:("x":Str)≠("b":Str):=by decide +kernel
 simp only [abj,ad4,gV,if_pos,if_neg h1,if_neg h2,if_neg h3]
 rfl
theorem MP {l:List Nat}{n:Nat}{x:MV}(h:(ay l)[n]?=some x):∃v,x=.int ((v:Nat):Int)/\v∈l:=by
 obtain⟨v,hv,rfl⟩:=c9 (abk h)
 exact⟨v,rfl,hv⟩
end
section
variable {st Ps:MS}{j t R rl os:Nat}{lay:List cJ}{PJ:List Nat}{D d:List Rw}{ss so:List Nat}{Q:MV->MS->Prop}{F:MF->aG->MS->Prop}{ρ:aG}{k p:Nat}
noncomputable abbrev NF:List Str:=["b a"," a x ","a a q",""]
theorem EN {x:Str}(hl:x.length<=100000)(h:Q (.ref st.length) (st++[.list ((aeM x).map .str)])):lE [.str x] st Q:=⟨aan (by walk_at "o":x.length+2<=100002) (by decide),h⟩
theorem BB:∀l:List Str,(∀x∈l,x.length<=95)->(aeF (" ":Str) l).length<=96 * l.length
 | [],_=>by rw [fv]; show (Str.empty).length<=_; simp [Str.empty,Str.length]
 | [x],h=>by rw [fv]; show x.length<=_; have:=h x (.head _); simp; walk_at "o"
 | x::y::l,h=>by
  have h1:=h x (.head _)
  have h2:=BB (y::l) λz hz=>h z (.tail _ hz)
  rw [fv] at h2 ⊢
  show (x++(" ":Str)++ahP (" ":Str) (y::l)).length<=_
  rw [agP,agP,show (" ":Str).length=1 by decide +kernel]
  simp only [abz] at h2 ⊢
  walk_at "o"
theorem IJ {i:Nat}{l:List Str}(hi:st[i]?=some (.list (l.map .str)))(h1:∀x∈l,x.length<=95)(h2:l.length<=19)(h:Q (.str (aeF (" ":Str) l)) st):qx [.str " ",.ref i] st Q:=by
 refine eG hi (lT (xr _) ⟨?_,h⟩)
 have:=HV l 95 h1
 rw [show (" ":Str).length=1 by decide +kernel]
 walk_at "o"
theorem IA {at' A B c di Sl sm pl:Nat}{ep Tv:Nat}{som:List Nat}(B2:Bs st j t R rl os lay PJ (lS d) d so)(G:Gd d ss)(ZF:d.length<=19)(hat:at' < d.length)(hA:A∈gF d)(hB:B∈gF d)
  (hc:c4 st c t at' 1 1 (.ref di))
  (hd:st[di]?=some (.dict [(("a":Str),.int (A:Int)),(("b":Str),.int (B:Int)),(("x":Str),.int ((d.length+1:Nat):Int))] ep))
  (Ue:st[Sl]?=some (.dict [(("a":Str),.int (A:Int)),(("b":Str),.int (B:Int)),(("x":Str),.none)] Tv))
  (Rl:st[sm]?=some (.list (ay som))) (Rc:∀k∈som,k < d.length) (QG:som.length<=19) {PX:Str} (TJ:PX∈NF) {v6 v8 Rj Sy RU:Option MV} (h:∀Ps,Q (.bool true) Ps) :
  (aj (eO (b9 (be (ad (bl (ad (af 10) (ad (cr .str lE (af 10) ak) ak))) (ad (bl (ad (c7 1 [2] (b9 (af 4)) (b8 0) d3 lz) (ad (cr .str lE (cr .str qx (tK (.str (" ":Str))) (ad (c7 1 [2] (b9 (af 4)) (b8 0) d3 lC) ak)) ak) ak))) ak)))) (iq [11,12]) ip)
 (aj (aS (tK (.bool true)))
 az)) [some (.ref j),some (.ref t),some (.ref rl),some (.int (at':Int)),some (.ref sm),some (.ref pl),v6,some (.ref Sl),v8,some (.ref c),some (.str PX),Rj,Sy,RU] st (fa Q):=by
 have X:=LI G hA hB
 have small:d.length<=200:=by walk_at "o"
 have hs:=G.short
 have Zo:kj PX:=pv _ TJ (by decide +kernel)
 have hal:PX.length<=100:=o9 _ TJ (by decide +kernel)
 have Up:∀k∈som,kj (bi d k)/\(bi d k).length<=95:=λk hk=>by
  have:=CO G.wf G.ok (by walk_at "o") (Rc k hk)
  exact⟨this.2.1,this.1⟩
 walk_at "w"
 refine iJ ?_
 walk_at "w"
 refine EN (by walk_at "o") ?_
 have PY:=aB (st:=st) (.list ((aeM PX).map .str))
 have hw1:=aH (st:=st) (.list ((aeM PX).map .str))
 generalize hwi1:st.length=wi1 at hw1
 generalize st++[MO.list ((aeM PX).map .str)]=st1 at PY hw1
 walk_at "w"
 refine eq rfl ?_
 walk_at "w"
 refine cb (aA PY Rl) ?_
 refine dr (by rw [bb]; walk_at "o") ?_
 refine uf (d:=d) (rl:=rl) (rl':=0) small rfl (B2.lr.mono PY) (λs hs=>aA (PY.trans hs) Rl) Rc rfl λP1 PW=>?_
 have Qi:=(PY.trans PW).trans (aB (st:=P1) (.list (ay som)))
 have Va:=aH (st:=P1) (.list (ay som))
 have hw3:=aA (PW.trans (aB (st:=P1) (.list (ay som)))) hw1
 generalize hali:P1.length=al at Va
 generalize P1++[MO.list (ay som)]=Qa at Qi Va hw3
 walk_at "w"
 refine iJ ?_
 walk_at "w"
 refine eq rfl ?_
 walk_at "w"
 refine cb (aA Qi Rl) ?_
 refine dr (by rw [bb]; walk_at "o") ?_
 refine d7 (st:=Qa) (p:=λ_=>true) (f:=λv=>match v with | .int j=>.str (bi d j.toNat) | _=>.none) (caps:=[some (.ref rl)]) (λs hs=>aA (Qi.trans hs) Rl) (ay som) (λv hv st1 K PY hK=>?_) (λv hv _ st1 K PY hK=>?_) none [] Qa _ (aaj _) λRK Rs=>?_
 ·walk_at "w"
  exact hK _ (aaj _)
 ·obtain⟨p,Ua,rfl⟩:=c9 hv
  walk_at "w"
  exact ou G.wf small (B2.lr.mono (Qi.trans PY)) hs (Rc p Ua) hK
 ·have el:[]++((ay som).filter λ_=>true).map (λv=>match v with | .int j=>MV.str (bi d j.toNat) | _=>.none)=(som.map λk=>bi d k).map .str:=by
   rw [abA,ad9.mpr (λ_ _=>rfl)]
   unfold ay
   rw [ab6,ab6]
   rfl
  rw [el]
  have RD:=(Qi.trans Rs).trans (aB (st:=RK) (.list ((som.map λk=>bi d k).map .str)))
  have YV:=aH (st:=RK) (.list ((som.map λk=>bi d k).map .str))
  have Xl:=Rs.trans (aB (st:=RK) (.list ((som.map λk=>bi d k).map .str)))
  have QY:∀x∈som.map (λk=>bi d k),kj x/\x.length<=95:=λx hx=>by
   obtain⟨k,hk,rfl⟩:=c9 hx
   exact Up k hk
  generalize RK.length=ji at YV
  generalize RK++[MO.list ((som.map λk=>bi d k).map .str)]=Rk at RD YV Xl
  walk_at "w"
  refine IJ YV (λx hx=>(QY x hx).2) (by rw [abg]; exact QG) ?_
  walk_at "w"
  refine iJ ?_
  walk_at "w"
  have UN:=BB (som.map λk=>bi d k) λx hx=>(QY x hx).2
  rw [abg] at UN
  have hja:kj (aeF (" ":Str) (som.map λk=>bi d k)):=Jc λx hx=>(QY x hx).1
  have hwj:aeM (aeF (" ":Str) (som.map λk=>bi d k))=(ij d som).map nZ:=by
   rw [Cj _ hja,CZ,ab6]
   rfl
  generalize aeF (" ":Str) (som.map λk=>bi d k)=J at UN hja hwj
  refine EN (by walk_at "o") ?_
  rw [hwj]
  have Sg:=RD.trans (aB (st:=Rk) (.list (((ij d som).map nZ).map .str)))
  have Zn:=aH (st:=Rk) (.list (((ij d som).map nZ).map .str))
  have Y0:=aA (Xl.trans (aB (st:=Rk) (.list (((ij d som).map nZ).map .str)))) Va
  have aai:=aA (Xl.trans (aB (st:=Rk) (.list (((ij d som).map nZ).map .str)))) hw3
  generalize Rk.length=wi2 at Zn
  generalize Rk++[MO.list (((ij d som).map nZ).map .str)]=Rt at Sg Zn Y0 aai
  walk_at "w"
  have RE:=Sg.trans (aB (st:=Rt) (.list [.tup [.str PX,.ref wi1],.tup [.ref al,.ref wi2]]))
  have Yc:=aB (st:=Rt) (.list [.tup [.str PX,.ref wi1],.tup [.ref al,.ref wi2]])
  have TZ:=aH (st:=Rt) (.list [.tup [.str PX,.ref wi1],.tup [.ref al,.ref wi2]])
  refine cb TZ ?_
  generalize Rt++[MO.list [MV.tup [.str PX,.ref wi1],.tup [.ref al,.ref wi2]]]=Sb at RE TZ Yc
  generalize Rt.length=li at TZ
  refine fb TZ rfl ?_
  have Yd:=Cj PX Zo
  refine BM (st:=Sb) (d:=d) (n:=d.length) (z:=d.length+1) (ws:=aeM PX) X (B2.tr.mono RE) (B2.lr.mono RE) rfl small (hc.pre RE) hat (aA RE hd) (aA RE Ue) (aA Yc aai) ?_ (λQ4 K RP hK=>?_) λQ4 a RP=>?_
  ·have:=yN (tl PX)
   rw [ci] at hal
   rw [Yd,abg]; walk_at "o"
  ·refine yV Zo (by walk_at "o") λSx g Tw VL hg=>hK Sx g Tw VL ?_
   rw [Yd]; exact hg
  walk_at "w"
  have UC:=RE.trans RP
  refine fb (aA RP TZ) rfl ?_
  refine BM (st:=Q4) (d:=d) (n:=d.length) (z:=d.length+1) (ws:=(ij d som).map nZ) X (B2.tr.mono UC) (B2.lr.mono UC) rfl small (hc.pre UC) hat (aA UC hd) (aA UC Ue) (aA (Yc.trans RP) Zn) ?_ (λSx K Tw hK=>?_) λSx a Tw=>?_
  ·have:=I8 (d:=d) (ks:=som) λk hk=>(Up k hk).2
   rw [abg]; walk_at "o"
  ·refine ww (wv G.wf) (B2.tr.mono (UC.trans Tw)) (GY hs) (aA ((Yc.trans RP).trans Tw) Y0) (λk hk=>by rw [yM]; have:=Rc k hk; walk_at "o") (λk hk=>by rw [y6 G.wf (Rc k hk)]; exact Up k hk) (by walk_at "o") λRW g Rn VL hg=>hK RW g Rn VL ?_
   rw [JA G.wf Rc] at hg
   exact hg
  walk_at "w"
  refine xF (aA (RP.trans Tw) TZ) ?_
  walk_at "w"
  exact h _
end
section
variable {st Ps:MS}{j t R rl os:Nat}{lay:List cJ}{PJ:List Nat}{D d:List Rw}{ss so:List Nat}{Q:MV->MS->Prop}{F:MF->aG->MS->Prop}{ρ:aG}{k p:Nat}
theorem LS {a:TE}{K:List MV->(MS->Prop)->MS->Prop}(h:a ρ st (AY K)):FV a ρ st K:=h
theorem JN {i:Nat}{fs:List (Str×MV)}{ep:Nat}{K:List MV->(MS->Prop)->MS->Prop}(hi:st[i]?=some (.dict fs ep))(h:K (fs.map λx=>.str x.1) (λst=>st[i]?=some (.dict fs ep)) st):AY K (.ref i) st:=by
 show Cw st[i]? _; rw [hi]; exact h
theorem JJ {A B Sl:Nat}{Tv:Nat}(T:LR st rl PJ d)(small:d.length<=200)(hA:A < d.length)(hB:B < d.length){z:Nat}
  (Ue:st[Sl]?=some (.dict [(("a":Str),.int (A:Int)),(("b":Str),.int (B:Int)),(("x":Str),.none)] Tv)) {K:List MV->MS->Prop}
  (h:∀Ps,st <+: Ps->K ([MV.str ("a":Str),.str ("b":Str),.str ("x":Str)].map (gV A B z)) Ps) :
  fq (λs=>s[Sl]?=some (.dict [(("a":Str),.int (A:Int)),(("b":Str),.int (B:Int)),(("x":Str),.none)] Tv)) (b8 0) d3 im [.str ("a":Str),.str ("b":Str),.str ("x":Str)] [none,some (.int (z:Int)),some (.ref Sl),some (.ref rl)] [] st K:=by
 have hba:("b":Str)≠("a":Str):=by decide +kernel
 have hxa:("x":Str)≠("a":Str):=by decide +kernel
 have hxb:("x":Str)≠("b":Str):=by decide +kernel
 refine d7 (st:=st) (p:=λ_=>true) (f:=gV A B z) (caps:=[some (.int (z:Int)),some (.ref Sl),some (.ref rl)]) (λs hs=>aA hs Ue) _ (λv hv st1 K PY hK=>?_) (λv hv _ st1 K PY hK=>?_) none [] st _ (aaj _) λst1 PY=>?_
 ·walk_at "w"
  exact hK _ (aaj _)
 ·have acq:=aA PY Ue
  have sub:∀(w:Str) (V:MV) (K:MV->MS->Prop),([(("a":Str),.int (A:Int)),(("b":Str),.int (B:Int)),(("x":Str),.none)]:List (Str×MV)).lookup w=some V->K V st1->aN [.ref Sl,.str w] st1 K:=by
   intro w V K hl hK
   exact GL acq (lT hl hK)
  have Uf:=hK st1 (aaj _)
  simp only [abB,abx,or_false] at hv
  unfold im
  rcases hv with rfl | rfl | rfl
  ·have hl:([(("a":Str),.int (A:Int)),(("b":Str),.int (B:Int)),(("x":Str),.none)]:List (Str×MV)).lookup ("a":Str)=some (.int (A:Int)):=by rw [wW,if_pos rfl]
   unfold gV at Uf
   simp only [if_true] at Uf
   walk_at "w"
   refine sub _ _ _ hl ?_
   walk_at "w"
   refine sub _ _ _ hl ?_
   walk_at "w"
   refine fk (n:=0) (T.mono PY) small hA rfl rfl (λW Pt=>rfl) ?_
   walk_at "w"
   exact Uf
  ·have hl:([(("a":Str),.int (A:Int)),(("b":Str),.int (B:Int)),(("x":Str),.none)]:List (Str×MV)).lookup ("b":Str)=some (.int (B:Int)):=by rw [wW,if_neg hba,if_pos rfl]
   unfold gV at Uf
   simp only [if_neg hba,if_true] at Uf
   walk_at "w"
   refine sub _ _ _ hl ?_
   walk_at "w"
   refine sub _ _ _ hl ?_
   walk_at "w"
   refine fk (n:=0) (T.mono PY) small hB rfl rfl (λW Pt=>rfl) ?_
   walk_at "w"
   exact Uf
  ·have hl:([(("a":Str),.int (A:Int)),(("b":Str),.int (B:Int)),(("x":Str),.none)]:List (Str×MV)).lookup ("x":Str)=some .none:=by rw [wW,if_neg hxa,if_neg hxb,if_pos rfl]
   unfold gV at Uf
   simp only [if_neg hxa,if_neg hxb] at Uf
   walk_at "w"
   refine sub _ _ _ hl ?_
   walk_at "w"
   exact Uf
 ·have:=h st1 PY
  rw [abA,ad9.mpr (λ_ _=>rfl)]
  exact this
theorem wS {at' sm:Nat}{som:List Nat}(B0:Bs st j t R rl os lay PJ d d so)(G:Gd d ss)(hE:gz d)(ZF:d.length<=19)(hat:at' < d.length)
  (Rl:st[sm]?=some (.list (ay som))) (Wa:sm≠j) (Xc:¬cu t R lay sm) (Rc:∀k∈som,k < d.length) (QG:som.length<=19) (h:∀Ps,Q (.bool true) Ps) :
  eC [.ref j,.ref t,.ref rl,.int (at':Int),.ref sm] st Q:=by
 have small:d.length<=200:=by walk_at "o"
 have UN:j < st.length:=B0.lt (by walk_at "m")
 refine cD rfl ?_
 walk_at "w"
 refine eq rfl ?_
 refine EY ?_
 walk_at "w"
 refine Bk B0.lr.rows ?_
 refine dr (by rw [vF,abg,B0.lr.len]; walk_at "o") ?_
 refine Ek small B0.lr λst1 PY=>?_
 have PW:=PY.trans (aB (st:=st1) (.list (ay (gF d))))
 have WQ:=aH (st:=st1) (.list (ay (gF d)))
 have Wq:st1.length≠j:=by have:=PY.length_le; walk_at "o"
 have XV:¬cu t R lay st1.length:=λq=>by
  have:=B0.tr.lt B0.ly q
  have:=PY.length_le
  walk_at "o"
 generalize st1.length=pl at WQ Wq XV
 generalize st1++[MO.list (ay (gF d))]=P1 at PW WQ
 have B2:=B0.pre PW
 have ZJ:=aA PW Rl
 walk_at "w"
 refine bK (bj B2.tr) ?_
 walk_at "w"
 refine bK (bj B2.tr) ?_
 walk_at "w"
 refine pO B2.tr B2.ly (pb G.wf) (by walk_at "o") λQa T3 K3=>?_
 have B3:=B2.grow T3 K3
 have Zc:=K3.keep _ _ Xc ZJ
 have Z0:=K3.keep _ _ XV WQ
 have aak:¬cu t R (lay++[dt P1.length]) sm:=cu.snoc Xc (bP ZJ).1
 have Yy:¬cu t R (lay++[dt P1.length]) pl:=cu.snoc XV (bP WQ).1
 walk_at "w"
 refine lW B3.tr B3.ly (wv G.wf) (by simp; walk_at "o") λRK T4 K4=>?_
 have B4:=B3.grow T4 K4
 have acE:=K4.keep _ _ aak Zc
 have aab:=K4.keep _ _ Yy Z0
 generalize lay++[dt P1.length]++[dt Qa.length]=lay4 at B4
 clear B3 B2 T3 T4 K3 K4 aak Yy Zc Z0
 have Ze:0 < (ay (gF d)).length:=by
  rw [bb]
  obtain⟨k,hk⟩:=hE
  exact ahg (pp.mpr hk)
 have XY:(ay (gF d)).length < 1000:=by
  rw [bb]
  have:=e7 d λk=>decide ((aL d k).kind=("element":Str))
  unfold gF
  walk_at "o"
 rw [show (d++[jU]).length=d.length+1 by simp]
 walk_at "w"
 refine MB ?_
 refine yS ?_
 walk_at "w"
 refine fK aab Wq Ze XY B4.src λRk n x hx E5 S5=>?_
 obtain⟨A,rfl,hA⟩:=MP hx
 have B5:=B4.ext E5 S5
 have acD:=E5.keep _ _ Wq aab
 have act:=E5.keep _ _ Wa acE
 refine yS ?_
 walk_at "w"
 refine fK acD Wq Ze XY S5 λRt n x hx E6 S6=>?_
 obtain⟨B,rfl,hB⟩:=MP hx
 have B6:=B5.ext E6 S6
 have acO:=E6.keep _ _ Wa act
 refine yS ?_
 walk_at "w"
 refine MC ?_
 intro Tv
 have RE:=aB (st:=Rt) (.dict [(("a":Str),.int (A:Int)),(("b":Str),.int (B:Int)),(("x":Str),.none)] Tv)
 have Vw:=aH (st:=Rt) (.dict [(("a":Str),.int (A:Int)),(("b":Str),.int (B:Int)),(("x":Str),.none)] Tv)
 have htj:Rt.length≠j:=by have:=B6.lt (x:=j) (by walk_at "m"); walk_at "o"
 generalize Rt.length=Sl at Vw htj
 generalize Rt++[MO.dict [(("a":Str),MV.int (A:Int)),(("b":Str),.int (B:Int)),(("x":Str),.none)] Tv]=Sb at RE Vw
 have B7:=B6.pre RE
 have ac1:=aA RE acO
 have hA':=pp.mp hA
 have hB':=pp.mp hB
 walk_at "w"
 refine eq rfl ?_
 refine LS ?_
 walk_at "w"
 refine JN Vw ?_
 refine dr (by walk_at "m") ?_
 refine JJ (A:=A) (B:=B) (z:=d.length+1) B7.lr small hA'.1 hB'.1 Vw λQ4 RP=>?_
 have XJ:=RP.trans (aB (st:=Q4) (.list ([MV.str ("a":Str),.str ("b":Str),.str ("x":Str)].map (gV A B (d.length+1)))))
 have Zr:=aH (st:=Q4) (.list ([MV.str ("a":Str),.str ("b":Str),.str ("x":Str)].map (gV A B (d.length+1))))
 generalize Q4.length=gi at Zr
 generalize Q4++[MO.list ([MV.str ("a":Str),.str ("b":Str),.str ("x":Str)].map (gV A B (d.length+1)))]=Sx at XJ Zr
 walk_at "w"
 refine eG Zr (lT (Lz ..) ?_)
 refine abi (show ([("a":Str),("b":Str),("x":Str)]:List Str).Nodup by decide +kernel) (abi (show 3<=100 by decide) ?_)
 intro ep
 have Rn:=XJ.trans (aB (st:=Sx) (.dict [(("a":Str),.int (A:Int)),(("b":Str),.int (B:Int)),(("x":Str),.int ((d.length+1:Nat):Int))] ep))
 have Xg:=aH (st:=Sx) (.dict [(("a":Str),.int (A:Int)),(("b":Str),.int (B:Int)),(("x":Str),.int ((d.length+1:Nat):Int))] ep)
 have hdj:Sx.length≠j:=by
  have:=(B7.pre XJ).lt (x:=j) (by walk_at "m")
  walk_at "o"
 generalize Sx.length=di at Xg hdj
 generalize Sx++[MO.dict [(("a":Str),MV.int (A:Int)),(("b":Str),.int (B:Int)),(("x":Str),.int ((d.length+1:Nat):Int))] ep]=RW at Rn Xg
 have B10:=B7.pre Rn
 walk_at "w"
 refine fk (n:=0) B10.lr small hat rfl rfl (λW Pt=>rfl) ?_
 walk_at "w"
 refine Hv λRO R1 Wo=>?_
 have V8:=B10.pre R1
 have So:RW.length≠j:=by
  have:=B10.lt (x:=j) (by walk_at "m")
  walk_at "o"
 generalize RW.length=c at Wo So
 walk_at "w"
 refine fK (j:=j) (aH _) (by have:=V8.lt (x:=j) (by walk_at "m"); walk_at "o") (by walk_at "m") (by walk_at "m") (V8.src.pre (aB _)) λUB n x hx E12 S12=>?_
 refine bv λGG PD=>?_
 obtain⟨PX,rfl,TJ⟩:=ph (xs:=["b a"," a x ","a a q",""]) hx
 have SZ:=aB (st:=RO) (.list [.str "b a",.str " a x ",.str "a a q",.str ""])
 have Yg:=(V8.pre SZ).ext E12 S12
 have kk:∀(i:Nat) (o:MO),i≠j->RO[i]?=some o->UB[i]?=some o:=λi o hi e=>E12.keep _ _ hi (aA SZ e)
 obtain⟨fs,Re,QX⟩:=Wo
 refine PD ?_
 walk_at "w"
 exact IA (pl:=pl) Yg G ZF hat hA hB ⟨fs,kk _ _ So Re,QX⟩ (kk _ _ hdj (aA R1 Xg)) (kk _ _ htj (aA (Rn.trans R1) Vw)) (kk _ _ Wa (aA (Rn.trans R1) ac1)) Rc QG TJ h
end
section
variable {st Ps:MS}{t R:Nat}{lay:List cJ}{D d:List Rw}{Q:MV->MS->Prop}{F:MF->aG->MS->Prop}{ρ:aG}{k p q:Nat}{V:MV}
theorem Cs {C:Addr}{name:Str}{i n:Nat}{fs:List (Str×MV)}(h0:ρ[i]?=some (some (.ref n)))(hn:st[n]?=some (.inst C fs))(hl:fs.length < 100)(h:F .next ρ (st.set n (.inst C (kz name V fs)))):wT C name (af i) ρ F V st:=iF h0 (GF hn ⟨hl,h⟩)
theorem Gl {d d':List Rw}(hl:d.length=d'.length)(h1:∀j,aT d j=aT d' j)(h2:∀j,bz d j=bz d' j)(i:Nat):bG d i=bG d' i/\cZ d i=cZ d' i:=by
 unfold bG cZ
 rw [hl]
 exact⟨afO λj _=>by rw [h1,h2],afO λj _=>by rw [h1,h2]⟩
noncomputable abbrev Gg (r:Rw)(nm v:Str):Rw:={ r with name:=nm,val:=v }
theorem Kz {nm v:Str}(hq:q < d.length)(j:Nat):aT (d.set q (Gg (aL d q) nm v)) j=aT d j:=by
 unfold aT
 by_cases h:q=j
 ·subst h
  rw [abu hq,c5 hq]; rfl
 ·rw [abh h]
theorem Jx {nm v:Str}(hq:q < d.length)(j:Nat):bz (d.set q (Gg (aL d q) nm v)) j=bz d j:=by
 unfold bz
 by_cases h:q=j
 ·subst h
  rw [abu hq,c5 hq]
 ·rw [abh h]
theorem km {nm u lc v:Str}(T:Tr st t R lay d)(Y:Ly t R lay)(hp:p < d.length)(he:(aL d p).kind=("element":Str)) (hat:cZ d p=[q])
  (hm:(aL d q).uri=u/\(aL d q).loc=lc)
  (h:∀Ps,Tr Ps t R lay (d.set q (Gg (aL d q) nm v))->Kp (cu t R lay) st Ps->Q (.int (q:Int)) Ps) :
  b0 [.ref t,.int (p:Int),.str nm,.str u,.str lc,.str v] st Q:=by
 have hq:q < d.length:=(vR.mp (by rw [hat]; exact .head _:q∈cZ d p)).1
 have WS:=c5 hp
 refine bv λGG PD=>?_
 obtain⟨lp,X3⟩:=T.at WS
 have VV:=c5 hq
 obtain⟨l,hl⟩:=T.at VV
 obtain⟨y0,y1,y2,y3⟩:=Y.at hl
 refine PD ?_
 have small:=T.small
 have len:=T.len
 have PR:=(bP (T.node q l _ hl VV).1).1
 have Un:=Y.tR
 refine cD rfl ?_
 walk_at "w"
 refine bK (bj T) ?_
 walk_at "w"
 refine qT T WS X3 he ?_
 walk_at "w"
 refine bE (T.node p lp _ X3 WS).1 rfl ?_
 refine cb (T.node p lp _ X3 WS).2.2.1 ?_
 rw [hat]
 refine cS (by have:=(T.node p lp _ X3 WS).2.2.1; rw [hat] at this; exact this) ?_
 walk_at "w"
 refine bE T.tree rfl ?_
 walk_at "w"
 refine bI (n:=q) (x:=.ref l.i) T.rows rfl (by rw [abF,hl]; rfl) (by simp; walk_at "o") ?_
 walk_at "w"
 refine bE (T.node q l _ hl VV).1 rfl ?_
 walk_at "w"
 refine dG (λ_=>?_) λe=>absurd hm.1 e
 walk_at "w"
 refine bE (T.node q l _ hl VV).1 rfl ?_
 walk_at "w"
 refine dG (λ_=>?_) λe=>absurd hm.2 e
 walk_at "w"
 refine BZ ?_
 walk_at "w"
 refine Cs rfl (T.node q l _ hl VV).1 (by simp [d6]) ?_
 walk_at "w"
 refine BZ ?_
 walk_at "w"
 refine Cs rfl (abu PR) (by exact of_decide_eq_true rfl) ?_
 rw [List.set_set]
 walk_at "w"
 refine h _ ⟨?_,?_,?_,?_,λk l' r' e1 e2=>?_⟩ ?_
 ·rw [abh (by walk_at "o")]; exact T.tree
 ·rw [abh (by walk_at "o")]; exact T.rows
 ·rw [aeV]; exact T.len
 ·rw [aeV]; exact T.small
 ·obtain⟨z0,z1,z2,z3⟩:=Y.at e1
  obtain⟨c1,c2⟩:=Gl (d:=d.set q (Gg (aL d q) nm v)) (d':=d) (by rw [aeV]) (Kz hq) (Jx hq) k
  rw [c1,c2]
  by_cases hk:q=k
  ·subst hk
   rw [hl] at e1
   obtain rfl:=abl e1
   rw [abu hq] at e2
   obtain rfl:=abl e2
   obtain⟨a,b,c,e⟩:=T.node q l _ hl VV
   refine⟨?_,?_,?_,?_⟩
   ·rw [abu PR]; rfl
   ·rw [abh (by walk_at "o")]; exact b
   ·rw [abh (by walk_at "o")]; exact c
   ·rw [abh (by walk_at "o")]; exact e
  ·rw [abh hk] at e2
   have:=Y.apart e1 hl (λq=>hk q.symm)
   obtain⟨a,b,c,e⟩:=T.node k l' r' e1 e2
   refine⟨?_,?_,?_,?_⟩ <;> rw [abh (by walk_at "o")] <;> assumption
 ·exact .set (.inr (.inr ⟨l,abk hl,abt _,by walk_at "o"⟩))
theorem Ex {a b:Bool}(h:Q (.bool (a != b)) st):ia [.bool a,.bool b] st Q:=AD (λ_ _=>rfl) (jI rfl rfl (by cases a <;> cases b <;> exact h))
theorem zh {al c t k:Nat}{PX:Str}{pos size:Int}{PJ:MV}(ha:st[al]?=some (.list [.str PX]))(hc:c4 st c t k pos size PJ)(h:qE [.str PX,.ref c] st Q):bF [.str "lang",.ref al,.ref c] st Q:=by
 obtain⟨fs,Re,QX,Uu,_⟩:=hc
 refine cD rfl ?_
 walk_at "w"
 refine bH (λe=>absurd e (by decide +kernel)) λ_=>?_
 walk_at "w"
 refine bH (λe=>absurd e (by decide +kernel)) λ_=>?_
 walk_at "w"
 refine bH (λe=>absurd e (by decide +kernel)) λ_=>?_
 walk_at "w"
 refine bH (λe=>absurd e (by decide +kernel)) λ_=>?_
 walk_at "w"
 refine bH (λe=>absurd e (by decide +kernel)) λ_=>?_
 walk_at "w"
 refine bH (λ_=>?_) λe=>absurd rfl e
 walk_at "w"
 refine bI (n:=0) ha rfl rfl (by walk_at "m") ?_
 walk_at "w"
 refine bE Re QX ?_
 refine qY ?_
 walk_at "w"
 exact h
noncomputable abbrev OH:Str:=("http://www.w3.org/XML/1998/namespace":Str)
noncomputable abbrev Nb:Rw:=⟨"element","a","a","","",some 0⟩
noncomputable abbrev OG (v:Str):Rw:=⟨"attribute","xml:lang","lang",OH,v,some 1⟩
noncomputable abbrev zj (v:Str):List Rw:=[]++[jU]++[Nb]++[OG v]
theorem BO:Wf ([]++[jU]):=CV.snoc λp e=>by cases e
theorem Bo:Wf ([]++[jU]++[Nb]):=BO.snoc λp e=>by
 have e:some 0=some p:=e
 obtain rfl:=abl e
 exact⟨by decide,dN BO 0,.inl rfl⟩
theorem Ic (v:Str):Wf (zj v):=Bo.snoc λp e=>by
 have e:some 1=some p:=e
 obtain rfl:=abl e
 exact⟨by decide,dN Bo 1,.inr rfl⟩
theorem G9 (v:Str):oQ (zj v):=by
 intro k hk e
 have hk:k < 3:=hk
 match k,hk with
 | 0,_=>exact absurd e (show ("":Str)≠eE by decide +kernel)
 | 1,_=>exact absurd e (show ("a":Str)≠eE by decide +kernel)
 | 2,_=>exact (decide_eq_true (rfl:cw=cw):decide (cw=cw)=true)
theorem DX {c:Nat}{v:Str}{b:Bool}(T:Tr st t R lay (zj v))(hc:c4 st c t 1 1 1 .none)(hl:lang (zj v) 1=some 2)(hv:(abP v).length<=100)(hb:Bc v ("en":Str)=b) {al:Nat} (ha:st[al]?=some (.list [.str "en"]))
  (h:∀Ps,st <+: Ps->Q (.bool b) Ps):bF [.str "lang",.ref al,.ref c] st Q:=by
 refine zh ha hc ?_
 refine u7 (Ic v) (G9 v) T (k:=1) (show 1 < 3 by decide) hc (by decide +kernel) (λa e=>?_) λPs hp=>?_
 ·rw [hl] at e
  obtain rfl:=abl e
  exact hv
 ·rw [hl]
  have e:Bc (aL (zj v) 2).val ("en":Str)=b:=hb
  dsimp only
  rw [e]
  exact h Ps hp
theorem qz {v:Str}{b:Bool}(T:Tr st t R lay (zj v))(hl:lang (zj v) 1=some 2)(hv:(abP v).length<=100)(hb:Bc v ("en":Str)=b) {v1:Option MV} {x:MV}
  (h:∀Ps,st <+: Ps->F .next [some (.ref t),v1,some (.int 1),some x,some (.bool b)] Ps) :
  (aj (bX (bT (ar ia (aF bF (ad (tK (.str ("lang":Str))) (ad (be (ad (tK (.str ("en":Str))) ak)) (ad (aF (kM 313 gB) (ad (af 0) (ad (af 2) ak))) ak)))) (af 4))) (aj (aS (tK (.bool false)))
 az) az)
 az) [some (.ref t),v1,some (.int 1),some x,some (.bool b)] st F:=by
 walk_at "w"
 refine JU (k:=1) λst1 PY hc=>?_
 refine DX (T.mono ((aB _).trans PY)) hc hl hv hb (aA PY (aH _)) λP1 PW=>?_
 walk_at "w"
 refine Ex ?_
 rw [bne_self_eq_false]
 walk_at "w"
 exact h _ (((aB _).trans PY).trans PW)
theorem uJ (h:∀Ps,Kp (λ_=>False) st Ps->Q (.bool true) Ps):dK [] st Q:=by
 refine cD rfl ?_
 walk_at "w"
 refine BT λst1 PY T1 VO=>?_
 walk_at "w"
 refine eD rfl ?_
 walk_at "w"
 refine bK (bj T1) ?_
 walk_at "w"
 refine bK (bj T1) ?_
 walk_at "w"
 have Y1:Ly st.length (st.length+1) []:=Hm
 refine pO T1 Y1 BO (by walk_at "m") λP1 T2 K2=>?_
 have Y2:=Y1.snoc T1
 walk_at "w"
 refine lW (p:=0) T2 Y2 Bo (by walk_at "m") λQa T3 K3=>?_
 have Y3:=Y2.snoc T2
 walk_at "w"
 have acF:∀{lay:List cJ} {i:Nat},Ly st.length (st.length+1) lay->i < st.length->¬cu st.length (st.length+1) lay i:=by
  rintro lay i Y hi (e | e | ⟨l,hl,h1,h2⟩)
  ·walk_at "o"
  ·walk_at "o"
  ·have:=(Y.low l hl).1
   walk_at "o"
 have kp:∀{lay:List cJ} {a b:MS},Ly st.length (st.length+1) lay->Kp (cu st.length (st.length+1) lay) a b->(∀i o,st[i]?=some o->a[i]?=some o)->∀i o,st[i]?=some o->b[i]?=some o:=λY K ha i o e=>K.keep _ _ (acF Y (bP e).1) (ha i o e)
 have k3:∀i o,st[i]?=some o->Qa[i]?=some o:=kp Y2 K3 (kp Y1 K2 λi o e=>aA PY e)
 have Rs:=aB (st:=Qa) (.list [.tup [.str "enx",.bool false],.tup [.str "en-GB",.bool true],.tup [.str "EN",.bool true]])
 have UF:=aH (st:=Qa) (.list [.tup [.str "enx",.bool false],.tup [.str "en-GB",.bool true],.tup [.str "EN",.bool true]])
 refine cb UF ?_
 have T4:=T3.mono Rs
 have Zj:¬cu st.length (st.length+1) ([]++[dt st1.length]++[dt P1.length]) Qa.length:=λq=>acj _ (T3.lt Y3 q)
 have k4:∀i o,st[i]?=some o->(Qa++[MO.list [.tup [.str "enx",.bool false],.tup [.str "en-GB",.bool true],.tup [.str "EN",.bool true]]])[i]?=some o:=λi o e=>aA Rs (k3 i o e)
 have aax:=aan (aan PY.length_le (aan K2.len K3.len)) Rs.length_le
 generalize Qa++[MO.list [MV.tup [.str "enx",.bool false],.tup [.str "en-GB",.bool true],.tup [.str "EN",.bool true]]]=RK at Rs UF T4 k4 aax
 generalize Qa.length=li at UF Zj
 clear T3 k3 Rs K3 K2 T2
 refine fb UF rfl ?_
 walk_at "w"
 refine bK (bj T4) ?_
 walk_at "w"
 refine kf (p:=1) T4 Y3 (Ic "enx") (by walk_at "m") rfl (λk hk=>?_) λRk T5 K5=>?_
 ·have h0:cZ ([]++[jU]++[Nb]) 1=[]:=by decide +kernel
  rw [h0] at hk; cases hk
 have Y5:=Y3.snoc T4
 have hl5:=K5.keep _ _ Zj UF
 have aah:¬cu st.length (st.length+1) ([]++[dt st1.length]++[dt P1.length]++[dt RK.length]) li:=cu.snoc Zj (bP UF).1
 have k5:=kp Y3 K5 k4
 walk_at "w"
 refine qz (v:="enx") (b:=false) T5 (by decide +kernel) (by decide +kernel) (by decide +kernel) λRt Sg=>?_
 walk_at "w"
 have T6:=T5.mono Sg
 refine fb (aA Sg hl5) rfl ?_
 walk_at "w"
 refine bK (bj T6) ?_
 walk_at "w"
 refine km (p:=1) (q:=2) T6 Y5 (show 1 < 3 by decide) rfl (by decide +kernel) ⟨rfl,rfl⟩ λSb T7 K7=>?_
 have TZ:=K7.keep _ _ aah (aA Sg hl5)
 have k7:=kp Y5 K7 λi o e=>aA Sg (k5 i o e)
 walk_at "w"
 refine qz (v:="en-GB") (b:=true) T7 (by decide +kernel) (by decide +kernel) (by decide +kernel) λQ4 RP=>?_
 walk_at "w"
 have T8:Tr Q4 _ _ _ (zj "en-GB"):=T7.mono RP
 refine fb (aA RP TZ) rfl ?_
 walk_at "w"
 refine bK (bj T8) ?_
 walk_at "w"
 refine km (p:=1) (q:=2) T8 Y5 (show 1 < 3 by decide) rfl (by decide +kernel) ⟨rfl,rfl⟩ λSx T9 K9=>?_
 have hl9:=K9.keep _ _ aah (aA RP TZ)
 have k9:=kp Y5 K9 λi o e=>aA RP (k7 i o e)
 walk_at "w"
 refine qz (v:="EN") (b:=true) T9 (by decide +kernel) (by decide +kernel) (by decide +kernel) λRW Rn=>?_
 walk_at "w"
 refine xF (aA Rn hl9) ?_
 walk_at "w"
 refine h _ ⟨?_,λi o _ e=>aA Rn (k9 i o e)⟩
 have:=K5.len
 have:=Sg.length_le
 have:=K7.len
 have:=RP.length_le
 have:=K9.len
 have:=Rn.length_le
 walk_at "o"
end
section
variable {st Ps:MS}{t R:Nat}{lay:List cJ}{d:List Rw}{Q:MV->MS->Prop}{F:MF->aG->MS->Prop}{ρ:aG}{k p q:Nat}{V:MV}{al c:Nat}{pos size:Int}{PJ:MV}
theorem Lm (o:Option Int):∃a b:Int,gM o=num a b:=by
 cases o with
 | none=>exact⟨0,0,rfl⟩
 | some h =>
  unfold gM
  dsimp only
  split
  ·exact⟨_,_,rfl⟩
  ·exact⟨_,_,rfl⟩
theorem w9 {a b:Int}(h:Q (.bool false) st):ia [num a b,num a b] st Q:=by
 refine AD (λ_ _=>rfl) (jI (d:=.tuple [.int a,.int b]) (e:=.tuple [.int a,.int b]) rfl rfl ?_)
 rw [show abK (.tuple [.int a,.int b]) (.tuple [.int a,.int b])=true by simp [abK,ad8]]
 exact h
theorem HI (hc:c4 st c t k pos size PJ)(h:Q (num size 1) st):bF [.str "last",.ref al,.ref c] st Q:=by
 refine bv λGG PD=>?_
 obtain⟨fs,Re,QX,Uu,hc4,hc5,_⟩:=hc
 refine PD ?_
 refine cD rfl ?_
 walk_at "w"
 refine bH (λ_=>?_) λe=>absurd rfl e
 walk_at "w"
 refine bE Re hc5 ?_
 walk_at "w"
 refine gO ?_
 walk_at "w"
 exact h
theorem Aq (hc:c4 st c t k pos size PJ)(h:Q (num pos 1) st):bF [.str "position",.ref al,.ref c] st Q:=by
 refine bv λGG PD=>?_
 obtain⟨fs,Re,QX,Uu,hc4,hc5,_⟩:=hc
 refine PD ?_
 refine cD rfl ?_
 walk_at "w"
 refine bH (λe=>absurd e (by decide +kernel)) λ_=>?_
 walk_at "w"
 refine bH (λ_=>?_) λe=>absurd rfl e
 walk_at "w"
 refine bE Re hc4 ?_
 walk_at "w"
 refine gO ?_
 walk_at "w"
 exact h
theorem Fm {lot:Nat}{xs:List MV}(ha:st[al]?=some (.list [.ref lot]))(hl:st[lot]?=some (.list xs))(hx:xs.length<=1000)(h:Q (num (xs.length:Int) 1) st):bF [.str "count",.ref al,.ref c] st Q:=by
 refine cD rfl ?_
 walk_at "w"
 refine bH (λe=>absurd e (by decide +kernel)) λ_=>?_
 walk_at "w"
 refine bH (λe=>absurd e (by decide +kernel)) λ_=>?_
 walk_at "w"
 refine bH (λ_=>?_) λe=>absurd rfl e
 walk_at "w"
 refine bI (n:=0) ha rfl rfl (by simp) ?_
 walk_at "w"
 refine HG hl hx ?_
 walk_at "w"
 exact h
theorem IR {lot:Nat}{ks:List Nat}(W:Wf d)(T:Tr st t R lay d)(hs:h8 d)(hc:c4 st c t k pos size PJ)(ha:st[al]?=some (.list [.ref lot]))(hl:st[lot]?=some (.list (ay ks)))(hk:∀k∈ks,k < d.length)(hn:∀k,k < d.length->jR (bi d k))
  (h:∀Ps,st <+: Ps->Q (gM (pY (ks.map λk=>halves (bi d k)))) Ps):bF [.str "sum",.ref al,.ref c] st Q:=by
 obtain⟨fs,Re,QX,_⟩:=hc
 refine cD rfl ?_
 walk_at "w"
 refine bH (λe=>absurd e (by decide +kernel)) λ_=>?_
 walk_at "w"
 refine bH (λe=>absurd e (by decide +kernel)) λ_=>?_
 walk_at "w"
 refine bH (λe=>absurd e (by decide +kernel)) λ_=>?_
 walk_at "w"
 refine bH (λ_=>?_) λe=>absurd rfl e
 walk_at "w"
 refine bI (n:=0) ha rfl rfl (by simp) ?_
 walk_at "w"
 refine bE Re QX ?_
 walk_at "w"
 refine JI W T hs hl hk hn λPs hp=>?_
 walk_at "w"
 exact h Ps hp
inductive pc:Str->Nat->(Rw->Str)->Prop
 | name:pc "name" 2 Rw.name
 | loc:pc "local-name" 3 Rw.loc
 | uri:pc "namespace-uri" 4 Rw.uri
theorem pc.get {w:Str}{n:Nat}{g:Rw->Str}(C:pc w n g)(k:Nat)(r:Rw):(eK k r)[n]?=some (.str (g r)):=by cases C <;> rfl
theorem uY {w:Str}{n:Nat}{g:Rw->Str}(C:pc w n g)(T:Tr st t R lay d)(hk:k < d.length)(h:Q (.str (g (aL d k))) st):iY [.str w,.int (k:Int),.ref t] st Q:=by
 have hr:=c5 hk
 refine cD rfl ?_
 walk_at "w"
 cases C with
 | name =>
  refine bH (λ_=>?_) λe=>absurd rfl e
  walk_at "w"
  refine bK (bj T) ?_
  walk_at "w"
  refine Hr T hr ?_
  walk_at "w"
  exact h
 | loc =>
  refine bH (λe=>absurd e (by decide +kernel)) λ_=>?_
  walk_at "w"
  refine dS (λ_=>?_) λe=>absurd rfl e
  walk_at "w"
  refine bK (bj T) ?_
  walk_at "w"
  refine Ls T hr ?_
  walk_at "w"
  exact h
 | uri =>
  refine bH (λe=>absurd e (by decide +kernel)) λ_=>?_
  walk_at "w"
  refine dS (λe=>absurd e (by decide +kernel)) λ_=>?_
  walk_at "w"
  refine bK (bj T) ?_
  walk_at "w"
  refine Nk T hr ?_
  walk_at "w"
  exact h
theorem Df {w:Str}(h:Q (.str "") st):iY [.str w,.none,.ref t] st Q:=by
 refine cD rfl ?_
 walk_at "w"
 exact h
theorem GK {g e:Nat}(hg:st[g]?=some (.list []))(he:st[e]?=some (.list []))(h:Q (.bool true) st):bL [.ref g,.ref e] st Q:=by
 refine wn (λ_ _=>rfl) (jI (dX (ds:=[]) hg rfl) (dX (ds:=[]) he rfl) ?_)
 rw [show abK (.list []) (.list [])=true by simp [abK,ad8]]
 exact h
theorem GD {g e lot:Nat}{ks:List Nat}(hg:st[g]?=some (.list [.ref lot]))(hl:st[lot]?=some (.list (ay ks)))(he:st[e]?=some (.list []))(h:Q (.bool false) st):bL [.ref g,.ref e] st Q:=by
 refine Ky hg rfl (ds:=[.list (ks.map λ(n:Nat)=>adJ (n:Int))]) (by rw [adN,dX hl (mH _)]; rfl) he ?_
 rw [show ∀a,abK (.list [a]) (.list [])=false from λa=>by simp [abK,ad8]]
 exact h
theorem IE (hc:c4 st c t k pos size PJ)(ha:st[al]?=some (.list []))(h:∀Ps,st <+: Ps->Q (.int (k:Int)) Ps):iW [.ref al,.ref c] st Q:=by
 obtain⟨fs,Re,QX,Uu,_⟩:=hc
 have hp:=aB (st:=st) (.list [])
 refine cD rfl ?_
 walk_at "w"
 refine GK (aA hp ha) (aH _) ?_
 walk_at "w"
 refine bE (aA hp Re) Uu ?_
 walk_at "w"
 exact h _ hp
noncomputable def NA (ks:List Nat):MV:=match ks with | []=>.none | k::_=>.int (k:Int)
theorem Jb {lot:Nat}{ks:List Nat}(ha:st[al]?=some (.list [.ref lot]))(hl:st[lot]?=some (.list (ay ks)))(Yo:ks.length<=1000)(h:∀Ps,st <+: Ps->Q (NA ks) Ps):iW [.ref al,.ref c] st Q:=by
 have hp:=aB (st:=st) (.list [])
 refine cD rfl ?_
 walk_at "w"
 refine GD (aA hp ha) (aA hp hl) (aH _) ?_
 walk_at "w"
 refine bI (n:=0) (aA hp ha) rfl rfl (by simp) ?_
 walk_at "w"
 refine qt (aA hp hl) ?_
 walk_at "w"
 have PW:=hp.trans (aB (st:=st++[.list []]) (.list []))
 refine vf (aA PW hl) (aH _) ?_
 cases ks with
 | nil =>
  simp only [af3,adM]
  walk_at "w"
  exact h _ PW
 | cons k ks =>
  simp only [agM,adT]
  walk_at "w"
  refine bI (n:=0) (aA PW hl) rfl rfl (by rw [bb]; walk_at "o") ?_
  walk_at "w"
  exact h _ PW
theorem zB {w:Str}{n:Nat}{g:Rw->Str}(C:pc w n g)(hc:c4 st c t k pos size PJ){V:MV}
  (hn:∀K:MV->MS->Prop,(∀Ps,st <+: Ps->K V Ps)->iW [.ref al,.ref c] st K) (h:∀Ps,st <+: Ps->iY [.str w,V,.ref t] Ps Q):bF [.str w,.ref al,.ref c] st Q:=by
 obtain⟨fs,Re,QX,Uu,_⟩:=hc
 refine cD rfl ?_
 walk_at "w"
 refine bH (λe=>absurd e (by cases C <;> decide +kernel)) λ_=>?_
 walk_at "w"
 refine bH (λe=>absurd e (by cases C <;> decide +kernel)) λ_=>?_
 walk_at "w"
 refine bH (λe=>absurd e (by cases C <;> decide +kernel)) λ_=>?_
 walk_at "w"
 refine bH (λe=>absurd e (by cases C <;> decide +kernel)) λ_=>?_
 walk_at "w"
 refine bH (λe=>absurd e (by cases C <;> decide +kernel)) λ_=>?_
 walk_at "w"
 refine bH (λe=>absurd e (by cases C <;> decide +kernel)) λ_=>?_
 walk_at "w"
 refine hn _ λPs hp=>?_
 walk_at "w"
 refine bE (aA hp Re) QX ?_
 have hh:=h Ps hp
 exact hh
noncomputable def wh (d:List Rw)(g:Rw->Str)(ks:List Nat):Str:=match ks with | []=>"" | k::_=>g (aL d k)
theorem GI {w:Str}{n:Nat}{g:Rw->Str}(C:pc w n g)(T:Tr st t R lay d)(hk:k < d.length)(hc:c4 st c t k pos size PJ)(ha:st[al]?=some (.list []))(h:∀Ps,st <+: Ps->Q (.str (g (aL d k))) Ps):bF [.str w,.ref al,.ref c] st Q:=
 zB C hc (λK hK=>IE hc ha hK) λPs hp=>uY C (T.mono hp) hk (h Ps hp)
theorem Fq {w:Str}{n:Nat}{g:Rw->Str}(C:pc w n g)(T:Tr st t R lay d)(hc:c4 st c t k pos size PJ){lot:Nat}{ks:List Nat}(ha:st[al]?=some (.list [.ref lot]))(hl:st[lot]?=some (.list (ay ks)))(Yo:ks.length<=1000)(Ro:∀k∈ks,k < d.length)(h:∀Ps,st <+: Ps->Q (.str (wh d g ks)) Ps):bF [.str w,.ref al,.ref c] st Q:=
 zB C hc (λK hK=>Jb ha hl Yo hK) λPs hp=>by
  cases ks with
  | nil=>exact Df (h Ps hp)
  | cons q ks=>exact uY C (T.mono hp) (Ro q (.head _)) (h Ps hp)
end
set_option genInjectivity false in
structure Ev where
 j:Nat
 due:Nat
 lot:Nat
 at':Nat
 pos:Int
 size:Int
 som:List Nat
 d:List Rw
noncomputable def uq (d:List Rw)(k:Nat)(PX:Str):Bool:=match lang d k with | some a=>EU (aL d a).val PX | none=>false
inductive ko (st:MS)(v:Ev):MV->Prop
 | last {al:Nat} (h:st[al]?=some (.list [])) (hj:al≠v.j/\al≠v.due):ko st v (.tup [.str "last",.ref al,num v.size 1])
 | position {al:Nat} (h:st[al]?=some (.list [])) (hj:al≠v.j/\al≠v.due):ko st v (.tup [.str "position",.ref al,num v.pos 1])
 | count {al:Nat} (h:st[al]?=some (.list [.ref v.lot])) (hj:al≠v.j/\al≠v.due):ko st v (.tup [.str "count",.ref al,num (v.som.length:Int) 1])
 | sum {al lot:Nat} {ks:List Nat} (h:st[al]?=some (.list [.ref lot])) (hj:al≠v.j/\al≠v.due) (hl:st[lot]?=some (.list (ay ks))) (YA:lot≠v.j/\lot≠v.due) (hk:∀k∈ks,k < v.d.length):ko st v (.tup [.str "sum",.ref al,gM (pY (ks.map λk=>halves (bi v.d k)))])
 | nameC {al n:Nat} {w:Str} {g:Rw->Str} (C:pc w n g) (h:st[al]?=some (.list [])) (hj:al≠v.j/\al≠v.due):ko st v (.tup [.str w,.ref al,.str (g (aL v.d v.at'))])
 | nameS {al n:Nat} {w:Str} {g:Rw->Str} (C:pc w n g) (h:st[al]?=some (.list [.ref v.lot])) (hj:al≠v.j/\al≠v.due):ko st v (.tup [.str w,.ref al,.str (wh v.d g v.som)])
 | lang {al:Nat} {PX:Str} (ha:PX∈m6) (h:st[al]?=some (.list [.str PX])) (hj:al≠v.j/\al≠v.due):ko st v (.tup [.str "lang",.ref al,.bool (uq v.d v.at' PX)])
section
variable {st Ps:MS}{t R:Nat}{lay:List cJ}{d:List Rw}{Q:MV->MS->Prop}{F:MF->aG->MS->Prop}{ρ:aG}{c:Nat}{ss:List Nat}
theorem ko.keep {v:Ev}{e:MV}(E:ko st v e)(K:Kp (λi=>i=v.j\/i=v.due) st Ps):ko Ps v e:=by
 have k:∀{al:Nat} {o:MO},st[al]?=some o->al≠v.j/\al≠v.due->Ps[al]?=some o:=λe h=>K.keep _ _ (λq=>q.elim h.1 h.2) e
 cases E with
 | last h hj=>exact .last (k h hj) hj
 | position h hj=>exact .position (k h hj) hj
 | count h hj=>exact .count (k h hj) hj
 | sum h hj hl YA hk=>exact .sum (k h hj) hj (k hl YA) YA hk
 | nameC C h hj=>exact .nameC C (k h hj) hj
 | nameS C h hj=>exact .nameS C (k h hj) hj
 | lang ha h hj=>exact .lang ha (k h hj) hj
theorem ko.run {v:Ev}{e:MV}(E:ko st v e)(T:Tr st t R lay v.d)(G:Gd v.d ss)(h19:v.d.length<=19)(hat:v.at' < v.d.length)(hc:c4 st c t v.at' v.pos v.size .none)
  (hl:st[v.lot]?=some (.list (ay v.som))) (hs:∀k∈v.som,k < v.d.length) (QG:v.som.length<=100) :
  ∃nm al W,e=.tup [.str nm,.ref al,W]/\∀K:MV->MS->Prop,(∀Ps,st <+: Ps->K (.bool false) Ps)->bF [.str nm,.ref al,.ref c] st λV st1=>ia [V,W] st1 K:=by
 have hn:∀k,k < v.d.length->jR (bi v.d k):=λk hk=>ze G.wf G.ok h19 hk
 cases E with
 | last h hj=>exact⟨_,_,_,rfl,λK hK=>HI hc (w9 (hK _ (aaj _)))⟩
 | position h hj=>exact⟨_,_,_,rfl,λK hK=>Aq hc (w9 (hK _ (aaj _)))⟩
 | count h hj =>
  refine⟨_,_,_,rfl,λK hK=>Fm h hl (by rw [bb]; walk_at "o") ?_⟩
  rw [bb]
  exact w9 (hK _ (aaj _))
 | @sum al lot ks h hj hl YA hk =>
  refine⟨_,_,_,rfl,λK hK=>IR G.wf T G.short hc h hl hk hn λPs hp=>?_⟩
  obtain⟨a,b,e⟩:=Lm (pY (ks.map λk=>halves (bi v.d k)))
  rw [e]
  exact w9 (hK _ hp)
 | nameC C h hj =>
  refine⟨_,_,_,rfl,λK hK=>GI C T hat hc h λPs hp=>Kl ?_⟩
  rw [decide_eq_true rfl]
  exact hK _ hp
 | nameS C h hj =>
  refine⟨_,_,_,rfl,λK hK=>Fq C T hc h hl (by walk_at "o") hs λPs hp=>Kl ?_⟩
  rw [decide_eq_true rfl]
  exact hK _ hp
 | @lang al PX ha h hj =>
  refine⟨_,_,_,rfl,λK hK=>zh h hc (u7 G.wf G.langOk T hat hc (Cc ha) (λa e=>(EI (BD G e)).1.1) λPs hp=>Ex ?_)⟩
  have e:(match Internal.lang v.d v.at' with | some a=>Bc (aL v.d a).val PX | none=>false)=uq v.d v.at' PX:=by
   unfold uq
   cases e:Internal.lang v.d v.at' with
   | none=>rfl
   | some a=>exact (Ny (BD G e) ha).symm
  refine Eq.mpr (congrArg (λb=>K (.bool (b != uq v.d v.at' PX)) Ps) e) ?_
  rw [bne_self_eq_false]
  exact hK _ hp
theorem IO {v:Ev}(T:Tr st t R lay v.d)(Gv:Gd v.d ss)(h19:v.d.length<=19)(hat:v.at' < v.d.length)(hc:c4 st c t v.at' v.pos v.size .none)
  (hl:st[v.lot]?=some (.list (ay v.som))) (hs:∀k∈v.som,k < v.d.length) (QG:v.som.length<=100)
  {G:MS->Prop} (hG:∀s,st <+: s->G s) {v0 v1 v2 v3 v4 v5 v6 v8 v9 Sq Rj Sy RU R3:Option MV}:∀(es:List MV) (Ps:MS) (a b e:Option MV),st <+: Ps->(∀e∈es,ko st v e) ->
  (∀PT a b e,st <+: PT->F .next [v0,v1,v2,v3,v4,v5,v6,some (.ref c),v8,v9,Sq,Rj,Sy,RU,R3,a,b,e] PT) ->
  eh G (iq [15,16,17]) qq es [v0,v1,v2,v3,v4,v5,v6,some (.ref c),v8,v9,Sq,Rj,Sy,RU,R3,a,b,e] Ps F:=by
 intro es
 induction es with
 | nil =>
  intro Ps a b e R7 _ h
  exact⟨hG _ R7,h _ _ _ _ R7⟩
 | cons x es ih =>
  intro Ps a b e R7 hE h
  have Kp':Kp (λi=>i=v.j\/i=v.due) st Ps:=Kp.pre R7
  refine bv λGG PD=>?_
  obtain⟨nm,al,W,rfl,run⟩:=((hE x (.head _)).keep Kp').run (T.mono R7) Gv h19 hat (hc.pre R7) (aA R7 hl) hs QG
  refine PD ?_
  refine fb (hG _ R7) rfl ?_
  walk_at "w"
  refine run _ λP1 PW=>?_
  walk_at "w"
  exact ih P1 _ _ _ (R7.trans PW) (λy hy=>hE y (.tail _ hy)) h
end
theorem gf {x n:Str}{P P':aG->MS->Prop}{r:aG}{st:MS}(h:P' (some (.str n)::r) st)(P6:n≠x):sy (zP x) P P' (some (.str n)::r) st:=by
 show st <+: st/\if decide (n=x)=true then P (some (.str n)::r) st else P' (some (.str n)::r) st
 rw [decide_eq_false P6]
 exact⟨aaj _,h⟩
theorem CI {n:Str}{P P':aG->MS->Prop}{r:aG}{st:MS}(h:P (some (.str n)::r) st):sy (zP n) P P' (some (.str n)::r) st:=by
 show st <+: st/\if decide (n=n)=true then P (some (.str n)::r) st else P' (some (.str n)::r) st
 rw [decide_eq_true rfl]
 exact⟨aaj _,h⟩
theorem vB {l:Nat}{x:MV}{st:MS}{Q:MV->MS->Prop}(hl:st[l]?=some (.list [x]))(h:Q x st):aN [.ref l,.int 0] st Q:=eG hl ⟨⟨by decide,by decide⟩,0,x,rfl,rfl,h⟩
theorem Hf {nm:Str}{x:MV}{c:Nat}{fs:List (Str×MV)}{V:MV}{st:MS}{Q:MV->MS->Prop}(hn:nm=("count":Str)\/nm=("sum":Str)\/nm=("name":Str)) (hx:x=.str "a"\/x=.tup [.int 1,.int 1]\/x=.bool true)
  (hc:st[c]?=some (.inst 313 fs)) (ht:fs.lookup ("tree":Str)=some V) (h:∀Ps,st <+: Ps->Q (.bool true) Ps):jh [.str nm,x,.ref c] st Q:=by
 refine⟨⟨rfl,?_⟩,h⟩
 have hl:(st++[MO.list [x]])[st.length]?=some (.list [x]):=by simp
 have Sa:(st++[MO.list [x]])[c]?=some (.inst 313 fs):=by
  rw [abo (bP hc).1]; exact hc
 have p:st <+: st++[MO.list [x]]:=abI _ _
 refine⟨p,rfl,?_⟩
 generalize st++[MO.list [x]]=Pt at hl Sa
 generalize st.length=l at hl
 have PR:l < Pt.length:=(bP hl).1
 have WH:∀s:MS,qa [x] s:=λs=>by
  refine⟨rfl,?_⟩
  rcases hx with rfl | rfl | rfl <;> exact⟨rfl,rfl⟩
 rcases hn with rfl | rfl | rfl
 ·refine gf (gf (CI ?_) (by decide +kernel)) (by decide +kernel)
  show aN [.ref l,.int 0] Pt _
  exact vB hl ⟨aaj _,rfl,aaj _,WH _⟩
 ·refine gf (gf (gf (CI ?_) (by decide +kernel)) (by decide +kernel)) (by decide +kernel)
  have e1:∀K,ar aN (af 1) (tK (.int 0)) [some (.str "sum"),some (.ref l),some (.ref c)] Pt K↔aN [.ref l,.int 0] Pt K:=λ_=>ajo
  unfold H3 ad
  refine (e1 _).mpr (vB hl ?_)
  refine Ka (iF rfl (bE Sa ht ?_))
  exact⟨aaj _,rfl,gO ⟨aaj _,aaj _,WH _⟩⟩
 ·refine gf (gf (gf (gf (gf (gf ?_ (by decide +kernel)) (by decide +kernel)) (by decide +kernel)) (by decide +kernel)) (by decide +kernel)) (by decide +kernel)
  refine⟨aaj _,aaj _,rfl,?_⟩
  have RL:(Pt++[MO.list []])[l]?=some (.list [x]):=by rw [abo PR]; exact hl
  have he:(Pt++[MO.list []])[Pt.length]?=some (.list []):=by simp
  have ev:∀a,abK (.list [a]) (.list [])=false:=λa=>by simp [abK,ad8]
  have key:∀K:MV->MS->Prop,K (.bool false) (Pt++[.list []])->bL [.ref l,.ref Pt.length] (Pt++[.list []]) K:=λK hK=>by
   rcases hx with rfl | rfl | rfl
   ·exact wn (λ_ _=>rfl) (jI (dX RL (ds:=[.str "a"]) (by unfold fw; rw [adN,pH (by decide +kernel)]; rfl)) (dX (ds:=[]) he rfl) (by rw [ev]; exact hK))
   ·exact Ky RL rfl (ds:=[.tuple [.int 1,.int 1]]) rfl he (by rw [ev]; exact hK)
   ·exact wn (λ_ _=>rfl) (jI (dX RL (ds:=[.bool true]) rfl) (dX (ds:=[]) he rfl) (by rw [ev]; exact hK))
  have e1:∀K,ar bL (af 0) (be ak) [some (.ref l),some (.ref c),none] Pt K↔bL [.ref l,.ref Pt.length] (Pt++[.list []]) K:=λ_=>ajo
  unfold yg bT
  refine (e1 _).mpr (key _ ⟨abI _ _,?_⟩)
  show aN [.ref l,.int 0] (Pt++[.list []]) _
  exact vB RL ⟨aaj _,WH _⟩
section
variable {st Ps Qb:MS}{j t R rl os:Nat}{lay:List cJ}{PJ:List Nat}{d:List Rw}{Q:MV->MS->Prop}{F:MF->aG->MS->Prop}{ρ:aG}{c:Nat}{ss so:List Nat}
theorem IN {K:List MV->MS->Prop}:∀(l PZ:List Nat)(y:Option MV)(Ps:MS),dQ Ps j->Kp (·=j) st Ps ->
  (∀PT TU,dQ PT j->Kp (·=j) st PT->(∀x∈TU,x∈PZ\/x∈l)->TU.length<=PZ.length+l.length->K (ay TU) PT)->fq (λ_=>True) (b8 0) sI zt (ay l) [y,some (.ref j)] (ay PZ) Ps K:=by
 intro l
 induction l with
 | nil =>
  intro PZ y Ps S hK h
  exact⟨trivial,h Ps PZ S hK (λx hx=>.inl hx) (by walk_at "m")⟩
 | cons k l ih =>
  intro PZ y Ps S hK h
  refine abi trivial ?_
  show sI _ _ _
  walk_at "w"
  refine d5 (top:=3) (by decide) (by decide) S λst1 x hx E1 S1=>?_
  walk_at "w"
  have K1:=hK.trans E1.kp
  by_cases XZ:(x:Int)=0
  ·rw [decide_eq_true XZ]
   simp only [if_true]
   walk_at "w"
   rw [jP]
   exact ih (PZ++[k]) _ st1 S1 K1 λPT TU S2 K2 hm hl=>h PT TU S2 K2 (λx hx=>by
    rcases hm x hx with q | q
    ·rcases dU q with q | q
     ·exact .inl q
     ·rw [cq q]; exact .inr (.head _)
    ·exact .inr (.tail _ q)) (by simp at hl ⊢; walk_at "o")
  ·rw [decide_eq_false XZ]
   simp only [ab5,if_false]
   exact ih PZ _ st1 S1 K1 λPT TU S2 K2 hm hl=>h PT TU S2 K2 (λx hx=>(hm x hx).imp id (.tail _)) (by simp at hl ⊢; walk_at "o")
structure Du (Qb st:MS)(v:Ev)(es:List MV):Prop where
 K:Kp (·=v.j) Qb st
 S:dQ st v.j
 hd:st[v.due]?=some (.list es)
 hE:∀e∈es,ko st v e
 lt:Qb.length=v.due
 ne:v.due≠v.j
 le:es.length<=100
theorem Du.pre {v:Ev}{es:List MV}(D:Du Qb st v es)(hp:st <+: Ps):Du Qb Ps v es:=
 ⟨D.K.trans (.pre hp),D.S.pre hp,aA hp D.hd,λe he=>(D.hE e he).keep (.pre hp),D.lt,D.ne,D.le⟩
theorem Du.ext {v:Ev}{es:List MV}(D:Du Qb st v es)(E:u2 v.j st Ps)(S:dQ Ps v.j):Du Qb Ps v es:=
 ⟨D.K.trans E.kp,S,E.keep _ _ D.ne D.hd,λe he=>(D.hE e he).keep (E.kp.wide λi h=>.inl h),D.lt,D.ne,D.le⟩
theorem Du.of_app {v:Ev}{es:List MV}{e:MV}(D:Du Qb st v es)(hE:ko st v e)(hl:es.length < 100):Du Qb (aiK (α:=MO) st v.due (MO.list (es++[e]))) v (es++[e]):=by
 have PR:=(bP D.hd).1
 have K2:Kp (λi=>i=v.j\/i=v.due) st (st.set v.due (.list (es++[e]))):=.set (.inr rfl)
 have K1:Kp (·=v.due) st (st.set v.due (.list (es++[e]))):=.set rfl
 refine⟨D.K.new (.inr (by rw [D.lt]; exact abt _)),D.S.keep K1 D.ne.symm,abu PR,λx hx=>?_,D.lt,D.ne,by simp; walk_at "o"⟩
 rcases dU hx with q | q
 ·exact (D.hE x q).keep K2
 ·rw [cq q]; exact hE.keep K2
theorem Du.app {v:Ev}{es:List MV}{e:MV}(D:Du Qb st v es)(hE:ko st v e)(hl:es.length < 100)(h:∀Ps,Du Qb Ps v (es++[e])->Kp (·=v.due) st Ps->Q .none Ps):bx [.ref v.due,e] st Q:=
 dF D.hd (aan (by walk_at "o":es.length<=100) (by decide)) (h _ (D.of_app hE hl) (.set rfl))
theorem Du.fresh {v:Ev}{es:List MV}(D:Du Qb st v es):st.length≠v.j/\st.length≠v.due:=by
 have h1:=(bP D.hd).1
 obtain⟨a,b,e,_⟩:=D.S
 have h2:=(bP e).1
 walk_at "o"
structure Lw (Qb:MS)(j t R rl os:Nat)(lay:List cJ)(PJ:List Nat)(so ss:List Nat)(c sm:Nat)(v:Ev):Prop where
 bs:Bs Qb j t R rl os lay PJ v.d v.d so
 gd:Gd v.d ss
 he:gz v.d
 h19:v.d.length<=19
 hat:v.at' < v.d.length
 ctx:c4 Qb c t v.at' v.pos v.size .none
 smh:Qb[sm]?=some (.list (ay v.som))
 loth:Qb[v.lot]?=some (.list (ay v.som))
 some:∀k∈v.som,k < v.d.length
 sl:v.som.length<=19
 cj:c≠j
 sj:sm≠j
 lj:v.lot≠j
 so':¬cu t R lay sm
 vj:v.j=j
theorem Lw.at {sm:Nat}{v:Ev}(L:Lw Qb j t R rl os lay PJ so ss c sm v)(K:Kp (·=j) Qb st)(S:dQ st j):Lw st j t R rl os lay PJ so ss c sm v:=by
 refine bv λGG PD=>?_
 obtain⟨n1,n2,n3,n4,n5,n6⟩:=L.bs.ne
 refine PD ?_
 refine⟨⟨L.bs.tr.frame L.bs.ly K λx hx=>by rw [hx]; exact L.bs.ap j (.head _),L.bs.ly,L.bs.lr.keep K (λq=>n1 q.symm) λi hi q=>n4 (q ▸ hi),S,K.keep _ _ (λq=>n2 q.symm) L.bs.opn,L.bs.nd,L.bs.ap⟩,L.gd,L.he,L.h19,L.hat,L.ctx.keep K L.cj,K.keep _ _ L.sj L.smh,K.keep _ _ L.lj L.loth,L.some,L.sl,L.cj,L.sj,L.lj,L.so',L.vj⟩
theorem Du.lw {sm:Nat}{v:Ev}{es:List MV}(D:Du Qb st v es)(L:Lw Qb j t R rl os lay PJ so ss c sm v):Lw st j t R rl os lay PJ so ss c sm v:=by
 have:=L.vj
 subst this
 exact L.at D.K D.S
theorem Ck {li:Nat}{v0 v2 v3 v4 v5 v6 v8 v9 Sq Rj Sy RU R3 ST SS:Option MV}{k:Nat}{pos size:Int}{VT:List MV}:∀(ns:List Str)(Ps:MS)(a:Option MV),(∀n∈ns,n=("count":Str)\/n=("sum":Str)\/n=("name":Str))->dQ Ps j->c4 Ps c t k pos size .none->c≠j->li≠j->Ps[li]?=some (.list VT)->Kp (·=j) st Ps ->
  (∀PT a,dQ PT j->Kp (·=j) st PT->F .next [v0,some (.ref j),v2,v3,v4,v5,v6,some (.ref c),v8,v9,Sq,Rj,Sy,RU,R3,a,ST,SS] PT) ->
  eh (λs=>s[li]?=some (.list VT)) (b8 15) qg (ns.map .str) [v0,some (.ref j),v2,v3,v4,v5,v6,some (.ref c),v8,v9,Sq,Rj,Sy,RU,R3,a,ST,SS] Ps F:=by
 intro ns
 induction ns with
 | nil =>
  intro Ps a hn S hc So Vv hl hK h
  exact⟨hl,h _ _ S hK⟩
 | cons n ns ih =>
  intro Ps a hn S hc So Vv hl hK h
  refine cS hl ?_
  walk_at "w"
  have UN:j < Ps.length:=by obtain⟨a,b,e,_⟩:=S; exact (bP e).1
  refine fK (j:=j) (aH _) (by walk_at "o") (by walk_at "m") (by walk_at "m") (S.pre (aB _)) λst1 i x hx E1 S1=>?_
  have K1:Kp (·=j) Ps st1:=(Kp.pre (aB _)).trans E1.kp
  have Rf:x=.str "a"\/x=.tup [.int 1,.int 1]\/x=.bool true:=by
   have:=abk hx
   simpa using this
  have Re:=hc.keep K1 So
  walk_at "w"
  obtain⟨fs,c1,c2,_⟩:=Re
  refine Hf (hn n (.head _)) Rf c1 c2 λP1 PW=>?_
  walk_at "w"
  have K2:Kp (·=j) Ps P1:=K1.trans (.pre PW)
  exact ih P1 _ (λm hm=>hn m (.tail _ hm)) (S1.pre PW) (hc.keep K2 So) So Vv (K2.keep _ _ Vv hl) (hK.trans K2) h
end
section
variable {st Ps Qb:MS}{j t R rl os:Nat}{lay:List cJ}{PJ:List Nat}{d:List Rw}{Q:MV->MS->Prop}{F:MF->aG->MS->Prop}{ρ:aG}{c sm:Nat}{ss so:List Nat}{v:Ev}
theorem FD (L:Lw Qb j t R rl os lay PJ so ss c sm v){li:Nat}{VT:List MV}(Vv:li≠j)(ZN:li≠v.due){v0 v1 v2 v5 v6 v7 Rj R3 Uk ST SS:Option MV}:∀(ps:List (Str×Nat))(es:List MV)(Ps:MS)(a b:Option MV),(∀p∈ps,∃g,pc p.1 p.2 g)->Du Qb Ps v es->es.length+2 * ps.length < 100->Ps[li]?=some (.list VT) ->
  (∀PT X9 a b,Du Qb PT v X9->X9.length<=es.length+2 * ps.length->F .next [v0,v1,v2,some (.ref rl),some (.int (v.at':Int)),v5,v6,v7,some (.ref sm),some (.ref v.lot),some (.ref v.due),Rj,a,b,R3,Uk,ST,SS] PT) ->
  eh (λs=>s[li]?=some (.list VT)) (iq [12,13]) m7 (ps.map λp=>.tup [.str p.1,.int (p.2:Int)]) [v0,v1,v2,some (.ref rl),some (.int (v.at':Int)),v5,v6,v7,some (.ref sm),some (.ref v.lot),some (.ref v.due),Rj,a,b,R3,Uk,ST,SS] Ps F:=by
 intro ps
 induction ps with
 | nil=>intro es Ps a b hp D hl hx h; exact⟨hx,h _ _ _ _ D (by walk_at "m")⟩
 | cons p ps ih =>
  obtain⟨w,n⟩:=p
  intro es Ps a b hp D hl hx h
  obtain⟨g,C⟩:=hp _ (.head _)
  have C:pc w n g:=C
  have UH:=L.vj
  have small:v.d.length<=200:=by have:=L.h19; walk_at "o"
  refine fb hx rfl ?_
  walk_at "w"
  refine dY (D.hd) ?_
  walk_at "w"
  have D1:=D.pre (aB (.list [.ref v.lot]))
  have fr:=D.fresh
  have Xm:=aH (st:=Ps) (.list [.ref v.lot])
  have Sf:=aA (aB (st:=Ps) (.list [.ref v.lot])) hx
  generalize Ps.length=al at fr Xm
  generalize Ps++[MO.list [MV.ref v.lot]]=st1 at D1 Xm Sf
  have D2:=D1.pre (aB (.list []))
  have L2:=D2.lw L
  refine vf L2.smh (aH _) ?_
  have Va:=aA (aB (st:=st1) (.list [])) Xm
  have Rp:=aA (aB (st:=st1) (.list [])) Sf
  have UZ:∀(Qa:MS),Du Qb Qa v (es++[.tup [.str w,.ref al,.str (wh v.d g v.som)]])->Qa[li]?=some (.list VT) ->
    (aj (bY (cr .list bx (af 10) (ad (bl (ad (af 12) (ad (be ak) (ad (ar aN (ar aN (af 3) (af 4)) (af 13)) ak)))) ak))) az) [v0,v1,v2,some (.ref rl),some (.int (v.at':Int)),v5,v6,v7,some (.ref sm),some (.ref v.lot),some (.ref v.due),Rj,some (.str w),some (.int (n:Int)),R3,Uk,ST,SS] Qa
     (uc (λs=>s[li]?=some (.list VT)) (iq [12,13]) m7 (ps.map λp=>.tup [.str p.1,.int (p.2:Int)]) F):=by
   intro Qa D3 Uc
   walk_at "w"
   refine dY (D3.hd) ?_
   walk_at "w"
   have W4:=D3.fresh
   have D4:=D3.pre (aB (.list []))
   have hx4:=aA (aB (st:=Qa) (.list [])) Uc
   have Vg:=aH (st:=Qa) (.list [])
   generalize Qa.length=al2 at W4 Vg
   generalize Qa++[MO.list []]=RK at D4 hx4 Vg
   have L4:=D4.lw L
   refine fk (n:=n) L4.bs.lr small L.hat rfl (C.get _ _) (λW Pt=>rfl) ?_
   refine D4.app (.nameC C Vg W4) (by simp at hl ⊢; walk_at "o") λRk D5 K5=>?_
   walk_at "w"
   exact ih _ Rk _ _ (λp R7=>hp p (.tail _ R7)) D5 (by simp at hl ⊢; walk_at "o") (K5.keep _ _ ZN hx4) λPT X9 a b D' Tb=>h PT X9 a b D' (by simp at Tb ⊢; walk_at "o")
  have hE:=ko.nameS (v:=v) C Va fr
  cases hs:v.som with
  | nil =>
   simp only [af3,adM]
   have hh:wh v.d g v.som="":=by rw [hs]; rfl
   rw [hh] at hE UZ
   walk_at "w"
   refine D2.app hE (by simp at hl; walk_at "o") λQa D3 K3=>?_
   refine HC ?_
   refine tw ?_
   exact UZ Qa D3 (K3.keep _ _ ZN Rp)
  | cons k r =>
   simp only [agM,adT]
   have hh:wh v.d g v.som=g (aL v.d k):=by rw [hs]; rfl
   rw [hh] at hE UZ
   have Rl:=L2.smh
   rw [hs] at Rl
   have QG:=L.sl
   rw [hs] at QG
   walk_at "w"
   refine bI (n:=0) (x:=.int (k:Int)) Rl rfl rfl (by rw [bb]; walk_at "o") ?_
   refine fk (n:=n) L2.bs.lr small (L.some k (by rw [hs]; exact .head _)) rfl (C.get _ _) (λW Pt=>rfl) ?_
   walk_at "w"
   refine D2.app hE (by simp at hl; walk_at "o") λQa D3 K3=>?_
   refine HC ?_
   refine tw ?_
   exact UZ Qa D3 (K3.keep _ _ ZN Rp)
end
section
variable {st Ps Qb:MS}{j t R rl os:Nat}{lay:List cJ}{PJ:List Nat}{d:List Rw}{Q:MV->MS->Prop}{F:MF->aG->MS->Prop}{ρ:aG}{c sm:Nat}{ss so:List Nat}{v:Ev}
theorem La (L:Lw st j t R rl os lay PJ so ss c sm v)(h:∀Ps,Q (.bool true) Ps){v0 v5 v6 v9 Sq Rj Sy RU R3 Uk ST SS:Option MV} :
  (aj (aS (l6 (aF dK ak) (aF eC (ad (af 1) (ad (af 2) (ad (af 3) (ad (af 4) (ad (af 8) ak))))))))
 az) [v0,some (.ref j),some (.ref t),some (.ref rl),some (.int (v.at':Int)),v5,v6,some (.ref c),some (.ref sm),v9,Sq,Rj,Sy,RU,R3,Uk,ST,SS] st (fa Q):=by
 walk_at "w"
 refine wd ?_
 walk_at "w"
 refine uJ λst1 K1=>?_
 have Lj:Lw st1 j t R rl os lay PJ so ss c sm v:=L.at (K1.wide λi h=>h.elim) (L.bs.src.keep K1 λq=>q)
 refine E8 ?_
 walk_at "w"
 exact wS Lj.bs Lj.gd Lj.he Lj.h19 Lj.hat Lj.smh Lj.sj Lj.so' Lj.some Lj.sl λPs=>h Ps
theorem Nt (L:Lw Qb j t R rl os lay PJ so ss c sm v){es:List MV}(D:Du Qb st v es)(Yp:es.length<=10)(h:∀Ps,Q (.bool true) Ps){v0 v5 v6 Rj Sy RU R3 Uk ST SS:Option MV} :
  (aj (eO (b9 (be (ad (bl (ad (tK (.str ("name":Str))) (ad (tK (.int 2)) ak))) (ad (bl (ad (tK (.str ("local-name":Str))) (ad (tK (.int 3)) ak))) (ad (bl (ad (tK (.str ("namespace-uri":Str))) (ad (tK (.int 4)) ak))) ak))))) (iq [12,13]) m7)
 (aj (aX 14 (aF cx (ad (af 1) (ad (be (ad (tK (.str ("en":Str))) (ad (tK (.str ("EN-US":Str))) (ad (tK (.str ("fr":Str))) (ad (tK (.str ("e":Str))) ak))))) ak))))
 (aj (bY (cr .list bx (af 10) (ad (bl (ad (tK (.str ("lang":Str))) (ad (be (ad (af 14) ak)) (ad (aF iy (ad (af 3) (ad (af 4) (ad (af 14) ak)))) ak)))) ak)))
 (aj (eO (b9 (af 10)) (iq [15,16,17]) qq)
 (aj (eO (b9 (be (ad (tK (.str ("count":Str))) (ad (tK (.str ("sum":Str))) (ad (tK (.str ("name":Str))) ak))))) (b8 15) qg)
 (aj (aS (l6 (aF dK ak) (aF eC (ad (af 1) (ad (af 2) (ad (af 3) (ad (af 4) (ad (af 8) ak))))))))
 az)))))) [v0,some (.ref j),some (.ref t),some (.ref rl),some (.int (v.at':Int)),v5,v6,some (.ref c),some (.ref sm),some (.ref v.lot),some (.ref v.due),Rj,Sy,RU,R3,Uk,ST,SS] st (fa Q):=by
 have UH:=L.vj
 walk_at "w"
 have fr1:=D.fresh
 have D1:=D.pre (aB (.list [.tup [.str "name",.int 2],.tup [.str "local-name",.int 3],.tup [.str "namespace-uri",.int 4]]))
 have VO:=aH (st:=st) (.list [.tup [.str "name",.int 2],.tup [.str "local-name",.int 3],.tup [.str "namespace-uri",.int 4]])
 refine cb VO ?_
 refine FD L (by rw [<- UH]; exact fr1.1) fr1.2 [("name",2),("local-name",3),("namespace-uri",4)] es _ _ _ (λp hp=>?_) D1 (by simp; walk_at "o") VO λP1 es2 a b D2 RL=>?_
 ·simp only [abB,abx,or_false] at hp
  rcases hp with rfl | rfl | rfl
  ·exact⟨_,.name⟩
  ·exact⟨_,.loc⟩
  ·exact⟨_,.uri⟩
 simp only [abz,ahl] at RL
 have L2:=D2.lw L
 walk_at "w"
 have fr2:=D2.fresh
 rw [UH] at fr2
 refine fK (j:=j) (aH _) fr2.1 (by walk_at "m") (by walk_at "m") (L2.bs.src.pre (aB _)) λQa n x hx E3 S3=>?_
 obtain⟨PX,rfl,TJ⟩:=ph (xs:=["en","EN-US","fr","e"]) hx
 have D3:Du Qb Qa v es2:=(D2.pre (aB _)).ext (by rw [UH]; exact E3) (by rw [UH]; exact S3)
 walk_at "w"
 refine dY (D3.hd) ?_
 walk_at "w"
 have W4:=D3.fresh
 have D4:=D3.pre (aB (.list [.str PX]))
 have Vg:=aH (st:=Qa) (.list [.str PX])
 generalize Qa.length=al at W4 Vg
 generalize Qa++[MO.list [MV.str PX]]=RK at D4 Vg
 have L4:=D4.lw L
 refine AU L4.gd.wf (by have:=L4.h19; walk_at "o") L4.bs.lr L4.hat L4.gd.ok TJ λRk RD=>?_
 have D5:=D4.pre RD
 walk_at "w"
 have hE:ko Rk v (.tup [.str "lang",.ref al,.bool (uq v.d v.at' PX)]):=.lang TJ (aA RD Vg) W4
 refine D5.app hE (by walk_at "o") λRt D6 K6=>?_
 have L6:=D6.lw L
 walk_at "w"
 refine cb D6.hd ?_
 have Uw:∀s,Rt <+: s->s[v.due]?=some (.list (es2++[.tup [.str "lang",.ref al,.bool (uq v.d v.at' PX)]])):=λs hs=>aA hs D6.hd
 refine IO L6.bs.tr L6.gd L6.h19 L6.hat L6.ctx L6.loth L6.some (by have:=L6.sl; walk_at "o") Uw _ Rt _ _ _ (aaj _) D6.hE λSb a b e RE=>?_
 have D7:=D6.pre RE
 have L7:=D7.lw L
 walk_at "w"
 have RP:=aB (st:=Sb) (.list [.str "count",.str "sum",.str "name"])
 have hl8:=aH (st:=Sb) (.list [.str "count",.str "sum",.str "name"])
 have WX:=D7.fresh
 rw [UH] at WX
 have D8:=D7.pre RP
 have L8:=D8.lw L
 refine cb hl8 ?_
 refine Ck (st:=Sb++[.list [.str "count",.str "sum",.str "name"]]) ["count","sum","name"] _ _ (λn hn=>by simpa using hn) L8.bs.src L8.ctx L8.cj WX.1 hl8 .refl λSx a S9 K9=>?_
 walk_at "w"
 exact La (L8.at K9 S9) h
end
section
variable {st Ps Qb:MS}{j t R rl os:Nat}{lay:List cJ}{PJ:List Nat}{d:List Rw}{Q:MV->MS->Prop}{F:MF->aG->MS->Prop}{ρ:aG}{c sm:Nat}{ss so:List Nat}{v:Ev}
theorem xB (W:Wf d)(small:d.length<=200)(hs:h8 d)(L:LR st rl PJ d){e:TE}(he:e=aF fQ (ad (af 1) (ad (af 0) ak))){ks:List Nat}{G:MS->Prop}(hG:∀s,st <+: s->G s)(hp:∀p∈ks,p < d.length)
  {K:List MV->MS->Prop} (h:∀Ps,st <+: Ps->K ((ks.map λk=>bi d k).map .str) Ps) {y:Option MV}:fq G (b8 0) d3 e (ay ks) (y::[some (.ref rl)]) [] st K:=by
 subst he
 refine d7 (st:=st) (p:=λ_=>true) (f:=λv=>match v with | .int j=>.str (bi d j.toNat) | _=>.none) (caps:=[some (.ref rl)]) hG (ay ks) (λv hv st1 K PY hK=>?_) (λv hv _ st1 K PY hK=>?_) y [] st _ (aaj _) λst1 PY=>?_
 ·walk_at "w"
  exact hK _ (aaj _)
 ·obtain⟨p,Ua,rfl⟩:=c9 hv
  walk_at "w"
  exact ou W small (L.mono PY) hs (hp p Ua) hK
 ·have el:[]++((ay ks).filter λ_=>true).map (λv=>match v with | .int j=>MV.str (bi d j.toNat) | _=>.none)=(ks.map λk=>bi d k).map .str:=by
   rw [abA,ad9.mpr (λ_ _=>rfl)]
   unfold ay
   rw [ab6,ab6]
   rfl
  rw [el]
  exact h _ PY
noncomputable def eF (d:List Rw):List Nat:=(aca d.length).filter λk=>(halves (bi d k)).isSome
noncomputable def HK (d:List Rw):MV->Bool:=λv=>match v with | .int j=>(halves (bi d j.toNat)).isSome | _=>false
theorem Gr (W:Wf d)(small:d.length<=200)(hs:h8 d)(hn:∀k,k < d.length->jR (bi d k))(L:LR st rl PJ d){K:List MV->MS->Prop}(h:∀Ps,st <+: Ps->K (ay (eF d)) Ps) :
  fq (λ_=>True) (b8 0) vU pI (ay (aca d.length)) [none,some (.ref rl)] [] st K:=by
 refine d7 (st:=st) (p:=HK d) (f:=id) (caps:=[some (.ref rl)]) (λ_ _=>trivial) (ay (aca d.length)) (λv hv st1 K PY hK=>?_) (λv hv _ st1 K PY hK=>?_) none [] st _ (aaj _) λst1 PY=>?_
 ·obtain⟨p,Ua,rfl⟩:=c9 hv
  rw [abZ] at Ua
  walk_at "w"
  refine ou W small (L.mono PY) hs Ua λP1 PW=>?_
  walk_at "w"
  refine (hn p Ua).halves λQa Qi=>?_
  have V4:=hK Qa (PW.trans Qi)
  have V4:K (halves (bi d p)).isSome Qa:=V4
  cases e:halves (bi d p) with
  | none =>
   rw [e] at V4
   simp only [dM]
   walk_at "w"
   exact V4
  | some n =>
   rw [e] at V4
   simp only [dM]
   walk_at "w"
   exact V4
 ·unfold pI
  walk_at "w"
  exact hK _ (aaj _)
 ·have el:[]++((ay (aca d.length)).filter (HK d)).map id=ay (eF d):=by
   rw [abA,af8]
   unfold ay eF
   rw [aeq]
   rfl
  rw [el]
  exact h _ PY
theorem Hy (n:Nat):oG n=ay (aca n):=rfl
theorem M6 (L:Lw Qb j t R rl os lay PJ so ss c sm v){es:List MV}(D:Du Qb st v es)(Yp:es.length<=8)(h:∀Ps,Q (.bool true) Ps){v0 v5 v6 Rj Sy RU R3 Uk ST SS:Option MV} :
  (aj (bY (cr .list bx (af 10) (ad (bl (ad (tK (.str ("sum":Str))) (ad (be (ad (af 9) ak)) (ad (aF jt (ad (c7 1 [3] (b9 (af 8)) (b8 0) d3 A3) ak)) ak)))) ak)))
 (aj (aX 11 (c7 1 [3] (nj (ad (aF dP (ad (af 3) ak)) ak)) (b8 0) vU pI))
 (aj (bY (cr .list bx (af 10) (ad (bl (ad (tK (.str ("sum":Str))) (ad (be (ad (c7 1 [3] (b9 (af 11)) (b8 0) d3 CU) ak)) (ad (aF jt (ad (c7 1 [3] (b9 (af 11)) (b8 0) d3 AX) ak)) ak)))) ak)))
 (aj (eO (b9 (be (ad (bl (ad (tK (.str ("name":Str))) (ad (tK (.int 2)) ak))) (ad (bl (ad (tK (.str ("local-name":Str))) (ad (tK (.int 3)) ak))) (ad (bl (ad (tK (.str ("namespace-uri":Str))) (ad (tK (.int 4)) ak))) ak))))) (iq [12,13]) m7)
 (aj (aX 14 (aF cx (ad (af 1) (ad (be (ad (tK (.str ("en":Str))) (ad (tK (.str ("EN-US":Str))) (ad (tK (.str ("fr":Str))) (ad (tK (.str ("e":Str))) ak))))) ak))))
 (aj (bY (cr .list bx (af 10) (ad (bl (ad (tK (.str ("lang":Str))) (ad (be (ad (af 14) ak)) (ad (aF iy (ad (af 3) (ad (af 4) (ad (af 14) ak)))) ak)))) ak)))
 (aj (eO (b9 (af 10)) (iq [15,16,17]) qq)
 (aj (eO (b9 (be (ad (tK (.str ("count":Str))) (ad (tK (.str ("sum":Str))) (ad (tK (.str ("name":Str))) ak))))) (b8 15) qg)
 (aj (aS (l6 (aF dK ak) (aF eC (ad (af 1) (ad (af 2) (ad (af 3) (ad (af 4) (ad (af 8) ak))))))))
 az))))))))) [v0,some (.ref j),some (.ref t),some (.ref rl),some (.int (v.at':Int)),v5,v6,some (.ref c),some (.ref sm),some (.ref v.lot),some (.ref v.due),Rj,Sy,RU,R3,Uk,ST,SS] st (fa Q):=by
 have UH:=L.vj
 have h19:=L.h19
 have small:v.d.length<=200:=by walk_at "o"
 have hn:∀k,k < v.d.length->jR (bi v.d k):=λk hk=>ze L.gd.wf L.gd.ok h19 hk
 have fr:=D.fresh
 walk_at "w"
 refine dY (D.hd) ?_
 walk_at "w"
 have D1:=D.pre (aB (.list [.ref v.lot]))
 have Wj:=aH (st:=st) (.list [.ref v.lot])
 generalize st.length=al at fr Wj
 generalize st++[MO.list [MV.ref v.lot]]=st1 at D1 Wj
 have L1:=D1.lw L
 refine eq rfl ?_
 walk_at "w"
 refine cb L1.smh ?_
 refine dr (by rw [bb]; have:=L.sl; walk_at "o") ?_
 refine xB L.gd.wf small L.gd.short L1.bs.lr rfl (λs hs=>aA hs L1.smh) L.some λP1 PW=>?_
 refine zR (ts:=v.som.map λk=>bi v.d k) (aH _) (by rw [abg]; have:=L.sl; walk_at "o") (λx hx=>?_) λQa Qi=>?_
 ·obtain⟨k,hk,rfl⟩:=c9 hx
  exact hn k (L.some k hk)
 have YO:=(PW.trans (aB _)).trans Qi
 have D3:=D1.pre YO
 have L3:=D3.lw L
 walk_at "w"
 rw [ab6]
 refine D3.app (.sum (ks:=v.som) (aA YO Wj) fr L3.loth ⟨by rw [UH]; exact L.lj,?_⟩ L.some) (by walk_at "o") λRK D4 K4=>?_
 ·have:=(bP L.loth).1
  rw [<- D.lt]; walk_at "o"
 walk_at "w"
 have L4:=D4.lw L
 refine eq rfl ?_
 walk_at "w"
 refine fW L4.bs.lr.rows (by rw [abg,L4.bs.lr.len]; walk_at "o") ?_
 refine abi (by walk_at "o") (abi (by rw [abg,L4.bs.lr.len]; walk_at "o") ?_)
 rw [abg,L4.bs.lr.len,aiL,Hy]
 refine dr (by rw [bb,afN]; walk_at "o") ?_
 refine Gr L.gd.wf small L.gd.short hn L4.bs.lr λRk RD=>?_
 have D5:=D4.pre (RD.trans (aB (.list (ay (eF v.d)))))
 have Ut:=aH (st:=Rk) (.list (ay (eF v.d)))
 generalize Rk.length=pli at Ut
 generalize Rk++[MO.list (ay (eF v.d))]=Rt at D5 Ut
 have Wy:∀k∈eF v.d,k < v.d.length:=λk hk=>abZ.mp (adj.mp hk).1
 have afm:(eF v.d).length<=v.d.length:=e7 v.d _
 walk_at "w"
 refine dY (D5.hd) ?_
 walk_at "w"
 have L5:=D5.lw L
 refine eq rfl ?_
 walk_at "w"
 refine cb Ut ?_
 refine dr (by rw [bb]; walk_at "o") ?_
 refine uf (d:=v.d) (rl:=rl) (rl':=0) small rfl L5.bs.lr (λs hs=>aA hs Ut) Wy rfl λSb RE=>?_
 have D7:=D5.pre RE
 have WX:=D7.fresh
 have D8:=D7.pre (aB (.list (ay (eF v.d))))
 have Xw:=aH (st:=Sb) (.list (ay (eF v.d)))
 have Y6:=aA (RE.trans (aB (.list (ay (eF v.d))))) Ut
 generalize Sb.length=plot at WX Xw
 generalize Sb++[MO.list (ay (eF v.d))]=Q4 at D8 Xw Y6
 have fr8:=D8.fresh
 walk_at "w"
 have D9:=D8.pre (aB (.list [.ref plot]))
 have Y7:=aH (st:=Q4) (.list [.ref plot])
 have ZR:=aA (aB (st:=Q4) (.list [.ref plot])) Xw
 have Xu:=aA (aB (st:=Q4) (.list [.ref plot])) Y6
 generalize Q4.length=al2 at fr8 Y7
 generalize Q4++[MO.list [MV.ref plot]]=Sx at D9 Y7 ZR Xu
 have L9:=D9.lw L
 refine eq rfl ?_
 walk_at "w"
 refine cb Xu ?_
 refine dr (by rw [bb]; walk_at "o") ?_
 refine xB L.gd.wf small L.gd.short L9.bs.lr rfl (λs hs=>aA hs Xu) Wy λRW Rn=>?_
 refine zR (ts:=(eF v.d).map λk=>bi v.d k) (aH _) (by rw [abg]; walk_at "o") (λx hx=>?_) λRO R1=>?_
 ·obtain⟨k,hk,rfl⟩:=c9 hx
  exact hn k (Wy k hk)
 have WN:=(Rn.trans (aB _)).trans R1
 have D11:=D9.pre WN
 walk_at "w"
 rw [ab6]
 refine D11.app (.sum (ks:=eF v.d) (aA WN Y7) fr8 (aA WN ZR) WX Wy) (by simp; walk_at "o") λUB D12 K12=>?_
 walk_at "w"
 exact Nt L D12 (by simp; walk_at "o") h
end
theorem Ho (st:MS)(x y z:MO):(st++[x]++[y]++[z])[st.length]?=some x/\(st++[x]++[y]++[z])[(st++[x]).length]?=some y/\(st++[x]++[y]++[z])[(st++[x]++[y]).length]?=some z /\
  st.length < (st++[x]++[y]++[z]).length/\((st++[x]).length≠0/\(st++[x]).length < (st++[x]++[y]++[z]).length)/\((st++[x]++[y]).length≠0/\(st++[x]++[y]).length < (st++[x]++[y]++[z]).length):=by
 simp
theorem law_true (ns:List Int)(SE:ns.length<=63):Kf [.ext ns] [] λV _=>V=.bool true:=by
 refine cD rfl ?_
 walk_at "w"
 refine FB SE λst1 PY S1 VO=>?_
 have VO:st1.length=1:=VO
 have S1:dQ st1 0:=S1
 walk_at "w"
 refine BT λP1 PW T2 RL=>?_
 have S2:=S1.pre PW
 refine Iq rfl ?_
 walk_at "w"
 have Y2:Ly st1.length (st1.length+1) []:=Hm
 have hj:¬cu st1.length (st1.length+1) [] 0:=by
  rintro (e | e | ⟨l,hl,_⟩)
  ·walk_at "o"
  ·walk_at "o"
  ·cases hl
 generalize st1.length=t at Y2 hj T2
 generalize t+1=R at Y2 hj T2
 refine Fp S2 T2 Y2 hj λQa rl lay PJ d D=>?_
 refine bv λGG PD=>?_
 obtain⟨⟨os,ss,B3,G⟩,hE,h19⟩:=D
 refine PD ?_
 clear T2 S2 S1 PW PY VO RL
 walk_at "w"
 refine fW B3.lr.rows (by rw [abg,B3.lr.len]; walk_at "o") ?_
 rw [abg,B3.lr.len]
 walk_at "w"
 refine d5 (top:=d.length) G.ne (by walk_at "o") B3.src λRK at' hat E4 S4=>?_
 have B4:=B3.ext E4 S4
 walk_at "w"
 refine d5 (top:=9) (by decide) (by decide) S4 λRk y hy E5 S5=>?_
 have B5:=B4.ext E5 S5
 walk_at "w"
 refine eD rfl ?_
 walk_at "w"
 rw [show (1+(y:Int))=((1+y:Nat):Int) by push_cast; rfl]
 refine d5 (top:=1+y) (by walk_at "o") (by walk_at "o") S5 λRt p hp E6 S6=>?_
 have B6:=B5.ext E6 S6
 walk_at "w"
 refine fk (n:=0) B6.lr B6.tr.small hat rfl rfl (λW Pt=>rfl) ?_
 walk_at "w"
 refine IY λSb RE hc7=>?_
 have B7:=B6.pre RE
 have So:Rt.length≠0:=by have:=B6.lt (x:=0) (by walk_at "m"); walk_at "o"
 generalize Rt.length=c at hc7 So
 walk_at "w"
 refine eq rfl ?_
 walk_at "w"
 refine fW B7.lr.rows (by rw [abg,B7.lr.len]; walk_at "o") ?_
 refine abi (by walk_at "o") (abi (by rw [abg,B7.lr.len]; walk_at "o") ?_)
 rw [abg,B7.lr.len,aiL,Hy]
 refine dr (by rw [bb,afN]; walk_at "o") ?_
 refine IN (j:=0) (st:=Sb) (aca d.length) [] none Sb B7.src .refl λQ4 som S8 K8 hm hml=>?_
 have Rc:∀k∈som,k < d.length:=λk hk=>by
  rcases hm k hk with q | q
  ·cases q
  ·exact abZ.mp q
 have QG:som.length<=19:=by simp at hml; walk_at "o"
 have B8:Bs Q4 0 t R rl os lay PJ d d ss:=by
  refine bv λGG PD=>?_
  obtain⟨n1,n2,n3,n4,n5,n6⟩:=B7.ne
  refine PD ?_
  exact⟨B7.tr.frame B7.ly K8 λx hx=>by rw [hx]; exact B7.ap 0 (.head _),B7.ly,B7.lr.keep K8 (λq=>n1 q.symm) λi hi q=>n4 (by have q:i=0:=q; subst q; exact hi),S8,K8.keep _ _ (λq=>n2 q.symm) B7.opn,B7.nd,B7.ap⟩
 have hc8:=hc7.keep K8 So
 have Tw:=aB (st:=Q4) (.list (ay som))
 have WU:=aH (st:=Q4) (.list (ay som))
 have Wa:Q4.length≠0:=by have:=B8.lt (x:=0) (by walk_at "m"); walk_at "o"
 have Xc:¬cu t R lay Q4.length:=λq=>acj _ (B8.tr.lt B8.ly q)
 generalize Q4.length=sm at WU Wa Xc
 generalize Q4++[MO.list (ay som)]=Sx at Tw WU
 have B9:=B8.pre Tw
 have hc9:=hc8.pre Tw
 walk_at "w"
 refine eq rfl ?_
 walk_at "w"
 refine cb WU ?_
 refine dr (by rw [bb]; walk_at "o") ?_
 refine uf (d:=d) (rl:=rl) (rl':=0) (by walk_at "o") rfl B9.lr (λs hs=>aA hs WU) Rc rfl λRW Rn=>?_
 have R1:=Rn.trans (aB (.list (ay som)))
 have WA:=aH (st:=RW) (.list (ay som))
 have Vv:RW.length≠0:=by have:=(B9.pre Rn).lt (x:=0) (by walk_at "m"); walk_at "o"
 generalize RW.length=lot at WA Vv
 generalize RW++[MO.list (ay som)]=RO at R1 WA
 have V8:=B9.pre R1
 have Wo:=hc9.pre R1
 have ac5:=aA R1 WU
 walk_at "w"
 refine fW (xs:=ay som) ?_ (by rw [bb]; walk_at "o") ?_
 ·exact aA ((aB (.list [])).trans ((aB (.list [])).trans (aB (.list [.ref lot])))) WA
 rw [bb]
 walk_at "w"
 have SZ:RO <+: RO++[.list []]++[.list []]++[.list [.ref lot]]:=(aB (.list [])).trans ((aB (.list [])).trans (aB (.list [.ref lot])))
 obtain⟨q1,q2,q3,r1',r2,r3⟩:=Ho RO (.list []) (.list []) (.list [.ref lot])
 have r1:RO.length≠0/\_:=⟨abW (Nat.zero_lt_of_lt (V8.lt (x:=0) (.head _))),r1'⟩
 generalize RO.length=a1 at q1 r1
 generalize (RO++[MO.list []]).length=a2 at q2 r2
 generalize (RO++[MO.list []]++[MO.list []]).length=a3 at q3 r3
 generalize RO++[MO.list []]++[MO.list []]++[MO.list [.ref lot]]=UB at SZ q1 q2 q3 r1 r2 r3
 have Yg:=V8.pre SZ
 have L:Lw UB 0 t R rl os lay PJ ss ss c sm ⟨0,UB.length,lot,at',1+(p:Int),((1+y:Nat):Int),som,d⟩:=
  ⟨Yg,G,hE,h19,hat,Wo.pre SZ,aA SZ ac5,aA SZ WA,Rc,QG,So,Wa,Vv,Xc,rfl⟩
 have P6:UB.length≠0:=by have:=r1.2; walk_at "o"
 refine M6 L (es:=[.tup [.str "last",.ref a1,num ((1+y:Nat):Int) 1],.tup [.str "position",.ref a2,num (1+(p:Int)) 1],.tup [.str "count",.ref a3,num (som.length:Int) 1]]) ⟨.pre (aB _),Yg.src.pre (aB _),aH _,λe he=>?_,rfl,P6,by simp⟩ (by walk_at "m") λ_=>rfl
 simp only [abB,abx,or_false] at he
 rcases he with rfl | rfl | rfl
 ·exact .last (aA (aB _) q1) ⟨r1.1,abf r1.2⟩
 ·exact .position (aA (aB _) q2) ⟨r2.1,abf r2.2⟩
 ·exact .count (aA (aB _) q3) ⟨r3.1,abf r3.2⟩
end
end Mine.Internal
open PySem PySem.W PyProof.Rows
set_option maxHeartbeats 8000000 in
theorem PySem.Challenge.cw_on0193_01_holds : PySem.Challenge.rw_on0193_01.Holds := by
  refine Mine.hd ?_
  k_go0
  all_goals try k_fold
  refine Mine.Internal.law_run (by assumption) (by assumption) (by assumption) (by assumption) rfl (by assumption) (by assumption) (by assumption) ?hm (by assumption) ?h12 ?h13 ?h23 (by assumption) (by assumption) ?hsc ?hgl ?hbu ?hloc ?hfr ?hcl (Mine.Internal.law_true _ ?hlen) ?P
  case hm => rfl
  case hsc => rfl
  case hgl => rfl
  case hbu => rfl
  case hloc => rfl
  case hfr => rfl
  case hcl => rfl
  case P =>
    intro h' m' tk F'' G''
    refine ⟨goodW_bool F'' (by assumption) (raisesW_false ?_) ?_, G'', trivial⟩
    · wrow_none_raised
    · kc_post
  case h12 => exact Nat.succ_ne_self _
  case h13 => rename 138 < _ => l0; exact Nat.ne_of_gt (Nat.lt_succ_of_lt (Nat.lt_succ_of_lt l0))
  case h23 => rename 138 < _ => l0; exact Nat.ne_of_gt (Nat.lt_succ_of_lt l0)
  case hlen => omega
