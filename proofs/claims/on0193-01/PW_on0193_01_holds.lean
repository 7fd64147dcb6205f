import PyProof.Rows.All
import Wide.All
import OpenK.AllK
import Wide.FinOn
import Lean
import PySem.Challenge.RW_on0193_01
set_option genSizeOf false
set_option bootstrap.genMatcherCode false
set_option backward.eqns.nonrecursive false
set_option compiler.extract_closed false
set_option Elab.async false
set_option tactic.hygienic false
set_option maxRecDepth 100000
set_option maxHeartbeats 2000000
set_option linter.unusedVariables false
set_option linter.unusedSimpArgs false
namespace Mine
def Tr:=True
theorem tr:Tr:=⟨⟩
end Mine
namespace PySem.W.Fast
open Mine
theorem tw10010936943081839664:Tr:=tr
theorem tw10015664371746657536:Tr:=tr
theorem tw10029231156530900338:Tr:=tr
theorem tw10030586065758793078:Tr:=tr
theorem tw10042830170769951172:Tr:=tr
theorem tw10045867985992453528:Tr:=tr
theorem tw10057510723706494237:Tr:=tr
theorem tw10181792811725400092:Tr:=tr
theorem tw10205541121877940668:Tr:=tr
theorem tw10227693086864044499:Tr:=tr
theorem tw10308316962582663543:Tr:=tr
theorem tw10314498396905981064:Tr:=tr
theorem tw10317580896714288900:Tr:=tr
theorem tw10323183001455561277:Tr:=tr
theorem tw10352308551163946355:Tr:=tr
theorem tw10379131730601215995:Tr:=tr
theorem tw1041845030581493396:Tr:=tr
theorem tw10470071008263537045:Tr:=tr
theorem tw10487160056961263569:Tr:=tr
theorem tw10500077913531017323:Tr:=tr
theorem tw10528696920762540405:Tr:=tr
theorem tw1055568401681811165:Tr:=tr
theorem tw10670733350059645105:Tr:=tr
theorem tw10706342367453228570:Tr:=tr
theorem tw10758392820592806131:Tr:=tr
theorem tw10819683100428557426:Tr:=tr
theorem tw10833955939284561965:Tr:=tr
theorem tw1085346719588807367:Tr:=tr
theorem tw10887116778572429059:Tr:=tr
theorem tw10919533547850550483:Tr:=tr
theorem tw1092655722715705105:Tr:=tr
theorem tw10938465397075749097:Tr:=tr
theorem tw10939839348159177617:Tr:=tr
theorem tw10942035263794033107:Tr:=tr
theorem tw10996506086634736982:Tr:=tr
theorem tw11013792430000457035:Tr:=tr
theorem tw1102190903223815498:Tr:=tr
theorem tw11027842469998634660:Tr:=tr
theorem tw1107438419126420414:Tr:=tr
theorem tw11108263761283441063:Tr:=tr
theorem tw11130039905162102590:Tr:=tr
theorem tw11161088081135249708:Tr:=tr
theorem tw11166942722945506595:Tr:=tr
theorem tw11270796479367742343:Tr:=tr
theorem tw11277413387252134812:Tr:=tr
theorem tw11277716924127702174:Tr:=tr
theorem tw11306939235166856333:Tr:=tr
theorem tw11310463157757771331:Tr:=tr
theorem tw11317593695737139937:Tr:=tr
theorem tw11333186260410459676:Tr:=tr
theorem tw1139862187096482527:Tr:=tr
theorem tw11420187438672877268:Tr:=tr
theorem tw11445135464325071761:Tr:=tr
theorem tw11462045893675790159:Tr:=tr
theorem tw11495947367809530248:Tr:=tr
theorem tw11518781747449614426:Tr:=tr
theorem tw11519604305632133818:Tr:=tr
theorem tw11566699232636054958:Tr:=tr
theorem tw11588390666370768167:Tr:=tr
theorem tw11625766737575182897:Tr:=tr
theorem tw11636919720809706868:Tr:=tr
theorem tw11682084944484805031:Tr:=tr
theorem tw11707371222683016368:Tr:=tr
theorem tw11707433790658880453:Tr:=tr
theorem tw117213463901210413:Tr:=tr
theorem tw11729385059970357855:Tr:=tr
theorem tw11740888236361828772:Tr:=tr
theorem tw11767421526060770920:Tr:=tr
theorem tw11788150170368784547:Tr:=tr
theorem tw11790162104776037713:Tr:=tr
theorem tw11796506867022685745:Tr:=tr
theorem tw11817470609975844035:Tr:=tr
theorem tw11825729669827539873:Tr:=tr
theorem tw1184552218554016812:Tr:=tr
theorem tw11853533878840232495:Tr:=tr
theorem tw11863081143760314161:Tr:=tr
theorem tw11892598404827812706:Tr:=tr
theorem tw1189734492583310:Tr:=tr
theorem tw11939915149646268982:Tr:=tr
theorem tw11957962974430299695:Tr:=tr
theorem tw11964429278604863157:Tr:=tr
theorem tw11985326045990495214:Tr:=tr
theorem tw11994158751524154303:Tr:=tr
theorem tw1204117194425446250:Tr:=tr
theorem tw12095823642532355627:Tr:=tr
theorem tw12114495157272644582:Tr:=tr
theorem tw12172078356533094185:Tr:=tr
theorem tw12177639751122801600:Tr:=tr
theorem tw1218959903707654005:Tr:=tr
theorem tw12224578244612797663:Tr:=tr
theorem tw12233582284571471492:Tr:=tr
theorem tw12237943961548833269:Tr:=tr
theorem tw12268644228514654432:Tr:=tr
theorem tw12290603225136948437:Tr:=tr
theorem tw12329403913580668285:Tr:=tr
theorem tw12359285113459375979:Tr:=tr
theorem tw12371321757623732685:Tr:=tr
theorem tw12393455550290869266:Tr:=tr
theorem tw12450158673883907302:Tr:=tr
theorem tw12488000419048109807:Tr:=tr
theorem tw1258717718454355964:Tr:=tr
theorem tw12635297910168745909:Tr:=tr
theorem tw12635813782599140982:Tr:=tr
theorem tw12659028871203227004:Tr:=tr
theorem tw12660628722211587041:Tr:=tr
theorem tw12679591844961189642:Tr:=tr
theorem tw12726346659333912481:Tr:=tr
theorem tw12734952128020822468:Tr:=tr
theorem tw12809422525583811893:Tr:=tr
theorem tw12813236842856870187:Tr:=tr
theorem tw12832477231654346042:Tr:=tr
theorem tw12835720964997663042:Tr:=tr
theorem tw12850107946570832962:Tr:=tr
theorem tw12866136484021002089:Tr:=tr
theorem tw12898947447245864913:Tr:=tr
theorem tw1291980286583624508:Tr:=tr
theorem tw12945451867199242903:Tr:=tr
theorem tw12981051755390344553:Tr:=tr
theorem tw13002492023102617099:Tr:=tr
theorem tw13016732220969518872:Tr:=tr
theorem tw13036272033356848781:Tr:=tr
theorem tw13141144453892091621:Tr:=tr
theorem tw13160144027095335755:Tr:=tr
theorem tw13169248704851481478:Tr:=tr
theorem tw1320183511955256522:Tr:=tr
theorem tw13215998728584607739:Tr:=tr
theorem tw13236226663087606529:Tr:=tr
theorem tw13252181687094117063:Tr:=tr
theorem tw13254397897704925713:Tr:=tr
theorem tw13314330512976039754:Tr:=tr
theorem tw13317431791736044220:Tr:=tr
theorem tw13320674448307528323:Tr:=tr
theorem tw1333364371103165705:Tr:=tr
theorem tw1340868782516533803:Tr:=tr
theorem tw13471461260053382970:Tr:=tr
theorem tw13505292571300825877:Tr:=tr
theorem tw13512673800721320934:Tr:=tr
theorem tw13526986893379352335:Tr:=tr
theorem tw1355338860687761863:Tr:=tr
theorem tw13559156169165276386:Tr:=tr
theorem tw13580328829973926956:Tr:=tr
theorem tw13581749221687468397:Tr:=tr
theorem tw13607416678640721797:Tr:=tr
theorem tw13615603153576403970:Tr:=tr
theorem tw13640514254501968386:Tr:=tr
theorem tw136631920214876835:Tr:=tr
theorem tw13678640442995254988:Tr:=tr
theorem tw1370275717833778536:Tr:=tr
theorem tw13721567128424951087:Tr:=tr
theorem tw13725850141900786883:Tr:=tr
theorem tw13746126617404028095:Tr:=tr
theorem tw13759679279233594173:Tr:=tr
theorem tw13764463391892403441:Tr:=tr
theorem tw13776390136698705113:Tr:=tr
theorem tw13789449189825218787:Tr:=tr
theorem tw13809362725867891129:Tr:=tr
theorem tw13833065179229638619:Tr:=tr
theorem tw13871001218405608335:Tr:=tr
theorem tw13900631225919944168:Tr:=tr
theorem tw13912434898499826684:Tr:=tr
theorem tw13915792640404377917:Tr:=tr
theorem tw13925586954763233925:Tr:=tr
theorem tw1393629259489396696:Tr:=tr
theorem tw13951257522405164796:Tr:=tr
theorem tw13981391230805400906:Tr:=tr
theorem tw13987355940573415152:Tr:=tr
theorem tw1401972060568974870:Tr:=tr
theorem tw1402947280878808549:Tr:=tr
theorem tw14073706353221006472:Tr:=tr
theorem tw14097648870716263351:Tr:=tr
theorem tw14108194823987119177:Tr:=tr
theorem tw14112274594779413971:Tr:=tr
theorem tw14126943448341045398:Tr:=tr
theorem tw1414301608579184545:Tr:=tr
theorem tw14168537005229113720:Tr:=tr
theorem tw1419416864934026935:Tr:=tr
theorem tw14209830616999942402:Tr:=tr
theorem tw14210447440969649564:Tr:=tr
theorem tw14214133299417103183:Tr:=tr
theorem tw14223099787259518943:Tr:=tr
theorem tw14224011070414065920:Tr:=tr
theorem tw14285029430470858289:Tr:=tr
theorem tw14305139224198610471:Tr:=tr
theorem tw14311459727803291754:Tr:=tr
theorem tw14323765505736481980:Tr:=tr
theorem tw14326252917377295143:Tr:=tr
theorem tw14333388528381170442:Tr:=tr
theorem tw14386061602966655976:Tr:=tr
theorem tw14530364306720264245:Tr:=tr
theorem tw14537914154153760125:Tr:=tr
theorem tw14544052848187043789:Tr:=tr
theorem tw14553827428707814869:Tr:=tr
theorem tw14559557019303687921:Tr:=tr
theorem tw14649835086701579774:Tr:=tr
theorem tw14714103240675001986:Tr:=tr
theorem tw14778209649434054790:Tr:=tr
theorem tw14821650378409806113:Tr:=tr
theorem tw14834023430324568649:Tr:=tr
theorem tw14837249469386935497:Tr:=tr
theorem tw14847034805825309785:Tr:=tr
theorem tw14884601019740666482:Tr:=tr
theorem tw14896874001708588922:Tr:=tr
theorem tw14934708107589980039:Tr:=tr
theorem tw14952990662201256454:Tr:=tr
theorem tw14973007898608030118:Tr:=tr
theorem tw14979626087600564940:Tr:=tr
theorem tw15007238320947547705:Tr:=tr
theorem tw1503297043503765363:Tr:=tr
theorem tw15040288709643333888:Tr:=tr
theorem tw15041003319150489328:Tr:=tr
theorem tw15066959818950650227:Tr:=tr
theorem tw15079194523842364033:Tr:=tr
theorem tw15112985482279097393:Tr:=tr
theorem tw15115017634950401937:Tr:=tr
theorem tw15157221202141545114:Tr:=tr
theorem tw15168306246750427876:Tr:=tr
theorem tw151948405760981731:Tr:=tr
theorem tw15199281503961881116:Tr:=tr
theorem tw15202239659555905331:Tr:=tr
theorem tw15207642765257501584:Tr:=tr
theorem tw15215539614974913122:Tr:=tr
theorem tw15263041282635125899:Tr:=tr
theorem tw15278061642289888581:Tr:=tr
theorem tw15323854079317868165:Tr:=tr
theorem tw1536587703002861866:Tr:=tr
theorem tw15376083050721069600:Tr:=tr
theorem tw1537898542681612871:Tr:=tr
theorem tw15423634916342008072:Tr:=tr
theorem tw15450981722951097364:Tr:=tr
theorem tw15468230090516036684:Tr:=tr
theorem tw15475462885187679331:Tr:=tr
theorem tw15542503528162795033:Tr:=tr
theorem tw15542691292777871779:Tr:=tr
theorem tw15560500314895047343:Tr:=tr
theorem tw15562837088269578035:Tr:=tr
theorem tw15601113415458257849:Tr:=tr
theorem tw15663404670287596823:Tr:=tr
theorem tw15736541856241217950:Tr:=tr
theorem tw15742981410569661332:Tr:=tr
theorem tw1574873078441994576:Tr:=tr
theorem tw15766043655864335149:Tr:=tr
theorem tw15806122291839087668:Tr:=tr
theorem tw15823609455315575823:Tr:=tr
theorem tw15880737140895825463:Tr:=tr
theorem tw15883128290750243503:Tr:=tr
theorem tw15894407043143930727:Tr:=tr
theorem tw15900120412870309639:Tr:=tr
theorem tw15902184279288820625:Tr:=tr
theorem tw15980859228951719591:Tr:=tr
theorem tw16018607276475445134:Tr:=tr
theorem tw16039550372008468697:Tr:=tr
theorem tw16049961110935095269:Tr:=tr
theorem tw16145008321745377990:Tr:=tr
theorem tw16176465441171805009:Tr:=tr
theorem tw1617757218408452269:Tr:=tr
theorem tw16180483070735683940:Tr:=tr
theorem tw16180582048198870337:Tr:=tr
theorem tw16189536214700107852:Tr:=tr
theorem tw1620339239838986703:Tr:=tr
theorem tw16223305294053301992:Tr:=tr
theorem tw16241802466949684156:Tr:=tr
theorem tw16292439048969090190:Tr:=tr
theorem tw16296994325663420285:Tr:=tr
theorem tw1631149150583789468:Tr:=tr
theorem tw16326889199254633757:Tr:=tr
theorem tw16328912562034613984:Tr:=tr
theorem tw16339471991904476338:Tr:=tr
theorem tw16349216596472256690:Tr:=tr
theorem tw16350708796919097252:Tr:=tr
theorem tw16366562015402752707:Tr:=tr
theorem tw1638017585896720355:Tr:=tr
theorem tw16406328271908756883:Tr:=tr
theorem tw16413264400604254196:Tr:=tr
theorem tw16413963553889246368:Tr:=tr
theorem tw16417370028952169744:Tr:=tr
theorem tw16437185098154296904:Tr:=tr
theorem tw16439824349840649037:Tr:=tr
theorem tw16494616584097029746:Tr:=tr
theorem tw16521520704757860501:Tr:=tr
theorem tw16531745337717519161:Tr:=tr
theorem tw16548257151911338427:Tr:=tr
theorem tw16593013826814733010:Tr:=tr
theorem tw16643379632663270332:Tr:=tr
theorem tw16644606511662114574:Tr:=tr
theorem tw16648231224745350325:Tr:=tr
theorem tw16655555454665732581:Tr:=tr
theorem tw16741492637210864865:Tr:=tr
theorem tw16752143609539240740:Tr:=tr
theorem tw16758808235637498351:Tr:=tr
theorem tw16792545251062261874:Tr:=tr
theorem tw16817318245366136608:Tr:=tr
theorem tw16846860572762119324:Tr:=tr
theorem tw16865151637890581275:Tr:=tr
theorem tw16869277618539721502:Tr:=tr
theorem tw16873187988247708562:Tr:=tr
theorem tw16874561944515371726:Tr:=tr
theorem tw16916688483869632129:Tr:=tr
theorem tw16942194440817826258:Tr:=tr
theorem tw16966814322356759819:Tr:=tr
theorem tw16979880578912567463:Tr:=tr
theorem tw17000155066101142889:Tr:=tr
theorem tw17000458434675057986:Tr:=tr
theorem tw17005011963521035879:Tr:=tr
theorem tw17015423121036801654:Tr:=tr
theorem tw17018628822417861297:Tr:=tr
theorem tw17024950926791866790:Tr:=tr
theorem tw1702518465993881591:Tr:=tr
theorem tw17057272898397164401:Tr:=tr
theorem tw1706496860858754268:Tr:=tr
theorem tw17071476683966804577:Tr:=tr
theorem tw1708024556718086227:Tr:=tr
theorem tw17100903815162463580:Tr:=tr
theorem tw17101871299007795629:Tr:=tr
theorem tw17111948838632640456:Tr:=tr
theorem tw17164873540382356111:Tr:=tr
theorem tw17183712847048597117:Tr:=tr
theorem tw17244072584429378644:Tr:=tr
theorem tw17274371674624000324:Tr:=tr
theorem tw17279654841073493023:Tr:=tr
theorem tw17280976486791472633:Tr:=tr
theorem tw17300597898927385350:Tr:=tr
theorem tw17325535178939296128:Tr:=tr
theorem tw17341736924252097559:Tr:=tr
theorem tw17344680358763864322:Tr:=tr
theorem tw17352973434858128600:Tr:=tr
theorem tw1735497430108182060:Tr:=tr
theorem tw17394056326795013819:Tr:=tr
theorem tw17429684086410527887:Tr:=tr
theorem tw17434858337260393937:Tr:=tr
theorem tw17475289236778735526:Tr:=tr
theorem tw17476080006546285661:Tr:=tr
theorem tw17497748084772794779:Tr:=tr
theorem tw1749818173716722547:Tr:=tr
theorem tw17503288770812694035:Tr:=tr
theorem tw17517737089405305841:Tr:=tr
theorem tw17520869792638436183:Tr:=tr
theorem tw17532440430192770315:Tr:=tr
theorem tw17532718790514356516:Tr:=tr
theorem tw17537794083376710389:Tr:=tr
theorem tw17552769576498331613:Tr:=tr
theorem tw17554001833073541016:Tr:=tr
theorem tw17679261114430710190:Tr:=tr
theorem tw17719373434677690450:Tr:=tr
theorem tw1772237422875290029:Tr:=tr
theorem tw17730428716208468724:Tr:=tr
theorem tw17730448691065144110:Tr:=tr
theorem tw17765544955259793912:Tr:=tr
theorem tw17774800907425398282:Tr:=tr
theorem tw17814930658547583709:Tr:=tr
theorem tw17827458813498177553:Tr:=tr
theorem tw17828083071136270317:Tr:=tr
theorem tw17842620306162639686:Tr:=tr
theorem tw17853915177807527196:Tr:=tr
theorem tw17863021456227041891:Tr:=tr
theorem tw17888162413812561239:Tr:=tr
theorem tw17899373020297197333:Tr:=tr
theorem tw17913803186225011329:Tr:=tr
theorem tw17943406268862710625:Tr:=tr
theorem tw17954471519018878134:Tr:=tr
theorem tw17954736447514056666:Tr:=tr
theorem tw17964007177503468958:Tr:=tr
theorem tw17975652961387846372:Tr:=tr
theorem tw17988542015724977305:Tr:=tr
theorem tw17993156020533580102:Tr:=tr
theorem tw18011898689540126615:Tr:=tr
theorem tw18056578402003937789:Tr:=tr
theorem tw18081866645286916028:Tr:=tr
theorem tw18101931140130867144:Tr:=tr
theorem tw18126140380344562322:Tr:=tr
theorem tw18163462532019968843:Tr:=tr
theorem tw18163708392712065173:Tr:=tr
theorem tw18188234029961486008:Tr:=tr
theorem tw18220123701641295943:Tr:=tr
theorem tw18260038339965228139:Tr:=tr
theorem tw18263319221461684349:Tr:=tr
theorem tw18273839248471157720:Tr:=tr
theorem tw1829445100760108279:Tr:=tr
theorem tw18340240734955500558:Tr:=tr
theorem tw18345786424863182364:Tr:=tr
theorem tw18350330562280901221:Tr:=tr
theorem tw18350638575300117064:Tr:=tr
theorem tw183835017167291270:Tr:=tr
theorem tw18410474027866654770:Tr:=tr
theorem tw18416463498863911781:Tr:=tr
theorem tw1886563365779066154:Tr:=tr
theorem tw189603312586018693:Tr:=tr
theorem tw1962928258387122110:Tr:=tr
theorem tw196644378293983589:Tr:=tr
theorem tw2001226814458364393:Tr:=tr
theorem tw2011108890870493169:Tr:=tr
theorem tw2039238271031011813:Tr:=tr
theorem tw219737044198020058:Tr:=tr
theorem tw2283851925072248500:Tr:=tr
theorem tw2315820567201803617:Tr:=tr
theorem tw2354101950205528012:Tr:=tr
theorem tw2378363196638174374:Tr:=tr
theorem tw2401699919119007470:Tr:=tr
theorem tw2408619945344806742:Tr:=tr
theorem tw2447775223705975068:Tr:=tr
theorem tw2460228577881660442:Tr:=tr
theorem tw2478078296215019888:Tr:=tr
theorem tw2569364866550412066:Tr:=tr
theorem tw2571919107429820419:Tr:=tr
theorem tw2599325451414397859:Tr:=tr
theorem tw2611137233208623240:Tr:=tr
theorem tw2627984346626558326:Tr:=tr
theorem tw2660918139993853925:Tr:=tr
theorem tw2664551874359636763:Tr:=tr
theorem tw2670528217467546775:Tr:=tr
theorem tw2711585505577850959:Tr:=tr
theorem tw2718901123391026995:Tr:=tr
theorem tw2719445374943340272:Tr:=tr
theorem tw2736616831223182526:Tr:=tr
theorem tw274283560391228834:Tr:=tr
theorem tw2759451637364818457:Tr:=tr
theorem tw282004115355043989:Tr:=tr
theorem tw2902314222560053993:Tr:=tr
theorem tw2905824091091238844:Tr:=tr
theorem tw2922074901204462755:Tr:=tr
theorem tw2948108419219029167:Tr:=tr
theorem tw2951486255847992690:Tr:=tr
theorem tw2958062672499776758:Tr:=tr
theorem tw2968979199505139716:Tr:=tr
theorem tw3039592710220408265:Tr:=tr
theorem tw3093977132361051618:Tr:=tr
theorem tw3094477031063562474:Tr:=tr
theorem tw3118938333895590913:Tr:=tr
theorem tw3131671291697673992:Tr:=tr
theorem tw313226197891681235:Tr:=tr
theorem tw3142773779024712118:Tr:=tr
theorem tw3152983702415266003:Tr:=tr
theorem tw3209381107111851631:Tr:=tr
theorem tw3264259588550801142:Tr:=tr
theorem tw3267979357774110234:Tr:=tr
theorem tw3282434896037501709:Tr:=tr
theorem tw3315324234476444515:Tr:=tr
theorem tw3325841961599345399:Tr:=tr
theorem tw3327986453032591115:Tr:=tr
theorem tw3355348695024010778:Tr:=tr
theorem tw3424931102881643321:Tr:=tr
theorem tw3442601649717412197:Tr:=tr
theorem tw347637069881736656:Tr:=tr
theorem tw352327453830155157:Tr:=tr
theorem tw3560238982266916124:Tr:=tr
theorem tw3577408171920636059:Tr:=tr
theorem tw3619232141914619222:Tr:=tr
theorem tw3632806688527778417:Tr:=tr
theorem tw3695515675974049574:Tr:=tr
theorem tw3698559305507148144:Tr:=tr
theorem tw3740020263889925745:Tr:=tr
theorem tw3764465048917985505:Tr:=tr
theorem tw3766158894648301139:Tr:=tr
theorem tw3778451253796500701:Tr:=tr
theorem tw3820604794100220378:Tr:=tr
theorem tw383695940523520267:Tr:=tr
theorem tw3856783459128436802:Tr:=tr
theorem tw387338674003428930:Tr:=tr
theorem tw3880421473898291048:Tr:=tr
theorem tw3891137856419664920:Tr:=tr
theorem tw389472881494512206:Tr:=tr
theorem tw39160002569200845:Tr:=tr
theorem tw392140993173905013:Tr:=tr
theorem tw3952652319720093869:Tr:=tr
theorem tw3953757239420563355:Tr:=tr
theorem tw3972328310683599613:Tr:=tr
theorem tw3976722010076183465:Tr:=tr
theorem tw4011157648589011858:Tr:=tr
theorem tw4039474712603431140:Tr:=tr
theorem tw4071324889030633612:Tr:=tr
theorem tw4075660801711882420:Tr:=tr
theorem tw4090926877573551719:Tr:=tr
theorem tw4172830789200971933:Tr:=tr
theorem tw4275521005467322725:Tr:=tr
theorem tw4278798014809849964:Tr:=tr
theorem tw4292500188555128830:Tr:=tr
theorem tw4299136966843209011:Tr:=tr
theorem tw4302124980754421698:Tr:=tr
theorem tw4319705520415482375:Tr:=tr
theorem tw43969757491396457:Tr:=tr
theorem tw4405960384096086239:Tr:=tr
theorem tw4407734736301137906:Tr:=tr
theorem tw441327347791068078:Tr:=tr
theorem tw4434333111790514575:Tr:=tr
theorem tw4525517667737911620:Tr:=tr
theorem tw4552823106982906706:Tr:=tr
theorem tw4558998842232669794:Tr:=tr
theorem tw4575980220486274672:Tr:=tr
theorem tw460243522976405022:Tr:=tr
theorem tw4613930686462287906:Tr:=tr
theorem tw4658958612460137192:Tr:=tr
theorem tw4679858250743294509:Tr:=tr
theorem tw4681523508651956083:Tr:=tr
theorem tw470574548607681690:Tr:=tr
theorem tw4748654258956052638:Tr:=tr
theorem tw4775785305629353868:Tr:=tr
theorem tw4797165386629745026:Tr:=tr
theorem tw4800724452203346748:Tr:=tr
theorem tw4858009861420398278:Tr:=tr
theorem tw4879560196417449868:Tr:=tr
theorem tw4904739604578439355:Tr:=tr
theorem tw4921902886906138986:Tr:=tr
theorem tw4933834842325187142:Tr:=tr
theorem tw4936483359421988267:Tr:=tr
theorem tw4966893808263662355:Tr:=tr
theorem tw5032809538720368765:Tr:=tr
theorem tw505943868828395459:Tr:=tr
theorem tw5076957145309523181:Tr:=tr
theorem tw5111356299099525756:Tr:=tr
theorem tw5149714755402479525:Tr:=tr
theorem tw5152784196030571298:Tr:=tr
theorem tw5189142188285759775:Tr:=tr
theorem tw5200128776193632040:Tr:=tr
theorem tw5248340912204065574:Tr:=tr
theorem tw5268983451555188008:Tr:=tr
theorem tw5345256250457102556:Tr:=tr
theorem tw5349121933718820234:Tr:=tr
theorem tw535072334866317008:Tr:=tr
theorem tw5357591511691535388:Tr:=tr
theorem tw5396446701170858492:Tr:=tr
theorem tw5450187663091677483:Tr:=tr
theorem tw5518745428033880147:Tr:=tr
theorem tw5565278806992967083:Tr:=tr
theorem tw558745408833754511:Tr:=tr
theorem tw563124612126607214:Tr:=tr
theorem tw5701610774189311196:Tr:=tr
theorem tw5706481520468235054:Tr:=tr
theorem tw5719599256827190719:Tr:=tr
theorem tw5721027456603625697:Tr:=tr
theorem tw5732905514179830355:Tr:=tr
theorem tw5758256569797452207:Tr:=tr
theorem tw5770868932273138760:Tr:=tr
theorem tw5823794197072137003:Tr:=tr
theorem tw5832503352825792928:Tr:=tr
theorem tw5882768191206486792:Tr:=tr
theorem tw5902227825499142635:Tr:=tr
theorem tw5923252988546675246:Tr:=tr
theorem tw5925582254088234700:Tr:=tr
theorem tw5976474108018559520:Tr:=tr
theorem tw5978237884098788730:Tr:=tr
theorem tw6004533443673955352:Tr:=tr
theorem tw6012508502120743258:Tr:=tr
theorem tw6019396324639902685:Tr:=tr
theorem tw6059929106960060952:Tr:=tr
theorem tw607167704815816724:Tr:=tr
theorem tw608726401823008365:Tr:=tr
theorem tw6090905460779295987:Tr:=tr
theorem tw6122645084068987007:Tr:=tr
theorem tw6123655918767846522:Tr:=tr
theorem tw6125931036764729998:Tr:=tr
theorem tw6127375697748050860:Tr:=tr
theorem tw6135381517318000843:Tr:=tr
theorem tw6179359751918216688:Tr:=tr
theorem tw618205885557783147:Tr:=tr
theorem tw6213141578215901147:Tr:=tr
theorem tw6214688769961185500:Tr:=tr
theorem tw6245536207120538393:Tr:=tr
theorem tw6363645014702824404:Tr:=tr
theorem tw6380047634161181297:Tr:=tr
theorem tw6380782515089751550:Tr:=tr
theorem tw6426273055680023932:Tr:=tr
theorem tw6434138532213402376:Tr:=tr
theorem tw6434265647005701932:Tr:=tr
theorem tw6448080314894763839:Tr:=tr
theorem tw6550987210724342151:Tr:=tr
theorem tw6580340599500149305:Tr:=tr
theorem tw6587116730350146372:Tr:=tr
theorem tw6589095468515690095:Tr:=tr
theorem tw6607189417530752870:Tr:=tr
theorem tw6662432510661729299:Tr:=tr
theorem tw667198328695590252:Tr:=tr
theorem tw6683783046931543321:Tr:=tr
theorem tw6711915476519705758:Tr:=tr
theorem tw6714822604882049554:Tr:=tr
theorem tw6722154040420286063:Tr:=tr
theorem tw6789855027759293466:Tr:=tr
theorem tw6817277305950994716:Tr:=tr
theorem tw682011567655089306:Tr:=tr
theorem tw6832808476680081064:Tr:=tr
theorem tw6834602518627153040:Tr:=tr
theorem tw6891000109920058784:Tr:=tr
theorem tw6907747680420023104:Tr:=tr
theorem tw6909570525239066004:Tr:=tr
theorem tw6929956602132211858:Tr:=tr
theorem tw6967401301877209104:Tr:=tr
theorem tw6993175162768986339:Tr:=tr
theorem tw7009043117176579089:Tr:=tr
theorem tw7035115661146626270:Tr:=tr
theorem tw704327219915372674:Tr:=tr
theorem tw7081425507203772304:Tr:=tr
theorem tw7082770336023389322:Tr:=tr
theorem tw7094674258960923220:Tr:=tr
theorem tw7098571738820278039:Tr:=tr
theorem tw7140130562030077042:Tr:=tr
theorem tw716658179208862652:Tr:=tr
theorem tw7198390536060210744:Tr:=tr
theorem tw721709456127091705:Tr:=tr
theorem tw7229665172594901996:Tr:=tr
theorem tw7232422423428716515:Tr:=tr
theorem tw724751600484774222:Tr:=tr
theorem tw7250012664060256230:Tr:=tr
theorem tw725871291056497461:Tr:=tr
theorem tw7269565832213808900:Tr:=tr
theorem tw7275051467321613617:Tr:=tr
theorem tw7276740287692124622:Tr:=tr
theorem tw7299303143086499733:Tr:=tr
theorem tw7299951869573292228:Tr:=tr
theorem tw7323676302269181137:Tr:=tr
theorem tw7344376507651311505:Tr:=tr
theorem tw7365555872484859036:Tr:=tr
theorem tw7392212959928792091:Tr:=tr
theorem tw7397068168572129948:Tr:=tr
theorem tw7401281599722004195:Tr:=tr
theorem tw7405434945208526273:Tr:=tr
theorem tw7483462131439158144:Tr:=tr
theorem tw7496433998918960881:Tr:=tr
theorem tw7499937903120025604:Tr:=tr
theorem tw7503421922109321716:Tr:=tr
theorem tw7504490480230193789:Tr:=tr
theorem tw757081541053455785:Tr:=tr
theorem tw7581816359482902497:Tr:=tr
theorem tw7615264395923872581:Tr:=tr
theorem tw7619357645376055252:Tr:=tr
theorem tw7650934615059315214:Tr:=tr
theorem tw7670514497116975361:Tr:=tr
theorem tw774047393022817027:Tr:=tr
theorem tw7745614565497352828:Tr:=tr
theorem tw7783732958741208154:Tr:=tr
theorem tw7788680626742099145:Tr:=tr
theorem tw7892128664451923741:Tr:=tr
theorem tw7955060689067889023:Tr:=tr
theorem tw7987952416473584550:Tr:=tr
theorem tw8017206721242287953:Tr:=tr
theorem tw8047484207015712433:Tr:=tr
theorem tw8075568018651887793:Tr:=tr
theorem tw8098380416015320538:Tr:=tr
theorem tw8119918657739134586:Tr:=tr
theorem tw8172093975534723114:Tr:=tr
theorem tw8206430501311747189:Tr:=tr
theorem tw8253183596043897158:Tr:=tr
theorem tw8376441433122354887:Tr:=tr
theorem tw8400853705098224536:Tr:=tr
theorem tw8424611434330503625:Tr:=tr
theorem tw8450942572126056277:Tr:=tr
theorem tw8459811325457737761:Tr:=tr
theorem tw8488268690174267210:Tr:=tr
theorem tw8516911021179611081:Tr:=tr
theorem tw8537084889766193716:Tr:=tr
theorem tw8579058602437062094:Tr:=tr
theorem tw8595292554425487202:Tr:=tr
theorem tw8603108125212654177:Tr:=tr
theorem tw8611980101048724488:Tr:=tr
theorem tw8620020772036689432:Tr:=tr
theorem tw8642067239939848140:Tr:=tr
theorem tw8656719876789144132:Tr:=tr
theorem tw8695380994152314050:Tr:=tr
theorem tw8719427161674164953:Tr:=tr
theorem tw8727135674562949291:Tr:=tr
theorem tw8732485361984058174:Tr:=tr
theorem tw8753696776887207221:Tr:=tr
theorem tw8796240567053077481:Tr:=tr
theorem tw8860024209350480642:Tr:=tr
theorem tw8881496252177385917:Tr:=tr
theorem tw8902219603052485911:Tr:=tr
theorem tw8946543629884556368:Tr:=tr
theorem tw8987815912523675519:Tr:=tr
theorem tw8989982439271903415:Tr:=tr
theorem tw8999186272805695465:Tr:=tr
theorem tw9029142643779711378:Tr:=tr
theorem tw9082586571710850966:Tr:=tr
theorem tw912392155897948271:Tr:=tr
theorem tw9136488742655976645:Tr:=tr
theorem tw9151444980202551346:Tr:=tr
theorem tw9206804518496725263:Tr:=tr
theorem tw9219426015542480343:Tr:=tr
theorem tw9236875199018929784:Tr:=tr
theorem tw9265879793445154701:Tr:=tr
theorem tw9281714027785469542:Tr:=tr
theorem tw9285146279643344392:Tr:=tr
theorem tw9300948228871686676:Tr:=tr
theorem tw9305782018832362445:Tr:=tr
theorem tw930746551332336609:Tr:=tr
theorem tw9315938663221665524:Tr:=tr
theorem tw932993149863042379:Tr:=tr
theorem tw9376109419431680627:Tr:=tr
theorem tw9396933662098498411:Tr:=tr
theorem tw9407582987413476825:Tr:=tr
theorem tw9413167413068371254:Tr:=tr
theorem tw9458956999447867950:Tr:=tr
theorem tw9467589175468403638:Tr:=tr
theorem tw9501820088010722379:Tr:=tr
theorem tw9504726810853072989:Tr:=tr
theorem tw951843321253372498:Tr:=tr
theorem tw9529234661008812162:Tr:=tr
theorem tw9537544019596298400:Tr:=tr
theorem tw9564595351457756722:Tr:=tr
theorem tw9575731206691268911:Tr:=tr
theorem tw9577309144901391297:Tr:=tr
theorem tw9594665118957945026:Tr:=tr
theorem tw9626621113073979434:Tr:=tr
theorem tw9673203406766833760:Tr:=tr
theorem tw9674257727999782656:Tr:=tr
theorem tw973662469405803806:Tr:=tr
theorem tw9759809726879904816:Tr:=tr
theorem tw9763268239775435451:Tr:=tr
theorem tw9787396351842916947:Tr:=tr
theorem tw9787463984185863102:Tr:=tr
theorem tw9794667896261083176:Tr:=tr
theorem tw9800571698397750058:Tr:=tr
theorem tw9821368406582625841:Tr:=tr
theorem tw990087539832940089:Tr:=tr
theorem tw9908251947323293946:Tr:=tr
theorem tw9931943479562821362:Tr:=tr
theorem tw9948023125614773506:Tr:=tr
theorem tw9979284746773624096:Tr:=tr
end PySem.W.Fast
namespace Mine
open PySem PySem.W PyProof.Rows in
set_option maxHeartbeats 8000000 in
open_top hd for PySem.Challenge.rw_on0193_01
end Mine
open And renaming intro->abf
open Array renaming length_toList->abj,getElem?_eq_none->acb,getElem?_toList->ads,getElem?_eq_getElem->adS,toList_push->aet,getElem?_eq_some_iff->aez,toList_inj->agY,toList_append->ah1,forIn_toList->aik
open Bool renaming and_eq_true->abZ,false_eq_true->ab2,not_true->adK,not_false->adR,false_and->agz,true_xor->agR,eq_iff_iff->ahj,false_xor->ahJ,or_eq_true_iff->ahU,true_and->ah4,and_false->aja
open Eq renaming symm->ajj
open Exists renaming intro->ad3
open False renaming elim->aha
open ForInStep renaming yield->ace
open Iff renaming rfl->ajl
open Int renaming gcd->aci,fmod->acl,natCast_nonneg->aei,fmod_nonneg->ael,fdiv_eq_ediv_of_nonneg->aeC,fmod_lt_of_pos->aeX,ofNat_lt->afJ,fdiv->af4,fmod_eq_emod_of_nonneg->agw,lt_irrefl->agQ,toNat_of_nonneg->ahV,toNat_natCast->aiI
open List renaming prefix_refl->aaf,mem_append_left->aap,mem_append_right->aas,getElem?_eq_getElem->aa9,length_append->aba,length_map->abd,getElem?_set_ne->abe,map_cons->abg,mem_of_getElem?->abh,getElem?_append_left->abl,length_singleton->abo,getElem?_set_self->abq,append_nil->abr,not_mem_nil->abu,length_cons->abw,nil_append->abx,mem_cons->aby,map_append->abB,getElem?_map->abC,prefix_append->abF,eq_nil_of_length_eq_zero->abI,append_assoc->abL,nodup_append->abO,all_eq_true->abQ,replicate->abS,nodup_cons->abV,mem_range->abW,map_map->ab3,range->ab7,drop_eq_getElem_cons->ab8,length_drop->ach,getElem?_cons_succ->acj,cons_append->ada,length_reverse->adb,mem_filter->adg,reverse_cons->adm,range'->adq,mem_flatMap->adu,pairwise_cons->adw,getElem?_cons_zero->adF,mapM_cons->adL,mem_filterMap->adQ,mem_append->adT,find?_cons->adV,size_toArray->ad0,map_nil->ad2,filter_eq_self->ad6,range'_succ->aea,drop_eq_nil_of_le->aef,of_mem_zip->aej,filter_map->aem,getElem?_concat_length->aeq,mem_iff_getElem->aex,getElem?_append_right->aeA,map_congr_left->aeM,findSome?_cons->aeP,takeWhile_cons->aeQ,length_set->aeS,idxOf_cons->aeU,lookup_eq_none_iff->aeZ,getElem?_replicate->ae0,length->afq,mem_map->aft,toArray->afG,length_range->afK,filter_congr->afL,filter_eq_nil_iff->afM,take_of_length_le->afN,getElem?_eq_none->afP,length_filter_le->afT,perm_middle->afX,isEmpty_nil->af0,map_id->af5,range_eq_range'->af7,pairwise_append->af8,mem_singleton->agk,lookup_append->agp,getD_eq_getElem?_getD->agv,filter_filter->agy,set_cons_zero->agA,set_cons_succ->agB,getElem?_drop->agC,isEmpty_cons->agJ,mem_range'_1->agK,lookup_cons->agS,lookup_eq_some_iff->agU,drop_length->agW,pairwise_singleton->ag1,length_pos_of_mem->ahd,forIn_cons->ahg,length_nil->ahi,foldl_cons->ahk,dropLast_eq_take->ahm,getElem?_reverse->aht,mem_iff_getElem?->ahu,getElem?_append->ahC,length_take_le'->ahK,mem_of_mem_drop->ahL,flatMap_append->ahT,mem_map_of_mem->ahX,toList_toArray->ahY,findIdx?->ah5,zip_cons_cons->aib,any_eq_false->ain,getElem?_set->air,getElem?_inj->ais,take_add_one->aiC,set->aiH,length_take->aiM
open Nat renaming le_trans->aaj,ne_of_lt->abc,le_refl->abp,lt_succ_self->abv,lt_of_lt_of_le->abG,lt_succ_of_lt->abK,zero_le->abP,ne_of_gt->abT,not_lt_zero->ab6,lt_of_le_of_lt->aca,lt_irrefl->acg,strongRecOn->acm,le_of_lt->adi,le_add_right->adj,add_sub_cancel->adv,le_of_eq->aeG,sub_lt_sub_left->aeN,add_sub_cancel_left->afo,zero_add->afB,min_le_right->afY,le_antisymm->af9,mul_le_mul_left->agd,lt_trans->agh,add_right_comm->agD,le_succ_of_le->agF,le_succ->agG,lt_add_of_pos_right->ag4,lt_asymm->ag7,add_le_add_right->ahx,add_le_add_left->ahS,sub_add_cancel->ail,lt_trichotomy->aiq,lt_or_ge->aiw,log2_lt->aiS,not_lt->ajb
open Nat.succ renaming inj->ait
open Ne renaming symm->aec
open Option renaming isSome_iff_exists->ady,map->aeV,some->ajo
open Option.some renaming inj->abi,injEq->ajp
open PyProof.Rows renaming assign_Name->ab1,seqObj->adA,assignInOrder_cons->adN,args_cons->aeE,assignInOrder_nil->afz,tail_any->agr,assign_Tuple_tuple->ags,Call_->agT,args_nil->ahw,IntsAre->ahG,subscriptTail->ah3,Subscript_->aid,sortedHeap->aih,ksk_tree->aiD,Below->ai0,envOfC->ajg,IsTup->ajn
open PyProof.Rows.F renaming plain_set_update_loop->adH,entry_set_update_loop->aeO
open PyProof.Rows.News renaming push->aiK
open PySem renaming Value->aab,wpAny_bind->aac,Shared->aah,mainGlobals->aai,World->aaq,wpAny_pure->aa8,model->abb,Around->abt,sizeLine->abA,Scope->abJ,call->abN,wpAny_mono->abR,PyData->abU,wpAny_execs_cons->abY,wpAny_holding->ab0,letOwnedTupleGo->ab5,IntMulOk->acd,compareOp->acf,starEach->ack,Program->ade,wpAny_standAt->adl,intKind->ado,wpAny_storeName_local->adr,compEnvC->adt,codeAny->adx,DictEntry->adB,Arguments->adC,rawInt->adO,SetTable->adP,wpAny_execs_nil->adU,wpAny_truthy_bool->adW,relabel->adY,wpAny_newObj_type->adZ,wpAny_askSetting->ad8,sysModules->aeb,Builtin->aee,codeAny_builtin->aek,swapsWith->aen,builtinLookup_eq_fast->aep,foldedSetIterable->aes,wpAny_loadPart_at->aeu,wpAny_loadName_local->aew,wpAny_call->aey,cellsFrom->aeF,notedBy->aeH,wpAny_call_entry->aeK,wpAny_comprehension_free->aeR,valueAt->aeT,seqIndex?->afb,recursionLimit->afu,wpAny_Return_some->afw,wpAny_Assign_Name->afx,assign->afy,pyNext->afA,wpAny_setState_of->afF,plainObj_wpAny_Assign_Attribute->afO,Result->afW,intKind_is->afZ,attributeBase->af1,codeAny_call_builtin->af6,typeLookup_type->aga,wpAny_setEntries_of->age,wpAny_isSubtype_exc->agf,bootBuiltins->agg,wpAny_Name->agl,backTo->agm,binaryOp->ago,closureFor->agt,wpAny_pyIter_list->agH,sizeLine_eq->agI,strLen_append->agM,behindInMarks->agN,wpAny_getItem_list_slice->agO,plainId_quiet->agP,checkBuiltinCall->agZ,wpAny_callSpecial?_slot->ag0,holding->ag6,assignEach->ag8,wpAny_pyNext_list_item->ag9,codeAny_of_tree->ahh,wpAny_pyNext_list_end->ahl,wpAny_storeName_cell->ahB,subscripted->ahD,wpAny_newFunctionEnv->ahE,intText?->ahF,isSubtype_type->ahH,wpAny_setField->ahI,hashInt->ahO,Fin->ahP,wpAny_loadName_cell->ahQ,wpAny_Constant_bool->ahR,wpAny_dictSet_pairs->ahW,wpAt_of_wpAny->ahZ,Model->ah2,wpAny_attempt->ah6,wpAny_Constant_str->ah9,wpAny_getItem_list->aic,getattributeRaised->aii,NameKind->aiu,wpAny_pyIter_enum->aiv,codeAny_mono->aix,wpAny_pyIter_slot->aiz,wpAny_typeOf->aiB,keywordEach->aiN,interactive->aiO,operate->aiV,getItem->aiW,Params->aiZ,keeperOf->ai1,callWith->ai2,wpAny_Expr->ai3,strKind_is->ai4,layNew->ai6,wpAny_rule->ai7,setsByText->ai8,entryFor->ai9,ExcName->ajd,spliced->aje,truthy->ajf,pyIter->ajh
open PySem.Around renaming under_plainId->ad1
open PySem.BindsTo renaming of_eq->aal
open PySem.Builtin.Dict renaming updateFrom->ag2
open PySem.Builtin.Int renaming intBits->ah0
open PySem.Builtin.List renaming listLengthHint->agi
open PySem.Builtin.Range renaming rangeSize->agX
open PySem.Builtin.Str renaming occurrences->adE,strSliceIndices->aev,strSub->aeY
open PySem.Calls renaming Name_function_global->ahy
open PySem.Challenge renaming pw_on0193_01->agc
open PySem.Code renaming quiet_builtin->agu
open PySem.Env renaming kindOf->ab9
open PySem.F renaming slot_list_append->abm,type_list_append->abn,slot_str_lower->aeg,type_str_lower->aeh,excBase_Exception->aeL,slot_list_index->afr,type_list_index->afs,slot_str_split->afH,type_str_split->afI,slot_dict_get->afQ,slot_str_join->afR,type_str_join->afS,plain_set_new->ahn,slot_set_iter->aho,slot_list_pop->ahq,type_list_pop->ahr,type_dict_get->ahs
open PySem.Heap renaming get?_push_of_some->aak,lt_size->abk,get?_push_size->abz,get?_update_self->adc,SameBut->adf,get?_update_other->adJ,size_push->adM,get?_none_of_le->adX,ExtBut->afi,dictOf_iff->agb
open PySem.Heap.IsList renaming typeIs->aie
open PySem.Heap.IsSliceOf renaming new->aif
open PySem.Heap.SameBut renaming update->adp
open PySem.Heap.UpToSlots renaming of_keeps->ad9
open PySem.Keeper renaming boundFrame->afv,machine->agn,frame->ag5
open PySem.NameKind renaming free->af2
open PySem.Obj renaming mapSeq->ad4,data_mapFields->aeW,isFreed_of_fields->ahp,cls_mapFields->aiA,cls->aiU
open PySem.PyData renaming eqv->abH,strOk->ab4,depthAll->adh,keyHash->adz,canLayAll0->adD,int->adG,eqvAll->ad5,canLay0->ad7,depth->aed,str->agx,weightAll->ag3,weight->ah8,list->aiR
open PySem.SeqAt renaming shaped->afC,canLay_of_shaped->ahb
open PySem.SetTable renaming below->add,freeSlot->afE,bits->af3,probe->ai5,slot->ajc
open PySem.SetTable.probe renaming go->adn
open PySem.Str renaming ofString->ahc,join->ahM
open PySem.StrLaws renaming strSub_toList->afU,sliceText_nat->ahv
open PySem.Txt renaming slice->abD,lower->abM,join->aeB,words->aeJ,split->afp,stripChars->afD
open PySem.Value renaming int->aeo,ref->aeD,str->agV,type->aia,none->aig
open PySem.Value.type renaming inj->ahA
open PySem.W renaming keepIn->abE,findIn->abX,tabObj->adk,topRead_of->afV,emptyDict->agj,codeRec_of->agq,instObj->agE,hasDictIn->ahN,of_hideAll->aij,nameG_K->aim,Looks->aio,plainGet->aip,hideAll->aiG,getL->aiJ,plainOver->aiL,hideAll_get->aiP,keeps_K->aiT,kla_obj->aiX,binds_K->aiY,makesIn->aji,CodeHd->ajk,RaisedN->ajm
open PySem.W.InstAt renaming of_news->ahz
open PySem.W.KasFin renaming intro->ahf
open PySem.W.KatBack renaming intro->ah7
open PySem.W.KatFin renaming intro->ahe
open PySem.W.KatKeys renaming cons->aiE,nil->aiQ
open PySem.W.Looks renaming of_pure->agL
open PySem.callAny renaming viaDunder->aiF
open PySem.pickOrder renaming go->aiy
namespace Mine.Internal
noncomputable section
open PySem PySem.W PySem.Spec PySem.Calls PyProof.Rows
@[irreducible] def sN (k:Lean.Name) (a:Array Lean.Syntax):Lean.Syntax:=.node .none k a
@[irreducible] def sQ (a:Array Lean.Syntax):Lean.Syntax:=sN `Lean.Parser.Tactic.tacticSeq #[sN `Lean.Parser.Tactic.tacticSeq1Indented #[sN `null a]]
@[irreducible] def sK (a:Array Lean.Syntax):Lean.Syntax:=sQ #[sN `Lean.Parser.Tactic.decide #[.atom .none "decide",sN `Lean.Parser.Tactic.optConfig #[sN `null a]]]
@[irreducible] def aR:Lean.Syntax:=sQ #[sN `Lean.Parser.Tactic.tacticRfl #[.atom .none "rfl"]]
@[irreducible] def aK:Lean.Syntax:=sK #[]
@[irreducible] def aD:Lean.Syntax:=sK #[sN `Lean.Parser.Tactic.configItem #[sN `Lean.Parser.Tactic.posConfigItem #[.atom .none "+",.ident .none "kernel".toRawSubstring `kernel []]]]
@[irreducible] def aI:Lean.Syntax:=sQ #[sN `Lean.Parser.Tactic.intros #[.atom .none "intros",sN `null #[]],.atom .none ";",sN `Lean.Parser.Tactic.tacticRfl #[.atom .none "rfl"]]
@[elab_as_elim] theorem rwl {α:Sort _} {P:α->Prop} {a b:α} (h:a=b) (e:P b):P a:=h ▸ e
@[elab_as_elim] theorem rwr {α:Sort _} {P:α->Prop} {a b:α} (h:b=a) (e:P b):P a:=h ▸ e
@[irreducible] def sJ (a:Array Lean.Syntax):Lean.Syntax:=sN `Lean.Parser.Tactic.first #[.atom .none "first",sN `null (a.map λx=>sN `group #[.atom .none "|",sQ #[x]])]
@[irreducible] def sA (n:String) (a:Array Lean.Syntax):Lean.Syntax:=sN `Lean.Parser.Term.app #[.ident .none n.toRawSubstring (.mkSimple n) [],sN `null a]
@[irreducible] def sE (r:Lean.Syntax):Array Lean.Syntax:=
 let n:=if (r.getArg 0).getNumArgs == 0 then "rwl" else "rwr"
 let g (x:Lean.Syntax):=sN `Lean.Parser.Tactic.refine #[.atom .none "refine",sA n #[x,sN `Lean.Parser.Term.syntheticHole #[.atom .none "?",.atom .none "_"]]]
 #[sJ #[g (r.getArg 1),g (sN `Lean.Parser.Term.paren #[.atom .none "(",sA "propext" #[r.getArg 1],.atom .none ")"]),
  sN `Lean.Parser.Tactic.rewriteSeq #[.atom .none "rewrite",sN `Lean.Parser.Tactic.optConfig #[sN `null #[]],sN `Lean.Parser.Tactic.rwRuleSeq #[.atom .none "[",sN `null #[r],.atom .none "]"],sN `null #[]]],.atom .none ";"]
@[irreducible] def sX (rs:Array Lean.Syntax):Lean.Syntax:=
 sN `Lean.Parser.Tactic.paren #[.atom .none "(",sQ (rs.flatMap sE++#[sJ #[sN `Lean.Parser.Tactic.withReducible #[.atom .none "with_reducible",sQ #[sN `Lean.Parser.Tactic.tacticRfl #[.atom .none "rfl"]]],sN `Lean.Parser.Tactic.skip #[.atom .none "skip"]]]),.atom .none ")"]
@[irreducible] def sC (n:String) (k:Nat):Lean.Syntax:=
 let b:=sN `Lean.Parser.Term.byTactic #[.atom .none "by",sQ #[sN `Lean.Parser.Tactic.assumption #[.atom .none "assumption"]]]
 sN `group #[.atom .none "|",if k == 0 then sQ #[sN `Lean.Parser.Tactic.apply #[.atom .none "apply",.ident .none n.toRawSubstring n.toName []],.atom .none ";",sN `Lean.Parser.Tactic.done #[.atom .none "done"]]
  else sQ #[sN `Lean.Parser.Tactic.exact #[.atom .none "exact",sN `Lean.Parser.Term.app #[.ident .none n.toRawSubstring n.toName [],sN `null (abS k b).toArray]]]]
@[irreducible] def sO (t:Lean.Syntax):Lean.Syntax:=
 let l (k:Nat) (s:String):=(s.splitOn " ").map λn=>sC n k
 sJ #[sN `Lean.Parser.Tactic.withReducible #[.atom .none "with_reducible",sQ #[sN `Lean.Parser.Tactic.first #[.atom .none "first",sN `null ((sN `group #[.atom .none "|",sQ #[sN `Lean.Parser.Tactic.assumption #[.atom .none "assumption"]]]::l 1 "Nat.le_of_lt Nat.ne_of_lt Nat.ne_of_gt Nat.le_of_eq Nat.succ_le_of_lt Nat.le_of_lt_succ Nat.lt_succ_of_le Nat.lt_succ_of_lt Nat.le_succ_of_le Nat.le_of_not_lt Nat.le_of_not_gt Nat.lt_of_not_le Nat.lt_of_not_ge Nat.not_lt_of_le Nat.not_le_of_lt Nat.lt_of_succ_lt Nat.lt_of_succ_le Nat.lt_of_succ_lt_succ Nat.succ_lt_succ Nat.succ_le_succ Nat.le_of_succ_le_succ Nat.succ.inj Nat.pos_of_ne_zero Nat.ne_zero_of_lt Nat.lt_add_right Nat.le_add_right_of_le Eq.symm Ne.symm Int.le_of_lt Int.ofNat_lt.mpr Int.ofNat_le.mpr Int.not_lt.mpr Int.not_le.mpr Int.ne_of_lt Int.ne_of_gt Int.lt_of_not_le Int.le_of_not_lt Nat.lt_of_add_right_lt Nat.lt_of_add_left_lt Nat.le_of_add_right_le Nat.lt_irrefl Nat.not_lt_zero Int.lt_irrefl"++(l 0 "Nat.le_add_left Nat.le_add_right Nat.succ_ne_self Nat.zero_le Nat.succ_pos Nat.lt_succ_self Nat.le_succ Int.natCast_nonneg Nat.sub_le"++l 2 "Nat.lt_of_lt_of_le Nat.lt_of_le_of_lt Nat.le_trans Nat.lt_trans absurd Nat.le_antisymm Int.lt_of_lt_of_le Int.lt_of_le_of_lt Int.le_trans Int.lt_trans Int.le_antisymm Nat.lt_of_le_of_ne")).toArray)]]],t]
local macro_rules | `(tactic| walk_at "o")=>do pure (sO (<- `(tactic| (first | lia | omega))))
local macro_rules | `(tactic| rw [$rs,*])=>pure (sX rs.getElems)
theorem bP {α:Type}{l:List α}{i:Nat}{a:α}(h:l[i]?=some a):∃h:i < l.length,l[i]=a:=List.getElem?_eq_some_iff.mp h
theorem bM {α:Type}{a b:α}{l:List α}(h:a∈b::l):a=b\/a∈l:=aby.mp h
theorem cr {α:Type}{a b:α}(h:a∈[b]):a=b:=agk.mp h
theorem c8 {α β:Type}{f:α->β}{b:β}{l:List α}(h:b∈l.map f):∃a,a∈l/\f a=b:=aft.mp h
theorem ed {α β:Type}{f:α->β}{b:β}{l:List α}(h:∃a,a∈l/\f a=b):b∈l.map f:=aft.mpr h
theorem dW {α:Type}{a:α}{s t:List α}(h:a∈s++t):a∈s\/a∈t:=adT.mp h
theorem iW {α:Type}{l:List α}{p:α->Bool}(h:l.all p=true):∀x∈l,p x=true:=abQ.mp h
inductive MV where
 | none | bool (b:Bool) | int (i:Int) | str (s:Str) | ref (i:Nat) | tup (xs:List MV) | ext (ns:List Int)
inductive MO where
 | list (xs:List MV) | inst (c:Addr) (fs:List (Str×MV)) | dict (es:List (Str×MV)) (ep:Nat)
abbrev aO:=List (Addr×Obj)
abbrev bk:=List (Addr×Addr)
abbrev MS:=List MO
noncomputable abbrev bV (its:Array aab)(n:Nat):Obj:={ cls:=.type "list",data:=.seq its n }
noncomputable abbrev bz (its:Array aab):Obj:={ cls:=.type "tuple",data:=.seq its }
def Ct (hB:Heap)(news:aO)(a:Addr)(o:Obj):Prop:=(a,o)∈news\/hB.get? a=some o
theorem bv {P:Prop}(h:∀G:Prop,(P->G)->G):P:=h P id
mutual
inductive RV (hB:Heap)(news:aO)(φ:bk):MV->aab->Prop
 | none:RV hB news φ .none .none
 | bool (b:Bool):RV hB news φ (.bool b) (.bool b)
 | int (i:Int) (t:Tok):RV hB news φ (.int i) (.int i t)
 | str (x:Str) (t:Tok):RV hB news φ (.str x) (.str x t)
 | ref {i:Nat} {a d:Addr} (h:φ[i]?=some (a,d)):RV hB news φ (.ref i) (.ref a)
 | tup {xs:List MV} {a:Addr} {its:Array aab} (h:Ct hB news a (bz its)) (r:bg hB news φ xs its.toList):RV hB news φ (.tup xs) (.ref a)
 | ext {ns:List Int} {l:Addr} {vs:List aab} (h:hB.IsList l vs.toArray) (r:IntsAre vs ns):RV hB news φ (.ext ns) (.ref l)
inductive bg (hB:Heap)(news:aO)(φ:bk):List MV->List aab->Prop
 | nil:bg hB news φ [] []
 | cons {x:MV} {v:aab} {xs:List MV} {vs:List aab} (h:RV hB news φ x v) (r:bg hB news φ xs vs):bg hB news φ (x::xs) (v::vs)
end
section
variable {hB:Heap}{news:aO}{φ:bk}{v:aab}{P:aab->Prop}
theorem bg.c {x:MV}{xs:List MV}{vs:List aab}{P:List aab->Prop}(r:bg hB news φ (x::xs) vs)(k:∀v vs',RV hB news φ x v->bg hB news φ xs vs'->P (v::vs')):P vs:=by
 cases r with | cons h r=>exact k _ _ h r
theorem bg.n {vs:List aab}{P:List aab->Prop}(r:bg hB news φ [] vs)(k:P []):P vs:=by cases r; exact k
theorem RV.s {x:Str}(r:RV hB news φ (.str x) v)(k:∀t,P (.str x t)):P v:=by cases r; exact k _
theorem RV.r {i:Nat}(r:RV hB news φ (.ref i) v)(k:∀a d,φ[i]?=some (a,d)->P (.ref a)):P v:=by cases r with | ref h=>exact k _ _ h
theorem RV.t {xs:List MV}(r:RV hB news φ (.tup xs) v)(k:∀a its,Ct hB news a (bz its)->bg hB news φ xs its.toList->P (.ref a)):P v:=by cases r with | tup h q=>exact k _ _ h q
def gF (ki:Int->Prop)(ks:Str->Prop)(kt:List MV->Prop)(kr:Nat->Prop)(ke:List Int->Prop)(V:MV):Prop:=match V with | .int i=>ki i | .str x=>ks x | .tup xs=>kt xs | .ref i=>kr i | .ext ns=>ke ns | _=>False
theorem RV.cV {V:MV}{ki:Int->Prop}{ks:Str->Prop}{kt:List MV->Prop}{kr:Nat->Prop}{ke:List Int->Prop}(r:RV hB news φ V v)(t:gF ki ks kt kr ke V)(hi:∀i u,ki i->P (.int i u))(hs:∀x u,ks x->P (.str x u))
  (ht:∀xs a its,Ct hB news a (bz its)->bg hB news φ xs its.toList->kt xs->P (.ref a)) (hr:∀i a d,φ[i]?=some (a,d)->kr i->P (.ref a)) (he:∀ns l vs,hB.IsList l vs.toArray->IntsAre vs ns->ke ns->P (.ref l)):P v:=by
 cases r with
 | int i u=>exact hi i u t
 | str x u=>exact hs x u t
 | tup h q=>exact ht _ _ _ h q t
 | ref h=>exact hr _ _ _ h t
 | ext h q=>exact he _ _ _ h q t
 | _=>exact t.elim
def nK (X:Type):X->Prop:=λ_=>False
def jK (k:Int->Prop):MV->Prop:=gF k (nK _) (nK _) (nK _) (nK _)
def xP (k:Str->Prop):MV->Prop:=gF (nK _) k (nK _) (nK _) (nK _)
def uV (k:List MV->Prop):MV->Prop:=gF (nK _) (nK _) k (nK _) (nK _)
def hO (k:Nat->Prop):MV->Prop:=gF (nK _) (nK _) (nK _) k (nK _)
theorem RV.oI {V:MV}{k:Int->Prop}(r:RV hB news φ V v)(t:jK k V)(h:∀i u,k i->P (.int i u)):P v:=r.cV t h (λ_ _ f=>f.elim) (λ_ _ _ _ _ f=>f.elim) (λ_ _ _ _ f=>f.elim) (λ_ _ _ _ _ f=>f.elim)
theorem RV.oS {V:MV}{k:Str->Prop}(r:RV hB news φ V v)(t:xP k V)(h:∀x u,k x->P (.str x u)):P v:=r.cV t (λ_ _ f=>f.elim) h (λ_ _ _ _ _ f=>f.elim) (λ_ _ _ _ f=>f.elim) (λ_ _ _ _ _ f=>f.elim)
theorem RV.oT {V:MV}{k:List MV->Prop}(r:RV hB news φ V v)(t:uV k V)(h:∀xs a its,Ct hB news a (bz its)->bg hB news φ xs its.toList->k xs->P (.ref a)):P v:=r.cV t (λ_ _ f=>f.elim) (λ_ _ f=>f.elim) h (λ_ _ _ _ f=>f.elim) (λ_ _ _ _ _ f=>f.elim)
theorem RV.oR {V:MV}{k:Nat->Prop}(r:RV hB news φ V v)(t:hO k V)(h:∀i a d,φ[i]?=some (a,d)->k i->P (.ref a)):P v:=r.cV t (λ_ _ f=>f.elim) (λ_ _ f=>f.elim) (λ_ _ _ _ _ f=>f.elim) h (λ_ _ _ _ _ f=>f.elim)
def BC (p:MV->Prop)(Vs:List MV):Prop:=match Vs with | [V]=>p V | _=>False
theorem bg.o1 {Vs:List MV}{vs:List aab}{p:MV->Prop}{P:List aab->Prop}(r:bg hB news φ Vs vs)(t:BC p Vs)(h:∀V v,RV hB news φ V v->p V->P [v]):P vs:=by
 cases r with
 | nil=>exact t.elim
 | cons r1 r=>cases r with
  | nil=>exact h _ _ r1 t
  | cons _ _=>exact t.elim
def MY (p:MV->MV->Prop)(Vs:List MV):Prop:=match Vs with | [V,W]=>p V W | _=>False
theorem bg.o2 {Vs:List MV}{vs:List aab}{p:MV->MV->Prop}{P:List aab->Prop}(r:bg hB news φ Vs vs)(t:MY p Vs)(h:∀V W v w,RV hB news φ V v->RV hB news φ W w->p V W->P [v,w]):P vs:=by
 cases r with
 | nil=>exact t.elim
 | cons r1 r=>cases r with
  | nil=>exact t.elim
  | cons r2 r=>cases r with
   | nil=>exact h _ _ _ _ r1 r2 t
   | cons _ _=>exact t.elim
def MW (k:Prop)(V:MV):Prop:=match V with | .none=>k | .int _=>k | _=>False
theorem RV.oX {V:MV}{k:Prop}(r:RV hB news φ V v)(t:MW k V)(hz:k->P .none)(hi:∀i u,k->P (.int i u)):P v:=by
 cases r with
 | none=>exact hz t
 | int i u=>exact hi i u t
 | _=>exact t.elim
def Kx (k:Prop)(V:MV):Prop:=match V with | .none=>k | _=>False
theorem RV.oZ {V:MV}{k:Prop}(r:RV hB news φ V v)(t:Kx k V)(h:k->P .none):P v:=by
 cases r with
 | none=>exact h t
 | _=>exact t.elim
def qR (k:Bool->Prop)(V:MV):Prop:=match V with | .bool b=>k b | _=>False
theorem RV.oB {V:MV}{k:Bool->Prop}(r:RV hB news φ V v)(t:qR k V)(h:∀b,k b->P (.bool b)):P v:=by
 cases r with
 | bool b=>exact h b t
 | _=>exact t.elim
theorem xN {X Y:Type}{f:X->Option Y}{x:X}{xs:List X}{ys:List Y}{G:Prop}(e:(x::xs).mapM f=some ys)(k:∀y ys',f x=some y->xs.mapM f=some ys'->ys=y::ys'->G):G:=by
 rw [adL] at e
 cases h:f x with
 | none=>rw [h] at e; cases e
 | some y=>cases h':xs.mapM f with
  | none=>rw [h,h'] at e; cases e
  | some ys'=>rw [h,h'] at e; exact k y ys' h h' (abi e).symm
theorem J9 {X Y:Type}{f:X->Y}{o:Option X}{y:Y}{G:Prop}(e:o.map f=some y)(k:∀x,o=some x->y=f x->G):G:=by
 cases o with
 | none=>cases e
 | some x=>exact k x rfl (abi e).symm
def dU {X:Type}(o:Option X)(K:X->Prop):Prop:=match o with | some x=>K x | none=>False
theorem dH {X:Type}{o:Option X}{K:X->Prop}{G:Prop}(t:dU o K)(k:∀x,o=some x->K x->G):G:=by
 cases o with
 | none=>exact t.elim
 | some x=>exact k x rfl t
end
noncomputable def bq (φ:bk):List Addr:=φ.flatMap λp=>[p.1,p.2]
theorem aA {α:Type}{l l':List α}{i:Nat}{x:α}(hp:l <+: l')(h:l[i]?=some x):l'[i]?=some x:=by
 obtain⟨t,rfl⟩:=hp
 rw [abl (bP h).1]; exact h
structure a9 (X:List Addr)(φ:bk)(news:aO)(PG:bk)(Pu:aO):Prop where
 pre:φ <+: PG
 tups:∀a its,(a,bz its)∈news->(a,bz its)∈Pu
 kept:∀p∈news,p.1 ∉ bq φ->p.1 ∉ X->p∈Pu
 keys:∀p∈news,∃o,(p.1,o)∈Pu
 fresh:∀p∈news,p.1∈bq PG->p.1∈bq φ
theorem a9.refl {X:List Addr}{φ:bk}{news:aO}:a9 X φ news φ news:=⟨aaf _,λ_ _ h=>h,λ_ h _ _=>h,λp h=>⟨p.2,h⟩,λ_ _ h=>h⟩
theorem a9.trans {X:List Addr}{φ Px PE:bk}{n PC PS:aO}(a:a9 X φ n Px PC)(b:a9 X Px PC PE PS):a9 X φ n PE PS where
 pre:=a.pre.trans b.pre
 tups x its h:=b.tups x its (a.tups x its h)
 kept p h hf hx:=b.kept p (a.kept p h hf hx) (λq=>hf (a.fresh p h q)) hx
 keys p h:=let ⟨o,ho⟩:=a.keys p h; b.keys (p.1,o) ho
 fresh p h hf:=let ⟨o,ho⟩:=a.keys p h; a.fresh p h (b.fresh (p.1,o) ho hf)
theorem a9.wide {X Y:List Addr}{φ PG:bk}{n n':aO}(a:a9 X φ n PG n')(h:∀x∈X,x∈Y):a9 Y φ n PG n':=
 ⟨a.pre,a.tups,λp hp hf hx=>a.kept p hp hf λq=>hx (h _ q),a.keys,a.fresh⟩
theorem a9.sub {X:List Addr}{φ PG:bk}{n n':aO}(hp:φ <+: PG)(hs:∀p∈n,p∈n')(hf:∀p∈n,p.1∈bq PG->p.1∈bq φ):a9 X φ n PG n':=
 ⟨hp,λ_ _ h=>hs _ h,λp h _ _=>hs p h,λp h=>⟨p.2,hs p h⟩,hf⟩
theorem a9.led {X:List Addr}{φ:bk}{n n':aO}(hs:∀p∈n,p∈n'):a9 X φ n φ n':=.sub (aaf _) hs λ_ _ h=>h
section
variable {hB:Heap}{news Pu:aO}{φ PG:bk}
theorem RV.mono' (hp:φ <+: PG)(ht:∀a its,(a,bz its)∈news->(a,bz its)∈Pu){V:MV}{v:aab}(r:RV hB news φ V v):RV hB Pu PG V v:=
 RV.rec (motive_1:=λV v _=>RV hB Pu PG V v) (motive_2:=λV v _=>bg hB Pu PG V v) .none (λb=>.bool b) (λi t=>.int i t) (λx t=>.str x t) (λh=>.ref (aA hp h)) (λh _ ih=>.tup (h.imp (λh=>ht _ _ h) id) ih) (λh r=>.ext h r) .nil (λ_ _ h ih=>.cons h ih) r
theorem bg.mono' (hp:φ <+: PG)(ht:∀a its,(a,bz its)∈news->(a,bz its)∈Pu){V:List MV}{v:List aab}(r:bg hB news φ V v):bg hB Pu PG V v:=by
 induction V generalizing v with
 | nil=>exact r.n .nil
 | cons x xs ih=>exact r.c λ_ _ h r=>.cons (h.mono' hp ht) (ih r)
end
section
variable {hB:Heap}{news Pu:aO}{φ PG:bk}{X:List Addr}
theorem RV.mono {V:MV}{v:aab}(r:RV hB news φ V v)(g:a9 X φ news PG Pu):RV hB Pu PG V v:=RV.mono' g.pre g.tups r
theorem bg.mono {V:List MV}{v:List aab}(r:bg hB news φ V v)(g:a9 X φ news PG Pu):bg hB Pu PG V v:=bg.mono' g.pre g.tups r
theorem bg.length {V:List MV}:∀{v:List aab},bg hB news φ V v->v.length=V.length:=by
 induction V with
 | nil=>intro v h; cases h; rfl
 | cons x xs ih=>intro v h; cases h with | cons _ r=>simp [ih r]
theorem bg.get {V:List MV}:∀{v:List aab}{i:Nat}{x:MV},bg hB news φ V v->V[i]?=some x->∃y,v[i]?=some y/\RV hB news φ x y:=by
 induction V with
 | nil=>intro v i x _ e; cases e
 | cons a xs ih =>
  intro v i x h e
  cases h with
  | cons h r =>
   cases i with
   | zero=>cases e; exact⟨_,rfl,h⟩
   | succ i =>
    obtain⟨y,e',q⟩:=ih (i:=i) r (by simpa using e)
    exact⟨y,by simpa using e',q⟩
theorem bg.append {V W:List MV}:∀{v w:List aab},bg hB news φ V v->bg hB news φ W w->bg hB news φ (V++W) (v++w):=by
 induction V with
 | nil=>intro v w h k; cases h; exact k
 | cons a xs ih=>intro v w h k; cases h with | cons h r=>exact .cons h (ih r k)
theorem bg.reverse {V:List MV}:∀{v:List aab},bg hB news φ V v->bg hB news φ V.reverse v.reverse:=by
 induction V with
 | nil=>intro v h; cases h; exact .nil
 | cons a xs ih=>intro v h; cases h with | cons h r=>rw [adm,adm]; exact (ih r).append (.cons h .nil)
theorem bg.drop {V:List MV}:∀{v:List aab}(k:Nat),bg hB news φ V v->bg hB news φ (V.drop k) (v.drop k):=by
 induction V with
 | nil=>intro v k h; cases h; simp; exact .nil
 | cons a xs ih=>intro v k h; cases h with | cons h r=>cases k with | zero=>exact .cons h r | succ k=>exact ih k r
theorem bg.take {V:List MV}:∀{v:List aab}(k:Nat),bg hB news φ V v->bg hB news φ (V.take k) (v.take k):=by
 induction V with
 | nil=>intro v k h; cases h; simp; exact .nil
 | cons a xs ih=>intro v k h; cases h with | cons h r=>cases k with | zero=>exact .nil | succ k=>exact .cons h (ih k r)
theorem bg.set {V:List MV}:∀{v:List aab}{x:MV}{y:aab}(k:Nat),bg hB news φ V v->RV hB news φ x y->bg hB news φ (V.set k x) (v.set k y):=by
 induction V with
 | nil=>intro v x y k h _; cases h; exact .nil
 | cons a xs ih=>intro v x y k h q; cases h with | cons h r=>cases k with | zero=>exact .cons q r | succ k=>exact .cons h (ih k r q)
end
inductive ko (P:aiZ)(hB:Heap)(news:aO)(φ:bk):List (Str×MV)->List adB->Prop
 | nil:ko P hB news φ [] []
 | cons {k:Str} {t:Tok} {V:MV} {v:aab} {fs:List (Str×MV)} {es:List adB} (h:RV hB news φ V v) (r:ko P hB news φ fs es):ko P hB news φ ((k,V)::fs) (⟨adz P k,.str k t,v⟩::es)
inductive mq (hB:Heap)(news:aO)(φ:bk):List (Str×MV)->List (Str×aab)->Prop
 | nil:mq hB news φ [] []
 | cons {k:Str} {V:MV} {v:aab} {fs:List (Str×MV)} {kvs:List (Str×aab)} (h:RV hB news φ V v) (r:mq hB news φ fs kvs):mq hB news φ ((k,V)::fs) ((k,v)::kvs)
theorem mq.mono {hB:Heap}{news Pu:aO}{φ PG:bk}(hp:φ <+: PG)(ht:∀a its,(a,bz its)∈news->(a,bz its)∈Pu){fs:List (Str×MV)}{es:List (Str×aab)}(r:mq hB news φ fs es):mq hB Pu PG fs es:=by
 induction r with
 | nil=>exact .nil
 | cons h _ ih=>exact .cons (RV.mono' hp ht h) ih
theorem ko.mono {P:aiZ}{hB:Heap}{news Pu:aO}{φ PG:bk}(hp:φ <+: PG)(ht:∀a its,(a,bz its)∈news->(a,bz its)∈Pu){fs:List (Str×MV)}{es:List adB}(r:ko P hB news φ fs es):ko P hB Pu PG fs es:=by
 induction r with
 | nil=>exact .nil
 | cons h _ ih=>exact .cons (RV.mono' hp ht h) ih
set_option genInjectivity false in
structure bC where
 prog:ade
 w:aaq
 K:Frag
 p:ade
 loose:List Str
 mean:ajd->Option aab
 mg:Str->Option aab
 mb:Str->Option aab
 hB:Heap
 tab:Addr
 GT:Array aab->Prop
 GO:Obj->Prop
 flds:Addr->List Str
 more:Heap->Prop
structure bC.Ok (α:bC):Prop where
 X:α.K.In α.hB
 T:Top α.p α.loose α.mean α.mg α.mb α.hB
 M:α.more α.hB
def pR (o:Obj):Prop:=o.cls=.type "code"/\∃vs,o.data=.fields vs
section
variable (α:bC)
def vM (o:Obj)(kvs:List (Str×aab))(ep:Nat):Prop:=
 ∃es,o.ExactDict/\o.data=.dict es ep/\KeysOf (strKind α.prog α.w) es/\Pairs (strKind α.prog α.w) es.toList kvs/\(kvs.map (·.1)).Nodup
def OR (news:aO)(φ:bk)(a d:Addr):MO->Prop
 | .list xs=>d=a/\∃its n,(a,bV its n)∈news/\bg α.hB news φ xs its.toList
 | .inst c fs=>(a,agE c d)∈news/\((∀p∈fs,p.1∈α.flds c)/\fs.length<=100)/\∃es n,(d,dictOf es n)∈news/\ko α.w.params α.hB news φ fs es
 | .dict fs ep=>d=a/\(a == aeb)=false/\∃o kvs,(a,o)∈news/\vM α o kvs ep/\mq α.hB news φ fs kvs
structure Wd (st:MS)(φ:bk)(news:aO):Prop where
 nodup:(news.map (·.1)).Nodup
 len:φ.length=st.length
 apart:∀(i j:Nat) (p q:Addr×Addr),φ[i]?=some p->φ[j]?=some q->i≠j->p.1≠q.1/\p.1≠q.2/\p.2≠q.1/\p.2≠q.2
 objs:∀(i:Nat) (o:MO),st[i]?=some o->∃a d,φ[i]?=some (a,d)/\OR α news φ a d o
 tabs:∃ps,(α.tab,adk ps)∈news/\α.GT ps/\∀c,aeD c∈ps.toList->∃oc,(c,oc)∈news/\c ∉ bq φ/\pR oc/\α.GO oc
structure Sn (h₀:Heap)(L:Addr)(m:Str->Option aab)(h:Heap)(st:MS)(φ:bk)(news:aO):Prop where
 F:Fr h₀ L h m
 N:News h₀ L h news
 W:Wd α st φ news
structure Cf (ℓ:Nat)(A:abt)(h₀:Heap)(L:Addr):Prop where
 ok:α.Ok
 fr:∃A₀ outer Ql,ai0 A₀ α.hB outer h₀/\A.frames=some (Ql::outer)/\Ql.frame=some L/\Ql.scope.kind=.function
 hand:A.handled=none
 depth:A.depth+3 * ℓ+3 < afu
 units:A.units+10 * ℓ+200 < cLine
 tp:ℓ<=10/\(ℓ=10->(∃Ql,A.frames=some [Ql])/\h₀=α.hB)
structure Ce (sc:abJ)(env:Env):Prop where
 scope:env.scope=sc
 kind:sc.kind=.function
 glob:env.globals=aai
 bul:env.builtins=builtinsNs
inductive vk (φ:bk)(env:Env)(L:Addr)(m:Str->Option aab)(news:aO)(x:Str)(v:aab):Prop
 | fr (k:env.kindOf x=some .local) (hL:env.locals=L) (hm:m x=some v)
 | ns (k:env.kindOf x=some .local) (ht:env.locals≠α.tab) (hf:env.locals ∉ bq φ) (o:Obj) (es:Array adB) (ep:Nat) (hm:(env.locals,o)∈news) (r:o.data=.dict es ep/\StrKeys es/\nsFind es x=some v)
 | cell (k:env.kindOf x=some .cell) (c:Addr) (o:Obj) (hc:env.cells.lookup x=some c) (ht:c≠α.tab) (hf:c ∉ bq φ) (hm:(c,o)∈news) (hd:o.data=.cell (some v))
noncomputable abbrev aG:=List (Option MV)
def Lc (slots:List Str)(env:Env)(L:Addr)(m:Str->Option aab)(news:aO)(φ:bk)(ρ:aG):Prop:=
 ∀(i:Nat) (x:Str) (V:MV),slots[i]?=some x->ρ[i]?=some (some V)->∃v,vk α φ env L m news x v/\RV α.hB news φ V v
def gZ (h₀:Heap)(L:Addr)(m:Str->Option aab)(s:aah)(φ:bk)(news:aO)(Q:MV->MS->Prop)(Qc:aab->aah->Prop):Prop:=
 ∀V Ps PG Pu v h' PV,Sn α h₀ L m h' Ps PG Pu->a9 [α.tab] φ news PG Pu->RV α.hB Pu PG V v->Q V Ps->Qc v { s with heap:=h',toks:=PV }
abbrev TE:=aG->MS->(MV->MS->Prop)->Prop
abbrev TL:=aG->MS->(List MV->MS->Prop)->Prop
abbrev TP:=List MV->MS->(MV->MS->Prop)->Prop
abbrev TB:=aG->MS->(Bool->MS->Prop)->Prop
def aa (ℓ:Nat)(sc:abJ)(slots:List Str)(e:Expr)(T:TE):Prop:=
 ∀A h₀ L env,Cf α ℓ A h₀ L->Ce sc env->∀s m st φ news ρ,Sn α h₀ L m s.heap st φ news->Lc α slots env L m news φ ρ->∀Q Qc E,T ρ st Q->gZ α h₀ L m s φ news Q Qc ->
  wpAny (abb α.prog α.w) A (eval e env) Qc E s
def n9 (h₀:Heap)(L:Addr)(m:Str->Option aab)(s:aah)(φ:bk)(news:aO)(Q:Bool->MS->Prop)(Qc:Bool->aah->Prop):Prop:=
 ∀b Ps PG Pu h' PV,Sn α h₀ L m h' Ps PG Pu->a9 [α.tab] φ news PG Pu->Q b Ps->Qc b { s with heap:=h',toks:=PV }
def aJ (ℓ:Nat)(sc:abJ)(slots:List Str)(e:Expr)(T:TB):Prop:=
 ∀A h₀ L env,Cf α ℓ A h₀ L->Ce sc env->∀s m st φ news ρ,Sn α h₀ L m s.heap st φ news->Lc α slots env L m news φ ρ->∀Q Qc E,T ρ st Q->n9 α h₀ L m s φ news Q Qc ->
  wpAny (abb α.prog α.w) A (isTrue e env (eval e env)) Qc E s
def Nd (n:Nat)(h₀:Heap)(L:Addr)(m:Str->Option aab)(s:aah)(φ:bk)(news:aO)(Q:List MV->MS->Prop)(Qc:List aab->aah->Prop):Prop:=
 ∀Vs Ps PG Pu vs h' PV,Sn α h₀ L m h' Ps PG Pu->a9 [α.tab] φ news PG Pu->bg α.hB Pu PG Vs vs->Q Vs Ps->Vs.length=n->Qc vs { s with heap:=h',toks:=PV }
def aM (ℓ:Nat)(code:List aab->Sem aab)(S:TP):Prop:=
 ∀A h₀ L,Cf α ℓ A h₀ L->∀s m st φ news Vs vs,Sn α h₀ L m s.heap st φ news->bg α.hB news φ Vs vs->∀Q Qc E,S Vs st Q->gZ α h₀ L m s φ news Q Qc ->
  wpAny (abb α.prog α.w) A (code vs) Qc E s
end
section
variable {α:bC}{h₀:Heap}{L:Addr}{m:Str->Option aab}{s:aah}{φ PG:bk}{news Pu:aO}
theorem gZ.after {Q:MV->MS->Prop}{Qc:aab->aah->Prop}(P:gZ α h₀ L m s φ news Q Qc)(g:a9 [α.tab] φ news PG Pu)(h':Heap)(PV:Nat):gZ α h₀ L m { s with heap:=h',toks:=PV } PG Pu Q Qc:=
 λV Pz PE SA v PM PN S PH r q=>P V Pz PE SA v PM PN S (g.trans PH) r q
theorem n9.after {Q:Bool->MS->Prop}{Qc:Bool->aah->Prop}(P:n9 α h₀ L m s φ news Q Qc)(g:a9 [α.tab] φ news PG Pu)(h':Heap)(PV:Nat):n9 α h₀ L m { s with heap:=h',toks:=PV } PG Pu Q Qc:=
 λV Pz PE SA PM PN S PH q=>P V Pz PE SA PM PN S (g.trans PH) q
theorem vk.grow {env:Env}{x:Str}{v:aab}(h:vk α φ env L m news x v)(g:a9 [α.tab] φ news PG Pu):vk α PG env L m Pu x v:=by
 cases h with
 | fr k hL hm=>exact .fr k hL hm
 | ns k ht hf o es ep hm r=>exact .ns k ht (λq=>hf (g.fresh _ hm q)) o es ep (g.kept _ hm hf (by simpa using ht)) r
 | cell k c o hc ht hf hm hd=>exact .cell k c o hc ht (λq=>hf (g.fresh _ hm q)) (g.kept _ hm hf (by simpa using ht)) hd
theorem vk.setM {env:Env}{m':Str->Option aab}{x:Str}{v:aab}(h:vk α φ env L m news x v)(e:m x=some v->m' x=some v):vk α φ env L m' news x v:=by
 cases h with
 | fr k hL hm=>exact .fr k hL (e hm)
 | ns k ht hf o es ep hm r=>exact .ns k ht hf o es ep hm r
 | cell k c o hc ht hf hm hd=>exact .cell k c o hc ht hf hm hd
theorem Lc.grow {slots:List Str}{env:Env}{ρ:aG}(h:Lc α slots env L m news φ ρ)(g:a9 [α.tab] φ news PG Pu):Lc α slots env L m Pu PG ρ:=
 λi x V hx hv=>let ⟨v,hl,hr⟩:=h i x V hx hv; ⟨v,hl.grow g,hr.mono g⟩
theorem gZ.now {Q:MV->MS->Prop}{Qc:aab->aah->Prop}{st:MS}{V:MV}{v:aab}(P:gZ α h₀ L m s φ news Q Qc)(S:Sn α h₀ L m s.heap st φ news)(r:RV α.hB news φ V v)(q:Q V st)(tk:Nat):Qc v { s with toks:=tk }:=
 P V st φ news v s.heap tk S .refl r q
theorem n9.now {Q:Bool->MS->Prop}{Qc:Bool->aah->Prop}{st:MS}{b:Bool}(P:n9 α h₀ L m s φ news Q Qc)(S:Sn α h₀ L m s.heap st φ news)(q:Q b st)(tk:Nat):Qc b { s with toks:=tk }:=
 P b st φ news s.heap tk S .refl q
end
section
variable {α:bC}{ℓ:Nat}{sc:abJ}{slots:List Str}
theorem Cf.frC {A:abt}{h₀:Heap}{L:Addr}(C:Cf α ℓ A h₀ L){G:Prop}(k:∀(A₀:abt) outer Ql,ai0 A₀ α.hB outer h₀->A.frames=some (Ql::outer)->Ql.frame=some L->Ql.scope.kind=.function->G):G:=
 let ⟨A₀,outer,Ql,B,hA,hf,hk⟩:=C.fr; k A₀ outer Ql B hA hf hk
theorem Cf.stays {A:abt}{h₀:Heap}{L:Addr}(C:Cf α ℓ A h₀ L):α.hB.StaysIn h₀:=let ⟨_,_,_,B,_⟩:=C.fr; B.stays
theorem Cf.X {A:abt}{h₀:Heap}{L:Addr}(C:Cf α ℓ A h₀ L):α.K.In h₀:=C.ok.X.keeps C.stays
theorem Cf.T {A:abt}{h₀:Heap}{L:Addr}(C:Cf α ℓ A h₀ L):Top α.p α.loose α.mean α.mg α.mb h₀:=C.ok.T.keeps C.stays
def af (i:Nat):TE:=λρ st Q=>match ρ[i]? with | some (some V)=>Q V st | _=>False
def tK (V:MV):TE:=λ_ st Q=>Q V st
def ak:TL:=λ_ st Q=>Q [] st
def ad (a:TE)(r:TL):TL:=λρ st Q=>a ρ st λV Pt=>r ρ Pt λVs Pz=>Q (V::Vs) Pz
def aF (S:TP)(r:TL):TE:=λρ st Q=>r ρ st λVs Pt=>S Vs Pt Q
theorem vG {A:abt}{env:Env}{h₀:Heap}{L:Addr}{m:Str->Option aab}{s:aah}{st:MS}{φ:bk}{news:aO}{Qc E:aab->aah->Prop}{ρ:aG}{i:Nat}{x:Str}{V:MV}(D:Ce sc env)(S:Sn α h₀ L m s.heap st φ news)(Lo:Lc α slots env L m news φ ρ)(hx:slots[i]?=some x)(hV:ρ[i]?=some (some V))
  (P:∀v,RV α.hB news φ V v->Qc v s):wpAny (abb α.prog α.w) A (loadName env x) Qc E s:=by
 obtain⟨v,hl,hr⟩:=Lo i x V hx hV
 have q:=P v hr
 have hk:env.scope.kind=.function:=D.scope ▸ D.kind
 cases hl with
 | fr QA hL hm=>subst hL; exact aew hk QA S.F.ns hm q
 | ns QA _ _ o es ep hm r=>exact aew hk QA ⟨o,es,ep,S.N.get hm,r.1,r.2.1,λ_=>rfl⟩ r.2.2 q
 | cell QA c o hc _ _ hm ho=>exact ahQ hk QA hc ⟨o,S.N.get hm,ho⟩ q
theorem pE {st:MS}{i:Nat}{ρ:aG}{Q:MV->MS->Prop}{G:Prop}(t:af i ρ st Q)(k:∀V,ρ[i]?=some (some V)->Q V st->G):G:=by
 unfold af at t
 cases e:ρ[i]? with
 | none=>rw [e] at t; exact t.elim
 | some o =>
  rw [e] at t
  cases o with
  | none=>exact t.elim
  | some V=>exact k V e t
theorem aa.loc {i:Nat}{x:Str}{pos:Pos}(hx:autoParam (slots[i]?=some x) aR)(hd:autoParam ((x == ("__debug__":Str))=false) aD):aa α ℓ sc slots (.Name x pos) (af i):=
 λA h₀ L env C D s m st φ news ρ S Lo Q Qc E t P=>pE t λV hV t=>agl (vG D S Lo hx hV λv hr=>P.now S hr t s.toks) hd
theorem bo {k:_}{pos:Pos}:aa α ℓ sc slots (.Constant .none k pos) (tK .none):=λ_ _ _ _ _ _ s _ _ _ _ _ S _ _ _ _ t P=>wpAny_Constant_none (P.now S .none t s.toks)
theorem dm {k:_}{pos:Pos}{b:Bool}:aa α ℓ sc slots (.Constant (.bool b) k pos) (tK (.bool b)):=λ_ _ _ _ _ _ s _ _ _ _ _ S _ _ _ _ t P=>ahR (P.now S (.bool b) t s.toks)
theorem aq {k:_}{pos:Pos}{i:Int}:aa α ℓ sc slots (.Constant (.int i) k pos) (tK (.int i)):=λ_ _ _ _ _ _ s _ _ _ _ _ S _ _ _ _ t P=>wpAny_Constant_int (P.now S (.int i s.toks) t (s.toks+1))
theorem aw {k:_}{pos:Pos}{x:Str}:aa α ℓ sc slots (.Constant (.str x) k pos) (tK (.str x)):=λ_ _ _ _ _ _ s _ _ _ _ _ S _ _ _ _ t P=>ah9 (P.now S (.str x s.toks) t (s.toks+1))
theorem aa.glob {x:Str}{pos:Pos}{v:aab}{V:MV}(e:nsIn α.K aai x=some (some v))(r:α.Ok->RV α.hB [] [] V v)(hx:autoParam (sc.names.lookup x=some .globalImplicit) aR)
  (hd:autoParam ((x == ("__debug__":Str))=false) aD):aa α ℓ sc slots (.Name x pos) (tK V):=by
 intro A h₀ L env C D s m st φ news ρ S Lo Q Qc E t P
 exact aim S.F C.X (afV C.T) e (P.now S (RV.mono' (List.nil_prefix) (λ_ _ h=>absurd h abu) (r C.ok)) t s.toks) D.glob (D.scope ▸ D.kind) (by unfold ab9; rw [D.scope]; exact hx) hd
def fB (es:List Expr):Prop:=∀env,ack es env=es.map λe=>(false,eval e env)
theorem fB.nil:fB []:=λ_=>rfl
theorem fB.cons {e:Expr}{es:List Expr}(h:∀rest env,ack (e::rest) env=(false,eval e env)::ack rest env)(r:fB es):fB (e::es):=λenv=>by rw [h,r env]; rfl
theorem fB.any {es:List Expr}(h:fB es)(pos:Pos)(env:Env):(agm pos (ack es env)).any (·.1)=false:=by
 rw [h env]
 unfold agm
 rw [ain]
 intro x hx
 simp only [aft] at hx
 refine bv λGG PD=>?_
 obtain⟨_,⟨_,_,rfl⟩,rfl⟩:=hx
 refine PD ?_
 simp
structure ae (α:bC)(ℓ:Nat)(sc:abJ)(slots:List Str)(es:List Expr)(T:TL):Prop where
 plain:fB es
 run:∀A h₀ L env,Cf α ℓ A h₀ L->Ce sc env->∀s m st φ news ρ,Sn α h₀ L m s.heap st φ news->Lc α slots env L m news φ ρ->∀pos Q Qc E,T ρ st Q->Nd α es.length h₀ L m s φ news Q Qc ->
  wpAny (abb α.prog α.w) A (aje (agm pos (ack es env))) Qc E s
theorem ai:ae α ℓ sc slots [] ak where
 plain:=.nil
 run:=λA h₀ L env C D s m st φ news ρ S Lo pos Q Qc E t P=>ahw (P [] st φ news [] s.heap s.toks S .refl .nil t rfl)
theorem ac {e:Expr}{es:List Expr}{a:TE}{r:TL}(h:aa α ℓ sc slots e a)(k:ae α ℓ sc slots es r)(hs:autoParam (∀rest env,ack (e::rest) env=(false,eval e env)::ack rest env) aI):ae α ℓ sc slots (e::es) (ad a r) where
 plain:=.cons hs k.plain
 run:=λA h₀ L env C D s m st φ news ρ S Lo pos Q Qc E t P =>
  aeE (he:=hs _ _) (h A h₀ L env C D s m st φ news ρ S Lo _ _ E t λV Pt Px PC v h₁ PA Pv Py PO Pw =>
   k.run A h₀ L env C D _ m Pt Px PC ρ Pv (Lo.grow Py) pos _ _ E Pw λVs Pz PE PS vs PM PN PF PH P5 PU hn =>
    P (V::Vs) Pz PE PS (v::vs) PM PN PF (Py.trans PH) (.cons (PO.mono PH) P5) PU (by simp [hn]))
theorem bR {A:abt}{env:Env}{pos:Pos}{f:aab}{first:List aab}{es:List Expr}{s:aah}{Q:aab->aah->Prop}{E:aab->aah->Prop}(pl:fB es){Pp:Heap->Prop}
  (hk:∀h,Pp h->∃k,(k=ag5\/k=agn\/k=afv)/\aio (abb α.prog α.w) h (ai1 f) k)
  (h:wpAny (abb α.prog α.w) A (aje (agm pos (ack es env))) (λvs P0=>Pp P0.heap/\wpAny (abb α.prog α.w) A (call f (first++vs)) Q E P0) E s) :
  wpAny (abb α.prog α.w) A (ai2 pos f first (agm pos (ack es env)) []) Q E s:=by
 refine callWith_of (P:=Pp) (by rw [pl.any]; rfl) hk ?_
 have e:=pl env
 cases es with
 | nil =>
  intro Γ p WT
  exact evalArgs_nil3 (h Γ p WT) Γ p WT
 | cons a as =>
  rw [e] at h ⊢
  exact evalArgs_plain h
end
section
variable {α:bC}{ℓ:Nat}{sc:abJ}{slots:List Str}
theorem ko.look {P:aiZ}{hB:Heap}{news:aO}{φ:bk}{name:Str}{fs:List (Str×MV)}{es:List adB}(r:ko P hB news φ fs es) :
  match fs.lookup name with
  | some V=>∃v,aiJ name es=some (some v)/\RV hB news φ V v
  | none=>aiJ name es=some none:=by
 induction r with
 | nil=>rfl
 | @cons k t V v fs es h r ih =>
  rw [agS]
  cases hk:name == k with
  | true =>
   refine⟨v,?_,h⟩
   obtain rfl:=eq_of_beq hk
   unfold aiJ
   rw [List.find?_cons_of_pos (a:=⟨adz P name,.str name t,v⟩) (p:=λe:adB=>e.key.isStr name) (beq_self_eq_true name)]
  | false =>
   have QA:(k == name)=false:=by rw [Bool.beq_comm]; exact hk
   have e:aiJ name (⟨adz P k,.str k t,v⟩::es)=aiJ name es:=by
    unfold aiJ
    rw [List.find?_cons_of_neg (a:=⟨adz P k,.str k t,v⟩) (p:=λe:adB=>e.key.isStr name) (λq=>Bool.noConfusion (QA.symm.trans q))]; rfl
   rw [e]
   exact ih
theorem ko.noneOf {P:aiZ}{hB:Heap}{news:aO}{φ:bk}{name:Str}{fs:List (Str×MV)}{es:List adB}(r:ko P hB news φ fs es)(h:∀p∈fs,p.1≠name):aiJ name es=some none:=by
 have:=r.look (name:=name)
 have hn:fs.lookup name=none:=by
  rw [aeZ]
  intro p hp; have:=h p hp; simpa using λe=>this e.symm
 rw [hn] at this; exact this
theorem Wd.inst {st:MS}{φ:bk}{news:aO}(W:Wd α st φ news){i:Nat}{c:Addr}{fs:List (Str×MV)}{a:Addr}{d':Addr}(h:st[i]?=some (.inst c fs))(PP:φ[i]?=some (a,d')) :
  (a,agE c d')∈news/\((∀p∈fs,p.1∈α.flds c)/\fs.length<=100)/\∃es n,(d',dictOf es n)∈news/\ko α.w.params α.hB news φ fs es:=by
 obtain⟨TV,Tx,e,r⟩:=W.objs i _ h
 rw [PP] at e; cases e
 exact r
theorem Wd.list {st:MS}{φ:bk}{news:aO}(W:Wd α st φ news){i:Nat}{xs:List MV}{a d':Addr}(h:st[i]?=some (.list xs))(PP:φ[i]?=some (a,d')) :
  d'=a/\∃its n,(a,bV its n)∈news/\bg α.hB news φ xs its.toList:=by
 obtain⟨TV,Tx,e,r⟩:=W.objs i _ h
 rw [PP] at e; cases e
 exact r
theorem Wd.dict {st:MS}{φ:bk}{news:aO}(W:Wd α st φ news){i:Nat}{fs:List (Str×MV)}{ep:Nat}{a d':Addr}(h:st[i]?=some (.dict fs ep))(PP:φ[i]?=some (a,d')) :
  d'=a/\(a == aeb)=false/\∃o kvs,(a,o)∈news/\vM α o kvs ep/\mq α.hB news φ fs kvs:=by
 obtain⟨TV,Tx,e,r⟩:=W.objs i _ h
 rw [PP] at e; cases e
 exact r
theorem Wd.listC {st:MS}{φ:bk}{news:aO}(W:Wd α st φ news){i:Nat}{xs:List MV}{a d':Addr}{G:Prop}(h:st[i]?=some (.list xs))(PP:φ[i]?=some (a,d'))(k:∀its n,φ[i]?=some (a,a)->(a,bV its n)∈news->bg α.hB news φ xs its.toList->G):G:=
 let ⟨e,its,n,hm,q⟩:=W.list h PP; k its n (e ▸ PP) hm q
theorem Wd.dictC {st:MS}{φ:bk}{news:aO}(W:Wd α st φ news){i:Nat}{fs:List (Str×MV)}{ep:Nat}{a d':Addr}{G:Prop}(h:st[i]?=some (.dict fs ep))(PP:φ[i]?=some (a,d'))
  (k:∀o kvs,φ[i]?=some (a,a)->(a == aeb)=false->(a,o)∈news->vM α o kvs ep->mq α.hB news φ fs kvs->G):G:=
 let ⟨e,e2,o,kvs,hm,hd,q⟩:=W.dict h PP; k o kvs (e ▸ PP) e2 hm hd q
theorem Cf.inner {A A':abt}{h₀ g:Heap}{L:Addr}(C:Cf α (ℓ+1) A h₀ L):ℓ<=10/\(ℓ=10->(∃Ql,A'.frames=some [Ql])/\g=α.hB):=⟨by have:=C.tp.1; walk_at "o",λe=>by have:=C.tp.1; walk_at "o"⟩
theorem Cf.mono {Rz:Nat}{A:abt}{h₀:Heap}{L:Addr}(C:Cf α Rz A h₀ L)(h:ℓ<=Rz):Cf α ℓ A h₀ L:=⟨C.ok,C.fr,C.hand,aca (ahx (ahS (agd 3 h) _) 3) C.depth,aca (ahx (ahS (agd 10 h) _) 200) C.units,⟨aaj h C.tp.1,λe=>C.tp.2 (af9 C.tp.1 (e ▸ h))⟩⟩
theorem Cf.dep1 {A:abt}{h₀:Heap}{L:Addr}(C:Cf α (ℓ+1) A h₀ L):A.depth+1+3 * ℓ+3 < afu:=by have:=C.depth; walk_at "o"
theorem aM.mono {Rz:Nat}{code:List aab->Sem aab}{S:TP}(h:aM α ℓ code S)(hl:ℓ<=Rz):aM α Rz code S:=λA h₀ L C=>h A h₀ L (C.mono hl)
theorem aa.call {x:Str}{p pos:Pos}{args:List Expr}{f:Addr}{S:TP}{T:TL}(e:nsIn α.K aai x=some (some (.ref f)))(hk:abE α.K (.ref f)=true)(hS:aM α ℓ (λvs=>abN (.ref f) vs) S)
  (hT:ae α ℓ sc slots args T) (hx:autoParam (sc.names.lookup x=some .globalImplicit) aR) (hd:autoParam ((x == ("__debug__":Str))=false) aD):aa α ℓ sc slots (.Call (.Name x p) args [] pos) (aF S T):=by
 intro A h₀ L env C D s m st φ news ρ Qr Lo Q Qc E t P
 refine agT (aim Qr.F C.X (afV C.T) e ?_ D.glob (D.scope ▸ D.kind) (by unfold ab9; rw [D.scope]; exact hx) hd)
 refine bR (α:=α) hT.plain (Pp:=α.K.In) (aiT hk) (hT.run A h₀ L env C D s m st φ news ρ Qr Lo pos _ _ E t λVs Pt Px PC vs h₁ PA Pv Py PO Pw _=>⟨C.X.keeps Pv.F.keep,?_⟩)
 exact hS A h₀ L C _ m Pt Px PC Vs vs Pv PO Q Qc E Pw (P.after Py h₁ PA)
theorem e7 {id:String}(M:ah2)(h:Heap):∃k,(k=ag5\/k=agn\/k=afv)/\aio M h (ai1 (.builtin id)) k:=⟨.machine,.inr (.inl rfl),agL rfl⟩
theorem iU {id:String}(M:ah2)(h:Heap):∃k,(k=ag5\/k=agn\/k=afv)/\aio M h (ai1 (.type id)) k:=⟨.machine,.inr (.inl rfl),agL rfl⟩
theorem fv {A:abt}{E:aab->aah->Prop}{s:aah}{h₀:Heap}{L:Addr}{m:Str->Option aab}{env:Env}{x:Str}{pos:Pos}{v:aab}{Q:aab->aah->Prop}(C:Cf α ℓ A h₀ L)(D:Ce sc env)(F:Fr h₀ L s.heap m)
  (e:nsIn α.K aai x=some none) (hv:agg x=some v) (hn:x≠"__name__") (h:Q v s) (hx:sc.names.lookup x=some .globalImplicit) (hd:(x == ("__debug__":Str))=false) :
  wpAny (abb α.prog α.w) A (eval (.Name x pos) env) Q E s:=by
 have hk:env.scope.kind=.function:=D.scope ▸ D.kind
 refine ahy hk (by unfold ab9; rw [D.scope]; exact hx) (loadGlobal_builtin (env:=env) (mg:=α.mg) (mb:=α.mb) ?_ (mg_none_of C.X C.T.g e) ?_ ((C.T.builtins x hn).trans hv) h) hd
 ·rw [D.glob]; exact C.T.g.keeps F.keep
 ·rw [D.bul]; exact C.T.b.keeps F.keep
theorem bB {x:Str}{p pos:Pos}{args:List Expr}{id:String}{S:TP}{T:TL}(e:nsIn α.K aai x=some none)(hv:agg x=some (.builtin id))(hS:aM α ℓ (λvs=>abN (.builtin id) vs) S)
  (hT:ae α ℓ sc slots args T) (hx:autoParam (sc.names.lookup x=some .globalImplicit) aR) (hn:autoParam (x≠"__name__") aD) (hd:autoParam ((x == ("__debug__":Str))=false) aD):aa α ℓ sc slots (.Call (.Name x p) args [] pos) (aF S T):=by
 intro A h₀ L env C D s m st φ news ρ Qr Lo Q Qc E t P
 refine agT (fv C D Qr.F e hv hn ?_ hx hd)
 refine bR (α:=α) hT.plain (Pp:=λ_=>True) (λh _=>e7 _ h) (hT.run A h₀ L env C D s m st φ news ρ Qr Lo pos _ _ E t λVs Pt Px PC vs h₁ PA Pv Py PO Pw _=>⟨trivial,?_⟩)
 exact hS A h₀ L C _ m Pt Px PC Vs vs Pv PO Q Qc E Pw (P.after Py h₁ PA)
theorem cG {x:Str}{p pos:Pos}{args:List Expr}{id:String}{S:TP}{T:TL}(e:nsIn α.K aai x=some none)(hv:agg x=some (.type id))(hS:aM α ℓ (λvs=>abN (.type id) vs) S)
  (hT:ae α ℓ sc slots args T) (hx:autoParam (sc.names.lookup x=some .globalImplicit) aR) (hn:autoParam (x≠"__name__") aD) (hd:autoParam ((x == ("__debug__":Str))=false) aD):aa α ℓ sc slots (.Call (.Name x p) args [] pos) (aF S T):=by
 intro A h₀ L env C D s m st φ news ρ Qr Lo Q Qc E t P
 refine agT (fv C D Qr.F e hv hn ?_ hx hd)
 refine bR (α:=α) hT.plain (Pp:=λ_=>True) (λh _=>iU _ h) (hT.run A h₀ L env C D s m st φ news ρ Qr Lo pos _ _ E t λVs Pt Px PC vs h₁ PA Pv Py PO Pw _=>⟨trivial,?_⟩)
 exact hS A h₀ L C _ m Pt Px PC Vs vs Pv PO Q Qc E Pw (P.after Py h₁ PA)
theorem qf {A:abt}{env:Env}{o:Expr}{name:Str}{Te pos:Pos}{args:List Expr}{s:aah}{Q:aab->aah->Prop}{E:aab->aah->Prop}(pl:fB args)(hl:args.length < 30)
  (hb:∀QQ,af1 o name env QQ=QQ) (hp:(Te.endLine == pos.line)=true)
  (h:wpAny (abb α.prog α.w) A (eval o env) (λov P0=>wpAny (abb α.prog α.w) A (getMethod ov name (do return (<- importBound o env).getD true)) (λfx Qo=>wpAny (abb α.prog α.w) A (ai2 pos fx.1 fx.2 (agm pos (ack args env)) []) Q E Qo) E P0) E s) :
  wpAny (abb α.prog α.w) A (eval (.Call (.Attribute o name Te) args [] pos) env) Q E s:=by
 rw [arm_eval_Call,hb]
 refine aac (abR h (λov P0 h₁=>aac (adl ?_)) λ_ _ x=>x)
 have few:methodCallForm (args.length+([]:List Keyword).length) (agm pos (ack args env)) (backToKw pos (aiN [] env))=true:=by
  unfold methodCallForm
  have:=pl.any pos env
  have h1:(agm pos (ack args env)).all (λx=>!x.1)=true:=by
   rw [abQ]; intro x hx
   rw [ain] at this
   simpa using this x hx
  rw [h1]
  show (true && true && decide (args.length+0+0 < 30))=true
  simpa using hl
 unfold methodCall
 rw [few]
 refine aac (ab0 ?_)
 show wpAny _ _ (getMethod ov name _) _ _ _
 refine abR h₁ (λfx Qo PM=>?_) λ_ _ x=>x
 unfold methodCallPos
 rw [hp]
 exact aac (aa8 PM)
def xt (C:Addr)(V:MV)(st:MS):Prop:=∃i fs,V=.ref i/\st[i]?=some (.inst C fs)
def bf (C:Addr)(S:TP)(o:TE)(args:TL):TE:=λρ st Q=>o ρ st λV Pt=>xt C V Pt/\args ρ Pt λVs Pz=>S (V::Vs) Pz Q
theorem aQ {o:Expr}{name:Str}{Te pos:Pos}{args:List Expr}{C f:Addr}{S:TP}{To:TE}{T:TL}(ho:aa α ℓ sc slots o To)(hT:ae α ℓ sc slots args T)(hS:aM α ℓ (λvs=>abN (.ref f) vs) S)
  (hg:aip α.K C name=true) (hf:abX α.K (.ref C) name=some (some (.ref f))) (ht:isFn α.K (.ref f)=true) (hk:abE α.K (.ref f)=true) (hnm:name ∉ α.flds C)
  (hl:autoParam (args.length < 30) aK) (hp:autoParam ((Te.endLine == pos.line)=true) aR) (hb:autoParam (∀env QQ,af1 o name env QQ=QQ) aI) :
  aa α ℓ sc slots (.Call (.Attribute o name Te) args [] pos) (bf C S To T):=by
 intro A h₀ L env Cx D s m st φ news ρ Qr Lo Q Qc E t P
 refine qf hT.plain hl (hb env) hp (ho A h₀ L env Cx D s m st φ news ρ Qr Lo _ _ E t λV Pt Px PC v h₁ PA Pv Py PO Pw=>?_)
 refine bv λGG PD=>?_
 obtain⟨⟨i,fs,rfl,hi⟩,Pw⟩:=Pw
 refine PD ?_
 apply RV.r PO; intro a d PP
 refine bv λGG PD=>?_
 obtain⟨hm,⟨V8,_⟩,es,n,hd,hF⟩:=Pv.W.inst hi PP
 refine PD ?_
 refine method_inst (K:=α.K) (C:=C) (ox:=agE C d) (n:=n) (es:=es) Pv.F Cx.X (ahz Pv.N hm hd) hg hf ht (hF.noneOf λp hp e=>hnm (e ▸ V8 p hp)) ?_
 refine bR (α:=α) hT.plain (Pp:=α.K.In) (aiT hk) (hT.run A h₀ L env Cx D _ m Pt Px PC ρ Pv (Lo.grow Py) pos _ _ E Pw λVs Pz PE PS vs PM PN PF PH P5 PU _=>⟨Cx.X.keeps PF.F.keep,?_⟩)
 exact hS A h₀ L Cx _ m Pz PE PS _ _ PF (.cons ((RV.ref PP).mono PH) P5) Q Qc E PU ((P.after Py h₁ PA).after PH PM PN)
def w8 (C:Addr)(K:List (Str×MV)->Prop)(o:Option MO):Prop:=match o with | some (.inst c fs)=>c=C/\K fs | _=>False
theorem wT {C:Addr}{K:List (Str×MV)->Prop}{o:Option MO}{G:Prop}(t:w8 C K o)(k:∀fs,o=some (.inst C fs)->K fs->G):G:=by
 cases o with
 | none=>exact t.elim
 | some x=>cases x with
  | inst c fs=>exact k fs (t.1 ▸ rfl) t.2
  | _=>exact t.elim
def JH (C:Addr)(name:Str)(Q:MV->MS->Prop):MV->MS->Prop:=λV Pt=>hO (λi=>w8 C (λfs=>dU (fs.lookup name) λW=>Q W Pt) Pt[i]?) V
def cC (C:Addr)(name:Str)(o:TE):TE:=λρ st Q=>o ρ st (JH C name Q)
theorem bn {o:Expr}{name:Str}{pos:Pos}{C:Addr}{To:TE}{aaa:Option aab}(ho:aa α ℓ sc slots o To)(hg:aip α.K C name=true)(hh:ahN α.K C=true)(ha:abX α.K (.ref C) name=some aaa)(hn:noGet α.K aaa=true)
  (hb:autoParam (∀env QQ,af1 o name env QQ=QQ) aI):aa α ℓ sc slots (.Attribute o name pos) (cC C name To):=by
 intro A h₀ L env Cx D s m st φ news ρ Qr Lo Q Qc E t P
 rw [arm_eval_Attribute,hb]
 refine aac (ho A h₀ L env Cx D s m st φ news ρ Qr Lo _ _ E t λV Pt Px PC v h₁ PA Pv Py PO Pw=>aac (adl (aac (ab0 ?_))))
 apply PO.oR Pw; intro i a d PP Pw
 refine wT Pw λfs hi Pw=>dH Pw λW hW Pw=>?_
 refine bv λGG PD=>?_
 obtain⟨hm,⟨V8,_⟩,es,n,hd,hF⟩:=Pv.W.inst hi PP
 have gl:=hF.look (name:=name)
 rw [hW] at gl
 obtain⟨v,gl,rv⟩:=gl
 refine PD ?_
 refine get_own (K:=α.K) (C:=C) (ox:=agE C d) (n:=n) (es:=es) Pv.F Cx.X (ahz Pv.N hm hd) hg hh ha hn gl (by cases rv <;> rfl) ?_
 refine aac (wpAny_letTemporaryGo (aa8 ?_))
 exact P W Pt Px PC v h₁ _ Pv Py rv Pw
end
section
variable {α:bC}{ℓ:Nat}{sc:abJ}{slots:List Str}{h₀ h h':Heap}{L:Addr}{m:Str->Option aab}{st:MS}{φ:bk}{news:aO}
theorem OR.mono {PG:bk}{Pu:aO}{a d:Addr}{o:MO}(hp:φ <+: PG)(hs:∀p∈news,p∈Pu)(r:OR α news φ a d o):OR α Pu PG a d o:=by
 cases o with
 | list xs=>obtain⟨e,its,n,hm,q⟩:=r; exact⟨e,its,n,hs _ hm,bg.mono' hp (λ_ _ h=>hs _ h) q⟩
 | inst c fs=>obtain⟨hm,hf,es,n,hd,q⟩:=r; exact⟨hs _ hm,hf,es,n,hs _ hd,q.mono hp λ_ _ h=>hs _ h⟩
 | dict fs ep=>obtain⟨e,e2,o,kvs,hm,hd,q⟩:=r; exact⟨e,e2,o,kvs,hs _ hm,hd,q.mono hp λ_ _ h=>hs _ h⟩
theorem OR.inKeys {a d:Addr}{o:MO}(r:OR α news φ a d o):(∃TX,(a,TX)∈news)/\∃Rg,(d,Rg)∈news:=by
 cases o with
 | list xs=>obtain⟨rfl,its,n,hm,q⟩:=r; exact⟨⟨_,hm⟩,⟨_,hm⟩⟩
 | inst c fs=>obtain⟨hm,hf,es,n,hd,q⟩:=r; exact⟨⟨_,hm⟩,⟨_,hd⟩⟩
 | dict fs ep=>obtain⟨rfl,e2,o,kvs,hm,hd,q⟩:=r; exact⟨⟨_,hm⟩,⟨_,hm⟩⟩
theorem Wd.footKeys (W:Wd α st φ news){a:Addr}(h:a∈bq φ):∃o,(a,o)∈news:=by
 unfold bq at h
 refine bv λGG PD=>?_
 obtain⟨p,hp,ha⟩:=adu.mp h
 obtain⟨i,hi,e⟩:=aex.mp hp
 have W4:i < st.length:=W.len ▸ hi
 obtain⟨TV,Tx,Vf,r⟩:=W.objs i st[i] (by simp)
 refine PD ?_
 have:φ[i]?=some p:=by rw [aa9 hi,e]
 rw [this] at Vf
 cases Vf
 have k:=r.inKeys
 simp only [aby,abu,or_false] at ha
 rcases ha with rfl | rfl
 ·exact k.1
 ·exact k.2
theorem eJ {news:aO}(hn:(news.map (·.1)).Nodup){a:Addr}{TX Rg:Obj}(h1:(a,TX)∈news)(h2:(a,Rg)∈news):TX=Rg:=by
 induction news with
 | nil=>cases h1
 | cons p r ih =>
  rw [abg,abV] at hn
  cases h1 with
  | head=>cases h2 with
   | head=>rfl
   | tail _ h2=>exact absurd (ed ⟨_,h2,rfl⟩) hn.1
  | tail _ h1=>cases h2 with
   | head=>exact absurd (ed ⟨_,h1,rfl⟩) hn.1
   | tail _ h2=>exact ih hn.2 h1 h2
theorem lI {a d x:Addr}(h:x∈bq (φ++[(a,d)])):x∈bq φ\/x=a\/x=d:=by
 unfold bq at h ⊢
 rw [ahT] at h
 rcases dW h with h | h
 ·exact .inl h
 ·simp at h; exact .inr h
theorem JO {a b:String}(h:a≠b):aia a≠aia b:=λe=>h (ahA e)
theorem OR.noCo {a d c:Addr}{o:MO}{oc:Obj}(r:OR α news φ a d o)(hn:(news.map (·.1)).Nodup)(hc:(c,oc)∈news)(h:pR oc):c≠a/\c≠d:=by
 obtain⟨h1,vs,h2⟩:=h
 have key:∀x ox,(x,ox)∈news->(ox.cls≠.type "code"\/∀vs,ox.data≠.fields vs)->c≠x:=λx ox hx hq e=>by
  subst e
  obtain rfl:=eJ hn hc hx
  rcases hq with q | q
  ·exact q h1
  ·exact q _ h2
 cases o with
 | list xs=>obtain⟨rfl,its,n,hm,q⟩:=r; exact⟨key _ _ hm (.inl (JO (by decide))),key _ _ hm (.inl (JO (by decide)))⟩
 | inst cc fs=>obtain⟨hm,hf,es,n,hd,q⟩:=r; exact⟨key _ _ hm (.inl (λe=>by cases e)),key _ _ hd (.inl (JO (by decide)))⟩
 | dict fs ep =>
  refine bv λGG PD=>?_
  obtain⟨rfl,e2,o,kvs,hm,⟨es,_,Qn,_⟩,q⟩:=r
  refine PD ?_
  exact⟨key _ _ hm (.inr λvs e=>by rw [Qn] at e; cases e),key _ _ hm (.inr λvs e=>by rw [Qn] at e; cases e)⟩
theorem Wd.more {D:Addr}{o:Obj}(W:Wd α st φ news)(hD:∀p∈news,p.1≠D):Wd α st φ ((D,o)::news) where
 nodup:=abV.mpr ⟨λh=>by obtain⟨p,hp,e⟩:=c8 h; exact hD p hp e,W.nodup⟩
 len:=W.len
 apart:=W.apart
 objs:=λi o' hi=>let ⟨a,d,e,r⟩:=W.objs i o' hi; ⟨a,d,e,r.mono (aaf _) λp h=>.tail _ h⟩
 tabs:=let ⟨ps,hm,g,k⟩:=W.tabs; ⟨ps,.tail _ hm,g,λc hc=>let ⟨oc,h1,h2⟩:=k c hc; ⟨oc,.tail _ h1,h2⟩⟩
theorem m5 {X:Type}{l:List X}{y x:X}{i:Nat}{G:Prop}(h:(l++[y])[i]?=some x)(h1:l[i]?=some x->G)(h2:i=l.length->x=y->G):G:=by
 rcases aiq i l.length with hi | hi | hi
 ·exact h1 (by rwa [abl hi] at h)
 ·rw [hi,aeq] at h; exact h2 hi (abi h).symm
 ·rw [afP (by rw [aba]; exact hi)] at h; cases h
theorem Wd.alloc {a d:Addr}{o:MO}(W:Wd α st φ news)(ha:a ∉ bq φ)(hd:d ∉ bq φ)(r:OR α news (φ++[(a,d)]) a d o):Wd α (st++[o]) (φ++[(a,d)]) news where
 nodup:=W.nodup
 len:=by rw [aba,aba,W.len]; rfl
 apart:=by
  have mem:∀(i:Nat) (p:Addr×Addr),φ[i]?=some p->(p.1≠a/\p.1≠d)/\p.2≠a/\p.2≠d:=λi p e=>by
   have hp:=abh e
   have m1:p.1∈bq φ:=adu.mpr ⟨p,hp,.head _⟩
   have m2:p.2∈bq φ:=adu.mpr ⟨p,hp,.tail _ (.head _)⟩
   exact⟨⟨λe=>ha (e ▸ m1),λe=>hd (e ▸ m1)⟩,λe=>ha (e ▸ m2),λe=>hd (e ▸ m2)⟩
  intro i j p q hi hj Yz
  refine m5 hi (λhi=>m5 hj (λhj=>W.apart i j p q hi hj Yz) λ_ e=>?_) λei e=>m5 hj (λhj=>?_) λej _=>absurd (ei.trans ej.symm) Yz
  ·have m:=mem i p hi
   rw [e]; exact⟨m.1.1,m.1.2,m.2.1,m.2.2⟩
  ·have m:=mem j q hj
   rw [e]; exact⟨m.1.1.symm,m.2.1.symm,m.1.2.symm,m.2.2.symm⟩
 objs:=λi o' hi=>by
  refine m5 hi (λhi=>?_) λei eo=>⟨a,d,by rw [ei,<- W.len]; exact aeq,eo ▸ r⟩
  obtain⟨TV,Tx,e,PO⟩:=W.objs i o' hi
  exact⟨TV,Tx,aA (abF _ _) e,PO.mono (abF _ _) λp h=>h⟩
 tabs:=by
  obtain⟨ps,hm,g,k⟩:=W.tabs
  refine⟨ps,hm,g,λc hc=>?_⟩
  obtain⟨oc,h1,h2,h3,h4⟩:=k c hc
  refine⟨oc,h1,λq=>?_,h3,h4⟩
  rcases lI q with q | q | q
  ·exact h2 q
  ·exact (r.noCo W.nodup h1 h3).1 q
  ·exact (r.noCo W.nodup h1 h3).2 q
theorem Sn.lt (S:Sn α h₀ L m h st φ news):∀p∈news,p.1≠h.objs.size:=λp hp=>abc (abk (S.N p hp).1)
theorem Sn.notFoot (S:Sn α h₀ L m h st φ news){D:Addr}(hD:∀p∈news,p.1≠D):D ∉ bq φ:=λq=>let ⟨o,ho⟩:=S.W.footKeys q; hD _ ho rfl
theorem Sn.entry {D:Addr}{o:Obj}(S:Sn α h₀ L m h st φ news)(F:Fr h₀ L h' m)(N:News h₀ L h' ((D,o)::news))(hD:∀p∈news,p.1≠D) :
  Sn α h₀ L m h' st φ ((D,o)::news)/\a9 [α.tab] φ news φ ((D,o)::news):=⟨⟨F,N,S.W.more hD⟩,.led λp h=>.tail _ h⟩
theorem Sn.newList {D:Addr}{its:Array aab}{n:Nat}{xs:List MV}(S:Sn α h₀ L m h st φ news)(F:Fr h₀ L h' m)(N:News h₀ L h' ((D,bV its n)::news))(hD:∀p∈news,p.1≠D)(r:bg α.hB news φ xs its.toList) :
  Sn α h₀ L m h' (st++[.list xs]) (φ++[(D,D)]) ((D,bV its n)::news)/\a9 [α.tab] φ news (φ++[(D,D)]) ((D,bV its n)::news):=by
 have hf:=S.notFoot hD
 refine⟨⟨F,N,(S.W.more hD).alloc hf hf ⟨rfl,its,n,.head _,bg.mono' (abF _ _) (λ_ _ h=>.tail _ h) r⟩⟩,.sub (abF _ _) (λp h=>.tail _ h) λp hp h=>?_⟩
 rcases lI h with h | h | h
 ·exact h
 ·exact absurd h (hD p hp)
 ·exact absurd h (hD p hp)
theorem Sn.refNew {D d:Addr}(S:Sn α h₀ L m h st φ news){Pu:aO}:RV α.hB Pu (φ++[(D,d)]) (.ref st.length) (.ref D):=.ref (d:=d) (by rw [<- S.W.len]; simp)
end
section
variable {α:bC}{ℓ:Nat}{h₀:Heap}{L:Addr}{m:Str->Option aab}{s:aah}{st:MS}{φ:bk}{news:aO}
noncomputable def c2 (f:aab->aab->Sem aab):List aab->Sem aab:=λvs=>match vs with | [a,b]=>f a b | _=>.unsupported ""
noncomputable def c1 (f:aab->Sem aab):List aab->Sem aab:=λvs=>match vs with | [a]=>f a | _=>.unsupported ""
theorem Sn.isList (S:Sn α h₀ L m s.heap st φ news){a:Addr}{its:Array aab}{n:Nat}(h:(a,bV its n)∈news):s.heap.IsList a its:=⟨_,S.N.get h,rfl,n,rfl⟩
theorem Sn.has (C:α.hB.StaysIn h₀)(S:Sn α h₀ L m s.heap st φ news){a:Addr}{o:Obj}(h:Ct α.hB news a o):s.heap.get? a=some o:=by
 rcases h with h | h
 ·exact S.N.get h
 ·exact S.F.keep _ _ (C _ _ h)
theorem Sn.isTup (C:α.hB.StaysIn h₀)(S:Sn α h₀ L m s.heap st φ news){a:Addr}{its:Array aab}(h:Ct α.hB news a (bz its)):ajn s.heap a its:=⟨_,S.has C h,rfl,0,rfl⟩
theorem gZ.newList {Q:MV->MS->Prop}{Qc:aab->aah->Prop}{xs:List MV}{its:Array aab}{n:Nat}{h':Heap}{tk:Nat}(P:gZ α h₀ L m s φ news Q Qc)(S:Sn α h₀ L m s.heap st φ news)
  {D:Addr} (F:Fr h₀ L h' m) (N:News h₀ L h' ((D,bV its n)::news)) (hD:∀p∈news,p.1≠D) (r:bg α.hB news φ xs its.toList) (q:Q (.ref st.length) (st++[.list xs])):Qc (.ref D) { s with heap:=h',toks:=tk }:=by
 obtain⟨S',g⟩:=S.newList F N hD r
 exact P _ _ _ _ _ h' tk S' g S.refNew q
theorem gZ.newTup {Q:MV->MS->Prop}{Qc:aab->aah->Prop}{xs:List MV}{its:Array aab}{h':Heap}{tk:Nat}(P:gZ α h₀ L m s φ news Q Qc)(S:Sn α h₀ L m s.heap st φ news)
  {D:Addr} (F:Fr h₀ L h' m) (N:News h₀ L h' ((D,bz its)::news)) (hD:∀p∈news,p.1≠D) (r:bg α.hB news φ xs its.toList) (q:Q (.tup xs) st):Qc (.ref D) { s with heap:=h',toks:=tk }:=by
 obtain⟨S',g⟩:=S.entry F N hD
 exact P _ _ _ _ _ h' tk S' g (.tup (.inl (.head _)) (r.mono g)) q
def one (p:MV->MS->(MV->MS->Prop)->Prop):TP:=λVs st Q=>match Vs with | [V]=>p V st Q | _=>False
def two (p:MV->MV->MS->(MV->MS->Prop)->Prop):TP:=λVs st Q=>match Vs with | [V,W]=>p V W st Q | _=>False
def cD (o:Option MO)(K:List MV->Prop):Prop:=match o with | some (.list xs)=>K xs | _=>False
def wl (o:Option MO)(K:List (Str×MV)->Prop):Prop:=match o with | some (.dict fs _)=>K fs | _=>False
theorem bZ {o:Option MO}{K:List MV->Prop}{G:Prop}(t:cD o K)(k:∀xs,o=some (.list xs)->K xs->G):G:=by
 cases o with
 | none=>exact t.elim
 | some a=>cases a with
  | list xs=>exact k xs rfl t
  | _=>exact t.elim
theorem wg {o:Option MO}{K:List (Str×MV)->Prop}{G:Prop}(t:wl o K)(k:∀fs ep,o=some (.dict fs ep)->K fs->G):G:=by
 cases o with
 | none=>exact t.elim
 | some a=>cases a with
  | dict fs ep=>exact k fs ep rfl t
  | _=>exact t.elim
theorem oK {code:List aab->Sem aab}{p:MV->MS->(MV->MS->Prop)->Prop}
  (h:∀A h₀ L,Cf α ℓ A h₀ L->∀(s:aah) m st φ news V v,Sn α h₀ L m s.heap st φ news->RV α.hB news φ V v->∀Q Qc E,p V st Q->gZ α h₀ L m s φ news Q Qc->wpAny (abb α.prog α.w) A (code [v]) Qc E s):aM α ℓ code (one p):=by
 intro A h₀ L C s m st φ news Vs vs S r Q Qc E t P
 cases r with
 | nil=>exact t.elim
 | cons r1 r=>cases r with
  | nil=>exact h A h₀ L C s m st φ news _ _ S r1 Q Qc E t P
  | cons _ _=>exact t.elim
theorem g5 {code:List aab->Sem aab}{p:MV->MV->MS->(MV->MS->Prop)->Prop}
  (h:∀A h₀ L,Cf α ℓ A h₀ L->∀(s:aah) m st φ news V W v w,Sn α h₀ L m s.heap st φ news->RV α.hB news φ V v->RV α.hB news φ W w->∀Q Qc E,p V W st Q->gZ α h₀ L m s φ news Q Qc->wpAny (abb α.prog α.w) A (code [v,w]) Qc E s):aM α ℓ code (two p):=by
 intro A h₀ L C s m st φ news Vs vs S r Q Qc E t P
 cases r with
 | nil=>exact t.elim
 | cons r1 r=>cases r with
  | nil=>exact t.elim
  | cons r2 r=>cases r with
   | nil=>exact h A h₀ L C s m st φ news _ _ _ _ S r1 r2 Q Qc E t P
   | cons _ _=>exact t.elim
def M4:MV->MV->MS->(MV->MS->Prop)->Prop:=λV W st Q=>gF (λa=>jK (λb=>Q (.int (a+b)) st) W) (λx=>xP (λy=>(x++y).length<=abA/\Q (.str (x++y)) st) W)
 (λxs=>uV (λys=>xs.length+ys.length<=abA/\Q (.tup (xs++ys)) st) W) (λi=>hO (λj=>cD st[i]? λxs=>cD st[j]? λys=>xs.length+ys.length<=abA/\Q (.ref st.length) (st++[.list (xs++ys)])) W) (nK _) V
def cM:TP:=two M4
theorem cL:aM α 0 (c2 (ago .Add)) cM:=g5 λA h₀ L C s m st φ news V W v w S r1 r2 Q Qc E t P=>by
 apply r1.cV t
 ·intro a ta t; apply r2.oI t; intro b tb t; exact add_int (P.now S (.int _ _) t _)
 ·intro x ta t; apply r2.oS t; intro y tb t; exact PyProof.Rows.add_str (λt' tk=>P.now S (.str _ _) t.2 tk) (by rw [<- agM]; exact t.1)
 ·intro xs a its h1 q1 t; apply r2.oT t; intro ys b Rv h2 q2 t
  refine add_tuples S.F S.N (vs:=its.toList) (ws:=Rv.toList) (S.isTup C.stays h1) (S.isTup C.stays h2) (λe=>?_) (λ_ e=>?_) (λ_ _ h' F' N'=>P.newTup S F' N' S.lt (q1.append q2) t.2) (by rw [q1.length,q2.length]; exact t.1)
  ·obtain rfl:xs=[]:=abI (by rw [<- q1.length,e]; rfl)
   exact P.now S (.tup h2 q2) t.2 s.toks
  ·obtain rfl:ys=[]:=abI (by rw [<- q2.length,e]; rfl)
   exact P.now S (.tup h1 q1) (abr xs ▸ t.2) s.toks
 ·intro i a d h1 t; apply r2.oR t; intro j b d2 h2 t
  refine bZ t λxs hx t=>bZ t λys hy t=>?_
  refine S.W.listC hx h1 λits n h1 hm q=>?_
  refine S.W.listC hy h2 λRv n2 h2 SU q2=>?_
  exact add_arrays S.F S.N (S.isList hm) (S.isList SU) (λh' F' N'=>P.newList S F' N' S.lt (q.append q2) t.2) (by rw [<- abj,<- abj,q.length,q2.length]; exact t.1)
 ·exact λ_ _ _ _ _ f=>f.elim
def nY (K:Int->Int->Prop)(V W:MV):Prop:=jK (λa=>jK (K a) W) V
theorem su {hB:Heap}{K:Int->Int->Prop}{V W:MV}{v w:aab}{P:aab->aab->Prop}(r1:RV hB news φ V v)(r2:RV hB news φ W w)(t:nY K V W)(k:∀a b t u,K a b->P (.int a t) (.int b u)):P v w:=by
 apply r1.oI t; intro a ta t; apply r2.oI t; intro b tb t; exact k a b ta tb t
def bh (f:Int->Int->Int)(ok:Int->Int->Prop):TP:=two λV W st Q=>nY (λa b=>ok a b/\Q (.int (f a b)) st) V W
theorem jg {c:aab->aab->Sem aab}{f:Int->Int->Int}{ok:Int->Int->Prop}
  (h:∀A s a t b u (Q:aab->aah->Prop) E,ok a b->Q (.int (f a b) s.toks) { s with toks:=s.toks+1 }->wpAny (abb α.prog α.w) A (c (.int a t) (.int b u)) Q E s):aM α 0 (c2 c) (bh f ok):=
 g5 λA h₀ L C s m st φ news V W v w S r1 r2 Q Qc E t P=>su (P:=λv w=>wpAny (abb α.prog α.w) A (c v w) Qc E s) r1 r2 t λa b ta tb t=>h _ _ _ _ _ _ _ _ t.1 (P.now S (.int _ _) t.2 _)
def l9:Int->Int->Prop:=λ_ _=>True
def ur:Int->Int->Prop:=λ_ b=>b≠0/\b.natAbs < 1073741824
theorem mK:aM α 0 (c2 (ago .Sub)) (bh (· - ·) l9):=jg λ_ _ _ _ _ _ _ _ _ h=>sub_int h
theorem fw:aM α 0 (c2 (ago .Mult)) (bh (· * ·) acd):=jg λ_ _ _ _ _ _ _ _ k h=>mul_int h k
theorem pD:aM α 0 (c2 (ago .FloorDiv)) (bh af4 ur):=jg λ_ _ _ _ _ _ _ _ k h=>floordiv_int k.1 h (.inl (PyProof.noPylong_small k.2))
theorem jv:aM α 0 (c2 (ago .Mod)) (bh acl (λ_ b=>b≠0)):=jg λ_ _ _ _ _ _ _ _ k h=>mod_int' k h
theorem Ex:aM α 0 (c2 (ago .Pow)) (bh (λa n=>a ^ n.toNat) λa n=>0<=n/\n<=1000000/\a.natAbs < 2 ^ 64):=jg λ_ _ _ _ _ _ _ _ k h=>pow_int_small k.1 k.2.1 k.2.2 h
def Mn:MV->MS->(MV->MS->Prop)->Prop:=λV st Q=>jK (λa=>Q (.int (-a)) st) V
def fP:TP:=one Mn
theorem e8:aM α 0 (c1 (unaryOp .USub)) fP:=oK λA h₀ L C s m st φ news V v S r Q Qc E t P=>by
 apply r.oI t; intro a ta t; exact neg_int (P.now S (.int _ _) t _)
def bw (f:Int->Int->Bool):TP:=two λV W st Q=>nY (λa b=>Q (.bool (f a b)) st) V W
theorem mt {c:aab->aab->Sem aab}{f:Int->Int->Bool}
  (h:∀A s a t b u (Q:aab->aah->Prop) E,Q (.bool (f a b)) s->wpAny (abb α.prog α.w) A (c (.int a t) (.int b u)) Q E s):aM α 0 (c2 c) (bw f):=
 g5 λA h₀ L C s m st φ news V W v w S r1 r2 Q Qc E t P=>su (P:=λv w=>wpAny (abb α.prog α.w) A (c v w) Qc E s) r1 r2 t λa b ta tb t=>h _ _ _ _ _ _ _ _ (P.now S (.bool _) t s.toks)
theorem lL:aM α 0 (c2 (acf .Lt)) (bw λa b=>decide (a < b)):=mt λ_ _ _ _ _ _ _ _ h=>lt_int h
theorem Mu:aM α 0 (c2 (acf .LtE)) (bw λa b=>decide (a<=b)):=mt λ_ _ _ _ _ _ _ _ h=>le_int h
theorem m4:aM α 0 (c2 (acf .Gt)) (bw λa b=>decide (a > b)):=mt λ_ _ _ _ _ _ _ _ h=>gt_int h
theorem MM:aM α 0 (c2 (acf .GtE)) (bw λa b=>decide (a ≥ b)):=mt λ_ _ _ _ _ _ _ _ h=>ge_int h
def MV.isNone:MV->Bool | .none=>true | _=>false
def OL:MV->MV->MS->(MV->MS->Prop)->Prop:=λV W st Q=>Kx (Q (.bool V.isNone) st) W
def mU:TP:=two OL
def Mo:MV->MV->MS->(MV->MS->Prop)->Prop:=λV W st Q=>Kx (Q (.bool (!V.isNone)) st) W
def fM:TP:=two Mo
theorem RV.isNone {hB:Heap}{V:MV}{v:aab}(r:RV hB news φ V v):(v == .none)=V.isNone:=by cases r <;> rfl
theorem jE:aM α 0 (c2 (acf .Is)) mU:=g5 λA h₀ L C s m st φ news V W v w S r1 r2 Q Qc E t P=>by
 apply r2.oZ t; intro t; exact is_none (by rw [r1.isNone]; exact P.now S (.bool _) t s.toks)
theorem fE:aM α 0 (c2 (acf .IsNot)) fM:=g5 λA h₀ L C s m st φ news V W v w S r1 r2 Q Qc E t P=>by
 apply r2.oZ t; intro t; exact isNot_none (by rw [r1.isNone]; exact P.now S (.bool _) t s.toks)
end
section
variable {α:bC}{ℓ:Nat}{sc:abJ}{slots:List Str}
def ar (S:TP)(a b:TE):TE:=λρ st Q=>a ρ st λV Pt=>b ρ Pt λW Pz=>S [V,W] Pz Q
theorem aU {op:Operator}{l r:Expr}{pos:Pos}{S:TP}{a b:TE}(hl:aa α ℓ sc slots l a)(hr:aa α ℓ sc slots r b)(hS:aM α 0 (c2 (ago op)) S):aa α ℓ sc slots (.BinOp l op r pos) (ar S a b):=by
 intro A h₀ L env C D s m st φ news ρ PB Lo Q Qc E t P
 refine wpAny_BinOp (hl A h₀ L env C D s m st φ news ρ PB Lo _ _ E t λV Pt Px PC v h₁ PA Pv Py PO Pw=>?_)
 refine hr A h₀ L env C D _ m Pt Px PC ρ Pv (Lo.grow Py) _ _ E Pw λW Pz PE PS w PM PN PF PH P5 PU=>?_
 exact hS A h₀ L (C.mono (abP _)) _ m Pz PE PS [V,W] [v,w] PF (.cons (PO.mono PH) (.cons P5 .nil)) Q Qc E PU ((P.after Py h₁ PA).after PH PM PN)
def io (S:TP)(a:TE):TE:=λρ st Q=>a ρ st λV Pt=>S [V] Pt Q
theorem e9 {op:UnaryOp}{x:Expr}{pos:Pos}{S:TP}{a:TE}(hx:aa α ℓ sc slots x a)(hS:aM α 0 (c1 (unaryOp op)) S):aa α ℓ sc slots (.UnaryOp op x pos) (io S a):=by
 intro A h₀ L env C D s m st φ news ρ PB Lo Q Qc E t P
 refine wpAny_UnaryOp (hx A h₀ L env C D s m st φ news ρ PB Lo _ _ E t λV Pt Px PC v h₁ PA Pv Py PO Pw=>?_)
 exact hS A h₀ L (C.mono (abP _)) _ m Pt Px PC [V] [v] Pv (.cons PO .nil) Q Qc E Pw (P.after Py h₁ PA)
theorem fm {op:CmpOp}{l r:Expr}{pos:Pos}{S:TP}{a b:TE}(hl:aa α ℓ sc slots l a)(hr:aa α ℓ sc slots r b)(hS:aM α 0 (c2 (acf op)) S)
  (hm:autoParam (agN op r=false) aR):aa α ℓ sc slots (.Compare l [op] [r] pos) (ar S a b):=by
 intro A h₀ L env C D s m st φ news ρ PB Lo Q Qc E t P
 refine wpAny_Compare1 (hl A h₀ L env C D s m st φ news ρ PB Lo _ _ E t λV Pt Px PC v h₁ PA Pv Py PO Pw=>?_) hm
 refine hr A h₀ L env C D _ m Pt Px PC ρ Pv (Lo.grow Py) _ _ E Pw λW Pz PE PS w PM PN PF PH P5 PU=>?_
 exact hS A h₀ L (C.mono (abP _)) _ m Pz PE PS [V,W] [v,w] PF (.cons (PO.mono PH) (.cons P5 .nil)) Q Qc E PU ((P.after Py h₁ PA).after PH PM PN)
end
theorem G6 {its:Array aab}{n:Nat}(Ti:Array aab):bV its n≠bz Ti:=λe=>by
 have:=congrArg aiU e
 simp at this
theorem uU {its:Array aab}{n:Nat}(ps:Array aab):bV its n≠adk ps:=λe=>by
 have:=congrArg aiU e
 simp at this
theorem Hi {es:List adB}{n:Nat}(Ti:Array aab):dictOf es n≠bz Ti:=λe=>by
 have:=congrArg aiU e
 simp at this
theorem Di {es:List adB}{n:Nat}(ps:Array aab):dictOf es n≠adk ps:=λe=>by
 have:=congrArg aiU e
 simp at this
noncomputable def upd (news:aO)(c:Addr)(o':Obj):aO:=news.map λp=>if p.1=c then (c,o') else p
set_option tactic.hygienic true in
theorem mY (news:aO)(c:Addr)(o':Obj):(upd news c o').map (·.1)=news.map (·.1):=by
 unfold upd
 rw [ab3]
 refine aeM λp _=>?_
 show (if p.1=c then (c,o') else p).1=p.1
 split
 ·rename_i h; exact h.symm
 ·rfl
theorem dR {news:aO}{c:Addr}{o':Obj}{p:Addr×Obj}(h:p∈news)(hn:p.1≠c):p∈upd news c o':=ed ⟨p,h,by rw [if_neg hn]⟩
theorem ip {news:aO}{c:Addr}{o o':Obj}(h:(c,o)∈news):(c,o')∈upd news c o':=ed ⟨_,h,by rw [if_pos rfl]⟩
set_option tactic.hygienic true in
theorem yp {news:aO}{c:Addr}{o':Obj}{p:Addr×Obj}(h:p∈upd news c o'):(p=(c,o')/\∃o,(c,o)∈news)\/(p∈news/\p.1≠c):=by
 obtain⟨q,hq,e⟩:=c8 h
 split at e
 ·rename_i hc; exact .inl ⟨e.symm,q.2,by rw [<- hc]; exact hq⟩
 ·rename_i hc; exact .inr (e ▸ ⟨hq,hc⟩)
theorem LN {news:aO}(hn:(news.map (·.1)).Nodup){c:Addr}{o o':Obj}(h:(c,o)∈news):Upd c o o' news (upd news c o'):=by
 induction news with
 | nil=>cases h
 | cons p r ih =>
  rw [abg,abV] at hn
  by_cases hp:p.1=c
  ·have hr:∀q∈r,q.1≠c:=λq hq e=>hn.1 (ed ⟨q,hq,by rw [e,hp]⟩)
   have e1:p=(c,o):=by
    cases h with
    | head=>rfl
    | tail _ h=>exact absurd rfl (hr _ h)
   subst e1
   have e2:upd ((c,o)::r) c o'=(c,o')::r:=by
    unfold upd
    rw [abg,if_pos rfl]
    congr 1
    exact (aeM λq hq=>by rw [if_neg (hr q hq)]; rfl).trans (af5 r)
   rw [e2]
   exact .head hr
  ·have h':(c,o)∈r:=by
    cases h with
    | head=>exact absurd rfl hp
    | tail _ h=>exact h
   have e2:upd (p::r) c o'=p::upd r c o':=by
    unfold upd
    rw [abg,if_neg hp]
   rw [e2]
   exact .tail hp (ih hn.2 h')
section
variable {α:bC}{h₀ h h':Heap}{L:Addr}{m:Str->Option aab}{st:MS}{φ:bk}{news:aO}
theorem News.upd {c:Addr}{o o':Obj}(N:News h₀ L h news)(hm:(c,o)∈news)(hs:adf c h h')(ho:h'.get? c=some o'):News h₀ L h' (upd news c o'):=λp hp=>by
 rcases yp hp with ⟨rfl,_⟩ | ⟨hp,hn⟩
 ·exact⟨ho,(N _ hm).2⟩
 ·exact⟨(hs.2 _ hn).trans (N p hp).1,(N p hp).2⟩
theorem bg.upd {c:Addr}{o o':Obj}(hn:(news.map (·.1)).Nodup)(hm:(c,o)∈news)(hk:∀its,o≠bz its):∀a its,(a,bz its)∈news->(a,bz its)∈upd news c o':=λa its ht =>
 dR ht λ(e:a=c)=>by subst e; exact hk _ (eJ hn hm ht)
theorem OR.upd {c:Addr}{o o':Obj}(hn:(news.map (·.1)).Nodup)(hm:(c,o)∈news)(hk:∀its,o≠bz its){a d:Addr}{x:MO}(r:OR α news φ a d x)(ha:a≠c)(hd:d≠c):OR α (upd news c o') φ a d x:=by
 have ht:=bg.upd (o':=o') hn hm hk
 cases x with
 | list xs=>obtain⟨e,its,n,UT,q⟩:=r; exact⟨e,its,n,dR UT ha,bg.mono' (aaf _) ht q⟩
 | inst cc fs=>obtain⟨UT,hf,es,n,UP,q⟩:=r; exact⟨dR UT ha,hf,es,n,dR UP hd,q.mono (aaf _) ht⟩
 | dict fs ep=>obtain⟨e,e2,o,kvs,UT,Ze,q⟩:=r; exact⟨e,e2,o,kvs,dR UT ha,Ze,q.mono (aaf _) ht⟩
theorem iC {i:Nat}{a d:Addr}(h:φ[i]?=some (a,d)):a∈bq φ/\d∈bq φ:=by
 have hp:=abh h
 unfold bq
 exact⟨adu.mpr ⟨_,hp,by simp⟩,adu.mpr ⟨_,hp,by simp⟩⟩
theorem Ma {c:Addr}{o:Obj}(W:Wd α st φ news)(hm:(c,o)∈news)(hk:∀ps,o≠adk ps):c≠α.tab:=λe=>by
 obtain⟨ps,ht,_⟩:=W.tabs
 exact hk ps (eJ W.nodup (e ▸ hm) ht)
set_option tactic.hygienic true in
theorem Wd.turn {c:Addr}{o o':Obj}{i:Nat}{x y:MO}{a d:Addr}(W:Wd α st φ news)(hi:st[i]?=some x)(PP:φ[i]?=some (a,d))(hc:c=a\/c=d)(hm:(c,o)∈news)(hk:∀its,o≠bz its)(hp:∀ps,o≠adk ps)
  (r:OR α (upd news c o') φ a d y):Wd α (st.set i y) φ (upd news c o') where
 nodup:=by rw [mY]; exact W.nodup
 len:=by rw [aeS]; exact W.len
 apart:=W.apart
 objs:=λj z hj=>by
  rw [air] at hj
  split at hj
  ·rename_i e
   subst e
   split at hj
   ·cases hj; exact⟨a,d,PP,r⟩
   ·cases hj
  ·rename_i e
   obtain⟨TV,Tx,Vf,PO⟩:=W.objs j z hj
   have ap:=W.apart i j _ _ PP Vf e
   refine⟨TV,Tx,Vf,PO.upd W.nodup hm hk ?_ ?_⟩
   ·rcases hc with rfl | rfl
    ·exact ap.1.symm
    ·exact ap.2.2.1.symm
   ·rcases hc with rfl | rfl
    ·exact ap.2.1.symm
    ·exact ap.2.2.2.symm
 tabs:=by
  obtain⟨ps,ht,g,k⟩:=W.tabs
  refine⟨ps,dR ht (Ma W hm hp).symm,g,λc' R8=>?_⟩
  obtain⟨oc,h1,h2,h3⟩:=k c' R8
  have ff:=iC PP
  exact⟨oc,dR h1 λe=>h2 (by have e':c'=c:=e; rw [e']; rcases hc with q | q <;> rw [q]; exact ff.1; exact ff.2),h2,h3⟩
theorem a9.upd {X:List Addr}{c:Addr}{o o':Obj}(hn:(news.map (·.1)).Nodup)(hm:(c,o)∈news)(hk:∀its,o≠bz its)(hc:c∈bq φ\/c∈X):a9 X φ news φ (upd news c o') where
 pre:=aaf _
 tups:=bg.upd hn hm hk
 kept:=λp hp hf hx=>dR hp λe=>hc.elim (λq=>hf (e ▸ q)) λq=>hx (e ▸ q)
 keys:=λp hp=>by
  have:p.1∈(Internal.upd news c o').map (·.1):=by rw [mY]; exact ed ⟨p,hp,rfl⟩
  obtain⟨q,hq,e⟩:=c8 this
  exact⟨q.2,by rw [<- e]; exact hq⟩
 fresh:=λ_ _ h=>h
theorem Sn.setList {i:Nat}{xs xs':List MV}{a d:Addr}{its its':Array aab}{n n':Nat}(S:Sn α h₀ L m h st φ news)(hi:st[i]?=some (.list xs))(PP:φ[i]?=some (a,d))(hm:(a,bV its n)∈news)
  (hs:adf a h h') (ho:h'.get? a=some (bV its' n')) (r:bg α.hB news φ xs' its'.toList) :
  Sn α h₀ L m h' (st.set i (.list xs')) φ (upd news a (bV its' n'))/\a9 [α.tab] φ news φ (upd news a (bV its' n')):=by
 have hk:∀Ti,bV its n≠bz Ti:=G6
 have g:a9 [α.tab] φ news φ (upd news a (bV its' n')):=.upd S.W.nodup hm hk (.inl (iC PP).1)
 refine⟨⟨S.F.change hs (S.N _ hm).2.1 (S.N _ hm).2.2,News.upd S.N hm hs ho,?_⟩,g⟩
 obtain⟨rfl,_⟩:=S.W.list hi PP
 exact S.W.turn hi PP (.inl rfl) hm hk uU ⟨rfl,its',n',ip hm,r.mono g⟩
end
section
variable {α:bC}{ℓ:Nat}{sc:abJ}{slots:List Str}
def bT (T:TE):TB:=λρ st Q=>T ρ st λV Pt=>qR (λb=>Q b Pt) V
theorem aJ.val {e:Expr}{T:TE}(h:aa α ℓ sc slots e T)(he:autoParam (∀env,isTrue e env (eval e env)=(do let v <- eval e env; standAt e.pos; ag6 [v] (ajf v))) aI):aJ α ℓ sc slots e (bT T):=by
 intro A h₀ L env C D s m st φ news ρ PB Lo Q Qc E t P
 refine wpAny_isTrue_value (h A h₀ L env C D s m st φ news ρ PB Lo _ _ E t λV Pt Px PC v h₁ PA Pv Py PO Pw=>?_) (he env)
 apply PO.oB Pw; intro b Pw
 exact adW (P b Pt Px PC h₁ PA Pv Py Pw)
theorem aC {op:CmpOp}{l r:Expr}{pos:Pos}{S:TP}{a b:TE}(hl:aa α ℓ sc slots l a)(hr:aa α ℓ sc slots r b)(hS:aM α 0 (c2 (acf op)) S)
  (hm:autoParam (agN op r=false) aR):aJ α ℓ sc slots (.Compare l [op] [r] pos) (bT (ar S a b)):=by
 intro A h₀ L env C D s m st φ news ρ PB Lo Q Qc E t P
 refine wpAny_isTrue_Compare1 (hl A h₀ L env C D s m st φ news ρ PB Lo _ _ E t λV Pt Px PC v h₁ PA Pv Py PO Pw=>?_) hm
 refine hr A h₀ L env C D _ m Pt Px PC ρ Pv (Lo.grow Py) _ _ E Pw λW Pz PE PS w PM PN PF PH P5 PU=>?_
 refine hS A h₀ L (C.mono (abP _)) _ m Pz PE PS [V,W] [v,w] PF (.cons (PO.mono PH) (.cons P5 .nil)) _ _ E PU λU Qd QC Qq u P2 P7 P3 Qe Ru Qg=>?_
 apply Ru.oB Qg; intro b Qg
 exact adW (P b Qd QC Qq P2 P7 P3 ((Py.trans PH).trans Qe) Qg)
def om (T:TB):TB:=λρ st Q=>T ρ st λb Pt=>Q (!b) Pt
theorem nz {x:Expr}{pos:Pos}{T:TB}(h:aJ α ℓ sc slots x T):aJ α ℓ sc slots (.UnaryOp .Not x pos) (om T):=
 λA h₀ L env C D s m st φ news ρ PB Lo Q Qc E t P=>wpAny_isTrue_Not (h A h₀ L env C D s m st φ news ρ PB Lo _ _ E t λb Pt Px PC h₁ PA Pv Py Pw=>P _ Pt Px PC h₁ PA Pv Py Pw)
def bu (α:bC)(ℓ:Nat)(sc:abJ)(slots:List Str)(op:BoolOp)(es:List Expr)(T:TB):Prop:=
 ∀A h₀ L env,Cf α ℓ A h₀ L->Ce sc env->∀s m st φ news ρ,Sn α h₀ L m s.heap st φ news->Lc α slots env L m news φ ρ->∀Q Qc E,T ρ st Q->n9 α h₀ L m s φ news Q Qc ->
  wpAny (abb α.prog α.w) A (allTrue op es env) Qc E s
def fU:TB:=λ_ st Q=>Q true st
def il:TB:=λ_ st Q=>Q false st
def dw (a b:TB):TB:=λρ st Q=>a ρ st λx Pt=>if x then b ρ Pt Q else Q false Pt
def lH (a b:TB):TB:=λρ st Q=>a ρ st λx Pt=>if x then Q true Pt else b ρ Pt Q
theorem dh:bu α ℓ sc slots .And [] fU:=λA h₀ L env C D s m st φ news ρ PB Lo Q Qc E t P=>wpAny_allTrue_And_nil (P true st φ news s.heap s.toks PB .refl t)
theorem k8:bu α ℓ sc slots .Or [] il:=λA h₀ L env C D s m st φ news ρ PB Lo Q Qc E t P=>wpAny_allTrue_Or_nil (P false st φ news s.heap s.toks PB .refl t)
theorem bp {x:Expr}{es:List Expr}{a b:TB}(h:aJ α ℓ sc slots x a)(k:bu α ℓ sc slots .And es b):bu α ℓ sc slots .And (x::es) (dw a b):=by
 intro A h₀ L env C D s m st φ news ρ PB Lo Q Qc E t P
 refine wpAny_allTrue_And_cons (h A h₀ L env C D s m st φ news ρ PB Lo _ _ E t λv Pt Px PC h₁ PA Pv Py Pw=>?_)
 cases v with
 | true=>exact k A h₀ L env C D _ m Pt Px PC ρ Pv (Lo.grow Py) _ _ E Pw (P.after Py h₁ PA)
 | false=>exact P false Pt Px PC h₁ PA Pv Py Pw
theorem eA {x:Expr}{es:List Expr}{a b:TB}(h:aJ α ℓ sc slots x a)(k:bu α ℓ sc slots .Or es b):bu α ℓ sc slots .Or (x::es) (lH a b):=by
 intro A h₀ L env C D s m st φ news ρ PB Lo Q Qc E t P
 refine wpAny_allTrue_Or_cons (h A h₀ L env C D s m st φ news ρ PB Lo _ _ E t λv Pt Px PC h₁ PA Pv Py Pw=>?_)
 cases v with
 | true=>exact P true Pt Px PC h₁ PA Pv Py Pw
 | false=>exact k A h₀ L env C D _ m Pt Px PC ρ Pv (Lo.grow Py) _ _ E Pw (P.after Py h₁ PA)
theorem db {op:BoolOp}{es:List Expr}{pos:Pos}{T:TB}(h:bu α ℓ sc slots op es T):aJ α ℓ sc slots (.BoolOp op es pos) T:=
 λA h₀ L env C D s m st φ news ρ PB Lo Q Qc E t P=>wpAny_isTrue_BoolOp (h A h₀ L env C D s m st φ news ρ PB Lo Q Qc E t P)
def fg (c:TB)(a b:TE):TE:=λρ st Q=>c ρ st λx Pt=>if x then a ρ Pt Q else b ρ Pt Q
theorem cA {RB body Tg:Expr}{pos:Pos}{c:TB}{a b:TE}(hc:aJ α ℓ sc slots RB c)(ha:aa α ℓ sc slots body a)(hb:aa α ℓ sc slots Tg b):aa α ℓ sc slots (.IfExp RB body Tg pos) (fg c a b):=by
 intro A h₀ L env C D s m st φ news ρ PB Lo Q Qc E t P
 refine wpAny_IfExp (hc A h₀ L env C D s m st φ news ρ PB Lo _ _ E t λv Pt Px PC h₁ PA Pv Py Pw=>?_)
 cases v with
 | true=>exact ha A h₀ L env C D _ m Pt Px PC ρ Pv (Lo.grow Py) _ _ E Pw (P.after Py h₁ PA)
 | false=>exact hb A h₀ L env C D _ m Pt Px PC ρ Pv (Lo.grow Py) _ _ E Pw (P.after Py h₁ PA)
def lO (a b:TE):TE:=λρ st Q=>a ρ st λV Pt=>qR (λx=>if x then b ρ Pt Q else Q (.bool false) Pt) V
def CH (a b:TE):TE:=λρ st Q=>a ρ st λV Pt=>qR (λx=>if x then Q (.bool true) Pt else b ρ Pt Q) V
theorem qI {x y:Expr}{pos:Pos}{a b:TE}(ha:aa α ℓ sc slots x a)(hb:aa α ℓ sc slots y b):aa α ℓ sc slots (.BoolOp .And [x,y] pos) (lO a b):=by
 intro A h₀ L env C D s m st φ news ρ PB Lo Q Qc E t P
 refine wpAny_And2 (ha A h₀ L env C D s m st φ news ρ PB Lo _ _ E t λV Pt Px PC v h₁ PA Pv Py PO Pw=>?_)
 apply PO.oB Pw; intro x Pw
 refine adW ?_
 cases x with
 | true=>exact hb A h₀ L env C D _ m Pt Px PC ρ Pv (Lo.grow Py) _ _ E Pw (P.after Py h₁ PA)
 | false=>exact P _ Pt Px PC _ h₁ PA Pv Py (.bool false) Pw
theorem Fe {x y:Expr}{pos:Pos}{a b:TE}(ha:aa α ℓ sc slots x a)(hb:aa α ℓ sc slots y b):aa α ℓ sc slots (.BoolOp .Or [x,y] pos) (CH a b):=by
 intro A h₀ L env C D s m st φ news ρ PB Lo Q Qc E t P
 refine wpAny_Or2 (ha A h₀ L env C D s m st φ news ρ PB Lo _ _ E t λV Pt Px PC v h₁ PA Pv Py PO Pw=>?_)
 apply PO.oB Pw; intro x Pw
 refine adW ?_
 cases x with
 | true=>exact P _ Pt Px PC _ h₁ PA Pv Py (.bool true) Pw
 | false=>exact hb A h₀ L env C D _ m Pt Px PC ρ Pv (Lo.grow Py) _ _ E Pw (P.after Py h₁ PA)
def NQ (PF:TP)(c:TE)(ρ:aG)(Q:Bool->MS->Prop)(V:MV):MV->MS->Prop:=λX Qd=>qR (λx=>if x then c ρ Qd λW Wt=>PF [V,W] Wt λY Sj=>qR (λy=>Q y Sj) Y else Q false Qd) X
def BD (Pv PF:TP)(a b c:TE):TB:=λρ st Q=>a ρ st λU Pt=>b ρ Pt λV Pz=>Pv [U,V] Pz (NQ PF c ρ Q V)
theorem Hl {M:ah2}{A:abt}{E:aab->aah->Prop}{s:aah}{vs keep:List aab}{Q:Unit->aah->Prop}(h:Q () s):wpAny M A (release vs keep) Q E s:=λΓ p WT=>by rw [Sem.wp_release]; exact h
theorem GL {M:ah2}{A:abt}{E:aab->aah->Prop}{s:aah}{Q:Bool->aah->Prop}{env:Env}{l r r2:Expr}{op Sz:CmpOp}{pos:Pos}{QQ:Sem aab}
  (h:wpAny M A (eval l env) (λa P0=>wpAny M A (eval r env) (λb Qo=>wpAny M A (acf op a b) (λc Qu=>wpAny M A (ajf c) (λt RC=>if t then wpAny M A (eval r2 env) (λd SK=>wpAny M A (acf Sz b d) (λc2 Vz=>wpAny M A (ajf c2) Q E Vz) E SK) E RC else Q false RC) E Qu) E Qo) E P0) E s)
  (hm:agN Sz r2=false) :
  wpAny M A (isTrue (.Compare l [op,Sz] [r,r2] pos) env QQ) Q E s:=by
 rw [arm_isTrue_Compare]
 refine aac (abR h (λa P0 h₁=>?_) λ_ _ x=>x)
 show wpAny M A (testChain pos a [op,Sz] (markedEach [op,Sz] [r,r2] [eval r env,eval r2 env])) Q E P0
 have e:markedEach [op,Sz] [r,r2] [eval r env,eval r2 env]=[eval r env,eval r2 env]:=by
  show eval r env::[markedBehindIn Sz r2 (eval r2 env)]=_
  rw [markedBehindIn_of_false hm]
 rw [e]
 show wpAny M A (do
  let rv <- ag6 [a] (eval r env)
  standAt pos
  let c <- ag6 [a,rv] (acf op a rv)
  release [a,rv] [c]
  if <- ag6 [c,rv] (ajf c) then testChain pos rv [Sz] [eval r2 env] else pure false) Q E P0
 refine aac (ab0 (abR h₁ (λb Qo PM=>aac (adl (aac (ab0 (abR PM (λc Qu P2=>?_) λ_ _ x=>x))))) λ_ _ x=>x))
 refine aac (Hl (aac (ab0 (abR P2 (λt RC QN=>?_) λ_ _ x=>x))))
 cases t with
 | false=>exact aa8 QN
 | true =>
  show wpAny M A (do
   let rv <- ag6 [b] (eval r2 env)
   standAt pos
   let c <- aiV [b,rv] (acf Sz b rv)
   ag6 [c] (ajf c)) Q E RC
  refine aac (ab0 (abR QN (λd SK Qv=>aac (adl (aac ?_))) λ_ _ x=>x))
  intro Γ p WT
  rw [Sem.wp_operate]
  exact Sem.wp_mono M Γ _ (λc2 p' Vz Q6=>ab0 Q6) (λ_ _ _ x=>x) p SK (Qv Γ p WT)
theorem GX {op Sz:CmpOp}{l r r2:Expr}{pos:Pos}{Pv PF:TP}{a b c:TE}(hl:aa α ℓ sc slots l a)(hr:aa α ℓ sc slots r b)(hr2:aa α ℓ sc slots r2 c)(hS:aM α 0 (c2 (acf op)) Pv)(hS2:aM α 0 (c2 (acf Sz)) PF)
  (hm:autoParam (agN Sz r2=false) aR):aJ α ℓ sc slots (.Compare l [op,Sz] [r,r2] pos) (BD Pv PF a b c):=by
 intro A h₀ L env C D s m st φ news ρ PB Lo Q Qc E t P
 have C0:=C.mono (abP ℓ)
 refine GL (hl A h₀ L env C D s m st φ news ρ PB Lo _ _ E t λU Pt Px PC u h₁ PA Pv Py PO Pw=>?_) hm
 refine hr A h₀ L env C D _ m Pt Px PC ρ Pv (Lo.grow Py) _ _ E Pw λV Pz PE PS v PM PN PF PH P5 PU=>?_
 refine hS A h₀ L C0 _ m Pz PE PS [U,V] [u,v] PF (.cons (PO.mono PH) (.cons P5 .nil)) _ _ E PU λX Qd QC Qq x P2 P7 P3 Qe Ru Qg=>?_
 apply Ru.oB Qg; intro q Qg
 refine adW ?_
 cases q with
 | false=>exact P false Qd QC Qq P2 P7 P3 ((Py.trans PH).trans Qe) Qg
 | true =>
  refine hr2 A h₀ L env C D _ m Qd QC Qq ρ P3 (((Lo.grow Py).grow PH).grow Qe) _ _ E Qg λW Wt aaX VU w QN Sl R6 Rn Xq XI=>?_
  refine hS2 A h₀ L C0 _ m Wt aaX VU [V,W] [v,w] R6 (.cons ((P5.mono Qe).mono Rn) (.cons Xq .nil)) _ _ E XI λY Sj Ts Vg y Qv RJ RO SM VI Rh=>?_
  apply VI.oB Rh; intro y Rh
  exact adW (P y Sj Ts Vg Qv RJ RO ((((Py.trans PH).trans Qe).trans Rn).trans SM) Rh)
end
inductive MF where
 | next | brk | cont | ret (V:MV)
abbrev TS:=aG->MS->(MF->aG->MS->Prop)->Prop
section
variable (α:bC)
inductive FR (news:aO)(φ:bk):MF->Flow->Prop
 | next:FR news φ .next .next
 | brk:FR news φ .brk .brk
 | cont:FR news φ .cont .cont
 | ret {V:MV} {v:aab} (r:RV α.hB news φ V v):FR news φ (.ret V) (.ret v)
structure dT (slots:List Str)(env:Env)(L:Addr)(φ:bk)(news:aO):Prop where
 nodup:slots.Nodup
 loc:env.locals=L
 kinds:∀x∈slots,env.kindOf x=some .local\/env.kindOf x=some .cell
 cells:∀x,env.kindOf x=some .cell->∃c o R1,env.cells.lookup x=some c/\c≠α.tab/\c ∉ bq φ/\(c,o)∈news/\o.data=.cell R1
 inj:∀x y c,env.cells.lookup x=some c->env.cells.lookup y=some c->x=y
 all:∀p∈env.cells,∃o,(p.2,o)∈news
noncomputable abbrev ft (env:Env):List Addr:=α.tab::env.cells.map (·.2)
def t9 (slots:List Str)(env:Env)(h₀:Heap)(L:Addr)(s:aah)(φ:bk)(news:aO)(Q:MF->aG->MS->Prop)(Qc:Flow->aah->Prop):Prop:=
 ∀f fc Rs Ps PG Pu m' h' PV,Sn α h₀ L m' h' Ps PG Pu->Lc α slots env L m' Pu PG Rs->dT α slots env L PG Pu->a9 (ft α env) φ news PG Pu->FR α Pu PG f fc->Q f Rs Ps->Qc fc { s with heap:=h',toks:=PV }
def au (ℓ:Nat)(sc:abJ)(slots:List Str)(c:Stmt)(T:TS):Prop:=
 ∀A h₀ L env,Cf α ℓ A h₀ L->Ce sc env->∀s m st φ news ρ,Sn α h₀ L m s.heap st φ news->Lc α slots env L m news φ ρ->dT α slots env L φ news->∀Q Qc E,T ρ st Q->t9 α slots env h₀ L s φ news Q Qc ->
  wpAny (abb α.prog α.w) A (exec c env) Qc E s
def ah (ℓ:Nat)(sc:abJ)(slots:List Str)(cs:List Stmt)(T:TS):Prop:=
 ∀A h₀ L env,Cf α ℓ A h₀ L->Ce sc env->∀s m st φ news ρ,Sn α h₀ L m s.heap st φ news->Lc α slots env L m news φ ρ->dT α slots env L φ news->∀Q Qc E,T ρ st Q->t9 α slots env h₀ L s φ news Q Qc ->
  wpAny (abb α.prog α.w) A (execs cs env) Qc E s
end
theorem dO {β:Type}{l:List (Str×β)}{k:Str}{b:β}(h:l.lookup k=some b):(k,b)∈l:=by
 obtain⟨RH,l₂,rfl,_⟩:=agU.mp h
 simp
section
variable {α:bC}{ℓ:Nat}{sc:abJ}{slots:List Str}{h₀:Heap}{L:Addr}{env:Env}{s:aah}{φ PG:bk}{news Pu:aO}
theorem t9.after {Q:MF->aG->MS->Prop}{Qc:Flow->aah->Prop}(P:t9 α slots env h₀ L s φ news Q Qc)(g:a9 (ft α env) φ news PG Pu)(h':Heap)(PV:Nat):t9 α slots env h₀ L { s with heap:=h',toks:=PV } PG Pu Q Qc:=
 λf fc Qk Pz PE SA QI PM PN S Lo O PH r q=>P f fc Qk Pz PE SA QI PM PN S Lo O (g.trans PH) r q
theorem dT.grow (O:dT α slots env L φ news)(g:a9 [α.tab] φ news PG Pu):dT α slots env L PG Pu where
 nodup:=O.nodup
 loc:=O.loc
 kinds:=O.kinds
 cells:=λx hx=>by
  refine bv λGG PD=>?_
  obtain⟨c,o,R1,hc,ht,hf,hm,hd⟩:=O.cells x hx
  refine PD ?_
  exact⟨c,o,R1,hc,ht,λq=>hf (g.fresh _ hm q),g.kept _ hm hf (by simpa using ht),hd⟩
 inj:=O.inj
 all:=λp hp=>let ⟨o,ho⟩:=O.all p hp; g.keys _ ho
theorem dE (g:a9 [α.tab] φ news PG Pu):a9 (ft α env) φ news PG Pu:=g.wide λx hx=>by
 rw [cr hx]; exact .head _
def az:TS:=λρ st Q=>Q .next ρ st
def aj (a b:TS):TS:=λρ st Q=>a ρ st λf P9 Pt=>match f with | .next=>b P9 Pt Q | f=>Q f P9 Pt
theorem ao:ah α ℓ sc slots [] az:=λA h₀ L env C D s m st φ news ρ PB Lo O Q Qc E t P=>adU (P .next .next ρ st φ news m s.heap s.toks PB Lo O .refl .next t)
theorem ag {c:Stmt}{cs:List Stmt}{a b:TS}(h:au α ℓ sc slots c a)(k:ah α ℓ sc slots cs b):ah α ℓ sc slots (c::cs) (aj a b):=by
 intro A h₀ L env C D s m st φ news ρ PB Lo O Q Qc E t P
 refine abY (h A h₀ L env C D s m st φ news ρ PB Lo O _ _ E t λf fc P9 Pt Px PC QJ h₁ PA Pv QE QH Py PO Pw=>?_)
 cases PO with
 | next=>exact k A h₀ L env C D _ QJ Pt Px PC P9 Pv QE QH _ _ E Pw (P.after Py h₁ PA)
 | brk=>exact P _ _ P9 Pt Px PC QJ h₁ PA Pv QE QH Py .brk Pw
 | cont=>exact P _ _ P9 Pt Px PC QJ h₁ PA Pv QE QH Py .cont Pw
 | ret r=>exact P _ _ P9 Pt Px PC QJ h₁ PA Pv QE QH Py (.ret r) Pw
def aS (a:TE):TS:=λρ st Q=>a ρ st λV Pt=>Q (.ret V) ρ Pt
theorem aE {e:Expr}{pos:Pos}{a:TE}(h:aa α ℓ sc slots e a):au α ℓ sc slots (.Return (some e) pos) (aS a):=
 λA h₀ L env C D s m st φ news ρ PB Lo O Q Qc E t P=>afw (h A h₀ L env C D s m st φ news ρ PB Lo _ _ E t λV Pt Px PC v h₁ PA Pv Py PO Pw =>
  P (.ret V) (.ret v) ρ Pt Px PC m h₁ PA Pv (Lo.grow Py) (O.grow Py) (dE Py) (.ret PO) Pw)
def qm:TS:=λ_ _ _=>False
theorem jy {c:Stmt}:au α ℓ sc slots c qm:=λ_ _ _ _ _ _ _ _ _ _ _ _ _ _ _ _ _ _ t _=>t.elim
def bW (c:TB)(a b:TS):TS:=λρ st Q=>c ρ st λx Pt=>if x then a ρ Pt Q else b ρ Pt Q
theorem aZ {RB:Expr}{body Tg:List Stmt}{pos:Pos}{c:TB}{a b:TS}(hc:aJ α ℓ sc slots RB c)(ha:ah α ℓ sc slots body a)(hb:ah α ℓ sc slots Tg b):au α ℓ sc slots (.If RB body Tg pos) (bW c a b):=by
 intro A h₀ L env C D s m st φ news ρ PB Lo O Q Qc E t P
 refine wpAny_If (hc A h₀ L env C D s m st φ news ρ PB Lo _ _ E t λv Pt Px PC h₁ PA Pv Py Pw=>?_)
 cases v with
 | true=>exact ha A h₀ L env C D _ m Pt Px PC ρ Pv (Lo.grow Py) (O.grow Py) _ _ E Pw (P.after (dE Py) h₁ PA)
 | false=>exact hb A h₀ L env C D _ m Pt Px PC ρ Pv (Lo.grow Py) (O.grow Py) _ _ E Pw (P.after (dE Py) h₁ PA)
def bY (a:TE):TS:=λρ st Q=>a ρ st λV Pt=>MW (Q .next ρ Pt) V
theorem cg {e:Expr}{pos:Pos}{a:TE}(h:aa α ℓ sc slots e a)(hi:autoParam (sc.kind=.function) aR)(hs:autoParam (∀env,aen e none pos.line env=pure false) aI):au α ℓ sc slots (.Expr e pos) (bY a):=by
 intro A h₀ L env C D s m st φ news ρ PB Lo O Q Qc E t P
 refine ai3 (h A h₀ L env C D s m st φ news ρ PB Lo _ _ E t λV Pt Px PC v h₁ PA Pv Py PO Pw=>?_) ?_ (hs env)
 ·have q:=P .next .next ρ Pt Px PC m h₁ PA Pv (Lo.grow Py) (O.grow Py) (dE Py) .next
  apply PO.oX Pw
  ·exact q
  ·exact λ_ _=>q
 ·unfold aiO
  rw [D.scope,hi]; rfl
theorem EY {ρ:aG}{i j:Nat}{V W:MV}{G:Prop}(hW:(ρ.set i (some V))[j]?=some (some W))(h1:j=i->W=V->G)(h2:j≠i->ρ[j]?=some (some W)->G):G:=by
 by_cases e:j=i
 ·refine h1 e ?_
  subst e
  rw [abq (by rw [<- aeS (i:=j) (a:=some V)]; exact (bP hW).1)] at hW
  exact (abi (abi hW)).symm
 ·rw [abe (aec e)] at hW
  exact h2 e hW
theorem ET {i j:Nat}{x y:Str}(nd:slots.Nodup)(hx:slots[i]?=some x)(hy:slots[j]?=some y)(h:j≠i):y≠x:=λe=>by
 subst e
 exact h ((ais (bP hy).1 nd).mp (hy.trans hx.symm))
theorem Lc.put {m:Str->Option aab}{ρ:aG}{i:Nat}{x:Str}{V:MV}{v:aab}(Lo:Lc α slots env L m news φ ρ)(O:dT α slots env L φ news)(hx:slots[i]?=some x)(hl:env.kindOf x=some .local)(r:RV α.hB news φ V v) :
  Lc α slots env L (λy=>if y=x then some v else m y) news φ (ρ.set i (some V)):=by
 intro j y W hj hW
 refine EY hW (λe eW=>?_) λe hW=>?_
 ·subst e eW
  rw [hx] at hj
  obtain rfl:=abi hj
  exact⟨v,.fr hl O.loc (if_pos rfl),r⟩
 ·obtain⟨w,hlw,hr⟩:=Lo j y W hj hW
  exact⟨w,hlw.setM λa3=>by simp only [if_neg (ET O.nodup hx hj e)]; exact a3,hr⟩
theorem dT.cellSet {m:Str->Option aab}{h h':Heap}{st:MS}{ρ:aG}{i:Nat}{x:Str}{V:MV}{v:aab}{c:Addr}{o o':Obj}{R1:Option aab}(S:Sn α h₀ L m h st φ news)(Lo:Lc α slots env L m news φ ρ)(O:dT α slots env L φ news)
  (hx:slots[i]?=some x) (r:RV α.hB news φ V v) (hl:env.kindOf x=some .cell) (hc:env.cells.lookup x=some c) (ht:c≠α.tab) (hf:c ∉ bq φ) (hm:(c,o)∈news) (hd:o.data=.cell R1) (ST:h'.get? c=some o') (UP:o'.data=.cell (some v)) (hs:adf c h h') :
  Sn α h₀ L m h' st φ (upd news c o')/\Lc α slots env L m (upd news c o') φ (ρ.set i (some V))/\dT α slots env L φ (upd news c o')/\a9 (ft α env) φ news φ (upd news c o'):=by
 have SD:∀its,o≠bz its:=λits e=>by rw [e] at hd; cases hd
 have g:a9 (ft α env) φ news φ (upd news c o'):=.upd S.W.nodup hm SD (.inr (.tail _ (ed ⟨(x,c),dO hc,rfl⟩)))
 have W':Wd α st φ (upd news c o'):=by
  refine⟨by rw [mY]; exact S.W.nodup,S.W.len,S.W.apart,λj z hj=>?_,?_⟩
  ·obtain⟨a,d,e,q⟩:=S.W.objs j z hj
   have ff:=iC e
   exact⟨a,d,e,q.upd S.W.nodup hm SD (λe=>hf (e ▸ ff.1)) (λe=>hf (e ▸ ff.2))⟩
  ·obtain⟨ps,hp,q,k⟩:=S.W.tabs
   refine⟨ps,dR hp (aec ht),q,λc' R8=>?_⟩
   obtain⟨oc,h1,h2,h3⟩:=k c' R8
   refine⟨oc,dR h1 λe=>?_,h2,h3⟩
   obtain rfl:c'=c:=e
   obtain rfl:=eJ S.W.nodup h1 hm
   obtain⟨⟨_,vs,hv⟩,_⟩:=h3
   rw [hd] at hv; cases hv
 refine⟨⟨S.F.change hs (S.N _ hm).2.1 (S.N _ hm).2.2,News.upd S.N hm hs ST,W'⟩,λj y W hj hW=>?_,⟨O.nodup,O.loc,O.kinds,λy hy=>?_,O.inj,λp hp=>let ⟨o,ho⟩:=O.all p hp; g.keys _ ho⟩,g⟩
 ·refine EY hW (λe eW=>?_) λe hW=>?_
  ·subst e eW
   rw [hx] at hj
   obtain rfl:=abi hj
   exact⟨v,.cell hl c o' hc ht hf (ip hm) UP,r.mono g⟩
  ·obtain⟨w,hlw,hr⟩:=Lo j y W hj hW
   refine⟨w,?_,hr.mono g⟩
   cases hlw with
   | fr a1 a2 a3=>exact .fr a1 a2 a3
   | ns _ _ _ Rg _ _ SL _=>exact absurd O.loc (λe=>(S.N _ SL).2.1 e)
   | cell a1 R4 Rg Sk a2 a3 SL q=>exact .cell a1 R4 Rg Sk a2 a3 (dR SL λz=>ET O.nodup hx hj e (O.inj _ _ _ ((show R4=c from z) ▸ Sk) hc)) q
 ·obtain⟨R4,Rg,XJ,Sk,Um,SJ,SL,Wp⟩:=O.cells y hy
  by_cases e:R4=c
  ·subst e; exact⟨R4,o',some v,Sk,Um,SJ,ip hm,UP⟩
  ·exact⟨R4,Rg,XJ,Sk,Um,SJ,dR SL e,Wp⟩
theorem jz {A:abt}{sh:aah}{m:Str->Option aab}{st:MS}{ρ:aG}{i:Nat}{x:Str}{V:MV}{v:aab}{Qc:Unit->aah->Prop}{E:aab->aah->Prop}(D:Ce sc env)(S:Sn α h₀ L m sh.heap st φ news)(Lo:Lc α slots env L m news φ ρ)(O:dT α slots env L φ news)
  (hx:slots[i]?=some x) (r:RV α.hB news φ V v)
  (P:∀Pu m' h' PV,Sn α h₀ L m' h' st φ Pu->Lc α slots env L m' Pu φ (ρ.set i (some V))->dT α slots env L φ Pu->a9 (ft α env) φ news φ Pu->Qc () { sh with heap:=h',toks:=PV }) :
  wpAny (abb α.prog α.w) A (storeName env x v) Qc E sh:=by
 have hk:env.scope.kind=.function:=D.scope ▸ D.kind
 rcases O.kinds x (abh hx) with hl | hl
 ·have lc:=Lo.put O hx hl r
  obtain rfl:=O.loc
  exact adr hl S.F.ns (λh' hn hs=>P news _ h' _ ⟨S.F.set hn hs,S.N.set hs,S.W⟩ lc O .refl) (by rw [hk]; rfl)
 ·obtain⟨c,o,R1,hc,ht,hf,hm,hd⟩:=O.cells x hl
  refine ahB hk hl hc ⟨o,S.N.get hm,hd⟩ λh' hv hs=>?_
  refine bv λGG PD=>?_
  obtain⟨o',ST,UP⟩:=hv
  obtain⟨S',lc,O',g⟩:=O.cellSet S Lo hx r hl hc ht hf hm hd ST UP hs
  refine PD ?_
  exact P _ m h' sh.toks S' lc O' g
def aX (i:Nat)(a:TE):TS:=λρ st Q=>a ρ st λV Pt=>Q .next (ρ.set i (some V)) Pt
theorem au.set {x:Str}{px pos:Pos}{i:Nat}{e:Expr}{a:TE}(h:aa α ℓ sc slots e a)(hx:autoParam (slots[i]?=some x) aR)(hs:autoParam (∀env,aen e (some (.Name x px)) pos.line env=pure false) aI) :
  au α ℓ sc slots (.Assign [.Name x px] e pos) (aX i a):=by
 intro A h₀ L env C D s m st φ news ρ PB Lo O Q Qc E t P
 refine afx (h A h₀ L env C D s m st φ news ρ PB Lo _ _ E t λV Pt Px PC v h₁ PA Pv Py PO Pw=>?_) (hs env)
 exact jz D Pv (Lo.grow Py) (O.grow Py) hx PO λPS QI PM PN PF QT Q3 PH=>P .next .next _ Pt Px PS QI PM PN PF QT Q3 ((dE Py).trans PH) .next Pw
end
section
variable {α:bC}{ℓ:Nat}{slots:List Str}
def fi (Q:MV->MS->Prop):MF->aG->MS->Prop:=λf _ st=>match f with | .ret V=>Q V st | .next=>Q .none st | _=>False
theorem yo {ps:List Str}:∀{vs:List aab}{i:Nat}{x:Str}{v:aab},ps.Nodup->ps[i]?=some x->vs[i]?=some v->(ps.zip vs).reverse.lookup x=some v:=by
 induction ps with
 | nil=>intro vs i x v _ h; cases h
 | cons p r ih =>
  intro vs i x v hn hp hv
  rw [abV] at hn
  cases vs with
  | nil=>cases hv
  | cons w ws =>
   rw [aib,adm,agp]
   cases i with
   | zero =>
    cases hp; cases hv
    have:(r.zip ws).reverse.lookup p=none:=by
     rw [aeZ]
     intro q hq
     have:=aej (List.mem_reverse.mp hq)
     simp only [bne_iff_ne,ne_eq]
     simpa using λe:p=q.1=>hn.1 (e ▸ this.1)
    rw [this]
    simp
   | succ i =>
    have:=ih (i:=i) hn.2 (by simpa using hp) (by simpa using hv)
    rw [this]; rfl
def bJ (α:bC)(ℓ:Nat)(f:Addr)(S:TP):Prop:=
 ∀A h₀ L,Cf α ℓ A h₀ L->∀s m st φ news Vs vs,Sn α h₀ L m s.heap st φ news->bg α.hB news φ Vs vs->∀Q (R:afW->aah->Prop),S Vs st Q->gZ α h₀ L m s φ news Q (λv s'=>R (.ok (.ret v)) s') ->
  adx (abb α.prog α.w) A (.call (.ref f) ⟨vs,[]⟩) R s
theorem aM.fn {f:Addr}{S:TP}(h:bJ α ℓ f S):aM α ℓ (λvs=>abN (.ref f) vs) S:=
 λA h₀ L C s m st φ news Vs vs PB r Q Qc E t P=>aey (h A h₀ L C s m st φ news Vs vs PB r Q _ t P)
theorem bJ.mono {Rz:Nat}{f:Addr}{S:TP}(h:bJ α ℓ f S)(hl:ℓ<=Rz):bJ α Rz f S:=λA h₀ L C=>h A h₀ L (C.mono hl)
structure u5 (α:bC)(f:Addr)(name qual:Str)(params:adC)(body:List Stmt)(scope:abJ)(dV kV Qw pm P4 ct oc:aab)(an od:Option Addr)(Ri:Array (Option aab)):Prop where
 look:α.K.lookup f=some ⟨oc,od,.func (fnOf name qual params body scope dV kV Qw pm an P4 ct),Ri⟩
 code:codeIn α.K P4 qual=true
 co:scope.isCoroutine=false
 gen:scope.isGenerator=false
 kind:scope.kind=.function
def jP (α:bC)(fd:FuncData)(n:Nat)(ps:List Str)(ds:List aab):Prop:=∀(s:aah)(vs:List aab),α.K.In s.heap->vs.length=n->BindsTo s fd ⟨vs,[]⟩ (ps.zip (vs++ds))
def Jj:Nat->(List aab->Prop)->Prop
 | 0,P=>P []
 | n+1,P=>∀v,Jj n λvs=>P (v::vs)
theorem NU {n:Nat}:∀{P:List aab->Prop},Jj n P->∀vs:List aab,vs.length=n->P vs:=by
 induction n with
 | zero=>intro P h vs e; rw [abI e]; exact h
 | succ n ih =>
  intro P h vs e
  cases vs with
  | nil=>cases e
  | cons v vs=>exact ih (h v) vs (ait e)
theorem bL {fd:FuncData}{n:Nat}{ps:List Str}{ds:List aab}(h:Jj n λvs=>∀s:aah,α.K.In s.heap->BindsTo s fd ⟨vs,[]⟩ (ps.zip (vs++ds))):jP α fd n ps ds:=
 λs vs X hn=>NU h vs hn s X
theorem bg.base {hB:Heap}{news:aO}{φ:bk}{V:List MV}{v:List aab}(r:bg hB [] [] V v):bg hB news φ V v:=bg.mono' List.nil_prefix (λ_ _ h=>absurd h abu) r
set_option tactic.hygienic true in
theorem CO {ps rest:List Str}{Vs:List MV}{vs:List aab}{hB:Heap}{news:aO}{φ:bk}{i:Nat}{x:Str}{V:MV}(r:bg hB news φ Vs vs)(hl:vs.length=ps.length)(Qt:ps.Nodup)(hx:(ps++rest)[i]?=some x)
  (hV:(Vs.map some++abS rest.length none)[i]?=some (some V)):∃v,(ps.zip vs).reverse.lookup x=some v/\RV hB news φ V v/\x∈ps:=by
 rw [ahC] at hV
 split at hV
 ·rename_i hi
  simp only [abd] at hi
  rw [abC] at hV
  have Xb:Vs[i]?=some V:=by
   cases e:Vs[i]? with
   | none=>rw [e] at hV; cases hV
   | some W=>rw [e] at hV; cases hV; rfl
  obtain⟨v,hv,hr⟩:=r.get Xb
  have Tm:ps[i]?=some x:=by
   have:=r.length
   rw [abl (by walk_at "o")] at hx; exact hx
  exact⟨v,yo Qt Tm hv,hr,abh Tm⟩
 ·rw [ae0] at hV
  split at hV <;> cases hV
theorem Cf.deeper {A:abt}{h₀ g:Heap}{L L':Addr}{Vw Ql:Env}{outer:List Env}(C:Cf α (ℓ+1) A h₀ L)(hA:A.frames=some (Ql::outer))(B':ai0 A α.hB (Ql::outer) g)(Sf:Vw.frame=some L')(QA:Vw.scope.kind=.function):Cf α ℓ (A.deeper Vw) g L':=
 ⟨C.ok,⟨A,Ql::outer,Vw,B',by show (A.frames.map _)=_; rw [hA]; rfl,Sf,QA⟩,C.hand,C.dep1,by have h1:=C.units; rw [show (A.deeper Vw).units=A.units+3 from rfl]; walk_at "o",C.inner⟩
theorem Ko {scope:abJ}{qual:Str}{f L':Addr}{P4:aab}{ps rest:List Str}{news:aO}{φ:bk}{Vs:List MV}{vs:List aab}(Qz:∀x∈ps++rest,scope.names.lookup x=some .local)(r:bg α.hB news φ Vs vs)(hl:vs.length=ps.length)(Qt:(ps++rest).Nodup) :
  Lc α (ps++rest) (envX qual scope L' f P4 []) L' (λx=>(ps.zip vs).reverse.lookup x) news φ (Vs.map some++abS rest.length none):=λi x V hx hV =>
 let ⟨v,hv,hr,hm⟩:=CO r hl (abO.mp Qt).1 hx hV
 ⟨v,.fr (Qz x (aap _ hm)) rfl hv,hr⟩
theorem AF {scope:abJ}{qual:Str}{f L':Addr}{P4:aab}{sl:List Str}{news:aO}{φ:bk}(Qz:∀x∈sl,scope.names.lookup x=some .local)(QB:∀x∈scope.names,x.2≠.cell)(Qt:sl.Nodup):dT α sl (envX qual scope L' f P4 []) L' φ news:=
 ⟨Qt,rfl,λx hx=>.inl (Qz x hx),λx hx=>(by
  exfalso
  have Rf:scope.names.lookup x=some .cell:=hx
  obtain⟨RH,l₂,e,_⟩:=agU.mp Rf
  exact QB (x,.cell) (by rw [e]; simp) rfl),λx y c hc=>(by cases hc),λp hp=>(by cases hp)⟩
theorem kI {f:Addr}{name qual:Str}{params:adC}{body:List Stmt}{scope:abJ}{dV kV Qw pm P4 ct oc:aab}{an od:Option Addr}{Ri:Array (Option aab)}{n:Nat}{ps rest:List Str}{ds:List aab}{dVs:List MV}{S:TP}{T:TS}
  (D:u5 α f name qual params body scope dV kV Qw pm P4 ct oc an od Ri) (hb:jP α (fnOf name qual params body scope dV kV Qw pm an P4 ct) n ps ds) (PL:n+ds.length=ps.length) (VC:α.Ok->bg α.hB [] [] dVs ds)
  (Qt:(ps++rest).Nodup) (Qz:((ps++rest).all λx=>scope.names.lookup x == some .local)=true) (QB:(scope.names.all λx=>x.2 != .cell)=true)
  (hT:ah α ℓ scope (ps++rest) body T)
  (SR:∀Vs st Q,S Vs st Q->Vs.length=n/\T ((Vs++dVs).map some++abS rest.length none) st (fi Q)):bJ α (ℓ+1) f S:=by
 intro A h₀ L C s m st φ news Vs vs PB r Q R t P
 obtain⟨hn,t⟩:=SR Vs st Q t
 have RT:vs.length=n:=by rw [r.length]; exact hn
 refine C.frC λA₀ outer Ql B hA hf RW=>?_
 have X:=C.X
 have Q7:∀x∈scope.names,x.2≠.cell:=λx hx=>by simpa using iW QB x hx
 have QF:∀x∈ps++rest,scope.names.lookup x=some .local:=λx hx=>eq_of_beq (iW Qz x hx)
 refine callX_plain (cl:=[]) B PB.F PB.N C.T.nolimit hA hf RW ((X.keeps PB.F.keep) _ _ D.look) rfl (agq (X.keeps PB.F.keep) D.code) (by have:=C.depth; walk_at "o") (hb s vs (X.keeps PB.F.keep) RT)
  (λy hy=>QF _ (aap _ (aej hy).1)) (λg L' h₁ FG F' N' B' Ps PR=>?_) Q7 D.co D.gen D.kind
 have rr:bg α.hB news φ (Vs++dVs) (vs++ds):=r.append (VC C.ok).base
 refine hT (A.deeper (envX qual scope L' f P4 [])) g L' (envX qual scope L' f P4 []) (C.deeper hA B' rfl D.kind) ⟨rfl,D.kind,rfl,rfl⟩ _ _ st φ news _ ⟨F',N',PB.W⟩ (Ko QF rr (by rw [aba,RT]; exact PL) Qt) (AF QF Q7 Qt) (fi Q) _ _ t ?_
 ·intro fl fc Rs Pz PE PS QI PM PN PF QT Q3 PH P5 PU
  refine⟨L',QI,PS,PF.F,PF.N,λQO QM=>?_⟩
  have gg:a9 [α.tab] φ news PE PS:=PH
  cases P5 with
  | next=>exact P .none Pz PE PS .none PM PN ⟨QO,QM,PF.W⟩ gg .none PU
  | ret r=>exact P _ Pz PE PS _ PM PN ⟨QO,QM,PF.W⟩ gg r PU
  | brk=>exact PU.elim
  | cont=>exact PU.elim
theorem nh:∀(names:List (Str×aiu))(n lo:Nat)(PY:List (Str×Addr)),(PY.map (·.2)).Nodup->(∀p∈PY,p.2 < n/\lo<=p.2)->lo<=n ->
  ((aeF n names PY).map (·.2)).Nodup/\∀p∈aeF n names PY,lo<=p.2
 | [],n,lo,PY,h1,h2,_=>⟨h1,λp hp=>(h2 p hp).2⟩
 | (x,k)::r,n,lo,PY,h1,h2,h3=>by
  unfold aeF
  split
  ·refine nh r (n+1) lo ((x,n)::PY) (by
    rw [abg,abV]
    refine⟨λhm=>?_,h1⟩
    obtain⟨p,hp,e⟩:=c8 hm
    have h4:p.2 < n:=(h2 p hp).1
    have e':p.2=n:=e
    exact absurd h4 (e' ▸ acg _)) (λp hp=>?_) (agF h3)
   rcases bM hp with rfl | hp
   ·exact⟨abv _,h3⟩
   ·exact⟨abK (h2 p hp).1,(h2 p hp).2⟩
  ·exact nh r n lo PY h1 h2 h3
theorem Mq {cl:List (Str×Addr)}{x y:Str}{c:Addr}(nd:(cl.map (·.2)).Nodup)(h1:(x,c)∈cl)(h2:(y,c)∈cl):x=y:=by
 induction cl with
 | nil=>cases h1
 | cons p r ih =>
  rw [abg,abV] at nd
  have no:∀z,(z,c)∈r->p.2=c->False:=λz hz e=>nd.1 (ed ⟨_,hz,e.symm⟩)
  cases h1 with
  | head=>cases h2 with
   | head=>rfl
   | tail _ h=>exact (no _ h rfl).elim
  | tail _ h=>cases h2 with
   | head=>exact (no _ h rfl).elim
   | tail _ h'=>exact ih nd.2 h h'
theorem kK {cm:Str->Option aab}{cl:List (Str×Addr)}{cells:aO}(h:CellsAre cm cl cells):cells.map (·.1)=cl.map (·.2):=by
 induction h with
 | nil=>rfl
 | cons _ _ ih=>simp [ih]
theorem Dz {cm:Str->Option aab}{cl:List (Str×Addr)}{cells:aO}(h:CellsAre cm cl cells){x:Str}{c:Addr}(hm:(x,c)∈cl):∃o,(c,o)∈cells/\o.data=.cell (cm x):=by
 induction h with
 | nil=>cases hm
 | cons hd r ih =>
  cases hm with
  | head=>exact⟨_,.head _,hd⟩
  | tail _ hm=>obtain⟨o,h1,h2⟩:=ih hm; exact⟨o,.tail _ h1,h2⟩
theorem J2 {x n:Str}{v:aab}{m m':Str->Option aab}(h1:x=n->m' x=some v)(h2:¬x=n->m' x=m x):m' x=(List.lookup x [(n,v)]).or (m x):=by
 rw [agS]
 by_cases e:x=n
 ·rw [h1 e,e,beq_self_eq_true]; rfl
 ·rw [h2 e,beq_false_of_ne e]; rfl
theorem Jb {kindOf:Str->Option aiu}{x:Str}(hx:kindOf x=some .local)(binds:List (Str×aab)):∀m:Str->Option aab,bindL kindOf binds m x=(binds.reverse.lookup x).or (m x):=by
 induction binds with
 | nil=>intro m; rfl
 | cons p r ih =>
  intro m
  refine (ih _).trans ?_
  rw [adm,agp,Option.or_assoc]
  refine congrArg _ (J2 (n:=p.1) (v:=p.2) (λe=>?_) λe=>?_)
  ·rw [if_pos (e ▸ hx)]; exact if_pos e
  ·by_cases hn:kindOf p.1=some .local
   ·rw [if_pos hn]; exact if_neg e
   ·rw [if_neg hn]
theorem IF {kindOf:Str->Option aiu}{x:Str}(hx:kindOf x≠some .local)(binds:List (Str×aab)):∀m:Str->Option aab,bindC kindOf binds m x=(binds.reverse.lookup x).or (m x):=by
 induction binds with
 | nil=>intro m; rfl
 | cons p r ih =>
  intro m
  refine (ih _).trans ?_
  rw [adm,agp,Option.or_assoc]
  refine congrArg _ (J2 (n:=p.1) (v:=p.2) (λe=>?_) λe=>?_)
  ·rw [if_neg (e ▸ hx)]; exact if_pos e
  ·by_cases hn:kindOf p.1=some .local
   ·rw [if_pos hn]
   ·rw [if_neg hn]; exact if_neg e
def BS (α:bC)(ℓ:Nat)(sc:abJ)(slots:List Str)(cs:List Stmt)(T:TS)(qual:Str)(P4:aab):Prop:=
 ∀A h₀ L env,Cf α ℓ A h₀ L->Ce sc env->env.qual=qual++(".<locals>.":Str)->env.code=P4->∀s m st φ news ρ,Sn α h₀ L m s.heap st φ news->Lc α slots env L m news φ ρ->dT α slots env L φ news->∀Q Qc E,T ρ st Q->t9 α slots env h₀ L s φ news Q Qc ->
  wpAny (abb α.prog α.w) A (execs cs env) Qc E s
theorem DA {cm:Str->Option aab}{names:List (Str×aiu)}{L':Addr}{cells:aO}(Y:CellsAre cm (aeF (L'+1) names []) cells):((aeF (L'+1) names []).map (·.2)).Nodup/\(∀q∈aeF (L'+1) names [],L' < q.2)/\∀p∈cells,L' < p.1:=by
 obtain⟨nd,lo⟩:=nh names (L'+1) (L'+1) [] .nil (λ_ h=>absurd h abu) (abp _)
 refine⟨nd,lo,λp hp=>?_⟩
 have:p.1∈(aeF (L'+1) names []).map (·.2):=(kK Y) ▸ ed ⟨p,hp,rfl⟩
 obtain⟨q,hq,e⟩:=c8 this
 exact e ▸ lo q hq
theorem Wd.above {st:MS}{φ:bk}{news:aO}{L' c:Addr}(W:Wd α st φ news)(PR:∀p∈news,p.1 < L')(hc:L' < c):c≠α.tab/\c ∉ bq φ:=by
 refine⟨λe=>?_,λhf=>?_⟩
 ·obtain⟨ps,hp,_⟩:=W.tabs
  exact ag7 hc (e ▸ PR _ hp)
 ·obtain⟨o,ho⟩:=W.footKeys hf
  exact ag7 hc (PR _ ho)
theorem Wd.front {st:MS}{φ:bk}{news:aO}{L':Addr}(W:Wd α st φ news)(PR:∀p∈news,p.1 < L'){cells:aO}(nd:(cells.map (·.1)).Nodup)(ap:∀p∈cells,L' < p.1):Wd α st φ (cells++news):=by
 induction cells with
 | nil=>exact W
 | cons p cells ih =>
  rw [abg,abV] at nd
  refine (ih nd.2 λq hq=>ap q (.tail _ hq)).more (λq hq e=>?_)
  rcases dW hq with hq | hq
  ·exact nd.1 (ed ⟨q,hq,e⟩)
  ·exact ag7 (ap p (.head _)) (e ▸ PR q hq)
theorem a9.back {φ PE:bk}{news PS cells:aO}{L':Addr}{cl:List (Str×Addr)}(g:a9 (α.tab::cl.map (·.2)) φ (cells++news) PE PS)(PR:∀p∈news,p.1 < L')(lo:∀q∈cl,L' < q.2):a9 [α.tab] φ news PE PS:=by
 have sub:∀p∈news,p∈cells++news:=λp h=>aas _ h
 refine⟨g.pre,λa its h=>g.tups a its (sub _ h),λp hp hf hx=>g.kept p (sub p hp) hf λq=>?_,λp hp=>g.keys p (sub p hp),λp hp h=>g.fresh p (sub p hp) h⟩
 rcases bM q with q | q
 ·exact hx (by rw [q]; exact .head _)
 ·obtain⟨y,hy,e⟩:=c8 q
  exact ag7 (lo y hy) (e ▸ PR p hp)
theorem zX {f:Addr}{name qual:Str}{params:adC}{body:List Stmt}{scope:abJ}{dV kV Qw pm P4 ct oc:aab}{an od:Option Addr}{Ri:Array (Option aab)}{n:Nat}{ps rest:List Str}{ds:List aab}{dVs:List MV}{S:TP}{T:TS}
  (D:u5 α f name qual params body scope dV kV Qw pm P4 ct oc an od Ri) (hb:jP α (fnOf name qual params body scope dV kV Qw pm an P4 ct) n ps ds) (PL:n+ds.length=ps.length) (VC:α.Ok->bg α.hB [] [] dVs ds)
  (Qt:(ps++rest).Nodup) (Qz:((ps++rest).all λx=>scope.names.lookup x == some .local || scope.names.lookup x == some .cell)=true) (Y7:((aeF 0 scope.names []).map (·.1)).Nodup)
  (hT:BS α ℓ scope (ps++rest) body T qual P4)
  (SR:∀Vs st Q,S Vs st Q->Vs.length=n/\T ((Vs++dVs).map some++abS rest.length none) st (fi Q)):bJ α (ℓ+1) f S:=by
 intro A h₀ L C s m st φ news Vs vs PB r Q R t P
 obtain⟨hn,t⟩:=SR Vs st Q t
 have RT:vs.length=n:=by rw [r.length]; exact hn
 refine C.frC λA₀ outer Ql B hA hf RW=>?_
 have X:=C.X
 have QF:∀x∈ps++rest,scope.names.lookup x=some .local\/scope.names.lookup x=some .cell:=λx hx=>by
  have:=iW Qz x hx
  rcases ahU.mp this with q | q
  ·exact .inl (eq_of_beq q)
  ·exact .inr (eq_of_beq q)
 have Va:((ps.zip (vs++ds)).all λy=>scope.names.lookup y.1 == some .local || scope.names.lookup y.1 == some .cell)=true:=
  abQ.mpr λy hy=>iW Qz y.1 (aap _ (aej hy).1)
 refine callX_cells B PB.F PB.N C.T.nolimit hA hf RW ((X.keeps PB.F.keep) _ _ D.look) rfl (agq (X.keeps PB.F.keep) D.code) (by have:=C.depth; walk_at "o") (hb s vs (X.keeps PB.F.keep) RT)
  (kindsX Va) Y7 (λg L' h₁ tk cells FG F' N' Y B' Ps PR=>?_) D.co D.gen D.kind
 have rr:bg α.hB news φ (Vs++dVs) (vs++ds):=r.append (VC C.ok).base
 obtain⟨nd,lo,ap⟩:=DA Y
 have hW:Wd α st φ (cells++news):=PB.W.front PR (by rw [kK Y]; exact nd) ap
 have gr:a9 [α.tab] φ news φ (cells++news):=.led λp h=>aas _ h
 have cellAt:∀x,scope.names.lookup x=some .cell->∃c o,(aeF (L'+1) scope.names []).lookup x=some c/\c≠α.tab/\c ∉ bq φ/\(c,o)∈cells++news/\o.data=.cell (bindC (ajg qual scope L' f P4).kindOf (ps.zip (vs++ds)) (λ_=>none) x):=λx hx=>by
  have hs:=cellsFrom_some (x:=x) scope.names (L'+1) [] (.inl hx)
  obtain⟨c,hc⟩:=ady.mp hs
  have hm:=dO hc
  obtain⟨o,ho,hd⟩:=Dz Y hm
  obtain⟨nT,nF⟩:=PB.W.above PR (lo _ hm)
  exact⟨c,o,hc,nT,nF,aap _ ho,hd⟩
 refine hT (A.deeper (ajg qual scope L' f P4)) g L' (ajg qual scope L' f P4) (C.deeper hA B' rfl D.kind) ⟨rfl,D.kind,rfl,rfl⟩ rfl rfl _ _ st φ (cells++news) _ ⟨F',N',hW⟩ ?_
  ⟨Qt,rfl,λx hx=>QF x hx,λx hx=>?_,λx y c hc R8=>?_,λp hp=>?_⟩ (fi Q) _ _ t ?_
 ·intro i x V hx hV
  obtain⟨v,hv,hr,hm⟩:=CO rr (by rw [aba,RT]; exact PL) (abO.mp Qt).1 hx hV
  refine⟨v,?_,hr.mono gr⟩
  rcases QF x (aap _ hm) with hk | hk
  ·refine .fr hk rfl ?_
   rw [Jb (kindOf:=(ajg qual scope L' f P4).kindOf) (x:=x) hk,hv]; rfl
  ·obtain⟨c,o,h1,h2,h3,h4,h5⟩:=cellAt x hk
   refine .cell hk c o h1 h2 h3 h4 ?_
   rw [h5,IF (kindOf:=(ajg qual scope L' f P4).kindOf) (x:=x) (by show scope.names.lookup x≠_; rw [hk]; simp),hv]; rfl
 ·obtain⟨c,o,h1,h2,h3,h4,h5⟩:=cellAt x hx
  exact⟨c,o,_,h1,h2,h3,h4,h5⟩
 ·have h1:=dO hc
  have h2:=dO R8
  exact Mq nd h1 h2
 ·have:p.2∈cells.map (·.1):=(kK Y) ▸ ed ⟨p,hp,rfl⟩
  obtain⟨q,hq,e⟩:=c8 this
  exact⟨q.2,aap _ (by rw [<- e]; exact hq)⟩
 ·intro fl fc Rs Pz PE PS QI PM PN PF QT Q3 PH P5 PU
  refine⟨L',QI,PS,PF.F,PF.N,λQO QM=>?_⟩
  have gg:a9 [α.tab] φ news PE PS:=PH.back PR lo
  cases P5 with
  | next=>exact P .none Pz PE PS .none PM PN ⟨QO,QM,PF.W⟩ gg .none PU
  | ret r=>exact P _ Pz PE PS _ PM PN ⟨QO,QM,PF.W⟩ gg r PU
  | brk=>exact PU.elim
  | cont=>exact PU.elim
theorem vt {f:Addr}{name qual:Str}{params:adC}{body:List Stmt}{scope:abJ}{dV kV Qw pm P4 ct oc:aab}{an od:Option Addr}{Ri:Array (Option aab)}{n:Nat}{ps rest:List Str}{ds:List aab}{dVs:List MV}{S:TP}{T:TS}
  (D:u5 α f name qual params body scope dV kV Qw pm P4 ct oc an od Ri) (hb:jP α (fnOf name qual params body scope dV kV Qw pm an P4 ct) n ps ds) (PL:n+ds.length=ps.length) (VC:α.Ok->bg α.hB [] [] dVs ds)
  (Qt:(ps++rest).Nodup) (Qz:((ps++rest).all λx=>scope.names.lookup x == some .local || scope.names.lookup x == some .cell)=true) (Y7:((aeF 0 scope.names []).map (·.1)).Nodup)
  (hT:ah α ℓ scope (ps++rest) body T)
  (SR:∀Vs st Q,S Vs st Q->Vs.length=n/\T ((Vs++dVs).map some++abS rest.length none) st (fi Q)):bJ α (ℓ+1) f S:=
 zX D hb PL VC Qt Qz Y7 (λA h₀ L env C D _ _=>hT A h₀ L env C D) SR
end
section
variable {α:bC}{ℓ:Nat}{sc:abJ}{slots:List Str}{h₀:Heap}{L:Addr}{m:Str->Option aab}{s:aah}{st:MS}{φ:bk}{news:aO}
def bl (r:TL):TE:=λρ st Q=>r ρ st λVs Pt=>Q (.tup Vs) Pt
def be (r:TL):TE:=λρ st Q=>r ρ st λVs Pt=>Q (.ref Pt.length) (Pt++[.list Vs])
theorem BB {n:Nat}(h:n<=1000):n<=abA:=aaj h (by decide)
theorem aV {es:List Expr}{k:Nat}{pos:Pos}{r:TL}(h:ae α ℓ sc slots es r)(hl:autoParam (es.length<=1000) aK):aa α ℓ sc slots (.Tuple es k pos) (bl r):=by
 intro A h₀ L env C D s m st φ news ρ PB Lo Q Qc E t P
 refine Tuple_ (h.run A h₀ L env C D s m st φ news ρ PB Lo pos _ _ E t λVs Pt Px PC vs h₁ PA Pv Py PO Pw hn=>?_)
 have e:=PO.length
 exact newTuple_N Pv.F Pv.N (λh' F' N'=>(P.after Py h₁ PA).newTup Pv F' N' Pv.lt PO Pw) (BB (by rw [e,hn]; exact hl))
theorem aY {es:List Expr}{pos:Pos}{r:TL}(h:ae α ℓ sc slots es r)(hl:autoParam (es.length<=1000) aK):aa α ℓ sc slots (.List es pos) (be r):=by
 intro A h₀ L env C D s m st φ news ρ PB Lo Q Qc E t P
 refine List_ (h.run A h₀ L env C D s m st φ news ρ PB Lo pos _ _ E t λVs Pt Px PC vs h₁ PA Pv Py PO Pw hn=>?_)
 have e:=PO.length
 exact newList_N Pv.F Pv.N (λh' F' N'=>(P.after Py h₁ PA).newList Pv F' N' Pv.lt PO Pw) (BB (by rw [e,hn]; exact hl))
theorem vM.at {h:Heap}{a:Addr}{o:Obj}{kvs:List (Str×aab)}{ep:Nat}(D:vM α o kvs ep)(e:h.get? a=some o):h.DictAt (strKind α.prog α.w) a kvs ep:=let ⟨es,r⟩:=D; ⟨o,es,e,r⟩
theorem mq.find {hB:Heap}{name:Str}{fs:List (Str×MV)}{kvs:List (Str×aab)}(r:mq hB news φ fs kvs) :
  match fs.lookup name with
  | some V=>∃v,aeT kvs name=some v/\RV hB news φ V v
  | none=>aeT kvs name=none:=by
 induction r with
 | nil=>rfl
 | @cons k V v fs kvs h r ih =>
  rw [agS]
  cases hk:name == k with
  | true =>
   refine⟨v,?_,h⟩
   obtain rfl:=eq_of_beq hk
   exact congrArg (aeV Prod.snd) (List.find?_cons_of_pos (a:=(name,v)) (p:=λkv=>kv.1=name) (decide_eq_true rfl))
  | false =>
   have e:aeT ((k,v)::kvs) name=aeT kvs name:=
    congrArg (aeV Prod.snd) (List.find?_cons_of_neg (a:=(k,v)) (p:=λkv=>kv.1=name) λq=>ne_of_beq_false hk (of_decide_eq_true q).symm)
   rw [e]
   exact ih
def uq (j:Int):Prop:=-(2 ^ 63)<=j/\j < 2 ^ 63
def N2:MV->MV->MS->(MV->MS->Prop)->Prop:=λV W st Q=>gF (nK _)
 (λx=>jK (λj=>uq j/\∃n c,afb j x.length=some n/\x.cps[n]?=some c/\Q (.str ⟨#[c]⟩) st) W)
 (λxs=>jK (λj=>uq j/\∃n x,afb j xs.length=some n/\xs[n]?=some x/\Q x st) W)
 (λk=>gF (λj=>cD st[k]? λxs=>uq j/\∃n x,afb j xs.length=some n/\xs[n]?=some x/\Q x st) (λkey=>wl st[k]? λfs=>dU (fs.lookup key) λV=>Q V st) (nK _) (nK _) (nK _) W)
 (λns=>jK (λj=>0<=j/\j < 2 ^ 63/\∃n,ns[j.toNat]?=some n/\Q (.int n) st) W) V
def aN:TP:=two N2
theorem wJ {A:abt}{E:aab->aah->Prop}{l:Addr}{its:Array aab}{k:Int}{t:Tok}{n:Nat}{x:aab}{Q:aab->aah->Prop}(hl:s.heap.IsList l its)(hs:uq k)(hn:afb k its.size=some n)(hx:its[n]?=some x)(h:Q x s) :
  wpAny (abb α.prog α.w) A (aiW (.ref l) (.int k t)) Q E s:=by
 by_cases h0:0<=k
 ·refine aic hl h0 hs.2 ?_ h
  obtain⟨j,rfl⟩:=Int.eq_ofNat_of_zero_le h0
  have:n=j:=by
   have PR:=(aez.mp hx).1
   unfold afb at hn
   simp only at hn
   split at hn <;> simp_all <;> walk_at "o"
  subst this; simpa using hx
 ·have h0':k < 0:=by walk_at "o"
  have h1:-(its.size:Int)<=k:=by
   cases Int.lt_or_le k (-(its.size:Int)) with
   | inr h=>exact h
   | inl h =>
    exfalso
    unfold afb at hn
    simp only at hn
    split at hn <;> simp_all <;> walk_at "o"
  have e:=seqIndex_neg h0' h1
  rw [e] at hn
  cases hn
  exact wpAny_getItem_list_neg hl h0' h1 hs.1 hx h
theorem AZ {Qh slice:Expr}(QG:∀o i,ahD slice false o i=aiV [o,i] (aiW o i)):aM α 0 (c2 (ah3 Qh slice)) aN:=g5 λA h₀ L C s m st φ news V W v w S r1 r2 Q Qc E t P=>by
 apply r1.cV t
 ·exact λ_ _ f=>f.elim
 ·intro x tx t; apply r2.oI t; intro j tk t
  refine bv λGG PD=>?_
  obtain⟨hs,n,c,hn,hc,t⟩:=t
  refine PD ?_
  refine agr (typeIs_str _ _ _) PyProof.Rows.slot_str_getitem.lookup (PyProof.Rows.getItem_str (c:=c) ?_ (by rw [hn]; exact hc) (P.now S (.str _ _) t _)) (QG _ _)
  have h1:=hs.1; have h2:=hs.2
  simp only [Bool.or_eq_false_iff,decide_eq_false_iff_not]
  walk_at "o"
 ·intro xs a its hh q t; apply r2.oI t; intro j tk t
  refine bv λGG PD=>?_
  obtain⟨hs,n,x,hn,hx,t⟩:=t
  have hT:=S.isTup C.stays hh
  obtain⟨y,hy,ry⟩:=q.get hx
  refine PD ?_
  exact agr hT.typeIs slot_tuple_getitem.lookup (getItem_tuple hT hs.1 hs.2 (by rw [<- abj,q.length]; exact hn) (by simpa using hy) (P.now S ry t s.toks)) (QG _ _)
 ·intro k a d PP t; apply r2.cV t
  ·intro j tk t
   refine bZ t λxs hk t=>?_
   refine bv λGG PD=>?_
   obtain⟨hs,n,x,hn,hx,t⟩:=t
   refine PD ?_
   refine S.W.listC hk PP λits nn PP hm q=>?_
   have hl:=S.isList hm
   obtain⟨y,hy,ry⟩:=q.get hx
   exact agr hl.typeIs PySem.slot_list_getitem.lookup (wJ hl hs (n:=n) (by rw [<- abj,q.length]; exact hn) (by simpa using hy) (P.now S ry t s.toks)) (QG _ _)
  ·intro key tk t
   refine wg t λfs ep hk t=>dH t λV hV t=>?_
   refine S.W.dictC hk PP λo kvs PP _ hm hd F=>?_
   have ff:=F.find (name:=key)
   rw [hV] at ff
   obtain⟨v,hv,rv⟩:=ff
   have hM:=(hd.at (S.N.get hm)).dictOf.mapOf
   exact agr hM.typeIs slot_dict_getitem.lookup (wpAny_getItem_of (ai4 _ _ _ _) hM hv (P.now S rv t _)) (QG _ _)
  ·exact λ_ _ _ _ _ f=>f.elim
  ·exact λ_ _ _ _ f=>f.elim
  ·exact λ_ _ _ _ _ f=>f.elim
 ·intro ns l vs hl hi t; apply r2.oI t; intro j tk t
  refine bv λGG PD=>?_
  obtain⟨h0,h1,n,hn,t⟩:=t
  obtain⟨o,ho,hr⟩:=hl
  have hl:s.heap.IsList l vs.toArray:=⟨o,S.F.keep _ _ (C.stays _ _ ho),hr⟩
  obtain⟨tt,hx⟩:=hi.get _ _ hn
  refine PD ?_
  exact agr hl.typeIs PySem.slot_list_getitem.lookup (aic hl h0 h1 (by simpa using hx) (P.now S (.int _ _) t s.toks)) (QG _ _)
theorem aa.sub {Qh slice:Expr}{pos:Pos}{a b:TE}(ha:aa α ℓ sc slots Qh a)(hb:aa α ℓ sc slots slice b)(QG:autoParam (∀o i,ahD slice false o i=aiV [o,i] (aiW o i)) aI) :
  aa α ℓ sc slots (.Subscript Qh slice pos) (ar aN a b):=by
 intro A h₀ L env C D s m st φ news ρ PB Lo Q Qc E t P
 refine aid (ha A h₀ L env C D s m st φ news ρ PB Lo _ _ E t λV Pt Px PC v h₁ PA Pv Py PO Pw=>?_)
 refine hb A h₀ L env C D _ m Pt Px PC ρ Pv (Lo.grow Py) _ _ E Pw λW Pz PE PS w PM PN PF PH P5 PU=>?_
 exact AZ QG A h₀ L (C.mono (abP _)) _ m Pz PE PS [V,W] [v,w] PF (.cons (PO.mono PH) (.cons P5 .nil)) Q Qc E PU ((P.after Py h₁ PA).after PH PM PN)
end
section
variable {α:bC}{ℓ:Nat}{sc:abJ}{slots:List Str}{h₀:Heap}{L:Addr}{m:Str->Option aab}{s:aah}{st:MS}{φ:bk}{news:aO}
def Nb (K:Option Int->Prop)(V:MV):Prop:=match V with | .none=>K Option.none | .int i=>K (ajo i) | _=>False
theorem RV.oP {hB:Heap}{V:MV}{v:aab}{K:Option Int->Prop}{P:aab->Prop}(r:RV hB news φ V v)(t:Nb K V)(hz:K Option.none->P .none)(hi:∀i u,K (ajo i)->P (.int i u)):P v:=by
 cases r with
 | none=>exact hz t
 | int i u=>exact hi i u t
 | _=>exact t.elim
def AW (V l u:MV)(st:MS)(Q:MV->MS->Prop):Prop:=gF (nK _) (λx=>Nb (λlo=>Nb (λhi=>x.length<=abA/\Q (.str (abD x lo hi)) st) u) l) (nK _)
 (λk=>jK (λj=>Kx (cD st[k]? λxs=>0<=j/\xs.length<=abA/\Q (.ref st.length) (st++[.list (xs.drop j.toNat)])) u) l) (nK _) V
def NS:MV->MV->MS->(MV->MS->Prop)->Prop:=λV W st Q=>hO (λk=>jK (λj=>cD st[k]? λxs=>j=-1/\xs.length<=abA/\Q (.ref st.length) (st++[.list xs.reverse])) W) V
def Cg:TP:=two NS
noncomputable abbrev Es (l u t:aab):Obj:={ cls:=.type "slice",data:=.fields #[l,u,t] }
theorem ub {Qh:Expr}{x:Str}{t:Tok}:∀r,letTemporaryGo Qh (.str x t) r=pure ():=by intro r; cases Qh <;> rfl
theorem My {Qh slice:Expr}{A:abt}{V l u:MV}{v vl vu:aab}{Q:MV->MS->Prop}{Qc E:aab->aah->Prop}(C:Cf α 0 A h₀ L)(S:Sn α h₀ L m s.heap st φ news)(r:RV α.hB news φ V v)(rl:RV α.hB news φ l vl)(ru:RV α.hB news φ u vu)
  (t:AW V l u st Q) (P:gZ α h₀ L m s φ news Q Qc) (QG:∀o i,ahD slice false o i=aiV [i,o] (aiW o i)) :
  wpAny (abb α.prog α.w) A (ah3 Qh slice v (.ref s.heap.objs.size)) Qc E { s with heap:=s.heap.push (Es vl vu .none) }:=by
 apply r.cV t
 ·exact λ_ _ f=>f.elim
 ·intro x tx t
  have QK:∀lo hi,Q (.str (abD x lo hi)) st->∀h' t' k,Fr h₀ L h' m->News h₀ L h' news->Qc (.str (abD x lo hi) t') { s with heap:=h',toks:=k }:=λlo hi t h' t' k F' N'=>P _ st φ news _ h' k ⟨F',N',S.W⟩ .refl (.str _ _) t
  apply rl.oP t
  ·intro t; apply ru.oP t
   ·intro t; exact slice_strN_nn S.F S.N (QK _ _ t.2) (QG _ _) ub t.1
   ·intro j uj t; exact slice_strN_ns S.F S.N (QK _ _ t.2) (QG _ _) ub t.1
  ·intro i ui t; apply ru.oP t
   ·intro t; exact slice_strN_sn S.F S.N (QK _ _ t.2) (QG _ _) ub t.1
   ·intro j uj t; exact slice_strN_ss S.F S.N (QK _ _ t.2) (QG _ _) ub t.1
 ·exact λ_ _ _ _ _ f=>f.elim
 ·intro k a d PP t; apply rl.oI t; intro j tj t; apply ru.oZ t; intro t
  refine bZ t λxs hk t=>?_
  refine S.W.listC hk PP λits n PP hm q=>?_
  have hl:=S.isList hm
  refine agr (aie (s:={ s with heap:=s.heap.push (Es (.int j tj) .none .none) }) (hl.push _)) PySem.slot_list_getitem.lookup
   (agO (hl.push _) (aif ..) (.int j tj) .none .none (by simp) ?_ (by rw [<- abj,q.length]; exact t.2.1)) (QG _ _)
  have N1:=aiK (S.F.push (Es (.int j tj) .none .none)) (S.N.grown λ_ _ e=>aak _ e) { cls:=.type "list",data:=.seq (slicePick its (some j) none none) }
  refine P.newList S (tk:=s.toks) ((S.F.push _).push _) N1 (λp hp=>?_) (xs:=xs.drop j.toNat) ?_ t.2.2
  ·rw [adM]; exact abc (abK (abk (S.N p hp).1))
  ·have e2:=slicePick_from' its j.toNat
   rw [ahV t.1] at e2
   rw [e2]
   exact q.drop _
 ·exact λ_ _ _ _ _ f=>f.elim
theorem Lr {Qh slice:Expr}{A:abt}{V j:MV}{v vj:aab}{Q:MV->MS->Prop}{Qc E:aab->aah->Prop}(C:Cf α 0 A h₀ L)(S:Sn α h₀ L m s.heap st φ news)(r:RV α.hB news φ V v)(rj:RV α.hB news φ j vj)
  (t:Cg [V,j] st Q) (P:gZ α h₀ L m s φ news Q Qc) (QG:∀o i,ahD slice false o i=aiV [o,i] (aiW o i)) :
  wpAny (abb α.prog α.w) A (ah3 Qh slice v (.ref s.heap.objs.size)) Qc E { s with heap:=s.heap.push (Es .none .none vj) }:=by
 apply r.oR t; intro k a d PP t; apply rj.oI t; intro j' tj t
 refine bZ t λxs hk t=>?_
 obtain⟨rfl,hz,t⟩:=t
 refine S.W.listC hk PP λits n PP hm q=>?_
 have hl:=S.isList hm
 refine agr (aie (s:={ s with heap:=s.heap.push (Es .none .none (.int (-1) tj)) }) (hl.push _)) PySem.slot_list_getitem.lookup
  (agO (hl.push _) (aif ..) .none .none (.int (-1) tj) (by simp) ?_ (by rw [<- abj,q.length]; exact hz)) (QG _ _)
 have N1:=aiK (S.F.push (Es .none .none (.int (-1) tj))) (S.N.grown λ_ _ e=>aak _ e) { cls:=.type "list",data:=.seq (slicePick its none none (some (-1))) }
 refine P.newList S (tk:=s.toks) ((S.F.push _).push _) N1 (λp hp=>?_) (xs:=xs.reverse) ?_ t
 ·rw [adM]; exact abc (abK (abk (S.N p hp).1))
 ·rw [krv_pick]
  exact q.reverse
inductive dz (α:bC)(ℓ:Nat)(sc:abJ)(slots:List Str):Option Expr->TE->Prop
 | none:dz α ℓ sc slots none (tK .none)
 | some {e:Expr} {T:TE} (h:aa α ℓ sc slots e T):dz α ℓ sc slots (some e) T
theorem dz.run {e:Option Expr}{T:TE}(h:dz α ℓ sc slots e T):∀A h₀ L env,Cf α ℓ A h₀ L->Ce sc env->∀s m st φ news ρ,Sn α h₀ L m s.heap st φ news->Lc α slots env L m news φ ρ->∀Q Qc E,T ρ st Q->gZ α h₀ L m s φ news Q Qc ->
  wpAny (abb α.prog α.w) A (evalPart e env) Qc E s:=by
 cases h with
 | none=>exact λA h₀ L env C D s m st φ news ρ S Lo Q Qc E t P=>aa8 (P.now S .none t s.toks)
 | some h=>exact h
def iV (a l u:TE):TE:=λρ st Q=>a ρ st λV Pt=>l ρ Pt λlo Pz=>u ρ Pz λhi Qd=>AW V lo hi Qd Q
theorem dl {Qh:Expr}{lo hi:Option Expr}{p pos:Pos}{a l u:TE}(ha:aa α ℓ sc slots Qh a)(hl:dz α ℓ sc slots lo l)(hu:dz α ℓ sc slots hi u):aa α ℓ sc slots (.Subscript Qh (.Slice lo hi none p) pos) (iV a l u):=by
 intro A h₀ L env C D s m st φ news ρ PB Lo Q Qc E t P
 refine aid (ha A h₀ L env C D s m st φ news ρ PB Lo _ _ E t λV Pt Px PC v h₁ PA Pv Py PO Pw=>?_)
 refine wpAny_Slice (hl.run A h₀ L env C D _ m Pt Px PC ρ Pv (Lo.grow Py) _ _ E Pw λl Pz PE PS vl PM PN PF PH P5 PU=>?_)
 refine hu.run A h₀ L env C D _ m Pz PE PS ρ PF ((Lo.grow Py).grow PH) _ _ E PU λu Qd QC Qq vu P2 P7 P3 Qe Ru Qg=>aa8 ?_
 exact My (s:={ s with heap:=P2,toks:=P7 }) (C.mono (abP _)) P3 ((PO.mono PH).mono Qe) (P5.mono Qe) Ru Qg (((P.after Py h₁ PA).after PH PM PN).after Qe P2 P7) λ_ _=>rfl
def tD (a c:TE):TE:=λρ st Q=>a ρ st λV Pt=>c ρ Pt λj Pz=>Cg [V,j] Pz Q
theorem wc {Qh step:Expr}{p pos:Pos}{a c:TE}(ha:aa α ℓ sc slots Qh a)(hc:aa α ℓ sc slots step c):aa α ℓ sc slots (.Subscript Qh (.Slice none none (some step) p) pos) (tD a c):=by
 intro A h₀ L env C D s m st φ news ρ PB Lo Q Qc E t P
 refine aid (ha A h₀ L env C D s m st φ news ρ PB Lo _ _ E t λV Pt Px PC v h₁ PA Pv Py PO Pw=>?_)
 refine wpAny_Slice (aa8 (aa8 ?_))
 refine hc A h₀ L env C D _ m Pt Px PC ρ Pv (Lo.grow Py) _ _ E Pw λj Pz PE PS vj PM PN PF PH P5 PU=>?_
 exact Lr (s:={ s with heap:=PM,toks:=PN }) (C.mono (abP _)) PF (PO.mono PH) P5 PU ((P.after Py h₁ PA).after PH PM PN) λ_ _=>rfl
end
section
variable {α:bC}{ℓ:Nat}{sc:abJ}{slots:List Str}{h₀ h h':Heap}{L:Addr}{m:Str->Option aab}{s:aah}{st:MS}{φ:bk}{news:aO}{env:Env}
theorem Sn.keeps (S:Sn α h₀ L m h st φ news)(hk:∀b o,h.get? b=some o->h'.get? b=some o):Sn α h₀ L m h' st φ news:=⟨S.F.keeps hk,S.N.grown hk,S.W⟩
theorem HO {A:abt}{Q:MV->MS->Prop}{Qc E:aab->aah->Prop}{ρ:aG}{i:Nat}{x:Str}{V:MV}(D:Ce sc env)(S:Sn α h₀ L m s.heap st φ news)(Lo:Lc α slots env L m news φ ρ)(hx:slots[i]?=some x)(hV:ρ[i]?=some (some V))(t:Q V st)(P:gZ α h₀ L m s φ news Q Qc) :
  wpAny (abb α.prog α.w) A (loadName env x) Qc E s:=
 vG D S Lo hx hV λv hr=>P.now S hr t s.toks
def pU (S:TP)(i:Nat)(a:TE):TS:=λρ st Q=>ar S (af i) a ρ st λV Pt=>Q .next (ρ.set i (some V)) Pt
theorem wb {op:Operator}{x:Str}{px pos:Pos}{i:Nat}{e:Expr}{S:TP}{a:TE}(h:aa α ℓ sc slots e a)(hS:aM α 0 (c2 (inplaceOp op)) S)(hx:autoParam (slots[i]?=some x) aR):au α ℓ sc slots (.AugAssign (.Name x px) op e pos) (pU S i a):=by
 intro A h₀ L env C D s m st φ news ρ PB Lo O Q Qc E t P
 unfold pU ar at t
 refine pE t λU hU t=>?_
 refine wpAny_AugAssign_Name (HO (Q:=λU Pt=>a ρ Pt λW Pz=>S [U,W] Pz λV Qd=>Q .next (ρ.set i (some V)) Qd) D PB Lo hx hU t λV Pt Px PC v h₁ PA Pv Py PO Pw=>?_)
 refine h A h₀ L env C D _ m Pt Px PC ρ Pv (Lo.grow Py) _ _ E Pw λW Pz PE PS w PM PN PF PH P5 PU=>?_
 refine hS A h₀ L (C.mono (abP _)) _ m Pz PE PS [V,W] [v,w] PF (.cons (PO.mono PH) (.cons P5 .nil)) _ _ E PU λR Qd QC Qq r P2 P7 P3 Qe Ru Qg=>?_
 have g:=(Py.trans PH).trans Qe
 exact jz D P3 (Lo.grow g) (O.grow g) hx Ru λVU XE QN Sl R6 WI U2 Rn=>P .next .next _ Qd QC VU XE QN Sl R6 WI U2 ((dE g).trans Rn) .next Qg
theorem BY:aM α 0 (c2 (inplaceOp .Add)) (bh (·+·) l9):=jg λ_ _ _ _ _ _ _ _ _ h=>PyProof.Rows.iadd_int h
theorem Jd:aM α 0 (c2 (inplaceOp .Sub)) (bh (· - ·) l9):=jg λ_ _ _ _ _ _ _ _ _ h=>PyProof.Rows.isub_int h
inductive kG (slots:List Str):List Expr->List Nat->Prop
 | nil:kG slots [] []
 | cons {x:Str} {p:Pos} {i:Nat} {es:List Expr} {is:List Nat} (hx:slots[i]?=some x) (r:kG slots es is):kG slots (.Name x p::es) (i::is)
noncomputable def fa:aG->List Nat->List MV->aG
 | ρ,i::is,V::Vs=>fa (ρ.set i (some V)) is Vs
 | ρ,_,_=>ρ
theorem kG.each {es:List Expr}{is:List Nat}(h:kG slots es is)(env:Env):(ag8 es env).length=es.length/\(ag8 es env).findIdx? (·.1)=none:=by
 induction h with
 | nil=>exact⟨rfl,rfl⟩
 | @cons x p i es is hx r ih =>
  have e:ag8 (.Name x p::es) env=(false,afy (.Name x p) env)::ag8 es env:=rfl
  rw [e]
  refine⟨by simp [ih.1],?_⟩
  rw [List.findIdx?_cons]
  simp [ih.2]
theorem kG.run {A:abt}{E:aab->aah->Prop}{es:List Expr}{is:List Nat}(T:kG slots es is)(D:Ce sc env):∀{Vs:List MV}{vs:List aab}{ρ:aG}{m:Str->Option aab}{news:aO}{s:aah}{Qc:Unit->aah->Prop},vs.length=es.length ->
  Sn α h₀ L m s.heap st φ news->Lc α slots env L m news φ ρ->dT α slots env L φ news->bg α.hB news φ Vs vs ->
  (∀Pu m' h' PV,Sn α h₀ L m' h' st φ Pu->Lc α slots env L m' Pu φ (fa ρ is Vs)->dT α slots env L φ Pu->a9 (ft α env) φ news φ Pu->Qc () { s with heap:=h',toks:=PV }) ->
  wpAny (abb α.prog α.w) A (assignInOrder ((ag8 es env).map (·.2)) vs) Qc E s:=by
 induction T with
 | nil =>
  intro Vs vs ρ m news s Qc hl S Lo O r P
  cases vs with
  | nil=>cases r; exact afz (P news m s.heap s.toks S Lo O .refl)
  | cons _ _=>cases hl
 | @cons x p i es is hx T ih =>
  intro Vs vs ρ m news s Qc hl S Lo O r P
  cases r with
  | nil=>cases hl
  | @cons V v Vs vs rv rs =>
   refine adN (ab1 (jz D S Lo O hx rv λPC QJ h₁ PA Pv QE QH Py=>?_))
   exact ih (by simpa using hl) Pv QE QH (rs.mono Py) λPS QI PM PN PF QT Q3 PH=>P PS QI PM PN PF QT Q3 (Py.trans PH)
inductive xj (slots:List Str):List Str->List Nat->Prop
 | nil:xj slots [] []
 | cons {x:Str} {i:Nat} {xs:List Str} {is:List Nat} (hx:slots[i]?=some x) (r:xj slots xs is):xj slots (x::xs) (i::is)
theorem xj.length_eq {xs:List Str}{is:List Nat}(h:xj slots xs is):xs.length=is.length:=by induction h with | nil=>rfl | cons _ _ ih=>simp [ih]
theorem xj.run {A:abt}{E:aab->aah->Prop}:∀{xs:List Str}{is:List Nat}(_:xj slots xs is)(D:Ce sc env){Vs:List MV}{vs:List aab}{ρ:aG}{m:Str->Option aab}{news:aO}{s:aah}{Qc:Unit->aah->Prop},vs.length=xs.length ->
  Sn α h₀ L m s.heap st φ news->Lc α slots env L m news φ ρ->dT α slots env L φ news->bg α.hB news φ Vs vs ->
  (∀Pu m' h' PV,Sn α h₀ L m' h' st φ Pu->Lc α slots env L m' Pu φ (fa ρ is Vs)->dT α slots env L φ Pu->a9 (ft α env) φ news φ Pu->Qc () { s with heap:=h',toks:=PV }) ->
  wpAny (abb α.prog α.w) A (assignInOrder (xs.map λn=>bindName env n) vs) Qc E s:=by
 intro xs is T D
 induction T with
 | nil =>
  intro Vs vs ρ m news s Qc hl S Lo O r P
  cases vs with
  | nil=>cases r; exact afz (P news m s.heap s.toks S Lo O .refl)
  | cons _ _=>cases hl
 | @cons x i xs is hx T ih =>
  intro Vs vs ρ m news s Qc hl S Lo O r P
  cases r with
  | nil=>cases hl
  | @cons V v Vs vs rv rs =>
   refine adN (wpAny_bindName (jz D S Lo O hx rv λPC QJ h₁ PA Pv QE QH Py=>?_))
   exact ih (by simpa using hl) Pv QE QH (rs.mono Py) λPS QI PM PN PF QT Q3 PH=>P PS QI PM PN PF QT Q3 (Py.trans PH)
def vO (is:List Nat)(a:TE):TS:=λρ st Q=>a ρ st λV Pt=>uV (λVs=>Vs.length=is.length/\Q .next (fa ρ is Vs) Pt) V
theorem kG.len {es:List Expr}{is:List Nat}(h:kG slots es is):es.length=is.length:=by induction h with | nil=>rfl | cons _ _ ih=>simp [ih]
theorem wB {A:abt}{E:aab->aah->Prop}{es:List Expr}{k:Nat}{p:Pos}{is:List Nat}{Vs:List MV}{v:aab}{ρ:aG}{Qc:Unit->aah->Prop}(T:kG slots es is)(C:Cf α ℓ A h₀ L)(D:Ce sc env)(S:Sn α h₀ L m s.heap st φ news)
  (Lo:Lc α slots env L m news φ ρ) (O:dT α slots env L φ news) (r:RV α.hB news φ (.tup Vs) v) (hn:Vs.length=is.length)
  (P:∀Pu m' h' PV,Sn α h₀ L m' h' st φ Pu->Lc α slots env L m' Pu φ (fa ρ is Vs)->dT α slots env L φ Pu->a9 (ft α env) φ news φ Pu->Qc () { s with heap:=h',toks:=PV }) :
  wpAny (abb α.prog α.w) A (afy (.Tuple es k p) env v) Qc E s:=by
 apply RV.t r; intro a its hh q
 have hl:=q.length
 refine ags C.hand (S.isTup C.stays hh) (by rw [(T.each env).1,T.len,<- hn,<- hl,abj]) (T.each env).2 λh₁ he=>?_
 have Pv:Sn α h₀ L m h₁ st φ news:=S.keeps λb o e=>he b o (abc (abk e)) e
 exact T.run D (s:={ s with heap:=h₁ }) (by rw [hl,hn,T.len]) Pv Lo O q P
theorem C6 {es:List Expr}{k:Nat}{TQ pos:Pos}{is:List Nat}{Qh:Expr}{a:TE}(h:aa α ℓ sc slots Qh a)(T:kG slots es is)(hs:autoParam (∀env,swapsWithSole [.Tuple es k TQ] Qh pos.line env=pure false) aI)
  (hw:∀env,env.scope=sc->swappedStores [.Tuple es k TQ] Qh env=pure none:=by rintro⟨_⟩ rfl; rfl):au α ℓ sc slots (.Assign [.Tuple es k TQ] Qh pos) (vO is a):=by
 intro A h₀ L env C D s m st φ news ρ PB Lo O Q Qc E t P
 refine Assign_Tuple (h A h₀ L env C D s m st φ news ρ PB Lo _ _ E t λV Pt Px PC v h₁ PA Pv Py PO Pw=>?_) (hs env) (hw env D.scope)
 apply PO.oT Pw; intro Vs a its hh q Pw
 exact wB T C D Pv (Lo.grow Py) (O.grow Py) (.tup hh q) Pw.1 λPS QI PM PN PF QT Q3 PH=>P .next .next _ Pt Px PS QI PM PN PF QT Q3 ((dE Py).trans PH) .next Pw.2
def c9 (is:List Nat)(a:TE):TS:=λρ st Q=>a ρ st λV Pt=>uV (λVs=>Vs.length=is.length/\Q .next (fa ρ is Vs.reverse) Pt) V
theorem cP {es:List Expr}{k:Nat}{TQ pos:Pos}{is:List Nat}{xs:List Str}{Qh:Expr}{a:TE}(h:aa α ℓ sc slots Qh a)(T:xj slots xs.reverse is)(hs:autoParam (∀env,swapsWithSole [.Tuple es k TQ] Qh pos.line env=pure false) aI)
  (hw:∀env,env.scope=sc->swappedStores [.Tuple es k TQ] Qh env=pure (some xs):=by rintro⟨_⟩ rfl; rfl):au α ℓ sc slots (.Assign [.Tuple es k TQ] Qh pos) (c9 is a):=by
 intro A h₀ L env C D s m st φ news ρ PB Lo O Q Qc E t P
 refine Assign_Tuple_swapped (names:=xs) (h A h₀ L env C D s m st φ news ρ PB Lo _ _ E t λV Pt Px PC v h₁ PA Pv Py PO Pw=>?_) (hs env) (hw env D.scope)
 apply PO.oT Pw; intro Vs b its hh q Pw
 have hn:=Pw.1
 have hl:=q.length
 have hxl:xs.length=is.length:=by have:=T.length_eq; simpa using this
 have e:xs.length=its.size:=by rw [<- abj,hl,hn,hxl]
 rw [e]
 refine unpackItems_tuple C.hand (Pv.isTup C.stays hh) λPM he=>?_
 have PF:Sn α h₀ L m PM Pt Px PC:=Pv.keeps λb o e=>he b o (abc (abk e)) e
 exact xj.run T D (s:={ s with heap:=PM,toks:=PA }) (by simp only [adb]; rw [hl,hn,hxl]) PF (Lo.grow Py) (O.grow Py) q.reverse λPS QI PM PN PF QT Q3 PH=>P .next .next _ Pt Px PS QI PM PN PF QT Q3 ((dE Py).trans PH) .next Pw.2
end
noncomputable def kE (name:Str)(V:MV):List (Str×MV)->List (Str×MV)
 | []=>[(name,V)]
 | (k,W)::r=>if k == name then (k,V)::r else (k,W)::kE name V r
theorem sH {name:Str}{V:MV}{p:Str×MV}{r:List (Str×MV)}:kE name V (p::r)=if p.1 == name then (p.1,V)::r else p::kE name V r:=rfl
theorem uW (name:Str)(V:MV)(fs:List (Str×MV)):(kE name V fs).length<=fs.length+1:=by
 induction fs with
 | nil=>exact abp _
 | cons p r ih =>
  rw [sH]
  by_cases e:(p.1 == name)=true
  ·rw [if_pos e]; exact agG _
  ·rw [if_neg e]; exact Nat.succ_le_succ ih
theorem IU {name:Str}{V:MV}{fs:List (Str×MV)}{p:Str×MV}(h:p∈kE name V fs):p.1=name\/∃q∈fs,q.1=p.1:=by
 induction fs with
 | nil=>exact .inl (by rw [cr h])
 | cons q r ih =>
  rw [sH] at h
  by_cases hk:(q.1 == name)=true
  ·rw [if_pos hk] at h
   rcases bM h with rfl | h
   ·exact .inl (eq_of_beq hk)
   ·exact .inr ⟨p,.tail _ h,rfl⟩
  ·rw [if_neg hk] at h
   rcases bM h with rfl | h
   ·exact .inr ⟨_,.head _,rfl⟩
   ·rcases ih h with e | ⟨q,hq,e⟩
    ·exact .inl e
    ·exact .inr ⟨q,.tail _ hq,e⟩
section
variable {α:bC}{ℓ:Nat}{sc:abJ}{slots:List Str}{h₀ h h':Heap}{L:Addr}{m:Str->Option aab}{s:aah}{st:MS}{φ:bk}{news:aO}{env:Env}
theorem ko.put {P:aiZ}{hB:Heap}{name:Str}{t:Tok}{V:MV}{v:aab}{fs:List (Str×MV)}{es:List adB}(r:ko P hB news φ fs es)(h:RV hB news φ V v):ko P hB news φ (kE name V fs) (putL name (adz P name) (.str name t) v es):=by
 induction r with
 | nil=>exact .cons h .nil
 | @cons k tk W w fs es hw r ih =>
  rw [sH]
  unfold putL
  have e:(agV k tk).isStr name=(k == name):=rfl
  rw [show (DictEntry.mk (adz P k) (agV k tk) w).key.isStr name=(k == name) from e]
  split
  ·exact .cons h r
  ·exact .cons hw ih
theorem ko.length {P:aiZ}{hB:Heap}{fs:List (Str×MV)}{es:List adB}(r:ko P hB news φ fs es):es.length=fs.length:=by
 induction r with
 | nil=>rfl
 | cons _ _ ih=>simp [ih]
structure du (α:bC)(C:Addr)(name:Str):Prop where
 set:abX α.K (.ref C) "__setattr__"=some (some (.builtin "object.__setattr__"))
 plain:aiL α.K C=true
 taker:takerIn α.K C name=some none
 dict:ahN α.K C=true
 fld:name∈α.flds C
def xy (C:Addr)(name:Str)(o:TE)(ρ:aG)(Q:MF->aG->MS->Prop):MV->MS->Prop:=λW Pt=>o ρ Pt λV Pz=>hO (λi=>w8 C (λfs=>fs.length < 100/\Q .next ρ (Pz.set i (.inst C (kE name W fs)))) Pz[i]?) V
def dk (C:Addr)(name:Str)(o val:TE):TS:=λρ st Q=>val ρ st (xy C name o ρ Q)
theorem b7 {o val:Expr}{name:Str}{tp pos:Pos}{C:Addr}{to tv:TE}(ho:aa α ℓ sc slots o to)(hv:aa α ℓ sc slots val tv)(hc:du α C name)(hs:autoParam (∀env,aen val (some (.Attribute o name tp)) pos.line env=pure false) aI) :
  au α ℓ sc slots (.Assign [.Attribute o name tp] val pos) (dk C name to tv):=by
 intro A h₀ L env Cx D s m st φ news ρ PB Lo O Q Qc E t P
 refine afO (hv A h₀ L env Cx D s m st φ news ρ PB Lo _ _ E t λW Pt Px PC w h₁ PA Pv Py PO Pw=>?_) (hs env)
 refine ho A h₀ L env Cx D _ m Pt Px PC ρ Pv (Lo.grow Py) _ _ E Pw λV Pz PE PS v PM PN PF PH P5 PU=>?_
 have rW:=PO.mono PH
 apply P5.oR PU; intro i a d PP PU
 refine wT PU λfs hi PU=>?_
 have PL:=PU.1
 refine bv λGG PD=>?_
 obtain⟨hm,⟨V8,hl⟩,es,n,hd,hF⟩:=PF.W.inst hi PP
 refine PD ?_
 have SD:∀its,dictOf es n≠bz its:=Hi
 have Ra:(PySem.W.getL name es).isSome=true:=by
  have:=hF.look (name:=name)
  cases q:fs.lookup name with
  | none=>rw [q] at this; rw [this]; rfl
  | some V=>rw [q] at this; obtain⟨v,e,_⟩:=this; rw [e]; rfl
 refine set_dict (K:=α.K) (ox:=agE C d) (es:=es) (n:=n) PF.F Cx.X PF.N (ahz PF.N hm hd) rfl hc.set hc.plain hc.taker hc.dict Ra rfl (LN PF.W.nodup hd) ?_ λP2 QO QM=>?_
 ·have:(kE name W fs).length=(putL name (adz α.w.params name) (.str name (PN+1)) w es).length:=(ko.length (hF.put (t:=PN+1) rW)).symm
  have q:=uW name W fs
  show (putL _ _ _ _ _).length<=1000
  rw [<- this]; walk_at "o"
 ·have ff:=iC PP
  have Qe:a9 [α.tab] PE PS PE (upd PS d (dictOf (putL name (adz α.w.params name) (.str name (PN+1)) w es) (putN name es n))):=.upd PF.W.nodup hd SD (.inl ff.2)
  have P6:a≠d:=λe=>by
   subst e
   have:=eJ PF.W.nodup hm hd
   have:=congrArg aiU this
   simp at this
  have acV:Wd α (Pz.set i (.inst C (kE name W fs))) PE (upd PS d (dictOf (putL name (adz α.w.params name) (.str name (PN+1)) w es) (putN name es n))):=
   PF.W.turn hi PP (.inr rfl) hd SD Di ⟨dR hm P6,⟨λp hp=>(IU hp).elim (λe=>e ▸ hc.fld) λ⟨q,hq,e⟩=>e ▸ V8 q hq,aaj (uW _ _ _) PL⟩,_,_,ip hd,(hF.put rW).mono (aaf _) Qe.tups⟩
  have g:=(Py.trans PH).trans Qe
  exact P .next .next ρ _ PE _ m P2 _ ⟨QO,QM,acV⟩ (Lo.grow g) (O.grow g) (dE g) .next PU.2
def Fs (o i:TE)(ρ:aG)(Q:MF->aG->MS->Prop):MV->MS->Prop:=λW Pt=>o ρ Pt λV Pz=>i ρ Pz λJ Qd=>hO (λk=>jK (λj=>cD Qd[k]? λxs=>0<=j/\j < xs.length/\j < 2 ^ 63/\Q .next ρ (Qd.set k (.list (xs.set j.toNat W)))) J) V
def AB (o i val:TE):TS:=λρ st Q=>val ρ st (Fs o i ρ Q)
theorem zZ {o i val:Expr}{tp pos:Pos}{to ti tv:TE}(ho:aa α ℓ sc slots o to)(hi:aa α ℓ sc slots i ti)(hv:aa α ℓ sc slots val tv)(hs:autoParam (∀env,aen val (some (.Subscript o i tp)) pos.line env=pure false) aI) :
  au α ℓ sc slots (.Assign [.Subscript o i tp] val pos) (AB to ti tv):=by
 intro A h₀ L env Cx D s m st φ news ρ PB Lo O Q Qc E t P
 refine wpAny_Assign_Subscript (hv A h₀ L env Cx D s m st φ news ρ PB Lo _ _ E t λW Pt Px PC w h₁ PA Pv Py PO Pw=>?_) (hs env)
 refine ho A h₀ L env Cx D _ m Pt Px PC ρ Pv (Lo.grow Py) _ _ E Pw λV Pz PE PS v PM PN PF PH P5 PU=>?_
 refine hi A h₀ L env Cx D _ m Pz PE PS ρ PF ((Lo.grow Py).grow PH) _ _ E PU λJ Qd QC Qq j P2 P7 P3 Qe Ru Qg=>?_
 have rW:=(PO.mono PH).mono Qe
 have rV:=P5.mono Qe
 apply rV.oR Qg; intro k a d PP Qg; apply Ru.oI Qg; intro j tj Qg
 refine bZ Qg λxs hk Qg=>?_
 refine P3.W.listC hk PP λits n PP hm q=>?_
 have ST:=P3.N.get hm
 have hsz:its.size=xs.length:=by rw [<- abj,q.length]
 refine ki_setAt ST Qg.1 Qg.2.2.1 (by rw [hsz]; exact Qg.2.1) ?_
 have e:ad4 (·.setIfInBounds j.toNat w) (bV its n)=bV (its.setIfInBounds j.toNat w) n:=by simp [ad4]
 have UK:adf a P2 (P2.update a (ad4 (·.setIfInBounds j.toNat w))):=adp ..
 obtain⟨R6,Rn⟩:=P3.setList (xs':=xs.set j.toNat W) (its':=its.setIfInBounds j.toNat w) (n':=n) hk PP hm UK (by rw [adc _ ST (by rw [e]; rfl),e]) (by rw [Array.toList_setIfInBounds]; exact q.set _ rW)
 have g:=((Py.trans PH).trans Qe).trans Rn
 exact P .next .next ρ _ QC _ m _ P7 R6 (Lo.grow g) (O.grow g) (dE g) .next Qg.2.2.2
noncomputable def d9 (c:TB)(b:TS):Nat->TS
 | 0=>λ_ _ _=>False
 | n+1=>λρ st Q=>c ρ st λx Pt=>if x then b ρ Pt λf Qk Pz=>(match f with
  | .next=>d9 c b n Qk Pz Q
  | .cont=>d9 c b n Qk Pz Q
  | .brk=>Q .next Qk Pz
  | .ret V=>Q (.ret V) Qk Pz) else Q .next ρ Pt
def f8 (c:TB)(b:TS):TS:=λρ st Q=>∃n,d9 c b n ρ st Q
def NX (α:bC)(slots:List Str)(env:Env)(h₀:Heap)(L:Addr)(s:aah)(φ:bk)(news:aO)(T:Nat->aG->MS->Prop)(n:Nat)(s':aah):Prop:=
 ∀P:aah->Prop,(∀QJ Pt Px PC P9 h₁ PA,Sn α h₀ L QJ h₁ Pt Px PC->Lc α slots env L QJ PC Px P9->dT α slots env L Px PC->a9 (ft α env) φ news Px PC->T n P9 Pt->P { s with heap:=h₁,toks:=PA })->P s'
theorem eT {RB:Expr}{body:List Stmt}{pos:Pos}{c:TB}{b:TS}(hc:aJ α ℓ sc slots RB c)(hb:ah α ℓ sc slots body b):au α ℓ sc slots (.While RB body [] pos) (f8 c b):=by
 intro A h₀ L env C D s m st φ news ρ PB Lo O Q Qc E t P
 obtain⟨n,t⟩:=t
 refine wpAny_While (codeAny_whileLoop (NX α slots env h₀ L s φ news λn ρ st=>d9 c b n ρ st Q) ?_ n λ_ k=>k m st φ news ρ s.heap s.toks PB Lo O .refl t)
 intro n s' hI
 apply hI; intro QJ Pt Px PC P9 h₁ PA Pv QE QH Py Pw
 cases n with
 | zero=>exact Pw.elim
 | succ n =>
  refine hc A h₀ L env C D _ QJ Pt Px PC P9 Pv QE _ _ _ Pw λx Pz PE PS PM PN PF PH PU=>?_
  cases x with
  | true =>
   refine hb A h₀ L env C D _ QJ Pz PE PS P9 PF (QE.grow PH) (QH.grow PH) _ _ _ PU λf fc Tq Qd QC Qq UB P2 P7 P3 SH Sv Qe Ru Qg=>?_
   have g:=(Py.trans (dE PH)).trans Qe
   cases Ru with
   | next=>exact⟨n,abv _,λ_ k=>k UB Qd QC Qq Tq P2 P7 P3 SH Sv g Qg⟩
   | cont=>exact⟨n,abv _,λ_ k=>k UB Qd QC Qq Tq P2 P7 P3 SH Sv g Qg⟩
   | brk=>exact P .next .next Tq Qd QC Qq UB P2 P7 P3 SH Sv g .next Qg
   | ret r=>exact P _ _ Tq Qd QC Qq UB P2 P7 P3 SH Sv g (.ret r) Qg
  | false =>
   exact adU (P .next .next P9 Pz PE PS QJ PM PN PF (QE.grow PH) (QH.grow PH) (Py.trans (dE PH)) .next PU)
end
def Pl (o:aO):Prop:=∀p∈o,(∀its,p.2≠bz its)/\(∀ps,p.2≠adk ps)/\¬pR p.2
theorem Pl.noT {o:aO}(h:Pl o):∀p∈o,∀its,p.2≠bz its:=λp hp=>(h p hp).1
theorem Pl.noTab {o:aO}(h:Pl o):∀p∈o,∀ps,p.2≠adk ps:=λp hp=>(h p hp).2.1
theorem Pl.noCo {o:aO}(h:Pl o):∀p∈o,¬pR p.2:=λp hp=>(h p hp).2.2
theorem qB {p:Addr×Obj}{c:String}(h1:p.2.cls=.type c)(h2:c≠"tuple") (h3:autoParam (c≠"code") aK):(∀its,p.2≠bz its)/\(∀ps,p.2≠adk ps)/\¬pR p.2:=
 ⟨λits e=>by rw [e] at h1; exact h2 (ahA h1).symm,λps e=>(by rw [e] at h1; cases h1),λq=>h3 (ahA (h1.symm.trans q.1))⟩
theorem lg {p:Addr×Obj}{es:Array adB}{ep:Nat}(h1:p.2.data=.dict es ep):(∀its,p.2≠bz its)/\(∀ps,p.2≠adk ps)/\¬pR p.2:=
 ⟨λits e=>(by rw [e] at h1; cases h1),λps e=>(by rw [e] at h1; cases h1),λ⟨_,vs,e⟩=>(by rw [h1] at e; cases e)⟩
section
variable {α:bC}{ℓ:Nat}{sc:abJ}{slots:List Str}{h₀ h h':Heap}{L:Addr}{m:Str->Option aab}{s:aah}{st:MS}{φ PG:bk}{o o' news Pu:aO}{env:Env}{X:List Addr}
theorem OR.mem {a d:Addr}{x:MO}(hk:a∈bq φ/\d∈bq φ)(hs:∀p∈news,p.1∈bq φ->p∈Pu)(ht:∀a its,(a,bz its)∈news->(a,bz its)∈Pu)(r:OR α news φ a d x):OR α Pu φ a d x:=by
 cases x with
 | list xs=>obtain⟨e,its,n,hm,q⟩:=r; exact⟨e,its,n,hs _ hm hk.1,bg.mono' (aaf _) ht q⟩
 | inst c fs=>obtain⟨hm,hf,es,n,hd,q⟩:=r; exact⟨hs _ hm hk.1,hf,es,n,hs _ hd hk.2,q.mono (aaf _) ht⟩
 | dict fs ep=>obtain⟨e,e2,o,kvs,hm,hd,q⟩:=r; exact⟨e,e2,o,kvs,hs _ hm hk.1,hd,q.mono (aaf _) ht⟩
theorem Wd.mem (W:Wd α st φ news)(hn:(Pu.map (·.1)).Nodup)(hs:∀p∈news,p.1∈bq φ->p∈Pu)(ht:∀a its,(a,bz its)∈news->(a,bz its)∈Pu)(hb:∀ps,(α.tab,adk ps)∈news->(α.tab,adk ps)∈Pu)(hc:∀c oc,(c,oc)∈news->pR oc->(c,oc)∈Pu):Wd α st φ Pu where
 nodup:=hn
 len:=W.len
 apart:=W.apart
 objs:=λi x hi=>let ⟨a,d,e,r⟩:=W.objs i x hi; ⟨a,d,e,r.mem (iC e) hs ht⟩
 tabs:=let ⟨ps,hp,g,k⟩:=W.tabs; ⟨ps,hb _ hp,g,λc h=>let ⟨oc,h1,h2,h3,h4⟩:=k c h; ⟨oc,hc _ _ h1 h3,h2,h3,h4⟩⟩
theorem Sn.own (S:Sn α h₀ L m h st φ (o++news))(pl:Pl o)(hf:∀p∈o,p.1 ∉ bq φ)(hk:∀b z,b ∉ o.map (·.1)->h.get? b=some z->h'.get? b=some z)
  (ho:∀p∈o',h'.get? p.1=some p.2) (hn:(o'.map (·.1)).Nodup) (hs:∀p∈o',p.1∈o.map (·.1)):Sn α h₀ L m h' st φ (o'++news):=by
 have nd:=S.W.nodup
 rw [abB,abO] at nd
 obtain⟨nd1,WS,Yp⟩:=nd
 have Wn:∀p∈news,p.1 ∉ o.map (·.1):=λp hp hm=>Yp _ hm _ (ed ⟨p,hp,rfl⟩) rfl
 have hL:L ∉ o.map (·.1):=λhm=>by
  obtain⟨p,hp,e⟩:=c8 hm
  exact (S.N p (aap _ hp)).2.1 e
 have hB:∀b z,h₀.get? b=some z->b ∉ o.map (·.1):=λb z e hm=>by
  obtain⟨p,hp,e'⟩:=c8 hm
  have:=(S.N p (aap _ hp)).2.2
  have e'':p.1=b:=e'
  rw [e'',e] at this; cases this
 refine⟨⟨S.F.ns.at' λz e=>hk L z hL e,λb z e=>hk b z (hB b z e) (S.F.keep b z e),S.F.above⟩,λp hp=>?_,S.W.mem ?_ (λp hp hq=>?_) (λa its hm=>?_) (λps hm=>?_) λc oc hm Uk=>?_⟩
 ·rcases dW hp with hp | hp
  ·obtain⟨q,hq,e⟩:=c8 (hs p hp)
   have:=(S.N q (aap _ hq)).2
   have e':q.1=p.1:=e
   rw [e'] at this
   exact⟨ho p hp,this⟩
  ·have:=S.N p (aas _ hp)
   exact⟨hk _ _ (Wn p hp) this.1,this.2⟩
 ·rw [abB,abO]
  refine⟨hn,WS,λa ha b hb e=>?_⟩
  obtain⟨p,hp,rfl⟩:=c8 ha
  exact Yp _ (hs p hp) _ hb e
 ·rcases dW hp with hp | hp
  ·exact absurd hq (hf p hp)
  ·exact aas _ hp
 ·rcases dW hm with hm | hm
  ·exact absurd rfl (pl.noT _ hm its)
  ·exact aas _ hm
 ·rcases dW hm with hm | hm
  ·exact absurd rfl (pl.noTab _ hm ps)
  ·exact aas _ hm
 ·rcases dW hm with hm | hm
  ·exact absurd Uk (pl.noCo _ hm)
  ·exact aas _ hm
theorem Sn.same (S:Sn α h₀ L m h st φ news)(hn:(Pu.map (·.1)).Nodup)(h1:∀p∈news,p∈Pu)(h2:∀p∈Pu,p∈news):Sn α h₀ L m h st φ Pu:=
 ⟨S.F,λp h=>S.N p (h2 p h),S.W.mem hn (λp h _=>h1 p h) (λa its h=>h1 _ h) (λps h=>h1 _ h) λc oc h _=>h1 _ h⟩
noncomputable abbrev oj (o:aO)(l:aO):aO:=l.filter λp=>!(o.map (·.1)).contains p.1
theorem gw {l:aO}{p:Addr×Obj}:p∈oj o l↔p∈l/\p.1 ∉ o.map (·.1):=by
 unfold oj
 rw [adg]
 simp [List.contains_eq_mem]
theorem Sn.split (S:Sn α h₀ L m h st PG Pu)(g:a9 X φ (o++news) PG Pu)(pl:Pl o)(nd:(((o++news).map (·.1)).Nodup))(hf:∀p∈o,p.1 ∉ bq φ)(hX:∀p∈o,p.1 ∉ X) :
  Sn α h₀ L m h st PG (o++oj o Pu)/\a9 X φ news PG (oj o Pu)/\(∀p∈o,p.1 ∉ bq PG)/\(∀a its,(a,bz its)∈Pu->(a,bz its)∈oj o Pu):=by
 have kept:∀p∈o,p∈Pu:=λp hp=>g.kept p (aap _ hp) (hf p hp) (hX p hp)
 have nd':=nd
 rw [abB,abO] at nd
 obtain⟨nd1,WS,Yp⟩:=nd
 have Wn:∀p∈news,p.1 ∉ o.map (·.1):=λp hp hm=>Yp _ hm _ (ed ⟨p,hp,rfl⟩) rfl
 have tup:∀a its,(a,bz its)∈Pu->(a,bz its)∈oj o Pu:=λa its hm=>gw.mpr ⟨hm,λhq=>by
  obtain⟨p,hp,e⟩:=c8 hq
  have e':p.1=a:=e
  subst e'
  exact pl.noT p hp its (eJ S.W.nodup (kept p hp) hm)⟩
 refine⟨S.same ?_ (λp hp=>?_) (λp hp=>?_),⟨g.pre,λa its hm=>tup a its (g.tups a its (aas _ hm)),λp hp h1 h2=>gw.mpr ⟨g.kept p (aas _ hp) h1 h2,Wn p hp⟩,λp hp=>?_,λp hp=>g.fresh p (aas _ hp)⟩,λp hp q=>hf p hp (g.fresh p (aap _ hp) q),tup⟩
 ·rw [abB,abO]
  refine⟨nd1,(List.filter_sublist.map _).nodup S.W.nodup,λa ha b hb e=>?_⟩
  obtain⟨p,hp,rfl⟩:=c8 hb
  exact (gw.mp hp).2 (e ▸ ha)
 ·by_cases hm:p.1∈o.map (·.1)
  ·obtain⟨q,hq,e⟩:=c8 hm
   have h1:=kept q hq
   have e':q.1=p.1:=e
   have:q.2=p.2:=eJ S.W.nodup (a:=p.1) (e' ▸ h1) hp
   exact aap _ (by rw [show p=q from Prod.ext e'.symm this.symm]; exact hq)
  ·exact aas _ (gw.mpr ⟨hp,hm⟩)
 ·rcases dW hp with hp | hp
  ·exact kept p hp
  ·exact (gw.mp hp).1
 ·obtain⟨z,hz⟩:=g.keys p (aas _ hp)
  exact⟨z,gw.mpr ⟨hz,Wn p hp⟩⟩
end
structure qV (α:bC)(A:abt)(h₀:Heap)(L:Addr)(Up:bk)(P8:Expr)(I:Addr)(xs:List MV)(G:MS->Prop)(keys:List Addr)(own:Nat->aO->Prop):Prop where
 keys:∀i o,own i o->o.map (·.1)=keys
 pl:∀i o,own i o->Pl o
 item:∀i x,xs[i]?=some x->∀(s:aah) m st φ o news (Q:aab->aah->Prop) E,Sn α h₀ L m s.heap st φ (o++news)->G st->own i o->Up <+: φ->(∀p∈o,p.1 ∉ bq φ) ->
  (∀v h' PV o' n',Sn α h₀ L m h' st φ (o'++n')->(∀p∈news,p∈n')->own (i+1) o'->RV α.hB n' φ x v->Q v { s with heap:=h',toks:=PV }) ->
  wpAny (abb α.prog α.w) A (afA (.ref I)) (λr P0=>∃v,r=some v/\wpAny (abb α.prog α.w) A (ab5 P8 (.ref I) v) (λ_ Qo=>Q v Qo) E P0) E s
 self:∀(s:aah) m st φ o news (Q:aab->aah->Prop) E,Sn α h₀ L m s.heap st φ (o++news)->own 0 o->Q (.ref I) s->wpAny (abb α.prog α.w) A (ajh (.ref I)) Q E s
 done:∀(s:aah) m st φ o news (Q:Option aab->aah->Prop) E,Sn α h₀ L m s.heap st φ (o++news)->G st->own xs.length o->Up <+: φ->(∀p∈o,p.1 ∉ bq φ) ->
  (∀h' PV,Sn α h₀ L m h' st φ news->Q none { s with heap:=h',toks:=PV })->wpAny (abb α.prog α.w) A (afA (.ref I)) Q E s
abbrev TI:=aG->MS->(List MV->(MS->Prop)->MS->Prop)->Prop
section
variable (α:bC)
def NA (A:abt)(P8:Expr)(h₀:Heap)(L:Addr)(m:Str->Option aab)(s:aah)(φ:bk)(news:aO)(Q:List MV->(MS->Prop)->MS->Prop)(Qc:aab->aah->Prop):Prop:=
 ∀I xs G keys own o Ps PG Pu h' PV,Sn α h₀ L m h' Ps PG (o++Pu)->a9 [α.tab] φ news PG Pu->qV α A h₀ L PG P8 I xs G keys own->own 0 o->(∀p∈o,p.1 ∉ bq PG)->I∈keys->Q xs G Ps->Qc (.ref I) { s with heap:=h',toks:=PV }
def ch (ℓ:Nat)(sc:abJ)(slots:List Str)(P8 e:Expr)(T:TI):Prop:=
 ∀A h₀ L env,Cf α ℓ A h₀ L->Ce sc env->∀s m st φ news ρ,Sn α h₀ L m s.heap st φ news->Lc α slots env L m news φ ρ->∀Q Qc E,T ρ st Q->NA α A P8 h₀ L m s φ news Q Qc ->
  wpAny (abb α.prog α.w) A (eval e env) (λxv P0=>wpAny (abb α.prog α.w) A (ajh xv) Qc E P0) E s
abbrev TG:=MV->aG->(aG->Prop)->Prop
def gk (ℓ:Nat)(sc:abJ)(slots:List Str)(P8:Expr)(T:TG):Prop:=
 ∀A h₀ L env,Cf α ℓ A h₀ L->Ce sc env->∀(s:aah) m st φ news ρ V v,Sn α h₀ L m s.heap st φ news->Lc α slots env L m news φ ρ->dT α slots env L φ news->RV α.hB news φ V v->∀K Qc E,T V ρ K ->
  (∀Rs Pu m' h' PV,Sn α h₀ L m' h' st φ Pu->Lc α slots env L m' Pu φ Rs->dT α slots env L φ Pu->a9 (ft α env) φ news φ Pu->K Rs->Qc () { s with heap:=h',toks:=PV }) ->
  wpAny (abb α.prog α.w) A (afy P8 env v) Qc E s
end
section
variable {α:bC}{ℓ:Nat}{sc:abJ}{slots:List Str}
def b8 (i:Nat):TG:=λV ρ K=>K (ρ.set i (some V))
def ix (is:List Nat):TG:=λV ρ K=>uV (λVs=>Vs.length=is.length/\K (fa ρ is Vs)) V
theorem gk.name {x:Str}{p:Pos}{i:Nat}(hx:autoParam (slots[i]?=some x) aR):gk α ℓ sc slots (.Name x p) (b8 i):=by
 intro A h₀ L env C D s m st φ news ρ V v S Lo O r K Qc E t P
 exact ab1 (jz D S Lo O hx r λPC QJ h₁ PA Pv QE QH Py=>P _ PC QJ h₁ PA Pv QE QH Py t)
theorem qJ {es:List Expr}{k:Nat}{p:Pos}{is:List Nat}(T:kG slots es is):gk α ℓ sc slots (.Tuple es k p) (ix is):=by
 intro A h₀ L env C D s m st φ news ρ V v S Lo O r K Qc E t P
 apply r.oT t; intro Vs a its hh q t
 exact wB T C D S Lo O (.tup hh q) t.1 λPC QJ h₁ PA Pv QE QH Py=>P _ PC QJ h₁ PA Pv QE QH Py t.2
noncomputable def ew (G:MS->Prop)(tg:TG)(b:TS):List MV->TS
 | []=>λρ st Q=>G st/\Q .next ρ st
 | x::xs=>λρ st Q=>G st/\tg x ρ λP9=>b P9 st λf Qk Pz=>match f with
  | .next=>ew G tg b xs Qk Pz Q
  | .cont=>ew G tg b xs Qk Pz Q
  | .brk=>Q .next Qk Pz
  | .ret V=>Q (.ret V) Qk Pz
def eS (T:TI)(tg:TG)(b:TS):TS:=λρ st Q=>T ρ st λxs G Pt=>ew G tg b xs ρ Pt Q
def MP (α:bC)(slots:List Str)(env:Env)(h₀:Heap)(L:Addr)(s:aah)(φ:bk)(news:aO)(Px:bk)(N:Nat)(own:Nat->aO->Prop)(T:Nat->aG->MS->Prop)(k:Nat)(s':aah):Prop:=
 ∀P:Nat->aah->Prop,(∀i o m st PE n ρ h tk,i<=N->Sn α h₀ L m h st PE (o++n)->own i o->(∀p∈o,p.1 ∉ bq PE)->Lc α slots env L m n PE ρ->dT α slots env L PE n->Px <+: PE->a9 (ft α env) φ news PE n->T i ρ st->P (N+1 - i) { s with heap:=h,toks:=tk })->P k s'
theorem Lc.off {o n:aO}{φ:bk}{env:Env}{h₀ h:Heap}{L:Addr}{m:Str->Option aab}{st:MS}{ρ:aG}(Lo:Lc α slots env L m n φ ρ)(O:dT α slots env L φ n)(S:Sn α h₀ L m h st φ n)(tup:∀a its,(a,bz its)∈n->(a,bz its)∈oj o n)(off:∀p∈env.cells,p.2 ∉ o.map (·.1)):Lc α slots env L m (oj o n) φ ρ/\dT α slots env L φ (oj o n):=by
 refine⟨λj y V hj hV=>?_,O.nodup,O.loc,O.kinds,λy hy=>?_,O.inj,λp hp=>?_⟩
 ·obtain⟨u,hl,hr⟩:=Lo j y V hj hV
  refine⟨u,?_,hr.mono' (aaf _) tup⟩
  cases hl with
  | fr a1 a2 a3=>exact .fr a1 a2 a3
  | ns _ _ _ o _ _ hm _=>exact absurd O.loc λe=>(S.N _ hm).2.1 e
  | cell a1 c o hc a2 a3 hm q=>exact .cell a1 c o hc a2 a3 (gw.mpr ⟨hm,off _ (dO hc)⟩) q
 ·obtain⟨c,o,R1,hc,a2,a3,hm,hd⟩:=O.cells y hy
  exact⟨c,o,R1,hc,a2,a3,gw.mpr ⟨hm,off _ (dO hc)⟩,hd⟩
 ·obtain⟨z,hz⟩:=O.all p hp
  exact⟨z,gw.mpr ⟨hz,off p hp⟩⟩
theorem zQ {prog:ade}{w:aaq}{A:abt}{env:Env}{Qm:Expr}{it:aab}{body:List Stmt}{s:aah}{Qc:Flow->aah->Prop}{E:aab->aah->Prop}(I:Nat->aah->Prop)
  (turn:∀n s (KF:Flow->aah->Prop) (E':aab->aah->Prop),(∀s',(∃m,m < n/\I m s')->KF .next s'/\KF .cont s')->(∀s',Qc .next s'->KF .brk s')->(∀v s',Qc (.ret v) s'->KF (.ret v) s')->I n s ->
   wpAny (abb prog w) A (afA it) (λr P0=>match r with
    | none=>wpAny (abb prog w) A (execs [] env) (λf Qu=>Qc f Qu) E' P0
    | some v=>wpAny (abb prog w) A (ab5 Qm it v) (λ_ Ry=>wpAny (abb prog w) A (afy Qm env v) (λ_ Qo=>wpAny (abb prog w) A (execs body env) KF E' Qo) E' Ry) E' P0) E' s)
  (n:Nat) (h:I n s):adx (abb prog w) A (.forLoop Qm it body [] env) (λr s'=>match r with | .ok f=>Qc f s' | .error e=>cameBackBy (abb prog w) A env E e s') s:=
 codeAny_forLoop_any I (λn s hI=>turn n s (λf Qu=>match f with
  | .next | .cont=>∃m,m < n/\I m Qu
  | .brk=>Qc .next Qu
  | .ret v=>Qc (.ret v) Qu) _ (λs' h=>⟨h,h⟩) (λs' h=>h) (λv s' h=>h) hI) n h
theorem dn {Qm iter:Expr}{body:List Stmt}{pos:Pos}{T:TI}{tg:TG}{b:TS}(hi:ch α ℓ sc slots Qm iter T)(ht:gk α ℓ sc slots Qm tg)(hb:ah α ℓ sc slots body b)
  (hs:autoParam (∀env x,aes iter env x=pure x) aI):au α ℓ sc slots (.For Qm iter body [] pos) (eS T tg b):=by
 intro A h₀ L env C D s m st φ news ρ PB Lo O Q Qc E t P
 refine wpAny_For (hi A h₀ L env C D s m st φ news ρ PB Lo _ _ E t λI xs G keys own o Pt Px PC h₁ PA Pv Py W Qy U1 hI Pw=>?_) (hs env)
 have QH:=O.grow Py
 have Wr:=Pv.W.nodup
 have kX:∀k∈keys,k ∉ ft α env:=λk hk hx=>by
  rw [<- W.keys 0 o Qy] at hk
  obtain⟨p,hp,rfl⟩:=c8 hk
  rcases bM hx with hx | hx
  ·obtain⟨ps,Su,_⟩:=Pv.W.tabs
   exact (W.pl 0 o Qy).noTab p hp ps (eJ Wr (a:=p.1) (aap _ hp) (hx ▸ Su))
  ·obtain⟨q,hq,e⟩:=c8 hx
   obtain⟨z,hz⟩:=QH.all q hq
   rw [abB,abO] at Wr
   exact Wr.2.2 _ (ed ⟨p,hp,rfl⟩) _ (ed ⟨_,hz,rfl⟩) e.symm
 generalize hInv:MP α slots env h₀ L s φ news Px xs.length own (λi ρ st=>ew G tg b (xs.drop i) ρ st Q)=Inv
 refine zQ Inv ?_ (xs.length+1) (hInv ▸ λ_ k=>k 0 o m Pt Px PC ρ h₁ PA (abP _) Pv Qy U1 (Lo.grow Py) QH (aaf _) (dE Py) Pw)
 intro k s' KF E' kN kB kR QA
 rw [<- hInv] at QA
 revert kN
 apply QA; intro i Rg QI Pz PE PS Qk PM PN hi PF Rb VP QT Q3 VK PH PU kN
 by_cases PR:i < xs.length
 ·have hx:xs[i]?=some xs[i]:=aa9 PR
  rw [ab8 PR] at PU
  obtain⟨hG,PU⟩:=PU
  refine abR (W.item i _ hx _ QI Pz PE Rg PS (λv Ry=>wpAny (abb α.prog α.w) A (afy Qm env v) (λ_ Qo=>wpAny (abb α.prog α.w) A (execs body env) KF E' Qo) E' Ry) E' PF hG Rb VK VP λv P2 P7 UC Qq P3 Vr Rc rv=>?_) (λr P0 hr=>?_) λ_ _ e=>e
  ·have hk3:UC.map (·.1)=Rg.map (·.1):=(W.keys _ _ Rc).trans (W.keys _ _ Rb).symm
   have Y8:∀p∈UC,p.1 ∉ bq PE:=λp hp=>by
    have:p.1∈Rg.map (·.1):=hk3 ▸ ed ⟨p,hp,rfl⟩
    obtain⟨q,hq,e⟩:=c8 this
    exact e ▸ VP q hq
   have aaF:∀p∈UC,p.1 ∉ ft α env:=λp hp=>kX _ (W.keys _ _ Rc ▸ ed ⟨p,hp,rfl⟩)
   have ga:a9 [α.tab] PE PS PE Qq:=.led Vr
   have gb:a9 [α.tab] PE Qq PE (UC++Qq):=.led λp hp=>aas _ hp
   have gab:=ga.trans gb
   refine ht A h₀ L env C D _ QI Pz PE (UC++Qq) Qk _ v P3 (QT.grow gab) (Q3.grow gab) (rv.mono gb) _ _ _ PU λaaU VU XE QN Sl R6 WI U2 Rn XI=>?_
   refine hb A h₀ L env C D _ XE Pz PE VU aaU R6 WI U2 _ _ _ XI λf fc Q0 Sj Ts Vg XH Qv RJ RO Wx XD SM VI Rh=>?_
   have g45:=Rn.trans SM
   obtain⟨Vh,Ss,ZJ,aae⟩:=RO.split g45 (W.pl _ _ Rc) P3.W.nodup Y8 aaF
   have acQ:=(PH.trans (dE ga)).trans Ss
   obtain⟨back,aaV⟩:=Wx.off XD RO aae λp hp hq=>by
    rw [W.keys _ _ Rc] at hq
    exact kX p.2 hq (.tail _ (ed ⟨_,hp,rfl⟩))
   have YY:a9 (ft α env) φ news Ts Vg:=((PH.trans (dE gab)).trans g45)
   have QK:ew G tg b (xs.drop (i+1)) Q0 Sj Q->∃m,m < xs.length+1 - i/\Inv m { s with heap:=Qv,toks:=RJ }:=λt=>⟨xs.length+1 - (i+1),aeN (abK PR) (abv i),hInv ▸ λ_ k=>k (i+1) UC XH Sj Ts _ Q0 Qv RJ PR Vh Rc ZJ back aaV (VK.trans Ss.pre) acQ t⟩
   cases VI with
   | next=>exact (kN _ (QK Rh)).1
   | cont=>exact (kN _ (QK Rh)).2
   | brk=>exact kB _ (P .next .next Q0 Sj Ts Vg XH Qv RJ RO Wx XD YY .next Rh)
   | ret r=>exact kR _ _ (P _ _ Q0 Sj Ts Vg XH Qv RJ RO Wx XD YY (.ret r) Rh)
  ·obtain⟨v,rfl,h⟩:=hr
   exact h
 ·have QX:i=xs.length:=by walk_at "o"
  subst QX
  rw [agW] at PU
  exact W.done _ QI Pz PE Rg PS _ _ PF PU.1 Rb VK VP λP2 P7 P3=>adU (P .next .next Qk Pz PE PS QI P2 P7 P3 QT Q3 PH .next PU.2)
end
section
variable {α:bC}{ℓ:Nat}{sc:abJ}{slots:List Str}{h₀ h h':Heap}{L:Addr}{m:Str->Option aab}{s:aah}{st:MS}{φ PG:bk}{o o' news Pu:aO}{env:Env}{X:List Addr}{P8:Expr}
abbrev own1 (I:Addr)(IsO:Nat->Obj->Prop):Nat->aO->Prop:=λi o=>∃z,o=[(I,z)]/\IsO i z
theorem Sn.own1 {I:Addr}{z z':Obj}(S:Sn α h₀ L m h st φ ([(I,z)]++news))(pl:Pl [(I,z)])(hf:I ∉ bq φ)(hs:adf I h h')(hz:h'.get? I=some z'):Sn α h₀ L m h' st φ ([(I,z')]++news):=
 S.own pl (λp hp=>by rw [cr hp]; exact hf) (λb y hb e=>hs.extBut b y (λq=>hb (by subst q; exact .head _)) e) (λp hp=>by rw [cr hp]; exact hz) (by simp) (λp hp=>by rw [cr hp]; exact .head _)
theorem Sn.drop1 {I:Addr}{z:Obj}(S:Sn α h₀ L m h st φ ([(I,z)]++news))(pl:Pl [(I,z)])(hf:I ∉ bq φ)(hs:afi I h h'):Sn α h₀ L m h' st φ news:=
 S.own (o':=[]) pl (λp hp=>by rw [cr hp]; exact hf) (λb y hb e=>hs b y (λq=>hb (by subst q; exact .head _)) e) (λp hp=>by cases hp) .nil (λp hp=>by cases hp)
theorem Sn.new1 {I:Addr}{z:Obj}(S:Sn α h₀ L m h st φ news)(hn:h.get? I=none)(hI:L < I)(hz:h'.get? I=some z)(hk:∀b o,h.get? b=some o->h'.get? b=some o):Sn α h₀ L m h' st φ ([(I,z)]++news)/\I ∉ bq φ:=by
 have P6:∀p∈news,p.1≠I:=λp hp e=>by
  have:=(S.N p hp).1
  rw [e,hn] at this; cases this
 have N':News h₀ L h' ((I,z)::news):=λp hp=>by
  rcases bM hp with rfl | hp
  ·exact⟨hz,abT hI,by
    cases q:h₀.get? I with
    | none=>rfl
    | some y=>rw [S.F.keep _ _ q] at hn; cases hn⟩
  ·exact⟨hk _ _ (S.N p hp).1,(S.N p hp).2⟩
 exact⟨(S.entry (S.F.keeps hk) N' P6).1,S.notFoot P6⟩
theorem Sn.nextNone (S:Sn α h₀ L m h st φ news):h.get? h.objs.size=none/\L < h.objs.size:=by
 refine⟨?_,S.F.ns.lt⟩
 cases q:h.get? h.objs.size with
 | none=>rfl
 | some y=>exact absurd (abk q) (acg _)
abbrev Ay (ax:Addr):Nat->Obj->Prop:=λi z=>z.cls=.type "list_iterator"/\z.data=.fields #[.ref ax,.int i 0]
theorem mO {I:Addr}{z:Obj}{c:String}(h:z.cls=.type c)(hc:c≠"tuple") (QY:autoParam (c≠"code") aK):Pl [(I,z)]:=λp hp=>by rw [cr hp]; exact qB (c:=c) h hc QY
theorem Wd.listIn {r:Nat}{xs:List MV}{ax d:Addr}(W:Wd α st φ (o++news))(pl:Pl o)(h:st[r]?=some (.list xs))(PP:φ[r]?=some (ax,d))(hf:∀p∈o,p.1 ∉ bq φ):d=ax/\∃its n,(ax,bV its n)∈news/\bg α.hB news φ xs its.toList:=by
 obtain⟨e,its,n,hm,q⟩:=W.list h PP
 refine⟨e,its,n,?_,bg.mono' (aaf _) (λa j hm=>?_) q⟩
 ·rcases dW hm with hm | hm
  ·exact absurd (iC PP).1 (hf _ hm)
  ·exact hm
 ·rcases dW hm with hm | hm
  ·exact absurd rfl (pl.noT _ hm j)
  ·exact hm
theorem I6 {A:abt}{I ax d:Addr}{r:Nat}{xs:List MV}(hh:A.handled=none)(PP:φ[r]?=some (ax,d)):qV α A h₀ L φ P8 I xs (λst=>st[r]?=some (.list xs)) [I] (own1 I (Ay ax)) where
 keys:=λi o h=>by obtain⟨z,rfl,_⟩:=h; rfl
 pl:=λi o h=>by obtain⟨z,rfl,hc,_⟩:=h; exact mO hc (by decide)
 item:=λi x hx s m st Px o news Q E S hG h pre hf P=>by
  refine bv λGG PD=>?_
  obtain⟨z,rfl,hz⟩:=h
  have pl:Pl [(I,z)]:=mO hz.1 (by decide)
  have Q8:=aA pre PP
  have ZX:=hf _ (.head _)
  obtain⟨rfl,its,n,hm,q⟩:=S.W.listIn pl hG Q8 hf
  have hI:s.heap.get? I=some z:=S.N.get (.head _)
  obtain⟨v,hv,rv⟩:=q.get hx
  refine PD ?_
  have hl:s.heap.IsList d its:=S.isList (aas _ hm)
  refine ag9 (i:=i) ⟨z,hI,hz⟩ hl (x:=v) (by rw [<- hv]; simp) λh₁ Sw hs=>⟨v,rfl,?_⟩
  obtain⟨z',Q1,RA⟩:=Sw
  refine letGo_listiter (s':={ s with heap:=h₁ }) (i:=i+1) ⟨z',Q1,RA⟩ (P v h₁ s.toks [(I,z')] news (S.own1 pl ZX hs Q1) (λ_ h=>h) ⟨z',rfl,RA⟩ rv)
 self:=λs m st Px o news Q E S h P=>by
  obtain⟨z,rfl,hz⟩:=h
  exact wpAny_pyIter_listiter (i:=0) ⟨z,S.N.get (.head _),hz⟩ P
 done:=λs m st Px o news Q E S hG h pre hf P=>by
  refine bv λGG PD=>?_
  obtain⟨z,rfl,hz⟩:=h
  have pl:Pl [(I,z)]:=mO hz.1 (by decide)
  have Q8:=aA pre PP
  obtain⟨rfl,its,n,hm,q⟩:=S.W.listIn pl hG Q8 hf
  refine PD ?_
  have hI:s.heap.get? I=some z:=S.N.get (.head _)
  have hl:s.heap.IsList d its:=S.isList (aas _ hm)
  refine ahl hh ⟨z,hI,hz⟩ hl (acb (by rw [<- abj,q.length]; exact abp _)) λh₁ hs=>P h₁ s.toks (S.drop1 pl (hf _ (.head _)) hs)
def b9 (a:TE):TI:=λρ st Q=>a ρ st λV Pt=>hO (λr=>cD Pt[r]? λxs=>Q xs (λst=>st[r]?=some (.list xs)) Pt) V
theorem bU {e:Expr}{a:TE}(h:aa α ℓ sc slots e a):ch α ℓ sc slots P8 e (b9 a):=by
 intro A h₀ L env C D s m st φ news ρ PB Lo Q Qc E t P
 refine h A h₀ L env C D s m st φ news ρ PB Lo _ _ E t λV Pt Px PC v h₁ PA Pv Py PO Pw=>?_
 apply PO.oR Pw; intro r a d PP Pw
 refine bZ Pw λxs hr Pw=>?_
 refine Pv.W.listC hr PP λits n PP hm q=>?_
 refine agH (Pv.isList hm) ?_
 obtain⟨n1,n2⟩:=Pv.nextNone
 obtain⟨PF,hf⟩:=Pv.new1 (h':=h₁.push { cls:=.type "list_iterator",data:=.fields #[.ref a,.int 0 0] }) n1 n2 (abz _ rfl) λ_ _ e=>aak _ e
 exact P _ _ _ _ _ _ Pt Px PC _ PA PF Py (I6 C.hand PP) ⟨_,rfl,rfl,rfl⟩ (λp hp=>by rw [cr hp]; exact hf) (.head _) Pw
abbrev NH (n:Nat):Nat->Obj->Prop:=λi z=>z={ cls:=.type "range_iterator",dict:=none,data:=.fields #[adO (i:Int),adO ((n:Int) - i),adO 1],slots:=#[] }
noncomputable def ow (n:Nat):List MV:=(ab7 n).map λ(i:Nat)=>.int (i:Int)
theorem HY {A:abt}{I:Addr}{n:Nat}{x:Str}{p:Pos}(hh:A.handled=none):qV α A h₀ L φ (.Name x p) I (ow n) (λ_=>True) [I] (own1 I (NH n)) where
 keys:=λi o h=>by obtain⟨z,rfl,_⟩:=h; rfl
 pl:=λi o h=>by obtain⟨z,rfl,rfl⟩:=h; exact mO rfl (by decide)
 item:=λi x hx s m st Px o news Q E S hG h pre hf P=>by
  obtain⟨z,rfl,rfl⟩:=h
  have hi:i < n:=by
   have:=(bP hx).1
   simpa [ow] using this
  have Rf:x=.int (i:Int):=by
   simp only [ow,abC,List.getElem?_range hi,Option.map_some] at hx
   exact (abi hx).symm
  subst Rf
  have hI:=S.N.get (.head _)
  refine wpAny_pyNext_range_item hI (by walk_at "o") λh₁ Sw hs=>⟨_,rfl,?_⟩
  rw [show ab5 (.Name _ _) (.ref I) (aeo (i:Int) s.toks)=pure () from rfl]
  refine aa8 (P _ h₁ _ [(I,_)] news (S.own1 (mO rfl (by decide)) (hf _ (.head _)) hs Sw) (λ_ h=>h) ⟨_,rfl,?_⟩ (.int _ _))
  have e:(n:Int) - ((i+1:Nat):Int)=(n:Int) - (i:Int) - 1:=by walk_at "o"
  have e2:((i+1:Nat):Int)=(i:Int)+1:=by walk_at "o"
  show _=_
  rw [e,e2]
 self:=λs m st Px o news Q E S h P=>by
  obtain⟨z,rfl,rfl⟩:=h
  exact wpAny_pyIter_rangeiter (S.N.get (.head _)) P
 done:=λs m st Px o news Q E S hG h pre hf P=>by
  obtain⟨z,rfl,rfl⟩:=h
  have hI:=S.N.get (.head _)
  refine wpAny_pyNext_range_end hh hI (by simp [ow]) λh₁ hs=>P h₁ s.toks (S.drop1 (mO rfl (by decide)) (hf _ (.head _)) hs)
def mR (a:TL):TI:=λρ st Q=>a ρ st λVs Pt=>BC (jK λn=>0<=n/\n < 2 ^ 62/\Q (ow n.toNat) (λ_=>True) Pt) Vs
theorem mA {x:Str}{p px pos:Pos}{es:List Expr}{a:TL}(h:ae α ℓ sc slots es a)(he:nsIn α.K aai ("range":Str)=some none)
  (hx:autoParam (sc.names.lookup ("range":Str)=some .globalImplicit) aR):ch α ℓ sc slots (.Name x px) (.Call (.Name ("range":Str) p) es [] pos) (mR a):=by
 intro A h₀ L env C D s m st φ news ρ PB Lo Q Qc E t P
 refine agT (fv C D PB.F he (v:=.type "range") (by decide +kernel) (by decide +kernel) ?_ hx (by decide +kernel))
 refine bR (α:=α) h.plain (Pp:=λ_=>True) (λh _=>iU _ h) (h.run A h₀ L env C D s m st φ news ρ PB Lo pos _ _ E t λVs Pt Px PC vs h₁ PA Pv Py PO Pw PL=>⟨trivial,?_⟩)
 clear PL
 apply PO.o1 Pw; intro V v r Pw; apply r.oI Pw; intro n tk Pw
 have h0:=Pw.1
 have h1:=Pw.2.1
 replace Pw:=Pw.2.2
 refine call_range_1 ?_
 have Rk:Builtin.Range.small 0 n 1=true:=small_one (by walk_at "o") (by walk_at "o") (by walk_at "o") h1
 have hsz:agX 0 n 1=((n.toNat:Nat):Int):=by
  rw [rangeSize_one]; split <;> walk_at "o"
 have hr:IsRange (h₁.push { cls:=.type "range",data:=.fields #[.int 0 PA,.int n tk,.int 1 (PA+1)] }) h₁.objs.size 0 n 1 PA tk (PA+1):=IsRange.new ..
 refine wpAny_pyIter_range (s:={ s with heap:=h₁.push { cls:=.type "range",data:=.fields #[.int 0 PA,.int n tk,.int 1 (PA+1)] },toks:=PA+1+1 }) hr Rk ?_
 have PF:=Pv.keeps (h':=h₁.push { cls:=.type "range",data:=.fields #[.int 0 PA,.int n tk,.int 1 (PA+1)] }) λ_ _ e=>aak _ e
 obtain⟨n1,n2⟩:=PF.nextNone
 obtain⟨P3,hf⟩:=PF.new1 (h':=(h₁.push { cls:=.type "range",data:=.fields #[.int 0 PA,.int n tk,.int 1 (PA+1)] }).push { cls:=.type "range_iterator",data:=.fields #[adO 0,adO (agX 0 n 1),adO 1] }) n1 n2 (abz _ rfl) λ_ _ e=>aak _ e
 refine P _ _ _ _ _ _ Pt Px PC _ _ P3 Py (HY C.hand) ⟨_,rfl,?_⟩ (λp hp=>by rw [cr hp]; exact hf) (.head _) Pw
 show _=_
 rw [hsz]
 simp
end
section
variable {α:bC}{ℓ:Nat}{sc:abJ}{slots:List Str}{h₀ h h':Heap}{L:Addr}{m:Str->Option aab}{s:aah}{st:MS}{φ PG:bk}{o o' news Pu:aO}{env:Env}{X:List Addr}{P8:Expr}
abbrev Kb (ty:String)(x:Str)(t:Tok):Nat->Obj->Prop:=λi z=>z.cls=.type ty/\z.data=.fields #[.str x t,.int i 0]
noncomputable def gB (x:Str):List MV:=x.cps.toList.map λc=>.str ⟨#[c]⟩
theorem zv {x:Str}{i:Nat}{V:MV}(h:(gB x)[i]?=some V):∃c,x.cps[i]?=some c/\V=.str ⟨#[c]⟩:=by
 unfold gB at h
 rw [abC,ads] at h
 cases e:x.cps[i]? with
 | none=>rw [e] at h; cases h
 | some c=>rw [e] at h; exact⟨c,rfl,(abi h).symm⟩
theorem ze (x:Str):x.cps[(gB x).length]?=none:=by
 exact acb (aeG ((abd _).trans abj).symm)
theorem IT {A:abt}{I:Addr}{x y:Str}{t:Tok}{p:Pos}(hh:A.handled=none):qV α A h₀ L φ (.Name y p) I (gB x) (λ_=>True) [I] (own1 I (Kb "str_ascii_iterator" x t)) where
 keys:=λi o h=>by obtain⟨z,rfl,_⟩:=h; rfl
 pl:=λi o h=>by obtain⟨z,rfl,hc,_⟩:=h; exact mO hc (by decide)
 item:=λi V hx s m st Px o news Q E S hG h pre hf P=>by
  refine bv λGG PD=>?_
  obtain⟨z,rfl,hz⟩:=h
  obtain⟨c,hc,rfl⟩:=zv hx
  refine PD ?_
  have hI:=S.N.get (.head _)
  refine wpAny_pyNext_ascii_item (i:=i) ⟨z,hI,hz⟩ hc λh₁ Sw hs=>⟨_,rfl,?_⟩
  obtain⟨z',Q1,RA⟩:=Sw
  rw [show ab5 (.Name y p) (.ref I) (agV ⟨#[c]⟩ s.toks)=pure () from rfl]
  exact aa8 (P _ h₁ _ [(I,z')] news (S.own1 (mO hz.1 (by decide)) (hf _ (.head _)) hs Q1) (λ_ h=>h) ⟨_,rfl,RA⟩ (.str _ _))
 self:=λs m st Px o news Q E S h P=>by
  obtain⟨z,rfl,hz⟩:=h
  exact wpAny_pyIter_striter_ascii (i:=0) ⟨z,S.N.get (.head _),hz⟩ P
 done:=λs m st Px o news Q E S hG h pre hf P=>by
  obtain⟨z,rfl,hz⟩:=h
  have hI:=S.N.get (.head _)
  exact wpAny_pyNext_ascii_end hh ⟨z,hI,hz⟩ (ze x) λh₁ hs=>P h₁ s.toks (S.drop1 (mO hz.1 (by decide)) (hf _ (.head _)) hs)
theorem IP {A:abt}{I:Addr}{x y:Str}{t:Tok}{p:Pos}(hh:A.handled=none):qV α A h₀ L φ (.Name y p) I (gB x) (λ_=>True) [I] (own1 I (Kb "str_iterator" x t)) where
 keys:=λi o h=>by obtain⟨z,rfl,_⟩:=h; rfl
 pl:=λi o h=>by obtain⟨z,rfl,hc,_⟩:=h; exact mO hc (by decide)
 item:=λi V hx s m st Px o news Q E S hG h pre hf P=>by
  refine bv λGG PD=>?_
  obtain⟨z,rfl,hz⟩:=h
  obtain⟨c,hc,rfl⟩:=zv hx
  refine PD ?_
  have hI:=S.N.get (.head _)
  refine wpAny_pyNext_wide_item (i:=i) ⟨z,hI,hz⟩ hc λh₁ Sw hs=>⟨_,rfl,?_⟩
  obtain⟨z',Q1,RA⟩:=Sw
  rw [show ab5 (.Name y p) (.ref I) (agV ⟨#[c]⟩ s.toks)=pure () from rfl]
  exact aa8 (P _ h₁ _ [(I,z')] news (S.own1 (mO hz.1 (by decide)) (hf _ (.head _)) hs Q1) (λ_ h=>h) ⟨_,rfl,RA⟩ (.str _ _))
 self:=λs m st Px o news Q E S h P=>by
  obtain⟨z,rfl,hz⟩:=h
  exact wpAny_pyIter_striter_wide (i:=0) ⟨z,S.N.get (.head _),hz⟩ P
 done:=λs m st Px o news Q E S hG h pre hf P=>by
  obtain⟨z,rfl,hz⟩:=h
  have hI:=S.N.get (.head _)
  exact wpAny_pyNext_wide_end hh ⟨z,hI,hz⟩ (ze x) λh₁ hs=>P h₁ s.toks (S.drop1 (mO hz.1 (by decide)) (hf _ (.head _)) hs)
def CF (a:TE):TI:=λρ st Q=>a ρ st λV Pt=>xP (λx=>Q (gB x) (λ_=>True) Pt) V
theorem C4 {y:Str}{p:Pos}{e:Expr}{a:TE}(h:aa α ℓ sc slots e a):ch α ℓ sc slots (.Name y p) e (CF a):=by
 intro A h₀ L env C D s m st φ news ρ PB Lo Q Qc E t P
 refine h A h₀ L env C D s m st φ news ρ PB Lo _ _ E t λV Pt Px PC v h₁ PA Pv Py PO Pw=>?_
 apply PO.oS Pw; intro x tk Pw
 obtain⟨n1,n2⟩:=Pv.nextNone
 cases ha:x.cps.all (· < 128) with
 | true =>
  refine wpAny_pyIter_ascii ha ?_
  obtain⟨PF,hf⟩:=Pv.new1 (h':=h₁.push { cls:=.type "str_ascii_iterator",data:=.fields #[.str x tk,.int 0 0] }) n1 n2 (abz _ rfl) λ_ _ e=>aak _ e
  exact P _ _ _ _ _ _ Pt Px PC _ PA PF Py (IT C.hand) ⟨_,rfl,rfl,rfl⟩ (λp hp=>by rw [cr hp]; exact hf) (.head _) Pw
 | false =>
  refine wpAny_pyIter_wide ha ?_
  obtain⟨PF,hf⟩:=Pv.new1 (h':=h₁.push { cls:=.type "str_iterator",data:=.fields #[.str x tk,.int 0 0] }) n1 n2 (abz _ rfl) λ_ _ e=>aak _ e
  exact P _ _ _ _ _ _ Pt Px PC _ PA PF Py (IP C.hand) ⟨_,rfl,rfl,rfl⟩ (λp hp=>by rw [cr hp]; exact hf) (.head _) Pw
noncomputable def lU (k:Nat):List MV->List MV
 | []=>[]
 | x::xs=>.tup [.int (k:Int),x]::lU (k+1) xs
theorem Bn:∀{xs:List MV}{k i:Nat}{V:MV},(lU k xs)[i]?=some V->∃x,xs[i]?=some x/\V=.tup [.int ((k+i:Nat):Int),x]
 | [],k,i,V,h=>by cases h
 | x::xs,k,0,V,h=>⟨x,rfl,(abi h).symm⟩
 | x::xs,k,i+1,V,h=>by
  obtain⟨y,h1,h2⟩:=Bn (xs:=xs) (k:=k+1) (i:=i) h
  exact⟨y,h1,by rw [h2,show k+1+i=k+(i+1) by walk_at "o"]⟩
theorem vd:∀(xs:List MV)(k:Nat),(lU k xs).length=xs.length:=by
 intro xs
 induction xs with
 | nil =>
  intro _
  exact rfl
 | cons _ xs ih =>
  intro k
  exact congrArg (·+1) (ih _)
noncomputable abbrev m7 (f:aab)(it:Addr)(i:Int)(Qp:aab):Obj:={ cls:=.type "enumerate",dict:=none,data:=.fields #[f,.bool false,.ref it,adO i,.none,Qp],slots:=#[] }
abbrev N8 (e it ax:Addr):Nat->aO->Prop:=λi o=>∃Qp z,o=[(e,m7 .none it (i:Int) Qp),(it,z)]/\Ay ax i z
theorem yF {e it ax:Addr}{i:Nat}{f Qp:aab}{z:Obj}(hz:Ay ax i z):Pl [(e,m7 f it (i:Int) Qp),(it,z)]:=λp hp=>by
 rcases bM hp with rfl | hp
 ·exact qB (c:="enumerate") rfl (by decide)
 ·rw [cr hp]; exact qB hz.1 (by decide)
theorem Sn.tupIn {T:Addr}{its:Array aab}(S:Sn α h₀ L m h st φ (o++news))(hT:h.get? T=some (bz its))(hL:T≠L)(h0:h₀.get? T=none)(P6:∀p∈o++news,p.1≠T):Sn α h₀ L m h st φ (o++(T,bz its)::news):=by
 have N':News h₀ L h ((T,bz its)::(o++news)):=λp hp=>by
  rcases bM hp with rfl | hp
  ·exact⟨hT,hL,h0⟩
  ·exact S.N p hp
 have S':=(S.entry S.F N' P6).1
 refine S'.same ?_ (λp hp=>?_) λp hp=>?_
 ·have:=S'.W.nodup
  rw [abg,abB] at this
  rw [abB,abg]
  exact (List.perm_middle.nodup_iff).mpr this
 ·rcases bM hp with rfl | hp
  ·exact aas _ (.head _)
  ·rcases dW hp with hp | hp
   ·exact aap _ hp
   ·exact aas _ (.tail _ hp)
 ·rcases dW hp with hp | hp
  ·exact .tail _ (aap _ hp)
  ·rcases bM hp with rfl | hp
   ·exact .head _
   ·exact .tail _ (aas _ hp)
theorem JA {A:abt}{e it ax d:Addr}{r:Nat}{xs:List MV}{es:List Expr}{k:Nat}{p:Pos}(hh:A.handled=none)(PP:φ[r]?=some (ax,d))(X4:e≠it):qV α A h₀ L φ (.Tuple es k p) e (lU 0 xs) (λst=>st[r]?=some (.list xs)) [e,it] (N8 e it ax) where
 keys:=λi o h=>by obtain⟨Qp,z,rfl,_⟩:=h; rfl
 pl:=λi o h=>by obtain⟨Qp,z,rfl,hz⟩:=h; exact yF hz
 item:=λi V hx s m st Px o news Q E S hG h pre hf P=>by
  refine bv λGG PD=>?_
  obtain⟨Qp,z,rfl,hz⟩:=h
  have pl:Pl [(e,m7 .none it (i:Int) Qp),(it,z)]:=yF hz
  have Q8:=aA pre PP
  obtain⟨x,Rr,rfl⟩:=Bn hx
  clear hx
  rw [afB] at *
  obtain⟨rfl,its,n,hm,q⟩:=S.W.listIn pl hG Q8 hf
  have he:IsEnum s.heap e it (i:Int) Qp:=S.N.get (.head _)
  have hI:s.heap.get? it=some z:=S.N.get (.tail _ (.head _))
  obtain⟨v,hv,rv⟩:=q.get Rr
  have hl:s.heap.IsList d its:=S.isList (aas _ hm)
  obtain⟨n1,n2⟩:=S.nextNone
  refine PD ?_
  refine wpAny_pyNext_enum_item he ⟨z,hI,hz⟩ hl (x:=v) (by rw [<- hv]; simp) X4 λh₁ ho Sw hT hsz hk=>⟨_,rfl,?_⟩
  obtain⟨z',Q1,RA⟩:=Sw
  have Pv:Sn α h₀ L m h₁ st Px ([(e,m7 (adO s.heap.objs.size) it ((i:Int)+1) v),(it,z')]++news):=S.own pl hf (λb y hb q=>hk b y (λw=>hb (by subst w; exact .head _)) (λw=>hb (by subst w; exact .tail _ (.head _))) q)
   (λp hp=>by
    rcases bM hp with rfl | hp
    ·exact ho
    ·rw [cr hp]; exact Q1) (by simpa using X4) (λp hp=>by
    rcases bM hp with rfl | hp
    ·exact .head _
    ·rw [cr hp]; exact .tail _ (.head _))
  have PR:∀p∈[(e,m7 (adO s.heap.objs.size) it ((i:Int)+1) v),(it,z')]++news,p.1≠s.heap.objs.size:=λp hp=>by
   have:∃y,(p.1,y)∈[(e,m7 .none it (i:Int) Qp),(it,z)]++news:=by
    rcases bM hp with rfl | hp
    ·exact⟨_,.head _⟩
    ·rcases bM hp with rfl | hp
     ·exact⟨_,.tail _ (.head _)⟩
     ·exact⟨_,.tail _ (.tail _ hp)⟩
   obtain⟨y,hy⟩:=this
   exact S.lt (p.1,y) hy
  have h0:h₀.get? s.heap.objs.size=none:=by
   cases q:h₀.get? s.heap.objs.size with
   | none=>rfl
   | some y=>rw [S.F.keep _ _ q] at n1; cases n1
  have PF:=Pv.tupIn hT (abT n2) h0 PR
  refine wpAny_letOwnedTupleGo_enum ho λPM SN hs=>?_
  have V6:Ay d (i+1) z':=RA
  have P3:Sn α h₀ L m PM st Px ([(e,m7 .none it (((i+1:Nat)):Int) v),(it,z')]++(s.heap.objs.size,bz #[.int (i:Int) s.toks,v])::news):=PF.own (by
    intro p hp
    rcases bM hp with rfl | hp
    ·exact qB (c:="enumerate") rfl (by decide)
    ·rw [cr hp]; exact qB RA.1 (by decide)) (λp hp=>by
    rcases bM hp with rfl | hp
    ·exact hf (e,m7 .none it (i:Int) Qp) (.head _)
    ·rw [cr hp]; exact hf (it,z) (.tail _ (.head _)))
   (λb y hb q=>hs.extBut b y (λw=>hb (by subst w; exact .head _)) q) (λp hp=>by
    rcases bM hp with rfl | hp
    ·exact SN
    ·rw [cr hp]; exact (hs.2 it X4.symm).trans Q1) (by simpa using X4) (λp hp=>by
    rcases bM hp with rfl | hp
    ·exact .head _
    ·rw [cr hp]; exact .tail _ (.head _))
  refine P _ PM (s.toks+1) _ _ P3 (λp hp=>.tail _ hp) ⟨v,z',rfl,V6⟩ (.tup (its:=#[.int (i:Int) s.toks,v]) (.inl (.head _)) (.cons (.int _ _) (.cons (RV.mono' (aaf _) (λ_ _ h=>.tail _ h) rv) .nil)))
 self:=λs m st Px o news Q E S h P=>by
  obtain⟨Qp,z,rfl,hz⟩:=h
  have he:IsEnum s.heap e it (0:Int) Qp:=S.N.get (.head _)
  exact aiv he P
 done:=λs m st Px o news Q E S hG h pre hf P=>by
  refine bv λGG PD=>?_
  obtain⟨Qp,z,rfl,hz⟩:=h
  have pl:Pl [(e,m7 .none it (((lU 0 xs).length:Nat):Int) Qp),(it,z)]:=yF hz
  have Q8:=aA pre PP
  obtain⟨rfl,its,n,hm,q⟩:=S.W.listIn pl hG Q8 hf
  refine PD ?_
  have he:IsEnum s.heap e it (((lU 0 xs).length:Nat):Int) Qp:=S.N.get (.head _)
  have hI:s.heap.get? it=some z:=S.N.get (.tail _ (.head _))
  have hl:s.heap.IsList d its:=S.isList (aas _ hm)
  refine wpAny_pyNext_enum_end hh he ⟨z,hI,hz⟩ hl (acb (by rw [<- abj,q.length,vd]; exact abp _)) λh₁ hs=>P h₁ s.toks ?_
  exact S.own (o':=[]) pl hf (λb y hb e=>hs b y (λq=>hb (by subst q; exact .tail _ (.head _))) e) (λp hp=>by cases hp) .nil (λp hp=>by cases hp)
def AA (a:TL):TI:=λρ st Q=>a ρ st λVs Pt=>BC (hO λr=>cD Pt[r]? λxs=>Q (lU 0 xs) (λst=>st[r]?=some (.list xs)) Pt) Vs
theorem zY {tes:List Expr}{k:Nat}{tp p pos:Pos}{es:List Expr}{a:TL}(h:ae α ℓ sc slots es a)(he:nsIn α.K aai ("enumerate":Str)=some none)
  (hx:autoParam (sc.names.lookup ("enumerate":Str)=some .globalImplicit) aR):ch α ℓ sc slots (.Tuple tes k tp) (.Call (.Name ("enumerate":Str) p) es [] pos) (AA a):=by
 intro A h₀ L env C D s m st φ news ρ PB Lo Q Qc E t P
 refine agT (fv C D PB.F he (v:=.type "enumerate") (by decide +kernel) (by decide +kernel) ?_ hx (by decide +kernel))
 refine bR (α:=α) h.plain (Pp:=λ_=>True) (λh _=>iU _ h) (h.run A h₀ L env C D s m st φ news ρ PB Lo pos _ _ E t λVs Pt Px PC vs h₁ PA Pv Py PO Pw PL=>⟨trivial,?_⟩)
 clear PL
 apply PO.o1 Pw; intro V v rr Pw; apply rr.oR Pw; intro r a d PP Pw
 refine bZ Pw λxs hr Pw=>?_
 refine Pv.W.listC hr PP λits n PP hm q=>?_
 obtain⟨n1,n2⟩:=Pv.nextNone
 refine call_enumerate_list (Pv.isList hm) λPM SN Zl hsz hk=>?_
 obtain⟨z,hz,RA⟩:=Zl
 refine aiv SN ?_
 obtain⟨PF,SJ⟩:=Pv.new1 (h':=PM) n1 n2 hz hk
 have WB:h₁.get? (h₁.objs.size+1)=none:=adX (agG _)
 have P6:∀p∈[(h₁.objs.size,z)]++PC,p.1≠h₁.objs.size+1:=λp hp e=>by
  rcases bM hp with rfl | hp
  ·exact abc (abv _) e
  ·have:=(Pv.N p hp).1
   rw [e,WB] at this; cases this
 have N':News h₀ L PM ((h₁.objs.size+1,m7 .none h₁.objs.size 0 .none)::([(h₁.objs.size,z)]++PC)):=λp hp=>by
  rcases bM hp with rfl | hp
  ·refine⟨SN,abT (abK n2),?_⟩
   cases q:h₀.get? (h₁.objs.size+1) with
   | none=>rfl
   | some y=>rw [Pv.F.keep _ _ q] at WB; cases WB
  ·exact PF.N p hp
 obtain⟨P3,_⟩:=PF.entry PF.F N' P6
 refine P _ _ _ _ _ [(h₁.objs.size+1,m7 .none h₁.objs.size 0 .none),(h₁.objs.size,z)] Pt Px PC PM PA P3 Py (JA C.hand PP (abT (abv _))) ⟨.none,z,rfl,RA⟩ (λp hp=>?_) (.head _) Pw
 rcases bM hp with rfl | hp
 ·exact PF.notFoot P6
 ·rw [cr hp]; exact SJ
end
section
open PyProof.Rows.LCg
noncomputable abbrev f7 (sc scope:abJ):abJ:=
 { scope with names:=scope.names.map λ(n,k)=>if (k == .free && sc.kind == .function && sc.names.lookup n == some .cell) then (n,.cell) else (n,k) }
theorem sF {sc:abJ}{env:Env}(scope:abJ)(D:Ce sc env):adY scope env=f7 sc scope:=by
 unfold adY f7 ab9
 rw [D.scope]
theorem Bu {env:Env}:∀(names:List (Str×aiu))(PY:List (Str×Addr)),(∀p∈names,p.2=.free->(env.cells.lookup p.1).isSome) ->
  ∃cl,(forIn names PY λx r=>do
   let (name,kind):=x
   let cs:=r
   if (kind == af2)=true then do
    let c <- cellOf env name
    pure (ace ((name,c)::cs))
   else pure (ace cs):Sem (List (Str×Addr)))=pure cl/\(∀q∈cl,q∈PY\/(env.cells.lookup q.1=some q.2/\(q.1,af2)∈names))/\(∀q∈PY,q∈cl)/\∀n,(n,af2)∈names->∃c,(n,c)∈cl:=by
 intro names
 induction names with
 | nil=>exact λPY _=>⟨PY,rfl,λq h=>.inl h,λq h=>h,λn h=>nomatch h⟩
 | cons p r ih =>
  intro PY h
  obtain⟨n,k⟩:=p
  rw [ahg]
  by_cases hk:(k == af2)=true
  ·have QA:k=.free:=eq_of_beq hk
   refine bv λGG PD=>?_
   obtain⟨c,hc⟩:=ady.mp (h _ (.head _) QA)
   obtain⟨cl,e,h1,h2,h3⟩:=ih ((n,c)::PY) λp hp=>h p (.tail _ hp)
   refine PD ?_
   refine⟨cl,?_,λq hq=>?_,λq hq=>h2 q (.tail _ hq),λx hx=>?_⟩
   ·refine (congrArg (λz=>Bind.bind z _) (if_pos hk)).trans ?_
    unfold cellOf
    rw [hc]
    exact e
   ·rcases h1 q hq with q1 | ⟨q1,q2⟩
    ·rcases bM q1 with rfl | q1
     ·exact .inr ⟨hc,by rw [QA]; exact .head _⟩
     ·exact .inl q1
    ·exact .inr ⟨q1,.tail _ q2⟩
   ·rcases bM hx with e | hx
    ·cases e; exact⟨c,h2 _ (.head _)⟩
    ·exact h3 x hx
  ·obtain⟨cl,e,h1,h2,h3⟩:=ih PY λp hp=>h p (.tail _ hp)
   refine⟨cl,?_,λq hq=>(h1 q hq).imp id λz=>⟨z.1,.tail _ z.2⟩,h2,λx hx=>?_⟩
   ·exact (congrArg (λz=>Bind.bind z _) (if_neg hk)).trans e
   ·rcases bM hx with e | hx
    ·cases e; exact absurd rfl hk
    ·exact h3 x hx
theorem FH {env:Env}{scope:abJ}(h:∀p∈scope.names,p.2=.free->(env.cells.lookup p.1).isSome) :
  ∃cl,agt scope env=pure cl/\(∀q∈cl,env.cells.lookup q.1=some q.2)/\∀n,(n,af2)∈scope.names->cl.lookup n=env.cells.lookup n:=by
 obtain⟨cl,e,h1,_,h3⟩:=Bu (env:=env) scope.names [] h
 have h1':∀q∈cl,env.cells.lookup q.1=some q.2:=λq hq=>by
  rcases h1 q hq with q1 | q1
  ·cases q1
  ·exact q1.1
 refine⟨cl,?_,h1',λn hn=>?_⟩
 ·unfold agt
  rw [bind_pure]
  exact e
 ·obtain⟨c,hc⟩:=h3 n hn
  cases q:cl.lookup n with
  | none =>
   rw [aeZ] at q
   have:=q _ hc
   simp at this
  | some d=>exact (h1' _ (dO q)).symm
section
variable {prog:ade}{w:aaq}{A:abt}{R:afW->aah->Prop}{s:aah}
theorem rF {Q4 Qm iter:Expr}{QR:List Expr}{scope:abJ}{pos:Pos}{it PY:aab}{env:Env}(I:Nat->aah->Prop)
  (turn:∀n s,I n s->wpAny (abb prog w) A (afA it) (λr P0=>match r with
   | none=>R (.ok .next) P0
   | some v=>wpAny (abb prog w) A (ab5 Qm it v) (λ_ Ry=>wpAny (abb prog w) A (afy Qm env v) (λ_ Qo =>
     wpAny (abb prog w) A (forIn QR true λc r=>if r=true then do let ok <- isTrue c env (eval c env); pure (ace ok) else pure (ace r)) (λok Qu =>
      if ok=true then wpAny (abb prog w) A (eval Q4 env) (λx RC =>
       wpAny (abb prog w) A (call (.builtin "list.append") [PY,x]) (λ_ SK=>∃m,m < n/\I m SK) (aeH (abb prog w) A env λe s'=>R (.error e) s') RC) (aeH (abb prog w) A env λe s'=>R (.error e) s') Qu
      else ∃m,m < n/\I m Qu) (aeH (abb prog w) A env λe s'=>R (.error e) s') Qo) (aeH (abb prog w) A env λe s'=>R (.error e) s') Ry) (aeH (abb prog w) A env λe s'=>R (.error e) s') P0) (aeH (abb prog w) A env λe s'=>R (.error e) s') s)
  (n:Nat) (h:I n s) :
  adx (abb prog w) A (.compLoop (.ListComp Q4 [⟨Qm,iter,QR,0⟩] scope pos) 0 it PY env) R s:=by
 refine codeAny_loop rfl I (λn s hI=>?_) n h
 show wpAny _ A ((compTurn (.ListComp Q4 [⟨Qm,iter,QR,0⟩] scope pos) 0 it PY env).onRaise (λx=>do noteFrame x env; theTreesLotGoes x)) _ _ s
 refine wpAny_noted ?_
 rw [compTurn_list]
 refine aac (adl (aac (abR (turn n s hI) (λr P0 h₁=>?_) λ_ _ h'=>h')))
 cases r with
 | none=>exact aa8 h₁
 | some v =>
  refine aac (abR h₁ (λ_ Ry Wy=>?_) λ_ _ h'=>h')
  refine aac (abR Wy (λ_ Qo PM=>aac (abR PM (λok Qu P2=>?_) λ_ _ h'=>h')) λ_ _ h'=>h')
  cases ok with
  | false=>exact aa8 ⟨rfl,P2⟩
  | true =>
   exact aac (aac (abR P2 (λx RC QN=>aac (abR QN (λ_ SK Qv=>aa8 (aa8 ⟨rfl,Qv⟩)) λ_ _ h'=>h')) λ_ _ h'=>h'))
end
section
variable (α:bC)
def CL (news:aO)(φ:bk)(tgts:List Str)(mC:Str->Option aab)(ρ:aG):Prop:=
 ∀(i:Nat) (x:Str) (V:MV),tgts[i]?=some x->ρ[i]?=some (some V)->∃v,mC x=some v/\RV α.hB news φ V v
def c4 (sc:abJ)(tgts:List Str)(P8:Expr)(T:TG):Prop:=
 ∀(A:abt) (h₀:Heap) (env:Env),A.handled=none->α.hB.StaysIn h₀->env.scope=sc->sc.kind=.function->∀(s:aah) L m st φ news mC ρ V v,Sn α h₀ L m s.heap st φ news->s.heap.Ns env.locals mC->CL α news φ tgts mC ρ->RV α.hB news φ V v->∀K Qc E,T V ρ K ->
  (∀Rs h' PV QS,afi env.locals s.heap h'->h'.Ns env.locals QS->CL α news φ tgts QS Rs->(∀i,tgts.length<=i->Rs[i]?=ρ[i]?)->K Rs->Qc () { s with heap:=h',toks:=PV }) ->
  wpAny (abb α.prog α.w) A (afy P8 env v) Qc E s
def dv (ℓ:Nat)(sc:abJ)(slots:List Str)(QR:List Expr)(T:TB):Prop:=
 ∀A h₀ L env,Cf α ℓ A h₀ L->Ce sc env->∀s m st φ news ρ,Sn α h₀ L m s.heap st φ news->Lc α slots env L m news φ ρ->∀Q Qc E,T ρ st Q->n9 α h₀ L m s φ news Q Qc ->
  wpAny (abb α.prog α.w) A (forIn QR true λc r=>if r=true then do let ok <- isTrue c env (eval c env); pure (ace ok) else pure (ace r)) Qc E s
end
section
variable {α:bC}{ℓ:Nat}{sc:abJ}{slots tgts:List Str}
def dZ:TB:=λ_ st Q=>Q true st
theorem eV:dv α ℓ sc slots [] dZ:=λA h₀ L env C D s m st φ news ρ S Lo Q Qc E t P=>wpAny_tests_nil (P.now S t s.toks)
theorem iA {c:Expr}{T:TB}(h:aJ α ℓ sc slots c T):dv α ℓ sc slots [c] T:=λA h₀ L env C D s m st φ news ρ S Lo Q Qc E t P=>wpAny_tests_one (h A h₀ L env C D s m st φ news ρ S Lo Q Qc E t P)
set_option tactic.hygienic true in
theorem CL.set {news:aO}{φ:bk}{mC:Str->Option aab}{ρ:aG}{i:Nat}{x:Str}{V:MV}{v:aab}(h:CL α news φ tgts mC ρ)(nd:tgts.Nodup)(hx:tgts[i]?=some x)(r:RV α.hB news φ V v) :
  CL α news φ tgts (λy=>if y=x then some v else mC y) (ρ.set i (some V)):=by
 intro j y W hj hW
 by_cases hji:j=i
 ·subst hji
  rw [hx] at hj
  obtain rfl:=abi hj
  have:W=V:=by
   rw [air] at hW
   split at hW
   ·split at hW
    ·simpa using hW.symm
    ·cases hW
   ·rename_i q; exact absurd rfl q
  subst this
  exact⟨v,by simp,r⟩
 ·rw [abe (aec hji)] at hW
  obtain⟨w,h1,h2⟩:=h j y W hj hW
  refine⟨w,?_,h2⟩
  have:y≠x:=λe=>by
   subst e
   exact hji ((ais (bP hj).1 nd).mp (hj.trans hx.symm))
  simp only [if_neg this]; exact h1
theorem c4.name {x:Str}{p:Pos}{i:Nat}(nd:tgts.Nodup)(hx:tgts[i]?=some x)(hl:sc.names.lookup x=some .local):c4 α sc tgts (.Name x p) (b8 i):=by
 intro A h₀ env hh hB Tl hk s L m st φ news mC ρ V v S hn hC r K Qc E t P
 refine ab1 (adr (env:=env) (by unfold ab9; rw [Tl]; exact hl) hn (λh' WZ UK=>?_) (by rw [Tl,hk]; rfl))
 refine P (ρ.set i (some V)) h' _ _ UK.extBut WZ (hC.set nd hx r) (λj hj=>?_) t
 exact abe (abc (abG (bP hx).1 hj))
theorem N6 {X:Type}{l:List X}{G:Prop}(h:l.length=2)(k:∀a b,l=[a,b]->G):G:=by
 cases l with
 | nil=>cases h
 | cons a l=>cases l with
  | nil=>cases h
  | cons b l=>cases l with
   | nil=>exact k a b rfl
   | cons _ _=>cases h
theorem xY {x y:Str}{px py p:Pos}{k i j:Nat}(nd:tgts.Nodup)(hx:tgts[i]?=some x)(hy:tgts[j]?=some y)(hl:sc.names.lookup x=some .local)(Ta:sc.names.lookup y=some .local) :
  c4 α sc tgts (.Tuple [.Name x px,.Name y py] k p) (ix [i,j]):=by
 intro A h₀ env hh hB Tl hk s L m st φ news mC ρ V v S hn hC r K Qc E t P
 apply r.oT t; intro Vs a its hh' q t
 refine N6 t.1 λacz aco e=>?_
 subst e
 replace t:=t.2
 have RK:=q.length
 refine ags hh (S.isTup hB hh') (by rw [<- abj,RK]; rfl) rfl λh₁ he=>?_
 have n1:=hn.at' λo e=>he _ o (abc (abk e)) e
 generalize its.toList=vs at q
 apply bg.c q; intro _ _ r1 q
 apply bg.c q; intro _ _ r2 q
 cases q
 have kx:env.kindOf x=some .local:=by unfold ab9; rw [Tl]; exact hl
 have ky:env.kindOf y=some .local:=by unfold ab9; rw [Tl]; exact Ta
 refine adN (ab1 (adr (env:=env) kx n1 (λPM n2 s2=>?_) (by rw [Tl,hk]; rfl)))
 refine adN (ab1 (adr (env:=env) ky n2 (λP2 n3 s3=>?_) (by rw [Tl,hk]; rfl)))
 refine afz (P _ P2 _ _ (λb o hb e=>s3.extBut b o hb (s2.extBut b o hb (he b o (abc (abk e)) e))) n3 ((hC.set nd hx r1).set nd hy r2) (λl hl=>?_) t)
 show ((ρ.set i (some acz)).set j (some aco))[l]?=_
 rw [abe (abc (abG (bP hy).1 hl)),abe (abc (abG (bP hx).1 hl))]
end
end
section
open PyProof.Rows.LCg
def fq (G:MS->Prop)(tg:TG)(c:TB)(e:TE):List MV->aG->List MV->MS->(List MV->MS->Prop)->Prop
 | [],_,ys,st,Q=>G st/\Q ys st
 | x::xs,ρ,ys,st,Q=>G st/\tg x ρ λP9=>c P9 st λb Pt=>if b then e P9 Pt λV Pz=>fq G tg c e xs P9 (ys++[V]) Pz Q else fq G tg c e xs P9 ys Pt Q
section
variable {α:bC}{ℓ:Nat}{sc scope:abJ}{slots tgts cn:List Str}{h₀ h h':Heap}{L:Addr}{m:Str->Option aab}{st:MS}{φ PG:bk}{o o' news Pu:aO}{env:Env}{X:List Addr}{P8:Expr}
def oG (φ:bk)(cl:List (Str×Addr))(news:aO)(nT:Nat)(cn:List Str)(ρ:aG):Prop:=
 ∀(i:Nat) (x:Str) (V:MV),cn[i]?=some x->ρ[nT+i]?=some (some V)->∃v c o,cl.lookup x=some c/\c≠α.tab/\c ∉ bq φ/\(c,o)∈news/\o.data=.cell (some v)/\RV α.hB news φ V v
theorem oG.grow {cl:List (Str×Addr)}{nT:Nat}{ρ:aG}(h:oG (α:=α) φ cl news nT cn ρ)(g:a9 [α.tab] φ news PG Pu):oG (α:=α) PG cl Pu nT cn ρ:=λi x V hx hV=>by
 refine bv λGG PD=>?_
 obtain⟨v,c,o,h1,h2,h3,h4,h5,h6⟩:=h i x V hx hV
 refine PD ?_
 exact⟨v,c,o,h1,h2,λq=>h3 (g.fresh _ h4 q),g.kept _ h4 h3 (by simpa using h2),h5,h6.mono g⟩
theorem CL.grow {mC:Str->Option aab}{ρ:aG}(h:CL α news φ tgts mC ρ)(g:a9 [α.tab] φ news PG Pu):CL α Pu PG tgts mC ρ:=λi x V hx hV =>
 let ⟨v,h1,h2⟩:=h i x V hx hV; ⟨v,h1,h2.mono g⟩
set_option tactic.hygienic true in
theorem Ld {cl:List (Str×Addr)}{C:Addr}{z:Obj}{mC:Str->Option aab}{ρ:aG}(hk:∀x∈tgts,(adY scope env).names.lookup x=some .local)(hc:∀x∈cn,(adY scope env).names.lookup x=some .cell)
  (h1:CL α news φ tgts mC ρ) (h2:oG (α:=α) φ cl news tgts.length cn ρ) (hz:NsObj z mC) (hm:(C,z)∈news) (hC:C≠α.tab) (hf:C ∉ bq φ):Lc α (tgts++cn) (adt scope cl C env) L m news φ ρ:=by
 intro i x V hx hV
 rw [ahC] at hx
 split at hx
 ·obtain⟨v,e,r⟩:=h1 i x V hx hV
  obtain⟨es,ep,hd,hs,hn⟩:=hz
  exact⟨v,.ns (hk x (abh hx)) hC hf z es ep hm ⟨hd,hs,(hn x).trans e⟩,r⟩
 ·rename_i hi
  have e:tgts.length+(i - tgts.length)=i:=Nat.add_sub_cancel' (Nat.le_of_not_lt hi)
  refine bv λGG PD=>?_
  obtain⟨v,c,o,a1,a2,a3,a4,a5,a6⟩:=h2 (i - tgts.length) x V hx (by rw [e]; exact hV)
  refine PD ?_
  exact⟨v,.cell (hc x (abh hx)) c o a1 a2 a3 a4 a5,a6⟩
noncomputable abbrev oD (C D:Addr)(oI:aO)(z od:Obj):aO:=oI++[(C,z),(D,od)]
noncomputable abbrev oT (C D:Addr)(oI:aO)(z:Obj)(its:Array aab)(n:Nat):aO:=oD C D oI z (bV its n)
def Id (od:Obj):Prop:=(∀its,od≠bz its)/\(∀ps,od≠adk ps)/\¬pR od
theorem Bl {its:Array aab}{n:Nat}:Id (bV its n):=qB (p:=(aeb,bV its n)) (c:="list") rfl (by decide)
theorem Kk {C D:Addr}{oI:aO}{z od:Obj}{mC:Str->Option aab}(h:Pl oI)(hz:NsObj z mC)(hd:Id od):Pl (oD C D oI z od):=λp hp=>by
 rcases dW hp with hp | hp
 ·exact h p hp
 ·rcases bM hp with rfl | hp
  ·obtain⟨es,ep,hd,_⟩:=hz; exact lg hd
  ·rw [cr hp]; exact hd
theorem pr {C D:Addr}{oI So:aO}{z z' od QZ:Obj}(h:So.map (·.1)=oI.map (·.1)):(oD C D So z' QZ).map (·.1)=(oD C D oI z od).map (·.1):=by
 rw [abB,abB,h]; rfl
theorem Sn.turnO (S:Sn α h₀ L m h st φ (o++news))(pl:Pl o)(hf:∀p∈o,p.1 ∉ bq φ)(hk:∀b z,b ∉ o.map (·.1)->h.get? b=some z->h'.get? b=some z)
  (ho:∀p∈o',h'.get? p.1=some p.2) (hs:o'.map (·.1)=o.map (·.1)):Sn α h₀ L m h' st φ (o'++news):=
 S.own pl hf hk ho (by
  have:=S.W.nodup
  rw [abB,abO] at this
  rw [hs]; exact this.1) λp hp=>hs ▸ ed ⟨p,hp,rfl⟩
theorem Ji {o o':aO}{φ:bk}(hk:o'.map (·.1)=o.map (·.1))(h:∀p∈o,p.1 ∉ bq φ):∀p∈o',p.1 ∉ bq φ:=λp hp=>by
 have:p.1∈o.map (·.1):=hk ▸ ed ⟨p,hp,rfl⟩
 obtain⟨q,hq,e⟩:=c8 this
 exact e ▸ h q hq
structure CS (α:bC)(h₀:Heap)(L:Addr)(m:Str->Option aab)(tgts cn:List Str)(cl:List (Str×Addr))(C D:Addr)(oI:aO)(z od:Obj)(mC:Str->Option aab)(st:MS)(φ:bk)(r:aO)(ρ:aG)(h:Heap):Prop where
 S:Sn α h₀ L m h st φ (oD C D oI z od++r)
 pl:Pl oI
 po:Id od
 off:∀p∈oD C D oI z od,p.1 ∉ bq φ
 ns:NsObj z mC
 nm:CL α r φ tgts mC ρ
 ca:oG (α:=α) φ cl r tgts.length cn ρ
section
variable {cl:List (Str×Addr)}{C D:Addr}{oI So:aO}{z od QZ:Obj}{mC QS:Str->Option aab}{r n:aO}{ρ Rs:aG}{G:Prop}
theorem Eu:(C,z)∈oD C D oI z od:=aas _ (.head _)
theorem J4:(D,od)∈oD C D oI z od:=aas _ (.tail _ (.head _))
theorem CS.plO (X:CS α h₀ L m tgts cn cl C D oI z od mC st φ r ρ h):Pl (oD C D oI z od):=Kk X.pl X.ns X.po
theorem CS.tab (X:CS α h₀ L m tgts cn cl C D oI z od mC st φ r ρ h):α.tab ∉ (oD C D oI z od).map (·.1):=λhq=>by
 obtain⟨q,hq,e⟩:=c8 hq
 obtain⟨ps,Su,_⟩:=X.S.W.tabs
 exact X.plO.noTab q hq ps (eJ X.S.W.nodup (a:=q.1) (aap _ hq) ((show q.1=α.tab from e) ▸ Su))
theorem CS.tabs (X:CS α h₀ L m tgts cn cl C D oI z od mC st φ r ρ h)(hk:o.map (·.1)=(oD C D oI z od).map (·.1)):∀p∈o,p.1 ∉ [α.tab]:=λp hp hq =>
 X.tab (hk ▸ ed ⟨p,hp,cr hq⟩)
theorem CS.nds (X:CS α h₀ L m tgts cn cl C D oI z od mC st φ r ρ h):(∀p∈oI,p.1≠C/\p.1≠D)/\D≠C:=by
 have nd:=X.S.W.nodup
 rw [abB,abO,abB,abO] at nd
 exact⟨λp hp=>⟨nd.1.2.2 _ (ed ⟨p,hp,rfl⟩) C (.head _),nd.1.2.2 _ (ed ⟨p,hp,rfl⟩) D (.tail _ (.head _))⟩,λe=>(abV.mp nd.1.2.1).1 (e ▸ .head _)⟩
theorem CS.after (X:CS α h₀ L m tgts cn cl C D oI z od mC st φ r ρ h){Ps:MS}(S':Sn α h₀ L m h' Ps PG n)(g:a9 [α.tab] φ (oD C D oI z od++r) PG n)
  (k:∀r',CS α h₀ L m tgts cn cl C D oI z od mC Ps PG r' ρ h'->a9 [α.tab] φ r PG r'->(∀a its,(a,bz its)∈n->(a,bz its)∈r')->G):G:=
 let ⟨Pv,Py,XL,Pw⟩:=S'.split g X.plO X.S.W.nodup X.off (X.tabs rfl)
 k _ ⟨Pv,X.pl,X.po,XL,X.ns,X.nm.grow Py,X.ca.grow Py⟩ Py Pw
theorem CS.item (X:CS α h₀ L m tgts cn cl C D oI z od mC st φ r ρ h)(S':Sn α h₀ L m h' st φ (So++n))(sub:∀p∈[(C,z),(D,od)]++r,p∈n)(hk:So.map (·.1)=oI.map (·.1))(pl:Pl So)
  (k:∀r',CS α h₀ L m tgts cn cl C D So z od mC st φ r' ρ h'->a9 [α.tab] φ r φ r'->(∀a its,(a,bz its)∈n->(a,bz its)∈r')->G):G:=by
 have hkO:(oD C D So z od).map (·.1)=(oD C D oI z od).map (·.1):=pr hk
 have nd:(((oD C D So z od)++r).map (·.1)).Nodup:=by
  have:=X.S.W.nodup
  rw [abB] at this ⊢
  rw [hkO]; exact this
 have ga:a9 [α.tab] φ (oD C D So z od++r) φ (So++n):=.led λp hp=>by
  rw [abL] at hp
  exact (dW hp).elim (aap _) λhp=>aas _ (sub p hp)
 obtain⟨Pv,Py,XL,Pw⟩:=S'.split ga (Kk pl X.ns X.po) nd (Ji hkO X.off) (X.tabs hkO)
 exact k _ ⟨Pv,pl,X.po,XL,X.ns,X.nm.grow Py,X.ca.grow Py⟩ Py λa its hm=>Pw a its (aas _ hm)
theorem CS.turnC (X:CS α h₀ L m tgts cn cl C D oI z od mC st φ r ρ h)(hx:afi C h h')(hn:h'.Ns C QS)(hCL:CL α (oD C D oI z od++r) φ tgts QS Rs)(hρ:∀i,tgts.length<=i->Rs[i]?=ρ[i]?)
  (k:∀z',CS α h₀ L m tgts cn cl C D oI z' od QS st φ r Rs h'->G):G:=by
 obtain⟨z',hz,RA⟩:=ns_obj hn
 refine k z' ⟨X.S.turnO X.plO X.off (λb y hb e=>hx b y (λq=>hb ((show b=C from q) ▸ ed ⟨_,Eu,rfl⟩)) e) (λp hp=>?_) (pr rfl),X.pl,X.po,Ji (pr rfl) X.off,RA,λj y V hj hV=>?_,λj y V hj hV=>X.ca j y V hj (by rw [<- hρ _ (adj _ _)]; exact hV)⟩
 ·rcases dW hp with hp | hp
  ·exact hx _ _ (X.nds.1 p hp).1 (X.S.N.get (a:=p.1) (o:=p.2) (aap _ (aap _ hp)))
  ·rcases bM hp with rfl | hp
   ·exact hz
   ·rw [cr hp]
    exact hx _ _ X.nds.2 (X.S.N.get (aap _ J4))
 ·obtain⟨w,e,q⟩:=hCL j y V hj hV
  exact⟨w,e,RV.mono' (aaf _) (λa its hm=>(dW hm).elim (λhm=>absurd rfl (X.plO.noT _ hm its)) id) q⟩
theorem CS.turnD (X:CS α h₀ L m tgts cn cl C D oI z od mC st φ r ρ h)(hx:afi D h h')(hd:h'.get? D=some QZ)(po:Id QZ):CS α h₀ L m tgts cn cl C D oI z QZ mC st φ r ρ h':=
 ⟨X.S.turnO X.plO X.off (λb y hb e=>hx b y (λq=>hb ((show b=D from q) ▸ ed ⟨_,J4,rfl⟩)) e) (λp hp=>by
  rcases dW hp with hp | hp
  ·exact hx _ _ (X.nds.1 p hp).2 (X.S.N.get (a:=p.1) (o:=p.2) (aap _ (aap _ hp)))
  ·rcases bM hp with rfl | hp
   ·exact hx _ _ X.nds.2.symm (X.S.N.get (aap _ Eu))
   ·rw [cr hp]; exact hd) (pr rfl),X.pl,po,Ji (pr rfl) X.off,X.ns,X.nm,X.ca⟩
theorem CS.lc (X:CS α h₀ L m tgts cn cl C D oI z od mC st φ r ρ h)(hk:∀x∈tgts,(adY scope env).names.lookup x=some .local)(hc:∀x∈cn,(adY scope env).names.lookup x=some .cell) :
  Lc α (tgts++cn) (adt scope cl C env) L m (oD C D oI z od++r) φ ρ:=
 have gl:a9 [α.tab] φ r φ (oD C D oI z od++r):=.led λp hp=>aas _ hp
 Ld hk hc (X.nm.grow gl) (X.ca.grow gl) X.ns (aap _ Eu) (λe=>X.tab (e ▸ ed ⟨_,Eu,rfl⟩)) (X.off _ Eu)
def IY (α:bC)(h₀:Heap)(L:Addr)(m:Str->Option aab)(tgts cn:List Str)(cl:List (Str×Addr))(C D:Addr)(s:aah)(φ:bk)(news:aO)(own:Nat->aO->Prop)(N:Nat)(T:Nat->aG->bk->aO->Obj->MS->Prop)(k:Nat)(s':aah):Prop:=
 ∀P:Nat->aah->Prop,(∀i oI z od mC Ps PG r ρ h tk,i<=N->CS α h₀ L m tgts cn cl C D oI z od mC Ps PG r ρ h->own i oI->a9 [α.tab] φ news PG r->T i ρ PG r od Ps->P (N+1 - i) { s with heap:=h,toks:=tk })->P k s'
end
theorem zm {A:abt}{cl:List (Str×Addr)}{C D I:Addr}{s:aah}{xs:List MV}{G:MS->Prop}{keys:List Addr}{own:Nat->aO->Prop}{oI:aO}{z od:Obj}{mC:Str->Option aab}{r:aO}{ρ:aG}{Up:bk}{i tk:Nat}
  {tg:TG} {Kt:aG->Prop} {K:aah->Prop} {Kn:Option aab->aah->Prop} {E:aab->aah->Prop}
  (Cx:Cf α ℓ A h₀ L) (Dx:Ce sc env) (W:qV α A h₀ L Up P8 I xs G keys own) (Qs:scope.kind=.function) (ht:c4 α (f7 sc scope) tgts P8 tg)
  (X:CS α h₀ L m tgts cn cl C D oI z od mC st φ r ρ h) (Qy:own i oI) (pre:Up <+: φ) (hG:G st) (hx:i < xs.length) (t:tg xs[i] ρ Kt)
  (hn:∀v P0,wpAny (abb α.prog α.w) A (ab5 P8 (.ref I) v) (λ_ Qo=>wpAny (abb α.prog α.w) A (afy P8 (adt scope cl C env) v) (λ_ Qu=>K Qu) E Qo) E P0->Kn (some v) P0)
  (k:∀So z' QS r' Rs h' PV,own (i+1) So->CS α h₀ L m tgts cn cl C D So z' od QS st φ r' Rs h'->a9 [α.tab] φ r φ r'->Kt Rs->K { s with heap:=h',toks:=PV }) :
  wpAny (abb α.prog α.w) A (afA (.ref I)) Kn E { s with heap:=h,toks:=tk }:=by
 refine abR (W.item i _ (aa9 hx) { s with heap:=h,toks:=tk } m st φ oI ([(C,z),(D,od)]++r) (λv Ry=>wpAny (abb α.prog α.w) A (afy P8 (adt scope cl C env) v) (λ_ Qu=>K Qu) E Ry) E (by rw [<- abL]; exact X.S) hG Qy pre (λp hp=>X.off p (aap _ hp)) λv P2 P7 aaM Qq P3 Vr Rc rv=>?_) (λr P0 hr=>?_) λ_ _ e=>e
 ·refine X.item P3 Vr ((W.keys _ _ Rc).trans (W.keys _ _ Qy).symm) (W.pl _ _ Rc) λXq Vq Rn ZQ=>?_
  refine ht A h₀ (adt scope cl C env) Cx.hand Cx.stays (sF scope Dx) Qs { s with heap:=P2,toks:=P7 } L m st φ (oD C D aaM z od++Xq) mC ρ _ v Vq.S (Vq.ns.ns (Vq.S.N.get (aap _ Eu))) (Vq.nm.grow (.led λp hp=>aas _ hp))
   (RV.mono' (aaf _) (λa its hm=>aas _ (ZQ a its hm)) rv) _ _ _ t λQ0 Qv RJ Ur aaJ aa7 YO Z5 Rh=>Vq.turnC aaJ aa7 YO Z5 λVH RM=>k _ _ _ _ _ _ _ Rc RM Rn Rh
 ·obtain⟨v,rfl,q⟩:=hr
  exact hn v P0 q
theorem HD {A:abt}{Q4 iter:Expr}{QR:List Expr}{pos:Pos}{cl:List (Str×Addr)}{s:aah}{I C D:Addr}{xs:List MV}{G:MS->Prop}{keys:List Addr}{own:Nat->aO->Prop}{oI:aO}{z:Obj}{mC:Str->Option aab}{ρ:aG}
  {tg:TG} {tc:TB} {te:TE} {R:afW->aah->Prop} {Q:List MV->MS->Prop}
  (Cx:Cf α ℓ A h₀ L) (Dx:Ce sc env) (W:qV α A h₀ L φ P8 I xs G keys own) (PL:xs.length<=abA)
  (hk:∀x∈tgts,(adY scope env).names.lookup x=some .local) (hc:∀x∈cn,(adY scope env).names.lookup x=some .cell) (Qs:scope.kind=.function)
  (ht:c4 α (f7 sc scope) tgts P8 tg) (hts:dv α ℓ (f7 sc scope) (tgts++cn) QR tc) (he:aa α ℓ (f7 sc scope) (tgts++cn) Q4 te)
  (S:Sn α h₀ L m s.heap st φ (oT C D oI z #[] 0++news)) (Qy:own 0 oI) (hf:∀p∈oT C D oI z #[] 0,p.1 ∉ bq φ) (hz:NsObj z mC) (h1:CL α news φ tgts mC ρ) (h2:oG (α:=α) φ cl news tgts.length cn ρ)
  (t:fq G tg tc te xs ρ [] st Q)
  (P:∀ys Ps PG Pu z' its n h' PV QS,Sn α h₀ L m h' Ps PG ([(C,z'),(D,bV its n)]++Pu)->NsObj z' QS->a9 [α.tab] φ news PG Pu->(∀p∈[(C,z'),(D,bV its n)],p.1 ∉ bq PG)->bg α.hB Pu PG ys its.toList->Q ys Ps->R (.ok .next) { s with heap:=h',toks:=PV }) :
  adx (abb α.prog α.w) A (.compLoop (.ListComp Q4 [⟨P8,iter,QR,0⟩] scope pos) 0 (.ref I) (.ref D) (adt scope cl C env)) R s:=by
 have Dc:Ce (f7 sc scope) (adt scope cl C env):=⟨sF scope Dx,Qs,Dx.glob,Dx.bul⟩
 refine rF (IY α h₀ L m tgts cn cl C D s φ news own xs.length λi ρ φ r od st=>∀G₀:Prop,(∀ys its n,od=bV its n->bg α.hB r φ ys its.toList->its.size<=i->fq G tg tc te (xs.drop i) ρ ys st Q->G₀)->G₀) ?_ (xs.length+1)
  (λ_ k=>k 0 oI z _ mC st φ news ρ s.heap s.toks (abP _) ⟨S,W.pl _ _ Qy,Bl,hf,hz,h1,h2⟩ Qy .refl λ_ k=>k [] #[] 0 rfl .nil (abp _) t)
 intro k s' hI
 apply hI; intro i oI z od mC Pz PE P5 Qk PM PN hi X Rb PH tt
 refine tt _ λys its n eo Vp hsz PU=>?_
 subst eo
 generalize (aeH (abb α.prog α.w) A (adt scope cl C env) λe s'=>R (.error e) s')=E
 rcases aiw i xs.length with PR | Rt
 ·rw [ab8 PR] at PU
  refine zm (K:=λQo=>wpAny (abb α.prog α.w) A (forIn QR true λc r=>if r=true then do let ok <- isTrue c (adt scope cl C env) (eval c (adt scope cl C env)); pure (ace ok) else pure (ace r)) _ E Qo) Cx Dx W Qs ht X Rb PH.pre PU.1 PR PU.2 (λv P0 q=>q) λU0 VH Ur VI Q0 Qv RJ Uv RM SM Rh=>?_
  refine hts A h₀ L (adt scope cl C env) Cx Dc _ m Pz PE _ Q0 RM.S (RM.lc hk hc) _ _ _ Rh λb aaT aa0 afj Q6 ae5 Vh Ss Y4=>RM.after Vh Ss λafb WP ac7 _=>?_
  have YT:=SM.trans ac7
  have QK:∀Ps PG r' QZ h' PV,CS α h₀ L m tgts cn cl C D U0 VH QZ Ur Ps PG r' Q0 h'->a9 [α.tab] PE P5 PG r'->(∀G₀:Prop,(∀ys its n,QZ=bV its n->bg α.hB r' PG ys its.toList->its.size<=i+1->fq G tg tc te (xs.drop (i+1)) Q0 ys Ps Q->G₀)->G₀)->∃m',m' < xs.length+1 - i/\IY α h₀ L m tgts cn cl C D s φ news own xs.length (λi ρ φ r od st=>∀G₀:Prop,(∀ys its n,od=bV its n->bg α.hB r φ ys its.toList->its.size<=i->fq G tg tc te (xs.drop i) ρ ys st Q->G₀)->G₀) m' { s with heap:=h',toks:=PV }:=
   λPs PG r' QZ h' PV X' g' t'=>⟨xs.length+1 - (i+1),aeN (abK PR) (abv i),λ_ k=>k (i+1) U0 VH QZ Ur Ps PG r' Q0 h' PV PR X' Uv (PH.trans g') t'⟩
  cases b with
  | false=>exact QK _ _ _ _ _ _ WP YT λ_ k=>k ys its n rfl (Vp.mono YT) (agF hsz) Y4
  | true =>
   refine he A h₀ L (adt scope cl C env) Cx Dc _ m aaT aa0 _ Q0 WP.S (WP.lc hk hc) _ _ _ Y4 λV Ye Yi acL u Vv Tt VJ XG Xp Xs=>WP.after VJ XG λZu Vb Vk Vd=>?_
   refine append_at (s:={ s with heap:=Vv,toks:=Tt }) (hsz:=aaj hsz (aaj hi PL)) (Vb.S.N.get (aap _ J4)) λUx TH TC=>?_
   have g49:=YT.trans Vk
   exact QK _ _ _ _ _ _ (Vb.turnD TH.extBut TC Bl) g49 λ_ k=>k (ys++[V]) (its.push u) (n+1) rfl (by rw [aet]; exact (Vp.mono g49).append (.cons (RV.mono' (aaf _) Vd Xp) .nil)) (by rw [Array.size_push]; exact Nat.succ_le_succ hsz) Xs
 ·obtain rfl:i=xs.length:=af9 hi Rt
  rw [agW] at PU
  exact W.done _ m Pz PE oI _ _ _ (by rw [<- abL]; exact X.S) PU.1 Rb PH.pre (λp hp=>X.off p (aap _ hp)) λP2 P7 P3=>P ys Pz PE P5 z its n P2 P7 mC P3 X.ns PH (λp hp=>X.off p (aas _ hp)) Vp PU.2
end
end
section
open PyProof.Rows.LCg
section
variable {α:bC}{ℓ:Nat}{sc scope:abJ}{slots tgts cn:List Str}{h₀ h h':Heap}{L:Addr}{m:Str->Option aab}{st:MS}{φ PG:bk}{o o' news Pu:aO}{env:Env}{X:List Addr}{P8:Expr}
theorem xV {A:abt}{Q4 iter:Expr}{QR:List Expr}{pos:Pos}{cl:List (Str×Addr)}{s:aah}{I:Addr}{xs:List MV}{G:MS->Prop}{keys:List Addr}{own:Nat->aO->Prop}{oI:aO}{ρ:aG}
  {tg:TG} {tc:TB} {te:TE} {RR:aab->Addr->afW->aah->Prop} {Q:List MV->MS->Prop} {E:aab->aah->Prop}
  (Cx:Cf α ℓ A h₀ L) (Dx:Ce sc env) (W:qV α A h₀ L φ P8 I xs G keys own) (PL:xs.length<=abA)
  (hk:∀x∈tgts,(adY scope env).names.lookup x=some .local) (hc:∀x∈cn,(adY scope env).names.lookup x=some .cell) (Qs:scope.kind=.function) (QB:∀y∈scope.names,y.2≠.cell)
  (ht:c4 α (f7 sc scope) tgts P8 tg) (hts:dv α ℓ (f7 sc scope) (tgts++cn) QR tc) (he:aa α ℓ (f7 sc scope) (tgts++cn) Q4 te)
  (S:Sn α h₀ L m s.heap st φ (oI++news)) (Qy:own 0 oI) (hf:∀p∈oI,p.1 ∉ bq φ) (h1:∀i,i < tgts.length->ρ[i]?=some none) (h2:oG (α:=α) φ cl news tgts.length cn ρ)
  (t:fq G tg tc te xs ρ [] st Q)
  (P:∀D C ys Ps PG Pu z' its n h' PV QS,Sn α h₀ L m h' Ps PG ([(C,z'),(D,bV its n)]++Pu)->NsObj z' QS->a9 [α.tab] φ news PG Pu->(∀p∈[(C,z'),(D,bV its n)],p.1 ∉ bq PG)->(∀p∈news,p.1≠C)->bg α.hB Pu PG ys its.toList->Q ys Ps ->
   RR (.ref D) C (.ok .next) { s with heap:=h',toks:=PV }) :
  wpAny (abb α.prog α.w) A (newList []) (λPY Qu=>wpAny (abb α.prog α.w) A (newFunctionEnv scope env.globals cl [] env.qual none .none (some env)) (λVO RC =>
   adx (abb α.prog α.w) A (.compStart (.ListComp Q4 [⟨P8,iter,QR,0⟩] scope pos) 0 (.ref I) PY { VO with scope:=adY scope env }) (RR PY VO.locals) RC) E Qu) E s:=by
 refine adZ (ahE QB (by intro y hy; simp at hy) (λh₁ RU Rx=>?_) Qs)
 dsimp only at RU Rx ⊢
 generalize hH2:s.heap.push { cls:=.type "list",dict:=none,data:=.seq ([]:List aab).toArray }=H2 at RU Rx ⊢
 have hC:H2.objs.size=s.heap.objs.size+1:=by rw [<- hH2,adM]
 refine bv λGG PD=>?_
 obtain⟨n1,n2⟩:=S.nextNone
 have hDC:s.heap.objs.size≠H2.objs.size:=by rw [hC]; exact abc (abv _)
 have W9:∀b o,s.heap.get? b=some o->H2.get? b=some o:=λb o e=>hH2 ▸ aak _ e
 have ZC:H2.get? s.heap.objs.size=some (bV #[] 0):=by rw [<- hH2]; exact abz _ rfl
 have Qp:∀b o,s.heap.get? b=some o->h₁.get? b=some o:=λb o e=>Rx.extBut b o (by rw [hC]; exact abc (abK (abk e))) (aak _ (W9 b o e))
 obtain⟨z,hz,RA⟩:=ns_obj RU
 obtain⟨Sd,U7⟩:=S.new1 (h':=H2) n1 n2 ZC W9
 obtain⟨m1,m2⟩:=Sd.nextNone
 obtain⟨Sc,hfc⟩:=Sd.new1 (h':=h₁) (I:=H2.objs.size) (z:=z) m1 m2 hz λb o e=>Rx.extBut b o (abc (abk e)) (aak _ e)
 refine PD ?_
 have Xu:∀p∈news,p.1≠H2.objs.size:=λp hp e=>by
  have:=(Sd.N p (aas _ (aas _ hp))).1
  rw [e,m1] at this; cases this
 have Pv:Sn α h₀ L m h₁ st φ (oT H2.objs.size s.heap.objs.size oI z #[] 0++news):=by
  refine Sc.same ?_ (λp hp=>?_) (λp hp=>?_)
  ·have:=Sc.W.nodup
   simp only [abB,abg,abL,ada,abx] at this ⊢
   have q:(oI.map (·.1)++H2.objs.size::s.heap.objs.size::news.map (·.1)).Perm (H2.objs.size::s.heap.objs.size::(oI.map (·.1)++news.map (·.1))):=by
    refine afX.trans (.cons _ afX)
   exact q.nodup_iff.mpr this
  ·simp only [adT,aby,abu,or_false] at hp ⊢
   rcases hp with hp | hp | hp | hp
   ·exact .inl (.inr (.inl hp))
   ·exact .inl (.inr (.inr hp))
   ·exact .inl (.inl hp)
   ·exact .inr hp
  ·simp only [adT,aby,abu,or_false] at hp ⊢
   rcases hp with (hp | hp | hp) | hp
   ·exact .inr (.inr (.inl hp))
   ·exact .inl hp
   ·exact .inr (.inl hp)
   ·exact .inr (.inr (.inr hp))
 have Tn:∀p∈oT H2.objs.size s.heap.objs.size oI z #[] 0,p.1 ∉ bq φ:=λp hp=>by
  rcases dW hp with hp | hp
  ·exact hf p hp
  ·rcases bM hp with rfl | hp
   ·exact hfc
   ·rw [cr hp]; exact U7
 have Vj:∀Qu:aah,Qu={ s with heap:=h₁,toks:=s.toks+([]:List (Str×aab)).length } ->
   adx (abb α.prog α.w) A (.compLoop (.ListComp Q4 [⟨P8,iter,QR,0⟩] scope pos) 0 (.ref I) (.ref s.heap.objs.size) (adt scope cl H2.objs.size env))
    (RR (.ref s.heap.objs.size) H2.objs.size) Qu:=by
  rintro Qu rfl
  refine HD Cx Dx W PL hk hc Qs ht hts he Pv Qy Tn RA ?_ h2 t λys Ps PG Pu z' its n h' PV QS S' Q1 g' Sf r' t'=>P _ _ ys Ps PG Pu z' its n h' PV QS S' Q1 g' Sf Xu r' t'
  intro i x V hx hV
  rw [h1 i (bP hx).1] at hV
  cases hV
 exact codeAny_compStart_list (Vj _ rfl) (W.self _ m st φ oI ([(H2.objs.size,z),(s.heap.objs.size,bV #[] 0)]++news) _ _ (by rw [<- abL]; exact Pv) Qy (Vj _ rfl))
noncomputable def jw (nT:Nat)(caps:List Nat)(ρ:aG):aG:=abS nT none++caps.map λi=>(ρ[i]?).join
def c7 (nT:Nat)(caps:List Nat)(src:TI)(tg:TG)(c:TB)(e:TE):TE:=λρ st Q=>(caps.all λi=>((ρ[i]?).join).isSome)=true/\src ρ st λxs G Pt=>xs.length<=abA/\fq G tg c e xs (jw nT caps ρ) [] Pt λys Pz=>Q (.ref Pz.length) (Pz++[.list ys])
structure f6 (α:bC)(ℓ:Nat)(sc scope:abJ)(slots tgts cn:List Str)(caps:List Nat)(P8:Expr)(QR:List Expr)(Q4:Expr)(tg:TG)(tc:TB)(te:TE):Prop where
 capN:caps.map (λi=>slots[i]?)=cn.map some
 kT:(tgts.all λx=>(f7 sc scope).names.lookup x == some .local)=true
 kC:(cn.all λx=>(f7 sc scope).names.lookup x == some .cell && sc.names.lookup x == some .cell && scope.names.lookup x == some .free)=true
 free:(scope.names.all λp=>p.2 != .free || cn.contains p.1)=true
 kind:scope.kind=.function
 cell:(scope.names.all λp=>p.2 != .cell)=true
 names:(scope.names.all λp=>p.2 != .local || scope.names.lookup p.1 == some .local)=true
 t:c4 α (f7 sc scope) tgts P8 tg
 ts:dv α ℓ (f7 sc scope) (tgts++cn) QR tc
 e:aa α ℓ (f7 sc scope) (tgts++cn) Q4 te
section
variable {caps:List Nat}{QR:List Expr}{Q4:Expr}{tg:TG}{tc:TB}{te:TE}
theorem f6.slot (K:f6 α ℓ sc scope slots tgts cn caps P8 QR Q4 tg tc te){x:Str}(hx:x∈cn):∃(i j:Nat),cn[i]?=some x/\caps[i]?=some j/\slots[j]?=some x:=by
 obtain⟨i,hi,e⟩:=aex.mp hx
 have Rf:cn[i]?=some x:=by rw [aa9 hi,e]
 have RY:(caps.map (λi=>slots[i]?))[i]?=some (some x):=by rw [K.capN,abC,Rf]; rfl
 rw [abC] at RY
 cases hj:caps[i]? with
 | none=>rw [hj] at RY; cases RY
 | some j=>rw [hj] at RY; exact⟨i,j,Rf,hj,abi RY⟩
theorem f6.closure (K:f6 α ℓ sc scope slots tgts cn caps P8 QR Q4 tg tc te)(D:Ce sc env){ρ:aG}(Lo:Lc α slots env L m news φ ρ)(hs:(caps.all λi=>((ρ[i]?).join).isSome)=true) :
  ∃cl,agt scope env=pure cl/\∀x∈cn,cl.lookup x=env.cells.lookup x:=by
 have YM:∀x∈cn,(env.cells.lookup x).isSome:=λx hx=>by
  refine bv λGG PD=>?_
  obtain⟨i,j,h1,h2,h3⟩:=K.slot hx
  have:=iW hs j (abh h2)
  obtain⟨V,hV⟩:=ady.mp this
  have Xb:ρ[j]?=some (some V):=by
   cases q:ρ[j]? with
   | none=>rw [q] at hV; cases hV
   | some w=>rw [q] at hV; exact congrArg some hV
  obtain⟨v,hl,r⟩:=Lo j x V h3 Xb
  refine PD ?_
  have hk:=iW K.kC _ hx
  simp only [abZ,beq_iff_eq] at hk
  have Qs:env.kindOf x=some .cell:=by unfold ab9; rw [D.scope]; exact hk.1.2
  rcases hl with ⟨q,_⟩ | ⟨q,_⟩ | ⟨_,c,o,hc,_⟩
  ·rw [Qs] at q; cases q
  ·rw [Qs] at q; cases q
  ·rw [hc]; rfl
 obtain⟨cl,e,h1,h2⟩:=FH (env:=env) (scope:=scope) (λp hp hk=>by
  have:=iW K.free p hp
  rw [hk] at this
  exact YM p.1 (by simpa using this))
 refine⟨cl,e,λx hx=>h2 x ?_⟩
 have:=iW K.kC _ hx
 simp only [abZ,beq_iff_eq] at this
 exact dO this.2
theorem f6.capsOk (K:f6 α ℓ sc scope slots tgts cn caps P8 QR Q4 tg tc te)(D:Ce sc env){cl:List (Str×Addr)}(Q5:∀x∈cn,cl.lookup x=env.cells.lookup x){ρ:aG}(Lo:Lc α slots env L m news φ ρ) :
  oG (α:=α) φ cl news tgts.length cn (jw tgts.length caps ρ):=by
 intro i x V hx hV
 have RY:(caps.map (λi=>slots[i]?))[i]?=some (some x):=by rw [K.capN,abC,hx]; rfl
 rw [abC] at RY
 cases hj:caps[i]? with
 | none=>rw [hj] at RY; cases RY
 | some j =>
  rw [hj] at RY
  have QG:slots[j]?=some x:=abi RY
  have Xb:ρ[j]?=some (some V):=by
   unfold jw at hV
   rw [aeA (by simp),List.length_replicate,afo,abC,hj] at hV
   have Yt:(ρ[j]?).join=some V:=abi hV
   cases q:ρ[j]? with
   | none=>rw [q] at Yt; cases Yt
   | some w=>rw [q] at Yt; exact congrArg some Yt
  obtain⟨v,hl,r⟩:=Lo j x V QG Xb
  have hm:x∈cn:=abh hx
  have hk:=iW K.kC _ hm
  simp only [abZ,beq_iff_eq] at hk
  have Qs:env.kindOf x=some .cell:=by unfold ab9; rw [D.scope]; exact hk.1.2
  rcases hl with ⟨q,_⟩ | ⟨q,_⟩ | ⟨_,c,o,hc,a1,a2,a3,a4⟩
  ·rw [Qs] at q; cases q
  ·rw [Qs] at q; cases q
  ·exact⟨v,c,o,(Q5 x hm).trans hc,a1,a2,a3,a4,r⟩
theorem Sn.compEnd {C D:Addr}{z:Obj}{its:Array aab}{n:Nat}{mC:Str->Option aab}{ys:List MV}(S:Sn α h₀ L m h st φ ([(C,z),(D,bV its n)]++news))(hz:NsObj z mC)(hf:∀p∈[(C,z),(D,bV its n)],p.1 ∉ bq φ)(hs:adf C h h')(r:bg α.hB news φ ys its.toList) :
  Sn α h₀ L m h' (st++[.list ys]) (φ++[(D,D)]) ((D,bV its n)::news)/\a9 [α.tab] φ news (φ++[(D,D)]) ((D,bV its n)::news):=by
 have nd:=S.W.nodup
 have ZG:C≠D:=λe=>by subst e; simp at nd
 have pl:Pl [(C,z),(D,bV its n)]:=λp hp=>by
  rcases bM hp with rfl | hp
  ·obtain⟨es,ep,hd,_⟩:=hz; exact lg hd
  ·rw [cr hp]; exact qB (c:="list") rfl (by decide)
 have Pv:Sn α h₀ L m h' st φ ([(D,bV its n)]++news):=S.own pl hf (λb y hb e=>hs.extBut b y (λq=>hb (by
   have q':b=C:=q
   rw [q']; exact .head _)) e) (λp hp=>by
   rw [cr hp]
   exact hs.extBut _ _ (aec ZG) (S.N.get (aap _ (.tail _ (.head _))))) (by simp) (λp hp=>by rw [cr hp]; exact .tail _ (.head _))
 have hD:D ∉ bq φ:=hf (D,bV its n) (.tail _ (.head _))
 have P6:∀p∈news,p.1≠D:=λp hp e=>by
  have:=Pv.W.nodup
  rw [abB,abO] at this
  exact this.2.2 D (.head _) p.1 (ed ⟨p,hp,rfl⟩) e.symm
 refine⟨⟨Pv.F,Pv.N,Pv.W.alloc hD hD ⟨rfl,its,n,.head _,bg.mono' (abF _ _) (λ_ _ h=>.tail _ h) r⟩⟩,.sub (abF _ _) (λp h=>.tail _ h) λp hp h=>?_⟩
 rcases lI h with h | h | h
 ·exact h
 ·exact absurd h (P6 p hp)
 ·exact absurd h (P6 p hp)
theorem f6.kinds (K:f6 α ℓ sc scope slots tgts cn caps P8 QR Q4 tg tc te)(D:Ce sc env):(∀x∈tgts,(adY scope env).names.lookup x=some .local)/\(∀x∈cn,(adY scope env).names.lookup x=some .cell)/\(∀y∈scope.names,y.2≠.cell)/\(∀y∈scope.names,y.2=.local->scope.names.lookup y.1=some .local):=by
 refine⟨λx hx=>?_,λx hx=>?_,λy hy=>?_,λy hy hl=>?_⟩
 ·rw [sF scope D]; exact eq_of_beq (iW K.kT x hx)
 ·rw [sF scope D]
  have:=iW K.kC x hx
  rw [abZ,abZ] at this
  exact eq_of_beq this.1.1
 ·have:=iW K.cell y hy
  simpa using this
 ·have:=iW K.names y hy
  rw [hl] at this
  simpa using this
theorem nv {i:Nat}{nT:Nat}{ρ:aG}(h:i < nT):(jw nT caps ρ)[i]?=some none:=by
 unfold jw
 rw [abl (by simpa using h),ae0,if_pos h]
theorem ez {iter:Expr}{pos:Pos}{src:TI}(K:f6 α ℓ sc scope slots tgts cn caps P8 QR Q4 tg tc te)(hi:ch α ℓ sc slots P8 iter src)
  (hs:autoParam (∀env x,aes iter env x=pure x) aI):aa α ℓ sc slots (.ListComp Q4 [⟨P8,iter,QR,0⟩] scope pos) (c7 tgts.length caps src tg tc te):=by
 intro A h₀ L env C D s m st φ news ρ PB Lo Q Qc E t P
 refine bv λGG PD=>?_
 obtain⟨WX,t⟩:=t
 obtain⟨cl,Q5,Vt⟩:=K.closure D Lo WX
 obtain⟨k1,k2,k3,k4⟩:=K.kinds D
 refine PD ?_
 rw [eval_ListComp]
 refine aeR (use:=none) rfl (hs env) Q5 K.kind k4 (hi A h₀ L env C D s m st φ news ρ PB Lo _ _ E t λI xs G keys own o Pt Px PC h₁ PA Pv Py W Qy U1 hI Pw=>?_)
 obtain⟨PL,Pw⟩:=Pw
 refine xV (ℓ:=ℓ) (RR:=λPY Ca=>compPost (abb α.prog α.w) A E none Qc PY Ca) C D W PL k1 k2 K.kind k3 K.t K.ts K.e Pv Qy U1 (λi hi=>nv hi) (K.capsOk D Vt (Lo.grow Py)) Pw ?_
 intro Da Ca ys Ps PG Pu z' its n h' PV QS S' Q1 g' Sf _ r' t'
 refine⟨QS,Q1.ns (S'.N.get (aap _ (.head _))),λVx TF=>?_⟩
 obtain⟨Zn,g''⟩:=S'.compEnd Q1 Sf TF r'
 exact P _ _ _ _ _ Vx PV Zn ((Py.trans g').trans g'') (.ref (d:=Da) (by rw [<- S'.W.len]; simp)) t'
theorem iz {iter:Expr}{y:Str}{py pos Z8:Pos}{j:Nat}{src:TI}(K:f6 α ℓ sc scope slots tgts cn caps P8 QR Q4 tg tc te)(hi:ch α ℓ sc slots P8 iter src)(hy:slots[j]?=some y)(hyl:sc.names.lookup y=some .local)
  (WY:∀env,env.scope=sc->aen (.ListComp Q4 [⟨P8,iter,QR,0⟩] scope pos) (some (.Name y py)) Z8.line env=pure true:=by rintro⟨_⟩ rfl; rfl)
  (hs:autoParam (∀env x,aes iter env x=pure x) aI):au α ℓ sc slots (.Assign [.Name y py] (.ListComp Q4 [⟨P8,iter,QR,0⟩] scope pos) Z8) (aX j (c7 tgts.length caps src tg tc te)):=by
 intro A h₀ L env C D s m st φ news ρ PB Lo O Q Qc E t P
 refine bv λGG PD=>?_
 obtain⟨WX,t⟩:=t
 obtain⟨cl,Q5,Vt⟩:=K.closure D Lo WX
 obtain⟨k1,k2,k3,k4⟩:=K.kinds D
 refine PD ?_
 rw [exec_Assign_Name_used _ _ _ _ (WY env D.scope)]
 refine aac (adl (aac ?_))
 show wpAny _ A (do let _ <- comprehension (.ListComp Q4 [⟨P8,iter,QR,0⟩] scope pos) scope env _ (newList []) false (eval iter env) (some (afy (.Name y py) env))) _ _ s
 refine aac (abR (aeR (use:=some (afy (.Name y py) env)) (Q:=λ_ s'=>Qc .next s') rfl (hs env) Q5 K.kind k4
  (hi A h₀ L env C D s m st φ news ρ PB Lo _ _ E t λI xs G keys own o Pt Px PC h₁ PA Pv Py W Qy U1 hI Pw=>?_)) (λ_ s' hq=>aa8 (aa8 hq)) λ_ _ e=>e)
 obtain⟨PL,Pw⟩:=Pw
 refine xV (ℓ:=ℓ) (RR:=λPY Ca=>compPost (abb α.prog α.w) A E (some (afy (.Name y py) env)) (λ_ s'=>Qc .next s') PY Ca) C D W PL k1 k2 K.kind k3 K.t K.ts K.e Pv Qy U1 (λi hi=>nv hi) (K.capsOk D Vt (Lo.grow Py)) Pw ?_
 intro Da Ca ys Ps PG Pu z' its n h' PV QS S' Q1 g' Sf hCn r' t'
 have g2:=Py.trans g'
 have hCL:Ca≠L:=(S'.N _ (aap _ (.head _))).2.1
 have hC0:h₀.get? Ca=none:=(S'.N _ (aap _ (.head _))).2.2
 have nsC:=Q1.ns (S'.N.get (aap _ (.head _)))
 show wpAny _ A (afy (.Name y py) env (.ref Da)) _ _ _
 refine ab1 (adr (env:=env) (by unfold ab9; rw [D.scope]; exact hyl) (by rw [O.loc]; exact S'.F.ns) (λPM X7 Si=>?_) (by rw [D.scope,D.kind]; rfl))
 rw [O.loc] at X7 Si
 have PF:Sn α h₀ L (λz=>if z=y then some (.ref Da) else m z) PM Ps PG ([(Ca,z'),(Da,bV its n)]++Pu):=⟨S'.F.set X7 Si,S'.N.set Si,S'.W⟩
 refine⟨QS,nsC.sameBut Si hCL,λVx TF=>?_⟩
 obtain⟨P3,Qe⟩:=PF.compEnd Q1 Sf TF r'
 have g:=g2.trans Qe
 have rD:RV α.hB ((Da,bV its n)::Pu) (PG++[(Da,Da)]) (.ref Ps.length) (.ref Da):=.ref (d:=Da) (by rw [<- S'.W.len]; simp)
 exact P .next .next _ _ _ _ _ Vx _ P3 ((Lo.grow g).put (O.grow g) hy (by unfold ab9; rw [D.scope]; exact hyl) rD) (O.grow g) (dE g) .next t'
end
end
end
noncomputable def ee:MV->Option abU
 | .none=>some .none
 | .bool b=>some (.bool b)
 | .int i=>some (.int i)
 | .str x=>if ab4 x then some (.str x) else none
 | _=>none
noncomputable def fA (xs:List MV):Option (List abU):=xs.mapM ee
noncomputable def lC (f:MV->Option abU)(o:Option MO):Option abU:=match o with | some (.list xs)=>(xs.mapM f).map .list | _=>none
noncomputable def fu (st:MS):MV->Option abU
 | .tup xs=>(fA xs).map .tuple
 | .ref i=>lC ee st[i]?
 | V=>ee V
theorem Jc {f:MV->Option abU}{o:Option MO}{d:abU}{G:Prop}(e:lC f o=some d)(k:∀xs ds,o=some (.list xs)->xs.mapM f=some ds->d=.list ds->G):G:=by
 cases o with
 | none=>cases e
 | some x=>cases x with
  | list xs=>exact J9 e λds h1 h2=>k xs ds rfl h1 h2
  | _=>cases e
section
variable {α:bC}{ℓ:Nat}{h₀ h:Heap}{L:Addr}{m:Str->Option aab}{s:aah}{st:MS}{φ:bk}{news:aO}
set_option tactic.hygienic true in
theorem qz {hB:Heap}{V:MV}{v:aab}{d:abU}(r:RV hB news φ V v)(e:ee V=some d):Reads h v d []/\d.canLay0=true/\d.depth<=1:=by
 cases r with
 | none=>cases e; exact⟨.none,rfl,by simp [aed]⟩
 | bool b=>cases e; exact⟨.bool b,rfl,by simp [aed]⟩
 | int i t=>cases e; exact⟨.int i t,rfl,by simp [aed]⟩
 | str x t =>
  dsimp only [ee] at e
  split at e
  ·rename_i hx
   cases e
   exact⟨.str x t,by simpa [ad7] using hx,by simp [aed]⟩
  ·cases e
 | _=>cases e
def Rd (h:Heap)(k:Nat)(v:aab)(d:abU):Prop:=(∃as,Reads h v d as)/\d.canLay0=true/\d.depth<=k
def za (h:Heap)(k:Nat)(vs:List aab)(ds:List abU):Prop:=(∃as,ReadsAll h vs ds as)/\adD ds=true/\adh ds<=k
theorem za.of {hB:Heap}{f:MV->Option abU}{k:Nat}(hf:∀V v d,RV hB news φ V v->f V=some d->Rd h k v d){Vs:List MV}:∀{vs:List aab}{ds:List abU},bg hB news φ Vs vs->Vs.mapM f=some ds->za h k vs ds:=by
 induction Vs with
 | nil=>intro vs ds r e; apply bg.n r; cases e; exact⟨⟨_,.nil⟩,by simp [adD],by simp [adh]⟩
 | cons V Vs ih =>
  intro vs ds r e
  apply bg.c r; intro v vs r rs
  refine xN e λd ds e1 e2 e3=>?_
  have a:=hf _ _ _ r e1
  have b:=ih rs e2
  rw [e3]
  exact⟨let ⟨as,x⟩:=a.1; let ⟨bs,y⟩:=b.1; ⟨_,.cons x y⟩,by unfold adD; rw [a.2.1,b.2.1]; rfl,by unfold adh; exact Nat.max_le.mpr ⟨a.2.2,b.2.2⟩⟩
theorem za.list {k:Nat}{a:Addr}{its:Array aab}{n:Nat}{ds:List abU}(b:za h k its.toList ds)(hg:h.get? a=some (bV its n)):Rd h (k+1) (.ref a) (.list ds):=
 ⟨let ⟨_,x⟩:=b.1; ⟨_,.list hg rfl rfl x⟩,by simpa [ad7] using b.2.1,by unfold aed; have:=b.2.2; walk_at "o"⟩
theorem za.tuple {k:Nat}{a:Addr}{its:Array aab}{ds:List abU}(b:za h k its.toList ds)(hg:h.get? a=some (bz its)):Rd h (k+1) (.ref a) (.tuple ds):=
 ⟨let ⟨_,x⟩:=b.1; ⟨_,.tuple hg rfl rfl x⟩,by simpa [ad7] using b.2.1,by unfold aed; have:=b.2.2; walk_at "o"⟩
theorem Rd.ref (S:Sn α h₀ L m h st φ news){f:MV->Option abU}{k i:Nat}{a dd:Addr}{d:abU}(PP:φ[i]?=some (a,dd))(hf:∀V v d,RV α.hB news φ V v->f V=some d->Rd h k v d)(e:lC f st[i]?=some d):Rd h (k+1) (.ref a) d:=by
 refine Jc e λxs ds hi e1 e2=>?_
 refine S.W.listC hi PP λits n PP hm q=>?_
 rw [e2]; exact (za.of hf q e1).list (S.N.get hm)
theorem A4 {hB:Heap}(V:MV)(v:aab)(d:abU)(r:RV hB news φ V v)(e:ee V=some d):Rd h 1 v d:=let ⟨a,b⟩:=qz r e; ⟨⟨_,a⟩,b⟩
theorem uY (C:α.hB.StaysIn h₀)(S:Sn α h₀ L m h st φ news){V:MV}{v:aab}{d:abU}(r:RV α.hB news φ V v)(e:fu st V=some d):Rd h 2 v d:=by
 cases V with
 | tup xs =>
  apply RV.t r; intro a its hh q
  refine J9 e λds e1 e2=>?_
  rw [e2]; exact (za.of A4 q e1).tuple (hh.elim (λhh=>S.N.get hh) λhh=>S.F.keep _ _ (C _ _ hh))
 | ref i=>apply RV.r r; intro a dd PP; exact .ref S PP A4 e
 | _=>have a:=A4 (h:=h) _ _ _ r e; exact⟨a.1,a.2.1,agF a.2.2⟩
theorem Rd.shaped {k:Nat}{v:aab}{d:abU}(a:Rd h k v d)(hk:k<=3):(∃as,Reads h v d as)/\afC d=true:=by
 refine⟨a.1,?_⟩
 unfold afC
 rw [a.2.1,ah4]
 exact decide_eq_true (aaj a.2.2 (aaj hk (by decide)))
theorem iG (C:α.hB.StaysIn h₀)(S:Sn α h₀ L m h st φ news){V:MV}{v:aab}{d:abU}(r:RV α.hB news φ V v)(e:fu st V=some d):(∃as,Reads h v d as)/\afC d=true:=(uY C S r e).shaped (by decide)
noncomputable def w1 (st:MS)(V:MV):Option abU:=match V with | .ref i=>lC (fu st) st[i]? | _=>none
theorem u7 (C:α.hB.StaysIn h₀)(S:Sn α h₀ L m h st φ news){V:MV}{v:aab}{d:abU}(r:RV α.hB news φ V v)(e:w1 st V=some d):(∃as,Reads h v d as)/\afC d=true:=by
 cases V with
 | ref i=>apply RV.r r; intro a dd PP; exact (Rd.ref S PP (λ_ _ _ r e=>uY C S r e) e).shaped (abp _)
 | _=>cases e
def oM (V W:MV)(K:Str->Str->Prop)(R:Prop):Prop:=match V with | .str x=>(match W with | .str y=>K x y | _=>R) | _=>R
theorem jl {V W:MV}{v w:aab}{hB:Heap}{K:Str->Str->Prop}{R:Prop}{P:aab->aab->Prop}(r1:RV hB news φ V v)(r2:RV hB news φ W w)(t:oM V W K R)(k:∀x y t u,K x y->P (.str x t) (.str y u))(k':R->P v w):P v w:=by
 cases V with
 | str x=>cases W with
  | str y=>apply RV.s r1; intro tx; apply RV.s r2; intro ty; exact k x y tx ty t
  | _=>exact k' t
 | _=>exact k' t
def qF (a b:Option abU)(K:abU->abU->Prop)(R:Prop):Prop:=match a with | some d=>(match b with | some e=>K d e | none=>R) | none=>R
theorem vW {a b:Option abU}{K:abU->abU->Prop}{R G:Prop}(t:qF a b K R)(k:∀d e,a=some d->b=some e->K d e->G)(k':R->G):G:=by
 cases a with
 | none=>exact k' t
 | some d=>cases b with
  | none=>exact k' t
  | some e=>exact k d e rfl rfl t
def bN:TP:=two λV W st Q=>oM V W (λx y=>Q (.bool (decide (x=y))) st) (qF (fu st V) (fu st W) (λd e=>Q (.bool (abH d e)) st) (qF (w1 st V) (w1 st W) (λd e=>Q (.bool (abH d e)) st) False))
def g8:TP:=two λV W st Q=>oM V W (λx y=>Q (.bool (!decide (x=y))) st) (qF (fu st V) (fu st W) (λd e=>Q (.bool (!abH d e)) st) False)
theorem Fb (x y:Str):(x.cps.toList == y.cps.toList)=decide (x=y):=by
 by_cases h:x=y
 ·subst h; simp
 ·rw [decide_eq_false h]
  refine Bool.eq_false_iff.mpr λe=>h ?_
  have:=eq_of_beq e
  cases x; cases y
  congr
  exact agY.mp this
theorem bc:aM α 0 (c2 (acf .Eq)) bN:=g5 λA h₀ L C s m st φ news V W v w S r1 r2 Q Qc E t P=>by
 refine jl (P:=λv w=>wpAny (abb α.prog α.w) A (acf .Eq v w) Qc E s) r1 r2 t (λx y tx ty t=>PySem.P.eq_str (by rw [Fb]; exact P.now S (.bool _) t s.toks)) λt=>vW t (λd e h1 h2 t=>?_) λt=>vW t (λd e h1 h2 t=>?_) aha
 ·obtain⟨⟨as,ra⟩,sa⟩:=iG C.stays S r1 h1
  obtain⟨⟨bs,rb⟩,sb⟩:=iG C.stays S r2 h2
  exact eq_dataH ra rb sa sb (by have:=C.units; walk_at "o") (P.now S (.bool _) t s.toks)
 ·obtain⟨⟨as,ra⟩,sa⟩:=u7 C.stays S r1 h1
  obtain⟨⟨bs,rb⟩,sb⟩:=u7 C.stays S r2 h2
  exact eq_dataH ra rb sa sb (by have:=C.units; walk_at "o") (P.now S (.bool _) t s.toks)
theorem ik:aM α 0 (c2 (acf .NotEq)) g8:=g5 λA h₀ L C s m st φ news V W v w S r1 r2 Q Qc E t P=>by
 refine jl (P:=λv w=>wpAny (abb α.prog α.w) A (acf .NotEq v w) Qc E s) r1 r2 t (λx y tx ty t=>PySem.P.ne_str (by rw [bne,Fb]; exact P.now S (.bool _) t s.toks)) λt=>vW t (λd e h1 h2 t=>?_) aha
 obtain⟨⟨as,ra⟩,sa⟩:=iG C.stays S r1 h1
 obtain⟨⟨bs,rb⟩,sb⟩:=iG C.stays S r2 h2
 exact ne_dataH ra rb sa sb (by have:=C.units; walk_at "o") (P.now S (.bool _) t s.toks)
noncomputable def lF (y x:Str):Bool:=!(adE x y 0 x.length 1).isEmpty
def wX (a b:Option abU)(K:abU->List abU->Prop):Prop:=match a with
 | some d=>(match b with | some D=>(match D with | .list ds=>K d ds | .tuple ds=>K d ds | _=>False) | none=>False)
 | none=>False
theorem zo {a b:Option abU}{K:abU->List abU->Prop}{G:Prop}(t:wX a b K)(k1:∀d ds,a=some d->b=some (.list ds)->K d ds->G)(k2:∀d ds,a=some d->b=some (.tuple ds)->K d ds->G):G:=by
 cases a with
 | none=>exact t.elim
 | some d=>cases b with
  | none=>exact t.elim
  | some D=>cases D with
   | list ds=>exact k1 d ds rfl rfl t
   | tuple ds=>exact k2 d ds rfl rfl t
   | _=>exact t.elim
def im (UG:Bool):TP:=two λV W st Q=>oM V W (λy x=>Q (.bool (xor UG (lF y x))) st) (wX (ee V) (fu st W) λd ds=>Q (.bool (xor UG (ds.any λy=>abH y d))) st)
theorem H8 (b:Bool):(xor false b)=b:=by cases b <;> rfl
theorem zJ (b:Bool):(xor true b)=!b:=by cases b <;> rfl
theorem j7 {ds:List abU}(h:afC (.list ds)=true\/afC (.tuple ds)=true):adD ds=true:=by
 rcases h with h | h
 ·have:=ahb h; simpa [ad7] using this
 ·have:=ahb h; simpa [ad7] using this
theorem mQ:aM α 0 (c2 (acf .In)) (im false):=g5 λA h₀ L C s m st φ news V W v w S r1 r2 Q Qc E t P=>by
 refine jl (P:=λv w=>wpAny (abb α.prog α.w) A (acf .In v w) Qc E s) r1 r2 t (λx y tx ty t=>PySem.P.in_str (P.now S (.bool _) (by rw [H8] at t; exact t) s.toks)) λt=>zo t (λd ds h1 h2 t=>?_) λd ds h1 h2 t=>?_
 all_goals
  obtain⟨⟨bs,rb⟩,sb⟩:=iG C.stays S r2 h2
  obtain⟨ra,la,da⟩:=qz (h:=s.heap) r1 h1
  rw [H8] at t
 ·exact SeqAt.in_list_reads rb ra (j7 (.inl sb)) la (by have:=C.units; have:=afY (adh ds) d.depth; walk_at "o") (P.now S (.bool _) t s.toks)
 ·exact SeqAt.in_tuple_reads rb ra (j7 (.inr sb)) la (by have:=C.units; have:=afY (adh ds) d.depth; walk_at "o") (P.now S (.bool _) t s.toks)
theorem lE:aM α 0 (c2 (acf .NotIn)) (im true):=g5 λA h₀ L C s m st φ news V W v w S r1 r2 Q Qc E t P=>by
 refine jl (P:=λv w=>wpAny (abb α.prog α.w) A (acf .NotIn v w) Qc E s) r1 r2 t (λx y tx ty t=>PySem.P.notIn_str (P.now S (.bool _) (by rw [zJ] at t; exact t) s.toks)) λt=>zo t (λd ds h1 h2 t=>?_) λd ds h1 h2 t=>?_
 all_goals
  obtain⟨⟨bs,rb⟩,sb⟩:=iG C.stays S r2 h2
  obtain⟨ra,la,da⟩:=qz (h:=s.heap) r1 h1
  rw [zJ] at t
 ·exact SeqAt.notIn_list_reads rb ra (j7 (.inl sb)) la (by have:=C.units; have:=afY (adh ds) d.depth; walk_at "o") (P.now S (.bool _) t s.toks)
 ·exact SeqAt.notIn_tuple_reads rb ra (j7 (.inr sb)) la (by have:=C.units; have:=afY (adh ds) d.depth; walk_at "o") (P.now S (.bool _) t s.toks)
end
section
variable {α:bC}{ℓ:Nat}{h₀ h:Heap}{L:Addr}{m:Str->Option aab}{s:aah}{st:MS}{φ:bk}{news:aO}
theorem Cf.under {A:abt}(C:Cf α (ℓ+1) A h₀ L)(c:Addr)(vs:List aab):Cf α ℓ (A.under (.builtin "type.__call__" ⟨.ref c::vs,[]⟩)) h₀ L:=by
 refine C.frC λA₀ outer Ql B hA hf hk=>?_
 refine⟨C.ok,⟨A₀,outer,Ql,B,hA,hf,hk⟩,C.hand,?_,?_,C.inner⟩
 ·exact C.dep1
 ·have h1:=C.units
  have:(A.under (.builtin "type.__call__" ⟨.ref c::vs,[]⟩)).units=A.units+1:=rfl
  walk_at "o"
def kO (C:Addr)(SI:TP):TP:=λVs st Q=>SI (.ref st.length::Vs) (st++[.inst C []]) λV Ps=>V=.none/\Q (.ref st.length) Ps
theorem mJ {C fI:Addr}{SI:TP}(hm:aji α.K C=true)(hi:abX α.K (.ref C) "__init__"=some (some (.ref fI))) (hf:isFn α.K (.ref fI)=true) (hI:bJ α ℓ fI SI):aM α (ℓ+1) (λvs=>abN (.ref C) vs) (kO C SI):=by
 intro A h₀ L Cx s m st φ news Vs vs S r Q Qc E t P
 refine call_cls S.F Cx.X S.N hm hi hf λx dx h' F' N' l1 l2=>?_
 have e1:∀p∈news,p.1≠dx:=λp hp=>abc (l1 p hp)
 have e2:∀p∈((dx,dictOf [] 0)::news:aO),p.1≠x:=λp hp=>by
  rcases bM hp with rfl | hp
  ·exact abc l2
  ·exact abc (agh (l1 p hp) l2)
 have W2:Wd α st φ ((x,agE C dx)::(dx,dictOf [] 0)::news):=(S.W.more e1).more e2
 have fd:=S.notFoot e1
 have fx:x ∉ bq φ:=S.notFoot λp hp=>e2 p (.tail _ hp)
 have W3:Wd α (st++[.inst C []]) (φ++[(x,dx)]) ((x,agE C dx)::(dx,dictOf [] 0)::news):=W2.alloc fx fd ⟨.head _,⟨λ_ h=>(by cases h),abP _⟩,[],0,.tail _ (.head _),.nil⟩
 have g:a9 [α.tab] φ news (φ++[(x,dx)]) ((x,agE C dx)::(dx,dictOf [] 0)::news):=.sub (abF _ _) (λp h=>.tail _ (.tail _ h)) λp hp h=>by
  rcases lI h with h | h | h
  ·exact h
  ·exact absurd h (e2 p (.tail _ hp))
  ·exact absurd h (e1 p hp)
 have rx:RV α.hB ((x,agE C dx)::(dx,dictOf [] 0)::news) (φ++[(x,dx)]) (.ref st.length) (.ref x):=.ref (d:=dx) (by rw [<- S.W.len]; simp)
 refine hI _ h₀ L (Cx.under _ _) { s with heap:=h' } m _ _ _ _ _ ⟨F',N',W3⟩ (.cons rx (r.mono g)) _ _ t λV Pz PE PS v PM PN PF PH P5 PU=>?_
 obtain⟨rfl,PU⟩:=PU
 cases P5
 exact⟨rfl,P _ Pz PE PS _ PM PN PF (g.trans PH) (rx.mono PH) PU⟩
end
inductive Kd | str | list | dict
def Kd.nm:Kd->String | .str=>"str" | .list=>"list" | .dict=>"dict"
def Kd.ok:Kd->MV->MS->Prop
 | .str,V,_=>∃x,V=.str x
 | .list,V,st=>∃i xs,V=.ref i/\st[i]?=some (.list xs)
 | .dict,V,st=>∃i fs ep,V=.ref i/\st[i]?=some (.dict fs ep)
section
variable {α:bC}{ℓ:Nat}{sc:abJ}{slots:List Str}{h₀ h:Heap}{L:Addr}{m:Str->Option aab}{s:aah}{st:MS}{φ:bk}{news:aO}
theorem Kd.type {k:Kd}{V:MV}{v:aab}(S:Sn α h₀ L m s.heap st φ news)(r:RV α.hB news φ V v)(h:k.ok V st):s.TypeIs v k.nm/\∀a,v=.ref a->∃o,s.heap.get? a=some o/\o.dict=none:=by
 cases k with
 | str =>
  obtain⟨x,rfl⟩:=h
  cases r
  exact⟨typeIs_str _ _ _,λ_ e=>nomatch e⟩
 | list =>
  obtain⟨i,xs,rfl,hi⟩:=h
  apply RV.r r; intro a d PP
  refine S.W.listC hi PP λits n PP hm q=>?_
  exact⟨⟨_,S.N.get hm,rfl⟩,λb e=>by cases e; exact⟨_,S.N.get hm,rfl⟩⟩
 | dict =>
  refine bv λGG PD=>?_
  obtain⟨i,xs,ep,rfl,hi⟩:=h
  refine PD ?_
  apply RV.r r; intro a d PP
  refine bv λGG PD=>?_
  obtain⟨rfl,e2,o,kvs,hm,⟨es,hx,_⟩,q⟩:=S.W.dict hi PP
  refine PD ?_
  exact⟨⟨_,S.N.get hm,hx.1⟩,λb e=>by cases e; exact⟨_,S.N.get hm,hx.2.1⟩⟩
theorem Kd.attrs:∀k:Kd,PlainAttrs k.nm
 | .str=>PySem.F.plainAttrs_str
 | .list=>PySem.F.plainAttrs_list
 | .dict=>PySem.F.plainAttrs_dict
def cq (k:Kd)(S:TP)(o:TE)(args:TL):TE:=λρ st Q=>o ρ st λV Pt=>k.ok V Pt/\args ρ Pt λVs Pz=>S (V::Vs) Pz Q
theorem ba {o:Expr}{name:Str}{Te pos:Pos}{args:List Expr}{k:Kd}{id:String}{S:TP}{To:TE}{T:TL}(ho:aa α ℓ sc slots o To)(hT:ae α ℓ sc slots args T)(hS:aM α ℓ (λvs=>abN (.builtin id) vs) S)
  (slot:Slot k.nm name id) (hty:typeOf (.builtin id)=pure (.type "method_descriptor"))
  (hl:autoParam (args.length < 30) aK) (hp:autoParam ((Te.endLine == pos.line)=true) aR) (hb:autoParam (∀env QQ,af1 o name env QQ=QQ) aI) :
  aa α ℓ sc slots (.Call (.Attribute o name Te) args [] pos) (cq k S To T):=by
 intro A h₀ L env Cx D s m st φ news ρ Qr Lo Q Qc E t P
 refine qf hT.plain hl (hb env) hp (ho A h₀ L env Cx D s m st φ news ρ Qr Lo _ _ E t λV Pt Px PC v h₁ PA Pv Py PO Pw=>?_)
 obtain⟨hk,Pw⟩:=Pw
 obtain⟨hT',hd⟩:=Kd.type (s:={ s with heap:=h₁,toks:=PA }) Pv PO hk
 refine getMethod_builtin hT' k.attrs slot hty hd ?_
 refine bR (α:=α) hT.plain (Pp:=λ_=>True) (λh _=>e7 _ h) (hT.run A h₀ L env Cx D _ m Pt Px PC ρ Pv (Lo.grow Py) pos _ _ E Pw λVs Pz PE PS vs PM PN PF PH P5 PU _=>⟨trivial,?_⟩)
 exact hS A h₀ L Cx _ m Pz PE PS _ _ PF (.cons (PO.mono PH) P5) Q Qc E PU ((P.after Py h₁ PA).after PH PM PN)
def LC:MV->MV->MS->(MV->MS->Prop)->Prop:=λV W st Q=>hO (λi=>cD st[i]? λxs=>xs.length<=abA/\Q .none (st.set i (.list (xs++[W])))) V
def bx:TP:=two LC
theorem cf:aM α ℓ (λvs=>abN (.builtin "list.append") vs) bx:=g5 λA h₀ L C s m st φ news V W v w S r1 r2 Q Qc E t P=>by
 apply r1.oR t; intro i a d PP t
 refine bZ t λxs hi t=>?_
 refine S.W.listC hi PP λits n PP hm q=>?_
 refine append_at (hsz:=by rw [<- abj,q.length]; exact t.1) (S.N.get hm) λh' hs hD=>?_
 obtain⟨Pv,Py⟩:=S.setList (xs':=xs++[W]) (its':=its.push _) (n':=n+1) hi PP hm hs hD (by rw [aet]; exact q.append (.cons r2 .nil))
 exact P _ _ _ _ _ h' _ Pv Py .none t.2
def N5:MV->MS->(MV->MS->Prop)->Prop:=λV st Q=>hO (λi=>cD st[i]? λxs=>xs.length<=abA/\dU xs.getLast? λV=>Q V (st.set i (.list xs.dropLast))) V
def FA:TP:=one N5
theorem EN:aM α ℓ (λvs=>abN (.builtin "list.pop") vs) FA:=oK λA h₀ L C s m st φ news V v S r Q Qc E t P=>by
 apply r.oR t; intro i a d PP t
 refine bZ t λxs hi t=>?_
 refine dH t.2 λV hV t'=>?_
 refine S.W.listC hi PP λits n PP hm q=>?_
 have PL:=q.length
 rw [List.getLast?_eq_getElem?] at hV
 obtain⟨v,hv,rv⟩:=q.get hV
 refine Copied.pop_at (y:=v) (hsz:=by rw [<- abj,PL]; exact t.1) (S.N.get hm) (by rw [<- ads,<- abj,PL]; exact hv) λh' hs hD=>?_
 obtain⟨Pv,Py⟩:=S.setList (xs':=xs.dropLast) (its':=its.pop) (n':=n+1) hi PP hm hs hD (by rw [Array.toList_pop,ahm,ahm,PL]; exact q.take _)
 exact P _ _ _ _ _ h' _ Pv Py (rv.mono Py) t'
noncomputable def theI (V:MV):Option Int:=match V with | .int i=>some i | _=>none
noncomputable def theS (V:MV):Option Str:=match V with | .str i=>some i | _=>none
noncomputable def fD (xs:List MV):Option (List Int):=xs.mapM theI
noncomputable def wd (xs:List MV):Option (List Str):=xs.mapM theS
theorem RV.theI {hB:Heap}{V:MV}{v:aab}{i:Int}{P:aab->Prop}(r:RV hB news φ V v)(e:theI V=some i)(k:∀t,P (.int i t)):P v:=by
 cases r with
 | int j t=>cases e; exact k t
 | _=>cases e
theorem RV.theS {hB:Heap}{V:MV}{v:aab}{i:Str}{P:aab->Prop}(r:RV hB news φ V v)(e:theS V=some i)(k:∀t,P (.str i t)):P v:=by
 cases r with
 | str j t=>cases e; exact k t
 | _=>cases e
theorem qc {hB:Heap}{Vs:List MV}:∀{vs:List aab}{ns:List Int},bg hB news φ Vs vs->fD Vs=some ns->IntsAre vs ns:=by
 induction Vs with
 | nil=>intro vs ns r e; cases r; cases e; exact .nil
 | cons V Vs ih =>
  intro vs ns r e
  apply bg.c r; intro _ _ r rs
  refine xN e λy ys e1 e2 e3=>?_
  rw [e3]; apply r.theI e1; exact λt=>.cons _ _ (ih rs e2)
theorem IR {hB:Heap}{Vs:List MV}:∀{vs:List aab}{ns:List Str},bg hB news φ Vs vs->wd Vs=some ns->StrsAre vs ns:=by
 induction Vs with
 | nil=>intro vs ns r e; cases r; cases e; exact .nil
 | cons V Vs ih =>
  intro vs ns r e
  apply bg.c r; intro _ _ r rs
  refine xN e λy ys e1 e2 e3=>?_
  rw [e3]; apply r.theS e1; exact λt=>.cons _ _ (ih rs e2)
theorem EU {hB:Heap}{vs:List aab}{ns:List Str}(h:StrsAre vs ns):bg hB news φ (ns.map .str) vs:=by
 induction h with
 | nil=>exact .nil
 | cons x t r ih=>exact .cons (.str x t) ih
def MR:MV->MV->MS->(MV->MS->Prop)->Prop:=λV W st Q=>hO (λi=>jK (λk=>cD st[i]? λxs=>dU (fD xs) λns=>PyData.layable0 (.list (ns.map .int))=true/\k∈ns/\Q (.int (ns.idxOf k:Nat)) st) W) V
def tw:TP:=two MR
theorem sx:aM α ℓ (λvs=>abN (.builtin "list.index") vs) tw:=g5 λA h₀ L C s m st φ news V W v w S r1 r2 Q Qc E t P=>by
 apply r1.oR t; intro i a d PP t; apply r2.oI t; intro k tk t
 refine bZ t λxs hi t=>dH t λns Sy t=>?_
 refine S.W.listC hi PP λits n PP hm q=>?_
 exact index_list_ints (vs:=its.toList) (by simpa using S.isList hm) (qc q Sy) t.1 t.2.1 (P.now S (.int _ _) t.2.2 _)
def N9:MV->MS->(MV->MS->Prop)->Prop:=λV st Q=>gF (nK _) (λx=>x.length < 2 ^ 62/\Q (.int x.length) st) (nK _) (λi=>cD st[i]? λxs=>xs.length < 2 ^ 62/\Q (.int xs.length) st) (λns=>ns.length < 2 ^ 62/\Q (.int ns.length) st) V
def dP:TP:=one N9
theorem JF {n:Nat}(h:n < 2 ^ 62):(n:Int) < 2 ^ 63:=by walk_at "o"
theorem c5:aM α ℓ (λvs=>abN (.builtin "len") vs) dP:=oK λA h₀ L C s m st φ news V v S r Q Qc E t P=>by
 apply r.cV t
 ·exact λ_ _ f=>f.elim
 ·intro x tk t; exact PySem.P.len_str (Int.not_le.mpr (JF t.1)) (P.now S (.int _ _) t.2 _)
 ·exact λ_ _ _ _ _ f=>f.elim
 ·intro i a d PP t
  refine bZ t λxs hi t=>?_
  refine S.W.listC hi PP λits n PP hm q=>?_
  have PL:its.size=xs.length:=by rw [<- abj,q.length]
  exact call_len_list (S.isList hm) (by rw [PL]; exact JF t.1) (by rw [PL]; exact P.now S (.int _ _) t.2 _)
 ·intro ns l ws hl hi t
  obtain⟨o,ho,hr⟩:=hl
  have hl:s.heap.IsList l ws.toArray:=⟨o,S.F.keep _ _ (C.stays _ _ ho),hr⟩
  have PL:ws.toArray.size=ns.length:=by rw [ad0]; exact hi.length
  exact call_len_list hl (by rw [PL]; exact JF t.1) (by rw [PL]; exact P.now S (.int _ _) t.2 _)
def LE:MV->MS->(MV->MS->Prop)->Prop:=λV st Q=>hO (λi=>cD st[i]? λxs=>xs.length<=abA/\Q (.ref st.length) (st++[.list xs])) V
def pb:TP:=one LE
theorem qr:aM α ℓ (λvs=>abN (.type "list") vs) pb:=oK λA h₀ L C s m st φ news V v S r Q Qc E t P=>by
 apply r.oR t; intro i a d PP t
 refine bZ t λxs hi t=>?_
 refine S.W.listC hi PP λits n PP hm q=>?_
 exact list_copyK S.F S.N (S.isList hm) (λD c h' F' N' l1=>P.newList S F' N' (λp hp=>abc (l1 p hp)) q t.2) (by rw [<- abj,q.length]; exact t.1)
def FK:TP:=two λV W st Q=>nY (λa b=>Q (.int (if b > a then b else a)) st) V W
theorem LL:aM α ℓ (λvs=>abN (.builtin "max") vs) FK:=g5 λA h₀ L C s m st φ news V W v w S r1 r2 Q Qc E t P =>
 su (P:=λv w=>wpAny (abb α.prog α.w) A (abN (.builtin "max") [v,w]) Qc E s) r1 r2 t λa b ta tb t=>max_two_N C.hand S.F S.N λh' tk F' N'=>P _ st φ news _ h' tk ⟨F',N',S.W⟩ .refl (.int _ _) t
def N3:MV->MS->(MV->MS->Prop)->Prop:=λV st Q=>jK (λa=>Q (.int (if a < 0 then -a else a)) st) V
def MG:TP:=one N3
theorem KS:aM α ℓ (λvs=>abN (.builtin "abs") vs) MG:=oK λA h₀ L C s m st φ news V v S r Q Qc E t P=>by
 apply r.oI t; intro a ta t; exact call_abs_int λu tk=>P.now S (.int _ _) t tk
def GN:MV->MS->(MV->MS->Prop)->Prop:=λV st Q=>match V with
 | .bool b=>Q (.int (if b then 1 else 0)) st
 | _=>gF (λa=>Q (.int a) st) (λx=>dU (ahF x) λn=>x.length<=640/\Q (.int n) st) (nK _) (nK _) (nK _) V
def eG:TP:=one GN
theorem gq:aM α ℓ (λvs=>abN (.type "int") vs) eG:=oK λA h₀ L C s m st φ news V v S r Q Qc E t P=>by
 cases r with
 | int a ta=>exact call_int_int (P.now S (.int _ _) t _)
 | bool b=>exact call_int_bool (P.now S (.int _ _) t _)
 | str x tx=>exact dH t λn hn t=>KIN.call_text hn t.1 (P.now S (.int _ _) t.2 _)
 | _=>exact t.elim
end
section
variable {α:bC}{ℓ:Nat}{sc:abJ}{slots:List Str}{h₀ h:Heap}{L:Addr}{m:Str->Option aab}{s:aah}{st:MS}{φ:bk}{news:aO}
def Nx:MV->MS->(MV->MS->Prop)->Prop:=λV st Q=>hO (λi=>cD st[i]? λxs=>dU (fD xs) λns=>Q (.int ns.sum) st) V
def xF:TP:=one Nx
theorem ye:aM α ℓ (λvs=>abN (.builtin "sum") vs) xF:=oK λA h₀ L C s m st φ news V v S r Q Qc E t P=>by
 apply r.oR t; intro i a d PP t
 refine bZ t λxs hi t=>dH t λns Sy t=>?_
 refine S.W.listC hi PP λits n PP hm q=>?_
 exact LSm.sum_ints (vs:=its.toList) S.F S.N C.hand (by simpa using S.isList hm) (qc q Sy) λh' tk t' F' N'=>P _ st φ news _ h' tk ⟨F',N',S.W⟩ .refl (.int _ _) t
def NC:MV->MV->MS->(MV->MS->Prop)->Prop:=λV W st Q=>xP (λSB=>hO (λi=>cD st[i]? λxs=>dU (wd xs) λys=>(ys.map (·.length)).sum+ys.length * SB.length<=16777216/\Q (.str (aeB SB ys)) st) W) V
def qj:TP:=two NC
theorem vK:aM α ℓ (λvs=>abN (.builtin "str.join") vs) qj:=g5 λA h₀ L C s m st φ news V W v w S r1 r2 Q Qc E t P=>by
 apply r1.oS t; intro SB tk t; apply r2.oR t; intro i a d PP t
 refine bZ t λxs hi t=>dH t λys Sy t=>?_
 refine S.W.listC hi PP λits n PP hm q=>?_
 exact PyProof.Rows.join_list (S.isList hm) (IR q Sy) t.1 λt' k=>P.now S (.str _ _) t.2 k
def MZ:MV->MS->(MV->MS->Prop)->Prop:=λV st Q=>xP (λx=>(abM x).length<=abA/\Q (.str (abM x)) st) V
def oW:TP:=one MZ
theorem nC:aM α ℓ (λvs=>abN (.builtin "str.lower") vs) oW:=oK λA h₀ L C s m st φ news V v S r Q Qc E t P=>by
 apply r.oS t; intro x tx t; exact SC.lower (by unfold Builtin.Str.tooLong; simpa using t.1) (P.now S (.str _ _) t.2 _)
def GZ:TP:=two λV W st Q=>oM V W (λx y=>x.length<=abA/\Q (.str (afD x y)) st) False
theorem Im:aM α ℓ (λvs=>abN (.builtin "str.strip") vs) GZ:=g5 λA h₀ L C s m st φ news V W v w S r1 r2 Q Qc E t P =>
 jl (P:=λv w=>wpAny (abb α.prog α.w) A (abN (.builtin "str.strip") [v,w]) Qc E s) r1 r2 t (λx y tx ty t=>SC.stripChars (hsz:=t.1) λt' k=>P.now S (.str _ _) t.2 k) aha
def HH:MV->MV->MS->(MV->MS->Prop)->Prop:=λV W st Q=>oM V W (λx y=>dU (adE x y 0 x.length 1).head? λi=>Q (.int (i:Nat)) st) False
def zO:TP:=two HH
theorem A3:aM α ℓ (λvs=>abN (.builtin "str.index") vs) zO:=g5 λA h₀ L C s m st φ news V W v w S r1 r2 Q Qc E t P =>
 jl (P:=λv w=>wpAny (abb α.prog α.w) A (abN (.builtin "str.index") [v,w]) Qc E s) r1 r2 t (λx y tx ty t=>by
  refine dH t λi ho t=>?_
  obtain⟨rest,ho⟩:=List.head?_eq_some_iff.mp ho
  exact SC.index ho (P.now S (.int _ _) t _)) aha
def KQ:MV->MS->(MV->MS->Prop)->Prop:=λV st Q=>xP (λx=>x.length+2<=abA/\Q (.ref st.length) (st++[.list ((aeJ x).map .str)])) V
def EH:TP:=one KQ
def EG:TP:=two λV W st Q=>oM V W (λx y=>x.length+2<=abA/\(y.length == 0)=false/\Q (.ref st.length) (st++[.list ((afp x y).map .str)])) False
def lA:TP:=λVs st Q=>match Vs with | [V]=>EH [V] st Q | [V,W]=>EG [V,W] st Q | _=>False
theorem FX:aM α ℓ (λvs=>abN (.builtin "str.split") vs) EH:=oK λA h₀ L C s m st φ news V v S r Q Qc E t P=>by
 apply r.oS t; intro x tx t; exact KSpl.split0 S.F S.N (λD l h' k e1 e2 F' N' l1=>P.newList S F' N' (λp hp=>abc (l1 p hp)) (by rw [<- e1]; exact EU e2) t.2) t.1
theorem Fy:aM α ℓ (λvs=>abN (.builtin "str.split") vs) EG:=g5 λA h₀ L C s m st φ news V W v w S r1 r2 Q Qc E t P =>
 jl (P:=λv w=>wpAny (abb α.prog α.w) A (abN (.builtin "str.split") [v,w]) Qc E s) r1 r2 t (λx y tx ty t=>KSpl.split1 S.F S.N t.2.1 (λD l h' k e1 e2 F' N' l1=>P.newList S F' N' (λp hp=>abc (l1 p hp)) (by rw [<- e1]; exact EU e2) t.2.2) t.1) aha
theorem tT:aM α ℓ (λvs=>abN (.builtin "str.split") vs) lA:=by
 intro A h₀ L C s m st φ news Vs vs S r Q Qc E t P
 cases Vs with
 | nil=>exact t.elim
 | cons V Vs=>cases Vs with
  | nil=>exact FX A h₀ L C s m st φ news _ _ S r Q Qc E t P
  | cons W Vs=>cases Vs with
   | nil=>exact Fy A h₀ L C s m st φ news _ _ S r Q Qc E t P
   | cons _ _=>exact t.elim
noncomputable def AD (o:Option MO):Option Bool:=match o with | some (.list _)=>some true | _=>none
noncomputable def yt:MV->MS->Option Bool
 | .ref i,st=>AD st[i]?
 | .str _,_=>some false
 | .bool _,_=>some false
 | .tup _,_=>some false
 | _,_=>none
noncomputable def Mc:MV->MS->Option Bool
 | .str _,_=>some true
 | _,_=>none
def qC (f:MV->MS->Option Bool)(a:TE):TE:=λρ st Q=>a ρ st λV Pt=>dU (f V Pt) λb=>Q (.bool b) Pt
end
section
variable {α:bC}{ℓ:Nat}{sc:abJ}{slots:List Str}{h₀ h:Heap}{L:Addr}{m:Str->Option aab}{s:aah}{st:MS}{φ:bk}{news:aO}
def Mb (α:bC)(T:String)(f:MV->MS->Option Bool):Prop:=
 ∀(A:abt) h₀ L m (s:aah) st φ news V v b (Q:aab->aah->Prop) E,α.hB.StaysIn h₀->Sn α h₀ L m s.heap st φ news->RV α.hB news φ V v->f V st=some b->(∀tk,Q (.bool b) { s with toks:=tk })->wpAny (abb α.prog α.w) A (abN (.builtin "isinstance") [v,.type T]) Q E s
theorem vo:Mb α "list" yt:=by
 intro A h₀ L m s st φ news V v b Q E C S r hf q
 cases r with
 | @ref i a d PP =>
  cases hi:st[i]? with
  | none=>exact nomatch (congrArg (λo=>AD o) hi).symm.trans hf
  | some o=>cases o with
   | list xs =>
    cases (congrArg (λo=>AD o) hi).symm.trans hf
    refine S.W.listC hi PP λits n PP hm _=>?_
    exact IsiPair.isList_list (S.isList hm) (λ_ _ e=>e) (q _)
   | _=>exact nomatch (congrArg (λo=>AD o) hi).symm.trans hf
 | str x t=>cases hf; exact IsiPair.str_list (q _)
 | bool b=>cases hf; exact IsiPair.bool_list (q _)
 | @tup xs a its hh _ =>
  cases hf
  exact IsiPair.isTuple_list (h₀:=s.heap) (S.isTup C hh) (λ_ _ e=>e) (q _)
 | _=>cases hf
theorem Lz:Mb α "str" Mc:=by
 intro A h₀ L m s st φ news V v b Q E C S r hf q
 cases r with
 | str x t=>cases hf; exact IsiPair.str_str (q _)
 | _=>cases hf
theorem qL {e:Expr}{x:Str}{T:String}{p q pos:Pos}{a:TE}{f:MV->MS->Option Bool}(ha:aa α ℓ sc slots e a)(hI:Mb α T f)(he:nsIn α.K aai ("isinstance":Str)=some none) (Zm:nsIn α.K aai x=some none) (hv:agg x=some (.type T))
  (hn:autoParam (x≠"__name__") aD) (hd:autoParam ((x == ("__debug__":Str))=false) aD)
  (hx:autoParam (sc.names.lookup ("isinstance":Str)=some .globalImplicit) aR) (Rr:autoParam (sc.names.lookup x=some .globalImplicit) aR) (hs:autoParam (∀rest env,ack (e::rest) env=(false,eval e env)::ack rest env) aI) :
  aa α ℓ sc slots (.Call (.Name ("isinstance":Str) p) [e,.Name x q] [] pos) (qC f a):=by
 intro A h₀ L env C D s m st φ news ρ PB Lo Q Qc E t P
 have pl:fB [e,.Name x q]:=.cons hs (.cons (λ_ _=>rfl) .nil)
 refine agT (fv C D PB.F he (v:=.builtin "isinstance") (by decide +kernel) (by decide +kernel) ?_ hx (by decide +kernel))
 refine bR (α:=α) pl (Pp:=λ_=>True) (λh _=>e7 _ h) (aeE (he:=hs _ _) (ha A h₀ L env C D s m st φ news ρ PB Lo _ _ E t λV Pt Px PC v h₁ PA Pv Py PO Pw=>?_))
 refine aeE (he:=rfl) (fv C D (s:={ s with heap:=h₁,toks:=PA }) Pv.F Zm hv hn ?_ Rr hd)
 refine ahw ⟨trivial,?_⟩
 refine dH Pw λb hb Pw=>?_
 exact hI A h₀ L m _ Pt Px PC V v b Qc E C.stays Pv PO hb (λtk=>P _ Pt Px PC _ h₁ tk Pv Py (.bool b) Pw)
end
section
variable {α:bC}{ℓ:Nat}{sc:abJ}{slots:List Str}{h₀ h:Heap}{L:Addr}{m:Str->Option aab}{s:aah}{st:MS}{φ:bk}{o news Pu:aO}
def N0:MV->MV->MS->(MV->MS->Prop)->Prop:=λV W st Q=>hO (λi=>xP (λkey=>wl st[i]? λfs=>Q ((fs.lookup key).getD .none) st) W) V
def Jy:TP:=two N0
theorem ED:aM α ℓ (λvs=>abN (.builtin "dict.get") vs) Jy:=g5 λA h₀ L C s m st φ news V W v w S r1 r2 Q Qc E t P=>by
 apply r1.oR t; intro i a d PP t; apply r2.oS t; intro key tk t
 refine wg t λfs ep hi t=>?_
 refine S.W.dictC hi PP λo kvs PP hs hm hd F=>?_
 have hM:=(hd.at (S.N.get hm)).dictOf.mapOf
 refine call_meetsIn afQ hM.typeIs PySem.F.entry_dict_get (PySem.F.args_dict_get_2 _ _) (meets_dict_get (strKind α.prog α.w) a (k:=key) (ai4 _ _ _ _) hs) ⟨_,hM,?_⟩
 have ff:=F.find (name:=key)
 cases hl:fs.lookup key with
 | none =>
  rw [hl] at ff t
  rw [ff]
  exact P.now S .none t _
 | some V =>
  rw [hl] at ff t
  obtain⟨v,hv,rv⟩:=ff
  rw [hv]
  exact P.now S rv t _
inductive xi (hB:Heap)(news:aO)(φ:bk):List (Str×MV)->List (aab×aab)->Prop
 | nil:xi hB news φ [] []
 | cons {k:Str} {t:Tok} {V:MV} {v:aab} {fs:List (Str×MV)} {kvs:List (aab×aab)} (h:RV hB news φ V v) (r:xi hB news φ fs kvs):xi hB news φ ((k,V)::fs) ((.str k t,v)::kvs)
theorem xi.mono {hB:Heap}{news Pu:aO}{φ PG:bk}(hp:φ <+: PG)(ht:∀a its,(a,bz its)∈news->(a,bz its)∈Pu){fs:List (Str×MV)}{es:List (aab×aab)}(r:xi hB news φ fs es):xi hB Pu PG fs es:=by
 induction r with
 | nil=>exact .nil
 | cons h _ ih=>exact .cons (RV.mono' hp ht h) ih
theorem xi.kvs {hB:Heap}{fs:List (Str×MV)}{vs:List (aab×aab)}(r:xi hB news φ fs vs):mq hB news φ fs (strPairs vs)/\allStrKeys vs=true/\(strPairs vs).map (·.1)=fs.map (·.1)/\vs.length=fs.length:=by
 induction r with
 | nil=>exact⟨.nil,rfl,rfl,rfl⟩
 | cons h _ ih=>exact⟨.cons h ih.1,ih.2.1,by simp only [strPairs,abg,ih.2.2.1],by simp [ih.2.2.2]⟩
abbrev TD:=aG->MS->(List (Str×MV)->MS->Prop)->Prop
def oE:TD:=λ_ st Q=>Q [] st
def wZ (k:Str)(a:TE)(r:TD):TD:=λρ st Q=>a ρ st λV Pt=>r ρ Pt λfs Pz=>Q ((k,V)::fs) Pz
structure ou (α:bC)(ℓ:Nat)(sc:abJ)(slots:List Str)(ks:List Str)(keys:List (Option Expr))(Tb:List Expr)(T:TD):Prop where
 all:keys.all (·.isSome)=true
 len:keys.length=Tb.length
 run:∀A h₀ L env,Cf α ℓ A h₀ L->Ce sc env->∀s m st φ news ρ,Sn α h₀ L m s.heap st φ news->Lc α slots env L m news φ ρ->∀pos Q (Qc:List (aab×aab)->aah->Prop) E,T ρ st Q ->
  (∀fs Ps PG Pu vs h' PV,Sn α h₀ L m h' Ps PG Pu->a9 [α.tab] φ news PG Pu->xi α.hB Pu PG fs vs->fs.map (·.1)=ks->Q fs Ps->Qc vs { s with heap:=h',toks:=PV }) ->
  wpAny (abb α.prog α.w) A (evalPairs (pairTrees keys Tb env pos)) Qc E s
theorem ou.nil:ou α ℓ sc slots [] [] [] oE where
 all:=rfl
 len:=rfl
 run:=λA h₀ L env C D s m st φ news ρ S Lo pos Q Qc E t P=>evalPairs_nil (P [] st φ news [] s.heap s.toks S .refl .nil rfl t)
theorem ou.cons {x:Str}{kd:_}{kp:Pos}{v:Expr}{ks:List Str}{keys:List (Option Expr)}{Tb:List Expr}{a:TE}{r:TD}(h:aa α ℓ sc slots v a)(k:ou α ℓ sc slots ks keys Tb r) :
  ou α ℓ sc slots (x::ks) (some (.Constant (.str x) kd kp)::keys) (v::Tb) (wZ x a r) where
 all:=by simpa using k.all
 len:=by simpa using k.len
 run:=λA h₀ L env C D s m st φ news ρ S Lo pos Q Qc E t P=>by
  refine evalPairs_cons (ah9 ?_)
  refine aac (h A h₀ L env C D { s with toks:=s.toks+1 } m st φ news ρ S Lo _ _ E t λV Pt Px PC afg h₁ PA Pv Py PO Pw=>aac (adl (aa8 ?_)))
  refine k.run A h₀ L env C D _ m Pt Px PC ρ Pv (Lo.grow Py) pos _ _ E Pw λfs Pz PE PS vs PM PN PF PH P5 Xx PU=>?_
  exact P _ Pz PE PS _ PM PN PF (Py.trans PH) (.cons (PO.mono PH) P5) (by rw [abg,Xx]) PU
theorem qK {d:Addr}{o o':Obj}{kvs:List (Str×aab)}{ep:Nat}{fs:List (Str×MV)}{h':Heap}(S:Sn α h₀ L m h st φ ([(d,o)]++news))(pl:Pl [(d,o)])(hf:d ∉ bq φ)(F:Fr h₀ L h' m)(N:News h₀ L h' ((d,o')::news))(hs:(d == aeb)=false)
  (hd:vM α o' kvs ep) (r:mq α.hB news φ fs kvs):Sn α h₀ L m h' (st++[.dict fs ep]) (φ++[(d,d)]) ((d,o')::news)/\a9 [α.tab] φ news (φ++[(d,d)]) ((d,o')::news):=by
 have nd:=S.W.nodup
 have WS:=nd
 rw [abB,abO] at WS
 have P6:∀p∈news,p.1≠d:=λp hp e=>WS.2.2 d (.head _) p.1 (ed ⟨p,hp,rfl⟩) e.symm
 have W':Wd α st φ ((d,o')::news):=S.W.mem (by simpa using nd) (λp hp hq=>by
   rcases dW hp with hp | hp
   ·rw [cr hp] at hq; exact absurd hq hf
   ·exact .tail _ hp) (λa its hm=>by
   rcases dW hm with hm | hm
   ·exact absurd rfl (pl.noT _ hm its)
   ·exact .tail _ hm) (λps hm=>by
   rcases dW hm with hm | hm
   ·exact absurd rfl (pl.noTab _ hm ps)
   ·exact .tail _ hm) (λc oc hm Uk=>by
   rcases dW hm with hm | hm
   ·exact absurd Uk (pl.noCo _ hm)
   ·exact .tail _ hm)
 refine⟨⟨F,N,W'.alloc hf hf ⟨rfl,hs,o',kvs,.head _,hd,r.mono (abF _ _) λ_ _ h=>.tail _ h⟩⟩,.sub (abF _ _) (λp h=>.tail _ h) λp hp h=>?_⟩
 rcases lI h with h | h | h
 ·exact h
 ·exact absurd h (P6 p hp)
 ·exact absurd h (P6 p hp)
def kY (T:TD):TE:=λρ st Q=>T ρ st λfs Pt=>∀ep,Q (.ref Pt.length) (Pt++[.dict fs ep])
theorem mz {pos:Pos}:aa α ℓ sc slots (.Dict [] [] pos) (kY oE):=by
 intro A h₀ L env C D s m st φ news ρ S Lo Q Qc E t P
 refine newDict_K S.F S.N C.T.nolimit λd h' o F' N' l1 hs hd _ _ _=>?_
 refine bv λGG PD=>?_
 obtain⟨es,ep,hx,Qn,hk,hp,hn⟩:=hd
 have P6:∀p∈news,p.1≠d:=λp hp=>abc (l1 p hp)
 obtain⟨Pv,_⟩:=S.entry F' N' P6
 have pl:Pl [(d,o)]:=λp hp=>by rw [cr hp]; exact lg Qn
 obtain⟨PF,PH⟩:=qK (news:=news) Pv pl (S.notFoot P6) F' N' hs ⟨es,hx,Qn,hk,hp,hn⟩ .nil
 refine PD ?_
 exact P _ _ _ _ _ h' s.toks PF PH (.ref (d:=d) (by rw [<- S.W.len]; simp)) (t ep)
theorem aa.dict {ks:List Str}{keys:List (Option Expr)}{Tb:List Expr}{pos:Pos}{T:TD}(h:ou α ℓ sc slots ks keys Tb T)(h0:keys≠[])(PL:keys.length<=15)(Qt:ks.Nodup):aa α ℓ sc slots (.Dict keys Tb pos) (kY T):=by
 intro A h₀ L env C D s m st φ news ρ S Lo Q Qc E t P
 refine kdn_eval (knd:=strKind α.prog α.w) S.F S.N C.T.nolimit h.all h.len h0 PL λd h' o F' N' l1 hs hd=>?_
 refine bv λGG PD=>?_
 obtain⟨es,ep,hx,Qn,hk,hp,hn⟩:=hd
 have P6:∀p∈news,p.1≠d:=λp hp=>abc (l1 p hp)
 have U7:=S.notFoot P6
 obtain⟨Pv,Py⟩:=S.entry F' N' P6
 refine PD ?_
 have pl:Pl [(d,o)]:=λp hp=>by rw [cr hp]; exact lg Qn
 refine h.run A h₀ L env C D _ m st φ ((d,o)::news) ρ Pv (Lo.grow Py) pos _ _ E t λfs Pz PE PS vs PM PN PF PH P5 Xx PU=>?_
 have Su:∀p∈([(d,o)]:aO),p.1 ∉ [α.tab]:=λp hp hq=>by
  rw [cr hp] at hq
  have SW:d=α.tab:=cr hq
  obtain⟨ps,hm,_⟩:=S.W.tabs
  exact P6 _ hm SW.symm
 obtain⟨P3,Qe,aa6,WV⟩:=PF.split (o:=[(d,o)]) (news:=news) PH pl Pv.W.nodup (λp hp=>by rw [cr hp]; exact U7) Su
 generalize oj [(d,o)] PS=Ru at P3 Qe WV
 have hnr:∀p∈Ru,p.1≠d:=λp hp e=>by
  have:=P3.W.nodup
  rw [abB,abO] at this
  exact this.2.2 d (.head _) p.1 (ed ⟨p,hp,rfl⟩) e.symm
 have aaD:=P5.mono (aaf _) WV
 obtain⟨kv,ks1,ks2,ks3⟩:=aaD.kvs
 refine kdn_made_str P3.F P3.N (.head hnr) ⟨es,ep,hx,Qn,hk,hp,hn⟩ ks1 (by rw [ks2,Xx]; exact Qt) λQN afk TJ TR aau=>?_
 obtain⟨aax,aaK,Ze⟩:=aau
 obtain⟨RO,SM⟩:=qK (news:=Ru) P3 pl (aa6 _ (.head _)) TJ TR hs ⟨aax,Ze⟩ kv
 exact P _ _ _ _ _ QN _ RO (Qe.trans SM) (.ref (d:=d) (by rw [<- PF.W.len]; simp)) (PU aaK)
end
section
variable {α:bC}{ℓ:Nat}{sc:abJ}{slots:List Str}{h₀ h:Heap}{L:Addr}{m:Str->Option aab}{s:aah}{st:MS}{φ:bk}{news Pu:aO}{P8:Expr}
abbrev Nn (d n ep:Nat):Nat->Obj->Prop:=λi z=>z.cls=.type "dict_keyiterator"/\z.data=.fields #[.ref d,.int i 0,.int n 0,.int ep 0]
theorem mq.keysL {hB:Heap}{fs:List (Str×MV)}{kvs:List (Str×aab)}(r:mq hB news φ fs kvs):kvs.map (·.1)=fs.map (·.1):=by
 induction r with
 | nil=>rfl
 | cons _ _ ih=>simp [ih]
theorem Wd.dictIn {o:aO}{r:Nat}{fs:List (Str×MV)}{ep:Nat}{a d:Addr}(W:Wd α st φ (o++news))(h:st[r]?=some (.dict fs ep))(PP:φ[r]?=some (a,d))(hf:∀p∈o,p.1 ∉ bq φ) :
  d=a/\(a == aeb)=false/\∃ob kvs,(a,ob)∈news/\vM α ob kvs ep/\kvs.map (·.1)=fs.map (·.1):=by
 refine bv λGG PD=>?_
 obtain⟨e,e2,ob,kvs,hm,hd,q⟩:=W.dict h PP
 refine PD ?_
 refine⟨e,e2,ob,kvs,?_,hd,q.keysL⟩
 rcases dW hm with hm | hm
 ·exact absurd (iC PP).1 (hf _ hm)
 ·exact hm
theorem JD {A:abt}{I a d:Addr}{r:Nat}{fs:List (Str×MV)}{ep:Nat}{y:Str}{p:Pos}(hh:A.handled=none)(PP:φ[r]?=some (a,d)):qV α A h₀ L φ (.Name y p) I (fs.map λx=>.str x.1) (λst=>st[r]?=some (.dict fs ep)) [I] (own1 I (Nn a fs.length ep)) where
 keys:=λi o h=>by obtain⟨z,rfl,_⟩:=h; rfl
 pl:=λi o h=>by obtain⟨z,rfl,hc,_⟩:=h; exact mO hc (by decide)
 item:=λi x hx s m st Px o news Q E S hG h pre hf P=>by
  refine bv λGG PD=>?_
  obtain⟨z,rfl,hz⟩:=h
  have pl:Pl [(I,z)]:=mO hz.1 (by decide)
  have Q8:=aA pre PP
  have ZX:=hf _ (.head _)
  obtain⟨rfl,_,ob,kvs,hm,hd,hk⟩:=S.W.dictIn hG Q8 hf
  refine PD ?_
  have hI:s.heap.get? I=some z:=S.N.get (.head _)
  rw [abC] at hx
  cases hfi:fs[i]? with
  | none=>rw [hfi] at hx; cases hx
  | some f =>
   rw [hfi] at hx
   have Rf:x=.str f.1:=(abi hx).symm
   subst Rf
   have Sa:∃v,kvs[i]?=some (f.1,v):=by
    have e1:(kvs.map (·.1))[i]?=some f.1:=by rw [hk,abC,hfi]; rfl
    rw [abC] at e1
    cases q:kvs[i]? with
    | none=>rw [q] at e1; cases e1
    | some kv=>rw [q] at e1; exact⟨kv.2,by rw [<- abi e1]⟩
   obtain⟨v,Sa⟩:=Sa
   have PL:fs.length=kvs.length:=by have:=congrArg afq hk; simpa using this.symm
   have hD:=hd.at (S.N.get (aas _ hm))
   refine wpAny_pyNext_dict_item (knd:=strKind α.prog α.w) (i:=i) ⟨z,hI,by rw [<- PL]; exact hz⟩ hD Sa λkey h₁ Xr Sw hs=>?_
   obtain⟨tk,rfl⟩:∃tk,key=.str f.1 tk:=by
    have:Value.isStrOf f.1 key=true:=Xr
    cases key with
    | str x t=>simp [Value.isStrOf] at this; exact⟨t,by rw [this]⟩
    | _=>cases this
   refine⟨_,rfl,?_⟩
   obtain⟨z',Q1,RA⟩:=Sw
   rw [show ab5 (.Name y p) (.ref I) (agV f.1 tk)=pure () from rfl]
   exact aa8 (P _ h₁ s.toks [(I,z')] news (S.own1 pl ZX hs Q1) (λ_ h=>h) ⟨z',rfl,by rw [PL]; exact RA⟩ (.str _ _))
 self:=λs m st Px o news Q E S h P=>by
  obtain⟨z,rfl,hz⟩:=h
  exact wpAny_pyIter_keyiter (i:=0) ⟨z,S.N.get (.head _),hz⟩ P
 done:=λs m st Px o news Q E S hG h pre hf P=>by
  refine bv λGG PD=>?_
  obtain⟨z,rfl,hz⟩:=h
  have pl:Pl [(I,z)]:=mO hz.1 (by decide)
  have Q8:=aA pre PP
  obtain⟨rfl,_,ob,kvs,hm,hd,hk⟩:=S.W.dictIn hG Q8 hf
  refine PD ?_
  have hI:s.heap.get? I=some z:=S.N.get (.head _)
  have PL:fs.length=kvs.length:=by have:=congrArg afq hk; simpa using this.symm
  have hD:=hd.at (S.N.get (aas _ hm))
  exact wpAny_pyNext_dict_end (knd:=strKind α.prog α.w) (kvs:=kvs) hh ⟨z,hI,by rw [<- PL]; exact hz⟩ hD (afP (by simp [PL])) λh₁ hs=>P h₁ s.toks (S.drop1 pl (hf _ (.head _)) hs)
def BA (o:Option MO)(K:List (Str×MV)->Nat->Prop):Prop:=match o with | some (.dict fs ep)=>K fs ep | _=>False
theorem Fu {o:Option MO}{K:List (Str×MV)->Nat->Prop}{G:Prop}(t:BA o K)(k:∀fs ep,o=some (.dict fs ep)->K fs ep->G):G:=by
 cases o with
 | none=>exact t.elim
 | some a=>cases a with
  | dict fs ep=>exact k fs ep rfl t
  | _=>exact t.elim
def Bg (Q:List MV->(MS->Prop)->MS->Prop):MV->MS->Prop:=λV Pt =>
 hO (λr=>BA Pt[r]? λfs ep=>Q (fs.map λx=>.str x.1) (λst=>st[r]?=some (.dict fs ep)) Pt) V
def Fj (a:TE):TI:=λρ st Q=>a ρ st (Bg Q)
theorem ch.dict {y:Str}{p:Pos}{e:Expr}{a:TE}(h:aa α ℓ sc slots e a):ch α ℓ sc slots (.Name y p) e (Fj a):=by
 intro A h₀ L env C D s m st φ news ρ PB Lo Q Qc E t P
 refine h A h₀ L env C D s m st φ news ρ PB Lo _ _ E t λV Pt Px PC v h₁ PA Pv Py PO Pw=>?_
 apply PO.oR Pw; intro r a d PP Pw
 refine Fu Pw λfs ep hr Pw=>?_
 refine Pv.W.dictC hr PP λob kvs PP hs hm hd q=>?_
 have PL:fs.length=kvs.length:=by have:=congrArg afq q.keysL; simpa using this.symm
 refine wpAny_pyIter_dict (knd:=strKind α.prog α.w) hs (hd.at (Pv.N.get hm)) ?_
 obtain⟨n1,n2⟩:=Pv.nextNone
 obtain⟨PF,hf⟩:=Pv.new1 (h':=h₁.push { cls:=.type "dict_keyiterator",data:=.fields #[.ref a,.int 0 0,.int kvs.length 0,.int ep 0] }) n1 n2 (abz _ rfl) λ_ _ e=>aak _ e
 exact P _ _ _ _ _ _ Pt Px PC _ PA PF Py (JD C.hand PP) ⟨_,rfl,rfl,by rw [PL]; rfl⟩ (λp hp=>by rw [cr hp]; exact hf) (.head _) Pw
end
noncomputable def dC (led:Bool)(place:Array Nat):adP:={ mask:=7,place:=place,dummies:=#[],finger:=0,led:=led,moves:=0,plain:=true }
theorem wD (p j:Nat):add #[p] j=if p < j then 1 else 0:=by with_unfolding_all rfl
theorem Nr (led:Bool)(j:Nat):ajc (dC led #[]) j=.empty:=rfl
theorem Kq (led:Bool)(p j:Nat):ajc (dC led #[p]) j=if j=p then .live 0 else .empty:=by
 show (if (#[p])[add #[p] j]? == some j then SetTable.Slot.live (add #[p] j) else .empty)=_
 rw [wD]
 by_cases h:j=p
 ·rw [if_pos h,h,if_neg (acg p)]; exact if_pos (beq_self_eq_true (some p))
 ·rw [if_neg h]
  by_cases h2:p < j
  ·rw [if_pos h2]; rfl
  ·rw [if_neg h2]; exact if_neg λq=>h (abi (eq_of_beq q)).symm
theorem M0 {led:Bool}{p:Nat}{P:SetTable.Probe}(hm:P.more=0):(dC led #[p]).advance P=⟨(P.i * 5+1+P.perturb / 32) % 8,0,(P.i * 5+1+P.perturb / 32) % 8,P.perturb / 32,P.dummy⟩:=by
 refine (if_neg (by rw [hm]; exact acg 0)).trans ?_
 have q (i:Nat):SetTable.runEnd 7 i - i=0:=by
  rw [show SetTable.runEnd 7 i=i from if_neg λq=>absurd (aaj (Nat.le_add_left 9 i) q) (by decide)]; exact Nat.sub_self i
 exact congrArg (λn=>SetTable.Probe.mk _ n _ _ _) (q _)
theorem IM {t:adP}{f:Nat->Int}{h:Int}{fuel:Nat}{P:SetTable.Probe}{s:SetTable.Slot}(e:t.slot P.j=s):adn t f h (fuel+1) P =
  s.casesOn (motive:=λ_=>Option SetTable.Met) (some (.empty P.j P.dummy)) (adn t f h fuel (t.advance { P with dummy:=some P.j }))
   λi=>if f i == h then some (.candidate P.j i (t.advance P)) else adn t f h fuel (t.advance P):=by
 cases e; rfl'
theorem M5 (led:Bool)(p:Nat)(f:Nat->Int)(h:Int)(hf:∀i,f i≠h):∀(k fuel:Nat)(P:SetTable.Probe),P.j=P.i->P.more=0->P.perturb < 32 ^ k->k+2<=fuel->∃j,j≠p/\adn (dC led #[p]) f h fuel P=some (.empty j P.dummy):=by
 intro k
 have Xn (fuel:Nat) (P:SetTable.Probe) (h1:P.j≠p):adn (dC led #[p]) f h (fuel+1) P=some (.empty P.j P.dummy):=
  IM ((Kq led p P.j).trans (if_neg h1))
 have ZY (fuel:Nat) (P:SetTable.Probe) (h1:P.j=p):adn (dC led #[p]) f h (fuel+1) P=adn (dC led #[p]) f h fuel ((dC led #[p]).advance P):=
  (IM ((Kq led p P.j).trans (if_pos h1))).trans (if_neg λq=>hf 0 (eq_of_beq q))
 induction k with
 | zero =>
  intro fuel P hj hm hp hk
  obtain⟨fuel,rfl⟩:∃n,fuel=n+2:=⟨fuel - 2,by walk_at "o"⟩
  by_cases h1:P.j=p
  ·have e0:P.perturb / 32=0:=by rw [Nat.lt_one_iff.mp hp]
   have e1:(P.i * 5+1) % 8≠p:=by rw [<- h1,hj]; walk_at "o"
   refine⟨_,e1,?_⟩
   rw [ZY _ P h1,M0 hm,e0]
   exact Xn _ _ e1
  ·exact⟨P.j,h1,Xn _ P h1⟩
 | succ k ih =>
  intro fuel P hj hm hp hk
  obtain⟨fuel,rfl⟩:∃n,fuel=n+1:=⟨fuel - 1,by walk_at "o"⟩
  by_cases h1:P.j=p
  ·rw [ZY _ P h1,M0 hm]
   exact ih fuel _ rfl rfl (by show P.perturb / 32 < 32 ^ k; rw [Nat.pow_succ] at hp; exact Nat.div_lt_of_lt_mul (Nat.mul_comm .. ▸ hp)) (Nat.le_of_succ_le_succ hk)
  ·exact⟨P.j,h1,Xn _ P h1⟩
theorem NB (led:Bool)(h:Int):afE (dC led #[]) h=some (af3 h % 8,false):=by
 unfold afE ai5
 rw [show adn (dC led #[]) (λ_=>h+1) h (10 * SetTable.turns (dC led #[]).mask) _=_ from IM (fuel:=219) (Nr led _)]
 rfl
theorem NJ (led:Bool)(p:Nat)(h:Int):∃j,j≠p/\afE (dC led #[p]) h=some (j,false):=by
 obtain⟨j,a,b⟩:=M5 led p (λ_=>h+1) h (λ_=>by walk_at "o") 13 (10 * SetTable.turns (dC led #[p]).mask) ((dC led #[p]).probeStart h) rfl (by
   show SetTable.runEnd 7 _ - _=0
   rw [show SetTable.runEnd 7 (af3 h % 8)=af3 h % 8 from if_neg λq=>absurd (aaj (Nat.le_add_left 9 _) q) (by decide)]; exact Nat.sub_self _) (by
   show af3 h < _
   unfold af3
   have:h % 18446744073709551616 < 18446744073709551616:=Int.emod_lt_of_pos _ (by decide)
   have h2:(2:Int) ^ 64=18446744073709551616:=by decide
   have h3:(32:Nat) ^ 13=36893488147419103232:=by decide
   rw [h2,h3]
   walk_at "o") (by show 15<=220; decide)
 refine⟨j,a,?_⟩
 unfold afE ai5
 rw [b]
 rfl
theorem NZ (led:Bool)(h:Int)(x:aab):∃p,ai6 (dC led #[]) #[] h x=(#[(h,x)],dC led #[p],false,false):=by
 unfold ai6
 rw [NB]
 exact⟨_,rfl⟩
theorem NR (led:Bool)(p:Nat)(h h':Int)(x x':aab):∃q r,q < r/\(ai6 (dC led #[p]) #[(h',x')] h x=(#[(h',x'),(h,x)],dC led #[q,r],false,false)\/ai6 (dC led #[p]) #[(h',x')] h x=(#[(h,x),(h',x')],dC led #[q,r],false,false)):=by
 obtain⟨j,hj,e⟩:=NJ led p h
 unfold ai6
 rw [e]
 dsimp only
 unfold SetTable.put
 have e1:add (dC led #[p]).place j=if p < j then 1 else 0:=wD p j
 dsimp only
 rw [e1]
 by_cases hp:p < j
 ·refine⟨p,j,hp,.inl ?_⟩
  rw [if_pos hp]
  rfl
 ·refine⟨j,p,by walk_at "o",.inr ?_⟩
  rw [if_neg hp]
  rfl
theorem CM (p q j:Nat):add #[p,q] j=if q < j then 2 else if p < j then 1 else 0:=by with_unfolding_all rfl
theorem KG (p q:Nat):add #[p,q] 0=0:=by
 rw [CM,if_neg (ab6 q),if_neg (ab6 p)]
theorem LO (p q:Nat)(h:p < q):add #[p,q] (p+1)=1:=by
 rw [CM,if_neg (Nat.not_lt_of_le h),if_pos (abv p)]
theorem LS (p q:Nat)(h:p < q):add #[p,q] (q+1)=2:=by
 rw [CM,if_pos (abv q)]
inductive iw (led:Bool):List (Int×Tok)->adP->Prop
 | nil:iw led [] (dC led #[])
 | one (x:Int×Tok) (p:Nat):iw led [x] (dC led #[p])
 | two (x y:Int×Tok) (p q:Nat) (h:p < q):iw led [x,y] (dC led #[p,q])
noncomputable def cJ (ps:List (Int×Tok)):Array (Int×aab):=(ps.map λp=>(ahO p.1,aeo p.1 p.2)).toArray
def vB (led:Bool)(h:Heap)(S:Addr)(ps:List (Int×Tok)):Prop:=∃o ep t,h.get? S=some o/\o.ExactSet/\o.data=.set (cJ ps) ep t/\iw led ps t/\(ps.map (·.1)).Nodup
theorem iw.fits {led:Bool}{ps:List (Int×Tok)}{t:adP}(h:iw led ps t):t.fits (cJ ps).size=true:=by
 cases h <;> rfl
theorem iw.small {led:Bool}{ps:List (Int×Tok)}{t:adP}(h:iw led ps t):(cJ ps).size<=2:=by
 cases h <;> simp [cJ]
section
variable {prog:ade}{w:aaq}{A:abt}{E:aab->aah->Prop}{s:aah}
theorem Gs (ps:List (Int×Tok)):ElemsOf (ado prog w) (cJ ps).toList:=λe he=>by
 unfold cJ at he
 simp only [aft] at he
 obtain⟨p,_,rfl⟩:=he
 exact⟨⟨p.1,afZ _ _ _ _,rfl⟩,rfl⟩
theorem vB.keep {led:Bool}{h h':Heap}{S:Addr}{ps:List (Int×Tok)}(hS:vB led h S ps)(k:∀o,h.get? S=some o->h'.get? S=some o):vB led h' S ps:=by
 obtain⟨o,ep,t,ho,r⟩:=hS
 exact⟨o,ep,t,k _ ho,r⟩
theorem FY {α:Type}{M:ah2}{A:abt}{c:Prop} [Decidable c] {a b:Sem α}{Q:α->aah->Prop}{E:aab->aah->Prop}{s:aah}(h:c)(k:wpAny M A a Q E s):wpAny M A (ite c a b) Q E s:=by
 rw [if_pos h]; exact k
theorem w3 {α:Type}{M:ah2}{A:abt}{c:Prop} [Decidable c] {a b:Sem α}{Q:α->aah->Prop}{E:aab->aah->Prop}{s:aah}(h:¬c)(k:wpAny M A b Q E s):wpAny M A (ite c a b) Q E s:=by
 rw [if_neg h]; exact k
theorem LJ {led:Bool}{S:Addr}{ps:List (Int×Tok)}{k:Int}{tk:Tok}{Q:Bool->aah->Prop}{o:Obj}{ep:Nat}{t:adP}(ho:s.heap.get? S=some o)(Uc:o.ExactSet)(hd:o.data=.set (cJ ps) ep t)
  (h:∀b h' Qi,adf S s.heap h'->vB led h' S Qi->(∀x,x∈Qi.map (·.1)↔x∈ps.map (·.1)\/x=k)->Q b { s with heap:=h' })
  {X:Array (Int×aab)×adP×Bool×Bool} (Qi:List (Int×Tok)) (t':adP) (e:X=(cJ Qi,t',false,false)) (Uf:t'.plain=true) (YR:t'.tooFull=false) (Ta:iw led Qi t') (WZ:(Qi.map (·.1)).Nodup) (hx:∀x,x∈Qi.map (·.1)↔x∈ps.map (·.1)\/x=k) :
  wpAny (abb prog w) A (do
   let (es,t,wasDummy,gave):=X
   (match gave with | true=>rule "set.scan.the-table-gave-way" | false=>pure ())
   let byValue <- if t.plain then hashByValue 8 (.int k tk) else pure true
   let t:=if byValue then t else { t with plain:=false }
   storeSet S es t
   if !wasDummy && t.tooFull then
    let (es,t,gave):=relayAll t es (SetTable.grown es.size)
    (match gave with | true=>rule "set.scan.the-table-gave-way" | false=>pure ())
    storeSet S es t
   return some true) (λr P0=>match r with | some a=>wpAny (abb prog w) A (pure a) Q E P0 | none=>False) E s:=by
 subst e
 dsimp only
 refine aac (aa8 ?_)
 rw [Uf,hashByValue_scannable 8 rfl]
 refine aac (aa8 ?_)
 refine aac (wpAny_storeSet_of (t':=t') ho hd ?_ (aaj Ta.small (by decide)))
 refine w3 (λq=>Bool.noConfusion (q.symm.trans YR)) ?_
 refine aa8 (aa8 (h true _ Qi (adp s.heap S _) ?_ hx))
 have hg:(s.heap.update S (Obj.putSet (cJ Qi) t')).get? S=some { o with data:=.set (cJ Qi) (ep+1) t' }:=by
  have:=adc (Obj.putSet (cJ Qi) t') ho (by rw [putSet_of (cJ Qi) t' hd]; rfl)
  rw [putSet_of (cJ Qi) t' hd] at this; exact this
 exact⟨_,ep+1,t',hg,Uc,rfl,Ta,WZ⟩
theorem Mf {led:Bool}{ps:List (Int×Tok)}{k:Int}{tk:Tok}{t:adP}(hl:iw led ps t)(hk:k ∉ ps.map (·.1))(h2:ps.length < 2){G:Prop}
  (f:∀Qi t',ai6 t (cJ ps) (ahO k) (.int k tk)=(cJ Qi,t',false,false)->t'.plain=true->t'.tooFull=false->iw led Qi t'->(Qi.map (·.1)).Nodup->(∀x,x∈Qi.map (·.1)↔x∈ps.map (·.1)\/x=k)->G):G:=by
 cases hl with
 | nil =>
  obtain⟨p,e⟩:=NZ led (ahO k) (.int k tk)
  exact f [(k,tk)] _ e rfl rfl (.one _ p) (by simp) (by simp)
 | one x p =>
  obtain⟨q,r,hqr,e⟩:=NR led p (ahO k) (ahO x.1) (.int k tk) (.int x.1 x.2)
  have UF:k≠x.1:=by simpa using hk
  rcases e with e | e
  ·exact f [x,(k,tk)] _ e rfl rfl (.two _ _ q r hqr) (by simp; exact λq=>UF q.symm) (by simp)
  ·exact f [(k,tk),x] _ e rfl rfl (.two _ _ q r hqr) (by simp; exact UF) (by intro y; simp; constructor <;> rintro (q | q) <;> simp [q])
 | two x y p q hpq=>exact absurd h2 (acg 2)
theorem Hv {ps:List (Int×Tok)}{k:Int}{j:Nat}(hr:ah5 (λe=>(ado prog w).is k e.2) (cJ ps).toList=some j):k∈ps.map (·.1):=by
 obtain⟨hj,Zc,_⟩:=List.findIdx?_eq_some_iff_getElem.mp hr
 have hm:=List.getElem_mem hj
 unfold cJ at hm Zc
 obtain⟨p,hp,e⟩:=c8 hm
 rw [<- e] at Zc
 exact ed ⟨p,hp,((ado prog w).inj _ _ _ Zc (afZ _ _ _ _)).symm⟩
theorem HF {ps:List (Int×Tok)}{k:Int}(hr:ah5 (λe=>(ado prog w).is k e.2) (cJ ps).toList=none):k ∉ ps.map (·.1):=λhm=>by
 obtain⟨p,hp,e⟩:=c8 hm
 have:=List.findIdx?_eq_none_iff.mp hr (ahO p.1,aeo p.1 p.2) (by unfold cJ; exact ed ⟨p,hp,rfl⟩)
 rw [<- e,show (ado prog w).is p.1 (aeo p.1 p.2)=true from afZ _ _ _ _] at this
 cases this
theorem Fm {led:Bool}{S:Addr}{ps:List (Int×Tok)}{k:Int}{tk:Tok}{Q:Bool->aah->Prop}(hS:vB led s.heap S ps)(hr:k∈ps.map (·.1)\/ps.length < 2)
  (h:∀b h' Qi,adf S s.heap h'->vB led h' S Qi->(∀x,x∈Qi.map (·.1)↔x∈ps.map (·.1)\/x=k)->Q b { s with heap:=h' }) :
  wpAny (abb prog w) A (setAddHashed S (.int k tk) (ahO k)) Q E s:=by
 have VQ:=hS
 refine bv λGG PD=>?_
 obtain⟨o,ep,t,ho,Uc,hd,hl,hn⟩:=hS
 refine PD ?_
 have SS:=Gs (prog:=prog) (w:=w) ps
 have hb:(cJ ps).size < scanBound:=aca hl.small (by decide)
 have hf:=hl.fits
 have Xr:(ado prog w).is k (.int k tk)=true:=afZ _ _ _ _
 unfold setAddHashed setAddHashedIn
 refine ab0 (aac (afF ho hd hf ?_))
 dsimp only
 rw [byScan_of rfl hb SS]
 rw [if_pos rfl]
 unfold setAddByScan
 refine aac ?_
 refine aac (ai7 ?_)
 refine aac (wpAny_setScan_of (knd:=ado prog w) Xr ho hd hf SS ?_)
 cases U9:ah5 (λe=>(ado prog w).is k e.2) (cJ ps).toList with
 | some j =>
  exact aa8 (aa8 (h false s.heap ps (Heap.SameBut.refl S s.heap) VQ λx=>⟨.inl,λq=>q.elim id λe=>e ▸ Hv U9⟩))
 | none =>
  have hk:=HF U9
  refine Mf (tk:=tk) hl hk (hr.elim (λq=>absurd q hk) id) λQi t' e Uf YR Ta WZ hx=>?_
  refine abR (LJ ho Uc hd h Qi t' e Uf YR Ta WZ hx) (λr P0 hr=>?_) λ_ _ q=>q
  cases r with
  | some a=>exact hr
  | none=>exact hr.elim
end
section
variable {prog:ade}{w:aaq}{A:abt}{R:afW->aah->Prop}{I:Addr}{fp wr:List Addr}{G:Array GenState->Array GenState->Prop}{n:Nat}{P:Nat->aab->Prop}{St:Nat->aah->Prop}
def kU (led:Bool)(h:Heap)(S:Addr)(val:Nat->Int)(i:Nat):Prop:=∃ps,vB led h S ps/\∀x,x∈ps.map (·.1)↔∃j,j < i/\x=val j
theorem kU.keep {led:Bool}{h h':Heap}{S:Addr}{val:Nat->Int}{i:Nat}(hS:kU led h S val i)(k:∀o,h.get? S=some o->h'.get? S=some o):kU led h' S val i:=by
 obtain⟨ps,a,b⟩:=hS
 exact⟨ps,a.keep k,b⟩
theorem KL (W:WalksS prog w A.in1 I fp wr G n P St)(led:Bool)(S:Addr)(Ys:S ∉ fp)(val:Nat->Int)(XW:∀i v,P i v->∃t,v=.int (val i) t)
  (Rk:∀l:List Int,l.Nodup->(∀x∈l,∃j,j < n/\x=val j)->l.length<=2) :
  ∀(k i:Nat) (s:aah),n - i=k->i<=n->St i s->kU led s.heap S val i ->
   (∀s',Moved (S::wr) G s s'->kU led s'.heap S val n->R (.ok (.ret .none)) s') ->
   adx (abb prog w) A (.builtin "set.update.loop" ⟨[.ref S,.ref I],[]⟩) R s:=by
 have hSw:S ∉ wr:=λh=>Ys (W.sub _ h)
 have U3:∀b∈wr,b∈S::wr:=λb hb=>List.mem_cons_of_mem _ hb
 intro k
 induction k with
 | zero =>
  intro i s hk hi QL hS hR
  have QX:i=n:=by walk_at "o"
  subst QX
  refine aek aeO ?_
  rw [ad1 adH _]
  show wpAny _ A.in1 (afA (.ref I) >>= _) _ _ s
  refine aac (W.done s _ _ QL λs' hm=>?_)
  show wpAny _ A.in1 (ret aig) _ _ s'
  exact aa8 (hR s' (hm.mono U3) (hS.keep λo e=>hm.heap S _ hSw e))
 | succ k ih =>
  intro i s hk hi QL hS hR
  have PR:i < n:=by walk_at "o"
  refine aek aeO ?_
  rw [ad1 adH _]
  show wpAny _ A.in1 (afA (.ref I) >>= _) _ _ s
  refine aac (W.item i s _ _ PR QL λv s' hP act hm=>?_)
  obtain⟨t,rfl⟩:=XW i v hP
  obtain⟨ps,hL,Tm⟩:=hS.keep (h':=s'.heap) λo e=>hm.heap S _ hSw e
  have Uj:val i∈ps.map (·.1)\/ps.length < 2:=by
   by_cases hq:val i∈ps.map (·.1)
   ·exact .inl hq
   ·refine .inr ?_
    refine bv λGG PD=>?_
    obtain⟨o,ep,tt,_,_,_,_,hn⟩:=id hL
    refine PD ?_
    have:=Rk (val i::ps.map (·.1)) (abV.mpr ⟨hq,hn⟩) λx hx=>by
     rcases bM hx with rfl | hx
     ·exact⟨i,PR,rfl⟩
     ·obtain⟨j,a,b⟩:=(Tm x).mp hx
      exact⟨j,by walk_at "o",b⟩
    simp only [abw,abd] at this
    walk_at "o"
  show wpAny _ A.in1 (ag6 [aeo (val i) t] (setAdd S (.int (val i) t)) >>= _) _ _ s'
  refine aac (ab0 ?_)
  unfold setAdd
  refine ab0 ?_
  refine aac ((ado prog w).pyHash (k:=val i) (afZ _ _ _ _) ?_)
  refine Fm (s:={ s' with toks:=s'.toks+1 }) hL Uj λb h' Qi hsb hL' hx=>?_
  have hSi:kU led h' S val (i+1):=⟨Qi,hL',λx=>by
   rw [hx,Tm]
   constructor
   ·rintro (⟨j,a,b⟩ | rfl)
    ·exact⟨j,by walk_at "o",b⟩
    ·exact⟨i,by walk_at "o",rfl⟩
   ·rintro⟨j,a,b⟩
    by_cases q:j=i
    ·subst q; exact .inr b
    ·exact .inl ⟨j,by walk_at "o",b⟩⟩
  refine aa8 ⟨agP adH _,ih (i+1) _ (by walk_at "o") PR (W.frame _ s' _ _ act (agG _) λb hb o e=>?_) hSi λUL acp acO=>?_⟩
  ·rw [hsb.2 b (λh:b=S=>Ys (by rw [<- h]; exact hb))]; exact e
  ·refine hR UL (Moved.trans W.gtrans ((hm.mono U3).then_heap (agG _) λb o hb e=>?_) acp) acO
   rw [hsb.2 b (λh:b=S=>hb (by rw [h]; exact List.mem_cons_self))]; exact e
end
noncomputable abbrev sM (led:Bool):Obj:={ cls:=.type "set",dict:=none,data:=.set #[] 0 (.fresh 0 0 led) }
theorem KH {led:Bool}{h:Heap}{S:Addr}{val:Nat->Int}(e:h.get? S=some (sM led)):kU led h S val 0:=
 ⟨[],⟨_,0,_,e,⟨rfl,rfl,rfl⟩,rfl,.nil,List.nodup_nil⟩,λx=>by simp⟩
section
variable {prog:ade}{w:aaq}{A:abt}{E:aab->aah->Prop}{s:aah}
theorem DB (a:aab){Q₁:aab->aah->Prop}(h:Q₁ (.ref s.heap.objs.size) { s with heap:=s.heap.push (sM !(w.params.followText "set-order")) }) :
  adx (abb prog w) A (.call (.builtin "set.__new__") ⟨[.type "set",a],[]⟩) (wants Q₁ E) s:=by
 refine ahh ?_
 show wpAny _ A.in1 (do agZ "set.__new__" ⟨[.type "set",a],[]⟩; again (.builtin "set.__new__" ⟨[.type "set",a],[]⟩)) _ _ s
 refine aac (wpAny_of_eq (PySem.F.newCall_set_1 a) (aa8 ⟨agP ahn _,aek PySem.F.entry_set_new ?_⟩))
 rw [ad1 ahn _]
 unfold aee.«set.__new__» Builtin.Frozenset.newClass
 have U3:=sub_set_self
 obtain⟨hp,g,d,tk,os⟩:=s
 dsimp only
 wp_walk
 refine ad8 (aa8 ?_)
 dsimp only
 simp only [newObj]
 refine aac (wpAny_alloc (aa8 ?_))
 exact aa8 h
set_option maxHeartbeats 3200000 in
theorem Ja {h₁:Heap}{S l:Addr}{items:Array aab}{ns:List Int}{led:Bool}{K:ahP->aah->Prop}(hh:A.handled=none)(hS:h₁.get? S=some (sM led))(hl:h₁.IsList l items)(hi:ahG items.toList ns)
  (Rk:∀l:List Int,l.Nodup->(∀x∈l,∃j,j < items.size/\x=ns.getD j 0)->l.length<=2) (hlS:l < S) (hsz:h₁.objs.size=S+1)
  (k:∀h' tk,kU led h' S (λi=>ns.getD i 0) items.size->(∀b o,b < S->h₁.get? b=some o->h'.get? b=some o)->K (.done (.ret .none)) { s with heap:=h',toks:=tk }) :
  wpAny (abb prog w) A (aee.«set.__init__» ⟨[.ref S,.ref l],[]⟩) K E { s with heap:=h₁ }:=by
 obtain⟨⟨acU,ae1,aaQ,aer⟩,hol',Q5,nl,Wh⟩:=id hl
 obtain rfl:acU=.type "list":=Q5
 obtain rfl:aaQ=.seq items nl:=Wh
 have hT:Shared.TypeIs { s with heap:=h₁ } (.ref S) "set":=⟨_,hS,rfl⟩
 have U3:=PySem.F.called_set.sub
 have afn:=PySem.F.sub_list_set
 have afl:=PySem.F.sub_list_frozenset
 have P6:(aia "list" == aia "dict")=false:=by decide
 unfold aee.«set.__init__» noKeywords Builtin.Frozenset.updateFrom
 generalize hPI:ajh=PI
 wp_walk
 subst hPI
 refine agH hl ?_
 refine aac (wpAny_runValue ?_)
 have hh3:A.in1.handled=none:=by simp [hh]
 have acP:l≠h₁.objs.size:=by rw [hsz]; exact abc (abK hlS)
 have Ys:S ∉ [h₁.objs.size,l]:=by
  rw [hsz]; simp only [aby,agk,abu,or_false,not_or]
  exact⟨abc (abv _),abT hlS⟩
 have XW:∀(i:Nat) (v:aab),items[i]?=some v->∃t,v=.int ((λi=>ns.getD i 0) i) t:=λi v hv =>
  PyProof.Rows.IntsAre.int_at hi i v (by rw [ads]; exact hv)
 refine KL ((Walks.list hh3 _ l acP items).toS) led S Ys (λi=>ns.getD i 0) XW Rk (items.size - 0) 0 _ (by walk_at "o") (abP _)
  ⟨⟨_,abz _ rfl,rfl,rfl⟩,(hl.push _)⟩ (KH (aak _ hS)) ?hR
 case hR =>
  intro s' hm VQ
  obtain⟨h',g',d',PV,os'⟩:=s'
  obtain rfl:g'=s.gens:=hm.gens
  obtain rfl:d'=s.drawn:=hm.drawn
  obtain rfl:os'=s.os:=hm.os
  show wpAny _ _ _ _ _ _
  refine aa8 ?_
  show wpAny _ _ (ret aig) _ _ _
  refine aa8 (k h' PV VQ λb o hb e=>?_)
  have VZ:b≠h₁.objs.size:=by rw [hsz]; exact abc (abK hb)
  exact hm.heap b o (by simp only [aby,agk,abu,or_false,not_or]; exact⟨abc hb,VZ⟩) (aak _ e)
set_option maxHeartbeats 3200000 in
theorem C8 {l:Addr}{items:Array aab}{ns:List Int}{Q:aab->aah->Prop}
  (hh:A.handled=none) (hl:s.heap.IsList l items) (hi:ahG items.toList ns) (Rk:∀l:List Int,l.Nodup->(∀x∈l,∃j,j < items.size/\x=ns.getD j 0)->l.length<=2)
  (h:∀(h':Heap) (tk:Nat),kU (!(w.params.followText "set-order")) h' s.heap.objs.size (λi=>ns.getD i 0) items.size ->
   (∀b o,b < s.heap.objs.size->s.heap.get? b=some o->h'.get? b=some o)->Q (.ref s.heap.objs.size) { s with heap:=h',toks:=tk }) :
  wpAny (abb prog w) A (call (.type "set") [.ref l]) Q E s:=by
 obtain⟨c,tl,ae9⟩:=PySem.F.called_set.mro
 have ae8:=PySem.F.called_set.made
 have U3:=PySem.F.called_set.sub
 refine aey (ahh ?_)
 show wpAny _ _ (callAny (.type "set") _) _ _ _
 refine aa8 ⟨agu _ (by decide +kernel),aek PySem.F.entry_type_call ?_⟩
 rw [Around.under_plain (weight_type_call_type "set" [.ref l] []) rfl]
 have h1:=PySem.F.called_set.notType
 have h2:=PySem.F.called_set.canCreate
 have VT:=PySem.F.typeCall_set_1 (.ref l)
 repeat (any_goals (first | assumption | wp_step))
 generalize hled:(!(w.params.followText "set-order"))=led at h
 refine aix (DB (.ref l) (E:=E) (Q₁:=λobj P0=>obj=.ref s.heap.objs.size/\P0={ s with heap:=s.heap.push (sM led) }) ⟨rfl,by rw [hled]⟩) λr P0 hr=>?_
 cases r with
 | error e=>exact hr
 | ok fl =>
  cases fl with
  | ret obj =>
   obtain⟨rfl,rfl⟩:=hr
   have hS:(s.heap.push (sM led)).get? s.heap.objs.size=some (sM led):=abz _ rfl
   have hT:Shared.TypeIs { s with heap:=s.heap.push (sM led) } (.ref s.heap.objs.size) "set":=⟨_,hS,rfl⟩
   have hli:=PySem.F.called_set.init.lookup
   have hbi:=PySem.F.called_set.init.bind (.ref s.heap.objs.size)
   repeat (any_goals (first | assumption | wp_step))
   refine aix (af6 (R:=wants (λr Qo=>r=.none/\∃h' tk,Qo={ s with heap:=h',toks:=tk } /\
     kU led h' s.heap.objs.size (λi=>ns.getD i 0) items.size/\(∀b o,b < s.heap.objs.size->s.heap.get? b=some o->h'.get? b=some o)) E) PySem.F.called_set.init.plain PySem.F.entry_set_init (check_set_init_1 hT ?_)) λP5 Qo Ws=>?_
   ·have Z7:=hl
    obtain⟨ol,Z7,_⟩:=Z7
    exact Ja (s:=s) (h₁:=s.heap.push (sM led)) (by simp [hh]) hS (hl.push _) hi Rk (abk Z7) (adM _ _) λh' tk VQ hk=>⟨rfl,h',tk,rfl,VQ,λb o hb e=>hk b o hb (aak _ e)⟩
   ·cases P5 with
    | error e=>exact Ws
    | ok fl₂ =>
     cases fl₂ with
     | ret r =>
      refine bv λGG PD=>?_
      obtain⟨rfl,h',tk,rfl,VQ,QA⟩:=Ws
      refine PD ?_
      repeat (any_goals (first | assumption | wp_step))
      exact h _ _ VQ QA
     | _=>exact Ws.elim
  | _=>exact hr.elim
end
theorem ww {β:Type}:∀(l:List β)(i:Nat)(h:i < l.length),(l[i]::l.eraseIdx i).Perm l
 | a::l,0,_=>.refl _
 | a::l,i+1,h=>(List.Perm.swap _ _ _).trans (.cons a (ww l i (by simpa using h)))
theorem Li {β:Type}{next:Nat->Nat}{fuel k:Nat}{left:List β}{out:Array β}{o:Option β}(e:left[next k % left.length]?=o) :
  aiy next (fuel+1) k left out=o.elim out λx=>aiy next fuel (k+1) (left.eraseIdx (next k % left.length)) (out.push x):=by
 cases e; rfl'
theorem Hp {β:Type}(next:Nat->Nat):∀(fuel k:Nat)(left:List β)(out:Array β),left.length=fuel->(aiy next fuel k left out).toList.Perm (out.toList++left):=by
 intro fuel
 induction fuel with
 | zero =>
  intro k left out h
  rw [abI h,abr]
  exact .refl _
 | succ fuel ih =>
  intro k left out h
  have PR:next k % left.length < left.length:=Nat.mod_lt _ (h ▸ Nat.succ_pos _)
  rw [Li (aa9 PR)]
  refine (ih (k+1) _ _ (by rw [List.length_eraseIdx_of_lt PR,h]; exact adv ..)).trans ?_
  rw [aet,abL]
  exact List.Perm.append_left _ (ww left _ PR)
noncomputable def jm (w:aaq)(S:Addr)(ep:Nat)(ps:List (Int×Tok)):Array (Int×aab):=if w.params.followText "set-order" then pickOrder (w.params.setOrder S ep) (cJ ps) else cJ ps
theorem y7 (w:aaq)(S:Addr)(ep:Nat)(ps:List (Int×Tok)):(jm w S ep ps).toList.Perm (cJ ps).toList:=by
 unfold jm
 by_cases h:w.params.followText "set-order"=true
 ·rw [if_pos h]; exact Hp (w.params.setOrder S ep) (cJ ps).size 0 (cJ ps).toList #[] abj
 ·rw [if_neg h]
theorem nB (w:aaq)(S:Addr)(ep:Nat)(ps:List (Int×Tok)):(jm w S ep ps).size=ps.length:=by
 have:=(y7 w S ep ps).length_eq
 rw [abj] at this
 rw [this]
 simp [cJ]
noncomputable def kh (b:Bool)(place:Array Nat):Nat->Nat
 | 0=>0
 | i+1=>if b then 0 else place.getD i 0+1
section
variable {prog:ade}{w:aaq}{A:abt}{E:aab->aah->Prop}{s:aah}
theorem iw.plain {led:Bool}{ps:List (Int×Tok)}{t:adP}(h:iw led ps t):t.plain=true:=by cases h <;> rfl
theorem NL {led:Bool}{ps:List (Int×Tok)}{t:adP}(h:iw led ps t):t.led=led:=by cases h <;> rfl
theorem wk {es:Array (Int×aab)}{pl:Array Nat}{j b:Nat}{Q:Option (aab×Nat)->aah->Prop}(e:add pl j=b)
  (h:Q (match es[b]?,pl[b]? with | some (_,x),some j=>some (x,j+1) | _,_=>none) s) :
  wpAny (abb prog w) A (pure (match es[add pl j]?,pl[add pl j]? with | some (_,x),some j=>some (x,j+1) | _,_=>none)) Q E s:=
 aa8 (e ▸ h)
theorem xz {S:Addr}{o:Obj}{ep i:Nat}{t:adP}{ps:List (Int×Tok)}{Q:Option (aab×Nat)->aah->Prop}(ho:s.heap.get? S=some o)(hd:o.data=.set (cJ ps) ep t)(hl:iw (!(w.params.followText "set-order")) ps t) (hi:i<=ps.length)
  (h:Q ((jm w S ep ps)[i]?.map λe=>(e.2,kh (w.params.followText "set-order") t.place (i+1))) s):wpAny (abb prog w) A (setNext S (kh (w.params.followText "set-order") t.place i) i ep) Q E s:=by
 unfold setNext
 refine aac (afF ho hd hl.fits ?_)
 unfold ai8
 refine aac (aac (ad8 (aa8 ?_)))
 cases hb:w.params.followText "set-order" with
 | true =>
  refine FY hb (w3 (λq=>Bool.noConfusion (q.symm.trans (bne_self_eq_false' ep))) ?_)
  have hs:kh true t.place i=kh true t.place (i+1):=by cases i <;> rfl
  unfold setWalk ai8
  refine aac (aac (afF ho hd hl.fits ?_))
  refine aac (aac (ad8 (aa8 ?_)))
  refine FY hb ?_
  refine aac (ad8 (aa8 (aa8 ?_)))
  unfold jm at h
  rw [hb,<- hs] at h
  rw [hb]
  exact h
 | false =>
  refine w3 (λq=>Bool.noConfusion (q.symm.trans hb)) ?_
  unfold jm at h
  rw [hb] at hl h
  cases hl with
  | nil =>
   have e0:i=0:=by simpa using hi
   subst e0
   exact aac (aa8 (aa8 h))
  | one x p =>
   rcases (show i=0\/i=1 by simp at hi; walk_at "o") with rfl | rfl
   ·exact aac (aa8 (wk (es:=cJ [x]) (pl:=(dC true #[p]).place) (j:=0) ((wD p 0).trans (if_neg (ab6 p))) h))
   ·exact aac (aa8 (wk (es:=cJ [x]) (pl:=(dC true #[p]).place) (j:=p+1) ((wD p (p+1)).trans (if_pos (abv p))) h))
  | two x y p q hpq =>
   rcases (show i=0\/i=1\/i=2 by simp at hi; walk_at "o") with rfl | rfl | rfl
   ·exact aac (aa8 (wk (es:=cJ [x,y]) (pl:=(dC true #[p,q]).place) (j:=0) (KG p q) h))
   ·exact aac (aa8 (wk (es:=cJ [x,y]) (pl:=(dC true #[p,q]).place) (j:=p+1) (LO p q hpq) h))
   ·exact aac (aa8 (wk (es:=cJ [x,y]) (pl:=(dC true #[p,q]).place) (j:=q+1) (LS p q hpq) h))
end
theorem dM:Slot "set_iterator" "__next__" "set_iterator.__next__":=
 .of (owner:="set_iterator") (n:="__next__") (by rw [aga,aep]; kernel_rfl) (by decide +kernel) (by decide +kernel) (by decide +kernel)
  (by first | exact .inl (by decide +kernel) | exact .inr (by decide +kernel)) (by rw [ahH]; kernel_rfl)
theorem lK:ai9 table "set_iterator.__next__"=some aee.«set_iterator.__next__»:=entryFor_of_tree (by kernel_rfl)
theorem qT:Manifest.owners.lookup (String.ofList "rotareti_tes".toList.reverse)=some Manifest.sig_set_iterator:=by kernel_rfl
theorem mc (a:aab):argsOk "set_iterator.__next__" ⟨[a],[]⟩:=by
 unfold argsOk; rw [signature?_of (id:="set_iterator.__next__") (n:="__txen__".toList) (o:="rotareti_tes".toList) (by kernel_rfl) qT]; kernel_rfl
theorem yU:ai9 table "set.__iter__"=some aee.«frozenset.__iter__»:=entryFor_alias (id':="frozenset.__iter__") (by kernel_rfl) rfl (by decide +kernel) (by kernel_rfl)
theorem me:Slot "set_iterator" "__iter__" "set_iterator.__iter__":=
 .of (owner:="set_iterator") (n:="__iter__") (by rw [aga,aep]; kernel_rfl) (by decide +kernel) (by decide +kernel) (by decide +kernel)
  (by first | exact .inl (by decide +kernel) | exact .inr (by decide +kernel)) (by rw [ahH]; kernel_rfl)
theorem sP:ai9 table "set_iterator.__iter__"=some aee.«dict_keyiterator.__iter__»:=entryFor_alias (id':="dict_keyiterator.__iter__") (by kernel_rfl) rfl (by decide +kernel) (by kernel_rfl)
theorem uK (a:aab):argsOk "set_iterator.__iter__" ⟨[a],[]⟩:=by
 unfold argsOk; rw [signature?_of (id:="set_iterator.__iter__") (n:="__reti__".toList) (o:="rotareti_tes".toList) (by kernel_rfl) qT]; kernel_rfl
structure fQ (w:aaq)(h:Heap)(S:Addr)(ps:List (Int×Tok))(ep:Nat)(t:adP):Prop where
 here:∃o,h.get? S=some o/\o.ExactSet/\o.data=.set (cJ ps) ep t
 lay:iw (!(w.params.followText "set-order")) ps t
noncomputable abbrev FZ (w:aaq)(S:Addr)(ps:List (Int×Tok))(ep:Nat)(t:adP)(i:Nat):Obj:=
 { cls:=.type "set_iterator",data:=.fields #[.int (kh (w.params.followText "set-order") t.place i) 0,.int i 0,.ref S,.int ps.length 0,.int ep 0] }
def eU (w:aaq)(h:Heap)(I S:Addr)(ps:List (Int×Tok))(ep:Nat)(t:adP)(i:Nat):Prop:=
 ∃o,h.get? I=some o/\o.cls=.type "set_iterator"/\o.data=.fields #[.int (kh (w.params.followText "set-order") t.place i) 0,.int i 0,.ref S,.int ps.length 0,.int ep 0]
section
variable {prog:ade}{w:aaq}{A:abt}{E:aab->aah->Prop}{s:aah}{S I:Addr}{ps:List (Int×Tok)}{ep:Nat}{t:adP}
theorem fQ.typeIs (h:fQ w s.heap S ps ep t):s.TypeIs (.ref S) "set":=let ⟨o,ho,hx,_⟩:=h.here; ⟨o,ho,hx.1⟩
theorem eU.typeIs {i:Nat}(h:eU w s.heap I S ps ep t i):s.TypeIs (.ref I) "set_iterator":=let ⟨o,ho,hx,_⟩:=h; ⟨o,ho,hx⟩
theorem fQ.keep {h h':Heap}(x:fQ w h S ps ep t)(k:∀o,h.get? S=some o->h'.get? S=some o):fQ w h' S ps ep t:=⟨let ⟨o,ho,r⟩:=x.here; ⟨o,k _ ho,r⟩,x.lay⟩
theorem nL:(cJ ps).size=ps.length:=by simp [cJ]
theorem FQ {Q:aab->aah->Prop}(hS:fQ w s.heap S ps ep t)(hQ:Q (.ref s.heap.objs.size) { s with heap:=s.heap.push (FZ w S ps ep t 0) }) :
  wpAny (abb prog w) A (ajh (.ref S)) Q E s:=by
 have hT:=hS.typeIs
 obtain⟨⟨o,ho,hx,hd⟩,hl⟩:=id hS
 refine aiz hT aho (aeK aho hT yU ?_ (PySem.F.args_set_iter_1 _))
 unfold aee.«frozenset.__iter__»
 refine aac (aa8 ?_)
 unfold Builtin.Frozenset.sizeOf
 refine aac (aac (age ho hd hl.fits (aa8 ?_)))
 refine aac ?_
 unfold setDrawn ai8
 refine aac (afF ho hd hl.fits ?_)
 refine aac (aac (ad8 (aa8 ?_)))
 dsimp only
 have hp:=hl.plain
 refine bv λGG PD=>?_
 obtain⟨mask,place,dummies,finger,led,moves,plain⟩:=t
 refine PD ?_
 dsimp only at hp
 subst hp
 refine aa8 ?_
 show wpAny _ _ (if (!w.params.followText "set-order" && false)=true then _ else _) _ _ _
 rw [aja,if_neg Bool.false_ne_true]
 refine aac (aa8 ?_)
 refine aac (wpAny_setEpoch_of ho hd hl.fits ?_)
 refine aac (adZ (aa8 ⟨_,rfl,"set_iterator",_,⟨_,abz _ rfl,rfl⟩,dM.lookup,?_⟩))
 simp only [FZ,kh] at hQ
 simpa [adO,nL] using hQ
theorem Fv {i:Nat}{Q:Option aab->aah->Prop}(hI:eU w s.heap I S ps ep t i)(hS:fQ w s.heap S ps ep t){x:Int×aab}(hx:(jm w S ep ps)[i]?=some x)
  (hQ:∀h',eU w h' I S ps ep t (i+1)->adf I s.heap h'->Q (some x.2) { s with heap:=h' }):wpAny (abb prog w) A (afA (.ref I)) Q E s:=by
 refine bv λGG PD=>?_
 obtain⟨oI,Wc,hcI,Tc⟩:=id hI
 obtain⟨⟨o,ho,Uc,hd⟩,hl⟩:=id hS
 refine PD ?_
 have PR:i < ps.length:=by rw [<- nB w S ep ps]; exact (aez.mp hx).1
 unfold afA
 refine aac (ah6 (ag0 (name:=ahc "__next__") hI.typeIs dM
  (aeK dM hI.typeIs lK ?_ (mc _))))
 unfold aee.«set_iterator.__next__»
 refine aac (aa8 ?_)
 refine aac (wpAny_fieldsOf Wc Tc ?_)
 dsimp only
 refine aac (age ho hd hl.fits ?_)
 refine w3 (by rw [nL]; simp) ?_
 refine aac (xz ho hd hl (adi PR) ?_)
 rw [hx]
 dsimp only [aeV]
 refine aac (ahI Wc Tc (by simp) ?_)
 have ho2:=adc (Obj.mapFields (·.setIfInBounds 0 (adO (kh (w.params.followText "set-order") t.place (i+1))))) Wc (ahp (aeW Tc _))
 have Zi:=aeW Tc (·.setIfInBounds 0 (adO (kh (w.params.followText "set-order") t.place (i+1))))
 refine aac (ahI ho2 Zi (by simp) ?_)
 refine aa8 ⟨_,rfl,aa8 (hQ _ ⟨_,adc _ ho2 (ahp (aeW Zi _)),(aiA ..).trans ((aiA ..).trans hcI),?_⟩ ((adp ..).trans (adp ..)))⟩
 rw [aeW Zi]
 simp [adO]
theorem yZ {Q:Option aab->aah->Prop}(hh:A.handled=none)(hI:eU w s.heap I S ps ep t ps.length)(hS:fQ w s.heap S ps ep t)
  (hQ:∀h',afi I s.heap h'->Q none { s with heap:=h' }):wpAny (abb prog w) A (afA (.ref I)) Q E s:=by
 refine bv λGG PD=>?_
 obtain⟨oI,Wc,hcI,Tc⟩:=id hI
 obtain⟨⟨o,ho,Uc,hd⟩,hl⟩:=id hS
 refine PD ?_
 unfold afA
 refine aac (ah6 (ag0 (name:=ahc "__next__") hI.typeIs dM
  (aeK dM hI.typeIs lK ?_ (mc _))))
 unfold aee.«set_iterator.__next__»
 refine aac (aa8 ?_)
 refine aac (wpAny_fieldsOf Wc Tc ?_)
 dsimp only
 refine aac (age ho hd hl.fits ?_)
 refine w3 (by rw [nL]; simp) ?_
 refine aac (xz ho hd hl (abp _) ?_)
 rw [acb (by rw [nB]; exact abp _)]
 dsimp only [aeV]
 refine aac (ahI Wc Tc (by simp) ?_)
 show wpAny _ _ (newExc (.type "StopIteration") [] >>= _) _ _ _
 refine aac ?_
 unfold newExc newTuple
 refine aac (adZ ?_ (by size_fits))
 refine aac (m:=firstArgMember _ _) (wpAny_of_eq (a:=aig) (by first | rfl | (simp only [firstArgMember]; rfl)) ?_)
 refine adZ ?_ (by size_fits)
 unfold raiseNew
 refine aac (wpAny_handled ?_)
 rw [show A.in1.handled=none from hh]
 refine aac (aa8 (wpAny_throw ?_))
 refine aac (wpAny_isInstance (T:="StopIteration") (b:=true) ⟨_,abz _ rfl,rfl⟩ isSubtype_stop ?_)
 exact aa8 (hQ _ (((adp ..).extBut.push _).push _))
theorem yM {i:Nat}{Q:aab->aah->Prop}(hI:eU w s.heap I S ps ep t i)(h:Q (.ref I) s):wpAny (abb prog w) A (ajh (.ref I)) Q E s:=by
 refine aiz hI.typeIs me (aeK me hI.typeIs sP ?_ (uK _))
 show wpAny _ _ (ret (.ref I)) _ _ s
 exact aa8 ⟨_,rfl,"set_iterator",_,hI.typeIs,dM.lookup,h⟩
theorem BM:typeLookup (.type "set") "__len__"=pure (some (.builtin "set.__len__")):=by rw [aga,aep]; kernel_rfl
theorem JT {r:Addr}{Q:Bool->aah->Prop}(hT:s.TypeIs (.ref r) "set") (h:Q false s):wpAny (abb prog w) A (agi (.ref r)) Q E s:=by
 unfold agi
 refine aac (wpAny_specialOf hT BM ?_)
 generalize V9:("set.__len__":String)=id0
 wp_delta
 rw [show splitId id0=some ("set","__len__") from by subst V9; decide +kernel]
 subst V9
 refine aac (wpAny_isInstance (T:="set") (b:=true) hT (by rw [ahH]; kernel_rfl) ?_)
 refine wpAny_ite_split (λQP=>absurd QP (by decide)) (λ_=>?_)
 refine wpAny_ite_split (λ_=>?_) (λQP=>absurd (by decide +kernel) QP)
 refine aac (aiB hT ?_)
 exact aa8 h
theorem eU.keep {h h':Heap}{i:Nat}(x:eU w h I S ps ep t i)(k:∀o,h.get? I=some o->h'.get? I=some o):eU w h' I S ps ep t i:=let ⟨o,ho,r⟩:=x; ⟨o,k _ ho,r⟩
theorem JC (hh:A.handled=none)(P6:S≠I):Walks prog w A I [I,S] [I] ps.length (λi v=>∃x,(jm w S ep ps)[i]?=some x/\v=x.2) (λi h=>eU w h I S ps ep t i/\fQ w h S ps ep t) where
 sub:=λb hb=>by simp at hb; simp [hb]
 frame:=λ_ _ _ st hk=>⟨st.1.keep λo e=>hk I (by simp) o e,st.2.keep λo e=>hk S (by simp) o e⟩
 item:=λi s Q E hi st hQ=>by
  obtain⟨x,hx⟩:∃x,(jm w S ep ps)[i]?=some x:=⟨_,adS (by rw [nB]; exact hi)⟩
  refine Fv st.1 st.2 hx λh' hI' UK=>?_
  exact hQ _ h' s.toks ⟨x,hx,rfl⟩ ⟨hI',st.2.keep λo e=>UK.extBut S o P6 e⟩ λb o hb e=>UK.extBut b o (λq=>hb (by simp [q])) e
 done:=λs Q E st hQ=>yZ hh st.1 st.2 λh' WW=>hQ h' s.toks λb o hb e=>WW b o (λq=>hb (by simp [q])) e
 self:=λ_ _ _ _ st hQ=>yM st.1 hQ
theorem Nc:KdlSrc prog w "set" S S ps.length (λi v=>∃x,(jm w S ep ps)[i]?=some x/\v=x.2) (λh=>fQ w h S ps ep t) where
 type:=λ_ hm=>hm.typeIs
 there:=λ_ hm=>⟨let ⟨_,ho,_⟩:=hm.here; abk ho,let ⟨_,ho,_⟩:=hm.here; abk ho⟩
 keep:=λ_ _ hm hk=>hm.keep λo e=>hk S (.inl rfl) o e
 notList:=by decide
 notTuple:=by decide
 hint:=λ_ _ _ _ hm hq=>JT hm.typeIs hq
 iter:=λ_ s hh hm=>⟨FZ w S ps ep t 0,_,(λ_ _ hq=>FQ hm hq),JC hh (let ⟨_,ho,_⟩:=hm.here; abc (abk ho)),⟨⟨_,abz _ rfl,rfl,rfl⟩,hm.keep λo e=>aak _ e⟩⟩
end
noncomputable def vw (a:Int):List Int->List Int
 | []=>[a]
 | b::r=>if a < b then a::b::r else if a=b then b::r else b::vw a r
noncomputable def i4 (ns:List Int):List Int:=ns.foldr vw []
def qk (r:TL):TE:=λρ st Q=>r ρ st λVs Pt=>BC (hO λi=>cD Pt[i]? λxs=>dU (fD xs) λns=>(i4 ns).length<=2/\ns.length<=1000/\Q (.ref Pt.length) (Pt++[.list ((i4 ns).map .int)])) Vs
theorem Hd {a b:Int}{r:List Int}:vw a (b::r)=if a < b then a::b::r else if a=b then b::r else b::vw a r:=rfl
theorem BQ {a x:Int}{l:List Int}:x∈vw a l↔x=a\/x∈l:=by
 induction l with
 | nil=>exact aby
 | cons b r ih =>
  rw [Hd]
  by_cases h:a < b
  ·rw [if_pos h]; exact aby
  ·rw [if_neg h]
   by_cases e:a=b
   ·rw [if_pos e]; exact⟨.inr,λq=>q.elim (λq=>by rw [q,e]; exact .head _) id⟩
   ·rw [if_neg e,aby,ih,aby]; exact or_left_comm
theorem I0 {a:Int}{l:List Int}(h:l.Pairwise (· < ·)):(vw a l).Pairwise (· < ·):=by
 induction l with
 | nil=>exact ag1 _ _
 | cons b r ih =>
  have h':=adw.mp h
  rw [Hd]
  by_cases PR:a < b
  ·rw [if_pos PR]
   exact .cons (λx hx=>(bM hx).elim (λq=>q ▸ PR) λq=>Int.lt_trans PR (h'.1 x q)) h
  ·rw [if_neg PR]
   by_cases e:a=b
   ·rw [if_pos e]; exact h
   ·rw [if_neg e]
    exact .cons (λx hx=>(BQ.mp hx).elim (λq=>q ▸ Int.lt_iff_le_and_ne.mpr ⟨Int.not_lt.mp PR,aec e⟩) (h'.1 x)) (ih h'.2)
theorem sz {x:Int}{l:List Int}:x∈i4 l↔x∈l:=by
 induction l with
 | nil=>exact .rfl
 | cons a l ih =>
  show x∈vw a (i4 l)↔_
  rw [BQ,ih,aby]
theorem zt (l:List Int):(i4 l).Pairwise (· < ·):=by
 induction l with
 | nil=>exact .nil
 | cons a l ih=>exact I0 ih
theorem u1 {RH l₂:List Int}(h1:RH.Pairwise (· < ·))(h2:l₂.Pairwise (· < ·))(h:∀x,x∈RH↔x∈l₂):RH=l₂:=by
 induction RH generalizing l₂ with
 | nil =>
  cases l₂ with
  | nil=>rfl
  | cons y r=>exact absurd ((h y).mpr (.head _)) (by simp)
 | cons x l ih =>
  cases l₂ with
  | nil=>exact absurd ((h x).mp (.head _)) (by simp)
  | cons y r =>
   rw [adw] at h1 h2
   have hxy:x=y:=by
    rcases bM ((h x).mp (.head _)) with e | e
    ·exact e
    ·rcases bM ((h y).mpr (.head _)) with e' | e'
     ·exact e'.symm
     ·have:=h2.1 x e
      have:=h1.1 y e'
      walk_at "o"
   subst hxy
   congr 1
   refine ih h1.2 h2.2 λz=>⟨λhz=>?_,λhz=>?_⟩
   ·rcases bM ((h z).mp (.tail _ hz)) with e | e
    ·subst e; exact absurd (h1.1 z hz) (agQ _)
    ·exact e
   ·rcases bM ((h z).mpr (.tail _ hz)) with e | e
    ·subst e; exact absurd (h2.1 z hz) (agQ _)
    ·exact e
theorem G0 {l:List Int}(h:l.Pairwise (·<=·))(hn:l.Nodup):l.Pairwise (· < ·):=by
 induction l with
 | nil=>exact .nil
 | cons a l ih =>
  rw [adw] at h
  rw [abV] at hn
  refine adw.mpr ⟨λx hx=>?_,ih h.2 hn.2⟩
  have h1:=h.1 x hx
  have h2:a≠x:=λe=>hn.1 (e ▸ hx)
  walk_at "o"
theorem tP {hB:Heap}{news:aO}{φ:bk}:∀{vs:List aab}{ns:List Int},IntsAre vs ns->bg hB news φ (ns.map .int) vs
 | _,_,.nil=>.nil
 | _,_,.cons n t r=>.cons (.int n t) (tP r)
theorem Dq {a b:List Int}(hn:a.Nodup)(hs:∀x∈a,x∈b):a.length<=b.length:=by
 induction a generalizing b with
 | nil=>exact abP _
 | cons x a ih =>
  rw [abV] at hn
  have hx:=hs x (.head _)
  have:=ih (b:=b.erase x) hn.2 λy hy=>(List.mem_erase_of_ne (λe:y=x=>hn.1 (e ▸ hy))).mpr (hs y (.tail _ hy))
  rw [List.length_erase_of_mem hx] at this
  have h0:0 < b.length:=ahd hx
  simp only [abw]
  walk_at "o"
theorem Iw {w:aaq}{S:Addr}{ep:Nat}{ps:List (Int×Tok)}{vs:List aab}(hl:vs.length=ps.length)(hv:∀(j:Nat)(v:aab),vs[j]?=some v->∃x:Int×aab,(jm w S ep ps)[j]?=some x/\v=x.2):∃ns,IntsAre vs ns/\ns.Perm (ps.map (·.1)):=by
 have e:vs=(jm w S ep ps).toList.map (·.2):=by
  apply List.ext_getElem?
  intro j
  have e0:(jm w S ep ps).toList[j]?=(jm w S ep ps)[j]?:=ads
  rw [abC,e0]
  by_cases hj:j < vs.length
  ·obtain⟨x,hx,e⟩:=hv j _ (aa9 hj)
   rw [hx,aa9 hj,e]; rfl
  ·have e1:vs[j]?=none:=afP (by walk_at "o")
   have e2:(jm w S ep ps)[j]?=none:=acb (by rw [nB]; walk_at "o")
   rw [e1,e2]; rfl
 have p:=(y7 w S ep ps).map (·.2)
 rw [<- e] at p
 have q:(cJ ps).toList.map (·.2)=ps.map λp=>aeo p.1 p.2:=by simp [cJ]
 rw [q] at p
 have key:∀(vs:List aab) (ps:List (Int×Tok)),vs.Perm (ps.map λp=>aeo p.1 p.2)->∃ns,IntsAre vs ns/\ns.Perm (ps.map (·.1)):=by
  intro vs ps h
  generalize hq:(ps.map λp=>aeo p.1 p.2)=qs at h
  induction h generalizing ps with
  | nil=>rw [List.map_eq_nil_iff.mp hq]; exact⟨[],.nil,.refl _⟩
  | @cons x RH l₂ _ ih =>
   cases ps with
   | nil=>cases hq
   | cons a ps =>
    simp only [abg,List.cons.injEq] at hq
    obtain⟨rfl,hq⟩:=hq
    obtain⟨ns,h1,h2⟩:=ih ps hq
    exact⟨a.1::ns,.cons _ _ h1,h2.cons _⟩
  | swap x y l =>
   match ps,hq with
   | a::b::ps,hq =>
    simp only [abg,List.cons.injEq] at hq
    refine bv λGG PD=>?_
    obtain⟨rfl,rfl,rfl⟩:=hq
    refine PD ?_
    have:∀ps:List (Int×Tok),IntsAre (ps.map λp=>aeo p.1 p.2) (ps.map (·.1)):=λps=>by
     induction ps with
     | nil=>exact .nil
     | cons a ps ih=>exact .cons _ _ ih
    exact⟨b.1::a.1::ps.map (·.1),.cons _ _ (.cons _ _ (this ps)),.swap _ _ _⟩
  | @trans RH l₂ l₃ _ _ ih1 ih2 =>
   refine bv λGG PD=>?_
   obtain⟨ns,h1,h2⟩:=ih2 ps hq
   have acn:∀(vs:List aab) (ns:List Int),IntsAre vs ns->∃Qi:List (Int×Tok),(Qi.map λp=>aeo p.1 p.2)=vs/\Qi.map (·.1)=ns:=by
    intro vs ns h
    induction h with
    | nil=>exact⟨[],rfl,rfl⟩
    | cons n t _ ih=>obtain⟨Qi,a,b⟩:=ih; exact⟨(n,t)::Qi,by simp [a],by simp [b]⟩
   obtain⟨Qi,a,b⟩:=acn _ _ h1
   obtain⟨Z0,h3,h4⟩:=ih1 Qi a
   refine PD ?_
   rw [b] at h4
   exact⟨Z0,h3,h4.trans h2⟩
 exact key vs ps p
section
variable {α:bC}{ℓ:Nat}{sc:abJ}{slots:List Str}
theorem y4 {es:List Expr}{p q pos ZV:Pos}{T:TL}(h:ae α ℓ sc slots es T)(he:nsIn α.K aai ("sorted":Str)=some none) (Zm:nsIn α.K aai ("set":Str)=some none)
  (hx:autoParam (sc.names.lookup ("sorted":Str)=some .globalImplicit) aR) (Rr:autoParam (sc.names.lookup ("set":Str)=some .globalImplicit) aR) :
  aa α ℓ sc slots (.Call (.Name ("sorted":Str) p) [.Call (.Name ("set":Str) q) es [] ZV] [] pos) (qk T):=by
 intro A h₀ L env C D s m st φ news ρ PB Lo Q Qc E t P
 refine agT (fv C D PB.F he (v:=.builtin "sorted") (by decide +kernel) (by decide +kernel) ?_ hx (by decide +kernel))
 refine bR (α:=α) (fB.cons (λ_ _=>rfl) fB.nil) (Pp:=λ_=>True) (λh _=>e7 _ h) ?_
 refine aeE (he:=rfl) ?_
 refine agT (fv C D PB.F Zm (v:=.type "set") (by decide +kernel) (by decide +kernel) ?_ Rr (by decide +kernel))
 refine bR (α:=α) h.plain (Pp:=λ_=>True) (λh _=>iU _ h) (h.run A h₀ L env C D s m st φ news ρ PB Lo ZV _ _ E t λVs Pt Px PC vs h₁ PA Pv Py PO Pw PL=>⟨trivial,?_⟩)
 clear t PL
 apply PO.o1 Pw; intro V v ra Pw; apply ra.oR Pw; intro i a d PP Pw
 refine bZ Pw λxs hi Pw=>dH Pw λns Sy Pw=>?_
 have h2:=Pw.1
 have hk:=Pw.2.1
 replace Pw:=Pw.2.2
 refine Pv.W.listC hi PP λits n PP hm q=>?_
 have hI:IntsAre its.toList ns:=qc q Sy
 have hsz:its.size=ns.length:=by rw [<- abj]; exact IntsAre.length hI
 have WL:∀x,(∃j,j < its.size/\x=ns.getD j 0)↔x∈ns:=λx=>by
  constructor
  ·rintro⟨j,hj,rfl⟩
   rw [hsz] at hj
   simp [agv,aa9 hj]
  ·intro hx
   obtain⟨j,hj,rfl⟩:=aex.mp hx
   exact⟨j,by walk_at "o",by simp [agv,aa9 hj]⟩
 have hL:Heap.IsList h₁ a its:=Pv.isList (s:={ s with heap:=h₁ }) hm
 refine C8 (items:=its) (ns:=ns) C.hand hL hI (λl hl hs=>?_) λPM PN SR Yf=>?_
 ·exact aaj (Dq hl λx hx=>sz.mpr ((WL x).mp (hs x hx))) h2
 ·dsimp only at SR Yf
  refine bv λGG PD=>?_
  obtain⟨ps,⟨o,ep,tt,ho,Uc,hd,Y0,Qt⟩,Tm⟩:=SR
  refine PD ?_
  refine ahw ⟨trivial,?_⟩
  have keep:∀b o,h₁.get? b=some o->PM.get? b=some o:=λb o e=>Yf b o (abk e) e
  have RF:Fr h₀ L PM m:=Pv.F.keeps keep
  have RI:News h₀ L PM PC:=λp hp=>⟨keep _ _ (Pv.N p hp).1,(Pv.N p hp).2⟩
  have PL:ps.length<=2:=by
   have:=Y0.small
   rwa [nL] at this
  refine kdu_sorted (n:=ps.length) (Nc (prog:=α.prog) (w:=α.w) (S:=h₁.objs.size) (ps:=ps) (ep:=ep) (t:=tt)) C.hand RF RI ⟨⟨o,ho,Uc,hd⟩,Y0⟩ (aaj PL (by decide)) λD P2 P7 vs QO QM l1 RT hv=>?_
  obtain⟨ks,Yu,pks⟩:=Iw RT hv
  have Zx:P2.get? D=some (adA "list" vs.toArray 0):=(QM _ (.head _)).1
  refine aeK slot_list_sort ⟨_,Zx,rfl⟩ entry_list_sort (list_sort_tree Zx Yu (by walk_at "o") λout Z0 a1 a2 a3=>⟨_,rfl,?_⟩) (args_list_sort _)
  dsimp only
  have P6:∀p∈PC,p.1≠D:=λp hp=>abc (l1 p hp)
  refine bv λGG PD=>?_
  obtain⟨oL,_,_,hLo,_⟩:=QO.ns
  obtain⟨_,hDL,hD0⟩:=QM _ (.head _)
  have Qp:∀b o,b≠D->P2.get? b=some o->(aih P2 D vs out).get? b=some o:=λb o hb e=>by rw [sortedHeap_old hb (abk e)]; exact e
  obtain⟨e,WW⟩:=sortedHeap_at (out:=out) Zx
  refine PD ?_
  have TJ:Fr h₀ L (aih P2 D vs out) m:=⟨QO.ns.at' λo e=>Qp L o (aec hDL) e,λb o e=>Qp b o (λq=>by rw [q,hD0] at e; cases e) (QO.keep b o e),QO.above⟩
  have TR:News h₀ L (aih P2 D vs out) ((D,bV out e)::PC):=λp hp=>by
   rcases bM hp with rfl | hp
   ·exact⟨WW,hDL,hD0⟩
   ·exact⟨Qp _ _ (P6 p hp) (QM p (.tail _ hp)).1,(QM p (.tail _ hp)).2⟩
  have acZ:Z0=i4 ns:=u1 (G0 a3 ((a2.trans pks).nodup_iff.mpr Qt)) (zt ns) λx=>by
   rw [(a2.trans pks).mem_iff,Tm,WL,sz]
  subst acZ
  obtain⟨R6,Rn⟩:=Pv.newList TJ TR P6 (tP a1)
  exact P _ _ _ _ _ (aih P2 D vs out) P7 R6 (Py.trans Rn) Pv.refNew Pw
end
theorem nU:ai9 table "dict.update.loop"=some aee.«dict.update.loop»:=entryFor_of_tree (by kernel_rfl)
theorem g7:plainId "dict.update.loop"=true:=by decide +kernel
theorem Bq:typeLookup (.type "list") ("keys":Str)=pure none:=by rw [aga,aep]; kernel_rfl
section
variable {prog:ade}{w:aaq}{A:abt}{E:aab->aah->Prop}{s:aah}
set_option maxHeartbeats 1600000 in
theorem ya {a:Addr}{o:Obj}{xs:Array aab}{k:Nat}{Q:Option aab->aah->Prop}
  (hx:s.heap.get? a=some o) (hc:o.cls=.type "list") (Qn:o.data=.seq xs k) (hd:o.dict=none) (hA:A.handled=none)
  (h:∀h' tk,(∀b ob,s.heap.get? b=some ob->h'.get? b=some ob)->Q none { s with heap:=h',toks:=tk }) :
  wpAny (abb prog w) A (getAttr? (.ref a) ("keys":Str)) Q E s:=by
 obtain⟨c,dct,dat,sl⟩:=o
 simp only at hc Qn hd
 subst hc Qn hd
 obtain⟨hp,g,d,tk,os⟩:=s
 have hT:∀PV,(⟨hp,g,d,PV,os⟩:aah).TypeIs (.ref a) "list":=λ_=>⟨_,hx,rfl⟩
 have f1:=sub_AttributeError
 have f3:=PySem.F.slot_list_getattribute.lookup
 have f4:=PySem.F.slot_list_getattribute.bind (.ref a)
 have f5:=am_list_getattr_none
 unfold getAttr? getAttrBy? getAttrBy
 repeat (any_goals (first | assumption | exact hT _ | ((with_reducible show wpAny _ _ (call (Value.builtin "list.__getattribute__") _ _) _ _ _); refine call_meets PySem.F.slot_list_getattribute (hT _) am_entry_list_getattribute (PySem.F.args_list_getattribute_2 _ _) (meets_getattribute_miss_list a xs k sl ("keys":Str) _ Bq (by decide +kernel)) ⟨hx,hA,λh' PV e Rf=>?_⟩) | wp_step))
 obtain⟨t',u',he⟩:=Rf.there
 show wpAny _ _ (aii _ _ _ _ _ _ _) _ _ _
 unfold aii
 repeat (any_goals (first | assumption | wp_step))
 exact h _ _ Rf.keeps
end
theorem xo {K:Type} [DecidableEq K] {kvs:List (K×aab)}{k:K}{v:aab}(h:k ∉ kvs.map (·.1)):stored kvs k v=kvs++[(k,v)]:=by
 unfold stored
 rw [if_neg]
 rw [List.any_eq_true]
 rintro⟨kv,Sa,he⟩
 exact h (ed ⟨kv,Sa,by simpa using he⟩)
section
variable {prog:ade}{w:aaq}{A:abt}{R:afW->aah->Prop}
def J7 (h:Heap)(items:Array aab)(kvs:List (Str×aab))(no:List Addr):Prop:=∀(j:Nat)(v:aab),items[j]?=some v->∃a k t x,v=.ref a/\a ∉ no/\ajn h a #[.str k t,x]/\kvs[j]?=some (k,x)
theorem JN (hh:A.handled=none){d l I:Addr}{items:Array aab}{kvs:List (Str×aab)}(Tc:d≠I)(Wh:d≠l)(hIl:I≠l)(PL:kvs.length=items.size)(Qt:(kvs.map (·.1)).Nodup)(hsz:items.size<=abA):∀(k i:Nat)(s:aah),items.size - i=k->i<=items.size ->
  s.heap.IsListIter I l i->s.heap.IsList l items->J7 s.heap items kvs [d,I]->s.heap.DictOf (strKind prog w) d (kvs.take i) ->
  (∀h' tk,h'.DictOf (strKind prog w) d kvs->(∀b o,b≠d->b≠I->s.heap.get? b=some o->h'.get? b=some o)->R (.ok (.ret .none)) { s with heap:=h',toks:=tk }) ->
  adx (abb prog w) A (.builtin "dict.update.loop" ⟨[.ref d,.ref I,.int i 0,.none],[]⟩) R s:=by
 intro k
 induction k with
 | zero =>
  intro i s hk hi hI hL hP hD hR
  have QX:i=items.size:=af9 hi (Nat.le_of_sub_eq_zero hk)
  subst QX
  refine aek nU ?_
  rw [ad1 g7 _]
  show wpAny _ A.in1 (afA (.ref I) >>= _) _ _ s
  refine aac (ahl (A:=A.in1) hh hI hL (acb (abp _)) λh' he=>?_)
  show wpAny _ A.in1 (Builtin.Dict.addKeywords d [] >>= λ_=>ret aig) _ _ _
  refine aac (aa8 ?_)
  rw [<- PL,List.take_length] at hD
  exact aa8 (hR h' s.toks (hD.extBut he Tc) λb o _ hb e=>he b o hb e)
 | succ k ih =>
  intro i s hk hi hI hL hP hD hR
  have PR:i < items.size:=Nat.lt_of_sub_eq_succ hk
  have hx:items[i]?=some items[i]:=adS PR
  refine aek nU ?_
  rw [ad1 g7 _]
  show wpAny _ A.in1 (afA (.ref I) >>= _) _ _ s
  refine aac (ag9 hI hL hx λh₁ aaz UZ=>?_)
  refine bv λGG PD=>?_
  obtain⟨a,key,t,x,e,YX,hT,Sa⟩:=hP i _ hx
  refine PD ?_
  rw [e]
  have hnI:a≠I:=λe=>YX (e ▸ .tail _ (.head _))
  have aaZ:ajn h₁ a #[.str key t,x]:=by
   obtain⟨o,ho,r⟩:=hT
   exact⟨o,UZ.extBut a o hnI ho,r⟩
  obtain⟨ot,hot,VT,nt,hdt⟩:=id aaZ
  dsimp only
  refine aac (ab0 ?_)
  refine aac (wpAny_tryCatch ?_)
  unfold Builtin.Dict.pairItems
  refine aac (aiB (T:="tuple") ⟨ot,hot,VT⟩ ?_)
  rw [if_pos (by decide)]
  refine aac (wpAny_seqItems hot hdt (aa8 ?_))
  show wpAny _ _ (ag6 [agV key t,x] (dictSet d (.str key t) x)) _ _ _
  refine ab0 ?_
  have UV:h₁.DictOf (strKind prog w) d (kvs.take i):=hD.extBut UZ.extBut Tc
  refine ahW (s:={ s with heap:=h₁ }) (ai4 _ _ _ _) UV (λPM Yc Si=>?_) (aaj (List.length_take_le i kvs) (aaj hi hsz))
  have SO:key ∉ (kvs.take i).map (·.1):=λhm=>by
   have W4:i < kvs.length:=PL.symm ▸ PR
   have e1:kvs=kvs.take i++kvs[i]::kvs.drop (i+1):=by rw [<- ab8 W4,List.take_append_drop]
   have e2:kvs[i]=(key,x):=by rw [aa9 W4] at Sa; exact abi Sa
   rw [e1,abB,abO] at Qt
   exact Qt.2.2 key hm key (by rw [e2]; exact .head _) rfl
  have aag:PM.DictOf (strKind prog w) d (kvs.take (i+1)):=by
   rw [xo SO] at Yc
   rw [aiC,Sa]
   exact Yc
  have k1:∀b o,b≠d->b≠I->s.heap.get? b=some o->PM.get? b=some o:=λb o hb VZ e=>Si.extBut b o hb (UZ.extBut b o VZ e)
  refine aa8 ⟨agP g7 _,ih (i+1) _ (by rw [Nat.sub_add_eq,hk]; rfl) PR (aaz.at λo e=>Si.extBut I o Tc.symm e) ((hL.extBut UZ.extBut hIl.symm).extBut Si.extBut Wh.symm) (λj v hv=>?_) aag λP2 P7 WA WK=>?_⟩
  ·obtain⟨a',key',t',x',e',hno',⟨o',ST,r'⟩,hkv'⟩:=hP j v hv
   exact⟨a',key',t',x',e',hno',⟨o',k1 _ _ (λe=>hno' (e ▸ .head _)) (λe=>hno' (e ▸ .tail _ (.head _))) ST,r'⟩,hkv'⟩
  ·exact hR P2 P7 WA λb o hb VZ e=>WK b o hb VZ (k1 b o hb VZ e)
end
section
variable {prog:ade}{w:aaq}{A:abt}{E:aab->aah->Prop}{s:aah}
theorem Bm {l:Addr}{items:Array aab}{o:Obj}{n:Nat}{kvs:List (Str×aab)}{Q:aab->aah->Prop}(hh:A.handled=none)(ho:s.heap.get? l=some o)(hc:o.cls=.type "list") (Qn:o.data=.seq items n) (hdn:o.dict=none)
  (hP:J7 s.heap items kvs []) (PL:kvs.length=items.size) (Qt:(kvs.map (·.1)).Nodup) (hsz:items.size<=abA)
  (h:∀h' tk,h'.DictOf (strKind prog w) s.heap.objs.size kvs->(∀b o,s.heap.get? b=some o->h'.get? b=some o)->Q (.ref s.heap.objs.size) { s with heap:=h',toks:=tk }) :
  wpAny (abb prog w) A (call (.type "dict") [.ref l]) Q E s:=by
 refine callType_codes (Q₁:=λobj P0=>obj=.ref s.heap.objs.size/\P0={ s with heap:=s.heap.push { cls:=.type "dict",data:=.dict #[] } }) PySem.F.kt_called_dict (PySem.F.kt_typeCall_dict_1 _) PySem.F.entry_dict_init (kt_code_dict_new _ ⟨rfl,rfl⟩) ?_
 rintro obj P0 ⟨rfl,rfl⟩
 have SO:(s.heap.push { cls:=.type "dict",data:=.dict #[] }).DictOf (strKind prog w) s.heap.objs.size []:=Heap.DictOf.new s.heap
 have WF:(s.heap.push { cls:=.type "dict",data:=.dict #[] }).get? l=some o:=aak _ ho
 have hll:l < s.heap.objs.size:=abk ho
 refine⟨SO.typeIs,PySem.F.args_dict_init_2 _ _,?_⟩
 unfold aee.«dict.__init__»
 refine aac ?_
 unfold Builtin.Dict.selfAndRest
 refine aac (wpAny_notOrdered_dict SO.typeIs ?_)
 show wpAny _ _ (pure (s.heap.objs.size,[aeD l])) _ _ _
 refine aa8 ?_
 show wpAny _ _ (ag2 "dict.__init__" s.heap.objs.size (.ref l) [] .none) _ _ _
 unfold ag2
 refine aac (aiB (T:="list") ⟨o,WF,hc⟩ ?_)
 rw [if_pos (by decide)]
 refine aac (ya WF hc Qn hdn (A:=A.in1.in1) hh λh₁ PA UE=>?_)
 refine FY rfl ?_
 refine aac (ai7 ?_)
 have Yo:h₁.IsList l items:=⟨o,UE _ _ WF,hc,n,Qn⟩
 refine aac (agH Yo ?_)
 dsimp only
 have VG:∀b ob,s.heap.get? b=some ob->(h₁.push { cls:=.type "list_iterator",data:=.fields #[.ref l,.int 0 0] }).get? b=some ob:=λb ob e=>aak _ (UE _ _ (aak _ e))
 have UV:h₁.DictOf (strKind prog w) s.heap.objs.size []:=by
  obtain⟨od,es,ep,RQ,r⟩:=SO
  exact⟨od,es,ep,UE _ _ RQ,r⟩
 have US:s.heap.objs.size < h₁.objs.size:=by obtain⟨od,es,ep,RQ,r⟩:=UV; exact abk RQ
 refine aa8 ⟨agP g7 _,JN (A:=A.in1) hh (abc US) (abT hll) (abT (agh hll US)) PL Qt hsz items.size 0 _ rfl (abP _) ⟨_,abz _ rfl,rfl,rfl⟩ (Yo.push _) (λj v hv=>?_) (UV.push _) λP2 P7 WA WK=>⟨rfl,?_⟩⟩
 ·obtain⟨a,key,t,x,e,_,⟨oa,hoa,r⟩,Sa⟩:=hP j v hv
  have ha:a < s.heap.objs.size:=abk hoa
  exact⟨a,key,t,x,e,λq=>(bM q).elim (abc ha) λq=>absurd (cr q) (abc (agh ha US)),⟨oa,VG _ _ hoa,r⟩,Sa⟩
 ·exact h P2 P7 WA λb ob e=>WK b ob (abc (abk e)) (abc (agh (abk e) US)) (VG _ _ e)
end
section
variable {α:bC}{ℓ:Nat}{sc:abJ}{slots:List Str}{h₀ h:Heap}{L:Addr}{m:Str->Option aab}{s:aah}{st:MS}{φ:bk}{news Pu:aO}{P8:Expr}
noncomputable def iF:List MV->Option (List (Str×MV))
 | []=>some []
 | .tup [.str k,V]::xs=>(iF xs).map ((k,V)::·)
 | _=>none
def Le:MV->MS->(MV->MS->Prop)->Prop:=λV st Q=>hO (λi=>cD st[i]? λxs=>dU (iF xs) λfs=>(fs.map (·.1)).Nodup/\fs.length<=100/\∀ep,Q (.ref st.length) (st++[.dict fs ep])) V
def ES:TP:=one Le
theorem AY (X:MV)(xs:List MV):iF (X::xs)=none\/∃k V,X=.tup [.str k,V]:=by
 cases X with
 | tup ys=>cases ys with
  | nil=>exact .inl rfl
  | cons K ys=>cases K with
   | str k=>cases ys with
    | nil=>exact .inl rfl
    | cons V ys=>cases ys with
     | nil=>exact .inr ⟨k,V,rfl⟩
     | cons _ _=>exact .inl rfl
   | _=>cases ys with
    | nil=>exact .inl rfl
    | cons _ ys=>cases ys <;> exact .inl rfl
 | _=>exact .inl rfl
theorem Dr {X:MV}{xs:List MV}{fs:List (Str×MV)}{G:Prop}(e:iF (X::xs)=some fs)(k:∀key V Xe,X=.tup [.str key,V]->iF xs=some Xe->(key,V)::Xe=fs->G):G:=by
 rcases AY X xs with h | ⟨key,V,rfl⟩
 ·rw [h] at e; cases e
 ·have e':(iF xs).map ((key,V)::·)=some fs:=e
  cases q:iF xs with
  | none=>rw [q] at e'; cases e'
  | some Xe=>rw [q] at e'; exact k key V Xe rfl q (abi e')
theorem G4 {hB:Heap}:∀{xs:List MV}{vs:List aab}{fs:List (Str×MV)},bg hB news φ xs vs->iF xs=some fs->∃kvs,mq hB news φ fs kvs/\kvs.length=vs.length /\
  ∀(j:Nat) (v:aab),vs[j]?=some v->∃a k t x,v=.ref a/\Ct hB news a (bz #[.str k t,x])/\kvs[j]?=some (k,x):=by
 intro xs
 induction xs with
 | nil=>intro vs fs r e; cases r; cases e; exact⟨[],.nil,rfl,λj v h=>by simp at h⟩
 | cons X xs ih =>
  intro vs fs r e
  refine Dr e λk V Xe eX q ef=>?_
  subst eX ef
  clear e
  apply bg.c r; intro v vs1 h rs
  clear r
  obtain⟨kvs,h1,h2,h3⟩:=ih rs q
  apply RV.t h; intro a its ha hs
  have ex:∃t y,its.toList=[.str k t,y]/\RV hB news φ V y:=by
   generalize its.toList=us at hs
   apply bg.c hs; intro u us hu hs
   apply RV.s hu; intro t
   apply bg.c hs; intro y us hy hs
   apply bg.n hs
   exact⟨t,y,rfl,hy⟩
  obtain⟨t,y,hi,hy⟩:=ex
  have e1:its=#[.str k t,y]:=by rw [<- Array.toArray_toList (xs:=its),hi]
  rw [e1] at ha
  refine⟨(k,y)::kvs,.cons hy h1,by simp [h2],λj v hv=>?_⟩
  cases j with
  | zero=>cases hv; exact⟨a,k,t,y,rfl,ha,rfl⟩
  | succ j=>exact h3 j v (by simpa using hv)
theorem GA:aM α ℓ (λvs=>abN (.type "dict") vs) ES:=oK λA h₀ L C s m st φ news V v S r Q Qc E t P=>by
 apply r.oR t; intro i a d PP t
 refine bZ t λxs hi t=>dH t λfs V8 t=>?_
 refine S.W.listC hi PP λits n PP hm q=>?_
 obtain⟨kvs,Sa,PL,hat⟩:=G4 q V8
 have SG:kvs.map (·.1)=fs.map (·.1):=Sa.keysL
 have hsz:its.size=kvs.length:=by rw [PL,abj]
 have Tu:kvs.length=fs.length:=by have:=congrArg afq SG; simpa using this
 refine Bm (items:=its) (kvs:=kvs) C.hand (S.N.get hm) rfl rfl rfl (λj v hv=>?_) hsz.symm (by rw [SG]; exact t.1) (aaj (by rw [hsz,Tu]; exact t.2.1) (by decide)) λh' tk hD hk=>?_
 ·obtain⟨a,k,t,x,e,ha,hx⟩:=hat j v (by simpa using hv)
  exact⟨a,k,t,x,e,by simp,S.isTup C.stays ha,hx⟩
 ·obtain⟨o,es,ep,ho,Uc,Qn,aaB,hp,hn⟩:=hD
  have F':Fr h₀ L h' m:=S.F.keeps hk
  have N':News h₀ L h' ((s.heap.objs.size,o)::news):=News.kept_cons S.F S.N hk (abp _) ho
  obtain⟨Pv,_⟩:=S.entry F' N' S.lt
  have pl:Pl [(s.heap.objs.size,o)]:=λp hp=>by rw [cr hp]; exact lg Qn
  obtain⟨PF,PH⟩:=qK (news:=news) Pv pl (S.notFoot S.lt) F' N' (S.F.notModules (modules_low C.T.nolimit)) ⟨es,Uc,Qn,aaB,hp,hn⟩ Sa
  exact P _ _ _ _ _ h' tk PF PH (.ref (d:=s.heap.objs.size) (by rw [<- S.W.len]; simp)) (t.2.2 ep)
end
def xM (news Pu:aO)(h h':Heap):Prop:=(∀b o,h.get? b=some o->(∀p∈news,p.1≠b)->h'.get? b=some o)/\∀p∈Pu,(∃o,(p.1,o)∈news)\/h.get? p.1=none
section
variable {prog:ade}{w:aaq}{A₀ A:abt}{s:aah}{base h₀:Heap}{outer:List Env}{L:Addr}{m:Str->Option aab}{env:Env}{news:List (Addr×Obj)}
 {R:afW->aah->Prop} {name qual:Str} {params:adC} {body:List Stmt} {scope:abJ} {cl:List (Str×Addr)} {dV kV Qw pm P4 ct:aab} {an:Option Addr} {fo:Obj} {f:Addr} {args:Args} {binds:List (Str×aab)}
theorem oJ (B:ai0 A₀ base outer h₀)(F:Fr h₀ L s.heap m)(N:News h₀ L s.heap news)(acR:h₀.NoLimit)(hA:A.frames=some (env::outer))(hf:env.frame=some L)(RW:env.scope.kind=.function)
  (ho:s.heap.get? f=some fo) (hd:fo.data=.func (fnX name qual params body scope cl dV kV Qw pm an P4 ct)) (UR:s.heap.CodeRec P4 qual) (Uj:A.depth < afu)
  (aa4:BindsTo s (fnX name qual params body scope cl dV kV Qw pm an P4 ct) args binds) (Qz:∀y∈binds,scope.names.lookup y.1=some .local)
  (h:∀g L' h₁,Fr h₀ L g m->Fr g L' h₁ (λy=>binds.reverse.lookup y)->News g L' h₁ news->ai0 A base (env::outer) g->h₀.StaysIn g->(∀p∈news,p.1 < L') ->
   (∀b o,s.heap.get? b=some o->(∀p∈news,p.1≠b)->g.get? b=some o) ->
   wpAny (abb prog w) (A.deeper (envX qual scope L' f P4 cl)) (execs body (envX qual scope L' f P4 cl))
    (λfl s'=>LeaveK h₀ L m g R (match fl with | .ret v=>v | _=>.none) s')
    (λe s'=>wpAny (abb prog w) (A.deeper (envX qual scope L' f P4 cl)) (leaving (envX qual scope L' f P4 cl) e) (λ_ UL=>R (.error e) UL) (λe' UL=>R (.error e') UL) s')
    { s with heap:=h₁,toks:=s.toks+binds.length })
  (QB:∀x∈scope.names,x.2≠.cell) (Uk:autoParam (scope.isCoroutine=false) aR) (acw:autoParam (scope.isGenerator=false) aR) (hk:autoParam (scope.kind=.function) aR):adx (abb prog w) A (.call (.ref f) args) R s:=by
 obtain⟨FG,BG,st,lv⟩:=groundX (R:=R) B F N hA hf RW
 refine codeAny_call_def (fd:=fnX name qual params body scope cl dV kV Qw pm an P4 ct) (body:=body) (binds:=binds) Uj ho hd (acR.keeps F.keep) UR rfl aa4 QB Qz (λh₁ Sy Sq=>?_) Uk acw hk
 exact abR (h _ s.heap.objs.size h₁ FG ⟨Sy,λb o e=>Sq b o (aij _ e),aeG (hideAll_size _ _)⟩
  (λp hp=>⟨Sq _ _ (N p hp).1,abc (abk (N p hp).1),hideAll_none _ (ahX hp)⟩) BG st (λp hp=>abk (N p hp).1)
  (λb o e hb=>aiP _ e λq=>by obtain⟨p,hp,e'⟩:=c8 q; exact hb p hp e')) (λfl s' hl=>lv _ _ hl) λ_ _ y=>y
end
section
variable {α:bC}{ℓ:Nat}{sc:abJ}{slots:List Str}{h₀ h:Heap}{L:Addr}{m:Str->Option aab}{s:aah}{st:MS}{φ:bk}{news Pu:aO}{env:Env}
def EQ (α:bC)(ℓ:Nat)(f:Addr)(S:TP):Prop:=
 ∀A h₀ L,Cf α ℓ A h₀ L->∀s m st φ news Vs vs,Sn α h₀ L m s.heap st φ news->bg α.hB news φ Vs vs->∀Q (R:afW->aah->Prop),S Vs st Q ->
  (∀V Ps PG Pu v h' PV,Sn α h₀ L m h' Ps PG Pu->a9 [α.tab] φ news PG Pu->RV α.hB Pu PG V v->xM news Pu s.heap h'->Q V Ps->R (.ok (.ret v)) { s with heap:=h',toks:=PV }) ->
  adx (abb α.prog α.w) A (.call (.ref f) ⟨vs,[]⟩) R s
theorem EQ.mono {Rz:Nat}{f:Addr}{S:TP}(h:EQ α ℓ f S)(hl:ℓ<=Rz):EQ α Rz f S:=λA h₀ L C=>h A h₀ L (C.mono hl)
theorem Hn {f:Addr}{name qual:Str}{params:adC}{body:List Stmt}{scope:abJ}{dV kV Qw pm P4 ct oc:aab}{an od:Option Addr}{Ri:Array (Option aab)}{n:Nat}{ps rest:List Str}{ds:List aab}{dVs:List MV}{S:TP}{T:TS}
  (D:u5 α f name qual params body scope dV kV Qw pm P4 ct oc an od Ri) (hb:jP α (fnOf name qual params body scope dV kV Qw pm an P4 ct) n ps ds) (PL:n+ds.length=ps.length) (VC:α.Ok->bg α.hB [] [] dVs ds)
  (Qt:(ps++rest).Nodup) (Qz:((ps++rest).all λx=>scope.names.lookup x == some .local)=true) (QB:(scope.names.all λx=>x.2 != .cell)=true)
  (hT:ah α ℓ scope (ps++rest) body T)
  (SR:∀Vs st Q,S Vs st Q->Vs.length=n/\T ((Vs++dVs).map some++abS rest.length none) st (fi Q)):EQ α (ℓ+1) f S:=by
 intro A h₀ L C s m st φ news Vs vs PB r Q R t P
 obtain⟨hn,t⟩:=SR Vs st Q t
 have RT:vs.length=n:=by rw [r.length]; exact hn
 refine C.frC λA₀ outer Ql B hA hf RW=>?_
 have X:=C.X
 have Q7:∀x∈scope.names,x.2≠.cell:=λx hx=>by simpa using iW QB x hx
 have QF:∀x∈ps++rest,scope.names.lookup x=some .local:=λx hx=>eq_of_beq (iW Qz x hx)
 refine oJ (cl:=[]) B PB.F PB.N C.T.nolimit hA hf RW ((X.keeps PB.F.keep) _ _ D.look) rfl (agq (X.keeps PB.F.keep) D.code) (by have:=C.depth; walk_at "o") (hb s vs (X.keeps PB.F.keep) RT)
  (λy hy=>QF _ (aap _ (aej hy).1)) (λg L' h₁ FG F' N' B' Ps PR Ua=>?_) Q7 D.co D.gen D.kind
 have rr:bg α.hB news φ (Vs++dVs) (vs++ds):=r.append (VC C.ok).base
 refine hT (A.deeper (envX qual scope L' f P4 [])) g L' (envX qual scope L' f P4 []) (C.deeper hA B' rfl D.kind) ⟨rfl,D.kind,rfl,rfl⟩ _ _ st φ news _ ⟨F',N',PB.W⟩ (Ko QF rr (by rw [aba,RT]; exact PL) Qt) (AF QF Q7 Qt) (fi Q) _ _ t ?_
 ·intro fl fc Rs Pz PE PS QI PM PN PF QT Q3 PH P5 PU
  refine⟨L',QI,PS,PF.F,PF.N,λQO QM=>?_⟩
  have gg:a9 [α.tab] φ news PE PS:=PH
  have kk:xM news PS s.heap PM:=⟨λb o e hb=>PF.F.keep b o (Ua b o e hb),λp hp=>by
   by_cases hk:∃o,(p.1,o)∈news
   ·exact .inl hk
   ·refine .inr ?_
    cases e:s.heap.get? p.1 with
    | none=>rfl
    | some o =>
     have:=Ua p.1 o e λq hq e'=>hk ⟨q.2,by rw [<- e']; exact hq⟩
     rw [(PF.N p hp).2.2] at this; cases this⟩
  cases P5 with
  | next=>exact P .none Pz PE PS .none PM PN ⟨QO,QM,PF.W⟩ gg .none kk PU
  | ret r=>exact P _ Pz PE PS _ PM PN ⟨QO,QM,PF.W⟩ gg r kk PU
  | brk=>exact PU.elim
  | cont=>exact PU.elim
def AE (α:bC)(ℓ:Nat)(sc:abJ)(slots:List Str)(e:Expr)(T:TE):Prop:=
 ∀A h₀ L env,Cf α ℓ A h₀ L->Ce sc env->∀s m st φ news ρ,Sn α h₀ L m s.heap st φ news->Lc α slots env L m news φ ρ->∀Q Qc E,T ρ st Q ->
  (∀V Ps PG Pu v h' PV,Sn α h₀ L m h' Ps PG Pu->a9 [α.tab] φ news PG Pu->RV α.hB Pu PG V v->xM news Pu s.heap h'->Q V Ps->Qc v { s with heap:=h',toks:=PV }) ->
  wpAny (abb α.prog α.w) A (eval e env) Qc E s
inductive Nm (slots:List Str):List Expr->List Nat->Prop
 | nil:Nm slots [] []
 | cons {x:Str} {p:Pos} {i:Nat} {es:List Expr} {is:List Nat} (hx:slots[i]?=some x) (hd:(x == ("__debug__":Str))=false) (r:Nm slots es is):Nm slots (.Name x p::es) (i::is)
noncomputable def BJ:List Nat->TL
 | []=>ak
 | i::is=>ad (af i) (BJ is)
theorem L0 {i:Nat}{is:List Nat}:BJ (i::is)=ad (af i) (BJ is):=rfl
end
section
variable {α:bC}{ℓ:Nat}{sc:abJ}{slots:List Str}{h₀ h h':Heap}{L:Addr}{m:Str->Option aab}{s:aah}{st:MS}{φ:bk}{news Pu:aO}{env:Env}
theorem AS {A:abt}{sh:aah}{ρ:aG}{i:Nat}{x:Str}{V:MV}{v:aab}{Qc:Unit->aah->Prop}{E:aab->aah->Prop}(D:Ce sc env)(S:Sn α h₀ L m sh.heap st φ news)(Lo:Lc α slots env L m news φ ρ)(O:dT α slots env L φ news)
  (hx:slots[i]?=some x) (hl:env.kindOf x=some .local) (r:RV α.hB news φ V v)
  (P:∀m' h' PV,Sn α h₀ L m' h' st φ news->Lc α slots env L m' news φ (ρ.set i (some V))->adf L sh.heap h'->Qc () { sh with heap:=h',toks:=PV }) :
  wpAny (abb α.prog α.w) A (storeName env x v) Qc E sh:=by
 have hk:env.scope.kind=.function:=D.scope ▸ D.kind
 have hL:=O.loc
 subst hL
 exact adr hl S.F.ns (λh' hn hs=>P (λy=>if y=x then some v else m y) h' _ ⟨S.F.set hn hs,S.N.set hs,S.W⟩ (Lo.put O hx hl r) hs) (by rw [hk]; rfl)
theorem Gp {A:abt}{Qc E:aab->aah->Prop}{ρ:aG}{i:Nat}{x:Str}{V:MV}{pos:Pos}(D:Ce sc env)(S:Sn α h₀ L m s.heap st φ news)(Lo:Lc α slots env L m news φ ρ)(hx:slots[i]?=some x)(hd:(x == ("__debug__":Str))=false) (hV:ρ[i]?=some (some V))
  (P:∀v,RV α.hB news φ V v->Qc v s):wpAny (abb α.prog α.w) A (eval (.Name x pos) env) Qc E s:=
 agl (vG D S Lo hx hV P) hd
theorem Nm.runK {es:List Expr}{is:List Nat}(h:Nm slots es is){A:abt}(D:Ce sc env){ρ:aG}(S:Sn α h₀ L m s.heap st φ news)(Lo:Lc α slots env L m news φ ρ)(pos:Pos){Qc:List aab->aah->Prop}{E:aab->aah->Prop}:∀{Q:List MV->MS->Prop},
  BJ is ρ st Q->(∀Vs vs,bg α.hB news φ Vs vs->Q Vs st->Qc vs s)->wpAny (abb α.prog α.w) A (aje (agm pos (ack es env))) Qc E s:=by
 induction h generalizing Qc with
 | nil=>intro Q t P; exact ahw (P [] [] .nil t)
 | @cons x p i es is hx hd r ih =>
  intro Q t P
  rw [L0] at t
  unfold ad at t
  refine pE t λV hV t=>?_
  exact aeE (he:=rfl) (Gp D S Lo hx hd hV λv rv=>ih t λVs vs rvs q=>P (V::Vs) (v::vs) (.cons rv rvs) q)
theorem Nm.plain {es:List Expr}{is:List Nat}(h:Nm slots es is):fB es:=by
 induction h with
 | nil=>exact .nil
 | cons hx hd _ ih=>exact .cons (λ_ _=>rfl) ih
theorem AE.call {x:Str}{p pos:Pos}{args:List Expr}{is:List Nat}{f:Addr}{S:TP}(e:nsIn α.K aai x=some (some (.ref f)))(hk:abE α.K (.ref f)=true)(hS:EQ α ℓ f S)
  (hT:Nm slots args is) (hx:autoParam (sc.names.lookup x=some .globalImplicit) aR) (hd:autoParam ((x == ("__debug__":Str))=false) aD):AE α ℓ sc slots (.Call (.Name x p) args [] pos) (aF S (BJ is)):=by
 intro A h₀ L env C D s m st φ news ρ PB Lo Q Qc E t P
 refine agT (aim PB.F C.X (afV C.T) e ?_ D.glob (D.scope ▸ D.kind) (by unfold ab9; rw [D.scope]; exact hx) hd)
 refine bR (α:=α) hT.plain (Pp:=α.K.In) (aiT hk) (hT.runK D PB Lo pos (Q:=λVs Pt=>S Vs Pt Q) t λVs vs r q=>⟨C.X.keeps PB.F.keep,?_⟩)
 exact aey (hS A h₀ L C _ m st φ news Vs vs PB r Q _ q P)
end
def FF:TP:=λVs st Q=>MY (λV W=>uV (λxs=>uV (λys=>xs.length+ys.length<=abA/\Q (.tup (xs++ys)) st) W) V) Vs
noncomputable def Cj (G:MS->Prop)(x y i:Nat)(T:TE):List MV->List MV->TS
 | u::us,v::vs=>λρ st Q=>G st/\ar FF (af i) T ((ρ.set x (some u)).set y (some v)) st λV Pt=>Cj G x y i T us vs (((ρ.set x (some u)).set y (some v)).set i (some V)) Pt Q
 | _,_=>λρ st Q=>G st/\Q .next ρ st
def M2 (x y i:Nat)(T:TE)(ρ:aG)(Q:MF->aG->MS->Prop):MV->MV->MS->Prop:=λV W Pz=>hO (λr=>hO (λr'=>cD Pz[r]? λus=>cD Pz[r']? λvs=>Cj (λst=>st[r]?=some (.list us)/\st[r']?=some (.list vs)) x y i T us vs ρ Pz Q) W) V
def yA (a b:TE)(x y i:Nat)(T:TE):TS:=λρ st Q=>a ρ st λV Pt=>b ρ Pt λW Pz=>M2 x y i T ρ Q V W Pz
section
variable {α:bC}{ℓ:Nat}{sc:abJ}{slots:List Str}{h₀ h h':Heap}{L:Addr}{m:Str->Option aab}{s:aah}{st:MS}{φ PG:bk}{news Pu:aO}{env:Env}
def K3 (L:Addr)(news Pu:aO)(h h':Heap):Prop:=(∀b o,L < b->(∀p∈news,p.1≠b)->h.get? b=some o->h'.get? b=some o)/\∀p∈Pu,(∃o,(p.1,o)∈news)\/h.get? p.1=none
theorem xM.k3 (k:xM news Pu h h'):K3 L news Pu h h':=⟨λb o _ hb e=>k.1 b o e hb,k.2⟩
theorem K3.same (hs:adf L h h'):K3 L news news h h':=⟨λb o hb _ e=>hs.extBut b o (abT hb) e,λp hp=>.inl ⟨p.2,hp⟩⟩
structure Zp (L:Addr)(h:Heap)(z TI TO i1 i2 l1 l2:Addr)(k:Nat)(news:aO):Prop where
 D:ZipApart z TI TO i1 i2 l1 l2
 hz:IsZip h z TI TO .none
 hTI:IsPair h TI (.ref i1) (.ref i2)
 hTO:∃a b,IsPair h TO a b
 h1:h.IsListIter i1 l1 k
 h2:h.IsListIter i2 l2 k
 ab:∀a,a=z\/a=TI\/a=TO\/a=i1\/a=i2->L < a/\∀p∈news,p.1≠a
theorem Zp.keepZ {z TI TO i1 i2 l1 l2:Addr}{k:Nat}(Z:Zp L h z TI TO i1 i2 l1 l2 k news)(kk:∀a o,(a=z\/a=TI\/a=TO\/a=i1\/a=i2)->h.get? a=some o->h'.get? a=some o)(K:∀p∈Pu,(∃o,(p.1,o)∈news)\/h.get? p.1=none):Zp L h' z TI TO i1 i2 l1 l2 k Pu:=by
 refine bv λGG PD=>?_
 obtain⟨a,b,QP⟩:=Z.hTO
 obtain⟨o1,e1,c1⟩:=id Z.h1
 obtain⟨o2,e2,c2⟩:=id Z.h2
 refine PD ?_
 refine⟨Z.D,kk _ _ (.inl rfl) Z.hz,kk _ _ (.inr (.inl rfl)) Z.hTI,⟨a,b,kk _ _ (.inr (.inr (.inl rfl))) QP⟩,⟨o1,kk _ _ (.inr (.inr (.inr (.inl rfl)))) e1,c1⟩,⟨o2,kk _ _ (.inr (.inr (.inr (.inr rfl)))) e2,c2⟩,λc hc=>⟨(Z.ab c hc).1,λp hp e=>?_⟩⟩
 rcases K p hp with ⟨o,ho⟩ | q
 ·exact (Z.ab c hc).2 (p.1,o) ho e
 ·rw [e] at q
  rcases hc with rfl | rfl | rfl | rfl | rfl
  ·have:=Z.hz; rw [IsZip,q] at this; cases this
  ·have:=Z.hTI; rw [IsPair,q] at this; cases this
  ·rw [IsPair,q] at QP; cases QP
  ·rw [q] at e1; cases e1
  ·rw [q] at e2; cases e2
theorem Zp.keep {z TI TO i1 i2 l1 l2:Addr}{k:Nat}(Z:Zp L h z TI TO i1 i2 l1 l2 k news)(K:K3 L news Pu h h'):Zp L h' z TI TO i1 i2 l1 l2 k Pu:=
 Z.keepZ (λa o ha e=>K.1 a o (Z.ab a ha).1 (Z.ab a ha).2 e) K.2
theorem Zp.led {z TI TO i1 i2 l1 l2:Addr}{k:Nat}(Z:Zp L h z TI TO i1 i2 l1 l2 k news)(S:Sn α h₀ L m h st φ news):∃zE:aO,News h₀ L h (zE++news)/\∀a o,(a=z\/a=TI\/a=TO\/a=i1\/a=i2)->h.get? a=some o->(a,o)∈zE:=by
 refine bv λGG PD=>?_
 obtain⟨oT,QP⟩:∃o,h.get? TO=some o:=let ⟨a,b,e⟩:=Z.hTO; ⟨_,e⟩
 obtain⟨o1,e1⟩:∃o,h.get? i1=some o:=let ⟨o,e,_⟩:=Z.h1; ⟨o,e⟩
 obtain⟨o2,e2⟩:∃o,h.get? i2=some o:=let ⟨o,e,_⟩:=Z.h2; ⟨o,e⟩
 obtain⟨oz,hz⟩:∃o,h.get? z=some o:=⟨_,Z.hz⟩
 obtain⟨oI,hTI⟩:∃o,h.get? TI=some o:=⟨_,Z.hTI⟩
 refine PD ?_
 have ok:∀c o,(c=z\/c=TI\/c=TO\/c=i1\/c=i2)->h.get? c=some o->h.get? c=some o/\c≠L/\h₀.get? c=none:=λc o hc e=>⟨e,abT (Z.ab c hc).1,by
  cases q:h₀.get? c with
  | none=>rfl
  | some y=>exact absurd (abG (abk q) S.F.above) (ajb.mpr (adi (Z.ab c hc).1))⟩
 refine⟨[(z,oz),(TI,oI),(TO,oT),(i1,o1),(i2,o2)],λp hp=>?_,λc o hc e=>?_⟩
 ·rcases dW hp with hp | hp
  ·simp only [aby,abu,or_false] at hp
   rcases hp with rfl | rfl | rfl | rfl | rfl
   ·exact ok _ _ (.inl rfl) hz
   ·exact ok _ _ (.inr (.inl rfl)) hTI
   ·exact ok _ _ (.inr (.inr (.inl rfl))) QP
   ·exact ok _ _ (.inr (.inr (.inr (.inl rfl)))) e1
   ·exact ok _ _ (.inr (.inr (.inr (.inr rfl)))) e2
  ·exact S.N p hp
 ·rcases hc with rfl | rfl | rfl | rfl | rfl
  ·rw [e] at hz; cases hz; simp
  ·rw [e] at hTI; cases hTI; simp
  ·rw [e] at QP; cases QP; simp
  ·rw [e] at e1; cases e1; simp
  ·rw [e] at e2; cases e2; simp
end
section
variable {α:bC}{ℓ:Nat}{sc:abJ}{slots:List Str}{h₀ h h':Heap}{L:Addr}{m:Str->Option aab}{s:aah}{st:MS}{φ PG:bk}{news Pu:aO}{env:Env}
theorem Sn.but (S:Sn α h₀ L m h st φ news)(av:Addr->Prop)(ZA:∀a,av a->L < a/\∀p∈news,p.1≠a)(hk:∀b o,¬av b->h.get? b=some o->h'.get? b=some o):Sn α h₀ L m h' st φ news:=
 ⟨⟨S.F.ns.at' λz e=>hk L z (λq=>acg _ (ZA L q).1) e,λb z e=>hk b z (λq=>absurd (abG (abk e) S.F.above) (ajb.mpr (adi (ZA b q).1))) (S.F.keep b z e),S.F.above⟩,
  λp hp=>⟨hk _ _ (λq=>(ZA _ q).2 p hp rfl) (S.N p hp).1,(S.N p hp).2⟩,S.W⟩
theorem Jm {G:MS->Prop}{x y i:Nat}{T:TE}{us vs:List MV}{ρ:aG}{Q:MF->aG->MS->Prop}(h:us=[]\/vs=[])(t:Cj G x y i T us vs ρ st Q):G st/\Q .next ρ st:=by
 cases us with
 | nil=>exact t
 | cons u us =>
  cases vs with
  | nil=>exact t
  | cons v vs=>rcases h with h | h <;> cases h
section
variable {A:abt}{E:aab->aah->Prop}{j tk:Nat}{z TI TO i1 i2 d1 d2:Addr}
theorem Sn.noObj (S:Sn α h₀ L m h st φ news):h.get? h.objs.size=none/\h₀.get? h.objs.size=none:=by
 have hT:h.get? h.objs.size=none:=by
  cases q:h.get? h.objs.size with
  | none=>rfl
  | some y=>exact absurd (abk q) (acg _)
 refine⟨hT,?_⟩
 cases q:h₀.get? h.objs.size with
 | none=>rfl
 | some y=>rw [S.F.keep _ _ q] at hT; cases hT
theorem Zp.objs (Z:Zp L h z TI TO i1 i2 d1 d2 j news){a:Addr}(ha:a=z\/a=TI\/a=TO\/a=i1\/a=i2):∃o,h.get? a=some o:=by
 refine bv λGG PD=>?_
 obtain⟨_,_,hTO⟩:=Z.hTO
 obtain⟨o1,e1,_⟩:=Z.h1
 obtain⟨o2,e2,_⟩:=Z.h2
 refine PD ?_
 rcases ha with rfl | rfl | rfl | rfl | rfl
 ·exact⟨_,Z.hz⟩
 ·exact⟨_,Z.hTI⟩
 ·exact⟨_,hTO⟩
 ·exact⟨o1,e1⟩
 ·exact⟨o2,e2⟩
theorem Zp.but (Z:Zp L h z TI TO i1 i2 d1 d2 j news)(S:Sn α h₀ L m h st φ news)(hk:∀b o,b≠z->b≠TO->b≠i1->b≠i2->h.get? b=some o->h'.get? b=some o):Sn α h₀ L m h' st φ news:=
 S.but (λa=>a=z\/a=TO\/a=i1\/a=i2) (λa ha=>Z.ab a (ha.elim .inl λq=>.inr (.inr q))) λb o hb e=>hk b o (λq=>hb (.inl q)) (λq=>hb (.inr (.inl q))) (λq=>hb (.inr (.inr (.inl q)))) (λq=>hb (.inr (.inr (.inr q)))) e
theorem JG {Kn:Option aab->aah->Prop}{K:Unit->aah->Prop}{nx ny:Str}{p1 p2 p3:Pos}{kk x y c1 c2:Nat}{SZ Rv:Array aab}{V1 V2:MV}{v1 v2:aab}{ρ:aG}(hh:A.handled=none)
  (D:Ce sc env) (hx:slots[x]?=some nx) (hy:slots[y]?=some ny) (lx:env.kindOf nx=some .local) (ly:env.kindOf ny=some .local)
  (S:Sn α h₀ L m h st φ news) (Z:Zp L h z TI TO i1 i2 d1 d2 j news) (Lo:Lc α slots env L m news φ ρ) (O:dT α slots env L φ news)
  (UO:(d1,bV SZ c1)∈news) (SU:(d2,bV Rv c2)∈news) (e1:SZ[j]?=some v1) (e2:Rv[j]?=some v2) (rv1:RV α.hB news φ V1 v1) (Zb:RV α.hB news φ V2 v2)
  (hn:∀v P0,wpAny (abb α.prog α.w) A (ab5 (.Tuple [.Name nx p1,.Name ny p2] kk p3) (.ref z) v) (λ_ Qo=>wpAny (abb α.prog α.w) A (afy (.Tuple [.Name nx p1,.Name ny p2] kk p3) env v) K E Qo) E P0->Kn (some v) P0)
  (k:∀m' h' PV n',Sn α h₀ L m' h' st φ n'->Zp L h' z TI TO i1 i2 d1 d2 (j+1) n'->Lc α slots env L m' n' φ ((ρ.set x (some V1)).set y (some V2))->dT α slots env L φ n'->a9 [α.tab] φ news φ n'->K () { s with heap:=h',toks:=PV }) :
  wpAny (abb α.prog α.w) A (afA (.ref z)) Kn E { s with heap:=h,toks:=tk }:=by
 obtain⟨ta,tb,hTO⟩:=Z.hTO
 refine wpAny_pyNext_zip_item Z.D Z.hz Z.hTI hTO Z.h1 Z.h2 (S.isList (s:={ s with heap:=h }) UO) (S.isList (s:={ s with heap:=h }) SU) e1 e2 λQN aaO aam aaw aaE aaI aeI WJ=>hn _ _ ?_
 refine wpAny_letOwnedTupleGo_zip aaO λQv aat Ue=>?_
 have Qp:∀b o,h.get? b=some o->b≠h.objs.size:=λb o e=>abc (abk e)
 have k35:∀b o,b≠z->b≠TO->b≠i1->b≠i2->h.get? b=some o->Qv.get? b=some o:=λb o b1 b2 b3 b4 e=>Ue.extBut b o b1 (WJ b o b1 b2 b3 b4 e)
 have RO:Sn α h₀ L m Qv st φ news:=Z.but S k35
 have Yl:Qv.get? h.objs.size=some (bz #[v1,v2]):=Ue.extBut _ _ (Qp z _ Z.hz).symm aaI
 have no:=S.noObj
 have SP:News h₀ L Qv ((h.objs.size,bz #[v1,v2])::news):=λp hp=>by
  rcases bM hp with rfl | hp
  ·exact⟨Yl,abT S.F.ns.lt,no.2⟩
  ·exact RO.N p hp
 obtain⟨Vh,Ss⟩:=RO.entry RO.F SP λp hp e=>by
  have:=(S.N p hp).1
  rw [e,no.1] at this; cases this
 have acE:Zp L Qv z TI TO i1 i2 d1 d2 (j+1) ((h.objs.size,bz #[v1,v2])::news):=by
  refine⟨Z.D,aat,k35 _ _ Z.D.TIz Z.D.TITO Z.D.TIi1 Z.D.TIi2 Z.hTI,⟨v1,v2,Ue.extBut _ _ Z.D.TOz aam⟩,aaw.extBut Ue.extBut Z.D.i1z,aaE.extBut Ue.extBut Z.D.i2z,λa ha=>⟨(Z.ab a ha).1,λp hp e=>?_⟩⟩
  rcases bM hp with rfl | hp
  ·obtain⟨o,eo⟩:=Z.objs ha
   exact Qp a o eo e.symm
  ·exact (Z.ab a ha).2 p hp e
 have TT:kG slots [.Name nx p1,.Name ny p2] [x,y]:=.cons hx (.cons hy .nil)
 refine ags (s:={ s with heap:=Qv,toks:=tk }) hh (items:=#[v1,v2]) ⟨_,Yl,rfl,0,rfl⟩ (by rw [(TT.each env).1]; rfl) (TT.each env).2 λR0 aaS=>?_
 have k57:∀b o,Qv.get? b=some o->R0.get? b=some o:=λb o e=>aaS b o (abc (abk e)) e
 have XA:=O.grow Ss
 refine adN (ab1 (AS (sh:={ s with heap:=R0,toks:=tk }) D (Vh.keeps k57) (Lo.grow Ss) XA hx lx (rv1.mono Ss) λafi Vv Tt VJ aaR aa2=>?_))
 have acA:=(acE.keepZ (h':=R0) (λa o _ e=>k57 a o e) λp hp=>.inl ⟨p.2,hp⟩).keep (K3.same aa2)
 refine adN (ab1 (AS (sh:={ s with heap:=Vv,toks:=Tt }) D VJ aaR XA hy ly (Zb.mono Ss) λZF Zs YA Ww Uq aa3=>?_))
 exact afz (k _ _ _ _ Ww (acA.keep (K3.same aa3)) Uq XA Ss)
theorem LA {K:aab->aah->Prop}{V W:MV}{v w:aab}{Q:MV->MS->Prop}(Ps:α.hB.StaysIn h₀)(S:Sn α h₀ L m h st φ news)(Z:Zp L h z TI TO i1 i2 d1 d2 j news)(rv:RV α.hB news φ V v)(rw':RV α.hB news φ W w)(t:FF [V,W] st Q)
  (QK:∀U v' h' n',Sn α h₀ L m h' st φ n'->a9 [α.tab] φ news φ n'->Zp L h' z TI TO i1 i2 d1 d2 j n'->RV α.hB n' φ U v'->Q U st->K v' { s with heap:=h',toks:=tk }) :
  wpAny (abb α.prog α.w) A (ago .Add v w) K E { s with heap:=h,toks:=tk }:=by
 apply rv.oT t; intro xs ta its hh1 Z2 t; apply rw'.oT t; intro ys tb Rv hh2 ZT t
 have l1:=Z2.length
 have l2:=ZT.length
 obtain⟨zE,Nz,WL⟩:=Z.led S
 refine add_tuples (s:={ s with heap:=h,toks:=tk }) S.F Nz (vs:=its.toList) (ws:=Rv.toList) (S.isTup (s:={ s with heap:=h,toks:=tk }) Ps hh1) (S.isTup (s:={ s with heap:=h,toks:=tk }) Ps hh2) (λe=>?_) (λ_ e=>?_) (λ_ _ h' F' N'=>?_) (by rw [l1,l2]; exact t.1)
 ·obtain rfl:xs=[]:=by rw [e] at l1; exact abI l1.symm
  exact QK _ _ _ _ S .refl Z (.tup hh2 ZT) t.2
 ·obtain rfl:ys=[]:=by rw [e] at l2; exact abI l2.symm
  exact QK _ _ _ _ S .refl Z (.tup hh1 Z2) (abr xs ▸ t.2)
 ·have N'':News h₀ L h' ((h.objs.size,bz (its.toList++Rv.toList).toArray)::news):=λp hp=>by
   rcases bM hp with rfl | hp
   ·exact N' _ (.head _)
   ·exact N' p (.tail _ (aas _ hp))
  obtain⟨S',g'⟩:=S.entry F' N'' λp hp=>abc (abk (S.N p hp).1)
  refine QK _ _ _ _ S' g' (Z.keepZ (λa o ha e=>(N' (a,o) (.tail _ (aap _ (WL a o ha e)))).1) λp hp=>?_) (.tup (.inl (.head _)) ((Z2.append ZT).mono g')) t.2
  rcases bM hp with rfl | hp
  ·exact .inr S.noObj.1
  ·exact .inl ⟨p.2,hp⟩
end
def NV (α:bC)(h₀:Heap)(L:Addr)(slots:List Str)(env:Env)(s:aah)(Px φ:bk)(news:aO)(z TI TO i1 i2 d1 d2:Addr)(N:Nat)(Tz:Nat->aG->MS->Prop)(k:Nat)(s':aah):Prop:=
 ∀P:Nat->aah->Prop,(∀j m st PE n ρ h tk,j<=N->Sn α h₀ L m h st PE n->Zp L h z TI TO i1 i2 d1 d2 j n->Lc α slots env L m n PE ρ->dT α slots env L PE n->Px <+: PE->a9 [α.tab] φ news PE n->Tz j ρ st->P (N+1 - j) { s with heap:=h,toks:=tk })->P k s'
theorem Eo {e1 e2 call:Expr}{nx ny nf:Str}{k:Nat}{p1 p2 p3 p4 p5 p6 p7 p8 p9 pos:Pos}{x y i:Nat}{a b T:TE}(QP:ae α ℓ sc slots [e1,e2] (ad a (ad b ak)))(hT:AE α ℓ sc slots call T)(he:nsIn α.K aai ("zip":Str)=some none)
  (hx:autoParam (slots[x]?=some nx) aR) (hy:autoParam (slots[y]?=some ny) aR) (hi:autoParam (slots[i]?=some nf) aR) (hz:autoParam (sc.names.lookup ("zip":Str)=some .globalImplicit) aR)
  (lx:autoParam (sc.names.lookup nx=some .local) aR) (ly:autoParam (sc.names.lookup ny=some .local) aR) (lf:autoParam (sc.names.lookup nf=some .local) aR) (hdf:autoParam ((nf == ("__debug__":Str))=false) aD) :
  au α ℓ sc slots (.For (.Tuple [.Name nx p1,.Name ny p2] k p3) (.Call (.Name ("zip":Str) p4) [e1,e2] [] p5) [.Assign [.Name nf p6] (.BinOp (.Name nf p7) .Add call p8) pos] [] p9) (yA a b x y i T):=by
 intro A h₀ L env C D s m st φ news ρ PB Lo O Q Qc E t P
 have kl:∀z,sc.names.lookup z=some .local->env.kindOf z=some .local:=λz hz=>by unfold ab9; rw [D.scope]; exact hz
 refine wpAny_For ?_ (λ_=>rfl)
 refine agT (fv C D PB.F he (v:=.type "zip") (by decide +kernel) (by decide +kernel) ?_ hz (by decide +kernel))
 refine bR (α:=α) QP.plain (Pp:=λ_=>True) (λh _=>iU _ h) (QP.run A h₀ L env C D s m st φ news ρ PB Lo p5 (λVs Pz=>MY (λV W=>M2 x y i T ρ Q V W Pz) Vs) _ E t λVs Pt Px PC vs h₁ PA Pv Py PO Pw PL=>⟨trivial,?_⟩)
 clear PL t
 apply PO.o2 Pw; intro V W va vb ra rb Pw; apply ra.oR Pw; intro r d1 x1 XQ Pw; apply rb.oR Pw; intro r' d2 x2 Xk Pw
 refine bZ Pw λus hr Pw=>bZ Pw λws U9 tz=>?_
 refine Pv.W.listC hr XQ λSZ c1 XQ UO _=>Pv.W.listC U9 Xk λRv c2 Xk SU _=>?_
 have lt1:d1 < h₁.objs.size:=abk (Pv.N _ UO).1
 have lt2:d2 < h₁.objs.size:=abk (Pv.N _ SU).1
 refine call_zip_2 (Pv.isList (s:={ s with heap:=h₁ }) UO) (Pv.isList (s:={ s with heap:=h₁ }) SU) λPM V6 ZU aar Xa UJ hsz hk=>?_
 refine wpAny_pyIter_zip V6 ?_
 have PF:Sn α h₀ L m PM Pt Px PC:=Pv.keeps hk
 have Uw:Zp L PM (h₁.objs.size+4) (h₁.objs.size+2) (h₁.objs.size+3) h₁.objs.size (h₁.objs.size+1) d1 d2 0 PC:=⟨zipApart_new lt1 lt2,V6,ZU,⟨_,_,aar⟩,Xa,UJ,λa ha=>by
  have:h₁.objs.size<=a:=by rcases ha with rfl | rfl | rfl | rfl | rfl <;> walk_at "o"
  exact⟨abG Pv.F.ns.lt this,λp hp e=>absurd (abk (Pv.N p hp).1) (ajb.mpr (e ▸ this))⟩⟩
 generalize h₁.objs.size+4=z at Uw V6 ⊢
 generalize h₁.objs.size+2=TI at Uw
 generalize h₁.objs.size+3=TO at Uw
 generalize h₁.objs.size+1=i2 at Uw
 generalize h₁.objs.size=i1 at Uw
 clear V6 ZU aar Xa UJ hsz hk lt1 lt2
 generalize hInv:NV α h₀ L slots env s Px φ news z TI TO i1 i2 d1 d2 us.length (λj ρ st=>Cj (λst=>st[r]?=some (.list us)/\st[r']?=some (.list ws)) x y i T (us.drop j) (ws.drop j) ρ st Q)=Inv
 refine zQ Inv ?_ (us.length+1) (hInv ▸ λ_ k=>k 0 m Pt Px PC ρ PM PA (abP _) PF Uw (Lo.grow Py) (O.grow Py) (aaf _) Py tz)
 intro kk s' KF E' kN kB kR QA
 rw [<- hInv] at QA
 revert kN
 apply QA; intro j UB Qd QC Qq Tq P2 P7 hj P3 Tf SH Sv VN Qe Qg kN
 have YB:(Qd[r]?=some (.list us)/\Qd[r']?=some (.list ws))->(∃SZ n1,(d1,bV SZ n1)∈Qq/\bg α.hB Qq QC us SZ.toList)/\∃Rv n2,(d2,bV Rv n2)∈Qq/\bg α.hB Qq QC ws Rv.toList:=λhG =>
  ⟨(P3.W.list hG.1 (aA VN XQ)).2,(P3.W.list hG.2 (aA VN Xk)).2⟩
 by_cases PR:j < us.length/\j < ws.length
 ·rw [ab8 PR.1,ab8 PR.2] at Qg
  refine bv λGG PD=>?_
  obtain⟨⟨SZ,c1,UO,q1⟩,Rv,c2,SU,q2⟩:=YB Qg.1
  obtain⟨v1,hv1,rv1⟩:=q1.get (aa9 PR.1)
  obtain⟨v2,hv2,Zb⟩:=q2.get (aa9 PR.2)
  refine PD ?_
  refine JG (K:=λ_ Qo=>wpAny (abb α.prog α.w) A (execs _ env) KF E' Qo) C.hand D hx hy (kl _ lx) (kl _ ly) P3 Tf SH Sv UO SU (by simpa using hv1) (by simpa using hv2) rv1 Zb (λv P0 q=>q) λZF Zs YA afd Ww acG Uq YL Vk=>?_
  refine pE Qg.2 λV0 hV0 Qg=>?_
  refine abY (afx (wpAny_BinOp (Gp (s:={ s with heap:=Zs,toks:=YA }) D Ww Uq hi hdf hV0 λv0 rv0=>hT A h₀ L env C D _ ZF Qd QC _ _ Ww Uq _ _ _ Qg λW XS Xm ac9 w Ux XR YF Wk YH YD YG=>?_)) rfl)
  refine LA C.stays YF (acG.keep YD.k3) (rv0.mono Wk) YH YG λU v' h' n' S' g' Z' rv' tz=>?_
  have gg:=Wk.trans g'
  refine AS (sh:={ s with heap:=h',toks:=XR }) D S' (Uq.grow gg) (YL.grow gg) hi (kl _ lf) rv' λm'' Vx acT Zn acx TF=>?_
  have g3:=Vk.trans gg
  exact adU (kN _ ⟨us.length+1 - (j+1),aeN (abK PR.1) (abv j),hInv ▸ λ_ k=>k (j+1) m'' XS Xm n' _ Vx acT PR.1 Zn (Z'.keep (K3.same TF)) acx (YL.grow gg) (VN.trans g3.pre) (Qe.trans g3) tz⟩).1
 ·have Xh:j=us.length\/ws.length<=j:=by walk_at "o"
  refine bv λGG PD=>?_
  obtain⟨hG,tq⟩:=Jm (Xh.imp (λe=>aef (aeG e.symm)) aef) Qg
  obtain⟨⟨SZ,c1,UO,q1⟩,Rv,c2,SU,q2⟩:=YB hG
  obtain⟨ta,tb,Zj⟩:=Tf.hTO
  refine PD ?_
  refine wpAny_pyNext_zip_end C.hand Tf.D Tf.hz Tf.hTI Zj Tf.h1 Tf.h2 (P3.isList (s:={ s with heap:=P2 }) UO) (P3.isList (s:={ s with heap:=P2 }) SU) (Xh.imp (λe=>acb (by rw [<- abj,q1.length,e]; exact abp _)) λh=>acb (by rw [<- abj,q2.length]; exact h)) λQN WJ =>
   adU (P .next .next Tq Qd QC Qq UB QN P7 (Tf.but P3 WJ) SH Sv (dE Qe) .next tq)
end
section
open PyProof.Rows.LCg
inductive jO (hB:Heap)(news:aO)(φ:bk):List (Int×MV)->List (Int×aab)->Prop
 | nil:jO hB news φ [] []
 | cons {k:Int} {V:MV} {v:aab} {fs:List (Int×MV)} {kvs:List (Int×aab)} (h:RV hB news φ V v) (r:jO hB news φ fs kvs):jO hB news φ ((k,V)::fs) ((k,v)::kvs)
theorem jO.mono {X:List Addr}{hB:Heap}{news Pu:aO}{φ PG:bk}{fs:List (Int×MV)}{es:List (Int×aab)}(r:jO hB news φ fs es)(g:a9 X φ news PG Pu):jO hB Pu PG fs es:=by
 induction r with
 | nil=>exact .nil
 | cons h _ ih=>exact .cons (h.mono g) ih
theorem jO.snoc {hB:Heap}{news:aO}{φ:bk}{fs:List (Int×MV)}{es:List (Int×aab)}{k:Int}{V:MV}{v:aab}(r:jO hB news φ fs es)(h:RV hB news φ V v):jO hB news φ (fs++[(k,V)]) (es++[(k,v)]):=by
 induction r with
 | nil=>exact .cons h .nil
 | cons h' _ ih=>exact .cons h' ih
theorem jO.keys {hB:Heap}{news:aO}{φ:bk}{fs:List (Int×MV)}{es:List (Int×aab)}(r:jO hB news φ fs es):es.map (·.1)=fs.map (·.1):=by
 induction r with
 | nil=>rfl
 | cons _ _ ih=>simp [ih]
def Hm (G:MS->Prop)(tg:TG)(kx:Nat)(e:TE):List MV->aG->List (Int×MV)->MS->(List (Int×MV)->MS->Prop)->Prop
 | [],_,ys,st,Q=>G st/\Q ys st
 | x::xs,ρ,ys,st,Q=>G st/\tg x ρ λP9=>∃i,P9[kx]?=some (some (.int i))/\i ∉ ys.map (·.1)/\e P9 st λV Pz=>Hm G tg kx e xs P9 (ys++[(i,V)]) Pz Q
section
variable {prog:ade}{w:aaq}{A:abt}{R:afW->aah->Prop}{s:aah}
theorem qp {kx vx Qm iter:Expr}{scope:abJ}{pos:Pos}{it:aab}{D:Addr}{env:Env}(I:Nat->aah->Prop)
  (turn:∀n s,I n s->wpAny (abb prog w) A (afA it) (λr P0=>match r with
   | none=>R (.ok .next) P0
   | some v=>wpAny (abb prog w) A (ab5 Qm it v) (λ_ Ry=>wpAny (abb prog w) A (afy Qm env v) (λ_ Qo =>
      wpAny (abb prog w) A (eval kx env) (λkv RC=>wpAny (abb prog w) A (eval vx env) (λvv SK =>
       wpAny (abb prog w) A (dictSet D kv vv) (λ_ Vz=>∃m,m < n/\I m Vz) (aeH (abb prog w) A env λe s'=>R (.error e) s') SK) (aeH (abb prog w) A env λe s'=>R (.error e) s') RC) (aeH (abb prog w) A env λe s'=>R (.error e) s') Qo) (aeH (abb prog w) A env λe s'=>R (.error e) s') Ry) (aeH (abb prog w) A env λe s'=>R (.error e) s') P0) (aeH (abb prog w) A env λe s'=>R (.error e) s') s)
  (n:Nat) (h:I n s) :
  adx (abb prog w) A (.compLoop (.DictComp kx vx [⟨Qm,iter,[],0⟩] scope pos) 0 it (.ref D) env) R s:=by
 refine codeAny_loop rfl I (λn s hI=>?_) n h
 show wpAny _ A ((compTurn (.DictComp kx vx [⟨Qm,iter,[],0⟩] scope pos) 0 it (.ref D) env).onRaise (λx=>do noteFrame x env; theTreesLotGoes x)) _ _ s
 refine wpAny_noted ?_
 rw [compTurn_dict]
 refine aac (adl (aac (abR (turn n s hI) (λr P0 h₁=>?_) λ_ _ h'=>h')))
 cases r with
 | none=>exact aa8 h₁
 | some v =>
  refine aac (abR h₁ (λ_ Ry Wy=>?_) λ_ _ h'=>h')
  refine aac (abR Wy (λ_ Qo PM=>aac (wpAny_tests_nil ?_)) λ_ _ h'=>h')
  exact aac (aac (abR PM (λkv RC QN=>aac (ab0 (abR QN (λvv SK Qv=>aac (adl (ab0 (abR Qv (λ_ Vz Q6=>aa8 ⟨rfl,Q6⟩) λ_ _ h'=>h')))) λ_ _ h'=>h'))) λ_ _ h'=>h'))
end
section
variable {α:bC}{ℓ:Nat}{sc scope:abJ}{slots tgts cn:List Str}{h₀ h h':Heap}{L:Addr}{m:Str->Option aab}{st:MS}{φ PG:bk}{o o' news Pu:aO}{env:Env}{X:List Addr}{P8:Expr}
theorem BV {prog:ade}{w:aaq}{od:Obj}{kvs:List (Int×aab)}(hd:od.IsDictOf (ado prog w) kvs):Id od:=let ⟨_,_,_,hd,_⟩:=hd; lg (p:=(aeb,od)) hd
theorem Gu {A:abt}{vx iter:Expr}{kn:Str}{TW pos:Pos}{cl:List (Str×Addr)}{s:aah}{I C D:Addr}{xs:List MV}{G:MS->Prop}{keys:List Addr}{own:Nat->aO->Prop}{oI:aO}{z od:Obj}{mC:Str->Option aab}{ρ:aG}
  {tg:TG} {kx:Nat} {te:TE} {R:afW->aah->Prop} {Q:List (Int×MV)->MS->Prop}
  (Cx:Cf α ℓ A h₀ L) (Dx:Ce sc env) (W:qV α A h₀ L φ P8 I xs G keys own) (PL:xs.length<=abA)
  (hk:∀x∈tgts,(adY scope env).names.lookup x=some .local) (hc:∀x∈cn,(adY scope env).names.lookup x=some .cell) (Qs:scope.kind=.function)
  (ht:c4 α (f7 sc scope) tgts P8 tg) (UF:(tgts++cn)[kx]?=some kn) (Rp:(kn == ("__debug__":Str))=false) (Wl:∀v,ab5 P8 (.ref I) v=pure ()) (he:aa α ℓ (f7 sc scope) (tgts++cn) vx te)
  (S:Sn α h₀ L m s.heap st φ (oD C D oI z od++news)) (Qy:own 0 oI) (hf:∀p∈oD C D oI z od,p.1 ∉ bq φ) (RQ:od.IsDictOf (ado α.prog α.w) []) (hz:NsObj z mC) (h1:CL α news φ tgts mC ρ) (h2:oG (α:=α) φ cl news tgts.length cn ρ)
  (t:Hm G tg kx te xs ρ [] st Q)
  (P:∀ys kvs Ps PG Pu z' QZ h' PV QS,Sn α h₀ L m h' Ps PG ([(C,z'),(D,QZ)]++Pu)->NsObj z' QS->QZ.IsDictOf (ado α.prog α.w) kvs->a9 [α.tab] φ news PG Pu->(∀p∈[(C,z'),(D,QZ)],p.1 ∉ bq PG)->jO α.hB Pu PG ys kvs->Q ys Ps->R (.ok .next) { s with heap:=h',toks:=PV }) :
  adx (abb α.prog α.w) A (.compLoop (.DictComp (.Name kn TW) vx [⟨P8,iter,[],0⟩] scope pos) 0 (.ref I) (.ref D) (adt scope cl C env)) R s:=by
 have Dc:Ce (f7 sc scope) (adt scope cl C env):=⟨sF scope Dx,Qs,Dx.glob,Dx.bul⟩
 refine qp (IY α h₀ L m tgts cn cl C D s φ news own xs.length λi ρ φ r od st=>∀G₀:Prop,(∀ys kvs,od.IsDictOf (ado α.prog α.w) kvs->jO α.hB r φ ys kvs->kvs.length<=i->Hm G tg kx te (xs.drop i) ρ ys st Q->G₀)->G₀) ?_ (xs.length+1)
  (λ_ k=>k 0 oI z od mC st φ news ρ s.heap s.toks (abP _) ⟨S,W.pl _ _ Qy,BV RQ,hf,hz,h1,h2⟩ Qy .refl λ_ k=>k [] [] RQ .nil (abp _) t)
 intro k s' hI
 apply hI; intro i oI z od mC Pz PE P5 Qk PM PN hi X Rb PH tt
 refine tt _ λys kvs WU Vp hsz PU=>?_
 generalize (aeH (abb α.prog α.w) A (adt scope cl C env) λe s'=>R (.error e) s')=E
 rcases aiw i xs.length with PR | Rt
 ·rw [ab8 PR] at PU
  refine zm (K:=λQo=>wpAny (abb α.prog α.w) A (eval (.Name kn TW) (adt scope cl C env)) _ E Qo) Cx Dx W Qs ht X Rb PH.pre PU.1 PR PU.2 (λv P0 q=>q) λU0 VH Ur VI Q0 Qv RJ Uv RM SM Rh=>?_
  obtain⟨ki,hki,SO,Rh⟩:=Rh
  have Yr:=RM.lc hk hc
  refine Gp (s:={ s with heap:=Qv,toks:=RJ }) Dc RM.S Yr UF Rp hki λkv rk=>?_
  cases rk with | int _ kt =>
  refine he A h₀ L (adt scope cl C env) Cx Dc _ m Pz PE _ Q0 RM.S Yr _ _ _ Rh λV Ye Yi acL u Vv Tt VJ XG Xp Xs=>RM.after VJ XG λZu Vb Vk Vd=>?_
  refine ahW (s:={ s with heap:=Vv,toks:=Tt }) (knd:=ado α.prog α.w) (k:=ki) (afZ _ _ _ _) (agb.mpr ⟨od,Vb.S.N.get (aap _ J4),WU⟩) (λUx TC TH=>?_) (aaj hsz (aaj hi PL))
  obtain⟨QZ,ST,Tk⟩:=agb.mp TC
  rw [xo (by rw [Vp.keys]; exact SO)] at Tk
  have g':=SM.trans Vk
  exact⟨xs.length+1 - (i+1),aeN (abK PR) (abv i),λ_ k=>k (i+1) U0 VH QZ Ur Ye Yi Zu Q0 Ux (Tt+1) PR (Vb.turnD TH.extBut ST (BV Tk)) Uv (PH.trans g') λ_ k=>k (ys++[(ki,V)]) _ Tk ((Vp.mono g').snoc (RV.mono' (aaf _) Vd Xp)) (by rw [aba]; exact Nat.succ_le_succ hsz) Xs⟩
 ·obtain rfl:i=xs.length:=af9 hi Rt
  rw [agW] at PU
  exact W.done _ m Pz PE oI _ _ _ (by rw [<- abL]; exact X.S) PU.1 Rb PH.pre (λp hp=>X.off p (aap _ hp)) λP2 P7 P3=>P ys kvs Pz PE P5 z od P2 P7 mC P3 X.ns WU PH (λp hp=>X.off p (aas _ hp)) Vp PU.2
end
end
section
open PyProof.Rows.LCg
noncomputable abbrev uf:Obj:={ cls:=.type "dict",data:=.dict #[] }
theorem JJ {prog:ade}{w:aaq}:uf.IsDictOf (ado prog w) []:=⟨#[],0,⟨rfl,rfl,rfl⟩,rfl,λe he=>by simp at he,.nil,List.nodup_nil⟩
section
variable {α:bC}{ℓ:Nat}{sc scope:abJ}{slots tgts cn:List Str}{h₀ h h':Heap}{L:Addr}{m:Str->Option aab}{st:MS}{φ PG:bk}{o o' news Pu:aO}{env:Env}{X:List Addr}{P8:Expr}
theorem Df {A:abt}{vx iter:Expr}{kn:Str}{TW pos:Pos}{cl:List (Str×Addr)}{s:aah}{I:Addr}{xs:List MV}{G:MS->Prop}{keys:List Addr}{own:Nat->aO->Prop}{oI:aO}{ρ:aG}
  {tg:TG} {kx:Nat} {te:TE} {RR:aab->Addr->afW->aah->Prop} {Q:List (Int×MV)->MS->Prop} {E:aab->aah->Prop}
  (Cx:Cf α ℓ A h₀ L) (Dx:Ce sc env) (W:qV α A h₀ L φ P8 I xs G keys own) (PL:xs.length<=abA)
  (hk:∀x∈tgts,(adY scope env).names.lookup x=some .local) (hc:∀x∈cn,(adY scope env).names.lookup x=some .cell) (Qs:scope.kind=.function) (QB:∀y∈scope.names,y.2≠.cell)
  (ht:c4 α (f7 sc scope) tgts P8 tg) (UF:(tgts++cn)[kx]?=some kn) (Rp:(kn == ("__debug__":Str))=false) (Wl:∀v,ab5 P8 (.ref I) v=pure ()) (he:aa α ℓ (f7 sc scope) (tgts++cn) vx te)
  (S:Sn α h₀ L m s.heap st φ (oI++news)) (Qy:own 0 oI) (hf:∀p∈oI,p.1 ∉ bq φ) (h1:∀i,i < tgts.length->ρ[i]?=some none) (h2:oG (α:=α) φ cl news tgts.length cn ρ)
  (t:Hm G tg kx te xs ρ [] st Q)
  (P:∀D C ys kvs Ps PG Pu z' QZ h' PV QS,(D == aeb)=false->Sn α h₀ L m h' Ps PG ([(C,z'),(D,QZ)]++Pu)->NsObj z' QS->QZ.IsDictOf (ado α.prog α.w) kvs->a9 [α.tab] φ news PG Pu->(∀p∈[(C,z'),(D,QZ)],p.1 ∉ bq PG)->(∀p∈news,p.1≠C)->jO α.hB Pu PG ys kvs->Q ys Ps ->
   RR (.ref D) C (.ok .next) { s with heap:=h',toks:=PV }) :
  wpAny (abb α.prog α.w) A newDict (λPY Qu=>wpAny (abb α.prog α.w) A (newFunctionEnv scope env.globals cl [] env.qual none .none (some env)) (λVO RC =>
   adx (abb α.prog α.w) A (.compStart (.DictComp (.Name kn TW) vx [⟨P8,iter,[],0⟩] scope pos) 0 (.ref I) PY { VO with scope:=adY scope env }) (RR PY VO.locals) RC) E Qu) E s:=by
 refine adZ (M:=abb α.prog α.w) (ahE QB (by intro y hy; simp at hy) (λh₁ RU Rx=>?_) Qs)
 dsimp only at RU Rx ⊢
 generalize hH2:s.heap.push uf=H2 at RU Rx ⊢
 have hC:H2.objs.size=s.heap.objs.size+1:=by rw [<- hH2,adM]
 refine bv λGG PD=>?_
 obtain⟨n1,n2⟩:=S.nextNone
 have hDC:s.heap.objs.size≠H2.objs.size:=by rw [hC]; exact abc (abv _)
 have W9:∀b o,s.heap.get? b=some o->H2.get? b=some o:=λb o e=>hH2 ▸ aak _ e
 have ZC:H2.get? s.heap.objs.size=some (uf):=by rw [<- hH2]; exact abz _ rfl
 have Qp:∀b o,s.heap.get? b=some o->h₁.get? b=some o:=λb o e=>Rx.extBut b o (by rw [hC]; exact abc (abK (abk e))) (aak _ (W9 b o e))
 obtain⟨z,hz,RA⟩:=ns_obj RU
 obtain⟨Sd,U7⟩:=S.new1 (h':=H2) n1 n2 ZC W9
 obtain⟨m1,m2⟩:=Sd.nextNone
 obtain⟨Sc,hfc⟩:=Sd.new1 (h':=h₁) (I:=H2.objs.size) (z:=z) m1 m2 hz λb o e=>Rx.extBut b o (abc (abk e)) (aak _ e)
 refine PD ?_
 have Xu:∀p∈news,p.1≠H2.objs.size:=λp hp e=>by
  have:=(Sd.N p (aas _ (aas _ hp))).1
  rw [e,m1] at this; cases this
 have Pv:Sn α h₀ L m h₁ st φ (oD H2.objs.size s.heap.objs.size oI z uf++news):=by
  refine Sc.same ?_ (λp hp=>?_) (λp hp=>?_)
  ·have:=Sc.W.nodup
   simp only [abB,abg,abL,ada,abx] at this ⊢
   have q:(oI.map (·.1)++H2.objs.size::s.heap.objs.size::news.map (·.1)).Perm (H2.objs.size::s.heap.objs.size::(oI.map (·.1)++news.map (·.1))):=by
    refine afX.trans (.cons _ afX)
   exact q.nodup_iff.mpr this
  ·simp only [adT,aby,abu,or_false] at hp ⊢
   rcases hp with hp | hp | hp | hp
   ·exact .inl (.inr (.inl hp))
   ·exact .inl (.inr (.inr hp))
   ·exact .inl (.inl hp)
   ·exact .inr hp
  ·simp only [adT,aby,abu,or_false] at hp ⊢
   rcases hp with (hp | hp | hp) | hp
   ·exact .inr (.inr (.inl hp))
   ·exact .inl hp
   ·exact .inr (.inl hp)
   ·exact .inr (.inr (.inr hp))
 have Tn:∀p∈oD H2.objs.size s.heap.objs.size oI z uf,p.1 ∉ bq φ:=λp hp=>by
  rcases dW hp with hp | hp
  ·exact hf p hp
  ·rcases bM hp with rfl | hp
   ·exact hfc
   ·rw [cr hp]; exact U7
 have Vj:∀Qu:aah,Qu={ s with heap:=h₁,toks:=s.toks+([]:List (Str×aab)).length } ->
   adx (abb α.prog α.w) A (.compLoop (.DictComp (.Name kn TW) vx [⟨P8,iter,[],0⟩] scope pos) 0 (.ref I) (.ref s.heap.objs.size) (adt scope cl H2.objs.size env))
    (RR (.ref s.heap.objs.size) H2.objs.size) Qu:=by
  rintro Qu rfl
  refine Gu Cx Dx W PL hk hc Qs ht UF Rp Wl he Pv Qy Tn JJ RA ?_ h2 t λys kvs Ps PG Pu z' QZ h' PV QS S' Q1 Tk g' Sf r' t'=>P _ _ ys kvs Ps PG Pu z' QZ h' PV QS (S.F.notModules (modules_low Cx.T.nolimit)) S' Q1 Tk g' Sf Xu r' t'
  intro i x V hx hV
  rw [h1 i (bP hx).1] at hV
  cases hV
 exact codeAny_compStart_dict (Vj _ rfl) (W.self _ m st φ oI ([(H2.objs.size,z),(s.heap.objs.size,uf)]++news) _ _ (by rw [<- abL]; exact Pv) Qy (Vj _ rfl))
def CE (nT:Nat)(caps:List Nat)(src:TI)(tg:TG)(kx:Nat)(e:TE):aG->MS->(List (Int×MV)->MS->Prop)->Prop:=λρ st Q=>(caps.all λi=>((ρ[i]?).join).isSome)=true/\src ρ st λxs G Pt=>xs.length<=abA/\Hm G tg kx e xs (jw nT caps ρ) [] Pt Q
theorem IH {C D:Addr}{z od:Obj}{kvs:List (Int×aab)}{mC:Str->Option aab}(S:Sn α h₀ L m h st φ ([(C,z),(D,od)]++news))(hz:NsObj z mC)(RQ:od.IsDictOf (ado α.prog α.w) kvs)(hf:∀p∈[(C,z),(D,od)],p.1 ∉ bq φ)(hs:adf C h h') :
  Sn α h₀ L m h' st φ ((D,od)::news):=by
 have nd:=S.W.nodup
 have ZG:C≠D:=λe=>by subst e; simp at nd
 have pl:Pl [(C,z),(D,od)]:=λp hp=>by
  rcases bM hp with rfl | hp
  ·obtain⟨es,ep,hd,_⟩:=hz; exact lg hd
  ·rw [cr hp]; obtain⟨es,ep,_,hd,_⟩:=RQ; exact lg hd
 exact S.own (o':=[(D,od)]) pl hf (λb y hb e=>hs.extBut b y (λq=>hb (by
   have q':b=C:=q
   rw [q']; exact .head _)) e) (λp hp=>by
   rw [cr hp]
   exact hs.extBut _ _ (aec ZG) (S.N.get (aap _ (.tail _ (.head _))))) (by simp) (λp hp=>by rw [cr hp]; exact .tail _ (.head _))
theorem F9 {iter vx:Expr}{kn:Str}{TW pos:Pos}{src:TI}{caps:List Nat}{kx:Nat}{tg:TG}{te:TE}(K:f6 α ℓ sc scope slots tgts cn caps P8 [] vx tg dZ te)(hi:ch α ℓ sc slots P8 iter src)(UF:(tgts++cn)[kx]?=some kn)(Rp:(kn == ("__debug__":Str))=false)
  (Wl:∀I v,ab5 P8 (.ref I) v=pure ()) (hs:autoParam (∀env x,aes iter env x=pure x) aI) {A:abt} (C:Cf α ℓ A h₀ L) (D:Ce sc env) {s:aah} {ρ:aG} (PB:Sn α h₀ L m s.heap st φ news) (Lo:Lc α slots env L m news φ ρ)
  {Q:List (Int×MV)->MS->Prop} {Qc:aab->aah->Prop} {E:aab->aah->Prop} (t:CE tgts.length caps src tg kx te ρ st Q)
  (P:∀Da od ys kvs Ps PG Pu h' PV,(Da == aeb)=false->Sn α h₀ L m h' Ps PG ((Da,od)::Pu)->Da ∉ bq PG->od.IsDictOf (ado α.prog α.w) kvs->a9 [α.tab] φ news PG Pu->jO α.hB Pu PG ys kvs->Q ys Ps->Qc (.ref Da) { s with heap:=h',toks:=PV }) :
  wpAny (abb α.prog α.w) A (eval (.DictComp (.Name kn TW) vx [⟨P8,iter,[],0⟩] scope pos) env) Qc E s:=by
 refine bv λGG PD=>?_
 obtain⟨WX,t⟩:=t
 obtain⟨cl,Q5,Vt⟩:=K.closure D Lo WX
 obtain⟨k1,k2,k3,k4⟩:=K.kinds D
 refine PD ?_
 rw [arm_eval_DictComp]
 refine aeR (use:=none) rfl (hs env) Q5 K.kind k4 (hi A h₀ L env C D s m st φ news ρ PB Lo _ _ E t λI xs G keys own o Pt Px PC h₁ PA Pv Py W Qy U1 hI Pw=>?_)
 obtain⟨PL,Pw⟩:=Pw
 refine Df (ℓ:=ℓ) (RR:=λPY Ca=>compPost (abb α.prog α.w) A E none Qc PY Ca) C D W PL k1 k2 K.kind k3 K.t UF Rp (Wl I) K.e Pv Qy U1 (λi hi=>nv hi) (K.capsOk D Vt (Lo.grow Py)) Pw ?_
 intro Da Ca ys kvs Ps PG Pu z' QZ h' PV QS Rk S' Q1 Tk g' Sf _ r' t'
 refine⟨QS,Q1.ns (S'.N.get (aap _ (.head _))),λVx TF=>?_⟩
 exact P Da QZ ys kvs Ps PG Pu Vx PV Rk (IH S' Q1 Tk Sf TF) (Sf (Da,QZ) (.tail _ (.head _))) Tk (Py.trans g') r' t'
end
end
theorem H3:kas_sort 2=.ask 1 0 λc=>.ret (if c=true then #[1,0] else #[0,1]):=by
 show KasT.ask 1 0 _=KasT.ask 1 0 _
 congr 1
 funext c
 cases c <;> rfl
noncomputable def df:List Int->List Int->Bool
 | [],[]=>false
 | [],_::_=>true
 | _::_,[]=>false
 | a::r,b::q=>if a < b then true else if b < a then false else df r q
theorem pP {a b:Int}{x y:List Int}:df (a::x) (b::y)=if a < b then true else if b < a then false else df x y:=rfl
theorem GE {a:Int}{x y:List Int}:df (a::x) (a::y)=df x y:=by
 rw [pP,if_neg (agQ a),if_neg (agQ a)]
section
variable {prog:ade}{w:aaq}{A:abt}{E:aab->aah->Prop}{s:aah}
theorem Jn {b:Bool}{Q:Bool->aah->Prop}:∀{xs ys:List aab}{ns ms:List Int}{QK:Bool}{i:Nat}{s:aah},IntsAre xs ns->IntsAre ys ms->QK=decide (xs.length < ys.length)->Q (df ns ms) s->KatLex prog w A b QK Q (xs.zip ys) i s:=by
 intro xs ys ns ms QK i s h1
 induction h1 generalizing ys ms QK i s with
 | nil =>
  intro h2 hf hq
  refine kat_nil ?_
  cases h2 with
  | nil=>subst hf; exact hq
  | cons n t r=>subst hf; exact hq
 | cons n t r ih =>
  intro h2 hf hq
  cases h2 with
  | nil=>exact kat_nil (by subst hf; exact hq)
  | cons m u r2 =>
   refine kat_cons (wpAny_eqBool_int ?_)
   by_cases e:n=m
   ·subst e
    rw [show (n == n)=true from by simp]
    refine kat_yes (ih r2 (by simpa using hf) ?_)
    rw [GE] at hq
    exact hq
   ·rw [show (n == m)=false from by simpa using e]
    have hv:∀p q,df (n::p) (m::q)=decide (n < m):=λp q=>by
     rw [pP]
     by_cases h:n < m
     ·rw [if_pos h,decide_eq_true h]
     ·rw [if_neg h,if_pos (Int.lt_iff_le_and_ne.mpr ⟨Int.not_lt.mp h,λq=>e q.symm⟩),decide_eq_false h]
    rw [hv] at hq
    refine kat_no ?_
    cases hb:(b && i == 0) with
    | true=>exact oneLt_int hq
    | false=>exact kat_one _ _ (lt_int hq)
theorem KP {x y:Addr}{xs ys:Array aab}{ns ms:List Int}{b:Bool}{Q:Bool->aah->Prop}(hx:ajn s.heap x xs)(hy:ajn s.heap y ys)(h1:IntsAre xs.toList ns)(h2:IntsAre ys.toList ms)(h:Q (df ns ms) s) :
  wpAny (abb prog w) A (keyLt' (tuples' b) (.ref x) (.ref y)) Q E s:=by
 refine bv λGG PD=>?_
 obtain⟨ox,YW,_,n,dx⟩:=hx
 obtain⟨oy,Z1,_,k,dy⟩:=hy
 refine PD ?_
 exact kat_lt YW dx Z1 dy (Jn h1 h2 (by simp) h)
end
section
variable {prog:ade}{w:aaq}{A:abt}{E:aab->aah->Prop}{s:aah}{h₀:Heap}{L a f:Addr}{m:Str->Option aab}{news:aO}
def qh (h₀:Heap)(news:aO)(k:aab)(ns:List Int):Prop:=∃x its,k=.ref x/\((x,bz its)∈news\/h₀.get? x=some (bz its))/\IntsAre its.toList ns/\ns≠[]
def mw (prog:ade)(w:aaq)(A:abt)(h₀:Heap)(L:Addr)(m:Str->Option aab)(news:aO)(f:Addr)(i:Int)(k:aab):Prop:=
 ∀(t:Tok) (s:aah) (Pu:aO),Fr h₀ L s.heap m->News h₀ L s.heap Pu->(∀p∈news,p∈Pu)->∀(Q E:aab->aah->Prop),
  (∀h' tk,Fr h₀ L h' m->News h₀ L h' Pu->Q k { s with heap:=h',toks:=tk })->wpAny (abb prog w) A (call (.ref f) [.int i t]) Q E s
theorem qh.at {k:aab}{ns:List Int}{h:Heap}{Pu:aO}(K:qh h₀ news k ns)(F:Fr h₀ L h m)(N:News h₀ L h Pu)(hs:∀p∈news,p∈Pu):∃x its,k=.ref x/\ajn h x its/\IntsAre its.toList ns/\ns≠[]:=by
 refine bv λGG PD=>?_
 obtain⟨x,its,rfl,hx,hi,hn⟩:=K
 refine PD ?_
 refine⟨x,its,rfl,?_,hi,hn⟩
 rcases hx with hx | hx
 ·exact⟨_,(N _ (hs _ hx)).1,rfl,0,rfl⟩
 ·exact⟨_,F.keep _ _ hx,rfl,0,rfl⟩
theorem Iq {i j:Int}{t u:Tok}{k l:aab}{ns ms:List Int}{n:Nat}{P:ahP->aah->Prop}(F:Fr h₀ L s.heap m)(N:News h₀ L s.heap news)(ho:s.heap.get? a=some (adA "list" #[.int i t,.int j u] n)) (SQ:a≠L) (Sg:h₀.get? a=none) (RS:∀p∈news,p.1≠a)
  (VR:mw prog w A h₀ L m news f i k) (Za:mw prog w A h₀ L m news f j l) (K1:qh h₀ news k ns) (K2:qh h₀ news l ms)
  (h:∀h' tk out c,Fr h₀ L h' m->News h₀ L h' ((a,bV out c)::news)->IntsAre out.toList (if df ms ns=true then [j,i] else [i,j])->P (.done (.ret .none)) { s with heap:=h',toks:=tk }) :
  wpAny (abb prog w) A (aiD a (.ref f) false) P E s:=by
 refine kat_keyed (vs:=[.int i t,.int j u]) F N ho SQ Sg RS (abp _) (by show 2 < 64; decide) λkS e1 h₁ Qx QU l0 l1=>?_
 have Ub:kS≠a:=abT l0
 have Tj:∀p∈(a,adA "list" #[] e1)::news,p.1≠kS:=λp hp=>by
  rcases bM hp with rfl | hp
  ·exact Ub.symm
  ·exact abc (l1 p hp)
 have sub:∀(o o':Obj),∀p∈news,p∈(kS,o)::(a,o')::news:=λ_ _ p hp=>.tail _ (.tail _ hp)
 refine aiE (VR t _ _ Qx QU (sub _ _) _ _ λPM PN RF RI=>?_)
 refine ah7 RF RI (.head Tj) λP2 ac8 QO QM=>?_
 refine aiE (Za u _ _ QO QM (sub _ _) _ _ λQN Sl TJ TR=>?_)
 refine ah7 TJ TR (.head Tj) λQv afh WD Wz=>?_
 refine aiQ ?_
 refine bv λGG PD=>?_
 obtain⟨x,xs,rfl,hx,hI,hn⟩:=K1.at WD Wz (sub _ _)
 obtain⟨y,ys,rfl,hy,hJ,hm⟩:=K2.at WD Wz (sub _ _)
 obtain⟨ox,YW,hcx,nx,hdx⟩:=id hx
 obtain⟨oy,Z1,hcy,ny,hdy⟩:=id hy
 have first:∀{its:Array aab} {ns:List Int},IntsAre its.toList ns->ns≠[]->∃z v,its[0]?=some (.int z v):=by
  intro its ns hi P6
  cases ns with
  | nil=>exact absurd rfl P6
  | cons z r =>
   generalize hl:its.toList=l at hi
   cases hi with
   | cons z v _=>exact⟨z,v,by rw [<- ads,hl]; rfl⟩
 obtain⟨z1,v1,e1'⟩:=first hI hn
 obtain⟨z2,v2,e2'⟩:=first hJ hm
 refine PD ?_
 refine kat_kind (fs:=[.int z1 v1,.int z2 v2]) (T:=.type "int") (KatTups.cons YW hcx hdx e1' (KatTups.cons Z1 hcy hdy e2' KatTups.nil)) (by show 0 < 2; decide) (λv hv=>?_) (by decide) ?_
 ·simp only [aby,abu,or_false] at hv
  rcases hv with rfl | rfl
  ·exact agL rfl
  ·exact agL rfl
 show (kas_sort 2).kasWp _ _ _
 rw [H3]
 show wpAny (abb prog w) A (keyLt' _ (.ref y) (.ref x)) _ _ _
 refine KP hy hx hJ hI ?_
 cases hb:df ms ns with
 | true =>
  refine ahe WD Wz (.head Tj) λQ6 XB TU SP=>ahf TU SP (.tail Ub (.head RS)) λR0 TK Ty TY=>?_
  refine h R0 Sl #[.int j u,.int i t] TK Ty (λp hp=>?_) (by rw [hb]; exact .cons _ _ (.cons _ _ .nil))
  exact TY p (.tail _ hp)
 | false =>
  refine ahe WD Wz (.head Tj) λQ6 XB TU SP=>ahf TU SP (.tail Ub (.head RS)) λR0 TK Ty TY=>?_
  refine h R0 Sl #[.int i t,.int j u] TK Ty (λp hp=>?_) (by rw [hb]; exact .cons _ _ (.cons _ _ .nil))
  exact TY p (.tail _ hp)
end
section
variable {prog:ade}{w:aaq}{A:abt}{E:aab->aah->Prop}{s:aah}{h₀:Heap}{L a kS:Addr}{m:Str->Option aab}{news:aO}{vs ks:List aab}{f:aab}{e e1:Nat}{P:ahP->aah->Prop}
theorem G8 (hl:ks.length=vs.length)(h2:vs.length < 2)(h:KatFin h₀ L m kS a ks e e1 vs (λs3=>P (.done (.ret .none)) s3) s) :
  wpAny (abb prog w) A (ksk_end a false vs.toArray e1 (.ref kS) (afG ks)) P E s:=by
 unfold ksk_end
 simp only [ab2,if_false]
 rw [if_pos (by rw [ad0]; exact h2),if_pos (by rw [ad0]; exact h2)]
 refine aac (aa8 ?_)
 rw [StateT.run_pure]
 refine aac (aa8 ?_)
 refine kat_tail (b:=false) (out:=vs) (ks:=ks) ?_ (by walk_at "o") (by walk_at "o") rfl h
 show ((afG ks).zip vs.toArray).map (·.2)=vs.toArray
 apply agY.mp
 rw [Array.toList_map,ksk_zip,List.map_snd_zip (by rw [ahY]; walk_at "o")]
theorem Gx (hk:s.heap.get? kS=some (adA "list" #[] 0)) (h2:vs.length < 2)
  (h:KatKeys prog w A h₀ L m kS f (λks e s'=>KatFin h₀ L m kS a ks e e1 vs (λs4=>P (.done (.ret .none)) s4) s') vs [] 0 s):wpAny (abb prog w) A (ksk_rest a f false vs.toArray e1 (.ref kS)) P E s:=by
 unfold ksk_rest
 refine aac (ai7 ?_)
 first
  | rw [List.forIn_toArray]
  | (rw [<- aik]; simp only [ahY])
  | rw [<- aik]
 refine aac (abR (kat_fold (n:=vs.length) (by walk_at "o") (λx ks e s' C hz hx=>?_) vs [] 0 s (by simp) hk h) (λ_ s' hd=>?_) λ_ _ x=>x)
 ·refine aac (ah6 (abR hx (λk UL hk=>?_) λ_ _ hF=>hF.elim))
  refine bv λGG PD=>?_
  obtain⟨Pu,g,F',N',U,c⟩:=hk
  obtain⟨pre,afm,e0,hg,x1,x2⟩:=U.split
  rw [e0] at N'
  have nk:=N' (kS,adA "list" (afG ks) e) (aas _ (.head _))
  have s1:=adp UL.heap kS (ad4 (·.push k))
  have ea:(afG ks).push k=afG (ks++[k]):=by simp
  obtain⟨c2,QY⟩:∃c2,(UL.heap.update kS (ad4 (·.push k))).get? kS=some (adA "list" (afG (ks++[k])) c2):=⟨_,by rw [<- ea]; exact get?_update_seq nk.1 (·.push k)⟩
  refine PD ?_
  refine aac (listUpdate_at nk.1 rfl ?_ (by rw [ad0,agI]; walk_at "o") (aaj (aeG (Array.size_push ..)) (by rw [ad0,agI]; walk_at "o")))
  exact aa8 ⟨rfl,k,c2,QY,c _ c2 (kas_fr F' s1 nk.2.1 nk.2.2) (by rw [hg]; exact news_set N' x1 x2 s1 QY)⟩
 ·obtain⟨ks,e,QA,hl,QK⟩:=hd
  refine aac (listItems_at QA rfl ?_)
  exact G8 hl h2 QK
theorem xm {n:Nat}(F:Fr h₀ L s.heap m)(N:News h₀ L s.heap news)(ho:s.heap.get? a=some (adA "list" vs.toArray n)) (SQ:a≠L) (Sg:h₀.get? a=none) (RS:∀p∈news,p.1≠a) (h2:vs.length < 2)
  (h:∀kS e1 h',Fr h₀ L h' m->News h₀ L h' ((kS,adA "list" #[] 0)::(a,adA "list" #[] e1)::news)->a < kS->(∀q∈news,q.1 < kS) ->
   KatKeys prog w A h₀ L m kS f (λks e s'=>KatFin h₀ L m kS a ks e e1 vs (λs4=>P (.done (.ret .none)) s4) s') vs [] 0 { s with heap:=h' }):wpAny (abb prog w) A (aiD a f false) P E s:=by
 have ha:a < s.heap.objs.size:=abk ho
 have s1:=adp s.heap a (ad4 λ_=>(#[]:Array aab))
 obtain⟨e1,ho1⟩:∃e1,(s.heap.update a (ad4 λ_=>(#[]:Array aab))).get? a=some (adA "list" #[] e1):=⟨_,get?_update_seq ho λ_=>#[]⟩
 have F1:=kas_fr F s1 SQ Sg
 have N1:=kas_news N s1 RS
 have hkS:((s.heap.update a (ad4 λ_=>(#[]:Array aab))).push (adA "tuple" vs.toArray 0)).objs.size=s.heap.objs.size+1:=by rw [size_push',Heap.size_update]
 have hLk:L < ((s.heap.update a (ad4 λ_=>(#[]:Array aab))).push (adA "tuple" vs.toArray 0)).objs.size:=(F1.push _).ns.lt
 unfold aiD
 refine aac (listItems_at ho rfl ?_)
 refine aac (listUpdate_at ho rfl ?_ (by rw [ad0,agI]; walk_at "o") (abP _))
 refine aac (seqEpoch_at ho1 rfl ?_)
 refine aac (wpAny_newTuple ?_ (by show vs.length<=_; rw [agI]; walk_at "o"))
 refine aac (wpAny_newList ?_ (abP _))
 refine ab0 ?_
 refine Gx (s:={ s with heap:=((s.heap.update a (ad4 λ_=>(#[]:Array aab))).push (adA "tuple" vs.toArray 0)).push (adA "list" #[] 0) }) (kS:=((s.heap.update a (ad4 λ_=>(#[]:Array aab))).push (adA "tuple" vs.toArray 0)).objs.size)
  (abz _ rfl) h2 (h _ e1 _ ((F1.push _).push _) (λp hp=>?_) (by rw [hkS]; exact abK ha) λq hq=>by rw [hkS]; exact abK (abk (N q hq).1))
 rcases bM hp with rfl | hp
 ·exact⟨abz _ rfl,abT hLk,adX (aaj F.above (adi hLk))⟩
 ·rcases bM hp with rfl | hp
  ·exact⟨aak _ (aak _ ho1),SQ,Sg⟩
  ·exact⟨aak _ (aak _ (N1 p hp).1),(N1 p hp).2⟩
end
section
variable {prog:ade}{w:aaq}{A:abt}{E:aab->aah->Prop}{s:aah}{h₀:Heap}{L a f D:Addr}{m:Str->Option aab}{news:aO}{P:ahP->aah->Prop}{n:Nat}
theorem H6 (F:Fr h₀ L s.heap m)(N:News h₀ L s.heap news)(ho:s.heap.get? a=some (adA "list" #[] n)) (SQ:a≠L) (Sg:h₀.get? a=none) (RS:∀p∈news,p.1≠a)
  (h:∀h' tk out c,Fr h₀ L h' m->News h₀ L h' ((a,bV out c)::news)->IntsAre out.toList []->P (.done (.ret .none)) { s with heap:=h',toks:=tk }) :
  wpAny (abb prog w) A (aiD a (.ref f) false) P E s:=by
 refine xm (vs:=[]) F N ho SQ Sg RS (by show 0 < 2; decide) λkS e1 h₁ Qx QU l0 l1=>aiQ ?_
 have Ub:kS≠a:=abT l0
 have Tj:∀p∈(a,adA "list" #[] e1)::news,p.1≠kS:=λp hp=>by
  rcases bM hp with rfl | hp
  ·exact Ub.symm
  ·exact abc (l1 p hp)
 exact ahe Qx QU (.head Tj) λQ6 XB TU SP=>ahf TU SP (.tail Ub (.head RS)) λR0 TK Ty TY=>h R0 s.toks #[] TK Ty (λp hp=>TY p (.tail _ hp)) .nil
theorem Hf {i:Int}{t:Tok}{k:aab}(F:Fr h₀ L s.heap m)(N:News h₀ L s.heap news)(ho:s.heap.get? a=some (adA "list" #[.int i t] n)) (SQ:a≠L) (Sg:h₀.get? a=none) (RS:∀p∈news,p.1≠a)
  (VR:mw prog w A h₀ L m news f i k)
  (h:∀h' tk out c,Fr h₀ L h' m->News h₀ L h' ((a,bV out c)::news)->IntsAre out.toList [i]->P (.done (.ret .none)) { s with heap:=h',toks:=tk }) :
  wpAny (abb prog w) A (aiD a (.ref f) false) P E s:=by
 refine xm (vs:=[.int i t]) F N ho SQ Sg RS (by show 1 < 2; decide) λkS e1 h₁ Qx QU l0 l1=>?_
 have Ub:kS≠a:=abT l0
 have Tj:∀p∈(a,adA "list" #[] e1)::news,p.1≠kS:=λp hp=>by
  rcases bM hp with rfl | hp
  ·exact Ub.symm
  ·exact abc (l1 p hp)
 refine aiE (VR t _ _ Qx QU (λp hp=>.tail _ (.tail _ hp)) _ _ λPM PN RF RI=>?_)
 refine ah7 RF RI (.head Tj) λP2 ac8 QO QM=>aiQ ?_
 exact ahe QO QM (.head Tj) λQ6 XB TU SP=>ahf TU SP (.tail Ub (.head RS)) λR0 TK Ty TY=>h R0 PN #[.int i t] TK Ty (λp hp=>TY p (.tail _ hp)) (.cons _ _ .nil)
inductive mE (prog:ade)(w:aaq)(A:abt)(h₀:Heap)(L:Addr)(m:Str->Option aab)(news:aO)(f:Addr):List (Int×aab)->List Int->Prop
 | zero:mE prog w A h₀ L m news f [] []
 | one {i:Int} {k:aab} (h:mw prog w A h₀ L m news f i k):mE prog w A h₀ L m news f [(i,k)] [i]
 | two {i j:Int} {k l:aab} {ns ms:List Int} (h1:mw prog w A h₀ L m news f i k) (h2:mw prog w A h₀ L m news f j l) (K1:qh h₀ news k ns) (K2:qh h₀ news l ms):mE prog w A h₀ L m news f [(i,k),(j,l)] (if df ms ns=true then [j,i] else [i,j])
theorem J6 {β:Type}{vs:List β}{a:β}(h:vs.length=1)(e:vs[0]?=some a):vs=[a]:=by
 cases vs with
 | nil=>cases e
 | cons x r=>cases e; rw [abI (ait h)]
theorem Nf {β:Type}{vs:List β}{a b:β}(h:vs.length=2)(e:vs[0]?=some a)(e':vs[1]?=some b):vs=[a,b]:=by
 cases vs with
 | nil=>cases e
 | cons x r=>cases e; rw [J6 (ait h) e']
theorem Dk {kvs:List (Int×aab)}{rs:List Int}{od:Obj}{Q:aab->aah->Prop}(F:Fr h₀ L s.heap m)(N:News h₀ L s.heap news)(hh:A.handled=none)(hD:(D,od)∈news)(RQ:od.IsDictOf (ado prog w) kvs)(hs:(D == aeb)=false)
  (O:mE prog w A.in1.in1 h₀ L m news f kvs rs)
  (h:∀D2 h' tk out c,Fr h₀ L h' m->News h₀ L h' ((D2,bV out c)::news)->(∀p∈news,p.1≠D2)->IntsAre out.toList rs->Q (.ref D2) { s with heap:=h',toks:=tk }) :
  wpAny (abb prog w) A (call (.builtin "sorted") [.ref D] [(ahc "key",.ref f)]) Q E s:=by
 obtain⟨ep,hat⟩:=(agb.mpr ⟨od,(N _ hD).1,RQ⟩:s.heap.DictOf (ado prog w) D kvs).dictAt
 refine call_function_entry_kw kind_sorted plain_sorted entry_sorted (ksk_s1 _ _) ?_
 unfold aee.«sorted»
 refine aac (m:=checkCount "sorted" 1 1 _) (aa8 ?_)
 have hn2:kvs.length<=2:=by cases O <;> simp
 refine aac (kdu_collect (A:=A.in1) (kdl_dict (knd:=ado prog w) (kvs:=kvs) (ep:=ep) hs) hh hat (aaj hn2 (by decide)) λh₁ PA PY Sq WO=>?_)
 have Qx:Fr h₀ L h₁ m:=F.keeps Sq
 have QU:News h₀ L h₁ news:=λp hp=>⟨Sq _ _ (N p hp).1,(N p hp).2⟩
 refine aac (wpAny_newList ?_ (by rw [abj,WO.1]; exact aaj hn2 (by decide)))
 have hLt:L < h₁.objs.size:=Qx.ns.lt
 have W5:(h₁.push (adA "list" PY.toList.toArray 0)).get? h₁.objs.size=some (adA "list" PY.toList.toArray 0):=abz _ rfl
 refine aac (ab0 (wpAny_call_entry_kw slot_list_sort ⟨_,W5,rfl⟩ entry_list_sort ?body (ksk_l1 _ _)))
 case body =>
  show wpAny (abb prog w) A.in1.in1 (aee.«list.sort» ⟨[.ref h₁.objs.size],[(ahc "key",.ref f)]⟩) _ _ { s with heap:=h₁.push (adA "list" PY.toList.toArray 0),toks:=PA }
  rw [ksk_t1]
  have RF:Fr h₀ L (h₁.push (adA "list" PY.toList.toArray 0)) m:=Qx.push _
  have RI:News h₀ L (h₁.push (adA "list" PY.toList.toArray 0)) news:=λp hp=>⟨aak _ (QU p hp).1,(QU p hp).2⟩
  have SQ:h₁.objs.size≠L:=abT hLt
  have Sg:h₀.get? h₁.objs.size=none:=adX (aaj F.above (adi hLt))
  have RS:∀p∈news,p.1≠h₁.objs.size:=λp hp=>abc (abk (QU p hp).1)
  have QK:∀h' tk out c,Fr h₀ L h' m->News h₀ L h' ((h₁.objs.size,bV out c)::news)->IntsAre out.toList rs ->
    (λ(QK:ahP) s'=>∃r,QK=.done (.ret r)/\wpAny (abb prog w) A.in1 (ret (aeD h₁.objs.size)) (λQK s'=>∃r,QK=.done (.ret r)/\Q r s') E s') (.done (.ret .none)) { s with heap:=h',toks:=tk }:=
   λh' tk out c F' N' hI=>⟨_,rfl,aa8 ⟨_,rfl,h _ h' tk out c F' N' RS hI⟩⟩
  have item:∀(j:Nat) (i:Int) (k:aab),kvs[j]?=some (i,k)->∃t,PY.toList[j]?=some (aeo i t):=λj i k hj=>by
   have PR:j < PY.size:=by rw [WO.1]; exact (bP hj).1
   obtain⟨i',x,hx,hi⟩:=WO.2 j _ (adS PR)
   rw [hj] at hx
   cases hx
   obtain⟨t,e⟩:=Value.isInt_shape hi
   exact⟨t,by rw [ads,adS PR,e]⟩
  have PL:PY.toList.length=kvs.length:=by rw [abj]; exact WO.1
  generalize PY.toList=vs at item PL RF RI W5
  cases O with
  | zero =>
   obtain rfl:vs=[]:=abI PL
   exact H6 (s:={ s with heap:=h₁.push (adA "list" #[] 0),toks:=PA }) RF RI W5 SQ Sg RS QK
  | one VR =>
   obtain⟨t,e⟩:=item 0 _ _ rfl
   obtain rfl:=J6 PL e
   exact Hf (s:={ s with heap:=h₁.push (adA "list" #[_] 0),toks:=PA }) RF RI W5 SQ Sg RS VR QK
  | two VR Za K1 K2 =>
   obtain⟨t,e⟩:=item 0 _ _ rfl
   obtain⟨u,e'⟩:=item 1 _ _ rfl
   obtain rfl:=Nf PL e e'
   exact Iq (s:={ s with heap:=h₁.push (adA "list" #[_,_] 0),toks:=PA }) RF RI W5 SQ Sg RS VR Za K1 K2 QK
end
section
variable {α:bC}{h₀ h h':Heap}{L:Addr}{m:Str->Option aab}{st:MS}{φ:bk}{news:aO}
theorem Sn.cellSet {c:Addr}{o o':Obj}{R1:Option aab}(S:Sn α h₀ L m h st φ news)(hm:(c,o)∈news)(hd:o.data=.cell R1)(ht:c≠α.tab)(hf:c ∉ bq φ)(ST:h'.get? c=some o')(hs:adf c h h') :
  Sn α h₀ L m h' st φ (upd news c o')/\a9 [α.tab,c] φ news φ (upd news c o'):=by
 have SD:∀its,o≠bz its:=λits e=>by rw [e] at hd; cases hd
 have g:a9 [α.tab,c] φ news φ (upd news c o'):=.upd S.W.nodup hm SD (.inr (.tail _ (.head _)))
 refine⟨⟨S.F.change hs (S.N _ hm).2.1 (S.N _ hm).2.2,News.upd S.N hm hs ST,by rw [mY]; exact S.W.nodup,S.W.len,S.W.apart,λj z hj=>?_,?_⟩,g⟩
 ·obtain⟨a,d,e,q⟩:=S.W.objs j z hj
  have ff:=iC e
  exact⟨a,d,e,q.upd S.W.nodup hm SD (λe=>hf (e ▸ ff.1)) (λe=>hf (e ▸ ff.2))⟩
 ·obtain⟨ps,hp,q,k⟩:=S.W.tabs
  refine⟨ps,dR hp (aec ht),q,λc' R8=>?_⟩
  obtain⟨oc,h1,h2,h3⟩:=k c' R8
  refine⟨oc,dR h1 λe=>?_,h2,h3⟩
  have e':c'=c:=e
  subst e'
  obtain rfl:=eJ S.W.nodup h1 hm
  obtain⟨⟨_,vs,hv⟩,_⟩:=h3
  rw [hd] at hv; cases hv
theorem Sn.tabSet {ps Qi:Array aab}{c':Addr}{oc:Obj}(S:Sn α h₀ L m h st φ news)(hm:(α.tab,adk ps)∈news)(F:Fr h₀ L h' m)(N:News h₀ L h' ((c',oc)::upd news α.tab (adk Qi)))(hc:∀p∈news,p.1≠c')(hg:α.GT Qi)(Uk:pR oc)(YU:α.GO oc)(Tm:∀c,aeD c∈Qi.toList->c=c') :
  Sn α h₀ L m h' st φ ((c',oc)::upd news α.tab (adk Qi))/\a9 [α.tab] φ news φ ((c',oc)::upd news α.tab (adk Qi)):=by
 have SD:∀its,adk ps≠bz its:=λits e=>by cases e
 have g:a9 [α.tab] φ news φ (upd news α.tab (adk Qi)):=.upd S.W.nodup hm SD (.inr (.head _))
 have g2:a9 [α.tab] φ (upd news α.tab (adk Qi)) φ ((c',oc)::upd news α.tab (adk Qi)):=.led λp hp=>.tail _ hp
 have P6:∀p∈upd news α.tab (adk Qi),p.1≠c':=λp hp=>by
  rcases yp hp with ⟨rfl,_⟩ | ⟨hp,_⟩
  ·exact hc (α.tab,adk ps) hm
  ·exact hc p hp
 have X8:c' ∉ bq φ:=S.notFoot hc
 have Z6:α.tab ∉ bq φ:=λq=>by
  unfold bq at q
  refine bv λGG PD=>?_
  obtain⟨p,hp,hq⟩:=adu.mp q
  obtain⟨i,hi,e⟩:=aex.mp hp
  have PP:φ[i]?=some p:=by rw [aa9 hi,e]
  have W4:i < st.length:=S.W.len ▸ hi
  obtain⟨mo,hmo⟩:∃mo,st[i]?=some mo:=⟨_,aa9 W4⟩
  obtain⟨a,d,e',r⟩:=S.W.objs i mo hmo
  refine PD ?_
  rw [PP] at e'
  obtain rfl:p=(a,d):=abi e'
  have key:∀x ox,(x,ox)∈news->(∀ps,ox≠adk ps)->x≠α.tab:=λx ox hx hn e=>hn _ (eJ S.W.nodup (e ▸ hx) hm)
  have SW:α.tab=a\/α.tab=d:=by simpa using hq
  cases mo with
  | list xs=>obtain⟨rfl,its,n,h1,_⟩:=r; exact key _ _ h1 uU (SW.elim ajj ajj)
  | inst cc fs=>obtain⟨h1,hf,es,n,h2,_⟩:=r; exact SW.elim (λe=>key _ _ h1 (λps e=>by cases e) e.symm) (λe=>key _ _ h2 (λps e=>by cases e) e.symm)
  | dict fs ep=>obtain⟨rfl,_,o,kvs,h1,⟨es,_,Qn,_⟩,_⟩:=r; exact key _ _ h1 (λps e=>by rw [e] at Qn; cases Qn) (SW.elim ajj ajj)
 have W1:Wd α st φ (upd news α.tab (adk Qi))->Wd α st φ ((c',oc)::upd news α.tab (adk Qi)):=λW=>W.more P6
 refine⟨⟨F,N,?_,S.W.len,S.W.apart,λj z hj=>?_,⟨Qi,.tail _ (ip hm),hg,λc hcc=>?_⟩⟩,g.trans g2⟩
 ·rw [abg,abV,mY]
  exact⟨λhq=>by obtain⟨p,hp,e⟩:=c8 hq; exact hc p hp e,S.W.nodup⟩
 ·obtain⟨a,d,e,q⟩:=S.W.objs j z hj
  have ff:=iC e
  exact⟨a,d,e,(q.upd S.W.nodup hm SD (λe=>Z6 (e ▸ ff.1)) (λe=>Z6 (e ▸ ff.2))).mono (aaf _) λp hp=>.tail _ hp⟩
 ·rw [Tm c hcc]
  exact⟨oc,.head _,X8,Uk,YU⟩
end
section
variable {M:ah2}{A:abt}{E:aab->aah->Prop}{s:aah}{name qual:Str}{params:adC}{body:Expr}{scope:abJ}{env:Env}{c P L:Addr}{ps:Array aab}{pos:Pos}{UI:Nat}{mg mb m:Str->Option aab}
 {h₀:Heap} {news:aO} {q:Str×Addr} {r:List (Str×Addr)} {Q:aab->aah->Prop} {p:ade} {loose:List Str} {mean:ajd->Option aab}
theorem Ba (F:Fr h₀ L s.heap m)(T:Top p loose mean mg mb h₀)(hP:s.heap.get? P=some (adk ps))(hP0:h₀.get? P=none):aai≠P/\s.heap.BuiltinsAt mg P:=by
 have hgs:=T.g.keeps F.keep
 refine bv λGG PD=>?_
 obtain⟨bm,ob,b1,b2,b3,b4,b5,b6⟩:=T.bmain
 refine PD ?_
 have YS:aai≠P:=λq=>by
  refine bv λGG PD=>?_
  obtain⟨o,es,ep,e,hd,_⟩:=hgs
  refine PD ?_
  rw [q,hP] at e; cases e; cases hd
 have hbP:bm≠P:=λq=>by
  have e:=F.keep _ _ b3
  rw [q,hP] at e; cases e; cases b4
 have hbG:bm≠aai:=λq=>by
  refine bv λGG PD=>?_
  obtain⟨o,es,ep,e,hd,_⟩:=T.g
  refine PD ?_
  rw [q,e] at b3; cases b3; rw [hd] at b6; cases b6
 exact⟨YS,⟨bm,ob,b1,b2,hbG,hbP,F.keep _ _ b3,b4,b5,b6⟩⟩
theorem HV (F:Fr h₀ L s.heap m)(T:Top p loose mean mg mb h₀)(Q5:agt scope env=pure (q::r))(ac5:env.globals=aai)(aa5:env.code=.ref c)(C:ajk h₀ c P)(hP:s.heap.get? P=some (adk ps))(hP0:h₀.get? P=none)(ht:TriplesOk ps.toList)
  (hnf:codeAmong pos ps.toList=none)
  (h:∀c' oc SX h' tk vs t,afi P s.heap h'->s.heap.objs.size<=c'->c' < h'.objs.size->h'.get? c'=some oc->oc.cls=.type "code"->oc.data=.fields vs->vs[1]?=some (.str qual t)->h'.get? P=some (adk (ps++#[adO pos.line,adO pos.col,.ref c'])) ->
   Q (.ref h'.objs.size) { s with heap:=h'.push (aiX name qual params body scope (q::r) ((mg "__name__").getD .none) c' SX),toks:=tk }) :
  wpAny M A (makeFunction name qual params (.expr body) scope env [] [] [] pos UI) Q E s:=by
 refine bv λGG PD=>?_
 obtain⟨YS,bm,ob,hbm,acC,_,ac0,hbo,XC,Wm,aa1⟩:=Ba F T hP hP0
 refine PD ?_
 have hg:=T.g.keeps F.keep
 have C':=C.keeps F.keep
 rw [makeFunction_eq]
 simp only [List.zip_nil_right,List.filterMap_nil,af0,if_true,pure_bind]
 show wpAny M A (makeTail name qual params (.expr body) scope env .none .none none pos UI) Q E s
 unfold makeTail
 rw [Q5,ac5]
 refine aac (aa8 ?_)
 simp only [agJ,ab2,if_false]
 refine aac (wpAny_newTextTuple ?_)
 refine aac (wpAny_functionCodeX aa5 ((C'.keeps λb o e=>aak _ e).code (aak _ hP) ht) ((C'.keeps λb o e=>aak _ e).tab (aak _ hP)) hnf λc' h' tk hx Rt PR _ acB Z3 Qy=>?_)
 have hg':=(hg.push _).extBut hx YS
 have Rf:afi P s.heap h':=λb o V3 e=>hx b o V3 (aak _ e)
 have WM:s.heap.objs.size<=c':=aaj (by rw [adM]; walk_at "o") Rt
 obtain⟨R4,oc,vs,t,e2,V4,hd,hv⟩:=acB
 cases e2
 refine bv λGG PD=>?_
 obtain⟨P',_,_,⟨o2,vs2,e1,e2,e3,e4⟩,_⟩:=Qy
 refine PD ?_
 rw [V4] at e1
 obtain rfl:=abi e1
 refine aac (wpAny_builtinsFor hg' hbm acC (Rf _ _ ac0 hbo) XC Wm aa1 ?_)
 refine aac (wpAny_nsGet hg' ?_)
 exact aac (aa8 (adZ (h c' oc _ h' tk vs t Rf WM PR V4 e2 hd hv Z3.2) (by size_fits)))
end
noncomputable abbrev vf:abJ:={ kind:=.function,names:=[(("node":Str),.local),(("known":Str),.free)],isGenerator:=false,isCoroutine:=false,more:=[] }
noncomputable abbrev yP (p4:Pos):adC:={ posonlyargs:=[],args:=[{ arg:=("node":Str),annotation:=none,pos:=p4 }],vararg:=none,kwonlyargs:=[],kw_defaults:=[],kwarg:=none,defaults:=[] }
noncomputable abbrev yi (p1 p2 p3:Pos):Expr:=.Subscript (.Name ("known":Str) p1) (.Name ("node":Str) p2) p3
theorem AK:(("node":Str) == ("__debug__":Str))=false:=by decide +kernel
theorem zz:(("known":Str) == ("__debug__":Str))=false:=by decide +kernel
section
variable {α:bC}{ℓ:Nat}{A:abt}{h₀:Heap}{L f c c' D:Addr}{m:Str->Option aab}{news:aO}
theorem Mi {name qual:Str}{p1 p2 p3 p4:Pos}{pm SX k:aab}{i:Int}{kvs:List (Int×aab)}{od occ oc:Obj}{vs:Array aab}{t:Tok}(C:Cf α ℓ A h₀ L)(hf:(f,aiX name qual (yP p4) (yi p1 p2 p3) vf [(("known":Str),c)] pm c' SX)∈news)
  (R8:(c',oc)∈news) (Qn:oc.data=.fields vs) (hv:vs[1]?=some (.str qual t)) (QB:(c,occ)∈news) (Uk:occ.data=.cell (some (.ref D))) (hD:(D,od)∈news) (RQ:od.IsDictOf (ado α.prog α.w) kvs) (hk:aeT kvs i=some k) :
  mw α.prog α.w A.in1.in1 h₀ L m news f i k:=by
 intro tk s Pu F N sub Q E P
 refine C.frC λA₀ outer Ql B hA UH RW=>?_
 have Uj:A.in1.in1.depth < afu:=by
  have:=C.depth
  show A.depth < _
  walk_at "o"
 refine aey (kla_code (A₀:=A₀) (base:=α.hB) (outer:=outer) (env:=Ql) (K:=α.K) (p:=α.p) (loose:=α.loose) (mean:=α.mean) (mg:=α.mg) (mb:=α.mb) (binds:=[(("node":Str),.int i tk)])
  B F C.X N C.T hA UH RW (sub _ hf) ⟨c',oc,vs,t,rfl,(N _ (sub _ R8)).1,Qn,hv⟩ Uj rfl (by intro y hy; rw [cr hy]; rfl) (λg L' h₁ FG F' N' B' X' T'=>?_) rfl rfl rfl (by decide))
 have NG:∀p∈Pu,h₁.get? p.1=some p.2:=λp hp=>(N' p hp).1
 refine aid (agl (wpAny_loadName_free rfl rfl rfl ⟨occ,NG _ (sub _ QB),Uk⟩ ?_) zz)
 refine agl (aew rfl rfl F'.ns (v:=.int i tk) (by simp) ?_) AK
 obtain⟨ep,hat⟩:=(agb.mpr ⟨od,NG _ (sub _ hD),RQ⟩:h₁.DictOf (ado α.prog α.w) D kvs).dictAt
 have hM:=hat.dictOf.mapOf
 refine agr hM.typeIs slot_dict_getitem.lookup (wpAny_getItem_of (knd:=ado α.prog α.w) (afZ _ _ _ _) hM hk ?_) rfl
 exact⟨L',_,Pu,F',N',λQO QM=>P h₁ _ QO QM⟩
end
inductive uc:List (Int×MV)->List Int->Prop
 | zero:uc [] []
 | one {a:Int} {V:MV}:uc [(a,V)] [a]
 | two {a b:Int} {ps qs:List MV} {ns ms:List Int} (QP:a≠b) (h1:fD ps=some ns) (h2:fD qs=some ms) (n1:ns≠[]) (n2:ms≠[]):uc [(a,.tup ps),(b,.tup qs)] (if df ms ns=true then [b,a] else [a,b])
def Cs (te:TE):TS:=λρ st Q=>CE 1 [0] (b9 (af 1)) (b8 0) 0 te ρ st λys Ps=>∃rs,uc ys rs/\Q (.ret (.ref Ps.length)) [none,none,none] (Ps++[.list (rs.map .int)])
section
variable {M:ah2}{A:abt}{E:aab->aah->Prop}{s:aah}{env:Env}
theorem Nk {func:Expr}{args:List Expr}{Yn:List Keyword}{pos:Pos}{Q:aab->aah->Prop}
  (h:wpAny M A (eval func env) (λf P0=>wpAny M A (ai2 pos f [] (agm pos (ack args env)) (backToKw pos (aiN Yn env))) Q E P0) E s)
  (he:autoParam (eval (.Call func args Yn pos) env=(do ai2 pos (<- eval func env) [] (agm pos (ack args env)) (backToKw pos (aiN Yn env)))) aR) :
  wpAny M A (eval (.Call func args Yn pos) env) Q E s:=by
 rw [he]; exact aac h
theorem DY {c:Addr}(hc:env.cells.lookup ("known":Str)=some c):agt vf env=pure [(("known":Str),c)]:=by
 unfold agt
 simp only [ahg,List.forIn_nil]
 unfold cellOf
 rw [hc]
 rfl
end
section
variable {α:bC}{ℓ:Nat}{sc scope:abJ}{slots:List Str}{h₀:Heap}{L:Addr}{m:Str->Option aab}{st:MS}{φ PG:bk}{news Pu:aO}{env:Env}
theorem dT.cellTo {c:Addr}{o o':Obj}{v:Option aab}(O:dT α slots env L φ news)(ht:c≠α.tab)(hf:c ∉ bq φ)(hm:(c,o)∈news)(hd:o'.data=.cell v):dT α slots env L φ (upd news c o'):=by
 refine⟨O.nodup,O.loc,O.kinds,λy hy=>?_,O.inj,λp hp=>?_⟩
 ·obtain⟨R4,Rg,XJ,Sk,Um,SJ,SL,Wp⟩:=O.cells y hy
  by_cases e:R4=c
  ·subst e; exact⟨R4,o',v,Sk,Um,SJ,ip hm,hd⟩
  ·exact⟨R4,Rg,XJ,Sk,Um,SJ,dR SL e,Wp⟩
 ·obtain⟨TX,aaG⟩:=O.all p hp
  by_cases e:p.2=c
  ·exact⟨o',by rw [e]; exact ip hm⟩
  ·exact⟨TX,dR aaG e⟩
theorem z4 {hB:Heap}{ps:List MV}{ns:List Int}{v:aab}(h:RV hB news φ (.tup ps) v)(e:fD ps=some ns)(hn:ns≠[])(hs:hB.StaysIn h₀):qh h₀ news v ns:=by
 apply RV.t h; intro x its hx q
 exact⟨x,its,rfl,hx.imp id λe=>hs _ _ e,qc q e,hn⟩
end
noncomputable abbrev ua:List Str:=[("tree":Str),("nodes":Str),("known":Str)]
section
variable {α:bC}{ℓ:Nat}{sc scope:abJ}
structure Gi (α:bC)(lp:Pos):Prop where
 code:∀h,α.more h->ajk h 140 α.tab
 gt:∀ps,α.GT ps↔(ps=#[]\/∃c,ps=#[adO lp.line,adO lp.col,.ref c])
 go:∀o,α.GO o↔∃vs t,o.data=.fields vs/\vs[1]?=some (.str ("in_order.<locals>.<lambda>":Str) t)
theorem Jp {A:abt}{h₀:Heap}{L c:Addr}{m:Str->Option aab}{st:MS}{φ:bk}{news:aO}{env:Env}{s:aah}{p1 p2 p3 p4 lp:Pos}{Q E:aab->aah->Prop}(X:Gi α lp)(C:Cf α ℓ A h₀ L)(Rt:env.globals=aai)(UR:env.code=.ref 140)(hq:env.qual=("in_order":Str)++(".<locals>.":Str)) (hc:env.cells.lookup ("known":Str)=some c) (S:Sn α h₀ L m s.heap st φ news)
  (P:∀f c' oc pm SX vs t Pu h' PV,Sn α h₀ L m h' st φ Pu->a9 [α.tab] φ news φ Pu->(f,aiX ("<lambda>":Str) ("in_order.<locals>.<lambda>":Str) (yP p4) (yi p1 p2 p3) vf [(("known":Str),c)] pm c' SX)∈Pu->(c',oc)∈Pu->oc.data=.fields vs->vs[1]?=some (.str ("in_order.<locals>.<lambda>":Str) t)->Q (.ref f) { s with heap:=h',toks:=PV }) :
  wpAny (abb α.prog α.w) A (eval (.Lambda (yP p4) (yi p1 p2 p3) vf lp) env) Q E s:=by
 obtain⟨ps,Su,hgt,aaW⟩:=S.W.tabs
 have Q5:=DY hc
 have T:=C.T
 have Cd:=X.code _ C.ok.M
 have X6:ajk h₀ 140 α.tab:=Cd.keeps C.stays
 have hm:=S.N _ Su
 have aaY:env.qual++("<lambda>":Str)=("in_order.<locals>.<lambda>":Str):=by rw [hq]; decide +kernel
 refine kla_eval rfl ?_
 rw [aaY]
 rcases (X.gt _).mp hgt with rfl | ⟨c',rfl⟩
 ·refine HV S.F T Q5 Rt UR X6 hm.1 hm.2.2 (by simp [TriplesOk]) (by simp [codeAmong]) λc' oc SX h' tk vs t hx WM PR V4 XC Qn hv Z3=>?_
  have hLs:L < s.heap.objs.size:=S.F.ns.lt
  have hLc:L < c':=abG hLs WM
  have Qp:∀b o,h₀.get? b=some o->h'.get? b=some o:=λb o e=>hx b o (λq=>by rw [q,hm.2.2] at e; cases e) (S.F.keep b o e)
  have fresh:∀b,L < b->h₀.get? b=none:=λb hb=>adX (aaj S.F.above (adi hb))
  have hnc:∀p∈news,p.1≠c':=λp hp=>abc (abG (abk (S.N p hp).1) WM)
  have Qx:Fr h₀ L h' m:=⟨S.F.ns.extBut hx hm.2.1.symm,Qp,S.F.above⟩
  have QU:News h₀ L h' ((c',oc)::upd news α.tab (adk (#[]++#[adO lp.line,adO lp.col,.ref c']))):=λq SW=>by
   rcases bM SW with rfl | SW
   ·exact⟨V4,abT hLc,fresh _ hLc⟩
   ·rcases yp SW with ⟨rfl,_⟩ | ⟨SW,hn⟩
    ·exact⟨Z3,hm.2⟩
    ·exact⟨hx _ _ hn (S.N q SW).1,(S.N q SW).2⟩
  obtain⟨Pv,Py⟩:=S.tabSet Su Qx QU hnc ((X.gt _).mpr (.inr ⟨c',by simp⟩)) ⟨XC,vs,Qn⟩ ((X.go _).mpr ⟨vs,t,Qn,hv⟩) (λc hc=>by simpa [adO] using hc)
  obtain⟨PF,PH⟩:=Pv.entry (D:=h'.objs.size) (Qx.push _) (aiK Qx QU (aiX ("<lambda>":Str) ("in_order.<locals>.<lambda>":Str) (yP p4) (yi p1 p2 p3) vf [(("known":Str),c)] ((α.mg "__name__").getD .none) c' SX)) (Pv.lt)
  exact P h'.objs.size c' oc _ SX vs t _ _ tk PF (Py.trans PH) (.head _) (.tail _ (.head _)) Qn hv
 ·obtain⟨oc,V4,_,_,YU⟩:=aaW c' (by simp)
  obtain⟨vs,t,Qn,hv⟩:=(X.go _).mp YU
  obtain⟨_,hb⟩:=Ba S.F T hm.1 hm.2.2
  refine kla_makeFunctionHit (mg:=α.mg) Q5 Rt (T.g.keeps S.F.keep) UR (X6.keeps S.F.keep) hm.1 (by simp [TriplesOk,adO]) (cv:=.ref c') (by simp [codeAmong,adO]) hb λSX h' tk hk hsz=>?_
  have Qx:Fr h₀ L h' m:=S.F.keeps hk
  have QU:News h₀ L h' news:=λp hp=>⟨hk _ _ (S.N p hp).1,(S.N p hp).2⟩
  have Pv:Sn α h₀ L m h' st φ news:=⟨Qx,QU,S.W⟩
  obtain⟨PF,PH⟩:=Pv.entry (D:=h'.objs.size) (Qx.push _) (aiK Qx QU (aiX ("<lambda>":Str) ("in_order.<locals>.<lambda>":Str) (yP p4) (yi p1 p2 p3) vf [(("known":Str),c)] ((α.mg "__name__").getD .none) c' SX)) (Pv.lt)
  exact P h'.objs.size c' oc _ SX vs t _ _ tk PF PH (.head _) (.tail _ V4) Qn hv
end
theorem NK {a b:Int}{v u:aab}:aeT [(a,v),(b,u)] a=some v:=by simp [aeT]
theorem NF {a b:Int}{v u:aab}(h:a≠b):aeT [(a,v),(b,u)] b=some u:=by simp [aeT,h]
theorem N4 {a:Int}{v:aab}:aeT [(a,v)] a=some v:=by simp [aeT]
section
variable {α:bC}{ℓ:Nat}{sc scope:abJ}
theorem Ml {A:abt}{h₀:Heap}{L:Addr}{m:Str->Option aab}{n:aO}{φ:bk}{f:Addr}{ys:List (Int×MV)}{rs:List Int}{kvs:List (Int×aab)}(Zr:uc ys rs)(kv:jO α.hB n φ ys kvs)(hs:α.hB.StaysIn h₀)
  (VM:∀i k,aeT kvs i=some k->mw α.prog α.w A h₀ L m n f i k):mE α.prog α.w A h₀ L m n f kvs rs:=by
 cases Zr with
 | zero=>cases kv; exact .zero
 | one =>
  cases kv with | cons r1 kv =>
  cases kv
  exact .one (VM _ _ N4)
 | two QP i1 i2 e1 e2 =>
  cases kv with | cons r1 kv =>
  cases kv with | cons r2 kv =>
  cases kv
  exact .two (VM _ _ NK) (VM _ _ (NF QP)) (z4 r1 i1 e1 hs) (z4 r2 i2 e2 hs)
theorem Ln {vx:Expr}{te:TE}{p1 p2 p3 p4 lp q1 q2 q3 q4 q5 q6 q7 q8 q9 q10 q11:Pos}(K:f6 α ℓ sc scope ua [("node":Str)] [("tree":Str)] [0] (.Name ("node":Str) q1) [] vx (b8 0) dZ te) (X:Gi α lp) (nbs:nsIn α.K aai ("sorted":Str)=some none)
  (hx:sc.names.lookup ("sorted":Str)=some .globalImplicit) (Tj:sc.names.lookup ("known":Str)=some .cell) :
  BS α ℓ sc ua [.Assign [.Name ("known":Str) q2] (.DictComp (.Name ("node":Str) q3) vx [⟨.Name ("node":Str) q1,.Name ("nodes":Str) q4,[],0⟩] scope q5) q6,
   .Return (some (.Call (.Name ("sorted":Str) q7) [.Name ("known":Str) q8] [⟨some ("key":Str),.Lambda (yP p4) (yi p1 p2 p3) vf lp,q9⟩] q10)) q11] (Cs te) ("in_order":Str) (.ref 140):=by
 intro A h₀ L env C D hq UR s m st φ news ρ PB Lo O Q Qc E t P
 have hk:env.scope.kind=.function:=D.scope ▸ D.kind
 have U6:env.kindOf ("known":Str)=some .cell:=by unfold ab9; rw [D.scope]; exact Tj
 have WY:∀v:Expr,aen (.DictComp (.Name ("node":Str) q3) vx [⟨.Name ("node":Str) q1,.Name ("nodes":Str) q4,[],0⟩] scope q5) (some (.Name ("known":Str) q2)) q6.line env=pure false:=λ_=>by
  have Q5:(NameKind.cell == NameKind.local)=false:=rfl
  unfold aen
  simp [U6,Q5]
 refine abY (afx ?_ (WY vx))
 refine F9 (iter:=.Name ("nodes":Str) q4) K (bU (aa.loc (i:=1) rfl)) rfl AK (λ_ _=>rfl) (λ_ _=>rfl) C D PB Lo t λDa od ys kvs Pt Px PC h₁ PA acW Pv hDf RQ Py aaA Pw=>?_
 refine bv λGG PD=>?_
 obtain⟨rs,Zr,Pw⟩:=Pw
 obtain⟨c,oc0,R1,hc,VT,X8,V5,Yd⟩:=O.cells _ U6
 refine PD ?_
 have QH:=O.grow Py
 have Th:(c,oc0)∈PC:=Py.kept _ V5 X8 (by simpa using VT)
 have VD:c ∉ bq Px:=λq=>X8 (Py.fresh _ V5 q)
 have acu:∀p∈PC,p.1≠Da:=λp hp e=>by
  have:=Pv.W.nodup
  rw [abg,abV] at this
  exact this.1 (e ▸ ed ⟨p,hp,rfl⟩)
 have hDc:Da≠c:=λe=>acu _ Th e.symm
 have gD:a9 [α.tab] Px PC Px ((Da,od)::PC):=.led λp hp=>.tail _ hp
 have Q3:=QH.grow gD
 refine ahB hk U6 hc ⟨oc0,Pv.N.get (.tail _ Th),Yd⟩ λPM hv hs=>?_
 obtain⟨UM,acI,Xt⟩:=hv
 obtain⟨PF,PH⟩:=Pv.cellSet (.tail _ Th) Yd VT VD acI hs
 have Sv:=Q3.cellTo (o':=UM) VT VD (.tail _ Th) Xt
 have Wv:(Da,od)∈upd ((Da,od)::PC) c UM:=dR (.head _) hDc
 have Wu:(c,UM)∈upd ((Da,od)::PC) c UM:=ip (.tail _ Th)
 have Yq:a9 (ft α env) Px ((Da,od)::PC) Px (upd ((Da,od)::PC) c UM):=PH.wide λx hx=>by
  rcases bM hx with rfl | hx
  ·exact .head _
  ·rw [cr hx]; exact .tail _ (ed ⟨_,dO hc,rfl⟩)
 have Yy:=(aaA.mono gD).mono PH
 generalize upd ((Da,od)::PC) c UM=PS at PF PH Sv Wv Wu Yq Yy
 refine abY (afw ?_)
 refine Nk (fv C D PF.F nbs (v:=.builtin "sorted") (by decide +kernel) (by decide +kernel) ?_ hx (by decide +kernel))
 refine callWith_kw ?_
 refine aeE (he:=rfl) (agl (ahQ hk U6 hc ⟨UM,PF.N.get Wu,Xt⟩ ?_) zz)
 refine ahw ?_
 refine kws_cons (Jp X C D.glob UR hq hc (s:={ s with heap:=PM,toks:=PA }) PF λf c' oc pm SX vs t Qq P2 P7 P3 Qe mf mc' Qn hvs=>?_)
 refine kws_nil ?_
 have XX:(Da,od)∈Qq:=Qe.kept _ Wv hDf (λq=>by
  have q':Da=α.tab:=cr q
  refine bv λGG PD=>?_
  obtain⟨ps,Su,_⟩:=PF.W.tabs
  have:=eJ PF.W.nodup Wv (q' ▸ Su)
  obtain⟨es,ep,_,hd,_⟩:=RQ
  refine PD ?_
  rw [this] at hd; cases hd)
 have aaH:(c,UM)∈Qq:=Qe.kept _ Wu VD (by simpa using VT)
 have aaP:=Yy.mono Qe
 have VM:∀i k,aeT kvs i=some k->mw α.prog α.w A.in1.in1 h₀ L m Qq f i k:=λi k hik=>Mi C mf mc' Qn hvs aaH Xt XX RQ hik
 have ord:mE α.prog α.w A.in1.in1 h₀ L m Qq f kvs rs:=Ml Zr aaP C.stays VM
 refine Dk (s:={ s with heap:=P2,toks:=P7 }) P3.F P3.N C.hand XX RQ acW ord λD2 QN Sl out afc TJ TR P6 hI=>?_
 obtain⟨R6,Rn⟩:=P3.newList TJ TR P6 (tP hI)
 have U2:=(Sv.grow Qe).grow Rn
 refine P (.ret _) (.ret _) [none,none,none] _ _ _ m QN Sl R6 (λi x V hx hV=>?_) U2 ((((dE Py).trans (dE gD)).trans Yq).trans (dE (Qe.trans Rn))) (.ret P3.refNew) Pw
 rcases i with _ | _ | _ | i <;> simp at hV
end
noncomputable abbrev KK (w:aaq):Frag:=hd.heap_39 w.params
noncomputable def bE (c:Addr):List Str:=if c=335 then ["kind","name","uri","local","value","parent","children","attributes","namespaces"] else if c=524 then ["rows"] else if c=313 then ["tree","node","position","size","variables","names","calls","current","ids"] else []
noncomputable abbrev Zz:=aaq×Heap×ade×List Str×(ajd->Option aab)×(Str->Option aab)×(Str->Option aab)
noncomputable def aP (z:Zz):bC:=
 ⟨agc,z.1,KK z.1,z.2.2.1,z.2.2.2.1,z.2.2.2.2.1,z.2.2.2.2.2.1,z.2.2.2.2.2.2,z.2.1,138,λps=>ps=#[]\/∃c,ps=#[adO 119,adO 29,.ref c],λo=>∃vs t,o.data=.fields vs/\vs[1]?=some (.str ("in_order.<locals>.<lambda>":Str) t),bE,λh=>ajk h 140 138⟩
noncomputable def CI (s:Stmt):adC×List Stmt×abJ:=match s with | .FunctionDef _ a b _ _ _ sc _ _ _=>(a,b,sc) | _=>(⟨[],[],none,[],[],none,[]⟩,[],default)
noncomputable def top (i:Nat):Stmt:=(PySem.Challenge.pw_on0193_01.main.body[i]?).getD (.Pass default)
noncomputable def cls (i j:Nat):Stmt:=match top i with | .ClassDef _ _ _ b _ _ _ _ _ _ _=>(b[j]?).getD (.Pass default) | _=>.Pass default
theorem DR (w:aaq):nsIn (KK w) aai ("is_space":Str)=some (some (.ref 28)):=by rfl
theorem Dg (w:aaq):abE (KK w) (.ref 28)=true:=by rfl
theorem oV (w:aaq):nsIn (KK w) aai ("space_split":Str)=some (some (.ref 35)):=by rfl
theorem pk (w:aaq):abE (KK w) (.ref 35)=true:=by rfl
theorem uu (w:aaq):nsIn (KK w) aai ("common_divisor":Str)=some (some (.ref 43)):=by rfl
theorem uM (w:aaq):abE (KK w) (.ref 43)=true:=by rfl
theorem GK (w:aaq):nsIn (KK w) aai ("sign_of":Str)=some (some (.ref 50)):=by rfl
theorem Fk (w:aaq):abE (KK w) (.ref 50)=true:=by rfl
theorem eu (w:aaq):nsIn (KK w) aai ("number_of":Str)=some (some (.ref 58)):=by rfl
theorem ey (w:aaq):abE (KK w) (.ref 58)=true:=by rfl
theorem zL (w:aaq):nsIn (KK w) aai ("is_nan":Str)=some (some (.ref 65)):=by rfl
theorem zK (w:aaq):abE (KK w) (.ref 65)=true:=by rfl
theorem FD (w:aaq):nsIn (KK w) aai ("negated":Str)=some (some (.ref 72)):=by rfl
theorem Gy (w:aaq):abE (KK w) (.ref 72)=true:=by rfl
theorem LV (w:aaq):nsIn (KK w) aai ("plus":Str)=some (some (.ref 79)):=by rfl
theorem KZ (w:aaq):abE (KK w) (.ref 79)=true:=by rfl
theorem qM (w:aaq):nsIn (KK w) aai ("digits_end":Str)=some (some (.ref 86)):=by rfl
theorem qW (w:aaq):abE (KK w) (.ref 86)=true:=by rfl
theorem Gj (w:aaq):nsIn (KK w) aai ("trimmed":Str)=some (some (.ref 93)):=by rfl
theorem Gc (w:aaq):abE (KK w) (.ref 93)=true:=by rfl
theorem Eb (w:aaq):nsIn (KK w) aai ("whole_of":Str)=some (some (.ref 100)):=by rfl
theorem Ds (w:aaq):abE (KK w) (.ref 100)=true:=by rfl
theorem yu (w:aaq):nsIn (KK w) aai ("read_number":Str)=some (some (.ref 107)):=by rfl
theorem yw (w:aaq):abE (KK w) (.ref 107)=true:=by rfl
theorem Ah (w:aaq):nsIn (KK w) aai ("lines_down":Str)=some (some (.ref 122)):=by rfl
theorem An (w:aaq):abE (KK w) (.ref 122)=true:=by rfl
theorem yS (w:aaq):nsIn (KK w) aai ("place_among":Str)=some (some (.ref 129)):=by rfl
theorem yC (w:aaq):abE (KK w) (.ref 129)=true:=by rfl
theorem DT (w:aaq):nsIn (KK w) aai ("place_of":Str)=some (some (.ref 136)):=by rfl
theorem Ee (w:aaq):abE (KK w) (.ref 136)=true:=by rfl
theorem Dl (w:aaq):nsIn (KK w) aai ("in_order":Str)=some (some (.ref 141)):=by rfl
theorem Dy (w:aaq):abE (KK w) (.ref 141)=true:=by rfl
theorem GC (w:aaq):nsIn (KK w) aai ("beneath":Str)=some (some (.ref 148)):=by rfl
theorem GR (w:aaq):abE (KK w) (.ref 148)=true:=by rfl
theorem jF (w:aaq):nsIn (KK w) aai ("string_value":Str)=some (some (.ref 153)):=by rfl
theorem j6 (w:aaq):abE (KK w) (.ref 153)=true:=by rfl
theorem wL (w:aaq):nsIn (KK w) aai ("as_text":Str)=some (some (.ref 160)):=by rfl
theorem wE (w:aaq):abE (KK w) (.ref 160)=true:=by rfl
theorem gP (w:aaq):nsIn (KK w) aai ("nodes_of":Str)=some (some (.ref 211)):=by rfl
theorem gQ (w:aaq):abE (KK w) (.ref 211)=true:=by rfl
theorem wu (w:aaq):nsIn (KK w) aai ("counted":Str)=some (some (.ref 218)):=by rfl
theorem xe (w:aaq):abE (KK w) (.ref 218)=true:=by rfl
theorem zT (w:aaq):nsIn (KK w) aai ("summed":Str)=some (some (.ref 225)):=by rfl
theorem zl (w:aaq):abE (KK w) (.ref 225)=true:=by rfl
theorem tM (w:aaq):nsIn (KK w) aai ("told_node":Str)=some (some (.ref 232)):=by rfl
theorem sI (w:aaq):abE (KK w) (.ref 232)=true:=by rfl
theorem tU (w:aaq):nsIn (KK w) aai ("name_part":Str)=some (some (.ref 239)):=by rfl
theorem r0 (w:aaq):abE (KK w) (.ref 239)=true:=by rfl
theorem Ek (w:aaq):nsIn (KK w) aai ("id_texts":Str)=some (some (.ref 246)):=by rfl
theorem DK (w:aaq):abE (KK w) (.ref 246)=true:=by rfl
theorem sd (w:aaq):nsIn (KK w) aai ("elements_by_ids":Str)=some (some (.ref 253)):=by rfl
theorem rZ (w:aaq):abE (KK w) (.ref 253)=true:=by rfl
theorem x5 (w:aaq):nsIn (KK w) aai ("language_of":Str)=some (some (.ref 260)):=by rfl
theorem yN (w:aaq):abE (KK w) (.ref 260)=true:=by rfl
theorem Hc (w:aaq):nsIn (KK w) aai ("speaks":Str)=some (some (.ref 267)):=by rfl
theorem Il (w:aaq):abE (KK w) (.ref 267)=true:=by rfl
theorem ib (w:aaq):nsIn (KK w) aai ("call_of_sets":Str)=some (some (.ref 274)):=by rfl
theorem h8 (w:aaq):abE (KK w) (.ref 274)=true:=by rfl
theorem AG (w:aaq):nsIn (KK w) aai ("_law_pool":Str)=some (some (.ref 535)):=by rfl
theorem Bh (w:aaq):abE (KK w) (.ref 535)=true:=by rfl
theorem dc (w:aaq):nsIn (KK w) aai ("_law_take":Str)=some (some (.ref 542)):=by rfl
theorem dg (w:aaq):abE (KK w) (.ref 542)=true:=by rfl
theorem d3 (w:aaq):nsIn (KK w) aai ("_law_one":Str)=some (some (.ref 549)):=by rfl
theorem d4 (w:aaq):abE (KK w) (.ref 549)=true:=by rfl
theorem wU (w:aaq):nsIn (KK w) aai ("_law_element":Str)=some (some (.ref 556)):=by rfl
theorem wy (w:aaq):abE (KK w) (.ref 556)=true:=by rfl
theorem CZ (w:aaq):nsIn (KK w) aai ("_law_rows":Str)=some (some (.ref 563)):=by rfl
theorem AU (w:aaq):abE (KK w) (.ref 563)=true:=by rfl
theorem sW (w:aaq):nsIn (KK w) aai ("_law_line":Str)=some (some (.ref 570)):=by rfl
theorem tB (w:aaq):abE (KK w) (.ref 570)=true:=by rfl
theorem i0 (w:aaq):nsIn (KK w) aai ("_law_shown":Str)=some (some (.ref 575)):=by rfl
theorem i8 (w:aaq):abE (KK w) (.ref 575)=true:=by rfl
theorem oY (w:aaq):nsIn (KK w) aai ("_law_halves":Str)=some (some (.ref 580)):=by rfl
theorem oQ (w:aaq):abE (KK w) (.ref 580)=true:=by rfl
theorem u6 (w:aaq):nsIn (KK w) aai ("_law_sum":Str)=some (some (.ref 585)):=by rfl
theorem uR (w:aaq):abE (KK w) (.ref 585)=true:=by rfl
theorem yX (w:aaq):nsIn (KK w) aai ("_law_speaks":Str)=some (some (.ref 592)):=by rfl
theorem yy (w:aaq):abE (KK w) (.ref 592)=true:=by rfl
theorem r9 (w:aaq):nsIn (KK w) aai ("_law_is_refused":Str)=some (some (.ref 599)):=by rfl
theorem sB (w:aaq):abE (KK w) (.ref 599)=true:=by rfl
theorem ro (w:aaq):nsIn (KK w) aai ("_law_small_right":Str)=some (some (.ref 606)):=by rfl
theorem rJ (w:aaq):abE (KK w) (.ref 606)=true:=by rfl
theorem uH (w:aaq):nsIn (KK w) aai ("_law_ids_right":Str)=some (some (.ref 611)):=by rfl
theorem uC (w:aaq):abE (KK w) (.ref 611)=true:=by rfl
theorem sG (w:aaq):nsIn (KK w) aai ("PathFault":Str)=some (some (.ref 202)):=by rfl
theorem pI (w:aaq):nsIn (KK w) aai ("Context":Str)=some (some (.ref 313)):=by rfl
theorem pX (w:aaq):abE (KK w) (.ref 313)=true:=by rfl
theorem qw (w:aaq):aji (KK w) 313=true:=by rfl
theorem Fx (w:aaq):nsIn (KK w) aai ("NodeRow":Str)=some (some (.ref 335)):=by rfl
theorem Gq (w:aaq):abE (KK w) (.ref 335)=true:=by rfl
theorem FJ (w:aaq):aji (KK w) 335=true:=by rfl
theorem EJ (w:aaq):nsIn (KK w) aai ("Tree":Str)=some (some (.ref 524)):=by rfl
theorem EC (w:aaq):abE (KK w) (.ref 524)=true:=by rfl
theorem EM (w:aaq):aji (KK w) 524=true:=by rfl
theorem pV (w:aaq):nsIn (KK w) aai ("range":Str)=some none:=by rfl
theorem dp (w:aaq):nsIn (KK w) aai ("len":Str)=some none:=by rfl
theorem Mm (w:aaq):nsIn (KK w) aai ("abs":Str)=some none:=by rfl
theorem MN (w:aaq):nsIn (KK w) aai ("str":Str)=some none:=by rfl
theorem LZ (w:aaq):nsIn (KK w) aai ("zip":Str)=some none:=by rfl
theorem i7 (w:aaq):nsIn (KK w) aai ("isinstance":Str)=some none:=by rfl
theorem mB (w:aaq):nsIn (KK w) aai ("list":Str)=some none:=by rfl
theorem sU (w:aaq):nsIn (KK w) aai ("enumerate":Str)=some none:=by rfl
theorem ic (w:aaq):nsIn (KK w) aai ("int":Str)=some none:=by rfl
theorem M3 (w:aaq):nsIn (KK w) aai ("max":Str)=some none:=by rfl
theorem A8 (w:aaq):nsIn (KK w) aai ("sum":Str)=some none:=by rfl
theorem zS (w:aaq):nsIn (KK w) aai ("sorted":Str)=some none:=by rfl
theorem MX (w:aaq):nsIn (KK w) aai ("set":Str)=some none:=by rfl
theorem Lb (w:aaq):nsIn (KK w) aai ("dict":Str)=some none:=by rfl
theorem gW (w:aaq):abX (KK w) (.ref 313) ("__init__":Str)=some (some (.ref 289)):=by rfl
theorem g4 (w:aaq):isFn (KK w) (.ref 289)=true:=by rfl
theorem rL (w:aaq):abX (KK w) (.ref 335) ("__init__":Str)=some (some (.ref 332)):=by rfl
theorem rO (w:aaq):isFn (KK w) (.ref 332)=true:=by rfl
theorem nu (w:aaq):abX (KK w) (.ref 524) ("__init__":Str)=some (some (.ref 353)):=by rfl
theorem nc (w:aaq):isFn (KK w) (.ref 353)=true:=by rfl
theorem kg (w:aaq):abX (KK w) (.ref 524) ("new_row":Str)=some (some (.ref 360)):=by rfl
theorem j3 (w:aaq):isFn (KK w) (.ref 360)=true:=by rfl
theorem kc (w:aaq):abE (KK w) (.ref 360)=true:=by rfl
theorem cX (w:aaq):abX (KK w) (.ref 524) ("row":Str)=some (some (.ref 367)):=by rfl
theorem cW (w:aaq):isFn (KK w) (.ref 367)=true:=by rfl
theorem cU (w:aaq):abE (KK w) (.ref 367)=true:=by rfl
theorem jo (w:aaq):abX (KK w) (.ref 524) ("new_root":Str)=some (some (.ref 374)):=by rfl
theorem jk (w:aaq):isFn (KK w) (.ref 374)=true:=by rfl
theorem je (w:aaq):abE (KK w) (.ref 374)=true:=by rfl
theorem iR (w:aaq):abX (KK w) (.ref 524) ("add_child":Str)=some (some (.ref 381)):=by rfl
theorem iS (w:aaq):isFn (KK w) (.ref 381)=true:=by rfl
theorem iQ (w:aaq):abE (KK w) (.ref 381)=true:=by rfl
theorem gY (w:aaq):abX (KK w) (.ref 524) ("add_element":Str)=some (some (.ref 388)):=by rfl
theorem gU (w:aaq):isFn (KK w) (.ref 388)=true:=by rfl
theorem gX (w:aaq):abE (KK w) (.ref 388)=true:=by rfl
theorem vY (w:aaq):abX (KK w) (.ref 524) ("add_text":Str)=some (some (.ref 395)):=by rfl
theorem vV (w:aaq):isFn (KK w) (.ref 395)=true:=by rfl
theorem vS (w:aaq):abE (KK w) (.ref 395)=true:=by rfl
theorem rC (w:aaq):abX (KK w) (.ref 524) ("add_comment":Str)=some (some (.ref 402)):=by rfl
theorem rg (w:aaq):isFn (KK w) (.ref 402)=true:=by rfl
theorem rR (w:aaq):abE (KK w) (.ref 402)=true:=by rfl
theorem rS (w:aaq):abX (KK w) (.ref 524) ("element_row":Str)=some (some (.ref 416)):=by rfl
theorem rG (w:aaq):isFn (KK w) (.ref 416)=true:=by rfl
theorem rA (w:aaq):abE (KK w) (.ref 416)=true:=by rfl
theorem gf (w:aaq):abX (KK w) (.ref 524) ("set_attribute":Str)=some (some (.ref 423)):=by rfl
theorem gp (w:aaq):isFn (KK w) (.ref 423)=true:=by rfl
theorem f9 (w:aaq):abE (KK w) (.ref 423)=true:=by rfl
theorem jG (w:aaq):abX (KK w) (.ref 524) ("kind":Str)=some (some (.ref 444)):=by rfl
theorem jZ (w:aaq):isFn (KK w) (.ref 444)=true:=by rfl
theorem jD (w:aaq):abE (KK w) (.ref 444)=true:=by rfl
theorem sr (w:aaq):abX (KK w) (.ref 524) ("name":Str)=some (some (.ref 451)):=by rfl
theorem r8 (w:aaq):isFn (KK w) (.ref 451)=true:=by rfl
theorem s8 (w:aaq):abE (KK w) (.ref 451)=true:=by rfl
theorem DN (w:aaq):abX (KK w) (.ref 524) ("uri":Str)=some (some (.ref 458)):=by rfl
theorem Dd (w:aaq):isFn (KK w) (.ref 458)=true:=by rfl
theorem DC (w:aaq):abE (KK w) (.ref 458)=true:=by rfl
theorem z8 (w:aaq):abX (KK w) (.ref 524) ("local":Str)=some (some (.ref 465)):=by rfl
theorem Ap (w:aaq):isFn (KK w) (.ref 465)=true:=by rfl
theorem Af (w:aaq):abE (KK w) (.ref 465)=true:=by rfl
theorem lX (w:aaq):abX (KK w) (.ref 524) ("value":Str)=some (some (.ref 472)):=by rfl
theorem lP (w:aaq):isFn (KK w) (.ref 472)=true:=by rfl
theorem lZ (w:aaq):abE (KK w) (.ref 472)=true:=by rfl
theorem pq (w:aaq):abX (KK w) (.ref 524) ("parent":Str)=some (some (.ref 479)):=by rfl
theorem o6 (w:aaq):isFn (KK w) (.ref 479)=true:=by rfl
theorem pi (w:aaq):abE (KK w) (.ref 479)=true:=by rfl
theorem jf (w:aaq):abX (KK w) (.ref 524) ("children":Str)=some (some (.ref 486)):=by rfl
theorem jp (w:aaq):isFn (KK w) (.ref 486)=true:=by rfl
theorem jh (w:aaq):abE (KK w) (.ref 486)=true:=by rfl
theorem lu (w:aaq):abX (KK w) (.ref 524) ("attributes":Str)=some (some (.ref 493)):=by rfl
theorem lm (w:aaq):isFn (KK w) (.ref 493)=true:=by rfl
theorem lM (w:aaq):abE (KK w) (.ref 493)=true:=by rfl
theorem s0 (w:aaq):abX (KK w) (.ref 524) ("namespaces":Str)=some (some (.ref 500)):=by rfl
theorem tV (w:aaq):isFn (KK w) (.ref 500)=true:=by rfl
theorem si (w:aaq):abE (KK w) (.ref 500)=true:=by rfl
theorem n7 (w:aaq):abX (KK w) (.ref 524) ("root_of":Str)=some (some (.ref 507)):=by rfl
theorem nH (w:aaq):isFn (KK w) (.ref 507)=true:=by rfl
theorem nZ (w:aaq):abE (KK w) (.ref 507)=true:=by rfl
theorem ce (w:aaq)(n:Str):aip (KK w) 335 n=true:=by rfl
theorem bt (w:aaq):ahN (KK w) 335=true:=by rfl
theorem eQ (w:aaq):aiL (KK w) 335=true:=by rfl
theorem eO (w:aaq):abX (KK w) (.ref 335) "__setattr__"=some (some (.builtin "object.__setattr__")):=by rfl
theorem jW (w:aaq):abX (KK w) (.ref 335) ("kind":Str)=some none:=by rfl
theorem xU {z}:du (aP z) 335 ("kind":Str):=⟨eO _,eQ _,by rfl,bt _,(show ("kind":Str)∈bE 335 by decide +kernel)⟩
theorem xq (w:aaq):abX (KK w) (.ref 335) ("name":Str)=some none:=by rfl
theorem nJ {z}:du (aP z) 335 ("name":Str):=⟨eO _,eQ _,by rfl,bt _,(show ("name":Str)∈bE 335 by decide +kernel)⟩
theorem o9 (w:aaq):abX (KK w) (.ref 335) ("uri":Str)=some none:=by rfl
theorem yc {z}:du (aP z) 335 ("uri":Str):=⟨eO _,eQ _,by rfl,bt _,(show ("uri":Str)∈bE 335 by decide +kernel)⟩
theorem mZ (w:aaq):abX (KK w) (.ref 335) ("local":Str)=some none:=by rfl
theorem vy {z}:du (aP z) 335 ("local":Str):=⟨eO _,eQ _,by rfl,bt _,(show ("local":Str)∈bE 335 by decide +kernel)⟩
theorem vI (w:aaq):abX (KK w) (.ref 335) ("value":Str)=some none:=by rfl
theorem nj {z}:du (aP z) 335 ("value":Str):=⟨eO _,eQ _,by rfl,bt _,(show ("value":Str)∈bE 335 by decide +kernel)⟩
theorem iO (w:aaq):abX (KK w) (.ref 335) ("parent":Str)=some none:=by rfl
theorem uD {z}:du (aP z) 335 ("parent":Str):=⟨eO _,eQ _,by rfl,bt _,(show ("parent":Str)∈bE 335 by decide +kernel)⟩
theorem km (w:aaq):abX (KK w) (.ref 335) ("children":Str)=some none:=by rfl
theorem rP {z}:du (aP z) 335 ("children":Str):=⟨eO _,eQ _,by rfl,bt _,(show ("children":Str)∈bE 335 by decide +kernel)⟩
theorem gm (w:aaq):abX (KK w) (.ref 335) ("attributes":Str)=some none:=by rfl
theorem pv {z}:du (aP z) 335 ("attributes":Str):=⟨eO _,eQ _,by rfl,bt _,(show ("attributes":Str)∈bE 335 by decide +kernel)⟩
theorem pj (w:aaq):abX (KK w) (.ref 335) ("namespaces":Str)=some none:=by rfl
theorem pf {z}:du (aP z) 335 ("namespaces":Str):=⟨eO _,eQ _,by rfl,bt _,(show ("namespaces":Str)∈bE 335 by decide +kernel)⟩
theorem aW (w:aaq)(n:Str):aip (KK w) 524 n=true:=by rfl
theorem ju (w:aaq):ahN (KK w) 524=true:=by rfl
theorem LH (w:aaq):aiL (KK w) 524=true:=by rfl
theorem K0 (w:aaq):abX (KK w) (.ref 524) "__setattr__"=some (some (.builtin "object.__setattr__")):=by rfl
theorem fb (w:aaq):abX (KK w) (.ref 524) ("rows":Str)=some none:=by rfl
theorem CY {z}:du (aP z) 524 ("rows":Str):=⟨K0 _,LH _,by rfl,ju _,(show ("rows":Str)∈bE 524 by decide +kernel)⟩
theorem dj (w:aaq)(n:Str):aip (KK w) 313 n=true:=by rfl
theorem bO (w:aaq):ahN (KK w) 313=true:=by rfl
theorem eP (w:aaq):aiL (KK w) 313=true:=by rfl
theorem eM (w:aaq):abX (KK w) (.ref 313) "__setattr__"=some (some (.builtin "object.__setattr__")):=by rfl
theorem eC (w:aaq):abX (KK w) (.ref 313) ("tree":Str)=some none:=by rfl
theorem wt {z}:du (aP z) 313 ("tree":Str):=⟨eM _,eP _,by rfl,bO _,(show ("tree":Str)∈bE 313 by decide +kernel)⟩
theorem jM (w:aaq):abX (KK w) (.ref 313) ("node":Str)=some none:=by rfl
theorem xp {z}:du (aP z) 313 ("node":Str):=⟨eM _,eP _,by rfl,bO _,(show ("node":Str)∈bE 313 by decide +kernel)⟩
theorem rn (w:aaq):abX (KK w) (.ref 313) ("position":Str)=some none:=by rfl
theorem rB {z}:du (aP z) 313 ("position":Str):=⟨eM _,eP _,by rfl,bO _,(show ("position":Str)∈bE 313 by decide +kernel)⟩
theorem xA (w:aaq):abX (KK w) (.ref 313) ("size":Str)=some none:=by rfl
theorem xX {z}:du (aP z) 313 ("size":Str):=⟨eM _,eP _,by rfl,bO _,(show ("size":Str)∈bE 313 by decide +kernel)⟩
theorem qa {z}:du (aP z) 313 ("variables":Str):=⟨eM _,eP _,by rfl,bO _,(show ("variables":Str)∈bE 313 by decide +kernel)⟩
theorem vP {z}:du (aP z) 313 ("names":Str):=⟨eM _,eP _,by rfl,bO _,(show ("names":Str)∈bE 313 by decide +kernel)⟩
theorem vD {z}:du (aP z) 313 ("calls":Str):=⟨eM _,eP _,by rfl,bO _,(show ("calls":Str)∈bE 313 by decide +kernel)⟩
theorem rY {z}:du (aP z) 313 ("current":Str):=⟨eM _,eP _,by rfl,bO _,(show ("current":Str)∈bE 313 by decide +kernel)⟩
theorem x3 (w:aaq):abX (KK w) (.ref 313) ("ids":Str)=some none:=by rfl
theorem yd {z}:du (aP z) 313 ("ids":Str):=⟨eM _,eP _,by rfl,bO _,(show ("ids":Str)∈bE 313 by decide +kernel)⟩
theorem xc (w:aaq):nsIn (KK w) aai ("SPACES_chars":Str)=some (some (.str (" \t\n\r":Str) 196)):=by rfl
theorem wm {α:bC}(h:α.Ok):RV α.hB [] [] (.str (" \t\n\r":Str)) (.str (" \t\n\r":Str) 196):=.str _ _
theorem md (w:aaq):nsIn (KK w) aai ("SPACES_numbers":Str)=some (some (.str (" \t\n\r":Str) 220)):=by rfl
theorem mj {α:bC}(h:α.Ok):RV α.hB [] [] (.str (" \t\n\r":Str)) (.str (" \t\n\r":Str) 220):=.str _ _
theorem zR (w:aaq):nsIn (KK w) aai ("DIGITS":Str)=some (some (.str ("0123456789":Str) 222)):=by rfl
theorem zA {α:bC}(h:α.Ok):RV α.hB [] [] (.str ("0123456789":Str)) (.str ("0123456789":Str) 222):=.str _ _
noncomputable def r5:MV:=.tup [.int 0,.int 0]
theorem Bb (w:aaq):nsIn (KK w) aai ("NAN":Str)=some (some (.ref 36)):=by rfl
theorem BH {z}(k:(aP z).Ok):RV (aP z).hB [] [] r5 (.ref 36):=.tup (.inr (k.X 36 _ rfl)) (.cons (.int _ _) (.cons (.int _ _) .nil))
noncomputable def qx:MV:=.tup [.str ("root":Str),.str ("element":Str)]
theorem FW (w:aaq):nsIn (KK w) aai ("PARENTS":Str)=some (some (.ref 318)):=by rfl
theorem F4 {z}(k:(aP z).Ok):RV (aP z).hB [] [] qx (.ref 318):=.tup (.inr (k.X 318 _ rfl)) (.cons (.str _ _) (.cons (.str _ _) .nil))
theorem jY:("new_row":Str) ∉ bE 524:=by decide +kernel
theorem cR:("row":Str) ∉ bE 524:=by decide +kernel
theorem jj:("new_root":Str) ∉ bE 524:=by decide +kernel
theorem iN:("add_child":Str) ∉ bE 524:=by decide +kernel
theorem gT:("add_element":Str) ∉ bE 524:=by decide +kernel
theorem vE:("add_text":Str) ∉ bE 524:=by decide +kernel
theorem rz:("add_comment":Str) ∉ bE 524:=by decide +kernel
theorem rI:("element_row":Str) ∉ bE 524:=by decide +kernel
theorem fY:("set_attribute":Str) ∉ bE 524:=by decide +kernel
theorem kf:("kind":Str) ∉ bE 524:=by decide +kernel
theorem s7:("name":Str) ∉ bE 524:=by decide +kernel
theorem Dw:("uri":Str) ∉ bE 524:=by decide +kernel
theorem z9:("local":Str) ∉ bE 524:=by decide +kernel
theorem lQ:("value":Str) ∉ bE 524:=by decide +kernel
theorem pn:("parent":Str) ∉ bE 524:=by decide +kernel
theorem jc:("children":Str) ∉ bE 524:=by decide +kernel
theorem lJ:("attributes":Str) ∉ bE 524:=by decide +kernel
theorem s9:("namespaces":Str) ∉ bE 524:=by decide +kernel
theorem nP:("root_of":Str) ∉ bE 524:=by decide +kernel
def bX (n:Nat)(dVs:List MV)(k:Nat)(T:TS):TP:=λVs st Q=>Vs.length=n/\T ((Vs++dVs).map some++abS k none) st (fi Q)
noncomputable abbrev cO (i:Nat):List Stmt:=(CI (top i)).2.1
noncomputable abbrev cF (i:Nat):abJ:=(CI (top i)).2.2
noncomputable abbrev ij (i j:Nat):List Stmt:=(CI (cls i j)).2.1
noncomputable abbrev ig (i j:Nat):abJ:=(CI (cls i j)).2.2
theorem br {α:bC}{ℓ:Nat}{f:Addr}{name qual:Str}{params:adC}{body:List Stmt}{scope:abJ}{dV kV Qw pm P4 ct oc:aab}{an od:Option Addr}{Ri:Array (Option aab)}{n:Nat}{ps rest:List Str}{T:TS}
  (D:u5 α f name qual params body scope dV kV Qw pm P4 ct oc an od Ri) (hb:jP α (fnOf name qual params body scope dV kV Qw pm an P4 ct) n ps []) (hT:ah α ℓ scope (ps++rest) body T)
  (PL:autoParam (n=ps.length) aR) (Qt:autoParam (ps++rest).Nodup aD) (Qz:autoParam (((ps++rest).all λx=>scope.names.lookup x == some .local)=true) aR) (QB:autoParam ((scope.names.all λx=>x.2 != .cell)=true) aR):bJ α (ℓ+1) f (bX n [] rest.length T):=
 kI (ds:=[]) (dVs:=[]) D hb PL (λ_=>.nil) Qt Qz QB hT λ_ _ _ h=>h
noncomputable abbrev Dt:List Str:=["sign"]
abbrev xD:TS:=
 (aj (aS (lO (ar (im false) (af 0) (tK (.str " \t\n\r"))) (ar g8 (af 0) (tK (.str "")))))
 az)
theorem CU {z}:ah (aP z) 0 (cF 3) Dt (cO 3) xD:=
 (ag (aE (qI (fm aa.loc (aa.glob (xc _) (wm)) mQ) (fm aa.loc aw ik)))
 ao)
def pW:TP:=bX 1 [] 0 xD
theorem En {z}:bJ (aP z) 1 28 pW:=
 br (n:=1) (ps:=["sign"]) (rest:=[]) ⟨rfl,by rfl,rfl,rfl,rfl⟩ (bL λ_ _ X=>aal rfl) CU
noncomputable abbrev yj:List Str:=["text","found","begin","place"]
abbrev nr:TS:=(aj (bW (lH (bT (ar bN (af 3) (aF dP (ad (af 0) ak)))) (lH (bT (aF pW (ad (ar aN (af 0) (af 3)) ak))) il)) (aj (bW (bT (ar (bw λa b=>decide (a > b)) (af 3) (af 2))) (aj (bY (cq .list bx (af 1) (ad (iV (af 0) (af 2) (af 3)) ak)))
 az) az)
 (aj (aX 2 (ar cM (af 3) (tK (.int 1))))
 az)) az)
 az)
abbrev q0:TS:=
 (aj (c9 [2,1] (bl (ad (be ak) (ad (tK (.int 0)) ak))))
 (aj (eS (mR (ad (ar cM (aF dP (ad (af 0) ak)) (tK (.int 1))) ak)) (b8 3) nr)
 (aj (aS (af 1))
 az)))
theorem wF {z}:ah (aP z) 1 (cF 4) yj (cO 4) q0:=
 (ag (cP (is:=[2,1]) (xs:=["found","begin"]) (aV (ac (aY ai) (ac aq ai))) (.cons (i:=2) rfl (.cons (i:=1) rfl .nil)))
 (ag (dn (mA (ac (aU (bB (dp _) (by decide +kernel) c5 (ac aa.loc ai)) aq cL) ai) (pV _)) (gk.name (i:=3)) (ag (aZ (db (eA (aC aa.loc (bB (dp _) (by decide +kernel) c5 (ac aa.loc ai)) bc) (eA (aJ.val (aa.call (DR _) (Dg _) (aM.fn (En.mono (by decide))) (ac (aa.sub aa.loc aa.loc) ai))) k8))) (ag (aZ (aC aa.loc aa.loc m4) (ag (cg (ba (k:=.list) aa.loc (ac (dl aa.loc (dz.some aa.loc) (dz.some aa.loc)) ai) cf abm abn))
 ao) ao)
 (ag (au.set (i:=2) (aU aa.loc aq cL))
 ao)) ao)
 ao))
 (ag (aE aa.loc)
 ao)))
def i6:TP:=bX 1 [] 3 q0
theorem pu {z}:bJ (aP z) 2 35 i6:=
 br (n:=1) (ps:=["text"]) (rest:=["found","begin","place"]) ⟨rfl,by rfl,rfl,rfl,rfl⟩ (bL λ_ _ X=>aal rfl) wF
noncomputable abbrev uw:List Str:=["one","other","first","second"]
abbrev rh:TB:=(bT (ar (bw λa b=>decide (a > b)) (af 3) (tK (.int 0))))
abbrev rQ:TS:=(aj (c9 [3,2] (bl (ad (af 3) (ad (ar (bh acl (λ_ b=>b≠0)) (af 2) (af 3)) ak))))
 az)
abbrev ng:TS:=
 (aj (c9 [3,2] (bl (ad (aF MG (ad (af 0) ak)) (ad (af 1) ak))))
 (aj (f8 rh rQ)
 (aj (aS (af 2))
 az)))
theorem r4 {z}:ah (aP z) 0 (cF 9) uw (cO 9) ng:=
 (ag (cP (is:=[3,2]) (xs:=["first","second"]) (aV (ac (bB (Mm _) (by decide +kernel) KS (ac aa.loc ai)) (ac aa.loc ai))) (.cons (i:=3) rfl (.cons (i:=2) rfl .nil)))
 (ag (eT (aC aa.loc aq m4) (ag (cP (is:=[3,2]) (xs:=["first","second"]) (aV (ac aa.loc (ac (aU aa.loc aa.loc jv) ai))) (.cons (i:=3) rfl (.cons (i:=2) rfl .nil)))
 ao))
 (ag (aE aa.loc)
 ao)))
def js:TP:=bX 2 [] 2 ng
theorem uI {z}:bJ (aP z) 1 43 js:=
 br (n:=2) (ps:=["one","other"]) (rest:=["first","second"]) ⟨rfl,by rfl,rfl,rfl,rfl⟩ (bL λ_ _ _ X=>aal rfl) r4
noncomputable abbrev Ge:List Str:=["number"]
abbrev zf:TS:=
 (aj (bW (bT (ar (bw λa b=>decide (a > b)) (af 0) (tK (.int 0)))) (aj (aS (tK (.int 1)))
 az) az)
 (aj (bW (bT (ar (bw λa b=>decide (a < b)) (af 0) (tK (.int 0)))) (aj (aS (io fP (tK (.int 1))))
 az) az)
 (aj (aS (tK (.int 0)))
 az)))
theorem Dv {z}:ah (aP z) 0 (cF 10) Ge (cO 10) zf:=
 (ag (aZ (aC aa.loc aq m4) (ag (aE aq)
 ao) ao)
 (ag (aZ (aC aa.loc aq lL) (ag (aE (e9 aq e8))
 ao) ao)
 (ag (aE aq)
 ao)))
def zU:TP:=bX 1 [] 0 zf
theorem Fq {z}:bJ (aP z) 1 50 zU:=
 br (n:=1) (ps:=["number"]) (rest:=[]) ⟨rfl,by rfl,rfl,rfl,rfl⟩ (bL λ_ _ X=>aal rfl) Dv
noncomputable abbrev AH:List Str:=["top","bottom","common"]
abbrev oF:TS:=
 (aj (bW (bT (ar bN (af 1) (tK (.int 0)))) (aj (aS (bl (ad (aF zU (ad (af 0) ak)) (ad (tK (.int 0)) ak))))
 az) az)
 (aj (bW (bT (ar (bw λa b=>decide (a < b)) (af 1) (tK (.int 0)))) (aj (c9 [1,0] (bl (ad (io fP (af 0)) (ad (io fP (af 1)) ak))))
 az) az)
 (aj (aX 2 (aF js (ad (af 0) (ad (af 1) ak))))
 (aj (aS (bl (ad (ar (bh af4 ur) (af 0) (af 2)) (ad (ar (bh af4 ur) (af 1) (af 2)) ak))))
 az))))
theorem rc {z}:ah (aP z) 1 (cF 11) AH (cO 11) oF:=
 (ag (aZ (aC aa.loc aq bc) (ag (aE (aV (ac (aa.call (GK _) (Fk _) (aM.fn (Fq.mono (by decide))) (ac aa.loc ai)) (ac aq ai))))
 ao) ao)
 (ag (aZ (aC aa.loc aq lL) (ag (cP (is:=[1,0]) (xs:=["top","bottom"]) (aV (ac (e9 aa.loc e8) (ac (e9 aa.loc e8) ai))) (.cons (i:=1) rfl (.cons (i:=0) rfl .nil)))
 ao) ao)
 (ag (au.set (i:=2) (aa.call (uu _) (uM _) (aM.fn (uI.mono (by decide))) (ac aa.loc (ac aa.loc ai))))
 (ag (aE (aV (ac (aU aa.loc aa.loc pD) (ac (aU aa.loc aa.loc pD) ai))))
 ao))))
def eH:TP:=bX 1 [.int 1] 1 oF
theorem gh {z}:bJ (aP z) 2 58 eH:=
 kI (n:=1) (ps:=["top","bottom"]) (rest:=["common"]) (dVs:=[.int 1]) ⟨rfl,by rfl,rfl,rfl,rfl⟩ (bL λ_ _ X=>aiY X rfl (by rfl) rfl rfl rfl) rfl (λ_=>(.cons (.int _ _) .nil)) (by decide +kernel) (by rfl) (by rfl) rc (λ_ _ _ h=>h)
def gO:TP:=bX 2 [] 1 oF
theorem pg {z}:bJ (aP z) 2 58 gO:=
 kI (n:=2) (ps:=["top","bottom"]) (rest:=["common"]) (dVs:=[]) ⟨rfl,by rfl,rfl,rfl,rfl⟩ (bL λ_ _ _ X=>aiY X rfl (by rfl) rfl rfl rfl) rfl (λ_=>.nil) (by decide +kernel) (by rfl) (by rfl) rc (λ_ _ _ h=>h)
noncomputable abbrev HT:List Str:=["a"]
abbrev CV:TS:=
 (aj (aS (lO (ar bN (ar aN (af 0) (tK (.int 1))) (tK (.int 0))) (ar bN (ar aN (af 0) (tK (.int 0))) (tK (.int 0)))))
 az)
theorem FN {z}:ah (aP z) 0 (cF 12) HT (cO 12) CV:=
 (ag (aE (qI (fm (aa.sub aa.loc aq) aq bc) (fm (aa.sub aa.loc aq) aq bc)))
 ao)
def kH:TP:=bX 1 [] 0 CV
theorem zh {z}:bJ (aP z) 1 65 kH:=
 br (n:=1) (ps:=["a"]) (rest:=[]) ⟨rfl,by rfl,rfl,rfl,rfl⟩ (bL λ_ _ X=>aal rfl) FN
noncomputable abbrev GB:List Str:=["a"]
abbrev zB:TS:=
 (aj (aS (bl (ad (io fP (ar aN (af 0) (tK (.int 0)))) (ad (ar aN (af 0) (tK (.int 1))) ak))))
 az)
theorem DQ {z}:ah (aP z) 0 (cF 13) GB (cO 13) zB:=
 (ag (aE (aV (ac (e9 (aa.sub aa.loc aq) e8) (ac (aa.sub aa.loc aq) ai))))
 ao)
def nS:TP:=bX 1 [] 0 zB
theorem GS {z}:bJ (aP z) 1 72 nS:=
 br (n:=1) (ps:=["a"]) (rest:=[]) ⟨rfl,by rfl,rfl,rfl,rfl⟩ (bL λ_ _ X=>aal rfl) DQ
noncomputable abbrev KA:List Str:=["a","b"]
abbrev Iz:TS:=
 (aj (bW (lH (bT (aF kH (ad (af 0) ak))) (lH (bT (aF kH (ad (af 1) ak))) il)) (aj (aS (tK r5))
 az) az)
 (aj (bW (dw (bT (ar bN (ar aN (af 0) (tK (.int 1))) (tK (.int 0)))) (dw (bT (ar bN (ar aN (af 1) (tK (.int 1))) (tK (.int 0)))) fU)) (aj (aS (fg (bT (ar bN (ar aN (af 0) (tK (.int 0))) (ar aN (af 1) (tK (.int 0))))) (af 0) (tK r5)))
 az) az)
 (aj (bW (bT (ar bN (ar aN (af 0) (tK (.int 1))) (tK (.int 0)))) (aj (aS (af 0))
 az) az)
 (aj (bW (bT (ar bN (ar aN (af 1) (tK (.int 1))) (tK (.int 0)))) (aj (aS (af 1))
 az) az)
 (aj (aS (aF gO (ad (ar cM (ar (bh (· * ·) acd) (ar aN (af 0) (tK (.int 0))) (ar aN (af 1) (tK (.int 1)))) (ar (bh (· * ·) acd) (ar aN (af 1) (tK (.int 0))) (ar aN (af 0) (tK (.int 1))))) (ad (ar (bh (· * ·) acd) (ar aN (af 0) (tK (.int 1))) (ar aN (af 1) (tK (.int 1)))) ak))))
 az)))))
theorem JP {z}:ah (aP z) 2 (cF 14) KA (cO 14) Iz:=
 (ag (aZ (db (eA (aJ.val (aa.call (zL _) (zK _) (aM.fn (zh.mono (by decide))) (ac aa.loc ai))) (eA (aJ.val (aa.call (zL _) (zK _) (aM.fn (zh.mono (by decide))) (ac aa.loc ai))) k8))) (ag (aE (aa.glob (Bb _) (BH)))
 ao) ao)
 (ag (aZ (db (bp (aC (aa.sub aa.loc aq) aq bc) (bp (aC (aa.sub aa.loc aq) aq bc) dh))) (ag (aE (cA (aC (aa.sub aa.loc aq) (aa.sub aa.loc aq) bc) aa.loc (aa.glob (Bb _) (BH))))
 ao) ao)
 (ag (aZ (aC (aa.sub aa.loc aq) aq bc) (ag (aE aa.loc)
 ao) ao)
 (ag (aZ (aC (aa.sub aa.loc aq) aq bc) (ag (aE aa.loc)
 ao) ao)
 (ag (aE (aa.call (eu _) (ey _) (aM.fn (pg.mono (by decide))) (ac (aU (aU (aa.sub aa.loc aq) (aa.sub aa.loc aq) fw) (aU (aa.sub aa.loc aq) (aa.sub aa.loc aq) fw) cL) (ac (aU (aa.sub aa.loc aq) (aa.sub aa.loc aq) fw) ai))))
 ao)))))
def j9:TP:=bX 2 [] 0 Iz
theorem LP {z}:bJ (aP z) 3 79 j9:=
 br (n:=2) (ps:=["a","b"]) (rest:=[]) ⟨rfl,by rfl,rfl,rfl,rfl⟩ (bL λ_ _ _ X=>aal rfl) JP
noncomputable abbrev As:List Str:=["text","at"]
abbrev nV:TB:=(dw (bT (ar (bw λa b=>decide (a < b)) (af 1) (aF dP (ad (af 0) ak)))) (dw (bT (ar (im false) (ar aN (af 0) (af 1)) (tK (.str "0123456789")))) fU))
abbrev nD:TS:=(aj (pU (bh (·+·) l9) 1 (tK (.int 1)))
 az)
abbrev sk:TS:=
 (aj (f8 nV nD)
 (aj (aS (af 1))
 az))
theorem yT {z}:ah (aP z) 0 (cF 15) As (cO 15) sk:=
 (ag (eT (db (bp (aC aa.loc (bB (dp _) (by decide +kernel) c5 (ac aa.loc ai)) lL) (bp (aC (aa.sub aa.loc aa.loc) (aa.glob (zR _) (zA)) mQ) dh))) (ag (wb (i:=1) aq BY)
 ao))
 (ag (aE aa.loc)
 ao))
def ge:TP:=bX 2 [] 0 sk
theorem qU {z}:bJ (aP z) 1 86 ge:=
 br (n:=2) (ps:=["text","at"]) (rest:=[]) ⟨rfl,by rfl,rfl,rfl,rfl⟩ (bL λ_ _ _ X=>aal rfl) yT
noncomputable abbrev F7:List Str:=["text","begin","end"]
abbrev rT:TB:=(dw (bT (ar (bw λa b=>decide (a > b)) (af 2) (af 1))) (dw (bT (ar (im false) (ar aN (af 0) (ar (bh (· - ·) l9) (af 2) (tK (.int 1)))) (tK (.str " \t\n\r")))) fU))
abbrev tI:TS:=(aj (pU (bh (· - ·) l9) 2 (tK (.int 1)))
 az)
abbrev tW:TB:=(dw (bT (ar (bw λa b=>decide (a < b)) (af 1) (af 2))) (dw (bT (ar (im false) (ar aN (af 0) (af 1)) (tK (.str " \t\n\r")))) fU))
abbrev r6:TS:=(aj (pU (bh (·+·) l9) 1 (tK (.int 1)))
 az)
abbrev zP:TS:=
 (aj (c9 [2,1] (bl (ad (tK (.int 0)) (ad (aF dP (ad (af 0) ak)) ak))))
 (aj (f8 tW r6)
 (aj (f8 rT tI)
 (aj (aS (iV (af 0) (af 1) (af 2)))
 az))))
theorem DH {z}:ah (aP z) 0 (cF 16) F7 (cO 16) zP:=
 (ag (cP (is:=[2,1]) (xs:=["begin","end"]) (aV (ac aq (ac (bB (dp _) (by decide +kernel) c5 (ac aa.loc ai)) ai))) (.cons (i:=2) rfl (.cons (i:=1) rfl .nil)))
 (ag (eT (db (bp (aC aa.loc aa.loc lL) (bp (aC (aa.sub aa.loc aa.loc) (aa.glob (md _) (mj)) mQ) dh))) (ag (wb (i:=1) aq BY)
 ao))
 (ag (eT (db (bp (aC aa.loc aa.loc m4) (bp (aC (aa.sub aa.loc (aU aa.loc aq mK)) (aa.glob (md _) (mj)) mQ) dh))) (ag (wb (i:=2) aq Jd)
 ao))
 (ag (aE (dl aa.loc (dz.some aa.loc) (dz.some aa.loc)))
 ao))))
def tm:TP:=bX 1 [] 2 zP
theorem GD {z}:bJ (aP z) 1 93 tm:=
 br (n:=1) (ps:=["text"]) (rest:=["begin","end"]) ⟨rfl,by rfl,rfl,rfl,rfl⟩ (bL λ_ _ X=>aal rfl) DH
noncomputable abbrev Ei:List Str:=["digits","number","digit"]
abbrev qZ:TS:=(aj (aX 1 (ar cM (ar (bh (· * ·) acd) (af 1) (tK (.int 10))) (cq .str zO (tK (.str "0123456789")) (ad (af 2) ak))))
 az)
abbrev wz:TS:=
 (aj (aX 1 (tK (.int 0)))
 (aj (eS (CF (af 0)) (b8 2) qZ)
 (aj (aS (af 1))
 az)))
theorem Ci {z}:ah (aP z) 0 (cF 17) Ei (cO 17) wz:=
 (ag (au.set (i:=1) aq)
 (ag (dn (C4 aa.loc) (gk.name (i:=2)) (ag (au.set (i:=1) (aU (aU aa.loc aq fw) (ba (k:=.str) (aa.glob (zR _) (zA)) (ac aa.loc ai) A3 PySem.F.slot_str_index PySem.F.type_str_index) cL))
 ao))
 (ag (aE aa.loc)
 ao)))
def mr:TP:=bX 1 [] 2 wz
theorem DL {z}:bJ (aP z) 1 100 mr:=
 br (n:=1) (ps:=["digits"]) (rest:=["number","digit"]) ⟨rfl,by rfl,rfl,rfl,rfl⟩ (bL λ_ _ X=>aal rfl) Ci
noncomputable abbrev xZ:List Str:=["text","told","begin","end","whole","parts","last","found"]
abbrev qS:TS:=
 (aj (aX 1 (aF tm (ad (af 0) ak)))
 (aj (aX 2 (fg (bT (ar bN (iV (af 1) (tK .none) (tK (.int 1))) (tK (.str "-")))) (tK (.int 1)) (tK (.int 0))))
 (aj (aX 3 (aF ge (ad (af 1) (ad (af 2) ak))))
 (aj (c9 [5,4] (bl (ad (iV (af 1) (af 2) (af 3)) (ad (tK (.str "")) ak))))
 (aj (bW (bT (ar bN (iV (af 1) (af 3) (ar cM (af 3) (tK (.int 1)))) (tK (.str ".")))) (aj (aX 6 (aF ge (ad (af 1) (ad (ar cM (af 3) (tK (.int 1))) ak))))
 (aj (aX 5 (iV (af 1) (ar cM (af 3) (tK (.int 1))) (af 6)))
 (aj (aX 3 (af 6))
 az))) az)
 (aj (bW (lH (bT (ar (bw λa b=>decide (a < b)) (af 3) (aF dP (ad (af 1) ak)))) (lH (bT (ar bN (ar cM (af 4) (af 5)) (tK (.str "")))) il)) (aj (aS (tK r5))
 az) az)
 (aj (aX 7 (aF gO (ad (aF mr (ad (ar cM (af 4) (af 5)) ak)) (ad (ar (bh (λa n=>a ^ n.toNat) λa n=>0<=n/\n<=1000000/\a.natAbs < 2 ^ 64) (tK (.int 10)) (aF dP (ad (af 5) ak))) ak))))
 (aj (aS (fg (bT (ar bN (af 2) (tK (.int 1)))) (aF nS (ad (af 7) ak)) (af 7)))
 az))))))))
theorem xl {z}:ah (aP z) 2 (cF 18) xZ (cO 18) qS:=
 (ag (au.set (i:=1) (aa.call (Gj _) (Gc _) (aM.fn (GD.mono (by decide))) (ac aa.loc ai)))
 (ag (au.set (i:=2) (cA (aC (dl aa.loc dz.none (dz.some aq)) aw bc) aq aq))
 (ag (au.set (i:=3) (aa.call (qM _) (qW _) (aM.fn (qU.mono (by decide))) (ac aa.loc (ac aa.loc ai))))
 (ag (cP (is:=[5,4]) (xs:=["whole","parts"]) (aV (ac (dl aa.loc (dz.some aa.loc) (dz.some aa.loc)) (ac aw ai))) (.cons (i:=5) rfl (.cons (i:=4) rfl .nil)))
 (ag (aZ (aC (dl aa.loc (dz.some aa.loc) (dz.some (aU aa.loc aq cL))) aw bc) (ag (au.set (i:=6) (aa.call (qM _) (qW _) (aM.fn (qU.mono (by decide))) (ac aa.loc (ac (aU aa.loc aq cL) ai))))
 (ag (au.set (i:=5) (dl aa.loc (dz.some (aU aa.loc aq cL)) (dz.some aa.loc)))
 (ag (au.set (i:=3) aa.loc)
 ao))) ao)
 (ag (aZ (db (eA (aC aa.loc (bB (dp _) (by decide +kernel) c5 (ac aa.loc ai)) lL) (eA (aC (aU aa.loc aa.loc cL) aw bc) k8))) (ag (aE (aa.glob (Bb _) (BH)))
 ao) ao)
 (ag (au.set (i:=7) (aa.call (eu _) (ey _) (aM.fn (pg.mono (by decide))) (ac (aa.call (Eb _) (Ds _) (aM.fn (DL.mono (by decide))) (ac (aU aa.loc aa.loc cL) ai)) (ac (aU aq (bB (dp _) (by decide +kernel) c5 (ac aa.loc ai)) Ex) ai))))
 (ag (aE (cA (aC aa.loc aq bc) (aa.call (FD _) (Gy _) (aM.fn (GS.mono (by decide))) (ac aa.loc ai)) aa.loc))
 ao))))))))
def gK:TP:=bX 1 [] 7 qS
theorem yH {z}:bJ (aP z) 3 107 gK:=
 br (n:=1) (ps:=["text"]) (rest:=["told","begin","end","whole","parts","last","found"]) ⟨rfl,by rfl,rfl,rfl,rfl⟩ (bL λ_ _ X=>aal rfl) xl
noncomputable abbrev w7:List Str:=["self","kind","name","uri","local","value","parent"]
abbrev pz:TS:=
 (aj (dk 335 "kind" (af 0) (af 1))
 (aj (dk 335 "name" (af 0) (af 2))
 (aj (dk 335 "uri" (af 0) (af 3))
 (aj (dk 335 "local" (af 0) (af 4))
 (aj (dk 335 "value" (af 0) (af 5))
 (aj (dk 335 "parent" (af 0) (af 6))
 (aj (dk 335 "children" (af 0) (be ak))
 (aj (dk 335 "attributes" (af 0) (be ak))
 (aj (dk 335 "namespaces" (af 0) (be ak))
 az)))))))))
theorem vH {z}:ah (aP z) 0 (ig 48 0) w7 (ij 48 0) pz:=
 (ag (b7 aa.loc aa.loc xU)
 (ag (b7 aa.loc aa.loc nJ)
 (ag (b7 aa.loc aa.loc yc)
 (ag (b7 aa.loc aa.loc vy)
 (ag (b7 aa.loc aa.loc nj)
 (ag (b7 aa.loc aa.loc uD)
 (ag (b7 aa.loc (aY ai) rP)
 (ag (b7 aa.loc (aY ai) pv)
 (ag (b7 aa.loc (aY ai) pf)
 ao)))))))))
def kP:TP:=bX 7 [] 0 pz
theorem wo {z}:bJ (aP z) 1 332 kP:=
 br (n:=7) (ps:=["self","kind","name","uri","local","value","parent"]) (rest:=[]) ⟨rfl,by rfl,rfl,rfl,rfl⟩ (bL λ_ _ _ _ _ _ _ _ X=>aal rfl) vH
noncomputable abbrev Be:List Str:=["self"]
abbrev uT:TS:=
 (aj (dk 524 "rows" (af 0) (be ak))
 az)
theorem Au {z}:ah (aP z) 0 (ig 49 0) Be (ij 49 0) uT:=
 (ag (b7 aa.loc (aY ai) CY)
 ao)
def kZ:TP:=bX 1 [] 0 uT
theorem sL {z}:bJ (aP z) 1 353 kZ:=
 br (n:=1) (ps:=["self"]) (rest:=[]) ⟨rfl,by rfl,rfl,rfl,rfl⟩ (bL λ_ _ X=>aal rfl) Au
noncomputable abbrev xO:List Str:=["self","kind","name","uri","local","value","parent"]
abbrev kA:TS:=
 (aj (bY (cq .list bx (cC 524 "rows" (af 0)) (ad (aF (kO 335 kP) (ad (af 1) (ad (af 2) (ad (af 3) (ad (af 4) (ad (af 5) (ad (af 6) ak))))))) ak)))
 (aj (aS (ar (bh (· - ·) l9) (aF dP (ad (cC 524 "rows" (af 0)) ak)) (tK (.int 1))))
 az))
theorem vn {z}:ah (aP z) 2 (ig 49 1) xO (ij 49 1) kA:=
 (ag (cg (ba (k:=.list) (bn aa.loc (aW _ _) (ju _) (fb _) rfl) (ac (aa.call (Fx _) (Gq _) ((mJ (FJ _) (rL _) (rO _) wo).mono (by decide)) (ac aa.loc (ac aa.loc (ac aa.loc (ac aa.loc (ac aa.loc (ac aa.loc ai))))))) ai) cf abm abn))
 (ag (aE (aU (bB (dp _) (by decide +kernel) c5 (ac (bn aa.loc (aW _ _) (ju _) (fb _) rfl) ai)) aq mK))
 ao))
def eZ:TP:=bX 7 [] 0 kA
theorem jT {z}:bJ (aP z) 3 360 eZ:=
 br (n:=7) (ps:=["self","kind","name","uri","local","value","parent"]) (rest:=[]) ⟨rfl,by rfl,rfl,rfl,rfl⟩ (bL λ_ _ _ _ _ _ _ _ X=>aal rfl) vn
noncomputable abbrev El:List Str:=["self","node"]
abbrev xB:TS:=
 (aj (bW (om (BD (bw λa b=>decide (a<=b)) (bw λa b=>decide (a < b)) (tK (.int 0)) (af 1) (aF dP (ad (cC 524 "rows" (af 0)) ak)))) (aj qm
 az) az)
 (aj (aS (ar aN (cC 524 "rows" (af 0)) (af 1)))
 az))
theorem CR {z}:ah (aP z) 0 (ig 49 2) El (ij 49 2) xB:=
 (ag (aZ (nz (GX aq aa.loc (bB (dp _) (by decide +kernel) c5 (ac (bn aa.loc (aW _ _) (ju _) (fb _) rfl) ai)) Mu lL)) (ag jy
 ao) ao)
 (ag (aE (aa.sub (bn aa.loc (aW _ _) (ju _) (fb _) rfl) aa.loc))
 ao))
def cN:TP:=bX 2 [] 0 xB
theorem cQ {z}:bJ (aP z) 1 367 cN:=
 br (n:=2) (ps:=["self","node"]) (rest:=[]) ⟨rfl,by rfl,rfl,rfl,rfl⟩ (bL λ_ _ _ X=>aal rfl) CR
noncomputable abbrev vZ:List Str:=["self"]
abbrev nE:TS:=
 (aj (aS (bf 524 eZ (af 0) (ad (tK (.str "root")) (ad (tK (.str "")) (ad (tK (.str "")) (ad (tK (.str "")) (ad (tK (.str "")) (ad (tK .none) ak))))))))
 az)
theorem uE {z}:ah (aP z) 3 (ig 49 3) vZ (ij 49 3) nE:=
 (ag (aE (aQ aa.loc (ac aw (ac aw (ac aw (ac aw (ac aw (ac bo ai)))))) (aM.fn (jT.mono (by decide))) (aW _ _) (kg _) (j3 _) (kc _) jY))
 ao)
def fJ:TP:=bX 1 [] 0 nE
theorem jd {z}:bJ (aP z) 4 374 fJ:=
 br (n:=1) (ps:=["self"]) (rest:=[]) ⟨rfl,by rfl,rfl,rfl,rfl⟩ (bL λ_ _ X=>aal rfl) uE
noncomputable abbrev uN:List Str:=["self","parent","kind","name","uri","local","value","node"]
abbrev mP:TS:=
 (aj (bW (dw (bT (ar fM (af 1) (tK .none))) (dw (bT (ar (im true) (cC 335 "kind" (bf 524 cN (af 0) (ad (af 1) ak))) (tK qx))) fU)) (aj qm
 az) az)
 (aj (aX 7 (bf 524 eZ (af 0) (ad (af 2) (ad (af 3) (ad (af 4) (ad (af 5) (ad (af 6) (ad (af 1) ak))))))))
 (aj (bW (bT (ar fM (af 1) (tK .none))) (aj (bY (cq .list bx (cC 335 "children" (ar aN (cC 524 "rows" (af 0)) (af 1))) (ad (af 7) ak)))
 az) az)
 (aj (aS (af 7))
 az))))
theorem th {z}:ah (aP z) 3 (ig 49 4) uN (ij 49 4) mP:=
 (ag (aZ (db (bp (aC aa.loc bo fE) (bp (aC (bn (aQ aa.loc (ac aa.loc ai) (aM.fn (cQ.mono (by decide))) (aW _ _) (cX _) (cW _) (cU _) cR) (ce _ _) (bt _) (jW _) rfl) (aa.glob (FW _) (F4)) lE) dh))) (ag jy
 ao) ao)
 (ag (au.set (i:=7) (aQ aa.loc (ac aa.loc (ac aa.loc (ac aa.loc (ac aa.loc (ac aa.loc (ac aa.loc ai)))))) (aM.fn (jT.mono (by decide))) (aW _ _) (kg _) (j3 _) (kc _) jY))
 (ag (aZ (aC aa.loc bo fE) (ag (cg (ba (k:=.list) (bn (aa.sub (bn aa.loc (aW _ _) (ju _) (fb _) rfl) aa.loc) (ce _ _) (bt _) (km _) rfl) (ac aa.loc ai) cf abm abn))
 ao) ao)
 (ag (aE aa.loc)
 ao))))
def fh:TP:=bX 7 [] 1 mP
theorem iT {z}:bJ (aP z) 4 381 fh:=
 br (n:=7) (ps:=["self","parent","kind","name","uri","local","value"]) (rest:=["node"]) ⟨rfl,by rfl,rfl,rfl,rfl⟩ (bL λ_ _ _ _ _ _ _ _ X=>aal rfl) th
noncomputable abbrev rm:List Str:=["self","parent","name","uri","local"]
abbrev lD:TS:=
 (aj (aS (bf 524 fh (af 0) (ad (af 1) (ad (tK (.str "element")) (ad (af 2) (ad (af 3) (ad (af 4) (ad (tK (.str "")) ak))))))))
 az)
theorem qt {z}:ah (aP z) 4 (ig 49 5) rm (ij 49 5) lD:=
 (ag (aE (aQ aa.loc (ac aa.loc (ac aw (ac aa.loc (ac aa.loc (ac aa.loc (ac aw ai)))))) (aM.fn (iT.mono (by decide))) (aW _ _) (iR _) (iS _) (iQ _) iN))
 ao)
def ec:TP:=bX 5 [] 0 lD
theorem gS {z}:bJ (aP z) 5 388 ec:=
 br (n:=5) (ps:=["self","parent","name","uri","local"]) (rest:=[]) ⟨rfl,by rfl,rfl,rfl,rfl⟩ (bL λ_ _ _ _ _ _ X=>aal rfl) qt
noncomputable abbrev vr:List Str:=["self","parent","value"]
abbrev nG:TS:=
 (aj (aS (bf 524 fh (af 0) (ad (af 1) (ad (tK (.str "text")) (ad (tK (.str "")) (ad (tK (.str "")) (ad (tK (.str "")) (ad (af 2) ak))))))))
 az)
theorem uG {z}:ah (aP z) 4 (ig 49 6) vr (ij 49 6) nG:=
 (ag (aE (aQ aa.loc (ac aa.loc (ac aw (ac aw (ac aw (ac aw (ac aa.loc ai)))))) (aM.fn (iT.mono (by decide))) (aW _ _) (iR _) (iS _) (iQ _) iN))
 ao)
def fF:TP:=bX 3 [] 0 nG
theorem vz {z}:bJ (aP z) 5 395 fF:=
 br (n:=3) (ps:=["self","parent","value"]) (rest:=[]) ⟨rfl,by rfl,rfl,rfl,rfl⟩ (bL λ_ _ _ _ X=>aal rfl) uG
noncomputable abbrev rq:List Str:=["self","parent","value"]
abbrev lG:TS:=
 (aj (aS (bf 524 fh (af 0) (ad (af 1) (ad (tK (.str "comment")) (ad (tK (.str "")) (ad (tK (.str "")) (ad (tK (.str "")) (ad (af 2) ak))))))))
 az)
theorem pK {z}:ah (aP z) 4 (ig 49 7) rq (ij 49 7) lG:=
 (ag (aE (aQ aa.loc (ac aa.loc (ac aw (ac aw (ac aw (ac aw (ac aa.loc ai)))))) (aM.fn (iT.mono (by decide))) (aW _ _) (iR _) (iS _) (iQ _) iN))
 ao)
def eh:TP:=bX 3 [] 0 lG
theorem rN {z}:bJ (aP z) 5 402 eh:=
 br (n:=3) (ps:=["self","parent","value"]) (rest:=[]) ⟨rfl,by rfl,rfl,rfl,rfl⟩ (bL λ_ _ _ _ X=>aal rfl) pK
noncomputable abbrev rK:List Str:=["self","element","row"]
abbrev lq:TS:=
 (aj (aX 2 (bf 524 cN (af 0) (ad (af 1) ak)))
 (aj (bW (bT (ar g8 (cC 335 "kind" (af 2)) (tK (.str "element")))) (aj qm
 az) az)
 (aj (aS (af 2))
 az)))
theorem qo {z}:ah (aP z) 1 (ig 49 9) rK (ij 49 9) lq:=
 (ag (au.set (i:=2) (aQ aa.loc (ac aa.loc ai) (aM.fn (cQ.mono (by decide))) (aW _ _) (cX _) (cW _) (cU _) cR))
 (ag (aZ (aC (bn aa.loc (ce _ _) (bt _) (jW _) rfl) aw ik) (ag jy
 ao) ao)
 (ag (aE aa.loc)
 ao)))
def iv:TP:=bX 2 [] 1 lq
theorem rE {z}:bJ (aP z) 2 416 iv:=
 br (n:=2) (ps:=["self","element"]) (rest:=["row"]) ⟨rfl,by rfl,rfl,rfl,rfl⟩ (bL λ_ _ _ X=>aal rfl) qo
noncomputable abbrev pc:List Str:=["self","element","name","uri","local","value","row","node","known"]
abbrev iL:TS:=(aj (aX 8 (ar aN (cC 524 "rows" (af 0)) (af 7)))
 (aj (bW (dw (bT (ar bN (cC 335 "uri" (af 8)) (af 3))) (dw (bT (ar bN (cC 335 "local" (af 8)) (af 4))) fU)) (aj (dk 335 "name" (af 8) (af 2))
 (aj (dk 335 "value" (af 8) (af 5))
 (aj (aS (af 7))
 az))) az)
 az))
abbrev j8:TS:=
 (aj (aX 6 (bf 524 iv (af 0) (ad (af 1) ak)))
 (aj (eS (b9 (cC 335 "attributes" (af 6))) (b8 7) iL)
 (aj (aX 7 (bf 524 eZ (af 0) (ad (tK (.str "attribute")) (ad (af 2) (ad (af 3) (ad (af 4) (ad (af 5) (ad (af 1) ak))))))))
 (aj (bY (cq .list bx (cC 335 "attributes" (af 6)) (ad (af 7) ak)))
 (aj (aS (af 7))
 az)))))
theorem oC {z}:ah (aP z) 3 (ig 49 10) pc (ij 49 10) j8:=
 (ag (au.set (i:=6) (aQ aa.loc (ac aa.loc ai) (aM.fn (rE.mono (by decide))) (aW _ _) (rS _) (rG _) (rA _) rI))
 (ag (dn (bU (bn aa.loc (ce _ _) (bt _) (gm _) rfl)) (gk.name (i:=7)) (ag (au.set (i:=8) (aa.sub (bn aa.loc (aW _ _) (ju _) (fb _) rfl) aa.loc))
 (ag (aZ (db (bp (aC (bn aa.loc (ce _ _) (bt _) (o9 _) rfl) aa.loc bc) (bp (aC (bn aa.loc (ce _ _) (bt _) (mZ _) rfl) aa.loc bc) dh))) (ag (b7 aa.loc aa.loc nJ)
 (ag (b7 aa.loc aa.loc nj)
 (ag (aE aa.loc)
 ao))) ao)
 ao)))
 (ag (au.set (i:=7) (aQ aa.loc (ac aw (ac aa.loc (ac aa.loc (ac aa.loc (ac aa.loc (ac aa.loc ai)))))) (aM.fn (jT.mono (by decide))) (aW _ _) (kg _) (j3 _) (kc _) jY))
 (ag (cg (ba (k:=.list) (bn aa.loc (ce _ _) (bt _) (gm _) rfl) (ac aa.loc ai) cf abm abn))
 (ag (aE aa.loc)
 ao)))))
def b0:TP:=bX 6 [] 3 j8
theorem fX {z}:bJ (aP z) 4 423 b0:=
 br (n:=6) (ps:=["self","element","name","uri","local","value"]) (rest:=["row","node","known"]) ⟨rfl,by rfl,rfl,rfl,rfl⟩ (bL λ_ _ _ _ _ _ _ X=>aal rfl) oC
noncomputable abbrev BU:List Str:=["self","node"]
abbrev uS:TS:=
 (aj (aS (cC 335 "kind" (bf 524 cN (af 0) (ad (af 1) ak))))
 az)
theorem Ad {z}:ah (aP z) 1 (ig 49 13) BU (ij 49 13) uS:=
 (ag (aE (bn (aQ aa.loc (ac aa.loc ai) (aM.fn (cQ.mono (by decide))) (aW _ _) (cX _) (cW _) (cU _) cR) (ce _ _) (bt _) (jW _) rfl))
 ao)
def gR:TP:=bX 2 [] 0 uS
theorem jB {z}:bJ (aP z) 2 444 gR:=
 br (n:=2) (ps:=["self","node"]) (rest:=[]) ⟨rfl,by rfl,rfl,rfl,rfl⟩ (bL λ_ _ _ X=>aal rfl) Ad
noncomputable abbrev BK:List Str:=["self","node"]
abbrev u0:TS:=
 (aj (aS (cC 335 "name" (bf 524 cN (af 0) (ad (af 1) ak))))
 az)
theorem Aq {z}:ah (aP z) 1 (ig 49 14) BK (ij 49 14) u0:=
 (ag (aE (bn (aQ aa.loc (ac aa.loc ai) (aM.fn (cQ.mono (by decide))) (aW _ _) (cX _) (cW _) (cU _) cR) (ce _ _) (bt _) (xq _) rfl))
 ao)
def k6:TP:=bX 2 [] 0 u0
theorem sS {z}:bJ (aP z) 2 451 k6:=
 br (n:=2) (ps:=["self","node"]) (rest:=[]) ⟨rfl,by rfl,rfl,rfl,rfl⟩ (bL λ_ _ _ X=>aal rfl) Aq
noncomputable abbrev DU:List Str:=["self","node"]
abbrev w9:TS:=
 (aj (aS (cC 335 "uri" (bf 524 cN (af 0) (ad (af 1) ak))))
 az)
theorem Cz {z}:ah (aP z) 1 (ig 49 15) DU (ij 49 15) w9:=
 (ag (aE (bn (aQ aa.loc (ac aa.loc ai) (aM.fn (cQ.mono (by decide))) (aW _ _) (cX _) (cW _) (cU _) cR) (ce _ _) (bt _) (o9 _) rfl))
 ao)
def qn:TP:=bX 2 [] 0 w9
theorem DM {z}:bJ (aP z) 2 458 qn:=
 br (n:=2) (ps:=["self","node"]) (rest:=[]) ⟨rfl,by rfl,rfl,rfl,rfl⟩ (bL λ_ _ _ X=>aal rfl) Cz
noncomputable abbrev Ae:List Str:=["self","node"]
abbrev tF:TS:=
 (aj (aS (cC 335 "local" (bf 524 cN (af 0) (ad (af 1) ak))))
 az)
theorem yQ {z}:ah (aP z) 1 (ig 49 16) Ae (ij 49 16) tF:=
 (ag (aE (bn (aQ aa.loc (ac aa.loc ai) (aM.fn (cQ.mono (by decide))) (aW _ _) (cX _) (cW _) (cU _) cR) (ce _ _) (bt _) (mZ _) rfl))
 ao)
def mN:TP:=bX 2 [] 0 tF
theorem At {z}:bJ (aP z) 2 465 mN:=
 br (n:=2) (ps:=["self","node"]) (rest:=[]) ⟨rfl,by rfl,rfl,rfl,rfl⟩ (bL λ_ _ _ X=>aal rfl) yQ
noncomputable abbrev Av:List Str:=["self","node"]
abbrev tC:TS:=
 (aj (aS (cC 335 "value" (bf 524 cN (af 0) (ad (af 1) ak))))
 az)
theorem yV {z}:ah (aP z) 1 (ig 49 17) Av (ij 49 17) tC:=
 (ag (aE (bn (aQ aa.loc (ac aa.loc ai) (aM.fn (cQ.mono (by decide))) (aW _ _) (cX _) (cW _) (cU _) cR) (ce _ _) (bt _) (vI _) rfl))
 ao)
def ir:TP:=bX 2 [] 0 tC
theorem lS {z}:bJ (aP z) 2 472 ir:=
 br (n:=2) (ps:=["self","node"]) (rest:=[]) ⟨rfl,by rfl,rfl,rfl,rfl⟩ (bL λ_ _ _ X=>aal rfl) yV
noncomputable abbrev yD:List Str:=["self","node"]
abbrev re:TS:=
 (aj (aS (cC 335 "parent" (bf 524 cN (af 0) (ad (af 1) ak))))
 az)
theorem xT {z}:ah (aP z) 1 (ig 49 18) yD (ij 49 18) re:=
 (ag (aE (bn (aQ aa.loc (ac aa.loc ai) (aM.fn (cQ.mono (by decide))) (aW _ _) (cX _) (cW _) (cU _) cR) (ce _ _) (bt _) (iO _) rfl))
 ao)
def gJ:TP:=bX 2 [] 0 re
theorem pe {z}:bJ (aP z) 2 479 gJ:=
 br (n:=2) (ps:=["self","node"]) (rest:=[]) ⟨rfl,by rfl,rfl,rfl,rfl⟩ (bL λ_ _ _ X=>aal rfl) xT
noncomputable abbrev vR:List Str:=["self","node"]
abbrev n8:TS:=
 (aj (aS (aF pb (ad (cC 335 "children" (bf 524 cN (af 0) (ad (af 1) ak))) ak)))
 az)
theorem uJ {z}:ah (aP z) 1 (ig 49 19) vR (ij 49 19) n8:=
 (ag (aE (cG (mB _) (by decide +kernel) qr (ac (bn (aQ aa.loc (ac aa.loc ai) (aM.fn (cQ.mono (by decide))) (aW _ _) (cX _) (cW _) (cU _) cR) (ce _ _) (bt _) (km _) rfl) ai)))
 ao)
def fK:TP:=bX 2 [] 0 n8
theorem jr {z}:bJ (aP z) 2 486 fK:=
 br (n:=2) (ps:=["self","node"]) (rest:=[]) ⟨rfl,by rfl,rfl,rfl,rfl⟩ (bL λ_ _ _ X=>aal rfl) uJ
noncomputable abbrev sY:List Str:=["self","node"]
abbrev ma:TS:=
 (aj (aS (aF pb (ad (cC 335 "attributes" (bf 524 cN (af 0) (ad (af 1) ak))) ak)))
 az)
theorem ri {z}:ah (aP z) 1 (ig 49 20) sY (ij 49 20) ma:=
 (ag (aE (cG (mB _) (by decide +kernel) qr (ac (bn (aQ aa.loc (ac aa.loc ai) (aM.fn (cQ.mono (by decide))) (aW _ _) (cX _) (cW _) (cU _) cR) (ce _ _) (bt _) (gm _) rfl) ai)))
 ao)
def fV:TP:=bX 2 [] 0 ma
theorem ll {z}:bJ (aP z) 2 493 fV:=
 br (n:=2) (ps:=["self","node"]) (rest:=[]) ⟨rfl,by rfl,rfl,rfl,rfl⟩ (bL λ_ _ _ X=>aal rfl) ri
noncomputable abbrev sf:List Str:=["self","node"]
abbrev mn:TS:=
 (aj (aS (aF pb (ad (cC 335 "namespaces" (bf 524 cN (af 0) (ad (af 1) ak))) ak)))
 az)
theorem rH {z}:ah (aP z) 1 (ig 49 21) sf (ij 49 21) mn:=
 (ag (aE (cG (mB _) (by decide +kernel) qr (ac (bn (aQ aa.loc (ac aa.loc ai) (aM.fn (cQ.mono (by decide))) (aW _ _) (cX _) (cW _) (cU _) cR) (ce _ _) (bt _) (pj _) rfl) ai)))
 ao)
def l7:TP:=bX 2 [] 0 mn
theorem tX {z}:bJ (aP z) 2 500 l7:=
 br (n:=2) (ps:=["self","node"]) (rest:=[]) ⟨rfl,by rfl,rfl,rfl,rfl⟩ (bL λ_ _ _ X=>aal rfl) rH
noncomputable abbrev wx:List Str:=["self","node"]
abbrev mi:TB:=(bT (ar fM (cC 335 "parent" (bf 524 cN (af 0) (ad (af 1) ak))) (tK .none)))
abbrev mh:TS:=(aj (aX 1 (cC 335 "parent" (ar aN (cC 524 "rows" (af 0)) (af 1))))
 az)
abbrev o3:TS:=
 (aj (f8 mi mh)
 (aj (aS (af 1))
 az))
theorem vA {z}:ah (aP z) 1 (ig 49 22) wx (ij 49 22) o3:=
 (ag (eT (aC (bn (aQ aa.loc (ac aa.loc ai) (aM.fn (cQ.mono (by decide))) (aW _ _) (cX _) (cW _) (cU _) cR) (ce _ _) (bt _) (iO _) rfl) bo fE) (ag (au.set (i:=1) (bn (aa.sub (bn aa.loc (aW _ _) (ju _) (fb _) rfl) aa.loc) (ce _ _) (bt _) (iO _) rfl))
 ao))
 (ag (aE aa.loc)
 ao))
def gn:TP:=bX 2 [] 0 o3
theorem nR {z}:bJ (aP z) 2 507 gn:=
 br (n:=2) (ps:=["self","node"]) (rest:=[]) ⟨rfl,by rfl,rfl,rfl,rfl⟩ (bL λ_ _ _ X=>aal rfl) vA
noncomputable abbrev xK:List Str:=["self","tree","node","position","size","variables","names","calls","current","ids"]
abbrev gc:TS:=
 (aj (dk 313 "tree" (af 0) (af 1))
 (aj (dk 313 "node" (af 0) (af 2))
 (aj (dk 313 "position" (af 0) (af 3))
 (aj (dk 313 "size" (af 0) (af 4))
 (aj (dk 313 "variables" (af 0) (fg (bT (ar mU (af 5) (tK .none))) (kY oE) (af 5)))
 (aj (dk 313 "names" (af 0) (fg (bT (ar mU (af 6) (tK .none))) (kY oE) (af 6)))
 (aj (dk 313 "calls" (af 0) (fg (bT (ar mU (af 7) (tK .none))) (kY oE) (af 7)))
 (aj (dk 313 "current" (af 0) (fg (bT (ar mU (af 8) (tK .none))) (af 2) (af 8)))
 (aj (dk 313 "ids" (af 0) (fg (bT (ar mU (af 9) (tK .none))) (kY oE) (af 9)))
 az)))))))))
theorem jq {z}:ah (aP z) 0 (ig 45 0) xK (ij 45 0) gc:=
 (ag (b7 aa.loc aa.loc wt)
 (ag (b7 aa.loc aa.loc xp)
 (ag (b7 aa.loc aa.loc rB)
 (ag (b7 aa.loc aa.loc xX)
 (ag (b7 aa.loc (cA (aC aa.loc bo jE) mz aa.loc) qa)
 (ag (b7 aa.loc (cA (aC aa.loc bo jE) mz aa.loc) vP)
 (ag (b7 aa.loc (cA (aC aa.loc bo jE) mz aa.loc) vD)
 (ag (b7 aa.loc (cA (aC aa.loc bo jE) aa.loc aa.loc) rY)
 (ag (b7 aa.loc (cA (aC aa.loc bo jE) mz aa.loc) yd)
 ao)))))))))
def gE:TP:=bX 3 [.int 1,.int 1,.none,.none,.none,.none,.none] 0 gc
theorem uF {z}:bJ (aP z) 1 289 gE:=
 kI (n:=3) (ps:=["self","tree","node","position","size","variables","names","calls","current","ids"]) (rest:=[]) (dVs:=[.int 1,.int 1,.none,.none,.none,.none,.none]) ⟨rfl,by rfl,rfl,rfl,rfl⟩ (bL λ_ _ _ _ X=>aiY X rfl (by rfl) rfl rfl rfl) rfl (λ_=>(.cons (.int _ _) (.cons (.int _ _) (.cons .none (.cons .none (.cons .none (.cons .none (.cons .none .nil)))))))) (by decide +kernel) (by rfl) (by rfl) jq (λ_ _ _ h=>h)
def jn:TP:=bX 5 [.none,.none,.none,.none,.none] 0 gc
theorem ux {z}:bJ (aP z) 1 289 jn:=
 kI (n:=5) (ps:=["self","tree","node","position","size","variables","names","calls","current","ids"]) (rest:=[]) (dVs:=[.none,.none,.none,.none,.none]) ⟨rfl,by rfl,rfl,rfl,rfl⟩ (bL λ_ _ _ _ _ _ X=>aiY X rfl (by rfl) rfl rfl rfl) rfl (λ_=>(.cons .none (.cons .none (.cons .none (.cons .none (.cons .none .nil)))))) (by decide +kernel) (by rfl) (by rfl) jq (λ_ _ _ h=>h)
def iP:TP:=bX 10 [] 0 gc
theorem s6 {z}:bJ (aP z) 1 289 iP:=
 kI (n:=10) (ps:=["self","tree","node","position","size","variables","names","calls","current","ids"]) (rest:=[]) (dVs:=[]) ⟨rfl,by rfl,rfl,rfl,rfl⟩ (bL λ_ _ _ _ _ _ _ _ _ _ _ X=>aiY X rfl (by rfl) rfl rfl rfl) rfl (λ_=>.nil) (by decide +kernel) (by rfl) (by rfl) jq (λ_ _ _ h=>h)
noncomputable abbrev z5:List Str:=["tree","node","found"]
abbrev jL:TB:=(bT (ar fM (af 1) (tK .none)))
abbrev jR:TS:=(aj (bY (cq .list bx (af 2) (ad (af 1) ak)))
 (aj (aX 1 (bf 524 gJ (af 0) (ad (af 1) ak)))
 az))
abbrev tG:TS:=
 (aj (aX 2 (be ak))
 (aj (f8 jL jR)
 (aj (aS (tD (af 2) (io fP (tK (.int 1)))))
 az)))
theorem yW {z}:ah (aP z) 2 (cF 21) z5 (cO 21) tG:=
 (ag (au.set (i:=2) (aY ai))
 (ag (eT (aC aa.loc bo fE) (ag (cg (ba (k:=.list) aa.loc (ac aa.loc ai) cf abm abn))
 (ag (au.set (i:=1) (aQ aa.loc (ac aa.loc ai) (aM.fn (pe.mono (by decide))) (aW _ _) (pq _) (o6 _) (pi _) pn))
 ao)))
 (ag (aE (wc aa.loc (e9 aq e8)))
 ao)))
def mT:TP:=bX 2 [] 1 tG
theorem Ai {z}:bJ (aP z) 3 122 mT:=
 br (n:=2) (ps:=["tree","node"]) (rest:=["found"]) ⟨rfl,by rfl,rfl,rfl,rfl⟩ (bL λ_ _ _ X=>aal rfl) yW
noncomputable abbrev yr:List Str:=["tree","parent","node","kind"]
abbrev qN:TS:=
 (aj (aX 3 (bf 524 gR (af 0) (ad (af 2) ak)))
 (aj (bW (bT (ar bN (af 3) (tK (.str "namespace")))) (aj (aS (bl (ad (tK (.int 0)) (ad (cq .list tw (bf 524 l7 (af 0) (ad (af 1) ak)) (ad (af 2) ak)) ak))))
 az) az)
 (aj (bW (bT (ar bN (af 3) (tK (.str "attribute")))) (aj (aS (bl (ad (tK (.int 1)) (ad (cq .list tw (bf 524 fV (af 0) (ad (af 1) ak)) (ad (af 2) ak)) ak))))
 az) az)
 (aj (aS (bl (ad (tK (.int 2)) (ad (cq .list tw (bf 524 fK (af 0) (ad (af 1) ak)) (ad (af 2) ak)) ak))))
 az))))
theorem xb {z}:ah (aP z) 2 (cF 22) yr (cO 22) qN:=
 (ag (au.set (i:=3) (aQ aa.loc (ac aa.loc ai) (aM.fn (jB.mono (by decide))) (aW _ _) (jG _) (jZ _) (jD _) kf))
 (ag (aZ (aC aa.loc aw bc) (ag (aE (aV (ac aq (ac (ba (k:=.list) (aQ aa.loc (ac aa.loc ai) (aM.fn (tX.mono (by decide))) (aW _ _) (s0 _) (tV _) (si _) s9) (ac aa.loc ai) sx afr afs) ai))))
 ao) ao)
 (ag (aZ (aC aa.loc aw bc) (ag (aE (aV (ac aq (ac (ba (k:=.list) (aQ aa.loc (ac aa.loc ai) (aM.fn (ll.mono (by decide))) (aW _ _) (lu _) (lm _) (lM _) lJ) (ac aa.loc ai) sx afr afs) ai))))
 ao) ao)
 (ag (aE (aV (ac aq (ac (ba (k:=.list) (aQ aa.loc (ac aa.loc ai) (aM.fn (jr.mono (by decide))) (aW _ _) (jf _) (jp _) (jh _) jc) (ac aa.loc ai) sx afr afs) ai))))
 ao))))
def gI:TP:=bX 3 [] 1 qN
theorem wM {z}:EQ (aP z) 3 129 gI:=
 Hn (n:=3) (ps:=["tree","parent","node"]) (rest:=["kind"]) (dVs:=[]) ⟨rfl,by rfl,rfl,rfl,rfl⟩ (bL λ_ _ _ _ X=>aal rfl) rfl (λ_=>.nil) (by decide +kernel) (by rfl) (by rfl) xb (λ_ _ _ h=>h)
noncomputable abbrev Ea:List Str:=["tree","node","line","found","above","below"]
abbrev xJ:TS:=
 (aj (aX 2 (aF mT (ad (af 0) (ad (af 1) ak))))
 (aj (aX 3 (bl (ad (ar aN (af 2) (tK (.int 0))) ak)))
 (aj (yA (af 2) (iV (af 2) (tK (.int 1)) (tK .none)) 4 5 3 (aF gI (ad (af 0) (ad (af 4) (ad (af 5) ak)))))
 (aj (aS (af 3))
 az))))
theorem Cu {z}:ah (aP z) 3 (cF 23) Ea (cO 23) xJ:=
 (ag (au.set (i:=2) (aa.call (Ah _) (An _) (aM.fn (Ai.mono (by decide))) (ac aa.loc (ac aa.loc ai))))
 (ag (au.set (i:=3) (aV (ac (aa.sub aa.loc aq) ai)))
 (ag (Eo (x:=4) (y:=5) (i:=3) (ac aa.loc (ac (dl aa.loc (dz.some aq) dz.none) ai)) (AE.call (is:=[0,4,5]) (yS _) (yC _) (wM.mono (by decide)) (.cons rfl (by decide +kernel) (.cons rfl (by decide +kernel) (.cons rfl (by decide +kernel) .nil)))) (LZ _))
 (ag (aE aa.loc)
 ao))))
def iD:TP:=bX 2 [] 4 xJ
theorem DP {z}:bJ (aP z) 4 136 iD:=
 br (n:=2) (ps:=["tree","node"]) (rest:=["line","found","above","below"]) ⟨rfl,by rfl,rfl,rfl,rfl⟩ (bL λ_ _ _ X=>aal rfl) Cu
def oH:TE:=aF iD (ad (af 1) (ad (af 0) ak))
def mu:TP:=λVs st Q=>match Vs with
 | [t,V]=>CE 1 [0] (b9 (af 1)) (b8 0) 0 oH [some t,some V,none] st λys Ps=>∃rs,uc ys rs/\Q (.ref Ps.length) (Ps++[.list (rs.map .int)])
 | _=>False
theorem Na {z}:Gi (aP z) ⟨119,29,119,53⟩:=⟨λ_ x=>x,λ_=>ajl,λ_=>ajl⟩
noncomputable abbrev Nq:abJ:={ kind:=.function,names:=[((".0":Str),.local),(("node":Str),.local),(("place_of":Str),.globalImplicit),(("tree":Str),.free)],isGenerator:=false,isCoroutine:=false,more:=[] }
theorem Lg {z}{p0 p1 p2 p3 q1:Pos}:f6 (aP z) 5 (cF 24) Nq ua [("node":Str)] [("tree":Str)] [0] (.Name ("node":Str) q1) [] (.Call (.Name ("place_of":Str) p0) [.Name ("tree":Str) p1,.Name ("node":Str) p2] [] p3) (b8 0) dZ oH:=
 ⟨by rfl,by rfl,by rfl,by rfl,rfl,by rfl,by rfl,c4.name (i:=0) (by decide +kernel) rfl (by rfl),eV,
  aa.call (DT _) (Ee _) (aM.fn (DP.mono (by decide))) (ac aa.loc (ac aa.loc ai))⟩
theorem A6 {z}:BS (aP z) 5 (cF 24) ua (cO 24) (Cs oH) ("in_order":Str) (.ref 140):=
 Ln Lg Na (zS _) rfl rfl
theorem DX {z}:bJ (aP z) 6 141 mu:=
 zX (n:=2) (ps:=[("tree":Str),("nodes":Str)]) (rest:=[("known":Str)]) (dVs:=[]) ⟨rfl,by rfl,rfl,rfl,rfl⟩ (bL λ_ _ _ X=>aal rfl) rfl (λ_=>.nil) (by decide +kernel) (by rfl) (by decide +kernel) A6 (λVs st Q h=>by
  match Vs,h with
  | [t,V],h=>exact⟨rfl,h.1,h.2⟩)
noncomputable abbrev F0:List Str:=["tree","node","found","left","here"]
abbrev tn:TB:=(bT (ar g8 (af 3) (be ak)))
abbrev tA:TS:=(aj (aX 4 (cq .list FA (af 3) ak))
 (aj (bY (cq .list bx (af 2) (ad (af 4) ak)))
 (aj (aX 3 (ar cM (af 3) (tD (bf 524 fK (af 0) (ad (af 4) ak)) (io fP (tK (.int 1))))))
 az)))
abbrev zV:TS:=
 (aj (aX 2 (be ak))
 (aj (aX 3 (tD (bf 524 fK (af 0) (ad (af 1) ak)) (io fP (tK (.int 1)))))
 (aj (f8 tn tA)
 (aj (aS (af 2))
 az))))
theorem Ej {z}:ah (aP z) 2 (cF 25) F0 (cO 25) zV:=
 (ag (au.set (i:=2) (aY ai))
 (ag (au.set (i:=3) (wc (aQ aa.loc (ac aa.loc ai) (aM.fn (jr.mono (by decide))) (aW _ _) (jf _) (jp _) (jh _) jc) (e9 aq e8)))
 (ag (eT (aC aa.loc (aY ai) ik) (ag (au.set (i:=4) (ba (k:=.list) aa.loc ai EN ahq ahr))
 (ag (cg (ba (k:=.list) aa.loc (ac aa.loc ai) cf abm abn))
 (ag (au.set (i:=3) (aU aa.loc (wc (aQ aa.loc (ac aa.loc ai) (aM.fn (jr.mono (by decide))) (aW _ _) (jf _) (jp _) (jh _) jc) (e9 aq e8)) cL))
 ao))))
 (ag (aE aa.loc)
 ao))))
def sy:TP:=bX 2 [] 3 zV
theorem Gb {z}:bJ (aP z) 3 148 sy:=
 br (n:=2) (ps:=["tree","node"]) (rest:=["found","left","here"]) ⟨rfl,by rfl,rfl,rfl,rfl⟩ (bL λ_ _ _ X=>aal rfl) Ej
noncomputable abbrev wK:List Str:=["tree","node"]
abbrev uv:TE:=(bf 524 ir (af 1) (ad (af 0) ak))
abbrev uz:TB:=(bT (ar bN (bf 524 gR (af 1) (ad (af 0) ak)) (tK (.str "text"))))
abbrev oU:TS:=
 (aj (bW (bT (ar (im true) (bf 524 gR (af 0) (ad (af 1) ak)) (bl (ad (tK (.str "root")) (ad (tK (.str "element")) ak))))) (aj (aS (bf 524 ir (af 0) (ad (af 1) ak)))
 az) az)
 (aj (aS (cq .str qj (tK (.str "")) (ad (c7 1 [0] (b9 (aF sy (ad (af 0) (ad (af 1) ak)))) (b8 0) uz uv) ak)))
 az))
theorem vJ {z}:ah (aP z) 3 (cF 26) wK (cO 26) oU:=
 (ag (aZ (aC (aQ aa.loc (ac aa.loc ai) (aM.fn (jB.mono (by decide))) (aW _ _) (jG _) (jZ _) (jD _) kf) (aV (ac aw (ac aw ai))) lE) (ag (aE (aQ aa.loc (ac aa.loc ai) (aM.fn (lS.mono (by decide))) (aW _ _) (lX _) (lP _) (lZ _) lQ))
 ao) ao)
 (ag (aE (ba (k:=.str) aw (ac (ez (tgts:=["one"]) (cn:=["tree"]) (caps:=[0]) ⟨by rfl,by rfl,by rfl,by rfl,rfl,by rfl,by rfl,(c4.name (i:=0) (by decide +kernel) rfl (by rfl)),(iA (aC (aQ aa.loc (ac aa.loc ai) (aM.fn (jB.mono (by decide))) (aW _ _) (jG _) (jZ _) (jD _) kf) aw bc)),(aQ aa.loc (ac aa.loc ai) (aM.fn (lS.mono (by decide))) (aW _ _) (lX _) (lP _) (lZ _) lQ)⟩ (bU (aa.call (GC _) (GR _) (aM.fn (Gb.mono (by decide))) (ac aa.loc (ac aa.loc ai))))) ai) vK afR afS))
 ao))
def f2:TP:=bX 2 [] 0 oU
theorem jQ {z}:bJ (aP z) 4 153 f2:=
 vt (n:=2) (ps:=["tree","node"]) (rest:=[]) (dVs:=[]) ⟨rfl,by rfl,rfl,rfl,rfl⟩ (bL λ_ _ _ X=>aal rfl) rfl (λ_=>.nil) (by decide +kernel) (by rfl) (by decide +kernel) vJ (λ_ _ _ h=>h)
noncomputable abbrev Ga:List Str:=["value","tree"]
abbrev zG:TS:=
 (aj (bW (bT (qC Mc (af 0))) (aj (aS (af 0))
 az) az)
 (aj qm
 (aj qm
 (aj (aS (fg (bT (ar g8 (af 0) (be ak))) (aF f2 (ad (af 1) (ad (ar aN (af 0) (tK (.int 0))) ak))) (tK (.str ""))))
 az))))
theorem DE {z}:ah (aP z) 4 (cF 28) Ga (cO 28) zG:=
 (ag (aZ (aJ.val (qL aa.loc Lz (i7 _) (MN _) (by decide +kernel))) (ag (aE aa.loc)
 ao) ao)
 (ag jy
 (ag jy
 (ag (aE (cA (aC aa.loc (aY ai) ik) (aa.call (jF _) (j6 _) (aM.fn (jQ.mono (by decide))) (ac aa.loc (ac (aa.sub aa.loc aq) ai))) aw))
 ao))))
def oe:TP:=bX 2 [] 0 zG
theorem xn {z}:bJ (aP z) 5 160 oe:=
 br (n:=2) (ps:=["value","tree"]) (rest:=[]) ⟨rfl,by rfl,rfl,rfl,rfl⟩ (bL λ_ _ _ X=>aal rfl) DE
noncomputable abbrev DO:List Str:=["value"]
abbrev wq:TS:=
 (aj (bW (om (bT (qC yt (af 0)))) (aj qm
 az) az)
 (aj (aS (af 0))
 az))
theorem Bv {z}:ah (aP z) 0 (cF 34) DO (cO 34) wq:=
 (ag (aZ (nz (aJ.val (qL aa.loc vo (i7 _) (mB _) (by decide +kernel)))) (ag jy
 ao) ao)
 (ag (aE aa.loc)
 ao))
def jV:TP:=bX 1 [] 0 wq
theorem oo {z}:bJ (aP z) 1 211 jV:=
 br (n:=1) (ps:=["value"]) (rest:=[]) ⟨rfl,by rfl,rfl,rfl,rfl⟩ (bL λ_ _ X=>aal rfl) Bv
noncomputable abbrev FO:List Str:=["value"]
abbrev zk:TS:=
 (aj (aS (aF eH (ad (aF dP (ad (aF jV (ad (af 0) ak)) ak)) ak)))
 az)
theorem Eg {z}:ah (aP z) 2 (cF 35) FO (cO 35) zk:=
 (ag (aE (aa.call (eu _) (ey _) (aM.fn (gh.mono (by decide))) (ac (bB (dp _) (by decide +kernel) c5 (ac (aa.call (gP _) (gQ _) (aM.fn (oo.mono (by decide))) (ac aa.loc ai)) ai)) ai)))
 ao)
def sg:TP:=bX 1 [] 0 zk
theorem F8 {z}:bJ (aP z) 3 218 sg:=
 br (n:=1) (ps:=["value"]) (rest:=[]) ⟨rfl,by rfl,rfl,rfl,rfl⟩ (bL λ_ _ X=>aal rfl) Eg
noncomputable abbrev Hh:List Str:=["value","tree","total","node"]
abbrev u8:TS:=(aj (aX 2 (aF j9 (ad (af 2) (ad (aF gK (ad (aF f2 (ad (af 1) (ad (af 3) ak))) ak)) ak))))
 az)
abbrev CW:TS:=
 (aj (aX 2 (aF eH (ad (tK (.int 0)) ak)))
 (aj (eS (b9 (aF jV (ad (af 0) ak))) (b8 3) u8)
 (aj (aS (af 2))
 az)))
theorem Go {z}:ah (aP z) 4 (cF 36) Hh (cO 36) CW:=
 (ag (au.set (i:=2) (aa.call (eu _) (ey _) (aM.fn (gh.mono (by decide))) (ac aq ai)))
 (ag (dn (bU (aa.call (gP _) (gQ _) (aM.fn (oo.mono (by decide))) (ac aa.loc ai))) (gk.name (i:=3)) (ag (au.set (i:=2) (aa.call (LV _) (KZ _) (aM.fn (LP.mono (by decide))) (ac aa.loc (ac (aa.call (yu _) (yw _) (aM.fn (yH.mono (by decide))) (ac (aa.call (jF _) (j6 _) (aM.fn (jQ.mono (by decide))) (ac aa.loc (ac aa.loc ai))) ai)) ai))))
 ao))
 (ag (aE aa.loc)
 ao)))
def wa:TP:=bX 2 [] 2 CW
theorem H7 {z}:bJ (aP z) 5 225 wa:=
 br (n:=2) (ps:=["value","tree"]) (rest:=["total","node"]) ⟨rfl,by rfl,rfl,rfl,rfl⟩ (bL λ_ _ _ X=>aal rfl) Go
noncomputable abbrev Br:List Str:=["arguments","context","nodes"]
abbrev uO:TS:=
 (aj (bW (bT (ar bN (af 0) (be ak))) (aj (aS (cC 313 "node" (af 1)))
 az) az)
 (aj (aX 2 (aF jV (ad (ar aN (af 0) (tK (.int 0))) ak)))
 (aj (aS (fg (bT (ar g8 (af 2) (be ak))) (ar aN (af 2) (tK (.int 0))) (tK .none)))
 az)))
theorem z7 {z}:ah (aP z) 1 (cF 37) Br (cO 37) uO:=
 (ag (aZ (aC aa.loc (aY ai) bc) (ag (aE (bn aa.loc (dj _ _) (bO _) (jM _) rfl))
 ao) ao)
 (ag (au.set (i:=2) (aa.call (gP _) (gQ _) (aM.fn (oo.mono (by decide))) (ac (aa.sub aa.loc aq) ai)))
 (ag (aE (cA (aC aa.loc (aY ai) ik) (aa.sub aa.loc aq) bo))
 ao)))
def iY:TP:=bX 2 [] 1 uO
theorem CD {z}:bJ (aP z) 2 232 iY:=
 br (n:=2) (ps:=["arguments","context"]) (rest:=["nodes"]) ⟨rfl,by rfl,rfl,rfl,rfl⟩ (bL λ_ _ _ X=>aal rfl) z7
noncomputable abbrev A7:List Str:=["part","node","tree","told"]
abbrev u9:TS:=
 (aj (bW (bT (ar mU (af 1) (tK .none))) (aj (aS (tK (.str "")))
 az) az)
 (aj (bW (bT (ar bN (af 0) (tK (.str "name")))) (aj (aX 3 (bf 524 k6 (af 2) (ad (af 1) ak)))
 az) (aj (aX 3 (fg (bT (ar bN (af 0) (tK (.str "local-name")))) (bf 524 mN (af 2) (ad (af 1) ak)) (bf 524 qn (af 2) (ad (af 1) ak))))
 az))
 (aj (aS (fg (bT (ar mU (af 3) (tK .none))) (tK (.str "")) (af 3)))
 az)))
theorem z6 {z}:ah (aP z) 2 (cF 38) A7 (cO 38) u9:=
 (ag (aZ (aC aa.loc bo jE) (ag (aE aw)
 ao) ao)
 (ag (aZ (aC aa.loc aw bc) (ag (au.set (i:=3) (aQ aa.loc (ac aa.loc ai) (aM.fn (sS.mono (by decide))) (aW _ _) (sr _) (r8 _) (s8 _) s7))
 ao) (ag (au.set (i:=3) (cA (aC aa.loc aw bc) (aQ aa.loc (ac aa.loc ai) (aM.fn (At.mono (by decide))) (aW _ _) (z8 _) (Ap _) (Af _) z9) (aQ aa.loc (ac aa.loc ai) (aM.fn (DM.mono (by decide))) (aW _ _) (DN _) (Dd _) (DC _) Dw)))
 ao))
 (ag (aE (cA (aC aa.loc bo jE) aw aa.loc))
 ao)))
def iX:TP:=bX 3 [] 1 u9
theorem CJ {z}:bJ (aP z) 3 239 iX:=
 br (n:=3) (ps:=["part","node","tree"]) (rest:=["told"]) ⟨rfl,by rfl,rfl,rfl,rfl⟩ (bL λ_ _ _ _ X=>aal rfl) z6
noncomputable abbrev Db:List Str:=["value","tree","found","node"]
abbrev rd:TS:=(aj (aX 2 (ar cM (af 2) (aF i6 (ad (aF f2 (ad (af 1) (ad (af 3) ak))) ak))))
 az)
abbrev xd:TS:=
 (aj (bW (om (bT (qC yt (af 0)))) (aj (aS (aF i6 (ad (aF oe (ad (af 0) (ad (af 1) ak))) ak)))
 az) az)
 (aj (aX 2 (be ak))
 (aj (eS (b9 (af 0)) (b8 3) rd)
 (aj (aS (af 2))
 az))))
theorem A5 {z}:ah (aP z) 5 (cF 39) Db (cO 39) xd:=
 (ag (aZ (nz (aJ.val (qL aa.loc vo (i7 _) (mB _) (by decide +kernel)))) (ag (aE (aa.call (oV _) (pk _) (aM.fn (pu.mono (by decide))) (ac (aa.call (wL _) (wE _) (aM.fn (xn.mono (by decide))) (ac aa.loc (ac aa.loc ai))) ai)))
 ao) ao)
 (ag (au.set (i:=2) (aY ai))
 (ag (dn (bU aa.loc) (gk.name (i:=3)) (ag (au.set (i:=2) (aU aa.loc (aa.call (oV _) (pk _) (aM.fn (pu.mono (by decide))) (ac (aa.call (jF _) (j6 _) (aM.fn (jQ.mono (by decide))) (ac aa.loc (ac aa.loc ai))) ai)) cL))
 ao))
 (ag (aE aa.loc)
 ao))))
def iI:TP:=bX 2 [] 2 xd
theorem Ef {z}:bJ (aP z) 6 246 iI:=
 br (n:=2) (ps:=["value","tree"]) (rest:=["found","node"]) ⟨rfl,by rfl,rfl,rfl,rfl⟩ (bL λ_ _ _ X=>aal rfl) A5
noncomputable abbrev tu:List Str:=["value","context","tree","found","root","text","node"]
abbrev gG:TS:=(aj (aX 6 (cq .dict Jy (cC 313 "ids" (af 1)) (ad (af 5) ak)))
 (aj (bW (dw (bT (ar fM (af 6) (tK .none))) (dw (bT (ar (im true) (af 6) (af 3))) (dw (bT (ar bN (bf 524 gn (af 2) (ad (af 6) ak)) (af 4))) fU))) (aj (bY (cq .list bx (af 3) (ad (af 6) ak)))
 az) az)
 az))
abbrev l8:TS:=
 (aj (c9 [3,2] (bl (ad (cC 313 "tree" (af 1)) (ad (be ak) ak))))
 (aj (aX 4 (bf 524 gn (af 2) (ad (cC 313 "node" (af 1)) ak)))
 (aj (eS (b9 (aF iI (ad (af 0) (ad (af 2) ak)))) (b8 5) gG)
 (aj (aS (aF mu (ad (af 2) (ad (af 3) ak))))
 az))))
theorem rM {z}:ah (aP z) 6 (cF 40) tu (cO 40) l8:=
 (ag (cP (is:=[3,2]) (xs:=["tree","found"]) (aV (ac (bn aa.loc (dj _ _) (bO _) (eC _) rfl) (ac (aY ai) ai))) (.cons (i:=3) rfl (.cons (i:=2) rfl .nil)))
 (ag (au.set (i:=4) (aQ aa.loc (ac (bn aa.loc (dj _ _) (bO _) (jM _) rfl) ai) (aM.fn (nR.mono (by decide))) (aW _ _) (n7 _) (nH _) (nZ _) nP))
 (ag (dn (bU (aa.call (Ek _) (DK _) (aM.fn (Ef.mono (by decide))) (ac aa.loc (ac aa.loc ai)))) (gk.name (i:=5)) (ag (au.set (i:=6) (ba (k:=.dict) (bn aa.loc (dj _ _) (bO _) (x3 _) rfl) (ac aa.loc ai) ED afQ ahs))
 (ag (aZ (db (bp (aC aa.loc bo fE) (bp (aC aa.loc aa.loc lE) (bp (aC (aQ aa.loc (ac aa.loc ai) (aM.fn (nR.mono (by decide))) (aW _ _) (n7 _) (nH _) (nZ _) nP) aa.loc bc) dh)))) (ag (cg (ba (k:=.list) aa.loc (ac aa.loc ai) cf abm abn))
 ao) ao)
 ao)))
 (ag (aE (aa.call (Dl _) (Dy _) (aM.fn (DX.mono (by decide))) (ac aa.loc (ac aa.loc ai))))
 ao))))
def fS:TP:=bX 2 [] 5 l8
theorem tY {z}:bJ (aP z) 7 253 fS:=
 br (n:=2) (ps:=["value","context"]) (rest:=["tree","found","root","text","node"]) ⟨rfl,by rfl,rfl,rfl,rfl⟩ (bL λ_ _ _ X=>aal rfl) rM
noncomputable abbrev yv:List Str:=["node","tree","attribute"]
abbrev ni:TS:=(aj (bW (bT (ar bN (bf 524 k6 (af 1) (ad (af 2) ak)) (tK (.str "xml:lang")))) (aj (aS (bf 524 ir (af 1) (ad (af 2) ak)))
 az) az)
 az)
abbrev m8:TB:=(bT (ar fM (af 0) (tK .none)))
abbrev jb:TS:=(aj (bW (bT (ar bN (bf 524 gR (af 1) (ad (af 0) ak)) (tK (.str "element")))) (aj (eS (b9 (bf 524 fV (af 1) (ad (af 0) ak))) (b8 2) ni)
 az) az)
 (aj (aX 0 (bf 524 gJ (af 1) (ad (af 0) ak)))
 az))
abbrev qY:TS:=
 (aj (f8 m8 jb)
 (aj (aS (tK .none))
 az))
theorem wv {z}:ah (aP z) 2 (cF 41) yv (cO 41) qY:=
 (ag (eT (aC aa.loc bo fE) (ag (aZ (aC (aQ aa.loc (ac aa.loc ai) (aM.fn (jB.mono (by decide))) (aW _ _) (jG _) (jZ _) (jD _) kf) aw bc) (ag (dn (bU (aQ aa.loc (ac aa.loc ai) (aM.fn (ll.mono (by decide))) (aW _ _) (lu _) (lm _) (lM _) lJ)) (gk.name (i:=2)) (ag (aZ (aC (aQ aa.loc (ac aa.loc ai) (aM.fn (sS.mono (by decide))) (aW _ _) (sr _) (r8 _) (s8 _) s7) aw bc) (ag (aE (aQ aa.loc (ac aa.loc ai) (aM.fn (lS.mono (by decide))) (aW _ _) (lX _) (lP _) (lZ _) lQ))
 ao) ao)
 ao))
 ao) ao)
 (ag (au.set (i:=0) (aQ aa.loc (ac aa.loc ai) (aM.fn (pe.mono (by decide))) (aW _ _) (pq _) (o6 _) (pi _) pn))
 ao)))
 (ag (aE bo)
 ao))
def l4:TP:=bX 2 [] 1 qY
theorem x9 {z}:bJ (aP z) 3 260 l4:=
 br (n:=2) (ps:=["node","tree"]) (rest:=["attribute"]) ⟨rfl,by rfl,rfl,rfl,rfl⟩ (bL λ_ _ _ X=>aal rfl) wv
noncomputable abbrev Ic:List Str:=["text","context","told"]
abbrev Cv:TS:=
 (aj (aX 2 (aF l4 (ad (cC 313 "node" (af 1)) (ad (cC 313 "tree" (af 1)) ak))))
 (aj (bW (bT (ar mU (af 2) (tK .none))) (aj (aS (tK (.bool false)))
 az) az)
 (aj (c9 [0,2] (bl (ad (cq .str oW (af 2) ak) (ad (cq .str oW (af 0) ak) ak))))
 (aj (aS (CH (ar bN (af 2) (af 0)) (ar bN (iV (af 2) (tK .none) (ar cM (aF dP (ad (af 0) ak)) (tK (.int 1)))) (ar cM (af 0) (tK (.str "-"))))))
 az))))
theorem Gh {z}:ah (aP z) 3 (cF 42) Ic (cO 42) Cv:=
 (ag (au.set (i:=2) (aa.call (x5 _) (yN _) (aM.fn (x9.mono (by decide))) (ac (bn aa.loc (dj _ _) (bO _) (jM _) rfl) (ac (bn aa.loc (dj _ _) (bO _) (eC _) rfl) ai))))
 (ag (aZ (aC aa.loc bo jE) (ag (aE dm)
 ao) ao)
 (ag (cP (is:=[0,2]) (xs:=["told","text"]) (aV (ac (ba (k:=.str) aa.loc ai nC aeg aeh) (ac (ba (k:=.str) aa.loc ai nC aeg aeh) ai))) (.cons (i:=0) rfl (.cons (i:=2) rfl .nil)))
 (ag (aE (Fe (fm aa.loc aa.loc bc) (fm (dl aa.loc dz.none (dz.some (aU (bB (dp _) (by decide +kernel) c5 (ac aa.loc ai)) aq cL))) (aU aa.loc aw cL) bc)))
 ao))))
def pY:TP:=bX 2 [] 1 Cv
theorem Hw {z}:bJ (aP z) 4 267 pY:=
 br (n:=2) (ps:=["text","context"]) (rest:=["told"]) ⟨rfl,by rfl,rfl,rfl,rfl⟩ (bL λ_ _ _ X=>aal rfl) Gh
noncomputable abbrev wR:List Str:=["name","arguments","context"]
abbrev pB:TS:=
 (aj (bW (bT (ar bN (af 0) (tK (.str "last")))) (aj (aS (aF eH (ad (cC 313 "size" (af 2)) ak)))
 az) az)
 (aj (bW (bT (ar bN (af 0) (tK (.str "position")))) (aj (aS (aF eH (ad (cC 313 "position" (af 2)) ak)))
 az) az)
 (aj (bW (bT (ar bN (af 0) (tK (.str "count")))) (aj (aS (aF sg (ad (ar aN (af 1) (tK (.int 0))) ak)))
 az) az)
 (aj (bW (bT (ar bN (af 0) (tK (.str "sum")))) (aj (aS (aF wa (ad (ar aN (af 1) (tK (.int 0))) (ad (cC 313 "tree" (af 2)) ak))))
 az) az)
 (aj (bW (bT (ar bN (af 0) (tK (.str "id")))) (aj (aS (aF fS (ad (ar aN (af 1) (tK (.int 0))) (ad (af 2) ak))))
 az) az)
 (aj (bW (bT (ar bN (af 0) (tK (.str "lang")))) (aj (aS (aF pY (ad (aF oe (ad (ar aN (af 1) (tK (.int 0))) (ad (cC 313 "tree" (af 2)) ak))) (ad (af 2) ak))))
 az) az)
 (aj (aS (aF iX (ad (af 0) (ad (aF iY (ad (af 1) (ad (af 2) ak))) (ad (cC 313 "tree" (af 2)) ak)))))
 az)))))))
theorem vg {z}:ah (aP z) 7 (cF 43) wR (cO 43) pB:=
 (ag (aZ (aC aa.loc aw bc) (ag (aE (aa.call (eu _) (ey _) (aM.fn (gh.mono (by decide))) (ac (bn aa.loc (dj _ _) (bO _) (xA _) rfl) ai)))
 ao) ao)
 (ag (aZ (aC aa.loc aw bc) (ag (aE (aa.call (eu _) (ey _) (aM.fn (gh.mono (by decide))) (ac (bn aa.loc (dj _ _) (bO _) (rn _) rfl) ai)))
 ao) ao)
 (ag (aZ (aC aa.loc aw bc) (ag (aE (aa.call (wu _) (xe _) (aM.fn (F8.mono (by decide))) (ac (aa.sub aa.loc aq) ai)))
 ao) ao)
 (ag (aZ (aC aa.loc aw bc) (ag (aE (aa.call (zT _) (zl _) (aM.fn (H7.mono (by decide))) (ac (aa.sub aa.loc aq) (ac (bn aa.loc (dj _ _) (bO _) (eC _) rfl) ai))))
 ao) ao)
 (ag (aZ (aC aa.loc aw bc) (ag (aE (aa.call (sd _) (rZ _) (aM.fn (tY.mono (by decide))) (ac (aa.sub aa.loc aq) (ac aa.loc ai))))
 ao) ao)
 (ag (aZ (aC aa.loc aw bc) (ag (aE (aa.call (Hc _) (Il _) (aM.fn (Hw.mono (by decide))) (ac (aa.call (wL _) (wE _) (aM.fn (xn.mono (by decide))) (ac (aa.sub aa.loc aq) (ac (bn aa.loc (dj _ _) (bO _) (eC _) rfl) ai))) (ac aa.loc ai))))
 ao) ao)
 (ag (aE (aa.call (tU _) (r0 _) (aM.fn (CJ.mono (by decide))) (ac aa.loc (ac (aa.call (tM _) (sI _) (aM.fn (CD.mono (by decide))) (ac aa.loc (ac aa.loc ai))) (ac (bn aa.loc (dj _ _) (bO _) (eC _) rfl) ai)))))
 ao)))))))
def bF:TP:=bX 3 [] 0 pB
theorem jU {z}:bJ (aP z) 8 274 bF:=
 br (n:=3) (ps:=["name","arguments","context"]) (rest:=[]) ⟨rfl,by rfl,rfl,rfl,rfl⟩ (bL λ_ _ _ _ X=>aal rfl) vg
noncomputable abbrev C9:List Str:=["script","k","cell","big","mixed"]
abbrev qu:TS:=
 (aj (aX 2 (tK (.int 0)))
 (aj (bW (bT (ar (bw λa b=>decide (a < b)) (af 1) (aF dP (ad (af 0) ak)))) (aj (aX 2 (ar aN (af 0) (af 1)))
 az) az)
 (aj (aX 3 (aF FK (ad (aF eG (ad (af 2) ak)) (ad (aF eG (ad (ar (bh (· - ·) l9) (io fP (tK (.int 1))) (af 2)) ak)) ak))))
 (aj (aX 4 (ar (bh acl (λ_ b=>b≠0)) (aF eG (ad (ar (bh (· * ·) acd) (ar cM (ar cM (ar cM (ar (bh acl (λ_ b=>b≠0)) (aF eG (ad (af 3) ak)) (tK (.int 2147483629))) (ar (bh (· * ·) acd) (ar (bh (· * ·) acd) (tK (.int 7919)) (af 1)) (af 1))) (ar (bh (· * ·) acd) (tK (.int 31)) (af 1))) (tK (.int 17))) (tK (.int 48271))) ak)) (tK (.int 2147483647))))
 (aj (aS (be (ad (ar (bh (· * ·) acd) (af 3) (aF eG (ad (ar (bw λa b=>decide (a ≥ b)) (af 3) (ar (bh (λa n=>a ^ n.toNat) λa n=>0<=n/\n<=1000000/\a.natAbs < 2 ^ 64) (tK (.int 10)) (tK (.int 18)))) ak))) (ad (af 4) ak))))
 az)))))
theorem Cp {z}:ah (aP z) 0 (cF 51) C9 (cO 51) qu:=
 (ag (au.set (i:=2) aq)
 (ag (aZ (aC aa.loc (bB (dp _) (by decide +kernel) c5 (ac aa.loc ai)) lL) (ag (au.set (i:=2) (aa.sub aa.loc aa.loc))
 ao) ao)
 (ag (au.set (i:=3) (bB (M3 _) (by decide +kernel) LL (ac (cG (ic _) (by decide +kernel) gq (ac aa.loc ai)) (ac (cG (ic _) (by decide +kernel) gq (ac (aU (e9 aq e8) aa.loc mK) ai)) ai))))
 (ag (au.set (i:=4) (aU (cG (ic _) (by decide +kernel) gq (ac (aU (aU (aU (aU (aU (cG (ic _) (by decide +kernel) gq (ac aa.loc ai)) aq jv) (aU (aU aq aa.loc fw) aa.loc fw) cL) (aU aq aa.loc fw) cL) aq cL) aq fw) ai)) aq jv))
 (ag (aE (aY (ac (aU aa.loc (cG (ic _) (by decide +kernel) gq (ac (fm aa.loc (aU aq aq Ex) MM) ai)) fw) (ac aa.loc ai))))
 ao)))))
def pN:TP:=bX 2 [] 3 qu
theorem DG {z}:bJ (aP z) 1 535 pN:=
 br (n:=2) (ps:=["script","k"]) (rest:=["cell","big","mixed"]) ⟨rfl,by rfl,rfl,rfl,rfl⟩ (bL λ_ _ _ X=>aal rfl) Cp
noncomputable abbrev DZ:List Str:=["source","top","drawn"]
abbrev xw:TS:=
 (aj (bW (bT (ar (bw λa b=>decide (a > b)) (ar aN (af 0) (tK (.int 0))) (tK (.int 0)))) (aj (aX 2 (ar (bh acl (λ_ b=>b≠0)) (aF eG (ad (ar aN (af 0) (tK (.int 0))) ak)) (af 1)))
 (aj (AB (af 0) (tK (.int 0)) (ar (bh af4 ur) (ar aN (af 0) (tK (.int 0))) (af 1)))
 (aj (aS (af 2))
 az))) az)
 (aj (AB (af 0) (tK (.int 1)) (ar (bh acl (λ_ b=>b≠0)) (aF eG (ad (ar cM (ar (bh (· * ·) acd) (ar aN (af 0) (tK (.int 1))) (tK (.int 39373))) (tK (.int 7))) ak)) (tK (.int 2147483647))))
 (aj (aS (ar (bh acl (λ_ b=>b≠0)) (aF eG (ad (ar (bh af4 ur) (ar (bh acl (λ_ b=>b≠0)) (aF eG (ad (ar (bh (· * ·) acd) (ar aN (af 0) (tK (.int 1))) (ar aN (af 0) (tK (.int 1)))) ak)) (tK (.int 2147483629))) (tK (.int 32))) ak)) (af 1)))
 az)))
theorem Bc {z}:ah (aP z) 0 (cF 52) DZ (cO 52) xw:=
 (ag (aZ (aC (aa.sub aa.loc aq) aq m4) (ag (au.set (i:=2) (aU (cG (ic _) (by decide +kernel) gq (ac (aa.sub aa.loc aq) ai)) aa.loc jv))
 (ag (zZ aa.loc aq (aU (aa.sub aa.loc aq) aa.loc pD))
 (ag (aE aa.loc)
 ao))) ao)
 (ag (zZ aa.loc aq (aU (cG (ic _) (by decide +kernel) gq (ac (aU (aU (aa.sub aa.loc aq) aq fw) aq cL) ai)) aq jv))
 (ag (aE (aU (cG (ic _) (by decide +kernel) gq (ac (aU (aU (cG (ic _) (by decide +kernel) gq (ac (aU (aa.sub aa.loc aq) (aa.sub aa.loc aq) fw) ai)) aq jv) aq pD) ai)) aa.loc jv))
 ao)))
def cy:TP:=bX 2 [] 1 xw
theorem dB {z}:bJ (aP z) 1 542 cy:=
 br (n:=2) (ps:=["source","top"]) (rest:=["drawn"]) ⟨rfl,by rfl,rfl,rfl,rfl⟩ (bL λ_ _ _ X=>aal rfl) Bc
noncomputable abbrev F2:List Str:=["source","things"]
abbrev zq:TS:=
 (aj (aS (ar aN (af 1) (aF cy (ad (af 0) (ad (aF dP (ad (af 1) ak)) ak)))))
 az)
theorem DS {z}:ah (aP z) 1 (cF 53) F2 (cO 53) zq:=
 (ag (aE (aa.sub aa.loc (aa.call (dc _) (dg _) (aM.fn (dB.mono (by decide))) (ac aa.loc (ac (bB (dp _) (by decide +kernel) c5 (ac aa.loc ai)) ai)))))
 ao)
def cx:TP:=bX 2 [] 0 zq
theorem eN {z}:bJ (aP z) 2 549 cx:=
 br (n:=2) (ps:=["source","things"]) (rest:=[]) ⟨rfl,by rfl,rfl,rfl,rfl⟩ (bL λ_ _ _ X=>aal rfl) DS
noncomputable abbrev yE:List Str:=["source","tree","rows","around","name","local","uri","at","here","told","space","made"]
abbrev qX:TS:=
 (aj (vO [4,5,6] (aF cx (ad (af 0) (ad (be (ad (bl (ad (tK (.str "a")) (ad (tK (.str "a")) (ad (tK (.str "")) ak)))) (ad (bl (ad (tK (.str "b")) (ad (tK (.str "b")) (ad (tK (.str "")) ak)))) (ad (bl (ad (tK (.str "p:a")) (ad (tK (.str "a")) (ad (tK (.str "urn:p")) ak)))) ak)))) ak))))
 (aj (bY (cq .list bx (af 2) (ad (be (ad (bf 524 ec (af 1) (ad (ar aN (ar aN (af 2) (af 3)) (tK (.int 0))) (ad (af 4) (ad (af 6) (ad (af 5) ak))))) (ad (tK (.str "element")) (ad (af 4) (ad (af 5) (ad (af 6) (ad (tK (.str "")) (ad (af 3) ak)))))))) ak)))
 (aj (c9 [8,7] (bl (ad (ar (bh (· - ·) l9) (aF dP (ad (af 2) ak)) (tK (.int 1))) (ad (ar aN (ar aN (af 2) (io fP (tK (.int 1)))) (tK (.int 0))) ak))))
 (aj (bW (bT (ar bN (aF cy (ad (af 0) (ad (tK (.int 2)) ak))) (tK (.int 0)))) (aj (aX 9 (aF cx (ad (af 0) (ad (be (ad (tK (.str "1")) (ad (tK (.str "2.5")) (ad (tK (.str "x")) ak)))) ak))))
 (aj (bY (cq .list bx (af 2) (ad (be (ad (bf 524 b0 (af 1) (ad (af 8) (ad (tK (.str "n")) (ad (tK (.str "")) (ad (tK (.str "n")) (ad (af 9) ak)))))) (ad (tK (.str "attribute")) (ad (tK (.str "n")) (ad (tK (.str "n")) (ad (tK (.str "")) (ad (af 9) (ad (af 7) ak)))))))) ak)))
 az)) az)
 (aj (bW (bT (ar bN (aF cy (ad (af 0) (ad (tK (.int 2)) ak))) (tK (.int 0)))) (aj (c9 [10,9] (bl (ad (aF cx (ad (af 0) (ad (be (ad (tK (.str "en")) (ad (tK (.str "EN-us")) (ad (tK (.str "fr")) (ad (tK (.str "enx")) ak))))) ak))) (ad (tK (.str "http://www.w3.org/XML/1998/namespace")) ak))))
 (aj (aX 11 (bf 524 b0 (af 1) (ad (af 8) (ad (tK (.str "xml:lang")) (ad (af 10) (ad (tK (.str "lang")) (ad (af 9) ak)))))))
 (aj (bY (cq .list bx (af 2) (ad (be (ad (af 11) (ad (tK (.str "attribute")) (ad (tK (.str "xml:lang")) (ad (tK (.str "lang")) (ad (af 10) (ad (af 9) (ad (af 7) ak)))))))) ak)))
 az))) az)
 (aj (aS (af 7))
 az))))))
theorem xW {z}:ah (aP z) 5 (cF 54) yE (cO 54) qX:=
 (ag (C6 (is:=[4,5,6]) (aa.call (d3 _) (d4 _) (aM.fn (eN.mono (by decide))) (ac aa.loc (ac (aY (ac (aV (ac aw (ac aw (ac aw ai)))) (ac (aV (ac aw (ac aw (ac aw ai)))) (ac (aV (ac aw (ac aw (ac aw ai)))) ai)))) ai))) (.cons (i:=4) rfl (.cons (i:=5) rfl (.cons (i:=6) rfl .nil))))
 (ag (cg (ba (k:=.list) aa.loc (ac (aY (ac (aQ aa.loc (ac (aa.sub (aa.sub aa.loc aa.loc) aq) (ac aa.loc (ac aa.loc (ac aa.loc ai)))) (aM.fn (gS.mono (by decide))) (aW _ _) (gY _) (gU _) (gX _) gT) (ac aw (ac aa.loc (ac aa.loc (ac aa.loc (ac aw (ac aa.loc ai)))))))) ai) cf abm abn))
 (ag (cP (is:=[8,7]) (xs:=["at","here"]) (aV (ac (aU (bB (dp _) (by decide +kernel) c5 (ac aa.loc ai)) aq mK) (ac (aa.sub (aa.sub aa.loc (e9 aq e8)) aq) ai))) (.cons (i:=8) rfl (.cons (i:=7) rfl .nil)))
 (ag (aZ (aC (aa.call (dc _) (dg _) (aM.fn (dB.mono (by decide))) (ac aa.loc (ac aq ai))) aq bc) (ag (au.set (i:=9) (aa.call (d3 _) (d4 _) (aM.fn (eN.mono (by decide))) (ac aa.loc (ac (aY (ac aw (ac aw (ac aw ai)))) ai))))
 (ag (cg (ba (k:=.list) aa.loc (ac (aY (ac (aQ aa.loc (ac aa.loc (ac aw (ac aw (ac aw (ac aa.loc ai))))) (aM.fn (fX.mono (by decide))) (aW _ _) (gf _) (gp _) (f9 _) fY) (ac aw (ac aw (ac aw (ac aw (ac aa.loc (ac aa.loc ai)))))))) ai) cf abm abn))
 ao)) ao)
 (ag (aZ (aC (aa.call (dc _) (dg _) (aM.fn (dB.mono (by decide))) (ac aa.loc (ac aq ai))) aq bc) (ag (cP (is:=[10,9]) (xs:=["told","space"]) (aV (ac (aa.call (d3 _) (d4 _) (aM.fn (eN.mono (by decide))) (ac aa.loc (ac (aY (ac aw (ac aw (ac aw (ac aw ai))))) ai))) (ac aw ai))) (.cons (i:=10) rfl (.cons (i:=9) rfl .nil)))
 (ag (au.set (i:=11) (aQ aa.loc (ac aa.loc (ac aw (ac aa.loc (ac aw (ac aa.loc ai))))) (aM.fn (fX.mono (by decide))) (aW _ _) (gf _) (gp _) (f9 _) fY))
 (ag (cg (ba (k:=.list) aa.loc (ac (aY (ac aa.loc (ac aw (ac aw (ac aw (ac aa.loc (ac aa.loc (ac aa.loc ai)))))))) ai) cf abm abn))
 ao))) ao)
 (ag (aE aa.loc)
 ao))))))
def gN:TP:=bX 4 [] 8 qX
theorem yB {z}:bJ (aP z) 6 556 gN:=
 br (n:=4) (ps:=["source","tree","rows","around"]) (rest:=["name","local","uri","at","here","told","space","made"]) ⟨rfl,by rfl,rfl,rfl,rfl⟩ (bL λ_ _ _ _ _ X=>aal rfl) xW
noncomputable abbrev DW:List Str:=["source","tree","rows","open_ones","turn","way","told","around","made"]
abbrev lT:TS:=(aj (bW (dw (bT (ar (bw λa b=>decide (a > b)) (aF dP (ad (af 3) ak)) (tK (.int 2)))) (dw (bT (ar bN (aF cy (ad (af 0) (ad (tK (.int 3)) ak))) (tK (.int 0)))) fU)) (aj (bY (cq .list FA (af 3) ak))
 az) az)
 (aj (aX 5 (fg (bT (ar (bw λa b=>decide (a > b)) (aF dP (ad (af 3) ak)) (tK (.int 1)))) (aF cy (ad (af 0) (ad (tK (.int 5)) ak))) (tK (.int 0))))
 (aj (bW (bT (ar (bw λa b=>decide (a < b)) (af 5) (tK (.int 3)))) (aj (bY (cq .list bx (af 3) (ad (aF gN (ad (af 0) (ad (af 1) (ad (af 2) (ad (ar aN (af 3) (io fP (tK (.int 1)))) ak))))) ak)))
 az) (aj (c9 [7,6] (bl (ad (aF cx (ad (af 0) (ad (be (ad (tK (.str "1")) (ad (tK (.str " 3 ")) (ad (tK (.str "-1")) (ad (tK (.str "b a")) (ad (tK (.str "q")) ak)))))) ak))) (ad (ar aN (af 3) (io fP (tK (.int 1)))) ak))))
 (aj (aX 8 (fg (bT (ar bN (af 5) (tK (.int 3)))) (bf 524 fF (af 1) (ad (ar aN (ar aN (af 2) (af 7)) (tK (.int 0))) (ad (af 6) ak))) (bf 524 eh (af 1) (ad (ar aN (ar aN (af 2) (af 7)) (tK (.int 0))) (ad (af 6) ak)))))
 (aj (bY (cq .list bx (af 2) (ad (be (ad (af 8) (ad (ar aN (be (ad (tK (.str "text")) (ad (tK (.str "comment")) ak))) (ar (bh (· - ·) l9) (af 5) (tK (.int 3)))) (ad (tK (.str "")) (ad (tK (.str "")) (ad (tK (.str "")) (ad (af 6) (ad (af 7) ak)))))))) ak)))
 az))))
 az)))
abbrev we:TS:=
 (aj (c9 [3,2] (bl (ad (be (ad (be (ad (bf 524 fJ (af 1) ak) (ad (tK (.str "root")) (ad (tK (.str "")) (ad (tK (.str "")) (ad (tK (.str "")) (ad (tK (.str "")) (ad (tK .none) ak)))))))) ak)) (ad (be (ad (tK (.int 0)) ak)) ak))))
 (aj (eS (mR (ad (ar cM (tK (.int 3)) (aF cy (ad (af 0) (ad (tK (.int 4)) ak)))) ak)) (b8 4) lT)
 (aj (aS (af 2))
 az)))
theorem Cw {z}:ah (aP z) 6 (cF 55) DW (cO 55) we:=
 (ag (cP (is:=[3,2]) (xs:=["rows","open_ones"]) (aV (ac (aY (ac (aY (ac (aQ aa.loc ai (aM.fn (jd.mono (by decide))) (aW _ _) (jo _) (jk _) (je _) jj) (ac aw (ac aw (ac aw (ac aw (ac aw (ac bo ai)))))))) ai)) (ac (aY (ac aq ai)) ai))) (.cons (i:=3) rfl (.cons (i:=2) rfl .nil)))
 (ag (dn (mA (ac (aU aq (aa.call (dc _) (dg _) (aM.fn (dB.mono (by decide))) (ac aa.loc (ac aq ai))) cL) ai) (pV _)) (gk.name (i:=4)) (ag (aZ (db (bp (aC (bB (dp _) (by decide +kernel) c5 (ac aa.loc ai)) aq m4) (bp (aC (aa.call (dc _) (dg _) (aM.fn (dB.mono (by decide))) (ac aa.loc (ac aq ai))) aq bc) dh))) (ag (cg (ba (k:=.list) aa.loc ai EN ahq ahr))
 ao) ao)
 (ag (au.set (i:=5) (cA (aC (bB (dp _) (by decide +kernel) c5 (ac aa.loc ai)) aq m4) (aa.call (dc _) (dg _) (aM.fn (dB.mono (by decide))) (ac aa.loc (ac aq ai))) aq))
 (ag (aZ (aC aa.loc aq lL) (ag (cg (ba (k:=.list) aa.loc (ac (aa.call (wU _) (wy _) (aM.fn (yB.mono (by decide))) (ac aa.loc (ac aa.loc (ac aa.loc (ac (aa.sub aa.loc (e9 aq e8)) ai))))) ai) cf abm abn))
 ao) (ag (cP (is:=[7,6]) (xs:=["told","around"]) (aV (ac (aa.call (d3 _) (d4 _) (aM.fn (eN.mono (by decide))) (ac aa.loc (ac (aY (ac aw (ac aw (ac aw (ac aw (ac aw ai)))))) ai))) (ac (aa.sub aa.loc (e9 aq e8)) ai))) (.cons (i:=7) rfl (.cons (i:=6) rfl .nil)))
 (ag (au.set (i:=8) (cA (aC aa.loc aq bc) (aQ aa.loc (ac (aa.sub (aa.sub aa.loc aa.loc) aq) (ac aa.loc ai)) (aM.fn (vz.mono (by decide))) (aW _ _) (vY _) (vV _) (vS _) vE) (aQ aa.loc (ac (aa.sub (aa.sub aa.loc aa.loc) aq) (ac aa.loc ai)) (aM.fn (rN.mono (by decide))) (aW _ _) (rC _) (rg _) (rR _) rz)))
 (ag (cg (ba (k:=.list) aa.loc (ac (aY (ac aa.loc (ac (aa.sub (aY (ac aw (ac aw ai))) (aU aa.loc aq mK)) (ac aw (ac aw (ac aw (ac aa.loc (ac aa.loc ai)))))))) ai) cf abm abn))
 ao))))
 ao))))
 (ag (aE aa.loc)
 ao)))
def qb:TP:=bX 2 [] 7 we
theorem DV {z}:bJ (aP z) 7 563 qb:=
 br (n:=2) (ps:=["source","tree"]) (rest:=["rows","open_ones","turn","way","told","around","made"]) ⟨rfl,by rfl,rfl,rfl,rfl⟩ (bL λ_ _ _ X=>aal rfl) Cw
noncomputable abbrev DJ:List Str:=["rows","at","found"]
abbrev lY:TB:=(bT (ar fM (af 1) (tK .none)))
abbrev l5:TS:=(aj (bY (cq .list bx (af 2) (ad (af 1) ak)))
 (aj (aX 1 (ar aN (ar aN (af 0) (af 1)) (tK (.int 6))))
 az))
abbrev xr:TS:=
 (aj (aX 2 (be ak))
 (aj (f8 lY l5)
 (aj (aS (af 2))
 az)))
theorem Bj {z}:ah (aP z) 0 (cF 56) DJ (cO 56) xr:=
 (ag (au.set (i:=2) (aY ai))
 (ag (eT (aC aa.loc bo fE) (ag (cg (ba (k:=.list) aa.loc (ac aa.loc ai) cf abm abn))
 (ag (au.set (i:=1) (aa.sub (aa.sub aa.loc aa.loc) aq))
 ao)))
 (ag (aE aa.loc)
 ao)))
def mx:TP:=bX 2 [] 1 xr
theorem u3 {z}:bJ (aP z) 1 570 mx:=
 br (n:=2) (ps:=["rows","at"]) (rest:=["found"]) ⟨rfl,by rfl,rfl,rfl,rfl⟩ (bL λ_ _ _ X=>aal rfl) Bj
noncomputable abbrev BW:List Str:=["rows","at"]
abbrev yg:TE:=(ar aN (af 1) (tK (.int 5)))
abbrev x4:TB:=(dw (bT (ar bN (ar aN (af 1) (tK (.int 1))) (tK (.str "text")))) (dw (bT (ar (im false) (af 2) (aF mx (ad (af 3) (ad (af 0) ak))))) fU))
abbrev u4:TS:=
 (aj (bW (bT (ar (im true) (ar aN (ar aN (af 0) (af 1)) (tK (.int 1))) (be (ad (tK (.str "element")) (ad (tK (.str "root")) ak))))) (aj (aS (ar aN (ar aN (af 0) (af 1)) (tK (.int 5))))
 az) az)
 (aj (aS (cq .str qj (tK (.str "")) (ad (c7 2 [1,0] (AA (ad (af 0) ak)) (ix [0,1]) x4 yg) ak)))
 az))
theorem Am {z}:ah (aP z) 1 (cF 57) BW (cO 57) u4:=
 (ag (aZ (aC (aa.sub (aa.sub aa.loc aa.loc) aq) (aY (ac aw (ac aw ai))) lE) (ag (aE (aa.sub (aa.sub aa.loc aa.loc) aq))
 ao) ao)
 (ag (aE (ba (k:=.str) aw (ac (ez (tgts:=["place","row"]) (cn:=["at","rows"]) (caps:=[1,0]) ⟨by rfl,by rfl,by rfl,by rfl,rfl,by rfl,by rfl,(xY (i:=0) (j:=1) (by decide +kernel) rfl rfl (by rfl) (by rfl)),(iA (db (bp (aC (aa.sub aa.loc aq) aw bc) (bp (aC aa.loc (aa.call (sW _) (tB _) (aM.fn (u3.mono (by decide))) (ac aa.loc (ac aa.loc ai))) mQ) dh)))),(aa.sub aa.loc aq)⟩ (zY (ac aa.loc ai) (sU _))) ai) vK afR afS))
 ao))
def fO:TP:=bX 2 [] 0 u4
theorem kb {z}:bJ (aP z) 2 575 fO:=
 vt (n:=2) (ps:=["rows","at"]) (rest:=[]) (dVs:=[]) ⟨rfl,by rfl,rfl,rfl,rfl⟩ (bL λ_ _ _ X=>aal rfl) rfl (λ_=>.nil) (by decide +kernel) (by rfl) (by decide +kernel) Am (λ_ _ _ h=>h)
noncomputable abbrev Ak:List Str:=["text","told","plain","whole","many"]
abbrev ia:TE:=(af 0)
abbrev nX:TB:=(bT (ar (im true) (af 0) (tK (.str "0123456789"))))
abbrev rX:TS:=
 (aj (aX 1 (cq .str GZ (af 0) (ad (tK (.str " ")) ak)))
 (aj (aX 2 (fg (bT (ar bN (iV (af 1) (tK .none) (tK (.int 1))) (tK (.str "-")))) (iV (af 1) (tK (.int 1)) (tK .none)) (af 1)))
 (aj (aX 3 (fg (bT (ar bN (iV (af 2) (io fP (tK (.int 2))) (tK .none)) (tK (.str ".5")))) (iV (af 2) (tK .none) (io fP (tK (.int 2)))) (af 2)))
 (aj (bW (lH (bT (ar bN (af 3) (tK (.str "")))) (lH (bT (ar g8 (c7 1 [] (CF (af 3)) (b8 0) nX ia) (be ak))) il)) (aj (aS (tK .none))
 az) az)
 (aj (aX 4 (ar cM (ar (bh (· * ·) acd) (tK (.int 2)) (aF eG (ad (af 3) ak))) (aF eG (ad (ar g8 (af 3) (af 2)) ak))))
 (aj (aS (fg (bT (ar bN (af 1) (af 2))) (af 4) (ar (bh (· - ·) l9) (tK (.int 0)) (af 4))))
 az))))))
theorem yG {z}:ah (aP z) 0 (cF 58) Ak (cO 58) rX:=
 (ag (au.set (i:=1) (ba (k:=.str) aa.loc (ac aw ai) Im PySem.F.slot_str_strip PySem.F.type_str_strip))
 (ag (au.set (i:=2) (cA (aC (dl aa.loc dz.none (dz.some aq)) aw bc) (dl aa.loc (dz.some aq) dz.none) aa.loc))
 (ag (au.set (i:=3) (cA (aC (dl aa.loc (dz.some (e9 aq e8)) dz.none) aw bc) (dl aa.loc dz.none (dz.some (e9 aq e8))) aa.loc))
 (ag (aZ (db (eA (aC aa.loc aw bc) (eA (aC (ez (tgts:=["sign"]) (cn:=[]) (caps:=[]) ⟨by rfl,by rfl,by rfl,by rfl,rfl,by rfl,by rfl,(c4.name (i:=0) (by decide +kernel) rfl (by rfl)),(iA (aC aa.loc aw lE)),aa.loc⟩ (C4 aa.loc)) (aY ai) ik) k8))) (ag (aE bo)
 ao) ao)
 (ag (au.set (i:=4) (aU (aU aq (cG (ic _) (by decide +kernel) gq (ac aa.loc ai)) fw) (cG (ic _) (by decide +kernel) gq (ac (fm aa.loc aa.loc ik) ai)) cL))
 (ag (aE (cA (aC aa.loc aa.loc bc) aa.loc (aU aq aa.loc mK)))
 ao))))))
def fZ:TP:=bX 1 [] 4 rX
theorem qO {z}:bJ (aP z) 1 580 fZ:=
 br (n:=1) (ps:=["text"]) (rest:=["told","plain","whole","many"]) ⟨rfl,by rfl,rfl,rfl,rfl⟩ (bL λ_ _ X=>aal rfl) yG
noncomputable abbrev Fh:List Str:=["texts","some"]
abbrev Co:TE:=(aF fZ (ad (af 0) ak))
abbrev y8:TS:=
 (aj (aX 1 (c7 1 [] (b9 (af 0)) (b8 0) dZ Co))
 (aj (bW (bT (ar (im false) (tK .none) (af 1))) (aj (aS (bl (ad (tK (.int 0)) (ad (tK (.int 0)) ak))))
 az) az)
 (aj (aS (fg (bT (ar bN (ar (bh acl (λ_ b=>b≠0)) (aF xF (ad (af 1) ak)) (tK (.int 2))) (tK (.int 0)))) (bl (ad (ar (bh af4 ur) (aF xF (ad (af 1) ak)) (tK (.int 2))) (ad (tK (.int 1)) ak))) (bl (ad (aF xF (ad (af 1) ak)) (ad (tK (.int 2)) ak)))))
 az)))
theorem Ec {z}:ah (aP z) 1 (cF 59) Fh (cO 59) y8:=
 (ag (iz (j:=1) (tgts:=["text"]) (cn:=[]) (caps:=[]) ⟨by rfl,by rfl,by rfl,by rfl,rfl,by rfl,by rfl,(c4.name (i:=0) (by decide +kernel) rfl (by rfl)),eV,(aa.call (oY _) (oQ _) (aM.fn (qO.mono (by decide))) (ac aa.loc ai))⟩ (bU aa.loc) rfl (by rfl))
 (ag (aZ (aC bo aa.loc mQ) (ag (aE (aV (ac aq (ac aq ai))))
 ao) ao)
 (ag (aE (cA (aC (aU (bB (A8 _) (by decide +kernel) ye (ac aa.loc ai)) aq jv) aq bc) (aV (ac (aU (bB (A8 _) (by decide +kernel) ye (ac aa.loc ai)) aq pD) (ac aq ai))) (aV (ac (bB (A8 _) (by decide +kernel) ye (ac aa.loc ai)) (ac aq ai)))))
 ao)))
def jx:TP:=bX 1 [] 1 y8
theorem xh {z}:bJ (aP z) 2 585 jx:=
 br (n:=1) (ps:=["texts"]) (rest:=["some"]) ⟨rfl,by rfl,rfl,rfl,rfl⟩ (bL λ_ _ X=>aal rfl) Ec
noncomputable abbrev Ar:List Str:=["rows","at","asked","place","row","told"]
abbrev g9:TS:=(aj (bW (dw (bT (ar bN (ar aN (af 4) (tK (.int 2))) (tK (.str "xml:lang")))) (dw (bT (ar bN (ar aN (af 4) (tK (.int 6))) (af 3))) (dw (bT (ar bN (ar aN (ar aN (af 0) (af 3)) (tK (.int 1))) (tK (.str "element")))) fU))) (aj (c9 [2,5] (bl (ad (cq .str oW (ar aN (af 4) (tK (.int 5))) ak) (ad (cq .str oW (af 2) ak) ak))))
 (aj (aS (CH (ar bN (af 5) (af 2)) (lO (ar bN (ar aN (cq .str lA (af 5) (ad (tK (.str "-")) ak)) (tK (.int 0))) (af 2)) (ar (im false) (tK (.str "-")) (af 5)))))
 az)) az)
 az)
abbrev nI:TS:=(aj (eS (b9 (af 0)) (b8 4) g9)
 az)
abbrev td:TS:=
 (aj (eS (b9 (aF mx (ad (af 0) (ad (af 1) ak)))) (b8 3) nI)
 (aj (aS (tK (.bool false)))
 az))
theorem yI {z}:ah (aP z) 1 (cF 60) Ar (cO 60) td:=
 (ag (dn (bU (aa.call (sW _) (tB _) (aM.fn (u3.mono (by decide))) (ac aa.loc (ac aa.loc ai)))) (gk.name (i:=3)) (ag (dn (bU aa.loc) (gk.name (i:=4)) (ag (aZ (db (bp (aC (aa.sub aa.loc aq) aw bc) (bp (aC (aa.sub aa.loc aq) aa.loc bc) (bp (aC (aa.sub (aa.sub aa.loc aa.loc) aq) aw bc) dh)))) (ag (cP (is:=[2,5]) (xs:=["told","asked"]) (aV (ac (ba (k:=.str) (aa.sub aa.loc aq) ai nC aeg aeh) (ac (ba (k:=.str) aa.loc ai nC aeg aeh) ai))) (.cons (i:=2) rfl (.cons (i:=5) rfl .nil)))
 (ag (aE (Fe (fm aa.loc aa.loc bc) (qI (fm (aa.sub (ba (k:=.str) aa.loc (ac aw ai) tT afH afI) aq) aa.loc bc) (fm aw aa.loc mQ))))
 ao)) ao)
 ao))
 ao))
 (ag (aE dm)
 ao))
def iq:TP:=bX 3 [] 3 td
theorem Ac {z}:bJ (aP z) 2 592 iq:=
 br (n:=3) (ps:=["rows","at","asked"]) (rest:=["place","row","told"]) ⟨rfl,by rfl,rfl,rfl,rfl⟩ (bL λ_ _ _ _ X=>aal rfl) yI
noncomputable abbrev xG:List aab:=[.ref 177,.type "Exception",.type "BaseException",.type "object"]
def Jx (h:Heap):Prop:=∀G:Prop,(∀nm q N bs RG sn sub ab col dd k0 k1 k2 k3 k5,h.get? 202=some (excClassObj nm q 202 N bs xG RG sn sub ab col dd k0 k1 k2 k3 k5 "Exception.__new__")->G)->G
noncomputable abbrev eq (T:Addr):Obj:={ cls:=.ref 202,data:=.fields #[.ref T,.none,.none,.none,.bool false,.none] }
noncomputable abbrev lW (rest:List aab):Obj:={ cls:=.type "tuple",data:=.seq rest.toArray }
structure o4 (K:Frag):Prop where
 cls:∀G:Prop,(∀nm q N bs RG sn sub ab col dd k0 k1 k2 k3 k5,K.lookup 202=some (excClassObj nm q 202 N bs xG RG sn sub ab col dd k0 k1 k2 k3 k5 "Exception.__new__")->G)->G
 init:abX K (.ref 202) "__init__"=some (some (.ref 174))
 fn:typeIn K (.ref 174)=some (.type "function")
 call:specialIn K (.ref 202) "__call__"=some (some (.builtin "type.__call__"))
 inst:instIn K (.ref 202) (.type "type")=some true
 self:mroIn K 202 (.ref 202)=some true
 exc:mroIn K 202 (.type "Exception")=some true
 base:mroIn K 202 (.type "BaseException")=some true
 sets:abX K (.ref 202) "__setattr__"=some (some (.builtin "object.__setattr__"))
 msg:abX K (.ref 202) "message"=some none
 obj:mroIn K 202 (.type "object")=some true
 dict:(clsIn K 202).any (·.hasDict)=true
 cinit:findCls K (.type "Exception") (.type "type") "__init__"=some (.val (.builtin "Exception.__init__"))
 name:nsIn K aai ("Exception":Str)=some none
theorem Mp (w:aaq):o4 (KK w):=⟨λ_ k=>k _ _ _ _ _ _ _ _ _ _ _ _ _ _ _ rfl,by rfl,by rfl,by rfl,by rfl,by rfl,by rfl,by rfl,by rfl,by rfl,by rfl,by rfl,by rfl,by rfl⟩
section
variable {prog:ade}{w:aaq}{A:abt}{R:afW->aah->Prop}{h:Heap}{g:Array GenState}{d:Drawn}{t:Nat}{os:OsState}{K:Frag}
theorem Mh {rest:List aab}(hP:Jx h)(hq:R (.ok (.ret (.ref (h.objs.size+1)))) ⟨(h.push (lW rest)).push (eq h.objs.size),g,d,t,os⟩)(Wo:rest.length<=abA) :
  adx (abb prog w) A (.builtin "Exception.__new__" ⟨.ref 202::rest,[]⟩) R ⟨h,g,d,t,os⟩:=by
 refine hP _ λnm q N bs RG sn sub ab col dd k0 k1 k2 k3 k5 hC=>?_
 have F:=aeL
 have ae4:=F.ends
 have Xc:(aeD 202::xG).contains (.type "Exception")=true:=by decide +kernel
 have hcA:(aeD 202::xG).contains (.type "AttributeError")=false:=by decide +kernel
 have hcN:(aeD 202::xG).contains (.type "NameError")=false:=by decide +kernel
 refine codeAny_builtinAt F.entry ?_
 unfold aee.«BaseException.__new__»
 refine PySem.wpAt_bind ?_
 show PySem.wpAt _ _ _ (stack >>= _) _ _ _
 refine PySem.wpAt_bind (PySem.wpAt_stack λp below=>ahZ ?_)
 wp_walk
 refine ahZ ?_
 rw [F.owner]
 repeat (first | with_reducible refine wpAny_madeHere_exc F.canon hC ?_ | with_reducible refine aeu hC ?_ | (with_reducible refine agf hC ?_; first | rw [Xc] | rw [hcA] | rw [hcN]) | wp_step)
 show R _ _
 rw [adM]
 exact hq
theorem Jk {M:ah2}{E:aab->aah->Prop}{rest:List aab}{Q:Unit->aah->Prop}(hP:Jx h)(hq:Q () ⟨h,g,d,t,os⟩):wpAny M A (agZ "Exception.__new__" ⟨.ref 202::rest,[]⟩) Q E ⟨h,g,d,t,os⟩:=
 hP _ λnm q N bs RG sn sub ab col dd k0 k1 k2 k3 k5 hC=>wpAny_check_new_subU aeL (by decide +kernel) .base hC hq
theorem KT {rest:List aab}(X:K.In h)(P:o4 K)(Wo:rest.length<=abA)
  (hq:adx (abb prog w) (A.under (.builtin "type.__call__" ⟨.ref 202::rest,[]⟩)) (.call (.ref 174) ⟨.ref (h.objs.size+1)::rest,[]⟩) (InitBack (h.objs.size+1) R) ⟨(h.push (lW rest)).push (eq h.objs.size),g,d,t,os⟩) :
  adx (abb prog w) A (.call (.ref 202) ⟨rest,[]⟩) R ⟨h,g,d,t,os⟩:=by
 have hP:Jx h:=λG k=>P.cls G λnm q N bs RG sn sub ab col dd k0 k1 k2 k3 k5 e=>k nm q N bs RG sn sub ab col dd k0 k1 k2 k3 k5 (X _ _ e)
 have hP':=hP
 refine hP' _ λnm q N bs RG sn sub ab col dd k0 k1 k2 k3 k5 hC=>?_
 have call:=looks_specialIn (M:=abb prog w) X P.call
 have typ:=looks_instIn (M:=abb prog w) X P.inst
 have self:=looks_mroIn (M:=abb prog w) X P.self
 have made:aio (abb prog w) h (Bind.madeBy (.ref 202)) (some "Exception.__new__"):=λA Q E s k q=>by
  obtain⟨hh,g,d,t,os⟩:=s
  exact wpAny_madeBy_exc (k _ _ hC) q
 have hm:aio (abb prog w) h (mroOf (.ref 202)) (.ref 202::xG):=λA Q E s k q=>by
  obtain⟨hh,g,d,t,os⟩:=s
  exact wpAny_mroOf_exc (k _ _ hC) q
 refine ahh ?_
 show wpAny _ _ (callAny (.ref 202) _) _ _ _
 refine nd_load hC ?_
 show wpAny _ _ (aiF (.ref 202) _) _ _ _
 unfold aiF
 refine aac (call.at ?_)
 dsimp only
 rw [tc_bind]
 refine aac (aa8 (aac (aa8 ?_)))
 refine aa8 (a:=Fin.again (.call (.builtin "type.__call__") ⟨.ref 202::rest,[]⟩)) (abf rfl ?_)
 refine codeAny_call_builtin_at (agu _ (by decide +kernel)) entry_typeCall (check_slot tc_kind tc_split typ (tc_args _ _ _) ?_)
 unfold aee.«type.__call__»
 repeat (first | with_reducible refine aey ?_ | lk)
 refine codeAny_call_builtin_code (agu _ PySem.F.excBase_Exception.quiet) (Jk hP ?_)
 refine Mh hP ?_ Wo
 have k:∀b o,h.get? b=some o->((h.push (lW rest)).push (eq h.objs.size)).get? b=some o:=λb o e=>aak _ (aak _ e)
 have hx:((h.push (lW rest)).push (eq h.objs.size)).get? (h.objs.size+1)=some (eq h.objs.size):=by heap_get
 have t1:aio (abb prog w) ((h.push (lW rest)).push (eq h.objs.size)) (typeOf (.ref (h.objs.size+1))) (.ref 202):=(Looks.ld hx).andThen .now
 have s1:=self.keeps k
 have i1:=(looks_findIn (M:=abb prog w) X P.init).keeps k
 have b1:=(bind_fn (M:=abb prog w) X (.ref (h.objs.size+1)) P.fn).keeps k
 unfold isInstance callSpecial? specialOf
 repeat (first | with_reducible refine aey ?_ | lk)
 refine aix hq λr s' z=>?_
 rcases r with e | (v | _ | _ | _) <;> first | exact z | exact z.elim | skip
 obtain⟨rfl,z⟩:=z
 exact aa8 (aa8 z)
theorem KI {rest:List aab}{e T:Addr}(X:K.In h)(P:o4 K)(he:h.get? e=some (eq T))(Wo:rest.length<=abA)
  (hq:∀h',(∀b o,b≠e->h.get? b=some o->h'.get? b=some o)->h'.get? e=some (eq h.objs.size)->R (.ok (.ret .none)) ⟨h',g,d,t,os⟩) :
  adx (abb prog w) A (.call (.builtin "Exception.__init__") ⟨.ref e::rest,[]⟩) R ⟨h,g,d,t,os⟩:=by
 have F:=aeL
 refine P.cls _ λnm q N bs RG sn sub ab col dd k0 k1 k2 k3 k5 Uh=>?_
 have hC:=X _ _ Uh
 have Xc:(aeD 202::xG).contains (.type "Exception")=true:=by decide +kernel
 have adI:=F.noStar
 refine af6 F.init.plain F.initEntry ?_
 simp only [agZ,F.initKind,F.initSplit,F.initRow]
 repeat (first | with_reducible refine aeu he ?_ | with_reducible refine aeu hC ?_ | (with_reducible refine agf hC ?_; rw [Xc]) | wp_step)
 refine wpAny_onRaise ?_
 rw [show ∀(a b:String) (n:Nat),Bind.check ⟨.positional,"*","Exception",.self,[⟨"args",.varPos,false⟩]⟩ a b n (List.map (λx=>x.fst) ({ pos:=aeD e::rest }:Args).kw)=pure () from
  λa b n=>check_star_args _ _ _ _ _ _]
 refine aa8 ?_
 unfold aee.«BaseException.__init__»
 have WW:(h.push (lW rest)).get? e=some (eq T):=aak _ he
 wp_walk
 refine hq _ (λb o hb ho=>?_) ?_
 ·exact (adJ _ _ (aec hb)).trans (aak _ ho)
 ·exact adc _ WW rfl
theorem ME {s:aah}{e T:Addr}{v:aab}{tk:Tok}(X:K.In s.heap)(P:o4 K)(he:s.heap.get? e=some (eq T))
  (hq:∀h' PV,(∀b o,b≠e->s.heap.get? b=some o->h'.get? b=some o)->(∃dx,h'.get? e=some { eq T with dict:=dx })->R (.ok (.ret .none)) { s with heap:=h',toks:=PV }) :
  adx (abb prog w) A (.call (.builtin "object.__setattr__") ⟨[.ref e,.str ("message":Str) tk,v],[]⟩) R s:=by
 have I:InstAt s.heap e (eq T) 202 none:=⟨he,rfl,rfl,trivial⟩
 have SF:=PySem.F.store_object
 refine P.cls _ λnm q N bs RG sn sub ab col dd k0 k1 k2 k3 k5 Uh=>?_
 have hm:aio (abb prog w) s.heap (mroOf (.ref 202)) (.ref 202::xG):=by
  intro A Q E s' k q
  obtain⟨hh,g,d,t,os⟩:=s'
  exact wpAny_mroOf_exc (k _ _ (X _ _ Uh)) q
 have sub:aio (abb prog w) s.heap (isInstance (.ref e) (.type "object")) true:=I.type.andThen (looks_mroIn X P.obj)
 refine af6 SF.slot.plain SF.entry (@check_slot (abb prog w) _ _ s "object.__setattr__" "object" "__setattr__" (.ref e) [.str ("message":Str) tk,v] [] _ SF.kind SF.split sub (SF.args (.ref e) (.str ("message":Str) tk) v) ?_)
 rw [osa_eq,refuse_eq]
 refine aac (aac (I.type.here (aac (hm.here ?_))))
 rw [refuseLoop_ref,refuseLoop_ref,PySem.F.store_Exception.passes]
 refine aa8 (aac (I.type.here (aac ((looks_findIn X P.msg).here (aac ((Looks.now:aio _ _ (Builtin.ObjectAttr.storeTaker? none) none).here ?_))))))
 dsimp only
 obtain⟨cd,UR,Wm⟩:=any_some P.dict
 refine aac (aa8 (aac (aac (wpAny_loadPart he ?_))))
 dsimp only
 refine aac ((looks_clsIn X UR).here ?_)
 rw [Wm]
 have UX:(s.heap.push agj).get? e=some (eq T):=aak _ he
 have Yv:e≠s.heap.objs.size:=abc (abk he)
 refine aac (wpAny_alloc (aac (wpAny_update UX (aa8 ?_))))
 dsimp only
 have SN:((s.heap.push agj).update e λo=>{ cls:=o.cls,dict:=some s.heap.objs.size,data:=o.data,slots:=o.slots }).get? e=some { eq T with dict:=some s.heap.objs.size }:=adc _ UX rfl
 have hD:((s.heap.push agj).update e λo=>{ cls:=o.cls,dict:=some s.heap.objs.size,data:=o.data,slots:=o.slots }).get? s.heap.objs.size=some agj:=
  (adJ _ _ Yv).trans (abz _ rfl)
 have hk:∀b o,b≠e->s.heap.get? b=some o->((s.heap.push agj).update e λo=>{ cls:=o.cls,dict:=some s.heap.objs.size,data:=o.data,slots:=o.slots }).get? b=some o:=λb o hb ho =>
  (adJ _ _ (aec hb)).trans (aak _ ho)
 generalize ((s.heap.push agj).update e λo=>{ cls:=o.cls,dict:=some s.heap.objs.size,data:=o.data,slots:=o.slots })=PM at SN hD hk ⊢
 refine aac (aa8 (aac ?_))
 unfold nsSet
 refine aac (aac (ad8 (aa8 (aac (wpAny_mkText (aac (wpAny_loadPart hD ?_)))))))
 dsimp only
 have c:(!(#[]:Array adB).any (·.key.isStr ("message":Str)) && (#[]:Array adB).any (·.refKey))=false:=by simp
 rw [aRefKeyMayBeTheName_at,c]
 refine wpAny_updatePart hD ?_
 generalize (if Str.cps ("message":Str) |>.isEmpty then 0 else reduceHash ((abb prog w).w.params.strHash (Str.cps ("message":Str))))=hh
 have e':Obj.putName ("message":Str) hh (.str ("message":Str) s.toks) v agj={ cls:=.type "dict",data:=.dict #[⟨hh,.str ("message":Str) s.toks,v⟩] 1 }:=by
  rw [Obj.putName_eq]; simp [Obj.putNameByArray]
 have D':=adc (Obj.putName ("message":Str) hh (.str ("message":Str) s.toks) v) hD (by rw [e']; rfl)
 rw [e'] at D'
 refine aac (wpAny_lookBehind D' (pastItsLine_dict (by rw [agI]; show 1<=_; decide)) ?_)
 refine aa8 (hq _ _ (λb o hb ho=>?_) ⟨some s.heap.objs.size,?_⟩)
 ·exact (adJ _ _ (abT (abk ho))).trans (hk b o hb ho)
 ·exact (adJ _ _ (aec Yv)).trans SN
theorem MK {s:aah}{E:aab->aah->Prop}{e T:Addr}{v:aab}{Q:Unit->aah->Prop}(X:K.In s.heap)(P:o4 K)(he:s.heap.get? e=some (eq T))
  (hq:∀h' PV,(∀b o,b≠e->s.heap.get? b=some o->h'.get? b=some o)->(∃dx,h'.get? e=some { eq T with dict:=dx })->Q () { s with heap:=h',toks:=PV }) :
  wpAny (abb prog w) A (setAttr (.ref e) "message" v) Q E s:=
 set_plain (od:=none) X ⟨he,rfl,rfl,trivial⟩ P.sets (ME (s:={ s with toks:=s.toks+1 }) X P he λh' PV k d=>hq h' PV k d)
end
theorem Fr.but {g h h':Heap}{L e:Addr}{m:Str->Option aab}(F:Fr g L h m)(k:∀b o,b≠e->h.get? b=some o->h'.get? b=some o)(hL:e≠L)(hg:g.get? e=none):Fr g L h' m:=by
 refine bv λGG PD=>?_
 obtain⟨⟨o,es,ep,ho,r⟩,keep,above⟩:=F
 refine PD ?_
 exact⟨⟨o,es,ep,k _ _ (aec hL) ho,r⟩,λb o e'=>k b o (λq=>by rw [q,hg] at e'; cases e') (keep b o e'),above⟩
theorem News.but {g h h':Heap}{L e:Addr}{news:aO}(N:News g L h news)(k:∀b o,b≠e->h.get? b=some o->h'.get? b=some o)(hn:∀p∈news,p.1≠e):News g L h' news:=λp hp =>
 ⟨k _ _ (hn p hp) (N p hp).1,(N p hp).2⟩
noncomputable abbrev mD:List Stmt:=ij 30 0
noncomputable abbrev fW:abJ:=ig 30 0
section
variable {α:bC}{ℓ:Nat}
theorem Lk {A:abt}{g:Heap}{L e T:Addr}{env:Env}{s:aah}{m:Str->Option aab}{news:aO}{v:aab}{Qc:Flow->aah->Prop}{E:aab->aah->Prop}{p1 p2 p3 p4 p5 p6 p7 p8 p9 p10:Pos}
  (P:o4 α.K) (C:Cf α ℓ A g L) (D:Ce fW env) (Qz:env.locals=L) (F:Fr g L s.heap m) (N:News g L s.heap news) (he:s.heap.get? e=some (eq T)) (heL:e≠L) (heg:g.get? e=none) (P6:∀p∈news,p.1≠e)
  (hs:m ("self":Str)=some (.ref e)) (hm:m ("message":Str)=some v)
  (h:∀h' PV,Fr g L h' m->News g L h' news->(∃dx T',h'.get? e=some { eq T' with dict:=dx })->Qc .next { s with heap:=h',toks:=PV })
  (hp:(p2.endLine == p5.line)=true) (WY:∀env,aen (.Call (.Attribute (.Name "Exception" p1) "__init__" p2) [.Name "self" p3,.Name "message" p4] [] p5) none p6.line env=pure false)
  (acD:∀env,aen (.Name "message" p9) (some (.Attribute (.Name "self" p7) "message" p8)) p10.line env=pure false) (hb:∀env QQ,af1 (.Name "Exception" p1) "__init__" env QQ=QQ) :
  wpAny (abb α.prog α.w) A (execs [.Expr (.Call (.Attribute (.Name "Exception" p1) "__init__" p2) [.Name "self" p3,.Name "message" p4] [] p5) p6,.Assign [.Attribute (.Name "self" p7) "message" p8] (.Name "message" p9) p10] env) Qc E s:=by
 have hk:env.scope.kind=.function:=D.scope ▸ D.kind
 have kind:∀x,env.kindOf x=fW.names.lookup x:=λx=>by unfold ab9; rw [D.scope]
 subst Qz
 have loc:∀(x:Str) (vx:aab) (p:Pos) (P0:aah) (Q:aab->aah->Prop),fW.names.lookup x=some .local->m x=some vx->(x == ("__debug__":Str))=false->Fr g env.locals P0.heap m->Q vx P0->wpAny (abb α.prog α.w) A (eval (.Name x p) env) Q E P0:=
  λx vx p P0 Q hl hv hd Qx q=>agl (aew hk ((kind x).trans hl) Qx.ns hv q) hd
 have pl:fB [.Name "self" p3,.Name "message" p4]:=.cons (λ_ _=>rfl) (.cons (λ_ _=>rfl) .nil)
 refine abY (ai3 ?_ (by unfold aiO; rw [hk]; rfl) (WY env))
 refine qf pl (by show 2 < 30; decide) (hb env) hp (fv C D F P.name (by rfl) (by decide +kernel) ?_ (by rfl) (by decide +kernel))
 refine method_type F C.X (kitMeta_of (by decide +kernel)) (by decide +kernel) (v:=.builtin "Exception.__init__") P.cinit (by rfl) ?_
 refine bR (α:=α) pl (Pp:=λ_=>True) (λh _=>e7 _ h) (aeE (he:=rfl) (loc _ _ _ _ _ (by rfl) hs (by decide +kernel) F (aeE (he:=rfl) (loc _ _ _ _ _ (by rfl) hm (by decide +kernel) F (ahw ⟨trivial,?_⟩)))))
 refine aey (KI (C.X.keeps F.keep) P he (by show 1<=abA; decide) λh₁ UE UX=>?_)
 have Qx:=Fr.but F UE heL heg
 have QU:=News.but N UE P6
 refine abY (afO (loc _ _ _ _ _ (by rfl) hm (by decide +kernel) Qx (loc _ _ _ _ _ (by rfl) hs (by decide +kernel) Qx ?_)) (acD env))
 refine MK (C.X.keeps Qx.keep) P UX λPM PN VG hd=>?_
 exact adU (h _ _ (Fr.but Qx VG heL heg) (News.but QU VG P6) (let ⟨dx,q⟩:=hd; ⟨dx,_,q⟩))
end
structure Gl (h h':Heap)(e:Addr):Prop where
 keeps:∀b o,h.get? b=some o->h'.get? b=some o
 new:h.get? e=none
 there:∃dx T,h'.get? e=some { eq T with dict:=dx }
section
variable {α:bC}{ℓ:Nat}
theorem KM {A:abt}{h₀:Heap}{L:Addr}{m:Str->Option aab}{s:aah}{st:MS}{φ:bk}{news:aO}{v:aab}{R:afW->aah->Prop}{name qual:Str}{params:adC}{dV kV Qw pm P4 ct oc:aab}{an od:Option Addr}{Ri:Array (Option aab)}
  (P:o4 α.K) (Dn:u5 α 174 name qual params mD fW dV kV Qw pm P4 ct oc an od Ri) (hb:jP α (fnOf name qual params mD fW dV kV Qw pm an P4 ct) 2 [("self":Str),("message":Str)] [])
  (C:Cf α (ℓ+2) A h₀ L) (S:Sn α h₀ L m s.heap st φ news)
  (hq:∀h' PV e,Gl s.heap h' e->R (.ok (.ret (.ref e))) { s with heap:=h',toks:=PV }):adx (abb α.prog α.w) A (.call (.ref 202) ⟨[v],[]⟩) R s:=by
 obtain⟨hh,gg,d,tk,os⟩:=s
 have acX:=C.X.keeps S.F.keep
 refine KT acX P (by show 1<=abA; decide) ?_
 have C1:=C.under 202 [v]
 refine C1.frC λA₀ outer Ql B hA hf RW=>?_
 have Qx:Fr h₀ L ((hh.push (lW [v])).push (eq hh.objs.size)) m:=(S.F.push _).push _
 have QU:News h₀ L ((hh.push (lW [v])).push (eq hh.objs.size)) ((hh.objs.size+1,eq hh.objs.size)::(hh.objs.size,lW [v])::news):=by
  have:=(S.N.push S.F (lW [v])).push (S.F.push _) (eq hh.objs.size)
  rwa [adM] at this
 have Xz:α.K.In ((hh.push (lW [v])).push (eq hh.objs.size)):=C.X.keeps Qx.keep
 refine oJ (cl:=[]) B Qx QU C.T.nolimit hA hf RW (Xz _ _ Dn.look) rfl (agq Xz Dn.code) (by have:=C1.depth; walk_at "o") (hb _ [.ref (hh.objs.size+1),v] Xz rfl)
  (λy hy=>?_) (λg L' h₁ FG F' N' B' Ps PR Ua=>?_) (by decide +kernel) Dn.co Dn.gen Dn.kind
 ·simp only [abr,aib,List.zip_nil_left,aby,abu,or_false] at hy
  rcases hy with rfl | rfl <;> rfl
 have Ne:=N' _ (.head _)
 have C2:Cf α ℓ ((A.under (.builtin "type.__call__" ⟨.ref 202::[v],[]⟩)).deeper (envX qual fW L' 174 P4 [])) g L':=by
  refine⟨C.ok,⟨_,Ql::outer,envX qual fW L' 174 P4 [],B',?_,rfl,Dn.kind⟩,C1.hand,?_,?_,C1.inner⟩
  ·show (List.cons _ <$> (A.under (.builtin "type.__call__" ⟨.ref 202::[v],[]⟩)).frames)=_; rw [hA]; rfl
  ·have h1:=C1.depth; show (A.under (.builtin "type.__call__" ⟨.ref 202::[v],[]⟩)).depth+1+3 * ℓ+3 < _; walk_at "o"
  ·have h1:=C1.units; show (A.under (.builtin "type.__call__" ⟨.ref 202::[v],[]⟩)).units+3+10 * ℓ+200 < _; walk_at "o"
 refine Lk (e:=hh.objs.size+1) (T:=hh.objs.size) (v:=v) (news:=(hh.objs.size,lW [v])::news) P C2 ⟨rfl,Dn.kind,rfl,rfl⟩ rfl F' (λp hp=>N' p (.tail _ hp)) Ne.1 Ne.2.1 Ne.2.2 (λp hp=>?_) (by rfl) (by rfl) (λh' PV RF RI hd=>?_)
  rfl (λ_=>rfl) (λ_=>rfl) (λ_ _=>rfl)
 ·rcases bM hp with rfl | hp
  ·exact abc (abv _)
  ·exact abc (abK (abk (S.N p hp).1))
 ·refine⟨L',_,_,RF,RI,λ_ _=>⟨rfl,hq h' PV _ ⟨λb o hb=>?_,adX (agG _),hd⟩⟩⟩
  by_cases hn:∃p∈news,p.1=b
  ·obtain⟨p,hp,rfl⟩:=hn
   have:=(S.N p hp).1
   rw [show hh.get? p.1=some o from hb] at this
   rw [this]
   exact (RI p (.tail _ hp)).1
  ·refine RF.keep b o (Ua b o (aak _ (aak _ hb)) λp hp e=>?_)
   have hlb:=abk hb
   rcases bM hp with rfl | hp
   ·exact absurd e (abT (abK hlb))
   ·rcases bM hp with rfl | hp
    ·exact absurd e (abT hlb)
    ·exact hn ⟨p,hp,e⟩
end
section
variable {α:bC}{ℓ:Nat}{sc:abJ}{slots:List Str}
theorem AO {A:abt}{env:Env}{s:aah}{x:Sem aab}{Q:Flow->aah->Prop}{E:aab->aah->Prop}(P:o4 α.K)(hh:A.handled=none)
  (h:wpAny (abb α.prog α.w) A x (λv P0=>∃e dx T,v=.ref e/\α.K.In P0.heap/\P0.heap.get? e=some { eq T with dict:=dx }/\E (.ref e) P0) E s) :
  wpAny (abb α.prog α.w) A (raiseStmt env (some x) none) Q E s:=by
 have Xc:(aeD 202::xG).contains (.type "BaseException")=true:=by decide +kernel
 unfold raiseStmt
 refine aac (abR h (λv P0 h₁=>?_) λ_ _ x=>x)
 refine bv λGG PD=>?_
 obtain⟨e,dx,T,rfl,X,he,hE⟩:=h₁
 refine PD ?_
 refine P.cls _ λnm q N bs RG sn sub ab col dd k0 k1 k2 k3 k5 Uh=>?_
 have hC:=X _ _ Uh
 obtain⟨hp,g,d,tk,os⟩:=P0
 repeat (first | with_reducible refine aeu he ?_ | with_reducible refine aeu hC ?_ | (with_reducible refine agf hC ?_; rw [Xc]) | wp_step)
 exact wpAny_raiseNew_none hh hE
theorem Hg (P:o4 α.K)(M:ah2)(h:Heap)(X:α.K.In h):∃k,(k=ag5\/k=agn\/k=afv)/\aio M h (ai1 (.ref 202)) k:=by
 refine P.cls _ λnm q N bs RG sn sub ab col dd k0 k1 k2 k3 k5 Uh=>?_
 exact⟨.machine,.inr (.inl rfl),λA Q E s k q=>by
  obtain⟨hp,g,d,tk,os⟩:=s
  exact wpAny_keeperOf_exc (k _ _ (X _ _ Uh)) q⟩
theorem IX {A:abt}{g:Heap}{L:Addr}{env:Env}{m:Str->Option aab}{s:aah}{st:MS}{φ:bk}{news:aO}{ρ:aG}{Q:Flow->aah->Prop}{E:aab->aah->Prop}{c:Expr}{z:Str}{p1 p2 p3:Pos}{name qual:Str}{params:adC}{dV kV Qw pm P4 ct oc:aab}{an od:Option Addr}{Ri:Array (Option aab)}
  (P:o4 α.K) (Dn:u5 α 174 name qual params mD fW dV kV Qw pm P4 ct oc an od Ri) (hb:jP α (fnOf name qual params mD fW dV kV Qw pm an P4 ct) 2 [("self":Str),("message":Str)] [])
  (gl:nsIn α.K aai ("PathFault":Str)=some (some (.ref 202))) (hc:aa α (ℓ+2) sc slots c (tK (.str z))) (QL:∀rest env,ack (c::rest) env=(false,eval c env)::ack rest env)
  (C:Cf α (ℓ+2) A g L) (D:Ce sc env) (S:Sn α g L m s.heap st φ news) (Lo:Lc α slots env L m news φ ρ) (hx:sc.names.lookup ("PathFault":Str)=some .globalImplicit)
  (hE:∀h₁ Px PC h' PV e,Sn α g L m h₁ st Px PC->a9 [α.tab] φ news Px PC->Gl h₁ h' e->E (.ref e) { s with heap:=h',toks:=PV }) :
  wpAny (abb α.prog α.w) A (exec (.Raise (some (.Call (.Name "PathFault" p1) [c] [] p2)) none p3) env) Q E s:=by
 have hT:ae α (ℓ+2) sc slots [c] (ad (tK (.str z)) ak):=ac hc ai QL
 have key:wpAny (abb α.prog α.w) A (eval (.Call (.Name "PathFault" p1) [c] [] p2) env) (λv P0=>∃e dx T,v=.ref e/\α.K.In P0.heap/\P0.heap.get? e=some { eq T with dict:=dx }/\E (.ref e) P0) E s:=by
  refine agT (aim S.F C.X (afV C.T) gl ?_ D.glob (D.scope ▸ D.kind) (by unfold ab9; rw [D.scope]; exact hx) (by decide +kernel))
  refine bR (α:=α) hT.plain (Pp:=α.K.In) (Hg P _) (hT.run A g L env C D s m st φ news ρ S Lo p2 (λVs Pt=>Vs=[.str z]/\Pt=st) _ E ⟨rfl,rfl⟩ λVs Pt Px PC vs h₁ PA Pv Py PO Pw _=>⟨C.X.keeps Pv.F.keep,?_⟩)
  obtain⟨rfl,rfl⟩:=Pw
  cases PO with | cons r1 r2 =>
  cases r2
  refine aey (KM P Dn hb C Pv λh' PV e M=>?_)
  obtain⟨dx,T,he⟩:=M.there
  exact⟨e,dx,T,rfl,(C.X.keeps Pv.F.keep).keeps M.keeps,he,hE _ _ _ _ _ _ Pv Py M⟩
 rw [arm_exec_Raise]
 refine aac (adl (AO P C.hand ?_))
 exact aac (abR key (λv P0 h₁=>aac (adl (aa8 h₁))) λ_ _ x=>x)
end
section
variable {M:ah2}{A:abt}{E:aab->aah->Prop}{s':aah}{base g h:Heap}{outer:List Env}{L a e:Addr}{m:Str->Option aab}{name:Str}{scope:abJ}{cd:aab}{Q:Unit->aah->Prop}{news:aO}
theorem C7 (K:ai0 A base outer g)(hx:Gl h s'.heap e)(F:Fr g L h m)(N:News g L h news)
  (hQ:∀h',ajm base outer e (.ref 202) news h'->g.UpToSlots h'->Q () { s' with heap:=h' }) (hk:scope.kind=.function) :
  wpAny M (A.deeper (envOf name scope L a cd)) (leaving (envOf name scope L a cd) (.ref e)) Q E s':=by
 have K':=K.push (name:=name) (a:=a) (cd:=cd) F hk
 have QX:∀env∈(envOf name scope L a cd::outer),∀b,env.frame=some b->b∈(envOf name scope L a cd::outer).filterMap (·.frame):=λenv he b hb=>adQ.mpr ⟨env,he,hb⟩
 have st:base.StaysIn (aiG h ((envOf name scope L a cd::outer).filterMap (·.frame))):=λb o q=>aiP _ (K'.stays b o q) λhm=>by
  rw [(K'.frames.mem hm).1] at q; cases q
 have hl:∀q∈news,(aiG h ((envOf name scope L a cd::outer).filterMap (·.frame))).get? q.1=some q.2/\base.get? q.1=none:=λq hq=>by
  refine⟨aiP _ (N q hq).1 λhm=>?_,fresh_of_stays K.stays (N q hq).2.2⟩
  obtain⟨env,he,hf⟩:=adQ.mp hm
  rcases bM he with rfl | he
  ·exact (N q hq).2.1 (abi hf).symm
  ·obtain⟨o,ho,_⟩:=(K.frames.mem (adQ.mpr ⟨env,he,hf⟩)).2
   rw [(N q hq).2.2] at ho; cases ho
 obtain⟨dx,T,he⟩:=hx.there
 have hen:(aiG h ((envOf name scope L a cd::outer).filterMap (·.frame))).get? e=none:=by
  cases q:(aiG h ((envOf name scope L a cd::outer).filterMap (·.frame))).get? e with
  | none=>rfl
  | some o=>have:=aij _ q; rw [hx.new] at this; cases this
 refine wpAny_leaving_firstW (a0:=.ref T) K'.stack ((funFrames_hide K'.frames QX).of_keeps λb o hb _=>⟨o,hx.keeps b o hb,rfl⟩) rfl he (λb o hb=>hx.keeps b o (aij _ hb)) hen rfl rfl rfl λh' hL=>?_
 refine bv λGG PD=>?_
 obtain⟨k1,⟨_,_,k2⟩,k3,k4⟩:=hL
 refine PD ?_
 exact hQ h' ⟨_,.ref T,st,hl,k1,hen,k2,k3⟩ (((ad9 F.keep).trans (ad9 hx.keeps)).trans k4)
theorem Fo (K:ai0 A base outer g)(R:ajm base (envOf name scope L a cd::outer) e (.ref 202) news s'.heap)(Rk:g.UpToSlots s'.heap)
  (hQ:∀h',ajm base outer e (.ref 202) news h'->g.UpToSlots h'->Q () { s' with heap:=h' }) :
  wpAny M (A.deeper (envOf name scope L a cd)) (leaving (envOf name scope L a cd) (.ref e)) Q E s':=by
 obtain⟨B,a0,hB,hl,Tu⟩:=R
 exact wpAny_leaves_onW (Around.frames_deeper K.stack) rfl Tu λh' x1 x2=>hQ h' ⟨B,a0,hB,hl,x1⟩ (Rk.trans x2)
end
section
variable (α:bC)
def XP (A:abt)(own:List Addr)(h₀:Heap)(s:aah)(st:MS)(φ:bk)(news:aO)(E:aab->aah->Prop):Prop:=
 ∀e Ps PG Pu h' PV,st <+: Ps->Wd α Ps PG Pu->a9 own φ news PG Pu->(∀l,A.frames=some l->ajm α.hB l e (.ref 202) Pu h')->h₀.UpToSlots h'->E (.ref e) { s with heap:=h',toks:=PV }
def uX (ℓ:Nat)(f:Addr)(S:List MV->MS->Prop):Prop:=
 ∀A h₀ L,Cf α ℓ A h₀ L->∀s m st φ news Vs vs,Sn α h₀ L m s.heap st φ news->bg α.hB news φ Vs vs->∀(R:afW->aah->Prop),S Vs st->XP α A [α.tab] h₀ s st φ news (λe s'=>R (.error e) s') ->
  adx (abb α.prog α.w) A (.call (.ref f) ⟨vs,[]⟩) R s
def dY (ℓ:Nat)(sc:abJ)(slots:List Str)(e:Expr)(P:aG->MS->Prop):Prop:=
 ∀A h₀ L env,Cf α ℓ A h₀ L->Ce sc env->∀s m st φ news ρ,Sn α h₀ L m s.heap st φ news->Lc α slots env L m news φ ρ->∀Qc E,P ρ st->XP α A [α.tab] h₀ s st φ news E->wpAny (abb α.prog α.w) A (eval e env) Qc E s
def fR (ℓ:Nat)(sc:abJ)(slots:List Str)(c:Stmt)(P:aG->MS->Prop):Prop:=
 ∀A h₀ L env,Cf α ℓ A h₀ L->Ce sc env->∀s m st φ news ρ,Sn α h₀ L m s.heap st φ news->Lc α slots env L m news φ ρ->dT α slots env L φ news->∀Qc E,P ρ st->XP α A (ft α env) h₀ s st φ news E->wpAny (abb α.prog α.w) A (exec c env) Qc E s
def bQ (ℓ:Nat)(sc:abJ)(slots:List Str)(cs:List Stmt)(P:aG->MS->Prop):Prop:=
 ∀A h₀ L env,Cf α ℓ A h₀ L->Ce sc env->∀s m st φ news ρ,Sn α h₀ L m s.heap st φ news->Lc α slots env L m news φ ρ->dT α slots env L φ news->∀Qc E,P ρ st->XP α A (ft α env) h₀ s st φ news E->wpAny (abb α.prog α.w) A (execs cs env) Qc E s
def XF (own:List Addr)(h₀:Heap)(L:Addr)(s:aah)(st:MS)(φ:bk)(news:aO)(E:aab->aah->Prop):Prop:=
 ∀QJ h₁ Px PC h' PV e,Sn α h₀ L QJ h₁ st Px PC->a9 own φ news Px PC->Gl h₁ h' e->E (.ref e) { s with heap:=h',toks:=PV }
def sT (ℓ:Nat)(sc:abJ)(slots:List Str)(cs:List Stmt)(P:aG->MS->Prop):Prop:=
 ∀A h₀ L env,Cf α ℓ A h₀ L->Ce sc env->∀s m st φ news ρ,Sn α h₀ L m s.heap st φ news->Lc α slots env L m news φ ρ->dT α slots env L φ news->∀Qc E,P ρ st->XP α A (ft α env) h₀ s st φ news E->XF α (ft α env) h₀ L s st φ news E ->
  wpAny (abb α.prog α.w) A (execs cs env) Qc E s
end
section
variable {α:bC}{ℓ:Nat}{sc:abJ}{slots:List Str}{own:List Addr}{h₀:Heap}{s:aah}{st Pt:MS}{φ Px:bk}{news PC:aO}{A:abt}{E:aab->aah->Prop}
theorem XP.after (X:XP α A own h₀ s st φ news E)(hp:st <+: Pt)(g:a9 own φ news Px PC)(h₁:Heap)(PA:Nat):XP α A own h₀ { s with heap:=h₁,toks:=PA } Pt Px PC E:=
 λe Ps PG Pu h' PV p w g' r u=>X e Ps PG Pu h' PV (hp.trans p) w (g.trans g') r u
theorem XP.tab {env:Env}(X:XP α A (ft α env) h₀ s st φ news E):XP α A [α.tab] h₀ s st φ news E:=
 λe Ps PG Pu h' PV p w g' r u=>X e Ps PG Pu h' PV p w (dE g') r u
theorem uX.mono {Rz:Nat}{f:Addr}{S:List MV->MS->Prop}(h:uX α ℓ f S)(hl:ℓ<=Rz):uX α Rz f S:=λA h₀ L C=>h A h₀ L (C.mono hl)
theorem bQ.x {cs:List Stmt}{P:aG->MS->Prop}(h:bQ α ℓ sc slots cs P):sT α ℓ sc slots cs P:=λA h₀ L env C D s m st φ news ρ S Lo O Qc E p x _=>h A h₀ L env C D s m st φ news ρ S Lo O Qc E p x
theorem lb {f:Addr}{name qual:Str}{params:adC}{body:List Stmt}{scope:abJ}{dV kV Qw pm P4 ct oc:aab}{an od:Option Addr}{Ri:Array (Option aab)}{n:Nat}{ps rest:List Str}{S:List MV->MS->Prop}{P:aG->MS->Prop}
  (D:u5 α f name qual params body scope dV kV Qw pm P4 ct oc an od Ri) (hb:jP α (fnOf name qual params body scope dV kV Qw pm an P4 ct) n ps []) (PL:n=ps.length)
  (Qt:(ps++rest).Nodup) (Qz:((ps++rest).all λx=>scope.names.lookup x == some .local)=true) (QB:(scope.names.all λx=>x.2 != .cell)=true)
  (hT:sT α ℓ scope (ps++rest) body P)
  (SR:∀Vs st,S Vs st->Vs.length=n/\P (Vs.map some++abS rest.length none) st):uX α (ℓ+1) f S:=by
 intro A h₀ L C s m st φ news Vs vs PB r R t X
 obtain⟨hn,t⟩:=SR Vs st t
 have RT:vs.length=n:=by rw [r.length]; exact hn
 refine C.frC λA₀ outer Ql B hA hf RW=>?_
 have XK:=C.X
 have Q7:∀x∈scope.names,x.2≠.cell:=λx hx=>by simpa using iW QB x hx
 have QF:∀x∈ps++rest,scope.names.lookup x=some .local:=λx hx=>eq_of_beq (iW Qz x hx)
 refine oJ (cl:=[]) B PB.F PB.N C.T.nolimit hA hf RW ((XK.keeps PB.F.keep) _ _ D.look) rfl (agq (XK.keeps PB.F.keep) D.code) (by have:=C.depth; walk_at "o") (hb s vs (XK.keeps PB.F.keep) RT)
  (λy hy=>QF _ (aap _ (aej hy).1)) (λg L' h₁ FG F' N' B' Ps PR Ua=>?_) Q7 D.co D.gen D.kind
 have rr:bg α.hB news φ Vs (vs++[]):=by rw [abr]; exact r
 refine hT (A.deeper (envX qual scope L' f P4 [])) g L' (envX qual scope L' f P4 []) (C.deeper hA B' rfl D.kind) ⟨rfl,D.kind,rfl,rfl⟩ _ _ st φ news _ ⟨F',N',PB.W⟩ (Ko QF rr (by rw [abr,RT]; exact PL) Qt) (AF QF Q7 Qt) _ _ t ?_ ?_
 ·intro e Pz PE PS PM PN hp Vi PH Xv Xo
  refine Fo (name:=qual) (scope:=scope) (a:=f) (cd:=P4) B' (Xv _ (by show (A.frames.map _)=_; rw [hA]; rfl)) Xo λP2 ac2 acs=>?_
  have gg:a9 [α.tab] φ news PE PS:=PH
  exact X e Pz PE PS P2 PN hp Vi gg (λl hl=>by rw [hA] at hl; cases hl; exact ac2) ((ad9 Ps).trans acs)
 ·intro QJ PM PE PS P2 P7 e PF PH M
  refine C7 (name:=qual) (scope:=scope) (a:=f) (cd:=P4) B' M PF.F PF.N (λQN ac6 acq=>?_) D.kind
  have gg:a9 [α.tab] φ news PE PS:=PH
  exact X e st PE PS QN P7 (aaf _) PF.W gg (λl hl=>by rw [hA] at hl; cases hl; exact ac6) ((ad9 Ps).trans acq)
end
section
variable {α:bC}{ℓ:Nat}{sc:abJ}{slots:List Str}
structure jJ (α:bC)(ℓ:Nat)(sc:abJ)(slots:List Str)(es:List Expr)(P:aG->MS->Prop):Prop where
 plain:fB es
 run:∀A h₀ L env,Cf α ℓ A h₀ L->Ce sc env->∀s m st φ news ρ,Sn α h₀ L m s.heap st φ news->Lc α slots env L m news φ ρ->∀pos Qc E,P ρ st->XP α A [α.tab] h₀ s st φ news E ->
  wpAny (abb α.prog α.w) A (aje (agm pos (ack es env))) Qc E s
theorem jJ.head {e:Expr}{es:List Expr}{P:aG->MS->Prop}(h:dY α ℓ sc slots e P)(k:fB es)(hs:autoParam (∀rest env,ack (e::rest) env=(false,eval e env)::ack rest env) aI):jJ α ℓ sc slots (e::es) P where
 plain:=.cons hs k
 run:=λA h₀ L env C D s m st φ news ρ S Lo pos Qc E t X=>aeE (he:=hs _ _) (h A h₀ L env C D s m st φ news ρ S Lo _ E t X)
theorem GV {e:Expr}{es:List Expr}{a:TE}{P:aG->MS->Prop}(h:aa α ℓ sc slots e a)(k:jJ α ℓ sc slots es P)(hs:autoParam (∀rest env,ack (e::rest) env=(false,eval e env)::ack rest env) aI) :
  jJ α ℓ sc slots (e::es) (λρ st=>a ρ st λ_ Pt=>st <+: Pt/\P ρ Pt) where
 plain:=.cons hs k.plain
 run:=λA h₀ L env C D s m st φ news ρ S Lo pos Qc E t X =>
  aeE (he:=hs _ _) (h A h₀ L env C D s m st φ news ρ S Lo _ _ E t λV Pt Px PC v h₁ PA Pv Py PO Pw =>
   k.run A h₀ L env C D _ m Pt Px PC ρ Pv (Lo.grow Py) pos _ E Pw.2 (X.after Pw.1 Py h₁ PA))
theorem dY.call {x:Str}{p pos:Pos}{args:List Expr}{f:Addr}{S:List MV->MS->Prop}{T:TL}(e:nsIn α.K aai x=some (some (.ref f)))(hk:abE α.K (.ref f)=true)(hS:uX α ℓ f S)
  (hT:ae α ℓ sc slots args T) (hx:autoParam (sc.names.lookup x=some .globalImplicit) aR) (hd:autoParam ((x == ("__debug__":Str))=false) aD):dY α ℓ sc slots (.Call (.Name x p) args [] pos) (λρ st=>T ρ st λVs Pt=>st <+: Pt/\S Vs Pt):=by
 intro A h₀ L env C D s m st φ news ρ Qr Lo Qc E t X
 refine agT (aim Qr.F C.X (afV C.T) e ?_ D.glob (D.scope ▸ D.kind) (by unfold ab9; rw [D.scope]; exact hx) hd)
 refine bR (α:=α) hT.plain (Pp:=α.K.In) (aiT hk) (hT.run A h₀ L env C D s m st φ news ρ Qr Lo pos _ _ E t λVs Pt Px PC vs h₁ PA Pv Py PO Pw _=>⟨C.X.keeps Pv.F.keep,?_⟩)
 exact aey (hS A h₀ L C _ m Pt Px PC Vs vs Pv PO _ Pw.2 (X.after Pw.1 Py h₁ PA))
theorem dY.arg {x:Str}{p pos:Pos}{args:List Expr}{f:Addr}{P:aG->MS->Prop}(e:nsIn α.K aai x=some (some (.ref f)))(hk:abE α.K (.ref f)=true)
  (hT:jJ α ℓ sc slots args P) (hx:autoParam (sc.names.lookup x=some .globalImplicit) aR) (hd:autoParam ((x == ("__debug__":Str))=false) aD):dY α ℓ sc slots (.Call (.Name x p) args [] pos) P:=by
 intro A h₀ L env C D s m st φ news ρ Qr Lo Qc E t X
 refine agT (aim Qr.F C.X (afV C.T) e ?_ D.glob (D.scope ▸ D.kind) (by unfold ab9; rw [D.scope]; exact hx) hd)
 exact bR (α:=α) hT.plain (Pp:=α.K.In) (aiT hk) (hT.run A h₀ L env C D s m st φ news ρ Qr Lo pos _ E t X)
theorem GU {x:Str}{p pos:Pos}{args:List Expr}{id:String}{P:aG->MS->Prop}(e:nsIn α.K aai x=some none)(hv:agg x=some (.builtin id))
  (hT:jJ α ℓ sc slots args P) (hx:autoParam (sc.names.lookup x=some .globalImplicit) aR) (hn:autoParam (x≠"__name__") aD) (hd:autoParam ((x == ("__debug__":Str))=false) aD):dY α ℓ sc slots (.Call (.Name x p) args [] pos) P:=by
 intro A h₀ L env C D s m st φ news ρ Qr Lo Qc E t X
 refine agT (fv C D Qr.F e hv hn ?_ hx hd)
 exact bR (α:=α) hT.plain (Pp:=λ_=>True) (λh _=>e7 _ h) (hT.run A h₀ L env C D s m st φ news ρ Qr Lo pos _ E t X)
theorem og {e:Expr}{pos:Pos}{P:aG->MS->Prop}(h:dY α ℓ sc slots e P):fR α ℓ sc slots (.Return (some e) pos) P:=
 λA h₀ L env C D s m st φ news ρ PB Lo O Qc E t X=>afw (h A h₀ L env C D s m st φ news ρ PB Lo _ E t X.tab)
theorem fR.set {x:Str}{px pos:Pos}{e:Expr}{P:aG->MS->Prop}(h:dY α ℓ sc slots e P)(hs:autoParam (∀env,aen e (some (.Name x px)) pos.line env=pure false) aI) :
  fR α ℓ sc slots (.Assign [.Name x px] e pos) P:=
 λA h₀ L env C D s m st φ news ρ PB Lo O Qc E t X=>afx (h A h₀ L env C D s m st φ news ρ PB Lo _ E t X.tab) (hs env)
theorem ID {Qm iter:Expr}{body:List Stmt}{pos:Pos}{P:aG->MS->Prop}(h:dY α ℓ sc slots iter P)(hs:autoParam (∀env x,aes iter env x=pure x) aI):fR α ℓ sc slots (.For Qm iter body [] pos) P:=
 λA h₀ L env C D s m st φ news ρ PB Lo O Qc E t X=>wpAny_For (h A h₀ L env C D s m st φ news ρ PB Lo _ E t X.tab) (hs env)
theorem GW {e:Expr}{pos:Pos}{P:aG->MS->Prop}(h:dY α ℓ sc slots e P)(hi:autoParam (sc.kind=.function) aR)(hs:autoParam (∀env,aen e none pos.line env=pure false) aI):fR α ℓ sc slots (.Expr e pos) P:=
 λA h₀ L env C D s m st φ news ρ PB Lo O Qc E t X=>ai3 (h A h₀ L env C D s m st φ news ρ PB Lo _ E t X.tab) (by unfold aiO; rw [D.scope,hi]; rfl) (hs env)
theorem bQ.head {c:Stmt}{cs:List Stmt}{P:aG->MS->Prop}(h:fR α ℓ sc slots c P):bQ α ℓ sc slots (c::cs) P:=
 λA h₀ L env C D s m st φ news ρ PB Lo O Qc E t X=>abY (h A h₀ L env C D s m st φ news ρ PB Lo O _ E t X)
theorem Ep {c:Stmt}{cs:List Stmt}{a:TS}{P:aG->MS->Prop}(h:au α ℓ sc slots c a)(k:bQ α ℓ sc slots cs P):bQ α ℓ sc slots (c::cs) (λρ st=>a ρ st λf P9 Pt=>match f with | .next=>st <+: Pt/\P P9 Pt | _=>False):=by
 intro A h₀ L env C D s m st φ news ρ PB Lo O Qc E t X
 refine abY (h A h₀ L env C D s m st φ news ρ PB Lo O _ _ E t λf fc P9 Pt Px PC QJ h₁ PA Pv QE QH Py PO Pw=>?_)
 cases PO with
 | next=>exact k A h₀ L env C D _ QJ Pt Px PC P9 Pv QE QH _ E Pw.2 (X.after Pw.1 Py h₁ PA)
 | brk=>exact Pw.elim
 | cont=>exact Pw.elim
 | ret r=>exact Pw.elim
theorem gH {RB:Expr}{body cs:List Stmt}{pos:Pos}{c:TB}{P P':aG->MS->Prop}(hc:aJ α ℓ sc slots RB c)(ha:bQ α ℓ sc slots body P)(hb:bQ α ℓ sc slots cs P') :
  bQ α ℓ sc slots (.If RB body [] pos::cs) (λρ st=>c ρ st λx Pt=>st <+: Pt/\if x then P ρ Pt else P' ρ Pt):=by
 intro A h₀ L env C D s m st φ news ρ PB Lo O Qc E t X
 refine abY (wpAny_If (hc A h₀ L env C D s m st φ news ρ PB Lo _ _ E t λv Pt Px PC h₁ PA Pv Py Pw=>?_))
 have X':=X.after Pw.1 (dE Py) h₁ PA
 cases v with
 | true=>exact ha A h₀ L env C D _ m Pt Px PC ρ Pv (Lo.grow Py) (O.grow Py) _ E Pw.2 X'
 | false=>exact adU (hb A h₀ L env C D _ m Pt Px PC ρ Pv (Lo.grow Py) (O.grow Py) _ E Pw.2 X')
end
section
variable {α:bC}{ℓ:Nat}{sc:abJ}{slots:List Str}
theorem iZ {cs:List Stmt}:bQ α ℓ sc slots cs (λ_ _=>False):=λ_ _ _ _ _ _ _ _ _ _ _ _ _ _ _ _ _ t _=>t.elim
def CN (n r:Nat)(P:aG->MS->Prop):List MV->MS->Prop:=λVs st=>Vs.length=n/\P (Vs.map some++abS r none) st
theorem C5 {RB:Expr}{cs:List Stmt}{c:TB}{k:_}{z:Str}{p1 p2 p3 p4 pos:Pos}{name qual:Str}{params:adC}{dV kV Qw pm P4 ct oc:aab}{an od:Option Addr}{Ri:Array (Option aab)}(hc:aJ α (ℓ+2) sc slots RB c)
  (P:o4 α.K) (Dn:u5 α 174 name qual params mD fW dV kV Qw pm P4 ct oc an od Ri) (hb:jP α (fnOf name qual params mD fW dV kV Qw pm an P4 ct) 2 [("self":Str),("message":Str)] [])
  (gl:nsIn α.K aai ("PathFault":Str)=some (some (.ref 202))) (hx:sc.names.lookup ("PathFault":Str)=some .globalImplicit) :
  sT α (ℓ+2) sc slots (.If RB [.Raise (some (.Call (.Name "PathFault" p1) [.Constant (.str z) k p4] [] p2)) none p3] [] pos::cs) (λρ st=>c ρ st λb Pt=>b=true/\Pt=st):=by
 intro A h₀ L env C D s m st φ news ρ PB Lo O Qc E t X XF
 refine abY (wpAny_If (hc A h₀ L env C D s m st φ news ρ PB Lo _ _ E t λv Pt Px PC h₁ PA Pv Py Pw=>?_))
 obtain⟨rfl,rfl⟩:=Pw
 exact abY (IX (ℓ:=ℓ) (sc:=sc) (slots:=slots) P Dn hb gl aw (λ_ _=>rfl) C D Pv (Lo.grow Py) hx λPM PE PS h' PV e PF PH M=>XF _ _ _ _ _ _ _ PF (dE (Py.trans PH)) M)
end
def Cb:aG->MS->Prop:=λρ st=>om (bT (qC yt (af 0))) ρ st λb Pt=>b=true/\Pt=st
def qy:List MV->MS->Prop:=CN 1 0 Cb
section
variable {z:Zz}
theorem oq:uX (aP z) 3 211 qy:=
 lb (n:=1) (ps:=[("value":Str)]) (rest:=[]) (P:=Cb) (body:=(cO 34)) (scope:=cF 34) ⟨rfl,by rfl,rfl,rfl,rfl⟩ (bL λ_ _ X=>aal rfl) rfl (by decide +kernel) (by rfl) (by rfl)
  (C5 (ℓ:=0) (nz (aJ.val (qL aa.loc vo (i7 _) (mB _) (by decide +kernel)))) (Mp _) ⟨rfl,by rfl,rfl,rfl,rfl⟩ (bL λ_ _ _ X=>aal rfl) (sG _) (by rfl)) (λ_ _ h=>h)
def qq:aG->MS->Prop:=λρ st=>(ad (af 0) ak) ρ st λVs Pt=>st <+: Pt/\qy Vs Pt
def wQ:List MV->MS->Prop:=CN 1 0 qq
theorem GI:uX (aP z) 4 218 wQ:=
 lb (n:=1) (ps:=[("value":Str)]) (rest:=[]) (P:=qq) (body:=(cO 35)) (scope:=cF 35) ⟨rfl,by rfl,rfl,rfl,rfl⟩ (bL λ_ _ X=>aal rfl) rfl (by decide +kernel) (by rfl) (by rfl)
  (bQ.head (og (dY.arg (eu _) (ey _) (jJ.head (GU (id:="len") (dp _) (by decide +kernel) (jJ.head (dY.call (gP _) (gQ _) (oq.mono (by decide)) (ac aa.loc ai)) .nil)) .nil)))).x (λ_ _ h=>h)
def zc:aG->MS->Prop:=λρ st=>aX 2 (aF eH (ad (tK (.int 0)) ak)) ρ st λf P9 Pt=>match f with | .next=>st <+: Pt/\qq P9 Pt | _=>False
def zN:List MV->MS->Prop:=CN 2 2 zc
theorem Ij:uX (aP z) 5 225 zN:=
 lb (n:=2) (ps:=[("value":Str),("tree":Str)]) (rest:=[("total":Str),("node":Str)]) (P:=zc) (body:=(cO 36)) (scope:=cF 36) ⟨rfl,by rfl,rfl,rfl,rfl⟩ (bL λ_ _ _ X=>aal rfl) rfl (by decide +kernel) (by rfl) (by rfl)
  (Ep (au.set (i:=2) (aa.call (eu _) (ey _) (aM.fn (gh.mono (by decide))) (ac aq ai)))
   (bQ.head (ID (dY.call (gP _) (gQ _) (oq.mono (by decide)) (ac aa.loc ai))))).x (λ_ _ h=>h)
def JI:aG->MS->Prop:=λρ st=>(ad (ar aN (af 0) (tK (.int 0))) ak) ρ st λVs Pt=>st <+: Pt/\qy Vs Pt
def yO:aG->MS->Prop:=λρ st=>bT (ar bN (af 0) (be ak)) ρ st λx Pt=>st <+: Pt/\if x then False else JI ρ Pt
def Fa:List MV->MS->Prop:=CN 2 1 yO
theorem A9:uX (aP z) 4 232 Fa:=
 lb (n:=2) (ps:=[("arguments":Str),("context":Str)]) (rest:=[("nodes":Str)]) (P:=yO) (body:=(cO 37)) (scope:=cF 37) ⟨rfl,by rfl,rfl,rfl,rfl⟩ (bL λ_ _ _ X=>aal rfl) rfl (by decide +kernel) (by rfl) (by rfl)
  (gH (aC aa.loc (aY ai) bc) iZ
   (bQ.head (fR.set (dY.call (gP _) (gQ _) (oq.mono (by decide)) (ac (aa.sub aa.loc aq) ai))))).x (λ_ _ h=>h)
def zC (x:Str):TB:=bT (ar bN (af 0) (tK (.str x)))
def Jf:aG->MS->Prop:=λρ st=>(ad (ar aN (af 1) (tK (.int 0))) ak) ρ st λVs Pt=>st <+: Pt/\wQ Vs Pt
def Hy:aG->MS->Prop:=λρ st=>(ad (ar aN (af 1) (tK (.int 0))) (ad (cC 313 ("tree":Str) (af 2)) ak)) ρ st λVs Pt=>st <+: Pt/\zN Vs Pt
def Lq:aG->MS->Prop:=λρ st=>af 0 ρ st λ_ Pt=>st <+: Pt/\(ad (af 1) (ad (af 2) ak)) ρ Pt λVs Pz=>Pt <+: Pz/\Fa Vs Pz
def tH (c:TB)(P P':aG->MS->Prop):aG->MS->Prop:=λρ st=>c ρ st λx Pt=>st <+: Pt/\if x then P ρ Pt else P' ρ Pt
def Kw:aG->MS->Prop:=λ_ _=>False
def Hb:aG->MS->Prop:=tH (zC "last") Kw (tH (zC "position") Kw (tH (zC "count") Jf (tH (zC "sum") Hy (tH (zC "id") Kw (tH (zC "lang") Kw Lq)))))
def Ir:List MV->MS->Prop:=CN 3 0 Hb
theorem wY:uX (aP z) 8 274 Ir:=
 lb (n:=3) (ps:=[("name":Str),("arguments":Str),("context":Str)]) (rest:=[]) (P:=Hb) (body:=(cO 43)) (scope:=cF 43) ⟨rfl,by rfl,rfl,rfl,rfl⟩ (bL λ_ _ _ _ X=>aal rfl) rfl (by decide +kernel) (by rfl) (by rfl)
  (gH (aC aa.loc aw bc) iZ
  (gH (aC aa.loc aw bc) iZ
  (gH (aC aa.loc aw bc) (bQ.head (og (dY.call (wu _) (xe _) (GI.mono (by decide)) (ac (aa.sub aa.loc aq) ai))))
  (gH (aC aa.loc aw bc) (bQ.head (og (dY.call (zT _) (zl _) (Ij.mono (by decide)) (ac (aa.sub aa.loc aq) (ac (bn aa.loc (dj _ _) (bO _) (eC _) rfl) ai)))))
  (gH (aC aa.loc aw bc) iZ
  (gH (aC aa.loc aw bc) iZ
  (bQ.head (og (dY.arg (tU _) (r0 _) (GV aa.loc (jJ.head (dY.call (tM _) (sI _) (A9.mono (by decide)) (ac aa.loc (ac aa.loc ai))) (.cons (λ_ _=>rfl) .nil)))))))))))).x (λ_ _ h=>h)
end
section
variable {α:bC}
theorem Ll {Ut WG:List Stmt}{k:_}{np cp rp hp tp:Pos}{scope:abJ}{slots:List Str}{P:aG->MS->Prop}{A':abt}{env Ql:Env}{H:Heap}{L' L:Addr}{s:aah}{m':Str->Option aab}{st:MS}{φ:bk}{news:aO}{ρ:aG}{Qf:Flow->aah->Prop}{E:aab->aah->Prop}
  (PK:o4 α.K) (gl:nsIn α.K aai ("PathFault":Str)=some (some (.ref 202))) (hx:scope.names.lookup ("PathFault":Str)=some .globalImplicit) (hT:bQ α 9 scope slots Ut P)
  (UH:A'.frames=some [env,Ql]) (hfe:env.frame=some L') (hf:Ql.frame=some L) (C:Cf α 9 A' H L') (D:Ce scope env) (Lo:Lc α slots env L' m' news φ ρ) (O:dT α slots env L' φ news) (S:Sn α H L' m' s.heap st φ news) (t:P ρ st)
  (XK:α.K.In α.hB) (T:TopRead α.p α.loose α.mg α.mb α.hB)
  (K:∀Pz PE PS Q6 PN,st <+: Pz->Wd α Pz PE PS->a9 (ft α env) φ news PE PS->H.UpToSlots Q6->α.hB.StaysIn Q6->(∀q∈PS,Q6.get? q.1=some q.2/\q.1≠L/\α.hB.get? q.1=none)->Qf (.ret (.bool true)) { s with heap:=Q6,toks:=PN }) :
  wpAny (abb α.prog α.w) A' (execs (.Try Ut [.ExceptHandler (some (.Name "PathFault" np)) none [.Return (some (.Constant (.bool true) k cp)) rp] hp] [] [] tp::WG) env) Qf E s:=by
 refine abY (wpAny_Try_except (hT A' _ L' env C D _ _ st φ news _ S Lo O _ _ t ?_))
 intro e Pz PE PS PM PN hp Vi PH Xv Xo
 obtain⟨B',a0,hB,hl,Tu⟩:=Xv _ UH
 refine wpAny_looks_onW UH hfe Tu λQN Xy Z4=>?_
 refine wpAny_landsW Xy λQv Yh YE=>?_
 have ZL:=Z4.trans YE
 have VE:=flyingW_base hB Yh
 obtain⟨ob,hob,acr⟩:=VE.there
 have RM:α.K.In Qv:=XK.keeps VE.1
 refine PK.cls _ λnm q N bs RG sn sub ab col dd k0 k1 k2 k3 k5 Uh=>?_
 refine wpAny_handleBy_cons (codeAny_handlers_test (ahy (by rw [D.scope]; exact D.kind) (by unfold ab9; rw [D.scope]; exact hx) (loadGlobal_global (env:=env) (by rw [D.glob]; exact T.g.keeps VE.1) (mg_of XK T.g gl) ?_) (by decide +kernel))) (by intro q; cases q)
 refine wpAny_excMatches_sub_self (RM _ _ Uh) hob acr (by decide +kernel) (codeAny_handlers_suite ?_)
 refine lands_againW Yh λQ6 Vo YK=>?_
 have YC:=flyingW_base hB Vo
 refine abY (afw (ahR ?_))
 have hL:B'.get? L=none:=by
  refine bv λGG PD=>?_
  obtain⟨_,_,_,⟨afe,TX,Tn,aay,_⟩,_⟩:=Vo.2.2.1
  refine PD ?_
  rw [hf] at Tn
  cases Tn
  exact aay
 exact K Pz PE PS Q6 PN hp Vi PH ((Xo.trans ZL).trans YK) YC.1 λq hq=>⟨Vo.1 _ _ (hl q hq).1,(λz=>by have:=(hl q hq).1; rw [z,hL] at this; cases this),(hl q hq).2⟩
theorem HJ {f:Addr}{name qual:Str}{params:adC}{Ut WG:List Stmt}{k:_}{np cp rp hp tp:Pos}{scope:abJ}{dV kV Qw pm P4 ct oc:aab}{an od:Option Addr}{Ri:Array (Option aab)}{n:Nat}{ps rest:List Str}{P:aG->MS->Prop}
  {bd:List Stmt} (hbd:bd=.Try Ut [.ExceptHandler (some (.Name "PathFault" np)) none [.Return (some (.Constant (.bool true) k cp)) rp] hp] [] [] tp::WG) (D:u5 α f name qual params bd scope dV kV Qw pm P4 ct oc an od Ri)
  (hb:jP α (fnOf name qual params bd scope dV kV Qw pm an P4 ct) n ps []) (PL:n=ps.length)
  (Qt:(ps++rest).Nodup) (Qz:((ps++rest).all λx=>scope.names.lookup x == some .local)=true) (QB:(scope.names.all λx=>x.2 != .cell)=true)
  (PK:o4 α.K) (gl:nsIn α.K aai ("PathFault":Str)=some (some (.ref 202))) (hx:scope.names.lookup ("PathFault":Str)=some .globalImplicit)
  (hT:bQ α 9 scope (ps++rest) Ut P):bJ α 10 f (λVs st Q=>CN n rest.length P Vs st/\∀Ps,st <+: Ps->Q (.bool true) Ps):=by
 intro A h₀ L C s m st φ news Vs vs PB r Q R t PQ
 refine bv λGG PD=>?_
 obtain⟨⟨hn,t⟩,tQ⟩:=t
 obtain⟨⟨Ql,UW⟩,rfl⟩:=C.tp.2 rfl
 refine PD ?_
 have RT:vs.length=n:=by rw [r.length]; exact hn
 refine C.frC λA₀ outer ae3 B hA hf RW=>?_
 rw [UW] at hA
 cases hA
 have XK:=C.X
 have Q7:∀x∈scope.names,x.2≠.cell:=λx hx=>by simpa using iW QB x hx
 have QF:∀x∈ps++rest,scope.names.lookup x=some .local:=λx hx=>eq_of_beq (iW Qz x hx)
 obtain⟨FG,BG,stg,lv⟩:=groundX (R:=R) B PB.F PB.N UW hf RW
 refine codeAny_call_def (fd:=fnX name qual params _ scope [] dV kV Qw pm an P4 ct) (binds:=ps.zip (vs++[])) (by have:=C.depth; walk_at "o") ((XK.keeps PB.F.keep) _ _ D.look) rfl (C.T.nolimit.keeps PB.F.keep) (agq (XK.keeps PB.F.keep) D.code) rfl (hb s vs (XK.keeps PB.F.keep) RT) Q7
  (λy hy=>QF _ (aap _ (aej hy).1)) (λh₁ Sy Sq=>?_) D.co D.gen D.kind
 have F':Fr (aiG s.heap (news.map (·.1))) s.heap.objs.size h₁ _:=⟨Sy,λb o e=>Sq b o (aij _ e),aeG (hideAll_size _ _)⟩
 have N':News (aiG s.heap (news.map (·.1))) s.heap.objs.size h₁ news:=λp hp=>⟨Sq _ _ (PB.N p hp).1,abc (abk (PB.N p hp).1),hideAll_none _ (ahX hp)⟩
 have rr:bg α.hB news φ Vs (vs++[]):=by rw [abr]; exact r
 have UH:(A.deeper (envX qual scope s.heap.objs.size f P4 [])).frames=some [envX qual scope s.heap.objs.size f P4 [],Ql]:=by show (A.frames.map _)=_; rw [UW]; rfl
 rw [hbd]
 exact Ll PK gl hx hT UH rfl hf (C.deeper UW BG rfl D.kind) ⟨rfl,D.kind,rfl,rfl⟩ (Ko QF rr (by rw [abr,RT]; exact PL) Qt) (AF QF Q7 Qt) ⟨F',N',PB.W⟩ t XK (afV C.T)
  λPz PE PS Q6 PN hp Vi PH up sb nw=>PQ (.bool true) Pz PE PS (.bool true) Q6 PN ⟨⟨up.ns FG.ns,sb,PB.F.above⟩,nw,Vi⟩ PH (.bool true) (tQ Pz hp)
end
def Ig:aG->MS->Prop:=λρ st=>(ad (af 0) (ad (be (ad (af 1) ak)) (ad (af 2) ak))) ρ st λVs Pt=>st <+: Pt/\Ir Vs Pt
def ja:TP:=λVs st Q=>CN 3 0 Ig Vs st/\∀Ps,st <+: Ps->Q (.bool true) Ps
section
variable {z:Zz}
theorem uy:bJ (aP z) 10 599 ja:=
 HJ (n:=3) (ps:=[("name":Str),("argument":Str),("context":Str)]) (rest:=[]) (P:=Ig) (scope:=(CI (top 61)).2.2) rfl ⟨rfl,by rfl,rfl,rfl,rfl⟩ (bL λ_ _ _ _ X=>aal rfl) rfl (by decide +kernel) (by rfl) (by rfl) (Mp _) (sG _) (by rfl)
  (bQ.head (GW (dY.call (ib _) (h8 _) (wY.mono (by decide)) (ac aa.loc (ac (aY (ac aa.loc ai)) (ac aa.loc ai))))))
end
noncomputable abbrev sv:List Str:=["tree","space","node","told","due"]
abbrev pT:TS:=(aj (bY (bf 524 b0 (af 0) (ad (af 2) (ad (tK (.str "xml:lang")) (ad (af 1) (ad (tK (.str "lang")) (ad (af 3) ak)))))))
 (aj (bW (bT (ar g8 (aF bF (ad (tK (.str "lang")) (ad (be (ad (tK (.str "en")) ak)) (ad (aF (kO 313 gE) (ad (af 0) (ad (af 2) ak))) ak)))) (af 4))) (aj (aS (tK (.bool false)))
 az) az)
 az))
abbrev ml:TS:=
 (aj (c9 [1,0] (bl (ad (aF (kO 524 kZ) ak) (ad (tK (.str "http://www.w3.org/XML/1998/namespace")) ak))))
 (aj (aX 2 (bf 524 ec (af 0) (ad (bf 524 fJ (af 0) ak) (ad (tK (.str "a")) (ad (tK (.str "")) (ad (tK (.str "a")) ak))))))
 (aj (eS (b9 (be (ad (bl (ad (tK (.str "enx")) (ad (tK (.bool false)) ak))) (ad (bl (ad (tK (.str "en-GB")) (ad (tK (.bool true)) ak))) (ad (bl (ad (tK (.str "EN")) (ad (tK (.bool true)) ak))) ak))))) (ix [3,4]) pT)
 (aj (aS (tK (.bool true)))
 az))))
theorem rt {z}:ah (aP z) 8 (cF 62) sv (cO 62) ml:=
 (ag (cP (is:=[1,0]) (xs:=["tree","space"]) (aV (ac (aa.call (EJ _) (EC _) ((mJ (EM _) (nu _) (nc _) sL).mono (by decide)) ai) (ac aw ai))) (.cons (i:=1) rfl (.cons (i:=0) rfl .nil)))
 (ag (au.set (i:=2) (aQ aa.loc (ac (aQ aa.loc ai (aM.fn (jd.mono (by decide))) (aW _ _) (jo _) (jk _) (je _) jj) (ac aw (ac aw (ac aw ai)))) (aM.fn (gS.mono (by decide))) (aW _ _) (gY _) (gU _) (gX _) gT))
 (ag (dn (bU (aY (ac (aV (ac aw (ac dm ai))) (ac (aV (ac aw (ac dm ai))) (ac (aV (ac aw (ac dm ai))) ai))))) (qJ (.cons (i:=3) rfl (.cons (i:=4) rfl .nil))) (ag (cg (aQ aa.loc (ac aa.loc (ac aw (ac aa.loc (ac aw (ac aa.loc ai))))) (aM.fn (fX.mono (by decide))) (aW _ _) (gf _) (gp _) (f9 _) fY))
 (ag (aZ (aC (aa.call (ib _) (h8 _) (aM.fn (jU.mono (by decide))) (ac aw (ac (aY (ac aw ai)) (ac (aa.call (pI _) (pX _) ((mJ (qw _) (gW _) (g4 _) uF).mono (by decide)) (ac aa.loc (ac aa.loc ai))) ai)))) aa.loc ik) (ag (aE dm)
 ao) ao)
 ao)))
 (ag (aE dm)
 ao))))
def dL:TP:=bX 0 [] 5 ml
theorem se {z}:bJ (aP z) 9 606 dL:=
 br (n:=0) (ps:=[]) (rest:=["tree","space","node","told","due"]) ⟨rfl,by rfl,rfl,rfl,rfl⟩ (bL λ_ X=>aal rfl) rt
noncomputable abbrev vF:List Str:=["source","tree","rows","at","some","places","far","told","ids","context","asked","argument","words","due"]
abbrev ln:TE:=(aF fO (ad (af 1) (ad (af 0) ak)))
abbrev lB:TE:=(ar aN (ar aN (af 1) (af 0)) (tK (.int 0)))
abbrev tJ:TE:=(ar aN (ar aN (af 1) (af 0)) (tK (.int 0)))
abbrev sR:TE:=(ar aN (af 1) (af 0))
abbrev sq:TB:=(bT (ar fM (cq .dict Jy (af 1) (ad (af 0) ak)) (tK .none)))
abbrev iu:TS:=(aj (aX 13 (qk (ad (c7 1 [7] (b9 (af 12)) (b8 0) sq sR) ak)))
 (aj (bW (bT (ar g8 (aF bF (ad (tK (.str "id")) (ad (be (ad (af 11) ak)) (ad (af 9) ak)))) (c7 1 [2] (b9 (af 13)) (b8 0) dZ tJ))) (aj (aS (tK (.bool false)))
 az) az)
 az))
abbrev ii:TE:=(bl (ad (af 0) (ad (fg (bT (ar mU (ar aN (af 2) (af 0)) (tK .none))) (af 1) (ar aN (ar aN (af 3) (ar aN (af 2) (af 0))) (tK (.int 0)))) ak)))
abbrev lz:TE:=(af 0)
abbrev lh:TB:=(bT (ar bN (ar aN (af 1) (tK (.int 1))) (tK (.str "element"))))
abbrev nO:TS:=
 (aj (aX 5 (c7 2 [] (AA (ad (af 2) ak)) (ix [0,1]) lh lz))
 (aj (aX 6 (bf 524 ec (af 1) (ad (bf 524 fJ (af 1) ak) (ad (tK (.str "z")) (ad (tK (.str "")) (ad (tK (.str "z")) ak))))))
 (aj (aX 7 (kY (wZ "a" (aF cx (ad (af 0) (ad (af 5) ak))) (wZ "b" (aF cx (ad (af 0) (ad (af 5) ak))) (wZ "x" (tK .none) oE)))))
 (aj (aX 8 (aF ES (ad (c7 1 [6,7,2] (Fj (af 7)) (b8 0) dZ ii) ak)))
 (aj (aX 9 (aF (kO 313 iP) (ad (af 1) (ad (ar aN (ar aN (af 2) (af 3)) (tK (.int 0))) (ad (tK (.int 1)) (ad (tK (.int 1)) (ad (tK .none) (ad (tK .none) (ad (tK .none) (ad (tK .none) (ad (af 8) ak)))))))))))
 (aj (aX 10 (aF cx (ad (af 0) (ad (be (ad (tK (.str "b a")) (ad (tK (.str " a x ")) (ad (tK (.str "a a q")) (ad (tK (.str "")) ak))))) ak))))
 (aj (eS (b9 (be (ad (bl (ad (af 10) (ad (cq .str lA (af 10) ak) ak))) (ad (bl (ad (c7 1 [2] (b9 (af 4)) (b8 0) dZ lB) (ad (cq .str lA (cq .str qj (tK (.str " ")) (ad (c7 1 [2] (b9 (af 4)) (b8 0) dZ ln) ak)) ak) ak))) ak)))) (ix [11,12]) iu)
 (aj (aS (tK (.bool true)))
 az))))))))
theorem uL {z}:ah (aP z) 8 (cF 63) vF (cO 63) nO:=
 (ag (iz (j:=5) (tgts:=["place","row"]) (cn:=[]) (caps:=[]) ⟨by rfl,by rfl,by rfl,by rfl,rfl,by rfl,by rfl,(xY (i:=0) (j:=1) (by decide +kernel) rfl rfl (by rfl) (by rfl)),(iA (aC (aa.sub aa.loc aq) aw bc)),aa.loc⟩ (zY (ac aa.loc ai) (sU _)) rfl (by rfl))
 (ag (au.set (i:=6) (aQ aa.loc (ac (aQ aa.loc ai (aM.fn (jd.mono (by decide))) (aW _ _) (jo _) (jk _) (je _) jj) (ac aw (ac aw (ac aw ai)))) (aM.fn (gS.mono (by decide))) (aW _ _) (gY _) (gU _) (gX _) gT))
 (ag (au.set (i:=7) (aa.dict (ks:=["a","b","x"]) (ou.cons (aa.call (d3 _) (d4 _) (aM.fn (eN.mono (by decide))) (ac aa.loc (ac aa.loc ai))) (ou.cons (aa.call (d3 _) (d4 _) (aM.fn (eN.mono (by decide))) (ac aa.loc (ac aa.loc ai))) (ou.cons bo ou.nil))) (by simp) (by decide) (by decide +kernel)))
 (ag (au.set (i:=8) (cG (Lb _) (by decide +kernel) GA (ac (ez (tgts:=["text"]) (cn:=["far","told","rows"]) (caps:=[6,7,2]) ⟨by rfl,by rfl,by rfl,by rfl,rfl,by rfl,by rfl,(c4.name (i:=0) (by decide +kernel) rfl (by rfl)),eV,(aV (ac aa.loc (ac (cA (aC (aa.sub aa.loc aa.loc) bo jE) aa.loc (aa.sub (aa.sub aa.loc (aa.sub aa.loc aa.loc)) aq)) ai)))⟩ (ch.dict aa.loc)) ai)))
 (ag (au.set (i:=9) (aa.call (pI _) (pX _) ((mJ (qw _) (gW _) (g4 _) s6).mono (by decide)) (ac aa.loc (ac (aa.sub (aa.sub aa.loc aa.loc) aq) (ac aq (ac aq (ac bo (ac bo (ac bo (ac bo (ac aa.loc ai)))))))))))
 (ag (au.set (i:=10) (aa.call (d3 _) (d4 _) (aM.fn (eN.mono (by decide))) (ac aa.loc (ac (aY (ac aw (ac aw (ac aw (ac aw ai))))) ai))))
 (ag (dn (bU (aY (ac (aV (ac aa.loc (ac (ba (k:=.str) aa.loc ai tT afH afI) ai))) (ac (aV (ac (ez (tgts:=["place"]) (cn:=["rows"]) (caps:=[2]) ⟨by rfl,by rfl,by rfl,by rfl,rfl,by rfl,by rfl,(c4.name (i:=0) (by decide +kernel) rfl (by rfl)),eV,(aa.sub (aa.sub aa.loc aa.loc) aq)⟩ (bU aa.loc)) (ac (ba (k:=.str) (ba (k:=.str) aw (ac (ez (tgts:=["place"]) (cn:=["rows"]) (caps:=[2]) ⟨by rfl,by rfl,by rfl,by rfl,rfl,by rfl,by rfl,(c4.name (i:=0) (by decide +kernel) rfl (by rfl)),eV,(aa.call (i0 _) (i8 _) (aM.fn (kb.mono (by decide))) (ac aa.loc (ac aa.loc ai)))⟩ (bU aa.loc)) ai) vK afR afS) ai tT afH afI) ai))) ai)))) (qJ (.cons (i:=11) rfl (.cons (i:=12) rfl .nil))) (ag (au.set (i:=13) (y4 (ac (ez (tgts:=["word"]) (cn:=["told"]) (caps:=[7]) ⟨by rfl,by rfl,by rfl,by rfl,rfl,by rfl,by rfl,(c4.name (i:=0) (by decide +kernel) rfl (by rfl)),(iA (aC (ba (k:=.dict) aa.loc (ac aa.loc ai) ED afQ ahs) bo fE)),(aa.sub aa.loc aa.loc)⟩ (bU aa.loc)) ai) (zS _) (MX _)))
 (ag (aZ (aC (aa.call (ib _) (h8 _) (aM.fn (jU.mono (by decide))) (ac aw (ac (aY (ac aa.loc ai)) (ac aa.loc ai)))) (ez (tgts:=["place"]) (cn:=["rows"]) (caps:=[2]) ⟨by rfl,by rfl,by rfl,by rfl,rfl,by rfl,by rfl,(c4.name (i:=0) (by decide +kernel) rfl (by rfl)),eV,(aa.sub (aa.sub aa.loc aa.loc) aq)⟩ (bU aa.loc)) ik) (ag (aE dm)
 ao) ao)
 ao)))
 (ag (aE dm)
 ao))))))))
def eE:TP:=bX 5 [] 9 nO
theorem vL {z}:bJ (aP z) 9 611 eE:=
 vt (n:=5) (ps:=["source","tree","rows","at","some"]) (rest:=["places","far","told","ids","context","asked","argument","words","due"]) (dVs:=[]) ⟨rfl,by rfl,rfl,rfl,rfl⟩ (bL λ_ _ _ _ _ _ X=>aal rfl) rfl (λ_=>.nil) (by decide +kernel) (by rfl) (by decide +kernel) uL (λ_ _ _ h=>h)
noncomputable abbrev HN:List Str:=["script","source","tree","rows","at","size","position","context","some","lot","due","plain","word","column","asked","name","arguments","wanted"]
abbrev qA:TS:=(aj (bW (om (bT (aF ja (ad (af 15) (ad (aF cx (ad (af 1) (ad (be (ad (tK (.str "a")) (ad (bl (ad (tK (.int 1)) (ad (tK (.int 1)) ak))) (ad (tK (.bool true)) ak)))) ak))) (ad (af 7) ak)))))) (aj (aS (tK (.bool false)))
 az) az)
 az)
abbrev qe:TS:=(aj (bW (bT (ar g8 (aF bF (ad (af 15) (ad (af 16) (ad (af 7) ak)))) (af 17))) (aj (aS (tK (.bool false)))
 az) az)
 az)
abbrev m6:TS:=(aj (bY (cq .list bx (af 10) (ad (bl (ad (af 12) (ad (be (ad (af 9) ak)) (ad (fg (bT (ar g8 (af 8) (be ak))) (ar aN (ar aN (af 3) (ar aN (af 8) (tK (.int 0)))) (af 13)) (tK (.str ""))) ak)))) ak)))
 (aj (bY (cq .list bx (af 10) (ad (bl (ad (af 12) (ad (be ak) (ad (ar aN (ar aN (af 3) (af 4)) (af 13)) ak)))) ak)))
 az))
abbrev BO:TE:=(aF fO (ad (af 1) (ad (af 0) ak)))
abbrev CX:TE:=(ar aN (ar aN (af 1) (af 0)) (tK (.int 0)))
abbrev qv:TE:=(af 0)
abbrev vp:TB:=(bT (ar fM (aF fZ (ad (aF fO (ad (af 1) (ad (af 0) ak))) ak)) (tK .none)))
abbrev AV:TE:=(aF fO (ad (af 1) (ad (af 0) ak)))
abbrev Jg:TE:=(ar aN (ar aN (af 1) (af 0)) (tK (.int 0)))
abbrev zD:TE:=(af 0)
abbrev rU:TB:=(bT (ar bN (aF cy (ad (af 1) (ad (tK (.int 3)) ak))) (tK (.int 0))))
abbrev J1:TS:=
 (aj (vO [1,2] (bl (ad (aF pN (ad (af 0) (ad (tK (.int 0)) ak))) (ad (aF (kO 524 kZ) ak) ak))))
 (aj (aX 3 (aF qb (ad (af 1) (ad (af 2) ak))))
 (aj (c9 [5,4] (bl (ad (aF cy (ad (af 1) (ad (aF dP (ad (af 3) ak)) ak))) (ad (ar cM (tK (.int 1)) (aF cy (ad (af 1) (ad (tK (.int 9)) ak)))) ak))))
 (aj (aX 6 (ar cM (tK (.int 1)) (aF cy (ad (af 1) (ad (af 5) ak)))))
 (aj (aX 7 (aF (kO 313 jn) (ad (af 2) (ad (ar aN (ar aN (af 3) (af 4)) (tK (.int 0))) (ad (af 6) (ad (af 5) ak))))))
 (aj (aX 8 (c7 1 [1] (mR (ad (aF dP (ad (af 3) ak)) ak)) (b8 0) rU zD))
 (aj (aX 9 (c7 1 [3] (b9 (af 8)) (b8 0) dZ Jg))
 (aj (aX 10 (be (ad (bl (ad (tK (.str "last")) (ad (be ak) (ad (bl (ad (af 5) (ad (tK (.int 1)) ak))) ak)))) (ad (bl (ad (tK (.str "position")) (ad (be ak) (ad (bl (ad (af 6) (ad (tK (.int 1)) ak))) ak)))) (ad (bl (ad (tK (.str "count")) (ad (be (ad (af 9) ak)) (ad (bl (ad (aF dP (ad (af 9) ak)) (ad (tK (.int 1)) ak))) ak)))) ak)))))
 (aj (bY (cq .list bx (af 10) (ad (bl (ad (tK (.str "sum")) (ad (be (ad (af 9) ak)) (ad (aF jx (ad (c7 1 [3] (b9 (af 8)) (b8 0) dZ AV) ak)) ak)))) ak)))
 (aj (aX 11 (c7 1 [3] (mR (ad (aF dP (ad (af 3) ak)) ak)) (b8 0) vp qv))
 (aj (bY (cq .list bx (af 10) (ad (bl (ad (tK (.str "sum")) (ad (be (ad (c7 1 [3] (b9 (af 11)) (b8 0) dZ CX) ak)) (ad (aF jx (ad (c7 1 [3] (b9 (af 11)) (b8 0) dZ BO) ak)) ak)))) ak)))
 (aj (eS (b9 (be (ad (bl (ad (tK (.str "name")) (ad (tK (.int 2)) ak))) (ad (bl (ad (tK (.str "local-name")) (ad (tK (.int 3)) ak))) (ad (bl (ad (tK (.str "namespace-uri")) (ad (tK (.int 4)) ak))) ak))))) (ix [12,13]) m6)
 (aj (aX 14 (aF cx (ad (af 1) (ad (be (ad (tK (.str "en")) (ad (tK (.str "EN-US")) (ad (tK (.str "fr")) (ad (tK (.str "e")) ak))))) ak))))
 (aj (bY (cq .list bx (af 10) (ad (bl (ad (tK (.str "lang")) (ad (be (ad (af 14) ak)) (ad (aF iq (ad (af 3) (ad (af 4) (ad (af 14) ak)))) ak)))) ak)))
 (aj (eS (b9 (af 10)) (ix [15,16,17]) qe)
 (aj (eS (b9 (be (ad (tK (.str "count")) (ad (tK (.str "sum")) (ad (tK (.str "name")) ak))))) (b8 15) qA)
 (aj (aS (lO (aF dL ak) (aF eE (ad (af 1) (ad (af 2) (ad (af 3) (ad (af 4) (ad (af 8) ak))))))))
 az)))))))))))))))))
theorem LG {z}:ah (aP z) 10 (cF 64) HN (cO 64) J1:=
 (ag (C6 (is:=[1,2]) (aV (ac (aa.call (AG _) (Bh _) (aM.fn (DG.mono (by decide))) (ac aa.loc (ac aq ai))) (ac (aa.call (EJ _) (EC _) ((mJ (EM _) (nu _) (nc _) sL).mono (by decide)) ai) ai))) (.cons (i:=1) rfl (.cons (i:=2) rfl .nil)))
 (ag (au.set (i:=3) (aa.call (CZ _) (AU _) (aM.fn (DV.mono (by decide))) (ac aa.loc (ac aa.loc ai))))
 (ag (cP (is:=[5,4]) (xs:=["at","size"]) (aV (ac (aa.call (dc _) (dg _) (aM.fn (dB.mono (by decide))) (ac aa.loc (ac (bB (dp _) (by decide +kernel) c5 (ac aa.loc ai)) ai))) (ac (aU aq (aa.call (dc _) (dg _) (aM.fn (dB.mono (by decide))) (ac aa.loc (ac aq ai))) cL) ai))) (.cons (i:=5) rfl (.cons (i:=4) rfl .nil)))
 (ag (au.set (i:=6) (aU aq (aa.call (dc _) (dg _) (aM.fn (dB.mono (by decide))) (ac aa.loc (ac aa.loc ai))) cL))
 (ag (au.set (i:=7) (aa.call (pI _) (pX _) ((mJ (qw _) (gW _) (g4 _) ux).mono (by decide)) (ac aa.loc (ac (aa.sub (aa.sub aa.loc aa.loc) aq) (ac aa.loc (ac aa.loc ai))))))
 (ag (iz (j:=8) (tgts:=["place"]) (cn:=["source"]) (caps:=[1]) ⟨by rfl,by rfl,by rfl,by rfl,rfl,by rfl,by rfl,(c4.name (i:=0) (by decide +kernel) rfl (by rfl)),(iA (aC (aa.call (dc _) (dg _) (aM.fn (dB.mono (by decide))) (ac aa.loc (ac aq ai))) aq bc)),aa.loc⟩ (mA (ac (bB (dp _) (by decide +kernel) c5 (ac aa.loc ai)) ai) (pV _)) rfl (by rfl))
 (ag (iz (j:=9) (tgts:=["place"]) (cn:=["rows"]) (caps:=[3]) ⟨by rfl,by rfl,by rfl,by rfl,rfl,by rfl,by rfl,(c4.name (i:=0) (by decide +kernel) rfl (by rfl)),eV,(aa.sub (aa.sub aa.loc aa.loc) aq)⟩ (bU aa.loc) rfl (by rfl))
 (ag (au.set (i:=10) (aY (ac (aV (ac aw (ac (aY ai) (ac (aV (ac aa.loc (ac aq ai))) ai)))) (ac (aV (ac aw (ac (aY ai) (ac (aV (ac aa.loc (ac aq ai))) ai)))) (ac (aV (ac aw (ac (aY (ac aa.loc ai)) (ac (aV (ac (bB (dp _) (by decide +kernel) c5 (ac aa.loc ai)) (ac aq ai))) ai)))) ai)))))
 (ag (cg (ba (k:=.list) aa.loc (ac (aV (ac aw (ac (aY (ac aa.loc ai)) (ac (aa.call (u6 _) (uR _) (aM.fn (xh.mono (by decide))) (ac (ez (tgts:=["place"]) (cn:=["rows"]) (caps:=[3]) ⟨by rfl,by rfl,by rfl,by rfl,rfl,by rfl,by rfl,(c4.name (i:=0) (by decide +kernel) rfl (by rfl)),eV,(aa.call (i0 _) (i8 _) (aM.fn (kb.mono (by decide))) (ac aa.loc (ac aa.loc ai)))⟩ (bU aa.loc)) ai)) ai)))) ai) cf abm abn))
 (ag (iz (j:=11) (tgts:=["place"]) (cn:=["rows"]) (caps:=[3]) ⟨by rfl,by rfl,by rfl,by rfl,rfl,by rfl,by rfl,(c4.name (i:=0) (by decide +kernel) rfl (by rfl)),(iA (aC (aa.call (oY _) (oQ _) (aM.fn (qO.mono (by decide))) (ac (aa.call (i0 _) (i8 _) (aM.fn (kb.mono (by decide))) (ac aa.loc (ac aa.loc ai))) ai)) bo fE)),aa.loc⟩ (mA (ac (bB (dp _) (by decide +kernel) c5 (ac aa.loc ai)) ai) (pV _)) rfl (by rfl))
 (ag (cg (ba (k:=.list) aa.loc (ac (aV (ac aw (ac (aY (ac (ez (tgts:=["place"]) (cn:=["rows"]) (caps:=[3]) ⟨by rfl,by rfl,by rfl,by rfl,rfl,by rfl,by rfl,(c4.name (i:=0) (by decide +kernel) rfl (by rfl)),eV,(aa.sub (aa.sub aa.loc aa.loc) aq)⟩ (bU aa.loc)) ai)) (ac (aa.call (u6 _) (uR _) (aM.fn (xh.mono (by decide))) (ac (ez (tgts:=["place"]) (cn:=["rows"]) (caps:=[3]) ⟨by rfl,by rfl,by rfl,by rfl,rfl,by rfl,by rfl,(c4.name (i:=0) (by decide +kernel) rfl (by rfl)),eV,(aa.call (i0 _) (i8 _) (aM.fn (kb.mono (by decide))) (ac aa.loc (ac aa.loc ai)))⟩ (bU aa.loc)) ai)) ai)))) ai) cf abm abn))
 (ag (dn (bU (aY (ac (aV (ac aw (ac aq ai))) (ac (aV (ac aw (ac aq ai))) (ac (aV (ac aw (ac aq ai))) ai))))) (qJ (.cons (i:=12) rfl (.cons (i:=13) rfl .nil))) (ag (cg (ba (k:=.list) aa.loc (ac (aV (ac aa.loc (ac (aY (ac aa.loc ai)) (ac (cA (aC aa.loc (aY ai) ik) (aa.sub (aa.sub aa.loc (aa.sub aa.loc aq)) aa.loc) aw) ai)))) ai) cf abm abn))
 (ag (cg (ba (k:=.list) aa.loc (ac (aV (ac aa.loc (ac (aY ai) (ac (aa.sub (aa.sub aa.loc aa.loc) aa.loc) ai)))) ai) cf abm abn))
 ao)))
 (ag (au.set (i:=14) (aa.call (d3 _) (d4 _) (aM.fn (eN.mono (by decide))) (ac aa.loc (ac (aY (ac aw (ac aw (ac aw (ac aw ai))))) ai))))
 (ag (cg (ba (k:=.list) aa.loc (ac (aV (ac aw (ac (aY (ac aa.loc ai)) (ac (aa.call (yX _) (yy _) (aM.fn (Ac.mono (by decide))) (ac aa.loc (ac aa.loc (ac aa.loc ai)))) ai)))) ai) cf abm abn))
 (ag (dn (bU aa.loc) (qJ (.cons (i:=15) rfl (.cons (i:=16) rfl (.cons (i:=17) rfl .nil)))) (ag (aZ (aC (aa.call (ib _) (h8 _) (aM.fn (jU.mono (by decide))) (ac aa.loc (ac aa.loc (ac aa.loc ai)))) aa.loc ik) (ag (aE dm)
 ao) ao)
 ao))
 (ag (dn (bU (aY (ac aw (ac aw (ac aw ai))))) (gk.name (i:=15)) (ag (aZ (nz (aJ.val (aa.call (r9 _) (sB _) (aM.fn (uy.mono (by decide))) (ac aa.loc (ac (aa.call (d3 _) (d4 _) (aM.fn (eN.mono (by decide))) (ac aa.loc (ac (aY (ac aw (ac (aV (ac aq (ac aq ai))) (ac dm ai)))) ai))) (ac aa.loc ai)))))) (ag (aE dm)
 ao) ao)
 ao))
 (ag (aE (qI (aa.call (ro _) (rJ _) (aM.fn (se.mono (by decide))) ai) (aa.call (uH _) (uC _) (aM.fn (vL.mono (by decide))) (ac aa.loc (ac aa.loc (ac aa.loc (ac aa.loc (ac aa.loc ai))))))))
 ao)))))))))))))))))
def J5:TP:=bX 1 [] 17 J1

theorem law_run {w:aaq}{h:Heap}{p:ade}{loose:List Str}{mean:ajd->Option aab}{mg mb:Str->Option aab}{L l a1 a2:Addr}{h₁:Heap}{m:Str->Option aab}{ws:List aab}{ns:List Int}{o1 o2:Obj}{v1 v2:Option aab}{env:Env}{s:aah}
  {Qc:Flow->aah->Prop} {E:aab->aah->Prop}
  (X':(KK w).In h) (T':Top p loose mean mg mb h) (YV:ajk h 140 138) (K':ai0 callerA h [] h) (hs:s.heap=h₁) (F':Fr h L h₁ m) (aad:h.IsList l ws.toArray) (hI:IntsAre ws ns) (hm:m ("script":Str)=some (.ref l))
  (N':News h L h₁ [(a1,o1),(a2,o2),(138,adk #[])]) (Zf:a1≠a2) (h13:a1≠138) (h23:a2≠138) (d1:o1.data=.cell v1) (d2:o2.data=.cell v2)
  (Tl:env.scope=(cF 64)) (Vu:env.globals=aai) (hbu:env.builtins=builtinsNs) (Qz:env.locals=L) (UH:env.frame=some L) (Q5:env.cells=[(("rows":Str),a1),(("source":Str),a2)])
  (hL:J5 [.ext ns] [] λV _=>V=.bool true)
  (P:∀h' m' tk,Fr h L h' m'->GrownAt 138 h'->Qc (.ret (.bool true)) { s with heap:=h',toks:=tk }) :
  wpAny (abb agc w) (callerA.deeper env) (execs (cO 64) env) Qc E s:=by
 subst hs
 have hk:env.scope.kind=.function:=by rw [Tl]; rfl
 have C:Cf (aP (w,h,p,loose,mean,mg,mb)) 10 (callerA.deeper env) h L:=⟨⟨X',T',YV⟩,⟨callerA,[],env,K',rfl,UH,hk⟩,rfl,(show callerA.depth+1+3 * 10+3 < afu by decide),(show callerA.units+3+10 * 10+200 < cLine by decide),⟨abp _,λ_=>⟨⟨env,rfl⟩,rfl⟩⟩⟩
 have W:Wd (aP (w,h,p,loose,mean,mg,mb)) [] [] [(a1,o1),(a2,o2),(138,adk #[])]:=by
  refine⟨by simp [Zf,h13,h23],rfl,λi j p q hp=>(by cases hp),λi o hi=>(by cases hi),⟨#[],by simp [aP],.inl rfl,λc hc=>by simp at hc⟩⟩
 have Qs:∀x,env.kindOf x=(cF 64).names.lookup x:=λx=>by unfold ab9; rw [Tl]
 obtain⟨_,t⟩:=hL
 refine LG (z:=(w,h,p,loose,mean,mg,mb)) (callerA.deeper env) h L env C ⟨Tl,rfl,Vu,hbu⟩ s m [] [] _ _ ⟨F',N',W⟩ ?_ ⟨by decide +kernel,Qz,?_,?_,?_,?_⟩ _ _ E t ?_
 ·intro i x V hx hV
  rcases i with _ | i
  ·cases hx
   cases hV
   exact⟨.ref l,.fr (by rw [Qs]; rfl) Qz hm,.ext aad hI⟩
  ·exfalso
   simp only [abg,ad2,abr,ada,abx,acj,ae0] at hV
   split at hV <;> cases hV
 ·intro x hx
  have:(HN.all λx=>(cF 64).names.lookup x == some .local || (cF 64).names.lookup x == some .cell)=true:=by rfl
  have:=iW this x hx
  rw [Qs]
  rcases ahU.mp this with q | q
  ·exact .inl (eq_of_beq q)
  ·exact .inr (eq_of_beq q)
 ·intro x hx
  rw [Qs] at hx
  have Rf:x=("rows":Str)\/x=("source":Str):=by
   have hm:=dO hx
   have:((cF 64).names.all λq=>!(q.2 == .cell) || (q.1 == ("rows":Str) || q.1 == ("source":Str)))=true:=by rfl
   have:=iW this _ hm
   simpa using this
  rcases Rf with rfl | rfl
  ·exact⟨a1,o1,v1,by rw [Q5]; rfl,h13,by simp [bq],.head _,d1⟩
  ·exact⟨a2,o2,v2,by rw [Q5]; rfl,h23,by simp [bq],.tail _ (.head _),d2⟩
 ·intro x y c hx hy
  rw [Q5] at hx hy
  have h1:=dO hx
  have h2:=dO hy
  simp only [aby,Prod.mk.injEq,abu,or_false] at h1 h2
  rcases h1 with ⟨rfl,rfl⟩ | ⟨rfl,rfl⟩ <;> rcases h2 with ⟨rfl,e⟩ | ⟨rfl,e⟩
  ·rfl
  ·exact absurd e Zf
  ·exact absurd e.symm Zf
  ·rfl
 ·intro q hq
  rw [Q5] at hq
  simp only [aby,abu,or_false] at hq
  rcases hq with rfl | rfl
  ·exact⟨o1,.head _⟩
  ·exact⟨o2,.tail _ (.head _)⟩
 ·intro f fc Rs Ps PG Pu m' h' PV S' Lo' O' g' r' q'
  cases r' with
  | ret r =>
   have q'':_=MV.bool true:=q'
   subst q''
   cases r
   obtain⟨ps,Tm,_⟩:=S'.W.tabs
   exact P h' m' PV S'.F ⟨ps,S'.N.get Tm⟩
  | next=>cases (show MV.none=.bool true from q')
  | brk=>exact (show False from q').elim
  | cont=>exact (show False from q').elim
theorem zs {a b:Int}:(adG a).eqv (adG b)=decide (a=b):=by
 unfold abH
 by_cases h:a=b <;> simp [h]
def Bi (b:TS)(Q:MF->aG->MS->Prop):MF->aG->MS->Prop:=λf P9 Pt=>match f with | .next=>b P9 Pt Q | f=>Q f P9 Pt
def JX (Q:Bool->MS->Prop):MV->MS->Prop:=λV Pt=>qR (λb=>Q b Pt) V
def H0 (a b:TS)(ρ:aG)(Q:MF->aG->MS->Prop):Bool->MS->Prop:=λx st=>if x then a ρ st Q else b ρ st Q
def BP (a b:TE)(ρ:aG)(Q:MV->MS->Prop):Bool->MS->Prop:=λx st=>if x then a ρ st Q else b ρ st Q
def CK (b:TB)(ρ:aG)(Q:Bool->MS->Prop):Bool->MS->Prop:=λx st=>if x then b ρ st Q else Q false st
def IB (b:TB)(ρ:aG)(Q:Bool->MS->Prop):Bool->MS->Prop:=λx st=>if x then Q true st else b ρ st Q
def JL (B:Bool->MS->Prop):Bool->MS->Prop:=λb st=>B (!b) st
def MQ (is:List Nat)(ρ:aG)(Q:MF->aG->MS->Prop):MV->MS->Prop:=λV Pt=>uV (λVs=>Vs.length=is.length/\Q .next (fa ρ is Vs) Pt) V
def Ka (is:List Nat)(ρ:aG)(Q:MF->aG->MS->Prop):MV->MS->Prop:=λV Pt=>uV (λVs=>Vs.length=is.length/\Q .next (fa ρ is Vs.reverse) Pt) V
def NW (tg:TG)(b:TS)(ρ:aG)(Q:MF->aG->MS->Prop):List MV->(MS->Prop)->MS->Prop:=λxs G Pt=>ew G tg b xs ρ Pt Q
def HZ (Q:List MV->(MS->Prop)->MS->Prop):MV->MS->Prop:=λV Pt=>hO (λr=>cD Pt[r]? λxs=>Q xs (λst=>st[r]?=some (.list xs)) Pt) V
def Lp (Q:List MV->(MS->Prop)->MS->Prop):List MV->MS->Prop:=λVs Pt=>BC (jK λn=>0<=n/\n < 2 ^ 62/\Q (ow n.toNat) (λ_=>True) Pt) Vs
def ud (G:MS->Prop)(tg:TG)(b:TS)(xs:List MV)(Q:MF->aG->MS->Prop):MF->aG->MS->Prop:=λf Qk Pz=>match f with
 | .next=>ew G tg b xs Qk Pz Q
 | .cont=>ew G tg b xs Qk Pz Q
 | .brk=>Q .next Qk Pz
 | .ret V=>Q (.ret V) Qk Pz
def yn (c:TB)(b:TS)(n:Nat)(Q:MF->aG->MS->Prop):MF->aG->MS->Prop:=λf Qk Pz=>match f with
 | .next=>d9 c b n Qk Pz Q
 | .cont=>d9 c b n Qk Pz Q
 | .brk=>Q .next Qk Pz
 | .ret V=>Q (.ret V) Qk Pz
def Bw (c:TB)(b:TS)(n:Nat)(ρ:aG)(Q:MF->aG->MS->Prop):Bool->MS->Prop:=λx st=>if x then b ρ st (yn c b n Q) else Q .next ρ st
def MU (i:Nat)(ρ:aG)(Q:MF->aG->MS->Prop):MV->MS->Prop:=λV st=>Q .next (ρ.set i (some V)) st
def G7 (ρ:aG)(Q:MF->aG->MS->Prop):MV->MS->Prop:=λV st=>Q (.ret V) ρ st
def MT (S:TP)(P:MV->MS->Prop):List MV->MS->Prop:=λVs st=>S Vs st P
def A1 (V:MV)(K:List MV->MS->Prop):List MV->MS->Prop:=λVs st=>K (V::Vs) st
def NP (l:TL)(ρ:aG)(K:List MV->MS->Prop):MV->MS->Prop:=λV st=>l ρ st (A1 V K)
def Mk (P:MV->MS->Prop):List MV->MS->Prop:=λVs st=>P (.tup Vs) st
def Me (P:MV->MS->Prop):List MV->MS->Prop:=λVs st=>P (.ref st.length) (st++[.list Vs])
def Je (S:TP)(V:MV)(P:MV->MS->Prop):MV->MS->Prop:=λW st=>S [V,W] st P
def JK (S:TP)(y:TE)(ρ:aG)(P:MV->MS->Prop):MV->MS->Prop:=λV st=>y ρ st (Je S V P)
def NM (S:TP)(P:MV->MS->Prop):MV->MS->Prop:=λV st=>S [V] st P
def vX (S:TP)(V:MV)(P:MV->MS->Prop):List MV->MS->Prop:=λVs st=>S (V::Vs) st P
def Mt (C:Addr)(S:TP)(l:TL)(ρ:aG)(P:MV->MS->Prop):MV->MS->Prop:=λV st=>xt C V st/\l ρ st (vX S V P)
def JY (k:Kd)(S:TP)(l:TL)(ρ:aG)(P:MV->MS->Prop):MV->MS->Prop:=λV st=>k.ok V st/\l ρ st (vX S V P)
def I9 (V lo:MV)(P:MV->MS->Prop):MV->MS->Prop:=λhi st=>AW V lo hi st P
def Jt (V:MV)(u:TE)(ρ:aG)(P:MV->MS->Prop):MV->MS->Prop:=λlo st=>u ρ st (I9 V lo P)
def NN (y u:TE)(ρ:aG)(P:MV->MS->Prop):MV->MS->Prop:=λV st=>y ρ st (Jt V u ρ P)
def Ms (S:TP)(W:MV)(P:MV->MS->Prop):MV->MS->Prop:=λV st=>S [V,W] st P
def Mj (i:Nat)(b:TS)(ρ:aG)(Q:MF->aG->MS->Prop):MV->MS->Prop:=λV st=>b (ρ.set i (some V)) st Q
def IS (b:TS)(ρ:aG)(Q:MF->aG->MS->Prop):MV->MS->Prop:=λV st=>MW (b ρ st Q) V
def Mg (y:TE)(ρ:aG)(Q:MV->MS->Prop):MV->MS->Prop:=λV Pt=>qR (λx=>if x then Q (.bool true) Pt else y ρ Pt Q) V
def wP (y:TE)(ρ:aG)(Q:MV->MS->Prop):MV->MS->Prop:=λV Pt=>qR (λx=>if x then y ρ Pt Q else Q (.bool false) Pt) V
def Kh (nT:Nat)(caps:List Nat)(tg:TG)(c:TB)(e:TE)(ρ:aG)(Q:MV->MS->Prop):List MV->(MS->Prop)->MS->Prop:=λxs G Pt=>xs.length<=abA/\fq G tg c e xs (jw nT caps ρ) [] Pt λys Pz=>Q (.ref Pz.length) (Pz++[.list ys])
def Hz (Q:List MV->(MS->Prop)->MS->Prop):List MV->MS->Prop:=λVs Pt=>BC (hO λr=>cD Pt[r]? λxs=>Q (lU 0 xs) (λst=>st[r]?=some (.list xs)) Pt) Vs
section
variable {ρ:aG}{st:MS}{Q:MF->aG->MS->Prop}{P:MV->MS->Prop}{B:Bool->MS->Prop}{a b:TS}{x y z:TE}{c e:TB}{i:Nat}{V:MV}{l r:TL}{S:TP}
theorem M9 (h:a ρ st (Bi b Q)):aj a b ρ st Q:=h
theorem Kr (h:Q .next ρ st):az ρ st Q:=h
theorem tN (h:b ρ st Q):Bi b Q .next ρ st:=h
theorem Oq (h:Q (.ret V) ρ st):Bi b Q (.ret V) ρ st:=h
theorem Ot (h:P V st):fi P (.ret V) ρ st:=h
theorem O5 (h:a ρ st Q):H0 a b ρ Q true st:=h
theorem Ng (h:b ρ st Q):H0 a b ρ Q false st:=h
theorem bH {p:Prop} [Decidable p] (h1:p->a ρ st Q)(h2:¬p->b ρ st Q):H0 a b ρ Q (decide p) st:=by
 unfold H0
 by_cases h:p
 ·rw [decide_eq_true h]; exact h1 h
 ·rw [decide_eq_false h]; exact h2 h
theorem O0 {is:List Nat}(h:x ρ st (MQ is ρ Q)):vO is x ρ st Q:=h
theorem Oy {is:List Nat}(h:x ρ st (Ka is ρ Q)):c9 is x ρ st Q:=h
theorem HI {is:List Nat}{Vs:List MV}(hl:Vs.length=is.length)(h:Q .next (fa ρ is Vs) st):MQ is ρ Q (.tup Vs) st:=⟨hl,h⟩
theorem eF {is:List Nat}{Vs:List MV}(hl:Vs.length=is.length)(h:Q .next (fa ρ is Vs.reverse) st):Ka is ρ Q (.tup Vs) st:=⟨hl,h⟩
theorem O6 (h:ar S (af i) x ρ st (MU i ρ Q)):pU S i x ρ st Q:=h
theorem Pb {T:TI}{tg:TG}(h:T ρ st (NW tg b ρ Q)):eS T tg b ρ st Q:=h
theorem Ls {K:List MV->(MS->Prop)->MS->Prop}(h:x ρ st (HZ K)):b9 x ρ st K:=h
theorem NY {K:List MV->(MS->Prop)->MS->Prop}(h:l ρ st (Lp K)):mR l ρ st K:=h
theorem cb {K:List MV->(MS->Prop)->MS->Prop}{xs:List MV}(hx:st[i]?=some (.list xs))(h:K xs (λst=>st[i]?=some (.list xs)) st):HZ K (.ref i) st:=by
 show cD st[i]? _
 rw [hx]; exact h
theorem iJ (h0:ρ[i]?=some (some V))(h:P V st):af i ρ st P:=by unfold af; rw [h0]; exact h
theorem Pr (h:P V st):tK V ρ st P:=h
theorem Pd (h:l ρ st (MT S P)):aF S l ρ st P:=h
theorem Oo {K:List MV->MS->Prop}(h:K [] st):ak ρ st K:=h
theorem Oa {K:List MV->MS->Prop}(h:x ρ st (NP l ρ K)):ad x l ρ st K:=h
theorem Pj (h:l ρ st (Mk P)):bl l ρ st P:=h
theorem Nl (h:l ρ st (Me P)):be l ρ st P:=h
theorem O3 (h:x ρ st (JK S y ρ P)):ar S x y ρ st P:=h
theorem Pn (h:x ρ st (NM S P)):io S x ρ st P:=h
theorem Kg (h:c ρ st (BP x y ρ P)):fg c x y ρ st P:=h
theorem OE (h:x ρ st P):BP x y ρ P true st:=h
theorem OF (h:y ρ st P):BP x y ρ P false st:=h
theorem LY (h:x ρ st (JX B)):bT x ρ st B:=h
theorem NT {t:Bool}(h:B t st):JX B (.bool t) st:=h
theorem Oc (h:B true st):fU ρ st B:=h
theorem N7 (h:B false st):il ρ st B:=h
theorem Nw (h:c ρ st (JL B)):om c ρ st B:=h
theorem OJ (h:B false st):JL B true st:=h
theorem Og (h:B true st):JL B false st:=h
theorem Pi (h:c ρ st (CK e ρ B)):dw c e ρ st B:=h
theorem Ov (h:e ρ st B):CK e ρ B true st:=h
theorem OM (h:B false st):CK e ρ B false st:=h
theorem Pk (h:c ρ st (IB e ρ B)):lH c e ρ st B:=h
theorem Pf (h:B true st):IB e ρ B true st:=h
theorem Pa (h:e ρ st B):IB e ρ B false st:=h
theorem Ky {C:Addr}{name:Str}(h:x ρ st (JH C name P)):cC C name x ρ st P:=h
theorem eI {o:Option MO}{K:List MV->Prop}{xs:List MV}(hi:o=some (.list xs))(h:K xs):cD o K:=by rw [hi]; exact h
theorem Gg {o:Option MO}{K:List (Str×MV)->Prop}{fs:List (Str×MV)}{ep:Nat}(hi:o=some (.dict fs ep))(h:K fs):wl o K:=by rw [hi]; exact h
theorem l3 {X:Type}{o:Option X}{K:X->Prop}{x:X}(hi:o=some x)(h:K x):dU o K:=by rw [hi]; exact h
theorem F5 {o:Option MO}{C:Addr}{K:List (Str×MV)->Prop}{fs:List (Str×MV)}(hi:o=some (.inst C fs))(h:K fs):w8 C K o:=by rw [hi]; exact⟨rfl,h⟩
theorem bD {C:Addr}{name:Str}{fs:List (Str×MV)}(hi:st[i]?=some (.inst C fs))(hf:fs.lookup name=some V)(h:P V st):JH C name P (.ref i) st:=F5 hi (l3 hf h)
theorem Lv {a b c:TE}{x y z:Int}{Q:Bool->MS->Prop}(ha:∀P:MV->MS->Prop,P (.int x) st->a ρ st P)(hb:∀P:MV->MS->Prop,P (.int y) st->b ρ st P)(hc:∀P:MV->MS->Prop,P (.int z) st->c ρ st P)(h1:x<=y)(h2:y < z)(h:Q true st) :
  BD (bw λa b=>decide (a<=b)) (bw λa b=>decide (a < b)) a b c ρ st Q:=
 ha _ (hb _ (show NQ (bw λa b=>decide (a < b)) c ρ Q (.int y) (.bool (decide (x<=y))) st by
  rw [decide_eq_true h1]; exact hc _ (show Q (decide (y < z)) st by rw [decide_eq_true h2]; exact h)))
theorem Os {C:Addr}(h:x ρ st (Mt C S l ρ P)):bf C S x l ρ st P:=h
theorem Po {k:Kd}(h:x ρ st (JY k S l ρ P)):cq k S x l ρ st P:=h
theorem Pg {n:Int}(h:P (.bool false) st):mU [.int n,.none] st P:=h
theorem O4 {n:Str}(h:P (.bool false) st):mU [.str n,.none] st P:=h
theorem OV {n:Nat}(h:P (.bool false) st):mU [.ref n,.none] st P:=h
theorem J3 (h:P (.bool true) st):mU [.none,.none] st P:=h
theorem OZ {n:Int}(h:P (.bool true) st):fM [.int n,.none] st P:=h
theorem Pc (h:P (.bool false) st):fM [.none,.none] st P:=h
theorem xS {G:MS->Prop}{tg:TG}(hG:G st)(h:Q .next ρ st):ew G tg b [] ρ st Q:=⟨hG,h⟩
theorem cT {G:MS->Prop}{xs:List MV}(hG:G st)(h:b (ρ.set i (some V)) st (ud G (b8 i) b xs Q)):ew G (b8 i) b (V::xs) ρ st Q:=⟨hG,h⟩
theorem Ph {G:MS->Prop}{tg:TG}{xs:List MV}(h:ew G tg b xs ρ st Q):ud G tg b xs Q .next ρ st:=h
theorem OO {G:MS->Prop}{tg:TG}{xs:List MV}(h:Q (.ret V) ρ st):ud G tg b xs Q (.ret V) ρ st:=h
theorem dJ {p:Prop} [Decidable p] (h1:p->e ρ st B)(h2:¬p->B false st):CK e ρ B (decide p) st:=by
 unfold CK
 by_cases h:p
 ·rw [decide_eq_true h]; exact h1 h
 ·rw [decide_eq_false h]; exact h2 h
theorem fz {n:Nat}(h:c ρ st (Bw c b n ρ Q)):d9 c b (n+1) ρ st Q:=h
theorem Oj {n:Nat}(h:b ρ st (yn c b n Q)):Bw c b n ρ Q true st:=h
theorem MB {n:Nat}(h:Q .next ρ st):Bw c b n ρ Q false st:=h
theorem Oz {n:Nat}(h:d9 c b n ρ st Q):yn c b n Q .next ρ st:=h
theorem Of {n:Nat}(h:Q (.ret V) ρ st):yn c b n Q (.ret V) ρ st:=h
theorem HE {n:Nat}{p:Prop} [Decidable p] (h1:p->b ρ st (yn c b n Q))(h2:¬p->Q .next ρ st):Bw c b n ρ Q (decide p) st:=by
 unfold Bw
 by_cases h:p
 ·rw [decide_eq_true h]; exact h1 h
 ·rw [decide_eq_false h]; exact h2 h
theorem ON {f:Int->Int->Bool}{m n:Int}(h:P (.bool (f m n)) st):bw f [.int m,.int n] st P:=h
theorem ck {f:Int->Int->Int}{ok:Int->Int->Prop}{m n:Int}(hk:ok m n)(h:P (.int (f m n)) st):bh f ok [.int m,.int n] st P:=⟨hk,h⟩
theorem O7 {m:Int}(h:P (.int (-m)) st):fP [.int m] st P:=h
theorem O9 {m n:Int}(h:P (.int (m+n)) st):cM [.int m,.int n] st P:=h
theorem OQ {m n:Str}(h:P (.bool (decide (m=n))) st):bN [.str m,.str n] st P:=h
theorem Ku {m n:Str}(h:P (.bool (!decide (m=n))) st):g8 [.str m,.str n] st P:=h
theorem jC {a b:Option abU}{K:abU->abU->Prop}{R:Prop}{d e:abU}(ha:a=some d)(hb:b=some e)(h:K d e):qF a b K R:=by rw [ha,hb]; exact h
theorem JU {a b:Option abU}{K:abU->List abU->Prop}{d:abU}{ds:List abU}(ha:a=some d)(hb:b=some (.list ds))(h:K d ds):wX a b K:=by rw [ha,hb]; exact h
theorem I3 {UG:Bool}{x y:Str}(h:P (.bool (xor UG (lF y x))) st):im UG [.str y,.str x] st P:=h
theorem dX {xs:List MV}{ds:List abU}(hi:st[i]?=some (.list xs))(hd:fA xs=some ds):fu st (.ref i)=some (.list ds):=by
 show lC ee st[i]?=_
 rw [hi]; exact congrArg (aeV aiR) hd
theorem IA {xs:List MV}{ds:List abU}(hd:fA xs=some ds):fu st (.tup xs)=some (.tuple ds):=congrArg (aeV PyData.tuple) hd
theorem pO {x:Str}(h:ab4 x=true):ee (.str x)=some (.str x):=if_pos h
theorem yf {a b:Str}(ha:ab4 a=true)(hb:ab4 b=true):fA [.str a,.str b]=some [.str a,.str b]:=by
 unfold fA
 rw [adL,adL,pO ha,pO hb]; rfl
theorem pJ {X Y Z:Type}{f:X->Option Z}{g:Y->X}{k:Y->Z}(hf:∀y,f (g y)=some (k y))(ys:List Y):(ys.map g).mapM f=some (ys.map k):=by
 induction ys with
 | nil=>rfl
 | cons y ys ih=>rw [abg,adL,hf,ih]; rfl
theorem xL {V W:MV}(hV:∀(K:Str->Str->Prop)(R:Prop),oM V W K R=R)(h:qF (fu st V) (fu st W) (λd e=>P (.bool (abH d e)) st) (qF (w1 st V) (w1 st W) (λd e=>P (.bool (abH d e)) st) False)):bN [V,W] st P:=(hV _ _).mpr h
theorem Az {V W:MV}(hV:∀(K:Str->Str->Prop)(R:Prop),oM V W K R=R)(h:qF (fu st V) (fu st W) (λd e=>P (.bool (!abH d e)) st) False):g8 [V,W] st P:=(hV _ _).mpr h
theorem Ft {UG:Bool}{V W:MV}(hV:∀(K:Str->Str->Prop)(R:Prop),oM V W K R=R)(h:wX (ee V) (fu st W) λd ds=>P (.bool (xor UG (ds.any λy=>abH y d))) st):im UG [V,W] st P:=(hV _ _).mpr h
theorem Ke {g e:Nat}{xs:List MV}{ds:List abU}(hg:st[g]?=some (.list xs))(h0:fA xs=none)(h2:xs.mapM (fu st)=some ds)(he:st[e]?=some (.list []))(h:P (.bool (abH (.list ds) (.list []))) st):bN [.ref g,.ref e] st P:=by
 have e1:fu st (.ref g)=none:=by
  show lC ee st[g]?=none
  rw [hg]; exact congrArg (aeV aiR) h0
 refine xL (λ_ _=>rfl) ?_
 rw [e1]
 show qF (lC (fu st) st[g]?) (lC (fu st) st[e]?) _ False
 rw [hg,he]
 exact jC (congrArg (aeV aiR) h2) rfl h
theorem Nv {m n:Int}(h:P (.bool (decide (m=n))) st):bN [.int m,.int n] st P:=xL (λ_ _=>rfl) (jC rfl rfl (by rw [zs]; exact h))
theorem Fd {g e:Nat}{xs:List MV}{ds:List abU}(hg:st[g]?=some (.list xs))(hd:fA xs=some ds)(he:st[e]?=some (.list []))(h:P (.bool (!xs.isEmpty)) st):g8 [.ref g,.ref e] st P:=by
 refine Az (λ_ _=>rfl) (jC (dX hg hd) (dX (ds:=[]) he rfl) ?_)
 cases xs with
 | nil=>cases hd; simpa [abH,ad5] using h
 | cons v xs=>exact xN hd λy ys _ _ e=>by subst e; simpa [abH,ad5] using h
theorem Pm {u:TE}(h:x ρ st (NN y u ρ P)):iV x y u ρ st P:=h
theorem pa {t:Str}{j:Int}(hl:t.length<=1000)(h:P (.str (abD t none (some j))) st):AW (.str t) .none (.int j) st P:=⟨aaj hl (by decide),h⟩
theorem w4 {t:Str}{j:Int}(hl:t.length<=1000)(h:P (.str (abD t (some j) none)) st):AW (.str t) (.int j) .none st P:=⟨aaj hl (by decide),h⟩
theorem mV {t:Str}{i j:Int}(hl:t.length<=1000)(h:P (.str (abD t (some i) (some j))) st):AW (.str t) (.int i) (.int j) st P:=⟨aaj hl (by decide),h⟩
theorem r7 {t u:Str}(hl:(t++u).length<=1000)(h:P (.str (t++u)) st):cM [.str t,.str u] st P:=⟨aaj hl (by decide),h⟩
theorem ql {p:Prop} [Decidable p] (h1:p->B true st)(h2:¬p->e ρ st B):IB e ρ B (decide p) st:=by
 unfold IB
 by_cases h:p
 ·rw [decide_eq_true h]; exact h1 h
 ·rw [decide_eq_false h]; exact h2 h
theorem OK (h:Q .next (ρ.set i (some V)) st):MU i ρ Q V st:=h
theorem O8 (h:Q (.ret V) ρ st):G7 ρ Q V st:=h
theorem OX (h:G7 ρ Q V st):G7 ρ (Bi b Q) V st:=h
theorem O2 (h:P V st):G7 ρ (fi P) V st:=h
theorem OG {Vs:List MV}(h:S Vs st P):MT S P Vs st:=h
theorem Op {Vs:List MV}{K:List MV->MS->Prop}(h:K (V::Vs) st):A1 V K Vs st:=h
theorem O1 {K:List MV->MS->Prop}(h:l ρ st (A1 V K)):NP l ρ K V st:=h
theorem Oe {Vs:List MV}(h:P (.tup Vs) st):Mk P Vs st:=h
theorem Ow {Vs:List MV}(h:P (.ref st.length) (st++[.list Vs])):Me P Vs st:=h
theorem OI {W:MV}(h:S [V,W] st P):Je S V P W st:=h
theorem OB (h:y ρ st (Je S V P)):JK S y ρ P V st:=h
theorem OS (h:S [V] st P):NM S P V st:=h
theorem Ol {Vs:List MV}(h:S (V::Vs) st P):vX S V P Vs st:=h
theorem bK {C:Addr}(h:xt C V st)(h':l ρ st (vX S V P)):Mt C S l ρ P V st:=⟨h,h'⟩
theorem Oh {lo hi:MV}(h:AW V lo hi st P):I9 V lo P hi st:=h
theorem OA {u:TE}{lo:MV}(h:u ρ st (I9 V lo P)):Jt V u ρ P lo st:=h
theorem OW {u:TE}(h:y ρ st (Jt V u ρ P)):NN y u ρ P V st:=h
theorem OD (h:x ρ st (Mj i b ρ Q)):aj (aX i x) b ρ st Q:=h
theorem On (h:b (ρ.set i (some V)) st Q):Mj i b ρ Q V st:=h
theorem OC (h:x ρ st (G7 ρ Q)):aj (aS x) b ρ st Q:=h
theorem Ob (h:x ρ st P):aj (aS x) b ρ st (fi P):=h
theorem Od (h:x ρ st (IS b ρ Q)):aj (bY x) b ρ st Q:=h
theorem H4 (h:b ρ st Q):IS b ρ Q .none st:=h
theorem Ox {n:Int}(h:b ρ st Q):IS b ρ Q (.int n) st:=h
theorem Nj {a':TS}(h:c ρ st (H0 a a' ρ (Bi b Q))):aj (bW c a a') b ρ st Q:=h
theorem OY {K:List MV->MS->Prop}(h0:ρ[i]?=some (some V))(h:l ρ st (A1 V K)):ad (af i) l ρ st K:=iJ h0 h
theorem Oi {K:List MV->MS->Prop}(h:l ρ st (A1 V K)):ad (tK V) l ρ st K:=h
theorem OP {K:List MV->MS->Prop}(h0:ρ[i]?=some (some V))(h:K [V] st):ad (af i) ak ρ st K:=iJ h0 h
theorem OT {K:List MV->MS->Prop}(h:K [V] st):ad (tK V) ak ρ st K:=h
theorem Pe {j:Nat}{W:MV}(h0:ρ[i]?=some (some V))(h1:ρ[j]?=some (some W))(h:S [V,W] st P):ar S (af i) (af j) ρ st P:=iJ h0 (iJ h1 h)
theorem Ki {W:MV}(h0:ρ[i]?=some (some V))(h:S [V,W] st P):ar S (af i) (tK W) ρ st P:=iJ h0 h
theorem OU {W:MV}(h:x ρ st (Ms S W P)):ar S x (tK W) ρ st P:=h
theorem Ou {W:MV}(h:S [V,W] st P):Ms S W P V st:=h
theorem Kj (h:x ρ st (Mg y ρ P)):CH x y ρ st P:=h
theorem xQ (h:x ρ st (wP y ρ P)):lO x y ρ st P:=h
theorem Lf {p:Prop} [Decidable p] (h1:p->y ρ st P)(h2:¬p->P (.bool false) st):wP y ρ P (.bool (decide p)) st:=by
 unfold wP
 by_cases h:p
 ·rw [decide_eq_true h]; exact h1 h
 ·rw [decide_eq_false h]; exact h2 h
theorem cE {n k:Nat}{ds Vs:List MV}{T:TS}(hn:Vs.length=n)(h:T ((Vs++ds).map some++abS k none) st (fi P)):bX n ds k T Vs st P:=⟨hn,h⟩
theorem d6 {xs:List MV}(hi:st[i]?=some (.list xs))(h:l ρ st (vX S (.ref i) P)):JY .list S l ρ P (.ref i) st:=⟨⟨i,xs,rfl,hi⟩,h⟩
theorem iH {t:Str}(h:l ρ st (vX S (.str t) P)):JY .str S l ρ P (.str t) st:=⟨⟨t,rfl⟩,h⟩
theorem Kf {fs:List (Str×MV)}{ep:Nat}(hi:st[i]?=some (.dict fs ep))(h:l ρ st (vX S (.ref i) P)):JY .dict S l ρ P (.ref i) st:=⟨⟨i,fs,ep,rfl,hi⟩,h⟩
theorem em {nT:Nat}{caps:List Nat}{src:TI}{tg:TG}{c:TB}{e:TE}(hc:(caps.all λi=>((ρ[i]?).join).isSome)=true)(h:src ρ st (Kh nT caps tg c e ρ P)):c7 nT caps src tg c e ρ st P:=⟨hc,h⟩
theorem dt {nT:Nat}{caps:List Nat}{tg:TG}{c:TB}{e:TE}{xs:List MV}{G:MS->Prop}(hl:xs.length<=1000)(h:fq G tg c e xs (jw nT caps ρ) [] st λys Pz=>P (.ref Pz.length) (Pz++[.list ys])):Kh nT caps tg c e ρ P xs G st:=⟨aaj hl (by decide),h⟩
theorem Fc {l:TL}{K:List MV->(MS->Prop)->MS->Prop}(h:l ρ st (Hz K)):AA l ρ st K:=h
theorem Bt {i:Nat}{xs:List MV}{K:List MV->(MS->Prop)->MS->Prop}(hi:st[i]?=some (.list xs))(h:K (lU 0 xs) (λst=>st[i]?=some (.list xs)) st):Hz K [.ref i] st:=eI hi h
end
theorem m0 {X:Type}{a:X}{l:List X}:a∈a::l:=.head _
theorem m1 {X:Type}{a b:X}{l:List X}:b∈a::b::l:=.tail _ (.head _)
theorem m2 {X:Type}{a b c:X}{l:List X}:c∈a::b::c::l:=.tail _ (.tail _ (.head _))
local macro_rules | `(tactic| walk_at "m")=>`(tactic| (first | exact m0 | exact m1 | exact m2 | simp))
@[irreducible] def sV (k:Nat) (n:String):Lean.Syntax:=
 let q:=sN `Lean.Parser.Term.syntheticHole #[.atom .none "?",.atom .none "_"]
 let w:=sN `Lean.Parser.Term.byTactic #[.atom .none "by",sQ #[sN `Lean.Parser.Tactic.withUnfoldingAll #[.atom .none "with_unfolding_all",sQ #[sN `Lean.Parser.Tactic.exact #[.atom .none "exact",.ident .none "rfl".toRawSubstring `rfl []]]]]]
 sN `group #[.atom .none "|",sQ #[sN `Lean.Parser.Tactic.refine #[.atom .none "refine",sN `Lean.Parser.Term.app #[.ident .none n.toRawSubstring (.mkSimple n) [],sN `null ((abS k w).toArray.push q)]]]]
@[irreducible] def sZ (a b c:String):Lean.Syntax:=
 sN `Lean.Parser.Tactic.withReducible #[.atom .none "with_reducible",sQ #[sN `Lean.Parser.Tactic.tacticRepeat_ #[.atom .none "repeat",sQ #[sN `Lean.Parser.Tactic.first #[.atom .none "first",sN `null (((a.splitOn " ").map (sV 1)++((b.splitOn " ").map (sV 2)++(c.splitOn " ").map (sV 0))).toArray)]]]]]
local macro_rules | `(tactic| walk_at "w")=>pure (sZ "OP OY Ki iJ" "Pe" "OD Ob OC Od Nj M9 Kr tN Oq Ot OX O2 O8 On OK H4 Ox O5 Ng O0 Oy O6 Pb Ls NY Pr Pd Oo OT Oi Oa OU Ou OG Op O1 Oe Ow OI OB OS Ol Oh OA OW Pj Nl O3 Pn Kg OE OF LY NT Oc N7 Nw Pi Ov OM Pk Pf Pa Ky Os Po Pg O4 OV J3 OZ Pc OJ Og ON O7 O9 Ph OO Pm Oj MB Oz Of OQ Ku Nv")
theorem yl {j:Int}{n k:Nat}(hj:j=(k:Int))(hk:k < n):afb j n=some k:=by
 subst hj
 unfold afb
 have h1:¬((k:Int) < 0):=by walk_at "o"
 simp [h1,hk]
theorem EX {xs:List MV}{j:Int}{k:Nat}{x:MV}{st:MS}{Q:MV->MS->Prop}(hj:j=(k:Int))(hx:xs[k]?=some x)(hl:xs.length < 2 ^ 62):aN [.tup xs,.int j] st Q↔Q x st:=by
 have hk:=(bP hx).1
 have e:=yl hj hk
 constructor
 ·rintro⟨_,n,y,h1,h2,h3⟩
  rw [e] at h1; cases h1
  rw [hx] at h2; cases h2
  exact h3
 ·intro h
  exact⟨⟨by walk_at "o",by walk_at "o"⟩,k,x,e,hx,h⟩
theorem II {x:MV}{st:MS}{Q:MV->MS->Prop}{y:MV}:aN [.tup [x,y],.int 0] st Q↔Q x st:=EX (k:=0) rfl rfl (by simp)
theorem JS {x:MV}{st:MS}{Q:MV->MS->Prop}{y:MV}:aN [.tup [x,y],.int 1] st Q↔Q y st:=EX (k:=1) rfl rfl (by simp)
theorem kL {a b:Int}(h:a.natAbs < 2 ^ 63):acd a b:=by
 refine IntMulOk.of_left ?_
 unfold ah0
 by_cases h0:a.natAbs=0
 ·simp [h0]; split <;> walk_at "o"
 ·split
  ·simp
  ·have:a.natAbs.log2 < 63:=(aiS h0).mpr h
   walk_at "o"
theorem ph {a b:Int}(h:b.natAbs < 2 ^ 63):acd a b:=by
 refine IntMulOk.of_right ?_
 unfold ah0
 by_cases h0:b.natAbs=0
 ·simp [h0]; split <;> walk_at "o"
 ·split
  ·simp
  ·have:b.natAbs.log2 < 63:=(aiS h0).mpr h
   walk_at "o"
section
noncomputable abbrev num (a b:Int):MV:=.tup [.int a,.int b]
theorem wW {x y:MV}{st:MS}{Q:MV->MS->Prop}(h:Q x st):aN [.tup [x,y],.int 0] st Q:=II.mpr h
theorem jN {x y:MV}{st:MS}{Q:MV->MS->Prop}(h:Q y st):aN [.tup [x,y],.int 1] st Q:=JS.mpr h
theorem C3 {a b:Int}{st:MS}{Q:MV->MS->Prop}(h0:b=0->Q (.bool (decide (a=0))) st)(h1:b≠0->Q (.bool false) st):kH [num a b] st Q:=by
 refine cE rfl ?_
 walk_at "w"
 refine xQ ?_
 walk_at "w"
 refine jN ?_
 walk_at "w"
 refine Lf (λe=>?_) h1
 walk_at "w"
 refine wW ?_
 walk_at "w"
 exact h0 e
theorem CT {a b:Int}{st:MS}{Q:MV->MS->Prop}(hb:b≠0)(h:Q (.bool false) st):kH [num a b] st Q:=C3 (λe=>absurd e hb) λ_=>h
theorem Ho {st:MS}{Q:MV->MS->Prop}(h:Q (.bool true) st):kH [num 0 0] st Q:=C3 (λ_=>h) λe=>absurd rfl e
noncomputable def Pq (n:Int):Int:=if n > 0 then 1 else if n < 0 then -1 else 0
theorem HS {a b:Int}{st:MS}{Q:MV->MS->Prop}(h:Q (num (-a) b) st):nS [num a b] st Q:=by
 refine cE rfl ?_
 walk_at "w"
 refine wW ?_
 walk_at "w"
 refine jN ?_
 walk_at "w"
 exact h
theorem G5 (a b:Int):aci b (a % b)=aci a b:=by
 rw [Int.gcd_comm a b]
 have h:=Int.gcd_add_mul_right_right b (a % b) (a / b)
 rw [show a % b+a / b * b=a by rw [Int.mul_comm]; exact Int.emod_add_mul_ediv a b] at h
 exact h.symm
theorem Fg:∀(n:Nat)(a b:Int)(x y:Option MV)(st:MS)(Q:MF->aG->MS->Prop),0<=a->0<=b->b.toNat < n->(∀b',Q .next [x,y,some (.int (aci a b:Nat)),b'] st) ->
  d9 (bT (ar (bw λa b=>decide (a > b)) (af 3) (tK (.int 0)))) (aj (c9 [3,2] (bl (ad (af 3) (ad (ar (bh acl (λ_ b=>b≠0)) (af 2) (af 3)) ak)))) az) n [x,y,some (.int a),some (.int b)] st Q:=by
 intro n
 induction n with
 | zero =>
  intro a b x y st Q _ _ h _
  exact absurd h (ab6 _)
 | succ n ih =>
  intro a b x y st Q ha hb h q
  refine fz ?_
  by_cases hb0:b > 0
  ·have hm:0<=acl a b:=ael ha hb
   have PR:acl a b < b:=aeX a hb0
   have e:aci b (acl a b)=aci a b:=by
    rw [agw a hb]
    exact G5 a b
   have:=ih b (acl a b) x y st Q hb hm (abG ((Int.toNat_lt_toNat hb0).mpr PR) (Nat.le_of_lt_succ h)) (by rw [e]; exact q)
   walk_at "w"
   refine HE (λ_=>?_) λq=>absurd hb0 q
   walk_at "w"
   refine ck (Int.ne_of_gt hb0) ?_
   walk_at "w"
   refine eF rfl ?_
   walk_at "w"
   exact this
  ·have V3:b=0:=by walk_at "o"
   subst V3
   have:=q (some (.int 0))
   have e:aci a 0=a.natAbs:=by simp
   rw [e,Int.natAbs_of_nonneg ha] at this
   walk_at "w"
   refine HE (λq=>absurd q hb0) λ_=>?_
   exact this
theorem vC {a b:Int}{st:MS}{Q:MV->MS->Prop}(hb:0<=b)(h:Q (.int (aci a b:Nat)) st):js [.int a,.int b] st Q:=by
 have e:(if a < 0 then -a else a)=(a.natAbs:Int):=by split <;> walk_at "o"
 refine abf rfl ?_
 refine abf rfl ?_
 show f8 _ _ [some (.int a),some (.int b),some (.int (if a < 0 then -a else a)),some (.int b)] st _
 rw [e]
 refine ad3 (b.toNat+1) (Fg _ _ _ _ _ _ _ (by walk_at "o") hb (by walk_at "o") λb'=>?_)
 have e2:aci (a.natAbs:Int) b=aci a b:=by simp [aci]
 rw [e2]
 exact h
theorem i5 {a b:Int}{st:MS}{Q:MV->MS->Prop}(hb:0 < b)(V3:b < 1000)(h:Q (num (a / (aci a b:Nat)) (b / (aci a b:Nat))) st):gO [.int a,.int b] st Q:=by
 refine abf rfl ?_
 have h0:b≠0:=by walk_at "o"
 have h1:¬b < 0:=by walk_at "o"
 have g0:((aci a b:Nat):Int)≠0:=by
  have:=Int.gcd_pos_of_ne_zero_right a h0
  walk_at "o"
 have g1:((aci a b:Nat):Int).natAbs < 1073741824:=by
  have:aci a b<=b.natAbs:=Int.gcd_le_natAbs_right a h0
  walk_at "o"
 walk_at "w"
 refine bH (λq=>absurd q h0) λ_=>?_
 walk_at "w"
 refine bH (λq=>absurd q h1) λ_=>?_
 walk_at "w"
 refine vC (by walk_at "o") ?_
 rw [<- aeC _ (by walk_at "o"),<- aeC _ (by walk_at "o")] at h
 walk_at "w"
 refine ck ⟨g0,g1⟩ ?_
 walk_at "w"
 refine ck ⟨g0,g1⟩ ?_
 walk_at "w"
 exact h
theorem KB {x:Int}(h:x % 2=1):aci x 2=1:=by
 have h1:aci x 2 ∣ 2:=by
  have:=Int.gcd_dvd_right x 2
  exact_mod_cast this
 have h2:((aci x 2:Nat):Int) ∣ x:=Int.gcd_dvd_left x 2
 have h3:aci x 2<=2:=Nat.le_of_dvd (by decide) h1
 have h4:aci x 2≠0:=λe=>by rw [e] at h1; walk_at "o"
 have h5:aci x 2≠2:=λe=>by rw [e] at h2; walk_at "o"
 walk_at "o"
theorem gM {a:Int}{st:MS}{Q:MV->MS->Prop}(h:Q (num a 1) st):eH [.int a] st Q:=by
 have:=(i5 (a:=a) (b:=1) (st:=st) (Q:=Q) (by walk_at "o") (by walk_at "o") (by simpa [Int.gcd_one] using h)).2
 exact abf rfl this
noncomputable def gL:Option Int->MV
 | none=>num 0 0
 | some h=>if h % 2=0 then num (h / 2) 1 else num h 2
noncomputable def tE:Option Int->Option Int->Option Int
 | some a,some b=>some (a+b)
 | _,_=>none
theorem AC {x:Int}{P:MV->Prop}(h1:∀n,2 * n=x->P (num n 1))(h2:x % 2=1->P (num x 2)):P (gL (some x)):=by
 show P (if x % 2=0 then num (x / 2) 1 else num x 2)
 by_cases he:x % 2=0
 ·rw [if_pos he]; exact h1 _ (by walk_at "o")
 ·rw [if_neg he]; exact h2 (by walk_at "o")
theorem J0 {n x:Int}(h:2 * n=x):gL (some x)=num n 1:=by
 subst h
 have h1:2 * n % 2=0:=by walk_at "o"
 have h2:2 * n / 2=n:=by walk_at "o"
 show (if 2 * n % 2=0 then num (2 * n / 2) 1 else num (2 * n) 2)=_
 rw [if_pos h1,h2]
theorem Kv {x:Int}(h:x % 2=1):gL (some x)=num x 2:=if_neg (by walk_at "o")
theorem zb {n d:Int}{st:MS}{Q:MV->MS->Prop}(d0:d≠0)(h:Q (num 0 0) st):j9 [num n d,num 0 0] st Q:=by
 refine cE rfl ?_
 walk_at "w"
 refine CT d0 ?_
 walk_at "w"
 refine Ho ?_
 walk_at "w"
 exact h
theorem t7 {n d k f:Int}{st:MS}{Q:MV->MS->Prop}(d0:d≠0)(f0:f≠0)(m1:acd n f)(m2:acd k d)(m3:acd d f)(hd:0 < d * f)(UP:d * f < 1000)
  (h:Q (num ((n * f+k * d) / (aci (n * f+k * d) (d * f):Nat)) (d * f / (aci (n * f+k * d) (d * f):Nat))) st):j9 [num n d,num k f] st Q:=by
 refine cE rfl ?_
 walk_at "w"
 refine CT d0 ?_
 walk_at "w"
 refine CT f0 ?_
 walk_at "w"
 refine jN ?_
 walk_at "w"
 refine dJ (λq=>absurd q d0) λ_=>?_
 walk_at "w"
 refine jN ?_
 walk_at "w"
 refine bH (λq=>absurd q d0) λ_=>?_
 walk_at "w"
 refine jN ?_
 walk_at "w"
 refine bH (λq=>absurd q f0) λ_=>?_
 walk_at "w"
 refine wW ?_
 walk_at "w"
 refine jN ?_
 walk_at "w"
 refine ck m1 ?_
 walk_at "w"
 refine wW ?_
 walk_at "w"
 refine jN ?_
 walk_at "w"
 refine ck m2 ?_
 walk_at "w"
 refine jN ?_
 walk_at "w"
 refine jN ?_
 walk_at "w"
 refine ck m3 ?_
 walk_at "w"
 exact i5 hd UP h
theorem Ib {z:Int}(h:z % 2=1){a b:Int}(e:a=z)(eb:b=2):aci a b=1:=by subst e; subst eb; exact KB h
theorem t0 {a b g x y:Int}(e1:a / g=x)(e2:b / g=y):num (a / g) (b / g)=num x y:=by rw [e1,e2]
theorem M6 {a b:Option Int}{st:MS}{Q:MV->MS->Prop}(h:Q (gL (tE a b)) st):j9 [gL a,gL b] st Q:=by
 cases a with
 | none =>
  refine cE rfl ?_
  walk_at "w"
  refine Ho ?_
  walk_at "w"
  exact h
 | some x =>
  cases b with
  | none=>exact AC (P:=λV=>j9 [V,num 0 0] st Q) (λn _=>zb (by decide) h) λ_=>zb (by decide) h
  | some y =>
   have V7:∀z:Int,acd z 1:=λz=>ph (by decide)
   have Wi:∀z:Int,acd z 2:=λz=>ph (by decide)
   have h':Q (gL (some (x+y))) st:=h
   refine AC (P:=λV=>j9 [V,gL (some y)] st Q) (λn en=>AC (P:=λV=>j9 [_,V] st Q) (λk ek=>?_) λok=>?_) λon=>AC (P:=λV=>j9 [_,V] st Q) (λk ek=>?_) λok=>?_
   ·refine t7 (by decide) (by decide) (V7 _) (V7 _) (V7 _) (by decide) (by decide) ?_
    rw [J0 (n:=n+k) (by walk_at "o")] at h'
    rw [show (1:Int) * 1=1 from rfl,Int.gcd_one,t0 (x:=n+k) (y:=1) (by walk_at "o") rfl]
    exact h'
   ·refine t7 (by decide) (by decide) (Wi _) (V7 _) (Wi _) (by decide) (by decide) ?_
    rw [Kv (by walk_at "o")] at h'
    rw [Ib (z:=x+y) (a:=n * 2+y * 1) (b:=1 * 2) (by walk_at "o") (by walk_at "o") rfl,t0 (x:=x+y) (y:=2) (by walk_at "o") rfl]
    exact h'
   ·refine t7 (by decide) (by decide) (V7 _) (Wi _) (V7 _) (by decide) (by decide) ?_
    rw [Kv (by walk_at "o")] at h'
    rw [Ib (z:=x+y) (a:=x * 1+k * 2) (b:=2 * 1) (by walk_at "o") (by walk_at "o") rfl,t0 (x:=x+y) (y:=2) (by walk_at "o") rfl]
    exact h'
   ·refine t7 (by decide) (by decide) (Wi _) (Wi _) (Wi _) (by decide) (by decide) ?_
    obtain⟨z,hz⟩:∃z,x+y=2 * z:=⟨(x+y) / 2,by walk_at "o"⟩
    rw [J0 hz.symm] at h'
    rw [show x * 2+y * 2=4 * z by walk_at "o",show aci (4 * z) (2 * 2)=4 from (congrArg (Nat.gcd · 4) (Int.natAbs_mul 4 z)).trans (Nat.gcd_mul_right_left _ 4),t0 (x:=z) (y:=1) (by walk_at "o") rfl]
    exact h'
end
set_option genInjectivity false in
structure Rw where
 kind:Str
 name:Str
 loc:Str
 uri:Str
 val:Str
 par:Option Nat
noncomputable def aT (d:List Rw)(k:Nat):Option Nat:=(d[k]?).bind (·.par)
noncomputable def kQ (d:List Rw):Nat->Nat->List Nat
 | 0,_=>[]
 | f+1,k=>k::(match aT d k with | some p=>kQ d f p | none=>[])
noncomputable def line (d:List Rw)(k:Nat):List Nat:=kQ d (k+1) k
noncomputable abbrev cw:Str:=("attribute":Str)
noncomputable def bA (d:List Rw)(k:Nat):Bool:=match d[k]? with | some r=>decide (r.kind=cw) | none=>false
noncomputable def bG (d:List Rw)(i:Nat):List Nat:=(ab7 d.length).filter λj=>decide (aT d j=some i) && !bA d j
noncomputable def cY (d:List Rw)(i:Nat):List Nat:=(ab7 d.length).filter λj=>decide (aT d j=some i) && bA d j
structure Wf (d:List Rw):Prop where
 low:∀k p,aT d k=some p->p < k
 pre:∀k p,aT d (k+1)=some p->p∈line d k
 elm:∀k p,aT d k=some p->∃r,d[p]?=some r/\(r.kind=("root":Str)\/r.kind=("element":Str))
def Tp (d:List Rw)(n:Nat):Prop:=∀k,k < n->aT d k=none->k=0
section
variable {d:List Rw}
theorem pZ {k p:Nat}(h:aT d k=some p):k < d.length:=by
 unfold aT at h
 cases e:d[k]? with
 | none=>rw [e] at h; cases h
 | some r=>exact (bP e).1
theorem pM {f k:Nat}{o:Option Nat}(e:aT d k=o):kQ d (f+1) k=k::o.elim [] (kQ d f):=by
 cases e; rfl'
theorem GQ (W:Wf d)(f:Nat):∀k g:Nat,k < f->k < g->kQ d f k=kQ d g k:=by
 induction f with
 | zero=>exact λk g h _=>absurd h (ab6 _)
 | succ f ih =>
  intro k g h1 h2
  cases g with
  | zero=>exact absurd h2 (ab6 _)
  | succ g =>
   rw [pM rfl,pM rfl]
   cases e:aT d k with
   | none=>rfl
   | some p =>
    have:=W.low k p e
    exact congrArg (k::·) (ih p g (abG this (Nat.le_of_lt_succ h1)) (abG this (Nat.le_of_lt_succ h2)))
theorem eY (W:Wf d){k:Nat}{o:Option Nat}(e:aT d k=o):line d k=k::o.elim [] (line d):=by
 refine (pM e).trans ?_
 cases o with
 | none=>rfl
 | some p=>exact congrArg (k::·) (GQ W k p (p+1) (W.low k p e) (abv _))
theorem BZ (k:Nat):(line d k).length<=k+1:=by
 have (f:Nat):∀k:Nat,(kQ d f k).length<=f:=by
  induction f with
  | zero=>exact λk=>abp _
  | succ f ih =>
   intro k
   rw [pM rfl]
   cases aT d k with
   | none=>exact Nat.succ_le_succ (abP _)
   | some p=>exact Nat.succ_le_succ (ih p)
 exact this (k+1) k
theorem dN (W:Wf d)(k:Nat):k∈line d k:=by rw [eY W rfl]; exact .head _
theorem dD (W:Wf d){k p:Nat}(e:aT d k=some p):line d k=k::line d p:=eY W e
theorem gy (W:Wf d){a k:Nat}(h:a∈line d k):a=k\/∃p,aT d k=some p/\a∈line d p:=by
 cases e:aT d k with
 | none=>rw [eY W e] at h; exact .inl (cr h)
 | some p=>rw [eY W e] at h; exact (bM h).imp_right λh=>⟨p,rfl,h⟩
theorem iK (W:Wf d):∀{k a:Nat},a∈line d k->a<=k:=by
 intro k
 induction k using acm with
 | _ k ih =>
  intro a h
  rcases gy W h with rfl | ⟨p,e,h⟩
  ·exact abp _
  ·have:=W.low k p e
   have:=ih p this h
   walk_at "o"
theorem xu (W:Wf d):∀{c b a:Nat},b∈line d c->a∈line d b->a∈line d c:=by
 intro c
 induction c using acm with
 | _ c ih =>
  intro b a hb ha
  rcases gy W hb with rfl | ⟨p,e,h⟩
  ·exact ha
  ·rw [dD W e]
   exact .tail _ (ih p (W.low c p e) h ha)
theorem vq (W:Wf d){a:Nat}:∀{c b:Nat},a∈line d c->a<=b->b<=c->a∈line d b:=by
 intro c
 induction c with
 | zero =>
  intro b h h1 h2
  have:b=0:=by walk_at "o"
  subst this; exact h
 | succ c ih =>
  intro b h h1 h2
  by_cases hb:b=c+1
  ·subst hb; exact h
  ·rcases gy W h with rfl | ⟨p,e,h⟩
   ·walk_at "o"
   ·exact ih (xu W (W.pre c p e) h) h1 (by walk_at "o")
theorem Ax (W:Wf d){c c' i j:Nat}(h1:aT d c=some i)(h2:aT d c'=some i)(PR:c < c')(hj:c∈line d j):j < c':=by
 cases aiw j c' with
 | inl h=>exact h
 | inr h =>
  exfalso
  have:=vq W hj (adi PR) h
  rw [dD W h2] at this
  rcases bM this with e | e
  ·walk_at "o"
  ·have:=iK W e
   have:=W.low c i h1
   walk_at "o"
theorem Ia (W:Wf d){n:Nat}(tp:Tp d n):∀{k:Nat},k < n->0∈line d k:=by
 intro k
 induction k using acm with
 | _ k ih =>
  intro h
  cases e:aT d k with
  | none =>
   have:=tp k h e
   subst this; exact dN W _
  | some p =>
   rw [dD W e]
   have:=W.low k p e
   exact .tail _ (ih p this (by walk_at "o"))
theorem fj {i j:Nat}:j∈bG d i↔j < d.length/\aT d j=some i/\bA d j=false:=by
 unfold bG
 rw [adg,abW]
 simp
theorem vQ {i j:Nat}:j∈cY d i↔j < d.length/\aT d j=some i/\bA d j=true:=by
 unfold cY
 rw [adg,abW]
 simp
theorem uP (d:List Rw)(i:Nat):(bG d i).Pairwise (· < ·):=List.pairwise_lt_range.filter _
theorem wC (W:Wf d){k p:Nat}(h:aT d k=some p):bA d p=false:=by
 obtain⟨r,e,hr⟩:=W.elm k p h
 unfold bA
 rw [e]
 show decide (r.kind=cw)=false
 rcases hr with hr | hr
 ·rw [hr]; decide +kernel
 ·rw [hr]; decide +kernel
theorem Ff {RH l₂:List Nat}(h1:RH.Pairwise (· < ·))(h2:l₂.Pairwise (· < ·))(h:∀x,x∈RH↔x∈l₂):RH=l₂:=by
 induction RH generalizing l₂ with
 | nil =>
  cases l₂ with
  | nil=>rfl
  | cons y r=>exact absurd ((h y).mpr (.head _)) (by simp)
 | cons x l ih =>
  cases l₂ with
  | nil=>exact absurd ((h x).mp (.head _)) (by simp)
  | cons y r =>
   rw [adw] at h1 h2
   have hxy:x=y:=by
    rcases bM ((h x).mp (.head _)) with e | e
    ·exact e
    ·rcases bM ((h y).mpr (.head _)) with e' | e'
     ·exact e'.symm
     ·have:=h2.1 x e
      have:=h1.1 y e'
      walk_at "o"
   subst hxy
   congr 1
   refine ih h1.2 h2.2 λz=>⟨λhz=>?_,λhz=>?_⟩
   ·rcases bM ((h z).mp (.tail _ hz)) with e | e
    ·subst e; exact absurd (h1.1 z hz) (acg _)
    ·exact e
   ·rcases bM ((h z).mpr (.tail _ hz)) with e | e
    ·subst e; exact absurd (h2.1 z hz) (acg _)
    ·exact e
noncomputable def de (d:List Rw):Nat->Nat->List Nat
 | 0,_=>[]
 | f+1,i=>(bG d i).flatMap λc=>c::de d f c
theorem Mx {f i:Nat}:de d (f+1) i=(bG d i).flatMap λc=>c::de d f c:=rfl
theorem fN (W:Wf d):∀(f i j:Nat),d.length<=i+f->(j∈de d f i↔j < d.length/\j≠i/\i∈line d j/\bA d j=false):=by
 intro f
 induction f with
 | zero =>
  intro i j hf
  constructor
  ·intro h; cases h
  ·rintro⟨h1,h2,h3,_⟩
   have:=iK W h3
   walk_at "o"
 | succ f ih =>
  intro i j hf
  rw [Mx,adu]
  constructor
  ·rintro⟨c,hc,hj⟩
   obtain⟨c1,c2,c3⟩:=fj.mp hc
   have PR:=W.low c i c2
   have hci:i∈line d c:=by rw [dD W c2]; exact .tail _ (dN W i)
   rcases bM hj with rfl | hj
   ·exact⟨c1,by walk_at "o",hci,c3⟩
   ·obtain⟨q1,q2,q3,q4⟩:=(ih c j (by walk_at "o")).mp hj
    have:=iK W q3
    exact⟨q1,by walk_at "o",xu W q3 hci,q4⟩
  ·rintro⟨h1,h2,h3,h4⟩
   have key:∀j,i∈line d j->j≠i->bA d j=false->∃c,aT d c=some i/\c∈line d j/\bA d c=false:=by
    intro j
    induction j using acm with
    | _ j ih =>
     intro h3 h2 h4
     rcases gy W h3 with e | ⟨p,e,h⟩
     ·exact absurd e.symm h2
     ·by_cases hp:p=i
      ·subst hp; exact⟨j,e,dN W j,h4⟩
      ·obtain⟨c,q1,q2,q3⟩:=ih p (W.low j p e) h hp (wC W e)
       exact⟨c,q1,by rw [dD W e]; exact .tail _ q2,q3⟩
   obtain⟨c,c1,c2,c3⟩:=key j h3 h2 h4
   refine⟨c,fj.mpr ⟨pZ c1,c1,c3⟩,?_⟩
   by_cases Sm:j=c
   ·subst Sm; exact .head _
   ·have:=W.low c i c1
    exact .tail _ ((ih c j (by walk_at "o")).mpr ⟨h1,Sm,c2,h4⟩)
theorem Em (W:Wf d):∀(f i:Nat),d.length<=i+f->(de d f i).Pairwise (· < ·):=by
 intro f
 induction f with
 | zero =>
  intro _ _
  exact .nil
 | succ f ih =>
  intro i hf
  unfold de
  rw [List.pairwise_flatMap]
  refine⟨λc hc=>?_,(uP d i).imp_of_mem fun {c c'} hc R8 PR=>?_⟩
  ·obtain⟨c1,c2,c3⟩:=fj.mp hc
   have:=W.low c i c2
   refine adw.mpr ⟨λj hj=>?_,ih c (by walk_at "o")⟩
   obtain⟨q1,q2,q3,q4⟩:=(fN W f c j (by walk_at "o")).mp hj
   have:=iK W q3
   walk_at "o"
  ·obtain⟨c1,c2,c3⟩:=fj.mp hc
   obtain⟨e1,e2,e3⟩:=fj.mp R8
   have l1:=W.low c i c2
   have l2:=W.low c' i e2
   have hx:∀x∈c::de d f c,c∈line d x/\c<=x:=λx hx=>by
    rcases bM hx with rfl | hx
    ·exact⟨dN W _,abp _⟩
    ·obtain⟨q1,q2,q3,q4⟩:=(fN W f c x (by walk_at "o")).mp hx
     exact⟨q3,iK W q3⟩
   have hy:∀y∈c'::de d f c',c'<=y:=λy hy=>by
    rcases bM hy with rfl | hy
    ·exact abp _
    ·obtain⟨q1,q2,q3,q4⟩:=(fN W f c' y (by walk_at "o")).mp hy
     exact iK W q3
   intro x Rf y hy'
   have:=Ax W c2 e2 PR (hx x Rf).1
   have:=hy y hy'
   walk_at "o"
theorem iB (W:Wf d){f i:Nat}(hf:d.length<=i+f):de d f i=(ab7 d.length).filter λj=>decide (j≠i) && decide (i∈line d j) && !bA d j:=by
 refine Ff (Em W f i hf) (List.pairwise_lt_range.filter _) λj=>?_
 rw [fN W f i j hf,adg,abW]
 simp only [abZ,decide_eq_true_eq,Bool.not_eq_true']
 constructor
 ·rintro⟨a,b,c,e⟩; exact⟨a,⟨b,c⟩,e⟩
 ·rintro⟨a,⟨b,c⟩,e⟩; exact⟨a,b,c,e⟩
theorem MJ (x:List Int):∀(a:Int)(z:List Int),df x (x++a::z)=true:=by
 induction x with
 | nil=>exact λ_ _=>rfl
 | cons b r ih=>exact λa z=>GE.trans (ih a z)
theorem Mw (x:List Int):∀y z:List Int,df x y=true->df x (y++z)=true:=by
 induction x with
 | nil =>
  intro y z h
  cases y with
  | nil=>cases h
  | cons b r=>rfl
 | cons a r ih =>
  intro y z h
  cases y with
  | nil=>cases h
  | cons b q =>
   rw [pP] at h
   refine pP.trans ?_
   by_cases h1:a < b
   ·exact if_pos h1
   ·rw [if_neg h1] at h
    rw [if_neg h1]
    by_cases h2:b < a
    ·rw [if_pos h2] at h; cases h
    ·rw [if_neg h2] at h; rw [if_neg h2]; exact ih q z h
theorem Np (x:List Int):∀(a b:Int)(y z:List Int),a < b->df (x++a::y) (x++b::z)=true:=by
 induction x with
 | nil=>exact λa b y z h=>pP.trans (if_pos h)
 | cons c r ih=>exact λa b y z h=>GE.trans (ih a b y z h)
theorem lt_asymm (x:List Int):∀y:List Int,df x y=true->df y x=false:=by
 induction x with
 | nil =>
  intro y h
  cases y with
  | nil=>cases h
  | cons b r=>rfl
 | cons a r ih =>
  intro y h
  cases y with
  | nil=>cases h
  | cons b q =>
   rw [pP] at h
   refine pP.trans ?_
   by_cases h1:a < b
   ·rw [if_neg (Int.not_lt.mpr (Int.le_of_lt h1)),if_pos h1]
   ·rw [if_neg h1] at h
    by_cases h2:b < a
    ·rw [if_pos h2] at h; cases h
    ·rw [if_neg h2] at h
     rw [if_neg h2,if_neg h1]
     exact ih q h
noncomputable def c6 (d:List Rw)(p k:Nat):List Int:=[2,((bG d p).idxOf k:Nat)]
noncomputable def t6 (d:List Rw):Nat->Nat->List Int
 | 0,_=>[]
 | f+1,k=>match aT d k with | some p=>t6 d f p++c6 d p k | none=>[(k:Int)]
noncomputable def gx (d:List Rw)(k:Nat):List Int:=t6 d (k+1) k
theorem m9 {f k:Nat}{o:Option Nat}(e:aT d k=o):t6 d (f+1) k=o.elim [(k:Int)] λp=>t6 d f p++c6 d p k:=by
 cases e; rfl'
theorem zg {k:Nat}(e:aT d k=none):gx d k=[(k:Int)]:=m9 e
theorem FV (W:Wf d)(f:Nat):∀k g:Nat,k < f->k < g->t6 d f k=t6 d g k:=by
 induction f with
 | zero=>exact λk g h _=>absurd h (ab6 _)
 | succ f ih =>
  intro k g h1 h2
  cases g with
  | zero=>exact absurd h2 (ab6 _)
  | succ g =>
   rw [m9 rfl,m9 rfl]
   cases e:aT d k with
   | none=>rfl
   | some p =>
    have:=W.low k p e
    exact congrArg (·++c6 d p k) (ih p g (abG this (Nat.le_of_lt_succ h1)) (abG this (Nat.le_of_lt_succ h2)))
theorem pS (W:Wf d){k p:Nat}(e:aT d k=some p):gx d k=gx d p++c6 d p k:=
 (m9 e).trans (congrArg (·++c6 d p k) (FV W k p (p+1) (W.low k p e) (abv _)))
theorem BN (W:Wf d):∀{k a:Nat},a∈line d k->∃z,gx d k=gx d a++z:=by
 intro k
 induction k using acm with
 | _ k ih =>
  intro a h
  rcases gy W h with rfl | ⟨p,e,h⟩
  ·exact⟨[],by simp⟩
  ·obtain⟨z,hz⟩:=ih p (W.low k p e) h
   exact⟨z++c6 d p k,by rw [pS W e,hz,abL]⟩
theorem M7 {l:List Nat}(h:l.Pairwise (· < ·)){a b:Nat}(ha:a∈l)(hb:b∈l)(PR:a < b):l.idxOf a < l.idxOf b:=by
 induction l with
 | nil=>cases ha
 | cons x r ih =>
  rw [adw] at h
  rcases bM ha with rfl | ha
  ·have P6:(a == b)=false:=by simp; walk_at "o"
   rw [List.idxOf_cons_self,aeU,P6]
   simp
  ·have hx:=h.1 a ha
   rcases bM hb with rfl | hb
   ·walk_at "o"
   ·have h1:(x == a)=false:=by simp; walk_at "o"
    have h2:(x == b)=false:=by simp; walk_at "o"
    rw [aeU,aeU,h1,h2]
    simp only [cond_false]
    have:=ih h.2 ha hb
    walk_at "o"
theorem EP (W:Wf d){n:Nat}(tp:Tp d n)(hn:n<=d.length):∀{b a:Nat},a < b->b < n->bA d a=false->bA d b=false->df (gx d a) (gx d b)=true:=by
 intro b
 induction b using acm with
 | _ b ih =>
  intro a QP hb ha hbb
  cases e:aT d b with
  | none =>
   have:=tp b hb e
   walk_at "o"
  | some p =>
   have hp:=W.low b p e
   rw [pS W e]
   rcases aiq a p with h | h | h
   ·exact Mw _ _ _ (ih p hp h (by walk_at "o") ha (wC W e))
   ·subst h; exact MJ _ _ _
   ·have hpb:p∈line d b:=by rw [dD W e]; exact .tail _ (dN W p)
    have hpa:=vq W hpb (adi h) (adi QP)
    have:a∈de d d.length p:=(fN W _ _ _ (by walk_at "o")).mpr ⟨by walk_at "o",by walk_at "o",hpa,ha⟩
    refine bv λGG PD=>?_
    obtain⟨f,hf⟩:∃f,d.length=f+1:=⟨d.length - 1,by walk_at "o"⟩
    rw [hf] at this
    unfold de at this
    obtain⟨c,hc,hac⟩:=adu.mp this
    obtain⟨c1,c2,c3⟩:=fj.mp hc
    have TN:=W.low c p c2
    have Zv:c∈line d a:=by
     rcases bM hac with rfl | hac
     ·exact dN W _
     ·exact ((fN W f c a (by walk_at "o")).mp hac).2.2.1
    obtain⟨z,hz⟩:=BN W Zv
    refine PD ?_
    have VF:=iK W Zv
    rw [hz,pS W c2,abL]
    have ac4:=M7 (uP d p) hc (fj.mpr ⟨by walk_at "o",e,hbb⟩) (by walk_at "o")
    show df (gx d p++(c6 d p c++z)) (gx d p++c6 d p b)=true
    unfold c6
    have:=Np (gx d p++[2]) ((bG d p).idxOf c:Nat) ((bG d p).idxOf b:Nat) z [] (by exact_mod_cast ac4)
    simpa using this
end
set_option genInjectivity false in
structure cH where
 i:Nat
 c:Nat
 a:Nat
 s:Nat
noncomputable def kF:Option Nat->MV | none=>.none | some n=>.int (n:Int)
noncomputable def ay (l:List Nat):List MV:=l.map λ(n:Nat)=>.int (n:Int)
noncomputable def d7 (r:Rw)(l:cH):List (Str×MV):=
 [(("kind":Str),.str r.kind),(("name":Str),.str r.name),(("uri":Str),.str r.uri),(("local":Str),.str r.loc),(("value":Str),.str r.val),(("parent":Str),kF r.par),(("children":Str),.ref l.c),(("attributes":Str),.ref l.a),(("namespaces":Str),.ref l.s)]
structure Tr (st:MS)(t R:Nat)(lay:List cH)(d:List Rw):Prop where
 tree:st[t]?=some (.inst 524 [(("rows":Str),.ref R)])
 rows:st[R]?=some (.list (lay.map λl=>.ref l.i))
 len:lay.length=d.length
 small:d.length<=200
 node:∀(k:Nat) (l:cH) (r:Rw),lay[k]?=some l->d[k]?=some r->st[l.i]?=some (.inst 335 (d7 r l))/\st[l.c]?=some (.list (ay (bG d k)))/\st[l.a]?=some (.list (ay (cY d k)))/\st[l.s]?=some (.list [])
theorem Tr.mono {st Ps:MS}{t R:Nat}{lay:List cH}{d:List Rw}(T:Tr st t R lay d)(hp:st <+: Ps):Tr Ps t R lay d where
 tree:=aA hp T.tree
 rows:=aA hp T.rows
 len:=T.len
 small:=T.small
 node:=λk l r h1 h2=>let ⟨a,b,c,e⟩:=T.node k l r h1 h2; ⟨aA hp a,aA hp b,aA hp c,aA hp e⟩
theorem Tr.at {st:MS}{t R:Nat}{lay:List cH}{d:List Rw}(T:Tr st t R lay d){k:Nat}{r:Rw}(h:d[k]?=some r):∃l,lay[k]?=some l:=by
 have:=(bP h).1
 rw [<- T.len] at this
 exact⟨_,aa9 this⟩
section
variable {st:MS}{t R:Nat}{lay:List cH}{d:List Rw}{k:Nat}{r:Rw}{l:cH}{Q:MV->MS->Prop}
theorem bI {i:Nat}{xs:List MV}{j:Int}{n:Nat}{x:MV}(hi:st[i]?=some (.list xs))(hj:j=(n:Int))(hx:xs[n]?=some x)(hl:xs.length < 2 ^ 62)(h:Q x st):aN [.ref i,.int j] st Q:=by
 have hk:=(bP hx).1
 exact eI hi ⟨⟨by walk_at "o",by walk_at "o"⟩,n,x,yl hj hk,hx,h⟩
theorem Bx {C:Addr}{name:Str}{i j:Nat}{fs:List (Str×MV)}{W:MV}{ρ:aG}(h0:ρ[i]?=some (some (.ref j)))(h1:st[j]?=some (.inst C fs))(h2:fs.lookup name=some W)(h:Q W st):cC C name (af i) ρ st Q:=Ky (iJ h0 (bD h1 h2 h))
theorem bj (T:Tr st t R lay d):xt 524 (.ref t) st:=⟨t,_,rfl,T.tree⟩
theorem gu {i:Nat}{xs:List MV}(hi:st[i]?=some (.list xs))(hl:xs.length < 2 ^ 62)(h:Q (.int xs.length) st):dP [.ref i] st Q:=eI hi ⟨hl,h⟩
theorem len_str {x:Str}(hl:x.length < 2 ^ 62)(h:Q (.int x.length) st):dP [.str x] st Q:=⟨hl,h⟩
theorem wG {i:Nat}{xs:List MV}(hi:st[i]?=some (.list xs))(hl:xs.length<=abA)(h:Q (.ref st.length) (st++[.list xs])):pb [.ref i] st Q:=eI hi ⟨hl,h⟩
theorem dG {i:Nat}{xs:List MV}{V:MV}(hi:st[i]?=some (.list xs))(hl:xs.length<=abA)(h:Q .none (st.set i (.list (xs++[V])))):bx [.ref i,V] st Q:=eI hi ⟨hl,h⟩
theorem Ez {i:Nat}{xs:List MV}{V:MV}(hi:st[i]?=some (.list (xs++[V])))(hl:xs.length < abA)(h:Q V (st.set i (.list xs))):FA [.ref i] st Q:=eI hi ⟨by rw [aba]; exact hl,l3 List.getLast?_concat (by rw [List.dropLast_concat]; exact h)⟩
theorem w2 (ns:List Int):fD (ns.map .int)=some ns:=(pJ (f:=theI) (k:=id) (λ_=>rfl) ns).trans (congrArg some (af5 ns))
theorem Cr (l:List Nat):fD (ay l)=some (l.map λ(n:Nat)=>(n:Int)):=by
 have:=w2 (l.map λ(n:Nat)=>(n:Int))
 rw [ab3] at this
 exact this
theorem wp (ns:List Str):wd (ns.map .str)=some ns:=(pJ (f:=theS) (k:=id) (λ_=>rfl) ns).trans (congrArg some (af5 ns))
theorem j4 (T:Tr st t R lay d)(hl:lay[k]?=some l)(h:Q (.ref l.i) st):cN [.ref t,.int (k:Int)] st Q:=by
 have hk:=(bP hl).1
 have PL:(lay.map λl=>MV.ref l.i).length=lay.length:=abd _
 have l62:(lay.map λl=>MV.ref l.i).length < 2 ^ 62:=by rw [PL,T.len]; exact aca T.small (by decide)
 refine cE rfl ?_
 refine Nj (Nw (Lv (x:=0) (y:=(k:Int)) (z:=((lay.map λl=>MV.ref l.i).length:Int)) (λP h=>h) (λP h=>iJ rfl h) (λP h=>?_) (aei _) (by rw [PL]; exact afJ.mpr hk) ?_))
 ·walk_at "w"
  refine bD T.tree rfl ?_
  exact gu T.rows l62 h
 ·walk_at "w"
  refine bD T.tree rfl ?_
  walk_at "w"
  exact bI T.rows rfl (by rw [abC,hl]; rfl) l62 h
theorem w5 (T:Tr st t R lay d)(hr:d[k]?=some r)(h:Q (.str r.kind) st):gR [.ref t,.int (k:Int)] st Q:=by
 obtain⟨l,hl⟩:=T.at hr
 refine abf rfl (abf (bj T) (j4 T hl (bD (T.node k l r hl hr).1 rfl h)))
theorem HR (T:Tr st t R lay d)(hr:d[k]?=some r)(h:Q (.str r.name) st):k6 [.ref t,.int (k:Int)] st Q:=by
 obtain⟨l,hl⟩:=T.at hr
 refine abf rfl (abf (bj T) (j4 T hl (bD (T.node k l r hl hr).1 rfl h)))
theorem NE (T:Tr st t R lay d)(hr:d[k]?=some r)(h:Q (.str r.uri) st):qn [.ref t,.int (k:Int)] st Q:=by
 obtain⟨l,hl⟩:=T.at hr
 refine abf rfl (abf (bj T) (j4 T hl (bD (T.node k l r hl hr).1 rfl h)))
theorem KE (T:Tr st t R lay d)(hr:d[k]?=some r)(h:Q (.str r.loc) st):mN [.ref t,.int (k:Int)] st Q:=by
 obtain⟨l,hl⟩:=T.at hr
 refine abf rfl (abf (bj T) (j4 T hl (bD (T.node k l r hl hr).1 rfl h)))
theorem yK (T:Tr st t R lay d)(hr:d[k]?=some r)(h:Q (.str r.val) st):ir [.ref t,.int (k:Int)] st Q:=by
 obtain⟨l,hl⟩:=T.at hr
 refine abf rfl (abf (bj T) (j4 T hl (bD (T.node k l r hl hr).1 rfl h)))
theorem JR (hr:d[k]?=some r):aT d k=r.par:=by unfold aT; rw [hr]; rfl
theorem Cl (T:Tr st t R lay d)(hk:k < d.length)(h:Q (kF (aT d k)) st):gJ [.ref t,.int (k:Int)] st Q:=by
 have hr:d[k]?=some d[k]:=aa9 hk
 obtain⟨l,hl⟩:=T.at hr
 rw [JR hr] at h
 refine abf rfl (abf (bj T) (j4 T hl (bD (T.node k l _ hl hr).1 rfl h)))
theorem e6 (d:List Rw)(p:Nat->Bool):((ab7 d.length).filter p).length<=d.length:=by
 have:=afT p (ab7 d.length)
 rwa [afK] at this
theorem bb (l:List Nat):(ay l).length=l.length:=by simp [ay]
theorem pQ (T:Tr st t R lay d)(hk:k < d.length)(h:Q (.ref st.length) (st++[.list (ay (bG d k))])):fK [.ref t,.int (k:Int)] st Q:=by
 have hr:d[k]?=some d[k]:=aa9 hk
 obtain⟨l,hl⟩:=T.at hr
 have small:=T.small
 have:=e6 d λj=>decide (aT d j=some k) && !bA d j
 refine abf rfl (abf (bj T) (j4 T hl (bD (T.node k l _ hl hr).1 rfl (wG (T.node k l _ hl hr).2.1 ?_ h))))
 rw [bb]
 exact aaj this (aaj small (by decide))
theorem AT (T:Tr st t R lay d)(hk:k < d.length)(h:Q (.ref st.length) (st++[.list (ay (cY d k))])):fV [.ref t,.int (k:Int)] st Q:=by
 have hr:d[k]?=some d[k]:=aa9 hk
 obtain⟨l,hl⟩:=T.at hr
 have small:=T.small
 have:=e6 d λj=>decide (aT d j=some k) && bA d j
 refine abf rfl (abf (bj T) (j4 T hl (bD (T.node k l _ hl hr).1 rfl (wG (T.node k l _ hl hr).2.2.1 ?_ h))))
 rw [bb]
 exact aaj this (aaj small (by decide))
end
section
variable {st Ps:MS}{t R:Nat}{lay:List cH}{d:List Rw}{k:Nat}{r:Rw}{l:cH}{Q:MV->MS->Prop}
theorem aH (o:MO):(st++[o])[st.length]?=some o:=by simp
theorem aB (o:MO):st <+: st++[o]:=abF _ _
theorem mG {j:Nat}{o:MO}(hp:st <+: Ps)(hj:st.length<=j):st <+: Ps.set j o:=by
 obtain⟨u,rfl⟩:=hp
 rw [List.set_append_right _ _ hj]
 exact abF _ _
theorem FI (W:Wf d):∀(n k:Nat)(xs:List MV)(Ps:MS)(f:Nat)(P:MF->aG->MS->Prop),Tr st t R lay d->st <+: Ps->st.length<=f->Ps[f]?=some (.list xs)->k < n->k < d.length->xs.length+k < 1000 ->
  (∀PT,st <+: PT->PT[f]?=some (.list (xs++ay (line d k)))->P .next [some (.ref t),some .none,some (.ref f)] PT) ->
  d9 jL jR (n+1) [some (.ref t),some (.int (k:Int)),some (.ref f)] Ps P:=by
 intro n
 induction n with
 | zero=>intro _ _ _ _ _ _ _ _ _ h; exact absurd h (ab6 _)
 | succ n ih =>
  intro k xs Ps f P T hp hf hx hn hk hl q
  have PW:st <+: Ps.set f (.list (xs++[.int (k:Int)])):=mG hp hf
  have T2:=T.mono PW
  have Rr:(Ps.set f (.list (xs++[.int (k:Int)])))[f]?=some (.list (xs++[.int (k:Int)])):=by
   rw [abq (bP hx).1]
  refine fz ?_
  walk_at "w"
  refine d6 hx ?_
  walk_at "w"
  refine dG hx (aaj (by walk_at "o") (by decide:1000<=abA)) ?_
  walk_at "w"
  refine bK (bj T2) ?_
  walk_at "w"
  refine Cl T2 hk ?_
  cases e:aT d k with
  | none =>
   refine q _ PW ?_
   rw [eY W e]; exact Rr
  | some p =>
   have TN:=W.low k p e
   refine ih p (xs++[.int (k:Int)]) _ f P T PW hf Rr (by walk_at "o") (by walk_at "o") (by simp; walk_at "o") λPT h1 h2=>q PT h1 ?_
   rw [dD W e]
   simpa [ay] using h2
theorem A2 (W:Wf d)(T:Tr st t R lay d)(hk:k < d.length)(h:∀Ps i,st <+: Ps->st.length<=i->Ps[i]?=some (.list (ay (line d k).reverse))->Q (.ref i) Ps):mT [.ref t,.int (k:Int)] st Q:=by
 have small:=T.small
 refine abf rfl ?_
 show f8 jL jR [some (.ref t),some (.int (k:Int)),some (.ref st.length)] (st++[.list []]) _
 refine ad3 (k+1+1) (FI W (k+1) k [] (st++[.list []]) st.length _ T (aB _) (abp _) (aH _) (abv _) hk (by simp; walk_at "o") λPT h1 h2=>?_)
 rw [abx] at h2
 show Cg [.ref st.length,.int (-1)] PT Q
 refine eI h2 ⟨rfl,?_,h _ _ (h1.trans (aB _)) h1.length_le ?_⟩
 ·rw [bb]
  have:=BZ (d:=d) k
  exact aaj this (aaj (by walk_at "o") (by decide:1000<=abA))
 ·rw [aH]
  simp [ay,List.map_reverse]
set_option tactic.hygienic true in
theorem La {i:Nat}{ns:List Nat}{k:Nat}(hi:st[i]?=some (.list (ay ns)))(hk:k∈ns)(hs:ns.length<=200)(hb:∀n∈ns,n < 1000)(h:Q (.int ((ns.idxOf k:Nat):Int)) st):tw [.ref i,.int (k:Int)] st Q:=by
 refine eI hi (l3 (Cr _) ⟨?_,ed ⟨k,hk,rfl⟩,?_⟩)
 ·have w:∀l:List Nat,(∀n∈l,n < 1000)->ag3 ((l.map λ(n:Nat)=>(n:Int)).map adG)<=11 * l.length/\adD ((l.map λ(n:Nat)=>(n:Int)).map adG)=true/\adh ((l.map λ(n:Nat)=>(n:Int)).map adG)=0:=by
   intro l hl
   induction l with
   | nil=>simp [ag3,adD,adh]
   | cons n r ih =>
    obtain⟨h1,h2,h3⟩:=ih λm hm=>hl m (.tail _ hm)
    have hn:=hl n (.head _)
    have hw:ah8 (.int (n:Int))<=10:=by
     simp only [ah8]
     split
     ·walk_at "o"
     ·rename_i h0
      have:n≠0:=by intro e; subst e; simp at h0
      have:(n:Int).natAbs.log2 < 10:=(aiS (by simpa using this)).mpr (by simp; walk_at "o")
      walk_at "o"
    refine⟨?_,?_,?_⟩
    ·simp only [abg,ag3,abw]; walk_at "o"
    ·simp [adD,ad7] at h2 ⊢; exact h2
    ·simp only [abg,adh,aed,h3]; rfl
  obtain⟨h1,h2,h3⟩:=w ns hb
  unfold PyData.layable0
  simp only [ad7,aed,ah8,h2,h3,ah4,abZ,decide_eq_true_eq]
  exact⟨by decide,decide_eq_true (aaj h1 (aaj (agd 11 hs) (by decide:11 * 200<=2 ^ 20)))⟩
 ·have e:(ns.map λ(n:Nat)=>(n:Int)).idxOf (k:Int)=ns.idxOf k:=by
   clear hs hb h hi
   induction ns with
   | nil=>rfl
   | cons n r ih =>
    rw [abg,aeU,aeU]
    by_cases hnk:n=k
    ·subst hnk; simp
    ·have h1:((n:Int) == (k:Int))=false:=by simp; walk_at "o"
     have h2:(n == k)=false:=by simp; walk_at "o"
     rw [h1,h2]
     simp only [cond_false]
     rw [ih (by rcases bM hk with q | q; exact absurd q.symm hnk; exact q)]
  rw [e]; exact h
theorem Aj {p:Nat}(W:Wf d)(T:Tr st t R lay d)(hr:d[k]?=some r)(hp:aT d k=some p)(hk:r.kind≠cw)(QA:r.kind≠("namespace":Str)) (h:∀Ps,st <+: Ps->Q (.tup [.int 2,.int (((bG d p).idxOf k:Nat):Int)]) Ps):gI [.ref t,.int (p:Int),.int (k:Int)] st Q:=by
 have small:=T.small
 have SG:=(bP hr).1
 have TN:=W.low k p hp
 refine cE rfl ?_
 have T2:=T.mono (aB (st:=st) (.list (ay (bG d p))))
 have QX:k∈bG d p:=fj.mpr ⟨SG,hp,by unfold bA; rw [hr]; exact decide_eq_false hk⟩
 have:=e6 d λj=>decide (aT d j=some p) && !bA d j
 walk_at "w"
 refine bK (bj T) ?_
 walk_at "w"
 refine w5 T hr ?_
 walk_at "w"
 refine bH (λq=>absurd q QA) λ_=>?_
 walk_at "w"
 refine bH (λq=>absurd q hk) λ_=>?_
 walk_at "w"
 refine bK (bj T) ?_
 walk_at "w"
 refine pQ T (by walk_at "o") ?_
 walk_at "w"
 refine d6 (aH _) ?_
 walk_at "w"
 refine La (aH _) QX (by unfold bG; walk_at "o") (λn hn=>by have:=(fj.mp hn).1; walk_at "o") ?_
 walk_at "w"
 exact h _ (aB _)
noncomputable def kW (d:List Rw):List Nat->List Int
 | p::k::r=>c6 d p k++kW d (k::r)
 | _=>[]
theorem FM (d:List Rw)(l:List Nat)(p k:Nat):kW d (l++[p,k])=kW d (l++[p])++c6 d p k:=by
 induction l with
 | nil=>exact abr _
 | cons a l ih =>
  cases l with
  | nil =>
   show c6 d a p++(c6 d p k++[])=(c6 d a p++[])++c6 d p k
   rw [abr,abr]
  | cons b r =>
   show c6 d a b++kW d (b::r++[p,k])=(c6 d a b++kW d (b::r++[p]))++c6 d p k
   rw [ih,abL]
theorem wN (W:Wf d){n:Nat}(tp:Tp d n):∀{k:Nat},k < n->gx d k=0::kW d (line d k).reverse:=by
 intro k
 induction k using acm with
 | _ k ih =>
  intro hk
  cases e:aT d k with
  | none =>
   have:=tp k hk e
   subst this
   rw [eY W e,zg e]
   rfl
  | some p =>
   have TN:=W.low k p e
   rw [pS W e,ih p TN (by walk_at "o"),dD W e]
   have:∃q,(line d p).reverse=q++[p]:=⟨((aT d p).elim [] (line d)).reverse,by rw [eY W rfl]; exact adm⟩
   obtain⟨q,hq⟩:=this
   rw [hq,adm,hq]
   have:=FM d q p k
   simp only [abL,ada,abx] at this ⊢
   rw [this]
theorem KR {xs ys:List MV}(hl:xs.length+ys.length<=abA)(h:Q (.tup (xs++ys)) st):FF [.tup xs,.tup ys] st Q:=⟨hl,h⟩
noncomputable def nN (l:List Int):List MV:=l.map .int
theorem Fn (W:Wf d)(T:Tr st t R lay d)(G:MS->Prop)(hG:∀Ps,st <+: Ps->G Ps){c1 c2:Option MV}:∀(l:List Nat)(PY:List Int)(Ps:MS)(x y:Option MV)(P:MF->aG->MS->Prop),st <+: Ps->PY.length+2 * l.length < 5000 ->
  (∀k∈l,∃r,d[k]?=some r/\r.kind≠cw/\r.kind≠("namespace":Str))->(∀(i p k:Nat),l[i]?=some p->l[i+1]?=some k->aT d k=some p) ->
  (∀PT x y,st <+: PT->P .next [some (.ref t),c1,c2,some (.tup (nN (PY++kW d l))),x,y] PT) ->
  Cj G 4 5 3 (aF gI (ad (af 0) (ad (af 4) (ad (af 5) ak)))) (ay l) (ay (l.drop 1)) [some (.ref t),c1,c2,some (.tup (nN PY)),x,y] Ps P:=by
 intro l
 induction l with
 | nil=>intro PY Ps x y P hp _ _ _ q; exact abf (hG _ hp) (by have:=q Ps x y hp; rw [show kW d _=[] from rfl,abr] at this; exact this)
 | cons a l ih=>cases l with
  | nil=>intro PY Ps x y P hp _ _ _ q; exact abf (hG _ hp) (by have:=q Ps x y hp; rw [show kW d _=[] from rfl,abr] at this; exact this)
  | cons b l =>
   intro PY Ps x y P hp hl hk hc q
   obtain⟨r,hr,h1,h2⟩:=hk b (.tail _ (.head _))
   have Uz:=hc 0 a b rfl rfl
   refine abf (hG _ hp) ?_
   show gI [.ref t,.int (a:Int),.int (b:Int)] Ps _
   refine Aj W (T.mono hp) hr Uz h1 h2 λP1 PW=>?_
   refine KR (aaj (by simp [nN]; simp at hl; walk_at "o") (by decide:6000<=abA)) ?_
   have e:nN PY++[.int 2,.int (((bG d a).idxOf b:Nat):Int)]=nN (PY++c6 d a b):=by simp [nN,c6]
   rw [e]
   refine ih (PY++c6 d a b) P1 _ _ P (hp.trans PW) (by simp [c6] at hl ⊢; walk_at "o") (λk h=>hk k (.tail _ h)) (λi p k e1 e2=>hc (i+1) p k e1 e2) λPT x y h=>?_
   rw [abL]
   exact q PT x y h
theorem I8 (W:Wf d):∀{k:Nat}(i p q:Nat),(line d k)[i]?=some q->(line d k)[i+1]?=some p->aT d q=some p:=by
 intro k
 induction k using acm with
 | _ k ih =>
  intro i p q h1 h2
  cases e:aT d k with
  | none=>rw [eY W e] at h2; cases h2
  | some z =>
   rw [dD W e] at h1 h2
   cases i with
   | zero =>
    simp only [adF,ajp] at h1
    subst h1
    rw [acj,eY W rfl] at h2
    rw [<- abi h2]; exact e
   | succ i =>
    rw [acj] at h1 h2
    exact ih z (W.low k z e) i p q h1 h2
theorem pF (W:Wf d){n:Nat}(tp:Tp d n)(T:Tr st t R lay d)(hk:k < n)(hn:n<=d.length)(hr:d[k]?=some r)(SS:r.kind=("element":Str)\/r.kind=("root":Str))
  (h:∀Ps,st <+: Ps->Q (.tup (nN (gx d k))) Ps):iD [.ref t,.int (k:Int)] st Q:=by
 have small:=T.small
 have Va:∀j∈line d k,∃r,d[j]?=some r/\r.kind≠cw/\r.kind≠("namespace":Str):=by
  have ok:∀r:Rw,(r.kind=("root":Str)\/r.kind=("element":Str))->r.kind≠cw/\r.kind≠("namespace":Str):=by
   rintro r (e | e) <;> rw [e] <;> exact⟨by decide +kernel,by decide +kernel⟩
  intro j hj
  rcases gy W hj with rfl | ⟨p,e,hj⟩
  ·exact⟨r,hr,ok r SS.symm⟩
  ·clear hr SS
   have:∀{k:Nat},∀p,aT d k=some p->j∈line d p->∃r,d[j]?=some r/\(r.kind=("root":Str)\/r.kind=("element":Str)):=by
    intro k
    induction k using acm with
    | _ k ih =>
     intro p e hj
     rcases gy W hj with rfl | ⟨q,e2,hj⟩
     ·exact W.elm k _ e
     ·exact ih p (W.low k p e) q e2 hj
   obtain⟨r,h1,h2⟩:=this p e hj
   exact⟨r,h1,ok r h2⟩
 refine abf rfl ?_
 refine A2 W T (by walk_at "o") λPs i hp hi hx=>?_
 have PL:=BZ (d:=d) k
 have P6:∃q,(line d k).reverse=0::q:=by
  have hz:=wN W tp hk
  have:∀{k:Nat},k < n->∃q,(line d k).reverse=0::q:=by
   intro k
   induction k using acm with
   | _ k ih =>
    intro hk
    cases e:aT d k with
    | none=>have:=tp k hk e; subst this; exact⟨[],by rw [eY W e]; rfl⟩
    | some p =>
     obtain⟨q,hq⟩:=ih p (W.low k p e) (by have:=W.low k p e; walk_at "o")
     exact⟨q++[k],by rw [dD W e,adm,hq]; rfl⟩
  exact this hk
 obtain⟨q,hq⟩:=P6
 have X2:(ay (line d k).reverse)[0]?=some (.int ((0:Nat):Int)):=by rw [hq]; rfl
 refine bI hx rfl X2 (by rw [bb,adb]; walk_at "o") ?_
 show yA _ _ 4 5 3 _ _ Ps _
 have T1:=T.mono hp
 have QG:(ay (line d k).reverse).length<=abA:=by rw [bb,adb]; exact aaj PL (aaj (by walk_at "o") (by decide:1000<=abA))
 refine eI hx ⟨by decide,QG,?_⟩
 have R9:(Ps++[MO.list ((ay (line d k).reverse).drop (1:Int).toNat)])[i]?=some (.list (ay (line d k).reverse)):=aA (aB _) hx
 refine eI R9 (eI (aH _) ?_)
 have Yk:(ay (line d k).reverse).drop (1:Int).toNat=ay ((line d k).reverse.drop 1):=by simp [ay]
 rw [Yk]
 have T2:=T1.mono (aB (st:=Ps) (.list (ay ((line d k).reverse.drop 1))))
 refine Fn (st:=Ps++[.list (ay ((line d k).reverse.drop 1))]) W T2 _ (λs hs=>?_) (line d k).reverse [0] _ _ _ _ (aaf _) (by simp; walk_at "o") (λj hj=>Va j (List.mem_reverse.mp hj)) (λa p c e1 e2=>?_) λP1 x y PW=>?_
 ·exact⟨aA hs (by rw [<- Yk]; exact R9),aA hs (aH _)⟩
 ·have ha:=(bP e2).1
  rw [adb] at ha
  rw [aht (by walk_at "o")] at e1 e2
  have:(line d k).length - 1 - a=((line d k).length - 1 - (a+1))+1:=by walk_at "o"
  rw [this] at e1
  exact I8 W _ p c e2 e1
 ·have e:[0]++kW d (line d k).reverse=gx d k:=(wN W tp hk).symm
  rw [e]
  exact h P1 (hp.trans ((aB _).trans PW))
end
section
variable {st Ps:MS}{t R:Nat}{lay:List cH}{d:List Rw}{k:Nat}{r:Rw}{l:cH}{Q:MV->MS->Prop}
theorem BT (l:List Int):fD (nN l)=some l:=w2 l
theorem Er {d:List Rw}{k:Nat}:gx d k≠[]:=by
 cases e:aT d k with
 | none=>rw [zg e]; exact List.cons_ne_nil _ _
 | some p=>rw [show gx d k=_ from m9 e]; exact List.append_ne_nil_of_right_ne_nil _ (List.cons_ne_nil _ _)
noncomputable def gA:List Nat->List Nat
 | [a,b]=>if b < a then [b,a] else [a,b]
 | l=>l
theorem Gr (W:Wf d){n i:Nat}(tp:Tp d n)(T:Tr st t R lay d)(hn:n<=d.length){ns:List Nat}(hi:st[i]?=some (.list (ay ns)))(h2:ns.length<=2)(Qt:ns.Nodup)
  (SS:∀k∈ns,k < n/\∃r,d[k]?=some r/\r.kind=("element":Str)) (h:∀Ps j,st <+: Ps->Ps[j]?=some (.list (ay (gA ns)))->Q (.ref j) Ps):mu [.ref t,.ref i] st Q:=by
 unfold mu
 dsimp only
 refine⟨rfl,?_⟩
 show (match st[i]? with
  | some (.list xs)=>_
  | _=>False)
 rw [hi]
 dsimp only
 refine⟨by rw [bb]; exact aaj h2 (by decide),?_⟩
 match ns,h2,Qt,SS,h,hi with
 | [],_,_,_,h,hi=>exact⟨hi,[],.zero,h _ _ (aB _) (aH _)⟩
 | [a],_,_,SS,h,hi =>
  obtain⟨ha,r,hr,hk⟩:=SS a (.head _)
  refine⟨hi,(a:Int),rfl,by simp,?_⟩
  show iD [.ref t,.int (a:Int)] st _
  exact pF W tp T ha hn hr (.inl hk) λPs hp=>⟨aA hp hi,[(a:Int)],.one,h _ _ (hp.trans (aB _)) (aH _)⟩
 | [a,b],_,Qt,SS,h,hi =>
  refine bv λGG PD=>?_
  obtain⟨ha,r,hr,hk⟩:=SS a (.head _)
  obtain⟨hb,r',U9,QA⟩:=SS b (.tail _ (.head _))
  refine PD ?_
  have QP:a≠b:=λe=>by subst e; simp at Qt
  have Zy:(a:Int)≠(b:Int):=by exact_mod_cast QP
  have na:bA d a=false:=by unfold bA; rw [hr]; show decide (r.kind=cw)=false; rw [hk]; decide +kernel
  have nb:bA d b=false:=by unfold bA; rw [U9]; show decide (r'.kind=cw)=false; rw [QA]; decide +kernel
  refine⟨hi,(a:Int),rfl,by simp,?_⟩
  show iD [.ref t,.int (a:Int)] st _
  refine pF W tp T ha hn hr (.inl hk) λst1 PZ=>⟨aA PZ hi,(b:Int),rfl,by simpa using λe:(b:Int)=a=>Zy e.symm,?_⟩
  show iD [.ref t,.int (b:Int)] st1 _
  refine pF W tp (T.mono PZ) hb hn U9 (.inl QA) λP1 PW=>⟨aA (PZ.trans PW) hi,_,.two Zy (BT (gx d a)) (BT (gx d b)) Er Er,?_⟩
  have e:(if df (gx d b) (gx d a)=true then [(b:Int),(a:Int)] else [(a:Int),(b:Int)]).map MV.int=ay (gA [a,b]):=by
   show _=ay (if b < a then [b,a] else [a,b])
   by_cases PR:b < a
   ·rw [if_pos (EP W tp hn PR ha nb na),if_pos PR]; rfl
   ·have:=lt_asymm _ _ (EP W tp hn (show a < b by walk_at "o") hb na nb)
    rw [this,if_neg PR]; rfl
  rw [e]
  exact h _ _ ((PZ.trans PW).trans (aB _)) (aH _)
theorem mL (l:List Nat):fA (ay l)=some (l.map λ(n:Nat)=>adG (n:Int)):=pJ (f:=ee) (k:=λ(n:Nat)=>adG (n:Int)) (λ_=>rfl) l
theorem vN {g e:Nat}{s:List Nat}(hg:st[g]?=some (.list (ay s)))(he:st[e]?=some (.list []))(h:Q (.bool (!s.isEmpty)) st):g8 [.ref g,.ref e] st Q:=Fd hg (mL s) he (by cases s <;> exact h)
theorem IE (W:Wf d)(c:Nat):de d d.length c=(bG d c).flatMap λx=>x::de d d.length x:=by
 have e:de d d.length c=de d (d.length+1) c:=by rw [iB W (by (first | lia | omega)),iB W (by (first | lia | omega))]
 rw [e]; rfl
noncomputable def qH (d:List Rw)(s:List Nat):List Nat:=s.flatMap λc=>c::de d d.length c
theorem Nt {a c:TE}{ρ:aG}{P:MV->MS->Prop}(h:a ρ st (JK Cg c ρ P)):tD a c ρ st P:=h
theorem LK {i:Nat}{xs:List MV}(hi:st[i]?=some (.list xs))(hl:xs.length<=abA)(h:Q (.ref st.length) (st++[.list xs.reverse])):Cg [.ref i,.int (-1)] st Q:=eI hi ⟨rfl,hl,h⟩
theorem I7 {i j:Nat}{xs ys:List MV}(hi:st[i]?=some (.list xs))(hj:st[j]?=some (.list ys))(hl:xs.length+ys.length<=abA)(h:Q (.ref st.length) (st++[.list (xs++ys)])):cM [.ref i,.ref j] st Q:=eI hi (eI hj ⟨hl,h⟩)
theorem Bp (W:Wf d):∀(n:Nat)(s PY:List Nat)(Ps:MS)(f g:Nat)(nd x:Option MV)(P:MF->aG->MS->Prop),Tr st t R lay d->st <+: Ps->st.length<=f->f≠g->st.length<=g->Ps[f]?=some (.list (ay PY))->Ps[g]?=some (.list (ay s.reverse))->(qH d s).length < n->(∀c∈s,c < d.length)->s.length+PY.length+250 * n < 100000 ->
  (∀PT y z,st <+: PT->PT[f]?=some (.list (ay (PY++qH d s)))->P .next [some (.ref t),nd,some (.ref f),y,z] PT) ->
  d9 tn tA n [some (.ref t),nd,some (.ref f),some (.ref g),x] Ps P:=by
 intro n
 induction n with
 | zero=>intro _ _ _ _ _ _ _ _ _ _ _ _ _ _ _ h; exact absurd h (ab6 _)
 | succ n ih =>
  intro s PY Ps f g nd x P T hp hf hfg hg hF hG hn hs hb q
  refine fz ?_
  walk_at "w"
  refine vN (e:=Ps.length) (aA (aB _) hG) (aH _) ?_
  cases s with
  | nil =>
   refine NT (MB (q _ _ _ (hp.trans (aB _)) ?_))
   simpa [qH] using aA (aB _) hF
  | cons c r =>
   have Q5:=hs c (.head _)
   have e:ay (c::r).reverse=ay r.reverse++[.int (c:Int)]:=by simp [ay]
   rw [e] at hG
   have he:(!(c::r).reverse.isEmpty)=true:=by simp
   rw [he]
   have Yb:=aA (aB (st:=Ps) (.list [])) hG
   have hF1:=aA (aB (st:=Ps) (.list [])) hF
   have PZ:=hp.trans (aB (st:=Ps) (.list []))
   generalize Ps++[MO.list []]=s1 at Yb hF1 PZ
   walk_at "w"
   refine d6 Yb ?_
   walk_at "w"
   have small:=T.small
   have hsz:(ay r.reverse).length < abA:=by
    rw [bb,adb]
    simp only [abw] at hb
    exact abG (by walk_at "o":r.length < 100000) (by decide)
   refine Ez Yb hsz ?_
   have Vl:(s1.set g (.list (ay r.reverse)))[f]?=some (.list (ay PY)):=by rw [abe (aec hfg)]; exact hF1
   have hG2:(s1.set g (.list (ay r.reverse)))[g]?=some (.list (ay r.reverse)):=abq (bP Yb).1
   have PW:st <+: s1.set g (.list (ay r.reverse)):=mG PZ hg
   generalize s1.set g (MO.list (ay r.reverse))=s2 at Vl hG2 PW
   walk_at "w"
   refine d6 Vl ?_
   walk_at "w"
   have acY:(ay PY).length<=abA:=by
    rw [bb]
    exact aaj (by walk_at "o":PY.length<=100000) (by decide)
   refine dG Vl acY ?_
   have e2:ay PY++[.int (c:Int)]=ay (PY++[c]):=by simp [ay]
   rw [e2]
   have hF3:(s2.set f (.list (ay (PY++[c]))))[f]?=some (.list (ay (PY++[c]))):=abq (bP Vl).1
   have hG3:(s2.set f (.list (ay (PY++[c]))))[g]?=some (.list (ay r.reverse)):=by rw [abe hfg]; exact hG2
   have Qj:st <+: s2.set f (.list (ay (PY++[c]))):=mG PW hf
   generalize s2.set f (MO.list (ay (PY++[c])))=s3 at hF3 hG3 Qj
   have T3:=T.mono Qj
   walk_at "w"
   refine Nt ?_
   walk_at "w"
   refine bK (bj T3) ?_
   walk_at "w"
   refine pQ T3 Q5 ?_
   walk_at "w"
   have T4:=T3.mono (aB (st:=s3) (.list (ay (bG d c))))
   have SG:=e6 d λj=>decide (aT d j=some c) && !bA d j
   refine LK (aH _) (by rw [bb]; unfold bG; exact aaj SG (aaj small (by decide))) ?_
   have Ro:=aB (st:=s3) (.list (ay (bG d c)))
   have hF4:=aA Ro hF3
   have hG4:=aA Ro hG3
   have UU:s3.length<=(s3++[MO.list (ay (bG d c))]).length:=by simp
   generalize s3++[MO.list (ay (bG d c))]=s4 at Ro hF4 hG4 T4 UU
   have RE:=aB (st:=s4) (.list (ay (bG d c)).reverse)
   have ZE:=aA RE hF4
   have hG5:=aA RE hG4
   walk_at "w"
   have aaC:(ay r.reverse).length+(ay (bG d c)).reverse.length<=abA:=by
    rw [adb,bb,bb,adb]
    unfold bG
    simp only [abw] at hb
    exact aaj (by walk_at "o":r.length+_<=100000+200) (by decide)
   refine I7 hG5 (aH _) aaC ?_
   have e5:ay r.reverse++(ay (bG d c)).reverse=ay (bG d c++r).reverse:=by simp [ay]
   rw [e5]
   generalize hs5:s4++[MO.list (ay (bG d c)).reverse]=s5 at RE ZE hG5
   have Sp:=aB (st:=s5) (.list (ay (bG d c++r).reverse))
   have Ya:qH d (c::r)=c::qH d (bG d c++r):=by
    unfold qH
    rw [List.flatMap_cons,ahT,IE W c]
    simp
   have U5:st <+: s5++[MO.list (ay (bG d c++r).reverse)]:=((Qj.trans Ro).trans RE).trans Sp
   have h35:s3.length<=s5.length:=(Ro.trans RE).length_le
   walk_at "w"
   refine ih (bG d c++r) (PY++[c]) _ f s5.length nd _ P T U5 hf ?_ ?_ (aA Sp ZE) (aH _) ?_ ?_ ?_ λPT y z h1 h2=>q PT y z h1 ?_
   ·have:=(bP ZE).1
    walk_at "o"
   ·exact aaj Qj.length_le h35
   ·rw [Ya,abw] at hn; walk_at "o"
   ·intro x hx
    rcases dW hx with hx | hx
    ·exact (fj.mp hx).1
    ·exact hs x (.tail _ hx)
   ·rw [aba,aba]
    unfold bG
    simp only [abw,ahi] at hb ⊢
    walk_at "o"
   ·rw [Ya]
    simpa using h2
theorem LI (W:Wf d)(s:Nat):(qH d (bG d s)).length<=d.length:=by
 have:qH d (bG d s)=de d d.length s:=(IE W s).symm
 rw [this,iB W (by (first | lia | omega))]
 exact e6 d _
theorem Ix (W:Wf d)(T:Tr st t R lay d)(hk:k < d.length)(h:∀Ps i,st <+: Ps->st.length<=i->Ps[i]?=some (.list (ay (de d d.length k)))->Q (.ref i) Ps):sy [.ref t,.int (k:Int)] st Q:=by
 have small:=T.small
 refine abf rfl ?_
 have PZ:=aB (st:=st) (.list [])
 have T1:=T.mono PZ
 refine abf (bj T1) (pQ T1 hk ?_)
 have SG:=e6 d λj=>decide (aT d j=some k) && !bA d j
 have PW:=aB (st:=st++[.list []]) (.list (ay (bG d k)))
 refine eI (aH _) ⟨rfl,by rw [bb]; unfold bG; exact aaj SG (aaj small (by decide)),?_⟩
 have Vl:=aA PW (aH (st:=st) (.list []))
 have RK:st.length < (st++[MO.list []]++[MO.list (ay (bG d k))]).length:=by simp
 generalize st++[MO.list []]++[MO.list (ay (bG d k))]=s2 at PW Vl RK
 have e:(ay (bG d k)).reverse=ay (bG d k).reverse:=by simp [ay]
 rw [e]
 have Qj:=aB (st:=s2) (.list (ay (bG d k).reverse))
 have hp:st <+: s2++[MO.list (ay (bG d k).reverse)]:=(PZ.trans PW).trans Qj
 have ht:=LI W k
 refine ad3 202 (Bp W 202 (bG d k) [] _ st.length s2.length _ _ _ T hp (abp _) (by walk_at "o") (by walk_at "o") (aA Qj Vl) (aH _) (by walk_at "o") (λc hc=>(fj.mp hc).1) (by unfold bG; simp; walk_at "o") λPT y z h1 h2=>?_)
 refine h PT _ h1 (abp _) ?_
 rw [IE W k]
 simpa [qH] using h2
theorem d5 {G:MS->Prop}{c:TB}{e:TE}{p:MV->Bool}{f:MV->MV}{caps:aG}(hG:∀Ps,st <+: Ps->G Ps):∀(xs:List MV)(hc:∀x∈xs,∀st1 (K:Bool->MS->Prop),st <+: st1->(∀P1,st1 <+: P1->K (p x) P1)->c (some x::caps) st1 K)
  (he:∀x∈xs,p x=true->∀st1 (K:MV->MS->Prop),st <+: st1->(∀P1,st1 <+: P1->K (f x) P1)->e (some x::caps) st1 K) (y:Option MV) (ys:List MV) (Ps:MS) (Q:List MV->MS->Prop),st <+: Ps ->
  (∀PT,st <+: PT->Q (ys++(xs.filter p).map f) PT)->fq G (b8 0) c e xs (y::caps) ys Ps Q:=by
 intro xs
 induction xs with
 | nil =>
  intro hc he y ys Ps Q hp q
  exact⟨hG _ hp,by have:=q Ps hp; simpa using this⟩
 | cons x xs ih =>
  intro hc he y ys Ps Q hp q
  refine abf (hG _ hp) ?_
  refine hc x (.head _) Ps _ hp λP1 PW=>?_
  cases hpx:p x with
  | false =>
   simp only [ab2,if_false]
   refine ih (λz hz=>hc z (.tail _ hz)) (λz hz=>he z (.tail _ hz)) _ ys P1 Q (hp.trans PW) λPT h=>?_
   have:=q PT h
   simpa [hpx] using this
  | true =>
   simp only [if_true]
   refine he x (.head _) hpx P1 _ (hp.trans PW) λQb Qj=>?_
   refine ih (λz hz=>hc z (.tail _ hz)) (λz hz=>he z (.tail _ hz)) _ _ Qb Q ((hp.trans PW).trans Qj) λPT h=>?_
   have:=q PT h
   simpa [hpx] using this
noncomputable def aL (d:List Rw)(k:Nat):Rw:=(d[k]?).getD ⟨"","","","","",none⟩
theorem c0 (h:k < d.length):d[k]?=some (aL d k):=by unfold aL; rw [aa9 h]; rfl
noncomputable def bi (d:List Rw)(k:Nat):Str:=
 if (aL d k).kind=("root":Str)\/(aL d k).kind=("element":Str) then aeB ("":Str) (((de d d.length k).filter λj=>decide ((aL d j).kind=("text":Str))).map λj=>(aL d j).val) else (aL d k).val
def h7 (d:List Rw):Prop:=(∀j,j < d.length->(aL d j).val.length<=100)/\∀j,j < d.length->ab4 (aL d j).kind=true
theorem G9:∀(l:List Str)(b:Nat),(∀x∈l,x.length<=b)->(l.map (·.length)).sum<=b * l.length:=by
 intro l
 induction l with
 | nil =>
  intro b _
  simp
 | cons x r ih =>
  intro b h
  have:=ih b λy hy=>h y (.tail _ hy)
  have:=h x (.head _)
  simp only [abg,List.sum_cons,abw,Nat.mul_add]
  walk_at "o"
theorem De (l:List Nat):wd (l.map λj=>MV.str (aL d j).val)=some (l.map λj=>(aL d j).val):=by
 have:=wp (l.map λj=>(aL d j).val)
 rw [ab3] at this
 exact this
theorem wh (W:Wf d)(small:d.length<=200)(hs:h7 d)(hk:k < d.length)(hc:(aL d k).kind=("root":Str)\/(aL d k).kind=("element":Str)) {i:Nat} (hi:st[i]?=some (.list (((de d d.length k).filter λj=>decide ((aL d j).kind=("text":Str))).map λj=>MV.str (aL d j).val))) (h:Q (.str (bi d k)) st) :
  qj [.str ("":Str),.ref i] st Q:=by
 have Uo:bi d k=aeB ("":Str) (((de d d.length k).filter λj=>decide ((aL d j).kind=("text":Str))).map λj=>(aL d j).val):=by unfold bi; rw [if_pos hc]
 have Wh:(de d d.length k).length<=d.length:=by rw [iB W (by (first | lia | omega))]; exact e6 d _
 refine eI hi (l3 (De _) ⟨?_,Uo ▸ h⟩)
 have XV:=G9 (((de d d.length k).filter λj=>decide ((aL d j).kind=("text":Str))).map λj=>(aL d j).val) 100 λx R9=>by
  obtain⟨j,hj,rfl⟩:=c8 R9
  exact hs.1 j ((fN W d.length k j (by walk_at "o")).mp (adg.mp hj).1).1
 have hl:=afT (λj=>decide ((aL d j).kind=("text":Str))) (de d d.length k)
 rw [abd] at XV
 rw [show ("":Str).length=0 by decide +kernel]
 walk_at "o"
theorem yx {V:MV}{x a b:Str}(hx:ab4 x=true)(hn:∀y,V≠.str y)(hV:fu st V=some (.list [.str a,.str b])\/fu st V=some (.tuple [.str a,.str b]))(h1:x=a\/x=b->Q (.bool false) st)(h2:¬(x=a\/x=b)->Q (.bool true) st):im true [.str x,V] st Q:=by
 have e1:∀a b:Str,abH (.str a) (.str b)=decide (b=a):=λa b=>by
  unfold abH
  by_cases QP:b=a
  ·subst QP; simp
  ·have:¬a=b:=λq=>QP q.symm
   simp [QP,this]
 have e:(xor true ([agx a,agx b].any λy=>abH y (agx x)))=!decide (x=a\/x=b):=by
  simp only [List.any_cons,List.any_nil,e1,Bool.or_false,agR]
  rw [<- Bool.decide_or]
 have q:Q (.bool (xor true ([agx a,agx b].any λy=>abH y (agx x)))) st:=by
  rw [e]
  by_cases h:x=a\/x=b
  ·rw [decide_eq_true h]; exact h1 h
  ·rw [decide_eq_false h]; exact h2 h
 have ea:ee (.str x)=some (.str x):=if_pos hx
 have am:wX (ee (.str x)) (fu st V) (λd ds=>Q (.bool (xor true (ds.any λy=>abH y d))) st):=by
  rw [ea]
  rcases hV with e | e <;> rw [e] <;> exact q
 cases V with
 | str y=>exact absurd rfl (hn y)
 | _=>exact am
theorem o7 (W:Wf d)(T:Tr st t R lay d)(hs:h7 d)(hk:k < d.length)(h:∀Ps,st <+: Ps->Q (.str (bi d k)) Ps):f2 [.ref t,.int (k:Int)] st Q:=by
 have small:=T.small
 have hr:=c0 hk
 refine cE rfl ?_
 walk_at "w"
 refine bK (bj T) ?_
 walk_at "w"
 refine w5 T hr ?_
 have W0:=hs.2 k hk
 walk_at "w"
 refine yx (a:=("root":Str)) (b:=("element":Str)) W0 (λ_=>nofun) (.inr ?_) (λhc=>?_) λhc=>?_
 ·exact IA (yf (by decide +kernel) (by decide +kernel))
 ·walk_at "w"
  refine iH ?_
  walk_at "w"
  refine em rfl ?_
  walk_at "w"
  refine Ix W T hk λs1 i PZ hi hx=>?_
  refine cb hx ?_
  have Wh:(de d d.length k).length<=d.length:=by rw [iB W (by (first | lia | omega))]; exact e6 d _
  refine dt (by rw [bb]; walk_at "o") ?_
  have T1:=T.mono PZ
  refine d5 (p:=λV=>match V with | .int j=>decide ((aL d j.toNat).kind=("text":Str)) | _=>false) (f:=λV=>match V with | .int j=>.str (aL d j.toNat).val | _=>.none) (caps:=[some (.ref t)]) (λs hs=>aA hs hx) _ ?_ ?_ none [] s1 _ (aaf _) λs2 PW=>?_
  ·intro x R9 s2 K PW q
   obtain⟨j,hj,rfl⟩:=c8 R9
   have UQ:=((fN W d.length k j (by walk_at "o")).mp hj).1
   have T2:=T1.mono PW
   refine abf (bj T2) (w5 T2 (c0 UQ) ?_)
   have q':K (decide ((aL d j).kind=("text":Str))) s2:=q s2 (aaf _)
   exact q'
  ·intro x R9 _ s2 K PW q
   obtain⟨j,hj,rfl⟩:=c8 R9
   have UQ:=((fN W d.length k j (by walk_at "o")).mp hj).1
   have T2:=T1.mono PW
   refine abf (bj T2) (yK T2 (c0 UQ) ?_)
   have:=q s2 (aaf _)
   simpa using this
  ·have el:[]++((ay (de d d.length k)).filter λV=>match V with | .int j=>decide ((aL d j.toNat).kind=("text":Str)) | _=>false).map (λV=>match V with | .int j=>MV.str (aL d j.toNat).val | _=>.none)=((de d d.length k).filter λj=>decide ((aL d j).kind=("text":Str))).map λj=>MV.str (aL d j).val:=by
    rw [abx]
    unfold ay
    rw [aem,ab3]
    rfl
   rw [el]
   walk_at "w"
   exact wh W small hs hk hc (aH _) (h _ ((PZ.trans PW).trans (aB _)))
 ·walk_at "w"
  refine bK (bj T) ?_
  walk_at "w"
  refine yK T hr ?_
  have Uo:bi d k=(aL d k).val:=by unfold bi; rw [if_neg hc]
  rw [<- Uo]
  exact h st (aaf _)
end
noncomputable def eK (k:Nat)(r:Rw):List MV:=[.int (k:Int),.str r.kind,.str r.name,.str r.loc,.str r.uri,.str r.val,kF r.par]
structure LR (st:MS)(rl:Nat)(PJ:List Nat)(d:List Rw):Prop where
 rows:st[rl]?=some (.list (PJ.map .ref))
 len:PJ.length=d.length
 row:∀(k i:Nat),PJ[k]?=some i->st[i]?=some (.list (eK k (aL d k)))
theorem LR.mono {st Ps:MS}{rl:Nat}{PJ:List Nat}{d:List Rw}(T:LR st rl PJ d)(hp:st <+: Ps):LR Ps rl PJ d where
 rows:=aA hp T.rows
 len:=T.len
 row:=λk i h=>aA hp (T.row k i h)
theorem LR.at {st:MS}{rl:Nat}{PJ:List Nat}{d:List Rw}(T:LR st rl PJ d){k:Nat}(h:k < d.length):∃i,PJ[k]?=some i/\(PJ.map MV.ref)[k]?=some (.ref i)/\st[i]?=some (.list (eK k (aL d k))):=by
 rw [<- T.len] at h
 have:=aa9 h
 exact⟨_,this,by rw [abC,this]; rfl,T.row k _ this⟩
section
variable {st Ps:MS}{rl:Nat}{PJ:List Nat}{d:List Rw}{k:Nat}{Q:MV->MS->Prop}
theorem nA (hk:k < d.length):aT d k=(aL d k).par:=by unfold aT; rw [c0 hk]; rfl
theorem t8 (T:LR st rl PJ d)(small:d.length<=200)(hk:k < d.length){j:Int}{n:Nat}{V:MV}(hj:j=(n:Int))(hV:(eK k (aL d k))[n]?=some V)(h:Q V st):aN [.ref rl,.int (k:Int)] st λW Pt=>aN [W,.int j] Pt Q:=by
 obtain⟨i,h1,h2,h3⟩:=T.at hk
 have:=T.len
 exact bI T.rows rfl h2 (by rw [abd]; walk_at "o") (bI h3 hj hV (by simp [eK]) h)
theorem Ab (W:Wf d)(small:d.length<=200):∀(n k:Nat)(xs:List MV)(Ps:MS)(f:Nat)(P:MF->aG->MS->Prop),LR st rl PJ d->st <+: Ps->st.length<=f->Ps[f]?=some (.list xs)->k < n->k < d.length->xs.length+k < 1000 ->
  (∀PT,st <+: PT->PT[f]?=some (.list (xs++ay (line d k)))->P .next [some (.ref rl),some .none,some (.ref f)] PT) ->
  d9 lY l5 (n+1) [some (.ref rl),some (.int (k:Int)),some (.ref f)] Ps P:=by
 intro n
 induction n with
 | zero =>
  intro _ _ _ _ _ _ _ _ _ h _ _ _
  exact absurd h (ab6 _)
 | succ n ih =>
  intro k xs Ps f P T hp hf hx hn hk hl q
  have PW:st <+: Ps.set f (.list (xs++[.int (k:Int)])):=mG hp hf
  have T2:=T.mono PW
  have Rr:(Ps.set f (.list (xs++[.int (k:Int)])))[f]?=some (.list (xs++[.int (k:Int)])):=by
   rw [abq (bP hx).1]
  refine fz ?_
  walk_at "w"
  refine d6 hx ?_
  walk_at "w"
  refine dG hx (aaj (by walk_at "o") (by decide:1000<=abA)) ?_
  walk_at "w"
  refine t8 T2 small hk (n:=6) rfl rfl ?_
  walk_at "w"
  rw [<- nA hk]
  cases e:aT d k with
  | none =>
   refine q _ PW ?_
   rw [eY W e]; exact Rr
  | some p =>
   have TN:=W.low k p e
   refine ih p (xs++[.int (k:Int)]) _ f P T PW hf Rr (by walk_at "o") (by walk_at "o") (by simp; walk_at "o") λPT h1 h2=>q PT h1 ?_
   rw [dD W e]
   simpa [ay] using h2
theorem xR (W:Wf d)(small:d.length<=200)(T:LR st rl PJ d)(hk:k < d.length)(h:∀Ps i,st <+: Ps->st.length<=i->Ps[i]?=some (.list (ay (line d k)))->Q (.ref i) Ps):mx [.ref rl,.int (k:Int)] st Q:=by
 refine abf rfl ?_
 show f8 lY l5 [some (.ref rl),some (.int (k:Int)),some (.ref st.length)] (st++[.list []]) _
 refine ad3 (k+1+1) (Ab W small (k+1) k [] (st++[.list []]) st.length _ T (aB _) (abp _) (aH _) (abv _) hk (by simp; walk_at "o") λPT h1 h2=>?_)
 rw [abx] at h2
 exact h _ _ h1 (abp _) h2
theorem xx {G:MS->Prop}{c:TB}{e:TE}{p:MV->MV->Bool}{f:MV->MV->MV}{caps:aG}(hG:∀Ps,st <+: Ps->G Ps):∀(xs:List (MV×MV))(hc:∀x∈xs,∀st1 (K:Bool->MS->Prop),st <+: st1->(∀P1,st1 <+: P1->K (p x.1 x.2) P1)->c (some x.1::some x.2::caps) st1 K)
  (he:∀x∈xs,p x.1 x.2=true->∀st1 (K:MV->MS->Prop),st <+: st1->(∀P1,st1 <+: P1->K (f x.1 x.2) P1)->e (some x.1::some x.2::caps) st1 K) (y z:Option MV) (ys:List MV) (Ps:MS) (Q:List MV->MS->Prop),st <+: Ps ->
  (∀PT,st <+: PT->Q (ys++(xs.filter λx=>p x.1 x.2).map λx=>f x.1 x.2) PT)->fq G (ix [0,1]) c e (xs.map λx=>.tup [x.1,x.2]) (y::z::caps) ys Ps Q:=by
 intro xs
 induction xs with
 | nil =>
  intro hc he y z ys Ps Q hp q
  exact⟨hG _ hp,by have:=q Ps hp; simpa using this⟩
 | cons x xs ih =>
  intro hc he y z ys Ps Q hp q
  refine abf (hG _ hp) (abf rfl ?_)
  refine hc x (.head _) Ps _ hp λP1 PW=>?_
  cases hpx:p x.1 x.2 with
  | false =>
   simp only [ab2,if_false]
   refine ih (λz hz=>hc z (.tail _ hz)) (λz hz=>he z (.tail _ hz)) _ _ ys P1 Q (hp.trans PW) λPT h=>?_
   have:=q PT h
   simpa [hpx] using this
  | true =>
   simp only [if_true]
   refine he x (.head _) hpx P1 _ (hp.trans PW) λQb Qj=>?_
   refine ih (λz hz=>hc z (.tail _ hz)) (λz hz=>he z (.tail _ hz)) _ _ _ Qb Q ((hp.trans PW).trans Qj) λPT h=>?_
   have:=q PT h
   simpa [hpx] using this
noncomputable def i9:Nat->List MV->List (MV×MV)
 | _,[]=>[]
 | k,x::xs=>(.int (k:Int),x)::i9 (k+1) xs
theorem E7:∀(xs:List MV)(k:Nat),lU k xs=(i9 k xs).map λx=>.tup [x.1,x.2]:=by
 intro xs
 induction xs with
 | nil =>
  intro _
  exact rfl
 | cons x xs ih =>
  intro k
  simp [lU,i9,ih]
theorem BE:∀(xs:List MV)(k:Nat),(i9 k xs).map (·.1)=(adq k xs.length).map λ(n:Nat)=>MV.int (n:Int):=by
 intro xs
 induction xs with
 | nil =>
  intro _
  exact rfl
 | cons x xs ih =>
  intro k
  simp [i9,ih,aea]
theorem mW:∀{xs:List MV}{k:Nat}{y:MV×MV},y∈i9 k xs->∃j V,y=(.int ((k+j:Nat):Int),V)/\xs[j]?=some V
 | [],_,_,h=>by cases h
 | x::xs,k,y,h=>by
  rcases bM h with rfl | h
  ·exact⟨0,x,rfl,rfl⟩
  ·obtain⟨j,V,e,h2⟩:=mW h
   exact⟨j+1,V,by rw [e,show k+1+j=k+(j+1) by walk_at "o"],h2⟩
theorem zx (n:Nat):(adq 0 n).map (λ(n:Nat)=>MV.int (n:Int))=ay (ab7 n):=by rw [af7]; rfl
theorem Ks (ns:List Nat)(k:Nat):((ns.map λ(n:Nat)=>adG (n:Int)).any λy=>abH y (.int (k:Int)))=decide (k∈ns):=by
 rw [List.any_map]
 rw [ahj,List.any_eq_true,decide_eq_true_eq]
 constructor
 ·rintro⟨x,hx,hy⟩
  have:(x:Int)=(k:Int):=by simpa [abH] using hy
  have:x=k:=by walk_at "o"
  exact this ▸ hx
 ·intro hk
  exact⟨k,hk,by simp [abH]⟩
theorem MC {i:Nat}{ns:List Nat}{k:Nat}(hi:st[i]?=some (.list (ay ns)))(h:Q (.bool (decide (k∈ns))) st):im false [.int (k:Int),.ref i] st Q:=Ft (λ_ _=>rfl) (JU rfl (dX hi (mL _)) (by rw [Ks,ahJ]; exact h))
theorem Dh (W:Wf d)(hk:k < d.length)(hc:(aL d k).kind=("root":Str)\/(aL d k).kind=("element":Str)) :
  (de d d.length k).filter (λj=>decide ((aL d j).kind=("text":Str)))=(ab7 d.length).filter λj=>decide ((aL d j).kind=("text":Str)) && decide (k∈line d j):=by
 rw [iB W (by (first | lia | omega)),agy]
 refine afL λj hj=>?_
 rw [abW] at hj
 by_cases ht:(aL d j).kind=("text":Str)
 ·have P6:j≠k:=by
   intro e
   subst e
   rcases hc with hc | hc <;> (rw [hc] at ht; exact absurd ht (by decide +kernel))
  have na:bA d j=false:=by
   unfold bA
   rw [c0 hj]
   show decide ((aL d j).kind=cw)=false
   rw [ht]; decide +kernel
  simp [ht,P6,na]
 ·simp [ht]
theorem oh (W:Wf d)(small:d.length<=200)(T:LR st rl PJ d)(hs:h7 d)(hk:k < d.length)(h:∀Ps,st <+: Ps->Q (.str (bi d k)) Ps):fO [.ref rl,.int (k:Int)] st Q:=by
 refine cE rfl ?_
 have W0:=hs.2 k hk
 walk_at "w"
 refine t8 T small hk (n:=1) rfl rfl ?_
 have PZ:=aB (st:=st) (.list [.str ("element":Str),.str ("root":Str)])
 have T1:=T.mono PZ
 walk_at "w"
 refine yx (a:=("element":Str)) (b:=("root":Str)) W0 (λ_=>nofun) (.inl ?_) (λhc=>?_) λhc=>?_
 ·exact dX (aH _) (yf (by decide +kernel) (by decide +kernel))
 ·replace hc:=hc.symm
  walk_at "w"
  refine iH ?_
  walk_at "w"
  have PL:(PJ.map MV.ref).length=d.length:=by rw [abd,T.len]
  generalize hs1:st++[MO.list [MV.str ("element":Str),.str ("root":Str)]]=s1 at PZ T1
  refine em rfl ?_
  refine Fc ?_
  walk_at "w"
  refine Bt T1.rows ?_
  refine dt (by rw [vd,PL]; exact aaj small (by decide)) ?_
  rw [E7]
  refine xx (st:=s1) (p:=λa _=>match a with | .int j=>decide ((aL d j.toNat).kind=("text":Str)) && decide (k∈line d j.toNat) | _=>false) (f:=λa _=>match a with | .int j=>.str (aL d j.toNat).val | _=>.none) (caps:=[some (.int (k:Int)),some (.ref rl)]) (λs hs=>aA hs T1.rows) _ ?_ ?_ none none [] s1 _ (aaf _) λs2 PW=>?_
  ·intro x hx s2 K PW q
   refine bv λGG PD=>?_
   obtain⟨j,V,rfl,hV⟩:=mW hx
   rw [afB] at *
   have hj:j < d.length:=by have:=(bP hV).1; rwa [PL] at this
   have T2:=T1.mono PW
   obtain⟨i,Xa,UJ,VY⟩:=T2.at hj
   refine PD ?_
   rw [UJ] at hV
   obtain rfl:=(abi hV).symm
   walk_at "w"
   refine bI VY (n:=1) rfl rfl (by simp [eK]) ?_
   walk_at "w"
   refine dJ (λht=>?_) λht=>?_
   ·walk_at "w"
    refine xR W small T2 hj λs3 i3 Qj VY Un=>?_
    walk_at "w"
    refine MC Un ?_
    have q':K (decide ((aL d j).kind=("text":Str)) && decide (k∈line d j)) s3:=q s3 Qj
    rw [decide_eq_true ht,ah4] at q'
    walk_at "w"
    refine dJ (λSG=>?_) λSG=>?_
    ·rw [decide_eq_true SG] at q'
     walk_at "w"
     exact q'
    ·rw [decide_eq_false SG] at q'
     exact q'
   ·have q':K (decide ((aL d j).kind=("text":Str)) && decide (k∈line d j)) s2:=q s2 (aaf _)
    rw [decide_eq_false ht,agz] at q'
    exact q'
  ·intro x hx _ s2 K PW q
   refine bv λGG PD=>?_
   obtain⟨j,V,rfl,hV⟩:=mW hx
   rw [afB] at *
   have hj:j < d.length:=by have:=(bP hV).1; rwa [PL] at this
   have T2:=T1.mono PW
   obtain⟨i,Xa,UJ,VY⟩:=T2.at hj
   refine PD ?_
   rw [UJ] at hV
   obtain rfl:=(abi hV).symm
   walk_at "w"
   exact bI VY (n:=5) rfl rfl (by simp [eK]) (q s2 (aaf _))
  ·have el:([]:List MV)++((i9 0 (PJ.map MV.ref)).filter λx=>(match x.1 with | .int j=>decide ((aL d j.toNat).kind=("text":Str)) && decide (k∈line d j.toNat) | _=>false)).map (λx=>match x.1 with | .int j=>MV.str (aL d j.toNat).val | _=>.none)=((de d d.length k).filter λj=>decide ((aL d j).kind=("text":Str))).map λj=>MV.str (aL d j).val:=by
    rw [abx,Dh W hk hc]
    have e1:=BE (PJ.map MV.ref) 0
    rw [PL,zx] at e1
    have e2:((i9 0 (PJ.map MV.ref)).filter λx=>(match x.1 with | .int j=>decide ((aL d j.toNat).kind=("text":Str)) && decide (k∈line d j.toNat) | _=>false)).map (λx=>match x.1 with | .int j=>MV.str (aL d j.toNat).val | _=>.none)=(((i9 0 (PJ.map MV.ref)).map (·.1)).filter λa=>(match a with | .int j=>decide ((aL d j.toNat).kind=("text":Str)) && decide (k∈line d j.toNat) | _=>false)).map (λa=>match a with | .int j=>MV.str (aL d j.toNat).val | _=>.none):=by
     rw [aem,ab3]; rfl
    rw [e2,e1]
    unfold ay
    rw [aem,ab3]
    rfl
   rw [el]
   walk_at "w"
   exact wh W small hs hk hc (aH _) (h _ ((PZ.trans PW).trans (aB _)))
 ·replace hc:¬((aL d k).kind=("root":Str)\/(aL d k).kind=("element":Str)):=λq=>hc q.symm
  walk_at "w"
  refine t8 T1 small hk (n:=5) rfl rfl ?_
  walk_at "w"
  have Uo:bi d k=(aL d k).val:=by unfold bi; rw [if_neg hc]
  have:=h _ PZ
  rw [Uo] at this
  exact this
end
structure uQ (j:Nat)(st Ps:MS):Prop where
 len:st.length<=Ps.length
 keep:∀i o,i≠j->st[i]?=some o->Ps[i]?=some o
theorem uQ.set {j:Nat}{a:MS}{o:MO}:uQ j a (a.set j o):=⟨by simp,λi o h e=>by rw [abe (aec h)]; exact e⟩
def dQ (st:MS)(j:Nat):Prop:=∃a b:Int,st[j]?=some (.list [.int a,.int b])/\0<=a/\0<=b/\b < 2147483648
theorem dQ.pre {st Ps:MS}{j:Nat}(h:dQ st j)(hp:st <+: Ps):dQ Ps j:=let ⟨a,b,e,r⟩:=h; ⟨a,b,aA hp e,r⟩
section
variable {st Ps:MS}{j:Nat}{Q:MV->MS->Prop}
theorem GY {o i v:TE}{ρ:aG}{F:MF->aG->MS->Prop}(h:v ρ st (Fs o i ρ F)):AB o i v ρ st F:=h
theorem EI {p k:Nat}{i:Int}{xs:List MV}{W:MV}{ρ:aG}{F:MF->aG->MS->Prop}(h0:ρ[p]?=some (some (.ref k)))(hk:st[k]?=some (.list xs))(j0:0<=i)(j1:i < xs.length)(j2:i < 2 ^ 63)(h:F .next ρ (st.set k (.list (xs.set i.toNat W)))) :
  Fs (af p) (tK (.int i)) ρ F W st:=iJ h0 (eI hk ⟨j0,j1,j2,h⟩)
theorem xC {a:Int}(h:Q (.int a) st):eG [.int a] st Q:=h
theorem d8 {top:Nat}(h0:0 < top)(h1:top < 1000)(S:dQ st j)(h:∀Ps (x:Nat),x < top->uQ j st Ps->dQ Ps j->Q (.int (x:Int)) Ps):cy [.ref j,.int (top:Int)] st Q:=by
 refine bv λGG PD=>?_
 obtain⟨a,b,e,ha,hb,V3⟩:=S
 refine PD ?_
 refine cE rfl ?_
 have X5:(0:Int) < top:=Int.natCast_pos.mpr h0
 have Zh:(top:Int)≠0:=Int.ne_of_gt X5
 have PR:j < st.length:=(bP e).1
 have g0:∀(P:MV->MS->Prop) (s:MS) (x y:Int),s[j]?=some (.list [.int x,.int y])->P (.int x) s->aN [.ref j,.int 0] s P:=λP s x y e q=>bI (n:=0) e rfl rfl (by simp) q
 have g1:∀(P:MV->MS->Prop) (s:MS) (x y:Int),s[j]?=some (.list [.int x,.int y])->P (.int y) s->aN [.ref j,.int 1] s P:=λP s x y e q=>bI (n:=1) e rfl rfl (by simp) q
 have drawn:∀x:Int,0<=x->∃n:Nat,n < top/\acl x top=(n:Int):=λx hx=>by
  have h1:=ael hx (Int.le_of_lt X5)
  have h2:=aeX x X5
  exact⟨(acl x top).toNat,(Int.toNat_lt h1).mpr h2,(ahV h1).symm⟩
 walk_at "w"
 refine g0 _ _ _ _ e ?_
 walk_at "w"
 refine bH (λSg=>?_) λSg=>?_
 ·walk_at "w"
  refine g0 _ _ _ _ e ?_
  walk_at "w"
  refine xC ?_
  walk_at "w"
  refine ck Zh ?_
  walk_at "w"
  refine GY ?_
  walk_at "w"
  refine g0 _ _ _ _ e ?_
  walk_at "w"
  refine ck ⟨Zh,by rw [Int.natAbs_natCast]; exact agh h1 (by decide)⟩ ?_
  refine EI rfl e (by decide) (by simp) (by decide) ?_
  walk_at "w"
  obtain⟨n,hn,en⟩:=drawn a ha
  rw [en]
  refine h _ n hn uQ.set ⟨af4 a top,b,by simp [PR],?_,hb,V3⟩
  exact Int.fdiv_nonneg ha (Int.le_of_lt X5)
 ·walk_at "w"
  refine GY ?_
  walk_at "w"
  refine g1 _ _ _ _ e ?_
  walk_at "w"
  refine ck (kL (by walk_at "o")) ?_
  walk_at "w"
  refine xC ?_
  walk_at "w"
  refine ck (by decide) ?_
  have hm:=ael (show (0:Int)<=b * 39373+7 by walk_at "o") (show (0:Int)<=2147483647 by decide)
  have SU:=aeX (b * 39373+7) (show (0:Int) < 2147483647 by decide)
  generalize acl (b * 39373+7) 2147483647=b' at hm SU ⊢
  refine EI rfl e (by decide) (by simp) (by decide) ?_
  have e':(aiH st j (MO.list ([MV.int a,MV.int b].set (Int.toNat 1) (MV.int b'))))[j]?=some (.list [.int a,.int b']):=by simp [PR]
  walk_at "w"
  refine g1 _ _ _ _ e' ?_
  walk_at "w"
  refine g1 _ _ _ _ e' ?_
  walk_at "w"
  refine ck (kL (by walk_at "o")) ?_
  walk_at "w"
  refine xC ?_
  walk_at "w"
  refine ck (by decide) ?_
  walk_at "w"
  have hq:0<=af4 (acl (b' * b') 2147483629) 32:=Int.fdiv_nonneg (ael (Int.mul_nonneg hm hm) (by decide)) (by decide)
  refine ck ⟨by decide,by decide⟩ ?_
  walk_at "w"
  refine xC ?_
  walk_at "w"
  refine ck Zh ?_
  obtain⟨n,hn,en⟩:=drawn _ hq
  rw [en]
  walk_at "w"
  exact h _ n hn uQ.set ⟨a,b',e',ha,hm,by walk_at "o"⟩
end
section
variable {st Ps:MS}{i j:Nat}{xs:List MV}{Q:MV->MS->Prop}
theorem fG (hi:st[i]?=some (.list xs))(Yz:i≠j)(h0:0 < xs.length)(h1:xs.length < 1000)(S:dQ st j)(h:∀(Ps:MS)(n:Nat)(x:MV),(xs:List MV)[(n:Nat)]?=some (x:MV)->uQ j st Ps->dQ Ps j->Q x Ps):cx [.ref j,.ref i] st Q:=by
 refine cE rfl ?_
 walk_at "w"
 refine gu hi (by walk_at "o") ?_
 walk_at "w"
 refine d8 h0 h1 S λPs n hn E S'=>?_
 walk_at "w"
 obtain⟨x,hx⟩:∃x,xs[n]?=some x:=⟨_,aa9 hn⟩
 exact bI (E.keep _ _ Yz hi) rfl hx (by walk_at "o") (h Ps n x hx E S')
def E8:TE:=(ar (bh (λa n=>a ^ n.toNat) λa n=>0<=n/\n<=1000000/\a.natAbs < 2 ^ 64) (tK (.int 10)) (tK (.int 18)))
def Gm:TE:=(aF FK (ad (aF eG (ad (af 2) ak)) (ad (aF eG (ad (ar (bh (· - ·) l9) (io fP (tK (.int 1))) (af 2)) ak)) ak)))
def GH:TE:=(ar (bh acl (λ_ b=>b≠0)) (aF eG (ad (ar (bh (· * ·) acd) (ar cM (ar cM (ar cM (ar (bh acl (λ_ b=>b≠0)) (aF eG (ad (af 3) ak)) (tK (.int 2147483629))) (ar (bh (· * ·) acd) (ar (bh (· * ·) acd) (tK (.int 7919)) (af 1)) (af 1))) (ar (bh (· * ·) acd) (tK (.int 31)) (af 1))) (tK (.int 17))) (tK (.int 48271))) ak)) (tK (.int 2147483647)))
def GJ (pw:TE):TE:=(be (ad (ar (bh (· * ·) acd) (af 3) (aF eG (ad (ar (bw λa b=>decide (a ≥ b)) (af 3) pw) ak))) (ad (af 4) ak)))
theorem JB {Qa:MS}{a b:Option MV}{c:Int}{K:MV->MS->Prop}(h:∀VV:Int,0<=VV->K (.int VV) Qa):Gm [a,b,some (.int c),none,none] Qa K:=by
 unfold Gm
 simp only [qR,aj,az,bW,aS,aX,bY,vO,c9,pU,bT,dw,lH,fU,il,om,ar,io,af,tK,aF,ad,ak,bl,be,fg,lO,CH,bf,cq,iV,tD,qC,fi,fa,b8,ix,adF,acj,agA,agB,abg,ad2,ada,abx,abr,abS,if_true,if_false,ab2,adK,adR,bh,eG,FK,fP,two,nY,one,dU,GN,Mn,jK,gF]
 refine⟨trivial,h _ ?_⟩
 split <;> walk_at "o"
theorem I2 {Qa:MS}{a b d:Option MV}{m:Int}(hm:0<=m){K:MV->MS->Prop}(h:∀n:Int,0<=n->n < 2147483648->K (.int n) Qa):GH [a,some (.int 0),b,some (.int m),d] Qa K:=by
 unfold GH
 have m0:∀k:Int,0 < k->0<=acl m k:=λk hk=>ael hm (by walk_at "o")
 have mm:∀x:Int,0<=x->0<=acl x 2147483647/\acl x 2147483647 < 2147483648:=λx hx=>⟨ael hx (by decide),Int.lt_trans (aeX _ (by decide)) (by decide)⟩
 have k0:(0:Int) < 2147483629:=by decide
 have k1:(2147483647:Int)≠0:=by decide
 generalize (2147483629:Int)=c1 at *
 generalize (2147483647:Int)=c2 at *
 simp only [qR,aj,az,bW,aS,aX,bY,vO,c9,pU,bT,dw,lH,fU,il,om,ar,io,af,tK,aF,ad,ak,bl,be,fg,lO,CH,bf,cq,iV,tD,qC,fi,fa,b8,ix,adF,acj,agA,agB,abg,ad2,ada,abx,abr,abS,if_true,if_false,ab2,adK,adR,bh,eG,cM,two,nY,one,dU,cD,GN,M4,jK,hO,xP,uV,gF]
 have:=m0 c1 k0
 refine⟨by walk_at "o",kL (by decide),kL (by decide),kL (by decide),ph (by decide),k1,h _ (mm _ (by walk_at "o")).1 (mm _ (by walk_at "o")).2⟩
theorem Jv {pw:TE}(hpw:∀ρ st (K:MV->MS->Prop),(∀v:Int,K (.int v) st)->pw ρ st K){Qa:MS}{a b c:Option MV}{m n:Int}(hm:0<=m){K:MV->MS->Prop}(h:∀r:Int,0<=r->K (.ref Qa.length) (Qa++[.list [.int r,.int n]])):GJ pw [a,b,c,some (.int m),some (.int n)] Qa K:=by
 unfold GJ
 simp only [qR,aj,az,bW,aS,aX,bY,vO,c9,pU,bT,dw,lH,fU,il,om,ar,io,af,tK,aF,ad,ak,bl,be,fg,lO,CH,bf,cq,iV,tD,qC,fi,fa,b8,ix,adF,acj,agA,agB,abg,ad2,ada,abx,abr,abS,if_true,if_false,ab2,adK,adR,bw,bh,eG,two,nY,one,dU,GN,jK,gF]
 refine hpw _ _ _ λv=>?_
 dsimp only
 by_cases hB:m ≥ v
 all_goals simp only [hB,decide_true,decide_false,if_true,if_false,ab2]
 all_goals refine⟨ph (by decide),?_⟩
 all_goals exact h _ (by walk_at "o")
theorem Do {X Y Z:TE}{Qa:MS}{a:Option MV}{c:Int}
  (hX:∀(b:Option MV) (K:MV->MS->Prop),(∀VV:Int,0<=VV->K (.int VV) Qa)->X [a,b,some (.int c),none,none] Qa K)
  (hY:∀(b d:Option MV) (m:Int) (K:MV->MS->Prop),0<=m->(∀n:Int,0<=n->n < 2147483648->K (.int n) Qa)->Y [a,some (.int 0),b,some (.int m),d] Qa K)
  (hZ:∀(b c:Option MV) (m n:Int) (K:MV->MS->Prop),0<=m->(∀r:Int,0<=r->K (.ref Qa.length) (Qa++[.list [.int r,.int n]]))->Z [a,b,c,some (.int m),some (.int n)] Qa K)
  {F:MF->aG->MS->Prop} (h:∀r Ps m n,0<=m->0<=n->n < 2147483648->Ps=Qa++[.list [.int m,.int n]]->F (.ret (.ref Qa.length)) r Ps):(aj (aX 3 X) (aj (aX 4 Y) (aj (aS Z) az))) [a,some (.int 0),some (.int c),none,none] Qa F:=by
 simp only [aj,aX]
 refine hX _ _ λVV hb=>?_
 refine hY _ _ _ _ hb λn n0 n1=>?_
 refine hZ _ _ _ _ _ hb λr hr=>?_
 exact h _ _ _ _ hr n0 n1 rfl
theorem Ao:qu=aj (aX 2 (tK (.int 0))) (aj (bW (bT (ar (bw λa b=>decide (a < b)) (af 1) (aF dP (ad (af 0) ak)))) (aj (aX 2 (ar aN (af 0) (af 1))) az) az) (aj (aX 3 Gm) (aj (aX 4 GH) (aj (aS (GJ E8)) az)))):=rfl
theorem IG:∀ρ st (K:MV->MS->Prop),(∀v:Int,K (.int v) st)->E8 ρ st K:=λρ st K h=>⟨⟨by decide,by decide,by decide⟩,h _⟩
theorem Ed {T:TS}{ns:List Int}{F:MF->aG->MS->Prop}(hl:ns.length<=63)(h:∀c:Int,T [some (.ext ns),some (.int 0),some (.int c),none,none] st F):(aj (aX 2 (tK (.int 0))) (aj (bW (bT (ar (bw λa b=>decide (a < b)) (af 1) (aF dP (ad (af 0) ak)))) (aj (aX 2 (ar aN (af 0) (af 1))) az) az) T)) [some (.ext ns),some (.int 0),none,none,none] st F:=by
 walk_at "w"
 refine abf (aca hl (by decide)) ?_
 walk_at "w"
 refine bH (λPR=>?_) λ_=>?_
 ·walk_at "w"
  have PR:0 < ns.length:=afJ.mp PR
  refine⟨by decide,by decide,ns[0],aa9 PR,?_⟩
  walk_at "w"
  exact h _
 ·walk_at "w"
  exact h _
theorem Fi {ns:List Int}(hl:ns.length<=63)(h:∀Ps,st <+: Ps->dQ Ps st.length->Ps.length=st.length+1->Q (.ref st.length) Ps):pN [.ext ns,.int 0] st Q:=by
 refine abf rfl ?_
 rw [Ao]
 refine Ed hl λc=>?_
 refine Do (λb K k=>JB k) (λb d m K hm k=>I2 hm k) (λb c m n K hm k=>Jv IG hm k) ?_
 intro r Ps m n h0 h1 h2 e
 subst e
 exact h _ (abF _ _) ⟨m,n,by simp,h0,h1,h2⟩ (by simp)
end
theorem sw {A B:MS}{x:MO}:(A++x::B)[A.length]?=some x:=by simp
theorem EZ {A B:MS}{x y:MO}:(A++x::B).set A.length y=A++y::B:=by simp
section
variable {st Ps:MS}{Q:MV->MS->Prop}
theorem jt {C:Addr}{name:Str}{ρ:aG}{F:MF->aG->MS->Prop}{A B:MS}{fs:List (Str×MV)}{V:MV}{v:TE}{B':MS}{b:TS}
  (hv:∀K:MV->MS->Prop,K V (A++.inst C fs::B')->v ρ (A++.inst C fs::B) K) (hl:fs.length < 100) (h0:ρ[0]?=some (some (.ref A.length)))
  (h:b ρ (A++.inst C (kE name V fs)::B') F):aj (dk C name (af 0) v) b ρ (A++.inst C fs::B) F:=
 hv _ (iJ h0 (F5 sw ⟨hl,by rw [EZ]; exact h⟩))
theorem Kc {ρ:aG}{i:Nat}{V:MV}{st:MS}(h0:ρ[i]?=some (some V)):∀K:MV->MS->Prop,K V st->af i ρ st K:=λK k=>iJ h0 k
theorem J8 {ρ:aG}{A B:MS}{x:MO}{n:Nat}(hn:B.length+1=n)(K:MV->MS->Prop)(k:K (.ref (A.length+n)) (A++x::(B++[.list []]))):be ak ρ (A++x::B) K:=by
 refine Nl ?_
 walk_at "w"
 rw [aba,abL]
 show K (.ref (A.length+(B.length+1))) (A++x::(B++[.list []]))
 rw [hn]; exact k
theorem yb {k nm u l v p:MV}{A:MS}(h:Q .none (A++.inst 335 [(("kind":Str),k),(("name":Str),nm),(("uri":Str),u),(("local":Str),l),(("value":Str),v),(("parent":Str),p),(("children":Str),.ref (A.length+1)),(("attributes":Str),.ref (A.length+2)),(("namespaces":Str),.ref (A.length+3))]::[.list [],.list [],.list []])) :
  kP [.ref A.length,k,nm,u,l,v,p] (A++[.inst 335 []]) Q:=by
 refine cE rfl ?_
 iterate 6 refine jt (Kc rfl) (of_decide_eq_true rfl) rfl ?_
 iterate 3 refine jt (J8 rfl) (of_decide_eq_true rfl) rfl ?_
 exact h
noncomputable def cK (st:MS)(R:Nat)(xs:List MV)(fs:List (Str×MV)):MS:=
 aiH (α:=MO) (st++MO.inst 335 fs::[MO.list [],MO.list [],MO.list []]) R (MO.list (xs++[.ref st.length]))
theorem zr {t R:Nat}{xs:List MV}{r:Rw}(ht:st[t]?=some (.inst 524 [(("rows":Str),.ref R)])) (hR:st[R]?=some (.list xs)) (hx:xs.length<=200) (Ug:t≠R)
  (h:Q (.int (xs.length:Int)) (cK st R xs (d7 r ⟨st.length,st.length+1,st.length+2,st.length+3⟩))) :
  eZ [.ref t,.str r.kind,.str r.name,.str r.uri,.str r.loc,.str r.val,kF r.par] st Q:=by
 refine abf rfl ?_
 unfold kA
 have lR:=(bP hR).1
 have lt:=(bP ht).1
 unfold aj bY cq
 refine Bx rfl ht rfl ?_
 refine abf ⟨R,xs,rfl,hR⟩ ?_
 unfold ad aF
 dsimp only [af,ak,abg,ad2,ada,abx,abr,abS,adF,acj]
 unfold kO
 refine yb ?_
 refine abf rfl ?_
 refine dG (xs:=xs) (by rw [abl lR]; exact hR) (aaj hx (by decide)) ?_
 dsimp only [aS,ar,aF,ad]
 refine Bx (i:=0) rfl (by rw [abe Ug.symm,abl lt]; exact ht) rfl ?_
 refine gu (xs:=xs++[.ref st.length]) (by rw [abq (by simp; walk_at "o")]) (by simp; walk_at "o") ?_
 dsimp only [tK,bh,two,nY,jK,gF]
 refine abf trivial ?_
 simp only [aba,abw,ahi]
 have:((xs.length+(0+1):Nat):Int) - 1=(xs.length:Int):=by walk_at "o"
 rw [this]
 exact h
end
section
variable {d:List Rw}{r:Rw}{k p:Nat}
theorem cS (h:k < d.length):aT (d++[r]) k=aT d k:=by unfold aT; rw [abl h]
theorem cz:aT (d++[r]) d.length=r.par:=by unfold aT; simp
theorem kD (h:k < d.length):bA (d++[r]) k=bA d k:=by unfold bA; rw [abl h]
theorem o0:bA (d++[r]) d.length=decide (r.kind=cw):=by unfold bA; simp
theorem cI (h:k < d.length):aL (d++[r]) k=aL d k:=by unfold aL; rw [abl h]
theorem dF:aL (d++[r]) d.length=r:=by unfold aL; simp
theorem oA (f g:Nat->Bool)(n:Nat)(h:∀j,j < n->f j=g j):(ab7 (n+1)).filter f=(ab7 n).filter g++(if f n then [n] else []):=by
 rw [List.range_succ,List.filter_append]
 congr 1
 ·exact afL λj hj=>h j (abW.mp hj)
 ·cases e:f n <;> simp [e]
theorem y5 (d:List Rw)(r:Rw)(k:Nat):bG (d++[r]) k=bG d k++(if decide (r.par=some k) && !decide (r.kind=cw) then [d.length] else []):=by
 unfold bG
 rw [aba,abo,oA _ (λj=>decide (aT d j=some k) && !bA d j) d.length λj hj=>by rw [cS hj,kD hj],cz,o0]
theorem nM (d:List Rw)(r:Rw)(k:Nat):cY (d++[r]) k=cY d k++(if decide (r.par=some k) && decide (r.kind=cw) then [d.length] else []):=by
 unfold cY
 rw [aba,abo,oA _ (λj=>decide (aT d j=some k) && bA d j) d.length λj hj=>by rw [cS hj,kD hj],cz,o0]
theorem KW (W:Wf d)(h:d.length<=k):cY d k=[]:=by
 unfold cY
 rw [afM]
 intro j hj
 rw [abW] at hj
 have:aT d j≠some k:=λe=>by have:=W.low j k e; walk_at "o"
 simp [this]
theorem Gk (W:Wf d):∀(f k:Nat),k < d.length->kQ (d++[r]) f k=kQ d f k:=by
 intro f
 induction f with
 | zero =>
  intro _ _
  exact rfl
 | succ f ih =>
  intro k h
  unfold kQ
  rw [cS h]
  cases e:aT d k with
  | none=>rfl
  | some p =>
   have:=W.low k p e
   simp only
   rw [ih p (by walk_at "o")]
theorem tL (W:Wf d)(h:k < d.length):line (d++[r]) k=line d k:=Gk W _ k h
theorem Wf.snoc (W:Wf d)(h:∀p,r.par=some p->p < d.length/\p∈line d (d.length - 1)/\((aL d p).kind=("root":Str)\/(aL d p).kind=("element":Str))):Wf (d++[r]) where
 low:=λk p e=>by
  have hk:=pZ e
  rw [aba,abo] at hk
  by_cases Rp:k < d.length
  ·rw [cS Rp] at e; exact W.low k p e
  ·have:k=d.length:=by walk_at "o"
   subst this
   rw [cz] at e
   exact (h p e).1
 pre:=λk p e=>by
  have hk:=pZ e
  rw [aba,abo] at hk
  rw [tL W (by walk_at "o")]
  by_cases Rp:k+1 < d.length
  ·rw [cS Rp] at e; exact W.pre k p e
  ·have SD:k+1=d.length:=by walk_at "o"
   rw [SD,cz] at e
   have:=(h p e).2.1
   rwa [show d.length - 1=k by walk_at "o"] at this
 elm:=λk p e=>by
  have hk:=pZ e
  rw [aba,abo] at hk
  by_cases Rp:k < d.length
  ·rw [cS Rp] at e
   obtain⟨q,h1,h2⟩:=W.elm k p e
   have:=(bP h1).1
   exact⟨q,by rw [abl this]; exact h1,h2⟩
  ·have:k=d.length:=by walk_at "o"
   subst this
   rw [cz] at e
   obtain⟨h1,h2,h3⟩:=h p e
   exact⟨aL d p,by rw [abl h1]; exact c0 h1,h3⟩
theorem BL:Wf []:=⟨λk p e=>by simp [aT] at e,λk p e=>by simp [aT] at e,λk p e=>by simp [aT] at e⟩
theorem Tp.snoc (T:Tp d d.length)(h:r.par=none->d=[]):Tp (d++[r]) (d++[r]).length:=λk hk e=>by
 rw [aba,abo] at hk
 by_cases Rp:k < d.length
 ·rw [cS Rp] at e; exact T k Rp e
 ·have:k=d.length:=by walk_at "o"
  subst this
  rw [cz] at e
  rw [h e]; rfl
end
structure Kp (S:Nat->Prop)(st Ps:MS):Prop where
 len:st.length<=Ps.length
 keep:∀i o,¬S i->st[i]?=some o->Ps[i]?=some o
section
variable {S S':Nat->Prop}{a b c:MS}
theorem Kp.refl:Kp S a a:=⟨abp _,λ_ _ _ h=>h⟩
theorem Kp.trans (x:Kp S a b)(y:Kp S b c):Kp S a c:=⟨aaj x.len y.len,λi o h e=>y.keep i o h (x.keep i o h e)⟩
theorem Kp.pre (x:a <+: b):Kp S a b:=⟨x.length_le,λi o _ e=>aA x e⟩
theorem Kp.set {j:Nat}{o:MO}(hj:S j):Kp S a (a.set j o):=⟨by simp,λi o h e=>by rw [abe (λq:j=i=>h (q ▸ hj))]; exact e⟩
theorem Kp.wide (x:Kp S a b)(h:∀i,S i->S' i):Kp S' a b:=⟨x.len,λi o hi e=>x.keep i o (λq=>hi (h i q)) e⟩
theorem uQ.kp {j:Nat}(x:uQ j a b):Kp (·=j) a b:=⟨x.len,λi o h e=>x.keep i o h e⟩
theorem Kp.new {j:Nat}{o:MO}(x:Kp S a b)(hj:S j\/a.length<=j):Kp S a (b.set j o):=⟨by simpa using x.len,λi o h e=>by
 have PR:=(bP e).1
 rw [abe (λq:j=i=>hj.elim (λw=>h (q ▸ w)) λw=>by walk_at "o")]
 exact x.keep i o h e⟩
end
def cu (t R:Nat)(lay:List cH)(x:Nat):Prop:=x=t\/x=R\/∃l∈lay,l.i<=x/\x < l.i+4
structure Ly (t R:Nat)(lay:List cH):Prop where
 tR:t < R
 low:∀l∈lay,R < l.i/\l.c=l.i+1/\l.a=l.i+2/\l.s=l.i+3
 inc:lay.Pairwise λl l'=>l.i+4<=l'.i
noncomputable def dr (n:Nat):cH:=⟨n,n+1,n+2,n+3⟩
section
variable {st Ps:MS}{t R:Nat}{lay:List cH}{d:List Rw}{k:Nat}{r:Rw}{l:cH}{S:Nat->Prop}
theorem Ly.apart (Y:Ly t R lay){k k':Nat}{l l':cH}(h:lay[k]?=some l)(h':lay[k']?=some l')(hk:k≠k'):l.i+4<=l'.i\/l'.i+4<=l.i:=by
 have P:=List.pairwise_iff_getElem.mp Y.inc
 obtain⟨a,rfl⟩:=bP h
 obtain⟨b,rfl⟩:=bP h'
 rcases Nat.lt_or_gt_of_ne hk with q | q
 ·exact .inl (P k k' a b q)
 ·exact .inr (P k' k b a q)
theorem Ly.at (Y:Ly t R lay)(h:lay[k]?=some l):R < l.i/\l.c=l.i+1/\l.a=l.i+2/\l.s=l.i+3:=Y.low l (abh h)
theorem Tr.row (T:Tr st t R lay d)(h:lay[k]?=some l):∃r,d[k]?=some r:=by
 have:=(bP h).1
 rw [T.len] at this
 exact⟨_,aa9 this⟩
theorem Tr.lt (T:Tr st t R lay d)(Y:Ly t R lay){x:Nat}(h:cu t R lay x):x < st.length:=by
 rcases h with rfl | rfl | ⟨l,hl,h1,h2⟩
 ·exact (bP T.tree).1
 ·exact (bP T.rows).1
 ·obtain⟨k,hk⟩:=ahu.mp hl
  obtain⟨r,hr⟩:=T.row hk
  have:=(bP (T.node k l r hk hr).2.2.2).1
  have:=(Y.at hk).2.2.2
  walk_at "o"
theorem Tr.frame (T:Tr st t R lay d)(Y:Ly t R lay)(K:Kp S st Ps)(hS:∀x,S x->¬cu t R lay x):Tr Ps t R lay d where
 tree:=K.keep _ _ (λq=>hS _ q (.inl rfl)) T.tree
 rows:=K.keep _ _ (λq=>hS _ q (.inr (.inl rfl))) T.rows
 len:=T.len
 small:=T.small
 node:=λk l r h1 h2=>by
  refine bv λGG PD=>?_
  obtain⟨a,b,c,e⟩:=T.node k l r h1 h2
  obtain⟨y0,y1,y2,y3⟩:=Y.at h1
  refine PD ?_
  have hm:=abh h1
  refine⟨K.keep _ _ (λq=>hS _ q (.inr (.inr ⟨l,hm,?_⟩))) a,K.keep _ _ (λq=>hS _ q (.inr (.inr ⟨l,hm,?_⟩))) b,K.keep _ _ (λq=>hS _ q (.inr (.inr ⟨l,hm,?_⟩))) c,K.keep _ _ (λq=>hS _ q (.inr (.inr ⟨l,hm,?_⟩))) e⟩ <;> walk_at "o"
theorem Ly.snoc (Y:Ly t R lay)(T:Tr st t R lay d):Ly t R (lay++[dr st.length]) where
 tR:=Y.tR
 low:=λl hl=>by
  rcases dW hl with h | h
  ·exact Y.low l h
  ·rw [cr h]
   exact⟨T.lt Y (.inr (.inl rfl)),rfl,rfl,rfl⟩
 inc:=by
  rw [af8]
  refine⟨Y.inc,by simp,λl hl l' Ta=>?_⟩
  rw [cr Ta]
  have:=T.lt Y (.inr (.inr ⟨l,hl,by walk_at "o",by walk_at "o"⟩)) (x:=l.i+3)
  show l.i+4<=st.length
  walk_at "o"
theorem cu.snoc {x:Nat}{n:Nat}(h:¬cu t R lay x)(hx:x < n):¬cu t R (lay++[dr n]) x:=by
 rintro (e | e | ⟨l,hl,h1,h2⟩)
 ·exact h (.inl e)
 ·exact h (.inr (.inl e))
 ·rcases dW hl with q | q
  ·exact h (.inr (.inr ⟨l,q,h1,h2⟩))
  ·rw [cr q] at h1
   have:n<=x:=h1
   walk_at "o"
theorem Tr.snoc (T:Tr st t R lay d)(W:Wf (d++[r]))(hs:d.length < 200)
  (h1:Ps[t]?=some (.inst 524 [(("rows":Str),.ref R)])) (h2:Ps[R]?=some (.list ((lay++[l]).map λl=>.ref l.i)))
  (h3:Ps[l.i]?=some (.inst 335 (d7 r l))/\Ps[l.c]?=some (.list [])/\Ps[l.a]?=some (.list [])/\Ps[l.s]?=some (.list []))
  (h4:∀(k:Nat) (l':cH) (r':Rw),lay[k]?=some l'->d[k]?=some r'->Ps[l'.i]?=some (.inst 335 (d7 r' l'))/\Ps[l'.c]?=some (.list (ay (bG (d++[r]) k)))/\Ps[l'.a]?=some (.list (ay (cY (d++[r]) k)))/\Ps[l'.s]?=some (.list [])):Tr Ps t R (lay++[l]) (d++[r]) where
 tree:=h1
 rows:=h2
 len:=by simp [T.len]
 small:=by simp; walk_at "o"
 node:=λk l' r' e1 e2=>by
  refine m5 e2 (λe2=>?_) λek er=>?_
  ·have hk:=(bP e2).1
   rw [abl (by rw [T.len]; exact hk)] at e1
   exact h4 k l' r' e1 e2
  ·have hW:(d++[r]).length=d.length+1:=aba
   rw [ek,<- T.len,aeq] at e1
   cases e1
   subst ek
   rw [er]
   have z1:bG (d++[r]) d.length=[]:=by
    unfold bG
    rw [afM]
    intro j hj
    rw [abW] at hj
    have:aT (d++[r]) j≠some d.length:=λe=>by have:=W.low j _ e; walk_at "o"
    simp [this]
   have z2:cY (d++[r]) d.length=[]:=by
    unfold cY
    rw [afM]
    intro j hj
    rw [abW] at hj
    have:aT (d++[r]) j≠some d.length:=λe=>by have:=W.low j _ e; walk_at "o"
    simp [this]
   rw [z1,z2]
   exact h3
end
section
variable {st Ps:MS}{t R:Nat}{lay:List cH}{d:List Rw}{k p:Nat}{r:Rw}{l:cH}{xs:List MV}{fs:List (Str×MV)}{Q:MV->MS->Prop}
theorem eR {i:Nat}(hi:i < st.length)(hR:i≠R):(cK st R xs fs)[i]?=st[i]?:=by
 unfold cK
 rw [abe (aec hR),abl hi]
theorem vT (hR:R < st.length):(cK st R xs fs)[R]?=some (.list (xs++[.ref st.length])):=by
 unfold cK
 rw [abq (by simp; walk_at "o")]
theorem w6 (hR:R < st.length):(cK st R xs fs)[st.length]?=some (.inst 335 fs)/\(cK st R xs fs)[st.length+1]?=some (.list [])/\(cK st R xs fs)[st.length+2]?=some (.list [])/\(cK st R xs fs)[st.length+3]?=some (.list []):=by
 unfold cK
 refine⟨?_,?_,?_,?_⟩ <;> rw [abe (by walk_at "o"),aeA (by walk_at "o")] <;> simp
theorem zu {S:Nat->Prop}(hS:S R):Kp S st (cK st R xs fs):=⟨by unfold cK; simp,λi o h e=>by
 have:=(bP e).1
 rw [eR this (λq:i=R=>h (q ▸ hS))]; exact e⟩
theorem FS:(cK st R xs fs).length=st.length+4:=by unfold cK; simp
theorem xa {V:MV}(hV:V=kF r.par)(ht:st[t]?=some (.inst 524 [(("rows":Str),.ref R)])) (hR:st[R]?=some (.list xs)) (hx:xs.length<=200) (Ug:t≠R)
  (h:Q (.int (xs.length:Int)) (cK st R xs (d7 r (dr st.length)))) :
  eZ [.ref t,.str r.kind,.str r.name,.str r.uri,.str r.loc,.str r.val,V] st Q:=by subst hV; exact zr ht hR hx Ug h
theorem Tr.new0 (T:Tr st t R lay d)(Y:Ly t R lay)(W:Wf (d++[r]))(hs:d.length < 200)(hp:r.par=none) :
  Tr (cK st R (lay.map λl=>.ref l.i) (d7 r (dr st.length))) t R (lay++[dr st.length]) (d++[r]):=by
 have lR:=(bP T.rows).1
 have lt:=(bP T.tree).1
 have Ug:=Y.tR
 refine T.snoc W hs ?_ ?_ (w6 lR) λk l' r' e1 e2=>?_
 ·rw [eR lt (by walk_at "o")]; exact T.tree
 ·rw [vT lR]; simp [dr]
 ·obtain⟨a,b,c,e⟩:=T.node k l' r' e1 e2
  obtain⟨y0,y1,y2,y3⟩:=Y.at e1
  have z:=T.lt Y (.inr (.inr ⟨l',abh e1,by walk_at "o",by walk_at "o"⟩)) (x:=l'.i+3)
  rw [y5,nM,hp]
  simp only [reduceCtorEq,decide_false,agz,ab2,if_false,abr]
  refine⟨?_,?_,?_,?_⟩ <;> rw [eR (by walk_at "o") (by walk_at "o")] <;> assumption
theorem jA (l:List Nat)(n:Nat):ay l++[.int (n:Int)]=ay (l++[n]):=by simp [ay]
theorem uk {c:Prop} [Decidable c] {l:List Nat}{n:Nat}(h:¬c):l++(if c then [n] else [])=l:=by rw [if_neg h,abr]
theorem HM {S:MS}{q:Nat}{ks:List Nat}(T:Tr st t R lay d)(Y:Ly t R lay)(W:Wf (d++[r]))(hs:d.length < 200)(hp:r.par=some p)(hl:lay[p]?=some l)
  (hq:l.i < q/\q < l.i+3) (hqa:r.kind=cw->q=l.a/\ks=cY d p) (hqc:¬r.kind=cw->q=l.c/\ks=bG d p) (Qp:∀(i:Nat) (v:MO),i≠q->i≠R->st[i]?=some v->S[i]?=some v) (at':S[q]?=some (.list (ay (ks++[d.length]))))
  (hR:S[R]?=some (.list ((lay++[dr st.length]).map λl=>.ref l.i))) (hn:S[st.length]?=some (.inst 335 (d7 r (dr st.length)))/\S[st.length+1]?=some (.list [])/\S[st.length+2]?=some (.list [])/\S[st.length+3]?=some (.list [])):Tr S t R (lay++[dr st.length]) (d++[r]):=by
 have Ug:=Y.tR
 obtain⟨p0,p1,p2,p3⟩:=Y.at hl
 refine T.snoc W hs (Qp _ _ (by walk_at "o") (by walk_at "o") T.tree) hR hn λk l' r' e1 e2=>?_
 obtain⟨a,b,c,e⟩:=T.node k l' r' e1 e2
 obtain⟨y0,y1,y2,y3⟩:=Y.at e1
 rw [y5,nM,hp]
 by_cases hk:k=p
 ·subst hk
  rw [hl] at e1
  cases e1
  by_cases ha:r.kind=cw
  ·obtain⟨rfl,rfl⟩:=hqa ha
   rw [uk (by simp [ha]),if_pos (by simp [ha])]
   exact⟨Qp _ _ (by walk_at "o") (by walk_at "o") a,Qp _ _ (by walk_at "o") (by walk_at "o") b,at',Qp _ _ (by walk_at "o") (by walk_at "o") e⟩
  ·obtain⟨rfl,rfl⟩:=hqc ha
   rw [if_pos (by simp [ha]),uk (by simp [ha])]
   exact⟨Qp _ _ (by walk_at "o") (by walk_at "o") a,at',Qp _ _ (by walk_at "o") (by walk_at "o") c,Qp _ _ (by walk_at "o") (by walk_at "o") e⟩
 ·have hpk:¬some p=some k:=λq=>hk (abi q).symm
  have:=Y.apart e1 hl hk
  rw [uk (by simp [hpk]),uk (by simp [hpk])]
  exact⟨Qp _ _ (by walk_at "o") (by walk_at "o") a,Qp _ _ (by walk_at "o") (by walk_at "o") b,Qp _ _ (by walk_at "o") (by walk_at "o") c,Qp _ _ (by walk_at "o") (by walk_at "o") e⟩
theorem Tr.newp (T:Tr st t R lay d)(Y:Ly t R lay)(W:Wf (d++[r]))(hs:d.length < 200)(hp:r.par=some p)(hl:lay[p]?=some l) :
  Tr ((cK st R (lay.map λl=>.ref l.i) (d7 r (dr st.length))).set (if r.kind=cw then l.a else l.c) (.list (ay (if r.kind=cw then cY d p else bG d p)++[.int (d.length:Int)]))) t R (lay++[dr st.length]) (d++[r]):=by
 have lR:=(bP T.rows).1
 obtain⟨p0,p1,p2,p3⟩:=Y.at hl
 have hq:l.i < (if r.kind=cw then l.a else l.c)/\(if r.kind=cw then l.a else l.c) < l.i+3:=by split <;> walk_at "o"
 have qlt:(if r.kind=cw then l.a else l.c) < st.length:=T.lt Y (.inr (.inr ⟨l,abh hl,adi hq.1,abK hq.2⟩))
 obtain⟨n0,n1,n2,n3⟩:=w6 (xs:=lay.map λl=>.ref l.i) (fs:=d7 r (dr st.length)) lR
 have new:∀(i:Nat) (o:MO),st.length<=i->((cK st R (lay.map λl=>.ref l.i) (d7 r (dr st.length))).set (if r.kind=cw then l.a else l.c) o)[i]?=(cK st R (lay.map λl=>.ref l.i) (d7 r (dr st.length)))[i]?:=λi o h=>abe (abc (abG qlt h))
 refine HM T Y W hs hp hl hq (λh=>⟨if_pos h,if_pos h⟩) (λh=>⟨if_neg h,if_neg h⟩) (λi v h1 h2 e=>by rw [abe (aec h1),eR (bP e).1 h2]; exact e) (by rw [abq (by rw [FS]; exact Nat.lt_add_right 4 qlt),jA]) ?_
  ⟨(new _ _ (abp _)).trans n0,(new _ _ (adj _ 1)).trans n1,(new _ _ (adj _ 2)).trans n2,(new _ _ (adj _ 3)).trans n3⟩
 rw [abe (by have:=Y.tR; walk_at "o"),vT lR,abB]; rfl
theorem Kp.newp (T:Tr st t R lay d)(Y:Ly t R lay)(hl:lay[p]?=some l){o:MO}:Kp (cu t R lay) st ((cK st R xs fs).set (if r.kind=cw then l.a else l.c) o):=by
 obtain⟨p0,p1,p2,p3⟩:=Y.at hl
 refine (zu (.inr (.inl rfl))).new (.inl (.inr (.inr ⟨l,abh hl,?_,?_⟩)))
 ·split <;> walk_at "o"
 ·split <;> walk_at "o"
theorem Fw {x:Str}(hx:x=("root":Str)\/x=("element":Str)) (h:Q (.bool false) st):im true [.str x,qx] st Q:=by
 have ok:ab4 x=true:=by rcases hx with rfl | rfl <;> decide +kernel
 exact yx ok (λ_=>nofun) (.inr (IA (yf (by decide +kernel) (by decide +kernel)))) (λ_=>h) λq=>absurd hx q
theorem qG (T:Tr st t R lay d)(Y:Ly t R lay)(W:Wf (d++[⟨"root","","","","",none⟩])) (hs:d.length < 200)
  (h:∀Ps,Tr Ps t R (lay++[dr st.length]) (d++[⟨"root","","","","",none⟩])->Kp (cu t R lay) st Ps->Q (.int (d.length:Int)) Ps):fJ [.ref t] st Q:=by
 refine abf rfl (abf (bj T) ?_)
 have Ug:=Y.tR
 refine zr (r:=⟨"root","","","","",none⟩) T.tree T.rows (by simp [T.len]; walk_at "o") (by walk_at "o") ?_
 have:=h _ (T.new0 Y W hs rfl) (zu (.inr (.inl rfl)))
 rw [<- T.len] at this
 rw [abd]
 exact this
theorem oi (T:Tr st t R lay d)(Y:Ly t R lay)(W:Wf (d++[r]))(hs:d.length < 200)(hp:r.par=some p)(hk:r.kind≠cw)
  (h:∀Ps,Tr Ps t R (lay++[dr st.length]) (d++[r])->Kp (cu t R lay) st Ps->Q (.int (d.length:Int)) Ps) :
  fh [.ref t,.int (p:Int),.str r.kind,.str r.name,.str r.uri,.str r.loc,.str r.val] st Q:=by
 refine abf rfl ?_
 have Ug:=Y.tR
 have S7:p < d.length:=W.low d.length p (by rw [cz]; exact hp)
 refine bv λGG PD=>?_
 obtain⟨q,hq,hqk⟩:=W.elm d.length p (by rw [cz]; exact hp)
 rw [abl S7] at hq
 obtain⟨l,hl⟩:=T.at hq
 obtain⟨y0,y1,y2,y3⟩:=Y.at hl
 refine PD ?_
 have zp:=T.lt Y (.inr (.inr ⟨l,abh hl,by walk_at "o",by walk_at "o"⟩)) (x:=l.i+3)
 have hT:=T.newp Y W hs hp hl
 have hK:=Kp.newp (r:=r) (xs:=lay.map λl=>.ref l.i) (fs:=d7 r (dr st.length)) (o:=.list (ay (if r.kind=cw then cY d p else bG d p)++[.int (d.length:Int)])) T Y hl
 rw [if_neg hk,if_neg hk] at hT hK
 have Xj:=h _ hT hK
 clear hT hK h
 have lt:=(bP T.tree).1
 have lR:=(bP T.rows).1
 walk_at "w"
 refine bK (bj T) ?_
 walk_at "w"
 refine j4 T hl ?_
 refine bD (T.node p l q hl hq).1 rfl ?_
 walk_at "w"
 refine Fw hqk ?_
 walk_at "w"
 refine bK (bj T) ?_
 walk_at "w"
 refine xa (by rw [hp]; rfl) T.tree T.rows (by simp [T.len]; walk_at "o") (by walk_at "o") ?_
 have hR1:((cK st R (lay.map λl=>.ref l.i) (d7 r (dr st.length))))[t]?=some (.inst 524 [(("rows":Str),.ref R)]):=by rw [eR lt (by walk_at "o")]; exact T.tree
 have hC:(cK st R (lay.map λl=>.ref l.i) (d7 r (dr st.length)))[l.c]?=some (.list (ay (bG d p))):=by
  rw [eR (by walk_at "o") (by walk_at "o")]; exact (T.node p l q hl hq).2.1
 have hI:(cK st R (lay.map λl=>.ref l.i) (d7 r (dr st.length)))[l.i]?=some (.inst 335 (d7 q l)):=by
  rw [eR (by walk_at "o") (by walk_at "o")]; exact (T.node p l q hl hq).1
 walk_at "w"
 refine bD hR1 rfl ?_
 walk_at "w"
 refine bI (n:=p) (x:=.ref l.i) (vT lR) rfl ?_ (by simp [T.len]; walk_at "o") ?_
 ·rw [abl (by rw [abd,T.len]; exact S7),abC,hl]; rfl
 refine bD hI rfl ?_
 refine d6 (hC) ?_
 walk_at "w"
 refine dG hC ?_ ?_
 ·rw [bb]
  have:=e6 d λj=>decide (aT d j=some p) && !bA d j
  exact aaj this (aaj (by walk_at "o") (by decide:1000<=abA))
 walk_at "w"
 rw [show (lay.map λl=>MV.ref l.i).length=d.length by rw [abd,T.len]]
 exact Xj
end
section
variable {st Ps:MS}{t R:Nat}{lay:List cH}{d:List Rw}{k p:Nat}{r:Rw}{l:cH}{xs:List MV}{fs:List (Str×MV)}{Q:MV->MS->Prop}
theorem l6 {nm u lc:Str}(T:Tr st t R lay d)(Y:Ly t R lay)(W:Wf (d++[⟨"element",nm,lc,u,"",some p⟩])) (hs:d.length < 200)
  (h:∀Ps,Tr Ps t R (lay++[dr st.length]) (d++[⟨"element",nm,lc,u,"",some p⟩])->Kp (cu t R lay) st Ps->Q (.int (d.length:Int)) Ps) :
  ec [.ref t,.int (p:Int),.str nm,.str u,.str lc] st Q:=by
 refine abf rfl (abf (bj T) ?_)
 exact oi (r:=⟨"element",nm,lc,u,"",some p⟩) T Y W hs rfl (show ("element":Str)≠cw by decide +kernel) h
theorem FE {v:Str}(T:Tr st t R lay d)(Y:Ly t R lay)(W:Wf (d++[⟨"text","","","",v,some p⟩])) (hs:d.length < 200)
  (h:∀Ps,Tr Ps t R (lay++[dr st.length]) (d++[⟨"text","","","",v,some p⟩])->Kp (cu t R lay) st Ps->Q (.int (d.length:Int)) Ps) :
  fF [.ref t,.int (p:Int),.str v] st Q:=by
 refine abf rfl (abf (bj T) ?_)
 exact oi (r:=⟨"text","","","",v,some p⟩) T Y W hs rfl (show ("text":Str)≠cw by decide +kernel) h
theorem Al {v:Str}(T:Tr st t R lay d)(Y:Ly t R lay)(W:Wf (d++[⟨"comment","","","",v,some p⟩])) (hs:d.length < 200)
  (h:∀Ps,Tr Ps t R (lay++[dr st.length]) (d++[⟨"comment","","","",v,some p⟩])->Kp (cu t R lay) st Ps->Q (.int (d.length:Int)) Ps) :
  eh [.ref t,.int (p:Int),.str v] st Q:=by
 refine abf rfl (abf (bj T) ?_)
 exact oi (r:=⟨"comment","","","",v,some p⟩) T Y W hs rfl (show ("comment":Str)≠cw by decide +kernel) h
theorem qQ (T:Tr st t R lay d)(hr:d[k]?=some r)(hl:lay[k]?=some l)(he:r.kind=("element":Str)) (h:Q (.ref l.i) st):iv [.ref t,.int (k:Int)] st Q:=by
 refine cE rfl ?_
 walk_at "w"
 refine bK (bj T) ?_
 walk_at "w"
 refine j4 T hl ?_
 walk_at "w"
 refine bD (T.node k l r hl hr).1 rfl ?_
 walk_at "w"
 rw [he]
 refine Ng ?_
 walk_at "w"
 exact h
theorem HA (T:Tr st t R lay d){G:MS->Prop}(hG:G st){x0:Option MV}{F:MF->aG->MS->Prop}:∀(ks:List Nat)(a b:Option MV),(∀k∈ks,k < d.length/\¬((aL d k).uri=r.uri/\(aL d k).loc=r.loc)) ->
  (∀a b,F .next [some (.ref t),some (.int (p:Int)),some (.str r.name),some (.str r.uri),some (.str r.loc),some (.str r.val),x0,a,b] st) ->
  ew G (b8 7) iL (ay ks) [some (.ref t),some (.int (p:Int)),some (.str r.name),some (.str r.uri),some (.str r.loc),some (.str r.val),x0,a,b] st F:=by
 intro ks
 induction ks with
 | nil =>
  intro a b _ h
  exact⟨hG,h a b⟩
 | cons k ks ih =>
  intro a b hk h
  obtain⟨Rp,P6⟩:=hk k (.head _)
  have hr:=c0 Rp
  obtain⟨l,hl⟩:=T.at hr
  have small:=T.small
  have len:=T.len
  refine cT hG ?_
  walk_at "w"
  refine bD T.tree rfl ?_
  walk_at "w"
  refine bI (n:=k) (x:=.ref l.i) T.rows rfl (by rw [abC,hl]; rfl) (by simp; walk_at "o") ?_
  walk_at "w"
  refine bD (T.node k l _ hl hr).1 rfl ?_
  walk_at "w"
  refine dJ (λh1=>?_) λh1=>?_
  ·walk_at "w"
   refine bD (T.node k l _ hl hr).1 rfl ?_
   walk_at "w"
   refine dJ (λh2=>absurd ⟨h1,h2⟩ P6) λh2=>?_
   walk_at "w"
   exact ih _ _ (λk QA=>hk k (.tail _ QA)) h
  ·walk_at "w"
   exact ih _ _ (λk QA=>hk k (.tail _ QA)) h
theorem j5 {nm u lc v:Str}(T:Tr st t R lay d)(Y:Ly t R lay)(W:Wf (d++[⟨"attribute",nm,lc,u,v,some p⟩])) (hs:d.length < 200) (he:(aL d p).kind=("element":Str))
  (hn:∀k∈cY d p,¬((aL d k).uri=u/\(aL d k).loc=lc))
  (h:∀Ps,Tr Ps t R (lay++[dr st.length]) (d++[⟨"attribute",nm,lc,u,v,some p⟩])->Kp (cu t R lay) st Ps->Q (.int (d.length:Int)) Ps) :
  b0 [.ref t,.int (p:Int),.str nm,.str u,.str lc,.str v] st Q:=by
 have Ug:=Y.tR
 have S7:p < d.length:=W.low d.length p (by rw [cz])
 have hq:=c0 S7
 obtain⟨l,hl⟩:=T.at hq
 obtain⟨y0,y1,y2,y3⟩:=Y.at hl
 have zp:=T.lt Y (.inr (.inr ⟨l,abh hl,by walk_at "o",by walk_at "o"⟩)) (x:=l.i+3)
 have hk:(⟨"attribute",nm,lc,u,v,some p⟩:Rw).kind=cw:=rfl
 have hT:=T.newp Y W hs rfl hl
 have hK:=Kp.newp (r:=⟨"attribute",nm,lc,u,v,some p⟩) (xs:=lay.map λl=>.ref l.i) (fs:=d7 ⟨"attribute",nm,lc,u,v,some p⟩ (dr st.length)) (o:=.list (ay (if (⟨"attribute",nm,lc,u,v,some p⟩:Rw).kind=cw then cY d p else bG d p)++[.int (d.length:Int)])) T Y hl
 rw [if_pos hk,if_pos hk] at hT hK
 have Xj:=h _ hT hK
 clear hT hK h
 have lt:=(bP T.tree).1
 have lR:=(bP T.rows).1
 refine cE rfl ?_
 walk_at "w"
 refine bK (bj T) ?_
 walk_at "w"
 refine qQ T hq hl he ?_
 walk_at "w"
 refine bD (T.node p l _ hl hq).1 rfl ?_
 refine cb (T.node p l _ hl hq).2.2.1 ?_
 refine HA (r:=⟨"attribute",nm,lc,u,v,some p⟩) T (T.node p l _ hl hq).2.2.1 (cY d p) _ _ (λk hk=>⟨(vQ.mp hk).1,hn k hk⟩) λa b=>?_
 walk_at "w"
 refine bK (bj T) ?_
 walk_at "w"
 refine xa (r:=⟨"attribute",nm,lc,u,v,some p⟩) rfl T.tree T.rows (by simp [T.len]; walk_at "o") (by walk_at "o") ?_
 have hC:(cK st R (lay.map λl=>.ref l.i) (d7 ⟨"attribute",nm,lc,u,v,some p⟩ (dr st.length)))[l.a]?=some (.list (ay (cY d p))):=by
  rw [eR (by walk_at "o") (by walk_at "o")]; exact (T.node p l _ hl hq).2.2.1
 have hI:(cK st R (lay.map λl=>.ref l.i) (d7 ⟨"attribute",nm,lc,u,v,some p⟩ (dr st.length)))[l.i]?=some (.inst 335 (d7 (aL d p) l)):=by
  rw [eR (by walk_at "o") (by walk_at "o")]; exact (T.node p l _ hl hq).1
 walk_at "w"
 refine bD hI rfl ?_
 refine d6 (hC) ?_
 walk_at "w"
 refine dG hC ?_ ?_
 ·rw [bb]
  have:=e6 d λj=>decide (aT d j=some p) && bA d j
  exact aaj this (aaj (by walk_at "o") (by decide:1000<=abA))
 walk_at "w"
 rw [show (lay.map λl=>MV.ref l.i).length=d.length by rw [abd,T.len]]
 exact Xj
end
inductive dI:Rw->Prop
 | root:dI ⟨"root","","","","",none⟩
 | elm {nm lc u:Str} {p:Nat} (h:(nm,lc,u)∈([("a","a",""),("b","b",""),("p:a","a","urn:p")]:List (Str×Str×Str))):dI ⟨"element",nm,lc,u,"",some p⟩
 | num {v:Str} {p:Nat} (h:v∈(["1","2.5","x"]:List Str)):dI ⟨"attribute","n","n","",v,some p⟩
 | lang {v:Str} {p:Nat} (h:v∈(["en","EN-us","fr","enx"]:List Str)):dI ⟨"attribute","xml:lang","lang","http://www.w3.org/XML/1998/namespace",v,some p⟩
 | text {v:Str} {p:Nat} (h:v∈(["1"," 3 ","-1","b a","q"]:List Str)):dI ⟨"text","","","",v,some p⟩
 | comm {v:Str} {p:Nat} (h:v∈(["1"," 3 ","-1","b a","q"]:List Str)):dI ⟨"comment","","","",v,some p⟩
structure Gd (d:List Rw)(ss:List Nat):Prop where
 wf:Wf d
 tp:Tp d d.length
 ok:∀k,k < d.length->dI (aL d k)
 ne:0 < d.length
 asc:ss.Pairwise (· < ·)
 on:∀x∈ss,x∈line d (d.length - 1)
 el:∀x∈ss,(aL d x).kind=("root":Str)\/(aL d x).kind=("element":Str)
section
variable {d:List Rw}{ss:List Nat}{r:Rw}{p:Nat}
theorem Gd.lt (G:Gd d ss){x:Nat}(h:x∈ss):x < d.length:=by
 have:=iK G.wf (G.on x h)
 have:=G.ne
 walk_at "o"
theorem Gd.wsnoc (G:Gd d ss)(hp:r.par=some p)(hm:p∈ss):Wf (d++[r]):=G.wf.snoc λq e=>by
 rw [hp] at e
 obtain rfl:=abi e
 exact⟨G.lt hm,G.on _ hm,G.el _ hm⟩
theorem Gd.snoc (G:Gd d ss)(hr:dI r)(hp:r.par=some p)(hm:p∈ss)(RZ:∀x∈ss,x<=p):Gd (d++[r]) ss where
 wf:=G.wsnoc hp hm
 tp:=G.tp.snoc λe=>by rw [hp] at e; cases e
 ok:=λk hk=>by
  rw [aba,abo] at hk
  by_cases h:k < d.length
  ·rw [cI h]; exact G.ok k h
  ·have:k=d.length:=by walk_at "o"
   subst this; rw [dF]; exact hr
 ne:=by simp
 asc:=G.asc
 on:=λx hx=>by
  have W:=G.wsnoc hp hm
  have S7:=G.lt hm
  have ne:=G.ne
  rw [aba,abo,adv,dD W (p:=p) (by rw [cz,hp]),tL G.wf S7]
  exact .tail _ (vq G.wf (G.on x hx) (RZ x hx) (by walk_at "o"))
 el:=λx hx=>by rw [cI (G.lt hx)]; exact G.el x hx
theorem Gd.open (G:Gd (d++[r]) ss)(hk:r.kind=("element":Str)) (RZ:∀x∈ss,x < d.length):Gd (d++[r]) (ss++[d.length]) where
 wf:=G.wf
 tp:=G.tp
 ok:=G.ok
 ne:=G.ne
 asc:=by
  rw [af8]
  exact⟨G.asc,by simp,λx hx y hy=>by rw [cr hy]; exact RZ x hx⟩
 on:=λx hx=>by
  rcases dW hx with h | h
  ·exact G.on x h
  ·rw [cr h,aba,abo,adv]; exact dN G.wf _
 el:=λx hx=>by
  rcases dW hx with h | h
  ·exact G.el x h
  ·rw [cr h,dF]; exact .inr hk
theorem Gd.sub {Q2:List Nat}(G:Gd d ss)(h:List.Sublist Q2 ss):Gd d Q2:=⟨G.wf,G.tp,G.ok,G.ne,G.asc.sublist h,λx hx=>G.on x (h.subset hx),λx hx=>G.el x (h.subset hx)⟩
end
structure Bs (st:MS)(j t R rl os:Nat)(lay:List cH)(PJ:List Nat)(d d':List Rw)(ss:List Nat):Prop where
 tr:Tr st t R lay d
 ly:Ly t R lay
 lr:LR st rl PJ d'
 src:dQ st j
 opn:st[os]?=some (.list (ay ss))
 nd:(j::rl::os::PJ).Nodup
 ap:∀x∈j::rl::os::PJ,¬cu t R lay x
section
variable {st Ps:MS}{j t R rl os:Nat}{lay:List cH}{PJ:List Nat}{d d':List Rw}{ss:List Nat}{r:Rw}{Q:MV->MS->Prop}
theorem Bs.lt (B:Bs st j t R rl os lay PJ d d' ss){x:Nat}(h:x∈j::rl::os::PJ):x < st.length:=by
 rcases bM h with rfl | h
 ·obtain⟨a,b,e,_⟩:=B.src; exact (bP e).1
 rcases bM h with rfl | h
 ·exact (bP B.lr.rows).1
 rcases bM h with rfl | h
 ·exact (bP B.opn).1
 ·obtain⟨k,hk⟩:=ahu.mp h
  exact (bP (B.lr.row k x hk)).1
theorem LR.keep (T:LR st rl PJ d){S:Nat->Prop}(K:Kp S st Ps)(h0:¬S rl)(h1:∀i∈PJ,¬S i):LR Ps rl PJ d where
 rows:=K.keep _ _ h0 T.rows
 len:=T.len
 row:=λk i h=>K.keep _ _ (h1 i (abh h)) (T.row k i h)
theorem dQ.keep (h:dQ st j){S:Nat->Prop}(K:Kp S st Ps)(h0:¬S j):dQ Ps j:=let ⟨a,b,e,r⟩:=h; ⟨a,b,K.keep _ _ h0 e,r⟩
theorem Bs.pre (B:Bs st j t R rl os lay PJ d d' ss)(hp:st <+: Ps):Bs Ps j t R rl os lay PJ d d' ss:=
 ⟨B.tr.mono hp,B.ly,B.lr.mono hp,B.src.pre hp,aA hp B.opn,B.nd,B.ap⟩
theorem Bs.ne (B:Bs st j t R rl os lay PJ d d' ss):j≠rl/\j≠os/\rl≠os/\j ∉ PJ/\rl ∉ PJ/\os ∉ PJ:=by
 have:=B.nd
 simp only [abV,aby,not_or] at this
 exact⟨this.1.1,this.1.2.1,this.2.1.1,this.1.2.2,this.2.1.2,this.2.2.1⟩
theorem Bs.ext (B:Bs st j t R rl os lay PJ d d' ss)(E:uQ j st Ps)(S:dQ Ps j):Bs Ps j t R rl os lay PJ d d' ss:=by
 refine bv λGG PD=>?_
 obtain⟨n1,n2,n3,n4,n5,n6⟩:=B.ne
 refine PD ?_
 exact⟨B.tr.frame B.ly E.kp λx hx=>by rw [hx]; exact B.ap j (.head _),B.ly,B.lr.keep E.kp (λq=>n1 q.symm) λi hi q=>n4 (q ▸ hi),S,E.keep _ _ (λq=>n2 q.symm) B.opn,B.nd,B.ap⟩
theorem Bs.grow (B:Bs st j t R rl os lay PJ d d' ss)(T:Tr Ps t R (lay++[dr st.length]) (d++[r]))(K:Kp (cu t R lay) st Ps):Bs Ps j t R rl os (lay++[dr st.length]) PJ (d++[r]) d' ss:=
 ⟨T,B.ly.snoc B.tr,B.lr.keep K (B.ap _ (by walk_at "m")) λi hi=>B.ap _ (by simp [hi]),B.src.keep K (B.ap _ (by walk_at "m")),K.keep _ _ (B.ap _ (by walk_at "m")) B.opn,B.nd,λx hx=>cu.snoc (B.ap x hx) (B.lt hx)⟩
theorem Bs.row (B:Bs st j t R rl os lay PJ d d' ss){row:List MV}(hr:row=eK d'.length r) :
  Bs (aiH (α:=MO) (st++[MO.list row]) rl (MO.list (PJ.map MV.ref++[.ref st.length]))) j t R rl os lay (PJ++[st.length]) d (d'++[r]) ss:=by
 refine bv λGG PD=>?_
 obtain⟨n1,n2,n3,n4,n5,n6⟩:=B.ne
 refine PD ?_
 have l1:=B.lt (x:=rl) (by walk_at "m")
 have lid:∀x∈PJ,x < st.length:=λx hx=>B.lt (by simp [hx])
 have K:Kp (·=rl) st (aiH (α:=MO) (st++[MO.list row]) rl (MO.list (PJ.map MV.ref++[.ref st.length]))):=(Kp.pre (aB _)).trans (.set rfl)
 have TL:∀x,cu t R lay x->x < st.length:=λx h=>B.tr.lt B.ly h
 refine⟨B.tr.frame B.ly K λx hx=>by rw [hx]; exact B.ap rl (by walk_at "m"),B.ly,⟨?_,by simp [B.lr.len],λk i h=>?_⟩,B.src.keep K n1,K.keep _ _ n3.symm B.opn,?_,?_⟩
 ·rw [abq (by simp; walk_at "o")]; simp
 ·by_cases hk:k < PJ.length
  ·rw [abl hk] at h
   have hm:=abh h
   rw [cI (by rw [<- B.lr.len]; exact hk)]
   exact K.keep _ _ (λq:i=rl=>n5 (q ▸ hm)) (B.lr.row k i h)
  ·have QA:=(bP h).1
   rw [aba,abo] at QA
   have:k=PJ.length:=by walk_at "o"
   subst this
   have:st.length=i:=by simpa using h
   subst this
   rw [abe (by walk_at "o"),B.lr.len,dF,hr]
   simp
 ·have lo:=B.lt (x:=os) (by walk_at "m")
  have lj:=B.lt (x:=j) (by walk_at "m")
  have SO:st.length ∉ PJ:=λq=>acg _ (lid _ q)
  have:=B.nd
  simp only [abV,aby,adT,not_or] at this ⊢
  refine⟨⟨this.1.1,this.1.2.1,this.1.2.2,?_,by simp⟩,⟨this.2.1.1,this.2.1.2,?_,by simp⟩,⟨this.2.2.1,?_,by simp⟩,?_⟩
  ·walk_at "o"
  ·walk_at "o"
  ·walk_at "o"
  ·rw [abO]
   exact⟨this.2.2.2,by simp,λa ha b hb e=>by rw [cr hb] at e; exact SO (e ▸ ha)⟩
 ·intro x hx
  by_cases hxn:x=st.length
  ·subst hxn; exact λq=>acg _ (TL _ q)
  ·refine B.ap x ?_
   simp only [aby,adT,abu,or_false] at hx ⊢
   rcases hx with h | h | h | h | h
   ·exact .inl h
   ·exact .inr (.inl h)
   ·exact .inr (.inr (.inl h))
   ·exact .inr (.inr (.inr h))
   ·exact absurd h hxn
theorem Bs.setOpen (B:Bs st j t R rl os lay PJ d d' ss){Q2:List Nat}:Bs (st.set os (.list (ay Q2))) j t R rl os lay PJ d d' Q2:=by
 refine bv λGG PD=>?_
 obtain⟨n1,n2,n3,n4,n5,n6⟩:=B.ne
 refine PD ?_
 have K:Kp (·=os) st (st.set os (.list (ay Q2))):=.set rfl
 exact⟨B.tr.frame B.ly K λx hx=>by rw [hx]; exact B.ap os (by walk_at "m"),B.ly,B.lr.keep K n3 λi hi q=>n6 (q ▸ hi),B.src.keep K n2,abq (B.lt (by walk_at "m")),B.nd,B.ap⟩
theorem vU {i:Nat}{xs:List MV}{x:MV}{n:Nat}(hi:st[i]?=some (.list xs))(hn:xs.length=n+1)(hx:xs[n]?=some x)(hl:xs.length < 2 ^ 62)(h:Q x st):aN [.ref i,.int (-1)] st Q:=by
 refine eI hi ⟨⟨by decide,by decide⟩,n,x,?_,hx,h⟩
 unfold afb
 simp only [hn]
 split <;> simp_all <;> walk_at "o"
end
section
variable {st Ps:MS}{j t R rl os:Nat}{lay:List cH}{PJ:List Nat}{d d':List Rw}{ss so:List Nat}{r:Rw}{Q:MV->MS->Prop}
def MH (st:MS)(j t R rl os:Nat)(d:List Rw)(so ss:List Nat)(n:Nat)(K:MS->Prop):Prop:=
 ∀Ps QV QW d',Bs Ps j t R rl os QV QW d' d' so->Gd d' ss->d'.length<=n->K Ps
theorem fk {k n:Nat}{rl:Nat}{PJ:List Nat}{j:Int}{d:List Rw}{V:MV}(T:LR st rl PJ d)(small:d.length<=200)(hk:k < d.length)(hj:j=(n:Int))(hV:(eK k (aL d k))[n]?=some V){K:MV->MS->Prop}(hK:∀W Pt,K W Pt=aN [W,.int j] Pt Q)(h:Q V st):aN [.ref rl,.int (k:Int)] st K:=by
 have:K=λW Pt=>aN [W,.int j] Pt Q:=by funext W Pt; exact hK W Pt
 rw [this]
 exact t8 T small hk hj hV h
theorem ka (B:Bs st j t R rl os lay PJ d d' ss)(hs:d'.length < 200){row:List MV}(hr:row=eK d'.length r)
  (h:∀Ps,Bs Ps j t R rl os lay (PJ++[st.length]) d (d'++[r]) ss->Q .none Ps):bx [.ref rl,.ref st.length] (st++[.list row]) Q:=by
 refine dG (xs:=PJ.map MV.ref) (aA (aB _) B.lr.rows) ?_ (h _ (B.row hr))
 rw [abd,B.lr.len]
 exact aaj (by walk_at "o") (by decide:1000<=abA)
theorem pp {xs:List Str}{n:Nat}{x:MV}(h:(xs.map MV.str)[n]?=some x):∃v,x=.str v/\v∈xs:=by
 obtain⟨v,hv,rfl⟩:=c8 (abh h)
 exact⟨v,rfl,hv⟩
theorem Et {a b c e:MV}{v9 Sb Rj:Option MV}{p:Nat}(B:Bs st j t R rl os lay PJ d d so)(G:Gd d ss)(hn:d.length < 200)(hp:p∈ss)(RZ:∀x∈ss,x<=p)(he:(aL d p).kind=("element":Str))
  (hat:∀k∈cY d p,(aL d k).loc≠("lang":Str))
  (h:MH st j t R rl os d so ss (d.length+1) (Q (.int (p:Int)))) :
  (aj (bW (bT (ar bN (aF cy (ad (af 0) (ad (tK (.int 2)) ak))) (tK (.int 0)))) (aj (c9 [10,9] (bl (ad (aF cx (ad (af 0) (ad (be (ad (tK (.str ("en":Str))) (ad (tK (.str ("EN-us":Str))) (ad (tK (.str ("fr":Str))) (ad (tK (.str ("enx":Str))) ak))))) ak))) (ad (tK (.str ("http://www.w3.org/XML/1998/namespace":Str))) ak))))
 (aj (aX 11 (bf 524 b0 (af 1) (ad (af 8) (ad (tK (.str ("xml:lang":Str))) (ad (af 10) (ad (tK (.str ("lang":Str))) (ad (af 9) ak)))))))
 (aj (bY (cq .list bx (af 2) (ad (be (ad (af 11) (ad (tK (.str ("attribute":Str))) (ad (tK (.str ("xml:lang":Str))) (ad (tK (.str ("lang":Str))) (ad (af 10) (ad (af 9) (ad (af 7) ak)))))))) ak)))
 az))) az)
 (aj (aS (af 7))
 az)) [some (.ref j),some (.ref t),some (.ref rl),some a,some b,some c,some e,some (.int (p:Int)),some (.int (p:Int)),v9,Sb,Rj] st (fi Q):=by
 walk_at "w"
 refine d8 (top:=2) (by decide) (by decide) B.src λst1 x hx E S=>?_
 have B1:=B.ext E S
 walk_at "w"
 refine bH (λ_=>?_) λ_=>?_
 ·walk_at "w"
  refine fG (j:=j) (aH _) (by have:=B1.lt (x:=j) (by walk_at "m"); walk_at "o") (by walk_at "m") (by walk_at "m") (B1.src.pre (aB _)) λP1 n x hx E2 S2=>?_
  obtain⟨v,rfl,hv⟩:=pp (xs:=["en","EN-us","fr","enx"]) hx
  have B2:=(B1.pre (aB _)).ext E2 S2
  walk_at "w"
  refine eF rfl ?_
  walk_at "w"
  refine bK (bj B2.tr) ?_
  walk_at "w"
  refine j5 B2.tr B2.ly (G.wsnoc (r:=⟨"attribute","xml:lang","lang","http://www.w3.org/XML/1998/namespace",v,some p⟩) rfl hp) hn he (λk hk q=>hat k hk q.2) λQb T3 K3=>?_
  have B3:=B2.grow T3 K3
  have G3:=G.snoc (.lang hv) rfl hp RZ
  walk_at "w"
  refine d6 (B3.lr.rows) ?_
  walk_at "w"
  refine ka B3 hn (r:=⟨"attribute","xml:lang","lang","http://www.w3.org/XML/1998/namespace",v,some p⟩) rfl λRL B4=>?_
  walk_at "w"
  exact h _ _ _ _ B4 G3 (by walk_at "m")
 ·walk_at "w"
  exact h _ _ _ _ B1 G (by walk_at "o")
theorem oO:∀(xs:List Str){v:Str}{n:Nat},v∈xs->(xs.all λx=>decide (x.length<=n))=true->v.length<=n:=λxs v n h e=>by
 rw [abQ] at e
 exact of_decide_eq_true (e v h)
theorem dI.vlen {r:Rw}(h:dI r):r.val.length<=5:=by
 cases h with
 | root=>decide +kernel
 | elm h=>show ("":Str).length<=5; decide +kernel
 | num h=>exact oO _ h (by decide +kernel)
 | lang h=>exact oO _ h (by decide +kernel)
 | text h=>exact oO _ h (by decide +kernel)
 | comm h=>exact oO _ h (by decide +kernel)
theorem dI.kok {r:Rw}(h:dI r):ab4 r.kind=true:=by
 cases h with
 | root=>decide +kernel
 | elm h=>show ab4 ("element":Str)=true; decide +kernel
 | num h=>show ab4 ("attribute":Str)=true; decide +kernel
 | lang h=>show ab4 ("attribute":Str)=true; decide +kernel
 | text h=>show ab4 ("text":Str)=true; decide +kernel
 | comm h=>show ab4 ("comment":Str)=true; decide +kernel
theorem Gd.short (G:Gd d ss):h7 d:=⟨λk hk=>aaj (G.ok k hk).vlen (by decide),λk hk=>(G.ok k hk).kok⟩
theorem Io (W:Wf d){u:Str}{nm lc:Str}{p:Nat}:cY (d++[⟨"element",nm,lc,u,"",some p⟩]) d.length=[]:=by
 rw [nM,KW W (abp _)]
 have:("element":Str)≠cw:=by decide +kernel
 simp [this]
theorem Mr {a b c e:MV}{v9 Sb Rj:Option MV}{p:Nat}(B:Bs st j t R rl os lay PJ d d so)(G:Gd d ss)(hn:d.length < 199)(hp:p∈ss)(RZ:∀x∈ss,x<=p)(he:(aL d p).kind=("element":Str))
  (hat:cY d p=[])
  (h:MH st j t R rl os d so ss (d.length+2) (Q (.int (p:Int)))) :
  (aj (bW (bT (ar bN (aF cy (ad (af 0) (ad (tK (.int 2)) ak))) (tK (.int 0)))) (aj (aX 9 (aF cx (ad (af 0) (ad (be (ad (tK (.str ("1":Str))) (ad (tK (.str ("2.5":Str))) (ad (tK (.str ("x":Str))) ak)))) ak))))
 (aj (bY (cq .list bx (af 2) (ad (be (ad (bf 524 b0 (af 1) (ad (af 8) (ad (tK (.str ("n":Str))) (ad (tK (.str ("":Str))) (ad (tK (.str ("n":Str))) (ad (af 9) ak)))))) (ad (tK (.str ("attribute":Str))) (ad (tK (.str ("n":Str))) (ad (tK (.str ("n":Str))) (ad (tK (.str ("":Str))) (ad (af 9) (ad (af 7) ak)))))))) ak)))
 az)) az)
 (aj (bW (bT (ar bN (aF cy (ad (af 0) (ad (tK (.int 2)) ak))) (tK (.int 0)))) (aj (c9 [10,9] (bl (ad (aF cx (ad (af 0) (ad (be (ad (tK (.str ("en":Str))) (ad (tK (.str ("EN-us":Str))) (ad (tK (.str ("fr":Str))) (ad (tK (.str ("enx":Str))) ak))))) ak))) (ad (tK (.str ("http://www.w3.org/XML/1998/namespace":Str))) ak))))
 (aj (aX 11 (bf 524 b0 (af 1) (ad (af 8) (ad (tK (.str ("xml:lang":Str))) (ad (af 10) (ad (tK (.str ("lang":Str))) (ad (af 9) ak)))))))
 (aj (bY (cq .list bx (af 2) (ad (be (ad (af 11) (ad (tK (.str ("attribute":Str))) (ad (tK (.str ("xml:lang":Str))) (ad (tK (.str ("lang":Str))) (ad (af 10) (ad (af 9) (ad (af 7) ak)))))))) ak)))
 az))) az)
 (aj (aS (af 7))
 az))) [some (.ref j),some (.ref t),some (.ref rl),some a,some b,some c,some e,some (.int (p:Int)),some (.int (p:Int)),v9,Sb,Rj] st (fi Q):=by
 walk_at "w"
 refine d8 (top:=2) (by decide) (by decide) B.src λst1 x hx E S=>?_
 have B1:=B.ext E S
 walk_at "w"
 refine bH (λ_=>?_) λ_=>?_
 ·walk_at "w"
  refine fG (j:=j) (aH _) (by have:=B1.lt (x:=j) (by walk_at "m"); walk_at "o") (by walk_at "m") (by walk_at "m") (B1.src.pre (aB _)) λP1 n x hx E2 S2=>?_
  obtain⟨v,rfl,hv⟩:=pp (xs:=["1","2.5","x"]) hx
  have B2:=(B1.pre (aB _)).ext E2 S2
  walk_at "w"
  refine d6 (B2.lr.rows) ?_
  walk_at "w"
  refine bK (bj B2.tr) ?_
  walk_at "w"
  refine j5 B2.tr B2.ly (G.wsnoc (r:=⟨"attribute","n","n","",v,some p⟩) rfl hp) (by walk_at "o") he (λk hk q=>by rw [hat] at hk; cases hk) λQb T3 K3=>?_
  have B3:=B2.grow T3 K3
  have G3:=G.snoc (.num hv) rfl hp RZ
  walk_at "w"
  refine ka B3 (by walk_at "o") (r:=⟨"attribute","n","n","",v,some p⟩) rfl λRL B4=>?_
  walk_at "w"
  refine Et B4 G3 (by simp; walk_at "o") hp RZ (by rw [cI (G.lt hp)]; exact he) (λk hk=>?_) λPs QV QW d' B' G' hl=>h Ps QV QW d' B' G' (by simp at hl; walk_at "o")
  ·rw [nM,hat] at hk
   have:k=d.length:=by simpa using hk
   subst this
   rw [dF]
   show ("n":Str)≠("lang":Str)
   decide +kernel
 ·walk_at "w"
  exact Et B1 G (by walk_at "o") hp RZ he (λk hk=>by rw [hat] at hk; cases hk) λPs QV QW d' B' G' hl=>h Ps QV QW d' B' G' (by walk_at "o")
theorem Ag {p:Nat}(B:Bs st j t R rl os lay PJ d d ss)(G:Gd d ss)(hn:d.length < 198)(hp:p∈ss)(RZ:∀x∈ss,x<=p)
  (h:MH st j t R rl os d ss (ss++[d.length]) (d.length+3) (Q (.int (d.length:Int)))) :
  gN [.ref j,.ref t,.ref rl,.int (p:Int)] st Q:=by
 refine cE rfl ?_
 walk_at "w"
 refine fG (j:=j) (aH _) (by have:=B.lt (x:=j) (by walk_at "m"); walk_at "o") (by walk_at "m") (by walk_at "m") (B.src.pre (aB _)) λP1 n x hx E2 S2=>?_
 have B2:=(B.pre (aB _)).ext E2 S2
 refine bv λGG PD=>?_
 obtain⟨nm,lc,u,rfl,hm⟩:∃nm lc u:Str,x=.tup [.str nm,.str lc,.str u]/\(nm,lc,u)∈([("a","a",""),("b","b",""),("p:a","a","urn:p")]:List (Str×Str×Str)):=by
  have:=abh hx
  simp only [aby,abu,or_false] at this
  rcases this with rfl | rfl | rfl
  ·exact⟨_,_,_,rfl,by simp⟩
  ·exact⟨_,_,_,rfl,by simp⟩
  ·exact⟨_,_,_,rfl,by simp⟩
 refine PD ?_
 refine HI rfl ?_
 walk_at "w"
 refine d6 (B2.lr.rows) ?_
 walk_at "w"
 refine bK (bj B2.tr) ?_
 walk_at "w"
 refine fk (n:=0) B2.lr B2.tr.small (G.lt hp) rfl rfl (λW Pt=>rfl) ?_
 walk_at "w"
 have hw:=G.wsnoc (r:=⟨"element",nm,lc,u,"",some p⟩) rfl hp
 refine l6 B2.tr B2.ly hw (by walk_at "o") λQb T3 K3=>?_
 have B3:=B2.grow T3 K3
 have G3:=(G.snoc (r:=⟨"element",nm,lc,u,"",some p⟩) (.elm hm) rfl hp RZ).open rfl λx hx=>G.lt hx
 walk_at "w"
 refine ka B3 (by walk_at "o") (r:=⟨"element",nm,lc,u,"",some p⟩) rfl λRL B4=>?_
 walk_at "w"
 have PL:((PJ++[Qb.length]).map MV.ref).length=d.length+1:=by simp [B.lr.len]
 refine gu B4.lr.rows (by rw [PL]; walk_at "o") ?_
 walk_at "w"
 refine ck trivial ?_
 have e1:(((PJ++[Qb.length]).map MV.ref).length:Int) - 1=(d.length:Int):=by rw [PL]; walk_at "o"
 rw [e1]
 walk_at "w"
 refine vU B4.lr.rows PL (x:=.ref Qb.length) (by simp [<- B.lr.len]) (by rw [PL]; walk_at "o") ?_
 walk_at "w"
 refine bI (n:=0) (B4.lr.row d.length Qb.length (by simp [<- B.lr.len])) rfl rfl (by simp [eK]) ?_
 refine eF rfl ?_
 walk_at "w"
 refine Mr B4 G3 (by simp; walk_at "o") (by walk_at "m") (λx hx=>?_) (by rw [dF]) (Io G.wf) λPs QV QW d' B' G' hl=>h Ps QV QW d' B' G' (by simp at hl; walk_at "o")
 rcases dW hx with hx | hx
 ·exact adi (G.lt hx)
 ·rw [cr hx]; exact abp _
end
section
variable {st Ps:MS}{j t R rl os:Nat}{lay:List cH}{PJ:List Nat}{d d':List Rw}{ss so:List Nat}{r:Rw}{Q:MV->MS->Prop}{F:MF->aG->MS->Prop}
theorem dS {p:Prop} [Decidable p] {a b:TE}{ρ:aG}(h1:p->a ρ st Q)(h2:¬p->b ρ st Q):BP a b ρ Q (decide p) st:=by
 unfold BP
 by_cases h:p
 ·rw [decide_eq_true h]; exact h1 h
 ·rw [decide_eq_false h]; exact h2 h
def gv (d:List Rw):Prop:=∃k,k < d.length/\(aL d k).kind=("element":Str)
theorem gv.snoc (h:gv d):gv (d++[r]):=let ⟨k,h1,h2⟩:=h; ⟨k,by simp; walk_at "o",by rw [cI h1]; exact h2⟩
theorem Gd.elOf (G:Gd d ss){x:Nat}(h:x∈ss)(h0:0 < x):(aL d x).kind=("element":Str):=by
 rcases G.el x h with e | e
 ·exfalso
  have hx:=G.lt h
  have W0:=G.ok x hx
  have hp:=nA hx
  have:∀r:Rw,dI r->r.kind=("root":Str)->r.par=none:=by
   intro r h e
   cases h with
   | root=>rfl
   | elm _=>exact absurd e (show ("element":Str)≠("root":Str) by decide +kernel)
   | num _=>exact absurd e (show ("attribute":Str)≠("root":Str) by decide +kernel)
   | lang _=>exact absurd e (show ("attribute":Str)≠("root":Str) by decide +kernel)
   | text _=>exact absurd e (show ("text":Str)≠("root":Str) by decide +kernel)
   | comm _=>exact absurd e (show ("comment":Str)≠("root":Str) by decide +kernel)
  rw [this _ W0 e] at hp
  have:=G.tp x hx hp
  walk_at "o"
 ·exact e
theorem EW {l:List Nat}(h:0 < l.length):∃s p,l=s++[p]:=⟨l.dropLast,l.getLast (List.ne_nil_of_length_pos h),(List.dropLast_concat_getLast _).symm⟩
theorem yL {l:List Nat}{n:Nat}(h1:l.Pairwise (· < ·))(h2:∀x∈l,x < n):l.length<=n:=by
 have nd:l.Nodup:=h1.imp λh=>abc h
 have:=nd.length_le_of_subset (l₂:=ab7 n) λx hx=>abW.mpr (h2 x hx)
 rwa [afK] at this
theorem I4 {s:List Nat}{p:Nat}(h:(s++[p]).Pairwise (· < ·)):∀x∈s++[p],x<=p:=λx hx=>by
 rw [af8] at h
 rcases dW hx with q | q
 ·exact adi (h.2.2 x q p (by walk_at "m"))
 ·rw [cr q]; exact abp _
theorem EF {w:Nat}{v4 v6 v7 v8:Option MV}(B:Bs st j t R rl os lay PJ d d ss)(G:Gd d ss)(hn:d.length < 197)(hs:0 < ss.length)(hw:w < 5)(hE:gv d\/w=0)
  (h:∀Ps QV QW d' Q2 a4 a5 a6 a7 a8,Bs Ps j t R rl os QV QW d' d' Q2->Gd d' Q2->d'.length<=d.length+3->0 < Q2.length->gv d'->F .next [some (.ref j),some (.ref t),some (.ref rl),some (.ref os),a4,a5,a6,a7,a8] Ps) :
  (aj (bW (bT (ar (bw λa b=>decide (a < b)) (af 5) (tK (.int 3)))) (aj (bY (cq .list bx (af 3) (ad (aF gN (ad (af 0) (ad (af 1) (ad (af 2) (ad (ar aN (af 3) (io fP (tK (.int 1)))) ak))))) ak)))
 az) (aj (c9 [7,6] (bl (ad (aF cx (ad (af 0) (ad (be (ad (tK (.str ("1":Str))) (ad (tK (.str (" 3 ":Str))) (ad (tK (.str ("-1":Str))) (ad (tK (.str ("b a":Str))) (ad (tK (.str ("q":Str))) ak)))))) ak))) (ad (ar aN (af 3) (io fP (tK (.int 1)))) ak))))
 (aj (aX 8 (fg (bT (ar bN (af 5) (tK (.int 3)))) (bf 524 fF (af 1) (ad (ar aN (ar aN (af 2) (af 7)) (tK (.int 0))) (ad (af 6) ak))) (bf 524 eh (af 1) (ad (ar aN (ar aN (af 2) (af 7)) (tK (.int 0))) (ad (af 6) ak)))))
 (aj (bY (cq .list bx (af 2) (ad (be (ad (af 8) (ad (ar aN (be (ad (tK (.str ("text":Str))) (ad (tK (.str ("comment":Str))) ak))) (ar (bh (· - ·) l9) (af 5) (tK (.int 3)))) (ad (tK (.str ("":Str))) (ad (tK (.str ("":Str))) (ad (tK (.str ("":Str))) (ad (af 6) (ad (af 7) ak)))))))) ak)))
 az))))
 az) [some (.ref j),some (.ref t),some (.ref rl),some (.ref os),v4,some (.int (w:Int)),v6,v7,v8] st F:=by
 obtain⟨s,p,rfl⟩:=EW hs
 have RZ:=I4 G.asc
 have PL:(ay (s++[p])).length=s.length+1:=by simp [ay]
 have Z9:(ay (s++[p]))[s.length]?=some (.int (p:Int)):=by simp [ay]
 have Wg:s.length+1<=d.length:=by
  have:=yL G.asc λx hx=>G.lt hx
  rwa [aba,abo] at this
 walk_at "w"
 refine bH (λPR=>?_) λRt=>?_
 ·walk_at "w"
  refine d6 (B.opn) ?_
  walk_at "w"
  refine vU B.opn PL Z9 (by rw [PL]; walk_at "o") ?_
  walk_at "w"
  refine Ag B G (by walk_at "o") (by walk_at "m") RZ λPs QV QW d' B' G' hl=>?_
  walk_at "w"
  refine dG B'.opn (by rw [PL]; exact aaj (by walk_at "o") (by decide:1000<=abA)) ?_
  rw [jA]
  walk_at "w"
  exact h _ _ _ _ _ _ _ _ _ _ B'.setOpen G' hl (by walk_at "m") ⟨d.length,G'.lt (by walk_at "m"),G'.elOf (by walk_at "m") G.ne⟩
 ·replace hE:gv d:=hE.resolve_right λq=>Rt (by subst q; decide)
  walk_at "w"
  refine fG (j:=j) (aH _) (by have:=B.lt (x:=j) (by walk_at "m"); walk_at "o") (by walk_at "m") (by walk_at "m") (B.src.pre (aB _)) λP1 n x hx E2 S2=>?_
  obtain⟨v,rfl,hv⟩:=pp (xs:=["1"," 3 ","-1","b a","q"]) hx
  have B2:=(B.pre (aB _)).ext E2 S2
  walk_at "w"
  refine vU B2.opn PL Z9 (by rw [PL]; walk_at "o") ?_
  walk_at "w"
  refine eF rfl ?_
  have S7:p < d.length:=G.lt (by walk_at "m")
  obtain rfl | rfl:w=3\/w=4:=by walk_at "o"
  ·walk_at "w"
   refine dS (λ_=>?_) λq=>absurd rfl q
   walk_at "w"
   refine bK (bj B2.tr) ?_
   walk_at "w"
   refine fk (n:=0) B2.lr B2.tr.small S7 rfl rfl (λW Pt=>rfl) ?_
   walk_at "w"
   refine FE B2.tr B2.ly (G.wsnoc (r:=⟨"text","","","",v,some p⟩) rfl (by walk_at "m")) (by walk_at "o") λQb T3 K3=>?_
   have B3:=B2.grow T3 K3
   have G3:=G.snoc (r:=⟨"text","","","",v,some p⟩) (.text hv) rfl (by walk_at "m") RZ
   walk_at "w"
   refine d6 (B3.lr.rows) ?_
   walk_at "w"
   refine ck trivial ?_
   refine bI (n:=0) (x:=.str "text") (aH _) rfl rfl (by walk_at "m") ?_
   walk_at "w"
   refine ka (B3.pre (aB _)) (by walk_at "o") (r:=⟨"text","","","",v,some p⟩) rfl λRL B4=>?_
   walk_at "w"
   exact h _ _ _ _ _ _ _ _ _ _ B4 G3 (by walk_at "m") (by walk_at "m") hE.snoc
  ·walk_at "w"
   refine dS (λq=>absurd q (by decide)) λq=>?_
   walk_at "w"
   refine bK (bj B2.tr) ?_
   walk_at "w"
   refine fk (n:=0) B2.lr B2.tr.small S7 rfl rfl (λW Pt=>rfl) ?_
   walk_at "w"
   refine Al B2.tr B2.ly (G.wsnoc (r:=⟨"comment","","","",v,some p⟩) rfl (by walk_at "m")) (by walk_at "o") λQb T3 K3=>?_
   have B3:=B2.grow T3 K3
   have G3:=G.snoc (r:=⟨"comment","","","",v,some p⟩) (.comm hv) rfl (by walk_at "m") RZ
   walk_at "w"
   refine d6 (B3.lr.rows) ?_
   walk_at "w"
   refine ck trivial ?_
   refine bI (n:=1) (x:=.str "comment") (aH _) rfl rfl (by walk_at "m") ?_
   walk_at "w"
   refine ka (B3.pre (aB _)) (by walk_at "o") (r:=⟨"comment","","","",v,some p⟩) rfl λRL B4=>?_
   walk_at "w"
   exact h _ _ _ _ _ _ _ _ _ _ B4 G3 (by walk_at "m") (by walk_at "m") hE.snoc
theorem Bk {v4 v5 v6 v7 v8:Option MV}(B:Bs st j t R rl os lay PJ d d ss)(G:Gd d ss)(hn:d.length < 197)(hs:0 < ss.length)(hE:gv d\/ss.length<=1)
  (h:∀Ps QV QW d' Q2 a4 a5 a6 a7 a8,Bs Ps j t R rl os QV QW d' d' Q2->Gd d' Q2->d'.length<=d.length+3->0 < Q2.length->gv d'->F .next [some (.ref j),some (.ref t),some (.ref rl),some (.ref os),a4,a5,a6,a7,a8] Ps) :
  (aj (aX 5 (fg (bT (ar (bw λa b=>decide (a > b)) (aF dP (ad (af 3) ak)) (tK (.int 1)))) (aF cy (ad (af 0) (ad (tK (.int 5)) ak))) (tK (.int 0))))
 (aj (bW (bT (ar (bw λa b=>decide (a < b)) (af 5) (tK (.int 3)))) (aj (bY (cq .list bx (af 3) (ad (aF gN (ad (af 0) (ad (af 1) (ad (af 2) (ad (ar aN (af 3) (io fP (tK (.int 1)))) ak))))) ak)))
 az) (aj (c9 [7,6] (bl (ad (aF cx (ad (af 0) (ad (be (ad (tK (.str ("1":Str))) (ad (tK (.str (" 3 ":Str))) (ad (tK (.str ("-1":Str))) (ad (tK (.str ("b a":Str))) (ad (tK (.str ("q":Str))) ak)))))) ak))) (ad (ar aN (af 3) (io fP (tK (.int 1)))) ak))))
 (aj (aX 8 (fg (bT (ar bN (af 5) (tK (.int 3)))) (bf 524 fF (af 1) (ad (ar aN (ar aN (af 2) (af 7)) (tK (.int 0))) (ad (af 6) ak))) (bf 524 eh (af 1) (ad (ar aN (ar aN (af 2) (af 7)) (tK (.int 0))) (ad (af 6) ak)))))
 (aj (bY (cq .list bx (af 2) (ad (be (ad (af 8) (ad (ar aN (be (ad (tK (.str ("text":Str))) (ad (tK (.str ("comment":Str))) ak))) (ar (bh (· - ·) l9) (af 5) (tK (.int 3)))) (ad (tK (.str ("":Str))) (ad (tK (.str ("":Str))) (ad (tK (.str ("":Str))) (ad (af 6) (ad (af 7) ak)))))))) ak)))
 az))))
 az)) [some (.ref j),some (.ref t),some (.ref rl),some (.ref os),v4,v5,v6,v7,v8] st F:=by
 have Wg:ss.length<=d.length:=yL G.asc λx hx=>G.lt hx
 walk_at "w"
 refine gu B.opn (by rw [bb]; walk_at "o") ?_
 rw [bb]
 walk_at "w"
 refine dS (λPR=>?_) λRt=>?_
 ·walk_at "w"
  refine d8 (top:=5) (by decide) (by decide) B.src λst1 x hx E S=>?_
  have B1:=B.ext E S
  walk_at "w"
  exact EF B1 G hn hs hx (.inl (hE.resolve_right λq=>by walk_at "o")) h
 ·walk_at "w"
  exact EF (w:=0) B G hn hs (by decide) (.inr rfl) h
theorem KU {v4 v5 v6 v7 v8:Option MV}(B:Bs st j t R rl os lay PJ d d ss)(G:Gd d ss)(hn:d.length < 197)(hs:0 < ss.length)(hE:gv d\/ss.length<=1)
  (h:∀Ps QV QW d' Q2 a4 a5 a6 a7 a8,Bs Ps j t R rl os QV QW d' d' Q2->Gd d' Q2->d'.length<=d.length+3->0 < Q2.length->gv d'->F .next [some (.ref j),some (.ref t),some (.ref rl),some (.ref os),a4,a5,a6,a7,a8] Ps) :
  lT [some (.ref j),some (.ref t),some (.ref rl),some (.ref os),v4,v5,v6,v7,v8] st F:=by
 have Wg:ss.length<=d.length:=yL G.asc λx hx=>G.lt hx
 walk_at "w"
 refine gu B.opn (by rw [bb]; walk_at "o") ?_
 rw [bb]
 walk_at "w"
 refine dJ (λPR=>?_) λRt=>?_
 ·walk_at "w"
  refine d8 (top:=3) (by decide) (by decide) B.src λst1 x hx E S=>?_
  have B1:=B.ext E S
  walk_at "w"
  refine dJ (λhz=>?_) λhz=>?_
  ·walk_at "w"
   obtain⟨s,p,rfl⟩:=EW hs
   refine d6 (B1.opn) ?_
   walk_at "w"
   refine Ez (xs:=ay s) (V:=.int (p:Int)) (by rw [jA]; exact B1.opn) ?_ ?_
   ·rw [bb]; simp at Wg; exact abG (by walk_at "o":s.length < 1000) (by decide)
   walk_at "w"
   simp only [aba,abo] at PR
   exact Bk B1.setOpen (G.sub (List.sublist_append_left s [p])) hn (by walk_at "o") (.inl (hE.resolve_right λq=>by simp only [aba,abo] at q; walk_at "o")) h
  ·walk_at "w"
   exact Bk B1 G hn hs hE h
 ·walk_at "w"
  exact Bk B G hn hs hE h
theorem LU:∀(n:Nat)(xs:List MV)(st:MS)(lay:List cH)(PJ:List Nat)(d:List Rw)(ss:List Nat)(v4 v5 v6 v7 v8:Option MV),xs.length=n->Bs st j t R rl os lay PJ d d ss->Gd d ss->d.length+3 * n < 197->0 < ss.length->(gv d\/ss.length<=1/\0 < n) ->
  (∀Ps QV QW d' Q2 a4 a5 a6 a7 a8,Bs Ps j t R rl os QV QW d' d' Q2->Gd d' Q2->d'.length<=d.length+3 * n->gv d'->F .next [some (.ref j),some (.ref t),some (.ref rl),some (.ref os),a4,a5,a6,a7,a8] Ps) ->
  ew (λ_=>True) (b8 4) lT xs [some (.ref j),some (.ref t),some (.ref rl),some (.ref os),v4,v5,v6,v7,v8] st F:=by
 intro n xs
 induction xs generalizing n with
 | nil=>intro st lay PJ d ss v4 v5 v6 v7 v8 hx B G hn hs hE h; exact⟨trivial,h _ _ _ _ _ _ _ _ _ _ B G (by walk_at "o") (hE.resolve_right λq=>by simp at hx; walk_at "o")⟩
 | cons x xs ih =>
  intro st lay PJ d ss v4 v5 v6 v7 v8 hx B G hn hs hE h
  obtain⟨m,rfl⟩:∃m,n=m+1:=⟨xs.length,by simpa using hx.symm⟩
  refine cT trivial ?_
  refine KU B G (by walk_at "o") hs (hE.imp id λq=>q.1) λPs QV QW d' Q2 a4 a5 a6 a7 a8 B' G' hl UK hE'=>?_
  walk_at "w"
  exact ih m Ps QV QW d' Q2 _ _ _ _ _ (by simpa using hx) B' G' (by walk_at "o") UK (.inl hE') λPT ae6 ae2 d'' afa a4 a5 a6 a7 a8 B'' G'' Ta acv=>h _ _ _ _ _ _ _ _ _ _ B'' G'' (by walk_at "o") acv
end
structure Dc (st:MS)(j t R rl:Nat)(lay:List cH)(PJ:List Nat)(d:List Rw):Prop where
 bs:∃os ss,Bs st j t R rl os lay PJ d d ss/\Gd d ss
 el:gv d
 le:d.length<=19
theorem E0:Gd [⟨"root","","","","",none⟩] [0] where
 wf:=BL.snoc (d:=[]) (r:=⟨"root","","","","",none⟩) λp e=>by cases e
 tp:=λk hk _=>by simp at hk; exact hk
 ok:=λk hk=>by
  have:k=0:=by simp at hk; exact hk
  subst this
  exact .root
 ne:=by simp
 asc:=by simp
 on:=λx hx=>by rw [cr hx]; exact dN (BL.snoc (d:=[]) (r:=⟨"root","","","","",none⟩) λp e=>by cases e) 0
 el:=λx hx=>by rw [cr hx]; exact .inl rfl
theorem Gw {st:MS}{j t R:Nat}{Q:MV->MS->Prop}(S:dQ st j)(T:Tr st t R [] [])(Y:Ly t R [])(hj:¬cu t R [] j)
  (h:∀Ps rl lay PJ d,Dc Ps j t R rl lay PJ d->Q (.ref rl) Ps):qb [.ref j,.ref t] st Q:=by
 refine cE rfl ?_
 walk_at "w"
 refine bK (bj T) ?_
 walk_at "w"
 refine qG T Y E0.wf (by walk_at "m") λst1 T1 K1=>?_
 walk_at "w"
 refine eF rfl ?_
 walk_at "w"
 have l1:st.length<=st1.length:=K1.len
 have lj:j < st.length:=by obtain⟨a,b,e,_⟩:=S; exact (bP e).1
 have own1:∀x,x=j\/st1.length<=x->¬cu t R [dr st.length] x:=by
  intro x hx
  have hxx:¬cu t R ([]++[dr st.length]) x:=by
   rcases hx with rfl | hx
   ·exact cu.snoc hj lj
   ·intro q
    have:=T1.lt (Y.snoc T) q
    walk_at "o"
  exact hxx
 have T4:=((T1.mono (aB (.list [.int 0,.str "root",.str "",.str "",.str "",.str "",.none]))).mono (aB (.list [.ref st1.length]))).mono (aB (.list [.int 0]))
 have S4:=(((S.keep K1 hj).pre (aB (.list [.int 0,.str "root",.str "",.str "",.str "",.str "",.none]))).pre (aB (.list [.ref st1.length]))).pre (aB (.list [.int 0]))
 have B:Bs (st1++[.list [.int 0,.str "root",.str "",.str "",.str "",.str "",.none]]++[.list [.ref st1.length]]++[.list [.int 0]]) j t R (st1.length+1) (st1.length+2) [dr st.length] [st1.length] [⟨"root","","","","",none⟩] [⟨"root","","","","",none⟩] [0]:=by
  refine⟨T4,Y.snoc T,⟨?_,rfl,λk i h=>?_⟩,S4,?_,?_,λx hx=>own1 x ?_⟩
  ·simp
  ·have hk:=(bP h).1
   have:k=0:=by simpa using hk
   subst this
   have:st1.length=i:=by simpa using h
   subst this
   simp [eK,aL,kF]
  ·simp [ay]
  ·simp; walk_at "o"
  ·simp only [aby,abu,or_false] at hx
   walk_at "o"
 have e1:(st1++[MO.list [.int 0,.str "root",.str "",.str "",.str "",.str "",.none]]).length=st1.length+1:=by simp
 have e2:(st1++[MO.list [.int 0,.str "root",.str "",.str "",.str "",.str "",.none]]++[MO.list [.ref st1.length]]).length=st1.length+2:=by simp
 refine d8 (top:=4) (by decide) (by decide) S4 λRl x hx E5 S5=>?_
 have B5:=B.ext E5 S5
 walk_at "w"
 refine abf (by walk_at "o") (abf (by walk_at "o") ?_)
 simp only [aba,abo]
 refine LU (3+x) _ _ _ _ _ _ _ _ _ _ _ (by simp [ow]; walk_at "o") B5 E0 (by simp; walk_at "o") (by walk_at "m") (.inr ⟨by simp,by walk_at "o"⟩) λPs QV QW d' Q2 a4 a5 a6 a7 a8 B' G' hl hE=>?_
 walk_at "w"
 exact h _ _ _ _ _ ⟨⟨_,_,B',G'⟩,hE,by simp at hl; walk_at "o"⟩
noncomputable abbrev eD:Str:=("xml:lang":Str)
noncomputable def fH (d:List Rw)(p:Nat):Option Nat:=
 if (aL d p).kind=("element":Str) then (ab7 d.length).find? λk=>decide ((aL d k).name=eD) && decide (aT d k=some p) else none
noncomputable def lang (d:List Rw)(k:Nat):Option Nat:=(line d k).findSome? (fH d)
noncomputable def Fl (d:List Rw)(k:Nat):MV:=match lang d k with | some a=>.str (aL d a).val | none=>.none
noncomputable def xk (d:List Rw)(k:Nat):MF:=match lang d k with | some a=>.ret (.str (aL d a).val) | none=>.next
theorem FU {f g:Nat->Bool}:∀(l:List Nat),(∀x∈l,f x=g x)->l.find? f=l.find? g:=by
 intro l
 induction l with
 | nil =>
  intro _
  exact rfl
 | cons x l ih =>
  intro h
  rw [adV,adV,h x (.head _),ih λy hy=>h y (.tail _ hy)]
section
variable {st Ps:MS}{t R:Nat}{lay:List cH}{d:List Rw}{k p:Nat}{r:Rw}{l:cH}{xs:List MV}{fs:List (Str×MV)}{Q:MV->MS->Prop}
theorem dI.lang_attr {r:Rw}(h:dI r)(e:r.name=eD):r.kind=cw/\r.val∈(["en","EN-us","fr","enx"]:List Str):=by
 cases h with
 | root=>exact absurd e (by decide +kernel)
 | elm h =>
  exfalso
  simp only [aby,Prod.mk.injEq,abu,or_false] at h
  rcases h with ⟨rfl,_⟩ | ⟨rfl,_⟩ | ⟨rfl,_⟩
  ·exact absurd e (show ("a":Str)≠eD by decide +kernel)
  ·exact absurd e (show ("b":Str)≠eD by decide +kernel)
  ·exact absurd e (show ("p:a":Str)≠eD by decide +kernel)
 | num h=>exact absurd e (show ("n":Str)≠eD by decide +kernel)
 | lang h=>exact⟨rfl,h⟩
 | text h=>exact absurd e (show ("":Str)≠eD by decide +kernel)
 | comm h=>exact absurd e (show ("":Str)≠eD by decide +kernel)
def pt (d:List Rw):Prop:=∀k,k < d.length->(aL d k).name=eD->bA d k=true
theorem Gd.langOk {ss:List Nat}(G:Gd d ss):pt d:=λk hk e=>by
 unfold bA
 rw [c0 hk]
 exact decide_eq_true ((G.ok k hk).lang_attr e).1
theorem Hr (hL:pt d)(p:Nat):(cY d p).find? (λk=>decide ((aL d k).name=eD))=(ab7 d.length).find? λk=>decide ((aL d k).name=eD) && decide (aT d k=some p):=by
 unfold cY
 rw [List.find?_filter]
 refine FU _ λk hk=>?_
 rw [abW] at hk
 by_cases e:(aL d k).name=eD
 ·simp [e,hL k hk e]
 ·simp [e]
theorem zi (W:Wf d)(k:Nat):lang d k=(fH d k).or (match aT d k with | some p=>lang d p | none=>none):=by
 unfold lang
 rw [eY W (k:=k) rfl,aeP]
 cases fH d k with
 | some a=>rfl
 | none=>cases aT d k <;> rfl
theorem Hk (T:Tr st t R lay d){G:MS->Prop}(hG:G st){F:MF->aG->MS->Prop}{x0:Option MV}:∀(ks:List Nat)(x:Option MV),(∀k∈ks,k < d.length) ->
  (∀ρ,(∀a,ks.find? (λk=>decide ((aL d k).name=eD))=some a->F (.ret (.str (aL d a).val)) ρ st)) ->
  (∀x,ks.find? (λk=>decide ((aL d k).name=eD))=none->F .next [x0,some (.ref t),x] st) ->
  ew G (b8 2) ni (ay ks) [x0,some (.ref t),x] st F:=by
 intro ks
 induction ks with
 | nil =>
  intro x hk h1 h2
  exact⟨hG,h2 x rfl⟩
 | cons k ks ih =>
  intro x hk h1 h2
  have hr:=c0 (hk k (.head _))
  refine cT hG ?_
  walk_at "w"
  refine bK (bj T) ?_
  walk_at "w"
  refine HR T hr ?_
  walk_at "w"
  refine bH (λe=>?_) λe=>?_
  ·walk_at "w"
   refine bK (bj T) ?_
   walk_at "w"
   refine yK T hr ?_
   walk_at "w"
   exact h1 _ k (by rw [adV,decide_eq_true e])
  ·walk_at "w"
   have e':(k::ks).find? (λk=>decide ((aL d k).name=eD))=ks.find? (λk=>decide ((aL d k).name=eD)):=by rw [adV,decide_eq_false e]
   rw [e'] at h1 h2
   exact ih _ (λy hy=>hk y (.tail _ hy)) h1 h2
theorem Ii (W:Wf d)(hL:pt d){P:MF->aG->MS->Prop}:∀(n k:Nat)(Ps:MS)(x:Option MV),k < n->k < d.length->Tr Ps t R lay d->st <+: Ps->(∀PT ρ,st <+: PT->P (xk d k) ρ PT) ->
  d9 m8 jb (n+1) [some (.int (k:Int)),some (.ref t),x] Ps P:=by
 intro n
 induction n with
 | zero =>
  intro k Ps x hn hk T hp h
  exact absurd hn (ab6 _)
 | succ n ih =>
  intro k Ps x hn hk T hp h
  refine fz ?_
  walk_at "w"
  walk_at "w"
  refine bK (bj T) ?_
  walk_at "w"
  have hr:=c0 hk
  refine w5 T hr ?_
  have up:∀(P1:MS) (x:Option MV),st <+: P1->Tr P1 t R lay d->fH d k=none->(aj (aX 0 (bf 524 gJ (af 1) (ad (af 0) ak))) az) [some (.int (k:Int)),some (.ref t),x] P1 (yn (bT (ar fM (af 0) (tK .none))) jb (n+1) P):=by
   intro P1 x PW T2 hn0
   walk_at "w"
   refine bK (bj T2) ?_
   walk_at "w"
   refine Cl T2 hk ?_
   walk_at "w"
   have hl:=zi W k
   rw [hn0,Option.none_or] at hl
   cases e:aT d k with
   | none =>
    rw [e] at hl
    refine fz ?_
    simp only [kF]
    walk_at "w"
    have:=h P1 [some .none,some (.ref t),x] PW
    unfold xk at this
    rw [hl] at this
    exact this
   | some q =>
    rw [e] at hl
    have TN:=W.low k q e
    refine ih q P1 x (by walk_at "o") (by walk_at "o") T2 PW λPT ρ Qj=>?_
    have:=h PT ρ Qj
    unfold xk at this ⊢
    rw [hl] at this
    exact this
  walk_at "w"
  refine bH (λe=>?_) λe=>?_
  ·walk_at "w"
   refine bK (bj T) ?_
   walk_at "w"
   refine AT T hk ?_
   have PZ:=aB (st:=Ps) (.list (ay (cY d k)))
   have T1:=T.mono PZ
   have hf:=Hr hL k
   have hat:fH d k=(cY d k).find? (λk=>decide ((aL d k).name=eD)):=by unfold fH; rw [if_pos e,hf]
   refine cb (aH _) ?_
   refine Hk T1 (aH _) (cY d k) _ (λy hy=>(vQ.mp hy).1) (λρ a ha=>?_) λx hx=>?_
   ·walk_at "w"
    have:=h (Ps++[.list (ay (cY d k))]) ρ (hp.trans PZ)
    have hl:=zi W k
    rw [hat,ha,Option.some_or] at hl
    unfold xk at this
    rw [hl] at this
    exact this
   ·refine tN ?_
    refine Kr ?_
    refine tN ?_
    exact up _ _ (hp.trans PZ) T1 (by rw [hat,hx])
  ·refine Kr ?_
   refine tN ?_
   exact up _ _ hp T (by unfold fH; rw [if_neg e])
theorem Aa (W:Wf d)(hL:pt d)(T:Tr st t R lay d)(hk:k < d.length)(h:∀Ps,st <+: Ps->Q (Fl d k) Ps):l4 [.int (k:Int),.ref t] st Q:=by
 refine cE rfl ?_
 walk_at "w"
 refine ad3 (k+1+1) ?_
 refine Ii W hL (k+1) k st _ (by walk_at "o") hk T (aaf _) λPs ρ hp=>?_
 have:=h Ps hp
 unfold Fl at this
 unfold xk
 cases e:lang d k with
 | none =>
  rw [e] at this
  walk_at "w"
  exact this
 | some a =>
  rw [e] at this
  walk_at "w"
  exact this
end
noncomputable def Ey (v a:Str):Bool:=decide (abM v=abM a) || (decide ((afp (abM v) ("-":Str))[0]?=some (abM a)) && lF ("-":Str) (abM v))
noncomputable def CB (v a:Str):Bool:=decide (abM v=abM a) || decide (abD (abM v) none (some (((abM a).length:Int)+1))=abM a++("-":Str))
noncomputable abbrev wS:List Str:=["en","EN-us","fr","enx"]
noncomputable abbrev mX:List Str:=["en","EN-US","fr","e"]
theorem M8:(wS.all λv=>mX.all λa=>Ey v a == CB v a)=true:=by decide +kernel
theorem Ni {v a:Str}(hv:v∈wS)(ha:a∈mX):Ey v a=CB v a:=by
 have:=M8
 rw [abQ] at this
 have:=this v hv
 rw [abQ] at this
 simpa using this a ha
theorem No:(wS.all λv=>decide ((abM v).length<=100/\(afp (abM v) ("-":Str)).length<=100) && ((afp (abM v) ("-":Str))[0]?).isSome)=true:=by decide +kernel
theorem EA {v:Str}(hv:v∈wS):((abM v).length<=100/\(afp (abM v) ("-":Str)).length<=100)/\∃w,(afp (abM v) ("-":Str))[0]?=some w:=by
 have:=No
 rw [abQ] at this
 have:=this v hv
 rw [abZ,decide_eq_true_eq,ady] at this
 exact this
theorem Ny:(mX.all λv=>decide ((abM v).length<=100))=true:=by decide +kernel
theorem Cm {v:Str}(hv:v∈mX):(abM v).length<=100:=by
 have:=Ny
 rw [abQ] at this
 exact of_decide_eq_true (this v hv)
section
variable {st Ps:MS}{rl:Nat}{PJ:List Nat}{d:List Rw}{k p:Nat}{Q:MV->MS->Prop}{PX:Str}
theorem Mz {o:Option Nat}(h:Q (.bool (decide (o=some p))) st):bN [kF o,.int (p:Int)] st Q:=by
 cases o with
 | none=>exact h
 | some q =>
  refine Nv ?_
  have:decide ((q:Int)=(p:Int))=decide (some q=some p):=by
   by_cases e:q=p
   ·simp [e]
   ·simp [e]; walk_at "o"
  rw [this]; exact h
theorem Iu {ρ:aG}{y:TE}{b c:Bool}(hy:b=false->∀K:MV->MS->Prop,(∀Ps,st <+: Ps->K (.bool c) Ps)->y ρ st K)(h:∀Ps,st <+: Ps->Q (.bool (b || c)) Ps):Mg y ρ Q (.bool b) st:=by
 cases b with
 | true=>exact h st (aaf _)
 | false=>exact hy rfl _ h
theorem LT {ρ:aG}{y:TE}{b c:Bool}(hy:b=true->∀K:MV->MS->Prop,(∀Ps,st <+: Ps->K (.bool c) Ps)->y ρ st K)(h:∀Ps,st <+: Ps->Q (.bool (b && c)) Ps):wP y ρ Q (.bool b) st:=by
 cases b with
 | true=>exact hy rfl _ h
 | false=>exact h st (aaf _)
theorem ul {x:Str}(hl:(abM x).length<=100)(h:Q (.str (abM x)) st):oW [.str x] st Q:=⟨aaj hl (by decide),h⟩
theorem IN {x y:Str}(hl:x.length<=100)(hy:(y.length == 0)=false)(h:Q (.ref st.length) (st++[.list ((afp x y).map .str)])):lA [.str x,.str y] st Q:=⟨aaj (by walk_at "o":x.length+2<=102) (by decide),hy,h⟩
theorem pH {x y:Str}(h:Q (.bool (lF y x)) st):im false [.str y,.str x] st Q:=by
 refine I3 ?_; rw [ahJ]; exact h
noncomputable abbrev mM (d:List Rw)(p:Nat):Nat->Bool:=λk=>decide ((aL d k).name=eD) && decide (aT d k=some p)
theorem D0 (small:d.length<=200)(T:LR st rl PJ d)(hp:p < d.length)(ok:∀k,k < d.length->dI (aL d k))(ha:PX∈mX){G:MS->Prop}(hG:G st){x1:Option MV}{F:MF->aG->MS->Prop}:∀(is:List Nat)(i:Nat)(x y:Option MV),PJ.drop i=is ->
  (∀Ps ρ a,st <+: Ps->(adq i is.length).find? (mM d p)=some a->(aL d p).kind=("element":Str)->F (.ret (.bool (Ey (aL d a).val PX))) ρ Ps) ->
  (∀x y,(adq i is.length).find? (mM d p)=none\/(aL d p).kind≠("element":Str)->F .next [some (.ref rl),x1,some (.str PX),some (.int (p:Int)),x,y] st) ->
  ew G (b8 4) g9 (is.map .ref) [some (.ref rl),x1,some (.str PX),some (.int (p:Int)),x,y] st F:=by
 intro is
 induction is with
 | nil =>
  intro i x y hi h1 h2
  exact⟨hG,h2 _ _ (.inl rfl)⟩
 | cons q is ih =>
  intro k x y hi h1 h2
  have hq:PJ[k]?=some q:=by
   have:=congrArg (λl=>l[0]?) hi
   simpa using this
  have hk:k < d.length:=by rw [<- T.len]; exact (bP hq).1
  have XN:=T.row k q hq
  have aaN:PJ.drop (k+1)=is:=by
   have:=congrArg List.tail hi
   simpa using this
  have Uz:=nA hk
  refine cT hG ?_
  unfold g9
  have skip:mM d p k=false\/(aL d p).kind≠("element":Str)->∀(x y:Option MV),ew G (b8 4) g9 (is.map .ref) [some (.ref rl),x1,some (.str PX),some (.int (p:Int)),x,y] st F:=by
   intro hs x y
   refine ih (k+1) x y aaN (λPs ρ a QL hf he=>?_) λx y hf=>?_
   ·refine h1 Ps ρ a QL ?_ he
    rw [abw,aea,adV,hs.resolve_right λq=>q he]
    exact hf
   ·refine h2 x y ?_
    by_cases he:(aL d p).kind=("element":Str)
    ·rw [abw,aea,adV,hs.resolve_right λq=>q he]
     exact hf
    ·exact .inr he
  walk_at "w"
  refine bI (n:=2) XN rfl rfl (by simp [eK]) ?_
  walk_at "w"
  refine dJ (λe1=>?_) λe1=>?_
  ·walk_at "w"
   refine bI (n:=6) XN rfl rfl (by simp [eK]) ?_
   walk_at "w"
   refine Mz ?_
   rw [<- Uz]
   walk_at "w"
   refine dJ (λe2=>?_) λe2=>?_
   ·walk_at "w"
    refine fk (n:=1) T small hp rfl rfl (λW Pt=>rfl) ?_
    walk_at "w"
    refine dJ (λe3=>?_) λe3=>?_
    ·walk_at "w"
     have hf:(adq k (q::is).length).find? (mM d p)=some k:=by
      rw [abw,aea,adV]
      unfold mM
      rw [decide_eq_true e1,decide_eq_true e2]
      rfl
     have hF:=λPs ρ QL=>h1 Ps ρ k QL hf e3
     have hv:=((ok k hk).lang_attr e1).2
     obtain⟨⟨t1,t4⟩,w,t2⟩:=EA hv
     have t3:=Cm ha
     refine bI (n:=5) XN rfl rfl (by simp [eK]) ?_
     refine iH ?_
     walk_at "w"
     refine ul t1 ?_
     walk_at "w"
     refine iH ?_
     walk_at "w"
     refine ul t3 ?_
     refine eF rfl ?_
     walk_at "w"
     refine Kj ?_
     walk_at "w"
     refine Iu (c:=decide ((afp (abM (aL d k).val) ("-":Str))[0]?=some (abM PX)) && lF ("-":Str) (abM (aL d k).val)) (λ_ K hK=>?_) ?_
     ·refine xQ ?_
      walk_at "w"
      refine iH ?_
      walk_at "w"
      refine IN t1 (by decide +kernel) ?_
      walk_at "w"
      refine bI (n:=0) (x:=.str w) (aH _) rfl ?_ ?_ ?_
      ·rw [abC,t2]; rfl
      ·rw [abd]; walk_at "o"
      walk_at "w"
      have e5:decide ((afp (abM (aL d k).val) ("-":Str))[0]?=some (abM PX))=decide (w=abM PX):=by rw [t2]; simp
      rw [e5] at hK
      refine LT (c:=lF ("-":Str) (abM (aL d k).val)) (λ_ K' Zo=>?_) λPs QL=>hK Ps ((aB _).trans QL)
      walk_at "w"
      exact pH (Zo _ (aaf _))
     ·intro Ps QL
      walk_at "w"
      exact hF Ps _ QL
    ·walk_at "w"
     exact skip (.inr e3) _ _
   ·walk_at "w"
    exact skip (.inl (by unfold mM; rw [decide_eq_false e2,aja])) _ _
  ·walk_at "w"
   exact skip (.inl (by unfold mM; rw [decide_eq_false e1,agz])) _ _
set_option tactic.hygienic true in
theorem BF (W:Wf d)(small:d.length<=200)(T:LR st rl PJ d)(hk:k < d.length)(ok:∀k,k < d.length->dI (aL d k))(ha:PX∈mX)
  (h:∀Ps,st <+: Ps->Q (.bool (match lang d k with | some a=>Ey (aL d a).val PX | none=>false)) Ps):iq [.ref rl,.int (k:Int),.str PX] st Q:=by
 refine cE rfl ?_
 walk_at "w"
 refine xR W small T hk λst1 i PZ hi hx=>?_
 refine cb hx ?_
 have T1:=T.mono PZ
 have hN:(PJ.map MV.ref).length=d.length:=by rw [abd,T.len]
 have aaL:∀x∈line d k,x < d.length:=λx hx=>by have:=iK W hx; walk_at "o"
 have key:∀(ls:List Nat) (a b c:Option MV) (F:MF->aG->MS->Prop),(∀x∈ls,x < d.length) ->
   (∀Ps ρ a,st1 <+: Ps->ls.findSome? (fH d)=some a->F (.ret (.bool (Ey (aL d a).val PX))) ρ Ps) ->
   (∀Ps ρ,st1 <+: Ps->ls.findSome? (fH d)=none->F .next ρ Ps) ->
   ew (λs=>s[i]?=some (.list (ay (line d k)))) (b8 3) nI (ay ls) [some (.ref rl),some (.int (k:Int)),some (.str PX),a,b,c] st1 F:=by
  intro ls
  induction ls with
  | nil=>intro a b c F _ _ h2; exact⟨hx,h2 _ _ (aaf _) rfl⟩
  | cons p ls ih =>
   intro a b c F Wg h1 h2
   refine cT hx ?_
   walk_at "w"
   refine cb T1.rows ?_
   have S7:=Wg p (.head _)
   have ZW:ab7 d.length=adq 0 PJ.length:=by rw [T.len,af7]
   refine D0 small T1 S7 ok ha T1.rows PJ 0 _ _ rfl (λPs ρ a QL hf he=>?_) λx y hf=>?_
   ·walk_at "w"
    refine h1 _ _ a QL ?_
    have:fH d p=some a:=by unfold fH; rw [if_pos he,ZW]; exact hf
    rw [aeP,this]
   ·walk_at "w"
    have:fH d p=none:=by
     unfold fH
     split
     ·rename_i he
      rw [ZW]; exact hf.resolve_right λq=>q he
     ·rfl
    refine ih _ _ _ _ (λx hx=>Wg x (.tail _ hx)) (λPs ρ a QL hf=>h1 Ps ρ a QL ?_) λPs ρ QL hf=>h2 Ps ρ QL ?_
    ·rw [aeP,this]; exact hf
    ·rw [aeP,this]; exact hf
 refine key (line d k) _ _ _ _ aaL (λPs ρ a QL hf=>?_) λPs ρ QL hf=>?_
 ·walk_at "w"
  have:=h Ps (PZ.trans QL)
  unfold lang at this
  rw [hf] at this
  exact this
 ·walk_at "w"
  have:=h Ps (PZ.trans QL)
  unfold lang at this
  rw [hf] at this
  exact this
end
section
variable {st Ps:MS}{t R:Nat}{lay:List cH}{d:List Rw}{k p:Nat}{r:Rw}{l:cH}{xs:List MV}{fs:List (Str×MV)}{Q:MV->MS->Prop}{F:MF->aG->MS->Prop}{ρ:aG}{V:MV}
theorem Bf {C:Addr}{name:Str}{o v:TE}(h:v ρ st (xy C name o ρ F)):dk C name o v ρ st F:=h
theorem KV {C:Addr}{name:Str}{A B:MS}(h0:ρ[0]?=some (some (.ref A.length)))(hl:fs.length < 100)(h:F .next ρ (A++.inst C (kE name V fs)::B)):xy C name (af 0) ρ F V (A++.inst C fs::B):=iJ h0 (F5 sw ⟨hl,by rw [EZ]; exact h⟩)
theorem Lu {K:MV->MS->Prop}(h:∀ep,K (.ref st.length) (st++[.dict [] ep])):kY oE ρ st K:=h
theorem nW {C:Addr}{name:Str}{A B:MS}{b:TS}{n i:Nat}(hi:ρ[i]?=some (some .none))(hn:B.length+1=n)(hl:fs.length < 100)(h0:ρ[0]?=some (some (.ref A.length)))
  (h:∀ep,b ρ (A++.inst C (kE name (.ref (A.length+n)) fs)::(B++[.dict [] ep])) F):aj (dk C name (af 0) (fg (bT (ar mU (af i) (tK .none))) (kY oE) (af i))) b ρ (A++.inst C fs::B) F:=by
 refine M9 (Bf (Kg ?_))
 refine LY (Ki hi (J3 ?_))
 walk_at "w"
 refine Lu λep=>?_
 rw [aba,abL]
 show xy C name (af 0) ρ _ (.ref (A.length+(B.length+1))) (A++.inst C fs::(B++[.dict [] ep]))
 rw [hn]; exact KV h0 hl (h ep)
def cZ (st:MS)(c:Nat)(t k:Nat)(pos size:Int)(PJ:MV):Prop:=∃fs,st[c]?=some (.inst 313 fs)/\fs.lookup ("tree":Str)=some (.ref t)/\fs.lookup ("node":Str)=some (.int (k:Int))/\fs.lookup ("position":Str)=some (.int pos)/\fs.lookup ("size":Str)=some (.int size)/\(PJ≠.none->fs.lookup ("ids":Str)=some PJ)
theorem cZ.keep {c:Nat}{pos size:Int}{PJ:MV}(h:cZ st c t k pos size PJ){S:Nat->Prop}(K:Kp S st Ps)(h0:¬S c):cZ Ps c t k pos size PJ:=let ⟨fs,e,r⟩:=h; ⟨fs,K.keep _ _ h0 e,r⟩
theorem cZ.pre {c:Nat}{pos size:Int}{PJ:MV}(h:cZ st c t k pos size PJ)(hp:st <+: Ps):cZ Ps c t k pos size PJ:=let ⟨fs,e,r⟩:=h; ⟨fs,aA hp e,r⟩
theorem ve {A:MS}{pos size:Int}{PJ:MV}(XM:PJ=.none\/∃i,PJ=.ref i)
  (h:∀Ps,A <+: Ps->cZ Ps A.length t k pos size PJ->F .next [some (.ref A.length),some (.ref t),some (.int (k:Int)),some (.int pos),some (.int size),some .none,some .none,some .none,some .none,some PJ] Ps) :
  gc [some (.ref A.length),some (.ref t),some (.int (k:Int)),some (.int pos),some (.int size),some .none,some .none,some .none,some .none,some PJ] (A++[.inst 313 []]) F:=by
 iterate 4 refine jt (Kc rfl) (of_decide_eq_true rfl) rfl ?_
 refine nW rfl rfl (of_decide_eq_true rfl) rfl λe1=>?_
 refine nW rfl rfl (of_decide_eq_true rfl) rfl λe2=>?_
 refine nW rfl rfl (of_decide_eq_true rfl) rfl λe3=>?_
 refine jt (V:=.int (k:Int)) (λK q=>by
  refine Kg (LY (Ki rfl (J3 ?_)))
  walk_at "w"
  exact q) (of_decide_eq_true rfl) rfl ?_
 rcases XM with rfl | ⟨i,rfl⟩
 ·refine nW rfl rfl (of_decide_eq_true rfl) rfl λe4=>?_
  exact h _ (abF _ _) ⟨_,sw,rfl,rfl,rfl,rfl,λq=>absurd rfl q⟩
 ·refine jt (V:=.ref i) (λK q=>by
   walk_at "w"
   exact q) (of_decide_eq_true rfl) rfl ?_
  exact h _ (abF _ _) ⟨_,sw,rfl,rfl,rfl,rfl,λq=>rfl⟩
theorem IK {pos size:Int}(h:∀Ps,st <+: Ps->cZ Ps st.length t k pos size .none->Q (.ref st.length) Ps):kO 313 jn [.ref t,.int (k:Int),.int pos,.int size] st Q:=by
 refine abf rfl ?_
 exact ve (.inl rfl) λPs hp hc=>⟨rfl,h Ps hp hc⟩
theorem JV (h:∀Ps,st <+: Ps->cZ Ps st.length t k 1 1 .none->Q (.ref st.length) Ps):kO 313 gE [.ref t,.int (k:Int)] st Q:=by
 refine abf rfl ?_
 exact ve (.inl rfl) λPs hp hc=>⟨rfl,h Ps hp hc⟩
theorem Ht {i:Nat}(h:∀Ps,st <+: Ps->cZ Ps st.length t k 1 1 (.ref i)->Q (.ref st.length) Ps):kO 313 iP [.ref t,.int (k:Int),.int 1,.int 1,.none,.none,.none,.none,.ref i] st Q:=by
 refine abf rfl ?_
 exact ve (.inr ⟨i,rfl⟩) λPs hp hc=>⟨rfl,h Ps hp hc⟩
theorem CQ (h:∀Ps,st <+: Ps->Tr Ps st.length (st.length+1) [] []->Ps.length=st.length+2->Q (.ref st.length) Ps):kO 524 kZ [] st Q:=by
 refine cE rfl ?_
 refine jt (J8 rfl) (of_decide_eq_true rfl) rfl ?_
 refine abf rfl ?_
 refine h _ (abF _ _) ⟨sw,?_,rfl,abP _,λk l r h1 h2=>by cases h2⟩ (by rw [aba]; rfl)
 rw [aeA (adj _ 1),afo]; rfl
theorem Hs {t:Nat}:Ly t (t+1) []:=⟨abv _,λl h=>by simp at h,.nil⟩
theorem AJ {ss:List Nat}(G:Gd d ss){a:Nat}(h:lang d k=some a):(aL d a).val∈wS:=by
 unfold lang at h
 obtain⟨p,_,hp⟩:=List.exists_of_findSome?_eq_some h
 unfold fH at hp
 split at hp
 ·have h1:=List.find?_some hp
  have h2:=List.mem_of_find?_eq_some hp
  rw [abW] at h2
  simp only [abZ,decide_eq_true_eq] at h1
  exact ((G.ok a h2).lang_attr h1.1).2
 ·cases hp
theorem uZ {PX:Str}(W:Wf d)(hL:pt d)(T:Tr st t R lay d)(hk:k < d.length){c:Nat}{pos size:Int}{PJ:MV}(hc:cZ st c t k pos size PJ)(ha:(abM PX).length<=100)
  (hv:∀a,lang d k=some a->(abM (aL d a).val).length<=100)
  (h:∀Ps,st <+: Ps->Q (.bool (match lang d k with | some a=>CB (aL d a).val PX | none=>false)) Ps):pY [.str PX,.ref c] st Q:=by
 obtain⟨fs,Re,QY,Uu,_⟩:=hc
 refine cE rfl ?_
 walk_at "w"
 refine bD Re Uu ?_
 walk_at "w"
 refine bD Re QY ?_
 walk_at "w"
 refine Aa W hL T hk λst1 PZ=>?_
 have hQ:=h st1 PZ
 unfold Fl
 cases e:lang d k with
 | none =>
  rw [e] at hQ
  walk_at "w"
  exact hQ
 | some a =>
  rw [e] at hQ
  have hva:=hv a e
  walk_at "w"
  refine iH ?_
  walk_at "w"
  refine ul hva ?_
  walk_at "w"
  refine iH ?_
  walk_at "w"
  refine ul ha ?_
  walk_at "w"
  refine eF rfl ?_
  walk_at "w"
  refine Kj ?_
  walk_at "w"
  refine Iu (c:=decide (abD (abM (aL d a).val) none (some (((abM PX).length:Int)+1))=abM PX++("-":Str))) (λ_ K' Zo=>?_) λPs QL=>?_
  ·walk_at "w"
   refine len_str (by walk_at "o") ?_
   walk_at "w"
   refine pa (by walk_at "o") ?_
   walk_at "w"
   refine r7 ?_ ?_
   ·have h1:("-":Str).length=1:=by decide +kernel
    rw [agM,h1]; walk_at "o"
   walk_at "w"
   exact Zo _ (aaf _)
  ·walk_at "w"
   have:=h Ps (PZ.trans QL)
   rw [e] at this
   exact this
end
open PySem.NumText
noncomputable abbrev tl (x:Str):List Nat:=x.cps.toList
theorem jI {x y:Str}(h:tl x=tl y):x=y:=Str.ext' (agY.mp h)
theorem ci (x:Str):x.length=(tl x).length:=by simp [Str.length]
theorem BI (x:Str)(l u:Option Int):abD x l u=StrLaws.sliceText x l u:=rfl
theorem Hq (l:Option Int){b n:Nat}(h:n<=b):aev l (some (b:Int)) 1 n=aev l (some (n:Int)) 1 n:=by
 have h1:¬((b:Int) < 0):=Int.not_lt.mpr (aei b)
 have h2:¬((n:Int) < 0):=Int.not_lt.mpr (aei n)
 have h3:(1:Int) > 0:=by decide
 have e1:max (0:Int) (min (b:Int) (n:Int))=n:=by rw [Int.min_eq_right (Int.ofNat_le.mpr h)]; exact Int.max_eq_right (aei n)
 have e2:max (0:Int) (min (n:Int) (n:Int))=n:=by rw [Int.min_eq_right (Int.le_refl _)]; exact Int.max_eq_right (aei n)
 simp only [aev,h1,h2,h3,if_false,if_true,e1,e2]
theorem DF (x:Str)(l:Option Int){b:Nat}(h:x.length<=b):abD x l (some (b:Int))=abD x l (some (x.length:Int)):=by
 unfold abD
 rw [Hq l h]
theorem lN (x:Str){a b:Nat}(QP:a<=b)(ha:a<=x.length):tl (abD x (some (a:Int)) (some (b:Int)))=((tl x).drop a).take (b - a):=by
 by_cases hb:b<=x.length
 ·rw [BI,ahv x QP hb]
 ·rw [DF x _ (Nat.le_of_not_le hb),BI,ahv x ha (abp _)]
  show ((tl x).drop a).take (x.length - a)=_
  rw [afN (by rw [ach,ci]; exact abp _),afN (by rw [ach,<- ci]; exact Nat.sub_le_sub_right (Nat.le_of_not_le hb) a)]
theorem IQ (x:Str)(b:Nat):tl (abD x none (some (b:Int)))=(tl x).take b:=by
 have:abD x none (some (b:Int))=abD x (some ((0:Nat):Int)) (some (b:Int)):=by
  unfold abD
  rw [StrLaws.sliceIdx_none_lo]; rfl
 rw [this,lN x (abP _) (abP _)]
 simp
theorem F3 (x:Str){a:Nat}(ha:a<=x.length):tl (abD x (some (a:Int)) none)=(tl x).drop a:=by
 have:abD x (some (a:Int)) none=abD x (some (a:Int)) (some (x.length:Int)):=by
  unfold abD
  rw [StrLaws.sliceIdx_none_hi]
 rw [this,lN x ha ha,afN (by rw [ach,ci]; exact abp _)]
theorem tf (x:Str)(l u:Option Int):∀c∈tl (abD x l u),c∈tl x:=by
 intro c hc
 unfold abD at hc
 split at hc
 ·exact hc
 ·obtain⟨i,_,hi⟩:=adQ.mp (by simpa using hc)
  obtain⟨h,rfl⟩:=aez.mp hi
  simp
theorem mI (x:Str)(c:Nat):lF ⟨#[c]⟩ x=decide (c∈tl x):=StrLaws.found_one x c
noncomputable def dA (c:Nat):Bool:=c == 32
noncomputable def cB (c:Nat):Bool:=decide (48<=c) && decide (c<=57)
theorem H9 (c:Nat):decide (c∈tl (" \t\n\r":Str))=(c == 32 || c == 9 || c == 10 || c == 13):=by
 have:tl (" \t\n\r":Str)=[32,9,10,13]:=by decide +kernel
 rw [this,ahj]
 simp [or_assoc]
theorem um (c:Nat):decide (c∈tl ("0123456789":Str))=cB c:=by
 have e:tl ("0123456789":Str)=adq 48 10:=by decide +kernel
 have h:c∈adq 48 10↔(48<=c/\c<=57):=agK.trans (and_congr_right λ_=>Nat.lt_succ_iff)
 rw [e,ahj,decide_eq_true_iff,h]
 unfold cB
 rw [abZ,decide_eq_true_iff,decide_eq_true_iff]
noncomputable def bS (l:List Nat):Nat:=(l.takeWhile dA).length
noncomputable def Cc (l:List Nat):Nat:=l.length - ((l.drop (bS l)).reverse.takeWhile dA).length
noncomputable def eL (x:Str):Str:=afD x (" ":Str)
theorem x6 (x:Str):tl (eL x)=((tl x).drop (bS (tl x))).take (Cc (tl x) - bS (tl x)):=by
 have e:(" ":Str).cps.contains=dA:=by
  have:(" ":Str).cps=#[32]:=by decide +kernel
  funext c
  rw [this]
  unfold dA
  by_cases h:c=32
  ·subst h; simp
  ·simp [h]
 unfold eL
 rw [afD,W.stripBy_eq,e]
 unfold W.stripped
 simp only [if_true]
 refine (afU _ _ _).trans ?_
 rw [ci]
 rfl
theorem mF (p:Nat->Bool)(l:List Nat):(l.takeWhile p).length<=l.length:=(List.takeWhile_sublist p).length_le
theorem Gn (p:Nat->Bool):∀(l:List Nat)(i c:Nat),i < (l.takeWhile p).length->l[i]?=some c->p c=true:=by
 intro l
 induction l with
 | nil =>
  intro i c h _
  simp at h
 | cons x l ih =>
  intro i c h e
  rw [aeQ] at h
  cases hx:p x with
  | false=>rw [hx] at h; simp at h
  | true =>
   cases i with
   | zero=>simp at e; subst e; exact hx
   | succ i =>
    rw [hx] at h
    exact ih i c (by simpa using h) (by simpa using e)
theorem Cn (p:Nat->Bool):∀(l:List Nat)(c:Nat),l[(l.takeWhile p).length]?=some c->p c=false:=by
 intro l
 induction l with
 | nil =>
  intro c e
  simp at e
 | cons x l ih =>
  intro c e
  rw [aeQ] at e
  cases hx:p x with
  | false=>rw [hx] at e; simp at e; subst e; exact hx
  | true=>rw [hx] at e; exact ih c (by simpa using e)
def pC (x:Str):Prop:=∀c∈tl x,c≠9/\c≠10/\c≠13
section
variable {st:MS}{Q:MV->MS->Prop}{x:Str}{F:MF->aG->MS->Prop}
theorem mH {j:Int}{n c:Nat}(hj:j=(n:Int))(hc:(tl x)[n]?=some c)(hl:x.length < 2 ^ 62)(h:Q (.str ⟨#[c]⟩) st):aN [.str x,.int j] st Q:=by
 have hn:n < x.length:=by rw [ci]; exact (bP hc).1
 refine⟨⟨by walk_at "o",by walk_at "o"⟩,n,c,yl hj hn,by simpa using hc,h⟩
theorem Km (hp:pC x){n c:Nat}(hc:(tl x)[n]?=some c):lF ⟨#[c]⟩ (" \t\n\r":Str)=dA c:=by
 obtain⟨h1,h2,h3⟩:=hp c (abh hc)
 rw [mI,H9]
 have g1:(c == 9)=false:=by simp [h1]
 have g2:(c == 10)=false:=by simp [h2]
 have g3:(c == 13)=false:=by simp [h3]
 rw [g1,g2,g3]
 simp [dA]
theorem LQ (hp:pC x)(hl:x.length<=1000):∀(m b:Nat),b+m=bS (tl x)->F .next [some (.str x),some (.int ((bS (tl x):Nat):Int)),some (.int (x.length:Int))] st ->
  d9 tW r6 (m+1) [some (.str x),some (.int (b:Int)),some (.int (x.length:Int))] st F:=by
 intro m
 induction m using acm with
 | _ m ih =>
  intro b hb h
  have VF:=mF dA (tl x)
  have PL:=ci x
  refine fz ?_
  walk_at "w"
  refine dJ (λPR=>?_) λRt=>?_
  ·have hbl:b < (tl x).length:=by walk_at "o"
   obtain⟨c,hc⟩:∃c,(tl x)[b]?=some c:=⟨_,aa9 hbl⟩
   walk_at "w"
   refine mH rfl hc (by walk_at "o") ?_
   walk_at "w"
   refine pH ?_
   rw [Km hp hc]
   cases m with
   | zero =>
    have:b=bS (tl x):=by walk_at "o"
    subst this
    rw [Cn dA (tl x) c hc]
    walk_at "w"
    exact h
   | succ m =>
    rw [Gn dA (tl x) b c (by unfold bS at hb; walk_at "o") hc]
    walk_at "w"
    walk_at "w"
    refine ck trivial ?_
    walk_at "w"
    exact ih m (abv m) (b+1) (by walk_at "o") h
  ·have:b=bS (tl x):=by unfold bS at hb ⊢; walk_at "o"
   subst this
   walk_at "w"
   exact h
theorem tS (n:Nat):((n+1:Nat):Int) - 1=(n:Int):=by walk_at "o"
theorem Iv (l:List Nat):bS l<=l.length:=mF dA l
theorem Ha {l:List Nat}{i j:Nat}(h:i+j+1=l.length):l.reverse[j]?=l[i]?:=by
 rw [aht (by rw [<- h]; exact Nat.lt_succ_of_le (Nat.le_add_left _ _)),<- h,adv,adv]
def JW (l:List Nat)(H:Nat):Prop:=Cc l=bS l+H/\bS l+H<=l.length/\(∀i c,H<=i->l[bS l+i]?=some c->dA c=true)/\∀i c,H=i+1->l[bS l+i]?=some c->dA c=false
theorem ND (l:List Nat):∃H,JW l H:=by
 have hq:(l.drop (bS l)).length+bS l=l.length:=by rw [ach]; exact ail (Iv l)
 have hT:=mF dA (l.drop (bS l)).reverse
 rw [adb] at hT
 have e:Cc l=l.length - ((l.drop (bS l)).reverse.takeWhile dA).length:=rfl
 have e2:∀i,l[bS l+i]?=(l.drop (bS l))[i]?:=λi=>agC.symm
 have t1:=Gn dA (l.drop (bS l)).reverse
 have t2:=Cn dA (l.drop (bS l)).reverse
 unfold JW
 rw [e]
 simp only [e2]
 generalize ((l.drop (bS l)).reverse.takeWhile dA).length=T at *
 generalize l.drop (bS l)=q at *
 obtain⟨H,hH⟩:∃H,H+T=q.length:=⟨_,ail hT⟩
 refine⟨H,by rw [<- hq,<- hH,agD,adv,Nat.add_comm],by rw [<- hq,<- hH]; walk_at "o",λi c hi hc=>?_,λi c hi hc=>?_⟩
 ·obtain⟨j,hj⟩:=Nat.exists_eq_add_of_lt (bP hc).1
  exact t1 j c (by walk_at "o") ((Ha hj.symm).trans hc)
 ·exact t2 c ((Ha (by rw [<- hH,hi,agD])).trans hc)
theorem LD (hp:pC x)(hl:x.length<=1000){H:Nat}(hH:JW (tl x) H)(h:F .next [some (.str x),some (.int ((bS (tl x):Nat):Int)),some (.int ((bS (tl x)+H:Nat):Int))] st)(m:Nat):bS (tl x)+(H+m)<=x.length ->
  d9 rT tI (m+1) [some (.str x),some (.int ((bS (tl x):Nat):Int)),some (.int ((bS (tl x)+(H+m):Nat):Int))] st F:=by
 have t1:=hH.2.2.1
 have t2:=hH.2.2.2
 have ht:=λn c=>Km (n:=n) (c:=c) hp
 revert ht
 generalize bS (tl x)=lo at *
 intro ht
 induction m with
 | zero =>
  intro hm
  refine fz ?_
  walk_at "w"
  refine dJ (λPR=>?_) λRt=>?_
  ·have PR:lo < lo+H:=afJ.mp PR
   cases H with
   | zero=>exact absurd PR (acg _)
   | succ i =>
    have hi:lo+i < (tl x).length:=by rw [<- ci]; exact hm
    have hc:=aa9 hi
    walk_at "w"
    refine ck trivial ?_
    refine mH (n:=lo+i) (tS (lo+i)) hc (aca hl (by decide)) ?_
    walk_at "w"
    refine pH ?_
    rw [ht _ _ hc,t2 i _ rfl hc]
    walk_at "w"
    exact h
  ·walk_at "w"
   exact h
 | succ m ih =>
  intro hm
  refine fz ?_
  walk_at "w"
  refine dJ (λPR=>?_) λRt=>absurd (afJ.mpr (show lo < lo+(H+(m+1)) from ag4 (Nat.succ_pos _))) Rt
  have hi:lo+(H+m) < (tl x).length:=by rw [<- ci]; exact hm
  have hc:=aa9 hi
  walk_at "w"
  refine ck trivial ?_
  refine mH (n:=lo+(H+m)) (tS (lo+(H+m))) hc (aca hl (by decide)) ?_
  walk_at "w"
  refine pH ?_
  rw [ht _ _ hc,t1 (H+m) _ (adj _ _) hc]
  walk_at "w"
  walk_at "w"
  refine ck trivial ?_
  rw [show ((lo+(H+(m+1)):Nat):Int) - 1=((lo+(H+m):Nat):Int) from tS (lo+(H+m))]
  walk_at "w"
  exact ih (Nat.le_of_succ_le hm)
theorem zw (hp:pC x)(hl:x.length<=1000)(h:Q (.str (eL x)) st):tm [.str x] st Q:=by
 refine bv λGG PD=>?_
 obtain⟨H,hH⟩:=ND (tl x)
 refine PD ?_
 have e1:=hH.1
 have e2:=hH.2.1
 rw [<- ci] at e2
 obtain⟨m,hm⟩:=Nat.exists_eq_add_of_le e2
 refine cE rfl ?_
 walk_at "w"
 refine len_str (aca hl (by decide)) ?_
 walk_at "w"
 refine eF rfl ?_
 walk_at "w"
 refine ad3 (bS (tl x)+1) ?_
 refine LQ hp hl (bS (tl x)) 0 (afB _) ?_
 walk_at "w"
 refine ad3 (m+1) ?_
 have UT:x.length=bS (tl x)+(H+m):=by rw [hm,Nat.add_assoc]
 have key:=λ(F:MF->aG->MS->Prop) h=>LD (F:=F) (st:=st) hp hl hH h m (aeG UT.symm)
 rw [<- UT] at key
 refine key _ ?_
 walk_at "w"
 refine mV hl ?_
 walk_at "w"
 have e:abD x (some ((bS (tl x):Nat):Int)) (some ((bS (tl x)+H:Nat):Int))=eL x:=by
  refine jI ?_
  rw [lN x (adj _ _) (aaj (adj _ _) e2),x6,e1]
 rw [e]
 exact h
theorem Bo (x:Str):(eL x).length<=x.length:=by
 rw [ci,ci,x6]
 exact aaj (ahK _ _) (by rw [ach]; exact Nat.sub_le _ _)
theorem qg {x:Str}{c:Nat}(h:c∈tl (eL x)):c∈tl x:=by
 rw [x6] at h
 exact ahL (List.mem_of_mem_take h)
noncomputable def fC (x:Str)(a:Nat):Nat:=a+(((tl x).drop a).takeWhile cB).length
theorem y6 {a:Nat}(ha:a<=x.length):fC x a<=x.length/\a<=fC x a:=by
 have VF:=mF cB ((tl x).drop a)
 rw [ach,<- ci] at VF
 exact⟨Nat.add_le_of_le_sub' ha VF,adj _ _⟩
theorem JE (hl:x.length<=1000){a:Nat}(ha:a<=x.length)(h:F .next [some (.str x),some (.int ((fC x a:Nat):Int))] st)(m:Nat):∀k,a+(k+m)=fC x a ->
  d9 nV nD (m+1) [some (.str x),some (.int ((a+k:Nat):Int))] st F:=by
 have t1:=Gn cB ((tl x).drop a)
 have t2:=Cn cB ((tl x).drop a)
 have VF:=(y6 ha).1
 have e0:fC x a=a+(((tl x).drop a).takeWhile cB).length:=rfl
 generalize (((tl x).drop a).takeWhile cB).length=D at *
 have e2:∀i,((tl x).drop a)[i]?=(tl x)[a+i]?:=λi=>agC
 have RK:=aca hl (by decide:1000 < 2 ^ 62)
 induction m with
 | zero =>
  intro k hk
  refine fz ?_
  walk_at "w"
  refine len_str RK ?_
  walk_at "w"
  refine dJ (λPR=>?_) λRt=>?_
  ·have hc:=aa9 (l:=tl x) (i:=a+k) (by rw [<- ci]; exact afJ.mp PR)
   walk_at "w"
   refine mH rfl hc RK ?_
   walk_at "w"
   refine pH ?_
   rw [mI,um,t2 _ ((e2 D).trans (by rw [<- e0,<- hk]; exact hc))]
   walk_at "w"
   rw [show a+k=fC x a from hk]
   exact h
  ·walk_at "w"
   rw [show a+k=fC x a from hk]
   exact h
 | succ m ih =>
  intro k hk
  have hkD:k+(m+1)=D:=Nat.add_left_cancel (hk.trans e0)
  have PR:a+k < x.length:=abG (by rw [<- hk]; walk_at "o") VF
  refine fz ?_
  walk_at "w"
  refine len_str RK ?_
  walk_at "w"
  refine dJ (λ_=>?_) λRt=>absurd (afJ.mpr PR) Rt
  have hc:=aa9 (l:=tl x) (i:=a+k) (by rw [<- ci]; exact PR)
  walk_at "w"
  refine mH rfl hc RK ?_
  walk_at "w"
  refine pH ?_
  rw [mI,um,t1 k _ (by rw [<- hkD]; exact ag4 (Nat.succ_pos _)) ((e2 k).trans hc)]
  walk_at "w"
  walk_at "w"
  refine ck trivial ?_
  walk_at "w"
  exact ih (k+1) (by rw [agD k 1 m]; exact hk)
theorem nq (hl:x.length<=1000){a:Nat}(ha:a<=x.length)(h:Q (.int ((fC x a:Nat):Int)) st):ge [.str x,.int (a:Int)] st Q:=by
 refine cE rfl ?_
 walk_at "w"
 refine ad3 ((((tl x).drop a).takeWhile cB).length+1) ?_
 refine JE (a:=a) hl ha ?_ _ 0 (by rw [afB]; rfl)
 walk_at "w"
 exact h
end
def Kl (Q:List MV->(MS->Prop)->MS->Prop):MV->MS->Prop:=λV Pt=>xP (λx=>Q (gB x) (λ_=>True) Pt) V
theorem LF:((adq 48 10).all λc=>(adE ("0123456789":Str) ⟨#[c]⟩ 0 ("0123456789":Str).length 1).head? == some (c - 48))=true:=by decide +kernel
theorem G2 {c:Nat}(h:cB c=true):∃r,adE ("0123456789":Str) ⟨#[c]⟩ 0 ("0123456789":Str).length 1=(c - 48)::r:=by
 have:=LF
 rw [abQ] at this
 unfold cB at h
 rw [abZ,decide_eq_true_eq,decide_eq_true_eq] at h
 have:=this c (by rw [agK]; walk_at "o")
 rw [beq_iff_eq] at this
 cases e:adE ("0123456789":Str) ⟨#[c]⟩ 0 ("0123456789":Str).length 1 with
 | nil=>rw [e] at this; simp at this
 | cons a r=>rw [e] at this; simp at this; exact⟨r,by rw [this]⟩
section
variable {st:MS}{Q:MV->MS->Prop}{x:Str}{F:MF->aG->MS->Prop}
theorem AL {ρ:aG}{a:TE}{K:List MV->(MS->Prop)->MS->Prop}(h:a ρ st (Kl K)):CF a ρ st K:=h
theorem x8 {K:List MV->(MS->Prop)->MS->Prop}(h:K (gB x) (λ_=>True) st):Kl K (.str x) st:=h
theorem FC {a:Option MV}:∀(l:List Nat)(n:Nat)(b:Option MV),(∀c∈l,cB c=true)->(∀b,F .next [a,some (.int ((l.foldl (λPY c=>PY * 10+(c - 48)) n:Nat):Int)),b] st) ->
  ew (λ_=>True) (b8 2) qZ (l.map λc=>.str ⟨#[c]⟩) [a,some (.int (n:Int)),b] st F:=by
 intro l
 induction l with
 | nil =>
  intro n b hd h
  exact⟨trivial,h b⟩
 | cons c l ih =>
  intro n b hd h
  refine cT trivial ?_
  walk_at "w"
  refine ck (ph (by decide)) ?_
  walk_at "w"
  refine iH ?_
  walk_at "w"
  obtain⟨r,hr⟩:=G2 (hd c (.head _))
  refine l3 (by rw [hr]; rfl) ?_
  walk_at "w"
  rw [show (n:Int) * 10+((c - 48:Nat):Int)=((n * 10+(c - 48):Nat):Int) by push_cast; rfl]
  exact ih _ _ (λy hy=>hd y (.tail _ hy)) h
theorem wn (hd:(tl x).all cB=true)(h:Q (.int ((digitsVal (tl x):Nat):Int)) st):mr [.str x] st Q:=by
 rw [abQ] at hd
 refine cE rfl ?_
 walk_at "w"
 refine AL ?_
 walk_at "w"
 refine x8 ?_
 refine FC (tl x) 0 _ hd λb=>?_
 walk_at "w"
 exact h
noncomputable def hv (t:List Nat):Option Int:=
 if (if t.take 1=[45] then t.drop 1 else t)≠[]/\(if t.take 1=[45] then t.drop 1 else t).all cB=true then some (if t.take 1=[45] then -(2 * ((digitsVal (t.drop 1):Nat):Int)) else 2 * ((digitsVal t:Nat):Int)) else none
theorem KN (n:Int):gL (some (2 * n))=num n 1:=by
 unfold gL
 dsimp only
 rw [if_pos (by walk_at "o"),show 2 * n / 2=n by walk_at "o"]
theorem Lh (n:Int):gL (some (-(2 * n)))=num (-n) 1:=by
 unfold gL
 dsimp only
 rw [if_pos (by walk_at "o"),show -(2 * n) / 2=-n by walk_at "o"]
theorem AM:tl ("-":Str)=[45]:=by decide +kernel
theorem kz:tl ("":Str)=[]:=by decide +kernel
theorem sp {p:Nat->Bool}:∀{l:List Nat},(l.takeWhile p).length=l.length↔l.all p=true
 | []=>by simp
 | c::l=>by
  rw [aeQ]
  cases h:p c with
  | false=>simp [h]
  | true=>simp [h,<- sp (l:=l)]
theorem yq {p:Nat->Bool}:∀{l:List Nat},l.take (l.takeWhile p).length=l.takeWhile p
 | []=>by simp
 | c::l=>by
  rw [aeQ]
  cases h:p c with
  | false=>simp
  | true=>simp [yq (l:=l)]
theorem uh (x:Str):abD x none (some 1)=("-":Str)↔(tl x).take 1=[45]:=by
 have e:tl (abD x none (some 1))=(tl x).take 1:=IQ x 1
 constructor
 ·intro h; rw [h,AM] at e; exact e.symm
 ·intro h; exact jI (by rw [e,h,AM])
theorem Dm {l u:Option Int}(hd:46 ∉ tl x):abD x l u≠(".":Str):=λe=>by
 have:=tf x l u 46 (by rw [e]; decide +kernel)
 exact hd this
set_option tactic.hygienic true in
theorem EB {y:Str}(hl:y.length<=1000)(hd:46 ∉ tl y){a:Option MV}{b:Nat}(hb:b=(if (tl y).take 1=[45] then 1 else 0))(h:Q (gL (hv (tl y))) st) :
  (aj (aX 3 (aF ge (ad (af 1) (ad (af 2) ak))))
 (aj (c9 [5,4] (bl (ad (iV (af 1) (af 2) (af 3)) (ad (tK (.str "")) ak))))
 (aj (bW (bT (ar bN (iV (af 1) (af 3) (ar cM (af 3) (tK (.int 1)))) (tK (.str ".")))) (aj (aX 6 (aF ge (ad (af 1) (ad (ar cM (af 3) (tK (.int 1))) ak))))
 (aj (aX 5 (iV (af 1) (ar cM (af 3) (tK (.int 1))) (af 6)))
 (aj (aX 3 (af 6))
 az))) az)
 (aj (bW (lH (bT (ar (bw λa b=>decide (a < b)) (af 3) (aF dP (ad (af 1) ak)))) (lH (bT (ar bN (ar cM (af 4) (af 5)) (tK (.str "")))) il)) (aj (aS (tK r5))
 az) az)
 (aj (aX 7 (aF gO (ad (aF mr (ad (ar cM (af 4) (af 5)) ak)) (ad (ar (bh (λa n=>a ^ n.toNat) λa n=>0<=n/\n<=1000000/\a.natAbs < 2 ^ 64) (tK (.int 10)) (aF dP (ad (af 5) ak))) ak))))
 (aj (aS (fg (bT (ar bN (af 2) (tK (.int 1)))) (aF nS (ad (af 7) ak)) (af 7)))
 az)))))) [a,some (.str y),some (.int (b:Int)),none,none,none,none,none] st (fi Q):=by
 have PL:=ci y
 have Td:b<=y.length:=by
  rw [hb]
  split
  ·rename_i e
   have:((tl y).take 1).length=1:=by rw [e]; rfl
   rw [ci]; exact aaj (aeG this.symm) (ahK 1 (tl y))
  ·exact abP _
 have hr:(if (tl y).take 1=[45] then (tl y).drop 1 else tl y)=(tl y).drop b:=by
  rw [hb]; split <;> simp
 have hE:=y6 Td
 have hTW:=mF cB ((tl y).drop b)
 walk_at "w"
 refine nq hl Td ?_
 walk_at "w"
 refine mV hl ?_
 walk_at "w"
 refine eF rfl ?_
 walk_at "w"
 refine mV hl ?_
 walk_at "w"
 refine bH (λe=>absurd e (Dm hd)) λ_=>?_
 walk_at "w"
 refine len_str (aca hl (by decide)) ?_
 walk_at "w"
 have hw:tl (abD y (some (b:Int)) (some ((fC y b:Nat):Int)))=((tl y).drop b).takeWhile cB:=by
  rw [lN y hE.2 Td,show fC y b - b=(((tl y).drop b).takeWhile cB).length from afo _ _,yq]
 generalize hW:abD y (some (b:Int)) (some ((fC y b:Nat):Int))=w at hw
 have X9:w++("":Str)=w:=jI (by
  show (w++("":Str)).cps.toList=_
  rw [Str.cps_append,ah1,show (("":Str)).cps.toList=[] from kz,abr])
 have Vy:w.length<=1000:=by
  rw [ci,hw]
  exact aaj (mF cB _) (by rw [ach,<- ci]; exact aaj (Nat.sub_le _ _) hl)
 have Xh:fC y b=b+(((tl y).drop b).takeWhile cB).length:=rfl
 have Wh:((tl y).drop b).length=y.length - b:=by rw [ach,PL]
 have YZ:¬((tl y).drop b≠[]/\((tl y).drop b).all cB=true)->Q (num 0 0) st:=λq=>by
  unfold hv at h
  rw [hr,if_neg q] at h
  exact h
 refine ql (λe=>?_) λe=>?_
 ·walk_at "w"
  refine YZ λq=>?_
  have:=sp.mpr q.2
  walk_at "o"
 ·have U5:((tl y).drop b).all cB=true:=sp.mp (by walk_at "o")
  walk_at "w"
  refine r7 (by rw [X9]; exact Vy) ?_
  rw [X9]
  walk_at "w"
  refine ql (λe2=>?_) λe2=>?_
  ·walk_at "w"
   refine YZ λq=>q.1 ?_
   have e3:tl w=[]:=by rw [e2,kz]
   rw [hw] at e3
   have:=sp.mpr q.2
   rw [e3] at this
   exact abI this.symm
  ·have P6:(tl y).drop b≠[]:=λq=>e2 (jI (by rw [hw,q,kz]; rfl))
   have hww:tl w=(tl y).drop b:=by
    rw [hw,<- yq,sp.mpr U5,List.take_length]
   unfold hv at h
   rw [hr,if_pos ⟨P6,U5⟩] at h
   walk_at "w"
   refine r7 (by rw [X9]; exact Vy) ?_
   rw [X9]
   walk_at "w"
   refine wn (by rw [hww]; exact U5) ?_
   walk_at "w"
   refine len_str (by decide +kernel) ?_
   walk_at "w"
   refine ck ⟨by decide +kernel,by decide +kernel,by decide⟩ ?_
   have e10:(10:Int) ^ ((("":Str).length:Int)).toNat=1:=by decide +kernel
   rw [e10]
   refine i5 (by decide) (by decide) ?_
   have eg:∀v:Int,num (v / (aci v 1:Nat)) (1 / (aci v 1:Nat))=num v 1:=λv=>by
    rw [Int.gcd_one_right]; simp
   rw [eg,hww]
   walk_at "w"
   by_cases hneg:(tl y).take 1=[45]
   ·rw [if_pos hneg] at h hb
    subst hb
    refine dS (λ_=>?_) λq=>absurd rfl q
    walk_at "w"
    refine HS ?_
    rw [Lh] at h
    walk_at "w"
    exact h
   ·rw [if_neg hneg] at h hb
    subst hb
    refine dS (λq=>absurd q (by decide)) λq=>?_
    walk_at "w"
    rw [KN] at h
    exact h
theorem AN (hp:pC x)(hd:46 ∉ tl x)(hl:x.length<=1000)(h:Q (gL (hv (tl (eL x)))) st):gK [.str x] st Q:=by
 have htl:=Bo x
 refine cE rfl ?_
 walk_at "w"
 refine zw hp hl ?_
 walk_at "w"
 refine pa (by walk_at "o") ?_
 walk_at "w"
 refine dS (λe=>?_) λe=>?_
 ·walk_at "w"
  exact EB (b:=1) (by walk_at "o") (λq=>hd (qg q)) (by rw [if_pos ((uh _).mp e)]) h
 ·walk_at "w"
  exact EB (b:=0) (by walk_at "o") (λq=>hd (qg q)) (by rw [if_neg (λq=>e ((uh _).mpr q))]) h
end
set_option maxHeartbeats 1000000
open PySem PySem.W PySem.Spec PySem.Calls PyProof.Rows PySem.NumText
section
variable {st:MS}{Q:MV->MS->Prop}{x:Str}{F:MF->aG->MS->Prop}{ρ:aG}
theorem Gf (xs:List MV)(h:∀v∈xs,∃p,ee v=some p):∃ds,fA xs=some ds:=by
 induction xs with
 | nil=>exact⟨[],rfl⟩
 | cons v xs ih =>
  obtain⟨p,hp⟩:=h v (.head _)
  obtain⟨ds,hd⟩:=ih λw hw=>h w (.tail _ hw)
  unfold fA at hd ⊢
  exact⟨p::ds,by rw [adL,hp,hd]; rfl⟩
theorem AX {g e:Nat}{xs:List MV}(ha:∀v∈xs,∃p,ee v=some p)(hg:st[g]?=some (.list xs))(he:st[e]?=some (.list []))(h:Q (.bool (!xs.isEmpty)) st):g8 [.ref g,.ref e] st Q:=let ⟨_,hd⟩:=Gf xs ha; Fd hg hd he h
noncomputable def dK (o:Option Int):MV:=match o with | some n=>.int n | none=>.none
theorem Ik {x:Str}{n:Int}(hi:ahF x=some n)(hl:x.length<=640)(h:Q (.int n) st):eG [.str x] st Q:=l3 hi ⟨hl,h⟩
theorem Ew {b:Bool}(h:Q (.int (if b then 1 else 0)) st):eG [.bool b] st Q:=h
noncomputable def kM:MV->Bool:=λv=>match v with | .str s=>(tl s).any λc=>!cB c | _=>false
theorem AP (l:List Nat):((l.map λc=>MV.str ⟨#[c]⟩).filter kM).isEmpty=l.all cB:=by
 induction l with
 | nil=>rfl
 | cons c l ih =>
  have:kM (.str ⟨#[c]⟩)=!cB c:=by simp [kM,tl]
  rw [abg,List.filter_cons,this]
  cases h:cB c with
  | true=>simpa [h] using ih
  | false=>simp [h]
theorem ER {y w:Str}{a:Option MV}(hl:y.length<=640)(hd:46 ∉ tl y)(ha:∀c∈tl y,c < 128)(hw:tl w=(if (tl y).take 1=[45] then (tl y).drop 1 else tl y))(h:∀Ps,st <+: Ps->Q (dK (hv (tl y))) Ps) :
  (aj (bW (lH (bT (ar bN (af 3) (tK (.str ("":Str))))) (lH (bT (ar g8 (c7 1 [] (CF (af 3)) (b8 0) nX ia) (be ak))) il)) (aj (aS (tK .none))
 az) az)
 (aj (aX 4 (ar cM (ar (bh (· * ·) acd) (tK (.int 2)) (aF eG (ad (af 3) ak))) (aF eG (ad (ar g8 (af 3) (af 2)) ak))))
 (aj (aS (fg (bT (ar bN (af 1) (af 2))) (af 4) (ar (bh (· - ·) l9) (tK (.int 0)) (af 4))))
 az))) [a,some (.str y),some (.str w),some (.str w),none] st (fi Q):=by
 have Vy:w.length<=640:=by
  rw [ci,hw]
  have:=ci y
  split
  ·rw [ach]; walk_at "o"
  ·walk_at "o"
 have X0:∀c∈tl w,c < 128:=λc hc=>by
  rw [hw] at hc
  split at hc
  ·exact ha c (ahL hc)
  ·exact ha c hc
 have XZ:¬(tl w≠[]/\(tl w).all cB=true)->hv (tl y)=none:=λq=>by
  unfold hv
  rw [<- hw,if_neg q]
 walk_at "w"
 refine ql (λe=>?_) λe=>?_
 ·walk_at "w"
  have:=h st (aaf _)
  rw [XZ λq=>q.1 (by rw [e,kz])] at this
  exact this
 ·walk_at "w"
  refine em rfl ?_
  refine AL ?_
  walk_at "w"
  refine x8 ?_
  refine dt (by rw [gB,abd,<- ci]; walk_at "o") ?_
  refine d5 (st:=st) (p:=kM) (f:=id) (caps:=[]) (λ_ _=>trivial) (gB w) (λv hv st1 K hp hK=>?_) (λv hv _ st1 K hp hK=>?_) none [] st _ (aaf _) λst1 PZ=>?_
  ·obtain⟨c,hc,rfl⟩:=c8 hv
   walk_at "w"
   refine I3 ?_
   rw [agR,mI,um]
   walk_at "w"
   have:kM (.str ⟨#[c]⟩)=!cB c:=by simp [kM,tl]
   rw [<- this]
   exact hK _ (aaf _)
  ·unfold ia
   walk_at "w"
   exact hK _ (aaf _)
  ·rw [abx,af5]
   have PW:=PZ.trans (aB (st:=st1) (.list ((gB w).filter kM)))
   walk_at "w"
   refine AX (λv hv=>?_) (aA (aB _) (aH _)) (aH _) ?_
   ·obtain⟨hv,_⟩:=adg.mp hv
    obtain⟨c,hc,rfl⟩:=c8 hv
    have:=X0 c hc
    exact⟨.str ⟨#[c]⟩,pO (by unfold ab4; simp; walk_at "o")⟩
   have hb:((gB w).filter kM).isEmpty=(tl w).all cB:=AP (tl w)
   rw [hb]
   have Qj:=PW.trans (aB (.list []))
   walk_at "w"
   cases Yx:(tl w).all cB with
   | false =>
    simp only [adR]
    walk_at "w"
    have:=h _ Qj
    rw [XZ λq=>by rw [Yx] at q; exact absurd q.2 (by decide)] at this
    exact this
   | true =>
    simp only [adK]
    walk_at "w"
    have P6:tl w≠[]:=λq=>e (jI (by rw [q,kz]))
    have Sw:ahF w=some ((digitsVal (tl w):Nat):Int):=by
     refine intText_digits (λc hc=>?_) P6 (by walk_at "o")
     rw [abQ] at Yx
     have:=Yx c hc
     unfold cB at this
     rw [abZ,decide_eq_true_eq,decide_eq_true_eq] at this
     exact this
    refine Ik Sw Vy ?_
    refine ck (kL (by decide)) ?_
    walk_at "w"
    refine Ew ?_
    walk_at "w"
    have:=h _ Qj
    unfold hv at this
    rw [<- hw,if_pos ⟨P6,Yx⟩] at this
    have e0:(if (!decide (w=w))=true then (1:Int) else 0)=0:=by simp
    rw [e0]
    refine dS (λe3=>?_) λe3=>?_
    ·walk_at "w"
     subst e3
     have hn:¬(tl y).take 1=[45]:=λq=>by
      rw [if_pos q] at hw
      have h1:=congrArg afq hw
      rw [ach] at h1
      have:(tl y).length≠0:=λq=>P6 (abI q)
      walk_at "o"
     rw [if_neg hn] at this
     rw [Int.add_zero]
     exact this
    ·walk_at "w"
     refine ck trivial ?_
     have hn:(tl y).take 1=[45]:=by
      by_cases q:(tl y).take 1=[45]
      ·exact q
      ·rw [if_neg q] at hw
       exact absurd (jI hw.symm) e3
     rw [if_pos hn] at this
     rw [if_pos hn] at hw
     rw [hw,Int.add_zero,Int.zero_sub]
     exact this
theorem yh (hl:x.length<=640)(hd:46 ∉ tl x)(ha:∀c∈tl x,c < 128)(h:∀Ps,st <+: Ps->Q (dK (hv (tl (eL x)))) Ps):fZ [.str x] st Q:=by
 have htl:=Bo x
 refine cE rfl ?_
 walk_at "w"
 refine iH ?_
 walk_at "w"
 refine abf (aaj hl (by decide)) ?_
 have et:afD x (" ":Str)=eL x:=rfl
 rw [et]
 walk_at "w"
 refine pa (by walk_at "o") ?_
 walk_at "w"
 have US:46 ∉ tl (eL x):=λq=>hd (qg q)
 have We:∀c∈tl (eL x),c < 128:=λc hc=>ha c (qg hc)
 have dot:∀w:Str,(∀c∈tl w,c∈tl (eL x))->abD w (some (-2)) none≠(".5":Str):=λw hw e=>by
  have:=tf w (some (-2)) none 46 (by rw [e]; decide +kernel)
  exact US (hw 46 this)
 refine dS (λe=>?_) λe=>?_
 ·have hn:=(uh _).mp e
  have h1:1<=(eL x).length:=by
   have:((tl (eL x)).take 1).length=1:=by rw [hn]; rfl
   rw [aiM] at this
   rw [ci]; walk_at "o"
  have hf:tl (abD (eL x) (some 1) none)=(tl (eL x)).drop 1:=F3 (eL x) h1
  walk_at "w"
  refine w4 (by walk_at "o") ?_
  walk_at "w"
  have VF:=Txt.slice_le (eL x) (some 1) none
  refine w4 (by walk_at "o") ?_
  walk_at "w"
  have d1:=dot (abD (eL x) (some 1) none) (tf (eL x) (some 1) none)
  refine dS ?_ ?_
  ·exact λe2=>absurd e2 d1
  intro _
  walk_at "w"
  exact ER (by walk_at "o") US We (by rw [hf,if_pos hn]) h
 ·have hn:¬(tl (eL x)).take 1=[45]:=λq=>e ((uh _).mpr q)
  walk_at "w"
  refine w4 (by walk_at "o") ?_
  walk_at "w"
  have d1:=dot (eL x) λc hc=>hc
  refine dS ?_ ?_
  ·exact λe2=>absurd e2 d1
  intro _
  walk_at "w"
  exact ER (by walk_at "o") US We (by rw [if_neg hn]) h
end
noncomputable abbrev iM:Str:=("2.5":Str)
theorem He:eL iM=iM:=by decide +kernel
section
variable {st:MS}{Q:MV->MS->Prop}{x:Str}{F:MF->aG->MS->Prop}{ρ:aG}
theorem HQ (h:Q (num 5 2) st):gK [.str iM] st Q:=by
 refine cE rfl ?_
 walk_at "w"
 refine zw (by unfold pC; decide +kernel) (by decide +kernel) ?_
 rw [He]
 walk_at "w"
 refine pa (by decide +kernel) ?_
 rw [show abD iM none (some 1)=("2":Str) by decide +kernel]
 walk_at "w"
 refine dS (λe=>absurd e (by decide +kernel)) λ_=>?_
 walk_at "w"
 refine nq (a:=0) (by decide +kernel) (by decide +kernel) ?_
 rw [show fC iM 0=1 by decide +kernel]
 walk_at "w"
 refine mV (by decide +kernel) ?_
 rw [show abD iM (some 0) (some ((1:Nat):Int))=("2":Str) by decide +kernel]
 walk_at "w"
 refine eF rfl ?_
 walk_at "w"
 refine mV (by decide +kernel) ?_
 rw [show abD iM (some ((1:Nat):Int)) (some (((1:Nat):Int)+1))=(".":Str) by decide +kernel]
 walk_at "w"
 refine bH (λ_=>?_) λe=>absurd rfl e
 walk_at "w"
 refine nq (a:=2) (by decide +kernel) (by decide +kernel) ?_
 rw [show fC iM 2=3 by decide +kernel]
 walk_at "w"
 refine mV (by decide +kernel) ?_
 rw [show abD iM (some (((1:Nat):Int)+1)) (some ((3:Nat):Int))=("5":Str) by decide +kernel]
 walk_at "w"
 refine len_str (by decide +kernel) ?_
 walk_at "w"
 refine ql (λe=>absurd e (by decide +kernel)) λ_=>?_
 walk_at "w"
 refine r7 (by decide +kernel) ?_
 rw [show ("2":Str)++("5":Str)=("25":Str) by decide +kernel]
 walk_at "w"
 refine ql (λe=>absurd e (by decide +kernel)) λ_=>?_
 walk_at "w"
 refine r7 (by decide +kernel) ?_
 rw [show ("2":Str)++("5":Str)=("25":Str) by decide +kernel]
 walk_at "w"
 refine wn (by decide +kernel) ?_
 rw [show digitsVal (tl ("25":Str))=25 by decide +kernel]
 walk_at "w"
 refine len_str (by decide +kernel) ?_
 walk_at "w"
 refine ck ⟨by decide +kernel,by decide +kernel,by decide⟩ ?_
 rw [show (10:Int) ^ ((("5":Str).length:Int)).toNat=10 by decide +kernel]
 refine i5 (by decide) (by decide) ?_
 rw [show num (((25:Nat):Int) / (aci ((25:Nat):Int) 10:Nat)) (10 / (aci ((25:Nat):Int) 10:Nat))=num 5 2 by
  rw [show aci ((25:Nat):Int) 10=5 by decide +kernel]; rfl]
 walk_at "w"
 refine dS (λe=>absurd e (by decide)) λ_=>?_
 walk_at "w"
 exact h
theorem Dj (h:∀Ps,st <+: Ps->Q (.int 5) Ps):fZ [.str iM] st Q:=by
 refine cE rfl ?_
 walk_at "w"
 refine iH ?_
 walk_at "w"
 refine abf (by decide +kernel) ?_
 rw [show afD iM (" ":Str)=iM from He]
 walk_at "w"
 refine pa (by decide +kernel) ?_
 rw [show abD iM none (some 1)=("2":Str) by decide +kernel]
 walk_at "w"
 refine dS (λe=>absurd e (by decide +kernel)) λ_=>?_
 walk_at "w"
 refine w4 (by decide +kernel) ?_
 rw [show abD iM (some (-2)) none=(".5":Str) by decide +kernel]
 walk_at "w"
 refine dS (λ_=>?_) λe=>absurd rfl e
 walk_at "w"
 refine pa (by decide +kernel) ?_
 rw [show abD iM none (some (-2))=("2":Str) by decide +kernel]
 walk_at "w"
 refine ql (λe=>absurd e (by decide +kernel)) λ_=>?_
 walk_at "w"
 refine em rfl ?_
 refine AL ?_
 walk_at "w"
 refine x8 ?_
 refine dt (by decide +kernel) ?_
 refine d5 (st:=st) (p:=kM) (f:=id) (caps:=[]) (λ_ _=>trivial) (gB ("2":Str)) (λv hv st1 K hp hK=>?_) (λv hv _ st1 K hp hK=>?_) none [] st _ (aaf _) λst1 PZ=>?_
 ·obtain⟨c,hc,rfl⟩:=c8 hv
  walk_at "w"
  refine I3 ?_
  rw [agR,mI,um]
  walk_at "w"
  have:kM (.str ⟨#[c]⟩)=!cB c:=by simp [kM,tl]
  rw [<- this]
  exact hK _ (aaf _)
 ·unfold ia
  walk_at "w"
  exact hK _ (aaf _)
 ·have PW:=PZ.trans (aB (st:=st1) (.list ([]++((gB ("2":Str)).filter kM).map id)))
  have hb:((gB ("2":Str)).filter kM).isEmpty=true:=by
   have:=AP (tl ("2":Str))
   rw [show (tl ("2":Str)).all cB=true by decide +kernel] at this
   exact this
  rw [List.isEmpty_iff] at hb
  rw [hb] at PW ⊢
  walk_at "w"
  refine AX (xs:=[]) (λv hv=>by cases hv) (aA (aB _) (aH _)) (aH _) ?_
  have Qj:=PW.trans (aB (.list []))
  simp only [af0,adK]
  walk_at "w"
  refine Ik (n:=2) ((intText_digits (x:=("2":Str)) (by unfold AllDigits; decide +kernel) (by decide +kernel) (by decide +kernel)).trans (by decide +kernel)) (by decide +kernel) ?_
  walk_at "w"
  refine ck (kL (by decide)) ?_
  walk_at "w"
  refine Ew ?_
  walk_at "w"
  rw [show (if (!decide (("2":Str)=iM))=true then (1:Int) else 0)=1 by decide +kernel]
  refine dS (λ_=>?_) λe=>absurd rfl e
  walk_at "w"
  exact h _ Qj
noncomputable def halves (x:Str):Option Int:=if x=iM then some 5 else hv (tl (eL x))
def jS (x:Str):Prop:=x.length<=640/\(x=iM\/(46 ∉ tl x/\∀c∈tl x,32<=c/\c < 128))
theorem jS.read (hx:jS x)(h:Q (gL (halves x)) st):gK [.str x] st Q:=by
 unfold halves at h
 obtain⟨hl,rfl | ⟨h1,h2⟩⟩:=hx
 ·rw [if_pos rfl] at h; exact HQ h
 ·rw [if_neg (λe=>h1 (by rw [e]; decide +kernel))] at h
  exact AN (λc hc=>by have:=h2 c hc; walk_at "o") h1 (by walk_at "o") h
theorem jS.halves (hx:jS x)(h:∀Ps,st <+: Ps->Q (dK (halves x)) Ps):fZ [.str x] st Q:=by
 unfold Internal.halves at h
 obtain⟨hl,rfl | ⟨h1,h2⟩⟩:=hx
 ·rw [if_pos rfl] at h; exact Dj h
 ·rw [if_neg (λe=>h1 (by rw [e]; decide +kernel))] at h
  exact yh hl h1 (λc hc=>(h2 c hc).2) h
end
noncomputable def gC:List (Option Int)->Option (List Int)
 | []=>some []
 | some n::os=>(gC os).map (n::·)
 | none::_=>none
noncomputable def qE (os:List (Option Int)):Option Int:=os.foldl tE (some 0)
theorem Ih (o:Option Int):tE none o=none:=rfl
theorem zn:∀os:List (Option Int),os.foldl tE none=none
 | []=>rfl
 | o::os=>by rw [ahk,Ih]; exact zn os
theorem zW:∀(os:List (Option Int))(a:Int),os.foldl tE (some a)=(gC os).map λns=>a+ns.sum
 | [],a=>by simp [gC]
 | none::os,a=>by
  rw [ahk]
  show os.foldl tE none=_
  rw [zn]; rfl
 | some n::os,a=>by
  rw [ahk]
  show os.foldl tE (some (a+n))=_
  rw [zW os]
  cases e:gC os with
  | none=>simp [gC,e]
  | some ns=>simp [gC,e]; walk_at "o"
theorem Js (os:List (Option Int)):qE os=(gC os).map List.sum:=by
 unfold qE
 rw [zW]
 cases gC os <;> simp
theorem DD (os:List (Option Int)):fD (os.map dK)=gC os:=by
 induction os with
 | nil=>rfl
 | cons o os ih =>
  unfold fD at ih ⊢
  rw [abg,adL,ih]
  cases o with
  | none=>rfl
  | some n =>
   show (gC os >>= λys=>pure (n::ys))=(gC os).map (n::·)
   cases gC os <;> rfl
noncomputable def ug:Option Int->abU | some n=>.int n | none=>.none
theorem CA (os:List (Option Int)):fA (os.map dK)=some (os.map ug):=pJ (f:=ee) (k:=ug) (λo=>by cases o <;> rfl) os
theorem A0:∀os:List (Option Int),((os.map ug).any λy=>abH y .none)=(gC os).isNone
 | []=>rfl
 | none::os=>by simp [ug,gC,abH]
 | some n::os=>by
  have:=A0 os
  rw [abg,List.any_cons,this]
  have e:abH (ug (some n)) .none=false:=by simp [ug,abH]
  rw [e,Bool.false_or]
  cases h:gC os <;> simp [gC,h]
section
variable {st Ps:MS}{t R:Nat}{lay:List cH}{d:List Rw}{k:Nat}{Q:MV->MS->Prop}{x:Str}{F:MF->aG->MS->Prop}{ρ:aG}
def Mv (f:MV->MS->Option Bool)(Q:MV->MS->Prop):MV->MS->Prop:=λV Pt=>dU (f V Pt) λb=>Q (.bool b) Pt
theorem wH {f:MV->MS->Option Bool}{a:TE}(h:a ρ st (Mv f Q)):qC f a ρ st Q:=h
theorem ue {f:MV->MS->Option Bool}{V:MV}{b:Bool}(hf:f V st=some b)(h:Q (.bool b) st):Mv f Q V st:=l3 hf h
theorem qi {i:Nat}{xs:List MV}(hi:st[i]?=some (.list xs))(h:Q (.ref i) st):jV [.ref i] st Q:=by
 refine cE rfl ?_
 walk_at "w"
 refine wH ?_
 walk_at "w"
 refine ue (b:=true) (by unfold yt; dsimp only; rw [hi]; rfl) ?_
 walk_at "w"
 exact h
theorem Ip {i:Nat}{xs:List MV}(hi:st[i]?=some (.list xs))(hl:xs.length<=1000)(h:Q (num (xs.length:Int) 1) st):sg [.ref i] st Q:=by
 refine cE rfl ?_
 walk_at "w"
 refine qi hi ?_
 walk_at "w"
 refine gu hi (by walk_at "o") ?_
 walk_at "w"
 refine gM ?_
 walk_at "w"
 exact h
theorem IW (W:Wf d)(T:Tr st t R lay d)(hs:h7 d){i:Nat}{ks:List Nat}(hi:st[i]?=some (.list (ay ks)))(hk:∀k∈ks,k < d.length)(hn:∀k,k < d.length->jS (bi d k))
  (h:∀Ps,st <+: Ps->Q (gL (qE (ks.map λk=>halves (bi d k)))) Ps):wa [.ref i,.ref t] st Q:=by
 refine cE rfl ?_
 walk_at "w"
 refine gM ?_
 walk_at "w"
 refine qi hi ?_
 refine cb hi ?_
 have key:∀(l:List Nat) (o:Option Int) (st1:MS) (a:Option MV) (F:MF->aG->MS->Prop),(∀k∈l,k < d.length)->st <+: st1->(∀Ps a,st <+: Ps->F .next [some (.ref i),some (.ref t),some (gL ((l.map λk=>halves (bi d k)).foldl tE o)),a] Ps) ->
   ew (λs=>s[i]?=some (.list (ay ks))) (b8 3) u8 (ay l) [some (.ref i),some (.ref t),some (gL o),a] st1 F:=by
  intro l
  induction l with
  | nil=>intro o st1 a F _ hp h; exact⟨aA hp hi,h _ _ hp⟩
  | cons k l ih =>
   intro o st1 a F hl hp h
   refine cT (aA hp hi) ?_
   walk_at "w"
   refine o7 W (T.mono hp) hs (hl k (.head _)) λP1 PW=>?_
   walk_at "w"
   refine (hn k (hl k (.head _))).read ?_
   walk_at "w"
   refine M6 ?_
   walk_at "w"
   refine ih _ _ _ _ (λy hy=>hl y (.tail _ hy)) (hp.trans PW) λPs a RX=>?_
   exact h Ps a RX
 refine key ks (some 0) st _ _ hk (aaf _) λPs a hp=>?_
 walk_at "w"
 exact h Ps hp
theorem y9 {i:Nat}{ts:List Str}(hi:st[i]?=some (.list (ts.map .str)))(hl:ts.length<=200)(hn:∀x∈ts,jS x)
  (h:∀Ps,st <+: Ps->Q (gL (qE (ts.map halves))) Ps):jx [.ref i] st Q:=by
 refine cE rfl ?_
 walk_at "w"
 refine em rfl ?_
 refine Ls ?_
 walk_at "w"
 refine cb hi ?_
 refine dt (by rw [abd]; walk_at "o") ?_
 refine d5 (st:=st) (p:=λ_=>true) (f:=λv=>match v with | .str x=>dK (halves x) | _=>.none) (caps:=[]) (λs hs=>aA hs hi) (ts.map .str) (λv hv st1 K hp hK=>?_) (λv hv _ st1 K hp hK=>?_) none [] st _ (aaf _) λst1 PZ=>?_
 ·walk_at "w"
  exact hK _ (aaf _)
 ·obtain⟨x,hx,rfl⟩:=c8 hv
  walk_at "w"
  exact (hn x hx).halves hK
 ·have e:[]++((ts.map MV.str).filter λ_=>true).map (λv=>match v with | .str x=>dK (halves x) | _=>.none)=(ts.map halves).map dK:=by
   rw [abx,ad6.mpr (λ_ _=>rfl),ab3,ab3]; rfl
  rw [e]
  generalize hos:ts.map halves=os at h
  have PW:=PZ.trans (aB (st:=st1) (.list (os.map dK)))
  have hg:=aH (st:=st1) (.list (os.map dK))
  have QX:∀K:MV->MS->Prop,K (.bool (gC os).isNone) (st1++[.list (os.map dK)])->im false [.none,.ref st1.length] (st1++[.list (os.map dK)]) K:=by
   intro K hK
   exact Ft (λ_ _=>rfl) (JU rfl (dX hg (CA _)) (by rw [A0,ahJ]; exact hK))
  have hQ:=h _ PW
  rw [Js] at hQ
  have XV:∀(ns:List Int) (K:MV->MS->Prop),gC os=some ns->K (.int ns.sum) (st1++[.list (os.map dK)])->xF [.ref st1.length] (st1++[.list (os.map dK)]) K:=by
   intro ns K e hK
   exact eI hg (l3 ((DD _).trans e) hK)
  walk_at "w"
  refine QX _ ?_
  cases ea:gC os with
  | none =>
   rw [ea] at hQ
   simp only [Option.isNone_none]
   walk_at "w"
   exact hQ
  | some ns =>
   rw [ea] at hQ
   simp only [Option.isNone_some]
   have YN:=XV ns
   walk_at "w"
   refine YN _ ea ?_
   walk_at "w"
   refine ck (by decide) ?_
   walk_at "w"
   have hfm:acl ns.sum 2=ns.sum % 2:=agw _ (by decide)
   have U7:af4 ns.sum 2=ns.sum / 2:=aeC _ (by decide)
   rw [hfm]
   change Q (gL (some ns.sum)) _ at hQ
   unfold gL at hQ
   dsimp only at hQ
   refine dS (λe=>?_) λe=>?_
   ·rw [if_pos e] at hQ
    walk_at "w"
    refine YN _ ea ?_
    walk_at "w"
    refine ck ⟨by decide,by decide⟩ ?_
    rw [U7]
    walk_at "w"
    exact hQ
   ·rw [if_neg e] at hQ
    walk_at "w"
    refine YN _ ea ?_
    walk_at "w"
    exact hQ
end
open PySem.StrLaws
noncomputable def gj:List Nat->List Nat->List (List Nat)
 | QD,[]=>if QD=[] then [] else [QD]
 | QD,c::r=>if dA c then (if QD=[] then gj [] r else QD::gj [] r) else gj (QD++[c]) r
noncomputable def oN (l:List Nat):List (List Nat):=gj [] l
theorem vi (QD:List Nat):gj QD []=if QD=[] then [] else [QD]:=by rw [gj]
theorem iy (QD:List Nat)(c:Nat)(r:List Nat):gj QD (c::r)=if dA c then (if QD=[] then gj [] r else QD::gj [] r) else gj (QD++[c]) r:=by rw [gj]
theorem Ju:∀(a QD b:List Nat),gj QD (a++32::b)=gj QD a++gj [] b:=by
 intro a
 induction a with
 | nil =>
  intro QD b
  rw [abx,iy,vi,if_pos (show dA 32=true from rfl)]
  by_cases h:QD=[]
  ·rw [if_pos h,if_pos h]; rfl
  ·rw [if_neg h,if_neg h]; rfl
 | cons c a ih =>
  intro QD b
  rw [ada,iy,iy]
  by_cases hs:dA c=true
  ·rw [if_pos hs,if_pos hs]
   by_cases h:QD=[]
   ·rw [if_pos h,if_pos h]; exact ih [] b
   ·rw [if_neg h,if_neg h,ih [] b]; rfl
  ·rw [if_neg hs,if_neg hs]; exact ih (QD++[c]) b
noncomputable def nQ (w:List Nat):Str:=⟨w.toArray⟩
theorem Ck (w:List Nat):tl (nQ w)=w:=by simp [nQ,tl]
def ku (x:Str):Prop:=∀c∈tl x,32<=c/\c < 128
theorem Hx:((adq 32 96).all λc=>Unicode.isSpace c == dA c)=true:=by decide +kernel
theorem It {c:Nat}(h:32<=c/\c < 128):Unicode.isSpace c=dA c:=by
 have:=Hx
 rw [abQ] at this
 exact eq_of_beq (this c (by rw [agK]; walk_at "o"))
noncomputable def g6 (l:List Nat)(b i:Nat):List Nat:=(l.drop b).take (i - b)
theorem vm {l:List Nat}{b i c:Nat}(hb:b<=i)(hc:l[i]?=some c):g6 l b (i+1)=g6 l b i++[c]:=by
 unfold g6
 rw [show i+1 - b=(i - b)+1 by walk_at "o",aiC,agC,show b+(i - b)=i by walk_at "o",hc]
 rfl
theorem wI {l:List Nat}{b i:Nat}(hb:b < i)(hi:i<=l.length):g6 l b i≠[]:=by
 intro e
 have:=congrArg afq e
 unfold g6 at this
 rw [aiM,ach] at this
 simp at this
 walk_at "o"
theorem yR {l:List Nat}{i c:Nat}(hc:l[i]?=some c):l.drop i=c::l.drop (i+1):=by
 obtain⟨h,rfl⟩:=bP hc
 exact ab8 h
theorem IL (x:Str)(ha:ku x):∀(m i:Nat)(w:Array (Nat×Nat))(b:Option Nat),i+m=x.length->w.size<=i->(∀s,b=some s->s < i) ->
  (swEnd x (forIn (adq i m) ((none,w,b):SwSt) (swBody x (x.length+1))).run).map (λp=>aeY x p.1 p.2) =
   (w.toList.map λp=>aeY x p.1 p.2)++(gj (match b with | some s=>g6 (tl x) s i | none=>[]) ((tl x).drop i)).map nQ:=by
 intro m
 induction m with
 | zero =>
  intro i w b hi hw hb
  have PL:=ci x
  have hd:(tl x).drop i=[]:=aef (by walk_at "o")
  rw [hd]
  cases b with
  | none =>
   show (swEnd x (none,w,none)).map _=_
   simp [swEnd,gj]
  | some s =>
   have P6:=wI (l:=tl x) (hb s rfl) (by walk_at "o")
   show (swEnd x (none,w,some s)).map _=_
   simp only [swEnd,aet,abB,abg,ad2,gj,if_neg P6]
   congr 2
   refine jI ?_
   refine (afU _ _ _).trans ?_
   rw [Ck]
   unfold g6
   rw [show x.length=i by walk_at "o"]
 | succ m ih =>
  intro i w b hi hw hb
  have PL:=ci x
  obtain⟨c,hc⟩:∃c,(tl x)[i]?=some c:=⟨_,aa9 (by walk_at "o")⟩
  have VL:=It (ha c (abh hc))
  have hg:x.cps.getD i 0=c:=by
   have:x.cps[i]?=some c:=by simpa using hc
   rw [Array.getD_eq_getD_getElem?,this]; rfl
  have hsz:¬((w.size == x.length+1)=true):=by
   rw [beq_iff_eq]; walk_at "o"
  rw [aea,ahg,yR hc]
  rw [iy]
  cases b with
  | none =>
   cases QY:dA c with
   | true =>
    have Td:swBody x (x.length+1) i (none,w,none)=pure (ace (none,w,none)):=by
     unfold swBody
     rw [if_neg hsz,hg,VL,QY]
    rw [Td]
    exact ih (i+1) w none (by walk_at "o") (by walk_at "o") λs e=>by cases e
   | false =>
    have Td:swBody x (x.length+1) i (none,w,none)=pure (ace (none,w,some i)):=by
     unfold swBody
     rw [if_neg hsz,hg,VL,QY]
    rw [Td]
    have:=ih (i+1) w (some i) (by walk_at "o") (by walk_at "o") λs e=>by cases e; walk_at "o"
    dsimp only at this
    rw [vm (abp i) hc,show g6 (tl x) i i=[] by unfold g6; simp] at this
    exact this
  | some s =>
   have hs:=hb s rfl
   have P6:=wI (l:=tl x) hs (by walk_at "o")
   cases QY:dA c with
   | true =>
    have Td:swBody x (x.length+1) i (none,w,some s)=pure (ace (none,w.push (s,i),none)):=by
     unfold swBody
     rw [if_neg hsz,hg,VL,QY]
    rw [Td]
    have:=ih (i+1) (w.push (s,i)) none (by walk_at "o") (by simp; walk_at "o") λs e=>by cases e
    rw [aet,abB,abg,ad2] at this
    have e2:aeY x s i=nQ (g6 (tl x) s i):=jI ((afU _ _ _).trans (Ck _).symm)
    rw [e2] at this
    simp only [if_true,if_neg P6,abg]
    refine Eq.trans this ?_
    simp
   | false =>
    have Td:swBody x (x.length+1) i (none,w,some s)=pure (ace (none,w,some s)):=by
     unfold swBody
     rw [if_neg hsz,hg,VL,QY]
    rw [Td]
    have:=ih (i+1) w (some s) (by walk_at "o") (by walk_at "o") λs' e=>by cases e; walk_at "o"
    dsimp only at this
    rw [vm (adi hs) hc] at this
    exact this
set_option tactic.hygienic true in
theorem AQ (x:Str)(ha:ku x):aeJ x=(oN (tl x)).map nQ:=by
 have hw:=IL x ha x.length 0 #[] none (by walk_at "o") (by simp) λs e=>by cases e
 rw [<- sw_eq] at hw
 have h1:aeJ x=(Builtin.Str.spaceWords x (x.length+1)).map λp=>aeY x p.1 p.2:=by
  unfold aeJ
  split
  ·rename_i e
   rw [eq_of_beq e]
   simp only [abg,ad2]
   rw [strSub_whole]
  ·rfl
 rw [h1]
 simpa [oN] using hw
section
variable {st:MS}{Q:MV->MS->Prop}{x:Str}{F:MF->aG->MS->Prop}
theorem EE {y:TE}{ρ:aG}(h:y ρ st Q):wP y ρ Q (.bool true) st:=h
theorem GP {c:Nat}(h9:c≠9/\c≠10/\c≠13)(h:Q (.bool (dA c)) st):pW [.str ⟨#[c]⟩] st Q:=by
 refine cE rfl ?_
 walk_at "w"
 refine xQ ?_
 walk_at "w"
 refine pH ?_
 rw [mI,H9]
 have g1:(c == 9)=false:=by simp [h9.1]
 have g2:(c == 10)=false:=by simp [h9.2.1]
 have g3:(c == 13)=false:=by simp [h9.2.2]
 rw [g1,g2,g3]
 simp only [Bool.or_false]
 cases e:(c == 32) with
 | true =>
  have e1:dA c=true:=e
  rw [e1] at h
  refine EE ?_
  walk_at "w"
  have:¬(⟨#[c]⟩:Str)=("":Str):=λq=>by
   have:=congrArg (λs:Str=>(tl s).length) q
   rw [show (tl ("":Str)).length=0 by decide +kernel] at this
   simp at this
  rw [decide_eq_false this]
  exact h
 | false =>
  have e1:dA c=false:=e
  rw [e1] at h
  exact h
noncomputable abbrev fT (fd:List (List Nat)):List MV:=(fd.map nQ).map .str
noncomputable def tZ (x:Str)(b i:Nat):List (List Nat):=if i<=x.length then gj (g6 (tl x) b i) ((tl x).drop i) else []
theorem HC {x:Str}{b i:Nat}(h:x.length < i):tZ x b i=[]:=by unfold tZ; rw [if_neg (by walk_at "o")]
theorem kJ {x:Str}{b i:Nat}(h:i<=x.length):tZ x b i=gj (g6 (tl x) b i) ((tl x).drop i):=by unfold tZ; rw [if_pos h]
theorem ym {l:List Nat}{b i:Nat}(h:¬b < i):g6 l b i=[]:=by
 unfold g6; rw [show i - b=0 by walk_at "o",List.take_zero]
theorem G1 {b i:Nat}(hb:b<=i)(hi:i<=x.length):abD x (some (b:Int)) (some (i:Int))=nQ (g6 (tl x) b i):=
 jI (by rw [lN x hb (by walk_at "o"),Ck]; rfl)
theorem EO (hl:x.length<=1000){Ps:MS}{f i b:Nat}{fd:List (List Nat)}(hb:b<=i)(hi:i<=x.length)(hp:st <+: Ps)(hf:st.length<=f)(hx:Ps[f]?=some (.list (fT fd)))(Tu:fd.length<=i)
  (h:∀P1,st <+: P1->P1[f]?=some (.list (fT (fd++(if b < i then [g6 (tl x) b i] else []))))->F .next [some (.str x),some (.ref f),some (.int ((i+1:Nat):Int)),some (.int (i:Int))] P1) :
  (aj (bW (bT (ar (bw λa b=>decide (a > b)) (af 3) (af 2))) (aj (bY (cq .list bx (af 1) (ad (iV (af 0) (af 2) (af 3)) ak))) az) az) (aj (aX 2 (ar cM (af 3) (tK (.int 1)))) az)) [some (.str x),some (.ref f),some (.int (b:Int)),some (.int (i:Int))] Ps F:=by
 walk_at "w"
 refine bH (λPR=>?_) λRt=>?_
 ·rw [if_pos (by walk_at "o")] at h
  walk_at "w"
  refine d6 (hx) ?_
  walk_at "w"
  refine mV hl ?_
  rw [G1 hb hi]
  refine dG hx (by simp [fT]; exact aaj (by walk_at "o":fd.length<=1000) (by decide)) ?_
  walk_at "w"
  refine h _ (mG hp hf) ?_
  rw [abq (bP hx).1]
  simp [fT]
 ·rw [if_neg (by walk_at "o"),abr] at h
  walk_at "w"
  exact h _ hp hx
theorem Fp (ha:ku x)(hl:x.length<=1000){f:Nat}:∀(m i b:Nat)(fd:List (List Nat))(Ps:MS)(a:Option MV),i+m=x.length+1->b<=i->st <+: Ps->st.length<=f->Ps[f]?=some (.list (fT fd))->fd.length<=i ->
  (∀PT b' a',st <+: PT->PT[f]?=some (.list (fT (fd++tZ x b i)))->F .next [some (.str x),some (.ref f),b',a'] PT) ->
  ew (λ_=>True) (b8 3) nr ((adq i m).map λ(i:Nat)=>.int (i:Int)) [some (.str x),some (.ref f),some (.int (b:Int)),a] Ps F:=by
 intro m
 induction m with
 | zero =>
  intro i b fd Ps a hi hb hp hf hx Tu h
  refine⟨trivial,h _ _ _ hp ?_⟩
  unfold tZ
  rw [if_neg (by walk_at "o"),abr]
  exact hx
 | succ m ih =>
  intro i b fd Ps a hi hb hp hf hx Tu h
  have PL:=ci x
  rw [aea,abg]
  refine cT trivial ?_
  walk_at "w"
  refine len_str (by walk_at "o") ?_
  walk_at "w"
  refine ql (λhe=>?_) λP6=>?_
  ·have he:i=x.length:=by walk_at "o"
   walk_at "w"
   refine EO hl hb (by walk_at "o") hp hf hx Tu λP1 PW Rr=>?_
   walk_at "w"
   refine ih (i+1) (i+1) _ P1 _ (by walk_at "o") (abp _) PW hf Rr ?_ λPT b' a' Qj Un=>h PT b' a' Qj ?_
   ·split <;> simp <;> walk_at "o"
   ·rw [Un]
    rw [HC (i:=i+1) (by walk_at "o"),kJ (i:=i) (by walk_at "o"),abr,aef (by walk_at "o":(tl x).length<=i),vi]
    congr 3
    by_cases PR:b < i
    ·rw [if_pos PR,if_neg (wI PR (by walk_at "o"))]
    ·rw [if_neg PR,if_pos (ym PR)]
  ·have hil:i < x.length:=by walk_at "o"
   obtain⟨c,hc⟩:∃c,(tl x)[i]?=some c:=⟨_,aa9 (by walk_at "o")⟩
   have Zv:=ha c (abh hc)
   walk_at "w"
   refine mH rfl hc (by walk_at "o") ?_
   walk_at "w"
   refine GP (by walk_at "o") ?_
   cases VL:dA c with
   | true =>
    walk_at "w"
    refine EO hl hb (by walk_at "o") hp hf hx Tu λP1 PW Rr=>?_
    walk_at "w"
    refine ih (i+1) (i+1) _ P1 _ (by walk_at "o") (abp _) PW hf Rr ?_ λPT b' a' Qj Un=>h PT b' a' Qj ?_
    ·split <;> simp <;> walk_at "o"
    ·rw [Un]
     rw [kJ (i:=i+1) (by walk_at "o"),kJ (i:=i) (by walk_at "o"),ym (by walk_at "o":¬i+1 < i+1),yR hc,iy,if_pos VL]
     congr 3
     by_cases PR:b < i
     ·rw [if_pos PR,if_neg (wI PR (by walk_at "o"))]; simp
     ·rw [if_neg PR,if_pos (ym PR)]; simp
   | false =>
    walk_at "w"
    refine ih (i+1) b _ Ps _ (by walk_at "o") (by walk_at "o") hp hf hx (by walk_at "o") λPT b' a' Qj Un=>h PT b' a' Qj ?_
    rw [Un]
    rw [kJ (i:=i+1) (by walk_at "o"),kJ (i:=i) (by walk_at "o"),vm hb hc,yR hc,iy,VL]
    rfl
theorem qP (ha:ku x)(hl:x.length<=1000)(h:∀Ps i,st <+: Ps->st.length<=i->Ps[i]?=some (.list (fT (oN (tl x))))->Q (.ref i) Ps):i6 [.str x] st Q:=by
 refine cE rfl ?_
 walk_at "w"
 refine eF rfl ?_
 walk_at "w"
 refine len_str (by walk_at "o") ?_
 walk_at "w"
 refine abf (by walk_at "o") (abf (by walk_at "o") ?_)
 have e:ow ((x.length:Int)+1).toNat=(adq 0 (x.length+1)).map λ(i:Nat)=>MV.int (i:Int):=by
  unfold ow
  rw [af7,show ((x.length:Int)+1).toNat=x.length+1 by walk_at "o"]
 rw [e]
 refine Fp (st:=st) ha hl (x.length+1) 0 0 [] _ _ (by walk_at "o") (abp _) (aB _) (abp _) (aH _) (abP _) λPT b' a' hp hx=>?_
 walk_at "w"
 refine h _ _ hp (abp _) ?_
 rw [hx]
 rw [kJ (abP _),show g6 (tl x) 0 0=[] by unfold g6; simp]
 rfl
end
theorem zM (x y:Str):tl (x++y)=tl x++tl y:=by
 show (x++y).cps.toList=_
 rw [Str.cps_append,ah1]
theorem fy (SB:Str)(l:List Str):aeB SB l=ahM SB l:=glued_eq_join SB l
theorem mS (SB x y:Str)(l:List Str):tl (ahM SB (x::y::l))=tl x++tl SB++tl (ahM SB (y::l)):=by
 show tl (x++SB++ahM SB (y::l))=_
 rw [zM,zM]
theorem qD:∀l:List Str,tl (aeB ("":Str) l)=(l.map tl).flatten
 | []=>by rw [fy]; rfl
 | [x]=>by rw [fy]; show tl x=_; simp
 | x::y::l=>by
  have:=qD (y::l)
  rw [fy] at this ⊢
  rw [mS,this,kz]
  simp
theorem BR:∀l:List Str,oN (tl (aeB (" ":Str) l))=(l.map λx=>oN (tl x)).flatten
 | []=>by rw [fy]; rfl
 | [x]=>by rw [fy]; show oN (tl x)=_; simp
 | x::y::l=>by
  have:=BR (y::l)
  rw [fy] at this ⊢
  rw [mS,show tl (" ":Str)=[32] by decide +kernel,abL,ada,abx]
  unfold oN at this ⊢
  rw [Ju,this]
  rfl
theorem Jz {l:List Str}(h:∀x∈l,ku x):ku (aeB (" ":Str) l):=by
 induction l with
 | nil=>intro c hc; rw [fy] at hc; exact absurd hc (by simp [ahM,Str.empty,tl])
 | cons x l ih =>
  cases l with
  | nil=>rw [fy]; exact h x (.head _)
  | cons y l =>
   have:=ih λz hz=>h z (.tail _ hz)
   intro c hc
   rw [fy] at this hc
   rw [mS] at hc
   rcases dW hc with hc | hc
   ·rcases dW hc with hc | hc
    ·exact h x (.head _) c hc
    ·rw [show tl (" ":Str)=[32] by decide +kernel] at hc
     rw [cr hc]; walk_at "o"
   ·exact this c hc
theorem JM:∀(l QD:List Nat),2 * (gj QD l).length<=l.length+(if QD=[] then 1 else 2):=by
 intro l
 induction l with
 | nil =>
  intro QD
  rw [vi]
  by_cases h:QD=[] <;> simp [h]
 | cons c l ih =>
  intro QD
  rw [iy]
  have h1:=ih []
  have h2:=ih (QD++[c])
  rw [if_pos rfl] at h1
  rw [if_neg (by simp)] at h2
  by_cases hs:dA c=true
  ·rw [if_pos hs]
   by_cases h:QD=[]
   ·rw [if_pos h,if_pos h,abw]; walk_at "o"
   ·rw [if_neg h,if_neg h,abw,abw]; walk_at "o"
  ·rw [if_neg hs,abw]
   split <;> walk_at "o"
theorem yJ (l:List Nat):2 * (oN l).length<=l.length+1:=by
 have:=JM l []
 rw [if_pos rfl] at this
 exact this
noncomputable def IJ (x:Str):Bool:=(tl x).all λc=>decide (32<=c) && decide (c < 128)
theorem yz {x:Str}(h:IJ x=true):ku x:=λc hc=>by
 unfold IJ at h
 rw [abQ] at h
 have:=h c hc
 rw [abZ,decide_eq_true_eq,decide_eq_true_eq] at this
 exact this
theorem pA (xs:List Str){v:Str}(h:v∈xs)(e:xs.all IJ=true):ku v:=by
 rw [abQ] at e
 exact yz (e v h)
theorem KO (xs:List Str){v:Str}(h:v∈xs)(e:(xs.all λx=>!(tl x).contains 46)=true):46 ∉ tl v:=by
 rw [abQ] at e
 have:=e v h
 simpa using this
theorem pG (xs:List Str){v:Str}(h:v∈xs)(e:(xs.all λx=>x == iM || !(tl x).contains 46)=true):v=iM\/46 ∉ tl v:=by
 rw [abQ] at e
 have:=e v h
 simpa using this
theorem dI.asc {r:Rw}(h:dI r):ku r.val/\(r.val=iM\/46 ∉ tl r.val):=by
 cases h with
 | root=>exact⟨yz (x:=("":Str)) (by decide +kernel),.inr (show 46 ∉ tl ("":Str) by decide +kernel)⟩
 | elm h=>exact⟨yz (x:=("":Str)) (by decide +kernel),.inr (show 46 ∉ tl ("":Str) by decide +kernel)⟩
 | num h=>exact⟨pA _ h (by decide +kernel),pG _ h (by decide +kernel)⟩
 | lang h=>exact⟨pA _ h (by decide +kernel),pG _ h (by decide +kernel)⟩
 | text h=>exact⟨pA _ h (by decide +kernel),pG _ h (by decide +kernel)⟩
 | comm h=>exact⟨pA _ h (by decide +kernel),pG _ h (by decide +kernel)⟩
theorem dI.textDot {r:Rw}(h:dI r)(e:r.kind=("text":Str)):46 ∉ tl r.val:=by
 cases h with
 | root=>exact absurd e (show ("root":Str)≠("text":Str) by decide +kernel)
 | elm h=>exact absurd e (show ("element":Str)≠("text":Str) by decide +kernel)
 | num h=>exact absurd e (show ("attribute":Str)≠("text":Str) by decide +kernel)
 | lang h=>exact absurd e (show ("attribute":Str)≠("text":Str) by decide +kernel)
 | text h=>exact KO _ h (by decide +kernel)
 | comm h=>exact absurd e (show ("comment":Str)≠("text":Str) by decide +kernel)
section
variable {d:List Rw}{ss:List Nat}
set_option tactic.hygienic true in
theorem Bd (W:Wf d)(ok:∀k,k < d.length->dI (aL d k))(hs:d.length<=19){k:Nat}(hk:k < d.length):(bi d k).length<=95/\ku (bi d k)/\(bi d k=iM\/46 ∉ tl (bi d k)):=by
 unfold bi
 split
 ·rename_i hc
  have QX:∀x∈((de d d.length k).filter λj=>decide ((aL d j).kind=("text":Str))).map λj=>(aL d j).val,ku x/\46 ∉ tl x/\x.length<=5:=by
   intro x hx
   obtain⟨j,hj,rfl⟩:=c8 hx
   obtain⟨hj,ht⟩:=adg.mp hj
   have hjd:=((fN W d.length k j (by walk_at "o")).mp hj).1
   have hr:=ok j hjd
   exact⟨hr.asc.1,hr.textDot (of_decide_eq_true ht),hr.vlen⟩
  have hn:(((de d d.length k).filter λj=>decide ((aL d j).kind=("text":Str))).map λj=>(aL d j).val).length<=19:=by
   rw [abd]
   refine aaj (afT _ _) ?_
   rw [iB W (by (first | lia | omega))]
   exact aaj (e6 d _) hs
  generalize ((de d d.length k).filter λj=>decide ((aL d j).kind=("text":Str))).map (λj=>(aL d j).val)=l at QX hn
  refine⟨?_,λc hc=>?_,.inr λhc=>?_⟩
  ·rw [ci,qD,List.length_flatten,ab3]
   have:∀l:List Str,(∀x∈l,ku x/\46 ∉ tl x/\x.length<=5)->(l.map (afq ∘ tl)).sum<=5 * l.length:=by
    intro l
    induction l with
    | nil=>intro _; simp
    | cons x l ih =>
     intro h
     have h1:=(h x (.head _)).2.2
     rw [ci] at h1
     have:=ih λy hy=>h y (.tail _ hy)
     simp only [abg,List.sum_cons,abw,Function.comp]
     walk_at "o"
   have:=this l QX
   walk_at "o"
  ·rw [qD] at hc
   refine bv λGG PD=>?_
   obtain⟨m,hm,V5⟩:=List.mem_flatten.mp hc
   obtain⟨x,hx,rfl⟩:=c8 hm
   refine PD ?_
   exact (QX x hx).1 c V5
  ·rw [qD] at hc
   refine bv λGG PD=>?_
   obtain⟨m,hm,V5⟩:=List.mem_flatten.mp hc
   obtain⟨x,hx,rfl⟩:=c8 hm
   refine PD ?_
   exact (QX x hx).2.1 V5
 ·have hr:=ok k hk
  exact⟨aaj hr.vlen (by decide),hr.asc.1,hr.asc.2⟩
theorem zj (W:Wf d)(ok:∀k,k < d.length->dI (aL d k))(hs:d.length<=19){k:Nat}(hk:k < d.length):jS (bi d k):=by
 obtain⟨h1,h2,h3⟩:=Bd W ok hs hk
 refine⟨by walk_at "o",h3.imp id λh=>⟨h,h2⟩⟩
end
section
variable {st Ps:MS}{t R:Nat}{lay:List cH}{d:List Rw}{k p:Nat}{r:Rw}{l:cH}{xs:List MV}{fs:List (Str×MV)}{Q:MV->MS->Prop}{F:MF->aG->MS->Prop}{ρ:aG}{x:Str}
theorem xH (W:Wf d)(W2:Wf (d++[r]))(hr:r.kind≠("text":Str)) (hk:k < d.length):bi (d++[r]) k=bi d k:=by
 unfold bi
 rw [cI hk]
 split
 ·congr 1
  rw [iB W (by (first | lia | omega)),iB W2 (by walk_at "o"),agy,agy,aba,abo]
  rw [oA _ (λj=>decide ((aL d j).kind=("text":Str)) && (decide (j≠k) && decide (k∈line d j) && !bA d j)) d.length λj hj=>by rw [cI hj,kD hj,tL W hj]]
  rw [dF,decide_eq_false hr,agz]
  simp only [ab2,if_false,abr]
  refine aeM λj hj=>?_
  have:=(adg.mp hj).1
  rw [abW] at this
  rw [cI this]
 ·rfl
theorem h7.snoc (h:h7 d)(h1:r.val.length<=100)(h2:ab4 r.kind=true):h7 (d++[r]):=by
 refine⟨λj hj=>?_,λj hj=>?_⟩
 ·rw [aba,abo] at hj
  by_cases e:j < d.length
  ·rw [cI e]; exact h.1 j e
  ·have:j=d.length:=by walk_at "o"
   subst this; rw [dF]; exact h1
 ·rw [aba,abo] at hj
  by_cases e:j < d.length
  ·rw [cI e]; exact h.2 j e
  ·have:j=d.length:=by walk_at "o"
   subst this; rw [dF]; exact h2
theorem rf (h:Q (.str x) st){V:MV}:oe [.str x,V] st Q:=by
 refine cE rfl ?_
 walk_at "w"
 refine wH ?_
 walk_at "w"
 refine ue (b:=true) rfl ?_
 walk_at "w"
 exact h
theorem yY (ha:ku x)(hl:x.length<=1000){V:MV}(h:∀Ps i,st <+: Ps->st.length<=i->Ps[i]?=some (.list (fT (oN (tl x))))->Q (.ref i) Ps):iI [.str x,V] st Q:=by
 refine cE rfl ?_
 walk_at "w"
 refine wH ?_
 walk_at "w"
 refine ue (b:=false) rfl ?_
 walk_at "w"
 refine rf ?_
 walk_at "w"
 refine qP ha hl λPs i hp hi hx=>?_
 walk_at "w"
 exact h Ps i hp hi hx
theorem HP {a b:Nat}{xs ys:List MV}(ha:st[a]?=some (.list xs))(hb:st[b]?=some (.list ys))(hl:xs.length+ys.length<=100000)(h:Q (.ref st.length) (st++[.list (xs++ys)])):cM [.ref a,.ref b] st Q:=eI ha (eI hb ⟨aaj hl (by decide),h⟩)
noncomputable def ie (d:List Rw)(ks:List Nat):List (List Nat):=(ks.map λk=>oN (tl (bi d k))).flatten
theorem Jr {ks:List Nat}(h:∀k∈ks,(bi d k).length<=95):(ie d ks).length<=48 * ks.length:=by
 induction ks with
 | nil=>simp [ie]
 | cons k ks ih =>
  have h1:=yJ (tl (bi d k))
  have h2:=h k (.head _)
  rw [ci] at h2
  have:=ih λy hy=>h y (.tail _ hy)
  unfold ie at this ⊢
  simp only [abg,List.flatten_cons,aba,abw]
  walk_at "o"
theorem xE (W:Wf d)(T:Tr st t R lay d)(hs:h7 d){i:Nat}{ks:List Nat}(hi:st[i]?=some (.list (ay ks)))(hk:∀k∈ks,k < d.length)(hn:∀k∈ks,ku (bi d k)/\(bi d k).length<=95)(SG:ks.length<=100)
  (h:∀Ps f,st <+: Ps->st.length<=f->Ps[f]?=some (.list (fT (ie d ks)))->Q (.ref f) Ps):iI [.ref i,.ref t] st Q:=by
 refine cE rfl ?_
 walk_at "w"
 refine wH ?_
 walk_at "w"
 refine ue (b:=true) (by unfold yt; dsimp only; rw [hi]; rfl) ?_
 walk_at "w"
 have Ve:=aB (st:=st) (.list [])
 refine cb (aA Ve hi) ?_
 have key:∀(l:List Nat) (PY:List (List Nat)) (st1:MS) (f:Nat) (a:Option MV) (F:MF->aG->MS->Prop),(∀k∈l,k∈ks)->st <+: st1->st.length<=f->st1[f]?=some (.list (fT PY))->PY.length+48 * l.length<=10000 ->
   (∀Ps f' a,st <+: Ps->st.length<=f'->Ps[f']?=some (.list (fT (PY++ie d l)))->F .next [some (.ref i),some (.ref t),some (.ref f'),a] Ps) ->
   ew (λs=>s[i]?=some (.list (ay ks))) (b8 3) rd (ay l) [some (.ref i),some (.ref t),some (.ref f),a] st1 F:=by
  intro l
  induction l with
  | nil =>
   intro PY st1 f a F _ hp hf hx _ h
   exact⟨aA hp hi,h _ _ _ hp hf (by simpa [ie] using hx)⟩
  | cons k l ih =>
   intro PY st1 f a F hl hp hf hx hb h
   have U6:=hl k (.head _)
   obtain⟨ha,PL⟩:=hn k U6
   refine cT (aA hp hi) ?_
   walk_at "w"
   refine o7 W (T.mono hp) hs (hk k U6) λP1 PW=>?_
   walk_at "w"
   refine qP ha (by walk_at "o") λQb g Qj hg hxg=>?_
   have Vy:=yJ (tl (bi d k))
   rw [ci] at PL
   refine HP (aA (PW.trans Qj) hx) hxg ?_ ?_
   ·simp only [fT,abd,abw] at hb ⊢
    walk_at "o"
   have e:fT PY++fT (oN (tl (bi d k)))=fT (PY++oN (tl (bi d k))):=by simp [fT]
   rw [e]
   walk_at "w"
   refine ih (PY++oN (tl (bi d k))) _ _ _ _ (λy hy=>hl y (.tail _ hy)) (((hp.trans PW).trans Qj).trans (aB _)) ((hp.trans PW).trans Qj).length_le (aH _) ?_ λPs f' a RX Sf Rf=>h Ps f' a RX Sf ?_
   ·simp only [aba,abw] at hb ⊢; walk_at "o"
   ·rw [Rf]
    simp [ie]
 refine key ks [] _ _ _ _ (λk hk=>hk) Ve (abp _) (aH _) (by simp; walk_at "o") λPs f' a hp hf hx=>?_
 walk_at "w"
 exact h Ps f' hp hf (by simpa using hx)
theorem HX (W:Wf d)(T:Tr st t R lay d){r:Nat}(hr:aT d r=none):∀(n k:Nat),k < n->k < d.length->r∈line d k->F .next [some (.ref t),some (.int (r:Int))] st ->
  d9 mi mh n [some (.ref t),some (.int (k:Int))] st F:=by
 intro n
 induction n with
 | zero =>
  intro k hn _ _ _
  exact absurd hn (ab6 _)
 | succ n ih =>
  intro k hn hk hm h
  have ZR:=c0 hk
  obtain⟨l,hl⟩:=T.at ZR
  have Uz:=nA hk
  refine fz ?_
  walk_at "w"
  refine bK (bj T) ?_
  walk_at "w"
  refine j4 T hl ?_
  refine bD (V:=kF (aL d k).par) (T.node k l _ hl ZR).1 rfl ?_
  rw [<- Uz]
  cases e:aT d k with
  | none =>
   simp only [kF]
   walk_at "w"
   rw [eY W e] at hm
   have:r=k:=by simpa using hm
   rw [this] at h
   exact h
  | some p =>
   have TN:=W.low k p e
   simp only [kF]
   walk_at "w"
   walk_at "w"
   refine bD T.tree rfl ?_
   walk_at "w"
   have small:=T.small
   refine bI (n:=k) (x:=.ref l.i) T.rows rfl (by rw [abC,hl]; rfl) (by simp [T.len]; walk_at "o") ?_
   refine bD (V:=kF (aL d k).par) (T.node k l _ hl ZR).1 rfl ?_
   rw [<- Uz,e]
   simp only [kF]
   walk_at "w"
   refine ih p (by walk_at "o") (by walk_at "o") ?_ h
   rw [dD W e] at hm
   rcases bM hm with q | q
   ·subst q; rw [hr] at e; cases e
   ·exact q
theorem sD (W:Wf d)(T:Tr st t R lay d){r:Nat}(hr:aT d r=none)(hk:k < d.length)(hm:r∈line d k)(h:Q (.int (r:Int)) st):gn [.ref t,.int (k:Int)] st Q:=by
 refine cE rfl ?_
 walk_at "w"
 refine ad3 (k+1) ?_
 refine HX W T hr (k+1) k (by walk_at "o") hk hm ?_
 walk_at "w"
 exact h
end
noncomputable def look (A B:Nat)(w:Str):Option Nat:=if w=("a":Str) then some A else if w=("b":Str) then some B else none
noncomputable def iE (A B:Nat)(F:List Nat)(w:Str):List Nat:=match look A B w with | some k=>if k∈F then F else F++[k] | none=>F
noncomputable def dq (A B:Nat)(ws:List Str)(F:List Nat):List Nat:=ws.foldl (iE A B) F
theorem Kz {A B k:Nat}{w:Str}(h:look A B w=some k):k=A\/k=B:=by
 unfold look at h
 split at h
 ·cases h; exact .inl rfl
 ·split at h
  ·cases h; exact .inr rfl
  ·cases h
set_option tactic.hygienic true in
theorem zH {A B:Nat}{F:List Nat}{w:Str}(h:F.Nodup/\∀k∈F,k=A\/k=B):(iE A B F w).Nodup/\∀k∈iE A B F w,k=A\/k=B:=by
 unfold iE
 split
 ·rename_i k e
  split
  ·exact h
  ·rename_i hk
   refine⟨?_,λx hx=>?_⟩
   ·rw [abO]
    exact⟨h.1,by simp,λa ha b hb q=>by rw [cr hb] at q; exact hk (q ▸ ha)⟩
   ·rcases dW hx with q | q
    ·exact h.2 x q
    ·rw [cr q]; exact Kz e
 ·exact h
set_option tactic.hygienic true in
theorem H1 {A B x:Nat}{F:List Nat}{w:Str}:x∈iE A B F w↔x∈F\/look A B w=some x:=by
 unfold iE
 cases e:look A B w with
 | none=>simp
 | some k =>
  dsimp only
  split
  ·rename_i hk
   constructor
   ·exact .inl
   ·rintro (h | h)
    ·exact h
    ·cases h; exact hk
  ·simp [eq_comm]
theorem mv {A B:Nat}:∀(ws:List Str)(F:List Nat),(F.Nodup/\∀k∈F,k=A\/k=B)->(dq A B ws F).Nodup/\∀k∈dq A B ws F,k=A\/k=B:=by
 intro ws
 induction ws with
 | nil =>
  intro F h
  exact h
 | cons w ws ih =>
  intro F h
  exact ih (iE A B F w) (zH h)
theorem wj {A B x:Nat}:∀(ws:List Str)(F:List Nat),x∈dq A B ws F↔x∈F\/∃w∈ws,look A B w=some x:=by
 intro ws
 induction ws with
 | nil =>
  intro F
  simp [dq]
 | cons w ws ih =>
  intro F
  show x∈dq A B ws (iE A B F w)↔_
  rw [ih,H1]
  simp [or_assoc]
theorem uo {A B:Nat}{F:List Nat}(h:F.Nodup/\∀k∈F,k=A\/k=B):F.length<=2:=by
 have:=h.1.length_le_of_subset (l₂:=[A,B]) λk hk=>by simpa using h.2 k hk
 exact this
theorem tO {F:List Nat}{x:Nat}:x∈gA F↔x∈F:=by
 unfold gA
 split
 ·split <;> simp [or_comm]
 ·rfl
theorem Hj {F:List Nat}(h:F.Nodup)(h2:F.length<=2):(gA F).Pairwise (· < ·):=by
 match F,h,h2 with
 | [],_,_=>exact .nil
 | [a],_,_=>exact ag1 _ _
 | [a,b],h,_ =>
  have QP:a≠b:=by simpa using h
  unfold gA
  dsimp only
  split <;> simp <;> walk_at "o"
noncomputable def jX (l:List Nat):List Int:=l.map λ(n:Nat)=>(n:Int)
theorem CP {A B:Nat}(ws:List Str):i4 (jX (ws.filterMap (look A B)))=jX (gA (dq A B ws [])):=by
 have Sr:=mv (A:=A) (B:=B) ws [] ⟨by simp,by simp⟩
 refine u1 (zt _) ?_ λx=>?_
 ·unfold jX
  rw [List.pairwise_map]
  exact (Hj Sr.1 (uo Sr)).imp λh=>by walk_at "o"
 ·rw [sz]
  unfold jX
  rw [aft,aft]
  constructor
  ·rintro⟨n,hn,rfl⟩
   obtain⟨w,hw,e⟩:=adQ.mp hn
   exact⟨n,tO.mpr ((wj ws []).mpr (.inr ⟨w,hw,e⟩)),rfl⟩
  ·rintro⟨n,hn,rfl⟩
   rcases (wj ws []).mp (tO.mp hn) with q | ⟨w,hw,e⟩
   ·cases q
   ·exact⟨n,adQ.mpr ⟨w,hw,e⟩,rfl⟩
theorem E9 {A B:Nat}(ws:List Str):(i4 (jX (ws.filterMap (look A B)))).length<=2:=by
 rw [CP]
 have Sr:=mv (A:=A) (B:=B) ws [] ⟨by simp,by simp⟩
 have h2:=uo Sr
 unfold jX
 rw [abd]
 generalize dq A B ws []=F at h2
 unfold gA
 split
 ·split <;> simp
 ·exact h2
theorem xI {VA VB VX:MV}(w:Str):([(("a":Str),VA),(("b":Str),VB),(("x":Str),VX)]:List (Str×MV)).lookup w=if w=("a":Str) then some VA else if w=("b":Str) then some VB else if w=("x":Str) then some VX else none:=by
 simp only [List.lookup]
 by_cases h1:w=("a":Str)
 ·simp [h1]
 ·have e1:(w == ("a":Str))=false:=by simp [h1]
  rw [if_neg h1,e1]
  dsimp only
  by_cases h2:w=("b":Str)
  ·simp [h2]
  ·have e2:(w == ("b":Str))=false:=by simp [h2]
   rw [if_neg h2,e2]
   dsimp only
   by_cases h3:w=("x":Str)
   ·simp [h3]
   ·have e3:(w == ("x":Str))=false:=by simp [h3]
    rw [if_neg h3,e3]
section
variable {st Ps:MS}{t R:Nat}{lay:List cH}{D:List Rw}{Q:MV->MS->Prop}{F:MF->aG->MS->Prop}
theorem EL {i:Nat}{ns:List Nat}{k:Nat}(hi:st[i]?=some (.list (ay ns)))(h:Q (.bool (!decide (k∈ns))) st):im true [.int (k:Int),.ref i] st Q:=Ft (λ_ _=>rfl) (JU rfl (dX hi (mL _)) (by rw [Ks,agR]; exact h))
theorem Jq {n z A B:Nat}(W:Wf D)(T:Tr st t R lay D)(h0:aT D 0=none)(hn0:aT D n=none)(hn:0 < n)(hz:z < D.length)(hzr:n∈line D z)(hA:A < D.length/\0∈line D A)(hB:B < D.length/\0∈line D B)
  {c di f:Nat} {fs:List (Str×MV)} {ep:Nat} {x0:Option MV} (hc:st[c]?=some (.inst 313 fs)) (XM:fs.lookup ("ids":Str)=some (.ref di)) (hd:st[di]?=some (.dict [(("a":Str),.int (A:Int)),(("b":Str),.int (B:Int)),(("x":Str),.int (z:Int))] ep))
  {G:MS->Prop} {st1:MS} (hG:∀s,Kp (·=f) st1 s->G s) (hf:st.length<=f):∀(ws:List Str) (fd:List Nat) (Ps:MS) (a b:Option MV),st <+: Ps->Kp (·=f) st1 Ps->Ps[f]?=some (.list (ay fd))->(fd.Nodup/\∀k∈fd,k=A\/k=B) ->
   (∀PT a b,st <+: PT->PT[f]?=some (.list (ay (dq A B ws fd)))->F .next [x0,some (.ref c),some (.ref t),some (.ref f),some (.int 0),a,b] PT) ->
   ew G (b8 5) gG (ws.map .str) [x0,some (.ref c),some (.ref t),some (.ref f),some (.int 0),a,b] Ps F:=by
 intro ws
 induction ws with
 | nil =>
  intro fd Ps a b hp hK hx hi h
  exact⟨hG _ hK,h _ _ _ hp hx⟩
 | cons w ws ih =>
  intro fd Ps a b hp hK hx hi h
  have hz0:¬(0:Nat)=n:=by walk_at "o"
  refine cT (hG _ hK) ?_
  walk_at "w"
  refine bD (aA hp hc) XM ?_
  refine Kf (aA hp hd) ?_
  walk_at "w"
  refine Gg (aA hp hd) ?_
  rw [xI]
  have yes:∀k:Nat,look A B w=some k->k < D.length->0∈line D k->(aj (bW (dw (bT (ar fM (af 6) (tK .none))) (dw (bT (ar (im true) (af 6) (af 3))) (dw (bT (ar bN (bf 524 gn (af 2) (ad (af 6) ak)) (af 4))) fU))) (aj (bY (cq .list bx (af 3) (ad (af 6) ak))) az) az) az) [x0,some (.ref c),some (.ref t),some (.ref f),some (.int 0),some (.str w),some (.int (k:Int))] Ps (ud G (b8 5) gG (ws.map .str) F):=by
   intro k hk Rp hk0
   have hT:=T.mono hp
   have QL:dq A B (w::ws) fd=dq A B ws (iE A B fd w):=rfl
   have QX:=zH (w:=w) hi
   have hsd:iE A B fd w=if k∈fd then fd else fd++[k]:=by unfold iE; rw [hk]
   rw [QL] at h
   rw [hsd] at h QX
   walk_at "w"
   refine EL hx ?_
   by_cases hm:k∈fd
   ·rw [if_pos hm] at h QX
    rw [decide_eq_true hm]
    simp only [adK]
    walk_at "w"
    exact ih fd Ps _ _ hp hK hx hi h
   ·rw [if_neg hm] at h QX
    rw [decide_eq_false hm]
    simp only [adR]
    walk_at "w"
    refine bK (bj hT) ?_
    walk_at "w"
    refine sD W hT h0 Rp hk0 ?_
    walk_at "w"
    refine dJ (λ_=>?_) λe=>absurd rfl e
    walk_at "w"
    refine d6 (hx) ?_
    walk_at "w"
    have h2:=uo hi
    refine dG hx (by rw [bb]; exact aaj h2 (by decide)) ?_
    rw [jA]
    walk_at "w"
    exact ih (fd++[k]) _ _ _ (mG hp hf) (hK.trans (.set rfl)) (abq (bP hx).1) QX h
  by_cases ha:w=("a":Str)
  ·rw [if_pos ha]
   exact yes A (by unfold look; rw [if_pos ha]) hA.1 hA.2
  rw [if_neg ha]
  by_cases hb:w=("b":Str)
  ·rw [if_pos hb]
   exact yes B (by unfold look; rw [if_neg ha,if_pos hb]) hB.1 hB.2
  rw [if_neg hb]
  have YX:look A B w=none:=by unfold look; rw [if_neg ha,if_neg hb]
  have QL:dq A B (w::ws) fd=dq A B ws fd:=by
   show dq A B ws (iE A B fd w)=_
   unfold iE
   rw [YX]
  rw [QL] at h
  by_cases R9:w=("x":Str)
  ·rw [if_pos R9]
   have hT:=T.mono hp
   dsimp only [Option.getD_some]
   walk_at "w"
   refine EL hx ?_
   by_cases hm:z∈fd
   ·rw [decide_eq_true hm]
    simp only [adK]
    walk_at "w"
    exact ih fd Ps _ _ hp hK hx hi h
   ·rw [decide_eq_false hm]
    simp only [adR]
    walk_at "w"
    refine bK (bj hT) ?_
    walk_at "w"
    refine sD W hT hn0 hz hzr ?_
    walk_at "w"
    refine dJ (λe=>by walk_at "o") λe=>?_
    walk_at "w"
    exact ih fd Ps _ _ hp hK hx hi h
  ·rw [if_neg R9]
   dsimp only [Option.getD_none]
   walk_at "w"
   exact ih fd Ps _ _ hp hK hx hi h
end
section
variable {st Ps:MS}{t R:Nat}{lay:List cH}{D:List Rw}{Q:MV->MS->Prop}{F:MF->aG->MS->Prop}
structure MD (D:List Rw)(n z A B:Nat):Prop where
 wf:Wf D
 tp:Tp D n
 le:n<=D.length
 h0:aT D 0=none
 hn0:aT D n=none
 hn:0 < n
 hz:z < D.length
 hzr:n∈line D z
 hA:A < n/\(aL D A).kind=("element":Str)
 hB:B < n/\(aL D B).kind=("element":Str)
theorem uB {n z A B:Nat}(X:MD D n z A B)(T:Tr st t R lay D){c k di:Nat}{pos size:Int}{ep:Nat}(hc:cZ st c t k pos size (.ref di))(hk:k < n)
  (hd:st[di]?=some (.dict [(("a":Str),.int (A:Int)),(("b":Str),.int (B:Int)),(("x":Str),.int (z:Int))] ep)) {arg:MV} {ws:List Str}
  (V9:∀P1 (K:MV->MS->Prop),st <+: P1->(∀Ps f,P1 <+: Ps->P1.length<=f->Ps[f]?=some (.list (ws.map .str))->K (.ref f) Ps)->iI [arg,.ref t] P1 K)
  (h:∀Ps j,st <+: Ps->Ps[j]?=some (.list (ay (gA (dq A B ws []))))->Q (.ref j) Ps):fS [arg,.ref c] st Q:=by
 refine bv λGG PD=>?_
 obtain⟨fs,Re,QY,Uu,_,_,ZI⟩:=hc
 refine PD ?_
 have ZI:=ZI (λq=>by cases q)
 have Qt:=X.le
 have l0:∀k,k < n->0∈line D k:=λk hk=>Ia X.wf X.tp hk
 refine cE rfl ?_
 walk_at "w"
 refine bD Re QY ?_
 walk_at "w"
 refine eF rfl ?_
 have Ve:=aB (st:=st) (.list [])
 have T0:=T.mono Ve
 walk_at "w"
 refine bK (bj T0) ?_
 walk_at "w"
 refine bD (aA Ve Re) Uu ?_
 walk_at "w"
 refine sD (r:=0) X.wf T0 X.h0 (by walk_at "o") (l0 k hk) ?_
 walk_at "w"
 refine V9 _ _ Ve λst1 g PZ Vu hg=>?_
 refine cb hg ?_
 have acF:=Ve.trans PZ
 have hfx:st1[st.length]?=some (.list (ay [])):=aA PZ (aH _)
 have hgf:g≠st.length:=by rw [aba,abo] at Vu; walk_at "o"
 refine Jq (st:=st) X.wf T X.h0 X.hn0 X.hn X.hz X.hzr ⟨by have:=X.hA.1; walk_at "o",l0 A X.hA.1⟩ ⟨by have:=X.hB.1; walk_at "o",l0 B X.hB.1⟩ Re ZI hd (f:=st.length) (G:=λs=>s[g]?=some (.list (ws.map .str))) (st1:=st1) (λs hK=>hK.keep _ _ hgf hg) (abp _) ws [] st1 _ _ acF .refl hfx ⟨by simp,by simp⟩ λP1 a b PW Rr=>?_
 have Sr:=mv (A:=A) (B:=B) ws [] ⟨by simp,by simp⟩
 walk_at "w"
 refine Gr X.wf X.tp (T.mono PW) X.le Rr (uo Sr) Sr.1 (λk hk=>?_) λQb j Qj hj=>?_
 ·rcases Sr.2 k hk with rfl | rfl
  ·exact⟨X.hA.1,_,c0 (by have:=X.hA.1; walk_at "o"),X.hA.2⟩
  ·exact⟨X.hB.1,_,c0 (by have:=X.hB.1; walk_at "o"),X.hB.2⟩
 walk_at "w"
 exact h Qb j (PW.trans Qj) hj
theorem KX {al c:Nat}{arg:MV}(ha:st[al]?=some (.list [arg]))(h:fS [arg,.ref c] st Q):bF [.str "id",.ref al,.ref c] st Q:=by
 refine cE rfl ?_
 walk_at "w"
 refine bH (λe=>absurd e (by decide +kernel)) λ_=>?_
 walk_at "w"
 refine bH (λe=>absurd e (by decide +kernel)) λ_=>?_
 walk_at "w"
 refine bH (λe=>absurd e (by decide +kernel)) λ_=>?_
 walk_at "w"
 refine bH (λe=>absurd e (by decide +kernel)) λ_=>?_
 walk_at "w"
 refine bH (λ_=>?_) λe=>absurd rfl e
 walk_at "w"
 refine bI (n:=0) ha rfl rfl (by simp) ?_
 walk_at "w"
 exact h
end
def JZ (Q:MV->MS->Prop):List MV->MS->Prop:=λVs Pt=>BC (hO λi=>cD Pt[i]? λxs=>dU (fD xs) λns=>(i4 ns).length<=2/\ns.length<=1000/\Q (.ref Pt.length) (Pt++[.list ((i4 ns).map .int)])) Vs
section
variable {st Ps:MS}{t R:Nat}{lay:List cH}{D d:List Rw}{Q:MV->MS->Prop}{F:MF->aG->MS->Prop}{ρ:aG}
theorem MI {r:TL}(h:r ρ st (JZ Q)):qk r ρ st Q:=h
theorem KJ {i:Nat}{xs:List MV}{ns:List Int}(hi:st[i]?=some (.list xs))(hx:fD xs=some ns)(h2:(i4 ns).length<=2)(hl:ns.length<=1000)(h:Q (.ref st.length) (st++[.list ((i4 ns).map .int)])):JZ Q [.ref i] st:=eI hi (l3 hx ⟨h2,hl,h⟩)
theorem fe {G:MS->Prop}{b:TS}{is:List Nat}{xs:List MV}{Vs:List MV}(hG:G st)(hl:Vs.length=is.length)(h:b (fa ρ is Vs) st (ud G (ix is) b xs F)):ew G (ix is) b (.tup Vs::xs) ρ st F:=⟨hG,hl,h⟩
theorem u2:∀l:List Nat,ad5 (l.map λ(n:Nat)=>adG (n:Int)) (l.map λ(n:Nat)=>adG (n:Int))=true
 | []=>rfl
 | n::l=>by
  have:=u2 l
  simp only [abg,ad5,this,zs]
  simp
theorem KY {g e:Nat}{l:List Nat}(hg:st[g]?=some (.list (ay l)))(he:st[e]?=some (.list (ay l)))(h:Q (.bool false) st):g8 [.ref g,.ref e] st Q:=by
 refine Az (λ_ _=>rfl) (jC (dX hg (mL _)) (dX he (mL _)) ?_)
 have:=u2 l
 rw [show abH (.list (l.map λ(n:Nat)=>adG (n:Int))) (.list (l.map λ(n:Nat)=>adG (n:Int)))=true by simpa only [abH] using this]
 exact h
noncomputable def my (A B:Nat)(w:Str):MV:=match look A B w with | some k=>.int (k:Int) | none=>.none
theorem IC {A B:Nat}(w:Str):(([(("a":Str),.int (A:Int)),(("b":Str),.int (B:Int)),(("x":Str),.none)]:List (Str×MV)).lookup w).getD .none=my A B w:=by
 rw [xI]
 unfold my look
 by_cases h1:w=("a":Str)
 ·simp [h1]
 ·by_cases h2:w=("b":Str)
  ·rw [if_neg h1,if_pos h2,if_neg h1,if_pos h2]; rfl
  ·rw [if_neg h1,if_neg h2,if_neg h1,if_neg h2]
   split <;> rfl
noncomputable def pL (A B:Nat):MV->Bool:=λv=>match v with | .str w=>(look A B w).isSome | _=>false
noncomputable def fL (A B:Nat):MV->MV:=λv=>match v with | .str w=>my A B w | _=>.none
theorem CC {A B:Nat}(w:Str):pL A B (.str w)=(look A B w).isSome:=rfl
theorem Ie {A B:Nat}(w:Str):fL A B (.str w)=my A B w:=rfl
theorem wV {A B:Nat}:∀ws:List Str,((ws.map MV.str).filter (pL A B)).map (fL A B)=ay (ws.filterMap (look A B))
 | []=>rfl
 | w::ws=>by
  have:=wV (A:=A) (B:=B) ws
  rw [abg,List.filter_cons,List.filterMap_cons,CC]
  cases e:look A B w with
  | none =>
   rw [if_neg (by simp)]
   exact this
  | some k =>
   have e2:my A B w=.int (k:Int):=by unfold my; rw [e]
   rw [if_pos (by simp),abg,Ie,e2,this]
   rfl
theorem AI {A B:Nat}(ws:List Str):(ws.filterMap (look A B)).length<=ws.length:=List.length_filterMap_le _ _
theorem ut {rl:Nat}{PJ:List Nat}(small:d.length<=200){c:TB}{e:TE}(hc:c=dZ){rl':Nat}(LRs:LR st rl PJ d){ps:List Nat}{G:MS->Prop}(hG:∀s,st <+: s->G s)(hp:∀p∈ps,p < d.length)
  (he:e=ar aN (ar aN (af 1) (af 0)) (tK (.int 0))) {K:List MV->MS->Prop} (h:∀Ps,st <+: Ps->K (ay ps) Ps) {y:Option MV}:fq G (b8 0) c e (ay ps) (y::[some (.ref rl)]) [] st K:=by
 subst hc
 subst he
 refine d5 (st:=st) (p:=λ_=>true) (f:=id) (caps:=[some (.ref rl)]) hG (ay ps) (λv hv st1 K PZ hK=>?_) (λv hv _ st1 K PZ hK=>?_) y [] st _ (aaf _) λst1 PZ=>?_
 ·walk_at "w"
  exact hK _ (aaf _)
 ·obtain⟨p,Ul,rfl⟩:=c8 hv
  walk_at "w"
  refine fk (n:=0) (LRs.mono PZ) small (hp p Ul) rfl rfl (λW Pt=>rfl) ?_
  exact hK _ (aaf _)
 ·rw [abx,ad6.mpr (λ_ _=>rfl),af5]
  exact h _ PZ
theorem Cy {n z A B rl k c di Se wi:Nat}{PJ:List Nat}{ep Tv:Nat}(X:MD D n z A B)(T:Tr st t R lay D)(L:LR st rl PJ d)(hdn:d.length=n)(ae7:n<=200)(hc:cZ st c t k 1 1 (.ref di))(hk:k < n)
  (hd:st[di]?=some (.dict [(("a":Str),.int (A:Int)),(("b":Str),.int (B:Int)),(("x":Str),.int (z:Int))] ep))
  (Ui:st[Se]?=some (.dict [(("a":Str),.int (A:Int)),(("b":Str),.int (B:Int)),(("x":Str),.none)] Tv))
  {arg:MV} {ws:List Str} (hw:st[wi]?=some (.list (ws.map .str))) (Vy:ws.length<=1000)
  (V9:∀P1 (K:MV->MS->Prop),st <+: P1->(∀Ps f,P1 <+: Ps->P1.length<=f->Ps[f]?=some (.list (ws.map .str))->K (.ref f) Ps)->iI [arg,.ref t] P1 K)
  {v0 v1 v3 v4 v5 v6 v8 Sb R2:Option MV}
  (h:∀Ps a,st <+: Ps->F .next [v0,v1,some (.ref rl),v3,v4,v5,v6,some (.ref Se),v8,some (.ref c),Sb,some arg,some (.ref wi),a] Ps) :
  iu [v0,v1,some (.ref rl),v3,v4,v5,v6,some (.ref Se),v8,some (.ref c),Sb,some arg,some (.ref wi),R2] st F:=by
 walk_at "w"
 refine MI ?_
 walk_at "w"
 refine em rfl ?_
 walk_at "w"
 refine cb hw ?_
 refine dt (by rw [abd]; exact Vy) ?_
 refine d5 (st:=st) (p:=pL A B) (f:=fL A B) (caps:=[some (.ref Se)]) (λs hs=>aA hs hw) (ws.map .str) (λv hv st1 K PZ hK=>?_) (λv hv Zg st1 K PZ hK=>?_) none [] st _ (aaf _) λst1 PZ=>?_
 ·obtain⟨w,hw,rfl⟩:=c8 hv
  walk_at "w"
  refine Kf (aA PZ Ui) ?_
  walk_at "w"
  refine Gg (aA PZ Ui) ?_
  rw [IC]
  rw [CC] at hK
  unfold my
  cases e:look A B w with
  | none =>
   rw [e] at hK
   walk_at "w"
   exact hK _ (aaf _)
  | some k =>
   rw [e] at hK
   walk_at "w"
   exact hK _ (aaf _)
 ·obtain⟨w,hw,rfl⟩:=c8 hv
  rw [CC] at Zg
  rw [Ie] at hK
  walk_at "w"
  refine Gg (aA PZ Ui) ?_
  have hl:=IC (A:=A) (B:=B) w
  cases e:([(("a":Str),.int (A:Int)),(("b":Str),.int (B:Int)),(("x":Str),.none)]:List (Str×MV)).lookup w with
  | none =>
   rw [e] at hl
   unfold my at hl
   rw [ady] at Zg
   obtain⟨k,hk⟩:=Zg
   rw [hk] at hl
   cases hl
  | some V =>
   rw [e] at hl
   have hl:V=my A B w:=hl
   rw [hl]
   exact hK _ (aaf _)
 ·rw [abx,wV]
  have hg:=aH (st:=st1) (.list (ay (ws.filterMap (look A B))))
  have PW:=PZ.trans (aB (st:=st1) (.list (ay (ws.filterMap (look A B)))))
  generalize st1++[MO.list (ay (ws.filterMap (look A B)))]=P1 at hg PW
  walk_at "w"
  refine KJ (ns:=jX (ws.filterMap (look A B))) hg (Cr _) (E9 ws) ?_ ?_
  ·unfold jX; rw [abd]; have:=AI (A:=A) (B:=B) ws; walk_at "o"
  rw [CP]
  have acy:(jX (gA (dq A B ws []))).map MV.int=ay (gA (dq A B ws [])):=by
   unfold jX ay; rw [ab3]; rfl
  rw [acy]
  have Qj:=PW.trans (aB (st:=P1) (.list (ay (gA (dq A B ws [])))))
  have UA:=aH (st:=P1) (.list (ay (gA (dq A B ws []))))
  generalize hdi:P1.length=due at UA
  generalize P1++[MO.list (ay (gA (dq A B ws [])))]=Qb at Qj UA
  walk_at "w"
  have Ro:=Qj.trans (aB (st:=Qb) (.list [arg]))
  refine KX (aH _) ?_
  refine uB X (T.mono Ro) (hc.pre Ro) hk (aA Ro hd) (λRl K RE hK=>V9 Rl K (Ro.trans RE) hK) λRl j RE hj=>?_
  have ZH:=(aB (st:=Qb) (.list [arg])).trans RE
  have ZN:=Ro.trans RE
  walk_at "w"
  refine em rfl ?_
  walk_at "w"
  refine cb (aA ZH UA) ?_
  have Sr:=mv (A:=A) (B:=B) ws [] ⟨by simp,by simp⟩
  have h2:(gA (dq A B ws [])).length<=2:=by
   have:=E9 (A:=A) (B:=B) ws
   rw [CP] at this
   unfold jX at this
   rwa [abd] at this
  refine dt (by rw [bb]; walk_at "o") ?_
  refine ut (d:=d) (rl:=rl) (rl':=0) (by walk_at "o") rfl (L.mono ZN) (λs hs=>aA (ZH.trans hs) UA) (λp hp=>?_) rfl λRq Sp=>?_
  ·rcases Sr.2 p (tO.mp hp) with rfl | rfl
   ·have:=X.hA.1; walk_at "o"
   ·have:=X.hB.1; walk_at "o"
  refine KY (aA (Sp.trans (aB _)) hj) (aH _) ?_
  walk_at "w"
  exact h _ _ ((ZN.trans Sp).trans (aB _))
end
section
variable {st Ps:MS}{j t R rl os:Nat}{lay:List cH}{PJ:List Nat}{D d:List Rw}{ss so:List Nat}{Q:MV->MS->Prop}{F:MF->aG->MS->Prop}{ρ:aG}{k p:Nat}
noncomputable def gz (d:List Rw):List Nat:=(ab7 d.length).filter λk=>decide ((aL d k).kind=("element":Str))
theorem o8:k∈gz d↔k < d.length/\(aL d k).kind=("element":Str):=by
 unfold gz
 rw [adg,abW,decide_eq_true_eq]
theorem Eh (small:d.length<=200)(T:LR st rl PJ d){K:List MV->MS->Prop}(h:∀Ps,st <+: Ps->K (ay (gz d)) Ps) :
  fq (λs=>s[rl]?=some (.list (PJ.map .ref))) (ix [0,1]) lh lz (lU 0 (PJ.map .ref)) [none,none] [] st K:=by
 have PL:(PJ.map MV.ref).length=d.length:=by rw [abd,T.len]
 rw [E7]
 refine xx (st:=st) (p:=λa _=>match a with | .int j=>decide ((aL d j.toNat).kind=("element":Str)) | _=>false) (f:=λa _=>a) (caps:=[]) (λs hs=>aA hs T.rows) _ ?_ ?_ none none [] st _ (aaf _) λs2 PW=>?_
 ·intro x hx s2 K PW q
  refine bv λGG PD=>?_
  obtain⟨j,V,rfl,hV⟩:=mW hx
  rw [afB] at *
  have hj:j < d.length:=by have:=(bP hV).1; rwa [PL] at this
  have T2:=T.mono PW
  obtain⟨i,Xa,UJ,VY⟩:=T2.at hj
  refine PD ?_
  rw [UJ] at hV
  obtain rfl:=(abi hV).symm
  walk_at "w"
  refine bI VY (n:=1) rfl rfl (by simp [eK]) ?_
  walk_at "w"
  exact q s2 (aaf _)
 ·intro x hx _ s2 K PW q
  obtain⟨j,V,rfl,hV⟩:=mW hx
  walk_at "w"
  exact q s2 (aaf _)
 ·have e1:=BE (PJ.map MV.ref) 0
  rw [PL,zx] at e1
  have el:([]:List MV)++((i9 0 (PJ.map MV.ref)).filter λx=>(match x.1 with | .int j=>decide ((aL d j.toNat).kind=("element":Str)) | _=>false)).map (λx=>x.1)=ay (gz d):=by
   rw [abx]
   have e2:((i9 0 (PJ.map MV.ref)).filter λx=>(match x.1 with | .int j=>decide ((aL d j.toNat).kind=("element":Str)) | _=>false)).map (λx=>x.1)=(((i9 0 (PJ.map MV.ref)).map (·.1)).filter λa=>(match a with | .int j=>decide ((aL d j.toNat).kind=("element":Str)) | _=>false)):=by
    rw [aem]; rfl
   rw [e2,e1]
   unfold ay gz
   rw [aem]
   rfl
  rw [el]
  exact h s2 PW
theorem ML {T:TD}(h:T ρ st λfs Pt=>∀ep,Q (.ref Pt.length) (Pt++[.dict fs ep])):kY T ρ st Q:=h
theorem x7 {k:Str}{a:TE}{r:TD}{K:List (Str×MV)->MS->Prop}(h:a ρ st λV Pt=>r ρ Pt λfs Pz=>K ((k,V)::fs) Pz):wZ k a r ρ st K:=h
theorem Md {K:List (Str×MV)->MS->Prop}(h:K [] st):oE ρ st K:=h
noncomputable abbrev jH:Rw:=⟨"root","","","","",none⟩
noncomputable abbrev NO (n:Nat):Rw:=⟨"element","z","z","","",some n⟩
noncomputable abbrev lV (d:List Rw):List Rw:=d++[jH]++[NO d.length]
theorem o5 (W:Wf d):Wf (d++[jH]):=W.snoc λp e=>by cases e
theorem xg (W:Wf d):Wf (lV d):=(o5 W).snoc λp e=>by
 have e:some d.length=some p:=e
 obtain rfl:=abi e
 refine⟨by simp,?_,.inl ?_⟩
 ·rw [aba,abo,adv]; exact dN (o5 W) _
 ·rw [dF]
theorem Bz (h:k < d.length):aL (lV d) k=aL d k:=by
 rw [cI (by simp; walk_at "o"),cI h]
theorem KC (h:k < d.length):aT (lV d) k=aT d k:=by
 rw [cS (by simp; walk_at "o"),cS h]
theorem yk:(lV d).length=d.length+2:=by simp
theorem LB (G:Gd d ss){A B:Nat}(hA:A∈gz d)(hB:B∈gz d):MD (lV d) d.length (d.length+1) A B:=by
 have W:=xg G.wf
 have hA:=o8.mp hA
 have hB:=o8.mp hB
 have hn:aT (lV d) d.length=none:=by
  rw [cS (by simp),cz]
 refine⟨W,λk hk e=>?_,by rw [yk]; walk_at "o",?_,hn,G.ne,by rw [yk]; walk_at "o",?_,⟨hA.1,by rw [Bz hA.1]; exact hA.2⟩,⟨hB.1,by rw [Bz hB.1]; exact hB.2⟩⟩
 ·rw [KC hk] at e
  exact G.tp k hk e
 ·cases e:aT (lV d) 0 with
  | none=>rfl
  | some p=>have:=W.low 0 p e; walk_at "o"
 ·have e:aT (lV d) (d.length+1)=some d.length:=by
   have:=cz (d:=d++[jH]) (r:=NO d.length)
   rw [aba,abo] at this
   exact this
  rw [dD W e]
  exact .tail _ (dN W _)
theorem H5 (h:h7 d):h7 (lV d):=(h.snoc (r:=jH) (show ("":Str).length<=100 by decide +kernel) (show ab4 ("root":Str)=true by decide +kernel)).snoc (show ("":Str).length<=100 by decide +kernel) (show ab4 ("element":Str)=true by decide +kernel)
theorem zy (W:Wf d)(h:k < d.length):bi (lV d) k=bi d k:=by
 rw [xH (o5 W) (xg W) (show ("element":Str)≠("text":Str) by decide +kernel) (by simp; walk_at "o"),xH W (o5 W) (show ("root":Str)≠("text":Str) by decide +kernel) h]
theorem I5 (W:Wf d){ks:List Nat}(h:∀k∈ks,k < d.length):ie (lV d) ks=ie d ks:=by
 unfold ie
 congr 1
 exact aeM λk hk=>by rw [zy W (h k hk)]
noncomputable def gV (A B z:Nat):MV->MV:=λv=>match v with | .str w=>.tup [.str w,if w=("a":Str) then .int (A:Int) else if w=("b":Str) then .int (B:Int) else .int (z:Int)] | _=>.none
theorem Lm (A B z:Nat):iF ([MV.str ("a":Str),.str ("b":Str),.str ("x":Str)].map (gV A B z))=some [(("a":Str),.int (A:Int)),(("b":Str),.int (B:Int)),(("x":Str),.int (z:Int))]:=by
 have h1:("b":Str)≠("a":Str):=by decide +kernel
 have h2:("x":Str)≠("a":Str):=by decide +kernel
 have h3:("x":Str)≠("b":Str):=by decide +kernel
 simp only [abg,ad2,gV,if_pos,if_neg h1,if_neg h2,if_neg h3]
 rfl
theorem MA {l:List Nat}{n:Nat}{x:MV}(h:(ay l)[n]?=some x):∃v,x=.int ((v:Nat):Int)/\v∈l:=by
 obtain⟨v,hv,rfl⟩:=c8 (abh h)
 exact⟨v,rfl,hv⟩
end
section
variable {st Ps:MS}{j t R rl os:Nat}{lay:List cH}{PJ:List Nat}{D d:List Rw}{ss so:List Nat}{Q:MV->MS->Prop}{F:MF->aG->MS->Prop}{ρ:aG}{k p:Nat}
noncomputable abbrev Nh:List Str:=["b a"," a x ","a a q",""]
theorem EK {x:Str}(hl:x.length<=100000)(h:Q (.ref st.length) (st++[.list ((aeJ x).map .str)])):lA [.str x] st Q:=⟨aaj (by walk_at "o":x.length+2<=100002) (by decide),h⟩
theorem Cq:∀l:List Str,(∀x∈l,x.length<=95)->(aeB (" ":Str) l).length<=96 * l.length
 | [],_=>by rw [fy]; show (Str.empty).length<=_; simp [Str.empty,Str.length]
 | [x],h=>by rw [fy]; show x.length<=_; have:=h x (.head _); simp; walk_at "o"
 | x::y::l,h=>by
  have h1:=h x (.head _)
  have h2:=Cq (y::l) λz hz=>h z (.tail _ hz)
  rw [fy] at h2 ⊢
  show (x++(" ":Str)++ahM (" ":Str) (y::l)).length<=_
  rw [agM,agM,show (" ":Str).length=1 by decide +kernel]
  simp only [abw] at h2 ⊢
  walk_at "o"
theorem JQ {i:Nat}{l:List Str}(hi:st[i]?=some (.list (l.map .str)))(h1:∀x∈l,x.length<=95)(h2:l.length<=19)(h:Q (.str (aeB (" ":Str) l)) st):qj [.str " ",.ref i] st Q:=by
 refine eI hi (l3 (wp _) ⟨?_,h⟩)
 have:=G9 l 95 h1
 rw [show (" ":Str).length=1 by decide +kernel]
 walk_at "o"
theorem HG {at' A B c di Se sm pl:Nat}{ep Tv:Nat}{som:List Nat}(B2:Bs st j t R rl os lay PJ (lV d) d so)(G:Gd d ss)(ZM:d.length<=19)(hat:at' < d.length)(hA:A∈gz d)(hB:B∈gz d)
  (hc:cZ st c t at' 1 1 (.ref di))
  (hd:st[di]?=some (.dict [(("a":Str),.int (A:Int)),(("b":Str),.int (B:Int)),(("x":Str),.int ((d.length+1:Nat):Int))] ep))
  (Ui:st[Se]?=some (.dict [(("a":Str),.int (A:Int)),(("b":Str),.int (B:Int)),(("x":Str),.none)] Tv))
  (Rk:st[sm]?=some (.list (ay som))) (Ra:∀k∈som,k < d.length) (QG:som.length<=19) {PX:Str} (TA:PX∈Nh) {v6 v8 Rj SE R2:Option MV} (h:∀Ps,Q (.bool true) Ps) :
  (aj (eS (b9 (be (ad (bl (ad (af 10) (ad (cq .str lA (af 10) ak) ak))) (ad (bl (ad (c7 1 [2] (b9 (af 4)) (b8 0) dZ lB) (ad (cq .str lA (cq .str qj (tK (.str (" ":Str))) (ad (c7 1 [2] (b9 (af 4)) (b8 0) dZ ln) ak)) ak) ak))) ak)))) (ix [11,12]) iu)
 (aj (aS (tK (.bool true)))
 az)) [some (.ref j),some (.ref t),some (.ref rl),some (.int (at':Int)),some (.ref sm),some (.ref pl),v6,some (.ref Se),v8,some (.ref c),some (.str PX),Rj,SE,R2] st (fi Q):=by
 have X:=LB G hA hB
 have small:d.length<=200:=by walk_at "o"
 have hs:=G.short
 have ZO:ku PX:=pA _ TA (by decide +kernel)
 have hal:PX.length<=100:=oO _ TA (by decide +kernel)
 have Uo:∀k∈som,ku (bi d k)/\(bi d k).length<=95:=λk hk=>by
  have:=Bd G.wf G.ok (by walk_at "o") (Ra k hk)
  exact⟨this.2.1,this.1⟩
 walk_at "w"
 refine iH ?_
 walk_at "w"
 refine EK (by walk_at "o") ?_
 have PZ:=aB (st:=st) (.list ((aeJ PX).map .str))
 have YQ:=aH (st:=st) (.list ((aeJ PX).map .str))
 generalize hwi1:st.length=wi1 at YQ
 generalize st++[MO.list ((aeJ PX).map .str)]=st1 at PZ YQ
 walk_at "w"
 refine em rfl ?_
 walk_at "w"
 refine cb (aA PZ Rk) ?_
 refine dt (by rw [bb]; walk_at "o") ?_
 refine ut (d:=d) (rl:=rl) (rl':=0) small rfl (B2.lr.mono PZ) (λs hs=>aA (PZ.trans hs) Rk) Ra rfl λP1 PW=>?_
 have Qj:=(PZ.trans PW).trans (aB (st:=P1) (.list (ay som)))
 have Vn:=aH (st:=P1) (.list (ay som))
 have hw3:=aA (PW.trans (aB (st:=P1) (.list (ay som)))) YQ
 generalize hali:P1.length=al at Vn
 generalize P1++[MO.list (ay som)]=Qb at Qj Vn hw3
 walk_at "w"
 refine iH ?_
 walk_at "w"
 refine em rfl ?_
 walk_at "w"
 refine cb (aA Qj Rk) ?_
 refine dt (by rw [bb]; walk_at "o") ?_
 refine d5 (st:=Qb) (p:=λ_=>true) (f:=λv=>match v with | .int j=>.str (bi d j.toNat) | _=>.none) (caps:=[some (.ref rl)]) (λs hs=>aA (Qj.trans hs) Rk) (ay som) (λv hv st1 K PZ hK=>?_) (λv hv _ st1 K PZ hK=>?_) none [] Qb _ (aaf _) λRL Ro=>?_
 ·walk_at "w"
  exact hK _ (aaf _)
 ·obtain⟨p,Ul,rfl⟩:=c8 hv
  walk_at "w"
  exact oh G.wf small (B2.lr.mono (Qj.trans PZ)) hs (Ra p Ul) hK
 ·have el:[]++((ay som).filter λ_=>true).map (λv=>match v with | .int j=>MV.str (bi d j.toNat) | _=>.none)=(som.map λk=>bi d k).map .str:=by
   rw [abx,ad6.mpr (λ_ _=>rfl)]
   unfold ay
   rw [ab3,ab3]
   rfl
  rw [el]
  have RE:=(Qj.trans Ro).trans (aB (st:=RL) (.list ((som.map λk=>bi d k).map .str)))
  have ZZ:=aH (st:=RL) (.list ((som.map λk=>bi d k).map .str))
  have XT:=Ro.trans (aB (st:=RL) (.list ((som.map λk=>bi d k).map .str)))
  have QX:∀x∈som.map (λk=>bi d k),ku x/\x.length<=95:=λx hx=>by
   obtain⟨k,hk,rfl⟩:=c8 hx
   exact Uo k hk
  generalize RL.length=ji at ZZ
  generalize RL++[MO.list ((som.map λk=>bi d k).map .str)]=Rl at RE ZZ XT
  walk_at "w"
  refine JQ ZZ (λx hx=>(QX x hx).2) (by rw [abd]; exact QG) ?_
  walk_at "w"
  refine iH ?_
  walk_at "w"
  have UQ:=Cq (som.map λk=>bi d k) λx hx=>(QX x hx).2
  rw [abd] at UQ
  have hja:ku (aeB (" ":Str) (som.map λk=>bi d k)):=Jz λx hx=>(QX x hx).1
  have hwj:aeJ (aeB (" ":Str) (som.map λk=>bi d k))=(ie d som).map nQ:=by
   rw [AQ _ hja,BR,ab3]
   rfl
  generalize aeB (" ":Str) (som.map λk=>bi d k)=J at UQ hja hwj
  refine EK (by walk_at "o") ?_
  rw [hwj]
  have Sp:=RE.trans (aB (st:=Rl) (.list (((ie d som).map nQ).map .str)))
  have hw6:=aH (st:=Rl) (.list (((ie d som).map nQ).map .str))
  have Zt:=aA (XT.trans (aB (st:=Rl) (.list (((ie d som).map nQ).map .str)))) Vn
  have ZD:=aA (XT.trans (aB (st:=Rl) (.list (((ie d som).map nQ).map .str)))) hw3
  generalize Rl.length=wi2 at hw6
  generalize Rl++[MO.list (((ie d som).map nQ).map .str)]=Rq at Sp hw6 Zt ZD
  walk_at "w"
  have RD:=Sp.trans (aB (st:=Rq) (.list [.tup [.str PX,.ref wi1],.tup [.ref al,.ref wi2]]))
  have Yw:=aB (st:=Rq) (.list [.tup [.str PX,.ref wi1],.tup [.ref al,.ref wi2]])
  have TZ:=aH (st:=Rq) (.list [.tup [.str PX,.ref wi1],.tup [.ref al,.ref wi2]])
  refine cb TZ ?_
  generalize Rq++[MO.list [MV.tup [.str PX,.ref wi1],.tup [.ref al,.ref wi2]]]=Sh at RD TZ Yw
  generalize Rq.length=li at TZ
  refine fe TZ rfl ?_
  have X0:=AQ PX ZO
  refine Cy (st:=Sh) (d:=d) (n:=d.length) (z:=d.length+1) (ws:=aeJ PX) X (B2.tr.mono RD) (B2.lr.mono RD) rfl small (hc.pre RD) hat (aA RD hd) (aA RD Ui) (aA Yw ZD) ?_ (λQ9 K RP hK=>?_) λQ9 a RP=>?_
  ·have:=yJ (tl PX)
   rw [ci] at hal
   rw [X0,abd]; walk_at "o"
  ·refine yY ZO (by walk_at "o") λSx g Tw Vu hg=>hK Sx g Tw Vu ?_
   rw [X0]; exact hg
  walk_at "w"
  have UD:=RD.trans RP
  refine fe (aA RP TZ) rfl ?_
  refine Cy (st:=Q9) (d:=d) (n:=d.length) (z:=d.length+1) (ws:=(ie d som).map nQ) X (B2.tr.mono UD) (B2.lr.mono UD) rfl small (hc.pre UD) hat (aA UD hd) (aA UD Ui) (aA (Yw.trans RP) hw6) ?_ (λSx K Tw hK=>?_) λSx a Tw=>?_
  ·have:=Jr (d:=d) (ks:=som) λk hk=>(Uo k hk).2
   rw [abd]; walk_at "o"
  ·refine xE (xg G.wf) (B2.tr.mono (UD.trans Tw)) (H5 hs) (aA ((Yw.trans RP).trans Tw) Zt) (λk hk=>by rw [yk]; have:=Ra k hk; walk_at "o") (λk hk=>by rw [zy G.wf (Ra k hk)]; exact Uo k hk) (by walk_at "o") λR5 g Rm Vu hg=>hK R5 g Rm Vu ?_
   rw [I5 G.wf Ra] at hg
   exact hg
  walk_at "w"
  refine xS (aA (RP.trans Tw) TZ) ?_
  walk_at "w"
  exact h _
end
section
variable {st Ps:MS}{j t R rl os:Nat}{lay:List cH}{PJ:List Nat}{D d:List Rw}{ss so:List Nat}{Q:MV->MS->Prop}{F:MF->aG->MS->Prop}{ρ:aG}{k p:Nat}
theorem KD {a:TE}{K:List MV->(MS->Prop)->MS->Prop}(h:a ρ st (Bg K)):Fj a ρ st K:=h
theorem Jl {i:Nat}{fs:List (Str×MV)}{ep:Nat}{K:List MV->(MS->Prop)->MS->Prop}(hi:st[i]?=some (.dict fs ep))(h:K (fs.map λx=>.str x.1) (λst=>st[i]?=some (.dict fs ep)) st):Bg K (.ref i) st:=by
 show BA st[i]? _; rw [hi]; exact h
theorem Jw {A B Se:Nat}{Tv:Nat}(T:LR st rl PJ d)(small:d.length<=200)(hA:A < d.length)(hB:B < d.length){z:Nat}
  (Ui:st[Se]?=some (.dict [(("a":Str),.int (A:Int)),(("b":Str),.int (B:Int)),(("x":Str),.none)] Tv)) {K:List MV->MS->Prop}
  (h:∀Ps,st <+: Ps->K ([MV.str ("a":Str),.str ("b":Str),.str ("x":Str)].map (gV A B z)) Ps) :
  fq (λs=>s[Se]?=some (.dict [(("a":Str),.int (A:Int)),(("b":Str),.int (B:Int)),(("x":Str),.none)] Tv)) (b8 0) dZ ii [.str ("a":Str),.str ("b":Str),.str ("x":Str)] [none,some (.int (z:Int)),some (.ref Se),some (.ref rl)] [] st K:=by
 have hba:("b":Str)≠("a":Str):=by decide +kernel
 have hxa:("x":Str)≠("a":Str):=by decide +kernel
 have hxb:("x":Str)≠("b":Str):=by decide +kernel
 refine d5 (st:=st) (p:=λ_=>true) (f:=gV A B z) (caps:=[some (.int (z:Int)),some (.ref Se),some (.ref rl)]) (λs hs=>aA hs Ui) _ (λv hv st1 K PZ hK=>?_) (λv hv _ st1 K PZ hK=>?_) none [] st _ (aaf _) λst1 PZ=>?_
 ·walk_at "w"
  exact hK _ (aaf _)
 ·have acN:=aA PZ Ui
  have sub:∀(w:Str) (V:MV) (K:MV->MS->Prop),([(("a":Str),.int (A:Int)),(("b":Str),.int (B:Int)),(("x":Str),.none)]:List (Str×MV)).lookup w=some V->K V st1->aN [.ref Se,.str w] st1 K:=by
   intro w V K hl hK
   exact Gg acN (l3 hl hK)
  have Ud:=hK st1 (aaf _)
  simp only [aby,abu,or_false] at hv
  unfold ii
  rcases hv with rfl | rfl | rfl
  ·have hl:([(("a":Str),.int (A:Int)),(("b":Str),.int (B:Int)),(("x":Str),.none)]:List (Str×MV)).lookup ("a":Str)=some (.int (A:Int)):=by rw [xI,if_pos rfl]
   unfold gV at Ud
   simp only [if_true] at Ud
   walk_at "w"
   refine sub _ _ _ hl ?_
   walk_at "w"
   refine sub _ _ _ hl ?_
   walk_at "w"
   refine fk (n:=0) (T.mono PZ) small hA rfl rfl (λW Pt=>rfl) ?_
   walk_at "w"
   exact Ud
  ·have hl:([(("a":Str),.int (A:Int)),(("b":Str),.int (B:Int)),(("x":Str),.none)]:List (Str×MV)).lookup ("b":Str)=some (.int (B:Int)):=by rw [xI,if_neg hba,if_pos rfl]
   unfold gV at Ud
   simp only [if_neg hba,if_true] at Ud
   walk_at "w"
   refine sub _ _ _ hl ?_
   walk_at "w"
   refine sub _ _ _ hl ?_
   walk_at "w"
   refine fk (n:=0) (T.mono PZ) small hB rfl rfl (λW Pt=>rfl) ?_
   walk_at "w"
   exact Ud
  ·have hl:([(("a":Str),.int (A:Int)),(("b":Str),.int (B:Int)),(("x":Str),.none)]:List (Str×MV)).lookup ("x":Str)=some .none:=by rw [xI,if_neg hxa,if_neg hxb,if_pos rfl]
   unfold gV at Ud
   simp only [if_neg hxa,if_neg hxb] at Ud
   walk_at "w"
   refine sub _ _ _ hl ?_
   walk_at "w"
   exact Ud
 ·have:=h st1 PZ
  rw [abx,ad6.mpr (λ_ _=>rfl)]
  exact this
theorem w0 {at' sm:Nat}{som:List Nat}(B0:Bs st j t R rl os lay PJ d d so)(G:Gd d ss)(hE:gv d)(ZM:d.length<=19)(hat:at' < d.length)
  (Rk:st[sm]?=some (.list (ay som))) (Wb:sm≠j) (W7:¬cu t R lay sm) (Ra:∀k∈som,k < d.length) (QG:som.length<=19) (h:∀Ps,Q (.bool true) Ps) :
  eE [.ref j,.ref t,.ref rl,.int (at':Int),.ref sm] st Q:=by
 have small:d.length<=200:=by walk_at "o"
 have UQ:j < st.length:=B0.lt (by walk_at "m")
 refine cE rfl ?_
 walk_at "w"
 refine em rfl ?_
 refine Fc ?_
 walk_at "w"
 refine Bt B0.lr.rows ?_
 refine dt (by rw [vd,abd,B0.lr.len]; walk_at "o") ?_
 refine Eh small B0.lr λst1 PZ=>?_
 have PW:=PZ.trans (aB (st:=st1) (.list (ay (gz d))))
 have Wq:=aH (st:=st1) (.list (ay (gz d)))
 have WR:st1.length≠j:=by have:=PZ.length_le; walk_at "o"
 have Xi:¬cu t R lay st1.length:=λq=>by
  have:=B0.tr.lt B0.ly q
  have:=PZ.length_le
  walk_at "o"
 generalize st1.length=pl at Wq WR Xi
 generalize st1++[MO.list (ay (gz d))]=P1 at PW Wq
 have B2:=B0.pre PW
 have Zd:=aA PW Rk
 walk_at "w"
 refine bK (bj B2.tr) ?_
 walk_at "w"
 refine bK (bj B2.tr) ?_
 walk_at "w"
 refine qG B2.tr B2.ly (o5 G.wf) (by walk_at "o") λQb T3 K3=>?_
 have B3:=B2.grow T3 K3
 have Y9:=K3.keep _ _ W7 Zd
 have ZS:=K3.keep _ _ Xi Wq
 have aan:¬cu t R (lay++[dr P1.length]) sm:=cu.snoc W7 (bP Zd).1
 have Yj:¬cu t R (lay++[dr P1.length]) pl:=cu.snoc Xi (bP Wq).1
 walk_at "w"
 refine l6 B3.tr B3.ly (xg G.wf) (by simp; walk_at "o") λRL T4 K4=>?_
 have B4:=B3.grow T4 K4
 have ac3:=K4.keep _ _ aan Y9
 have Zk:=K4.keep _ _ Yj ZS
 generalize lay++[dr P1.length]++[dr Qb.length]=lay4 at B4
 clear B3 B2 T3 T4 K3 K4 aan Yj Y9 ZS
 have Y6:0 < (ay (gz d)).length:=by
  rw [bb]
  obtain⟨k,hk⟩:=hE
  exact ahd (o8.mpr hk)
 have X3:(ay (gz d)).length < 1000:=by
  rw [bb]
  have:=e6 d λk=>decide ((aL d k).kind=("element":Str))
  unfold gz
  walk_at "o"
 rw [show (d++[jH]).length=d.length+1 by simp]
 walk_at "w"
 refine ML ?_
 refine x7 ?_
 walk_at "w"
 refine fG Zk WR Y6 X3 B4.src λRl n x hx E5 S5=>?_
 obtain⟨A,rfl,hA⟩:=MA hx
 have B5:=B4.ext E5 S5
 have acK:=E5.keep _ _ WR Zk
 have ac1:=E5.keep _ _ Wb ac3
 refine x7 ?_
 walk_at "w"
 refine fG acK WR Y6 X3 S5 λRq n x hx E6 S6=>?_
 obtain⟨B,rfl,hB⟩:=MA hx
 have B6:=B5.ext E6 S6
 have acM:=E6.keep _ _ Wb ac1
 refine x7 ?_
 walk_at "w"
 refine Md ?_
 intro Tv
 have RD:=aB (st:=Rq) (.dict [(("a":Str),.int (A:Int)),(("b":Str),.int (B:Int)),(("x":Str),.none)] Tv)
 have U4:=aH (st:=Rq) (.dict [(("a":Str),.int (A:Int)),(("b":Str),.int (B:Int)),(("x":Str),.none)] Tv)
 have htj:Rq.length≠j:=by have:=B6.lt (x:=j) (by walk_at "m"); walk_at "o"
 generalize Rq.length=Se at U4 htj
 generalize Rq++[MO.dict [(("a":Str),MV.int (A:Int)),(("b":Str),.int (B:Int)),(("x":Str),.none)] Tv]=Sh at RD U4
 have B7:=B6.pre RD
 have acH:=aA RD acM
 have hA':=o8.mp hA
 have hB':=o8.mp hB
 walk_at "w"
 refine em rfl ?_
 refine KD ?_
 walk_at "w"
 refine Jl U4 ?_
 refine dt (by walk_at "m") ?_
 refine Jw (A:=A) (B:=B) (z:=d.length+1) B7.lr small hA'.1 hB'.1 U4 λQ9 RP=>?_
 have XU:=RP.trans (aB (st:=Q9) (.list ([MV.str ("a":Str),.str ("b":Str),.str ("x":Str)].map (gV A B (d.length+1)))))
 have Zq:=aH (st:=Q9) (.list ([MV.str ("a":Str),.str ("b":Str),.str ("x":Str)].map (gV A B (d.length+1))))
 generalize Q9.length=gi at Zq
 generalize Q9++[MO.list ([MV.str ("a":Str),.str ("b":Str),.str ("x":Str)].map (gV A B (d.length+1)))]=Sx at XU Zq
 walk_at "w"
 refine eI Zq (l3 (Lm ..) ?_)
 refine abf (show ([("a":Str),("b":Str),("x":Str)]:List Str).Nodup by decide +kernel) (abf (show 3<=100 by decide) ?_)
 intro ep
 have Rm:=XU.trans (aB (st:=Sx) (.dict [(("a":Str),.int (A:Int)),(("b":Str),.int (B:Int)),(("x":Str),.int ((d.length+1:Nat):Int))] ep))
 have Xg:=aH (st:=Sx) (.dict [(("a":Str),.int (A:Int)),(("b":Str),.int (B:Int)),(("x":Str),.int ((d.length+1:Nat):Int))] ep)
 have hdj:Sx.length≠j:=by
  have:=(B7.pre XU).lt (x:=j) (by walk_at "m")
  walk_at "o"
 generalize Sx.length=di at Xg hdj
 generalize Sx++[MO.dict [(("a":Str),MV.int (A:Int)),(("b":Str),.int (B:Int)),(("x":Str),.int ((d.length+1:Nat):Int))] ep]=R5 at Rm Xg
 have YJ:=B7.pre Rm
 walk_at "w"
 refine fk (n:=0) YJ.lr small hat rfl rfl (λW Pt=>rfl) ?_
 walk_at "w"
 refine Ht λRN R7 WQ=>?_
 have Wa:=YJ.pre R7
 have Sm:R5.length≠j:=by
  have:=YJ.lt (x:=j) (by walk_at "m")
  walk_at "o"
 generalize R5.length=c at WQ Sm
 walk_at "w"
 refine fG (j:=j) (aH _) (by have:=Wa.lt (x:=j) (by walk_at "m"); walk_at "o") (by walk_at "m") (by walk_at "m") (Wa.src.pre (aB _)) λUy n x hx E12 S12=>?_
 refine bv λGG PD=>?_
 obtain⟨PX,rfl,TA⟩:=pp (xs:=["b a"," a x ","a a q",""]) hx
 have S0:=aB (st:=RN) (.list [.str "b a",.str " a x ",.str "a a q",.str ""])
 have Ym:=(Wa.pre S0).ext E12 S12
 have kk:∀(i:Nat) (o:MO),i≠j->RN[i]?=some o->Uy[i]?=some o:=λi o hi e=>E12.keep _ _ hi (aA S0 e)
 obtain⟨fs,Re,QY⟩:=WQ
 refine PD ?_
 walk_at "w"
 exact HG (pl:=pl) Ym G ZM hat hA hB ⟨fs,kk _ _ Sm Re,QY⟩ (kk _ _ hdj (aA R7 Xg)) (kk _ _ htj (aA (Rm.trans R7) U4)) (kk _ _ Wb (aA (Rm.trans R7) acH)) Ra QG TA h
end
section
variable {st Ps:MS}{t R:Nat}{lay:List cH}{D d:List Rw}{Q:MV->MS->Prop}{F:MF->aG->MS->Prop}{ρ:aG}{k p q:Nat}{V:MV}
theorem By {C:Addr}{name:Str}{i n:Nat}{fs:List (Str×MV)}(h0:ρ[i]?=some (some (.ref n)))(hn:st[n]?=some (.inst C fs))(hl:fs.length < 100)(h:F .next ρ (st.set n (.inst C (kE name V fs)))):xy C name (af i) ρ F V st:=iJ h0 (F5 hn ⟨hl,h⟩)
theorem FB {d d':List Rw}(hl:d.length=d'.length)(h1:∀j,aT d j=aT d' j)(h2:∀j,bA d j=bA d' j)(i:Nat):bG d i=bG d' i/\cY d i=cY d' i:=by
 unfold bG cY
 rw [hl]
 exact⟨afL λj _=>by rw [h1,h2],afL λj _=>by rw [h1,h2]⟩
noncomputable abbrev GF (r:Rw)(nm v:Str):Rw:={ r with name:=nm,val:=v }
theorem LW {nm v:Str}(hq:q < d.length)(j:Nat):aT (d.set q (GF (aL d q) nm v)) j=aT d j:=by
 unfold aT
 by_cases h:q=j
 ·subst h
  rw [abq hq,c0 hq]; rfl
 ·rw [abe h]
theorem Jh {nm v:Str}(hq:q < d.length)(j:Nat):bA (d.set q (GF (aL d q) nm v)) j=bA d j:=by
 unfold bA
 by_cases h:q=j
 ·subst h
  rw [abq hq,c0 hq]
 ·rw [abe h]
theorem kj {nm u lc v:Str}(T:Tr st t R lay d)(Y:Ly t R lay)(hp:p < d.length)(he:(aL d p).kind=("element":Str)) (hat:cY d p=[q])
  (hm:(aL d q).uri=u/\(aL d q).loc=lc)
  (h:∀Ps,Tr Ps t R lay (d.set q (GF (aL d q) nm v))->Kp (cu t R lay) st Ps->Q (.int (q:Int)) Ps) :
  b0 [.ref t,.int (p:Int),.str nm,.str u,.str lc,.str v] st Q:=by
 have hq:q < d.length:=(vQ.mp (by rw [hat]; exact .head _:q∈cY d p)).1
 have Xd:=c0 hp
 refine bv λGG PD=>?_
 obtain⟨lp,XY⟩:=T.at Xd
 have VW:=c0 hq
 obtain⟨l,hl⟩:=T.at VW
 obtain⟨y0,y1,y2,y3⟩:=Y.at hl
 refine PD ?_
 have small:=T.small
 have len:=T.len
 have PR:=(bP (T.node q l _ hl VW).1).1
 have Ug:=Y.tR
 refine cE rfl ?_
 walk_at "w"
 refine bK (bj T) ?_
 walk_at "w"
 refine qQ T Xd XY he ?_
 walk_at "w"
 refine bD (T.node p lp _ XY Xd).1 rfl ?_
 refine cb (T.node p lp _ XY Xd).2.2.1 ?_
 rw [hat]
 refine cT (by have:=(T.node p lp _ XY Xd).2.2.1; rw [hat] at this; exact this) ?_
 walk_at "w"
 refine bD T.tree rfl ?_
 walk_at "w"
 refine bI (n:=q) (x:=.ref l.i) T.rows rfl (by rw [abC,hl]; rfl) (by simp; walk_at "o") ?_
 walk_at "w"
 refine bD (T.node q l _ hl VW).1 rfl ?_
 walk_at "w"
 refine dJ (λ_=>?_) λe=>absurd hm.1 e
 walk_at "w"
 refine bD (T.node q l _ hl VW).1 rfl ?_
 walk_at "w"
 refine dJ (λ_=>?_) λe=>absurd hm.2 e
 walk_at "w"
 refine Bf ?_
 walk_at "w"
 refine By rfl (T.node q l _ hl VW).1 (by simp [d7]) ?_
 walk_at "w"
 refine Bf ?_
 walk_at "w"
 refine By rfl (abq PR) (by exact of_decide_eq_true rfl) ?_
 rw [List.set_set]
 walk_at "w"
 refine h _ ⟨?_,?_,?_,?_,λk l' r' e1 e2=>?_⟩ ?_
 ·rw [abe (by walk_at "o")]; exact T.tree
 ·rw [abe (by walk_at "o")]; exact T.rows
 ·rw [aeS]; exact T.len
 ·rw [aeS]; exact T.small
 ·obtain⟨z0,z1,z2,z3⟩:=Y.at e1
  obtain⟨c1,c2⟩:=FB (d:=d.set q (GF (aL d q) nm v)) (d':=d) (by rw [aeS]) (LW hq) (Jh hq) k
  rw [c1,c2]
  by_cases hk:q=k
  ·subst hk
   rw [hl] at e1
   obtain rfl:=abi e1
   rw [abq hq] at e2
   obtain rfl:=abi e2
   obtain⟨a,b,c,e⟩:=T.node q l _ hl VW
   refine⟨?_,?_,?_,?_⟩
   ·rw [abq PR]; rfl
   ·rw [abe (by walk_at "o")]; exact b
   ·rw [abe (by walk_at "o")]; exact c
   ·rw [abe (by walk_at "o")]; exact e
  ·rw [abe hk] at e2
   have:=Y.apart e1 hl (λq=>hk q.symm)
   obtain⟨a,b,c,e⟩:=T.node k l' r' e1 e2
   refine⟨?_,?_,?_,?_⟩ <;> rw [abe (by walk_at "o")] <;> assumption
 ·exact .set (.inr (.inr ⟨l,abh hl,abp _,by walk_at "o"⟩))
theorem EV {a b:Bool}(h:Q (.bool (a != b)) st):g8 [.bool a,.bool b] st Q:=Az (λ_ _=>rfl) (jC rfl rfl (by cases a <;> cases b <;> exact h))
theorem zI {al c t k:Nat}{PX:Str}{pos size:Int}{PJ:MV}(ha:st[al]?=some (.list [.str PX]))(hc:cZ st c t k pos size PJ)(h:pY [.str PX,.ref c] st Q):bF [.str "lang",.ref al,.ref c] st Q:=by
 obtain⟨fs,Re,QY,Uu,_⟩:=hc
 refine cE rfl ?_
 walk_at "w"
 refine bH (λe=>absurd e (by decide +kernel)) λ_=>?_
 walk_at "w"
 refine bH (λe=>absurd e (by decide +kernel)) λ_=>?_
 walk_at "w"
 refine bH (λe=>absurd e (by decide +kernel)) λ_=>?_
 walk_at "w"
 refine bH (λe=>absurd e (by decide +kernel)) λ_=>?_
 walk_at "w"
 refine bH (λe=>absurd e (by decide +kernel)) λ_=>?_
 walk_at "w"
 refine bH (λ_=>?_) λe=>absurd rfl e
 walk_at "w"
 refine bI (n:=0) ha rfl rfl (by walk_at "m") ?_
 walk_at "w"
 refine bD Re QY ?_
 refine rf ?_
 walk_at "w"
 exact h
noncomputable abbrev OH:Str:=("http://www.w3.org/XML/1998/namespace":Str)
noncomputable abbrev M1:Rw:=⟨"element","a","a","","",some 0⟩
noncomputable abbrev Om (v:Str):Rw:=⟨"attribute","xml:lang","lang",OH,v,some 1⟩
noncomputable abbrev zF (v:Str):List Rw:=[]++[jH]++[M1]++[Om v]
theorem AR:Wf ([]++[jH]):=BL.snoc λp e=>by cases e
theorem Ch:Wf ([]++[jH]++[M1]):=AR.snoc λp e=>by
 have e:some 0=some p:=e
 obtain rfl:=abi e
 exact⟨by decide,dN AR 0,.inl rfl⟩
theorem Hu (v:Str):Wf (zF v):=Ch.snoc λp e=>by
 have e:some 1=some p:=e
 obtain rfl:=abi e
 exact⟨by decide,dN Ch 1,.inr rfl⟩
theorem HW (v:Str):pt (zF v):=by
 intro k hk e
 have hk:k < 3:=hk
 match k,hk with
 | 0,_=>exact absurd e (show ("":Str)≠eD by decide +kernel)
 | 1,_=>exact absurd e (show ("a":Str)≠eD by decide +kernel)
 | 2,_=>exact (decide_eq_true (rfl:cw=cw):decide (cw=cw)=true)
theorem DI {c:Nat}{v:Str}{b:Bool}(T:Tr st t R lay (zF v))(hc:cZ st c t 1 1 1 .none)(hl:lang (zF v) 1=some 2)(hv:(abM v).length<=100)(hb:CB v ("en":Str)=b) {al:Nat} (ha:st[al]?=some (.list [.str "en"]))
  (h:∀Ps,st <+: Ps->Q (.bool b) Ps):bF [.str "lang",.ref al,.ref c] st Q:=by
 refine zI ha hc ?_
 refine uZ (Hu v) (HW v) T (k:=1) (show 1 < 3 by decide) hc (by decide +kernel) (λa e=>?_) λPs hp=>?_
 ·rw [hl] at e
  obtain rfl:=abi e
  exact hv
 ·rw [hl]
  have e:CB (aL (zF v) 2).val ("en":Str)=b:=hb
  dsimp only
  rw [e]
  exact h Ps hp
theorem qd {v:Str}{b:Bool}(T:Tr st t R lay (zF v))(hl:lang (zF v) 1=some 2)(hv:(abM v).length<=100)(hb:CB v ("en":Str)=b) {v1:Option MV} {x:MV}
  (h:∀Ps,st <+: Ps->F .next [some (.ref t),v1,some (.int 1),some x,some (.bool b)] Ps) :
  (aj (bW (bT (ar g8 (aF bF (ad (tK (.str ("lang":Str))) (ad (be (ad (tK (.str ("en":Str))) ak)) (ad (aF (kO 313 gE) (ad (af 0) (ad (af 2) ak))) ak)))) (af 4))) (aj (aS (tK (.bool false)))
 az) az)
 az) [some (.ref t),v1,some (.int 1),some x,some (.bool b)] st F:=by
 walk_at "w"
 refine JV (k:=1) λst1 PZ hc=>?_
 refine DI (T.mono ((aB _).trans PZ)) hc hl hv hb (aA PZ (aH _)) λP1 PW=>?_
 walk_at "w"
 refine EV ?_
 rw [bne_self_eq_false]
 walk_at "w"
 exact h _ (((aB _).trans PZ).trans PW)
theorem uA (h:∀Ps,Kp (λ_=>False) st Ps->Q (.bool true) Ps):dL [] st Q:=by
 refine cE rfl ?_
 walk_at "w"
 refine CQ λst1 PZ T1 VS=>?_
 walk_at "w"
 refine eF rfl ?_
 walk_at "w"
 refine bK (bj T1) ?_
 walk_at "w"
 refine bK (bj T1) ?_
 walk_at "w"
 have Y1:Ly st.length (st.length+1) []:=Hs
 refine qG T1 Y1 AR (by walk_at "m") λP1 T2 K2=>?_
 have Y2:=Y1.snoc T1
 walk_at "w"
 refine l6 (p:=0) T2 Y2 Ch (by walk_at "m") λQb T3 K3=>?_
 have Y3:=Y2.snoc T2
 walk_at "w"
 have acS:∀{lay:List cH} {i:Nat},Ly st.length (st.length+1) lay->i < st.length->¬cu st.length (st.length+1) lay i:=by
  rintro lay i Y hi (e | e | ⟨l,hl,h1,h2⟩)
  ·walk_at "o"
  ·walk_at "o"
  ·have:=(Y.low l hl).1
   walk_at "o"
 have kp:∀{lay:List cH} {a b:MS},Ly st.length (st.length+1) lay->Kp (cu st.length (st.length+1) lay) a b->(∀i o,st[i]?=some o->a[i]?=some o)->∀i o,st[i]?=some o->b[i]?=some o:=λY K ha i o e=>K.keep _ _ (acS Y (bP e).1) (ha i o e)
 have k3:∀i o,st[i]?=some o->Qb[i]?=some o:=kp Y2 K3 (kp Y1 K2 λi o e=>aA PZ e)
 have Ro:=aB (st:=Qb) (.list [.tup [.str "enx",.bool false],.tup [.str "en-GB",.bool true],.tup [.str "EN",.bool true]])
 have UU:=aH (st:=Qb) (.list [.tup [.str "enx",.bool false],.tup [.str "en-GB",.bool true],.tup [.str "EN",.bool true]])
 refine cb UU ?_
 have T4:=T3.mono Ro
 have YP:¬cu st.length (st.length+1) ([]++[dr st1.length]++[dr P1.length]) Qb.length:=λq=>acg _ (T3.lt Y3 q)
 have k4:∀i o,st[i]?=some o->(Qb++[MO.list [.tup [.str "enx",.bool false],.tup [.str "en-GB",.bool true],.tup [.str "EN",.bool true]]])[i]?=some o:=λi o e=>aA Ro (k3 i o e)
 have aav:=aaj (aaj PZ.length_le (aaj K2.len K3.len)) Ro.length_le
 generalize Qb++[MO.list [MV.tup [.str "enx",.bool false],.tup [.str "en-GB",.bool true],.tup [.str "EN",.bool true]]]=RL at Ro UU T4 k4 aav
 generalize Qb.length=li at UU YP
 clear T3 k3 Ro K3 K2 T2
 refine fe UU rfl ?_
 walk_at "w"
 refine bK (bj T4) ?_
 walk_at "w"
 refine j5 (p:=1) T4 Y3 (Hu "enx") (by walk_at "m") rfl (λk hk=>?_) λRl T5 K5=>?_
 ·have h0:cY ([]++[jH]++[M1]) 1=[]:=by decide +kernel
  rw [h0] at hk; cases hk
 have Y5:=Y3.snoc T4
 have hl5:=K5.keep _ _ YP UU
 have Zw:¬cu st.length (st.length+1) ([]++[dr st1.length]++[dr P1.length]++[dr RL.length]) li:=cu.snoc YP (bP UU).1
 have k5:=kp Y3 K5 k4
 walk_at "w"
 refine qd (v:="enx") (b:=false) T5 (by decide +kernel) (by decide +kernel) (by decide +kernel) λRq Sp=>?_
 walk_at "w"
 have T6:=T5.mono Sp
 refine fe (aA Sp hl5) rfl ?_
 walk_at "w"
 refine bK (bj T6) ?_
 walk_at "w"
 refine kj (p:=1) (q:=2) T6 Y5 (show 1 < 3 by decide) rfl (by decide +kernel) ⟨rfl,rfl⟩ λSh T7 K7=>?_
 have TZ:=K7.keep _ _ Zw (aA Sp hl5)
 have k7:=kp Y5 K7 λi o e=>aA Sp (k5 i o e)
 walk_at "w"
 refine qd (v:="en-GB") (b:=true) T7 (by decide +kernel) (by decide +kernel) (by decide +kernel) λQ9 RP=>?_
 walk_at "w"
 have T8:Tr Q9 _ _ _ (zF "en-GB"):=T7.mono RP
 refine fe (aA RP TZ) rfl ?_
 walk_at "w"
 refine bK (bj T8) ?_
 walk_at "w"
 refine kj (p:=1) (q:=2) T8 Y5 (show 1 < 3 by decide) rfl (by decide +kernel) ⟨rfl,rfl⟩ λSx T9 K9=>?_
 have hl9:=K9.keep _ _ Zw (aA RP TZ)
 have k9:=kp Y5 K9 λi o e=>aA RP (k7 i o e)
 walk_at "w"
 refine qd (v:="EN") (b:=true) T9 (by decide +kernel) (by decide +kernel) (by decide +kernel) λR5 Rm=>?_
 walk_at "w"
 refine xS (aA Rm hl9) ?_
 walk_at "w"
 refine h _ ⟨?_,λi o _ e=>aA Rm (k9 i o e)⟩
 have:=K5.len
 have:=Sp.length_le
 have:=K7.len
 have:=RP.length_le
 have:=K9.len
 have:=Rm.length_le
 walk_at "o"
end
section
variable {st Ps:MS}{t R:Nat}{lay:List cH}{d:List Rw}{Q:MV->MS->Prop}{F:MF->aG->MS->Prop}{ρ:aG}{k p q:Nat}{V:MV}{al c:Nat}{pos size:Int}{PJ:MV}
theorem LM (o:Option Int):∃a b:Int,gL o=num a b:=by
 cases o with
 | none=>exact⟨0,0,rfl⟩
 | some h =>
  unfold gL
  dsimp only
  split
  ·exact⟨_,_,rfl⟩
  ·exact⟨_,_,rfl⟩
theorem xf {a b:Int}(h:Q (.bool false) st):g8 [num a b,num a b] st Q:=by
 refine Az (λ_ _=>rfl) (jC (d:=.tuple [.int a,.int b]) (e:=.tuple [.int a,.int b]) rfl rfl ?_)
 rw [show abH (.tuple [.int a,.int b]) (.tuple [.int a,.int b])=true by simp [abH,ad5]]
 exact h
theorem HB (hc:cZ st c t k pos size PJ)(h:Q (num size 1) st):bF [.str "last",.ref al,.ref c] st Q:=by
 refine bv λGG PD=>?_
 obtain⟨fs,Re,QY,Uu,hc4,hc5,_⟩:=hc
 refine PD ?_
 refine cE rfl ?_
 walk_at "w"
 refine bH (λ_=>?_) λe=>absurd rfl e
 walk_at "w"
 refine bD Re hc5 ?_
 walk_at "w"
 refine gM ?_
 walk_at "w"
 exact h
theorem Aw (hc:cZ st c t k pos size PJ)(h:Q (num pos 1) st):bF [.str "position",.ref al,.ref c] st Q:=by
 refine bv λGG PD=>?_
 obtain⟨fs,Re,QY,Uu,hc4,hc5,_⟩:=hc
 refine PD ?_
 refine cE rfl ?_
 walk_at "w"
 refine bH (λe=>absurd e (by decide +kernel)) λ_=>?_
 walk_at "w"
 refine bH (λ_=>?_) λe=>absurd rfl e
 walk_at "w"
 refine bD Re hc4 ?_
 walk_at "w"
 refine gM ?_
 walk_at "w"
 exact h
theorem Fz {lot:Nat}{xs:List MV}(ha:st[al]?=some (.list [.ref lot]))(hl:st[lot]?=some (.list xs))(hx:xs.length<=1000)(h:Q (num (xs.length:Int) 1) st):bF [.str "count",.ref al,.ref c] st Q:=by
 refine cE rfl ?_
 walk_at "w"
 refine bH (λe=>absurd e (by decide +kernel)) λ_=>?_
 walk_at "w"
 refine bH (λe=>absurd e (by decide +kernel)) λ_=>?_
 walk_at "w"
 refine bH (λ_=>?_) λe=>absurd rfl e
 walk_at "w"
 refine bI (n:=0) ha rfl rfl (by simp) ?_
 walk_at "w"
 refine Ip hl hx ?_
 walk_at "w"
 exact h
theorem I1 {lot:Nat}{ks:List Nat}(W:Wf d)(T:Tr st t R lay d)(hs:h7 d)(hc:cZ st c t k pos size PJ)(ha:st[al]?=some (.list [.ref lot]))(hl:st[lot]?=some (.list (ay ks)))(hk:∀k∈ks,k < d.length)(hn:∀k,k < d.length->jS (bi d k))
  (h:∀Ps,st <+: Ps->Q (gL (qE (ks.map λk=>halves (bi d k)))) Ps):bF [.str "sum",.ref al,.ref c] st Q:=by
 obtain⟨fs,Re,QY,_⟩:=hc
 refine cE rfl ?_
 walk_at "w"
 refine bH (λe=>absurd e (by decide +kernel)) λ_=>?_
 walk_at "w"
 refine bH (λe=>absurd e (by decide +kernel)) λ_=>?_
 walk_at "w"
 refine bH (λe=>absurd e (by decide +kernel)) λ_=>?_
 walk_at "w"
 refine bH (λ_=>?_) λe=>absurd rfl e
 walk_at "w"
 refine bI (n:=0) ha rfl rfl (by simp) ?_
 walk_at "w"
 refine bD Re QY ?_
 walk_at "w"
 refine IW W T hs hl hk hn λPs hp=>?_
 walk_at "w"
 exact h Ps hp
inductive pd:Str->Nat->(Rw->Str)->Prop
 | name:pd "name" 2 Rw.name
 | loc:pd "local-name" 3 Rw.loc
 | uri:pd "namespace-uri" 4 Rw.uri
theorem pd.get {w:Str}{n:Nat}{g:Rw->Str}(C:pd w n g)(k:Nat)(r:Rw):(eK k r)[n]?=some (.str (g r)):=by cases C <;> rfl
theorem vc {w:Str}{n:Nat}{g:Rw->Str}(C:pd w n g)(T:Tr st t R lay d)(hk:k < d.length)(h:Q (.str (g (aL d k))) st):iX [.str w,.int (k:Int),.ref t] st Q:=by
 have hr:=c0 hk
 refine cE rfl ?_
 walk_at "w"
 cases C with
 | name =>
  refine bH (λ_=>?_) λe=>absurd rfl e
  walk_at "w"
  refine bK (bj T) ?_
  walk_at "w"
  refine HR T hr ?_
  walk_at "w"
  exact h
 | loc =>
  refine bH (λe=>absurd e (by decide +kernel)) λ_=>?_
  walk_at "w"
  refine dS (λ_=>?_) λe=>absurd rfl e
  walk_at "w"
  refine bK (bj T) ?_
  walk_at "w"
  refine KE T hr ?_
  walk_at "w"
  exact h
 | uri =>
  refine bH (λe=>absurd e (by decide +kernel)) λ_=>?_
  walk_at "w"
  refine dS (λe=>absurd e (by decide +kernel)) λ_=>?_
  walk_at "w"
  refine bK (bj T) ?_
  walk_at "w"
  refine NE T hr ?_
  walk_at "w"
  exact h
theorem Dp {w:Str}(h:Q (.str "") st):iX [.str w,.none,.ref t] st Q:=by
 refine cE rfl ?_
 walk_at "w"
 exact h
theorem FL {g e:Nat}(hg:st[g]?=some (.list []))(he:st[e]?=some (.list []))(h:Q (.bool true) st):bN [.ref g,.ref e] st Q:=by
 refine xL (λ_ _=>rfl) (jC (dX (ds:=[]) hg rfl) (dX (ds:=[]) he rfl) ?_)
 rw [show abH (.list []) (.list [])=true by simp [abH,ad5]]
 exact h
theorem F6 {g e lot:Nat}{ks:List Nat}(hg:st[g]?=some (.list [.ref lot]))(hl:st[lot]?=some (.list (ay ks)))(he:st[e]?=some (.list []))(h:Q (.bool false) st):bN [.ref g,.ref e] st Q:=by
 refine Ke hg rfl (ds:=[.list (ks.map λ(n:Nat)=>adG (n:Int))]) (by rw [adL,dX hl (mL _)]; rfl) he ?_
 rw [show ∀a,abH (.list [a]) (.list [])=false from λa=>by simp [abH,ad5]]
 exact h
theorem IO (hc:cZ st c t k pos size PJ)(ha:st[al]?=some (.list []))(h:∀Ps,st <+: Ps->Q (.int (k:Int)) Ps):iY [.ref al,.ref c] st Q:=by
 obtain⟨fs,Re,QY,Uu,_⟩:=hc
 have hp:=aB (st:=st) (.list [])
 refine cE rfl ?_
 walk_at "w"
 refine FL (aA hp ha) (aH _) ?_
 walk_at "w"
 refine bD (aA hp Re) Uu ?_
 walk_at "w"
 exact h _ hp
noncomputable def Nu (ks:List Nat):MV:=match ks with | []=>.none | k::_=>.int (k:Int)
theorem IV {lot:Nat}{ks:List Nat}(ha:st[al]?=some (.list [.ref lot]))(hl:st[lot]?=some (.list (ay ks)))(Yu:ks.length<=1000)(h:∀Ps,st <+: Ps->Q (Nu ks) Ps):iY [.ref al,.ref c] st Q:=by
 have hp:=aB (st:=st) (.list [])
 refine cE rfl ?_
 walk_at "w"
 refine F6 (aA hp ha) (aA hp hl) (aH _) ?_
 walk_at "w"
 refine bI (n:=0) (aA hp ha) rfl rfl (by simp) ?_
 walk_at "w"
 refine qi (aA hp hl) ?_
 walk_at "w"
 have PW:=hp.trans (aB (st:=st++[.list []]) (.list []))
 refine vN (aA PW hl) (aH _) ?_
 cases ks with
 | nil =>
  simp only [af0,adK]
  walk_at "w"
  exact h _ PW
 | cons k ks =>
  simp only [agJ,adR]
  walk_at "w"
  refine bI (n:=0) (aA PW hl) rfl rfl (by rw [bb]; walk_at "o") ?_
  walk_at "w"
  exact h _ PW
theorem zd {w:Str}{n:Nat}{g:Rw->Str}(C:pd w n g)(hc:cZ st c t k pos size PJ){V:MV}
  (hn:∀K:MV->MS->Prop,(∀Ps,st <+: Ps->K V Ps)->iY [.ref al,.ref c] st K) (h:∀Ps,st <+: Ps->iX [.str w,V,.ref t] Ps Q):bF [.str w,.ref al,.ref c] st Q:=by
 obtain⟨fs,Re,QY,Uu,_⟩:=hc
 refine cE rfl ?_
 walk_at "w"
 refine bH (λe=>absurd e (by cases C <;> decide +kernel)) λ_=>?_
 walk_at "w"
 refine bH (λe=>absurd e (by cases C <;> decide +kernel)) λ_=>?_
 walk_at "w"
 refine bH (λe=>absurd e (by cases C <;> decide +kernel)) λ_=>?_
 walk_at "w"
 refine bH (λe=>absurd e (by cases C <;> decide +kernel)) λ_=>?_
 walk_at "w"
 refine bH (λe=>absurd e (by cases C <;> decide +kernel)) λ_=>?_
 walk_at "w"
 refine bH (λe=>absurd e (by cases C <;> decide +kernel)) λ_=>?_
 walk_at "w"
 refine hn _ λPs hp=>?_
 walk_at "w"
 refine bD (aA hp Re) QY ?_
 have hh:=h Ps hp
 exact hh
noncomputable def wO (d:List Rw)(g:Rw->Str)(ks:List Nat):Str:=match ks with | []=>"" | k::_=>g (aL d k)
theorem FP {w:Str}{n:Nat}{g:Rw->Str}(C:pd w n g)(T:Tr st t R lay d)(hk:k < d.length)(hc:cZ st c t k pos size PJ)(ha:st[al]?=some (.list []))(h:∀Ps,st <+: Ps->Q (.str (g (aL d k))) Ps):bF [.str w,.ref al,.ref c] st Q:=
 zd C hc (λK hK=>IO hc ha hK) λPs hp=>vc C (T.mono hp) hk (h Ps hp)
theorem GM {w:Str}{n:Nat}{g:Rw->Str}(C:pd w n g)(T:Tr st t R lay d)(hc:cZ st c t k pos size PJ){lot:Nat}{ks:List Nat}(ha:st[al]?=some (.list [.ref lot]))(hl:st[lot]?=some (.list (ay ks)))(Yu:ks.length<=1000)(Rp:∀k∈ks,k < d.length)(h:∀Ps,st <+: Ps->Q (.str (wO d g ks)) Ps):bF [.str w,.ref al,.ref c] st Q:=
 zd C hc (λK hK=>IV ha hl Yu hK) λPs hp=>by
  cases ks with
  | nil=>exact Dp (h Ps hp)
  | cons q ks=>exact vc C (T.mono hp) (Rp q (.head _)) (h Ps hp)
end
set_option genInjectivity false in
structure Ev where
 j:Nat
 due:Nat
 lot:Nat
 at':Nat
 pos:Int
 size:Int
 som:List Nat
 d:List Rw
noncomputable def t5 (d:List Rw)(k:Nat)(PX:Str):Bool:=match lang d k with | some a=>Ey (aL d a).val PX | none=>false
inductive kq (st:MS)(v:Ev):MV->Prop
 | last {al:Nat} (h:st[al]?=some (.list [])) (hj:al≠v.j/\al≠v.due):kq st v (.tup [.str "last",.ref al,num v.size 1])
 | position {al:Nat} (h:st[al]?=some (.list [])) (hj:al≠v.j/\al≠v.due):kq st v (.tup [.str "position",.ref al,num v.pos 1])
 | count {al:Nat} (h:st[al]?=some (.list [.ref v.lot])) (hj:al≠v.j/\al≠v.due):kq st v (.tup [.str "count",.ref al,num (v.som.length:Int) 1])
 | sum {al lot:Nat} {ks:List Nat} (h:st[al]?=some (.list [.ref lot])) (hj:al≠v.j/\al≠v.due) (hl:st[lot]?=some (.list (ay ks))) (Yg:lot≠v.j/\lot≠v.due) (hk:∀k∈ks,k < v.d.length):kq st v (.tup [.str "sum",.ref al,gL (qE (ks.map λk=>halves (bi v.d k)))])
 | nameC {al n:Nat} {w:Str} {g:Rw->Str} (C:pd w n g) (h:st[al]?=some (.list [])) (hj:al≠v.j/\al≠v.due):kq st v (.tup [.str w,.ref al,.str (g (aL v.d v.at'))])
 | nameS {al n:Nat} {w:Str} {g:Rw->Str} (C:pd w n g) (h:st[al]?=some (.list [.ref v.lot])) (hj:al≠v.j/\al≠v.due):kq st v (.tup [.str w,.ref al,.str (wO v.d g v.som)])
 | lang {al:Nat} {PX:Str} (ha:PX∈mX) (h:st[al]?=some (.list [.str PX])) (hj:al≠v.j/\al≠v.due):kq st v (.tup [.str "lang",.ref al,.bool (t5 v.d v.at' PX)])
section
variable {st Ps:MS}{t R:Nat}{lay:List cH}{d:List Rw}{Q:MV->MS->Prop}{F:MF->aG->MS->Prop}{ρ:aG}{c:Nat}{ss:List Nat}
theorem kq.keep {v:Ev}{e:MV}(E:kq st v e)(K:Kp (λi=>i=v.j\/i=v.due) st Ps):kq Ps v e:=by
 have k:∀{al:Nat} {o:MO},st[al]?=some o->al≠v.j/\al≠v.due->Ps[al]?=some o:=λe h=>K.keep _ _ (λq=>q.elim h.1 h.2) e
 cases E with
 | last h hj=>exact .last (k h hj) hj
 | position h hj=>exact .position (k h hj) hj
 | count h hj=>exact .count (k h hj) hj
 | sum h hj hl Yg hk=>exact .sum (k h hj) hj (k hl Yg) Yg hk
 | nameC C h hj=>exact .nameC C (k h hj) hj
 | nameS C h hj=>exact .nameS C (k h hj) hj
 | lang ha h hj=>exact .lang ha (k h hj) hj
theorem kq.run {v:Ev}{e:MV}(E:kq st v e)(T:Tr st t R lay v.d)(G:Gd v.d ss)(h19:v.d.length<=19)(hat:v.at' < v.d.length)(hc:cZ st c t v.at' v.pos v.size .none)
  (hl:st[v.lot]?=some (.list (ay v.som))) (hs:∀k∈v.som,k < v.d.length) (QG:v.som.length<=100) :
  ∃nm al W,e=.tup [.str nm,.ref al,W]/\∀K:MV->MS->Prop,(∀Ps,st <+: Ps->K (.bool false) Ps)->bF [.str nm,.ref al,.ref c] st λV st1=>g8 [V,W] st1 K:=by
 have hn:∀k,k < v.d.length->jS (bi v.d k):=λk hk=>zj G.wf G.ok h19 hk
 cases E with
 | last h hj=>exact⟨_,_,_,rfl,λK hK=>HB hc (xf (hK _ (aaf _)))⟩
 | position h hj=>exact⟨_,_,_,rfl,λK hK=>Aw hc (xf (hK _ (aaf _)))⟩
 | count h hj =>
  refine⟨_,_,_,rfl,λK hK=>Fz h hl (by rw [bb]; walk_at "o") ?_⟩
  rw [bb]
  exact xf (hK _ (aaf _))
 | @sum al lot ks h hj hl Yg hk =>
  refine⟨_,_,_,rfl,λK hK=>I1 G.wf T G.short hc h hl hk hn λPs hp=>?_⟩
  obtain⟨a,b,e⟩:=LM (qE (ks.map λk=>halves (bi v.d k)))
  rw [e]
  exact xf (hK _ hp)
 | nameC C h hj =>
  refine⟨_,_,_,rfl,λK hK=>FP C T hat hc h λPs hp=>Ku ?_⟩
  rw [decide_eq_true rfl]
  exact hK _ hp
 | nameS C h hj =>
  refine⟨_,_,_,rfl,λK hK=>GM C T hc h hl (by walk_at "o") hs λPs hp=>Ku ?_⟩
  rw [decide_eq_true rfl]
  exact hK _ hp
 | @lang al PX ha h hj =>
  refine⟨_,_,_,rfl,λK hK=>zI h hc (uZ G.wf G.langOk T hat hc (Cm ha) (λa e=>(EA (AJ G e)).1.1) λPs hp=>EV ?_)⟩
  have e:(match Internal.lang v.d v.at' with | some a=>CB (aL v.d a).val PX | none=>false)=t5 v.d v.at' PX:=by
   unfold t5
   cases e:Internal.lang v.d v.at' with
   | none=>rfl
   | some a=>exact (Ni (AJ G e) ha).symm
  refine Eq.mpr (congrArg (λb=>K (.bool (b != t5 v.d v.at' PX)) Ps) e) ?_
  rw [bne_self_eq_false]
  exact hK _ hp
theorem IZ {v:Ev}(T:Tr st t R lay v.d)(Gv:Gd v.d ss)(h19:v.d.length<=19)(hat:v.at' < v.d.length)(hc:cZ st c t v.at' v.pos v.size .none)
  (hl:st[v.lot]?=some (.list (ay v.som))) (hs:∀k∈v.som,k < v.d.length) (QG:v.som.length<=100)
  {G:MS->Prop} (hG:∀s,st <+: s->G s) {v0 v1 v2 v3 v4 v5 v6 v8 v9 Sb Rj SE R2 R3:Option MV}:∀(es:List MV) (Ps:MS) (a b e:Option MV),st <+: Ps->(∀e∈es,kq st v e) ->
  (∀PT a b e,st <+: PT->F .next [v0,v1,v2,v3,v4,v5,v6,some (.ref c),v8,v9,Sb,Rj,SE,R2,R3,a,b,e] PT) ->
  ew G (ix [15,16,17]) qe es [v0,v1,v2,v3,v4,v5,v6,some (.ref c),v8,v9,Sb,Rj,SE,R2,R3,a,b,e] Ps F:=by
 intro es
 induction es with
 | nil =>
  intro Ps a b e RX _ h
  exact⟨hG _ RX,h _ _ _ _ RX⟩
 | cons x es ih =>
  intro Ps a b e RX hE h
  have Kp':Kp (λi=>i=v.j\/i=v.due) st Ps:=Kp.pre RX
  refine bv λGG PD=>?_
  obtain⟨nm,al,W,rfl,run⟩:=((hE x (.head _)).keep Kp').run (T.mono RX) Gv h19 hat (hc.pre RX) (aA RX hl) hs QG
  refine PD ?_
  refine fe (hG _ RX) rfl ?_
  walk_at "w"
  refine run _ λP1 PW=>?_
  walk_at "w"
  exact ih P1 _ _ _ (RX.trans PW) (λy hy=>hE y (.tail _ hy)) h
end
theorem gs {x n:Str}{P P':aG->MS->Prop}{r:aG}{st:MS}(h:P' (some (.str n)::r) st)(P6:n≠x):tH (zC x) P P' (some (.str n)::r) st:=by
 show st <+: st/\if decide (n=x)=true then P (some (.str n)::r) st else P' (some (.str n)::r) st
 rw [decide_eq_false P6]
 exact⟨aaf _,h⟩
theorem CG {n:Str}{P P':aG->MS->Prop}{r:aG}{st:MS}(h:P (some (.str n)::r) st):tH (zC n) P P' (some (.str n)::r) st:=by
 show st <+: st/\if decide (n=n)=true then P (some (.str n)::r) st else P' (some (.str n)::r) st
 rw [decide_eq_true rfl]
 exact⟨aaf _,h⟩
theorem vh {l:Nat}{x:MV}{st:MS}{Q:MV->MS->Prop}(hl:st[l]?=some (.list [x]))(h:Q x st):aN [.ref l,.int 0] st Q:=eI hl ⟨⟨by decide,by decide⟩,0,x,rfl,rfl,h⟩
theorem HL {nm:Str}{x:MV}{c:Nat}{fs:List (Str×MV)}{V:MV}{st:MS}{Q:MV->MS->Prop}(hn:nm=("count":Str)\/nm=("sum":Str)\/nm=("name":Str)) (hx:x=.str "a"\/x=.tup [.int 1,.int 1]\/x=.bool true)
  (hc:st[c]?=some (.inst 313 fs)) (ht:fs.lookup ("tree":Str)=some V) (h:∀Ps,st <+: Ps->Q (.bool true) Ps):ja [.str nm,x,.ref c] st Q:=by
 refine⟨⟨rfl,?_⟩,h⟩
 have hl:(st++[MO.list [x]])[st.length]?=some (.list [x]):=by simp
 have R8:(st++[MO.list [x]])[c]?=some (.inst 313 fs):=by
  rw [abl (bP hc).1]; exact hc
 have p:st <+: st++[MO.list [x]]:=abF _ _
 refine⟨p,rfl,?_⟩
 generalize st++[MO.list [x]]=Pt at hl R8
 generalize st.length=l at hl
 have PR:l < Pt.length:=(bP hl).1
 have WN:∀s:MS,qy [x] s:=λs=>by
  refine⟨rfl,?_⟩
  rcases hx with rfl | rfl | rfl <;> exact⟨rfl,rfl⟩
 rcases hn with rfl | rfl | rfl
 ·refine gs (gs (CG ?_) (by decide +kernel)) (by decide +kernel)
  show aN [.ref l,.int 0] Pt _
  exact vh hl ⟨aaf _,rfl,aaf _,WN _⟩
 ·refine gs (gs (gs (CG ?_) (by decide +kernel)) (by decide +kernel)) (by decide +kernel)
  have e1:∀K,ar aN (af 1) (tK (.int 0)) [some (.str "sum"),some (.ref l),some (.ref c)] Pt K↔aN [.ref l,.int 0] Pt K:=λ_=>ajl
  unfold Hy ad
  refine (e1 _).mpr (vh hl ?_)
  refine Ky (iJ rfl (bD R8 ht ?_))
  exact⟨aaf _,rfl,gM ⟨aaf _,aaf _,WN _⟩⟩
 ·refine gs (gs (gs (gs (gs (gs ?_ (by decide +kernel)) (by decide +kernel)) (by decide +kernel)) (by decide +kernel)) (by decide +kernel)) (by decide +kernel)
  refine⟨aaf _,aaf _,rfl,?_⟩
  have RK:(Pt++[MO.list []])[l]?=some (.list [x]):=by rw [abl PR]; exact hl
  have he:(Pt++[MO.list []])[Pt.length]?=some (.list []):=by simp
  have ev:∀a,abH (.list [a]) (.list [])=false:=λa=>by simp [abH,ad5]
  have key:∀K:MV->MS->Prop,K (.bool false) (Pt++[.list []])->bN [.ref l,.ref Pt.length] (Pt++[.list []]) K:=λK hK=>by
   rcases hx with rfl | rfl | rfl
   ·exact xL (λ_ _=>rfl) (jC (dX RK (ds:=[.str "a"]) (by unfold fA; rw [adL,pO (by decide +kernel)]; rfl)) (dX (ds:=[]) he rfl) (by rw [ev]; exact hK))
   ·exact Ke RK rfl (ds:=[.tuple [.int 1,.int 1]]) rfl he (by rw [ev]; exact hK)
   ·exact xL (λ_ _=>rfl) (jC (dX RK (ds:=[.bool true]) rfl) (dX (ds:=[]) he rfl) (by rw [ev]; exact hK))
  have e1:∀K,ar bN (af 0) (be ak) [some (.ref l),some (.ref c),none] Pt K↔bN [.ref l,.ref Pt.length] (Pt++[.list []]) K:=λ_=>ajl
  unfold yO bT
  refine (e1 _).mpr (key _ ⟨abF _ _,?_⟩)
  show aN [.ref l,.int 0] (Pt++[.list []]) _
  exact vh RK ⟨aaf _,WN _⟩
section
variable {st Ps Qa:MS}{j t R rl os:Nat}{lay:List cH}{PJ:List Nat}{d:List Rw}{Q:MV->MS->Prop}{F:MF->aG->MS->Prop}{ρ:aG}{c:Nat}{ss so:List Nat}
theorem Jo {K:List MV->MS->Prop}:∀(l PY:List Nat)(y:Option MV)(Ps:MS),dQ Ps j->Kp (·=j) st Ps ->
  (∀PT TM,dQ PT j->Kp (·=j) st PT->(∀x∈TM,x∈PY\/x∈l)->TM.length<=PY.length+l.length->K (ay TM) PT)->fq (λ_=>True) (b8 0) rU zD (ay l) [y,some (.ref j)] (ay PY) Ps K:=by
 intro l
 induction l with
 | nil =>
  intro PY y Ps S hK h
  exact⟨trivial,h Ps PY S hK (λx hx=>.inl hx) (by walk_at "m")⟩
 | cons k l ih =>
  intro PY y Ps S hK h
  refine abf trivial ?_
  show rU _ _ _
  walk_at "w"
  refine d8 (top:=3) (by decide) (by decide) S λst1 x hx E1 S1=>?_
  walk_at "w"
  have K1:=hK.trans E1.kp
  by_cases X2:(x:Int)=0
  ·rw [decide_eq_true X2]
   simp only [if_true]
   walk_at "w"
   rw [jA]
   exact ih (PY++[k]) _ st1 S1 K1 λPT TM S2 K2 hm hl=>h PT TM S2 K2 (λx hx=>by
    rcases hm x hx with q | q
    ·rcases dW q with q | q
     ·exact .inl q
     ·rw [cr q]; exact .inr (.head _)
    ·exact .inr (.tail _ q)) (by simp at hl ⊢; walk_at "o")
  ·rw [decide_eq_false X2]
   simp only [ab2,if_false]
   exact ih PY _ st1 S1 K1 λPT TM S2 K2 hm hl=>h PT TM S2 K2 (λx hx=>(hm x hx).imp id (.tail _)) (by simp at hl ⊢; walk_at "o")
structure Du (Qa st:MS)(v:Ev)(es:List MV):Prop where
 K:Kp (·=v.j) Qa st
 S:dQ st v.j
 hd:st[v.due]?=some (.list es)
 hE:∀e∈es,kq st v e
 lt:Qa.length=v.due
 ne:v.due≠v.j
 le:es.length<=100
theorem Du.pre {v:Ev}{es:List MV}(D:Du Qa st v es)(hp:st <+: Ps):Du Qa Ps v es:=
 ⟨D.K.trans (.pre hp),D.S.pre hp,aA hp D.hd,λe he=>(D.hE e he).keep (.pre hp),D.lt,D.ne,D.le⟩
theorem Du.ext {v:Ev}{es:List MV}(D:Du Qa st v es)(E:uQ v.j st Ps)(S:dQ Ps v.j):Du Qa Ps v es:=
 ⟨D.K.trans E.kp,S,E.keep _ _ D.ne D.hd,λe he=>(D.hE e he).keep (E.kp.wide λi h=>.inl h),D.lt,D.ne,D.le⟩
theorem Du.of_app {v:Ev}{es:List MV}{e:MV}(D:Du Qa st v es)(hE:kq st v e)(hl:es.length < 100):Du Qa (aiH (α:=MO) st v.due (MO.list (es++[e]))) v (es++[e]):=by
 have PR:=(bP D.hd).1
 have K2:Kp (λi=>i=v.j\/i=v.due) st (st.set v.due (.list (es++[e]))):=.set (.inr rfl)
 have K1:Kp (·=v.due) st (st.set v.due (.list (es++[e]))):=.set rfl
 refine⟨D.K.new (.inr (by rw [D.lt]; exact abp _)),D.S.keep K1 D.ne.symm,abq PR,λx hx=>?_,D.lt,D.ne,by simp; walk_at "o"⟩
 rcases dW hx with q | q
 ·exact (D.hE x q).keep K2
 ·rw [cr q]; exact hE.keep K2
theorem Du.app {v:Ev}{es:List MV}{e:MV}(D:Du Qa st v es)(hE:kq st v e)(hl:es.length < 100)(h:∀Ps,Du Qa Ps v (es++[e])->Kp (·=v.due) st Ps->Q .none Ps):bx [.ref v.due,e] st Q:=
 dG D.hd (aaj (by walk_at "o":es.length<=100) (by decide)) (h _ (D.of_app hE hl) (.set rfl))
theorem Du.fresh {v:Ev}{es:List MV}(D:Du Qa st v es):st.length≠v.j/\st.length≠v.due:=by
 have h1:=(bP D.hd).1
 obtain⟨a,b,e,_⟩:=D.S
 have h2:=(bP e).1
 walk_at "o"
structure Lw (Qa:MS)(j t R rl os:Nat)(lay:List cH)(PJ:List Nat)(so ss:List Nat)(c sm:Nat)(v:Ev):Prop where
 bs:Bs Qa j t R rl os lay PJ v.d v.d so
 gd:Gd v.d ss
 he:gv v.d
 h19:v.d.length<=19
 hat:v.at' < v.d.length
 ctx:cZ Qa c t v.at' v.pos v.size .none
 smh:Qa[sm]?=some (.list (ay v.som))
 loth:Qa[v.lot]?=some (.list (ay v.som))
 some:∀k∈v.som,k < v.d.length
 sl:v.som.length<=19
 cj:c≠j
 sj:sm≠j
 lj:v.lot≠j
 so':¬cu t R lay sm
 vj:v.j=j
theorem Lw.at {sm:Nat}{v:Ev}(L:Lw Qa j t R rl os lay PJ so ss c sm v)(K:Kp (·=j) Qa st)(S:dQ st j):Lw st j t R rl os lay PJ so ss c sm v:=by
 refine bv λGG PD=>?_
 obtain⟨n1,n2,n3,n4,n5,n6⟩:=L.bs.ne
 refine PD ?_
 refine⟨⟨L.bs.tr.frame L.bs.ly K λx hx=>by rw [hx]; exact L.bs.ap j (.head _),L.bs.ly,L.bs.lr.keep K (λq=>n1 q.symm) λi hi q=>n4 (q ▸ hi),S,K.keep _ _ (λq=>n2 q.symm) L.bs.opn,L.bs.nd,L.bs.ap⟩,L.gd,L.he,L.h19,L.hat,L.ctx.keep K L.cj,K.keep _ _ L.sj L.smh,K.keep _ _ L.lj L.loth,L.some,L.sl,L.cj,L.sj,L.lj,L.so',L.vj⟩
theorem Du.lw {sm:Nat}{v:Ev}{es:List MV}(D:Du Qa st v es)(L:Lw Qa j t R rl os lay PJ so ss c sm v):Lw st j t R rl os lay PJ so ss c sm v:=by
 have:=L.vj
 subst this
 exact L.at D.K D.S
theorem BX {li:Nat}{v0 v2 v3 v4 v5 v6 v8 v9 Sb Rj SE R2 R3 SY SV:Option MV}{k:Nat}{pos size:Int}{U8:List MV}:∀(ns:List Str)(Ps:MS)(a:Option MV),(∀n∈ns,n=("count":Str)\/n=("sum":Str)\/n=("name":Str))->dQ Ps j->cZ Ps c t k pos size .none->c≠j->li≠j->Ps[li]?=some (.list U8)->Kp (·=j) st Ps ->
  (∀PT a,dQ PT j->Kp (·=j) st PT->F .next [v0,some (.ref j),v2,v3,v4,v5,v6,some (.ref c),v8,v9,Sb,Rj,SE,R2,R3,a,SY,SV] PT) ->
  ew (λs=>s[li]?=some (.list U8)) (b8 15) qA (ns.map .str) [v0,some (.ref j),v2,v3,v4,v5,v6,some (.ref c),v8,v9,Sb,Rj,SE,R2,R3,a,SY,SV] Ps F:=by
 intro ns
 induction ns with
 | nil =>
  intro Ps a hn S hc Sm Vc hl hK h
  exact⟨hl,h _ _ S hK⟩
 | cons n ns ih =>
  intro Ps a hn S hc Sm Vc hl hK h
  refine cT hl ?_
  walk_at "w"
  have UQ:j < Ps.length:=by obtain⟨a,b,e,_⟩:=S; exact (bP e).1
  refine fG (j:=j) (aH _) (by walk_at "o") (by walk_at "m") (by walk_at "m") (S.pre (aB _)) λst1 i x hx E1 S1=>?_
  have K1:Kp (·=j) Ps st1:=(Kp.pre (aB _)).trans E1.kp
  have Rf:x=.str "a"\/x=.tup [.int 1,.int 1]\/x=.bool true:=by
   have:=abh hx
   simpa using this
  have Re:=hc.keep K1 Sm
  walk_at "w"
  obtain⟨fs,c1,c2,_⟩:=Re
  refine HL (hn n (.head _)) Rf c1 c2 λP1 PW=>?_
  walk_at "w"
  have K2:Kp (·=j) Ps P1:=K1.trans (.pre PW)
  exact ih P1 _ (λm hm=>hn m (.tail _ hm)) (S1.pre PW) (hc.keep K2 Sm) Sm Vc (K2.keep _ _ Vc hl) (hK.trans K2) h
end
section
variable {st Ps Qa:MS}{j t R rl os:Nat}{lay:List cH}{PJ:List Nat}{d:List Rw}{Q:MV->MS->Prop}{F:MF->aG->MS->Prop}{ρ:aG}{c sm:Nat}{ss so:List Nat}{v:Ev}
theorem Gz (L:Lw Qa j t R rl os lay PJ so ss c sm v){li:Nat}{U8:List MV}(Vc:li≠j)(ZB:li≠v.due){v0 v1 v2 v5 v6 v7 Rj R3 Us SY SV:Option MV}:∀(ps:List (Str×Nat))(es:List MV)(Ps:MS)(a b:Option MV),(∀p∈ps,∃g,pd p.1 p.2 g)->Du Qa Ps v es->es.length+2 * ps.length < 100->Ps[li]?=some (.list U8) ->
  (∀PT X1 a b,Du Qa PT v X1->X1.length<=es.length+2 * ps.length->F .next [v0,v1,v2,some (.ref rl),some (.int (v.at':Int)),v5,v6,v7,some (.ref sm),some (.ref v.lot),some (.ref v.due),Rj,a,b,R3,Us,SY,SV] PT) ->
  ew (λs=>s[li]?=some (.list U8)) (ix [12,13]) m6 (ps.map λp=>.tup [.str p.1,.int (p.2:Int)]) [v0,v1,v2,some (.ref rl),some (.int (v.at':Int)),v5,v6,v7,some (.ref sm),some (.ref v.lot),some (.ref v.due),Rj,a,b,R3,Us,SY,SV] Ps F:=by
 intro ps
 induction ps with
 | nil=>intro es Ps a b hp D hl hx h; exact⟨hx,h _ _ _ _ D (by walk_at "m")⟩
 | cons p ps ih =>
  obtain⟨w,n⟩:=p
  intro es Ps a b hp D hl hx h
  obtain⟨g,C⟩:=hp _ (.head _)
  have C:pd w n g:=C
  have UN:=L.vj
  have small:v.d.length<=200:=by have:=L.h19; walk_at "o"
  refine fe hx rfl ?_
  walk_at "w"
  refine d6 (D.hd) ?_
  walk_at "w"
  have D1:=D.pre (aB (.list [.ref v.lot]))
  have fr:=D.fresh
  have Xw:=aH (st:=Ps) (.list [.ref v.lot])
  have R9:=aA (aB (st:=Ps) (.list [.ref v.lot])) hx
  generalize Ps.length=al at fr Xw
  generalize Ps++[MO.list [MV.ref v.lot]]=st1 at D1 Xw R9
  have D2:=D1.pre (aB (.list []))
  have L2:=D2.lw L
  refine vN L2.smh (aH _) ?_
  have Vn:=aA (aB (st:=st1) (.list [])) Xw
  have Rr:=aA (aB (st:=st1) (.list [])) R9
  have UY:∀(Qb:MS),Du Qa Qb v (es++[.tup [.str w,.ref al,.str (wO v.d g v.som)]])->Qb[li]?=some (.list U8) ->
    (aj (bY (cq .list bx (af 10) (ad (bl (ad (af 12) (ad (be ak) (ad (ar aN (ar aN (af 3) (af 4)) (af 13)) ak)))) ak))) az) [v0,v1,v2,some (.ref rl),some (.int (v.at':Int)),v5,v6,v7,some (.ref sm),some (.ref v.lot),some (.ref v.due),Rj,some (.str w),some (.int (n:Int)),R3,Us,SY,SV] Qb
     (ud (λs=>s[li]?=some (.list U8)) (ix [12,13]) m6 (ps.map λp=>.tup [.str p.1,.int (p.2:Int)]) F):=by
   intro Qb D3 Un
   walk_at "w"
   refine d6 (D3.hd) ?_
   walk_at "w"
   have W8:=D3.fresh
   have D4:=D3.pre (aB (.list []))
   have hx4:=aA (aB (st:=Qb) (.list [])) Un
   have Vm:=aH (st:=Qb) (.list [])
   generalize Qb.length=al2 at W8 Vm
   generalize Qb++[MO.list []]=RL at D4 hx4 Vm
   have L4:=D4.lw L
   refine fk (n:=n) L4.bs.lr small L.hat rfl (C.get _ _) (λW Pt=>rfl) ?_
   refine D4.app (.nameC C Vm W8) (by simp at hl ⊢; walk_at "o") λRl D5 K5=>?_
   walk_at "w"
   exact ih _ Rl _ _ (λp RX=>hp p (.tail _ RX)) D5 (by simp at hl ⊢; walk_at "o") (K5.keep _ _ ZB hx4) λPT X1 a b D' Ta=>h PT X1 a b D' (by simp at Ta ⊢; walk_at "o")
  have hE:=kq.nameS (v:=v) C Vn fr
  cases hs:v.som with
  | nil =>
   simp only [af0,adK]
   have hh:wO v.d g v.som="":=by rw [hs]; rfl
   rw [hh] at hE UY
   walk_at "w"
   refine D2.app hE (by simp at hl; walk_at "o") λQb D3 K3=>?_
   refine H4 ?_
   refine tN ?_
   exact UY Qb D3 (K3.keep _ _ ZB Rr)
  | cons k r =>
   simp only [agJ,adR]
   have hh:wO v.d g v.som=g (aL v.d k):=by rw [hs]; rfl
   rw [hh] at hE UY
   have Rk:=L2.smh
   rw [hs] at Rk
   have QG:=L.sl
   rw [hs] at QG
   walk_at "w"
   refine bI (n:=0) (x:=.int (k:Int)) Rk rfl rfl (by rw [bb]; walk_at "o") ?_
   refine fk (n:=n) L2.bs.lr small (L.some k (by rw [hs]; exact .head _)) rfl (C.get _ _) (λW Pt=>rfl) ?_
   walk_at "w"
   refine D2.app hE (by simp at hl; walk_at "o") λQb D3 K3=>?_
   refine H4 ?_
   refine tN ?_
   exact UY Qb D3 (K3.keep _ _ ZB Rr)
end
section
variable {st Ps Qa:MS}{j t R rl os:Nat}{lay:List cH}{PJ:List Nat}{d:List Rw}{Q:MV->MS->Prop}{F:MF->aG->MS->Prop}{ρ:aG}{c sm:Nat}{ss so:List Nat}{v:Ev}
theorem Lx (L:Lw st j t R rl os lay PJ so ss c sm v)(h:∀Ps,Q (.bool true) Ps){v0 v5 v6 v9 Sb Rj SE R2 R3 Us SY SV:Option MV} :
  (aj (aS (lO (aF dL ak) (aF eE (ad (af 1) (ad (af 2) (ad (af 3) (ad (af 4) (ad (af 8) ak))))))))
 az) [v0,some (.ref j),some (.ref t),some (.ref rl),some (.int (v.at':Int)),v5,v6,some (.ref c),some (.ref sm),v9,Sb,Rj,SE,R2,R3,Us,SY,SV] st (fi Q):=by
 walk_at "w"
 refine xQ ?_
 walk_at "w"
 refine uA λst1 K1=>?_
 have Lj:Lw st1 j t R rl os lay PJ so ss c sm v:=L.at (K1.wide λi h=>h.elim) (L.bs.src.keep K1 λq=>q)
 refine EE ?_
 walk_at "w"
 exact w0 Lj.bs Lj.gd Lj.he Lj.h19 Lj.hat Lj.smh Lj.sj Lj.so' Lj.some Lj.sl λPs=>h Ps
theorem NI (L:Lw Qa j t R rl os lay PJ so ss c sm v){es:List MV}(D:Du Qa st v es)(Yv:es.length<=10)(h:∀Ps,Q (.bool true) Ps){v0 v5 v6 Rj SE R2 R3 Us SY SV:Option MV} :
  (aj (eS (b9 (be (ad (bl (ad (tK (.str ("name":Str))) (ad (tK (.int 2)) ak))) (ad (bl (ad (tK (.str ("local-name":Str))) (ad (tK (.int 3)) ak))) (ad (bl (ad (tK (.str ("namespace-uri":Str))) (ad (tK (.int 4)) ak))) ak))))) (ix [12,13]) m6)
 (aj (aX 14 (aF cx (ad (af 1) (ad (be (ad (tK (.str ("en":Str))) (ad (tK (.str ("EN-US":Str))) (ad (tK (.str ("fr":Str))) (ad (tK (.str ("e":Str))) ak))))) ak))))
 (aj (bY (cq .list bx (af 10) (ad (bl (ad (tK (.str ("lang":Str))) (ad (be (ad (af 14) ak)) (ad (aF iq (ad (af 3) (ad (af 4) (ad (af 14) ak)))) ak)))) ak)))
 (aj (eS (b9 (af 10)) (ix [15,16,17]) qe)
 (aj (eS (b9 (be (ad (tK (.str ("count":Str))) (ad (tK (.str ("sum":Str))) (ad (tK (.str ("name":Str))) ak))))) (b8 15) qA)
 (aj (aS (lO (aF dL ak) (aF eE (ad (af 1) (ad (af 2) (ad (af 3) (ad (af 4) (ad (af 8) ak))))))))
 az)))))) [v0,some (.ref j),some (.ref t),some (.ref rl),some (.int (v.at':Int)),v5,v6,some (.ref c),some (.ref sm),some (.ref v.lot),some (.ref v.due),Rj,SE,R2,R3,Us,SY,SV] st (fi Q):=by
 have UN:=L.vj
 walk_at "w"
 have fr1:=D.fresh
 have D1:=D.pre (aB (.list [.tup [.str "name",.int 2],.tup [.str "local-name",.int 3],.tup [.str "namespace-uri",.int 4]]))
 have VS:=aH (st:=st) (.list [.tup [.str "name",.int 2],.tup [.str "local-name",.int 3],.tup [.str "namespace-uri",.int 4]])
 refine cb VS ?_
 refine Gz L (by rw [<- UN]; exact fr1.1) fr1.2 [("name",2),("local-name",3),("namespace-uri",4)] es _ _ _ (λp hp=>?_) D1 (by simp; walk_at "o") VS λP1 es2 a b D2 RK=>?_
 ·simp only [aby,abu,or_false] at hp
  rcases hp with rfl | rfl | rfl
  ·exact⟨_,.name⟩
  ·exact⟨_,.loc⟩
  ·exact⟨_,.uri⟩
 simp only [abw,ahi] at RK
 have L2:=D2.lw L
 walk_at "w"
 have fr2:=D2.fresh
 rw [UN] at fr2
 refine fG (j:=j) (aH _) fr2.1 (by walk_at "m") (by walk_at "m") (L2.bs.src.pre (aB _)) λQb n x hx E3 S3=>?_
 obtain⟨PX,rfl,TA⟩:=pp (xs:=["en","EN-US","fr","e"]) hx
 have D3:Du Qa Qb v es2:=(D2.pre (aB _)).ext (by rw [UN]; exact E3) (by rw [UN]; exact S3)
 walk_at "w"
 refine d6 (D3.hd) ?_
 walk_at "w"
 have W8:=D3.fresh
 have D4:=D3.pre (aB (.list [.str PX]))
 have Vm:=aH (st:=Qb) (.list [.str PX])
 generalize Qb.length=al at W8 Vm
 generalize Qb++[MO.list [MV.str PX]]=RL at D4 Vm
 have L4:=D4.lw L
 refine BF L4.gd.wf (by have:=L4.h19; walk_at "o") L4.bs.lr L4.hat L4.gd.ok TA λRl RE=>?_
 have D5:=D4.pre RE
 walk_at "w"
 have hE:kq Rl v (.tup [.str "lang",.ref al,.bool (t5 v.d v.at' PX)]):=.lang TA (aA RE Vm) W8
 refine D5.app hE (by walk_at "o") λRq D6 K6=>?_
 have L6:=D6.lw L
 walk_at "w"
 refine cb D6.hd ?_
 have UA:∀s,Rq <+: s->s[v.due]?=some (.list (es2++[.tup [.str "lang",.ref al,.bool (t5 v.d v.at' PX)]])):=λs hs=>aA hs D6.hd
 refine IZ L6.bs.tr L6.gd L6.h19 L6.hat L6.ctx L6.loth L6.some (by have:=L6.sl; walk_at "o") UA _ Rq _ _ _ (aaf _) D6.hE λSh a b e RD=>?_
 have D7:=D6.pre RD
 have L7:=D7.lw L
 walk_at "w"
 have RP:=aB (st:=Sh) (.list [.str "count",.str "sum",.str "name"])
 have hl8:=aH (st:=Sh) (.list [.str "count",.str "sum",.str "name"])
 have W6:=D7.fresh
 rw [UN] at W6
 have D8:=D7.pre RP
 have L8:=D8.lw L
 refine cb hl8 ?_
 refine BX (st:=Sh++[.list [.str "count",.str "sum",.str "name"]]) ["count","sum","name"] _ _ (λn hn=>by simpa using hn) L8.bs.src L8.ctx L8.cj W6.1 hl8 .refl λSx a S9 K9=>?_
 walk_at "w"
 exact Lx (L8.at K9 S9) h
end
section
variable {st Ps Qa:MS}{j t R rl os:Nat}{lay:List cH}{PJ:List Nat}{d:List Rw}{Q:MV->MS->Prop}{F:MF->aG->MS->Prop}{ρ:aG}{c sm:Nat}{ss so:List Nat}{v:Ev}
theorem wA (W:Wf d)(small:d.length<=200)(hs:h7 d)(L:LR st rl PJ d){e:TE}(he:e=aF fO (ad (af 1) (ad (af 0) ak))){ks:List Nat}{G:MS->Prop}(hG:∀s,st <+: s->G s)(hp:∀p∈ks,p < d.length)
  {K:List MV->MS->Prop} (h:∀Ps,st <+: Ps->K ((ks.map λk=>bi d k).map .str) Ps) {y:Option MV}:fq G (b8 0) dZ e (ay ks) (y::[some (.ref rl)]) [] st K:=by
 subst he
 refine d5 (st:=st) (p:=λ_=>true) (f:=λv=>match v with | .int j=>.str (bi d j.toNat) | _=>.none) (caps:=[some (.ref rl)]) hG (ay ks) (λv hv st1 K PZ hK=>?_) (λv hv _ st1 K PZ hK=>?_) y [] st _ (aaf _) λst1 PZ=>?_
 ·walk_at "w"
  exact hK _ (aaf _)
 ·obtain⟨p,Ul,rfl⟩:=c8 hv
  walk_at "w"
  exact oh W small (L.mono PZ) hs (hp p Ul) hK
 ·have el:[]++((ay ks).filter λ_=>true).map (λv=>match v with | .int j=>MV.str (bi d j.toNat) | _=>.none)=(ks.map λk=>bi d k).map .str:=by
   rw [abx,ad6.mpr (λ_ _=>rfl)]
   unfold ay
   rw [ab3,ab3]
   rfl
  rw [el]
  exact h _ PZ
noncomputable def eB (d:List Rw):List Nat:=(ab7 d.length).filter λk=>(halves (bi d k)).isSome
noncomputable def HU (d:List Rw):MV->Bool:=λv=>match v with | .int j=>(halves (bi d j.toNat)).isSome | _=>false
theorem FT (W:Wf d)(small:d.length<=200)(hs:h7 d)(hn:∀k,k < d.length->jS (bi d k))(L:LR st rl PJ d){K:List MV->MS->Prop}(h:∀Ps,st <+: Ps->K (ay (eB d)) Ps) :
  fq (λ_=>True) (b8 0) vp qv (ay (ab7 d.length)) [none,some (.ref rl)] [] st K:=by
 refine d5 (st:=st) (p:=HU d) (f:=id) (caps:=[some (.ref rl)]) (λ_ _=>trivial) (ay (ab7 d.length)) (λv hv st1 K PZ hK=>?_) (λv hv _ st1 K PZ hK=>?_) none [] st _ (aaf _) λst1 PZ=>?_
 ·obtain⟨p,Ul,rfl⟩:=c8 hv
  rw [abW] at Ul
  walk_at "w"
  refine oh W small (L.mono PZ) hs Ul λP1 PW=>?_
  walk_at "w"
  refine (hn p Ul).halves λQb Qj=>?_
  have Wj:=hK Qb (PW.trans Qj)
  have Wj:K (halves (bi d p)).isSome Qb:=Wj
  cases e:halves (bi d p) with
  | none =>
   rw [e] at Wj
   simp only [dK]
   walk_at "w"
   exact Wj
  | some n =>
   rw [e] at Wj
   simp only [dK]
   walk_at "w"
   exact Wj
 ·unfold qv
  walk_at "w"
  exact hK _ (aaf _)
 ·have el:[]++((ay (ab7 d.length)).filter (HU d)).map id=ay (eB d):=by
   rw [abx,af5]
   unfold ay eB
   rw [aem]
   rfl
  rw [el]
  exact h _ PZ
theorem HK (n:Nat):ow n=ay (ab7 n):=rfl
theorem LX (L:Lw Qa j t R rl os lay PJ so ss c sm v){es:List MV}(D:Du Qa st v es)(Yv:es.length<=8)(h:∀Ps,Q (.bool true) Ps){v0 v5 v6 Rj SE R2 R3 Us SY SV:Option MV} :
  (aj (bY (cq .list bx (af 10) (ad (bl (ad (tK (.str ("sum":Str))) (ad (be (ad (af 9) ak)) (ad (aF jx (ad (c7 1 [3] (b9 (af 8)) (b8 0) dZ AV) ak)) ak)))) ak)))
 (aj (aX 11 (c7 1 [3] (mR (ad (aF dP (ad (af 3) ak)) ak)) (b8 0) vp qv))
 (aj (bY (cq .list bx (af 10) (ad (bl (ad (tK (.str ("sum":Str))) (ad (be (ad (c7 1 [3] (b9 (af 11)) (b8 0) dZ CX) ak)) (ad (aF jx (ad (c7 1 [3] (b9 (af 11)) (b8 0) dZ BO) ak)) ak)))) ak)))
 (aj (eS (b9 (be (ad (bl (ad (tK (.str ("name":Str))) (ad (tK (.int 2)) ak))) (ad (bl (ad (tK (.str ("local-name":Str))) (ad (tK (.int 3)) ak))) (ad (bl (ad (tK (.str ("namespace-uri":Str))) (ad (tK (.int 4)) ak))) ak))))) (ix [12,13]) m6)
 (aj (aX 14 (aF cx (ad (af 1) (ad (be (ad (tK (.str ("en":Str))) (ad (tK (.str ("EN-US":Str))) (ad (tK (.str ("fr":Str))) (ad (tK (.str ("e":Str))) ak))))) ak))))
 (aj (bY (cq .list bx (af 10) (ad (bl (ad (tK (.str ("lang":Str))) (ad (be (ad (af 14) ak)) (ad (aF iq (ad (af 3) (ad (af 4) (ad (af 14) ak)))) ak)))) ak)))
 (aj (eS (b9 (af 10)) (ix [15,16,17]) qe)
 (aj (eS (b9 (be (ad (tK (.str ("count":Str))) (ad (tK (.str ("sum":Str))) (ad (tK (.str ("name":Str))) ak))))) (b8 15) qA)
 (aj (aS (lO (aF dL ak) (aF eE (ad (af 1) (ad (af 2) (ad (af 3) (ad (af 4) (ad (af 8) ak))))))))
 az))))))))) [v0,some (.ref j),some (.ref t),some (.ref rl),some (.int (v.at':Int)),v5,v6,some (.ref c),some (.ref sm),some (.ref v.lot),some (.ref v.due),Rj,SE,R2,R3,Us,SY,SV] st (fi Q):=by
 have UN:=L.vj
 have h19:=L.h19
 have small:v.d.length<=200:=by walk_at "o"
 have hn:∀k,k < v.d.length->jS (bi v.d k):=λk hk=>zj L.gd.wf L.gd.ok h19 hk
 have fr:=D.fresh
 walk_at "w"
 refine d6 (D.hd) ?_
 walk_at "w"
 have D1:=D.pre (aB (.list [.ref v.lot]))
 have We:=aH (st:=st) (.list [.ref v.lot])
 generalize st.length=al at fr We
 generalize st++[MO.list [MV.ref v.lot]]=st1 at D1 We
 have L1:=D1.lw L
 refine em rfl ?_
 walk_at "w"
 refine cb L1.smh ?_
 refine dt (by rw [bb]; have:=L.sl; walk_at "o") ?_
 refine wA L.gd.wf small L.gd.short L1.bs.lr rfl (λs hs=>aA hs L1.smh) L.some λP1 PW=>?_
 refine y9 (ts:=v.som.map λk=>bi v.d k) (aH _) (by rw [abd]; have:=L.sl; walk_at "o") (λx hx=>?_) λQb Qj=>?_
 ·obtain⟨k,hk,rfl⟩:=c8 hx
  exact hn k (L.some k hk)
 have ZP:=(PW.trans (aB _)).trans Qj
 have D3:=D1.pre ZP
 have L3:=D3.lw L
 walk_at "w"
 rw [ab3]
 refine D3.app (.sum (ks:=v.som) (aA ZP We) fr L3.loth ⟨by rw [UN]; exact L.lj,?_⟩ L.some) (by walk_at "o") λRL D4 K4=>?_
 ·have:=(bP L.loth).1
  rw [<- D.lt]; walk_at "o"
 walk_at "w"
 have L4:=D4.lw L
 refine em rfl ?_
 walk_at "w"
 refine gu L4.bs.lr.rows (by rw [abd,L4.bs.lr.len]; walk_at "o") ?_
 refine abf (by walk_at "o") (abf (by rw [abd,L4.bs.lr.len]; walk_at "o") ?_)
 rw [abd,L4.bs.lr.len,aiI,HK]
 refine dt (by rw [bb,afK]; walk_at "o") ?_
 refine FT L.gd.wf small L.gd.short hn L4.bs.lr λRl RE=>?_
 have D5:=D4.pre (RE.trans (aB (.list (ay (eB v.d)))))
 have Uf:=aH (st:=Rl) (.list (ay (eB v.d)))
 generalize Rl.length=pli at Uf
 generalize Rl++[MO.list (ay (eB v.d))]=Rq at D5 Uf
 have WE:∀k∈eB v.d,k < v.d.length:=λk hk=>abW.mp (adg.mp hk).1
 have aff:(eB v.d).length<=v.d.length:=e6 v.d _
 walk_at "w"
 refine d6 (D5.hd) ?_
 walk_at "w"
 have L5:=D5.lw L
 refine em rfl ?_
 walk_at "w"
 refine cb Uf ?_
 refine dt (by rw [bb]; walk_at "o") ?_
 refine ut (d:=v.d) (rl:=rl) (rl':=0) small rfl L5.bs.lr (λs hs=>aA hs Uf) WE rfl λSh RD=>?_
 have D7:=D5.pre RD
 have W6:=D7.fresh
 have D8:=D7.pre (aB (.list (ay (eB v.d))))
 have XO:=aH (st:=Sh) (.list (ay (eB v.d)))
 have YI:=aA (RD.trans (aB (.list (ay (eB v.d))))) Uf
 generalize Sh.length=plot at W6 XO
 generalize Sh++[MO.list (ay (eB v.d))]=Q9 at D8 XO YI
 have fr8:=D8.fresh
 walk_at "w"
 have D9:=D8.pre (aB (.list [.ref plot]))
 have ZK:=aH (st:=Q9) (.list [.ref plot])
 have aao:=aA (aB (st:=Q9) (.list [.ref plot])) XO
 have Xl:=aA (aB (st:=Q9) (.list [.ref plot])) YI
 generalize Q9.length=al2 at fr8 ZK
 generalize Q9++[MO.list [MV.ref plot]]=Sx at D9 ZK aao Xl
 have L9:=D9.lw L
 refine em rfl ?_
 walk_at "w"
 refine cb Xl ?_
 refine dt (by rw [bb]; walk_at "o") ?_
 refine wA L.gd.wf small L.gd.short L9.bs.lr rfl (λs hs=>aA hs Xl) WE λR5 Rm=>?_
 refine y9 (ts:=(eB v.d).map λk=>bi v.d k) (aH _) (by rw [abd]; walk_at "o") (λx hx=>?_) λRN R7=>?_
 ·obtain⟨k,hk,rfl⟩:=c8 hx
  exact hn k (WE k hk)
 have WH:=(Rm.trans (aB _)).trans R7
 have D11:=D9.pre WH
 walk_at "w"
 rw [ab3]
 refine D11.app (.sum (ks:=eB v.d) (aA WH ZK) fr8 (aA WH aao) W6 WE) (by simp; walk_at "o") λUy D12 K12=>?_
 walk_at "w"
 exact NI L D12 (by simp; walk_at "o") h
end
theorem Iy (st:MS)(x y z:MO):(st++[x]++[y]++[z])[st.length]?=some x/\(st++[x]++[y]++[z])[(st++[x]).length]?=some y/\(st++[x]++[y]++[z])[(st++[x]++[y]).length]?=some z /\
  st.length < (st++[x]++[y]++[z]).length/\((st++[x]).length≠0/\(st++[x]).length < (st++[x]++[y]++[z]).length)/\((st++[x]++[y]).length≠0/\(st++[x]++[y]).length < (st++[x]++[y]++[z]).length):=by
 simp
theorem law_true (ns:List Int)(Sy:ns.length<=63):J5 [.ext ns] [] λV _=>V=.bool true:=by
 refine cE rfl ?_
 walk_at "w"
 refine Fi Sy λst1 PZ S1 VS=>?_
 have VS:st1.length=1:=VS
 have S1:dQ st1 0:=S1
 walk_at "w"
 refine CQ λP1 PW T2 RK=>?_
 have S2:=S1.pre PW
 refine HI rfl ?_
 walk_at "w"
 have Y2:Ly st1.length (st1.length+1) []:=Hs
 have hj:¬cu st1.length (st1.length+1) [] 0:=by
  rintro (e | e | ⟨l,hl,_⟩)
  ·walk_at "o"
  ·walk_at "o"
  ·cases hl
 generalize st1.length=t at Y2 hj T2
 generalize t+1=R at Y2 hj T2
 refine Gw S2 T2 Y2 hj λQb rl lay PJ d D=>?_
 refine bv λGG PD=>?_
 obtain⟨⟨os,ss,B3,G⟩,hE,h19⟩:=D
 refine PD ?_
 clear T2 S2 S1 PW PZ VS RK
 walk_at "w"
 refine gu B3.lr.rows (by rw [abd,B3.lr.len]; walk_at "o") ?_
 rw [abd,B3.lr.len]
 walk_at "w"
 refine d8 (top:=d.length) G.ne (by walk_at "o") B3.src λRL at' hat E4 S4=>?_
 have B4:=B3.ext E4 S4
 walk_at "w"
 refine d8 (top:=9) (by decide) (by decide) S4 λRl y hy E5 S5=>?_
 have B5:=B4.ext E5 S5
 walk_at "w"
 refine eF rfl ?_
 walk_at "w"
 rw [show (1+(y:Int))=((1+y:Nat):Int) by push_cast; rfl]
 refine d8 (top:=1+y) (by walk_at "o") (by walk_at "o") S5 λRq p hp E6 S6=>?_
 have B6:=B5.ext E6 S6
 walk_at "w"
 refine fk (n:=0) B6.lr B6.tr.small hat rfl rfl (λW Pt=>rfl) ?_
 walk_at "w"
 refine IK λSh RD hc7=>?_
 have B7:=B6.pre RD
 have Sm:Rq.length≠0:=by have:=B6.lt (x:=0) (by walk_at "m"); walk_at "o"
 generalize Rq.length=c at hc7 Sm
 walk_at "w"
 refine em rfl ?_
 walk_at "w"
 refine gu B7.lr.rows (by rw [abd,B7.lr.len]; walk_at "o") ?_
 refine abf (by walk_at "o") (abf (by rw [abd,B7.lr.len]; walk_at "o") ?_)
 rw [abd,B7.lr.len,aiI,HK]
 refine dt (by rw [bb,afK]; walk_at "o") ?_
 refine Jo (j:=0) (st:=Sh) (ab7 d.length) [] none Sh B7.src .refl λQ9 som S8 K8 hm hml=>?_
 have Ra:∀k∈som,k < d.length:=λk hk=>by
  rcases hm k hk with q | q
  ·cases q
  ·exact abW.mp q
 have QG:som.length<=19:=by simp at hml; walk_at "o"
 have B8:Bs Q9 0 t R rl os lay PJ d d ss:=by
  refine bv λGG PD=>?_
  obtain⟨n1,n2,n3,n4,n5,n6⟩:=B7.ne
  refine PD ?_
  exact⟨B7.tr.frame B7.ly K8 λx hx=>by rw [hx]; exact B7.ap 0 (.head _),B7.ly,B7.lr.keep K8 (λq=>n1 q.symm) λi hi q=>n4 (by have q:i=0:=q; subst q; exact hi),S8,K8.keep _ _ (λq=>n2 q.symm) B7.opn,B7.nd,B7.ap⟩
 have hc8:=hc7.keep K8 Sm
 have Tw:=aB (st:=Q9) (.list (ay som))
 have Xf:=aH (st:=Q9) (.list (ay som))
 have Wb:Q9.length≠0:=by have:=B8.lt (x:=0) (by walk_at "m"); walk_at "o"
 have W7:¬cu t R lay Q9.length:=λq=>acg _ (B8.tr.lt B8.ly q)
 generalize Q9.length=sm at Xf Wb W7
 generalize Q9++[MO.list (ay som)]=Sx at Tw Xf
 have B9:=B8.pre Tw
 have hc9:=hc8.pre Tw
 walk_at "w"
 refine em rfl ?_
 walk_at "w"
 refine cb Xf ?_
 refine dt (by rw [bb]; walk_at "o") ?_
 refine ut (d:=d) (rl:=rl) (rl':=0) (by walk_at "o") rfl B9.lr (λs hs=>aA hs Xf) Ra rfl λR5 Rm=>?_
 have R7:=Rm.trans (aB (.list (ay som)))
 have WC:=aH (st:=R5) (.list (ay som))
 have Vc:R5.length≠0:=by have:=(B9.pre Rm).lt (x:=0) (by walk_at "m"); walk_at "o"
 generalize R5.length=lot at WC Vc
 generalize R5++[MO.list (ay som)]=RN at R7 WC
 have Wa:=B9.pre R7
 have WQ:=hc9.pre R7
 have acJ:=aA R7 Xf
 walk_at "w"
 refine gu (xs:=ay som) ?_ (by rw [bb]; walk_at "o") ?_
 ·exact aA ((aB (.list [])).trans ((aB (.list [])).trans (aB (.list [.ref lot])))) WC
 rw [bb]
 walk_at "w"
 have S0:RN <+: RN++[.list []]++[.list []]++[.list [.ref lot]]:=(aB (.list [])).trans ((aB (.list [])).trans (aB (.list [.ref lot])))
 obtain⟨q1,q2,q3,r1',r2,r3⟩:=Iy RN (.list []) (.list []) (.list [.ref lot])
 have r1:RN.length≠0/\_:=⟨abT (Nat.zero_lt_of_lt (Wa.lt (x:=0) (.head _))),r1'⟩
 generalize RN.length=a1 at q1 r1
 generalize (RN++[MO.list []]).length=a2 at q2 r2
 generalize (RN++[MO.list []]++[MO.list []]).length=a3 at q3 r3
 generalize RN++[MO.list []]++[MO.list []]++[MO.list [.ref lot]]=Uy at S0 q1 q2 q3 r1 r2 r3
 have Ym:=Wa.pre S0
 have L:Lw Uy 0 t R rl os lay PJ ss ss c sm ⟨0,Uy.length,lot,at',1+(p:Int),((1+y:Nat):Int),som,d⟩:=
  ⟨Ym,G,hE,h19,hat,WQ.pre S0,aA S0 acJ,aA S0 WC,Ra,QG,Sm,Wb,Vc,W7,rfl⟩
 have P6:Uy.length≠0:=by have:=r1.2; walk_at "o"
 refine LX L (es:=[.tup [.str "last",.ref a1,num ((1+y:Nat):Int) 1],.tup [.str "position",.ref a2,num (1+(p:Int)) 1],.tup [.str "count",.ref a3,num (som.length:Int) 1]]) ⟨.pre (aB _),Ym.src.pre (aB _),aH _,λe he=>?_,rfl,P6,by simp⟩ (by walk_at "m") λ_=>rfl
 simp only [aby,abu,or_false] at he
 rcases he with rfl | rfl | rfl
 ·exact .last (aA (aB _) q1) ⟨r1.1,abc r1.2⟩
 ·exact .position (aA (aB _) q2) ⟨r2.1,abc r2.2⟩
 ·exact .count (aA (aB _) q3) ⟨r3.1,abc r3.2⟩
end
end Mine.Internal
open PySem PySem.W PyProof.Rows
set_option maxHeartbeats 8000000 in
theorem PySem.Challenge.cw_on0193_01_holds : PySem.Challenge.rw_on0193_01.Holds := by
  refine Mine.hd ?_
  k_go0
  all_goals try k_fold
  refine Mine.Internal.law_run (by assumption) (by assumption) (by assumption) (by assumption) rfl (by assumption) (by assumption) (by assumption) ?hm (by assumption) ?h12 ?h13 ?h23 (by assumption) (by assumption) ?hsc ?hgl ?hbu ?hloc ?hfr ?hcl (Mine.Internal.law_true _ ?hlen) ?P
  case hm => rfl
  case hsc => rfl
  case hgl => rfl
  case hbu => rfl
  case hloc => rfl
  case hfr => rfl
  case hcl => rfl
  case P =>
    intro h' m' tk F'' G''
    refine ⟨goodW_bool F'' (by assumption) (raisesW_false ?_) ?_, G'', trivial⟩
    · wrow_none_raised
    · kc_post
  case h12 => exact Nat.succ_ne_self _
  case h13 => rename 138 < _ => l0; exact Nat.ne_of_gt (Nat.lt_succ_of_lt (Nat.lt_succ_of_lt l0))
  case h23 => rename 138 < _ => l0; exact Nat.ne_of_gt (Nat.lt_succ_of_lt l0)
  case hlen => omega
