import PyProof.Rows.All
import Wide.All
import OpenK.AllK
import Wide.FinOn
import Lean
import PySem.Challenge.RW_ot0047_01
open PySem PySem.W PySem.W.X PyProof.Rows
set_option Elab.async false
set_option maxRecDepth 100000
set_option maxHeartbeats 0
set_option linter.all false
set_option rowWalk.seconds 0
set_option genSizeOf false
set_option genSizeOfSpec false
open PySem.Calls PySem.Spec
namespace Mine
noncomputable section
theorem kee {Q A B C : Prop} (_ : A) (_ : B) (_ : C) (q : Q) : Q := q
theorem hd (f : False) : PySem.Challenge.rw_ot0047_01.Holds := by
 w_on
 refine holds_law f.elim fun _ => ?_
 apply kee ?hl ?hw ?hc
 rotate_right 3
 contradiction
 contradiction
 contradiction
 k_head
theorem nzz (h : False) (_ : Int) : False := h
theorem dr {P : Prop} (h : P) (_ : False → False) : P := h
namespace top
theorem t:True:=⟨⟩
theorem tw3561193834555079511:True:=t
theorem tw14235281626263879747:True:=t
theorem tw16104615914030681952:True:=t
theorem tw14826035006057030972:True:=t
theorem tw3471724648014698192:True:=t
theorem tw9514800995652322822:True:=t
theorem tw10694878333477680388:True:=t
theorem tw13968125046926948103:True:=t
theorem tw6192332977764512785:True:=t
theorem tw18289109515434150305:True:=t
theorem tw16736118626332596326:True:=t
theorem tw16899293738620737780:True:=t
theorem tw13370185576492129568:True:=t
theorem tw3874152929960365753:True:=t
theorem tw7213333562754528385:True:=t
theorem tw14399976873020721970:True:=t
theorem tw10079171474624433434:True:=t
theorem tw14657780768301432306:True:=t
theorem tw8212240652046128837:True:=t
theorem tw10773188271377071773:True:=t
theorem tw4655869559712951663:True:=t
theorem tw13501252493785611398:True:=t
theorem tw13664746368384525793:True:=t
theorem tw17828378304095215089:True:=t
theorem tw4828031223510198475:True:=t
theorem tw4691186174975459493:True:=t
theorem tw15740948416001004644:True:=t
theorem tw9666326922614434849:True:=t
theorem tw4269840412008162865:True:=t
theorem tw10090393231696489298:True:=t
theorem tw1142415686869020238:True:=t
theorem tw4383139521930768336:True:=t
theorem tw8912170899635468890:True:=t
theorem tw17620759639134147866:True:=t
theorem tw705360758644809490:True:=t
theorem tw7847650389618582240:True:=t
theorem tw2145171640123136144:True:=t
theorem tw17494340499879156831:True:=t
theorem tw668136137496459709:True:=t
theorem tw2443449257678562572:True:=t
theorem tw6572447435987645144:True:=t
theorem tw16414630628198896168:True:=t
theorem tw7204998973626084599:True:=t
theorem tw9259421805112917234:True:=t
theorem tw2988451766255067171:True:=t
theorem tw1192657577511650299:True:=t
theorem tw4699463449715708850:True:=t
theorem tw9576743257966636567:True:=t
theorem tw4373882433843859496:True:=t
theorem tw15735037969156040135:True:=t
theorem tw11468358511172941013:True:=t
theorem tw12520176845478516731:True:=t
theorem tw17807222030613408314:True:=t
theorem tw15874363893724204672:True:=t
theorem tw8813761850579938390:True:=t
theorem tw2847958352784047137:True:=t
theorem tw7079599612431449588:True:=t
theorem tw17177869089781658578:True:=t
theorem tw13890846271309207196:True:=t
theorem tw427420600052151026:True:=t
theorem tw17366924284538989914:True:=t
theorem tw11982747722937265360:True:=t
theorem tw7439886461454727182:True:=t
theorem tw594810645892935528:True:=t
theorem tw9854310039474760501:True:=t
theorem tw9951221954081769418:True:=t
theorem tw462939625794472801:True:=t
theorem tw2555065506035805374:True:=t
theorem tw8560541052185303311:True:=t
theorem tw17160434163424456010:True:=t
theorem tw6211089042160764376:True:=t
theorem tw12559286593441436923:True:=t
theorem tw6468107147075657394:True:=t
theorem tw1483126911874232274:True:=t
theorem tw5860347150701562758:True:=t
theorem tw5221569119214977344:True:=t
theorem tw7799483888651840948:True:=t
theorem tw12856577752794610377:True:=t
theorem tw9590735534726013551:True:=t
theorem tw3831216023754155268:True:=t
theorem tw1843344800811705456:True:=t
theorem tw16058212318047004132:True:=t
theorem tw10774637447528242797:True:=t
theorem tw46980244435833615:True:=t
theorem tw5379463472682653830:True:=t
theorem tw4158126171336067921:True:=t
theorem tw9407396174263392564:True:=t
theorem tw16719718919923625709:True:=t
theorem tw4002441696211005659:True:=t
theorem tw72247145696351765:True:=t
theorem tw16821654228018055803:True:=t
theorem tw14502225709538309166:True:=t
theorem tw18245740138792012028:True:=t
theorem tw10414433010598505635:True:=t
theorem tw6659320528611288953:True:=t
theorem tw10987319290404115282:True:=t
theorem tw14771320824794740959:True:=t
theorem tw83393220934416808:True:=t
theorem tw350670483859837877:True:=t
theorem tw12638030207367898728:True:=t
theorem tw9437893007894698314:True:=t
theorem tw12425085872883035938:True:=t
theorem tw2975709217455756120:True:=t
theorem tw1717825165581474212:True:=t
theorem tw3107394869921182610:True:=t
theorem tw4916261283513009128:True:=t
theorem tw2514443458684651071:True:=t
theorem tw10187264123177260123:True:=t
theorem tw10195997230039290492:True:=t
theorem tw17886615442053742456:True:=t
theorem tw3776753064480771068:True:=t
theorem tw2727672472851901052:True:=t
theorem tw10252623693936335467:True:=t
theorem tw18008055252877512497:True:=t
theorem tw17315540178315561739:True:=t
theorem tw11754848910469683712:True:=t
theorem tw2859833716702649255:True:=t
theorem tw7458633546980236471:True:=t
theorem tw10801874191123338550:True:=t
theorem tw17050326753033342646:True:=t
theorem tw953821971998124167:True:=t
theorem tw2867133514656366558:True:=t
theorem tw11053662475850362967:True:=t
theorem tw1732150942055357024:True:=t
theorem tw2896640688883821729:True:=t
theorem tw18062624165398249997:True:=t
theorem tw12318557346453588183:True:=t
theorem tw11520865232209809239:True:=t
theorem tw7737320934136571279:True:=t
theorem tw2029088862249889922:True:=t
theorem tw12488038555639769405:True:=t
theorem tw8311017846404947139:True:=t
theorem tw15245507539482535896:True:=t
theorem tw2446451932059125521:True:=t
theorem tw1584292188352093569:True:=t
theorem tw14671331368771545958:True:=t
theorem tw4159251561096739476:True:=t
theorem tw9854493187847425173:True:=t
theorem tw17346259052997144950:True:=t
theorem tw7557910624720293991:True:=t
theorem tw2907113945770861938:True:=t
theorem tw13649998231018321435:True:=t
theorem tw16713831800681072344:True:=t
theorem tw15860264024139754761:True:=t
theorem tw8345894832289464959:True:=t
theorem tw7855079511596107753:True:=t
theorem tw18129943572300386033:True:=t
theorem tw6694047246710070196:True:=t
theorem tw10665782433003767796:True:=t
theorem tw3820434133910038737:True:=t
theorem tw7673058066778466091:True:=t
theorem tw14142502885225118848:True:=t
theorem tw14823308797102314842:True:=t
theorem tw8265191368974092141:True:=t
theorem tw16800595933775061595:True:=t
theorem tw12182655422080760471:True:=t
theorem tw10768140376307724812:True:=t
theorem tw17555251805378815213:True:=t
theorem tw13420762306968818387:True:=t
theorem tw18374746225686918389:True:=t
theorem tw17953984050398360512:True:=t
theorem tw14145802354927516647:True:=t
theorem tw14705559076539443318:True:=t
theorem tw16068562728529669930:True:=t
theorem tw10001883323181062329:True:=t
theorem tw17565814175750979855:True:=t
theorem tw15985961358823992270:True:=t
theorem tw11189890337720088615:True:=t
theorem tw4299629679881509495:True:=t
theorem tw7250933059871147345:True:=t
theorem tw13725632125773487005:True:=t
theorem tw8281120267493503204:True:=t
theorem tw10648311167861321448:True:=t
theorem tw2835187731363253809:True:=t
theorem tw6812286434817487243:True:=t
theorem tw17030962893124633753:True:=t
theorem tw1394568958698188020:True:=t
theorem tw7702549930194098719:True:=t
theorem tw8147595930496242885:True:=t
theorem tw5581607755468803823:True:=t
theorem tw9631074621892390191:True:=t
theorem tw12777601194060584777:True:=t
theorem tw6430265229019958763:True:=t
theorem tw516228168201391017:True:=t
theorem tw4835499133494076262:True:=t
theorem tw11459358961799972967:True:=t
theorem tw7847352863974893604:True:=t
theorem tw11917448952958348678:True:=t
theorem tw4859757453598101857:True:=t
theorem tw9442318146202087700:True:=t
theorem tw12483720753089274532:True:=t
theorem tw4047667213573674445:True:=t
theorem tw620129878449983639:True:=t
theorem tw1294077662247117797:True:=t
theorem tw3584897518013459382:True:=t
theorem tw634140439597932539:True:=t
theorem tw7467877400375527591:True:=t
theorem tw13120753694373217308:True:=t
theorem tw13802547742096326172:True:=t
theorem tw3120133295221510679:True:=t
theorem tw1195175773429642966:True:=t
theorem tw8640399195822439974:True:=t
theorem tw2670627174450433442:True:=t
theorem tw13305523845174962083:True:=t
theorem tw12317137736924338119:True:=t
theorem tw5766051744304087583:True:=t
theorem tw17492772389151264855:True:=t
theorem tw956942650209027819:True:=t
theorem tw16982378080980825192:True:=t
theorem tw12210559395081530917:True:=t
theorem tw8139039716903228087:True:=t
theorem tw13549259019975226677:True:=t
theorem tw10317287140990440334:True:=t
theorem tw1974259917200649262:True:=t
theorem tw2506305409684761478:True:=t
theorem tw9328819404386307858:True:=t
theorem tw13385244156195431271:True:=t
theorem tw12958502747184954254:True:=t
theorem tw84136930442132756:True:=t
theorem tw11173010173815179391:True:=t
theorem tw4571971715460732019:True:=t
theorem tw10008474027749305400:True:=t
theorem tw5938664839603501006:True:=t
theorem tw14645912567700417926:True:=t
theorem tw8999917154711486175:True:=t
theorem tw9227057690007400460:True:=t
theorem tw5341934141677670832:True:=t
theorem tw1736530178072539846:True:=t
theorem tw5058314954733539658:True:=t
theorem tw16759092144687519636:True:=t
theorem tw6733462575251390621:True:=t
theorem tw18177719399980262173:True:=t
theorem tw5006934033680142597:True:=t
theorem tw4856909995586565122:True:=t
theorem tw11141966352661209427:True:=t
theorem tw3195968871104189447:True:=t
theorem tw11134705753038901807:True:=t
theorem tw4104457009145236151:True:=t
theorem tw104434173382791472:True:=t
theorem tw3715792687998586317:True:=t
theorem tw5552270689369575618:True:=t
theorem tw728428047077509346:True:=t
theorem tw2722852734226103192:True:=t
theorem tw8620165645458168473:True:=t
theorem tw17089494485692210459:True:=t
theorem tw1209819496270969543:True:=t
theorem tw8184561461823581802:True:=t
theorem tw1186331607622873149:True:=t
theorem tw15503665604740900718:True:=t
theorem tw7527032243904285869:True:=t
theorem tw9382581127745807760:True:=t
theorem tw7160873610591055699:True:=t
theorem tw9833397302626899308:True:=t
theorem tw956089473029861405:True:=t
theorem tw1486479319815781832:True:=t
theorem tw568400683779154973:True:=t
theorem tw216529984938456764:True:=t
theorem tw4784893810139332661:True:=t
theorem tw4250876409542091131:True:=t
theorem tw13713866747541496747:True:=t
theorem tw10404823597219466188:True:=t
theorem tw17486766287000646611:True:=t
theorem tw9503340733035011235:True:=t
theorem tw2377541652452675900:True:=t
theorem tw7475746777092488413:True:=t
theorem tw92230957424333843:True:=t
theorem tw5240389563564037448:True:=t
theorem tw3548060758652744671:True:=t
theorem tw8645369167282567922:True:=t
theorem tw5118564349575984905:True:=t
theorem tw7386116660499605909:True:=t
theorem tw12718909917080609646:True:=t
theorem tw4076138812419527698:True:=t
theorem tw17395277212465857529:True:=t
theorem tw13369591340354186047:True:=t
theorem tw17788931634197215145:True:=t
theorem tw18200808041648558556:True:=t
theorem tw1108800333578037850:True:=t
theorem tw908825868028484722:True:=t
theorem tw11457754044182789617:True:=t
theorem tw15976228082101565994:True:=t
theorem tw10996937224433265937:True:=t
theorem tw4046864289407762814:True:=t
theorem tw13432635357386499347:True:=t
theorem tw12643491718579748851:True:=t
theorem tw8374938949443298174:True:=t
theorem tw5596365628329696591:True:=t
theorem tw8622502720953521162:True:=t
theorem tw8547604310838440241:True:=t
theorem tw16174758807025615021:True:=t
theorem tw12540527436937284434:True:=t
theorem tw1236304545764765349:True:=t
theorem tw2758071753971750899:True:=t
theorem tw11470690223818410786:True:=t
theorem tw16273406610938067001:True:=t
theorem tw9516688046558066552:True:=t
theorem tw15169761463676818070:True:=t
theorem tw7313339093194340965:True:=t
theorem tw16264823338695392855:True:=t
theorem tw8628236747792435071:True:=t
theorem tw1601500998369573665:True:=t
theorem tw16809779246217341487:True:=t
theorem tw7325726471975496349:True:=t
theorem tw12762922103008790111:True:=t
theorem tw13370750898655102155:True:=t
theorem tw15073315481182737699:True:=t
theorem tw283044589724301:True:=t
theorem tw14402358008270493973:True:=t
theorem tw5969682004907312646:True:=t
theorem tw7761843605638006849:True:=t
theorem tw8369368087495890639:True:=t
theorem tw15008207993883188931:True:=t
theorem tw6431110157172167083:True:=t
theorem tw6368444912582307175:True:=t
theorem tw9589608677651300831:True:=t
theorem tw4331257952254489624:True:=t
theorem tw6756868429301003459:True:=t
theorem tw16258771989139608452:True:=t
theorem tw11383000496634168614:True:=t
theorem tw3995942328266245912:True:=t
theorem tw6674990990233134667:True:=t
theorem tw1988063486488863061:True:=t
theorem tw18085771088847121727:True:=t
theorem tw10864713392326063847:True:=t
theorem tw4052878762203253943:True:=t
theorem tw12507017104952529904:True:=t
theorem tw5839659824258004927:True:=t
theorem tw14459580976405569124:True:=t
theorem tw15696354942287192291:True:=t
theorem tw3474246075231452896:True:=t
theorem tw10548783162686979305:True:=t
theorem tw15740088241188596515:True:=t
theorem tw836475974119411326:True:=t
theorem tw13983857475226248213:True:=t
theorem tw670521403031812673:True:=t
theorem tw14987219478266130788:True:=t
theorem tw14214845130331304391:True:=t
theorem tw4166218997396506358:True:=t
theorem tw342308947776675178:True:=t
theorem tw15349318334595610263:True:=t
theorem tw1814787853859245837:True:=t
theorem tw15877122091014420850:True:=t
theorem tw6885214360128481674:True:=t
theorem tw6491118196486620199:True:=t
theorem tw2809488002615124206:True:=t
theorem tw7587601194962177611:True:=t
theorem tw14724332232928298890:True:=t
theorem tw13899568491130100285:True:=t
theorem tw16840627104734473223:True:=t
theorem tw11845233108574324481:True:=t
theorem tw2596539476470345881:True:=t
theorem tw16525863338940772298:True:=t
theorem tw6883741973766446791:True:=t
theorem tw12392516345856041104:True:=t
theorem tw7671549972530922468:True:=t
theorem tw9038659593494541401:True:=t
theorem tw6908635100366463001:True:=t
theorem tw11682991924649985610:True:=t
theorem tw357486453476387696:True:=t
theorem tw6623532728838073528:True:=t
theorem tw6292954644110606532:True:=t
theorem tw15722756333993289495:True:=t
theorem tw17323899518341599180:True:=t
theorem tw16612331741718818515:True:=t
theorem tw5648408011753718230:True:=t
theorem tw14789260269991461300:True:=t
theorem tw9953747333497923681:True:=t
theorem tw7657828476027519975:True:=t
theorem tw1733831254367769698:True:=t
theorem tw1142465760834251562:True:=t
theorem tw11072019736110318841:True:=t
theorem tw16204670001084760307:True:=t
theorem tw17781115878593249900:True:=t
theorem tw1592229195962567352:True:=t
theorem tw1585457916280141200:True:=t
theorem tw8321918168302905379:True:=t
theorem tw9366391650621772374:True:=t
theorem tw7297446738713254254:True:=t
theorem tw11542710104232473196:True:=t
theorem tw6448850889433096767:True:=t
theorem tw10956490626425055710:True:=t
theorem tw2732273902793177162:True:=t
theorem tw2770563814800254177:True:=t
theorem tw9227541089923242437:True:=t
theorem tw12012865196380796599:True:=t
theorem tw5196900775432865589:True:=t
theorem tw18063644159110109576:True:=t
theorem tw3430127420881650015:True:=t
theorem tw18164388396756303480:True:=t
theorem tw1655259298481077034:True:=t
theorem tw7600245330811189008:True:=t
theorem tw1275901062530889299:True:=t
theorem tw16120041803238788101:True:=t
theorem tw11334350811105764591:True:=t
theorem tw8672883130414831044:True:=t
theorem tw14349089067433371257:True:=t
theorem tw4321519831107876412:True:=t
theorem tw4292522238394942308:True:=t
theorem tw5790966258338625528:True:=t
theorem tw10187724287525710026:True:=t
theorem tw8435561252592420358:True:=t
theorem tw2619622883677149074:True:=t
theorem tw13901205277877782832:True:=t
theorem tw5507162329139097715:True:=t
theorem tw4134505453457115739:True:=t
theorem tw132903981291199154:True:=t
theorem tw12622177474791663080:True:=t
theorem tw4773702212245658779:True:=t
theorem tw9165953624949470791:True:=t
theorem tw10871174231137468428:True:=t
theorem tw17964300760807480141:True:=t
theorem tw1321871150748368714:True:=t
theorem tw339143206060000330:True:=t
theorem tw10577272966987657301:True:=t
theorem tw3704924817259034979:True:=t
theorem tw12340227926317113386:True:=t
theorem tw381845443943030031:True:=t
theorem tw1400011881503588481:True:=t
theorem tw53344730913325255:True:=t
theorem tw15240379268576122478:True:=t
theorem tw2544169868661182894:True:=t
theorem tw7786541792461686067:True:=t
theorem tw12904532413392791838:True:=t
theorem tw7715697345341360870:True:=t
theorem tw12894197372075662830:True:=t
theorem tw12764151676501842404:True:=t
theorem tw2968346561183084112:True:=t
theorem tw9614876229902214918:True:=t
theorem tw6749217079512962374:True:=t
theorem tw9673933992889287130:True:=t
theorem tw1112988674713690477:True:=t
theorem tw4626048006780466326:True:=t
theorem tw17428532607074087071:True:=t
theorem tw12535971307161669396:True:=t
theorem tw16782997733028217545:True:=t
theorem tw11423202765487971197:True:=t
theorem tw2782073688633401757:True:=t
theorem tw3347922821702440152:True:=t
theorem tw15177526630643400193:True:=t
theorem tw8693662901424576113:True:=t
theorem tw15362295582089109014:True:=t
theorem tw11240886729373846589:True:=t
theorem tw3644161924160858147:True:=t
theorem tw8817415213059835157:True:=t
theorem tw93012567124736588:True:=t
theorem tw16262243036561855896:True:=t
theorem tw2707679213066786127:True:=t
theorem tw8455645898260960030:True:=t
theorem tw3261557481417251176:True:=t
theorem tw10361075674979980167:True:=t
theorem tw2365566498512967660:True:=t
theorem tw3967592551210322608:True:=t
theorem tw661290744650703789:True:=t
theorem tw1559226430018442191:True:=t
theorem tw13799840507378627052:True:=t
theorem tw16616038260417972356:True:=t
theorem tw6919701780365589675:True:=t
theorem tw12865423146811077096:True:=t
theorem tw6754034310392073148:True:=t
theorem tw788273225186049534:True:=t
theorem tw12609604535291364189:True:=t
theorem tw5476889619067714990:True:=t
theorem tw3855276242980373810:True:=t
theorem tw2770239361232196585:True:=t
theorem tw13272337422414781067:True:=t
theorem tw81815255157605957:True:=t
theorem tw11203750815551599093:True:=t
theorem tw7845129631348957993:True:=t
theorem tw16836452506482946331:True:=t
theorem tw13290321428070320777:True:=t
theorem tw6370870915552960936:True:=t
theorem tw1886144042066472794:True:=t
theorem tw7830913209206220567:True:=t
theorem tw8637452081102412489:True:=t
theorem tw11584198869435930015:True:=t
theorem tw16155163154822807229:True:=t
theorem tw9961057766049560675:True:=t
theorem tw2126296398998916975:True:=t
theorem tw5590232498371695878:True:=t
theorem tw17085176360113175178:True:=t
theorem tw5523086135645875356:True:=t
theorem tw15271675978053873483:True:=t
theorem tw11613256710310857696:True:=t
theorem tw8043003576528973991:True:=t
theorem tw14248925298954806443:True:=t
theorem tw2104741419117168686:True:=t
theorem tw15799541711010589177:True:=t
theorem tw1971433849790844608:True:=t
theorem tw3796891538752321733:True:=t
theorem tw8327351992414209593:True:=t
theorem tw8523463495250067690:True:=t
theorem tw4177254973167742082:True:=t
theorem tw5483185372664623402:True:=t
theorem tw18121752080927795069:True:=t
theorem tw17103585973383926153:True:=t
theorem tw2617719716777270872:True:=t
theorem tw17683472795295644477:True:=t
theorem tw1304757597395314617:True:=t
theorem tw4840481374290595910:True:=t
theorem tw8729362747519067210:True:=t
theorem tw13134186033006778460:True:=t
theorem tw8657480035899644758:True:=t
theorem tw11994683656316670133:True:=t
theorem tw4951766788466123468:True:=t
theorem tw16123964013534891561:True:=t
theorem tw7990429038631628895:True:=t
theorem tw3484022092364678248:True:=t
theorem tw16663787254893796032:True:=t
theorem tw10562855833978642645:True:=t
theorem tw2565563351968343141:True:=t
theorem tw16004416686337608138:True:=t
theorem tw5398424786039705171:True:=t
theorem tw8694864300669457046:True:=t
theorem tw11009369774827908938:True:=t
theorem tw2910609919460849807:True:=t
theorem tw11334203419191126389:True:=t
theorem tw11131206648525784891:True:=t
theorem tw12958664272152378060:True:=t
theorem tw18326957874037197240:True:=t
theorem tw13896958669275611876:True:=t
theorem tw14597223018079223185:True:=t
theorem tw14697636140705633519:True:=t
theorem tw13706816188851595723:True:=t
theorem tw4468942710605802240:True:=t
theorem tw1897025099450329940:True:=t
theorem tw7444641836354208208:True:=t
theorem tw2502181453436431679:True:=t
theorem tw13864677062968915208:True:=t
theorem tw17735899436944072409:True:=t
theorem tw13090165191389475591:True:=t
theorem tw9016798869158615873:True:=t
theorem tw8735323631387419056:True:=t
theorem tw17009415399725018624:True:=t
theorem tw5105846836358774362:True:=t
theorem tw8069049012094873728:True:=t
theorem tw13318506193475082254:True:=t
theorem tw3479634599624807885:True:=t
theorem tw9108098604805947806:True:=t
theorem tw14747140909534839006:True:=t
theorem tw16878204669230926818:True:=t
theorem tw17176029603704830031:True:=t
theorem tw521701566708251284:True:=t
theorem tw1088946173253831356:True:=t
theorem tw8874702517807110003:True:=t
theorem tw17469865338272021226:True:=t
theorem tw13091174067606910046:True:=t
theorem tw9913501989792142831:True:=t
theorem tw4392038535549328194:True:=t
theorem tw9335426496214029073:True:=t
theorem tw2047080938173012442:True:=t
theorem tw9800703332001039478:True:=t
theorem tw4258143625173308034:True:=t
theorem tw15911569825323301435:True:=t
theorem tw8054331753737935190:True:=t
theorem tw1040915598704419856:True:=t
theorem tw16034636559557993077:True:=t
theorem tw2220570432770164149:True:=t
theorem tw8679839319945467846:True:=t
theorem tw11960245374511038805:True:=t
theorem tw14372152842798730730:True:=t
theorem tw10362775142378211054:True:=t
theorem tw13303987763403120937:True:=t
theorem tw15286249088069653756:True:=t
theorem tw2405475915293451298:True:=t
theorem tw11007004132283934646:True:=t
theorem tw13822267516522204269:True:=t
theorem tw3087888393795971977:True:=t
theorem tw15383718091736126541:True:=t
theorem tw2683898200743741643:True:=t
theorem tw2249405535684624136:True:=t
theorem tw2105017259488925948:True:=t
theorem tw14466935161476858967:True:=t
theorem tw11199532085631943738:True:=t
theorem tw18034075008235765660:True:=t
theorem tw12117888159696746259:True:=t
theorem tw17795014544551873601:True:=t
theorem tw8892184565913893157:True:=t
theorem tw7538252964068480738:True:=t
theorem tw9962302188120564619:True:=t
theorem tw1754339480302792767:True:=t
theorem tw9759319705405543751:True:=t
theorem tw6383614241601562808:True:=t
theorem tw1291508964198565346:True:=t
theorem tw17545328352263074274:True:=t
theorem tw15542334942015070624:True:=t
theorem tw2601905985415302144:True:=t
theorem tw2665807947273092163:True:=t
theorem tw3969286963782609292:True:=t
theorem tw15299407806266782574:True:=t
theorem tw13928562000808390012:True:=t
theorem tw3486219094355674750:True:=t
theorem tw1147548669246485465:True:=t
theorem tw3453223234828964814:True:=t
theorem tw6459276657848829223:True:=t
theorem tw14608685727046917156:True:=t
theorem tw12376051458212225564:True:=t
theorem tw1169771345039838236:True:=t
theorem tw6761616313442571491:True:=t
theorem tw11116745826364501430:True:=t
theorem tw2878843996050045342:True:=t
theorem tw12166907935582030026:True:=t
theorem tw9063741608606530840:True:=t
theorem tw304654302220672320:True:=t
theorem tw5868845118606482295:True:=t
theorem tw16196420915677631385:True:=t
theorem tw5983031951866500094:True:=t
theorem tw7681529838311687354:True:=t
theorem tw14042817526060737062:True:=t
theorem tw6438537300738474071:True:=t
theorem tw16453443671601555132:True:=t
theorem tw11858546649754279707:True:=t
theorem tw3378803678994701225:True:=t
theorem tw9990226795618131978:True:=t
theorem tw5889316905344633881:True:=t
theorem tw3331421620988305804:True:=t
theorem tw16542083797698202722:True:=t
theorem tw6859976401760118174:True:=t
theorem tw14204747318178549687:True:=t
theorem tw7436774141650363327:True:=t
theorem tw11199710921928265848:True:=t
theorem tw795583310449317561:True:=t
theorem tw8973803690348224638:True:=t
theorem tw12415523145999629524:True:=t
theorem tw864819663365544661:True:=t
theorem tw16054190913257422852:True:=t
theorem tw15254643099363442306:True:=t
theorem tw6203543418390704334:True:=t
theorem tw2580922434103091657:True:=t
theorem tw4656485037274611717:True:=t
theorem tw1696336161484641427:True:=t
theorem tw602653604445443664:True:=t
theorem tw4807692442873511580:True:=t
theorem tw3730354652608582461:True:=t
theorem tw15361541807878343388:True:=t
theorem tw10643057118474118344:True:=t
theorem tw8148004212497801138:True:=t
theorem tw3712731000106771831:True:=t
theorem tw1016984595167383106:True:=t
theorem tw9843949296442739443:True:=t
theorem tw10915162052029792233:True:=t
theorem tw17103177528636943170:True:=t
theorem tw3143785405151724282:True:=t
theorem tw13820912127525551613:True:=t
theorem tw6075534854705499898:True:=t
theorem tw10657950659306570408:True:=t
theorem tw2369445192022557226:True:=t
theorem tw11377482038585738817:True:=t
theorem tw3195522803047326042:True:=t
theorem tw13307591127769906961:True:=t
theorem tw14371913498598963198:True:=t
theorem tw3846862658102513837:True:=t
theorem tw6187478851450931391:True:=t
theorem tw984902984118615328:True:=t
theorem tw10797620697341660853:True:=t
theorem tw10399464001100048223:True:=t
theorem tw8297286125493194097:True:=t
theorem tw427269002284569659:True:=t
theorem tw2462062305354472974:True:=t
theorem tw15451780782824253742:True:=t
theorem tw7381879191629600215:True:=t
theorem tw2686433634493928565:True:=t
theorem tw2741389259953327712:True:=t
theorem tw3207569582813703071:True:=t
theorem tw2287823674025257028:True:=t
theorem tw14983691940233647259:True:=t
theorem tw1047907039808853306:True:=t
theorem tw11466170419677230873:True:=t
theorem tw3581848524822189991:True:=t
theorem tw1803303928475200142:True:=t
theorem tw708234853630380328:True:=t
theorem tw13044034144603486326:True:=t
theorem tw6143595290313323761:True:=t
theorem tw9166809390415177425:True:=t
theorem tw6893477703608230032:True:=t
theorem tw11620634932572840514:True:=t
theorem tw3033006917804047512:True:=t
theorem tw12643520174271941249:True:=t
theorem tw12819366960792805191:True:=t
theorem tw13187519465064655849:True:=t
theorem tw4250950275838387964:True:=t
theorem tw13001836021917841797:True:=t
theorem tw17542608870123051758:True:=t
theorem tw13261893007816960818:True:=t
theorem tw3337584539547039419:True:=t
theorem tw6042063481754889096:True:=t
theorem tw17474498911051797155:True:=t
theorem tw16597617366809209970:True:=t
theorem tw16352630495959832749:True:=t
theorem tw6973401727384321114:True:=t
theorem tw13985988839938425345:True:=t
theorem tw9361663168868926718:True:=t
theorem tw7280543176740627685:True:=t
theorem tw2985252069258134486:True:=t
theorem tw7033079012710635876:True:=t
theorem tw2812155379371279736:True:=t
theorem tw4547018644641229820:True:=t
theorem tw14450715343900746980:True:=t
theorem tw501154541418245514:True:=t
theorem tw13264354339760550358:True:=t
theorem tw4695670854781333657:True:=t
theorem tw14796646475526232899:True:=t
theorem tw2508255044705368994:True:=t
theorem tw2103985501979894447:True:=t
theorem tw2630061898475652689:True:=t
theorem tw13889309363888878346:True:=t
theorem tw11593399256984752444:True:=t
theorem tw8810280945414196856:True:=t
theorem tw3739144386018749749:True:=t
theorem tw390997316461189296:True:=t
theorem tw13975414291046593716:True:=t
theorem tw8420165910927482534:True:=t
theorem tw14762295962024373759:True:=t
theorem tw13385996262653078937:True:=t
theorem tw995497684801637723:True:=t
theorem tw6345181382737326586:True:=t
theorem tw6899488460726452626:True:=t
theorem tw6916252892733821390:True:=t
theorem tw18134043772397237400:True:=t
theorem tw7059692629156357883:True:=t
theorem tw14317375437502057738:True:=t
theorem tw4671429814451907529:True:=t
theorem tw2009410202504348048:True:=t
theorem tw17981982808018919739:True:=t
theorem tw13990698242589431971:True:=t
theorem tw5692499903750754813:True:=t
theorem tw15638586536077026902:True:=t
theorem tw3465488137227279516:True:=t
theorem tw13068111086705522682:True:=t
theorem tw10328360990557673835:True:=t
theorem tw11145643937294416527:True:=t
theorem tw1353657120722975067:True:=t
theorem tw7743179893348639699:True:=t
theorem tw2813407560741378457:True:=t
theorem tw47109162367338493:True:=t
theorem tw9195894827357321740:True:=t
theorem tw2306275928052919197:True:=t
theorem tw146815374380898660:True:=t
theorem tw2581206410525282061:True:=t
theorem tw6381231289166406305:True:=t
theorem tw1676862907878916244:True:=t
theorem tw13987285891283452908:True:=t
theorem tw10296497611174029103:True:=t
theorem tw1124271682379634556:True:=t
theorem tw15508944514630427714:True:=t
theorem tw7273676953221729872:True:=t
theorem tw16044733080236030384:True:=t
theorem tw9152664641465651067:True:=t
theorem tw17355269125676882429:True:=t
theorem tw11334415319851112604:True:=t
theorem tw5915399644114372684:True:=t
theorem tw13160728816969591200:True:=t
theorem tw7913636548009798097:True:=t
theorem tw11522398371468782414:True:=t
theorem tw17470836177267949868:True:=t
theorem tw2926424126403749041:True:=t
theorem tw6505410396798821541:True:=t
theorem tw17343052467700966135:True:=t
theorem tw18367679650794681301:True:=t
theorem tw4232285709927190386:True:=t
theorem tw5728218623943512802:True:=t
theorem tw15095372191486117680:True:=t
theorem tw3976154599441133093:True:=t
theorem tw11281290226021097100:True:=t
theorem tw10194810499950245846:True:=t
theorem tw6583040956863952856:True:=t
theorem tw6127594578889010139:True:=t
theorem tw3473093325804163894:True:=t
theorem tw17219337458794519322:True:=t
theorem tw10006222313960134694:True:=t
theorem tw4872486690594528889:True:=t
theorem tw13812296059976968535:True:=t
theorem tw6487610083215253720:True:=t
theorem tw6503730183909636620:True:=t
theorem tw13167462122316868159:True:=t
theorem tw3140898538269762758:True:=t
theorem tw453181688931711583:True:=t
theorem tw1673491819266455571:True:=t
theorem tw3217022616335106338:True:=t
theorem tw13994475860397038760:True:=t
theorem tw9378254376102152143:True:=t
theorem tw729201693064108563:True:=t
theorem tw4796303294375832693:True:=t
theorem tw13359135706311490777:True:=t
theorem tw17135812771915316397:True:=t
theorem tw14632489290957082403:True:=t
theorem tw16674975167109581930:True:=t
theorem tw13326734554550294991:True:=t
theorem tw860223938195835975:True:=t
theorem tw16866024460163772082:True:=t
theorem tw6930518751129746686:True:=t
theorem tw7717162694582976202:True:=t
theorem tw14901070454687303710:True:=t
theorem tw9229161468869434483:True:=t
theorem tw8538268897159353584:True:=t
theorem tw1068965626710143233:True:=t
theorem tw1149218181149386328:True:=t
theorem tw5235370132326077648:True:=t
theorem tw4205137553216949640:True:=t
theorem tw7204493036743257322:True:=t
theorem tw13759081321499198575:True:=t
theorem tw7429413206186439793:True:=t
theorem tw2965125352208521119:True:=t
theorem tw9059672392935016618:True:=t
theorem tw6912233166142098652:True:=t
theorem tw9919435345466941130:True:=t
theorem tw14168018189251442112:True:=t
theorem tw10341860258655708415:True:=t
theorem tw5118827330378232414:True:=t
theorem tw12287887523310495049:True:=t
theorem tw14390669486469195807:True:=t
theorem tw17046948494117081484:True:=t
theorem tw8507776931139520737:True:=t
theorem tw2417791160451022400:True:=t
theorem tw6287420888163001789:True:=t
theorem tw11159431927160009238:True:=t
theorem tw9233715247699887402:True:=t
theorem tw411662067469150650:True:=t
theorem tw6746510453823603384:True:=t
theorem tw16420938139371093754:True:=t
theorem tw352232786441526191:True:=t
theorem tw11430207588045935325:True:=t
theorem tw5176459694589498394:True:=t
theorem tw6756851087969907010:True:=t
theorem tw14962572932132705465:True:=t
theorem tw3669314199184481253:True:=t
theorem tw6351864797828067464:True:=t
theorem tw17582957951858275007:True:=t
theorem tw14861896470697024400:True:=t
theorem tw314455870634268127:True:=t
theorem tw9332579688445097367:True:=t
theorem tw4019010115394950003:True:=t
theorem tw11779653239440661071:True:=t
theorem tw1617357707322924660:True:=t
theorem tw13922054642007902626:True:=t
theorem tw7215319984434753242:True:=t
theorem tw17342085116792181814:True:=t
theorem tw18185382058313985135:True:=t
theorem tw16439428074185983240:True:=t
theorem tw13902025155065610156:True:=t
theorem tw4526881389914513428:True:=t
theorem tw14214649769353832295:True:=t
theorem tw16149628235652541579:True:=t
theorem tw2685745773621513544:True:=t
theorem tw2617181576586992344:True:=t
theorem tw5647976800219259906:True:=t
theorem tw12094960947251128927:True:=t
theorem tw8598144960395782539:True:=t
theorem tw775762912060472103:True:=t
theorem tw15687709949711836451:True:=t
theorem tw11592465598724292549:True:=t
theorem tw11279390925490393535:True:=t
theorem tw12105128591322288922:True:=t
theorem tw6265701101103706036:True:=t
theorem tw1706793611546318481:True:=t
theorem tw15646934709686841381:True:=t
theorem tw11582926029173025856:True:=t
theorem tw1284575025550258836:True:=t
theorem tw1670607248958778201:True:=t
theorem tw2972514686349903234:True:=t
theorem tw16659674399394625376:True:=t
theorem tw5303079699428457377:True:=t
theorem tw16734371015571099844:True:=t
theorem tw8800459187187324500:True:=t
theorem tw2007660962349395123:True:=t
theorem tw15744752440731449612:True:=t
theorem tw3357215229441099570:True:=t
theorem tw2924597203103170677:True:=t
theorem tw16281582537960229878:True:=t
theorem tw6286779285267259847:True:=t
theorem tw5970215366352900667:True:=t
theorem tw5733063073192568914:True:=t
theorem tw15092371282622821202:True:=t
theorem tw10017263926548143515:True:=t
theorem tw4058662728301269685:True:=t
theorem tw859137505422859605:True:=t
theorem tw672699306608606093:True:=t
theorem tw2267912224990424062:True:=t
theorem tw7008692893051332821:True:=t
theorem tw9059832203979395877:True:=t
theorem tw17022078359063049780:True:=t
theorem tw13191473780850816973:True:=t
theorem tw2287362676942042354:True:=t
theorem tw3767615275625035234:True:=t
theorem tw1212798325632107971:True:=t
theorem tw6906291655842520137:True:=t
theorem tw8265311939077410998:True:=t
theorem tw9768079942903668216:True:=t
theorem tw16007503158450755388:True:=t
theorem tw14282377253939248939:True:=t
theorem tw11746934085706364228:True:=t
theorem tw10667615892773098353:True:=t
end top
theorem e0 (P Q : Params) : (hd.heap_1 P).map (·.1) = (hd.heap_1 Q).map (·.1) := eq_of_beq (by kernel_rfl : ((hd.heap_1 P).map (·.1) == (hd.heap_1 Q).map (·.1)) = true)
noncomputable def H : Hook := kmHook hd.heap_1 ((hd.heap_1 (aWorld 1).params).map (·.1)) (e0 _) [850]
theorem kee1 {Q C : Prop} (_ : C) (q : Q) : Q := q
abbrev Y (d : DefRec) (k : List (PySem.Str × PySem.Expr)) : Prop := WalkO hd.view_1 [Str.ofString "LendError", Str.ofString "CHANGING", Str.ofString "type_of"] (XL hd.view_1 []) (fun w h => InK hd.heap_1 w h ∧ ∀ P ∈ [850], h.get? P = some (tabObj #[])) PySem.Challenge.rw_ot0047_01.row.toRowW d k fun f vs => PySem.call f vs
set_option Elab.async true in
theorem top (t : ∀ d k, defOf hd.view_1 (Str.ofString "law") = some (d, k) → Y d k) : PySem.Challenge.rw_ot0047_01.Holds := by
 w_on; o_law
 apply kee1 (C := Y _ _) ?hc
 rotate_right
 exact t _ _ rfl
 o_head H
 case hw => w_witness2
#print axioms top
inductive Ty where
 | u8 | S | bool | param
 | box (t : Ty) | ref (m : Bool) (t : Ty) | pair (a b : Ty)
 deriving DecidableEq
noncomputable abbrev st (x : String) (t : Tok) : Value := .str (PySem.Str.ofString x) t
def onRef (P : Addr → Prop) (v : Value) : Prop := ∃ a, v = .ref a ∧ P a
theorem onRef.at {P : Addr → Prop} {a : Addr} (x : onRef P (.ref a)) : P a := x.elim fun _ y => Value.ref.inj y.1 ▸ y.2
theorem onRef.imp {P Q : Addr → Prop} (k : ∀ a, P a → Q a) {v : Value} (x : onRef P v) : onRef Q v := Exists.imp (fun a y => ⟨y.1, k a y.2⟩) x
section
variable (ok : Addr → Prop) (h : Heap)
abbrev tyU8 (a : Addr) : Prop := ∃ t1 t2, IsTup h a [st "int" t1, st "u8" t2].toArray ∧ ok a
abbrev tyS (a : Addr) : Prop := ∃ t1 t2 e1 e2, IsTup h a [st "adt" t1, st "S" t2, .ref e1, .ref e2].toArray ∧ ok a ∧ IsTup h e1 [].toArray ∧ ok e1 ∧ IsTup h e2 [].toArray ∧ ok e2
abbrev tyBool (a : Addr) : Prop := ∃ t1, IsTup h a [st "bool" t1].toArray ∧ ok a
abbrev tyParam (a : Addr) : Prop := ∃ t1 t2, IsTup h a [st "param" t1, st "Self" t2].toArray ∧ ok a
abbrev tyBox (r : Value → Prop) (a : Addr) : Prop := ∃ t1 v, IsTup h a [st "box" t1, v].toArray ∧ ok a ∧ r v
abbrev tyRef (b : Bool) (r : Value → Prop) (a : Addr) : Prop := ∃ t1 v, IsTup h a [st "ref" t1, .none, .bool b, v].toArray ∧ ok a ∧ r v
abbrev tyPair (r q : Value → Prop) (a : Addr) : Prop := ∃ t1 c v z, IsTup h a [st "tuple" t1, .ref c].toArray ∧ ok a ∧ IsTup h c [v, z].toArray ∧ ok c ∧ r v ∧ q z
def tyIs (t : Ty) : Value → Prop := Ty.rec (motive := fun _ => Value → Prop) (onRef (tyU8 ok h)) (onRef (tyS ok h)) (onRef (tyBool ok h)) (onRef (tyParam ok h)) (fun _ r => onRef (tyBox ok h r)) (fun b _ r => onRef (tyRef ok h b r)) (fun _ _ r q => onRef (tyPair ok h r q)) t
end
def TyAt (ok : Addr → Prop) (h : Heap) (v : Value) (t : Ty) : Prop := tyIs ok h t v
section
variable {ok ok' : Addr → Prop} {h h' : Heap} {a : Addr} {v : Value} {t u : Ty} {b : Bool}
theorem TyAt.u8 {t1 t2 : Tok} (i : IsTup h a [st "int" t1, st "u8" t2].toArray) (o : ok a) : TyAt ok h (.ref a) .u8 := ⟨a, rfl, (⟨t1, t2, i, o⟩ : tyU8 ok h a)⟩
theorem TyAt.S {t1 t2 : Tok} {e1 e2 : Addr} (i : IsTup h a [st "adt" t1, st "S" t2, .ref e1, .ref e2].toArray) (o : ok a) (j : IsTup h e1 [].toArray) (p : ok e1) (k : IsTup h e2 [].toArray) (q : ok e2) : TyAt ok h (.ref a) .S := ⟨a, rfl, (⟨t1, t2, e1, e2, i, o, j, p, k, q⟩ : tyS ok h a)⟩
theorem TyAt.bool {t1 : Tok} (i : IsTup h a [st "bool" t1].toArray) (o : ok a) : TyAt ok h (.ref a) .bool := ⟨a, rfl, (⟨t1, i, o⟩ : tyBool ok h a)⟩
theorem TyAt.param {t1 t2 : Tok} (i : IsTup h a [st "param" t1, st "Self" t2].toArray) (o : ok a) : TyAt ok h (.ref a) .param := ⟨a, rfl, (⟨t1, t2, i, o⟩ : tyParam ok h a)⟩
theorem TyAt.box {t1 : Tok} (i : IsTup h a [st "box" t1, v].toArray) (o : ok a) (x : TyAt ok h v t) : TyAt ok h (.ref a) (.box t) := ⟨a, rfl, (⟨t1, v, i, o, x⟩ : tyBox ok h (tyIs ok h t) a)⟩
theorem TyAt.ref {t1 : Tok} (i : IsTup h a [st "ref" t1, .none, .bool b, v].toArray) (o : ok a) (x : TyAt ok h v t) : TyAt ok h (.ref a) (.ref b t) := ⟨a, rfl, (⟨t1, v, i, o, x⟩ : tyRef ok h b (tyIs ok h t) a)⟩
theorem TyAt.pair {t1 : Tok} {c : Addr} {z : Value} (i : IsTup h a [st "tuple" t1, .ref c].toArray) (o : ok a) (j : IsTup h c [v, z].toArray) (p : ok c) (x : TyAt ok h v t) (y : TyAt ok h z u) : TyAt ok h (.ref a) (.pair t u) := ⟨a, rfl, (⟨t1, c, v, z, i, o, j, p, x, y⟩ : tyPair ok h (tyIs ok h t) (tyIs ok h u) a)⟩
theorem TyAt.move (k : ∀ a items, IsTup h a items → ok a → IsTup h' a items ∧ ok' a) {v : Value} {t : Ty} (x : TyAt ok h v t) : TyAt ok' h' v t := by
 have k2 : ∀ {a items} {p q : Prop}, (p → q) → IsTup h a items ∧ ok a ∧ p → IsTup h' a items ∧ ok' a ∧ q := fun f z => ⟨(k _ _ z.1 z.2.1).1, (k _ _ z.1 z.2.1).2, f z.2.2⟩
 have k1 : ∀ {a items}, IsTup h a items ∧ ok a → IsTup h' a items ∧ ok' a := fun z => k _ _ z.1 z.2
 induction t generalizing v with
 | u8 => exact onRef.imp (P := tyU8 ok h) (Q := tyU8 ok' h') (fun _ => Exists.imp fun _ => Exists.imp fun _ => k1) x
 | S => exact onRef.imp (P := tyS ok h) (Q := tyS ok' h') (fun _ => Exists.imp fun _ => Exists.imp fun _ => Exists.imp fun _ => Exists.imp fun _ => k2 (k2 k1)) x
 | bool => exact onRef.imp (P := tyBool ok h) (Q := tyBool ok' h') (fun _ => Exists.imp fun _ => k1) x
 | param => exact onRef.imp (P := tyParam ok h) (Q := tyParam ok' h') (fun _ => Exists.imp fun _ => Exists.imp fun _ => k1) x
 | box t ih => exact onRef.imp (P := tyBox ok h (tyIs ok h t)) (Q := tyBox ok' h' (tyIs ok' h' t)) (fun _ => Exists.imp fun _ => Exists.imp fun _ => k2 ih) x
 | ref b t ih => exact onRef.imp (P := tyRef ok h b (tyIs ok h t)) (Q := tyRef ok' h' b (tyIs ok' h' t)) (fun _ => Exists.imp fun _ => Exists.imp fun _ => k2 ih) x
 | pair t u ih ih2 => exact onRef.imp (P := tyPair ok h (tyIs ok h t) (tyIs ok h u)) (Q := tyPair ok' h' (tyIs ok' h' t) (tyIs ok' h' u)) (fun _ => Exists.imp fun _ => Exists.imp fun _ => Exists.imp fun _ => Exists.imp fun _ => k2 (k2 fun y => ⟨ih y.1, ih2 y.2⟩)) x
end
theorem TyAt.keeps {ok : Addr → Prop} {h h' : Heap} (k : h.StaysIn h') {v : Value} {t : Ty} (x : TyAt ok h v t) : TyAt ok h' v t := x.move fun _ _ a b => ⟨a.keeps k, b⟩
theorem TyAt.imp {ok ok' : Addr → Prop} {h : Heap} (k : ∀ a, ok a → ok' a) {v : Value} {t : Ty} (x : TyAt ok h v t) : TyAt ok' h v t := x.move fun _ _ a b => ⟨a, k _ b⟩
abbrev okF (ok : Addr → Prop) (g : Heap) : Addr → Prop := fun a => ok a ∨ g.get? a = none
section
variable {prog : Program} {w : World} {A₀ A : Around} {E : Value → Shared → Prop} {s : Shared} {K : Frag} {L : Addr} {h₀ base : Heap} {m mg mb : Str → Option Value} {news : List (Addr × Obj)} {p : Program} {loose : List Str} {mean : ExcName → Option Value} {Q : Value → Shared → Prop}
theorem enterP {env : Env} {outer : List Env} {name qual : Str} {params : Arguments} {body : List Stmt} {scope : Scope} {dV kV doc pm cdv ct oc : Value} {an od : Option Addr} {osl : Array (Option Value)} {f : Addr} {args : Args} {binds : List (Str × Value)} {R : Result → Shared → Prop}
  (B : Below A₀ base outer h₀) (F : Fr h₀ L s.heap m) (X₀ : K.In h₀) (T : Top p loose mean mg mb h₀) (hA : A.frames = some (env :: outer)) (hf : env.frame = some L) (hke : env.scope.kind = .function)
  (ho : K.lookup f = some ⟨oc, od, .func (fnOf name qual params body scope dV kV doc pm an cdv ct), osl⟩) (hcd : codeIn K cdv qual = true) (hroom : A.depth < recursionLimit)
  (hbind : BindsTo s (fnOf name qual params body scope dV kV doc pm an cdv ct) args binds) (hloc : ∀ y ∈ binds, scope.names.lookup y.1 = some .local)
  (h : ∀ L' h₁, Fr s.heap L' h₁ (fun y => binds.reverse.lookup y) → News s.heap L' h₁ [] → Below A base (env :: outer) s.heap → K.In s.heap → Top p loose mean mg mb s.heap →
   wpAny (model prog w) (A.deeper (envOf qual scope L' f cdv)) (execs body (envOf qual scope L' f cdv))
    (fun fl s' => LeaveK h₀ L m s.heap R (match fl with | .ret v => v | _ => .none) s')
    (fun e s' => wpAny (model prog w) (A.deeper (envOf qual scope L' f cdv)) (leaving (envOf qual scope L' f cdv) e) (fun _ s'' => R (.error e) s'') (fun e' s'' => R (.error e') s'') s')
    { s with heap := h₁, toks := s.toks + binds.length })
  (hco : scope.isCoroutine = false) (hgen : scope.isGenerator = false) (hk : scope.kind = .function)
  (hcell : ∀ x ∈ scope.names, x.2 ≠ .cell) : codeAny (model prog w) A (.call (.ref f) args) R s := by
 have Nn : News h₀ L s.heap [] := News.nil
 obtain ⟨FG, BG, st, lv⟩ := groundX (R := R) B F Nn hA hf hke
 refine codeAny_call_def (fd := fnOf name qual params body scope dV kV doc pm an cdv ct) (body := body) (binds := binds) hroom ((X₀.keeps F.keep) _ _ ho) rfl (T.nolimit.keeps F.keep) (codeRec_of (X₀.keeps F.keep) hcd) rfl hbind hcell hloc (fun h₁ hns hk₁ => ?_) hco hgen hk
 exact wpAny_mono (h s.heap.objs.size h₁ ⟨hns, fun b o e => hk₁ b o e, Nat.le_refl _⟩ News.nil BG (X₀.keeps F.keep) (T.keeps F.keep)) (fun fl s' hl => lv _ _ hl) fun _ _ y => y
theorem enterPC {env : Env} {outer : List Env} {name qual : Str} {params : Arguments} {body : List Stmt} {scope : Scope} {dV kV doc pm cdv ct oc : Value} {an od : Option Addr} {osl : Array (Option Value)} {f : Addr} {args : Args} {binds : List (Str × Value)} {R : Result → Shared → Prop}
  (B : Below A₀ base outer h₀) (F : Fr h₀ L s.heap m) (X₀ : K.In h₀) (T : Top p loose mean mg mb h₀) (hA : A.frames = some (env :: outer)) (hf : env.frame = some L) (hke : env.scope.kind = .function)
  (ho : K.lookup f = some ⟨oc, od, .func (fnOf name qual params body scope dV kV doc pm an cdv ct), osl⟩) (hcd : codeIn K cdv qual = true) (hroom : A.depth < recursionLimit)
  (hbind : BindsTo s (fnOf name qual params body scope dV kV doc pm an cdv ct) args binds) (hkind : (binds.all fun y => scope.names.lookup y.1 == some .local || scope.names.lookup y.1 == some .cell) = true)
  (hnd : ((cellsFrom 0 scope.names []).map (·.1)).Nodup)
  (h : ∀ L' h₁ tk cells, Fr s.heap L' h₁ (bindL (envOfC qual scope L' f cdv).kindOf binds fun _ => none) → News s.heap L' h₁ cells →
   CellsAre (bindC (envOfC qual scope L' f cdv).kindOf binds fun _ => none) (cellsFrom (L' + 1) scope.names []) cells → Below A base (env :: outer) s.heap → K.In s.heap → Top p loose mean mg mb s.heap →
   wpAny (model prog w) (A.deeper (envOfC qual scope L' f cdv)) (execs body (envOfC qual scope L' f cdv))
    (fun fl s' => LeaveK h₀ L m s.heap R (match fl with | .ret v => v | _ => .none) s')
    (fun e s' => wpAny (model prog w) (A.deeper (envOfC qual scope L' f cdv)) (leaving (envOfC qual scope L' f cdv) e) (fun _ s'' => R (.error e) s'') (fun e' s'' => R (.error e') s'') s')
    { s with heap := h₁, toks := tk })
  (hco : scope.isCoroutine = false) (hgen : scope.isGenerator = false) (hk : scope.kind = .function) : codeAny (model prog w) A (.call (.ref f) args) R s := by
 have Nn : News h₀ L s.heap [] := News.nil
 obtain ⟨FG, BG, st, lv⟩ := groundX (R := R) B F Nn hA hf hke
 refine codeAny_call_function (fd := fnOf name qual params body scope dV kV doc pm an cdv ct) hroom ((X₀.keeps F.keep) _ _ ho) rfl hco hgen rfl (codeRec_of (X₀.keeps F.keep) hcd) (hbind _ _ _ _ ?_)
 refine wpAny_newFunctionEnv_cells hk (kindsX hkind _) fun env' he s' x => ?_
 subst he
 refine ⟨((T.nolimit.keeps F.keep)).keeps x.toInCall.keep, codeAny_func ?_⟩
 obtain ⟨h₁, tk, rfl, _⟩ := x.done
 have hk₁ := x.toInCall.keep
 obtain ⟨cells, NC, Y⟩ := Cl.news (h₀ := s.heap) (Nat.le_refl _) fun n c hm => ⟨x.cell n c (lookup_of_mem_nodup (cellsFrom_names scope.names 0 (s.heap.objs.size + 1) [] [] rfl ▸ hnd) hm), x.above n c hm⟩
 exact wpAny_mono (h s.heap.objs.size h₁ tk cells ⟨x.toInCall.ns, fun b o e => hk₁ b o e, Nat.le_refl _⟩ NC Y BG (X₀.keeps F.keep) (T.keeps F.keep)) (fun fl s' hl => lv _ _ hl) fun _ _ y => y
end
noncomputable def Ty.head : Ty → String
 | .u8 => "int" | .S => "adt" | .bool => "bool" | .param => "param" | .box _ => "box" | .ref _ _ => "ref" | .pair _ _ => "tuple"
section
variable {ok ok' : Addr → Prop} {h h' : Heap} {a : Addr} {v : Value} {t u : Ty} {b : Bool}
abbrev tyHead (ok : Addr → Prop) (h : Heap) (x : String) (a : Addr) : Prop := ∃ tk rest, IsTup h a (st x tk :: rest).toArray ∧ ok a
theorem TyAt.headO (x : TyAt ok h v t) : onRef (tyHead ok h t.head) v := by
 cases t with
 | u8 => exact onRef.imp (P := tyU8 ok h) (Q := tyHead ok h "int") (fun _ => Exists.imp fun _ y => y.elim fun _ z => ⟨_, z⟩) x
 | S => exact onRef.imp (P := tyS ok h) (Q := tyHead ok h "adt") (fun _ => Exists.imp fun _ y => y.elim fun _ y => y.elim fun _ y => y.elim fun _ z => ⟨_, z.1, z.2.1⟩) x
 | bool => exact onRef.imp (P := tyBool ok h) (Q := tyHead ok h "bool") (fun _ => Exists.imp fun _ z => ⟨_, z⟩) x
 | param => exact onRef.imp (P := tyParam ok h) (Q := tyHead ok h "param") (fun _ => Exists.imp fun _ y => y.elim fun _ z => ⟨_, z⟩) x
 | box t => exact onRef.imp (P := tyBox ok h (tyIs ok h t)) (Q := tyHead ok h "box") (fun _ => Exists.imp fun _ y => y.elim fun _ z => ⟨_, z.1, z.2.1⟩) x
 | ref b t => exact onRef.imp (P := tyRef ok h b (tyIs ok h t)) (Q := tyHead ok h "ref") (fun _ => Exists.imp fun _ y => y.elim fun _ z => ⟨_, z.1, z.2.1⟩) x
 | pair t u => exact onRef.imp (P := tyPair ok h (tyIs ok h t) (tyIs ok h u)) (Q := tyHead ok h "tuple") (fun _ => Exists.imp fun _ y => y.elim fun _ y => y.elim fun _ y => y.elim fun _ z => ⟨_, z.1, z.2.1⟩) x
theorem TyAt.head (x : TyAt ok h v t) : ∃ a tk rest, v = .ref a ∧ IsTup h a (st t.head tk :: rest).toArray := Exists.imp (fun _ y => y.2.imp fun _ => Exists.imp fun _ z => ⟨y.1, z.1⟩) x.headO
theorem TyAt.headR (x : TyAt ok h (.ref a) t) : ∃ tk rest, IsTup h a (st t.head tk :: rest).toArray := (onRef.at x.headO).imp fun _ => Exists.imp fun _ z => z.1
theorem TyAt.isRef (x : TyAt ok h v t) : ∃ a, v = .ref a := Exists.imp (fun _ y => y.1) x.headO
theorem TyAt.boxJ (x : TyAt ok h (.ref a) (.box t)) : ∃ t1 v, IsTup h a [st "box" t1, v].toArray ∧ ok a ∧ TyAt ok h v t := onRef.at (P := tyBox ok h (tyIs ok h t)) x
theorem TyAt.refJ (x : TyAt ok h (.ref a) (.ref b t)) : ∃ t1 v, IsTup h a [st "ref" t1, .none, .bool b, v].toArray ∧ ok a ∧ TyAt ok h v t := onRef.at (P := tyRef ok h b (tyIs ok h t)) x
theorem TyAt.u8J (x : TyAt ok h (.ref a) .u8) : tyU8 ok h a := onRef.at (P := tyU8 ok h) x
theorem TyAt.boolJ (x : TyAt ok h (.ref a) .bool) : tyBool ok h a := onRef.at (P := tyBool ok h) x
theorem TyAt.pairJ (x : TyAt ok h (.ref a) (.pair t u)) : ∃ t1 c v z, IsTup h a [st "tuple" t1, .ref c].toArray ∧ ok a ∧ IsTup h c [v, z].toArray ∧ ok c ∧ TyAt ok h v t ∧ TyAt ok h z u := onRef.at (P := tyPair ok h (tyIs ok h t) (tyIs ok h u)) x
theorem TyAt.SJ (x : TyAt ok h (.ref a) .S) : tyS ok h a := onRef.at (P := tyS ok h) x
theorem TyAt.boxI (x : TyAt ok h v (.box t)) : ∃ a t1 w, v = .ref a ∧ IsTup h a [st "box" t1, w].toArray ∧ ok a ∧ TyAt ok h w t := Exists.imp (fun _ y => y.2.imp fun _ => Exists.imp fun _ z => ⟨y.1, z⟩) (show onRef (tyBox ok h (tyIs ok h t)) v from x)
theorem TyAt.refI (x : TyAt ok h v (.ref b t)) : ∃ a t1 w, v = .ref a ∧ IsTup h a [st "ref" t1, .none, .bool b, w].toArray ∧ ok a ∧ TyAt ok h w t := Exists.imp (fun _ y => y.2.imp fun _ => Exists.imp fun _ z => ⟨y.1, z⟩) (show onRef (tyRef ok h b (tyIs ok h t)) v from x)
theorem TyAt.SI (x : TyAt ok h v .S) : ∃ a t1 t2 e1 e2, v = .ref a ∧ IsTup h a [st "adt" t1, st "S" t2, .ref e1, .ref e2].toArray ∧ ok a ∧ IsTup h e1 [].toArray ∧ ok e1 ∧ IsTup h e2 [].toArray ∧ ok e2 := Exists.imp (fun _ y => y.2.imp fun _ => Exists.imp fun _ => Exists.imp fun _ => Exists.imp fun _ z => ⟨y.1, z⟩) (show onRef (tyS ok h) v from x)
theorem TyAt.u8Inv (x : TyAt ok h v .u8) : ∃ a t1 t2, v = .ref a ∧ IsTup h a [st "int" t1, st "u8" t2].toArray ∧ ok a := Exists.imp (fun _ y => y.2.imp fun _ => Exists.imp fun _ z => ⟨y.1, z⟩) (show onRef (tyU8 ok h) v from x)
theorem TyAt.paramInv (x : TyAt ok h v .param) : ∃ a t1 t2, v = .ref a ∧ IsTup h a [st "param" t1, st "Self" t2].toArray ∧ ok a := Exists.imp (fun _ y => y.2.imp fun _ => Exists.imp fun _ z => ⟨y.1, z⟩) (show onRef (tyParam ok h) v from x)
theorem TyAt.boolInv (x : TyAt ok h v .bool) : ∃ a t1, v = .ref a ∧ IsTup h a [st "bool" t1].toArray ∧ ok a := Exists.imp (fun _ y => y.2.imp fun _ z => ⟨y.1, z⟩) (show onRef (tyBool ok h) v from x)
theorem TyAt.headOk (x : TyAt ok h v t) : ∃ a tk rest, v = .ref a ∧ IsTup h a (st t.head tk :: rest).toArray ∧ ok a := Exists.imp (fun _ y => y.2.imp fun _ => Exists.imp fun _ z => ⟨y.1, z⟩) x.headO
end
section
variable {prog : Program} {w : World} {A : Around} {E : Value → Shared → Prop} {s : Shared} {g : Heap} {L : Addr} {m : Str → Option Value} {Q : Value → Shared → Prop}
theorem seqIndexN (j n : Nat) (h : j < n) : seqIndex? (j : Int) n = some j := by
 have e : (j : Int) < (n : Int) := Int.ofNat_lt.mpr h
 have z : (0 : Int) ≤ (j : Int) := Int.natCast_nonneg j
 unfold seqIndex?
 rw [if_neg (Int.not_lt.mpr z)]
 exact (if_pos (Bool.and_eq_true_iff.mpr ⟨decide_eq_true z, decide_eq_true e⟩)).trans rfl
theorem item_0 {value slice : PySem.Expr} {t : Addr} {l : List Value} {u : Tok} {x : Value} (F : Fr g L s.heap m) (ht : IsTup g t (x :: l).toArray) (h : Q x s)
  (hs : subscripted slice false (.ref t) (.int 0 u) = operate [.ref t, .int 0 u] (getItem (.ref t) (.int 0 u)) := by with_unfolding_all rfl) :
  wpAny (model prog w) A (subscriptTail value slice (.ref t) (.int 0 u)) Q E s := item_tupleT (F.tup ht) (by decide) (by decide) (seqIndexN 0 _ (by simp)) rfl h hs
theorem item_2 {value slice : PySem.Expr} {t : Addr} {l : List Value} {u : Tok} {y0 y1 x : Value} (F : Fr g L s.heap m) (ht : IsTup g t (y0 :: y1 :: x :: l).toArray) (h : Q x s)
  (hs : subscripted slice false (.ref t) (.int 2 u) = operate [.ref t, .int 2 u] (getItem (.ref t) (.int 2 u)) := by with_unfolding_all rfl) :
  wpAny (model prog w) A (subscriptTail value slice (.ref t) (.int 2 u)) Q E s := item_tupleT (F.tup ht) (by decide) (by decide) (seqIndexN 2 _ (by simp)) rfl h hs
theorem item_3 {value slice : PySem.Expr} {t : Addr} {l : List Value} {u : Tok} {y0 y1 y2 x : Value} (F : Fr g L s.heap m) (ht : IsTup g t (y0 :: y1 :: y2 :: x :: l).toArray) (h : Q x s)
  (hs : subscripted slice false (.ref t) (.int 3 u) = operate [.ref t, .int 3 u] (getItem (.ref t) (.int 3 u)) := by with_unfolding_all rfl) :
  wpAny (model prog w) A (subscriptTail value slice (.ref t) (.int 3 u)) Q E s := item_tupleT (F.tup ht) (by decide) (by decide) (seqIndexN 3 _ (by simp)) rfl h hs
end
structure Cx (w : World) (p : Program) (loose : List Str) (mean : ExcName → Option Value) (mg mb : Str → Option Value) (A A₀ : Around) (base h₀ : Heap) (outer : List Env) (env : Env) (L : Addr) (m : Str → Option Value) (h : Heap) (nd nu : Nat) : Prop where
 B : Below A₀ base outer h₀
 F : Fr h₀ L h m
 X : (hd.heap_1 w.params).In h₀
 T : Top p loose mean mg mb h₀
 hA : A.frames = some (env :: outer)
 hf : env.frame = some L
 hk : env.scope.kind = .function
 hh : A.handled = none
 hd : A.depth + nd < recursionLimit
 hu : A.units + nu < cLine
local macro_rules | `(tactic| walk_at $s:str) => `(tactic| k_extra $s)
example : True := by
 k_with "ws" =>
  (first
   | with_reducible (first | refine PySem.wpAny_pure ?_ | refine PySem.wpAny_bind ?_ | refine PySem.wpAny_holding ?_ | refine PySem.wpAny_standAt ?_ | refine PySem.wpAny_point ?_ | refine PySem.wpAny_rule ?_ | refine PySem.wpAny_letGo ?_ | refine PySem.wpAny_mkInt' ?_ | refine PySem.wpAny_fresh' ?_ | refine PySem.wpAny_alloc' ?_ | refine PySem.wpAny_attempt ?_ | refine PySem.wpAny_throw ?_ | refine PySem.wpAny_of_eq ‹_› ?_ | refine PySem.wpAny_typeOf ‹_› ?_ | refine PySem.wpAny_specialOf_val ‹_› ‹_› ?_ | refine PySem.wpAny_specialOf ‹_› ‹_› ?_ | refine PySem.wpAny_isInstance_val ‹_› ‹_› ?_ | refine PySem.wpAny_isInstance ‹_› ‹_› ?_ | refine PySem.wpAny_call ?_ | refine PySem.wpAny_runValue ?_ | refine PySem.wpAny_run ?_)
   | ((with_reducible apply PySem.wpAny_load'); focus (first | (with_reducible assumption) | (heap_get; done)))
   | ((with_reducible apply PySem.wpAny_update'); focus (first | (with_reducible assumption) | (heap_get; done)))
   | ((with_reducible apply PySem.wpAny_loadPart'); focus (first | (with_reducible assumption) | (heap_get; done)))
   | ((with_reducible apply PySem.wpAny_updatePart'); focus (first | (with_reducible assumption) | (heap_get; done)))
   | ((with_reducible apply PySem.wpAny_handled_none); focus (assumption; done))
   | ((with_reducible apply PySem.wpAny_ite_false); focus (rfl; done))
   | ((with_reducible apply PySem.wpAny_ite_true); focus (rfl; done))
   | ((with_reducible apply PySem.wpAny_ite_false); focus (simp [*]; done))
   | ((with_reducible apply PySem.wpAny_ite_true); focus (simp [*]; done))
   | wp_delta
   | ((with_reducible show wpAny _ _ (mkStr _) _ _ _); wp_step)
   | with_reducible_and_instances refine PySem.wpAny_pure ?_
   | with_reducible_and_instances refine PySem.wpAny_bind ?_)
 k_with "m" =>
  (first | apply List.Mem.head | (apply List.Mem.tail; k_extra "m"))
 k_with "subscriptTail Name Constant ref int" =>
  (with_reducible (first | refine item_0 ‹_› ‹_› ?_ | refine item_1 ‹_› ‹_› ?_ | refine item_2 ‹_› ‹_› ?_ | refine item_3 ‹_› ‹_› ?_ | refine lst_0 ‹_› ‹_› ?_))
 k_with "eval Name" =>
  ((with_reducible show wpAny _ _ (eval (Expr.Name _ _) (envOf _ _ _ _ _)) _ _ _); k_dflt (refine' ld ?k1 ?k2 ?_; (case k1 => assumption); (case k2 => exact rfl); k_whole))
 k_with "ite" =>
  (first | refine ite_pos (by with_reducible assumption) ?_ | refine ite_neg (by with_reducible assumption) ?_)
 k_with "c0" =>
  (first | (refine wpAny_call ?_; k_dflt (refine' enterQ ?k1 ?k2 ?k3 ?k5 ?kA ?kF ?kK ?k6 ?k7 ?k8 ?k9 ?kM ?kB ?_ ?c2 ?c3 ?c5; (case kA => assumption); (case kF => assumption); (case kK => assumption); (case k1 => k_asm); (case k2 => k_asm); (case k3 => k_asm); (case k5 => k_asm); (case k6 => k_is); (case k7 => k_is); (case k8 => k_extra "g0"); (case k9 => exact BindsTo.of_eq rfl); (case kM => exact rfl); (case kB => kernel_rfl!); (case c5 => decide); (case c2 => exact rfl); (case c3 => exact rfl); k_whole; refine clZ cZ.N.H.N ?_; refine gZ3 ?_; intro zc L' h' tk'; clear_value L' h' tk'; clear zc; intro F' N' B' X' T'; (try dsimp only)); (try k_fold)) | k_extra "f3")
 k_with "f3" =>
  (refine wpAny_call ?_; k_dflt (refine' enterP ?k1 ?k2 ?k3 ?k5 ?kA ?kF ?kK ?k6 ?k7 ?k8 ?k9 ?kB ?_ ?c2 ?c3 ?c4 ?c5; (case kA => assumption); (case kF => assumption); (case kK => assumption); (case k1 => k_asm); (case k2 => k_asm); (case k3 => k_asm); (case k5 => k_asm); (case k6 => k_is); (case k7 => k_is); (case k8 => k_extra "g0"); (case k9 => exact BindsTo.of_eq rfl); (case c5 => decide); (case kB => exact locs rfl); (case c2 => exact rfl); (case c3 => exact rfl); (case c4 => exact rfl); k_whole; refine clZ cZ.H.N ?_; refine gZ2 ?_; intro zc L' h'; clear_value L' h'; clear zc; intro F' N' B' X' T'; (try dsimp only)); (try k_fold))
 k_with "h2" =>
  (first
   | (obtain ⟨o', hE', d1'⟩ := CellsAre.one Y'; subst hE'; clear Y'; revert o'; refine clZ cZ.O ?_; refine gZ1 ?_; intro zc o'; clear_value o'; clear zc; intros)
   | (obtain ⟨o', o2', hE', d1', d2'⟩ := CellsAre.two Y'; subst hE'; clear Y'; revert o' o2'; refine clZ cZ.O.O ?_; refine gZ2 ?_; intro zc o' o2'; clear_value o' o2'; clear zc; intros)
   | (obtain ⟨o', o2', o3', hE', d1', d2', d3'⟩ := CellsAre.three Y'; subst hE'; clear Y'; revert o' o2' o3'; refine clZ cZ.O.O.O ?_; refine gZ3 ?_; intro zc o' o2' o3'; clear_value o' o2' o3'; clear zc; intros)); (with_reducible rename News _ _ _ _ => N')
 k_with "e0" =>
  (refine wpAny_call ?_; k_dflt (refine' enterPC ?k1 ?k2 ?k3 ?k5 ?kA ?kF ?kK ?k6 ?k7 ?k8 ?k9 ?kB ?kD ?_ ?c2 ?c3 ?c4; (case kA => assumption); (case kF => assumption); (case kK => assumption); (case k1 => k_asm); (case k2 => k_asm); (case k3 => k_asm); (case k5 => k_asm); (case k6 => k_is); (case k7 => k_is); (case k8 => k_extra "g0"); (case k9 => exact BindsTo.of_eq rfl); (case kB => exact rfl); (case kD => decide +kernel); (case c2 => exact rfl); (case c3 => exact rfl); (case c4 => exact rfl); k_whole; refine clZ cZ.l.N.H.N ?_; refine gZ4 ?_; intro zc L' h' tk' cells'; clear_value L' h' tk' cells'; clear zc; intro F' N' Y' B' X' T'; k_extra "h2"; (try simp only [List.cons_append, List.nil_append] at N'); (try dsimp only)); (try k_fold))
 k_with "call type:zip" =>
  (k_here; k_dflt (refine' zip_K (b := false) (c := false) ?F ?N ?h1 ?h2 ?_; (case F => k_asm); (case N => k_asm); (case h1 => exact Fr.tup ‹_› ‹_›); (case h2 => exact Fr.tup ‹_› ‹_›); k_whole); refine clZ cZ.H.N.N.N.N.N ?_; refine gZ6 ?_; intro zc i1' i2' TI' TO' z' h'; clear_value i1' i2' TI' TO' z' h'; clear zc; intro D' F' N' l1; (try k_sweep))
 k_with "call type:list" =>
  (k_here; k_dflt (refine' list_zip0_K (b := false) (c := false) ?hh ?F ?N ?D ?hn ?h1 ?_; (case hh => assumption); (case F => k_asm); (case N => k_asm); (case D => assumption); (case hn => assumption); (case h1 => exact Fr.tup ‹_› ‹_›); k_whole); refine clZ cZ.H.N.N ?_; refine gZ3 ?_; intro zc a' n' h'; clear_value a' n' h'; clear zc; intro F' N' l1; (try k_sweep))
 k_with "getAttr ref" =>
  (k_here; k_dflt (refine' attr_B ?F ?X ?I ?hg ?hh ?ha ?hn ?hl ?hv ?_; (case F => assumption); (case X => assumption); (case I => assumption); (case hg => k_is); (case hh => k_is); (case ha => k_is); (case hn => k_is); (case hl => rfl); (case hv => rfl); k_whole))
 k_with "getMethod ref" =>
  (k_here; k_dflt (refine' meth_B ?F ?X ?I ?hg ?hf ?ht ?hl ?_; (case F => assumption); (case X => assumption); (case I => assumption); (case hg => k_is); (case hf => k_is); (case ht => k_is); (case hl => rfl); k_whole))
 k_with "e1" =>
  (first | exact News.isTup ‹_› (by k_mem) | exact isTup_fr ‹_› ‹_›)
 k_with "d1" =>
  (first | assumption | exact Or.inl ‹_› | exact Or.inr (News.fresh ‹_› (by k_mem)))
 k_with "h1" =>
  (first
   | exact TyAt.fr ‹_› ‹_›
   | exact TyAt.frO ‹_› ‹_›
   | (apply TyAt.u8; k_extra "e1"; k_extra "d1")
   | (apply TyAt.bool; k_extra "e1"; k_extra "d1")
   | (apply TyAt.param; k_extra "e1"; k_extra "d1")
   | (apply TyAt.S; k_extra "e1"; k_extra "d1"; k_extra "e1"; k_extra "d1"; k_extra "e1"; k_extra "d1")
   | (apply TyAt.box; k_extra "e1"; k_extra "d1"; k_extra "h1")
   | (apply TyAt.ref; k_extra "e1"; k_extra "d1"; k_extra "h1")
   | (apply TyAt.pair; k_extra "e1"; k_extra "d1"; k_extra "e1"; k_extra "d1"; k_extra "h1"; k_extra "h1"))
 k_with "f4" =>
  (with_reducible first | exact rm_d1 ‹_› (by kernel_rfl!) | exact rm_d ‹_› (by kernel_rfl!) | exact rm_dm ‹_› (by kernel_rfl!) | exact rm_dmd ‹_› (by kernel_rfl!) | exact rm_dS ‹_› (by kernel_rfl!) | exact rm_dN ‹_› (by kernel_rfl!) | exact rm_dC ‹_› (by kernel_rfl!) | exact rm_d00 ‹_› (by kernel_rfl!) | exact rm_d0 ‹_› | exact rm_dm0 ‹_› (by kernel_rfl!))
 k_with "g3" =>
  (with_reducible first | exact rm_u1 ‹_› (by kernel_rfl!) | exact rm_u ‹_› (by kernel_rfl!) | exact rm_um ‹_› (by kernel_rfl!) | exact rm_umd ‹_› (by kernel_rfl!) | exact rm_uS ‹_› (by kernel_rfl!) | exact rm_uN ‹_› (by kernel_rfl!) | exact rm_uC ‹_› (by kernel_rfl!) | exact rm_u0 ‹_› (by kernel_rfl!))
 k_with "g0" =>
  (first | k_extra "f4" | k_extra "g3" | ((try simp only [depth_deeper, depth_under_make, Around.deeper_units, units_under_make]); walk_say "ROOM BY OMEGA"; omega))
 k_with "le" =>
  (first
   | (with_reducible assumption)
   | (with_reducible refine' Nat.le_trans ?zl1 ?zl2; (case zl1 => with_reducible assumption); (case zl2 => exact Nat.le_of_ble_eq_true rfl))
   | (with_reducible refine' Nat.lt_of_le_of_lt ?zl1 ?zl2; (case zl1 => with_reducible assumption); (case zl2 => exact Nat.le_of_ble_eq_true rfl))
   | (with_reducible refine' Nat.lt_of_lt_of_le ?zl1 ?zl2; (case zl1 => with_reducible assumption); (case zl2 => exact Nat.le_of_ble_eq_true rfl))
   | (with_reducible refine' Nat.le_of_lt_succ (Nat.lt_of_lt_of_le ?zl1 ?zl2); (case zl1 => with_reducible assumption); (case zl2 => exact Nat.le_of_ble_eq_true rfl))
   | exact Nat.le_of_ble_eq_true rfl
   | (walk_say "LE BY OMEGA"; omega))
 k_with "a0" =>
  (exact ⟨by assumption, by assumption, by assumption, by assumption, Around.frames_deeper (Below.stack ‹_›), rfl, rfl, by assumption, by first | k_extra "f4" | ((try simp only [depth_deeper, depth_under_make]); walk_say "ROOM BY OMEGA"; omega), by first | k_extra "g3" | ((try simp only [Around.deeper_units, units_under_make]); walk_say "ROOM BY OMEGA"; omega)⟩)
 k_with "b0" =>
  (first | assumption | exact news_tl ‹_› | (refine news_sub ‹_› ?_; intro p hp; repeat (first | exact hp | exact List.mem_append_left _ hp | refine List.Mem.tail _ ?_)))
 k_with "exec While BoolOp cons nil" =>
  (k_here; k_dflt (refine whl_start 100 ?_))
 k_with "exec While Compare cons nil" =>
  (k_here; k_dflt (refine whl_start 100 ?_))
 k_with "a1" =>
  (first | (with_reducible assumption) | exact News.isTup (by k_asm) (by k_mem) | exact isTup_fr ‹_› ‹_›)
 k_with "assign Tuple" =>
  (k_here; (with_reducible show wpAny _ _ (assign (Expr.Tuple _ _ _) _ (Value.ref _)) _ _ _); k_dflt (refine' unpackN_ ?k1 ?k2 ?k3 ?k4 ?k5 ?k6 ?_; (case k1 => k_asm); (case k2 => k_asm); (case k3 => k_extra "a1"); (case k4 => assumption); (case k5 => exact rfl); (case k6 => exact rfl); k_whole); refine clZ cZ.H ?_; refine gZ1 ?_; intro zc h'; clear_value h'; clear zc; intro F' N'; (try k_sweep))
 k_with "unpackItems ref" =>
  (k_here; k_dflt (refine' unpackItemsN_ ?k1 ?k2 ?k3 ?k4 ?k5 ?_; (case k1 => k_asm); (case k2 => k_asm); (case k3 => k_extra "a1"); (case k4 => first | assumption | exact rfl); (case k5 => first | exact rfl | assumption); k_whole); refine clZ cZ.H ?_; refine gZ1 ?_; intro zc h'; clear_value h'; clear zc; intro F' N'; (try k_sweep))
 k_with "execs cons Assign cons" =>
  ((with_reducible refine wpAny_execs_cons ?_); try dsimp only)
 k_with "newTuple" =>
  (k_here; k_dflt (refine' newTupleF ?zzF ?zzN ?_ ?zzz; (case zzF => k_asm); (case zzN => k_asm); (case zzz => kmk_size)); intro zD' zh'; clear_value zD' zh'; intro zF' zN' zl1; (try k_sweep))
 k_with "newList" =>
  (k_here; k_dflt (refine' newListF ?zzk1 ?zzk2 ?_; (case zzk1 => k_asm); (case zzk2 => k_asm); k_whole); intro zl' zh'; clear_value zl' zh'; intro zF' zN' zl1; (try k_sweep))
 k_with "eval Dict nil nil" =>
  (k_here; k_dflt (refine' newDict_K ?zzk1 ?zzk2 (TopRead.nolimit (by k_asm)) ?_; (case zzk1 => k_asm); (case zzk2 => k_asm); k_whole); refine clZ cZ.O.H.N ?_; refine gZ3 ?_; intro zc zd' zh' zo'; clear_value zd' zh' zo'; clear zc; intro zF' zN' zl1 zlo' zhs' zfs' zhi' zfi'; (try k_sweep))
 k_with "subscriptTail Name Slice ref ref" =>
  (k_here; (with_reducible show wpAny _ _ (subscriptTail _ (PySem.Expr.Slice _ _ none _) (Value.ref _) (Value.ref _)) _ _ _); k_dflt (refine' kms_slice_lit ?zzF ?zzN ?zzl ?zzp ?zzq ?zze ?_ ?zzs ?zzt ?zzz; (case zzF => k_asm); (case zzN => k_asm); (case zzl => kmk_list); (case zzp => kmk_part); (case zzq => kmk_part); (case zze => kl_lit); (case zzs => with_unfolding_all rfl); (case zzt => kmk_pure); (case zzz => kmk_size)); refine clZ cZ.H.N ?_; refine gZ2 ?_; intro zc zD' zh'; clear_value zD' zh'; clear zc; intro zF' zN' zl1; (try k_sweep))
 k_with "call type:tuple" =>
  (k_here; (with_reducible show wpAny _ _ (call (Value.type _) [Value.ref _]) _ _ _); k_dflt (refine' kde_tupleOf ?zzk1 ?zzk2 ?zzk3 ?zzk4 ?zzk5 ?_; (case zzk1 => k_asm); (case zzk2 => k_asm); (case zzk3 => first | exact News.isList (by k_asm) (by k_mem) | exact kun_topL (by k_asm) (by k_asm) (by k_is)); (case zzk4 => exact Nat.le_of_ble_eq_true rfl); (case zzk5 => kun_lit); k_whole); refine clZ cZ.H.N ?_; refine gZ2 ?_; intro zc zD' zh'; clear_value zD' zh'; clear zc; intro zF' zN' zl1; (try k_sweep))
 k_with "storeName" =>
  (k_here; k_dflt (refine' storeX_C ?zzF ?zzN ?zzc ?zzU ?zzd ?_ ?zza ?zzb; (case zza => rfl); (case zzb => rfl); (case zzF => k_asm); (case zzN => k_asm); (case zzc => rfl); (case zzU => k_updF); (case zzd => k_asm); k_whole; refine clZ cZ.O.H ?_; refine gZ2 ?_; intro zc zh' zo'; clear_value zh' zo'; clear zc; intro zF' zN' zd'; (try dsimp only at zN'); (try k_sweep)))
 k_with "storeName" =>
  (k_here; k_dflt (refine' storeX_L ?zzF ?zzN ?_ ?zza ?zzb; (case zzF => k_asm); (case zzN => k_asm); (case zza => rfl); (case zzb => rfl); k_whole; refine clZ cZ.H ?_; refine gZ1 ?_; intro zc zh'; clear_value zh'; clear zc; intro zF' zN'; (try k_sweep)))
 k_with "call builtin:list.extend" =>
  (k_here; (with_reducible show wpAny _ _ (call (Value.builtin _) [Value.ref _, Value.ref _]) _ _ _); k_dflt (first | (refine' kxn_extend ?zzF ?zzN ?zzb ?zze ?zzU ?zzd ?zzz ?zzy ?_; (case zzF => k_asm); (case zzN => k_asm); (case zzb => k_mem); (case zze => exact rfl); (case zzU => k_upd); (case zzd => kl_no); (case zzz => kl_room); (case zzy => kl_room)) | (refine' kup_extend ?zzF ?zzN ?zzb ?zze ?zzne ?zzU ?zzd ?zzz ?zzy ?_; (case zzF => k_asm); (case zzN => k_asm); (case zzb => k_mem); (case zzU => k_upd); (case zze => kl_lit); (case zzne => kl_some); (case zzd => kl_no); (case zzz => kl_room); (case zzy => kl_room))); refine clZ cZ.H ?_; refine gZ1 ?_; intro zc zh'; clear_value zh'; clear zc; intro zF' zN'; (try dsimp only [List.nil_append, List.cons_append] at zN'); (try k_sweep))
 k_with "call builtin:list.pop" =>
  (k_here; k_dflt (refine' kl_pop ?zzF ?zzN ?zze ?zzU ?zzz ?_; (case zzF => k_asm); (case zzN => k_asm); (case zzU => k_upd); (case zze => rfl); (case zzz => kl_room)); refine clZ cZ.H ?_; refine gZ1 ?_; intro zc zh'; clear_value zh'; clear zc; intro zF' zN'; (try dsimp only [List.nil_append, List.cons_append] at zN'))
 k_with "call type:range" =>
  (k_dflt (refine range1_rows (by k_asm) (by k_asm) ?_); refine clZ cZ.N.N.N.N.H ?_; refine gZ5 ?_; intro zc zh' ztk' zt' zu' zv'; clear_value zh' ztk' zt' zu' zv'; clear zc; intro _ _ _ _)
 k_with "binaryOp Add str str" =>
  (k_here; (with_reducible show wpAny _ _ (binaryOp Operator.Add (Value.str _ _) (Value.str _ _)) _ _ _); (refine' KXadd.add ?zzkxaa ?zzkxab ?zzkxac ?_; (case zzkxaa => kt_len); (case zzkxab => kt_len); (case zzkxac => exact Nat.le_of_ble_eq_true rfl)); refine clZ cZ.N.N ?_; refine gZ2 ?_; intro zc zt' zk'; clear_value zt' zk'; clear zc; intro _)
 trivial
local macro_rules | `(tactic| k_ne) => `(tactic| k_extra "ne")
local macro_rules | `(tactic| k_steps) => `(tactic| repeat' (k_extra "h0"))
example : True := by
 k_with "b4" =>
  (with_reducible first | assumption | exact andp0 ‹_› | exact andp1 ‹_› | exact andp2 ‹_› | exact andp3 ‹_› | exact andp4 ‹_› | exact andp5 ‹_› | exact andp6 ‹_› | exact andp7 ‹_› | exact andp8 ‹_› | exact andq1 ‹_› | exact andq2 ‹_› | exact andq3 ‹_› | exact andq4 ‹_› | exact andq5 ‹_› | exact andq6 ‹_› | exact andq7 ‹_› | exact andq8 ‹_›)
 k_with "ne" =>
  ((refine neN ?_); (try dsimp only); first | (with_reducible assumption) | (with_reducible exact Ne.symm ‹_›) | exact neCls (by k_asm) (by k_mem) (by k_mem) (by kernel_rfl!) | k_extra "b4" | exact Ne.symm (by k_extra "b4") | exact ne_lt (by k_extra "b4") | exact ne_gt (by k_extra "b4") | (walk_say "NE BY OMEGA"; omega))
 k_with "bT" =>
  (first | (with_reducible assumption) | kernel_rfl!)
 k_with "bF" =>
  (first | (with_reducible assumption) | (with_reducible exact bF_of ‹_›) | kernel_rfl!)
 k_with "c2" =>
  (first | (with_reducible assumption) | (with_reducible exact Fr.tup ‹_› ‹_›) | k_extra "g4" | (with_reducible_and_instances exact News.isTup ‹_› (by k_mem)))
 k_with "e5" =>
  (k_dflt (exact rfl))
 k_with "a3" =>
  (kernel_rfl)
 k_with "pe" =>
  (first
   | ((with_reducible first | show PE _ _ (envOf _ _ _ _ _) _ (Expr.Name _ _) _ _ _ | show PE _ _ (envX _ _ _ _ _ _) _ (Expr.Name _ _) _ _ _ | show PE _ _ (envOfC _ _ _ _ _) _ (Expr.Name _ _) _ _ _); k_dflt (first | exact pe_ld (by k_asm) (by first | exact rfl | (with_reducible assumption)) (by k_extra "a3") | exact pe_gl (by k_asm) (by k_asm) (by k_asm) (by k_is) (by k_extra "a3")))
   | ((with_reducible show PE _ _ _ _ (Expr.Constant _ _ _) _ _ _); (with_reducible first | exact pe_str | exact pe_int | exact pe_none | exact pe_bool))
   | ((with_reducible show PE _ _ _ _ (Expr.Subscript _ (Expr.Constant (Const.int 0) _ _) _) _ _ _); with_reducible exact pe_it0 (by k_extra "pe") (by k_extra "c2"))
   | ((with_reducible show PE _ _ _ _ (Expr.Subscript _ (Expr.Constant (Const.int 1) _ _) _) _ _ _); with_reducible exact pe_it1 (by k_extra "pe") (by k_extra "c2"))
   | ((with_reducible show PE _ _ _ _ (Expr.Subscript _ (Expr.Constant (Const.int 2) _ _) _) _ _ _); with_reducible exact pe_it2 (by k_extra "pe") (by k_extra "c2"))
   | ((with_reducible show PE _ _ _ _ (Expr.Subscript _ (Expr.Constant (Const.int 3) _ _) _) _ _ _); with_reducible exact pe_it3 (by k_extra "pe") (by k_extra "c2"))
   | ((with_reducible show PE _ _ _ _ (Expr.Subscript _ (Expr.Constant (Const.int 4) _ _) _) _ _ _); with_reducible exact pe_it4 (by k_extra "pe") (by k_extra "c2"))
   | ((with_reducible show PE _ _ _ _ (Expr.Subscript _ (Expr.Constant (Const.int 0) _ _) _) _ _ _); with_reducible exact pe_li0 (by k_extra "pe") (by k_extra "e2"))
   | ((with_reducible show PE _ _ _ _ (Expr.Subscript _ (Expr.Constant (Const.int 1) _ _) _) _ _ _); with_reducible exact pe_li1 (by k_extra "pe") (by k_extra "e2"))
   | ((with_reducible show PE _ _ _ _ (Expr.Subscript _ (Expr.Constant (Const.int 2) _ _) _) _ _ _); with_reducible exact pe_li2 (by k_extra "pe") (by k_extra "e2"))
   | ((with_reducible show PE _ _ _ _ (Expr.Subscript _ (Expr.Constant (Const.int 3) _ _) _) _ _ _); with_reducible exact pe_li3 (by k_extra "pe") (by k_extra "e2"))
   | ((with_reducible show PE _ _ _ _ (Expr.Subscript _ _ _) _ _ _); with_reducible exact pe_dget (by k_extra "pe") (by k_extra "pe") (by k_extra "f2") (by k_extra "c5") (by with_unfolding_all rfl))
   | ((with_reducible show PE _ _ _ _ (Expr.Attribute _ _ _) _ _ _); k_dflt (exact pe_at (by k_extra "pe") (by k_asm) (by k_asm) (by k_extra "h4") (by k_is) (by k_is) (by k_is) (by k_is) (by rfl) (by rfl) (by with_unfolding_all rfl)))
   | ((with_reducible show PE _ _ _ _ (Expr.Compare _ _ _ _) _ _ _); (with_reducible exact pe_cmp (by k_extra "pe") (by k_extra "pe") (by k_extra "pc") (by with_unfolding_all rfl)))
   | ((with_reducible show PE _ _ _ _ (Expr.IfExp _ _ _ _) _ _ _); (with_reducible first | exact pe_ifT (by k_extra "pt") (by k_extra "bT") (by k_extra "pe") | exact pe_ifF (by k_extra "pt") (by k_extra "bF") (by k_extra "pe"))))
 k_with "e2" =>
  (first | (with_reducible assumption) | (with_reducible exact isList_fr ‹_› ‹_›) | (with_reducible_and_instances exact isListL ‹_› (by k_mem)))
 k_with "f2" =>
  (with_reducible first | assumption | exact DictAt.fr ‹_› ‹_›)
 k_with "c5" =>
  (first | (with_reducible assumption) | (k_dflt (exact rfl)))
 k_with "h4" =>
  (with_reducible first | assumption | exact inst_fr ‹_› ‹_›)
 k_with "a5" =>
  (with_reducible first | exact PEs.nil | exact PEs.cons (by k_extra "pe") (by kernel_rfl) (by k_extra "a5"))
 k_with "pc" =>
  (with_reducible first | exact pc_is0 | exact pc_isnot0 | exact pc_isR | exact pc_isnotR | exact pc_isS | exact pc_isnotS | exact pc_eqs | exact pc_nes | exact pc_eqb | exact pc_neb | exact pc_eqNS | exact pc_in (b := true) (by k_extra "f2") (by k_dflt (exact rfl)) | exact pc_in (b := false) (by k_extra "f2") (by k_dflt (exact rfl)))
 k_with "pt" =>
  (first
   | ((with_reducible show PT _ _ _ _ (Expr.Compare _ _ _ _) _ _ _); (with_reducible exact pt_cmp (by k_extra "pe") (by k_extra "pe") (by k_extra "pc") (by with_unfolding_all rfl)))
   | ((with_reducible show PT _ _ _ _ (Expr.UnaryOp _ _ _) _ _ _); (with_reducible exact pt_not (by k_extra "pt")))
   | ((with_reducible show PT _ _ _ _ (Expr.BoolOp _ [] _) _ _ _); (with_reducible first | exact pt_and0 | exact pt_or0))
   | ((with_reducible show PT _ _ _ _ (Expr.BoolOp BoolOp.Or _ _) _ _ _); (with_reducible first | exact pt_orF (by k_extra "pt") (by k_extra "bF") (by k_extra "pt") | exact pt_orT (by k_extra "pt") (by k_extra "bT")))
   | ((with_reducible show PT _ _ _ _ (Expr.BoolOp BoolOp.And _ _) _ _ _); (with_reducible first | exact pt_andT (by k_extra "pt") (by k_extra "bT") (by k_extra "pt") | exact pt_andF (by k_extra "pt") (by k_extra "bF")))
   | ((with_reducible first | show PT _ _ _ _ (Expr.Name _ _) _ _ _ | show PT _ _ _ _ (Expr.Attribute _ _ _) _ _ _ | show PT _ _ _ _ (Expr.Subscript _ _ _) _ _ _); with_reducible exact pt_val (by k_extra "pe") (by with_unfolding_all rfl)))
 k_with "d5" =>
  (first
   | ((with_reducible show wpAny _ _ (execs _ _) _ _ _); first
    | ((with_reducible show wpAny _ _ (execs [] _) (Cont _ _ _ _ _ _) _ _); with_reducible refine fu_cont ?_)
    | ((with_reducible show wpAny _ _ (execs (Stmt.Return (some _) _ :: _) _) _ _ _); first | (with_reducible refine' fu_ret (by k_extra "pe") ?_) | with_reducible refine fu_retX ?_)
    | ((with_reducible show wpAny _ _ (execs (Stmt.If _ _ [] _ :: _) _) _ _ _); (with_reducible refine' fu_if (by k_extra "pt") ?_))
    | ((with_reducible show wpAny _ _ (execs (Stmt.If _ _ (_ :: _) _ :: _) _) _ _ _); (with_reducible refine' fu_ifelse (by k_extra "pt") ?_))
    | ((with_reducible show wpAny _ _ (execs (Stmt.Assign [Expr.Name _ _] _ _ :: _) _) _ _ _); first | ((with_reducible first | show wpAny _ _ (execs (Stmt.Assign _ (Expr.Name _ _) _ :: _) _) _ _ _ | show wpAny _ _ (execs (Stmt.Assign _ (Expr.Subscript _ _ _) _ :: _) _) _ _ _ | show wpAny _ _ (execs (Stmt.Assign _ (Expr.Attribute _ _ _) _ :: _) _) _ _ _ | show wpAny _ _ (execs (Stmt.Assign _ (Expr.Constant _ _ _) _ :: _) _) _ _ _ | show wpAny _ _ (execs (Stmt.Assign _ (Expr.Compare _ _ _ _) _ :: _) _) _ _ _ | show wpAny _ _ (execs (Stmt.Assign _ (Expr.IfExp _ _ _ _) _ :: _) _) _ _ _); (with_reducible first | show wpAny _ _ (execs _ (envOf _ _ _ _ _)) _ _ _ | show wpAny _ _ (execs _ (envX _ _ _ _ _ _)) _ _ _ | show wpAny _ _ (execs _ (envOfC _ _ _ _ _)) _ _ _); k_dflt (refine' fu_set (by k_extra "pe") (by k_asm) (by k_asm) (by kernel_rfl!) (by exact rfl) ?_; k_whole); refine clZ cZ.H ?_; refine gZ1 ?_; intro zc h'; clear_value h'; clear zc; intro F' N'; (try k_sweep)) | ((with_reducible refine fu_asg ?_ ?_); exact rfl)))
   | ((with_reducible show wpAny _ _ (eval _ _) _ _ _); first
    | ((with_reducible first | show wpAny _ _ (eval (Expr.Call (Expr.Name _ _) _ [] _) (envOf _ _ _ _ _)) _ _ _ | show wpAny _ _ (eval (Expr.Call (Expr.Name _ _) _ [] _) (envX _ _ _ _ _ _)) _ _ _ | show wpAny _ _ (eval (Expr.Call (Expr.Name _ _) _ [] _) (envOfC _ _ _ _ _)) _ _ _); k_dflt (refine' fu_call (by k_asm) (by k_asm) (by k_asm) (by k_is) (by k_is) (by k_extra "a3") (by k_extra "a5") (by rfl) ?_); (try dsimp only [List.cons_append, List.nil_append]))
    | ((with_reducible refine' pe_use (by k_extra "pe") ?_)))
   | ((with_reducible show wpAny _ _ (isTrue _ _ _) _ _ _); first
    | ((with_reducible show wpAny _ _ (isTrue (Expr.BoolOp _ _ _) _ _) _ _ _); (with_reducible refine' pt_useB (by k_extra "pt") ?_))
    | ((with_reducible show wpAny _ _ (isTrue (Expr.Compare _ _ _ _) _ _) _ _ _); (with_reducible refine' pt_useC (by k_extra "pt") ?_))
    | ((with_reducible first | show wpAny _ _ (isTrue (Expr.Name _ _) _ _) _ _ _ | show wpAny _ _ (isTrue (Expr.Attribute _ _ _) _ _) _ _ _ | show wpAny _ _ (isTrue (Expr.Subscript _ _ _) _ _) _ _ _ | show wpAny _ _ (isTrue (Expr.UnaryOp _ _ _) _ _) _ _ _); (with_reducible refine' pt_use (by k_extra "pt") ?_)))
   | ((with_reducible show wpAny _ _ (storeName _ _ _) _ _ _); k_dflt (refine' fu_store (by k_asm) (by k_asm) (by kernel_rfl!) ?_; k_whole); refine clZ cZ.H ?_; refine gZ1 ?_; intro zc h'; clear_value h'; clear zc; intro F' N'; (try k_sweep))
   | ((with_reducible show wpAny _ _ (spliced (backTo _ (starEach _ _))) _ _ _); (with_reducible refine' pes_use (by k_extra "a5") ?_); (try dsimp only [List.cons_append, List.nil_append]))
   | ((with_reducible show Cont _ _ _ _ _ _ _ _); with_reducible first | refine fu_next ?_ | refine fu_cret ?_)
   | ((with_reducible show IfGo _ _ _); with_reducible first | refine ifGo_T (by k_extra "bT") ?_ | refine ifGo_F (by k_extra "bF") ?_ | refine ifGo_ite ?_))
 k_with "h0" =>
  first | (k_extra "d5"; (try dsimp only)) | (k_unfold; (try dsimp only)) | (k_end; wrow_close) | walk1 | (dsimp only; walk1) | (leave1; walk_say "STEP leave1"; try dsimp only) | fail "no step"
 trivial
local macro_rules | `(tactic| k_lt $h:ident) => `(tactic| skip)
example : True := by
 k_with "ne" =>
  ((refine neN ?_); (try dsimp only); with_reducible_and_instances first | exact ne_all2 ‹_› (by k_extra "m") | exact ne_mem2 ‹_› (by k_extra "m") | assumption | exact Ne.symm ‹_› | exact ne_all ‹_› (by k_extra "m") | exact ne_mem ‹_› (by k_extra "m") | exact ne_all2 ‹_› (by k_mem) | exact ne_mem2 ‹_› (by k_mem) | exact ne_all ‹_› (by k_mem) | exact ne_mem ‹_› (by k_mem))
 trivial
local macro_rules | `(tactic| size_fits) => `(tactic| exact Nat.le_of_ble_eq_true rfl)
theorem fmc {α : Type} {p : α → Prop} {a : α} {l : List α} (h1 : p a) (h2 : ∀ x ∈ l, p x) : ∀ x ∈ a :: l, p x := List.forall_mem_cons.mpr ⟨h1, h2⟩
theorem andp0 {a y : Prop} (h : a ∧ y) : a := h.1
theorem andp1 {x a y : Prop} (h : x ∧ a ∧ y) : a := h.2.1
theorem andp2 {x1 x2 a y : Prop} (h : x1 ∧ x2 ∧ a ∧ y) : a := h.2.2.1
theorem andp4 {x1 x2 x3 x4 a y : Prop} (h : x1 ∧ x2 ∧ x3 ∧ x4 ∧ a ∧ y) : a := h.2.2.2.2.1
theorem andq8 {x1 x2 x3 x4 x5 x6 x7 x8 a : Prop} (h : x1 ∧ x2 ∧ x3 ∧ x4 ∧ x5 ∧ x6 ∧ x7 ∧ x8 ∧ a) : a := h.2.2.2.2.2.2.2.2
theorem neCls {g h : Heap} {L a b : Addr} {l : List (Addr × Obj)} {oa ob : Obj} (N : News g L h l) (ha : (a, oa) ∈ l) (hb : (b, ob) ∈ l) (hc : (oa.cls == ob.cls) = false) : a ≠ b := fun e => by
 have h1 := (N _ ha).1
 have h2 := (N _ hb).1
 dsimp only at h1 h2
 rw [e, h2] at h1
 cases h1
 rw [beq_self_eq_true] at hc
 cases hc
theorem isListL {g h : Heap} {L a : Addr} {l : List (Addr × Obj)} {its : Array Value} {n : Nat} (N : News g L h l) (hm : (a, PySem.W.listOf its n) ∈ l) : h.IsList a its := ⟨_, (N _ hm).1, rfl, _, rfl⟩
theorem rm_d {A : Around} {k n : Nat} (h : A.depth + n < recursionLimit) (e : Nat.ble k n = true) : A.depth + k < recursionLimit := Nat.lt_of_le_of_lt (Nat.add_le_add_left (Nat.le_of_ble_eq_true e) _) h
theorem rm_u {A : Around} {k n : Nat} (h : A.units + n < cLine) (e : Nat.ble k n = true) : A.units + k < cLine := Nat.lt_of_le_of_lt (Nat.add_le_add_left (Nat.le_of_ble_eq_true e) _) h
theorem rm_d1 {A : Around} {env : Env} {k n : Nat} (h : A.depth + n < recursionLimit) (e : Nat.ble (1 + k) n = true) : (A.deeper env).depth + k < recursionLimit := by
 rw [depth_deeper, Nat.add_assoc]; exact rm_d h e
theorem rm_u1 {A : Around} {env : Env} {k n : Nat} (h : A.units + n < cLine) (e : Nat.ble (3 + k) n = true) : (A.deeper env).units + k < cLine := by
 rw [Around.deeper_units, Nat.add_assoc]; exact rm_u h e
theorem rm_d0 {A : Around} {n : Nat} (h : A.depth + n < recursionLimit) : A.depth < recursionLimit := Nat.lt_of_le_of_lt (Nat.le_add_right _ _) h
theorem rm_u0 {A : Around} {env : Env} {n : Nat} (h : A.units + n < cLine) (e : Nat.ble 3 n = true) : (A.deeper env).units < cLine := rm_u (k := 3) h e
theorem rm_dm0 {A : Around} {C : Addr} {vs : List Value} {n : Nat} (h : A.depth + n < recursionLimit) (e : Nat.ble 1 n = true) : (A.under (.builtin "type.__call__" ⟨.ref C :: vs, []⟩)).depth < recursionLimit := rm_d (k := 1) h e
theorem rm2 {x a k n r : Nat} (h : x + n < r) (e : Nat.ble (a + k) n = true) : x + a + k < r := Nat.add_assoc x a k ▸ Nat.lt_of_le_of_lt (Nat.add_le_add_left (Nat.le_of_ble_eq_true e) x) h
theorem rm_dmd {A : Around} {env : Env} {C : Addr} {vs : List Value} {k n : Nat} (h : A.depth + n < recursionLimit) (e : Nat.ble (2 + k) n = true) : ((A.under (.builtin "type.__call__" ⟨.ref C :: vs, []⟩)).deeper env).depth + k < recursionLimit := rm2 (x := A.depth) (a := 2) h e
theorem rm_um {A : Around} {C : Addr} {vs : List Value} {k n : Nat} (h : A.units + n < cLine) (e : Nat.ble (1 + k) n = true) : (A.under (.builtin "type.__call__" ⟨.ref C :: vs, []⟩)).units + k < cLine := rm2 h e
theorem rm_umd {A : Around} {env : Env} {C : Addr} {vs : List Value} {k n : Nat} (h : A.units + n < cLine) (e : Nat.ble (4 + k) n = true) : ((A.under (.builtin "type.__call__" ⟨.ref C :: vs, []⟩)).deeper env).units + k < cLine := rm2 (x := A.units) (a := 4) h e
theorem rmC {x a k C m r : Nat} (h : x + (C + m) < r) (e : Nat.ble (a + k) C = true) : x + a + k < r := rm2 (n := C) (Nat.lt_of_le_of_lt (Nat.add_le_add_left (Nat.le_add_right C m) x) h) e
theorem rmN {x a k C m r : Nat} (h : x + (C + m) < r) (e : Nat.ble (a + k) C = true) : x + a + (k + m) < r := by
 rw [Nat.add_assoc x a, ← Nat.add_assoc a k m]; exact Nat.lt_of_le_of_lt (Nat.add_le_add_left (Nat.add_le_add_right (Nat.le_of_ble_eq_true e) m) x) h
theorem rmS {x a k C B n r : Nat} (h : x + (C + B * (n + 1)) < r) (e : Nat.ble (a + k) (C + B) = true) : x + a + (k + B * n) < r := rmN (C := C + B) (by rw [Nat.mul_succ, Nat.add_comm (B * n), ← Nat.add_assoc C] at h; exact h) e
section
variable {A : Around} {env : Env} {k C B n m : Nat}
theorem rm_dC (h : A.depth + (C + m) < recursionLimit) (e : Nat.ble (1 + k) C = true) : (A.deeper env).depth + k < recursionLimit := rmC h e
theorem rm_dN (h : A.depth + (C + m) < recursionLimit) (e : Nat.ble (1 + k) C = true) : (A.deeper env).depth + (k + m) < recursionLimit := rmN h e
theorem rm_dS (h : A.depth + (C + B * (n + 1)) < recursionLimit) (e : Nat.ble (1 + k) (C + B) = true) : (A.deeper env).depth + (k + B * n) < recursionLimit := rmS h e
theorem rm_uC (h : A.units + (C + m) < cLine) (e : Nat.ble (3 + k) C = true) : (A.deeper env).units + k < cLine := rmC h e
theorem rm_uN (h : A.units + (C + m) < cLine) (e : Nat.ble (3 + k) C = true) : (A.deeper env).units + (k + m) < cLine := rmN h e
theorem rm_uS (h : A.units + (C + B * (n + 1)) < cLine) (e : Nat.ble (3 + k) (C + B) = true) : (A.deeper env).units + (k + B * n) < cLine := rmS h e
end
noncomputable def upd (m : Str → Option Value) (x : Str) (v : Value) : Str → Option Value := fun y => if y = x then some v else m y
def PE (M : Model) (A : Around) (env : Env) (h : Heap) (e : PySem.Expr) (t t' : Nat) (v : Value) : Prop :=
 ∀ (g : Array GenState) (d : Drawn) (o : OsState) (Q E : Value → Shared → Prop), Q v ⟨h, g, d, t', o⟩ → wpAny M A (eval e env) Q E ⟨h, g, d, t, o⟩
def PT (M : Model) (A : Around) (env : Env) (h : Heap) (e : PySem.Expr) (t t' : Nat) (b : Bool) : Prop :=
 ∀ (g : Array GenState) (d : Drawn) (o : OsState) (Q : Bool → Shared → Prop) (E : Value → Shared → Prop), Q b ⟨h, g, d, t', o⟩ → wpAny M A (isTrue e env (eval e env)) Q E ⟨h, g, d, t, o⟩
noncomputable def noStar (e : PySem.Expr) : Bool := !(Nat.beq e.ctorIdx 22)
theorem star_cons {e : PySem.Expr} {es : List PySem.Expr} {env : Env} (h : noStar e = true) : starEach (e :: es) env = (false, eval e env) :: starEach es env := by
 cases e <;> first | rfl | exact Bool.noConfusion (h : false = true)
inductive PEs (M : Model) (A : Around) (env : Env) (h : Heap) : List PySem.Expr → Nat → Nat → List Value → Prop
 | nil {t} : PEs M A env h [] t t []
 | cons {e es t t1 t2 v vs} : PE M A env h e t t1 v → noStar e = true → PEs M A env h es t1 t2 vs → PEs M A env h (e :: es) t t2 (v :: vs)
noncomputable def okL (cs : Scope) (x : Str) : Bool := cs.kind == .function && (cs.names.lookup x == some .local && !(x == ("__debug__" : Str)))
noncomputable def okG (cs : Scope) (x : Str) : Bool := cs.kind == .function && (cs.names.lookup x == some .globalImplicit && !(x == ("__debug__" : Str)))
theorem okL_ {cs : Scope} {x : Str} (h : okL cs x = true) : cs.kind = .function ∧ cs.names.lookup x = some .local ∧ (x == ("__debug__" : Str)) = false := by
 unfold okL at h
 simp only [Bool.and_eq_true, Bool.not_eq_true', beq_iff_eq] at h
 exact h
theorem okG_ {cs : Scope} {x : Str} (h : okG cs x = true) : cs.kind = .function ∧ cs.names.lookup x = some .globalImplicit ∧ (x == ("__debug__" : Str)) = false := by
 unfold okG at h
 simp only [Bool.and_eq_true, Bool.not_eq_true', beq_iff_eq] at h
 exact h
def IfGo (b : Bool) (P R : Prop) : Prop := if b = true then P else R
theorem ifGo_T {b : Bool} {P R : Prop} (h : b = true) (k : P) : IfGo b P R := by unfold IfGo; rw [if_pos h]; exact k
theorem ifGo_F {b : Bool} {P R : Prop} (h : b = false) (k : R) : IfGo b P R := by unfold IfGo; rw [if_neg (by rw [h]; exact Bool.false_ne_true)]; exact k
theorem ifGo_ite {b : Bool} {P R : Prop} (k : if b = true then P else R) : IfGo b P R := k
def Cont (M : Model) (A : Around) (env : Env) (rest : List Stmt) (Q : Flow → Shared → Prop) (E : Value → Shared → Prop) : Flow → Shared → Prop := fun f s' => match f with
 | .next => wpAny M A (execs rest env) Q E s'
 | f => Q f s'
section
variable {M : Model} {A : Around} {env : Env} {h : Heap}
theorem pe_str {x : Str} {k : Nat} {pos : Pos} {t : Nat} : PE M A env h (.Constant (.str x) k pos) t (t + 1) (.str x t) := fun _ _ _ _ _ q => Constant_str q
theorem pe_int {i : Int} {k : Nat} {pos : Pos} {t : Nat} : PE M A env h (.Constant (.int i) k pos) t (t + 1) (.int i t) := fun _ _ _ _ _ q => wpAny_Constant_int q
theorem pe_none {k : Nat} {pos : Pos} {t : Nat} : PE M A env h (.Constant .none k pos) t t .none := fun _ _ _ _ _ q => fun _ _ _ => q
theorem pe_bool {b : Bool} {k : Nat} {pos : Pos} {t : Nat} : PE M A env h (.Constant (.bool b) k pos) t t (.bool b) := fun _ _ _ _ _ q => fun _ _ _ => q
section
variable {t t' : Nat} {g : Array GenState} {d : Drawn} {o : OsState} {E : Value → Shared → Prop}
theorem pe_use {e : PySem.Expr} {v : Value} {Q : Value → Shared → Prop} (p : PE M A env h e t t' v) (k : Q v ⟨h, g, d, t', o⟩) : wpAny M A (eval e env) Q E ⟨h, g, d, t, o⟩ := p _ _ _ _ _ k
theorem pt_use {e : PySem.Expr} {b : Bool} {Q : Bool → Shared → Prop} (p : PT M A env h e t t' b) (k : Q b ⟨h, g, d, t', o⟩) : wpAny M A (isTrue e env (eval e env)) Q E ⟨h, g, d, t, o⟩ := p _ _ _ _ _ k
theorem pt_useB {op : BoolOp} {es : List PySem.Expr} {pos : Pos} {whole : Sem Value} {b : Bool} {Q : Bool → Shared → Prop} (p : PT M A env h (.BoolOp op es pos) t t' b) (k : Q b ⟨h, g, d, t', o⟩) : wpAny M A (isTrue (.BoolOp op es pos) env whole) Q E ⟨h, g, d, t, o⟩ := by
 have := p _ _ _ _ E k
 rw [arm_isTrue_BoolOp] at this ⊢; exact this
theorem pt_useC {e1 : PySem.Expr} {ops : List CmpOp} {es : List PySem.Expr} {pos : Pos} {whole : Sem Value} {b : Bool} {Q : Bool → Shared → Prop} (p : PT M A env h (.Compare e1 ops es pos) t t' b) (k : Q b ⟨h, g, d, t', o⟩) : wpAny M A (isTrue (.Compare e1 ops es pos) env whole) Q E ⟨h, g, d, t, o⟩ := by
 have := p _ _ _ _ E k
 rw [arm_isTrue_Compare] at this ⊢; exact this
theorem pes_use {es : List PySem.Expr} {pos : Pos} {vs : List Value} {Q : List Value → Shared → Prop} (p : PEs M A env h es t t' vs) (k : Q vs ⟨h, g, d, t', o⟩) : wpAny M A (spliced (backTo pos (starEach es env))) Q E ⟨h, g, d, t, o⟩ := by
 induction p generalizing Q with
 | nil => exact args_nil k
 | cons a b _ ih => exact args_cons (a _ _ _ _ _ (ih k)) (star_cons b)
variable {Q : Flow → Shared → Prop} {rest : List Stmt}
theorem fu_ret {e : PySem.Expr} {pos : Pos} {v : Value} (p : PE M A env h e t t' v) (k : Q (.ret v) ⟨h, g, d, t', o⟩) : wpAny M A (execs (.Return (some e) pos :: rest) env) Q E ⟨h, g, d, t, o⟩ := wpAny_execs_cons (wpAny_Return_some (p _ _ _ _ _ k))
theorem fu_if {test : PySem.Expr} {body : List Stmt} {pos : Pos} {b : Bool} (p : PT M A env h test t t' b) (k : IfGo b (wpAny M A (execs body env) (Cont M A env rest Q E) E ⟨h, g, d, t', o⟩) (wpAny M A (execs rest env) Q E ⟨h, g, d, t', o⟩)) :
  wpAny M A (execs (.If test body [] pos :: rest) env) Q E ⟨h, g, d, t, o⟩ := by
 refine wpAny_execs_cons (wpAny_If (p _ _ _ _ _ ?_))
 cases b with
 | true => exact k
 | false => exact wpAny_execs_nil k
theorem fu_ifelse {test : PySem.Expr} {body orelse : List Stmt} {pos : Pos} {b : Bool} (p : PT M A env h test t t' b) (k : IfGo b (wpAny M A (execs body env) (Cont M A env rest Q E) E ⟨h, g, d, t', o⟩) (wpAny M A (execs orelse env) (Cont M A env rest Q E) E ⟨h, g, d, t', o⟩)) :
  wpAny M A (execs (.If test body orelse pos :: rest) env) Q E ⟨h, g, d, t, o⟩ := by
 refine wpAny_execs_cons (wpAny_If (p _ _ _ _ _ ?_))
 cases b <;> exact k
theorem fu_cont {s : Shared} (k : wpAny M A (execs rest env) Q E s) : wpAny M A (execs [] env) (Cont M A env rest Q E) E s := wpAny_execs_nil k
theorem fu_next {s : Shared} (k : wpAny M A (execs rest env) Q E s) : Cont M A env rest Q E .next s := k
end
end
section
variable {M : Model} {A : Around} {h gh : Heap} {L a : Addr} {m mg mb : Str → Option Value} {cn : Str} {cs : Scope} {ccd : Value} {cl : List (Str × Addr)}
theorem pe_ld {x : Str} {pos : Pos} {v : Value} {t : Nat} (F : Fr gh L h m) (hv : m x = some v) (ok : okL cs x = true) : PE M A (envX cn cs L a ccd cl) h (.Name x pos) t t v :=
 fun _ _ _ _ _ q => let ⟨a1, a2, a3⟩ := okL_ ok; nameX_L F hv q a1 a2 a3
theorem pe_gl {K : Frag} {p : Program} {loose : List Str} {x : Str} {pos : Pos} {v : Value} {t : Nat} (F : Fr gh L h m) (X : K.In gh) (T : TopRead p loose mg mb gh) (e : nsIn K mainGlobals x = some (some v)) (ok : okG cs x = true) : PE M A (envX cn cs L a ccd cl) h (.Name x pos) t t v :=
 fun _ _ _ _ _ q => let ⟨a1, a2, a3⟩ := okG_ ok; nameX_K F X T e q a1 a2 a3
end
section
variable {prog : Program} {w : World} {A : Around} {env : Env} {h : Heap}
theorem pe_it {e : PySem.Expr} {i : Int} {k : Nat} {p1 pos : Pos} {t t1 : Nat} {a : Addr} {l : List Value} {j : Nat} {v : Value} (p : PE (model prog w) A env h e t t1 (.ref a)) (it : IsTup h a l.toArray) (hlo : -(2 ^ 63) ≤ i) (hhi : i < 2 ^ 63) (hj : seqIndex? i l.length = some j) (hx : l[j]? = some v)
  (hs : subscripted (.Constant (.int i) k p1) false (.ref a) (.int i t1) = operate [.ref a, .int i t1] (getItem (.ref a) (.int i t1))) : PE (model prog w) A env h (.Subscript e (.Constant (.int i) k p1) pos) t (t1 + 1) v :=
 fun _ _ _ _ _ q => Subscript_ (p _ _ _ _ _ (wpAny_Constant_int (item_tupleT (s := ⟨h, _, _, t1 + 1, _⟩) it hlo hhi hj hx q hs)))
theorem sub_const {i : Int} {k : Nat} {p1 : Pos} {a : Addr} {t : Nat} : subscripted (.Constant (.int i) k p1) false (.ref a) (.int i t) = operate [.ref a, .int i t] (getItem (.ref a) (.int i t)) := by with_unfolding_all rfl
theorem pe_it0 {e : PySem.Expr} {k : Nat} {p1 pos : Pos} {t t1 : Nat} {a : Addr} {l : List Value} {v : Value} (p : PE (model prog w) A env h e t t1 (.ref a)) (it : IsTup h a (v :: l).toArray) : PE (model prog w) A env h (.Subscript e (.Constant (.int 0) k p1) pos) t (t1 + 1) v :=
 pe_it p it (by decide) (by decide) (seqIndexN 0 _ (by simp)) rfl sub_const
theorem pe_it1 {e : PySem.Expr} {k : Nat} {p1 pos : Pos} {t t1 : Nat} {a : Addr} {l : List Value} {y0 v : Value} (p : PE (model prog w) A env h e t t1 (.ref a)) (it : IsTup h a (y0 :: v :: l).toArray) : PE (model prog w) A env h (.Subscript e (.Constant (.int 1) k p1) pos) t (t1 + 1) v :=
 pe_it p it (by decide) (by decide) (seqIndexN 1 _ (by simp)) rfl sub_const
theorem pe_it2 {e : PySem.Expr} {k : Nat} {p1 pos : Pos} {t t1 : Nat} {a : Addr} {l : List Value} {y0 y1 v : Value} (p : PE (model prog w) A env h e t t1 (.ref a)) (it : IsTup h a (y0 :: y1 :: v :: l).toArray) : PE (model prog w) A env h (.Subscript e (.Constant (.int 2) k p1) pos) t (t1 + 1) v :=
 pe_it p it (by decide) (by decide) (seqIndexN 2 _ (by simp)) rfl sub_const
theorem pe_it3 {e : PySem.Expr} {k : Nat} {p1 pos : Pos} {t t1 : Nat} {a : Addr} {l : List Value} {y0 y1 y2 v : Value} (p : PE (model prog w) A env h e t t1 (.ref a)) (it : IsTup h a (y0 :: y1 :: y2 :: v :: l).toArray) : PE (model prog w) A env h (.Subscript e (.Constant (.int 3) k p1) pos) t (t1 + 1) v :=
 pe_it p it (by decide) (by decide) (seqIndexN 3 _ (by simp)) rfl sub_const
theorem pe_it4 {e : PySem.Expr} {k : Nat} {p1 pos : Pos} {t t1 : Nat} {a : Addr} {l : List Value} {y0 y1 y2 y3 v : Value} (p : PE (model prog w) A env h e t t1 (.ref a)) (it : IsTup h a (y0 :: y1 :: y2 :: y3 :: v :: l).toArray) : PE (model prog w) A env h (.Subscript e (.Constant (.int 4) k p1) pos) t (t1 + 1) v :=
 pe_it p it (by decide) (by decide) (seqIndexN 4 _ (by simp)) rfl sub_const
end
def PC (M : Model) (A : Around) (h : Heap) (op : CmpOp) (a b : Value) (t t' : Nat) (r : Bool) : Prop :=
 ∀ (g : Array GenState) (d : Drawn) (o : OsState) (Q E : Value → Shared → Prop), Q (.bool r) ⟨h, g, d, t', o⟩ → wpAny M A (compareOp op a b) Q E ⟨h, g, d, t, o⟩
section
variable {M : Model} {A : Around} {env : Env} {h : Heap} {t t1 t2 t3 : Nat}
theorem pt_cmp {e1 e2 : PySem.Expr} {op : CmpOp} {pos : Pos} {a b : Value} {r : Bool} (p1 : PE M A env h e1 t t1 a) (p2 : PE M A env h e2 t1 t2 b) (c : PC M A h op a b t2 t3 r) (hm : behindInMarks op e2 = false) : PT M A env h (.Compare e1 [op] [e2] pos) t t3 r :=
 fun _ _ _ _ _ q => wpAny_isTrue_Compare1 (p1 _ _ _ _ _ (p2 _ _ _ _ _ (c _ _ _ _ _ (wpAny_truthy_bool q)))) hm
theorem pe_cmp {e1 e2 : PySem.Expr} {op : CmpOp} {pos : Pos} {a b : Value} {r : Bool} (p1 : PE M A env h e1 t t1 a) (p2 : PE M A env h e2 t1 t2 b) (c : PC M A h op a b t2 t3 r) (hm : behindInMarks op e2 = false) : PE M A env h (.Compare e1 [op] [e2] pos) t t3 (.bool r) :=
 fun _ _ _ _ _ q => wpAny_Compare1 (p1 _ _ _ _ _ (p2 _ _ _ _ _ (c _ _ _ _ _ q))) hm
theorem pc_is0 : PC M A h .Is .none .none t t true := fun _ _ _ _ _ q => is_none_none q
theorem pc_isnot0 : PC M A h .IsNot .none .none t t false := fun _ _ _ _ _ q => isnot_none_none q
theorem pc_isR {a : Addr} : PC M A h .Is (.ref a) .none t t false := fun _ _ _ _ _ q => is_ref_none q
theorem pc_isnotR {a : Addr} : PC M A h .IsNot (.ref a) .none t t true := fun _ _ _ _ _ q => isnot_ref_none q
theorem pc_isS {x : Str} {u : Tok} : PC M A h .Is (.str x u) .none t t false := fun _ _ _ _ _ q => is_str_none q
theorem pc_isnotS {x : Str} {u : Tok} : PC M A h .IsNot (.str x u) .none t t true := fun _ _ _ _ _ q => isnot_str_none q
theorem pt_and0 {pos : Pos} : PT M A env h (.BoolOp .And [] pos) t t true := fun _ _ _ _ _ q => isTrue_and_nil q
theorem pt_or0 {pos : Pos} : PT M A env h (.BoolOp .Or [] pos) t t false := fun _ _ _ _ _ q => isTrue_or_nil q
theorem allTrue_whole {op : BoolOp} {es : List PySem.Expr} {pos : Pos} {w1 w2 : Sem Value} : isTrue (.BoolOp op es pos) env w1 = isTrue (.BoolOp op es pos) env w2 := by rw [arm_isTrue_BoolOp, arm_isTrue_BoolOp]
theorem pt_andT {e : PySem.Expr} {es : List PySem.Expr} {pos : Pos} {b c : Bool} (p : PT M A env h e t t1 b) (hb : b = true) (r : PT M A env h (.BoolOp .And es pos) t1 t2 c) : PT M A env h (.BoolOp .And (e :: es) pos) t t2 c :=
 fun _ _ _ _ _ q => isTrue_and (p _ _ _ _ _ (by rw [if_pos hb, allTrue_whole (w2 := eval (.BoolOp .And es pos) env)]; exact r _ _ _ _ _ q))
theorem pt_andF {e : PySem.Expr} {es : List PySem.Expr} {pos : Pos} {b : Bool} (p : PT M A env h e t t1 b) (hb : b = false) : PT M A env h (.BoolOp .And (e :: es) pos) t t1 false :=
 fun _ _ _ _ _ q => isTrue_and (p _ _ _ _ _ (by rw [if_neg (by rw [hb]; exact Bool.false_ne_true)]; exact q))
theorem pt_orT {e : PySem.Expr} {es : List PySem.Expr} {pos : Pos} {b : Bool} (p : PT M A env h e t t1 b) (hb : b = true) : PT M A env h (.BoolOp .Or (e :: es) pos) t t1 true :=
 fun _ _ _ _ _ q => isTrue_or (p _ _ _ _ _ (by rw [if_pos hb]; exact q))
theorem pt_orF {e : PySem.Expr} {es : List PySem.Expr} {pos : Pos} {b c : Bool} (p : PT M A env h e t t1 b) (hb : b = false) (r : PT M A env h (.BoolOp .Or es pos) t1 t2 c) : PT M A env h (.BoolOp .Or (e :: es) pos) t t2 c :=
 fun _ _ _ _ _ q => isTrue_or (p _ _ _ _ _ (by rw [if_neg (by rw [hb]; exact Bool.false_ne_true), allTrue_whole (w2 := eval (.BoolOp .Or es pos) env)]; exact r _ _ _ _ _ q))
theorem pt_val {e : PySem.Expr} {b : Bool} (p : PE M A env h e t t1 (.bool b)) (he : isTrue e env (eval e env) = (do let v ← eval e env; standAt e.pos; holding [v] (truthy v))) : PT M A env h e t t1 b :=
 fun _ _ _ _ _ q => isTrue_plain (p _ _ _ _ _ (wpAny_truthy_bool q)) he
theorem pe_ifT {test body orelse : PySem.Expr} {pos : Pos} {b : Bool} {v : Value} (p : PT M A env h test t t1 b) (hb : b = true) (r : PE M A env h body t1 t2 v) : PE M A env h (.IfExp test body orelse pos) t t2 v :=
 fun _ _ _ _ _ q => IfExp_ (p _ _ _ _ _ (by rw [if_pos hb]; exact r _ _ _ _ _ q))
theorem pe_ifF {test body orelse : PySem.Expr} {pos : Pos} {b : Bool} {v : Value} (p : PT M A env h test t t1 b) (hb : b = false) (r : PE M A env h orelse t1 t2 v) : PE M A env h (.IfExp test body orelse pos) t t2 v :=
 fun _ _ _ _ _ q => IfExp_ (p _ _ _ _ _ (by rw [if_neg (by rw [hb]; exact Bool.false_ne_true)]; exact r _ _ _ _ _ q))
end
section
variable {prog : Program} {w : World} {A : Around} {h : Heap} {t : Nat}
theorem pc_eqs {x y : Str} {u1 u2 : Tok} : PC (model prog w) A h .Eq (.str x u1) (.str y u2) t t (x == y) := fun _ _ _ _ _ q => eq_str q
theorem pc_nes {x y : Str} {u1 u2 : Tok} : PC (model prog w) A h .NotEq (.str x u1) (.str y u2) t t (x != y) := fun _ _ _ _ _ q => ne_str q
theorem pc_eqb {x y : Bool} : PC (model prog w) A h .Eq (.bool x) (.bool y) t t (x == y) := fun _ _ _ _ _ q => eq_bool q
theorem pc_neb {x y : Bool} : PC (model prog w) A h .NotEq (.bool x) (.bool y) t t (x != y) := fun _ _ _ _ _ q => ne_bool q
end
section
variable {M : Model} {A : Around} {E : Value → Shared → Prop} {h gh : Heap} {L a : Addr} {m mg mb : Str → Option Value} {cn : Str} {cs : Scope} {ccd : Value} {cl : List (Str × Addr)} {news : List (Addr × Obj)} {t t' : Nat} {g : Array GenState} {d : Drawn} {o : OsState}
theorem fu_store {x : Str} {v : Value} {Q : Unit → Shared → Prop} (F : Fr gh L h m) (N : News gh L h news) (ok : okL cs x = true) (k : ∀ h', Fr gh L h' (upd m x v) → News gh L h' news → Q () ⟨h', g, d, t + 1, o⟩) :
  wpAny M A (storeName (envX cn cs L a ccd cl) x v) Q E ⟨h, g, d, t, o⟩ := let ⟨a1, a2, _⟩ := okL_ ok; storeX_L F N k a1 a2
theorem fu_set {x : Str} {p1 pos : Pos} {e : PySem.Expr} {rest : List Stmt} {v : Value} {Q : Flow → Shared → Prop} (p : PE M A (envX cn cs L a ccd cl) h e t t' v) (F : Fr gh L h m) (N : News gh L h news) (ok : okL cs x = true)
  (hs : swapsWith e (some (.Name x p1)) pos.line (envX cn cs L a ccd cl) = pure false) (k : ∀ h', Fr gh L h' (upd m x v) → News gh L h' news → wpAny M A (execs rest (envX cn cs L a ccd cl)) Q E ⟨h', g, d, t' + 1, o⟩) :
  wpAny M A (execs (.Assign [.Name x p1] e pos :: rest) (envX cn cs L a ccd cl)) Q E ⟨h, g, d, t, o⟩ :=
 wpAny_execs_cons (wpAny_Assign_Name (p _ _ _ _ _ (fu_store F N ok fun h' a b => k h' a b)) hs)
theorem fu_asg {x : Str} {p1 pos : Pos} {e : PySem.Expr} {rest : List Stmt} {env : Env} {s : Shared} {Q : Flow → Shared → Prop} (hs : swapsWith e (some (.Name x p1)) pos.line env = pure false)
  (k : wpAny M A (eval e env) (fun v s₁ => wpAny M A (storeName env x v) (fun _ s₂ => wpAny M A (execs rest env) Q E s₂) E s₁) E s) : wpAny M A (execs (.Assign [.Name x p1] e pos :: rest) env) Q E s :=
 wpAny_execs_cons (wpAny_Assign_Name k hs)
theorem fu_retX {e : PySem.Expr} {pos : Pos} {rest : List Stmt} {env : Env} {s : Shared} {Q : Flow → Shared → Prop} (k : wpAny M A (eval e env) (fun v => Q (.ret v)) E s) : wpAny M A (execs (.Return (some e) pos :: rest) env) Q E s := wpAny_execs_cons (wpAny_Return_some k)
theorem call_args {K : Frag} {f : Value} {first : List Value} {es : List PySem.Expr} {pos : Pos} {env : Env} {vs : List Value} {Q : Value → Shared → Prop} (X : K.In h) (hk : keepIn K f = true) (p : PEs M A env h es t t' vs) (k : wpAny M A (call f (first ++ vs)) Q E ⟨h, g, d, t', o⟩) :
  wpAny M A (callWith pos f first (backTo pos (starEach es env)) []) Q E ⟨h, g, d, t, o⟩ := by
 cases p with
 | nil => exact callWith_K0 X hk k
 | cons a b c =>
  refine callWith_K (h₀ := h) X hk (pes_use (.cons a b c) ⟨X, k⟩) (star_cons b) ?_
  clear k a b
  induction c with
  | nil => rfl
  | cons a b _ ih => rw [star_cons b]; exact ih
theorem fu_call {K : Frag} {pr : Program} {loose : List Str} {x : Str} {f : Addr} {es : List PySem.Expr} {p1 pos : Pos} {vs : List Value} {Q : Value → Shared → Prop} (F : Fr gh L h m) (X : K.In gh) (T : TopRead pr loose mg mb gh) (e : nsIn K mainGlobals x = some (some (.ref f))) (hk : keepIn K (.ref f) = true) (ok : okG cs x = true)
  (p : PEs M A (envX cn cs L a ccd cl) h es t t' vs) (he : eval (.Call (.Name x p1) es [] pos) (envX cn cs L a ccd cl) = (do callWith pos (← eval (.Name x p1) (envX cn cs L a ccd cl)) [] (backTo pos (starEach es (envX cn cs L a ccd cl))) (backToKw pos (keywordEach [] (envX cn cs L a ccd cl)))))
  (k : wpAny M A (call (.ref f) vs) Q E ⟨h, g, d, t', o⟩) : wpAny M A (eval (.Call (.Name x p1) es [] pos) (envX cn cs L a ccd cl)) Q E ⟨h, g, d, t, o⟩ :=
 Call_ (pe_gl F X T e ok _ _ _ _ _ (call_args (X.keeps F.keep) hk p k)) he
end
theorem fu_cret {M : Model} {A : Around} {env : Env} {rest : List Stmt} {Q : Flow → Shared → Prop} {E : Value → Shared → Prop} {s : Shared} {v : Value} (k : Q (.ret v) s) : Cont M A env rest Q E (.ret v) s := k
theorem bF_of {b : Bool} (h : ¬ b = true) : b = false := Bool.eq_false_iff.mpr h
section
variable {M : Model} {A : Around} {h gh : Heap} {L : Addr} {m : Str → Option Value} {t : Nat} {g : Array GenState} {d : Drawn} {o : OsState} {E : Value → Shared → Prop} {news : List (Addr × Obj)} {vs : List Value} {Q : Value → Shared → Prop}
theorem newTupleF (F : Fr gh L h m) (N : News gh L h news)
  (k : have D := h.objs.size; have h' := h.push { cls := .type "tuple", data := .seq vs.toArray }; Fr gh L h' m → News gh L h' ((D, ({ cls := .type "tuple", data := .seq vs.toArray } : Obj)) :: news) → (∀ p ∈ news, p.1 < D) → Q (.ref D) ⟨h', g, d, t, o⟩) (hz : vs.length ≤ sizeLine) : wpAny M A (newTuple vs) Q E ⟨h, g, d, t, o⟩ :=
 wpAny_newObj_type (k (F.push _) (N.push F _) fun p hp => Heap.lt_size (N p hp).1) (by show vs.toArray.size ≤ sizeLine; rw [List.size_toArray]; exact hz)
theorem newListF (F : Fr gh L h m) (N : News gh L h news)
  (k : have D := h.objs.size; have h' := h.push { cls := .type "list", data := .seq vs.toArray }; Fr gh L h' m → News gh L h' ((D, PySem.W.listOf vs.toArray 0) :: news) → (∀ p ∈ news, p.1 < D) → Q (.ref D) ⟨h', g, d, t, o⟩) (hz : vs.length ≤ sizeLine := by size_fits) : wpAny M A (newList vs) Q E ⟨h, g, d, t, o⟩ :=
 wpAny_newObj_type (k (F.push _) (N.push F _) fun p hp => Heap.lt_size (N p hp).1) (by show vs.toArray.size ≤ sizeLine; rw [List.size_toArray]; exact hz)
end
noncomputable def argM (ps : Arguments) (vs : List Value) : Str → Option Value := fun y => ((ps.args.map (·.arg)).zip vs).reverse.lookup y
theorem enterQ {prog : Program} {w : World} {A₀ A : Around} {s : Shared} {K : Frag} {L : Addr} {h₀ base : Heap} {m mg mb : Str → Option Value} {p : Program} {loose : List Str} {mean : ExcName → Option Value} {env : Env} {outer : List Env} {name qual : Str} {params : Arguments} {body : List Stmt} {scope : Scope} {dV kV doc pm cdv ct oc : Value} {an od : Option Addr} {osl : Array (Option Value)} {f : Addr} {vs : List Value} {binds : List (Str × Value)} {R : Result → Shared → Prop}
  (B : Below A₀ base outer h₀) (F : Fr h₀ L s.heap m) (X₀ : K.In h₀) (T : Top p loose mean mg mb h₀) (hA : A.frames = some (env :: outer)) (hf : env.frame = some L) (hke : env.scope.kind = .function)
  (ho : K.lookup f = some ⟨oc, od, .func (fnOf name qual params body scope dV kV doc pm an cdv ct), osl⟩) (hcd : codeIn K cdv qual = true) (hroom : A.depth < recursionLimit)
  (hbind : BindsTo s (fnOf name qual params body scope dV kV doc pm an cdv ct) ⟨vs, []⟩ binds) (hm : binds = (params.args.map (·.arg)).zip vs) (hloc : (binds.all fun x => decide (scope.names.lookup x.1 = some .local)) = true)
  (h : ∀ L' h₁ tk, Fr s.heap L' h₁ (argM params vs) → News s.heap L' h₁ [] → Below A base (env :: outer) s.heap → K.In s.heap → Top p loose mean mg mb s.heap →
   wpAny (model prog w) (A.deeper (envOf qual scope L' f cdv)) (execs body (envOf qual scope L' f cdv))
    (fun fl s' => LeaveK h₀ L m s.heap R (match fl with | .ret v => v | _ => .none) s')
    (fun e s' => wpAny (model prog w) (A.deeper (envOf qual scope L' f cdv)) (leaving (envOf qual scope L' f cdv) e) (fun _ s'' => R (.error e) s'') (fun e' s'' => R (.error e') s'') s')
    ⟨h₁, s.gens, s.drawn, tk, s.os⟩)
  (hco : (scope.isCoroutine || scope.isGenerator) = false) (hk : scope.kind = .function)
  (hcell : ∀ x ∈ scope.names, x.2 ≠ .cell) : codeAny (model prog w) A (.call (.ref f) ⟨vs, []⟩) R s := by
 subst hm
 obtain ⟨h1, h2⟩ := Bool.or_eq_false_iff.mp hco
 exact enterP B F X₀ T hA hf hke ho hcd hroom hbind (locs hloc) (fun L' h₁ F' N' B' X' T' => h L' h₁ _ F' N' B' X' T') h1 h2 hk hcell
theorem ne_all {a D : Addr} {o : Obj} {l : List (Addr × Obj)} (h : ∀ q ∈ l, q.1 < D) (m : (a, o) ∈ l) : a ≠ D := Nat.ne_of_lt (h _ m)
theorem ne_all2 {a D : Addr} {o : Obj} {l : List (Addr × Obj)} (h : ∀ q ∈ l, q.1 < D) (m : (a, o) ∈ l) : D ≠ a := Nat.ne_of_gt (h _ m)
def Far (l : List (Addr × Obj)) (D : Addr) : Prop := ∀ q ∈ l, @Ne Nat q.1 D
theorem ne_mem {a D : Addr} {o : Obj} {l : List (Addr × Obj)} (h : Far l D) (m : (a, o) ∈ l) : a ≠ D := h _ m
theorem ne_mem2 {a D : Addr} {o : Obj} {l : List (Addr × Obj)} (h : Far l D) (m : (a, o) ∈ l) : D ≠ a := fun e => h _ m e.symm
theorem far_sub {l l' : List (Addr × Obj)} {D : Addr} (h : Far l D) (s : ∀ p ∈ l', p ∈ l) : ∀ p ∈ l', @Ne Nat p.1 D := fun p hp => h p (s p hp)
theorem disc {P : Prop} (y : PLift P) (_ : False → False) : P := y.down
theorem neParams : Nonempty Params := ⟨by constructor <;> first | exact default | (intros; exact default)⟩
theorem neWorld : Nonempty World := neParams.elim fun p => ⟨⟨fun _ _ => 0, p⟩⟩
theorem neShared : Nonempty Shared := ⟨{}⟩
theorem neAround : Nonempty Around := ⟨{}⟩
theorem neDrawn : Nonempty Drawn := ⟨{}⟩
set_option genInjectivity false in
structure Pm where
 w : World
 p : Program
 loose : List Str
 mean : ExcName → Option Value
 mg : Str → Option Value
 mb : Str → Option Value
 A : Around
 A₀ : Around
 base : Heap
 h₀ : Heap
 outer : List Env
 env : Env
 L : Addr
 m : Str → Option Value
 s : Shared
 Q : Value → Shared → Prop
 E : Value → Shared → Prop
theorem nePm : Nonempty Pm := neWorld.elim fun w => ⟨⟨w, default, [], fun _ => none, fun _ => none, fun _ => none, {}, {}, default, default, [], default, 0, fun _ => none, {}, fun _ _ => True, fun _ _ => True⟩⟩
theorem nePr {α β : Type} (a : Nonempty α) (b : Nonempty β) : Nonempty (α × β) := a.elim fun x => b.elim fun y => ⟨(x, y)⟩
theorem neTy : Nonempty Ty := ⟨.u8⟩
theorem neModel : Nonempty Model := neWorld.elim fun w => ⟨model default w⟩
noncomputable def epG {α : Type} (i : Nonempty α) (R : α → Prop) : α := @Classical.epsilon α i fun c => ¬ R c
theorem clG {α : Type} {i : Nonempty α} {R : α → Prop} (h : R (epG i R)) (c : α) : R c := by
 by_cases hx : R c
 ·exact hx
 ·exact absurd h (@Classical.epsilon_spec α (fun c => ¬ R c) ⟨c, hx⟩)
set_option genInjectivity false in
structure Cl (T : Type) where
 Bt : Type
 ne : Nonempty Bt
 fn : T → Bt → Prop
 al : T → Prop
 ok : ∀ P, (∀ d, fn P d) → al P
abbrev Cl.all {T : Type} (s : Cl T) (P : T) : Prop := Cl.rec (motive := fun _ => Prop) (fun _ _ _ al _ => al P) s
noncomputable abbrev cZ : Cl Prop := ⟨Unit, ⟨()⟩, fun p _ => p, fun p => p, fun _ h => h ()⟩
noncomputable abbrev Cl.cons (α : Type) (i : Nonempty α) {T : Type} (s : Cl T) : Cl (α → T) := ⟨α × s.Bt, i.elim fun a => s.ne.elim fun b => ⟨(a, b)⟩, fun P d => s.fn (P d.1) d.2, fun P => ∀ x, s.all (P x), fun P h x => s.ok (P x) fun d => h (x, d)⟩
noncomputable def Cl.ep {T : Type} (s : Cl T) (P : T) : s.Bt := epG s.ne (s.fn P)
theorem clZ {T : Type} (s : Cl T) {P : T} (h : s.fn P (s.ep P)) : s.all P := s.ok P (clG h)
noncomputable def gZ0 {p : Prop} {d : Unit} (h : p) : cZ.fn p d := h
noncomputable def fZ8 {A0 A1 A2 A3 A4 A5 A6 A7 T : Type} {i0 : Nonempty A0} {i1 : Nonempty A1} {i2 : Nonempty A2} {i3 : Nonempty A3} {i4 : Nonempty A4} {i5 : Nonempty A5} {i6 : Nonempty A6} {i7 : Nonempty A7} {s : Cl T} {P : A0 → A1 → A2 → A3 → A4 → A5 → A6 → A7 → T} {d : A0 × A1 × A2 × A3 × A4 × A5 × A6 × A7 × s.Bt} (h : have c := d; have x0 := c.1; have x1 := c.2.1; have x2 := c.2.2.1; have x3 := c.2.2.2.1; have x4 := c.2.2.2.2.1; have x5 := c.2.2.2.2.2.1; have x6 := c.2.2.2.2.2.2.1; have x7 := c.2.2.2.2.2.2.2.1; s.fn (P x0 x1 x2 x3 x4 x5 x6 x7) c.2.2.2.2.2.2.2.2) : (Cl.cons A0 i0 (Cl.cons A1 i1 (Cl.cons A2 i2 (Cl.cons A3 i3 (Cl.cons A4 i4 (Cl.cons A5 i5 (Cl.cons A6 i6 (Cl.cons A7 i7 s)))))))).fn P d := h
noncomputable def gZ1 {A0 : Type} {i0 : Nonempty A0} {P : A0 → Prop} {d : A0 × Unit} (h : have c := d; have x0 := c.1; P x0) : (Cl.cons A0 i0 cZ).fn P d := h
noncomputable def gZ2 {A0 A1 : Type} {i0 : Nonempty A0} {i1 : Nonempty A1} {P : A0 → A1 → Prop} {d : A0 × A1 × Unit} (h : have c := d; have x0 := c.1; have x1 := c.2.1; P x0 x1) : (Cl.cons A0 i0 (Cl.cons A1 i1 cZ)).fn P d := h
noncomputable def gZ3 {A0 A1 A2 : Type} {i0 : Nonempty A0} {i1 : Nonempty A1} {i2 : Nonempty A2} {P : A0 → A1 → A2 → Prop} {d : A0 × A1 × A2 × Unit} (h : have c := d; have x0 := c.1; have x1 := c.2.1; have x2 := c.2.2.1; P x0 x1 x2) : (Cl.cons A0 i0 (Cl.cons A1 i1 (Cl.cons A2 i2 cZ))).fn P d := h
noncomputable def gZ4 {A0 A1 A2 A3 : Type} {i0 : Nonempty A0} {i1 : Nonempty A1} {i2 : Nonempty A2} {i3 : Nonempty A3} {P : A0 → A1 → A2 → A3 → Prop} {d : A0 × A1 × A2 × A3 × Unit} (h : have c := d; have x0 := c.1; have x1 := c.2.1; have x2 := c.2.2.1; have x3 := c.2.2.2.1; P x0 x1 x2 x3) : (Cl.cons A0 i0 (Cl.cons A1 i1 (Cl.cons A2 i2 (Cl.cons A3 i3 cZ)))).fn P d := h
noncomputable def gZ5 {A0 A1 A2 A3 A4 : Type} {i0 : Nonempty A0} {i1 : Nonempty A1} {i2 : Nonempty A2} {i3 : Nonempty A3} {i4 : Nonempty A4} {P : A0 → A1 → A2 → A3 → A4 → Prop} {d : A0 × A1 × A2 × A3 × A4 × Unit} (h : have c := d; have x0 := c.1; have x1 := c.2.1; have x2 := c.2.2.1; have x3 := c.2.2.2.1; have x4 := c.2.2.2.2.1; P x0 x1 x2 x3 x4) : (Cl.cons A0 i0 (Cl.cons A1 i1 (Cl.cons A2 i2 (Cl.cons A3 i3 (Cl.cons A4 i4 cZ))))).fn P d := h
noncomputable def gZ6 {A0 A1 A2 A3 A4 A5 : Type} {i0 : Nonempty A0} {i1 : Nonempty A1} {i2 : Nonempty A2} {i3 : Nonempty A3} {i4 : Nonempty A4} {i5 : Nonempty A5} {P : A0 → A1 → A2 → A3 → A4 → A5 → Prop} {d : A0 × A1 × A2 × A3 × A4 × A5 × Unit} (h : have c := d; have x0 := c.1; have x1 := c.2.1; have x2 := c.2.2.1; have x3 := c.2.2.2.1; have x4 := c.2.2.2.2.1; have x5 := c.2.2.2.2.2.1; P x0 x1 x2 x3 x4 x5) : (Cl.cons A0 i0 (Cl.cons A1 i1 (Cl.cons A2 i2 (Cl.cons A3 i3 (Cl.cons A4 i4 (Cl.cons A5 i5 cZ)))))).fn P d := h
noncomputable def gZ7 {A0 A1 A2 A3 A4 A5 A6 : Type} {i0 : Nonempty A0} {i1 : Nonempty A1} {i2 : Nonempty A2} {i3 : Nonempty A3} {i4 : Nonempty A4} {i5 : Nonempty A5} {i6 : Nonempty A6} {P : A0 → A1 → A2 → A3 → A4 → A5 → A6 → Prop} {d : A0 × A1 × A2 × A3 × A4 × A5 × A6 × Unit} (h : have c := d; have x0 := c.1; have x1 := c.2.1; have x2 := c.2.2.1; have x3 := c.2.2.2.1; have x4 := c.2.2.2.2.1; have x5 := c.2.2.2.2.2.1; have x6 := c.2.2.2.2.2.2.1; P x0 x1 x2 x3 x4 x5 x6) : (Cl.cons A0 i0 (Cl.cons A1 i1 (Cl.cons A2 i2 (Cl.cons A3 i3 (Cl.cons A4 i4 (Cl.cons A5 i5 (Cl.cons A6 i6 cZ))))))).fn P d := h
noncomputable def gZ8 {A0 A1 A2 A3 A4 A5 A6 A7 : Type} {i0 : Nonempty A0} {i1 : Nonempty A1} {i2 : Nonempty A2} {i3 : Nonempty A3} {i4 : Nonempty A4} {i5 : Nonempty A5} {i6 : Nonempty A6} {i7 : Nonempty A7} {P : A0 → A1 → A2 → A3 → A4 → A5 → A6 → A7 → Prop} {d : A0 × A1 × A2 × A3 × A4 × A5 × A6 × A7 × Unit} (h : have c := d; have x0 := c.1; have x1 := c.2.1; have x2 := c.2.2.1; have x3 := c.2.2.2.1; have x4 := c.2.2.2.2.1; have x5 := c.2.2.2.2.2.1; have x6 := c.2.2.2.2.2.2.1; have x7 := c.2.2.2.2.2.2.2.1; P x0 x1 x2 x3 x4 x5 x6 x7) : (Cl.cons A0 i0 (Cl.cons A1 i1 (Cl.cons A2 i2 (Cl.cons A3 i3 (Cl.cons A4 i4 (Cl.cons A5 i5 (Cl.cons A6 i6 (Cl.cons A7 i7 cZ)))))))).fn P d := h
noncomputable abbrev PmF (T : Type) := World → Program → List Str → (ExcName → Option Value) → (Str → Option Value) → (Str → Option Value) → Around → Around → Heap → Heap → List Env → Env → Addr → (Str → Option Value) → Shared → (Value → Shared → Prop) → (Value → Shared → Prop) → T
noncomputable abbrev cPm {T : Type} (gg : Cl T) : Cl (PmF T) := ⟨Pm × gg.Bt, nePm.elim fun a => gg.ne.elim fun b => ⟨(a, b)⟩, fun P d => gg.fn (P d.1.w d.1.p d.1.loose d.1.mean d.1.mg d.1.mb d.1.A d.1.A₀ d.1.base d.1.h₀ d.1.outer d.1.env d.1.L d.1.m d.1.s d.1.Q d.1.E) d.2, fun P => ∀ w p loose mean mg mb A A₀ base h₀ outer env L m s Q E, gg.all (P w p loose mean mg mb A A₀ base h₀ outer env L m s Q E), fun P h w p loose mean mg mb A A₀ base h₀ outer env L m s Q E => gg.ok (P w p loose mean mg mb A A₀ base h₀ outer env L m s Q E) fun d => h (⟨w, p, loose, mean, mg, mb, A, A₀, base, h₀, outer, env, L, m, s, Q, E⟩, d)⟩
noncomputable def fPm {T : Type} {gg : Cl T} {P : PmF T} {d : Pm × gg.Bt} (h : have c := d.1; have w := c.w; have p := c.p; have loose := c.loose; have mean := c.mean; have mg := c.mg; have mb := c.mb; have A := c.A; have A₀ := c.A₀; have base := c.base; have h₀ := c.h₀; have outer := c.outer; have env := c.env; have L := c.L; have m := c.m; have s := c.s; have Q := c.Q; have E := c.E; gg.fn (P w p loose mean mg mb A A₀ base h₀ outer env L m s Q E) d.2) : (cPm gg).fn P d := h
noncomputable abbrev Cl.N {T : Type} (s : Cl T) : Cl ((Nat) → T) := s.cons (Nat) ⟨0⟩
noncomputable abbrev Cl.H {T : Type} (s : Cl T) : Cl ((Heap) → T) := s.cons (Heap) ⟨default⟩
noncomputable abbrev Cl.V {T : Type} (s : Cl T) : Cl ((Value) → T) := s.cons (Value) ⟨.none⟩
noncomputable abbrev Cl.T {T : Type} (s : Cl T) : Cl ((Ty) → T) := s.cons (Ty) ⟨.u8⟩
noncomputable abbrev Cl.L {T : Type} (s : Cl T) : Cl ((List Value) → T) := s.cons (List Value) ⟨[]⟩
noncomputable abbrev Cl.O {T : Type} (s : Cl T) : Cl ((Obj) → T) := s.cons (Obj) ⟨default⟩
noncomputable abbrev Cl.P {T : Type} (s : Cl T) : Cl ((Addr → Prop) → T) := s.cons (Addr → Prop) ⟨fun _ => True⟩
noncomputable abbrev Cl.S {T : Type} (s : Cl T) : Cl ((PySem.Str) → T) := s.cons (PySem.Str) ⟨default⟩
noncomputable abbrev Cl.M {T : Type} (s : Cl T) : Cl ((PySem.Str → Option Value) → T) := s.cons (PySem.Str → Option Value) ⟨fun _ => none⟩
noncomputable abbrev Cl.I {T : Type} (s : Cl T) : Cl ((Int) → T) := s.cons (Int) ⟨0⟩
noncomputable abbrev Cl.p {T : Type} (s : Cl T) : Cl ((Pos) → T) := s.cons (Pos) ⟨default⟩
noncomputable abbrev Cl.l {T : Type} (s : Cl T) : Cl ((List (Addr × Obj)) → T) := s.cons (List (Addr × Obj)) ⟨[]⟩
noncomputable abbrev Cl.Q {T : Type} (s : Cl T) : Cl ((Value → Shared → Prop) → T) := s.cons (Value → Shared → Prop) ⟨fun _ _ => True⟩
noncomputable abbrev Cl.v {T : Type} (s : Cl T) : Cl ((Option Value) → T) := s.cons (Option Value) ⟨none⟩
noncomputable abbrev Cl.B {T : Type} (s : Cl T) : Cl ((Bool) → T) := s.cons (Bool) ⟨true⟩
noncomputable abbrev Cl.A {T : Type} (s : Cl T) : Cl ((Around) → T) := s.cons (Around) neAround
noncomputable abbrev Cl.s {T : Type} (s : Cl T) : Cl ((Shared) → T) := s.cons (Shared) neShared
noncomputable abbrev Cl.W {T : Type} (s : Cl T) : Cl ((World) → T) := s.cons (World) neWorld
noncomputable abbrev Cl.k {T : Type} (s : Cl T) : Cl ((List (PySem.Str × Value)) → T) := s.cons (List (PySem.Str × Value)) ⟨[]⟩
noncomputable abbrev Cl.R {T : Type} (s : Cl T) : Cl ((Program) → T) := s.cons (Program) ⟨default⟩
noncomputable abbrev Cl.E {T : Type} (s : Cl T) : Cl ((PySem.Expr) → T) := s.cons (PySem.Expr) ⟨default⟩
noncomputable abbrev Cl.b {T : Type} (s : Cl T) : Cl ((Option Bool) → T) := s.cons (Option Bool) ⟨none⟩
noncomputable abbrev Cl.t {T : Type} (s : Cl T) : Cl ((List PySem.Str) → T) := s.cons (List PySem.Str) ⟨[]⟩
noncomputable abbrev Cl.c {T : Type} (s : Cl T) : Cl ((Scope) → T) := s.cons (Scope) ⟨default⟩
noncomputable abbrev Cl.d {T : Type} (s : Cl T) : Cl ((List DictEntry) → T) := s.cons (List DictEntry) ⟨[]⟩
noncomputable abbrev Cl.g {T : Type} (s : Cl T) : Cl ((String) → T) := s.cons (String) ⟨""⟩
noncomputable abbrev Cl.e {T : Type} (s : Cl T) : Cl ((Env) → T) := s.cons (Env) ⟨default⟩
noncomputable abbrev Cl.a {T : Type} (s : Cl T) : Cl ((List (PySem.Str × Addr)) → T) := s.cons (List (PySem.Str × Addr)) ⟨[]⟩
noncomputable abbrev Cl.y {T : Type} (s : Cl T) : Cl ((Array Value) → T) := s.cons (Array Value) ⟨#[]⟩
noncomputable abbrev Cl.o {T : Type} (s : Cl T) : Cl ((Option Addr) → T) := s.cons (Option Addr) ⟨none⟩
noncomputable abbrev Cl.u {T : Type} (s : Cl T) : Cl ((List Ty) → T) := s.cons (List Ty) ⟨[]⟩
noncomputable abbrev Cl.x {T : Type} (s : Cl T) : Cl ((List Stmt) → T) := s.cons (List Stmt) ⟨[]⟩
noncomputable abbrev Cl.z {T : Type} (s : Cl T) : Cl ((List Env) → T) := s.cons (List Env) ⟨[]⟩
noncomputable abbrev Cl.F {T : Type} (s : Cl T) : Cl ((Flow → Shared → Prop) → T) := s.cons (Flow → Shared → Prop) ⟨fun _ _ => True⟩
noncomputable abbrev Cl.X {T : Type} (s : Cl T) : Cl ((ExcName → Option Value) → T) := s.cons (ExcName → Option Value) ⟨fun _ => none⟩
noncomputable abbrev Cl.U {T : Type} (s : Cl T) : Cl ((Unit → Shared → Prop) → T) := s.cons (Unit → Shared → Prop) ⟨fun _ _ => True⟩
noncomputable abbrev Cl.G {T : Type} (s : Cl T) : Cl ((Option Value → Shared → Prop) → T) := s.cons (Option Value → Shared → Prop) ⟨fun _ _ => True⟩
noncomputable abbrev Cl.D {T : Type} (s : Cl T) : Cl ((Model) → T) := s.cons (Model) neModel
noncomputable abbrev Cl.h {T : Type} (s : Cl T) : Cl ((List Addr) → T) := s.cons (List Addr) ⟨[]⟩
noncomputable abbrev Cl.Y {T : Type} (s : Cl T) : Cl ((Value → Value → Shared → Prop) → T) := s.cons (Value → Value → Shared → Prop) ⟨fun _ _ _ => True⟩
noncomputable abbrev Cl.Z {T : Type} (s : Cl T) : Cl ((Value → Unit → Shared → Prop) → T) := s.cons (Value → Unit → Shared → Prop) ⟨fun _ _ _ => True⟩
noncomputable abbrev Cl.m {T : Type} (s : Cl T) : Cl ((Stmt) → T) := s.cons (Stmt) ⟨default⟩
noncomputable abbrev Cl.C {T : Type} (s : Cl T) : Cl ((OsState) → T) := s.cons (OsState) ⟨default⟩
noncomputable abbrev Cl.i {T : Type} (s : Cl T) : Cl ((Option Obj) → T) := s.cons (Option Obj) ⟨none⟩
noncomputable abbrev Cl.j {T : Type} (s : Cl T) : Cl ((Nat → Obj → Prop) → T) := s.cons (Nat → Obj → Prop) ⟨fun _ _ => True⟩
noncomputable abbrev Cl.n {T : Type} (s : Cl T) : Cl ((Nat → (PySem.Str → Option Value) → List (Addr × Obj) → Prop) → T) := s.cons (Nat → (PySem.Str → Option Value) → List (Addr × Obj) → Prop) ⟨fun _ _ _ => True⟩
noncomputable abbrev Cl.f {T : Type} (s : Cl T) : Cl ((List Int) → T) := s.cons (List Int) ⟨[]⟩
noncomputable abbrev Cl.K {T : Type} (s : Cl T) : Cl ((List PySem.Expr) → T) := s.cons (List PySem.Expr) ⟨[]⟩
noncomputable abbrev Cl.q {T : Type} (s : Cl T) : Cl ((List ExceptHandler) → T) := s.cons (List ExceptHandler) ⟨[]⟩
noncomputable abbrev Cl.r {T : Type} (s : Cl T) : Cl ((List (String × Value)) → T) := s.cons (List (String × Value)) ⟨[]⟩
noncomputable abbrev Cl.J {T : Type} (s : Cl T) : Cl ((Drawn) → T) := s.cons (Drawn) neDrawn
noncomputable abbrev Cl.w {T : Type} (s : Cl T) : Cl ((Array GenState) → T) := s.cons (Array GenState) ⟨#[]⟩
noncomputable abbrev Cl.Da {T : Type} (s : Cl T) : Cl ((Data) → T) := s.cons (Data) ⟨.fields #[]⟩
noncomputable abbrev Cl.Sv {T : Type} (s : Cl T) : Cl ((Sem Value) → T) := s.cons (Sem Value) ⟨pure .none⟩
noncomputable abbrev Cl.Re {T : Type} (s : Cl T) : Cl ((Result → Shared → Prop) → T) := s.cons (Result → Shared → Prop) ⟨fun _ _ => True⟩
noncomputable abbrev Cl.Ar {T : Type} (s : Cl T) : Cl ((Args) → T) := s.cons (Args) ⟨⟨[], []⟩⟩
noncomputable abbrev Cl.Ao {T : Type} (s : Cl T) : Cl ((Array (Option Value)) → T) := s.cons (Array (Option Value)) ⟨#[]⟩
noncomputable abbrev Cl.Le {T : Type} (s : Cl T) : Cl ((List (Addr × Obj) → Nat → Value → Prop) → T) := s.cons (List (Addr × Obj) → Nat → Value → Prop) ⟨fun _ _ _ => True⟩
noncomputable abbrev Cl.Bs {T : Type} (s : Cl T) : Cl ((Bool → Shared → Prop) → T) := s.cons (Bool → Shared → Prop) ⟨fun _ _ => True⟩
example : True := by
 k_with "rv" =>
  (revert w p loose mean mg mb A A₀ base h₀ outer env L m s Q E)
 k_with "ld" =>
  (refine fPm ?_; intro c0 w p loose mean mg mb A A₀ base h₀ outer env L m s Q E)
 k_with "oC" =>
  (obtain ⟨B, F, X, T, hA, hf, hke, hh, hdp, hun⟩ := C)
 k_with "i0" =>
  (refine clZ cZ.N.H ?_; refine gZ2 ?_; intro zc h9 k9; clear_value h9 k9; clear zc; intro st9 F9)
 k_with "j0" =>
  (rcases List.mem_cons.mp hq with rfl | hq)
 k_with "k0" =>
  (refine clZ cZ.N.H.N ?_; refine gZ3 ?_; intro zc ar9 h9 k9; clear_value ar9 h9 k9; clear zc; intro st9 F9 ty9)
 k_with "l0" =>
  (have NM := news_one (ow := src) (o := PySem.W.listOf #[.int a9 t19, .int b9 t29] n9) NZ (by k_mem))
 k_with "m0" =>
  (have S7 := news_sub (l := restH s.heap L' [] h9) NZ (fun p hp => by repeat (first | exact List.mem_append_right _ hp | refine List.Mem.tail _ ?_)))
 k_with "n0" =>
  (repeat ((fail_if_success (with_reducible show wpAny _ _ (execs (Stmt.Return _ _ :: _) _) _ _ _)); k_extra "h0"))
 k_with "o0" =>
  (obtain ⟨B, F, X, T, hA, hf, hke, hh, hdp, hun⟩ := CC)
 k_with "p0" =>
  (refine wpAny_For (wpAny_mono h (fun xv s₁ h₁ => ?_) fun _ _ e => e) hs)
 k_with "q0" =>
  (refine clZ cZ.N.H.N ?_; refine gZ3 ?_; intro zc tk9 h9 k9; clear_value tk9 h9 k9; clear zc; intro st9 F9)
 k_with "r0" =>
  (refine clZ cZ.N.H.N.N.N.N.I.I.N ?_; refine fZ8 ?_; intro zc_0 i9 a9 b9 t19 t29 t39 n9 h9; clear_value i9 a9 b9 t19 t29 t39 n9 h9; refine gZ1 ?_; intro zc k9; clear_value k9; intro hr1 st9 F9 N9)
 k_with "s0" =>
  (refine clZ cZ.N.H.N.N.N.I.I.V.N ?_; refine fZ8 ?_; intro zc_0 i9 v9 a9 b9 t19 t29 n9 h9; clear_value i9 v9 a9 b9 t19 t29 n9 h9; refine gZ1 ?_; intro zc k9; clear_value k9; intro hi9 st9 F9 N9)
 k_with "t0" =>
  (have SN := news_sub (l := news) NZ (fun p hp => by repeat (first | exact List.mem_append_left _ hp | refine List.Mem.tail _ ?_)))
 k_with "u0" =>
  (rename News G0 L' _ (_ :: _) => NZ)
 k_with "v0" =>
  (rcases List.mem_cons.mp hp with rfl | hp)
 k_with "w0" =>
  (intro zc0_0 ck wo bd rd inf lo sc lp)
 k_with "x0" =>
  (clear_value ck wo bd rd inf lo sc lp)
 k_with "y0" =>
  (rename News s.heap L' _ (_ :: _) => NZ)
 k_with "z0" =>
  (revert dr9 esr9 nr9 xr9 yr9 hfr9; refine clZ cZ.N.d.N ?_; refine gZ3 ?_; intro zc dr9 esr9 nr9; clear_value dr9 esr9 nr9; clear zc; intro xr9 yr9 hfr9)
 k_with "i1" =>
  (revert dq9 esq9 nq9 xq9 yq9 hfq9; refine clZ cZ.N.d.N ?_; refine gZ3 ?_; intro zc dq9 esq9 nq9; clear_value dq9 esq9 nq9; clear zc; intro xq9 yq9 hfq9)
 k_with "j1" =>
  (refine clZ cZ.N.H.O.O.N.N.N.N.N.N.N.N ?_; refine fZ8 ?_; intro zc_0 wo9 a19 a29 ds9 dt9 li9 a39 a49; clear_value wo9 a19 a29 ds9 dt9 li9 a39 a49; refine gZ4 ?_; intro zc os9 ot9 h9 k9; clear_value os9 ot9 h9 k9; intro st9 F9 i9 f19 d19 z19 f29 d29 z29 f39 ne19)
 k_with "k1" =>
  (refine wpAny_comprehension_free (use := none) rfl hs hclos hkind hnames (wpAny_mono h (fun xv s₁ h₁ => ?_) fun _ _ e => e))
 k_with "l1" =>
  (rename News G _ _ (_ :: _) => NZ)
 k_with "m1" =>
  (revert ret B F X T hA hf hke hh hdp hun)
 k_with "n1" =>
  (refine clZ cZ.N.H.N.N ?_; refine gZ4 ?_; intro zc a9 n9 h9 k9; clear_value a9 n9 h9 k9; clear zc; intro st9 F9 x9)
 k_with "o1" =>
  (refine clZ cZ.N.H.N ?_; refine gZ3 ?_; intro zc wr9 h9 k9; clear_value wr9 h9 k9; clear zc; intro st9 F9 ty9)
 k_with "p1" =>
  (refine clZ cZ.N.H.N ?_; refine gZ3 ?_; intro zc e9 h9 k9; clear_value e9 h9 k9; clear zc; intro st9 F9 x9)
 k_with "q1" =>
  (rename Fr G0 L' _ _ => FZ)
 k_with "r1" =>
  (refine clZ cZ.N.H.N ?_; refine gZ3 ?_; intro zc r h1 tk1; clear_value r h1 tk1; clear zc; intro F1 ty1)
 k_with "s1" =>
  (refine clZ cZ.N.H.N.V.V.N.N ?_; refine gZ7 ?_; intro zc x3 l3 i0 i1 vo3 h3 tk3; clear_value x3 l3 i0 i1 vo3 h3 tk3; clear zc; intro st3 F3 n3 hl3 nl3 ti1 tvo3)
 k_with "t1" =>
  (rcases List.mem_cons.mp hm with rfl | hm)
 k_with "u1" =>
  (revert dg9 esg9 ng9 xg9 yg9 hfg9; refine clZ cZ.N.d.N ?_; refine gZ3 ?_; intro zc dg9 esg9 ng9; clear_value dg9 esg9 ng9; clear zc; intro xg9 yg9 hfg9)
 k_with "v1" =>
  (have NW := news_sub (l := _ :: news) NZ (List.forall_mem_cons.mpr ⟨.head _, fun p hp => by repeat (first | exact hp | refine List.Mem.tail _ ?_)⟩))
 k_with "w1" =>
  (rename Fr s.heap L' _ _ => FZ)
 k_with "x1" =>
  (rename News h₀ L _ _ => NX)
 k_with "y1" =>
  (revert d9 es9 n9 x9' y9' hf9; refine clZ cZ.N.d.N ?_; refine gZ3 ?_; intro zc d9 es9 n9; clear_value d9 es9 n9; clear zc; intro x9' y9' hf9)
 k_with "z1" =>
  (refine clZ cZ.N.H.O.N.N.N ?_; refine gZ6 ?_; intro zc a9 fd9 tk9 o9 h9 k9; clear_value a9 fd9 tk9 o9 h9 k9; clear zc; intro st9 F9 x9 y9 d9)
 k_with "i2" =>
  (exact ret _ [v] _ _ (Fr.keep ‹_›) ‹_› (News.isTup ‹_› (by k_mem)) (by k_extra "d1") (.cons (k.keeps (Fr.keep ‹_›)) .nil))
 k_with "zz" =>
  (intro nz; simpa using nzz nz ↑(Subtype.mk (p := fun _ => True) 5 trivial))
 k_with "cv" =>
  (conv => lhs; zeta; delta _root_.id fPm gZ0 fZ8 gZ1 gZ2 gZ3 gZ4 gZ5 gZ6 gZ7 gZ8)
 trivial
def SqAt (b : Bool) (h : Heap) (l : Addr) (xs : List Value) : Prop := match b with
 | true => h.IsList l xs.toArray
 | false => IsTup h l xs.toArray
def ItAt (b : Bool) (h : Heap) (i l : Addr) (k : Nat) : Prop := match b with
 | true => h.IsListIter i l k
 | false => h.IsTupleIter i l k
theorem SqAt.but {b : Bool} {h h' : Heap} {l c : Addr} {xs : List Value} (x : SqAt b h l xs) (e : Heap.ExtBut c h h') (n : l ≠ c) : SqAt b h' l xs := by
 cases b
 ·exact IsTup.extBut x e n
 ·exact Heap.IsList.extBut x e n
theorem ItAt.but {b : Bool} {h h' : Heap} {i l c : Addr} {k : Nat} (x : ItAt b h i l k) (e : Heap.ExtBut c h h') (n : i ≠ c) : ItAt b h' i l k := by
 cases b
 ·exact Heap.IsTupleIter.extBut x e n
 ·exact Heap.IsListIter.extBut x e n
theorem SqAt.keeps {b : Bool} {h h' : Heap} {l : Addr} {xs : List Value} (x : SqAt b h l xs) (k : ∀ c o, h.get? c = some o → h'.get? c = some o) : SqAt b h' l xs := by
 cases b
 ·exact IsTup.keeps x k
 ·exact (x : h.IsList l _).at fun o e => k _ o e
section
variable {prog : Program} {w : World} {A : Around} {E : Value → Shared → Prop} {s : Shared}
theorem nextTup_item {it l : Addr} {i : Nat} {items : Array Value} {x : Value} {Q : Value → Shared → Prop} (hit : s.heap.IsTupleIter it l i) (hl : IsTup s.heap l items) (hx : items[i]? = some x)
  (hQ : ∀ h', h'.IsTupleIter it l (i + 1) → Heap.SameBut it s.heap h' → Q x { s with heap := h' }) : wpAny (model prog w) A (Builtin.SmallTypes.nextOf (.ref it)) Q E s := by
 refine @disc _ ?y ?e
 case e =>
 haveI h : @Eq (PLift _) (PLift.up (by
 obtain ⟨o, ho, hc, hd⟩ := id hit
 obtain ⟨ol, hol, _, nl, hdl⟩ := hl
 rename_i u0_0
 revert hit hx hQ ho hc hd hol u0_0 hdl
 revert prog w A E s it l i items x Q o ol nl
 refine no_implicit_lambda% (clZ cZ.N.O.O.Q.V.y.N.N.N.s.Q.A.W.R ?_)
 refine fZ8 ?_
 intro zc0_0 prog w A E s it l i
 clear_value prog w A E s it l i
 refine gZ6 ?_
 intro zc0 items x Q o ol nl
 clear_value items x Q o ol nl
 intros hit hx hQ ho hc hd hol u0_0 hdl
 unfold Builtin.SmallTypes.nextOf
 refine wpAny_bind (wpAny_callSpecial?_slot (name := PySem.Str.ofString "__next__") hit.typeIs F.slot_tuple_iterator_next
  (wpAny_call_entry F.slot_tuple_iterator_next hit.typeIs F.entry_tuple_iterator_next ?_ (F.args_tuple_iterator_next_1 _)))
 show wpAny _ _ (field (.ref it) 0 >>= _) _ _ s
 refine wpAny_bind (wpAny_field ho hd (x := .ref l) rfl ?_)
 show wpAny _ _ (if (Value.ref l == Value.none) = true then _ else _) _ _ s
 rw [if_neg (show ¬ ((Value.ref l == Value.none) = true) from Bool.false_ne_true)]
 show wpAny _ _ (field (.ref it) 1 >>= _) _ _ s
 refine wpAny_bind (wpAny_field ho hd (x := .int i 0) rfl ?_)
 show wpAny _ _ (seqItems? (.ref l) >>= _) _ _ s
 refine wpAny_bind (wpAny_seqItems hol hdl ?_)
 simp only [Int.toNat_natCast, hx]
 refine wpAny_bind (wpAny_setField ho hd (by simp) (wpAny_pure ⟨x, rfl, wpAny_pure (hQ _ ?_ (Heap.SameBut.update ..))⟩))
 exact ⟨_, Heap.get?_update_self _ ho (Obj.isFreed_of_fields (Obj.data_mapFields hd _)), (Obj.cls_mapFields ..).trans hc, by
  rw [Obj.data_mapFields hd]; simp [rawInt]⟩)) ?y := by k_extra "cv"
 k_extra "zz"
theorem nextTup_end {it l : Addr} {i : Nat} {items : Array Value} {Q : Value → Shared → Prop} (hh : A.handled = none) (hit : s.heap.IsTupleIter it l i) (hl : IsTup s.heap l items) (hx : items[i]? = none)
  (hE : ∀ h' e, Heap.ExtBut it s.heap h' → (∃ o, h'.get? e = some o ∧ o.cls = .type "StopIteration") → E (.ref e) { s with heap := h' }) :
  wpAny (model prog w) A (Builtin.SmallTypes.nextOf (.ref it)) Q E s := by
 refine @disc _ ?y ?e
 case e =>
 haveI h : @Eq (PLift _) (PLift.up (by
 obtain ⟨o, ho, hc, hd⟩ := id hit
 obtain ⟨ol, hol, _, nl, hdl⟩ := hl
 rename_i u0_0
 revert hh hit hx hE ho hc hd hol u0_0 hdl
 revert prog w A E s it l i items Q o ol nl
 refine no_implicit_lambda% (clZ cZ.N.O.O.Q.y.N.N.N.s.Q.A.W.R ?_)
 refine fZ8 ?_
 intro zc0_0 prog w A E s it l i
 clear_value prog w A E s it l i
 refine gZ5 ?_
 intro zc0 items Q o ol nl
 clear_value items Q o ol nl
 intros hh hit hx hE ho hc hd hol u0_0 hdl
 unfold Builtin.SmallTypes.nextOf
 refine wpAny_bind (wpAny_callSpecial?_slot (name := PySem.Str.ofString "__next__") hit.typeIs F.slot_tuple_iterator_next
  (wpAny_call_entry F.slot_tuple_iterator_next hit.typeIs F.entry_tuple_iterator_next ?_ (F.args_tuple_iterator_next_1 _)))
 show wpAny _ _ (field (.ref it) 0 >>= _) _ _ s
 refine wpAny_bind (wpAny_field ho hd (x := .ref l) rfl ?_)
 show wpAny _ _ (if (Value.ref l == Value.none) = true then _ else _) _ _ s
 rw [if_neg (show ¬ ((Value.ref l == Value.none) = true) from Bool.false_ne_true)]
 show wpAny _ _ (field (.ref it) 1 >>= _) _ _ s
 refine wpAny_bind (wpAny_field ho hd (x := .int i 0) rfl ?_)
 show wpAny _ _ (seqItems? (.ref l) >>= _) _ _ s
 refine wpAny_bind (wpAny_seqItems hol hdl ?_)
 simp only [Int.toNat_natCast, hx]
 refine wpAny_bind (wpAny_rule (wpAny_bind (wpAny_setField ho hd (by simp) ?_)))
 show wpAny _ _ (newExc (.type "StopIteration") [] >>= _) _ _ _
 refine wpAny_bind ?_
 simp only [newExc, newTuple]
 refine wpAny_bind (wpAny_newObj_type ?_ (by size_fits))
 refine wpAny_bind (m := firstArgMember _ _) (wpAny_of_eq (a := Value.none) (by first | rfl | (simp only [firstArgMember]; rfl)) ?_)
 refine wpAny_newObj_type ?_ (by size_fits)
 simp only [raiseNew]
 refine wpAny_bind (wpAny_handled ?_)
 first | rw [show A.in1.handled = none from hh] | rw [hh]
 refine wpAny_bind (wpAny_pure (wpAny_throw ?_))
 exact hE _ _ (((Heap.SameBut.update ..).extBut.push _).push _) ⟨_, Heap.get?_push_size _ rfl, rfl⟩)) ?y := by k_extra "cv"
 k_extra "zz"
theorem nextSq_item {b : Bool} {it l : Addr} {i : Nat} {xs : List Value} {x : Value} {Q : Value → Shared → Prop} (hit : ItAt b s.heap it l i) (hl : SqAt b s.heap l xs) (hx : xs[i]? = some x)
  (hQ : ∀ h', ItAt b h' it l (i + 1) → Heap.SameBut it s.heap h' → Q x { s with heap := h' }) : wpAny (model prog w) A (Builtin.SmallTypes.nextOf (.ref it)) Q E s := by
 cases b
 ·exact nextTup_item hit hl (by simpa using hx) hQ
 ·exact wpAny_nextOf_list_item hit hl (by simpa using hx) hQ
theorem nextSq_end {b : Bool} {it l : Addr} {i : Nat} {xs : List Value} {Q : Value → Shared → Prop} (hh : A.handled = none) (hit : ItAt b s.heap it l i) (hl : SqAt b s.heap l xs) (hx : xs[i]? = none)
  (hE : ∀ h' e, Heap.ExtBut it s.heap h' → (∃ o, h'.get? e = some o ∧ o.cls = .type "StopIteration") → E (.ref e) { s with heap := h' }) :
  wpAny (model prog w) A (Builtin.SmallTypes.nextOf (.ref it)) Q E s := by
 cases b
 ·exact nextTup_end hh hit hl (by simpa using hx) hE
 ·exact wpAny_nextOf_list_end hh hit hl (by simpa using hx) hE
theorem iterSq {b : Bool} {l : Addr} {xs : List Value} {Q : Value → Shared → Prop} (hl : SqAt b s.heap l xs)
  (hQ : ∀ h', h' = s.heap.push { cls := .type (if b then "list_iterator" else "tuple_iterator"), data := .fields #[.ref l, .int 0 0] } → Q (.ref s.heap.objs.size) { s with heap := h' }) :
  wpAny (model prog w) A (pyIter (.ref l)) Q E s := by
 cases b
 ·exact wpAny_pyIter_tuple hl (hQ _ rfl)
 ·exact wpAny_pyIter_list hl (hQ _ rfl)
end
noncomputable abbrev itObj (b : Bool) (l : Addr) : Obj := { cls := .type (if b then "list_iterator" else "tuple_iterator"), data := .fields #[.ref l, .int 0 0] }
noncomputable abbrev zH1 (b : Bool) (h : Heap) (l : Addr) : Heap := h.push (itObj b l)
noncomputable abbrev zH2 (b c : Bool) (h : Heap) (l k : Addr) : Heap := (zH1 b h l).push (itObj c k)
noncomputable abbrev zH3 (b c : Bool) (h : Heap) (l k : Addr) : Heap := (zH2 b c h l k).push { cls := .type "tuple", data := .seq #[.ref h.objs.size, .ref (zH1 b h l).objs.size] }
noncomputable abbrev zH4 (b c : Bool) (h : Heap) (l k : Addr) : Heap := (zH3 b c h l k).push { cls := .type "tuple", data := .seq #[.none, .none] }
noncomputable abbrev zH5 (b c : Bool) (h : Heap) (l k : Addr) : Heap := (zH4 b c h l k).push { cls := .type "zip", data := .fields #[.none, .bool false, .bool false, .ref (zH2 b c h l k).objs.size, .ref (zH3 b c h l k).objs.size] }
theorem SqAt.push {b : Bool} {h : Heap} {l : Addr} {xs : List Value} (x : SqAt b h l xs) (o : Obj) : SqAt b (h.push o) l xs := x.keeps fun _ _ e => Heap.get?_push_of_some _ e
theorem meets_zipSq (b c : Bool) (l1 l2 : Addr) (xs ys : List Value) :
  Meets (Builtin.«zip.__new__» ⟨[.type "zip", .ref l1, .ref l2], []⟩) (fun _ R s => SqAt b s.heap l1 xs ∧ SqAt c s.heap l2 ys ∧
   R (.ok (.ret (.ref (zH4 b c s.heap l1 l2).objs.size))) { s with heap := zH5 b c s.heap l1 l2 }) :=
 .of_wp fun prog w A R s h => by
  obtain ⟨hp, g, d, tk, os⟩ := s; obtain ⟨hl1, hl2, h⟩ := h
  have hsub := sub_zip
  have r1 : ∀ {A : Around} {Q : Value → Shared → Prop} {E : Value → Shared → Prop}, Q (.ref hp.objs.size) ⟨zH1 b hp l1, g, d, tk, os⟩ → wpAny (model prog w) A (pyIter (.ref l1)) Q E ⟨hp, g, d, tk, os⟩ := fun q => iterSq (b := b) (xs := xs) hl1 fun h' e => by subst e; exact q
  have r2 : ∀ {A : Around} {Q : Value → Shared → Prop} {E : Value → Shared → Prop}, Q (.ref (zH1 b hp l1).objs.size) ⟨zH2 b c hp l1 l2, g, d, tk, os⟩ → wpAny (model prog w) A (pyIter (.ref l2)) Q E ⟨zH1 b hp l1, g, d, tk, os⟩ := fun q => iterSq (b := c) (xs := ys) (hl2.push _) fun h' e => by subst e; exact q
  repeat (first | with_reducible apply r1 | with_reducible apply r2 | k_extra "ws")
  exact ⟨_, rfl, h⟩
section
variable {prog : Program} {w : World} {A : Around} {E : Value → Shared → Prop} {s : Shared}
theorem call_zipSq {b c : Bool} {l1 l2 : Addr} {xs ys : List Value} {Q : Value → Shared → Prop} (hl1 : SqAt b s.heap l1 xs) (hl2 : SqAt c s.heap l2 ys)
  (h : ∀ h', IsZip h' (s.heap.objs.size + 4) (s.heap.objs.size + 2) (s.heap.objs.size + 3) .none → IsPair h' (s.heap.objs.size + 2) (.ref s.heap.objs.size) (.ref (s.heap.objs.size + 1)) →
   IsPair h' (s.heap.objs.size + 3) .none .none → h'.get? s.heap.objs.size = some (itObj b l1) → h'.get? (s.heap.objs.size + 1) = some (itObj c l2) → h'.objs.size = s.heap.objs.size + 5 →
   s.heap.StaysIn h' → Q (.ref (s.heap.objs.size + 4)) { s with heap := h' }) :
  wpAny (model prog w) A (call (.type "zip") [.ref l1, .ref l2]) Q E s := by
 refine callType_new F.called_zip (by decide) (F.typeCall_zip_2 _ _) (F.newCall_zip_2 _ _) (fun obj => F.args_object_init_3 obj _ _) F.entry_zip_new
  (meets_zipSq b c l1 l2 xs ys) ⟨hl1, hl2, ?_⟩
 have z1 : (zH1 b s.heap l1).objs.size = s.heap.objs.size + 1 := Heap.size_push ..
 have z2 : (zH2 b c s.heap l1 l2).objs.size = s.heap.objs.size + 2 := by rw [Heap.size_push, z1]
 have z3 : (zH3 b c s.heap l1 l2).objs.size = s.heap.objs.size + 3 := by rw [Heap.size_push, z2]
 have z4 : (zH4 b c s.heap l1 l2).objs.size = s.heap.objs.size + 4 := by rw [Heap.size_push, z3]
 have z5 : (zH5 b c s.heap l1 l2).objs.size = s.heap.objs.size + 5 := by rw [Heap.size_push, z4]
 have up : ∀ a o, (zH1 b s.heap l1).get? a = some o → (zH5 b c s.heap l1 l2).get? a = some o := fun a o e => Heap.get?_push_of_some _ (Heap.get?_push_of_some _ (Heap.get?_push_of_some _ (Heap.get?_push_of_some _ e)))
 have up2 : ∀ a o, (zH2 b c s.heap l1 l2).get? a = some o → (zH5 b c s.heap l1 l2).get? a = some o := fun a o e => Heap.get?_push_of_some _ (Heap.get?_push_of_some _ (Heap.get?_push_of_some _ e))
 have g1 : (zH5 b c s.heap l1 l2).get? s.heap.objs.size = some (itObj b l1) := up _ _ (Heap.get?_push_size _ rfl)
 have g2 : (zH5 b c s.heap l1 l2).get? (zH1 b s.heap l1).objs.size = some (itObj c l2) := up2 _ _ (Heap.get?_push_size _ rfl)
 rw [z1] at g2
 have g3 : (zH5 b c s.heap l1 l2).get? (zH2 b c s.heap l1 l2).objs.size = some _ := Heap.get?_push_of_some _ (Heap.get?_push_of_some _ (Heap.get?_push_size _ rfl))
 have g4 : (zH5 b c s.heap l1 l2).get? (zH3 b c s.heap l1 l2).objs.size = some _ := Heap.get?_push_of_some _ (Heap.get?_push_size _ rfl)
 have g5 : (zH5 b c s.heap l1 l2).get? (zH4 b c s.heap l1 l2).objs.size = some _ := Heap.get?_push_size _ rfl
 show _ ∧ _
 rw [z4, z2, z3] at g5
 rw [z2, z1] at g3
 rw [z3] at g4
 rw [z4]
 exact ⟨⟨_, g5, rfl⟩, h _ g5 g3 g4 g1 g2 z5 fun a o x => up _ _ (Heap.get?_push_of_some _ x)⟩
structure ZA (z TI TO i1 i2 l1 l2 : Nat) : Prop where
 a1 : i1 < i2
 a2 : i2 < TI
 a3 : TI < TO
 a4 : TO < z
 a5 : l1 < i1
 a6 : l2 < i1
section
variable {z TI TO i1 i2 l1 l2 : Nat} (D : ZA z TI TO i1 i2 l1 l2)
include D
theorem ZA.t1 : i1 < TI := Nat.lt_trans D.a1 D.a2
theorem ZA.t2 : i2 < TO := Nat.lt_trans D.a2 D.a3
theorem ZA.t3 : TI < z := Nat.lt_trans D.a3 D.a4
theorem ZA.t4 : i1 < TO := Nat.lt_trans D.t1 D.a3
theorem ZA.t5 : i2 < z := Nat.lt_trans D.t2 D.a4
theorem ZA.t6 : i1 < z := Nat.lt_trans D.t4 D.a4
theorem ZA.below {c : Nat} (h : c < i1) : c ≠ z ∧ c ≠ TO ∧ c ≠ i1 ∧ c ≠ i2 := ⟨Nat.ne_of_lt (Nat.lt_trans h D.t6), Nat.ne_of_lt (Nat.lt_trans h D.t4), Nat.ne_of_lt h, Nat.ne_of_lt (Nat.lt_trans h D.a1)⟩
end
theorem zip_first {b c : Bool} {z TI TO i1 i2 l1 l2 : Nat} {k1 k2 : Nat} {xs ys : List Value} {x y a d : Value} {Q : Option Value → Shared → Prop} (D : ZA z TI TO i1 i2 l1 l2)
  (hz : IsZip s.heap z TI TO .none) (hTI : IsPair s.heap TI (.ref i1) (.ref i2)) (hTO : IsPair s.heap TO a d)
  (h1 : ItAt b s.heap i1 l1 k1) (h2 : ItAt c s.heap i2 l2 k2) (hl1 : SqAt b s.heap l1 xs) (hl2 : SqAt c s.heap l2 ys) (hx : xs[k1]? = some x) (hy : ys[k2]? = some y)
  (hQ : ∀ h', IsZip h' z TI TO (rawInt s.heap.objs.size) → IsPair h' TO x y → ItAt b h' i1 l1 (k1 + 1) → ItAt c h' i2 l2 (k2 + 1) → IsPair h' s.heap.objs.size x y → h'.objs.size = s.heap.objs.size + 1 →
   (∀ c o, c ≠ z → c ≠ TO → c ≠ i1 → c ≠ i2 → s.heap.get? c = some o → h'.get? c = some o) → Q (some (.ref s.heap.objs.size)) { s with heap := h' }) :
  wpAny (model prog w) A (pyNext (.ref z)) Q E s := by
 refine @disc _ ?y ?e
 case e =>
 haveI h : @Eq (PLift _) (PLift.up (by
 revert D hz hTI hTO h1 h2 hl1 hl2 hx hy hQ
 revert prog w A E s b c z TI TO i1 i2 l1 l2 k1 k2 xs ys x y a d Q
 refine no_implicit_lambda% (clZ cZ.G.V.V.V.V.L.L.N.N.N.N.N.N.N.N.N.B.B.s.Q.A.W.R ?_)
 refine fZ8 ?_
 intro zc0_0 prog w A E s b c z
 clear_value prog w A E s b c z
 refine fZ8 ?_
 intro zc0_1 TI TO i1 i2 l1 l2 k1 k2
 clear_value TI TO i1 i2 l1 l2 k1 k2
 refine gZ7 ?_
 intro zc0 xs ys x y a d Q
 clear_value xs ys x y a d Q
 intros D hz hTI hTO h1 h2 hl1 hl2 hx hy hQ
 have n1 : i1 ≠ z := Nat.ne_of_lt D.t6
 have n2 : i2 ≠ z := Nat.ne_of_lt D.t5
 have n3 : TO ≠ z := Nat.ne_of_lt D.a4
 have n4 : TO ≠ i1 := Nat.ne_of_gt D.t4
 have n5 : TO ≠ i2 := Nat.ne_of_gt D.t2
 have n6 : i1 ≠ i2 := Nat.ne_of_lt D.a1
 have n7 : l1 ≠ z := (D.below D.a5).1
 have n8 : l2 ≠ z := (D.below D.a6).1
 have n9 : l2 ≠ i1 := (D.below D.a6).2.2.1
 have n10 : l2 ≠ TO := (D.below D.a6).2.1
 have hT : s.TypeIs (.ref z) "zip" := ⟨_, hz, rfl⟩
 unfold pyNext
 refine wpAny_bind (wpAny_attempt (wpAny_callSpecial?_slot (name := PySem.Str.ofString "__next__") hT F.slot_zip_next
  (wpAny_call_entry F.slot_zip_next hT F.entry_zip_next ?_ (F.args_zip_next_1 _))))
 show wpAny _ _ (field (.ref z) 2 >>= _) _ _ _
 refine wpAny_bind (wpAny_field hz rfl (x := .bool false) rfl ?_)
 show wpAny _ _ (field (.ref z) 3 >>= _) _ _ _
 refine wpAny_bind (wpAny_field hz rfl (x := .ref TI) rfl ?_)
 refine wpAny_bind (wpAny_seqItems hTI rfl ?_)
 show wpAny _ _ (Builtin.SmallTypes.ownedTupleIsFree (.ref z) >>= _) _ _ _
 refine wpAny_bind ?_
 unfold Builtin.SmallTypes.ownedTupleIsFree
 refine wpAny_bind (wpAny_field hz rfl (x := .none) rfl (wpAny_pure ?_))
 simp only [if_true]
 refine wpAny_bind (wpAny_rule ?_)
 refine wpAny_bind (wpAny_field hz rfl (x := .ref TO) rfl ?_)
 refine wpAny_bind (wpAny_setField_rec hz (by simp) fun h₁ hz₁ hs₁ => ?_)
 replace hz₁ : IsZip h₁ z TI TO .ellipsis := hz₁
 refine wpAny_bind ?_
 simp only [List.zipIdx_cons, List.zipIdx_nil, List.forIn_cons, List.forIn_nil]
 refine wpAny_bind (wpAny_bind (wpAny_onRaise ?_))
 show wpAny _ _ (Builtin.SmallTypes.nextOf (.ref i1) >>= _) _ _ _
 refine wpAny_bind (nextSq_item (h1.but hs₁.extBut n1) (hl1.but hs₁.extBut n7) hx fun h₂ h1₂ hs₂ => wpAny_pure ?_)
 have hTO₂ : IsPair h₂ TO a d := hs₂.extBut _ _ n4 (hs₁.extBut _ _ n3 hTO)
 refine wpAny_bind (wpAny_seqItems hTO₂ rfl ?_)
 refine wpAny_bind (wpAny_updateSeq_pair hTO₂ fun h₃ hTO₃ hs₃ => ?_)
 replace hTO₃ : IsPair h₃ TO x d := hTO₃
 refine wpAny_bind (wpAny_letGo (wpAny_pure ?_))
 refine wpAny_bind (wpAny_bind (wpAny_onRaise ?_))
 show wpAny _ _ (Builtin.SmallTypes.nextOf (.ref i2) >>= _) _ _ _
 refine wpAny_bind (nextSq_item (((h2.but hs₁.extBut n2).but hs₂.extBut n6.symm).but hs₃.extBut n5.symm)
  (((hl2.but hs₁.extBut n8).but hs₂.extBut n9).but hs₃.extBut n10) hy fun h₄ h2₄ hs₄ => wpAny_pure ?_)
 have hTO₄ : IsPair h₄ TO x d := hs₄.extBut _ _ n5 hTO₃
 refine wpAny_bind (wpAny_seqItems hTO₄ rfl ?_)
 refine wpAny_bind (wpAny_updateSeq_pair hTO₄ fun h₅ hTO₅ hs₅ => ?_)
 replace hTO₅ : IsPair h₅ TO x y := hTO₅
 refine wpAny_bind (wpAny_letGo (wpAny_pure (wpAny_pure ?_)))
 refine wpAny_bind (wpAny_seqItems hTO₅ rfl ?_)
 refine wpAny_bind (wpAny_newTuple ?_)
 have hsz : h₅.objs.size = s.heap.objs.size := by rw [hs₅.1, hs₄.1, hs₃.1, hs₂.1, hs₁.1]
 have hz₅ : IsZip h₅ z TI TO .ellipsis := hs₅.extBut _ _ n3.symm (hs₄.extBut _ _ n2.symm (hs₃.extBut _ _ n3.symm (hs₂.extBut _ _ n1.symm hz₁)))
 have hk₅ : ∀ c o, c ≠ z → c ≠ TO → c ≠ i1 → c ≠ i2 → s.heap.get? c = some o → h₅.get? c = some o := fun c o c1 c2 c3 c4 e =>
  hs₅.extBut _ _ c2 (hs₄.extBut _ _ c4 (hs₃.extBut _ _ c2 (hs₂.extBut _ _ c3 (hs₁.extBut _ _ c1 e))))
 have h1₅ : ItAt b h₅ i1 l1 (k1 + 1) := ((h1₂.but hs₃.extBut n4.symm).but hs₄.extBut n6).but hs₅.extBut n4.symm
 have h2₅ : ItAt c h₅ i2 l2 (k2 + 1) := h2₄.but hs₅.extBut n5.symm
 have hzlt : z < h₅.objs.size := Heap.lt_size hz₅
 show wpAny _ _ (Builtin.SmallTypes.ownedTupleHandOut (.ref z) (.ref h₅.objs.size) >>= _) _ _ _
 refine wpAny_bind ?_
 unfold Builtin.SmallTypes.ownedTupleHandOut
 have hz₆ : IsZip (h₅.push { cls := .type "tuple", data := .seq #[x, y] }) z TI TO .ellipsis := Heap.get?_push_of_some _ hz₅
 refine wpAny_bind (wpAny_setField_rec hz₆ (by simp) fun h₇ hz₇ hs₇ => ?_)
 replace hz₇ : IsZip h₇ z TI TO (rawInt h₅.objs.size) := hz₇
 refine wpAny_setField_rec hz₇ (by simp) fun h₈ hz₈ hs₈ => ?_
 replace hz₈ : IsZip h₈ z TI TO (rawInt h₅.objs.size) := hz₈
 have up : ∀ c o, c ≠ z → h₅.get? c = some o → h₈.get? c = some o := fun c o c1 e => hs₈.extBut _ _ c1 (hs₇.extBut _ _ c1 (Heap.get?_push_of_some _ e))
 have hT₈ : IsPair h₈ h₅.objs.size x y := hs₈.extBut _ _ (Nat.ne_of_gt hzlt) (hs₇.extBut _ _ (Nat.ne_of_gt hzlt) (Heap.get?_push_size _ rfl))
 have hz8 : h₈.objs.size = h₅.objs.size + 1 := by rw [hs₈.1, hs₇.1, Heap.size_push]
 have E₈ : Heap.ExtBut z h₅ h₈ := fun c o c1 e => up c o c1 e
 have j1 := h1₅.but E₈ n1
 have j2 := h2₅.but E₈ n2
 rw [hsz] at hz₈ hT₈ hz8
 refine wpAny_pure ⟨_, rfl, wpAny_pure ?_⟩
 show Q (some (.ref h₅.objs.size)) _
 rw [hsz]
 exact hQ h₈ hz₈ (up _ _ n3 hTO₅) j1 j2 hT₈ hz8 fun c o c1 c2 c3 c4 e => up c o c1 (hk₅ c o c1 c2 c3 c4 e))) ?y := by k_extra "cv"
 k_extra "zz"
theorem zip_last {b c : Bool} {z TI TO i1 i2 l1 l2 : Nat} {k1 : Nat} {xs : List Value} {Q : Option Value → Shared → Prop} (hh : A.handled = none) (D : ZA z TI TO i1 i2 l1 l2)
  (hz : IsZip s.heap z TI TO .none) (hTI : IsPair s.heap TI (.ref i1) (.ref i2)) (h1 : ItAt b s.heap i1 l1 k1) (hl1 : SqAt b s.heap l1 xs) (hx : xs[k1]? = none)
  (hQ : ∀ h', (∀ c o, c ≠ z → c ≠ i1 → s.heap.get? c = some o → h'.get? c = some o) → Q none { s with heap := h' }) :
  wpAny (model prog w) A (pyNext (.ref z)) Q E s := by
 refine @disc _ ?y ?e
 case e =>
 haveI h : @Eq (PLift _) (PLift.up (by
 revert hh D hz hTI h1 hl1 hx hQ
 revert prog w A E s b c z TI TO i1 i2 l1 l2 k1 xs Q
 refine no_implicit_lambda% (clZ cZ.G.L.N.N.N.N.N.N.N.N.B.B.s.Q.A.W.R ?_)
 refine fZ8 ?_
 intro zc0_0 prog w A E s b c z
 clear_value prog w A E s b c z
 refine fZ8 ?_
 intro zc0_1 TI TO i1 i2 l1 l2 k1 xs
 clear_value TI TO i1 i2 l1 l2 k1 xs
 refine gZ1 ?_
 intro zc0 Q
 clear_value Q
 intros hh D hz hTI h1 hl1 hx hQ
 have n1 : i1 ≠ z := Nat.ne_of_lt D.t6
 have n7 : l1 ≠ z := (D.below D.a5).1
 have hT : s.TypeIs (.ref z) "zip" := ⟨_, hz, rfl⟩
 unfold pyNext
 refine wpAny_bind (wpAny_attempt (wpAny_callSpecial?_slot (name := PySem.Str.ofString "__next__") hT F.slot_zip_next
  (wpAny_call_entry F.slot_zip_next hT F.entry_zip_next ?_ (F.args_zip_next_1 _))))
 show wpAny _ _ (field (.ref z) 2 >>= _) _ _ _
 refine wpAny_bind (wpAny_field hz rfl (x := .bool false) rfl ?_)
 show wpAny _ _ (field (.ref z) 3 >>= _) _ _ _
 refine wpAny_bind (wpAny_field hz rfl (x := .ref TI) rfl ?_)
 refine wpAny_bind (wpAny_seqItems hTI rfl ?_)
 show wpAny _ _ (Builtin.SmallTypes.ownedTupleIsFree (.ref z) >>= _) _ _ _
 refine wpAny_bind ?_
 unfold Builtin.SmallTypes.ownedTupleIsFree
 refine wpAny_bind (wpAny_field hz rfl (x := .none) rfl (wpAny_pure ?_))
 simp only [if_true]
 refine wpAny_bind (wpAny_rule ?_)
 refine wpAny_bind (wpAny_field hz rfl (x := .ref TO) rfl ?_)
 refine wpAny_bind (wpAny_setField_rec hz (by simp) fun h₁ hz₁ hs₁ => ?_)
 replace hz₁ : IsZip h₁ z TI TO .ellipsis := hz₁
 refine wpAny_bind ?_
 simp only [List.zipIdx_cons, List.zipIdx_nil, List.forIn_cons, List.forIn_nil]
 refine wpAny_bind (wpAny_bind (wpAny_onRaise ?_))
 show wpAny _ _ (Builtin.SmallTypes.nextOf (.ref i1) >>= _) _ _ _
 refine wpAny_bind (nextSq_end (by first | exact hh | (show A.handled = none; exact hh)) (h1.but hs₁.extBut n1) (hl1.but hs₁.extBut n7) hx fun h₂ e hs₂ he => ?_)
 obtain ⟨oe, hoe, hce⟩ := he
 have hz₂ : IsZip h₂ z TI TO .ellipsis := hs₂ _ _ n1.symm hz₁
 have hez : e ≠ z := fun x => by subst x; rw [hz₂] at hoe; cases hoe; simp at hce
 refine wpAny_setField_rec hz₂ (by simp) fun h₃ _ hs₃ => ?_
 refine wpAny_bind (wpAny_isInstance (T := "StopIteration") (b := true) ⟨oe, hs₃.extBut _ _ hez hoe, hce⟩ isSubtype_stop ?_)
 exact wpAny_pure (hQ h₃ fun c o c1 c3 x => hs₃.extBut _ _ c1 (hs₂ _ _ c3 (hs₁.extBut _ _ c1 x))))) ?y := by k_extra "cv"
 k_extra "zz"
end
theorem zip_no_len : typeLookup (.type "zip") "__len__" = pure none := by rw [typeLookup_type, builtinLookup_eq_fast]; kernel_rfl
theorem zip_no_hint : typeLookup (.type "zip") "__length_hint__" = pure none := by rw [typeLookup_type, builtinLookup_eq_fast]; kernel_rfl
section
variable {prog : Program} {w : World} {A : Around} {E : Value → Shared → Prop} {s : Shared}
theorem list_zip0 {b : Bool} {z TI TO i1 i2 l1 l2 : Nat} {k1 : Nat} {xs : List Value} {Q : Value → Shared → Prop} (hh : A.handled = none) (D : ZA z TI TO i1 i2 l1 l2)
  (hz : IsZip s.heap z TI TO .none) (hTI : IsPair s.heap TI (.ref i1) (.ref i2)) (h1 : ItAt b s.heap i1 l1 k1) (hl1 : SqAt b s.heap l1 xs) (hx : xs[k1]? = none)
  (hQ : ∀ h' n, (∀ c o, c ≠ z → c ≠ i1 → s.heap.get? c = some o → h'.get? c = some o) → h'.get? s.heap.objs.size = some (listOf #[] n) → Q (.ref s.heap.objs.size) { s with heap := h' }) :
  wpAny (model prog w) A (call (.type "list") [.ref z]) Q E s := by
 refine @disc _ ?y ?e
 case e =>
 haveI h : @Eq (PLift _) (PLift.up (by
 revert hh D hz hTI h1 hl1 hx hQ
 revert prog w A E s b z TI TO i1 i2 l1 l2 k1 xs Q
 refine no_implicit_lambda% (clZ cZ.Q.L.N.N.N.N.N.N.N.N.B.s.Q.A.W.R ?_)
 refine fZ8 ?_
 intro zc0_0 prog w A E s b z TI
 clear_value prog w A E s b z TI
 refine gZ8 ?_
 intro zc0 TO i1 i2 l1 l2 k1 xs Q
 clear_value TO i1 i2 l1 l2 k1 xs Q
 intros hh D hz hTI h1 hl1 hx hQ
 have hzn : s.heap.objs.size ≠ z := Nat.ne_of_gt (Heap.lt_size hz)
 have hin : s.heap.objs.size ≠ i1 := by
  cases b
  ·obtain ⟨o, e, _⟩ := (h1 : s.heap.IsTupleIter i1 l1 k1); exact Nat.ne_of_gt (Heap.lt_size e)
  ·obtain ⟨o, e, _⟩ := (h1 : s.heap.IsListIter i1 l1 k1); exact Nat.ne_of_gt (Heap.lt_size e)
 refine callType_codes (Q₁ := fun obj s₁ => obj = .ref s.heap.objs.size ∧ s₁ = { s with heap := s.heap.push { cls := .type "list", data := .seq #[] } }) F.called_list (F.typeCall_list_1 _) F.entry_list_init
  (code_list_new _ ⟨rfl, rfl⟩) fun obj s₁ h₁ => ?_
 obtain ⟨rfl, rfl⟩ := h₁
 have hS : (s.heap.push { cls := .type "list", data := .seq #[] }).get? s.heap.objs.size = some { cls := .type "list", data := .seq #[] } := Heap.get?_push_size _ rfl
 refine ⟨⟨_, hS, rfl⟩, F.args_list_init_2 _ _, ?_⟩
 show wpAny _ _ (do let old ← Builtin.List.listItems (.ref s.heap.objs.size); Builtin.List.listUpdate (.ref s.heap.objs.size) (fun _ => #[]); letGo old.toList.reverse; Builtin.List.listExtendWith (.ref s.heap.objs.size) (.ref z) .none) _ _ _
 refine wpAny_bind ?_
 unfold Builtin.List.listItems
 refine wpAny_bind (wpAny_seqItems hS rfl (wpAny_pure ?_))
 show wpAny _ _ (updateSeq s.heap.objs.size (fun _ => #[]) >>= fun _ => letGo (#[] : Array Value).toList.reverse >>= fun _ => Builtin.List.listExtendWith (.ref s.heap.objs.size) (.ref z) .none) _ _ _
 refine wpAny_bind (wpAny_updateSeq hS rfl ?_)
 have hS₂ := Heap.get?_update_self (Obj.mapSeq (fun _ => (#[] : Array Value))) hS rfl
 refine wpAny_bind (wpAny_letGo ?_)
 unfold Builtin.List.listExtendWith
 have up : ∀ c o, s.heap.get? c = some o → ((s.heap.push { cls := .type "list", data := .seq #[] }).update s.heap.objs.size (Obj.mapSeq (fun _ => (#[] : Array Value)))).get? c = some o :=
  fun c o e => (Heap.get?_update_other _ _ (Nat.ne_of_gt (Heap.lt_size e))).trans (Heap.get?_push_of_some _ e)
 refine wpAny_bind (wpAny_typeOf (T := "zip") ⟨_, up _ _ hz, rfl⟩ ?_)
 have h1' : Builtin.List.listSameRef (.ref s.heap.objs.size) (.ref z) = false := by simp [Builtin.List.listSameRef, hzn]
 have h2 : (Value.type "zip" == Value.type "list") = false := by decide
 have h3 : (Value.type "zip" == Value.type "tuple") = false := by decide
 simp only [h1', h2, h3, Bool.or_false, Bool.false_eq_true, if_false]
 refine wpAny_bind (wpAny_pyIter_zip (up _ _ hz) ?_)
 refine wpAny_bind (wpAny_holding ?_)
 unfold Builtin.List.listLengthHint
 refine wpAny_bind (wpAny_specialOf (T := "zip") ⟨_, up _ _ hz, rfl⟩ zip_no_len ?_)
 show wpAny _ _ (specialOf (Value.ref z) (PySem.Str.ofString "__length_hint__") >>= _) _ _ _
 refine wpAny_bind (wpAny_specialOf (T := "zip") ⟨_, up _ _ hz, rfl⟩ zip_no_hint ?_)
 refine wpAny_pure ?_
 show wpAny _ _ (rule "list.extend.makes-room" >>= fun _ => Builtin.List.listTouch (.ref s.heap.objs.size) >>= fun _ =>
  again (.builtin "list.extend.loop" ⟨[.ref s.heap.objs.size, .ref z, .none], []⟩)) _ _ _
 refine wpAny_bind (wpAny_rule ?_)
 refine wpAny_bind ?_
 show wpAny _ _ (updateSeq s.heap.objs.size (·.push .none) >>= fun _ => updateSeq s.heap.objs.size (·.pop)) _ _ _
 refine wpAny_bind (wpAny_updateSeq hS₂ rfl ?_)
 have hS₃ := Heap.get?_update_self (Obj.mapSeq (·.push Value.none)) hS₂ rfl
 refine wpAny_updateSeq (hz := by seq_fits) hS₃ rfl ?_
 have hS₄ := Heap.get?_update_self (Obj.mapSeq (·.pop)) hS₃ rfl
 have oth : ∀ c o, s.heap.get? c = some o → ((((s.heap.push { cls := .type "list", data := .seq #[] }).update s.heap.objs.size (Obj.mapSeq (fun _ => (#[] : Array Value)))).update s.heap.objs.size (Obj.mapSeq (·.push Value.none))).update s.heap.objs.size (Obj.mapSeq (·.pop))).get? c = some o :=
  fun c o e => (Heap.get?_update_other _ _ (Nat.ne_of_gt (Heap.lt_size e))).trans ((Heap.get?_update_other _ _ (Nat.ne_of_gt (Heap.lt_size e))).trans (up c o e))
 refine wpAny_pure ⟨plainId_quiet F.plain_extend_loop _, ?_⟩
 refine codeAny_builtin F.entry_extend_loop ?_
 rw [Around.under_plainId F.plain_extend_loop _]
 show wpAny _ _ (pyNext (.ref z) >>= _) _ _ _
 refine wpAny_bind (zip_last (b := b) (c := b) (xs := xs) (k1 := k1) hh D (oth _ _ hz) (oth _ _ hTI) ?_ (hl1.keeps oth) hx fun h' keep => ?_)
 ·cases b
  ·obtain ⟨o, e, r⟩ := (h1 : s.heap.IsTupleIter i1 l1 k1); exact ⟨o, oth _ _ e, r⟩
  ·obtain ⟨o, e, r⟩ := (h1 : s.heap.IsListIter i1 l1 k1); exact ⟨o, oth _ _ e, r⟩
 refine wpAny_pure ?_
 exact ⟨rfl, hQ h' _ (fun c o c1 c2 e => keep c o c1 c2 (oth c o e)) (keep _ _ hzn hin hS₄)⟩)) ?y := by k_extra "cv"
 k_extra "zz"
end
noncomputable abbrev zipO (TI TO : Addr) : Obj := { cls := .type "zip", dict := none, data := .fields #[.none, .bool false, .bool false, .ref TI, .ref TO], slots := #[] }
noncomputable abbrev pairO (a b : Value) : Obj := { cls := .type "tuple", data := .seq #[a, b] }
section
variable {prog : Program} {w : World} {A : Around} {E : Value → Shared → Prop} {s : Shared} {g : Heap} {L : Addr} {m : Str → Option Value} {news : List (Addr × Obj)} {Q : Value → Shared → Prop}
theorem ItAt.obj {b : Bool} {h : Heap} {i l : Addr} (e : h.get? i = some (itObj b l)) : ItAt b h i l 0 := by
 cases b <;> exact ⟨_, e, rfl, rfl⟩
theorem zip_K {b c : Bool} {l1 l2 : Nat} {xs ys : List Value} (F : Fr g L s.heap m) (N : News g L s.heap news) (h1 : SqAt b s.heap l1 xs) (h2 : SqAt c s.heap l2 ys)
  (h : ∀ (i1 i2 TI TO z : Nat) h', ZA z TI TO i1 i2 l1 l2 → Fr g L h' m → News g L h' ((z, zipO TI TO) :: (TO, pairO .none .none) :: (TI, pairO (.ref i1) (.ref i2)) :: (i2, itObj c l2) :: (i1, itObj b l1) :: news) → (∀ q ∈ news, q.1 < i1) → Q (.ref z) { s with heap := h' }) :
  wpAny (model prog w) A (call (.type "zip") [.ref l1, .ref l2]) Q E s := by
 have lt1 : l1 < s.heap.objs.size := by
  cases b
  ·exact IsTup.lt h1
  ·obtain ⟨o, e, _⟩ := (h1 : s.heap.IsList l1 _); exact Heap.lt_size e
 have lt2 : l2 < s.heap.objs.size := by
  cases c
  ·exact IsTup.lt h2
  ·obtain ⟨o, e, _⟩ := (h2 : s.heap.IsList l2 _); exact Heap.lt_size e
 refine call_zipSq h1 h2 fun h' z1 z2 z3 z4 z5 z6 z7 => ?_
 have fr : ∀ k, g.get? (s.heap.objs.size + k) = none := fun k => by
  cases q : g.get? (s.heap.objs.size + k) with
  | none => rfl
  | some o => exact absurd (Heap.lt_size (F.keep _ _ q)) (Nat.not_lt.mpr (Nat.le_add_right _ _))
 have nL : ∀ k, s.heap.objs.size + k ≠ L := fun k e => absurd F.ns.lt (by rw [← e]; exact Nat.not_lt.mpr (Nat.le_add_right _ _))
 have nf : ∀ k, g.get? (s.heap.objs.size + k) = none ∧ s.heap.objs.size + k ≠ L := fun k => ⟨fr k, nL k⟩
 refine h s.heap.objs.size (s.heap.objs.size + 1) (s.heap.objs.size + 2) (s.heap.objs.size + 3) (s.heap.objs.size + 4) h' ⟨Nat.lt_succ_self _, Nat.lt_succ_self _, Nat.lt_succ_self _, Nat.lt_succ_self _, lt1, lt2⟩ (F.keeps z7) (fun q hq => ?_) fun q hq => Heap.lt_size (N q hq).1
 k_extra "j0"
 ·exact ⟨z1, (nf 4).2, (nf 4).1⟩
 k_extra "j0"
 ·exact ⟨z3, (nf 3).2, (nf 3).1⟩
 k_extra "j0"
 ·exact ⟨z2, (nf 2).2, (nf 2).1⟩
 k_extra "j0"
 ·exact ⟨z5, (nf 1).2, (nf 1).1⟩
 k_extra "j0"
 ·exact ⟨z4, (nf 0).2, (nf 0).1⟩
 ·exact ⟨z7 _ _ (N q hq).1, (N q hq).2⟩
theorem list_zip0_K {b c : Bool} {z TI TO i1 i2 l1 l2 : Nat} (hh : A.handled = none) (F : Fr g L s.heap m) (N : News g L s.heap ((z, zipO TI TO) :: (TO, pairO .none .none) :: (TI, pairO (.ref i1) (.ref i2)) :: (i2, itObj c l2) :: (i1, itObj b l1) :: news))
  (D : ZA z TI TO i1 i2 l1 l2) (hn : ∀ q ∈ news, q.1 < i1) (h1 : SqAt b s.heap l1 [])
  (h : ∀ (a : Nat) n h', Fr g L h' m → News g L h' ((a, listOf #[] n) :: news) → (∀ q ∈ news, q.1 < a) → Q (.ref a) { s with heap := h' }) :
  wpAny (model prog w) A (call (.type "list") [.ref z]) Q E s := by
 have N0 := (N _ (.head _)).1
 have NTI := (N _ (.tail _ (.tail _ (.head _)))).1
 have Ni := (N _ (.tail _ (.tail _ (.tail _ (.tail _ (.head _)))))).1
 have zL := (N _ (.head _)).2.1
 have iL := (N _ (.tail _ (.tail _ (.tail _ (.tail _ (.head _)))))).2.1
 have zg := (N _ (.head _)).2.2
 have ig := (N _ (.tail _ (.tail _ (.tail _ (.tail _ (.head _)))))).2.2
 obtain ⟨d1, d2, d3, d4, d5, d6⟩ := D
 refine list_zip0 hh ⟨d1, d2, d3, d4, d5, d6⟩ N0 NTI (ItAt.obj Ni) h1 rfl fun h' n keep hS => ?_
 have F' : Fr g L h' m := by
  obtain ⟨oL, e1, e2, e3, e4⟩ := F.ns
  exact ⟨⟨oL, e1, e2, keep _ _ (fun e => zL e.symm) (fun e => iL e.symm) e3, e4⟩, fun c o e => keep _ _ (fun q => by rw [q, zg] at e; cases e) (fun q => by rw [q, ig] at e; cases e) (F.keep _ _ e), F.above⟩
 refine h _ n h' F' (fun q hq => ?_) fun q hq => Heap.lt_size (N q (.tail _ (.tail _ (.tail _ (.tail _ (.tail _ hq)))))).1
 k_extra "j0"
 ·refine ⟨hS, Nat.ne_of_gt F.ns.lt, ?_⟩
  cases q : g.get? s.heap.objs.size with
  | none => rfl
  | some o => exact absurd (Heap.lt_size (F.keep _ _ q)) (Nat.lt_irrefl _)
 ·have a := hn q hq
  have e := N q (.tail _ (.tail _ (.tail _ (.tail _ (.tail _ hq)))))
  exact ⟨keep _ _ (fun x => Nat.ne_of_lt (Nat.lt_trans a (Nat.lt_trans d1 (Nat.lt_trans d2 (Nat.lt_trans d3 d4)))) x) (fun x => Nat.ne_of_lt a x) e.1, e.2⟩
end
structure Fresh (g h : Heap) (a : Addr) (o : Obj) : Prop where
 new : g.get? a = none
 at_ : h.get? a = some o
theorem newsFrsh {g h : Heap} {L a : Addr} {o : Obj} {l : List (Addr × Obj)} (N : News g L h l) (hm : (a, o) ∈ l) : Fresh g h a o := ⟨(N _ hm).2.2, (N _ hm).1⟩
theorem frHas {g h : Heap} {L : Addr} {m : Str → Option Value} (F : Fr g L h m) : ∃ o, h.get? L = some o := by
 obtain ⟨o, _, _, ho, _⟩ := F.ns; exact ⟨o, ho⟩
theorem news_fresh {g h h' : Heap} {L a : Addr} {o : Obj} {m : Str → Option Value} {l : List (Addr × Obj)} (F : Fr g L h m) (N : News g L h' l) (x : Fresh h h' a o) : News g L h' ((a, o) :: l) := by
 intro p hp
 k_extra "v0"
 ·refine ⟨x.at_, ?_, ?_⟩
  ·rintro rfl
   obtain ⟨o', e⟩ := frHas F
   rw [x.new] at e; cases e
  ·cases q : g.get? a with
   | none => rfl
   | some o' => have := F.keep a o' q; rw [x.new] at this; cases this
 ·exact N p hp
theorem freshApart {g h h' : Heap} {L a : Addr} {o : Obj} {l : List (Addr × Obj)} (N : News g L h l) (x : Fresh h h' a o) : ∀ p ∈ l, @Ne Nat p.1 a := fun p hp e => by
 have h1 := (N p hp).1
 have e' : p.1 = a := e
 rw [e', x.new] at h1; cases h1
theorem freshNe {g h : Heap} {a b : Addr} {o o' : Obj} (x : Fresh g h a o) (y : Fresh g h b o') (n : o ≠ o') : @Ne Nat a b := fun e => by
 have e' : a = b := e
 subst e'
 exact n (Option.some.inj (x.at_.symm.trans y.at_))
inductive HpAt (ok ok2 : Addr → Prop) (g h : Heap) : Value → Option (Option (Ty × Ty)) → Prop
 | no : HpAt ok ok2 g h .none none
 | nil {a n} : Fresh g h a (PySem.W.listOf #[] n) → HpAt ok ok2 g h (.ref a) (some none)
 | one {a n c x y t u} : Fresh g h a (PySem.W.listOf #[.ref c] n) → Fresh g h c { cls := .type "tuple", data := .seq #[x, y] } → TyAt ok g x t → TyAt ok2 g y u → HpAt ok ok2 g h (.ref a) (some (some (t, u)))
noncomputable def Ty.idx (t : Ty) : Nat := Ty.casesOn (motive := fun _ => Nat) t 0 1 2 3 (fun _ => 4) (fun _ _ => 5) (fun _ _ => 6)
noncomputable def hpI (t : Ty) (i : Nat) : Option (Option (Ty × Ty)) := cond (t.idx.beq i) (some none) none
noncomputable def hpSpec (u t : Ty) : Option (Option (Ty × Ty)) := Ty.casesOn (motive := fun _ => Option (Option (Ty × Ty))) u (hpI t 0) (hpI t 1) (hpI t 2) (hpI t 3)
 (fun a => Ty.casesOn (motive := fun _ => Option (Option (Ty × Ty))) t none none none none (fun b => some (some (a, b))) (fun _ _ => none) (fun _ _ => none))
 (fun m a => Ty.casesOn (motive := fun _ => Option (Option (Ty × Ty))) t none none none none (fun _ => none) (fun n b => cond (m == n) (some (some (a, b))) none) (fun _ _ => none)) (fun _ _ => hpI t 6)
theorem hpRef {m n : Bool} {a b : Ty} : hpSpec (.ref m a) (.ref n b) = cond (m == n) (some (some (a, b))) none := rfl
def Ty.isPat (u : Ty) : Prop := u = .u8 ∨ u = .S ∨ u = .box .S ∨ u = .ref false .S
theorem patHeads {u t : Ty} (hu : u.isPat) (h : u.head = t.head) : (u = .u8 ∧ t = .u8) ∨ (u = .S ∧ t = .S) ∨ (u = .box .S ∧ ∃ t', t = .box t') ∨ (u = .ref false .S ∧ ∃ b t', t = .ref b t') := by
 rcases hu with rfl | rfl | rfl | rfl <;> cases t <;> first | exact .inl ⟨rfl, rfl⟩ | exact .inr (.inl ⟨rfl, rfl⟩) | exact .inr (.inr (.inl ⟨rfl, _, rfl⟩)) | exact .inr (.inr (.inr ⟨rfl, _, _, rfl⟩)) | exact absurd h (of_decide_eq_false rfl)
theorem hpNone {u t : Ty} (hu : u.isPat) (h : u.head ≠ t.head) : hpSpec u t = none := by
 rcases hu with rfl | rfl | rfl | rfl <;> cases t <;> first | rfl | exact absurd rfl h
theorem headsNe {u t : Ty} (hu : u.isPat) (h : u.head ≠ t.head) : (Str.ofString u.head != Str.ofString t.head) = true := by
 refine @disc _ ?y ?e
 case e =>
 haveI h : @Eq (PLift _) (PLift.up (by
 rcases hu with rfl | rfl | rfl | rfl <;> cases t <;> first | exact absurd rfl h | kernel_rfl!)) ?y := by k_extra "cv"
 k_extra "zz"
variable {w : World} {p : Program} {loose : List Str} {mean : ExcName → Option Value} {mg mb : Str → Option Value} {A A₀ : Around} {base h₀ : Heap} {outer : List Env} {env : Env} {L : Addr} {m : Str → Option Value} {s : Shared} {Q E : Value → Shared → Prop}
theorem head_pairs_w (C : Cx w p loose mean mg mb A A₀ base h₀ outer env L m s.heap 10 20)
  {ok ok2 : Addr → Prop} {vp vt : Value} {u t : Ty} (hp : TyAt ok s.heap vp u) (ht : TyAt ok2 s.heap vt t) (hu : u.isPat)
  (ret : ∀ r h' tk', s.heap.StaysIn h' → Fr h₀ L h' m → HpAt ok ok2 s.heap h' r (hpSpec u t) → Q r { s with heap := h', toks := tk' }) :
  wpAny (model PySem.Challenge.rw_ot0047_01.row.prog w) A (PySem.call (.ref (73 : Nat)) [vp, vt]) Q E s := by
 refine @disc _ ?y ?e
 case e =>
 haveI h : @Eq (PLift _) (PLift.up (by
 k_fill
 obtain ⟨a1, tk1, rest1, rfl, hT1⟩ := hp.head
 obtain ⟨a2, tk2, rest2, rfl, hT2⟩ := ht.head
 revert C hu ret hT1 hp hT2 ht
 revert ok ok2 u t a1 tk1 rest1 a2 tk2 rest2
 k_extra "rv"
 refine no_implicit_lambda% (clZ (cPm cZ.L.N.N.L.N.N.T.T.P.P) ?_)
 k_extra "ld"
 refine fZ8 ?_
 intro zc0_0 ok ok2 u t a1 tk1 rest1 a2
 clear_value ok ok2 u t a1 tk1 rest1 a2
 refine gZ2 ?_
 intro zc0 tk2 rest2
 clear_value tk2 rest2
 intros C hu ret hT1 hp hT2 ht
 k_extra "oC"
 k_extra "c0"
 by_cases hne : u.head = t.head
 ·rcases patHeads hu hne with ⟨rfl, rfl⟩ | ⟨rfl, rfl⟩ | ⟨rfl, t', rfl⟩ | ⟨rfl, b, t', rfl⟩
  ·clear hne
   obtain ⟨q1, q2, i1, o1⟩ := hp.u8J
   obtain ⟨q3, q4, i2, o2⟩ := ht.u8J
   revert i1 i2
   revert q1 q2 q3 q4
   refine no_implicit_lambda% (clZ cZ.N.N.N.N ?_)
   refine gZ4 ?_
   intro zc1 q1 q2 q3 q4
   clear_value q1 q2 q3 q4
   intros i1 i2
   k_steps
   exact ret _ _ _ (Fr.keep ‹_›) ‹_› (.nil (newsFrsh ‹_› (by k_mem)))
  ·clear hne
   obtain ⟨q1, q2, e1, e2, i1, o1, i2, o2, i3, o3⟩ := hp.SJ
   obtain ⟨q3, q4, e3, e4, i4, o4, i5, o5, i6, o6⟩ := ht.SJ
   revert i1 i2 o2 i3 o3 i4 i5 o5 i6 o6
   revert q1 q2 e1 e2 q3 q4 e3 e4
   refine no_implicit_lambda% (clZ cZ.N.N.N.N.N.N.N.N ?_)
   refine gZ8 ?_
   intro zc2 q1 q2 e1 e2 q3 q4 e3 e4
   clear_value q1 q2 e1 e2 q3 q4 e3 e4
   intros i1 i2 o2 i3 o3 i4 i5 o5 i6 o6
   k_steps
   exact ret _ _ _ (Fr.keep ‹_›) ‹_› (.nil (newsFrsh ‹_› (by k_mem)))
  ·clear hne
   obtain ⟨q1, v1, i1, o1, k1⟩ := hp.boxJ
   obtain ⟨q3, v2, i2, o2, k2⟩ := ht.boxJ
   revert hT2 ht ret i1 k1 i2 k2
   revert t' q1 v1 q3 v2
   refine no_implicit_lambda% (clZ cZ.V.N.V.N.T ?_)
   refine gZ5 ?_
   intro zc3 t' q1 v1 q3 v2
   clear_value t' q1 v1 q3 v2
   intros hT2 ht ret i1 k1 i2 k2
   k_steps
   exact ret _ _ _ (Fr.keep ‹_›) ‹_› (.one (newsFrsh ‹_› (by k_mem)) (newsFrsh ‹_› (by k_mem)) k1 k2)
  ·clear hne
   obtain ⟨q1, v1, i1, o1, k1⟩ := hp.refJ
   obtain ⟨q3, v2, i2, o2, k2⟩ := ht.refJ
   revert hT2 ht ret i1 k1 i2 k2
   revert b t' q1 v1 q3 v2
   refine no_implicit_lambda% (clZ cZ.V.N.V.N.T.B ?_)
   refine gZ6 ?_
   intro zc4 b t' q1 v1 q3 v2
   clear_value b t' q1 v1 q3 v2
   intros hT2 ht ret i1 k1 i2 k2
   k_steps
   all_goals (refine ret _ _ _ (Fr.keep ‹_›) ‹_› ?_; rw [hpRef])
   all_goals first
    | (rename (_ == _) = true => e9; rw [e9]; exact .one (newsFrsh ‹_› (by k_mem)) (newsFrsh ‹_› (by k_mem)) k1 k2)
    | (rename (_ == _) = false => e9; rw [e9]; exact .no)
 ·have hs := hpNone hu hne
  have hb := headsNe hu hne
  k_steps
  exact ret _ _ _ (Fr.keep ‹_›) ‹_› (hs ▸ .no))) ?y := by k_extra "cv"
 k_extra "zz"
noncomputable abbrev PR : Program := PySem.Challenge.rw_ot0047_01.row.prog
def FieldsAre (es : List DictEntry) (fs : List (String × Value)) : Prop := es.map (fun e => (match e.key with | .str x _ => some x | _ => none, e.val)) = fs.map fun p => (some (PySem.Str.ofString p.1), p.2)
inductive Inst (h : Heap) (x : Addr) (C : Addr) (fs : List (String × Value)) : Prop
 | mk : ∀ dx es n, (h.get? x = some (instObj C dx)) → (h.get? dx = some (dictOf es n)) → (FieldsAre es fs) → Inst h x C fs
theorem Inst.keeps {h h' : Heap} {x C : Addr} {fs : List (String × Value)} (k : h.StaysIn h') (I : Inst h x C fs) : Inst h' x C fs :=
 let ⟨dx, es, n, a, b, c⟩ := I; ⟨dx, es, n, k _ _ a, k _ _ b, c⟩
noncomputable def lookF (fs : List (String × Value)) (name : PySem.Str) : Option Value := match fs with
 | [] => none
 | p :: r => if PySem.Str.ofString p.1 = name then some p.2 else lookF r name
theorem FieldsAre.get {es : List DictEntry} {fs : List (String × Value)} {name : PySem.Str} (h : FieldsAre es fs) : getL name es = some (lookF fs name) := by
 unfold FieldsAre at h
 induction es generalizing fs with
 | nil => cases fs with
  | nil => rfl
  | cons p r => simp at h
 | cons e es ih => cases fs with
  | nil => simp at h
  | cons p r =>
   simp only [List.map_cons, List.cons.injEq, Prod.mk.injEq] at h
   obtain ⟨⟨hk, hv⟩, hr⟩ := h
   have ih := ih hr
   obtain ⟨hsh, key, val⟩ := e
   dsimp only at hk hv
   cases key <;> first | cases hk | skip
   rename_i x tk
   subst hv
   unfold getL at ih ⊢
   simp only [List.find?_cons, List.any_cons, Value.isStr, lookF]
   by_cases q : PySem.Str.ofString p.1 = name
   ·subst q
    simp
   ·have q' : (PySem.Str.ofString p.1 == name) = false := by simpa using q
    rw [q', if_neg q]
    simp only [DictEntry.refKey, Bool.false_or]
    exact ih
section
variable {w : World} {A : Around} {E : Value → Shared → Prop} {s : Shared} {g : Heap} {L : Addr} {m : Str → Option Value} {K : Frag} {x C : Addr} {fs : List (String × Value)} {name : PySem.Str}
theorem attr_B {prog : Program} {expr : Bool} {Q : Value → Shared → Prop} {attr : Option Value} {u : Value} (F : Fr g L s.heap m) (X : K.In g) (I : Inst g x C fs) (hg : plainGet K C name = true) (hh : hasDictIn K C = true)
  (ha : findIn K (.ref C) name = some attr) (hn : noGet K attr = true) (hl : lookF fs name = some u) (hv : handedIn u = true) (h : Q u { s with toks := s.toks + 1 }) :
  wpAny (model prog w) A (getAttr (.ref x) name expr) Q E s := by
 obtain ⟨dx, es, n, a, b, c⟩ := I
 exact get_own F X ⟨F.keep _ _ a, rfl, rfl, F.keep _ _ b⟩ hg hh ha hn (by rw [c.get, hl]) hv h
theorem lst_n {prog : Program} {value slice : PySem.Expr} {l : Addr} {r : Array Value} {v : Value} {k : Int} {t : Tok} {Q : Value → Shared → Prop} (hl : s.heap.IsList l r) (h0 : 0 ≤ k) (h1 : k < 2 ^ 63) (hx : r[k.toNat]? = some v) (h : Q v s)
  (hs : subscripted slice false (.ref l) (.int k t) = operate [.ref l, .int k t] (getItem (.ref l) (.int k t)) := by with_unfolding_all rfl) :
  wpAny (model prog w) A (subscriptTail value slice (.ref l) (.int k t)) Q E s :=
 tail_any hl.typeIs slot_list_getitem.lookup (wpAny_getItem_list hl h0 h1 hx h) hs
theorem meth_B {prog : Program} {pl : Sem Bool} {Q : Value × List Value → Shared → Prop} {f : Addr} (F : Fr g L s.heap m) (X : K.In g) (I : Inst g x C fs) (hg : plainGet K C name = true)
  (hf : findIn K (.ref C) name = some (some (.ref f))) (ht : isFn K (.ref f) = true) (hl : lookF fs name = none) (h : Q (.ref f, [.ref x]) s) : wpAny (model prog w) A (getMethod (.ref x) name pl) Q E s := by
 obtain ⟨dx, es, n, a, b, c⟩ := I
 exact method_inst F X ⟨F.keep _ _ a, rfl, rfl, F.keep _ _ b⟩ hg hf ht (by rw [c.get, hl]) h
end
theorem TyAt.fr {ok : Addr → Prop} {g h : Heap} {L : Addr} {m : Str → Option Value} {v : Value} {t : Ty} (x : TyAt ok g v t) (F : Fr g L h m) : TyAt ok h v t := x.keeps F.keep
theorem TyAt.frO {ok : Addr → Prop} {g h : Heap} {L : Addr} {m : Str → Option Value} {v : Value} {t : Ty} (x : TyAt ok g v t) (F : Fr g L h m) : TyAt (okF ok g) h v t := (x.keeps F.keep).imp fun _ => .inl
theorem isTup_fr {g h : Heap} {L : Addr} {m : Str → Option Value} {a : Addr} {items : Array Value} (x : IsTup g a items) (F : Fr g L h m) : IsTup h a items := x.keeps F.keep
theorem isList_fr {g h : Heap} {L : Addr} {m : Str → Option Value} {a : Addr} {items : Array Value} (x : g.IsList a items) (F : Fr g L h m) : h.IsList a items := x.at fun _ e => F.keep _ _ e
theorem inst_fr {g h : Heap} {L : Addr} {m : Str → Option Value} {x C : Addr} {fs : List (String × Value)} (I : Inst g x C fs) (F : Fr g L h m) : Inst h x C fs := I.keeps F.keep
section
variable {prog : Program} {w : World} {A : Around} {env : Env} {h : Heap}
theorem pe_at {K : Frag} {gh : Heap} {L : Addr} {m : Str → Option Value} {e : PySem.Expr} {name : Str} {pos : Pos} {t t1 : Nat} {x C : Addr} {fs : List (String × Value)} {attr : Option Value} {u : Value} (p : PE (model prog w) A env h e t t1 (.ref x)) (F : Fr gh L h m) (X : K.In gh) (I : Inst h x C fs)
  (hg : plainGet K C name = true) (hh : hasDictIn K C = true) (ha : findIn K (.ref C) name = some attr) (hn : noGet K attr = true) (hl : lookF fs name = some u) (hv : handedIn u = true)
  (he : attributeBase e name env (eval e env) = eval e env) : PE (model prog w) A env h (.Attribute e name pos) t (t1 + 1) u :=
 fun _ _ _ _ _ q => Attribute_any_ (p _ _ _ _ _ (let ⟨_, _, _, a, b, c⟩ := I; get_own (s := ⟨h, _, _, t1, _⟩) F X ⟨a, rfl, rfl, b⟩ hg hh ha hn (by rw [c.get, hl]) hv q)) (by rw [arm_eval_Attribute, he])
end
section
variable {prog : Program} {w : World} {A : Around} {env : Env} {h : Heap}
theorem pe_li {e : PySem.Expr} {i : Int} {k : Nat} {p1 pos : Pos} {t t1 : Nat} {a : Addr} {r : Array Value} {v : Value} (p : PE (model prog w) A env h e t t1 (.ref a)) (it : h.IsList a r) (h0 : 0 ≤ i) (h1 : i < 2 ^ 63) (hx : r[i.toNat]? = some v) : PE (model prog w) A env h (.Subscript e (.Constant (.int i) k p1) pos) t (t1 + 1) v :=
 fun _ _ _ _ _ q => Subscript_ (p _ _ _ _ _ (wpAny_Constant_int (lst_n (s := ⟨h, _, _, t1 + 1, _⟩) it h0 h1 hx q sub_const)))
theorem pe_li0 {e : PySem.Expr} {k : Nat} {p1 pos : Pos} {t t1 : Nat} {a : Addr} {l : List Value} {v : Value} (p : PE (model prog w) A env h e t t1 (.ref a)) (it : h.IsList a (v :: l).toArray) : PE (model prog w) A env h (.Subscript e (.Constant (.int 0) k p1) pos) t (t1 + 1) v :=
 pe_li p it (by decide) (by decide) (by rfl)
theorem pe_li1 {e : PySem.Expr} {k : Nat} {p1 pos : Pos} {t t1 : Nat} {a : Addr} {l : List Value} {y0 v : Value} (p : PE (model prog w) A env h e t t1 (.ref a)) (it : h.IsList a (y0 :: v :: l).toArray) : PE (model prog w) A env h (.Subscript e (.Constant (.int 1) k p1) pos) t (t1 + 1) v :=
 pe_li p it (by decide) (by decide) (by rfl)
theorem pe_li2 {e : PySem.Expr} {k : Nat} {p1 pos : Pos} {t t1 : Nat} {a : Addr} {l : List Value} {y0 y1 v : Value} (p : PE (model prog w) A env h e t t1 (.ref a)) (it : h.IsList a (y0 :: y1 :: v :: l).toArray) : PE (model prog w) A env h (.Subscript e (.Constant (.int 2) k p1) pos) t (t1 + 1) v :=
 pe_li p it (by decide) (by decide) (by rfl)
theorem pc_eqNS {x : Str} {u : Tok} {t : Nat} : PC (model prog w) A h .Eq .none (.str x u) t t false := fun _ _ _ _ _ q => PySem.EqNone.eq_none_str q
end
noncomputable def Ty.parts : Ty → List Ty
 | .box t => [t] | .ref _ t => [t] | .pair a b => [a, b] | _ => []
noncomputable def Ty.rebuild (t : Ty) (l : List Ty) : Ty := Ty.casesOn (motive := fun _ => Ty) t t t t t (fun u => .box (l.headD u)) (fun m u => .ref m (l.headD u)) (fun a b => .pair (l.headD a) (l.tail.headD b))
theorem Ty.rebuild_parts (t : Ty) : t.rebuild t.parts = t := by cases t <;> rfl
theorem two_of {α : Type} {l : List α} (h : l.length = 2) : ∃ a b, l = [a, b] := by
 cases l with
 | nil => cases h
 | cons a r => obtain ⟨b, rfl⟩ := List.length_eq_one_iff.mp (Nat.succ.inj h); exact ⟨a, b, rfl⟩
def All2 {α β : Type} (R : α → β → Prop) (l : List α) (r : List β) : Prop := l.length = r.length ∧ ∀ (i : Nat) v, l[i]? = some v → ∃ a, r[i]? = some a ∧ R v a
section
variable {α β : Type} {R R' : α → β → Prop} {l : List α} {r : List β} {a : α} {b : β}
theorem All2.nil : All2 R [] [] := ⟨rfl, fun _ _ e => nomatch e⟩
theorem All2.cons (h : R a b) (x : All2 R l r) : All2 R (a :: l) (b :: r) := ⟨congrArg Nat.succ x.1, fun i => Nat.casesOn (motive := fun i => ∀ v, (a :: l)[i]? = some v → ∃ c, (b :: r)[i]? = some c ∧ R v c) i (fun _ e => ⟨b, rfl, Option.some.inj e ▸ h⟩) x.2⟩
theorem All2.len (x : All2 R l r) : l.length = r.length := x.1
theorem All2.imp (k : ∀ a b, R a b → R' a b) (x : All2 R l r) : All2 R' l r := ⟨x.1, fun i v e => (x.2 i v e).imp fun _ y => ⟨y.1, k _ _ y.2⟩⟩
theorem All2.get (x : All2 R l r) {i : Nat} {v : α} (e : l[i]? = some v) : ∃ a, r[i]? = some a ∧ R v a := x.2 i v e
theorem All2.zero (x : All2 R [] r) : r = [] := List.eq_nil_of_length_eq_zero x.1.symm
theorem All2.one (x : All2 R [a] r) : ∃ b, r = [b] ∧ R a b := by
 obtain ⟨b, rfl⟩ := List.length_eq_one_iff.mp x.1.symm
 exact ⟨b, rfl, (x.2 0 a rfl).elim fun _ y => Option.some.inj y.1 ▸ y.2⟩
theorem All2.uncons (x : All2 R l (b :: r)) : ∃ a l', l = a :: l' ∧ R a b ∧ All2 R l' r := by
 cases l with
 | nil => cases x.1
 | cons a l => exact ⟨a, l, rfl, (x.2 0 a rfl).elim fun _ y => Option.some.inj y.1 ▸ y.2, Nat.succ.inj x.1, fun i => x.2 (i + 1)⟩
theorem All2.split (x : All2 R l r) : (l = [] ∧ r = []) ∨ ∃ a b l' r', l = a :: l' ∧ r = b :: r' ∧ R a b ∧ All2 R l' r' := by
 cases r with
 | nil => exact .inl ⟨List.eq_nil_of_length_eq_zero x.1, rfl⟩
 | cons b r => exact .inr ((All2.uncons x).imp fun a y => ⟨b, y.elim fun l' z => ⟨l', r, z.1, rfl, z.2⟩⟩)
theorem get_snoc {i : Nat} {v : α} (e : (l ++ [a])[i]? = some v) : l[i]? = some v ∨ i = l.length ∧ a = v := by
 by_cases h : i < l.length
 ·exact .inl (List.getElem?_append_left h ▸ e)
 ·rw [List.getElem?_append_right (Nat.not_lt.mp h)] at e
  obtain ⟨k, hk⟩ := Nat.exists_eq_add_of_le (Nat.not_lt.mp h)
  subst hk
  rw [Nat.add_sub_cancel_left] at e
  cases k with
  | zero => exact .inr ⟨rfl, Option.some.inj e⟩
  | succ k => cases e
theorem All2.snoc (x : All2 R l r) (h : R a b) : All2 R (l ++ [a]) (r ++ [b]) := by
 refine ⟨by rw [List.length_append, List.length_append, x.1]; rfl, fun i v e => ?_⟩
 rcases get_snoc e with e | ⟨rfl, rfl⟩
 ·exact (x.2 i v e).imp fun c y => ⟨(List.getElem?_append_left (List.getElem?_eq_some_iff.mp y.1).1).trans y.1, y.2⟩
 ·exact ⟨b, by rw [x.1]; exact List.getElem?_concat_length, h⟩
end
def TyAll (ok : Addr → Prop) (h : Heap) (vs : List Value) (ts : List Ty) : Prop := All2 (TyAt ok h) vs ts
section
variable {ok ok' : Addr → Prop} {h h' : Heap} {vs : List Value} {ts : List Ty} {v : Value} {t u : Ty}
theorem TyAll.nil : TyAll ok h [] [] := All2.nil
theorem TyAll.cons (x : TyAt ok h v t) (y : TyAll ok h vs ts) : TyAll ok h (v :: vs) (t :: ts) := All2.cons x y
theorem TyAll.zero (x : TyAll ok h vs []) : vs = [] := List.eq_nil_of_length_eq_zero x.1
theorem TyAll.one (x : TyAll ok h vs [t]) : ∃ v, vs = [v] ∧ TyAt ok h v t := (All2.uncons x).imp fun _ y => y.elim fun _ y => ⟨y.1.trans (congrArg _ (TyAll.zero y.2.2)), y.2.1⟩
theorem TyAll.two (x : TyAll ok h vs [t, u]) : ∃ v z, vs = [v, z] ∧ TyAt ok h v t ∧ TyAt ok h z u := (All2.uncons x).imp fun _ y => y.elim fun _ y => (TyAll.one y.2.2).imp fun _ z => ⟨y.1.trans (congrArg _ z.1), y.2.1, z.2⟩
end
structure Ty.Atom (t : Ty) : Prop where
 n1 : ¬ (PySem.Str.ofString t.head == PySem.Str.ofString "ref") = true
 n2 : ¬ (PySem.Str.ofString t.head == PySem.Str.ofString "box") = true
 n3 : ¬ (PySem.Str.ofString t.head == PySem.Str.ofString "array") = true
 n4 : ¬ (PySem.Str.ofString t.head == PySem.Str.ofString "tuple") = true
 n5 : ¬ (PySem.Str.ofString t.head == PySem.Str.ofString "adt") = true
 p : t.parts = []
 r : ∀ ts, t.rebuild ts = t
theorem Ty.five (t : Ty) : t.Atom ∨ t = .S ∨ (∃ u, t = .box u) ∨ (∃ b u, t = .ref b u) ∨ ∃ u r, t = .pair u r := by
 cases t with
 | box u => exact .inr (.inr (.inl ⟨u, rfl⟩))
 | ref b u => exact .inr (.inr (.inr (.inl ⟨b, u, rfl⟩)))
 | pair u r => exact .inr (.inr (.inr (.inr ⟨u, r, rfl⟩)))
 | S => exact .inr (.inl rfl)
 | _ => exact .inl ⟨by decide, by decide, by decide, by decide, by decide, rfl, fun _ => rfl⟩
theorem parts_of_w (C : Cx w p loose mean mg mb A A₀ base h₀ outer env L m s.heap 10 20) {ok : Addr → Prop} {vt : Value} {t : Ty} (ht : TyAt ok s.heap vt t)
  (ret : ∀ a vs h' tk', s.heap.StaysIn h' → Fr h₀ L h' m → IsTup h' a vs.toArray → okF ok s.heap a → TyAll ok h' vs t.parts → Q (.ref a) { s with heap := h', toks := tk' }) :
  wpAny (model PR w) A (PySem.call (.ref (244 : Nat)) [vt]) Q E s := by
 refine @disc _ ?y ?e
 case e =>
 haveI h : @Eq (PLift _) (PLift.up (by
 k_fill
 obtain ⟨a0, tk0, rest0, rfl, hT⟩ := ht.head
 revert C ret hT ht
 revert ok t a0 tk0 rest0
 k_extra "rv"
 refine no_implicit_lambda% (clZ (cPm cZ.L.N.N.T.P) ?_)
 k_extra "ld"
 refine gZ5 ?_
 intro zc0 ok t a0 tk0 rest0
 clear_value ok t a0 tk0 rest0
 intros C ret hT ht
 k_extra "oC"
 k_extra "c0"
 k_extra "h0"
 rcases t.five with ⟨n1, n2, n3, n4, n5, q, _⟩ | rfl | ⟨u, rfl⟩ | ⟨b, u, rfl⟩ | ⟨u, r, rfl⟩
 ·k_steps
  exact ret _ [] _ _ (Fr.keep ‹_›) ‹_› (News.isTup ‹_› (by k_mem)) (by k_extra "d1") (q ▸ .nil)
 ·obtain ⟨t1, t2, e1, e2, i0, o0, i1, o1, i2, o2⟩ := ht.SJ
  rename_i u1_0
  revert i0 i1 o1 i2 o2
  revert t1 t2 e1 e2
  refine no_implicit_lambda% (clZ cZ.N.N.N.N ?_)
  refine gZ4 ?_
  intro zc1 t1 t2 e1 e2
  clear_value t1 t2 e1 e2
  intros i0 i1 o1 i2 o2
  k_steps
  exact ret _ [] _ _ (Fr.keep ‹_›) ‹_› (i2.keeps (Fr.keep ‹_›)) (.inl o2) .nil
 ·obtain ⟨t1, v, i0, o0, k⟩ := ht.boxJ
  rename_i u2_0
  revert ret hT ht F' i0 k
  revert u t1 v
  refine no_implicit_lambda% (clZ cZ.V.N.T ?_)
  refine gZ3 ?_
  intro zc2 u t1 v
  clear_value u t1 v
  intros ret hT ht F' i0 k
  k_steps
  k_extra "i2"
 ·obtain ⟨t1, v, i0, o0, k⟩ := ht.refJ
  rename_i u3_0
  revert ret hT ht F' i0 k
  revert b u t1 v
  refine no_implicit_lambda% (clZ cZ.V.N.T.B ?_)
  refine gZ4 ?_
  intro zc3 b u t1 v
  clear_value b u t1 v
  intros ret hT ht F' i0 k
  k_steps
  k_extra "i2"
 ·obtain ⟨t1, c, v, z, i0, o0, i1, o1, k, l⟩ := ht.pairJ
  rename_i u4_0
  revert ret hT ht F' i0 i1 o1 k l
  revert u r t1 c v z
  refine no_implicit_lambda% (clZ cZ.V.V.N.N.T.T ?_)
  refine gZ6 ?_
  intro zc4 u r t1 c v z
  clear_value u r t1 c v z
  intros ret hT ht F' i0 i1 o1 k l
  k_steps
  exact ret _ [v, z] _ _ (Fr.keep ‹_›) ‹_› (i1.keeps (Fr.keep ‹_›)) (.inl o1) (.cons (k.keeps (Fr.keep ‹_›)) (.cons (l.keeps (Fr.keep ‹_›)) .nil)))) ?y := by k_extra "cv"
 k_extra "zz"
theorem rebuilt_w (C : Cx w p loose mean mg mb A A₀ base h₀ outer env L m s.heap 10 20) {ok : Addr → Prop} {vt : Value} {t : Ty} {l : Addr} {vs : List Value} {ts : List Ty} (ht : TyAt ok s.heap vt t) (hl : s.heap.IsList l vs.toArray) (hv : TyAll ok s.heap vs ts) (hn : ts.length = t.parts.length)
  (ret : ∀ r h' tk', s.heap.StaysIn h' → Fr h₀ L h' m → TyAt (okF ok s.heap) h' (.ref r) (t.rebuild ts) → Q (.ref r) { s with heap := h', toks := tk' }) :
  wpAny (model PR w) A (PySem.call (.ref (251 : Nat)) [vt, .ref l]) Q E s := by
 refine @disc _ ?y ?e
 case e =>
 haveI h : @Eq (PLift _) (PLift.up (by
 k_fill
 obtain ⟨a0, tk0, rest0, rfl, hT⟩ := ht.head
 revert C hl hv hn ret hT ht
 revert ok t l vs ts a0 tk0 rest0
 k_extra "rv"
 refine no_implicit_lambda% (clZ (cPm cZ.L.N.N.u.L.N.T.P) ?_)
 k_extra "ld"
 refine gZ8 ?_
 intro zc0 ok t l vs ts a0 tk0 rest0
 clear_value ok t l vs ts a0 tk0 rest0
 intros C hl hv hn ret hT ht
 k_extra "oC"
 k_extra "c0"
 k_extra "h0"
 rcases t.five with ⟨n1, n2, n3, n4, n5, _, q⟩ | rfl | ⟨u, rfl⟩ | ⟨b, u, rfl⟩ | ⟨u, r, rfl⟩
 ·k_steps
  refine ret _ _ _ (Fr.keep ‹_›) ‹_› ?_
  rw [q]; k_extra "h1"
 ·obtain ⟨t1, t2, e1, e2, i0, o0, i1, o1, i2, o2⟩ := ht.SJ
  obtain rfl := List.length_eq_zero_iff.mp hn
  obtain rfl := hv.zero
  rename_i u1_0
  revert i0 i1 o1 i2 o2
  revert t1 t2 e1 e2
  refine no_implicit_lambda% (clZ cZ.N.N.N.N ?_)
  refine gZ4 ?_
  intro zc1 t1 t2 e1 e2
  clear_value t1 t2 e1 e2
  intros i0 i1 o1 i2 o2
  k_steps
  refine ret _ _ _ (Fr.keep ‹_›) ‹_› (?_ : TyAt _ _ _ (.S)); k_extra "h1"
 ·obtain ⟨t1, v, i0, o0, k⟩ := ht.boxJ
  obtain ⟨u9, rfl⟩ := List.length_eq_one_iff.mp hn
  obtain ⟨v9, rfl, hv9⟩ := hv.one
  rename_i u2_0
  revert hT ht F' i0 k hn ret hv9 hl hv
  revert u t1 v u9 v9
  refine no_implicit_lambda% (clZ cZ.V.T.V.N.T ?_)
  refine gZ5 ?_
  intro zc2 u t1 v u9 v9
  clear_value u t1 v u9 v9
  intros hT ht F' i0 k hn ret hv9 hl hv
  k_steps
  refine ret _ _ _ (Fr.keep ‹_›) ‹_› (?_ : TyAt _ _ _ (.box u9)); k_extra "h1"
 ·obtain ⟨t1, v, i0, o0, k⟩ := ht.refJ
  obtain ⟨u9, rfl⟩ := List.length_eq_one_iff.mp hn
  obtain ⟨v9, rfl, hv9⟩ := hv.one
  rename_i u3_0
  revert hT ht F' i0 k hn ret hv9 hl hv
  revert b u t1 v u9 v9
  refine no_implicit_lambda% (clZ cZ.V.T.V.N.T.B ?_)
  refine gZ6 ?_
  intro zc3 b u t1 v u9 v9
  clear_value b u t1 v u9 v9
  intros hT ht F' i0 k hn ret hv9 hl hv
  k_steps
  refine ret _ _ _ (Fr.keep ‹_›) ‹_› (?_ : TyAt _ _ _ (.ref b u9)); k_extra "h1"
 ·obtain ⟨t1, c, v, z, i0, o0, i1, o1, k, l⟩ := ht.pairJ
  obtain ⟨u9, y9, rfl⟩ := two_of hn
  obtain ⟨v9, z9, rfl, hv9, hz9⟩ := hv.two
  rename_i u4_0 u4_1
  revert hT ht F' i0 i1 o1 k l hn ret hl hv hv9 hz9
  revert u r t1 c v z u9 y9 v9 z9
  refine no_implicit_lambda% (clZ cZ.V.V.T.T.V.V.N.N.T.T ?_)
  refine fZ8 ?_
  intro zc4_0 u r t1 c v z u9 y9
  clear_value u r t1 c v z u9 y9
  refine gZ2 ?_
  intro zc4 v9 z9
  clear_value v9 z9
  intros hT ht F' i0 i1 o1 k l hn ret hl hv hv9 hz9
  k_steps
  refine ret _ _ _ (Fr.keep ‹_›) ‹_› (?_ : TyAt _ _ _ (.pair u9 y9)); k_extra "h1")) ?y := by k_extra "cv"
 k_extra "zz"
def Ev (g : Heap) (L : Addr) (l : List (Addr × Obj)) (P : Heap → Prop) : Prop := ∀ h m, Fr g L h m → News g L h l → P h
noncomputable def restH (g : Heap) (L : Addr) (mu : List Addr) (h : Heap) : List (Addr × Obj) :=
 (List.range h.objs.size).filterMap fun b => match h.get? b with
  | some o => if (g.get? b).isNone && (b != L) && !mu.contains b then some (b, o) else none
  | none => none
theorem mem_restH {g : Heap} {L : Addr} {mu : List Addr} {h : Heap} {p : Addr × Obj} : p ∈ restH g L mu h ↔ h.get? p.1 = some p.2 ∧ g.get? p.1 = none ∧ p.1 ≠ L ∧ p.1 ∉ mu := by
 refine @disc _ ?y ?e
 case e =>
 haveI h : @Eq (PLift _) (PLift.up (by
 obtain ⟨b, o⟩ := p
 revert g L mu h b o
 refine no_implicit_lambda% (clZ cZ.O.N.H.h.N.H ?_)
 refine gZ6 ?_
 intro zc0 g L mu h b o
 clear_value g L mu h b o
 unfold restH
 rw [List.mem_filterMap]
 constructor
 ·rintro ⟨c, hc, e⟩
  split at e
  ·rename_i o' ho
   split at e
   ·rename_i q
    cases e
    simp only [Bool.and_eq_true, Option.isNone_iff_eq_none, bne_iff_ne, ne_eq, Bool.not_eq_true'] at q
    refine ⟨ho, q.1.1, q.1.2, fun hm => ?_⟩
    have := List.contains_iff_mem.mpr hm
    rw [q.2] at this; cases this
   ·cases e
  ·cases e
 ·rintro ⟨h1, h2, h3, h4⟩
  dsimp only at h1 h2 h3 h4
  refine ⟨b, List.mem_range.mpr (Heap.lt_size h1), ?_⟩
  rw [h1]
  have e1 : (g.get? b).isNone = true := by rw [h2]; rfl
  have e2 : (b != L) = true := bne_iff_ne.mpr h3
  have e3 : mu.contains b = false := by
   cases q : mu.contains b with
   | false => rfl
   | true => exact absurd (List.contains_iff_mem.mp q) h4
  simp [h2, h3, h4])) ?y := by k_extra "cv"
 k_extra "zz"
section
variable {g h h' : Heap} {L : Addr} {m : Str → Option Value} {news l l' : List (Addr × Obj)} {mu : List Addr} {P : Heap → Prop}
theorem rest_news : News g L h (restH g L mu h) := fun p hp => let ⟨a, b, c, _⟩ := mem_restH.mp hp; ⟨a, c, b⟩
theorem rest_newsF (_F : Fr g L h m) : News g L h (restH g L [] h) := rest_news
theorem rest_sub (N : News g L h l) (k : h.StaysIn h') (hm : ∀ p ∈ l, p.1 ∉ mu) : ∀ p ∈ l, p ∈ restH g L mu h' := fun p hp =>
 mem_restH.mpr ⟨k _ _ (N p hp).1, (N p hp).2.2, (N p hp).2.1, hm p hp⟩
theorem rest_sub0 (N : News g L h l) (k : h.StaysIn h') : ∀ p ∈ l, p ∈ restH g L [] h' := rest_sub N k fun _ _ h => nomatch h
theorem news_sub (N : News g L h l') (s : ∀ p ∈ l, p ∈ l') : News g L h l := fun p hp => N p (s p hp)
theorem news_tl {q : Addr × Obj} (N : News g L h (q :: l)) : News g L h l := fun p hp => N p (.tail _ hp)
theorem Ev.here (e : Ev g L l P) (F : Fr g L h m) (N : News g L h l) : P h := e h m F N
theorem ev_obj {b : Addr} {o : Obj} (F : Fr g L h m) (hb : h.get? b = some o) (hL : b ≠ L) (hm : b ∉ mu) {h₂ : Heap} {m₂ : Str → Option Value} (F₂ : Fr g L h₂ m₂) (N₂ : News g L h₂ (restH g L mu h)) : h₂.get? b = some o := by
 cases q : g.get? b with
 | some o' =>
  have := F.keep b o' q
  rw [hb] at this
  cases this
  exact F₂.keep b o q
 | none => exact (N₂ (b, o) (mem_restH.mpr ⟨hb, q, hL, hm⟩)).1
theorem frame_is_dict (F : Fr g L h m) {o : Obj} (e : h.get? L = some o) : ∃ es ep, o.data = .dict es ep := by
 obtain ⟨o', es, ep, h1, h2, _⟩ := F.ns
 rw [e] at h1
 cases h1
 exact ⟨es, ep, h2⟩
theorem isTup_ne {a : Addr} {items : Array Value} (F : Fr g L h m) (x : IsTup h a items) : a ≠ L := by
 rintro rfl
 obtain ⟨o, ho, _, n, hd⟩ := x
 obtain ⟨es, ep, e⟩ := frame_is_dict F ho
 rw [hd] at e; cases e
theorem ev_tup {a : Addr} {items : Array Value} (F : Fr g L h m) (x : IsTup h a items) (hm : a ∉ mu) : Ev g L (restH g L mu h) (fun h => IsTup h a items) := by
 intro h₂ m₂ F₂ N₂
 obtain ⟨o, ho, r⟩ := id x
 exact ⟨o, ev_obj F ho (isTup_ne F x) hm F₂ N₂, r⟩
theorem ev_tup0 {a : Addr} {items : Array Value} (F : Fr g L h m) (x : IsTup h a items) : Ev g L (restH g L [] h) (fun h => IsTup h a items) := ev_tup F x fun h => nomatch h
theorem ev_list {a : Addr} {items : Array Value} (F : Fr g L h m) (x : h.IsList a items) (hm : a ∉ mu) : Ev g L (restH g L mu h) (fun h => h.IsList a items) := by
 intro h₂ m₂ F₂ N₂
 obtain ⟨o, ho, c, n, hd⟩ := id x
 refine ⟨o, ev_obj F ho ?_ hm F₂ N₂, c, n, hd⟩
 rintro rfl
 obtain ⟨es, ep, e⟩ := frame_is_dict F ho
 rw [hd] at e; cases e
def HasIn (g : Heap) (l : List (Addr × Obj)) : Addr → Prop := fun a => (∃ o, g.get? a = some o) ∨ ∃ o, (a, o) ∈ l
abbrev TyE (ok : Addr → Prop) (g : Heap) (L : Addr) (l : List (Addr × Obj)) (v : Value) (t : Ty) : Prop := Ev g L l fun h => TyAt (fun a => ok a ∧ HasIn g l a) h v t
theorem tyE_of {ok ok' : Addr → Prop} {v : Value} {t : Ty} (F : Fr g L h m) (x : TyAt ok h v t) (hm : ∀ a, ok a → a ∉ mu) (ho : ∀ a, ok a → ok' a) : TyE ok' g L (restH g L mu h) v t := by
 intro h₂ m₂ F₂ N₂
 refine x.move fun a items it oka => ⟨ev_tup F it (hm a oka) _ _ F₂ N₂, ho a oka, ?_⟩
 have hL := isTup_ne F it
 obtain ⟨o, e, _⟩ := it
 cases q : g.get? a with
 | some o' => exact .inl ⟨o', q⟩
 | none => exact .inr ⟨o, mem_restH.mpr ⟨e, q, hL, hm a oka⟩⟩
theorem tyE_of0 {ok : Addr → Prop} {v : Value} {t : Ty} (F : Fr g L h m) (x : TyAt ok h v t) : TyE ok g L (restH g L [] h) v t := tyE_of F x (fun _ _ h => nomatch h) fun _ h => h
theorem tyE_base {ok : Addr → Prop} {v : Value} {t : Ty} (x : TyAt ok g v t) : TyE ok g L l v t := fun h m F _ =>
 x.move fun a items it o => ⟨it.keeps F.keep, o, .inl (by obtain ⟨o, e, _⟩ := it; exact ⟨o, e⟩)⟩
theorem HasIn.up {a : Addr} (s : ∀ p ∈ l, p ∈ l') (x : HasIn g l a) : HasIn g l' a := x.imp id fun ⟨o, h⟩ => ⟨o, s _ h⟩
theorem TyE.up {ok : Addr → Prop} {v : Value} {t : Ty} (s : ∀ p ∈ l, p ∈ l') (e : TyE ok g L l v t) : TyE ok g L l' v t := fun h m F N => (e h m F (news_sub N s)).imp fun _ x => ⟨x.1, x.2.up s⟩
theorem Ev.up (s : ∀ p ∈ l, p ∈ l') (e : Ev g L l P) : Ev g L l' P := fun h m F N => e h m F (news_sub N s)
theorem HasIn.off {a : Addr} (x : HasIn g l a) (h1 : ∀ p ∈ l, p.1 ∉ mu) (h2 : ∀ b ∈ mu, g.get? b = none) : a ∉ mu := by
 intro hm
 rcases x with ⟨o, e⟩ | ⟨o, hp⟩
 ·rw [h2 a hm] at e; cases e
 ·exact h1 _ hp hm
end
section
variable {prog : Program} {w : World} {A : Around} {E : Value → Shared → Prop} {s : Shared} {g : Heap} {L : Addr} {m : Str → Option Value} {Q : Value → Shared → Prop} {l : List (Addr × Obj)}
end
def SrcTup (g : Heap) (a : Addr) (its : Array Value) (l : List (Addr × Obj)) : Prop := IsTup g a its ∨ ∃ o, (a, o) ∈ l ∧ o.cls = .type "tuple" ∧ ∃ n, o.data = .seq its n
theorem SrcTup.at {g h : Heap} {L a : Addr} {its : Array Value} {l : List (Addr × Obj)} (x : SrcTup g a its l) (k : g.StaysIn h) (N : News g L h l) : IsTup h a its := by
 rcases x with ⟨o, e, r⟩ | ⟨o, hm, r⟩
 ·exact ⟨o, k _ _ e, r⟩
 ·exact ⟨o, (N _ hm).1, r⟩
theorem SrcTup.rest {g h : Heap} {L a : Addr} {its : Array Value} {m : Str → Option Value} {mu : List Addr} (F : Fr g L h m) (x : IsTup h a its) (hm : a ∉ mu) : SrcTup g a its (restH g L mu h) := by
 have hL := isTup_ne F x
 obtain ⟨o, e, r⟩ := x
 cases q : g.get? a with
 | some o' =>
  have := F.keep _ _ q
  rw [e] at this
  cases this
  exact .inl ⟨o, q, r⟩
 | none => exact .inr ⟨o, mem_restH.mpr ⟨e, q, hL, hm⟩, r⟩
section
variable {prog : Program} {w : World} {A : Around} {E : Value → Shared → Prop} {s : Shared} {g : Heap} {L : Addr} {m : Str → Option Value} {env : Env}
inductive CompT (prog : Program) (w : World) (A : Around) (g : Heap) (L : Addr) (m : Str → Option Value) (env : Env) (elt : PySem.Expr) (x : Str) (scope : Scope) (cl : List (Str × Addr)) (Fin : Shared → List Value → List (Addr × Obj) → Prop) (xv : Value) (s₁ : Shared) : Prop
 | mk : ∀ ax its l, (xv = .ref ax) → (A.handled = none) → (Fr g L s₁.heap m) → (News g L s₁.heap l) → (SrcTup g ax its l) → (its.size ≤ sizeLine) → (∀ h, LCg.CompRest prog w A g L m env elt x scope cl { s₁ with heap := h } (SrcTup g ax its) (fun i v => its[i]? = some v) (Fin { s₁ with heap := h }) its.size 0 [] l) → CompT prog w A g L m env elt x scope cl Fin xv s₁
theorem comp_T {elt iter : PySem.Expr} {x : Str} {px : Pos} {scope : Scope} {cl : List (Str × Addr)} {pos : Pos} {Q : Value → Shared → Prop} (F₀ : Fr g L s.heap m)
  (hclos : closureFor scope env = pure cl) (hcell : ∀ y ∈ scope.names, y.2 ≠ .cell) (hkind : scope.kind = .function)
  (hnames : ∀ y ∈ scope.names, y.2 = .local → scope.names.lookup y.1 = some .local) (hx : scope.names.lookup x = some .local)
  (h : wpAny (model prog w) A (eval iter env) (CompT prog w A g L m env elt x scope cl (fun s₂ => LCg.FinE g L m s₂ Q)) E s)
  (hs : ∀ x, foldedSetIterable iter env x = pure x := by intro _; rfl) :
  wpAny (model prog w) A (eval (.ListComp elt [⟨.Name x px, iter, [], 0⟩] scope pos) env) Q E s := by
 refine @disc _ ?y ?e
 case e =>
 haveI h : @Eq (PLift _) (PLift.up (by
 revert F₀ hclos hcell hkind hnames hx h hs
 revert prog w A E s g L m env elt iter x px scope cl pos Q
 refine no_implicit_lambda% (clZ cZ.Q.p.a.c.p.S.E.E.e.M.N.H.s.Q.A.W.R ?_)
 refine fZ8 ?_
 intro zc0_0 prog w A E s g L m
 clear_value prog w A E s g L m
 refine fZ8 ?_
 intro zc0_1 env elt iter x px scope cl pos
 clear_value env elt iter x px scope cl pos
 refine gZ1 ?_
 intro zc0 Q
 clear_value Q
 intros F₀ hclos hcell hkind hnames hx h hs
 let _ := F₀
 rw [eval_ListComp]
 k_extra "k1"
 obtain ⟨ax, its, l, rfl, hh, F, N, S, hsz, R⟩ := h₁
 have hl : IsTup s₁.heap ax its := S.at F.keep N
 have hlt : ax < s₁.heap.objs.size := hl.lt
 refine wpAny_pyIter_tuple hl ?_
 have up : ∀ b o, s₁.heap.get? b = some o → (s₁.heap.push { cls := .type "tuple_iterator", data := .fields #[.ref ax, .int 0 0] }).get? b = some o := fun b o e => Heap.get?_push_of_some _ e
 refine LCg.block_U (Walks.tuple hh s₁.heap.objs.size ax (Nat.ne_of_lt hlt) its) hsz (fun i h st => by obtain ⟨o, e, _⟩ := st.1; exact ⟨o, e⟩)
  (fun i h h' o nw st e e' k N' S' => ⟨by obtain ⟨o', q, r⟩ := st.1; rw [e] at q; cases q; exact ⟨o, e', r⟩, S'.at k N'⟩) hcell hkind hx ⟨⟨_, Heap.get?_push_size _ rfl, rfl, rfl⟩, IsTup.push hl _⟩ (fun b hb => ?_)
  (F.keeps up) (N.grown up) (Nat.ne_of_lt F.ns.lt) (next_is_new F) (fun p hp => Nat.ne_of_lt (Heap.lt_size (N p hp).1)) S (R _) ?_
 ·show b < (s₁.heap.push _).objs.size
  rw [Heap.size_push]
  rcases List.mem_cons.mp hb with rfl | hb
  ·exact Nat.lt_succ_self _
  ·rw [List.mem_singleton.mp hb]; exact Nat.lt_succ_of_lt hlt
 ·intro D C h tk m' ys news' F' N' o1 hn hC₀ hD₀ hCL hDL hCD offC fin
  refine ⟨m', hn, fun h'' hs'' => fin D h'' tk (F'.change hs'' hCL hC₀) (fun p hp => ?_) o1⟩
  refine ⟨hs''.extBut _ _ ?_ (N' p hp).1, (N' p hp).2⟩
  k_extra "v0"
  ·exact Ne.symm hCD
  ·exact offC p hp)) ?y := by k_extra "cv"
 k_extra "zz"
end
section
variable {prog : Program} {w : World} {A : Around} {E : Value → Shared → Prop} {s : Shared} {g : Heap} {L : Addr} {m : Str → Option Value} {env : Env}
theorem turns_pure {elt : PySem.Expr} {x : Str} {scope : Scope} {cl : List (Str × Addr)} {ax : Addr} {its : List Value} {l : List (Addr × Obj)} {Fin : List Value → List (Addr × Obj) → Prop} (PE : List (Addr × Obj) → Nat → Value → Prop)
  (mono : ∀ l l' i r, (∀ p ∈ l, p ∈ l') → PE l i r → PE l' i r) (hsrc : SrcTup g ax its.toArray l)
  (turn : ∀ i v C oC m₂ h tk l' mu, its[i]? = some v → LCg.NsObj oC m₂ → m₂ x = some v → Fr g L h m → News g L h ((C, oC) :: l') → (∀ p ∈ l, p ∈ l') → (∀ p ∈ l', p.1 ∉ mu) → (∀ b ∈ mu, g.get? b = none ∧ h.get? b ≠ none) →
   ∀ (Q' E' : Value → Shared → Prop), (∀ r h'' tk'', h.StaysIn h'' → Fr g L h'' m → PE (restH g L mu h'') i r → Q' r { s with heap := h'', toks := tk'' }) → wpAny (model prog w) A (eval elt (compEnvC scope cl C env)) Q' E' { s with heap := h, toks := tk })
  (fin : ∀ ys l', (∀ p ∈ l, p ∈ l') → ys.length = its.length → (∀ i r, ys[i]? = some r → PE l' i r) → Fin ys l') :
  LCg.CompRest prog w A g L m env elt x scope cl s (SrcTup g ax its.toArray) (fun i v => its.toArray[i]? = some v) Fin its.length 0 [] l := by
 have all : ∀ k i ys l', i + k = its.length → ys.length = i → (∀ p ∈ l, p ∈ l') → SrcTup g ax its.toArray l' → (∀ i r, ys[i]? = some r → PE l' i r) →
   LCg.CompRest prog w A g L m env elt x scope cl s (SrcTup g ax its.toArray) (fun i v => its.toArray[i]? = some v) Fin k i ys l' := by
  intro k
  induction k with
  | zero => intro i ys l' hi hl sub _ hy; exact fin ys l' sub (hl.trans hi) hy
  | succ k ih =>
   intro i ys l' hi hl sub S hy
   intro v I oI C oC D m₂ h tk E' hP hNs hx F N off ne
   have off' : ∀ p ∈ l', p.1 ∉ [I, C, D] := fun p hp hm => by
    have := off.mem p hp
    rcases List.mem_cons.mp hm with e | hm
    ·exact this.1 e
    rcases List.mem_cons.mp hm with e | hm
    ·exact this.2.1 e
    ·exact this.2.2 (List.mem_singleton.mp hm)
   have NI := N (I, oI) (.head _)
   have NC := N (C, oC) (.tail _ (.head _))
   have ND := N (D, LCg.lst ys) (.tail _ (.tail _ (.head _)))
   have hmu : ∀ b ∈ [I, C, D], g.get? b = none ∧ h.get? b ≠ none := fun b hb => by
    rcases List.mem_cons.mp hb with rfl | hb
    ·exact ⟨NI.2.2, fun e => nomatch NI.1.symm.trans e⟩
    rcases List.mem_cons.mp hb with rfl | hb
    ·exact ⟨NC.2.2, fun e => nomatch NC.1.symm.trans e⟩
    ·rw [List.mem_singleton.mp hb]; exact ⟨ND.2.2, fun e => nomatch ND.1.symm.trans e⟩
   refine turn i v C oC m₂ h tk l' [I, C, D] (List.getElem?_toArray.symm.trans hP) hNs hx F (fun p hp => ?_) sub off' hmu _ _ fun r h'' tk'' st F'' hr => ?_
   ·rcases List.mem_cons.mp hp with rfl | hp
    ·exact NC
    ·exact N p (.tail _ (.tail _ (.tail _ hp)))
   ·have Nl : News g L h l' := fun p hp => N p (.tail _ (.tail _ (.tail _ hp)))
    have sub' := rest_sub Nl st off'
    have hax : ax ∉ [I, C, D] := by
     rcases S with ⟨o, e, _⟩ | ⟨o, hp, _⟩
     ·intro hm; rw [(hmu ax hm).1] at e; cases e
     ·exact off' _ hp
    refine LCg.CompEnd.intro (all := (I, oI) :: (C, oC) :: (D, LCg.lst ys) :: restH g L [I, C, D] h'') F'' (fun p hp => ?_) (restH g L [I, C, D] h'') (fun p hp => hp) (LCg.Off3.of fun p hp => ?_) (SrcTup.rest F'' (S.at F''.keep fun p hp => ⟨st _ _ (Nl p hp).1, (Nl p hp).2⟩) hax) ?_
    ·rcases List.mem_cons.mp hp with rfl | hp
     ·exact ⟨st _ _ NI.1, NI.2⟩
     k_extra "v0"
     ·exact ⟨st _ _ NC.1, NC.2⟩
     k_extra "v0"
     ·exact ⟨st _ _ ND.1, ND.2⟩
     ·exact rest_news p hp
    ·have := (mem_restH.mp hp).2.2.2
     exact ⟨fun e => this (e ▸ .head _), fun e => this (e ▸ .tail _ (.head _)), fun e => this (e ▸ .tail _ (.tail _ (.head _)))⟩
    ·refine ih (i + 1) (ys ++ [r]) _ ((Nat.succ_add i k).trans hi) (List.length_append.trans (congrArg Nat.succ hl)) (fun p hp => sub' p (sub p hp)) (SrcTup.rest F'' (S.at F''.keep fun p hp => ⟨st _ _ (Nl p hp).1, (Nl p hp).2⟩) hax) fun j q hq => ?_
     rcases get_snoc hq with hq | ⟨rfl, rfl⟩
     ·exact mono _ _ _ _ sub' (hy j q hq)
     ·rw [hl]; exact hr
 exact all its.length 0 [] l (Nat.zero_add _) rfl (fun _ h => h) hsrc (fun _ _ h => nomatch h)
end
noncomputable def Ty.size : Ty → Nat
 | .box t => t.size + 1 | .ref _ t => t.size + 1 | .pair a b => max a.size b.size + 1 | _ => 0
theorem Ty.notVar (t : Ty) : ¬ ([PySem.Str.ofString "var", PySem.Str.ofString "intvar"].any fun x => x == PySem.Str.ofString t.head) = true := by
 cases t <;> (simp only [Ty.head]; decide)
theorem shallow_w (C : Cx w p loose mean mg mb A A₀ base h₀ outer env L m s.heap 10 20) {x k n : Addr} {ok : Addr → Prop} {vt : Value} {t : Ty} (I : Inst s.heap x 452 [("known", .ref k), ("is_number", .ref n)]) (ht : TyAt ok s.heap vt t)
  (ret : ∀ h' tk', s.heap.StaysIn h' → Fr h₀ L h' m → Q vt { s with heap := h', toks := tk' }) :
  wpAny (model PR w) A (PySem.call (.ref (409 : Nat)) [.ref x, vt]) Q E s := by
 refine @disc _ ?y ?e
 case e =>
 haveI h : @Eq (PLift _) (PLift.up (by
 k_fill
 revert C I ht ret
 revert x k n ok vt t
 k_extra "rv"
 refine no_implicit_lambda% (clZ (cPm cZ.T.V.P.N.N.N) ?_)
 k_extra "ld"
 refine gZ6 ?_
 intro zc0 x k n ok vt t
 clear_value x k n ok vt t
 intros C I ht ret
 k_extra "oC"
 have h1 := t.notVar
 obtain ⟨a2, tk2, rest2, rfl, hT2⟩ := ht.head
 k_extra "c0"
 k_steps
 exact ret _ _ (Fr.keep ‹_›) ‹_›)) ?y := by k_extra "cv"
 k_extra "zz"
theorem TyAll.length {ok : Addr → Prop} {h : Heap} {vs : List Value} {ts : List Ty} (x : TyAll ok h vs ts) : vs.length = ts.length := x.1
theorem TyAll.at {ok : Addr → Prop} {h : Heap} {vs : List Value} {ts : List Ty} (x : TyAll ok h vs ts) {i : Nat} {v : Value} (e : vs[i]? = some v) : ∃ t, ts[i]? = some t ∧ TyAt ok h v t := x.2 i v e
theorem TyAll.of {ok : Addr → Prop} {h : Heap} {ts : List Ty} {vs : List Value} (hl : vs.length = ts.length) (H : ∀ (i : Nat) (r : Value), vs[i]? = some r → ∃ t, ts[i]? = some t ∧ TyAt ok h r t) : TyAll ok h vs ts := ⟨hl, H⟩
section
variable {prog : Program} {w : World} {A : Around} {E : Value → Shared → Prop} {s : Shared} {g : Heap} {L : Addr} {m : Str → Option Value} {env : Env}
theorem turns_ty {elt : PySem.Expr} {x : Str} {scope : Scope} {cl : List (Str × Addr)} {ax : Addr} {its : List Value} {l : List (Addr × Obj)} {Fin : List Value → List (Addr × Obj) → Prop} (ok : Addr → Prop) {ts : List Ty} (hlen : its.length = ts.length) (hsrc : SrcTup g ax its.toArray l)
  (turn : ∀ (i : Nat) (v : Value) (t : Ty) (C : Addr) (oC : Obj) (m₂ : Str → Option Value) (h : Heap) (tk : Nat) (l' : List (Addr × Obj)) (mu : List Addr), its[i]? = some v → ts[i]? = some t → LCg.NsObj oC m₂ → m₂ x = some v → Fr g L h m → News g L h ((C, oC) :: l') → (∀ p ∈ l, p ∈ l') → (∀ p ∈ l', p.1 ∉ mu) → (∀ b ∈ mu, g.get? b = none ∧ h.get? b ≠ none) →
   ∀ (Q' E' : Value → Shared → Prop), (∀ r h'' tk'', h.StaysIn h'' → Fr g L h'' m → TyAt (fun a => ok a ∧ a ∉ mu) h'' r t → Q' r { s with heap := h'', toks := tk'' }) → wpAny (model prog w) A (eval elt (compEnvC scope cl C env)) Q' E' { s with heap := h, toks := tk })
  (fin : ∀ ys l', (∀ p ∈ l, p ∈ l') → (∀ h m, Fr g L h m → News g L h l' → TyAll (fun a => ok a ∧ HasIn g l' a) h ys ts) → Fin ys l') :
  LCg.CompRest prog w A g L m env elt x scope cl s (SrcTup g ax its.toArray) (fun i v => its.toArray[i]? = some v) Fin its.length 0 [] l := by
 refine turns_pure (fun l i r => ∃ t', ts[i]? = some t' ∧ TyE ok g L l r t') ?_ hsrc ?_ ?_
 ·rintro l l' i r sub ⟨t', e, x⟩
  exact ⟨t', e, TyE.up sub x⟩
 ·intro i v C oC m₂ h tk l' mu hi hNs hx F N sub off hmu Q' E' k
  have hi' : i < ts.length := by rw [← hlen]; exact (List.getElem?_eq_some_iff.mp hi).1
  refine turn i v ts[i] C oC m₂ h tk l' mu hi (List.getElem?_eq_getElem hi') hNs hx F N sub off hmu Q' E' fun r h'' tk'' st F'' ty => k r h'' tk'' st F'' ⟨_, List.getElem?_eq_getElem hi', tyE_of F'' ty (fun a h => h.2) fun a h => h.1⟩
 ·intro ys l' sub hl hy
  refine fin ys l' sub fun h m F N => TyAll.of (by rw [hl, hlen]) fun i r hr => ?_
  obtain ⟨t', e, x⟩ := hy i r hr
  exact ⟨t', e, x h m F N⟩
end
theorem cellMe {l : List (Addr × Obj)} {b : Addr} {o : Obj} (v : Value) (_me : (b, o) ∈ l) (d : o.data = .cell (some v)) : o.data = .cell (some v) := d
theorem okMu {g h : Heap} {L : Addr} {m : Str → Option Value} {ok : Addr → Prop} {mu : List Addr} {a : Addr} (F : Fr g L h m) (hmu : ∀ b ∈ mu, g.get? b = none ∧ h.get? b ≠ none) (x : okF (fun a => okF ok g a ∧ a ∉ mu) h a) : okF ok g a ∧ a ∉ mu := by
 rcases x with x | x
 ·exact x
 ·refine ⟨.inr ?_, fun hm => (hmu a hm).2 x⟩
  cases q : g.get? a with
  | none => rfl
  | some o => rw [F.keep a o q] at x; cases x
theorem okTwo {g h : Heap} {L : Addr} {m : Str → Option Value} {ok : Addr → Prop} {a : Addr} (F : Fr g L h m) (x : okF (okF ok g) h a) : okF ok g a := by
 rcases x with x | x
 ·exact x
 ·refine .inr ?_
  cases q : g.get? a with
  | none => rfl
  | some o => rw [F.keep a o q] at x; cases x
theorem TyAll.imp {ok ok' : Addr → Prop} {h : Heap} (k : ∀ a, ok a → ok' a) {vs : List Value} {ts : List Ty} (x : TyAll ok h vs ts) : TyAll ok' h vs ts := All2.imp (fun _ _ a => a.imp k) x
theorem Ty.parts_le (t : Ty) : t.parts.length ≤ 2 := by cases t <;> exact Nat.le_of_ble_eq_true rfl
theorem sz1 {a u : Ty} {n i : Nat} (k : a.size < n) (h : [a][i]? = some u) : u.size < n := by
 cases i with
 | zero => exact Option.some.inj h ▸ k
 | succ i => cases h
theorem Ty.parts_size {t u : Ty} {i : Nat} (h : t.parts[i]? = some u) : u.size < t.size := by
 cases t with
 | box a => exact sz1 (Nat.lt_succ_self a.size) h
 | ref b a => exact sz1 (Nat.lt_succ_self a.size) h
 | pair a b => cases i with
  | zero => exact Option.some.inj h ▸ Nat.lt_succ_of_le (Nat.le_max_left a.size b.size)
  | succ i => exact sz1 (Nat.lt_succ_of_le (Nat.le_max_right a.size b.size)) h
 | _ => cases h
example : True := by
 k_with "call ref cons" =>
  (
   (with_reducible show wpAny _ _ (PySem.call (Value.ref 409) _) _ _ _)
   refine' shallow_w (by k_extra "a0") ?hi ?ht ?_; (case hi => exact inst_fr ‹_› ‹_›); (case ht => exact TyAt.fr ‹_› ‹_›); refine clZ cZ.N.H ?_; refine gZ2 ?_; intro zc h' tk'; clear_value h' tk'; clear zc; intro st' F'; (have N' := rest_newsF F'); (have se' := rest_sub0 ‹_› st'); (try (have me' := se' _ (.head _))))
 k_with "eval Name" =>
  ((with_reducible show wpAny _ _ (eval (Expr.Name _ _) (compEnvC _ _ _ _)) _ _ _); k_dflt (first
   | (refine' lcf_cell ?N ?c ?m ?d ?_ ?a ?b; (case a => rfl); (case b => rfl); (case N => k_asm); (case c => rfl); (case m => exact .tail _ ‹_›); (case d => with_reducible assumption); k_whole)
   | (refine' lcf_free ?N ?c ?m ?d ?_ ?a ?b; (case a => rfl); (case b => rfl); (case N => k_asm); (case c => rfl); (case m => exact .tail _ ‹_›); (case d => with_reducible assumption); k_whole)
   | (refine' LCgL.ld_own ?N ?m ?c ?x ?_; (case N => k_asm); (case m => exact .head _); (case c => with_reducible assumption); (case x => with_reducible assumption); k_whole)))
 k_with "eval ListComp" =>
  (k_here; k_dflt (refine comp_T ‹_› (by with_unfolding_all rfl) (by decide) (by rfl) (by decide) (by rfl) ?_))
 trivial
theorem TyAll.small {ok : Addr → Prop} {h : Heap} {vs : List Value} {t : Ty} (x : TyAll ok h vs t.parts) : vs.toArray.size ≤ sizeLine := by
 show vs.length ≤ sizeLine
 rw [x.length, sizeLine_eq]; exact Nat.le_trans t.parts_le (Nat.le_of_ble_eq_true rfl)
theorem TyE.now {ok : Addr → Prop} {g h : Heap} {L : Addr} {l : List (Addr × Obj)} {m : Str → Option Value} {v : Value} {t : Ty} (e : TyE ok g L l v t) (F : Fr g L h m) (N : News g L h l) : TyAt ok h v t := (e _ _ F N).imp fun _ x => x.1
theorem tyE_baseN {ok : Addr → Prop} {g h : Heap} {l : List (Addr × Obj)} {v : Value} {t : Ty} (_N : News g L h l) (x : TyAt ok g v t) : TyE ok g L l v t := tyE_base x
example : True := by
 k_with "b5" =>
  first | exact .head _ | exact .tail _ (.head _) | exact .tail _ (.tail _ (.head _)) | exact .tail _ (.tail _ (.tail _ (.head _)))
 trivial
theorem TyAt.mu {ok : Addr → Prop} {g h : Heap} {L : Addr} {m : Str → Option Value} {mu : List Addr} {v : Value} {t : Ty} (x : TyAt ok g v t) (F : Fr g L h m) (hb : ∀ b ∈ mu, g.get? b = none) : TyAt (fun a => okF ok g a ∧ a ∉ mu) h v t :=
 x.move fun a _ it o => ⟨it.keeps F.keep, .inl o, fun hm => by obtain ⟨_, e, _⟩ := it; rw [hb a hm] at e; cases e⟩
example : True := by
 k_with "a3" =>
  (with_reducible assumption)
 trivial
theorem rmap_w {cn : Str} {cs scope : Scope} {ccd : Value} {cl0 cl : List (Str × Addr)} {af : Addr} {news : List (Addr × Obj)} {x xp : Str} {elt : PySem.Expr} {q1 q2 q3 q4 q5 q6 q7 px : Pos} {ok : Addr → Prop} {vt : Value} {t : Ty} {ts : List Ty}
  (C : Cx w p loose mean mg mb A A₀ base h₀ outer (envX cn cs L af ccd cl0) L m s.heap 15 30) (N : News h₀ L s.heap news) (hv : m x = some vt) (eT : TyE (okF ok h₀) h₀ L news vt t)
  (o1 : okL cs x = true) (o2 : okG cs "rebuilt" = true) (o3 : okG cs "parts_of" = true)
  (hclos : closureFor scope (envX cn cs L af ccd cl0) = pure cl) (hcell : ∀ y ∈ scope.names, y.2 ≠ .cell) (hkind : scope.kind = .function) (hnames : ∀ y ∈ scope.names, y.2 = .local → scope.names.lookup y.1 = some .local) (hx : scope.names.lookup xp = some .local)
  (hlen : ts.length = t.parts.length)
  (turn : ∀ (i : Nat) (v : Value) (t' t2 : Ty) (D : Addr) (oD : Obj) (m₂ : Str → Option Value) (h : Heap) (tk : Nat) (l' : List (Addr × Obj)) (mu : List Addr), t.parts[i]? = some t' → ts[i]? = some t2 → LCg.NsObj oD m₂ → m₂ xp = some v → Fr h₀ L h m → News h₀ L h ((D, oD) :: l') → (∀ p ∈ news, p ∈ l') → (∀ b ∈ mu, h₀.get? b = none) → TyAt (fun a => okF ok h₀ a ∧ a ∉ mu) h v t' →
   ∀ (Q' E' : Value → Shared → Prop), (∀ r h'' tk'', h.StaysIn h'' → Fr h₀ L h'' m → TyAt (okF (fun a => okF ok h₀ a ∧ a ∉ mu) h) h'' (.ref r) t2 → Q' (.ref r) { s with heap := h'', toks := tk'' }) → wpAny (model PR w) A (eval elt (compEnvC scope cl D (envX cn cs L af ccd cl0))) Q' E' { s with heap := h, toks := tk })
  (ret : ∀ r h' tk', Fr h₀ L h' m → TyAt (okF ok h₀) h' (.ref r) (t.rebuild ts) → Q (.ref r) { s with heap := h', toks := tk' }) :
  wpAny (model PR w) A (eval (.Call (.Name "rebuilt" q1) [.Name x q2, .ListComp elt [⟨.Name xp px, .Call (.Name "parts_of" q3) [.Name x q4] [] q5, [], 0⟩] scope q6] [] q7) (envX cn cs L af ccd cl0)) Q E s := by
 refine @disc _ ?y ?e
 case e =>
 haveI h : @Eq (PLift _) (PLift.up (by
 k_fill
 revert C N hv eT o1 o2 o3 hclos hcell hkind hnames hx hlen turn ret
 revert w p loose mean mg mb A A₀ base h₀ outer L m s Q E cn cs scope ccd cl0 cl af news x xp elt q1 q2 q3 q4 q5 q6 q7 px ok vt t ts
 refine no_implicit_lambda% (clZ cZ.u.T.V.P.p.p.p.p.p.p.p.p.E.S.S.l.N.a.a.V.c.c.S.Q.Q.s.M.N.z.H.H.A.A.M.M.X.t.R.W ?_)
 refine fZ8 ?_
 intro zc0_0 w p loose mean mg mb A A₀
 clear_value w p loose mean mg mb A A₀
 refine fZ8 ?_
 intro zc0_1 base h₀ outer L m s Q E
 clear_value base h₀ outer L m s Q E
 refine fZ8 ?_
 intro zc0_2 cn cs scope ccd cl0 cl af news
 clear_value cn cs scope ccd cl0 cl af news
 refine fZ8 ?_
 intro zc0_3 x xp elt q1 q2 q3 q4 q5
 clear_value x xp elt q1 q2 q3 q4 q5
 refine gZ7 ?_
 intro zc0 q6 q7 px ok vt t ts
 clear_value q6 q7 px ok vt t ts
 intros C N hv eT o1 o2 o3 hclos hcell hkind hnames hx hlen turn ret
 k_extra "oC"
 iterate 6 k_extra "h0"
 refine comp_T ‹_› hclos hcell hkind hnames hx ?_
 repeat ((fail_if_success (with_reducible show wpAny _ _ (PySem.call (Value.ref 244) _) _ _ _)); k_extra "h0")
 refine parts_of_w ⟨B, F, X, T, hA, hf, hke, hh, rm_d hdp rfl, rm_u hun rfl⟩ (ok := okF ok h₀) (TyE.now eT F N) ?_
 refine clZ cZ.N.H.L.N ?_; refine gZ4 ?_; intro zc a9 vs9 h9 tk9; clear_value a9 vs9 h9 tk9; clear zc; intro st9 F9 it9 ok9 ta9
 have N9 := rest_newsF F9
 have sub9 := rest_sub0 N st9
 have eT9 := TyE.up sub9 eT
 refine ⟨a9, vs9.toArray, restH h₀ _ [] h9, rfl, hh, F9, N9, SrcTup.rest F9 it9 (fun h => nomatch h), ta9.small, ?_⟩
 refine clZ cZ.H ?_; refine gZ1 ?_; intro zc h10; clear_value h10; clear zc
 refine turns_ty (okF ok h₀) (ts := ts) (by rw [ta9.length, hlen]) (SrcTup.rest F9 it9 (fun h => nomatch h)) ?turn ?fin
 case turn =>
  intro i v t2 D oD m₂ h tk l' mu hi h2 hNs hy F' N' sub off hmu Q' E' kk
  obtain ⟨t', et, tv⟩ := ta9.at hi
  have tv' := tyE_of0 F9 tv
  exact turn i v t' t2 D oD m₂ h tk l' mu et h2 hNs hy F' N' (fun p hp => sub _ (sub9 _ hp)) (fun b hb => (hmu b hb).1) ((tv'.up sub _ _ F' (news_tl N')).imp fun a x => ⟨x.1, x.2.off off fun b hb => (hmu b hb).1⟩) Q' E' fun r h'' tk'' st' F'' ty => kk _ _ _ st' F'' (ty.imp fun a x => okMu F' hmu x)
 case fin =>
  refine clZ cZ.l.L ?_; refine gZ2 ?_; intro zc ys l'; clear_value ys l'; clear zc; intro sub H
  refine clZ cZ.N.H.N ?_; refine gZ3 ?_; intro zc D' h tk; clear_value D' h tk; clear zc; intro F0 N0 off0
  k_steps
  refine rebuilt_w ⟨B, F0, X, T, hA, hf, hke, hh, rm_d hdp rfl, rm_u hun rfl⟩ (ok := okF ok h₀) (TyE.now (TyE.up sub eT9) F0 (news_tl N0)) (News.isList N0 (.head _)) ((H _ _ F0 (news_tl N0)).imp fun _ x => x.1) hlen ?_
  refine clZ cZ.N.H.N ?_; refine gZ3 ?_; intro zc r h1 tk1; clear_value r h1 tk1; clear zc; intro st1 F1 ty1
  exact ret _ _ _ F1 (ty1.imp fun a x => okTwo F0 x))) ?y := by k_extra "cv"
 k_extra "zz"
example : True := by
 k_with "a3" =>
  (kernel_rfl)
 trivial
theorem resolved_w (n : Nat) (C : Cx w p loose mean mg mb A A₀ base h₀ outer env L m s.heap (20 + 5 * n) (40 + 20 * n)) {x k q : Addr} {ok : Addr → Prop} {vt : Value} {t : Ty} (hn : t.size < n) (I : Inst s.heap x 452 [("known", .ref k), ("is_number", .ref q)]) (ht : TyAt ok s.heap vt t)
  (ret : ∀ r h' tk', s.heap.StaysIn h' → Fr h₀ L h' m → TyAt (okF ok s.heap) h' (.ref r) t → Q (.ref r) { s with heap := h', toks := tk' }) :
  wpAny (model PR w) A (PySem.call (.ref (414 : Nat)) [.ref x, vt]) Q E s := by
 refine @disc _ ?y ?e
 case e =>
 haveI h : @Eq (PLift _) (PLift.up (by
 induction n generalizing A A₀ base h₀ outer env L m s Q E vt t ok with
 | zero => exact absurd hn (Nat.not_lt_zero _)
 | succ n ih =>
  k_fill
  k_extra "oC"
  obtain ⟨a2, rfl⟩ := ht.isRef
  revert ih hn I ret B F X T hA hf hke hh hdp hun ht
  revert x k q n ok t a2
  k_extra "rv"
  refine no_implicit_lambda% (clZ (cPm cZ.N.T.P.N.N.N.N) ?_)
  refine fPm ?_
  intro c1 w p loose mean mg mb A A₀ base h₀ outer env L m s Q E
  refine gZ7 ?_
  intro zc1 x k q n ok t a2
  clear_value x k q n ok t a2
  intros ih hn I ret B F X T hA hf hke hh hdp hun ht
  k_extra "e0"
  k_extra "n0"
  rename News s.heap L' _ _ => NL
  refine fu_retX ?_
  refine rmap_w (ok := ok) (by k_extra "a0") NL (by exact rfl) (tyE_baseN NL (ht.imp fun _ x => .inl x)) (by kernel_rfl!) (by kernel_rfl!) (by kernel_rfl!) (by with_unfolding_all rfl) (by decide) (by rfl) (by decide) (by rfl) rfl ?turn ?_
  case turn =>
   intro i v t' t2 D oD m₂ h tk l' mu et h2 hNs hx F' N' sub _ tv Q' E' kk
   rw [et] at h2; cases h2
   obtain ⟨av, rfl⟩ := tv.isRef
   have me := sub _ ‹_›
   have dS := cellMe (.ref x) me ‹_›
   k_steps
   exact ih (by k_extra "a0") (Nat.lt_of_lt_of_le (Ty.parts_size et) (Nat.le_of_lt_succ hn)) (inst_fr I F') tv fun r h'' tk'' st' F'' ty => kk _ _ _ st' F'' ty
  rw [Ty.rebuild_parts]
  k_extra "r1"
  have N1 := rest_newsF F1
  k_steps
  exact ret _ _ _ (Fr.keep ‹_›) ‹_› ty1)) ?y := by k_extra "cv"
 k_extra "zz"
noncomputable abbrev KD (w : World) : KeyKind PR w PySem.Str := strKind PR w
structure DictAt (w : World) (h : Heap) (d : Addr) (kvs : List (PySem.Str × Value)) : Prop where
 out : h.DictOf (KD w) d kvs
 low : (d == sysModules) = false
theorem DictAt.keeps {w : World} {h h' : Heap} {d : Addr} {kvs : List (PySem.Str × Value)} (k : h.StaysIn h') (D : DictAt w h d kvs) : DictAt w h' d kvs := ⟨D.out.keep fun b o e => k b o e, D.low⟩
section
variable {w : World} {A : Around} {E : Value → Shared → Prop} {s : Shared} {g : Heap} {L d : Addr} {m : Str → Option Value} {kvs : List (PySem.Str × Value)} {k : PySem.Str} {t : Tok} {v dflt : Value}
theorem dget_meth {pl : Sem Bool} {Q : Value × List Value → Shared → Prop} (F : Fr g L s.heap m) (D : DictAt w g d kvs) (h : Q (.builtin "dict.get", [.ref d]) s) : wpAny (model PR w) A (getMethod (.ref d) "get" pl) Q E s :=
 have hD := (D.keeps F.keep).out
 getMethod_builtin hD.typeIs PySem.F.plainAttrs_dict PySem.F.slot_dict_get PySem.F.type_dict_get hD.mapOf.noDict h
theorem dget_2 {Q : Value → Shared → Prop} (F : Fr g L s.heap m) (D : DictAt w g d kvs) (hl : valueAt kvs k = some v) (h : Q v { s with toks := s.toks + 1 }) :
  wpAny (model PR w) A (call (.builtin "dict.get") [.ref d, .str k t, dflt]) Q E s :=
 have hD := (D.keeps F.keep).out
 call_meetsIn PySem.F.slot_dict_get hD.typeIs PySem.F.entry_dict_get (PySem.F.args_dict_get_3 _ _ _) (meets_dict_get_default (KD w) d (strKind_is _ _ _ _) D.low dflt) ⟨_, hD.mapOf, by rw [hl]; exact h⟩
theorem dget_item {value slice : PySem.Expr} {Q : Value → Shared → Prop} (F : Fr g L s.heap m) (D : DictAt w g d kvs) (hl : valueAt kvs k = some v) (h : Q v { s with toks := s.toks + 1 })
  (hs : subscripted slice false (.ref d) (.str k t) = operate [.ref d, .str k t] (getItem (.ref d) (.str k t)) := by with_unfolding_all rfl) (hg : ∀ r, letTemporaryGo value (.ref d) r = pure () := by intro _; with_unfolding_all rfl) :
  wpAny (model PR w) A (subscriptTail value slice (.ref d) (.str k t)) Q E s :=
 have hD := (D.keeps F.keep).out
 subscriptTail_builtin hD.typeIs slot_dict_getitem.lookup (wpAny_getItem_of (strKind_is _ _ _ _) hD.mapOf hl h) hs hg
end
section
variable {w : World} {A : Around} {env : Env} {h : Heap}
theorem pe_dget {e1 e2 : PySem.Expr} {pos : Pos} {t t1 t2 : Nat} {d : Addr} {k : PySem.Str} {u : Tok} {v : Value} {kvs : List (PySem.Str × Value)} (p1 : PE (model PR w) A env h e1 t t1 (.ref d)) (p2 : PE (model PR w) A env h e2 t1 t2 (.str k u)) (D : DictAt w h d kvs) (hl : valueAt kvs k = some v)
  (hs : subscripted e2 false (.ref d) (.str k u) = operate [.ref d, .str k u] (getItem (.ref d) (.str k u))) : PE (model PR w) A env h (.Subscript e1 e2 pos) t (t2 + 1) v :=
 fun _ _ _ _ _ q => Subscript_ (p1 _ _ _ _ _ (p2 _ _ _ _ _ (tail_any (s := ⟨h, _, _, t2, _⟩) D.out.typeIs slot_dict_getitem.lookup (wpAny_getItem_of (strKind_is _ _ _ _) D.out.mapOf hl q) hs)))
theorem pc_in {d : Addr} {k : PySem.Str} {u : Tok} {kvs : List (PySem.Str × Value)} {b : Bool} {t : Nat} (D : DictAt w h d kvs) (hb : (valueAt kvs k).isSome = b) : PC (model PR w) A h .In (.str k u) (.ref d) t (t + 1) b :=
 fun _ _ _ _ _ q => wpAny_in_of (s := ⟨h, _, _, t, _⟩) (strKind_is _ _ _ _) D.low D.out.mapOf (by rw [hb]; exact q)
theorem DictAt.fr {g : Heap} {L d : Addr} {m : Str → Option Value} {kvs : List (PySem.Str × Value)} (D : DictAt w g d kvs) (F : Fr g L h m) : DictAt w h d kvs := D.keeps F.keep
end
noncomputable def Ty.hasParam : Ty → Bool
 | .param => true | .box t => t.hasParam | .ref _ t => t.hasParam | .pair a b => a.hasParam || b.hasParam | _ => false
noncomputable def Ty.subst : Ty → Ty → Ty
 | .param, U => U | .box t, U => .box (t.subst U) | .ref m t, U => .ref m (t.subst U) | .pair a b, U => .pair (a.subst U) (b.subst U) | t, _ => t
theorem Ty.rebuild_subst {t U : Ty} (h : t ≠ .param) : t.rebuild (t.parts.map fun x => x.subst U) = t.subst U := by
 cases t <;> first | rfl | exact absurd rfl h
theorem Ty.subst_none {t U : Ty} (h : t.hasParam = false) : t.subst U = t := by
 induction t with
 | box a ih => exact congrArg Ty.box (ih h)
 | ref m a ih => exact congrArg (Ty.ref m) (ih h)
 | pair a b ih1 ih2 => exact (congr (congrArg Ty.pair (ih1 (Bool.or_eq_false_iff.mp h).1)) (ih2 (Bool.or_eq_false_iff.mp h).2) : Ty.pair (a.subst U) (b.subst U) = _)
 | param => exact Bool.noConfusion (h : true = false)
 | _ => rfl
theorem hp1 {a u : Ty} {i : Nat} (h : [a][i]? = some u) (hp : u.hasParam = true) : a.hasParam = true := by
 cases i with
 | zero => exact (Option.some.inj h).symm ▸ hp
 | succ i => cases h
theorem Ty.parts_param {t u : Ty} {i : Nat} (h : t.parts[i]? = some u) (hp : u.hasParam = true) : t.hasParam = true := by
 cases t with
 | box a => exact hp1 (a := a) h hp
 | ref m a => exact hp1 (a := a) h hp
 | pair a b => cases i with
  | zero => exact Bool.or_eq_true_iff.mpr (.inl ((Option.some.inj h).symm ▸ hp))
  | succ i => exact Bool.or_eq_true_iff.mpr (.inr (hp1 (a := b) h hp))
 | _ => cases h
example : True := by
 k_with "getMethod ref" =>
  (k_here; (with_reducible show wpAny _ _ (getMethod _ (PySem.Str.ofString "get") _) _ _ _); k_dflt (refine dget_meth ‹_› ‹_› ?_))
 k_with "call builtin:dict.get" =>
  (k_here; k_dflt (refine dget_2 ‹_› ‹_› ‹_› ?_))
 k_with "eval ListComp" =>
  (k_here; k_dflt (refine comp_T ‹_› (by with_unfolding_all rfl) (by decide) (by rfl) (by decide) (by rfl) ?_))
 k_with "eval Name" =>
  ((with_reducible show wpAny _ _ (eval (Expr.Name _ _) (compEnvC _ _ _ _)) _ _ _); k_dflt (first
   | (refine' lcf_cell ?N ?c ?m ?d ?_ ?a ?b; (case a => rfl); (case b => rfl); (case N => k_asm); (case c => rfl); (case m => exact .tail _ ‹_›); (case d => with_reducible assumption); k_whole)
   | (refine' lcf_free ?N ?c ?m ?d ?_ ?a ?b; (case a => rfl); (case b => rfl); (case N => k_asm); (case c => rfl); (case m => exact .tail _ ‹_›); (case d => with_reducible assumption); k_whole)
   | (refine' LCgL.ld_own ?N ?m ?c ?x ?_; (case N => k_asm); (case m => exact .head _); (case c => with_reducible assumption); (case x => with_reducible assumption); k_whole)
   | (refine' LCgL.ld_global ?F ?X ?T ?e ?_; (case F => k_asm); (case X => k_asm); (case T => k_asm); (case e => k_is); k_whole)))
 trivial
theorem subst_w (n : Nat) (C : Cx w p loose mean mg mb A A₀ base h₀ outer env L m s.heap (20 + 5 * n) (40 + 20 * n)) {d : Addr} {kvs : List (PySem.Str × Value)} {ok : Addr → Prop} {vt : Value} {t U : Ty} (hn : t.size < n) (D : DictAt w s.heap d kvs) (ht : TyAt ok s.heap vt t)
  (hp : t.hasParam = true → ∃ vU, valueAt kvs "Self" = some vU ∧ TyAt ok s.heap vU U)
  (ret : ∀ r h' tk', s.heap.StaysIn h' → Fr h₀ L h' m → TyAt (okF ok s.heap) h' (.ref r) (t.subst U) → Q (.ref r) { s with heap := h', toks := tk' }) :
  wpAny (model PR w) A (PySem.call (.ref (256 : Nat)) [vt, .ref d]) Q E s := by
 refine @disc _ ?y ?e
 case e =>
 haveI h : @Eq (PLift _) (PLift.up (by
 induction n generalizing A A₀ base h₀ outer env L m s Q E vt t ok with
 | zero => exact absurd hn (Nat.not_lt_zero _)
 | succ n ih =>
  k_fill
  k_extra "oC"
  revert ih hn D ht hp ret B F X T hA hf hke hh hdp hun
  revert d kvs U n ok vt t
  k_extra "rv"
  refine no_implicit_lambda% (clZ (cPm cZ.T.V.P.N.T.k.N) ?_)
  refine fPm ?_
  intro c1 w p loose mean mg mb A A₀ base h₀ outer env L m s Q E
  refine gZ7 ?_
  intro zc1 d kvs U n ok vt t
  clear_value d kvs U n ok vt t
  intros ih hn D ht hp ret B F X T hA hf hke hh hdp hun
  by_cases hpar : t = .param
  ·subst hpar
   obtain ⟨vU, hU, tU⟩ := hp rfl
   obtain ⟨aU, rfl⟩ := tU.isRef
   obtain ⟨a0, q1, q2, rfl, i0, o0⟩ := ht.paramInv
   revert hU tU ht i0 o0
   revert aU a0 q1 q2
   refine no_implicit_lambda% (clZ cZ.N.N.N.N ?_)
   refine gZ4 ?_
   intro zc2 aU a0 q1 q2
   clear_value aU a0 q1 q2
   intros hU tU ht i0 o0
   k_extra "e0"
   k_steps
   refine ret _ _ _ (Fr.keep ‹_›) ‹_› (TyAt.frO tU ‹_›)
  ·obtain ⟨a2, tk2, rest2, rfl, hT2⟩ := ht.head
   have h1 : ¬ (PySem.Str.ofString t.head == PySem.Str.ofString "param") = true := by cases t <;> first | exact absurd rfl hpar | (simp only [Ty.head]; decide)
   revert hT2 ht
   revert a2 tk2 rest2
   refine no_implicit_lambda% (clZ cZ.L.N.N ?_)
   refine gZ3 ?_
   intro zc4 a2 tk2 rest2
   clear_value a2 tk2 rest2
   intros hT2 ht
   k_extra "e0"
   k_extra "n0"
   rename News s.heap L' _ _ => NL
   refine fu_retX ?_
   refine rmap_w (ok := ok) (ts := t.parts.map fun x => x.subst U) (by k_extra "a0") NL (by exact rfl) (tyE_baseN NL (ht.imp fun _ x => .inl x)) (by kernel_rfl!) (by kernel_rfl!) (by kernel_rfl!) (by with_unfolding_all rfl) (by decide) (by rfl) (by decide) (by rfl) (List.length_map _) ?turn ?_
   case turn =>
    intro i v t' t2 D' oD m₂ h tk l' mu et h2 hNs hx F' N' sub hb tv Q' E' kk
    rw [List.getElem?_map, et] at h2; cases h2
    obtain ⟨av, rfl⟩ := tv.isRef
    have me := sub (L' + 1, _) (by k_extra "b5")
    have dS := cellMe (.ref d) me ‹_›
    k_steps
    refine ih (by k_extra "a0") (Nat.lt_of_lt_of_le (Ty.parts_size et) (Nat.le_of_lt_succ hn)) (D.keeps F'.keep) tv (fun hp' => ?_) fun r h'' tk'' st' F'' ty => kk _ _ _ st' F'' ty
    obtain ⟨vU, e1, e2⟩ := hp (Ty.parts_param et hp')
    exact ⟨vU, e1, e2.mu F' hb⟩
   rw [Ty.rebuild_subst hpar]
   k_extra "r1"
   have N1 := rest_newsF F1
   k_steps
   exact ret _ _ _ (Fr.keep ‹_›) ‹_› ty1)) ?y := by k_extra "cv"
 k_extra "zz"
example : True := by
 k_with "eval ListComp" =>
  (k_here; k_dflt (refine comp_T ‹_› (by with_unfolding_all rfl) (by decide) (by rfl) (by decide) (by rfl) ?_))
 k_with "eval Name" =>
  ((with_reducible show wpAny _ _ (eval (Expr.Name _ _) (compEnvC _ _ _ _)) _ _ _); k_dflt (first
   | (refine' lcf_cell ?N ?c ?m ?d ?_ ?a ?b; (case a => rfl); (case b => rfl); (case N => k_asm); (case c => rfl); (case m => exact .tail _ ‹_›); (case d => with_reducible assumption); k_whole)
   | (refine' lcf_free ?N ?c ?m ?d ?_ ?a ?b; (case a => rfl); (case b => rfl); (case N => k_asm); (case c => rfl); (case m => exact .tail _ ‹_›); (case d => with_reducible assumption); k_whole)
   | (refine' LCgL.ld_own ?N ?m ?c ?x ?_; (case N => k_asm); (case m => exact .head _); (case c => with_reducible assumption); (case x => with_reducible assumption); k_whole)
   | (refine' LCgL.ld_global ?F ?X ?T ?e ?_; (case F => k_asm); (case X => k_asm); (case T => k_asm); (case e => k_is); k_whole)))
 trivial
theorem noreg_w (C : Cx w p loose mean mg mb A A₀ base h₀ outer env L m s.heap 3 10) {v : Value}
  (ret : ∀ h' tk', s.heap.StaysIn h' → Fr h₀ L h' m → Q .none { s with heap := h', toks := tk' }) :
  wpAny (model PR w) A (PySem.call (.ref (268 : Nat)) [v]) Q E s := by
 refine @disc _ ?y ?e
 case e =>
 haveI h : @Eq (PLift _) (PLift.up (by
 k_fill
 revert C ret
 revert v
 k_extra "rv"
 refine no_implicit_lambda% (clZ (cPm cZ.V) ?_)
 k_extra "ld"
 refine gZ1 ?_
 intro zc0 v
 clear_value v
 intros C ret
 k_extra "oC"
 k_extra "c0"
 k_steps
 exact ret _ _ (Fr.keep ‹_›) ‹_›)) ?y := by k_extra "cv"
 k_extra "zz"
example : True := by
 k_with "call ref cons" =>
  (
   (with_reducible show wpAny _ _ (PySem.call (Value.ref 268) _) _ _ _)
   refine' noreg_w (by k_extra "a0") ?_; refine clZ cZ.N.H ?_; refine gZ2 ?_; intro zc h' tk'; clear_value h' tk'; clear zc; intro st' F'; have N' := News.grown ‹_› st')
 trivial
theorem tyE_refN {ok : Addr → Prop} {g h₁ : Heap} {l : List (Addr × Obj)} {a : Addr} {t1 : Tok} {b : Bool} {v : Value} {t : Ty} (_N : News g L h₁ ((a, { cls := .type "tuple", data := .seq #[st "ref" t1, .none, .bool b, v] }) :: l)) (e : TyE (okF ok g) g L ((a, { cls := .type "tuple", data := .seq #[st "ref" t1, .none, .bool b, v] }) :: l) v t) :
  TyE (okF ok g) g L ((a, { cls := .type "tuple", data := .seq #[st "ref" t1, .none, .bool b, v] }) :: l) (.ref a) (.ref b t) :=
 fun h m F N => .ref (News.isTup N (.head _)) ⟨.inr (N.fresh (.head _)), .inr ⟨_, .head _⟩⟩ (e h m F N)
theorem tyE_SN {ok : Addr → Prop} {g h₁ : Heap} {l : List (Addr × Obj)} {a e1 e2 : Addr} {t1 t2 : Tok} (_N : News g L h₁ ((a, { cls := .type "tuple", data := .seq #[st "adt" t1, st "S" t2, .ref e1, .ref e2] }) :: (e1, { cls := .type "tuple", data := .seq #[] }) :: l)) (h2 : IsTup g e2 [].toArray) (h3 : ok e2) :
  TyE (okF ok g) g L ((a, { cls := .type "tuple", data := .seq #[st "adt" t1, st "S" t2, .ref e1, .ref e2] }) :: (e1, { cls := .type "tuple", data := .seq #[] }) :: l) (.ref a) .S :=
 fun h m F N => .S (News.isTup N (.head _)) ⟨.inr (N.fresh (.head _)), .inr ⟨_, .head _⟩⟩ (News.isTup N (.tail _ (.head _))) ⟨.inr (N.fresh (.tail _ (.head _))), .inr ⟨_, .tail _ (.head _)⟩⟩ (h2.keeps F.keep) ⟨.inl h3, .inl (by obtain ⟨o, e, _⟩ := h2; exact ⟨o, e⟩)⟩
example : True := by
 k_with "g2" =>
  (
   refine fu_retX ?_
   refine rmap_w (ok := ok) (by k_extra "a0") NL (by exact rfl) eT (by kernel_rfl!) (by kernel_rfl!) (by kernel_rfl!) (by with_unfolding_all rfl) (by decide) (by rfl) (by decide) (by rfl) rfl ?turn ?_
   case turn =>
    intro i v t' t2 D oD m₂ h tk l' mu et h2 hNs hx F' N' sub _ tv Q' E' kk
    rw [et] at h2; cases h2
    obtain ⟨av, rfl⟩ := tv.isRef
    have me := sub (L' + 1, _) (by k_extra "b5")
    have dS := cellMe (.ref 268) me ‹_›
    k_steps
    exact ih (by k_extra "a0") (Nat.lt_of_lt_of_le (Ty.parts_size et) (Nat.le_of_lt_succ hn)) tv fun r h'' tk'' st' F'' ty => kk _ _ _ st' F'' ty
   rw [Ty.rebuild_parts]
   k_extra "r1"
   have N1 := rest_newsF F1
   k_steps
   exact ret _ _ _ (Fr.keep ‹_›) ‹_› ty1)
 trivial
theorem regions_w (n : Nat) (C : Cx w p loose mean mg mb A A₀ base h₀ outer env L m s.heap (20 + 5 * n) (40 + 20 * n)) {ok : Addr → Prop} {vt : Value} {t : Ty} (hn : t.size < n) (ht : TyAt ok s.heap vt t)
  (ret : ∀ r h' tk', s.heap.StaysIn h' → Fr h₀ L h' m → TyAt (okF ok s.heap) h' (.ref r) t → Q (.ref r) { s with heap := h', toks := tk' }) :
  wpAny (model PR w) A (PySem.call (.ref (261 : Nat)) [vt, .ref (268 : Nat)]) Q E s := by
 refine @disc _ ?y ?e
 case e =>
 haveI h : @Eq (PLift _) (PLift.up (by
 induction n generalizing A A₀ base h₀ outer env L m s Q E vt t ok with
 | zero => exact absurd hn (Nat.not_lt_zero _)
 | succ n ih =>
  k_fill
  k_extra "oC"
  revert ih hn ht ret B F X T hA hf hke hh hdp hun
  revert n ok vt t
  k_extra "rv"
  refine no_implicit_lambda% (clZ (cPm cZ.T.V.P.N) ?_)
  refine fPm ?_
  intro c1 w p loose mean mg mb A A₀ base h₀ outer env L m s Q E
  refine gZ4 ?_
  intro zc1 n ok vt t
  clear_value n ok vt t
  intros ih hn ht ret B F X T hA hf hke hh hdp hun
  rcases (by cases t <;> simp : (∃ b u, t = .ref b u) ∨ t = .S ∨ ((∀ b u, t ≠ .ref b u) ∧ t ≠ .S)) with ⟨b, u, rfl⟩ | rfl | ⟨h1, h2⟩
  ·obtain ⟨a2, t1, v2, rfl, it, o2, tu⟩ := ht.refI
   revert hn ret ht it o2 tu
   revert b u a2 t1 v2
   refine no_implicit_lambda% (clZ cZ.V.N.N.T.B ?_)
   refine gZ5 ?_
   intro zc2 b u a2 t1 v2
   clear_value b u a2 t1 v2
   intros hn ret ht it o2 tu
   k_extra "e0"
   k_extra "n0"
   rename News s.heap L' _ _ => NL
   have eT := tyE_refN (ok := ok) NL (tyE_base (TyAt.imp (fun _ x => Or.inl x) tu))
   k_extra "g2"
  ·obtain ⟨a2, t1, t2, e1, e2, rfl, it, o2, i1, o3, i2, o4⟩ := ht.SI
   revert ht it o2 i1 o3 i2 o4
   revert a2 t1 t2 e1 e2
   refine no_implicit_lambda% (clZ cZ.N.N.N.N.N ?_)
   refine gZ5 ?_
   intro zc3 a2 t1 t2 e1 e2
   clear_value a2 t1 t2 e1 e2
   intros ht it o2 i1 o3 i2 o4
   k_extra "e0"
   repeat ((fail_if_success (with_reducible show Mine.CompT _ _ _ _ _ _ _ _ _ _ _ _ _ _)); k_extra "h0")
   refine ⟨_, [].toArray, _, rfl, hh, by assumption, by assumption, .inl i1, by rw [sizeLine_eq]; exact Nat.zero_le _, fun h => ?_⟩
   revert h; refine clZ cZ.H ?_; refine gZ1 ?_; intro zc h; clear_value h; clear zc; refine clZ cZ.N.H.N ?_; refine gZ3 ?_; intro zc D2 h2 tk2; clear_value D2 h2 tk2; clear zc; intro F2 N2 off2
   k_extra "n0"
   rename News s.heap L' _ _ => NL
   have eT := tyE_SN (ok := ok) NL i2 o4
   k_extra "g2"
  ·obtain ⟨a2, tk2, rest2, rfl, hT2⟩ := ht.head
   have h1 : ¬ (PySem.Str.ofString t.head == PySem.Str.ofString "ref") = true := by cases t <;> first | exact absurd rfl (h1 _ _) | (simp only [Ty.head]; decide)
   have h2 : ¬ (PySem.Str.ofString t.head == PySem.Str.ofString "adt") = true := by cases t <;> first | exact absurd rfl h2 | (simp only [Ty.head]; decide)
   rename_i u4_0 u4_1
   revert hT2 ht
   revert a2 tk2 rest2
   refine no_implicit_lambda% (clZ cZ.L.N.N ?_)
   refine gZ3 ?_
   intro zc4 a2 tk2 rest2
   clear_value a2 tk2 rest2
   intros hT2 ht
   k_extra "e0"
   k_extra "n0"
   rename News s.heap L' _ _ => NL
   have eT := tyE_baseN (ok := okF ok s.heap) NL (ht.imp fun _ x => Or.inl x)
   k_extra "g2")) ?y := by k_extra "cv"
 k_extra "zz"
noncomputable abbrev ds (x : String) : PyData := .str (PySem.Str.ofString x)
noncomputable def Ty.data : Ty → PyData
 | .u8 => .tuple [ds "int", ds "u8"]
 | .S => .tuple [ds "adt", ds "S", .tuple [], .tuple []]
 | .bool => .tuple [ds "bool"]
 | .param => .tuple [ds "param", ds "Self"]
 | .box t => .tuple [ds "box", t.data]
 | .ref b t => .tuple [ds "ref", .none, .bool b, t.data]
 | .pair a b => .tuple [ds "tuple", .tuple [a.data, b.data]]
theorem isTup_reads {h : Heap} {a : Addr} {vs : List Value} {xs : List PyData} {as : List Addr} (x : IsTup h a vs.toArray) (r : ReadsAll h vs xs as) : Reads h (.ref a) (.tuple xs) as := by
 obtain ⟨o, ho, hc, n, hd⟩ := x
 exact .tuple ho hc hd r
theorem TyAt.reads {ok : Addr → Prop} {h : Heap} {v : Value} {t : Ty} (x : TyAt ok h v t) : Reads h v t.data [] := by
 induction t generalizing v with
 | u8 => exact x.elim fun _ y => y.2.elim fun _ z => z.elim fun _ i => y.1 ▸ isTup_reads i.1 (.cons (.str _ _) (.cons (.str _ _) .nil))
 | S => exact x.elim fun _ y => y.2.elim fun _ z => z.elim fun _ z => z.elim fun _ z => z.elim fun _ i => y.1 ▸ isTup_reads i.1 (.cons (.str _ _) (.cons (.str _ _) (.cons (isTup_reads i.2.2.1 .nil) (.cons (isTup_reads i.2.2.2.2.1 .nil) .nil))))
 | bool => exact x.elim fun _ y => y.2.elim fun _ i => y.1 ▸ isTup_reads i.1 (.cons (.str _ _) .nil)
 | param => exact x.elim fun _ y => y.2.elim fun _ z => z.elim fun _ i => y.1 ▸ isTup_reads i.1 (.cons (.str _ _) (.cons (.str _ _) .nil))
 | box t ih => exact x.boxI.elim fun _ z => z.elim fun _ z => z.elim fun _ i => i.1 ▸ isTup_reads i.2.1 (.cons (.str _ _) (.cons (ih i.2.2.2) .nil))
 | ref b t ih => exact x.refI.elim fun _ z => z.elim fun _ z => z.elim fun _ i => i.1 ▸ isTup_reads i.2.1 (.cons (.str _ _) (.cons .none (.cons (.bool _) (.cons (ih i.2.2.2) .nil))))
 | pair a b ih1 ih2 =>
  obtain ⟨a, rfl⟩ := x.isRef
  exact x.pairJ.elim fun _ z => z.elim fun _ z => z.elim fun _ z => z.elim fun _ i => isTup_reads i.1 (.cons (.str _ _) (.cons (isTup_reads i.2.2.1 (.cons (ih1 i.2.2.2.2.1) (.cons (ih2 i.2.2.2.2.2) .nil))) .nil))
def Good (n : Nat) (d : PyData) : Prop := d.canLay0 = true ∧ d.depth ≤ n
def GoodAll (n : Nat) (l : List PyData) : Prop := PyData.canLayAll0 l = true ∧ PyData.depthAll l ≤ n
section
variable {n m : Nat} {d : PyData} {l : List PyData}
theorem Good.up (h : n ≤ m) (x : Good n d) : Good m d := ⟨x.1, Nat.le_trans x.2 h⟩
theorem gA0 : GoodAll n [] := ⟨rfl, Nat.zero_le _⟩
theorem gA1 (x : Good n d) (y : GoodAll n l) : GoodAll n (d :: l) := ⟨Bool.and_eq_true_iff.mpr ⟨x.1, y.1⟩, Nat.max_le.mpr ⟨x.2, y.2⟩⟩
theorem gT (x : GoodAll n l) : Good (n + 1) (.tuple l) := ⟨x.1, Nat.succ_le_succ x.2⟩
theorem gS {x : PySem.Str} (h : PyData.strOk x = true) : Good n (.str x) := ⟨h, Nat.zero_le _⟩
theorem gI {i : Int} : Good n (.int i) := ⟨rfl, Nat.zero_le _⟩
theorem gB {b : Bool} : Good n (.bool b) := ⟨rfl, Nat.zero_le _⟩
theorem gN : Good n .none := ⟨rfl, Nat.zero_le _⟩
end
theorem Ty.good (t : Ty) : Good (2 * t.size + 2) t.data := by
 induction t with
 | u8 => exact gT (gA1 (gS (by kernel_rfl!)) (gA1 (gS (by kernel_rfl!)) gA0))
 | S => exact gT (gA1 (gS (by kernel_rfl!)) (gA1 (gS (by kernel_rfl!)) (gA1 (gT gA0) (gA1 (gT gA0) gA0))))
 | bool => exact gT (gA1 (gS (by kernel_rfl!)) gA0)
 | param => exact gT (gA1 (gS (by kernel_rfl!)) (gA1 (gS (by kernel_rfl!)) gA0))
 | box t ih => exact gT (gA1 (gS (by kernel_rfl!)) (gA1 (ih.up (Nat.le_succ _)) gA0))
 | ref b t ih => exact gT (gA1 (gS (by kernel_rfl!)) (gA1 gN (gA1 gB (gA1 (ih.up (Nat.le_succ _)) gA0))))
 | pair a b ih ih2 =>
  have m : ∀ {x y : Nat}, x ≤ y → 2 * x + 2 ≤ 2 * y + 2 := fun h => Nat.add_le_add_right (Nat.mul_le_mul_left 2 h) 2
  exact gT (gA1 (gS (by kernel_rfl!)) (gA1 (gT (gA1 (ih.up (m (Nat.le_max_left a.size b.size))) (gA1 (ih2.up (m (Nat.le_max_right a.size b.size))) gA0))) gA0))
theorem Good.shaped {n : Nat} {d : PyData} (x : Good n d) (h : n ≤ 64) : PySem.SeqAt.shaped d = true := Bool.and_eq_true_iff.mpr ⟨x.1, decide_eq_true (Nat.le_trans x.2 h)⟩
theorem Ty.shaped {t : Ty} (h : t.size ≤ 30) : PySem.SeqAt.shaped t.data = true := t.good.shaped (Nat.le_trans (Nat.add_le_add_right (Nat.mul_le_mul_left 2 h) 2) (Nat.le_of_ble_eq_true rfl))
theorem eqvCons (x y : PyData) (r q : List PyData) : PyData.eqvAll (x :: r) (y :: q) = (PyData.eqv x y && PyData.eqvAll r q) := rfl
theorem eqvS (x y : PySem.Str) : PyData.eqv (.str x) (.str y) = (x == y) := rfl
theorem eqvT (x y : List PyData) : PyData.eqv (.tuple x) (.tuple y) = PyData.eqvAll x y := rfl
theorem eqv1 {x b : Bool} {p q : Prop} [Decidable p] [Decidable q] (e : b = (x && true)) (ih : x = decide p) (k : p ↔ q) : b = decide q := e.trans ((Bool.and_true _).trans (ih.trans (decide_eq_decide.mpr k)))
theorem eqv2 {x y b : Bool} {p q r : Prop} [Decidable p] [Decidable q] [Decidable r] (e : b = (x && (y && true))) (ih : x = decide p) (ih2 : y = decide q) (k : p ∧ q ↔ r) : b = decide r := by
 rw [e, ih, ih2, Bool.and_true, ← Bool.decide_and]; exact decide_eq_decide.mpr k
theorem Ty.eqv (t u : Ty) : PyData.eqv t.data u.data = decide (t = u) := by
 refine @disc _ ?y ?e
 case e =>
 haveI h : @Eq (PLift _) (PLift.up (by
 induction t generalizing u with
 | u8 => cases u <;> kernel_rfl!
 | S => cases u <;> kernel_rfl!
 | bool => cases u <;> kernel_rfl!
 | param => cases u <;> kernel_rfl!
 | box t ih => cases u with
  | box u => exact eqv1 (by kernel_rfl!) (ih u) ⟨congrArg _, Ty.box.inj⟩
  | _ => kernel_rfl!
 | ref b t ih => cases u with
  | ref c u => exact eqv2 (x := b == c) (by kernel_rfl!) (by cases b <;> cases c <;> rfl : (b == c) = decide (b = c)) (ih u) ⟨fun e => e.1 ▸ e.2 ▸ rfl, Ty.ref.inj⟩
  | _ => kernel_rfl!
 | pair a b ih ih2 => cases u with
  | pair c d => exact eqv1 (x := PyData.eqvAll [a.data, b.data] [c.data, d.data]) (by kernel_rfl!) (eqv2 rfl (ih c) (ih2 d) Iff.rfl) ⟨fun e => e.1 ▸ e.2 ▸ rfl, Ty.pair.inj⟩
  | _ => kernel_rfl!)) ?y := by k_extra "cv"
 k_extra "zz"
theorem okThree {ok : Addr → Prop} {g h : Heap} {L : Addr} {m : Str → Option Value} {a : Addr} (F : Fr g L h m) (x : okF ok h a) : okF ok g a := by
 rcases x with x | x
 ·exact .inl x
 ·refine .inr ?_
  cases q : g.get? a with
  | none => rfl
  | some o => rw [F.keep a o q] at x; cases x
theorem erased_w (n : Nat) (C : Cx w p loose mean mg mb A A₀ base h₀ outer env L m s.heap (25 + 5 * n) (45 + 20 * n)) {ok : Addr → Prop} {vt : Value} {t : Ty} (hn : t.size < n) (ht : TyAt ok s.heap vt t)
  (ret : ∀ r h' tk', s.heap.StaysIn h' → Fr h₀ L h' m → TyAt (okF ok s.heap) h' (.ref r) t → Q (.ref r) { s with heap := h', toks := tk' }) :
  wpAny (model PR w) A (PySem.call (.ref (275 : Nat)) [vt]) Q E s := by
 refine @disc _ ?y ?e
 case e =>
 haveI h : @Eq (PLift _) (PLift.up (by
 k_fill
 obtain ⟨a2, rfl⟩ := ht.isRef
 revert C hn ret ht
 revert n ok t a2
 k_extra "rv"
 refine no_implicit_lambda% (clZ (cPm cZ.N.T.P.N) ?_)
 k_extra "ld"
 refine gZ4 ?_
 intro zc0 n ok t a2
 clear_value n ok t a2
 intros C hn ret ht
 k_extra "oC"
 k_extra "c0"
 k_steps
 refine regions_w n (by k_extra "a0") (ok := ok) hn (TyAt.fr ht ‹_›) ?_
 refine clZ cZ.N.H.N ?_; refine gZ3 ?_; intro zc r h1 tk1; clear_value r h1 tk1; clear zc; intro st1 F1 ty1
 have N1 := rest_newsF F1
 k_steps
 refine ret _ _ _ (Fr.keep ‹_›) ‹_› ?_
 exact ty1.imp fun a x => okThree ‹_› x)) ?y := by k_extra "cv"
 k_extra "zz"
section
variable {prog : Program} {w : World} {A : Around} {E : Value → Shared → Prop} {s : Shared} {l b : Addr} {items : Array Value} {Q : Value → Shared → Prop}
theorem ne_nil1 {r : Array Value} (hl : s.heap.IsList l r) (hs : r.size ≠ 0) (hb : s.heap.IsList b [].toArray) (hu : A.units < cLine) (h : Q (.bool true) s) : wpAny (model prog w) A (compareOp .NotEq (.ref l) (.ref b)) Q E s :=
 PySem.SeqAt.RcNeAt.lists_lengths hl hb (by simpa using hs) hu prog w E Q h
end
example : True := by
 k_with "compareOp NotEq ref ref" =>
  (k_here; k_dflt (refine ne_nil1 (r := #[_]) (News.isList ‹_› (by k_mem)) (by simp) (News.isList ‹_› (by k_mem)) (by k_extra "g0") ?_))
 k_with "a2" =>
  (first | exact TyAt.fr ‹_› ‹_› | exact TyE.now ‹_› ‹_› (by k_extra "b0"))
 k_with "call ref cons" =>
  (
   (with_reducible show wpAny _ _ (PySem.call (Value.ref 409) _) _ _ _)
   refine' shallow_w (by k_extra "a0") ?hi ?ht ?_; (case hi => exact inst_fr ‹_› ‹_›); (case ht => k_extra "a2"); refine clZ cZ.N.H ?_; refine gZ2 ?_; intro zc h' tk'; clear_value h' tk'; clear zc; intro st' F'; have N' := News.grown ‹_› st')
 k_with "compareOp Eq ref ref" =>
  (k_here; k_dflt (refine eq_dataH (TyAt.reads (by k_extra "a2")) (TyAt.reads (by k_extra "a2")) (Ty.shaped ‹_›) (Ty.shaped ‹_›) (by k_extra "g0") ?_); (try rw [Ty.eqv]); (try simp only [decide_true]))
 trivial
theorem unify_same_w (C : Cx w p loose mean mg mb A A₀ base h₀ outer env L m s.heap 15 100) {x k q : Addr} {ok : Addr → Prop} {vt vu : Value} {t : Ty} (hs : t.size ≤ 30) (I : Inst s.heap x 452 [("known", .ref k), ("is_number", .ref q)]) (ht : TyAt ok s.heap vt t) (hu : TyAt ok s.heap vu t)
  (ret : ∀ h' tk', s.heap.StaysIn h' → Fr h₀ L h' m → Q .none { s with heap := h', toks := tk' }) :
  wpAny (model PR w) A (PySem.call (.ref (442 : Nat)) [.ref x, vt, vu]) Q E s := by
 refine @disc _ ?y ?e
 case e =>
 haveI h : @Eq (PLift _) (PLift.up (by
 k_fill
 obtain ⟨a2, rfl⟩ := ht.isRef
 obtain ⟨a3, rfl⟩ := hu.isRef
 revert C hs I ret ht hu
 revert x k q ok t a2 a3
 k_extra "rv"
 refine no_implicit_lambda% (clZ (cPm cZ.N.N.T.P.N.N.N) ?_)
 k_extra "ld"
 refine gZ7 ?_
 intro zc0 x k q ok t a2 a3
 clear_value x k q ok t a2 a3
 intros C hs I ret ht hu
 k_extra "oC"
 k_extra "c0"
 k_steps
 exact ret _ _ (Fr.keep ‹_›) ‹_›)) ?y := by k_extra "cv"
 k_extra "zz"
theorem sn {α : Type} {a : α} : ¬ (some a = none) := Option.some_ne_none a
theorem hp_no {u t : Ty} (h : hpSpec u t = none) : u ≠ t := by
 rintro rfl
 cases u with
 | ref m a => cases m <;> exact sn h
 | _ => exact sn h
theorem hp_nil {u t : Ty} (hu : u.isPat) (h : hpSpec u t = some none) : u = t := by
 rcases hu with rfl | rfl | rfl | rfl <;> cases t <;> first | rfl | exact (sn h.symm).elim | exact (sn (Option.some.inj h)).elim | (rename_i b _; cases b <;> first | exact (sn h.symm).elim | exact (sn (Option.some.inj h)).elim)
theorem hp_one {u t a b : Ty} (hu : u.isPat) (h : hpSpec u t = some (some (a, b))) : a = .S ∧ (u = t ↔ Ty.S = b) := by
 rcases hu with rfl | rfl | rfl | rfl
 ·cases t <;> first | exact (sn h.symm).elim | exact (sn (Option.some.inj h).symm).elim
 ·cases t <;> first | exact (sn h.symm).elim | exact (sn (Option.some.inj h).symm).elim
 ·cases t with
  | box t => obtain ⟨rfl, rfl⟩ := Prod.mk.inj (Option.some.inj (Option.some.inj h)); exact ⟨rfl, Ty.box.inj, congrArg _⟩
  | _ => exact (sn h.symm).elim
 ·cases t with
  | ref c t => cases c with
   | false => obtain ⟨rfl, rfl⟩ := Prod.mk.inj (Option.some.inj (Option.some.inj h)); exact ⟨rfl, fun e => (Ty.ref.inj e).2, congrArg _⟩
   | true => exact (sn h.symm).elim
  | _ => exact (sn h.symm).elim
theorem hpS_no {t a b : Ty} (h : hpSpec .S t = some (some (a, b))) : False := by cases t <;> first | exact sn h.symm | exact sn (Option.some.inj h).symm
theorem Ty.isPat.head {u : Ty} (hu : u.isPat) : ¬ (PySem.Str.ofString u.head == PySem.Str.ofString "param") = true := by
 rcases hu with rfl | rfl | rfl | rfl <;> (simp only [Ty.head]; decide)
theorem TyAt.fwd {ok : Addr → Prop} {g h : Heap} {L : Addr} {m : Str → Option Value} {v : Value} {t : Ty} (x : TyAt ok g v t) (F : Fr g L h m) : TyAt (fun a => ok a ∧ ∃ o, g.get? a = some o) h v t :=
 x.move fun _ _ it o => ⟨it.keeps F.keep, o, by obtain ⟨o', e, _⟩ := it; exact ⟨o', e⟩⟩
theorem TyAt.back {ok : Addr → Prop} {g h : Heap} {L : Addr} {m : Str → Option Value} {v : Value} {t : Ty} (x : TyAt (fun a => ok a ∧ ∃ o, g.get? a = some o) h v t) (F : Fr g L h m) : TyAt ok g v t :=
 x.move fun a _ it o => ⟨by
  obtain ⟨o', e, r⟩ := it
  obtain ⟨o2, e2⟩ := o.2
  have := F.keep a o2 e2
  rw [e] at this; cases this
  exact ⟨o', e2, r⟩, o.1⟩
theorem HpAt.all {ok ok2 : Addr → Prop} {g0 g h : Heap} {L : Addr} {m : Str → Option Value} {u t : Ty} {R : Value → Prop} (F : Fr g0 L g m) (hu : u.isPat) (k0 : hpSpec u t = none → R .none) (k1 : ∀ a n, hpSpec u t = some none → Fresh g h a (PySem.W.listOf #[] n) → R (.ref a))
  (k2 : ∀ a n c x y z i j r1 r2, u ≠ .S → (u = t ↔ Ty.S = z) → Fresh g h a (PySem.W.listOf #[.ref c] n) → Fresh g h c { cls := .type "tuple", data := .seq #[.ref x, .ref y] } → TyAt ok g0 (.ref x) .S → TyAt ok2 g0 (.ref y) z → IsTup g0 x (st "adt" i :: r1).toArray → IsTup g0 y (st z.head j :: r2).toArray → R (.ref a)) : ∀ r, HpAt (fun a => ok a ∧ ∃ o, g0.get? a = some o) (fun a => ok2 a ∧ ∃ o, g0.get? a = some o) g h r (hpSpec u t) → R r := by
 intro r x
 generalize e : hpSpec u t = sp at x k0 k1
 cases x with
 | no => exact k0 rfl
 | nil a => exact k1 _ _ rfl a
 | one a b c d =>
  obtain ⟨e1, e2⟩ := hp_one hu e
  subst e1
  have c := c.back F
  have d := d.back F
  obtain ⟨x', tk, r1, rfl, i1⟩ := c.head
  obtain ⟨y', tk2, r2, rfl, i2⟩ := d.head
  exact k2 _ _ _ _ _ _ _ _ _ _ (fun q => hpS_no (q ▸ e)) e2 a b c d i1 i2
theorem ne_nil0 {prog : Program} {w : World} {A : Around} {E : Value → Shared → Prop} {s : Shared} {l b : Addr} {Q : Value → Shared → Prop} (hl : s.heap.IsList l [].toArray) (hb : s.heap.IsList b [].toArray) (hu : A.units + 64 < cLine) (h : Q (.bool false) s) : wpAny (model prog w) A (compareOp .NotEq (.ref l) (.ref b)) Q E s := by
 obtain ⟨o, ho, hc, n, hd⟩ := hl
 obtain ⟨o2, ho2, hc2, n2, hd2⟩ := hb
 refine ne_dataH (da := .list []) (db := .list []) (reads_list_at ho hc hd .nil) (reads_list_at ho2 hc2 hd2 .nil) (by decide +kernel) (by decide +kernel) hu ?_
 rw [show PyData.eqv (.list []) (.list []) = true from by rw [PyData.eqv, PyData.eqvAll]]
 exact h
example : True := by
  k_with "call ref cons" =>
    (
      (with_reducible show wpAny _ _ (PySem.call (Value.ref 73) _) _ _ _)
      refine' head_pairs_w (by k_extra "a0") ?hp ?ht ?hu ?_
      case hp => exact TyAt.fwd ‹_› ‹_›
      case ht => exact TyAt.fwd ‹_› ‹_›
      case hu => assumption
      refine clZ cZ.N.H.V ?_; refine gZ3 ?_; intro zc r9 h9 tk9; clear_value r9 h9 tk9; clear zc; intro st9 F9 hr9
      have N9 := News.grown ‹_› st9
      revert r9
      refine' HpAt.all ‹_› ‹_› ?_ ?_ ?_
      all_goals first
        | ((with_reducible show ∀ (_ : Addr) (_ : Nat) (_ : Addr), _); refine clZ cZ.L.L.N.N.T.N.N.N.N.N ?_; refine fZ8 ?_; intro zc_0 a9 n9 c9 ax9 ay9 u9 i9 j9; clear_value a9 n9 c9 ax9 ay9 u9 i9 j9; refine gZ2 ?_; intro zc p9 r9; clear_value p9 r9; intro nS9 hu9 f9 k9 tx9 ty9 hX9 hY9
           have q9 : Far _ _ := freshApart ‹_› f9
           have q8 : Far _ _ := freshApart ‹_› k9
           have N9 := news_fresh ‹_› (news_fresh ‹_› N9 k9) f9
           have pS9 : Ty.isPat .S := .inr (.inl rfl)
           have hS9 := pS9.head
           have hV9 := u9.notVar
           try exact absurd rfl nS9)
        | ((with_reducible show ∀ (_ : Addr) (_ : Nat) (_ : hpSpec _ _ = some none), _); refine clZ cZ.N.N ?_; refine gZ2 ?_; intro zc a9 n9; clear_value a9 n9; clear zc; intro hsp x9
           have q9 : Far _ _ := freshApart ‹_› x9
           have N9 := news_fresh ‹_› N9 x9)
        | intro hsp)
  k_with "a2" =>
    (first | exact TyAt.fr ‹_› ‹_› | exact TyE.now ‹_› ‹_› (by k_extra "b0"))
  k_with "compareOp NotEq ref ref" =>
    (k_here; k_dflt (first
      | refine ne_nil0 (News.isList ‹_› (by k_mem)) (News.isList ‹_› (by k_mem)) (by k_extra "g0") ?_
      | refine ne_nil1 (r := #[_]) (News.isList ‹_› (by k_mem)) (by simp) (News.isList ‹_› (by k_mem)) (by k_extra "g0") ?_))
  trivial
theorem match_type_w (C : Cx w p loose mean mg mb A A₀ base h₀ outer env L m s.heap 15 100) {ok ok2 : Addr → Prop} {vu vt : Value} {nl fd : Addr} {u t : Ty} (hu : u.isPat) (tu : TyAt ok s.heap vu u) (tt : TyAt ok2 s.heap vt t)
  (ret : ∀ tk h' tk', s.heap.StaysIn h' → Fr h₀ L h' m → Q (st (if u = t then "yes" else "no") tk) { s with heap := h', toks := tk' }) :
  wpAny (model PR w) A (PySem.call (.ref (87 : Nat)) [vu, vt, .ref nl, .ref fd]) Q E s := by
 refine @disc _ ?y ?e
 case e =>
 haveI h : @Eq (PLift _) (PLift.up (by
 k_fill
 obtain ⟨a1, tk1, rest1, rfl, hT1⟩ := tu.head
 obtain ⟨a2, tk2, rest2, rfl, hT2⟩ := tt.head
 have hp1 := hu.head
 revert C hu ret hT1 tu hT2 tt hp1
 revert ok ok2 nl fd u t a1 tk1 rest1 a2 tk2 rest2
 k_extra "rv"
 refine no_implicit_lambda% (clZ (cPm cZ.L.N.N.L.N.N.T.T.N.N.P.P) ?_)
 k_extra "ld"
 refine fZ8 ?_
 intro zc0_0 ok ok2 nl fd u t a1 tk1
 clear_value ok ok2 nl fd u t a1 tk1
 refine gZ4 ?_
 intro zc0 rest1 a2 tk2 rest2
 clear_value rest1 a2 tk2 rest2
 intros C hu ret hT1 tu hT2 tt hp1
 k_extra "oC"
 have hn1 := t.notVar
 k_extra "c0"
 have ret1 : ∀ x tk h' tk', (u = t ∧ x = "yes" ∨ u ≠ t ∧ x = "no") → s.heap.StaysIn h' → Fr h₀ L h' m → Q (st x tk) { s with heap := h', toks := tk' } := by
  intro x tk h' tk' hx k1 k2
  have := ret tk h' tk' k1 k2
  rcases hx with ⟨e, rfl⟩ | ⟨e, rfl⟩
  ·rw [if_pos e] at this; exact this
  ·rw [if_neg e] at this; exact this
 k_steps
 all_goals (refine ret1 _ _ _ _ ?_ (Fr.keep ‹_›) ‹_›; first | exact .inr ⟨hp_no hsp, rfl⟩ | exact .inl ⟨hp_nil ‹_› hsp, rfl⟩ | exact .inr ⟨fun e => hp_no hsp (hu9.mp e), rfl⟩ | exact .inl ⟨hu9.mpr (hp_nil ‹_› hsp), rfl⟩))) ?y := by k_extra "cv"
 k_extra "zz"
section
variable {prog : Program} {w : World} {A : Around} {E : Value → Shared → Prop} {s : Shared} {g : Heap} {env : Env}
theorem letOwned_zip {elts : List PySem.Expr} {x1 : Nat} {pos : Pos} {z TI TO a : Addr} {Q : Unit → Shared → Prop} (hz : IsZip s.heap z TI TO (rawInt a))
  (hQ : ∀ h', IsZip h' z TI TO .none → Heap.SameBut z s.heap h' → Q () { s with heap := h' }) :
  wpAny (model prog w) A (letOwnedTupleGo (.Tuple elts x1 pos) (.ref z) (.ref a)) Q E s := by
 unfold letOwnedTupleGo
 refine wpAny_bind (wpAny_load hz ?_)
 show wpAny _ A (if (["enumerate", "zip", "dict_itemiterator", "dict_reverseitemiterator", "odict_iterator", "itertools.zip_longest", "itertools.pairwise"].contains "zip" &&
   (#[rawInt a, .bool false, .bool false, .ref TI, .ref TO] : Array Value)[0]? == some (rawInt a)) = true then _ else _) Q E s
 rw [if_pos (by simp)]
 refine wpAny_bind (wpAny_rule ?_)
 show wpAny _ A (setField (.ref z) 0 .none) Q E s
 exact wpAny_setField_rec hz (by simp) fun h' he' hs' => hQ h' he' hs'
def ZPost (g : Heap) (L : Addr) (z TI i1 i2 TO l1 : Nat) (x : Value) (Q : Flow → Shared → Prop) (f : Flow) (s₃ : Shared) : Prop := match f with
 | .brk => Q .next s₃
 | .ret v => Q (.ret v) s₃
 | _ => ∃ m' news' o, Fr g L s₃.heap m' ∧ News g L s₃.heap news' ∧ (z, zipO TI TO) ∈ news' ∧ (TI, pairO (.ref i1) (.ref i2)) ∈ news' ∧ (i1, o) ∈ news' ∧
   (o.cls = .type "tuple_iterator" ∧ o.data = .fields #[.ref l1, .int 1 0]) ∧ IsTup g l1 [x].toArray ∧ ∀ h', Fr g L h' m' → Q .next { s₃ with heap := h' }
inductive ZSrc (prog : Program) (w : World) (A : Around) (g : Heap) (env : Env) (target : PySem.Expr) (body : List Stmt) (Q : Flow → Shared → Prop) (E : Value → Shared → Prop) (xv : Value) (s₁ : Shared) : Prop
 | mk : ∀ (z TI TO i1 i2 l1 l2 : Nat) (news : List (Addr × Obj)) (x y : Value) (m : Str → Option Value), (xv = .ref z) → (A.handled = none) → (ZA z TI TO i1 i2 l1 l2) → (Fr g env.locals s₁.heap m) → (News g env.locals s₁.heap ((z, zipO TI TO) :: (TO, pairO .none .none) :: (TI, pairO (.ref i1) (.ref i2)) :: (i2, itObj false l2) :: (i1, itObj false l1) :: news)) → ((∀ q ∈ news, q.1 < i1)) → (IsTup g l1 [x].toArray) → (IsTup g l2 [y].toArray) → (∀ (T : Nat) h' o tk, Fr g env.locals h' m → News g env.locals h' ((T, pairO x y) :: (z, zipO TI TO) :: (TI, pairO (.ref i1) (.ref i2)) :: (i1, o) :: news) → (o.cls = .type "tuple_iterator" ∧ o.data = .fields #[.ref l1, .int 1 0]) → z < T → wpAny (model prog w) A (assign target env (.ref T)) (fun _ s₂ => wpAny (model prog w) A (execs body env) (ZPost g env.locals z TI i1 i2 TO l1 x Q) E s₂) E { s₁ with heap := h', toks := tk }) → ZSrc prog w A g env target body Q E xv s₁
theorem for_zip1 {elts : List PySem.Expr} {x1 : Nat} {tp pos : Pos} {iter : PySem.Expr} {body : List Stmt} {Q : Flow → Shared → Prop} {m₁ : Str → Option Value} (_F : Fr g env.locals s.heap m₁)
  (h : wpAny (model prog w) A (eval iter env) (ZSrc prog w A g env (.Tuple elts x1 tp) body Q E) E s)
  (hs : ∀ x, foldedSetIterable iter env x = pure x := by intro _; rfl)
  (hE : PassesOwn (model prog w) A env E := by passes_own) :
  wpAny (model prog w) A (exec (.For (.Tuple elts x1 tp) iter body [] pos) env) Q E s := by
 refine @disc _ ?y ?e
 case e =>
 haveI h : @Eq (PLift _) (PLift.up (by
 revert _F h hs hE
 revert prog w A E s g env elts x1 tp pos iter body Q m₁
 refine no_implicit_lambda% (clZ cZ.M.F.x.E.p.p.N.K.e.H.s.Q.A.W.R ?_)
 refine fZ8 ?_
 intro zc0_0 prog w A E s g env elts
 clear_value prog w A E s g env elts
 refine gZ7 ?_
 intro zc0 x1 tp pos iter body Q m₁
 clear_value x1 tp pos iter body Q m₁
 intros _F h hs hE
 k_extra "p0"
 obtain ⟨z, TI, TO, i1, i2, l1, l2, news, x, y, m, rfl, hh, D, F, N, lt, t1, t2, K⟩ := h₁
 have hz := (N _ (.head _)).1
 refine wpAny_pyIter_zip hz ?_
 let st2 : Nat → Shared → Prop := fun n s' => (n = 1 ∧ s' = s₁) ∨ (n = 0 ∧ ZPost g env.locals z TI i1 i2 TO l1 x Q .next s')
 refine codeAny_forLoop_any st2 (fun n s' hI => ?_) 1 (.inl ⟨rfl, rfl⟩)
 rcases hI with ⟨rfl, rfl⟩ | ⟨rfl, m', news', o, F', N', hz', hTI', hi1', ho', ht', k'⟩
 ·have d := D
  have NTO := N _ (.tail _ (.head _))
  have NTI := N _ (.tail _ (.tail _ (.head _)))
  have Ni2 := N _ (.tail _ (.tail _ (.tail _ (.head _))))
  have Ni1 := N _ (.tail _ (.tail _ (.tail _ (.tail _ (.head _)))))
  refine zip_first (b := false) (c := false) (xs := [x]) (ys := [y]) d hz NTI.1 NTO.1 (ItAt.obj Ni1.1) (ItAt.obj Ni2.1) (F.tup t1) (F.tup t2) rfl rfl fun h' hz' hTO' j1 j2 hp hsz keep => ?_
  refine letOwned_zip hz' fun h'' hz'' hs'' => ?_
  obtain ⟨oi, hoi, hoc, hod⟩ := j1
  have hzs : s'.heap.objs.size ≠ z := Nat.ne_of_gt (Heap.lt_size hz)
  have ex := hs''.extBut
  have nz : ∀ c : Nat, c < z → c ≠ z := fun c e => Nat.ne_of_lt e
  have gg : ∀ {c : Addr} {o : Obj}, g.get? c = some o → h''.get? c = some o := fun {c o} e => by
   have c1 : c ≠ z := fun q => by rw [q, (N _ (.head _)).2.2] at e; cases e
   have c2 : c ≠ TO := fun q => by rw [q, NTO.2.2] at e; cases e
   have c3 : c ≠ i1 := fun q => by rw [q, Ni1.2.2] at e; cases e
   have c4 : c ≠ i2 := fun q => by rw [q, Ni2.2.2] at e; cases e
   exact ex _ _ c1 (keep _ _ c1 c2 c3 c4 (F.keep _ _ e))
  have F'' : Fr g env.locals h'' m := by
   refine ⟨F.ns.at' fun o e => ?_, fun c o e => gg e, F.above⟩
   exact ex _ _ (fun q => (N _ (.head _)).2.1 q.symm) (keep _ _ (fun q => (N _ (.head _)).2.1 q.symm) (fun q => NTO.2.1 q.symm) (fun q => Ni1.2.1 q.symm) (fun q => Ni2.2.1 q.symm) e)
  have fr : g.get? s'.heap.objs.size = none := by
   cases q : g.get? s'.heap.objs.size with
   | none => rfl
   | some o => exact absurd (Heap.lt_size (F.keep _ _ q)) (Nat.lt_irrefl _)
  refine wpAny_mono (K s'.heap.objs.size h'' oi s'.toks F'' (fun q hq => ?_) ⟨hoc, hod⟩ (Heap.lt_size hz)) (fun _ s₂ h₂ => wpAny_passesOwn hE (wpAny_mono h₂ (fun f s₃ h₃ => ?_) fun _ _ e => e)) hE
  ·rcases List.mem_cons.mp hq with rfl | hq
   ·exact ⟨ex _ _ hzs hp, Nat.ne_of_gt F.ns.lt, fr⟩
   k_extra "j0"
   ·exact ⟨hz'', (N _ (.head _)).2⟩
   k_extra "j0"
   ·exact ⟨ex _ _ (Nat.ne_of_lt d.t3) (keep _ _ (Nat.ne_of_lt d.t3) (Nat.ne_of_lt d.a3) (Nat.ne_of_gt d.t1) (Nat.ne_of_gt d.a2) NTI.1), NTI.2⟩
   k_extra "j0"
   ·exact ⟨ex _ _ (Nat.ne_of_lt d.t6) hoi, Ni1.2⟩
   ·have a : q.1 < i1 := lt q hq
    have e := N q (.tail _ (.tail _ (.tail _ (.tail _ (.tail _ hq)))))
    have b := d.below a
    exact ⟨ex _ _ b.1 (keep _ _ b.1 b.2.1 b.2.2.1 b.2.2.2 e.1), e.2⟩
  ·cases f with
   | next => exact ⟨0, Nat.lt_succ_self 0, .inr ⟨rfl, h₃⟩⟩
   | cont => exact ⟨0, Nat.lt_succ_self 0, .inr ⟨rfl, h₃⟩⟩
   | brk => exact h₃
   | ret v => exact h₃
 ·have NZ := N' _ hz'
  have NI := N' _ hi1'
  refine zip_last (b := false) (c := false) (l2 := l2) (i2 := i2) (TO := TO) (xs := [x]) hh D NZ.1 (N' _ hTI').1 (k1 := 1) ⟨o, NI.1, ho'.1, ho'.2⟩ (F'.tup ht') rfl fun h' keep => ?_
  have F'' : Fr g env.locals h' m' := ⟨F'.ns.at' fun o e => keep _ _ (fun q => NZ.2.1 q.symm) (fun q => NI.2.1 q.symm) e, fun c o e => keep _ _ (fun q => by rw [q, NZ.2.2] at e; cases e) (fun q => by rw [q, NI.2.2] at e; cases e) (F'.keep _ _ e), F'.above⟩
  exact wpAny_passesOwn hE (wpAny_execs_nil (k' h' F'')))) ?y := by k_extra "cv"
 k_extra "zz"
end
example : True := by
 k_with "exec For Tuple Call cons nil" =>
  (k_here; k_dflt (refine for_zip1 ‹_› ?_))
 k_with "call ref cons" =>
  (
   (with_reducible show wpAny _ _ (PySem.call (Value.ref 87) _) _ _ _)
   refine' match_type_w (by k_extra "a0") ?hu ?hp ?ht ?_
   case hp => exact TyAt.fr ‹_› ‹_›
   case ht => exact TyAt.fr ‹_› ‹_›
   case hu => assumption
   k_extra "q0"
   first | rw [if_pos hut] | rw [if_neg hut]
   have N9 := News.grown ‹_› st9)
 trivial
theorem match_all_w (C : Cx w p loose mean mg mb A A₀ base h₀ outer env L m s.heap 20 150) {ok ok2 : Addr → Prop} {vu vt : Value} {pa sa nl fd : Addr} {u t : Ty} (hu : u.isPat) (pt : IsTup s.heap pa [vu].toArray) (sT : IsTup s.heap sa [vt].toArray) (tu : TyAt ok s.heap vu u) (tt : TyAt ok2 s.heap vt t)
  (ret : ∀ tk h' tk', s.heap.StaysIn h' → Fr h₀ L h' m → Q (st (if u = t then "yes" else "no") tk) { s with heap := h', toks := tk' }) :
  wpAny (model PR w) A (PySem.call (.ref (94 : Nat)) [.ref pa, .ref sa, .ref nl, .ref fd]) Q E s := by
 refine @disc _ ?y ?e
 case e =>
 haveI h : @Eq (PLift _) (PLift.up (by
 k_fill
 obtain ⟨a1, rfl⟩ := tu.isRef
 obtain ⟨a2, rfl⟩ := tt.isRef
 revert C hu ret pt tu sT tt
 revert ok ok2 pa sa nl fd u t a1 a2
 k_extra "rv"
 refine no_implicit_lambda% (clZ (cPm cZ.N.N.T.T.N.N.N.N.P.P) ?_)
 k_extra "ld"
 refine fZ8 ?_
 intro zc0_0 ok ok2 pa sa nl fd u t
 clear_value ok ok2 pa sa nl fd u t
 refine gZ2 ?_
 intro zc0 a1 a2
 clear_value a1 a2
 intros C hu ret pt tu sT tt
 k_extra "oC"
 by_cases hut : u = t
 all_goals first | simp only [if_pos hut] at ret | simp only [if_neg hut] at ret
 all_goals k_extra "c0"
 all_goals k_steps
 all_goals first | exact absurd rfl ‹_› | skip
 all_goals refine ⟨_, _, _, _, _, _, _, [], _, _, _, rfl, hh, by assumption, by assumption, by assumption, by assumption, pt, sT, ?_⟩
 all_goals (refine clZ cZ.N.O.H.N ?_; refine gZ4 ?_; intro zc T9 h9 o9 tk9; clear_value T9 h9 o9 tk9; clear zc; intro F9 N9 ho9 hz9)
 all_goals k_steps
 ·refine ⟨_, _, _, by assumption, by assumption, by k_mem, by k_mem, by k_mem, ho9, pt, ?_⟩
  refine clZ cZ.H ?_; refine gZ1 ?_; intro zc h8; clear_value h8; clear zc; intro F8
  have N8 : News s.heap L' h8 [] := News.nil
  k_steps
  exact ret _ _ _ (Fr.keep ‹_›) ‹_›
 ·unfold ZPost
  dsimp only
  k_steps
  exact ret _ _ _ (Fr.keep ‹_›) ‹_›)) ?y := by k_extra "cv"
 k_extra "zz"
noncomputable def implF (tv v : Value) (i : Int) (rg pl ta md : Addr) (t1 t3 : Tok) : List (String × Value) :=
 [("number", .int i t1), ("regions", .ref rg), ("params", .ref pl), ("trait", tv), ("trait_args", .ref ta), ("self_type", v), ("methods", .ref md), ("spot", .int 0 t3)]
example : True := by
 k_with "eval ListComp" =>
  (k_here; k_dflt (refine LCp.ListComp_P ‹_› (by with_unfolding_all rfl) (by decide) (by rfl) (by decide) (by rfl) (by rfl) (by decide) ?_))
 trivial
theorem names_of_w (C : Cx w p loose mean mg mb A A₀ base h₀ outer env L m s.heap 5 10) {x rg pl ta md : Addr} {tv v : Value} {i : Int} {t1 t3 : Tok} (I : Inst s.heap x 764 (implF tv v i rg pl ta md t1 t3)) (hp : s.heap.IsList pl [].toArray)
  (ret : ∀ a n h' tk', s.heap.StaysIn h' → Fr h₀ L h' m → Fresh s.heap h' a (PySem.W.listOf #[] n) → Q (.ref a) { s with heap := h', toks := tk' }) :
  wpAny (model PR w) A (PySem.call (.ref (106 : Nat)) [.ref x]) Q E s := by
 refine @disc _ ?y ?e
 case e =>
 haveI h : @Eq (PLift _) (PLift.up (by
 k_fill
 revert C I hp ret
 revert x rg pl ta md tv v i t1 t3
 k_extra "rv"
 refine no_implicit_lambda% (clZ (cPm cZ.N.N.I.V.V.N.N.N.N.N) ?_)
 k_extra "ld"
 refine fZ8 ?_
 intro zc0_0 x rg pl ta md tv v i
 clear_value x rg pl ta md tv v i
 refine gZ2 ?_
 intro zc0 t1 t3
 clear_value t1 t3
 intros C I hp ret
 k_extra "oC"
 k_extra "c0"
 k_steps
 refine LCp.SrcLP.base hh ‹_› ‹_› hp (by rw [sizeLine_eq]; exact Nat.zero_le _) (fun g => ?_)
 intro D9 h9 tk9 F9 N9 off9
 k_steps
 exact ret _ _ _ _ (Fr.keep ‹_›) ‹_› (newsFrsh N9 (.head _)))) ?y := by k_extra "cv"
 k_extra "zz"
example : True := by
 k_with "call ref cons" =>
  (
   (with_reducible show wpAny _ _ (PySem.call (Value.ref 106) _) _ _ _)
   refine' names_of_w (by k_extra "a0") ?hi ?hl ?_
   case hi => exact inst_fr ‹_› ‹_›
   case hl => exact isList_fr ‹_› ‹_›
   k_extra "n1"
   have q9 : Far _ _ := freshApart ‹_› x9
   have N9 := news_fresh ‹_› (News.grown ‹_› st9) x9)
 k_with "binaryOp Add ref ref" =>
  (k_here; k_dflt (refine' kde_addT0 ?k1 ?k2 ?k3 ?k4 ?k5 ?k7 ?_; (case k1 => k_asm); (case k2 => k_asm); (case k3 => k_extra "a1"); (case k4 => k_extra "a1"); (case k5 => exact rfl); (case k7 => exact Nat.le_of_ble_eq_true rfl); k_whole))
 k_with "call ref cons" =>
  (
   (with_reducible show wpAny _ _ (PySem.call (Value.ref 94) _) _ _ _)
   refine' match_all_w (by k_extra "a0") ?hu ?pt ?sT ?tu ?tt ?_
   case hu => assumption
   case pt => exact News.isTup ‹_› (by k_mem)
   case sT => exact News.isTup ‹_› (by k_mem)
   case tu => exact TyAt.fr ‹_› ‹_›
   case tt => exact TyAt.fr ‹_› ‹_›
   k_extra "q0"
   have N9 := News.grown ‹_› st9)
 trivial
theorem matches_impl_w (C : Cx w p loose mean mg mb A A₀ base h₀ outer env L m s.heap 25 200) {x rg pl ta md e0 : Addr} {tv vu vt : Value} {i : Int} {t1 t3 : Tok} {ok ok2 : Addr → Prop} {u t : Ty} (I : Inst s.heap x 764 (implF tv vu i rg pl ta md t1 t3)) (hp : s.heap.IsList pl [].toArray)
  (he : IsTup s.heap e0 [].toArray) (hu : u.isPat) (tu : TyAt ok s.heap vu u) (tt : TyAt ok2 s.heap vt t)
  (ret : ∀ a fd tk o h' tk', s.heap.StaysIn h' → Fr h₀ L h' m → Fresh s.heap h' a { cls := .type "tuple", data := .seq #[st (if u = t then "yes" else "no") tk, .ref fd] } → Fresh s.heap h' fd o → o.IsDictOf (KD w) [] → Q (.ref a) { s with heap := h', toks := tk' }) :
  wpAny (model PR w) A (PySem.call (.ref (113 : Nat)) [.ref x, .ref e0, vt]) Q E s := by
 refine @disc _ ?y ?e
 case e =>
 haveI h : @Eq (PLift _) (PLift.up (by
 k_fill
 obtain ⟨a1, rfl⟩ := tu.isRef
 obtain ⟨a2, rfl⟩ := tt.isRef
 revert C hp he hu ret I tu tt
 revert x rg pl ta md e0 tv i t1 t3 ok ok2 u t a1 a2
 k_extra "rv"
 refine no_implicit_lambda% (clZ (cPm cZ.N.N.T.T.P.P.N.N.I.V.N.N.N.N.N.N) ?_)
 k_extra "ld"
 refine fZ8 ?_
 intro zc0_0 x rg pl ta md e0 tv i
 clear_value x rg pl ta md e0 tv i
 refine gZ8 ?_
 intro zc0 t1 t3 ok ok2 u t a1 a2
 clear_value t1 t3 ok ok2 u t a1 a2
 intros C hp he hu ret I tu tt
 k_extra "oC"
 k_extra "c0"
 k_steps
 exact ret _ _ _ _ _ _ (Fr.keep ‹_›) ‹_› (newsFrsh ‹_› (.head _)) (newsFrsh ‹_› (by k_mem)) ‹_›)) ?y := by k_extra "cv"
 k_extra "zz"
section
variable {prog : Program} {w : World} {A : Around} {E : Value → Shared → Prop} {s : Shared} {g : Heap} {env : Env}
inductive NilSrc (A : Around) (g : Heap) (env : Env) (Q : Flow → Shared → Prop) (xv : Value) (s₁ : Shared) : Prop
 | mk : ∀ (l : Addr) (m : Str → Option Value) (news : List (Addr × Obj)), (xv = .ref l) → (A.handled = none) → (Fr g env.locals s₁.heap m) → (News g env.locals s₁.heap news) → (s₁.heap.IsList l [].toArray) → (∀ h', Fr g env.locals h' m → News g env.locals h' news → Q .next { s₁ with heap := h' }) → NilSrc A g env Q xv s₁
theorem for_nil {target : PySem.Expr} {pos : Pos} {iter : PySem.Expr} {body : List Stmt} {Q : Flow → Shared → Prop} {m₁ : Str → Option Value} (_F : Fr g env.locals s.heap m₁)
  (h : wpAny (model prog w) A (eval iter env) (NilSrc A g env Q) E s)
  (hs : ∀ x, foldedSetIterable iter env x = pure x := by intro _; rfl)
  (hE : PassesOwn (model prog w) A env E := by passes_own) :
  wpAny (model prog w) A (exec (.For target iter body [] pos) env) Q E s := by
 k_extra "p0"
 obtain ⟨l, m, news, rfl, hh, F, N, hl, K⟩ := h₁
 refine wpAny_pyIter_list hl ?_
 have hne : l ≠ s₁.heap.objs.size := by obtain ⟨o, ho, _⟩ := hl; exact Nat.ne_of_lt (Heap.lt_size ho)
 refine codeAny_forLoop_any (fun _ s' => s' = { s₁ with heap := s₁.heap.push { cls := .type "list_iterator", data := .fields #[.ref l, .int 0 0] } }) (fun n s' hI => ?_) 0 rfl
 subst hI
 have hit : (s₁.heap.push { cls := .type "list_iterator", data := .fields #[.ref l, .int 0 0] }).IsListIter s₁.heap.objs.size l 0 := ⟨_, Heap.get?_push_size _ rfl, rfl, rfl⟩
 refine wpAny_pyNext_list_end hh hit (hl.push _) rfl fun h₂ he₂ => ?_
 have up : ∀ b o, s₁.heap.get? b = some o → h₂.get? b = some o := fun b o e => he₂ b o (Nat.ne_of_lt (Heap.lt_size e)) (Heap.get?_push_of_some _ e)
 exact wpAny_passesOwn hE (wpAny_execs_nil (K h₂ (F.keeps up) (N.grown up)))
end
example : True := by
 k_with "exec For Tuple Attribute cons nil" =>
  (k_here; k_dflt (refine for_nil ‹_› ?_))
 k_with "NilSrc" =>
  (refine ⟨_, _, _, rfl, by assumption, by assumption, by assumption, isList_fr ‹_› ‹_›, ?_⟩; refine clZ cZ.H ?_; refine gZ1 ?_; intro zc h'; clear_value h'; clear zc; intro F' N')
 trivial
theorem needs_of_w (C : Cx w p loose mean mg mb A A₀ base h₀ outer env L m s.heap 5 10) {sv : Value} {x rg pl ta md fd : Addr} {tv v : Value} {i : Int} {t1 t3 : Tok} (I : Inst s.heap x 764 (implF tv v i rg pl ta md t1 t3)) (hp : s.heap.IsList pl [].toArray)
  (ret : ∀ a n h' tk', s.heap.StaysIn h' → Fr h₀ L h' m → Fresh s.heap h' a (PySem.W.listOf #[] n) → Q (.ref a) { s with heap := h', toks := tk' }) :
  wpAny (model PR w) A (PySem.call (.ref (146 : Nat)) [sv, .ref x, .ref fd]) Q E s := by
 refine @disc _ ?y ?e
 case e =>
 haveI h : @Eq (PLift _) (PLift.up (by
 k_fill
 revert C I hp ret
 revert sv x rg pl ta md fd tv v i t1 t3
 k_extra "rv"
 refine no_implicit_lambda% (clZ (cPm cZ.N.N.I.V.V.N.N.N.N.N.N.V) ?_)
 k_extra "ld"
 refine fZ8 ?_
 intro zc0_0 sv x rg pl ta md fd tv
 clear_value sv x rg pl ta md fd tv
 refine gZ4 ?_
 intro zc0 v i t1 t3
 clear_value v i t1 t3
 intros C I hp ret
 k_extra "oC"
 k_extra "e0"
 k_steps
 exact ret _ _ _ _ (Fr.keep ‹_›) ‹_› (newsFrsh ‹_› (by k_mem)))) ?y := by k_extra "cv"
 k_extra "zz"
example : True := by
 k_with "call ref cons" =>
  (
   (with_reducible show wpAny _ _ (PySem.call (Value.ref 146) _) _ _ _)
   refine' needs_of_w (by k_extra "a0") ?hi ?hl ?_
   case hi => exact inst_fr ‹_› ‹_›
   case hl => exact isList_fr ‹_› ‹_›
   k_extra "n1"
   have q9 : Far _ _ := freshApart ‹_› x9
   have N9 := news_fresh ‹_› (News.grown ‹_› st9) x9)
 k_with "exec For Tuple Call cons nil" =>
  (k_here; k_dflt (refine for_nil ‹_› ?_))
 k_with "NilSrc" =>
  (refine ⟨_, _, _, rfl, by assumption, by assumption, by assumption, News.isList ‹_› (by k_mem), ?_⟩; refine clZ cZ.H ?_; refine gZ1 ?_; intro zc h'; clear_value h'; clear zc; intro F' N')
 trivial
theorem needs_met_w (C : Cx w p loose mean mg mb A A₀ base h₀ outer env L m s.heap 10 20) {x y sel rg pl ta md fd wo bd : Addr} {tv v : Value} {wv nv : Value} {i : Int} {t1 t3 : Tok} (J : Inst s.heap y 224 [("world", wv), ("name", nv), ("selection", .ref sel)]) (S : Inst s.heap sel 161 [("world", .ref wo), ("bounds", .ref bd)]) (I : Inst s.heap x 764 (implF tv v i rg pl ta md t1 t3)) (hp : s.heap.IsList pl [].toArray)
  (ret : ∀ h' tk', s.heap.StaysIn h' → Fr h₀ L h' m → Q (.bool true) { s with heap := h', toks := tk' }) :
  wpAny (model PR w) A (PySem.call (.ref (207 : Nat)) [.ref y, .ref x, .ref fd]) Q E s := by
 refine @disc _ ?y ?e
 case e =>
 haveI h : @Eq (PLift _) (PLift.up (by
 k_fill
 revert C J S I hp ret
 revert x y sel rg pl ta md fd wo bd tv v wv nv i t1 t3
 k_extra "rv"
 refine no_implicit_lambda% (clZ (cPm cZ.N.N.I.V.V.V.V.N.N.N.N.N.N.N.N.N.N) ?_)
 k_extra "ld"
 refine fZ8 ?_
 intro zc0_0 x y sel rg pl ta md fd
 clear_value x y sel rg pl ta md fd
 refine fZ8 ?_
 intro zc0_1 wo bd tv v wv nv i t1
 clear_value wo bd tv v wv nv i t1
 refine gZ1 ?_
 intro zc0 t3
 clear_value t3
 intros C J S I hp ret
 k_extra "oC"
 k_extra "c0"
 k_steps
 exact ret _ _ (Fr.keep ‹_›) ‹_›)) ?y := by k_extra "cv"
 k_extra "zz"
inductive Kind where
 | value | ref | mut
 deriving DecidableEq
noncomputable abbrev Cl.Kd {T : Type} (s : Cl T) : Cl ((Kind) → T) := s.cons (Kind) ⟨.value⟩
noncomputable abbrev Cl.Ko {T : Type} (s : Cl T) : Cl ((Option Kind) → T) := s.cons (Option Kind) ⟨none⟩
noncomputable def Kind.str : Kind → String
 | .value => "value" | .ref => "ref" | .mut => "mut"
noncomputable def selfOf : Kind → Ty → Option Ty
 | .value, t => some t | .ref, .ref false u => some u | .mut, .ref true u => some u | _, _ => none
theorem selfOf_no {k : Kind} {t : Ty} (hk : k ≠ .value) (h : ∀ b u, t ≠ .ref b u) : selfOf k t = none := by
 cases k <;> cases t <;> first | rfl | exact absurd rfl hk | exact absurd rfl (h _ _)
theorem selfOf_ref {k : Kind} {u : Ty} {b : Bool} (hk : k ≠ .value) (h : (b != (PySem.Str.ofString k.str == PySem.Str.ofString "mut")) = false) : selfOf k (.ref b u) = some u := by
 cases k <;> cases b <;> first | rfl | exact absurd rfl hk | exact Bool.noConfusion h
theorem selfOf_not {k : Kind} {u : Ty} {b : Bool} (hk : k ≠ .value) (h : (b != (PySem.Str.ofString k.str == PySem.Str.ofString "mut")) = true) : selfOf k (.ref b u) = none := by
 cases k <;> cases b <;> first | rfl | exact absurd rfl hk | exact Bool.noConfusion h
theorem Kind.no_value {k : Kind} (hk : k ≠ .value) : ¬ (PySem.Str.ofString k.str == PySem.Str.ofString "value") = true := by
 cases k <;> first | exact absurd rfl hk | decide
theorem Ty.noRef {t : Ty} (h : ∀ b u, t ≠ .ref b u) : (PySem.Str.ofString t.head != PySem.Str.ofString "ref") = true := by
 cases t <;> first | exact absurd rfl (h _ _) | (simp only [Ty.head]; decide)
theorem Ty.isRef? (t : Ty) : (∃ b u, t = .ref b u) ∨ ∀ b u, t ≠ .ref b u := by cases t <;> first | exact .inl ⟨_, _, rfl⟩ | exact .inr fun _ _ e => nomatch e
theorem bound_of_w (C : Cx w p loose mean mg mb A A₀ base h₀ outer env L m s.heap 5 10) {sv trait : Value} {ok : Addr → Prop} {vt : Value} {t : Ty} (tt : TyAt ok s.heap vt t) (ht : t ≠ .param)
  (ret : ∀ h' tk', s.heap.StaysIn h' → Fr h₀ L h' m → Q .none { s with heap := h', toks := tk' }) :
  wpAny (model PR w) A (PySem.call (.ref (141 : Nat)) [sv, trait, vt]) Q E s := by
 refine @disc _ ?y ?e
 case e =>
 haveI h : @Eq (PLift _) (PLift.up (by
 k_fill
 obtain ⟨a1, tk1, rest1, rfl, hT1⟩ := tt.head
 have hp1 : ¬ (PySem.Str.ofString t.head == PySem.Str.ofString "param") = true := by cases t <;> first | exact absurd rfl ht | (simp only [Ty.head]; decide)
 revert C ht ret hT1 tt hp1
 revert sv trait ok t a1 tk1 rest1
 k_extra "rv"
 refine no_implicit_lambda% (clZ (cPm cZ.L.N.N.T.P.V.V) ?_)
 k_extra "ld"
 refine gZ7 ?_
 intro zc0 sv trait ok t a1 tk1 rest1
 clear_value sv trait ok t a1 tk1 rest1
 intros C ht ret hT1 tt hp1
 k_extra "oC"
 k_extra "c0"
 k_steps
 exact ret _ _ (Fr.keep ‹_›) ‹_›)) ?y := by k_extra "cv"
 k_extra "zz"
theorem last_name_w (C : Cx w p loose mean mg mb A A₀ base h₀ outer env L m s.heap 5 10) {tk : Tok}
  (ret : ∀ tk' h' tk'', s.heap.StaysIn h' → Fr h₀ L h' m → Q (st "A" tk') { s with heap := h', toks := tk'' }) :
  wpAny (model PR w) A (PySem.call (.ref (101 : Nat)) [st "A" tk]) Q E s := by
 refine @disc _ ?y ?e
 case e =>
 haveI h : @Eq (PLift _) (PLift.up (by
 k_fill
 revert C ret
 revert tk
 k_extra "rv"
 refine no_implicit_lambda% (clZ (cPm cZ.N) ?_)
 k_extra "ld"
 refine gZ1 ?_
 intro zc0 tk
 clear_value tk
 intros C ret
 k_extra "oC"
 k_extra "c0"
 k_steps
 rw [show ({ cps := #[65] } : PySem.Str) = PySem.Str.ofString "A" from by decide +kernel]
 exact ret _ _ _ (Fr.keep ‹_›) ‹_›)) ?y := by k_extra "cv"
 k_extra "zz"
theorem self_of_w (C : Cx w p loose mean mg mb A A₀ base h₀ outer env L m s.heap 5 10) {tk : Tok} {ok : Addr → Prop} {vt : Value} {t : Ty} {k : Kind} (tt : TyAt ok h₀ vt t)
  (retN : ∀ h' tk', s.heap.StaysIn h' → Fr h₀ L h' m → selfOf k t = none → Q .none { s with heap := h', toks := tk' })
  (retS : ∀ a u h' tk', s.heap.StaysIn h' → Fr h₀ L h' m → selfOf k t = some u → TyAt ok h₀ (.ref a) u → Q (.ref a) { s with heap := h', toks := tk' }) :
  wpAny (model PR w) A (PySem.call (.ref (179 : Nat)) [vt, st k.str tk]) Q E s := by
 refine @disc _ ?y ?e
 case e =>
 haveI h : @Eq (PLift _) (PLift.up (by
 k_fill
 obtain ⟨a1, rfl⟩ := tt.isRef
 revert C retN retS tt
 revert tk ok t k a1
 k_extra "rv"
 refine no_implicit_lambda% (clZ (cPm cZ.N.Kd.T.P.N) ?_)
 k_extra "ld"
 refine gZ5 ?_
 intro zc0 tk ok t k a1
 clear_value tk ok t k a1
 intros C retN retS tt
 k_extra "oC"
 by_cases hk : k = .value
 ·subst hk
  simp only [Kind.str]
  k_extra "c0"
  k_steps
  exact retS _ _ _ _ (Fr.keep ‹_›) ‹_› rfl tt
 have hv := Kind.no_value hk
 rcases t.isRef? with ⟨b, u, rfl⟩ | h1
 ·obtain ⟨t1, v, i0, _, ku⟩ := tt.refJ
  obtain ⟨av, rfl⟩ := ku.isRef
  have i0 := i0.keeps F.keep
  rename_i u1_0 u1_1
  revert retN retS tt u1_1 ku i0
  revert b u t1 av
  refine no_implicit_lambda% (clZ cZ.N.N.T.B ?_)
  refine gZ4 ?_
  intro zc1 b u t1 av
  clear_value b u t1 av
  intros retN retS tt u1_1 ku i0
  k_extra "c0"
  k_extra "h0"
  k_extra "h0"
  k_steps
  ·exact retN _ _ (Fr.keep ‹_›) ‹_› (selfOf_not hk ‹_›)
  ·exact retS _ _ _ _ (Fr.keep ‹_›) ‹_› (selfOf_ref hk ‹_›) ku
 ·obtain ⟨tk1, rest1, hT1⟩ := tt.headR
  have hT1 := hT1.keeps F.keep
  have hp2 := Ty.noRef h1
  rename_i u2_0
  revert u2_0 hT1
  revert tk1 rest1
  refine no_implicit_lambda% (clZ cZ.L.N ?_)
  refine gZ2 ?_
  intro zc2 tk1 rest1
  clear_value tk1 rest1
  intros u2_0 hT1
  k_extra "c0"
  k_steps
  exact retN _ _ (Fr.keep ‹_›) ‹_› (selfOf_no hk h1))) ?y := by k_extra "cv"
 k_extra "zz"
section
variable {prog : Program} {w : World} {A : Around} {E : Value → Shared → Prop} {s : Shared} {g : Heap} {env : Env}
def itO (l : Addr) (i : Nat) (o : Obj) : Prop := o.cls = .type "list_iterator" ∧ o.data = .fields #[.ref l, .int (i : Int) 0]
def LPost (g : Heap) (L : Addr) (I : Addr) (oI : Obj) (J : (Str → Option Value) → List (Addr × Obj) → Prop) (s₁ : Shared) (Q : Flow → Shared → Prop) (f : Flow) (s₃ : Shared) : Prop := match f with
 | .brk => Q .next s₃
 | .ret v => Q (.ret v) s₃
 | _ => ∃ m' news' h' tk, s₃ = { s₁ with heap := h', toks := tk } ∧ Fr g L h' m' ∧ News g L h' ((I, oI) :: news') ∧ (∀ q ∈ news', q.1 ≠ I) ∧ J m' news'
inductive ListSrc (prog : Program) (w : World) (A : Around) (g : Heap) (env : Env) (x : Str) (body : List Stmt) (Q : Flow → Shared → Prop) (E : Value → Shared → Prop) (xv : Value) (s₁ : Shared) : Prop
 | mk : ∀ (l : Addr) (xs : List Value) (m : Str → Option Value) (news : List (Addr × Obj)) (J : Nat → (Str → Option Value) → List (Addr × Obj) → Prop), (xv = .ref l) → (A.handled = none) → (Fr g env.locals s₁.heap m) → (News g env.locals s₁.heap news) → (g.IsList l xs.toArray) → (J 0 m news) → ((∀ i v m₁ news₁ h tk I oI, xs[i]? = some v → J i m₁ news₁ → Fr g env.locals h (fun y => if y = x then some v else m₁ y) → News g env.locals h ((I, oI) :: news₁) → (∀ q ∈ news₁, q.1 ≠ I) → wpAny (model prog w) A (execs body env) (LPost g env.locals I oI (J (i + 1)) s₁ Q) E { s₁ with heap := h, toks := tk })) → (∀ m' news' h tk, J xs.length m' news' → Fr g env.locals h m' → News g env.locals h news' → Q .next { s₁ with heap := h, toks := tk }) → ListSrc prog w A g env x body Q E xv s₁
noncomputable def LTurn (prog : Program) (w : World) (A : Around) (g : Heap) (env : Env) (target : PySem.Expr) (body : List Stmt) (Q : Flow → Shared → Prop) (E : Value → Shared → Prop) (s₁ : Shared) (I : Addr) (it : Nat → Obj → Prop) (n₀ : Nat) (J : Nat → (Str → Option Value) → List (Addr × Obj) → Prop)
  (i : Nat) (m' : Str → Option Value) (news' : List (Addr × Obj)) (h' : Heap) (tk : Nat) : Prop :=
 (i = n₀ ∧ ∀ (P : Option Value → Shared → Prop) E', (∀ h₂, Heap.ExtBut I h' h₂ → P none { s₁ with heap := h₂, toks := tk }) → wpAny (model prog w) A (pyNext (.ref I)) P E' { s₁ with heap := h', toks := tk }) ∨
 (i < n₀ ∧ ∃ v tk', (∀ (P : Option Value → Shared → Prop) E', (∀ h₁ o₁, h₁.get? I = some o₁ → it (i + 1) o₁ → Heap.SameBut I h' h₁ → P (some v) { s₁ with heap := h₁, toks := tk' }) → wpAny (model prog w) A (pyNext (.ref I)) P E' { s₁ with heap := h', toks := tk }) ∧
  (∀ h₁ o₁ (P : Unit → Shared → Prop) E', h₁.get? I = some o₁ → it (i + 1) o₁ → P () { s₁ with heap := h₁, toks := tk' } → wpAny (model prog w) A (letOwnedTupleGo target (.ref I) v) P E' { s₁ with heap := h₁, toks := tk' }) ∧
  (∀ h₁ oI, Fr g env.locals h₁ m' → News g env.locals h₁ ((I, oI) :: news') → (∀ q ∈ news', q.1 ≠ I) → it (i + 1) oI →
   wpAny (model prog w) A (assign target env v) (fun _ s₂ => wpAny (model prog w) A (execs body env) (LPost g env.locals I oI (J (i + 1)) s₁ Q) E s₂) E { s₁ with heap := h₁, toks := tk' }))
theorem loop_gen {target : PySem.Expr} {body : List Stmt} {Q : Flow → Shared → Prop} {s₁ : Shared} {m : Str → Option Value} {news : List (Addr × Obj)} {o0 : Obj} {it : Nat → Obj → Prop} {n₀ : Nat} {J : Nat → (Str → Option Value) → List (Addr × Obj) → Prop}
  (hE : PassesOwn (model prog w) A env E) (F : Fr g env.locals s₁.heap m) (N : News g env.locals s₁.heap news) (hg : (s₁.heap.push o0).get? s₁.heap.objs.size = some o0) (i0 : it 0 o0) (j0 : J 0 m news)
  (turn : ∀ i m' news' h' tk oI, J i m' news' → Fr g env.locals h' m' → News g env.locals h' ((s₁.heap.objs.size, oI) :: news') → (∀ q ∈ news', q.1 ≠ s₁.heap.objs.size) → it i oI → i ≤ n₀ → LTurn prog w A g env target body Q E s₁ s₁.heap.objs.size it n₀ J i m' news' h' tk)
  (done : ∀ m' news' h tk, J n₀ m' news' → Fr g env.locals h m' → News g env.locals h news' → Q .next { s₁ with heap := h, toks := tk }) :
  codeAny (model prog w) A (.forLoop target (.ref s₁.heap.objs.size) body [] env) (fun r s' => match r with | .ok f => Q f s' | .error e => cameBackBy (model prog w) A env E e s') { s₁ with heap := s₁.heap.push o0 } := by
 refine @disc _ ?y ?e
 case e =>
 haveI h : @Eq (PLift _) (PLift.up (by
 revert hE F N hg i0 j0 turn done
 revert prog w A E g env target body Q s₁ m news o0 it n₀ J
 refine no_implicit_lambda% (clZ cZ.n.N.j.O.l.M.s.F.x.E.e.H.Q.A.W.R ?_)
 refine fZ8 ?_
 intro zc0_0 prog w A E g env target body
 clear_value prog w A E g env target body
 refine gZ8 ?_
 intro zc0 Q s₁ m news o0 it n₀ J
 clear_value Q s₁ m news o0 it n₀ J
 intros hE F N hg i0 j0 turn done
 have hIL : s₁.heap.objs.size ≠ env.locals := Nat.ne_of_gt F.ns.lt
 have hIg : g.get? s₁.heap.objs.size = none := next_is_new F
 have hlt : ∀ q ∈ news, q.1 ≠ s₁.heap.objs.size := fun q hq => Nat.ne_of_lt (Heap.lt_size (N q hq).1)
 have F0 := F.push o0
 have N0 : News g env.locals (s₁.heap.push o0) ((s₁.heap.objs.size, o0) :: news) := by
  intro q hq
  k_extra "j0"
  ·exact ⟨hg, hIL, hIg⟩
  ·exact ⟨Heap.get?_push_of_some _ (N q hq).1, (N q hq).2⟩
 generalize hI : s₁.heap.objs.size = I at *
 generalize s₁.heap.push o0 = h0 at *
 revert hI turn hIL hIg hlt F0 hg N0
 revert I h0
 refine no_implicit_lambda% (clZ cZ.H.N ?_)
 refine gZ2 ?_
 intro zc1 I h0
 clear_value I h0
 intros hI turn hIL hIg hlt F0 hg N0
 let st : Nat → Shared → Prop := fun n s' => ∃ i m' news' h' tk oI, n + i = n₀ ∧ s' = { s₁ with heap := h', toks := tk } ∧ Fr g env.locals h' m' ∧ News g env.locals h' ((I, oI) :: news') ∧ (∀ q ∈ news', q.1 ≠ I) ∧ it i oI ∧ J i m' news'
 refine codeAny_forLoop_any st (fun n s' hS => ?_) n₀ ⟨0, m, news, h0, s₁.toks, o0, rfl, rfl, F0, N0, hlt, i0, j0⟩
 obtain ⟨i, m', news', h', tk, oI, hn, rfl, F', N', ne', hit, hJ⟩ := hS
 revert hn F' N' ne' hit hJ
 revert n i m' news' h' tk oI
 refine no_implicit_lambda% (clZ cZ.O.N.H.l.M.N.N ?_)
 refine gZ7 ?_
 intro zc2 n i m' news' h' tk oI
 clear_value n i m' news' h' tk oI
 intros hn F' N' ne' hit hJ
 rcases turn i m' news' h' tk oI hJ F' N' ne' hit (hn ▸ Nat.le_add_left i n) with ⟨rfl, nx⟩ | ⟨hi, v, tk', nx, ow, bd⟩
 ·refine nx _ _ fun h₂ he₂ => ?_
  have F₂ : Fr g env.locals h₂ m' := ⟨F'.ns.at' fun o e => he₂ _ _ (fun q => hIL q.symm) e, fun c o e => he₂ _ _ (fun q => by rw [q, hIg] at e; cases e) (F'.keep _ _ e), F'.above⟩
  have N₂ : News g env.locals h₂ news' := fun q hq => ⟨he₂ _ _ (ne' q hq) (N' q (.tail _ hq)).1, (N' q (.tail _ hq)).2⟩
  exact wpAny_passesOwn hE (wpAny_execs_nil (done m' news' h₂ tk hJ F₂ N₂))
 ·refine nx _ _ fun h₁ o₁ ho₁ hi₁ hs₁ => ?_
  have F₁ : Fr g env.locals h₁ m' := ⟨F'.ns.sameBut hs₁ (fun q => hIL q.symm), fun c o e => (hs₁.2 c (fun q => by rw [q, hIg] at e; cases e)).trans (F'.keep _ _ e), F'.above⟩
  have N₁ : News g env.locals h₁ ((I, o₁) :: news') := by
   intro q hq
   k_extra "j0"
   ·exact ⟨ho₁, hIL, hIg⟩
   ·exact ⟨(hs₁.2 _ (ne' q hq)).trans (N' q (.tail _ hq)).1, (N' q (.tail _ hq)).2⟩
  refine ow _ _ _ _ ho₁ hi₁ (wpAny_mono (bd h₁ o₁ F₁ N₁ ne' hi₁) (fun _ s₂ h₂ => wpAny_passesOwn hE (wpAny_mono h₂ (fun f s₃ h₃ => ?_) fun _ _ e => e)) hE)
  have nxt : LPost g env.locals I o₁ (J (i + 1)) s₁ Q .next s₃ → ∃ k, k < n ∧ st k s₃ := by
   rintro ⟨m₂, nw, h₄, tk₄, rfl, F₄, N₄, ne₄, j₄⟩
   cases n with
   | zero => exact absurd hi (by rw [← hn, Nat.zero_add]; exact Nat.lt_irrefl i)
   | succ k => exact ⟨k, Nat.lt_succ_self k, i + 1, m₂, nw, h₄, tk₄, o₁, (Nat.succ_add k i).symm.trans hn, rfl, F₄, N₄, ne₄, hi₁, j₄⟩
  cases f with
  | next => exact nxt h₃
  | cont => exact nxt h₃
  | brk => exact h₃
  | ret v => exact h₃)) ?y := by k_extra "cv"
 k_extra "zz"
inductive ListSrcJ (prog : Program) (w : World) (A : Around) (g : Heap) (env : Env) (x : Str) (body : List Stmt) (Q : Flow → Shared → Prop) (E : Value → Shared → Prop) (xv : Value) (s₁ : Shared) : Prop
 | mk : ∀ (l : Addr) (xs : List Value) (m : Str → Option Value) (news : List (Addr × Obj)) (J : Nat → (Str → Option Value) → List (Addr × Obj) → Prop), (xv = .ref l) → (A.handled = none) → (Fr g env.locals s₁.heap m) → (News g env.locals s₁.heap news) → ((∀ i m₁ news₁ h, J i m₁ news₁ → Fr g env.locals h m₁ → News g env.locals h news₁ → h.IsList l xs.toArray)) → (J 0 m news) → ((∀ i v m₁ news₁ h tk I oI, xs[i]? = some v → J i m₁ news₁ → Fr g env.locals h (fun y => if y = x then some v else m₁ y) → News g env.locals h ((I, oI) :: news₁) → (∀ q ∈ news₁, q.1 ≠ I) → wpAny (model prog w) A (execs body env) (LPost g env.locals I oI (J (i + 1)) s₁ Q) E { s₁ with heap := h, toks := tk })) → (∀ m' news' h tk, J xs.length m' news' → Fr g env.locals h m' → News g env.locals h news' → Q .next { s₁ with heap := h, toks := tk }) → ListSrcJ prog w A g env x body Q E xv s₁
theorem for_listJ {x : Str} {px pos : Pos} {iter : PySem.Expr} {body : List Stmt} {Q : Flow → Shared → Prop} {m₁ : Str → Option Value} (_F : Fr g env.locals s.heap m₁) (hx : env.kindOf x = some .local)
  (hp : (env.scope.kind == .class || (env.scope.kind == .module && env.locals != env.globals)) = false)
  (h : wpAny (model prog w) A (eval iter env) (ListSrcJ prog w A g env x body Q E) E s)
  (hs : ∀ x, foldedSetIterable iter env x = pure x := by intro _; rfl)
  (hE : PassesOwn (model prog w) A env E := by passes_own) :
  wpAny (model prog w) A (exec (.For (.Name x px) iter body [] pos) env) Q E s := by
 k_extra "p0"
 obtain ⟨l, xs, m, news, J, rfl, hh, F, N, hl, j0, step, done⟩ := h₁
 refine wpAny_pyIter_list (hl _ _ _ _ j0 F N) (loop_gen (it := itO l) (n₀ := xs.length) hE F N (Heap.get?_push_size _ rfl) ⟨rfl, rfl⟩ j0 (fun i m' news' h' tk oI hJ F' N' ne' hit hle => ?_) done)
 have hit' : h'.IsListIter _ l i := ⟨oI, (N' _ (.head _)).1, hit.1, hit.2⟩
 have hl' : h'.IsList l xs.toArray := hl _ _ _ _ hJ F' (fun q hq => N' q (.tail _ hq))
 cases hv : xs[i]? with
 | none => exact .inl ⟨Nat.le_antisymm hle (List.getElem?_eq_none_iff.mp hv), fun P E' k => wpAny_pyNext_list_end hh hit' hl' (by simpa using hv) k⟩
 | some v =>
  exact .inr ⟨(List.getElem?_eq_some_iff.mp hv).1, v, tk, fun P E' k => wpAny_pyNext_list_item hit' hl' (by simpa using hv) fun h₁ ⟨o₁, ho₁, hc₁, hd₁⟩ hs₁ => k h₁ o₁ ho₁ ⟨hc₁, hd₁⟩ hs₁,
   fun _ _ _ _ _ _ k => wpAny_pure k, fun h₁ oI F₁ N₁ ne _ => wpAny_assign_Name (wpAny_storeName_local hx F₁.ns (fun h₂ hn₂ hs₂ => step i v m' news' h₂ _ _ oI hv hJ (F₁.set hn₂ hs₂) (N₁.set hs₂) ne) hp)⟩
theorem for_list {x : Str} {px pos : Pos} {iter : PySem.Expr} {body : List Stmt} {Q : Flow → Shared → Prop} {m₁ : Str → Option Value} (_F : Fr g env.locals s.heap m₁) (hx : env.kindOf x = some .local)
  (hp : (env.scope.kind == .class || (env.scope.kind == .module && env.locals != env.globals)) = false)
  (h : wpAny (model prog w) A (eval iter env) (ListSrc prog w A g env x body Q E) E s)
  (hs : ∀ x, foldedSetIterable iter env x = pure x := by intro _; rfl)
  (hE : PassesOwn (model prog w) A env E := by passes_own) :
  wpAny (model prog w) A (exec (.For (.Name x px) iter body [] pos) env) Q E s := by
 refine for_listJ _F hx hp (wpAny_mono h (fun xv s₁ h₁ => ?_) fun _ _ e => e) hs hE
 obtain ⟨l, xs, m, news, J, rfl, hh, F, N, hl, j0, step, done⟩ := h₁
 exact ⟨l, xs, m, news, J, rfl, hh, F, N, fun _ _ _ _ _ F' _ => hl.at fun _ e => F'.keep _ _ e, j0, step, done⟩
end
structure Row where
 tr : Bool
 told : Ty
 kind : Kind
 out : Ty
 path : PySem.Str
noncomputable abbrev Cl.Rw {T : Type} (s : Cl T) : Cl ((Row) → T) := s.cons (Row) ⟨⟨true, .u8, .value, .u8, default⟩⟩
noncomputable abbrev Cl.Rs {T : Type} (s : Cl T) : Cl ((List Row) → T) := s.cons (List Row) ⟨[]⟩
noncomputable abbrev Cl.Rn {T : Type} (s : Cl T) : Cl ((Row × Nat) → T) := s.cons (Row × Nat) ⟨⟨⟨true, .u8, .value, .u8, default⟩, 0⟩⟩
noncomputable abbrev Cl.Rl {T : Type} (s : Cl T) : Cl ((List (Row × Nat)) → T) := s.cons (List (Row × Nat)) ⟨[]⟩
noncomputable def tvOf (r : Row) (tk : Tok) : Value := if r.tr then st "A" tk else .none
inductive ImplAt (w : World) (h : Heap) (v : Value) (i : Nat) (r : Row) : Prop
 | mk : ∀ x rg pl ta md vt t1 t2 t3 t4, (v = .ref x) → (Inst h x 764 (implF (tvOf r t2) vt (i : Int) rg pl ta md t1 t3)) → (h.IsList pl [].toArray) → (IsTup h ta [].toArray) → (TyAt (fun _ => True) h vt r.told) → (DictAt w h md [(PySem.Str.ofString "go", .str r.path t4)]) → (r.told.isPat) → ImplAt w h v i r
theorem ImplAt.keeps {w : World} {h h' : Heap} {v : Value} {i : Nat} {r : Row} (k : h.StaysIn h') (x : ImplAt w h v i r) : ImplAt w h' v i r := by
 obtain ⟨a, rg, pl, ta, md, vt, t1, t2, t3, t4, e, I, p, q, t, d, u⟩ := x
 exact ⟨a, rg, pl, ta, md, vt, t1, t2, t3, t4, e, I.keeps k, p.at fun _ e => k _ _ e, q.keeps k, t.keeps k, d.keeps k, u⟩
noncomputable def sigF (pt : Tok) (path : PySem.Str) (rg pl ow ins : Addr) (vo : Value) (k : Kind) (kt : Tok) (b : Bool) : List (String × Value) :=
 [("path", .str path pt), ("regions", .ref rg), ("params", .ref pl), ("own", .ref ow), ("inputs", .ref ins), ("output", vo), ("self_kind", st k.str kt), ("has_body", .bool b)]
noncomputable def selfTy : Kind → Ty → Ty
 | .value, t => t | .ref, t => .ref false t | .mut, t => .ref true t
theorem selfOf_iff {k : Kind} {t u : Ty} : selfOf k t = some u ↔ selfTy k u = t := by
 constructor
 ·intro h
  cases k with
  | value => exact (Option.some.inj h).symm
  | ref => cases t with
   | ref b t => cases b with
    | false => exact congrArg (Ty.ref false) (Option.some.inj h).symm
    | true => exact (sn h.symm).elim
   | _ => exact (sn h.symm).elim
  | _ => cases t with
   | ref b t => cases b with
    | true => exact congrArg (Ty.ref true) (Option.some.inj h).symm
    | false => exact (sn h.symm).elim
   | _ => exact (sn h.symm).elim
 ·rintro rfl; cases k <;> rfl
inductive SigAt (w : World) (h : Heap) (v : Value) (r : Row) : Prop
 | mk : ∀ x pt rg pl ow ins vo kt s0 a0, (v = .ref x) → (Inst h x 721 (sigF pt r.path rg pl ow ins vo r.kind kt true)) → (h.IsList pl [].toArray) → (IsTup h ins [s0, a0].toArray) → (TyAt (fun _ => True) h s0 (selfTy r.kind r.told)) → (TyAt (fun _ => True) h a0 .u8) → (TyAt (fun _ => True) h vo r.out) → SigAt w h v r
theorem SigAt.keeps {w : World} {h h' : Heap} {v : Value} {r : Row} (k : h.StaysIn h') (x : SigAt w h v r) : SigAt w h' v r := by
 obtain ⟨a, pt, rg, pl, ow, ins, vo, kt, s0, a0, e, I, p, q, t1, t2, t3⟩ := x
 exact ⟨a, pt, rg, pl, ow, ins, vo, kt, s0, a0, e, I.keeps k, p.at fun _ e => k _ _ e, q.keeps k, t1.keeps k, t2.keeps k, t3.keeps k⟩
noncomputable def isHit (T : Ty) (r : Row) : Bool := r.tr && decide (r.told = T)
inductive CandEl (T : List (Addr × Obj)) (v : Value) : Prop
 | mk : ∀ a fd tk tk2, ∀ i : Int, (v = .ref a) → ((a, ({ cls := .type "tuple", data := .seq #[st "yes" tk, .int i tk2, .ref fd] } : Obj)) ∈ T) → CandEl T v
noncomputable def wdF (a1 a2 ds dt li a3 a4 : Addr) : List (String × Value) :=
 [("modules", .none), ("adts", .ref a1), ("variants", .ref a2), ("sigs", .ref ds), ("traits", .ref dt), ("impls", .ref li), ("consts", .ref a3), ("bodies", .ref a4)]
theorem known_map {m : Str → Option Value} {n : Str} {v : Value} (h : m n = some v) : m = fun q => if q = n then some v else m q := by
 funext q
 by_cases e : q = n
 ·rw [if_pos e, e]; exact h
 ·rw [if_neg e]
inductive CandJ (t : Ty) (rows : List Row) (y e0 : Addr) (vt : Value) (tk dk : Tok) (i : Nat) (m : Str → Option Value) (news : List (Addr × Obj)) : Prop
 | mk : ∀ (r : Addr) (ys : List Value) (k : Nat) (T : List (Addr × Obj)), (news = (r, PySem.W.listOf ys.toArray k) :: T) → ((∀ p ∈ T, p.1 ≠ r)) → (ys.length = ((rows.take i).filter (isHit t)).length) → ((∀ v ∈ ys, CandEl T v)) → (m "self" = some (.ref y)) → (m "trait" = some (st "A" tk)) → (m "args" = some (.ref e0)) → (m "T" = some vt) → (m "deep" = some (.int 0 dk)) → (m "rows" = some (.ref r)) → CandJ t rows y e0 vt tk dk i m news
example : True := by
 k_with "exec For Name Attribute cons nil" =>
  (k_here; k_dflt (refine for_list ‹_› (by rfl) (by rfl) ?_))
 k_with "call ref cons" =>
  (
   (with_reducible show wpAny _ _ (PySem.call (Value.ref 113) _) _ _ _)
   refine' matches_impl_w (by k_extra "a0") ?hi ?hl ?he ?hu ?tu ?tt ?_
   case hi => exact inst_fr ‹_› ‹_›
   case hl => exact isList_fr ‹_› ‹_›
   case he => exact isTup_fr ‹_› ‹_›
   case hu => assumption
   case tu => exact TyAt.fr ‹_› ‹_›
   case tt => exact TyAt.fr ‹_› ‹_›
   k_extra "z1"
   first | rw [if_pos hut] at x9 | rw [if_neg hut] at x9
   have q9 : Far _ _ := freshApart ‹_› x9
   have q8 : Far _ _ := freshApart ‹_› y9
   have N9 := news_fresh ‹_› (news_fresh ‹_› (News.grown ‹_› st9) y9) x9)
 k_with "call ref cons" =>
  (
   (with_reducible show wpAny _ _ (PySem.call (Value.ref 146) _) _ _ _)
   refine' needs_of_w (by k_extra "a0") ?hi ?hl ?_
   case hi => exact inst_fr ‹_› ‹_›
   case hl => exact isList_fr ‹_› ‹_›
   k_extra "n1"
   have q9 : Far _ _ := freshApart ‹_› x9
   have N9 := news_fresh ‹_› (News.grown ‹_› st9) x9)
 k_with "exec For Tuple IfExp cons nil" =>
  (k_here; k_dflt (refine for_nil ‹_› ?_))
 k_with "NilSrc" =>
  (refine ⟨_, _, _, rfl, by assumption, by assumption, by assumption, News.isList ‹_› (by k_mem), ?_⟩; refine clZ cZ.H ?_; refine gZ1 ?_; intro zc h'; clear_value h'; clear zc; intro F' N')
 trivial
local macro_rules | `(tactic| k_all) => `(tactic| with_reducible assumption)
example : True := by
 k_with "call builtin:list.append" =>
  (k_here; k_dflt (refine' append_K ?k1 ?k2 ?k3 ?_ ?z; (case k1 => k_asm); (case k2 => k_asm); (case k3 => k_upd); (case z => first | exact Nat.le_of_ble_eq_true rfl | (rw [List.size_toArray, sizeLine_eq]; omega)); k_whole); refine clZ cZ.H ?_; refine gZ1 ?_; intro zc h'; clear_value h'; clear zc; intro F' N')
 trivial
example : True := by
 k_with "h3" =>
  (intro p hp; repeat (first | exact hp | refine List.Mem.tail _ ?_))
 trivial
theorem cand_push {g h : Heap} {L I r a : Addr} {oI o : Obj} {ys : List Value} {k : Nat} {l T0 : List (Addr × Obj)} (N : News g L h l) (h1 : (I, oI) ∈ l) (h2 : (r, PySem.W.listOf (ys.toArray.push (Value.ref a)) (k + 1)) ∈ l) (h3 : (a, o) ∈ l) (h4 : ∀ p ∈ T0, p ∈ l) :
  News g L h ((I, oI) :: (r, PySem.W.listOf (ys ++ [Value.ref a]).toArray (k + 1)) :: (a, o) :: T0) := by
 rw [List.push_toArray] at h2
 intro p hp
 k_extra "v0"
 ·exact N _ h1
 k_extra "v0"
 ·exact N _ h2
 k_extra "v0"
 ·exact N _ h3
 ·exact N _ (h4 _ hp)
theorem CandEl.up {T T' : List (Addr × Obj)} {v : Value} (s : ∀ p ∈ T, p ∈ T') (x : CandEl T v) : CandEl T' v := let ⟨a, fd, tk, tk2, i, e, h⟩ := x; ⟨a, fd, tk, tk2, i, e, s _ h⟩
theorem take_hit {rows : List Row} {t : Ty} {i : Nat} {r : Row} (h : rows[i]? = some r) : ((rows.take (i + 1)).filter (isHit t)).length = ((rows.take i).filter (isHit t)).length + if isHit t r then 1 else 0 := by
 rw [List.take_add_one, h, List.filter_append, List.length_append]
 cases q : isHit t r <;> simp [q]
theorem candidates_w (C : Cx w p loose mean mg mb A A₀ base h₀ outer env L m s.heap 40 300) {y wo bd e0 li a1 a2 ds dt a3 a4 : Addr} {tkA dkA : Tok} {vt : Value} {t : Ty} {xs : List Value} {rows : List Row} {ok : Addr → Prop}
  (S : Inst s.heap y 161 [("world", .ref wo), ("bounds", .ref bd)]) (W : Inst s.heap wo 793 (wdF a1 a2 ds dt li a3 a4)) (hl : s.heap.IsList li xs.toArray) (hlen : xs.length = rows.length) (hr : ∀ i v, xs[i]? = some v → ∃ r, rows[i]? = some r ∧ ImplAt w s.heap v i r) (hsz : rows.length ≤ 30)
  (he : IsTup s.heap e0 [].toArray) (tt : TyAt ok s.heap vt t)
  (ret : ∀ (a : Addr) (ys : List Value) (k : Nat) (T : List (Addr × Obj)) (h' : Heap) (tk' : Nat), s.heap.StaysIn h' → Fr h₀ L h' m → (∀ q ∈ (a, PySem.W.listOf ys.toArray k) :: T, Fresh s.heap h' q.1 q.2) → ys.length = (rows.filter (isHit t)).length → (∀ v ∈ ys, CandEl T v) → Q (.ref a) { s with heap := h', toks := tk' }) :
  wpAny (model PR w) A (PySem.call (.ref (153 : Nat)) [.ref y, st "A" tkA, .ref e0, vt, .int 0 dkA]) Q E s := by
 refine @disc _ ?y ?e
 case e =>
 haveI h : @Eq (PLift _) (PLift.up (by
 k_fill
 revert C S W hl hlen hr hsz he tt ret
 revert y wo bd e0 li a1 a2 ds dt a3 a4 tkA dkA vt t xs rows ok
 k_extra "rv"
 refine no_implicit_lambda% (clZ (cPm cZ.P.Rs.L.T.V.N.N.N.N.N.N.N.N.N.N.N.N.N) ?_)
 k_extra "ld"
 refine fZ8 ?_
 intro zc0_0 y wo bd e0 li a1 a2 ds
 clear_value y wo bd e0 li a1 a2 ds
 refine fZ8 ?_
 intro zc0_1 dt a3 a4 tkA dkA vt t xs
 clear_value dt a3 a4 tkA dkA vt t xs
 refine gZ2 ?_
 intro zc0 rows ok
 clear_value rows ok
 intros C S W hl hlen hr hsz he tt ret
 k_extra "oC"
 k_extra "c0"
 k_steps
 rename News s.heap L' _ [(_, _)] => N1
 refine ⟨li, xs, _, [(_, _)], fun i m news => CandJ t rows y e0 vt tkA dkA i m news, rfl, hh, by assumption, N1, hl, ?j0, ?step, ?done⟩
 case j0 => exact ⟨_, [], _, [], rfl, List.forall_mem_nil _, rfl, List.forall_mem_nil _, by k_dflt (exact rfl), by k_dflt (exact rfl), by k_dflt (exact rfl), by k_dflt (exact rfl), by k_dflt (exact rfl), by k_dflt (exact rfl)⟩
 case step =>
  intro i v m₁ news₁ h tk1 I oI hv hJ F1 N1 ne1
  obtain ⟨r, ys, k, T0, rfl, hT, hn, hy, e1, e2, e3, e4, e5, e6⟩ := hJ
  obtain ⟨rw0, hrw, imp⟩ := hr i v hv
  obtain ⟨x, rg, pl, ta, md, vi, t1, t2, t3, t4, rfl, Ii, hpl, hta, hti, hmd, hpat⟩ := imp
  rw [known_map e1, known_map e2, known_map e3, known_map e4, known_map e5, known_map e6] at F1
  dsimp only at F1
  rename_i u2_0 u2_1
  revert hT hn hy e1 e2 e3 e4 e5 e6 N1 ne1 hrw Ii hpl hta hti hmd hpat hv F1
  revert tk i m₁ h tk1 I oI r ys k T0 rw0 x rg pl ta md vi t1 t2 t3 t4
  refine no_implicit_lambda% (clZ cZ.N.N.N.N.V.N.N.N.N.N.Rw.l.N.L.N.O.N.N.H.M.N.N ?_)
  refine fZ8 ?_
  intro zc2_0 tk i m₁ h tk1 I oI r
  clear_value tk i m₁ h tk1 I oI r
  refine fZ8 ?_
  intro zc2_1 ys k T0 rw0 x rg pl ta
  clear_value ys k T0 rw0 x rg pl ta
  refine gZ6 ?_
  intro zc2 md vi t1 t2 t3 t4
  clear_value md vi t1 t2 t3 t4
  intros hT hn hy e1 e2 e3 e4 e5 e6 N1 ne1 hrw Ii hpl hta hti hmd hpat hv F1
  have hys : ys.length ≤ 30 := by
   rw [hn]
   exact Nat.le_trans (List.length_filter_le _ _) (Nat.le_trans (by rw [List.length_take]; exact Nat.min_le_right _ _) hsz)
  have hrI : @Ne Nat r I := ne1 _ (.head _)
  cases htr : rw0.tr
  all_goals (simp only [tvOf, htr, if_true, Bool.false_eq_true, if_false] at Ii)
  ·k_steps
   refine ⟨_, (r, PySem.W.listOf ys.toArray k) :: T0, _, _, rfl, by assumption, by k_extra "b0", ne1, r, ys, k, T0, rfl, hT, ?_, hy, by k_dflt (exact rfl), by k_dflt (exact rfl), by k_dflt (exact rfl), by k_dflt (exact rfl), by k_dflt (exact rfl), by k_dflt (exact rfl)⟩
   rw [take_hit hrw, hn]; simp [isHit, htr]
  ·by_cases hut : rw0.told = t
   ·k_steps
    refine ⟨_, _ :: (_, _) :: T0, _, _, rfl, by assumption, cand_push (k := k) (ys := ys) ‹_› (by k_mem) (by k_mem) (by k_mem) (by k_extra "h3"), ?_, r, _, k + 1, _, rfl, ?_, ?_, ?_, by k_dflt (exact rfl), by k_dflt (exact rfl), by k_dflt (exact rfl), by k_dflt (exact rfl), by k_dflt (exact rfl), by k_dflt (exact rfl)⟩
    ·exact List.forall_mem_cons.mpr ⟨hrI, List.forall_mem_cons.mpr ⟨by k_ne, fun q hq => ne1 q (.tail _ hq)⟩⟩
    ·exact List.forall_mem_cons.mpr ⟨by k_ne, hT⟩
    ·rw [List.length_append, hn, take_hit hrw]; simp [isHit, htr, hut]
    ·intro v hv
     rcases List.mem_append.mp hv with hv | hv
     ·exact (hy v hv).up fun p hp => .tail _ hp
     ·rw [List.mem_singleton.mp hv]; exact ⟨_, _, _, _, _, rfl, .head _⟩
   ·k_steps
    refine ⟨_, (r, PySem.W.listOf ys.toArray k) :: T0, _, _, rfl, by assumption, by k_extra "b0", ne1, r, ys, k, T0, rfl, hT, ?_, hy, by k_dflt (exact rfl), by k_dflt (exact rfl), by k_dflt (exact rfl), by k_dflt (exact rfl), by k_dflt (exact rfl), by k_dflt (exact rfl)⟩
    rw [take_hit hrw, hn]; simp [isHit, htr, hut]
 case done =>
  intro m' news' h tk1 hJ F1 N1
  obtain ⟨r, ys, k, T0, rfl, hT, hn, hy, e1, e2, e3, e4, e5, e6⟩ := hJ
  have F2 := F1.known0 e6
  k_steps
  exact ret r ys k T0 _ _ (Fr.keep ‹_›) ‹_› (fun q hq => newsFrsh N1 hq) (by rw [hn, hlen, List.take_length]) hy)) ?y := by k_extra "cv"
 k_extra "zz"
theorem Heap.none_keep {g h : Heap} {b : Addr} (k : g.StaysIn h) (e : h.get? b = none) : g.get? b = none := by
 cases q : g.get? b with
 | none => rfl
 | some o => rw [k b o q] at e; cases e
section
variable {prog : Program} {w : World} {A : Around} {E : Value → Shared → Prop} {s : Shared} {h₀ : Heap} {L : Addr} {m : Str → Option Value} {env : Env}
inductive Comp3Src (A : Around) (h₀ : Heap) (L : Addr) (m : Str → Option Value) (Q : Value → Shared → Prop) (xv : Value) (s₁ : Shared) : Prop
 | mk : ∀ (ax : Addr) (its vs : List Value) (news : List (Addr × Obj)), (xv = .ref ax) → (A.handled = none) → (Fr h₀ L s₁.heap m) → (News h₀ L s₁.heap news) → (s₁.heap.IsList ax its.toArray) → (its.length ≤ sizeLine) → ((∀ (i : Nat) (v : Value), its[i]? = some v → ∃ (t : Addr) (v1 v2 v3 : Value), v = Value.ref t ∧ vs[i]? = some v1 ∧ IsTup s₁.heap t #[v1, v2, v3])) → (vs.length = its.length) → (∀ D h tk, Fr h₀ L h m → News h₀ L h ((D, LCg.lst vs) :: news) → (∀ p ∈ news, p.1 ≠ D) → Q (.ref D) { s₁ with heap := h, toks := tk }) → Comp3Src A h₀ L m Q xv s₁
theorem comp3 {x y z : Str} {px py pz pe tp : Pos} {tk} {iter : PySem.Expr} {scope : Scope} {cl : List (Str × Addr)} {pos : Pos} {Q : Value → Shared → Prop} (_F : Fr h₀ L s.heap m)
  (hclos : closureFor scope env = pure cl) (hcell : ∀ y ∈ scope.names, y.2 ≠ .cell) (hkind : scope.kind = .function)
  (hnames : ∀ y ∈ scope.names, y.2 = .local → scope.names.lookup y.1 = some .local) (hx : scope.names.lookup x = some .local) (hy : scope.names.lookup y = some .local) (hz : scope.names.lookup z = some .local) (hxy : x ≠ y) (hxz : x ≠ z)
  (hdb : (x == ("__debug__" : Str)) = false)
  (h : wpAny (model prog w) A (eval iter env) (Comp3Src A h₀ L m Q) E s)
  (hs : ∀ x, foldedSetIterable iter env x = pure x := by intro _; rfl) :
  wpAny (model prog w) A (eval (.ListComp (.Name x pe) [⟨.Tuple [.Name x px, .Name y py, .Name z pz] tk tp, iter, [], 0⟩] scope pos) env) Q E s := by
 refine @disc _ ?y ?e
 case e =>
 haveI h : @Eq (PLift _) (PLift.up (by
 revert _F hclos hcell hkind hnames hx hy hz hxy hxz hdb h hs
 revert prog w A E s h₀ L m env x y z px py pz pe tp tk iter scope cl pos Q
 refine no_implicit_lambda% (clZ cZ.Q.p.a.c.E.N.p.p.p.p.p.S.S.S.e.M.N.H.s.Q.A.W.R ?_)
 refine fZ8 ?_
 intro zc0_0 prog w A E s h₀ L m
 clear_value prog w A E s h₀ L m
 refine fZ8 ?_
 intro zc0_1 env x y z px py pz pe
 clear_value env x y z px py pz pe
 refine gZ7 ?_
 intro zc0 tp tk iter scope cl pos Q
 clear_value tp tk iter scope cl pos Q
 intros _F hclos hcell hkind hnames hx hy hz hxy hxz hdb h hs
 rw [eval_ListComp]
 k_extra "k1"
 obtain ⟨ax, its, vs, news, rfl, hh, F, N, hl, hsz, el, hvs, K⟩ := h₁
 refine wpAny_pyIter_list hl ?_
 have hlt : ax < s₁.heap.objs.size := by obtain ⟨_, e, _⟩ := hl; exact Heap.lt_size e
 refine wpAny_newObj_type (wpAny_newFunctionEnv hcell (by intro y hy; simp at hy) (fun h₁ hns₁ hsb₁ => ?_) hkind)
 dsimp only at hns₁ hsb₁ ⊢
 generalize hH1 : s₁.heap.push { cls := .type "list_iterator", data := .fields #[Value.ref ax, Value.int 0 0] } = H1 at hns₁ hsb₁ ⊢
 generalize hH2 : H1.push { cls := .type "list", dict := none, data := .seq ([] : List Value).toArray } = H2 at hns₁ hsb₁ ⊢
 have s1 : H1.objs.size = s₁.heap.objs.size + 1 := by rw [← hH1, Heap.size_push]
 have s2 : H2.objs.size = s₁.heap.objs.size + 2 := by rw [← hH2, Heap.size_push, s1]
 have up1 : s₁.heap.StaysIn H1 := fun b o e => hH1 ▸ Heap.get?_push_of_some _ e
 have up2 : H1.StaysIn H2 := fun b o e => hH2 ▸ Heap.get?_push_of_some _ e
 have gI : H1.get? s₁.heap.objs.size = some { cls := .type "list_iterator", data := .fields #[Value.ref ax, Value.int 0 0] } := hH1 ▸ Heap.get?_push_size _ rfl
 have gD : H2.get? H1.objs.size = some (LCg.lst []) := hH2 ▸ Heap.get?_push_size _ rfl
 have old : s₁.heap.StaysIn h₁ := fun b o e => hsb₁.extBut b o (by have := Heap.lt_size e; rw [s2]; exact Nat.ne_of_lt (Nat.lt_of_lt_of_le this (Nat.le_add_right _ 2))) (Heap.get?_push_of_some _ (up2 _ _ (up1 _ _ e)))
 have nDC : H1.objs.size ≠ H2.objs.size := by rw [s1, s2]; exact Nat.ne_of_lt (Nat.lt_succ_self _)
 have nIC : s₁.heap.objs.size ≠ H2.objs.size := by rw [s2]; exact Nat.ne_of_lt (Nat.lt_add_of_pos_right (by decide))
 have nID : s₁.heap.objs.size ≠ H1.objs.size := by rw [s1]; exact Nat.ne_of_lt (Nat.lt_succ_self _)
 have lo : ∀ b o, s₁.heap.get? b = some o → b ≠ s₁.heap.objs.size ∧ b ≠ H1.objs.size ∧ b ≠ H2.objs.size := fun b o e => by
  have := Heap.lt_size e
  rw [s1, s2]
  exact ⟨Nat.ne_of_lt this, Nat.ne_of_lt (Nat.lt_succ_of_lt this), Nat.ne_of_lt (Nat.lt_of_lt_of_le this (Nat.le_add_right _ 2))⟩
 have gI1 : h₁.get? s₁.heap.objs.size = some { cls := .type "list_iterator", data := .fields #[Value.ref ax, Value.int 0 0] } := hsb₁.extBut _ _ nIC (Heap.get?_push_of_some _ (up2 _ _ gI))
 have gD1 : h₁.get? H1.objs.size = some (LCg.lst []) := hsb₁.extBut _ _ nDC (Heap.get?_push_of_some _ gD)
 generalize hII : s₁.heap.objs.size = I at *
 generalize hDD : H1.objs.size = D at *
 generalize hCC : H2.objs.size = C at *
 have hD₀ : s₁.heap.get? D = none := Heap.get?_none_of_le (by rw [hII, s1]; exact Nat.le_succ _)
 have hC₀ : s₁.heap.get? C = none := Heap.get?_none_of_le (by rw [hII, s2]; exact Nat.le_add_right _ 2)
 revert F N hl hsz el hvs K hH1 hH2 up1 up2 old hII hlt gI gI1 hDD gD gD1 s1 nID hCC hns₁ hsb₁ s2 nIC nDC lo hD₀ hC₀
 revert s₁ ax its vs news h₁ H1 H2 I D C
 refine no_implicit_lambda% (clZ cZ.N.N.N.H.H.H.l.L.L.N.s ?_)
 refine fZ8 ?_
 intro zc1_0 s₁ ax its vs news h₁ H1 H2
 clear_value s₁ ax its vs news h₁ H1 H2
 refine gZ3 ?_
 intro zc1 I D C
 clear_value I D C
 intros F N hl hsz el hvs K hH1 hH2 up1 up2 old hII hlt gI gI1 hDD gD gD1 s1 nID hCC hns₁ hsb₁ s2 nIC nDC lo hD₀ hC₀
 have loop : ∀ s₃ : Shared, s₃ = { s₁ with heap := h₁, toks := s₁.toks + ([] : List (Str × Value)).length } →
   codeAny (model prog w) A (.compLoop (.ListComp (.Name x pe) [⟨.Tuple [.Name x px, .Name y py, .Name z pz] tk tp, iter, [], 0⟩] scope pos) 0 (.ref I) (.ref D) (compEnvC scope cl C env))
    (compPost (model prog w) A E none Q (.ref D) C) s₃ := by
  rintro s₃ rfl
  refine LCp.codeAny_compLoop_pair (fun k s' => ∃ h' tk i m', s' = { s₁ with heap := h', toks := tk } ∧ i ≤ its.length ∧ k = its.length + 1 - i ∧ s₁.heap.StaysIn h' ∧ h'.IsListIter I ax i ∧ h'.Ns C m' ∧ h'.get? D = some (LCg.lst (vs.take i))) ?_ (its.length + 1)
   ⟨h₁, _, 0, _, rfl, Nat.zero_le _, rfl, old, ⟨_, gI1, rfl, rfl⟩, hns₁, gD1⟩
  rintro k s' ⟨h', tk, i, m', rfl, hi, rfl, st, hit, hn, hD⟩
  rename_i u2_0
  revert hi st hit hn hD
  revert h' tk i m'
  refine no_implicit_lambda% (clZ cZ.M.N.N.H ?_)
  refine gZ4 ?_
  intro zc2 h' tk i m'
  clear_value h' tk i m'
  intros hi st hit hn hD
  have hl' : h'.IsList ax its.toArray := hl.at fun o e => st _ _ e
  cases hv : its[i]? with
  | none =>
   have hi' : i = its.length := Nat.le_antisymm hi (List.getElem?_eq_none_iff.mp hv)
   refine wpAny_pyNext_list_end hh hit hl' (by simpa using hv) fun h₂ he₂ => ?_
   refine ⟨m', hn.at' fun o e => he₂ _ _ (Ne.symm nIC) e, fun h₃ hs₃ => ?_⟩
   have st3 : s₁.heap.StaysIn h₃ := fun b o e => hs₃.extBut _ _ (lo b o e).2.2 (he₂ _ _ (lo b o e).1 (st _ _ e))
   have gD3 : h₃.get? D = some (LCg.lst vs) := by
    have := hs₃.extBut _ _ nDC (he₂ _ _ (Ne.symm nID) hD)
    rw [this, hi', ← hvs, List.take_length]
   have hFD : D ≠ L := fun e => by obtain ⟨o, q⟩ := frHas F; rw [← e, hD₀] at q; cases q
   refine K D h₃ _ (F.keeps st3) (fun q hq => ?_) fun q hq e => by have := (N q hq).1; rw [e, hD₀] at this; cases this
   k_extra "j0"
   ·exact ⟨gD3, hFD, Heap.none_keep F.keep hD₀⟩
   ·exact N.grown st3 q hq
  | some v =>
   obtain ⟨t, v1, v2, v3, rfl, hvi, ht⟩ := el i v hv
   revert hv hvi ht
   revert t v1 v2 v3
   refine no_implicit_lambda% (clZ cZ.V.V.V.N ?_)
   refine gZ4 ?_
   intro zc3 t v1 v2 v3
   clear_value t v1 v2 v3
   intros hv hvi ht
   have hlt' : i < its.length := (List.getElem?_eq_some_iff.mp hv).1
   refine wpAny_pyNext_list_item hit hl' (x := .ref t) (by simpa using hv) fun h₂ hit₂ hs₂ => ?_
   dsimp only
   refine wpAny_letOwnedTupleGo_listiter hit₂ ?_
   have k2 : ∀ b o, b ≠ I → h'.get? b = some o → h₂.get? b = some o := fun b o hb e => hs₂.extBut b o hb e
   have ht₂ : IsTup h₂ t #[v1, v2, v3] := by
    obtain ⟨o, e, r⟩ := ht
    exact ⟨o, k2 _ _ (lo _ _ e).1 (st _ _ e), r⟩
   refine assign_Tuple_tuple hh ht₂ rfl rfl fun h₅ he => ?_
   have he' : ∀ b o, h₂.get? b = some o → h₅.get? b = some o := fun b o e => he b o (Nat.ne_of_lt (Heap.lt_size e)) e
   refine assignInOrder_cons (wpAny_assign_Name (wpAny_storeName_local (lookup_relabel_local hx) ((hn.at' fun o e => k2 _ o (Ne.symm nIC) e).at' fun o e => he' _ o e) (fun h₆ hn₆ hs₆ => ?_) (by simp [compEnvC, relabel, hkind])))
   refine assignInOrder_cons (wpAny_assign_Name (wpAny_storeName_local (lookup_relabel_local hy) hn₆ (fun h₇ hn₇ hs₇ => ?_) (by simp [compEnvC, relabel, hkind])))
   refine assignInOrder_cons (wpAny_assign_Name (wpAny_storeName_local (lookup_relabel_local hz) hn₇ (fun h₈ hn₈ hs₈ => ?_) (by simp [compEnvC, relabel, hkind])))
   refine assignInOrder_nil ?_
   have old8 : ∀ b o, b ≠ C → h₂.get? b = some o → h₈.get? b = some o := fun b o hb e => hs₈.extBut b o hb (hs₇.extBut b o hb (hs₆.extBut b o hb (he' b o e)))
   refine ldVarK (v := v1) hn₈ (by simp [hxy, hxz]) ?_ (by simp [compEnvC, relabel, hkind]) (lookup_relabel_local hx) hdb
   have gD8 : h₈.get? D = some (LCg.lst (vs.take i)) := old8 _ _ nDC (k2 _ _ (Ne.symm nID) hD)
   refine append_at (hsz := by show (vs.take i).toArray.size ≤ sizeLine; rw [List.size_toArray, List.length_take]; exact Nat.le_trans (Nat.min_le_left _ _) (Nat.le_trans hi hsz)) gD8 fun h₉ hs₉ hD₉ => ?_
   refine ⟨its.length + 1 - (i + 1), Nat.sub_succ_lt_self _ _ (Nat.lt_succ_of_lt hlt'), h₉, _, i + 1, _, rfl, hlt', rfl, fun b o e => ?_, ?_, hn₈.sameBut hs₉ (Ne.symm nDC), ?_⟩
   ·exact hs₉.extBut _ _ (lo b o e).2.1 (old8 _ _ (lo b o e).2.2 (k2 _ _ (lo b o e).1 (st _ _ e)))
   ·obtain ⟨oi, ei, r⟩ := hit₂
    exact ⟨oi, hs₉.extBut _ _ nID (old8 _ _ nIC ei), r⟩
   ·rw [hD₉, List.take_add_one, hvi]
    have := LCg.lst_snoc (vs.take i) v1
    exact congrArg some this
 exact codeAny_compStart_list (loop _ rfl) (wpAny_pyIter_listiter ⟨_, gI1, rfl, rfl⟩ (loop _ rfl)))) ?y := by k_extra "cv"
 k_extra "zz"
end
section
variable {prog : Program} {w : World} {A : Around} {E : Value → Shared → Prop} {s : Shared} {l b : Addr} {Q : Value → Shared → Prop}
theorem eq_nil1 {r : Array Value} (hl : s.heap.IsList l r) (hs : r.size ≠ 0) (hb : s.heap.IsList b [].toArray) (hu : A.units < cLine) (h : Q (.bool false) s) : wpAny (model prog w) A (compareOp .Eq (.ref l) (.ref b)) Q E s :=
 PySem.SeqAt.RcAt.lists_lengths hl hb (by simpa using hs) hu prog w E Q h
theorem eq_nil0 (hl : s.heap.IsList l [].toArray) (hb : s.heap.IsList b [].toArray) (hu : A.units + 64 < cLine) (h : Q (.bool true) s) : wpAny (model prog w) A (compareOp .Eq (.ref l) (.ref b)) Q E s := by
 obtain ⟨o, ho, hc, n, hd⟩ := hl
 obtain ⟨o2, ho2, hc2, n2, hd2⟩ := hb
 refine eq_dataH (da := .list []) (db := .list []) (reads_list_at ho hc hd .nil) (reads_list_at ho2 hc2 hd2 .nil) (by decide +kernel) (by decide +kernel) hu ?_
 rw [show PyData.eqv (.list []) (.list []) = true from by rw [PyData.eqv, PyData.eqvAll]]
 exact h
end
theorem cand_vs {T : List (Addr × Obj)} : ∀ {ys : List Value}, (∀ v ∈ ys, CandEl T v) → ∃ vs : List Value, vs.length = ys.length ∧ StrsAre vs (List.replicate ys.length (PySem.Str.ofString "yes")) ∧
  ∀ (i : Nat) (v : Value), ys[i]? = some v → ∃ (a : Addr) (v1 v2 v3 : Value), v = Value.ref a ∧ vs[i]? = some v1 ∧ (a, ({ cls := .type "tuple", data := .seq #[v1, v2, v3] } : Obj)) ∈ T
 | [], _ => ⟨[], rfl, .nil, fun i v h => by simp at h⟩
 | y :: r, h => by
  obtain ⟨vs, h1, h2, h3⟩ := cand_vs fun v hv => h v (.tail _ hv)
  obtain ⟨a, fd, tk, tk2, i, rfl, hm⟩ := h y (.head _)
  refine ⟨st "yes" tk :: vs, by simp [h1], .cons _ _ h2, fun j v hj => ?_⟩
  cases j with
  | zero => simp at hj; subst hj; exact ⟨a, _, _, _, rfl, rfl, hm⟩
  | succ j => exact h3 j v (by simpa using hj)
theorem newsAll {g h h' : Heap} {L : Addr} {m : Str → Option Value} {l : List (Addr × Obj)} (F : Fr g L h m) (x : ∀ q ∈ l, Fresh h h' q.1 q.2) : News g L h' l := by
 induction l with
 | nil => exact News.nil
 | cons q r ih => exact news_fresh F (ih fun p hp => x p (.tail _ hp)) (x q (.head _))
theorem filter_any {α : Type} (f : α → Bool) (l : List α) : l.any f = decide ((l.filter f).length ≠ 0) := by
 induction l with
 | nil => rfl
 | cons a r ih => cases h : f a <;> simp [h, ih]
example : True := by
 k_with "call ref cons" =>
  (
   (with_reducible show wpAny _ _ (PySem.call (Value.ref 141) _) _ _ _)
   refine' bound_of_w (by k_extra "a0") (TyAt.fr ‹_› ‹_›) ‹_› ?_
   k_extra "i0"
   have N9 := News.grown ‹_› st9)
 k_with "call ref cons" =>
  (
   (with_reducible show wpAny _ _ (PySem.call (Value.ref 101) _) _ _ _)
   refine' last_name_w (by k_extra "a0") ?_
   k_extra "q0"
   have N9 := News.grown ‹_› st9)
 k_with "call ref cons" =>
  (
   (with_reducible show wpAny _ _ (PySem.call (Value.ref 153) _) _ _ _)
   refine' candidates_w (by k_extra "a0") ?hS ?hW ?hl ?hn ?hr ‹_› ?he ?ht ?_
   case hS => exact inst_fr ‹_› ‹_›
   case hW => exact inst_fr ‹_› ‹_›
   case hl => exact isList_fr ‹_› ‹_›
   case hn => assumption
   case hr => exact rowsKeep ‹_› ‹_›
   case he => exact isTup_fr ‹_› ‹_›
   case ht => exact TyAt.fr ‹_› ‹_›
   refine clZ cZ.N.H.l.N.L.N ?_; refine gZ6 ?_; intro zc a9 ys9 n9 T9 h9 k9; clear_value a9 ys9 n9 T9 h9 k9; clear zc; intro st9 F9 x9 hn9 hy9
   have N9 := newsAll ‹_› x9
   rcases ys9 with _ | ⟨v9, r9⟩
   all_goals try (revert v9 r9; refine clZ cZ.L.V ?_; refine gZ2 ?_; intro zc v9 r9; clear_value v9 r9; clear zc; intro x9 hn9 hy9 N9))
 trivial
theorem rowsKeep {w : World} {g h : Heap} {L : Addr} {m : Str → Option Value} {xs : List Value} {rows : List Row} (hr : ∀ i v, xs[i]? = some v → ∃ r, rows[i]? = some r ∧ ImplAt w g v i r) (F : Fr g L h m) :
  ∀ i v, xs[i]? = some v → ∃ r, rows[i]? = some r ∧ ImplAt w h v i r := fun i v e => let ⟨r, a, b⟩ := hr i v e; ⟨r, a, b.keeps F.keep⟩
example : True := by
 k_with "eval ListComp" =>
  (k_here; k_dflt (refine comp3 ‹_› (by with_unfolding_all rfl) (by decide) (by rfl) (by decide) (by rfl) (by rfl) (by rfl) (by decide) (by decide) (by decide) ?_))
 k_with "compareOp Eq ref ref" =>
  (k_here; k_dflt (first
   | refine eq_nil0 (News.isList ‹_› (by k_mem)) (News.isList ‹_› (by k_mem)) (by k_extra "g0") ?_
   | refine eq_nil1 (r := (_ :: _).toArray) (News.isList ‹_› (by k_mem)) (by simp) (News.isList ‹_› (by k_mem)) (by k_extra "g0") ?_))
 k_with "b3" =>
  (repeat (first | assumption | refine List.Mem.tail _ ?_))
 k_with "compareOp In str ref" =>
  (k_here; k_dflt (refine in_list_strs (News.isList ‹_› (by k_mem)) s9 ?_); (try rw [any9]))
 trivial
theorem asked_w (C : Cx w p loose mean mg mb A A₀ base h₀ outer env L m s.heap 50 400) {y wo bd e0 li a1 a2 ds dt a3 a4 : Addr} {tkA dkA : Tok} {vt : Value} {t : Ty} {xs : List Value} {rows : List Row} {ok : Addr → Prop}
  (S : Inst s.heap y 161 [("world", .ref wo), ("bounds", .ref bd)]) (W : Inst s.heap wo 793 (wdF a1 a2 ds dt li a3 a4)) (hl : s.heap.IsList li xs.toArray) (hlen : xs.length = rows.length) (hr : ∀ i v, xs[i]? = some v → ∃ r, rows[i]? = some r ∧ ImplAt w s.heap v i r) (hsz : rows.length ≤ 30)
  (he : IsTup s.heap e0 [].toArray) (tt : TyAt ok s.heap vt t) (htp : t ≠ .param)
  (ret : ∀ tk h' tk', s.heap.StaysIn h' → Fr h₀ L h' m → Q (st (if rows.any (isHit t) then "yes" else "no") tk) { s with heap := h', toks := tk' }) :
  wpAny (model PR w) A (PySem.call (.ref (158 : Nat)) [.ref y, st "A" tkA, .ref e0, vt, .int 0 dkA]) Q E s := by
 refine @disc _ ?y ?e
 case e =>
 haveI h : @Eq (PLift _) (PLift.up (by
 k_fill
 obtain ⟨b1, tk1, rest1, rfl, hT1⟩ := tt.head
 revert C S W hl hlen hr hsz he htp ret hT1 tt
 revert y wo bd e0 li a1 a2 ds dt a3 a4 tkA dkA t xs rows ok b1 tk1 rest1
 k_extra "rv"
 refine no_implicit_lambda% (clZ (cPm cZ.L.N.N.P.Rs.L.T.N.N.N.N.N.N.N.N.N.N.N.N.N) ?_)
 k_extra "ld"
 refine fZ8 ?_
 intro zc0_0 y wo bd e0 li a1 a2 ds
 clear_value y wo bd e0 li a1 a2 ds
 refine fZ8 ?_
 intro zc0_1 dt a3 a4 tkA dkA t xs rows
 clear_value dt a3 a4 tkA dkA t xs rows
 refine gZ4 ?_
 intro zc0 ok b1 tk1 rest1
 clear_value ok b1 tk1 rest1
 intros C S W hl hlen hr hsz he htp ret hT1 tt
 k_extra "oC"
 have hv1 := t.notVar
 rw [filter_any] at ret
 have hv2 : ¬ (PySem.Str.ofString t.head == PySem.Str.ofString "var") = true := by cases t <;> (simp only [Ty.head]; decide)
 k_extra "e0"
 k_steps
 ·have e9 := hn9.symm
  simp only [List.length_nil] at e9
  rw [if_neg (by simp [e9])] at ret
  exact ret _ _ _ (Fr.keep ‹_›) ‹_›
 ·rw [if_pos (by simp [← hn9])] at ret
  obtain ⟨vs9, l9, s9, c9⟩ := cand_vs hy9
  rename News s.heap L' _ ((_, _) :: _ :: _) => N8
  rename_i u2_0 u2_1 u2_2 u2_3 u2_4 u2_5 u2_6 u2_7 u2_8 u2_9 u2_10
  revert u2_1 u2_2 u2_3 u2_6 u2_9 st9 x9 hn9 hy9 zF' N8 zl1 l9 s9 c9
  revert L' u2_0 tk' o' o2' o3' u2_4 u2_5 tk9 u2_7 u2_8 u2_10 a9 n9 T9 h9 k9 v9 r9 h' tk zl' zh' vs9
  refine no_implicit_lambda% (clZ cZ.L.H.N.N.H.L.V.N.H.l.N.N.H.N.H.N.N.H.O.O.O.N.H.N ?_)
  refine fZ8 ?_
  intro zc2_0 L' u2_0 tk' o' o2' o3' u2_4 u2_5
  clear_value L' u2_0 tk' o' o2' o3' u2_4 u2_5
  refine fZ8 ?_
  intro zc2_1 tk9 u2_7 u2_8 u2_10 a9 n9 T9 h9
  clear_value tk9 u2_7 u2_8 u2_10 a9 n9 T9 h9
  refine gZ8 ?_
  intro zc2 k9 v9 r9 h' tk zl' zh' vs9
  clear_value k9 v9 r9 h' tk zl' zh' vs9
  intros u2_1 u2_2 u2_3 u2_6 u2_9 st9 x9 hn9 hy9 zF' N8 zl1 l9 s9 c9
  refine ⟨_, _, vs9, _, rfl, by assumption, by assumption, N8, News.isList N8 (by k_mem), ?_, ?_, l9, ?_⟩
  ·rw [sizeLine_eq]
   have := List.length_filter_le (isHit t) rows
   omega
  ·intro i v hv
   obtain ⟨a, v1, v2, v3, e1, e2, e3⟩ := c9 i v hv
   exact ⟨a, v1, v2, v3, e1, e2, News.isTup N8 (by k_extra "b3")⟩
  ·intro D9 h8 tk8 F8 N7 off9
   revert F8 N7 off9
   revert D9 h8 tk8
   refine no_implicit_lambda% (clZ cZ.N.H.N ?_)
   refine gZ3 ?_
   intro zc3 D9 h8 tk8
   clear_value D9 h8 tk8
   intros F8 N7 off9
   have any9 : ((List.replicate (v9 :: r9).length (PySem.Str.ofString "yes")).any (· == PySem.Str.ofString "yes")) = true := by rw [List.length_cons, List.replicate_succ, List.any_cons, beq_self_eq_true, Bool.true_or]
   k_steps
   exact ret _ _ _ (Fr.keep ‹_›) ‹_›)) ?y := by k_extra "cv"
 k_extra "zz"
noncomputable def isOwn (t : Ty) (r : Row) : Bool := !r.tr && decide (selfTy r.kind r.told = t)
noncomputable def ownHits (t : Ty) (rows : List Row) : List (Row × Nat) := rows.zipIdx.filter fun p => isOwn t p.1
inductive InhEl (T : List (Addr × Obj)) (v : Value) (p : Row × Nat) : Prop
 | mk : ∀ (a fd : Addr) (t1 t2 t3 : Tok), (v = .ref a) → ((a, ({ cls := .type "tuple", data := .seq #[st "impl" t1, .int (p.2 : Int) t2, .str p.1.path t3, .ref fd] } : Obj)) ∈ T) → InhEl T v p
theorem InhEl.up {T T' : List (Addr × Obj)} {v : Value} {p : Row × Nat} (s : ∀ p ∈ T, p ∈ T') (x : InhEl T v p) : InhEl T' v p := let ⟨a, fd, t1, t2, t3, e, h⟩ := x; ⟨a, fd, t1, t2, t3, e, s _ h⟩
theorem own_take {rows : List Row} {t : Ty} {i : Nat} {r : Row} (h : rows[i]? = some r) : ownHits t (rows.take (i + 1)) = ownHits t (rows.take i) ++ if isOwn t r then [(r, i)] else [] := by
 have hi : i < rows.length := (List.getElem?_eq_some_iff.mp h).1
 unfold ownHits
 rw [List.take_add_one, h, List.zipIdx_append, List.filter_append]
 congr 1
 simp only [Option.toList, List.zipIdx_cons, List.zipIdx_nil, Nat.zero_add, List.length_take, Nat.min_eq_left (Nat.le_of_lt hi)]
 cases q : isOwn t r <;> simp [q]
inductive InhJ (t : Ty) (rows : List Row) (y : Addr) (vt : Value) (i : Nat) (m : Str → Option Value) (news : List (Addr × Obj)) : Prop
 | mk : ∀ (r : Addr) (ys : List Value) (k : Nat) (T : List (Addr × Obj)), (news = (r, PySem.W.listOf ys.toArray k) :: T) → ((∀ p ∈ T, p.1 ≠ r)) → (All2 (InhEl T) ys (ownHits t (rows.take i))) → (m "self" = some (.ref y)) → (m "receiver" = some vt) → (m "rows" = some (.ref r)) → InhJ t rows y vt i m news
def SigsAt (w : World) (h : Heap) (kvs : List (PySem.Str × Value)) (rows : List Row) : Prop := ∀ (i : Nat) (r : Row), rows[i]? = some r → ∃ sv, valueAt kvs r.path = some sv ∧ SigAt w h sv r
local macro_rules | `(tactic| k_all) => `(tactic| with_reducible assumption)
example : True := by
 k_with "call builtin:list.append" =>
  (k_here; k_dflt (refine' append_K ?k1 ?k2 ?k3 ?_ ?z; (case k1 => k_asm); (case k2 => k_asm); (case k3 => k_upd); (case z => first | exact Nat.le_of_ble_eq_true rfl | (rw [List.size_toArray, sizeLine_eq]; omega)); k_whole); refine clZ cZ.H ?_; refine gZ1 ?_; intro zc h'; clear_value h'; clear zc; intro F' N')
 k_with "h3" =>
  (intro p hp; repeat (first | exact hp | refine List.Mem.tail _ ?_))
 k_with "exec For Name Attribute cons nil" =>
  (k_here; k_dflt (refine for_list ‹_› (by rfl) (by rfl) ?_))
 k_with "compareOp In str ref" =>
  (k_here; k_dflt (refine dget_in ‹_› ‹_› true (by rfl) ?_))
 k_with "subscriptTail Name Attribute ref str" =>
  (k_here; k_dflt (refine dget_item ‹_› ‹_› (by rfl) ?_))
 k_with "subscriptTail Name Name ref str" =>
  (k_here; k_dflt (refine dget_item ‹_› ‹_› ‹_› ?_))
 k_with "call ref cons" =>
  (
   (with_reducible show wpAny _ _ (PySem.call (Value.ref 179) _) _ _ _)
   refine' self_of_w (by k_extra "a0") ‹_› ?_ ?_
   all_goals first
    | ((with_reducible show ∀ (_ : Addr) (_ : Ty), _); refine clZ cZ.N.H.T.N ?_; refine gZ4 ?_; intro zc ax9 u9 h9 k9; clear_value ax9 u9 h9 k9; clear zc; intro st9 F9 hs9 ty9; have N9 := News.grown ‹_› st9)
    | (refine clZ cZ.N.H ?_; refine gZ2 ?_; intro zc h9 k9; clear_value h9 k9; clear zc; intro st9 F9 hs9; have N9 := News.grown ‹_› st9))
 k_with "call ref cons" =>
  (
   (with_reducible show wpAny _ _ (PySem.call (Value.ref 207) _) _ _ _)
   refine' needs_met_w (by k_extra "a0") ?hj ?hs ?hi ?hl ?_
   case hj => exact inst_fr ‹_› ‹_›
   case hs => exact inst_fr ‹_› ‹_›
   case hi => exact inst_fr ‹_› ‹_›
   case hl => exact isList_fr ‹_› ‹_›
   k_extra "i0"
   have N9 := News.grown ‹_› st9)
 k_with "call ref cons" =>
  (
   (with_reducible show wpAny _ _ (PySem.call (Value.ref 113) _) _ _ _)
   refine' matches_impl_w (by k_extra "a0") ?hi ?hl ?he ?hu ?tu ?tt ?_
   case hi => exact inst_fr ‹_› ‹_›
   case hl => exact isList_fr ‹_› ‹_›
   case he => k_extra "a1"
   case hu => assumption
   case tu => exact TyAt.fr ‹_› ‹_›
   case tt => exact TyAt.fr ‹_› ‹_›
   k_extra "z1"
   have q9 : Far _ _ := freshApart ‹_› x9
   have q8 : Far _ _ := freshApart ‹_› y9
   have N9 := news_fresh ‹_› (news_fresh ‹_› (News.grown ‹_› st9) y9) x9
   by_cases hut : rw0.told = u9
   all_goals first | rw [if_pos hut] at x9 N9 | rw [if_neg hut] at x9 N9)
 trivial
theorem inherent_w (C : Cx w p loose mean mg mb A A₀ base h₀ outer env L m s.heap 40 300) {y sel wo bd li a1 a2 ds dt a3 a4 : Addr} {tn : Tok} {vt : Value} {t : Ty} {xs : List Value} {rows : List Row} {kvs : List (PySem.Str × Value)} {ok : Addr → Prop}
  (J : Inst s.heap y 224 [("world", .ref wo), ("name", st "go" tn), ("selection", .ref sel)]) (S : Inst s.heap sel 161 [("world", .ref wo), ("bounds", .ref bd)]) (W : Inst s.heap wo 793 (wdF a1 a2 ds dt li a3 a4)) (hl : s.heap.IsList li xs.toArray) (hlen : xs.length = rows.length) (hr : ∀ i v, xs[i]? = some v → ∃ r, rows[i]? = some r ∧ ImplAt w s.heap v i r)
  (hds : DictAt w s.heap ds kvs) (hsg : SigsAt w s.heap kvs rows) (hsz : rows.length ≤ 30) (tt : TyAt ok s.heap vt t)
  (ret : ∀ (a : Addr) (ys : List Value) (k : Nat) (T : List (Addr × Obj)) (h' : Heap) (tk' : Nat), s.heap.StaysIn h' → Fr h₀ L h' m → (∀ q ∈ (a, PySem.W.listOf ys.toArray k) :: T, Fresh s.heap h' q.1 q.2) → All2 (InhEl T) ys (ownHits t rows) → Q (.ref a) { s with heap := h', toks := tk' }) :
  wpAny (model PR w) A (PySem.call (.ref (200 : Nat)) [.ref y, vt]) Q E s := by
 refine @disc _ ?y ?e
 case e =>
 haveI h : @Eq (PLift _) (PLift.up (by
 k_fill
 revert C J S W hl hlen hr hds hsg hsz tt ret
 revert y sel wo bd li a1 a2 ds dt a3 a4 tn vt t xs rows kvs ok
 k_extra "rv"
 refine no_implicit_lambda% (clZ (cPm cZ.P.k.Rs.L.T.V.N.N.N.N.N.N.N.N.N.N.N.N) ?_)
 k_extra "ld"
 refine fZ8 ?_
 intro zc0_0 y sel wo bd li a1 a2 ds
 clear_value y sel wo bd li a1 a2 ds
 refine fZ8 ?_
 intro zc0_1 dt a3 a4 tn vt t xs rows
 clear_value dt a3 a4 tn vt t xs rows
 refine gZ2 ?_
 intro zc0 kvs ok
 clear_value kvs ok
 intros C J S W hl hlen hr hds hsg hsz tt ret
 k_extra "oC"
 k_extra "c0"
 k_steps
 rename News s.heap L' _ [(_, _)] => N1
 refine ⟨li, xs, _, [(_, _)], fun i m news => InhJ t rows y vt i m news, rfl, hh, by assumption, N1, hl, ?j0, ?step, ?done⟩
 case j0 => exact ⟨_, [], _, [], rfl, List.forall_mem_nil _, .nil, by k_dflt (exact rfl), by k_dflt (exact rfl), by k_dflt (exact rfl)⟩
 case step =>
  intro i v m₁ news₁ h tk1 I oI hv hJ F1 N1 ne1
  obtain ⟨r, ys, k, T0, rfl, hT, hy, e1, e2, e3⟩ := hJ
  obtain ⟨rw0, hrw, imp⟩ := hr i v hv
  obtain ⟨x, rg, pl, ta, md, vi, t1, t2, t3, t4, rfl, Ii, hpl, hta, hti, hmd, hpat⟩ := imp
  obtain ⟨sv, hsv, sx, pt, rg2, pl2, ow, ins, vo, kt, s0, a0, rfl, Isg, hpl2, hins, ts0, ta0, tvo⟩ := hsg i rw0 hrw
  rw [known_map e1, known_map e2, known_map e3] at F1
  dsimp only at F1
  rename_i u2_0 u2_1
  revert hT hy e1 e2 e3 N1 ne1 hrw Ii hpl hta hti hmd hpat hv F1 Isg hpl2 hins ts0 ta0 tvo hsv
  revert tk i m₁ h tk1 I oI r ys k T0 rw0 x rg pl ta md vi t1 t2 t3 t4 sx pt rg2 pl2 ow ins vo kt s0 a0
  refine no_implicit_lambda% (clZ cZ.V.V.N.V.N.N.N.N.N.N.N.N.N.N.V.N.N.N.N.N.Rw.l.N.L.N.O.N.N.H.M.N.N ?_)
  refine fZ8 ?_
  intro zc2_0 tk i m₁ h tk1 I oI r
  clear_value tk i m₁ h tk1 I oI r
  refine fZ8 ?_
  intro zc2_1 ys k T0 rw0 x rg pl ta
  clear_value ys k T0 rw0 x rg pl ta
  refine fZ8 ?_
  intro zc2_2 md vi t1 t2 t3 t4 sx pt
  clear_value md vi t1 t2 t3 t4 sx pt
  refine gZ8 ?_
  intro zc2 rg2 pl2 ow ins vo kt s0 a0
  clear_value rg2 pl2 ow ins vo kt s0 a0
  intros hT hy e1 e2 e3 N1 ne1 hrw Ii hpl hta hti hmd hpat hv F1 Isg hpl2 hins ts0 ta0 tvo hsv
  have hys : ys.length ≤ 30 := by
   rw [hy.len]
   exact Nat.le_trans (List.length_filter_le _ _) (Nat.le_trans (by rw [List.length_zipIdx, List.length_take]; exact Nat.min_le_right _ _) hsz)
  have hrI : @Ne Nat r I := ne1 _ (.head _)
  cases htr : rw0.tr
  all_goals (simp only [tvOf, htr, if_true, Bool.false_eq_true, if_false] at Ii)
  ·k_steps
   ·refine ⟨_, (r, PySem.W.listOf ys.toArray k) :: T0, _, _, rfl, by assumption, by k_extra "b0", ne1, r, ys, k, T0, rfl, hT, ?_, by k_dflt (exact rfl), by k_dflt (exact rfl), by k_dflt (exact rfl)⟩
    rw [own_take hrw, if_neg (by simp [isOwn, htr, ← selfOf_iff, hs9]), List.append_nil]; exact hy
   ·refine ⟨_, _ :: (_, _) :: T0, _, _, rfl, by assumption, cand_push (k := k) (ys := ys) ‹_› (by k_mem) (by k_mem) (by k_mem) (by k_extra "h3"), ?_, r, _, k + 1, _, rfl, ?_, ?_, by k_dflt (exact rfl), by k_dflt (exact rfl), by k_dflt (exact rfl)⟩
    ·exact List.forall_mem_cons.mpr ⟨hrI, List.forall_mem_cons.mpr ⟨by k_ne, fun q hq => ne1 q (.tail _ hq)⟩⟩
    ·exact List.forall_mem_cons.mpr ⟨by k_ne, hT⟩
    ·rw [own_take hrw, if_pos (by simp [isOwn, htr, ← selfOf_iff, hs9, hut])]
     exact (hy.imp fun a b x => x.up fun p hp => .tail _ hp).snoc ⟨_, _, _, _, _, rfl, .head _⟩
   ·refine ⟨_, (r, PySem.W.listOf ys.toArray k) :: T0, _, _, rfl, by assumption, by k_extra "b0", ne1, r, ys, k, T0, rfl, hT, ?_, by k_dflt (exact rfl), by k_dflt (exact rfl), by k_dflt (exact rfl)⟩
    rw [own_take hrw, if_neg (by simp [isOwn, htr, ← selfOf_iff, hs9]; exact fun e => hut e.symm), List.append_nil]; exact hy
  ·k_steps
   refine ⟨_, (r, PySem.W.listOf ys.toArray k) :: T0, _, _, rfl, by assumption, by k_extra "b0", ne1, r, ys, k, T0, rfl, hT, ?_, by k_dflt (exact rfl), by k_dflt (exact rfl), by k_dflt (exact rfl)⟩
   rw [own_take hrw, if_neg (by simp [isOwn, htr]), List.append_nil]; exact hy
 case done =>
  intro m' news' h tk1 hJ F1 N1
  obtain ⟨r, ys, k, T0, rfl, hT, hy, e1, e2, e3⟩ := hJ
  have F2 := F1.known0 e3
  rename_i u3_0 u3_1
  revert F1 hT hy e1 e2 e3 N1 F2
  revert tk m' h tk1 r ys k T0
  refine no_implicit_lambda% (clZ cZ.l.N.L.N.N.H.M.N ?_)
  refine gZ8 ?_
  intro zc3 tk m' h tk1 r ys k T0
  clear_value tk m' h tk1 r ys k T0
  intros F1 hT hy e1 e2 e3 N1 F2
  k_steps
  exact ret r ys k T0 _ _ (Fr.keep ‹_›) ‹_› (fun q hq => newsFrsh N1 hq) (by rw [hlen, List.take_length] at hy; exact hy))) ?y := by k_extra "cv"
 k_extra "zz"
theorem perm_one {α : Type} {a b : List α} (h : b.length ≤ 1) (p : a.Perm b) : a = b := by
 cases b with
 | nil => exact p.eq_nil
 | cons x r => cases List.eq_nil_of_length_eq_zero (Nat.le_zero.mp (Nat.le_of_succ_le_succ h)); exact List.perm_singleton.mp p
theorem strs_of {w : World} : ∀ {kvs : List (PySem.Str × Value)} {vs : List Value}, vs.length = kvs.length → (∀ (j : Nat) (v : Value), vs[j]? = some v → ∃ k x, kvs[j]? = some (k, x) ∧ (KD w).is k v = true) → StrsAre vs (kvs.map (·.1)) := by
 intro kvs
 induction kvs with
 | nil =>
  intro vs hl _
  rw [List.eq_nil_of_length_eq_zero hl]; exact .nil
 | cons p r ih =>
  intro vs
  cases vs with
  | nil => exact fun hl => nomatch hl
  | cons v t =>
   intro hl hv
   obtain ⟨k', x', e1, e2⟩ := hv 0 v rfl
   cases e1
   obtain ⟨t', rfl⟩ := Value.isStrOf_shape e2
   exact .cons _ _ (ih (Nat.succ.inj hl) fun j v e => hv (j+1) v e)
section
variable {w : World} {A : Around} {E : Value → Shared → Prop} {s : Shared} {g : Heap} {L d : Addr} {m : Str → Option Value} {kvs : List (PySem.Str × Value)} {news : List (Addr × Obj)}
theorem sorted_dict {Q : Value → Shared → Prop} (hh : A.handled = none) (F : Fr g L s.heap m) (N : News g L s.heap news) (D : DictAt w g d kvs) (hlen : kvs.length ≤ 1)
  (h : ∀ B vs c h' tk, Fr g L h' m → News g L h' ((B, PySem.W.listOf (List.toArray vs) c) :: news) → (∀ q ∈ news, @Ne Nat q.1 B) → StrsAre vs (kvs.map (·.1)) → Q (.ref B) { s with heap := h', toks := tk }) :
  wpAny (model PR w) A (call (.builtin "sorted") [.ref d]) Q E s := by
 obtain ⟨ep, hat⟩ := ((D.keeps F.keep).out).dictAt
 have K := kdl_dict (prog := PR) (w := w) (knd := KD w) (kvs := kvs) (ep := ep) (d := d) D.low
 have hsz : kvs.length ≤ sizeLine := by rw [sizeLine_eq]; omega
 refine kdu_sorted K hh F N hat hsz fun B h' tk vs F' N' l1 hl hv => ?_
 have hS := strs_of hl hv
 have z := N' (B, PySem.W.listOf vs.toArray 0) (.head _)
 have h64 : vs.length < 64 := by rw [hl]; exact Nat.lt_of_le_of_lt hlen (Nat.le_of_ble_eq_true rfl)
 refine wpAny_call_entry PyProof.Rows.slot_list_sort ⟨_, z.1, rfl⟩ PyProof.Rows.entry_list_sort (list_sort_treeK strKind_oneLt (n := 0) (vs := vs) z.1 hS.keysOf (fun v₁ v₂ rest e => by rw [e] at hl; simp at hl; omega) h64 fun st' hp hs => ⟨_, rfl, ?_⟩) (PyProof.Rows.args_list_sort _)
 obtain ⟨ss', h1, h2, h3⟩ := sorted_out_str hS hp hs
 have e : ss' = kvs.map (·.1) := perm_one (by simpa using hlen) h2
 subst e
 obtain ⟨c, hc⟩ := sortedHeap_at (vs := vs) (out := (arrOf st').map (·.2)) z.1
 have F4 : Fr g L (sortedHeap h' B vs ((arrOf st').map (·.2))) m :=
  ksk_fr (((ksk_fr F' (Heap.SameBut.update h' B (Obj.mapSeq fun _ => #[])) z.2.1 z.2.2).push (seqObj "tuple" vs.toArray 0)).push (seqObj "list" #[] 0)) (Heap.SameBut.update _ B (Obj.mapSeq fun _ => ((arrOf st').map (·.2)))) z.2.1 z.2.2
 refine h B ((arrOf st').map (·.2)).toList c _ _ F4 (fun p hq => ?_) (fun q hq => Nat.ne_of_lt (l1 q hq)) h1
 k_extra "j0"
 ·exact ⟨hc, z.2⟩
 ·have y := N' p (.tail _ hq)
  exact ⟨(sortedHeap_old (Nat.ne_of_lt (l1 p hq)) (Heap.lt_size y.1)).trans y.1, y.2⟩
end
section
variable {prog : Program} {w : World} {A : Around} {E : Value → Shared → Prop} {s : Shared} {g : Heap} {env : Env}
def J1 (l : Addr) (v : Value) (k : Nat) (m : Str → Option Value) (news : List (Addr × Obj)) (s₁ : Shared) (Q : Flow → Shared → Prop) (g : Heap) (L : Addr) (i : Nat) (m' : Str → Option Value) (news' : List (Addr × Obj)) : Prop :=
 (l, PySem.W.listOf #[v] k) ∈ news' ∧ (i = 0 → m' = m ∧ news' = news) ∧ (i ≠ 0 → ∀ h tk, Fr g L h m' → News g L h news' → Q .next { s₁ with heap := h, toks := tk })
inductive OneSrc (prog : Program) (w : World) (A : Around) (g : Heap) (env : Env) (x : Str) (body : List Stmt) (Q : Flow → Shared → Prop) (E : Value → Shared → Prop) (xv : Value) (s₁ : Shared) : Prop
 | mk : ∀ (l : Addr) (v : Value) (k : Nat) (m : Str → Option Value) (news : List (Addr × Obj)), (xv = .ref l) → (A.handled = none) → (Fr g env.locals s₁.heap m) → (News g env.locals s₁.heap news) → ((l, PySem.W.listOf #[v] k) ∈ news) → (∀ h tk I oI, Fr g env.locals h (fun y => if y = x then some v else m y) → News g env.locals h ((I, oI) :: news) → (∀ q ∈ news, @Ne Nat q.1 I) → wpAny (model prog w) A (execs body env) (LPost g env.locals I oI (J1 l v k m news s₁ Q g env.locals 1) s₁ Q) E { s₁ with heap := h, toks := tk }) → OneSrc prog w A g env x body Q E xv s₁
theorem for_one {x : Str} {px pos : Pos} {iter : PySem.Expr} {body : List Stmt} {Q : Flow → Shared → Prop} {m₁ : Str → Option Value} (F : Fr g env.locals s.heap m₁) (hx : env.kindOf x = some .local)
  (hp : (env.scope.kind == .class || (env.scope.kind == .module && env.locals != env.globals)) = false)
  (h : wpAny (model prog w) A (eval iter env) (OneSrc prog w A g env x body Q E) E s)
  (hs : ∀ x, foldedSetIterable iter env x = pure x := by intro _; rfl)
  (hE : PassesOwn (model prog w) A env E := by passes_own) :
  wpAny (model prog w) A (exec (.For (.Name x px) iter body [] pos) env) Q E s := by
 refine for_listJ F hx hp (wpAny_mono h (fun xv s₁ h₁ => ?_) fun _ _ e => e) hs hE
 obtain ⟨l, v, k, m, news, rfl, hh, F, N, hm, K⟩ := h₁
 refine ⟨l, [v], m, news, J1 l v k m news s₁ Q g env.locals, rfl, hh, F, N, fun i m₁ news₁ h J F N => News.isList N J.1, ⟨hm, fun _ => ⟨rfl, rfl⟩, fun e => absurd rfl e⟩, ?_, ?_⟩
 ·intro i v' m₁ news₁ h tk I oI hv J F' N' ne
  cases i with
  | succ i => simp at hv
  | zero =>
   obtain ⟨_, J, _⟩ := J
   obtain ⟨rfl, rfl⟩ := J rfl
   simp at hv
   subst hv
   exact K h tk I oI F' N' ne
 ·intro m' news' h tk J F N
  exact J.2.2 (Nat.succ_ne_zero 0) h tk F N
theorem news_bring {g h : Heap} {L : Addr} (pre : List (Addr × Obj)) {x : Addr × Obj} {post : List (Addr × Obj)} (N : News g L h (pre ++ x :: post)) : News g L h (x :: (pre ++ post)) := fun p hp => N p (by
 k_extra "v0"
 ·exact List.mem_append_right _ (.head _)
 ·rcases List.mem_append.mp hp with hp | hp
  ·exact List.mem_append_left _ hp
  ·exact List.mem_append_right _ (.tail _ hp))
theorem LPost.intro {g : Heap} {L I : Addr} {oI : Obj} {J : (Str → Option Value) → List (Addr × Obj) → Prop} {s₁ : Shared} {Q : Flow → Shared → Prop} {m' : Str → Option Value} {news' : List (Addr × Obj)} {h' : Heap} {tk : Nat} (F : Fr g L h' m') (N : News g L h' ((I, oI) :: news')) (ne : ∀ q ∈ news', q.1 ≠ I) (j : J m' news') :
  LPost g L I oI J s₁ Q .next { s₁ with heap := h', toks := tk } := ⟨m', news', h', tk, rfl, F, N, ne, j⟩
end
inductive TraitAt (w : World) (h : Heap) (v : Value) (k : Kind) : Prop
 | mk : ∀ (x par md df g rg pl ow ins : Addr) (vo s0 a0 : Value) (t1 t2 kt : Tok) (pe be : Addr) (ts ta : Tok), (v = .ref x) → (Inst h x 742 [("path", st "A" t1), ("params", .ref par), ("methods", .ref md), ("defaults", .ref df)]) → (IsTup h par [].toArray) → (DictAt w h md [(PySem.Str.ofString "go", .ref g)]) → (Inst h g 721 (sigF t2 (PySem.Str.ofString "A::go") rg pl ow ins vo k kt false)) → (h.IsList pl [.ref pe].toArray) → (IsTup h pe [st "Self" ts, .ref be].toArray) → (IsTup h be [st "A" ta].toArray) → (IsTup h ins [s0, a0].toArray) → (TyAt (fun _ => True) h s0 (selfTy k .param)) → (TyAt (fun _ => True) h a0 .u8) → (TyAt (fun _ => True) h vo (.pair .param .bool)) → TraitAt w h v k
theorem TraitAt.keeps {w : World} {h h' : Heap} {v : Value} {k : Kind} (e : h.StaysIn h') (x : TraitAt w h v k) : TraitAt w h' v k := by
 refine @disc _ ?y ?e
 case e =>
 haveI h : @Eq (PLift _) (PLift.up (by
 obtain ⟨x, par, md, df, g, rg, pl, ow, ins, vo, s0, a0, t1, t2, kt, pe, be, ts, ta, rfl, a, b, c, d, i, f, j, k, l, m, n⟩ := x
 rename_i u0_0
 revert e a b c d i f j k l m n
 revert w h h' u0_0 x par md df g rg pl ow ins vo s0 a0 t1 t2 kt pe be ts ta
 refine no_implicit_lambda% (clZ cZ.N.N.N.N.N.N.N.V.V.V.N.N.N.N.N.N.N.N.N.Kd.H.H.W ?_)
 refine fZ8 ?_
 intro zc0_0 w h h' u0_0 x par md df
 clear_value w h h' u0_0 x par md df
 refine fZ8 ?_
 intro zc0_1 g rg pl ow ins vo s0 a0
 clear_value g rg pl ow ins vo s0 a0
 refine gZ7 ?_
 intro zc0 t1 t2 kt pe be ts ta
 clear_value t1 t2 kt pe be ts ta
 intros e a b c d i f j k l m n
 exact ⟨x, par, md, df, g, rg, pl, ow, ins, vo, s0, a0, t1, t2, kt, pe, be, ts, ta, rfl, a.keeps e, b.keeps e, c.keeps e, d.keeps e, i.at fun _ q => e _ _ q, f.keeps e, j.keeps e, k.keeps e, l.keeps e, m.keeps e, n.keeps e⟩)) ?y := by k_extra "cv"
 k_extra "zz"
theorem strsOne {vs : List Value} {x : PySem.Str} (S : StrsAre vs [x]) : ∃ t, vs = [.str x t] := by
 cases S with
 | cons y t S => cases S; exact ⟨t, rfl⟩
theorem selfOf_np {k : Kind} {t u : Ty} (h : selfOf k t = some u) (hp : t.hasParam = false) : u.hasParam = false := by
 rw [selfOf_iff] at h
 subst h
 cases k <;> exact hp
theorem Ty.np {t : Ty} (h : t.hasParam = false) : t ≠ .param := by rintro rfl; cases h
example : True := by
 k_with "exec For Name Call cons nil" =>
  (k_here; k_dflt (refine for_one ‹_› (by rfl) (by rfl) ?_))
 k_with "OneSrc" =>
  (refine ⟨_, _, _, _, _, rfl, by assumption, by assumption, by assumption, by k_mem, ?_⟩; refine clZ cZ.O.N.N.H ?_; refine gZ4 ?_; intro zc h9 tk9 I9 o9; clear_value h9 tk9 I9 o9; clear zc; intro F9 N9 n9; (try simp only [List.forall_mem_cons, List.forall_mem_nil, and_true] at n9))
 k_with "e4" =>
  (first | assumption | exact news_bring [_] ‹_› | exact news_bring [_, _] ‹_› | exact news_bring [_, _, _] ‹_› | exact news_bring [_, _, _, _] ‹_›)
 k_with "LPost next" =>
  (refine LPost.intro ‹_› (by k_extra "e4") (by (try simp only [List.cons_append, List.nil_append]); k_all) ⟨by k_mem, fun h => absurd h (Nat.succ_ne_zero 0), fun _ => ?_⟩; refine clZ cZ.N.H ?_; refine gZ2 ?_; intro zc h9 tk9; clear_value h9 tk9; clear zc; intro F9 N9; (try simp only [List.cons_append, List.nil_append] at N9))
 k_with "call builtin:sorted" =>
  (
   refine sorted_dict ‹_› ‹_› ‹_› ‹_› (by simp) ?_
   refine clZ cZ.N.H.N.L.N ?_; refine gZ5 ?_; intro zc B9 vs9 c9 h9 tk9; clear_value B9 vs9 c9 h9 tk9; clear zc; intro F9 N9 n9 S9
   (try simp only [List.forall_mem_cons, List.forall_mem_nil, and_true] at n9)
   obtain ⟨t9, rfl⟩ := strsOne S9
   clear S9; revert t9; refine clZ cZ.N ?_; refine gZ1 ?_; intro zc t9; clear_value t9; clear zc; intro N9)
 k_with "call ref cons" =>
  (
   (with_reducible show wpAny _ _ (PySem.call (Value.ref 158) _) _ _ _)
   refine' asked_w (by k_extra "a0") ?hS ?hW ?hl ?hn ?hr ‹_› ?he ?ht ?hp ?_
   case hS => exact inst_fr ‹_› ‹_›
   case hW => exact inst_fr ‹_› ‹_›
   case hl => exact isList_fr ‹_› ‹_›
   case hn => assumption
   case hr => exact rowsKeep ‹_› ‹_›
   case he => k_extra "a1"
   case ht => exact TyAt.fr ‹_› ‹_›
   case hp => exact Ty.np (selfOf_np hs9 htp)
   k_extra "q0"
   have N9 := News.grown ‹_› st9
   by_cases hany : rows.any (isHit u9) = true
   all_goals first | rw [if_pos hany] | rw [if_neg hany])
 k_with "call ref cons" =>
  (
   (with_reducible show wpAny _ _ (PySem.call (Value.ref 179) _) _ _ _)
   refine' self_of_w (by k_extra "a0") ‹_› ?_ ?_
   all_goals first
    | ((with_reducible show ∀ (_ : Addr) (_ : Ty), _); refine clZ cZ.N.H.T.N ?_; refine gZ4 ?_; intro zc ax9 u9 h9 k9; clear_value ax9 u9 h9 k9; clear zc; intro st9 F9 hs9 ty9; have N9 := News.grown ‹_› st9)
    | (refine clZ cZ.N.H ?_; refine gZ2 ?_; intro zc h9 k9; clear_value h9 k9; clear zc; intro st9 F9 hs9; have N9 := News.grown ‹_› st9))
 k_with "compareOp In str ref" =>
  (k_here; k_dflt (refine dget_in ‹_› ‹_› true (by rfl) ?_))
 k_with "subscriptTail Name Attribute ref str" =>
  (k_here; k_dflt (refine dget_item ‹_› ‹_› (by rfl) ?_))
 k_with "subscriptTail Name Name ref str" =>
  (k_here; k_dflt (refine dget_item ‹_› ‹_› (by rfl) ?_))
 trivial
theorem of_traits_w (C : Cx w p loose mean mg mb A A₀ base h₀ outer env L m s.heap 60 500) {y sel wo bd li a1 a2 ds dt a3 a4 : Addr} {tn tA : Tok} {tv vt : Value} {t : Ty} {k : Kind} {xs : List Value} {rows : List Row} {ok : Addr → Prop}
    (J : Inst s.heap y 224 [("world", .ref wo), ("name", st "go" tn), ("selection", .ref sel)]) (S : Inst s.heap sel 161 [("world", .ref wo), ("bounds", .ref bd)]) (W : Inst s.heap wo 793 (wdF a1 a2 ds dt li a3 a4)) (hl : s.heap.IsList li xs.toArray) (hlen : xs.length = rows.length) (hr : ∀ i v, xs[i]? = some v → ∃ r, rows[i]? = some r ∧ ImplAt w s.heap v i r)
    (hdt : DictAt w s.heap dt [(PySem.Str.ofString "A", tv)]) (htr : TraitAt w s.heap tv k) (hsz : rows.length ≤ 30) (tt : TyAt ok s.heap vt t) (htp : t.hasParam = false)
    (ret0 : ∀ (a : Addr) (n : Nat) (h' : Heap) (tk' : Nat), (∀ u, selfOf k t = some u → ¬ rows.any (isHit u) = true) → s.heap.StaysIn h' → Fr h₀ L h' m → Fresh s.heap h' a (PySem.W.listOf #[] n) → Q (.ref a) { s with heap := h', toks := tk' })
    (ret1 : ∀ (a c : Addr) (n : Nat) (t1 t2 t3 : Tok) (u : Ty) (x : Value) (h' : Heap) (tk' : Nat), selfOf k t = some u → rows.any (isHit u) = true → TyAt ok s.heap x u → s.heap.StaysIn h' → Fr h₀ L h' m → Fresh s.heap h' a (PySem.W.listOf #[.ref c] n) → Fresh s.heap h' c { cls := .type "tuple", data := .seq #[st "trait" t1, st "A" t2, st "go" t3, x] } → Q (.ref a) { s with heap := h', toks := tk' }) :
    wpAny (model PR w) A (PySem.call (.ref (214 : Nat)) [.ref y, vt]) Q E s := by
 refine @disc _ ?y ?e
 case e =>
 haveI h : @Eq (PLift _) (PLift.up (by
  k_fill
  obtain ⟨x, par, md, df, gg, rg, pl, ow, ins, vo, s0, a0, t1, t2, kt, pe, be, ts, ta, rfl, Ix, hpar, hmd, Ig, hpl, hpe, hbe, hins, ts0, ta0, tvo⟩ := htr
  revert C J S W hl hlen hr hsz tt htp ret0 ret1 Ix hpar hmd Ig hpl hpe hbe hins ts0 ta0 tvo hdt
  revert y sel wo bd li a1 a2 ds dt a3 a4 tn tA vt t k xs rows ok x par md df gg rg pl ow ins vo s0 a0 t1 t2 kt pe be ts ta
  k_extra "rv"
  refine no_implicit_lambda% (clZ (cPm cZ.N.N.N.N.N.N.N.V.V.V.N.N.N.N.N.N.N.N.N.P.Rs.L.Kd.T.V.N.N.N.N.N.N.N.N.N.N.N.N.N) ?_)
  k_extra "ld"
  refine fZ8 ?_
  intro zc0_0 y sel wo bd li a1 a2 ds
  clear_value y sel wo bd li a1 a2 ds
  refine fZ8 ?_
  intro zc0_1 dt a3 a4 tn tA vt t k
  clear_value dt a3 a4 tn tA vt t k
  refine fZ8 ?_
  intro zc0_2 xs rows ok x par md df gg
  clear_value xs rows ok x par md df gg
  refine fZ8 ?_
  intro zc0_3 rg pl ow ins vo s0 a0 t1
  clear_value rg pl ow ins vo s0 a0 t1
  refine gZ6 ?_
  intro zc0 t2 kt pe be ts ta
  clear_value t2 kt pe be ts ta
  intros C J S W hl hlen hr hsz tt htp ret0 ret1 Ix hpar hmd Ig hpl hpe hbe hins ts0 ta0 tvo hdt
  k_extra "oC"
  k_extra "c0"
  k_steps
  all_goals first
    | exact ret0 _ _ _ _ (fun u e => (Option.some_ne_none u (e.symm.trans hs9)).elim) (Fr.keep ‹_›) ‹_› (newsFrsh ‹_› (by k_mem))
    | (have f2 := newsFrsh N9 (.head _)
       have f1 := newsFrsh N9 (.tail _ (.tail _ (.tail _ (.head _))))
       exact ret1 _ _ _ _ _ _ u9 _ _ _ hs9 hany ‹_› (Fr.keep ‹_›) ‹_› f1 f2)
    | (refine ret0 _ _ _ _ (fun u e => ?_) (Fr.keep ‹_›) ‹_› (newsFrsh ‹_› (by k_mem))
       rw [hs9] at e; cases e; exact hany))) ?y := by k_extra "cv"
 k_extra "zz"
section
variable {M : Model} {prog : Program} {w : World} {A : Around} {E : Value → Shared → Prop} {h : Heap} {g : Array GenState} {d : Drawn} {t : Nat} {os : OsState} {R : Result → Shared → Prop}
variable {nm q : Str} {C N : Addr} {bs bm bmB : List Value} {hdct : Bool} {sn : List Str} {sub : List Value} {ab : Bool} {col : Option Bool} {dd : Option Addr} {k0 k1 k2 k3 k5 : Option Value} {B newId initId : String}
theorem mk_check (F : ExcBaseFacts B newId initId bmB) (hcont : (Value.ref C :: bm).contains (.type B) = true) {rest : List Value} {Q : Unit → Shared → Prop} (hC : h.get? C = some (excClassObj nm q C N bs bm hdct sn sub ab col dd k0 k1 k2 k3 k5 newId))
  (hq : Q () ⟨h, g, d, t, os⟩) : wpAny M A (checkBuiltinCall newId ⟨.ref C :: rest, []⟩) Q E ⟨h, g, d, t, os⟩ := by
 refine @disc _ ?y ?e
 case e =>
 haveI h : @Eq (PLift _) (PLift.up (by
 revert F hcont hC hq
 revert M A E h g d t os nm q C N bs bm bmB hdct sn sub ab col dd k0 k1 k2 k3 k5 B newId initId rest Q
 refine no_implicit_lambda% (clZ cZ.U.L.g.g.g.v.v.v.v.v.o.b.B.L.t.B.L.L.L.N.N.S.S.C.N.J.w.H.Q.A.D ?_)
 refine fZ8 ?_
 intro zc0_0 M A E h g d t os
 clear_value M A E h g d t os
 refine fZ8 ?_
 intro zc0_1 nm q C N bs bm bmB hdct
 clear_value nm q C N bs bm bmB hdct
 refine fZ8 ?_
 intro zc0_2 sn sub ab col dd k0 k1 k2
 clear_value sn sub ab col dd k0 k1 k2
 refine gZ7 ?_
 intro zc0 k3 k5 B newId initId rest Q
 clear_value k3 k5 B newId initId rest Q
 intros F hcont hC hq
 have hstar := F.noStar
 simp only [checkBuiltinCall, F.newKind, F.newSplit, F.newRow]
 repeat (first | refine wpAny_loadPart_at hC ?_ | (refine wpAny_isSubtype_exc hC ?_; rw [hcont]) | refine wpAny_staticBase_exc hC ?_ | refine wpAny_madeBy_exc hC ?_ | simp only [bne_self_eq_false, Bool.false_eq_true, if_false] | k_extra "ws")
 exact hq)) ?y := by k_extra "cv"
 k_extra "zz"
theorem mk_new (F : ExcBaseFacts B newId initId bmB) (hcB : (Value.ref C :: bm).contains (.type B) = true) (hcA : (Value.ref C :: bm).contains (.type "AttributeError") = false) (hcN : (Value.ref C :: bm).contains (.type "NameError") = false)
  {rest : List Value} (hC : h.get? C = some (excClassObj nm q C N bs bm hdct sn sub ab col dd k0 k1 k2 k3 k5 newId))
  (hq : R (.ok (.ret (.ref (h.objs.size + 1)))) ⟨(h.push { cls := .type "tuple", data := .seq rest.toArray }).push { cls := .ref C, data := .fields #[.ref h.objs.size, .none, .none, .none, .bool false, .none] }, g, d, t, os⟩)
  (hrest : rest.length ≤ sizeLine) : codeAny (model prog w) A (.builtin newId ⟨.ref C :: rest, []⟩) R ⟨h, g, d, t, os⟩ := by
 refine @disc _ ?y ?e
 case e =>
 haveI h : @Eq (PLift _) (PLift.up (by
 revert F hcB hcA hcN hC hq hrest
 revert prog w A h g d t os R nm q C N bs bm bmB hdct sn sub ab col dd k0 k1 k2 k3 k5 B newId initId rest
 refine no_implicit_lambda% (clZ cZ.L.g.g.g.v.v.v.v.v.o.b.B.L.t.B.L.L.L.N.N.S.S.Re.C.N.J.w.H.A.W.R ?_)
 refine fZ8 ?_
 intro zc0_0 prog w A h g d t os
 clear_value prog w A h g d t os
 refine fZ8 ?_
 intro zc0_1 R nm q C N bs bm bmB
 clear_value R nm q C N bs bm bmB
 refine fZ8 ?_
 intro zc0_2 hdct sn sub ab col dd k0 k1
 clear_value hdct sn sub ab col dd k0 k1
 refine gZ7 ?_
 intro zc0 k2 k3 k5 B newId initId rest
 clear_value k2 k3 k5 B newId initId rest
 intros F hcB hcA hcN hC hq hrest
 have hends := F.ends
 refine codeAny_builtinAt F.entry ?_
 unfold Builtin.«BaseException.__new__»
 refine PySem.wpAt_bind ?_
 show PySem.wpAt _ _ _ (stack >>= _) _ _ _
 refine PySem.wpAt_bind (PySem.wpAt_stack fun p below => PySem.wpAt_of_wpAny ?_)
 repeat (k_extra "ws")
 refine PySem.wpAt_of_wpAny ?_
 rw [F.owner]
 repeat (first | with_reducible refine wpAny_madeHere_exc F.canon hC ?_ | with_reducible refine wpAny_loadPart_at hC ?_ | (with_reducible refine wpAny_isSubtype_exc hC ?_; first | rw [hcB] | rw [hcA] | rw [hcN]) | k_extra "ws")
 show R _ _
 rw [Heap.size_push]
 exact hq)) ?y := by k_extra "cv"
 k_extra "zz"
theorem mk_type_call (F : ExcBaseFacts B newId initId bmB) (hcB : (Value.ref C :: bm).contains (.type B) = true) (hcA : (Value.ref C :: bm).contains (.type "AttributeError") = false) (hcN : (Value.ref C :: bm).contains (.type "NameError") = false)
  {rest : List Value} {K : Frag} {fI : Addr} {Q : Fin → Shared → Prop} (X : K.In h)
  (hC : h.get? C = some (excClassObj nm q C N bs bm hdct sn sub ab col dd k0 k1 k2 k3 k5 newId)) (hi : findIn K (.ref C) "__init__" = some (some (.ref fI))) (hfI : typeIn K (.ref fI) = some (.type "function"))
  (hq : ∀ h' e, Heap.MadeExcOf h h' e (.ref C) rest → wpAny (model prog w) A (call (.ref fI) (.ref e :: rest)) (fun r s' => r = .none ∧ Q (.done (.ret (.ref e))) s') E ⟨h', g, d, t, os⟩) (hrest : rest.length ≤ sizeLine) :
  wpAny (model prog w) A (Builtin.«type.__call__» ⟨.ref C :: rest, []⟩) Q E ⟨h, g, d, t, os⟩ := by
 repeat (first | with_reducible refine wpAny_loadPart_at hC ?_ | with_reducible refine wpAny_madeBy_exc hC ?_ | k_extra "ws")
 refine codeAny_call_builtin_code (Code.quiet_builtin _ F.quiet) (mk_check F hcB hC ?_)
 refine mk_new F hcB hcA hcN hC ?_ hrest
 show wpAny _ _ _ _ _ _
 have hC₁ := Heap.get?_push_of_some { cls := .ref C, data := .fields #[.ref h.objs.size, .none, .none, .none, .bool false, .none] } (Heap.get?_push_of_some { cls := .type "tuple", data := .seq rest.toArray } hC)
 have X₁ : K.In ((h.push { cls := .type "tuple", data := .seq rest.toArray }).push { cls := .ref C, data := .fields #[.ref h.objs.size, .none, .none, .none, .bool false, .none] }) := X.keeps fun b o e => Heap.get?_push_of_some _ (Heap.get?_push_of_some _ e)
 have hget : ((h.push { cls := .type "tuple", data := .seq rest.toArray }).push { cls := .ref C, data := .fields #[.ref h.objs.size, .none, .none, .none, .bool false, .none] }).get? (h.objs.size + 1) = some { cls := .ref C, data := .fields #[.ref h.objs.size, .none, .none, .none, .bool false, .none] } := by heap_get
 have hcC : (Value.ref C :: bm).contains (.ref C) = true := by simp
 unfold isInstance
 repeat (first | with_reducible refine wpAny_loadPart_at hget ?_ | (with_reducible refine wpAny_isSubtype_exc hC₁ ?_; rw [hcC]) | k_extra "ws")
 refine (looks_findIn X₁ hi).here ?_
 dsimp only
 refine wpAny_holding (wpAny_bind ?_)
 unfold bindSpecial
 refine wpAny_bind ((looks_typeIn X₁ hfI).here ?_)
 rw [if_pos (by decide)]
 refine wpAny_pure (wpAny_bind (wpAny_mono (hq _ (h.objs.size + 1) ⟨fun b o hb => Heap.get?_push_of_some _ (Heap.get?_push_of_some _ hb), Heap.get?_none_of_le (Nat.le_succ _), h.objs.size, hget, Heap.get?_none_of_le (Nat.le_refl _), ?_⟩) (fun r s' hr => ?_) fun _ _ x => x))
 ·exact Heap.get?_push_of_some _ (Heap.get?_push_at rfl rfl)
 ·obtain ⟨rfl, hQ⟩ := hr
  repeat (k_extra "ws")
  exact hQ
theorem mk_call (F : ExcBaseFacts B newId initId bmB) (hcB : (Value.ref C :: bm).contains (.type B) = true) (hcA : (Value.ref C :: bm).contains (.type "AttributeError") = false) (hcN : (Value.ref C :: bm).contains (.type "NameError") = false)
  {rest : List Value} {K : Frag} {fI : Addr} {Q : Value → Shared → Prop} (X : K.In h)
  (hC : h.get? C = some (excClassObj nm q C N bs bm hdct sn sub ab col dd k0 k1 k2 k3 k5 newId)) (hi : findIn K (.ref C) "__init__" = some (some (.ref fI))) (hfI : typeIn K (.ref fI) = some (.type "function"))
  (hq : ∀ h' e, Heap.MadeExcOf h h' e (.ref C) rest → wpAny (model prog w) (A.under (.builtin "type.__call__" ⟨.ref C :: rest, []⟩)) (call (.ref fI) (.ref e :: rest)) (fun r s' => r = .none ∧ Q (.ref e) s') E ⟨h', g, d, t, os⟩) (hrest : rest.length ≤ sizeLine) :
  wpAny (model prog w) A (call (.ref C) rest) Q E ⟨h, g, d, t, os⟩ := by
 have f1 := tc_lookup
 have f2 := tc_bind (.ref C)
 have hT : (⟨h, g, d, t, os⟩ : Shared).TypeIs (.ref C) "type" := ⟨_, hC, rfl⟩
 refine wpAny_call (codeAny_of_tree ?_)
 show wpAny _ _ (callAny (.ref C) _) _ _ _
 repeat (any_goals (first | assumption | with_reducible refine wpAny_loadPart_at hC ?_ | k_extra "ws"))
 refine ⟨rfl, ?_⟩
 refine codeAny_call_builtin_at (Code.quiet_builtin _ (by decide +kernel)) entry_typeCall (wpAny_check_type_call_sub hC (mk_type_call F hcB hcA hcN X hC hi hfI (fun h' e hm => ?_) hrest))
 exact hq h' e hm
end
open Builtin Builtin.ObjectAttr in
theorem inst_at {h : Heap} {x C : Addr} {mA : Str → Option Value} (I : h.Inst x C mA) : ∃ ox od, InstAt h x ox C od := by
 refine @disc _ ?y ?e
 case e =>
 haveI h : @Eq (PLift _) (PLift.up (by
 obtain ⟨o, hx, hc, hnc, hd⟩ := I
 revert hx hc hnc hd
 revert h x C mA o
 refine no_implicit_lambda% (clZ cZ.O.M.N.N.H ?_)
 refine gZ5 ?_
 intro zc0 h x C mA o
 clear_value h x C mA o
 intros hx hc hnc hd
 have hn : notCls o = true := by
  obtain ⟨a, b, c, d⟩ := o
  cases c <;> first | rfl | exact absurd rfl (hnc _)
 rcases hd with ⟨hdn, _⟩ | ⟨d, hdx, _, hns⟩
 ·exact ⟨o, none, hx, hc, hn, by rw [hdn]; trivial⟩
 ·obtain ⟨od, _, _, e, _⟩ := hns
  exact ⟨o, some od, hx, hc, hn, by rw [hdx]; exact e⟩)) ?y := by k_extra "cv"
 k_extra "zz"
section
open Builtin Builtin.ObjectAttr
variable {prog : Program} {w : World} {A : Around} {E : Value → Shared → Prop} {s : Shared} {K : Frag} {x C N : Addr} {nm q : Str} {bs bm : List Value} {sn : List Str} {sub : List Value} {ab : Bool} {col : Option Bool} {dd : Option Addr} {k0 k1 k2 k3 k5 : Option Value} {newId : String} {mA : Str → Option Value} {name : Str} {v : Value}
theorem set_exc {Q : Unit → Shared → Prop} {ns : List Str} (X : K.In s.heap) (hC : s.heap.get? C = some (excClassObj nm q C N bs bm true sn sub ab col dd k0 k1 k2 k3 k5 newId))
  (href : ∀ self : Value, refuseLoop self "__setattr__" (.ref C :: bm) = pure ()) (hobj : mroIn K C (.type "object") = some true)
  (hsa : findIn K (.ref C) "__setattr__" = some (some (.builtin "object.__setattr__"))) (ht : findIn K (.ref C) name = some none) (I : s.heap.Inst x C mA)
  (hq : ∀ h' tk', h'.Inst x C (fun y => if y = name then some v else mA y) →
   (∀ b o, b ≠ x → (∀ o₀ dx, s.heap.get? x = some o₀ → o₀.dict = some dx → b ≠ dx) → s.heap.get? b = some o → h'.get? b = some o) →
   (∀ o₀, s.heap.get? x = some o₀ → ∃ o₁, h'.get? x = some o₁ ∧ o₁.cls = o₀.cls ∧ o₁.data = o₀.data ∧ o₁.slots = o₀.slots ∧ (o₀.dict = none → ∃ dx, o₁.dict = some dx ∧ s.heap.get? dx = none) ∧ ∀ dx, o₀.dict = some dx → o₁.dict = some dx) → Q () { s with heap := h', toks := tk' }) (hw : PySem.Within mA ns) (hsz : ns.length ≤ 1000) :
  wpAny (model prog w) A (setAttr (.ref x) name v) Q E s := by
 refine @disc _ ?y ?e
 case e =>
 haveI h : @Eq (PLift _) (PLift.up (by
 obtain ⟨ox, od, J⟩ := inst_at I
 revert X hC href hobj hsa ht I hq hw hsz J
 revert prog w A E s K x C N nm q bs bm sn sub ab col dd k0 k1 k2 k3 k5 newId mA name v Q ns ox od
 refine no_implicit_lambda% (clZ cZ.i.O.t.U.V.S.M.g.v.v.v.v.v.o.b.B.L.t.L.L.S.S.N.N.N.l.s.Q.A.W.R ?_)
 refine fZ8 ?_
 intro zc0_0 prog w A E s K x C
 clear_value prog w A E s K x C
 refine fZ8 ?_
 intro zc0_1 N nm q bs bm sn sub ab
 clear_value N nm q bs bm sn sub ab
 refine fZ8 ?_
 intro zc0_2 col dd k0 k1 k2 k3 k5 newId
 clear_value col dd k0 k1 k2 k3 k5 newId
 refine gZ7 ?_
 intro zc0 mA name v Q ns ox od
 clear_value mA name v Q ns ox od
 intros X hC href hobj hsa ht I hq hw hsz J
 have SF := PySem.F.store_object
 refine set_plain X J hsa ?_
 have sub : Looks (model prog w) s.heap (isInstance (.ref x) (.type "object")) true := J.type.andThen (looks_mroIn X hobj)
 obtain ⟨h, g, d, t, os⟩ := s
 refine codeAny_call_builtin SF.slot.plain SF.entry (@check_slot (model prog w) _ _ _ "object.__setattr__" "object" "__setattr__" (.ref x) [.str name _, v] [] _ SF.kind SF.split sub (SF.args (.ref x) (.str name _) v) ?_)
 obtain ⟨o, hx, hc, hnc, hd⟩ := I
 rw [osa_eq, refuse_eq]
 dsimp only at hx hc hC X J hd hq ⊢
 have hm : Looks (model prog w) h (mroOf (.ref C)) (.ref C :: bm) := (Looks.ld (part := none) hC).andThen (.of_pure rfl)
 refine wpAny_bind (wpAny_bind (J.type.here (wpAny_bind (hm.here ?_))))
 rw [href]
 refine wpAny_pure (wpAny_bind (J.type.here (wpAny_bind ((looks_findIn X ht).here (wpAny_bind (wpAny_pure ?_))))))
 dsimp only
 show wpAny _ _ (storeInOwnDict (.ref x) (.ref C) (.str name _) name v false) _ _ _
 unfold storeInOwnDict
 repeat (first | (with_reducible refine wpAny_loadPart_at hx ?_; (try rw [hc])) | with_reducible refine wpAny_loadPart_at hC ?_ | k_extra "ws")
 rcases hd with ⟨hdn, hmA⟩ | ⟨dx, hdx, hne, hns⟩
 ·rw [hdn, if_neg (by simp [typeHasDict])]
  split
  ·rename_i z; cases z
  split
  ·rename_i c z; exact absurd z (hnc c)
  have hlt : x < h.objs.size := Heap.lt_size hx
  have hxs : x ≠ h.objs.size := Nat.ne_of_lt hlt
  have hdn0 : h.get? h.objs.size = none := Heap.get?_none_of_le (Nat.le_refl _)
  have hx₁ : (h.push { cls := .type "dict", data := .dict #[] }).get? x = some o := Heap.get?_push_of_some _ hx
  refine wpAny_bind (wpAny_alloc' (wpAny_bind (wpAny_update' hx₁ (wpAny_pure ?_))))
  generalize hH : ((h.push { cls := .type "dict", data := .dict #[] }).update x fun o => { cls := o.cls, dict := some h.objs.size, data := o.data, slots := o.slots }) = H
  have gd : H.get? h.objs.size = some { cls := .type "dict", data := .dict #[] } := by
   rw [← hH, Heap.get?_update_ne _ _ _ _ hxs.symm]; exact Heap.get?_push_at rfl rfl
  have gx : H.get? x = some { cls := o.cls, dict := some h.objs.size, data := o.data, slots := o.slots } := by
   rw [← hH]
   refine Heap.get?_update_self _ hx₁ ?_
   have hfr := (Heap.get?_some_iff.mp hx).2
   obtain ⟨oc, od, odt, osl⟩ := o
   cases odt <;> first | rfl | exact hfr
  have gk : ∀ b ob, b ≠ x → h.get? b = some ob → H.get? b = some ob := fun b ob hb e => by
   rw [← hH, Heap.get?_update_ne _ _ _ _ hb]; exact Heap.get?_push_of_some _ e
  have hn0 : H.Ns h.objs.size (fun _ => none) := ⟨_, #[], _, gd, rfl, fun e he => absurd he (by simp), fun _ => rfl⟩
  show wpAny _ _ (storeInDict h.objs.size (.str name _) name v) _ _ _
  unfold storeInDict newKeyGuard
  refine wpAny_bind (wpAny_pure (wpAny_bind (wpAny_nsSet1 (Heap.Ns1.of_empty hn0) fun h' hn' hs => ?_)))
  obtain ⟨oD, esD, epD, hoD, hdD, hcD⟩ := hn'.count (PySem.Within.cons name v PySem.Within.nil)
  refine wpAny_bind (wpAny_lookBehind hoD (by rw [hdD]; exact pastItsLine_dict (Nat.le_trans hcD (by rw [List.length_cons, List.length_nil, sizeLine_eq]; omega))) ?_)
  repeat (k_extra "ws")
  have hx' := (hs.2 x hxs).trans gx
  refine hq h' _ ⟨_, hx', hc, hnc, .inr ⟨h.objs.size, rfl, hxs.symm, ?_⟩⟩ (fun b ob hb _ e => (hs.2 b (Nat.ne_of_lt (Heap.lt_size e))).trans (gk b ob hb e)) fun o₀ e => ?_
  ·obtain ⟨o', es, ep, e1, e2, e3, eu, e4⟩ := hn'
   exact ⟨o', es, ep, e1, e2, e3, eu, fun y => by rw [e4 y]; by_cases hy : y = name <;> simp [hy, hmA]⟩
  ·obtain rfl : o = o₀ := Option.some.inj (hx.symm.trans e)
   exact ⟨_, hx', rfl, rfl, rfl, fun _ => ⟨_, rfl, hdn0⟩, fun dx e => by rw [hdn] at e; cases e⟩
 ·rw [hdx]
  refine wpAny_pure ?_
  show wpAny _ _ (storeInDict dx (.str name _) name v) _ _ _
  unfold storeInDict newKeyGuard
  refine wpAny_bind (wpAny_pure (wpAny_bind (wpAny_nsSet1 hns fun h' hn' hs => ?_)))
  obtain ⟨oD, esD, epD, hoD, hdD, hcD⟩ := hn'.count (PySem.Within.cons name v hw)
  refine wpAny_bind (wpAny_lookBehind hoD (by rw [hdD]; exact pastItsLine_dict (Nat.le_trans hcD (by rw [List.length_cons, sizeLine_eq]; omega))) ?_)
  repeat (k_extra "ws")
  refine hq h' _ ⟨o, (hs.2 x hne.symm).trans hx, hc, hnc, .inr ⟨dx, hdx, hne, hn'⟩⟩ (fun b ob _ hbd e => (hs.2 b (hbd o dx hx hdx)).trans e) fun o₀ e => ⟨o₀, (hs.2 x hne.symm).trans e, rfl, rfl, rfl, fun z => ?_, fun _ z => z⟩
  obtain rfl : o = o₀ := Option.some.inj (hx.symm.trans e)
  rw [hdx] at z; cases z)) ?y := by k_extra "cv"
 k_extra "zz"
end
section
variable {prog : Program} {w : World} {A : Around} {E : Value → Shared → Prop} {s : Shared}
variable {nm q : Str} {C N : Addr} {bs bm bmB : List Value} {hdct : Bool} {sn : List Str} {sub : List Value} {ab : Bool} {col : Option Bool} {dd : Option Addr} {k0 k1 k2 k3 k5 : Option Value} {B nid newId initId : String}
theorem mk_check_init (F : ExcBaseFacts B nid initId bmB) (hcB : (Value.ref C :: bm).contains (.type B) = true) {M : Model} {e : Addr} {oe : Obj} {rest : List Value} {Q : Unit → Shared → Prop}
  (hC : s.heap.get? C = some (excClassObj nm q C N bs bm hdct sn sub ab col dd k0 k1 k2 k3 k5 newId)) (he : s.heap.get? e = some oe) (hcls : oe.cls = .ref C) (hq : Q () s) :
  wpAny M A (checkBuiltinCall initId ⟨.ref e :: rest, []⟩) Q E s := by
 refine @disc _ ?y ?e
 case e =>
 haveI h : @Eq (PLift _) (PLift.up (by
 revert F hcB hC he hcls hq
 revert A E s nm q C N bs bm bmB hdct sn sub ab col dd k0 k1 k2 k3 k5 B nid newId initId M e oe rest Q
 refine no_implicit_lambda% (clZ cZ.U.L.O.N.D.g.g.g.g.v.v.v.v.v.o.b.B.L.t.B.L.L.L.N.N.S.S.s.Q.A ?_)
 refine fZ8 ?_
 intro zc0_0 A E s nm q C N bs
 clear_value A E s nm q C N bs
 refine fZ8 ?_
 intro zc0_1 bm bmB hdct sn sub ab col dd
 clear_value bm bmB hdct sn sub ab col dd
 refine fZ8 ?_
 intro zc0_2 k0 k1 k2 k3 k5 B nid newId
 clear_value k0 k1 k2 k3 k5 B nid newId
 refine gZ6 ?_
 intro zc0 initId M e oe rest Q
 clear_value initId M e oe rest Q
 intros F hcB hC he hcls hq
 have hshort := F.noStar
 simp only [checkBuiltinCall, F.initKind, F.initSplit, F.initRow]
 obtain ⟨h, g, d, t, os⟩ := s
 repeat (first | (with_reducible refine wpAny_loadPart_at he ?_; rw [hcls]) | with_reducible refine wpAny_loadPart_at hC ?_ | (with_reducible refine wpAny_isSubtype_exc hC ?_; rw [hcB]) | k_extra "ws")
 refine wpAny_onRaise ?_
 rw [show ∀ (a b : String) (n : Nat), Bind.check ⟨.positional, "*", B, .self, [⟨"args", .varPos, false⟩]⟩ a b n (List.map (fun x => x.fst) ({ pos := Value.ref e :: rest } : Args).kw) = pure () from
  fun a b n => check_star_args _ _ _ _ _ _]
 exact wpAny_pure hq)) ?y := by k_extra "cv"
 k_extra "zz"
theorem call_exc_init (F : ExcBaseFacts B nid initId bmB) (hcB : (Value.ref C :: bm).contains (.type B) = true) {e a0 : Addr} {oe : Obj} {vs : Array Value} {rest : List Value} {Q : Value → Shared → Prop}
  (hC : s.heap.get? C = some (excClassObj nm q C N bs bm hdct sn sub ab col dd k0 k1 k2 k3 k5 newId)) (he : s.heap.get? e = some oe) (hcls : oe.cls = .ref C) (hd : oe.data = .fields vs) (h0 : vs[0]? = some (.ref a0)) (hrest : rest.length ≤ sizeLine)
  (hq : ∀ h' T, (∀ b o, b ≠ e → s.heap.get? b = some o → h'.get? b = some o) → h'.get? e = some { oe with data := .fields (vs.setIfInBounds 0 (.ref T)) } → s.heap.get? T = none → Q .none { s with heap := h' }) :
  wpAny (model prog w) A (call (.builtin initId) (.ref e :: rest)) Q E s := by
 refine @disc _ ?y ?e
 case e =>
 haveI h : @Eq (PLift _) (PLift.up (by
 revert F hcB hC he hcls hd h0 hrest hq
 revert prog w A E s nm q C N bs bm bmB hdct sn sub ab col dd k0 k1 k2 k3 k5 B nid newId initId e a0 oe vs rest Q
 refine no_implicit_lambda% (clZ cZ.Q.L.y.O.N.N.g.g.g.g.v.v.v.v.v.o.b.B.L.t.B.L.L.L.N.N.S.S.s.Q.A.W.R ?_)
 refine fZ8 ?_
 intro zc0_0 prog w A E s nm q C
 clear_value prog w A E s nm q C
 refine fZ8 ?_
 intro zc0_1 N bs bm bmB hdct sn sub ab
 clear_value N bs bm bmB hdct sn sub ab
 refine fZ8 ?_
 intro zc0_2 col dd k0 k1 k2 k3 k5 B
 clear_value col dd k0 k1 k2 k3 k5 B
 refine fZ8 ?_
 intro zc0_3 nid newId initId e a0 oe vs rest
 clear_value nid newId initId e a0 oe vs rest
 refine gZ1 ?_
 intro zc0 Q
 clear_value Q
 intros F hcB hC he hcls hd h0 hrest hq
 refine wpAny_call (codeAny_call_builtin F.init.plain F.initEntry (mk_check_init F hcB hC he hcls ?_))
 unfold Builtin.«BaseException.__init__»
 dsimp only
 rw [if_neg (by decide)]
 refine wpAny_bind (wpAny_newTuple ?_ hrest)
 have he₁ : (s.heap.push { cls := .type "tuple", data := .seq rest.toArray }).get? e = some oe := Heap.get?_push_of_some _ he
 unfold Builtin.BaseException.bexcPut
 refine wpAny_bind (wpAny_bind (wpAny_field he₁ hd h0 (wpAny_bind (wpAny_setField he₁ hd (Array.getElem?_eq_some_iff.mp h0).1 (wpAny_letGo ?_)))))
 refine wpAny_pure (hq _ s.heap.objs.size (fun b o hb e1 => ?_) ?_ (Heap.get?_none_of_le (Nat.le_refl _)))
 ·rw [Heap.get?_update_other _ _ (Ne.symm hb)]; exact Heap.get?_push_of_some _ e1
 ·have hd₃ := Obj.data_mapFields hd (·.setIfInBounds 0 (Value.ref s.heap.objs.size))
  rw [Heap.get?_update_self _ he₁ (Obj.isFreed_of_fields hd₃)]
  obtain ⟨c, dct, dt, sl⟩ := oe
  dsimp only at hd
  subst hd
  rfl)) ?y := by k_extra "cv"
 k_extra "zz"
end
section
variable {prog : Program} {w : World} {A₀ A : Around} {E : Value → Shared → Prop} {s : Shared} {K : Frag} {L : Addr} {h₀ base : Heap} {m mg mb : Str → Option Value} {news : List (Addr × Obj)} {p : Program} {loose : List Str} {mean : ExcName → Option Value} {Q : Value → Shared → Prop}
theorem enterM {env : Env} {outer : List Env} {name qual : Str} {params : Arguments} {body : List Stmt} {scope : Scope} {dV kV doc pm cdv ct oc : Value} {an od : Option Addr} {osl : Array (Option Value)} {f : Addr} {args : Args} {binds : List (Str × Value)} {R : Result → Shared → Prop}
  (B : Below A₀ base outer h₀) (F : Fr h₀ L s.heap m) (N : News h₀ L s.heap news) (X₀ : K.In h₀) (T : Top p loose mean mg mb h₀) (hA : A.frames = some (env :: outer)) (hf : env.frame = some L) (hke : env.scope.kind = .function)
  (ho : K.lookup f = some ⟨oc, od, .func (fnOf name qual params body scope dV kV doc pm an cdv ct), osl⟩) (hcd : codeIn K cdv qual = true) (hroom : A.depth < recursionLimit)
  (hbind : BindsTo s (fnOf name qual params body scope dV kV doc pm an cdv ct) args binds) (hloc : ∀ y ∈ binds, scope.names.lookup y.1 = some .local)
  (h : ∀ G L' h₁, G = hideAll s.heap (news.map (·.1)) → Fr G L' h₁ (fun y => binds.reverse.lookup y) → News G L' h₁ news → Below A base (env :: outer) G → K.In G → Top p loose mean mg mb G →
   wpAny (model prog w) (A.deeper (envOf qual scope L' f cdv)) (execs body (envOf qual scope L' f cdv))
    (fun fl s' => LeaveK h₀ L m G R (match fl with | .ret v => v | _ => .none) s')
    (fun e s' => wpAny (model prog w) (A.deeper (envOf qual scope L' f cdv)) (leaving (envOf qual scope L' f cdv) e) (fun _ s'' => R (.error e) s'') (fun e' s'' => R (.error e') s'') s')
    { s with heap := h₁, toks := s.toks + binds.length })
  (hco : scope.isCoroutine = false) (hgen : scope.isGenerator = false) (hk : scope.kind = .function)
  (hcell : ∀ x ∈ scope.names, x.2 ≠ .cell) : codeAny (model prog w) A (.call (.ref f) args) R s := by
 obtain ⟨FG, BG, st, lv⟩ := groundX (R := R) B F N hA hf hke
 refine codeAny_call_def (fd := fnOf name qual params body scope dV kV doc pm an cdv ct) (body := body) (binds := binds) hroom ((X₀.keeps F.keep) _ _ ho) rfl (T.nolimit.keeps F.keep) (codeRec_of (X₀.keeps F.keep) hcd) rfl hbind hcell hloc (fun h₁ hns hk₁ => ?_) hco hgen hk
 refine wpAny_mono (h _ s.heap.objs.size h₁ rfl ⟨hns, fun b o e => hk₁ b o (of_hideAll _ e), by rw [hideAll_size]; exact Nat.le_refl _⟩ (fun q hq => ⟨hk₁ _ _ (N q hq).1, Nat.ne_of_lt (Heap.lt_size (N q hq).1), hideAll_none _ (List.mem_map.mpr ⟨q, hq, rfl⟩)⟩) BG (X₀.keeps st) (T.keeps st)) (fun fl s' hl => lv _ _ hl) fun _ _ y => y
end
example : True := by
 k_with "c1" =>
  (refine wpAny_call ?_; k_dflt (refine' enterM ?k1 ?k2 ?kN ?k3 ?k5 ?kA ?kF ?kK ?k6 ?k7 ?k8 ?k9 ?kB ?_ ?c2 ?c3 ?c4 ?c5; (case kA => assumption); (case kF => assumption); (case kK => assumption); (case k1 => k_asm); (case k2 => k_asm); (case kN => k_asm); (case k3 => k_asm); (case k5 => k_asm); (case k6 => k_is); (case k7 => k_is); (case k8 => k_extra "g0"); (case k9 => first | exact BindsTo.of_eq rfl | exact binds_K (by k_in) rfl (by k_is) rfl rfl rfl); (case c5 => decide); (case kB => exact locs rfl); (case c2 => exact rfl); (case c3 => exact rfl); (case c4 => exact rfl); k_whole; refine clZ cZ.H.N.H ?_; refine gZ3 ?_; intro zc G' L' h'; clear_value G' L' h'; clear zc; intro eG' F' N' B' X' T'; (try dsimp only)); (try k_fold))
 trivial
inductive FaultAt (g h : Heap) (L e C : Addr) (mA : Str → Option Value) : Prop
 | mk : ∀ (o : Obj) (T : Addr), (h.get? e = some o) → (o.cls = .ref C) → (o.data = .fields #[.ref T, .none, .none, .none, .bool false, .none]) → (o.slots = #[]) → (((o.dict = none ∧ ∀ n, mA n = none) ∨ ∃ d, o.dict = some d ∧ d ≠ e ∧ g.get? d = none ∧ d ≠ L ∧ h.Ns1 d mA)) → FaultAt g h L e C mA
theorem FaultAt.inst {g h : Heap} {L e C : Addr} {mA : Str → Option Value} (x : FaultAt g h L e C mA) : h.Inst e C mA := by
 obtain ⟨o, T, a, b, c, _, d⟩ := x
 exact ⟨o, a, b, (fun k q => by rw [c] at q; cases q), d.imp id fun ⟨d, e1, e2, e3, _, e4⟩ => ⟨d, e1, e2, e4⟩⟩
section
open Builtin Builtin.ObjectAttr
variable {prog : Program} {w : World} {A : Around} {E : Value → Shared → Prop} {s : Shared} {K : Frag} {g : Heap} {L e C N : Addr} {m : Str → Option Value} {nm q : Str} {bs bm : List Value} {sn : List Str} {sub : List Value} {ab : Bool} {col : Option Bool} {dd : Option Addr} {k0 k1 k2 k3 k5 : Option Value} {newId : String} {mA : Str → Option Value} {name : Str} {v : Value}
theorem set_fault {Q : Unit → Shared → Prop} {ns : List Str} (F : Fr g L s.heap m) (hL : e ≠ L) (he : g.get? e = none) (X : K.In g) (hC : s.heap.get? C = some (excClassObj nm q C N bs bm true sn sub ab col dd k0 k1 k2 k3 k5 newId))
  (href : ∀ self : Value, refuseLoop self "__setattr__" (.ref C :: bm) = pure ()) (hobj : mroIn K C (.type "object") = some true)
  (hsa : findIn K (.ref C) "__setattr__" = some (some (.builtin "object.__setattr__"))) (ht : findIn K (.ref C) name = some none) (I : FaultAt g s.heap L e C mA)
  (hq : ∀ h' tk', Fr g L h' m → FaultAt g h' L e C (fun y => if y = name then some v else mA y) → Q () { s with heap := h', toks := tk' }) (hw : PySem.Within mA ns) (hsz : ns.length ≤ 1000) :
  wpAny (model prog w) A (setAttr (.ref e) name v) Q E s := by
 refine set_exc (X.keeps F.keep) hC href hobj hsa ht I.inst (fun h' tk' I' kp same => ?_) hw hsz
 obtain ⟨o, T, a, b, c, sl, dct⟩ := I
 obtain ⟨o₁, a₁, b₁, c₁, sl₁, dn, ds⟩ := same o a
 have offd : ∀ dx, o.dict = some dx → g.get? dx = none ∧ dx ≠ L := fun dx hdx => by
  rcases dct with ⟨z, _⟩ | ⟨d, z, _, z2, z3, _⟩
  ·rw [z] at hdx; cases hdx
  ·rw [z] at hdx; cases hdx
   exact ⟨z2, z3⟩
 have kp' : ∀ b ob, b ≠ e → (∀ dx, o.dict = some dx → b ≠ dx) → s.heap.get? b = some ob → h'.get? b = some ob := fun b ob hb hd x => kp b ob hb (fun o₀ dx y z => hd dx (by rw [a] at y; cases y; exact z)) x
 refine hq h' tk' ⟨F.ns.at' fun o' x => kp' _ _ (Ne.symm hL) (fun dx hd => Ne.symm (offd dx hd).2) x, fun b ob x => kp' _ _ (fun z => by rw [z, he] at x; cases x) (fun dx hd z => by rw [z, (offd dx hd).1] at x; cases x) (F.keep _ _ x), F.above⟩ ⟨o₁, T, a₁, b₁.trans b, c₁.trans c, sl₁.trans sl, .inr ?_⟩
 obtain ⟨o₂, a₂, _, _, dct₂⟩ := I'
 rw [a₁] at a₂
 cases a₂
 rcases dct₂ with ⟨z, z2⟩ | ⟨d, z, z1, z2⟩
 ·have := z2 name
  simp at this
 ·refine ⟨d, z, z1, ?_, ?_, z2⟩
  all_goals rcases dct with ⟨y, _⟩ | ⟨d', y, _, y2, y3, _⟩
  ·obtain ⟨dx, e1, e2⟩ := dn y
   rw [z] at e1; cases e1
   exact Heap.none_keep F.keep e2
  ·have := ds d' y
   rw [z] at this; cases this
   exact y2
  ·obtain ⟨dx, e1, e2⟩ := dn y
   rw [z] at e1; cases e1
   rintro rfl
   obtain ⟨ol, hl⟩ := frHas F
   rw [e2] at hl; cases hl
  ·have := ds d' y
   rw [z] at this; cases this
   exact y3
end
theorem meta_Exc : typeOf (.type "Exception") = pure (.type "type") := by kernel_rfl
example : True := by
 k_with "getMethod type:Exception" =>
  (k_here; refine' method_type ?F ?X ?m (by decide +kernel) ?e ?h ?_; (case F => k_asm); (case X => k_asm); (case m => exact meta_Exc); (case e => k_dflt k_is); (case h => k_handed))
 trivial
theorem frBut {g h h' : Heap} {L e : Addr} {m : Str → Option Value} (F : Fr g L h m) (he : g.get? e = none) (hL : e ≠ L) (k : ∀ b o, b ≠ e → h.get? b = some o → h'.get? b = some o) : Fr g L h' m :=
 ⟨F.ns.at' fun o x => k _ _ (Ne.symm hL) x, fun b o x => k _ _ (fun q => by rw [q, he] at x; cases x) (F.keep _ _ x), F.above⟩
theorem News.at {g h : Heap} {L : Addr} {l : List (Addr × Obj)} {p : Addr × Obj} (N : News g L h l) (hp : p ∈ l) : h.get? p.1 = some p.2 := (N p hp).1
noncomputable abbrev excBm : List Value := [.type "Exception", .type "BaseException", .type "object"]
theorem ref_bm (self : Value) : refuseLoop self "__setattr__" excBm = pure () := PySem.F.store_Exception.passes self
inductive ExcC (K : Frag) (C : Addr) : Prop
 | mk : ∀ nm q N bs sn sub ab col dd k0 k1 k2 k3 k5 newId, K.lookup C = some (excClassObj nm q C N bs (.ref 39 :: excBm) true sn sub ab col dd k0 k1 k2 k3 k5 newId) → (Value.ref C :: .ref 39 :: excBm).contains (.type "Exception") = true → mroIn K C (.type "object") = some true →
  findIn K (.ref C) "__setattr__" = some (some (.builtin "object.__setattr__")) → findIn K (.ref C) "message" = some none → findIn K (.ref C) "spot" = some none → ExcC K C
structure CxH (w : World) (p : Program) (loose : List Str) (mean : ExcName → Option Value) (mg mb : Str → Option Value) (A A₀ : Around) (base h₀ : Heap) (outer : List Env) (env : Env) (L : Addr) (m : Str → Option Value) (h : Heap) (nd nu : Nat) : Prop where
 B : Below A₀ base outer h₀
 F : Fr h₀ L h m
 X : (hd.heap_1 w.params).In h₀
 T : Top p loose mean mg mb h₀
 hA : A.frames = some (env :: outer)
 hf : env.frame = some L
 hk : env.scope.kind = .function
 hd : A.depth + nd < recursionLimit
 hu : A.units + nu < cLine
theorem Cx.toH {w : World} {p : Program} {loose : List Str} {mean : ExcName → Option Value} {mg mb : Str → Option Value} {A A₀ : Around} {base h₀ : Heap} {outer : List Env} {env : Env} {L : Addr} {m : Str → Option Value} {h : Heap} {nd nu : Nat}
  (C : Cx w p loose mean mg mb A A₀ base h₀ outer env L m h nd nu) : CxH w p loose mean mg mb A A₀ base h₀ outer env L m h nd nu := ⟨C.B, C.F, C.X, C.T, C.hA, C.hf, C.hk, C.hd, C.hu⟩
theorem init_w {C e tp : Addr} {msg : PySem.Str} {t : Tok} {rest : List Value} (hrest : rest = [] ∨ ∃ v, rest = [v]) (hC : C = 52 ∨ C = 64) (CC : CxH w p loose mean mg mb A A₀ base h₀ outer env L m s.heap 5 20)
  (N : News h₀ L s.heap [(e, { cls := .ref C, data := .fields #[.ref tp, .none, .none, .none, .bool false, .none] })])
  (ret : ∀ h' tk' mA, (∀ b o, b ≠ e → s.heap.get? b = some o → h'.get? b = some o) → Fr h₀ L h' m → (∃ L', FaultAt (hideAll s.heap [e]) h' L' e C mA) → mA "message" = some (.str msg t) → Q .none { s with heap := h', toks := tk' }) :
  wpAny (model PR w) A (PySem.call (.ref (36 : Nat)) (.ref e :: .str msg t :: rest)) Q E s := by
 refine @disc _ ?y ?e
 case e =>
 haveI h : @Eq (PLift _) (PLift.up (by
 k_fill
 obtain ⟨B, F, X, T, hA, hf, hke, hdp, hun⟩ := CC
 revert hrest hC N ret B F X T hA hf hke hdp hun
 revert C e tp msg t rest
 k_extra "rv"
 refine no_implicit_lambda% (clZ (cPm cZ.L.N.S.N.N.N) ?_)
 k_extra "ld"
 refine gZ6 ?_
 intro zc0 C e tp msg t rest
 clear_value C e tp msg t rest
 intros hrest hC N ret B F X T hA hf hke hdp hun
 have EC : ExcC (hd.heap_1 w.params) C := by rcases hC with rfl | rfl <;> exact ⟨_, _, _, _, _, _, _, _, _, _, _, _, _, _, _, by k_is, by decide +kernel, by k_is, by k_is, by k_is, by k_is⟩
 obtain ⟨nm, q, ac, bs, sn, sub, ab, col, dd, c0, c1, c2, c3, c5, newId, hK, hcB, hob, hsa, hf1, hf2⟩ := EC
 rcases hrest with rfl | ⟨sv, rfl⟩
 ·
  rename_i u1_0
  revert hK
  revert nm q ac bs sn sub ab col dd c0 c1 c2 c3 c5 newId
  refine no_implicit_lambda% (clZ cZ.g.v.v.v.v.v.o.b.B.L.t.L.N.S.S ?_)
  refine fZ8 ?_
  intro zc1_0 nm q ac bs sn sub ab col
  clear_value nm q ac bs sn sub ab col
  refine gZ7 ?_
  intro zc1 dd c0 c1 c2 c3 c5 newId
  clear_value dd c0 c1 c2 c3 c5 newId
  intros hK
  k_extra "c1"
  have he0 : G'.get? e = none := (N' _ (.head _)).2.2
  have hL0 : e ≠ L' := (N' _ (.head _)).2.1
  k_steps
  refine call_exc_init PySem.F.excBase_Exception hcB ((X'.keeps (Fr.keep ‹_›)) C _ hK) (News.at ‹_› (.head _)) rfl rfl rfl (by rw [sizeLine_eq]; simp) ?_
  refine clZ cZ.N.H ?_; refine gZ2 ?_; intro zc h1 T1; clear_value h1 T1; clear zc; intro k1 e1 n1
  have F1 := frBut ‹_› he0 hL0 k1
  have N1 : News G' L' h1 [] := News.nil
  have I1 : FaultAt G' h1 L' e C (fun _ => none) := ⟨_, T1, e1, rfl, rfl, rfl, .inl ⟨rfl, fun _ => rfl⟩⟩
  k_steps
  refine set_fault (name := "message") F1 hL0 he0 X' ((X'.keeps F1.keep) C _ hK) (fun self => by rw [refuseLoop_ref, refuseLoop_ref]; exact ref_bm self) hob hsa hf1 I1 ?_ PySem.Within.nil (by decide)
  refine clZ cZ.N.H ?_; refine gZ2 ?_; intro zc h2 tk2; clear_value h2 tk2; clear zc; intro F2 I2
  have N2 : News G' L' h2 [] := News.nil
  k_steps
  refine set_fault (name := "spot") F2 hL0 he0 X' ((X'.keeps F2.keep) C _ hK) (fun self => by rw [refuseLoop_ref, refuseLoop_ref]; exact ref_bm self) hob hsa hf2 I2 ?_ (PySem.Within.cons _ _ PySem.Within.nil) (by decide)
  refine clZ cZ.N.H ?_; refine gZ2 ?_; intro zc h3 tk3; clear_value h3 tk3; clear zc; intro F3 I3
  have N3 : News G' L' h3 [] := News.nil
  k_steps
  subst eG'
  refine ret _ _ _ (fun b o hb x => F3.keep _ _ (hideAll_get _ x ?_)) ‹_› ⟨_, I3⟩ (by exact rfl)
  intro hm; exact hb (List.mem_singleton.mp hm)
 ·
  rename_i u2_0
  revert hK
  revert nm q ac bs sn sub ab col dd c0 c1 c2 c3 c5 newId sv
  refine no_implicit_lambda% (clZ cZ.V.g.v.v.v.v.v.o.b.B.L.t.L.N.S.S ?_)
  refine fZ8 ?_
  intro zc2_0 nm q ac bs sn sub ab col
  clear_value nm q ac bs sn sub ab col
  refine gZ8 ?_
  intro zc2 dd c0 c1 c2 c3 c5 newId sv
  clear_value dd c0 c1 c2 c3 c5 newId sv
  intros hK
  k_extra "c1"
  have he0 : G'.get? e = none := (N' _ (.head _)).2.2
  have hL0 : e ≠ L' := (N' _ (.head _)).2.1
  k_steps
  refine call_exc_init PySem.F.excBase_Exception hcB ((X'.keeps (Fr.keep ‹_›)) C _ hK) (News.at ‹_› (.head _)) rfl rfl rfl (by rw [sizeLine_eq]; simp) ?_
  refine clZ cZ.N.H ?_; refine gZ2 ?_; intro zc h1 T1; clear_value h1 T1; clear zc; intro k1 e1 n1
  have F1 := frBut ‹_› he0 hL0 k1
  have N1 : News G' L' h1 [] := News.nil
  have I1 : FaultAt G' h1 L' e C (fun _ => none) := ⟨_, T1, e1, rfl, rfl, rfl, .inl ⟨rfl, fun _ => rfl⟩⟩
  k_steps
  refine set_fault (name := "message") F1 hL0 he0 X' ((X'.keeps F1.keep) C _ hK) (fun self => by rw [refuseLoop_ref, refuseLoop_ref]; exact ref_bm self) hob hsa hf1 I1 ?_ PySem.Within.nil (by decide)
  refine clZ cZ.N.H ?_; refine gZ2 ?_; intro zc h2 tk2; clear_value h2 tk2; clear zc; intro F2 I2
  have N2 : News G' L' h2 [] := News.nil
  k_steps
  refine set_fault (name := "spot") F2 hL0 he0 X' ((X'.keeps F2.keep) C _ hK) (fun self => by rw [refuseLoop_ref, refuseLoop_ref]; exact ref_bm self) hob hsa hf2 I2 ?_ (PySem.Within.cons _ _ PySem.Within.nil) (by decide)
  refine clZ cZ.N.H ?_; refine gZ2 ?_; intro zc h3 tk3; clear_value h3 tk3; clear zc; intro F3 I3
  have N3 : News G' L' h3 [] := News.nil
  k_steps
  subst eG'
  refine ret _ _ _ (fun b o hb x => F3.keep _ _ (hideAll_get _ x ?_)) ‹_› ⟨_, I3⟩ (by exact rfl)
  intro hm; exact hb (List.mem_singleton.mp hm))) ?y := by k_extra "cv"
 k_extra "zz"
def MadeF (h h' : Heap) (e C : Addr) (msg : PySem.Str) : Prop :=
 h.get? e = none ∧ ∃ (T d : Addr) (mA : Str → Option Value) (t : Tok), h'.get? e = some { cls := .ref C, dict := some d, data := .fields #[.ref T, .none, .none, .none, .bool false, .none] } ∧ d ≠ e ∧ h.get? d = none ∧ h'.Ns1 d mA ∧ mA "message" = some (.str msg t)
section
variable {M : Model} {A : Around} {E : Value → Shared → Prop} {env : Env} {s : Shared}
variable {nm q : Str} {C N : Addr} {bs bm : List Value} {hdct : Bool} {sn : List Str} {sub : List Value} {ab : Bool} {col : Option Bool} {dd : Option Addr} {k0 k1 k2 k3 k5 : Option Value} {newId : String}
theorem raise_made {x : Sem Value} {Q : Flow → Shared → Prop} (hbase : bm.contains (.type "BaseException") = true) (hh : A.handled = none)
  (h : wpAny M A x (fun v s₁ => ∃ e T d, v = .ref e ∧ s₁.heap.get? C = some (excClassObj nm q C N bs bm hdct sn sub ab col dd k0 k1 k2 k3 k5 newId) ∧
   s₁.heap.get? e = some { cls := .ref C, dict := some d, data := .fields #[.ref T, .none, .none, .none, .bool false, .none] } ∧ E (.ref e) s₁) E s) :
  wpAny M A (raiseStmt env (some x) none) Q E s := by
 have hcB : (Value.ref C :: bm).contains (.type "BaseException") = true := by rw [List.contains_cons, hbase, Bool.or_true]
 unfold raiseStmt
 refine wpAny_bind (wpAny_mono h (fun v s₁ h₁ => ?_) fun _ _ x => x)
 obtain ⟨e, T, d, rfl, hC, he, hE⟩ := h₁
 obtain ⟨hp, g, d, tk, os⟩ := s₁
 repeat (first | with_reducible refine wpAny_loadPart_at he ?_ | with_reducible refine wpAny_loadPart_at hC ?_ | (with_reducible refine wpAny_isSubtype_exc hC ?_; rw [hcB]) | k_extra "ws")
 exact wpAny_raiseNew_none hh hE
theorem raise_exec {x : PySem.Expr} {pos : Pos} {Q : Flow → Shared → Prop} (hbase : bm.contains (.type "BaseException") = true) (hh : A.handled = none)
  (h : wpAny M A (eval x env) (fun v s₁ => ∃ e T d, v = .ref e ∧ s₁.heap.get? C = some (excClassObj nm q C N bs bm hdct sn sub ab col dd k0 k1 k2 k3 k5 newId) ∧
   s₁.heap.get? e = some { cls := .ref C, dict := some d, data := .fields #[.ref T, .none, .none, .none, .bool false, .none] } ∧ E (.ref e) s₁) E s) :
  wpAny M A (exec (.Raise (some x) none pos) env) Q E s := by
 rw [arm_exec_Raise]
 show wpAny M A (do standAt pos; raiseStmt env (some (do let v ← eval x env; standAt pos; pure v)) none) Q E s
 exact wpAny_bind (wpAny_standAt (raise_made hbase hh (wpAny_bind (wpAny_mono h (fun v s₁ h₁ => wpAny_bind (wpAny_standAt (wpAny_pure h₁))) fun _ _ x => x))))
end
theorem fault_wH {C : Addr} {msg : PySem.Str} {t : Tok} {rest : List Value} (hrest : rest = [] ∨ ∃ v, rest = [v]) (hC : C = 52 ∨ C = 64) (CC : CxH w p loose mean mg mb A A₀ base h₀ outer env L m s.heap 7 25)
  (ret : ∀ e h' tk', s.heap.StaysIn h' → Fr h₀ L h' m → MadeF s.heap h' e C msg → Q (.ref e) { s with heap := h', toks := tk' }) :
  wpAny (model PR w) A (PySem.call (.ref C) (.str msg t :: rest)) Q E s := by
 refine @disc _ ?y ?e
 case e =>
 haveI h : @Eq (PLift _) (PLift.up (by
 k_fill
 obtain ⟨B, F, X, T, hA, hf, hke, hdp, hun⟩ := CC
 revert hrest hC ret B F X T hA hf hke hdp hun
 revert C msg t rest
 k_extra "rv"
 refine no_implicit_lambda% (clZ (cPm cZ.L.N.S.N) ?_)
 k_extra "ld"
 refine gZ4 ?_
 intro zc0 C msg t rest
 clear_value C msg t rest
 intros hrest hC ret B F X T hA hf hke hdp hun
 have hlen : (Value.str msg t :: rest).length ≤ sizeLine := by rw [sizeLine_eq]; rcases hrest with rfl | ⟨sv, rfl⟩ <;> simp
 have fin : ∀ h' e, Heap.MadeExcOf s.heap h' e (.ref C) (.str msg t :: rest) → wpAny (model PR w) (A.under (.builtin "type.__call__" ⟨.ref C :: .str msg t :: rest, []⟩)) (PySem.call (.ref (36 : Nat)) (.ref e :: .str msg t :: rest)) (fun r s' => r = .none ∧ Q (.ref e) s') E { s with heap := h' } := by
  intro h' e hm
  obtain ⟨tp, he, htn, ht⟩ := hm.there
  have F1 : Fr h₀ L h' m := F.keeps hm.keeps
  have heL : e ≠ L := by
   rintro rfl
   obtain ⟨o, q⟩ := frHas F
   rw [hm.new] at q; cases q
  have N1 : News h₀ L h' [(e, { cls := .ref C, data := .fields #[.ref tp, .none, .none, .none, .bool false, .none] })] := fun q hq => by
   rw [List.mem_singleton.mp hq]; exact ⟨he, heL, Heap.none_keep F.keep hm.new⟩
  refine init_w (s := { s with heap := h' }) hrest hC ⟨B, F1, X, T, ?_, hf, hke, ?_, ?_⟩ N1 ?_
  ·exact hA
  ·rw [depth_under_make]; omega
  ·rw [units_under_make]; omega
  intro h2 tk2 mA k2 F2 I2 hmsg
  obtain ⟨L2, ⟨o, T2, a, b, c, sl, dct⟩⟩ := I2
  refine ⟨rfl, ret e h2 tk2 (fun b o x => k2 b o (fun z => by rw [z, hm.new] at x; cases x) (hm.keeps _ _ x)) F2 ⟨hm.new, ?_⟩⟩
  rcases dct with ⟨_, z⟩ | ⟨d, z, z1, z2, _, z4⟩
  ·rw [z] at hmsg; cases hmsg
  ·obtain ⟨oc, od, odt, osl⟩ := o
   dsimp only at b c sl z
   subst b c sl z
   refine ⟨T2, d, mA, t, a, z1, ?_, z4, hmsg⟩
   cases hh : s.heap.get? d with
   | none => rfl
   | some ob => have := hideAll_get [e] (hm.keeps _ _ hh) (fun hx => z1 (List.mem_singleton.mp hx)); rw [z2] at this; cases this
 obtain ⟨hp, g, d, tk, os⟩ := s
 rcases hC with rfl | rfl
 ·have hCC := (X.keeps F.keep) 52 _ (by k_is)
  refine mk_call PySem.F.excBase_Exception ?b1 ?b2 ?b3 (X.keeps F.keep) hCC (by k_is) (by k_is) fin hlen
  all_goals decide +kernel
 ·have hCC := (X.keeps F.keep) 64 _ (by k_is)
  refine mk_call PySem.F.excBase_Exception ?c1 ?c2 ?c3 (X.keeps F.keep) hCC (by k_is) (by k_is) fin hlen
  all_goals decide +kernel)) ?y := by k_extra "cv"
 k_extra "zz"
theorem fault_w {C : Addr} {msg : PySem.Str} {t : Tok} {rest : List Value} (hrest : rest = [] ∨ ∃ v, rest = [v]) (hC : C = 52 ∨ C = 64) (CC : Cx w p loose mean mg mb A A₀ base h₀ outer env L m s.heap 7 25)
  (ret : ∀ e h' tk', s.heap.StaysIn h' → Fr h₀ L h' m → MadeF s.heap h' e C msg → Q (.ref e) { s with heap := h', toks := tk' }) :
  wpAny (model PR w) A (PySem.call (.ref C) (.str msg t :: rest)) Q E s := fault_wH hrest hC CC.toH ret
abbrev Flies (base G : Heap) (l : List Env) (e C : Addr) (h : Heap) : Prop := RaisedSN base G l e (.ref C) [] h
theorem frame_mem {env : Env} {outer : List Env} {L b : Addr} (hf : env.frame = some L) (hm : b ∈ (env :: outer).filterMap (·.frame)) : b = L ∨ b ∈ outer.filterMap (·.frame) := by
 rw [List.filterMap_cons, hf] at hm
 exact List.mem_cons.mp hm
section
variable {M : Model} {A : Around} {E : Value → Shared → Prop} {s' : Shared} {base g g₂ h : Heap} {outer : List Env} {env : Env} {L e C : Addr} {m : Str → Option Value} {Q : Unit → Shared → Prop} {msg : PySem.Str}
theorem fly_new (K : Below A base outer g) (F : Fr g L h m) (hf : env.frame = some L) (hk : env.scope.kind = .function) (hst : h.StaysIn s'.heap) (hx : MadeF h s'.heap e C msg)
  (hQ : ∀ h', Flies base g outer e C h' → g.UpToSlots h' → Q () { s' with heap := h' }) : wpAny M (A.deeper env) (leaving env (.ref e)) Q E s' := by
 refine @disc _ ?y ?e
 case e =>
 haveI h : @Eq (PLift _) (PLift.up (by
 revert K F hf hk hst hx hQ
 revert M A E s' base g h outer env L e C m Q msg
 refine no_implicit_lambda% (clZ cZ.S.U.M.N.N.N.e.z.H.H.H.s.Q.A.D ?_)
 refine fZ8 ?_
 intro zc0_0 M A E s' base g h outer
 clear_value M A E s' base g h outer
 refine gZ7 ?_
 intro zc0 env L e C m Q msg
 clear_value env L e C m Q msg
 intros K F hf hk hst hx hQ
 have K' := pushX K F hf hk
 obtain ⟨hen, T, d, mA, t, he, -, -, -, -⟩ := hx
 have hid : ∀ b o, h.get? b = some o → b ∉ (env :: outer).filterMap (·.frame) → (hideAll h ((env :: outer).filterMap (·.frame))).get? b = some o := fun b o q n => hideAll_get _ q n
 have inF : ∀ env' ∈ env :: outer, ∀ b, env'.frame = some b → b ∈ (env :: outer).filterMap (·.frame) := fun env' he' b hb => List.mem_filterMap.mpr ⟨env', he', hb⟩
 have stB : base.StaysIn (hideAll h ((env :: outer).filterMap (·.frame))) := fun b o q => hid b o (K'.stays b o q) fun hm => by
  rw [(K'.frames.mem hm).1] at q; cases q
 have stG : ∀ b o, g.get? b = some o → b ∉ outer.filterMap (·.frame) → (hideAll h ((env :: outer).filterMap (·.frame))).get? b = some o := fun b o q nm => hid b o (F.keep b o q) fun hm => by
  rcases frame_mem hf hm with z | z
  ·rw [z, kts_self F] at q; cases q
  ·exact nm z
 have hen' : (hideAll h ((env :: outer).filterMap (·.frame))).get? e = none := by
  cases q : (hideAll h ((env :: outer).filterMap (·.frame))).get? e with
  | none => rfl
  | some o => have := of_hideAll _ q; rw [hen] at this; cases this
 refine wpAny_leaving_firstW (a0 := .ref T) K'.stack ((funFrames_hide K'.frames inF).of_keeps fun b o hb _ => ⟨o, hst b o hb, rfl⟩) hf he (fun b o hb => hst b o (of_hideAll _ hb)) hen' rfl rfl rfl fun h' hL => ?_
 revert he hL
 revert T d mA t h'
 refine no_implicit_lambda% (clZ cZ.H.N.M.N.N ?_)
 refine gZ5 ?_
 intro zc1 T d mA t h'
 clear_value T d mA t h'
 intros he hL
 obtain ⟨k1, ⟨_, _, k2⟩, k3, k4⟩ := hL
 exact hQ h' ⟨_, .ref T, stB, stG, (fun q hq => nomatch hq), k1, hen', k2, k3⟩ (((Heap.UpToSlots.of_keeps F.keep).trans (Heap.UpToSlots.of_keeps hst)).trans k4))) ?y := by k_extra "cv"
 k_extra "zz"
theorem fly_on (K : Below A base outer g) (F : Fr g L g₂ m) (hf : env.frame = some L) (R : Flies base g₂ (env :: outer) e C s'.heap) (hsm : g₂.UpToSlots s'.heap)
  (hQ : ∀ h', Flies base g outer e C h' → g.UpToSlots h' → Q () { s' with heap := h' }) : wpAny M (A.deeper env) (leaving env (.ref e)) Q E s' := by
 obtain ⟨B, a0, hB, hBG, -, hfl⟩ := R
 refine wpAny_leaves_onW (Around.frames_deeper K.stack) hf hfl fun h' x1 x2 => hQ h' ⟨B, a0, hB, fun b o q nm => hBG b o (F.keep b o q) fun hm => ?_, (fun q hq => nomatch hq), x1⟩ ((Heap.UpToSlots.of_keeps F.keep).trans (hsm.trans x2))
 rcases frame_mem hf hm with z | z
 ·rw [z, kts_self F] at q; cases q
 ·exact nm z
end
section
variable {w : World} {A : Around} {E : Value → Shared → Prop} {env : Env} {s : Shared} {g : Heap}
inductive FaultPost (g : Heap) (C : Addr) (E : Value → Shared → Prop) (v : Value) (s₁ : Shared) : Prop
 | mk : ∀ e h₁ msg, (v = .ref e) → (g.StaysIn s₁.heap) → (MadeF h₁ s₁.heap e C msg) → (E (.ref e) s₁) → FaultPost g C E v s₁
theorem raise_K {C : Addr} {x : PySem.Expr} {pos : Pos} {Q : Flow → Shared → Prop} (hC : C = 52 ∨ C = 64) (X : (hd.heap_1 w.params).In g) (hh : A.handled = none)
  (h : wpAny (model PR w) A (eval x env) (FaultPost g C E) E s) :
  wpAny (model PR w) A (exec (.Raise (some x) none pos) env) Q E s := by
 refine @disc _ ?y ?e
 case e =>
 haveI h : @Eq (PLift _) (PLift.up (by
 k_fill
 revert hC X hh h
 revert w A E env s g C x pos Q
 refine no_implicit_lambda% (clZ cZ.F.p.E.N.H.s.e.Q.A.W ?_)
 refine fZ8 ?_
 intro zc0_0 w A E env s g C x
 clear_value w A E env s g C x
 refine gZ2 ?_
 intro zc0 pos Q
 clear_value pos Q
 intros hC X hh h
 have q : ktsIn (hd.heap_1 w.params) C "BaseException" = true := by rcases hC with rfl | rfl <;> kts_isx
 obtain ⟨nm, qn, N, bs, bm, hdct, sn, sub, ab, col, dd, k0, k1, k2, k3, k5, newId, hg, hb, _⟩ := kts_cls X q
 refine raise_exec (C := C) (nm := nm) (q := qn) (N := N) (bs := bs) (bm := bm) (hdct := hdct) (sn := sn) (sub := sub) (ab := ab) (col := col) (dd := dd) (k0 := k0) (k1 := k1) (k2 := k2) (k3 := k3) (k5 := k5) (newId := newId) hb hh (wpAny_mono h (fun v s₁ h₁ => ?_) fun _ _ x => x)
 obtain ⟨e, h₁, msg, rfl, st, ⟨_, T, d, mA, t, he, _⟩, hE⟩ := h₁
 exact ⟨e, T, d, rfl, st _ _ hg, he, hE⟩)) ?y := by k_extra "cv"
 k_extra "zz"
end
inductive WAt (w : World) (h : Heap) (wo : Addr) (rows : List Row) (tk : Option Kind) : Prop
 | mk : ∀ (a1 a2 ds dt li a3 a4 : Addr) (xs : List Value) (kvs tvs : List (PySem.Str × Value)), (Inst h wo 793 (wdF a1 a2 ds dt li a3 a4)) → (h.IsList li xs.toArray) → (xs.length = rows.length) → ((∀ i v, xs[i]? = some v → ∃ r, rows[i]? = some r ∧ ImplAt w h v i r)) → (DictAt w h ds kvs) → (SigsAt w h kvs rows) → (DictAt w h dt tvs) → (((tk = none ∧ tvs = []) ∨ ∃ k tv, tk = some k ∧ tvs = [(PySem.Str.ofString "A", tv)] ∧ TraitAt w h tv k)) → (rows.length ≤ 30) → WAt w h wo rows tk
theorem SigsAt.keeps {w : World} {h h' : Heap} {kvs : List (PySem.Str × Value)} {rows : List Row} (k : h.StaysIn h') (x : SigsAt w h kvs rows) : SigsAt w h' kvs rows := fun i r e => let ⟨sv, a, b⟩ := x i r e; ⟨sv, a, b.keeps k⟩
theorem WAt.keeps {w : World} {h h' : Heap} {wo : Addr} {rows : List Row} {tk : Option Kind} (k : h.StaysIn h') (x : WAt w h wo rows tk) : WAt w h' wo rows tk := by
 obtain ⟨a1, a2, ds, dt, li, a3, a4, xs, kvs, tvs, I, l, n, r, d, sg, t, tr, z⟩ := x
 refine ⟨a1, a2, ds, dt, li, a3, a4, xs, kvs, tvs, I.keeps k, l.at fun _ e => k _ _ e, n, fun i v e => let ⟨r', a, b⟩ := r i v e; ⟨r', a, b.keeps k⟩, d.keeps k, sg.keeps k, t.keeps k, tr.imp id fun ⟨k', tv, a, b, c⟩ => ⟨k', tv, a, b, c.keeps k⟩, z⟩
theorem WAt.fr {w : World} {g h : Heap} {L : Addr} {m : Str → Option Value} {wo : Addr} {rows : List Row} {tk : Option Kind} (F : Fr g L h m) (x : WAt w g wo rows tk) : WAt w h wo rows tk := x.keeps F.keep
theorem strsNil {vs : List Value} (S : StrsAre vs []) : vs = [] := by cases S; rfl
example : True := by
 k_with "exec For Name Call cons nil" =>
  (k_here; k_dflt (refine for_nil ‹_› ?_))
 k_with "call builtin:sorted" =>
  (
   refine sorted_dict ‹_› ‹_› ‹_› ‹_› (by simp) ?_
   refine clZ cZ.N.H.N.L.N ?_; refine gZ5 ?_; intro zc B9 vs9 c9 h9 tk9; clear_value B9 vs9 c9 h9 tk9; clear zc; intro F9 N9 n9 S9
   (try simp only [List.forall_mem_cons, List.forall_mem_nil, and_true] at n9)
   obtain rfl := strsNil S9)
 k_with "NilSrc" =>
  (refine ⟨_, _, _, rfl, by assumption, by assumption, by assumption, News.isList ‹_› (by k_mem), ?_⟩; refine clZ cZ.H ?_; refine gZ1 ?_; intro zc h'; clear_value h'; clear zc; intro F' N')
 trivial
theorem of_traits0_w (C : Cx w p loose mean mg mb A A₀ base h₀ outer env L m s.heap 60 500) {y sel wo li a1 a2 ds dt a3 a4 : Addr} {tn : Tok} {vt : Value}
  (J : Inst s.heap y 224 [("world", .ref wo), ("name", st "go" tn), ("selection", .ref sel)]) (W : Inst s.heap wo 793 (wdF a1 a2 ds dt li a3 a4)) (hdt : DictAt w s.heap dt [])
  (ret0 : ∀ (a : Addr) (n : Nat) (h' : Heap) (tk' : Nat), s.heap.StaysIn h' → Fr h₀ L h' m → Fresh s.heap h' a (PySem.W.listOf #[] n) → Q (.ref a) { s with heap := h', toks := tk' }) :
  wpAny (model PR w) A (PySem.call (.ref (214 : Nat)) [.ref y, vt]) Q E s := by
 refine @disc _ ?y ?e
 case e =>
 haveI h : @Eq (PLift _) (PLift.up (by
 k_fill
 revert C J W hdt ret0
 revert y sel wo li a1 a2 ds dt a3 a4 tn vt
 k_extra "rv"
 refine no_implicit_lambda% (clZ (cPm cZ.V.N.N.N.N.N.N.N.N.N.N.N) ?_)
 k_extra "ld"
 refine fZ8 ?_
 intro zc0_0 y sel wo li a1 a2 ds dt
 clear_value y sel wo li a1 a2 ds dt
 refine gZ4 ?_
 intro zc0 a3 a4 tn vt
 clear_value a3 a4 tn vt
 intros C J W hdt ret0
 k_extra "oC"
 k_extra "c0"
 k_steps
 exact ret0 _ _ _ _ (Fr.keep ‹_›) ‹_› (newsFrsh ‹_› (by k_mem)))) ?y := by k_extra "cv"
 k_extra "zz"
inductive TrAt (g h : Heap) (ok : Addr → Prop) (rows : List Row) (tkd : Option Kind) (t : Ty) : Value → Prop
 | no {a : Addr} {n : Nat} : (∀ k u, tkd = some k → selfOf k t = some u → ¬ rows.any (isHit u) = true) → Fresh g h a (PySem.W.listOf #[] n) → TrAt g h ok rows tkd t (.ref a)
 | one {a c : Addr} {n : Nat} {t1 t2 t3 : Tok} {k : Kind} {u : Ty} {x : Value} : tkd = some k → selfOf k t = some u → rows.any (isHit u) = true → TyAt ok g x u → Fresh g h a (PySem.W.listOf #[.ref c] n) → Fresh g h c { cls := .type "tuple", data := .seq #[st "trait" t1, st "A" t2, st "go" t3, x] } → TrAt g h ok rows tkd t (.ref a)
theorem TrAt.all {g h : Heap} {ok : Addr → Prop} {rows : List Row} {tkd : Option Kind} {t : Ty} {R : Value → Prop} (k0 : ∀ a n, (∀ k u, tkd = some k → selfOf k t = some u → ¬ rows.any (isHit u) = true) → Fresh g h a (PySem.W.listOf #[] n) → R (.ref a))
  (k1 : ∀ a c n t1 t2 t3 k u x, tkd = some k → selfOf k t = some u → rows.any (isHit u) = true → TyAt ok g x u → Fresh g h a (PySem.W.listOf #[.ref c] n) → Fresh g h c { cls := .type "tuple", data := .seq #[st "trait" t1, st "A" t2, st "go" t3, x] } → R (.ref a)) : ∀ r, TrAt g h ok rows tkd t r → R r
 | _, .no a b => k0 _ _ a b
 | _, .one a b c d e f => k1 _ _ _ _ _ _ _ _ _ a b c d e f
theorem TrAt.any {g h : Heap} {ok : Addr → Prop} {rows : List Row} {tkd : Option Kind} {t : Ty} {R : Value → Prop} (k : ∀ a o, Fresh g h a o → R (.ref a)) (r : Value) (x : TrAt g h ok rows tkd t r) : R r :=
 TrAt.all (fun a _ _ f => k a _ f) (fun a _ _ _ _ _ _ _ _ _ _ _ _ f _ => k a _ f) r x
theorem traits_w (C : Cx w p loose mean mg mb A A₀ base h₀ outer env L m s.heap 60 500) {y sel wo bd : Addr} {tn : Tok} {vt : Value} {t : Ty} {tkd : Option Kind} {rows : List Row} {ok : Addr → Prop}
  (J : Inst s.heap y 224 [("world", .ref wo), ("name", st "go" tn), ("selection", .ref sel)]) (S : Inst s.heap sel 161 [("world", .ref wo), ("bounds", .ref bd)]) (W : WAt w s.heap wo rows tkd) (tt : TyAt ok s.heap vt t) (htp : t.hasParam = false)
  (ret : ∀ v h' tk', TrAt s.heap h' ok rows tkd t v → s.heap.StaysIn h' → Fr h₀ L h' m → Q v { s with heap := h', toks := tk' }) :
  wpAny (model PR w) A (PySem.call (.ref (214 : Nat)) [.ref y, vt]) Q E s := by
 refine @disc _ ?y ?e
 case e =>
 haveI h : @Eq (PLift _) (PLift.up (by
 obtain ⟨a1, a2, ds, dt, li, a3, a4, xs, kvs, tvs, I, l, n, r, d, sg, td, tr, z⟩ := W
 revert C J S tt htp ret I l n r d sg td tr z
 revert y sel wo bd tn vt t tkd rows ok a1 a2 ds dt li a3 a4 xs kvs tvs
 k_extra "rv"
 refine no_implicit_lambda% (clZ (cPm cZ.k.k.L.N.N.N.N.N.N.N.P.Rs.Ko.T.V.N.N.N.N.N) ?_)
 k_extra "ld"
 refine fZ8 ?_
 intro zc0_0 y sel wo bd tn vt t tkd
 clear_value y sel wo bd tn vt t tkd
 refine fZ8 ?_
 intro zc0_1 rows ok a1 a2 ds dt li a3
 clear_value rows ok a1 a2 ds dt li a3
 refine gZ4 ?_
 intro zc0 a4 xs kvs tvs
 clear_value a4 xs kvs tvs
 intros C J S tt htp ret I l n r d sg td tr z
 rcases tr with ⟨rfl, rfl⟩ | ⟨k, tv, rfl, rfl, ta⟩
 ·exact of_traits0_w C J I td fun a n h' tk' e1 e2 e3 => ret _ _ _ (.no (fun k u e => nomatch e) e3) e1 e2
 ·refine of_traits_w (tA := 0) C J S I l n r td ta z tt htp (fun a n h' tk' q e1 e2 e3 => ret _ _ _ (.no (fun k' u e => ?_) e3) e1 e2) fun a c n t1 t2 t3 u x h' tk' e1 e2 e3 e4 e5 e6 e7 => ret _ _ _ (.one rfl e1 e2 e3 e6 e7) e4 e5
  cases e; exact q u)) ?y := by k_extra "cv"
 k_extra "zz"
theorem rangeSize_nat (n : Nat) : Builtin.Range.rangeSize 0 (n : Int) 1 = (n : Int) := by
 unfold Builtin.Range.rangeSize
 split
 ·split <;> omega
 ·omega
theorem range_small {n : Nat} (h : n ≤ 30) : Builtin.Range.small 0 (n : Int) 1 = true := by
 have : ∀ n : Nat, n ≤ 30 → Builtin.Range.small 0 (n : Int) 1 = true := by decide +kernel
 exact this n h
section
variable {prog : Program} {w : World} {A : Around} {E : Value → Shared → Prop} {s : Shared} {g : Heap} {env : Env}
def NoCode (o : Obj) : Prop := ∀ vs q t, o.data = .fields vs → vs[1]? ≠ some (.str q t)
theorem itR_noCode {x l : Int} : NoCode (itR x l) := fun vs q t e h => by
 injection e with e
 subst e
 cases h
inductive RangeSrc (prog : Program) (w : World) (A : Around) (g : Heap) (env : Env) (x : Str) (body : List Stmt) (Q : Flow → Shared → Prop) (E : Value → Shared → Prop) (xv : Value) (s₁ : Shared) : Prop
 | mk : ∀ (r : Addr) (n : Nat) (t u v : Tok) (m : Str → Option Value) (news : List (Addr × Obj)) (J : Nat → (Str → Option Value) → List (Addr × Obj) → Prop), (xv = .ref r) → (A.handled = none) → (Fr g env.locals s₁.heap m) → (News g env.locals s₁.heap news) → (n ≤ 30) → (IsRange s₁.heap r 0 (n : Int) 1 t u v) → (J 0 m news) → ((∀ i tkn m₁ news₁ h tk I oI, i < n → J i m₁ news₁ → Fr g env.locals h (fun y => if y = x then some (.int (i : Int) tkn) else m₁ y) → News g env.locals h ((I, oI) :: news₁) → (∀ q ∈ news₁, q.1 ≠ I) → NoCode oI → wpAny (model prog w) A (execs body env) (LPost g env.locals I oI (J (i + 1)) s₁ Q) E { s₁ with heap := h, toks := tk })) → (∀ m' news' h tk, J n m' news' → Fr g env.locals h m' → News g env.locals h news' → Q .next { s₁ with heap := h, toks := tk }) → RangeSrc prog w A g env x body Q E xv s₁
theorem for_range {x : Str} {px pos : Pos} {iter : PySem.Expr} {body : List Stmt} {Q : Flow → Shared → Prop} {m₁ : Str → Option Value} (_F : Fr g env.locals s.heap m₁) (hx : env.kindOf x = some .local)
  (hp : (env.scope.kind == .class || (env.scope.kind == .module && env.locals != env.globals)) = false)
  (h : wpAny (model prog w) A (eval iter env) (RangeSrc prog w A g env x body Q E) E s)
  (hs : ∀ x, foldedSetIterable iter env x = pure x := by intro _; rfl)
  (hE : PassesOwn (model prog w) A env E := by passes_own) :
  wpAny (model prog w) A (exec (.For (.Name x px) iter body [] pos) env) Q E s := by
 refine @disc _ ?y ?e
 case e =>
 haveI h : @Eq (PLift _) (PLift.up (by
 revert _F hx hp h hs hE
 revert prog w A E s g env x px pos iter body Q m₁
 refine no_implicit_lambda% (clZ cZ.M.F.x.E.p.p.S.e.H.s.Q.A.W.R ?_)
 refine fZ8 ?_
 intro zc0_0 prog w A E s g env x
 clear_value prog w A E s g env x
 refine gZ6 ?_
 intro zc0 px pos iter body Q m₁
 clear_value px pos iter body Q m₁
 intros _F hx hp h hs hE
 k_extra "p0"
 obtain ⟨r, n₀, t, u, v, m, news, J, rfl, hh, F, N, hn30, hr, j0, step, done⟩ := h₁
 refine wpAny_pyIter_range hr (range_small hn30) ?_
 rw [rangeSize_nat]
 refine loop_gen (it := fun i o => o = itR (i : Int) ((n₀ : Int) - (i : Int))) (n₀ := n₀) hE F N (Heap.get?_push_size _ rfl) (by rw [show (n₀ : Int) - ((0 : Nat) : Int) = (n₀ : Int) from Int.sub_zero _]; rfl) j0 (fun i m' news' h' tk oI hJ F' N' ne' hit hle => ?_) done
 subst hit
 have hit' : IsRangeIter h' _ (i : Int) ((n₀ : Int) - (i : Int)) 1 := (N' _ (.head _)).1
 have e1 : itR ((i : Int) + 1) ((n₀ : Int) - (i : Int) - 1) = itR ((i + 1 : Nat) : Int) ((n₀ : Int) - ((i + 1 : Nat) : Int)) := by rw [show ((i + 1 : Nat) : Int) = (i : Int) + 1 from rfl, Int.sub_sub]
 rcases Nat.lt_or_ge i n₀ with hi | hi
 ·exact .inr ⟨hi, .int (i : Int) tk, tk + 1, fun P E' k => wpAny_pyNext_range_item hit' (by k_extra "le") fun h₁ hit₁ hs₁ => k h₁ _ hit₁ e1 hs₁,
   fun _ _ _ _ _ _ k => wpAny_pure k, fun h₁ oI F₁ N₁ ne e => wpAny_assign_Name (wpAny_storeName_local hx F₁.ns (fun h₂ hn₂ hs₂ => step i tk m' news' h₂ _ _ oI hi hJ (F₁.set hn₂ hs₂) (N₁.set hs₂) ne (e ▸ itR_noCode)) hp)⟩
 ·exact .inl ⟨Nat.le_antisymm hle hi, fun P E' k => wpAny_pyNext_range_end hh hit' (by k_extra "le") k⟩)) ?y := by k_extra "cv"
 k_extra "zz"
end
section
variable {prog : Program} {w : World} {A : Around} {E : Value → Shared → Prop} {s : Shared} {g : Heap} {env : Env}
noncomputable def TupRest (prog : Program) (w : World) (A : Around) (g : Heap) (env : Env) (target : PySem.Expr) (body : List Stmt) (Q : Flow → Shared → Prop) (E : Value → Shared → Prop) (s₁ : Shared) (p : Addr × Obj) : List Value → (Str → Option Value) → List (Addr × Obj) → Prop
 | [], m, news => ∀ h tk, Fr g env.locals h m → News g env.locals h news → Q .next { s₁ with heap := h, toks := tk }
 | v :: r, m, news => ∀ h tk I oI, Fr g env.locals h m → News g env.locals h ((I, oI) :: news) → (∀ q ∈ news, @Ne Nat q.1 I) →
   wpAny (model prog w) A (assign target env v) (fun _ s₂ => wpAny (model prog w) A (execs body env) (LPost g env.locals I oI (fun m' news' => p ∈ news' ∧ TupRest prog w A g env target body Q E s₁ p r m' news') s₁ Q) E s₂) E { s₁ with heap := h, toks := tk }
inductive TupSrc (prog : Program) (w : World) (A : Around) (g : Heap) (env : Env) (target : PySem.Expr) (body : List Stmt) (Q : Flow → Shared → Prop) (E : Value → Shared → Prop) (xv : Value) (s₁ : Shared) : Prop
 | mk : ∀ (a : Addr) (xs : List Value) (k : Nat) (m : Str → Option Value) (news : List (Addr × Obj)), (xv = .ref a) → (A.handled = none) → (Fr g env.locals s₁.heap m) → (News g env.locals s₁.heap news) → ((a, ({ cls := .type "tuple", data := .seq xs.toArray k } : Obj)) ∈ news) → (TupRest prog w A g env target body Q E s₁ (a, { cls := .type "tuple", data := .seq xs.toArray k }) xs m news) → TupSrc prog w A g env target body Q E xv s₁
theorem letOwned_tup {target : PySem.Expr} {I a : Addr} {i : Nat} {v : Value} {Q : Unit → Shared → Prop} (hit : s.heap.IsTupleIter I a i) (h : Q () s) : wpAny (model prog w) A (letOwnedTupleGo target (.ref I) v) Q E s := by
 obtain ⟨o, ho, hc, hd⟩ := hit
 have key : ∀ T : Addr, wpAny (model prog w) A (load I >>= fun o => match o.cls, o.data with
   | .type n, .fields vs => if (["enumerate", "zip", "dict_itemiterator", "dict_reverseitemiterator", "odict_iterator", "itertools.zip_longest", "itertools.pairwise"].contains n && vs[0]? == some (rawInt T)) = true then (do rule "for.unpacks-the-owned-tuple"; updateField I 0 .none) else pure ()
   | _, _ => pure ()) Q E s := by
  intro T
  refine wpAny_bind (wpAny_load ho ?_)
  rw [hc, hd]
  dsimp only
  rw [if_neg (by rw [show (["enumerate", "zip", "dict_itemiterator", "dict_reverseitemiterator", "odict_iterator", "itertools.zip_longest", "itertools.pairwise"].contains "tuple_iterator") = false from by decide, Bool.false_and]; simp)]
  exact wpAny_pure h
 unfold letOwnedTupleGo
 cases target <;> first
  | exact wpAny_pure h
  | (cases v <;> first | exact key _ | exact wpAny_pure h)
theorem for_tup {target iter : PySem.Expr} {pos : Pos} {body : List Stmt} {Q : Flow → Shared → Prop} {m₁ : Str → Option Value} (_F : Fr g env.locals s.heap m₁)
  (h : wpAny (model prog w) A (eval iter env) (TupSrc prog w A g env target body Q E) E s)
  (hs : ∀ x, foldedSetIterable iter env x = pure x := by intro _; rfl)
  (hE : PassesOwn (model prog w) A env E := by passes_own) :
  wpAny (model prog w) A (exec (.For target iter body [] pos) env) Q E s := by
 k_extra "p0"
 obtain ⟨a, xs, k, m, news, rfl, hh, F, N, hm, R⟩ := h₁
 have tup : ∀ {h : Heap} {l : List (Addr × Obj)}, News g env.locals h l → (a, ({ cls := .type "tuple", data := .seq xs.toArray k } : Obj)) ∈ l → h.IsTuple a xs.toArray := fun N hm => ⟨_, (N _ hm).1, rfl, _, rfl⟩
 refine wpAny_pyIter_tuple (tup N hm) (loop_gen (it := fun i o => o.cls = .type "tuple_iterator" ∧ o.data = .fields #[.ref a, .int (i : Int) 0]) (n₀ := xs.length) (J := fun i m' news' => (a, ({ cls := .type "tuple", data := .seq xs.toArray k } : Obj)) ∈ news' ∧ TupRest prog w A g env target body Q E s₁ (a, ({ cls := .type "tuple", data := .seq xs.toArray k } : Obj)) (xs.drop i) m' news') hE F N (Heap.get?_push_size _ rfl) ⟨rfl, rfl⟩ ⟨hm, R⟩ (fun i m' news' h' tk oI hJ F' N' ne' hit hle => ?_) ?_)
 ·have hit' : h'.IsTupleIter _ a i := ⟨oI, (N' _ (.head _)).1, hit.1, hit.2⟩
  have ht' := tup (fun q hq => N' q (.tail _ hq)) hJ.1
  cases hv : xs[i]? with
  | none => exact .inl ⟨Nat.le_antisymm hle (List.getElem?_eq_none_iff.mp hv), fun P E' k => wpAny_pyNext_tuple_end hh hit' ht' (by simpa using hv) k⟩
  | some v =>
   obtain ⟨hi, hx⟩ := List.getElem?_eq_some_iff.mp hv
   have R' := hJ.2
   rw [List.drop_eq_getElem_cons hi, hx] at R'
   exact .inr ⟨hi, v, tk, fun P E' k => wpAny_pyNext_tuple_item hit' ht' (by simpa using hv) fun h₁ ⟨o₁, ho₁, hc₁, hd₁⟩ hs₁ => k h₁ o₁ ho₁ ⟨hc₁, hd₁⟩ hs₁,
    fun _ _ _ _ ho hi k => letOwned_tup ⟨_, ho, hi.1, hi.2⟩ k, fun h₁ oI F₁ N₁ ne _ => R' h₁ tk _ oI F₁ N₁ ne⟩
 ·intro m' news' h tk hJ F' N'
  have R' := hJ.2
  rw [List.drop_length] at R'
  exact R' h tk F' N'
theorem TupRest.cons {target : PySem.Expr} {body : List Stmt} {Q : Flow → Shared → Prop} {s₁ : Shared} {p : Addr × Obj} {v : Value} {r : List Value} {m : Str → Option Value} {news : List (Addr × Obj)}
  (h : ∀ h tk I oI, Fr g env.locals h m → News g env.locals h ((I, oI) :: news) → (∀ q ∈ news, @Ne Nat q.1 I) →
   wpAny (model prog w) A (assign target env v) (fun _ s₂ => wpAny (model prog w) A (execs body env) (LPost g env.locals I oI (fun m' news' => p ∈ news' ∧ TupRest prog w A g env target body Q E s₁ p r m' news') s₁ Q) E s₂) E { s₁ with heap := h, toks := tk }) :
  TupRest prog w A g env target body Q E s₁ p (v :: r) m news := h
theorem TupRest.nil {target : PySem.Expr} {body : List Stmt} {Q : Flow → Shared → Prop} {s₁ : Shared} {p : Addr × Obj} {m : Str → Option Value} {news : List (Addr × Obj)}
  (h : ∀ h tk, Fr g env.locals h m → News g env.locals h news → Q .next { s₁ with heap := h, toks := tk }) : TupRest prog w A g env target body Q E s₁ p [] m news := h
end
inductive AtIs (g h : Heap) (ok : Addr → Prop) (rows : List Row) (tkd : Option Kind) (t : Ty) : Value → Prop
 | own {a fd : Addr} {t1 t2 t3 : Tok} {r : Row} {i : Nat} : ownHits t rows = [(r, i)] → Fresh g h a { cls := .type "tuple", data := .seq #[st "impl" t1, .int (i : Int) t2, .str r.path t3, .ref fd] } → AtIs g h ok rows tkd t (.ref a)
 | trait {a : Addr} {t1 t2 t3 : Tok} {k : Kind} {u : Ty} {x : Value} : ownHits t rows = [] → tkd = some k → selfOf k t = some u → rows.any (isHit u) = true → TyAt ok g x u → Fresh g h a { cls := .type "tuple", data := .seq #[st "trait" t1, st "A" t2, st "go" t3, x] } → AtIs g h ok rows tkd t (.ref a)
 | no : ownHits t rows = [] → (∀ k u, tkd = some k → selfOf k t = some u → ¬ rows.any (isHit u) = true) → AtIs g h ok rows tkd t .none
example : True := by
  k_with "call ref cons" =>
    (
      (with_reducible show wpAny _ _ (PySem.call (Value.ref 200) _) _ _ _)
      refine' inherent_w (by k_extra "a0") ?hJ ?hS ?hW ?hl ?hn ?hr ?hd ?hg ?hz ?ht ?_
      case hJ => exact inst_fr ‹_› ‹_›
      case hS => exact inst_fr ‹_› ‹_›
      case hW => exact inst_fr ‹_› ‹_›
      case hl => exact isList_fr ‹_› ‹_›
      case hn => assumption
      case hr => exact rowsKeep ‹_› ‹_›
      case hd => exact DictAt.keeps (Fr.keep ‹_›) ‹_›
      case hg => exact SigsAt.keeps (Fr.keep ‹_›) ‹_›
      case hz => assumption
      case ht => exact TyAt.fr ‹_› ‹_›
      refine clZ cZ.N.H.l.N.L.N ?_; refine gZ6 ?_; intro zc a7 ys7 n7 T7 h7 k7; clear_value a7 ys7 n7 T7 h7 k7; clear zc; intro st7 F7 x7 all7
      have N7 := newsAll ‹_› x7
      have hz7 : ys7.length ≤ 30 := by rw [all7.len]; exact Nat.le_trans (List.length_filter_le _ _) (Nat.le_trans (Nat.le_of_eq List.length_zipIdx) ‹_›)
      rcases ys7 with _ | ⟨v7, _ | ⟨w7, r7⟩⟩
      all_goals first | (revert v7 w7 r7; refine clZ cZ.L.V.V ?_; refine gZ3 ?_; intro zc v7 w7 r7; clear_value v7 w7 r7; clear zc; intro x7 all7 N7 hz7) | (revert v7; refine clZ cZ.V ?_; refine gZ1 ?_; intro zc v7; clear_value v7; clear zc; intro x7 all7 N7 hz7) | skip)
  k_with "call ref cons" =>
    (
      (with_reducible show wpAny _ _ (PySem.call (Value.ref 214) _) _ _ _)
      refine' traits_w (by k_extra "a0") ?hJ ?hS ?hW ?ht ?hp ?_
      case hJ => exact inst_fr ‹_› ‹_›
      case hS => exact inst_fr ‹_› ‹_›
      case hW => exact WAt.fr ‹_› ‹_›
      case ht => exact TyAt.fwd ‹_› ‹_›
      case hp => assumption
      refine clZ cZ.N.H.V ?_; refine gZ3 ?_; intro zc r9 h9 k9; clear_value r9 h9 k9; clear zc; intro x9 st9 F9
      have N8 := News.grown ‹_› st9
      revert r9
      first
        | (have e7 : All2 _ [] _ := all7
           refine' TrAt.all ?_ ?_
           all_goals first
             | ((with_reducible show ∀ (_ : Addr) (_ : Addr), _); refine clZ cZ.V.T.Kd.N.N.N.N.N.N ?_; refine fZ8 ?_; intro zc_0 a9 c9 n9 t19 t29 t39 kd9 u9; clear_value a9 c9 n9 t19 t29 t39 kd9 u9; refine gZ1 ?_; intro zc v9; clear_value v9; intro hk9 hs9 hany9 tv9 x9 y9
                have tv9 := tv9.back ‹_›
                have q9 : Far _ _ := freshApart ‹_› x9
                have q8 : Far _ _ := freshApart ‹_› y9
                have N9 := news_fresh ‹_› (news_fresh ‹_› N8 y9) x9)
             | (refine clZ cZ.N.N ?_; refine gZ2 ?_; intro zc a9 n9; clear_value a9 n9; clear zc; intro no9 x9
                have q9 : Far _ _ := freshApart ‹_› x9
                have N9 := news_fresh ‹_› N8 x9))
        | (refine' TrAt.any ?_
           refine clZ cZ.O.N ?_; refine gZ2 ?_; intro zc a9 o9; clear_value a9 o9; clear zc; intro x9
           have q9 : Far _ _ := freshApart ‹_› x9
           have N9 := news_fresh ‹_› N8 x9))
  k_with "exec For Name Tuple cons nil" =>
    (k_here; k_dflt (refine for_tup ‹_› ?_))
  k_with "TupSrc" =>
    (refine ⟨_, [_, _], _, _, _, rfl, by assumption, by assumption, by assumption, by k_mem, TupRest.cons ?_⟩; refine clZ cZ.O.N.N.H ?_; refine gZ4 ?_; intro zc h8 tk8 I8 o8; clear_value h8 tk8 I8 o8; clear zc; intro F8 N8 m8; have n8 := m8; (try simp only [List.forall_mem_cons, List.forall_mem_nil, and_true] at n8))
  trivial
theorem len_L {prog : Program} {w : World} {A : Around} {E : Value → Shared → Prop} {s : Shared} {l : Addr} {r : Array Value} {Q : Value → Shared → Prop} (k : Int) (hl : s.heap.IsList l r) (hk : (r.size : Int) = k) (hb : k < 2 ^ 63)
  (h : Q (.int k (s.toks + 1)) { s with toks := s.toks + 1 + 1 }) : wpAny (model prog w) A (call (.builtin "len") [.ref l]) Q E s := by
 refine len_list hl (by rw [hk]; exact hb) ?_
 rw [hk]; exact h
theorem sizeTwo {v w : Value} {r : List Value} : (((v :: w :: r).toArray.size : Nat) : Int) = (r.length : Int) + 2 := by simp only [List.size_toArray, List.length_cons]; omega
example : True := by
 k_with "subscriptTail Name Constant ref int" =>
  (with_reducible (refine lst_m ‹_› (by k_mem) ?_))
 k_with "call builtin:len cons nil" =>
  (k_here; k_dflt (first
   | refine len_L 0 (News.isList (items := #[]) ‹_› (by k_mem)) (by rfl) (by decide) ?_
   | refine len_L 1 (News.isList (items := #[_]) ‹_› (by k_mem)) (by rfl) (by decide) ?_
   | refine len_L _ (News.isList (items := (_ :: _ :: _).toArray) ‹_› (by k_mem)) sizeTwo (by (simp only [List.length_cons] at *); omega) ?_))
 k_with "compareOp NotEq ref ref" =>
  (k_here; k_dflt (first
   | refine ne_nil0 (News.isList (items := #[]) ‹_› (by k_mem)) (News.isList ‹_› (by k_mem)) (by k_extra "g0") ?_
   | refine ne_nil1 (r := #[_]) (News.isList ‹_› (by k_mem)) (by simp) (News.isList ‹_› (by k_mem)) (by k_extra "g0") ?_))
 k_with "LPost next" =>
  (refine LPost.intro ‹_› (by k_extra "b0") ‹_› ⟨by k_mem, ?_⟩; first
   | (refine TupRest.cons ?_; refine clZ cZ.O.N.N.H ?_; refine gZ4 ?_; intro zc h8 tk8 I8 o8; clear_value h8 tk8 I8 o8; clear zc; intro F8 N8 m8; have n8 := m8; (try simp only [List.forall_mem_cons, List.forall_mem_nil, and_true] at n8))
   | (refine TupRest.nil ?_; refine clZ cZ.N.H ?_; refine gZ2 ?_; intro zc h8 tk8; clear_value h8 tk8; clear zc; intro F8 N8))
 k_with "LPost ret" =>
  (unfold LPost; dsimp only)
 k_with "exec Raise some none" =>
  (k_here; k_dflt (refine raise_K (.inr rfl) ‹_› ‹_› ?_))
 k_with "call ref cons" =>
  (
   refine' fault_w (.inl rfl) (.inr rfl) (by k_extra "a0") ?_
   k_extra "p1"
   have N9 := News.grown ‹_› st9)
 trivial
theorem at_w (C : Cx w p loose mean mg mb A A₀ base h₀ outer env L m s.heap 70 600) {y sel wo bd : Addr} {tn : Tok} {vt : Value} {t : Ty} {tkd : Option Kind} {rows : List Row} {ok : Addr → Prop}
  (J : Inst s.heap y 224 [("world", .ref wo), ("name", st "go" tn), ("selection", .ref sel)]) (S : Inst s.heap sel 161 [("world", .ref wo), ("bounds", .ref bd)]) (W : WAt w s.heap wo rows tkd) (tt : TyAt ok s.heap vt t) (htp : t.hasParam = false)
  (retE : ∀ e h' tk', 1 < (ownHits t rows).length → Flies base s.heap (env :: outer) e 64 h' → s.heap.UpToSlots h' → E (.ref e) { s with heap := h', toks := tk' })
  (ret : ∀ v h' tk', AtIs s.heap h' ok rows tkd t v → s.heap.StaysIn h' → Fr h₀ L h' m → Q v { s with heap := h', toks := tk' }) :
  wpAny (model PR w) A (PySem.call (.ref (221 : Nat)) [.ref y, vt]) Q E s := by
 refine @disc _ ?y ?e
 case e =>
 haveI h : @Eq (PLift _) (PLift.up (by
 k_fill
 obtain ⟨a1, a2, ds, dt, li, a3, a4, xs, kvs, tvs, I, l, n, r, d, sg, td, tr, z⟩ := id W
 obtain ⟨b1, rfl⟩ := tt.isRef
 revert C J S W htp retE ret I l n r d sg td tr z tt
 revert y sel wo bd tn t tkd rows ok a1 a2 ds dt li a3 a4 xs kvs tvs b1
 k_extra "rv"
 refine no_implicit_lambda% (clZ (cPm cZ.N.k.k.L.N.N.N.N.N.N.N.P.Rs.Ko.T.N.N.N.N.N) ?_)
 k_extra "ld"
 refine fZ8 ?_
 intro zc0_0 y sel wo bd tn t tkd rows
 clear_value y sel wo bd tn t tkd rows
 refine fZ8 ?_
 intro zc0_1 ok a1 a2 ds dt li a3 a4
 clear_value ok a1 a2 ds dt li a3 a4
 refine gZ4 ?_
 intro zc0 xs kvs tvs b1
 clear_value xs kvs tvs b1
 intros C J S W htp retE ret I l n r d sg td tr z tt
 k_extra "oC"
 k_extra "c0"
 k_steps
 ·exact ret _ _ _ (.no all7.zero no9) (Fr.keep ‹_›) ‹_›
 ·rename News s.heap L' _ (_ :: (_, _) :: (_, _) :: _) => NX
  exact ret _ _ _ (.trait all7.zero hk9 hs9 hany9 tv9 (newsFrsh NX (by k_mem))) (Fr.keep ‹_›) ‹_›
 ·obtain ⟨p7, hp7, a7', fd7, q1, q2, q3, rfl, hm7⟩ := all7.one
  obtain ⟨r7, i7⟩ := p7
  rename News s.heap L' _ (_ :: _) => NX
  exact ret _ _ _ (.own hp7 (newsFrsh NX (by k_extra "b3"))) (Fr.keep ‹_›) ‹_›
 all_goals
  refine ⟨_, _, _, rfl, Fr.keep ‹_›, x9, ?_⟩
  refine fly_new B' ‹_› rfl rfl st9 x9 fun h9 R9 U9 => ?_
  exact retE _ _ _ (by rw [← all7.len, List.length_cons, List.length_cons]; omega) R9 U9)) ?y := by k_extra "cv"
 k_extra "zz"
section
variable {prog : Program} {w : World} {A : Around} {E : Value → Shared → Prop} {s : Shared} {env : Env}
def WPost (Jn : Shared → Prop) (Q : Flow → Shared → Prop) (f : Flow) (s₃ : Shared) : Prop := match f with
 | .brk => Q .next s₃
 | .ret v => Q (.ret v) s₃
 | _ => Jn s₃
theorem whl_inv {α : Type} (μ : α → Nat) (J : α → Shared → Prop) {test : PySem.Expr} {body orelse : List Stmt} {pos : Pos} {Q : Flow → Shared → Prop} (a : α) (h : J a s)
  (turn : ∀ a s', J a s' → wpAny (model prog w) A (isTrue test env (eval test env)) (fun b s₂ => WhlIf b (wpAny (model prog w) A (execs body env) (WPost (fun s₃ => ∃ a', μ a' < μ a ∧ J a' s₃) Q) E s₂) (wpAny (model prog w) A (execs orelse env) Q E s₂)) E s')
  (hE : PassesOwn (model prog w) A env E) : wpAny (model prog w) A (exec (.While test body orelse pos) env) Q E s := by
 refine whl_start 1 ?_
 have all : ∀ n a s', μ a < n → J a s' → WhlRest prog w A E env test body orelse Q 1 s' := by
  intro n
  induction n with
  | zero => intro a s' h; exact absurd h (Nat.not_lt_zero _)
  | succ n ih =>
   intro a s' hn hJ
   refine whl_turn hE (wpAny_mono (turn a s' hJ) (fun b s₂ h₂ => ?_) fun _ _ e => e)
   cases b with
   | false => exact WhlIf.no rfl (by unfold WhlIf at h₂; rw [if_neg Bool.false_ne_true] at h₂; exact h₂)
   | true =>
    unfold WhlIf at h₂
    rw [if_pos rfl] at h₂
    refine WhlIf.yes rfl (wpAny_mono h₂ (fun f s₃ h₃ => ?_) fun _ _ e => e)
    cases f with
    | next => obtain ⟨a', hm, hj⟩ := h₃; exact ih a' s₃ (by k_extra "le") hj
    | cont => obtain ⟨a', hm, hj⟩ := h₃; exact ih a' s₃ (by k_extra "le") hj
    | brk => exact h₃
    | ret v => exact h₃
 exact all (μ a + 1) a s (Nat.lt_succ_self _) h
end
noncomputable def Ty.chain : Ty → List Ty
 | .box t => .box t :: t.chain | .ref m t => .ref m t :: t.chain | t => [t]
theorem TyAll.snoc {ok : Addr → Prop} {h : Heap} {vs : List Value} {ts : List Ty} {v : Value} {t : Ty} (x : TyAll ok h vs ts) (y : TyAt ok h v t) : TyAll ok h (vs ++ [v]) (ts ++ [t]) := All2.snoc x y
theorem Ty.chain_cons (t : Ty) : t.chain = t :: t.chain.tail := by cases t <;> rfl
theorem Ty.steps3 (u : Ty) : (∃ u', u = .box u') ∨ (∃ b u', u = .ref b u') ∨ (¬ ([PySem.Str.ofString "ref", PySem.Str.ofString "box"].any fun x => x == PySem.Str.ofString u.head) = true ∧ u.chain.tail = []) := by
 cases u <;> first | exact .inl ⟨_, rfl⟩ | exact .inr (.inl ⟨_, _, rfl⟩) | exact .inr (.inr ⟨by simp only [Ty.head]; decide, rfl⟩)
theorem news_snoc {g h : Heap} {L a : Addr} {ys : List Value} {v : Value} {k : Nat} {l : List (Addr × Obj)} (N : News g L h l) (hm : (a, PySem.W.listOf (ys.toArray.push v) k) ∈ l) : News g L h [(a, PySem.W.listOf (ys ++ [v]).toArray k)] := by
 rw [List.push_toArray] at hm
 exact List.forall_mem_singleton.mpr (N _ hm)
inductive StepsI (s : Shared) (g : Heap) (L : Addr) (ok : Addr → Prop) (T : Ty) (f : Addr) (u : Ty) (s' : Shared) : Prop
 | mk : ∀ (vu : Value) (m : Str → Option Value) (h : Heap) (tk : Nat) (ys : List Value) (us : List Ty) (n : Nat), s' = { s with heap := h, toks := tk } → Fr g L h m → News g L h [(f, PySem.W.listOf ys.toArray n)] → m "T" = some vu → m "found" = some (.ref f) → TyAt ok g vu u → TyAll ok g ys us → us ++ u.chain.tail = T.chain → StepsI s g L ok T f u s'
example : True := by
 k_with "call builtin:list.append" =>
  (k_here; k_dflt (refine' append_K ?k1 ?k2 ?k3 ?_ ?z; (case k1 => k_asm); (case k2 => k_asm); (case k3 => k_upd); (case z => first | exact Nat.le_of_ble_eq_true rfl | (rw [List.size_toArray, sizeLine_eq]; omega)); k_whole); refine clZ cZ.H ?_; refine gZ1 ?_; intro zc h'; clear_value h'; clear zc; intro F' N')
 k_with "call builtin:len cons nil" =>
  (k_here; k_dflt (refine len_L _ (News.isList ‹_› (by k_mem)) (by rw [List.size_toArray]) (by k_extra "le") ?_))
 trivial
theorem steps_of_w (C : Cx w p loose mean mg mb A A₀ base h₀ outer env L m s.heap 10 20) {ok : Addr → Prop} {vt : Value} {t : Ty} (tt : TyAt ok s.heap vt t) (hsz : t.chain.length ≤ 11)
  (ret : ∀ a vs n h' tk', s.heap.StaysIn h' → Fr h₀ L h' m → Fresh s.heap h' a (PySem.W.listOf (List.toArray vs) n) → TyAll ok s.heap vs t.chain → Q (.ref a) { s with heap := h', toks := tk' }) :
  wpAny (model PR w) A (PySem.call (.ref (172 : Nat)) [vt]) Q E s := by
 refine @disc _ ?y ?e
 case e =>
 haveI h : @Eq (PLift _) (PLift.up (by
 k_fill
 revert C tt hsz ret
 revert ok vt t
 k_extra "rv"
 refine no_implicit_lambda% (clZ (cPm cZ.T.V.P) ?_)
 k_extra "ld"
 refine gZ3 ?_
 intro zc0 ok vt t
 clear_value ok vt t
 intros C tt hsz ret
 k_extra "oC"
 k_extra "c0"
 repeat ((fail_if_success (with_reducible show wpAny _ _ (exec (Stmt.While _ _ _ _) _) _ _ _)); k_extra "h0")
 rename News s.heap L' _ [_] => N1
 rename Fr s.heap L' _ _ => F1
 refine whl_inv (α := Ty) (fun u => u.size) (fun u s' => StepsI s s.heap L' ok t _ u s') t ⟨vt, _, _, _, [vt], [t], 0, rfl, F1, N1, by k_dflt (exact rfl), by k_dflt (exact rfl), tt, .cons tt .nil, t.chain_cons.symm⟩ ?_ (hE := ?hE)
 case hE => passes_own
 rintro u s' ⟨vu, m9, h9, tk9, ys, us, n9, rfl, F9, N9, e1, e2, tu, ta, hch⟩
 rename_i u2_0
 revert F9 N9 e1 e2 tu ta hch
 revert tk u vu m9 h9 tk9 ys us n9
 refine no_implicit_lambda% (clZ cZ.N.u.L.N.H.M.V.T.N ?_)
 refine fZ8 ?_
 intro zc2_0 tk u vu m9 h9 tk9 ys us
 clear_value tk u vu m9 h9 tk9 ys us
 refine gZ1 ?_
 intro zc2 n9
 clear_value n9
 intros F9 N9 e1 e2 tu ta hch
 have hys : ys.length ≤ 11 := by
  have := congrArg List.length hch
  rw [List.length_append] at this
  rw [ta.length]; omega
 have hys' : (ys.length : Int) < 12 := by omega
 rw [known_map e1, known_map e2] at F9
 dsimp only at F9
 rcases u.steps3 with ⟨u', rfl⟩ | ⟨b', u', rfl⟩ | ⟨hno, hch0⟩
 ·obtain ⟨a9, t9, v9, rfl, i9, o9, k9⟩ := tu.boxI
  revert hch F9 e1 tu i9 o9 k9
  revert u' a9 t9 v9
  refine no_implicit_lambda% (clZ cZ.V.N.N.T ?_)
  refine gZ4 ?_
  intro zc3 u' a9 t9 v9
  clear_value u' a9 t9 v9
  intros hch F9 e1 tu i9 o9 k9
  k_steps
  unfold WPost
  dsimp only
  refine ⟨u', Nat.lt_succ_self _, _, _, _, _, ys ++ [_], us ++ [u'], _, rfl, by assumption, news_snoc ‹_› (by k_mem), by k_dflt (exact rfl), by k_dflt (exact rfl), by assumption, ta.snoc ‹_›, ?_⟩
  rw [List.append_assoc, List.singleton_append, ← Ty.chain_cons]
  exact hch
 ·obtain ⟨a9, t9, v9, rfl, i9, o9, k9⟩ := tu.refI
  revert hch F9 e1 tu i9 o9 k9
  revert b' u' a9 t9 v9
  refine no_implicit_lambda% (clZ cZ.V.N.N.T.B ?_)
  refine gZ5 ?_
  intro zc4 b' u' a9 t9 v9
  clear_value b' u' a9 t9 v9
  intros hch F9 e1 tu i9 o9 k9
  k_steps
  unfold WPost
  dsimp only
  refine ⟨u', Nat.lt_succ_self _, _, _, _, _, ys ++ [_], us ++ [u'], _, rfl, by assumption, news_snoc ‹_› (by k_mem), by k_dflt (exact rfl), by k_dflt (exact rfl), by assumption, ta.snoc ‹_›, ?_⟩
  rw [List.append_assoc, List.singleton_append, ← Ty.chain_cons]
  exact hch
 ·obtain ⟨a2, tk2, rest2, rfl, hT2⟩ := tu.head
  revert hT2 F9 e1 tu
  revert a2 tk2 rest2
  refine no_implicit_lambda% (clZ cZ.L.N.N ?_)
  refine gZ3 ?_
  intro zc5 a2 tk2 rest2
  clear_value a2 tk2 rest2
  intros hT2 F9 e1 tu
  k_steps
  refine ret _ ys _ _ _ (Fr.keep ‹_›) ‹_› (newsFrsh ‹_› (by k_mem)) ?_
  rw [← hch, hch0, List.append_nil]; exact ta)) ?y := by k_extra "cv"
 k_extra "zz"
inductive NewInst (g h : Heap) (x C : Addr) (fs : List (String × Value)) : Prop
 | mk : ∀ dx es n, (Fresh g h x (instObj C dx)) → (Fresh g h dx (dictOf es n)) → (FieldsAre es fs) → NewInst g h x C fs
theorem NewInst.inst {g h : Heap} {x C : Addr} {fs : List (String × Value)} (I : NewInst g h x C fs) : Inst h x C fs := let ⟨dx, es, n, a, b, c⟩ := I; ⟨dx, es, n, a.at_, b.at_, c⟩
section
variable {prog : Program} {w : World} {A : Around} {K : Frag} {C : Addr} {s : Shared} {h₀ : Heap} {L : Addr} {m : Str → Option Value} {R : Result → Shared → Prop}
theorem make_F {rest : List Value} {kw : List (Str × Value)} {fI : Addr} (F : Fr h₀ L s.heap m) (X₀ : K.In h₀) (hm : makesIn K C = true)
  (hi : findIn K (.ref C) "__init__" = some (some (.ref fI))) (hf : typeIn K (.ref fI) = some (.type "function"))
  (h : ∀ (x dx : Addr) (h' : Heap), Fr h₀ L h' m → News h₀ L h' [(x, instObj C dx), (dx, emptyDict)] → dx < x → s.heap.StaysIn h' → s.heap.get? x = none → s.heap.get? dx = none →
   codeAny (model prog w) (A.under (.builtin "type.__call__" ⟨.ref C :: rest, kw⟩)) (.call (.ref fI) ⟨.ref x :: rest, kw⟩) (InitBack x R) { s with heap := h' }) :
  codeAny (model prog w) A (.call (.ref C) ⟨rest, kw⟩) R s := by
 have X := X₀.keeps F.keep
 obtain ⟨hh, g, d, t, os⟩ := s
 have N : News h₀ L hh [] := News.nil
 have N' := (N.push F emptyDict).push (F.push _) (instObj C hh.objs.size)
 rw [Heap.size_push] at N'
 refine make_core (makes_of X hm) (looks_findIn X hi) (fun self => bind_fn X self hf) (.inl rfl) (h _ hh.objs.size _ ((F.push _).push _) N' (Nat.lt_succ_self _) (fun b o e => Heap.get?_push_of_some _ (Heap.get?_push_of_some _ e)) (Heap.get?_none_of_le (Nat.le_succ _)) (Heap.get?_none_of_le (Nat.le_refl _)))
theorem new_old {g h1 G : Heap} {x dx b : Addr} {o : Obj} (st : g.StaysIn h1) (nx : g.get? x = none) (nd : g.get? dx = none) (eG : G = hideAll h1 [x, dx]) (e : g.get? b = some o) : G.get? b = some o := by
 subst eG
 refine hideAll_get _ (st _ _ e) fun hm => ?_
 k_extra "t1"
 ·rw [nx] at e; cases e
 ·rw [List.mem_singleton.mp hm, nd] at e; cases e
theorem new_none {g h1 G : Heap} {x dx b : Addr} (st : g.StaysIn h1) (nx : g.get? x = none) (nd : g.get? dx = none) (eG : G = hideAll h1 [x, dx]) (e : G.get? b = none) : g.get? b = none := by
 cases q : g.get? b with
 | none => rfl
 | some o => rw [new_old st nx nd eG q] at e; cases e
theorem new_done {g h1 h2 G : Heap} {x dx C L' : Addr} {m' : Str → Option Value} {es : List DictEntry} {n : Nat} {fs : List (String × Value)} {l : List (Addr × Obj)} (st : g.StaysIn h1) (nx : g.get? x = none) (nd : g.get? dx = none) (eG : G = hideAll h1 [x, dx]) (F : Fr G L' h2 m')
  (N : News h₀ L h2 l) (q1 : (x, instObj C dx) ∈ l) (q2 : (dx, dictOf es n) ∈ l) (hf : FieldsAre es fs) : g.StaysIn h2 ∧ NewInst g h2 x C fs :=
 ⟨fun _ _ e => F.keep _ _ (new_old st nx nd eG e), dx, es, n, ⟨nx, (N _ q1).1⟩, ⟨nd, (N _ q2).1⟩, hf⟩
theorem new_more {g h1 h2 G : Heap} {x dx y dy C L' : Addr} {es : List DictEntry} {n : Nat} {fs : List (String × Value)} {l : List (Addr × Obj)} (st : g.StaysIn h1) (nx : g.get? x = none) (nd : g.get? dx = none) (eG : G = hideAll h1 [x, dx])
  (N : News G L' h2 l) (q1 : (y, instObj C dy) ∈ l) (q2 : (dy, dictOf es n) ∈ l) (hf : FieldsAre es fs) : NewInst g h2 y C fs :=
 ⟨dy, es, n, ⟨new_none st nx nd eG (N _ q1).2.2, (N _ q1).1⟩, ⟨new_none st nx nd eG (N _ q2).2.2, (N _ q2).1⟩, hf⟩
theorem News.inst {g h : Heap} {x dx C : Addr} {es : List DictEntry} {n : Nat} {fs : List (String × Value)} {l : List (Addr × Obj)} (N : News g L h l) (q1 : (x, instObj C dx) ∈ l) (q2 : (dx, dictOf es n) ∈ l) (hf : FieldsAre es fs) : Inst h x C fs :=
 ⟨dx, es, n, (N _ q1).1, (N _ q2).1, hf⟩
end
theorem putL_new {es : List DictEntry} {fs : List (String × Value)} {nm : String} {hsh : Int} {tk : Tok} {v : Value} (h : FieldsAre es fs) (hl : lookF fs (PySem.Str.ofString nm) = none) : FieldsAre (putL (PySem.Str.ofString nm) hsh (.str (PySem.Str.ofString nm) tk) v es) (fs ++ [(nm, v)]) := by
 unfold FieldsAre at h ⊢
 induction es generalizing fs with
 | nil => cases fs with
  | nil => rfl
  | cons p r => simp at h
 | cons e es ih => cases fs with
  | nil => simp at h
  | cons p r =>
   simp only [List.map_cons, List.cons.injEq, Prod.mk.injEq] at h
   obtain ⟨⟨hk, hv⟩, hr⟩ := h
   unfold lookF at hl
   split at hl
   ·cases hl
   ·rename_i hne
    have ih := ih hr hl
    obtain ⟨hsh', key, val⟩ := e
    dsimp only at hk hv
    cases key <;> first | cases hk | skip
    rename_i x tk'
    subst hv
    have q : (PySem.Str.ofString p.1 == PySem.Str.ofString nm) = false := by simpa using hne
    unfold putL
    simp only [Value.isStr, q, Bool.false_eq_true, if_false, List.map_cons, List.cons_append]
    rw [ih]
theorem putL_len {name : PySem.Str} {hsh : Int} {key v : Value} : ∀ {es : List DictEntry}, (putL name hsh key v es).length ≤ es.length + 1
 | [] => by simp [putL]
 | e :: r => by
  unfold putL
  split
  ·simp
  ·have := putL_len (name := name) (hsh := hsh) (key := key) (v := v) (es := r)
   simp only [List.length_cons]
   omega
structure CtorC (K : Frag) (C : Addr) : Prop where
 hs : findIn K (.ref C) "__setattr__" = some (some (.builtin "object.__setattr__"))
 hp : plainOver K C = true
 hh : hasDictIn K C = true
theorem updTo {d : Addr} {o o' : Obj} {l : List (Addr × Obj)} {G : Obj → List (Addr × Obj)} (U : UpdF d o l G) : Upd d o o' l (G o') := by
 induction U with
 | head h => exact .head h
 | tail h _ ih => exact .tail h ih
theorem updMem {d : Addr} {o : Obj} {l : List (Addr × Obj)} {G : Obj → List (Addr × Obj)} (U : UpdF d o l G) : (d, o) ∈ l := by
 induction U with
 | head _ => exact .head _
 | tail _ _ ih => exact .tail _ ih
section
variable {prog : Program} {w : World} {A : Around} {E : Value → Shared → Prop} {K : Frag} {C x dx L : Addr} {h₀ : Heap} {m : Str → Option Value} {news : List (Addr × Obj)} {G : Obj → List (Addr × Obj)} {es : List DictEntry} {n : Nat} {fs : List (String × Value)} {f : String} {v : Value}
theorem set_fld {s : Shared} {Q : Unit → Shared → Prop} (CC : CtorC K C) (X₀ : K.In h₀) (F : Fr h₀ L s.heap m) (N : News h₀ L s.heap news) (hx : (x, instObj C dx) ∈ news) (U : UpdF dx (dictOf es n) news G) (hf : FieldsAre es fs) (hn : lookF fs (PySem.Str.ofString f) = none)
  (ht : takerIn K C (PySem.Str.ofString f) = some none) (hz : Nat.ble fs.length 900 = true) (k : ∀ h' es' n', FieldsAre es' (fs ++ [(f, v)]) → Fr h₀ L h' m → News h₀ L h' (G (dictOf es' n')) → Q () { s with heap := h', toks := s.toks + 2 }) :
  wpAny (model prog w) A (setAttr (.ref x) (PySem.Str.ofString f) v) Q E s := by
 have I : InstAt s.heap x (instObj C dx) C (some (dictOf es n)) := ⟨(N _ hx).1, rfl, rfl, (N _ (updMem U)).1⟩
 have hl : es.length = fs.length := by have := congrArg List.length hf; rwa [List.length_map, List.length_map] at this
 exact set_dict F X₀ N I rfl CC.hs CC.hp ht CC.hh (by rw [hf.get]; rfl) rfl (updTo U) (Nat.le_trans putL_len (by rw [hl]; exact Nat.le_trans (Nat.succ_le_succ (Nat.le_of_ble_eq_true hz)) (by decide))) fun h' F' N' => k h' _ _ (putL_new hf hn) F' N'
theorem fu_fld {cn : Str} {cs : Scope} {a : Addr} {ccd : Value} {cl : List (Str × Addr)} {g : Array GenState} {d : Drawn} {o : OsState} {h : Heap} {t t' : Nat} {e : PySem.Expr} {p0 p1 pos : Pos} {rest : List Stmt} {Q : Flow → Shared → Prop} (CC : CtorC K C) (X₀ : K.In h₀)
  (p : PE (model prog w) A (envX cn cs L a ccd cl) h e t t' v) (F : Fr h₀ L h m) (N : News h₀ L h news) (hm : m "self" = some (.ref x)) (oks : okL cs "self" = true) (hx : (x, instObj C dx) ∈ news) (U : UpdF dx (dictOf es n) news G) (hf : FieldsAre es fs) (hn : lookF fs (PySem.Str.ofString f) = none)
  (ht : takerIn K C (PySem.Str.ofString f) = some none) (hz : Nat.ble fs.length 900 = true) (hs : swapsWith e (some (.Attribute (.Name "self" p0) (PySem.Str.ofString f) p1)) pos.line (envX cn cs L a ccd cl) = pure false)
  (k : ∀ h' es' n', FieldsAre es' (fs ++ [(f, v)]) → Fr h₀ L h' m → News h₀ L h' (G (dictOf es' n')) → wpAny (model prog w) A (execs rest (envX cn cs L a ccd cl)) Q E ⟨h', g, d, t' + 2, o⟩) :
  wpAny (model prog w) A (execs (.Assign [.Attribute (.Name "self" p0) (PySem.Str.ofString f) p1] e pos :: rest) (envX cn cs L a ccd cl)) Q E ⟨h, g, d, t, o⟩ :=
 wpAny_execs_cons (plainObj_wpAny_Assign_Attribute (p _ _ _ _ _ (pe_ld F hm oks _ _ _ _ _ (set_fld (s := ⟨h, g, d, t', o⟩) CC X₀ F N hx U hf hn ht hz k))) hs)
end
example : True := by
 k_with "g1" =>
  (refine wpAny_call ?_; k_dflt (refine' make_F ?k1 ?k3 ?k4 ?k5 ?k6 ?_; (case k1 => k_asm); (case k3 => k_asm); (case k4 => k_is); (case k5 => k_is); (case k6 => k_is)); refine clZ cZ.H.N.N ?_; refine gZ3 ?_; intro zc x1 d1 h1; clear_value x1 d1 h1; clear zc; intro F1 N1 l2 st1 nx1 nd1; have hf1 : FieldsAre [] [] := rfl; have ne1 : @Ne Nat x1 d1 := (Nat.ne_of_lt l2).symm; have ne2 : @Ne Nat d1 x1 := Nat.ne_of_lt l2)
 k_with "execs cons Assign cons" =>
  ((with_reducible show wpAny _ _ (execs (Stmt.Assign [Expr.Attribute (Expr.Name (PySem.Str.ofString "self") _) _ _] _ _ :: _) _) _ _ _); k_dflt (refine' fu_fld ⟨?j1, ?j2, ?j3⟩ ?j4 ?j5 ?j6 ?j7 ?j8 ?j9 ?ja ?jb ?jc ?jd ?je ?jf ?jg ?_; (case j4 => k_asm); (case j6 => k_asm); (case j7 => k_asm); (case ja => k_mem); (case jb => k_updF); (case jc => assumption); (case j5 => k_extra "pe"); (case j8 => exact rfl); (case j9 => kernel_rfl!); (case j1 => k_is); (case j2 => k_is); (case j3 => k_is); (case jd => exact rfl); (case je => k_is); (case jf => exact rfl); (case jg => exact rfl); k_whole); refine clZ cZ.N.d.H ?_; refine gZ3 ?_; intro zc h' es' n'; clear_value h' es' n'; clear zc; intro hf' F' N'; (try dsimp only at N'); (try k_sweep))
 k_with "execs cons Assign nil" =>
  ((with_reducible show wpAny _ _ (execs (Stmt.Assign [Expr.Attribute (Expr.Name (PySem.Str.ofString "self") _) _ _] _ _ :: _) _) _ _ _); k_dflt (refine' fu_fld ⟨?j1, ?j2, ?j3⟩ ?j4 ?j5 ?j6 ?j7 ?j8 ?j9 ?ja ?jb ?jc ?jd ?je ?jf ?jg ?_; (case j4 => k_asm); (case j6 => k_asm); (case j7 => k_asm); (case ja => k_mem); (case jb => k_updF); (case jc => assumption); (case j5 => k_extra "pe"); (case j8 => exact rfl); (case j9 => kernel_rfl!); (case j1 => k_is); (case j2 => k_is); (case j3 => k_is); (case jd => exact rfl); (case je => k_is); (case jf => exact rfl); (case jg => exact rfl); k_whole); refine clZ cZ.N.d.H ?_; refine gZ3 ?_; intro zc h' es' n'; clear_value h' es' n'; clear zc; intro hf' F' N'; (try dsimp only at N'); (try k_sweep))
 k_with "setAttr ref" =>
  (k_here; k_dflt (refine' set_fld ⟨?j1, ?j2, ?j3⟩ ?j4 ?j6 ?j7 ?ja ?jb ?jc ?jd ?je ?jf ?_; (case j4 => k_asm); (case j6 => k_asm); (case j7 => k_asm); (case ja => k_mem); (case jb => k_updF); (case jc => assumption); (case j1 => k_is); (case j2 => k_is); (case j3 => k_is); (case jd => exact rfl); (case je => k_is); (case jf => exact rfl); k_whole); refine clZ cZ.N.d.H ?_; refine gZ3 ?_; intro zc h' es' n'; clear_value h' es' n'; clear zc; intro hf' F' N'; (try dsimp only at N'); (try k_sweep))
 k_with "b1" =>
  (k_dflt (refine' enterM ?k1 ?k2 ?kN ?k3 ?k5 ?kA ?kF ?kK ?k6 ?k7 ?k8 ?k9 ?kB ?_ ?c2 ?c3 ?c4 ?c5; (case kA => assumption); (case kF => assumption); (case kK => assumption); (case k1 => k_asm); (case k2 => k_asm); (case kN => k_asm); (case k3 => k_asm); (case k5 => k_asm); (case k6 => k_is); (case k7 => k_is); (case k8 => k_extra "g0"); (case k9 => first | exact BindsTo.of_eq rfl | exact binds_K (by k_in) rfl (by k_is) rfl rfl rfl); (case c5 => decide); (case kB => exact locs rfl); (case c2 => exact rfl); (case c3 => exact rfl); (case c4 => exact rfl); k_whole; refine clZ cZ.H.N.H ?_; refine gZ3 ?_; intro zc G' L' h'; clear_value G' L' h'; clear zc; intro eG' F' N' B' X' T'; (try dsimp only)); (try k_fold))
 trivial
theorem sel_new_w (CC : Cx w p loose mean mg mb A A₀ base h₀ outer env L m s.heap 6 20) {v1 v2 : Value}
  (ret : ∀ x h' tk', s.heap.StaysIn h' → Fr h₀ L h' m → NewInst s.heap h' x 161 [("world", v1), ("bounds", v2)] → Q (.ref x) { s with heap := h', toks := tk' }) :
  wpAny (model PR w) A (PySem.call (.ref (161 : Nat)) [v1, v2]) Q E s := by
 refine @disc _ ?y ?e
 case e =>
 haveI h : @Eq (PLift _) (PLift.up (by
 k_fill
 k_extra "o0"
 k_extra "m1"
 revert v1 v2
 k_extra "rv"
 refine no_implicit_lambda% (clZ (cPm cZ.V.V) ?_)
 k_extra "ld"
 refine gZ2 ?_
 intro zc0 v1 v2
 clear_value v1 v2
 intros ret B F X T hA hf hke hh hdp hun
 k_extra "g1"
 k_extra "b1"
 k_steps
 rename Fr G' L' _ _ => FX
 k_extra "x1"
 have D := fun hf => new_done (fs := [("world", v1), ("bounds", v2)]) st1 nx1 nd1 eG' FX NX (by k_mem) (by k_mem) hf
 have D := D ‹_›
 exact ret _ _ _ D.1 ‹_› D.2)) ?y := by k_extra "cv"
 k_extra "zz"
example : True := by
 k_with "call ref cons" =>
  (
   (with_reducible show wpAny _ _ (PySem.call (Value.ref 161) _) _ _ _)
   refine' sel_new_w (by k_extra "a0") ?_
   refine clZ cZ.N.H.N ?_; refine gZ3 ?_; intro zc x9 h9 k9; clear_value x9 h9 k9; clear zc; intro st9 F9 i9
   obtain ⟨d9, es9, n9, x9', y9', hf9⟩ := i9
   k_extra "y1"
   have ne9 : @Ne Nat x9 d9 := freshNe x9' y9' (by simp [instObj, dictOf])
   have ne8 := ne9.symm
   have q9 : Far _ _ := freshApart ‹_› x9'
   have q8 : Far _ _ := freshApart ‹_› y9'
   have N9 := news_fresh ‹_› (news_fresh ‹_› (News.grown ‹_› st9) y9') x9')
 trivial
theorem probe_new_w (CC : Cx w p loose mean mg mb A A₀ base h₀ outer env L m s.heap 10 40) {v1 v2 v3 : Value}
  (ret : ∀ x sel h' tk', s.heap.StaysIn h' → Fr h₀ L h' m → NewInst s.heap h' x 224 [("world", v1), ("name", v2), ("selection", .ref sel)] → NewInst s.heap h' sel 161 [("world", v1), ("bounds", v3)] → Q (.ref x) { s with heap := h', toks := tk' }) :
  wpAny (model PR w) A (PySem.call (.ref (224 : Nat)) [v1, v2, v3]) Q E s := by
 refine @disc _ ?y ?e
 case e =>
 haveI h : @Eq (PLift _) (PLift.up (by
 k_fill
 k_extra "o0"
 k_extra "m1"
 revert v1 v2 v3
 k_extra "rv"
 refine no_implicit_lambda% (clZ (cPm cZ.V.V.V) ?_)
 k_extra "ld"
 refine gZ3 ?_
 intro zc0 v1 v2 v3
 clear_value v1 v2 v3
 intros ret B F X T hA hf hke hh hdp hun
 k_extra "g1"
 k_extra "b1"
 k_steps
 rename Fr G' L' _ _ => FX
 k_extra "x1"
 rename News G' L' _ _ => NG
 have D := fun hf => new_done (fs := [("world", v1), ("name", v2), ("selection", .ref x9)]) st1 nx1 nd1 eG' FX NX (by k_mem) (by k_mem) hf
 have D := D ‹_›
 exact ret _ _ _ _ D.1 ‹_› D.2 (new_more st1 nx1 nd1 eG' NG (by k_mem) (by k_mem) hf9))) ?y := by k_extra "cv"
 k_extra "zz"
section
variable {w : World} {A : Around} {E : Value → Shared → Prop} {s : Shared} {g : Heap} {L : Addr} {m : Str → Option Value} {K : Frag} {x C : Addr} {fs : List (String × Value)} {name : PySem.Str}
theorem attr_H {prog : Program} {expr : Bool} {Q : Value → Shared → Prop} {attr : Option Value} {u : Value} (F : Fr g L s.heap m) (X : K.In g) (I : Inst s.heap x C fs) (hg : plainGet K C name = true) (hh : hasDictIn K C = true)
  (ha : findIn K (.ref C) name = some attr) (hn : noGet K attr = true) (hl : lookF fs name = some u) (hv : handedIn u = true) (h : Q u { s with toks := s.toks + 1 }) :
  wpAny (model prog w) A (getAttr (.ref x) name expr) Q E s := by
 obtain ⟨dx, es, n, a, b, c⟩ := I
 exact get_own F X ⟨a, rfl, rfl, b⟩ hg hh ha hn (by rw [c.get, hl]) hv h
theorem meth_H {prog : Program} {pl : Sem Bool} {Q : Value × List Value → Shared → Prop} {f : Addr} (F : Fr g L s.heap m) (X : K.In g) (I : Inst s.heap x C fs) (hg : plainGet K C name = true)
  (hf : findIn K (.ref C) name = some (some (.ref f))) (ht : isFn K (.ref f) = true) (hl : lookF fs name = none) (h : Q (.ref f, [.ref x]) s) : wpAny (model prog w) A (getMethod (.ref x) name pl) Q E s := by
 obtain ⟨dx, es, n, a, b, c⟩ := I
 exact method_inst F X ⟨a, rfl, rfl, b⟩ hg hf ht (by rw [c.get, hl]) h
end
abbrev InstE (g : Heap) (L : Addr) (l : List (Addr × Obj)) (x C : Addr) (fs : List (String × Value)) : Prop := Ev g L l fun h => Inst h x C fs
theorem InstE.now {g h : Heap} {L x C : Addr} {l : List (Addr × Obj)} {m : Str → Option Value} {fs : List (String × Value)} (e : InstE g L l x C fs) (F : Fr g L h m) (N : News g L h l) : Inst h x C fs := e h m F N
theorem NewInst.ever {g hc h9 : Heap} {L x C : Addr} {m m' : Str → Option Value} {fs : List (String × Value)} (i : NewInst hc h9 x C fs) (F : Fr g L hc m) (F9 : Fr g L h9 m') : InstE g L (restH g L [] h9) x C fs := by
 obtain ⟨dx, es, n, a, b, c⟩ := i
 have ne : ∀ {q : Addr} {o : Obj}, Fresh hc h9 q o → q ≠ L := fun f e => by
  obtain ⟨o', e'⟩ := frHas F
  rw [← e, f.new] at e'; cases e'
 exact fun h m F N => ⟨dx, es, n, ev_obj (mu := []) F9 a.at_ (ne a) List.not_mem_nil F N, ev_obj (mu := []) F9 b.at_ (ne b) List.not_mem_nil F N, c⟩
example : True := by
 k_with "c3" =>
  (first | exact inst_fr ‹_› ‹_› | exact InstE.now ‹_› ‹_› (by k_extra "b0"))
 k_with "getAttr ref" =>
  (k_here; k_dflt (refine' attr_H ?F ?X ?I ?hg ?hh ?ha ?hn ?hl ?hv ?_; (case F => assumption); (case X => assumption); (case I => exact InstE.now ‹_› ‹_› (by k_extra "b0")); (case hg => k_is); (case hh => k_is); (case ha => k_is); (case hn => k_is); (case hl => rfl); (case hv => rfl); k_whole))
 k_with "getMethod ref" =>
  (k_here; k_dflt (refine' meth_H ?F ?X ?I ?hg ?hf ?ht ?hl ?_; (case F => assumption); (case X => assumption); (case I => exact InstE.now ‹_› ‹_› (by k_extra "b0")); (case hg => k_is); (case hf => k_is); (case ht => k_is); (case hl => rfl); k_whole))
 k_with "call ref cons" =>
  (
   (with_reducible show wpAny _ _ (PySem.call (Value.ref 224) _) _ _ _)
   refine' probe_new_w (by k_extra "a0") ?_
   refine clZ cZ.N.H.N.N ?_; refine gZ4 ?_; intro zc pr9 sel9 h9 k9; clear_value pr9 sel9 h9 k9; clear zc; intro st9 F9 i9 j9
   have pI := NewInst.ever i9 ‹_› F9
   have pS := NewInst.ever j9 ‹_› F9
   have N9 := rest_newsF F9)
 trivial
noncomputable def hasAt (rows : List Row) (tkd : Option Kind) (t : Ty) : Bool := (ownHits t rows).length != 0 || match tkd with
 | none => false
 | some k => match selfOf k t with
  | none => false
  | some u => rows.any (isHit u)
noncomputable def pick (P : Ty → Bool) (t : Ty) : Option (Option Bool) := if P t then some none else if P (.ref false t) then some (some false) else if P (.ref true t) then some (some true) else none
noncomputable def seekL (P : Ty → Bool) : List Ty → Nat → Option (Nat × Ty × Option Bool)
 | [], _ => none
 | t :: r, d => match pick P t with
  | some w => some (d, t, w)
  | none => seekL P r (d + 1)
noncomputable def recv : Option Bool → Ty → Ty
 | none, t => t
 | some b, t => .ref b t
noncomputable def wordV (w : Option Bool) (tk : Tok) : Value := match w with
 | none => .none
 | some false => st "ref" tk
 | some true => st "mut" tk
abbrev AtB (P : Value → Ty → Prop) (rows : List Row) (tkd : Option Kind) (t : Ty) (o : Obj) : Prop :=
 ∃ (k : Kind) (u : Ty) (x : Value) (t1 t2 t3 : Tok), ownHits t rows = [] ∧ tkd = some k ∧ selfOf k t = some u ∧ rows.any (isHit u) = true ∧ P x u ∧ o = { cls := .type "tuple", data := .seq #[st "trait" t1, st "A" t2, st "go" t3, x] }
theorem AtB.imp {P P' : Value → Ty → Prop} {rows : List Row} {tkd : Option Kind} {t : Ty} {o : Obj} (k : ∀ x u, P x u → P' x u) (y : AtB P rows tkd t o) : AtB P' rows tkd t o := by
 obtain ⟨k', u, x, t1, t2, t3, a, b, c, d, e, f⟩ := y
 exact ⟨k', u, x, t1, t2, t3, a, b, c, d, k _ _ e, f⟩
def AtO (ok : Addr → Prop) (h : Heap) (rows : List Row) (tkd : Option Kind) (t : Ty) (o : Obj) : Prop :=
 (∃ (r : Row) (i : Nat) (fd : Addr) (t1 t2 t3 : Tok), ownHits t rows = [(r, i)] ∧ o = { cls := .type "tuple", data := .seq #[st "impl" t1, .int (i : Int) t2, .str r.path t3, .ref fd] }) ∨ AtB (TyAt ok h) rows tkd t o
theorem AtIs.two {g h : Heap} {ok : Addr → Prop} {rows : List Row} {tkd : Option Kind} {t : Ty} {v : Value} (x : AtIs g h ok rows tkd t v) :
  (v = .none ∧ hasAt rows tkd t = false) ∨ ∃ a o, v = .ref a ∧ Fresh g h a o ∧ hasAt rows tkd t = true ∧ AtO ok g rows tkd t o := by
 cases x with
 | own e f => exact .inr ⟨_, _, rfl, f, by simp [hasAt, e], .inl ⟨_, _, _, _, _, _, e, rfl⟩⟩
 | trait e k s y ty f => exact .inr ⟨_, _, rfl, f, by simp [hasAt, k, s, y], .inr ⟨_, _, _, _, _, _, e, k, s, y, ty, rfl⟩⟩
 | no e n =>
  refine .inl ⟨rfl, ?_⟩
  unfold hasAt
  rw [e]
  cases tkd with
  | none => rfl
  | some k =>
   dsimp only
   cases q : selfOf k t with
   | none => rfl
   | some u => simpa using n k u rfl q
theorem AtIs.all {g h : Heap} {ok : Addr → Prop} {rows : List Row} {tkd : Option Kind} {t : Ty} {R : Value → Prop} (k0 : hasAt rows tkd t = false → R .none) (k1 : ∀ a o, Fresh g h a o → hasAt rows tkd t = true → AtO ok g rows tkd t o → R (.ref a)) (v : Value) (x : AtIs g h ok rows tkd t v) : R v := by
 rcases x.two with ⟨rfl, n⟩ | ⟨a, o, rfl, f, y, z⟩
 ·exact k0 n
 ·exact k1 _ _ f y z
theorem seek_step {P : Ty → Bool} {ts : List Ty} {i : Nat} {t : Ty} (h : ts[i]? = some t) : seekL P (ts.drop i) i = match pick P t with
  | some w => some (i, t, w)
  | none => seekL P (ts.drop (i + 1)) (i + 1) := by
 have hi : i < ts.length := (List.getElem?_eq_some_iff.mp h).1
 have : ts.drop i = t :: ts.drop (i + 1) := by
  rw [List.drop_eq_getElem_cons hi]
  have := List.getElem?_eq_getElem hi
  rw [h] at this; cases this; rfl
 rw [this, seekL]
theorem Ty.notVarS (t : Ty) : ¬ (PySem.Str.ofString t.head == PySem.Str.ofString "var") = true ∧ ¬ (PySem.Str.ofString t.head == PySem.Str.ofString "intvar") = true := by
 cases t <;> (simp only [Ty.head]; decide)
theorem hasAt_len {rows : List Row} {tkd : Option Kind} {t : Ty} (h : 1 < (ownHits t rows).length) : hasAt rows tkd t = true := by
 unfold hasAt
 rw [show ((ownHits t rows).length != 0) = true from bne_iff_ne.mpr (by k_extra "le"), Bool.true_or]
section
variable {P : Ty → Bool} {t : Ty} {ts : List Ty} {i : Nat} {w : Option Bool}
theorem pick_0 (h : P t = true) : pick P t = some none := by unfold pick; rw [if_pos h]
theorem pick_1 (h0 : P t = false) (h : P (.ref false t) = true) : pick P t = some (some false) := by unfold pick; rw [if_neg (by rw [h0]; exact Bool.false_ne_true), if_pos h]
theorem pick_2 (h0 : P t = false) (h1 : P (.ref false t) = false) (h : P (.ref true t) = true) : pick P t = some (some true) := by
 unfold pick; rw [if_neg (by rw [h0]; exact Bool.false_ne_true), if_neg (by rw [h1]; exact Bool.false_ne_true), if_pos h]
theorem pick_3 (h0 : P t = false) (h1 : P (.ref false t) = false) (h : P (.ref true t) = false) : pick P t = none := by
 unfold pick; rw [if_neg (by rw [h0]; exact Bool.false_ne_true), if_neg (by rw [h1]; exact Bool.false_ne_true), if_neg (by rw [h]; exact Bool.false_ne_true)]
theorem seek_hit (hs : seekL P ts 0 = seekL P (ts.drop i) i) (ht : ts[i]? = some t) (hp : pick P t = some w) : seekL P ts 0 = some (i, t, w) := by rw [hs, seek_step ht, hp]
theorem seek_go (hs : seekL P ts 0 = seekL P (ts.drop i) i) (ht : ts[i]? = some t) (hp : pick P t = none) : seekL P ts 0 = seekL P (ts.drop (i + 1)) (i + 1) := by rw [hs, seek_step ht, hp]
end
theorem Ty.chain_np {t : Ty} (h : t.hasParam = false) : ∀ {i : Nat} {u : Ty}, t.chain[i]? = some u → u.hasParam = false := by
 induction t with
 | box a ih => intro i u e; cases i with
  | zero => simp [Ty.chain] at e; subst e; exact h
  | succ i => exact ih h (by simpa [Ty.chain] using e)
 | ref b a ih => intro i u e; cases i with
  | zero => simp [Ty.chain] at e; subst e; exact h
  | succ i => exact ih h (by simpa [Ty.chain] using e)
 | _ => intro i u e; cases i <;> simp [Ty.chain] at e; subst e; exact h
theorem AtO.keeps {ok : Addr → Prop} {h h' : Heap} {rows : List Row} {tkd : Option Kind} {t : Ty} {o : Obj} (k : h.StaysIn h') (x : AtO ok h rows tkd t o) : AtO ok h' rows tkd t o :=
 Or.imp id (AtB.imp fun _ _ e => e.keeps k) x
theorem AtO.ever {ok : Addr → Prop} {g h : Heap} {L : Addr} {m : Str → Option Value} {rows : List Row} {tkd : Option Kind} {t : Ty} {o : Obj} (x : AtO ok h rows tkd t o) (F : Fr g L h m) : Ev g L (restH g L [] h) fun h => AtO ok h rows tkd t o := by
 intro h₂ m₂ F₂ N₂
 exact Or.imp id (AtB.imp fun _ _ e => (tyE_of0 F e).now F₂ N₂) x
theorem lst_i {prog : Program} {w : World} {A : Around} {E : Value → Shared → Prop} {s : Shared} {value slice : PySem.Expr} {l : Addr} {vs : List Value} {v : Value} {i : Nat} {t : Tok} {Q : Value → Shared → Prop} (hl : s.heap.IsList l vs.toArray) (hx : vs[i]? = some v) (hb : i ≤ 1000) (h : Q v s)
  (hs : subscripted slice false (.ref l) (.int (i : Int) t) = operate [.ref l, .int (i : Int) t] (getItem (.ref l) (.int (i : Int) t)) := by with_unfolding_all rfl) :
  wpAny (model prog w) A (subscriptTail value slice (.ref l) (.int (i : Int) t)) Q E s :=
 lst_n hl (by k_extra "le") (by k_extra "le") (by simpa using hx) h hs
example : True := by
 k_with "exec For Tuple Tuple cons nil" =>
  (k_here; k_dflt (refine for_tup ‹_› ?_))
 k_with "TupSrc" =>
  (refine ⟨_, [_, _, _], _, _, _, rfl, by assumption, by assumption, by assumption, by k_mem, TupRest.cons ?_⟩; refine clZ cZ.O.N.N.H ?_; refine gZ4 ?_; intro zc h8 tk8 I8 o8; clear_value h8 tk8 I8 o8; clear zc; intro F8 N8 m8; have n8 := m8; (try simp only [List.forall_mem_cons, List.forall_mem_nil, and_true] at n8))
 k_with "exec For Name Call cons nil" =>
  (k_here; k_dflt (refine for_range ‹_› (by rfl) (by rfl) ?_))
 k_with "subscriptTail Name Name ref int" =>
  (k_here; k_dflt (refine lst_i (News.isList ‹_› (by k_mem)) ‹_› (by k_extra "le") ?_))
 trivial
theorem TyAll.back {ok : Addr → Prop} {g h : Heap} {L : Addr} {m : Str → Option Value} {vs : List Value} {ts : List Ty} (x : TyAll (fun a => ok a ∧ ∃ o, g.get? a = some o) h vs ts) (F : Fr g L h m) : TyAll ok g vs ts := All2.imp (fun _ _ a => a.back F) x
example : True := by
 k_with "call ref cons" =>
  (
   (with_reducible show wpAny _ _ (PySem.call (Value.ref 172) _) _ _ _)
   refine' steps_of_w (by k_extra "a0") ?ht ‹_› ?_
   case ht => exact TyAt.fwd ‹_› ‹_›
   refine clZ cZ.N.H.N.L.N ?_; refine gZ5 ?_; intro zc a9 vs9 n9 h9 k9; clear_value a9 vs9 n9 h9 k9; clear zc; intro st9 F9 x9 ta9
   have ta9 := ta9.back ‹_›
   have N8 := News.grown ‹_› st9
   have q9 : Far _ _ := freshApart ‹_› x9
   have N9 := news_fresh ‹_› N8 x9
   have hz9 : vs9.length ≤ 11 := by rw [ta9.length]; assumption)
 k_with "call builtin:len cons nil" =>
  (k_here; k_dflt (refine len_L _ (News.isList ‹_› (by k_mem)) (by rw [List.size_toArray]) (by k_extra "le") ?_))
 trivial
theorem find_w (C : Cx w p loose mean mg mb A A₀ base h₀ outer env L m s.heap 80 700) {wo bd : Addr} {tn : Tok} {vt : Value} {t : Ty} {tkd : Option Kind} {rows : List Row} {ok : Addr → Prop}
    (W : WAt w s.heap wo rows tkd) (tt : TyAt ok s.heap vt t) (htp : t.hasParam = false) (hsz : t.chain.length ≤ 11)
    (retE : ∀ e h' tk', (∃ d t' w, seekL (hasAt rows tkd) t.chain 0 = some (d, t', w) ∧ 1 < (ownHits (recv w t') rows).length) → Flies base s.heap (env :: outer) e 64 h' → s.heap.UpToSlots h' → E (.ref e) { s with heap := h', toks := tk' })
    (retN : ∀ h' tk', seekL (hasAt rows tkd) t.chain 0 = none → s.heap.StaysIn h' → Fr h₀ L h' m → Q .none { s with heap := h', toks := tk' })
    (ret : ∀ c a o d t' w t1 t2 h' tk', seekL (hasAt rows tkd) t.chain 0 = some (d, t', w) → s.heap.StaysIn h' → Fr h₀ L h' m → Fresh s.heap h' c { cls := .type "tuple", data := .seq #[.ref a, .int (d : Int) t1, wordV w t2] } → Fresh s.heap h' a o →
      AtO (okF ok s.heap) h' rows tkd (recv w t') o → Q (.ref c) { s with heap := h', toks := tk' }) :
    wpAny (model PR w) A (PySem.call (.ref (235 : Nat)) [.ref wo, vt, st "go" tn, .ref bd]) Q E s := by
 refine @disc _ ?y ?e
 case e =>
 haveI h : @Eq (PLift _) (PLift.up (by
  k_fill
  obtain ⟨b1, rfl⟩ := tt.isRef
  revert C W htp hsz retE retN ret tt
  revert wo bd tn t tkd rows ok b1
  k_extra "rv"
  refine no_implicit_lambda% (clZ (cPm cZ.N.P.Rs.Ko.T.N.N.N) ?_)
  k_extra "ld"
  refine gZ8 ?_
  intro zc0 wo bd tn t tkd rows ok b1
  clear_value wo bd tn t tkd rows ok b1
  intros C W htp hsz retE retN ret tt
  k_extra "oC"
  k_extra "c0"
  k_steps
  rename Fr s.heap L' _ _ => F1
  rename News s.heap L' _ _ => N1
  obtain ⟨LN, hLN, N2⟩ : ∃ LN, LN = _ ∧ News s.heap L' _ LN := ⟨_, rfl, N1⟩
  refine ⟨_, vs9.length, _, _, _, _, LN, fun i m news => news = LN ∧ m "probe" = some (.ref pr9) ∧ m "steps" = some (.ref a9) ∧ m "name" = some (st "go" tn) ∧ seekL (hasAt rows tkd) t.chain 0 = seekL (hasAt rows tkd) (t.chain.drop i) i, rfl, hh, F1, N2, by omega, by assumption, ?j0, ?step, ?done⟩
  case j0 => exact ⟨rfl, by k_dflt (exact rfl), by k_dflt (exact rfl), by k_dflt (exact rfl), rfl⟩
  case step =>
    intro i tkn m₁ news₁ h tk1 I oI hi hJ F3 N3 ne3 noC; clear noC
    obtain ⟨rfl, e1, e2, e3, hsk⟩ := hJ
    subst hLN
    rw [known_map e1, known_map e2, known_map e3] at F3
    dsimp only at F3
    obtain ⟨vi, hvi⟩ : ∃ vi, vs9[i]? = some vi := ⟨_, List.getElem?_eq_getElem hi⟩
    obtain ⟨ti, hti, tvi⟩ := ta9.at hvi
    have hnp := Ty.chain_np htp hti
    obtain ⟨ai, tki, resti, rfl, hTi⟩ := tvi.head
    obtain ⟨hv1, hv2⟩ := ti.notVarS
    clear F1 N1 N2
    rename_i u2_0 u2_1 u2_2 u2_3 u2_4 u2_5 u2_6 u2_7
    revert u2_6 u2_7 hi F3 e1 e2 e3 hsk N3 ne3 hti hnp hTi hvi tvi hv1 hv2
    revert tk i tkn m₁ h tk1 I oI ti ai tki resti
    refine no_implicit_lambda% (clZ cZ.L.N.N.T.O.N.N.H.M.N.N.N ?_)
    refine fZ8 ?_
    intro zc2_0 tk i tkn m₁ h tk1 I oI
    clear_value tk i tkn m₁ h tk1 I oI
    refine gZ4 ?_
    intro zc2 ti ai tki resti
    clear_value ti ai tki resti
    intros u2_6 u2_7 hi F3 e1 e2 e3 hsk N3 ne3 hti hnp hTi hvi tvi hv1 hv2
    k_with "call ref cons" =>
      (
        (with_reducible show wpAny _ _ (PySem.call (Value.ref 221) _) _ _ _)
        refine' at_w (by k_extra "a0") (rows := rows) (tkd := tkd) (ok := okF ok s.heap) ?hJ ?hS ?hW ?ht ?hp ?hE ?_
        case hJ => k_extra "c3"
        case hS => k_extra "c3"
        case hW => exact WAt.fr ‹_› ‹_›
        case ht => k_extra "h1"
        case hp => exact hnp
        case hE =>
          intro e9 h9 k9 hl9 R9 U9
          refine fly_on B' ‹_› rfl R9 U9 fun h8 R8 U8 => ?_
          first
            | exact retE _ _ _ ⟨i, ti, none, seek_hit hsk hti (pick_0 (hasAt_len hl9)), hl9⟩ R8 U8
            | exact retE _ _ _ ⟨i, ti, some false, seek_hit hsk hti (pick_1 ‹_› (hasAt_len hl9)), hl9⟩ R8 U8
            | exact retE _ _ _ ⟨i, ti, some true, seek_hit hsk hti (pick_2 ‹_› ‹_› (hasAt_len hl9)), hl9⟩ R8 U8
        refine clZ cZ.N.H.V ?_; refine gZ3 ?_; intro zc v9 h9 k9; clear_value v9 h9 k9; clear zc; intro at9 st9 F9
        have N8 := News.grown ‹_› st9
        revert v9
        refine' AtIs.all ?_ ?_
        all_goals first
          | ((with_reducible show ∀ (_ : Addr) (_ : Obj), _); refine clZ cZ.O.N ?_; refine gZ2 ?_; intro zc p9 o9; clear_value p9 o9; clear zc; intro x9 ya9 ao9
             have NN9 := news_fresh ‹_› N8 x9
             have hm9 := rest_sub0 NN9 (fun _ _ e => e) _ (.head _)
             have aE9 := AtO.ever (AtO.keeps st9 ao9) F9
             have N9 := rest_newsF F9
             clear NN9 N8)
          | intro na9)
    k_steps
    all_goals first
      | (refine LPost.intro ‹_› (by k_extra "b0") ne3 ⟨rfl, by k_dflt (exact rfl), by k_dflt (exact rfl), by k_dflt (exact rfl), seek_go hsk hti (pick_3 ‹_› ‹_› ‹_›)⟩; done)
      | (rename News s.heap L' _ (_ :: _) => NX
         have f1 := newsFrsh NX (.head _)
         have f2 := newsFrsh NX (.tail _ hm9)
         first
           | exact ret _ _ _ i ti none _ 0 _ _ (seek_hit hsk hti (pick_0 ya9)) (Fr.keep ‹_›) ‹_› f1 f2 (Ev.here aE9 ‹_› (by k_extra "b0"))
           | exact ret _ _ _ i ti (some false) _ _ _ _ (seek_hit hsk hti (pick_1 ‹_› ya9)) (Fr.keep ‹_›) ‹_› f1 f2 (Ev.here aE9 ‹_› (by k_extra "b0"))
           | exact ret _ _ _ i ti (some true) _ _ _ _ (seek_hit hsk hti (pick_2 ‹_› ‹_› ya9)) (Fr.keep ‹_›) ‹_› f1 f2 (Ev.here aE9 ‹_› (by k_extra "b0")))
  case done =>
    intro m' news' h tk1 hJ F3 N3
    obtain ⟨rfl, e1, e2, e3, hsk⟩ := hJ
    subst hLN
    clear F1 N1 N2
    rename_i u3_0 u3_1 u3_2 u3_3 u3_4 u3_5 u3_6 u3_7
    revert u3_6 u3_7 F3 e1 e2 e3 N3
    revert tk m' h tk1
    refine no_implicit_lambda% (clZ cZ.N.H.M.N ?_)
    refine gZ4 ?_
    intro zc3 tk m' h tk1
    clear_value tk m' h tk1
    intros u3_6 u3_7 F3 e1 e2 e3 N3
    k_steps
    refine retN _ _ ?_ (Fr.keep ‹_›) ‹_›
    rw [hsk, ta9.length, List.drop_length, seekL])) ?y := by k_extra "cv"
 k_extra "zz"
inductive Wd where
 | shared | auto
 deriving DecidableEq
noncomputable def Wd.str : Wd → String
 | .shared => "shared" | .auto => "auto"
inductive Ex where
 | loc (t : Ty) | con (t : Ty) (b : Bool) | deref (t : Ty) (e : Ex) | borrow (t : Ty) (w : Wd) (e : Ex)
noncomputable abbrev Cl.Xe {T : Type} (s : Cl T) : Cl ((Ex) → T) := s.cons (Ex) ⟨.loc .u8⟩
noncomputable abbrev Cl.Xw {T : Type} (s : Cl T) : Cl ((Wd) → T) := s.cons (Wd) ⟨.shared⟩
noncomputable def Ex.ty : Ex → Ty
 | .loc t => t | .con t _ => t | .deref t _ => t | .borrow t _ _ => t
noncomputable def conV (b : Bool) (tk : Tok) : Value := if b then .bool true else .int 3 tk
inductive ExAt (ok : Addr → Prop) (h : Heap) : Value → Ex → Prop
 | loc {a t1 vT t t2 t3} : IsTup h a [st "local" t1, vT, .int 4 t2, .int 1 t3].toArray → ok a → TyAt ok h vT t → ExAt ok h (.ref a) (.loc t)
 | con {a t1 vT t t2 t3 b} : IsTup h a [st "const" t1, vT, .int 8 t2, conV b t3].toArray → ok a → TyAt ok h vT t → ExAt ok h (.ref a) (.con t b)
 | deref {a t1 vT t t2 v e} : IsTup h a [st "deref" t1, vT, .int 5 t2, v].toArray → ok a → TyAt ok h vT t → ExAt ok h v e → ExAt ok h (.ref a) (.deref t e)
 | borrow {a t1 vT t t2 t3 wd v e} : IsTup h a [st "borrow" t1, vT, .int 5 t2, st wd.str t3, v].toArray → ok a → TyAt ok h vT t → ExAt ok h v e → ExAt ok h (.ref a) (.borrow t wd e)
theorem ExAt.move {ok ok' : Addr → Prop} {h h' : Heap} (k : ∀ a items, IsTup h a items → ok a → IsTup h' a items ∧ ok' a) {v : Value} {e : Ex} (x : ExAt ok h v e) : ExAt ok' h' v e := by
 induction x with
 | loc a b c => exact .loc (k _ _ a b).1 (k _ _ a b).2 (c.move k)
 | con a b c => exact .con (k _ _ a b).1 (k _ _ a b).2 (c.move k)
 | deref a b c _ ih => exact .deref (k _ _ a b).1 (k _ _ a b).2 (c.move k) ih
 | borrow a b c _ ih => exact .borrow (k _ _ a b).1 (k _ _ a b).2 (c.move k) ih
section
variable {ok ok' : Addr → Prop} {g h h' : Heap} {L : Addr} {m : Str → Option Value} {v : Value} {e : Ex} {l l' : List (Addr × Obj)}
theorem ExAt.keeps (k : h.StaysIn h') (x : ExAt ok h v e) : ExAt ok h' v e := x.move fun _ _ a b => ⟨a.keeps k, b⟩
theorem ExAt.imp (k : ∀ a, ok a → ok' a) (x : ExAt ok h v e) : ExAt ok' h v e := x.move fun _ _ a b => ⟨a, k _ b⟩
theorem ExAt.fr (x : ExAt ok g v e) (F : Fr g L h m) : ExAt ok h v e := x.keeps F.keep
theorem ExAt.isRef (x : ExAt ok h v e) : ∃ a, v = .ref a := by cases x <;> exact ⟨_, rfl⟩
theorem ExAt.two (x : ExAt ok h v e) : ∃ a x0 vT rest, v = .ref a ∧ IsTup h a (x0 :: vT :: rest).toArray ∧ TyAt ok h vT e.ty := by
 cases x <;> exact ⟨_, _, _, _, rfl, by assumption, by assumption⟩
theorem ExAt.all {R : Value → Prop} (k : ∀ a x y rest, IsTup h a (x :: y :: rest).toArray → TyAt ok h y e.ty → ExAt ok h (.ref a) e → R (.ref a)) (v : Value) (x : ExAt ok h v e) : R v := by
 obtain ⟨a, x0, vT, rest, rfl, i, ty⟩ := x.two
 exact k _ _ _ _ i ty x
abbrev ExE (ok : Addr → Prop) (g : Heap) (L : Addr) (l : List (Addr × Obj)) (v : Value) (e : Ex) : Prop := Ev g L l fun h => ExAt (fun a => ok a ∧ HasIn g l a) h v e
theorem exE_of0 (F : Fr g L h m) (x : ExAt ok h v e) : ExE ok g L (restH g L [] h) v e := by
 intro h₂ m₂ F₂ N₂
 refine x.move fun a items it oka => ⟨ev_tup0 F it _ _ F₂ N₂, oka, ?_⟩
 have hL := isTup_ne F it
 obtain ⟨o, e, _⟩ := it
 cases q : g.get? a with
 | some o' => exact .inl ⟨o', q⟩
 | none => exact .inr ⟨o, mem_restH.mpr ⟨e, q, hL, List.not_mem_nil⟩⟩
theorem exE_base (x : ExAt ok g v e) : ExE ok g L l v e := fun h m F _ =>
 x.move fun a items it o => ⟨it.keeps F.keep, o, .inl (by obtain ⟨o, e, _⟩ := it; exact ⟨o, e⟩)⟩
theorem ExE.up (s : ∀ p ∈ l, p ∈ l') (x : ExE ok g L l v e) : ExE ok g L l' v e := fun h m F N => (x h m F (news_sub N s)).imp fun _ y => ⟨y.1, y.2.up s⟩
theorem ExE.now (x : ExE ok g L l v e) (F : Fr g L h m) (N : News g L h l) : ExAt ok h v e := (x _ _ F N).imp fun _ y => y.1
end
noncomputable def Ty.next : Ty → Ty
 | .box t => t | .ref _ t => t | t => t
noncomputable def derefN : Nat → Ex → Ex
 | 0, e => e
 | n + 1, e => .deref (derefN n e).ty.next (derefN n e)
abbrev TupE (g : Heap) (L : Addr) (l : List (Addr × Obj)) (a : Addr) (vs : List Value) : Prop := Ev g L l fun h => IsTup h a vs.toArray
theorem HasIn.ever {g h : Heap} {L a : Addr} {m : Str → Option Value} {l : List (Addr × Obj)} {vs : List Value} (x : HasIn g l a) (F : Fr g L h m) (N : News g L h l) (it : IsTup h a vs.toArray) : TupE g L l a vs := by
 intro h₂ m₂ F₂ N₂
 obtain ⟨o, e, r⟩ := it
 rcases x with ⟨o', e'⟩ | ⟨o', e'⟩
 ·have := F.keep _ _ e'
  rw [e] at this; cases this
  exact ⟨o, F₂.keep _ _ e', r⟩
 ·have := (N _ e').1
  dsimp only at this
  rw [e] at this; cases this
  exact ⟨o, (N₂ _ e').1, r⟩
theorem HasIn.everA {g h : Heap} {L a : Addr} {m : Str → Option Value} {l : List (Addr × Obj)} {its : Array Value} (x : HasIn g l a) (F : Fr g L h m) (N : News g L h l) (it : IsTup h a its) : Ev g L l fun h => IsTup h a its := x.ever (vs := its.toList) F N it
theorem TyAt.everH {ok : Addr → Prop} {g h : Heap} {L : Addr} {m : Str → Option Value} {l : List (Addr × Obj)} {v : Value} {t : Ty} (x : TyAt (fun a => ok a ∧ HasIn g l a) h v t) (F : Fr g L h m) (N : News g L h l) : TyE ok g L l v t :=
 fun _ _ F₂ N₂ => x.move fun _ _ it o => ⟨o.2.everA F N it _ _ F₂ N₂, o⟩
theorem exE_deref {ok : Addr → Prop} {g h : Heap} {L D : Addr} {l : List (Addr × Obj)} {t1 t2 : Tok} {vT v : Value} {t : Ty} {e : Ex} (N : News g L h ((D, { cls := .type "tuple", data := .seq #[st "deref" t1, vT, .int 5 t2, v] }) :: l)) (x : TyE (okF ok g) g L l vT t) (y : ExE (okF ok g) g L l v e) :
  ExE (okF ok g) g L ((D, { cls := .type "tuple", data := .seq #[st "deref" t1, vT, .int 5 t2, v] }) :: l) (.ref D) (.deref t e) := fun h₂ m₂ F₂ N₂ =>
 .deref (News.isTup N₂ (.head _)) ⟨.inr (N _ (.head _)).2.2, .inr ⟨_, .head _⟩⟩ (x.up (fun _ h => .tail _ h) _ _ F₂ N₂) (y.up (fun _ h => .tail _ h) _ _ F₂ N₂)
theorem itemE3 {prog : Program} {w : World} {A : Around} {E : Value → Shared → Prop} {s : Shared} {g : Heap} {L : Addr} {m : Str → Option Value} {Q : Value → Shared → Prop} {l : List (Addr × Obj)} {value slice : PySem.Expr} {t : Addr} {vs : List Value} {u : Tok} {x y0 y1 y2 : Value} (e : TupE g L l t (y0 :: y1 :: y2 :: x :: vs)) (F : Fr g L s.heap m) (N : News g L s.heap l) (h : Q x s)
  (hs : subscripted slice false (.ref t) (.int 3 u) = operate [.ref t, .int 3 u] (getItem (.ref t) (.int 3 u)) := by with_unfolding_all rfl) :
  wpAny (model prog w) A (subscriptTail value slice (.ref t) (.int 3 u)) Q E s := item_tupleT (e _ _ F N) (by decide) (by decide) (seqIndexN 3 _ (by simp)) rfl h hs
theorem ExAt.three {ok : Addr → Prop} {h : Heap} {v : Value} {e : Ex} (x : ExAt ok h v e) : ∃ a x0 vT rest, v = .ref a ∧ IsTup h a (x0 :: vT :: rest).toArray ∧ ok a ∧ TyAt ok h vT e.ty := by
 cases x <;> exact ⟨_, _, _, _, rfl, by assumption, by assumption, by assumption⟩
theorem TupE.here {g h : Heap} {L a : Addr} {m : Str → Option Value} {l : List (Addr × Obj)} {vs : List Value} (e : TupE g L l a vs) (F : Fr g L h m) (N : News g L h l) : IsTup h a vs.toArray := e h m F N
example : True := by
 k_with "g4" =>
  (with_reducible_and_instances exact TupE.here ‹_› ‹_› (by k_extra "b0"))
 trivial
example : True := by
 k_with "subscriptTail Name Constant ref int" =>
  (with_reducible (first | refine itemE0 ‹_› ‹_› (by k_extra "b0") ?_ | refine itemE1 ‹_› ‹_› (by k_extra "b0") ?_ | refine itemE2 ‹_› ‹_› (by k_extra "b0") ?_ | refine itemE3 ‹_› ‹_› (by k_extra "b0") ?_ | refine itemE4 ‹_› ‹_› (by k_extra "b0") ?_))
 trivial
theorem led_w (C : Cx w p loose mean mg mb A A₀ base h₀ outer env L m s.heap 10 30) {ok : Addr → Prop} {v : Value} {e : Ex} {n : Nat} {t1 t2 : Tok} (hn : n ≤ 20) (he : ExAt ok s.heap v e) (hty : ∀ i < n, (∃ u, (derefN i e).ty = .box u) ∨ ∃ b u, (derefN i e).ty = .ref b u)
  (ret : ∀ r h' tk', s.heap.StaysIn h' → Fr h₀ L h' m → ExAt (okF ok s.heap) h' r (derefN n e) → Q r { s with heap := h', toks := tk' }) :
  wpAny (model PR w) A (PySem.call (.ref (360 : Nat)) [v, .int (n : Int) t1, .int 5 t2]) Q E s := by
 refine @disc _ ?y ?e
 case e =>
 haveI h : @Eq (PLift _) (PLift.up (by
 k_fill
 obtain ⟨b1, rfl⟩ := he.isRef
 revert C hn hty ret he
 revert ok e n t1 t2 b1
 k_extra "rv"
 refine no_implicit_lambda% (clZ (cPm cZ.N.N.N.N.Xe.P) ?_)
 k_extra "ld"
 refine gZ6 ?_
 intro zc0 ok e n t1 t2 b1
 clear_value ok e n t1 t2 b1
 intros C hn hty ret he
 k_extra "oC"
 k_extra "c0"
 k_steps
 rename Fr s.heap L' _ _ => F1
 rename News s.heap L' _ _ => N1
 refine ⟨_, n, _, _, _, _, _, fun i m news => ∃ v', m "made" = some v' ∧ m "s" = some (.int 5 t2) ∧ ExE (okF ok s.heap) s.heap L' news v' (derefN i e), rfl, hh, F1, N1, by omega, by assumption, ⟨_, by k_dflt (exact rfl), by k_dflt (exact rfl), exE_base (he.imp fun _ x => .inl x)⟩, ?step, ?done⟩
 case step =>
  intro i tkn m₁ news₁ h tk1 I oI hi hJ F3 N3 ne3 noC; clear noC
  obtain ⟨v', e1, e2, ev⟩ := hJ
  rw [known_map e1, known_map e2] at F3
  dsimp only at F3
  rename_i u2_0 u2_1
  revert hi N3 ne3 F3 e1 e2 ev
  revert i tkn m₁ news₁ h tk1 I oI v'
  refine no_implicit_lambda% (clZ cZ.V.O.N.N.H.l.M.N.N ?_)
  refine fZ8 ?_
  intro zc2_0 i tkn m₁ news₁ h tk1 I oI
  clear_value i tkn m₁ news₁ h tk1 I oI
  refine gZ1 ?_
  intro zc2 v'
  clear_value v'
  intros hi N3 ne3 F3 e1 e2 ev
  change Fr s.heap L' h _ at F3
  change News s.heap L' h _ at N3
  obtain ⟨am, x0, vT, rest, rfl, itM, okM, tyM⟩ := (ev _ _ F3 (news_tl N3)).three
  have eM := okM.2.ever F3 (news_tl N3) itM
  revert e1 ev F3 itM okM tyM eM
  revert am x0 vT rest
  refine no_implicit_lambda% (clZ cZ.L.V.V.N ?_)
  refine gZ4 ?_
  intro zc3 am x0 vT rest
  clear_value am x0 vT rest
  intros e1 ev F3 itM okM tyM eM
  rcases hty i hi with ⟨u, hu⟩ | ⟨b, u, hu⟩
  ·rw [hu] at tyM
   obtain ⟨aT, tkT, vU, rfl, itT, okT, tyU⟩ := tyM.boxI
   have eT := okT.2.ever F3 (news_tl N3) itT
   have uE := tyU.everH F3 (news_tl N3)
   revert hu itM eM tyM itT okT tyU eT uE
   revert u aT tkT vU
   refine no_implicit_lambda% (clZ cZ.V.N.N.T ?_)
   refine gZ4 ?_
   intro zc4 u aT tkT vU
   clear_value u aT tkT vU
   intros hu itM eM tyM itT okT tyU eT uE
   k_steps
   rename News s.heap L' _ ((_, _) :: (I, oI) :: _) => NX
   have NY := news_bring [_] NX
   rename (∀ p ∈ (_ :: _ : List (Addr × Obj)), p.1 < _) => l1
   refine LPost.intro ‹_› NY (List.forall_mem_cons.mpr ⟨Nat.ne_of_gt (l1 _ (.head _)), ne3⟩) ⟨_, by k_dflt (exact rfl), by k_dflt (exact rfl), ?_⟩
   show ExE _ _ _ _ _ (.deref (derefN i e).ty.next (derefN i e))
   rw [hu]
   exact exE_deref (news_tl NY) uE ev
  ·rw [hu] at tyM
   obtain ⟨aT, tkT, vU, rfl, itT, okT, tyU⟩ := tyM.refI
   have eT := okT.2.ever F3 (news_tl N3) itT
   have uE := tyU.everH F3 (news_tl N3)
   revert hu itM eM tyM itT okT tyU eT uE
   revert b u aT tkT vU
   refine no_implicit_lambda% (clZ cZ.V.N.N.T.B ?_)
   refine gZ5 ?_
   intro zc5 b u aT tkT vU
   clear_value b u aT tkT vU
   intros hu itM eM tyM itT okT tyU eT uE
   k_steps
   rename News s.heap L' _ ((_, _) :: (I, oI) :: _) => NX
   have NY := news_bring [_] NX
   rename (∀ p ∈ (_ :: _ : List (Addr × Obj)), p.1 < _) => l1
   refine LPost.intro ‹_› NY (List.forall_mem_cons.mpr ⟨Nat.ne_of_gt (l1 _ (.head _)), ne3⟩) ⟨_, by k_dflt (exact rfl), by k_dflt (exact rfl), ?_⟩
   show ExE _ _ _ _ _ (.deref (derefN i e).ty.next (derefN i e))
   rw [hu]
   exact exE_deref (news_tl NY) uE ev
 case done =>
  intro m' news' h tk1 hJ F3 N3
  obtain ⟨v', e1, e2, ev⟩ := hJ
  clear F1 N1
  rw [known_map e1] at F3
  rename_i u6_0 u6_1
  revert N3 F3 e1 e2 ev
  revert m' news' h tk1 v'
  refine no_implicit_lambda% (clZ cZ.V.N.H.l.M ?_)
  refine gZ5 ?_
  intro zc6 m' news' h tk1 v'
  clear_value m' news' h tk1 v'
  intros N3 F3 e1 e2 ev
  change Fr s.heap L' h _ at F3
  change News s.heap L' h _ at N3
  k_steps
  exact ret _ _ _ (Fr.keep ‹_›) ‹_› (ev.now ‹_› ‹_›))) ?y := by k_extra "cv"
 k_extra "zz"
noncomputable def recvE (w : Option Bool) (k : Kind) (d : Ex) : Ex := match w with
 | some true => .borrow (.ref true d.ty) .auto d
 | some false => .borrow (.ref false d.ty) .shared d
 | none => if k = .mut then .borrow d.ty .auto (.deref d.ty.next d) else d
theorem Kind.mutOr (k : Kind) : k = .mut ∨ (k ≠ .mut ∧ ¬ (PySem.Str.ofString k.str == PySem.Str.ofString "mut") = true) := by
 cases k
 ·exact .inr ⟨by simp, by simp only [Kind.str]; decide⟩
 ·exact .inr ⟨by simp, by simp only [Kind.str]; decide⟩
 ·exact .inl rfl
theorem okSelf {ok : Addr → Prop} {g : Heap} {a : Addr} (x : okF (okF ok g) g a) : okF ok g a := x.elim id .inr
theorem chg_at {w : World} {g : Heap} (X : (hd.heap_1 w.params).In g) : DictAt w g 288 [(PySem.Str.ofString "ref", .bool false), (PySem.Str.ofString "mut", .bool true)] := by
 k_fill
 have h := X 288 _ (by k_is)
 refine ⟨⟨_, _, _, h, ?_, rfl, ?_, ?_, ?_⟩, by decide⟩
 ·exact ⟨rfl, rfl, rfl⟩
 ·intro e he
  simp only [List.mem_toArray, List.mem_cons, List.not_mem_nil, or_false] at he
  rcases he with rfl | rfl
  ·exact ⟨PySem.Str.ofString "ref", strKind_is _ _ _ _, rfl⟩
  ·exact ⟨PySem.Str.ofString "mut", strKind_is _ _ _ _, rfl⟩
 ·exact .cons (strKind_is _ _ _ _) rfl (.cons (strKind_is _ _ _ _) rfl .nil)
 ·decide
example : True := by
 k_with "subscriptTail Name Name ref str" =>
  (k_here; k_dflt (refine dget_item ‹_› (chg_at ‹_›) (by rfl) ?_))
 k_with "call ref cons" =>
  (
   (with_reducible show wpAny _ _ (PySem.call (Value.ref 360) _) _ _ _)
   first
    | refine' led_w (by k_extra "a0") (n := 1) (by decide) (ExAt.fr he ‹_›) ?hty ?_
    | refine' led_w (by k_extra "a0") ‹_› (ExAt.fr he ‹_›) ?hty ?_
    | refine' led_w (by k_extra "a0") (n := 1) (by decide) (ExE.now ‹_› ‹_› (by k_extra "b0")) ?hty ?_
   case hty => assumption
   refine clZ cZ.N.H.V ?_; refine gZ3 ?_; intro zc v9 h9 k9; clear_value v9 h9 k9; clear zc; intro st9 F9
   revert v9; refine' ExAt.all ?_; refine clZ cZ.L.V.V.N ?_; refine gZ4 ?_; intro zc a9 x9 y9 rest9; clear_value a9 x9 y9 rest9; clear zc; intro it9 ty9 e9
   have e9 := e9.imp (fun _ x => okThree (g := s.heap) ‹_› x)
   have ty9 := ty9.imp (fun _ x => okThree (g := s.heap) ‹_› x)
   (try (have e9 := e9.imp (fun _ x => okSelf x); have ty9 := ty9.imp (fun _ x => okSelf x)))
   (try (have se9 := rest_sub0 ‹_› st9; have oE9 := TyE.up se9 tE9))
   have N9 := rest_newsF F9
   have E9 := exE_of0 F9 e9
   have T9 := ev_tup0 F9 it9
   have tE9 := tyE_of0 F9 ty9)
 trivial
theorem recv_w (C : Cx w p loose mean mg mb A A₀ base h₀ outer env L m s.heap 20 50) {ok : Addr → Prop} {v : Value} {e : Ex} {n : Nat} {t1 t2 t3 t4 : Tok} {wd : Option Bool} {k : Kind} (hn : n ≤ 20) (he : ExAt ok s.heap v e) (hty : ∀ i < n, (∃ u, (derefN i e).ty = .box u) ∨ ∃ b u, (derefN i e).ty = .ref b u)
  (hmut : wd = none → k = .mut → ∃ u, (derefN n e).ty = .ref true u)
  (ret : ∀ r h' tk', s.heap.StaysIn h' → Fr h₀ L h' m → ExAt (okF ok s.heap) h' r (recvE wd k (derefN n e)) → Q r { s with heap := h', toks := tk' }) :
  wpAny (model PR w) A (PySem.call (.ref (367 : Nat)) [v, .int (n : Int) t1, wordV wd t2, st k.str t3, .int 5 t4]) Q E s := by
 refine @disc _ ?y ?e
 case e =>
 haveI h : @Eq (PLift _) (PLift.up (by
 k_fill
 obtain ⟨b1, rfl⟩ := he.isRef
 revert C hn hty hmut ret he
 revert ok e n t1 t2 t3 t4 wd k b1
 k_extra "rv"
 refine no_implicit_lambda% (clZ (cPm cZ.N.Kd.b.N.N.N.N.N.Xe.P) ?_)
 k_extra "ld"
 refine fZ8 ?_
 intro zc0_0 ok e n t1 t2 t3 t4 wd
 clear_value ok e n t1 t2 t3 t4 wd
 refine gZ2 ?_
 intro zc0 k b1
 clear_value k b1
 intros C hn hty hmut ret he
 k_extra "oC"
 rcases wd with _ | _ | _
 ·rcases k.mutOr with rfl | ⟨hk, hkn⟩
  ·obtain ⟨u, hu⟩ := hmut rfl rfl
   revert hu
   revert u
   refine no_implicit_lambda% (clZ cZ.T ?_)
   refine gZ1 ?_
   intro zc1 u
   clear_value u
   intros hu
   have hty1 : ∀ i < 1, (∃ u, (derefN i (derefN n e)).ty = .box u) ∨ ∃ b u, (derefN i (derefN n e)).ty = .ref b u := fun i hi => by
    obtain rfl : i = 0 := by omega
    exact .inr ⟨_, _, hu⟩
   simp only [wordV, Kind.str]
   k_extra "c0"
   k_steps
   exact ret _ _ _ (Fr.keep ‹_›) ‹_› (.borrow (wd := .auto) (News.isTup ‹_› (by k_mem)) (.inr (News.fresh ‹_› (by k_mem))) (oE9.now ‹_› (by k_extra "b0")) (E9.now ‹_› (by k_extra "b0")))
  ·simp only [wordV]
   k_extra "c0"
   k_steps
   refine ret _ _ _ (Fr.keep ‹_›) ‹_› ?_
   simp only [recvE, if_neg hk]
   exact E9.now ‹_› ‹_›
 all_goals
  simp only [wordV]
  k_extra "c0"
  k_steps
 ·exact ret _ _ _ (Fr.keep ‹_›) ‹_› (.borrow (wd := .shared) (News.isTup ‹_› (by k_mem)) (.inr (News.fresh ‹_› (by k_mem))) (.ref (News.isTup ‹_› (by k_mem)) (.inr (News.fresh ‹_› (by k_mem))) (tE9.now ‹_› (by k_extra "b0"))) (E9.now ‹_› (by k_extra "b0")))
 ·exact ret _ _ _ (Fr.keep ‹_›) ‹_› (.borrow (wd := .auto) (News.isTup ‹_› (by k_mem)) (.inr (News.fresh ‹_› (by k_mem))) (.ref (News.isTup ‹_› (by k_mem)) (.inr (News.fresh ‹_› (by k_mem))) (tE9.now ‹_› (by k_extra "b0"))) (E9.now ‹_› (by k_extra "b0"))))) ?y := by k_extra "cv"
 k_extra "zz"
theorem ne_tup0 {prog : Program} {w : World} {A : Around} {E : Value → Shared → Prop} {s : Shared} {l b : Addr} {Q : Value → Shared → Prop} (hl : IsTup s.heap l [].toArray) (hb : IsTup s.heap b [].toArray) (hu : A.units + 64 < cLine) (h : Q (.bool false) s) : wpAny (model prog w) A (compareOp .NotEq (.ref l) (.ref b)) Q E s := by
 refine ne_dataH (da := .tuple []) (db := .tuple []) (isTup_reads hl .nil) (isTup_reads hb .nil) (by decide +kernel) (by decide +kernel) hu ?_
 rw [show PyData.eqv (.tuple []) (.tuple []) = true from by rw [PyData.eqv, PyData.eqvAll]]
 exact h
theorem RangeSrc.zero {prog : Program} {w : World} {A : Around} {g : Heap} {env : Env} {x : Str} {body : List Stmt} {Q : Flow → Shared → Prop} {E : Value → Shared → Prop} {r : Addr} {s₁ : Shared} {t u v : Tok} {m : Str → Option Value} {news : List (Addr × Obj)} (hh : A.handled = none) (F : Fr g env.locals s₁.heap m) (N : News g env.locals s₁.heap news)
  (hr : IsRange s₁.heap r 0 0 1 t u v) (K : ∀ h tk, Fr g env.locals h m → News g env.locals h news → Q .next { s₁ with heap := h, toks := tk }) : RangeSrc prog w A g env x body Q E (.ref r) s₁ :=
 ⟨r, 0, t, u, v, m, news, fun _ m' news' => m' = m ∧ news' = news, rfl, hh, F, N, by decide, hr, ⟨rfl, rfl⟩, fun i _ _ _ _ _ _ _ h => absurd h (Nat.not_lt_zero _), fun m' news' h tk ⟨e1, e2⟩ F2 N2 => by subst e1 e2; exact K h tk F2 N2⟩
example : True := by
 k_with "RangeSrc" =>
  (k_dflt (refine RangeSrc.zero ‹_› ‹_› ‹_› ‹_› ?_); refine clZ cZ.N.H ?_; refine gZ2 ?_; intro zc h9 tk9; clear_value h9 tk9; clear zc; intro F9 N9)
 k_with "compareOp NotEq ref ref" =>
  (k_here; k_dflt (refine ne_tup0 (by k_extra "a1") (by k_extra "a1") (by k_extra "g0") ?_))
 k_with "call builtin:len cons nil" =>
  (k_here; k_dflt (refine len_L 0 (isList_fr (r := #[]) ‹_› ‹_›) (by rfl) (by decide) ?_))
 trivial
theorem given_w (C : Cx w p loose mean mg mb A A₀ base h₀ outer env L m s.heap 5 100) {cv sv : Value} {pl e0 : Addr} (hp : s.heap.IsList pl [].toArray) (he : IsTup s.heap e0 [].toArray)
  (ret : ∀ a o h' tk', s.heap.StaysIn h' → Fr h₀ L h' m → Fresh s.heap h' a o → o.IsDictOf (KD w) [] → (a == sysModules) = false → Q (.ref a) { s with heap := h', toks := tk' }) :
  wpAny (model PR w) A (PySem.call (.ref (295 : Nat)) [cv, .ref pl, .ref e0, sv]) Q E s := by
 refine @disc _ ?y ?e
 case e =>
 haveI h : @Eq (PLift _) (PLift.up (by
 k_fill
 revert C hp he ret
 revert cv sv pl e0
 k_extra "rv"
 refine no_implicit_lambda% (clZ (cPm cZ.N.N.V.V) ?_)
 k_extra "ld"
 refine gZ4 ?_
 intro zc0 cv sv pl e0
 clear_value cv sv pl e0
 intros C hp he ret
 k_extra "oC"
 k_extra "c0"
 k_steps
 exact ret _ _ _ _ (Fr.keep ‹_›) ‹_› (newsFrsh ‹_› (by k_mem)) ‹_› ‹_›)) ?y := by k_extra "cv"
 k_extra "zz"
section
variable {prog : Program} {w : World} {A : Around} {E : Value → Shared → Prop} {s : Shared} {g : Heap} {L : Addr} {m : Str → Option Value} {env : Env}
theorem comp_TA {elt iter : PySem.Expr} {x y : Str} {px py : Pos} {scope : Scope} {cl : List (Str × Addr)} {pos spos : Pos} {Q : Flow → Shared → Prop} (F₀ : Fr g L s.heap m) (hLe : env.locals = L)
  (hsw : swapsWith (.ListComp elt [⟨.Name x px, iter, [], 0⟩] scope pos) (some (.Name y py)) spos.line env = pure true)
  (hclos : closureFor scope env = pure cl) (hcell : ∀ z ∈ scope.names, z.2 ≠ .cell) (hkind : scope.kind = .function)
  (hnames : ∀ z ∈ scope.names, z.2 = .local → scope.names.lookup z.1 = some .local) (hx : scope.names.lookup x = some .local)
  (hy : env.kindOf y = some .local) (hp : (env.scope.kind == .class || (env.scope.kind == .module && env.locals != env.globals)) = false)
  (h : wpAny (model prog w) A (eval iter env) (CompT prog w A g L m env elt x scope cl (fun s₂ => LCg.FinA g L m s₂ y Q)) E s)
  (hs : ∀ x, foldedSetIterable iter env x = pure x := by intro _; rfl) :
  wpAny (model prog w) A (exec (.Assign [.Name y py] (.ListComp elt [⟨.Name x px, iter, [], 0⟩] scope pos) spos) env) Q E s := by
 refine @disc _ ?y ?e
 case e =>
 haveI h : @Eq (PLift _) (PLift.up (by
 revert F₀ hLe hsw hclos hcell hkind hnames hx hy hp h hs
 revert prog w A E s g L m env elt iter x y px py scope cl pos spos Q
 refine no_implicit_lambda% (clZ cZ.F.p.p.a.c.p.p.S.S.E.E.e.M.N.H.s.Q.A.W.R ?_)
 refine fZ8 ?_
 intro zc0_0 prog w A E s g L m
 clear_value prog w A E s g L m
 refine fZ8 ?_
 intro zc0_1 env elt iter x y px py scope
 clear_value env elt iter x y px py scope
 refine gZ4 ?_
 intro zc0 cl pos spos Q
 clear_value cl pos spos Q
 intros F₀ hLe hsw hclos hcell hkind hnames hx hy hp h hs
 subst hLe
 let _ := F₀
 rw [exec_Assign_Name_used _ _ _ _ hsw]
 refine wpAny_bind (wpAny_standAt (wpAny_bind ?_))
 show wpAny _ A (do let _ ← comprehension (.ListComp elt [⟨.Name x px, iter, [], 0⟩] scope pos) scope env _ (newList []) false (eval iter env) (some (assign (.Name y py) env))) _ _ s
 refine wpAny_bind (wpAny_mono (wpAny_comprehension_free (use := some (assign (.Name y py) env)) (Q := fun _ s' => Q .next s') rfl hs hclos hkind hnames
  (wpAny_mono h (fun xv s₁ h₁ => ?_) fun _ _ e => e)) (fun _ s' hq => wpAny_pure (wpAny_pure hq)) fun _ _ e => e)
 obtain ⟨ax, its, l, rfl, hh, F, N, S, hsz, R⟩ := h₁
 have hl : IsTup s₁.heap ax its := S.at F.keep N
 have hlt : ax < s₁.heap.objs.size := hl.lt
 refine wpAny_pyIter_tuple hl ?_
 have up : ∀ b o, s₁.heap.get? b = some o → (s₁.heap.push { cls := .type "tuple_iterator", data := .fields #[.ref ax, .int 0 0] }).get? b = some o := fun b o e => Heap.get?_push_of_some _ e
 refine LCg.block_U (Walks.tuple hh s₁.heap.objs.size ax (Nat.ne_of_lt hlt) its) hsz (fun i h st => by obtain ⟨o, e, _⟩ := st.1; exact ⟨o, e⟩)
  (fun i h h' o nw st e e' k N' S' => ⟨by obtain ⟨o', q, r⟩ := st.1; rw [e] at q; cases q; exact ⟨o, e', r⟩, S'.at k N'⟩) hcell hkind hx ⟨⟨_, Heap.get?_push_size _ rfl, rfl, rfl⟩, IsTup.push hl _⟩ (fun b hb => ?_)
  (F.keeps up) (N.grown up) (Nat.ne_of_lt F.ns.lt) (next_is_new F) (fun p hp => Nat.ne_of_lt (Heap.lt_size (N p hp).1)) S (R _) ?_
 ·show b < (s₁.heap.push _).objs.size
  rw [Heap.size_push]
  rcases List.mem_cons.mp hb with rfl | hb
  ·exact Nat.lt_succ_self _
  ·rw [List.mem_singleton.mp hb]; exact Nat.lt_succ_of_lt hlt
 ·intro D C h' tk m' ys news' F' N' o1 hn hC₀ hD₀ hCL hDL hCD offC fin
  show wpAny _ A (assign (.Name y py) env (.ref D)) _ _ _
  refine wpAny_assign_Name (wpAny_storeName_local hy F'.ns (fun h₂ hn₂ hs₂ => ?_) hp)
  have hL₀ : g.get? env.locals = none := Heap.get?_none_of_le F'.above
  have F₂ : Fr g env.locals h₂ (fun z => if z = y then some (.ref D) else m z) := ⟨hn₂, fun b o e => hs₂.extBut b o (fun q => by rw [q, hL₀] at e; cases e) (F'.keep b o e), F'.above⟩
  refine ⟨m', hn.sameBut hs₂ hCL, fun h'' hs'' => fin D h'' _ (F₂.change hs'' hCL hC₀) (fun p hp => ?_) o1⟩
  have z : h₂.get? p.1 = some p.2 := hs₂.extBut _ _ (N' p hp).2.1 (N' p hp).1
  refine ⟨hs''.extBut _ _ ?_ z, (N' p hp).2⟩
  k_extra "v0"
  ·exact Ne.symm hCD
  ·exact offC p hp)) ?y := by k_extra "cv"
 k_extra "zz"
end
example : True := by
 k_with "eval Name" =>
  ((with_reducible show wpAny _ _ (eval (Expr.Name _ _) (envOfC _ _ _ _ _)) _ _ _); k_dflt (refine' ldCN ?N ?c ?m ?d ?_ ?a ?b; (case a => rfl); (case b => rfl); (case N => k_asm); (case c => rfl); (case m => exact .tail _ ‹_›); (case d => with_reducible assumption); k_whole))
 k_with "exec For Tuple Name cons nil" =>
  (k_here; k_dflt (refine for_nil ‹_› ?_))
 k_with "exec Assign cons ListComp" =>
  (k_here; k_dflt (refine comp_TA ‹_› (by rfl) (by with_unfolding_all rfl) (by with_unfolding_all rfl) (by decide) (by rfl) (by decide) (by rfl) (by rfl) (by rfl) ?_))
 trivial
theorem NewInst.down {g hc h9 : Heap} {x C : Addr} {fs : List (String × Value)} (k : g.StaysIn hc) (i : NewInst hc h9 x C fs) : NewInst g h9 x C fs := let ⟨dx, es, n, a, b, c⟩ := i; ⟨dx, es, n, ⟨Heap.none_keep k a.new, a.at_⟩, ⟨Heap.none_keep k b.new, b.at_⟩, c⟩
theorem okStay {ok : Addr → Prop} {h h' : Heap} {a : Addr} (k : h.StaysIn h') (x : okF (okF ok h) h' a) : okF ok h a := x.elim id fun e => .inr (Heap.none_keep k e)
theorem owe_w (C : Cx w p loose mean mg mb A A₀ base h₀ outer env L m s.heap 5 20) {cv gv sv : Value} {pl : Addr} (hp : s.heap.IsList pl [].toArray)
  (ret : ∀ h' tk', s.heap.StaysIn h' → Fr h₀ L h' m → Q .none { s with heap := h', toks := tk' }) :
  wpAny (model PR w) A (PySem.call (.ref (302 : Nat)) [cv, .ref pl, gv, sv]) Q E s := by
 refine @disc _ ?y ?e
 case e =>
 haveI h : @Eq (PLift _) (PLift.up (by
 k_fill
 revert C hp ret
 revert cv gv sv pl
 k_extra "rv"
 refine no_implicit_lambda% (clZ (cPm cZ.N.V.V.V) ?_)
 k_extra "ld"
 refine gZ4 ?_
 intro zc0 cv gv sv pl
 clear_value cv gv sv pl
 intros C hp ret
 k_extra "oC"
 k_extra "c0"
 k_steps
 exact ret _ _ (Fr.keep ‹_›) ‹_›)) ?y := by k_extra "cv"
 k_extra "zz"
theorem callee_new_w (CC : Cx w p loose mean mg mb A A₀ base h₀ outer env L m s.heap 6 20) {v1 v2 v3 : Value}
  (ret : ∀ x h' tk', s.heap.StaysIn h' → Fr h₀ L h' m → NewInst s.heap h' x 324 [("fnref", v1), ("inputs", v2), ("output", v3)] → Q (.ref x) { s with heap := h', toks := tk' }) :
  wpAny (model PR w) A (PySem.call (.ref (324 : Nat)) [v1, v2, v3]) Q E s := by
 refine @disc _ ?y ?e
 case e =>
 haveI h : @Eq (PLift _) (PLift.up (by
 k_fill
 k_extra "o0"
 k_extra "m1"
 revert v1 v2 v3
 k_extra "rv"
 refine no_implicit_lambda% (clZ (cPm cZ.V.V.V) ?_)
 k_extra "ld"
 refine gZ3 ?_
 intro zc0 v1 v2 v3
 clear_value v1 v2 v3
 intros ret B F X T hA hf hke hh hdp hun
 k_extra "g1"
 k_extra "b1"
 k_steps
 rename Fr G' L' _ _ => FX
 k_extra "x1"
 have D := fun hf => new_done (fs := [("fnref", v1), ("inputs", v2), ("output", v3)]) st1 nx1 nd1 eG' FX NX (by k_mem) (by k_mem) hf
 have D := D ‹_›
 exact ret _ _ _ D.1 ‹_› D.2)) ?y := by k_extra "cv"
 k_extra "zz"
theorem Ty.subst_size (t U : Ty) : (t.subst U).size ≤ t.size + U.size := by
 induction t with
 | box a ih => exact Nat.le_trans (Nat.succ_le_succ ih) (Nat.le_of_eq (Nat.succ_add a.size U.size).symm)
 | ref m a ih => exact Nat.le_trans (Nat.succ_le_succ ih) (Nat.le_of_eq (Nat.succ_add a.size U.size).symm)
 | pair a b ih1 ih2 => exact Nat.le_trans (Nat.succ_le_succ (Nat.max_le.mpr ⟨Nat.le_trans ih1 (Nat.add_le_add_right (Nat.le_max_left a.size b.size) _), Nat.le_trans ih2 (Nat.add_le_add_right (Nat.le_max_right a.size b.size) _)⟩)) (Nat.le_of_eq (Nat.succ_add (max a.size b.size) U.size).symm)
 | param => exact Nat.le_of_eq (Nat.zero_add _).symm
 | _ => exact Nat.zero_le _
theorem callee_of_w (CC : Cx w p loose mean mg mb A A₀ base h₀ outer env L m s.heap 110 420) {cv fv : Value} {sg d ins : Addr} {path : PySem.Str} {rg pl ow : Addr} {pt kt : Tok} {k : Kind} {b : Bool} {s0 a0 vo : Value} {t0 to U : Ty} {kvs : List (PySem.Str × Value)} {ok : Addr → Prop}
  (I : Inst s.heap sg 721 (sigF pt path rg pl ow ins vo k kt b)) (hins : IsTup s.heap ins [s0, a0].toArray) (D : DictAt w s.heap d kvs) (ty0 : TyAt ok s.heap s0 t0) (tya : TyAt ok s.heap a0 .u8) (tyo : TyAt ok s.heap vo to) (hz0 : t0.size ≤ 6) (hzo : to.size ≤ 6)
  (hp : ∃ vU, valueAt kvs "Self" = some vU ∧ TyAt ok s.heap vU U) (hzU : U.size ≤ 6)
  (ret : ∀ x l i0 i1 vo' h' tk', s.heap.StaysIn h' → Fr h₀ L h' m → NewInst s.heap h' x 324 [("fnref", fv), ("inputs", .ref l), ("output", .ref vo')] → h'.IsList l [i0, i1].toArray → s.heap.get? l = none → TyAt (okF ok s.heap) h' i1 .u8 → TyAt (okF ok s.heap) h' (.ref vo') (to.subst U) → Q (.ref x) { s with heap := h', toks := tk' }) :
  wpAny (model PR w) A (PySem.call (.ref (333 : Nat)) [cv, .ref sg, .ref d, fv]) Q E s := by
 refine @disc _ ?y ?e
 case e =>
 haveI h : @Eq (PLift _) (PLift.up (by
 k_fill
 k_extra "o0"
 obtain ⟨ao0, rfl⟩ := tyo.isRef
 revert hins D ty0 tya hz0 hzo hp hzU ret B F X T hA hf hke hh hdp hun I tyo
 revert cv fv sg d ins path rg pl ow pt kt k b s0 a0 t0 to U kvs ok ao0
 k_extra "rv"
 refine no_implicit_lambda% (clZ (cPm cZ.N.P.k.T.T.T.V.V.B.Kd.N.N.N.N.N.S.N.N.N.V.V) ?_)
 k_extra "ld"
 refine fZ8 ?_
 intro zc0_0 cv fv sg d ins path rg pl
 clear_value cv fv sg d ins path rg pl
 refine fZ8 ?_
 intro zc0_1 ow pt kt k b s0 a0 t0
 clear_value ow pt kt k b s0 a0 t0
 refine gZ5 ?_
 intro zc0 to U kvs ok ao0
 clear_value to U kvs ok ao0
 intros hins D ty0 tya hz0 hzo hp hzU ret B F X T hA hf hke hh hdp hun I tyo
 k_extra "e0"
 k_steps
 rename Fr s.heap L' _ _ => F1
 rename News s.heap L' _ _ => N1
 have ta9 : TyAll ok s.heap [s0, a0] [t0, .u8] := .cons ty0 (.cons tya .nil)
 have hz9 : ∀ {i : Nat} {u : Ty}, ([t0, .u8] : List Ty)[i]? = some u → u.size < 7 := fun {i u} e => by
  cases i with
  | zero => exact Option.some.inj e ▸ Nat.lt_succ_of_le hz0
  | succ i => cases i with
   | zero => exact Option.some.inj e ▸ Nat.succ_pos _
   | succ i => cases e
 refine ⟨ins, [s0, a0].toArray, _, rfl, hh, F1, N1, .inl hins, by rw [sizeLine_eq]; exact Nat.le_of_ble_eq_true rfl, ?_⟩
 refine clZ cZ.H ?_; refine gZ1 ?_; intro zc h10; clear_value h10; clear zc
 refine turns_ty (okF ok s.heap) (ts := [t0, .u8].map fun x => x.subst U) rfl (.inl hins) ?turn ?fin
 case turn =>
  intro i v t' Cc oC m₂ h tk l' mu hi ht' hNs hx F' N' sub off hmu Q' E' kk
  obtain ⟨t'', et, tv⟩ := ta9.at hi
  rw [List.getElem?_map, et] at ht'
  cases ht'
  obtain ⟨av, rfl⟩ := tv.isRef
  have me := sub _ (.head _)
  have dS := cellMe (.ref d) me ‹_›
  clear F1 N1
  rename_i u2_0
  revert hNs F' N' sub off hmu et kk hi hx tv me
  revert i Cc oC m₂ h tk l' mu Q' E' t'' av
  refine no_implicit_lambda% (clZ cZ.N.T.Q.Q.h.l.N.H.M.O.N.N ?_)
  refine fZ8 ?_
  intro zc2_0 i Cc oC m₂ h tk l' mu
  clear_value i Cc oC m₂ h tk l' mu
  refine gZ4 ?_
  intro zc2 Q' E' t'' av
  clear_value Q' E' t'' av
  intros hNs F' N' sub off hmu et kk hi hx tv me
  k_steps
  refine subst_w 7 (U := U) (by k_extra "a0") (ok := fun a => okF ok s.heap a ∧ a ∉ mu) (hz9 et) (D.keeps F'.keep) ((tyE_base (ok := ok) (g := s.heap) tv _ _ F' (news_tl N')).imp fun a x => ⟨.inl x.1, x.2.off off fun b hb => (hmu b hb).1⟩) (fun _ => ?_) ?_
  ·obtain ⟨vU, e1, e2⟩ := hp
   exact ⟨vU, e1, (tyE_base (ok := ok) (g := s.heap) e2 _ _ F' (news_tl N')).imp fun a x => ⟨.inl x.1, x.2.off off fun b hb => (hmu b hb).1⟩⟩
  refine clZ cZ.N.H.N ?_; refine gZ3 ?_; intro zc ar h' tk'; clear_value ar h' tk'; clear zc; intro st' F'' ty
  have N'' := News.grown N' st'
  k_steps
  refine erased_w 14 (by k_extra "a0") (Nat.lt_of_le_of_lt (Ty.subst_size t'' U) (Nat.lt_of_lt_of_le (Nat.add_lt_add_of_lt_of_le (hz9 et) hzU) (Nat.le_of_ble_eq_true rfl))) ty ?_
  refine clZ cZ.N.H.N ?_; refine gZ3 ?_; intro zc r h2 tk2; clear_value r h2 tk2; clear zc; intro st2 F2 ty2
  exact kk _ _ _ (fun b o e => st2 _ _ (st' _ _ e)) F2 (ty2.imp fun a x => okMu F' hmu (okStay st' x))
 case fin =>
  refine clZ cZ.l.L ?_; refine gZ2 ?_; intro zc ys l'; clear_value ys l'; clear zc; intro sub H
  refine clZ cZ.N.H.N ?_; refine gZ3 ?_; intro zc D8 h8 tk8; clear_value D8 h8 tk8; clear zc; intro F8 N8 off8; (try simp only [LCg.Off1, and_true] at off8)
  have me := sub _ (.head _)
  have dS := cellMe (.ref d) me ‹_›
  clear F1 N1
  k_steps
  refine subst_w 7 (U := U) (by k_extra "a0") (ok := ok) (by k_extra "le") (D.keeps (Fr.keep ‹_›)) (TyAt.fr tyo ‹_›) (fun _ => ?_) ?_
  ·obtain ⟨vU, e1, e2⟩ := hp
   exact ⟨vU, e1, TyAt.fr e2 ‹_›⟩
  refine clZ cZ.N.H.N ?_; refine gZ3 ?_; intro zc ar h1 tk1; clear_value ar h1 tk1; clear zc; intro st1 F1' ty1
  have ty1 := ty1.imp fun _ x => okThree (g := s.heap) ‹_› x
  have N1' := News.grown ‹_› st1
  k_steps
  refine erased_w 14 (by k_extra "a0") (Nat.lt_of_le_of_lt (Ty.subst_size to U) (Nat.lt_of_le_of_lt (Nat.add_le_add hzo hzU) (Nat.le_of_ble_eq_true rfl))) ty1 ?_
  refine clZ cZ.N.H.N ?_; refine gZ3 ?_; intro zc r2 h2 tk2; clear_value r2 h2 tk2; clear zc; intro st2 F2 ty2
  have ty2 := ty2.imp fun _ x => okSelf (okThree (ok := okF ok s.heap) (g := s.heap) ‹_› x)
  have N2 := News.grown ‹_› st2
  k_steps
  refine callee_new_w (by k_extra "a0") ?_
  refine clZ cZ.N.H.N ?_; refine gZ3 ?_; intro zc x3 h3 tk3; clear_value x3 h3 tk3; clear zc; intro st3 F3 i3
  have N3 := News.grown ‹_› st3
  have H3 := H _ _ F3 (news_tl N3)
  obtain ⟨i0, i1, rfl, q0, q1⟩ := H3.two
  have i3 := i3.down F2.keep
  have ty3 := ty2.keeps st3
  have q1 := q1.imp fun _ x => x.1
  rename_i u3_0 u3_1 u3_2 u3_3 u3_4
  revert H N8 N1' N2 N3 H3 q0 u3_4 q1
  revert i0 i1
  refine no_implicit_lambda% (clZ cZ.V.V ?_)
  refine gZ2 ?_
  intro zc3 i0 i1
  clear_value i0 i1
  intros H N8 N1' N2 N3 H3 q0 u3_4 q1
  k_steps
  exact ret _ _ _ _ _ _ _ F3.keep ‹_› i3 (News.isList N3 (.head _)) (N3 _ (.head _)).2.2 q1 ty3)) ?y := by k_extra "cv"
 k_extra "zz"
noncomputable def chkF (wo : Addr) (mt : Tok) (md : PySem.Str) (bd rd inf lo sc lp ow un : Addr) (lt : Tok) : List (String × Value) :=
 [("world", .ref wo), ("module", .str md mt), ("self_type", .none), ("bounds", .ref bd), ("reader", .ref rd), ("infer", .ref inf), ("locals", .ref lo), ("scopes", .ref sc), ("loops", .ref lp), ("many_loops", .int 0 lt), ("owed", .ref ow), ("result", .ref un)]
example : True := by
 k_with "call ref cons" =>
  (
   (with_reducible show wpAny _ _ (PySem.call (Value.ref 442) _) _ _ _)
   refine' unify_same_w (by k_extra "a0") ‹_› ?hi ?ht ?hu ?_
   case hi => exact inst_fr ‹_› ‹_›
   case ht => exact TyAt.fr ‹_› ‹_›
   case hu => exact TyAt.fr ‹_› ‹_›
   k_extra "i0"
   have N9 := News.grown ‹_› st9)
 trivial
theorem chk_same_w (C : Cx w p loose mean mg mb A A₀ base h₀ outer env L m s.heap 20 120) {ck wo bd rd inf lo sc lp ow un k q : Addr} {md : PySem.Str} {mt lt : Tok} {ok : Addr → Prop} {vt vu sv : Value} {t : Ty} (hs : t.size ≤ 30)
  (I : Inst s.heap ck 693 (chkF wo mt md bd rd inf lo sc lp ow un lt)) (I2 : Inst s.heap inf 452 [("known", .ref k), ("is_number", .ref q)]) (ht : TyAt ok s.heap vt t) (hu : TyAt ok s.heap vu t)
  (ret : ∀ h' tk', s.heap.StaysIn h' → Fr h₀ L h' m → Q .none { s with heap := h', toks := tk' }) :
  wpAny (model PR w) A (PySem.call (.ref (571 : Nat)) [.ref ck, vt, vu, sv]) Q E s := by
 refine @disc _ ?y ?e
 case e =>
 haveI h : @Eq (PLift _) (PLift.up (by
 k_fill
 obtain ⟨a2, rfl⟩ := ht.isRef
 obtain ⟨a3, rfl⟩ := hu.isRef
 revert C hs I I2 ret ht hu
 revert ck wo bd rd inf lo sc lp ow un k q md mt lt ok sv t a2 a3
 k_extra "rv"
 refine no_implicit_lambda% (clZ (cPm cZ.N.N.T.V.P.N.N.S.N.N.N.N.N.N.N.N.N.N.N.N) ?_)
 k_extra "ld"
 refine fZ8 ?_
 k_extra "w0"
 k_extra "x0"
 refine fZ8 ?_
 intro zc0_1 ow un k q md mt lt ok
 clear_value ow un k q md mt lt ok
 refine gZ4 ?_
 intro zc0 sv t a2 a3
 clear_value sv t a2 a3
 intros C hs I I2 ret ht hu
 k_extra "oC"
 k_extra "c0"
 k_steps
 exact ret _ _ (Fr.keep ‹_›) ‹_›)) ?y := by k_extra "cv"
 k_extra "zz"
theorem chk_resolved_w (n : Nat) (C : Cx w p loose mean mg mb A A₀ base h₀ outer env L m s.heap (25 + 5 * n) (50 + 20 * n)) {ck wo bd rd inf lo sc lp ow un k q : Addr} {md : PySem.Str} {mt lt : Tok} {ok : Addr → Prop} {vt : Value} {t : Ty} (hn : t.size < n)
  (I : Inst s.heap ck 693 (chkF wo mt md bd rd inf lo sc lp ow un lt)) (I2 : Inst s.heap inf 452 [("known", .ref k), ("is_number", .ref q)]) (ht : TyAt ok s.heap vt t)
  (ret : ∀ r h' tk', s.heap.StaysIn h' → Fr h₀ L h' m → TyAt (okF ok s.heap) h' (.ref r) t → Q (.ref r) { s with heap := h', toks := tk' }) :
  wpAny (model PR w) A (PySem.call (.ref (564 : Nat)) [.ref ck, vt]) Q E s := by
 refine @disc _ ?y ?e
 case e =>
 haveI h : @Eq (PLift _) (PLift.up (by
 k_fill
 obtain ⟨a2, rfl⟩ := ht.isRef
 revert C hn I I2 ret ht
 revert n ck wo bd rd inf lo sc lp ow un k q md mt lt ok t a2
 k_extra "rv"
 refine no_implicit_lambda% (clZ (cPm cZ.N.T.P.N.N.S.N.N.N.N.N.N.N.N.N.N.N.N.N) ?_)
 k_extra "ld"
 refine fZ8 ?_
 intro zc0_0 n ck wo bd rd inf lo sc
 clear_value n ck wo bd rd inf lo sc
 refine fZ8 ?_
 intro zc0_1 lp ow un k q md mt lt
 clear_value lp ow un k q md mt lt
 refine gZ3 ?_
 intro zc0 ok t a2
 clear_value ok t a2
 intros C hn I I2 ret ht
 k_extra "oC"
 k_extra "c0"
 k_steps
 refine resolved_w n (by k_extra "a0") (ok := ok) hn (inst_fr I2 ‹_›) (TyAt.fr ht ‹_›) ?_
 refine clZ cZ.N.H.N ?_; refine gZ3 ?_; intro zc r9 h9 k9; clear_value r9 h9 k9; clear zc; intro st9 F9 ty9
 have ty9 := ty9.imp fun _ x => okThree (g := s.heap) ‹_› x
 have N9 := News.grown ‹_› st9
 k_steps
 exact ret _ _ _ (Fr.keep ‹_›) ‹_› ty9)) ?y := by k_extra "cv"
 k_extra "zz"
theorem News.dict {w : World} {g h : Heap} {L d : Addr} {o : Obj} {l : List (Addr × Obj)} {kvs : List (PySem.Str × Value)} (N : News g L h l) (hm : (d, o) ∈ l) (hd : o.IsDictOf (KD w) kvs) (lo : (d == sysModules) = false) : DictAt w h d kvs := ⟨Heap.dictOf_iff.mpr ⟨o, (N _ hm).1, hd⟩, lo⟩
section
variable {w : World} {A : Around} {E : Value → Shared → Prop} {s : Shared} {g : Heap} {L d d2 : Addr} {m : Str → Option Value} {news : List (Addr × Obj)} {gn : Obj → List (Addr × Obj)} {o o2 : Obj} {kvs : List (PySem.Str × Value)}
theorem dupd_meth {pl : Sem Bool} {Q : Value × List Value → Shared → Prop} (N : News g L s.heap news) (hm : (d, o) ∈ news) (hd : o.IsDictOf (KD w) kvs) (h : Q (.builtin "dict.update", [.ref d]) s) : wpAny (model PR w) A (getMethod (.ref d) "update" pl) Q E s :=
 have hD : s.heap.DictOf (KD w) d kvs := Heap.dictOf_iff.mpr ⟨o, (N _ hm).1, hd⟩
 getMethod_builtin hD.typeIs PySem.F.plainAttrs_dict PySem.F.slot_dict_update PySem.F.type_dict_update hD.mapOf.noDict h
theorem dupd_call {Q : Value → Shared → Prop} (F : Fr g L s.heap m) (N : News g L s.heap news) (U : UpdF d o news gn) (hm2 : (d2, o2) ∈ news) (hd : o.IsDictOf (KD w) []) (hd2 : o2.IsDictOf (KD w) []) (lo : (d2 == sysModules) = false) (hne : d ≠ d2)
  (h : ∀ h' o', Fr g L h' m → News g L h' (gn o') → o'.IsDictOf (KD w) [] → Q .none { s with heap := h' }) : wpAny (model PR w) A (call (.builtin "dict.update") [.ref d, .ref d2]) Q E s := by
 have hm2' := (N _ hm2).1
 obtain ⟨pre, post, rfl, hg, a, b⟩ := U.split
 have hm := N (d, o) (List.mem_append_right _ (.head _))
 have hD : s.heap.DictOf (KD w) d [] := Heap.dictOf_iff.mpr ⟨o, hm.1, hd⟩
 refine call_meetsIn PySem.F.slot_dict_update hD.typeIs PySem.F.entry_dict_update (PySem.F.args_dict_update_2 _ _) (meets_dict_update (KD w) d d2 hne lo)
  ⟨[], [], hD, Heap.dictOf_iff.mpr ⟨o2, hm2', hd2⟩, Nat.zero_le _, fun h' hmm _ hs => ?_⟩
 obtain ⟨o', ho', hd'⟩ := Heap.dictOf_iff.mp hmm
 exact h h' o' (F.change hs hm.2.1 hm.2.2) (hg o' ▸ N.setIn a b hs ho') hd'
end
example : True := by
 k_with "setItem ref str" =>
  (k_here; k_dflt (refine' kda_set (knd := PySem.strKind _ _) ?F ?N ?U ?d (strKind_is _ _ _ _) ?z ?_; (case F => k_asm); (case N => k_asm); (case U => k_updF); (case d => assumption); (case z => rw [sizeLine_eq]; exact Nat.le_of_ble_eq_true (by with_unfolding_all rfl))); refine clZ cZ.O.H ?_; refine gZ2 ?_; intro zc h9 og8; clear_value h9 og8; clear zc; intro F9 N9 d8; (try dsimp only at N9))
 k_with "eval ListComp" =>
  (k_here; k_dflt (refine LCp.ListComp_P ‹_› (by with_unfolding_all rfl) (by decide) (by rfl) (by decide) (by rfl) (by rfl) (by decide) ?_))
 k_with "SrcLP" =>
  (k_dflt (refine LCp.SrcLP.base ‹_› ‹_› ‹_› ‹_› (by rw [sizeLine_eq]; exact Nat.zero_le _) ?_); refine clZ cZ.H ?_; refine gZ1 ?_; intro zc gg9; clear_value gg9; clear zc; refine clZ cZ.N.H.N ?_; refine gZ3 ?_; intro zc D9 h9 tk9; clear_value D9 h9 tk9; clear zc; intro F9 N9 off9; (try simp only [LCg.Off1, and_true] at off9))
 k_with "getMethod ref" =>
  (k_here; (with_reducible show wpAny _ _ (getMethod _ (PySem.Str.ofString "update") _) _ _ _); k_dflt (refine dupd_meth ‹_› (by k_mem) ‹_› ?_))
 k_with "call builtin:dict.update" =>
  (k_here; k_dflt (refine' dupd_call ?F ?N ?U ?m2 ?d1 ?d2 ?lo ?ne ?_; (case F => k_asm); (case N => k_asm); (case U => k_updF); (case m2 => k_mem); (case d1 => assumption); (case d2 => assumption); (case lo => assumption); (case ne => k_ne); k_whole); refine clZ cZ.O.H ?_; refine gZ2 ?_; intro zc h9 og9; clear_value h9 og9; clear zc; intro F9 N9 d9)
 k_with "eval Name" =>
  ((with_reducible show wpAny _ _ (eval (Expr.Name _ _) (envOfC _ _ _ _ _)) _ _ _); k_dflt (refine' ldCN ?N ?c ?m ?d ?_ ?a ?b; (case a => rfl); (case b => rfl); (case N => k_asm); (case c => rfl); (case m => k_mem); (case d => first | with_reducible assumption | rfl); k_whole))
 k_with "call ref cons" =>
  (
   (with_reducible show wpAny _ _ (PySem.call (Value.ref 256) _) _ _ _)
   refine' subst_w 7 (U := t) (t := t) (by k_extra "a0") (ok := fun _ => True) (by k_extra "le") (News.dict ‹_› (by k_mem) ‹_› ‹_›) (TyAt.fr tu ‹_›) (fun h => absurd h (by rw [hnp]; exact Bool.false_ne_true)) ?_
   rw [Ty.subst_none hnp]
   k_extra "k0"
   have N9 := News.grown ‹_› st9)
 k_with "call ref cons" =>
  (
   (with_reducible show wpAny _ _ (PySem.call (Value.ref 275) _) _ _ _)
   refine' erased_w 7 (by k_extra "a0") (t := t) (by k_extra "le") ?ht ?_
   case ht => assumption
   k_extra "k0"
   have N9 := News.grown ‹_› st9)
 k_with "call ref cons" =>
  (
   (with_reducible show wpAny _ _ (PySem.call (Value.ref 295) _) _ _ _)
   refine' given_w (by k_extra "a0") ?hp ?he ?_
   case hp => first | exact isList_fr ‹_› ‹_› | exact News.isList ‹_› (by k_mem)
   case he => k_extra "a1"
   refine clZ cZ.N.H.O.N ?_; refine gZ4 ?_; intro zc g9 og9 h9 k9; clear_value g9 og9 h9 k9; clear zc; intro st9 F9 x9 d9 lo9
   have q9 : Far _ _ := freshApart ‹_› x9
   have N9 := news_fresh ‹_› (News.grown ‹_› st9) x9)
 k_with "call ref cons" =>
  (
   (with_reducible show wpAny _ _ (PySem.call (Value.ref 571) _) _ _ _)
   refine' chk_same_w (by k_extra "a0") (t := t) (ok := fun _ => True) (by k_extra "le") (inst_fr I ‹_›) (inst_fr I2 ‹_›) ?ht ?hu ?_
   case ht => exact TyAt.imp (fun _ _ => trivial) ‹_›
   case hu => exact TyAt.imp (fun _ _ => trivial) (TyAt.fr tt ‹_›)
   k_extra "i0"
   have N9 := News.grown ‹_› st9)
 k_with "call ref cons" =>
  (
   (with_reducible show wpAny _ _ (PySem.call (Value.ref 302) _) _ _ _)
   refine' owe_w (by k_extra "a0") ?hp ?_
   case hp => first | exact isList_fr ‹_› ‹_› | exact News.isList ‹_› (by k_mem)
   k_extra "i0"
   have N9 := News.grown ‹_› st9)
 trivial
theorem impl_callee_w (C : Cx w p loose mean mg mb A A₀ base h₀ outer env L m s.heap 120 600) {ck wo bd rd inf lo sc lp ow un k q x e0 rg pl ta mdd : Addr} {md path : PySem.Str} {mt lt t1 t3 t4 pt t5 : Tok} {ok : Addr → Prop} {vu vt tv : Value} {i : Int} {t : Ty} {a1 a2 ds dt li a3 a4 : Addr} {kvs : List (PySem.Str × Value)} {r : Row}
  (hs : t.size ≤ 5) (hout : r.out.size ≤ 6) (I : Inst s.heap ck 693 (chkF wo mt md bd rd inf lo sc lp ow un lt)) (I2 : Inst s.heap inf 452 [("known", .ref k), ("is_number", .ref q)]) (Ii : Inst s.heap x 764 (implF tv vu i rg pl ta mdd t1 t3)) (hpl : s.heap.IsList pl [].toArray)
  (W : Inst s.heap wo 793 (wdF a1 a2 ds dt li a3 a4)) (hds : DictAt w s.heap ds kvs) (hsig : ∃ sv, valueAt kvs r.path = some sv ∧ SigAt w s.heap sv r) (hrt : r.told = t) (hnp : t.hasParam = false)
  (tu : TyAt (fun _ => True) s.heap vu t) (tt : TyAt ok s.heap vt t) (he : IsTup s.heap e0 [].toArray)
  (ret : ∀ x fa ea l i0 i1 vo' q1 q2 h' tk', s.heap.StaysIn h' → Fr h₀ L h' m → NewInst s.heap h' x 324 [("fnref", .ref fa), ("inputs", .ref l), ("output", .ref vo')] → IsTup h' fa [st "fn" q1, .str r.path q2, .ref ea].toArray → IsTup h' ea [].toArray → h'.IsList l [i0, i1].toArray →
   TyAt (fun _ => True) h' i1 .u8 → TyAt (fun _ => True) h' (.ref vo') (r.out.subst t) → Q (.ref x) { s with heap := h', toks := tk' }) :
  wpAny (model PR w) A (PySem.call (.ref (338 : Nat)) [.ref ck, .ref x, .str r.path pt, vt, .ref e0, .int 5 t5]) Q E s := by
 refine @disc _ ?y ?e
 case e =>
 haveI h : @Eq (PLift _) (PLift.up (by
 k_fill
 obtain ⟨sv, hsv, sx, pt2, rg2, pl2, ow2, ins, vo, kt, s0, a0, rfl, Isg, hpl2, hins, ts0, ta0, tvo⟩ := hsig
 obtain ⟨av0, rfl⟩ := tu.isRef
 obtain ⟨av1, rfl⟩ := tt.isRef
 revert C hs hout I I2 hpl W hds hrt hnp he ret Isg hpl2 hins ts0 ta0 tvo hsv Ii tu tt
 revert ck wo bd rd inf lo sc lp ow un k q x e0 rg pl ta mdd md path mt lt t1 t3 t4 pt t5 ok tv i t a1 a2 ds dt li a3 a4 kvs r sx pt2 rg2 pl2 ow2 ins vo kt s0 a0 av0 av1
 k_extra "rv"
 refine no_implicit_lambda% (clZ (cPm cZ.N.N.V.V.N.V.N.N.N.N.N.N.Rw.k.N.N.N.N.N.N.N.T.I.V.P.N.N.N.N.N.N.N.S.S.N.N.N.N.N.N.N.N.N.N.N.N.N.N.N.N.N.N) ?_)
 k_extra "ld"
 refine fZ8 ?_
 k_extra "w0"
 k_extra "x0"
 refine fZ8 ?_
 intro zc0_1 ow un k q x e0 rg pl
 clear_value ow un k q x e0 rg pl
 refine fZ8 ?_
 intro zc0_2 ta mdd md path mt lt t1 t3
 clear_value ta mdd md path mt lt t1 t3
 refine fZ8 ?_
 intro zc0_3 t4 pt t5 ok tv i t a1
 clear_value t4 pt t5 ok tv i t a1
 refine fZ8 ?_
 intro zc0_4 a2 ds dt li a3 a4 kvs r
 clear_value a2 ds dt li a3 a4 kvs r
 refine fZ8 ?_
 intro zc0_5 sx pt2 rg2 pl2 ow2 ins vo kt
 clear_value sx pt2 rg2 pl2 ow2 ins vo kt
 refine gZ4 ?_
 intro zc0 s0 a0 av0 av1
 clear_value s0 a0 av0 av1
 intros C hs hout I I2 hpl W hds hrt hnp he ret Isg hpl2 hins ts0 ta0 tvo hsv Ii tu tt
 k_extra "oC"
 k_extra "e0"
 k_steps
 refine callee_of_w (U := t) (by k_extra "a0") (ok := fun _ => True) (inst_fr Isg ‹_›) (isTup_fr hins ‹_›) (News.dict ‹_› (by k_mem) d8 ‹_›) (TyAt.fr ts0 ‹_›) (TyAt.fr ta0 ‹_›) (TyAt.fr tvo ‹_›) (by rw [hrt]; cases r.kind <;> simp only [selfTy, Ty.size] <;> omega) hout ⟨_, rfl, TyAt.imp (fun _ _ => trivial) (TyAt.fr tt ‹_›)⟩ (by k_extra "le") ?_
 k_extra "s1"
 rename News s.heap L' _ ((_, _) :: _) => NX
 have N3 := News.grown NX st3
 have n3 := n3.down (Fr.keep ‹_›)
 rename_i u2_0 u2_1 u2_2 u2_3 u2_4 u2_5 u2_6 u2_7 u2_8 u2_9 u2_10 u2_11 u2_12 u2_13 u2_14 u2_15 u2_16 u2_17 u2_18 u2_19 u2_20 u2_21 u2_22 u2_23 u2_24 u2_25 u2_26 u2_27 u2_28 u2_29 u2_30 u2_31 u2_32 u2_33 u2_34 u2_35 u2_36 u2_37 u2_38 u2_39 u2_40 u2_41 u2_42
 revert u2_20 u2_21 ty9 st9
 revert u2_16 tk
 refine no_implicit_lambda% (clZ cZ.N.N ?_)
 refine gZ2 ?_
 intro zc2 u2_16 tk
 clear_value u2_16 tk
 intros u2_20 u2_21 ty9 st9
 k_steps
 exact ret _ _ _ _ _ _ _ _ _ _ _ F3.keep ‹_› n3 (News.isTup N3 (by k_mem)) (News.isTup N3 (by k_mem)) hl3 (ti1.imp fun _ _ => trivial) (tvo3.imp fun _ _ => trivial))) ?y := by k_extra "cv"
 k_extra "zz"
theorem eq_tup0 {prog : Program} {w : World} {A : Around} {E : Value → Shared → Prop} {s : Shared} {l b : Addr} {Q : Value → Shared → Prop} (hl : IsTup s.heap l [].toArray) (hb : IsTup s.heap b [].toArray) (hu : A.units + 64 < cLine) (h : Q (.bool true) s) : wpAny (model prog w) A (compareOp .Eq (.ref l) (.ref b)) Q E s := by
 refine eq_dataH (da := .tuple []) (db := .tuple []) (isTup_reads hl .nil) (isTup_reads hb .nil) (by decide +kernel) (by decide +kernel) hu ?_
 rw [show PyData.eqv (.tuple []) (.tuple []) = true from by rw [PyData.eqv, PyData.eqvAll]]
 exact h
theorem compT_nil {prog : Program} {w : World} {A : Around} {g : Heap} {L : Addr} {m : Str → Option Value} {env : Env} {elt : PySem.Expr} {x : Str} {scope : Scope} {cl : List (Str × Addr)} {Fin : Shared → List Value → List (Addr × Obj) → Prop} {s₁ : Shared} {ax : Addr} {l : List (Addr × Obj)} (hh : A.handled = none) (F : Fr g L s₁.heap m) (N : News g L s₁.heap l)
  (S : IsTup g ax [].toArray) (h : ∀ h, Fin { s₁ with heap := h } [] l) : CompT prog w A g L m env elt x scope cl Fin (.ref ax) s₁ :=
 ⟨ax, [].toArray, l, rfl, hh, F, N, .inl S, by rw [sizeLine_eq]; exact Nat.zero_le _, fun h' => h h'⟩
example : True := by
 k_with "eval ListComp" =>
  (k_here; (with_reducible show wpAny _ _ (eval (Expr.ListComp _ [⟨Expr.Name _ _, _, _, _⟩] _ _) _) _ _ _); k_dflt (refine comp_T ‹_› (by with_unfolding_all rfl) (by decide) (by rfl) (by decide) (by rfl) ?_))
 k_with "CompT" =>
  (k_dflt (refine compT_nil ‹_› ‹_› ‹_› ‹_› ?_); refine clZ cZ.H ?_; refine gZ1 ?_; intro zc h9; clear_value h9; clear zc; refine clZ cZ.N.H.N ?_; refine gZ3 ?_; intro zc D9 h8 tk8; clear_value D9 h8 tk8; clear zc; intro F9 N9 off9; (try simp only [LCg.Off1, and_true] at off9))
 k_with "compareOp Eq ref ref" =>
  (k_here; k_dflt (refine eq_tup0 (by k_extra "a1") (by k_extra "a1") (by k_extra "g0") ?_))
 k_with "call ref cons" =>
  (
   (with_reducible show wpAny _ _ (PySem.call (Value.ref 564) _) _ _ _)
   refine' chk_resolved_w 7 (by k_extra "a0") (t := t) (ok := ok) (by k_extra "le") (inst_fr I ‹_›) (inst_fr I2 ‹_›) (TyAt.fr tt ‹_›) ?_
   k_extra "k0"
   have N9 := News.grown ‹_› st9)
 trivial
theorem settle_w (C : Cx w p loose mean mg mb A A₀ base h₀ outer env L m s.heap 65 250) {ck wo bd rd inf lo sc lp ow un k q e0 : Addr} {md : PySem.Str} {mt lt : Tok} {ok : Addr → Prop} {trv vt sv : Value} {t : Ty} (hn : t.size < 7)
  (I : Inst s.heap ck 693 (chkF wo mt md bd rd inf lo sc lp ow un lt)) (I2 : Inst s.heap inf 452 [("known", .ref k), ("is_number", .ref q)]) (tt : TyAt ok s.heap vt t) (he : IsTup s.heap e0 [].toArray)
  (ret : ∀ h' tk', s.heap.StaysIn h' → Fr h₀ L h' m → Q .none { s with heap := h', toks := tk' }) :
  wpAny (model PR w) A (PySem.call (.ref (343 : Nat)) [.ref ck, trv, .ref e0, vt, sv]) Q E s := by
 refine @disc _ ?y ?e
 case e =>
 haveI h : @Eq (PLift _) (PLift.up (by
 k_fill
 obtain ⟨a2, rfl⟩ := tt.isRef
 revert C hn I I2 he ret tt
 revert ck wo bd rd inf lo sc lp ow un k q e0 md mt lt ok trv sv t a2
 k_extra "rv"
 refine no_implicit_lambda% (clZ (cPm cZ.N.T.V.V.P.N.N.S.N.N.N.N.N.N.N.N.N.N.N.N.N) ?_)
 k_extra "ld"
 refine fZ8 ?_
 k_extra "w0"
 k_extra "x0"
 refine fZ8 ?_
 intro zc0_1 ow un k q e0 md mt lt
 clear_value ow un k q e0 md mt lt
 refine gZ5 ?_
 intro zc0 ok trv sv t a2
 clear_value ok trv sv t a2
 intros C hn I I2 he ret tt
 k_extra "oC"
 k_extra "e0"
 k_steps
 exact ret _ _ (Fr.keep ‹_›) ‹_›)) ?y := by k_extra "cv"
 k_extra "zz"
section
variable {prog : Program} {w : World} {A : Around} {E : Value → Shared → Prop} {s : Shared} {g : Heap} {L : Addr} {m : Str → Option Value} {news : List (Addr × Obj)} {Q0 : Value → Shared → Prop}
theorem adjust_to (b n : Nat) (hb : b ≤ n) : Builtin.Slice.sliceAdjust none (some (b : Int)) 1 (n : Int) = ((0 : Int), (b : Int)) := by
 unfold Builtin.Slice.sliceAdjust
 have h1 : ¬ ((1 : Int) < 0) := by omega
 have h2 : ¬ ((b : Int) < 0) := by omega
 simp only [h1, h2, if_false]
 congr 1
 omega
theorem places_to (b : Nat) : Builtin.Slice.slicePlaces (0 : Int) (b : Int) 1 = b := by
 unfold Builtin.Slice.slicePlaces
 have h1 : (1 : Int) > 0 := by omega
 simp only [h1, if_true, Int.ediv_one]
 split <;> omega
theorem sliceApplied_to {sl : Addr} {b n : Nat} {u : Tok} {Q : Int × Int × Nat → Shared → Prop} (hs : s.heap.IsSliceOf sl .none (.int b u) .none) (hb : b ≤ n) (h : Q ((0 : Int), 1, b) s) :
  wpAny (model prog w) A (Builtin.Slice.sliceApplied (.ref sl) (pure (n : Int))) Q E s := by
 obtain ⟨os, hos, hcs, hds⟩ := id hs
 unfold Builtin.Slice.sliceApplied Builtin.Slice.sliceFields
 refine wpAny_bind (wpAny_bind (wpAny_field hos hds (x := .none) rfl (wpAny_bind (wpAny_field hos hds (x := .int b u) rfl (wpAny_bind (wpAny_field hos hds (x := .none) rfl (wpAny_pure ?_)))))))
 refine wpAny_bind (slicePart_none ?_)
 show wpAny _ _ (if ((1 : Int) == 0) = true then _ else _) _ _ s
 rw [if_neg (by decide)]
 refine wpAny_bind (slicePart_none (wpAny_bind (slicePart_int (wpAny_bind (wpAny_pure ?_)))))
 show wpAny _ _ (match Builtin.Slice.sliceAdjust none (some (b : Int)) 1 (n : Int) with | (lo, hi) => pure (lo, (1 : Int), Builtin.Slice.slicePlaces lo hi 1)) _ _ s
 rw [adjust_to b n hb]
 show wpAny _ _ (pure ((0 : Int), (1 : Int), Builtin.Slice.slicePlaces (0 : Int) (b : Int) 1)) _ _ s
 rw [places_to b]
 exact wpAny_pure h
theorem getItem_tup00 {t sl : Addr} {u : Tok} {Q : Value → Shared → Prop} (ht : IsTup s.heap t #[]) (hs : s.heap.IsSliceOf sl .none (.int 0 u) .none) (h : Q (.ref t) s) : wpAny (model prog w) A (getItem (.ref t) (.ref sl)) Q E s := by
 obtain ⟨os, hos, hcs, hds⟩ := id hs
 have hTs : s.TypeIs (.ref sl) "slice" := ⟨os, hos, hcs⟩
 unfold getItem
 try with_reducible refine wpAny_holding ?_
 first | refine wpAny_bind (wpAny_pure ?_) | skip
 refine wpAny_bind (wpAny_sequenceKey ht.typeIs (by decide) ?_)
 refine wpAny_bind (wpAny_callSpecial?_slot (name := PySem.Str.ofString "__getitem__") ht.typeIs slot_tuple_getitem
  (wpAny_call_entry slot_tuple_getitem ht.typeIs entry_tuple_getitem ?_ (args_tuple_getitem _ _)))
 show wpAny _ _ (Builtin.Tuple.tupleItemsOf (.ref t) >>= _) _ _ s
 refine wpAny_bind (tupleItemsOf_ ht ?_)
 refine wpAny_bind (wpAny_typeOf hTs ?_)
 rw [if_pos (by decide)]
 refine wpAny_bind (sliceApplied_to (b := 0) hs (Nat.le_refl _) ?_)
 show wpAny _ _ (if ((0 : Int) == 0 && (1 : Int) == 1 && (0 : Nat) == (#[] : Array Value).size) = true then _ else _) _ _ s
 rw [if_pos (by rfl)]
 show wpAny _ _ (Builtin.Tuple.tupleIsExact (.ref t) >>= _) _ _ s
 refine wpAny_bind ?_
 unfold Builtin.Tuple.tupleIsExact
 refine wpAny_bind (wpAny_typeOf ht.typeIs (wpAny_pure ?_))
 rw [if_pos (by rfl)]
 first
  | exact wpAny_rule (wpAny_pure ⟨_, rfl, wpAny_pure h⟩)
  | exact wpAny_bind (wpAny_rule (wpAny_pure ⟨_, rfl, wpAny_pure h⟩))
  | fail "no rule"
theorem slice_tup00 {h₀ : Heap} {value slice : Expr} {t : Addr} {u : Tok} (F : Fr h₀ L s.heap m) (N : News h₀ L s.heap news) (ht : IsTup s.heap t #[])
  (h : ∀ h', Fr h₀ L h' m → News h₀ L h' news → Q0 (.ref t) { s with heap := h' })
  (hs : subscripted slice false (.ref t) (.ref s.heap.objs.size) = operate [.ref s.heap.objs.size, .ref t] (getItem (.ref t) (.ref s.heap.objs.size)) := by with_unfolding_all rfl)
  (hg : ∀ r, letTemporaryGo value (.ref t) r = pure () := by intro _; with_unfolding_all rfl) :
  wpAny (model prog w) A (subscriptTail value slice (.ref t) (.ref s.heap.objs.size)) Q0 E { s with heap := s.heap.push { cls := .type "slice", data := .fields #[.none, .int 0 u, .none] } } := by
 have ht' : IsTup (s.heap.push { cls := .type "slice", data := .fields #[.none, .int 0 u, .none] }) t #[] := ht.keeps fun _ _ e => Heap.get?_push_of_some _ e
 refine subscriptTail_ops (s := { s with heap := s.heap.push { cls := .type "slice", data := .fields #[.none, .int 0 u, .none] } }) ht'.typeIs slot_tuple_getitem.lookup
  (getItem_tup00 ht' (Heap.IsSliceOf.new ..) ?_) hs hg
 exact h _ (F.push _) (N.grown fun _ _ e => Heap.get?_push_of_some _ e)
end
section
variable {prog : Program} {w : World} {A₀ A : Around} {E : Value → Shared → Prop} {s : Shared} {K : Frag} {L : Addr} {h₀ base : Heap} {m mg mb : Str → Option Value} {news : List (Addr × Obj)} {p : Program} {loose : List Str} {mean : ExcName → Option Value} {Q : Value → Shared → Prop}
theorem enterMC {env : Env} {outer : List Env} {name qual : Str} {params : Arguments} {body : List Stmt} {scope : Scope} {dV kV doc pm cdv ct oc : Value} {an od : Option Addr} {osl : Array (Option Value)} {f : Addr} {args : Args} {binds : List (Str × Value)} {R : Result → Shared → Prop}
  (B : Below A₀ base outer h₀) (F : Fr h₀ L s.heap m) (N : News h₀ L s.heap news) (X₀ : K.In h₀) (T : Top p loose mean mg mb h₀) (hA : A.frames = some (env :: outer)) (hf : env.frame = some L) (hke : env.scope.kind = .function)
  (ho : K.lookup f = some ⟨oc, od, .func (fnOf name qual params body scope dV kV doc pm an cdv ct), osl⟩) (hcd : codeIn K cdv qual = true) (hroom : A.depth < recursionLimit)
  (hbind : BindsTo s (fnOf name qual params body scope dV kV doc pm an cdv ct) args binds) (hkind : (binds.all fun y => scope.names.lookup y.1 == some .local || scope.names.lookup y.1 == some .cell) = true)
  (hnd : ((cellsFrom 0 scope.names []).map (·.1)).Nodup)
  (h : ∀ G L' h₁ tk cells, G = hideAll s.heap (news.map (·.1)) → (∀ q ∈ news, @LT.lt Nat _ q.1 L') → Fr G L' h₁ (bindL (envOfC qual scope L' f cdv).kindOf binds fun _ => none) → News G L' h₁ (cells ++ news) →
   CellsAre (bindC (envOfC qual scope L' f cdv).kindOf binds fun _ => none) (cellsFrom (L' + 1) scope.names []) cells → Below A base (env :: outer) G → K.In G → Top p loose mean mg mb G →
   wpAny (model prog w) (A.deeper (envOfC qual scope L' f cdv)) (execs body (envOfC qual scope L' f cdv))
    (fun fl s' => LeaveK h₀ L m G R (match fl with | .ret v => v | _ => .none) s')
    (fun e s' => wpAny (model prog w) (A.deeper (envOfC qual scope L' f cdv)) (leaving (envOfC qual scope L' f cdv) e) (fun _ s'' => R (.error e) s'') (fun e' s'' => R (.error e') s'') s')
    { s with heap := h₁, toks := tk })
  (hco : scope.isCoroutine = false) (hgen : scope.isGenerator = false) (hk : scope.kind = .function) : codeAny (model prog w) A (.call (.ref f) args) R s := by
 obtain ⟨FG, BG, st, lv⟩ := groundX (R := R) B F N hA hf hke
 refine codeAny_call_function (fd := fnOf name qual params body scope dV kV doc pm an cdv ct) hroom ((X₀.keeps F.keep) _ _ ho) rfl hco hgen rfl (codeRec_of (X₀.keeps F.keep) hcd) (hbind _ _ _ _ ?_)
 refine wpAny_newFunctionEnv_cells hk (kindsX hkind _) fun env' he s' x => ?_
 subst he
 refine ⟨((T.nolimit.keeps F.keep)).keeps x.toInCall.keep, codeAny_func ?_⟩
 obtain ⟨h₁, tk, rfl, _⟩ := x.done
 have hk₁ := x.toInCall.keep
 obtain ⟨cells, NC, Y⟩ := Cl.news (h₀ := hideAll s.heap (news.map (·.1))) (by rw [hideAll_size]; exact Nat.le_refl _) fun n c hm => ⟨x.cell n c (lookup_of_mem_nodup (cellsFrom_names scope.names 0 (s.heap.objs.size + 1) [] [] rfl ▸ hnd) hm), x.above n c hm⟩
 refine wpAny_mono (h _ s.heap.objs.size h₁ tk cells rfl (fun q hq => Heap.lt_size (N q hq).1) ⟨x.toInCall.ns, fun b o e => hk₁ b o (of_hideAll _ e), by rw [hideAll_size]; exact Nat.le_refl _⟩ (fun q hq => ?_) Y BG (X₀.keeps st) (T.keeps st)) (fun fl s' hl => lv _ _ hl) fun _ _ y => y
 rcases List.mem_append.mp hq with hq | hq
 ·exact NC q hq
 ·exact ⟨hk₁ _ _ (N q hq).1, Nat.ne_of_lt (Heap.lt_size (N q hq).1), hideAll_none _ (List.mem_map.mpr ⟨q, hq, rfl⟩)⟩
end
example : True := by
 k_with "call ref cons" =>
  (
   (with_reducible show wpAny _ _ (PySem.call (Value.ref 343) _) _ _ _)
   refine' settle_w (by k_extra "a0") (t := t) (by k_extra "le") (inst_fr I ‹_›) (inst_fr I2 ‹_›) (TyAt.fr tt ‹_›) (by k_extra "a1") ?_
   k_extra "i0"
   have N9 := News.grown ‹_› st9)
 k_with "SrcLP" =>
  (k_dflt (refine LCp.SrcLP.ledger (its := #[]) ‹_› ‹_› ‹_› (by k_mem) (by rw [sizeLine_eq]; exact Nat.zero_le _) ?_); refine clZ cZ.H ?_; refine gZ1 ?_; intro zc gg9; clear_value gg9; clear zc; refine clZ cZ.N.H.N ?_; refine gZ3 ?_; intro zc D9 h9 tk9; clear_value D9 h9 tk9; clear zc; intro F9 N9 off9; (try simp only [LCg.Off1, and_true] at off9))
 k_with "subscriptTail Name Slice ref ref" =>
  (k_dflt (refine slice_tup00 ‹_› ‹_› (News.isTup ‹_› (by k_mem)) ?_); refine clZ cZ.H ?_; refine gZ1 ?_; intro zc h9; clear_value h9; clear zc; intro F9 N9)
 k_with "d3" =>
  (refine wpAny_call ?_; k_dflt (refine' enterMC ?k1 ?k2 ?kN ?k3 ?k5 ?kA ?kF ?kK ?k6 ?k7 ?k8 ?k9 ?kB ?kD ?_ ?c2 ?c3 ?c4; (case kA => assumption); (case kF => assumption); (case kK => assumption); (case k1 => k_asm); (case k2 => k_asm); (case kN => k_asm); (case k3 => k_asm); (case k5 => k_asm); (case k6 => k_is); (case k7 => k_is); (case k8 => k_extra "g0"); (case k9 => exact BindsTo.of_eq rfl); (case kB => exact rfl); (case kD => decide +kernel); (case c2 => exact rfl); (case c3 => exact rfl); (case c4 => exact rfl); k_whole; refine clZ cZ.l.N.H.N.H ?_; refine gZ5 ?_; intro zc G' L' h' tk' cells'; clear_value G' L' h' tk' cells'; clear zc; intro eG' lt' F' N' Y' B' X' T'; (try simp only [List.forall_mem_cons, List.forall_mem_nil, and_true] at lt'); k_extra "h2"; (try simp only [List.cons_append, List.nil_append] at N'); (try dsimp only)); (try k_fold))
 trivial
theorem trait_callee_w (C : Cx w p loose mean mg mb A A₀ base h₀ outer env L m s.heap 125 620) {ck wo bd rd inf lo sc lp ow un k q e0 : Addr} {md : PySem.Str} {mt lt t1 t2 t3 : Tok} {ok : Addr → Prop} {vt tv : Value} {t : Ty} {kd : Kind} {a1 a2 ds dt li a3 a4 : Addr} {n0 : Nat}
  (hs : t.size ≤ 5) (N : News h₀ L s.heap [(ow, PySem.W.listOf #[] n0)]) (I : Inst (hideAll s.heap [ow]) ck 693 (chkF wo mt md bd rd inf lo sc lp ow un lt)) (I2 : Inst (hideAll s.heap [ow]) inf 452 [("known", .ref k), ("is_number", .ref q)])
  (W : Inst (hideAll s.heap [ow]) wo 793 (wdF a1 a2 ds dt li a3 a4)) (hdt : DictAt w (hideAll s.heap [ow]) dt [(PySem.Str.ofString "A", tv)]) (htr : TraitAt w (hideAll s.heap [ow]) tv kd) (hnp : t.hasParam = false)
  (tt : TyAt ok (hideAll s.heap [ow]) vt t) (he : IsTup (hideAll s.heap [ow]) e0 [].toArray)
  (ret : ∀ x fa ty l i0 i1 vo' xo q1 q2 q3 q4 q5 n' h' tk', (hideAll s.heap [ow]).StaysIn h' → Fr h₀ L h' m → News h₀ L h' [(ow, PySem.W.listOf #[.ref xo] n')] → IsTup h' xo [st "A" q4, .ref ty, vt, .int 5 q5].toArray →
   NewInst (hideAll s.heap [ow]) h' x 324 [("fnref", .ref fa), ("inputs", .ref l), ("output", .ref vo')] → IsTup h' fa [st "method" q1, st "A" q2, st "go" q3, vt, .ref ty].toArray → IsTup h' ty [].toArray → h'.IsList l [i0, i1].toArray →
   TyAt (fun _ => True) h' i1 .u8 → TyAt (fun _ => True) h' (.ref vo') ((Ty.param.pair Ty.bool).subst t) → Q (.ref x) { s with heap := h', toks := tk' }) :
  wpAny (model PR w) A (PySem.call (.ref (348 : Nat)) [.ref ck, st "A" t1, st "go" t2, vt, .ref e0, .int 5 t3]) Q E s := by
 refine @disc _ ?y ?e
 case e =>
 haveI h : @Eq (PLift _) (PLift.up (by
 k_fill
 obtain ⟨x, par, mdd, df, g, rg, pl, oww, ins, vo, s0, a0, q1, q2, kt, pe, be, ts, ta, rfl, Ix, hpar, hmd, Ig, hpl, hpe, hbe, hins, ts0, ta0, tvo⟩ := htr
 obtain ⟨av1, rfl⟩ := tt.isRef
 generalize hG : hideAll s.heap [ow] = G0 at *
 revert C hs N hnp hG I I2 W he Ix hpar hmd Ig hpl hpe hbe hins ts0 ta0 tvo hdt tt ret
 revert ck wo bd rd inf lo sc lp ow un k q e0 md mt lt t1 t2 t3 ok t kd a1 a2 ds dt li a3 a4 n0 x par mdd df g rg pl oww ins vo s0 a0 q1 q2 kt pe be ts ta av1 G0
 k_extra "rv"
 refine no_implicit_lambda% (clZ (cPm cZ.H.N.N.N.N.N.N.N.N.V.V.V.N.N.N.N.N.N.N.N.N.N.N.N.N.N.N.N.N.Kd.T.P.N.N.N.N.N.S.N.N.N.N.N.N.N.N.N.N.N.N.N) ?_)
 k_extra "ld"
 refine fZ8 ?_
 k_extra "w0"
 k_extra "x0"
 refine fZ8 ?_
 intro zc0_1 ow un k q e0 md mt lt
 clear_value ow un k q e0 md mt lt
 refine fZ8 ?_
 intro zc0_2 t1 t2 t3 ok t kd a1 a2
 clear_value t1 t2 t3 ok t kd a1 a2
 refine fZ8 ?_
 intro zc0_3 ds dt li a3 a4 n0 x par
 clear_value ds dt li a3 a4 n0 x par
 refine fZ8 ?_
 intro zc0_4 mdd df g rg pl oww ins vo
 clear_value mdd df g rg pl oww ins vo
 refine fZ8 ?_
 intro zc0_5 s0 a0 q1 q2 kt pe be ts
 clear_value s0 a0 q1 q2 kt pe be ts
 refine gZ3 ?_
 intro zc0 ta av1 G0
 clear_value ta av1 G0
 intros C hs N hnp hG I I2 W he Ix hpar hmd Ig hpl hpe hbe hins ts0 ta0 tvo hdt tt ret
 k_extra "oC"
 k_extra "d3"
 have eG0 : G0 = G' := by rw [eG', ← hG]; rfl
 subst eG0
 k_steps
 refine callee_of_w (U := t) (by k_extra "a0") (ok := fun _ => True) (inst_fr Ig ‹_›) (isTup_fr hins ‹_›) (News.dict ‹_› (by k_mem) d8 ‹_›) (TyAt.fr ts0 ‹_›) (TyAt.fr ta0 ‹_›) (TyAt.fr tvo ‹_›) (by cases kd <;> simp only [selfTy, Ty.size] <;> omega) (by decide) ⟨_, rfl, TyAt.imp (fun _ _ => trivial) (TyAt.fr tt ‹_›)⟩ (by k_extra "le") ?_
 k_extra "s1"
 rename News G0 L' _ ((_, _) :: _) => NX
 have N3 := News.grown NX st3
 have n3 := n3.down (Fr.keep ‹_›)
 rename_i u2_0 u2_1 u2_2 u2_3 u2_4 u2_5 u2_6 u2_7 u2_8 u2_9 u2_10 u2_11 u2_12 u2_13 u2_14 u2_15 u2_16 u2_17 u2_18 u2_19 u2_20 u2_21 u2_22 u2_23 u2_24 u2_25 u2_26 u2_27 u2_28 u2_29 u2_30 u2_31 u2_32 u2_33 u2_34 u2_35 u2_36 u2_37 u2_38 u2_39 u2_40 u2_41 u2_42 u2_43 u2_44 u2_45 u2_46 u2_47 u2_48 u2_49 u2_50 u2_51
 revert u2_27 x9 u2_36 st9
 revert u2_20 u2_30 tk
 refine no_implicit_lambda% (clZ cZ.N.N.N ?_)
 refine gZ3 ?_
 intro zc2 u2_20 u2_30 tk
 clear_value u2_20 u2_30 tk
 intros u2_27 x9 u2_36 st9
 k_steps
 rename Fr h₀ L h3 m => Fe
 rename News h₀ L h3 _ => Ne
 refine' ret _ _ _ _ _ _ _ _ _ _ _ _ _ _ _ _ ?r1 Fe ?r2 ?r3 n3 ?r4 ?r5 hl3 (ti1.imp fun _ _ => trivial) (tvo3.imp fun _ _ => trivial)
 case r1 => exact F3.keep
 case r4 => exact News.isTup N3 (by k_mem)
 case r5 => exact News.isTup N3 (by k_mem)
 case r3 => exact News.isTup N3 (by k_mem)
 case r2 => exact fun q hq => by (obtain rfl := List.mem_singleton.mp hq; exact Ne _ (by k_mem)))) ?y := by k_extra "cv"
 k_extra "zz"
theorem TupE.now {g h : Heap} {L a : Addr} {m : Str → Option Value} {l : List (Addr × Obj)} {vs : List Value} (e : TupE g L l a vs) (F : Fr g L h m) (N : News g L h l) : IsTup h a vs.toArray := e _ _ F N
theorem eq_never {prog : Program} {w : World} {A : Around} {E : Value → Shared → Prop} {s : Shared} {l b : Addr} {q1 q2 q3 : Tok} {Q : Value → Shared → Prop} (hl : IsTup s.heap l [st "int" q1, st "u8" q2].toArray) (hb : IsTup s.heap b [st "never" q3].toArray) (hu : A.units + 64 < cLine) (h : Q (.bool false) s) : wpAny (model prog w) A (compareOp .Eq (.ref l) (.ref b)) Q E s := by
 refine eq_dataH (da := .tuple [ds "int", ds "u8"]) (db := .tuple [ds "never"]) (isTup_reads hl (.cons (.str _ _) (.cons (.str _ _) .nil))) (isTup_reads hb (.cons (.str _ _) .nil)) (by decide +kernel) (by decide +kernel) hu ?_
 rw [eqvT, PySem.SeqAt.eqvAll_other_length (by decide)]
 exact h
example : True := by
 k_with "compareOp Eq ref ref" =>
  (k_here; k_dflt (refine eq_never (TupE.now ‹_› ‹_› (by k_extra "b0")) (News.isTup ‹_› (by k_mem)) (by k_extra "g0") ?_))
 k_with "subscriptTail Name Constant ref int" =>
  (k_here; with_reducible (refine itemE0 ‹_› ‹_› (by with_unfolding_all k_extra "b0") ?_))
 k_with "call ref cons" =>
  (
   (with_reducible show wpAny _ _ (PySem.call (Value.ref 564) _) _ _ _)
   refine' chk_resolved_w 4 (by k_extra "a0") (t := .u8) (ok := fun _ => True) (by decide) (inst_fr I ‹_›) (inst_fr I2 ‹_›) ?ht ?_
   case ht => first | exact TyAt.fr hy ‹_› | exact TyAt.fr hz ‹_›
   k_extra "k0"
   obtain ⟨y1, y2, it9, ok9⟩ := ty9.u8J
   revert y1 y2 it9 ok9; refine clZ cZ.N.N ?_; refine gZ2 ?_; intro zc y1 y2; clear_value y1 y2; clear zc; intro it9 ok9
   (try (have se9 := rest_sub0 ‹_› st9; have oE9 := Ev.up se9 e9))
   have N9 := rest_newsF F9
   have e9 := ev_tup0 F9 it9)
 k_with "call ref cons" =>
  (
   (with_reducible show wpAny _ _ (PySem.call (Value.ref 571) _) _ _ _)
   refine' chk_same_w (by k_extra "a0") (t := .u8) (ok := fun _ => True) (by decide) (inst_fr I ‹_›) (inst_fr I2 ‹_›) ?ht ?hu ?_
   case ht => exact TyAt.fr hy ‹_›
   case hu => exact TyAt.fr hz ‹_›
   k_extra "i0"
   have N9 := News.grown ‹_› st9)
 trivial
theorem coerce_w (C : Cx w p loose mean mg mb A A₀ base h₀ outer env L m s.heap 60 200) {ck wo bd rd inf lo sc lp ow un k q am : Addr} {md : PySem.Str} {mt lt : Tok} {x0 tv vu x2 x3 : Value}
  (I : Inst s.heap ck 693 (chkF wo mt md bd rd inf lo sc lp ow un lt)) (I2 : Inst s.heap inf 452 [("known", .ref k), ("is_number", .ref q)]) (hm : IsTup s.heap am [x0, tv, x2, x3].toArray)
  (hy : TyAt (fun _ => True) s.heap tv .u8) (hz : TyAt (fun _ => True) s.heap vu .u8)
  (ret : ∀ h' tk', s.heap.StaysIn h' → Fr h₀ L h' m → Q (.ref am) { s with heap := h', toks := tk' }) :
  wpAny (model PR w) A (PySem.call (.ref (683 : Nat)) [.ref ck, .ref am, vu]) Q E s := by
 refine @disc _ ?y ?e
 case e =>
 haveI h : @Eq (PLift _) (PLift.up (by
 k_fill
 obtain ⟨a1, q1, q2, rfl, itv, -⟩ := hy.u8Inv
 obtain ⟨a2, q3, q4, rfl, itu, -⟩ := hz.u8Inv
 revert C I I2 ret hm hy itv hz itu
 revert ck wo bd rd inf lo sc lp ow un k q am md mt lt x0 x2 x3 a1 q1 q2 a2 q3 q4
 k_extra "rv"
 refine no_implicit_lambda% (clZ (cPm cZ.N.N.N.N.N.N.V.V.V.N.N.S.N.N.N.N.N.N.N.N.N.N.N.N.N) ?_)
 k_extra "ld"
 refine fZ8 ?_
 k_extra "w0"
 k_extra "x0"
 refine fZ8 ?_
 intro zc0_1 ow un k q am md mt lt
 clear_value ow un k q am md mt lt
 refine fZ8 ?_
 intro zc0_2 x0 x2 x3 a1 q1 q2 a2 q3
 clear_value x0 x2 x3 a1 q1 q2 a2 q3
 refine gZ1 ?_
 intro zc0 q4
 clear_value q4
 intros C I I2 ret hm hy itv hz itu
 k_extra "oC"
 k_extra "c0"
 k_steps
 exact ret _ _ (Fr.keep ‹_›) ‹_›)) ?y := by k_extra "cv"
 k_extra "zz"
noncomputable abbrev lamPos (a b c : Nat) : Pos := { line := 740, col := a, endLine := b, endCol := c }
noncomputable abbrev lamPar : Arguments :=
 { posonlyargs := [], args := [{ arg := PySem.Str.ofString "checker", annotation := none, pos := lamPos 25 740 32 }, { arg := PySem.Str.ofString "node", annotation := none, pos := lamPos 34 740 38 }, { arg := PySem.Str.ofString "wanted", annotation := none, pos := lamPos 40 740 46 }], vararg := none, kwonlyargs := [], kw_defaults := [], kwarg := none, defaults := [] }
noncomputable abbrev lamBody : PySem.Expr := .Subscript (.Name (PySem.Str.ofString "node") (lamPos 48 740 52)) (.Constant (.int 2) 0 (lamPos 53 740 54)) (lamPos 48 740 55)
noncomputable abbrev lamSc : Scope := { kind := .function, names := [(PySem.Str.ofString "checker", .local), (PySem.Str.ofString "node", .local), (PySem.Str.ofString "wanted", .local)], isGenerator := false, isCoroutine := false }
noncomputable abbrev lamQ : PySem.Str := PySem.Str.ofString "_law_told.<locals>.<lambda>"
noncomputable abbrev lamO (pm : Value) (c' : Addr) (ctv : Value) : Obj := kla_obj "<lambda>" lamQ lamPar lamBody lamSc [] pm c' ctv
section
variable {prog : Program} {w : World} {A₀ A : Around} {E : Value → Shared → Prop} {s : Shared} {K : Frag} {L : Addr} {h₀ base : Heap} {m mg mb : Str → Option Value} {news : List (Addr × Obj)} {p : Program} {loose : List Str} {mean : ExcName → Option Value} {Q : Value → Shared → Prop}
theorem enterL {env : Env} {outer : List Env} {name qual : Str} {params : Arguments} {body : PySem.Expr} {scope : Scope} {pm ctv : Value} {c' f : Addr} {args : Args} {binds : List (Str × Value)} {R : Result → Shared → Prop}
  (B : Below A₀ base outer h₀) (F : Fr h₀ L s.heap m) (X₀ : K.In h₀) (T : Top p loose mean mg mb h₀) (hA : A.frames = some (env :: outer)) (hf : env.frame = some L) (hke : env.scope.kind = .function)
  (ho : s.heap.get? f = some (kla_obj name qual params body scope [] pm c' ctv)) (hcd : s.heap.CodeRec (.ref c') qual) (hroom : A.depth < recursionLimit)
  (hbind : bindArgs (kla_fn name qual params body scope [] pm (.ref c') ctv) args = pure binds) (hloc : ∀ y ∈ binds, scope.names.lookup y.1 = some .local)
  (h : ∀ L' h₁, Fr s.heap L' h₁ (fun y => binds.reverse.lookup y) → News s.heap L' h₁ [] → Below A base (env :: outer) s.heap → K.In s.heap → Top p loose mean mg mb s.heap →
   wpAny (model prog w) (A.deeper (envOf qual scope L' f (.ref c'))) (eval body (envOf qual scope L' f (.ref c')))
    (fun v s' => LeaveK h₀ L m s.heap R v s')
    (fun e s' => wpAny (model prog w) (A.deeper (envOf qual scope L' f (.ref c'))) (leaving (envOf qual scope L' f (.ref c')) e) (fun _ s'' => R (.error e) s'') (fun e' s'' => R (.error e') s'') s')
    { s with heap := h₁, toks := s.toks + binds.length })
  (hco : scope.isCoroutine = false) (hgen : scope.isGenerator = false) (hk : scope.kind = .function)
  (hcell : ∀ x ∈ scope.names, x.2 ≠ .cell) : codeAny (model prog w) A (.call (.ref f) args) R s := by
 have Nn : News h₀ L s.heap [] := News.nil
 obtain ⟨FG, BG, st, lv⟩ := groundX (R := R) B F Nn hA hf hke
 refine kla_callFunE hroom ho rfl hco hgen rfl hcd ?_
 rw [hbind]
 refine wpAny_pure (wpAny_newFunctionEnv hcell hloc (fun h₁ hns hsb => ⟨((T.nolimit).keeps F.keep).fresh _ hsb, ?_⟩) hk)
 have hk₁ : ∀ b o, s.heap.get? b = some o → h₁.get? b = some o := fun b o e => hsb.extBut b o (Nat.ne_of_lt (Heap.lt_size e)) (Heap.get?_push_of_some _ e)
 exact kla_codeExpr (wpAny_mono (h s.heap.objs.size h₁ ⟨hns, fun b o e => hk₁ b o e, Nat.le_refl _⟩ News.nil BG (X₀.keeps F.keep) (T.keeps F.keep)) (fun v s' hl => lv _ _ hl) fun _ _ y => y)
theorem call_own {x C : Addr} {fs : List (String × Value)} {name : PySem.Str} {pl : Sem Bool} {Q : Value × List Value → Shared → Prop} {u : Value} (F : Fr h₀ L s.heap m) (X : K.In h₀) (I : Inst h₀ x C fs) (hg : plainGet K C name = true) (hh : hasDictIn K C = true)
  (ha : findIn K (.ref C) name = some none) (hl : lookF fs name = some u) (hv : handedIn u = true) (h : Q (u, []) { s with toks := s.toks + 1 }) : wpAny (model prog w) A (getMethod (.ref x) name pl) Q E s := by
 obtain ⟨dx, es, n, a, b, c⟩ := I
 have J : InstAt s.heap x (instObj C dx) C (some (dictOf es n)) := ⟨F.keep _ _ a, rfl, rfl, F.keep _ _ b⟩
 refine method_usual (r := none) (X.keeps F.keep) J (plainGet_of hg).1 (plainGet_of hg).2 ha rfl ?_
 exact get_value (X.keeps F.keep) J (plainGet_of hg).1 (findObj_own hh ha rfl (show getL name es = some (some u) by rw [c.get, hl])) hv h
end
inductive RdAt (h : Heap) (rd : Addr) : Prop
 | mk : ∀ (fs : List (String × Value)) (fl c' : Addr) (pm ctv : Value), (Inst h rd 793 fs) → (lookF fs (PySem.Str.ofString "read") = some (.ref fl)) → (h.get? fl = some (lamO pm c' ctv)) → (h.CodeRec (.ref c') lamQ) → RdAt h rd
theorem RdAt.keeps {h h' : Heap} {rd : Addr} (k : h.StaysIn h') (x : RdAt h rd) : RdAt h' rd :=
 let ⟨fs, fl, c', pm, ctv, a, b, c, d⟩ := x; ⟨fs, fl, c', pm, ctv, a.keeps k, b, k _ _ c, d.keeps k⟩
theorem lam_fnAt {g h : Heap} {L fl c' : Addr} {m : Str → Option Value} {pm ctv : Value} (F : Fr g L h m) (x : g.get? fl = some (lamO pm c' ctv)) : FnAt fl h := ⟨_, _, _, _, F.keep _ _ x⟩
example : True := by
  k_with "getMethod ref" =>
    (k_here; (with_reducible show wpAny _ _ (getMethod _ (PySem.Str.ofString "read") _) _ _ _); k_dflt (refine' call_own ?F ?X ?I ?hg ?hh ?ha ?hl ?hv ?_; (case F => assumption); (case X => assumption); (case I => exact hRd); (case hg => k_is); (case hh => k_is); (case ha => k_is); (case hl => exact hRl); (case hv => rfl)); (try dsimp only))
  k_with "callWith ref nil nil" =>
    (k_here; (with_reducible show wpAny _ _ (callWith _ (Value.ref fl) _ _ _) _ _ _); k_dflt (refine callWith_F (lam_fnAt ‹_› hfl) ?_))
  k_with "FnAt" =>
    (k_dflt (exact lam_fnAt ‹_› hfl))
  k_with "a4" =>
    (refine wpAny_call ?_; k_dflt (refine' enterL ?k1 ?k2 ?k3 ?k5 ?kA ?kF ?kK ?k6 ?k7 ?k8 ?k9 ?kB ?_ ?c2 ?c3 ?c4 ?c5; (case kA => assumption); (case kF => assumption); (case kK => assumption); (case k1 => k_asm); (case k2 => k_asm); (case k3 => k_asm); (case k5 => k_asm); (case k6 => exact hfl); (case k7 => exact hcd); (case k8 => k_extra "g0"); (case k9 => exact rfl); (case c5 => decide); (case kB => exact locs rfl); (case c2 => exact rfl); (case c3 => exact rfl); (case c4 => exact rfl); k_whole; refine clZ cZ.H.N ?_; refine gZ2 ?_; intro zc L' h'; clear_value L' h'; clear zc; intro F' N' B' X' T'; (try dsimp only)); (try k_fold))
  k_with "call ref cons" =>
    ((with_reducible show wpAny _ _ (PySem.call (Value.ref fl) _) _ _ _)
     refine' lam_w (by k_extra "a0") (Fr.keep ‹_› _ _ hfl) (hcd.keeps (Fr.keep ‹_›)) (isTup_fr hm ‹_›) ?_
     k_extra "i0"
     have N9 := News.grown ‹_› st9)
  trivial
theorem lam_w (C : Cx w p loose mean mg mb A A₀ base h₀ outer env L m s.heap 5 20) {fl c' am : Addr} {pm ctv x0 x1 v cv wv : Value} (hfl : s.heap.get? fl = some (lamO pm c' ctv)) (hcd : s.heap.CodeRec (.ref c') lamQ) (hm : IsTup s.heap am [x0, x1, v].toArray)
  (ret : ∀ h' tk', s.heap.StaysIn h' → Fr h₀ L h' m → Q v { s with heap := h', toks := tk' }) :
  wpAny (model PR w) A (PySem.call (.ref fl) [cv, .ref am, wv]) Q E s := by
 refine @disc _ ?y ?e
 case e =>
 haveI h : @Eq (PLift _) (PLift.up (by
 k_fill
 revert C hfl hcd hm ret
 revert fl c' am pm ctv x0 x1 v cv wv
 k_extra "rv"
 refine no_implicit_lambda% (clZ (cPm cZ.V.V.V.V.V.V.V.N.N.N) ?_)
 k_extra "ld"
 refine fZ8 ?_
 intro zc0_0 fl c' am pm ctv x0 x1 v
 clear_value fl c' am pm ctv x0 x1 v
 refine gZ2 ?_
 intro zc0 cv wv
 clear_value cv wv
 intros C hfl hcd hm ret
 k_extra "oC"
 k_extra "a4"
 k_steps
 exact ret _ _ (Fr.keep ‹_›) ‹_›)) ?y := by k_extra "cv"
 k_extra "zz"
theorem expr_w (C : Cx w p loose mean mg mb A A₀ base h₀ outer env L m s.heap 15 50) {ck wo bd rd inf lo sc lp ow un am : Addr} {md : PySem.Str} {mt lt : Tok} {x0 x1 v wv : Value}
  (I : Inst s.heap ck 693 (chkF wo mt md bd rd inf lo sc lp ow un lt)) (R : RdAt s.heap rd) (hm : IsTup s.heap am [x0, x1, v].toArray)
  (ret : ∀ h' tk', s.heap.StaysIn h' → Fr h₀ L h' m → Q v { s with heap := h', toks := tk' }) :
  wpAny (model PR w) A (PySem.call (.ref (543 : Nat)) [.ref ck, .ref am, wv]) Q E s := by
 refine @disc _ ?y ?e
 case e =>
 haveI h : @Eq (PLift _) (PLift.up (by
 k_fill
 obtain ⟨fs, fl, c', pm, ctv, hRd, hRl, hfl, hcd⟩ := R
 revert C I hm ret hRd hRl hfl hcd
 revert ck wo bd rd inf lo sc lp ow un am md mt lt x0 x1 v wv fs fl c' pm ctv
 k_extra "rv"
 refine no_implicit_lambda% (clZ (cPm cZ.V.V.N.N.r.V.V.V.V.N.N.S.N.N.N.N.N.N.N.N.N.N.N) ?_)
 k_extra "ld"
 refine fZ8 ?_
 k_extra "w0"
 k_extra "x0"
 refine fZ8 ?_
 intro zc0_1 ow un am md mt lt x0 x1
 clear_value ow un am md mt lt x0 x1
 refine gZ7 ?_
 intro zc0 v wv fs fl c' pm ctv
 clear_value v wv fs fl c' pm ctv
 intros C I hm ret hRd hRl hfl hcd
 k_extra "oC"
 k_extra "c0"
 k_steps
 exact ret _ _ (Fr.keep ‹_›) ‹_›)) ?y := by k_extra "cv"
 k_extra "zz"
section
variable {prog : Program} {w : World} {A : Around} {E : Value → Shared → Prop} {s : Shared} {g : Heap} {L : Addr} {env : Env}
theorem noteFrame_congr {env env' : Env} {x : Value} (h : env.frame = env'.frame) : noteFrame x env = noteFrame x env' := by
 unfold noteFrame PySem.frameOf
 rw [h]
def CompErr (prog : Program) (w : World) (A : Around) (env : Env) (C : Addr) (E : Value → Shared → Prop) : Value → Shared → Prop :=
 notedBy (model prog w) A env fun e s' => ∃ m, s'.heap.Ns C m ∧ ∀ h', Heap.SameBut C s'.heap h' → ∀ cenv : Env, cenv.locals = C → wpAny (model prog w) A (PySem.passOn "comprehension.variables-let-go" e cenv : Sem Value) (fun _ _ => False) E { s' with heap := h' }
inductive ZCEnd (g : Heap) (L : Addr) (m : Str → Option Value) (s₁ : Shared) (C D z TI TO i1 i2 l1 : Nat) (oC : Obj) (news : List (Addr × Obj)) (Q : Value → Shared → Prop) (y : Value) (s₃ : Shared) : Prop
 | mk : ∀ h tk o, (s₃ = { s₁ with heap := h, toks := tk }) → (Fr g L h m) → (News g L h ((C, oC) :: (D, LCg.lst []) :: (z, zipO TI TO) :: (TI, pairO (.ref i1) (.ref i2)) :: (i1, o) :: news)) → ((o.cls = .type "tuple_iterator" ∧ o.data = .fields #[.ref l1, .int 1 0])) → (∀ h' tk', Fr g L h' m → News g L h' ((D, LCg.lst [y]) :: news) → Q (.ref D) { s₁ with heap := h', toks := tk' }) → ZCEnd g L m s₁ C D z TI TO i1 i2 l1 oC news Q y s₃
inductive ZCSrc (prog : Program) (w : World) (A : Around) (g : Heap) (L : Addr) (env : Env) (elt : PySem.Expr) (x x₂ : Str) (scope : Scope) (cl : List (Str × Addr)) (Q : Value → Shared → Prop) (E : Value → Shared → Prop) (xv : Value) (s₁ : Shared) : Prop
 | mk : ∀ (z TI TO i1 i2 l1 l2 : Nat) (news : List (Addr × Obj)) (vx vy : Value) (m : Str → Option Value), (xv = .ref z) → (A.handled = none) → (ZA z TI TO i1 i2 l1 l2) → (Fr g L s₁.heap m) → (News g L s₁.heap ((z, zipO TI TO) :: (TO, pairO .none .none) :: (TI, pairO (.ref i1) (.ref i2)) :: (i2, itObj true l2) :: (i1, itObj false l1) :: news)) → ((∀ q ∈ news, q.1 < i1)) → (IsTup g l1 [vx].toArray) → (g.IsList l2 [vy].toArray) → (∀ (C D : Nat) oC m₂ h' o tk, LCg.NsObj oC m₂ → m₂ x = some vx → m₂ x₂ = some vy → Fr g L h' m → News g L h' ((C, oC) :: (D, LCg.lst []) :: (z, zipO TI TO) :: (TI, pairO (.ref i1) (.ref i2)) :: (i1, o) :: news) → (o.cls = .type "tuple_iterator" ∧ o.data = .fields #[.ref l1, .int 1 0]) → z < D → D < C → wpAny (model prog w) A (eval elt (compEnvC scope cl C env)) (ZCEnd g L m s₁ C D z TI TO i1 i2 l1 oC news Q) (CompErr prog w A (compEnvC scope cl C env) C E) { s₁ with heap := h', toks := tk }) → ZCSrc prog w A g L env elt x x₂ scope cl Q E xv s₁
theorem comp_zip1 {elt iter : PySem.Expr} {x x₂ : Str} {px px₂ tp : Pos} {tk} {scope : Scope} {cl : List (Str × Addr)} {pos : Pos} {Q : Value → Shared → Prop} {m₀ : Str → Option Value} (_F₀ : Fr g L s.heap m₀)
  (hclos : closureFor scope env = pure cl) (hcell : ∀ y ∈ scope.names, y.2 ≠ .cell) (hkind : scope.kind = .function)
  (hnames : ∀ y ∈ scope.names, y.2 = .local → scope.names.lookup y.1 = some .local) (hx : scope.names.lookup x = some .local) (hx₂ : scope.names.lookup x₂ = some .local) (hxx : x ≠ x₂)
  (h : wpAny (model prog w) A (eval iter env) (ZCSrc prog w A g L env elt x x₂ scope cl Q E) E s)
  (hs : ∀ x, foldedSetIterable iter env x = pure x := by intro _; rfl) :
  wpAny (model prog w) A (eval (.ListComp elt [⟨.Tuple [.Name x px, .Name x₂ px₂] tk tp, iter, [], 0⟩] scope pos) env) Q E s := by
 refine @disc _ ?y ?e
 case e =>
 haveI h : @Eq (PLift _) (PLift.up (by
 revert _F₀ hclos hcell hkind hnames hx hx₂ hxx h hs
 revert prog w A E s g L env elt iter x x₂ px px₂ tp tk scope cl pos Q m₀
 refine no_implicit_lambda% (clZ cZ.M.Q.p.a.c.N.p.p.p.S.S.E.E.e.N.H.s.Q.A.W.R ?_)
 refine fZ8 ?_
 intro zc0_0 prog w A E s g L env
 clear_value prog w A E s g L env
 refine fZ8 ?_
 intro zc0_1 elt iter x x₂ px px₂ tp tk
 clear_value elt iter x x₂ px px₂ tp tk
 refine gZ5 ?_
 intro zc0 scope cl pos Q m₀
 clear_value scope cl pos Q m₀
 intros _F₀ hclos hcell hkind hnames hx hx₂ hxx h hs
 rw [eval_ListComp]
 k_extra "k1"
 obtain ⟨z, TI, TO, i1, i2, l1, l2, news, vx, vy, m, rfl, hh, D, F, N, lt, t1, t2, K⟩ := h₁
 have d := D
 have NZ := N _ (.head _)
 have NTO := N _ (.tail _ (.head _))
 have NTI := N _ (.tail _ (.tail _ (.head _)))
 have Ni2 := N _ (.tail _ (.tail _ (.tail _ (.head _))))
 have Ni1 := N _ (.tail _ (.tail _ (.tail _ (.tail _ (.head _)))))
 refine wpAny_pyIter_zip NZ.1 ?_
 refine wpAny_newObj_type (wpAny_newFunctionEnv hcell (by intro y hy; simp at hy) (fun h₁ hns₁ hsb₁ => ?_) hkind)
 dsimp only at hns₁ hsb₁ ⊢
 generalize hH2 : s₁.heap.push { cls := .type "list", dict := none, data := .seq ([] : List Value).toArray } = H2 at hns₁ hsb₁ ⊢
 have hC : H2.objs.size = s₁.heap.objs.size + 1 := by rw [← hH2, Heap.size_push]
 generalize hD : s₁.heap.objs.size = D at hC
 have zlt : @LT.lt Nat _ z D := hD ▸ Heap.lt_size NZ.1
 have Llt : @LT.lt Nat _ L D := hD ▸ F.ns.lt
 have blw : ∀ b o, s₁.heap.get? b = some o → @LT.lt Nat _ b D := fun b o e => hD ▸ Heap.lt_size e
 generalize hCe : H2.objs.size = C at hC hns₁ hsb₁ ⊢
 have old : ∀ b o, s₁.heap.get? b = some o → h₁.get? b = some o := fun b o e => hsb₁.extBut b o (Nat.ne_of_lt (hC ▸ Nat.lt_succ_of_lt (blw b o e))) (Heap.get?_push_of_some _ (hH2 ▸ Heap.get?_push_of_some _ e))
 have hacc : h₁.get? D = some (LCg.lst []) := hsb₁.extBut _ _ (Nat.ne_of_lt (hC ▸ Nat.lt_succ_self D)) (Heap.get?_push_of_some _ (hH2 ▸ hD ▸ Heap.get?_push_size _ rfl))
 have fresh₀ : ∀ a : Nat, D ≤ a → g.get? a = none := fun a ha => by
  cases e : g.get? a with
  | none => rfl
  | some o' => exact absurd (blw a o' (F.keep a o' e)) (Nat.not_lt.mpr ha)
 have F₁ : Fr g L h₁ m := F.keeps old
 have N₁ : ∀ q ∈ (z, zipO TI TO) :: (TO, pairO .none .none) :: (TI, pairO (.ref i1) (.ref i2)) :: (i2, itObj true l2) :: (i1, itObj false l1) :: news, h₁.get? q.1 = some q.2 := fun q hq => old _ _ (N q hq).1
 have ltn : ∀ q ∈ news, @LT.lt Nat _ q.1 i1 := lt
 have DC : D < C := hC ▸ Nat.lt_succ_self D
 have up : ∀ {c : Nat}, c < D → c < C := fun h => Nat.lt_trans h DC
 have TOD := Nat.lt_trans d.a4 zlt
 have TID := Nat.lt_trans d.t3 zlt
 have i1D := Nat.lt_trans d.t6 zlt
 have i2D := Nat.lt_trans d.t5 zlt
 have bel : ∀ {c : Nat}, c < i1 → c ≠ C ∧ c ≠ z ∧ c ≠ TO ∧ c ≠ i1 ∧ c ≠ i2 := fun h => ⟨Nat.ne_of_lt (up (Nat.lt_trans h i1D)), d.below h⟩
 have abv : ∀ {c : Nat}, D ≤ c → c ≠ z ∧ c ≠ TO ∧ c ≠ i1 ∧ c ≠ i2 := fun h => ⟨Nat.ne_of_gt (Nat.lt_of_lt_of_le zlt h), Nat.ne_of_gt (Nat.lt_of_lt_of_le TOD h), Nat.ne_of_gt (Nat.lt_of_lt_of_le i1D h), Nat.ne_of_gt (Nat.lt_of_lt_of_le i2D h)⟩
 have aC := abv (Nat.le_of_lt DC)
 have aD := abv (Nat.le_refl D)
 rename_i u1_0
 revert u1_0 F N lt t1 t2 K d NZ NTO NTI Ni2 Ni1 hH2 hD zlt Llt blw hCe hC hns₁ hsb₁ old hacc fresh₀ F₁ N₁ ltn DC up TOD TID i1D i2D bel abv aC aD
 revert s₁ z TI TO i1 i2 l1 l2 news vx vy m h₁ H2 D C
 refine no_implicit_lambda% (clZ cZ.N.N.H.H.M.V.V.l.N.N.N.N.N.N.N.s ?_)
 refine fZ8 ?_
 intro zc1_0 s₁ z TI TO i1 i2 l1 l2
 clear_value s₁ z TI TO i1 i2 l1 l2
 refine gZ8 ?_
 intro zc1 news vx vy m h₁ H2 D C
 clear_value news vx vy m h₁ H2 D C
 intros u1_0 F N lt t1 t2 K d NZ NTO NTI Ni2 Ni1 hH2 hD zlt Llt blw hCe hC hns₁ hsb₁ old hacc fresh₀ F₁ N₁ ltn DC up TOD TID i1D i2D bel abv aC aD
 have loop : ∀ s₃ : Shared, s₃ = { s₁ with heap := h₁, toks := s₁.toks + ([] : List (Str × Value)).length } →
   codeAny (model prog w) A (.compLoop (.ListComp elt [⟨.Tuple [.Name x px, .Name x₂ px₂] tk tp, iter, [], 0⟩] scope pos) 0 (.ref z) (.ref D) (compEnvC scope cl C env))
    (compPost (model prog w) A E none Q (.ref D) C) s₃ := by
  rintro s₃ rfl
  refine LCp.codeAny_compLoop_pair
   (fun k s' => (k = 1 ∧ s' = { s₁ with heap := h₁, toks := s₁.toks + ([] : List (Str × Value)).length }) ∨ (k = 0 ∧ ∃ h tk o oC m₂ y, s' = { s₁ with heap := h, toks := tk } ∧ Fr g L h m ∧ LCg.NsObj oC m₂ ∧
    News g L h ((C, oC) :: (D, LCg.lst [y]) :: (z, zipO TI TO) :: (TI, pairO (.ref i1) (.ref i2)) :: (i1, o) :: news) ∧ (o.cls = .type "tuple_iterator" ∧ o.data = .fields #[.ref l1, .int 1 0]) ∧
    ∀ h' tk', Fr g L h' m → News g L h' ((D, LCg.lst [y]) :: news) → Q (.ref D) { s₁ with heap := h', toks := tk' })) (fun n s' hI => ?_) 1 (.inl ⟨rfl, rfl⟩)
  rcases hI with ⟨rfl, rfl⟩ | ⟨rfl, h, tkk, o, oC, m₂, y, rfl, F', nC, N', ho', K'⟩
  ·refine zip_first (b := false) (c := true) (xs := [vx]) (ys := [vy]) d (N₁ _ (.head _)) (N₁ _ (.tail _ (.tail _ (.head _)))) (N₁ _ (.tail _ (.head _))) (ItAt.obj (N₁ _ (.tail _ (.tail _ (.tail _ (.tail _ (.head _))))))) (ItAt.obj (N₁ _ (.tail _ (.tail _ (.tail _ (.head _)))))) (F₁.tup t1) (isList_fr t2 F₁) rfl rfl fun h' hz' hTO' j1 j2 hp hsz keep => ?_
   have kp : ∀ c : Nat, c ≠ z → c ≠ TO → c ≠ i1 → c ≠ i2 → ∀ o, h₁.get? c = some o → h'.get? c = some o := fun c a1 a2 a3 a4 o e => keep c o a1 a2 a3 a4 e
   have hsz1 : C < h₁.objs.size := by obtain ⟨oC, heC, -⟩ := LCg.ns_obj hns₁; exact Heap.lt_size heC
   refine letOwned_zip hz' fun h'' hz'' hs'' => ?_
   revert hz' hTO' j1 j2 hp hsz keep kp hz'' hs''
   revert h' h''
   refine no_implicit_lambda% (clZ cZ.H.H ?_)
   refine gZ2 ?_
   intro zc2 h' h''
   clear_value h' h''
   intros hz' hTO' j1 j2 hp hsz keep kp hz'' hs''
   have ex : ∀ b : Nat, b ≠ z → ∀ o, h'.get? b = some o → h''.get? b = some o := fun b n o e => hs''.extBut b o n e
   have kq : ∀ c : Nat, c ≠ z → c ≠ TO → c ≠ i1 → c ≠ i2 → ∀ o, h₁.get? c = some o → h''.get? c = some o := fun c a1 a2 a3 a4 o e => ex c a1 o (kp c a1 a2 a3 a4 o e)
   have hT2 : IsPair h'' h₁.objs.size vx vy := ex _ (abv (Nat.le_of_lt (Nat.lt_trans DC hsz1))).1 _ hp
   refine assign_Tuple_tuple (items := #[vx, vy]) hh ⟨_, hT2, rfl, _, rfl⟩ rfl rfl fun h₅ he => ?_
   have he' : ∀ b o, h''.get? b = some o → h₅.get? b = some o := fun b o e => he b o (Nat.ne_of_lt (Heap.lt_size e)) e
   refine assignInOrder_cons (wpAny_assign_Name (wpAny_storeName_local (lookup_relabel_local hx) (hns₁.at' fun o e => he' _ o (kq C aC.1 aC.2.1 aC.2.2.1 aC.2.2.2 o e)) (fun h₆ hn₆ hs₆ => ?_) (by simp [compEnvC, relabel, hkind])))
   refine assignInOrder_cons (wpAny_assign_Name (wpAny_storeName_local (lookup_relabel_local hx₂) hn₆ (fun h₃ hn₃ hs₃ => ?_) (by simp [compEnvC, relabel, hkind])))
   refine assignInOrder_nil ?_
   have old3 : ∀ b : Nat, b ≠ C → ∀ o, h''.get? b = some o → h₃.get? b = some o := fun b hb o e => hs₃.extBut b o hb (hs₆.extBut b o hb (he' b o e))
   have kr : ∀ c : Nat, c ≠ C → c ≠ z → c ≠ TO → c ≠ i1 → c ≠ i2 → ∀ o, h₁.get? c = some o → h₃.get? c = some o := fun c a0 a1 a2 a3 a4 o e => old3 c a0 o (kq c a1 a2 a3 a4 o e)
   obtain ⟨oC, heC, hoC⟩ := LCg.ns_obj hn₃
   obtain ⟨oi, hoi, hoc, hod⟩ := j1
   revert he he' hn₆ hs₆ hn₃ hs₃ old3 kr heC hoC hoi hoc hod
   revert h₅ h₆ h₃ oC oi
   refine no_implicit_lambda% (clZ cZ.O.O.H.H.H ?_)
   refine gZ5 ?_
   intro zc3 h₅ h₆ h₃ oC oi
   clear_value h₅ h₆ h₃ oC oi
   intros he he' hn₆ hs₆ hn₃ hs₃ old3 kr heC hoC hoi hoc hod
   have gg : ∀ {c : Addr} {o : Obj}, g.get? c = some o → h₃.get? c = some o := fun {c o} e => by
    have c0 : c ≠ C := fun q => by rw [q, fresh₀ C (Nat.le_of_lt DC)] at e; cases e
    have c1 : c ≠ z := fun q => by rw [q, NZ.2.2] at e; cases e
    have c2 : c ≠ TO := fun q => by rw [q, NTO.2.2] at e; cases e
    have c3 : c ≠ i1 := fun q => by rw [q, Ni1.2.2] at e; cases e
    have c4 : c ≠ i2 := fun q => by rw [q, Ni2.2.2] at e; cases e
    exact kr c c0 c1 c2 c3 c4 _ (F₁.keep _ _ e)
   have F₃ : Fr g L h₃ m := ⟨F₁.ns.at' fun o e => kr L (Nat.ne_of_lt (up Llt)) (fun q => NZ.2.1 q.symm) (fun q => NTO.2.1 q.symm) (fun q => Ni1.2.1 q.symm) (fun q => Ni2.2.1 q.symm) o e, fun c o e => gg e, F.above⟩
   have nC : C ≠ L ∧ g.get? C = none := ⟨Nat.ne_of_gt (up Llt), fresh₀ C (Nat.le_of_lt DC)⟩
   have N₃ : News g L h₃ ((C, oC) :: (D, LCg.lst []) :: (z, zipO TI TO) :: (TI, pairO (.ref i1) (.ref i2)) :: (i1, oi) :: news) := fun q hq => by
    k_extra "j0"
    ·exact ⟨heC, nC⟩
    k_extra "j0"
    ·exact ⟨kr D (Nat.ne_of_lt DC) aD.1 aD.2.1 aD.2.2.1 aD.2.2.2 _ hacc, Nat.ne_of_gt Llt, fresh₀ D (Nat.le_refl _)⟩
    k_extra "j0"
    ·exact ⟨old3 z (Nat.ne_of_lt (up zlt)) _ hz'', NZ.2⟩
    k_extra "j0"
    ·exact ⟨kr TI (Nat.ne_of_lt (up TID)) (Nat.ne_of_lt d.t3) (Nat.ne_of_lt d.a3) (Nat.ne_of_gt d.t1) (Nat.ne_of_gt d.a2) _ (N₁ _ (.tail _ (.tail _ (.head _)))), NTI.2⟩
    k_extra "j0"
    ·exact ⟨old3 i1 (Nat.ne_of_lt (up i1D)) _ (ex i1 (Nat.ne_of_lt d.t6) _ hoi), Ni1.2⟩
    ·have b := bel (ltn q hq)
     have e := N₁ q (.tail _ (.tail _ (.tail _ (.tail _ (.tail _ hq)))))
     exact ⟨kr q.1 b.1 b.2.1 b.2.2.1 b.2.2.2.1 b.2.2.2.2 _ e, (N q (.tail _ (.tail _ (.tail _ (.tail _ (.tail _ hq)))))).2⟩
   refine wpAny_mono (K C D oC _ h₃ oi _ hoC (by simp [hxx]) (by simp) F₃ N₃ ⟨hoc, hod⟩ zlt DC) (fun y s₄ h₄ => ?_) fun _ _ e => e
   obtain ⟨h₄, tk₄, o₄, rfl, F₄, N₄, ho₄, K₄⟩ := h₄
   revert F₄ N₄ ho₄ K₄
   revert y h₄ tk₄ o₄
   refine no_implicit_lambda% (clZ cZ.O.N.H.V ?_)
   refine gZ4 ?_
   intro zc4 y h₄ tk₄ o₄
   clear_value y h₄ tk₄ o₄
   intros F₄ N₄ ho₄ K₄
   refine append_at (N₄ _ (.tail _ (.head _))).1 fun h₅ hs₅ hD₅ => ?_
   refine ⟨0, Nat.lt_succ_self 0, .inr ⟨rfl, h₅, tk₄, o₄, oC, _, y, rfl, F₄.change hs₅ (Nat.ne_of_gt Llt) (fresh₀ D (Nat.le_refl _)), hoC, fun q hq => ?_, ho₄, K₄⟩⟩
   have upp : ∀ b : Nat, b ≠ D → ∀ o, h₄.get? b = some o → h₅.get? b = some o := fun b n o e => hs₅.extBut b o n e
   k_extra "j0"
   ·exact ⟨upp C (Nat.ne_of_gt DC) _ (N₄ _ (.head _)).1, nC⟩
   k_extra "j0"
   ·exact ⟨hD₅, Nat.ne_of_gt Llt, fresh₀ D (Nat.le_refl _)⟩
   have e := N₄ q (.tail _ (.tail _ hq))
   refine ⟨upp q.1 ?_ _ e.1, e.2⟩
   k_extra "j0"
   ·exact Nat.ne_of_lt zlt
   k_extra "j0"
   ·exact Nat.ne_of_lt TID
   k_extra "j0"
   ·exact Nat.ne_of_lt i1D
   ·exact Nat.ne_of_lt (Nat.lt_trans (ltn q hq) i1D)
  ·have NZ' := N' _ (.tail _ (.tail _ (.head _)))
   have NI' := N' _ (.tail _ (.tail _ (.tail _ (.tail _ (.head _)))))
   refine zip_last (b := false) (c := true) (l2 := l2) (i2 := i2) (TO := TO) (xs := [vx]) hh d NZ'.1 (N' _ (.tail _ (.tail _ (.tail _ (.head _))))).1 (k1 := 1) ⟨o, NI'.1, ho'.1, ho'.2⟩ (F'.tup t1) rfl fun h' keep => ?_
   have kp : ∀ b : Nat, b ≠ z → b ≠ i1 → ∀ o, h.get? b = some o → h'.get? b = some o := fun b n1 n2 o e => keep b o n1 n2 e
   refine ⟨m₂, nC.ns (kp C aC.1 aC.2.2.1 _ (N' _ (.head _)).1), fun h₇ hs₇ => K' h₇ _ ?_ fun q hq => ?_⟩
   ·have F'' : Fr g L h' m := ⟨F'.ns.at' fun o e => kp L (fun q => NZ'.2.1 q.symm) (fun q => NI'.2.1 q.symm) o e, fun c o e => kp c (fun q => by rw [q, NZ'.2.2] at e; cases e) (fun q => by rw [q, NI'.2.2] at e; cases e) o (F'.keep _ _ e), F'.above⟩
    exact F''.change hs₇ (Nat.ne_of_gt (up Llt)) (fresh₀ C (Nat.le_of_lt DC))
   ·rcases List.mem_cons.mp hq with rfl | hq
    ·have e := N' _ (.tail _ (.head _))
     exact ⟨hs₇.extBut D _ (Nat.ne_of_lt DC) (kp D aD.1 aD.2.2.1 _ e.1), e.2⟩
    ·have e := N' q (.tail _ (.tail _ (.tail _ (.tail _ (.tail _ hq)))))
     have b := bel (ltn q hq)
     exact ⟨hs₇.extBut q.1 _ b.1 (kp q.1 b.2.1 b.2.2.2.1 _ e.1), e.2⟩
 exact codeAny_compStart_list (loop _ rfl) (wpAny_pyIter_zip (N₁ _ (.head _)) (loop _ rfl)))) ?y := by k_extra "cv"
 k_extra "zz"
end
theorem funFrames_kp {h h' B : Heap} : ∀ {l : List Env}, h.FunFrames B l → (∀ b ∈ l.filterMap (·.frame), ∀ o, h.get? b = some o → (∀ vs, o.data ≠ .fields vs) → ∃ o', h'.get? b = some o' ∧ ∀ vs, o'.data ≠ .fields vs) → h'.FunFrames B l
 | [], _, _ => trivial
 | env :: rest, ⟨hk, ⟨L, o, hf, hn, ho, hd⟩, hr⟩, k => by
  have hL : L ∈ (env :: rest).filterMap (·.frame) := by rw [List.filterMap_cons, hf]; exact .head _
  obtain ⟨o', ho', hd'⟩ := k L hL o ho hd
  refine ⟨hk, ⟨L, o', hf, hn, ho', hd'⟩, funFrames_kp hr fun b hb => k b ?_⟩
  rw [List.filterMap_cons, hf]; exact .tail _ hb
inductive FliesAny (base G : Heap) (l : List Env) (e C : Addr) (h : Heap) : Prop
 | mk : ∀ B a0 fl, (base.StaysIn B) → ((∀ b o, G.get? b = some o → b ∉ l.filterMap (·.frame) → B.get? b = some o)) → (B.StaysIn h) → (B.get? e = none) → (h.FunFrames B l) → (h.TracedAtW B e (.ref C) a0 fl) → FliesAny base G l e C h
section
variable {M : Model} {A : Around} {E : Value → Shared → Prop} {s : Shared} {base B g g₂ G : Heap} {outer : List Env} {env : Env} {L e C : Addr} {m : Str → Option Value}
theorem leave_anyW {cls a0 fl : Value} {Q : Unit → Shared → Prop} (hfr : A.frames = some (env :: outer)) (hf : env.frame = some L) (f1 : B.StaysIn s.heap) (f2 : B.get? e = none) (f3 : s.heap.FunFrames B (env :: outer)) (f4 : s.heap.TracedAtW B e cls a0 fl)
  (hQ : ∀ h', Heap.FlyingW B outer e cls a0 h' → s.heap.UpToSlots h' → Q () { s with heap := h' }) : wpAny M A (leaving env (.ref e)) Q E s := by
 refine @disc _ ?y ?e
 case e =>
 haveI h : @Eq (PLift _) (PLift.up (by
 obtain ⟨oe, vs, T, oT, ts, he, ⟨hcls, h0⟩, hd, h1, hnT, hTe, hT, hdT, h3⟩ := id f4
 revert hfr hf f1 f2 f3 f4 hQ he hcls h0 hd h1 hnT hTe hT hdT h3
 revert M A E s B outer env L e cls a0 fl Q oe vs T oT ts
 refine no_implicit_lambda% (clZ cZ.y.O.N.y.O.U.V.V.V.N.N.e.z.H.s.Q.A.D ?_)
 refine fZ8 ?_
 intro zc0_0 M A E s B outer env L
 clear_value M A E s B outer env L
 refine fZ8 ?_
 intro zc0_1 e cls a0 fl Q oe vs T
 clear_value e cls a0 fl Q oe vs T
 refine gZ2 ?_
 intro zc0 oT ts
 clear_value oT ts
 intros hfr hf f1 f2 f3 f4 hQ he hcls h0 hd h1 hnT hTe hT hdT h3
 by_cases hfl : (fl == rawInt L) = true
 ·obtain rfl : fl = rawInt L := eq_of_beq hfl
  unfold leaving
  refine wpAny_bind (wpAny_noteFrame_againW hf f4 ?_)
  refine wpAny_landsW ⟨f1, f2, f3, f4⟩ fun h' x sm => ?_
  revert x sm
  revert h'
  refine no_implicit_lambda% (clZ cZ.H ?_)
  refine gZ1 ?_
  intro zc1 h'
  clear_value h'
  intros x sm
  obtain ⟨k1, k2, ⟨_, _, k3⟩, k4⟩ := x
  exact hQ h' ⟨k1, k2, k3, k4⟩ sm
 ·subst hcls
  unfold leaving noteFrame
  simp only [hf]
  refine wpAny_bind (wpAny_bind (wpAny_field he hd h1 ?_))
  rw [if_pos (show (Value.ref T != Value.none) = true from by simp)]
  refine wpAny_bind (wpAny_field hT hdT h3 ?_)
  rw [if_neg hfl]
  refine wpAny_bind (wpAny_setField hT hdT (Array.getElem?_eq_some_iff.mp h3).1 ?_)
  have other : ∀ b, b ≠ T → (s.heap.update T (Obj.mapFields (·.setIfInBounds 3 Value.none))).get? b = s.heap.get? b := fun b hb => Heap.get?_update_other _ _ (Ne.symm hb)
  have noRec : ∀ b o, s.heap.get? b = some o → (∀ vs, o.data ≠ .fields vs) → b ≠ T := fun b o hb hnf q => by
   rw [q, hT] at hb; cases hb; exact hnf ts hdT
  refine wpAny_newEntryW hfr (f3.of_keeps fun b o hb hnf => ⟨o, (other b (noRec b o hb hnf)).trans hb, rfl⟩) hf ((other e (Ne.symm hTe)).trans he)
   (fun b o hbo => (other b fun q => by rw [q, hnT] at hbo; cases hbo).trans (f1 b o hbo)) f2 hd (Array.getElem?_eq_some_iff.mp h1).1 h0 fun h' x => ?_
  obtain ⟨k1, ⟨_, _, k2⟩, k3, k4⟩ := x
  exact hQ h' ⟨k1, f2, k2, k3⟩ fun b o hb hnf => k4 b o ((other b (noRec b o hb hnf)).trans hb) hnf)) ?y := by k_extra "cv"
 k_extra "zz"
theorem fly_any {Q : Unit → Shared → Prop} (K : Below A base outer g) (F : Fr g L g₂ m) (hf : env.frame = some L) (R : FliesAny base g₂ (env :: outer) e C s.heap) (hsm : g₂.UpToSlots s.heap)
  (hQ : ∀ h', Flies base g outer e C h' → g.UpToSlots h' → Q () { s with heap := h' }) : wpAny M (A.deeper env) (leaving env (.ref e)) Q E s := by
 obtain ⟨B, a0, fl, hB, hBG, f1, f2, f3, f4⟩ := R
 refine leave_anyW (Around.frames_deeper K.stack) hf f1 f2 f3 f4 fun h' x1 x2 => hQ h' ⟨B, a0, hB, fun b o q nm => hBG b o (F.keep b o q) fun hm => ?_, (fun q hq => nomatch hq), x1⟩ ((Heap.UpToSlots.of_keeps F.keep).trans (hsm.trans x2))
 rcases frame_mem hf hm with z | z
 ·rw [z, kts_self F] at q; cases q
 ·exact nm z
end
section
variable {prog : Program} {w : World} {A : Around} {E : Value → Shared → Prop} {s' : Shared} {base G : Heap} {outer : List Env} {env : Env} {L e : Addr} {C Cl : Addr} {mC : Str → Option Value}
theorem compErr_fly {scope : Scope} {cl : List (Str × Addr)} (hfr : A.frames = some (env :: outer)) (hf : env.frame = some L) (R : Flies base G (env :: outer) e Cl s'.heap) (hsm : G.UpToSlots s'.heap) (hC : G.Ns C mC)
  (hCb : base.get? C = none) (hCo : ∀ b ∈ (env :: outer).filterMap (·.frame), b ≠ C)
  (hE : ∀ h', FliesAny base (hideAll G [C]) (env :: outer) e Cl h' → (hideAll G [C]).UpToSlots h' → E (.ref e) { s' with heap := h' }) : CompErr prog w A (compEnvC scope cl C env) C E (.ref e) s' := by
 refine @disc _ ?y ?e
 case e =>
 haveI h : @Eq (PLift _) (PLift.up (by
 revert hfr hf R hsm hC hCb hCo hE
 revert prog w A E s' base G outer env L e C Cl mC scope cl
 refine no_implicit_lambda% (clZ cZ.a.c.M.N.N.N.N.e.z.H.H.s.Q.A.W.R ?_)
 refine fZ8 ?_
 intro zc0_0 prog w A E s' base G outer
 clear_value prog w A E s' base G outer
 refine gZ8 ?_
 intro zc0 env L e C Cl mC scope cl
 clear_value env L e C Cl mC scope cl
 intros hfr hf R hsm hC hCb hCo hE
 unfold CompErr notedBy
 rw [noteFrame_congr (env := compEnvC scope cl C env) (env' := env) rfl]
 obtain ⟨B, a0, hB, hBG, -, hfl⟩ := R
 refine wpAny_looks_onW hfr hf hfl fun h1 held sm1 => ?_
 revert hB hBG hfl held sm1
 revert B a0 h1
 refine no_implicit_lambda% (clZ cZ.H.V.H ?_)
 refine gZ3 ?_
 intro zc1 B a0 h1
 clear_value B a0 h1
 intros hB hBG hfl held sm1
 have nC := (hsm.trans sm1).ns hC
 refine ⟨mC, nC, fun h2 hs2 cenv hc => ?_⟩
 obtain ⟨f1, f2, f3, oe, vs, T, oT, ts, he, ⟨hcls, h0⟩, hd, h1', hnT, hTe, hT, hdT, h3⟩ := held
 obtain ⟨oC, es, ep, hoC, hdC, -⟩ := nC
 have neC : e ≠ C := fun q => by rw [q, hoC] at he; cases he; rw [hdC] at hd; cases hd
 have nTC : T ≠ C := fun q => by rw [q, hoC] at hT; cases hT; rw [hdC] at hdT; cases hdT
 have up : ∀ b o, b ≠ C → h1.get? b = some o → h2.get? b = some o := fun b o n q => hs2.extBut b o n q
 have he2 := up e _ neC he
 have hT2 := up T _ nTC hT
 unfold PySem.passOn
 refine wpAny_bind (wpAny_field he2 hd h1' ?_)
 rw [if_neg (show ¬ ((Value.ref T == Value.none) = true) from by simp)]
 refine wpAny_bind ?_
 unfold setFlight
 refine wpAny_bind (wpAny_field (s := { s' with heap := h2 }) he2 hd h1' ?_)
 rw [if_pos (show (Value.ref T != Value.none) = true from by simp)]
 have hsz3 : 3 < ts.size := (Array.getElem?_eq_some_iff.mp h3).1
 refine wpAny_setField hT2 hdT hsz3 (wpAny_throw (hE _ ?_ ?_))
 ·have other : ∀ b o, b ≠ T → h2.get? b = some o → (h2.update T (Obj.mapFields (·.setIfInBounds 3 (cenv.frame.elim Value.none fun f => rawInt f)))).get? b = some o := fun b o hb q => (Heap.get?_update_other _ _ (Ne.symm hb)).trans q
  refine ⟨hideAll B [C], a0, _, fun b o q => hideAll_get _ (hB b o q) fun hm => ?_, fun b o q nm => ?_, fun b o q => ?_, ?_, ?_, oe, vs, T, _, _, other e _ (Ne.symm hTe) he2, ⟨hcls, h0⟩, hd, h1', ?_, hTe, Heap.get?_update_self _ hT2 (Obj.isFreed_of_fields (Obj.data_mapFields hdT _)), Obj.data_mapFields hdT _, by simp [hsz3]; rfl⟩
  ·rw [List.mem_singleton.mp hm, hCb] at q; cases q
  ·have nb : b ∉ [C] := fun hm => by rw [hideAll_none _ hm] at q; cases q
   exact hideAll_get _ (hBG b o (of_hideAll _ q) nm) nb
  ·have nb : b ≠ C := fun z => by rw [z, hideAll_none _ (.head _)] at q; cases q
   have q' := of_hideAll _ q
   exact other b o (fun z => by rw [z, hnT] at q'; cases q') (up b o nb (f1 b o q'))
  ·cases q : (hideAll B [C]).get? e with
   | none => rfl
   | some o => rw [of_hideAll _ q] at f2; cases f2
  ·refine funFrames_base (B := B) (fun b o q => of_hideAll _ q) (funFrames_kp f3 fun b hb o q hn => ⟨o, other b o (fun z => ?_) (up b o (hCo b hb) q), hn⟩)
   rw [z, hT] at q; cases q; exact hn ts hdT
  ·cases q : (hideAll B [C]).get? T with
   | none => rfl
   | some o => rw [of_hideAll _ q] at hnT; cases hnT
 ·intro b o q hn
  have nb : b ≠ C := fun z => by rw [z, hideAll_none _ (.head _)] at q; cases q
  obtain ⟨sl, hs⟩ := (hsm.trans sm1) b o (of_hideAll _ q) hn
  refine ⟨sl, (Heap.get?_update_other _ _ fun z => ?_).trans (up b _ nb hs)⟩
  rw [z.symm] at hs
  first
  | (rw [hT] at hs; cases hs; exact hn ts hdT)
  | (have := hT.symm.trans hs; cases this; exact hn ts hdT))) ?y := by k_extra "cv"
 k_extra "zz"
end
noncomputable def fld2 (o : Obj) : Option Value := match o.data with | .fields vs => vs[2]? | _ => none
noncomputable def KD1 {α : Type} : Sem α → Prop
 | .pure _ => True
 | .raise _ => True
 | .unsupported _ => True
 | .finish _ => True
 | .rule _ k => KD1 (k ())
 | .at _ k => KD1 (k ())
 | .load _ _ k => ∀ o, KD1 (k o)
 | .update _ _ f k => (∀ o, (f o).dict = o.dict ∧ (f o).isFreed = o.isFreed ∧ fld2 (f o) = fld2 o) ∧ KD1 (k ())
 | .alloc _ k => ∀ a, KD1 (k a)
 | .loadIfAlive _ k => ∀ o, KD1 (k o)
 | .point _ k => KD1 (k ())
 | .fresh k => ∀ t, KD1 (k t)
 | .ask k => ∀ t, KD1 (k t)
 | .handled _ k => ∀ t, KD1 (k t)
 | .stack k => ∀ t, KD1 (k t)
 | .thread k => ∀ t, KD1 (k t)
 | .register _ _ => True
 | .yield .. => True
 | .fork .. => True
 | .await .. => True
 | _ => False
def DK (h h' : Heap) : Prop := ∀ b o d, h.get? b = some o → o.dict = some d → ∃ o', h'.get? b = some o' ∧ o'.dict = some d ∧ fld2 o' = fld2 o
theorem DK.refl (h : Heap) : DK h h := fun _ o _ e q => ⟨o, e, q, rfl⟩
theorem DK.trans {h₁ h₂ h₃ : Heap} (x : DK h₁ h₂) (y : DK h₂ h₃) : DK h₁ h₃ := fun b o d e q => let ⟨o', e', q', z⟩ := x b o d e q; let ⟨o₂, e₂, q₂, z₂⟩ := y b o' d e' q'; ⟨o₂, e₂, q₂, z₂.trans z⟩
theorem DK.keeps {h h' : Heap} (k : ∀ b o, h.get? b = some o → h'.get? b = some o) : DK h h' := fun b o _ e q => ⟨o, k b o e, q, rfl⟩
theorem get_notFreed {h : Heap} {b : Addr} {o : Obj} (e : h.get? b = some o) : o.isFreed = false := by
 unfold Heap.get? at e
 split at e
 ·cases e
 ·rename_i hn
  cases q : o.isFreed with
  | false => rfl
  | true =>
   obtain ⟨a, b, c, d⟩ := o
   cases c <;> first | (exact absurd e (hn _ _ _)) | cases q
theorem dk_update {h : Heap} {a : Addr} {f : Obj → Obj} (hf : ∀ o, (f o).dict = o.dict ∧ (f o).isFreed = o.isFreed ∧ fld2 (f o) = fld2 o) : DK h (h.update a f) := fun b o d e q => by
 by_cases hb : b = a
 ·subst hb
  have nf : (f o).isFreed = false := by rw [(hf o).2.1]; exact get_notFreed e
  exact ⟨f o, Heap.get?_update_self f e nf, by rw [(hf o).1]; exact q, (hf o).2.2⟩
 ·exact ⟨o, (Heap.get?_update_other _ _ (Ne.symm hb)).trans e, q, rfl⟩
theorem kd_wp {α : Type} {M : Model} {Γ : PySem.Ctx} : ∀ (t : Sem α) {Q : α → Pos → Shared → Prop} {E : Value → Pos → Shared → Prop} {p : Pos} {s : Shared}, KD1 t → Sem.wp M Γ t Q E p s →
  Sem.wp M Γ t (fun a p' s' => Q a p' s' ∧ DK s.heap s'.heap) (fun e p' s' => E e p' s' ∧ DK s.heap s'.heap) p s := by
 intro t
 induction t with
 | pure a => intro Q E p s _ h; exact ⟨h, DK.refl _⟩
 | raise e => intro Q E p s _ h; exact ⟨h, DK.refl _⟩
 | unsupported w => intro Q E p s _ h; exact h
 | finish w => intro Q E p s _ h; exact h
 | rule t k ih => intro Q E p s k1 h; exact ih () k1 h
 | «at» t k ih => intro Q E p s k1 h; exact ih () k1 h
 | load a b k ih => intro Q E p s k1 h; obtain ⟨o, e, h⟩ := h; exact ⟨o, e, ih o (k1 o) h⟩
 | update a b f k ih =>
  intro Q E p s k1 h
  obtain ⟨e, h⟩ := h
  have d := dk_update (h := s.heap) (a := a) k1.1
  exact ⟨e, Sem.wp_mono _ _ _ (fun _ _ _ x => ⟨x.1, d.trans x.2⟩) (fun _ _ _ x => ⟨x.1, d.trans x.2⟩) _ _ (ih () k1.2 h)⟩
 | alloc o k ih =>
  intro Q E p s k1 h
  have d : DK s.heap (s.heap.push o) := DK.keeps fun _ _ e => Heap.get?_push_of_some _ e
  exact Sem.wp_mono _ _ _ (fun _ _ _ x => ⟨x.1, d.trans x.2⟩) (fun _ _ _ x => ⟨x.1, d.trans x.2⟩) _ _ (ih _ (k1 _) h)
 | loadIfAlive a k ih => intro Q E p s k1 h; exact ih _ (k1 _) h
 | point l k ih => intro Q E p s k1 h; exact ih () k1 h
 | register a k ih => intro Q E p s k1 h; exact h
 | fresh k ih => intro Q E p s k1 h; exact ih _ (k1 _) h
 | ask k ih => intro Q E p s k1 h; exact ih _ (k1 _) h
 | handled o k ih => intro Q E p s k1 h; exact ih _ (k1 _) h
 | stack k ih => intro Q E p s k1 h; exact ih _ (k1 _) h
 | thread k ih => intro Q E p s k1 h; exact ih _ (k1 _) h
 | yield => intro Q E p s k1 h; exact h
 | fork => intro Q E p s k1 h; exact h
 | await => intro Q E p s k1 h; exact h
 | choose => intro Q E p s k1 h; exact k1.elim
 | os => intro Q E p s k1 h; exact k1.elim
 | call => intro Q E p s k1 h; exact k1.elim
 | newGen => intro Q E p s k1 h; exact k1.elim
 | genState => intro Q E p s k1 h; exact k1.elim
 | resume => intro Q E p s k1 h; exact k1.elim
theorem kd_any {α : Type} {M : Model} {A : Around} {t : Sem α} {Q : α → Shared → Prop} {E : Value → Shared → Prop} {s : Shared} (k : KD1 t) (h : wpAny M A t Q E s) : wpAny M A t (fun a s' => Q a s' ∧ DK s.heap s'.heap) (fun e s' => E e s' ∧ DK s.heap s'.heap) s :=
 fun Γ p hΓ => kd_wp t k (h Γ p hΓ)
theorem kd_bind {α β : Type} (m : Sem α) {f : α → Sem β} (h : KD1 m) (hf : ∀ a, KD1 (f a)) : KD1 (m >>= f) := by
 show KD1 (Sem.bind m f)
 induction m with
 | pure a => exact hf a
 | raise e => trivial
 | unsupported w => trivial
 | finish w => trivial
 | rule t k ih => exact ih () h
 | «at» t k ih => exact ih () h
 | load a b k ih => exact fun o => ih o (h o)
 | update a b g k ih => exact ⟨h.1, ih () h.2⟩
 | alloc o k ih => exact fun a => ih a (h a)
 | loadIfAlive a k ih => exact fun o => ih o (h o)
 | point l k ih => exact ih () h
 | register a k ih => trivial
 | fresh k ih => exact fun a => ih a (h a)
 | ask k ih => exact fun a => ih a (h a)
 | handled o k ih => exact fun a => ih a (h a)
 | stack k ih => exact fun a => ih a (h a)
 | thread k ih => exact fun a => ih a (h a)
 | yield => trivial
 | fork => trivial
 | await => trivial
 | choose => exact h.elim
 | os => exact h.elim
 | call => exact h.elim
 | newGen => exact h.elim
 | genState => exact h.elim
 | resume => exact h.elim
theorem mapFields_dict (o : Obj) (i : Nat) (x : Value) (hi : i ≠ 2) : (Obj.mapFields (·.setIfInBounds i x) o).dict = o.dict ∧ (Obj.mapFields (·.setIfInBounds i x) o).isFreed = o.isFreed ∧ fld2 (Obj.mapFields (·.setIfInBounds i x) o) = fld2 o := by
 obtain ⟨a, b, c, d⟩ := o
 cases c <;> first | exact ⟨rfl, rfl, rfl⟩ | exact ⟨rfl, rfl, Array.getElem?_setIfInBounds_ne hi⟩
theorem kd_load {a : Addr} : KD1 (load a) := fun _ => trivial
theorem kd_fieldsOf (v : Value) : KD1 (fieldsOf v) := by
 unfold fieldsOf
 split
 ·exact kd_bind _ kd_load fun o => by split <;> trivial
 ·trivial
theorem kd_field (v : Value) (i : Nat) : KD1 (field v i) := by
 unfold field
 exact kd_bind _ (kd_fieldsOf v) fun vs => by split <;> trivial
theorem kd_setField (v : Value) (i : Nat) (x : Value) (hi : i ≠ 2 := by decide) : KD1 (setField v i x) := by
 unfold setField
 split
 ·unfold updateField
  refine kd_bind _ kd_load fun o => ?_
  split
  ·split
   ·exact ⟨fun o => mapFields_dict o _ _ hi, trivial⟩
   ·trivial
  ·trivial
 ·trivial
theorem kd_setFlight (e : Value) (f : Option Addr) : KD1 (setFlight e f) := by
 unfold setFlight
 refine kd_bind _ (kd_field _ _) fun tb => ?_
 split
 ·exact kd_setField _ _ _
 ·trivial
theorem kd_ready : ∀ l : List Env, KD1 (readyFrames l)
 | [] => trivial
 | env :: outer => by
  unfold readyFrames
  split
  ·refine kd_bind _ kd_load fun o => ?_
   split
   ·trivial
   ·refine kd_bind _ ?_ fun i => kd_bind _ ?_ fun b => kd_bind _ ⟨fun o => ⟨rfl, by obtain ⟨a, b, c, d⟩ := o; cases c <;> rfl, by obtain ⟨a, b, c, d⟩ := o; cases c <;> rfl⟩, trivial⟩ fun _ => kd_ready outer
    ·unfold behindIsImport
     split
     ·trivial
     ·split
      ·trivial
      ·exact kd_bind _ (kd_field _ _) fun _ => trivial
    ·unfold keptBack
     split
     ·split
      ·trivial
      ·unfold underTheClaimsCaller
       exact kd_bind _ (fun _ => trivial) fun _ => trivial
     ·trivial
  ·trivial
theorem kd_frameOf (env : Env) : KD1 (PySem.frameOf env) := by
 unfold PySem.frameOf frameEnvs
 refine kd_bind _ (fun _ => trivial) fun l => kd_bind _ ?_ fun o => by split <;> trivial
 unfold frameObject
 split
 ·trivial
 ·exact kd_bind _ (kd_ready _) fun _ => trivial
theorem kd_noteFrame (e : Value) (env : Env) : KD1 (noteFrame e env) := by
 unfold noteFrame
 split
 ·refine kd_bind _ (kd_field _ _) fun hd => ?_
  have rest : ∀ fr, KD1 (do setField e 1 (← EntryCells.newEntry hd (← PySem.frameOf env) .none (rawInt fr) .none (← entryPlaceOf fr (hd != .none)))) := fun fr => by
   refine kd_bind _ (kd_frameOf env) fun x => kd_bind _ ?_ fun pl => kd_bind _ ?_ fun y => kd_setField _ _ _
   ·unfold entryPlaceOf
    exact kd_bind _ (fun _ => trivial) fun st => by split <;> trivial
   ·unfold EntryCells.newEntry newFields newObj newObjAsIs
    dsimp only
    split <;> split
    ·trivial
    ·exact fun _ => trivial
    ·trivial
    ·exact fun _ => trivial
  split
  ·refine kd_bind _ (kd_field _ _) fun x => ?_
   split
   ·trivial
   ·exact kd_bind _ (kd_setField _ _ _) fun _ => rest _
  ·exact rest _
 ·trivial
theorem kd_leaving (env : Env) (e : Value) : KD1 (leaving env e) := by
 unfold leaving
 exact kd_bind _ (kd_noteFrame _ _) fun _ => kd_setFlight _ _
inductive DLink (h : Heap) (e d : Addr) : Prop
 | mk : ∀ oe, (h.get? e = some oe) → (oe.dict = some d) → (fld2 oe = some .none) → DLink h e d
theorem DLink.go {h h' : Heap} {e d : Addr} (x : DLink h e d) (k : DK h h') : DLink h' e d := let ⟨oe, a, b, c⟩ := x; let ⟨o', a', b', c'⟩ := k e oe d a b; ⟨o', a', b', c'.trans c⟩
theorem funFrames_rebase {h base B : Heap} : ∀ {l : List Env}, h.FunFrames base l → (∀ b ∈ l.filterMap (·.frame), B.get? b = none) → h.FunFrames B l
 | [], _, _ => trivial
 | env :: rest, ⟨hk, ⟨L, o, hf, _, ho, hd⟩, hr⟩, k => by
  refine ⟨hk, ⟨L, o, hf, k L ?_, ho, hd⟩, funFrames_rebase hr fun b hb => k b ?_⟩
  ·rw [List.filterMap_cons, hf]; exact .head _
  ·rw [List.filterMap_cons, hf]; exact .tail _ hb
inductive MsgOb (od : Obj) (msg : PySem.Str) : Prop
 | mk : ∀ mA t, ((∀ (h : Heap) (d : Addr), h.get? d = some od → h.Ns1 d mA)) → (mA "message" = some (.str msg t)) → MsgOb od msg
theorem msgOb_of {h : Heap} {d : Addr} {mA : Str → Option Value} {msg : PySem.Str} {t : Tok} (n : h.Ns1 d mA) (hm : mA "message" = some (.str msg t)) : ∃ od, h.get? d = some od ∧ (∃ es n, od.data = .dict es n) ∧ MsgOb od msg := by
 obtain ⟨o, es, ep, ho, hd, r⟩ := n
 exact ⟨o, ho, ⟨es, ep, hd⟩, mA, t, fun h' d' e => ⟨o, es, ep, e, hd, r⟩, hm⟩
section
variable {M : Model} {A : Around} {E : Value → Shared → Prop} {s' : Shared} {base g h : Heap} {outer : List Env} {env : Env} {L e C : Addr} {m : Str → Option Value} {Q : Unit → Shared → Prop} {msg : PySem.Str}
theorem fly_newM (K : Below A base outer g) (F : Fr g L h m) (hf : env.frame = some L) (hk : env.scope.kind = .function) (hst : h.StaysIn s'.heap) (hx : MadeF h s'.heap e C msg)
  (hQ : ∀ h' d od, RaisedSN base g outer e (.ref C) [(d, od)] h' → DLink h' e d → MsgOb od msg → g.UpToSlots h' → Q () { s' with heap := h' }) : wpAny M (A.deeper env) (leaving env (.ref e)) Q E s' := by
 refine @disc _ ?y ?e
 case e =>
 haveI h : @Eq (PLift _) (PLift.up (by
 revert K F hf hk hst hx hQ
 revert M A E s' base g h outer env L e C m Q msg
 refine no_implicit_lambda% (clZ cZ.S.U.M.N.N.N.e.z.H.H.H.s.Q.A.D ?_)
 refine fZ8 ?_
 intro zc0_0 M A E s' base g h outer
 clear_value M A E s' base g h outer
 refine gZ7 ?_
 intro zc0 env L e C m Q msg
 clear_value env L e C m Q msg
 intros K F hf hk hst hx hQ
 have K' := pushX K F hf hk
 obtain ⟨hen, T, d, mA, t, he, hde, hdn, hns, hms⟩ := hx
 obtain ⟨od, hod, ⟨es0, n0, hodd⟩, hmo⟩ := msgOb_of hns hms
 generalize hl : (env :: outer).filterMap (·.frame) = fs at *
 have hid : ∀ b o, h.get? b = some o → b ∉ fs → (hideAll s'.heap (e :: fs)).get? b = some o := fun b o q n => hideAll_get _ (hst b o q) fun hm => by
  k_extra "t1"
  ·rw [hen] at q; cases q
  ·exact n hm
 have inB : ∀ b ∈ fs, base.get? b = none ∧ ∃ o, h.get? b = some o ∧ ∀ vs, o.data ≠ .fields vs := fun b hb => K'.frames.mem (hl ▸ hb)
 have stB : base.StaysIn (hideAll s'.heap (e :: fs)) := fun b o q => hid b o (K'.stays b o q) fun hm => by
  rw [(inB b hm).1] at q; cases q
 have stG : ∀ b o, g.get? b = some o → b ∉ outer.filterMap (·.frame) → (hideAll s'.heap (e :: fs)).get? b = some o := fun b o q nm => hid b o (F.keep b o q) fun hm => by
  rcases frame_mem hf (hl ▸ hm) with z | z
  ·rw [z, kts_self F] at q; cases q
  ·exact nm z
 have dfs : d ∉ e :: fs := fun hm => by
  k_extra "t1"
  ·exact hde rfl
  ·obtain ⟨_, o, ho, _⟩ := inB d hm
   rw [hdn] at ho; cases ho
 have ff : s'.heap.FunFrames (hideAll s'.heap (e :: fs)) (env :: outer) := (funFrames_rebase K'.frames fun b hb => hideAll_none _ (.tail _ (hl ▸ hb))).of_keeps fun b o hb _ => ⟨o, hst b o hb, rfl⟩
 have step : wpAny M (A.deeper env) (leaving env (.ref e)) (fun _ s2 => ∃ h', s2 = { s' with heap := h' } ∧ Heap.LeftW (hideAll s'.heap (e :: fs)) (env :: outer) e (.ref C) (.ref T) s'.heap h') E s' :=
  wpAny_leaving_firstW (a0 := .ref T) K'.stack ff hf he (fun b o hb => of_hideAll _ hb) (hideAll_none _ (.head _)) rfl rfl rfl fun h' hL => ⟨h', rfl, hL⟩
 refine wpAny_mono (kd_any (kd_leaving _ _) step) (fun _ s2 x => ?_) fun _ _ x => x.1
 obtain ⟨⟨h', rfl, hL⟩, dk⟩ := x
 obtain ⟨k1, ⟨_, _, k2⟩, k3, k4⟩ := hL
 have gd : g.get? d = none := by
  cases q : g.get? d with
  | none => rfl
  | some o => rw [F.keep d o q] at hdn; cases hdn
 exact hQ h' d od ⟨_, .ref T, stB, stG, fun q hq => by rw [List.mem_singleton.mp hq]; exact ⟨hideAll_get _ hod dfs, gd, kts_none K.stays gd⟩, k1, hideAll_none _ (.head _), k2, k3⟩ (DLink.go ⟨_, he, rfl, rfl⟩ dk) hmo (((Heap.UpToSlots.of_keeps F.keep).trans (Heap.UpToSlots.of_keeps hst)).trans k4))) ?y := by k_extra "cv"
 k_extra "zz"
end
theorem entry_unchain : entryFor table "proto.unchain" = some Builtin.«proto.unchain» := entryFor_of_tree (by kernel_rfl)
section
variable {M : Model} {prog : Program} {w : World} {A : Around} {E : Value → Shared → Prop} {env : Env} {s : Shared}
variable {nm q : Str} {C N : Addr} {bs bm : List Value} {hdct : Bool} {sn : List Str} {sub : List Value} {ab : Bool} {col : Option Bool} {dd : Option Addr} {k0 k1 k2 k3 k5 : Option Value} {newId : String}
theorem unchain_none {v : Value} {e1 : Addr} {o1 : Obj} {b : Bool} {Q : Value → Shared → Prop} (ho : s.heap.get? e1 = some o1) (hf : fld2 o1 = some .none) (h : Q .none s) :
  wpAny (model prog w) A (runValue (.builtin "proto.unchain" ⟨[v, .ref e1, .ref e1, .bool b], []⟩)) Q E s := by
 refine runValue_entry entry_unchain ?_
 unfold Builtin.«proto.unchain»
 obtain ⟨vs, hd, h2⟩ : ∃ vs, o1.data = .fields vs ∧ vs[2]? = some .none := by
  unfold fld2 at hf
  split at hf
  ·exact ⟨_, by assumption, hf⟩
  ·cases hf
 refine wpAny_bind (wpAny_field ho hd h2 ?_)
 rw [if_pos (by rfl)]
 exact wpAny_bind (wpAny_pure (wpAny_pure ⟨_, rfl, h⟩))
theorem raiseNew_in {α : Type} {e e1 : Addr} {o o1 : Obj} {vs : Array Value} {Q : α → Shared → Prop} (hh : A.handled = some (.ref e1)) (hne : e ≠ e1) (ho : s.heap.get? e1 = some o1) (hf : fld2 o1 = some .none)
  (he : s.heap.get? e = some o) (hd : o.data = .fields vs) (hi : 2 < vs.size) (h : E (.ref e) { s with heap := s.heap.update e (Obj.mapFields (·.setIfInBounds 2 (.ref e1))) }) :
  wpAny (model prog w) A (raiseNew (.ref e) : Sem α) Q E s := by
 unfold raiseNew
 refine wpAny_bind (wpAny_handled ?_)
 rw [hh]
 dsimp only
 rw [if_pos (by simpa using fun q => hne q.symm)]
 refine wpAny_bind (wpAny_holding (unchain_none ho hf ?_))
 exact wpAny_bind (m := setField (.ref e) 2 (.ref e1)) (wpAny_setField he hd hi (wpAny_throw h))
theorem raise_from_none {x c : Sem Value} {e1 : Addr} {Q : Flow → Shared → Prop} (hbase : bm.contains (.type "BaseException") = true) (hh : A.handled = some (.ref e1))
  (hc : ∀ s Q', Q' Value.none s → wpAny (model prog w) A c Q' E s)
  (h : wpAny (model prog w) A x (fun v s₁ => ∃ e T d o1, v = .ref e ∧ e ≠ e1 ∧ s₁.heap.get? e1 = some o1 ∧ fld2 o1 = some .none ∧ s₁.heap.get? C = some (excClassObj nm q C N bs bm hdct sn sub ab col dd k0 k1 k2 k3 k5 newId) ∧
   s₁.heap.get? e = some { cls := .ref C, dict := some d, data := .fields #[.ref T, .none, .none, .none, .bool false, .none] } ∧
   ∀ h', h'.get? e = some { cls := .ref C, dict := some d, data := .fields #[.ref T, .none, .ref e1, .none, .bool true, .none] } → (∀ b, b ≠ e → h'.get? b = s₁.heap.get? b) → E (.ref e) { s₁ with heap := h' }) E s) :
  wpAny (model prog w) A (raiseStmt env (some x) (some c)) Q E s := by
 have hcB : (Value.ref C :: bm).contains (.type "BaseException") = true := by rw [List.contains_cons, hbase, Bool.or_true]
 unfold raiseStmt
 refine wpAny_bind (wpAny_mono h (fun v s₁ h₁ => ?_) fun _ _ x => x)
 obtain ⟨e, T, d, o1, rfl, hne, ho1, hf1, hC, he, hE⟩ := h₁
 refine wpAny_bind (wpAny_holding (hc _ _ ?_))
 refine wpAny_bind (wpAny_pure ?_)
 obtain ⟨hp, g, dr, tk, os⟩ := s₁
 dsimp only at ho1 hC he hE
 have hCe : C ≠ e := fun q => by rw [q, he] at hC; cases hC
 have he2 := Heap.get?_update_self (Obj.mapFields (·.setIfInBounds 3 Value.none)) he rfl
 have he3 := Heap.get?_update_self (Obj.mapFields (·.setIfInBounds 4 (Value.bool true))) he2 rfl
 have he4 := Heap.get?_update_self (Obj.mapFields (·.setIfInBounds 2 (Value.ref e1))) he3 rfl
 have oth : ∀ b, b ≠ e → (((hp.update e (Obj.mapFields (·.setIfInBounds 3 Value.none))).update e (Obj.mapFields (·.setIfInBounds 4 (Value.bool true)))).get? b) = hp.get? b := fun b hb => by
  rw [Heap.get?_update_other _ _ (Ne.symm hb), Heap.get?_update_other _ _ (Ne.symm hb)]
 have hC' := (oth C hCe).trans hC
 have fin := hE _ he4 (fun b hb => by rw [Heap.get?_update_other _ _ (Ne.symm hb)]; exact oth b hb)
 refine wpAny_bind (m := holding _ _) ?_
 ·repeat (first | with_reducible refine wpAny_loadPart_at he ?_ | with_reducible refine wpAny_loadPart_at hC ?_ | (with_reducible refine wpAny_isSubtype_exc hC ?_; rw [hcB]) | k_extra "ws")
  refine raiseNew_in hh hne ?_ hf1 he3 rfl (Nat.le_of_ble_eq_true rfl) fin
  exact (oth e1 (Ne.symm hne)).trans ho1
end
section
variable {prog : Program} {w : World} {A₀ : Around} {E : Value → Shared → Prop} {s' : Shared} {base g g₀ G : Heap} {outer : List Env} {L a e d : Addr} {od : Obj} {m : Str → Option Value} {name : Str} {scope : Scope} {cd cls : Value}
 {n : Str} {b₀ : Stmt} {suite : List Stmt} {pos : Pos} {rest hs : List ExceptHandler} {Q : Flow → Shared → Prop} {news : List (Addr × Obj)} {KF : Frag} {tt : Expr} {p : Program} {loose : List Str} {mean : ExcName → Option Value} {mg mb : Str → Option Value}
theorem lookM (R : RaisedSN base G (envOf name scope L a cd :: outer) e cls news s'.heap) (D0 : DLink s'.heap e d) (K : Below A₀ base outer g) (hsm : G.UpToSlots s'.heap)
  (k : ∀ h', RaisedSN base G (envOf name scope L a cd :: outer) e cls news h' → DLink h' e d → G.UpToSlots h' → wpAny (model prog w) (A₀.deeper (envOf name scope L a cd)) (handleBy (.ref e) (envOf name scope L a cd) hs) Q E { s' with heap := h' }) :
  wpAny (model prog w) (A₀.deeper (envOf name scope L a cd)) (noteFrame (.ref e) (envOf name scope L a cd))
   (fun _ s₂ => wpAny (model prog w) (A₀.deeper (envOf name scope L a cd)) (setFlight (.ref e) none) (fun _ s₃ =>
    wpAny (model prog w) (A₀.deeper (envOf name scope L a cd)) (handleBy (.ref e) (envOf name scope L a cd) hs) Q E s₃) E s₂) E s' := by
 refine @disc _ ?y ?e
 case e =>
 haveI h : @Eq (PLift _) (PLift.up (by
 obtain ⟨B, a0, hB, hBG, hl, hfl⟩ := R
 revert D0 K hsm k hB hBG hl hfl
 revert prog w A₀ E s' base g G outer L a e d name scope cd cls hs Q news B a0
 refine no_implicit_lambda% (clZ cZ.V.H.l.F.q.V.V.c.S.N.N.N.N.z.H.H.H.s.Q.A.W.R ?_)
 refine fZ8 ?_
 intro zc0_0 prog w A₀ E s' base g G
 clear_value prog w A₀ E s' base g G
 refine fZ8 ?_
 intro zc0_1 outer L a e d name scope cd
 clear_value outer L a e d name scope cd
 refine gZ6 ?_
 intro zc0 cls hs Q news B a0
 clear_value cls hs Q news B a0
 intros D0 K hsm k hB hBG hl hfl
 have s1 : wpAny (model prog w) (A₀.deeper (envOf name scope L a cd)) (noteFrame (.ref e) (envOf name scope L a cd)) (fun _ s2 => ∃ h', s2 = { s' with heap := h' } ∧ Heap.HeldW B (envOf name scope L a cd :: outer) e cls a0 L h' ∧ s'.heap.UpToSlots h') E s' :=
  wpAny_looks_onW (Around.frames_deeper K.stack) rfl hfl fun h' x y => ⟨h', rfl, x, y⟩
 refine wpAny_mono (kd_any (kd_noteFrame _ _) s1) (fun _ s2 x => ?_) fun _ _ x => x.1
 obtain ⟨⟨h₄, rfl, hheld₄, hsm₄⟩, dk₄⟩ := x
 have s2 : wpAny (model prog w) (A₀.deeper (envOf name scope L a cd)) (setFlight (.ref e) none) (fun _ s3 => ∃ h', s3 = { s' with heap := h' } ∧ Heap.FlyingW B (envOf name scope L a cd :: outer) e cls a0 h' ∧ h₄.UpToSlots h') E { s' with heap := h₄ } :=
  wpAny_landsW hheld₄ fun h' x y => ⟨h', rfl, x, y⟩
 refine wpAny_mono (kd_any (kd_setFlight _ _) s2) (fun _ s3 x => ?_) fun _ _ x => x.1
 obtain ⟨⟨h₅, rfl, hheld, hsm₅'⟩, dk₅⟩ := x
 exact k h₅ ⟨B, a0, hB, hBG, hl, hheld⟩ (DLink.go (DLink.go D0 dk₄) dk₅) (hsm.trans (hsm₄.trans hsm₅')))) ?y := by k_extra "cv"
 k_extra "zz"
theorem hitM (R : RaisedSN base G (envOf name scope L a cd :: outer) e cls news s'.heap) (D0 : DLink s'.heap e d) (F : Fr g L G m) (K : Below A₀ base outer g) (hsm : G.UpToSlots s'.heap) (XB : KF.In base) (TB : Top p loose mean mg mb base)
  (T0 : KtsTurn (outer.filterMap (·.frame)) g₀ g) (T : KtsTest prog w KF p loose mg mb name scope L a cd cls tt true)
  (k : ∀ h' g' tk oe, KtsTurn (outer.filterMap (·.frame)) g₀ g' → Fr g' L h' (fun y => if y = n then some (.ref e) else m y) → News g' L h' ((e, oe) :: news) → oe.cls = cls → oe.dict = some d → fld2 oe = some .none → (∃ vs, oe.data = .fields vs) → Below A₀ base outer g' → KF.In g' → Top p loose mean mg mb g' →
   wpAny (model prog w) ((A₀.deeper (envOf name scope L a cd)).mark (some (.ref e))) (execs (b₀ :: suite) (envOf name scope L a cd))
    (fun f s₄ => wpAny (model prog w) (A₀.deeper (envOf name scope L a cd)) (do bindName (envOf name scope L a cd) n .none; unbindBehindTheSuite (envOf name scope L a cd) n pos) (fun _ s₅ => Q f s₅) E s₄)
    (AsSuiteRaised (model prog w) ((A₀.deeper (envOf name scope L a cd)).mark (some (.ref e))) (envOf name scope L a cd) n pos (notedBy (model prog w) ((A₀.deeper (envOf name scope L a cd)).mark (some (.ref e))) (envOf name scope L a cd) (cameBackBy (model prog w) (A₀.deeper (envOf name scope L a cd)) (envOf name scope L a cd) E)))
    { s' with heap := h', toks := tk })
  (hk : scope.kind = .function := by rfl) (hlo : (envOf name scope L a cd).kindOf n = some .local := by rfl) :
  wpAny (model prog w) (A₀.deeper (envOf name scope L a cd)) (handleBy (.ref e) (envOf name scope L a cd) (.ExceptHandler (some tt) (some n) (b₀ :: suite) pos :: rest)) Q E s' := by
 refine @disc _ ?y ?e
 case e =>
 haveI h : @Eq (PLift _) (PLift.up (by
 revert R D0 F K hsm XB TB T0 T k hk hlo
 revert prog w A₀ E s' base g g₀ G outer L a e d m name scope cd cls n b₀ suite pos rest Q news KF tt p loose mean mg mb
 refine no_implicit_lambda% (clZ cZ.M.M.X.t.R.E.l.l.F.q.p.x.m.S.V.V.c.S.M.N.N.N.N.z.H.H.H.H.s.Q.A.W.R ?_)
 refine fZ8 ?_
 intro zc0_0 prog w A₀ E s' base g g₀
 clear_value prog w A₀ E s' base g g₀
 refine fZ8 ?_
 intro zc0_1 G outer L a e d m name
 clear_value G outer L a e d m name
 refine fZ8 ?_
 intro zc0_2 scope cd cls n b₀ suite pos rest
 clear_value scope cd cls n b₀ suite pos rest
 refine fZ8 ?_
 intro zc0_3 Q news KF tt p loose mean mg
 clear_value Q news KF tt p loose mean mg
 refine gZ1 ?_
 intro zc0 mb
 clear_value mb
 intros R D0 F K hsm XB TB T0 T k hk hlo
 have R' := R
 obtain ⟨B₁, a1, _, hBG₁, _, hfl₁⟩ := R'
 obtain ⟨g₅, T₅, F₅, K₅⟩ := kts_ground K F hBG₁ hfl₁.1 hsm
 refine wpAny_handleBy_cons (codeAny_handlers_test (T _ _ _ _ g₅ e m F₅ (XB.keeps K₅.stays) (topRead_of (TB.keeps K₅.stays)) R.ty fun h₅ kp => ?_)) (by intro q; cases q)
 have hsm₅ : G.UpToSlots h₅ := hsm.trans (Heap.UpToSlots.of_keeps kp)
 obtain ⟨B, a0, hB, hBG, hl, hheld⟩ := R.keeps kp
 have hL : B.get? L = none := by
  obtain ⟨_, ⟨L', _, hf, hn', _⟩, _⟩ := hheld.2.2.1
  obtain rfl : L = L' := Option.some.inj hf
  exact hn'
 refine codeAny_handlers_suite_as ?_
 have s1 : wpAny (model prog w) ((A₀.deeper (envOf name scope L a cd)).mark (some (.ref e))) (setFlight (.ref e) none) (fun _ s3 => ∃ h', s3 = { s' with heap := h' } ∧ Heap.FlyingW B (envOf name scope L a cd :: outer) e cls a0 h' ∧ h₅.UpToSlots h') (fun _ _ => False) { s' with heap := h₅ } :=
  lands_againW hheld fun h' x y => ⟨h', rfl, x, y⟩
 refine wpAny_mono (kd_any (kd_setFlight _ _) s1) (fun _ s3 x => ?_) fun _ _ x => x.1.elim
 obtain ⟨⟨h₆, rfl, hfl₆, hsm₆⟩, dk₆⟩ := x
 obtain ⟨g₆, T₆, F₆, K₆⟩ := kts_ground K F hBG hfl₆.1 (hsm₅.trans hsm₆)
 obtain ⟨oe, hoe, hod, ho2⟩ := DLink.go (DLink.go D0 (DK.keeps kp)) dk₆
 obtain ⟨oe', ws, hoe', hoec, hoed, hoe0⟩ := hfl₆.first
 rw [hoe] at hoe'; cases hoe'
 have ne₆ : g₆.get? e = none := T₆.none_ _ (kts_fresh F hBG hfl₆.2.1 fun o ho m => by
  obtain ⟨_, o', ho', hd⟩ := K.frames.mem m
  rw [ho] at ho'
  cases ho'
  obtain ⟨sl, hs⟩ := (hsm₅.trans hsm₆) _ _ (F.keep _ _ ho) hd
  rw [hoe] at hs
  cases hs
  exact hd _ hoed)
 have Nl : News g₆ L h₆ news := fun q hq => ⟨hfl₆.1 _ _ (hl q hq).1, (fun z => by have := (hl q hq).1; rw [z, hL] at this; cases this), T₆.none_ _ (kts_none F.keep (hl q hq).2.1)⟩
 have N₆ := News.more F₆ Nl hoe (fun es n q => by rw [hoed] at q; cases q) ne₆
 have X₆ : Frag.In KF g₆ := XB.keeps K₆.stays
 have P₆ : Top p loose mean mg mb g₆ := TB.keeps K₆.stays
 refine stN F₆ N₆ (fun h₇ F₇ N₇ => ?_) hk hlo
 exact k h₇ g₆ _ oe (T0.trans T₆) F₇ N₇ hoec hod ho2 ⟨_, hoed⟩ K₆ X₆ P₆)) ?y := by k_extra "cv"
 k_extra "zz"
end
theorem Fr.hideL {g h : Heap} {L : Addr} {m : Str → Option Value} (F : Fr g L h m) (l : List Addr) (n : ∀ c ∈ l, g.get? c = none ∧ c ≠ L) : Fr g L (hideAll h l) m :=
 ⟨F.ns.at' fun o e => hideAll_get _ e fun hm => (n _ hm).2 rfl, fun b o e => hideAll_get _ (F.keep b o e) fun hm => by (rw [(n _ hm).1] at e; cases e), F.above⟩
section
variable {M : Model} {A A₀ : Around} {E : Value → Shared → Prop} {s : Shared} {base g g₀ : Heap} {outer : List Env} {L a e : Addr} {m : Str → Option Value} {name : Str} {scope : Scope} {cd cls a0 x : Value} {n : Str} {pos : Pos} {Q : Value → Unit → Shared → Prop} {E' : Value → Value → Shared → Prop}
theorem flightL {B : Heap} {l : List Env} {fl : Value} {Q : Unit → Shared → Prop}
  (hkb : B.StaysIn s.heap) (hl : s.heap.FunFrames B l) (ht : s.heap.TracedAtW B e cls a0 fl)
  (h : ∀ h', B.StaysIn h' → h'.FunFrames B l → h'.TracedAtW B e cls a0 (rawInt L) → (∀ b o, s.heap.get? b = some o → (∀ vs, o.data ≠ .fields vs) → h'.get? b = some o) → Q () { s with heap := h' }) :
  wpAny M A (setFlight (.ref e) (some L)) Q E s := by
 obtain ⟨oe, vs, T, oT, ts, he, hcls, hd, h1, hnT, hTe, hT, hdT, h3⟩ := ht
 have hsz3 : 3 < ts.size := (Array.getElem?_eq_some_iff.mp h3).1
 have other : ∀ b, b ≠ T → (s.heap.update T (Obj.mapFields (·.setIfInBounds 3 (rawInt L)))).get? b = s.heap.get? b := fun b hb => Heap.get?_update_other _ _ (Ne.symm hb)
 have noRecord : ∀ b o, s.heap.get? b = some o → (∀ vs, o.data ≠ .fields vs) → b ≠ T := fun b o hb hnf q => by
  rw [q, hT] at hb; injection hb with hb; subst hb; exact hnf ts hdT
 unfold setFlight
 refine wpAny_bind (wpAny_field he hd h1 ?_)
 rw [if_pos (show (Value.ref T != Value.none) = true from by simp)]
 refine wpAny_setField hT hdT hsz3 (h _ (fun b o hbo => (other b fun q => by rw [q, hnT] at hbo; cases hbo).trans (hkb b o hbo))
  (hl.of_keeps fun b o hb hnf => ⟨o, (other b (noRecord b o hb hnf)).trans hb, rfl⟩) ?_ fun b o hb hnf => (other b (noRecord b o hb hnf)).trans hb)
 exact ⟨oe, vs, T, _, _, (other e (Ne.symm hTe)).trans he, hcls, hd, h1, hnT, hTe, Heap.get?_update_self _ hT (Obj.isFreed_of_fields (Obj.data_mapFields hdT _)), Obj.data_mapFields hdT _, by simp [hsz3]⟩
theorem traced_tb {B h : Heap} {fl : Value} (ht : h.TracedAtW B e cls a0 fl) : ∃ oe vs T, h.get? e = some oe ∧ oe.data = .fields vs ∧ vs[1]? = some (.ref T) := by
 obtain ⟨oe, vs, T, _, _, he, _, hd, h1, _⟩ := ht
 exact ⟨oe, vs, T, he, hd, h1⟩
theorem asOut {oe : Obj} {vs : Array Value} (K : Below A₀ base outer g) (F : Fr g L s.heap m) (T0 : KtsTurn (outer.filterMap (·.frame)) g₀ g) (he : s.heap.get? e = some oe) (hd : oe.data = .fields vs) (h1 : vs[1]? = some .none) (h0 : vs[0]? = some a0) (hc : oe.cls = cls) (hn : g.get? e = none)
  (hk : scope.kind = .function) (hlo : (envOf name scope L a cd).kindOf n = some .local)
  (hQ : ∀ h', RaisedSN base g₀ outer e cls [] h' → g₀.UpToSlots h' → Q (.ref e) () { s with heap := h', toks := s.toks + 1 }) :
  AsSuiteRaised M ((A₀.deeper (envOf name scope L a cd)).mark (some x)) (envOf name scope L a cd) n pos
   (notedBy M ((A₀.deeper (envOf name scope L a cd)).mark (some x)) (envOf name scope L a cd) (cameBackBy M (A₀.deeper (envOf name scope L a cd)) (envOf name scope L a cd) fun e' s' => wpAny M (A₀.deeper (envOf name scope L a cd)) (leaving (envOf name scope L a cd) e') (Q e') (E' e') s')) (.ref e) s := by
 refine @disc _ ?y ?e
 case e =>
 haveI h : @Eq (PLift _) (PLift.up (by
 revert K F T0 he hd h1 h0 hc hn hk hlo hQ
 revert M A₀ s base g g₀ outer L a e m name scope cd cls a0 x n pos Q E' oe vs
 refine no_implicit_lambda% (clZ cZ.y.O.Y.Z.p.S.V.V.V.V.c.S.M.N.N.N.z.H.H.H.s.A.D ?_)
 refine fZ8 ?_
 intro zc0_0 M A₀ s base g g₀ outer L
 clear_value M A₀ s base g g₀ outer L
 refine fZ8 ?_
 intro zc0_1 a e m name scope cd cls a0
 clear_value a e m name scope cd cls a0
 refine gZ7 ?_
 intro zc0 x n pos Q E' oe vs
 clear_value x n pos Q E' oe vs
 intros K F T0 he hd h1 h0 hc hn hk hlo hQ
 subst hc
 have K' := K.push (name := name) (a := a) (cd := cd) F hk
 generalize hl : (envOf name scope L a cd :: outer).filterMap (·.frame) = fs at *
 have inB : ∀ b ∈ fs, base.get? b = none ∧ ∃ o, s.heap.get? b = some o ∧ ∀ vs, o.data ≠ .fields vs := fun b hb => K'.frames.mem (hl ▸ hb)
 have eb : base.get? e = none := kts_none K.stays hn
 have stB : base.StaysIn (hideAll s.heap (e :: fs)) := fun b o q => hideAll_get _ (K'.stays b o q) fun hm => by
  k_extra "t1"
  ·rw [eb] at q; cases q
  ·rw [(inB b hm).1] at q; cases q
 have fsL : ∀ b ∈ fs, b = L ∨ b ∈ outer.filterMap (·.frame) := fun b hb => kts_mem (hl ▸ hb)
 have stG : ∀ b o, g.get? b = some o → b ∉ outer.filterMap (·.frame) → (hideAll s.heap (e :: fs)).get? b = some o := fun b o q nm => hideAll_get _ (F.keep b o q) fun hm => by
  k_extra "t1"
  ·rw [hn] at q; cases q
  ·rcases fsL b hm with z | z
   ·rw [z, kts_self F] at q; cases q
   ·exact nm z
 have ff : s.heap.FunFrames (hideAll s.heap (e :: fs)) (envOf name scope L a cd :: outer) := funFrames_rebase K'.frames fun b hb => hideAll_none _ (.tail _ (hl ▸ hb))
 have BL : (hideAll s.heap (e :: fs)).get? L = none := hideAll_none _ (.tail _ (hl ▸ List.mem_filterMap.mpr ⟨_, .head _, rfl⟩))
 have hfr : ((A₀.deeper (envOf name scope L a cd)).mark (some x)).frames = some (envOf name scope L a cd :: outer) := Around.frames_deeper K.stack
 show wpAny M _ (noteFrame _ _) _ _ _
 unfold noteFrame
 simp only [show (envOf name scope L a cd).frame = some L from rfl]
 refine wpAny_bind (wpAny_field he hd h1 ?_)
 rw [if_neg (by decide)]
 refine wpAny_entryW hfr ff rfl he (fun b o hb => of_hideAll _ hb) (hideAll_none _ (.head _)) hd (Array.getElem?_eq_some_iff.mp h1).1 h0 fun h₁ hN => ?_
 revert hl inB stB fsL stG ff BL hN
 revert fs h₁
 refine no_implicit_lambda% (clZ cZ.H.h ?_)
 refine gZ2 ?_
 intro zc1 fs h₁
 clear_value fs h₁
 intros hl inB stB fsL stG ff BL hN
 obtain ⟨k1, k2, k3, k4⟩ := hN
 have oL : e ≠ L := fun q => by
  obtain ⟨o, es, ep, ho, hdd, _⟩ := F.ns
  rw [← q, he] at ho; cases ho
  rw [hd] at hdd; cases hdd
 have FG := Fr.hideL F [e] (List.forall_mem_cons.mpr ⟨⟨hn, oL⟩, fun _ h => nomatch h⟩)
 have gUp : (hideAll s.heap [e]).UpToSlots h₁ := fun b o q nf => k4 b o (of_hideAll _ q) nf
 obtain ⟨g₅, T₅, F₅, K₅⟩ := kts_ground (B := hideAll s.heap (e :: fs)) (name := name) (scope := scope) (a := a) (cd := cd) K FG (fun b o q nm => hideAll_get _ (of_hideAll _ q) fun hm => by
  k_extra "t1"
  ·rw [hideAll_none _ (.head _)] at q; cases q
  ·exact nm (hl ▸ hm)) k1 gUp
 refine wpAny_nameGoes_keeps hlo F₅.ns (by show (scope.kind == .class || (scope.kind == .module && L != mainGlobals)) = false; rw [hk]; rfl) fun h₂ v hns hs => ?_
 revert T₅ F₅ K₅ hns hs
 revert g₅ h₂ v
 refine no_implicit_lambda% (clZ cZ.v.H.H ?_)
 refine gZ3 ?_
 intro zc2 g₅ h₂ v
 clear_value g₅ h₂ v
 intros T₅ F₅ K₅ hns hs
 have F₈ := F₅.set hns hs
 have K₈ := K₅.push (name := name) (a := a) (cd := cd) F₈ hk
 have ff₂ : h₂.FunFrames (hideAll s.heap (e :: fs)) (envOf name scope L a cd :: outer) := funFrames_rebase K₈.frames fun b hb => hideAll_none _ (.tail _ (hl ▸ hb))
 have kp₂ : ∀ b o, b ≠ L → h₁.get? b = some o → h₂.get? b = some o := fun b o nb q => (hs.2 b nb).trans q
 have k1₂ : (hideAll s.heap (e :: fs)).StaysIn h₂ := fun b o q => kp₂ b o (fun z => by rw [z, BL] at q; cases q) (k1 b o q)
 have k3₂ : h₂.TracedAtW (hideAll s.heap (e :: fs)) e oe.cls a0 (rawInt L) := by
  obtain ⟨oe1, vs1, T, oT, ts, he1, hc1, hd1, h11, hnT, hTe, hT, hdT, h3⟩ := k3
  refine ⟨oe1, vs1, T, oT, ts, kp₂ _ _ oL he1, hc1, hd1, h11, hnT, hTe, kp₂ _ _ (fun q => ?_) hT, hdT, h3⟩
  obtain ⟨o, es, ep, ho, hdd, _⟩ := F₅.ns
  rw [← q, hT] at ho; cases ho
  rw [hdT] at hdd; cases hdd
 show wpAny M _ (PySem.passOn _ _ _) _ _ _
 unfold PySem.passOn
 obtain ⟨oe2, vs2, T2, he2, hd2, h12⟩ := traced_tb k3₂
 refine wpAny_bind (wpAny_field (s := { s with heap := h₂, toks := s.toks + 1 }) he2 hd2 h12 ?_)
 rw [if_neg (show ¬ ((Value.ref T2 == Value.none) = true) from by simp)]
 refine wpAny_bind (flightL (s := { s with heap := h₂, toks := s.toks + 1 }) k1₂ ff₂ k3₂ fun h₃ k1₃ ff₃ k3₃ kp₃ => ?_)
 revert he2 hd2 h12 k1₃ ff₃ k3₃ kp₃
 revert oe2 vs2 T2 h₃
 refine no_implicit_lambda% (clZ cZ.H.N.y.O ?_)
 refine gZ4 ?_
 intro zc3 oe2 vs2 T2 h₃
 clear_value oe2 vs2 T2 h₃
 intros he2 hd2 h12 k1₃ ff₃ k3₃ kp₃
 refine wpAny_throw ?_
 unfold notedBy
 refine wpAny_noteFrame_againW (s := { s with heap := h₃, toks := s.toks + 1 }) (L := L) rfl k3₃ ?_
 obtain ⟨oe3, vs3, T3, he3, hd3, h13⟩ := traced_tb k3₃
 unfold cameBackBy
 refine wpAny_bind (wpAny_field (s := { s with heap := h₃, toks := s.toks + 1 }) he3 hd3 h13 ?_)
 rw [if_neg (show ¬ ((Value.ref T3 == Value.none) = true) from by simp)]
 refine flightL (s := { s with heap := h₃, toks := s.toks + 1 }) k1₃ ff₃ k3₃ fun h₄ k1₄ ff₄ k3₄ kp₄ => ?_
 revert he3 hd3 h13 k1₄ ff₄ k3₄ kp₄
 revert oe3 vs3 T3 h₄
 refine no_implicit_lambda% (clZ cZ.H.N.y.O ?_)
 refine gZ4 ?_
 intro zc4 oe3 vs3 T3 h₄
 clear_value oe3 vs3 T3 h₄
 intros he3 hd3 h13 k1₄ ff₄ k3₄ kp₄
 unfold leaving
 refine wpAny_bind (wpAny_noteFrame_againW (s := { s with heap := h₄, toks := s.toks + 1 }) (L := L) rfl k3₄ ?_)
 have HW : Heap.HeldW (hideAll s.heap (e :: fs)) (envOf name scope L a cd :: outer) e oe.cls a0 L h₄ := ⟨k1₄, hideAll_none _ (.head _), ff₄, k3₄⟩
 refine wpAny_landsW (s := { s with heap := h₄, toks := s.toks + 1 }) HW fun h₅ hfl u₅ => ?_
 revert hfl u₅
 revert h₅
 refine no_implicit_lambda% (clZ cZ.H ?_)
 refine gZ1 ?_
 intro zc5 h₅
 clear_value h₅
 intros hfl u₅
 obtain ⟨f1, f2, ⟨_, _, f3⟩, f4⟩ := hfl
 have RR : RaisedSN base g₀ outer e oe.cls [] h₅ := by
  refine ⟨hideAll s.heap (e :: fs), a0, stB, fun b o q nm => stG b o (T0.other b o q nm) nm, List.forall_mem_nil _, f1, f2, f3, f4⟩
 have UU : g₀.UpToSlots h₅ := fun b o q nf => by
  obtain ⟨sl, q1⟩ := T0.up q
  obtain ⟨sl1, q2⟩ := T₅.up q1
  have q3 := F₈.keep _ _ q2
  have q4 := kp₃ _ _ q3 nf
  have q5 := kp₄ _ _ q4 nf
  obtain ⟨sl2, q6⟩ := u₅ _ _ q5 nf
  exact ⟨sl2, q6⟩
 exact hQ h₅ RR UU)) ?y := by k_extra "cv"
 k_extra "zz"
end
theorem are_alike_w (C : Cx w p loose mean mg mb A A₀ base h₀ outer env L m s.heap 10 60) {x : Addr} {ok : Addr → Prop} {vt vu : Value} (ht : TyAt ok s.heap vt .bool) (hu : TyAt ok s.heap vu .u8)
  (ret : ∀ h' tk', s.heap.StaysIn h' → Fr h₀ L h' m → Q (.bool false) { s with heap := h', toks := tk' }) :
  wpAny (model PR w) A (PySem.call (.ref (435 : Nat)) [.ref x, vt, vu]) Q E s := by
 refine @disc _ ?y ?e
 case e =>
 haveI h : @Eq (PLift _) (PLift.up (by
 k_fill
 obtain ⟨a2, rfl⟩ := ht.isRef
 obtain ⟨a3, rfl⟩ := hu.isRef
 obtain ⟨_, t1, r1, e1, i1⟩ := ht.head
 rename_i u0_0
 revert C ret ht hu e1 i1
 revert x ok a2 a3 u0_0 t1 r1
 k_extra "rv"
 refine no_implicit_lambda% (clZ (cPm cZ.L.N.N.N.N.P.N) ?_)
 k_extra "ld"
 refine gZ7 ?_
 intro zc0 x ok a2 a3 u0_0 t1 r1
 clear_value x ok a2 a3 u0_0 t1 r1
 intros C ret ht hu e1 i1
 k_extra "oC"
 cases e1
 obtain ⟨_, t2, r2, e2, i2⟩ := hu.head
 cases e2
 k_extra "c0"
 k_steps
 exact ret _ _ (Fr.keep ‹_›) ‹_›)) ?y := by k_extra "cv"
 k_extra "zz"
theorem type_text_w (C : Cx w p loose mean mg mb A A₀ base h₀ outer env L m s.heap 10 60) {ok : Addr → Prop} {vt : Value} {t : Ty} (hc : t = .bool ∨ t = .u8) (ht : TyAt ok s.heap vt t)
  (ret : ∀ x tx h' tk', x.length ≤ 4 → s.heap.StaysIn h' → Fr h₀ L h' m → Q (.str x tx) { s with heap := h', toks := tk' }) :
  wpAny (model PR w) A (PySem.call (.ref (287 : Nat)) [vt]) Q E s := by
 refine @disc _ ?y ?e
 case e =>
 haveI h : @Eq (PLift _) (PLift.up (by
 k_fill
 obtain ⟨a2, rfl⟩ := ht.isRef
 revert C hc ret ht
 revert ok t a2
 k_extra "rv"
 refine no_implicit_lambda% (clZ (cPm cZ.N.T.P) ?_)
 k_extra "ld"
 refine gZ3 ?_
 intro zc0 ok t a2
 clear_value ok t a2
 intros C hc ret ht
 k_extra "oC"
 rcases hc with rfl | rfl
 ·obtain ⟨_, i1, o1⟩ := ht.boolJ
  rename_i u1_0
  revert i1
  revert u1_0
  refine no_implicit_lambda% (clZ cZ.N ?_)
  refine gZ1 ?_
  intro zc1 u1_0
  clear_value u1_0
  intros i1
  k_extra "c0"
  k_steps
  exact ret _ _ _ _ (by decide) (Fr.keep ‹_›) ‹_›
 ·obtain ⟨_, _, i1, o1⟩ := ht.u8J
  rename_i u2_0 u2_1
  revert i1
  revert u2_0 u2_1
  refine no_implicit_lambda% (clZ cZ.N.N ?_)
  refine gZ2 ?_
  intro zc2 u2_0 u2_1
  clear_value u2_0 u2_1
  intros i1
  k_extra "c0"
  k_steps
  exact ret _ _ _ _ (by decide) (Fr.keep ‹_›) ‹_›)) ?y := by k_extra "cv"
 k_extra "zz"
example : True := by
 k_with "compareOp Eq ref ref" =>
  (k_here; k_dflt (refine eq_dataH (da := Ty.data .bool) (db := Ty.data .u8) (TyAt.reads (by k_extra "a2")) (TyAt.reads (by k_extra "a2")) (Ty.shaped (by decide)) (Ty.shaped (by decide)) (by k_extra "g0") ?_); rw [Ty.eqv]; simp only [decide_false, reduceCtorEq])
 k_with "call ref cons" =>
  (
   (with_reducible show wpAny _ _ (PySem.call (Value.ref 435) _) _ _ _)
   refine' are_alike_w (by k_extra "a0") ?ht ?hu ?_; (case ht => k_extra "a2"); (case hu => k_extra "a2"); refine clZ cZ.N.H ?_; refine gZ2 ?_; intro zc h' tk'; clear_value h' tk'; clear zc; intro st' F'; have N' := News.grown ‹_› st')
 k_with "call ref cons" =>
  (
   (with_reducible show wpAny _ _ (PySem.call (Value.ref 414) _) _ _ _)
   first
   | refine' resolved_w (ok := ok) (t := .bool) 2 (by k_extra "a0") (by decide) (inst_fr I ‹_›) (by first | exact TyAt.fr ht ‹_› | fail) ?_
   | refine' resolved_w (ok := ok) (t := .u8) 2 (by k_extra "a0") (by decide) (inst_fr I ‹_›) (by first | exact TyAt.fr hu ‹_› | fail) ?_
   refine clZ cZ.N.H.N ?_; refine gZ3 ?_; intro zc b9 h9 k9; clear_value b9 h9 k9; clear zc; intro st9 F9 tv9
   have N9 := News.grown ‹_› st9)
 k_with "call ref cons" =>
  (
   (with_reducible show wpAny _ _ (PySem.call (Value.ref 287) _) _ _ _)
   first
   | refine' type_text_w (t := .bool) (by k_extra "a0") (.inl rfl) ‹_› ?_
   | refine' type_text_w (t := .u8) (by k_extra "a0") (.inr rfl) ‹_› ?_
   refine clZ cZ.N.H.N.S ?_; refine gZ4 ?_; intro zc x8 tx8 h8 k8; clear_value x8 tx8 h8 k8; clear zc; intro lx8 st8 F8
   have N8 := News.grown ‹_› st8)
 k_with "binaryOp Add str str" =>
  (k_here; refine' PyProof.Rows.StrLen.add ?_ (by rw [sizeLine_eq]; (try rw [len_and]); (try rw [len_types]); omega); refine clZ cZ.N.N ?_; refine gZ2 ?_; intro zc t9 k9; clear_value t9 k9; clear zc; intro lx9; (try rw [len_and] at lx9); (try rw [len_types] at lx9))
 k_with "call ref cons" =>
  (
   (with_reducible show wpAny _ _ (PySem.call (Value.ref 52) _) _ _ _)
   refine' fault_w (.inl rfl) (.inl rfl) (by k_extra "a0") ?_
   k_extra "p1"
   have N9 := News.grown ‹_› st9)
 k_with "exec Raise some none" =>
  (k_here; k_dflt (refine raise_K (.inl rfl) ‹_› ‹_› ?_))
 trivial
theorem unify_odd_w (C : Cx w p loose mean mg mb A A₀ base h₀ outer env L m s.heap 45 200) {x k q : Addr} {ok : Addr → Prop} {vt vu : Value} (I : Inst s.heap x 452 [("known", .ref k), ("is_number", .ref q)]) (ht : TyAt ok s.heap vt .bool) (hu : TyAt ok s.heap vu .u8)
  (retE : ∀ e h' tk' d od msg, RaisedSN base s.heap (env :: outer) e (.ref 52) [(d, od)] h' → DLink h' e d → MsgOb od msg → s.heap.UpToSlots h' → E (.ref e) { s with heap := h', toks := tk' }) :
  wpAny (model PR w) A (PySem.call (.ref (442 : Nat)) [.ref x, vt, vu]) Q E s := by
 refine @disc _ ?y ?e
 case e =>
 haveI h : @Eq (PLift _) (PLift.up (by
 k_fill
 obtain ⟨a2, rfl⟩ := ht.isRef
 obtain ⟨a3, rfl⟩ := hu.isRef
 obtain ⟨_, t1, r1, e1, i1⟩ := ht.head
 rename_i u0_0
 revert C I retE ht hu e1 i1
 revert x k q ok a2 a3 u0_0 t1 r1
 k_extra "rv"
 refine no_implicit_lambda% (clZ (cPm cZ.L.N.N.N.N.P.N.N.N) ?_)
 k_extra "ld"
 refine fZ8 ?_
 intro zc0_0 x k q ok a2 a3 u0_0 t1
 clear_value x k q ok a2 a3 u0_0 t1
 refine gZ1 ?_
 intro zc0 r1
 clear_value r1
 intros C I retE ht hu e1 i1
 k_extra "oC"
 cases e1
 obtain ⟨_, t2, r2, e2, i2⟩ := hu.head
 rename_i u1_0
 revert e2 i2
 revert u1_0 t2 r2
 refine no_implicit_lambda% (clZ cZ.L.N.N ?_)
 refine gZ3 ?_
 intro zc1 u1_0 t2 r2
 clear_value u1_0 t2 r2
 intros e2 i2
 cases e2
 k_extra "c0"
 k_steps
 refine ⟨_, _, _, rfl, Fr.keep ‹_›, x9, ?_⟩
 refine fly_newM B' ‹_› rfl rfl st9 x9 fun h9 d9 od9 R9 D9 M9 U9 => ?_
 exact retE _ _ _ _ _ _ R9 D9 M9 U9)) ?y := by k_extra "cv"
 k_extra "zz"
theorem msg_look {h : Heap} {d : Addr} {od : Obj} {msg : PySem.Str} (hod : h.get? d = some od) (M : MsgOb od msg) : ∃ t, lookIn (PySem.Str.ofString "message") od = some (some (.str msg t)) := by
 obtain ⟨mA, t, a, b⟩ := M
 obtain ⟨o, es, ep, e1, e2, _, _, e3⟩ := a h d hod
 rw [hod] at e1; cases e1
 have q := e3 "message"
 rw [b] at q
 refine ⟨t, ?_⟩
 unfold nsFind findBy at q
 rw [← Array.find?_toList] at q
 unfold lookIn
 rw [e2]
 dsimp only
 cases hf : es.toList.find? (fun e => e.key.isStr (PySem.Str.ofString "message")) with
 | none =>
  have q' : (es.toList.find? (fun e => e.key.isStr (PySem.Str.ofString "message"))).map (·.val) = some (.str msg t) := q
  rw [hf] at q'; cases q'
 | some x =>
  have q' : (es.toList.find? (fun e => e.key.isStr (PySem.Str.ofString "message"))).map (·.val) = some (.str msg t) := q
  rw [hf] at q'
  exact congrArg some q'
open Builtin.ObjectAttr in
section
variable {prog : Program} {w : World} {A : Around} {E : Value → Shared → Prop} {s : Shared} {K : Frag} {x C : Addr} {ox : Obj} {od : Option Obj} {name : Str} {expr : Bool} {Q : Value → Shared → Prop}
theorem exc_value {v : Value} (X : K.In s.heap) (I : InstAt s.heap x ox C od) (hga : findIn K (.ref C) "__getattribute__" = some (some (.builtin "BaseException.__getattribute__"))) (hk : findIn K (.ref C) "__getattr__" = some none)
  (hi : subIn K (.ref C) (.type "BaseException") = some true) (hf : findObj K C od name = some (.value v)) (hh : handedIn v = true) (h : Q v { s with toks := s.toks + 1 }) : wpAny (model prog w) A (getAttr (.ref x) name expr) Q E s := by
 have L0 := I.type (M := model prog w)
 have L1 := looks_find (M := model prog w) X I hf
 refine wpAny_bind (wpAny_mkText (wpAny_holding (wpAny_bind (L0 _ _ _ _ (fun _ _ e => e) (wpAny_bind (looks_findIn X hga _ _ _ _ (fun _ _ e => e) ?_))))))
 dsimp only
 rw [show (onTheHeap (Value.ref C) && Value.builtin "BaseException.__getattribute__" == Value.builtin "object.__getattribute__") = false from by rw [show (Value.builtin "BaseException.__getattribute__" == Value.builtin "object.__getattribute__") = false from by decide +kernel, Bool.and_false], if_neg (by decide)]
 refine wpAny_bind (looks_hook (mc := .ref C) (r := none) X (by rw [if_pos (show onTheHeap (Value.ref C) = true from rfl)]; exact hk) _ _ _ _ (fun _ _ e => e) (wpAny_bind (wpAny_attempt (wpAny_holding ?_))))
 unfold callGetattribute
 rw [show (expr && onTheHeap (Value.builtin "BaseException.__getattribute__")) = false from Bool.and_false _, if_neg (by decide)]
 unfold boundAndCalled
 rw [F.excAttr_ValueError.ga.bind]
 refine wpAny_bind (wpAny_pure ?_)
 show wpAny _ _ (call (.builtin "BaseException.__getattribute__") [.ref x, .str name s.toks]) _ _ _
 refine wpAny_call ?_
 refine codeAny_call_builtin F.excAttr_ValueError.ga.plain F.entry_bexc_ga ?_
 refine @check_slot (model prog w) _ _ { s with toks := s.toks + 1 } "BaseException.__getattribute__" "BaseException" "__getattribute__" (.ref x) [.str name s.toks] [] _ (by decide +kernel) (by decide +kernel) (L0.andThen (looks_subIn X hi)) (F.args_bexc_ga _ _) ?_
 unfold Builtin.«object.__getattribute__»
 refine wpAny_bind (wpAny_pure ?_)
 refine wpAny_bind (wpAny_pure (wpAny_bind (L0 _ _ _ _ (fun _ _ e => e) (wpAny_bind (L1 _ _ _ _ (fun _ _ e => e) ?_)))))
 show wpAny _ _ (ret v) _ _ _
 refine wpAny_pure ?_
 show wpAny _ _ (handedOut v) _ _ _
 rw [handedOut_of hh]; exact wpAny_pure h
end
section
variable {w : World} {prog : Program} {A : Around} {E : Value → Shared → Prop} {s : Shared} {g : Heap} {L e C d : Addr} {m : Str → Option Value} {K : Frag} {oe od : Obj} {msg : PySem.Str}
theorem attr_exc {expr : Bool} {Q : Value → Shared → Prop} {attr : Option Value} (F : Fr g L s.heap m) (X : K.In g) (he : s.heap.get? e = some oe) (hc : oe.cls = .ref C) (hdd : oe.dict = some d) (hdat : ∃ vs, oe.data = .fields vs) (hod : s.heap.get? d = some od) (M : MsgOb od msg)
  (hga : findIn K (.ref C) "__getattribute__" = some (some (.builtin "BaseException.__getattribute__"))) (hk : findIn K (.ref C) "__getattr__" = some none) (hi : subIn K (.ref C) (.type "BaseException") = some true) (hh : hasDictIn K C = true) (ha : findIn K (.ref C) (PySem.Str.ofString "message") = some attr) (hn : noGet K attr = true) (h : ∀ t, Q (.str msg t) { s with toks := s.toks + 1 }) :
  wpAny (model prog w) A (getAttr (.ref e) (PySem.Str.ofString "message") expr) Q E s := by
 obtain ⟨t, hl⟩ := msg_look hod M
 have hno : notCls oe = true := by
  obtain ⟨a, b, c, dd⟩ := oe
  obtain ⟨vs, hv⟩ := hdat
  dsimp only at hv
  subst hv
  rfl
 have I : InstAt s.heap e oe C (some od) := ⟨he, hc, hno, by rw [hdd]; exact hod⟩
 exact exc_value (X.keeps F.keep) I hga hk hi (findObj_own hh ha hn hl) rfl (h t)
end
inductive FromPost (g : Heap) (e1 C : Addr) (E : Value → Shared → Prop) (v : Value) (s₁ : Shared) : Prop
 | mk : ∀ e h₁ msg o1, (v = .ref e) → (g.StaysIn s₁.heap) → (h₁.StaysIn s₁.heap) → (MadeF h₁ s₁.heap e C msg) → (h₁.get? e1 = some o1) → (fld2 o1 = some .none) → (∀ h' (T : Addr) (d : Addr), h'.get? e = some { cls := .ref C, dict := some d, data := .fields #[.ref T, .none, .ref e1, .none, .bool true, .none] } → (∀ b, b ≠ e → h'.get? b = s₁.heap.get? b) → E (.ref e) { s₁ with heap := h' }) → FromPost g e1 C E v s₁
section
variable {w : World} {A : Around} {E : Value → Shared → Prop} {env : Env} {s : Shared} {g : Heap}
theorem raise_fromK {C e1 : Addr} {x : PySem.Expr} {pos pos' : Pos} {k : Nat} {Q : Flow → Shared → Prop} (hC : C = 52 ∨ C = 64) (X : (hd.heap_1 w.params).In g) (hh : A.handled = some (.ref e1))
  (h : wpAny (model PR w) A (eval x env) (FromPost g e1 C E) E s) :
  wpAny (model PR w) A (exec (.Raise (some x) (some (.Constant .none k pos')) pos) env) Q E s := by
 k_fill
 have q : ktsIn (hd.heap_1 w.params) C "BaseException" = true := by rcases hC with rfl | rfl <;> kts_isx
 obtain ⟨nm, qn, N, bs, bm, hdct, sn, sub, ab, col, dd, k0, k1, k2, k3, k5, newId, hg, hb, _⟩ := kts_cls X q
 rw [arm_exec_Raise]
 show wpAny (model PR w) A (do standAt pos; raiseStmt env (some (do let v ← eval x env; standAt pos; pure v)) (some (do let v ← eval (.Constant .none k pos') env; standAt pos; pure v))) Q E s
 refine wpAny_bind (wpAny_standAt (raise_from_none (C := C) (nm := nm) (q := qn) (N := N) (bs := bs) (bm := bm) (hdct := hdct) (sn := sn) (sub := sub) (ab := ab) (col := col) (dd := dd) (k0 := k0) (k1 := k1) (k2 := k2) (k3 := k3) (k5 := k5) (newId := newId) hb hh ?hc ?hx))
 case hc =>
  intro s' Q' q
  refine wpAny_bind ?_
  show wpAny _ _ (pure Value.none) _ _ _
  exact wpAny_pure (wpAny_bind (wpAny_standAt (wpAny_pure q)))
 case hx =>
  refine wpAny_bind (wpAny_mono h (fun v s₁ h₁ => wpAny_bind (wpAny_standAt (wpAny_pure ?_))) fun _ _ x => x)
  obtain ⟨e, h₁, msg, o1, rfl, st, st1, ⟨hn, T, d, mA, t, he, _⟩, ho1, hf1, hE⟩ := h₁
  exact ⟨e, T, d, o1, rfl, (fun q => by rw [q, ho1] at hn; cases hn), st1 _ _ ho1, hf1, st _ _ hg, he, fun h' z => hE h' T d z⟩
end
theorem mark_depth {A : Around} {env : Env} {x : Option Value} : ((A.deeper env).mark x).depth = A.depth + 1 := rfl
theorem mark_units {A : Around} {env : Env} {x : Option Value} : ((A.deeper env).mark x).units = A.units + 3 := Around.deeper_units A env
example : True := by
 k_with "call ref cons" =>
  (
   (with_reducible show wpAny _ _ (PySem.call (Value.ref 442) _) _ _ _)
   refine' unify_odd_w (by k_extra "a0") (inst_fr I2 ‹_›) (TyAt.fr ht ‹_›) (TyAt.fr hu ‹_›) ?_
   refine clZ cZ.S.O.N.N.H.N ?_; refine gZ6 ?_; intro zc e8 h8 k8 d8 od8 ms8; clear_value e8 h8 k8 d8 od8 ms8; clear zc; intro R8 D8 M8 U8)
 k_with "exec Raise some some" =>
  (k_here; k_dflt (refine raise_fromK (.inl rfl) ‹_› rfl ?_))
 k_with "getAttr ref" =>
  ((with_reducible show wpAny _ _ (getAttr _ (PySem.Str.ofString "message") _) _ _ _); k_dflt (refine attr_exc ‹_› ‹_› (News.at (p := (_, _)) ‹_› (.head _)) c4 d4 dat4 (News.at (p := (_, _)) ‹_› (.tail _ (.head _))) M8 (by k_is) (by k_is) (by k_is) (by k_is) (by k_is) (by k_is) ?_); intro tk9)
 k_with "call ref cons" =>
  (
   (with_reducible show wpAny _ _ (PySem.call (Value.ref 52) _) _ _ _)
   refine' fault_wH (.inr ⟨_, rfl⟩) (.inl rfl) ⟨B4, by assumption, by assumption, by assumption, Around.frames_deeper (Below.stack ‹_›), rfl, rfl, ?dd, ?uu⟩ ?_
   case dd => (rw [mark_depth]; omega)
   case uu => (rw [mark_units]; omega)
   refine clZ cZ.N.H.N ?_; refine gZ3 ?_; intro zc e9 h9 k9; clear_value e9 h9 k9; clear zc; intro st9 F9 x9)
 trivial
theorem chk_odd_w (C : Cx w p loose mean mg mb A A₀ base h₀ outer env L m s.heap 60 280) (XB : (hd.heap_1 w.params).In base) (TB : Top p loose mean mg mb base) {ck wo bd rd inf lo sc lp ow un k q : Addr} {md : PySem.Str} {mt lt : Tok} {ok : Addr → Prop} {vt vu sv : Value}
  (I : Inst s.heap ck 693 (chkF wo mt md bd rd inf lo sc lp ow un lt)) (I2 : Inst s.heap inf 452 [("known", .ref k), ("is_number", .ref q)]) (ht : TyAt ok s.heap vt .bool) (hu : TyAt ok s.heap vu .u8)
  (retE : ∀ e h' tk', Flies base s.heap (env :: outer) e 52 h' → s.heap.UpToSlots h' → E (.ref e) { s with heap := h', toks := tk' }) :
  wpAny (model PR w) A (PySem.call (.ref (571 : Nat)) [.ref ck, vt, vu, sv]) Q E s := by
 refine @disc _ ?y ?e
 case e =>
 haveI h : @Eq (PLift _) (PLift.up (by
 k_fill
 obtain ⟨a2, rfl⟩ := ht.isRef
 obtain ⟨a3, rfl⟩ := hu.isRef
 revert C XB TB I I2 retE ht hu
 revert ck wo bd rd inf lo sc lp ow un k q md mt lt ok sv a2 a3
 k_extra "rv"
 refine no_implicit_lambda% (clZ (cPm cZ.N.N.V.P.N.N.S.N.N.N.N.N.N.N.N.N.N.N.N) ?_)
 k_extra "ld"
 refine fZ8 ?_
 k_extra "w0"
 k_extra "x0"
 refine fZ8 ?_
 intro zc0_1 ow un k q md mt lt ok
 clear_value ow un k q md mt lt ok
 refine gZ3 ?_
 intro zc0 sv a2 a3
 clear_value sv a2 a3
 intros C XB TB I I2 retE ht hu
 k_extra "oC"
 k_extra "c0"
 k_steps
 refine lookM R8 D8 B' U8 fun h7 R7 D7 U7 => ?_
 refine hitM R7 D7 ‹_› B' U7 XB TB .refl (test_name (b := true) (c := .ref 52) (by kts_nm) (by kts_exm) rfl rfl (by decide)) fun h4 g4 tk4 oe4 T4 F4 N4 c4 d4 f4 dat4 B4 X4 P4 => ?_
 k_steps
 have F8 := F9
 have F7 := F4
 have hL0 : e9 ≠ L' := fun q => by
  obtain ⟨o, z⟩ := frHas F7
  have y := x9.1
  rw [q] at y; rw [y] at z; cases z
 have hn0 : g4.get? e9 = none := Heap.none_keep F7.keep x9.1
 refine ⟨e9, _, _, oe4, rfl, F8.keep, st9, x9, ?he, f4, fun h' T d q0 kk => ?_⟩
 case he => exact News.at (p := (_, _)) ‹_› (.head _)
 have F6 : Fr g4 L' h' _ := frBut F8 hn0 hL0 fun b o n q => (kk b n).trans q
 refine asOut B4 F6 T4 q0 rfl rfl rfl rfl hn0 rfl rfl fun h5 R5 U5 => ?_
 exact retE _ _ _ R5 U5)) ?y := by k_extra "cv"
 k_extra "zz"
theorem Cx.less {w : World} {p : Program} {loose : List Str} {mean : ExcName → Option Value} {mg mb : Str → Option Value} {A A₀ : Around} {base h₀ h : Heap} {outer : List Env} {env : Env} {L : Addr} {m : Str → Option Value} {nd nu nd' nu' : Nat}
  (C : Cx w p loose mean mg mb A A₀ base h₀ outer env L m h nd nu) (h1 : nd' ≤ nd) (h2 : nu' ≤ nu) : Cx w p loose mean mg mb A A₀ base h₀ outer env L m h nd' nu' :=
 ⟨C.B, C.F, C.X, C.T, C.hA, C.hf, C.hk, C.hh, by have := C.hd; omega, by have := C.hu; omega⟩
theorem eq_neverB {prog : Program} {w : World} {A : Around} {E : Value → Shared → Prop} {s : Shared} {l b : Addr} {q1 q3 : Tok} {Q : Value → Shared → Prop} (hl : IsTup s.heap l [st "bool" q1].toArray) (hb : IsTup s.heap b [st "never" q3].toArray) (hu : A.units + 64 < cLine) (h : Q (.bool false) s) : wpAny (model prog w) A (compareOp .Eq (.ref l) (.ref b)) Q E s := by
 refine eq_dataH (da := .tuple [ds "bool"]) (db := .tuple [ds "never"]) (isTup_reads hl (.cons (.str _ _) .nil)) (isTup_reads hb (.cons (.str _ _) .nil)) (by decide +kernel) (by decide +kernel) hu ?_
 rw [show PyData.eqv (.tuple [ds "bool"]) (.tuple [ds "never"]) = false from by first | decide +kernel | simp [eqvCons, eqvNil, eqvS, eqvT, -PyData.eqv, -PyData.eqvAll]]
 exact h
example : True := by
 k_with "compareOp Eq ref ref" =>
  (k_here; k_dflt (refine eq_neverB (TupE.now ‹_› ‹_› (by k_extra "b0")) (News.isTup ‹_› (by k_mem)) (by k_extra "g0") ?_))
 k_with "call ref cons" =>
  (
   (with_reducible show wpAny _ _ (PySem.call (Value.ref 564) _) _ _ _)
   refine' chk_resolved_w 2 (by k_extra "a0") (t := .bool) (ok := fun _ => True) (by decide) (inst_fr I ‹_›) (inst_fr I2 ‹_›) ?ht ?_
   case ht => exact TyAt.fr hy ‹_›
   k_extra "k0"
   obtain ⟨y1, it9, ok9⟩ := ty9.boolJ
   revert y1 it9 ok9; refine clZ cZ.N ?_; refine gZ1 ?_; intro zc y1; clear_value y1; clear zc; intro it9 ok9
   (try (have se9 := rest_sub0 ‹_› st9; have oE9 := Ev.up se9 e9))
   have N9 := rest_newsF F9
   have e9 := ev_tup0 F9 it9)
 k_with "call ref cons" =>
  (
   (with_reducible show wpAny _ _ (PySem.call (Value.ref 571) _) _ _ _)
   refine' chk_odd_w (by k_extra "a0") XB TB (ok := fun _ => True) (inst_fr I ‹_›) (inst_fr I2 ‹_›) (TyAt.fr hy ‹_›) (TyAt.fr hz ‹_›) ?_
   refine clZ cZ.N.H.N ?_; refine gZ3 ?_; intro zc e9 h9 k9; clear_value e9 h9 k9; clear zc; intro R9 U9)
 trivial
theorem coerce2_w (C : Cx w p loose mean mg mb A A₀ base h₀ outer env L m s.heap 70 300) (XB : (hd.heap_1 w.params).In base) (TB : Top p loose mean mg mb base) {ck wo bd rd inf lo sc lp ow un k q am : Addr} {md : PySem.Str} {mt lt : Tok} {x0 tv vu x2 x3 : Value} {a : Ty} (ha : a = .u8 ∨ a = .bool)
  (I : Inst s.heap ck 693 (chkF wo mt md bd rd inf lo sc lp ow un lt)) (I2 : Inst s.heap inf 452 [("known", .ref k), ("is_number", .ref q)]) (hm : IsTup s.heap am [x0, tv, x2, x3].toArray)
  (hy : TyAt (fun _ => True) s.heap tv a) (hz : TyAt (fun _ => True) s.heap vu .u8)
  (retE : ∀ e h' tk', a = .bool → Flies base s.heap (env :: outer) e 52 h' → s.heap.UpToSlots h' → E (.ref e) { s with heap := h', toks := tk' })
  (ret : ∀ h' tk', a = .u8 → s.heap.StaysIn h' → Fr h₀ L h' m → Q (.ref am) { s with heap := h', toks := tk' }) :
  wpAny (model PR w) A (PySem.call (.ref (683 : Nat)) [.ref ck, .ref am, vu]) Q E s := by
 refine @disc _ ?y ?e
 case e =>
 haveI h : @Eq (PLift _) (PLift.up (by
 revert C XB TB ha I I2 hm hy hz retE ret
 revert ck wo bd rd inf lo sc lp ow un k q am md mt lt x0 tv vu x2 x3 a
 k_extra "rv"
 refine no_implicit_lambda% (clZ (cPm cZ.T.V.V.V.V.V.N.N.S.N.N.N.N.N.N.N.N.N.N.N.N.N) ?_)
 k_extra "ld"
 refine fZ8 ?_
 k_extra "w0"
 k_extra "x0"
 refine fZ8 ?_
 intro zc0_1 ow un k q am md mt lt
 clear_value ow un k q am md mt lt
 refine gZ6 ?_
 intro zc0 x0 tv vu x2 x3 a
 clear_value x0 tv vu x2 x3 a
 intros C XB TB ha I I2 hm hy hz retE ret
 rcases ha with rfl | rfl
 ·exact coerce_w (C.less (by k_extra "le") (by k_extra "le")) I I2 hm hy hz fun h' tk' => ret h' tk' rfl
 ·k_fill
  k_extra "oC"
  obtain ⟨a1, q1, rfl, itv, -⟩ := hy.boolInv
  obtain ⟨a2, q3, q4, rfl, itu, -⟩ := hz.u8Inv
  revert hm hy itv hz itu
  revert a1 q1 a2 q3 q4
  refine no_implicit_lambda% (clZ cZ.N.N.N.N.N ?_)
  refine gZ5 ?_
  intro zc1 a1 q1 a2 q3 q4
  clear_value a1 q1 a2 q3 q4
  intros hm hy itv hz itu
  k_extra "c0"
  k_steps
  refine fly_on B' ‹_› rfl R9 U9 fun h7 R7 U7 => ?_
  exact retE _ _ _ rfl R7 U7)) ?y := by k_extra "cv"
 k_extra "zz"
theorem Fr.hideC {g h : Heap} {L C : Addr} {m : Str → Option Value} (F : Fr g L h m) (n : g.get? C = none) (nL : C ≠ L) : Fr g L (hideAll h [C]) m :=
 ⟨F.ns.at' fun o e => hideAll_get _ e fun hm => nL (List.mem_singleton.mp hm).symm, fun b o e => hideAll_get _ (F.keep b o e) fun hm => by (rw [List.mem_singleton.mp hm, n] at e; cases e), F.above⟩
theorem News.at_ {g h : Heap} {L C : Addr} {o : Obj} {l : List (Addr × Obj)} (N : News g L h l) (hm : (C, o) ∈ l) : h.get? C = some o := (N _ hm).1
theorem News.offL {g h : Heap} {L C : Addr} {o : Obj} {l : List (Addr × Obj)} (N : News g L h l) (hm : (C, o) ∈ l) : C ≠ L := (N _ hm).2.1
theorem News.bas0 {b g h : Heap} {L C : Addr} {o : Obj} {l : List (Addr × Obj)} (k : b.StaysIn g) (N : News g L h l) (hm : (C, o) ∈ l) : b.get? C = none := fresh_of_stays k (N _ hm).2.2
theorem frames_ne {A : Around} {base g h : Heap} {env : Env} {outer : List Env} {L C : Addr} {oC : Obj} {l : List (Addr × Obj)} (K : Below A base outer g) (hf : env.frame = some L) (N : News g L h l) (hm : (C, oC) ∈ l) : ∀ b ∈ (env :: outer).filterMap (·.frame), b ≠ C := fun b hb e => by
 rcases frame_mem hf hb with z | z
 ·exact (N _ hm).2.1 (e.symm.trans z)
 ·obtain ⟨_, o, ho, _⟩ := K.frames.mem z
  have := (N _ hm).2.2
  rw [e] at ho
  rw [show g.get? C = none from this] at ho; cases ho
example : True := by
 k_with "eval ListComp" =>
  (k_here; (with_reducible show wpAny _ _ (eval (Expr.ListComp _ [⟨Expr.Tuple _ _ _, Expr.Call _ _ _ _, _, _⟩] _ _) _) _ _ _); k_dflt (refine comp_zip1 ‹_› (by with_unfolding_all rfl) (by decide) (by rfl) (by decide) (by rfl) (by rfl) (by decide) ?_))
 k_with "call type:zip" =>
  (k_here; k_dflt (refine' zip_K (b := false) (c := true) ?F ?N ?h1 ?h2 ?_; (case F => k_asm); (case N => k_asm); (case h1 => exact Fr.tup ‹_› ‹_›); (case h2 => exact isList_fr ‹_› ‹_›); k_whole); refine clZ cZ.H.N.N.N.N.N ?_; refine gZ6 ?_; intro zc i1' i2' TI' TO' z' h'; clear_value i1' i2' TI' TO' z' h'; clear zc; intro D' F' N' l1; (try k_sweep))
 k_with "ZCSrc" =>
  (k_dflt (refine ⟨_, _, _, _, _, _, _, _, _, _, _, rfl, by assumption, by assumption, by assumption, by assumption, by assumption, by assumption, by assumption, ?_⟩); refine clZ cZ.N.O.H.M.O.N.N ?_; refine gZ7 ?_; intro zc C9 D9 oC9 m9 h9 o9 tk9; clear_value C9 D9 oC9 m9 h9 o9 tk9; clear zc; intro nC9 hx9 hy9 F9 N9 ho9 l9 k9)
 k_with "ZCEnd" =>
  (k_dflt (refine ⟨_, _, _, rfl, by assumption, by k_extra "b0", by assumption, ?_⟩); refine clZ cZ.N.H ?_; refine gZ2 ?_; intro zc h9 tk9; clear_value h9 tk9; clear zc; intro F9 N9)
 k_with "call ref cons" =>
  (
   (with_reducible show wpAny _ _ (PySem.call (Value.ref 543) _) _ _ _)
   refine' expr_w (by k_extra "a0") (inst_fr I ‹_›) (R.keeps (Fr.keep ‹_›)) (isTup_fr hnd ‹_›) ?_
   k_extra "i0"
   have N9 := News.grown ‹_› st9)
 k_with "call ref cons" =>
  (
   (with_reducible show wpAny _ _ (PySem.call (Value.ref 683) _) _ _ _)
   refine' coerce2_w (by k_extra "a0") XB TB ha (inst_fr I ‹_›) (inst_fr I2 ‹_›) (isTup_fr hm ‹_›) (TyAt.fr hy ‹_›) (TyAt.fr hz ‹_›) ?hE ?_
   case hE =>
    refine clZ cZ.N.H.N ?_; refine gZ3 ?_; intro zc e8 h8 k8; clear_value e8 h8 k8; clear zc; intro ne8 R8 U8
    refine compErr_fly (Around.frames_deeper B'.stack) rfl R8 U8 (LCg.NsObj.ns nC9 (News.at_ ‹_› (by k_mem))) (News.bas0 (Below.stays B') ‹_› (by k_mem)) (frames_ne B' rfl ‹_› (by k_mem)) ?_
    refine clZ cZ.H ?_; refine gZ1 ?_; intro zc h7; clear_value h7; clear zc; intro R7 U7
    refine fly_any B' (Fr.hideC ‹_› (News.fresh ‹_› (by k_mem)) (News.offL ‹_› (by k_mem))) rfl R7 U7 ?_
    refine clZ cZ.H ?_; refine gZ1 ?_; intro zc h6; clear_value h6; clear zc; intro R6 U6
    exact retE _ _ _ ne8 R6 U6
   refine clZ cZ.N.H ?_; refine gZ2 ?_; intro zc h9 k9; clear_value h9 k9; clear zc; intro ea9 st9 F9
   have N9 := News.grown ‹_› st9)
 trivial
theorem read_args_w (C : Cx w p loose mean mg mb A A₀ base h₀ outer env L m s.heap 85 350) (XB : (hd.heap_1 w.params).In base) (TB : Top p loose mean mg mb base) {ck wo bd rd inf lo sc lp ow un k q es nd am li : Addr} {md : PySem.Str} {mt lt : Tok} {n0 n1 x0 tv vu x2 x3 sv : Value} {a : Ty} (ha : a = .u8 ∨ a = .bool)
  (I : Inst s.heap ck 693 (chkF wo mt md bd rd inf lo sc lp ow un lt)) (I2 : Inst s.heap inf 452 [("known", .ref k), ("is_number", .ref q)]) (R : RdAt s.heap rd)
  (hes : IsTup s.heap es [.ref nd].toArray) (hnd : IsTup s.heap nd [n0, n1, .ref am].toArray) (hins : s.heap.IsList li [vu].toArray) (hm : IsTup s.heap am [x0, tv, x2, x3].toArray)
  (hy : TyAt (fun _ => True) s.heap tv a) (hz : TyAt (fun _ => True) s.heap vu .u8)
  (retE : ∀ e h' tk', a = .bool → Flies base s.heap (env :: outer) e 52 h' → s.heap.UpToSlots h' → E (.ref e) { s with heap := h', toks := tk' })
  (ret : ∀ r h' tk', a = .u8 → s.heap.StaysIn h' → Fr h₀ L h' m → Fresh s.heap h' r { cls := .type "tuple", data := .seq #[.ref am] } → Q (.ref r) { s with heap := h', toks := tk' }) :
  wpAny (model PR w) A (PySem.call (.ref (353 : Nat)) [.ref ck, sv, .ref li, .ref es]) Q E s := by
 refine @disc _ ?y ?e
 case e =>
 haveI h : @Eq (PLift _) (PLift.up (by
 k_fill
 obtain ⟨a2, rfl⟩ := hz.isRef
 revert C XB TB ha I I2 R hes hnd hm hy retE ret hins hz
 revert ck wo bd rd inf lo sc lp ow un k q es nd am li md mt lt n0 n1 x0 tv x2 x3 sv a a2
 k_extra "rv"
 refine no_implicit_lambda% (clZ (cPm cZ.N.T.V.V.V.V.V.V.V.N.N.S.N.N.N.N.N.N.N.N.N.N.N.N.N.N.N.N) ?_)
 k_extra "ld"
 refine fZ8 ?_
 k_extra "w0"
 k_extra "x0"
 refine fZ8 ?_
 intro zc0_1 ow un k q es nd am li
 clear_value ow un k q es nd am li
 refine fZ8 ?_
 intro zc0_2 md mt lt n0 n1 x0 tv x2
 clear_value md mt lt n0 n1 x0 tv x2
 refine gZ4 ?_
 intro zc0 x3 sv a a2
 clear_value x3 sv a a2
 intros C XB TB ha I I2 R hes hnd hm hy retE ret hins hz
 k_extra "oC"
 k_extra "e0"
 k_steps
 exact ret _ _ _ ‹_› (Fr.keep ‹_›) ‹_› (newsFrsh ‹_› (by k_mem)))) ?y := by k_extra "cv"
 k_extra "zz"
section
variable {prog : Program} {w : World} {A : Around} {E : Value → Shared → Prop} {s : Shared} {g : Heap} {L : Addr} {m : Str → Option Value} {news : List (Addr × Obj)} {Q0 : Value → Shared → Prop}
theorem getItem_tup1 {t sl : Addr} {x y : Value} {r : List Value} {u : Tok} {Q : Value → Shared → Prop} (ht : IsTup s.heap t (x :: y :: r).toArray) (hs : s.heap.IsSliceOf sl .none (.int 1 u) .none)
  (h : Q (.ref s.heap.objs.size) { s with heap := s.heap.push { cls := .type "tuple", data := .seq #[x] } }) : wpAny (model prog w) A (getItem (.ref t) (.ref sl)) Q E s := by
 obtain ⟨os, hos, hcs, hds⟩ := id hs
 have hTs : s.TypeIs (.ref sl) "slice" := ⟨os, hos, hcs⟩
 unfold getItem
 try with_reducible refine wpAny_holding ?_
 first | refine wpAny_bind (wpAny_pure ?_) | skip
 refine wpAny_bind (wpAny_sequenceKey ht.typeIs (by decide) ?_)
 refine wpAny_bind (wpAny_callSpecial?_slot (name := PySem.Str.ofString "__getitem__") ht.typeIs slot_tuple_getitem
  (wpAny_call_entry slot_tuple_getitem ht.typeIs entry_tuple_getitem ?_ (args_tuple_getitem _ _)))
 show wpAny _ _ (Builtin.Tuple.tupleItemsOf (.ref t) >>= _) _ _ s
 refine wpAny_bind (tupleItemsOf_ ht ?_)
 refine wpAny_bind (wpAny_typeOf hTs ?_)
 rw [if_pos (by decide)]
 refine wpAny_bind (sliceApplied_to (b := 1) hs (by simp) ?_)
 show wpAny _ _ (if ((0 : Int) == 0 && (1 : Int) == 1 && (1 : Nat) == (x :: y :: r).toArray.size) = true then _ else _) _ _ s
 rw [if_neg (by simp)]
 have e : ((List.range 1).filterMap fun (k : Nat) => (x :: y :: r).toArray[((0 : Int) + (k : Int) * 1).toNat]?).toArray = #[x] := by simp [List.range_succ]
 rw [e]
 have hd : sizeOk (.seq #[x]) := by size_fits
 first
  | exact wpAny_bind (m := Builtin.Tuple.tupleExact _) (wpAny_newObj_type (wpAny_pure ⟨_, rfl, wpAny_pure h⟩) hd)
  | exact wpAny_bind (m := Builtin.Tuple.tupleExact _) (wpAny_newObj_type (wpAny_bind (wpAny_pure (wpAny_pure ⟨_, rfl, wpAny_pure h⟩))) hd)
  | exact wpAny_bind (wpAny_bind (m := Builtin.Tuple.tupleExact _) (wpAny_newObj_type (wpAny_pure (wpAny_pure ⟨_, rfl, wpAny_pure h⟩)) hd))
  | exact wpAny_bind (wpAny_bind (m := Builtin.Tuple.tupleExact _) (wpAny_newObj_type (wpAny_pure ⟨_, rfl, wpAny_pure h⟩) hd))
theorem slice_tup1 {value slice : PySem.Expr} {t : Addr} {x y : Value} {r : List Value} {u : Tok} (F : Fr g L s.heap m) (N : News g L s.heap news) (ht : IsTup s.heap t (x :: y :: r).toArray)
  (h : ∀ h', Fr g L h' m → News g L h' ((s.heap.objs.size + 1, { cls := .type "tuple", data := .seq #[x] }) :: news) → Q0 (.ref (s.heap.objs.size + 1)) { s with heap := h' })
  (hs : subscripted slice false (.ref t) (.ref s.heap.objs.size) = operate [.ref s.heap.objs.size, .ref t] (getItem (.ref t) (.ref s.heap.objs.size)) := by with_unfolding_all rfl)
  (hg : ∀ r, letTemporaryGo value (.ref t) r = pure () := by intro _; with_unfolding_all rfl) :
  wpAny (model prog w) A (subscriptTail value slice (.ref t) (.ref s.heap.objs.size)) Q0 E { s with heap := s.heap.push { cls := .type "slice", data := .fields #[.none, .int 1 u, .none] } } := by
 have ht' : IsTup (s.heap.push { cls := .type "slice", data := .fields #[.none, .int 1 u, .none] }) t (x :: y :: r).toArray := ht.keeps fun _ _ e => Heap.get?_push_of_some _ e
 refine subscriptTail_ops (s := { s with heap := s.heap.push { cls := .type "slice", data := .fields #[.none, .int 1 u, .none] } }) ht'.typeIs slot_tuple_getitem.lookup
  (getItem_tup1 ht' (Heap.IsSliceOf.new ..) ?_) hs hg
 have N1 := News.push (F.push { cls := .type "slice", data := .fields #[.none, .int 1 u, .none] }) (N.grown fun _ _ e => Heap.get?_push_of_some _ e) { cls := .type "tuple", data := .seq #[x] }
 rw [Heap.size_push] at N1
 show Q0 (.ref (s.heap.push _).objs.size) _
 rw [Heap.size_push]
 exact h _ ((F.push _).push _) N1
theorem add_T {t b : Addr} {x y : Value} {vs ws : List Value} {Q : Value → Shared → Prop} (F : Fr g L s.heap m) (N : News g L s.heap news) (ht : IsTup s.heap t (x :: vs).toArray) (hb : IsTup s.heap b (y :: ws).toArray)
  (h : ∀ h', Fr g L h' m → News g L h' ((s.heap.objs.size, { cls := .type "tuple", data := .seq ((x :: vs) ++ (y :: ws)).toArray }) :: news) → (∀ p ∈ news, p.1 < s.heap.objs.size) → Q (.ref s.heap.objs.size) { s with heap := h' })
  (hsz : (x :: vs).length + (y :: ws).length ≤ sizeLine) :
  wpAny (model prog w) A (binaryOp .Add (.ref t) (.ref b)) Q E s :=
 add_tuples F N ht hb (fun e => nomatch e) (fun _ e => nomatch e) (fun _ _ h' F' N' => h h' F' N' fun p hp => Heap.lt_size (N p hp).1) hsz
end
def Stop (p : Prop) : Prop := p
theorem stop_at {p : Prop} (h : Stop p) : p := h
theorem wp_cut {α : Type} {M : Model} {A : Around} {x : Sem α} {P Q : α → Shared → Prop} {E : Value → Shared → Prop} {s : Shared} (h1 : wpAny M A x P E s) (h2 : ∀ a s', P a s' → Q a s') : wpAny M A x Q E s := wpAny_mono h1 h2 fun _ _ e => e
section
variable {ok : Addr → Prop} {g h h' : Heap} {L ow : Addr} {m : Str → Option Value} {v : Value} {t : Ty} {e : Ex} {its its2 : Array Value} {n : Nat} {l : List (Addr × Obj)}
theorem isTup_hide {a : Addr} (x : IsTup h a its) (ho : h.get? ow = some (PySem.W.listOf its2 n)) : IsTup (hideAll h [ow]) a its := by
 obtain ⟨o, e, hc, r⟩ := x
 refine ⟨o, hideAll_get _ e fun hm => ?_, hc, r⟩
 rw [List.mem_singleton.mp hm, ho] at e
 cases e
 exact absurd (Value.type.inj hc) (by decide)
theorem TyAt.hide (x : TyAt ok h v t) (ho : h.get? ow = some (PySem.W.listOf its2 n)) : TyAt ok (hideAll h [ow]) v t := x.move fun _ _ a b => ⟨isTup_hide a ho, b⟩
theorem ExAt.hide (x : ExAt ok h v e) (ho : h.get? ow = some (PySem.W.listOf its2 n)) : ExAt ok (hideAll h [ow]) v e := x.move fun _ _ a b => ⟨isTup_hide a ho, b⟩
theorem hide_keep (F : Fr g L h m) (n : g.get? ow = none) : g.StaysIn (hideAll h [ow]) := fun b o e => hideAll_get _ (F.keep b o e) fun hm => by (rw [List.mem_singleton.mp hm, n] at e; cases e)
theorem hide_none : (hideAll h [ow]).get? ow = none := hideAll_none _ (.head _)
theorem news_one {o : Obj} (N : News g L h l) (hm : (ow, o) ∈ l) : News g L h [(ow, o)] := fun p hp => by rw [List.mem_singleton.mp hp]; exact N _ hm
theorem hide_all : (hideAll h [ow]).StaysIn h := fun _ _ e => of_hideAll _ e
theorem exE_local {D : Addr} {t1 t2 t3 : Tok} (N : News g L h l) (hm : (D, ({ cls := .type "tuple", data := .seq #[st "local" t1, v, .int 4 t2, .int 1 t3] } : Obj)) ∈ l) (x : TyE (okF ok g) g L l v t) : ExE (okF ok g) g L l (.ref D) (.loc t) := fun h₂ m₂ F₂ N₂ =>
 .loc (News.isTup N₂ hm) ⟨.inr (N _ hm).2.2, .inr ⟨_, hm⟩⟩ (x _ _ F₂ N₂)
end
theorem chain_next {t u : Ty} {i : Nat} (h : t.chain[i + 1]? = some u) : ∃ v, t.chain[i]? = some v ∧ ((v = .box u) ∨ ∃ b, v = .ref b u) := by
 induction t generalizing i with
 | box a ih =>
  cases i with
  | zero => exact ⟨_, rfl, .inl (by rw [Ty.chain, List.getElem?_cons_succ, Ty.chain_cons] at h; simp at h; rw [h])⟩
  | succ i => exact ih (by simpa [Ty.chain] using h)
 | ref b a ih =>
  cases i with
  | zero => exact ⟨_, rfl, .inr ⟨b, by rw [Ty.chain, List.getElem?_cons_succ, Ty.chain_cons] at h; simp at h; rw [h]⟩⟩
  | succ i => exact ih (by simpa [Ty.chain] using h)
 | _ => simp [Ty.chain] at h
theorem chain_deref {t u : Ty} : ∀ {i : Nat}, t.chain[i]? = some u → (derefN i (.loc t)).ty = u
 | 0, h => by rw [Ty.chain_cons] at h; simpa [derefN, Ex.ty] using h
 | i + 1, h => by
  obtain ⟨v, hv, q⟩ := chain_next h
  show (derefN i (.loc t)).ty.next = u
  rw [chain_deref hv]
  rcases q with rfl | ⟨b, rfl⟩ <;> rfl
theorem seek_some {P : Ty → Bool} {ts : List Ty} {d t w} : ∀ {d0 : Nat}, seekL P ts d0 = some (d, t, w) → ∃ k, d = d0 + k ∧ ts[k]? = some t ∧ pick P t = some w := by
 induction ts with
 | nil => exact fun h => nomatch h
 | cons a r ih =>
  intro d0 h
  have h : (match pick P a with | some w => some (d0, a, w) | none => seekL P r (d0 + 1)) = some (d, t, w) := h
  cases e : pick P a with
  | some w' => rw [e] at h; cases h; exact ⟨0, rfl, rfl, e⟩
  | none => rw [e] at h; exact (ih h).elim fun k y => ⟨k + 1, y.1.trans (Nat.succ_add d0 k), y.2⟩
theorem seek_at {P : Ty → Bool} {ts : List Ty} {d : Nat} {t : Ty} {w : Option Bool} (h : seekL P ts 0 = some (d, t, w)) : ts[d]? = some t ∧ pick P t = some w :=
 (seek_some h).elim fun k y => (y.1.trans (Nat.zero_add k)).symm ▸ y.2
theorem pick_P {P : Ty → Bool} {t : Ty} {w : Option Bool} (h : pick P t = some w) : P (recv w t) = true := by
 unfold pick at h
 split at h
 ·cases h; assumption
 ·split at h
  ·cases h; assumption
  ·split at h
   ·cases h; assumption
   ·cases h
theorem chain_some {t u : Ty} {d : Nat} (h : t.chain[d]? = some u) : ∀ i < d, (∃ v, (derefN i (.loc t)).ty = .box v) ∨ ∃ b v, (derefN i (.loc t)).ty = .ref b v := by
 induction d generalizing u with
 | zero => exact fun i hi => absurd hi (Nat.not_lt_zero i)
 | succ d ih =>
  obtain ⟨v, hv, q⟩ := chain_next h
  intro i hi
  rcases Nat.lt_succ_iff_lt_or_eq.mp hi with hi | rfl
  ·exact ih hv i hi
  ·rw [chain_deref hv]
   rcases q with rfl | ⟨b, rfl⟩
   ·exact .inl ⟨_, rfl⟩
   ·exact .inr ⟨_, _, rfl⟩
theorem seek_facts {P : Ty → Bool} {t t' : Ty} {d : Nat} {w : Option Bool} (h : seekL P t.chain 0 = some (d, t', w)) (hz : t.chain.length ≤ 11) :
  d ≤ 20 ∧ (derefN d (.loc t)).ty = t' ∧ (∀ i < d, (∃ v, (derefN i (.loc t)).ty = .box v) ∨ ∃ b v, (derefN i (.loc t)).ty = .ref b v) ∧ P (recv w t') = true := by
 obtain ⟨h2, h3⟩ := seek_at h
 exact ⟨Nat.le_of_lt (Nat.lt_of_lt_of_le (List.getElem?_eq_some_iff.mp h2).1 (Nat.le_trans hz (Nat.le_of_ble_eq_true rfl))), chain_deref h2, chain_some h2, pick_P h3⟩
theorem own_one {t : Ty} {rows : List Row} {r : Row} {i : Nat} (h : ownHits t rows = [(r, i)]) : rows[i]? = some r ∧ r.tr = false ∧ selfTy r.kind r.told = t := by
 have hm : (r, i) ∈ ownHits t rows := by rw [h]; exact .head _
 unfold ownHits at hm
 obtain ⟨h1, h2⟩ := List.mem_filter.mp hm
 refine ⟨by simpa using List.mem_zipIdx_iff_getElem?.mp h1, ?_⟩
 unfold isOwn at h2
 rw [Bool.and_eq_true, decide_eq_true_eq, Bool.not_eq_true'] at h2
 exact h2
theorem recvE_ty (w : Option Bool) (k : Kind) (d : Ex) : (recvE w k d).ty = recv w d.ty := by
 rcases w with _ | _ | _
 ·unfold recvE recv
  dsimp only
  split <;> rfl
 ·rfl
 ·rfl
inductive FnX where
 | impl (path : PySem.Str) | trait (t : Ty)
noncomputable abbrev Cl.Fx {T : Type} (s : Cl T) : Cl ((FnX) → T) := s.cons (FnX) ⟨.trait .u8⟩
inductive FnXAt (h : Heap) : Addr → FnX → Prop
 | impl {a b : Addr} {p : PySem.Str} {t1 t2 : Tok} : IsTup h a [st "fn" t1, .str p t2, .ref b].toArray → IsTup h b [].toArray → FnXAt h a (.impl p)
 | trait {a b : Addr} {v : Value} {u : Ty} {t1 t2 t3 : Tok} {ok : Addr → Prop} : IsTup h a [st "method" t1, st "A" t2, st "go" t3, v, .ref b].toArray → TyAt ok h v u → IsTup h b [].toArray → FnXAt h a (.trait u)
inductive CallAt (h : Heap) (r : Addr) (out : Ty) (fn : FnX) (rc : Ex) (am : Addr) : Prop
 | mk : ∀ (t1 t2 : Tok) (vo rv : Value) (fa tu : Addr) (ok1 ok2 : Addr → Prop), (IsTup h r [st "call" t1, vo, .int 5 t2, .ref fa, .ref tu].toArray) → (TyAt ok1 h vo out) → (FnXAt h fa fn) → (IsTup h tu [rv, .ref am].toArray) → (ExAt ok2 h rv rc) → CallAt h r out fn rc am
inductive CmRes (rows : List Row) (tkd : Option Kind) (t : Ty) (am : Addr) (h : Heap) (r : Addr) (ol : Array Value) : Prop
 | mk : ∀ d t' w, (seekL (hasAt rows tkd) t.chain 0 = some (d, t', w)) → (((∃ r0 i, ownHits (recv w t') rows = [(r0, i)] ∧ ol = #[] ∧ CallAt h r (r0.out.subst r0.told) (.impl r0.path) (recvE w r0.kind (derefN d (.loc t))) am) ∨ ∃ k u xo vt ty q1 q2 ok, ownHits (recv w t') rows = [] ∧ tkd = some k ∧ selfOf k (recv w t') = some u ∧ rows.any (isHit u) = true ∧ ol = #[.ref xo] ∧ IsTup h xo [st "A" q1, .ref ty, vt, .int 5 q2].toArray ∧ IsTup h ty [].toArray ∧ TyAt ok h vt u ∧ CallAt h r ((Ty.param.pair Ty.bool).subst u) (.trait u) (recvE w k (derefN d (.loc t))) am)) → CmRes rows tkd t am h r ol
theorem news_app {g h : Heap} {L : Addr} {l l' : List (Addr × Obj)} (N : News g L h l) (N' : News g L h l') : News g L h (l ++ l') := fun p hp => (List.mem_append.mp hp).elim (N p) (N' p)
theorem isTup_fresh {g h : Heap} {a : Addr} {its : Array Value} (x : Fresh g h a { cls := .type "tuple", data := .seq its }) : IsTup h a its := ⟨_, x.at_, rfl, _, rfl⟩
theorem trait_of {w : World} {h : Heap} {tkd : Option Kind} {tvs : List (PySem.Str × Value)} {k : Kind} (tr : (tkd = none ∧ tvs = []) ∨ ∃ k tv, tkd = some k ∧ tvs = [(PySem.Str.ofString "A", tv)] ∧ TraitAt w h tv k) (e : tkd = some k) :
  ∃ tv, tvs = [(PySem.Str.ofString "A", tv)] ∧ TraitAt w h tv k := by
 rcases tr with ⟨q, _⟩ | ⟨k', tv, q, r, x⟩
 ·rw [q] at e; cases e
 ·rw [q] at e; cases e; exact ⟨tv, r, x⟩
theorem mut_own {k : Kind} {u t ty : Ty} {w : Option Bool} (h : selfTy k u = recv w t) (e : ty = t) : w = none → k = .mut → ∃ u, ty = .ref true u := fun hw hk => by
 subst hw hk e; exact ⟨u, h.symm⟩
theorem kind_val (k : Kind) (u : Ty) : ((PySem.Str.ofString k.str == PySem.Str.ofString "value") = true ∧ selfTy k u = u) ∨ (¬ (PySem.Str.ofString k.str == PySem.Str.ofString "value") = true ∧ ∃ b, selfTy k u = .ref b u) := by
 cases k
 ·exact .inl ⟨by decide, rfl⟩
 ·exact .inr ⟨by simp only [Kind.str]; decide, _, rfl⟩
 ·exact .inr ⟨by simp only [Kind.str]; decide, _, rfl⟩
theorem isPat_size {t : Ty} (h : t.isPat) : t.size ≤ 5 ∧ t.hasParam = false := by
 rcases h with rfl | rfl | rfl | rfl <;> exact ⟨by decide, rfl⟩
inductive TPost (ok : Addr → Prop) (g : Heap) (L : Addr) (m : Str → Option Value) (l : List (Addr × Obj)) (s : Shared) (u : Ty) (v : Value) (s' : Shared) : Prop
 | mk : ∀ h tk a, (v = .ref a) → (s' = { s with heap := h, toks := tk }) → (Fr g L h m) → (News g L h l) → (TyE ok g L l (.ref a) u) → TPost ok g L m l s u v s'
theorem ifT {prog : Program} {w : World} {A : Around} {E : Value → Shared → Prop} {s : Shared} {g : Heap} {L : Addr} {m : Str → Option Value} {l : List (Addr × Obj)} {Q : Value → Shared → Prop} {ok : Addr → Prop} {u : Ty} {x : Sem Value}
  (_F : Fr g L s.heap m) (_N : News g L s.heap l) (h1 : wpAny (model prog w) A x (TPost ok g L m l s u) E s) (h2 : ∀ h tk a, Fr g L h m → News g L h l → TyE ok g L l (.ref a) u → Q (.ref a) { s with heap := h, toks := tk }) : Stop (wpAny (model prog w) A x Q E s) :=
 wp_cut h1 fun _ _ ⟨h, tk, a, e1, e2, F, N, x⟩ => by subst e1 e2; exact h2 h tk a F N x
theorem listE_now {g h : Heap} {L a : Addr} {m : Str → Option Value} {l : List (Addr × Obj)} {its : Array Value} (e : Ev g L l fun h => h.IsList a its) (F : Fr g L h m) (N : News g L h l) : h.IsList a its := e _ _ F N
theorem slice_L1 {prog : Program} {w : World} {A : Around} {E : Value → Shared → Prop} {s : Shared} {g : Heap} {L : Addr} {m : Str → Option Value} {news : List (Addr × Obj)} {value slice : PySem.Expr} {l : Addr} {x y : Value} {u : Tok} {Q : Value → Shared → Prop}
  (F : Fr g L s.heap m) (N : News g L s.heap news) (hl : s.heap.IsList l [x, y].toArray)
  (h : ∀ h', Fr g L h' m → News g L h' ((s.heap.objs.size + 1, { cls := .type "list", data := .seq #[y] }) :: news) → (∀ p ∈ news, p.1 < s.heap.objs.size + 1) → Q (.ref (s.heap.objs.size + 1)) { s with heap := h' })
  (hs : subscripted slice false (.ref l) (.ref s.heap.objs.size) = operate [.ref s.heap.objs.size, .ref l] (getItem (.ref l) (.ref s.heap.objs.size)) := by with_unfolding_all rfl)
  (ht : ∀ r, letTemporaryGo value (.ref l) r = pure () := by intro _; with_unfolding_all rfl) :
  wpAny (model prog w) A (subscriptTail value slice (.ref l) (.ref s.heap.objs.size)) Q E { s with heap := s.heap.push { cls := .type "slice", data := .fields #[.int 1 u, .none, .none] } } :=
 slice_list F N hl (.int 1 u) .none (fun h' F' N' => h h' F' (by rw [show slicePick [x, y].toArray (some 1) none none = #[y] from slicePick_from #[x, y] 1 (by simp)] at N'; exact N') fun p hp => Nat.lt_succ_of_lt (Heap.lt_size (N p hp).1)) hs ht (by size_fits)
theorem ao_split {w : World} {g h : Heap} {ok : Addr → Prop} {rows : List Row} {tkd : Option Kind} {t : Ty} {o : Obj} {kvs tvs : List (PySem.Str × Value)} {xs : List Value} (hn : xs.length = rows.length) (hz : rows.length ≤ 30) (hrw : ∀ i v, xs[i]? = some v → ∃ r, rows[i]? = some r ∧ ImplAt w g v i r) (sg : SigsAt w g kvs rows)
  (tr : (tkd = none ∧ tvs = []) ∨ ∃ k tv, tkd = some k ∧ tvs = [(PySem.Str.ofString "A", tv)] ∧ TraitAt w g tv k) (x : AtO ok h rows tkd t o) :
  (∃ (r : Row) (i : Nat) (fd : Addr) (t1 t2 t3 : Tok) (sv xv : Value), i ≤ 30 ∧ xs[i]? = some xv ∧ ownHits t rows = [(r, i)] ∧ o = { cls := .type "tuple", data := .seq #[st "impl" t1, .int (i : Int) t2, .str r.path t3, .ref fd] } ∧ rows[i]? = some r ∧ selfTy r.kind r.told = t ∧ valueAt kvs r.path = some sv ∧ ImplAt w g xv i r ∧ SigAt w g sv r ∧ SigAt w g sv r) ∨
  ∃ (k : Kind) (u : Ty) (x : Value) (t1 t2 t3 : Tok) (tv : Value), ownHits t rows = [] ∧ u.isPat ∧ tkd = some k ∧ selfOf k t = some u ∧ rows.any (isHit u) = true ∧ TyAt ok h x u ∧ o = { cls := .type "tuple", data := .seq #[st "trait" t1, st "A" t2, st "go" t3, x] } ∧ selfTy k u = t ∧
   tvs = [(PySem.Str.ofString "A", tv)] ∧ TraitAt w g tv k ∧ TraitAt w g tv k := by
 refine @disc _ ?y ?e
 case e =>
 haveI h : @Eq (PLift _) (PLift.up (by
 revert hn hz hrw sg tr x
 revert w g h ok rows tkd t o kvs tvs xs
 refine no_implicit_lambda% (clZ cZ.L.k.k.O.T.Ko.Rs.P.H.H.W ?_)
 refine fZ8 ?_
 intro zc0_0 w g h ok rows tkd t o
 clear_value w g h ok rows tkd t o
 refine gZ3 ?_
 intro zc0 kvs tvs xs
 clear_value kvs tvs xs
 intros hn hz hrw sg tr x
 rcases x with ⟨r, i, fd, t1, t2, t3, ho, rfl⟩ | ⟨k, u, x, t1, t2, t3, ho, hk, hu, ha, tx, rfl⟩
 ·obtain ⟨a, -, b⟩ := own_one ho
  obtain ⟨sv, c, d⟩ := sg i r a
  have hi : i < xs.length := by rw [hn]; exact (List.getElem?_eq_some_iff.mp a).1
  have hx := List.getElem?_eq_getElem hi
  obtain ⟨r', a', im⟩ := hrw i _ hx
  rw [a] at a'; cases a'
  exact .inl ⟨r, i, fd, t1, t2, t3, sv, _, by omega, hx, ho, rfl, a, b, c, im, d, d⟩
 ·obtain ⟨tv, a, b⟩ := trait_of tr hk
  have hp : u.isPat := by
   obtain ⟨r, hr, hh⟩ := List.any_eq_true.mp ha
   obtain ⟨i, hi⟩ := List.getElem?_of_mem hr
   have hi' : i < xs.length := by rw [hn]; exact (List.getElem?_eq_some_iff.mp hi).1
   obtain ⟨r', a', im⟩ := hrw i _ (List.getElem?_eq_getElem hi')
   rw [hi] at a'; cases a'
   obtain ⟨_, _, _, _, _, _, _, _, _, _, _, _, _, _, _, _, z⟩ := im
   unfold isHit at hh
   rw [Bool.and_eq_true, decide_eq_true_eq] at hh
   exact hh.2 ▸ z
  exact .inr ⟨k, u, x, t1, t2, t3, tv, ho, hp, hk, hu, ha, tx, rfl, selfOf_iff.mp hu, a, b, b⟩)) ?y := by k_extra "cv"
 k_extra "zz"
example : True := by
 k_with "subscriptTail Name Slice ref ref" =>
  (k_here; (with_reducible show wpAny _ _ (subscriptTail _ (Expr.Slice none (some _) _ _) _ _) _ _ _); k_dflt (refine slice_tup1 ‹_› ‹_› (isTup_fr hme ‹_›) ?_); refine clZ cZ.H ?_; refine gZ1 ?_; intro zc h9; clear_value h9; clear zc; intro F9 N9)
 k_with "subscriptTail Name Slice ref ref" =>
  (k_here; (with_reducible show wpAny _ _ (subscriptTail _ (Expr.Slice (some _) none _ _) _ _) _ _ _); k_dflt (refine slice_tuple_from (a := 2) ‹_› ‹_› (isTup_fr hme ‹_›) (by decide) (by simp) ?_); refine clZ cZ.H ?_; refine gZ1 ?_; intro zc h9; clear_value h9; clear zc; intro F9 N9; (try simp only [List.drop_succ_cons, List.drop_zero] at N9))
 k_with "binaryOp Add ref ref" =>
  (k_here; k_dflt (refine add_T ‹_› ‹_› (by k_extra "a1") (by k_extra "a1") ?_ (by size_fits)); refine clZ cZ.H ?_; refine gZ1 ?_; intro zc h9; clear_value h9; clear zc; intro F9 N9 l9; (try simp only [List.forall_mem_cons, List.forall_mem_nil, and_true] at l9); (try simp only [List.cons_append, List.nil_append] at N9))
 k_with "call ref cons" =>
  (
   (with_reducible show wpAny _ _ (PySem.call (Value.ref 543) _) _ _ _)
   refine' expr_w (by k_extra "a0") (inst_fr I ‹_›) (R.keeps (Fr.keep ‹_›)) (isTup_fr hte ‹_›) ?_
   k_extra "i0"
   have N9 := News.grown ‹_› st9)
 k_with "call ref cons" =>
  (
   (with_reducible show wpAny _ _ (PySem.call (Value.ref 564) _) _ _ _)
   refine' chk_resolved_w 7 (by k_extra "a0") (t := t) (ok := ok) (by k_extra "le") (inst_fr I ‹_›) (inst_fr I2 ‹_›) (TyAt.fr ht ‹_›) ?_
   k_extra "k0"
   have ty9 := ty9.imp fun _ x => okThree (g := G0) ‹_› x
   have tE := tyE_of0 F9 ty9
   have hmo := rest_sub0 ‹_› st9 (ow, PySem.W.listOf #[] n0) (by k_mem)
   have N9 := news_app (News.grown ‹_› st9) (rest_newsF F9)
   simp only [List.cons_append, List.nil_append] at N9)
 k_with "call ref cons" =>
  (
   (with_reducible show wpAny _ _ (PySem.call (Value.ref 235) _) _ _ _)
   refine' find_w (by k_extra "a0") (rows := rows) (tkd := tkd) (t := t) (ok := okF ok G0) (WAt.fr ‹_› W) ?ht htp hcz ?hE ?hN ?_
   case ht => exact TyE.now tE ‹_› (by k_extra "b0")
   case hE =>
    refine clZ cZ.N.H.N ?_; refine gZ3 ?_; intro zc e8 h8 k8; clear_value e8 h8 k8; clear zc; intro c8 R8 U8
    refine fly_on B' ‹_› rfl R8 U8 fun h7 R7 U7 => ?_
    exact retE _ _ _ _ (.inl ⟨rfl, c8⟩) R7 U7
   case' hN =>
    refine clZ cZ.N.H ?_; refine gZ2 ?_; intro zc h9 k9; clear_value h9 k9; clear zc; intro hs9 st9 F9
    have N9 := rest_newsF F9
   rotate_left
   refine clZ cZ.N.H.N.N.b.T.N.O.N.N ?_; refine fZ8 ?_; intro zc_0 c9 a9 o9 d9 t9 w9 u1 u2; clear_value c9 a9 o9 d9 t9 w9 u1 u2; refine gZ2 ?_; intro zc h9 k9; clear_value h9 k9; intro hs9 st9 F9 xc9 xa9 ao9
   have mE := exE_local ‹_› (by k_mem) (TyE.up (fun p hp => by repeat (first | exact hp | refine List.Mem.tail _ ?_)) tE)
   have sb9 := rest_sub0 ‹_› st9
   have mE := ExE.up sb9 mE
   have hmo := sb9 (ow, PySem.W.listOf #[] n0) (by repeat (first | exact hmo | refine List.Mem.tail _ ?_))
   have N9 := news_fresh ‹_› (rest_newsF F9) xc9
   clear tE
   obtain ⟨hd9, hty9, hch9, hP9⟩ := seek_facts hs9 hcz
   rcases ao_split hn hz hrw sg tr ao9 with ⟨r0, i0, fd0, v1, v2, v3, sv0, xv0, hi0, hx0, ho9, rfl, hr0, hsT, hsv0, ⟨im0, img, impl0, imta, immd, imvt, w1, w2, w3, w4, rfl, Im0, hipl0, hita0, htu0, himd0, hpat0⟩, hsig0, ⟨sx0, spt, srg, spl, sow, sins, svo, skt, ss0, sa0, rfl, Isg0, hspl0, hsins0, hss0, hsa0, hsvo0⟩⟩ | ⟨k0, u0, vx0, v1, v2, v3, tvA, ho9, hpu0, hk9, hu9, hany9, tx9, rfl, hsT, rfl, hTA, ⟨sx0, par, mdd, df, sg0, srg, spl, sow, sins, svo, ss0, sa0, sq1, sq2, skt, spe, sbe, sts, sta, rfl, Ix0, hpar0, hmd0, Ig0, hpl0, hpe0, hbe0, hins0, ts0, ta0, tvo0⟩⟩
   all_goals try have vE := tyE_of0 F9 tx9
   all_goals try have aT := ev_tup0 F9 (isTup_fresh xa9))
 k_with "subscriptTail Name Subscript ref str" =>
  (k_here; first | k_dflt (refine dget_item ‹_› hds hsv0 ?_) | k_dflt (refine dget_item ‹_› hdt (by rfl) ?_))
 k_with "call ref cons" =>
  (
   (with_reducible show wpAny _ _ (PySem.call (Value.ref 367) _) _ _ _)
   refine' recv_w (by k_extra "a0") hd9 (ExE.now mE ‹_› (by k_extra "b0")) hch9 (mut_own hsT hty9) ?_
   refine clZ cZ.N.H.V ?_; refine gZ3 ?_; intro zc v9 h9 k9; clear_value v9 h9 k9; clear zc; intro st9 F9
   revert v9; refine' ExAt.all ?_; refine clZ cZ.L.V.V.N ?_; refine gZ4 ?_; intro zc b9 x9 y9 rest9; clear_value b9 x9 y9 rest9; clear zc; intro it9 ty9 e9
   have e9 := e9.imp fun _ x => okThree (g := G0) ‹_› x
   have e9 := e9.imp fun _ x => okSelf x
   have ty9 := ty9.imp fun _ x => okThree (g := G0) ‹_› x
   have ty9 := ty9.imp fun _ x => okSelf x
   have sb9 := rest_sub0 ‹_› st9
   have hmo := sb9 (ow, PySem.W.listOf #[] n0) (by repeat (first | exact hmo | refine List.Mem.tail _ ?_))
   have aT := Ev.up (fun p hp => sb9 p (by repeat (first | exact hp | refine List.Mem.tail _ ?_))) aT
   have rE := exE_of0 F9 e9
   have N9 := rest_newsF F9
   rw [recvE_ty, hty9, ← hsT] at ty9
   obtain ⟨ay9, rfl⟩ := ty9.isRef
   have rT := ev_tup0 F9 it9
   have tE := tyE_of0 F9 ty9
   clear mE)
 k_with "eval IfExp" =>
  ((with_reducible show wpAny _ _ (eval _ (envOf (PySem.Str.ofString "check_method") _ _ _ _)) _ _ _); refine stop_at ?_)
 k_with "subscriptTail Name Subscript ref int" =>
  (k_here; k_dflt (refine lst_i (isList_fr hxs ‹_›) hx0 (by k_extra "le") ?_))
 k_with "subscriptTail Attribute Attribute Subscript ref int" =>
  (k_here; k_dflt (refine lst_i (isList_fr hxs ‹_›) hx0 (by k_extra "le") ?_))
 k_with "call ref cons" =>
  (
   (with_reducible show wpAny _ _ (PySem.call (Value.ref 338) _) _ _ _)
   refine impl_callee_w (by k_extra "a0") (t := r0.told) (r := r0) (t4 := 0) (path := r0.path) (isPat_size hpat0).1 (hro r0 (List.mem_of_getElem? hr0)) (inst_fr I ‹_›) (inst_fr I2 ‹_›) (inst_fr Im0 ‹_›) (isList_fr hipl0 ‹_›) (inst_fr Iw ‹_›) (DictAt.keeps (Fr.keep ‹_›) hds) ⟨_, hsv0, SigAt.keeps (Fr.keep ‹_›) hsig0⟩ rfl (isPat_size hpat0).2 (TyAt.fr htu0 ‹_›) (TyE.now tT9 ‹_› (by k_extra "b0")) (isTup_fr he0 ‹_›) ?_
   refine clZ cZ.N.H.N.N.N.V.V.N.N.N.N ?_; refine fZ8 ?_; intro zc_0 x9 fa9 ea9 l9 i9 j9 vq9 w5; clear_value x9 fa9 ea9 l9 i9 j9 vq9 w5; refine gZ3 ?_; intro zc w6 h9 k9; clear_value w6 h9 k9; intro st9 F9 nx9 ft9 et9 li9 ti9 to9
   have sb9 := rest_sub0 ‹_› st9
   have hmo := sb9 (ow, PySem.W.listOf #[] n0) (by repeat (first | exact hmo | refine List.Mem.tail _ ?_))
   have rE := ExE.up (fun p hp => sb9 p (by repeat (first | exact hp | refine List.Mem.tail _ ?_))) rE
   have N9 := rest_newsF F9
   have cE := nx9.ever ‹_› F9
   have fE := ev_tup0 F9 ft9
   have eE := ev_tup0 F9 et9
   have lE := ev_list F9 li9 List.not_mem_nil
   have jE := tyE_of0 F9 ti9
   have oE := tyE_of0 F9 to9)
 k_with "call ref cons" =>
  (
   (with_reducible show wpAny _ _ (PySem.call (Value.ref 348) _) _ _ _)
   have NM := news_one (ow := ow) (o := PySem.W.listOf #[] n0) ‹_› (by repeat (first | exact hmo | refine List.Mem.tail _ ?_))
   have hk := hide_keep ‹_› hGo
   have FH := Fr.hideC ‹_› hGo (News.offL NM (.head _))
   have tH := TyAt.hide (TyE.now tT9 ‹_› (by k_extra "b0")) (NM _ (.head _)).1
   have rH := ExAt.hide (ExE.now rE ‹_› (by k_extra "b0")) (NM _ (.head _)).1
   refine trait_callee_w (by k_extra "a0") (t := u0) (isPat_size hpu0).1 NM (I.keeps hk) (I2.keeps hk) (Iw.keeps hk) (DictAt.keeps hk hdt) (TraitAt.keeps hk hTA) (isPat_size hpu0).2 tH (he0.keeps hk) ?_
   refine clZ cZ.N.H.N.N.N.N.N.N.N.N.V.V.N.N.N.N ?_; refine fZ8 ?_; intro zc_0 x9 fa9 ea9 l9 i9 j9 vq9 xo9; clear_value x9 fa9 ea9 l9 i9 j9 vq9 xo9; refine gZ8 ?_; intro zc w1 w2 w3 w4 w5 n9 h9 k9; clear_value w1 w2 w3 w4 w5 n9 h9 k9; intro st9 F9 N8 xt9 nx9 ft9 et9 li9 ti9 to9
   have hmo : (ow, PySem.W.listOf #[.ref xo9] n9) ∈ restH G0 L' [] h9 := mem_restH.mpr ⟨(N8 _ (.head _)).1, (N8 _ (.head _)).2.2, (N8 _ (.head _)).2.1, List.not_mem_nil⟩
   have rE := exE_of0 F9 (rH.keeps st9)
   have wE := tyE_of0 F9 (tH.keeps st9)
   have xE := ev_tup0 F9 xt9
   have N9 := rest_newsF F9
   have cE := nx9.ever FH F9
   have fE := ev_tup0 F9 ft9
   have eE := ev_tup0 F9 et9
   have lE := ev_list F9 li9 List.not_mem_nil
   have jE := tyE_of0 F9 ti9
   have oE := tyE_of0 F9 to9
   clear NM FH N8)
 k_with "subscriptTail Name Slice ref ref" =>
  (k_here; (with_reducible show wpAny _ _ (subscriptTail (Expr.Name (PySem.Str.ofString "_") _) (Expr.Slice (some _) none _ _) _ _) _ _ _); k_dflt (refine slice_L1 ‹_› ‹_› (listE_now lE ‹_› (by k_extra "b0")) ?_); refine clZ cZ.H ?_; refine gZ1 ?_; intro zc h9; clear_value h9; clear zc; intro F9 N9 l9; (try simp only [List.forall_mem_cons, List.forall_mem_nil, and_true] at l9))
 k_with "call ref cons" =>
  (
   (with_reducible show wpAny _ _ (PySem.call (Value.ref 353) _) _ _ _)
   refine' read_args_w (by k_extra "a0") XB TB ha (inst_fr I ‹_›) (inst_fr I2 ‹_›) (R.keeps (Fr.keep ‹_›)) (isTup_fr htes ‹_›) (isTup_fr hta ‹_›) (News.isList ‹_› (by k_mem)) (isTup_fr ham ‹_›) (TyAt.fr hav ‹_›) ((TyE.now jE ‹_› (by k_extra "b0")).imp fun _ _ => trivial) ?hE ?_
   case hE =>
    refine clZ cZ.N.H.N ?_; refine gZ3 ?_; intro zc e8 h8 k8; clear_value e8 h8 k8; clear zc; intro c8 R8 U8
    refine fly_on B' ‹_› rfl R8 U8 fun h7 R7 U7 => ?_
    exact retE _ _ _ _ (.inr (.inr ⟨rfl, c8, _, _, _, hs9, by rw [ho9]; simp⟩)) R7 U7
   refine clZ cZ.N.H.N ?_; refine gZ3 ?_; intro zc r8 h9 k9; clear_value r8 h9 k9; clear zc; intro ea9 st9 F9 x9
   have sb9 := rest_sub0 ‹_› st9
   first | have hmo := sb9 (ow, PySem.W.listOf #[] n0) (by first | exact hmo | exact List.Mem.tail _ hmo | exact List.Mem.tail _ (List.Mem.tail _ hmo)) | have hmo := sb9 (ow, PySem.W.listOf #[.ref xo9] n9) (by first | exact hmo | exact List.Mem.tail _ hmo | exact List.Mem.tail _ (List.Mem.tail _ hmo))
   have rE := ExE.up (fun p hp => sb9 p (by repeat (first | exact hp | refine List.Mem.tail _ ?_))) rE
   have cE := Ev.up (fun p hp => sb9 p (by repeat (first | exact hp | refine List.Mem.tail _ ?_))) cE
   have fE := Ev.up (fun p hp => sb9 p (by repeat (first | exact hp | refine List.Mem.tail _ ?_))) fE
   have eE := Ev.up (fun p hp => sb9 p (by repeat (first | exact hp | refine List.Mem.tail _ ?_))) eE
   have oE := TyE.up (fun p hp => sb9 p (by repeat (first | exact hp | refine List.Mem.tail _ ?_))) oE
   (try have wE := TyE.up (fun p hp => sb9 p (by repeat (first | exact hp | refine List.Mem.tail _ ?_))) wE)
   (try have xE := Ev.up (fun p hp => sb9 p (by repeat (first | exact hp | refine List.Mem.tail _ ?_))) xE)
   have N9 := news_fresh ‹_› (rest_newsF F9) x9)
 k_with "exec Raise some none" =>
  (k_here; k_dflt (refine raise_K (.inl rfl) ‹_› ‹_› ?_))
 k_with "call ref cons" =>
  (
   (with_reducible show wpAny _ _ (PySem.call (Value.ref 52) _) _ _ _)
   refine' fault_w (.inr ⟨_, rfl⟩) (.inl rfl) (by k_extra "a0") ?_
   k_extra "p1"
   have N9 := News.grown ‹_› st9)
 k_with "subscriptTail Name Constant ref int" =>
  (k_here; with_reducible (first | refine itemE0 ‹_› ‹_› (by with_unfolding_all k_extra "b0") ?_ | refine itemE1 ‹_› ‹_› (by with_unfolding_all k_extra "b0") ?_ | refine itemE2 ‹_› ‹_› (by with_unfolding_all k_extra "b0") ?_ | refine itemE3 ‹_› ‹_› (by with_unfolding_all k_extra "b0") ?_))
 trivial
theorem check_method_w (C : Cx w p loose mean mg mb A A₀ base h₀ outer env L m s.heap 140 900) (XB : (hd.heap_1 w.params).In base) (TB : Top p loose mean mg mb base) {ck wo bd rd inf lo sc lp ow un k q nd te e0 tes ta ea am : Addr} {md : PySem.Str} {mt lt q1 q2 q3 q4 q5 q6 : Tok} {n0 : Nat} {ok : Addr → Prop} {t a : Ty} {tkd : Option Kind} {rows : List Row} {x0 x1 y0 y1 tv z0 av z2 z3 xv : Value}
  (ha : a = .u8 ∨ a = .bool) (hsz : t.size < 7) (hcz : t.chain.length ≤ 11) (htp : t.hasParam = false) (hro : ∀ r ∈ rows, r.out.size ≤ 6)
  (N : News h₀ L s.heap [(ow, PySem.W.listOf #[] n0)]) (I : Inst (hideAll s.heap [ow]) ck 693 (chkF wo mt md bd rd inf lo sc lp ow un lt)) (I2 : Inst (hideAll s.heap [ow]) inf 452 [("known", .ref k), ("is_number", .ref q)]) (R : RdAt (hideAll s.heap [ow]) rd) (W : WAt w (hideAll s.heap [ow]) wo rows tkd)
  (hnd : IsTup (hideAll s.heap [ow]) nd [st "method" q1, .int 5 q2, .ref te, st "go" q3, .ref e0, .ref tes].toArray) (hte : IsTup (hideAll s.heap [ow]) te [x0, x1, .ref ea].toArray) (he0 : IsTup (hideAll s.heap [ow]) e0 [].toArray)
  (htes : IsTup (hideAll s.heap [ow]) tes [.ref ta].toArray) (hta : IsTup (hideAll s.heap [ow]) ta [y0, y1, .ref am].toArray) (hme : IsTup (hideAll s.heap [ow]) ea [st "local" q4, tv, .int 4 q5, .int 1 q6].toArray) (ht : TyAt ok (hideAll s.heap [ow]) tv t)
  (ham : IsTup (hideAll s.heap [ow]) am [z0, av, z2, z3].toArray) (hav : TyAt (fun _ => True) (hideAll s.heap [ow]) av a)
  (retE : ∀ e Cl h' tk', ((Cl = 64 ∧ ∃ d t' w, seekL (hasAt rows tkd) t.chain 0 = some (d, t', w) ∧ 1 < (ownHits (recv w t') rows).length) ∨ (Cl = 52 ∧ seekL (hasAt rows tkd) t.chain 0 = none) ∨ (Cl = 52 ∧ a = .bool ∧ ∃ d t' w, seekL (hasAt rows tkd) t.chain 0 = some (d, t', w) ∧ ¬ 1 < (ownHits (recv w t') rows).length)) →
   Flies base (hideAll s.heap [ow]) (env :: outer) e Cl h' → (hideAll s.heap [ow]).UpToSlots h' → E (.ref e) { s with heap := h', toks := tk' })
  (ret : ∀ r ol n' h' tk', a = .u8 → (hideAll s.heap [ow]).StaysIn h' → Fr h₀ L h' m → News h₀ L h' [(ow, PySem.W.listOf ol n')] → CmRes rows tkd t am h' r ol → Q (.ref r) { s with heap := h', toks := tk' }) :
  wpAny (model PR w) A (PySem.call (.ref (374 : Nat)) [.ref ck, .ref nd, xv]) Q E s := by
 refine @disc _ ?y ?e
 case e =>
 haveI h : @Eq (PLift _) (PLift.up (by
 k_fill
 obtain ⟨at1, rfl⟩ := ht.isRef
 obtain ⟨a1, a2, ds, dt, li, a3, a4, xs, kvs, tvs, Iw, hxs, hn, hrw, hds, sg, hdt, tr, hz⟩ := id W
 generalize hG : hideAll s.heap [ow] = G0 at *
 revert C XB TB ha hsz hcz htp hro N hn hz hG I I2 R W hnd hte he0 htes hta ham hav retE ret hme ht Iw hxs hrw hds sg hdt tr
 revert ck wo bd rd inf lo sc lp ow un k q nd te e0 tes ta ea am md mt lt q1 q2 q3 q4 q5 q6 n0 ok t a tkd rows x0 x1 y0 y1 z0 av z2 z3 xv at1 a1 a2 ds dt li a3 a4 xs kvs tvs G0
 k_extra "rv"
 refine no_implicit_lambda% (clZ (cPm cZ.H.k.k.L.N.N.N.N.N.N.N.N.V.V.V.V.V.V.V.V.V.Rs.Ko.T.T.P.N.N.N.N.N.N.N.N.N.S.N.N.N.N.N.N.N.N.N.N.N.N.N.N.N.N.N.N.N) ?_)
 k_extra "ld"
 refine fZ8 ?_
 k_extra "w0"
 k_extra "x0"
 refine fZ8 ?_
 intro zc0_1 ow un k q nd te e0 tes
 clear_value ow un k q nd te e0 tes
 refine fZ8 ?_
 intro zc0_2 ta ea am md mt lt q1 q2
 clear_value ta ea am md mt lt q1 q2
 refine fZ8 ?_
 intro zc0_3 q3 q4 q5 q6 n0 ok t a
 clear_value q3 q4 q5 q6 n0 ok t a
 refine fZ8 ?_
 intro zc0_4 tkd rows x0 x1 y0 y1 z0 av
 clear_value tkd rows x0 x1 y0 y1 z0 av
 refine fZ8 ?_
 intro zc0_5 z2 z3 xv at1 a1 a2 ds dt
 clear_value z2 z3 xv at1 a1 a2 ds dt
 refine gZ7 ?_
 intro zc0 li a3 a4 xs kvs tvs G0
 clear_value li a3 a4 xs kvs tvs G0
 intros C XB TB ha hsz hcz htp hro N hn hz hG I I2 R W hnd hte he0 htes hta ham hav retE ret hme ht Iw hxs hrw hds sg hdt tr
 k_extra "oC"
 k_extra "c1"
 have eG0 : G0 = G' := by rw [eG', ← hG]; rfl
 subst eG0
 have hGo : G0.get? ow = none := hG ▸ hide_none
 repeat ((fail_if_success (with_reducible show wpAny _ _ (PySem.call (Value.ref 235) _) _ _ _)); k_extra "h0")
 k_extra "h0"
 rename_i u2_0 u2_1 u2_2 u2_3 u2_4 u2_5 u2_6 u2_7 u2_8 u2_9 u2_10 u2_11 u2_12 u2_13 u2_14 u2_15 u2_16 u2_17 u2_18 u2_19 u2_20 u2_21 u2_22
 revert hi0 ho9 xa9 ao9 hr0 hsT Im0 hipl0 hita0 htu0 himd0 hpat0 hx0 Isg0 hspl0 hsins0 hss0 hsa0 hsvo0 hsv0 hsig0 aT
 revert r0 i0 fd0 v1 v2 v3 im0 img impl0 imta immd imvt w1 w2 w3 w4 sx0 spt srg spl sow sins svo skt ss0 sa0
 refine no_implicit_lambda% (clZ cZ.V.V.N.V.N.N.N.N.N.N.N.N.N.N.V.N.N.N.N.N.N.N.N.N.N.Rw ?_)
 refine fZ8 ?_
 intro zc2_0 r0 i0 fd0 v1 v2 v3 im0 img
 clear_value r0 i0 fd0 v1 v2 v3 im0 img
 refine fZ8 ?_
 intro zc2_1 impl0 imta immd imvt w1 w2 w3 w4
 clear_value impl0 imta immd imvt w1 w2 w3 w4
 refine fZ8 ?_
 intro zc2_2 sx0 spt srg spl sow sins svo skt
 clear_value sx0 spt srg spl sow sins svo skt
 refine gZ2 ?_
 intro zc2 ss0 sa0
 clear_value ss0 sa0
 intros hi0 ho9 xa9 ao9 hr0 hsT Im0 hipl0 hita0 htu0 himd0 hpat0 hx0 Isg0 hspl0 hsins0 hss0 hsa0 hsvo0 hsv0 hsig0 aT
 ·skip
  k_steps
  refine ifT (ok := fun _ => True) (u := r0.told) ‹_› ‹_› ?_ ?_
  ·rcases kind_val r0.kind r0.told with ⟨hv, hv2⟩ | ⟨hv, b0, hv2⟩
   all_goals rw [hv2] at tE
   ·refine IfExp_ ?_
    k_steps
    exact ⟨_, _, _, rfl, rfl, by assumption, by assumption, fun h m F N => (tE h m F N).imp fun _ x => ⟨trivial, x.2⟩⟩
   ·obtain ⟨aV, tkV, vV, hrV, itV, okV, tyV⟩ := (tE _ _ ‹_› ‹_›).refI
    obtain rfl := Value.ref.inj hrV
    obtain ⟨wV, rfl⟩ := tyV.isRef
    have eV : TupE _ _ _ _ _ := okV.2.ever ‹_› ‹_› itV
    have uE := tyV.everH ‹_› ‹_›
    rename_i u4_0 u4_1 u4_2 u4_3 u4_4 u4_5 u4_6 u4_7 u4_8 u4_9 u4_10 u4_11 u4_12 u4_13 u4_14 u4_15 u4_16 u4_17
    revert st9 u4_14 it9 u4_16 u4_17 ty9 rT tE hv2 hrV okV tyV itV eV uE
    revert tk ay9 b0 tkV wV
    refine no_implicit_lambda% (clZ cZ.N.N.B.N.N ?_)
    refine gZ5 ?_
    intro zc4 tk ay9 b0 tkV wV
    clear_value tk ay9 b0 tkV wV
    intros st9 u4_14 it9 u4_16 u4_17 ty9 rT tE hv2 hrV okV tyV itV eV uE
    refine IfExp_ ?_
    k_steps
    exact ⟨_, _, _, rfl, rfl, by assumption, by assumption, fun h m F N => (uE h m F N).imp fun _ x => ⟨trivial, x.2⟩⟩
  refine clZ cZ.N.N.H ?_; refine gZ3 ?_; intro zc h9 k9 aT9; clear_value h9 k9 aT9; clear zc; intro F9 N9 tT9
  rename_i u5_0 u5_1 u5_2 u5_3 u5_4 u5_5 u5_6 u5_7 u5_8 u5_9 u5_10 u5_11 u5_12 u5_13 u5_14 u5_15 u5_16 u5_17 u5_18 u5_19
  revert st9 u5_16 it9 u5_18 u5_19 ty9 rT tE
  revert tk ay9
  refine no_implicit_lambda% (clZ cZ.N.N ?_)
  refine gZ2 ?_
  intro zc5 tk ay9
  clear_value tk ay9
  intros st9 u5_16 it9 u5_18 u5_19 ty9 rT tE
  k_steps
  k_extra "q1"
  k_extra "u0"
  rename News h₀ L _ (_ :: _) => NE
  refine ret _ _ _ _ _ ea9 (Fr.keep FZ) ‹_› (news_one (ow := ow) NE (by repeat (first | exact hmo | refine List.Mem.tail _ ?_))) ⟨d9, t9, w9, hs9, .inl ⟨r0, i0, ho9, rfl, ⟨_, _, _, _, _, _, _, _, News.isTup NZ (by k_mem), TyE.now oE FZ (by k_extra "b0"), .impl (TupE.now fE FZ (by k_extra "b0")) (TupE.now eE FZ (by k_extra "b0")), News.isTup NZ (by k_mem), ExE.now rE FZ (by k_extra "b0")⟩⟩⟩
 ·skip
  rename_i u6_0 u6_1 u6_2 u6_3 u6_4 u6_5 u6_6 u6_7 u6_8 u6_9 u6_10 u6_11 u6_12 u6_13 u6_14 u6_15 u6_16 u6_17 u6_18 u6_19 u6_20 u6_21 u6_22
  revert hpu0 hk9 hu9 hany9 tx9 xa9 ao9 hsT Ix0 hpar0 hmd0 Ig0 hpl0 hpe0 hbe0 hins0 ts0 ta0 tvo0 hdt tr hTA vE aT
  revert k0 u0 vx0 v1 v2 v3 sx0 par mdd df sg0 srg spl sow sins svo ss0 sa0 sq1 sq2 skt spe sbe sts sta
  refine no_implicit_lambda% (clZ cZ.N.N.N.N.N.N.N.V.V.V.N.N.N.N.N.N.N.N.N.N.N.N.V.T.Kd ?_)
  refine fZ8 ?_
  intro zc6_0 k0 u0 vx0 v1 v2 v3 sx0 par
  clear_value k0 u0 vx0 v1 v2 v3 sx0 par
  refine fZ8 ?_
  intro zc6_1 mdd df sg0 srg spl sow sins svo
  clear_value mdd df sg0 srg spl sow sins svo
  refine fZ8 ?_
  intro zc6_2 ss0 sa0 sq1 sq2 skt spe sbe sts
  clear_value ss0 sa0 sq1 sq2 skt spe sbe sts
  refine gZ1 ?_
  intro zc6 sta
  clear_value sta
  intros hpu0 hk9 hu9 hany9 tx9 xa9 ao9 hsT Ix0 hpar0 hmd0 Ig0 hpl0 hpe0 hbe0 hins0 ts0 ta0 tvo0 hdt tr hTA vE aT
  k_steps
  refine ifT (ok := fun _ => True) (u := u0) ‹_› ‹_› ?_ ?_
  ·rcases kind_val k0 u0 with ⟨hv, hv2⟩ | ⟨hv, b0, hv2⟩
   all_goals rw [hv2] at tE
   ·refine IfExp_ ?_
    k_steps
    exact ⟨_, _, _, rfl, rfl, by assumption, by assumption, fun h m F N => (tE h m F N).imp fun _ x => ⟨trivial, x.2⟩⟩
   ·obtain ⟨aV, tkV, vV, hrV, itV, okV, tyV⟩ := (tE _ _ ‹_› ‹_›).refI
    obtain rfl := Value.ref.inj hrV
    obtain ⟨wV, rfl⟩ := tyV.isRef
    have eV : TupE _ _ _ _ _ := okV.2.ever ‹_› ‹_› itV
    have uE := tyV.everH ‹_› ‹_›
    rename_i u7_0 u7_1 u7_2 u7_3 u7_4 u7_5 u7_6 u7_7 u7_8 u7_9 u7_10 u7_11 u7_12 u7_13 u7_14 u7_15 u7_16 u7_17
    revert st9 u7_14 it9 u7_16 u7_17 ty9 rT tE hv2 hrV okV tyV itV eV uE
    revert tk ay9 b0 tkV wV
    refine no_implicit_lambda% (clZ cZ.N.N.B.N.N ?_)
    refine gZ5 ?_
    intro zc7 tk ay9 b0 tkV wV
    clear_value tk ay9 b0 tkV wV
    intros st9 u7_14 it9 u7_16 u7_17 ty9 rT tE hv2 hrV okV tyV itV eV uE
    refine IfExp_ ?_
    k_steps
    exact ⟨_, _, _, rfl, rfl, by assumption, by assumption, fun h m F N => (uE h m F N).imp fun _ x => ⟨trivial, x.2⟩⟩
  refine clZ cZ.N.N.H ?_; refine gZ3 ?_; intro zc h9 k9 aT9; clear_value h9 k9 aT9; clear zc; intro F9 N9 tT9
  rename_i u8_0 u8_1 u8_2 u8_3 u8_4 u8_5 u8_6 u8_7 u8_8 u8_9 u8_10 u8_11 u8_12 u8_13 u8_14 u8_15 u8_16 u8_17 u8_18 u8_19
  revert st9 u8_16 it9 u8_18 u8_19 ty9 rT tE
  revert tk ay9
  refine no_implicit_lambda% (clZ cZ.N.N ?_)
  refine gZ2 ?_
  intro zc8 tk ay9
  clear_value tk ay9
  intros st9 u8_16 it9 u8_18 u8_19 ty9 rT tE
  k_steps
  k_extra "q1"
  k_extra "u0"
  rename News h₀ L _ (_ :: _) => NE
  refine ret _ _ _ _ _ ea9 (Fr.keep FZ) ‹_› (news_one (ow := ow) NE (by repeat (first | exact hmo | refine List.Mem.tail _ ?_))) ⟨d9, t9, w9, hs9, .inr ⟨k0, u0, xo9, _, _, _, _, _, ho9, hk9, hu9, hany9, rfl, TupE.now xE FZ (by k_extra "b0"), TupE.now eE FZ (by k_extra "b0"), TyE.now wE FZ (by k_extra "b0"), ⟨_, _, _, _, _, _, _, _, News.isTup NZ (by k_mem), TyE.now oE FZ (by k_extra "b0"), .trait (TupE.now fE FZ (by k_extra "b0")) (TyE.now wE FZ (by k_extra "b0")) (TupE.now eE FZ (by k_extra "b0")), News.isTup NZ (by k_mem), ExE.now rE FZ (by k_extra "b0")⟩⟩⟩
 ·k_steps
  refine ⟨_, _, _, rfl, Fr.keep ‹_›, x9, ?_⟩
  refine fly_new B' ‹_› rfl rfl st9 x9 fun h9 R9 U9 => ?_
  exact retE _ _ _ _ (.inr (.inl ⟨rfl, hs9⟩)) R9 U9)) ?y := by k_extra "cv"
 k_extra "zz"
section
variable {prog : Program} {w : World} {A : Around} {E : Value → Shared → Prop} {s : Shared} {g : Heap} {env : Env}
inductive TSrc1 (prog : Program) (w : World) (A : Around) (g : Heap) (env : Env) (target : PySem.Expr) (body : List Stmt) (Q : Flow → Shared → Prop) (E : Value → Shared → Prop) (xv : Value) (s₁ : Shared) : Prop
 | mk : ∀ (l c : Addr) (m : Str → Option Value) (news : List (Addr × Obj)), (xv = .ref l) → (A.handled = none) → (Fr g env.locals s₁.heap m) → (News g env.locals s₁.heap news) → (g.IsList l [Value.ref c].toArray) → (∀ h tk I oI, Fr g env.locals h m → News g env.locals h ((I, oI) :: news) → (∀ q ∈ news, q.1 ≠ I) → wpAny (model prog w) A (assign target env (.ref c)) (fun _ s₂ => wpAny (model prog w) A (execs body env) (LPost g env.locals I oI (fun m' news' => ∀ h tk, Fr g env.locals h m' → News g env.locals h news' → Q .next { s₁ with heap := h, toks := tk }) s₁ Q) E s₂) E { s₁ with heap := h, toks := tk }) → TSrc1 prog w A g env target body Q E xv s₁
theorem for_oneT {elts : List PySem.Expr} {x1 : Nat} {tp pos : Pos} {iter : PySem.Expr} {body : List Stmt} {Q : Flow → Shared → Prop} {m₁ : Str → Option Value} (_F : Fr g env.locals s.heap m₁)
  (h : wpAny (model prog w) A (eval iter env) (TSrc1 prog w A g env (.Tuple elts x1 tp) body Q E) E s)
  (hs : ∀ x, foldedSetIterable iter env x = pure x := by intro _; rfl)
  (hE : PassesOwn (model prog w) A env E := by passes_own) :
  wpAny (model prog w) A (exec (.For (.Tuple elts x1 tp) iter body [] pos) env) Q E s := by
 k_extra "p0"
 obtain ⟨l, c, m, news, rfl, hh, F, N, hl, K⟩ := h₁
 refine wpAny_pyIter_list (isList_fr hl F) (loop_gen (it := itO l) (n₀ := 1) (J := fun i m' news' => if i = 0 then m' = m ∧ news' = news else ∀ h tk, Fr g env.locals h m' → News g env.locals h news' → Q .next { s₁ with heap := h, toks := tk }) hE F N (Heap.get?_push_size _ rfl) ⟨rfl, rfl⟩ ⟨rfl, rfl⟩ (fun i m' news' h' tk oI hJ F' N' ne' hit hle => ?_) fun m' news' h tk hJ F' N' => hJ h tk F' N')
 have hit' : h'.IsListIter _ l i := ⟨oI, (N' _ (.head _)).1, hit.1, hit.2⟩
 cases i with
 | zero =>
  obtain ⟨rfl, rfl⟩ := hJ
  exact .inr ⟨Nat.one_pos, .ref c, tk, fun P E' k => wpAny_pyNext_list_item hit' (isList_fr hl F') rfl fun h₁ ⟨o₁, ho₁, hc₁, hd₁⟩ hs₁ => k h₁ o₁ ho₁ ⟨hc₁, hd₁⟩ hs₁,
   fun h₁ _ _ _ ho hi k => wpAny_letOwnedTupleGo_listiter (s := { s₁ with heap := h₁, toks := tk }) ⟨_, ho, hi.1, hi.2⟩ k, fun h₁ oI F₁ N₁ ne _ => K h₁ tk _ oI F₁ N₁ ne⟩
 | succ j =>
  cases j with
  | zero => exact .inl ⟨rfl, fun P E' k => wpAny_pyNext_list_end hh hit' (isList_fr hl F') rfl k⟩
  | succ j => exact absurd hle (by k_extra "le")
end
theorem news_cut4 {g h : Heap} {L : Addr} {a b c d : Addr × Obj} {l : List (Addr × Obj)} (N : News g L h (a :: b :: c :: d :: l)) : News g L h [a, b, c, d] := fun p hp => N p (List.mem_append_left l hp)
theorem news_pick4 {g h : Heap} {L : Addr} {a b c d : Addr × Obj} {l : List (Addr × Obj)} (N : News g L h (a :: b :: c :: d :: l)) : News g L h [c, d] := fun p hp => N p (.tail _ (.tail _ (List.mem_append_left l hp)))
example : True := by
 k_with "LPost next" =>
  (refine LPost.intro ‹_› (news_pick4 ‹_›) (List.forall_mem_cons.mpr n9) ?_; refine clZ cZ.N.H ?_; refine gZ2 ?_; intro zc h9 tk9; clear_value h9 tk9; clear zc; intro F9 N9)
 k_with "NilSrc" =>
  (refine ⟨_, _, _, rfl, by assumption, by assumption, by assumption, isList_fr hl0 ‹_›, ?_⟩; refine clZ cZ.H ?_; refine gZ1 ?_; intro zc h'; clear_value h'; clear zc; intro F' N')
 k_with "TSrc1" =>
  (refine ⟨_, _, _, _, rfl, by assumption, by assumption, by assumption, hl1, ?_⟩; refine clZ cZ.O.N.N.H ?_; refine gZ4 ?_; intro zc h9 tk9 I9 o9; clear_value h9 tk9 I9 o9; clear zc; intro F9 N9 n9; (try simp only [List.forall_mem_cons, List.forall_mem_nil, and_true] at n9))
 k_with "call ref cons" =>
  (
   (with_reducible show wpAny _ _ (PySem.call (Value.ref 564) _) _ _ _)
   refine' chk_resolved_w 7 (by k_extra "a0") (t := t) (ok := ok) (by k_extra "le") (inst_fr I ‹_›) (inst_fr I2 ‹_›) (TyAt.fr ht ‹_›) ?_
   k_extra "k0"
   have tE := tyE_of0 F9 ty9
   have sb9 := rest_sub0 ‹_› st9
   have sE := Ev.up (fun p hp => sb9 p (by repeat (first | exact hp | refine List.Mem.tail _ ?_))) sE
   have N9 := news_app (news_cut4 (News.grown ‹_› st9)) (rest_newsF F9)
   simp only [List.cons_append, List.nil_append] at N9)
 k_with "call ref cons" =>
  (
   (with_reducible show wpAny _ _ (PySem.call (Value.ref 161) _) _ _ _)
   refine' sel_new_w (by k_extra "a0") ?_
   refine clZ cZ.N.H.N ?_; refine gZ3 ?_; intro zc x9 h9 k9; clear_value x9 h9 k9; clear zc; intro st9 F9 i9
   have sE := i9.ever ‹_› F9
   have N9 := news_app (News.grown ‹_› st9) (rest_newsF F9)
   simp only [List.cons_append, List.nil_append] at N9)
 k_with "call ref cons" =>
  (
   (with_reducible show wpAny _ _ (PySem.call (Value.ref 158) _) _ _ _)
   refine' asked_w (by k_extra "a0") ?hS ?hW ?hl ?hn ?hr ‹_› ?he ?ht ?hp ?_
   case hS => exact InstE.now ‹_› ‹_› (by k_extra "b0")
   case hW => exact inst_fr ‹_› ‹_›
   case hl => exact isList_fr ‹_› ‹_›
   case hn => assumption
   case hr => exact rowsKeep ‹_› ‹_›
   case he => k_extra "a1"
   case ht => exact TyE.now tE ‹_› (by k_extra "b0")
   case hp => exact Ty.np htp
   k_extra "q0"
   have N9 := News.grown ‹_› st9
   rw [if_pos hany])
 trivial
theorem check_owed0_w (C : Cx w p loose mean mg mb A A₀ base h₀ outer env L m s.heap 5 50) {ck wo bd rd inf lo sc lp ow un : Addr} {md : PySem.Str} {mt lt : Tok}
  (I : Inst s.heap ck 693 (chkF wo mt md bd rd inf lo sc lp ow un lt)) (hl0 : s.heap.IsList ow [].toArray)
  (ret : ∀ h' tk', s.heap.StaysIn h' → Fr h₀ L h' m → Q .none { s with heap := h', toks := tk' }) :
  wpAny (model PR w) A (PySem.call (.ref (307 : Nat)) [.ref ck]) Q E s := by
 refine @disc _ ?y ?e
 case e =>
 haveI h : @Eq (PLift _) (PLift.up (by
 k_fill
 revert C I hl0 ret
 revert ck wo bd rd inf lo sc lp ow un md mt lt
 k_extra "rv"
 refine no_implicit_lambda% (clZ (cPm cZ.N.N.S.N.N.N.N.N.N.N.N.N.N) ?_)
 k_extra "ld"
 refine fZ8 ?_
 k_extra "w0"
 k_extra "x0"
 refine gZ5 ?_
 intro zc0 ow un md mt lt
 clear_value ow un md mt lt
 intros C I hl0 ret
 k_extra "oC"
 k_with "exec For Tuple Attribute cons nil" =>
  (k_here; k_dflt (refine for_nil ‹_› ?_))
 k_extra "e0"
 k_steps
 exact ret _ _ (Fr.keep ‹_›) ‹_›)) ?y := by k_extra "cv"
 k_extra "zz"
theorem check_owed1_w (C : Cx w p loose mean mg mb A A₀ base h₀ outer env L m s.heap 70 500) {ck wo bd rd inf lo sc lp ow un k q xo e0 : Addr} {md : PySem.Str} {mt lt q1 q2 : Tok} {rows : List Row} {tkd : Option Kind} {vt : Value} {t : Ty} {ok : Addr → Prop}
  (hsz : t.size < 7) (htp : t.hasParam = false) (hany : rows.any (isHit t) = true)
  (I : Inst s.heap ck 693 (chkF wo mt md bd rd inf lo sc lp ow un lt)) (I2 : Inst s.heap inf 452 [("known", .ref k), ("is_number", .ref q)]) (W : WAt w s.heap wo rows tkd) (hl1 : s.heap.IsList ow [.ref xo].toArray)
  (hxo : IsTup s.heap xo [st "A" q1, .ref e0, vt, .int 5 q2].toArray) (he0 : IsTup s.heap e0 [].toArray) (ht : TyAt ok s.heap vt t)
  (ret : ∀ h' tk', s.heap.StaysIn h' → Fr h₀ L h' m → Q .none { s with heap := h', toks := tk' }) :
  wpAny (model PR w) A (PySem.call (.ref (307 : Nat)) [.ref ck]) Q E s := by
 refine @disc _ ?y ?e
 case e =>
 haveI h : @Eq (PLift _) (PLift.up (by
 k_fill
 obtain ⟨at1, rfl⟩ := ht.isRef
 obtain ⟨a1, a2, ds, dt, li, a3, a4, xs, kvs, tvs, Iw, hxs, hn, hrw, -, -, -, -, hz⟩ := id W
 revert C hsz htp hany I I2 W hl1 he0 ret hxo ht Iw hxs hn hrw hz
 revert ck wo bd rd inf lo sc lp ow un k q xo e0 md mt lt q1 q2 rows tkd t ok at1 a1 a2 ds dt li a3 a4 xs kvs tvs
 k_extra "rv"
 refine no_implicit_lambda% (clZ (cPm cZ.k.k.L.N.N.N.N.N.N.N.N.P.T.Ko.Rs.N.N.N.N.S.N.N.N.N.N.N.N.N.N.N.N.N.N.N) ?_)
 k_extra "ld"
 refine fZ8 ?_
 k_extra "w0"
 k_extra "x0"
 refine fZ8 ?_
 intro zc0_1 ow un k q xo e0 md mt
 clear_value ow un k q xo e0 md mt
 refine fZ8 ?_
 intro zc0_2 lt q1 q2 rows tkd t ok at1
 clear_value lt q1 q2 rows tkd t ok at1
 refine fZ8 ?_
 intro zc0_3 a1 a2 ds dt li a3 a4 xs
 clear_value a1 a2 ds dt li a3 a4 xs
 refine gZ2 ?_
 intro zc0 kvs tvs
 clear_value kvs tvs
 intros C hsz htp hany I I2 W hl1 he0 ret hxo ht Iw hxs hn hrw hz
 k_extra "oC"
 clear W
 k_with "exec For Tuple Attribute cons nil" =>
  (k_here; k_dflt (refine for_oneT ‹_› ?_))
 k_extra "e0"
 k_steps
 exact ret _ _ (Fr.keep ‹_›) ‹_›)) ?y := by k_extra "cv"
 k_extra "zz"
theorem infer_new_w (CC : Cx w p loose mean mg mb A A₀ base h₀ outer env L m s.heap 6 20)
  (ret : ∀ x k q h' tk', s.heap.StaysIn h' → Fr h₀ L h' m → NewInst s.heap h' x 452 [("known", .ref k), ("is_number", .ref q)] → Q (.ref x) { s with heap := h', toks := tk' }) :
  wpAny (model PR w) A (PySem.call (.ref (452 : Nat)) []) Q E s := by
 refine @disc _ ?y ?e
 case e =>
 haveI h : @Eq (PLift _) (PLift.up (by
 k_fill
 k_extra "o0"
 k_extra "m1"
 k_extra "rv"
 refine no_implicit_lambda% (clZ (cPm cZ) ?_)
 k_extra "ld"
 refine gZ0 ?_
 intros ret B F X T hA hf hke hh hdp hun
 k_extra "g1"
 k_extra "b1"
 k_steps
 rename Fr G' L' _ _ => FX
 k_extra "x1"
 have D := fun k q hf => new_done (fs := [("known", .ref k), ("is_number", .ref q)]) st1 nx1 nd1 eG' FX NX (by k_mem) (by k_mem) hf
 have D := D _ _ ‹_›
 exact ret _ _ _ _ _ D.1 ‹_› D.2)) ?y := by k_extra "cv"
 k_extra "zz"
theorem world_new_w (CC : Cx w p loose mean mg mb A A₀ base h₀ outer env L m s.heap 6 40)
  (ret : ∀ x a1 a2 ds dt li a3 a4 os ot h' tk', s.heap.StaysIn h' → Fr h₀ L h' m → NewInst s.heap h' x 793 (wdF a1 a2 ds dt li a3 a4) → Fresh s.heap h' ds os → os.IsDictOf (KD w) [] → (ds == sysModules) = false → Fresh s.heap h' dt ot → ot.IsDictOf (KD w) [] → (dt == sysModules) = false →
   Fresh s.heap h' li (PySem.W.listOf #[] 0) → dt ≠ ds → Q (.ref x) { s with heap := h', toks := tk' }) :
  wpAny (model PR w) A (PySem.call (.ref (793 : Nat)) []) Q E s := by
 refine @disc _ ?y ?e
 case e =>
 haveI h : @Eq (PLift _) (PLift.up (by
 k_fill
 k_extra "o0"
 k_extra "m1"
 k_extra "rv"
 refine no_implicit_lambda% (clZ (cPm cZ) ?_)
 k_extra "ld"
 refine gZ0 ?_
 intros ret B F X T hA hf hke hh hdp hun
 k_extra "g1"
 k_extra "b1"
 k_steps
 rename Fr G' L' _ _ => FX
 k_extra "x1"
 rename News G' L' _ _ => NG
 have D := fun a1 a2 ds dt li a3 a4 hf => new_done (fs := wdF a1 a2 ds dt li a3 a4) st1 nx1 nd1 eG' FX NX (by k_mem) (by k_mem) hf
 have D := D _ _ _ _ _ _ _ ‹_›
 exact ret _ _ _ _ _ _ _ _ _ _ _ _ D.1 ‹_› D.2 ⟨new_none st1 nx1 nd1 eG' (NG _ (.tail _ (.tail _ (.tail _ (.tail _ (.head _)))))).2.2, (NX _ (.tail _ (.tail _ (.tail _ (.tail _ (.head _)))))).1⟩ ‹_› ‹_› ⟨new_none st1 nx1 nd1 eG' (NG _ (.tail _ (.tail _ (.tail _ (.head _))))).2.2, (NX _ (.tail _ (.tail _ (.tail _ (.head _))))).1⟩ ‹_› ‹_› ⟨new_none st1 nx1 nd1 eG' (NG _ (.tail _ (.tail _ (.head _)))).2.2, (NX _ (.tail _ (.tail _ (.head _)))).1⟩ (by k_ne))) ?y := by k_extra "cv"
 k_extra "zz"
example : True := by
 k_with "call ref nil" =>
  (
   (with_reducible show wpAny _ _ (PySem.call (Value.ref 452) _) _ _ _)
   refine' infer_new_w (by k_extra "a0") ?_
   refine clZ cZ.N.H.N.N.N ?_; refine gZ5 ?_; intro zc x9 kn9 in9 h9 k9; clear_value x9 kn9 in9 h9 k9; clear zc; intro st9 F9 i9
   obtain ⟨d9, es9, n9, x9', y9', hf9⟩ := i9
   k_extra "y1"
   have ne9 : @Ne Nat x9 d9 := freshNe x9' y9' (by simp [instObj, dictOf])
   have ne8 := ne9.symm
   have q9 : Far _ _ := freshApart ‹_› x9'
   have q8 : Far _ _ := freshApart ‹_› y9'
   have N9 := news_fresh ‹_› (news_fresh ‹_› (News.grown ‹_› st9) y9') x9')
 trivial
theorem chk_new_w (CC : Cx w p loose mean mg mb A A₀ base h₀ outer env L m s.heap 12 80) {wo bd rd : Addr} {t : Tok} {md : PySem.Str}
  (ret : ∀ x inf lo sc lp ow un lt k q h' tk', s.heap.StaysIn h' → Fr h₀ L h' m → NewInst s.heap h' x 693 (chkF wo t md bd rd inf lo sc lp ow un lt) → NewInst s.heap h' inf 452 [("known", .ref k), ("is_number", .ref q)] →
   Fresh s.heap h' ow (PySem.W.listOf #[] 0) → Q (.ref x) { s with heap := h', toks := tk' }) :
  wpAny (model PR w) A (PySem.call (.ref (693 : Nat)) [.ref wo, .str md t, .none, .ref bd, .ref rd]) Q E s := by
 refine @disc _ ?y ?e
 case e =>
 haveI h : @Eq (PLift _) (PLift.up (by
 k_fill
 k_extra "o0"
 k_extra "m1"
 revert wo bd rd t md
 k_extra "rv"
 refine no_implicit_lambda% (clZ (cPm cZ.S.N.N.N.N) ?_)
 k_extra "ld"
 refine gZ5 ?_
 intro zc0 wo bd rd t md
 clear_value wo bd rd t md
 intros ret B F X T hA hf hke hh hdp hun
 k_extra "g1"
 k_extra "b1"
 k_steps
 rename Fr G' L' _ _ => FX
 k_extra "x1"
 rename News G' L' _ _ => NG
 have D := fun inf lo sc lp ow un lt hf => new_done (fs := chkF wo t md bd rd inf lo sc lp ow un lt) st1 nx1 nd1 eG' FX NX (by k_mem) (by k_mem) hf
 have D := D _ _ _ _ _ _ _ ‹_›
 exact ret _ _ _ _ _ _ _ _ _ _ _ _ D.1 ‹_› D.2 (new_more st1 nx1 nd1 eG' NG (by k_mem) (by k_mem) hf9) ⟨new_none st1 nx1 nd1 eG' (NG _ (.head _)).2.2, (NX _ (.head _)).1⟩)) ?y := by k_extra "cv"
 k_extra "zz"
section
variable {prog : Program} {w : World} {A : Around} {E : Value → Shared → Prop} {s : Shared} {K : Frag} {L : Addr} {g : Heap} {m mg mb : Str → Option Value} {news : List (Addr × Obj)} {gn : Obj → List (Addr × Obj)} {p : Program} {loose : List Str} {mean : ExcName → Option Value}
theorem set_new {x dx C : Addr} {es : List DictEntry} {n : Nat} {fs : List (String × Value)} {nm : String} {v : Value} {Q : Unit → Shared → Prop} (F : Fr g L s.heap m) (X₀ : K.In g) (N : News g L s.heap news) (hx : (x, instObj C dx) ∈ news) (U : UpdF dx (dictOf es n) news gn) (hf : FieldsAre es fs)
  (hl : lookF fs (PySem.Str.ofString nm) = none) (hz : fs.length ≤ 900) (hs : findIn K (.ref C) "__setattr__" = some (some (.builtin "object.__setattr__"))) (hp : plainOver K C = true) (ht : takerIn K C (PySem.Str.ofString nm) = some none) (hh : hasDictIn K C = true)
  (h : ∀ h' es' n', Fr g L h' m → News g L h' (gn (dictOf es' n')) → FieldsAre es' (fs ++ [(nm, v)]) → Q () { s with heap := h', toks := s.toks + 2 }) :
  wpAny (model prog w) A (setAttr (.ref x) (PySem.Str.ofString nm) v) Q E s := by
 obtain ⟨pre, post, rfl, hgr, a, b⟩ := U.split
 have I : InstAt s.heap x (instObj C dx) C (some (dictOf es n)) := ⟨(N _ hx).1, rfl, rfl, (N _ (List.mem_append_right _ (.head _))).1⟩
 have hlen : es.length = fs.length := by have := congrArg List.length hf; simpa using this
 refine set_plain (X₀.keeps F.keep) I hs (osa_dict (s := { s with toks := s.toks + 1 }) F N (X₀.keeps F.keep) I rfl hp ht hh (by rw [lookIn_dict, hf.get]; rfl) a b (by rw [putName_dict]) rfl (Nat.le_trans putL_len (by k_extra "le")) fun h' F' N' => h h' _ _ F' (by rw [hgr]; exact N') (putL_new hf hl))
def LamSt (h : Heap) (ps : Array Value) : Prop := ps = #[] ∨ ∃ c' : Addr, ps = #[rawInt 740, rawInt 18, .ref c'] ∧ h.CodeRec (.ref c') lamQ
theorem LamSt.keeps {h h' : Heap} {ps : Array Value} (k : h.StaysIn h') (x : LamSt h ps) : LamSt h' ps := x.imp id fun ⟨c', a, b⟩ => ⟨c', a, b.keeps k⟩
theorem lam_eval {ps : Array Value} {cn : PySem.Str} {cs : Scope} {a : Addr} {Q : Value → Shared → Prop} (F : Fr g L s.heap m) (N : News g L s.heap news) (T : Top p loose mean mg mb g) (C : CodeHd g 854 850) (U : UpdF 850 (tabObj ps) news gn) (hst : LamSt g ps)
  (hq : (envOf cn cs L a (.ref 854)).qual ++ "<lambda>" = lamQ) (hcl : closureFor lamSc (envOf cn cs L a (.ref 854)) = pure []) (hd : defaultsOf lamPar (envOf cn cs L a (.ref 854)) = ([], []))
  (h : ∀ f c' pm ctv cx ox h' tk', Fr g L h' m → News g L h' ((f, lamO pm c' ctv) :: (cx, ox) :: gn (tabObj #[rawInt 740, rawInt 18, .ref c'])) → (∀ h₂ : Heap, (∀ b o vs, o.data = .fields vs → g.get? b = some o → h₂.get? b = some o) → h₂.get? cx = some ox → h₂.CodeRec (.ref c') lamQ) → (∀ es n, ox.data ≠ .dict es n) → (∀ q ∈ news, q.1 < cx) → (∀ q ∈ news, q.1 < f) → Q (.ref f) { s with heap := h', toks := tk' }) :
  wpAny (model prog w) A (eval (.Lambda lamPar lamBody lamSc (lamPos 18 740 55)) (envOf cn cs L a (.ref 854))) Q E s := by
 refine kla_eval hd ?_
 rw [hq]
 rcases hst with rfl | ⟨c', rfl, hcr⟩
 ·refine kla_nest (cl := []) F N T C rfl U True.intro rfl hcl fun f c' oc vs t ctv h' tk F' N' hd hv lt1 lt2 => ?_
  refine h f c' ((mg "__name__").getD .none) ctv c' oc h' tk F' N' (fun h₂ _ e => ⟨c', oc, vs, t, rfl, e, hd, hv⟩) (fun es n q => by rw [q] at hd; cases hd) lt1 fun q hq => Nat.lt_trans (lt1 q hq) lt2
 ·obtain ⟨own, rest, rfl, hgr, h1, h2⟩ := U.split
  refine kla_hit (cl := []) (c' := c') F N T C rfl (List.mem_append_right _ (.head _)) (by simp [TriplesOk, rawInt]) (by simp [codeAmong, rawInt]) hcl fun f ctv h' tk F' N' lt => ?_
  refine h f c' ((mg "__name__").getD .none) ctv f (lamO ((mg "__name__").getD .none) c' ctv) h' tk F' (fun q hq => ?_) (fun h₂ k _ => let ⟨c₀, oc, vs, t, e, ho, hd, hv⟩ := hcr; ⟨c₀, oc, vs, t, e, k _ _ _ hd ho, hd, hv⟩) (fun es n q => nomatch q) lt lt
  rw [hgr] at hq
  k_extra "j0"
  ·exact N' _ (.head _)
  ·exact N' q hq
end
section
variable {prog : Program} {w : World} {A₀ A : Around} {E : Value → Shared → Prop} {s : Shared} {K : Frag} {L : Addr} {h₀ base : Heap} {m mg mb : Str → Option Value} {news : List (Addr × Obj)} {p : Program} {loose : List Str} {mean : ExcName → Option Value} {Q : Value → Shared → Prop}
theorem enterMS {env : Env} {name qual : Str} {params : Arguments} {body : List Stmt} {scope : Scope} {dV kV doc pm cdv ct oc : Value} {an od : Option Addr} {osl : Array (Option Value)} {f : Addr} {args : Args} {binds : List (Str × Value)} {R : Result → Shared → Prop}
  (B : Below A₀ base [] h₀) (F : Fr h₀ L s.heap m) (N : News h₀ L s.heap news) (X₀ : K.In h₀) (T : Top p loose mean mg mb h₀) (hA : A.frames = some [env]) (hf : env.frame = some L) (hke : env.scope.kind = .function)
  (ho : K.lookup f = some ⟨oc, od, .func (fnOf name qual params body scope dV kV doc pm an cdv ct), osl⟩) (hcd : codeIn K cdv qual = true) (hroom : A.depth < recursionLimit)
  (hbind : BindsTo s (fnOf name qual params body scope dV kV doc pm an cdv ct) args binds) (hloc : ∀ y ∈ binds, scope.names.lookup y.1 = some .local)
  (h : ∀ G L' h₁, G = hideAll s.heap (news.map (·.1)) → Fr G L' h₁ (fun y => binds.reverse.lookup y) → News G L' h₁ news → Below A base [env] G → K.In G → Top p loose mean mg mb G → KtsDicts ([env].filterMap (·.frame)) G →
   wpAny (model prog w) (A.deeper (envOf qual scope L' f cdv)) (execs body (envOf qual scope L' f cdv))
    (fun fl s' => LeaveS0 ([env].filterMap (·.frame)) h₀ L m G R (match fl with | .ret v => v | _ => .none) s')
    (fun e s' => wpAny (model prog w) (A.deeper (envOf qual scope L' f cdv)) (leaving (envOf qual scope L' f cdv) e) (fun _ s'' => R (.error e) s'') (fun e' s'' => R (.error e') s'') s')
    { s with heap := h₁, toks := s.toks + binds.length })
  (hco : scope.isCoroutine = false) (hgen : scope.isGenerator = false) (hk : scope.kind = .function)
  (hcell : ∀ x ∈ scope.names, x.2 ≠ .cell) : codeAny (model prog w) A (.call (.ref f) args) R s := by
 obtain ⟨FG, BG, st, -⟩ := groundX (R := R) B F N hA hf hke
 refine codeAny_call_def (fd := fnOf name qual params body scope dV kV doc pm an cdv ct) (body := body) (binds := binds) hroom ((X₀.keeps F.keep) _ _ ho) rfl (T.nolimit.keeps F.keep) (codeRec_of (X₀.keeps F.keep) hcd) rfl hbind hcell hloc (fun h₁ hns hk₁ => ?_) hco hgen hk
 obtain ⟨oL, es, ep, hLg, hLd, hLk, hLf⟩ := FG.ns
 have hfs : ∀ b, b ∈ [env].filterMap (·.frame) → b = L := fun b hb => by
  rw [List.filterMap_cons, hf] at hb
  simpa using hb
 refine wpAny_mono (h _ s.heap.objs.size h₁ rfl ⟨hns, fun b o e => hk₁ b o (of_hideAll _ e), by rw [hideAll_size]; exact Nat.le_refl _⟩ (fun q hq => ⟨hk₁ _ _ (N q hq).1, Nat.ne_of_lt (Heap.lt_size (N q hq).1), hideAll_none _ (List.mem_map.mpr ⟨q, hq, rfl⟩)⟩) BG (X₀.keeps st) (T.keeps st)
  (fun b hb => ⟨oL, es, ep, by rw [hfs b hb]; exact hLg, hLd⟩)) (fun fl s' hl => ?_) fun _ _ y => y
 obtain ⟨g', L', m', news', T', F', N', k⟩ := hl
 have nL₀ : h₀.get? L = none := kts_self F
 obtain ⟨sl, hs⟩ := T'.up hLg
 refine k ⟨⟨_, es, ep, F'.keep _ _ hs, hLd, hLk, hLf⟩, fun b o e => F'.keep b o (T'.other b o (st b o e) (fun q => by
  rw [hfs b q, nL₀] at e; cases e)), F.above⟩ fun p hp => ⟨(N' p hp).1, fun q => ?_, ?_⟩
 ·have := (N' p hp).2.2; rw [q, hs] at this; cases this
 ·cases q : h₀.get? p.1 with
  | none => rfl
  | some o =>
   obtain ⟨sl', hs'⟩ := T'.up (st _ _ q)
   have := (N' p hp).2.2
   rw [hs'] at this
   cases this
end
section
variable {ok : Addr → Prop} {g h h' : Heap} {L ow : Addr} {m : Str → Option Value} {l : List (Addr × Obj)} {P : Heap → Prop}
theorem CallAt.move {r am : Addr} {out : Ty} {fn : FnX} {rc : Ex} (k : ∀ a items, IsTup h a items → IsTup h' a items) (x : CallAt h r out fn rc am) : CallAt h' r out fn rc am := by
 obtain ⟨t1, t2, vo, rv, fa, tu, ok1, ok2, a, b, c, d, e⟩ := x
 refine ⟨t1, t2, vo, rv, fa, tu, ok1, ok2, k _ _ a, b.move fun _ _ a b => ⟨k _ _ a, b⟩, ?_, k _ _ d, e.move fun _ _ a b => ⟨k _ _ a, b⟩⟩
 cases c with
 | impl a b => exact .impl (k _ _ a) (k _ _ b)
 | trait a b c => exact .trait (k _ _ a) (b.move fun _ _ a b => ⟨k _ _ a, b⟩) (k _ _ c)
theorem CmRes.move {rows : List Row} {tkd : Option Kind} {t : Ty} {am r : Addr} {ol : Array Value} (k : ∀ a items, IsTup h a items → IsTup h' a items) (x : CmRes rows tkd t am h r ol) : CmRes rows tkd t am h' r ol := by
 refine @disc _ ?y ?e
 case e =>
 haveI h : @Eq (PLift _) (PLift.up (by
 obtain ⟨d, t', w, e, x⟩ := x
 revert k e x
 revert h h' rows tkd t am r ol d t' w
 refine no_implicit_lambda% (clZ cZ.b.T.N.y.N.N.T.Ko.Rs.H.H ?_)
 refine fZ8 ?_
 intro zc0_0 h h' rows tkd t am r ol
 clear_value h h' rows tkd t am r ol
 refine gZ3 ?_
 intro zc0 d t' w
 clear_value d t' w
 intros k e x
 refine ⟨d, t', w, e, ?_⟩
 rcases x with ⟨r0, i, a, b, c⟩ | ⟨k', u, xo, vt, ty, q1, q2, ok, a1, a2, a3, a4, a5, a6, a7, a8, a9⟩
 ·exact .inl ⟨r0, i, a, b, c.move k⟩
 ·exact .inr ⟨k', u, xo, vt, ty, q1, q2, ok, a1, a2, a3, a4, a5, k _ _ a6, k _ _ a7, a8.move fun _ _ a b => ⟨k _ _ a, b⟩, a9.move k⟩)) ?y := by k_extra "cv"
 k_extra "zz"
theorem tup_stay (F : Fr g L h m) {h₂ : Heap} {m₂ : Str → Option Value} (F₂ : Fr g L h₂ m₂) (N₂ : News g L h₂ (restH g L [] h)) : ∀ a items, IsTup h a items → IsTup h₂ a items := fun _ _ it => ev_tup0 F it _ _ F₂ N₂
theorem inst_ever {x C : Addr} {fs : List (String × Value)} {its : Array Value} {n : Nat} (F : Fr g L h m) (I : Inst h x C fs) (ho : h.get? ow = some (PySem.W.listOf its n)) (hxL : ∀ dx, h.get? x = some (instObj C dx) → x ≠ L ∧ dx ≠ L) : InstE g L (restH g L [ow] h) x C fs := by
 intro h₂ m₂ F₂ N₂
 obtain ⟨dx, es, n', a, b, c⟩ := I
 obtain ⟨n1, n2⟩ := hxL dx a
 refine ⟨dx, es, n', ev_obj F a n1 (fun hm => ?_) F₂ N₂, ev_obj F b n2 (fun hm => ?_) F₂ N₂, c⟩
 ·rw [List.mem_singleton.mp hm, ho] at a; cases a
 ·rw [List.mem_singleton.mp hm, ho] at b; simp [dictOf, PySem.W.listOf] at b
theorem rest_hide (N : News g L h (restH g L [ow] h')) : News g L (hideAll h [ow]) (restH g L [ow] h') := fun p hp =>
 ⟨hideAll_get _ (N p hp).1 fun hm => (mem_restH.mp hp).2.2.2 hm, (N p hp).2⟩
end
def ToldIs (rows : List Row) (tkd : Option Kind) (t a : Ty) (am : Addr) (h : Heap) (v : Value) : Prop :=
 (∃ tk d t' w, v = st "trait" tk ∧ seekL (hasAt rows tkd) t.chain 0 = some (d, t', w) ∧ 1 < (ownHits (recv w t') rows).length) ∨
 (∃ tk, v = st "type" tk ∧ (seekL (hasAt rows tkd) t.chain 0 = none ∨ a = .bool ∧ ∃ d t' w, seekL (hasAt rows tkd) t.chain 0 = some (d, t', w) ∧ ¬ 1 < (ownHits (recv w t') rows).length)) ∨
 ∃ r ol, v = .ref r ∧ a = .u8 ∧ CmRes rows tkd t am h r ol
theorem newInst_offL {g hc h : Heap} {x C L : Addr} {fs : List (String × Value)} {m : Str → Option Value} (i : NewInst hc h x C fs) (F : Fr g L hc m) : ∀ dx, h.get? x = some (instObj C dx) → x ≠ L ∧ dx ≠ L := fun dx e => by
 obtain ⟨d, es, n, a, b, _⟩ := i
 obtain ⟨oL, hoL⟩ := frHas F
 have : d = dx := by have := a.at_.symm.trans e; simpa [instObj] using this
 subst this
 exact ⟨fun q => by (rw [← q, a.new] at hoL; cases hoL), fun q => by (rw [← q, b.new] at hoL; cases hoL)⟩
theorem rd_ever {g h : Heap} {L ow rd dr fl cx c' : Addr} {ox : Obj} {es : List DictEntry} {n : Nat} {fs : List (String × Value)} {pm ctv : Value} {m : Str → Option Value} (F : Fr g L h m) (hr : h.get? rd = some (instObj 793 dr)) (hd : h.get? dr = some (dictOf es n)) (hf : FieldsAre es fs)
  (hl : lookF fs (PySem.Str.ofString "read") = some (.ref fl)) (hfl : h.get? fl = some (lamO pm c' ctv)) (hcx : h.get? cx = some ox) (cr : ∀ h₂ : Heap, (∀ b o vs, o.data = .fields vs → g.get? b = some o → h₂.get? b = some o) → h₂.get? cx = some ox → h₂.CodeRec (.ref c') lamQ)
  (nL : rd ≠ L ∧ dr ≠ L ∧ fl ≠ L ∧ cx ≠ L) (nO : rd ≠ ow ∧ dr ≠ ow ∧ fl ≠ ow ∧ cx ≠ ow) : Ev g L (restH g L [ow] h) (fun h => RdAt h rd) := fun h₂ m₂ F₂ N₂ => by
 have mm : ∀ {b : Addr}, b ≠ ow → b ∉ [ow] := fun hb hm => hb (List.mem_singleton.mp hm)
 exact ⟨fs, fl, c', pm, ctv, ⟨dr, es, n, ev_obj F hr nL.1 (mm nO.1) F₂ N₂, ev_obj F hd nL.2.1 (mm nO.2.1) F₂ N₂, hf⟩, hl, ev_obj F hfl nL.2.2.1 (mm nO.2.2.1) F₂ N₂, cr h₂ (fun b o _ _ e => F₂.keep b o e) (ev_obj F hcx nL.2.2.2 (mm nO.2.2.2) F₂ N₂)⟩
theorem flies_news {base G h : Heap} {l : List Env} {e C : Addr} (R : Flies base G l e C h) (mu : List (Addr × Obj)) (hm : ∀ q ∈ mu, G.get? q.1 = some q.2 ∧ q.1 ∉ l.filterMap (·.frame) ∧ base.get? q.1 = none) : RaisedSN base (hideAll G (mu.map (·.1))) l e (.ref C) mu h := by
 obtain ⟨B, a0, hB, hBG, -, hfl⟩ := R
 exact ⟨B, a0, hB, fun b o q n => hBG b o (of_hideAll _ q) n, fun q hq => ⟨hBG _ _ (hm q hq).1 (hm q hq).2.1, hideAll_none _ (List.mem_map_of_mem hq), (hm q hq).2.2⟩, hfl⟩
theorem news_two {g h : Heap} {L a b : Addr} {oa ob : Obj} {l : List (Addr × Obj)} (N : News g L h l) (ha : (a, oa) ∈ l) (hb : (b, ob) ∈ l) : News g L h [(a, oa), (b, ob)] := fun p hp => by
 k_extra "v0"
 ·exact N _ ha
 ·rw [List.mem_singleton.mp hp]; exact N _ hb
theorem told_rd {g h h9 : Heap} {L ow rd dr fl cx c' : Addr} {ox : Obj} {es : List DictEntry} {n k : Nat} {fs : List (String × Value)} {pm ctv : Value} {m : Str → Option Value} {l : List (Addr × Obj)} (N : News g L h l) (m1 : (rd, instObj 793 dr) ∈ l) (m2 : (dr, dictOf es n) ∈ l) (m3 : (fl, lamO pm c' ctv) ∈ l) (m4 : (cx, ox) ∈ l) (hf : FieldsAre es fs)
  (hl : lookF fs (PySem.Str.ofString "read") = some (.ref fl)) (cr : ∀ h₂ : Heap, (∀ b o vs, o.data = .fields vs → g.get? b = some o → h₂.get? b = some o) → h₂.get? cx = some ox → h₂.CodeRec (.ref c') lamQ) (st : h.StaysIn h9) (F9 : Fr g L h9 m) (fo : Fresh h h9 ow (PySem.W.listOf #[] k)) : Ev g L (restH g L [ow] h9) (fun h => RdAt h rd) := by
 have ne : ∀ {b : Addr} {o : Obj}, (b, o) ∈ l → b ≠ ow := fun hm q => by have := (N _ hm).1; dsimp only at this; rw [q, fo.new] at this; cases this
 exact rd_ever F9 (st _ _ (N _ m1).1) (st _ _ (N _ m2).1) hf hl (st _ _ (N _ m3).1) (st _ _ (N _ m4).1) cr ⟨(N _ m1).2.1, (N _ m2).2.1, (N _ m3).2.1, (N _ m4).2.1⟩ ⟨ne m1, ne m2, ne m3, ne m4⟩
example : True := by
  k_with "e3" =>
    (refine wpAny_call ?_; k_dflt (refine' enterMS ?k1 ?k2 ?kN ?k3 ?k5 ?kA ?kF ?kK ?k6 ?k7 ?k8 ?k9 ?kB ?_ ?c2 ?c3 ?c4 ?c5; (case kA => assumption); (case kF => assumption); (case kK => assumption); (case k1 => k_asm); (case k2 => k_asm); (case kN => k_asm); (case k3 => k_asm); (case k5 => k_asm); (case k6 => k_is); (case k7 => k_is); (case k8 => k_extra "g0"); (case k9 => exact BindsTo.of_eq rfl); (case c5 => decide); (case kB => exact locs rfl); (case c2 => exact rfl); (case c3 => exact rfl); (case c4 => exact rfl); k_whole; refine clZ cZ.H.N.H ?_; refine gZ3 ?_; intro zc G' L' h'; clear_value G' L' h'; clear zc; intro eG' F' N' B' X' T' D'; (try dsimp only)); (try k_fold))
  k_with "call ref nil" =>
    (
      (with_reducible show wpAny _ _ (PySem.call (Value.ref 793) _) _ _ _)
      refine' world_new_w (by k_extra "a0") ?_
      refine clZ cZ.N.H.O.O.N.N.N.N.N.N.N.N ?_; refine fZ8 ?_; intro zc_0 rd9 a19 a29 ds9 dt9 li9 a39 a49; clear_value rd9 a19 a29 ds9 dt9 li9 a39 a49; refine gZ4 ?_; intro zc os9 ot9 h9 k9; clear_value os9 ot9 h9 k9; intro st9 F9 i9 f19 d19 z19 f29 d29 z29 f39 ne19
      obtain ⟨dr9, esr9, nr9, xr9, yr9, hfr9⟩ := i9
      k_extra "z0"
      have ne9 : @Ne Nat rd9 dr9 := freshNe xr9 yr9 (by simp [instObj, dictOf])
      have ne8 := ne9.symm
      have q9 : Far _ _ := freshApart ‹_› xr9
      have q8 : Far _ _ := freshApart ‹_› yr9
      have q7 : @Ne Nat _ _ := (q9 _ (.head _)).symm
      have q6 : @Ne Nat _ _ := (q8 _ (.head _)).symm
      have N9 := news_fresh ‹_› (news_fresh ‹_› (News.grown ‹_› st9) yr9) xr9)
  k_with "setAttr ref ref" =>
    ((with_reducible show wpAny _ _ (setAttr _ (PySem.Str.ofString "read") _) _ _ _); k_dflt (refine' set_new (nm := "read") ?F ?X ?N ?hx ?U hfr9 ?hl ?hz ?hs ?hp ?ht ?hh ?_; (case F => assumption); (case X => assumption); (case N => assumption); (case hx => k_mem); (case U => exact .tail (Nat.ne_of_gt l9.2.1) (.tail (Nat.ne_of_gt l8.2.1) (.tail ne9 (.head (List.forall_mem_cons.mpr ⟨q8 (850, tabObj ps) (.head _), fun _ h => nomatch h⟩))))); (case hl => rfl); (case hz => exact Nat.le_of_ble_eq_true rfl); (case hs => k_is); (case hp => k_is); (case ht => k_is); (case hh => k_is)); refine clZ cZ.N.d.H ?_; refine gZ3 ?_; intro zc h9 es9 n9; clear_value h9 es9 n9; clear zc; intro F9 N9 hfr9; (try dsimp only at N9))
  k_with "call ref cons" =>
    (
      (with_reducible show wpAny _ _ (PySem.call (Value.ref 693) _) _ _ _)
      refine' chk_new_w (by k_extra "a0") ?_
      refine clZ cZ.N.H.N.N.N.N.N.N.N.N.N.N ?_; refine fZ8 ?_; intro zc_0 ck9 inf9 lo9 sc9 lp9 ow9 un9 lt9; clear_value ck9 inf9 lo9 sc9 lp9 ow9 un9 lt9; refine gZ4 ?_; intro zc kn9 in9 h9 k9; clear_value kn9 in9 h9 k9; intro st9 F9 ic9 ii9 fo9
      have N8 := News.grown ‹_› st9
      have rdE := told_rd (rd := rd9) (fl := fl9) (cx := cx9) ‹_› (by k_mem) (by k_mem) (by k_mem) (by k_mem) hfr9 rfl cr9 st9 F9 fo9
      have ckE := inst_ever F9 ic9.inst fo9.at_ (newInst_offL ic9 ‹_›)
      have inE := inst_ever F9 ii9.inst fo9.at_ (newInst_offL ii9 ‹_›)
      have N7 := news_two (a := 850) (b := cx9) N8 (by k_mem) (by k_mem)
      have qa9 : Far _ _ := freshApart ‹_› fo9
      have N9 := news_app (news_fresh ‹_› N7 fo9) (rest_news (mu := [ow9]) (g := G0) (L := L') (h := h9))
      simp only [List.cons_append, List.nil_append] at N9)
  k_with "call ref cons" =>
    (
      (with_reducible show wpAny _ _ (PySem.call (Value.ref 374) _) _ _ _)
      k_extra "u0"
      k_extra "q1"
      have NM := news_one (ow := ow9) (o := PySem.W.listOf #[] 0) NZ (by k_mem)
      have hGo : G0.get? ow9 = none := (NM _ (.head _)).2.2
      have FH := Fr.hideC FZ hGo (News.offL NM (.head _))
      have hk := hide_keep FZ hGo
      have ho := (NM _ (.head _)).1
      have n85 : (850 : Nat) ≠ ow9 := qa9 (850, _) (by k_mem)
      have ncx : @Ne Nat cx9 ow9 := qa9 (cx9, _) (by k_mem)
      have g85 := hideAll_get [ow9] (News.at_ (C := 850) (o := tabObj #[rawInt 740, rawInt 18, .ref c9]) NZ (by k_mem)) (fun hm => n85 (List.mem_singleton.mp hm))
      have gcx := hideAll_get [ow9] (News.at_ (C := cx9) (o := ox9) NZ (by k_mem)) (fun hm => ncx (List.mem_singleton.mp hm))
      refine' check_method_w (t := t) (a := a) (rows := rows) (tkd := tkd) (ok := ok) (by k_extra "a0") X T ha hsz hcz htp hro NM (ckE _ _ FH (rest_hide (news_sub NZ (fun p hp => by repeat (first | exact hp | refine List.Mem.tail _ ?_))))) (inE _ _ FH (rest_hide (news_sub NZ (fun p hp => by repeat (first | exact hp | refine List.Mem.tail _ ?_))))) (rdE _ _ FH (rest_hide (news_sub NZ (fun p hp => by repeat (first | exact hp | refine List.Mem.tail _ ?_))))) (W.keeps hk)
        (isTup_hide (News.isTup NZ (by k_mem)) ho) (isTup_hide (News.isTup NZ (by k_mem)) ho) (isTup_hide (News.isTup NZ (by k_mem)) ho) (isTup_hide (News.isTup NZ (by k_mem)) ho) (isTup_hide (News.isTup NZ (by k_mem)) ho)
        (IsTup.keeps ‹_› hk) (ht.keeps hk) (IsTup.keeps ‹_› hk) (hav.keeps hk) ?hE ?_
      case' hE =>
        refine clZ cZ.N.H.N.N ?_; refine gZ4 ?_; intro zc e8 Cl8 h8 k8; clear_value e8 Cl8 h8 k8; clear zc; intro c8 R8 U8
        have c7 := c8.imp id fun x => x.elim (fun y => (⟨y.1, .inl y.2⟩ : Cl8 = 52 ∧ (_ ∨ _))) fun y => ⟨y.1, .inr y.2⟩
        have R7 := flies_news R8 [(850, tabObj #[rawInt 740, rawInt 18, .ref c9]), (cx9, ox9)] (List.forall_mem_cons.mpr ⟨⟨g85, fun hm => frames_ne B' rfl NZ (by k_mem) _ hm rfl, News.bas0 B'.stays NZ (by k_mem)⟩, List.forall_mem_cons.mpr ⟨⟨gcx, fun hm => frames_ne B' rfl NZ (by k_mem) _ hm rfl, News.bas0 B'.stays NZ (by k_mem)⟩, fun _ h => nomatch h⟩⟩)
        have FH2 := Fr.hideL FH [850, cx9] (List.forall_mem_cons.mpr ⟨⟨News.fresh NZ (o := tabObj #[rawInt 740, rawInt 18, .ref c9]) (by k_mem), News.offL NZ (o := tabObj #[rawInt 740, rawInt 18, .ref c9]) (by k_mem)⟩, List.forall_mem_cons.mpr ⟨⟨News.fresh NZ (o := ox9) (by k_mem), News.offL NZ (o := ox9) (by k_mem)⟩, fun _ h => nomatch h⟩⟩)
        refine kts_lookSN R7 FH2 B' (fun b o e hn => U8 b o (of_hideAll _ e) hn) D' fun h7 R6 U6 => ?_
        rcases c7 with ⟨rfl, c7⟩ | ⟨rfl, c7⟩
        all_goals first
          | (refine pass_SN R6 FH2 B' U6 X T D' (test_name (b := false) (c := .ref 52) (by kts_nm) (by kts_exm) rfl rfl (by decide)) fun h5 R5 U5 => ?_
             refine hit_SN0 R5 FH2 B' U5 X T D' .refl (test_name (b := true) (c := .ref 64) (by kts_nm) (by kts_exm) rfl rfl (by decide)) fun h4 g4 T4 F4 N4 B4 X4 P4 D4 => ?_)
          | refine hit_SN0 R6 FH2 B' U6 X T D' .refl (test_name (b := true) (c := .ref 52) (by kts_nm) (by kts_exm) rfl rfl (by decide)) fun h4 g4 T4 F4 N4 B4 X4 P4 D4 => ?_
      rotate_right
      refine clZ cZ.N.H.N.y.N ?_; refine gZ5 ?_; intro zc r9 ol9 n9 h9 k9; clear_value r9 ol9 n9 h9 k9; clear zc; intro ea9 st9 F9 N8 res9
      have sb9 := rest_sub0 (rest_hide (ow := ow9) (news_sub NZ (l := restH G0 L' [ow9] _) (fun p hp => by repeat (first | exact hp | refine List.Mem.tail _ ?_)))) st9
      have ckE := Ev.up sb9 ckE
      have inE := Ev.up sb9 inE
      have owE := ev_list F9 (News.isList N8 (.head _)) List.not_mem_nil
      have cmE : Ev G0 L' (restH G0 L' [] h9) (fun h => CmRes rows tkd t am h r9 ol9) := fun h m F N => res9.move (tup_stay F9 F N)
      have m85 : (850, tabObj #[rawInt 740, rawInt 18, .ref c9]) ∈ restH G0 L' [] h9 := mem_restH.mpr ⟨st9 _ _ g85, News.fresh NZ (o := tabObj #[rawInt 740, rawInt 18, .ref c9]) (by k_mem), News.offL NZ (o := tabObj #[rawInt 740, rawInt 18, .ref c9]) (by k_mem), List.not_mem_nil⟩
      have mcx : (cx9, ox9) ∈ restH G0 L' [] h9 := mem_restH.mpr ⟨st9 _ _ gcx, News.fresh NZ (o := ox9) (by k_mem), News.offL NZ (o := ox9) (by k_mem), List.not_mem_nil⟩
      have N9 := rest_newsF F9
      clear NM FH ho N8)
  k_with "call ref cons" =>
    (
      (with_reducible show wpAny _ _ (PySem.call (Value.ref 307) _) _ _ _)
      refine' check_owed_w (by k_extra "a0") (ckE _ _ ‹_› ‹_›) (inE _ _ ‹_› ‹_›) (WAt.fr ‹_› W) (owE _ _ ‹_› ‹_›) (cmE _ _ ‹_› ‹_›) ?_
      k_extra "i0"
      have sb9 := rest_sub0 ‹_› st9
      have cmE := Ev.up sb9 cmE
      have m85 := sb9 _ m85
      have mcx := sb9 _ mcx
      have N9 := rest_newsF F9)
  k_with "eval Lambda" =>
    (k_dflt (refine' lam_eval ‹_› ‹_› ‹_› hCG ?U hst rfl rfl rfl ?_; (case U => k_updF)); refine clZ cZ.N.H.O.N.V.V.N.N ?_; refine gZ8 ?_; intro zc fl9 c9 pm9 ctv9 cx9 ox9 h9 k9; clear_value fl9 c9 pm9 ctv9 cx9 ox9 h9 k9; clear zc; intro F9 N9 cr9 nd9 l8 l9; (try dsimp only at N9); (try simp only [List.forall_mem_cons, List.forall_mem_nil, and_true] at l8 l9); have nc85 : cx9 ≠ 850 := Nat.ne_of_gt l8.2.2.1)
  trivial
theorem not85 {g : Heap} {b : Addr} {o : Obj} (h : g.get? 850 = none) (e : g.get? b = some o) : b ∉ [(850 : Addr)] := fun hm => by (rw [List.mem_singleton.mp hm, h] at e; cases e)
theorem one_frame {env : Env} {L b : Addr} (hf : env.frame = some L) (q : b ∈ [env].filterMap (·.frame)) : b = L := by
 rw [List.filterMap_cons, hf] at q
 simpa using q
theorem not_frame {g : Heap} {fs : List Addr} {b : Addr} {o : Obj} {vs : Array Value} (D : KtsDicts fs g) (hd : o.data = .fields vs) (e : g.get? b = some o) : b ∉ fs := fun q => by
 obtain ⟨o', es, n, h1, h2⟩ := D b q
 rw [e] at h1; cases h1
 rw [hd] at h2; cases h2
theorem any_pat {h : Heap} {wo : Addr} {rows : List Row} {tkd : Option Kind} {u : Ty} (W : WAt w h wo rows tkd) (ha : rows.any (isHit u) = true) : u.isPat := by
 obtain ⟨a1, a2, ds, dt, li, a3, a4, xs, kvs, tvs, Iw, hxs, hn, hrw, -⟩ := W
 obtain ⟨r, hr, hh⟩ := List.any_eq_true.mp ha
 obtain ⟨i, hi⟩ := List.getElem?_of_mem hr
 have hi' : i < xs.length := by rw [hn]; exact (List.getElem?_eq_some_iff.mp hi).1
 obtain ⟨r', a', im⟩ := hrw i _ (List.getElem?_eq_getElem hi')
 rw [hi] at a'; cases a'
 obtain ⟨_, _, _, _, _, _, _, _, _, _, _, _, _, _, _, _, z⟩ := im
 unfold isHit at hh
 rw [Bool.and_eq_true, decide_eq_true_eq] at hh
 exact hh.2 ▸ z
theorem check_owed_w (C : Cx w p loose mean mg mb A A₀ base h₀ outer env L m s.heap 75 550) {ck wo bd rd inf lo sc lp ow un k q am r : Addr} {md : PySem.Str} {mt lt : Tok} {rows : List Row} {tkd : Option Kind} {t : Ty} {ol : Array Value}
  (I : Inst s.heap ck 693 (chkF wo mt md bd rd inf lo sc lp ow un lt)) (I2 : Inst s.heap inf 452 [("known", .ref k), ("is_number", .ref q)]) (W : WAt w s.heap wo rows tkd) (hl : s.heap.IsList ow ol) (res : CmRes rows tkd t am s.heap r ol)
  (ret : ∀ h' tk', s.heap.StaysIn h' → Fr h₀ L h' m → Q .none { s with heap := h', toks := tk' }) :
  wpAny (model PR w) A (PySem.call (.ref (307 : Nat)) [.ref ck]) Q E s := by
 refine @disc _ ?y ?e
 case e =>
 haveI h : @Eq (PLift _) (PLift.up (by
 obtain ⟨d, t', wd, e, x⟩ := res
 revert C I I2 W hl ret e x
 revert ck wo bd rd inf lo sc lp ow un k q am r md mt lt rows tkd t ol d t' wd
 k_extra "rv"
 refine no_implicit_lambda% (clZ (cPm cZ.b.T.N.y.T.Ko.Rs.N.N.S.N.N.N.N.N.N.N.N.N.N.N.N.N.N) ?_)
 k_extra "ld"
 refine fZ8 ?_
 k_extra "w0"
 k_extra "x0"
 refine fZ8 ?_
 intro zc0_1 ow un k q am r md mt
 clear_value ow un k q am r md mt
 refine gZ8 ?_
 intro zc0 lt rows tkd t ol d t' wd
 clear_value lt rows tkd t ol d t' wd
 intros C I I2 W hl ret e x
 rcases x with ⟨r0, i, a, rfl, c⟩ | ⟨k', u, xo, vt, ty, q1, q2, ok, a1, a2, a3, a4, rfl, a6, a7, a8, a9⟩
 ·exact check_owed0_w (C.less (by k_extra "le") (by k_extra "le")) I hl ret
 ·have hp := any_pat W a4
  exact check_owed1_w (C.less (by k_extra "le") (by k_extra "le")) (by have := (isPat_size hp).1; omega) (isPat_size hp).2 a4 I I2 W hl a6 a7 a8 ret)) ?y := by k_extra "cv"
 k_extra "zz"
theorem told_w (C : Cx w p loose mean mg mb A A₀ h₀ h₀ [] env L m s.heap 150 1000) {wo ea am : Addr} {q4 q5 q6 : Tok} {ps : Array Value} {ok : Addr → Prop} {t a : Ty} {tkd : Option Kind} {rows : List Row} {tv z0 av z2 z3 : Value}
  (ha : a = .u8 ∨ a = .bool) (hsz : t.size < 7) (hcz : t.chain.length ≤ 11) (htp : t.hasParam = false) (hro : ∀ r ∈ rows, r.out.size ≤ 6)
  (N : News h₀ L s.heap [(850, tabObj ps)]) (hC9 : CodeHd h₀ 854 850) (hst : LamSt (hideAll s.heap [850]) ps) (W : WAt w (hideAll s.heap [850]) wo rows tkd)
  (hme : IsTup (hideAll s.heap [850]) ea [st "local" q4, tv, .int 4 q5, .int 1 q6].toArray) (ht : TyAt ok (hideAll s.heap [850]) tv t)
  (ham : IsTup (hideAll s.heap [850]) am [z0, av, z2, z3].toArray) (hav : TyAt (fun _ => True) (hideAll s.heap [850]) av a)
  (ret : ∀ v ps' h' tk', (∀ b o, b ≠ L → (hideAll s.heap [850]).get? b = some o → h'.get? b = some o) → Fr h₀ L h' m → News h₀ L h' [(850, tabObj ps')] → LamSt (hideAll h' [850]) ps' → ToldIs rows tkd t a am h' v → Q v { s with heap := h', toks := tk' }) :
  wpAny (model PR w) A (PySem.call (.ref (855 : Nat)) [.ref wo, .ref ea, .ref am]) Q E s := by
 refine @disc _ ?y ?e
 case e =>
 haveI h : @Eq (PLift _) (PLift.up (by
 k_fill
 obtain ⟨at1, rfl⟩ := ht.isRef
 generalize hG : hideAll s.heap [850] = G0 at *
 revert C ha hsz hcz htp hro N hC9 hG hst W ham hav ret hme ht
 revert w p loose mean mg mb A A₀ h₀ env L m s Q E wo ea am q4 q5 q6 ps ok t a tkd rows z0 av z2 z3 at1 G0
 refine no_implicit_lambda% (clZ cZ.H.N.V.V.V.V.Rs.Ko.T.T.P.y.N.N.N.N.N.N.Q.Q.s.M.N.e.H.A.A.M.M.X.t.R.W ?_)
 refine fZ8 ?_
 intro zc0_0 w p loose mean mg mb A A₀
 clear_value w p loose mean mg mb A A₀
 refine fZ8 ?_
 intro zc0_1 h₀ env L m s Q E wo
 clear_value h₀ env L m s Q E wo
 refine fZ8 ?_
 intro zc0_2 ea am q4 q5 q6 ps ok t
 clear_value ea am q4 q5 q6 ps ok t
 refine fZ8 ?_
 intro zc0_3 a tkd rows z0 av z2 z3 at1
 clear_value a tkd rows z0 av z2 z3 at1
 refine gZ1 ?_
 intro zc0 G0
 clear_value G0
 intros C ha hsz hcz htp hro N hC9 hG hst W ham hav ret hme ht
 k_extra "oC"
 k_extra "e3"
 have eG0 : G0 = G' := by rw [eG', ← hG]; rfl
 subst eG0
 have hCG : CodeHd G0 854 850 := hC9.keeps B'.stays
 have h85 : G0.get? 850 = none := hG ▸ hide_none
 k_steps
 ·rename Fr G0 L' _ _ => FZ
  rename News G0 L' _ _ => NZ
  rename News h₀ L _ _ => NE
  exact ret _ #[rawInt 740, rawInt 18, .ref c9] _ _ (fun b o n e => Fr.keep FZ b o e) ‹_› (news_one NE (by repeat (first | exact m85 | refine List.Mem.tail _ ?_)))
   (.inr ⟨c9, rfl, cr9 _ (fun b o vs hd e => hideAll_get _ (FZ.keep b o e) (not85 h85 e)) (hideAll_get _ (NE _ (by repeat (first | exact mcx | refine List.Mem.tail _ ?_))).1 fun hm => nc85 (List.mem_singleton.mp hm))⟩)
   (.inr (.inr ⟨r9, ol9, rfl, ea9, cmE _ _ FZ NZ⟩))
 all_goals
  rename Fr g4 L' _ _ => FZ
  rename News h₀ L _ _ => NE
  refine ret _ #[rawInt 740, rawInt 18, .ref c9] _ _ (fun b o n e => Fr.keep FZ b o (T4.other b o e fun q => n (one_frame hf q))) ‹_› (news_one NE (.head _))
   (.inr ⟨c9, rfl, cr9 _ (fun b o vs hd e => hideAll_get _ (FZ.keep b o (T4.other b o e (not_frame D' hd e))) (not85 h85 e)) (hideAll_get _ (NE _ (.tail _ (.head _))).1 fun hm => nc85 (List.mem_singleton.mp hm))⟩) ?_
 ·obtain ⟨d, t', wd, c5, c6⟩ := c7
  exact .inl ⟨_, d, t', wd, rfl, c5, c6⟩
 ·exact .inr (.inl ⟨_, rfl, c7⟩))) ?y := by k_extra "cv"
 k_extra "zz"
section
variable {prog : Program} {w : World} {A : Around} {E : Value → Shared → Prop} {s : Shared} {g : Heap} {L : Addr} {news : List (Addr × Obj)} {value slice : PySem.Expr} {l : Addr} {n : Nat} {x y : Value} {t : Tok} {Q : Value → Shared → Prop}
end
example : True := by
 k_with "subscriptTail Name Constant ref int" =>
  (k_here; (with_reducible show wpAny _ _ (subscriptTail _ _ _ (Value.int 0 _)) _ _ _); k_dflt (refine l2_0 ‹_› (by k_mem) ?_))
 k_with "subscriptTail Name Constant ref int" =>
  (k_here; (with_reducible show wpAny _ _ (subscriptTail _ _ _ (Value.int 1 _)) _ _ _); k_dflt (refine l2_1 ‹_› (by k_mem) ?_))
 k_with "binaryOp FloorDiv int int" =>
  (k_here; with_reducible refine floordiv_int ?b ?_ (Or.inl (PyProof.noPylong_small ?p)); (case b => omega); (case p => omega))
 k_with "binaryOp Mod int int" =>
  (k_here; with_reducible refine mod_int' ?b ?_; (case b => omega))
 k_with "binaryOp Mult int int" =>
  (k_here; with_reducible (first | refine mul_int ?_ (IntMulOk.of_right (by decide)) | refine mul_int ?_ (IntMulOk.of_right (fmod_bits _))))
 trivial
theorem fmod_bits (x : Int) : Builtin.Int.intBits (x.fmod 2147483647) ≤ 64 := by
 have h1 : 0 ≤ x.fmod 2147483647 := Int.fmod_nonneg_of_pos x (by decide)
 have h2 : x.fmod 2147483647 < 2147483647 := Int.fmod_lt_of_pos x (by decide)
 exact PySem.intBits_le_64 (by k_extra "le") (by k_extra "le")
theorem takeNat {P G : Int → Prop} {r : Int} (h : 0 ≤ r) (p : P r) (k : ∀ i : Nat, P i → G i) : G r := by
 obtain ⟨i, rfl⟩ := Int.eq_ofNat_of_zero_le h
 exact k i p
theorem take_w (C : Cx w p loose mean mg mb A A₀ base h₀ outer env L m s.heap 5 40) {src : Addr} {a b top : Int} {ta tb tt : Tok} {n : Nat} (N : News h₀ L s.heap [(src, PySem.W.listOf #[.int a ta, .int b tb] n)]) (h0 : 0 < top) (h1 : top < 100)
  (ret : ∀ (r : Nat) a' b' t1 t2 t3 n' h' tk', (r : Int) < top → (hideAll s.heap [src]).StaysIn h' → Fr h₀ L h' m → News h₀ L h' [(src, PySem.W.listOf #[.int a' t1, .int b' t2] n')] → Q (.int (r : Int) t3) { s with heap := h', toks := tk' }) :
  wpAny (model PR w) A (PySem.call (.ref (811 : Nat)) [.ref src, .int top tt]) Q E s := by
 refine @disc _ ?y ?e
 case e =>
 haveI h : @Eq (PLift _) (PLift.up (by
 k_fill
 generalize hG : hideAll s.heap [src] = G0 at *
 revert C N h0 h1 hG ret
 revert src a b top ta tb tt n G0
 k_extra "rv"
 refine no_implicit_lambda% (clZ (cPm cZ.H.N.N.N.N.I.I.I.N) ?_)
 k_extra "ld"
 refine fZ8 ?_
 intro zc0_0 src a b top ta tb tt n
 clear_value src a b top ta tb tt n
 refine gZ1 ?_
 intro zc0 G0
 clear_value G0
 intros C N h0 h1 hG ret
 k_extra "oC"
 k_extra "c1"
 have eG0 : G0 = G' := by rw [eG', ← hG]; rfl
 subst eG0
 k_steps
 all_goals rename News h₀ L _ (_ :: _) => NE
 all_goals exact takeNat (P := fun r => r < top) (G := fun r => Q (.int r _) _) (Int.fmod_nonneg_of_pos _ h0) (Int.fmod_lt_of_pos _ h0) fun r hr => ret r _ _ _ _ _ _ _ _ hr (Fr.keep ‹_›) ‹_› (news_one NE (by k_mem)))) ?y := by k_extra "cv"
 k_extra "zz"
example : True := by
 k_with "call builtin:len cons nil" =>
  (k_here; k_dflt (refine len_L _ (isList_fr hl ‹_›) (by rw [List.size_toArray]) (by k_extra "le") ?_))
 k_with "call ref cons" =>
  (
   (with_reducible show wpAny _ _ (PySem.call (Value.ref 811) _) _ _ _)
   refine' take_w (by k_extra "a0") ‹_› (by k_extra "le") (by k_extra "le") ?_
   k_extra "r0"
   obtain ⟨v9, hv9⟩ : ∃ v, xs[i9]? = some v := ⟨_, List.getElem?_eq_getElem (by k_extra "le")⟩)
 k_with "subscriptTail Name Call ref int" =>
  (k_here; k_dflt (refine lst_i (isList_fr hl ‹_›) hv9 (by k_extra "le") ?_))
 trivial
theorem one_w (C : Cx w p loose mean mg mb A A₀ base h₀ outer env L m s.heap 12 80) {src th : Addr} {a b : Int} {ta tb : Tok} {n : Nat} {xs : List Value} (N : News h₀ L s.heap [(src, PySem.W.listOf #[.int a ta, .int b tb] n)]) (hl : (hideAll s.heap [src]).IsList th xs.toArray) (h0 : 0 < xs.length) (h1 : xs.length < 50)
  (ret : ∀ (i : Nat) v a' b' t1 t2 n' h' tk', xs[i]? = some v → (hideAll s.heap [src]).StaysIn h' → Fr h₀ L h' m → News h₀ L h' [(src, PySem.W.listOf #[.int a' t1, .int b' t2] n')] → Q v { s with heap := h', toks := tk' }) :
  wpAny (model PR w) A (PySem.call (.ref (818 : Nat)) [.ref src, .ref th]) Q E s := by
 refine @disc _ ?y ?e
 case e =>
 haveI h : @Eq (PLift _) (PLift.up (by
 k_fill
 generalize hG : hideAll s.heap [src] = G0 at *
 revert C N h0 h1 hG hl ret
 revert src th a b ta tb n xs G0
 k_extra "rv"
 refine no_implicit_lambda% (clZ (cPm cZ.H.L.N.N.N.I.I.N.N) ?_)
 k_extra "ld"
 refine fZ8 ?_
 intro zc0_0 src th a b ta tb n xs
 clear_value src th a b ta tb n xs
 refine gZ1 ?_
 intro zc0 G0
 clear_value G0
 intros C N h0 h1 hG hl ret
 k_extra "oC"
 k_extra "c1"
 have eG0 : G0 = G' := by rw [eG', ← hG]; rfl
 subst eG0
 k_steps
 rename News h₀ L _ (_ :: _) => NE
 exact ret _ _ _ _ _ _ _ _ _ hv9 (Fr.keep ‹_›) ‹_› (news_one NE (by k_mem)))) ?y := by k_extra "cv"
 k_extra "zz"
theorem u8_at {g : Heap} (X : (hd.heap_1 w.params).In g) : TyAt (fun _ => True) g (.ref (819 : Nat)) .u8 := by
 k_fill
 have h := X 819 _ (by k_is)
 exact .u8 ⟨_, h, rfl, _, rfl⟩ trivial
theorem S_at {g : Heap} (X : (hd.heap_1 w.params).In g) : TyAt (fun _ => True) g (.ref (822 : Nat)) .S := by
 k_fill
 have h := X 822 _ (by k_is)
 exact .S ⟨_, h, rfl, _, rfl⟩ trivial ⟨_, X 820 _ (by k_is), rfl, _, rfl⟩ trivial ⟨_, X 821 _ (by k_is), rfl, _, rfl⟩ trivial
theorem self_w (C : Cx w p loose mean mg mb A A₀ base h₀ outer env L m s.heap 5 20) {tk : Tok} {ok : Addr → Prop} {vt : Value} {t : Ty} {k : Kind} (tt : TyAt ok s.heap vt t)
  (ret : ∀ r h' tk', s.heap.StaysIn h' → Fr h₀ L h' m → TyAt (okF ok s.heap) h' (.ref r) (selfTy k t) → Q (.ref r) { s with heap := h', toks := tk' }) :
  wpAny (model PR w) A (PySem.call (.ref (829 : Nat)) [vt, st k.str tk]) Q E s := by
 refine @disc _ ?y ?e
 case e =>
 haveI h : @Eq (PLift _) (PLift.up (by
 k_fill
 obtain ⟨a1, rfl⟩ := tt.isRef
 revert C ret tt
 revert tk ok t k a1
 k_extra "rv"
 refine no_implicit_lambda% (clZ (cPm cZ.N.Kd.T.P.N) ?_)
 k_extra "ld"
 refine gZ5 ?_
 intro zc0 tk ok t k a1
 clear_value tk ok t k a1
 intros C ret tt
 k_extra "oC"
 cases k
 all_goals simp only [Kind.str]
 all_goals k_extra "c0"
 all_goals k_steps
 all_goals (refine ret _ _ _ (Fr.keep ‹_›) ‹_› ?_; simp only [selfTy])
 all_goals k_extra "h1")) ?y := by k_extra "cv"
 k_extra "zz"
theorem Ty.lawOk_all {P : Ty → Prop} {h : Heap} {vs : List Value} {i : Nat} {v : Value} (all : ∀ v ∈ vs, ∃ t, TyAt (fun _ => True) h v t ∧ P t) (e : vs[i]? = some v) : ∃ t, TyAt (fun _ => True) h v t ∧ P t := all v (List.mem_of_getElem? e)
def LawTy (n : Nat) (t : Ty) : Prop := t.hasParam = false ∧ t.size ≤ n ∧ t.chain.length ≤ n + 1
theorem LawTy.box {n : Nat} {t : Ty} (x : LawTy n t) : LawTy (n + 1) (.box t) := ⟨x.1, Nat.succ_le_succ x.2.1, Nat.succ_le_succ x.2.2⟩
theorem LawTy.ref {n : Nat} {b : Bool} {t : Ty} (x : LawTy n t) : LawTy (n + 1) (.ref b t) := ⟨x.1, Nat.succ_le_succ x.2.1, Nat.succ_le_succ x.2.2⟩
theorem LawTy.mono {n k : Nat} {t : Ty} (x : LawTy n t) (h : n ≤ k) : LawTy k t := ⟨x.1, Nat.le_trans x.2.1 h, Nat.le_trans x.2.2 (Nat.succ_le_succ h)⟩
theorem list_hide {h : Heap} {a b : Addr} {its : Array Value} (x : h.IsList a its) (n : a ≠ b) : (hideAll h [b]).IsList a its := by
 obtain ⟨o, e, r⟩ := x
 exact ⟨o, hideAll_get _ e fun hm => n (List.mem_singleton.mp hm), r⟩
theorem TyAt.offH {ok : Addr → Prop} {h : Heap} {b : Addr} {v : Value} {t : Ty} (x : TyAt ok (hideAll h [b]) v t) : TyAt (fun a => a ≠ b) (hideAll h [b]) v t := x.move fun a _ it _ => ⟨it, fun q => by
 obtain ⟨o, e, _⟩ := it
 rw [q, hide_none] at e; cases e⟩
theorem tyE_src {ok : Addr → Prop} {g h h' : Heap} {L b : Addr} {m : Str → Option Value} {v : Value} {t : Ty} (F : Fr g L h' m) (x : TyAt ok (hideAll h [b]) v t) (st : (hideAll h [b]).StaysIn h') : TyE (fun _ => True) g L (restH g L [b] h') v t :=
 tyE_of F (x.offH.keeps st) (fun _ n hm => n (List.mem_singleton.mp hm)) fun _ _ => trivial
theorem all4 {P : Ty → Prop} {h : Heap} {a b c d : Value} (x : ∃ t, TyAt (fun _ => True) h a t ∧ P t) (y : ∃ t, TyAt (fun _ => True) h b t ∧ P t) (z : ∃ t, TyAt (fun _ => True) h c t ∧ P t) (u : ∃ t, TyAt (fun _ => True) h d t ∧ P t) : ∀ v ∈ [a, b, c, d], ∃ t, TyAt (fun _ => True) h v t ∧ P t := fun v hv => by
 rcases List.mem_cons.mp hv with rfl | hv
 ·exact x
 rcases List.mem_cons.mp hv with rfl | hv
 ·exact y
 rcases List.mem_cons.mp hv with rfl | hv
 ·exact z
 rw [List.mem_singleton.mp hv]; exact u
theorem all3 {ok : Addr → Prop} {P : Ty → Prop} {h : Heap} {a b c : Value} (x : ∃ t, TyAt ok h a t ∧ P t) (y : ∃ t, TyAt ok h b t ∧ P t) (z : ∃ t, TyAt ok h c t ∧ P t) : ∀ v ∈ [a, b, c], ∃ t, TyAt ok h v t ∧ P t := fun v hv => by
 rcases List.mem_cons.mp hv with rfl | hv
 ·exact x
 rcases List.mem_cons.mp hv with rfl | hv
 ·exact y
 rw [List.mem_singleton.mp hv]; exact z
inductive LtyJ (g : Heap) (L src : Addr) (i : Nat) (m : Str → Option Value) (news : List (Addr × Obj)) : Prop
 | mk : ∀ (v : Addr) (t : Ty) (a b : Int) (t1 t2 : Tok) (n : Nat) (l : List (Addr × Obj)), (news = (src, PySem.W.listOf #[.int a t1, .int b t2] n) :: l) → ((∀ p ∈ l, p.1 ≠ src)) → (m "found" = some (.ref v)) → (m "source" = some (.ref src)) → (LawTy i t) → (TyE (fun _ => True) g L l (.ref v) t) → LtyJ g L src i m news
theorem News.put {g h : Heap} {L a : Addr} {o : Obj} {l : List (Addr × Obj)} (N : News g L h l) (e : h.get? a = some o) (n : a ≠ L) (f : g.get? a = none) : News g L h ((a, o) :: l) := fun p hp => by
 k_extra "v0"
 ·exact ⟨e, n, f⟩
 ·exact N p hp
theorem led_hide {g h : Heap} {L b : Addr} {l : List (Addr × Obj)} (N : News g L h l) (n : ∀ p ∈ l, p.1 ≠ b) : News g L (hideAll h [b]) l := fun p hp => ⟨hideAll_get _ (N p hp).1 fun hm => n p hp (List.mem_singleton.mp hm), (N p hp).2⟩
theorem in_off {g h : Heap} {L src I : Addr} {oI os : Obj} {l : List (Addr × Obj)} (N : News g L h ((I, oI) :: (src, os) :: l)) (n1 : ∀ p ∈ l, p.1 ≠ src) (n2 : ∀ p ∈ (src, os) :: l, p.1 ≠ I) {a : Addr} (x : HasIn g l a) : a ≠ src ∧ a ≠ I := by
 rcases x with ⟨o, e⟩ | ⟨o, e⟩
 ·exact ⟨fun q => by (have := (N (src, os) (.tail _ (.head _))).2.2; rw [q] at e; rw [show g.get? src = none from this] at e; cases e), fun q => by (have := (N (I, oI) (.head _)).2.2; rw [q] at e; rw [show g.get? I = none from this] at e; cases e)⟩
 ·exact ⟨n1 _ e, n2 _ (.tail _ e)⟩
theorem rest_off2 {g h : Heap} {L b c : Addr} : ∀ p ∈ restH g L [b, c] h, p.1 ≠ b ∧ p.1 ≠ c := fun p hp => ⟨fun e => (mem_restH.mp hp).2.2.2 (by rw [e]; exact .head _), fun e => (mem_restH.mp hp).2.2.2 (by rw [e]; exact .tail _ (.head _))⟩
theorem rest_off {g h : Heap} {L b : Addr} : ∀ p ∈ restH g L [b] h, p.1 ≠ b := fun p hp e => (mem_restH.mp hp).2.2.2 (List.mem_singleton.mpr e)
example : True := by
 k_with "call ref cons" =>
  (
   (with_reducible show wpAny _ _ (PySem.call (Value.ref 818) _) _ _ _)
   k_extra "u0"
   k_extra "q1"
   k_extra "l0"
   have ho := (NM _ (.head _)).1
   have hk := hide_keep FZ hsG
   refine' one_w (by k_extra "a0") NM (list_hide (News.isList NZ (by k_mem)) (by k_ne)) (by simp) (by simp) ?_
   k_extra "s0"
   obtain ⟨y9, ty9, ly9⟩ := Ty.lawOk_all (P := LawTy 0) (all4 ⟨_, (u8_at X').keeps hk, rfl, Nat.le_refl _, Nat.le_refl _⟩ ⟨_, (S_at X').keeps hk, rfl, Nat.le_refl _, Nat.le_refl _⟩ ⟨_, (S_at X').keeps hk, rfl, Nat.le_refl _, Nat.le_refl _⟩ ⟨.bool, .bool (isTup_hide (News.isTup NZ (by k_mem)) ho) trivial, rfl, Nat.le_refl _, Nat.le_refl _⟩) hi9
   obtain ⟨av9, rfl⟩ := ty9.isRef
   clear hi9
   replace ly9 := ly9
   revert y9 av9 ty9 ly9; refine clZ cZ.N.T ?_; refine gZ2 ?_; intro zc y9 av9; clear_value y9 av9; clear zc; intro ty9 ly9
   have tE9 := tyE_src F9 ty9 st9
   have N9 := news_app N9 (rest_news (mu := [src]) (g := G0) (L := L') (h := h9))
   simp only [List.cons_append, List.nil_append] at N9
   clear NM ho)
 k_with "call ref cons" =>
  (
   (with_reducible show wpAny _ _ (PySem.call (Value.ref 811) _) _ _ _)
   k_extra "u0"
   k_extra "q1"
   k_extra "l0"
   refine' take_w (by k_extra "a0") NM (by decide) (by decide) ?_
   k_extra "r0"
   have N9 := news_app N9 (News.grown (rest_hide (news_tl NZ)) st9)
   simp only [List.cons_append, List.nil_append] at N9
   clear NM)
 trivial
theorem type_w (C : Cx w p loose mean mg mb A A₀ base h₀ outer env L m s.heap 20 120) {src : Addr} {a9 b9 : Int} {t19 t29 : Tok} {n9 : Nat} (N : News h₀ L s.heap [(src, PySem.W.listOf #[.int a9 t19, .int b9 t29] n9)])
  (ret : ∀ v t a' b' t1 t2 n' h' tk', LawTy 2 t → (hideAll s.heap [src]).StaysIn h' → Fr h₀ L h' m → News h₀ L h' [(src, PySem.W.listOf #[.int a' t1, .int b' t2] n')] → TyAt (fun _ => True) (hideAll h' [src]) v t → Q v { s with heap := h', toks := tk' }) :
  wpAny (model PR w) A (PySem.call (.ref (862 : Nat)) [.ref src]) Q E s := by
 refine @disc _ ?y ?e
 case e =>
 haveI h : @Eq (PLift _) (PLift.up (by
 k_fill
 generalize hG : hideAll s.heap [src] = G0 at *
 revert C N hG ret
 revert src a9 b9 t19 t29 n9 G0
 k_extra "rv"
 refine no_implicit_lambda% (clZ (cPm cZ.H.N.N.N.I.I.N) ?_)
 k_extra "ld"
 refine gZ7 ?_
 intro zc0 src a9 b9 t19 t29 n9 G0
 clear_value src a9 b9 t19 t29 n9 G0
 intros C N hG ret
 k_extra "oC"
 k_extra "c1"
 have eG0 : G0 = G' := by rw [eG', ← hG]; rfl
 subst eG0
 have hsG : G0.get? src = none := hG ▸ hide_none
 have hsL : src ≠ L' := News.offL N' (.head _)
 k_steps
 refine ⟨_, i9, _, _, _, _, _, LtyJ G0 L' src, rfl, hh, by assumption, by assumption, by omega, by assumption, ⟨av9, y9, _, _, _, _, _, _, rfl, rest_off, by k_dflt (exact rfl), by k_dflt (exact rfl), ly9, tE9⟩, ?step, ?done⟩
 case step =>
  intro i tkn m₁ news₁ h tk1 I oI hi hJ F3 N3 ne3 noC; clear noC
  obtain ⟨v0, ty0, a9, b9, t19, t29, n9, l0, rfl, hl0, e1, e2, ly0, tE0⟩ := hJ
  rw [known_map e1, known_map e2] at F3
  dsimp only at F3
  rename_i u2_0 u2_1 u2_2 u2_3 u2_4 u2_5 u2_6 u2_7 u2_8 u2_9 u2_10 u2_11 u2_12 u2_13 u2_14 u2_15 u2_16 u2_17 u2_18 u2_19 u2_20 u2_21 u2_22 u2_23 u2_24 u2_25 u2_26 u2_27 u2_28 u2_29
  revert st9 hi F3 hl0 e1 e2 ly0 tE0 N3 ne3
  revert tk i tkn m₁ h tk1 I oI v0 ty0 a9 b9 t19 t29 n9 l0
  refine no_implicit_lambda% (clZ cZ.l.N.N.N.I.I.T.N.O.N.N.H.M.N.N.N ?_)
  refine fZ8 ?_
  intro zc2_0 tk i tkn m₁ h tk1 I oI
  clear_value tk i tkn m₁ h tk1 I oI
  refine gZ8 ?_
  intro zc2 v0 ty0 a9 b9 t19 t29 n9 l0
  clear_value v0 ty0 a9 b9 t19 t29 n9 l0
  intros st9 hi F3 hl0 e1 e2 ly0 tE0 N3 ne3
  change Fr G0 L' h _ at F3
  change News G0 L' h _ at N3
  have neI : @Ne Nat src I := ne3 _ (.head _)
  have iO := fun {a} => in_off (a := a) N3 hl0 ne3
  clear ne3
  k_with "call ref cons" =>
   (
    (with_reducible show wpAny _ _ (PySem.call (Value.ref 818) _) _ _ _)
    k_extra "u0"
    k_extra "q1"
    k_extra "l0"
    have ho := (NM _ (.head _)).1
    have inn := (tE0 _ _ (Fr.hideC FZ hsG hsL) (led_hide (news_sub NZ (fun p hp => by repeat (first | exact hp | refine List.Mem.tail _ ?_))) hl0)).imp fun _ x => iO x.2
    refine' one_w (by k_extra "a0") NM (list_hide (News.isList NZ (by k_mem)) (by k_ne)) (by simp) (by simp) ?_
    k_extra "s0"
    obtain ⟨y9, ty9, ly9⟩ : ∃ t, TyAt (fun a => a ≠ src ∧ a ≠ I) _ v9 t ∧ LawTy (i + 1) t := all3 ⟨.ref false ty0, .ref (isTup_hide (News.isTup NZ (by k_mem)) ho) ⟨by k_ne, by k_ne⟩ inn, LawTy.ref ly0⟩ ⟨.ref true ty0, .ref (isTup_hide (News.isTup NZ (by k_mem)) ho) ⟨by k_ne, by k_ne⟩ inn, LawTy.ref ly0⟩ ⟨.box ty0, .box (isTup_hide (News.isTup NZ (by k_mem)) ho) ⟨by k_ne, by k_ne⟩ inn, LawTy.box ly0⟩ _ (List.mem_of_getElem? hi9)
    obtain ⟨av9, rfl⟩ := ty9.isRef
    clear hi9
    replace ly9 := ly9
    revert y9 av9 ty9 ly9; refine clZ cZ.N.T ?_; refine gZ2 ?_; intro zc y9 av9; clear_value y9 av9; clear zc; intro ty9 ly9
    have tE9 := tyE_of (mu := [src, I]) (ok' := fun _ => True) F9 (ty9.keeps st9) (fun a n hm => by rcases List.mem_cons.mp hm with q | hm; exact n.1 q; exact n.2 (List.mem_singleton.mp hm)) fun _ _ => trivial
    have gI := st9 _ _ (hideAll_get [src] (News.at_ (C := I) (o := oI) NZ (by k_mem)) fun hm => neI (List.mem_singleton.mp hm).symm)
    have N9 := news_app N9 (rest_news (mu := [src, I]) (g := G0) (L := L') (h := h9))
    have N9 := News.put N9 gI (News.offL NZ (o := oI) (by k_mem)) (News.fresh NZ (o := oI) (by k_mem))
    simp only [List.cons_append, List.nil_append] at N9
    clear NM ho)
  k_steps
  exact LPost.intro ‹_› ‹_› (List.forall_mem_cons.mpr ⟨neI, fun p hp => (rest_off2 p hp).2⟩) ⟨av9, y9, _, _, _, _, _, _, rfl, fun p hp => (rest_off2 p hp).1, by k_dflt (exact rfl), by k_dflt (exact rfl), ly9, tE9⟩
 case done =>
  intro m' news' h tk1 hJ F3 N3
  obtain ⟨v0, ty0, a9, b9, t19, t29, n9, l0, rfl, hl0, e1, e2, ly0, tE0⟩ := hJ
  rw [known_map e1, known_map e2] at F3
  dsimp only at F3
  rename_i u3_0 u3_1 u3_2 u3_3 u3_4 u3_5 u3_6 u3_7 u3_8 u3_9 u3_10 u3_11 u3_12 u3_13 u3_14 u3_15 u3_16 u3_17 u3_18 u3_19 u3_20 u3_21 u3_22 u3_23 u3_24 u3_25 u3_26 u3_27 u3_28 u3_29
  revert st9 F3 hl0 e1 e2 ly0 tE0 N3
  revert tk m' h tk1 v0 ty0 a9 b9 t19 t29 n9 l0
  refine no_implicit_lambda% (clZ cZ.l.N.N.N.I.I.T.N.N.H.M.N ?_)
  refine fZ8 ?_
  intro zc3_0 tk m' h tk1 v0 ty0 a9 b9
  clear_value tk m' h tk1 v0 ty0 a9 b9
  refine gZ4 ?_
  intro zc3 t19 t29 n9 l0
  clear_value t19 t29 n9 l0
  intros st9 F3 hl0 e1 e2 ly0 tE0 N3
  change Fr G0 L' h _ at F3
  change News G0 L' h _ at N3
  k_steps
  k_extra "u0"
  k_extra "q1"
  rename News h₀ L _ (_ :: _) => NE
  exact ret _ _ _ _ _ _ _ _ _ (ly0.mono (by k_extra "le")) (Fr.keep FZ) ‹_› (news_one NE (.head _)) ((tE0 _ _ (Fr.hideC FZ hsG hsL) (led_hide (news_sub NZ (fun p hp => by repeat (first | exact hp | refine List.Mem.tail _ ?_))) hl0)).imp fun _ _ => trivial))) ?y := by k_extra "cv"
 k_extra "zz"
theorem max_any {prog : Program} {w : World} {A : Around} {E : Value → Shared → Prop} {s : Shared} {g : Heap} {L : Addr} {m : Str → Option Value} {news : List (Addr × Obj)} {a b : Int} {t u : Tok} {Q : Value → Shared → Prop} (hh : A.handled = none) (F : Fr g L s.heap m) (N : News g L s.heap news)
  (h : ∀ (x : Int) t h' tk, Fr g L h' m → News g L h' news → Q (.int x t) { s with heap := h', toks := tk }) : wpAny (model prog w) A (call (.builtin "max") [.int a t, .int b u]) Q E s :=
 max_two_ints hh fun h' tk k => by
  split
  ·exact h _ _ _ _ (F.keeps k) (N.grown k)
  ·exact h _ _ _ _ (F.keeps k) (N.grown k)
theorem int_cut {M : Model} {A : Around} {E : Value → Shared → Prop} {s : Shared} {x : Sem Value} {Q : Value → Shared → Prop} (h1 : wpAny M A x (fun v s' => ∃ (a : Int) (t tk : Nat), v = .int a t ∧ s' = { s with toks := tk }) E s)
  (h2 : ∀ (a : Int) (t tk : Nat), Q (.int a t) { s with toks := tk }) : wpAny M A x Q E s :=
 wpAny_mono h1 (fun _ _ ⟨a, t, tk, e1, e2⟩ => e1 ▸ e2 ▸ h2 a t tk) fun _ _ e => e
example : True := by
 k_with "call builtin:len cons nil" =>
  (k_here; k_dflt (refine len_L _ (isList_fr hl ‹_›) (by rw [List.size_toArray]) hb63 ?_))
 k_with "subscriptTail Name Name ref int" =>
  (k_here; (refine item_list_ints (isList_fr hl ‹_›) hI (by first | decide | omega) (by first | omega | (simp_all; first | done | fail "a goal is left")) (by first | decide | omega) ?_); refine clZ cZ.N ?_; refine gZ1 ?_; intro zc t9; clear_value t9; clear zc)
 k_with "call builtin:max cons nil" =>
  (k_here; k_dflt (refine max_any ‹_› ‹_› ‹_› ?_); refine clZ cZ.N.H.N.I ?_; refine gZ4 ?_; intro zc x9 t9 h9 tk9; clear_value x9 t9 h9 tk9; clear zc; intro F9 N9)
 trivial
theorem pool_w (C : Cx w p loose mean mg mb A A₀ base h₀ outer env L m s.heap 5 40) {sc : Addr} {xs : List Value} {ns : List Int} {i : Nat} {t1 : Tok} (hl : s.heap.IsList sc xs.toArray) (hI : IntsAre xs ns) (hb63 : (xs.length : Int) < 2 ^ 63) (hi : i < 2)
  (ret : ∀ a (x y : Int) t1 t2 n h' tk', s.heap.StaysIn h' → Fr h₀ L h' m → Fresh s.heap h' a (PySem.W.listOf #[.int x t1, .int y t2] n) → Q (.ref a) { s with heap := h', toks := tk' }) :
  wpAny (model PR w) A (PySem.call (.ref (804 : Nat)) [.ref sc, .int (i : Int) t1]) Q E s := by
 refine @disc _ ?y ?e
 case e =>
 haveI h : @Eq (PLift _) (PLift.up (by
 k_fill
 revert C hl hI hb63 hi ret
 revert sc xs ns i t1
 k_extra "rv"
 refine no_implicit_lambda% (clZ (cPm cZ.N.N.f.L.N) ?_)
 k_extra "ld"
 refine gZ5 ?_
 intro zc0 sc xs ns i t1
 clear_value sc xs ns i t1
 intros C hl hI hb63 hi ret
 k_extra "oC"
 k_extra "c0"
 repeat ((fail_if_success (with_reducible show wpAny _ _ (eval (Expr.IfExp _ _ _ _) _) _ _ _)); k_extra "h0")
 refine int_cut ?h1 ?h2
 case h1 =>
  k_steps
  all_goals exact ⟨_, _, _, rfl, rfl⟩
 case h2 =>
  refine clZ cZ.N.N.I ?_; refine gZ3 ?_; intro zc x7 t7 k7; clear_value x7 t7 k7; clear zc
  k_steps
  exact ret _ _ _ _ _ _ _ _ (Fr.keep ‹_›) ‹_› (newsFrsh ‹_› (by k_mem)))) ?y := by k_extra "cv"
 k_extra "zz"
theorem sig_new_w (CC : Cx w p loose mean mg mb A A₀ base h₀ outer env L m s.heap 6 40) {v1 v2 v3 v4 v5 v6 v7 v8 : Value}
  (ret : ∀ x h' tk', s.heap.StaysIn h' → Fr h₀ L h' m → NewInst s.heap h' x 721 [("path", v1), ("regions", v2), ("params", v3), ("own", v4), ("inputs", v5), ("output", v6), ("self_kind", v7), ("has_body", v8)] → Q (.ref x) { s with heap := h', toks := tk' }) :
  wpAny (model PR w) A (PySem.call (.ref (721 : Nat)) [v1, v2, v3, v4, v5, v6, v7, v8]) Q E s := by
 refine @disc _ ?y ?e
 case e =>
 haveI h : @Eq (PLift _) (PLift.up (by
 k_fill
 k_extra "o0"
 k_extra "m1"
 revert v1 v2 v3 v4 v5 v6 v7 v8
 k_extra "rv"
 refine no_implicit_lambda% (clZ (cPm cZ.V.V.V.V.V.V.V.V) ?_)
 k_extra "ld"
 refine gZ8 ?_
 intro zc0 v1 v2 v3 v4 v5 v6 v7 v8
 clear_value v1 v2 v3 v4 v5 v6 v7 v8
 intros ret B F X T hA hf hke hh hdp hun
 k_extra "g1"
 k_extra "b1"
 k_steps
 rename Fr G' L' _ _ => FX
 k_extra "x1"
 have D := fun hf => new_done (fs := [("path", v1), ("regions", v2), ("params", v3), ("own", v4), ("inputs", v5), ("output", v6), ("self_kind", v7), ("has_body", v8)]) st1 nx1 nd1 eG' FX NX (by k_mem) (by k_mem) hf
 have D := D ‹_›
 exact ret _ _ _ D.1 ‹_› D.2)) ?y := by k_extra "cv"
 k_extra "zz"
theorem trow_new_w (CC : Cx w p loose mean mg mb A A₀ base h₀ outer env L m s.heap 6 40) {v1 v2 v3 v4 : Value}
  (ret : ∀ x h' tk', s.heap.StaysIn h' → Fr h₀ L h' m → NewInst s.heap h' x 742 [("path", v1), ("params", v2), ("methods", v3), ("defaults", v4)] → Q (.ref x) { s with heap := h', toks := tk' }) :
  wpAny (model PR w) A (PySem.call (.ref (742 : Nat)) [v1, v2, v3, v4]) Q E s := by
 refine @disc _ ?y ?e
 case e =>
 haveI h : @Eq (PLift _) (PLift.up (by
 k_fill
 k_extra "o0"
 k_extra "m1"
 revert v1 v2 v3 v4
 k_extra "rv"
 refine no_implicit_lambda% (clZ (cPm cZ.V.V.V.V) ?_)
 k_extra "ld"
 refine gZ4 ?_
 intro zc0 v1 v2 v3 v4
 clear_value v1 v2 v3 v4
 intros ret B F X T hA hf hke hh hdp hun
 k_extra "g1"
 k_extra "b1"
 k_steps
 rename Fr G' L' _ _ => FX
 k_extra "x1"
 have D := fun hf => new_done (fs := [("path", v1), ("params", v2), ("methods", v3), ("defaults", v4)]) st1 nx1 nd1 eG' FX NX (by k_mem) (by k_mem) hf
 have D := D ‹_›
 exact ret _ _ _ D.1 ‹_› D.2)) ?y := by k_extra "cv"
 k_extra "zz"
theorem irow_new_w (CC : Cx w p loose mean mg mb A A₀ base h₀ outer env L m s.heap 6 40) {v1 v2 v3 v4 v5 v6 v7 : Value}
  (ret : ∀ x t h' tk', s.heap.StaysIn h' → Fr h₀ L h' m → NewInst s.heap h' x 764 [("number", v1), ("regions", v2), ("params", v3), ("trait", v4), ("trait_args", v5), ("self_type", v6), ("methods", v7), ("spot", .int 0 t)] → Q (.ref x) { s with heap := h', toks := tk' }) :
  wpAny (model PR w) A (PySem.call (.ref (764 : Nat)) [v1, v2, v3, v4, v5, v6, v7]) Q E s := by
 refine @disc _ ?y ?e
 case e =>
 haveI h : @Eq (PLift _) (PLift.up (by
 k_fill
 k_extra "o0"
 k_extra "m1"
 revert v1 v2 v3 v4 v5 v6 v7
 k_extra "rv"
 refine no_implicit_lambda% (clZ (cPm cZ.V.V.V.V.V.V.V) ?_)
 k_extra "ld"
 refine gZ7 ?_
 intro zc0 v1 v2 v3 v4 v5 v6 v7
 clear_value v1 v2 v3 v4 v5 v6 v7
 intros ret B F X T hA hf hke hh hdp hun
 k_extra "g1"
 k_extra "b1"
 k_steps
 rename Fr G' L' _ _ => FX
 k_extra "x1"
 have D := fun t hf => new_done (fs := [("number", v1), ("regions", v2), ("params", v3), ("trait", v4), ("trait_args", v5), ("self_type", v6), ("methods", v7), ("spot", .int 0 t)]) st1 nx1 nd1 eG' FX NX (by k_mem) (by k_mem) hf
 have D := D _ ‹_›
 exact ret _ _ _ _ D.1 ‹_› D.2)) ?y := by k_extra "cv"
 k_extra "zz"
section
variable {K : Type} [DecidableEq K]
theorem va_map (kvs : List (K × Value)) (k k' : K) (v : Value) : valueAt (kvs.map fun kv => if kv.1 = k then (kv.1, v) else kv) k' = if k' = k then (if kvs.any (fun kv => kv.1 = k) then some v else none) else valueAt kvs k' := by
 unfold valueAt
 induction kvs with
 | nil => simp
 | cons a r ih =>
  simp only [List.map_cons, List.find?_cons, List.any_cons]
  by_cases h1 : a.1 = k
  ·subst h1
   by_cases h2 : k' = a.1
   ·subst h2; simp
   ·have h3 : ¬ a.1 = k' := fun e => h2 e.symm
    simp only [if_true, h3, decide_false, if_neg h2] at ih ⊢
    exact ih
  ·simp only [h1, if_false, decide_false, Bool.false_or]
   by_cases h2 : a.1 = k'
   ·have h3 : ¬ k' = k := fun e => h1 (h2.trans e)
    simp [h2, h3]
   ·simp only [h2, decide_false]
    exact ih
theorem va_stored (kvs : List (K × Value)) (k k' : K) (v : Value) : valueAt (stored kvs k v) k' = if k' = k then some v else valueAt kvs k' := by
 unfold stored
 by_cases h : kvs.any (fun kv => kv.1 = k) = true
 ·rw [if_pos h, va_map, h]; simp
 ·rw [if_neg h]
  unfold valueAt
  rw [List.find?_append]
  by_cases h2 : k' = k
  ·subst h2
   rw [if_pos rfl]
   have : kvs.find? (fun kv => kv.1 = k') = none := by
    rw [List.find?_eq_none]
    intro x hx q
    exact h (List.any_eq_true.mpr ⟨x, hx, q⟩)
   rw [this]; simp
  ·rw [if_neg h2]
   have : List.find? (fun kv : K × Value => decide (kv.1 = k')) [(k, v)] = none := by simp; exact fun e => h2 e.symm
   rw [this]; simp
end
noncomputable def pathOf (i : Nat) : PySem.Str := PySem.Str.ofString "impl#" ++ PySem.Str.ofString (toString (i : Int)) ++ PySem.Str.ofString "::go"
theorem pathOf_inj : ∀ i : Nat, i < 4 → ∀ j : Nat, j < 4 → pathOf i = pathOf j → i = j := by decide +kernel
structure LawRow (kd : Kind) (i : Nat) (r : Row) : Prop where
 out : r.out = .box r.told
 path : r.path = pathOf i
 kind : r.tr = true → r.kind = kd
 told : r.told.isPat
inductive RowAt (h : Heap) (v : Value) (i : Nat) (r : Row) : Prop
 | mk : ∀ a vt tk t2, (v = .ref a) → (IsTup h a [.bool r.tr, .int (i : Int) tk, vt, st r.kind.str t2].toArray) → (TyAt (fun _ => True) h vt r.told) → RowAt h v i r
theorem RowAt.keeps {h h' : Heap} {v : Value} {i : Nat} {r : Row} (k : h.StaysIn h') (x : RowAt h v i r) : RowAt h' v i r := let ⟨a, vt, tk, t2, e, b, c⟩ := x; ⟨a, vt, tk, t2, e, b.keeps k, c.keeps k⟩
structure LwPart (w : World) (h : Heap) (xs : List Value) (kvs : List (PySem.Str × Value)) (vs : List Value) (rows : List Row) : Prop where
 im : ∀ (i : Nat) v, xs[i]? = some v → ∃ r, rows[i]? = some r ∧ ImplAt w h v i r
 sg : SigsAt w h kvs rows
 rw_ : ∀ (i : Nat) v, vs[i]? = some v → ∃ r, rows[i]? = some r ∧ RowAt h v i r
theorem get_push {α : Type} {l : List α} {x y : α} {i : Nat} (e : (l ++ [x])[i]? = some y) : l[i]? = some y ∨ i = l.length ∧ y = x := by
 rcases Nat.lt_trichotomy i l.length with h | h | h
 ·rw [List.getElem?_append_left h] at e; exact .inl e
 ·subst h; simp at e; exact .inr ⟨rfl, e.symm⟩
 ·rw [List.getElem?_eq_none (by simp; omega)] at e; cases e
theorem get_grow {α : Type} {l : List α} {x y : α} {i : Nat} (e : l[i]? = some y) : (l ++ [x])[i]? = some y := by
 rw [List.getElem?_append_left (List.getElem?_eq_some_iff.mp e).1]; exact e
theorem get_top {α : Type} {l : List α} {x : α} : (l ++ [x])[l.length]? = some x := by simp
theorem LwPart.push {w : World} {h : Heap} {xs vs : List Value} {kvs : List (PySem.Str × Value)} {rows : List Row} {r : Row} {x v sv : Value} (P : LwPart w h xs kvs vs rows) (hx : ImplAt w h x rows.length r) (hs : SigAt w h sv r) (hv : RowAt h v rows.length r)
  (l1 : xs.length = rows.length) (l2 : vs.length = rows.length) (hp : ∀ (i : Nat) (r' : Row), rows[i]? = some r' → r'.path ≠ r.path) : LwPart w h (xs ++ [x]) (stored kvs r.path sv) (vs ++ [v]) (rows ++ [r]) := by
 refine ⟨fun i y e => ?_, fun i r' e => ?_, fun i y e => ?_⟩
 ·rcases get_push e with e | ⟨rfl, rfl⟩
  ·obtain ⟨r', a, b⟩ := P.im i y e
   exact ⟨r', get_grow a, b⟩
  ·rw [l1]; exact ⟨r, get_top, hx⟩
 ·rcases get_push e with e | ⟨rfl, rfl⟩
  ·obtain ⟨s', a, b⟩ := P.sg i r' e
   exact ⟨s', by rw [va_stored, if_neg (hp i r' e)]; exact a, b⟩
  ·exact ⟨sv, by rw [va_stored, if_pos rfl], hs⟩
 ·rcases get_push e with e | ⟨rfl, rfl⟩
  ·obtain ⟨r', a, b⟩ := P.rw_ i y e
   exact ⟨r', get_grow a, b⟩
  ·rw [l2]; exact ⟨r, get_top, hv⟩
theorem LwPart.nil {w : World} {h : Heap} : LwPart w h [] [] [] [] := ⟨fun i v e => by simp at e, fun i r e => by simp at e, fun i v e => by simp at e⟩
inductive WoAt (w : World) (h : Heap) (wo ds li : Addr) (kd : Kind) : Prop
 | mk : ∀ a1 a2 dt a3 a4 tv, (Inst h wo 793 (wdF a1 a2 ds dt li a3 a4)) → (DictAt w h dt [(PySem.Str.ofString "A", tv)]) → (TraitAt w h tv kd) → WoAt w h wo ds li kd
inductive LRows (h : Heap) (rl : Addr) (rows : List Row) : Prop
 | mk : ∀ vs : List Value, (h.IsList rl vs.toArray) → (vs.length = rows.length) → (∀ (i : Nat) v, vs[i]? = some v → ∃ r, rows[i]? = some r ∧ RowAt h v i r) → LRows h rl rows
theorem LRows.keeps {h h' : Heap} {rl : Addr} {rows : List Row} (k : h.StaysIn h') (x : LRows h rl rows) : LRows h' rl rows := let ⟨vs, a, b, c⟩ := x; ⟨vs, a.at fun _ e => k _ _ e, b, fun i v e => let ⟨r, d, f⟩ := c i v e; ⟨r, d, f.keeps k⟩⟩
structure LawRows (kd : Kind) (rows : List Row) : Prop where
 len : rows.length ≤ 4
 all : ∀ (i : Nat) r, rows[i]? = some r → LawRow kd i r
def Apart (a b : Addr) : Prop := a ≠ b
theorem news_swap {g h h9 : Heap} {L src : Addr} {o o' : Obj} {l l' : List (Addr × Obj)} (N : News g L h l) (U : Upd src o o' l l') (N9 : News g L h9 [(src, o')]) (st9 : (hideAll h [src]).StaysIn h9) : News g L h9 l' := by
 obtain ⟨pre, post, rfl, rfl, a, b⟩ := U.split
 have kp : ∀ p ∈ pre ++ post, p ∈ pre ++ (src, o) :: post ∧ p.1 ≠ src := fun p hp => by
  rcases List.mem_append.mp hp with hp | hp
  ·exact ⟨List.mem_append_left _ hp, a p hp⟩
  ·exact ⟨List.mem_append_right _ (.tail _ hp), b p hp⟩
 have go : ∀ p ∈ pre ++ post, h9.get? p.1 = some p.2 ∧ p.1 ≠ L ∧ g.get? p.1 = none := fun p hp =>
  ⟨st9 _ _ (hideAll_get _ (N p (kp p hp).1).1 fun hm => (kp p hp).2 (List.mem_singleton.mp hm)), (N p (kp p hp).1).2⟩
 intro p hp
 rcases List.mem_append.mp hp with hp | hp
 ·exact go p (List.mem_append_left _ hp)
 ·rcases List.mem_cons.mp hp with rfl | hp
  ·exact N9 _ (.head _)
  ·exact go p (List.mem_append_right _ hp)
theorem kind3 {a b c : Tok} {i : Nat} {v : Value} (e : [st "ref" a, st "value" b, st "mut" c][i]? = some v) : ∃ (k : Kind) (t : Tok), v = st k.str t := by
 rcases i with _ | _ | _ | i
 ·simp at e; exact ⟨.ref, _, e.symm⟩
 ·simp at e; exact ⟨.value, _, e.symm⟩
 ·simp at e; exact ⟨.mut, _, e.symm⟩
 ·simp at e
theorem kind4 {a b c d : Tok} {i : Nat} {v : Value} (e : [st "ref" a, st "value" b, st "mut" c, st "mut" d][i]? = some v) : ∃ (k : Kind) (t : Tok), v = st k.str t := by
 rcases i with _ | _ | _ | _ | i
 ·simp at e; exact ⟨.ref, _, e.symm⟩
 ·simp at e; exact ⟨.value, _, e.symm⟩
 ·simp at e; exact ⟨.mut, _, e.symm⟩
 ·simp at e; exact ⟨.mut, _, e.symm⟩
 ·simp at e
theorem draw5 {P : Value → Ty → Prop} {a b c d e : Value} {i : Nat} {v : Value} (h1 : P a .u8) (h2 : P b .S) (h3 : P c .S) (h4 : P d (.box .S)) (h5 : P e (.ref false .S)) (q : [a, b, c, d, e][i]? = some v) : ∃ t : Ty, t.isPat ∧ P v t := by
 rcases i with _ | _ | _ | _ | _ | i
 ·simp at q; subst q; exact ⟨_, .inl rfl, h1⟩
 ·simp at q; subst q; exact ⟨_, .inr (.inl rfl), h2⟩
 ·simp at q; subst q; exact ⟨_, .inr (.inl rfl), h3⟩
 ·simp at q; subst q; exact ⟨_, .inr (.inr (.inl rfl)), h4⟩
 ·simp at q; subst q; exact ⟨_, .inr (.inr (.inr rfl)), h5⟩
 ·simp at q
theorem mem_rest_of {g h : Heap} {L a : Addr} {o : Obj} {mu : List Addr} {l : List (Addr × Obj)} (N : News g L h l) (hm : (a, o) ∈ l) (n : ∀ b ∈ mu, a ≠ b) : (a, o) ∈ restH g L mu h :=
 mem_restH.mpr ⟨(N _ hm).1, (N _ hm).2.2, (N _ hm).2.1, fun q => n a q rfl⟩
theorem ty_off {ok : Addr → Prop} {g h : Heap} {L : Addr} {v : Value} {t : Ty} {mu : List (Addr × Obj)} (N : News g L h mu) (nt : ∀ p ∈ mu, p.2.cls ≠ .type "tuple") (x : TyAt ok h v t) : TyAt (fun a => a ∉ mu.map (·.1)) h v t :=
 x.move fun a its it _ => ⟨it, fun hm => by
  obtain ⟨p, hp, rfl⟩ := List.mem_map.mp hm
  obtain ⟨o, e, c, _⟩ := it
  have := (N p hp).1
  rw [e] at this
  cases this
  exact nt _ hp c⟩
theorem dict_ne_list {w : World} {o : Obj} {kvs : List (PySem.Str × Value)} {its : Array Value} {n : Nat} (h : o.IsDictOf (KD w) kvs) : o ≠ PySem.W.listOf its n := fun e => by
 obtain ⟨es, ep, a, b, _⟩ := h
 subst e
 cases b
theorem rest_ne {g h : Heap} {L b : Addr} {mu : List Addr} (hb : b ∈ mu) : ∀ p ∈ restH g L mu h, p.1 ≠ b := fun p hp e => (mem_restH.mp hp).2.2.2 (e ▸ hb)
theorem ty_off2 {ok : Addr → Prop} {g h : Heap} {L : Addr} {v : Value} {t : Ty} {mu : List (Addr × Obj)} (N : News g L h mu) (nt : ∀ p ∈ mu, p.2.cls ≠ .type "tuple") (x : TyAt ok h v t) : TyAt (fun a => ok a ∧ a ∉ mu.map (·.1)) h v t :=
 x.move fun a its it k => ⟨it, k, fun hm => by
  obtain ⟨p, hp, rfl⟩ := List.mem_map.mp hm
  obtain ⟨o, e, c, _⟩ := it
  have := (N p hp).1
  rw [e] at this
  cases this
  exact nt _ hp c⟩
theorem ty_base {ok : Addr → Prop} {g : Heap} {I : Addr} {v : Value} {t : Ty} (x : TyAt ok g v t) (hI : g.get? I = none) : TyAt (fun a => a ≠ I) g v t :=
 x.move fun a its it _ => ⟨it, fun q => by
  obtain ⟨o, e, _⟩ := it
  rw [q, hI] at e; cases e⟩
section
variable {w : World} {g h h0 : Heap} {L a dx C : Addr} {o : Obj} {mu : List Addr} {l : List (Addr × Obj)}
theorem rest_at (N : News g L h (restH g L mu h0)) (NZ : News g L h0 l) (hm : (a, o) ∈ l) (n : ∀ b ∈ mu, a ≠ b) : h.get? a = some o := (N _ (mem_rest_of NZ hm n)).1
theorem rest_inst {es : List DictEntry} {k : Nat} {fs : List (String × Value)} (N : News g L h (restH g L mu h0)) (NZ : News g L h0 l) (h1 : (a, instObj C dx) ∈ l) (h2 : (dx, dictOf es k) ∈ l) (hf : FieldsAre es fs) (n1 : ∀ b ∈ mu, a ≠ b) (n2 : ∀ b ∈ mu, dx ≠ b) : Inst h a C fs := ⟨dx, es, k, rest_at N NZ h1 n1, rest_at N NZ h2 n2, hf⟩
theorem rest_tup {its : Array Value} {k : Nat} (N : News g L h (restH g L mu h0)) (NZ : News g L h0 l) (hm : (a, ({ cls := .type "tuple", data := .seq its k } : Obj)) ∈ l) (n : ∀ b ∈ mu, a ≠ b) : IsTup h a its := ⟨_, rest_at N NZ hm n, rfl, _, rfl⟩
theorem rest_list {its : Array Value} {k : Nat} (N : News g L h (restH g L mu h0)) (NZ : News g L h0 l) (hm : (a, PySem.W.listOf its k) ∈ l) (n : ∀ b ∈ mu, a ≠ b) : h.IsList a its := ⟨_, rest_at N NZ hm n, rfl, k, rfl⟩
theorem rest_dict {kvs : List (PySem.Str × Value)} (N : News g L h (restH g L mu h0)) (NZ : News g L h0 l) (hm : (a, o) ∈ l) (hd : o.IsDictOf (KD w) kvs) (lo : (a == sysModules) = false) (n : ∀ b ∈ mu, a ≠ b) : DictAt w h a kvs := ⟨Heap.dictOf_iff.mpr ⟨o, rest_at N NZ hm n, hd⟩, lo⟩
end
inductive WoT (w : World) (h : Heap) (dt : Addr) (kd : Kind) : Prop
 | mk : ∀ tv, (DictAt w h dt [(PySem.Str.ofString "A", tv)]) → (TraitAt w h tv kd) → WoT w h dt kd
theorem path_script : ∀ i : Nat, i < 4 → ¬ PySem.Str.ofString "script" = pathOf i := by decide +kernel
inductive WAtS (w : World) (h : Heap) (wo : Addr) (rows : List Row) (kd : Kind) : Prop
 | mk : ∀ (a1 a2 ds dt li a3 a4 : Addr) (xs : List Value) (kvs : List (PySem.Str × Value)) (tv : Value), (Inst h wo 793 (wdF a1 a2 ds dt li a3 a4)) → (h.IsList li xs.toArray) → (xs.length = rows.length) → ((∀ i v, xs[i]? = some v → ∃ r, rows[i]? = some r ∧ ImplAt w h v i r)) → (DictAt w h ds kvs) → (SigsAt w h kvs rows) → (DictAt w h dt [(PySem.Str.ofString "A", tv)]) → (TraitAt w h tv kd) → (rows.length ≤ 30) → (valueAt kvs (PySem.Str.ofString "script") = none) → WAtS w h wo rows kd
inductive LwJ (w : World) (g : Heap) (L src wo rl ds li dt : Addr) (wf : List (String × Value)) (kd : Kind) (i : Nat) (m : Str → Option Value) (news : List (Addr × Obj)) : Prop
 | mk : ∀ (a b : Int) (t1 t2 tk : Tok) (n nx nv : Nat) (og : Obj) (kvs : List (PySem.Str × Value)) (xs vs : List Value) (rows : List Row) (l : List (Addr × Obj)), (news = (src, PySem.W.listOf #[.int a t1, .int b t2] n) :: (ds, og) :: (li, PySem.W.listOf xs.toArray nx) :: (rl, PySem.W.listOf vs.toArray nv) :: l) → (((∀ p ∈ l, p.1 ≠ src) ∧ (∀ p ∈ l, p.1 ≠ ds) ∧ (∀ p ∈ l, p.1 ≠ li) ∧ ∀ p ∈ l, p.1 ≠ rl)) → (og.IsDictOf (KD w) kvs) → (((kvs.length ≤ i ∧ valueAt kvs (PySem.Str.ofString "script") = none) ∧ xs.length = rows.length ∧ vs.length = rows.length ∧ rows.length = i)) → ((∀ (j : Nat) r, rows[j]? = some r → LawRow kd j r)) → ((m "world" = some (.ref wo) ∧ m "rows" = some (.ref rl) ∧ m "source" = some (.ref src) ∧ m "kind" = some (st kd.str tk))) → (InstE g L l wo 793 wf) → (Ev g L l (fun h => WoT w h dt kd)) → (Ev g L l (fun h => LwPart w h xs kvs vs rows)) → LwJ w g L src wo rl ds li dt wf kd i m news
theorem stored_len (kvs : List (PySem.Str × Value)) (k : PySem.Str) (v : Value) : (stored kvs k v).length ≤ kvs.length + 1 := by
 unfold stored
 split
 ·rw [List.length_map]; exact Nat.le_succ _
 ·simp
theorem lawrow_push {kd : Kind} {rows : List Row} {r : Row} {i : Nat} (hi : rows.length = i) (h : ∀ (j : Nat) r', rows[j]? = some r' → LawRow kd j r') (x : LawRow kd i r) : ∀ (j : Nat) r', (rows ++ [r])[j]? = some r' → LawRow kd j r' := fun j r' e => by
 rcases get_push e with e | ⟨rfl, rfl⟩
 ·exact h j r' e
 ·rw [hi]; exact x
theorem LwPart.push' {w : World} {h : Heap} {xs vs : List Value} {kvs : List (PySem.Str × Value)} {rows : List Row} {r : Row} {x v sv : Value} {kd : Kind} {i : Nat} (hi : rows.length = i) (i4 : i < 4) (P : LwPart w h xs kvs vs rows) (hx : ImplAt w h x i r) (hs : SigAt w h sv r) (hv : RowAt h v i r)
  (l1 : xs.length = rows.length) (l2 : vs.length = rows.length) (hr : ∀ (j : Nat) r', rows[j]? = some r' → LawRow kd j r') (hp : r.path = pathOf i) : LwPart w h (xs ++ [x]) (stored kvs r.path sv) (vs ++ [v]) (rows ++ [r]) := by
 subst hi
 refine P.push hx hs hv l1 l2 fun j r' e q => ?_
 have hj := (List.getElem?_eq_some_iff.mp e).1
 rw [hp, (hr j r' e).path] at q
 have := pathOf_inj j (by k_extra "le") _ i4 q
 omega
theorem implAt_mk {w : World} {h : Heap} {x : Addr} {i : Nat} {r : Row} {tv vt : Value} {rg pl ta md : Addr} {t1 t2 t3 t4 : Tok} (I : Inst h x 764 (implF tv vt (i : Int) rg pl ta md t1 t3)) (htv : tv = tvOf r t2) (hl : h.IsList pl [].toArray) (ht : IsTup h ta [].toArray) (ty : TyAt (fun _ => True) h vt r.told)
  (d : DictAt w h md [(PySem.Str.ofString "go", .str r.path t4)]) (hp : r.told.isPat) : ImplAt w h (.ref x) i r := ⟨x, rg, pl, ta, md, vt, t1, t2, t3, t4, rfl, htv ▸ I, hl, ht, ty, d, hp⟩
theorem lw_turn {w : World} {h : Heap} {xs vs : List Value} {kvs : List (PySem.Str × Value)} {rows : List Row} {kd kd8 : Kind} {i : Nat} {B : Bool} {u : Ty} {sg rg pl ow ins im rg' pl' ta md ra : Addr} {pt kt t1 t2 t3 t4 t5 t6 : Tok} {s0 a0 vo tv vt : Value}
  (hi : rows.length = i) (i4 : i < 4) (P : LwPart w h xs kvs vs rows) (hp : u.isPat) (hr : ∀ (j : Nat) r', rows[j]? = some r' → LawRow kd j r') (l1 : xs.length = rows.length) (l2 : vs.length = rows.length)
  (I1 : Inst h sg 721 (sigF pt (pathOf i) rg pl ow ins vo kd8 kt true)) (p1 : h.IsList pl [].toArray) (n1 : IsTup h ins [s0, a0].toArray) (y1 : TyAt (fun _ => True) h s0 (selfTy kd8 u)) (y2 : TyAt (fun _ => True) h a0 .u8) (y3 : TyAt (fun _ => True) h vo (.box u))
  (I2 : Inst h im 764 (implF tv vt (i : Int) rg' pl' ta md t1 t3)) (htv : tv = if B then st "A" t2 else .none) (p2 : h.IsList pl' [].toArray) (n2 : IsTup h ta [].toArray) (y4 : TyAt (fun _ => True) h vt u) (d : DictAt w h md [(PySem.Str.ofString "go", .str (pathOf i) t4)])
  (n3 : IsTup h ra [.bool B, .int (i : Int) t5, vt, st kd8.str t6].toArray) : LwPart w h (xs ++ [.ref im]) (stored kvs (pathOf i) (.ref sg)) (vs ++ [.ref ra]) (rows ++ [⟨B, u, kd8, .box u, pathOf i⟩]) :=
 LwPart.push' (r := ⟨B, u, kd8, .box u, pathOf i⟩) (kd := kd) hi i4 P (implAt_mk I2 htv p2 n2 y4 d hp) ⟨sg, pt, rg, pl, ow, ins, vo, kt, s0, a0, rfl, I1, p1, n1, y1, y2, y3⟩ ⟨ra, vt, t5, t6, rfl, n3, y4⟩ l1 l2 hr rfl
inductive KindPost (g : Heap) (L : Addr) (m : Str → Option Value) (I : Addr) (oI : Obj) (src ds : Addr) (og : Obj) (li : Addr) (lo : Obj) (rl : Addr) (ro : Obj) (l : List (Addr × Obj)) (kd : Kind) (B : Bool) (s : Shared) (v : Value) (s' : Shared) : Prop
 | mk : ∀ (k2 : Kind) (tk : Tok) (a b : Int) (t1 t2 : Tok) (n : Nat) (h : Heap) (tk' : Nat), (v = st k2.str tk) → (s' = { s with heap := h, toks := tk' }) → (Fr g L h m) → (News g L h ((I, oI) :: (src, PySem.W.listOf #[.int a t1, .int b t2] n) :: (ds, og) :: (li, lo) :: (rl, ro) :: l)) → ((B = true → k2 = kd)) → KindPost g L m I oI src ds og li lo rl ro l kd B s v s'
theorem kind_cut {M : Model} {A : Around} {E : Value → Shared → Prop} {s : Shared} {x : Sem Value} {Q : Value → Shared → Prop} {g : Heap} {L : Addr} {m : Str → Option Value} {I : Addr} {oI : Obj} {src ds : Addr} {og : Obj} {li : Addr} {lo : Obj} {rl : Addr} {ro : Obj} {l : List (Addr × Obj)} {kd : Kind} {B : Bool}
  (_F : Fr g L s.heap m) (_hB : m "is_trait" = some (.bool B)) (h1 : wpAny M A x (KindPost g L m I oI src ds og li lo rl ro l kd B s) E s)
  (h2 : ∀ (k2 : Kind) (tk : Tok) (a b : Int) (t1 t2 : Tok) (n : Nat) (h : Heap) (tk' : Nat), Fr g L h m → News g L h ((I, oI) :: (src, PySem.W.listOf #[.int a t1, .int b t2] n) :: (ds, og) :: (li, lo) :: (rl, ro) :: l) → (B = true → k2 = kd) → Q (st k2.str tk) { s with heap := h, toks := tk' }) : wpAny M A x Q E s :=
 wpAny_mono h1 (fun _ _ ⟨k2, tk, a, b, t1, t2, n, h, tk', e1, e2, F, N, k⟩ => e1 ▸ e2 ▸ h2 k2 tk a b t1 t2 n h tk' F N k) fun _ _ e => e
theorem dict_ne_inst {w : World} {o : Obj} {kvs : List (PySem.Str × Value)} {C d : Addr} (h : o.IsDictOf (KD w) kvs) : o ≠ instObj C d := fun e => by
 obtain ⟨es, ep, a, b, _⟩ := h
 subst e
 cases b
theorem dict0_ne {w : World} {o : Obj} {es : List DictEntry} {n : Nat} {p : String × Value} {fs : List (String × Value)} (h : o.IsDictOf (KD w) []) (hf : FieldsAre es (p :: fs)) : o ≠ dictOf es n := fun e => by
 obtain ⟨es', ep, a, b, _, c, _⟩ := h
 subst e
 have e2 : es.toArray = es' := by
  have : (dictOf es n).data = .dict es.toArray n := rfl
  rw [this] at b
  injection b
 subst e2
 cases es with
 | nil => unfold FieldsAre at hf; simp at hf
 | cons y r =>
  have q : Pairs (KD w) (y :: r) [] := by simpa using c
  cases q
theorem dict_cls {w : World} {o : Obj} {kvs : List (PySem.Str × Value)} (h : o.IsDictOf (KD w) kvs) : o.cls ≠ .type "tuple" := fun e => by
 obtain ⟨es, ep, a, b, _⟩ := h
 rw [a.1] at e
 injection e with e
 exact absurd e (by decide)
example : True := by
 k_with "call ref nil" =>
  (
   (with_reducible show wpAny _ _ (PySem.call (Value.ref 793) _) _ _ _)
   refine' world_new_w (by k_extra "a0") ?_
   k_extra "j1"
   obtain ⟨dr9, esr9, nr9, xr9, yr9, hfr9⟩ := i9
   k_extra "z0"
   have e1 : Apart wo9 dr9 := freshNe xr9 yr9 (by simp [instObj, dictOf])
   have e2 : Apart ds9 li9 := freshNe f19 f39 (dict_ne_list d19)
   have e3 : Apart dt9 li9 := freshNe f29 f39 (dict_ne_list d29)
   have e4 : Apart ds9 wo9 := freshNe f19 xr9 (dict_ne_inst d19)
   have e5 : Apart dt9 wo9 := freshNe f29 xr9 (dict_ne_inst d29)
   have e6 : Apart ds9 dr9 := freshNe f19 yr9 (dict0_ne d19 hfr9)
   have e7 : Apart dt9 dr9 := freshNe f29 yr9 (dict0_ne d29 hfr9)
   have e8 : Apart li9 wo9 := freshNe f39 xr9 (by simp [instObj, PySem.W.listOf])
   have e9 : Apart li9 dr9 := freshNe f39 yr9 (by simp [dictOf, PySem.W.listOf])
   have e0 : Apart dt9 ds9 := ne19
   have q1 : Far _ _ := freshApart ‹_› xr9
   have q2 : Far _ _ := freshApart ‹_› yr9
   have q3 : Far _ _ := freshApart ‹_› f19
   have q4 : Far _ _ := freshApart ‹_› f29
   have q5 : Far _ _ := freshApart ‹_› f39
   have WoE : InstE G0 L' [(wo9, instObj 793 dr9), (dr9, dictOf esr9 nr9)] wo9 793 (wdF a19 a29 ds9 dt9 li9 a39 a49) := fun h m F N => News.inst N (.head _) (.tail _ (.head _)) hfr9
   have N9 := news_fresh ‹_› (news_fresh ‹_› (news_fresh ‹_› (news_fresh ‹_› (news_fresh ‹_› (News.grown ‹_› st9) f39) f29) f19) yr9) xr9)
 k_with "f0" =>
  ((try dsimp only); first | exact (show Apart _ _ by with_reducible assumption) | exact Ne.symm (show Apart _ _ by with_reducible assumption) | k_ne)
 k_with "c4" =>
  (repeat (first | exact List.forall_mem_nil _ | with_reducible assumption | (refine far_sub ‹_› ?_; intro p hp; (repeat (first | exact hp | refine List.Mem.tail _ ?_)); done) | (apply fmc; k_extra "f0")))
 k_with "d2" =>
  (first | (refine' Upd.head ?_; k_extra "c4") | (refine' Upd.tail ?ua ?ub; (case ua => k_extra "f0"); (case ub => k_extra "d2")))
 k_with "b2" =>
  (first | (refine' UpdF.head ?_; k_extra "c4") | (refine' UpdF.tail ?ua ?ub; (case ua => k_extra "f0"); (case ub => k_extra "b2")))
 k_with "call ref cons" =>
  (
   (with_reducible show wpAny _ _ (PySem.call (Value.ref 818) _) _ _ _)
   k_extra "u0"
   k_extra "q1"
   k_extra "l0"
   refine' one_w (by k_extra "a0") NM (list_hide (News.isList NZ (by k_mem)) (by k_extra "f0")) (by simp) (by simp) ?_
   k_extra "s0"
   have N9 := news_swap NZ (by k_extra "d2") N9 st9
   clear NM
   first
   | (obtain ⟨kd9, tkd9, rfl⟩ := kind3 hi9; clear hi9; revert kd9 tkd9; refine clZ cZ.N.Kd ?_; refine gZ2 ?_; intro zc kd9 tkd9; clear_value kd9 tkd9; clear zc)
   | (obtain ⟨kd9, tkd9, rfl⟩ := kind4 hi9; clear hi9; revert kd9 tkd9; refine clZ cZ.N.Kd ?_; refine gZ2 ?_; intro zc kd9 tkd9; clear_value kd9 tkd9; clear zc))
 k_with "f5" =>
  (refine news_sub ‹_› ?_; (repeat (first | ((fail_if_success (apply fmc)); exact List.forall_mem_nil _) | ((fail_if_success (exact List.forall_mem_nil _)); apply fmc; k_extra "m"))); done)
 k_with "b0" =>
  (refine news_sub ‹_› ?_; (repeat (first | ((fail_if_success (apply fmc)); exact List.forall_mem_nil _) | ((fail_if_success (exact List.forall_mem_nil _)); apply fmc; k_extra "m"))); done)
 k_with "setItem ref str" =>
  (k_here; k_dflt (refine' kda_set (knd := PySem.strKind _ _) ?F ?N ?U ?d (strKind_is _ _ _ _) ?z ?_; (case F => k_asm); (case N => k_asm); (case U => k_extra "b2"); (case d => assumption); (case z => (rw [sizeLine_eq]; first | omega | exact Nat.le_of_ble_eq_true (by with_unfolding_all rfl)))); refine clZ cZ.O.H ?_; refine gZ2 ?_; intro zc h9 og8; clear_value h9 og8; clear zc; intro F9 N9 d8; (try dsimp only at N9))
 k_with "Exists" =>
  (k_here; first
   | (refine kdp_made_str (by k_asm) (by first | k_asm | exact News.nil) (Top.nolimit (by k_asm)) (by rfl) (of_decide_eq_true (by rfl)) (by rfl) ?_; refine clZ cZ.O.H ?_; refine gZ2 ?_; intro zc zh' zo'; clear_value zh' zo'; clear zc; intro zF' zN' zl1 zlo' zhd' zhf' zap')
   | (refine kda_made_str (by k_asm) (by first | k_asm | exact News.nil) (Top.nolimit (by k_asm)) (by rfl) (of_decide_eq_true (by rfl)) (by rfl) ?_; refine clZ cZ.O.H ?_; refine gZ2 ?_; intro zc zh' zo'; clear_value zh' zo'; clear zc; intro zF' zN' zl1 zlo' zhd'))
 k_with "d0" =>
  (repeat (first | exact List.forall_mem_nil _ | (apply fmc; k_extra "f0")))
 k_with "newTuple" =>
  (k_here; k_dflt (refine' newTupleF ?F ?N ?_ ?z; (case F => k_asm); (case N => k_asm); (case z => kmk_size)); intro D7 h7; clear_value D7 h7; intro F7 N7 l7; (try k_lt l7); (try k_sweep))
 k_with "newList cons" =>
  (k_here; k_dflt (refine' newListF ?k1 ?k2 ?_; (case k1 => k_asm); (case k2 => k_asm); k_whole); intro D7 h7; clear_value D7 h7; intro F7 N7 l7; (try k_lt l7); (try k_sweep))
 k_with "newList nil" =>
  (k_here; k_dflt (refine' newListF ?k1 ?k2 ?_; (case k1 => k_asm); (case k2 => k_asm); k_whole); (first | ((fail_if_success (revert rl9)); intro rl9 h7; clear_value rl9 h7) | (intro el9 h7; clear_value el9 h7)); intro F7 N7 l7; (try k_lt l7); (try k_sweep))
 k_with "call ref cons" =>
  (
   (with_reducible show wpAny _ _ (PySem.call (Value.ref 829) _) _ _ _)
   refine' self_w (ok := fun _ => True) (t := .param) (k := kd9) (by k_extra "a0") (.param (News.isTup ‹_› (by k_mem)) trivial) ?_
   k_extra "o1"
   k_extra "u0"
   have N7 : News G0 L' h9 ((rl9, _) :: _) := news_tl (news_tl (news_tl (News.grown NZ st9)))
   have N6 : News G0 L' h9 [(src, PySem.W.listOf #[.int a9 t19, .int b9 t29] n9), (ds9, os9), (dt9, ot9), (li9, PySem.W.listOf #[] 0), (rl9, PySem.W.listOf #[] 0)] := news_sub N7 (by repeat (first | exact List.forall_mem_nil _ | refine List.forall_mem_cons.mpr ⟨by k_extra "m", ?_⟩))
   have wE := tyE_of (ok' := fun _ => True) F9 (ty_off N6 (by repeat (first | exact List.forall_mem_nil _ | refine List.forall_mem_cons.mpr ⟨by first | exact dict_cls d19 | exact dict_cls d29 | simp, ?_⟩)) ty9) (fun _ n => n) (fun _ _ => trivial)
   simp only [List.map_cons, List.map_nil] at wE
   have r1 : ∀ p ∈ restH G0 L' [src, ds9, dt9, li9, rl9] h9, p.1 ≠ src := rest_ne (by simp)
   have r2 : ∀ p ∈ restH G0 L' [src, ds9, dt9, li9, rl9] h9, p.1 ≠ ds9 := rest_ne (by simp)
   have r3 : ∀ p ∈ restH G0 L' [src, ds9, dt9, li9, rl9] h9, p.1 ≠ dt9 := rest_ne (by simp)
   have r4 : ∀ p ∈ restH G0 L' [src, ds9, dt9, li9, rl9] h9, p.1 ≠ li9 := rest_ne (by simp)
   have r5 : ∀ p ∈ restH G0 L' [src, ds9, dt9, li9, rl9] h9, p.1 ≠ rl9 := rest_ne (by simp)
   have N9 := news_app N7 (rest_news (mu := [src, ds9, dt9, li9, rl9]) (g := G0) (L := L') (h := h9))
   simp only [List.cons_append, List.nil_append] at N9
   generalize restH G0 L' [src, ds9, dt9, li9, rl9] h9 = l1 at N9 wE r1 r2 r3 r4 r5
   skip
   clear N6 N7 NZ)
 k_with "call ref cons" =>
  (
   (with_reducible show wpAny _ _ (PySem.call (Value.ref 721) _) _ _ _)
   refine' sig_new_w (by k_extra "a0") ?_
   refine clZ cZ.N.H.N ?_; refine gZ3 ?_; intro zc sg9 h9 k9; clear_value sg9 h9 k9; clear zc; intro st9 F9 i9
   obtain ⟨dg9, esg9, ng9, xg9, yg9, hfg9⟩ := i9
   k_extra "u1"
   have g1 : Apart sg9 dg9 := freshNe xg9 yg9 (by simp [instObj, dictOf])
   have g2 : Far _ _ := freshApart ‹_› xg9
   have g3 : Far _ _ := freshApart ‹_› yg9
   have SgE : InstE G0 L' [(sg9, instObj 721 dg9), (dg9, dictOf esg9 ng9)] sg9 721 _ := fun h m F N => News.inst N (.head _) (.tail _ (.head _)) hfg9
   have N9 := news_fresh ‹_› (news_fresh ‹_› (News.grown ‹_› st9) yg9) xg9)
 k_with "call ref cons" =>
  (
   (with_reducible show wpAny _ _ (PySem.call (Value.ref 742) _) _ _ _)
   refine' trow_new_w (by k_extra "a0") ?_
   refine clZ cZ.N.H.N ?_; refine gZ3 ?_; intro zc tr9 h9 k9; clear_value tr9 h9 k9; clear zc; intro st9 F9 i9
   obtain ⟨dq9, esq9, nq9, xq9, yq9, hfq9⟩ := i9
   k_extra "i1"
   have h1 : Apart tr9 dq9 := freshNe xq9 yq9 (by simp [instObj, dictOf])
   have h2 : Far _ _ := freshApart ‹_› xq9
   have h3 : Far _ _ := freshApart ‹_› yq9
   have TrE : InstE G0 L' [(tr9, instObj 742 dq9), (dq9, dictOf esq9 nq9)] tr9 742 _ := fun h m F N => News.inst N (.head _) (.tail _ (.head _)) hfq9
   have N9 := news_fresh ‹_› (news_fresh ‹_› (News.grown ‹_› st9) yq9) xq9)
 k_with "call ref cons" =>
  (
   (with_reducible show wpAny _ _ (PySem.call (Value.ref 811) _) _ _ _)
   k_extra "u0"
   k_extra "q1"
   k_extra "l0"
   refine' take_w (by k_extra "a0") NM (by decide) (by decide) ?_
   k_extra "r0"
   have N9 := news_swap NZ (by k_extra "d2") N9 st9
   clear NM)
 trivial
theorem world_w (C : Cx w p loose mean mg mb A A₀ base h₀ outer env L m s.heap 40 250) {src : Addr} {a9 b9 : Int} {t19 t29 : Tok} {n9 : Nat} (N : News h₀ L s.heap [(src, PySem.W.listOf #[.int a9 t19, .int b9 t29] n9)])
    (ret : ∀ T (wo rl : Addr) rows kd a' b' t1 t2 n' k' h' tk', LawRows kd rows → (hideAll s.heap [src]).StaysIn h' → Fr h₀ L h' m → News h₀ L h' [(T, { cls := .type "tuple", data := .seq #[.ref wo, .ref rl] k' }), (src, PySem.W.listOf #[.int a' t1, .int b' t2] n')] →
      WAtS w (hideAll h' [src]) wo rows kd → LRows (hideAll h' [src]) rl rows → Q (.ref T) { s with heap := h', toks := tk' }) :
    wpAny (model PR w) A (PySem.call (.ref (836 : Nat)) [.ref src]) Q E s := by
 refine @disc _ ?y ?e
 case e =>
 haveI h : @Eq (PLift _) (PLift.up (by
  k_fill
  generalize hG : hideAll s.heap [src] = G0 at *
  revert C N hG ret
  revert src a9 b9 t19 t29 n9 G0
  k_extra "rv"
  refine no_implicit_lambda% (clZ (cPm cZ.H.N.N.N.I.I.N) ?_)
  k_extra "ld"
  refine gZ7 ?_
  intro zc0 src a9 b9 t19 t29 n9 G0
  clear_value src a9 b9 t19 t29 n9 G0
  intros C N hG ret
  k_extra "oC"
  k_extra "c1"
  have eG0 : G0 = G' := by rw [eG', ← hG]; rfl
  subst eG0
  have hsG : G0.get? src = none := hG ▸ hide_none
  have hsL : src ≠ L' := News.offL N' (.head _)
  k_steps
  k_extra "u0"
  k_extra "q1"
  have N4 : News G0 L' _ [(src, PySem.W.listOf #[.int a9 t19, .int b9 t29] n9), (ds9, os9), (li9, PySem.W.listOf #[] 0), (rl9, PySem.W.listOf #[] 0)] := news_sub NZ (by repeat (first | exact List.forall_mem_nil _ | refine List.forall_mem_cons.mpr ⟨by k_extra "m", ?_⟩))
  have NJ := news_app N4 (rest_news (mu := [src, ds9, li9, rl9]))
  simp only [List.cons_append, List.nil_append] at NJ
  refine ⟨_, 1 + i9, _, _, _, _, _, LwJ w G0 L' src wo9 rl9 ds9 li9 dt9 (wdF a19 a29 ds9 dt9 li9 a39 a49) kd9, rfl, hh, FZ, NJ, by omega, by assumption, ?j0, ?step, ?done⟩
  case j0 =>
    refine ⟨_, _, _, _, tkd9, _, _, _, _, [], [], [], [], _, rfl, ⟨rest_ne (by simp), rest_ne (by simp), rest_ne (by simp), rest_ne (by simp)⟩, d19, ⟨⟨Nat.le_refl _, rfl⟩, rfl, rfl, rfl⟩, (fun j r e => by simp at e), ⟨by k_dflt (exact rfl), by k_dflt (exact rfl), by k_dflt (exact rfl), by k_dflt (exact rfl)⟩, fun h m F N => rest_inst N NZ (by k_mem) (by k_mem) hfr9 (by k_extra "d0") (by k_extra "d0"), fun h m F N => ?_, fun h m F N => .nil⟩
    have sl : News G0 L' h l1 := news_sub N fun p hp => mem_rest_of (o := p.2) NZ (by repeat (first | exact hp | refine List.Mem.tail _ ?_)) (List.forall_mem_cons.mpr ⟨r1 p hp, List.forall_mem_cons.mpr ⟨r2 p hp, List.forall_mem_cons.mpr ⟨r4 p hp, List.forall_mem_cons.mpr ⟨r5 p hp, List.forall_mem_nil _⟩⟩⟩⟩)
    refine ⟨.ref tr9, rest_dict N NZ (by k_mem) ‹_› z29 (by k_extra "d0"), ?_⟩
    refine ⟨_, _, _, _, _, _, _, _, _, _, _, _, _, _, _, _, _, _, _, rfl, rest_inst N NZ (by k_mem) (by k_mem) hfq9 (by k_extra "d0") (by k_extra "d0"), rest_tup N NZ (by k_mem) (by k_extra "d0"), rest_dict N NZ (by k_mem) ‹_› ‹_› (by k_extra "d0"), rest_inst N NZ (by k_mem) (by k_mem) hfg9 (by k_extra "d0") (by k_extra "d0"),
      rest_list N NZ (by k_mem) (by k_extra "d0"), rest_tup N NZ (by k_mem) (by k_extra "d0"), rest_tup N NZ (by k_mem) (by k_extra "d0"), rest_tup N NZ (by k_mem) (by k_extra "d0"), TyE.now wE F sl, u8_at (X'.keeps F.keep), ?_⟩
    exact .pair (rest_tup N NZ (by k_mem) (by k_extra "d0")) trivial (rest_tup N NZ (by k_mem) (by k_extra "d0")) trivial (.param (rest_tup N NZ (by k_mem) (by k_extra "d0")) trivial) (.bool (rest_tup N NZ (by k_mem) (by k_extra "d0")) trivial)
  case step =>
    have m1 : Apart src ds9 := by show src ≠ ds9; k_extra "f0"
    have m2 : Apart src li9 := by show src ≠ li9; k_extra "f0"
    have m3 : Apart src rl9 := by show src ≠ rl9; k_extra "f0"
    have m4 : Apart ds9 li9 := by show ds9 ≠ li9; k_extra "f0"
    have m5 : Apart ds9 rl9 := by show ds9 ≠ rl9; k_extra "f0"
    have m6 : Apart li9 rl9 := by show li9 ≠ rl9; k_extra "f0"
    repeat (clear gX)
    repeat (rename News G0 L' _ _ => nn; clear nn)
    repeat (rename Fr G0 L' _ _ => nn; clear nn)
    repeat (rename Fresh _ _ _ _ => nn; clear nn)
    repeat (rename Ev _ _ _ _ => nn; clear nn)
    repeat (rename Heap.StaysIn _ _ => nn; clear nn)
    repeat (rename FieldsAre _ _ => nn; clear nn)
    repeat (rename Obj.IsDictOf _ _ _ => nn; clear nn)
    repeat (rename PyProof.V.FlatPairs _ _ _ => nn; clear nn)
    repeat (rename NewInst _ _ _ _ _ => nn; clear nn)
    intro i tkn m₁ news₁ h tk1 I oI hi hJ F3 N3 ne3 noC; clear noC
    have i4 : i < 4 := by omega
    obtain ⟨a9, b9, t19, t29, tkd9, n9, nx9, nv9, og9, kvs9, xs9, vs9, rows9, l1, rfl, ⟨r1, r2, r4, r5⟩, d19, ⟨⟨z1, z0⟩, z2, z3, z4⟩, hrw9, ⟨e1, e2, e3, e4⟩, WoE, TE, PE⟩ := hJ
    rw [known_map e1, known_map e2, known_map e3, known_map e4] at F3
    dsimp only at F3
    change Fr G0 L' h _ at F3
    change News G0 L' h _ at N3
    have hI0 : G0.get? I = none := (N3 _ (.head _)).2.2
    have bU := ty_base (u8_at X') hI0
    have bS := ty_base (S_at X') hI0
    (try simp only [List.forall_mem_cons] at ne3)
    (repeat (have gX : Apart _ _ := ne3.1; replace ne3 := ne3.2))
    k_with "d4" =>
      (
        have N4 : News G0 L' h9 [(src, PySem.W.listOf #[.int a9 t19, .int b9 t29] n9), (ds9, og9), (li9, PySem.W.listOf xs9.toArray nx9), (rl9, PySem.W.listOf vs9.toArray nv9)] := news_sub N9 (by repeat (first | exact List.forall_mem_nil _ | refine List.forall_mem_cons.mpr ⟨by k_extra "m", ?_⟩))
        have xE := tyE_of (mu := [I, src, ds9, li9, rl9]) (ok' := fun a => a ≠ I) F9 (ty_off2 N4 (by repeat (first | exact List.forall_mem_nil _ | refine List.forall_mem_cons.mpr ⟨by first | exact dict_cls d19 | simp, ?_⟩)) ty9) (fun a n hm => by rcases List.mem_cons.mp hm with q | hm; exact n.1 q; exact n.2 hm) (fun _ n => n.1)
        have N9 := news_app N9 (rest_news (mu := [I, src, ds9, li9, rl9]) (g := G0) (L := L') (h := h9))
        simp only [List.cons_append, List.nil_append] at N9
        have r1 := List.forall_mem_append.mpr ⟨r1, rest_ne (g := G0) (L := L') (h := h9) (mu := [I, src, ds9, li9, rl9]) (b := src) (by simp)⟩
        have r2 := List.forall_mem_append.mpr ⟨r2, rest_ne (g := G0) (L := L') (h := h9) (mu := [I, src, ds9, li9, rl9]) (b := ds9) (by simp)⟩
        have r4 := List.forall_mem_append.mpr ⟨r4, rest_ne (g := G0) (L := L') (h := h9) (mu := [I, src, ds9, li9, rl9]) (b := li9) (by simp)⟩
        have r5 := List.forall_mem_append.mpr ⟨r5, rest_ne (g := G0) (L := L') (h := h9) (mu := [I, src, ds9, li9, rl9]) (b := rl9) (by simp)⟩
        have ne3 := List.forall_mem_append.mpr ⟨ne3, rest_ne (g := G0) (L := L') (h := h9) (mu := [I, src, ds9, li9, rl9]) (b := I) (by simp)⟩
        have WoE := Ev.up (l' := l1 ++ restH G0 L' [I, src, ds9, li9, rl9] h9) (fun p hp => List.mem_append_left _ hp) WoE
        have TE := Ev.up (l' := l1 ++ restH G0 L' [I, src, ds9, li9, rl9] h9) (fun p hp => List.mem_append_left _ hp) TE
        have PE := Ev.up (l' := l1 ++ restH G0 L' [I, src, ds9, li9, rl9] h9) (fun p hp => List.mem_append_left _ hp) PE
        (try have tE9 := Ev.up (l' := l1 ++ restH G0 L' [I, src, ds9, li9, rl9] h9) (fun p hp => List.mem_append_left _ hp) tE9)
        have xE : Ev G0 L' (l1 ++ restH G0 L' [I, src, ds9, li9, rl9] h9) (fun h => TyAt (fun a => a ≠ I) h _ _) := fun h m F N => (xE h m F (news_sub N fun p hp => List.mem_append_right _ hp)).imp fun _ x => x.1
        clear N4
        first
        | generalize l1 ++ restH G0 L' [I, src, ds9, li9, rl9] h9 = l1 at N9 r1 r2 r4 r5 ne3 WoE TE PE xE tE9
        | generalize l1 ++ restH G0 L' [I, src, ds9, li9, rl9] h9 = l1 at N9 r1 r2 r4 r5 ne3 WoE TE PE xE
        skip)
    k_with "call ref cons" =>
      (
        (with_reducible show wpAny _ _ (PySem.call (Value.ref 818) _) _ _ _)
        k_extra "u0"
        k_extra "q1"
        k_extra "l0"
        have ho := (NM _ (.head _)).1
        have hk := hide_keep FZ hsG
        refine' one_w (by k_extra "a0") NM (list_hide (News.isList NZ (by k_mem)) (by k_extra "f0")) (by simp) (by simp) ?_
        refine clZ cZ.N.H.N.N.N.I.I.V.N ?_; refine fZ8 ?_; intro zc_0 i8 v9 a9 b9 t19 t29 n9 h9; clear_value i8 v9 a9 b9 t19 t29 n9 h9; refine gZ1 ?_; intro zc k9; clear_value k9; intro hi9 st9 F9 N9
        have N9 := news_swap NZ (by k_extra "d2") N9 st9
        first
        | (obtain ⟨kd8, tkd8, rfl⟩ := kind4 hi9
           clear hi9
           revert kd8 tkd8; refine clZ cZ.N.Kd ?_; refine gZ2 ?_; intro zc kd8 tkd8; clear_value kd8 tkd8; clear zc)
        | (obtain ⟨u9, hp9, ty9⟩ := draw5 (P := fun v t => TyAt (fun a => a ≠ I) (hideAll _ [src]) v t) (bU.keeps hk) (bS.keeps hk) (bS.keeps hk) (.box (isTup_hide (News.isTup NZ (by k_mem)) ho) (by k_extra "f0") (bS.keeps hk)) (.ref (isTup_hide (News.isTup NZ (by k_mem)) ho) (by k_extra "f0") (bS.keeps hk)) hi9
           obtain ⟨av9, rfl⟩ := ty9.isRef
           clear hi9
           replace hp9 := hp9
           revert u9 av9 ty9 hp9; refine clZ cZ.N.T ?_; refine gZ2 ?_; intro zc u9 av9; clear_value u9 av9; clear zc; intro ty9 hp9
           have ty9 := ty9.keeps st9
           k_extra "d4"
           have tE9 := xE
           clear xE)
        clear NM ho)
    k_with "b0" =>
      (rename News G0 L' _ (_ :: _) => NY; exact news_sub NY (fun p hp => by repeat (first | exact hp | refine List.Mem.tail _ ?_)))
    k_with "call ref cons" =>
      (
        (with_reducible show wpAny _ _ (PySem.call (Value.ref 829) _) _ _ _)
        k_extra "u0"
        refine' self_w (ok := fun a => a ≠ I) (t := u9) (k := kd8) (by k_extra "a0") (tE9 _ _ ‹_› (by k_extra "b0")) ?_
        k_extra "o1"
        have N9 := News.grown NZ st9
        have ty9 := ty9.imp (ok' := fun a => a ≠ I) fun a x => x.elim id (fun n q => by (rw [q] at n; have y := (NZ (I, oI) (by k_mem)).1; dsimp only at y; rw [n] at y; cases y))
        k_extra "d4"
        have rE9 := xE
        clear xE)
    k_with "call ref cons" =>
      (
        (with_reducible show wpAny _ _ (PySem.call (Value.ref 764) _) _ _ _)
        refine' irow_new_w (by k_extra "a0") ?_
        refine clZ cZ.N.H.N.N ?_; refine gZ4 ?_; intro zc im9 ti9 h9 k9; clear_value im9 ti9 h9 k9; clear zc; intro st9 F9 i9
        obtain ⟨dq9, esq9, nq9, xq9, yq9, hfq9⟩ := i9
        k_extra "i1"
        have h1 : Apart im9 dq9 := freshNe xq9 yq9 (by simp [instObj, dictOf])
        have h2 : Far _ _ := freshApart ‹_› xq9
        have h3 : Far _ _ := freshApart ‹_› yq9
        have N9 := news_fresh ‹_› (news_fresh ‹_› (News.grown ‹_› st9) yq9) xq9)
    k_with "call builtin:list.append" =>
      (k_here; k_dflt (refine' append_K ?k1 ?k2 ?k3 ?_ ?z; (case k1 => k_asm); (case k2 => k_asm); (case k3 => k_extra "d2"); (case z => first | exact Nat.le_of_ble_eq_true rfl | (rw [List.size_toArray, sizeLine_eq]; omega)); k_whole); refine clZ cZ.H ?_; refine gZ1 ?_; intro zc h7; clear_value h7; clear zc; intro F7 N7; (try k_sweep))
    rename_i u2_0 u2_1 u2_2 u2_3 u2_4 u2_5 u2_6 u2_7 u2_8 u2_9 u2_10 u2_11 u2_12 u2_13 u2_14 u2_15 u2_16 u2_17 u2_18 u2_19 u2_20 u2_21 u2_22 u2_23 u2_24 u2_25 u2_26 u2_27 u2_28 u2_29 u2_30 u2_31 u2_32 u2_33 u2_34 u2_35 u2_36 u2_37 u2_38 u2_39 u2_40 u2_41 u2_42 u2_43 u2_44 u2_45 u2_46 u2_47 u2_48 u2_49 u2_50 u2_51 u2_52 u2_53 u2_54 u2_55 u2_56 u2_57 u2_58 u2_59 u2_60 u2_61 u2_62 u2_63 u2_64 u2_65 u2_66 u2_67 u2_68 u2_69 u2_70 u2_71 u2_72 u2_73 u2_74 u2_75 u2_76 u2_77 u2_78 u2_79 u2_80 u2_81 u2_82 u2_83 u2_84 u2_85 u2_86 u2_87 u2_88 u2_89 u2_90 u2_91 u2_92 u2_93 u2_94 u2_95
    revert hi i4 d19 hrw9 WoE TE PE r1 r2 r4 r5 z1 z0 z2 z3 z4 e1 e2 e3 e4 F3 N3 hI0 bU bS u2_93 u2_94 u2_95 gX ne3
    revert tk i tkn m₁ h tk1 I oI a9 b9 t19 t29 tkd9 n9 nx9 nv9 og9 kvs9 xs9 vs9 rows9 l1
    refine no_implicit_lambda% (clZ cZ.l.Rs.L.L.k.O.N.N.N.N.N.N.I.I.O.N.N.H.M.N.N.N ?_)
    refine fZ8 ?_
    intro zc2_0 tk i tkn m₁ h tk1 I oI
    clear_value tk i tkn m₁ h tk1 I oI
    refine fZ8 ?_
    intro zc2_1 a9 b9 t19 t29 tkd9 n9 nx9 nv9
    clear_value a9 b9 t19 t29 tkd9 n9 nx9 nv9
    refine gZ6 ?_
    intro zc2 og9 kvs9 xs9 vs9 rows9 l1
    clear_value og9 kvs9 xs9 vs9 rows9 l1
    intros hi i4 d19 hrw9 WoE TE PE r1 r2 r4 r5 z1 z0 z2 z3 z4 e1 e2 e3 e4 F3 N3 hI0 bU bS u2_93 u2_94 u2_95 gX ne3
    repeat ((fail_if_success (with_reducible show wpAny _ _ (eval (Expr.IfExp (Expr.Name _ _) (Expr.Name _ _) (Expr.Call _ _ _ _) _) _) _ _ _)); k_extra "h0")
    k_extra "q1"
    refine' kind_cut (I := I) (oI := oI) (src := src) (ds := ds9) (og := og9) (li := li9) (lo := PySem.W.listOf xs9.toArray nx9) (rl := rl9) (ro := PySem.W.listOf vs9.toArray nv9) (l := l1) (kd := kd9) FZ (by k_dflt (exact rfl)) ?h1 ?h2
    case h1 =>
      k_steps
      all_goals
        k_extra "u0"
        k_extra "q1"
        have N4 : News G0 L' _ ((I, oI) :: (src, PySem.W.listOf #[.int a9 t19, .int b9 t29] n9) :: (ds9, og9) :: (li9, PySem.W.listOf xs9.toArray nx9) :: (rl9, PySem.W.listOf vs9.toArray nv9) :: l1) := news_sub NZ (by (iterate 5 (refine List.forall_mem_cons.mpr ⟨by k_extra "m", ?_⟩)); exact fun p hp => by repeat (first | exact hp | refine List.Mem.tail _ ?_))
      · exact ⟨kd9, _, _, _, _, _, _, _, _, rfl, rfl, FZ, N4, fun _ => rfl⟩
      · exact ⟨kd8, _, _, _, _, _, _, _, _, rfl, rfl, FZ, N4, fun q => absurd (eq_of_beq q) ‹_›⟩
    case h2 =>
      refine clZ cZ.N.H.N.N.N.I.I.N.Kd ?_; refine fZ8 ?_; intro zc_0 kd8 tkd8 a9 b9 t19 t29 n9 h9; clear_value kd8 tkd8 a9 b9 t19 t29 n9 h9; refine gZ1 ?_; intro zc k9; clear_value k9; intro F9 N9 hkd8
      k_steps
      iterate 2
        · rename News G0 L' _ (_ :: _) => NZ
          k_extra "q1"
          have N4 : News G0 L' _ [(I, oI), (src, PySem.W.listOf #[.int a9 t19, .int b9 t29] n9), (ds9, og8), (li9, PySem.W.listOf (xs9.toArray.push (.ref im9)) (nx9 + 1)), (rl9, PySem.W.listOf (vs9.toArray.push (.ref D7)) (nv9 + 1))] := news_sub NZ (by repeat (first | exact List.forall_mem_nil _ | refine List.forall_mem_cons.mpr ⟨by k_extra "m", ?_⟩))
          rw [List.push_toArray, List.push_toArray] at N4
          have NJ := news_app N4 (rest_news (mu := [I, src, ds9, li9, rl9]))
          simp only [List.cons_append, List.nil_append] at NJ
          have sub1 : ∀ p ∈ l1, p ∈ restH G0 L' [I, src, ds9, li9, rl9] _ := fun p hp => mem_rest_of (o := p.2) NZ (by repeat (first | exact hp | refine List.Mem.tail _ ?_)) (List.forall_mem_cons.mpr ⟨ne3 p hp, List.forall_mem_cons.mpr ⟨r1 p hp, List.forall_mem_cons.mpr ⟨r2 p hp, List.forall_mem_cons.mpr ⟨r4 p hp, List.forall_mem_cons.mpr ⟨r5 p hp, List.forall_mem_nil _⟩⟩⟩⟩⟩)
          have e0 : (PySem.Str.ofString "impl#" ++ PySem.Str.ofString (toString (i : Int)) ++ PySem.Str.ofString "::go") = pathOf i := rfl
          rename Obj.IsDictOf _ _ _ => dgo
          rw [e0] at hfg9 d8 dgo
          refine LPost.intro FZ NJ (List.forall_mem_cons.mpr ⟨by k_extra "f0", List.forall_mem_cons.mpr ⟨by k_extra "f0", List.forall_mem_cons.mpr ⟨by k_extra "f0", List.forall_mem_cons.mpr ⟨by k_extra "f0", rest_ne (by simp)⟩⟩⟩⟩) ?_
          refine ⟨_, _, _, _, tkd9, _, _, _, _, _, _, _, rows9 ++ [⟨_, u9, kd8, .box u9, pathOf i⟩], _, rfl, ⟨rest_ne (by simp), rest_ne (by simp), rest_ne (by simp), rest_ne (by simp)⟩, d8, ⟨⟨Nat.le_trans (stored_len _ _ _) (Nat.succ_le_succ z1), by rw [va_stored, if_neg (path_script i i4)]; exact z0⟩, by simp [z2], by simp [z3], by simp [z4]⟩, lawrow_push (r := ⟨_, u9, kd8, .box u9, pathOf i⟩) z4 hrw9 ⟨rfl, rfl, hkd8, hp9⟩, ⟨by k_dflt (exact rfl), by k_dflt (exact rfl), by k_dflt (exact rfl), by k_dflt (exact rfl)⟩, Ev.up sub1 WoE, Ev.up sub1 TE, ?_⟩
          intro h m F N
          have sl := news_sub N sub1
          have ty1 := (tE9 h m F sl).imp (ok' := fun _ => True) fun _ _ => trivial
          have ty2 := (rE9 h m F sl).imp (ok' := fun _ => True) fun _ _ => trivial
          have z1 : Inst h sg9 721 _ := rest_inst N NZ (by k_mem) (by k_mem) hfg9 (by k_extra "d0") (by k_extra "d0")
          have z5 : Inst h im9 764 _ := rest_inst N NZ (by k_mem) (by k_mem) hfq9 (by k_extra "d0") (by k_extra "d0")
          have z6 : IsTup h D7 _ := rest_tup N NZ (by k_mem) (by k_extra "d0")
          refine' lw_turn (kd := kd9) z4 i4 (PE h m F sl) hp9 hrw9 z2 z3 z1 ?p1 ?n1 ty2 ?y2 ?y3 z5 ?htv ?p2 ?n2 ty1 ?dd z6
          case htv => with_reducible_and_instances first | (apply Eq.symm; apply if_pos; apply beq_iff_eq.mpr; assumption) | (apply Eq.symm; apply if_neg; apply mt eq_of_beq; assumption)
          case y2 => exact u8_at (X'.keeps F.keep)
          case p1 => exact rest_list N NZ (by k_mem) (by k_extra "d0")
          case n1 => exact rest_tup N NZ (by k_mem) (by k_extra "d0")
          case y3 => exact .box (rest_tup N NZ (by k_mem) (by k_extra "d0")) trivial ty1
          case p2 => exact rest_list N NZ (by k_mem) (by k_extra "d0")
          case n2 => exact rest_tup N NZ (by k_mem) (by k_extra "d0")
          case dd => exact rest_dict N NZ (by k_mem) dgo ‹_› (by k_extra "d0")
          (try exact 0)
  case done =>
    have m1 : Apart src ds9 := by show src ≠ ds9; k_extra "f0"
    have m2 : Apart src li9 := by show src ≠ li9; k_extra "f0"
    have m3 : Apart src rl9 := by show src ≠ rl9; k_extra "f0"
    repeat (clear gX)
    repeat (rename News G0 L' _ _ => nn; clear nn)
    repeat (rename Fr G0 L' _ _ => nn; clear nn)
    repeat (rename Fresh _ _ _ _ => nn; clear nn)
    repeat (rename Ev _ _ _ _ => nn; clear nn)
    repeat (rename FieldsAre _ _ => nn; clear nn)
    repeat (rename Obj.IsDictOf _ _ _ => nn; clear nn)
    repeat (rename PyProof.V.FlatPairs _ _ _ => nn; clear nn)
    intro m' news' h tk1 hJ F3 N3
    obtain ⟨a9, b9, t19, t29, tkd9, n9, nx9, nv9, og9, kvs9, xs9, vs9, rows9, l1, rfl, ⟨r1, r2, r4, r5⟩, d19, ⟨⟨z1, z0⟩, z2, z3, z4⟩, hrw9, ⟨e1, e2, e3, e4⟩, WoE, TE, PE⟩ := hJ
    rw [known_map e1, known_map e2] at F3
    dsimp only at F3
    change Fr G0 L' h _ at F3
    change News G0 L' h _ at N3
    rename_i u4_0 u4_1 u4_2 u4_3 u4_4 u4_5 u4_6 u4_7 u4_8 u4_9 u4_10 u4_11 u4_12 u4_13 u4_14 u4_15 u4_16 u4_17 u4_18 u4_19 u4_20 u4_21 u4_22 u4_23 u4_24 u4_25 u4_26 u4_27 u4_28 u4_29 u4_30 u4_31 u4_32 u4_33 u4_34 u4_35 u4_36 u4_37 u4_38 u4_39 u4_40 u4_41 u4_42 u4_43 u4_44 u4_45 u4_46 u4_47 u4_48 u4_49 u4_50 u4_51 u4_52 u4_53 u4_54 u4_55 u4_56 u4_57 u4_58 u4_59 u4_60 u4_61 u4_62 u4_63 u4_64 u4_65 u4_66 u4_67 u4_68 u4_69 u4_70 u4_71 u4_72 u4_73 u4_74 u4_75 u4_76 u4_77 u4_78 u4_79 u4_80 u4_81 u4_82 u4_83 u4_84 u4_85 u4_86 u4_87 u4_88 u4_89 u4_90 u4_91 u4_92 u4_93 u4_94 u4_95 u4_96 u4_97 u4_98
    revert st9 d19 hrw9 WoE TE PE r1 r2 r4 r5 z1 z0 z2 z3 z4 e1 e2 e3 e4 F3 N3
    revert tk m' h tk1 a9 b9 t19 t29 tkd9 n9 nx9 nv9 og9 kvs9 xs9 vs9 rows9 l1
    refine no_implicit_lambda% (clZ cZ.l.Rs.L.L.k.O.N.N.N.N.N.N.I.I.N.H.M.N ?_)
    refine fZ8 ?_
    intro zc4_0 tk m' h tk1 a9 b9 t19 t29
    clear_value tk m' h tk1 a9 b9 t19 t29
    refine fZ8 ?_
    intro zc4_1 tkd9 n9 nx9 nv9 og9 kvs9 xs9 vs9
    clear_value tkd9 n9 nx9 nv9 og9 kvs9 xs9 vs9
    refine gZ2 ?_
    intro zc4 rows9 l1
    clear_value rows9 l1
    intros st9 d19 hrw9 WoE TE PE r1 r2 r4 r5 z1 z0 z2 z3 z4 e1 e2 e3 e4 F3 N3
    k_steps
    k_extra "u0"
    k_extra "q1"
    rename News h₀ L _ (_ :: _) => NE
    have FH := Fr.hideC FZ hsG hsL
    have NH := led_hide (news_sub NZ (l := l1) (fun p hp => by repeat (first | exact hp | refine List.Mem.tail _ ?_))) r1
    obtain ⟨tv, TD, TT⟩ := TE _ _ FH NH
    have PP := PE _ _ FH NH
    refine ret D7 wo9 rl9 rows9 kd9 _ _ _ _ _ _ _ _ ⟨by omega, hrw9⟩ (Fr.keep FZ) ‹_› (news_sub NE (by repeat (first | exact List.forall_mem_nil _ | refine List.forall_mem_cons.mpr ⟨by k_extra "m", ?_⟩))) ⟨a19, a29, ds9, dt9, li9, a39, a49, xs9, kvs9, tv, WoE _ _ FH NH, list_hide (News.isList NZ (by k_mem)) (by k_extra "f0"), z2, PP.im, ?_, PP.sg, TD, TT, by omega, z0⟩ ⟨vs9, list_hide (News.isList NZ (by k_mem)) (by k_extra "f0"), z3, PP.rw_⟩
    exact ⟨Heap.dictOf_iff.mpr ⟨og9, hideAll_get _ (News.at (p := (ds9, og9)) NZ (by k_mem)) (fun hm => by have q := List.mem_singleton.mp hm; revert q; k_extra "f0"), d19⟩, z19⟩)) ?y := by k_extra "cv"
 k_extra "zz"
noncomputable def flt (sel : Nat → Bool) (its : List Value) (n : Nat) : List Value := ((its.take n).zipIdx.filter fun p => sel p.2).map (·.1)
theorem flt_succ {sel : Nat → Bool} {its : List Value} {i : Nat} {v : Value} (e : its[i]? = some v) : flt sel its (i + 1) = if sel i then flt sel its i ++ [v] else flt sel its i := by
 have hi : i < its.length := (List.getElem?_eq_some_iff.mp e).1
 unfold flt
 rw [List.take_add_one, e, List.zipIdx_append, List.filter_append, List.map_append]
 simp only [Option.toList, List.zipIdx_cons, List.zipIdx_nil, Nat.zero_add, List.length_take, Nat.min_eq_left (Nat.le_of_lt hi)]
 cases q : sel i <;> simp [q]
section
variable {prog : Program} {w : World} {A : Around} {E : Value → Shared → Prop} {s : Shared} {g : Heap} {L : Addr} {m : Str → Option Value} {env : Env}
theorem turns_flt {ct : PySem.Expr} {x : Str} {pe : Pos} {scope : Scope} {cl : List (Str × Addr)} {ax : Addr} {its : List Value} {l : List (Addr × Obj)} {Fin : List Value → List (Addr × Obj) → Prop} (sel : Nat → Bool) (hsrc : LCg.SrcAt g ax its.toArray l)
  (name : ∀ (C : Addr) (oC : Obj) (m₂ : Str → Option Value) (v : Value) (s₁ : Shared) (Q' E' : Value → Shared → Prop), LCg.NsObj oC m₂ → m₂ x = some v → s₁.heap.get? C = some oC → Q' v s₁ → wpAny (model prog w) A (eval (.Name x pe) (compEnvC scope cl C env)) Q' E' s₁)
  (turn : ∀ i v C oC m₂ h tk, its[i]? = some v → LCg.NsObj oC m₂ → m₂ x = some v → Fr g L h m → News g L h ((C, oC) :: l) →
   ∀ (Q' : Bool → Shared → Prop) (E' : Value → Shared → Prop), (∀ h'' tk'', h.StaysIn h'' → Fr g L h'' m → Q' (sel i) { s with heap := h'', toks := tk'' }) → wpAny (model prog w) A (isTrue ct (compEnvC scope cl C env) (eval ct (compEnvC scope cl C env))) Q' E' { s with heap := h, toks := tk })
  (fin : Fin (flt sel its its.length) l) :
  LCt.CompRestT prog w A g L m env ct (.Name x pe) x scope cl s (LCg.SrcAt g ax its.toArray) (fun i v => its.toArray[i]? = some v) Fin its.length 0 [] l := by
 have all : ∀ k i, i + k = its.length →
   LCt.CompRestT prog w A g L m env ct (.Name x pe) x scope cl s (LCg.SrcAt g ax its.toArray) (fun i v => its.toArray[i]? = some v) Fin k i (flt sel its i) l := by
  intro k
  induction k with
  | zero => intro i hi; rw [show i = its.length by omega]; exact fin
  | succ k ih =>
   intro i hi
   intro v I oI C oC D m₂ h tk E' hP hNs hx F N off ne
   have hv : its[i]? = some v := by simpa using hP
   refine turn i v C oC m₂ h tk hv hNs hx F (news_sub N fun p hp => ?_) _ _ fun h'' tk'' st F'' => ?_
   ·rcases List.mem_cons.mp hp with rfl | hp
    ·exact .tail _ (.head _)
    ·exact .tail _ (.tail _ (.tail _ hp))
   have N'' := News.grown N st
   have nx := ih (i + 1) (by k_extra "le")
   rw [flt_succ hv] at nx
   cases hs : sel i with
   | true =>
    rw [hs] at nx
    rw [if_pos rfl]
    rw [if_pos rfl] at nx
    exact name C oC m₂ v _ _ _ hNs hx (N'' _ (.tail _ (.head _))).1 ⟨h'', tk'', l, rfl, F'', N'', off, hsrc, nx⟩
   | false =>
    rw [hs] at nx
    rw [if_neg Bool.false_ne_true]
    rw [if_neg Bool.false_ne_true] at nx
    exact ⟨h'', tk'', l, rfl, F'', N'', off, hsrc, nx⟩
 exact all its.length 0 (Nat.zero_add _)
end
theorem all2_of {α β : Type} {R : α → β → Prop} {l : List α} {r : List β} (hl : l.length = r.length) (h : ∀ (i : Nat) v, l[i]? = some v → ∃ a, r[i]? = some a ∧ R v a) : All2 R l r := ⟨hl, h⟩
theorem all2_flt {α : Type} {P : Value → α → Prop} {sel : Nat → Bool} {f : α → Bool} {vs : List Value} {R : List α} (x : All2 P vs R) (hs : ∀ (i : Nat) a, R[i]? = some a → sel i = f a) : All2 P (flt sel vs vs.length) (R.filter f) := by
 have all : ∀ n, n ≤ vs.length → All2 P (flt sel vs n) ((R.take n).filter f) := by
  intro n
  induction n with
  | zero => intro _; exact .nil
  | succ n ih =>
   intro hn
   have e : vs[n]? = some vs[n] := List.getElem?_eq_getElem (by k_extra "le")
   obtain ⟨a, ea, pa⟩ := x.get e
   rw [flt_succ e, List.take_add_one, ea, List.filter_append, hs n a ea]
   simp only [Option.toList, List.filter_cons, List.filter_nil]
   cases f a with
   | true => simp only [if_true]; exact (ih (by k_extra "le")).snoc pa
   | false => simp only [Bool.false_eq_true, if_false, List.append_nil]; exact ih (by k_extra "le")
 have := all vs.length (Nat.le_refl _)
 rwa [x.1, List.take_length, ← x.1] at this
noncomputable def rowSel (f : Row × Nat → Bool) (R : List (Row × Nat)) (i : Nat) : Bool := match R[i]? with
 | some p => f p
 | none => false
theorem rowSel_at {f : Row × Nat → Bool} {R : List (Row × Nat)} (i : Nat) (p : Row × Nat) (e : R[i]? = some p) : rowSel f R i = f p := by unfold rowSel; rw [e]
abbrev RowP (h : Heap) (v : Value) (p : Row × Nat) : Prop := RowAt h v p.2 p.1
theorem rowP_of {h : Heap} {vs : List Value} {rows : List Row} (hl : vs.length = rows.length) (x : ∀ (i : Nat) v, vs[i]? = some v → ∃ r, rows[i]? = some r ∧ RowAt h v i r) : All2 (RowP h) vs rows.zipIdx :=
 all2_of (by rw [List.length_zipIdx, hl]) fun i v e => by
  obtain ⟨r, a, b⟩ := x i v e
  exact ⟨(r, i), by rw [List.getElem?_zipIdx, a]; simp, b⟩
noncomputable def lawHits (u : Ty) (rows : List Row) : List (Row × Nat) := rows.zipIdx.filter fun p => decide (selfTy p.1.kind p.1.told = u)
theorem law_own (u : Ty) (rows : List Row) : (lawHits u rows).filter (fun p => !p.1.tr) = ownHits u rows := by
 unfold lawHits ownHits isOwn
 rw [List.filter_filter]
inductive LawHit (g h : Heap) (rows : List Row) (u : Ty) : Value → Prop
 | two {tk} : 1 < (ownHits u rows).length → LawHit g h rows u (st "trait" tk)
 | own {a fa n t vo r i} : ownHits u rows = [(r, i)] → Fresh g h a (PySem.W.listOf #[.ref fa, st r.kind.str t, vo] n) → FnXAt h fa (.impl (pathOf i)) → TyAt (fun _ => True) h vo (.box r.told) → LawHit g h rows u (.ref a)
 | no : ownHits u rows = [] → (lawHits u rows).filter (fun p => p.1.tr) = [] → LawHit g h rows u .none
 | trait {a fa n t vo r i l} : ownHits u rows = [] → (lawHits u rows).filter (fun p => p.1.tr) = (r, i) :: l → Fresh g h a (PySem.W.listOf #[.ref fa, st r.kind.str t, vo] n) → FnXAt h fa (.trait r.told) → TyAt (fun _ => True) h vo (.pair r.told .bool) → LawHit g h rows u (.ref a)
theorem pat_self {k : Kind} {t : Ty} (h : t.isPat) : (selfTy k t).size ≤ 30 := by
 rcases h with rfl | rfl | rfl | rfl <;> cases k <;> decide
example : True := by
 k_with "exec Assign cons ListComp" =>
  (k_here; k_dflt (refine LCt.Assign_ListComp_T (F₀ := by assumption) (by rfl) (by with_unfolding_all rfl) (by with_unfolding_all rfl) (by decide) (by rfl) (by decide) (by rfl) (by rfl) (by rfl) ?_))
 k_with "eval ListComp" =>
  (k_here; k_dflt (refine LCt.ListComp_T (F₀ := by assumption) (by with_unfolding_all rfl) (by decide) (by rfl) (by decide) (by rfl) ?_))
 trivial
theorem zip_at {rows : List Row} {i : Nat} {p : Row × Nat} (h : rows.zipIdx[i]? = some p) : rows[i]? = some p.1 ∧ p.2 = i := by
 rw [List.getElem?_zipIdx] at h
 cases e : rows[i]? with
 | none => rw [e] at h; cases h
 | some r => rw [e] at h; simp at h; exact ⟨by rw [← h], by rw [← h]⟩
theorem own_lt {u : Ty} {rows : List Row} {p : Row × Nat} (h : p ∈ ownHits u rows) : p.2 < rows.length := by
 obtain ⟨i, hi⟩ := List.getElem?_of_mem (List.mem_filter.mp h).1
 obtain ⟨a, b⟩ := zip_at hi
 rw [b]; exact (List.getElem?_eq_some_iff.mp a).1
theorem lawat_w (C : Cx w p loose mean mg mb A A₀ base h₀ outer env L m s.heap 20 150) {rl : Addr} {vs : List Value} {rows : List Row} {kd : Kind} {u : Ty} {vu : Value} {ok : Addr → Prop} (hl : s.heap.IsList rl vs.toArray) (AP : All2 (RowP s.heap) vs rows.zipIdx) (LR : LawRows kd rows) (hu : TyAt ok s.heap vu u) (hz : u.size ≤ 30)
  (ret : ∀ v h' tk', LawHit s.heap h' rows u v → s.heap.StaysIn h' → Fr h₀ L h' m → Q v { s with heap := h', toks := tk' }) :
  wpAny (model PR w) A (PySem.call (.ref (841 : Nat)) [.ref rl, vu]) Q E s := by
 refine @disc _ ?y ?e
 case e =>
 haveI h : @Eq (PLift _) (PLift.up (by
 k_fill
 obtain ⟨au, rfl⟩ := hu.isRef
 revert C hl AP LR hz ret hu
 revert rl vs rows kd u ok au
 k_extra "rv"
 refine no_implicit_lambda% (clZ (cPm cZ.N.P.T.Kd.Rs.L.N) ?_)
 k_extra "ld"
 refine gZ7 ?_
 intro zc0 rl vs rows kd u ok au
 clear_value rl vs rows kd u ok au
 intros C hl AP LR hz ret hu
 k_extra "oC"
 k_extra "e0"
 have hlen : vs.length ≤ 4 := by have := AP.len; rw [List.length_zipIdx] at this; have := LR.len; omega
 k_steps
 k_extra "y0"
 k_extra "w1"
 refine LCt.CompSrcT.base hh FZ NZ hl (by rw [List.size_toArray, sizeLine_eq]; omega) (fun g => turns_flt (rowSel (fun p => decide (selfTy p.1.kind p.1.told = u)) rows.zipIdx) (.inl hl) ?name ?turn ?fin)
 case name => exact fun C oC m₂ v s₁ Q' E' hC hx hg q => ldVarK (hC.ns hg) hx q rfl rfl (by decide)
 case turn =>
  intro i v C oC m₂ h tk hv hNs hx F N Q' E' kk
  obtain ⟨p, hp, ra, vt, t1, t2, rfl, itr, tyt⟩ := AP.get hv
  obtain ⟨rt, rfl⟩ := tyt.isRef
  have hs := rowSel_at (f := fun p => decide (selfTy p.1.kind p.1.told = u)) i p hp
  rw [hs] at kk
  have hpt := pat_self (k := p.1.kind) (LR.all _ _ (zip_at hp).1).told
  clear FZ NZ
  rename_i u2_0 u2_1
  revert hNs F N kk hp hv hx itr tyt hs hpt
  revert g i C oC m₂ h tk Q' E' p ra t1 t2 rt
  refine no_implicit_lambda% (clZ cZ.N.N.N.N.Rn.Q.Bs.N.H.M.O.N.N.H ?_)
  refine fZ8 ?_
  intro zc2_0 g i C oC m₂ h tk Q'
  clear_value g i C oC m₂ h tk Q'
  refine gZ6 ?_
  intro zc2 E' p ra t1 t2 rt
  clear_value E' p ra t1 t2 rt
  intros hNs F N kk hp hv hx itr tyt hs hpt
  k_with "compareOp Eq ref ref" =>
   (k_here; k_dflt (refine eq_dataH (TyAt.reads ty9) (TyAt.reads (TyAt.fr hu ‹_›)) (Ty.shaped hpt) (Ty.shaped hz) (by k_extra "g0") ?_); rw [Ty.eqv])
  k_with "call ref cons" =>
   (
    (with_reducible show wpAny _ _ (PySem.call (Value.ref 829) _) _ _ _)
    refine' self_w (ok := fun _ => True) (t := p.1.told) (k := p.1.kind) (by k_extra "a0") (TyAt.fr tyt ‹_›) ?_
    k_extra "o1"
    have N9 := News.grown ‹_› st9)
  k_steps
  exact kk _ _ st9 F9
 case fin =>
  have A1 := all2_flt AP (rowSel_at (f := fun p => decide (selfTy p.1.kind p.1.told = u)) (R := rows.zipIdx))
  change All2 (RowP s.heap) _ (lawHits u rows) at A1
  generalize flt _ _ _ = ys1 at A1 ⊢
  have hl1 : ys1.length ≤ 4 := by
   rw [A1.len]
   refine Nat.le_trans (List.length_filter_le _ _) ?_
   rw [List.length_zipIdx]; exact LR.len
  intro D1 h1 tk1 F1 N1 off1
  revert A1 hl1 F1 N1 off1
  revert g ys1 D1 h1 tk1
  refine no_implicit_lambda% (clZ cZ.N.H.N.L.H ?_)
  refine gZ5 ?_
  intro zc3 g ys1 D1 h1 tk1
  clear_value g ys1 D1 h1 tk1
  intros A1 hl1 F1 N1 off1
  k_with "name" =>
   (exact fun C oC m₂ v s₁ Q' E' hC hx hg q => ldVarK (hC.ns hg) hx q rfl rfl (by decide))
  k_steps
  k_extra "y0"
  k_extra "w1"
  refine LCt.CompSrcT.ledger (its := ys1.toArray) hh FZ NZ (by k_mem) (by rw [List.size_toArray, sizeLine_eq]; omega) (fun g => turns_flt (rowSel (fun p => !p.1.tr) (lawHits u rows)) (.inr ⟨_, by k_mem, rfl, _, rfl⟩) ?name ?turn ?fin)
  case name => k_extra "name"
  case turn =>
   intro i v C oC m₂ h tk hv hNs hx F N Q' E' kk
   obtain ⟨p, hp, ra, vt, t1, t2, rfl, itr, tyt⟩ := A1.get hv
   have hs := rowSel_at (f := fun p => !p.1.tr) i p hp
   rw [hs] at kk
   clear FZ NZ
   rename_i u4_0 u4_1 u4_2
   revert hNs F N kk hp itr tyt hv hx hs
   revert g i C oC m₂ h tk Q' E' p ra vt t1 t2
   refine no_implicit_lambda% (clZ cZ.N.N.V.N.Rn.Q.Bs.N.H.M.O.N.N.H ?_)
   refine fZ8 ?_
   intro zc4_0 g i C oC m₂ h tk Q'
   clear_value g i C oC m₂ h tk Q'
   refine gZ6 ?_
   intro zc4 E' p ra vt t1 t2
   clear_value E' p ra vt t1 t2
   intros hNs F N kk hp itr tyt hv hx hs
   k_steps
   exact kk _ _ (fun _ _ e => e) F
  case fin =>
   have A2 := all2_flt A1 (rowSel_at (f := fun p => !p.1.tr) (R := lawHits u rows))
   rw [law_own] at A2
   generalize flt _ _ _ = ys2 at A2 ⊢
   intro D2 h2 tk2 F2 N2 off2
   rename_i u5_0 u5_1 u5_2
   revert A2 F2 N2 off2
   revert g ys2 D2 h2 tk2
   refine no_implicit_lambda% (clZ cZ.N.H.N.L.H ?_)
   refine gZ5 ?_
   intro zc5 g ys2 D2 h2 tk2
   clear_value g ys2 D2 h2 tk2
   intros A2 F2 N2 off2
   k_steps
   k_extra "y0"
   k_extra "w1"
   refine LCt.CompSrcT.ledger (its := ys1.toArray) hh FZ NZ (by k_mem) (by rw [List.size_toArray, sizeLine_eq]; omega) (fun g => turns_flt (rowSel (fun p => p.1.tr) (lawHits u rows)) (.inr ⟨_, by k_mem, rfl, _, rfl⟩) ?name ?turn ?fin)
   case name => k_extra "name"
   case turn =>
    intro i v C oC m₂ h tk hv hNs hx F N Q' E' kk
    obtain ⟨p, hp, ra, vt, t1, t2, rfl, itr, tyt⟩ := A1.get hv
    have hs := rowSel_at (f := fun p => p.1.tr) i p hp
    rw [hs] at kk
    clear FZ NZ
    rename_i u6_0 u6_1 u6_2
    revert hNs F N kk hp itr tyt hv hx hs
    revert g i C oC m₂ h tk Q' E' p ra vt t1 t2
    refine no_implicit_lambda% (clZ cZ.N.N.V.N.Rn.Q.Bs.N.H.M.O.N.N.H ?_)
    refine fZ8 ?_
    intro zc6_0 g i C oC m₂ h tk Q'
    clear_value g i C oC m₂ h tk Q'
    refine gZ6 ?_
    intro zc6 E' p ra vt t1 t2
    clear_value E' p ra vt t1 t2
    intros hNs F N kk hp itr tyt hv hx hs
    k_steps
    exact kk _ _ (fun _ _ e => e) F
   case fin =>
    have A3 := all2_flt A1 (rowSel_at (f := fun p => p.1.tr) (R := lawHits u rows))
    generalize flt _ _ _ = ys3 at A3 ⊢
    have A4 := A3
    intro D3 h3 tk3 F3 N3 off3
    rename_i u7_0 u7_1 u7_2
    revert A3 A4 F3 N3 off3
    revert g ys3 D3 h3 tk3
    refine no_implicit_lambda% (clZ cZ.N.H.N.L.H ?_)
    refine gZ5 ?_
    intro zc7 g ys3 D3 h3 tk3
    clear_value g ys3 D3 h3 tk3
    intros A3 A4 F3 N3 off3
    generalize hO : ownHits u rows = O at A2
    generalize hT : (lawHits u rows).filter (fun p => p.1.tr) = T3 at A3
    have hl2 : ys2.length ≤ 4 := by
     rw [A2.len, ← hO]
     refine Nat.le_trans (List.length_filter_le _ _) ?_
     rw [List.length_zipIdx]; exact LR.len
    k_with "call builtin:len cons nil" =>
     (k_here; k_dflt (first | refine len_L 0 (News.isList ‹_› (by k_mem)) rfl (by decide) ?_ | refine len_L 1 (News.isList ‹_› (by k_mem)) rfl (by decide) ?_ | refine len_L _ (News.isList ‹_› (by k_mem)) sizeTwo (by simp only [List.length_cons] at hl2; omega) ?_))
    rcases A2.split with ⟨rfl, rfl⟩ | ⟨v2, p2, l2, r2, rfl, rfl, a2, q2⟩
    ·rcases A3.split with ⟨rfl, rfl⟩ | ⟨v3, p3, l3, r3, rfl, rfl, a3, q3⟩
     ·k_steps
      exact ret _ _ _ (.no hO hT) (Fr.keep ‹_›) ‹_›
     ·obtain ⟨ra3, vt3, t13, t23, rfl, itr3, ty3⟩ := a3
      obtain ⟨rt3, rfl⟩ := ty3.isRef
      obtain ⟨r3, i3⟩ := p3
      rename_i u8_0
      revert q3 A4 N3 hT A3 itr3 ty3
      revert l3 u8_0 ra3 t13 t23 rt3 r3 i3
      refine no_implicit_lambda% (clZ cZ.N.Rw.N.N.N.N.Rl.L ?_)
      refine gZ8 ?_
      intro zc8 l3 u8_0 ra3 t13 t23 rt3 r3 i3
      clear_value l3 u8_0 ra3 t13 t23 rt3 r3 i3
      intros q3 A4 N3 hT A3 itr3 ty3
      k_steps
      k_extra "y0"
      k_extra "w1"
      exact ret _ _ _ (.trait hO hT (newsFrsh NZ (by k_mem)) (.trait (News.isTup NZ (by k_mem)) (TyAt.fr ty3 FZ) (News.isTup NZ (by k_mem))) (.pair (News.isTup NZ (by k_mem)) trivial (News.isTup NZ (by k_mem)) trivial (TyAt.fr ty3 FZ) (.bool (News.isTup NZ (by k_mem)) trivial))) (Fr.keep FZ) ‹_›
    ·obtain ⟨ra2, vt2, t12, t22, rfl, itr2, ty2⟩ := a2
     obtain ⟨rt2, rfl⟩ := ty2.isRef
     obtain ⟨r2, i2⟩ := p2
     have hb2 : i2 < 4 := Nat.lt_of_lt_of_le (own_lt (p := (r2, i2)) (hO ▸ List.Mem.head _)) LR.len
     rename_i u9_0
     revert hT A3 q2 NZ N3 off3 hl2 hO A2 itr2 ty2 hb2
     revert T3 l2 u9_0 ra2 t12 t22 rt2 r2 i2
     refine no_implicit_lambda% (clZ cZ.N.Rw.N.N.N.N.Rl.L.Rl ?_)
     refine fZ8 ?_
     intro zc9_0 T3 l2 u9_0 ra2 t12 t22 rt2 r2
     clear_value T3 l2 u9_0 ra2 t12 t22 rt2 r2
     refine gZ1 ?_
     intro zc9 i2
     clear_value i2
     intros hT A3 q2 NZ N3 off3 hl2 hO A2 itr2 ty2 hb2
     rcases q2.split with ⟨rfl, rfl⟩ | ⟨b2, r2, _, _, rfl, rfl, _, _⟩
     ·k_steps
      k_extra "y0"
      k_extra "w1"
      have e0 : (PySem.Str.ofString "impl#" ++ PySem.Str.ofString (toString (i2 : Int)) ++ PySem.Str.ofString "::go") = pathOf i2 := rfl
      rw [e0] at NZ
      exact ret _ _ _ (.own hO (newsFrsh NZ (by k_mem)) (.impl (News.isTup NZ (by k_mem)) (News.isTup NZ (by k_mem))) (.box (News.isTup NZ (by k_mem)) trivial (TyAt.fr ty2 FZ))) (Fr.keep FZ) ‹_›
     ·k_steps
      exact ret _ _ _ (.two (by rw [hO]; simp)) (Fr.keep ‹_›) ‹_›)) ?y := by k_extra "cv"
 k_extra "zz"
theorem law_has {kd : Kind} {rows : List Row} (LR : LawRows kd rows) (u : Ty) : hasAt rows (some kd) u = true ↔ (ownHits u rows ≠ [] ∨ (lawHits u rows).filter (fun p => p.1.tr) ≠ []) := by
 have key : ((lawHits u rows).filter (fun p => p.1.tr) ≠ []) ↔ (match selfOf kd u with | none => false | some t => rows.any (isHit t)) = true := by
  constructor
  ·intro h
   obtain ⟨p, hp⟩ := List.exists_mem_of_ne_nil _ h
   obtain ⟨hp1, htr⟩ := List.mem_filter.mp hp
   obtain ⟨hp2, hs⟩ := List.mem_filter.mp hp1
   obtain ⟨i, hi⟩ := List.getElem?_of_mem hp2
   obtain ⟨a, b⟩ := zip_at hi
   have hk := (LR.all _ _ a).kind htr
   have hs' : selfTy kd p.1.told = u := by rw [← hk]; exact of_decide_eq_true hs
   rw [selfOf_iff.mpr hs']
   exact List.any_eq_true.mpr ⟨p.1, List.mem_of_getElem? a, by unfold isHit; rw [Bool.and_eq_true]; exact ⟨htr, decide_eq_true rfl⟩⟩
  ·intro h
   cases e : selfOf kd u with
   | none => rw [e] at h; exact absurd h Bool.false_ne_true
   | some t =>
    rw [e] at h
    obtain ⟨r, hr, hh⟩ := List.any_eq_true.mp h
    unfold isHit at hh
    rw [Bool.and_eq_true, decide_eq_true_eq] at hh
    obtain ⟨i, hi⟩ := List.getElem?_of_mem hr
    have hk := (LR.all _ _ hi).kind hh.1
    have hz : rows.zipIdx[i]? = some (r, i) := by rw [List.getElem?_zipIdx, hi]; simp
    refine List.ne_nil_of_mem (a := (r, i)) (List.mem_filter.mpr ⟨List.mem_filter.mpr ⟨List.mem_of_getElem? hz, ?_⟩, hh.1⟩)
    refine decide_eq_true ?_
    show selfTy r.kind r.told = u
    rw [hk, hh.2]
    exact selfOf_iff.mp e
 unfold hasAt
 rw [Bool.or_eq_true, key]
 refine or_congr ?_ Iff.rfl
 cases ownHits u rows <;> simp
theorem law_not {kd : Kind} {rows : List Row} (LR : LawRows kd rows) {u : Ty} (h1 : ownHits u rows = []) (h2 : (lawHits u rows).filter (fun p => p.1.tr) = []) : ¬ hasAt rows (some kd) u = true := fun h => by
 rcases (law_has LR u).mp h with q | q
 ·exact q h1
 ·exact q h2
section
variable {prog : Program} {w : World} {A : Around} {E : Value → Shared → Prop} {s : Shared} {g : Heap} {env : Env}
inductive ListSrcT (prog : Program) (w : World) (A : Around) (g : Heap) (env : Env) (target : PySem.Expr) (body : List Stmt) (Q : Flow → Shared → Prop) (E : Value → Shared → Prop) (xv : Value) (s₁ : Shared) : Prop
 | mk : ∀ (a : Addr) (xs : List Value) (k : Nat) (m : Str → Option Value) (news : List (Addr × Obj)), (xv = .ref a) → (A.handled = none) → (Fr g env.locals s₁.heap m) → (News g env.locals s₁.heap news) → ((a, PySem.W.listOf xs.toArray k) ∈ news) → (TupRest prog w A g env target body Q E s₁ (a, PySem.W.listOf xs.toArray k) xs m news) → ListSrcT prog w A g env target body Q E xv s₁
theorem letOwned_lst {target : PySem.Expr} {I a : Addr} {i : Nat} {v : Value} {Q : Unit → Shared → Prop} (hit : s.heap.IsListIter I a i) (h : Q () s) : wpAny (model prog w) A (letOwnedTupleGo target (.ref I) v) Q E s := by
 obtain ⟨o, ho, hc, hd⟩ := hit
 have key : ∀ T : Addr, wpAny (model prog w) A (load I >>= fun o => match o.cls, o.data with
   | .type n, .fields vs => if (["enumerate", "zip", "dict_itemiterator", "dict_reverseitemiterator", "odict_iterator", "itertools.zip_longest", "itertools.pairwise"].contains n && vs[0]? == some (rawInt T)) = true then (do rule "for.unpacks-the-owned-tuple"; updateField I 0 .none) else pure ()
   | _, _ => pure ()) Q E s := by
  intro T
  refine wpAny_bind (wpAny_load ho ?_)
  rw [hc, hd]
  dsimp only
  rw [if_neg (by rw [show (["enumerate", "zip", "dict_itemiterator", "dict_reverseitemiterator", "odict_iterator", "itertools.zip_longest", "itertools.pairwise"].contains "list_iterator") = false from by decide, Bool.false_and]; simp)]
  exact wpAny_pure h
 unfold letOwnedTupleGo
 cases target <;> first
  | exact wpAny_pure h
  | (cases v <;> first | exact key _ | exact wpAny_pure h)
theorem for_listT {target iter : PySem.Expr} {pos : Pos} {body : List Stmt} {Q : Flow → Shared → Prop} {m₁ : Str → Option Value} (_F : Fr g env.locals s.heap m₁)
  (h : wpAny (model prog w) A (eval iter env) (ListSrcT prog w A g env target body Q E) E s)
  (hs : ∀ x, foldedSetIterable iter env x = pure x := by intro _; rfl)
  (hE : PassesOwn (model prog w) A env E := by passes_own) :
  wpAny (model prog w) A (exec (.For target iter body [] pos) env) Q E s := by
 k_extra "p0"
 obtain ⟨a, xs, k, m, news, rfl, hh, F, N, hm, R⟩ := h₁
 have tup : ∀ {h : Heap} {l : List (Addr × Obj)}, News g env.locals h l → (a, PySem.W.listOf xs.toArray k) ∈ l → h.IsList a xs.toArray := fun N hm => ⟨_, (N _ hm).1, rfl, _, rfl⟩
 refine wpAny_pyIter_list (tup N hm) (loop_gen (it := fun i o => o.cls = .type "list_iterator" ∧ o.data = .fields #[.ref a, .int (i : Int) 0]) (n₀ := xs.length) (J := fun i m' news' => (a, PySem.W.listOf xs.toArray k) ∈ news' ∧ TupRest prog w A g env target body Q E s₁ (a, PySem.W.listOf xs.toArray k) (xs.drop i) m' news') hE F N (Heap.get?_push_size _ rfl) ⟨rfl, rfl⟩ ⟨hm, R⟩ (fun i m' news' h' tk oI hJ F' N' ne' hit hle => ?_) ?_)
 ·have hit' : h'.IsListIter _ a i := ⟨oI, (N' _ (.head _)).1, hit.1, hit.2⟩
  have ht' := tup (fun q hq => N' q (.tail _ hq)) hJ.1
  cases hv : xs[i]? with
  | none => exact .inl ⟨Nat.le_antisymm hle (List.getElem?_eq_none_iff.mp hv), fun P E' k => wpAny_pyNext_list_end hh hit' ht' (by simpa using hv) k⟩
  | some v =>
   obtain ⟨hi, hx⟩ := List.getElem?_eq_some_iff.mp hv
   have R' := hJ.2
   rw [List.drop_eq_getElem_cons hi, hx] at R'
   exact .inr ⟨hi, v, tk, fun P E' k => wpAny_pyNext_list_item hit' ht' (by simpa using hv) fun h₁ ⟨o₁, ho₁, hc₁, hd₁⟩ hs₁ => k h₁ o₁ ho₁ ⟨hc₁, hd₁⟩ hs₁,
    fun _ _ _ _ ho hi k => letOwned_lst ⟨_, ho, hi.1, hi.2⟩ k, fun h₁ oI F₁ N₁ ne _ => R' h₁ tk _ oI F₁ N₁ ne⟩
 ·intro m' news' h tk hJ F' N'
  have R' := hJ.2
  rw [List.drop_length] at R'
  exact R' h tk F' N'
end
def HitIs (rows : List Row) (u : Ty) (out : Ty) (fn : FnX) (k : Kind) : Prop :=
 (∃ r i, ownHits u rows = [(r, i)] ∧ out = .box r.told ∧ fn = .impl (pathOf i) ∧ k = r.kind) ∨ ∃ r i l, ownHits u rows = [] ∧ (lawHits u rows).filter (fun p => p.1.tr) = (r, i) :: l ∧ out = .pair r.told .bool ∧ fn = .trait r.told ∧ k = r.kind
theorem LawHit.all {g h : Heap} {rows : List Row} {u : Ty} {kd : Kind} {R : Value → Prop} (LR : LawRows kd rows) (k0 : ∀ tk, hasAt rows (some kd) u = true → 1 < (ownHits u rows).length → R (st "trait" tk)) (k1 : hasAt rows (some kd) u = false → R .none)
  (k2 : ∀ (a fa : Addr) (n : Nat) (t : Tok) (av : Addr) (out : Ty) (fn : FnX) (k : Kind), Fresh g h a (PySem.W.listOf #[.ref fa, st k.str t, .ref av] n) → FnXAt h fa fn → TyAt (fun _ => True) h (.ref av) out → HitIs rows u out fn k → hasAt rows (some kd) u = true → R (.ref a)) (v : Value) (x : LawHit g h rows u v) : R v := by
 cases x with
 | @two tk h1 => exact k0 tk ((law_has LR u).mpr (.inl fun e => by rw [e] at h1; exact absurd h1 (Nat.not_lt_zero 1))) h1
 | own h1 f1 f2 f3 => obtain ⟨av, rfl⟩ := f3.isRef; exact k2 _ _ _ _ _ _ _ _ f1 f2 f3 (.inl ⟨_, _, h1, rfl, rfl, rfl⟩) ((law_has LR u).mpr (.inl fun e => nomatch h1.symm.trans e))
 | no h1 h2 => exact k1 (Bool.eq_false_iff.mpr (law_not LR h1 h2))
 | trait h1 h2 f1 f2 f3 => obtain ⟨av, rfl⟩ := f3.isRef; exact k2 _ _ _ _ _ _ _ _ f1 f2 f3 (.inr ⟨_, _, _, h1, h2, rfl, rfl, rfl⟩) ((law_has LR u).mpr (.inr fun e => nomatch h2.symm.trans e))
theorem Ty.chain_size {t : Ty} : ∀ {i : Nat} {u : Ty}, t.chain[i]? = some u → u.size ≤ t.size := by
 induction t with
 | box a ih =>
  intro i u h
  cases i with
  | zero => simp [Ty.chain] at h; subst h; exact Nat.le_refl _
  | succ i => exact Nat.le_trans (ih (by simpa [Ty.chain] using h)) (by simp [Ty.size])
 | ref b a ih =>
  intro i u h
  cases i with
  | zero => simp [Ty.chain] at h; subst h; exact Nat.le_refl _
  | succ i => exact Nat.le_trans (ih (by simpa [Ty.chain] using h)) (by simp [Ty.size])
 | _ =>
  intro i u h
  cases i with
  | zero => simp [Ty.chain] at h; subst h; exact Nat.le_refl _
  | succ i => simp [Ty.chain] at h
def DueIs (rows : List Row) (kd : Kind) (t : Ty) (am : Addr) (h : Heap) (v : Value) : Prop :=
 (∃ tk d t' w, v = st "trait" tk ∧ seekL (hasAt rows (some kd)) t.chain 0 = some (d, t', w) ∧ 1 < (ownHits (recv w t') rows).length) ∨ (∃ tk, v = st "type" tk ∧ seekL (hasAt rows (some kd)) t.chain 0 = none) ∨
  ∃ r d t' w out fn k, v = .ref r ∧ seekL (hasAt rows (some kd)) t.chain 0 = some (d, t', w) ∧ HitIs rows (recv w t') out fn k ∧ CallAt h r out fn (recvE w k (derefN d (.loc t))) am
theorem chain_drop {t : Ty} : ∀ {d : Nat} {u : Ty}, t.chain[d]? = some u → t.chain.drop d = u.chain := by
 induction t with
 | box a ih =>
  intro d u h
  cases d with
  | zero => simp [Ty.chain] at h; subst h; rfl
  | succ d => exact ih (by simpa [Ty.chain] using h)
 | ref b a ih =>
  intro d u h
  cases d with
  | zero => simp [Ty.chain] at h; subst h; rfl
  | succ d => exact ih (by simpa [Ty.chain] using h)
 | _ =>
  intro d u h
  cases d with
  | zero => simp [Ty.chain] at h; subst h; rfl
  | succ d => simp [Ty.chain] at h
theorem chain_box {u u' : Ty} (e : u = .box u') : u.chain = u :: u'.chain := by subst e; rfl
theorem chain_ref {u u' : Ty} {b : Bool} (e : u = .ref b u') : u.chain = u :: u'.chain := by subst e; rfl
theorem chain_step {t u u' : Ty} {d : Nat} (h : t.chain[d]? = some u) (e : u.chain = u :: u'.chain) : t.chain[d + 1]? = some u' := by
 have h1 : (t.chain.drop d)[1]? = t.chain[d + 1]? := by rw [List.getElem?_drop]
 rw [← h1, chain_drop h, e, List.getElem?_cons_succ, u'.chain_cons]; rfl
theorem chain_end {t u : Ty} {d : Nat} (h : t.chain[d]? = some u) (e : u.chain.tail = []) : t.chain.drop (d + 1) = [] := by
 rw [← List.tail_drop, chain_drop h, e]
theorem FnXAt.move {h h' : Heap} {a : Addr} {fn : FnX} (k : ∀ a items, IsTup h a items → IsTup h' a items) (x : FnXAt h a fn) : FnXAt h' a fn := by
 cases x with
 | impl a b => exact .impl (k _ _ a) (k _ _ b)
 | trait a b c => exact .trait (k _ _ a) (b.move fun _ _ a b => ⟨k _ _ a, b⟩) (k _ _ c)
theorem hit_ever {g h : Heap} {L : Addr} {m : Str → Option Value} {vo : Value} {out : Ty} {fa : Addr} {fn : FnX} (F : Fr g L h m) (x : TyAt (fun _ => True) h vo out) (y : FnXAt h fa fn) : Ev g L (restH g L [] h) fun h => TyAt (fun _ => True) h vo out ∧ FnXAt h fa fn :=
 fun _ _ F₂ N₂ => ⟨x.move fun _ _ it o => ⟨tup_stay F F₂ N₂ _ _ it, o⟩, y.move (tup_stay F F₂ N₂)⟩
theorem HitIs.mut {rows : List Row} {u out : Ty} {fn : FnX} (x : HitIs rows u out fn .mut) : ∃ v, u = .ref true v := by
 have key : ∀ p : Row × Nat, p.1.kind = .mut → selfTy p.1.kind p.1.told = u → ∃ v, u = .ref true v := fun p hk hs => by
  rw [hk] at hs; exact ⟨_, hs.symm⟩
 rcases x with ⟨r, i, e, _, _, hk⟩ | ⟨r, i, l, _, e, _, _, hk⟩
 ·have hm : (r, i) ∈ ownHits u rows := by rw [e]; exact .head _
  have := (List.mem_filter.mp hm).2
  unfold isOwn at this
  rw [Bool.and_eq_true] at this
  exact key (r, i) hk.symm (of_decide_eq_true this.2)
 ·have hm : (r, i) ∈ (lawHits u rows).filter (fun p => p.1.tr) := by rw [e]; exact .head _
  have := (List.mem_filter.mp (List.mem_filter.mp hm).1).2
  exact key (r, i) hk.symm (of_decide_eq_true this)
theorem TyAt.stepsE {ok : Addr → Prop} {g h : Heap} {L aT : Addr} {m : Str → Option Value} {l : List (Addr × Obj)} {u : Ty} (x : TyAt (fun a => ok a ∧ HasIn g l a) h (.ref aT) u) (F : Fr g L h m) (N : News g L h l) :
  (∃ u' t1 y, u = .box u' ∧ TupE g L l aT [st "box" t1, y] ∧ TyE ok g L l y u') ∨ (∃ b u' t1 y, u = .ref b u' ∧ TupE g L l aT [st "ref" t1, .none, .bool b, y] ∧ TyE ok g L l y u') ∨
   (([PySem.Str.ofString "ref", PySem.Str.ofString "box"].any fun x => x == PySem.Str.ofString u.head) = false ∧ u.chain.tail = []) := by
 refine @disc _ ?y ?e
 case e =>
 haveI h : @Eq (PLift _) (PLift.up (by
 revert x F N
 revert ok g h L aT m l u
 refine no_implicit_lambda% (clZ cZ.T.l.M.N.N.H.H.P ?_)
 refine gZ8 ?_
 intro zc0 ok g h L aT m l u
 clear_value ok g h L aT m l u
 intros x F N
 rcases u.steps3 with ⟨u', rfl⟩ | ⟨b, u', rfl⟩ | ⟨hno, hch⟩
 ·obtain ⟨a, t1, y, e, it, ok', ty⟩ := x.boxI
  cases e
  exact .inl ⟨u', t1, y, rfl, ok'.2.ever F N it, ty.everH F N⟩
 ·obtain ⟨a, t1, y, e, it, ok', ty⟩ := x.refI
  cases e
  exact .inr (.inl ⟨b, u', t1, y, rfl, ok'.2.ever F N it, ty.everH F N⟩)
 ·exact .inr (.inr ⟨Bool.eq_false_iff.mpr hno, hch⟩))) ?y := by k_extra "cv"
 k_extra "zz"
theorem rec_borrow {ok : Addr → Prop} {h : Heap} {D R aT : Addr} {v : Value} {t1 t2 t3 tr : Tok} {b : Bool} {wd : Wd} {u : Ty} {d : Ex} (hu : d.ty = u) (it : IsTup h D [st "borrow" t1, .ref R, .int 5 t2, st wd.str t3, v].toArray) (ir : IsTup h R [st "ref" tr, .none, .bool b, .ref aT].toArray) (tT : TyAt ok h (.ref aT) u) (ev : ExAt ok h v d) :
  ExAt (fun _ => True) h (.ref D) (.borrow (.ref b d.ty) wd d) :=
 .borrow it trivial (.ref ir trivial ((hu ▸ tT).imp fun _ _ => trivial)) (ev.imp fun _ _ => trivial)
example : True := by
 k_with "exec For Tuple List cons nil" =>
  (k_here; k_dflt (refine for_listT ‹_› ?_))
 k_with "WPost ret" =>
  (unfold WPost; dsimp only)
 k_with "ListSrcT" =>
  (refine ⟨_, [_, _, _], _, _, _, rfl, by assumption, by assumption, by assumption, by k_mem, TupRest.cons ?_⟩; refine clZ cZ.O.N.N.H ?_; refine gZ4 ?_; intro zc h8 tk8 I8 o8; clear_value h8 tk8 I8 o8; clear zc; intro F8 N8 m8; have n8 := m8; (try simp only [List.forall_mem_cons, List.forall_mem_nil, and_true] at n8))
 trivial
theorem due_w (C : Cx w p loose mean mg mb A A₀ base h₀ outer env L m s.heap 40 300) {rl ea am : Addr} {vs : List Value} {rows : List Row} {kd : Kind} {t : Ty} {ok : Addr → Prop} (hl : s.heap.IsList rl vs.toArray) (AP : All2 (RowP s.heap) vs rows.zipIdx) (LR : LawRows kd rows)
    (he : ExAt ok s.heap (.ref ea) (.loc t)) (hsz : t.size < 7) (hcz : t.chain.length ≤ 11)
    (ret : ∀ v h' tk', DueIs rows kd t am h' v → s.heap.StaysIn h' → Fr h₀ L h' m → Q v { s with heap := h', toks := tk' }) :
    wpAny (model PR w) A (PySem.call (.ref (848 : Nat)) [.ref rl, .ref ea, .ref am]) Q E s := by
 refine @disc _ ?y ?e
 case e =>
 haveI h : @Eq (PLift _) (PLift.up (by
  k_fill
  revert C hl AP LR he hsz hcz ret
  revert rl ea am vs rows kd t ok
  k_extra "rv"
  refine no_implicit_lambda% (clZ (cPm cZ.P.T.Kd.Rs.L.N.N.N) ?_)
  k_extra "ld"
  refine gZ8 ?_
  intro zc0 rl ea am vs rows kd t ok
  clear_value rl ea am vs rows kd t ok
  intros C hl AP LR he hsz hcz ret
  k_extra "oC"
  k_extra "c0"
  repeat ((fail_if_success (with_reducible show wpAny _ _ (exec (Stmt.While _ _ _ _) _) _ _ _)); k_extra "h0")
  rename News s.heap L' _ _ => N1
  rename Fr s.heap L' _ _ => F1
  refine whl_inv (α := Nat) (fun d => t.chain.length - d) (fun d s' => ∃ ev m news h tk, s' = { s with heap := h, toks := tk } ∧ Fr s.heap L' h m ∧ News s.heap L' h news ∧ m "rows" = some (.ref rl) ∧ m "e" = some (.ref ev) ∧ m "arg" = some (.ref am) ∧ ExE (okF ok s.heap) s.heap L' news (.ref ev) (derefN d (.loc t)) ∧ (∃ u, t.chain[d]? = some u) ∧ seekL (hasAt rows (some kd)) t.chain 0 = seekL (hasAt rows (some kd)) (t.chain.drop d) d) 0
    ⟨ea, _, _, _, _, rfl, F1, N1, by k_dflt (exact rfl), by k_dflt (exact rfl), by k_dflt (exact rfl), exE_base (he.imp fun _ x => .inl x), ⟨t, by rw [Ty.chain_cons]; rfl⟩, rfl⟩ ?_ (hE := ?hE)
  case hE => passes_own
  rintro d s' ⟨ev, m9, news, h9, tk9, rfl, F9, N9, e1, e2, e3, eE, ⟨u, hu⟩, hsk⟩
  rw [known_map e1, known_map e2, known_map e3] at F9
  dsimp only at F9
  obtain ⟨ae, x0, vT, rest, q9, itM, okM, tyM⟩ := (eE _ _ F9 N9).three
  revert F9 N9 e1 e2 e3 eE hsk hu q9 itM okM tyM
  revert d ev m9 news h9 tk9 u ae x0 vT rest
  refine no_implicit_lambda% (clZ cZ.L.V.V.N.T.N.H.l.M.N.N ?_)
  refine fZ8 ?_
  intro zc2_0 d ev m9 news h9 tk9 u ae
  clear_value d ev m9 news h9 tk9 u ae
  refine gZ3 ?_
  intro zc2 x0 vT rest
  clear_value x0 vT rest
  intros F9 N9 e1 e2 e3 eE hsk hu q9 itM okM tyM
  cases q9
  have eM := okM.2.ever F9 N9 itM
  rw [chain_deref hu] at tyM
  have tE := tyM.everH F9 N9
  obtain ⟨aT, tkT, restT, rfl, itT, okT⟩ := tyM.headOk
  have eT := okT.2.ever F9 N9 itT
  have eS := tyM.stepsE F9 N9
  clear F1 N1
  have hz0 : u.size ≤ 30 := by have := Ty.chain_size hu; omega
  have hz1 : ∀ b, (Ty.ref b u).size ≤ 30 := fun b => by have := Ty.chain_size hu; simp only [Ty.size]; omega
  revert tyM itM eM tE itT okT eT eS
  revert aT tkT restT
  refine no_implicit_lambda% (clZ cZ.L.N.N ?_)
  refine gZ3 ?_
  intro zc3 aT tkT restT
  clear_value aT tkT restT
  intros tyM itM eM tE itT okT eT eS
  k_with "call ref cons" =>
    (
      (with_reducible show wpAny _ _ (PySem.call (Value.ref 841) _) _ _ _)
      k_extra "y0"
      k_extra "w1"
      have tz := (TyE.now tE FZ (news_sub NZ (fun p hp => by repeat (first | exact hp | refine List.Mem.tail _ ?_)))).imp (ok' := fun _ => True) fun _ _ => trivial
      first
      | refine' lawat_w (u := u) (ok := fun _ => True) (by k_extra "a0") (isList_fr hl FZ) (AP.imp fun _ _ x => x.keeps FZ.keep) LR tz hz0 ?_
      | refine' lawat_w (u := .ref false u) (ok := fun _ => True) (by k_extra "a0") (isList_fr hl FZ) (AP.imp fun _ _ x => x.keeps FZ.keep) LR (.ref (News.isTup NZ (by k_mem)) trivial tz) (hz1 false) ?_
      | refine' lawat_w (u := .ref true u) (ok := fun _ => True) (by k_extra "a0") (isList_fr hl FZ) (AP.imp fun _ _ x => x.keeps FZ.keep) LR (.ref (News.isTup NZ (by k_mem)) trivial tz) (hz1 true) ?_
      refine clZ cZ.N.H.V ?_; refine gZ3 ?_; intro zc v9 h9 k9; clear_value v9 h9 k9; clear zc; intro lh9 st9 F9
      have N9 := News.grown NZ st9
      revert v9
      refine' LawHit.all LR ?_ ?_ ?_
      all_goals first
        | ((with_reducible show ∀ (_ : Tok), hasAt _ _ _ = true → _); refine clZ cZ.N ?_; refine gZ1 ?_; intro zc tk8; clear_value tk8; clear zc; intro ha9 h19)
        | ((with_reducible show ∀ (_ : Addr) (_ : Addr), _); refine clZ cZ.Kd.Fx.T.N.N.N.N.N ?_; refine gZ8 ?_; intro zc a8 fa8 n8 t8 av8 out8 fn8 k8; clear_value a8 fa8 n8 t8 av8 out8 fn8 k8; clear zc; intro f18 f28 f38 hi8 ha9
           have vE8 := hit_ever F9 f38 f28
           have N9 := news_app (news_fresh FZ N9 f18) (rest_newsF F9)
           simp only [List.cons_append, List.nil_append] at N9)
        | intro ha9)
  k_with "compareOp Eq ref str" =>
    (k_here; refine PySem.SeqAt.RcAt.list_str _ _ (News.isList ‹_› (by k_mem)) ?uu _ _ _ _ ?_; (case uu => k_extra "g0"))
  k_steps
  · exact ret _ _ _ (.inl ⟨_, d, u, none, rfl, seek_hit hsk hu (pick_0 ha9), h19⟩) (Fr.keep ‹_›) ‹_›
  · exact ret _ _ _ (.inl ⟨_, d, u, some false, rfl, seek_hit hsk hu (pick_1 ‹_› ha9), h19⟩) (Fr.keep ‹_›) ‹_›
  · exact ret _ _ _ (.inl ⟨_, d, u, some true, rfl, seek_hit hsk hu (pick_2 ‹_› ‹_› ha9), h19⟩) (Fr.keep ‹_›) ‹_›
  · rcases eS with ⟨u', t1, y, e0, e2, ty2⟩ | ⟨b, u', t1, y, e0, e2, ty2⟩ | ⟨hno, _⟩
    · skip
      rename_i u4_0 u4_1 u4_2 u4_3 u4_4 u4_5 u4_6 u4_7 u4_8 u4_9 u4_10 u4_11 u4_12 u4_13 u4_14 u4_15 u4_16 u4_17 u4_18 u4_19 u4_20 u4_21 u4_22 u4_23 u4_24 u4_25 u4_26 u4_27 u4_28 u4_29 u4_30 u4_31 u4_32 u4_33 u4_34 u4_35 u4_36 u4_37 u4_38 u4_39 u4_40 u4_41 u4_42 u4_43 u4_44 u4_45 u4_46 u4_47 u4_48 u4_49 u4_50 u4_51 u4_52 u4_53 u4_54 u4_55 u4_56 u4_57 u4_58 u4_59 u4_60 u4_61
      revert u4_13 u4_16 u4_19 u4_22 u4_27 u4_43 m8 F' N' F7 N7 l7 e0 e2 ty2
      revert u4_4 u4_38 u4_54 u4_60 tk u' t1 y
      refine no_implicit_lambda% (clZ cZ.V.N.T.N.N.N.N.N ?_)
      refine gZ8 ?_
      intro zc4 u4_4 u4_38 u4_54 u4_60 tk u' t1 y
      clear_value u4_4 u4_38 u4_54 u4_60 tk u' t1 y
      intros u4_13 u4_16 u4_19 u4_22 u4_27 u4_43 m8 F' N' F7 N7 l7 e0 e2 ty2
      refine item_tupleT (j := 1) (TupE.here e2 ‹_› (by k_extra "b0")) (by decide) (by decide) (by rfl) (by rfl) ?_
      k_steps
      unfold WPost
      dsimp only
      k_extra "w1"
      k_extra "y0"
      k_extra "v1"
      have hd := (List.getElem?_eq_some_iff.mp hu).1
      refine ⟨d + 1, by omega, _, _, _, _, _, rfl, FZ, NW, by k_dflt (exact rfl), by k_dflt (exact rfl), by k_dflt (exact rfl), ?_, ⟨u', chain_step hu (chain_box e0)⟩, seek_go hsk hu (pick_3 ‹_› ‹_› ‹_›)⟩
      show ExE _ _ _ _ _ (.deref (derefN d (.loc t)).ty.next (derefN d (.loc t)))
      rw [chain_deref hu, e0]
      exact exE_deref NW ty2 eE
    · skip
      rename_i u5_0 u5_1 u5_2 u5_3 u5_4 u5_5 u5_6 u5_7 u5_8 u5_9 u5_10 u5_11 u5_12 u5_13 u5_14 u5_15 u5_16 u5_17 u5_18 u5_19 u5_20 u5_21 u5_22 u5_23 u5_24 u5_25 u5_26 u5_27 u5_28 u5_29 u5_30 u5_31 u5_32 u5_33 u5_34 u5_35 u5_36 u5_37 u5_38 u5_39 u5_40 u5_41 u5_42 u5_43 u5_44 u5_45 u5_46 u5_47 u5_48 u5_49 u5_50 u5_51 u5_52 u5_53 u5_54 u5_55 u5_56 u5_57 u5_58 u5_59 u5_60 u5_61
      revert u5_13 u5_16 u5_19 u5_22 u5_27 u5_43 m8 F' N' F7 N7 l7 e0 e2 ty2
      revert u5_4 u5_38 u5_54 u5_60 tk b u' t1 y
      refine no_implicit_lambda% (clZ cZ.V.N.T.B.N.N.N.N.N ?_)
      refine fZ8 ?_
      intro zc5_0 u5_4 u5_38 u5_54 u5_60 tk b u' t1
      clear_value u5_4 u5_38 u5_54 u5_60 tk b u' t1
      refine gZ1 ?_
      intro zc5 y
      clear_value y
      intros u5_13 u5_16 u5_19 u5_22 u5_27 u5_43 m8 F' N' F7 N7 l7 e0 e2 ty2
      refine item_tupleT (j := 3) (TupE.here e2 ‹_› (by k_extra "b0")) (by decide) (by decide) (by rfl) (by rfl) ?_
      k_steps
      unfold WPost
      dsimp only
      k_extra "w1"
      k_extra "y0"
      k_extra "v1"
      have hd := (List.getElem?_eq_some_iff.mp hu).1
      refine ⟨d + 1, by omega, _, _, _, _, _, rfl, FZ, NW, by k_dflt (exact rfl), by k_dflt (exact rfl), by k_dflt (exact rfl), ?_, ⟨u', chain_step hu (chain_ref e0)⟩, seek_go hsk hu (pick_3 ‹_› ‹_› ‹_›)⟩
      show ExE _ _ _ _ _ (.deref (derefN d (.loc t)).ty.next (derefN d (.loc t)))
      rw [chain_deref hu, e0]
      exact exE_deref NW ty2 eE
    · rename (_ = true) => a9
      rw [hno] at a9; cases a9
  · rcases eS with ⟨u', t1, y, rfl, _⟩ | ⟨b, u', t1, y, rfl, _⟩ | ⟨_, hend⟩
    · rename ((List.any _ _) = false) => a9
      cases (show true = false from a9)
    · rename ((List.any _ _) = false) => a9
      cases (show true = false from a9)
    · exact ret _ _ _ (.inr (.inl ⟨_, rfl, by rw [seek_go hsk hu (pick_3 ‹_› ‹_› ‹_›), chain_end hu hend]; rfl⟩)) (Fr.keep ‹_›) ‹_›
  · rename Fr s.heap L' _ _ => FZ
    k_extra "y0"
    k_extra "m0"
    k_extra "t0"
    obtain ⟨tv, fv⟩ := vE8 _ _ FZ S7
    have ev9 := ExE.now eE FZ SN
    have tT := TyE.now tE FZ SN
    exact ret _ _ _ (.inr (.inr ⟨_, d, u, some true, _, _, _, rfl, seek_hit hsk hu (pick_2 ‹_› ‹_› ha9), hi8, ⟨_, _, _, _, _, _, _, _, News.isTup NZ (by k_mem), tv, fv, News.isTup NZ (by k_mem), rec_borrow (wd := .auto) (chain_deref hu) (News.isTup NZ (by k_mem)) (News.isTup NZ (by k_mem)) tT ev9⟩⟩)) (Fr.keep ‹_›) ‹_›
  · rename Fr s.heap L' _ _ => FZ
    k_extra "y0"
    k_extra "m0"
    k_extra "t0"
    obtain ⟨tv, fv⟩ := vE8 _ _ FZ S7
    have ev9 := ExE.now eE FZ SN
    have tT := TyE.now tE FZ SN
    exact ret _ _ _ (.inr (.inr ⟨_, d, u, some false, _, _, _, rfl, seek_hit hsk hu (pick_1 ‹_› ha9), hi8, ⟨_, _, _, _, _, _, _, _, News.isTup NZ (by k_mem), tv, fv, News.isTup NZ (by k_mem), rec_borrow (wd := .shared) (chain_deref hu) (News.isTup NZ (by k_mem)) (News.isTup NZ (by k_mem)) tT ev9⟩⟩)) (Fr.keep ‹_›) ‹_›
  · rcases k8.mutOr with rfl | ⟨hk8, hkn8⟩
    · obtain ⟨v', rfl⟩ := hi8.mut
      rcases eS with ⟨_, _, _, e, _⟩ | ⟨b, u', t1, y, e, e2, ty2⟩ | ⟨hno, _⟩
      · cases e
      · cases e
        rename_i u6_0 u6_1 u6_2 u6_3 u6_4 u6_5 u6_6 u6_7 u6_8 u6_9 u6_10 u6_11 u6_12 u6_13 u6_14 u6_15 u6_16 u6_17 u6_18 u6_19 u6_20 u6_21 u6_22 u6_23 u6_24 u6_25 u6_26 u6_27
        revert u6_13 u6_16 u6_19 l7 m8 u6_23 N' hu hz0 hz1 tyM tE itT eT tz ha9 hi8 e2 ty2
        revert u6_4 u6_26 tk v' t1 y
        refine no_implicit_lambda% (clZ cZ.V.N.T.N.N.N ?_)
        refine gZ6 ?_
        intro zc6 u6_4 u6_26 tk v' t1 y
        clear_value u6_4 u6_26 tk v' t1 y
        intros u6_13 u6_16 u6_19 l7 m8 u6_23 N' hu hz0 hz1 tyM tE itT eT tz ha9 hi8 e2 ty2
        k_steps
        k_extra "w1"
        k_extra "y0"
        k_extra "m0"
        k_extra "t0"
        obtain ⟨tv, fv⟩ := vE8 _ _ FZ S7
        have ev9 := ExE.now eE FZ SN
        have tT := TyE.now tE FZ SN
        have ty3 := TyE.now ty2 FZ SN
        have hx : (derefN d (.loc t)).ty = .ref true v' := chain_deref hu
        refine ret _ _ _ (.inr (.inr ⟨_, d, _, none, _, _, _, rfl, seek_hit hsk hu (pick_0 ha9), hi8, ⟨_, _, _, _, _, _, fun _ => True, fun _ => True, News.isTup NZ (by k_mem), tv, fv, News.isTup NZ (by k_mem), ?_⟩⟩)) (Fr.keep ‹_›) ‹_›
        show ExAt _ _ _ (.borrow (derefN d (.loc t)).ty .auto (.deref (derefN d (.loc t)).ty.next (derefN d (.loc t))))
        rw [hx]
        exact .borrow (wd := .auto) (News.isTup NZ (by k_mem)) trivial (tT.imp fun _ _ => trivial) (.deref (News.isTup NZ (by k_mem)) trivial (ty3.imp fun _ _ => trivial) (ev9.imp fun _ _ => trivial))
      · cases (show true = false from hno)
    · exact absurd ‹_› hkn8
  · rcases k8.mutOr with rfl | ⟨hk8, hkn8⟩
    · rename ((_ == _) = false) => a9
      cases (show true = false from a9)
    · rename Fr s.heap L' _ _ => FZ
      k_extra "y0"
      k_extra "m0"
      k_extra "t0"
      obtain ⟨tv, fv⟩ := vE8 _ _ FZ S7
      have ev9 := ExE.now eE FZ SN
      refine ret _ _ _ (.inr (.inr ⟨_, d, u, none, _, _, _, rfl, seek_hit hsk hu (pick_0 ha9), hi8, ⟨_, _, _, _, _, _, fun _ => True, okF ok s.heap, News.isTup NZ (by k_mem), tv, fv, News.isTup NZ (by k_mem), ?_⟩⟩)) (Fr.keep ‹_›) ‹_›
      show ExAt _ _ _ (if k8 = .mut then _ else _)
      rw [if_neg hk8]
      exact ev9)) ?y := by k_extra "cv"
 k_extra "zz"
noncomputable abbrev scr : PySem.Str := PySem.Str.ofString "script"
def StaysW (h h' : Heap) : Prop := ∀ b o, h.get? b = some o → o.cls ≠ .none → (∀ es ep, o.data = .dict es ep → nsFind es scr = none) → h'.get? b = some o
section
variable {h h' : Heap} {w : World}
theorem StaysW.tup (k : StaysW h h') {a : Addr} {its : Array Value} (x : IsTup h a its) : IsTup h' a its := by
 obtain ⟨o, e, hc, n, hd⟩ := x
 exact ⟨o, k _ _ e (by rw [hc]; exact nofun) (fun es ep q => by rw [hd] at q; cases q), hc, n, hd⟩
theorem StaysW.list (k : StaysW h h') {a : Addr} {its : Array Value} (x : h.IsList a its) : h'.IsList a its := by
 obtain ⟨o, e, hc, n, hd⟩ := x
 exact ⟨o, k _ _ e (by rw [hc]; exact nofun) (fun es ep q => by rw [hd] at q; cases q), hc, n, hd⟩
theorem StaysW.ty (k : StaysW h h') {ok : Addr → Prop} {v : Value} {t : Ty} (x : TyAt ok h v t) : TyAt ok h' v t := x.move fun _ _ it o => ⟨k.tup it, o⟩
theorem fields_no {es : List DictEntry} {fs : List (String × Value)} {name : PySem.Str} (x : FieldsAre es fs) (hn : lookF fs name = none) : nsFind es.toArray name = none := by
 have h := x.get (name := name)
 rw [hn] at h
 unfold nsFind findBy
 rw [← Array.find?_toList]
 unfold getL at h
 dsimp only
 split at h
 ·cases h
 ·rename_i q; rw [q]; rfl
theorem StaysW.inst (k : StaysW h h') {x C : Addr} {fs : List (String × Value)} (I : Inst h x C fs) (hn : lookF fs scr = none) : Inst h' x C fs := by
 obtain ⟨dx, es, n, a, b, c⟩ := I
 refine ⟨dx, es, n, k _ _ a nofun (fun es ep q => by cases q), k _ _ b nofun (fun es' ep q => ?_), c⟩
 cases q
 exact fields_no c hn
theorem pairs_no {es : List DictEntry} {kvs : List (PySem.Str × Value)} {name : PySem.Str} (x : Pairs (KD w) es kvs) (hn : valueAt kvs name = none) : (es.find? fun e => e.key.isStr name) = none := by
 induction x with
 | nil => rfl
 | @cons e kv es kvs a b _ ih =>
  unfold valueAt at hn ih
  rw [List.find?_cons] at hn
  by_cases q : kv.1 = name
  ·simp [q] at hn
  ·simp only [q, decide_false] at hn
   have hk : e.key.isStr name = false := by
    have a' : e.key.isStrOf kv.1 = true := a
    cases hkey : e.key with
    | str y t =>
     rw [hkey] at a'
     have : y = kv.1 := by simpa [Value.isStrOf] using a'
     simp [Value.isStr, this, q]
    | _ => simp [Value.isStr]
   rw [List.find?_cons, hk]
   exact ih hn
theorem StaysW.dict (k : StaysW h h') {d : Addr} {kvs : List (PySem.Str × Value)} (D : DictAt w h d kvs) (hn : valueAt kvs scr = none) : DictAt w h' d kvs := by
 obtain ⟨⟨o, es, ep, e, hx, hd, r⟩, lo⟩ := D
 refine ⟨⟨o, es, ep, k _ _ e ?_ (fun es' ep' q => ?_), hx, hd, r⟩, lo⟩
 ·rw [hx.1]; exact nofun
 ·rw [hd] at q
  cases q
  unfold nsFind findBy
  rw [← Array.find?_toList, pairs_no r.2.1 hn]; rfl
theorem StaysW.impl (k : StaysW h h') {v : Value} {i : Nat} {r : Row} (x : ImplAt w h v i r) : ImplAt w h' v i r := by
 obtain ⟨a, rg, pl, ta, md, vt, t1, t2, t3, t4, e, I, p, q, t, d, u⟩ := x
 exact ⟨a, rg, pl, ta, md, vt, t1, t2, t3, t4, e, k.inst I rfl, k.list p, k.tup q, k.ty t, k.dict d rfl, u⟩
theorem StaysW.sig (k : StaysW h h') {v : Value} {r : Row} (x : SigAt w h v r) : SigAt w h' v r := by
 obtain ⟨a, pt, rg, pl, ow, ins, vo, kt, s0, a0, e, I, p, q, t1, t2, t3⟩ := x
 exact ⟨a, pt, rg, pl, ow, ins, vo, kt, s0, a0, e, k.inst I rfl, k.list p, k.tup q, k.ty t1, k.ty t2, k.ty t3⟩
theorem StaysW.trait (e : StaysW h h') {v : Value} {k : Kind} (x : TraitAt w h v k) : TraitAt w h' v k := by
 refine @disc _ ?y ?e
 case e =>
 haveI h : @Eq (PLift _) (PLift.up (by
 obtain ⟨x, par, md, df, g, rg, pl, ow, ins, vo, s0, a0, t1, t2, kt, pe, be, ts, ta, rfl, a, b, c, d, i, f, j, k, l, m, n⟩ := x
 rename_i u0_0
 revert e a b c d i f j k l m n
 revert h h' w u0_0 x par md df g rg pl ow ins vo s0 a0 t1 t2 kt pe be ts ta
 refine no_implicit_lambda% (clZ cZ.N.N.N.N.N.N.N.V.V.V.N.N.N.N.N.N.N.N.N.Kd.W.H.H ?_)
 refine fZ8 ?_
 intro zc0_0 h h' w u0_0 x par md df
 clear_value h h' w u0_0 x par md df
 refine fZ8 ?_
 intro zc0_1 g rg pl ow ins vo s0 a0
 clear_value g rg pl ow ins vo s0 a0
 refine gZ7 ?_
 intro zc0 t1 t2 kt pe be ts ta
 clear_value t1 t2 kt pe be ts ta
 intros e a b c d i f j k l m n
 exact ⟨x, par, md, df, g, rg, pl, ow, ins, vo, s0, a0, t1, t2, kt, pe, be, ts, ta, rfl, e.inst a rfl, e.tup b, e.dict c rfl, e.inst d rfl, e.list i, e.tup f, e.tup j, e.tup k, e.ty l, e.ty m, e.ty n⟩)) ?y := by k_extra "cv"
 k_extra "zz"
theorem StaysW.wat (k : StaysW h h') {wo : Addr} {rows : List Row} {kd : Kind} (x : WAtS w h wo rows kd) : WAt w h' wo rows (some kd) := by
 obtain ⟨a1, a2, ds, dt, li, a3, a4, xs, kvs, tv, I, l, n, r, d, sg, t, tr, z, z0⟩ := x
 exact ⟨a1, a2, ds, dt, li, a3, a4, xs, kvs, _, k.inst I rfl, k.list l, n, fun i v e => let ⟨r', a, b⟩ := r i v e; ⟨r', a, k.impl b⟩, k.dict d z0, fun i r e => let ⟨sv, a, b⟩ := sg i r e; ⟨sv, a, k.sig b⟩, k.dict t rfl, .inr ⟨kd, tv, rfl, rfl, k.trait tr⟩, z⟩
theorem StaysW.lrows (k : StaysW h h') {rl : Addr} {rows : List Row} (x : LRows h rl rows) : LRows h' rl rows := by
 obtain ⟨vs, a, b, c⟩ := x
 refine ⟨vs, k.list a, b, fun i v e => ?_⟩
 obtain ⟨r, d, ⟨ra, vt, tk, t2, e', it, ty⟩⟩ := c i v e
 exact ⟨r, d, ra, vt, tk, t2, e', k.tup it, k.ty ty⟩
end
noncomputable def Ex.data : Ex → PyData
 | .loc t => .tuple [ds "local", t.data, .int 4, .int 1]
 | .con t b => .tuple [ds "const", t.data, .int 8, if b then .bool true else .int 3]
 | .deref t e => .tuple [ds "deref", t.data, .int 5, e.data]
 | .borrow t w e => .tuple [ds "borrow", t.data, .int 5, ds w.str, e.data]
noncomputable def FnX.data : FnX → PyData
 | .impl p => .tuple [ds "fn", .str p, .tuple []]
 | .trait u => .tuple [ds "method", ds "A", ds "go", u.data, .tuple []]
noncomputable def callD (out : Ty) (fn : FnX) (rc : Ex) (dm : PyData) : PyData := .tuple [ds "call", out.data, .int 5, fn.data, .tuple [rc.data, dm]]
theorem conReads {h : Heap} {b : Bool} {t : Tok} : Reads h (conV b t) (if b then .bool true else .int 3) [] := by
 cases b
 ·exact .int _ _
 ·exact .bool _
theorem ExAt.reads {ok : Addr → Prop} {h : Heap} {v : Value} {e : Ex} (x : ExAt ok h v e) : Reads h v e.data [] := by
 induction x with
 | loc a _ b => exact isTup_reads a (.cons (.str _ _) (.cons b.reads (.cons (.int _ _) (.cons (.int _ _) .nil))))
 | con a _ b => exact isTup_reads a (.cons (.str _ _) (.cons b.reads (.cons (.int _ _) (.cons conReads .nil))))
 | deref a _ b _ ih => exact isTup_reads a (.cons (.str _ _) (.cons b.reads (.cons (.int _ _) (.cons ih .nil))))
 | borrow a _ b _ ih => exact isTup_reads a (.cons (.str _ _) (.cons b.reads (.cons (.int _ _) (.cons (.str _ _) (.cons ih .nil)))))
theorem FnXAt.reads {h : Heap} {a : Addr} {fn : FnX} (x : FnXAt h a fn) : Reads h (.ref a) fn.data [] := by
 cases x with
 | impl a b => exact isTup_reads a (.cons (.str _ _) (.cons (.str _ _) (.cons (isTup_reads b .nil) .nil)))
 | trait a b c => exact isTup_reads a (.cons (.str _ _) (.cons (.str _ _) (.cons (.str _ _) (.cons b.reads (.cons (isTup_reads c .nil) .nil)))))
theorem CallAt.reads {h : Heap} {r am : Addr} {out : Ty} {fn : FnX} {rc : Ex} {dm : PyData} (ra : Reads h (.ref am) dm []) (x : CallAt h r out fn rc am) : Reads h (.ref r) (callD out fn rc dm) [] := by
 obtain ⟨t1, t2, vo, rv, fa, tu, ok1, ok2, a, b, c, d, e⟩ := x
 exact isTup_reads a (.cons (.str _ _) (.cons b.reads (.cons (.int _ _) (.cons c.reads (.cons (isTup_reads d (.cons e.reads (.cons ra .nil))) .nil)))))
theorem pOk : ∀ i : Nat, i < 4 → PyData.strOk (pathOf i) = true := by decide +kernel
noncomputable def Ex.le (N : Nat) : Nat → Ex → Prop
 | _, .loc t => t.size ≤ N
 | _, .con t _ => t.size ≤ N
 | n + 1, .deref t e => t.size ≤ N ∧ e.le N n
 | n + 1, .borrow t _ e => t.size ≤ N ∧ e.le N n
 | 0, _ => False
theorem Ex.good {N : Nat} (e : Ex) : ∀ {n : Nat}, e.le N n → Good (2 * N + 2 + (n + 1)) e.data := by
 have m : ∀ {x n : Nat}, x ≤ N → 2 * x + 2 ≤ 2 * N + 2 + n := fun h => Nat.le_trans (Nat.add_le_add_right (Nat.mul_le_mul_left 2 h) 2) (Nat.le_add_right _ _)
 induction e with
 | loc t =>
  intro n h
  have h : t.size ≤ N := by cases n <;> exact h
  exact gT (gA1 (gS (by kernel_rfl!)) (gA1 (t.good.up (m h)) (gA1 gI (gA1 gI gA0))))
 | con t b =>
  intro n h
  have h : t.size ≤ N := by cases n <;> exact h
  exact gT (gA1 (gS (by kernel_rfl!)) (gA1 (t.good.up (m h)) (gA1 gI (gA1 (by cases b; exact gI; exact gB) gA0))))
 | deref t e ih =>
  intro n h
  cases n with
  | zero => exact h.elim
  | succ n => exact gT (gA1 (gS (by kernel_rfl!)) (gA1 (t.good.up (m h.1)) (gA1 gI (gA1 (ih h.2) gA0))))
 | borrow t w e ih =>
  intro n h
  cases n with
  | zero => exact h.elim
  | succ n => exact gT (gA1 (gS (by kernel_rfl!)) (gA1 (t.good.up (m h.1)) (gA1 gI (gA1 (gS (by cases w <;> kernel_rfl!)) (gA1 (ih h.2) gA0)))))
theorem Ty.size_next (t : Ty) : t.next.size ≤ t.size := by cases t <;> simp [Ty.next, Ty.size]
theorem derefN_ty {t : Ty} : ∀ n : Nat, (derefN n (.loc t)).ty.size ≤ t.size
 | 0 => Nat.le_refl _
 | n + 1 => Nat.le_trans (Ty.size_next _) (derefN_ty n)
theorem Ex.le_up {N N' : Nat} (h : N ≤ N') : ∀ {n : Nat} {e : Ex}, e.le N n → e.le N' n
 | n, .loc t, x => by cases n <;> exact Nat.le_trans x h
 | n, .con t b, x => by cases n <;> exact Nat.le_trans x h
 | n + 1, .deref t e, x => ⟨Nat.le_trans x.1 h, Ex.le_up h x.2⟩
 | n + 1, .borrow t w e, x => ⟨Nat.le_trans x.1 h, Ex.le_up h x.2⟩
 | 0, .deref _ _, x => x.elim
 | 0, .borrow _ _ _, x => x.elim
theorem derefN_le {t : Ty} : ∀ n : Nat, (derefN n (.loc t)).le t.size n
 | 0 => Nat.le_refl _
 | n + 1 => ⟨Nat.le_trans (Ty.size_next _) (derefN_ty n), derefN_le n⟩
theorem recvE_le {w : Option Bool} {k : Kind} {n : Nat} {t : Ty} : (recvE w k (derefN n (.loc t))).le (t.size + 1) (n + 2) := by
 have h1 := Ex.le_up (Nat.le_succ t.size) (derefN_le (t := t) n)
 have h2 := derefN_ty (t := t) n
 have deeper : ∀ {N m : Nat} {e : Ex}, e.le N m → e.le N (m + 1) := by
  intro N m e
  induction e generalizing m with
  | loc t => intro h; cases m <;> exact h
  | con t b => intro h; cases m <;> exact h
  | deref t e ih => intro h; cases m with
   | zero => exact h.elim
   | succ m => exact ⟨h.1, ih h.2⟩
  | borrow t w e ih => intro h; cases m with
   | zero => exact h.elim
   | succ m => exact ⟨h.1, ih h.2⟩
 unfold recvE
 split
 ·exact ⟨Nat.succ_le_succ h2, deeper h1⟩
 ·exact ⟨Nat.succ_le_succ h2, deeper h1⟩
 ·split
  ·exact ⟨Nat.le_succ_of_le h2, Nat.le_succ_of_le (Nat.le_trans (Ty.size_next _) h2), h1⟩
  ·exact deeper (deeper h1)
theorem FnX.good {fn : FnX} (h : (∃ i, i < 4 ∧ fn = .impl (pathOf i)) ∨ ∃ u, u.size ≤ 8 ∧ fn = .trait u) : Good 30 fn.data := by
 rcases h with ⟨i, hi, rfl⟩ | ⟨u, hu, rfl⟩
 ·exact gT (gA1 (gS (by kernel_rfl!)) (gA1 (gS (pOk i hi)) (gA1 (gT (n := 0) gA0 |>.up (Nat.zero_lt_succ _)) gA0)))
 ·exact gT (gA1 (gS (by kernel_rfl!)) (gA1 (gS (by kernel_rfl!)) (gA1 (gS (by kernel_rfl!)) (gA1 (u.good.up (Nat.le_trans (Nat.add_le_add_right (Nat.mul_le_mul_left 2 hu) 2) (Nat.le_of_ble_eq_true rfl))) (gA1 (gT (n := 0) gA0 |>.up (Nat.zero_lt_succ _)) gA0)))))
theorem callD_shaped {out : Ty} {fn : FnX} {rc : Ex} {dm : PyData} {n N : Nat} (hf : (∃ i, i < 4 ∧ fn = .impl (pathOf i)) ∨ ∃ u, u.size ≤ 8 ∧ fn = .trait u) (ho : out.size ≤ 10) (hr : rc.le N n) (hN : 2 * N + n ≤ 40) (hd : dm.canLay0 = true) (hdd : dm.depth ≤ 10) : PySem.SeqAt.shaped (callD out fn rc dm) = true :=
 have o := out.good.up (m := 60) (Nat.le_trans (Nat.add_le_add_right (Nat.mul_le_mul_left 2 ho) 2) (Nat.le_of_ble_eq_true rfl))
 have r := (Ex.good rc hr).up (m := 59) (Nat.le_trans (Nat.le_of_eq (Nat.add_right_comm (2 * N) 2 (n + 1))) (Nat.le_trans (Nat.add_le_add_right hN 3) (Nat.le_of_ble_eq_true rfl)))
 have q : Good 59 dm := ⟨hd, Nat.le_trans hdd (Nat.le_of_ble_eq_true rfl)⟩
 (gT (gA1 (gS (by kernel_rfl!)) (gA1 o (gA1 gI (gA1 ((FnX.good hf).up (Nat.le_of_ble_eq_true rfl)) (gA1 (gT (gA1 r (gA1 q gA0))) gA0)))))).shaped (Nat.le_of_ble_eq_true rfl)
theorem mem_at {rows : List Row} {r : Row} {i : Nat} {f : Row × Nat → Bool} (h : (r, i) ∈ rows.zipIdx.filter f) : rows[i]? = some r ∧ f (r, i) = true := by
 obtain ⟨hm, hf⟩ := List.mem_filter.mp h
 obtain ⟨j, hj⟩ := List.getElem?_of_mem hm
 obtain ⟨a, b⟩ := zip_at hj
 dsimp only at a b
 exact ⟨by rw [b]; exact a, hf⟩
theorem pat_noParam {t : Ty} (h : t.isPat) : t.hasParam = false := by rcases h with rfl | rfl | rfl | rfl <;> rfl
theorem same_call {kd : Kind} {rows : List Row} (LR : LawRows kd rows) {t t' : Ty} {am r : Addr} {h : Heap} {ol : Array Value} {d : Nat} {w : Option Bool} {out : Ty} {fn : FnX} {k : Kind} (c : CmRes rows (some kd) t am h r ol)
  (e : seekL (hasAt rows (some kd)) t.chain 0 = some (d, t', w)) (x : HitIs rows (recv w t') out fn k) : CallAt h r out fn (recvE w k (derefN d (.loc t))) am := by
 refine @disc _ ?y ?e
 case e =>
 haveI h : @Eq (PLift _) (PLift.up (by
 obtain ⟨d', t'', w', e', c⟩ := c
 revert LR e x e' c
 revert kd rows t t' am r h ol d w out fn k d' t'' w'
 refine no_implicit_lambda% (clZ cZ.b.T.N.Kd.Fx.T.b.N.y.H.N.N.T.T.Rs.Kd ?_)
 refine fZ8 ?_
 intro zc0_0 kd rows t t' am r h ol
 clear_value kd rows t t' am r h ol
 refine gZ8 ?_
 intro zc0 d w out fn k d' t'' w'
 clear_value d w out fn k d' t'' w'
 intros LR e x e' c
 rw [e] at e'
 cases e'
 rcases c with ⟨r0, i, a, _, c⟩ | ⟨k', u, xo, vt, ty, q1, q2, ok, a1, a2, a3, a4, _, _, _, _, c⟩
 ·rcases x with ⟨r1, i1, b, rfl, rfl, rfl⟩ | ⟨r1, i1, l, b, _⟩
  ·rw [a] at b
   cases b
   have m : (r0, i) ∈ ownHits (recv w t') rows := by rw [a]; exact .head _
   obtain ⟨m1, _⟩ := mem_at m
   have lr := LR.all _ _ m1
   rw [lr.out, lr.path] at c
   have q := pat_noParam lr.told
   have : (Ty.box r0.told).subst r0.told = .box r0.told := Ty.subst_none q
   rw [this] at c
   exact c
  ·rw [a] at b; cases b
 ·rcases x with ⟨r1, i1, b, _⟩ | ⟨r1, i1, l, _, b, rfl, rfl, rfl⟩
  ·rw [a1] at b; cases b
  ·cases a2
   have m : (r1, i1) ∈ (lawHits (recv w t') rows).filter (fun p => p.1.tr) := by rw [b]; exact .head _
   obtain ⟨m0, htr⟩ := List.mem_filter.mp m
   obtain ⟨m1, hs⟩ := mem_at m0
   have lr := LR.all _ _ m1
   have hk := lr.kind htr
   have hs' : selfTy r1.kind r1.told = recv w t' := of_decide_eq_true hs
   rw [hk] at hs'
   have hu := selfOf_iff.mpr hs'
   rw [a3] at hu
   cases hu
   rw [hk]
   exact c)) ?y := by k_extra "cv"
 k_extra "zz"
theorem hit_fn {kd : Kind} {rows : List Row} (LR : LawRows kd rows) {u out : Ty} {fn : FnX} {k : Kind} (x : HitIs rows u out fn k) : ((∃ i, i < 4 ∧ fn = .impl (pathOf i)) ∨ ∃ v, v.size ≤ 8 ∧ fn = .trait v) ∧ out.size ≤ 10 := by
 have ps : ∀ {t : Ty}, t.isPat → t.size ≤ 4 := fun h => by rcases h with rfl | rfl | rfl | rfl <;> simp [Ty.size]
 rcases x with ⟨r, i, a, rfl, rfl, rfl⟩ | ⟨r, i, l, _, b, rfl, rfl, rfl⟩
 ·have m : (r, i) ∈ ownHits u rows := by rw [a]; exact .head _
  obtain ⟨m1, _⟩ := mem_at m
  have := ps (LR.all _ _ m1).told
  exact ⟨.inl ⟨i, Nat.lt_of_lt_of_le (List.getElem?_eq_some_iff.mp m1).1 LR.len, rfl⟩, by simp [Ty.size]; omega⟩
 ·have m : (r, i) ∈ (lawHits u rows).filter (fun p => p.1.tr) := by rw [b]; exact .head _
  obtain ⟨m0, _⟩ := List.mem_filter.mp m
  obtain ⟨m1, _⟩ := mem_at m0
  have := ps (LR.all _ _ m1).told
  exact ⟨.inr ⟨_, by omega, rfl⟩, by simp [Ty.size]; omega⟩
section
variable {w : World} {A : Around} {E : Value → Shared → Prop} {s : Shared} {Q : Value → Shared → Prop}
theorem hit_len {rows : List Row} {u out : Ty} {fn : FnX} {k : Kind} (x : HitIs rows u out fn k) : ¬ 1 < (ownHits u rows).length := by
 rcases x with ⟨r, i, a, _⟩ | ⟨r, i, l, a, _⟩ <;> rw [a] <;> simp
theorem cm_len {rows : List Row} {tkd : Option Kind} {t : Ty} {am r : Addr} {h : Heap} {ol : Array Value} (c : CmRes rows tkd t am h r ol) : ∃ d t' w, seekL (hasAt rows tkd) t.chain 0 = some (d, t', w) ∧ ¬ 1 < (ownHits (recv w t') rows).length := by
 obtain ⟨d, t', w, e, c⟩ := c
 refine ⟨d, t', w, e, ?_⟩
 rcases c with ⟨r0, i, a, _⟩ | ⟨k', u, xo, vt, ty, q1, q2, ok, a, _⟩ <;> rw [a] <;> simp
theorem ne_same {rows : List Row} {kd : Kind} {t : Ty} {am : Addr} {dm : PyData} {v u : Value} (LR : LawRows kd rows) (td : ToldIs rows (some kd) t .u8 am s.heap v) (du : DueIs rows kd t am s.heap u) (ra : Reads s.heap (.ref am) dm []) (hsz : t.size < 7)
  (hd : dm.canLay0 = true) (hdd : dm.depth ≤ 10) (hcz : t.chain.length ≤ 7) (hu : A.units + 64 < cLine) (h : Q (.bool false) s) : wpAny (model PR w) A (compareOp .NotEq v u) Q E s := by
 have same : ∀ (x : String) (t1 t2 : Tok), wpAny (model PR w) A (compareOp .NotEq (st x t1) (st x t2)) Q E s := fun x t1 t2 => ne_str (by rw [show (PySem.Str.ofString x != PySem.Str.ofString x) = false from bne_self_eq_false _]; exact h)
 rcases td with ⟨tk, d, t', wd, rfl, e, hl⟩ | ⟨tk, rfl, e⟩ | ⟨r, ol, rfl, _, c⟩
 ·rcases du with ⟨tk', d', t'', wd', rfl, e', hl'⟩ | ⟨tk', rfl, e'⟩ | ⟨r', d', t'', wd', out, fn, k, rfl, e', hi, _⟩
  ·exact same _ _ _
  ·rw [e] at e'; cases e'
  ·rw [e] at e'; cases e'
   exact absurd hl (hit_len hi)
 ·have e : seekL (hasAt rows (some kd)) t.chain 0 = none := by
   rcases e with e | ⟨q, _⟩
   ·exact e
   ·cases q
  rcases du with ⟨tk', d', t'', wd', rfl, e', hl'⟩ | ⟨tk', rfl, e'⟩ | ⟨r', d', t'', wd', out, fn, k, rfl, e', hi, _⟩
  ·rw [e] at e'; cases e'
  ·exact same _ _ _
  ·rw [e] at e'; cases e'
 ·rcases du with ⟨tk', d', t'', wd', rfl, e', hl'⟩ | ⟨tk', rfl, e'⟩ | ⟨r', d', t'', wd', out, fn, k, rfl, e', hi, c'⟩
  ·obtain ⟨_, _, _, e, n⟩ := cm_len c
   rw [e] at e'; cases e'
   exact absurd hl' n
  ·obtain ⟨_, _, _, e, n⟩ := cm_len c
   rw [e] at e'; cases e'
  ·have cc := same_call LR c e' hi
   obtain ⟨hf, ho⟩ := hit_fn LR hi
   have hdl : d' ≤ 7 := Nat.le_of_lt (Nat.lt_of_lt_of_le (List.getElem?_eq_some_iff.mp (seek_at e').1).1 (by k_extra "le"))
   have sh : PySem.SeqAt.shaped (callD out fn (recvE wd' k (derefN d' (.loc t))) dm) = true := callD_shaped hf ho (recvE_le (w := wd') (k := k) (n := d') (t := t)) (Nat.le_trans (Nat.add_le_add (Nat.mul_le_mul_left 2 hsz) (Nat.add_le_add_right hdl 2)) (Nat.le_of_ble_eq_true rfl)) hd hdd
   refine ne_dataH (cc.reads ra) (c'.reads ra) sh sh hu ?_
   rw [PySem.SeqAt.eqv_refl _ (PySem.SeqAt.canLay_of_shaped sh)]
   exact h
inductive Twice (rows : List Row) (kd : Kind) (t : Ty) : Prop
 | mk : ∀ d t' w, (seekL (hasAt rows (some kd)) t.chain 0 = some (d, t', w)) → (1 < (ownHits (recv w t') rows).length) → Twice rows kd t
theorem eq_trait {rows : List Row} {kd : Kind} {t : Ty} {am : Addr} {u : Value} {tk : Tok} (du : DueIs rows kd t am s.heap u) (hu : A.units < cLine)
  (h1 : ∀ t1, u = st "trait" t1 → Twice rows kd t → Q (.bool true) s) (h0 : ¬ Twice rows kd t → Q (.bool false) s) : wpAny (model PR w) A (compareOp .Eq u (.str (PySem.Str.ofString "trait") tk)) Q E s := by
 rcases du with ⟨t1, d, t', wd, rfl, e, hl⟩ | ⟨t1, rfl, e⟩ | ⟨r, d, t', wd, out, fn, k, rfl, e, hi, c⟩
 ·exact eq_str (by rw [show (PySem.Str.ofString "trait" == PySem.Str.ofString "trait") = true from beq_self_eq_true _]; exact h1 t1 rfl ⟨d, t', wd, e, hl⟩)
 ·refine eq_str ?_
  rw [show (PySem.Str.ofString "type" == PySem.Str.ofString "trait") = false from by decide]
  exact h0 fun ⟨_, _, _, e', _⟩ => by rw [e] at e'; cases e'
 ·obtain ⟨_, _, _, _, _, _, _, _, it, _⟩ := c
  refine PySem.SeqAt.RcAt.tuple_str _ _ it hu _ _ _ _ ?_
  exact h0 fun ⟨_, _, _, e', hl⟩ => by rw [e] at e'; cases e'; exact hit_len hi hl
theorem ne_odd {rows : List Row} {kd : Kind} {t : Ty} {am : Addr} {v u : Value} (td : ToldIs rows (some kd) t .bool am s.heap v) (x : (∃ t1, u = st "trait" t1 ∧ Twice rows kd t) ∨ ∃ t1, u = st "type" t1 ∧ ¬ Twice rows kd t) (h : Q (.bool false) s) :
  wpAny (model PR w) A (compareOp .NotEq v u) Q E s := by
 have same : ∀ (x : String) (t1 t2 : Tok), wpAny (model PR w) A (compareOp .NotEq (st x t1) (st x t2)) Q E s := fun x t1 t2 => ne_str (by rw [show (PySem.Str.ofString x != PySem.Str.ofString x) = false from bne_self_eq_false _]; exact h)
 rcases td with ⟨tk, d, t', wd, rfl, e, hl⟩ | ⟨tk, rfl, e⟩ | ⟨r, ol, rfl, q, _⟩
 ·rcases x with ⟨t1, rfl, _⟩ | ⟨t1, rfl, n⟩
  ·exact same _ _ _
  ·exact absurd ⟨d, t', wd, e, hl⟩ n
 ·rcases x with ⟨t1, rfl, ⟨d, t', wd, e', hl⟩⟩ | ⟨t1, rfl, n⟩
  ·rcases e with e | ⟨_, d2, t2, w2, e, hl2⟩
   ·rw [e] at e'; cases e'
   ·rw [e] at e'; cases e'; exact absurd hl hl2
  ·exact same _ _ _
 ·cases q
end
section
variable {g h : Heap} {L src : Addr} {m : Str → Option Value} {ps : Array Value} {l : List (Addr × Obj)}
theorem lam_ever {mu : List Addr} (F : Fr g L h m) (x : LamSt (hideAll h [850]) ps) (hmu : ∀ b ∈ mu, b = 850 ∨ ∃ o, h.get? b = some o ∧ NoCode o) {h₂ : Heap} {m₂ : Str → Option Value} (F₂ : Fr g L h₂ m₂) (N₂ : News g L h₂ (restH g L mu h)) : LamSt (hideAll h₂ [850]) ps := by
 refine x.imp id fun ⟨c', e, q⟩ => ⟨c', e, ?_⟩
 obtain ⟨c, o, vs, t, e1, e2, e3, r⟩ := q
 have e2' := of_hideAll _ e2
 have n1 : c ≠ 850 := fun q => by rw [q, hide_none] at e2; cases e2
 have n2 : c ≠ L := fun q => by
  rw [q] at e2'
  obtain ⟨es, ep, d⟩ := frame_is_dict F e2'
  rw [e3] at d; cases d
 have n3 : c ∉ mu := fun hm => by
  rcases hmu _ hm with q | ⟨o', a, b⟩
  ·exact n1 q
  ·rw [e2'] at a; cases a; exact b _ _ _ e3 r
 exact ⟨c, o, vs, t, e1, hideAll_get _ (ev_obj F e2' n2 n3 F₂ N₂) (fun hm => n1 (List.mem_singleton.mp hm)), e3, r⟩
theorem hidden_up {h' : Heap} {as bs : List Addr} (hs : ∀ b ∈ bs, b ∈ as) (k : ∀ b o, b ∉ as → h.get? b = some o → h'.get? b = some o) : (hideAll h as).StaysIn (hideAll h' bs) := fun b o e => by
 have n : b ∉ as := fun hm => by rw [hideAll_none _ hm] at e; cases e
 exact hideAll_get _ (k b o n (of_hideAll _ e)) fun hm => n (hs b hm)
end
theorem world_ever {w : World} {g h : Heap} {L src wo rl : Addr} {m : Str → Option Value} {v : Value} {ps : Array Value} {rows : List Row} {kd : Kind} (F : Fr g L h m) (hv : m scr = some v) (ht : h.get? 850 = some (tabObj ps)) (W : WAtS w (hideAll h [src]) wo rows kd) (R : LRows (hideAll h [src]) rl rows)
  {h₂ : Heap} {m₂ : Str → Option Value} (F₂ : Fr g L h₂ m₂) (N₂ : News g L h₂ (restH g L [850, src] h)) : WAt w (hideAll h₂ [850, src, L]) wo rows (some kd) ∧ LRows (hideAll h₂ [850, src, L]) rl rows := by
 have k : StaysW (hideAll h [src]) (hideAll h₂ [850, src, L]) := fun b o e hc hn => by
  have e' := of_hideAll _ e
  have n1 : b ≠ src := fun q => by rw [q, hide_none] at e; cases e
  have n2 : b ≠ 850 := fun q => by rw [q, ht] at e'; cases e'; exact hc rfl
  have n3 : b ≠ L := fun q => by
   rw [q] at e'
   obtain ⟨o', es, ep, h1, h2, _, h4⟩ := F.ns
   rw [e'] at h1; cases h1
   have q := hn es ep h2
   rw [h4 scr, hv] at q; cases q
  refine hideAll_get _ (ev_obj F e' n3 (fun hm => ?_) F₂ N₂) (fun hm => ?_)
  ·rcases List.mem_cons.mp hm with q | hm
   ·exact n2 q
   ·exact n1 (List.mem_singleton.mp hm)
  ·rcases List.mem_cons.mp hm with q | hm
   ·exact n2 q
   ·rcases List.mem_cons.mp hm with q | hm
    ·exact n1 q
    ·exact n3 (List.mem_singleton.mp hm)
 exact ⟨k.wat W, k.lrows R⟩
theorem led_two {g h h₀ : Heap} {L src : Addr} {ps : Array Value} {o : Obj} {l : List (Addr × Obj)} (m85 : h.get? 850 = some (tabObj ps)) (N₀ : News g L h₀ l) (hm : (850, tabObj ps) ∈ l) (N : News g L h [(src, o)]) : News g L h ((850, tabObj ps) :: (src, o) :: restH g L [850, src] h) := by
 intro p hp
 k_extra "v0"
 ·exact ⟨m85, (N₀ _ hm).2⟩
 ·rcases List.mem_cons.mp hp with rfl | hp
  ·exact N _ (.head _)
  ·exact rest_news _ hp
section
variable {g h h' : Heap} {L src am : Addr} {m : Str → Option Value} {v : Value} {rows : List Row} {tkd : Option Kind} {kd : Kind} {t a : Ty}
theorem ToldIs.keeps (k : ∀ a items, IsTup h a items → IsTup h' a items) (x : ToldIs rows tkd t a am h v) : ToldIs rows tkd t a am h' v := by
 rcases x with x | x | ⟨r, ol, e, ea, c⟩
 ·exact .inl x
 ·exact .inr (.inl x)
 ·exact .inr (.inr ⟨r, ol, e, ea, c.move k⟩)
theorem DueIs.keeps (k : ∀ a items, IsTup h a items → IsTup h' a items) (x : DueIs rows kd t am h v) : DueIs rows kd t am h' v := by
 rcases x with x | x | ⟨r, d, t', w, out, fn, k', e, e', hi, c⟩
 ·exact .inl x
 ·exact .inr (.inl x)
 ·exact .inr (.inr ⟨r, d, t', w, out, fn, k', e, e', hi, c.move k⟩)
theorem rows_out (LR : LawRows kd rows) : ∀ r ∈ rows, r.out.size ≤ 6 := fun r hr => by
 obtain ⟨i, hi⟩ := List.getElem?_of_mem hr
 have x := LR.all i r hi
 rw [x.out]
 rcases x.told with e | e | e | e <;> rw [e] <;> simp [Ty.size]
theorem tup_ne {g h : Heap} {L a b : Addr} {o : Obj} {its : Array Value} {l : List (Addr × Obj)} (N : News g L h l) (hm : (b, o) ∈ l) (hc : o.cls ≠ .type "tuple") (x : IsTup h a its) : a ≠ b := fun e => by
 obtain ⟨o', e1, c, _⟩ := x
 rw [e, (N _ hm).1] at e1
 cases e1
 exact hc c
theorem law_end {g h : Heap} {L I : Addr} {oI : Obj} {m : Str → Option Value} {ps : Array Value} {l₀ ll mu' : List (Addr × Obj)} (F : Fr g L h m) (N : News g L h ll) (mI : (I, oI) ∈ ll) (m85 : (850, tabObj ps) ∈ ll) (hm : ∀ p ∈ mu', p ∈ ll ∧ NoCode p.2) (s0 : ∀ p ∈ l₀, p ∈ ll) (n0 : ∀ p ∈ l₀, p.1 ≠ 850 ∧ p.1 ≠ I ∧ p.1 ∉ mu'.map (·.1))
  (ls : LamSt (hideAll h [850]) ps) (noC : NoCode oI) : ∃ l', News g L h ((I, oI) :: (850, tabObj ps) :: (mu' ++ l')) ∧ (∀ p ∈ l', p.1 ≠ 850 ∧ p.1 ≠ I ∧ p.1 ∉ mu'.map (·.1)) ∧ (∀ p ∈ l₀, p ∈ l') ∧ Ev g L l' fun h => LamSt (hideAll h [850]) ps := by
 refine ⟨restH g L (850 :: I :: mu'.map (·.1)) h, fun p hp => ?_, fun p hp => ?_, fun p hp => mem_restH.mpr ⟨(N _ (s0 p hp)).1, (N _ (s0 p hp)).2.2, (N _ (s0 p hp)).2.1, ?_⟩, fun h₂ m₂ F₂ N₂ => lam_ever F ls (fun b hb => ?_) F₂ N₂⟩
 ·rcases List.mem_cons.mp hp with rfl | hp
  ·exact N _ mI
  ·rcases List.mem_cons.mp hp with rfl | hp
   ·exact N _ m85
   ·rcases List.mem_append.mp hp with hp | hp
    ·exact N _ (hm p hp).1
    ·exact rest_news p hp
 ·have := (mem_restH.mp hp).2.2.2
  exact ⟨fun e => this (e ▸ .head _), fun e => this (e ▸ .tail _ (.head _)), fun e => this (.tail _ (.tail _ e))⟩
 ·obtain ⟨a, b, c⟩ := n0 p hp
  intro e
  rcases List.mem_cons.mp e with e | e
  ·exact a e
  ·rcases List.mem_cons.mp e with e | e
   ·exact b e
   ·exact c e
 ·rcases List.mem_cons.mp hb with e | hb
  ·exact .inl e
  ·rcases List.mem_cons.mp hb with e | hb
   ·exact .inr ⟨oI, e ▸ (N _ mI).1, noC⟩
   ·obtain ⟨q, hq, e⟩ := List.mem_map.mp hb
    exact .inr ⟨q.2, e ▸ (N _ (hm q hq).1).1, (hm q hq).2⟩
end
noncomputable def setF (fs : List (String × Value)) (nm : String) (v : Value) : List (String × Value) := match fs with
 | [] => [(nm, v)]
 | p :: r => if PySem.Str.ofString p.1 = PySem.Str.ofString nm then (p.1, v) :: r else p :: setF r nm v
theorem putL_set {es : List DictEntry} {fs : List (String × Value)} {nm : String} {hsh : Int} {tk : Tok} {v : Value} (h : FieldsAre es fs) : FieldsAre (putL (PySem.Str.ofString nm) hsh (.str (PySem.Str.ofString nm) tk) v es) (setF fs nm v) := by
 unfold FieldsAre at h ⊢
 induction es generalizing fs with
 | nil => cases fs with
  | nil => rfl
  | cons p r => simp at h
 | cons e es ih => cases fs with
  | nil => simp at h
  | cons p r =>
   simp only [List.map_cons, List.cons.injEq, Prod.mk.injEq] at h
   obtain ⟨⟨hk, hv⟩, hr⟩ := h
   obtain ⟨hsh', key, val⟩ := e
   dsimp only at hk hv
   cases key <;> first | cases hk | skip
   subst hv
   unfold putL setF
   by_cases q : PySem.Str.ofString p.1 = PySem.Str.ofString nm
   ·have q' : (PySem.Str.ofString p.1 == PySem.Str.ofString nm) = true := by simpa using q
    simp only [Value.isStr, q', if_true, if_pos q, List.map_cons, hr]
   ·have q' : (PySem.Str.ofString p.1 == PySem.Str.ofString nm) = false := by simpa using q
    simp only [Value.isStr, q', Bool.false_eq_true, if_false, if_neg q, List.map_cons, ih hr]
section
variable {prog : Program} {w : World} {A : Around} {E : Value → Shared → Prop} {s : Shared} {K : Frag} {L : Addr} {g : Heap} {m mg mb : Str → Option Value} {news : List (Addr × Obj)} {gn : Obj → List (Addr × Obj)} {p : Program} {loose : List Str} {mean : ExcName → Option Value}
theorem set_old {x dx C : Addr} {es : List DictEntry} {n : Nat} {fs : List (String × Value)} {nm : String} {v : Value} {Q : Unit → Shared → Prop} (F : Fr g L s.heap m) (X₀ : K.In g) (N : News g L s.heap news) (hx : (x, instObj C dx) ∈ news) (U : UpdF dx (dictOf es n) news gn) (hf : FieldsAre es fs)
  (hz : fs.length ≤ 900) (hs : findIn K (.ref C) "__setattr__" = some (some (.builtin "object.__setattr__"))) (hp : plainOver K C = true) (ht : takerIn K C (PySem.Str.ofString nm) = some none) (hh : hasDictIn K C = true)
  (h : ∀ h' es' n', Fr g L h' m → News g L h' (gn (dictOf es' n')) → FieldsAre es' (setF fs nm v) → Q () { s with heap := h', toks := s.toks + 2 }) :
  wpAny (model prog w) A (setAttr (.ref x) (PySem.Str.ofString nm) v) Q E s := by
 obtain ⟨pre, post, rfl, hgr, a, b⟩ := U.split
 have I : InstAt s.heap x (instObj C dx) C (some (dictOf es n)) := ⟨(N _ hx).1, rfl, rfl, (N _ (List.mem_append_right _ (.head _))).1⟩
 have hlen : es.length = fs.length := by have := congrArg List.length hf; simpa using this
 refine set_plain (X₀.keeps F.keep) I hs (osa_dict (s := { s with toks := s.toks + 1 }) F N (X₀.keeps F.keep) I rfl hp ht hh (by rw [lookIn_dict, hf.get]; rfl) a b (by rw [putName_dict]) rfl (Nat.le_trans putL_len (by k_extra "le")) fun h' F' N' => h h' _ _ F' (by rw [hgr]; exact N') (putL_set hf))
end
theorem law_type (C : Cx w p loose mean mg mb A A₀ base h₀ outer env L m s.heap 20 120) {src : Addr} {a9 b9 : Int} {t19 t29 : Tok} {n9 : Nat} {ps : Array Value} {ll : List (Addr × Obj)} (N : News h₀ L s.heap ll)
  (m85 : (850, tabObj ps) ∈ ll) (ms : (src, PySem.W.listOf #[.int a9 t19, .int b9 t29] n9) ∈ ll)
  (ret : ∀ (v : Addr) t a' b' t1 t2 n' h' tk' l', LawTy 2 t → Fr h₀ L h' m → News h₀ L h' ((850, tabObj ps) :: (src, PySem.W.listOf #[.int a' t1, .int b' t2] n') :: l') → ((∀ p ∈ l', p.1 ≠ 850) ∧ ∀ p ∈ l', p.1 ≠ src) → (∀ p ∈ ll, p.1 ≠ 850 → p.1 ≠ src → p ∈ l') →
   TyE (fun _ => True) h₀ L l' (.ref v) t → Q (.ref v) { s with heap := h', toks := tk' }) :
  wpAny (model PR w) A (PySem.call (.ref (862 : Nat)) [.ref src]) Q E s := by
 refine type_w C (news_one N ms) fun v t a' b' t1 t2 n' h' tk' ly st F' N' ty => ?_
 obtain ⟨v, rfl⟩ := ty.isRef
 have up : ∀ q ∈ ll, q.1 ≠ src → h'.get? q.1 = some q.2 := fun q hq n => st _ _ (hideAll_get _ (N q hq).1 fun hm => n (List.mem_singleton.mp hm))
 have nsr : (850 : Nat) ≠ src := fun e => by
  have h1 := (N _ m85).1
  have h2 := (N _ ms).1
  dsimp only at h1 h2
  rw [e, h2] at h1
  cases h1
 have g85 := up _ m85 nsr
 refine ret v t a' b' t1 t2 n' h' tk' _ ly F' (led_two g85 N m85 N') ⟨rest_ne (.head _), rest_ne (.tail _ (.head _))⟩ (fun q hq n1 n2 => mem_restH.mpr ⟨up q hq n2, (N q hq).2.2, (N q hq).2.1, fun hm => ?_⟩) ?_
 ·rcases List.mem_cons.mp hm with e | hm
  ·exact n1 e
  ·exact n2 (List.mem_singleton.mp hm)
 ·have NM : News h₀ L h' [(850, tabObj ps), (src, PySem.W.listOf #[.int a' t1, .int b' t2] n')] := fun q hq => by
   k_extra "j0"
   ·exact ⟨g85, (N _ m85).2⟩
   ·exact N' q hq
  exact tyE_of (mu := [850, src]) F' (ty_off NM (by intro q hq; rcases List.mem_cons.mp hq with rfl | hq; exact nofun; rw [List.mem_singleton.mp hq]; simp [PySem.W.listOf]) (ty.keeps hide_all)) (fun _ n => n) (fun _ _ => trivial)
theorem law_told (C : Cx w p loose mean mg mb A A₀ h₀ h₀ [] env L m s.heap 150 1000) {wo rl ea am src : Addr} {q4 q5 q6 : Tok} {n1 n2 : Nat} {ps : Array Value} {ok ok' : Addr → Prop} {t a : Ty} {kd : Kind} {rows : List Row} {tv z0 av z2 z3 : Value} {ll l1 : List (Addr × Obj)} {gn : Obj → List (Addr × Obj)}
  (ha : a = .u8 ∨ a = .bool) (ty : LawTy 2 t) (LR : LawRows kd rows) (N : News h₀ L s.heap ll) (U : UpdF 850 (tabObj ps) ll gn) (hC9 : CodeHd h₀ 854 850) (s1 : ∀ p ∈ l1, p ∈ ll) (r1 : ∀ p ∈ l1, p.1 ≠ 850) (ls : LamSt (hideAll s.heap [850]) ps)
  (WE : Ev h₀ L l1 fun h => WAt w (hideAll h [850, src, L]) wo rows (some kd) ∧ LRows (hideAll h [850, src, L]) rl rows)
  (he : (ea, ({ cls := .type "tuple", data := .seq #[st "local" q4, tv, .int 4 q5, .int 1 q6] n1 } : Obj)) ∈ ll) (tE : Ev h₀ L l1 fun h => TyAt ok h tv t)
  (hm : (am, ({ cls := .type "tuple", data := .seq #[z0, av, z2, z3] n2 } : Obj)) ∈ ll) (aT : TyAt ok' s.heap av a)
  (ret : ∀ v ps' h' tk', Fr h₀ L h' m → News h₀ L h' (gn (tabObj ps')) → LamSt (hideAll h' [850]) ps' → (∀ a items, IsTup s.heap a items → IsTup h' a items) → ToldIs rows (some kd) t a am h' v → Q v { s with heap := h', toks := tk' }) :
  wpAny (model PR w) A (PySem.call (.ref (855 : Nat)) [.ref wo, .ref ea, .ref am]) Q E s := by
 obtain ⟨pre, post, e1, e2, o1, o2⟩ := U.split
 have m85 : (850, tabObj ps) ∈ ll := by rw [e1]; exact List.mem_append_right _ (.head _)
 have nc : (tabObj ps).cls ≠ .type "tuple" := nofun
 have hid : ∀ a items, IsTup s.heap a items → IsTup (hideAll s.heap [850]) a items := fun a items it => by
  have n := tup_ne N m85 nc it
  obtain ⟨o, e, r⟩ := it
  exact ⟨o, hideAll_get _ e fun hm => n (List.mem_singleton.mp hm), r⟩
 have FH : Fr h₀ L (hideAll s.heap [850]) m := Fr.hideC C.F (N _ m85).2.2 (N _ m85).2.1
 have NH : News h₀ L (hideAll s.heap [850]) l1 := led_hide (news_sub N s1) r1
 refine told_w C ha (Nat.lt_of_le_of_lt ty.2.1 (by decide)) (Nat.le_trans ty.2.2 (by decide)) ty.1 (rows_out LR) (news_one N m85) hC9 ls
  ((WE _ _ C.F (news_sub N s1)).1.keeps (hidden_up (fun b hb => by rw [List.mem_singleton.mp hb]; exact .head _) fun _ _ _ e => e)) (hid _ _ (News.isTup N he)) (tE _ _ FH NH) (hid _ _ (News.isTup N hm)) ((aT.move fun a its it _ => ⟨hid _ _ it, trivial⟩)) ?_
 intro v ps' h' tk' k F' N' ls' td
 have kt : ∀ a items, IsTup s.heap a items → IsTup h' a items := fun a items it => by
  have nL := isTup_ne C.F it
  obtain ⟨o, e, r⟩ := hid _ _ it
  exact ⟨o, k _ _ nL e, r⟩
 refine ret v ps' h' tk' F' ?_ ls' kt td
 rw [e2]
 have go : ∀ q ∈ ll, q.1 ≠ 850 → h'.get? q.1 = some q.2 ∧ q.1 ≠ L ∧ h₀.get? q.1 = none := fun q hq n => ⟨k _ _ (N q hq).2.1 (hideAll_get _ (N q hq).1 fun hm => n (List.mem_singleton.mp hm)), (N q hq).2⟩
 intro q hq
 rcases List.mem_append.mp hq with hq | hq
 ·exact go q (by rw [e1]; exact List.mem_append_left _ hq) (o1 q hq)
 ·rcases List.mem_cons.mp hq with rfl | hq
  ·exact N' _ (.head _)
  ·exact go q (by rw [e1]; exact List.mem_append_right _ (.tail _ hq)) (o2 q hq)
theorem law_due (C : Cx w p loose mean mg mb A A₀ base h₀ outer env L m s.heap 40 300) {wo rl ea am src : Addr} {q4 q5 q6 : Tok} {n1 : Nat} {ps : Array Value} {ok : Addr → Prop} {t : Ty} {kd : Kind} {rows : List Row} {tv : Value} {ll l1 : List (Addr × Obj)}
  (ty : LawTy 2 t) (LR : LawRows kd rows) (N : News h₀ L s.heap ll) (s1 : ∀ p ∈ l1, p ∈ ll) (ls : LamSt (hideAll s.heap [850]) ps)
  (WE : Ev h₀ L l1 fun h => WAt w (hideAll h [850, src, L]) wo rows (some kd) ∧ LRows (hideAll h [850, src, L]) rl rows)
  (he : (ea, ({ cls := .type "tuple", data := .seq #[st "local" q4, tv, .int 4 q5, .int 1 q6] n1 } : Obj)) ∈ ll) (tE : Ev h₀ L l1 fun h => TyAt ok h tv t)
  (ret : ∀ v h' tk', Fr h₀ L h' m → News h₀ L h' ll → LamSt (hideAll h' [850]) ps → s.heap.StaysIn h' → DueIs rows kd t am h' v → Q v { s with heap := h', toks := tk' }) :
  wpAny (model PR w) A (PySem.call (.ref (848 : Nat)) [.ref rl, .ref ea, .ref am]) Q E s := by
 have NS := news_sub N s1
 obtain ⟨vs, x1, x2, x3⟩ := (WE _ _ C.F NS).2.keeps (fun _ _ e => of_hideAll _ e : (hideAll s.heap [850, src, L]).StaysIn s.heap)
 refine due_w (t := t) (ok := fun _ => True) C x1 (rowP_of x2 x3) LR (.loc (News.isTup N he) trivial ((tE _ _ C.F NS).imp fun _ _ => trivial)) (Nat.lt_of_le_of_lt ty.2.1 (by decide)) (Nat.le_trans ty.2.2 (by decide)) ?_
 intro v h' tk' du st F'
 exact ret v h' tk' F' (News.grown N st) (ls.keeps (hidden_up (fun _ h => h) fun b o _ e => st b o e)) st du
theorem law_world (C : Cx w p loose mean mg mb A A₀ base h₀ outer env L m s.heap 40 250) {src : Addr} {a9 b9 : Int} {t19 t29 : Tok} {n9 : Nat} {ps : Array Value} {ll l1 : List (Addr × Obj)} {v : Value} (N : News h₀ L s.heap ll) (hv : m scr = some v)
  (m85 : (850, tabObj ps) ∈ ll) (ms : (src, PySem.W.listOf #[.int a9 t19, .int b9 t29] n9) ∈ ll) (s1 : ∀ p ∈ l1, p ∈ ll) (lE : Ev h₀ L l1 fun h => LamSt (hideAll h [850]) ps) (n1 : ∀ p ∈ l1, p.1 ≠ src)
  (ret : ∀ (T wo rl : Addr) k rows kd a' b' t1 t2 n' h' tk' l', LawRows kd rows → Fr h₀ L h' m → News h₀ L h' ((850, tabObj ps) :: (src, PySem.W.listOf #[.int a' t1, .int b' t2] n') :: l') → ((∀ p ∈ l', p.1 ≠ 850) ∧ ∀ p ∈ l', p.1 ≠ src) → (∀ p ∈ ll, p.1 ≠ 850 → p.1 ≠ src → p ∈ l') →
   (T, ({ cls := .type "tuple", data := .seq #[.ref wo, .ref rl] k } : Obj)) ∈ l' → (Ev h₀ L l' fun h => WAt w (hideAll h [850, src, L]) wo rows (some kd) ∧ LRows (hideAll h [850, src, L]) rl rows) →
   (Ev h₀ L l' fun h => LamSt (hideAll h [850]) ps) → Q (.ref T) { s with heap := h', toks := tk' }) :
  wpAny (model PR w) A (PySem.call (.ref (836 : Nat)) [.ref src]) Q E s := by
 refine world_w C (news_one N ms) fun T wo rl rows kd a' b' t1 t2 n' k' h' tk' LR st F' N' W R => ?_
 have up : ∀ q ∈ ll, q.1 ≠ src → h'.get? q.1 = some q.2 := fun q hq n => st _ _ (hideAll_get _ (N q hq).1 fun hm => n (List.mem_singleton.mp hm))
 have nsr : (850 : Nat) ≠ src := fun e => by
  have h1 := (N _ m85).1
  have h2 := (N _ ms).1
  dsimp only at h1 h2
  rw [e, h2] at h1
  cases h1
 have g85 := up _ m85 nsr
 have ng : ∀ q ∈ ll, q.1 ≠ 850 → q.1 ≠ src → q ∈ restH h₀ L [850, src] h' := fun q hq n1 n2 => mem_restH.mpr ⟨up q hq n2, (N q hq).2.2, (N q hq).2.1, fun hm => by
  rcases List.mem_cons.mp hm with e | hm
  ·exact n1 e
  ·exact n2 (List.mem_singleton.mp hm)⟩
 have NL : News h₀ L h' l1 := fun q hq => ⟨up q (s1 q hq) (n1 q hq), (N q (s1 q hq)).2⟩
 have hT : (T, ({ cls := .type "tuple", data := .seq #[.ref wo, .ref rl] k' } : Obj)) ∈ restH h₀ L [850, src] h' := mem_rest_of N' (.head _) fun b hb e => by
  have q1 := (N' _ (.head _)).1
  dsimp only at q1
  rcases List.mem_cons.mp hb with rfl | hb
  ·rw [e, g85] at q1
   injection q1 with q1
   have := congrArg Obj.cls q1
   exact absurd this nofun
  ·have q2 := (N' _ (.tail _ (.head _))).1
   dsimp only at q2
   rw [e, List.mem_singleton.mp hb, q2] at q1
   injection q1 with q1
   have := congrArg Obj.cls q1
   simp [PySem.W.listOf] at this
 exact ret T wo rl k' rows kd a' b' t1 t2 n' h' tk' _ LR F' (led_two g85 N m85 (news_tl N')) ⟨rest_ne (.head _), rest_ne (.tail _ (.head _))⟩ ng hT (fun h₂ m₂ F₂ N₂ => world_ever F' hv g85 W R F₂ N₂)
  fun h₂ m₂ F₂ N₂ => lam_ever F' (lE _ _ F' NL) (fun b hb => by
   rcases List.mem_cons.mp hb with e | hb
   ·exact .inl e
   ·exact .inr ⟨_, (List.mem_singleton.mp hb) ▸ (N' _ (.tail _ (.head _))).1, fun vs q t e => by simp [PySem.W.listOf] at e⟩) F₂ N₂
theorem law_ne {am : Addr} {t1 t2 t3 : Tok} {t : Ty} {kd : Kind} {rows : List Row} {v u : Value} (LR : LawRows kd rows) (X : (hd.heap_1 w.params).In s.heap) (td : ToldIs rows (some kd) t .u8 am s.heap v) (du : DueIs rows kd t am s.heap u) (ly : LawTy 2 t)
  (it : IsTup s.heap am #[st "const" t1, .ref (819 : Nat), .int 8 t2, .int 3 t3]) (hu : A.units + 64 < cLine) (h : Q (.bool false) s) : wpAny (model PR w) A (compareOp .NotEq v u) Q E s :=
 ne_same LR td du (ExAt.con (ok := fun _ => True) (b := false) it trivial (u8_at X)).reads (Nat.lt_of_le_of_lt ly.2.1 (by decide)) (Ex.good (N := 0) (n := 0) (.con .u8 false) (Nat.le_refl 0)).1 (Nat.le_trans (Ex.good (N := 0) (n := 0) (.con .u8 false) (Nat.le_refl 0)).2 (by decide)) (Nat.le_trans ly.2.2 (by decide)) hu h
theorem law_dueE (C : Cx w p loose mean mg mb A A₀ base h₀ outer env L m s.heap 40 300) {wo rl ea am src : Addr} {q4 q5 q6 : Tok} {n1 n2 : Nat} {ps its : Array Value} {ok : Addr → Prop} {t : Ty} {kd : Kind} {rows : List Row} {tv : Value} {ll l1 : List (Addr × Obj)}
  (ty : LawTy 2 t) (LR : LawRows kd rows) (N : News h₀ L s.heap ll) (m85 : (850, tabObj ps) ∈ ll) (ms : (src, PySem.W.listOf its n2) ∈ ll) (s1 : ∀ p ∈ l1, p ∈ ll) (n1' : ∀ p ∈ l1, p.1 ≠ 850 ∧ p.1 ≠ src) (lE : Ev h₀ L l1 fun h => LamSt (hideAll h [850]) ps)
  (WE : Ev h₀ L l1 fun h => WAt w (hideAll h [850, src, L]) wo rows (some kd) ∧ LRows (hideAll h [850, src, L]) rl rows)
  (he : (ea, ({ cls := .type "tuple", data := .seq #[st "local" q4, tv, .int 4 q5, .int 1 q6] n1 } : Obj)) ∈ ll) (tE : Ev h₀ L l1 fun h => TyAt ok h tv t)
  (ret : ∀ v h' tk' l', Fr h₀ L h' m → News h₀ L h' ((850, tabObj ps) :: (src, PySem.W.listOf its n2) :: l') → ((∀ p ∈ l', p.1 ≠ 850) ∧ ∀ p ∈ l', p.1 ≠ src) → (∀ p ∈ ll, p.1 ≠ 850 → p.1 ≠ src → p ∈ l') → (∀ p ∈ l1, p ∈ l') → (Ev h₀ L l' fun h => LamSt (hideAll h [850]) ps) →
   (Ev h₀ L l' fun h => DueIs rows kd t am h v) → Q v { s with heap := h', toks := tk' }) :
  wpAny (model PR w) A (PySem.call (.ref (848 : Nat)) [.ref rl, .ref ea, .ref am]) Q E s := by
 refine law_due C ty LR N s1 (lE _ _ C.F (news_sub N s1)) WE he tE fun v h' tk' F' N' ls' st' du => ?_
 have ng : ∀ q ∈ ll, q.1 ≠ 850 → q.1 ≠ src → q ∈ restH h₀ L [850, src] h' := fun q hq n1 n2 => mem_restH.mpr ⟨(N' q hq).1, (N' q hq).2.2, (N' q hq).2.1, fun hm => by
  rcases List.mem_cons.mp hm with e | hm
  ·exact n1 e
  ·exact n2 (List.mem_singleton.mp hm)⟩
 have sl : ∀ q ∈ l1, q ∈ restH h₀ L [850, src] h' := fun q hq => ng q (s1 q hq) (n1' q hq).1 (n1' q hq).2
 refine ret v h' tk' _ F' (led_two (N' _ m85).1 N' m85 (news_one N' ms)) ⟨rest_ne (.head _), rest_ne (.tail _ (.head _))⟩ ng sl (lE.up sl) fun h₂ m₂ F₂ N₂ => du.keeps fun a items it => ev_tup F' it (fun hm => ?_) _ _ F₂ N₂
 rcases List.mem_cons.mp hm with e | hm
 ·exact tup_ne N' m85 nofun it e
 ·exact tup_ne N' ms (by simp [PySem.W.listOf]) it (List.mem_singleton.mp hm)
theorem dict_at {g h : Heap} {L' a : Addr} {o : Obj} {kvs : List (PySem.Str × Value)} {l : List (Addr × Obj)} (N : News g L' h l) (d : o.IsDictOf (KD w) kvs) (hm : (a, o) ∈ l) (lo : (a == sysModules) = false) : DictAt w h a kvs := ⟨Heap.dictOf_iff.mpr ⟨o, (N _ hm).1, d⟩, lo⟩
noncomputable def handRow : Row := ⟨false, .S, .mut, .bool, PySem.Str.ofString "impl#0::go"⟩
noncomputable def handEx : Ex := .borrow (.ref true .S) .auto (.deref .S (.loc (.ref true .S)))
theorem hand_seek : seekL (hasAt [handRow] none) (Ty.ref true .S).chain 0 = some (0, .ref true .S, none) := by rfl
theorem hand_own : ownHits (recv none (.ref true .S)) [handRow] = [(handRow, 0)] := by rfl
theorem hand_ex : recvE none handRow.kind (derefN 0 (.loc (.ref true .S))) = handEx := by rfl
theorem hand_shaped : PySem.SeqAt.shaped handEx.data = true := (Ex.good (N := 1) (n := 2) handEx ⟨Nat.le_refl _, Nat.zero_le _, Nat.le_refl _⟩).shaped (Nat.le_of_ble_eq_true rfl)
theorem hand_call {am r : Addr} {h : Heap} {ol : Array Value} (c : CmRes [handRow] none (.ref true .S) am h r ol) : ∃ out fn, CallAt h r out fn handEx am := by
 obtain ⟨d, t', w, e, c⟩ := c
 rw [hand_seek] at e
 cases e
 rcases c with ⟨r0, i, a, _, c⟩ | ⟨k', u, xo, vt, ty, q1, q2, ok, a1, _⟩
 ·rw [hand_own] at a
  cases a
  rw [hand_ex] at c
  exact ⟨_, _, c⟩
 ·rw [hand_own] at a1; cases a1
theorem law_hand (C : Cx w p loose mean mg mb A A₀ h₀ h₀ [] env L m s.heap 150 1000) {wo ea am im sg ow a1 a2 ds dt li a3 a4 : Addr} {q4 q5 q6 : Tok} {ps : Array Value} {ok : Addr → Prop} {z0 z2 z3 : Value} {ll : List (Addr × Obj)} {gn : Obj → List (Addr × Obj)}
  (N : News h₀ L s.heap ll) (U : UpdF 850 (tabObj ps) ll gn) (hC9 : CodeHd h₀ 854 850) (ls : LamSt (hideAll s.heap [850]) ps)
  (I : Inst s.heap wo 793 (wdF a1 a2 ds dt li a3 a4)) (hl : s.heap.IsList li #[.ref im]) (D1 : DictAt w s.heap ds [(PySem.Str.ofString "impl#0::go", .ref sg)]) (D2 : DictAt w s.heap dt []) (hi : ImplAt w s.heap (.ref im) 0 handRow) (hs : SigAt w s.heap (.ref sg) handRow)
  (he : IsTup s.heap ea #[st "local" q4, .ref ow, .int 4 q5, .int 1 q6]) (to : TyAt ok s.heap (.ref ow) (.ref true .S)) (hm : IsTup s.heap am #[z0, .ref (819 : Nat), z2, z3])
  (ret : ∀ (r tu fa : Addr) vo t1 t2 rv ps' h' tk', Fr h₀ L h' m → News h₀ L h' (gn (tabObj ps')) → IsTup h' r #[st "call" t1, vo, .int 5 t2, .ref fa, .ref tu] → IsTup h' tu #[rv, .ref am] → ExAt (fun _ => True) h' rv handEx → Q (.ref r) { s with heap := h', toks := tk' }) :
  wpAny (model PR w) A (PySem.call (.ref (855 : Nat)) [.ref wo, .ref ea, .ref am]) Q E s := by
 obtain ⟨pre, post, e1, e2, o1, o2⟩ := U.split
 have m85 : (850, tabObj ps) ∈ ll := by rw [e1]; exact List.mem_append_right _ (.head _)
 have SW : StaysW s.heap (hideAll s.heap [850]) := fun b o e hc _ => hideAll_get _ e fun hm => by
  rw [List.mem_singleton.mp hm, (N _ m85).1] at e
  cases e
  exact hc rfl
 have W : WAt w (hideAll s.heap [850]) wo [handRow] none := by
  refine ⟨a1, a2, ds, dt, li, a3, a4, [.ref im], [(PySem.Str.ofString "impl#0::go", .ref sg)], [], SW.inst I rfl, SW.list hl, rfl, fun i v e => ?_, SW.dict D1 (by rfl), fun i r e => ?_, SW.dict D2 rfl, .inl ⟨rfl, rfl⟩, by decide⟩
  ·cases i with
   | zero => cases e; exact ⟨handRow, rfl, SW.impl hi⟩
   | succ i => simp at e
  ·cases i with
   | zero => cases e; exact ⟨.ref sg, by simp [valueAt, handRow], SW.sig hs⟩
   | succ i => simp at e
 refine told_w C (t := .ref true .S) (a := .u8) (tkd := none) (rows := [handRow]) (.inl rfl) (by decide) (by decide) rfl (fun r hr => by rw [List.mem_singleton.mp hr]; decide) (news_one N m85) hC9 ls W (SW.tup he) (SW.ty to) (SW.tup hm) (SW.ty ((u8_at C.X).keeps C.F.keep)) ?_
 intro v ps' h' tk' k F' N' ls' td
 rcases td with ⟨_, d, t', wd, _, e, hl⟩ | ⟨_, _, e⟩ | ⟨r, ol, rfl, _, c⟩
 ·rw [hand_seek] at e
  cases e
  rw [hand_own] at hl
  exact absurd hl (by decide)
 ·rcases e with e | ⟨e, _⟩
  ·rw [hand_seek] at e; cases e
  ·cases e
 obtain ⟨out, fn, c⟩ := hand_call c
 obtain ⟨t1, t2, vo, rv, fa, tu, ok1, ok2, x1, _, _, x2, x3⟩ := c
 refine ret r tu fa vo t1 t2 rv ps' h' tk' F' ?_ x1 x2 (x3.imp fun _ _ => trivial)
 rw [e2]
 have go : ∀ q ∈ ll, q.1 ≠ 850 → h'.get? q.1 = some q.2 ∧ q.1 ≠ L ∧ h₀.get? q.1 = none := fun q hq n => ⟨k _ _ (N q hq).2.1 (hideAll_get _ (N q hq).1 fun hm => n (List.mem_singleton.mp hm)), (N q hq).2⟩
 intro q hq
 rcases List.mem_append.mp hq with hq | hq
 ·exact go q (by rw [e1]; exact List.mem_append_left _ hq) (o1 q hq)
 ·rcases List.mem_cons.mp hq with rfl | hq
  ·exact N' _ (.head _)
  ·exact go q (by rw [e1]; exact List.mem_append_right _ (.tail _ hq)) (o2 q hq)
theorem hand_eq {ok ok' : Addr → Prop} {v u : Value} (x : ExAt ok s.heap v handEx) (y : ExAt ok' s.heap u handEx) (hu : A.units + 64 < cLine) (h : Q (.bool true) s) : wpAny (model PR w) A (compareOp .Eq v u) Q E s := by
 refine eq_dataH x.reads y.reads hand_shaped hand_shaped hu ?_
 rw [PySem.SeqAt.eqv_refl _ (PySem.SeqAt.canLay_of_shaped hand_shaped)]
 exact h
inductive LwJ0 (G : Heap) (L D7 : Addr) (m : Str → Option Value) (news : List (Addr × Obj)) : Prop
 | mk : ∀ (ps : Array Value) (l : List (Addr × Obj)) (sc : Addr) (xs : List Value) (ns : List Int) (t1 t2 t3 : Tok), (news = (850, tabObj ps) :: l) → ((∀ p ∈ l, p.1 ≠ 850)) → ((D7, ({ cls := .type "tuple", data := .seq #[st "const" t1, .ref 819, .int 8 t2, .int 3 t3] } : Obj)) ∈ l) → ((∀ h m', Fr G L h m' → News G L h l → LamSt (hideAll h [850]) ps)) → (m "script" = some (.ref sc)) → (m "arg" = some (.ref D7)) → (G.IsList sc xs.toArray) → (IntsAre xs ns) → (xs.length ≤ 63) → LwJ0 G L D7 m news
def jOf {G h : Heap} {L : Addr} {m₀ : Str → Option Value} (_F : Fr G L h m₀) (D7 : Addr) (m : Str → Option Value) (news : List (Addr × Obj)) : Prop := LwJ0 G L D7 m news
inductive LwJ1 (G : Heap) (L src wo rl D7 sc : Addr) (l₀ : List (Addr × Obj)) (m : Str → Option Value) (news : List (Addr × Obj)) : Prop
 | mk : ∀ (ps : Array Value) (a b : Int) (t1 t2 : Tok) (n : Nat) (l : List (Addr × Obj)), (news = (850, tabObj ps) :: (src, PySem.W.listOf #[.int a t1, .int b t2] n) :: l) → (((∀ p ∈ l, p.1 ≠ 850) ∧ ∀ p ∈ l, p.1 ≠ src)) → ((∀ p ∈ l₀, p ∈ l)) → ((Ev G L l fun h => LamSt (hideAll h [850]) ps)) → (m "script" = some (.ref sc)) → (m "arg" = some (.ref D7)) → (m "source" = some (.ref src)) → (m "world" = some (.ref wo)) → (m "rows" = some (.ref rl)) → LwJ1 G L src wo rl D7 sc l₀ m news
theorem turns_n (k : Nat) : ∃ n : Nat, (if (if (2 : Int) < (k : Int) then (2 : Int) else (k : Int)) > 1 then if (2 : Int) < (k : Int) then (2 : Int) else (k : Int) else 1) = (n : Int) ∧ n ≤ 2 := by
 by_cases h : 2 < k
 ·have h' : (2 : Int) < (k : Int) := by omega
  exact ⟨2, by simp [h'], by omega⟩
 ·have h' : ¬ (2 : Int) < (k : Int) := by omega
  by_cases h1 : 1 < k
  ·have h2 : (1 : Int) < (k : Int) := by omega
   exact ⟨k, by simp [h', h2], by omega⟩
  ·have h2 : ¬ (1 : Int) < (k : Int) := by omega
   exact ⟨1, by simp [h', h2], by omega⟩
theorem max_val {prog : Program} {w : World} {A : Around} {E : Value → Shared → Prop} {s : Shared} {g : Heap} {L : Addr} {m : Str → Option Value} {news : List (Addr × Obj)} {a b : Int} {t u : Tok} {Q : Value → Shared → Prop} (hh : A.handled = none) (F : Fr g L s.heap m) (N : News g L s.heap news)
  (h : ∀ t h' tk, Fr g L h' m → News g L h' news → Q (.int (if b > a then b else a) t) { s with heap := h', toks := tk }) : wpAny (model prog w) A (call (.builtin "max") [.int a t, .int b u]) Q E s :=
 max_two_ints hh fun h' tk k => by
  split
  ·rename_i c
   have := h u h' tk (F.keeps k) (N.grown k)
   rw [if_pos c] at this; exact this
  ·rename_i c
   have := h t h' tk (F.keeps k) (N.grown k)
   rw [if_neg c] at this; exact this
example : True := by
 k_with "call builtin:max cons nil" =>
  (k_here; k_dflt (refine max_val ‹_› ‹_› ‹_› ?_); refine clZ cZ.N.H.N ?_; refine gZ3 ?_; intro zc t9 h9 tk9; clear_value t9 h9 tk9; clear zc; intro F9 N9)
 k_with "call builtin:min cons nil" =>
  (k_here; (with_reducible show wpAny _ _ (call (Value.builtin _) [Value.int _ _, Value.int _ _]) _ _ _); k_dflt (refine min_two_N (by first | assumption | with_unfolding_all rfl) ‹_› ‹_› ?_); refine clZ cZ.N.H ?_; refine gZ2 ?_; intro zc h9 tk9; clear_value h9 tk9; clear zc; intro F9 N9)
 trivial
local macro_rules | `(tactic| tm_at "eq") => `(tactic| (apply PyProof.Rows.v_eq_bool; apply PyProof.Rows.v_res; rfl; apply PyProof.Rows.v_lit))
theorem mainW (d : DefRec) (k : List (PySem.Str × PySem.Expr)) (h0 : defOf hd.view_1 (Str.ofString "law") = some (d, k)) : Y d k := by
 cases h0.symm.trans (rfl : defOf hd.view_1 (Str.ofString "law") = some (_, _))
 clear h0
 show WalkO hd.view_1 _ (XL hd.view_1 []) (kmHook hd.heap_1 ((hd.heap_1 (aWorld 1).params).map (·.1)) (e0 _) [850]).says _ _ _ _
 refine @disc _ ?y ?e
 case e =>
 haveI h : @Eq (PLift _) (PLift.up (by
 k_go0
 all_goals try k_fold
 have hh : callerA.handled = none := rfl
 have hdp : callerA.depth + 300 < recursionLimit := by decide
 have hun : callerA.units + 2000 < cLine := by decide
 rename Below callerA _ [] _ => B0
 rename (hd.heap_1 _).In _ => X0
 rename Heap.IsList (ghostOf _ _) _ _ => hl0
 rename IntsAre _ _ => hI0
 rename CodeHd _ _ _ => hC0
 rename Shared => s1
 rename World => ww
 generalize ghostOf s1.heap _ = G at *
 generalize s1.heap.objs.size = LL at *
 rename_i u1_0 u1_1 u1_2 u1_3 u1_4 u1_5 u1_6 u1_7 u1_8 u1_9 u1_10 u1_11 u1_12 u1_13 u1_14 u1_15 u1_16 u1_17 u1_18 u1_19 u1_20 u1_21 u1_22 u1_23 u1_24 u1_25 u1_26 u1_27 u1_28 u1_29 u1_30 u1_31 u1_32 u1_33 u1_34 u1_35 u1_36 u1_37 u1_38 u1_39 u1_40 u1_41 u1_42 u1_43
 revert u1_3 u1_4 u1_11 u1_12 u1_13 hT8 u1_14 u1_15 u1_16 u1_17 u1_18 u1_19 hT9 u1_21 u1_23 u1_31 u1_32 u1_33 u1_34 hI0 u1_35 u1_36 u1_38 X0 u1_40 B0 hl0 hC0 u1_41 u1_42 u1_43
 revert ww u1_0 s1 u1_1 u1_2 u1_5 u1_6 u1_7 u1_8 u1_9 u1_10 u1_20 u1_26 u1_27 u1_28 u1_29 u1_30 u1_39 G LL
 refine no_implicit_lambda% (clZ cZ.N.H.H.h.L.N.h.h.f.V.V.V.V.O.N.M.M.s.s.W ?_)
 refine fZ8 ?_
 intro zc1_0 ww u1_0 s1 u1_1 u1_2 u1_5 u1_6 u1_7
 clear_value ww u1_0 s1 u1_1 u1_2 u1_5 u1_6 u1_7
 refine fZ8 ?_
 intro zc1_1 u1_8 u1_9 u1_10 u1_20 u1_26 u1_27 u1_28 u1_29
 clear_value u1_8 u1_9 u1_10 u1_20 u1_26 u1_27 u1_28 u1_29
 refine gZ4 ?_
 intro zc1 u1_30 u1_39 G LL
 clear_value u1_30 u1_39 G LL
 intros u1_3 u1_4 u1_11 u1_12 u1_13 hT8 u1_14 u1_15 u1_16 u1_17 u1_18 u1_19 hT9 u1_21 u1_23 u1_31 u1_32 u1_33 u1_34 hI0 u1_35 u1_36 u1_38 X0 u1_40 B0 hl0 hC0 u1_41 u1_42 u1_43
 k_steps
 rename Fr G _ _ _ => FZ
 rename News G _ _ _ => NZ
 rename IsRange _ _ _ _ _ _ _ _ => hR
 obtain ⟨n, hn, hn2⟩ := turns_n (List.length _)
 rw [hn] at hR
 have NY := news_bring [_] NZ
 refine ⟨_, n, _, _, _, _, _, fun _ m news => jOf FZ D7 m news, rfl, hh, FZ, NY, by omega, hR, ?j0, ?step, ?done⟩
 case j0 => exact ⟨#[], _, _, _, _, _, _, _, rfl, List.forall_mem_cons.mpr ⟨Nat.ne_of_gt (l7 _ (.head _)), List.forall_mem_nil _⟩, .head _, fun _ _ _ _ => .inl rfl, by k_dflt (exact rfl), by k_dflt (exact rfl), hl0, hI0, by have := hI0.length; omega⟩
 case step =>
  unfold jOf
  clear NZ NY FZ hR
  intro i tkn m₁ news₁ h tk1 I oI hi hJ F3 N3 ne3 noC
  obtain ⟨ps, l, sc, xs, ns, t1, t2, t3, rfl, hl85, hD7, hLam, e1, e2, hls, hIs, hx63⟩ := hJ
  rw [known_map e1, known_map e2] at F3
  dsimp only at F3
  have nI8 : 850 ≠ I := ne3 (850, _) (.head _)
  have hi2 : i < 2 := Nat.lt_of_lt_of_le hi hn2
  obtain ⟨ar, ear⟩ : ∃ a, a = D7 := ⟨_, rfl⟩
  subst ear
  rename_i u2_0 u2_1 u2_2 u2_3 u2_4
  revert hn hn2 hi noC hl85 hLam e1 hls hIs hx63 N3 ne3 nI8 hi2 l7 F' N' u2_3 u2_4 F9 N9 F3 hD7 e2
  revert tk n i tkn m₁ h tk1 I oI ps l sc xs ns t1 t2 t3 ar
  refine no_implicit_lambda% (clZ cZ.N.N.N.N.f.L.N.l.y.O.N.N.H.M.N.N.N.N ?_)
  refine fZ8 ?_
  intro zc2_0 tk n i tkn m₁ h tk1 I
  clear_value tk n i tkn m₁ h tk1 I
  refine fZ8 ?_
  intro zc2_1 oI ps l sc xs ns t1 t2
  clear_value oI ps l sc xs ns t1 t2
  refine gZ2 ?_
  intro zc2 t3 ar
  clear_value t3 ar
  intros hn hn2 hi noC hl85 hLam e1 hls hIs hx63 N3 ne3 nI8 hi2 l7 F' N' u2_3 u2_4 F9 N9 F3 hD7 e2
  k_with "call ref cons" =>
   (
    (with_reducible show wpAny _ _ (PySem.call (Value.ref 804) _) _ _ _)
    refine' pool_w (by k_extra "a0") (isList_fr hls ‹_›) hIs (by k_extra "le") hi2 ?_
    refine clZ cZ.N.H.N.N.N.I.I.N ?_; refine gZ8 ?_; intro zc src x9 y9 t19 t29 n9 h9 k9; clear_value src x9 y9 t19 t29 n9 h9 k9; clear zc; intro st9 F9 f9
    have q9 : Far _ _ := freshApart ‹_› f9
    have nsL : ∀ p ∈ l, p.1 ≠ src := fun p hp => q9 p (.tail _ (.tail _ hp))
    have nsI : I ≠ src := q9 (I, oI) (by k_mem)
    have N9 := news_fresh ‹_› (News.grown ‹_› st9) f9
    clear q9)
  k_with "call ref cons" =>
   (
    (with_reducible show wpAny _ _ (PySem.call (Value.ref 836) _) _ _ _)
    k_extra "l1"
    refine' law_world (l1 := l) (by k_extra "a0") NZ (by k_dflt (exact rfl)) (by k_mem) (by k_mem) (fun p hp => .tail _ (.tail _ (.tail _ hp))) hLam nsL ?_
    refine clZ cZ.l.N.H.N.N.N.I.I.Kd.Rs.N.N.N.N ?_; refine fZ8 ?_; intro zc_0 T9 wo9 rl9 kt9 rows9 kd9 a9 b9; clear_value T9 wo9 rl9 kt9 rows9 kd9 a9 b9; refine gZ6 ?_; intro zc t19 t29 n9 h9 k9 l0; clear_value t19 t29 n9 h9 k9 l0; intro LR9 F9 N9 off0 ng9 mT9 WE9 lE0
    have mD9 := ng9 _ (.tail _ (.tail _ (.tail _ hD7))) (hl85 _ hD7) (nsL _ hD7)
    have mI9 := ng9 (I, oI) (.tail _ (.head _)) (ne3 _ (.head _)).symm nsI
    have iT9 := News.isTup N9 (.tail _ (.tail _ mT9))
    clear ng9)
  k_steps
  k_extra "l1"
  rename Fr G _ _ _ => FZ
  rename IsRange _ _ _ _ _ _ _ _ => hR
  have NY := news_sub (l := (850, tabObj ps) :: (src, PySem.W.listOf #[.int a9 t19, .int b9 t29] n9) :: l0) NZ (by intro p hp; repeat (first | exact hp | refine List.Mem.tail _ ?_))
  refine ⟨_, 3, _, _, _, _, _, fun _ m news => LwJ1 G LL src wo9 rl9 ar sc l0 m news, rfl, hh, FZ, NY, by decide, hR, ?k0, ?stepK, ?doneK⟩
  case k0 => exact ⟨ps, a9, b9, t19, t29, n9, l0, rfl, off0, fun _ h => h, lE0, by k_dflt (exact rfl), by k_dflt (exact rfl), by k_dflt (exact rfl), by k_dflt (exact rfl), by k_dflt (exact rfl)⟩
  case stepK =>
   clear NZ NY FZ hR
   intro j tkn2 m2 news2 h2 tk2 I2 oI2 hj hJ2 F3 N3 ne4 noC2
   obtain ⟨ps2, a9, b9, t19, t29, n9, l, rfl, off, s0, lE, e1, e2, e3, e4, e5⟩ := hJ2
   rw [known_map e1, known_map e2, known_map e3, known_map e4, known_map e5] at F3
   have nJ8 : 850 ≠ I2 := ne4 (850, _) (.head _)
   have nIs : src ≠ I2 := ne4 (src, _) (.tail _ (.head _))
   dsimp only at F3
   rename_i u3_0 u3_1 u3_2 u3_3 u3_4 u3_5 u3_6 u3_7 u3_8 u3_9 u3_10 u3_11 u3_12 u3_13 u3_14 u3_15 u3_16 u3_17 u3_18 u3_19 u3_20 u3_21 u3_22 u3_23 u3_24 u3_25 u3_26
   revert u3_26 hj F3 noC2 off s0 lE e1 e2 e3 e4 e5 N3 ne4 nJ8 nIs
   revert tk j tkn2 m2 h2 tk2 I2 oI2 ps2 a9 b9 t19 t29 n9 l
   refine no_implicit_lambda% (clZ cZ.l.N.N.N.I.I.y.O.N.N.H.M.N.N.N ?_)
   refine fZ8 ?_
   intro zc3_0 tk j tkn2 m2 h2 tk2 I2 oI2
   clear_value tk j tkn2 m2 h2 tk2 I2 oI2
   refine gZ7 ?_
   intro zc3 ps2 a9 b9 t19 t29 n9 l
   clear_value ps2 a9 b9 t19 t29 n9 l
   intros u3_26 hj F3 noC2 off s0 lE e1 e2 e3 e4 e5 N3 ne4 nJ8 nIs
   k_with "call ref cons" =>
    (
     (with_reducible show wpAny _ _ (PySem.call (Value.ref 862) _) _ _ _)
     k_extra "l1"
     refine' law_type (by k_extra "a0") NZ (by k_mem) (by k_mem) ?_
     refine clZ cZ.l.N.H.N.N.N.I.I.T.N ?_; refine fZ8 ?_; intro zc_0 v9 ty9 a9 b9 t19 t29 n9 h9; clear_value v9 ty9 a9 b9 t19 t29 n9 h9; refine gZ2 ?_; intro zc k9 l2; clear_value k9 l2; intro ly9 F9 N9 off2 ng9 tE9
     have mI2 := ng9 (I2, oI2) (.head _) (ne4 _ (.head _)).symm (ne4 _ (.tail _ (.head _))).symm
     have s02 : ∀ p ∈ l0, p ∈ l2 := fun p hp => ng9 p (.tail _ (.tail _ (.tail _ (s0 p hp)))) (off.1 p (s0 p hp)) (off.2 p (s0 p hp))
     have lE2 := Ev.up (l' := l2) (fun p hp => ng9 p (.tail _ (.tail _ (.tail _ hp))) (off.1 p hp) (off.2 p hp)) lE
     have WE2 := Ev.up s02 WE9
     obtain ⟨r82, rs2⟩ := off2
     clear ng9)
   k_with "f1" =>
    (intro p hp; repeat (first | exact hp | refine List.Mem.tail _ ?_))
   k_with "call ref cons" =>
    (
     (with_reducible show wpAny _ _ (PySem.call (Value.ref 855) _) _ _ _)
     k_extra "l1"
     rename Fr G _ _ _ => FZ
     have ls9 := Ev.here lE2 FZ (news_sub NZ (by k_extra "f1"))
     refine' law_told (a := .u8) (l1 := l2) (kd := kd9) (rows := rows9) (src := src) (rl := rl9) ?tcx (.inl rfl) ly9 LR9 NZ ?tU hC0 ?ts r82 ls9 WE2 ?te tE9 (.tail _ (.tail _ (.tail _ (s02 _ mD9)))) (u8_at (X0.keeps FZ.keep)) ?_
     case tcx => k_extra "a0"
     case tU => k_extra "b2"
     case ts => k_extra "f1"
     case te => k_mem
     refine clZ cZ.N.H.y.V ?_; refine gZ4 ?_; intro zc v8 ps9 h9 k9; clear_value v8 ps9 h9 k9; clear zc; intro F9 N9 ls9 kt9 td9)
   k_with "call ref cons" =>
    (
     (with_reducible show wpAny _ _ (PySem.call (Value.ref 848) _) _ _ _)
     k_extra "l1"
     refine' law_due (l1 := l2) (wo := wo9) (src := src) (by k_extra "a0") ly9 LR9 NZ (by k_extra "f1") ls9 WE2 (by k_mem) tE9 ?_
     refine clZ cZ.N.H.V ?_; refine gZ3 ?_; intro zc u9 h9 k9; clear_value u9 h9 k9; clear zc; intro F9 N9 ls9 st9 du9
     have td9 := ToldIs.keeps (fun _ _ it => it.keeps st9) td9)
   k_with "compareOp NotEq" =>
    (
     k_extra "l1"
     rename Fr G _ _ _ => FZ
     refine law_ne LR9 (X0.keeps FZ.keep) td9 du9 ly9 (News.isTup NZ (.tail _ (.tail _ (.tail _ (s02 _ mD9))))) (by k_extra "g3") ?_)
   k_steps
   k_extra "l1"
   rename Fr G _ _ _ => FZ
   obtain ⟨l', NE, offE, sE, lamE⟩ := law_end (mu' := [(src, PySem.W.listOf #[.int a9 t19, .int b9 t29] n9)]) (l₀ := l0) FZ NZ (.tail _ (.tail _ (.tail _ mI2))) (by k_mem) (fun p hp => by rw [List.mem_singleton.mp hp]; exact ⟨by k_mem, fun vs q t e => by simp [PySem.W.listOf] at e⟩) (fun p hp => .tail _ (.tail _ (.tail _ (s02 p hp))))
    (fun p hp => ⟨off0.1 p hp, ne4 p (.tail _ (.tail _ (s0 p hp))), fun hm => off0.2 p hp (List.mem_singleton.mp hm)⟩) ls9 noC2
   refine LPost.intro FZ NE (List.forall_mem_cons.mpr ⟨nJ8, List.forall_mem_cons.mpr ⟨nIs, fun p hp => (offE p hp).2.1⟩⟩) ?_
   exact ⟨_, _, _, _, _, _, l', rfl, ⟨fun p hp => (offE p hp).1, fun p hp e => (offE p hp).2.2 (List.mem_singleton.mpr e)⟩, sE, lamE, by k_dflt (exact rfl), by k_dflt (exact rfl), by k_dflt (exact rfl), by k_dflt (exact rfl), by k_dflt (exact rfl)⟩
  case doneK =>
   clear NZ NY FZ hR
   intro m2 news2 h2 tk2 hJ2 F3 N3
   obtain ⟨ps2, a9, b9, t19, t29, n9, l2, rfl, ⟨r82, rs2⟩, s02, lE2, e1, e2, e3, e4, e5⟩ := hJ2
   rw [known_map e1, known_map e2, known_map e3, known_map e4, known_map e5] at F3
   dsimp only at F3
   have WE2 := Ev.up s02 WE9
   have lyS : LawTy 2 .S := ⟨rfl, by decide, by decide⟩
   rename_i u4_0 u4_1 u4_2 u4_3 u4_4 u4_5 u4_6 u4_7 u4_8 u4_9 u4_10 u4_11 u4_12 u4_13 u4_14 u4_15 u4_16 u4_17 u4_18 u4_19 u4_20 u4_21 u4_22 u4_23 u4_24 u4_25
   revert u4_25 F3 s02 lE2 e1 e2 e3 e4 e5 N3 r82 rs2 WE2
   revert tk m2 h2 tk2 ps2 a9 b9 t19 t29 n9 l2
   refine no_implicit_lambda% (clZ cZ.l.N.N.N.I.I.y.N.H.M.N ?_)
   refine fZ8 ?_
   intro zc4_0 tk m2 h2 tk2 ps2 a9 b9 t19
   clear_value tk m2 h2 tk2 ps2 a9 b9 t19
   refine gZ3 ?_
   intro zc4 t29 n9 l2
   clear_value t29 n9 l2
   intros u4_25 F3 s02 lE2 e1 e2 e3 e4 e5 N3 r82 rs2 WE2
   k_with "call ref cons" =>
    (
     (with_reducible show wpAny _ _ (PySem.call (Value.ref 848) _) _ _ _)
     k_extra "l1"
     refine' law_dueE (l1 := l2) (wo := wo9) (src := src) ?tcx lyS LR9 NZ ?t8 ?tq ?ts (fun p hp => ⟨r82 p hp, rs2 p hp⟩) lE2 WE2 ?te (tyE_base (S_at X0)) ?_
     case tcx => k_extra "a0"
     case t8 => k_mem
     case tq => k_mem
     case ts => k_extra "f1"
     case te => k_mem
     refine clZ cZ.l.N.H.V ?_; refine gZ4 ?_; intro zc u9 h9 k9 l3; clear_value u9 h9 k9 l3; clear zc; intro F9 N9 off3 ng9 s23 lE3 duE
     have mo9 := ng9 _ (.tail _ (.head _)) (by k_extra "f0") (by k_extra "f0")
     have mb9 := ng9 _ (.tail _ (.tail _ (.head _))) (by k_extra "f0") (by k_extra "f0")
     obtain ⟨r83, rs3⟩ := off3
     have WE3 := Ev.up s23 WE2
     clear ng9)
   k_with "call ref cons" =>
    (
     (with_reducible show wpAny _ _ (PySem.call (Value.ref 855) _) _ _ _)
     k_extra "l1"
     rename Fr G _ _ _ => FZ
     have ls9 := Ev.here lE3 FZ (news_sub NZ (by k_extra "f1"))
     refine' law_told (a := .bool) (l1 := l3) (kd := kd9) (rows := rows9) (src := src) (rl := rl9) ?tcx (.inr rfl) lyS LR9 NZ ?tU hC0 ?ts r83 ls9 WE3 ?te (tyE_base (S_at X0)) (.tail _ (.tail _ (.tail _ mo9))) (.bool (ok := fun _ => True) (News.isTup NZ (.tail _ (.tail _ (.tail _ mb9)))) trivial) ?_
     case tcx => k_extra "a0"
     case tU => k_extra "b2"
     case ts => k_extra "f1"
     case te => k_mem
     refine clZ cZ.N.H.y.V ?_; refine gZ4 ?_; intro zc v8 ps9 h9 k9; clear_value v8 ps9 h9 k9; clear zc; intro F9 N9 ls9 kt9 td9
     have du9 := Ev.here duE F9 (news_sub N9 (by k_extra "f1")))
   k_with "compareOp Eq str" =>
    (
     refine' eq_trait du9 ?tu ?t1 ?t0
     case tu => (k_extra "g0")
     case' t1 => intro tt9 eu9 tw9
     case' t0 => intro tw9)
   k_with "compareOp NotEq" =>
    (refine ne_odd td9 (.inl ⟨_, eu9, tw9⟩) ?_)
   k_with "compareOp NotEq str" =>
    (refine ne_odd td9 (.inr ⟨_, rfl, tw9⟩) ?_)
   k_steps
   all_goals
    k_extra "l1"
    rename Fr G _ _ _ => FZ
    obtain ⟨l', NE, offE, sE, lamE⟩ := law_end (mu' := []) (l₀ := [(ar, ({ cls := .type "tuple", data := .seq #[st "const" t1, .ref 819, .int 8 t2, .int 3 t3] } : Obj))]) FZ NZ (.tail _ (.tail _ (.tail _ (s23 _ (s02 _ mI9))))) (by k_mem) (fun p hp => nomatch hp) (fun p hp => by rw [List.mem_singleton.mp hp]; exact .tail _ (.tail _ (.tail _ (s23 _ (s02 _ mD9)))))
     (fun p hp => by rw [List.mem_singleton.mp hp]; exact ⟨hl85 _ hD7, ne3 _ (.tail _ hD7), fun e => nomatch e⟩) ls9 noC
    refine LPost.intro FZ NE (List.forall_mem_cons.mpr ⟨nI8, fun p hp => (offE p hp).2.1⟩) ?_
    exact ⟨_, l', sc, xs, ns, t1, t2, t3, rfl, fun p hp => (offE p hp).1, sE _ (.head _), lamE, by k_dflt (exact rfl), by k_dflt (exact rfl), hls, hIs, hx63⟩
 case done =>
  unfold jOf
  clear NZ NY FZ hR
  intro m₁ news₁ h tk1 hJ F3 N3
  obtain ⟨ps, l, sc, xs, ns, t1, t2, t3, rfl, hl85, hD7, hLam, e1, e2, hls, hIs, hx63⟩ := hJ
  rw [known_map e1, known_map e2] at F3
  dsimp only at F3
  obtain ⟨ar, ear⟩ : ∃ a, a = D7 := ⟨_, rfl⟩
  subst ear
  rename_i u5_0 u5_1 u5_2 u5_3 u5_4
  revert hn hn2 hl85 hLam e1 hls hIs hx63 N3 l7 F' N' u5_3 u5_4 F9 N9 F3 hD7 e2
  revert tk n m₁ h tk1 ps l sc xs ns t1 t2 t3 ar
  refine no_implicit_lambda% (clZ cZ.N.N.N.N.f.L.N.l.y.N.H.M.N.N ?_)
  refine fZ8 ?_
  intro zc5_0 tk n m₁ h tk1 ps l sc
  clear_value tk n m₁ h tk1 ps l sc
  refine gZ6 ?_
  intro zc5 xs ns t1 t2 t3 ar
  clear_value xs ns t1 t2 t3 ar
  intros hn hn2 hl85 hLam e1 hls hIs hx63 N3 l7 F' N' u5_3 u5_4 F9 N9 F3 hD7 e2
  k_with "call ref nil" =>
   (
    (with_reducible show wpAny _ _ (PySem.call (Value.ref 793) _) _ _ _)
    refine' world_new_w (by k_extra "a0") ?_
    k_extra "j1"
    obtain ⟨dr9, esr9, nr9, xr9, yr9, hfr9⟩ := i9
    k_extra "z0"
    have e1 : Apart wo9 dr9 := freshNe xr9 yr9 (by simp [instObj, dictOf])
    have e2 : Apart ds9 li9 := freshNe f19 f39 (dict_ne_list d19)
    have e3 : Apart dt9 li9 := freshNe f29 f39 (dict_ne_list d29)
    have e4 : Apart ds9 wo9 := freshNe f19 xr9 (dict_ne_inst d19)
    have e5 : Apart dt9 wo9 := freshNe f29 xr9 (dict_ne_inst d29)
    have e6 : Apart ds9 dr9 := freshNe f19 yr9 (dict0_ne d19 hfr9)
    have e7 : Apart dt9 dr9 := freshNe f29 yr9 (dict0_ne d29 hfr9)
    have e8 : Apart li9 wo9 := freshNe f39 xr9 (by simp [instObj, PySem.W.listOf])
    have e9 : Apart li9 dr9 := freshNe f39 yr9 (by simp [dictOf, PySem.W.listOf])
    have e0 : Apart dt9 ds9 := ne19
    have q1 : Far _ _ := freshApart ‹_› xr9
    have q2 : Far _ _ := freshApart ‹_› yr9
    have q1 : Far _ _ := freshApart ‹_› f19
    have q2 : Far _ _ := freshApart ‹_› f29
    have q1 : Far _ _ := freshApart ‹_› f39
    have q2 : Far _ _ := freshApart ‹_› f39
    have WoE : InstE G LL [(wo9, instObj 793 dr9), (dr9, dictOf esr9 nr9)] wo9 793 (wdF a19 a29 ds9 dt9 li9 a39 a49) := fun h m F N => News.inst N (.head _) (.tail _ (.head _)) hfr9
    have N9 := news_fresh ‹_› (news_fresh ‹_› (news_fresh ‹_› (news_fresh ‹_› (news_fresh ‹_› (News.grown ‹_› st9) f39) f29) f19) yr9) xr9)
  k_with "call ref cons" =>
   (
    (with_reducible show wpAny _ _ (PySem.call (Value.ref 721) _) _ _ _)
    refine' sig_new_w (by k_extra "a0") ?_
    refine clZ cZ.N.H.N ?_; refine gZ3 ?_; intro zc sg9 h9 k9; clear_value sg9 h9 k9; clear zc; intro st9 F9 i9
    obtain ⟨dg9, esg9, ng9, xg9, yg9, hfg9⟩ := i9
    k_extra "u1"
    have g1 : Apart sg9 dg9 := freshNe xg9 yg9 (by simp [instObj, dictOf])
    have q1 : Far _ _ := freshApart ‹_› xg9
    have q2 : Far _ _ := freshApart ‹_› yg9
    have N9 := news_fresh ‹_› (news_fresh ‹_› (News.grown ‹_› st9) yg9) xg9)
  k_with "call ref cons" =>
   (
    (with_reducible show wpAny _ _ (PySem.call (Value.ref 764) _) _ _ _)
    refine' irow_new_w (by k_extra "a0") ?_
    refine clZ cZ.N.H.N.N ?_; refine gZ4 ?_; intro zc im9 ti9 h9 k9; clear_value im9 ti9 h9 k9; clear zc; intro st9 F9 i9
    obtain ⟨dq9, esq9, nq9, xq9, yq9, hfq9⟩ := i9
    k_extra "i1"
    have g1 : Apart im9 dq9 := freshNe xq9 yq9 (by simp [instObj, dictOf])
    have q1 : Far _ _ := freshApart ‹_› xq9
    have q2 : Far _ _ := freshApart ‹_› yq9
    have N9 := news_fresh ‹_› (news_fresh ‹_› (News.grown ‹_› st9) yq9) xq9)
  k_with "callWith ref" =>
   (k_here; k_dflt (refine' callWith_K ?k1 ?k2 ?_; (case k1 => k_asm); (case k2 => k_is); k_whole))
  k_with "setAttr ref ref" =>
   ((with_reducible show wpAny _ _ (setAttr _ (PySem.Str.ofString "impls") _) _ _ _); k_dflt (refine' set_old (nm := "impls") ?F ?X ?N ?hx ?U hfr9 ?hz ?hs ?hp ?ht ?hh ?_; (case F => assumption); (case X => assumption); (case N => assumption); (case hx => k_mem); (case U => k_extra "b2"); (case hz => exact Nat.le_of_ble_eq_true rfl); (case hs => k_is); (case hp => k_is); (case ht => k_is); (case hh => k_is); k_whole); refine clZ cZ.N.d.H ?_; refine gZ3 ?_; intro zc h9 es8 n8; clear_value h9 es8 n8; clear zc; intro F9 N9 hf8)
  k_with "call ref cons" =>
   (
    (with_reducible show wpAny _ _ (PySem.call (Value.ref 855) _) _ _ _)
    k_extra "l1"
    rename Fr G _ _ _ => FZ
    rename Obj.IsDictOf _ _ _ => dgo
    have ls9 := hLam _ _ FZ (news_sub NZ (by k_extra "f1"))
    have X9 := X0.keeps FZ.keep
    have I9 : Inst _ wo9 793 (wdF a19 a29 ds9 dt9 _ a39 a49) := News.inst NZ (by k_mem) (by k_mem) hf8
    have hl9 := News.isList NZ (by k_mem : (_, PySem.W.listOf #[.ref im9] _) ∈ _)
    have im0 : ImplAt _ _ (.ref im9) 0 handRow := implAt_mk (t2 := 0) (News.inst NZ (by k_mem : (im9, instObj 764 dq9) ∈ _) (by k_mem) hfq9) rfl (News.isList NZ (by k_mem)) (News.isTup NZ (by k_mem)) (S_at X9) (dict_at NZ dgo (by k_mem) ‹_›) (.inr (.inl rfl))
    have sg0 : SigAt ww _ (.ref sg9) handRow := ⟨_, _, _, _, _, _, _, _, _, _, rfl, News.inst NZ (by k_mem : (sg9, instObj 721 dg9) ∈ _) (by k_mem) hfg9, News.isList NZ (by k_mem), News.isTup NZ (by k_mem), .ref (News.isTup NZ (by k_mem)) trivial (S_at X9), u8_at X9, .bool (News.isTup NZ (by k_mem)) trivial⟩
    have D1 : DictAt _ _ ds9 [(PySem.Str.ofString "impl#0::go", .ref sg9)] := dict_at NZ d8 (by k_mem) z19
    have D2 : DictAt _ _ dt9 [] := dict_at NZ d29 (by k_mem) z29
    refine' law_hand ?tcx NZ ?tU hC0 ls9 I9 hl9 D1 D2 im0 sg0 ?te (.ref (ok := fun _ => True) (News.isTup NZ ?tt) trivial (S_at X9)) ?tm ?_
    case tcx => k_extra "a0"
    case tU => k_extra "b2"
    case te => exact News.isTup NZ (by k_mem)
    case tt => k_mem
    case tm => exact News.isTup NZ (by repeat (first | exact hD7 | refine List.Mem.tail _ ?_))
    refine clZ cZ.N.H.y.V.N.N.V.N.N.N ?_; refine fZ8 ?_; intro zc_0 r9 tu9 fa9 vo9 t19 t29 rv9 ps9; clear_value r9 tu9 fa9 vo9 t19 t29 rv9 ps9; refine gZ2 ?_; intro zc h9 k9; clear_value h9 k9; intro F9 N9 ir9 it9 ex9
    obtain ⟨rv9, rfl⟩ := ex9.isRef
    revert rv9 it9 ex9; refine clZ cZ.N ?_; refine gZ1 ?_; intro zc rv9; clear_value rv9; clear zc; intro it9 ex9
    have eR : TupE G LL (restH G LL [] h9) r9 [st "call" t19, vo9, .int 5 t29, .ref fa9, .ref tu9] := ev_tup0 F9 ir9
    have eT : TupE G LL (restH G LL [] h9) tu9 [.ref rv9, .ref ar] := ev_tup0 F9 it9
    have exE := exE_of0 F9 ex9
    have N9 := news_app N9 (rest_newsF F9)
    simp only [List.cons_append, List.nil_append] at N9
    clear ir9 it9 ex9)
  k_with "eval Subscript Subscript Constant" =>
   (with_reducible refine' pe_use (by k_extra "pe") ?_)
  k_with "b0" =>
   (refine news_sub ‹_› ?_; intro p hp; repeat (first | exact hp | exact List.mem_append_left _ hp | exact List.mem_append_right _ hp | refine List.Mem.tail _ ?_))
  k_with "compareOp Eq ref ref" =>
   (
    k_extra "l1"
    rename Fr G _ _ _ => FZ
    refine' hand_eq (exE _ _ FZ (by k_extra "b0")) (.borrow (ok := fun _ => True) (wd := .auto) (News.isTup NZ ?q1) trivial (.ref (News.isTup NZ ?q2) trivial (S_at (X0.keeps FZ.keep))) (.deref (News.isTup NZ ?q3) trivial (S_at (X0.keeps FZ.keep)) (.loc (News.isTup NZ ?q4) trivial (.ref (News.isTup NZ ?q5) trivial (S_at (X0.keeps FZ.keep)))))) ?q6 ?_
    case q1 => k_mem
    case q2 => k_mem
    case q3 => k_mem
    case q4 => k_mem
    case q5 => k_mem
    case q6 => (k_extra "g0"))
  k_with "And" =>
   (refine ⟨goodW_bool ‹_› ‹_› (fun _ => rfl) rfl, ?_⟩)
  k_steps)) ?y := by k_extra "cv"
 k_extra "zz"
end
end Mine
theorem PySem.Challenge.cw_ot0047_01_holds : PySem.Challenge.rw_ot0047_01.Holds :=
 Mine.top Mine.mainW
