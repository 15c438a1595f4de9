import PyProof.Rows.All
import Wide.All
import OpenK.AllK
import Wide.FinOn
import PySem.Challenge.RW_pq0978_01
set_option tactic.hygienic false
set_option Elab.async false
set_option maxRecDepth 100000
set_option linter.all false
set_option genSizeOf false
set_option maxHeartbeats 4000000
namespace Mine.top
theorem tw5766051744304087583:1=1:=rfl
theorem tw9601329371697537090:1=1:=rfl
theorem tw17545328352263074274:1=1:=rfl
theorem tw13420762306968818387:1=1:=rfl
theorem tw17828378304095215089:1=1:=rfl
theorem tw196536941598035525:1=1:=rfl
theorem tw5507162329139097715:1=1:=rfl
theorem tw13261893007816960818:1=1:=rfl
theorem tw17565814175750979855:1=1:=rfl
theorem tw8281120267493503204:1=1:=rfl
theorem tw6812286434817487243:1=1:=rfl
theorem tw8694864300669457046:1=1:=rfl
theorem tw1732150942055357024:1=1:=rfl
theorem tw17582957951858275007:1=1:=rfl
theorem tw10399464001100048223:1=1:=rfl
theorem tw9305691244287143441:1=1:=rfl
theorem tw13864677062968915208:1=1:=rfl
theorem tw864819663365544661:1=1:=rfl
theorem tw13968125046926948103:1=1:=rfl
theorem tw11457754044182789617:1=1:=rfl
theorem tw11459358961799972967:1=1:=rfl
theorem tw16800595933775061595:1=1:=rfl
theorem tw6487610083215253720:1=1:=rfl
theorem tw6383614241601562808:1=1:=rfl
theorem tw15299407806266782574:1=1:=rfl
theorem tw1400011881503588481:1=1:=rfl
theorem tw7033079012710635876:1=1:=rfl
theorem tw3378803678994701225:1=1:=rfl
theorem tw9589608677651300831:1=1:=rfl
theorem tw18086089286151905521:1=1:=rfl
theorem tw13802547742096326172:1=1:=rfl
theorem tw11845233108574324481:1=1:=rfl
theorem tw16821654228018055803:1=1:=rfl
theorem tw4166218997396506358:1=1:=rfl
theorem tw1297684725254868899:1=1:=rfl
theorem tw6491118196486620199:1=1:=rfl
theorem tw4916261283513009128:1=1:=rfl
theorem tw1124271682379634556:1=1:=rfl
theorem tw12787338502077490372:1=1:=rfl
theorem tw1139600151236580504:1=1:=rfl
theorem tw16439428074185983240:1=1:=rfl
theorem tw5597187220613765494:1=1:=rfl
theorem tw9962302188120564619:1=1:=rfl
theorem tw602653604445443664:1=1:=rfl
theorem tw3739144386018749749:1=1:=rfl
theorem tw3874152929960365753:1=1:=rfl
theorem tw10194810499950245846:1=1:=rfl
theorem tw3767615275625035234:1=1:=rfl
theorem tw93012567124736588:1=1:=rfl
theorem tw8657480035899644758:1=1:=rfl
theorem tw8560541052185303311:1=1:=rfl
theorem tw11542710104232473196:1=1:=rfl
theorem tw15740088241188596515:1=1:=rfl
theorem tw6189502492464219833:1=1:=rfl
theorem tw17428532607074087071:1=1:=rfl
theorem tw12569886022477882589:1=1:=rfl
theorem tw3855276242980373810:1=1:=rfl
theorem tw7527032243904285869:1=1:=rfl
theorem tw14697636140705633519:1=1:=rfl
theorem tw11072019736110318841:1=1:=rfl
theorem tw13160728816969591200:1=1:=rfl
theorem tw10657950659306570408:1=1:=rfl
theorem tw4571971715460732019:1=1:=rfl
theorem tw11203750815551599093:1=1:=rfl
theorem tw6196800358849779857:1=1:=rfl
theorem tw8327351992414209593:1=1:=rfl
theorem tw14632489290957082403:1=1:=rfl
theorem tw14608685727046917156:1=1:=rfl
theorem tw16885616592811714743:1=1:=rfl
theorem tw342308947776675178:1=1:=rfl
theorem tw15646934709686841381:1=1:=rfl
theorem tw5155950481276406077:1=1:=rfl
theorem tw5088376156974544275:1=1:=rfl
theorem tw13500427573557490136:1=1:=rfl
theorem tw4555866861457887817:1=1:=rfl
theorem tw17795014544551873601:1=1:=rfl
theorem tw2665807947273092163:1=1:=rfl
theorem tw14657780768301432306:1=1:=rfl
theorem tw16866024460163772082:1=1:=rfl
theorem tw1584292188352093569:1=1:=rfl
theorem tw1321871150748368714:1=1:=rfl
theorem tw6176384092110617959:1=1:=rfl
theorem tw887695700811335699:1=1:=rfl
theorem tw8679839319945467846:1=1:=rfl
theorem tw18371284783138465269:1=1:=rfl
theorem tw7673058066778466091:1=1:=rfl
theorem tw9851269098105209369:1=1:=rfl
theorem tw13994475860397038760:1=1:=rfl
theorem tw10017263926548143515:1=1:=rfl
theorem tw9800703332001039478:1=1:=rfl
theorem tw16155163154822807229:1=1:=rfl
theorem tw16453443671601555132:1=1:=rfl
theorem tw17085176360113175178:1=1:=rfl
theorem tw1108800333578037850:1=1:=rfl
theorem tw16264823338695392855:1=1:=rfl
theorem tw5667650583090716360:1=1:=rfl
theorem tw12012865196380796599:1=1:=rfl
theorem tw8443935842833279946:1=1:=rfl
theorem tw13983857475226248213:1=1:=rfl
theorem tw2617719716777270872:1=1:=rfl
theorem tw5058314954733539658:1=1:=rfl
theorem tw352232786441526191:1=1:=rfl
theorem tw16273406610938067001:1=1:=rfl
theorem tw7008692893051332821:1=1:=rfl
theorem tw427269002284569659:1=1:=rfl
theorem tw11334203419191126389:1=1:=rfl
theorem tw2287823674025257028:1=1:=rfl
theorem tw14372152842798730730:1=1:=rfl
theorem tw13370750898655102155:1=1:=rfl
theorem tw7059692629156357883:1=1:=rfl
theorem tw8321918168302905379:1=1:=rfl
theorem tw11443710868159068359:1=1:=rfl
theorem tw2596539476470345881:1=1:=rfl
theorem tw14317375437502057738:1=1:=rfl
theorem tw10006222313960134694:1=1:=rfl
theorem tw3730354652608582461:1=1:=rfl
theorem tw1522322319653140107:1=1:=rfl
theorem tw7847650389618582240:1=1:=rfl
theorem tw17323899518341599180:1=1:=rfl
theorem tw3561193834555079511:1=1:=rfl
theorem tw8265191368974092141:1=1:=rfl
theorem tw705360758644809490:1=1:=rfl
theorem tw18085771088847121727:1=1:=rfl
theorem tw8237333600419904120:1=1:=rfl
theorem tw14502225709538309166:1=1:=rfl
theorem tw2926424126403749041:1=1:=rfl
theorem tw4047667213573674445:1=1:=rfl
theorem tw10996937224433265937:1=1:=rfl
theorem tw1676862907878916244:1=1:=rfl
theorem tw2464713573024523455:1=1:=rfl
theorem tw13290321428070320777:1=1:=rfl
theorem tw3664424711883983056:1=1:=rfl
theorem tw8538268897159353584:1=1:=rfl
theorem tw9951221954081769418:1=1:=rfl
theorem tw12819366960792805191:1=1:=rfl
theorem tw2462062305354472974:1=1:=rfl
theorem tw297971269722091814:1=1:=rfl
theorem tw4655869559712951663:1=1:=rfl
theorem tw8637452081102412489:1=1:=rfl
theorem tw5523086135645875356:1=1:=rfl
theorem tw7429413206186439793:1=1:=rfl
theorem tw8729362747519067210:1=1:=rfl
theorem tw4321519831107876412:1=1:=rfl
theorem tw10562855833978642645:1=1:=rfl
theorem tw2924597203103170677:1=1:=rfl
theorem tw4159251561096739476:1=1:=rfl
theorem tw13899568491130100285:1=1:=rfl
theorem tw5225153198818245361:1=1:=rfl
theorem tw9272544492142499777:1=1:=rfl
theorem tw9233335307524088747:1=1:=rfl
theorem tw6505410396798821541:1=1:=rfl
theorem tw9378254376102152143:1=1:=rfl
theorem tw6883741973766446791:1=1:=rfl
theorem tw8693662901424576113:1=1:=rfl
theorem tw1697544655201012999:1=1:=rfl
theorem tw6973401727384321114:1=1:=rfl
theorem tw4773702212245658779:1=1:=rfl
theorem tw2103985501979894447:1=1:=rfl
theorem tw672699306608606093:1=1:=rfl
theorem tw9227541089923242437:1=1:=rfl
theorem tw1803303928475200142:1=1:=rfl
theorem tw13549259019975226677:1=1:=rfl
theorem tw12638030207367898728:1=1:=rfl
theorem tw17103177528636943170:1=1:=rfl
theorem tw4736427724481360342:1=1:=rfl
theorem tw3120133295221510679:1=1:=rfl
theorem tw14145802354927516647:1=1:=rfl
theorem tw17981982808018919739:1=1:=rfl
theorem tw10361075674979980167:1=1:=rfl
theorem tw13975414291046593716:1=1:=rfl
theorem tw15722756333993289495:1=1:=rfl
theorem tw47109162367338493:1=1:=rfl
theorem tw10341860258655708415:1=1:=rfl
theorem tw6265701101103706036:1=1:=rfl
theorem tw15451780782824253742:1=1:=rfl
theorem tw14861896470697024400:1=1:=rfl
theorem tw11383000496634168614:1=1:=rfl
theorem tw83393220934416808:1=1:=rfl
theorem tw10414433010598505635:1=1:=rfl
theorem tw3207569582813703071:1=1:=rfl
theorem tw2544169868661182894:1=1:=rfl
theorem tw13501252493785611398:1=1:=rfl
theorem tw10773188271377071773:1=1:=rfl
theorem tw2732273902793177162:1=1:=rfl
theorem tw3479634599624807885:1=1:=rfl
theorem tw146815374380898660:1=1:=rfl
theorem tw13326734554550294991:1=1:=rfl
theorem tw13091174067606910046:1=1:=rfl
theorem tw11334415319851112604:1=1:=rfl
theorem tw13896958669275611876:1=1:=rfl
theorem tw1833847959688406909:1=1:=rfl
theorem tw15361541807878343388:1=1:=rfl
theorem tw9229161468869434483:1=1:=rfl
theorem tw17492772389151264855:1=1:=rfl
theorem tw13706816188851595723:1=1:=rfl
theorem tw16900427199656544559:1=1:=rfl
theorem tw10783980745131425670:1=1:=rfl
theorem tw16719718919923625709:1=1:=rfl
theorem tw7444641836354208208:1=1:=rfl
theorem tw3422688185749166683:1=1:=rfl
theorem tw9953747333497923681:1=1:=rfl
theorem tw1617357707322924660:1=1:=rfl
theorem tw8311017846404947139:1=1:=rfl
theorem tw6042063481754889096:1=1:=rfl
theorem tw16415559393655328363:1=1:=rfl
theorem tw7273676953221729872:1=1:=rfl
theorem tw9442318146202087700:1=1:=rfl
theorem tw17469865338272021226:1=1:=rfl
theorem tw9233715247699887402:1=1:=rfl
theorem tw4796303294375832693:1=1:=rfl
theorem tw4807692442873511580:1=1:=rfl
theorem tw13068111086705522682:1=1:=rfl
theorem tw14747140909534839006:1=1:=rfl
theorem tw4177254973167742082:1=1:=rfl
theorem tw3820434133910038737:1=1:=rfl
theorem tw5728218623943512802:1=1:=rfl
theorem tw3484022092364678248:1=1:=rfl
theorem tw7160873610591055699:1=1:=rfl
theorem tw7990429038631628895:1=1:=rfl
theorem tw9961057766049560675:1=1:=rfl
theorem tw6694047246710070196:1=1:=rfl
theorem tw6912233166142098652:1=1:=rfl
theorem tw10574840078274726829:1=1:=rfl
theorem tw6381231289166406305:1=1:=rfl
theorem tw2619622883677149074:1=1:=rfl
theorem tw7743179893348639699:1=1:=rfl
theorem tw4526881389914513428:1=1:=rfl
theorem tw5596365628329696591:1=1:=rfl
theorem tw7681529838311687354:1=1:=rfl
theorem tw104434173382791472:1=1:=rfl
theorem tw14987219478266130788:1=1:=rfl
theorem tw1736530178072539846:1=1:=rfl
theorem tw5303079699428457377:1=1:=rfl
theorem tw18245740138792012028:1=1:=rfl
theorem tw15240379268576122478:1=1:=rfl
theorem tw1486479319815781832:1=1:=rfl
theorem tw17022078359063049780:1=1:=rfl
theorem tw16713831800681072344:1=1:=rfl
theorem tw1209819496270969543:1=1:=rfl
theorem tw350670483859837877:1=1:=rfl
theorem tw17050326753033342646:1=1:=rfl
theorem tw3217022616335106338:1=1:=rfl
theorem tw10694878333477680388:1=1:=rfl
theorem tw15911569825323301435:1=1:=rfl
theorem tw681777741448182936:1=1:=rfl
theorem tw9152664641465651067:1=1:=rfl
theorem tw13134186033006778460:1=1:=rfl
theorem tw14724332232928298890:1=1:=rfl
theorem tw10577272966987657301:1=1:=rfl
theorem tw16004416686337608138:1=1:=rfl
theorem tw13928562000808390012:1=1:=rfl
theorem tw9739860059890490050:1=1:=rfl
theorem tw2683898200743741643:1=1:=rfl
theorem tw3254097082911018636:1=1:=rfl
theorem tw16044733080236030384:1=1:=rfl
theorem tw661290744650703789:1=1:=rfl
theorem tw1112988674713690477:1=1:=rfl
theorem tw13120753694373217308:1=1:=rfl
theorem tw18063644159110109576:1=1:=rfl
theorem tw2878843996050045342:1=1:=rfl
theorem tw16034636559557993077:1=1:=rfl
theorem tw17886615442053742456:1=1:=rfl
theorem tw9063741608606530840:1=1:=rfl
theorem tw1068965626710143233:1=1:=rfl
theorem tw5839659824258004927:1=1:=rfl
theorem tw13090165191389475591:1=1:=rfl
theorem tw13272337422414781067:1=1:=rfl
theorem tw12540527436937284434:1=1:=rfl
theorem tw8598144960395782539:1=1:=rfl
theorem tw12342655685612074800:1=1:=rfl
theorem tw7855079511596107753:1=1:=rfl
theorem tw11423202765487971197:1=1:=rfl
theorem tw2267912224990424062:1=1:=rfl
theorem tw6662652255960138227:1=1:=rfl
theorem tw2369445192022557226:1=1:=rfl
theorem tw13799840507378627052:1=1:=rfl
theorem tw17953984050398360512:1=1:=rfl
theorem tw16878204669230926818:1=1:=rfl
theorem tw3696473221133414273:1=1:=rfl
theorem tw668136137496459709:1=1:=rfl
theorem tw7313339093194340965:1=1:=rfl
theorem tw4597200072644226624:1=1:=rfl
theorem tw4331257952254489624:1=1:=rfl
theorem tw9743097575036673082:1=1:=rfl
theorem tw10567129059001840431:1=1:=rfl
theorem tw6906291655842520137:1=1:=rfl
theorem tw9016798869158615873:1=1:=rfl
theorem tw7381879191629600215:1=1:=rfl
theorem tw2580922434103091657:1=1:=rfl
theorem tw11116745826364501430:1=1:=rfl
theorem tw2867133514656366558:1=1:=rfl
theorem tw7458633546980236471:1=1:=rfl
theorem tw2220570432770164149:1=1:=rfl
theorem tw953821971998124167:1=1:=rfl
theorem tw17103585973383926153:1=1:=rfl
theorem tw7204493036743257322:1=1:=rfl
theorem tw9919435345466941130:1=1:=rfl
theorem tw2126296398998916975:1=1:=rfl
theorem tw10987319290404115282:1=1:=rfl
theorem tw6761616313442571491:1=1:=rfl
theorem tw18164388396756303480:1=1:=rfl
theorem tw3548060758652744671:1=1:=rfl
theorem tw1123975283337734383:1=1:=rfl
theorem tw6572447435987645144:1=1:=rfl
theorem tw11960245374511038805:1=1:=rfl
theorem tw16550210197400561554:1=1:=rfl
theorem tw7845129631348957993:1=1:=rfl
theorem tw15349318334595610263:1=1:=rfl
theorem tw13432635357386499347:1=1:=rfl
theorem tw10404823597219466188:1=1:=rfl
theorem tw6503730183909636620:1=1:=rfl
theorem tw13012589842206080548:1=1:=rfl
theorem tw2601905985415302144:1=1:=rfl
theorem tw7671549972530922468:1=1:=rfl
theorem tw1601500998369573665:1=1:=rfl
theorem tw4498253355057717688:1=1:=rfl
theorem tw18367679650794681301:1=1:=rfl
theorem tw17781115878593249900:1=1:=rfl
theorem tw12894197372075662830:1=1:=rfl
theorem tw17470836177267949868:1=1:=rfl
theorem tw17486766287000646611:1=1:=rfl
theorem tw1212798325632107971:1=1:=rfl
theorem tw3195522803047326042:1=1:=rfl
theorem tw8810280945414196856:1=1:=rfl
theorem tw7250933059871147345:1=1:=rfl
theorem tw8139039716903228087:1=1:=rfl
theorem tw5868845118606482295:1=1:=rfl
theorem tw11582926029173025856:1=1:=rfl
theorem tw11159431927160009238:1=1:=rfl
theorem tw81815255157605957:1=1:=rfl
theorem tw11613256710310857696:1=1:=rfl
theorem tw18394268562011335289:1=1:=rfl
theorem tw16352630495959832749:1=1:=rfl
theorem tw4186445540838780016:1=1:=rfl
theorem tw339143206060000330:1=1:=rfl
theorem tw908825868028484722:1=1:=rfl
theorem tw2443449257678562572:1=1:=rfl
theorem tw2741389259953327712:1=1:=rfl
theorem tw3776753064480771068:1=1:=rfl
theorem tw9366391650621772374:1=1:=rfl
theorem tw14235281626263879747:1=1:=rfl
theorem tw4656485037274611717:1=1:=rfl
theorem tw15985961358823992270:1=1:=rfl
theorem tw10801874191123338550:1=1:=rfl
theorem tw3871027444623705763:1=1:=rfl
theorem tw13713866747541496747:1=1:=rfl
theorem tw3140898538269762758:1=1:=rfl
theorem tw4076138812419527698:1=1:=rfl
theorem tw17046948494117081484:1=1:=rfl
theorem tw15362295582089109014:1=1:=rfl
theorem tw13889309363888878346:1=1:=rfl
theorem tw6749217079512962374:1=1:=rfl
theorem tw1886144042066472794:1=1:=rfl
theorem tw10956490626425055710:1=1:=rfl
theorem tw11858546649754279707:1=1:=rfl
theorem tw11199710921928265848:1=1:=rfl
theorem tw15169761463676818070:1=1:=rfl
theorem tw6885214360128481674:1=1:=rfl
theorem tw775762912060472103:1=1:=rfl
theorem tw9059672392935016618:1=1:=rfl
theorem tw9335426496214029073:1=1:=rfl
theorem tw15744752440731449612:1=1:=rfl
theorem tw1040915598704419856:1=1:=rfl
theorem tw12209182163369298222:1=1:=rfl
theorem tw11053662475850362967:1=1:=rfl
theorem tw2029088862249889922:1=1:=rfl
theorem tw11982747722937265360:1=1:=rfl
theorem tw2988451766255067171:1=1:=rfl
theorem tw3486219094355674750:1=1:=rfl
theorem tw9590735534726013551:1=1:=rfl
theorem tw13369591340354186047:1=1:=rfl
theorem tw11466170419677230873:1=1:=rfl
theorem tw16736118626332596326:1=1:=rfl
theorem tw12166907935582030026:1=1:=rfl
theorem tw16104615914030681952:1=1:=rfl
theorem tw10648311167861321448:1=1:=rfl
theorem tw1845483956194967209:1=1:=rfl
theorem tw14042817526060737062:1=1:=rfl
theorem tw10774637447528242797:1=1:=rfl
theorem tw2312856594315299383:1=1:=rfl
theorem tw15976228082101565994:1=1:=rfl
theorem tw9768079942903668216:1=1:=rfl
theorem tw12535971307161669396:1=1:=rfl
theorem tw2581206410525282061:1=1:=rfl
theorem tw10936122117785486979:1=1:=rfl
theorem tw14402358008270493973:1=1:=rfl
theorem tw13710211086531791108:1=1:=rfl
theorem tw1483126911874232274:1=1:=rfl
theorem tw8204474986945543665:1=1:=rfl
theorem tw8148004212497801138:1=1:=rfl
theorem tw6333448901615975916:1=1:=rfl
theorem tw5581607755468803823:1=1:=rfl
theorem tw3584897518013459382:1=1:=rfl
theorem tw9759319705405543751:1=1:=rfl
theorem tw10187264123177260123:1=1:=rfl
theorem tw594810645892935528:1=1:=rfl
theorem tw17315540178315561739:1=1:=rfl
theorem tw1291508964198565346:1=1:=rfl
theorem tw6370870915552960936:1=1:=rfl
theorem tw18034075008235765660:1=1:=rfl
theorem tw7830913209206220567:1=1:=rfl
theorem tw18289109515434150305:1=1:=rfl
theorem tw7297446738713254254:1=1:=rfl
theorem tw17030962893124633753:1=1:=rfl
theorem tw4951766788466123468:1=1:=rfl
theorem tw16196420915677631385:1=1:=rfl
theorem tw14826035006057030972:1=1:=rfl
theorem tw2007660962349395123:1=1:=rfl
theorem tw16759092144687519636:1=1:=rfl
theorem tw12904532413392791838:1=1:=rfl
theorem tw9361663168868926718:1=1:=rfl
theorem tw17342085116792181814:1=1:=rfl
theorem tw13264354339760550358:1=1:=rfl
theorem tw10079171474624433434:1=1:=rfl
theorem tw12376051458212225564:1=1:=rfl
theorem tw13305523845174962083:1=1:=rfl
theorem tw1047907039808853306:1=1:=rfl
theorem tw9259421805112917234:1=1:=rfl
theorem tw15687709949711836451:1=1:=rfl
theorem tw15058813355848621054:1=1:=rfl
theorem tw3974946682361356058:1=1:=rfl
theorem tw7717162694582976202:1=1:=rfl
theorem tw11546936639936008217:1=1:=rfl
theorem tw16734371015571099844:1=1:=rfl
theorem tw9059832203979395877:1=1:=rfl
theorem tw9108098604805947806:1=1:=rfl
theorem tw15860264024139754761:1=1:=rfl
theorem tw14526540143163920134:1=1:=rfl
theorem tw13345470168829271861:1=1:=rfl
theorem tw5118827330378232414:1=1:=rfl
theorem tw7414872774492366064:1=1:=rfl
theorem tw216529984938456764:1=1:=rfl
theorem tw17106077347380383627:1=1:=rfl
theorem tw1492452104121835379:1=1:=rfl
theorem tw17093978387232202294:1=1:=rfl
theorem tw5006934033680142597:1=1:=rfl
theorem tw4468942710605802240:1=1:=rfl
theorem tw9543386914318008161:1=1:=rfl
theorem tw5552270689369575618:1=1:=rfl
theorem tw6448850889433096767:1=1:=rfl
theorem tw3331421620988305804:1=1:=rfl
theorem tw10448899703829047738:1=1:=rfl
theorem tw8184561461823581802:1=1:=rfl
theorem tw12483720753089274532:1=1:=rfl
theorem tw10751250942693970866:1=1:=rfl
theorem tw5692499903750754813:1=1:=rfl
theorem tw15503665604740900718:1=1:=rfl
theorem tw46980244435833615:1=1:=rfl
theorem tw12385144161495827662:1=1:=rfl
theorem tw2968346561183084112:1=1:=rfl
theorem tw2617181576586992344:1=1:=rfl
theorem tw14282377253939248939:1=1:=rfl
theorem tw2145171640123136144:1=1:=rfl
theorem tw3768957769849046624:1=1:=rfl
theorem tw14359483027881537211:1=1:=rfl
theorem tw2847958352784047137:1=1:=rfl
theorem tw11141966352661209427:1=1:=rfl
theorem tw3712731000106771831:1=1:=rfl
theorem tw4699463449715708850:1=1:=rfl
theorem tw10703516329204539289:1=1:=rfl
theorem tw7587601194962177611:1=1:=rfl
theorem tw826436352511432923:1=1:=rfl
theorem tw6611520831114928346:1=1:=rfl
theorem tw2515998901278374640:1=1:=rfl
theorem tw521701566708251284:1=1:=rfl
theorem tw18199699507294796123:1=1:=rfl
theorem tw17725112336576127977:1=1:=rfl
theorem tw14071197739269178328:1=1:=rfl
theorem tw1700347112935617374:1=1:=rfl
theorem tw5380804022404411875:1=1:=rfl
theorem tw18064794426631996164:1=1:=rfl
theorem tw5572508421433193120:1=1:=rfl
theorem tw4362939472636745446:1=1:=rfl
theorem tw10001888077015295000:1=1:=rfl
theorem tw17991714884841833476:1=1:=rfl
theorem tw16541100652227675460:1=1:=rfl
theorem tw15108705937937467226:1=1:=rfl
end Mine.top
namespace Mine
theorem ys{α:Sort _}{a b:α}(h:a=b):b=a:=h.symm
theorem oi{α:Type _}{a b:α}(h:some a=some b):a=b:=Option.some.inj h
theorem bl_{m n:Nat}(h:Nat.ble m n=true):m<=n:=Nat.le_of_ble_eq_true h
inductive pO|v (i:Nat)|w (i:Nat)|k (c:Nat)|add (a b:pO)|mul (a b:pO)|sub (a b:pO)|neg (a:pO)|cast (a:pO)
noncomputable def gN:List Nat->Nat->Nat
 |[],_=>0
 |a::_,0=>a
 |_::l,i+1=>gN l i
noncomputable def gZ:List Int->Nat->Int
 |[],_=>0
 |a::_,0=>a
 |_::l,i+1=>gZ l i
noncomputable def pO.n(x:List Nat):pO->Nat
 |v i=>gN x i
 |k c=>c
 |add a b=>a.n x+b.n x
 |mul a b=>a.n x*b.n x
 |_=>0
noncomputable def pO.z(x:List Nat)(y:List Int):pO->Int
 |w i=>gZ y i
 |k c=>(c:Int)
 |add a b=>a.z x y+b.z x y
 |mul a b=>a.z x y*b.z x y
 |sub a b=>a.z x y-b.z x y
 |neg a=> -a.z x y
 |cast a=>(a.n x:Int)
 |_=>0
noncomputable def dc:List Int->List Int->Int
 |[],_=>0
 |_,[]=>0
 |p::ps,a::l=>p*a+dc ps l
noncomputable def sV:List Int->List Int->List Int
 |[],q=>q
 |p,[]=>p
 |p::ps,q::qs=>(p+q)::sV ps qs
noncomputable def EV:Nat->List Int
 |0=>[1]
 |i+1=>0::EV i
theorem dot_nil(p:List Int):dc p []=0:=by cases p<;>rfl
theorem Dw(a b c d:Int):a+b+(c+d)=a+c+(b+d):=by rw[Int.add_assoc,Int.add_left_comm b,<-Int.add_assoc]
theorem uG(p q l):dc (sV p q) l=dc p l+dc q l:=by
 induction p generalizing q l with
 |nil=>exact(Int.zero_add _).symm
 | cons p ps z=>
  cases q with
  |nil=>exact(Int.add_zero _).symm
  | cons q u=>
   cases l with
   |nil=>rfl
   | cons a l=>
    show(p+q)*a+dc (sV ps u) l=p*a+dc ps l+(q*a+dc u l);rw[z,Int.add_mul,Dw]
theorem uM(k:Int)(p l):dc (p.map (k* ·)) l=k*dc p l:=by
 induction p generalizing l with
 |nil=>exact(Int.mul_zero _).symm
 | cons p ps u=>
  cases l with
  |nil=>exact(Int.mul_zero _).symm
  | cons a l=>
   show k*p*a+dc (ps.map (k* ·)) l=k*(p*a+dc ps l);rw[u,Int.mul_add,Int.mul_assoc]
theorem uO(i l):dc (EV i) l=gZ l i:=by
 induction i generalizing l with
 | zero=>
  cases l with
  |nil=>rfl
  |cons a l=>show 1*a+dc [] l=a;rw[Int.one_mul];exact Int.add_zero a
 | succ i u=>
  cases l with
  |nil=>rfl
  |cons a l=>show 0*a+dc (EV i) l=gZ l i;rw[u,Int.zero_mul,Int.zero_add]
theorem Di(x:List Nat)(i):gZ (x.map Int.ofNat) i=(gN x i:Int):=by
 induction x generalizing i with
 |nil=>rfl
 | cons a l u=>
  cases i with
  |zero=>rfl
  |succ i=>exact u i
structure f0 where
 a:List Int
 b:List Int
 c:Int
noncomputable def f0.ev(x:List Nat)(y:List Int)(p:f0):Int:=dc p.a (x.map Int.ofNat)+dc p.b y+p.c
noncomputable def f0.add(p q:f0):f0:=⟨sV p.a q.a,sV p.b q.b,p.c+q.c⟩
noncomputable def f0.mul(k:Int)(p:f0):f0:=⟨p.a.map (k* ·),p.b.map (k* ·),k*p.c⟩
theorem j6(x y)(p q:f0):(p.add q).ev x y=p.ev x y+q.ev x y:=by
 show dc (sV _ _) _+dc (sV _ _) _+(p.c+q.c)=(dc _ _+dc _ _+_)+(dc _ _+dc _ _+_);rw[uG,uG,Dw<|dc _ _,Dw (dc _ _+_)]
theorem iR(x y)(k:Int)(p:f0):(p.mul k).ev x y=k*p.ev x y:=by
 show dc (List.map _ _) _+dc (List.map _ _) _+k*p.c=k*(dc _ _+dc _ _+p.c);rw[uM,uM,Int.mul_add,Int.mul_add]
noncomputable def f0.IN(p:f0):Bool:=p.a.isEmpty&&p.b.isEmpty
theorem yP(x y){p:f0}(h:p.IN=true):p.ev x y=p.c:=by
 obtain⟨a,b,c⟩:=p;have h:=(Bool.and_eq_true _ _).mp h;have u:a=[]:=List.isEmpty_iff.mp h.1;have z:b=[]:=List.isEmpty_iff.mp h.2;subst u;subst z;show 0+0+c=c;rw[Int.zero_add,Int.zero_add]
noncomputable def Bc(p q:f0):Option f0:=if p.IN=true then some (q.mul p.c) else if q.IN=true then some (p.mul q.c) else none
theorem uW(x y){p q r:f0}(h:Bc p q=some r):r.ev x y=p.ev x y*q.ev x y:=by
 unfold Bc at h
 by_cases u:p.IN=true
 ·rw[if_pos u] at h;rw[<-Option.some.inj h,iR,yP x y u]
 ·rw[if_neg u] at h
  by_cases z:q.IN=true
  ·rw[if_pos z] at h;rw[<-Option.some.inj h,iR,yP x y z,Int.mul_comm]
  ·rw[if_neg z] at h;exact nomatch h
noncomputable def zT(f:f0->f0->Option f0):Option f0->Option f0->Option f0
 |some p,some q=>f p q
 |_,_=>none
theorem gw{f}{a b:Option f0}{r:f0}{G:Prop}(h:zT f a b=some r)(k:∀p q,a=some p->b=some q->f p q=some r->G):G:=by
 cases a with
 |none=>exact nomatch h
 | some p=>cases b with
  |none=>exact nomatch h
  |some q=>exact k p q rfl rfl h
noncomputable def pO.ln:pO->Option f0
 |v i=>some ⟨EV i,[],0⟩
 |k c=>some ⟨[],[],c⟩
 |add a b=>zT (λp q=>some (p.add q)) a.ln b.ln
 |mul a b=>zT Bc a.ln b.ln
 |_=>none
noncomputable def pO.lz:pO->Option f0
 |w i=>some ⟨[],EV i,0⟩
 |k c=>some ⟨[],[],c⟩
 |add a b=>zT (λp q=>some (p.add q)) a.lz b.lz
 |mul a b=>zT Bc a.lz b.lz
 |sub a b=>zT (λp q=>some (p.add (q.mul (-1)))) a.lz b.lz
 |neg a=>zT (λp q=>some (q.mul (-1))) (some ⟨[],[],0⟩) a.lz
 |cast a=>a.ln
 |_=>none
theorem CH(c:Int):0+0+c=c:=by rw[Int.zero_add,Int.zero_add]
theorem zO(x y)(t:pO):∀{p:f0},t.ln=some p->p.ev x y=(t.n x:Int):=by
 induction t with
 | v i=>
  intro p h;rw[<-Option.some.inj h];show dc (EV i) _+0+0=(gN x i:Int);rw[uO,Di,Int.add_zero,Int.add_zero]
 |k c=>exact λh=>Option.some.inj h▸CH c
 |add a b u z=>exact λh=>gw h λq r B I J=>by rw[<-Option.some.inj J,j6,u B,z I];exact(Int.natCast_add _ _).symm
 |mul a b u z=>exact λh=>gw h λq r B I J=>by rw[uW x y J,u B,z I];exact(Int.natCast_mul _ _).symm
 |_=>exact λh=>nomatch h
theorem Cp(x y)(t:pO):∀{p:f0},t.lz=some p->p.ev x y=t.z x y:=by
 induction t with
 | w i=>
  intro p h;rw[<-Option.some.inj h];show 0+dc (EV i) y+0=gZ y i;rw[uO,Int.zero_add,Int.add_zero]
 |k c=>exact λh=>Option.some.inj h▸CH c
 |add a b u z=>exact λh=>gw h λq r J B I=>by rw[<-Option.some.inj I,j6,u J,z B];rfl
 |mul a b u z=>exact λh=>gw h λq r J B I=>by rw[uW x y I,u J,z B];rfl
 |sub a b u z=>exact λh=>gw h λq r J B I=>by rw[<-Option.some.inj I,j6,iR,u J,z B,Int.neg_mul,Int.one_mul];rfl
 |neg a u=>exact λh=>gw h λq r J B I=>by rw[<-Option.some.inj I,iR,u B,Int.neg_mul,Int.one_mul];rfl
 |cast a=>exact λh=>zO x y a h
 |_=>exact λh=>nomatch h
noncomputable def pT{α:Type _}:Nat->Nat->(pO->Nat->α)->α
 |0,n,k=>k (.k 0) n
 | f+1,n,k=>match n%8 with
  |0=>k (.v (n/8%16)) (n/128)
  |1=>k (.w (n/8%16)) (n/128)
  |2=>k (.k (n/512%2^(n/8%64))) (n/512/2^(n/8%64))
  |3=>pT f (n/8) λa n=>pT f n λb n=>k (.add a b) n
  |4=>pT f (n/8) λa n=>pT f n λb n=>k (.mul a b) n
  |5=>pT f (n/8) λa n=>pT f n λb n=>k (.sub a b) n
  |6=>pT f (n/8) λa n=>k (.neg a) n
  |_=>pT f (n/8) λa n=>k (.cast a) n
structure xk where
 m:Nat
 s:Nat
 r:Nat
 a:pO
 b:pO
noncomputable def pC{α:Type _}(n:Nat)(k:xk->Nat->α):α:=pT 12 (n/2048) λa n'=>pT 12 n' λb n'=>k ⟨n%64,n/64%2,n/128%16,a,b⟩ n'
noncomputable def oo:Nat->Nat->xk
 |N,0=>pC N λc _=>c
 |N,i+1=>pC N λ_ n=>oo n i
noncomputable def xk.den(x:List Nat)(y:List Int)(t:xk):Prop:=match t.r with
 |0=>t.a.n x<=t.b.n x
 |1=>t.a.n x<t.b.n x
 |2=>t.a.n x=t.b.n x
 |3=>t.a.z x y<=t.b.z x y
 |4=>t.a.z x y<t.b.z x y
 |5=>t.a.z x y=t.b.z x y
 |6=>¬t.a.n x<=t.b.n x
 |7=>¬t.a.n x<t.b.n x
 |8=>¬t.a.z x y<=t.b.z x y
 |9=>¬t.a.z x y<t.b.z x y
 |_=>False
noncomputable def fS(k:Int)(a b:Option f0):Option f0:=zT (λp q=>some ((p.add (q.mul (-1))).add ⟨[],[],k⟩)) a b
noncomputable def xk.pos(t:xk):Option f0:=match t.r with
 |0=>fS 0 t.b.ln t.a.ln
 |1=>fS (-1) t.b.ln t.a.ln
 |2=>if t.s=0 then fS 0 t.b.ln t.a.ln else fS 0 t.a.ln t.b.ln
 |3=>fS 0 t.b.lz t.a.lz
 |4=>fS (-1) t.b.lz t.a.lz
 |5=>if t.s=0 then fS 0 t.b.lz t.a.lz else fS 0 t.a.lz t.b.lz
 |6=>fS (-1) t.a.ln t.b.ln
 |7=>fS 0 t.a.ln t.b.ln
 |8=>fS (-1) t.a.lz t.b.lz
 |9=>fS 0 t.a.lz t.b.lz
 |_=>none
noncomputable def xk.ngp(t:xk):Option f0:=match t.r with
 |0=>fS (-1) t.a.ln t.b.ln
 |1=>fS 0 t.a.ln t.b.ln
 |3=>fS (-1) t.a.lz t.b.lz
 |4=>fS 0 t.a.lz t.b.lz
 |6=>fS 0 t.b.ln t.a.ln
 |7=>fS (-1) t.b.ln t.a.ln
 |8=>fS 0 t.b.lz t.a.lz
 |9=>fS (-1) t.b.lz t.a.lz
 |10=>some ⟨[],[],0⟩
 |_=>none
theorem eJ(x y){k:Int}{a b:Option f0}{p:f0}{u v:Int}(h:fS k a b=some p)(N:∀{q},a=some q->q.ev x y=u)(I:∀{q},b=some q->q.ev x y=v):p.ev x y=u-v+k:=by
 refine gw h λq r z B J=>?_;rw[<-Option.some.inj J,j6,j6,iR,N z,I B,Int.neg_mul,Int.one_mul];show u+ -v+(0+0+k)=u-v+k;rw[Int.zero_add,Int.zero_add];rfl
theorem xN(x y)(t:xk){p:f0}(h:t.pos=some p)(d:t.den x y):0<=p.ev x y:=by
 obtain⟨m,s,r,a,b⟩:=t;have I:= @zO x y a;have z:= @zO x y b;have B:= @Cp x y a;have u:= @Cp x y b
 match r,h,d with
 |0,h,d=>rw[eJ x y h z I,Int.add_zero];exact Int.sub_nonneg_of_le<|Int.ofNat_le.mpr d
 |1,h,d=>rw[eJ x y h z I];exact(Int.le_sub_one_of_lt<|Int.sub_pos_of_lt<|Int.ofNat_lt.mpr d)
 | 2,h,d=>
  have d:a.n x=b.n x:=d
  match s,h with
  |0,h=>rw[eJ x y h z I,d,Int.sub_self];exact Int.le_refl 0
  |_+1,h=>rw[eJ x y h I z,d,Int.sub_self];exact Int.le_refl 0
 |3,h,d=>rw[eJ x y h u B,Int.add_zero];exact Int.sub_nonneg_of_le d
 |4,h,d=>rw[eJ x y h u B];exact(Int.le_sub_one_of_lt<|Int.sub_pos_of_lt d)
 | 5,h,d=>
  have d:a.z x y=b.z x y:=d
  match s,h with
  |0,h=>rw[eJ x y h u B,d,Int.sub_self];exact Int.le_refl 0
  |_+1,h=>rw[eJ x y h B u,d,Int.sub_self];exact Int.le_refl 0
 |6,h,d=>rw[eJ x y h I z];exact(Int.le_sub_one_of_lt<|Int.sub_pos_of_lt<|Int.ofNat_lt.mpr<|Nat.lt_of_not_le d)
 |7,h,d=>rw[eJ x y h I z,Int.add_zero];exact Int.sub_nonneg_of_le<|Int.ofNat_le.mpr<|Nat.le_of_not_lt d
 |8,h,d=>rw[eJ x y h B u];exact(Int.le_sub_one_of_lt<|Int.sub_pos_of_lt<|Int.lt_of_not_ge d)
 |9,h,d=>rw[eJ x y h B u,Int.add_zero];exact Int.sub_nonneg_of_le<|Int.not_lt.mp d
 |_+10,h,d=>exact nomatch h
theorem fC{x y}{t:xk}{p:f0}(u:xk)(e:u.pos=t.ngp)(d:¬t.den x y->u.den x y)(h:t.ngp=some p)(n:¬t.den x y):0<=p.ev x y:=xN x y u (e.trans h)<|d n
theorem DZ(x y)(t:xk){p:f0}(h:t.ngp=some p)(d:¬t.den x y):0<=p.ev x y:=by
 obtain⟨m,s,r,a,b⟩:=t
 match r,h,d with
 |0,h,d=>exact fC ⟨m,s,6,a,b⟩ rfl id h d
 |1,h,d=>exact fC ⟨m,s,7,a,b⟩ rfl id h d
 |2,h,d=>exact nomatch h
 |3,h,d=>exact fC ⟨m,s,8,a,b⟩ rfl id h d
 |4,h,d=>exact fC ⟨m,s,9,a,b⟩ rfl id h d
 |5,h,d=>exact nomatch h
 |6,h,d=>exact fC ⟨m,s,0,a,b⟩ rfl Classical.not_not.mp h d
 |7,h,d=>exact fC ⟨m,s,1,a,b⟩ rfl Classical.not_not.mp h d
 |8,h,d=>exact fC ⟨m,s,3,a,b⟩ rfl Classical.not_not.mp h d
 |9,h,d=>exact fC ⟨m,s,4,a,b⟩ rfl Classical.not_not.mp h d
 |10,h,d=>rw[<-Option.some.inj h];exact Int.le_refl 0
 |_+11,h,d=>exact nomatch h
noncomputable def z8(N:Nat):Nat->Option f0
 |0=>zT (λ_ q=>some (q.mul (oo N 0).m)) (some ⟨[],[],0⟩) (oo N 0).ngp
 |i+1=>zT (λp q=>some (p.add (q.mul (oo N (i+1)).m))) (z8 N i) (oo N (i+1)).pos
noncomputable def Eo(x:List Nat)(y:List Int)(N:Nat):Nat->Prop
 |0=>True
 |i+1=>(oo N (i+1)).den x y/\Eo x y N i
theorem Ew(x y N)(I:¬(oo N 0).den x y)(n:Nat):∀{p:f0},z8 N n=some p->Eo x y N n->0<=p.ev x y:=by
 induction n with
 |zero=>exact λh U=>gw h λq r B u z=>by rw[<-Option.some.inj z,iR];exact Int.mul_nonneg (Int.natCast_nonneg _)<|DZ x y _ u I
 |succ n J=>exact λh H=>gw h λq r B u z=>by rw[<-Option.some.inj z,j6,iR];exact Int.add_nonneg (J B H.2)<|Int.mul_nonneg (Int.natCast_nonneg _)<|xN x y _ u H.1
noncomputable def GA(p:f0):Bool:=p.a.all (λi=>decide (i<=0))&&p.b.all (λi=>decide (i=0))&&decide (p.c<0)
theorem z6(p:List Int)(x:List Nat)(h:p.all (λi=>decide (i<=0))=true):dc p (x.map Int.ofNat)<=0:=by
 induction p generalizing x with
 |nil=>exact Int.le_refl 0
 | cons p ps u=>
  cases x with
  |nil=>exact Int.le_refl 0
  | cons a l=>
   have h:=(Bool.and_eq_true _ _).mp h;exact Int.add_le_add (Int.mul_nonpos_of_nonpos_of_nonneg (of_decide_eq_true h.1)<|Int.natCast_nonneg a)<|u l h.2
theorem xR(p y:List Int)(h:p.all (λi=>decide (i=0))=true):dc p y=0:=by
 induction p generalizing y with
 |nil=>rfl
 | cons p ps u=>
  cases y with
  |nil=>rfl
  | cons a l=>
   have h:=(Bool.and_eq_true _ _).mp h;show p*a+dc ps l=0;rw[show p=0 from of_decide_eq_true h.1,u l h.2,Int.zero_mul];rfl
theorem AE(x y){p:f0}(h:GA p=true):p.ev x y<0:=by
 have h:=(Bool.and_eq_true _ _).mp h;have u:=(Bool.and_eq_true _ _).mp h.1;have B:=z6 p.a x u.1;have z:=xR p.b y u.2;have I:p.c<0:=of_decide_eq_true h.2;show dc _ _+dc _ _+p.c<0;rw[z,Int.add_zero];exact Int.lt_of_le_of_lt (Int.add_le_add_right B p.c) (by rw[Int.zero_add];exact I)
noncomputable def lk(N n:Nat):Bool:=match z8 N n with
 |some p=>GA p
 |none=>false
theorem fk(x y N n)(e:lk N n=true)(H:Eo x y N n):(oo N 0).den x y:=Classical.byContradiction λu=>by
 unfold lk at e;cases q:z8 N n with
 |none=>rw[q] at e;exact nomatch e
 |some p=>rw[q] at e;exact Int.not_lt.mpr (Ew x y N u n q H)<|AE x y e
noncomputable abbrev Hy(x:List Nat)(y:List Int)(N i:Nat):Prop:=(oo N i).den x y
theorem jO(x y N)(e:lk N 0=true):Hy x y N 0:=fk x y N 0 e trivial
theorem bw(x y N)(e:lk N 1=true)(u:Hy x y N 1):Hy x y N 0:=fk x y N 1 e ⟨u,trivial⟩
theorem dD(x y N)(e:lk N 2=true)(u:Hy x y N 1)(z:Hy x y N 2):Hy x y N 0:=fk x y N 2 e ⟨z,u,trivial⟩
theorem jt(x y N)(e:lk N 3=true)(z:Hy x y N 1)(B:Hy x y N 2)(u:Hy x y N 3):Hy x y N 0:=fk x y N 3 e ⟨u,B,z,trivial⟩
theorem DW(x y N)(e:lk N 4=true)(B:Hy x y N 1)(I:Hy x y N 2)(z:Hy x y N 3)(u:Hy x y N 4):Hy x y N 0:=fk x y N 4 e ⟨u,z,I,B,trivial⟩
theorem fk5(x y N)(e:lk N 5=true)(I:Hy x y N 1)(u:Hy x y N 2)(B:Hy x y N 3)(z:Hy x y N 4)(J:Hy x y N 5):Hy x y N 0:=fk x y N 5 e ⟨J,z,B,u,I,trivial⟩
theorem ft:true=true:=rfl
noncomputable abbrev CP:=Nat->(α:Type)×α
structure Bt where
 t:Type
 d:t
noncomputable def hkk(b:Bt)(x:CP):b.t:= @dite b.t ((x 0).1=b.t) (Classical.propDecidable _) (λh=>h▸(x 0).2) λ_=>b.d
noncomputable def hkt(x:CP):CP:=λn=>x (n+1)
noncomputable def Ao(a:(α:Type)×α)(x:CP):CP:=λn=>Nat.casesOn n a x
theorem G4{b:Bt}{a:b.t}{x:CP}:hkk b (Ao ⟨b.t,a⟩ x)=a:=dif_pos rfl
structure gK where
 al:Prop
 a:CP->Prop
 pf:(∀x,a x)->al
noncomputable def aO(p:Prop):gK:=⟨p,λ_=>p,λh=>h λ_=>⟨Nat,0⟩⟩
noncomputable def i7(b:Bt)(F:b.t->gK):gK:=⟨∀x,(F x).al,λx=>(F (hkk b x)).a (hkt x),λh x=>(F x).pf λy=>Eq.mp (congrArg (λz=>(F z).a y) G4) (h (Ao ⟨b.t,x⟩ y))⟩
noncomputable def aA{α:Type}[i:Inhabited α](F:α->gK):gK:=i7 ⟨α,i.default⟩ F
noncomputable def gK.X(p:gK):CP:= @Classical.epsilon _ ⟨λ_=>⟨Nat,0⟩⟩ λx=>¬p.a x
theorem gK.go(p:gK)(h:p.a p.X):p.al:=p.pf λx=>Classical.byContradiction λq=>Classical.epsilon_spec (p:=λx=>¬p.a x) ⟨x,q⟩ h
local macro_rules | `(tactic| exists $p) => `(tactic| (change ?T; refine @gK.go $p ?_; apply (?_ : ?T)))
local macro_rules | `(tactic| exists $p, $_ $us*) => `(tactic| (change ?T; refine gK.go $p ((?_ : ?T) $us*)))
noncomputable def b_N:Bt:=⟨Nat,0⟩
noncomputable def b_B:Bt:=⟨Bool,true⟩
open PySem PySem.W PyProof.Rows
local macro_rules | `(tactic| ac_rfl) => `(tactic| ((repeat intro _); (show bindArgs _ _ = _); kernel_rfl))
noncomputable def b_W:Bt:=⟨World,⟨λ_ _=>0,{strHash:=λ_=>0,shareClass:=λ_=>0,mergeTok:=id,idOf:=λ_=>0,idOfShared:=λ_ _=>0,followText:=λ_=>false,idOfImm:=λ_=>0}⟩⟩
noncomputable def zV:((World)->gK)->gK:=i7 b_W
noncomputable def b_A:Bt:=⟨Around,{}⟩
noncomputable def cx:((Around)->gK)->gK:=i7 b_A
noncomputable def b_a:Bt:=⟨Addr,default⟩
noncomputable def b_s:Bt:=⟨Str,default⟩
noncomputable def b_h:Bt:=⟨Shared,{}⟩
noncomputable def eu:((Shared)->gK)->gK:=i7 b_h
noncomputable def b_o:Bt:=⟨Obj,default⟩
noncomputable def b_oi:Bt:=⟨Option Int,default⟩
noncomputable abbrev dg(vs:List Value)(n:Nat):Obj:={cls:=.type "tuple",data:=.seq vs.toArray n}
noncomputable def s7{α:Type}:List α->Nat->Option α
 |[],_=>none
 |x::_,0=>some x
 |_::r,n+1=>s7 r n
noncomputable def fq(i:Nat):Option Stmt:=s7 PySem.Challenge.pw_pq0978_01.main.body i
noncomputable def f7(i j:Nat):Option Stmt:=match fq i with
 |some (.ClassDef _ _ _ b _ _ _ _ _ _ _)=>s7 b j
 |_=>none
noncomputable def fo(o:Option Stmt)(q:Str)(m:Value)(c:Addr):Obj:=match o with
 |some (.FunctionDef name args body _ _ _ sc _ _ _)=>{cls:=.type "function",data:=.func {name:=name,qualname:=q,params:=args,body:=.stmts body,scope:=sc,globals:=3,closure:=[],defaults:=.none,kwdefaults:=.none,pyModule:=m,code:=.ref c}}
 |_=>dg [] 0
noncomputable def en(x:Str)(t:Tok)(v:Value):Str×Tok×Value:=(x,t,v)
noncomputable def Cn(P:Params)(l:List (Str×Tok×Value))(n:Nat):Obj:={cls:=.type "dict",data:=.dict (l.map λp=>{hash:=PyData.keyHash P p.1,key:=.str p.1 p.2.1,val:=p.2.2}).toArray n}
noncomputable def m164:Value:=.str "__main__" 164
noncomputable def m194:Value:=.str "quic.errors" 194
noncomputable def vj:Value:=.str "quic.rtt" 231
noncomputable def pS:Value:=.str "quic.loss" 312
noncomputable def AL:Value:=.str "quic.ranges" 399
noncomputable def Af:Value:=.str "quic.resend" 432
noncomputable def sP:Value:=.str "quic.connloss" 487
noncomputable def BH:Value:=.str "quic.spans" 557
noncomputable def vC:Value:=.str "quic.cryptostream" 605
noncomputable def kq:Value:=.str "quic.newreno" 681
noncomputable def BS:Value:=.str "quic.framerules" 827
noncomputable def gz:Value:=.str "quic.spaces" 859
noncomputable def kP:Value:=.str "law_pq0978_01" 1082
noncomputable def KK(P:Params):Frag:=[
 (666,fo (fq 81) "law" kP 665),
 (659,fo (fq 80) "_law_acked_right" kP 658),
 (654,fo (fq 79) "_law_is_alike" kP 653),
 (637,fo (fq 76) "_law_frames" kP 636),
 (630,fo (fq 75) "_law_state" kP 629),
 (649,fo (fq 78) "_law_told" kP 648),
 (642,fo (fq 77) "_law_spread" kP 641),
 (623,fo (fq 74) "_law_take" kP 622),
 (236,fo (fq 44) "look_for_losses" sP 235),
 (226,fo (fq 42) "take_ack" sP 225),
 (219,fo (fq 41) "frame_lost" sP 218),
 (201,fo (fq 35) "told_again" Af 200),
 (194,fo (fq 34) "newest" Af 193),
 (118,fo (fq 16) "detect_lost" pS 117),
 (149,fo (fq 21) "is_persistent" pS 148),
 (250,fo (fq 47) "add_span" BH 249),
 (257,fo (fq 48) "cut_span" BH 256),
 (156,fo (fq 23) "add_number" AL 155),
 (616,fo (fq 72) "kept_ranges" gz 615),
 (602,fo (f7 71 16) "Space.forget" gz 601),
 (595,fo (f7 71 15) "Space.sent_rows" gz 594),
 (588,fo (f7 71 14) "Space.octets_out" gz 587),
 (581,fo (f7 71 13) "Space.eliciting_left" gz 580),
 (574,fo (f7 71 12) "Space.note_largest" gz 573),
 (567,fo (f7 71 11) "Space.is_beyond" gz 566),
 (560,fo (f7 71 10) "Space.note_acked" gz 559),
 (553,fo (f7 71 9) "Space.acked_by" gz 552),
 (546,fo (f7 71 8) "Space.take" gz 545),
 (541,fo (f7 71 7) "Space.on_sent" gz 540),
 (534,fo (f7 71 6) "Space.take_number" gz 533),
 (527,fo (f7 71 5) "Space.owes_ack" gz 526),
 (520,fo (f7 71 4) "Space.on_ack_sent" gz 519),
 (513,fo (f7 71 3) "Space.ack_frame" gz 512),
 (506,fo (f7 71 2) "Space.on_received" gz 505),
 (499,fo (f7 71 1) "Space.is_known" gz 498),
 (492,fo (f7 71 0) "Space.__init__" gz 491),
 (471,fo (f7 70 0) "SentPacket.__init__" gz 470),
 (457,fo (fq 67) "any_in_flight" BS 456),
 (452,fo (fq 66) "any_eliciting" BS 451),
 (447,fo (fq 65) "counts_in_flight" BS 446),
 (440,fo (fq 64) "is_eliciting" BS 439),
 (425,fo (f7 61 10) "NewReno.on_persistent" kq 424),
 (418,fo (f7 61 9) "NewReno.on_lost" kq 417),
 (411,fo (f7 61 8) "NewReno.on_congestion" kq 410),
 (404,fo (f7 61 7) "NewReno.widen" kq 403),
 (397,fo (f7 61 6) "NewReno.on_acked" kq 396),
 (390,fo (f7 61 5) "NewReno.on_discarded" kq 389),
 (383,fo (f7 61 4) "NewReno.on_sent" kq 382),
 (376,fo (f7 61 3) "NewReno.in_recovery" kq 375),
 (369,fo (f7 61 2) "NewReno.is_slow_start" kq 368),
 (362,fo (f7 61 1) "NewReno.may_send" kq 361),
 (355,fo (f7 61 0) "NewReno.__init__" kq 354),
 (341,fo (fq 60) "least_window" kq 340),
 (334,fo (fq 59) "initial_window" kq 333),
 (320,fo (f7 52 5) "CryptoOut.is_done" vC 319),
 (313,fo (f7 52 4) "CryptoOut.on_acked" vC 312),
 (306,fo (f7 52 3) "CryptoOut.on_lost" vC 305),
 (299,fo (f7 52 2) "CryptoOut.next_chunk" vC 298),
 (292,fo (f7 52 1) "CryptoOut.put" vC 291),
 (285,fo (f7 52 0) "CryptoOut.__init__" vC 284),
 (271,fo (fq 50) "without_spans" BH 270),
 (264,fo (fq 49) "first_span" BH 263),
 (243,fo (fq 45) "is_validated" sP 242),
 (231,fo (fq 43) "sample_rtt" sP 230),
 (214,fo (fq 40) "done_subjects" sP 213),
 (209,fo (fq 39) "frame_came" sP 208),
 (189,fo (fq 33) "subject_of" Af 188),
 (182,fo (fq 32) "way_of" Af 181),
 (171,fo (fq 26) "prune" AL 170),
 (166,fo (fq 25) "newly_acked" AL 165),
 (161,fo (fq 24) "has_number" AL 160),
 (142,fo (fq 20) "is_between" pS 141),
 (137,fo (fq 19) "persistent_span" pS 136),
 (130,fo (fq 18) "flight_size" pS 129),
 (125,fo (fq 17) "newest_time" pS 124),
 (111,fo (fq 15) "is_lost" pS 110),
 (104,fo (fq 14) "loss_delay" pS 103),
 (90,fo (f7 8 4) "Rtt.probe_base" vj 89),
 (83,fo (f7 8 3) "Rtt.sample" vj 82),
 (76,fo (f7 8 2) "Rtt.variance" vj 75),
 (69,fo (f7 8 1) "Rtt.smoothed" vj 68),
 (62,fo (f7 8 0) "Rtt.__init__" vj 61),
 (48,fo (fq 7) "without_delay" vj 47),
 (35,fo (f7 3 0) "QuicError.__init__" m194 34),
 (21,fo (fq 0) "_wall" m164 20),
 (629,{cls:=.type "code",data:=.fields #[.str "_law_state" 1092,.str "_law_state" 1093,.str "/claim/cut.py" 1094,.int 462 0,.int 1 0,.int 0 0,.int 0 0,.int 3 0,.ref 624,.bool true,.int 181 0,.ref 625,.none,.ref 626,.ref 627,.ref 628,.int 1101 0,.int 462 0,.str "/claim/cut.py" 1102]}),
 (605,{cls:=.type "type",data:=.cls {name:="Space",bases:=[.type "object"],mro:=[.ref 605,.type "object"],ns:=604,qualname:="Space"},slots:=#[none,none,some (.str "Space" 900),some (.str "Space" 908),some (.builtin "object.__new__"),some (.bool true)]}),
 (604,Cn P [en "__module__" 907 (.str "quic.spaces" 859),en "__firstlineno__" 911 (.int 373 910),en "__init__" 919 (.ref 492),en "is_known" 927 (.ref 499),en "on_received" 938 (.ref 506),en "ack_frame" 947 (.ref 513),en "on_ack_sent" 954 (.ref 520),en "owes_ack" 961 (.ref 527),en "take_number" 968 (.ref 534),en "on_sent" 980 (.ref 541),en "take" 986 (.ref 546),en "acked_by" 994 (.ref 553),en "note_acked" 1003 (.ref 560),en "is_beyond" 1011 (.ref 567),en "note_largest" 1019 (.ref 574),en "eliciting_left" 1026 (.ref 581),en "octets_out" 1033 (.ref 588),en "sent_rows" 1043 (.ref 595),en "forget" 1050 (.ref 602),en "__static_attributes__" 1067 (.ref 603),en "__dict__" 1069 (.ref 606),en "__weakref__" 1071 (.ref 607),en "__doc__" 1072 (.none)] 4),
 (474,{cls:=.type "type",data:=.cls {name:="SentPacket",bases:=[.type "object"],mro:=[.ref 474,.type "object"],ns:=473,qualname:="SentPacket"},slots:=#[none,none,some (.str "SentPacket" 863),some (.str "SentPacket" 871),some (.builtin "object.__new__"),some (.bool true)]}),
 (473,Cn P [en "__module__" 870 (.str "quic.spaces" 859),en "__firstlineno__" 874 (.int 364 873),en "__init__" 885 (.ref 471),en "__static_attributes__" 892 (.ref 472),en "__dict__" 894 (.ref 475),en "__weakref__" 896 (.ref 476),en "__doc__" 897 (.none)] 4),
 (433,dg [.str "ack" 829,.str "padding" 830,.str "close" 831] 0),
 (428,{cls:=.type "type",data:=.cls {name:="NewReno",bases:=[.type "object"],mro:=[.ref 428,.type "object"],ns:=427,qualname:="NewReno"},slots:=#[none,none,some (.str "NewReno" 707),some (.str "NewReno" 715),some (.builtin "object.__new__"),some (.bool true)]}),
 (427,Cn P [en "__module__" 714 (.str "quic.newreno" 681),en "__firstlineno__" 718 (.int 295 717),en "__init__" 726 (.ref 355),en "may_send" 734 (.ref 362),en "is_slow_start" 741 (.ref 369),en "in_recovery" 749 (.ref 376),en "on_sent" 757 (.ref 383),en "on_discarded" 765 (.ref 390),en "on_acked" 777 (.ref 397),en "widen" 786 (.ref 404),en "on_congestion" 795 (.ref 411),en "on_lost" 805 (.ref 418),en "on_persistent" 812 (.ref 425),en "__static_attributes__" 819 (.ref 426),en "__dict__" 821 (.ref 429),en "__weakref__" 823 (.ref 430),en "__doc__" 824 (.none)] 4),
 (323,{cls:=.type "type",data:=.cls {name:="CryptoOut",bases:=[.type "object"],mro:=[.ref 323,.type "object"],ns:=322,qualname:="CryptoOut"},slots:=#[none,none,some (.str "CryptoOut" 607),some (.str "CryptoOut" 615),some (.builtin "object.__new__"),some (.bool true)]}),
 (322,Cn P [en "__module__" 614 (.str "quic.cryptostream" 605),en "__firstlineno__" 618 (.int 257 617),en "__init__" 625 (.ref 285),en "put" 633 (.ref 292),en "next_chunk" 642 (.ref 299),en "on_lost" 653 (.ref 306),en "on_acked" 662 (.ref 313),en "is_done" 669 (.ref 320),en "__static_attributes__" 673 (.ref 321),en "__dict__" 675 (.ref 324),en "__weakref__" 677 (.ref 325),en "__doc__" 678 (.none)] 4),
 (202,dg [.str "stream" 491,.str "reset_stream" 492,.str "stop_sending" 493,.str "max_data" 494,.str "max_stream_data" 495,.str "max_streams" 496,.str "data_blocked" 497,.str "stream_data_blocked" 498,.str "streams_blocked" 499] 0),
 (175,dg [.str "data_blocked" 448,.str "stream_data_blocked" 449,.str "streams_blocked" 450] 0),
 (174,dg [.str "max_data" 444,.str "max_stream_data" 445,.str "max_streams" 446] 0),
 (173,dg [.str "crypto" 441,.str "stream" 442] 0),
 (172,dg [.str "new_connection_id" 434,.str "retire_connection_id" 435,.str "new_token" 436,.str "handshake_done" 437,.str "stop_sending" 438,.str "reset_stream" 439] 0),
 (93,{cls:=.type "type",data:=.cls {name:="Rtt",bases:=[.type "object"],mro:=[.ref 93,.type "object"],ns:=92,qualname:="Rtt"},slots:=#[none,none,some (.str "Rtt" 246),some (.str "Rtt" 254),some (.builtin "object.__new__"),some (.bool true)]}),
 (92,Cn P [en "__module__" 253 (.str "quic.rtt" 231),en "__firstlineno__" 257 (.int 18 256),en "__init__" 264 (.ref 62),en "smoothed" 271 (.ref 69),en "variance" 278 (.ref 76),en "sample" 291 (.ref 83),en "probe_base" 298 (.ref 90),en "__static_attributes__" 304 (.ref 91),en "__dict__" 306 (.ref 94),en "__weakref__" 308 (.ref 95),en "__doc__" 309 (.none)] 4),
 (38,{cls:=.type "type",data:=.cls {name:="QuicError",bases:=[.type "Exception"],mro:=[.ref 38,.type "Exception",.type "BaseException",.type "object"],ns:=37,qualname:="QuicError"},slots:=#[some (.ref 22),none,some (.str "QuicError" 198),some (.str "QuicError" 206),some (.builtin "Exception.__new__"),some (.bool true)]}),
 (37,Cn P [en "__module__" 205 (.str "quic.errors" 194),en "__firstlineno__" 209 (.int 6 208),en "__init__" 219 (.ref 35),en "__static_attributes__" 223 (.ref 36),en "__weakref__" 225 (.ref 39),en "__doc__" 226 (.none)] 3),
 (22,dg [.type "Exception"] 0),
 (3,Cn P [en "__name__" 165 (.str "law_pq0978_01" 1082),en "__doc__" 166 (.none),en "__package__" 167 (.none),en "__loader__" 168 (.builtin "__main__.__loader__#opaque"),en "__spec__" 169 (.none),en "__annotations__" 170 (.ref 6),en "__builtins__" 171 (.ref 4),en "__file__" 173 (.str "/claim/cut.py" 172),en "__cached__" 174 (.none),en "_wall" 193 (.ref 21),en "PROTOCOL_VIOLATION" 197 (.int 10 196),en "QuicError" 230 (.ref 38),en "INITIAL_RTT" 234 (.int 333000 233),en "GRANULARITY" 236 (.int 1000 235),en "without_delay" 245 (.ref 48),en "Rtt" 311 (.ref 93),en "PACKET_THRESHOLD" 315 (.int 3 314),en "TIME_TOP" 317 (.int 9 316),en "TIME_BOTTOM" 319 (.int 8 318),en "PERSISTENT_TIMES" 321 (.int 3 320),en "loss_delay" 329 (.ref 104),en "is_lost" 340 (.ref 111),en "detect_lost" 354 (.ref 118),en "newest_time" 364 (.ref 125),en "flight_size" 370 (.ref 130),en "persistent_span" 378 (.ref 137),en "is_between" 384 (.ref 142),en "is_persistent" 398 (.ref 149),en "add_number" 413 (.ref 156),en "has_number" 419 (.ref 161),en "newly_acked" 425 (.ref 166),en "prune" 431 (.ref 171),en "ANEW" 440 (.ref 172),en "BY_HOLDER" 443 (.ref 173),en "LATEST" 447 (.ref 174),en "WHILE_BLOCKED" 451 (.ref 175),en "way_of" 458 (.ref 182),en "subject_of" 466 (.ref 189),en "newest" 472 (.ref 194),en "told_again" 486 (.ref 201),en "ACK_TYPE" 490 (.int 2 489),en "STREAM_KINDS" 500 (.ref 202),en "frame_came" 509 (.ref 209),en "done_subjects" 515 (.ref 214),en "frame_lost" 521 (.ref 219),en "take_ack" 537 (.ref 226),en "sample_rtt" 543 (.ref 231),en "look_for_losses" 549 (.ref 236),en "is_validated" 556 (.ref 243),en "add_span" 571 (.ref 250),en "cut_span" 583 (.ref 257),en "first_span" 593 (.ref 264),en "without_spans" 604 (.ref 271),en "CryptoOut" 680 (.ref 323),en "INITIAL_PACKETS" 684 (.int 10 683),en "INITIAL_OCTETS" 686 (.int 14720 685),en "LEAST_PACKETS" 688 (.int 2 687),en "LOSS_TOP" 690 (.int 1 689),en "LOSS_BOTTOM" 692 (.int 2 691),en "initial_window" 699 (.ref 334),en "least_window" 706 (.ref 341),en "NewReno" 826 (.ref 428),en "NOT_ELICITING" 832 (.ref 433),en "is_eliciting" 839 (.ref 440),en "counts_in_flight" 846 (.ref 447),en "any_eliciting" 852 (.ref 452),en "any_in_flight" 858 (.ref 457),en "KEPT_RANGES" 862 (.int 64 861),en "SentPacket" 899 (.ref 474),en "Space" 1074 (.ref 605),en "kept_ranges" 1081 (.ref 616),en "_law_take" 1091 (.ref 623),en "_law_state" 1103 (.ref 630),en "_law_frames" 1114 (.ref 637),en "_law_spread" 1120 (.ref 642),en "_law_told" 1132 (.ref 649),en "_law_is_alike" 1138 (.ref 654),en "_law_acked_right" 1144 (.ref 659),en "law" 1163 (.ref 666)] 79)]
theorem aL{u z:Prop}{G:Prop}(h:u/\z)(f:u->z->G):G:=f h.1 h.2
theorem dK{u B z:Prop}{G:Prop}(h:u/\B/\z)(f:u->B->z->G):G:=f h.1 h.2.1 h.2.2
theorem ji{u B z I:Prop}{G:Prop}(h:u/\B/\z/\I)(f:u->B->z->I->G):G:=f h.1 h.2.1 h.2.2.1 h.2.2.2
theorem CD{z B I J u:Prop}{G:Prop}(h:z/\B/\I/\J/\u)(f:z->B->I->J->u->G):G:=f h.1 h.2.1 h.2.2.1 h.2.2.2.1 h.2.2.2.2
theorem ui{z I J N u B:Prop}{G:Prop}(h:z/\I/\J/\N/\u/\B)(f:z->I->J->N->u->B->G):G:=f h.1 h.2.1 h.2.2.1 h.2.2.2.1 h.2.2.2.2.1 h.2.2.2.2.2
theorem aP{z:Sort _}{B:z->Prop}{G:Prop}(h:∃u,B u)(f:∀u,B u->G):G:=h.elim λu h=>f u h
theorem aG{z:Sort _}{B I:z->Prop}{G:Prop}(h:∃u,B u/\I u)(f:∀u,B u->I u->G):G:=h.elim λu h=>f u h.1 h.2
theorem cj{z:Sort _}{B I J:z->Prop}{G:Prop}(h:∃u,B u/\I u/\J u)(f:∀u,B u->I u->J u->G):G:=h.elim λu h=>f u h.1 h.2.1 h.2.2
theorem t7{z:Sort _}{I N O J B:z->Prop}{G:Prop}(h:∃u,I u/\N u/\O u/\J u/\B u)(f:∀u,I u->N u->O u->J u->B u->G):G:=h.elim λu h=>f u h.1 h.2.1 h.2.2.1 h.2.2.2.1 h.2.2.2.2
theorem l4{B I:Sort _}{J:B->I->Prop}{G:Prop}(h:∃z u,J z u)(f:∀z u,J z u->G):G:=h.elim λz h=>h.elim λu h=>f z u h
theorem nP{B I:Sort _}{J N:B->I->Prop}{G:Prop}(h:∃z u,J z u/\N z u)(f:∀z u,J z u->N z u->G):G:=h.elim λz h=>h.elim λu h=>f z u h.1 h.2
theorem bM{B I:Sort _}{J N O:B->I->Prop}{G:Prop}(h:∃z u,J z u/\N z u/\O z u)(f:∀z u,J z u->N z u->O z u->G):G:=h.elim λz h=>h.elim λu h=>f z u h.1 h.2.1 h.2.2
theorem iP{B I:Sort _}{J O S N:B->I->Prop}{G:Prop}(h:∃z u,J z u/\O z u/\S z u/\N z u)(f:∀z u,J z u->O z u->S z u->N z u->G):G:=h.elim λz h=>h.elim λu h=>f z u h.1 h.2.1 h.2.2.1 h.2.2.2
theorem CL{B I:Sort _}{N S U O J:B->I->Prop}{G:Prop}(h:∃z u,N z u/\S z u/\U z u/\O z u/\J z u)(f:∀z u,N z u->S z u->U z u->O z u->J z u->G):G:=h.elim λz h=>h.elim λu h=>f z u h.1 h.2.1 h.2.2.1 h.2.2.2.1 h.2.2.2.2
theorem GP{B I:Sort _}{N U V S J O:B->I->Prop}{G:Prop}(h:∃z u,N z u/\U z u/\V z u/\S z u/\J z u/\O z u)(f:∀z u,N z u->U z u->V z u->S z u->J z u->O z u->G):G:=h.elim λz h=>h.elim λu h=>f z u h.1 h.2.1 h.2.2.1 h.2.2.2.1 h.2.2.2.2.1 h.2.2.2.2.2
theorem Gz{B I:Sort _}{N V W U J O S:B->I->Prop}{G:Prop}(h:∃z u,N z u/\V z u/\W z u/\U z u/\J z u/\O z u/\S z u)(f:∀z u,N z u->V z u->W z u->U z u->J z u->O z u->S z u->G):G:=h.elim λz h=>h.elim λu h=>f z u h.1 h.2.1 h.2.2.1 h.2.2.2.1 h.2.2.2.2.1 h.2.2.2.2.2.1 h.2.2.2.2.2.2
theorem FD{I J N:Sort _}{O:I->J->N->Prop}{G:Prop}(h:∃B z u,O B z u)(f:∀B z u,O B z u->G):G:=h.elim λB h=>h.elim λz h=>h.elim λu h=>f B z u h
theorem vf{I J N:Sort _}{O S:I->J->N->Prop}{G:Prop}(h:∃B z u,O B z u/\S B z u)(f:∀B z u,O B z u->S B z u->G):G:=h.elim λB h=>h.elim λz h=>h.elim λu h=>f B z u h.1 h.2
theorem ca{I J N:Sort _}{O S U:I->J->N->Prop}{G:Prop}(h:∃B z u,O B z u/\S B z u/\U B z u)(f:∀B z u,O B z u->S B z u->U B z u->G):G:=h.elim λB h=>h.elim λz h=>h.elim λu h=>f B z u h.1 h.2.1 h.2.2
theorem kY{I J N:Sort _}{O U V S:I->J->N->Prop}{G:Prop}(h:∃B z u,O B z u/\U B z u/\V B z u/\S B z u)(f:∀B z u,O B z u->U B z u->V B z u->S B z u->G):G:=h.elim λB h=>h.elim λz h=>h.elim λu h=>f B z u h.1 h.2.1 h.2.2.1 h.2.2.2
theorem qb{I J N:Sort _}{S V W U O:I->J->N->Prop}{G:Prop}(h:∃B z u,S B z u/\V B z u/\W B z u/\U B z u/\O B z u)(f:∀B z u,S B z u->V B z u->W B z u->U B z u->O B z u->G):G:=h.elim λB h=>h.elim λz h=>h.elim λu h=>f B z u h.1 h.2.1 h.2.2.1 h.2.2.2.1 h.2.2.2.2
theorem Cu{I J N:Sort _}{S W Z V O U:I->J->N->Prop}{G:Prop}(h:∃B z u,S B z u/\W B z u/\Z B z u/\V B z u/\O B z u/\U B z u)(f:∀B z u,S B z u->W B z u->Z B z u->V B z u->O B z u->U B z u->G):G:=h.elim λB h=>h.elim λz h=>h.elim λu h=>f B z u h.1 h.2.1 h.2.2.1 h.2.2.2.1 h.2.2.2.2.1 h.2.2.2.2.2
theorem Gq{I J N:Sort _}{S Z P2 W O U V:I->J->N->Prop}{G:Prop}(h:∃B z u,S B z u/\Z B z u/\P2 B z u/\W B z u/\O B z u/\U B z u/\V B z u)(f:∀B z u,S B z u->Z B z u->P2 B z u->W B z u->O B z u->U B z u->V B z u->G):G:=h.elim λB h=>h.elim λz h=>h.elim λu h=>f B z u h.1 h.2.1 h.2.2.1 h.2.2.2.1 h.2.2.2.2.1 h.2.2.2.2.2.1 h.2.2.2.2.2.2
theorem FX{I J N:Sort _}{S P1 P2 Z O V W U:I->J->N->Prop}{G:Prop}(h:∃B z u,S B z u/\P1 B z u/\P2 B z u/\Z B z u/\O B z u/\V B z u/\W B z u/\U B z u)(f:∀B z u,S B z u->P1 B z u->P2 B z u->Z B z u->O B z u->V B z u->W B z u->U B z u->G):G:=h.elim λB h=>h.elim λz h=>h.elim λu h=>f B z u h.1 h.2.1 h.2.2.1 h.2.2.2.1 h.2.2.2.2.1 h.2.2.2.2.2.1 h.2.2.2.2.2.2.1 h.2.2.2.2.2.2.2
theorem x0{I J O N:Sort _}{S:I->J->O->N->Prop}{G:Prop}(h:∃B z u a3,S B z u a3)(f:∀B z u a3,S B z u a3->G):G:=h.elim λB h=>h.elim λz h=>h.elim λu h=>h.elim λa3 h=>f B z u a3 h
theorem u5{I J O N:Sort _}{S U:I->J->O->N->Prop}{G:Prop}(h:∃B z u a3,S B z u a3/\U B z u a3)(f:∀B z u a3,S B z u a3->U B z u a3->G):G:=h.elim λB h=>h.elim λz h=>h.elim λu h=>h.elim λa3 h=>f B z u a3 h.1 h.2
theorem nY{I J O N:Sort _}{S U W V:I->J->O->N->Prop}{G:Prop}(h:∃B z u a3,S B z u a3/\U B z u a3/\W B z u a3/\V B z u a3)(f:∀B z u a3,S B z u a3->U B z u a3->W B z u a3->V B z u a3->G):G:=h.elim λB h=>h.elim λz h=>h.elim λu h=>h.elim λa3 h=>f B z u a3 h.1 h.2.1 h.2.2.1 h.2.2.2
theorem Ck{I J O N:Sort _}{U V Z W S:I->J->O->N->Prop}{G:Prop}(h:∃B z u a3,U B z u a3/\V B z u a3/\Z B z u a3/\W B z u a3/\S B z u a3)(f:∀B z u a3,U B z u a3->V B z u a3->Z B z u a3->W B z u a3->S B z u a3->G):G:=h.elim λB h=>h.elim λz h=>h.elim λu h=>h.elim λa3 h=>f B z u a3 h.1 h.2.1 h.2.2.1 h.2.2.2.1 h.2.2.2.2
theorem GD{I J O N:Sort _}{U W P2 Z S V:I->J->O->N->Prop}{G:Prop}(h:∃B z u a3,U B z u a3/\W B z u a3/\P2 B z u a3/\Z B z u a3/\S B z u a3/\V B z u a3)(f:∀B z u a3,U B z u a3->W B z u a3->P2 B z u a3->Z B z u a3->S B z u a3->V B z u a3->G):G:=h.elim λB h=>h.elim λz h=>h.elim λu h=>h.elim λa3 h=>f B z u a3 h.1 h.2.1 h.2.2.1 h.2.2.2.1 h.2.2.2.2.1 h.2.2.2.2.2
theorem Ch{I J O N:Sort _}{U Z P2 P3 S V W:I->J->O->N->Prop}{G:Prop}(h:∃B z u a3,U B z u a3/\Z B z u a3/\P2 B z u a3/\P3 B z u a3/\S B z u a3/\V B z u a3/\W B z u a3)(f:∀B z u a3,U B z u a3->Z B z u a3->P2 B z u a3->P3 B z u a3->S B z u a3->V B z u a3->W B z u a3->G):G:=h.elim λB h=>h.elim λz h=>h.elim λu h=>h.elim λa3 h=>f B z u a3 h.1 h.2.1 h.2.2.1 h.2.2.2.1 h.2.2.2.2.1 h.2.2.2.2.2.1 h.2.2.2.2.2.2
theorem G3{I N S O J:Sort _}{U V:I->N->S->O->J->Prop}{G:Prop}(h:∃B z u a3 a4,U B z u a3 a4/\V B z u a3 a4)(f:∀B z u a3 a4,U B z u a3 a4->V B z u a3 a4->G):G:=h.elim λB h=>h.elim λz h=>h.elim λu h=>h.elim λa3 h=>h.elim λa4 h=>f B z u a3 a4 h.1 h.2
theorem zr{I N S O J:Sort _}{U V W:I->N->S->O->J->Prop}{G:Prop}(h:∃B z u a3 a4,U B z u a3 a4/\V B z u a3 a4/\W B z u a3 a4)(f:∀B z u a3 a4,U B z u a3 a4->V B z u a3 a4->W B z u a3 a4->G):G:=h.elim λB h=>h.elim λz h=>h.elim λu h=>h.elim λa3 h=>h.elim λa4 h=>f B z u a3 a4 h.1 h.2.1 h.2.2
theorem xC{I N S O J:Sort _}{U V Z W:I->N->S->O->J->Prop}{G:Prop}(h:∃B z u a3 a4,U B z u a3 a4/\V B z u a3 a4/\Z B z u a3 a4/\W B z u a3 a4)(f:∀B z u a3 a4,U B z u a3 a4->V B z u a3 a4->Z B z u a3 a4->W B z u a3 a4->G):G:=h.elim λB h=>h.elim λz h=>h.elim λu h=>h.elim λa3 h=>h.elim λa4 h=>f B z u a3 a4 h.1 h.2.1 h.2.2.1 h.2.2.2
theorem FE{I N S O J:Sort _}{V P1 P2 P3 U W Z:I->N->S->O->J->Prop}{G:Prop}(h:∃B z u a3 a4,V B z u a3 a4/\P1 B z u a3 a4/\P2 B z u a3 a4/\P3 B z u a3 a4/\U B z u a3 a4/\W B z u a3 a4/\Z B z u a3 a4)(f:∀B z u a3 a4,V B z u a3 a4->P1 B z u a3 a4->P2 B z u a3 a4->P3 B z u a3 a4->U B z u a3 a4->W B z u a3 a4->Z B z u a3 a4->G):G:=h.elim λB h=>h.elim λz h=>h.elim λu h=>h.elim λa3 h=>h.elim λa4 h=>f B z u a3 a4 h.1 h.2.1 h.2.2.1 h.2.2.2.1 h.2.2.2.2.1 h.2.2.2.2.2.1 h.2.2.2.2.2.2
theorem FC{I N S O J:Sort _}{V P1 P2 P3 U Z P6 W:I->N->S->O->J->Prop}{G:Prop}(h:∃B z u a3 a4,V B z u a3 a4/\P1 B z u a3 a4/\P2 B z u a3 a4/\P3 B z u a3 a4/\U B z u a3 a4/\Z B z u a3 a4/\P6 B z u a3 a4/\W B z u a3 a4)(f:∀B z u a3 a4,V B z u a3 a4->P1 B z u a3 a4->P2 B z u a3 a4->P3 B z u a3 a4->U B z u a3 a4->Z B z u a3 a4->P6 B z u a3 a4->W B z u a3 a4->G):G:=h.elim λB h=>h.elim λz h=>h.elim λu h=>h.elim λa3 h=>h.elim λa4 h=>f B z u a3 a4 h.1 h.2.1 h.2.2.1 h.2.2.2.1 h.2.2.2.2.1 h.2.2.2.2.2.1 h.2.2.2.2.2.2.1 h.2.2.2.2.2.2.2
theorem y9{J O U S N I:Sort _}{V W Z:J->O->U->S->N->I->Prop}{G:Prop}(h:∃B z u a3 a4 a5,V B z u a3 a4 a5/\W B z u a3 a4 a5/\Z B z u a3 a4 a5)(f:∀B z u a3 a4 a5,V B z u a3 a4 a5->W B z u a3 a4 a5->Z B z u a3 a4 a5->G):G:=h.elim λB h=>h.elim λz h=>h.elim λu h=>h.elim λa3 h=>h.elim λa4 h=>h.elim λa5 h=>f B z u a3 a4 a5 h.1 h.2.1 h.2.2
theorem tW{J S V U N I O:Sort _}{W Z P2:J->S->V->U->N->I->O->Prop}{G:Prop}(h:∃B z u a3 a4 a5 a6,W B z u a3 a4 a5 a6/\Z B z u a3 a4 a5 a6/\P2 B z u a3 a4 a5 a6)(f:∀B z u a3 a4 a5 a6,W B z u a3 a4 a5 a6->Z B z u a3 a4 a5 a6->P2 B z u a3 a4 a5 a6->G):G:=h.elim λB h=>h.elim λz h=>h.elim λu h=>h.elim λa3 h=>h.elim λa4 h=>h.elim λa5 h=>h.elim λa6 h=>f B z u a3 a4 a5 a6 h.1 h.2.1 h.2.2
theorem GK{J S V U N I O:Sort _}{Z P1 P2 P3 W:J->S->V->U->N->I->O->Prop}{G:Prop}(h:∃B z u a3 a4 a5 a6,Z B z u a3 a4 a5 a6/\P1 B z u a3 a4 a5 a6/\P2 B z u a3 a4 a5 a6/\P3 B z u a3 a4 a5 a6/\W B z u a3 a4 a5 a6)(f:∀B z u a3 a4 a5 a6,Z B z u a3 a4 a5 a6->P1 B z u a3 a4 a5 a6->P2 B z u a3 a4 a5 a6->P3 B z u a3 a4 a5 a6->W B z u a3 a4 a5 a6->G):G:=h.elim λB h=>h.elim λz h=>h.elim λu h=>h.elim λa3 h=>h.elim λa4 h=>h.elim λa5 h=>h.elim λa6 h=>f B z u a3 a4 a5 a6 h.1 h.2.1 h.2.2.1 h.2.2.2.1 h.2.2.2.2
theorem Fm{I O S V J U N:Sort _}{P0 P1 P2 P3 W Z P6 P7 P8 P9:I->O->S->V->J->U->N->Prop}{G:Prop}(h:∃B u z a3 a4 a5 a6,P0 B u z a3 a4 a5 a6/\P1 B u z a3 a4 a5 a6/\P2 B u z a3 a4 a5 a6/\P3 B u z a3 a4 a5 a6/\W B u z a3 a4 a5 a6/\Z B u z a3 a4 a5 a6/\P6 B u z a3 a4 a5 a6/\P7 B u z a3 a4 a5 a6/\P8 B u z a3 a4 a5 a6/\P9 B u z a3 a4 a5 a6)(f:∀B u z a3 a4 a5 a6,P0 B u z a3 a4 a5 a6->P1 B u z a3 a4 a5 a6->P2 B u z a3 a4 a5 a6->P3 B u z a3 a4 a5 a6->W B u z a3 a4 a5 a6->Z B u z a3 a4 a5 a6->P6 B u z a3 a4 a5 a6->P7 B u z a3 a4 a5 a6->P8 B u z a3 a4 a5 a6->P9 B u z a3 a4 a5 a6->G):G:=h.elim λB h=>h.elim λu h=>h.elim λz h=>h.elim λa3 h=>h.elim λa4 h=>h.elim λa5 h=>h.elim λa6 h=>f B u z a3 a4 a5 a6 h.1 h.2.1 h.2.2.1 h.2.2.2.1 h.2.2.2.2.1 h.2.2.2.2.2.1 h.2.2.2.2.2.2.1 h.2.2.2.2.2.2.2.1 h.2.2.2.2.2.2.2.2.1 h.2.2.2.2.2.2.2.2.2
theorem Cy{J S V U N I O W:Sort _}{P0 P1 P2 P3 Z P5 P6:J->S->V->U->N->I->O->W->Prop}{G:Prop}(h:∃B z u a3 a4 a5 a6 a7,P0 B z u a3 a4 a5 a6 a7/\P1 B z u a3 a4 a5 a6 a7/\P2 B z u a3 a4 a5 a6 a7/\P3 B z u a3 a4 a5 a6 a7/\Z B z u a3 a4 a5 a6 a7/\P5 B z u a3 a4 a5 a6 a7/\P6 B z u a3 a4 a5 a6 a7)(f:∀B z u a3 a4 a5 a6 a7,P0 B z u a3 a4 a5 a6 a7->P1 B z u a3 a4 a5 a6 a7->P2 B z u a3 a4 a5 a6 a7->P3 B z u a3 a4 a5 a6 a7->Z B z u a3 a4 a5 a6 a7->P5 B z u a3 a4 a5 a6 a7->P6 B z u a3 a4 a5 a6 a7->G):G:=h.elim λB h=>h.elim λz h=>h.elim λu h=>h.elim λa3 h=>h.elim λa4 h=>h.elim λa5 h=>h.elim λa6 h=>h.elim λa7 h=>f B z u a3 a4 a5 a6 a7 h.1 h.2.1 h.2.2.1 h.2.2.2.1 h.2.2.2.2.1 h.2.2.2.2.2.1 h.2.2.2.2.2.2
theorem aD{u:Sort _}{z B:u->Prop}(a0:u)(I:z a0)(J:B a0):∃a0,z a0/\B a0:=⟨a0,I,J⟩
theorem bD{u:Sort _}{z B I:u->Prop}(a0:u)(J:z a0)(O:B a0)(N:I a0):∃a0,z a0/\B a0/\I a0:=⟨a0,J,O,N⟩
theorem u6{u:Sort _}{z B I J:u->Prop}(a0:u)(N:z a0)(U:B a0)(O:I a0)(S:J a0):∃a0,z a0/\B a0/\I a0/\J a0:=⟨a0,N,U,O,S⟩
theorem qf{u:Sort _}{B I J N z:u->Prop}(a0:u)(O:B a0)(W:I a0)(S:J a0)(V:N a0)(U:z a0):∃a0,B a0/\I a0/\J a0/\N a0/\z a0:=⟨a0,O,W,S,V,U⟩
theorem DU{z u:Sort _}{P:z->u->Prop}(B:z)(a1:u)(h:P B a1):∃B a1,P B a1:=⟨B,a1,h⟩
theorem dk{z B:Sort _}{I J:z->B->Prop}(u:z)(a1:B)(N:I u a1)(O:J u a1):∃u a1,I u a1/\J u a1:=⟨u,a1,N,O⟩
theorem bE{z B:Sort _}{I J N:z->B->Prop}(u:z)(a1:B)(O:I u a1)(U:J u a1)(S:N u a1):∃u a1,I u a1/\J u a1/\N u a1:=⟨u,a1,O,U,S⟩
theorem kH{z B:Sort _}{I N O J:z->B->Prop}(u:z)(a1:B)(S:I u a1)(W:N u a1)(U:O u a1)(V:J u a1):∃u a1,I u a1/\N u a1/\O u a1/\J u a1:=⟨u,a1,S,W,U,V⟩
theorem tU{z B:Sort _}{J O S N I:z->B->Prop}(u:z)(a1:B)(U:J u a1)(h1:O u a1)(V:S u a1)(Z:N u a1)(W:I u a1):∃u a1,J u a1/\O u a1/\S u a1/\N u a1/\I u a1:=⟨u,a1,U,h1,V,Z,W⟩
theorem xB{z B:Sort _}{J O S U I N:z->B->Prop}(u:z)(a1:B)(V:J u a1)(h1:O u a1)(W:S u a1)(h3:U u a1)(Z:I u a1)(h5:N u a1):∃u a1,J u a1/\O u a1/\S u a1/\U u a1/\I u a1/\N u a1:=⟨u,a1,V,h1,W,h3,Z,h5⟩
theorem zJ{z B:Sort _}{J S U V I N O:z->B->Prop}(u:z)(a1:B)(W:J u a1)(h1:S u a1)(Z:U u a1)(h3:V u a1)(h4:I u a1)(h5:N u a1)(h6:O u a1):∃u a1,J u a1/\S u a1/\U u a1/\V u a1/\I u a1/\N u a1/\O u a1:=⟨u,a1,W,h1,Z,h3,h4,h5,h6⟩
theorem Gm{z B:Sort _}{S N V W I J U O:z->B->Prop}(u:z)(a1:B)(h0:S u a1)(h1:N u a1)(h2:V u a1)(h3:W u a1)(h4:I u a1)(h5:J u a1)(h6:U u a1)(Z:O u a1):∃u a1,S u a1/\N u a1/\V u a1/\W u a1/\I u a1/\J u a1/\U u a1/\O u a1:=⟨u,a1,h0,h1,h2,h3,h4,h5,h6,Z⟩
theorem ee3{u z B:Sort _}{P:u->z->B->Prop}(J:u)(I:z)(a2:B)(h:P J I a2):∃J I a2,P J I a2:=⟨J,I,a2,h⟩
theorem rp{B I J:Sort _}{N O:B->I->J->Prop}(z:B)(u:I)(a2:J)(S:N z u a2)(U:O z u a2):∃z u a2,N z u a2/\O z u a2:=⟨z,u,a2,S,U⟩
theorem bH{B I J:Sort _}{N O S:B->I->J->Prop}(z:B)(u:I)(a2:J)(U:N z u a2)(W:O z u a2)(V:S z u a2):∃z u a2,N z u a2/\O z u a2/\S z u a2:=⟨z,u,a2,U,W,V⟩
theorem uK{B I J:Sort _}{N S U O:B->I->J->Prop}(z:B)(u:I)(a2:J)(V:N z u a2)(h1:S z u a2)(W:U z u a2)(Z:O z u a2):∃z u a2,N z u a2/\S z u a2/\U z u a2/\O z u a2:=⟨z,u,a2,V,h1,W,Z⟩
theorem jx{B I J:Sort _}{O S U V N:B->I->J->Prop}(u:B)(z:I)(a2:J)(W:O u z a2)(h1:S u z a2)(Z:U u z a2)(h3:V u z a2)(h4:N u z a2):∃u z a2,O u z a2/\S u z a2/\U u z a2/\V u z a2/\N u z a2:=⟨u,z,a2,W,h1,Z,h3,h4⟩
theorem rF{B I J:Sort _}{O U V W N S:B->I->J->Prop}(u:B)(z:I)(a2:J)(Z:O u z a2)(h1:U u z a2)(h2:V u z a2)(h3:W u z a2)(h4:N u z a2)(h5:S u z a2):∃u z a2,O u z a2/\U u z a2/\V u z a2/\W u z a2/\N u z a2/\S u z a2:=⟨u,z,a2,Z,h1,h2,h3,h4,h5⟩
theorem G1{B I J:Sort _}{V S Z U N O W:B->I->J->Prop}(u:B)(z:I)(a2:J)(h0:V u z a2)(h1:S u z a2)(h2:Z u z a2)(h3:U u z a2)(h4:N u z a2)(h5:O u z a2)(h6:W u z a2):∃u z a2,V u z a2/\S u z a2/\Z u z a2/\U u z a2/\N u z a2/\O u z a2/\W u z a2:=⟨u,z,a2,h0,h1,h2,h3,h4,h5,h6⟩
theorem CO{B I J:Sort _}{W S P2 V N O Z U:B->I->J->Prop}(u:B)(z:I)(a2:J)(h0:W u z a2)(h1:S u z a2)(h2:P2 u z a2)(h3:V u z a2)(h4:N u z a2)(h5:O u z a2)(h6:Z u z a2)(h7:U u z a2):∃u z a2,W u z a2/\S u z a2/\P2 u z a2/\V u z a2/\N u z a2/\O u z a2/\Z u z a2/\U u z a2:=⟨u,z,a2,h0,h1,h2,h3,h4,h5,h6,h7⟩
theorem ee4{u z I B:Sort _}{P:u->z->I->B->Prop}(O:u)(N:z)(J:I)(a3:B)(h:P O N J a3):∃O N J a3,P O N J a3:=⟨O,N,J,a3,h⟩
theorem G0{I J O N:Sort _}{S U:I->J->O->N->Prop}(B:I)(z:J)(u:O)(a3:N)(V:S B z u a3)(W:U B z u a3):∃B z u a3,S B z u a3/\U B z u a3:=⟨B,z,u,a3,V,W⟩
theorem qw{I J O N:Sort _}{S U V W:I->J->O->N->Prop}(u:I)(B:J)(z:O)(a3:N)(Z:S u B z a3)(h1:U u B z a3)(h2:V u B z a3)(h3:W u B z a3):∃u B z a3,S u B z a3/\U u B z a3/\V u B z a3/\W u B z a3:=⟨u,B,z,a3,Z,h1,h2,h3⟩
theorem yH{I J O N:Sort _}{U V W Z S:I->J->O->N->Prop}(u:I)(B:J)(z:O)(a3:N)(h0:U u B z a3)(h1:V u B z a3)(h2:W u B z a3)(h3:Z u B z a3)(h4:S u B z a3):∃u B z a3,U u B z a3/\V u B z a3/\W u B z a3/\Z u B z a3/\S u B z a3:=⟨u,B,z,a3,h0,h1,h2,h3,h4⟩
theorem FJ{I J N O:Sort _}{W V Z P3 S U:I->J->N->O->Prop}(u:I)(z:J)(B:N)(a3:O)(h0:W u z B a3)(h1:V u z B a3)(h2:Z u z B a3)(h3:P3 u z B a3)(h4:S u z B a3)(h5:U u z B a3):∃u z B a3,W u z B a3/\V u z B a3/\Z u z B a3/\P3 u z B a3/\S u z B a3/\U u z B a3:=⟨u,z,B,a3,h0,h1,h2,h3,h4,h5⟩
theorem Gs{I J N O:Sort _}{Z V P2 W S U P6:I->J->N->O->Prop}(u:I)(z:J)(B:N)(a3:O)(h0:Z u z B a3)(h1:V u z B a3)(h2:P2 u z B a3)(h3:W u z B a3)(h4:S u z B a3)(h5:U u z B a3)(h6:P6 u z B a3):∃u z B a3,Z u z B a3/\V u z B a3/\P2 u z B a3/\W u z B a3/\S u z B a3/\U u z B a3/\P6 u z B a3:=⟨u,z,B,a3,h0,h1,h2,h3,h4,h5,h6⟩
theorem Cb{I N S O J:Sort _}{U V W:I->N->S->O->J->Prop}(B:I)(z:N)(u:S)(a3:O)(a4:J)(Z:U B z u a3 a4)(h1:V B z u a3 a4)(h2:W B z u a3 a4):∃B z u a3 a4,U B z u a3 a4/\V B z u a3 a4/\W B z u a3 a4:=⟨B,z,u,a3,a4,Z,h1,h2⟩
theorem bS{I N S O J:Sort _}{U V W Z:I->N->S->O->J->Prop}(u:I)(B:N)(z:S)(a3:O)(a4:J)(h0:U u B z a3 a4)(h1:V u B z a3 a4)(h2:W u B z a3 a4)(h3:Z u B z a3 a4):∃u B z a3 a4,U u B z a3 a4/\V u B z a3 a4/\W u B z a3 a4/\Z u B z a3 a4:=⟨u,B,z,a3,a4,h0,h1,h2,h3⟩
theorem Gi{I N O S J:Sort _}{P0 W P2 Z U V P6:I->N->O->S->J->Prop}(u:I)(z:N)(B:O)(a3:S)(a4:J)(h0:P0 u z B a3 a4)(h1:W u z B a3 a4)(h2:P2 u z B a3 a4)(h3:Z u z B a3 a4)(h4:U u z B a3 a4)(h5:V u z B a3 a4)(h6:P6 u z B a3 a4):∃u z B a3 a4,P0 u z B a3 a4/\W u z B a3 a4/\P2 u z B a3 a4/\Z u z B a3 a4/\U u z B a3 a4/\V u z B a3 a4/\P6 u z B a3 a4:=⟨u,z,B,a3,a4,h0,h1,h2,h3,h4,h5,h6⟩
theorem Cj{I N O S J:Sort _}{P0 W P2 P3 U V P6 Z:I->N->O->S->J->Prop}(B:I)(u:N)(z:O)(a3:S)(a4:J)(h0:P0 B u z a3 a4)(h1:W B u z a3 a4)(h2:P2 B u z a3 a4)(h3:P3 B u z a3 a4)(h4:U B u z a3 a4)(h5:V B u z a3 a4)(h6:P6 B u z a3 a4)(h7:Z B u z a3 a4):∃B u z a3 a4,P0 B u z a3 a4/\W B u z a3 a4/\P2 B u z a3 a4/\P3 B u z a3 a4/\U B u z a3 a4/\V B u z a3 a4/\P6 B u z a3 a4/\Z B u z a3 a4:=⟨B,u,z,a3,a4,h0,h1,h2,h3,h4,h5,h6,h7⟩
theorem mI{J O U S N I:Sort _}{V W Z:J->O->U->S->N->I->Prop}(B:J)(z:O)(u:U)(a3:S)(a4:N)(a5:I)(h0:V B z u a3 a4 a5)(h1:W B z u a3 a4 a5)(h2:Z B z u a3 a4 a5):∃B z u a3 a4 a5,V B z u a3 a4 a5/\W B z u a3 a4 a5/\Z B z u a3 a4 a5:=⟨B,z,u,a3,a4,a5,h0,h1,h2⟩
theorem yA{J S V U N I O:Sort _}{W Z P2:J->S->V->U->N->I->O->Prop}(B:J)(z:S)(u:V)(a3:U)(a4:N)(a5:I)(a6:O)(h0:W B z u a3 a4 a5 a6)(h1:Z B z u a3 a4 a5 a6)(h2:P2 B z u a3 a4 a5 a6):∃B z u a3 a4 a5 a6,W B z u a3 a4 a5 a6/\Z B z u a3 a4 a5 a6/\P2 B z u a3 a4 a5 a6:=⟨B,z,u,a3,a4,a5,a6,h0,h1,h2⟩
theorem Ca{I O S V J U N:Sort _}{P0 Z P2 P3 W:I->O->S->V->J->U->N->Prop}(B:I)(u:O)(z:S)(a3:V)(a4:J)(a5:U)(a6:N)(h0:P0 B u z a3 a4 a5 a6)(h1:Z B u z a3 a4 a5 a6)(h2:P2 B u z a3 a4 a5 a6)(h3:P3 B u z a3 a4 a5 a6)(h4:W B u z a3 a4 a5 a6):∃B u z a3 a4 a5 a6,P0 B u z a3 a4 a5 a6/\Z B u z a3 a4 a5 a6/\P2 B u z a3 a4 a5 a6/\P3 B u z a3 a4 a5 a6/\W B u z a3 a4 a5 a6:=⟨B,u,z,a3,a4,a5,a6,h0,h1,h2,h3,h4⟩
theorem CG{I O S V J U N:Sort _}{P0 P1 P2 P3 W Z P6:I->O->S->V->J->U->N->Prop}(B:I)(u:O)(z:S)(a3:V)(a4:J)(a5:U)(a6:N)(h0:P0 B u z a3 a4 a5 a6)(h1:P1 B u z a3 a4 a5 a6)(h2:P2 B u z a3 a4 a5 a6)(h3:P3 B u z a3 a4 a5 a6)(h4:W B u z a3 a4 a5 a6)(h5:Z B u z a3 a4 a5 a6)(h6:P6 B u z a3 a4 a5 a6):∃B u z a3 a4 a5 a6,P0 B u z a3 a4 a5 a6/\P1 B u z a3 a4 a5 a6/\P2 B u z a3 a4 a5 a6/\P3 B u z a3 a4 a5 a6/\W B u z a3 a4 a5 a6/\Z B u z a3 a4 a5 a6/\P6 B u z a3 a4 a5 a6:=⟨B,u,z,a3,a4,a5,a6,h0,h1,h2,h3,h4,h5,h6⟩
theorem FG{I O S V J U N:Sort _}{P0 P1 P2 P3 W Z P6 P7 P8:I->O->S->V->J->U->N->Prop}(u:I)(z:O)(B:S)(a3:V)(a4:J)(a5:U)(a6:N)(h0:P0 u z B a3 a4 a5 a6)(h1:P1 u z B a3 a4 a5 a6)(h2:P2 u z B a3 a4 a5 a6)(h3:P3 u z B a3 a4 a5 a6)(h4:W u z B a3 a4 a5 a6)(h5:Z u z B a3 a4 a5 a6)(h6:P6 u z B a3 a4 a5 a6)(h7:P7 u z B a3 a4 a5 a6)(h8:P8 u z B a3 a4 a5 a6):∃u z B a3 a4 a5 a6,P0 u z B a3 a4 a5 a6/\P1 u z B a3 a4 a5 a6/\P2 u z B a3 a4 a5 a6/\P3 u z B a3 a4 a5 a6/\W u z B a3 a4 a5 a6/\Z u z B a3 a4 a5 a6/\P6 u z B a3 a4 a5 a6/\P7 u z B a3 a4 a5 a6/\P8 u z B a3 a4 a5 a6:=⟨u,z,B,a3,a4,a5,a6,h0,h1,h2,h3,h4,h5,h6,h7,h8⟩
theorem zb{I O S W J V N U:Sort _}{P0 P1 P2 P3 Z P5 P6:I->O->S->W->J->V->N->U->Prop}(u:I)(z:O)(B:S)(a3:W)(a4:J)(a5:V)(a6:N)(a7:U)(h0:P0 u z B a3 a4 a5 a6 a7)(h1:P1 u z B a3 a4 a5 a6 a7)(h2:P2 u z B a3 a4 a5 a6 a7)(h3:P3 u z B a3 a4 a5 a6 a7)(h4:Z u z B a3 a4 a5 a6 a7)(h5:P5 u z B a3 a4 a5 a6 a7)(h6:P6 u z B a3 a4 a5 a6 a7):∃u z B a3 a4 a5 a6 a7,P0 u z B a3 a4 a5 a6 a7/\P1 u z B a3 a4 a5 a6 a7/\P2 u z B a3 a4 a5 a6 a7/\P3 u z B a3 a4 a5 a6 a7/\Z u z B a3 a4 a5 a6 a7/\P5 u z B a3 a4 a5 a6 a7/\P6 u z B a3 a4 a5 a6 a7:=⟨u,z,B,a3,a4,a5,a6,a7,h0,h1,h2,h3,h4,h5,h6⟩
theorem jg{u:Type _}{a:u}{P:Prop}(e:some a=none):P:=nomatch e
theorem bU{u:Type _}{a:u}{P:Prop}(e:none=some a):P:=nomatch e
theorem Gu{P:Prop}(e:true=false):P:=nomatch e
theorem jn{P:Prop}(e:false=true):P:=nomatch e
theorem nc{u:Sort _}(f:u->Nat){a b:u}{P:Prop}(e:a=b)(h:Nat.beq (f a) (f b)=false):P:=by subst e;rw[Nat.beq_refl] at h;exact Gu h
variable {D a fa:Addr}
variable {p:Addr×Addr}
variable {A:Around}
variable {b:Bool}
variable {env:Env}
variable {e elt iter target:Expr}
variable {h h':Heap}
variable {i:Int}
variable {qs:List (Int×Int)}
variable {cl:List (Str×Addr)}
variable {es:List DictEntry}
variable {args elts ifs:List Expr}
variable {body:List Stmt}
variable {caps ns own:List Str}
variable {bm vs ws:List Value}
variable {j m tk:Nat}
variable {prog:Program}
variable {scope:Scope}
variable {s:Shared}
variable {name:Str}
variable {cm:Str->Option Value}
variable {E:Value->Shared->Prop}
section
set_option genInjectivity false in
inductive DV where
 |none
 |bool (b:Bool)
 |int (i:Int)
 |str (x:Str)
 |bytes (b:Array UInt8)
 |tup (l:List DV)
 |seq (l:List DV)
 |inst (C:Addr) (fs:List (Str×DV))
 |G7 (l:List (Int×DV))
 |It (lo hi:Int)
 |lam (params:Arguments) (body:Expr) (scope:Scope) (qual:Str) (cl:List (Str×Addr))
 |Hx (l:List DV)
 |vals (l:List DV)
noncomputable def b_D:Bt:=⟨List DV,default⟩
noncomputable def b_d:Bt:=⟨DV,.none⟩
noncomputable def zR:((DV)->gK)->gK:=i7 b_d
set_option genInjectivity false in
structure Cx where
 prog:Program
 w:World
 h₀:Heap
noncomputable def Cx.K(C:Cx):Frag:=KK C.w.params
noncomputable def b_C:Bt:=⟨Cx,⟨default,⟨λ_ _=>0,{strHash:=λ_=>0,shareClass:=λ_=>0,mergeTok:=id,idOf:=λ_=>0,idOfShared:=λ_ _=>0,followText:=λ_=>false,idOfImm:=λ_=>0}⟩,default⟩⟩
noncomputable def ce:((Cx)->gK)->gK:=i7 b_C
noncomputable abbrev Fz:=Addr->Obj->Prop
noncomputable def gd(o:Obj)(vs:List Value):Prop:=∃n,o={cls:=.type "list",data:=.seq vs.toArray n}
noncomputable def o8(o:Obj)(vs:List Value):Prop:=o.cls= .type "list"/\∃n,o.data= .seq vs.toArray n
theorem gd.weak{o:Obj}{vs:List Value}(h:gd o vs):o8 o vs:=let⟨n,e⟩:=h;e▸⟨rfl,n,rfl⟩
noncomputable def dT{prog:Program}{w:World}{K:Type}[DecidableEq K](knd:KeyKind prog w K)(o:Obj)(kvs:List (K×Value)):Prop:=
 o.ExactDict/\∃es ep,o.data= .dict es ep/\KeysOf knd es/\Pairs knd es.toList kvs/\(kvs.map (·.1)).Nodup
theorem cA{w:World}{K:Type}[DecidableEq K]{knd:KeyKind prog w K}{kvs:List (K×Value)}:h.DictOf knd a kvs↔∃o,h.get? a=some o/\dT knd o kvs:=
 ⟨λN=>Cu N λo B ep S I O J U V=>bD o S I<|kH B ep O J U V,λu=>cj u λo S I z=>iP z λB ep O J U V=>rF o B ep S I O J U V⟩
mutual
inductive bz (P:Cx) (F:Fz):Value->DV->Prop
 |none:bz P F .none .none
 |bool (b:Bool):bz P F (.bool b) (.bool b)
 |int (i:Int) (t:Tok):bz P F (.int i t) (.int i)
 |str (x:Str) (t:Tok):bz P F (.str x t) (.str x)
 |bytes (b:Array UInt8) (t:Tok):bz P F (.bytes b t) (.bytes b)
 |tup {a:Addr} {vs:List Value} {n:Nat} {l:List DV}:F a (dg vs n)->bA P F vs l->bz P F (.ref a) (.tup l)
 |seq {a:Addr} {o:Obj} {vs:List Value} {l:List DV}:F a o->gd o vs->bA P F vs l->bz P F (.ref a) (.seq l)
 |inst {x d C:Addr} {es:List DictEntry} {n:Nat} {fs:List (Str×DV)}:F x (instObj C d)->F d (dictOf es n)->qG P F es fs->bz P F (.ref x) (.inst C fs)
 |G7 {a:Addr} {o:Obj} {kvs:List (Int×Value)} {l:List (Int×DV)}:a≠sysModules->F a o->dT (intKind P.prog P.w) o kvs->eQ P F kvs l->bz P F (.ref a) (.G7 l)
 |It {a:Addr} {lo hi:Int} {t u v:Tok}:F a {cls:=.type "range",data:=.fields #[.int lo t,.int hi u,.int 1 v]}->bz P F (.ref a) (.It lo hi)
 |lam {a c:Addr} {params:Arguments} {body:Expr} {scope:Scope} {qual:Str} {cl:List (Str×Addr)} {pm ctv:Value} {oc:Obj} {vs:Array Value} {t:Tok}:F a (kla_obj "<lambda>" qual params body scope cl pm c ctv)->F c oc->oc.data= .fields vs->vs[1]? =some (.str qual t)->bz P F (.ref a) (.lam params body scope qual cl)
 |Hx {a:Addr} {o:Obj} {es:Array DictEntry} {ep:Nat} {l:List DV}:a≠sysModules->F a o->o.ExactDict->o.data= .dict es ep->bA P F (es.toList.map (·.val)) l->bz P F (.ref a) (.Hx l)
 |vals {r a:Addr} {o:Obj} {es:Array DictEntry} {ep:Nat} {l:List DV}:F r {cls:=.type "dict_values",data:=.fields #[.ref a]}->a≠sysModules->F a o->o.ExactDict->o.data= .dict es ep->bA P F (es.toList.map (·.val)) l->bz P F (.ref r) (.vals l)
inductive bA (P:Cx) (F:Fz):List Value->List DV->Prop
 |nil:bA P F [] []
 |cons {v:Value} {vs:List Value} {d:DV} {ds:List DV}:bz P F v d->bA P F vs ds->bA P F (v::vs) (d::ds)
inductive qG (P:Cx) (F:Fz):List DictEntry->List (Str×DV)->Prop
 |nil:qG P F [] []
 |cons {x:Str} {t:Tok} {v:Value} {es:List DictEntry} {d:DV} {fs:List (Str×DV)}:bz P F v d->qG P F es fs->qG P F (⟨PyData.keyHash P.w.params x,.str x t,v⟩::es) ((x,d)::fs)
inductive eQ (P:Cx) (F:Fz):List (Int×Value)->List (Int×DV)->Prop
 |nil:eQ P F [] []
 |cons {k:Int} {v:Value} {es:List (Int×Value)} {d:DV} {l:List (Int×DV)}:bz P F v d->eQ P F es l->eQ P F ((k,v)::es) ((k,d)::l)
end
section
variable {P:Cx} {F:Fz}
noncomputable def Gf(P:Cx)(F:Fz)(v:Value):DV->Prop
 | .none=>v= .none
 | .bool b=>v= .bool b
 | .int i=>∃t,v= .int i t
 | .str x=>∃t,v= .str x t
 | .bytes b=>∃t,v= .bytes b t
 | .tup l=>∃a vs n,v= .ref a/\F a (dg vs n)/\bA P F vs l
 | .seq l=>∃a o vs,v= .ref a/\F a o/\gd o vs/\bA P F vs l
 | .inst C fs=>∃x d es n,v= .ref x/\F x (instObj C d)/\F d (dictOf es n)/\qG P F es fs
 | .G7 l=>∃a o kvs,v= .ref a/\a≠sysModules/\F a o/\dT (intKind P.prog P.w) o kvs/\eQ P F kvs l
 | .It lo hi=>∃a t u w,v= .ref a/\F a {cls:=.type "range",data:=.fields #[.int lo t,.int hi u,.int 1 w]}
 | .lam params body scope qual cl=>∃a c pm ctv oc vs t,v= .ref a/\F a (kla_obj "<lambda>" qual params body scope cl pm c ctv)/\F c oc/\oc.data= .fields vs/\vs[1]? =some (.str qual t)
 | .Hx l=>∃a o es ep,v= .ref a/\a≠sysModules/\F a o/\o.ExactDict/\o.data= .dict es ep/\bA P F (es.toList.map (·.val)) l
 | .vals l=>∃r a o es ep,v= .ref r/\F r {cls:=.type "dict_values",data:=.fields #[.ref a]}/\a≠sysModules/\F a o/\o.ExactDict/\o.data= .dict es ep/\bA P F (es.toList.map (·.val)) l
theorem bz.inv{v:Value}{d:DV}(h:bz P F v d):Gf P F v d:=
 @bz.casesOn P F (λv d U=>Gf P F v d) v d h rfl (λU=>rfl) (λU U=>⟨_,rfl⟩) (λU U=>⟨_,rfl⟩) (λU U=>⟨_,rfl⟩) (λf r=>bH _ _ _ rfl f r) (λf i r=>uK _ _ _ rfl f i r) (λf g r=>qw _ _ _ _ rfl f g r) (λz f i r=>jx _ _ _ rfl z f i r) (λf=>G0 _ _ _ _ rfl f)
  (λf g B u=>Ca _ _ _ _ _ _ _ rfl f g B u) (λz f B u r=>FJ _ _ _ _ rfl z f B u r) (λg z f B u r=>Gi _ _ _ _ _ rfl g z f B u r)
noncomputable def BA{α β:Type}(R:α->β->Prop)(S:List α->List β->Prop)(vs:List α):List β->Prop
 |[]=>vs=[]
 |d::ds=>∃v r,vs=v::r/\R v d/\S r ds
theorem bA.inv{v:List Value}{d:List DV}(h:bA P F v d):BA (bz P F) (bA P F) v d:=
 @bA.casesOn P F (λv d U=>BA (bz P F) (bA P F) v d) v d h rfl λa b=>bE _ _ rfl a b
variable {X:Value->Prop} {v:Value}
variable {Y:List Value->Prop} {vs:List Value}
@[elab_as_elim] theorem bz.HH(h:bz P F v (.int i))(k:∀t,X (.int i t)):X v:=Exists.elim h.inv λt e=>(congrArg X e).mpr<|k t
@[elab_as_elim] theorem bz.Id{x:Str}(h:bz P F v (.str x))(k:∀t,X (.str x t)):X v:=Exists.elim h.inv λt e=>(congrArg X e).mpr<|k t
@[elab_as_elim] theorem bz.H3{x:Array UInt8}(h:bz P F v (.bytes x))(k:∀t,X (.bytes x t)):X v:=Exists.elim h.inv λt e=>(congrArg X e).mpr<|k t
@[elab_as_elim] theorem bz.tupE{l:List DV}(h:bz P F v (.tup l))(k:∀{a vs n},F a (dg vs n)->bA P F vs l->X (.ref a)):X v:=by
 refine ca h.inv λa vs n u f r=>?_;clear h;subst u;exact k f r
@[elab_as_elim] theorem bz.H9{l:List DV}(h:bz P F v (.seq l))(k:∀{a o vs},F a o->gd o vs->bA P F vs l->X (.ref a)):X v:=by
 refine kY h.inv λa o vs u f i r=>?_;clear h;subst u;exact k f i r
@[elab_as_elim] theorem bz.Ig{C:Addr}{fs:List (Str×DV)}(h:bz P F v (.inst C fs))(k:∀{x d z n},F x (instObj C d)->F d (dictOf z n)->qG P F z fs->X (.ref x)):X v:=by
 refine nY h.inv λx d z n u f g r=>?_;clear h;subst u;exact k f g r
@[elab_as_elim] theorem bz.Iv{l:List (Int×DV)}(h:bz P F v (.G7 l))(k:∀{a o kvs},a≠sysModules->F a o->dT (intKind P.prog P.w) o kvs->eQ P F kvs l->X (.ref a)):X v:=by
 refine qb h.inv λa o kvs u z f i r=>?_;clear h;subst u;exact k z f i r
@[elab_as_elim] theorem bz.I2{lo hi:Int}(h:bz P F v (.It lo hi))(k:∀{a t u w},F a {cls:=.type "range",data:=.fields #[.int lo t,.int hi u,.int 1 w]}->X (.ref a)):X v:=by
 refine u5 h.inv λa t u w z f=>?_;clear h;subst z;exact k f
@[elab_as_elim] theorem bz.IJ{l:List DV}(h:bz P F v (.Hx l))(k:∀{a o z ep},a≠sysModules->F a o->o.ExactDict->o.data= .dict z ep->bA P F (z.toList.map (·.val)) l->X (.ref a)):X v:=by
 refine GD h.inv λa o z ep u I f B J r=>?_;clear h;subst u;exact k I f B J r
@[elab_as_elim] theorem bz.Jc{l:List DV}(h:bz P F v (.vals l))(k:∀{r a o z ep},F r {cls:=.type "dict_values",data:=.fields #[.ref a]}->a≠sysModules->F a o->o.ExactDict->o.data= .dict z ep->bA P F (z.toList.map (·.val)) l->X (.ref r)):X v:=by
 refine FE h.inv λr a o z ep u g I f B J r=>?_;clear h;subst u;exact k g I f B J r
@[elab_as_elim] theorem bz.I8{params:Arguments}{body:Expr}{qual:Str}(h:bz P F v (.lam params body scope qual cl))(k:∀{a c pm ctv oc vs t},F a (kla_obj "<lambda>" qual params body scope cl pm c ctv)->F c oc->oc.data= .fields vs->vs[1]? =some (.str qual t)->X (.ref a)):X v:=by
 refine GK h.inv λa c pm ctv oc vs t u f g B z=>?_;clear h;subst u;exact k f g B z
@[elab_as_elim] theorem bA.HV(h:bA P F vs [])(k:Y []):Y vs:=(congrArg Y h.inv).mpr k
@[elab_as_elim] theorem bA.HE{x:DV}{l:List DV}(h:bA P F vs (x::l))(k:∀{v r},bz P F v x->bA P F r l->Y (v::r)):Y vs:=by
 refine bM h.inv λv r u a b=>?_;clear h;subst u;exact k a b
@[elab_as_elim] theorem bA.one{x:DV}(h:bA P F vs [x])(k:∀{v},bz P F v x->Y [v]):Y vs:=bA.HE (Y:=Y) h λ{v r} a b=>bA.HV (Y:=λr=>Y (v::r)) b<|k a
@[elab_as_elim] theorem bA.two{x y:DV}(h:bA P F vs [x,y])(k:∀{v w},bz P F v x->bz P F w y->Y [v,w]):Y vs:=bA.HE (Y:=Y) h λ{v r} a b=>bA.one (Y:=λr=>Y (v::r)) b λc=>k a c
end
theorem bz.mono{P:Cx}{F F':Fz}(h:∀a o,F a o->F' a o){v:Value}{d:DV}(r:bz P F v d):bz P F' v d:=
 @bz.rec P F (λv d U=>bz P F' v d) (λv d U=>bA P F' v d) (λv d U=>qG P F' v d) (λv d U=>eQ P F' v d) .none .bool .int .str .bytes (λf U r=>.tup (h _ _ f) r) (λf i U r=>.seq (h _ _ f) i r) (λf g U r=>.inst (h _ _ f) (h _ _ g) r) (λu f i U r=>.G7 u (h _ _ f) i r) (λf=>.It<|h _ _ f) (λf g B z=>.lam (h _ _ f) (h _ _ g) B z) (λu f B z U r=>.Hx u (h _ _ f) B z r) (λg u f B z U r=>.vals (h _ _ g) u (h _ _ f) B z r)
  .nil (λU U a b=>.cons a b) .nil (λU U a b=>.cons a b) .nil (λU U a b=>.cons a b) v d r
theorem bA.mono{P:Cx}{F F':Fz}(h:∀a o,F a o->F' a o):∀{d:List DV}{v:List Value},bA P F v d->bA P F' v d:=λ{d}=>by
 induction d with
 |nil=>exact λr=>r.HV .nil
 |cons _ _ u=>exact λr=>r.HE λa b=>.cons (a.mono h)<|u b
theorem qG.ind{P:Cx}{F:Fz}{M:List DictEntry->List (Str×DV)->Prop}(n:M [] [])(c:∀{x t v es d fs},bz P F v d->M es fs->M (⟨PyData.keyHash P.w.params x,.str x t,v⟩::es) ((x,d)::fs)){fs:List (Str×DV)}(r:qG P F es fs):M es fs:=
 @qG.rec P F (λU U U=>True) (λU U U=>True) (λes fs U=>M es fs) (λU U U=>True) trivial (λU=>trivial) (λU U=>trivial) (λU U=>trivial) (λU U=>trivial) (λU U U=>trivial) (λU U U U=>trivial) (λU U U U=>trivial) (λU U U U U=>trivial) (λU=>trivial) (λU U U U=>trivial) (λU U U U U U=>trivial) (λU U U U U U U=>trivial)
  trivial (λU U U U=>trivial) n (λr U U u=>c r u) trivial (λU U U U=>trivial) es fs r
theorem eQ.ind{P:Cx}{F:Fz}{M:List (Int×Value)->List (Int×DV)->Prop}(n:M [] [])(c:∀{k v u d l},bz P F v d->M u l->M ((k,v)::u) ((k,d)::l)){u:List (Int×Value)}{l:List (Int×DV)}(r:eQ P F u l):M u l:=
 @eQ.rec P F (λU U U=>True) (λU U U=>True) (λU U U=>True) (λu l U=>M u l) trivial (λU=>trivial) (λU U=>trivial) (λU U=>trivial) (λU U=>trivial) (λU U U=>trivial) (λU U U U=>trivial) (λU U U U=>trivial) (λU U U U U=>trivial) (λU=>trivial) (λU U U U=>trivial) (λU U U U U U=>trivial) (λU U U U U U U=>trivial)
  trivial (λU U U U=>trivial) trivial (λU U U U=>trivial) n (λr U U z=>c r z) u l r
theorem qG.mono{P:Cx}{F F':Fz}(h:∀a o,F a o->F' a o){v:List DictEntry}{d:List (Str×DV)}(r:qG P F v d):qG P F' v d:=r.ind (M:=qG P F') .nil λa b=>.cons (a.mono h) b
theorem eQ.mono{P:Cx}{F F':Fz}(h:∀a o,F a o->F' a o){v:List (Int×Value)}{d:List (Int×DV)}(r:eQ P F v d):eQ P F' v d:=r.ind (M:=eQ P F') .nil λa b=>.cons (a.mono h) b
inductive Ky where
 |sk (n:Nat)
 |tm (i:Nat)
deriving DecidableEq
inductive PV where
 |d (x:DV)
 |at(k:Ky)
 |tup (l:List PV)
 |val (v:Value)
set_option genInjectivity false in
inductive PO where
 |Ha (l:List DV)
 |HA (l:List DV)
 |G7 (l:List (Int×DV))
 |Hz (o:Obj) (l:List (Int×DV))
 |Hb (a:Addr) (o:Obj)
 |Hx (l:List DV)
 |enum (l:List DV) (i:Nat)
 |IM (a:Addr) (m:Str->Option Value)
 |cellAt (c:Addr) (x:PV)
 |Hh (l:List (Str×PV))
 |inst (C:Addr) (fs:List (Str×PV))
noncomputable def b_x:Bt:=⟨PV,.d .none⟩
noncomputable def oO:((PV)->gK)->gK:=i7 b_x
noncomputable def b_O:Bt:=⟨PO,.Ha []⟩
noncomputable def yG:((PO)->gK)->gK:=i7 b_O
noncomputable def b_k:Bt:=⟨Ky,.sk 0⟩
noncomputable def Au:((Ky)->gK)->gK:=i7 b_k
noncomputable abbrev Pl:=Ky->Option (Addr×Addr)
mutual
inductive aW (P:Cx) (ρ:Pl) (F:Fz):Value->PV->Prop
 |d {v:Value} {x:DV}:bz P F v x->aW P ρ F v (.d x)
 |at{k:Ky} {p:Addr×Addr}:ρ k=some p->aW P ρ F (.ref p.1) (.at k)
 |tup {a:Addr} {vs:List Value} {n:Nat} {l:List PV}:F a (dg vs n)->bQ P ρ F vs l->aW P ρ F (.ref a) (.tup l)
 |val (v:Value):aW P ρ F v (.val v)
inductive bQ (P:Cx) (ρ:Pl) (F:Fz):List Value->List PV->Prop
 |nil:bQ P ρ F [] []
 |cons {v:Value} {vs:List Value} {d:PV} {ds:List PV}:aW P ρ F v d->bQ P ρ F vs ds->bQ P ρ F (v::vs) (d::ds)
end
inductive jd (P:Cx) (ρ:Pl) (F:Fz):List DictEntry->List (Str×PV)->Prop
 |nil:jd P ρ F [] []
 |cons {x:Str} {t:Tok} {v:Value} {es:List DictEntry} {d:PV} {fs:List (Str×PV)}:aW P ρ F v d->jd P ρ F es fs->jd P ρ F (⟨PyData.keyHash P.w.params x,.str x t,v⟩::es) ((x,d)::fs)
section
variable {P:Cx} {ρ:Pl} {F:Fz}
noncomputable def FL(P:Cx)(ρ:Pl)(F:Fz)(v:Value):PV->Prop
 | .d x=>bz P F v x
 | .at k=>∃p,ρ k=some p/\v= .ref p.1
 | .tup l=>∃a vs n,v= .ref a/\F a (dg vs n)/\bQ P ρ F vs l
 | .val w=>v=w
theorem aW.inv{v:Value}{d:PV}(h:aW P ρ F v d):FL P ρ F v d:=
 @aW.casesOn P ρ F (λv d U=>FL P ρ F v d) v d h (λr=>r) (λe=>aD _ e rfl) (λf r=>bH _ _ _ rfl f r) λU=>rfl
theorem bQ.inv{v:List Value}{d:List PV}(h:bQ P ρ F v d):BA (aW P ρ F) (bQ P ρ F) v d:=
 @bQ.casesOn P ρ F (λv d U=>BA (aW P ρ F) (bQ P ρ F) v d) v d h rfl λa b=>bE _ _ rfl a b
variable {X:Value->Prop} {v:Value}
variable {Y:List Value->Prop} {vs:List Value}
@[elab_as_elim] theorem aW.HH(h:aW P ρ F v (.d (.int i)))(k:∀t,X (.int i t)):X v:=(show bz P F v _ from h.inv).HH k
@[elab_as_elim] theorem aW.Id{x:Str}(h:aW P ρ F v (.d (.str x)))(k:∀t,X (.str x t)):X v:=(show bz P F v _ from h.inv).Id k
@[elab_as_elim] theorem aW.H7(h:aW P ρ F v (.d .none))(k:X .none):X v:=(congrArg X (show bz P F v _ from h.inv).inv).mpr k
@[elab_as_elim] theorem aW.I4(h:aW P ρ F v (.d (.bool b)))(k:X (.bool b)):X v:=(congrArg X (show bz P F v _ from h.inv).inv).mpr k
@[elab_as_elim] theorem aW.IF{y:Ky}(h:aW P ρ F v (.at y))(k:∀{p:Addr×Addr},ρ y=some p->X (.ref p.1)):X v:=by
 refine aG h.inv λp e u=>?_;clear h;subst u;exact k e
@[elab_as_elim] theorem aW.Ia{w:Value}(h:aW P ρ F v (.val w))(k:X w):X v:=(congrArg X h.inv).mpr k
@[elab_as_elim] theorem bQ.HV(h:bQ P ρ F vs [])(k:Y []):Y vs:=(congrArg Y h.inv).mpr k
@[elab_as_elim] theorem bQ.HE{x:PV}{l:List PV}(h:bQ P ρ F vs (x::l))(k:∀{v r},aW P ρ F v x->bQ P ρ F r l->Y (v::r)):Y vs:=by
 refine bM h.inv λv r u a b=>?_;clear h;subst u;exact k a b
@[elab_as_elim] theorem bQ.one{x:PV}(h:bQ P ρ F vs [x])(k:∀{v},aW P ρ F v x->Y [v]):Y vs:=bQ.HE (Y:=Y) h λ{v r} a b=>bQ.HV (Y:=λr=>Y (v::r)) b<|k a
@[elab_as_elim] theorem bQ.two{x y:PV}(h:bQ P ρ F vs [x,y])(k:∀{v w},aW P ρ F v x->aW P ρ F w y->Y [v,w]):Y vs:=bQ.HE (Y:=Y) h λ{v r} a b=>bQ.one (Y:=λr=>Y (v::r)) b λc=>k a c
end
theorem aW.mono{P:Cx}{ρ ρ':Pl}{F F':Fz}(u:∀k p,ρ k=some p->ρ' k=some p)(h:∀a o,F a o->F' a o){v:Value}{d:PV}(r:aW P ρ F v d):aW P ρ' F' v d:=
 @aW.rec P ρ F (λv d U=>aW P ρ' F' v d) (λv d U=>bQ P ρ' F' v d) (λr=>.d<|r.mono h) (λe=>.at (u _ _ e)) (λf U r=>.tup (h _ _ f) r) .val .nil (λU U a b=>.cons a b) v d r
theorem bQ.mono{P:Cx}{ρ ρ':Pl}{F F':Fz}(z:∀k p,ρ k=some p->ρ' k=some p)(h:∀a o,F a o->F' a o):∀{d:List PV}{v:List Value},bQ P ρ F v d->bQ P ρ' F' v d
 :=λ{d}=>by
  induction d with
  |nil=>exact λr=>r.HV .nil
  |cons x l u=>exact λr=>r.HE λa b=>.cons (a.mono z h)<|u b
inductive gQ (P:Cx) (ρ:Pl) (F:Fz):List (Str×Value)->List (Str×PV)->Prop
 |nil:gQ P ρ F [] []
 |cons {k:Str} {v:Value} {es:List (Str×Value)} {d:PV} {l:List (Str×PV)}:aW P ρ F v d->gQ P ρ F es l->gQ P ρ F ((k,v)::es) ((k,d)::l)
theorem gQ.mono{P:Cx}{ρ ρ':Pl}{F F':Fz}(z:∀k p,ρ k=some p->ρ' k=some p)(h:∀a o,F a o->F' a o){v:List (Str×Value)}{d:List (Str×PV)}(x:gQ P ρ F v d):gQ P ρ' F' v d:=by
 induction x with
 |nil=>exact .nil
 |cons a _ u=>exact .cons (a.mono z h) u
theorem jd.mono{P:Cx}{ρ ρ':Pl}{F F':Fz}(z:∀k p,ρ k=some p->ρ' k=some p)(h:∀a o,F a o->F' a o){v:List DictEntry}{d:List (Str×PV)}(x:jd P ρ F v d):jd P ρ' F' v d:=by
 induction x with
 |nil=>exact .nil
 |cons a _ u=>exact .cons (a.mono z h) u
noncomputable def c9(C:Cx)(ρ:Pl)(F:Fz)(h:Heap)(p:Addr×Addr):PO->Prop
 | .Ha l=>p.2=p.1/\∃o vs,h.get? p.1=some o/\gd o vs/\bA C F vs l
 | .HA l=>p.2=p.1/\∃o vs,h.get? p.1=some o/\o8 o vs/\bA C F vs l
 | .G7 l=>(p.2=p.1/\p.1≠sysModules)/\∃o kvs,h.get? p.1=some o/\dT (intKind C.prog C.w) o kvs/\eQ C F kvs l
 | .Hz o l=>(p.2=p.1/\p.1≠sysModules)/\h.get? p.1=some o/\∃kvs,dT (intKind C.prog C.w) o kvs/\eQ C F kvs l
 | .Hb a o=>(p.2=p.1/\p.1=a)/\h.get? p.1=some o
 | .Hx l=>(p.2=p.1/\p.1≠sysModules)/\∃o es ep,h.get? p.1=some o/\o.ExactDict/\o.data= .dict es ep/\bA C F (es.toList.map (·.val)) l
 | .enum l i=>p.1≠p.2/\∃ax old o vs,IsEnum h p.1 p.2 i old/\h.IsListIter p.2 ax i/\F ax o/\gd o vs/\bA C F vs l
 | .IM a m=>(p.2=p.1/\p.1=a)/\h.Ns p.1 m
 | .cellAt c x=>(p.2=p.1/\p.1=c)/\∃o v,h.get? p.1=some o/\o.data= .cell (some v)/\aW C ρ F v x
 | .Hh l=>(p.2=p.1/\p.1≠sysModules)/\∃o kvs,h.get? p.1=some o/\dT (strKind C.prog C.w) o kvs/\gQ C ρ F kvs l
 | .inst K fs=>h.get? p.1=some (instObj K p.2)/\∃es n,h.get? p.2=some (dictOf es n)/\jd C ρ F es fs
noncomputable abbrev bR:=Ky->Option PO
structure HR(C:Cx)(ρ:Pl)(F:Fz)(g:bR)(h:Heap):Prop where
 base:∀b o,C.h₀.get? b=some o->F b o
 HC:∀a o,F a o->h.get? a=some o
 obj:∀k o,g k=some o->∃p,ρ k=some p/\c9 C ρ F h p o
 sep:∀k o p a,g k=some o->ρ k=some p->(a=p.1\/a=p.2)->∀o',¬F a o'
 inj:∀k k' o o' p p' a,g k=some o->g k'=some o'->ρ k=some p->ρ k'=some p'->(a=p.1\/a=p.2)->(a=p'.1\/a=p'.2)->k=k'
noncomputable def bY(ρ:Pl)(g:bR)(a:Addr):Prop:=∃k o p,g k=some o/\ρ k=some p/\(a=p.1\/a=p.2)
theorem HR.HT{C:Cx}{ρ:Pl}{F:Fz}{g:bR}(H:HR C ρ F g h)(I:bY ρ g a){o:Obj}:¬F a o:=by
 exact ca I λk o' p z u B=>H.sep k o' p a z u B o
theorem pa{ob:Obj}(e:p.2=p.1)(g:h.get? p.1=some ob)(u:a=p.1\/a=p.2):∃ob,h.get? a=some ob:=
 ⟨ob,(u.elim id λq=>q.trans e)▸g⟩
theorem Gw{u o2:Obj}(z:h.get? p.1=some u)(B:h.get? p.2=some o2)(I:a=p.1\/a=p.2):∃ob,h.get? a=some ob:=
 I.elim (λq=>⟨u,q▸z⟩) λq=>⟨o2,q▸B⟩
theorem c9.has:∀{C ρ F h p o a}(x:c9 C ρ F h p o)(u:a=p.1\/a=p.2),∃ob,h.get? a=some ob:=by
 exists ce λC=>aA λρ=>aA λF=>aA λh=>aA λp=>yG λo=>aA λa=>aO _;intros;cases o with
 |Ha l=>exact x.2.elim λU q=>q.elim λU q=>pa x.1 q.1 u
 |HA l=>exact x.2.elim λU q=>q.elim λU q=>pa x.1 q.1 u
 |G7 l=>exact x.2.elim λU q=>q.elim λU q=>pa x.1.1 q.1 u
 |Hz o l=>exact pa x.1.1 x.2.1 u
 |Hb a o=>exact pa x.1.1 x.2 u
 |Hx l=>exact x.2.elim λU q=>q.elim λU q=>q.elim λU q=>pa x.1.1 q.1 u
 |enum l i=>exact x.2.elim λU q=>q.elim λU q=>q.elim λU q=>q.elim λU q=>q.2.1.elim λU r=>Gw q.1 r.1 u
 |IM a m=>exact x.2.elim λU q=>q.elim λU q=>q.elim λU q=>pa x.1.1 q.1 u
 |cellAt c z=>exact x.2.elim λU q=>q.elim λU q=>pa x.1.1 q.1 u
 |Hh l=>exact x.2.elim λU q=>q.elim λU q=>pa x.1.1 q.1 u
 |inst K fs=>exact x.2.elim λU q=>q.elim λU q=>Gw x.1 q.1 u
theorem HR.here{C:Cx}{ρ:Pl}{F:Fz}{g:bR}(H:HR C ρ F g h){k:Ky}{o:PO}(e:g k=some o)(u:ρ k=some p):c9 C ρ F h p o:=
 (H.obj k o e).elim λz q=>oi (q.1.symm.trans u)▸q.2
theorem HR.HJ{C:Cx}{ρ:Pl}{F:Fz}{g:bR}(H:HR C ρ F g h)(u:bY ρ g a):∃o,h.get? a=some o:=
 u.elim λk q=>q.elim λo q=>q.elim λp q=>(H.here q.1 q.2.1).has q.2.2
theorem c9.mono:∀{C ρ ρ' F F' h h' p o}(B:∀k p,ρ k=some p->ρ' k=some p)(z:∀a o,F a o->F' a o)(hk:∀a,(a=p.1\/a=p.2)->∀I,h.get? a=some I->h'.get? a=some I)(x:c9 C ρ F h p o),c9 C ρ' F' h' p o:=by
 exists ce λC=>aA λρ=>aA λρ'=>aA λF=>aA λF'=>aA λh=>aA λh'=>aA λp=>yG λo=>aO _;intros;have u:=hk p.1<|.inl rfl
 have k2:=hk p.2<|.inr rfl
 cases o with
 |Ha l=>exact x.imp id λq=>q.imp λU q=>q.imp λU q=>⟨u _ q.1,q.2.1,q.2.2.mono z⟩
 |HA l=>exact x.imp id λq=>q.imp λU q=>q.imp λU q=>⟨u _ q.1,q.2.1,q.2.2.mono z⟩
 |G7 l=>exact x.imp id λq=>q.imp λU q=>q.imp λU q=>⟨u _ q.1,q.2.1,q.2.2.mono z⟩
 |Hz o l=>exact x.imp id λq=>⟨u _ q.1,q.2.imp λU q=>⟨q.1,q.2.mono z⟩⟩
 |Hb a o=>exact x.imp id<|u _
 |Hx l=>exact x.imp id λq=>q.imp λU q=>q.imp λU q=>q.imp λU q=>⟨u _ q.1,q.2.1,q.2.2.1,q.2.2.2.mono z⟩
 |enum l i=>exact x.imp id λq=>q.imp λU q=>q.imp λU q=>q.imp λU q=>q.imp λU q=>⟨u _ q.1,q.2.1.imp λU r=>⟨k2 _ r.1,r.2⟩,z _ _ q.2.2.1,q.2.2.2.1,q.2.2.2.2.mono z⟩
 |IM a m=>exact x.imp id λq=>q.imp λU q=>q.imp λU q=>q.imp λU q=>⟨u _ q.1,q.2⟩
 |cellAt c J=>exact x.imp id λq=>q.imp λU q=>q.imp λU q=>⟨u _ q.1,q.2.1,q.2.2.mono B z⟩
 |Hh l=>exact x.imp id λq=>q.imp λU q=>q.imp λU q=>⟨u _ q.1,q.2.1,q.2.2.mono B z⟩
 |inst K fs=>exact⟨u _ x.1,x.2.imp λU q=>q.imp λU q=>⟨k2 _ q.1,q.2.mono B z⟩⟩
set_option genInjectivity false in
structure Fc where
 env:Env
 ns:List Str
 wc:List Str
noncomputable def b_f:Bt:=⟨Fc,⟨default,[],[]⟩⟩
noncomputable def dO:((Fc)->gK)->gK:=i7 b_f
noncomputable def aV(f:Fc)(a:Addr):Prop:=a=f.env.locals\/∃x c,f.env.cells.lookup x=some c/\a=c
noncomputable def bv(f:Fc)(a:Addr):Prop:=a=f.env.locals\/∃x c,x∈f.wc/\f.env.cells.lookup x=some c/\a=c
theorem bv.all{f:Fc}(h:bv f a):aV f a:=h.imp id λ⟨x,c,_,e⟩=>DU x c e
noncomputable def du(P:Cx)(ρ:Pl)(F:Fz)(f:Fc)(m cm:Str->Option Value)(x:Str):Option PV->Prop
 |none=>True
 |some pv=>∃v,aW P ρ F v pv/\((f.env.kindOf x=some .local/\m x=some v)\/((f.env.kindOf x=some .cell\/f.env.kindOf x=some .free)/\(x==("__classdict__":Str))=false/\(∃c,f.env.cells.lookup x=some c)/\cm x=some v))
structure FR(C:Cx)(f:Fc)(ls:List (Option PV))(ρ:Pl)(F:Fz)(g:bR)(h:Heap):Prop where
 kind:f.env.scope.kind= .function
 glob:f.env.globals=mainGlobals
 blt:f.env.builtins=builtinsNs
 nodup:f.ns.Nodup
 frame:f.env.frame.isSome=true
 HF:∃m cm,h.Ns f.env.locals m/\(∀n c,f.env.cells.lookup n=some c->h.IsCell c (cm n))/\∀(i:Nat)(x:Str)(ov:Option PV),f.ns[i]? =some x->ls[i]? =some ov->du C ρ F f m cm x ov
 apart:f.env.cells.Pairwise λx y=>x.2≠y.2
 Ie:∀n c,(n,c)∈f.env.cells->c≠f.env.locals
 Hj:∀a,aV f a->¬bY ρ g a
 HT:∀a,aV f a->∀o,¬F a o
theorem FR.has{C:Cx}{f:Fc}{B:List (Option PV)}{ρ:Pl}{F:Fz}{g:bR}(x:FR C f B ρ F g h)(I:aV f a):∃o,h.get? a=some o:=by
 refine bM x.HF λm J hn z U=>?_;rcases I with rfl|⟨n,c,hl,rfl⟩
 ·exact vf hn λo N ep u U=>⟨o,u⟩
 ·exact aG (z n _ hl) λo u U=>⟨o,u⟩
set_option genInjectivity false in
structure aC where
 ls:List (Option PV)
 G8:List (Option PO)
 mem:Nat->Option (Option PO)
noncomputable def aC.get(σ:aC):bR
 | .sk n=>(σ.mem n).join
 | .tm i=>(σ.G8[i]?).join
noncomputable def b_S:Bt:=⟨aC,⟨[],[],λ_=>none⟩⟩
noncomputable def dR:((aC)->gK)->gK:=i7 b_S
structure At(C:Cx)(f:Fc)(ρ:Pl)(F:Fz)(σ:aC)(h:Heap):Prop where
 H:HR C ρ F σ.get h
 R:FR C f σ.ls ρ F σ.get h
 fin:∀i,σ.G8.length<=i->ρ (.tm i)=none
 HN:∀n,σ.mem n=none->ρ (.sk n)=none
structure bx(X:Addr->Prop)(ρ:Pl)(F:Fz)(g:bR)(h:Heap)(ρ':Pl)(F':Fz)(g':bR)(h':Heap):Prop where
 HD:∀k p,ρ k=some p->ρ' k=some p
 fz:∀a o,F a o->F' a o
 keep:∀a o,h.get? a=some o->¬bY ρ g a->¬X a->h'.get? a=some o
 fresh:∀a,(bY ρ' g' a\/∃o,F' a o)->bY ρ g a\/(∃o,F a o)\/h.get? a=none
theorem bx.refl{X:Addr->Prop}{ρ:Pl}{F:Fz}{g:bR}:bx X ρ F g h ρ F g h:=
 ⟨λU U e=>e,λU U e=>e,λU U e U U=>e,λU e=>e.elim .inl λx=>.inr<|.inl x⟩
theorem bx.trans{X:Addr->Prop}{ρ u B:Pl}{F J U:Fz}{g I S:bR}{N O:Heap}(x:bx X ρ F g h u J I N)(y:bx X u J I N B U S O)
  (W:∀a,bY u I a->∀o,¬J a o) (Z:∀a,X a->∃o,N.get? a=some o):bx X ρ F g h B U S O where
 HD:=λk p e=>y.HD _ _ (x.HD _ _ e)
 fz:=λa o e=>y.fz _ _ (x.fz _ _ e)
 keep:=λa o e n1 n2=>by
  refine y.keep a o (x.keep a o e n1 n2) (λV=>?_) n2;rcases x.fresh a (.inl V) with z|⟨o',z⟩|z
  ·exact n1 z
  ·exact W a V o'<|x.fz _ _ z
  ·rw[z] at e;exact bU e
 fresh :=λa e=>by
  rcases y.fresh a e with z|z|z
  ·exact x.fresh a<|.inl z
  ·exact x.fresh a<|.inr z
  ·by_cases n1:bY ρ g a
   ·exact .inl n1
   ·refine .inr<|.inr ?_
    cases e2:h.get? a with
    |none=>rfl
    | some o=>
     by_cases n2:X a
     ·obtain⟨o',e3⟩:=Z a n2;rw[e3] at z;exact jg z
     ·have:=x.keep a o e2 n1 n2;rw[this] at z;exact jg z
end
variable {C P:Cx}
variable {d:DV}
variable {F F':Fz}
variable {k:Ky}
variable {ds:List (Int×DV)}
variable {T G8:List (Option PO)}
variable {ls:List (Option PV)}
variable {fs:List (Str×PV)}
variable {l:List DV}
variable {xs:List PV}
variable {g:bR}
variable {o po:PO}
variable {x y:PV}
variable {Q:PV->aC->Prop}
variable {ρ ρ':Pl}
variable {σ:aC}
section
set_option genInjectivity false
structure Rm(A:Around)(n:Nat):Prop where
 hh:A.handled=none
 dep:A.depth+2*n<recursionLimit
 un:A.units+8*n+1<cLine
theorem Rm.le{A:Around}{n:Nat}(x:Rm A n)(h:m<=n):Rm A m:=⟨x.hh,by have:=x.dep;exact dD [_,_,_,_] [] 0x103104a006204c08004404412801881 ft h this,by have:=x.un;exact dD [_,_,_,_] [] 0x420a31022801b102604008210508811400d881 ft h this⟩
noncomputable abbrev wh(s:Shared)(h:Heap)(t:Nat):Shared:={s with heap:=h,toks:=t}
noncomputable def aS(C:Cx)(f:Fc){α:Type}(ρ:Pl)(F:Fz)(σ:aC)(s:Shared)(Q:Pl->Fz->α->aC->Prop)(a:α)(s':Shared):Prop:=
 ∃h' tk ρ' F' σ',s'=(wh s h' tk)/\At C f ρ' F' σ' h'/\bx (bv f) ρ F σ.get s.heap ρ' F' σ'.get h'/\Q ρ' F' a σ'
noncomputable abbrev fw(C:Cx)(A:Around)(f:Fc){α:Type}(t:Sem α)(ρ:Pl)(F:Fz)(σ:aC)(s:Shared)(Q:Pl->Fz->α->aC->Prop):Prop:=
 wpAny (model C.prog C.w) A t (aS C f ρ F σ s Q) (λU U=>False) s
section
variable {C:Cx} {A:Around} {f:Fc} {α β:Type} {ρ ρ':Pl} {F F':Fz} {σ σ':aC} {s:Shared} {h h':Heap}
theorem At.HO(x:At C f ρ F σ h)(u:bY ρ σ.get a)(o:Obj):¬F a o:=x.H.HT u
theorem bx.then(x:bx (bv f) ρ F σ.get h ρ' F' σ'.get h')(J:At C f ρ' F' σ' h'){u:Pl}{z:Fz}{B:bR}{h₂:Heap}(y:bx (bv f) ρ' F' σ'.get h' u z B h₂):bx (bv f) ρ F σ.get h u z B h₂:=
 x.trans y (λU I o=>J.HO I o) λU I=>J.R.has I.all
theorem aS.use{Q:Pl->Fz->α->aC->Prop}{R:α->Shared->Prop}{a:α}{s':Shared}(p:aS C f ρ F σ s Q a s')(k:∀h' tk ρ' F' σ',At C f ρ' F' σ' h'->bx (bv f) ρ F σ.get s.heap ρ' F' σ'.get h'->Q ρ' F' a σ'->R a (wh s h' tk)):R a s':=by
 refine G3 p λh' tk ρ' F' σ' u q=>?_;try clear p;subst u;exact k h' tk ρ' F' σ' q.1 q.2.1 q.2.2
theorem aS.after{Q:Pl->Fz->α->aC->Prop}(x:bx (bv f) ρ F σ.get s.heap ρ' F' σ'.get h')(I:At C f ρ' F' σ' h'){a:α}{s':Shared}
  (p:aS C f ρ' F' σ' (wh s h' tk) Q a s'):aS C f ρ F σ s Q a s':=
 p.use (R:=aS C f ρ F σ s Q) λz u ρ2 J σ2 B y q=>bS z u ρ2 J σ2 rfl B (x.then I y) q
theorem fw.use{t:Sem α}{Q:Pl->Fz->α->aC->Prop}{R:α->Shared->Prop}(x:fw C A f t ρ F σ s Q)
  (k:∀a h' tk ρ' F' σ',At C f ρ' F' σ' h'->bx (bv f) ρ F σ.get s.heap ρ' F' σ'.get h'->Q ρ' F' a σ'->R a (wh s h' tk)):wpAny (model C.prog C.w) A t R E s:=
 wpAny_mono x (λa u p=>p.use (R:=R)<|k a) λU U e=>e.elim
theorem fw.go{β:Type}{t:Sem α}{V:Pl->Fz->α->β->Prop}{Q:β->aC->Prop}{R:α->Shared->Prop}(x:fw C A f t ρ F σ s λρ' F' v σ'=>∃y,V ρ' F' v y/\Q y σ')
  (k:∀a h' tk ρ' F' σ' y,At C f ρ' F' σ' h'->bx (bv f) ρ F σ.get s.heap ρ' F' σ'.get h'->V ρ' F' a y->Q y σ'->R a (wh s h' tk)):wpAny (model C.prog C.w) A t R E s:=
 x.use λa h' tk ρ' F' σ' z u q=>q.elim λy q=>k a h' tk ρ' F' σ' y z u q.1 q.2
theorem fw.cont{t:Sem α}{Q:Pl->Fz->α->aC->Prop}(x:bx (bv f) ρ F σ.get s.heap ρ' F' σ'.get h')(u:At C f ρ' F' σ' h')
  (y:fw C A f t ρ' F' σ' (wh s h' tk) Q):wpAny (model C.prog C.w) A t (aS C f ρ F σ s Q) E (wh s h' tk):=
 wpAny_mono y (λU U p=>p.after x u) λU U e=>e.elim
theorem fw.mono{t:Sem α}{Q Q':Pl->Fz->α->aC->Prop}(x:fw C A f t ρ F σ s Q)(k:∀ρ' F' a σ',Q ρ' F' a σ'->Q' ρ' F' a σ'):fw C A f t ρ F σ s Q':=
 wpAny_mono x (λa B p=>p.use (R:=aS C f ρ F σ s Q') λh' tk ρ' F' σ' z u q=>bS h' tk ρ' F' σ' rfl z u<|k _ _ _ _ q) λU U e=>e
theorem aS.same{Q:Pl->Fz->α->aC->Prop}{a:α}(u:At C f ρ F σ s.heap)(q:Q ρ F a σ):aS C f ρ F σ s Q a {s with toks:=tk}:=
 bS s.heap tk ρ F σ rfl u .refl q
theorem HR.grow(H:HR C ρ F g h)(hk:∀b o,h.get? b=some o->h'.get? b=some o):HR C ρ F g h':=
 ⟨H.base,λa o e=>hk _ _<|H.HC a o e,λk o e=>by exact aG (H.obj k o e) λp u r=>aD p u<|r.mono (λU U e=>e) (λU U e=>e) λa U z e=>hk _ _ e,H.sep,H.inj⟩
theorem FR.grow(R:FR C f ls ρ F g h)(hk:∀a,aV f a->∀o,h.get? a=some o->h'.get? a=some o):FR C f ls ρ F g h':=
 by
  refine{R with HF:=?_};exact bM R.HF λm B hn I u=>bE m B (hn.at' λo e=>hk _ (.inl rfl) o e) (λn c e=>by exact aG (I n c e) λo z J=>aD o (hk c (.inr<|dk n c e rfl) o z) J) u
theorem At.grow(x:At C f ρ F σ h)(hk:∀b o,h.get? b=some o->h'.get? b=some o):At C f ρ F σ h':=
 ⟨x.H.grow hk,x.R.grow λa U o e=>hk a o e,x.fin,x.HN⟩
theorem bx.grow{X:Addr->Prop}(hk:∀b o,h.get? b=some o->h'.get? b=some o):bx X ρ F g h ρ F g h':=
 ⟨λU U e=>e,λU U e=>e,λU U e U U=>hk _ _ e,λU e=>e.elim .inl λx=>.inr<|.inl x⟩
theorem aS.grow{Q:Pl->Fz->α->aC->Prop}{a:α}(u:At C f ρ F σ s.heap)(hk:∀b o,s.heap.get? b=some o->h'.get? b=some o)(q:Q ρ F a σ):aS C f ρ F σ s Q a (wh s h' tk):=
 bS h' tk ρ F σ rfl (u.grow hk) (.grow hk) q
noncomputable def b9(F:Fz)(l:List (Addr×Obj)):Fz:=λa o=>F a o\/(a,o)∈l
theorem b9.old{l:List (Addr×Obj)}:∀a o,F a o->b9 F l a o:=λU U e=>.inl e
theorem du.mono{m:Str->Option Value}{x:Str}{ov:Option PV}(z:∀k p,ρ k=some p->ρ' k=some p)(u:∀a o,F a o->F' a o)(y:du P ρ F f m cm x ov):du P ρ' F' f m cm x ov:=by
 cases ov with
 |none=>trivial
 |some pv=>refine aG y λv r q=>?_;exact aD v (r.mono z u) q
theorem HR.more{J:bR}{l:List (Addr×Obj)}(x:HR C ρ F g h)(hk:∀b o,h.get? b=some o->h'.get? b=some o)(u:∀k o,J k=some o->g k=some o)(N:∀p∈l,h'.get? p.1=some p.2/\¬bY ρ J p.1):HR C ρ (b9 F l) J h':=
 ⟨λb o e=>.inl<|x.base b o e,λa o e=>e.elim (λe=>hk _ _<|x.HC a o e) λe=>(N _ e).1,λk o e=>(x.obj k o<|u k o e).imp λp q=>⟨q.1,q.2.mono (λU U e=>e) b9.old λa U W e=>hk _ _ e⟩,
  λk o p a z B S o' I=>I.elim (x.sep k o p a (u k o z) B S o') λI=>(N _ I).2<|bH k o p z B S,λk O o o' p V a z B=>x.inj k O o o' p V a (u k o z)<|u O o' B⟩
theorem At.more{σ2:aC}{l:List (Addr×Obj)}(x:At C f ρ F σ h)(hk:∀b o,h.get? b=some o->h'.get? b=some o)(N:σ2.ls=σ.ls)(u:∀i,σ2.G8.length<=i->σ.G8.length<=i)(hm:∀n,σ2.mem n=none->σ.mem n=none)(O:∀k o,σ2.get k=some o->σ.get k=some o)
  (B:∀p∈l,h'.get? p.1=some p.2/\¬bY ρ σ2.get p.1/\¬aV f p.1):At C f ρ (b9 F l) σ2 h':=by
 refine⟨x.H.more hk O λp e=>⟨(B p e).1,(B p e).2.1⟩,{x.R with HF:=?_,Hj:=λb hb J=>vf J λk o p z I=>x.R.Hj b hb<|rp k o p (O k o z) I,HT:=λa S o e=>e.elim (x.R.HT a S o) λe=>(B _ e).2.2 S},λi e=>x.fin i<|u i e,λn e=>x.HN n<|hm n e⟩;exact bM x.R.HF λm W hn Z V=>bE m W (hn.at' λo e=>hk _ o e) (λn c e=>(Z n c e).imp λo q=>⟨hk c o q.1,q.2⟩)<|λi y ov z I=>(V i y ov z<|N▸I).mono (λU U e=>e) b9.old
theorem At.add(x:At C f ρ F σ h){l:List (Addr×Obj)}(hk:∀b o,h.get? b=some o->h'.get? b=some o)(u:∀p∈l,h'.get? p.1=some p.2/\h.get? p.1=none):At C f ρ (b9 F l) σ h':=
 x.more hk rfl (λU e=>e) (λU e=>e) (λU U e=>e) λp e=>⟨(u p e).1,λq=>(x.H.HJ q).elim λU g=>(nomatch (u p e).2.symm.trans g),λq=>(x.R.has q).elim λU g=>(nomatch (u p e).2.symm.trans g)⟩
theorem bx.add{X:Addr->Prop}{l:List (Addr×Obj)}(hk:∀b o,h.get? b=some o->h'.get? b=some o)(u:∀p∈l,h'.get? p.1=some p.2/\h.get? p.1=none):bx X ρ F g h ρ (b9 F l) g h':=
 ⟨λU U e=>e,b9.old,λU U e U U=>hk _ _ e,λa e=>by
  rcases e with e|⟨o,e|e⟩
  ·exact .inl e
  ·exact .inr<|.inl ⟨o,e⟩
  ·exact .inr<|.inr (u _ e).2⟩
theorem aS.add{Q:Pl->Fz->α->aC->Prop}{a:α}{l:List (Addr×Obj)}(z:At C f ρ F σ s.heap)(hk:∀b o,s.heap.get? b=some o->h'.get? b=some o)(u:∀p∈l,h'.get? p.1=some p.2/\s.heap.get? p.1=none)
  (q:Q ρ (b9 F l) a σ):aS C f ρ F σ s Q a (wh s h' tk):=
 bS h' tk ρ (b9 F l) σ rfl (z.add hk u) (.add hk u) q
theorem aZ(h:Heap):h.get? h.objs.size=none:=by
 cases e:h.get? h.objs.size with
 |none=>rfl
 |some o=>exact absurd (Heap.lt_size e)<|Nat.lt_irrefl _
theorem aS.push{Q:Pl->Fz->α->aC->Prop}{a:α}{o:Obj}(z:At C f ρ F σ s.heap)(u:o.isFreed=false)
  (q:Q ρ (b9 F [(s.heap.objs.size,o)]) a σ):aS C f ρ F σ s Q a (wh s (s.heap.push o) tk):=
 aS.add z (λU U e=>Heap.get?_push_of_some _ e) (λp B=>by refine(ys<|List.mem_singleton.mp B)▸?_;exact⟨Heap.get?_push_size _ u,aZ _⟩) q
end
noncomputable abbrev VQ(C:Cx)(Q:PV->aC->Prop)(ρ:Pl)(F:Fz)(v:Value)(σ:aC):Prop:=∃x,aW C ρ F v x/\Q x σ
noncomputable abbrev LQ(C:Cx)(Q:List PV->aC->Prop)(ρ:Pl)(F:Fz)(v:List Value)(σ:aC):Prop:=∃x,bQ C ρ F v x/\Q x σ
noncomputable def Ev(C:Cx)(A:Around)(f:Fc)(e:Expr)(σ:aC)(Q:PV->aC->Prop):Prop:=
 ∀ρ F s,At C f ρ F σ s.heap->fw C A f (eval e f.env) ρ F σ s (VQ C Q)
noncomputable def jo(C:Cx)(A:Around)(f:Fc)(pos:Pos)(es:List Expr)(σ:aC)(Q:List PV->aC->Prop):Prop:=
 ∀ρ F s,At C f ρ F σ s.heap->fw C A f (spliced (backTo pos (starEach es f.env))) ρ F σ s (LQ C Q)
noncomputable def Tt(C:Cx)(A:Around)(f:Fc)(e:Expr)(σ:aC)(Q:Bool->aC->Prop):Prop:=
 ∀ρ F s,At C f ρ F σ s.heap->fw C A f (isTrue e f.env (eval e f.env)) ρ F σ s (λU U b σ'=>Q b σ')
noncomputable def zX(C:Cx)(A:Around)(f:Fc)(op:BoolOp)(es:List Expr)(σ:aC)(Q:Bool->aC->Prop):Prop:=
 ∀ρ F s,At C f ρ F σ s.heap->fw C A f (allTrue op es f.env) ρ F σ s (λU U b σ'=>Q b σ')
noncomputable def qL(C:Cx)(A:Around)(f:Fc)(x:PV)(σ:aC)(Q:Bool->aC->Prop):Prop:=
 ∀ρ F s v,At C f ρ F σ s.heap->aW C ρ F v x->fw C A f (truthy v) ρ F σ s (λU U b σ'=>Q b σ')
noncomputable def uX(C:Cx)(A:Around)(f:Fc)(t:Value->Sem Value)(x:PV)(σ:aC)(Q:PV->aC->Prop):Prop:=
 ∀ρ F s a,At C f ρ F σ s.heap->aW C ρ F a x->fw C A f (t a) ρ F σ s (VQ C Q)
noncomputable def cO(C:Cx)(A:Around)(f:Fc)(t:Value->Value->Sem Value)(x y:PV)(σ:aC)(Q:PV->aC->Prop):Prop:=
 ∀ρ F s a b,At C f ρ F σ s.heap->aW C ρ F a x->aW C ρ F b y->fw C A f (t a b) ρ F σ s (VQ C Q)
noncomputable def As(C:Cx)(A:Around)(f:Fc)(t:Value->Sem Unit)(x:PV)(σ:aC)(Q:aC->Prop):Prop:=
 ∀ρ F s a,At C f ρ F σ s.heap->aW C ρ F a x->fw C A f (t a) ρ F σ s (λU U U σ'=>Q σ')
inductive Fl where
 |next|brk|cont
 |ret (x:PV)
noncomputable def p8(P:Cx)(ρ:Pl)(F:Fz):Flow->Fl->Prop
 | .next,.next=>True
 | .brk,.brk=>True
 | .cont,.cont=>True
 | .ret v,.ret x=>aW P ρ F v x
 |_,_=>False
@[elab_as_elim] theorem p8.view{ρ:Pl}{F:Fz}{X:Flow->Fl->Prop}:∀{a:Flow}{b:Fl},p8 P ρ F a b->X .next .next->X .brk .brk->X .cont .cont->(∀v x,aW P ρ F v x->X (.ret v) (.ret x))->X a b
 | .next,b,h,n,_,_,_=>by cases b<;>first|exact n|exact(show False from h).elim
 | .brk,b,h,_,n,_,_=>by cases b<;>first|exact n|exact(show False from h).elim
 | .cont,b,h,_,_,n,_=>by cases b<;>first|exact n|exact(show False from h).elim
 | .ret v,b,h,_,_,_,r=>by cases b<;>first|exact r _ _ h|exact(show False from h).elim
noncomputable abbrev FQ(C:Cx)(Q:Fl->aC->Prop)(ρ:Pl)(F:Fz)(v:Flow)(σ:aC):Prop:=∃x,p8 C ρ F v x/\Q x σ
noncomputable def Ex(C:Cx)(A:Around)(f:Fc)(st:Stmt)(σ:aC)(Q:Fl->aC->Prop):Prop:=
 ∀ρ F s,At C f ρ F σ s.heap->fw C A f (exec st f.env) ρ F σ s (FQ C Q)
noncomputable def fA(C:Cx)(A:Around)(f:Fc)(st:List Stmt)(σ:aC)(Q:Fl->aC->Prop):Prop:=
 ∀ρ F s,At C f ρ F σ s.heap->fw C A f (execs st f.env) ρ F σ s (FQ C Q)
section
variable {C:Cx} {A:Around} {f:Fc} {σ:aC}
theorem aW.step{ρ ρ':Pl}{F F':Fz}{X:Addr->Prop}{z:bR}{h h':Heap}{v:Value}(r:aW P ρ F v x)(u:bx X ρ F g h ρ' F' z h'):aW P ρ' F' v x:=r.mono u.HD u.fz
theorem bQ.step{ρ ρ':Pl}{F F':Fz}{X:Addr->Prop}{z:bR}{h h':Heap}{v:List Value}{x:List PV}(r:bQ P ρ F v x)(u:bx X ρ F g h ρ' F' z h'):bQ P ρ' F' v x:=r.mono u.HD u.fz
theorem Ev.mono{Q':PV->aC->Prop}(x:Ev C A f e σ Q)(k:∀v σ',Q v σ'->Q' v σ'):Ev C A f e σ Q':=λρ F s a=>(x ρ F s a).mono λ_ _ _ _ u=>aG u λpv r q=>aD pv r<|k _ _ q
theorem fA.mono{e:List Stmt}{Q Q':Fl->aC->Prop}(x:fA C A f e σ Q)(k:∀v σ',Q v σ'->Q' v σ'):fA C A f e σ Q':=λρ F s a=>(x ρ F s a).mono λ_ _ _ _ u=>aG u λpv r q=>aD pv r<|k _ _ q
theorem yD{k:Nat}{pos:Pos}(q:Q (.d (.int i)) σ):Ev C A f (.Constant (.int i) k pos) σ Q:=
 λρ F s a=>wpAny_Constant_int<|aS.same a<|aD _ (.d<|.int _ _) q
theorem Dt{x:Str}{k:Nat}{pos:Pos}(q:Q (.d (.str x)) σ):Ev C A f (.Constant (.str x) k pos) σ Q:=
 λρ F s a=>wpAny_Constant_str<|aS.same a<|aD _ (.d<|.str _ _) q
theorem oE{k:Nat}{pos:Pos}(q:Q (.d .none) σ):Ev C A f (.Constant .none k pos) σ Q:=
 λρ F s a=>wpAny_Constant_none<|aS.same (tk:=s.toks) a<|aD _ (.d .none) q
theorem Be{k:Nat}{pos:Pos}(q:Q (.d (.bool b)) σ):Ev C A f (.Constant (.bool b) k pos) σ Q:=
 λρ F s a=>wpAny_Constant_bool<|aS.same (tk:=s.toks) a<|aD _ (.d<|.bool b) q
theorem xK{b:List UInt8}{k:Nat}{pos:Pos}(q:Q (.d (.bytes b.toArray)) σ):Ev C A f (.Constant (.bytes b) k pos) σ Q:=
 λρ F s a=>by
  show wpAny _ _ (do return Value.bytes b.toArray (<-fresh)) _ _ _;exact wpAny_bind<|wpAny_fresh<|wpAny_pure<|aS.same a<|aD _ (.d<|.bytes _ _) q
theorem du.load{ρ:Pl}{F:Fz}{m:Str->Option Value}{x:Str}{pv:PV}{s:Shared}{M:Model}{Q:Value->Shared->Prop}(hk:f.env.scope.kind= .function)
  (hn:s.heap.Ns f.env.locals m) (I:∀n c,f.env.cells.lookup n=some c->s.heap.IsCell c (cm n)) (y:du P ρ F f m cm x (some pv)) (q:∀v,aW P ρ F v pv->Q v s):wpAny M A (loadName f.env x) Q E s:=by
 obtain⟨v,r,⟨u,z⟩|⟨u,J,⟨c,B⟩,z⟩⟩:=y
 ·exact wpAny_loadName_local hk u hn z<|q v r
 ·rcases u with u|u
  ·exact wpAny_loadName_cell hk u B (z▸I _ _ B)<|q v r
  ·exact wpAny_loadName_free hk u B (z▸I _ _ B) (q v r) J
theorem lF{x:Str}{pos:Pos}{i:Nat}{pv:PV}(hi:f.ns[i]? =some x)(z:σ.ls[i]? =some (some pv))(q:Q pv σ)
  (I:(x==("__debug__":Str))=false):Ev C A f (.Name x pos) σ Q:=λρ F s a=>by
 refine bM a.R.HF λm J hn B u=>wpAny_Name ((u i x _ hi z).load a.R.kind hn B λv r=>?_) I;exact aS.same (tk:=s.toks) a<|aD pv r q
end
end
section
set_option genInjectivity false
noncomputable def wf(K:Frag)(a:Addr):Option FuncData:=match K.lookup a with
 |some ⟨_,_,.func fd,_⟩=>some fd
 |_=>none
structure Gd(C:Cx):Prop where
 X:C.K.In C.h₀
 lim:C.h₀.NoLimit
 code:∀a fd,wf C.K a=some fd->C.h₀.CodeRec fd.code fd.qualname
 top:∃(p:Program) (loose:List Str) (mg mb:Str->Option Value),TopRead p loose mg mb C.h₀
section
variable {C:Cx} {A:Around} {f:Fc} {σ:aC}
theorem HR.Hv(H:HR C ρ F g h):∀b o,C.h₀.get? b=some o->h.get? b=some o:=λb o e=>H.HC _ _<|H.base b o e
theorem At.Hv(a:At C f ρ F σ h):∀b o,C.h₀.get? b=some o->h.get? b=some o:=a.H.Hv
theorem Gd.at(G:Gd C)(a:At C f ρ F σ h):C.K.In h:=G.X.keeps a.Hv
theorem lC(G:Gd C){x:Str}{pos:Pos}{v:Value}{pv:PV}(e:nsIn C.K mainGlobals x=some (some v))(z:f.env.kindOf x=some .globalImplicit)
  (B:∀ρ F,(∀b o,C.h₀.get? b=some o->F b o)->aW C ρ F v pv) (I:(x==("__debug__":Str))=false) (q:Q pv σ):Ev C A f (.Name x pos) σ Q:=λρ F s a=>by
 refine x0 G.top λp u mg J T=>Calls.Name_function_global a.R.kind z (Calls.loadGlobal_global (env:=f.env) (by refine(ys a.R.glob)▸?_;exact T.g.keeps a.Hv) (mg_of G.X T.g e) ?_) I;exact aS.same (tk:=s.toks) a<|aD pv (B ρ F a.H.base) q
theorem CA(G:Gd C){x:Str}{pos:Pos}{v:Value}(e:nsIn C.K mainGlobals x=some none)(I:bootBuiltins x=some v)(hn:x≠"__name__")(z:f.env.kindOf x=some .globalImplicit)
  (B:(x==("__debug__":Str))=false) (q:Q (.val v) σ):Ev C A f (.Name x pos) σ Q:=λρ F s a=>by
 refine x0 G.top λp u mg J T=>Calls.Name_function_global a.R.kind z (Calls.loadGlobal_builtin (env:=f.env) (by refine(ys a.R.glob)▸?_;exact T.g.keeps a.Hv) (mg_none_of G.X T.g e) (by refine(ys a.R.blt)▸?_;exact T.b.keeps a.Hv) ((T.builtins x hn).trans I) ?_) B;exact aS.same (tk:=s.toks) a<|aD _ (.val v) q
theorem Fh{l r:Expr}{op:Operator}{pos:Pos}(h:Ev C A f l σ λx σ1=>Ev C A f r σ1 λy σ2=>cO C A f (binaryOp op) x y σ2 Q):Ev C A f (.BinOp l op r pos) σ Q:=λρ F s a=>
 wpAny_BinOp ((h ρ F s a).go λV h1 W B F1 σ1 x J z O Z=>(Z B F1 _ J).go λN h2 aa ρ2 F2 σ2 y I u S U=>(U ρ2 F2 _ V N I (O.step u) S).cont (z.then J u) I)
theorem EG{l r:Expr}{op:CmpOp}{pos:Pos}(h:Ev C A f l σ λx σ1=>Ev C A f r σ1 λy σ2=>cO C A f (compareOp op) x y σ2 Q)(hm:behindInMarks op r=false:=by with_unfolding_all rfl):Ev C A f (.Compare l [op] [r] pos) σ Q:=λρ F s a=>
 wpAny_Compare1 ((h ρ F s a).go λV h1 W B F1 σ1 x J z O Z=>(Z B F1 _ J).go λN h2 aa ρ2 F2 σ2 y I u S U=>(U ρ2 F2 _ V N I (O.step u) S).cont (z.then J u) I) hm
theorem Ed{l r:Expr}{op:CmpOp}{pos:Pos}{Q:Bool->aC->Prop}(h:Ev C A f l σ λx σ1=>Ev C A f r σ1 λy σ2=>cO C A f (compareOp op) x y σ2 λz B=>qL C A f z B Q)(hm:behindInMarks op r=false:=by with_unfolding_all rfl):
  Tt C A f (.Compare l [op] [r] pos) σ Q:=by
 exact λρ F s a=>
  wpAny_isTrue_Compare1 ((h ρ F s a).go λv1 h1 aa J F1 σ1 x S I W hr=>(hr J F1 _ S).go λV h2 ab ρ2 F2 σ2 y U u ry ho=>
   (ho ρ2 F2 _ v1 V U (W.step u) ry).go λv3 h3 ad N Z B z a3 O rz ht=>(ht N Z _ v3 a3 rz).cont ((I.then S u).then U O) a3) hm
theorem vU{l N J:Expr}{I B:CmpOp}{pos:Pos}(h:Ev C A f l σ λx σ1=>Ev C A f N σ1 λy σ2=>cO C A f (compareOp I) x y σ2 λz ab=>
   qL C A f z ab λb O=>if b=true then Ev C A f J O λu V=>cO C A f (compareOp B) y u V Q else Q z O)(hm:lastMarks [I,B] [N,J]=false:=by with_unfolding_all rfl):
  Ev C A f (.Compare l [I,B] [N,J] pos) σ Q:=by
 revert Q C A f σ l N J I B pos;exists aA λQ=>ce λC=>cx λA=>dO λf=>dR λσ=>aA λl=>aA λN=>aA λJ=>aA λI=>aA λB=>aA λpos=>aO _;intros;exact λρ F s a=>by
  refine Compare_chain ((h ρ F s a).go λv1 h1 aj ag F1 σ1 x a1 ae rx hr=>chain_link ?_) hm;refine(hr ag F1 _ a1).go λv2 h2 ak ρ2 F2 σ2 y a2 U ry ho=>(ho ρ2 F2 _ v1 v2 a2 (rx.step U) ry).go λv3 h3 am ah F3 ab z a3 aa rz ht=>
   (ht ah F3 _ v3 a3 rz).use λb h4 ai Z F4 O a4 S hb=>?_
  have st:=((ae.then a1 U).then a2 aa).then a3 S
  cases b with
  |false=>exact bS h4 ai Z F4 O rfl a4 st<|aD z (rz.step S) hb
  |true=>exact chain_last<|(hb Z F4 _ a4).go λv5 h5 al af F5 V u a5 W ru ad=>(ad af F5 _ v2 v5 a5 (((ry.step aa).step S).step W) ru).cont (st.then a4 W) a5
theorem vG{l N J:Expr}{I B:CmpOp}{pos:Pos}{Q:Bool->aC->Prop}(h:Ev C A f l σ λx σ1=>Ev C A f N σ1 λy σ2=>cO C A f (compareOp I) x y σ2 λz ab=>
   qL C A f z ab λb O=>if b=true then Ev C A f J O λu V=>cO C A f (compareOp B) y u V λt U=>qL C A f t U Q else Q false O)(hm:lastMarks [I,B] [N,J]=false:=by with_unfolding_all rfl):
  Tt C A f (.Compare l [I,B] [N,J] pos) σ Q:=by
 revert C A f σ l N J I B pos Q;exists ce λC=>cx λA=>dO λf=>dR λσ=>aA λl=>aA λN=>aA λJ=>aA λI=>aA λB=>aA λpos=>aA λQ=>aO _;intros;exact λρ F s a=>by
  refine isTrue_chain ((h ρ F s a).go λv1 h1 am aj F1 σ1 x a1 af rx hr=>test_link ?_) hm;refine(hr aj F1 _ a1).go λv2 h2 ao ρ2 F2 σ2 y a2 S ry ho=>(ho ρ2 F2 _ v1 v2 a2 (rx.step S) ry).go λv3 h3 aq ak F3 ab z a3 aa rz ht=>
   (ht ak F3 _ v3 a3 rz).use λb h4 al Z F4 O a4 ad hb=>?_
  have st:=((af.then a1 S).then a2 aa).then a3 ad
  cases b with
  |false=>exact bS h4 al Z F4 O rfl a4 st hb
  |true=>exact test_last ((hb Z F4 _ a4).go λv5 h5 ap ai F5 V u a5 W ru ae=>(ae ai F5 _ v2 v5 a5 (((ry.step aa).step ad).step W) ru).go λv6 h6 an ah F6 U t a6 ag rt hT=>
    (hT ah F6 _ v6 a6 rt).cont ((st.then a4 W).then a5 ag) a6)
theorem Gy{op:UnaryOp}{x:Expr}{pos:Pos}(h:Ev C A f x σ λy σ1=>uX C A f (unaryOp op) y σ1 Q):Ev C A f (.UnaryOp op x pos) σ Q:=λρ F s a=>
 wpAny_UnaryOp ((h ρ F s a).go λJ U N z S σ1 x B u I O=>(O z S _ J B I).cont u B)
theorem Dj{t b:Expr}{pos:Pos}(h:Tt C A f t σ λc σ1=>if c=true then Ev C A f b σ1 Q else Ev C A f e σ1 Q):Ev C A f (.IfExp t b e pos) σ Q:=λρ F s a=>
 wpAny_IfExp ((h ρ F s a).use λc O N z J σ1 B u I=>by
  cases c with
  |true=>exact(I z J _ B).cont u B
  |false=>exact(I z J _ B).cont u B)
theorem Bv:∀{C A f σ x y pos Q}(h:Ev C A f x σ λv σ1=>qL C A f v σ1 λb σ2=>if b=true then Ev C A f y σ2 Q else Q v σ2),Ev C A f (.BoolOp .And [x,y] pos) σ Q:=by
 intro C A f σ x y pos Q h;exact λρ F s a=>
  wpAny_And2 ((h ρ F s a).go λV h1 Z N F1 σ1 x J z O hr=>(hr N F1 _ V J O).use λb W I ρ2 S σ2 B u U=>by
   cases b with
   |true=>exact(U ρ2 S _ B).cont (z.then J u) B
   |false=>exact bS W I ρ2 S σ2 rfl B (z.then J u)<|aD x (O.step u) U)
theorem Dn:∀{C A f σ x y pos Q}(h:Ev C A f x σ λv σ1=>qL C A f v σ1 λb σ2=>if b=true then Q v σ2 else Ev C A f y σ2 Q),Ev C A f (.BoolOp .Or [x,y] pos) σ Q:=by
 intro C A f σ x y pos Q h;exact λρ F s a=>
  wpAny_Or2 ((h ρ F s a).go λV h1 Z N F1 σ1 x J z O hr=>(hr N F1 _ V J O).use λb W I ρ2 S σ2 B u U=>by
   cases b with
   |false=>exact(U ρ2 S _ B).cont (z.then J u) B
   |true=>exact bS W I ρ2 S σ2 rfl B (z.then J u)<|aD x (O.step u) U)
theorem pq:∀{C A f σ x y z pos Q}(h:Ev C A f x σ λv σ1=>qL C A f v σ1 λb σ2=>b=true/\Q v σ2),Ev C A f (.BoolOp .Or [x,y,z] pos) σ Q:=by
 intro C A f σ x y z pos Q h;exact λρ F s a=>by
  show wpAny _ _ (do
   let v<-eval x f.env
   standAt pos
   let t<-holding [v] (truthy v)
   match BoolOp.Or,t with
   | .And,false| .Or,true=>pure v
   |_,_=>boolOp pos .Or [eval y f.env,eval z f.env]) _ _ _
  refine wpAny_bind<|(h ρ F s a).go λW h1 aa N F1 σ1 x S B O hr=>wpAny_bind<|wpAny_standAt<|wpAny_bind<|wpAny_holding<|(hr N F1 _ W S O).use λb Z J ρ2 F2 σ2 a2 u U=>?_
  refine aL U λI V=>?_;try clear U;subst I;exact wpAny_pure<|bS Z J ρ2 F2 σ2 rfl a2 (B.then S u)<|aD x (O.step u) V
theorem CX{x:Expr}{pos:Pos}{Q:Bool->aC->Prop}(h:Tt C A f x σ λb σ1=>Q (!b) σ1):Tt C A f (.UnaryOp .Not x pos) σ Q:=λρ F s a=>
 wpAny_isTrue_Not ((h ρ F s a).use λb O z B J σ1 N u I=>bS O z B J σ1 rfl N u I)
theorem Ac{op:BoolOp}{vs:List Expr}{pos:Pos}{Q:Bool->aC->Prop}(h:zX C A f op vs σ Q):Tt C A f (.BoolOp op vs pos) σ Q:=λρ F s a=>wpAny_isTrue_BoolOp<|h ρ F s a
theorem qt{Q:Bool->aC->Prop}(h:Q true σ):zX C A f .And [] σ Q:=λρ F s a=>wpAny_allTrue_And_nil<|aS.same (tk:=s.toks) a h
theorem sX{Q:Bool->aC->Prop}(h:Q false σ):zX C A f .Or [] σ Q:=λρ F s a=>wpAny_allTrue_Or_nil<|aS.same (tk:=s.toks) a h
theorem BC:∀{C A f σ x vs Q}(h:Tt C A f x σ λb σ1=>if b=true then zX C A f .And vs σ1 Q else Q false σ1),zX C A f .And (x::vs) σ Q:=by
 intro C A f σ x vs Q h;exact λρ F s a=>
  wpAny_allTrue_And_cons ((h ρ F s a).use λb O B z N σ1 I u J=>by
   cases b with
   |true=>exact(J z N _ I).cont u I
   |false=>exact bS O B z N σ1 rfl I u J)
theorem Du:∀{C A f σ x vs Q}(h:Tt C A f x σ λb σ1=>if b=true then Q true σ1 else zX C A f .Or vs σ1 Q),zX C A f .Or (x::vs) σ Q:=by
 intro C A f σ x vs Q h;exact λρ F s a=>
  wpAny_allTrue_Or_cons ((h ρ F s a).use λb O B z N σ1 I u J=>by
   cases b with
   |false=>exact(J z N _ I).cont u I
   |true=>exact bS O B z N σ1 rfl I u J)
theorem CW{Q:Bool->aC->Prop}(h:Ev C A f e σ λv σ1=>qL C A f v σ1 Q)(U:isTrue e f.env (eval e f.env)=(do let v<-eval e f.env;standAt e.pos;holding [v] (truthy v)):=by rfl):Tt C A f e σ Q:=λρ F s a=>
 wpAny_isTrue_value ((h ρ F s a).go λN V O z J σ1 x B u I S=>(S z J _ N B I).cont u B) U
theorem rW{Q:Bool->aC->Prop}(h:Q b σ):qL C A f (.d (.bool b)) σ Q:=λρ F s v a r=>by
 exact r.I4<|wpAny_truthy_bool<|aS.same (tk:=s.toks) a h
theorem z7{Q:Bool->aC->Prop}(h:Q (i !=0) σ):qL C A f (.d (.int i)) σ Q:=λρ F s v a r=>by
 exact r.HH λt=>truthy_int<|aS.same (tk:=s.toks) a h
theorem yC{Q:Bool->aC->Prop}(h:Q false σ):qL C A f (.d .none) σ Q:=λρ F s v a r=>by
 exact r.H7<|truthy_none<|aS.same (tk:=s.toks) a h
theorem fL{t:Value->Value->Sem Value}{j:Int}(q:Q (.d d) σ)(h:∀{R:Value->Shared->Prop}{E:Value->Shared->Prop}{s:Shared}(a b:Tok),(∀v tk,(∀F,bz C F v d)->R v {s with toks:=tk})->wpAny (model C.prog C.w) A (t (.int i a) (.int j b)) R E s):cO C A f t (.d (.int i)) (.d (.int j)) σ Q:=λρ F s a b x r1 r2=>by
 exact r1.HH λt=>r2.HH λu=>h t u λv tk r=>aS.same x<|aD _ (.d<|r F) q
theorem Dv{j:Int}(h:Q (.d (.int (i+j))) σ):cO C A f (binaryOp .Add) (.d (.int i)) (.d (.int j)) σ Q:=fL h λa b k=>add_int<|k _ _ λU=>.int _ _
theorem DI{j:Int}(h:Q (.d (.int (i-j))) σ):cO C A f (binaryOp .Sub) (.d (.int i)) (.d (.int j)) σ Q:=fL h λa b k=>sub_int<|k _ _ λU=>.int _ _
theorem EP{j:Int}(h:Q (.d (.int (i*j))) σ)(u:IntMulOk i j):cO C A f (binaryOp .Mult) (.d (.int i)) (.d (.int j)) σ Q:=fL h λa b k=>mul_int (k _ _ λU=>.int _ _) u
theorem EZ{j:Int}(u:j≠0)(h:Q (.d (.int (i.fmod j))) σ):cO C A f (binaryOp .Mod) (.d (.int i)) (.d (.int j)) σ Q:=fL h λa b k=>mod_int u<|k _ _ λU=>.int _ _
theorem Eb{j:Int}(z:j≠0)(u:Builtin.divisionGoesByPylong i j=false)(h:Q (.d (.int (i.fdiv j))) σ):cO C A f (binaryOp .FloorDiv) (.d (.int i)) (.d (.int j)) σ Q:=fL h λa b k=>floordiv_int z (k _ _ λU=>.int _ _)<|.inl u
theorem Dz{j:Int}(hn:0<=j)(u:j<=1000000)(z:i.natAbs<2^64)(h:Q (.d (.int (i^j.toNat))) σ):cO C A f (binaryOp .Pow) (.d (.int i)) (.d (.int j)) σ Q:=fL h λa b k=>pow_int_small hn u z<|k _ _ λU=>.int _ _
theorem Fi(h:Q (.d (.int (-i))) σ):uX C A f (unaryOp .USub) (.d (.int i)) σ Q:=λρ F s a x u=>by
 refine u.HH λt=>?_;with_reducible exact neg_int<|aS.same x<|aD _ (.d<|.int _ _) h
theorem GH{j:Int}(h:Q (.d (.bool (decide (i<j)))) σ):cO C A f (compareOp .Lt) (.d (.int i)) (.d (.int j)) σ Q:=fL h λa b k=>lt_int<|k _ _ λU=>.bool _
theorem FZ{j:Int}(h:Q (.d (.bool (decide (j<i)))) σ):cO C A f (compareOp .Gt) (.d (.int i)) (.d (.int j)) σ Q:=fL h λa b k=>gt_int<|k _ _ λU=>.bool _
theorem Gk{j:Int}(h:Q (.d (.bool (decide (i<=j)))) σ):cO C A f (compareOp .LtE) (.d (.int i)) (.d (.int j)) σ Q:=fL h λa b k=>le_int<|k _ _ λU=>.bool _
theorem FN{j:Int}(h:Q (.d (.bool (decide (j<=i)))) σ):cO C A f (compareOp .GtE) (.d (.int i)) (.d (.int j)) σ Q:=fL h λa b k=>ge_int<|k _ _ λU=>.bool _
theorem yL{j:Int}(h:Q (.d (.bool (i==j))) σ):cO C A f (compareOp .Eq) (.d (.int i)) (.d (.int j)) σ Q:=fL h λa b k=>eq_int<|k _ _ λU=>.bool _
theorem ym{j:Int}(h:Q (.d (.bool (i !=j))) σ):cO C A f (compareOp .NotEq) (.d (.int i)) (.d (.int j)) σ Q:=fL h λa b k=>ne_int<|k _ _ λU=>.bool _
theorem Er{x y:Str}(h:Q (.d (.bool (x==y))) σ):cO C A f (compareOp .Eq) (.d (.str x)) (.d (.str y)) σ Q:=λρ F s a b z B I=>by
 refine B.Id λt=>I.Id λu=>?_;with_reducible exact eq_str<|aS.same (tk:=s.toks) z<|aD _ (.d<|.bool _) h
theorem CV{x y:Str}(h:Q (.d (.bool (x !=y))) σ):cO C A f (compareOp .NotEq) (.d (.str x)) (.d (.str y)) σ Q:=λρ F s a b z B I=>by
 refine B.Id λt=>I.Id λu=>?_;with_reducible exact ne_str<|aS.same (tk:=s.toks) z<|aD _ (.d<|.bool _) h
noncomputable def PV.isNone:PV->Bool
 | .d .none=>true
 | .val v=>v== .none
 |_=>false
theorem aW.isNone{v:Value}(r:aW P ρ F v x):(v==Value.none)=x.isNone:=
 @aW.casesOn P ρ F (λv x U=>(v==Value.none)=x.isNone) v x r (λr=> @bz.casesOn P F (λv x U=>(v==Value.none)=PV.isNone (.d x)) _ _ r rfl (λU=>rfl) (λU U=>rfl) (λU U=>rfl) (λU U=>rfl) (λU U=>rfl) (λU U U=>rfl) (λU U U=>rfl) (λU U U U=>rfl) (λU=>rfl) (λU U U U=>rfl) (λU U U U U=>rfl)<|λU U U U U U=>rfl) (λU=>rfl) (λU U=>rfl) λU=>rfl
theorem vh(h:Q (.d (.bool x.isNone)) σ):cO C A f (compareOp .Is) x (.d .none) σ Q:=λρ F s a b z u B=>by
 exact B.H7<|is_none (aS.same (tk:=s.toks) z<|aD _ (.d<|.bool _)<|by refine(ys u.isNone)▸?_;exact h)
theorem pJ(h:Q (.d (.bool (!x.isNone))) σ):cO C A f (compareOp .IsNot) x (.d .none) σ Q:=λρ F s a b z u B=>by
 exact B.H7<|isNot_none (aS.same (tk:=s.toks) z<|aD _ (.d<|.bool _)<|by refine(ys u.isNone)▸?_;exact h)
theorem ER(h:qL C A f x σ λb σ1=>Q (.d (.bool (!b))) σ1):uX C A f (unaryOp .Not) x σ Q:=λρ F s a z J=>
 not_value ((h ρ F s a z J).use λb U B I O σ1 S u N=>bS U B I O σ1 rfl S u<|aD _ (.d<|.bool _) N)
theorem da{pos:Pos}{Q:List PV->aC->Prop}(q:Q [] σ):jo C A f pos [] σ Q:=λρ F s a=>wpAny_items_nil<|aS.same (tk:=s.toks) a<|aD [] .nil q
theorem fi{pos:Pos}{z:List Expr}{Q:List PV->aC->Prop}(h:Ev C A f e σ λx σ1=>jo C A f pos z σ1 λxs σ2=>Q (x::xs) σ2)
  (Z:starEach (e::z) f.env=(false,eval e f.env)::starEach z f.env:=by rfl):jo C A f pos (e::z) σ Q:=λρ F s a=>
 wpAny_items_cons ((h ρ F s a).go λv1 h1 V N F1 σ1 x O B S W=>(W N F1 _ O).go λv2 h2 I ρ2 F2 σ2 xs a2 u J U=>bS h2 I ρ2 F2 σ2 rfl a2 (B.then O u)<|aD (x::xs) (.cons (S.step u) J) U) Z
noncomputable def mh :List PV->Option (List DV)
 |[]=>some []
 | .d x::r=>(mh r).map (x:: ·)
 |_::_=>none
theorem bQ.dvs{ds:List DV}(h:bQ P ρ F vs xs)(e:mh xs=some ds):bA P F vs ds:=by
 induction xs generalizing vs ds with
 |nil=>exact oi e▸h.HV .nil
 | cons x r z=>
  cases x with
  |d x=>exact aG (Option.map_eq_some_iff.mp<|show(mh r).map (x:: ·)=_ from e) λds B u=>u▸h.HE λa b=>.cons a.inv<|z b B
  |_=>exact bU e
theorem bQ.length:∀{xs vs},bQ P ρ F vs xs->vs.length=xs.length
 |[],_,h=>h.HV rfl
 |_::_,_,h=>h.HE λU b=>congrArg (· +1) b.length
theorem bA.length:∀{xs vs},bA P F vs xs->vs.length=xs.length
 |[],_,h=>h.HV rfl
 |_::_,_,h=>h.HE λU b=>congrArg (· +1) b.length
noncomputable def zh(l:List PV):PV:=match mh l with|some ds=>.d (.tup ds)|none=>.tup l
theorem y4{S:List Expr}{k:Nat}{pos:Pos}(h:jo C A f pos S σ λxs σ1=>xs.length<=1000/\Q (zh xs) σ1):Ev C A f (.Tuple S k pos) σ Q:=λρ F s a=>
 wpAny_Tuple ((h ρ F s a).use λvs N z aa Z σ1 V J I=>cj I λxs B W u=>by
  refine⟨by refine(ys B.length)▸?_;exact Nat.le_trans W (by decide),?_⟩;refine aS.after (tk:=z) J V<|aS.push (s:=(wh s N z)) V rfl ?_
  have O:b9 Z [(N.objs.size,dg vs 0)] N.objs.size (dg vs 0):=.inr<|.head _
  unfold zh at u;cases e:mh xs with
  |some ds=>rw[e] at u;exact aD _ (.d<|.tup O<|(B.dvs e).mono b9.old) u
  |none=>rw[e] at u;exact aD _ (.tup O<|B.mono (λU U e=>e) b9.old) u)
theorem lQ{O:List Expr}{pos:Pos}(h:jo C A f pos O σ λxs σ1=>xs.length<=1000/\∃J,mh xs=some J/\Q (.d (.seq J)) σ1):Ev C A f (.List O pos) σ Q:=λρ F s a=>
 wpAny_List ((h ρ F s a).use λvs Z u W F1 σ1 S I z=>cj z λxs N V B=>aG B λJ e U=>by
  refine⟨by refine(ys N.length)▸?_;exact Nat.le_trans V (by decide),?_⟩;refine aS.after (tk:=u) I S<|aS.push (s:=(wh s Z u)) S rfl ?_
  exact aD _ (.d<|.seq (vs:=vs) (.inr<|.head _) ⟨0,rfl⟩<|(N.dvs e).mono b9.old) U)
end
end
section
noncomputable def aC.put(σ:aC):Ky->PO->aC
 | .sk n,o=>{σ with mem:=λk=>if k=n then some (some o) else σ.mem k}
 | .tm i,o=>{σ with G8:=σ.G8.set i (some o)}
theorem vX{z u:Type}{P:z->u->Prop}{R:Prop}(h:∃a b,P a b)(k:∀a b,P a b->R):R:=h.elim λa h=>h.elim λb h=>k a b h
theorem D9{B u z:Type}{P:B->u->z->Prop}{R:Prop}(h:∃a b c,P a b c)(k:∀a b c,P a b c->R):R:=h.elim λa h=>vX h λb c h=>k a b c h
theorem ex4{I z B u:Type}{P:I->z->B->u->Prop}{R:Prop}(h:∃a b c d,P a b c d)(k:∀a b c d,P a b c d->R):R:=h.elim λa h=>D9 h λb c d h=>k a b c d h
theorem ex5{u z J B I:Type}{P:u->z->J->B->I->Prop}{R:Prop}(h:∃a b c d e,P a b c d e)(k:∀a b c d e,P a b c d e->R):R:=h.elim λa h=>ex4 h λb c d e h=>k a b c d e h
theorem qI{a c d:Bool}(h:(a&&b&&c&&d)=true):a=true/\b=true/\c=true/\d=true:=by
 cases a<;>cases b<;>cases c<;>cases d<;>first|exact⟨rfl,rfl,rfl,rfl⟩|exact jn h
theorem AO{a c:Bool}(h:(a&&b&&c)=true):a=true/\b=true/\c=true:=(qI (a:=true) h).2
theorem ki{a:Bool}(h:(a&&b)=true):a=true/\b=true:=(AO (a:=true) h).2
section
variable {C:Cx} {A:Around} {f:Fc} {σ:aC}
theorem gA{o':PO}(h:σ.get k=some o):(σ.put k o').get k=some o':=by
 cases k with
 |sk n=>simp[aC.put,aC.get]
 | tm i=>
  simp only[aC.get] at h;have hi:i<σ.G8.length:=by
   cases e:σ.G8[i]? with
   |none=>rw[e] at h;exact bU h
   |some x=>exact(List.getElem?_eq_some_iff.mp e).1
  simp[aC.put,aC.get,hi]
theorem d8{k':Ky}{o':PO}(h:k'≠k):(σ.put k o').get k'=σ.get k':=by
 cases k with
 | sk n=>cases k' with
  |sk m=>simp only[aC.put,aC.get];rw[if_neg (by rintro rfl;exact h rfl)]
  |tm j=>rfl
 | tm i=>cases k' with
  |sk m=>rfl
  | tm j=>
   simp only[aC.put,aC.get];rw[List.getElem?_set];rw[if_neg];rintro rfl;exact h rfl
theorem tD:(σ.put k o).ls=σ.ls:=by cases k<;>rfl
theorem uD:(σ.put k o).G8.length=σ.G8.length:=by cases k<;>simp[aC.put]
theorem rO{n:Nat}(h:(σ.put k o).mem n=none):σ.mem n=none:=by
 cases k with
 | sk m=>
  simp only[aC.put] at h
  split at h
  ·exact jg h
  ·exact h
 |tm i=>exact h
theorem gp:∀{σ:aC}{ρ:Pl}{k:Ky}{o o':PO}{a:Addr}(h:σ.get k=some o),bY ρ (σ.put k o').get a↔bY ρ σ.get a:=by
 intro σ ρ k o o' a h;constructor
 ·intro z;refine ca z λu N p B I J=>?_
  by_cases q:u=k
  ·clear z B;subst q;exact bH u o p h I J
  ·rw[d8 q] at B;exact bH u N p B I J
 ·intro O;refine ca O λu N p B I J=>?_
  by_cases q:u=k
  ·subst q;exact bH u o' p (gA h) I J
  ·exact bH u N p (by rw[d8 q];exact B) I J
theorem At.upd:∀{C f σ ρ F h h' k o o' p a}(x:At C f ρ F σ h)(N:σ.get k=some o)(hp:ρ k=some p)(ha:a=p.1\/a=p.2)(hk:∀b I,b≠a->h.get? b=some I->h'.get? b=some I)(r:c9 C ρ F h' p o'),At C f ρ F (σ.put k o') h':=by
 intro C f σ ρ F h h' k o o' p a x N hp ha hk r;have B:bY ρ σ.get a:=bH k o p N hp ha;have key:∀u z,(σ.put k o').get u=some z->∃o2,σ.get u=some o2:=λu z e=>by
  by_cases q:u=k
  ·exact⟨o,q▸N⟩
  ·rw[d8 q] at e;exact⟨z,e⟩
 refine⟨⟨x.H.base,λb I e=>hk b I (λq=>x.HO B I<|q▸e)<|x.H.HC b I e,?_,?_,?_⟩,?_,λi hi=>x.fin i (by rw[uD] at hi;exact hi),λn hn=>x.HN n<|rO hn⟩
 ·intro u z e
  by_cases q:u=k
  ·clear key;subst q;rw[gA N] at e;(have J:=oi e;clear e;subst J);exact aD p hp r
  ·rw[d8 q] at e;exact aG (x.H.obj u z e) λZ O r'=>aD Z O<|r'.mono (λU U e=>e) (λU U e=>e) λb W I S=>hk b I (λq2=>q<|x.H.inj u k z o Z p b e N O hp W<|q2▸ha) S
 ·intro u z Z b O S e3;exact aP (key u z O) λo2 e4=>x.H.sep u o2 Z b e4 S e3
 ·intro k1 k2 z o2 p1 p2 b O S e3 e4 e5 e6;exact aP (key k1 z O) λo3 e7=>aP (key k2 o2 S) λo4 e8=>x.H.inj k1 k2 o3 o4 p1 p2 b e7 e8 e3 e4 e5 e6
 ·have R:=x.R;have V:∀b,aV f b->b≠a:=λb W q=>R.Hj b W<|q▸B
  refine{R with HF:=?_,Hj:=λb W ho=>R.Hj b W ((gp N).mp ho)};refine bM R.HF λm cm hn hc hs=>bE m cm (hn.at' λo e=>hk _ o (V _<|.inl rfl) e) (λn c e=>by refine aG (hc n c e) λo ho hd=>?_;exact aD o (hk c o (V c<|.inr<|dk n c e rfl) ho) hd) ?_;refine(ys tD)▸?_;exact hs
theorem bx.upd{X:Addr->Prop}{o':PO}(z:σ.get k=some o)(B:ρ k=some p)(I:a=p.1\/a=p.2)
  (hk:∀b u,b≠a->h.get? b=some u->h'.get? b=some u):bx X ρ F σ.get h ρ F (σ.put k o').get h':=
 ⟨λU U e=>e,λU U e=>e,λb u e n1 n2=>hk b u (λq=>n1<|bH k o p z B<|q▸I) e,λb e=>by
  rcases e with e|e
  ·exact .inl<|(gp z).mp e
  ·exact .inr<|.inl e⟩
theorem aS.upd{I:Type}{Q:Pl->Fz->I->aC->Prop}{y:I}(x:At C f ρ F σ s.heap){o':PO}(u:σ.get k=some o)(z:ρ k=some p)(J:a=p.1\/a=p.2)
  (hk:∀b B,b≠a->s.heap.get? b=some B->h'.get? b=some B) (r:c9 C ρ F h' p o') (q:Q ρ F y (σ.put k o')):aS C f ρ F σ s Q y (wh s h' tk):=
 bS h' tk ρ F _ rfl (x.upd u z J hk r) (.upd u z J hk) q
set_option tactic.hygienic true in
theorem jd.get:∀{P ρ F I fs name pv}(x:jd P ρ F I fs)(e:fs.lookup name=some pv),∃v,getL name I=some (some v)/\aW P ρ F v pv:=by
 intro P ρ F I fs name pv x e
 induction x with
 |nil=>exact bU e
 | cons r _ N=>
  rename_i y t v J d U _
  rw[List.lookup_cons] at e;unfold getL;refine(ys List.find?_cons)▸?_;have q:(Value.str y t).isStr name=(name==y):=by show(y==name)=_;exact BEq.comm
  refine(ys q)▸?_;cases O:name==y with
  |true=>rw[O] at e;(have z:=oi e;clear e;clear N;subst z);exact aD v rfl r
  | false=>
   rw[O] at e;refine aG (N e) λu B V=>aD u ?_ V;unfold getL at B;cases S:List.find? (λx=>x.key.isStr name) J with
   |some en=>rw[S] at B;exact B
   |none=>rw[S] at B;dsimp only at B;split at B<;>simp at B
set_option tactic.hygienic true in
theorem jd.miss(x:jd P ρ F es fs)(e:fs.lookup name=none):getL name es=some none:=by
 have z:es.find? (λx=>x.key.isStr name)=none:=by
  induction x with
  |nil=>rfl
  | cons r _ u=>
   rename_i y t v N d I _
   rw[List.lookup_cons] at e;refine(ys List.find?_cons)▸?_;have q:(Value.str y t).isStr name=(name==y):=by show(y==name)=_;exact BEq.comm
   refine(ys q)▸?_;cases B:name==y with
   |true=>rw[B] at e;exact jg e
   |false=>rw[B] at e;exact u e
 have J:es.any (·.refKey)=false:=by
  clear z e
  induction x with
  |nil=>rfl
  |cons r _ u=>refine(ys List.any_cons)▸(ys u)▸?_;rfl
 unfold getL;refine(ys z)▸(ys J)▸?_;rfl
noncomputable def ku(name:Str)(x:PV):List (Str×PV)->List (Str×PV)
 |[]=>[(name,x)]
 |(y,z)::r=>if y==name then(y,x)::r else(y,z)::ku name x r
set_option tactic.hygienic true in
theorem jd.put(x:jd P ρ F es fs){tk:Tok}{v:Value}{pv:PV}(r:aW P ρ F v pv):
  jd P ρ F (putL name (PyData.keyHash P.w.params name) (.str name tk) v es) (ku name pv fs):=by
 induction x with
 |nil=>exact .cons r .nil
 | cons B rs u=>
  rename_i y t J I d z
  unfold putL ku;show jd P ρ F (if(y==name)=true then _ else _) _;cases N:y==name with
  |true=>exact .cons r rs
  |false=>exact .cons B u
theorem jd.length(x:jd P ρ F es fs):es.length=fs.length:=by
 induction x with
 |nil=>rfl
 |cons _ _ u=>exact(ys List.length_cons)▸(ys List.length_cons)▸(ys u)▸rfl
theorem qG.toP{fs:List (Str×DV)}(r:qG P F es fs):jd P ρ F es (fs.map λp=>(p.1,PV.d p.2)):=r.ind (M:=λes fs=>jd P ρ F es<|fs.map λp=>(p.1,PV.d p.2)) .nil λr u=>.cons (.d r) u
noncomputable def PV.handed:PV->Bool
 | .val v=>handedIn v
 |_=>true
theorem bz.handed{v:Value}(r:bz P F v d):handedIn v=true:=
 @bz.casesOn P F (λv U U=>handedIn v=true) v d r rfl (λU=>rfl) (λU U=>rfl) (λU U=>rfl) (λU U=>rfl) (λU U=>rfl) (λU U U=>rfl) (λU U U=>rfl) (λU U U U=>rfl) (λU=>rfl) (λU U U U=>rfl) (λU U U U U=>rfl) (λU U U U U U=>rfl)
theorem aW.handed{v:Value}(r:aW P ρ F v x)(h:x.handed=true):handedIn v=true:=
 @aW.casesOn P ρ F (λv x U=>x.handed=true->handedIn v=true) v x r (λr U=>r.handed) (λU U=>rfl) (λU U U=>rfl) (λv h=>h) h
noncomputable def fO(K:Frag)(D:Addr)(name:Str):Bool:=plainGet K D name&&hasDictIn K D&&(match findIn K (.ref D) name with|some a=>noGet K a|none=>false)
theorem gx{X:C.K.In s.heap}{x u:Addr}{n:Nat}{v:Value}{Q:Value->Shared->Prop}{ex:Bool}(z:fO C.K D name=true)
  (N:s.heap.get? x=some (instObj D u)) (I:s.heap.get? u=some (dictOf es n)) (B:getL name es=some (some v)) (J:handedIn v=true) (h:Q v {s with toks:=s.toks+1}):
  wpAny (model C.prog C.w) A (getAttr (.ref x) name ex) Q E s:=by
 have o:=AO z;cases e:findIn C.K (.ref D) name with
 |none=>cases(show(match findIn C.K (.ref D) name with|some a=>noGet C.K a|none=>false)=true from o.2.2).symm.trans (by rw[e])
 | some a=>
  have O:noGet C.K a=true:=(show _=(match findIn C.K (.ref D) name with|some a=>noGet C.K a|none=>false) by rw[e]).trans o.2.2;exact get_value X (od:=some<|dictOf es n) ⟨N,rfl,rfl,I⟩ (plainGet_of o.1).1 (findObj_own o.2.1 e O<|by rw[lookIn_dict];exact B) J h
theorem At.Ig(a:At C f ρ F σ h){v:Value}(B:σ.get k=some (.inst D fs))(r:aW C ρ F v (.at k)){X:Value->Prop}
  (c:∀p u n,ρ k=some p->h.get? p.1=some (instObj D p.2)->h.get? p.2=some (dictOf u n)->jd C ρ F u fs->X (.ref p.1)):X v:=
 r.IF λ{p} e=>(a.H.obj k _ B).elim λI q=>oi (q.1.symm.trans e)▸vX q.2.2 λu n z=>c I u n q.1 q.2.1 z.1 z.2
theorem ud(G:Gd C){pv:PV}{ex:Bool}(z:σ.get k=some (.inst D fs))(I:fs.lookup name=some pv)(B:fO C.K D name=true)(N:pv.handed=true)(q:Q pv σ):
  uX C A f (λv=>getAttr v name ex) (.at k) σ Q:=λρ F s a x r=>by
 exact x.Ig (X:=λa=>fw C A f (getAttr a name ex) ρ F σ s _) z r λp U n S O J r=>(r.get I).elim λv u=>gx (X:=G.at x) B O J u.1 (u.2.handed N)<|aS.same x<|aD pv u.2 q
theorem Ee{fs:List (Str×DV)}{u:DV}(h:fs.lookup name=some u):(fs.map λp=>(p.1,PV.d p.2)).lookup name=some (.d u):=by
 induction fs with
 |nil=>exact bU h
 | cons p fs B=>
  rw[List.lookup_cons] at h;rw[List.map_cons,List.lookup_cons];cases z:name==p.1 with
  |true=>rw[z] at h;exact congrArg (λo=>o.map PV.d) h
  |false=>rw[z] at h;exact B h
theorem yS(G:Gd C){fs:List (Str×DV)}{z:DV}{ex:Bool}(J:fs.lookup name=some z)(B:fO C.K D name=true)(q:Q (.d z) σ):
  uX C A f (λv=>getAttr v name ex) (.d (.inst D fs)) σ Q:=λρ F s a x r=>by
 exact(show bz C F a _ from r.inv).Ig (X:=λa=>fw C A f (getAttr a name ex) ρ F σ s _) λN I r=>((r.toP (ρ:=ρ)).get<|Ee J).elim λv u=>gx (X:=G.at x) B (x.H.HC _ _ N) (x.H.HC _ _ I) u.1 (u.2.handed rfl)<|aS.same x<|aD _ u.2 q
theorem Ay{u:Expr}{z:Str}{pos:Pos}(h:Ev C A f u σ λx σ1=>uX C A f (λv=>getAttr v z true) x σ1 Q)
  (V:eval (.Attribute u z pos) f.env=(do
   let o<-eval u f.env
   standAt pos.atName
   let r<-holding [o] (getAttr o z true)
   letTemporaryGo u o r
   pure r):=by with_unfolding_all rfl):Ev C A f (.Attribute u z pos) σ Q:=λρ F s a=>
 Attribute_any_ ((h ρ F s a).go λO Z S I W σ1 x J B N U=>(U I W _ O J N).cont B J) V
noncomputable def eY(K:Frag)(D:Addr)(name:Str):Bool:=findIn K (.ref D) "__setattr__"==some (some (.builtin "object.__setattr__"))&&plainOver K D&&(takerIn K D name==some none)&&hasDictIn K D
set_option tactic.hygienic true in
theorem nQ:∀{C:Cx}{A:Around}{R:Result->Shared->Prop}{x dx D:Addr}{es:List DictEntry}{n:Nat}{name:Str}{tk:Tok}{v:Value}{s:Shared}(X:C.K.In s.heap)(h1:s.heap.get? x=some (instObj D dx))(h2:s.heap.get? dx=some (dictOf es n))(hp:plainOver C.K D=true)(ht:takerIn C.K D name=some none)(hh:hasDictIn C.K D=true)(hl:(getL name es).isSome=true)(hz:(putL name (PyData.keyHash C.w.params name) (.str name s.toks) v es).length<=1000)(h:∀h',h'.get? dx=some (dictOf (putL name (PyData.keyHash C.w.params name) (.str name s.toks) v es) (putN name es n))->Heap.SameBut dx s.heap h'->R (.ok (.ret .none)) (wh s h' (s.toks+1))),codeAny (model C.prog C.w) A (.call (.builtin "object.__setattr__") ⟨[.ref x,.str name tk,v],[]⟩) R s:=by
 exists ce λC=>cx λA=>aA λR=>aA λx=>aA λdx=>aA λD=>aA λes=>aA λn=>aA λname=>aA λtk=>aA λv=>eu λs=>aO _;intro C A R x dx D es n name tk v s X h1 h2 hp ht hh hl hz h;have I:InstAt s.heap x (instObj D dx) D (some<|dictOf es n):=⟨h1,rfl,rfl,h2⟩
 refine osa_open X I hp ht λb=>aG (any_some hh) λcd hc hd=>?_;have D':(s.heap.update dx<|Obj.putName name (PyData.keyHash C.w.params name) (.str name s.toks) v).get? dx=some (dictOf (putL name (PyData.keyHash C.w.params name) (.str name s.toks) v es)<|putN name es n):=by
  rw[<-putName_dict];exact Heap.get?_update_self _ h2 (by rw[putName_dict];rfl)
 refine wpAny_bind<|wpAny_pure<|wpAny_bind<|wpAny_bind<|wpAny_loadPart h1<|wpAny_bind<|(looks_clsIn X hc).here ?_
 refine(ys hd)▸?_;refine wpAny_pure (a:=some dx)<|wpAny_bind<|wpAny_pure<|wpAny_bind ?_
 unfold nsSet;refine wpAny_bind<|wpAny_bind<|wpAny_askSetting<|wpAny_pure<|wpAny_bind<|wpAny_mkText<|wpAny_bind<|wpAny_loadPart h2 ?_
 have c:(!es.toArray.any (·.key.isStr name)&&es.toArray.any (·.refKey))=false:=by
  unfold getL at hl;refine Array.any_toList▸Array.any_toList▸?_
  split at hl
  ·rename_i en he
   refine(ys<|List.any_eq_true.mpr<|aD en (List.mem_of_find?_eq_some he)<|List.find?_some he)▸?_;rfl
  ·split at hl
   ·exact jn hl
   ·rename_i z;rw[Bool.not_eq_true] at z;rw[show es.toArray.toList=es from rfl,z,Bool.and_false]
 dsimp only;rw[aRefKeyMayBeTheName_at,c];refine wpAny_updatePart h2<|wpAny_bind (wpAny_lookBehind D' (pastItsLine_dict<|by refine(ys List.size_toArray)▸(ys sizeLine_eq)▸?_;exact bw [_] [] 0x3e8290000305400000194c0001 ft hz) ?_);exact wpAny_pure<|h _ D'<|Heap.SameBut.update ..
theorem jd.isSome(x:jd P ρ F es fs)(name:Str):(getL name es).isSome=true:=by
 cases e:fs.lookup name with
 |some pv=>refine aG (x.get e) λv h U=>?_;refine(ys h)▸?_;rfl
 |none=>refine(ys<|x.miss e)▸?_;rfl
theorem kF(fs:List (Str×PV)):(ku name x fs).length<=fs.length+1:=by
 induction fs with
 |nil=>simp[ku]
 |cons p fs u=>obtain⟨y,z⟩:=p;unfold ku;split<;>simp<;>omega
theorem BR:∀{C:Cx}{A:Around}{f:Fc}{σ:aC}{o:Expr}{u:Str}{pos:Pos}{x:PV}{Q:aC->Prop}(G:Gd C)(h:Ev C A f o σ λy σ1=>∃k D fs,y= .at k/\σ1.get k=some (.inst D fs)/\fs.length<=500/\eY C.K D u=true/\Q (σ1.put k (.inst D (ku u x fs)))),As C A f (λv=>assign (.Attribute o u pos) f.env v) x σ Q:=by
 intro C A f σ o u pos x Q G h;exact λρ F s a z r=>by
  show wpAny _ _ (do
   let ov<-holding [a] (eval o f.env)
   standAt pos.atName
   holding [a,ov] (setAttr ov u a)
   release [a,ov] []) _ _ _
  refine wpAny_bind<|wpAny_holding<|(h ρ F s z).go λO W I aa F1 σ1 y N B ry q=>?_
  refine D9 q λk D fs q=>?_;have V:=q.2.1;refine N.Ig (X:=λO=>wpAny _ _ (do
   standAt pos.atName
   holding [a,O] (setAttr O u a)
   release [a,O] []) _ _ _) V (q.1▸ry) λp es n e J S U=>?_
  have o:=qI q.2.2.2.1;refine wpAny_bind<|wpAny_standAt<|wpAny_bind<|wpAny_holding ?_
  refine set_plain (G.at N) (od:=some<|dictOf es n) ⟨J,rfl,rfl,S⟩ (eq_of_beq o.1)<|nQ (s:=(wh s W<|I+1)) (G.at N) J S o.2.1 (eq_of_beq o.2.2.1) o.2.2.2 (U.isSome _) ?_ λh' d' Z=>?_
  ·exact Nat.le_trans (Nat.le_of_eq (U.put (name:=u)<|r.step B).length) (Nat.le_trans (kF fs)<|Nat.le_trans (Nat.succ_le_succ q.2.2.1)<|by decide)
  ·refine wpAny_release'<|aS.after (tk:=I) B N ?_
   exact aS.upd (o':=.inst D<|ku u x fs) (s:=(wh s W I)) N V e (.inr rfl) (λb ob hb eb=>Z.extBut b ob hb eb) (⟨Z.extBut _ _ (λq=>by rw[q] at J;cases J.symm.trans S) J,dk _ _ d'<|U.put<|r.step B⟩) q.2.2.2.2
theorem HR.IA:∀{C ρ ρ2 F g O h V K po p}(H:HR C ρ F g h)(hk:∀b o,h.get? b=some o->V.get? b=some o)(hg:∀k o,O k=some o->(k=K/\o=po)\/(k≠K/\g k=some o))(hp:ρ2 K=some p)(h1:∀k,k≠K->ρ2 k=ρ k)(J:∀k q,ρ k=some q->ρ2 k=some q)(hn:∀a,(a=p.1\/a=p.2)->¬bY ρ g a/\∀o,¬F a o)(r:c9 C ρ2 F V p po),HR C ρ2 F O V/\(∀a,bY ρ2 O a->(a=p.1\/a=p.2)\/bY ρ g a):=by
 intro C ρ ρ2 F g O h V K po p H hk hg hp h1 J hn r;have u:∀k o q a,O k=some o->ρ2 k=some q->(a=q.1\/a=q.2)->(k=K/\(a=p.1\/a=p.2))\/(g k=some o/\ρ k=some q):=λk o q a I z B=>by
  rcases hg k o I with⟨rfl,_⟩|⟨hk,e⟩
  ·exact .inl ⟨rfl,oi (z.symm.trans hp)▸B⟩
  ·exact .inr ⟨e,(h1 k hk).symm.trans z⟩
 refine⟨⟨H.base,λa o e=>hk _ _<|H.HC a o e,λk o e=>?_,λk o q a I z B o' hF=>?_,λk Z o1 o2 q S a I z B e4 e5 W=>?_⟩,λa aa=>ca aa λk o q I z B=>?_⟩
 ·rcases hg k o e with⟨rfl,rfl⟩|⟨_,N⟩
  ·exact aD p hp r
  ·exact(H.obj k o N).imp λq s=>⟨J _ _ s.1,s.2.mono J (λU U e=>e) λa U ob e=>hk _ _ e⟩
 ·rcases u k o q a I z B with⟨_,e⟩|⟨e,N⟩
  ·exact(hn a e).2 o' hF
  ·exact H.sep k o q a e N B o' hF
 ·rcases u k o1 q a I B e5 with⟨rfl,e⟩|⟨e,N⟩
  ·rcases u Z o2 S a z e4 W with⟨rfl,_⟩|⟨f,f'⟩
   ·rfl
   ·exact((hn a e).1<|bH Z o2 S f f' W).elim
  ·rcases u Z o2 S a z e4 W with⟨rfl,f⟩|⟨f,f'⟩
   ·exact((hn a f).1<|bH k o1 q e N e5).elim
   ·exact H.inj k Z o1 o2 q S a e f N f' e5 W
 ·exact(u k o q a I z B).imp (·.2) λe=>bH k o q e.1 e.2 B
noncomputable def dM(ρ:Pl)(F:Fz)(σ:aC)(f:Fc)(b:Addr):Prop:=¬bY ρ σ.get b/\(∀o,¬F b o)/\¬aV f b
theorem At.HQ(a:At C f ρ F σ h){b:Addr}(e:h.get? b=none):dM ρ F σ f b:=
 ⟨λq=>(a.H.HJ q).elim λU g=>(nomatch e.symm.trans g),λo q=>(nomatch e.symm.trans (a.H.HC b o q)),λq=>(a.R.has q).elim λU g=>(nomatch e.symm.trans g)⟩
theorem At.IA{ρ2:Pl}{σ2:aC}{J:Heap}{K:Ky}(a:At C f ρ F σ h)(hk:∀b o,h.get? b=some o->J.get? b=some o)(N:σ2.ls=σ.ls)(V:∀k o,σ2.get k=some o->(k=K/\o=po)\/(k≠K/\σ.get k=some o))(hp:ρ2 K=some p)(O:∀k,k≠K->ρ2 k=ρ k)
  (B:∀k q,ρ k=some q->ρ2 k=some q) (hn:∀b,(b=p.1\/b=p.2)->dM ρ F σ f b) (r:c9 C ρ2 F J p po) (z:∀i,σ2.G8.length<=i->σ.G8.length<=i/\Ky.tm i≠K) (u:∀n,σ2.mem n=none->σ.mem n=none/\Ky.sk n≠K):
  At C f ρ2 F σ2 J/\(∀a,bY ρ2 σ2.get a->(a=p.1\/a=p.2)\/bY ρ σ.get a):=by
 have A:=a.H.IA hk V hp O B (λb e=>⟨(hn b e).1,(hn b e).2.1⟩) r;refine⟨⟨A.1,{a.R with HF:=?_,Hj:=λb S Z=>(A.2 b Z).elim (λe=>(hn b e).2.2 S) (a.R.Hj b S)},λi e=>(O _ (z i e).2).trans<|a.fin i (z i e).1,λn e=>(O _ (u n e).2).trans<|a.HN n (u n e).1⟩,A.2⟩;exact bM a.R.HF λm cm I hc W=>bE m cm (I.at' λo e=>hk _ o e) (λn c e=>(hc n c e).imp λo q=>⟨hk c o q.1,q.2⟩)<|λi y ov e1 e2=>(W i y ov e1<|N▸e2).mono B<|λU U e=>e
noncomputable def fm(ρ:Pl)(K:Ky)(p:Addr×Addr):Pl:=λk=>if k=K then some p else ρ k
theorem l9{K:Ky}(h:ρ K=none)(k:Ky)(q:Addr×Addr)(e:ρ k=some q):fm ρ K p k=some q:=(if_neg λu=>by rw[u,h] at e;exact bU e).trans e
theorem At.Ip{σ σ':aC}{pp:Addr×Addr}{hN:Heap}{X:Addr->Prop}(a:At C f ρ F σ h)(hk:∀b N,h.get? b=some N->hN.get? b=some N)(hn:∀b,(b=pp.1\/b=pp.2)->h.get? b=none)(S:ρ k=none)(r:c9 C ρ F hN pp po)(O:σ'.ls=σ.ls)(z:∀u,σ'.get u=if u=k then some po else σ.get u)
  (I:∀i,σ'.G8.length<=i->σ.G8.length<=i/\Ky.tm i≠k) (B:∀n,σ'.mem n=none->σ.mem n=none/\Ky.sk n≠k):At C f (fm ρ k pp) F σ' hN/\bx X ρ F σ.get h (fm ρ k pp) F σ'.get hN:=by
 have J:=l9 (p:=pp) S;have A:=a.IA (ρ2:=fm ρ k pp) (σ2:=σ') (po:=po) hk O (λu o e=>by
  by_cases q:u=k
  ·exact .inl ⟨q,(oi<|(if_pos q).symm.trans<|(z u).symm.trans e).symm⟩
  ·exact .inr ⟨q,(if_neg q).symm.trans<|(z u).symm.trans e⟩) (if_pos rfl) (λu e=>if_neg e) J (λb e=>a.HQ<|hn b e) (r.mono J (λU U e=>e) λU U U e=>e) I B
 exact⟨A.1,J,λU U e=>e,λb N e U U=>hk _ _ e,λb e=>e.elim (λo=>(A.2 b o).elim (λe=>.inr<|.inr<|hn b e) .inl) λe=>.inr<|.inl e⟩
theorem aS.IS{S:Type}{σ σ':aC}{Q:Pl->Fz->S->aC->Prop}{y:S}{pp:Addr×Addr}{hN:Heap}(a:At C f ρ F σ s.heap)(hk:∀b O,s.heap.get? b=some O->hN.get? b=some O)(hn:∀b,(b=pp.1\/b=pp.2)->s.heap.get? b=none)(N:ρ k=none)
  (r:c9 C ρ F hN pp po) (J:σ'.ls=σ.ls) (z:∀I,σ'.get I=if I=k then some po else σ.get I) (B:∀i,σ'.G8.length<=i->σ.G8.length<=i/\Ky.tm i≠k) (u:∀n,σ'.mem n=none->σ.mem n=none/\Ky.sk n≠k)
  (q:∀ρ':Pl,ρ' k=some pp->Q ρ' F y σ'):aS C f ρ F σ s Q y (wh s hN tk):=
 have A:=a.Ip (X:=bv f) hk hn N r J z B u
 (bS hN tk (fm ρ k pp) F σ' rfl A.1 A.2<|q _<|if_pos rfl)
theorem lH:∀{σ:aC}{po:PO}{k':Ky},aC.get ⟨σ.ls,σ.G8++[some po],σ.mem⟩ k'=if k'=Ky.tm σ.G8.length then some po else σ.get k':=by
 intro σ po k';cases k' with
 |sk n=>exact(if_neg nofun).symm
 | tm i=>
  show((σ.G8++[some po])[i]?).join=_
  by_cases q:i=σ.G8.length
  ·refine(ys q)▸(ys List.getElem?_concat_length)▸(ys<|if_pos rfl)▸?_;rfl
  ·refine(ys<|if_neg λe=>q<|Ky.tm.inj e)▸?_
   by_cases l:i<σ.G8.length
   ·refine(ys<|List.getElem?_append_left l)▸?_;rfl
   ·have l:=Nat.lt_of_le_of_ne (Nat.le_of_not_lt l)<|Ne.symm q
    rw[List.getElem?_eq_none (by rw[List.length_append];exact l)];exact(congrArg Option.join<|List.getElem?_eq_none<|Nat.le_of_lt l).symm
theorem pD(i:Nat)(h:(σ.G8++[some po]).length<=i):σ.G8.length<=i/\Ky.tm i≠Ky.tm σ.G8.length:=by
 rw[List.length_append] at h;exact⟨Nat.le_of_succ_le h,λe=>Nat.lt_irrefl _<|Nat.lt_of_lt_of_le (Nat.lt_succ_self _)<|Ky.tm.inj e▸h⟩
theorem At.Ih{hN:Heap}{pp:Addr×Addr}{X:Addr->Prop}(a:At C f ρ F σ h)(hk:∀b z,h.get? b=some z->hN.get? b=some z)(hn:∀b,(b=pp.1\/b=pp.2)->h.get? b=none)(r:c9 C ρ F hN pp po):
  At C f (fm ρ (.tm σ.G8.length) pp) F ⟨σ.ls,σ.G8++[some po],σ.mem⟩ hN/\bx X ρ F σ.get h (fm ρ (.tm σ.G8.length) pp) F (aC.get ⟨σ.ls,σ.G8++[some po],σ.mem⟩) hN:=
 a.Ip hk hn (a.fin _<|Nat.le_refl _) r rfl (λU=>lH) pD λn u=>⟨u,nofun⟩
theorem aS.IK{z:Type}{Q:Pl->Fz->z->aC->Prop}{y:z}{pp:Addr×Addr}{hN:Heap}(a:At C f ρ F σ s.heap)(hk:∀b u,s.heap.get? b=some u->hN.get? b=some u)(hn:∀b,(b=pp.1\/b=pp.2)->s.heap.get? b=none)
  (r:c9 C ρ F hN pp po) (q:∀ρ':Pl,ρ' (.tm σ.G8.length)=some pp->Q ρ' F y ⟨σ.ls,σ.G8++[some po],σ.mem⟩):aS C f ρ F σ s Q y (wh s hN tk):=
 have A:=a.Ih (X:=bv f) hk hn r
 (bS hN tk _ F _ rfl A.1 A.2<|q _<|if_pos rfl)
theorem At.HS(a:At C f ρ F σ h)(hn:∀b,(b=p.1\/b=p.2)->dM ρ F σ f b)(r:c9 C ρ F h p po):
  ∃ρ':Pl,(∀k q,ρ k=some q->ρ' k=some q)/\ρ' (.tm σ.G8.length)=some p/\At C f ρ' F ⟨σ.ls,σ.G8++[some po],σ.mem⟩ h/\(∀b,bY ρ' (aC.get ⟨σ.ls,σ.G8++[some po],σ.mem⟩) b->(b=p.1\/b=p.2)\/bY ρ σ.get b):=by
 have z:=l9 (p:=p)<|a.fin _<|Nat.le_refl _
 have A:=a.IA (σ2:=⟨σ.ls,σ.G8++[some po],σ.mem⟩) (po:=po) (λU U e=>e) rfl (λB o e=>by
  by_cases q:B= .tm σ.G8.length
  ·exact .inl ⟨q,(oi<|(if_pos q).symm.trans<|lH.symm.trans e).symm⟩
  ·exact .inr ⟨q,(if_neg q).symm.trans<|lH.symm.trans e⟩) (if_pos rfl:fm ρ (.tm σ.G8.length) p _=_) (λB e=>if_neg e) z hn (r.mono z (λU U e=>e) λU U U e=>e) pD λn u=>⟨u,nofun⟩
 exact u6 _ z (if_pos rfl) A.1 A.2
end
end
section
section
variable {C:Cx} {A:Around} {f:Fc} {σ:aC}
noncomputable def hJ(f:Fc)(x:Str):Prop:=f.env.kindOf x=some .local\/(f.env.kindOf x=some .cell/\(x==("__classdict__":Str))=false/\x∈f.wc/\∃c,f.env.cells.lookup x=some c)
noncomputable def aC.H0(σ:aC)(i:Nat)(x:PV):aC:={σ with ls:=σ.ls.set i (some x)}
theorem uL(hn:ns.Nodup){i:Nat}{x:Str}(u:ns[i]? =some x)(z:ns[j]? =some x):i=j:=by
 exact(List.getElem?_inj (List.getElem?_eq_some_iff.mp u).1 hn).mp<|u.trans z.symm
theorem zZ{z:Type}{l:List z}{i:Nat}{x y:z}(h:(l.set i x)[j]? =some y):(j=i/\y=x)\/(j≠i/\l[j]? =some y):=by
 by_cases e:i=j
 ·rw[<-e,List.getElem?_set_self'] at h;cases u:l[i]? with
  |none=>rw[u] at h;exact bU h
  |some w=>rw[u] at h;exact .inl ⟨e.symm,(oi h).symm⟩
 ·rw[List.getElem?_set_ne e] at h;exact .inr ⟨λB=>e B.symm,h⟩
theorem nv{x:Str}{i:Nat}{pv:PV}{ρ:Pl}{F:Fz}{h h':Heap}(hi:f.ns[i]? =some x)(a:At C f ρ F σ h){m cm:Str->Option Value}(hs:∀(i:Nat)(x:Str)(N:Option PV),f.ns[i]? =some x->σ.ls[i]? =some N->du C ρ F f m cm x N){y:Addr}{m' cm':Str->Option Value}(O:bv f y)
  (I:∀b o,b≠y->h.get? b=some o->h'.get? b=some o) (V:h'.Ns f.env.locals m') (S:∀n c,f.env.cells.lookup n=some c->h'.IsCell c (cm' n)) (W:∀z,z≠x->m' z=m z/\cm' z=cm z) (hx:du C ρ F f m' cm' x (some pv)):
  At C f ρ F (σ.H0 i pv) h'/\bx (bv f) ρ F σ.get h ρ F (aC.get (σ.H0 i pv)) h':=by
 have aa:=a.R.Hj y O.all;refine⟨⟨⟨a.H.base,λb o e=>I b o (λB=>a.R.HT y O.all o<|B▸e)<|a.H.HC b o e,λk o e=>(a.H.obj k o e).imp λp q=>⟨q.1,q.2.mono (λU U e=>e) (λU U e=>e) λb hb ob B=>I b ob (λe3=>aa<|bH k o p e q.1<|e3▸hb) B⟩,a.H.sep,a.H.inj⟩,{a.R with HF:=(bE m' cm' V S<|λj z N Z h2=>?_)},a.fin,a.HN⟩,
  λU U e=>e,λU U e=>e,λb o e n1 n2=>I b o (λB=>n2<|B▸O) e,λb e=>e.imp id .inl⟩
 rcases zZ h2 with⟨rfl,rfl⟩|⟨e,h2⟩
 ·cases hi.symm.trans Z;exact hx
 ·cases N with
  |none=>trivial
  | some w=>
   have J:=W z λB=>e<|uL a.R.nodup (B▸Z) hi
   exact(hs j z (some w) Z h2).imp λu q=>⟨q.1,by refine(ys J.1)▸(ys J.2)▸?_;exact q.2⟩
theorem ja:∀{C:Cx}{A:Around}{f:Fc}{σ:aC}{x:Str}{i:Nat}{pv:PV}{Q:aC->Prop}{ρ:Pl}{F:Fz}{s:Shared}{v:Value}(hi:f.ns[i]? =some x)(hk:hJ f x)(a:At C f ρ F σ s.heap)(r:aW C ρ F v pv)(q:Q (σ.H0 i pv)),fw C A f (storeName f.env x v) ρ F σ s (λU U U σ'=>Q σ'):=by
 exists ce λC=>cx λA=>dO λf=>dR λσ=>aA λx=>aA λi=>oO λpv=>aA λQ=>aA λρ=>aA λF=>eu λs=>aA λv=>aO _;intros;refine bM a.R.HF λm cm hn S hs=>?_;rcases hk with hk|⟨hk,I,O,c,u⟩
 ·refine wpAny_storeName_local hk hn (λh' Z B=>?_) (by refine(ys a.R.kind)▸?_;rfl);have p:=nv (pv:=pv) (cm':=cm) hi a hs (.inl rfl) (λb o W e=>B.extBut b o W e) Z (λn c e=>(S n c e).sameBut B<|a.R.Ie n c<|mem_of_lookup e) (λz N=>⟨if_neg N,rfl⟩)<|aD v r<|.inl ⟨hk,if_pos rfl⟩
  exact bS h' _ ρ F _ rfl p.1 p.2 q
 ·refine wpAny_storeName_cell a.R.kind hk u (S x c u) λh' J B=>?_;have p:=nv (pv:=pv) (m':=m) (cm':=λz=>if z=x then some v else cm z) hi a hs (.inr<|bE x c O u rfl) (λb o W e=>B.extBut b o W e) (hn.sameBut B<|Ne.symm<|a.R.Ie x c<|mem_of_lookup u) (λn c' e=>by
   by_cases V:n=x
   ·rw[V] at e⊢;cases u.symm.trans e;refine(ys<|if_pos rfl)▸?_;exact J
   ·refine(ys<|if_neg V)▸?_;exact(S n c' e).sameBut B λe3=>V<|name_of_addr a.R.apart (mem_of_lookup e)<|e3▸mem_of_lookup u) (λz N=>⟨rfl,if_neg N⟩)<|aD v r<|.inr ⟨.inl hk,I,⟨c,u⟩,if_pos rfl⟩
  exact bS h' s.toks ρ F _ rfl p.1 p.2 q
theorem oV{x:Str}{pos:Pos}{i:Nat}{pv:PV}{Q:aC->Prop}(hi:f.ns[i]? =some x)(hk:hJ f x)(q:Q (σ.H0 i pv)):As C A f (λv=>assign (.Name x pos) f.env v) pv σ Q:=λρ F s v a r=>
 wpAny_assign_Name (ja hi hk a r q)
theorem gr{Q:Fl->aC->Prop}(q:Q .next σ):fA C A f [] σ Q:=λρ F s a=>wpAny_execs_nil<|aS.same (tk:=s.toks) a<|aD .next trivial q
noncomputable def kX(C:Cx)(A:Around)(f:Fc)(rest:List Stmt)(Q:Fl->aC->Prop):Fl->aC->Prop:=λx σ1=>match x with| .next=>fA C A f rest σ1 Q|x=>Q x σ1
theorem cK:∀{C A f σ N rest Q}(h:Ex C A f N σ (kX C A f rest Q)),fA C A f (N::rest) σ Q:=by
 intro C A f σ N rest Q h;exact λρ F s a=>
  wpAny_execs_cons ((h ρ F s a).go λfl O B z J σ1 x I u S U=>by
   revert U;exact S.view (λq=>(q z J _ I).cont u I) (λq=>bS O B z J σ1 rfl I u<|aD .brk trivial q) (λq=>bS O B z J σ1 rfl I u<|aD .cont trivial q) λv x r q=>bS O B z J σ1 rfl I u<|aD (.ret _) r q)
theorem De{pos:Pos}{Q:Fl->aC->Prop}(h:Ev C A f e σ λx σ1=>Q (.ret x) σ1):Ex C A f (.Return (some e) pos) σ Q:=λρ F s a=>
 wpAny_Return_some ((h ρ F s a).go λU S z B N σ1 x O u I J=>bS S z B N σ1 rfl O u<|aD (.ret x) I J)
theorem Ap{pos:Pos}{Q:Fl->aC->Prop}(h:Q (.ret (.d .none)) σ):Ex C A f (.Return none pos) σ Q:=λρ F s a=>wpAny_Return_none<|aS.same (tk:=s.toks) a<|aD (.ret<|.d .none) (.d .none) h
theorem A0{pos:Pos}{Q:Fl->aC->Prop}(h:Q .cont σ):Ex C A f (.Continue pos) σ Q:=λρ F s a=>wpAny_Continue<|aS.same (tk:=s.toks) a<|aD .cont trivial h
theorem yQ{t:Expr}{b e:List Stmt}{pos:Pos}{Q:Fl->aC->Prop}(h:Tt C A f t σ λc σ1=>if c=true then fA C A f b σ1 Q else fA C A f e σ1 Q):Ex C A f (.If t b e pos) σ Q:=λρ F s a=>
 wpAny_If ((h ρ F s a).use λc O N z J σ1 B u I=>by
  cases c with
  |true=>exact(I z J _ B).cont u B
  |false=>exact(I z J _ B).cont u B)
theorem pt{pos:Pos}{Q:Fl->aC->Prop}(h:Ev C A f e σ λU σ1=>Q .next σ1)(hi:interactive f.env=false:=by rfl)(I:swapsWith e none pos.line f.env=pure false:=by rfl):Ex C A f (.Expr e pos) σ Q:=λρ F s a=>
 wpAny_Expr_any ((h ρ F s a).go λW S z B N σ1 x O u V J=>bS S z B N σ1 rfl O u<|aD .next trivial J) hi I
theorem mF{t u:Expr}{pos:Pos}{Q:Fl->aC->Prop}(h:Ev C A f u σ λx σ1=>As C A f (λv=>assign t f.env v) x σ1 λσ2=>Q .next σ2)(Z:(assignEach [t] f.env).map (·.2)=[assign t f.env]:=by rfl)
  (hs:swapsWithSole [t] u pos.line f.env=pure false:=by rfl) (hw:swappedStores [t] u f.env=pure none:=by rfl):Ex C A f (.Assign [t] u pos) σ Q:=λρ F s a=>by
 refine wpAny_Assign_stores ((h ρ F s a).go λv1 h1 V J F1 σ1 x N z O W=>?_) hs hw;refine(ys Z)▸?_;exact(W J F1 _ v1 N O).use λU h2 I ρ2 F2 σ2 a2 B S=>bS h2 I ρ2 F2 σ2 rfl a2 (z.then N B)<|aD .next trivial S
noncomputable def AsL(C:Cx)(A:Around)(f:Fc):List (Value->Sem Unit)->List PV->aC->(aC->Prop)->Prop
 |t::ts,x::xs,σ,Q=>As C A f t x σ λσ1=>AsL C A f ts xs σ1 Q
 |[],[],σ,Q=>Q σ
 |_,_,_,_=>False
theorem Bs:∀{C A f Q}(u:List (Value->Sem Unit)),∀{xs:List PV}{vs:List Value}{σ:aC}{ρ:Pl}{F:Fz}{s:Shared},AsL C A f u xs σ Q->At C f ρ F σ s.heap->bQ C ρ F vs xs->
  fw C A f (assignInOrder u vs) ρ F σ s (λU U U σ'=>Q σ'):=by
 exists ce λC=>cx λA=>dO λf=>aA λQ=>aA λu=>aO _;intro C A f Q u
 induction u with
 | nil=>
  intro xs vs σ ρ F s h a r;cases xs with
  |nil=>exact r.HV (Y:=λvs=>fw C A f (assignInOrder [] vs) ρ F σ s _)<|wpAny_pure<|aS.same (tk:=s.toks) a h
  |cons x xs=>exact False.elim h
 | cons t u I=>
  intro xs vs σ ρ F s h a r;cases xs with
  |nil=>exact False.elim h
  | cons x xs=>
   refine r.HE (Y:=λvs=>fw C A f (assignInOrder (t::u) vs) ρ F σ s _) λ{v vs} r rs=>?_;show wpAny _ _ (do holding vs (t v);assignInOrder u vs) _ _ _;exact wpAny_bind<|wpAny_holding<|(h _ _ s v a r).use λU V N O S σ1 B z J=>(I J B<|rs.step z).cont z B
noncomputable def PV.items:PV->Option (List PV)
 | .d (.tup l)=>some (l.map .d)
 | .tup l=>some l
 |_=>none
theorem bA.toP{ρ:Pl}{F:Fz}:∀{u:List DV}{vs:List Value},bA P F vs u->bQ P ρ F vs (u.map .d):=λ{u}=>by
 induction u with
 |nil=>exact λr=>r.HV .nil
 |cons d u z=>exact λr=>r.HE λr rs=>.cons (.d r)<|z rs
theorem aW.items:∀{P ρ F v x l}(r:aW P ρ F v x)(e:x.items=some l),∃a vs n,v= .ref a/\F a (dg vs n)/\bQ P ρ F vs l:=by
 exists ce λP=>aA λρ=>aA λF=>aA λv=>oO λx=>aA λl=>aO _;intros;cases x with
 | d d=>
  cases d with
  |tup m=>exact oi e▸(show bz P F v _ from r.inv).tupE λh rs=>bH _ _ _ rfl h rs.toP
  |_=>exact bU e
 |tup m=>exact oi e▸r.inv
 |_=>exact bU e
theorem EX(S:A.handled=none){k:Nat}{pos:Pos}{Q:aC->Prop}(B:x.items=some xs)(N:(assignEach elts f.env).length=xs.length)(u:(assignEach elts f.env).findIdx? (·.1)=none)
  (h:AsL C A f ((assignEach elts f.env).map (·.2)) xs σ Q):As C A f (λv=>assign (.Tuple elts k pos) f.env v) x σ Q:=λρ F s v a r=>by
 refine ca (r.items B) λt vs n z J rs=>?_;clear r;subst z;have O:IsTup s.heap t vs.toArray:=bD _ (a.H.HC _ _ J) rfl ⟨n,rfl⟩;refine assign_Tuple_tuple S O (by exact(ys N)▸(ys List.size_toArray)▸(ys rs.length)▸rfl) u λh' I=>?_;have hk:∀b o,s.heap.get? b=some o->h'.get? b=some o:=λb o e=>I b o (Nat.ne_of_lt<|Heap.lt_size e) e;exact(Bs _ h (a.grow hk) rs).cont (tk:=s.toks) (.grow hk)<|a.grow hk
noncomputable def aH(mem:Nat->Option (Option PO)):bR
 | .sk n=>(mem n).join
 | .tm _=>none
noncomputable abbrev aQ:=Nat->Option (Option PO)
noncomputable def aQ.set(m:aQ)(j:Nat)(o:PO):aQ:=λi=>if i=j then some (some o) else m i
theorem aQ.Ib{m:aQ}:m.set j o j=some (some o):=if_pos rfl
theorem dn:∀{mem:aQ}{j n:Nat}{o:PO}(h:mem.set j o n=none),n≠j/\mem n=none:=by
 intro mem j n o h
 by_cases q:n=j
 ·cases(if_pos q:mem.set j o n=_).symm.trans h
 ·exact⟨q,(if_neg q:mem.set j o n=_).symm.trans h⟩
theorem qv{mem:aQ}(k:Ky)(o:PO)(e:aH (mem.set j po) k=some o):(k= .sk j/\o=po)\/(k≠ .sk j/\aH mem k=some o):=by
 cases k with
 |tm i=>exact bU e
 | sk n=>
  by_cases q:n=j
  ·exact .inl ⟨congrArg _ q,(oi<|(congrArg Option.join (if_pos q:mem.set j po n=_)).symm.trans e).symm⟩
  ·exact .inr ⟨λe=>q<|Ky.sk.inj e,(congrArg Option.join (if_neg q:mem.set j po n=_)).symm.trans e⟩
noncomputable def g4(mem:Nat->Option (Option PO)):PV->Prop
 | .d _=>True
 | .val _=>True
 | .at (.sk n)=>mem n≠none
 |_=>False
noncomputable abbrev iN(C:Cx)(ρ:Pl)(F:Fz)(mem:Nat->Option (Option PO))(K:PV->(Nat->Option (Option PO))->Prop)(s:Shared)(r:Result)(s':Shared):Prop:=
 ∃ v h' tk ρ' F' mem' pv,r= .ok (.ret v)/\s'=(wh s h' tk)/\HR C ρ' F' (aH mem') h'/\(∀i,ρ' (.tm i)=none)/\(∀n,mem' n=none->ρ' (.sk n)=none)/\
   bx (λU=>False) ρ F (aH mem) s.heap ρ' F' (aH mem') h'/\aW C ρ' F' v pv/\g4 mem' pv/\K pv mem'
noncomputable def Fn(C:Cx)(n:Nat)(fn:Value)(xs:List PV)(mem:Nat->Option (Option PO))(K:PV->(Nat->Option (Option PO))->Prop):Prop:=
 ∀ A ρ F s vs,Rm A n->HR C ρ F (aH mem) s.heap->(∀i,ρ (.tm i)=none)->(∀n,mem n=none->ρ (.sk n)=none)->bQ C ρ F vs xs->
  codeAny (model C.prog C.w) A (.call fn ⟨vs,[]⟩) (iN C ρ F mem K s) s
section
variable {ρ ρ':Pl} {F F':Fz} {mem mem':Nat->Option (Option PO)} {K K':PV->(Nat->Option (Option PO))->Prop} {s:Shared}
theorem iN.mk{v:Value}{pv:PV}(H:HR C ρ' F' (aH mem') h')(t:∀i,ρ' (.tm i)=none)(e:∀n,mem' n=none->ρ' (.sk n)=none)(u:bx (λU=>False) ρ F (aH mem) s.heap ρ' F' (aH mem') h')(r:aW C ρ' F' v pv)(ok:g4 mem' pv)(k:K pv mem'):
  iN C ρ F mem K s (.ok (.ret v)) (wh s h' tk):=FG v h' tk ρ' F' mem' pv rfl rfl H t e u r ok k
@[elab_as_elim] theorem iN.use:∀{C:Cx}{ρ:Pl}{F:Fz}{mem:Nat->Option (Option PO)}{K:PV->(Nat->Option (Option PO))->Prop}{s:Shared}{r:Result}{s':Shared}{R:Result->Shared->Prop}(q:iN C ρ F mem K s r s')(k:∀v h' tk ρ' F' mem' pv,HR C ρ' F' (aH mem') h'->(∀i,ρ' (.tm i)=none)->(∀n,mem' n=none->ρ' (.sk n)=none)->bx (λU=>False) ρ F (aH mem) s.heap ρ' F' (aH mem') h'->aW C ρ' F' v pv->g4 mem' pv->K pv mem'->R (.ok (.ret v)) (wh s h' tk)),R r s':=by
 intro C ρ F mem K s r s' R q k;obtain⟨v,h',tk,ρ',F',mem',pv,rfl,rfl,q⟩:=q;exact k v h' tk ρ' F' mem' pv q.1 q.2.1 q.2.2.1 q.2.2.2.1 q.2.2.2.2.1 q.2.2.2.2.2.1 q.2.2.2.2.2.2
theorem Fn.mono{n:Nat}{u:Value}{xs:List PV}(h:Fn C n u xs mem K)(k:∀a b,K a b->K' a b):Fn C n u xs mem K':=λA ρ F s vs Z J W U h5=>
 codeAny_mono (h A ρ F s vs Z J W U h5) λr s' q=>iN.use q λv h' tk ρ' F' mem' pv B N I O V S z=>.mk B N I O V S<|k _ _ z
end
noncomputable def Cl(C:Cx)(A:Around)(f:Fc)(fn:Value)(xs:List PV)(σ:aC)(Q:PV->aC->Prop):Prop:=
 ∀ρ F s vs,At C f ρ F σ s.heap->bQ C ρ F vs xs->fw C A f (call fn vs) ρ F σ s (VQ C Q)
noncomputable def PV.HM:PV->Bool
 | .d _=>true
 | .val _=>true
 | .at (.sk _)=>true
 |_=>false
noncomputable def bJ(ρ:Pl):Pl
 | .sk n=>ρ (.sk n)
 | .tm _=>none
theorem aW.sk{ρ:Pl}{F:Fz}{v:Value}(r:aW P ρ F v x)(h:x.HM=true):aW P (bJ ρ) F v x:=by
 cases x with
 |d d=>exact .d r.inv
 |val w=>exact r.Ia<|.val _
 | «at»k=>cases k with
  |sk n=>exact r.IF λe=>.at (k:=.sk n) e
  |tm i=>exact jn h
 |tup l=>exact jn h
theorem bQ.sk{ρ:Pl}{F:Fz}:∀{xs:List PV}{vs:List Value},bQ P ρ F vs xs->xs.all PV.HM=true->bQ P (bJ ρ) F vs xs:=λ{xs}=>by
 induction xs with
 |nil=>exact λr U=>r.HV .nil
 | cons x xs u=>
  intro vs r h;have h:=(Bool.and_eq_true _ _).mp h;exact r.HE λr rs=>.cons (r.sk h.1)<|u rs h.2
theorem c9.IY{ρ:Pl}{F:Fz}{ρ':Pl}(x:c9 C ρ F h p o)(u:∀k q,ρ k=some q->ρ' k=some q):c9 C ρ' F h p o:=x.mono u (λU U e=>e) λU U U e=>e
noncomputable def PO.HM:PO->Bool
 | .Hh l=>l.all λp=>p.2.HM
 | .cellAt _ x=>x.HM
 | .inst _ fs=>fs.all λp=>p.2.HM
 |_=>true
theorem jd.sk{ρ:Pl}{F:Fz}(x:jd P ρ F es fs)(h:fs.all (λp=>p.2.HM)=true):jd P (bJ ρ) F es fs:=by
 induction x with
 |nil=>exact .nil
 |cons r _ u=>rw[List.all_cons,Bool.and_eq_true] at h;exact .cons (r.sk h.1)<|u h.2
theorem gQ.sk{ρ:Pl}{F:Fz}{u:List (Str×Value)}(x:gQ P ρ F u fs)(h:fs.all (λp=>p.2.HM)=true):gQ P (bJ ρ) F u fs:=by
 induction x with
 |nil=>exact .nil
 |cons r _ z=>rw[List.all_cons,Bool.and_eq_true] at h;exact .cons (r.sk h.1)<|z h.2
theorem c9.sk:∀{C ρ F h p o}(x:c9 C ρ F h p o)(hn:o.HM=true),c9 C (bJ ρ) F h p o:=by
 intro C ρ F h p o x hn;cases o with
 |cellAt c u=>exact⟨x.1,x.2.imp λU q=>q.imp λU q=>⟨q.1,q.2.1,q.2.2.sk hn⟩⟩
 |Hh l=>exact⟨x.1,x.2.imp λU q=>q.imp λU q=>⟨q.1,q.2.1,q.2.2.sk hn⟩⟩
 |inst K fs=>exact⟨x.1,x.2.imp λU q=>q.imp λU q=>⟨q.1,q.2.sk hn⟩⟩
 |_=>exact x
noncomputable def aN(mem:Nat->Option (Option PO)):Prop:=∀n o,mem n=some (some o)->o.HM=true
theorem cs{ρ:Pl}(h:bY (bJ ρ) (aH σ.mem) a):bY ρ σ.get a:=by
 refine ca h λk o p u z B=>?_;cases k with
 |sk n=>exact bH (.sk n) o p u z B
 |tm i=>exact bU u
theorem HR.H8:∀{C:Cx}{σ:aC}{ρ:Pl}{F:Fz}{h:Heap}(x:HR C ρ F σ.get h)(I:aN σ.mem),HR C (bJ ρ) F (aH σ.mem) h:=by
 intro C σ ρ F h x I;refine⟨x.base,x.HC,?_,?_,?_⟩
 ·intro k o e;cases k with
  |tm i=>exact bU e
  | sk n=>
   refine aG (x.obj (.sk n) o e) λp u r=>?_;have:σ.mem n=some (some o):=by
    simp only[aH] at e;cases z:σ.mem n with
    |none=>rw[z] at e;exact bU e
    |some y=>rw[z] at e;exact congrArg some e
   exact aD p u<|r.sk<|I n o this
 ·intro k o p a u z B;cases k with
  |tm i=>exact bU u
  |sk n=>exact x.sep (.sk n) o p a u z B
 ·intro k S o o' p J a u z B U O V;cases k with
  |tm i=>exact bU u
  | sk n=>cases S with
   |tm i=>exact bU z
   |sk N=>exact x.inj (.sk n) (.sk N) o o' p J a u z B U O V
noncomputable def ci(ρ ρ':Pl):Pl
 | .sk n=>ρ' (.sk n)
 | .tm i=>ρ (.tm i)
theorem At.back:∀{C f σ ρ ρ' F F' h h' mem'}(x:At C f ρ F σ h)(H':HR C ρ' F' (aH mem') h')(af:∀n,mem' n=none->ρ' (.sk n)=none)(ae:∀i,ρ' (.tm i)=none)(O:bx (λU=>False) (bJ ρ) F (aH σ.mem) h ρ' F' (aH mem') h')(ag:∀(i:Nat)(o:PO),(σ.G8[i]?).join=some o->o.HM=true),At C f (ci ρ ρ') F' ⟨σ.ls,σ.G8,mem'⟩ h'/\bx (bv f) ρ F σ.get h (ci ρ ρ') F' (aC.get ⟨σ.ls,σ.G8,mem'⟩) h':=by
 exists ce λC=>dO λf=>dR λσ=>aA λρ=>aA λρ'=>aA λF=>aA λF'=>aA λh=>aA λh'=>aA λmem'=>aO _;intros;have ab:∀k p,ρ k=some p->ci ρ ρ' k=some p:=λk p e=>by
  cases k with
  |sk n=>exact O.HD (.sk n) p e
  |tm i=>exact e
 have ad:∀k p,ρ' k=some p->ci ρ ρ' k=some p:=λk p e=>by
  cases k with
  |sk n=>exact e
  |tm i=>rw[ae] at e;exact bU e
 have S:∀a o,h.get? a=some o->¬bY ρ σ.get a->h'.get? a=some o:=λa o e n=>O.keep a o e (λn2=>n<|cs n2)<|λh=>h
 have Z:∀i o p a,σ.get (.tm i)=some o->ρ (.tm i)=some p->(a=p.1\/a=p.2)->∀ob,h.get? a=some ob->h'.get? a=some ob:=λi o p a u z B ob V=>
  O.keep a ob V (λn2=>by
   refine ca n2 λk o2 p2 g1 g2 g3=>?_;cases k with
   |tm j=>exact bU g1
   |sk n=>have:=x.H.inj (.sk n) (.tm i) o2 o p2 p a g1 u g2 z g3 B;exact nc Ky.ctorIdx this rfl) (λh=>h)
 have J:∀i o p a,σ.get (.tm i)=some o->ρ (.tm i)=some p->(a=p.1\/a=p.2)->¬bY ρ' (aH mem') a/\∀ob,¬F' a ob:=λi o p a u z B=>by
  have I:(bY ρ' (aH mem') a\/∃ob,F' a ob)->False:=λhh=>by
   rcases O.fresh a hh with⟨k,o2,p2,g1,g2,g3⟩|⟨ob,g⟩|g
   ·cases k with
    |tm j=>exact bU g1
    |sk n=>have:=x.H.inj (.sk n) (.tm i) o2 o p2 p a g1 u g2 z g3 B;exact nc Ky.ctorIdx this rfl
   ·exact x.H.sep (.tm i) o p a u z B ob g
   ·refine aG (x.H.obj (.tm i) o u) λp' V r=>?_;rw[z] at V;(have aa:=oi V;clear V;subst aa);refine aP (r.has B) λob e5=>?_;rw[g] at e5;exact bU e5
  exact⟨λh=>I<|.inl h,λob h=>I<|.inr ⟨ob,h⟩⟩
 have ai:∀i,aC.get ⟨σ.ls,σ.G8,mem'⟩ (.tm i)=σ.get (.tm i):=λi=>rfl;have hR:HR C (ci ρ ρ') F' (aC.get ⟨σ.ls,σ.G8,mem'⟩) h':=by
  refine⟨H'.base,H'.HC,?_,?_,?_⟩
  ·intro k o e;cases k with
   | sk n=>
    exact aG (H'.obj (.sk n) o e) λp u r=>aD p u<|r.IY ad
   | tm i=>
    exact aG (x.H.obj (.tm i) o e) λp u r=>aD p u<|r.mono ab O.fz λa W ob z=>Z i o p a e u W ob z
  ·intro k o p a u z B;cases k with
   |sk n=>exact H'.sep (.sk n) o p a u z B
   |tm i=>exact(J i o p a u z B).2
  ·intro k k' o o' p p' a u z B V e5 e6;cases k with
   | sk n=>cases k' with
    |sk n'=>exact H'.inj (.sk n) (.sk n') o o' p p' a u z B V e5 e6
    |tm i=>exact absurd (bH (.sk n) o p u B e5) (J i o' p' a z V e6).1
   | tm i=>cases k' with
    |sk n'=>exact absurd (bH (.sk n') o' p' z V e6) (J i o p a u B e5).1
    |tm j=>exact x.H.inj (.tm i) (.tm j) o o' p p' a u z B V e5 e6
 have N:∀a,aV f a->¬bY (ci ρ ρ') (aC.get ⟨σ.ls,σ.G8,mem'⟩) a/\∀ob,¬F' a ob:=λa W=>by
  have I:(bY ρ' (aH mem') a\/∃ob,F' a ob)->False:=λhh=>by
   rcases O.fresh a hh with g|⟨ob,g⟩|g
   ·exact x.R.Hj a W<|cs g
   ·exact x.R.HT a W ob g
   ·refine aP (x.R.has W) λob e=>?_;rw[g] at e;exact bU e
  refine⟨λah=>ca ah λk o p u z B=>?_,λob h=>I<|.inr ⟨ob,h⟩⟩;cases k with
  |sk n=>exact I<|.inl<|bH (.sk n) o p u z B
  |tm i=>exact x.R.Hj a W<|bH (.tm i) o p u z B
 refine⟨⟨hR,?_,x.fin,af⟩,ab,O.fz,λa o e n1 U=>S a o e n1,λa e=>?_⟩
 ·have R:=x.R;refine{R with HF:=?_,Hj:=λa W=>(N a W).1,HT:=λa W=>(N a W).2};refine bM R.HF λm cm hn hc hs=>bE m cm (hn.at' λo e=>S _ o e<|R.Hj _<|.inl rfl) (λn c e=>?_)<|λi y ov u z=>(hs i y ov u z).mono ab O.fz
  exact aG (hc n c e) λo ho hd=>aD o (S c o ho<|R.Hj c<|.inr<|dk n c e rfl) hd
 ·rcases e with⟨k,o,p,u,z,B⟩|⟨o,e⟩
  ·cases k with
   | sk n=>
    rcases O.fresh a (.inl<|bH (.sk n) o p u z B) with g|g|g
    ·exact .inl<|cs g
    ·exact .inr<|.inl g
    ·exact .inr<|.inr g
   |tm i=>exact .inl<|bH (.tm i) o p u z B
  ·rcases O.fresh a (.inr ⟨o,e⟩) with g|g|g
   ·exact .inl<|cs g
   ·exact .inr<|.inl g
   ·exact .inr<|.inr g
theorem g4.back{ρ ρ':Pl}{F:Fz}{v:Value}{mem:Nat->Option (Option PO)}(r:aW P ρ' F v x)(h:g4 mem x):aW P (ci ρ ρ') F v x:=by
 cases x with
 |d d=>exact .d r.inv
 |val w=>exact r.Ia<|.val _
 | «at»k=>cases k with
  |sk n=>exact r.IF λe=>.at (k:=.sk n) e
  |tm i=>exact h.elim
 |tup l=>exact h.elim
noncomputable def aU(G8:List (Option PO)):Prop:=∀(i:Nat)(o:PO),(G8[i]?).join=some o->o.HM=true
theorem Cs{n:Nat}(V:Rm A n){u:Value}{xs:List PV}{Q:PV->aC->Prop}{K:PV->(Nat->Option (Option PO))->Prop}(I:Fn C n u xs σ.mem K)(z:xs.all PV.HM=true)(Z:aN σ.mem)(S:aU σ.G8)
  (k:∀pv mem',K pv mem'->Q pv ⟨σ.ls,σ.G8,mem'⟩):Cl C A f u xs σ Q:=λρ F s vs a r=>
 wpAny_call (codeAny_mono (I A (bJ ρ) F s vs V (a.H.H8 Z) (λU=>rfl) (λn e=>a.HN n e)<|r.sk z) λN s' q=>iN.use q λv h' tk ρ' F' mem' pv B t1 O J W ok hK=>by
  have p:=a.back B O t1 J S;exact bS h' tk _ F' _ rfl p.1 p.2<|aD pv (ok.back W)<|k _ _ hK)
end
end
section
set_option genInjectivity false
noncomputable def Fo(sc:Scope):List Str:=(sc.names.filter λp=>p.2== .local||p.2== .cell||p.2== .free).map (·.1)
section
variable {C:Cx} {A:Around} {f:Fc} {σ:aC}
theorem wM(k:Str->Option NameKind)(x:Str):∀(b:List (Str×Value))(m:Str->Option Value),x∉b.map (·.1)->bindL k b m x=m x:=λb=>by
 induction b with
 | nil=>
  intro m U;exact rfl
 | cons q r u=>
  intro m h;refine(u _ λe=>h<|.tail _ e).trans ?_
  by_cases e:k q.1=some .local
  ·exact(congrFun (if_pos e) x).trans (if_neg λe:x=q.1=>h<|List.mem_cons.mpr<|.inl e)
  ·exact congrFun (if_neg e) x
theorem xh(k:Str->Option NameKind)(x:Str):∀(b:List (Str×Value))(m:Str->Option Value),x∉b.map (·.1)->bindC k b m x=m x:=λb=>by
 induction b with
 | nil=>
  intro m U;exact rfl
 | cons q r u=>
  intro m h;refine(u _ λe=>h<|.tail _ e).trans ?_
  by_cases e:k q.1=some .local
  ·exact congrFun (if_pos e) x
  ·exact(congrFun (if_neg e) x).trans (if_neg λe:x=q.1=>h<|List.mem_cons.mpr<|.inl e)
theorem BO:∀(ns:List Str)(vs:List Value),ns.length=vs.length->(ns.zip vs).map (·.1)=ns:=λns=>by
 induction ns with
 |nil=>exact λU U=>rfl
 | cons n ns u=>
  intro vs h;cases vs with
  |nil=>cases h
  |cons v vs=>exact congrArg (n:: ·)<|u vs<|Nat.succ.inj h
theorem xp(k:Str->Option NameKind){x:Str}{v:Value}(hk:k x=some .local):∀(b:List (Str×Value))(m:Str->Option Value),(b.map (·.1)).Nodup->(x,v)∈b->bindL k b m x=some v:=λb=>by
 induction b with
 |nil=>exact λU U h=>nomatch h
 | cons q r u=>
  intro m hn h;rcases List.mem_cons.mp h with rfl|h
  ·exact(wM k x r _ (List.nodup_cons.mp hn).1).trans<|(congrFun (if_pos hk) x).trans<|if_pos rfl
  ·exact u _ (List.nodup_cons.mp hn).2 h
theorem xI(k:Str->Option NameKind){x:Str}{v:Value}(hk:k x=some .cell):∀(b:List (Str×Value))(m:Str->Option Value),(b.map (·.1)).Nodup->(x,v)∈b->bindC k b m x=some v:=λb=>by
 induction b with
 |nil=>exact λU U h=>nomatch h
 | cons q r u=>
  intro m hn h;rcases List.mem_cons.mp h with rfl|h
  ·exact(xh k x r _ (List.nodup_cons.mp hn).1).trans ((congrFun (if_neg<|by refine(ys hk)▸?_;exact nofun) x).trans<|if_pos rfl)
  ·exact u _ (List.nodup_cons.mp hn).2 h
theorem bQ.at:∀{P ρ F x},∀{xs:List PV}{vs:List Value},bQ P ρ F vs xs->∀{i:Nat},xs[i]? =some x->∃v,vs[i]? =some v/\aW P ρ F v x:=by
 intro P ρ F x;exact λ{xs}=>by
  induction xs with
  |nil=>exact λU U h=>bU h
  | cons y xs u=>
   intro vs h i;refine h.HE (Y:=λvs=>(y::xs)[i]? =some x->∃v,vs[i]? =some v/\aW P ρ F v x) λr rs e=>?_;cases i with
   |zero=>exact aD _ rfl<|oi e▸r
   |succ i=>exact u rs e
theorem yN:∀{pv k},∀{xs:List PV}{i:Nat},(xs.map some++List.replicate k none)[i]? =some (some pv)->xs[i]? =some pv:=by
 intro pv k;exact λ{xs}=>by
  induction xs with
  | nil=>
   intro i h;have:(List.replicate k (none:Option PV))[i]? =some (some pv):=h;cases List.eq_of_mem_replicate (List.mem_of_getElem? this)
  | cons y xs u=>
   intro i h;cases i with
   |zero=>exact congrArg some<|oi<|oi h
   |succ i=>exact u h
theorem Rm.deep{n:Nat}(h:Rm A (n+1))(e:Env):Rm (A.deeper e) n:=⟨h.hh,by rw[depth_deeper];have:=h.dep;exact bw [_,_,_] [] 0x210508704a00620480882520a00d881 ft this,by rw[units_deeper];have:=h.un;exact bw [_,_,_] [] 0x1082a0a10e0450036204841422045309006d881 ft this⟩
structure sG(C:Cx)(fa:Addr)(fd:FuncData)(body:List Stmt)(ps ns:List Str):Prop where
 at_:∃oc od sl,C.K.lookup fa=some ⟨oc,od,.func fd,sl⟩
 code:C.h₀.CodeRec fd.code fd.qualname
 body:fd.body= .stmts body
 clo:fd.closure=[]
 glob:fd.globals=mainGlobals
 blt:fd.builtins=builtinsNs
 co:fd.scope.isCoroutine=false
 gen:fd.scope.isGenerator=false
 kind:fd.scope.kind= .function
 nodup:ns.Nodup
 pre:ns.take ps.length=ps
 par:∀x∈ps,fd.scope.names.lookup x=some .local\/(fd.scope.names.lookup x=some .cell/\(x==("__classdict__":Str))=false)
noncomputable def gM(fd:FuncData)(L fa:Addr)(ns:List Str):Fc:=⟨callEnvC fd L fa,ns,ns⟩
noncomputable def lU:Fl->PV
 | .ret x=>x
 |_=>.d .none
noncomputable def yj(K:PV->(Nat->Option (Option PO))->Prop)(x:Fl)(σ':aC):Prop:=g4 σ'.mem (lU x)/\aN σ'.mem/\K (lU x) σ'.mem
theorem aW.IG{v:Value}{mem:Nat->Option (Option PO)}(r:aW P ρ F v y)(ok:g4 mem y):aW P (bJ ρ) F v y:=r.sk (by
 cases y with
 | «at»k=>cases k with
  |sk n=>rfl
  |tm i=>exact ok.elim
 |tup l=>exact ok.elim
 |_=>rfl)
theorem cg{x:Str}{u:List (Str×NameKind)}{n:Nat}(h:u.lookup x=some .cell):((cellsFrom n u []).lookup x).isSome=true:=cellsFrom_some u n []<|.inl h
theorem dH(u:List (Option PV))(mem:Nat->Option (Option PO)):aC.get ⟨u,[],mem⟩=aH mem:=by
 funext k;cases k<;>rfl
theorem qC{mem:Nat->Option (Option PO)}{σ σ':aC}{B:Heap}(u:∀b o,h.get? b=some o->B.get? b=some o)(N:∀a o,bv f a->h.get? a=some o->bY ρ (aH mem) a)(J:∀i,ρ (.tm i)=none)(z:∀a,bY ρ σ.get a->bY ρ (aH mem) a)
  (I:bx (bv f) ρ F σ.get B ρ' F' σ'.get h'):bx (λU=>False) ρ F (aH mem) h (bJ ρ') F' (aH σ'.mem) h':=by
 refine⟨λk p e=>?_,I.fz,λa o e n1 U=>I.keep a o (u _ _ e) (λq=>n1<|z a q) λS=>n1<|N a o S e,λa e=>(I.fresh a<|e.imp cs id).imp (z a)<|Or.imp id λq=>?_⟩
 ·cases k with
  |sk n=>exact I.HD _ _ e
  |tm i=>rw[J] at e;exact bU e
 ·cases O:h.get? a with
  |none=>rfl
  |some o=>rw[u _ _ O] at q;exact jg q
theorem nH{mem:Nat->Option (Option PO)}{σ':aC}{u:Heap}(z:∀b o,h.get? b=some o->u.get? b=some o)(B:∀a,aV f a->h.get? a=none)(I:∀i,ρ (.tm i)=none)
  (J:bx (bv f) ρ F (aC.get ⟨ls,[],mem⟩) u ρ' F' σ'.get h'):bx (λU=>False) ρ F (aH mem) h (bJ ρ') F' (aH σ'.mem) h':=
 qC z (λa o N e=>nomatch (B a N.all).symm.trans e) I (λa q=>dH ls mem▸q) J
theorem uU:∀{fl x},p8 C ρ F fl x->aW C ρ F (match fl with| .ret v=>v|_=>.none) (lU x):=λ{fl x} h=>
 h.view (X:=λfl x=>aW C ρ F (match fl with| .ret v=>v|_=>.none)<|lU x) (.d .none) (.d .none) (.d .none) λU U r=>r
theorem sZ{fd:FuncData}{ps:List Str}(O:sG C fa fd body ps ns)(L:Addr)(u:xs.length=ps.length)(r:bQ C ρ F vs xs){i:Nat}{x:Str}{pv:PV}(V:ns[i]? =some x)(J:xs[i]? =some pv):
  du C ρ F (gM fd L fa ns) (bindL (callEnvC fd L fa).kindOf (ps.zip vs) λU=>none) (bindC (callEnvC fd L fa).kindOf (ps.zip vs) λU=>none) x (some pv):=by
 refine aG (r.at J) λv I B=>?_;have N:ps[i]? =some x:=(congrArg (·[i]?) O.pre).symm.trans<|(List.getElem?_take_of_lt<|u▸(List.getElem?_eq_some_iff.mp J).1).trans V
 have S:(x,v)∈ps.zip vs:=List.mem_of_getElem?<|List.getElem?_zip_eq_some.mpr ⟨N,I⟩
 have hn:((ps.zip vs).map (·.1)).Nodup:=by refine(ys<|BO ps vs<|by rw[r.length,u])▸O.pre▸?_;exact O.nodup.sublist<|List.take_sublist _ _
 refine aD v B ?_;rcases O.par x (List.mem_of_getElem? N) with hk|⟨hk,z⟩
 ·exact .inl ⟨hk,xp _ hk _ _ hn S⟩
 ·exact .inr ⟨.inl hk,z,Option.isSome_iff_exists.mp<|cg hk,xI _ hk _ _ hn S⟩
theorem f9:∀{C A fa fd body ps ns n xs mem R ρ F s vs}(G:Gd C)(O:sG C fa fd body ps ns)(B:xs.length=ps.length)(J:∀vs:List Value,vs.length=xs.length->bindArgs fd ⟨vs,[]⟩=pure (ps.zip vs))(hR:Rm A (n+1))(H:HR C ρ F (aH mem) s.heap)(Z:∀i,ρ (.tm i)=none)(ab:∀n,mem n=none->ρ (.sk n)=none)(r:bQ C ρ F vs xs)(h:∀L h₁ z,At C (gM fd L fa ns) ρ F ⟨xs.map some++List.replicate (ns.length-ps.length) none,[],mem⟩ h₁->(∀b o,s.heap.get? b=some o->h₁.get? b=some o)->(∀a,aV (gM fd L fa ns) a->s.heap.get? a=none)->Rm (A.deeper (callEnvC fd L fa)) n->
   wpAny (model C.prog C.w) (A.deeper (callEnvC fd L fa)) (execs body (callEnvC fd L fa)) (λf s'=>R (.ok (.ret (match f with| .ret v=>v|_=>.none))) s')
    (λe s'=>wpAny (model C.prog C.w) (A.deeper (callEnvC fd L fa)) (leaving (callEnvC fd L fa) e) (λU N=>R (.error e) N) (λe' N=>R (.error e') N) s') (wh s h₁ z)),codeAny (model C.prog C.w) A (.call (.ref fa) ⟨vs,[]⟩) R s:=by
 exists ce λC=>cx λA=>aA λfa=>aA λfd=>aA λbody=>aA λps=>aA λns=>aA λn=>aA λxs=>aA λmem=>aA λR=>aA λρ=>aA λF=>eu λs=>aA λvs=>aO _;intros;refine FD O.at_ λoc od sl af=>?_;have aa:C.K.In s.heap:=G.X.keeps H.Hv;have hv:ps.length=vs.length:=by rw[r.length,B]
 have ag:∀y∈ps.zip vs,y.1∈ps:=λy hy=>(List.of_mem_zip hy).1;refine codeAny_call_cells (fd:=fd) (body:=body) (binds:=ps.zip vs) (by have:=hR.dep;exact bw [_,_,_] [] 0x882883825003102200081 ft this) (aa _ _ af) rfl (G.lim.keeps H.Hv) (O.code.keeps H.Hv) O.body (J vs r.length) O.clo
  (λy hy=>(O.par y.1<|ag y hy).imp id λe=>⟨e.1,cg e.1⟩) (λah S=>?_) O.co O.gen O.kind
 refine nP S.done λh₁ z ae I=>?_;subst ae;generalize hL:s.heap.objs.size=L at S⊢;have ad:∀a o,s.heap.get? a=some o->a<L:=λa o e=>hL▸Heap.lt_size e;have W:L<=(callEnvC fd L fa).locals:=Nat.le_refl _;have u:∀a,aV (gM fd L fa ns) a->s.heap.get? a=none:=λa ha=>by
  cases e:s.heap.get? a with
  |none=>rfl
  | some o=>
   have h1:=ad a o e;rcases ha with rfl|⟨x,c,hl,rfl⟩
   ·exact absurd h1<|Nat.not_lt.mpr W
   ·have h2:(callEnvC fd L fa).locals<a:=S.above x a<|mem_of_lookup hl
    exact absurd (Nat.lt_trans h1<|Nat.lt_of_le_of_lt W h2)<|Nat.lt_irrefl _
 have V:At C (gM fd L fa ns) ρ F ⟨xs.map some++List.replicate (ns.length-ps.length) none,[],mem⟩ h₁:=by
  refine⟨?_,⟨O.kind,O.glob,O.blt,O.nodup,rfl,?_,S.apart,λn c hm=>Nat.ne_of_gt<|S.above n c hm,?_,?_⟩,λi U=>Z i,ab⟩
  ·rw[dH];exact H.grow I
  ·refine bE _ _ S.toInCall.ns (λn c e=>S.cell n c e) ?_;intro i x ov h1 h2;cases ov with
   |none=>trivial
   |some pv=>exact sZ O L B r h1<|yN h2
  ·intro a ha ho;rw[dH] at ho;refine aP (H.HJ ho) λo e=>?_;rw[u a ha] at e;exact bU e
  ·intro a ha o e;have:=H.HC a o e;rw[u a ha] at this;exact bU this
 exact h L h₁ z V I u<|hR.deep _
theorem qZ(G:Gd C){fd:FuncData}{ps:List Str}{n:Nat}{mem:Nat->Option (Option PO)}{K:PV->(Nat->Option (Option PO))->Prop}(O:sG C fa fd body ps ns)
  (N:xs.length=ps.length) (B:∀vs:List Value,vs.length=xs.length->bindArgs fd ⟨vs,[]⟩=pure (ps.zip vs))
  (h:∀A' L,Rm A' n->fA C A' (gM fd L fa ns) body ⟨xs.map some++List.replicate (ns.length-ps.length) none,[],mem⟩ (yj K)):Fn C (n+1) (.ref fa) xs mem K:=λA ρ F s vs hR H S Z r=>by
 exact f9 G O N B hR H S Z r λL V u J z I W=>(h _ L W ρ F (wh s V u) J).go λfl h' tk ρ' F' σ' x a' st rx q=>.mk (a'.H.H8 q.2.1) (λU=>rfl) (λn e=>a'.HN n e) (nH z I S st) (aW.IG (uU rx) q.1) q.1 q.2.2
end
end
section
section
variable {C:Cx} {A:Around} {f:Fc} {σ:aC}
noncomputable def di(K:Frag):Value->Bool
 | .ref a=>keepIn K (.ref a)
 |_=>true
theorem jm{M:Model}{K:Frag}{v:Value}(h:di K v=true):∀u,K.In u->∃k,(k=Keeper.frame\/k=Keeper.machine\/k=Keeper.boundFrame)/\Looks M u (keeperOf v) k:=by
 cases v with
 |ref a=>exact λu X=>keeps_K (K:=K) (f:=.ref a) h u X
 |_=>exact λu X=>aD .machine (.inr<|.inl rfl)<|Looks.of_pure rfl
noncomputable def c8(f:Fc)(args:List Expr):Prop:=args=[]\/∃e r,args=e::r/\starEach (e::r) f.env=(false,eval e f.env)::starEach r f.env
theorem gt:∀{C:Cx}{A:Around}{f:Fc}{I:Value}{pos:Pos}{u:List Expr}{R:Args->Shared->Prop}{E:Value->Shared->Prop}{s:Shared}(B:c8 f u)(h:wpAny (model C.prog C.w) A (spliced (backTo pos (starEach u f.env))) (λvs J=>R ⟨vs,[]⟩ J) E s),wpAny (model C.prog C.w) A (evalArgs I true (backTo pos (starEach u f.env)) []) R E s:=by
 intro C A f I pos u R E s B h;rcases B with rfl|⟨e,r,rfl,he⟩
 ·show wpAny _ _ (pure ⟨[],[]⟩) R E s;exact λΓ p z=>h Γ p z
 ·rw[he] at h⊢;exact Calls.evalArgs_plain h
noncomputable def eS(f:Fc)(pos:Pos)(args:List Expr):Prop:=((backTo pos (starEach args f.env)).any (·.1)||([]:List (Option Str×Sem Value)).any (·.1.isNone))=false
theorem bQ.append{u:List PV}(r:bQ P ρ F ws u):∀{xs:List PV}{vs:List Value},bQ P ρ F vs xs->bQ P ρ F (vs++ws) (xs++u):=λ{xs}=>by
 induction xs with
 |nil=>exact λh=>h.HV r
 |cons x xs z=>exact λh=>h.HE λa b=>.cons a<|z b
theorem fP(G:Gd C){pos:Pos}{v:Value}{u:List Value}{first:List PV}{z:List Expr}{Q:PV->aC->Prop}(hk:di C.K v=true)(O:c8 f z)(hn:eS f pos z)
  (h:jo C A f pos z σ λxs σ1=>Cl C A f v (first++xs) σ1 Q) {ρ:Pl} {F:Fz} {s:Shared} (a:At C f ρ F σ s.heap) (r:bQ C ρ F u first):
  fw C A f (callWith pos v u (backTo pos (starEach z f.env)) []) ρ F σ s (VQ C Q):=by
 refine callWith_of (P:=C.K.In) hn (λV X=>jm hk V X)<|gt O<|(h ρ F s a).go λvs Z S J W σ1 xs I B N U=>⟨G.at I,?_⟩
 exact(U J W _ _ I<|bQ.append N<|r.step B).cont B I
theorem uC(G:Gd C){x:Str}{B pos:Pos}{v:Value}(h:Ev C A f (.Name x B) σ λy σ1=>y= .val v/\jo C A f pos args σ1 λxs σ2=>Cl C A f v xs σ2 Q)
  (hk:di C.K v=true) (N:c8 f args) (hn:eS f pos args):Ev C A f (.Call (.Name x B) args [] pos) σ Q:=λρ F s a=>
 wpAny_Call_ofName ((h ρ F s a).go λz V O S U σ1 y I u J q=>
  aW.Ia (X:=λz=>wpAny _ _ (callWith pos z [] (backTo pos<|starEach args f.env) []) _ _ _) (q.1▸J) ((fP (first:=[]) G hk N hn q.2 I .nil).cont u I))
noncomputable def oZ(K:Frag)(D:Addr)(name:Str)(fn:Addr):Bool:=plainGet K D name&&(findIn K (.ref D) name==some (some (.ref fn)))&&(typeIn K (.ref fn)==some (.type "function"))
noncomputable def jq (f : Fc) (o : Expr) (name : Str) (apos pos : Pos) (args : List Expr) (pl : Sem Bool) : Prop :=
  eval (.Call (.Attribute o name apos) args [] pos) f.env = (do
      let ov <- eval o f.env
      standAt apos.atName
      let (g, first) <- holding [ov] (getMethod ov name pl)
      callWith pos g first (backTo pos (starEach args f.env)) [])
theorem bA.append{u:List DV}:∀{xs:List DV}{vs:List Value},bA P F vs xs->bA P F ws u->bA P F (vs++ws) (xs++u):=λ{xs}=>by
 induction xs with
 |nil=>exact λh r=>h.HV r
 |cons x xs z=>exact λh r=>h.HE λa b=>.cons a<|z b r
theorem aW.dv{v:Value}{x:DV}(r:aW P ρ F v (.d x)):bz P F v x:=r.inv
theorem aW.place{v:Value}(r:aW P ρ F v (.at k)):∃p,ρ k=some p/\v= .ref p.1:=by exact r.IF λe=>aD _ e rfl
theorem At.list(a:At C f ρ F σ h)(u:σ.get k=some (.Ha l))(e:ρ k=some p):p.2=p.1/\∃o vs,h.get? p.1=some o/\gd o vs/\bA C F vs l:=by
 exact a.H.here u e
theorem At.G7(a:At C f ρ F σ h){l:List (Int×DV)}(u:σ.get k=some (.G7 l))(e:ρ k=some p):(p.2=p.1/\p.1≠sysModules)/\∃o kvs,h.get? p.1=some o/\dT (intKind C.prog C.w) o kvs/\eQ C F kvs l:=by
 exact a.H.here u e
theorem At.Hh(a:At C f ρ F σ h){l:List (Str×PV)}(u:σ.get k=some (.Hh l))(e:ρ k=some p):(p.2=p.1/\p.1≠sysModules)/\∃o kvs,h.get? p.1=some o/\dT (strKind C.prog C.w) o kvs/\gQ C ρ F kvs l:=by
 exact a.H.here u e
theorem kz{x:DV}(hg:σ.get k=some (.Ha l))(hz:l.length<=100000)(q0:Q (.d .none) (σ.put k (.Ha (l++[x])))):Cl C A f (.builtin "list.append") [.at k,.d x] σ Q:=λρ F s vs a r=>by
 refine r.two (Y:=λvs=>fw C A f (call (.builtin "list.append") vs) ρ F σ s _) λr1 r2=>?_
 refine r1.IF (X:=λv=>fw C A f (call (.builtin "list.append") [v,_]) ρ F σ s _) λ{p} e=>?_
 have L:=a.list hg e
 refine vX L.2 λo vs q=>?_
 refine q.2.1.elim λn e=>?_
 refine append_at (hsz:=by refine(ys List.size_toArray)▸(ys q.2.2.length)▸?_;exact Nat.le_trans hz<|by decide) (e▸q.1) λh' hs hp=>?_
 exact aS.upd (o':=.Ha<|l++[x]) (tk:=s.toks) a hg ‹_› (.inl rfl) (λb ob hb eb=>hs.extBut b ob hb eb) (⟨L.1,bE _ (vs++[_]) hp ⟨n+1,by rw[List.push_toArray]⟩<|q.2.2.append<|.cons r2.dv .nil⟩) (aD _ (.d .none) q0)
theorem fj.Ih{u:Type}{σ:aC}{Q:Pl->Fz->u->aC->Prop}{y:u}{o:Obj}(a:At C f ρ F σ s.heap)(z:o.isFreed=false)
   (r:c9 C ρ F (s.heap.push o) (s.heap.objs.size,s.heap.objs.size) po) (q:∀ρ':Pl,ρ' (.tm σ.G8.length)=some (s.heap.objs.size,s.heap.objs.size)->Q ρ' F y ⟨σ.ls,σ.G8++[some po],σ.mem⟩):aS C f ρ F σ s Q y {s with heap:=s.heap.push o}:=
 aS.IK (pp:=(s.heap.objs.size,s.heap.objs.size)) (tk:=s.toks) a (λU U e=>Heap.get?_push_of_some _ e) (λb e=>(show b=s.heap.objs.size from e.elim id id)▸aZ _) r q
theorem fj{pos:Pos}{N:List Expr}(h:jo C A f pos N σ λxs σ1=>xs.length<=1000/\∃z,mh xs=some z/\Q (.at (.tm σ1.G8.length)) ⟨σ1.ls,σ1.G8++[some (.Ha z)],σ1.mem⟩):Ev C A f (.List N pos) σ Q:=λρ F s a=>
 wpAny_List ((h ρ F s a).go λvs I u U V σ1 xs O B J q=>
  ⟨by refine(ys J.length)▸?_;exact Nat.le_trans q.1 (by decide),aS.after (tk:=u) B O (q.2.elim λz q=>
   fj.Ih (s:=(wh s I u)) (o:={cls:=.type "list",data:=.seq vs.toArray}) (po:=.Ha z) O rfl (⟨rfl,bE _ vs (Heap.get?_push_size _ rfl) ⟨0,rfl⟩<|J.dvs q.1⟩) (λρ' S=>aD _ (.at (k:=.tm σ1.G8.length) (p:=(I.objs.size,I.objs.size)) S) q.2))⟩)
end
end
section
set_option genInjectivity false
section
variable {C:Cx} {A:Around} {f:Fc} {σ:aC}
theorem At.HY{ρ:Pl}{F:Fz}{h h':Heap}(x:At C f ρ F σ h){wr:List Addr}(hw:∀b∈wr,¬bY ρ σ.get b/\(∀o,¬F b o)/\¬aV f b)(hk:∀b o,b∉wr->h.get? b=some o->h'.get? b=some o):At C f ρ F σ h':=by
 refine⟨⟨x.H.base,λa o e=>hk _ _ (λu=>(hw a u).2.1 o e)<|x.H.HC a o e,λk o e=>?_,x.H.sep,x.H.inj⟩,x.R.grow λa z o e=>hk a o (λu=>(hw a u).2.2 z) e,x.fin,x.HN⟩;exact aG (x.H.obj k o e) λp B r=>aD p B<|r.mono (λU U e=>e) (λU U e=>e) λa z N J=>hk _ _ (λu=>(hw a u).1<|bH k o p e B z) J
theorem Ag{C:Cx}{f:Fc}{ρ ρ':Pl}{F F':Fz}{σ σ':aC}{h h':Heap}{wr:List Addr}(a:At C f ρ F σ h)(J:At C f ρ' F' σ' h')(z:bx (bv f) ρ F σ.get h ρ' F' σ'.get h')
  (hw:∀b∈wr,¬bY ρ σ.get b/\(∀o,¬F b o)/\¬aV f b) (B:∀b∈wr,∃o,h.get? b=some o):(∀b∈wr,¬bY ρ' σ'.get b/\(∀o,¬F' b o)/\¬aV f b)/\∀b∈wr,∀o,h.get? b=some o->h'.get? b=some o:=by
 refine⟨λb hb=>?_,λb hb o e=>z.keep b o e (hw b hb).1 λh=>(hw b hb).2.2 h.all⟩;have u:(bY ρ' σ'.get b\/∃o,F' b o)->False:=λe=>by
  rcases z.fresh b e with q|⟨o,q⟩|q
  ·exact(hw b hb).1 q
  ·exact(hw b hb).2.1 o q
  ·refine aP (B b hb) λo e=>?_;rw[q] at e;exact bU e
 exact⟨λe=>u<|.inl e,λo e=>u<|.inr ⟨o,e⟩,(hw b hb).2.2⟩
structure LS(C:Cx)(f:Fc)(X:Addr->Prop)(wr:List Addr)(ρ₀:Pl)(F₀:Fz)(g₀:bR)(h₀ hb:Heap)(ρ:Pl)(F:Fz)(σ:aC)(h:Heap):Prop where
 a:At C f ρ F σ h
 st:bx X ρ₀ F₀ g₀ h₀ ρ F σ.get h
 out:∀b∈wr,¬bY ρ σ.get b/\(∀o,¬F b o)/\¬aV f b
 keep:∀b∈wr,∀o,hb.get? b=some o->h.get? b=some o
theorem bx.onto{X Y:Addr->Prop}{ρ₀ ρ ρ':Pl}{F₀ F F':Fz}{g₀ z:bR}{h₀ h h':Heap}(x:bx X ρ₀ F₀ g₀ h₀ ρ F g h)(J:∀a,bY ρ g a->∀o,¬F a o)(y:bx Y ρ F g h ρ' F' z h')(O:∀b,Y b->X b\/h₀.get? b=none)(B:∀b,X b->∃o,h.get? b=some o):bx X ρ₀ F₀ g₀ h₀ ρ' F' z h' where
 HD:=λk p e=>y.HD _ _ (x.HD _ _ e)
 fz:=λa o e=>y.fz _ _ (x.fz _ _ e)
 keep:=λb o e n1 n2=>y.keep b o (x.keep b o e n1 n2) (λu=>(x.fresh b<|.inl u).elim n1 λq=>q.elim (λq=>q.elim λo' q=>J b u o'<|x.fz _ _ q) λq=>nomatch q.symm.trans e) λq=>(O b q).elim n2 λq=>nomatch q.symm.trans e
 fresh :=λb e=>(y.fresh b e).elim (λq=>x.fresh b<|.inl q) λq=>q.elim (λq=>x.fresh b<|.inr q) λq=>by
  by_cases n1:bY ρ₀ g₀ b
  ·exact .inl n1
  ·cases N:h₀.get? b with
   |none=>exact .inr<|.inr rfl
   | some o=>
    by_cases n2:X b
    ·exact(B b n2).elim λo' S=>nomatch q.symm.trans S
    ·exact nomatch q.symm.trans (x.keep b o N n1 n2)
section
variable {X:Addr->Prop} {wr:List Addr} {ρ₀ ρ ρ':Pl} {F₀ F F':Fz} {g₀:bR} {h₀ hb h h':Heap} {σ σ':aC}
theorem LS.next(L:LS C f X wr ρ₀ F₀ g₀ h₀ hb ρ F σ h)(J:∀b,bv f b->X b\/h₀.get? b=none)(N:∀b,X b->aV f b)(z:∀b∈wr,∃o,hb.get? b=some o)(a:At C f ρ' F' σ' h')(B:bx (bv f) ρ F σ.get h ρ' F' σ'.get h'):LS C f X wr ρ₀ F₀ g₀ h₀ hb ρ' F' σ' h':=by
 exact aL (Ag L.a a B L.out λb u=>(z b u).imp λo e=>L.keep b u o e) λw k=>⟨a,L.st.onto (λb q o=>L.a.HO q o) B J λb q=>L.a.R.has<|N b q,w,λb u o e=>k b u o<|L.keep b u o e⟩
theorem LS.IH(L:LS C f X wr ρ₀ F₀ g₀ h₀ hb ρ F σ h)(u:∀b∈wr,h₀.get? b=none)(hk:∀b o,b∉wr->h.get? b=some o->h'.get? b=some o):LS C f X wr ρ₀ F₀ g₀ h₀ h' ρ F σ h':=
 ⟨L.a.HY L.out hk,⟨L.st.HD,L.st.fz,λb o e n1 n2=>hk b o (λz=>(nomatch (u b z).symm.trans e))<|L.st.keep b o e n1 n2,L.st.fresh⟩,L.out,λU U U e=>e⟩
end
structure B4(C:Cx)(A:Around)(ρ:Pl)(F:Fz)(h₀:Heap)(items:List PV)(inv:aC->Prop)(I:Addr)(fp wr:List Addr)(Pp:Nat->Value->Prop)(St:Nat->Heap->Prop)(h':Heap):Prop where
 old:∀b o,h₀.get? b=some o->h'.get? b=some o
 W:Walks C.prog C.w A I fp wr items.length Pp St
 IX:St 0 h'
 wn:∀b∈wr,h₀.get? b=none
 wh:∀i h,St i h->∀b∈wr,∃o,h.get? b=some o
 P:∀i v,i<items.length->Pp i v->∃y,items[i]? =some y/\aW C ρ F v y
 keep:∀ρ' F'(σ':aC) h'' i h,St i h->HR C ρ' F' σ'.get h''->(∀k p,ρ k=some p->ρ' k=some p)->(∀a o,F a o->F' a o)->inv σ'->(∀b∈wr,∀o,h.get? b=some o->h''.get? b=some o)->St i h''
 go:∀i(s':Shared) tg v(Q':Unit->Shared->Prop)(E:Value->Shared->Prop),St i s'.heap->Q' () s'->wpAny (model C.prog C.w) A (letOwnedTupleGo tg (.ref I) v) Q' E s'
noncomputable def oq(C:Cx)(A:Around)(f:Fc)(x:PV)(σ:aC)(items:List PV)(inv:aC->Prop):Prop:=
 ∀ρ F s v,At C f ρ F σ s.heap->aW C ρ F v x->wpAny (model C.prog C.w) A (pyIter v) (λit s'=>∃I fp wr Pp St h' tk,it= .ref I/\s'=(wh s h' tk)/\B4 C A ρ F s.heap items inv I fp wr Pp St h') (λU U=>False) s
structure LI(C:Cx)(f:Fc)(X:Addr->Prop)(wr:List Addr)(ρ₀:Pl)(F₀:Fz)(g₀:bR)(s:Shared)(St:Nat->Heap->Prop)(n:Nat)(K:Nat->Pl->aC->Prop)(i:Nat)(h:Heap)(ρ:Pl)(F:Fz)(σ:aC):Prop where
 le:i<=n
 atS:St i h
 L:LS C f X wr ρ₀ F₀ g₀ s.heap h ρ F σ h
 kk:K i ρ σ
noncomputable def pM(C:Cx)(f:Fc)(X:Addr->Prop)(wr:List Addr)(ρ₀:Pl)(F₀:Fz)(g₀:bR)(s:Shared)(St:Nat->Heap->Prop)(n:Nat)(K:Nat->Pl->aC->Prop)(k:Nat)(s':Shared):Prop:=
 ∃i h tk ρ F σ,s'=(wh s h tk)/\k=n+1-i/\LI C f X wr ρ₀ F₀ g₀ s St n K i h ρ F σ
theorem Bl{n i:Nat}(h:i<n):n+1-(i+1)<n+1-i:=Nat.sub_lt_sub_left (Nat.lt_succ_of_lt h)<|Nat.lt_succ_self i
section
variable {X:Addr->Prop} {wr fp:List Addr} {ρ₀:Pl} {F₀:Fz} {g₀:bR} {s s':Shared} {h₁ h':Heap} {items:List PV} {inv:aC->Prop} {I:Addr} {Pp:Nat->Value->Prop} {St:Nat->Heap->Prop} {K:Nat->Pl->aC->Prop} {k:Nat}
theorem pM.again{wr:List Addr}{n i:Nat}{hb h:Heap}{ρ:Pl}{F:Fz}{σ:aC}(L:LS C f X wr ρ₀ F₀ g₀ s.heap hb ρ F σ h)(u:i<n)(z:St (i+1) h)(q:K (i+1) ρ σ):∃m,m<n+1-i/\pM C f X wr ρ₀ F₀ g₀ s St n K m (wh s h tk):=
 aD _ (Bl u) (mI (i+1) h tk ρ F σ rfl rfl ⟨u,z,⟨L.a,L.st,L.out,λU U U e=>e⟩,q⟩)
theorem B4.wr0(T:B4 C A ρ₀ F₀ h₁ items inv I fp wr Pp St h')(a:At C f ρ₀ F₀ σ h₁):∀b∈wr,¬bY ρ₀ σ.get b/\(∀o,¬F₀ b o)/\¬aV f b:=λb hb=>
 ⟨λe=>(a.H.HJ e).elim λo g=>(nomatch (T.wn b hb).symm.trans g),λo e=>(nomatch (T.wn b hb).symm.trans (a.H.HC b o e)),λe=>(a.R.has e).elim λo g=>(nomatch (T.wn b hb).symm.trans g)⟩
theorem pM.turn(T:B4 C A ρ₀ F₀ s.heap items inv I fp wr Pp St h')(hk:pM C f X wr ρ₀ F₀ g₀ s St items.length K k s'){Q:Option Value->Shared->Prop}
  (J:∀i v y h tk ρ F σ,items.drop i=y::items.drop (i+1)->aW C ρ F v y->LS C f X wr ρ₀ F₀ g₀ s.heap h ρ F σ h->K i ρ σ->(∀b∈wr,∃o,h.get? b=some o)->(∀h4 V B F4 z,LS C f X wr ρ₀ F₀ g₀ s.heap h B F4 z h4->inv z->K (i+1) B z->∃m,m<k/\pM C f X wr ρ₀ F₀ g₀ s St items.length K m (wh s h4 V))->
   (∀tg(Z:Unit->Shared->Prop)(E:Value->Shared->Prop),Z () (wh s h tk)->wpAny (model C.prog C.w) A (letOwnedTupleGo tg (.ref I) v) Z E (wh s h tk))->Q (some v) (wh s h tk))
  (W:∀h tk ρ F σ,LS C f X wr ρ₀ F₀ g₀ s.heap h ρ F σ h->K items.length ρ σ->Q none (wh s h tk)):wpAny (model C.prog C.w) A (pyNext (.ref I)) Q E s':=by
 refine y9 hk λi h tk ρ F σ aa ab hi=>?_;try clear hk;subst aa;subst ab
 by_cases u:i<items.length
 ·refine T.W.item i _ _ _ u hi.atS λv h2 O hp N S=>?_;have L2:=hi.L.IH T.wn S;refine aG (T.P i v u hp) λy hy ry=>J i v y h2 O ρ F σ ?_ (ry.mono hi.L.st.HD hi.L.st.fz) L2 hi.kk (T.wh _ _ N) (λh4 V B F4 z U q1 q2=>pM.again U u ?_ q2) λtg Z E q=>T.go (i+1) _ tg v Z E N q
  ·exact(ys<|List.drop_eq_getElem_cons u)▸(ys<|(List.getElem?_eq_some_iff.mp hy).2)▸rfl
  ·exact T.keep B F4 z h4 (i+1) h2 N U.a.H U.st.HD U.st.fz q1 U.keep
 ·have e:i=items.length:=Nat.le_antisymm hi.le<|Nat.le_of_not_lt u
  clear J u;subst e;exact T.W.done _ _ _ hi.atS λh2 O S=>W h2 O ρ F σ (hi.L.IH T.wn S) hi.kk
end
noncomputable def kC(C:Cx)(A:Around)(f:Fc)(target:Expr)(body:List Stmt)(inv:aC->Prop):List PV->aC->(Fl->aC->Prop)->Prop
 |[],σ,Q=>Q .next σ
 | x::xs,σ,Q=>As C A f (λv=>assign target f.env v) x σ λσ1=>fA C A f body σ1 λfl σ2=>match fl with
  | .next=>inv σ2/\kC C A f target body inv xs σ2 Q
  | .cont=>inv σ2/\kC C A f target body inv xs σ2 Q
  | .brk=>Q .next σ2
  | .ret v=>Q (.ret v) σ2
theorem AJ{u iter:Expr}{pos:Pos}{body:List Stmt}{Q:Fl->aC->Prop}{x:PV}{items:List PV}{inv:aC->Prop}(hI:oq C A f x σ items inv)(S:inv σ)(hL:kC C A f u body inv items σ Q){ρ:Pl}{F:Fz}{s:Shared}{v:Value}
  (a:At C f ρ F σ s.heap) (r:aW C ρ F v x) {R:Result->Shared->Prop} (hR:∀fl s',aS C f ρ F σ s (FQ C Q) fl s'->R (.ok fl) s'):
  wpAny (model C.prog C.w) A (pyIter v) (λit s'=>codeAny (model C.prog C.w) A (.forLoop u it body [] f.env) R s') (λU U=>False) s:=by
 revert hI S hL a r hR;revert C A f σ u body Q x items inv ρ F s v R;exists ce λC=>cx λA=>dO λf=>dR λσ=>aA λu=>aA λbody=>aA λQ=>oO λx=>aA λitems=>aA λinv=>aA λρ=>aA λF=>eu λs=>aA λv=>aA λR=>aO _;intro C A f σ u body Q x items inv ρ F s v R hI S hL a r hR;refine wpAny_mono (hI ρ F s v a r) (λit s' p=>?_) λU U e=>e;refine tW p λI fp wr Pp St h' tk af ag T=>?_;try clear p;subst af;subst ag;refine codeAny_forLoop_any (pM C f (bv f) wr ρ F σ.get s St items.length λi U σ1=>kC C A f u body inv (items.drop i) σ1 Q) (λk s' hk=>?_) (items.length+1)<|mI 0 h' tk ρ F σ rfl rfl ⟨Nat.zero_le _,T.IX,⟨a.grow T.old,.grow T.old,T.wr0 a,λU U U e=>e⟩,hL⟩
 refine hk.turn T (λi v y h2 V ρ2 F2 σ2 hd ry Z L1 W B aa=>?_) λh2 V ρ2 F2 σ2 Z L1=>wpAny_execs_nil ?_
 ·rw[hd] at L1;refine aa u _ _<|(L1 ρ2 F2 (wh s h2 V) v Z.a ry).use λU h3 ae ab F3 ai a3 ad hb=>(hb ab F3 (wh s h3 ae) a3).go λfl h4 N J F4 O z a4 ah rz hz=>?_
  have L4:=(Z.next (λU=>.inl) (λU=>bv.all) W a3 ad).next (λU=>.inl) (λU=>bv.all) W a4 ah;have out:∀{fl y},p8 C J F4 fl y->Q y O->R (.ok fl) (wh s h4 N):=λry hq=>hR _ _<|bS h4 N J F4 O rfl a4 L4.st<|aD _ ry hq
  revert hz;refine rz.view (λq=>B h4 N J F4 O L4 q.1 q.2) (λq=>out (fl:=.next) (y:=.next) trivial q) (λq=>B h4 N J F4 O L4 q.1 q.2) λv x r q=>out (fl:=.ret v) (y:=.ret x) r q
 ·rw[List.drop_length] at L1;exact hR _ _<|bS h2 V ρ2 F2 σ2 rfl Z.a Z.st<|aD .next trivial L1
end
end
section
set_option genInjectivity false
section
variable {C:Cx} {A:Around} {f:Fc} {σ:aC}
noncomputable def xn (M : Model) (A : Around) (target : Expr) (ifs : List Expr) (elt : Expr) (it acc : Value) (env : Env) (R : Shared -> Prop) (I : Nat -> Shared -> Prop) (n : Nat) (s : Shared) : Prop :=
  wpAny M A (pyNext it) (λr s₁ => match r with
    | none => R s₁
    | some v => wpAny M A (letOwnedTupleGo target it v) (λU s₁' => wpAny M A (assign target env v) (λU s₂ =>
        wpAny M A (forIn ifs true λc r => if r = true then do let ok <- isTrue c env (eval c env); pure (ForInStep.yield ok) else pure (ForInStep.yield r)) (λok s₃ =>
          if ok = true then wpAny M A (eval elt env) (λx s₄ =>
            wpAny M A (call (.builtin "list.append") [acc, x]) (λU s₅ => ∃ m, m < n /\ I m s₅) (λU U => False) s₄) (λU U => False) s₃
          else ∃ m, m < n /\ I m s₃) (λU U => False) s₂) (λU U => False) s₁') (λU U => False) s₁) (λU U => False) s
theorem gy{B u iter:Expr}{z:List Comprehension}{scope:Scope}{pos:Pos}{i:Nat}{W:List Expr}{it acc:Value}{env:Env}{R:Result->Shared->Prop}{prog:Program}{w:World}{s:Shared}(he:compTurn (.ListComp B z scope pos) i it acc env=(do
   standAt iter.pos
   match<-pyNext it with
   |none=>pure (.done .next)
   | some v=>
    letOwnedTupleGo u it v
    assign u env v
    let mut ok:=true
    for c in W do
     if ok then ok<-isTrue c env (eval c env)
    if ok then
     (do let _<-call (.builtin "list.append") [acc,<-eval B env])
    again (.compLoop (.ListComp B z scope pos) i it acc env)))(I:Nat->Shared->Prop)
  (Z:∀n s,I n s->xn (model prog w) A u W B it acc env (R (.ok .next)) I n s)
  (n:Nat) (h:I n s):codeAny (model prog w) A (.compLoop (.ListComp B z scope pos) i it acc env) R s:=by
 revert he Z h;revert A B u iter z scope pos i W it acc env R prog w s I n;exists cx λA=>aA λB=>aA λu=>aA λiter=>aA λz=>aA λscope=>aA λpos=>aA λi=>aA λW=>aA λit=>aA λacc=>aA λenv=>aA λR=>aA λprog=>zV λw=>eu λs=>aA λI=>aA λn=>aO _;intro A B u iter z scope pos i W it acc env R prog w s I n he Z h;refine codeAny_loop rfl I (λn s hI=>?_) n h;revert hI;revert n s;exists aA λn=>eu λs=>aO _;intro n s hI;show wpAny _ A ((compTurn (.ListComp B z scope pos) i it acc env).onRaise<|λx=>do noteFrame x env;theTreesLotGoes x) _ _ s;refine wpAny_noted<|(ys he)▸?_;refine wpAny_bind<|wpAny_standAt<|wpAny_bind<|wpAny_mono (Z n s hI) (λr O N=>?_) λU U e=>e.elim
 revert N;revert r O;exists aA λr=>eu λO=>aO _;intro r O N;cases r with
 |none=>exact wpAny_pure N
 | some v=>
  refine wpAny_bind<|wpAny_mono N (λU af ab=>?_) λU U e=>e.elim
  refine wpAny_bind<|wpAny_mono ab (λU S aa=>wpAny_bind<|wpAny_mono aa (λok V J=>?_) λU U e=>e.elim) λU U e=>e.elim
  revert aa J;revert S ok V;exists eu λS=>aA λok=>eu λV=>aO _;intro S ok V aa J;cases ok with
  | true=>
   rw[if_pos rfl] at J⊢;exact wpAny_bind<|wpAny_bind<|wpAny_mono J (λx ah ad=>wpAny_bind<|wpAny_mono ad (λU ag ae=>wpAny_pure<|wpAny_pure ⟨rfl,ae⟩) λU U e=>e.elim) λU U e=>e.elim
  | false=>
   rw[if_neg Bool.false_ne_true] at J⊢;exact wpAny_bind<|wpAny_pure<|wpAny_pure ⟨rfl,J⟩
noncomputable def cH(scope:Scope)(cl:List (Str×Addr))(D:Addr):List (Str×Addr):=cellsFrom (D+1) scope.names cl
theorem fy{M:Model}{qual:Str}{g:Addr}{Q:Env->Shared->Prop}
  (hQ:Q (newEnv scope s.heap.objs.size g (cH scope cl s.heap.objs.size) qual none .none (some env) builtinsNs) {s with heap:=pushCells (s.heap.push {cls:=.type "dict",data:=.dict #[]}) scope.names}):
  wpAny M A (newFunctionEnv scope g cl [] qual none .none (some env)) Q E s:=by
 simp only[newFunctionEnv,Option.isSome_some,if_true];refine wpAny_bind<|wpAny_alloc ?_
 refine wpAny_bind (wpAny_layCells _ (λname kind cells=>by cases i7:kind==NameKind.cell<;>simp[i7]) _ _ _ _ ?_);refine(ys<|show({s with heap:=s.heap.push {cls:=.type "dict",data:=.dict #[]}}:Shared).heap.objs.size=s.heap.objs.size+1 from Heap.size_push ..)▸?_;refine wpAny_bind ?_;rw[List.forIn_nil];exact wpAny_pure<|wpAny_pure hQ
noncomputable def cn(scope:Scope)(cl:List (Str×Addr))(D:Addr)(own caps:List Str)(f:Fc):Fc:=
 ⟨compEnvC scope (cH scope cl D) D f.env,own++caps,own⟩
noncomputable def jc(own caps:List Str)(f:Fc)(σ:aC):List (Option PV):=own.map (λU=>none)++caps.map λx=>(σ.ls[f.ns.idxOf x]?).join
structure dz(scope:Scope)(cl:List (Str×Addr))(own caps:List Str)(f:Fc):Prop where
 kind:scope.kind= .function
 I1:closureFor scope f.env=pure cl
 names:∀x∈scope.names,x.2= .local->scope.names.lookup x.1=some .local
 nodup:(own++caps).Nodup
 capK:∀x∈caps,((relabel scope f.env).names.lookup x=some .cell\/(relabel scope f.env).names.lookup x=some .free)/\(x==("__classdict__":Str))=false/\(f.env.kindOf x=some .cell\/f.env.kindOf x=some .free)/\f.ns[f.ns.idxOf x]? =some x/\
  cl.lookup x=f.env.cells.lookup x/\scope.names.lookup x≠some .cell
 Ic:∀p∈cl,f.env.cells.lookup p.1=some p.2
 IQ:(cl.map (·.1)).Nodup
 ownC:∀x∈own,cl.lookup x=none
 I7:∀p∈cl,(p.1,NameKind.cell)∉scope.names
theorem gG:∀(u:List (Str×NameKind))(n:Nat)(acc:List (Str×Addr))(p:Str×Addr),p∈cellsFrom n u acc->p∈acc\/(n<=p.2/\(p.1,NameKind.cell)∈u):=λu=>by
 induction u with
 | nil=>
  intro n acc p h;exact .inl h
 | cons J r I=>
  obtain⟨name,kind⟩:=J;intro n acc p h;unfold cellsFrom at h
  split at h
  ·rename_i hk
   rcases I (n+1) _ p h with h|⟨B,z⟩
   ·rcases List.mem_cons.mp h with rfl|h
    ·exact .inr ⟨Nat.le_refl _,by refine(ys<|beq_iff_eq.mp hk)▸?_;exact List.mem_cons_self⟩
    ·exact .inl h
   ·exact .inr ⟨Nat.le_of_succ_le B,List.mem_cons_of_mem _ z⟩
  ·rcases I n acc p h with h|⟨B,z⟩
   ·exact .inl h
   ·exact .inr ⟨B,List.mem_cons_of_mem _ z⟩
theorem fT:∀(u:List (Str×NameKind))(n:Nat)(acc:List (Str×Addr)),cellsFrom n u acc=cellsFrom n u []++acc:=λu=>by
 induction u with
 | nil=>
  intro n acc;exact rfl
 | cons B r z=>
  obtain⟨name,kind⟩:=B;intro n acc;unfold cellsFrom
  split
  ·rw[z (n+1) ((name,n)::acc),z (n+1) [(name,n)],List.append_assoc];rfl
  ·exact z n acc
theorem sY{B:Type}{x:Str}:∀(l r:List (Str×B)),(l++r).lookup x=(l.lookup x).or (r.lookup x):=λl=>by
 induction l with
 | nil=>
  intro r;simp
 | cons z l u=>
  obtain⟨n,c⟩:=z;intro r;rw[List.cons_append,List.lookup_cons,List.lookup_cons];cases x==n with
  |true=>rfl
  |false=>exact u r
theorem gX{u:Type}{l:List (Str×u)}{n:Str}{c:u}(h:l.lookup n=some c):(n,c)∈l:=mem_of_lookup h
theorem pX(x:Str):(cH scope cl D).lookup x=((cellsFrom (D+1) scope.names []).lookup x).or (cl.lookup x):=by
 unfold cH;rw[fT,sY]
theorem kl:∀{scope u D x c}(h:(cH scope u D).lookup x=some c),((cellsFrom (D+1) scope.names []).lookup x=some c)\/((cellsFrom (D+1) scope.names []).lookup x=none/\u.lookup x=some c):=by
 intro scope u D x c h;rw[pX] at h;cases e:(cellsFrom (D+1) scope.names []).lookup x with
 |some c'=>rw[e] at h;exact .inl h
 |none=>rw[e] at h;exact .inr ⟨rfl,h⟩
theorem yU{x:Str}(h:(x,NameKind.cell)∉scope.names):(cellsFrom (D+1) scope.names []).lookup x=none:=by
 cases e:(cellsFrom (D+1) scope.names []).lookup x with
 |none=>rfl
 |some c=>exact(gG _ _ _ _<|mem_of_lookup e).elim (λq=>nomatch q) λq=>(h q.2).elim
noncomputable def Fq(t:List (Str×Addr))(cm:Str->Option Value)(x:Str):Option Value:=match t.lookup x with|some _=>none|none=>cm x
theorem CB{t:List (Str×Addr)}{x:Str}(h:t.lookup x=none):Fq t cm x=cm x:=by unfold Fq;exact(ys h)▸rfl
theorem FM{t:List (Str×Addr)}{x:Str}{c:Addr}(h:t.lookup x=some c):Fq t cm x=none:=by unfold Fq;exact(ys h)▸rfl
theorem DB{u:Type}{o:Option (Option u)}{x:u}(h:o.join=some x):o=some (some x):=by
 cases o with
 |none=>exact bU h
 |some y=>exact congrArg some h
theorem s0:∀{C:Cx}{f:Fc}{σ:aC}{scope:Scope}{z:List (Str×Addr)}{own caps:List Str}{D:Addr}{m B:Str->Option Value}{ρ:Pl}{F:Fz}{i:Nat}{x:Str}{pv:PV}(O:dz scope z own caps f)(N:∀(i:Nat)(x:Str)(W:Option PV),f.ns[i]? =some x->σ.ls[i]? =some W->du C ρ F f m B x W)(J:(own++caps)[i]? =some x)(u:(jc own caps f σ)[i]? =some (some pv)),du C ρ F (cn scope z D own caps f) (λU=>none) (Fq (cellsFrom (D+1) scope.names []) B) x (some pv):=by
 exists ce λC=>dO λf=>dR λσ=>aA λscope=>aA λz=>aA λown=>aA λcaps=>aA λD=>aA λm=>aA λB=>aA λρ=>aA λF=>aA λi=>aA λx=>oO λpv=>aO _;intros;unfold jc at u
 by_cases hi:i<own.length
 ·rw[List.getElem?_append_left (by rw[List.length_map];exact hi),List.getElem?_map] at u;cases e:own[i]? with
  |none=>rw[e] at u;cases u
  |some y=>rw[e] at u;cases u
 ·have hi:=Nat.le_of_not_lt hi;rw[List.getElem?_append_right hi] at J;rw[List.getElem?_append_right (by rw[List.length_map];exact hi),List.length_map,List.getElem?_map,J] at u;have K:=O.capK x<|List.mem_of_getElem? J
  refine(N _ x _ K.2.2.2.1<|DB<|oi u).imp λv q=>⟨q.1,.inr ⟨K.1,K.2.1,?_⟩⟩
  revert v;exists aA λv=>aO _;intros;rcases q.2 with⟨g1,_⟩|⟨_,_,⟨c,g⟩,Z⟩
  ·rcases K.2.2.1 with V|V<;>cases V.symm.trans g1
  ·revert c;exists aA λc=>aO _;intros;have I:=K.2.2.2.2.1.trans g;have S:=yU (D:=D)<|O.I7 (x,c)<|mem_of_lookup I
   exact⟨⟨c,(pX x).trans<|by refine(ys S)▸?_;exact I⟩,(CB S).trans Z⟩
theorem At.enter:∀{C:Cx}{f:Fc}{σ:aC}{ρ:Pl}{F:Fz}{h:Heap}{scope:Scope}{I:List (Str×Addr)}{own caps:List Str}(a:At C f ρ F σ h)(O:dz scope I own caps f),At C (cn scope I h.objs.size own caps f) ρ F ⟨jc own caps f σ,σ.G8,σ.mem⟩ (pushCells (h.push {cls:=.type "dict",data:=.dict #[]}) scope.names)/\
  (∀b o,h.get? b=some o->(pushCells (h.push {cls:=.type "dict",data:=.dict #[]}) scope.names).get? b=some o)/\
  (∀b,bv (cn scope I h.objs.size own caps f) b->h.get? b=none):=by
 exists ce λC=>dO λf=>dR λσ=>aA λρ=>aA λF=>aA λh=>aA λscope=>aA λI=>aA λown=>aA λcaps=>aO _;intros;generalize hH:pushCells (h.push {cls:=.type "dict",data:=.dict #[]}) scope.names=H;have hk:∀b o,h.get? b=some o->H.get? b=some o:=λb o e=>hH▸pushCells_keeps _ _ b o (Heap.get?_push_of_some _ e);have ok:=cellsFrom_ok scope.names (h.push {cls:=.type "dict",data:=.dict #[]}) (h.objs.size+1) [] ⟨λU U hm=>(nomatch hm),List.Pairwise.nil⟩ (by rw[Heap.size_push];exact Nat.le_refl _);rw[Heap.size_push,hH] at ok;have V:H.Ns h.objs.size (λU=>none):=hH▸(Heap.Ns.new h<|.type "dict").keeps (pushCells_keeps _ _);have u:∀b,h.objs.size<=b->h.get? b=none:=λb S=>by
  cases e:h.get? b with
  |none=>rfl
  |some o=>exact absurd (Heap.lt_size e)<|Nat.not_lt.mpr S
 refine bM a.R.HF λm cm hn hc hs=>?_;revert ok V u;generalize h.objs.size=D;intro ok V u;have J:∀x c,(cellsFrom (D+1) scope.names []).lookup x=some c->h.get? c=none:=λx c e=>u _<|Nat.le_of_succ_le (ok.empty x _<|mem_of_lookup e).2
 have z:∀b,aV (cn scope I D own caps f) b->h.get? b=none\/aV f b:=λb S=>by
  rcases S with rfl|⟨x,c,hl,rfl⟩
  ·exact .inl<|u _<|Nat.le_refl _
  ·exact(kl hl).imp (J x b) λe=>.inr<|dk x b (O.Ic (x,b)<|mem_of_lookup e.2) rfl
 refine⟨⟨a.H.grow hk,⟨O.kind,a.R.glob,a.R.blt,O.nodup,a.R.frame,(bE (λU=>none) (Fq (cellsFrom (D+1) scope.names []) cm) V (λn c e=>?_)<|λi x ov Z h2=>?_),?_,λn c hm=>?_,λb S B=>?_,λb S o B=>?_⟩,a.fin,a.HN⟩,hk,?_⟩
 ·rcases kl e with e|⟨e,e'⟩
  ·refine(ys<|FM e)▸?_;exact(ok.empty n _<|mem_of_lookup e).1
  ·refine(ys<|CB e)▸?_;exact(hc n c<|O.Ic (n,c)<|mem_of_lookup e').keeps hk
 ·cases ov with
  |none=>trivial
  |some pv=>exact s0 O hs Z h2
 ·show(cH scope I D).Pairwise _;unfold cH;rw[fT];refine List.pairwise_append.mpr ⟨ok.apart,(List.pairwise_map.mp O.IQ).imp_of_mem λ{x y} W hy aa=>λe=>aa ?_,λx W y hy e=>?_⟩
  ·have Z:=(ok.empty x.1 x.2 W).2;rw[e] at Z;refine aG (hc y.1 y.2<|O.Ic y hy) λo B U=>?_;cases(u _<|Nat.le_of_succ_le Z).symm.trans B
  ·exact name_of_addr a.R.apart (mem_of_lookup<|O.Ic x W) (by refine(ys e)▸?_;exact mem_of_lookup<|O.Ic y hy)
 ·have N:(n,c)∈cH scope I D:=hm;unfold cH at N;rw[fT] at N;show c≠D;rcases List.mem_append.mp N with q|q
  ·exact Nat.ne_of_gt (ok.empty n c q).2
  ·intro e;refine aG (hc n c<|O.Ic (n,c) q) λo B U=>?_;cases(u _<|Nat.le_of_eq e.symm).symm.trans B
 ·exact(z b S).elim (λq=>(a.H.HJ B).elim λo e=>nomatch q.symm.trans e) λq=>a.R.Hj b q B
 ·exact(z b S).elim (λq=>nomatch q.symm.trans (a.H.HC b o B)) λq=>a.R.HT b q o B
 ·rintro b (rfl|⟨x,c,W,hl,rfl⟩)
  ·exact u _<|Nat.le_refl _
  ·exact(kl hl).elim (J x b) λe=>nomatch (O.ownC x W).symm.trans e.2
theorem At.leave:∀{C f σ ρ ρ' F F' h h' O σ'}(a:At C f ρ F σ h)(N:At C O ρ' F' σ' h')(I:bx (λU=>False) ρ F σ.get h ρ' F' σ'.get h'),At C f ρ' F' ⟨σ.ls,σ'.G8,σ'.mem⟩ h':=by
 intro C f σ ρ ρ' F F' h h' O σ' a N I;have S:aC.get ⟨σ.ls,σ'.G8,σ'.mem⟩=σ'.get:=by funext k;cases k<;>rfl
 have z:∀b o,h.get? b=some o->¬bY ρ σ.get b->h'.get? b=some o:=λb o e n=>I.keep b o e n λq=>q;have u:∀b o,h.get? b=some o->(bY ρ' σ'.get b\/∃o,F' b o)->bY ρ σ.get b\/∃o,F b o:=λb o e q=>by
  rcases I.fresh b q with r|r|r
  ·exact .inl r
  ·exact .inr r
  ·rw[e] at r;exact jg r
 refine⟨?_,?_,λi hi=>N.fin i hi,N.HN⟩
 ·refine(ys S)▸?_;exact N.H
 ·refine(ys S)▸?_;have R:=a.R;refine{R with HF:=?_,Hj:=?_,HT:=?_}
  ·refine bM R.HF λm Z hn hc V=>bE m Z (hn.at' λo e=>z _ o e<|R.Hj _<|.inl rfl) (λn c e=>?_)<|λi y ov W e2=>(V i y ov W e2).mono I.HD I.fz
   exact aG (hc n c e) λo J hd=>aD o (z c o J<|R.Hj c<|.inr<|dk n c e rfl) hd
  ·intro b B J;refine aP (R.has B) λo e=>?_;rcases u b o e (.inl J) with q|⟨o',q⟩
   ·exact R.Hj b B q
   ·exact R.HT b B o' q
  ·intro b B o' J;refine aP (R.has B) λo e=>?_;rcases u b o e (.inr ⟨o',J⟩) with q|⟨o2,q⟩
   ·exact R.Hj b B q
   ·exact R.HT b B o2 q
theorem bx.on{u ρ2:Pl}{B O:Fz}{z J:bR}{I N:Heap}{X:Addr->Prop}(x:bx (λU=>False) ρ F g h u B z I)(S:∀a,bY u z a->∀o,¬B a o)(y:bx X u B z I ρ2 O J N)(V:∀b,X b->h.get? b=none):
  bx (λU=>False) ρ F g h ρ2 O J N where
 HD:=λk p e=>y.HD _ _ (x.HD _ _ e)
 fz:=λa o e=>y.fz _ _ (x.fz _ _ e)
 keep:=λb o e n U=>by
  refine y.keep b o (x.keep b o e n<|λq=>q) (λn2=>?_) (λq=>by rw[V b q] at e;exact bU e);rcases x.fresh b (.inl n2) with q|⟨o',q⟩|q
  ·exact n q
  ·exact S b n2 o'<|x.fz _ _ q
  ·rw[e] at q;exact jg q
 fresh :=λb q=>by
  rcases y.fresh b q with r|r|r
  ·exact x.fresh b<|.inl r
  ·exact x.fresh b<|.inr r
  ·by_cases n:bY ρ g b
   ·exact .inl n
   ·refine .inr<|.inr ?_
    cases e:h.get? b with
    |none=>rfl
    |some o=>rw[x.keep b o e n (λq=>q)] at r;exact jg r
theorem bx.weak{u:Pl}{B:Fz}{z:bR}{h1:Heap}{X:Addr->Prop}(x:bx (λU=>False) ρ F g h u B z h1):bx X ρ F g h u B z h1:=⟨x.HD,x.fz,λa o e n U=>x.keep a o e n<|λq=>q,x.fresh⟩
noncomputable def PO.dv:PO->Option DV
 | .Ha l=>some (.seq l)
 | .G7 l=>some (.G7 l)
 | .Hx l=>some (.Hx l)
 |_=>none
theorem zf:∀{σ:aC}{k:Ky}{o:PO}{j:Nat}(e:aC.get ⟨σ.ls,σ.G8.set j none,σ.mem⟩ k=some o),σ.get k=some o/\k≠ .tm j:=by
 intro σ k o j e;cases k with
 |sk n=>exact⟨e,nofun⟩
 | tm i=>
  have e:((σ.G8.set j none)[i]?).join=some o:=e
  by_cases q:j=i
  ·rw[q,List.getElem?_set_self'] at e;cases h:σ.G8[i]? with
   |none=>rw[h] at e;exact bU e
   |some x=>rw[h] at e;exact bU e
  ·rw[List.getElem?_set_ne q] at e;exact⟨e,λu=>q (Ky.tm.inj u).symm⟩
theorem At.HC:∀{C f σ ρ F h X j po d p}(a:At C f ρ F σ h)(N:σ.get (.tm j)=some po)(J:po.dv=some d)(S:ρ (.tm j)=some p),∃o,bz C (b9 F [(p.1,o)]) (.ref p.1) d/\At C f ρ (b9 F [(p.1,o)]) ⟨σ.ls,σ.G8.set j none,σ.mem⟩ h/\bx X ρ F σ.get h ρ (b9 F [(p.1,o)]) (aC.get ⟨σ.ls,σ.G8.set j none,σ.mem⟩) h:=by
 exists ce λC=>dO λf=>dR λσ=>aA λρ=>aA λF=>aA λh=>aA λX=>aA λj=>yG λpo=>zR λd=>aA λp=>aO _;intros;have r:=a.H.here N S;have u:∀k o,aC.get ⟨σ.ls,σ.G8.set j none,σ.mem⟩ k=some o->σ.get k=some o/\k≠ .tm j:=λk o e=>zf e;have B:∃o,h.get? p.1=some o/\bz C (b9 F [(p.1,o)]) (.ref p.1) d:=by
  cases po with
  |Ha l=>exact oi J▸vX r.2 λo vs q=>aD o q.1<|.seq (.inr<|.head _) q.2.1<|q.2.2.mono b9.old
  |G7 l=>exact oi J▸vX r.2 λo vs q=>aD o q.1<|.G7 r.1.2 (.inr<|.head _) q.2.1<|q.2.2.mono b9.old
  |Hx l=>exact oi J▸D9 r.2 λo es ep q=>aD o q.1<|.Hx r.1.2 (.inr<|.head _) q.2.1 q.2.2.1<|q.2.2.2.mono b9.old
  |_=>exact bU J
 have z:bY ρ σ.get p.1:=bH (.tm j) po p N S<|.inl rfl
 refine B.imp λo m=>⟨m.2,a.more (λU U e=>e) rfl (λi hi=>by rw[List.length_set] at hi;exact hi) (λU e=>e) (λk o e=>(u k o e).1) λq Z=>?_,λU U e=>e,b9.old,λU U e U U=>e,λb e=>?_⟩
 ·refine(ys<|List.mem_singleton.mp Z)▸?_;exact⟨m.1,λW=>ca W λk I q O V e3=>(u k I O).2<|a.H.inj k (.tm j) I po q p p.1 (u k I O).1 N V S e3<|.inl rfl,λhb=>a.R.Hj _ hb z⟩
 ·rcases e with⟨k,o,q,O,V⟩|⟨I,e|e⟩
  ·exact .inl<|rp k o q ((u k o O).1) V
  ·exact .inr<|.inl ⟨I,e⟩
  ·cases List.mem_singleton.mp e;exact .inl z
noncomputable def zU(C:Cx)(A:Around)(f:Fc):List Expr->aC->(Bool->aC->Prop)->Prop
 |[],σ,K=>K true σ
 |[c],σ,K=>Tt C A f c σ K
 |_,_,_=>False
theorem uy{K:Bool->aC->Prop}(h:zU C A f ifs σ K)(a:At C f ρ F σ s.heap):
  fw C A f (forIn ifs true λc r=>if r=true then do let ok<-isTrue c f.env (eval c f.env);pure (ForInStep.yield ok) else pure (ForInStep.yield r)) ρ F σ s (λU U b σ'=>K b σ'):=by
 match ifs,h with
 |[],h=>exact wpAny_tests_nil<|aS.same (tk:=s.toks) a h
 |[c],h=>exact wpAny_tests_one<|h ρ F s a
noncomputable def nj(C:Cx)(A:Around)(f:Fc)(target:Expr)(ifs:List Expr)(elt:Expr)(j:Nat)(inv:aC->Prop):List PV->aC->(aC->Prop)->Prop
 |[],σ,Q=>Q σ
 | x ::xs,σ,Q=>As C A f (λv=>assign target f.env v) x σ λσ1=>zU C A f ifs σ1 λb σ2=>if b=true then
   Ev C A f elt σ2 λy σ3=>∃d l,y= .d d/\σ3.get (.tm j)=some (.Ha l)/\l.length<=100000/\inv (σ3.put (.tm j) (.Ha (l++[d])))/\nj C A f target ifs elt j inv xs (σ3.put (.tm j) (.Ha (l++[d]))) Q
  else inv σ2/\nj C A f target ifs elt j inv xs σ2 Q
end
end
section
section
variable {C:Cx} {A:Around} {f:Fc} {σ:aC}
theorem lb(u:Heap.SameBut D h h'):∀b o,b∉[D]->h.get? b=some o->h'.get? b=some o:=λb o z e=>u.extBut b o (λq=>z<|List.mem_singleton.mpr q) e
theorem fF{b:Addr}(e:h'.get? b=none)(k:∀o,h.get? b=some o->h'.get? b=some o):h.get? b=none:=by
 cases q:h.get? b with
 |none=>rfl
 |some o=>exact nomatch e.symm.trans (k o q)
theorem zP(O:dz scope cl own caps f){z:Pl}{S:Fz}{B N h4:Heap}{items:List PV}{inv:aC->Prop}{I:Addr}{fp wr:List Addr}{Pp:Nat->Value->Prop}{St:Nat->Heap->Prop}(a:At C f ρ F σ B)(V:Heap)(T:B4 C A ρ F B items inv I fp wr Pp St V){u:aC}
  (a3:At C f z S u N) (J:bx (bv f) ρ F σ.get V z S u.get N) (Z:∀b o,V.get? b=some o->N.get? b=some o) (a4:At C (cn scope cl N.objs.size own caps f) z S ⟨jc own caps f u,u.G8,u.mem⟩ h4) (k4:∀b o,N.get? b=some o->h4.get? b=some o):
  LS C (cn scope cl N.objs.size own caps f) (λU=>False) wr ρ F σ.get B h4 z S ⟨jc own caps f u,u.G8,u.mem⟩ h4:=by
 have g:aC.get ⟨jc own caps f u,u.G8,u.mem⟩=u.get:=by funext k;cases k<;>rfl
 refine⟨a4,g▸⟨J.HD,J.fz,λb o e n U=>k4 b o<|Z b o<|T.old b o e,λb q=>(J.fresh b q).imp id λr=>r.imp id λr=>fF r<|T.old b⟩,λb hb=>?_,λU U U e=>e⟩;refine aP (T.wh 0 V T.IX b hb) λo eo=>?_;have W:=T.wr0 a b hb;have no:¬(bY z u.get b\/∃o,S b o):=λq=>(J.fresh b q).elim W.1 λq=>q.elim (λaa=>aP aa λo q=>W.2.1 o q) λq=>(nomatch q.symm.trans eo)
 refine⟨λq=>no<|.inl<|g▸q,λo q=>no<|.inr ⟨o,q⟩,λq=>q.elim (λq=>?_) λab=>nP ab λn c q e=>?_⟩
 ·have q:b=N.objs.size:=q;exact Nat.lt_irrefl _<|q▸Heap.lt_size (Z _ _ eo)
 ·subst e;have q:(cH scope cl N.objs.size).lookup n=some b:=q;unfold cH at q;exact(gG _ _ _ _<|mem_of_lookup q).elim (λg=>W.2.2<|.inr<|dk n b (O.Ic (n,b) g) rfl) λg=>Nat.lt_irrefl _<|Nat.lt_trans (Heap.lt_size<|Z _ _ eo) g.1
theorem rG:∀{C:Cx}{f:Fc}{σ:aC}{J:Fc}{wr:List Addr}{ρ I:Pl}{F F6:Fz}{s:Shared}{Z:Heap}{B:Nat}{u:aC}{L:Addr}{l:List DV}{Q:PV->aC->Prop}{V:Heap}{RR:Value->Addr->Result->Shared->Prop}(a:At C f ρ F σ s.heap)(S:LS C J (λU=>False) wr ρ F σ.get s.heap V I F6 u Z)(z:I (.tm σ.G8.length)=some (L,L))(hl:u.get (.tm σ.G8.length)=some (.Ha l))(hq:Q (.d (.seq l)) ⟨σ.ls,u.G8.set σ.G8.length none,u.mem⟩)(N:s.heap.get? J.env.locals=none)(W:∀w D h' tk ρ' F' σ' pv,aW C ρ' F' w pv->At C f ρ' F' σ' h'->bx (bv f) ρ F σ.get s.heap ρ' F' σ'.get h'->Q pv σ'->(∃m,h'.Ns D m)->s.heap.get? D=none->(¬bY ρ' σ'.get D/\(∀o,¬F' D o)/\¬aV f D)->RR w D (.ok .next) (wh s h' tk)),RR (.ref L) J.env.locals (.ok .next) (wh s Z B):=by
 intro C f σ J wr ρ I F F6 s Z B u L l Q V RR a S z hl hq N W;have g7:aC.get ⟨σ.ls,u.G8,u.mem⟩=u.get:=by funext k;cases k<;>rfl
 have a7:=a.leave S.a S.st;refine cj (a7.HC (X:=λU=>False) (show aC.get ⟨σ.ls,u.G8,u.mem⟩ (.tm σ.G8.length)=some (.Ha l) from hl) (d:=.seq l) rfl z) λo ro a8 O=>?_;rw[g7] at O;have R:=S.a.R;have no:∀{X:Prop},bY _ _ J.env.locals\/(∃o,_)->X:=λq=>(O.fresh J.env.locals q).elim (λg=>absurd g<|R.Hj _<|.inl rfl) λg=>g.elim (λaa=>aP aa λo g=>absurd g<|R.HT _ (.inl rfl) o) λg=>(R.has<|.inl rfl).elim λo e=>(nomatch g.symm.trans e)
 exact bM R.HF λm cm hn hc hs=>W (.ref L) J.env.locals Z B _ _ _ (.d<|.seq l) (.d ro) a8 (S.st.on (λb V o=>S.a.HO V o) O<|λb V=>V.elim).weak hq ⟨m,hn⟩ N ⟨λq=>no<|.inl q,λo q=>no<|.inr ⟨o,q⟩,λq=>(a.R.has q).elim λo e=>(nomatch N.symm.trans e)⟩
theorem va{X:Addr->Prop}{z:bR}{h'':Heap}(u:bx X ρ F g h ρ' F' z h')(I:Heap.SameBut D h' h'')(B:h.get? D=none):bx X ρ F g h ρ' F' z h'':=
 ⟨u.HD,u.fz,λb o e n1 n2=>I.extBut b o (λq=>nomatch (q▸B:h.get? b=none).symm.trans e)<|u.keep b o e n1 n2,u.fresh⟩
noncomputable def CK(C:Cx)(A:Around)(cf:Fc)(target:Expr)(ifs:List Expr)(elt:Expr)(j:Nat)(inv:aC->Prop)(items:List PV)(QQ:aC->Prop)(LA:Addr)(i:Nat)(ρ:Pl)(σ:aC):Prop:=ρ (.tm j)=some (LA,LA)/\nj C A cf target ifs elt j inv (items.drop i) σ QQ
theorem n9:∀{C A W X z ρ F s s' h' items inv I Z fp wr Pp St u J N j k QQ R}(T:B4 C A ρ F s.heap items inv I fp wr Pp St h')(hx:∀b,bv W b->X b\/s.heap.get? b=none)(hX:∀b,X b->aV W b)(hk:pM C W X wr ρ F z s St items.length (CK C A W u N J j inv items QQ Z) k s')(hE:∀h6 O B F6 V,LS C W X wr ρ F z s.heap h6 B F6 V h6->B (.tm j)=some (Z,Z)->QQ V->R (wh s h6 O)),xn (model C.prog C.w) A u N J (.ref I) (.ref Z) W.env R (pM C W X wr ρ F z s St items.length (CK C A W u N J j inv items QQ Z)) k s':=by
 exists ce λC=>cx λA=>dO λW=>aA λX=>aA λz=>aA λρ=>aA λF=>eu λs=>eu λs'=>aA λh'=>aA λitems=>aA λinv=>aA λI=>aA λZ=>aA λfp=>aA λwr=>aA λPp=>aA λSt=>aA λu=>aA λJ=>aA λN=>aA λj=>aA λk=>aA λQQ=>aA λR=>aO _;intros;refine hk.turn T (λi v2 y h6 O B F6 V hd ry L6 K ab S aw=>aw u _ _ ?_) λh6 O B F6 V L6 K=>hE h6 O B F6 V L6 K.1 (by have q:=K.2;rw[List.drop_length] at q;exact q);have q6:=K.2;rw[hd] at q6;refine(q6 B F6 (wh s h6 O) v2 L6.a ry).use λU h7 bb ba F7 a2 a7 ai hb=>(uy hb a7).use λok h8 aj ag F8 az a8 al aa=>?_;have L8:=(L6.next hx hX ab a7 ai).next hx hX ab a8 al;have af:=al.HD _ _<|ai.HD _ _ K.1
 cases ok with
 | false=>
  rw[if_neg Bool.false_ne_true] at aa⊢;exact S h8 aj ag F8 az L8 aa.1 ⟨af,aa.2⟩
 | true=>
  rw[if_pos rfl] at aa⊢;refine(aa ag F8 (wh s h8 aj) a8).go λyv h9 a0 ap F9 av U a9 am an hz=>iP hz λd l au hg hl q9=>?_;try clear hz;subst au;have ae:=am.HD _ _ af;refine(kz (A:=A) (Q:=λU σ'=>σ'=av.put (.tm j) (.Ha<|l++[d])) hg hl rfl ap F9 (wh s h9 a0) [.ref Z,yv] a9<|.cons (.at (p:=(Z,Z)) ae)<|.cons an .nil).go λU ar ah ak aq a1 U ao ad U ay=>?_;subst ay;exact S ar ah ak aq _ ((L8.next hx hX ab a9 am).next hx hX ab ao ad) q9.1 ⟨ad.HD _ _ ae,q9.2⟩
noncomputable def sI(C:Cx)(A:Around)(cf:Fc)(e:Expr)(j:Nat)(items:List PV)(inv:aC->Prop)(σ0:aC)(QQ:aC->Prop):Prop:=
 ∀{g₀:bR}{ρ ρ3:Pl}{F F3:Fz}{s:Shared}{h' h4:Heap}{tk:Nat}{I LA:Addr}{fp wr:List Addr}{Pp:Nat->Value->Prop}{St:Nat->Heap->Prop}{R:Result->Shared->Prop},B4 C A ρ F s.heap items inv I fp wr Pp St h'->LS C cf (λU=>False) wr ρ F g₀ s.heap h4 ρ3 F3 σ0 h4->St 0 h4->
  (∀b,bv cf b->False\/s.heap.get? b=none)->ρ3 (.tm j)=some (LA,LA)->(∀h6 tk6 ρ6 F6 σ6,LS C cf (λU=>False) wr ρ F g₀ s.heap h6 ρ6 F6 σ6 h6->ρ6 (.tm j)=some (LA,LA)->QQ σ6->R (.ok .next) (wh s h6 tk6))->
  codeAny (model C.prog C.w) A (.compLoop e 0 (.ref I) (.ref LA) cf.env) R (wh s h4 tk)
theorem og{I:Fc}{z:aC}{items:List PV}{inv:aC->Prop}{pos:Pos}{QQ:aC->Prop}(N:nj C A I target ifs elt j inv items z QQ):sI C A I (.ListComp elt [⟨target,iter,ifs,0⟩] scope pos) j items inv z QQ:=λT S B J u O=>
 gy (compTurn_list ..) _ (λk V hk=>n9 T J (λU=>False.elim) hk O) (items.length+1) (mI 0 _ _ _ _ _ rfl rfl ⟨Nat.zero_le _,B,S,u,N⟩)
noncomputable def xm(own caps:List Str)(f:Fc)(σ:aC):aC:=⟨jc own caps f ⟨σ.ls,σ.G8++[some (.Ha [])],σ.mem⟩,σ.G8++[some (.Ha [])],σ.mem⟩
noncomputable def yY(σ:aC)(Q:PV->aC->Prop)(σ':aC):Prop:=∃l,σ'.get (.tm σ.G8.length)=some (.Ha l)/\Q (.d (.seq l)) ⟨σ.ls,σ'.G8.set σ.G8.length none,σ'.mem⟩
noncomputable def lE(C:Cx)(A:Around)(f:Fc)(scope:Scope)(cl:List (Str×Addr))(e:Expr)(x:PV)(σ:aC)(Q:PV->aC->Prop):Prop:=
 ∀{ρ:Pl}{F:Fz}{s:Shared}{v:Value},At C f ρ F σ s.heap->aW C ρ F v x->∀{RR:Value->Addr->Result->Shared->Prop},
  (∀w D h' tk ρ' F' σ' pv,aW C ρ' F' w pv->At C f ρ' F' σ' h'->bx (bv f) ρ F σ.get s.heap ρ' F' σ'.get h'->Q pv σ'->(∃m,h'.Ns D m)->s.heap.get? D=none->(¬bY ρ' σ'.get D/\(∀o,¬F' D o)/\¬aV f D)->RR w D (.ok .next) (wh s h' tk))->
  wpAny (model C.prog C.w) A (pyIter v) (λit s₂=>wpAny (model C.prog C.w) A (newList []) (λacc s₃=>wpAny (model C.prog C.w) A (newFunctionEnv scope f.env.globals cl [] f.env.qual none .none (some f.env)) (λcenv s₄=>
   codeAny (model C.prog C.w) A (.compStart e 0 it acc {cenv with scope:=relabel scope f.env}) (RR acc cenv.locals) s₄) (λU U=>False) s₃) (λU U=>False) s₂) (λU U=>False) s
theorem l2(O:dz scope cl own caps f){it:Value}(a:At C f ρ F σ s.heap){RR:Value->Addr->Result->Shared->Prop}
  (k:∀h3 h4 ρ3,At C f ρ3 F ⟨σ.ls,σ.G8++[some (.Ha [])],σ.mem⟩ h3->bx (bv f) ρ F σ.get s.heap ρ3 F (aC.get ⟨σ.ls,σ.G8++[some (.Ha [])],σ.mem⟩) h3->(∀b o,s.heap.get? b=some o->h3.get? b=some o)->At C (cn scope cl h3.objs.size own caps f) ρ3 F (xm own caps f σ) h4->(∀b o,h3.get? b=some o->h4.get? b=some o)->
   (∀b,bv (cn scope cl h3.objs.size own caps f) b->h3.get? b=none)->ρ3 (.tm σ.G8.length)=some (s.heap.objs.size,s.heap.objs.size)->codeAny (model C.prog C.w) A (.compStart e 0 it (.ref s.heap.objs.size) (cn scope cl h3.objs.size own caps f).env) (RR (.ref s.heap.objs.size) h3.objs.size) {s with heap:=h4}):
  wpAny (model C.prog C.w) A (newList []) (λacc s₃=>wpAny (model C.prog C.w) A (newFunctionEnv scope f.env.globals cl [] f.env.qual none .none (some f.env)) (λcenv s₄=>
   codeAny (model C.prog C.w) A (.compStart e 0 it acc {cenv with scope:=relabel scope f.env}) (RR acc cenv.locals) s₄) (λU U=>False) s₃) (λU U=>False) s:=by
 refine wpAny_newObj_type ?_;have N:=a.Ih (X:=bv f) (po:=.Ha []) (pp:=(s.heap.objs.size,s.heap.objs.size)) (hN:=s.heap.push {cls:=.type "list",data:=.seq ([]:List Value).toArray}) (λb ob e=>Heap.get?_push_of_some _ e) (λb e=>(show b=s.heap.objs.size from e.elim id id)▸aZ _)
  (⟨rfl,bE _ [] (Heap.get?_push_size _ rfl) ⟨0,rfl⟩ .nil⟩)
 have E:=N.1.enter O;exact fy<|k _ _ _ N.1 N.2 (λb o e=>Heap.get?_push_of_some _ e) E.1 E.2.1 E.2.2<|if_pos rfl
theorem mG:∀{C:Cx}{A:Around}{f:Fc}{σ:aC}{scope:Scope}{cl:List (Str×Addr)}{own caps:List Str}{target iter elt:Expr}{ifs:List Expr}{gens:List Comprehension}{pos:Pos}{x:PV}{items:List PV}{inv:aC->Prop}{Q:PV->aC->Prop}(O:dz scope cl own caps f)(hI:oq C A f x σ items inv)(hW:∀D,sI C A (cn scope cl D own caps f) (.ListComp elt (⟨target,iter,ifs,0⟩::gens) scope pos) σ.G8.length items inv (xm own caps f σ) (yY σ Q)),lE C A f scope cl (.ListComp elt (⟨target,iter,ifs,0⟩::gens) scope pos) x σ Q:=by
 intro C A f σ scope cl own caps target iter elt ifs gens pos x items inv Q O hI hW;exact λ{ρ F s v} a r {RR} hRR=>by
  refine wpAny_mono (hI ρ F s v a r) (λit s' p=>?_) λU U e=>e;refine tW p λI fp wr Pp St h2 tk re2 re3 T=>?_;try clear p;subst re2;subst re3;refine l2 O (s:=(wh s h2 tk)) (a.grow T.old) λh3 h4 ρ3 a3 st3 k3 a4 k4 x4 hρ3=>?_;have L0:=zP O a h2 T a3 st3 k3 a4 k4;have xs:∀b,bv (cn scope cl h3.objs.size own caps f) b->s.heap.get? b=none:=λb hb=>fF (x4 b hb) λo e=>k3 b o<|T.old b o e
  have st4:=T.W.frame _ _ _ T.IX λb U o e=>k4 b o<|k3 b o e
  have q:=hW h3.objs.size T L0 st4 (λb q=>.inr<|xs b q) hρ3 (R:=RR (.ref h2.objs.size) h3.objs.size) (tk:=tk) λh6 tk6 ρ6 F6 σ6 L6 hρ6 rn4=>aG rn4 λl hl hq=>rG a L6 hρ6 hl hq (xs _<|.inl rfl) hRR;exact codeAny_compStart_list q<|T.W.self 0 _ _ _ st4 q
theorem lR(O:dz scope cl own caps f){u:List Comprehension}{pos:Pos}
  (h:Ev C A f iter σ λx σ1=>lE C A f scope cl (.ListComp elt (⟨target,iter,ifs,0⟩::u) scope pos) x σ1 Q)
  (hs:∀x,foldedSetIterable iter f.env x=pure x):Ev C A f (.ListComp elt (⟨target,iter,ifs,0⟩::u) scope pos) σ Q:=λρ F s a=>by
 rw[eval_ListComp];refine wpAny_comprehension_free (use:=none) rfl hs O.I1 O.kind O.names<|(h ρ F s a).go λv h1 Z aa F1 σ1 x S B V hr=>?_
 refine wpAny_mono (hr S V (RR:=λacc D=>compPost (model C.prog C.w) A (λU U=>False) none _ acc D) λw D h' tk ρ' F' σ' pv N a' J W hn hD hB=>?_) (λU U e=>e) λU U e=>e;exact hn.imp λm hn=>⟨hn,λI z=>bS I tk ρ' F' σ' rfl (a'.HY (wr:=[D]) (λb hb=>List.mem_singleton.mp hb▸hB)<|lb z) (B.then S<|va J z hD)<|aD pv N W⟩
theorem AW(O:dz scope cl own caps f){pos:Pos}
  (h:Ev C A f iter σ λx σ1=>∃items inv,oq C A f x σ1 items inv/\∀D,nj C A (cn scope cl D own caps f) target ifs elt σ1.G8.length inv items (xm own caps f σ1) (yY σ1 Q))
  (u:∀x,foldedSetIterable iter f.env x=pure x:=by intro _;rfl):Ev C A f (.ListComp elt [⟨target,iter,ifs,0⟩] scope pos) σ Q:=by
 exact lR O (h.mono λU U q=>q.elim λU q=>q.elim λU q=>mG O q.1 λD=>og<|q.2 D) u
theorem kU{scope:Scope}{cl:List (Str×Addr)}{own caps:List Str}(O:dz scope cl own caps f){y:Str}{py:Pos}{i:Nat}{target iter elt:Expr}{ifs:List Expr}{pos spos:Pos}{Q:Fl->aC->Prop}
  (hi:f.ns[i]? =some y) (hk:hJ f y) (hsw:swapsWith (.ListComp elt [⟨target,iter,ifs,0⟩] scope pos) (some (.Name y py)) spos.line f.env=pure true)
  (h:Ev C A f iter σ λx σ1=>∃items inv,oq C A f x σ1 items inv/\∀D,nj C A (cn scope cl D own caps f) target ifs elt σ1.G8.length inv items (xm own caps f σ1) (yY σ1 λpv σ'=>Q .next (σ'.H0 i pv)))
  (hs:∀x,foldedSetIterable iter f.env x=pure x:=by intro _;rfl):Ex C A f (.Assign [.Name y py] (.ListComp elt [⟨target,iter,ifs,0⟩] scope pos) spos) σ Q:=by
 revert O hi hk hsw h hs;revert C A f σ scope cl own caps y py i target iter elt ifs pos spos Q;show∀C A f σ scope cl own caps y py i target iter elt ifs pos spos Q,_;exists ce λC=>cx λA=>dO λf=>dR λσ=>aA λscope=>aA λcl=>aA λown=>aA λcaps=>aA λy=>aA λpy=>aA λi=>aA λtarget=>aA λiter=>aA λelt=>aA λifs=>aA λpos=>aA λspos=>aA λQ=>aO _,h _ _ _ _ _ _ _ _ _ _ _ _ _ _ _ _ _ _;intro C A f σ scope cl own caps y py i target iter elt ifs pos spos Q O hi hk hsw h hs;exact λρ F s a=>by
  revert a;revert ρ F s;show∀ρ F s,_;exists aA λρ=>aA λF=>eu λs=>aO _,h _ _ _;intro ρ F s a;refine(ys (exec_Assign_Name_used _ _ _ _ hsw))▸?_;refine wpAny_bind (wpAny_standAt (wpAny_bind ?_));show wpAny _ A (do let _<-comprehension (.ListComp elt [⟨target,iter,ifs,0⟩] scope pos) scope f.env _ (newList []) false (eval iter f.env) (some (assign (.Name y py) f.env))) _ _ s;refine wpAny_bind (wpAny_mono (wpAny_comprehension_free (use:=some (assign (.Name y py) f.env)) (Q:=λU s'=>aS C f ρ F σ s (FQ C Q) .next s') rfl hs O.I1 O.kind O.names
   ((h ρ F s a).go λv h1 tk1 ρ1 F1 σ1 x a1 st1 rx hr=>?_)) (λU s' hq=>wpAny_pure (wpAny_pure hq)) λU U e=>e)
  have hr:lE C A f scope cl (.ListComp elt [⟨target,iter,ifs,0⟩] scope pos) x σ1 λpv σ'=>Q .next (σ'.H0 i pv):=hr.elim λU q=>q.elim λU q=>mG O q.1 λD=>og (q.2 D);refine wpAny_mono (hr a1 rx (RR:=λacc D=>compPost (model C.prog C.w) A (λU U=>False) (some (assign (.Name y py) f.env)) _ acc D) λw D h' tk ρ' F' σ' pv rw' a' st' hq hn hD hB=>?_) (λU U e=>e) λU U e=>e;refine aP hn λm hn=>((oV hi hk (Q:=λσ2=>Q .next σ2) hq) ρ' F' (wh s h' tk) w a' rw').use λU h2 tk2 ρ2 F2 σ2 a2 st2 hq2=>?_;have hB2:¬bY ρ2 σ2.get D/\(∀o,¬F2 D o)/\¬aV f D:=by
   have base:(bY ρ2 σ2.get D\/∃o,F2 D o)->False:=λq=>(st2.fresh D q).elim hB.1 λg=>g.elim (λrn5=>aP rn5 λo' g=>hB.2.1 o' g) λg=>hn.elim λo q=>q.elim λes q=>q.elim λep q=>nomatch g.symm.trans q.1;exact⟨λq=>base (.inl q),λo q=>base (.inr ⟨o,q⟩),hB.2.2⟩
  exact aD m (hn.at' λo e=>st2.keep D o e hB.1 λq=>hB.2.2 q.all) (λh'' hs''=>bS h'' tk2 ρ2 F2 σ2 rfl (a2.HY (wr:=[D]) (λb hb=>List.mem_singleton.mp hb▸hB2) (lb hs'')) (st1.then a1 (va (st'.then a' st2) hs'' hD)) (aD .next trivial hq2))
end
end
section
section
variable {C:Cx} {A:Around} {f:Fc} {σ:aC}
theorem s3{pos:Pos}{Q:Fl->aC->Prop}
  (h:Ev C A f iter σ λx σ1=>∃items inv,oq C A f x σ1 items inv/\inv σ1/\kC C A f target body inv items σ1 Q)
  (u:∀x,foldedSetIterable iter f.env x=pure x:=by intro _;rfl):Ex C A f (.For target iter body [] pos) σ Q:=by
 revert iter target body C A f σ pos Q;exists aA λiter=>aA λtarget=>aA λbody=>ce λC=>cx λA=>dO λf=>dR λσ=>aA λpos=>aA λQ=>aO _;intros;exact λρ F s a=>by
  revert ρ F s;exists aA λρ=>aA λF=>eu λs=>aO _;intros;refine wpAny_For ((h ρ F s a).use λv W I aa F1 σ1 S B N=>aG N λx V z=>bM z λitems inv hI hi hW=>?_) u;refine wpAny_mono (AJ (pos:=pos) (iter:=iter) hI hi hW (s:=(wh s W I)) S V (R:=λr J=>match r with| .ok fl=>aS C f ρ F σ s (FQ C Q) fl J| .error e=>False) λfl J p=>p.after B S) (λit J q=>codeAny_mono q λr Z O=>?_) λU U e=>e.elim;cases r with
  |ok fl=>exact O
  |error e=>exact O.elim
theorem g8:∀{C:Cx}{A:Around}{I:Addr}{s:Shared}{o:Obj}{tg:Expr}{v:Value}{Q:Unit->Shared->Prop}{E:Value->Shared->Prop}{n:String}(ho:s.heap.get? I=some o)(hc:o.cls= .type n)(hn:["enumerate","zip","dict_itemiterator","dict_reverseitemiterator","odict_iterator","itertools.zip_longest","itertools.pairwise"].contains n=false)(h:Q () s),wpAny (model C.prog C.w) A (letOwnedTupleGo tg (.ref I) v) Q E s:=by
 exists ce λC=>cx λA=>aA λI=>eu λs=>aA λo=>aA λtg=>aA λv=>aA λQ=>aA λE=>aA λn=>aO _;intros;unfold letOwnedTupleGo
 split
 all_goals (try exact wpAny_pure h)
 all_goals
  cases v
  all_goals (try exact wpAny_pure h)
  revert a;exists aA λa=>aO _;intros;refine wpAny_bind<|wpAny_load ho ?_
  refine(ys hc)▸?_
  split
  ·rename_i e1 e2
   revert n_1 vs;exists aA λn_1=>aA λvs=>aO _;intros;have re0_0:=PySem.Value.type.inj e1;clear e1;subst re0_0;simp only[hn,Bool.false_and,Bool.false_eq_true,if_false];exact wpAny_pure h
  ·exact wpAny_pure h
theorem bA.get:∀{z vs},bA P F vs z->∀{i:Nat}{v:Value},vs[i]? =some v->∃d,z[i]? =some d/\bz P F v d:=λ{z}=>by
 induction z with
 | nil=>
  intro vs h i v e;rw[show vs=[] from h.inv] at e;exact bU e
 | cons d z I=>
  intro vs h i v e;refine bM h.inv λu r B a b=>?_;clear h;subst B;cases i with
  |zero=>exact aD d rfl<|oi (show some u=some v from e)▸a
  |succ i=>exact I b<|show r[i]? =some v from e
theorem eQ.keys{v:List (Int×Value)}{d:List (Int×DV)}(r:eQ P F v d):v.map (·.1)=d.map (·.1):=
 @eQ.rec P F (λU U U=>True) (λU U U=>True) (λU U U=>True) (λv d U=>v.map (·.1)=d.map (·.1)) trivial (λU=>trivial) (λU U=>trivial) (λU U=>trivial) (λU U=>trivial) (λU U U=>trivial) (λU U U U=>trivial) (λU U U U=>trivial) (λU U U U U=>trivial) (λU=>trivial) (λU U U U=>trivial) (λU U U U U U=>trivial) (λU U U U U U U=>trivial)
  trivial (λU U U U=>trivial) trivial (λU U U U=>trivial) rfl (λU U U b=>congrArg (_:: ·) b) v d r
theorem eQ.length{vs:List (Int×Value)}(h:eQ P F vs ds):vs.length=ds.length:=by have:=congrArg List.length h.keys;rwa [List.length_map,List.length_map] at this
theorem p0{I:Addr}{u wr:List Addr}{n:Nat}{P:Nat->Value->Prop}{St:Nat->Heap->Prop}(W:Walks C.prog C.w A I u wr n P St)(h:m=n):Walks C.prog C.w A I u wr m P St:=h▸W
theorem lB(hh:A.handled=none):oq C A f (.d (.seq l)) σ (l.map .d) (λU=>True):=by
 exact λρ F s v a r=>by
  refine r.dv.H9 λ{ax o vs} N hL S=>?_
  ·refine aL hL.weak λV J=>aP J λn O=>?_;have g:=a.H.HC _ _ N;have Z:s.heap.IsList ax vs.toArray:=bD o g V ⟨n,O⟩;have B:ax≠s.heap.objs.size:=Nat.ne_of_lt<|Heap.lt_size g
   have W:=Walks.list (prog:=C.prog) (w:=C.w) hh s.heap.objs.size ax B vs.toArray;have e1:vs.toArray.size=(l.map PV.d).length:=by rw[List.size_toArray,S.length,List.length_map]
   rw[e1] at W;refine wpAny_pyIter_list Z<|yA s.heap.objs.size _ _ _ _ _ s.toks rfl rfl ⟨λb o e=>Heap.get?_push_of_some _ e,W,⟨(bD _ (Heap.get?_push_size _ rfl) rfl rfl),Z.push _⟩,?_,?_,?_,?_,?_⟩
   ·intro b I;refine(ys<|List.mem_singleton.mp I)▸?_;exact aZ _
   ·intro i h u b I;refine(ys<|List.mem_singleton.mp I)▸?_;exact aG u.1 λo e U=>⟨o,e⟩
   ·intro i v _ hv;exact aG (S.get (i:=i) (v:=v)<|by simpa using hv) λd h1 h2=>aD (.d d) (by refine(ys List.getElem?_map)▸(ys h1)▸?_;rfl)<|.d h2
   ·intro ρ' F' σ' aa i h u hr _ z _ hk;exact⟨u.1.at λo e=>hk _ (List.mem_singleton.mpr rfl) o e,(bD o (hr.HC _ _<|z _ _ N) V ⟨n,O⟩)⟩
   ·intro i s' tg v Q' E u h;exact cj u.1 λo e c U=>g8 e c (by decide) h
noncomputable def cM(lo:Int):Nat->List DV
 |0=>[]
 |n+1=>.int lo::cM (lo+1) n
theorem el(n:Nat):∀lo,(cM lo n).length=n:=by
 induction n with
 |zero=>intro lo;rfl
 |succ n u=>intro lo;unfold cM;rw[List.length_cons,u]
theorem mo(n:Nat):∀(lo:Int)(i:Nat),i<n->(cM lo n)[i]? =some (.int (lo+i)):=by
 induction n with
 |zero=>intro lo i h;lia
 | succ n u=>
  intro lo i h;unfold cM;cases i with
  |zero=>simp
  |succ i=>rw[List.getElem?_cons_succ,u _ i (bw [_,_] [] 0x8284382803102200081 ft h)];congr 2;push_cast;exact Int.le_antisymm (jO [_] [_] 0x10500ec0b01e0a02d981 ft)<|jO [_] [_] 0x3c1405b82807605981 ft
theorem px:∀{C A f σ lo hi}(V:A.handled=none)(N: -(2^62)<=lo)(O:lo<2^62)(J: -(2^62)<=hi)(S:hi<2^62),oq C A f (.d (.It lo hi)) σ ((cM lo (hi-lo).toNat).map .d) (λU=>True):=by
 intro C A f σ lo hi V N O J S;exact λρ F s v a r=>by
  refine r.dv.I2 λ{ax t u w} hF=>?_
  ·have g:=a.H.HC _ _ hF;have W:=Walks.range (prog:=C.prog) (w:=C.w) V s.heap.objs.size lo 1 (hi-lo).toNat;have I:((cM lo (hi-lo).toNat).map PV.d).length=(hi-lo).toNat:=by rw[List.length_map,el]
   have hsz:Builtin.Range.rangeSize lo hi 1=((hi-lo).toNat:Int):=by
    rw[rangeSize_one];split<;>lia
   refine wpAny_pyIter_range (a:=lo) (b:=hi) (c:=1) g (small_one N O J S)<|yA s.heap.objs.size _ _ _ _ _ s.toks rfl rfl ⟨λb o e=>Heap.get?_push_of_some _ e,p0 W I,?_,?_,?_,?_,?_,?_⟩
   ·show IsRangeIter _ _ _ _ _;refine(ys hsz)▸?_;simpa using Heap.get?_push_size _ rfl
   ·intro b B;refine(ys<|List.mem_singleton.mp B)▸?_;exact aZ _
   ·intro i h z b B;refine(ys<|List.mem_singleton.mp B)▸?_;exact⟨_,z⟩
   ·rintro i v hi ⟨t',rfl⟩;rw[I] at hi;exact aD (.d<|.int<|lo+i) (by refine(ys List.getElem?_map)▸(ys<|mo _ _ _ hi)▸?_;rfl) (by rw[Int.mul_one];exact .d<|.int _ _)
   ·intro ρ' F' σ' aa i h z hr _ Z _ hk;exact hk _ (List.mem_singleton.mpr rfl) _ z
   ·intro i s' tg v Q' E z h;exact g8 z rfl (by decide) h
theorem zI:∀{C A f σ ρ F s l ax o kvs inv}(hh:A.handled=none)(a:At C f ρ F σ s.heap)(Z:ax≠sysModules)(g:s.heap.get? ax=some o)(i:dT (intKind C.prog C.w) o kvs)(d:eQ C F kvs l)(ab:∀ρ' F'(σ':aC) u,HR C ρ' F' σ'.get u->(∀k p,ρ k=some p->ρ' k=some p)->(∀a o,F a o->F' a o)->inv σ'->u.get? ax=some o),wpAny (model C.prog C.w) A (pyIter (.ref ax)) (λit s'=>∃I fp wr Pp St h' tk,it= .ref I/\s'=(wh s h' tk)/\B4 C A ρ F s.heap (l.map λp=>PV.d (.int p.1)) inv I fp wr Pp St h') (λU U=>False) s:=by
 exists ce λC=>cx λA=>dO λf=>dR λσ=>aA λρ=>aA λF=>eu λs=>aA λl=>aA λax=>aA λo=>aA λkvs=>aA λinv=>aO _;intro C A f σ ρ F s l ax o kvs inv hh a Z g i d ab;have i':=i;obtain⟨i1,es,ep,i2,i3,i4,i5⟩:=i;revert i2 i3 i4;revert es ep;exists aA λes=>aA λep=>aO _;intro es ep i2 i3 i4;have z:∀h:Heap,h.get? ax=some o->h.DictAt (intKind C.prog C.w) ax kvs ep:=λh g=>xB o es g i1 i2 i3 i4 i5;have hI:ax≠s.heap.objs.size:=Nat.ne_of_lt<|Heap.lt_size g
 have W:=Walks.dictKeys (prog:=C.prog) (w:=C.w) (knd:=intKind C.prog C.w) hh s.heap.objs.size ax hI kvs ep;have e1:((l.map λp=>PV.d<|.int p.1)).length=kvs.length:=by rw[List.length_map,d.length]
 have V:∀b ob,s.heap.get? b=some ob->(s.heap.push {cls:=.type "dict_keyiterator",data:=.fields #[.ref ax,.int 0 0,.int kvs.length 0,.int ep 0]}).get? b=some ob:=λb ob e=>Heap.get?_push_of_some _ e;refine wpAny_pyIter_dict (knd:=intKind C.prog C.w) (by simpa using Z) (z _ g)<|yA s.heap.objs.size _ _ _ _ _ s.toks rfl rfl ⟨V,p0 W e1,⟨(bD _ (Heap.get?_push_size _ rfl) rfl rfl),z _<|V _ _ g⟩,?_,?_,?_,?_,?_⟩
 ·intro b hb;refine(ys<|List.mem_singleton.mp hb)▸?_;exact aZ _
 ·intro i h N b hb;refine(ys<|List.mem_singleton.mp hb)▸?_;exact aG N.1 λo e U=>⟨o,e⟩
 ·rintro i v hi ⟨k,x,hk,S⟩;revert hi hk S;revert i v k x;exists aA λi=>aA λv=>aA λk=>aA λx=>aO _;intro i v k x hi hk S;refine aD (.d<|.int k) ?_ ?_
  ·refine(ys List.getElem?_map)▸?_;have J:=congrArg (λl=>l[i]?) d.keys;simp only[List.getElem?_map,hk,Option.map_some] at J;cases e:l[i]? with
   |none=>rw[e] at J;exact jg J
   |some q=>rw[e] at J;(have B:=oi J;clear J;clear hk S;subst B);rfl
  ·have aa:(match v with| .int j _=>j==k|_=>false)=true:=by
    cases v<;>first|exact S|(exact absurd S<|by simp[intKind])
   cases v with
   |int j t=>refine(ys<|beq_iff_eq.mp aa)▸?_;exact .d<|.int _ _
   |_=>exact jn aa
 ·intro ρ' F' σ' u i h N hr O ad hi hk;exact⟨N.1.at λo e=>hk _ (List.mem_singleton.mpr rfl) o e,z _<|ab ρ' F' σ' u hr O ad hi⟩
 ·intro i s' tg v Q' E N h;exact cj N.1 λo e c U=>g8 e c (by decide) h
theorem At.Hz(a:At C f ρ F σ h){o:Obj}{l:List (Int×DV)}(u:σ.get k=some (.Hz o l))(e:ρ k=some p):(p.2=p.1/\p.1≠sysModules)/\h.get? p.1=some o/\∃kvs,dT (intKind C.prog C.w) o kvs/\eQ C F kvs l:=by
 exact a.H.here u e
theorem rC:∀{C A f σ k o l}(O:A.handled=none)(N:σ.get k=some (.Hz o l)),oq C A f (.at k) σ (l.map λp=>PV.d (.int p.1)) (λσ'=>σ'.get k=some (.Hz o l)):=by
 intro C A f σ k o l O N;exact λρ F s v a r=>by
  refine aG r.place λp e I=>?_;clear r;subst I;exact dK (a.Hz N e) λz g B=>aL z λU J=>aG B λkvs i d=>zI O a J g i d λρ' F' σ' S V u W hi=>(V.here hi<|u _ _ e).2.1
theorem At.lock:∀{C f σ ρ F h k l}(a:At C f ρ F σ h)(u:σ.get k=some (.G7 l)),∃o,At C f ρ F (σ.put k (.Hz o l)) h/\bx (bv f) ρ F σ.get h ρ F (σ.put k (.Hz o l)).get h:=by
 intro C f σ ρ F h k l a u;exact aG (a.H.obj k _ u) λp e r=>aL r λB z=>bM z λo kvs g i d=>aD o (a.upd u e (a:=p.1) (.inl rfl) (λU U U e=>e)<|⟨B,g,aD kvs i d⟩)<|.upd u e (.inl rfl) λU U U e=>e
theorem At.unlock(a:At C f ρ F σ h){o:Obj}{l:List (Int×DV)}(u:σ.get k=some (.Hz o l)):At C f ρ F (σ.put k (.G7 l)) h/\bx (bv f) ρ F σ.get h ρ F (σ.put k (.G7 l)).get h:=by
 exact aG (a.H.obj k _ u) λp e r=>dK r λB g z=>aG z λkvs i d=>⟨a.upd u e (a:=p.1) (.inl rfl) (λU U U e=>e)<|⟨B,bE o kvs g i d⟩,.upd u e (.inl rfl) λU U U e=>e⟩
theorem pY{O:Type}{t:Sem O}{l:List (Int×DV)}{Q:Pl->Fz->O->aC->Prop}(U:σ.get k=some (.G7 l))(a:At C f ρ F σ s.heap)
  (h:∀o ρ F s,At C f ρ F (σ.put k (.Hz o l)) s.heap->fw C A f t ρ F (σ.put k (.Hz o l)) s (λρ' F' x σ'=>σ'.get k=some (.Hz o l)/\Q ρ' F' x (σ'.put k (.G7 l)))):fw C A f t ρ F σ s Q:=by
 exact aG (a.lock U) λo S B=>(h o ρ F s S).use λx h' tk ρ' F' σ' N I u=>aL u λJ V=>aL (N.unlock J) λa3 z=>bS h' tk ρ' F' _ rfl a3 ((B.then S I).then N z) V
theorem Bp{l:List (Int×DV)}(z:σ.get k=some (.G7 l))(h:∀o,Ev C A f e (σ.put k (.Hz o l)) λx σ'=>σ'.get k=some (.Hz o l)/\Q x (σ'.put k (.G7 l))):Ev C A f e σ Q:=λρ F s a=>
 pY z a λo ρ F s a=>(h o ρ F s a).mono λ_ _ _ _ u=>cj u λpv r g q=>⟨g,aD pv r q⟩
theorem uz{e:Stmt}{l:List (Int×DV)}{Q:Fl->aC->Prop}(z:σ.get k=some (.G7 l))(h:∀o,Ex C A f e (σ.put k (.Hz o l)) λx σ'=>σ'.get k=some (.Hz o l)/\Q x (σ'.put k (.G7 l))):Ex C A f e σ Q:=λρ F s a=>
 pY z a λo ρ F s a=>(h o ρ F s a).mono λ_ _ _ _ u=>cj u λpv r g q=>⟨g,aD pv r q⟩
noncomputable def iK(j:Nat)(d:DV):PV->PV
 | .at (.tm i)=>if i=j then .d d else .at (.tm i)
 |x=>x
noncomputable def kI(j:Nat)(d:DV)(ls:List (Option PV)):List (Option PV):=ls.map (Option.map (iK j d))
theorem yO{v:Value}{pv:PV}(u:ρ (.tm j)=some p)(z:bz C F (.ref p.1) d)(r:aW C ρ F v pv):aW C ρ F v (iK j d pv):=by
 cases pv with
 | «at»k=>cases k with
  |sk n=>exact r
  | tm i=>
   by_cases q:i=j
   ·refine(ys<|show iK j d (.at (.tm i))= .d d from if_pos q)▸?_;exact r.IF λ{B} e=>by
     rw[q,u] at e;exact .d<|oi e▸z
   ·refine(ys<|show iK j d (.at (.tm i))= .at (.tm i) from if_neg q)▸?_;exact r
 |_=>exact r
theorem At.frzN:∀{C f σ ρ F h X j po d}(a:At C f ρ F σ h)(S:σ.get (.tm j)=some po)(Z:po.dv=some d),∃F',(∀a o,F a o->F' a o)/\At C f ρ F' ⟨kI j d σ.ls,σ.G8.set j none,σ.mem⟩ h/\bx X ρ F σ.get h ρ F' (aC.get ⟨kI j d σ.ls,σ.G8.set j none,σ.mem⟩) h:=by
 exists ce λC=>dO λf=>dR λσ=>aA λρ=>aA λF=>aA λh=>aA λX=>aA λj=>yG λpo=>zR λd=>aO _;intro C f σ ρ F h X j po d a S Z;refine(a.H.obj (.tm j) po S).elim λp N=>(a.HC (X:=X) S Z N.1).elim λo q=>?_;revert N q;revert p o;exists aA λp=>aA λo=>aO _;intro p o N q;have g:aC.get ⟨kI j d σ.ls,σ.G8.set j none,σ.mem⟩=aC.get ⟨σ.ls,σ.G8.set j none,σ.mem⟩:=by funext k;cases k<;>rfl
 have I:=q.2.1;refine bD _ b9.old ⟨by rw[g];exact I.H,?_,I.fin,I.HN⟩ (by rw[g];exact q.2.2);rw[g];refine{I.R with HF:=?_};refine bM I.R.HF λm B hn W U=>?_;revert hn W U;revert m B;exists aA λm=>aA λB=>aO _;intro m B hn W U;refine bE m B hn W<|λi x O V u=>?_
 revert V u;revert i x O;exists aA λi=>aA λx=>aA λO=>aO _;intro i x O V u;rw[show(kI j d σ.ls)[i]? =(σ.ls[i]?).map λo=>o.map (iK j d) from List.getElem?_map] at u;cases J:σ.ls[i]? with
 |none=>rw[J] at u;exact bU u
 | some z=>
  revert J;revert z;exists aA λz=>aO _;intro z J;rw[J] at u;have w:=U i x z V J;cases oi u;cases z with
  |none=>trivial
  |some pv=>exact w.imp λv w=>⟨yO N.1 q.1 w.1,w.2⟩
theorem BN{B:List Stmt}{Q:Fl->aC->Prop}(j:Nat)(J:σ.get (.tm j)=some po)(S:po.dv=some d)(h:fA C A f B ⟨kI j d σ.ls,σ.G8.set j none,σ.mem⟩ Q):fA C A f B σ Q:=λρ F s a=>by
 exact cj (a.frzN (X:=bv f) J S) λF' U I u=>(h ρ F' s I).use λx h' tk ρ' F' σ' O z N=>bS h' tk ρ' F' σ' rfl O (u.then I z) N
end
end
section
section
variable {C:Cx} {A:Around} {f:Fc} {σ:aC}
noncomputable def Fb(slice:Expr)(o i:Value):List Value:=match slice with
 | .Slice _ _ none _=>[i,o]
 |_=>[o,i]
theorem dj:∀(z:Expr)(o i:Value),subscripted z false o i=operate (Fb z o i) (getItem o i):=by
 intro z o i;cases z with
 |Slice l u B pos=>cases B<;>rfl
 |_=>rfl
noncomputable def pW(C:Cx)(A:Around)(f:Fc)(x y:PV)(σ:aC)(Q:PV->aC->Prop):Prop:=
 ∀value slice ρ F s o i,At C f ρ F σ s.heap->aW C ρ F o x->aW C ρ F i y->fw C A f (subscriptTail value slice o i) ρ F σ s (VQ C Q)
theorem EC{u z:Expr}{pos:Pos}(h:Ev C A f u σ λx σ1=>Ev C A f z σ1 λy σ2=>pW C A f x y σ2 Q):Ev C A f (.Subscript u z pos) σ Q:=λρ F s a=>
 Subscript_ ((h ρ F s a).go λv1 h1 W J F1 σ1 x N I U Z=>(Z J F1 _ N).go λS h2 aa ρ2 F2 σ2 y O B ry V=>(V u z ρ2 F2 _ v1 S O (U.step B) ry).cont (I.then N B) O)
noncomputable def t5{α:Type}(l:List α)(k:Int):Option α:=(seqIndex? k l.length).bind λj=>l[j]?
theorem kx{u z:Type}{l:List u}{m:List z}(B:m.length=l.length){k:Int}{y:u}(h:t5 l k=some y):∃j,seqIndex? k m.length=some j/\l[j]? =some y:=by
 unfold t5 at h;refine(ys B)▸?_;cases e:seqIndex? k l.length with
 |none=>rw[e] at h;exact bU h
 |some j=>rw[e] at h;exact aD j rfl h
theorem bA.get'{u:List DV}(h:bA P F vs u){i:Nat}(e:u[i]? =some d):∃v,vs[i]? =some v/\bz P F v d:=
 ((h.toP (ρ:=λU=>none)).at (i:=i) (x:=.d d) (by refine(ys List.getElem?_map)▸(ys e)▸?_;rfl)).imp λv q=>⟨q.1,q.2.dv⟩
theorem AI{k:Int}(O:x.items=some xs)(S:t5 xs k=some y)(h1: -(2^63)<=k)(Z:k<2^63)(q:Q y σ):pW C A f x (.d (.int k)) σ Q:=λI B ρ F s o i a J r2=>by
 refine ca (J.items O) λt vs n z U rs=>?_;clear J;subst z;have N:IsTup s.heap t vs.toArray:=bD _ (a.H.HC _ _ U) rfl ⟨n,rfl⟩;exact r2.HH λu=>aG (kx rs.length S) λj W e2=>aG (rs.at e2) λv e3 V=>tail_any N.typeIs slot_tuple_getitem.lookup (getItem_tuple N h1 Z (by simpa using W) (by simpa using e3)<|aS.same (tk:=s.toks) a<|aD y V q)<|dj _ _ _
theorem kG:∀{C:Cx}{s:Shared}{M:Around}{ax:Addr}{o:Obj}{vs:List Value}{k:Int}{u:Tok}{j:Nat}{v:Value}{Q E:Value->Shared->Prop}{B z:Expr}(g:s.heap.get? ax=some o)(i:o8 o vs)(U: -(2^63)<=k)(S:k<2^63)(I:seqIndex? k vs.length=some j)(J:vs[j]? =some v)(h:Q v s),wpAny (model C.prog C.w) M (subscriptTail B z (.ref ax) (.int k u)) Q E s:=by
 intro C s M ax o vs k u j v Q E B z g i U S I J h;refine aL i λW O=>aP O λn V=>?_;have N:s.heap.IsList ax vs.toArray:=bD o g W ⟨n,V⟩;refine tail_any N.typeIs slot_list_getitem.lookup ?_<|dj _ _ _
 have Z:j<vs.length:=(List.getElem?_eq_some_iff.mp J).1;unfold seqIndex? at I
 by_cases q:0<=k
 ·refine wpAny_getItem_list N q S ?_ h;have:k.toNat=j:=by
   split at I<;>simp at I<;>lia
  refine(ys this)▸?_;simpa using J
 ·have hk:k<0:=Int.not_le.mp q;have:(k+vs.length).toNat=j/\-(vs.length:Int)<=k:=by
   split at I<;>simp at I<;>exact⟨Nat.le_antisymm (bw [_,_] [] 70377369763841 ft I.2)<|bw [_,_] [] 560528883713 ft I.2,bw [_] [_] 0xe05808c08101f181 ft I.1.1⟩
  refine wpAny_getItem_list_neg N hk (by simpa using this.2) U ?_ h;have e:(k+(vs.toArray.size:Nat)).toNat=j:=by refine(ys List.size_toArray)▸?_;exact this.1
  refine(ys e)▸?_;simpa using J
theorem AF{l:List DV}{k:Int}{y:DV}{Q:PV->aC->Prop}(N:t5 l k=some y)(h1: -(2^63)<=k)(V:k<2^63)(q:Q (.d y) σ):pW C A f (.d (.seq l)) (.d (.int k)) σ Q:=λI B ρ F s o i a z Z=>by
 have z:=z.dv;exact z.H9 λO hL J=>Z.HH λu=>aG (kx J.length N) λj U W=>aG (J.get' W) λv S rv=>kG (a.H.HC _ _ O) hL.weak h1 V U S<|aS.same (tk:=s.toks) a<|aD _ (.d rv) q
noncomputable def PO.lst:PO->Option (List DV)
 | .Ha l=>some l
 | .HA l=>some l
 |_=>none
theorem At.lst(a:At C f ρ F σ h)(z:σ.get k=some po)(u:po.lst=some l)(e:ρ k=some p):p.2=p.1/\∃o vs,h.get? p.1=some o/\o8 o vs/\bA C F vs l:=by
 have r:=a.H.here z e;cases po with
 |Ha B=>exact oi u▸⟨r.1,r.2.imp λo q=>q.imp λvs q=>⟨q.1,q.2.1.weak,q.2.2⟩⟩
 |HA B=>exact oi u▸r
 |_=>exact bU u
theorem ge{K:Ky}{po:PO}{l:List DV}{k:Int}{y:DV}{Q:PV->aC->Prop}(S:σ.get K=some po)(hl:po.lst=some l)(V:t5 l k=some y)(h1: -(2^63)<=k)(h2:k<2^63)(q:Q (.d y) σ):pW C A f (.at K) (.d (.int k)) σ Q:=λz J ρ F s o i a O r2=>by
 refine aG O.place λp e B=>?_;clear O;subst B;exact aL (a.lst S hl e) λU I=>bM I λob vs g hL N=>r2.HH λu=>aG (kx N.length V) λj W Z=>aG (N.get' Z) λv e3 rv=>kG g hL h1 h2 W e3<|aS.same (tk:=s.toks) a<|aD _ (.d rv) q
theorem kn{K:Type}[DecidableEq K]{k u:K}{v:Value}{z:List (K×Value)}:valueAt ((u,v)::z) k=if u=k then some v else valueAt z k:=by
 unfold valueAt;rw[List.find?_cons]
 by_cases q:u=k
 ·rw[decide_eq_true q,if_pos q];rfl
 ·rw[decide_eq_false q,if_neg q]
theorem ta{z K:Type}[BEq K][LawfulBEq K][DecidableEq K]{k u:K}{d:z}{l:List (K×z)}:List.lookup k ((u,d)::l)=if u=k then some d else l.lookup k:=by
 rw[List.lookup_cons]
 by_cases q:u=k
 ·rw[if_pos q,q,beq_self_eq_true]
 ·rw[if_neg q,beq_eq_false_iff_ne.mpr (Ne.symm q)]
theorem eQ.look{k:Int}{vs:List (Int×Value)}(h:eQ P F vs ds):∀{d:DV},ds.lookup k=some d->∃v,valueAt vs k=some v/\bz P F v d:=
 h.ind (M:=λvs ds=>∀{d:DV},ds.lookup k=some d->∃v,valueAt vs k=some v/\bz P F v d) (λh=>bU h) λ{z} {v B d l} r u d h=>by
  rw[ta] at h;rw[kn]
  by_cases q:z=k
  ·rw[if_pos q] at h⊢;exact aD _ rfl<|oi h▸r
  ·rw[if_neg q] at h⊢;exact u h
theorem eQ.miss{k:Int}{vs:List (Int×Value)}(h:eQ P F vs ds):ds.lookup k=none->valueAt vs k=none:=
 h.ind (M:=λvs ds=>ds.lookup k=none->valueAt vs k=none) (λU=>rfl) λ{z} {v B d l} r u h=>by
  rw[ta] at h;rw[kn]
  by_cases q:z=k
  ·rw[if_pos q] at h;exact jg h
  ·rw[if_neg q] at h⊢;exact u h
theorem dT.mapOf{K:Type}[DecidableEq K]{w:World}{knd:KeyKind prog w K}{o:Obj}{kvs:List (K×Value)}(i:dT knd o kvs)(g:h.get? a=some o):h.DictOf knd a kvs:=cA.mpr<|aD o g i
theorem gf{w:World}{k:Int}{u:Tok}:(intKind prog w).is k (.int k u)=true:=by simp[intKind,Value.isInt]
theorem u8{ax:Addr}{o:Obj}{kvs:List (Int×Value)}{k:Int}{u:Tok}{v:Value}{Q:Value->Shared->Prop}{value slice:Expr}(g:s.heap.get? ax=some o)(i:dT (intKind C.prog C.w) o kvs)
  (e:valueAt kvs k=some v) (h:Q v {s with toks:=s.toks+1}):wpAny (model C.prog C.w) A (subscriptTail value slice (.ref ax) (.int k u)) Q E s:=by
 have hm:=(i.mapOf g).mapOf;exact tail_any hm.typeIs slot_dict_getitem.lookup (wpAny_getItem_of gf hm e h)<|dj _ _ _
theorem wx{l:List (Int×DV)}{k:Int}{y:DV}(hy:l.lookup k=some y)(q:Q (.d y) σ):pW C A f (.d (.G7 l)) (.d (.int k)) σ Q:=λvalue slice ρ F s o i a r1 r2=>by
 have r1:=r1.dv;exact r1.Iv λIy hF hi hd=>r2.HH λu=>aG (hd.look hy) λv e rv=>u8 (a.H.HC _ _ hF) hi e<|aS.same a<|aD _ (.d rv) q
noncomputable def PO.dct:PO->Option (List (Int×DV))
 | .G7 l=>some l
 | .Hz _ l=>some l
 |_=>none
theorem At.dct:∀{C f σ ρ F h k po l p}(a:At C f ρ F σ h)(z:σ.get k=some po)(u:po.dct=some l)(e:ρ k=some p),(p.2=p.1/\p.1≠sysModules)/\∃o kvs,h.get? p.1=some o/\dT (intKind C.prog C.w) o kvs/\eQ C F kvs l:=by
 intro C f σ ρ F h k po l p a z u e;have r:=a.H.here z e;cases po with
 |G7 B=>exact oi u▸r
 |Hz o B=>exact oi u▸⟨r.1,o,r.2.2.imp λkvs q=>⟨r.2.1,q⟩⟩
 |_=>exact bU u
theorem wT{K:Ky}{l:List (Int×DV)}{k:Int}{y:DV}(hg:σ.get K=some po)(hl:po.dct=some l)(hy:l.lookup k=some y)(q:Q (.d y) σ):pW C A f (.at K) (.d (.int k)) σ Q:=λvalue slice ρ F s o i a r1 r2=>by
 refine aG r1.place λp e re3=>?_;clear r1;subst re3;exact aL (a.dct hg hl e) λU rn3=>bM rn3 λob kvs g hi hd=>r2.HH λu=>aG (hd.look hy) λv e rv=>u8 g hi e<|aS.same a<|aD _ (.d rv) q
set_option tactic.hygienic true in
theorem gQ.look{k:Str}{vs:List (Str×Value)}{u:List (Str×PV)}(h:gQ P ρ F vs u){d:PV}:u.lookup k=some d->∃v,valueAt vs k=some v/\aW P ρ F v d:=by
 induction h with
 |nil=>exact λh=>bU h
 | cons r _ z=>
  rename_i B v I N J _
  intro h;rw[ta] at h;rw[kn]
  by_cases q:B=k
  ·rw[if_pos q] at h⊢;exact aD _ rfl<|oi h▸r
  ·rw[if_neg q] at h⊢;exact z h
theorem iQ{w:World}{k:Str}{u:Tok}:(PySem.strKind prog w).is k (.str k u)=true:=by show Value.isStrOf k (.str k u)=true;simp[Value.isStrOf]
theorem vp{K:Ky}{l:List (Str×PV)}{k:Str}(S:σ.get K=some (.Hh l))(V:l.lookup k=some y)(q:Q y σ):pW C A f (.at K) (.d (.str k)) σ Q:=λI B ρ F s o i a N Z=>by
 refine aG N.place λp e z=>?_;clear N;subst z;refine aL (a.Hh S e) λU J=>bM J λob kvs g hi hd=>Z.Id λu=>aG (hd.look V) λv e W=>?_;have O:=(hi.mapOf g).mapOf;exact tail_any O.typeIs slot_dict_getitem.lookup (wpAny_getItem_of iQ O e<|aS.same a<|aD _ W q)<|dj _ _ _
end
end
section
section
variable {C:Cx} {A:Around} {f:Fc} {σ:aC}
noncomputable def sy(C:Cx)(A:Around)(f:Fc)(x y z:PV)(σ:aC)(Q:aC->Prop):Prop:=
 ∀ρ F s o i v,At C f ρ F σ s.heap->aW C ρ F o x->aW C ρ F i y->aW C ρ F v z->fw C A f (setItem o i v) ρ F σ s (λU U U σ'=>Q σ')
theorem Dk:∀{C A f σ o i pos z Q}(h:Ev C A f o σ λx σ1=>Ev C A f i σ1 λy σ2=>sy C A f x y z σ2 Q),As C A f (λv=>assign (.Subscript o i pos) f.env v) z σ Q:=by
 exists ce λC=>cx λA=>dO λf=>dR λσ=>aA λo=>aA λi=>aA λpos=>oO λz=>aA λQ=>aO _;intros;exact λρ F s v a r=>by
  show wpAny _ _ (assign (.Subscript o i pos) f.env v) _ _ _;rw[assign_Subscript];refine wpAny_bind<|wpAny_holding<|(h ρ F s a).go λv1 h1 aa J F1 σ1 x W B rx hr=>wpAny_bind<|wpAny_holding<|(hr J F1 _ W).go λv2 h2 I ρ2 F2 σ2 y Z u ry ho=>wpAny_bind<|wpAny_standAt<|wpAny_bind<|wpAny_holding ?_
  exact(ho ρ2 F2 (wh s h2 I) v1 v2 v Z (rx.step u) ry<|(r.step B).step u).use λU h3 S N F3 V a3 O hq=>wpAny_release<|bS h3 S N F3 V rfl a3 ((B.then W u).then Z O) hq
theorem bA.set{u:List DV}(h:bA P F vs u)(j:Nat){v:Value}(r:bz P F v d):bA P F (vs.set j v) (u.set j d):=by
 induction u generalizing vs j with
 |nil=>exact h.HV .nil
 |cons x u z=>exact h.HE λa b=> @Nat.casesOn (λj=>bA P F (List.set _ j v)<|List.set _ j d) j (.cons r b) λj=>.cons a<|z b j
theorem xE{K:Ky}{k:Nat}{Q:aC->Prop}(V:σ.get K=some po)(hl:po.lst=some l)(hk:k<l.length)(hz:l.length<=100000)(q:Q (σ.put K (.HA (l.set k d)))):sy C A f (.at K) (.d (.int k)) (.d d) σ Q:=λρ F s o i v a Z r2 r3=>by
 refine aG Z.place λp e J=>?_;clear Z;subst J;refine aL (a.lst V hl e) λe2 N=>bM N λU vs g S W=>aL S λi1 I=>aP I λn i2=>?_;have z:=W.length;exact r2.HH λu=>wpAny_setItem_list (l:=p.1) (items:=vs.toArray) (bD U g i1 ⟨n,i2⟩) (Int.natCast_nonneg k) (by lia) (by rw[List.size_toArray];exact dD [_,_,_] [] 0x40414120004088e03a01 ft hk z) λh' O hs=>cj O λo' g' c' B=>aP B λn' d'=>aS.upd (o':=.HA<|l.set k d) (tk:=s.toks) a V e (.inl rfl) (λb U hb eb=>hs.extBut b U hb eb) (⟨e2,bE o' (vs.set k v) g' ⟨c',n',by rw[d'];congr 1;simp⟩<|W.set k r3.dv⟩) q
noncomputable def iS{K α:Type}[DecidableEq K](l:List (K×α))(k:K)(v:α):List (K×α):=if l.any (λkv=>kv.1=k) then l.map (λkv=>if kv.1=k then(kv.1,v) else kv) else l++[(k,v)]
noncomputable def mM{K α:Type}[DecidableEq K](l:List (K×α))(k:K):List (K×α):=l.filter λkv=>decide (kv.1≠k)
theorem eQ.any{k:Int}{vs:List (Int×Value)}(h:eQ P F vs ds):vs.any (λu=>u.1=k)=ds.any (λu=>u.1=k):=
 h.ind (M:=λvs ds=>vs.any (λu=>u.1=k)=ds.any (λu=>u.1=k)) rfl λ{B _ _ _ _} U z=>congrArg (decide (B=k)|| ·) z
theorem eQ.Ir{k:Int}{v:Value}(r:bz P F v d):∀{vs:List (Int×Value)}{z:List (Int×DV)},eQ P F vs z->eQ P F (vs.map (λu=>if u.1=k then(u.1,v) else u)) (z.map (λu=>if u.1=k then(u.1,d) else u)):=
 λ{vs z} h=>h.ind (M:=λvs z=>eQ P F (vs.map<|λu=>if u.1=k then(u.1,v) else u)<|z.map<|λu=>if u.1=k then(u.1,d) else u) .nil λ{J _ _ _ _} I B=>by
  rw[List.map_cons,List.map_cons]
  by_cases q:J=k
  ·rw[if_pos q,if_pos q];exact .cons r B
  ·rw[if_neg q,if_neg q];exact .cons I B
theorem eQ.append{vs z:List (Int×Value)}{u:List (Int×DV)}(h:eQ P F vs ds)(r:eQ P F z u):eQ P F (vs++z) (ds++u):=
 h.ind (M:=λvs ds=>eQ P F (vs++z)<|ds++u) r λa B=>.cons a B
theorem eQ.put{k:Int}{v:Value}{vs:List (Int×Value)}(h:eQ P F vs ds)(r:bz P F v d):eQ P F (stored vs k v) (iS ds k d):=by
 unfold stored iS;rw[h.any]
 split
 ·exact h.Ir r
 ·exact h.append<|.cons r .nil
theorem eQ.del{k:Int}{vs:List (Int×Value)}(h:eQ P F vs ds):eQ P F (without vs k) (mM ds k):=
 h.ind (M:=λvs ds=>eQ P F (without vs k)<|mM ds k) .nil λ{z _ _ _ _} r u=>by
  unfold without mM;rw[List.filter_cons,List.filter_cons]
  by_cases q:z=k
  ·rw[if_neg (by simpa using q),if_neg (by simpa using q)];exact u
  ·rw[if_pos (by simpa using q),if_pos (by simpa using q)];exact .cons r u
theorem gQ.any{k:Str}{vs:List (Str×Value)}{z:List (Str×PV)}(h:gQ P ρ F vs z):vs.any (λu=>u.1=k)=z.any (λu=>u.1=k):=by
 induction h with
 |nil=>rfl
 | @cons I _ _ _ _ r U B=>exact congrArg (decide (I=k)|| ·) B
theorem gQ.Ir{k:Str}{v:Value}{d:PV}(r:aW P ρ F v d):∀{vs:List (Str×Value)}{z:List (Str×PV)},gQ P ρ F vs z->gQ P ρ F (vs.map (λu=>if u.1=k then(u.1,v) else u)) (z.map (λu=>if u.1=k then(u.1,d) else u)):=
 λ{vs z} h=>by
 induction h with
 |nil=>exact .nil
 | @cons J _ _ _ _ I U B=>
  rw[List.map_cons,List.map_cons]
  by_cases q:J=k
  ·rw[if_pos q,if_pos q];exact .cons r B
  ·rw[if_neg q,if_neg q];exact .cons I B
theorem gQ.append{vs u:List (Str×Value)}{B z:List (Str×PV)}(h:gQ P ρ F vs B)(r:gQ P ρ F u z):gQ P ρ F (vs++u) (B++z):=by
 induction h with
 |nil=>exact r
 |cons a U I=>exact .cons a I
theorem gQ.put{k:Str}{v:Value}{d:PV}{vs:List (Str×Value)}{u:List (Str×PV)}(h:gQ P ρ F vs u)(r:aW P ρ F v d):gQ P ρ F (stored vs k v) (iS u k d):=by
 unfold stored iS;rw[h.any]
 split
 ·exact h.Ir r
 ·exact h.append<|.cons r .nil
theorem gQ.length{vs:List (Str×Value)}{u:List (Str×PV)}(h:gQ P ρ F vs u):vs.length=u.length:=by
 induction h with
 |nil=>rfl
 |cons a U z=>exact congrArg (· +1) z
theorem tf:∀{C A f σ K l k d Q}(z:σ.get K=some (.G7 l))(N:l.length<=100000)(q:Q (σ.put K (.G7 (iS l k d)))),sy C A f (.at K) (.d (.int k)) (.d d) σ Q:=by
 intro C A f σ K l k d Q z N q;exact λρ F s o i v a J r2 r3=>by
  refine aG J.place λp e B=>?_;clear J;subst B;refine aL (a.G7 z e) λe2 I=>bM I λO kvs g hi S=>r2.HH λu=>wpAny_setItem_pairs (hsz:=by refine(ys S.length)▸?_;exact Nat.le_trans N<|by decide) gf (hi.mapOf g) λh' hm U=>?_;exact aG (cA.mp hm) λo' W V=>aS.upd (o':=.G7<|iS l k d) a z e (.inl rfl) (λb O hb Z=>U.extBut b O hb Z) (⟨e2,bE o' _ W V<|S.put r3.dv⟩) q
theorem dB:∀{C A f σ K l k z Q}(B:σ.get K=some (.Hh l))(O:l.length<=100000)(q:Q (σ.put K (.Hh (iS l k z)))),sy C A f (.at K) (.d (.str k)) z σ Q:=by
 intro C A f σ K l k z Q B O q;exact λρ F s o i v a N r2 r3=>by
  refine aG N.place λp e J=>?_;clear N;subst J;refine aL (a.Hh B e) λe2 I=>bM I λU kvs g hi S=>r2.Id λu=>wpAny_setItem_pairs (hsz:=by refine(ys S.length)▸?_;exact Nat.le_trans O<|by decide) iQ (hi.mapOf g) λh' hm V=>?_;exact aG (cA.mp hm) λo' Z W=>aS.upd (o':=.Hh<|iS l k z) a B e (.inl rfl) (λb U hb eb=>V.extBut b U hb eb) (⟨e2,bE o' _ Z W<|S.put r3⟩) q
end
end
section
section
variable {C:Cx} {A:Around} {f:Fc} {σ:aC}
theorem te(U:l.length<100000)(q:Q (.d (.int l.length)) σ):Cl C A f (.builtin "len") [.d (.seq l)] σ Q:=λρ F s vs a r=>by
 refine r.one λz=>?_;have z:=z.dv;refine z.H9 λI O S=>aL O.weak λJ B=>aP B λn N=>?_;have u:=S.length;refine Calls.call_len_list (bD _ (a.H.HC _ _ I) J ⟨n,N⟩) (by refine(ys List.size_toArray)▸?_;lia)<|aS.same a<|aD _ ?_ q
 refine(ys List.size_toArray)▸(ys u)▸?_;exact .d<|.int _ _
theorem cR{b:Array UInt8}(z:b.size<100000)(q:Q (.d (.int b.size)) σ):Cl C A f (.builtin "len") [.d (.bytes b)] σ Q:=λρ F s vs a r=>by
 refine r.one λu=>?_;have u:=u.dv;exact u.H3 λt=>PySem.W.len_bytes (bw [_] [] 0xc350228008180000000005280001 ft z)<|aS.same a<|aD _ (.d<|.int _ _) q
theorem Dg(q:Q (.d (.int (if i<0 then-i else i))) σ):Cl C A f (.builtin "abs") [.d (.int i)] σ Q:=λρ F s vs a r=>by
 refine r.one λz=>?_;have z:=z.dv;exact z.HH λt=>call_abs_int λu tk=>aS.same a<|aD _ (.d<|.int _ _) q
theorem DO{j:Int}(I:A.handled=none)(q:Q (.d (.int (max i j))) σ):Cl C A f (.builtin "max") [.d (.int i),.d (.int j)] σ Q:=λρ F s vs a r=>by
 refine r.two λz B=>?_;have z:=z.dv;have B:=B.dv;refine z.HH λt=>B.HH λu=>max_two_ints I λh' tk hk=>aS.grow a hk<|aD (.d<|.int<|max i j) ?_ q
 split
 ·rw[Int.max_eq_right (by lia)];exact .d<|.int _ _
 ·rw[Int.max_eq_left (by lia)];exact .d<|.int _ _
theorem Ei{j:Int}(I:A.handled=none)(q:Q (.d (.int (min i j))) σ):Cl C A f (.builtin "min") [.d (.int i),.d (.int j)] σ Q:=λρ F s vs a r=>by
 refine r.two λz B=>?_;have z:=z.dv;have B:=B.dv;refine z.HH λt=>B.HH λu=>min_two_ints I λh' tk hk=>aS.grow a hk<|aD (.d<|.int<|min i j) ?_ q
 split
 ·rw[Int.min_eq_right (by lia)];exact .d<|.int _ _
 ·rw[Int.min_eq_left (by lia)];exact .d<|.int _ _
theorem j9{j:Int}(q:Q (.d (.It 0 j)) σ):Cl C A f (.type "range") [.d (.int j)] σ Q:=λρ F s vs a r=>by
 refine r.one λu=>?_;have u:=u.dv;exact u.HH λt=>call_range_1<|aS.push a rfl<|aD _ (.d<|.It<|.inr<|.head _) q
theorem il{j:Int}(q:Q (.d (.It i j)) σ):Cl C A f (.type "range") [.d (.int i),.d (.int j)] σ Q:=λρ F s vs a r=>by
 refine r.two λz B=>?_;have z:=z.dv;have B:=B.dv;exact z.HH λt=>B.HH λu=>call_range_2<|aS.push a rfl<|aD _ (.d<|.It<|.inr<|.head _) q
theorem eU{P:Nat->Value->Prop}{acc:Array Value}{n:Nat}(h:ItemsOf P acc n):acc.toList.length=n/\∀j v,acc.toList[j]? =some v->P j v:=
 ⟨by refine(ys Array.length_toList)▸?_;exact h.1,λj v e=>h.2 j v<|by refine(Array.getElem?_toList)▸?_;exact e⟩
theorem bA.of{ds:List DV}(h:vs.length=ds.length)(k:∀(j:Nat)(v:Value),vs[j]? =some v->∃d,ds[j]? =some d/\bz P F v d):bA P F vs ds:=by
 induction vs generalizing ds with
 |nil=>exact List.eq_nil_of_length_eq_zero h.symm▸.nil
 | cons v vs B=>
  cases ds with
  |nil=>exact(Nat.succ_ne_zero _ h).elim
  |cons d ds=>exact aG (k 0 v rfl) λI e r=>.cons (oi e▸r)<|B (Nat.succ.inj h) λj u z=>k (j+1) u z
theorem aS.newList{n:Nat}{u:List DV}{ax:Addr}(a:At C f ρ F σ s.heap)(hk:∀b o,s.heap.get? b=some o->h'.get? b=some o)(hn:s.heap.get? ax=none)
  (g:h'.get? ax=some {cls:=.type "list",data:=.seq vs.toArray n}) (r:bA C F vs u) (q:Q (.d (.seq u)) σ):aS C f ρ F σ s (VQ C Q) (.ref ax) (wh s h' tk):=
 aS.add (l:=[(ax,{cls:=.type "list",data:=.seq vs.toArray n})]) a hk (λp z=>by refine(ys<|List.mem_singleton.mp z)▸?_;exact⟨g,hn⟩) (aD _ (.d<|.seq (.inr<|.head _) ⟨n,rfl⟩<|r.mono b9.old) q)
theorem kD(W:A.handled=none){lo hi:Int}(h1: -(2^62)<=lo)(S:lo<2^62)(Z: -(2^62)<=hi)(U:hi<2^62)(hz:hi-lo<=1000000)(q:Q (.d (.seq (cM lo (hi-lo).toNat))) σ):Cl C A f (.type "list") [.d (.It lo hi)] σ Q:=λρ F s vs a r=>by
 refine r.one λz=>?_;have z:=z.dv;refine z.I2 λJ=>?_;have hsz:Builtin.Range.rangeSize lo hi 1=((hi-lo).toNat:Int):=by rw[rangeSize_one];split<;>lia
 refine call_list_range W (a.H.HC _ _ J) (small_one h1 S Z U) hsz (by lia) λh' tk u c' hk O V=>aL (eU V) λI N=>aS.newList (vs:=u.toList) (n:=c') a hk (aZ _) (by refine(ys Array.toArray_toList)▸?_;exact O) (.of (by rw[I,el]) λj v e=>?_) q;refine aP (N j v e) λt B=>?_;subst B;have hj:j<(hi-lo).toNat:=by refine I▸?_;exact(List.getElem?_eq_some_iff.mp e).1
 exact aD _ (mo _ _ _ hj) (by rw[Int.mul_one];exact .int _ _)
theorem uP:∀{C F l kvs acc}(d:eQ C F kvs l)(N:acc.length=kvs.length)(J:∀(j:Nat) v,acc[j]? =some v->∃k x,kvs[j]? =some (k,x)/\(intKind C.prog C.w).is k v=true),bA C F acc (l.map λp=>.int p.1):=by
 exists ce λC=>aA λF=>aA λl=>aA λkvs=>aA λacc=>aO _;intros;exact .of (by rw[N,List.length_map,d.length]) λj v e=>by
   revert j v;exists aA λj=>aA λv=>aO _;intros;refine nP (J j v e) λk x hk I=>?_;revert k x;exists aA λk=>aA λx=>aO _;intros;refine aD (.int k) ?_ ?_
   ·refine(ys List.getElem?_map)▸?_;have z:=congrArg (λl=>l[j]?) d.keys;simp only[List.getElem?_map,hk,Option.map_some] at z;cases e:l[j]? with
    |none=>rw[e] at z;exact jg z
    |some q=>rw[e] at z;(have u:=oi z;clear z;clear hk I;subst u);rfl
   ·have B:(match v with| .int j _=>j==k|_=>false)=true:=by
     cases v<;>first|exact I|(exact absurd I<|by simp[intKind])
    cases v with
    |int j t=>refine(ys<|beq_iff_eq.mp B)▸?_;exact .int _ _
    |_=>exact jn B
theorem rJ:∀{C A f σ K po l Q}(hh:A.handled=none)(S:σ.get K=some po)(Z:po.dct=some l)(W:l.length<=100000)(q:Q (.d (.seq (l.map λp=>.int p.1))) σ),Cl C A f (.type "list") [.at K] σ Q:=by
 exists ce λC=>cx λA=>dO λf=>dR λσ=>Au λK=>yG λpo=>aA λl=>aA λQ=>aO _;intros;exact λρ F s vs a r=>by
  refine r.one λV=>aG V.place λp e N=>?_;clear V;subst N;refine aL (a.dct S Z e) λO I=>aL O λU J=>bM I λob kvs g i d=>aL i λi1 B=>iP B λes ep i2 i3 i4 i5=>?_;have z:s.heap.DictAt (intKind C.prog C.w) p.1 kvs ep:=xB ob es g i1 i2 i3 i4 i5;refine kdl_call (kdl_dict (ep:=ep)<|by simpa using J) hh z (by refine(ys d.length)▸?_;exact Nat.le_trans W<|by decide) λh' tk u c' hk hS hI=>?_;exact aL (eU hI) λj1 j2=>aS.newList (vs:=u.toList) (n:=c') a hk (aZ _) (by refine(ys Array.toArray_toList)▸?_;exact hS) (uP d j1 j2) q
theorem ko{ns:List Int}(h:IntsAre vs ns):bA P F vs (ns.map .int):=by
 induction h with
 |nil=>exact .nil
 |cons n t U u=>exact .cons (.int n t) u
theorem bA.ints{ns:List Int}(h:bA P F vs (ns.map .int)):IntsAre vs ns:=by
 induction ns generalizing vs with
 |nil=>exact bA.HV h .nil
 |cons n ns u=>exact bA.HE h λa b=>a.HH λt=>.cons n t<|u b
theorem wY{ns ns':List Int}(V:ns.length<64)(hp:ns'.Perm ns)(S:ns'.Pairwise (· <= ·))(q:Q (.d (.seq (ns'.map .int))) σ):Cl C A f (.builtin "sorted") [.d (.seq (ns.map .int))] σ Q:=λρ F s vs a r=>by
 refine r.one λz=>?_;have z:=z.dv;refine z.H9 λW N O=>?_
 refine aP N λn I=>?_;try clear N;subst I
 have u:=O.length
 refine sorted_ints (l:=_) (bD _ (a.H.HC _ _ W) rfl ⟨n,rfl⟩) O.ints (by rw[u,List.length_map];exact V) λout B J a2 a3=>?_
 obtain⟨e,he⟩:=sortedAll_at s.heap _ out
 have Z:B=ns':=(a2.trans hp.symm).eq_of_pairwise (λU U U U=>Int.le_antisymm) a3 S
 rw[Z] at J
 exact aS.newList (tk:=s.toks) (vs:=out.toList) (n:=e) a (λb o=>sortedAll_old) (by
  cases e:s.heap.get? (s.heap.objs.size+1) with
  |none=>rfl
  |some o=>exact absurd (Heap.lt_size e)<|Nat.not_lt.mpr<|Nat.le_succ _) (by refine(ys Array.toArray_toList)▸?_;exact he) (ko J) q
end
end
section
section
variable {C:Cx} {A:Around} {f:Fc} {σ:aC}
theorem eh(hh:A.handled=none){K:Ky}{l:List (Int×DV)}{ns':List Int}(hg:σ.get K=some po)(hl:po.dct=some l)(B:l.length<64)(hp:ns'.Perm (l.map (·.1)))(W:ns'.Pairwise (· <= ·))(q:Q (.d (.seq (ns'.map .int))) σ):
  Cl C A f (.builtin "sorted") [.at K] σ Q:=λρ F s vs a r=>by
 refine r.one λr1=>aG r1.place λp e V=>?_;clear r1;subst V;exact aL (a.dct hg hl e) λaa ab=>aL aa λU u=>bM ab λJ kvs g i d=>sortD hh a u g i d B hp W q
where
 sortD {C:Cx} {A:Around} {f:Fc} {σ:aC} (hh:A.handled=none) {ρ:Pl} {F:Fz} {s:Shared} (a:At C f ρ F σ s.heap) {ax:Addr} {J:Obj} {kvs:List (Int×Value)} {l:List (Int×DV)} {ns':List Int} {Q:PV->aC->Prop} (u:ax≠sysModules) (g:s.heap.get? ax=some J) (i:dT (intKind C.prog C.w) J kvs) (d:eQ C F kvs l)
   (B:l.length<64) (hp:ns'.Perm (l.map (·.1))) (W:ns'.Pairwise (· <= ·)) (q:Q (.d<|.seq<|ns'.map .int) σ):fw C A f (call (.builtin "sorted") [.ref ax]) ρ F σ s (VQ C Q):=by
  refine aL i λi1 S=>iP S λes ep i2 i3 i4 i5=>?_;have O:s.heap.DictAt (intKind C.prog C.w) ax kvs ep:=xB J es g i1 i2 i3 i4 i5;refine Calls.call_function_entry kind_sorted plain_sorted entry_sorted (args_sorted1 _) ?_;unfold Builtin.«sorted»;refine wpAny_bind (m:=checkCount "sorted" 1 1 _)<|wpAny_pure ?_
  refine wpAny_bind (kdu_collect (A:=A.in1) (kdl_dict (ep:=ep)<|by simpa using u) hh O (by rw[d.length];exact Nat.le_trans (Nat.le_of_lt B)<|by decide) λh' tk acc hk hI=>?_);refine aL (eU hI) λj1 j2=>?_;have hA:bA C F acc.toList ((l.map (·.1)).map .int):=by rw[List.map_map];exact uP d j1 j2
  refine wpAny_bind (wpAny_newList ?_<|by rw[j1,d.length];exact Nat.le_trans (Nat.le_of_lt B)<|by decide);have N:(h'.push<|seqObj "list" acc.toList.toArray 0).get? h'.objs.size=some (seqObj "list" acc.toList.toArray 0):=Heap.get?_push_size _ rfl;refine wpAny_bind (wpAny_holding<|wpAny_call_entry slot_list_sort (aD _ N rfl) entry_list_sort (list_sort_tree N hA.ints (by rw[j1,d.length];exact B) λout Z a1 a2 a3=>aD _ rfl ?_)<|args_list_sort _);refine aP (sortedHeap_at (out:=out) N) λe he=>?_;have e1:Z=ns':=(a2.trans hp.symm).eq_of_pairwise (λU U U U=>Int.le_antisymm) a3 W;rw[e1] at a1;refine wpAny_pure<|aD _ rfl ?_
  refine aS.newList (s:=s) (tk:=tk) (vs:=out.toList) (n:=e) (ax:=h'.objs.size) a (λb o eb=>?_) ?_ (by rw[Array.toArray_toList];exact he) (ko a1) q
  ·have I:=hk b o eb;have z:=Heap.lt_size I;rw[sortedHeap_old (Nat.ne_of_lt z) (by rw[Heap.size_push];exact Nat.lt_succ_of_lt z)];exact Heap.get?_push_of_some _ I
  ·cases e:s.heap.get? h'.objs.size with
   |none=>rfl
   |some o=>exact absurd (Heap.lt_size<|hk _ _ e)<|Nat.lt_irrefl _
theorem lX(S:A.handled=none){l:List (Int×DV)}{ns':List Int}(J:l.length<64)(N:ns'.Perm (l.map (·.1)))(B:ns'.Pairwise (· <= ·))(q:Q (.d (.seq (ns'.map .int))) σ):
  Cl C A f (.builtin "sorted") [.d (.G7 l)] σ Q:=λρ F s vs a r=>by
 refine r.one λu=>?_;have u:=u.dv;exact u.Iv λz I hi O=>eh.sortD S a z (a.H.HC _ _ I) hi O J N B q
theorem DJ(W:A.handled=none){ns:List Int}(q:Q (.d (.int ns.sum)) σ):Cl C A f (.builtin "sum") [.d (.seq (ns.map .int))] σ Q:=λρ F s vs a r=>by
 refine r.one λz=>?_;have z:=z.dv;refine z.H9 λN Z S=>aL Z.weak λi1 I=>aP I λn U=>?_;have hi:=S.ints;refine aP hi.allInts.items λxs J=>?_
 rename_i u
 have B:s.heap.IsList _ (intItems xs):=J▸((bD _ (a.H.HC _ _ N) i1 ⟨n,U⟩):s.heap.IsList _ u.toArray);refine sum_intListG W B λh' tk t' hk=>?_;have O:ns=xs.toList.map (·.1):=by
  rw[<-nums_intItems,<-J];exact(show numsOf u.toArray.toList=ns from hi.numsOf).symm
 have V:preSum (numAt xs) xs.size=ns.sum:=by
  rw[preSum_eq,List.take_of_length_le (by simp),O]
 refine(ys V)▸?_;exact aS.grow a hk<|aD _ (.d<|.int _ _) q
theorem we:∀u:List Bool,(List.range u.length).any (λi=>u.getD i false)=u.any id:=λu=>by
 induction u with
 | nil=>
  exact rfl
 | cons b u z=>
  rw[List.length_cons,List.range_succ_eq_map,List.any_cons,List.any_map,List.any_cons,<-z];rfl
theorem DF:∀{C:Cx}{A:Around}{f:Fc}{σ:aC}{u:List Bool}{Q:PV->aC->Prop}(Z:A.handled=none)(q:Q (.d (.bool (u.any id))) σ),Cl C A f (.builtin "any") [.d (.seq (u.map .bool))] σ Q:=by
 exists ce λC=>cx λA=>dO λf=>dR λσ=>aA λu=>aA λQ=>aO _;intros;exact λρ F s vs a r=>by
  refine r.one λS=>?_;have S:=S.dv;refine S.H9 λhF hL V=>?_
  rename_i ax o z
  refine aL hL.weak λi1 U=>aP U λn i3=>?_;have g:=a.H.HC _ _ hF;have W:s.heap.IsList ax z.toArray:=bD _ g i1 ⟨n,i3⟩;have O:ax≠s.heap.objs.size:=Nat.ne_of_lt<|Heap.lt_size g
  have J:z.toArray.size=u.length:=by rw[List.size_toArray,V.length,List.length_map]
  refine call_any_walk<|wpAny_pyIter_list W<|Ca s.heap.objs.size _ _ _ _ _ (λi=>u.getD i false) rfl (Walks.list (A:=A.in1) Z s.heap.objs.size ax O z.toArray) ⟨(bD _ (Heap.get?_push_size _ rfl) rfl rfl),W.push _⟩ ?_<|λh' tk hk=>?_
  ·intro i v s Q E hv h;refine aG (V.get (i:=i) (v:=v)<|by simpa using hv) λd I h2=>?_;rw[List.getElem?_map] at I;cases e:u[i]? with
   |none=>rw[e] at I;exact bU I
   | some b=>
    rw[e] at I;(have B:=oi I;clear I;subst B);cases h2;have h':Q b s:=by
     have e':u.getD i false=b:=by rw[List.getD_eq_getElem?_getD,e];rfl
     rw[<-e'];exact h
    exact wpAny_truthy_bool h'
  ·have e:(List.range z.toArray.size).any (λi=>u.getD i false)=u.any id:=by
    rw[J];exact we u
   show aS C f ρ F σ s _ (Value.bool<|(List.range z.toArray.size).any λi=>u.getD i false) _;rw[e];exact aS.grow a (λb ob N=>hk b ob (λhm=>by rw[List.mem_singleton.mp hm,aZ] at N;exact bU N)<|Heap.get?_push_of_some _ N)<|aD _ (.d<|.bool _) q
theorem kL(N:l.length<=100000)(q:Q (.d (.seq l)) σ):Cl C A f (.type "list") [.d (.seq l)] σ Q:=λρ F s vs a r=>by
 refine r.one λz=>?_;have z:=z.dv;refine z.H9 λJ V I=>aL V.weak λO B=>aP B λn U=>?_;have u:=I.length;exact call_list_seq _ (.inl rfl) (a.H.HC _ _ J) O U (λh' c' hk S=>aS.newList (tk:=s.toks) a hk (aZ _) S I q) (by refine(ys List.size_toArray)▸(ys u)▸?_;exact Nat.le_trans N<|by decide)
noncomputable def eM(σ:aC)(x:PV)(l:List DV):Prop:=x= .d (.seq l)\/∃K,x= .at K/\σ.get K=some (.Ha l)
theorem eM.obj:∀{C f σ ρ F h x l v}(H:eM σ x l)(a:At C f ρ F σ h)(r:aW C ρ F v x),∃b n vs,v= .ref b/\h.get? b=some {cls:=.type "list",data:=.seq vs.toArray n}/\bA C F vs l:=by
 exists ce λC=>dO λf=>dR λσ=>aA λρ=>aA λF=>aA λh=>oO λx=>aA λl=>aA λv=>aO _;intros;rcases H with rfl|⟨K,rfl,hg⟩
 ·have r:=r.dv;refine r.H9 λS O N=>aP O λn I=>?_;try clear O;subst I;exact bH _ n _ rfl (a.H.HC _ _ S) N
 ·refine aG r.place λp e J=>?_;clear r;subst J;refine aL (a.list hg e) λU z=>bM z λo vs g u N=>aP u λn B=>?_;try clear u;subst B;exact bH p.1 n vs rfl g N
theorem Av{m:List DV}(V:eM σ x l)(W:eM σ y m)(Z:l.length+m.length<=100000)(q:Q (.d (.seq (l++m))) σ):cO C A f (binaryOp .Add) x y σ Q:=λρ F s u v a J O=>by
 refine ca (V.obj a J) λb n vs I g S=>?_;clear J;subst I;refine ca (W.obj a O) λc k B z g' N=>?_;clear O;subst z;have h1:=S.length;have h2:=N.length;refine PySem.P.add_list g g' ?_ (by refine(ys List.size_toArray)▸(ys List.size_toArray)▸(ys h1)▸(ys h2)▸?_;exact Nat.le_trans Z<|by decide);refine aS.newList (tk:=s.toks) (vs:=vs++B) (n:=0) a (λU U e=>Heap.get?_push_of_some _ e) (aZ _) ?_ (S.append N) q;have e:vs.toArray++B.toArray=(vs++B).toArray:=by simp
 refine e▸?_;exact Heap.get?_push_size _ rfl
theorem w7{K:Ky}{m:List DV}(O:σ.get K=some (.Ha l))(Z:eM σ y m)(hz:l.length+m.length<=100000)(q:Q (.d .none) (σ.put K (.Ha (l++m)))):Cl C A f (.builtin "list.extend") [.at K,y] σ Q:=λρ F s vs a r=>by
 refine r.two λV W=>aG V.place λp e J=>?_;clear V;subst J;refine aL (a.list O e) λe2 I=>bM I λo vs g B U=>aP B λn u=>?_;try clear B;subst u;refine ca (Z.obj a W) λc k z u g' S=>?_;clear W;subst u;have h1:=U.length;have h2:=S.length;have hsz:vs.toArray.size+z.toArray.size<=sizeLine:=by refine(ys List.size_toArray)▸(ys List.size_toArray)▸(ys h1)▸(ys h2)▸?_;exact Nat.le_trans hz (by decide)
 refine call_meets PySem.F.slot_list_extend (aD _ g rfl) PySem.F.entry_list_extend (PySem.F.args_list_extend_2 _ _) (AutoSeq1.list_extend_list_list_0 p.1 vs.toArray n c z.toArray k (extend_door hsz) (Nat.le_trans (Nat.le_add_right _ _) hsz)<|Nat.le_succ_of_le hsz) ⟨g,g',?_⟩;have e3:vs.toArray++z.toArray=(vs++z).toArray:=by simp
 have N:(s.heap.update p.1<|Obj.mapSeq λx=>x++z.toArray).get? p.1=some {cls:=.type "list",data:=.seq (vs++z).toArray (if(vs.toArray++z.toArray).size==vs.toArray.size then n else n+1)}:=by
  rw[Heap.get?_update_self _ g (by rw[mapSeq_app];rfl),mapSeq_app,e3]
 exact aS.upd (o':=.Ha<|l++m) (tk:=s.toks) a O e (.inl rfl) (λb ob hb eb=>(Heap.get?_update_ne _ _ _ _ hb).trans eb) (⟨e2,bE _ (vs++z) N ⟨_,rfl⟩<|U.append S⟩)<|aD _ (.d .none) q
theorem qj{k:Int}{u:Tok}:(keyPart (.int k u)).isSome=true:=by rfl
theorem EO:∀{C A f σ K l k d Q}(I:σ.get K=some (.G7 l))(V:l.lookup k=some d)(S:l.length<=100000)(q:Q (.d d) (σ.put K (.G7 (mM l k)))),Cl C A f (.builtin "dict.pop") [.at K,.d (.int k)] σ Q:=by
 intro C A f σ K l k d Q I V S q;exact λρ F s vs a r=>by
  refine r.two λO r2=>aG O.place λp e z=>?_;clear O;subst z;refine aL (a.G7 I e) λZ B=>bM B λo kvs g hi N=>r2.HH λu=>aG (N.look V) λv hv rv=>?_;have U:=hi.mapOf g;refine call_meetsIn PySem.F.slot_dict_pop U.typeIs PySem.F.entry_dict_pop (PySem.F.args_dict_pop_2 _ _) (meets_dict_pop_there (knd:=intKind C.prog C.w) (d:=p.1) (k:=k) gf [] (.inl rfl) qj) (kH kvs v U (by refine(ys N.length)▸?_;exact Nat.le_trans S<|by decide) hv<|λh' J hs=>?_);exact aG (cA.mp J) λo' g' W=>aS.upd (o':=.G7<|mM l k) a I e (.inl rfl) (λb ob hb eb=>hs.extBut b ob hb eb) (⟨Z,bE o' _ g' W N.del⟩)<|aD _ (.d rv) q
end
end
section
open PySem PySem.W PyProof.Rows PySem.SeqAt
theorem nN{u:Type}{i:u}{P:Prop}(h:none=some i):P:=bU h
theorem nF{P:Prop}(h:false=true):P:=jn h
noncomputable def DV.int? :DV->Option Int
 | .int i=>some i
 |_=>.none
noncomputable def DV.str? :DV->Option Str
 | .str i=>some i
 |_=>.none
noncomputable def DV.bytes? :DV->Option (Array UInt8)
 | .bytes i=>some i
 |_=>.none
noncomputable def DV.none? :DV->Bool
 | .none=>true
 |_=>false
noncomputable def DV.bool? :DV->Option Bool
 | .bool i=>some i
 |_=>.none
noncomputable def DV.tup? :DV->Option (List DV)
 | .tup i=>some i
 |_=>.none
noncomputable def DV.seq? :DV->Option (List DV)
 | .seq i=>some i
 |_=>.none
theorem DV.int?_eq:∀{d:DV}{i:Int}(h:d.int? =some i),d= .int i:=by
 intro d i h;cases d<;>first|exact congrArg DV.int (oi h)|exact nN h
theorem DV.str?_eq:∀{d:DV}{i:Str}(h:d.str? =some i),d= .str i:=by
 intro d i h;cases d<;>first|exact congrArg DV.str (oi h)|exact nN h
theorem DV.bytes?_eq{i:Array UInt8}(h:d.bytes? =some i):d= .bytes i:=by
 cases d<;>first|exact congrArg DV.bytes (oi h)|exact nN h
theorem DV.none?_eq(h:d.none? =true):d= .none:=by
 cases d<;>first|rfl|exact nF h
theorem DV.bool?_eq:∀{d:DV}{i:Bool}(h:d.bool? =some i),d= .bool i:=by
 intro d i h;cases d<;>first|exact congrArg DV.bool (oi h)|exact nN h
theorem DV.tup?_eq:∀{d:DV}{i:List DV}(h:d.tup? =some i),d= .tup i:=by
 intro d i h;cases d<;>first|exact congrArg DV.tup (oi h)|exact nN h
theorem DV.seq?_eq:∀{d:DV}{i:List DV}(h:d.seq? =some i),d= .seq i:=by
 intro d i h;cases d<;>first|exact congrArg DV.seq (oi h)|exact nN h
mutual
noncomputable def im:DV->DV->Bool
 | .int i,e=>match e.int? with|some j=>i==j| .none=>false
 | .str x,e=>match e.str? with|some y=>x.cps.toList==y.cps.toList| .none=>false
 | .bytes b,e=>match e.bytes? with|some c=>b.toList==c.toList| .none=>false
 | .none,e=>e.none?
 | .bool _,e=>e.bool?.isSome
 | .tup l,e=>match e.tup? with|some m=>ez l m| .none=>false
 | .seq l,e=>match e.seq? with|some m=>ez l m| .none=>false
 |_,_=>false
noncomputable def ez:List DV->List DV->Bool
 |[],m=>m.isEmpty
 |x::xs,m=>match m with|y::ys=>im x y&&ez xs ys|[]=>false
end
mutual
noncomputable def pN:Nat->DV->DV->Bool
 |_,.int _,e=>e.int?.isSome
 |_,.str _,e=>e.str?.isSome
 |_,.bytes _,e=>e.bytes?.isSome
 |_,.none,e=>e.none?
 |_,.bool a,e=>match e.bool? with|some b=>a==b| .none=>false
 |n,.tup l,e=>match n with|0=>false|n+1=>match e.tup? with|some m=>HU n l m| .none=>false
 |n,.seq l,e=>match n with|0=>false|n+1=>match e.seq? with|some m=>l.length !=m.length||HU n l m| .none=>false
 |_,_,_=>false
noncomputable def HU:Nat->List DV->List DV->Bool
 |n,x::xs,m=>match m with|y::ys=>pN n x y&&HU n xs ys|[]=>true
 |_,[],_=>true
end
theorem rS:∀{X:DV->DV->Prop}{n:Nat}{d e:DV}(h:pN n d e=true)(hi:∀i j,X (.int i) (.int j))(u:∀x y,X (.str x) (.str y))(I:∀x y,X (.bytes x) (.bytes y))(hn:X .none .none)(z:∀b,X (.bool b) (.bool b))(B:∀m l k,n=m+1->HU m l k=true->X (.tup l) (.tup k))(J:∀m l k,n=m+1->(l.length≠k.length\/HU m l k=true)->X (.seq l) (.seq k)),X d e:=by
 intro X n d e h hi u I hn z B J;cases d with
 |int i=>exact(Option.isSome_iff_exists.mp<|show e.int?.isSome=true from h).elim λj q=>DV.int?_eq q▸hi i j
 |str i=>exact(Option.isSome_iff_exists.mp<|show e.str?.isSome=true from h).elim λj q=>DV.str?_eq q▸u i j
 |bytes i=>exact(Option.isSome_iff_exists.mp<|show e.bytes?.isSome=true from h).elim λj q=>DV.bytes?_eq q▸I i j
 |none=>exact DV.none?_eq (show e.none? =true from h)▸hn
 | bool b=>
  have h:(match e.bool? with|some c=>b==c| .none=>false)=true:=h;cases q:e.bool? with
  |none=>rw[q] at h;exact nF h
  |some c=>rw[q] at h;refine(ys<|DV.bool?_eq q)▸(eq_of_beq h)▸?_;exact z b
 | tup l=>
  cases n with
  |zero=>exact nF h
  | succ n=>
   have h:(match e.tup? with|some m=>HU n l m| .none=>false)=true:=h;cases q:e.tup? with
   |none=>rw[q] at h;exact nF h
   |some c=>rw[q] at h;refine(ys<|DV.tup?_eq q)▸?_;exact B n l c rfl h
 | seq l=>
  cases n with
  |zero=>exact nF h
  | succ n=>
   have h:(match e.seq? with|some m=>l.length !=m.length||HU n l m| .none=>false)=true:=h;cases q:e.seq? with
   |none=>rw[q] at h;exact nF h
   |some c=>rw[q] at h;refine(ys<|DV.seq?_eq q)▸?_;exact J n l c rfl ((Bool.or_eq_true _ _).mp h|>.imp bne_iff_ne.mp id)
 |_=>exact nF h
theorem nr(b c:Array UInt8)(t u:Tok):MeetsSeq.EqGives (.bytes b t) (.bytes c u) (b.toList==c.toList):=by
 intro prog w A E s Q h;unfold eqBool;refine wpAny_holding<|wpAny_ite_split (λz=>?_)<|λz=>?_
 ·have e:b=c:=by have:=eq_of_beq z;injection this
  clear z;subst e;exact wpAny_bind (wpAny_rule<|wpAny_pure<|by simpa using h)
 ·exact wpAny_bind<|richCompare_gives (op:=.Eq) (T:="bytes") rfl rfl FB.slot_bytes_eq FB.entry_bytes_eq (FB.args_bytes_eq_2 _ _) (gives_bytes_eq b c t u) (λx=>nc PySem.Value.ctorIdx x rfl)<|wpAny_truthy_bool h
theorem rN:∀(l m:List DV),ez l m=true->l.length=m.length:=λl=>by
 induction l with
 |nil=>exact λm h=>(congrArg List.length<|List.isEmpty_iff.mp h).symm
 | cons x l u=>
  intro m h;cases m with
  |nil=>exact nF h
  |cons y m=>exact congrArg (· +1)<|u m ((Bool.and_eq_true _ _).mp h).2
theorem gS:∀(l m:List DV),((List.range (min l.length m.length)).all (λj=>im (l.getD j .none) (m.getD j .none))&&l.length==m.length)=ez l m
 := λl=>by
  induction l with
  | nil=>
    intro m;cases m with
    |nil=>rfl
    |cons y m=>rfl
  | cons x xs z=>
    intro m;cases m with
    |nil=>rfl
    | cons y u=>
      show _=(im x y&&ez xs u);rw[List.length_cons,List.length_cons,Nat.succ_min_succ,List.range_succ_eq_map,List.all_cons,List.all_map,<-z u,Bool.and_assoc];refine congrArg (_&& ·)<|congrArg (_&& ·) ?_
      show(xs.length+1==u.length+1)=(xs.length==u.length);rw[Bool.eq_iff_iff,beq_iff_eq,beq_iff_eq,Nat.succ_inj]
theorem mw(l m:List DV)(h:l.length=m.length):(List.range l.length).all (λj=>im (l.getD j .none) (m.getD j .none))=ez l m:=by
 have:=gS l m
 rwa [<-h,Nat.min_self,beq_self_eq_true,Bool.and_true] at this
theorem r9{n:Nat}{m:List DV}(h:HU n l m=true){x y:DV}(u:l[j]? =some x)(z:m[j]? =some y):pN n x y=true:=by
 induction l generalizing m j with
 |nil=>exact nN u
 | cons a l B=>
  cases m with
  |nil=>exact nN z
  | cons b m=>
   cases j with
   |zero=>exact oi u▸oi z▸((Bool.and_eq_true _ _).mp h).1
   |succ j=>exact B ((Bool.and_eq_true _ _).mp h).2 u z
theorem Br{n:Nat}(e:dg vs n=dg ws m):vs=ws:=by
 injection e with _ _ e;injection e with e;exact congrArg Array.toList e
theorem AM{o:Obj}(h:gd o vs)(z:gd o ws):vs=ws:=by
 refine aP h λU e=>aP z λU u=>?_;have e:=e.symm.trans u;injection e with _ _ e;injection e with e;exact congrArg Array.toList e
section
variable {P:Cx} {F:Fz}
noncomputable def tK(P:Cx)(F:Fz)(n:Nat):Prop:=∀{v:Value}{d e:DV},bz P F v d->bz P F v e->pN n d e=true->im d e=true
theorem rL:∀{P F n}(W:tK P F n),∀{vs:List Value}{l m:List DV},bA P F vs l->bA P F vs m->HU n l m=true->ez l m=true:=by
 exists ce λP=>aA λF=>aA λn=>aO _;intro P F n W;exact λ{vs}=>by
  induction vs with
  | nil=>intro l m J O _;cases l with
   | nil=>cases m with
    |nil=>rfl
    |cons _ _=>exact O.inv.elim λU q=>q.elim λU q=>nomatch q.1
   |cons _ _=>exact J.inv.elim λU q=>q.elim λU q=>nomatch q.1
  | cons v vs hi=>intro l m J O N;cases l with
   |nil=>exact nc List.ctorIdx J.inv rfl
   | cons _ _=>cases m with
    |nil=>exact nc List.ctorIdx O.inv rfl
    | cons _ _=>
     refine bM J.inv λU U S a Z=>bM O.inv λU U V b bs=>?_
     (have u:=(List.cons.inj S).1;have z:=(List.cons.inj S).2;clear S;subst u;subst z);(have I:=(List.cons.inj V).1;have B:=(List.cons.inj V).2;clear V;subst I;subst B)
     have N:=(Bool.and_eq_true _ _).mp N;exact(Bool.and_eq_true _ _).mpr ⟨W a b N.1,hi Z bs N.2⟩
theorem qX{h:Heap}(W:∀a o,F a o->h.get? a=some o)(n:Nat):tK P F n:=by
 exact Nat.strongRecOn (motive:=tK P F) n λn V v d e Z r2 hc=>by
  have u:∀{a:Addr}{o o':Obj},F a o->F a o'->o=o':=λf g=>oi<|(W _ _ f).symm.trans<|W _ _ g
  refine rS (X:=λd e=>bz P F v d->bz P F v e->im d e=true) hc (λi j a b=>?_) (λi j a b=>?_) (λi j a b=>?_) (λU U=>rfl) (λU U U=>rfl) (λm l k S hk a b=>?_) (λm l k S hk a b=>?_) Z r2
  ·refine aP a.inv λt z=>aP b.inv λt B=>?_;cases z.symm.trans B;exact beq_self_eq_true i
  ·refine aP a.inv λt z=>aP b.inv λt B=>?_;cases z.symm.trans B;exact beq_self_eq_true i.cps.toList
  ·refine aP a.inv λt z=>aP b.inv λt B=>?_;cases z.symm.trans B;exact beq_self_eq_true i.toList
  ·refine ca a.inv λU U U z O J=>ca b.inv λU U U B N I=>?_;cases z.symm.trans B;cases Br (u O N);exact rL (V m<|S▸Nat.lt_succ_self m) J I hk
  ·refine kY a.inv λU U U z O i1 J=>kY b.inv λU U U B N i2 I=>?_;cases z.symm.trans B;cases u O N;cases AM i1 i2;exact rL (V m<|S▸Nat.lt_succ_self m) J I<|hk.resolve_left λq=>q<|J.length.symm.trans I.length
noncomputable def FS(P:Cx)(F:Fz)(s:Shared)(n:Nat):Prop:=∀(A:Around){v w:Value}{d e:DV},bz P F v d->bz P F w e->pN n d e=true->A.units+n<cLine->EqAt A s v w (im d e)
theorem si{n:Nat}(J:FS P F s n){m:List DV}(I:bA P F vs l)(S:bA P F ws m)(O:HU n l m=true)(B:A.units+n<cLine):
  ∀j(V:j<vs.toArray.size)(N:j<ws.toArray.size),EqAt A s vs.toArray[j] ws.toArray[j] (im (l.getD j .none) (m.getD j .none)):=λj V N=>by
 refine aG (I.get (i:=j) (v:=vs.toArray[j])<|by rw[List.getElem_toArray];exact List.getElem?_eq_getElem _) λx u U=>aG (S.get (i:=j) (v:=ws.toArray[j])<|by rw[List.getElem_toArray];exact List.getElem?_eq_getElem _) λy z W=>(ys List.getD_eq_getElem?_getD)▸(ys u)▸(ys List.getD_eq_getElem?_getD)▸(ys z)▸?_;exact J A U W (r9 O u z) B
theorem u1{n:Nat}(u:A.units+(n+1)<cLine):A.in1.units+n<cLine:=by rw[Around.in1_units,Nat.add_assoc,Nat.add_comm 1 n];exact u
theorem u2{n:Nat}(u:A.units+n<cLine):A.units<cLine:=Nat.lt_of_le_of_lt (Nat.le_add_right _ _) u
theorem Ae{n:Nat}(J:FS P F s n){ax z:Addr}{O k2:Nat}{m:List DV}(N:s.heap.get? ax=some (dg vs O))(U:s.heap.get? z=some (dg ws k2))(I:bA P F vs l)(B:bA P F ws m)(S:HU n l m=true)(u:A.units+(n+1)<cLine):RcAt A s (.ref ax) (.ref z) (ez l m):=by
 have:=RcAt.tuples (A:=A) (s:=s) (items:=vs.toArray) (items2:=ws.toArray) (e:=λj=>im (l.getD j .none)<|m.getD j .none) (bD _ N rfl ⟨_,rfl⟩) (bD _ U rfl ⟨_,rfl⟩) (u2 u) (si J I B S<|u1 u)
 rwa [List.size_toArray,List.size_toArray,I.length,B.length,gS] at this
theorem xW{n:Nat}(ih:FS P F s n){ax J:Addr}{S o2:Obj}{m:List DV}(V:s.heap.get? ax=some S)(Z:gd S vs)(W:s.heap.get? J=some o2)(U:gd o2 ws)(z:bA P F vs l)(N:bA P F ws m)(hc:l.length=m.length->HU n l m=true)(B:A.units+(n+1)<cLine):RcAt A s (.ref ax) (.ref J) (ez l m):=by
 refine aP Z λk1 O=>?_;try clear Z;subst O;refine aP U λk2 I=>?_;try clear U;subst I
 by_cases u:l.length=m.length
 ·have:=RcAt.lists (A:=A) (s:=s) (l:=ax) (b:=J) (items:=vs.toArray) (items2:=ws.toArray) (e:=λj=>im (l.getD j .none)<|m.getD j .none) (bD _ V rfl ⟨_,rfl⟩) (bD _ W rfl ⟨_,rfl⟩) (by refine(ys List.size_toArray)▸(ys List.size_toArray)▸(ys z.length)▸(ys N.length)▸?_;exact u) (u2 B) (si ih z N (hc u)<|u1 B)
  rwa [List.size_toArray,z.length,mw l m u] at this
 ·refine(ys<|show ez l m=false from Bool.eq_false_iff.mpr λq=>u<|rN l m q)▸?_;exact RcAt.lists_lengths (items:=vs.toArray) (items2:=ws.toArray) (bD _ V rfl ⟨_,rfl⟩) (bD _ W rfl ⟨_,rfl⟩) (by refine(ys List.size_toArray)▸(ys List.size_toArray)▸(ys z.length)▸(ys N.length)▸?_;exact bne_iff_ne.mpr u)<|u2 B
theorem xu{s:Shared}(I:∀a o,F a o->s.heap.get? a=some o)(n:Nat):FS P F s n:=by
 exact Nat.strongRecOn (motive:=FS P F s) n λn ih A v w d e W Z N hu=>by
  refine rS (X:=λd e=>bz P F v d->bz P F w e->pN n d e=true->EqAt A s v w (im d e)) N (λi j a b U=>?_) (λi j a b U=>?_) (λi j a b U=>?_)
   (λa b U=>?_) (λx a b U=>?_) (λm l k hm hk a b c=>?_) (λm l k hm hk a b c=>?_) W Z N
  ·exact a.HH λt=>b.HH λu=>(MeetsSeq.EqGives.int i j t u).at A s
  ·exact a.Id λt=>b.Id λu=>(SeqRoads2.EqGives.str i j t u).at A s
  ·exact a.H3 λt=>b.H3 λu=>(nr i j t u).at A s
  ·refine(ys<|show v=_ from a.inv)▸(ys<|show w=_ from b.inv)▸?_;exact EqAt.same _
  ·refine(ys<|show v=_ from a.inv)▸(ys<|show w=_ from b.inv)▸?_;exact EqAt.same _
  ·clear N;subst hm;refine ca a.inv λax vs n1 aa f1 a1=>?_;clear W;subst aa;refine ca b.inv λV ws n2 ab J a2=>?_;subst ab
   by_cases B:ax=V
   ·clear J Z;subst B;refine(ys<|qX I (m+1) a b c)▸?_;exact EqAt.same _
   ·exact EqAt.of_refs B<|Ae (ih m<|Nat.lt_succ_self m) (I _ _ f1) (I _ _ J) a1 a2 hk hu
  ·clear N;subst hm;refine kY a.inv λax o1 vs S f1 i1 a1=>?_;clear W;subst S;refine kY b.inv λV o2 ws O J i2 a2=>?_;subst O
   by_cases B:ax=V
   ·clear J Z;subst B;refine(ys<|qX I (m+1) a b c)▸?_;exact EqAt.same _
   ·exact EqAt.of_refs B<|xW (ih m<|Nat.lt_succ_self m) (I _ _ f1) i1 (I _ _ J) i2 a1 a2 (λq=>hk.resolve_left λz=>z q) hu
end
end
section
open PySem PySem.W PyProof.Rows PySem.SeqAt
section
variable {C:Cx} {A:Around} {f:Fc} {σ:aC}
theorem Rm.room{n:Nat}(h:Rm A n)(u:m<=8*n):A.units+m<cLine:=by have:=h.un;exact dD [_,_,_,_] [] 0x210518811400d8813102282000901001881 ft u this
theorem B9(N:∀a o,F a o->s.heap.get? a=some o){n:Nat}{m:List DV}(W:bA P F vs l)(V:bA P F ws m)(U:HU n l m=true){A:Around}(J:A.units+n<cLine):
  ∀j(u:j<vs.toArray.size)(B:j<ws.toArray.size),EqAt A s vs.toArray[j] ws.toArray[j] (im (l.getD j .none) (m.getD j .none)):=λj u B=>by
 have O:j<vs.length:=by simpa using u
 have Z:j<ws.length:=by simpa using B
 refine aG (W.get (i:=j) (v:=vs[j])<|by simp[O]) λx z S=>aG (V.get (i:=j) (v:=ws[j])<|by simp[Z]) λy I q2=>(ys List.getD_eq_getElem?_getD)▸(ys z)▸(ys List.getD_eq_getElem?_getD)▸(ys I)▸?_;exact xu N n A (by simpa using S) (by simpa using q2) (r9 U z I) J
theorem Ek{m:List DV}{n:Nat}(hx:eM σ x l)(hy:eM σ y m)(hc:l.length=m.length->HU n l m=true)(I:A.units+(n+1)<cLine)(q:Q (.d (.bool (!ez l m))) σ):cO C A f (compareOp .NotEq) x y σ Q:=λρ F s u v a S Z=>by
 refine ca (hx.obj a S) λb k vs O g hA=>?_;clear S;subst O;refine ca (hy.obj a Z) λc k2 U J V W=>?_;clear Z;subst J;have B:=hA.length;have N:=W.length
 by_cases z:l.length=m.length
 ·have:=RcNeAt.lists (A:=A) (s:=s) (l:=b) (b:=c) (items:=vs.toArray) (items2:=U.toArray) (e:=λj=>im (l.getD j .none)<|m.getD j .none) (bD _ g rfl ⟨_,rfl⟩) (bD _ V rfl ⟨_,rfl⟩) (by refine(ys List.size_toArray)▸(ys List.size_toArray)▸?_;exact Nat.le_antisymm (jt [_,_,_,_] [] 0x3040809810504800202200001 ft B N z)<|jt [_,_,_,_] [] 0x3040a09800404808282200001 ft B N z) (bw [_,_,_] [] 0x220a20c03102200081 ft I) (B9 a.H.HC hA W (hc z)<|by rw[Around.in1_units];exact bw [_,_,_] [] 0x21050860188120220a00d881 ft I);rw[List.size_toArray,B,mw l m z] at this;exact this C.prog C.w _ _<|aS.same (tk:=s.toks) a<|aD _ (.d<|.bool _) q
 ·have e:ez l m=false:=by
   cases q:ez l m with
   |false=>rfl
   |true=>exact absurd (rN l m q) z
  rw[e] at q;have:=RcNeAt.lists_lengths (A:=A) (s:=s) (l:=b) (b:=c) (items:=vs.toArray) (items2:=U.toArray) (bD _ g rfl ⟨_,rfl⟩) (bD _ V rfl ⟨_,rfl⟩) (by refine(ys List.size_toArray)▸(ys List.size_toArray)▸(ys B)▸(ys N)▸?_;simpa using z)<|bw [_,_,_] [] 0x220a20c03102200081 ft I
  exact this C.prog C.w _ _<|aS.same (tk:=s.toks) a<|aD _ (.d<|.bool _) q
theorem CS{m:List DV}{n:Nat}(V:HU n l m=true)(I:A.units+(n+1)<cLine)(q:Q (.d (.bool (ez l m))) σ):cO C A f (compareOp .Eq) (.d (.tup l)) (.d (.tup m)) σ Q:=λρ F s u v a z B=>by
 have z:=z.dv;have B:=B.dv;refine z.tupE λW N=>B.tupE λS J=>?_
 rename_i b vs k c O k2
 have Z:=N.length;have U:=J.length;refine eq_tupleAt (l:=b) (b:=c) (items:=vs.toArray) (items2:=O.toArray) (e:=λj=>im (l.getD j .none)<|m.getD j .none) (bD _ (a.H.HC _ _ W) rfl ⟨_,rfl⟩) (bD _ (a.H.HC _ _ S) rfl ⟨_,rfl⟩) (by exact bw [_,_,_] [] 0x220a20c03102200081 ft I) (B9 a.H.HC N J V<|by rw[Around.in1_units];exact bw [_,_,_] [] 0x21050860188120220a00d881 ft I) ?_;rw[List.size_toArray,List.size_toArray,Z,U,gS];exact aS.same (tk:=s.toks) a<|aD _ (.d<|.bool _) q
theorem xz:∀{P F s n vs l x d A}(S:∀a o,F a o->s.heap.get? a=some o)(J:bA P F vs l)(r:bz P F x d)(Z:∀y∈l,pN n y d=true)(O:A.units+n<cLine),∃e:Value->Bool,(∀y,y∈vs.toArray->EqAt A s y x (e y))/\vs.toArray.any e=l.any (λy=>im y d):=by
 exists ce λP=>aA λF=>eu λs=>aA λn=>aA λvs=>aA λl=>aA λx=>zR λd=>cx λA=>aO _;intros
 classical
 let e:Value->Bool:=λv=>decide (∃(i:Nat) (y:DV),vs[i]? =some v/\l[i]? =some y/\im y d=true)
 refine aD e (λv hv=>?_) ?_
 ·have V:v∈vs:=by simpa using hv
  obtain⟨i,hi,rfl⟩:=List.getElem_of_mem V
  by_cases q:∃(j:Nat) (y:DV),vs[j]? =some vs[i]/\l[j]? =some y/\im y d=true
  ·have B:e vs[i]=true:=decide_eq_true q;refine bM q λj y g1 I W=>aG (J.get g1) λy' u N=>?_;rw[I] at u;(have z:=oi u;clear u;subst z);refine(ys B)▸W▸?_;exact xu S n A N r (Z y<|List.mem_of_getElem? I) O
  ·have B:e vs[i]=false:=decide_eq_false q;refine aG (J.get (i:=i) (v:=vs[i])<|by simp) λy u N=>?_;have h2:im y d=false:=by
    cases h3:im y d with
    |false=>rfl
    |true=>exact absurd (bE i y (by simp) u h3) q
   refine(ys B)▸h2▸?_;exact xu S n A N r (Z y<|List.mem_of_getElem? u) O
 ·rw[List.any_toArray,Bool.eq_iff_iff,List.any_eq_true,List.any_eq_true];constructor
  ·rintro⟨v,_,B⟩;exact bM (of_decide_eq_true B) λj y U I W=>aD y (List.mem_of_getElem? I) W
  ·rintro⟨y,hy,B⟩;obtain⟨i,hi,rfl⟩:=List.getElem_of_mem hy;exact aG (J.get' (i:=i) (d:=l[i])<|by simp) λv u U=>aD v (List.mem_of_getElem? u) (decide_eq_true<|bE i (l[i]) u (by simp) B)
theorem uF{n:Nat}(N:eM σ y l)(S:∀y∈l,pN n y d=true)(O:A.units+(n+1)<cLine)(q:Q (.d (.bool (!l.any λy=>im y d))) σ):cO C A f (compareOp .NotIn) (.d d) y σ Q:=λρ F s u v a J I=>by
 refine ca (N.obj a I) λb k vs B g V=>?_;clear I;subst B;exact aG (xz a.H.HC V J.dv S (A:=A.in1)<|by rw[Around.in1_units];exact bw [_,_,_] [] 0x21050860188120220a00d881 ft O) λe U z=>notIn_listAt e (bD _ g rfl ⟨_,rfl⟩) U (by refine(ys z)▸?_;exact aS.same (tk:=s.toks) a<|aD _ (.d<|.bool _) q)
theorem D6{n:Nat}(O:∀y∈l,pN n y d=true)(J:A.units+(n+1)<cLine)(q:Q (.d (.bool (l.any λy=>im y d))) σ):cO C A f (compareOp .In) (.d d) (.d (.tup l)) σ Q:=λρ F s u v a I B=>by
 have B:=B.dv;exact B.tupE λN S=>aG (xz a.H.HC S I.dv O (A:=A.in1)<|by rw[Around.in1_units];exact bw [_,_,_] [] 0x21050860188120220a00d881 ft J) λe U z=>in_tupleAt e (bD _ (a.H.HC _ _ N) rfl ⟨_,rfl⟩) U (by rw[z];exact aS.same (tk:=s.toks) a<|aD _ (.d<|.bool _) q)
theorem z4{n:Nat}(O:∀y∈l,pN n y d=true)(J:A.units+(n+1)<cLine)(q:Q (.d (.bool (!l.any λy=>im y d))) σ):cO C A f (compareOp .NotIn) (.d d) (.d (.tup l)) σ Q:=λρ F s u v a I B=>by
 have B:=B.dv;exact B.tupE λN S=>aG (xz a.H.HC S I.dv O (A:=A.in1)<|by rw[Around.in1_units];exact bw [_,_,_] [] 0x21050860188120220a00d881 ft J) λe U z=>notIn_tupleAt e (bD _ (a.H.HC _ _ N) rfl ⟨_,rfl⟩) U (by refine(ys z)▸?_;exact aS.same (tk:=s.toks) a<|aD _ (.d<|.bool _) q)
theorem EM{K:Ky}{l:List (Int×DV)}{k:Int}(S:σ.get K=some po)(W:po.dct=some l)(q:Q (.d (.bool (l.lookup k).isSome)) σ):cO C A f (compareOp .In) (.d (.int k)) (.at K) σ Q:=λρ F s u v a V N=>by
 refine aG N.place λp e B=>?_;clear N;subst B;refine aL (a.dct S W e) λJ z=>aL J λU I=>bM z λo kvs g hi O=>V.HH λt=>wpAny_in_of gf (by simpa using I) (hi.mapOf g).mapOf<|aS.same a<|aD _ (.d<|.bool _) ?_
 have:(valueAt kvs k).isSome=(l.lookup k).isSome:=by
  cases e:l.lookup k with
  |some d=>refine aG (O.look e) λv Z U=>?_;refine(ys Z)▸?_;rfl
  |none=>refine(ys<|O.miss e)▸?_;rfl
 refine(ys this)▸?_;exact q
end
end
section
section
variable {C:Cx} {A:Around} {f:Fc} {σ:aC}
theorem Rm.typeCall{n:Nat}(h:Rm A (n+1))(D:Addr)(vs:List Value):Rm (A.under (.builtin "type.__call__" ⟨.ref D::vs,[]⟩)) n:=by
 have u:(A.under<|.builtin "type.__call__" ⟨.ref D::vs,[]⟩).depth=A.depth+1:=rfl;have z:(A.under<|.builtin "type.__call__" ⟨.ref D::vs,[]⟩).units=A.units+1:=rfl;exact⟨h.hh,by refine(ys u)▸?_;have:=h.dep;exact bw [_,_,_] [] 0x210508704a00620480882520a00d881 ft this,by refine(ys z)▸?_;have:=h.un;exact bw [_,_,_] [] 0x841505087022801b102420a11022905006d881 ft this⟩
noncomputable def PV.Iq(p:Ky->Bool):PV->Bool
 | .d _=>true
 | .val _=>true
 | .at k=>p k
 | .tup l=>false
noncomputable def PO.Iq(p:Ky->Bool):PO->Bool
 | .Hh l=>l.all λx=>x.2.Iq p
 | .cellAt _ x=>x.Iq p
 | .inst _ fs=>fs.all λx=>x.2.Iq p
 |_=>true
theorem aW.narrow{p:Ky->Bool}(u:∀k q,p k=true->ρ k=some q->ρ' k=some q){v:Value}(r:aW P ρ F v x)(h:x.Iq p=true):aW P ρ' F v x:=by
 cases x with
 |d d=>exact .d r.inv
 |val v=>exact r.Ia<|.val _
 |«at»k=>exact r.IF λe=>.at (u _ _ h e)
 |tup l=>exact jn h
theorem jd.narrow{p:Ky->Bool}(z:∀k q,p k=true->ρ k=some q->ρ' k=some q)(x:jd P ρ F es fs)(h:fs.all (λx=>x.2.Iq p)=true):jd P ρ' F es fs:=by
 induction x with
 |nil=>exact .nil
 |cons r _ u=>rw[List.all_cons,Bool.and_eq_true] at h;exact .cons (r.narrow z h.1)<|u h.2
theorem gQ.narrow{p:Ky->Bool}(B:∀k q,p k=true->ρ k=some q->ρ' k=some q){u:List (Str×Value)}(x:gQ P ρ F u fs)(h:fs.all (λx=>x.2.Iq p)=true):gQ P ρ' F u fs:=by
 induction x with
 |nil=>exact .nil
 |cons r _ z=>rw[List.all_cons,Bool.and_eq_true] at h;exact .cons (r.narrow B h.1)<|z h.2
theorem c9.narrow:∀{C ρ ρ' F h q o p}(u:∀k q,p k=true->ρ k=some q->ρ' k=some q)(x:c9 C ρ F h q o)(hn:o.Iq p=true),c9 C ρ' F h q o:=by
 intro C ρ ρ' F h q o p u x hn;cases o with
 |cellAt c z=>exact⟨x.1,x.2.imp λU q=>q.imp λU q=>⟨q.1,q.2.1,q.2.2.narrow u hn⟩⟩
 |Hh l=>exact⟨x.1,x.2.imp λU q=>q.imp λU q=>⟨q.1,q.2.1,q.2.2.narrow u hn⟩⟩
 |inst K fs=>exact⟨x.1,x.2.imp λU q=>q.imp λU q=>⟨q.1,q.2.narrow u hn⟩⟩
 |_=>exact x
noncomputable def mi(ρ:Pl)(K:Ky):Pl:=λk=>if k=K then none else ρ k
theorem zE(h:∀i,ρ (.tm i)=none)(i:Nat):fm ρ (.sk j) p (.tm i)=none:=(if_neg nofun).trans<|h i
theorem xV{mem:aQ}(h:∀n,mem n=none->ρ (.sk n)=none)(n:Nat)(e:mem.set j o n=none):fm ρ (.sk j) p (.sk n)=none:=(if_neg λu=>(dn e).1<|Ky.sk.inj u).trans<|h n (dn e).2
theorem HR.Iw:∀{C:Cx}{ρ:Pl}{F:Fz}{h h':Heap}{mem:aQ}{j:Nat}{po:PO}{p:Addr×Addr}(H:HR C ρ F (aH mem) h)(z:ρ (.sk j)=none)(hk:∀b o,h.get? b=some o->h'.get? b=some o)(u:∀a,(a=p.1\/a=p.2)->h.get? a=none)(r:c9 C (fm ρ (.sk j) p) F h' p po),HR C (fm ρ (.sk j) p) F (aH (mem.set j po)) h'/\bx (λU=>False) ρ F (aH mem) h (fm ρ (.sk j) p) F (aH (mem.set j po)) h':=by
 intro C ρ F h h' mem j po p H z hk u r;have B:=l9 (p:=p) z;have A:=H.IA hk qv (if_pos rfl) (λk e=>if_neg e) B (λa I=>⟨λo=>(H.HJ o).elim λU g=>(nomatch (u a I).symm.trans g),λo q=>(nomatch (u a I).symm.trans (H.HC _ _ q))⟩) r;exact⟨A.1,B,λU U e=>e,λa o e U U=>hk _ _ e,λb e=>e.elim (λo=>(A.2 b o).elim (λe=>.inr<|.inr<|u b e) .inl) λe=>.inr<|.inl e⟩
noncomputable def uk(K:Frag)(D fI:Addr):Bool:=makesIn K D&&(findIn K (.ref D) "__init__"==some (some (.ref fI)))&&(typeIn K (.ref fI)==some (.type "function"))
theorem uB:∀{C:Cx}{A:Around}{D fI:Addr}{n j:Nat}{xs:List PV}{mem:aQ}{K:PV->aQ->Prop}{ρ:Pl}{F:Fz}{s:Shared}{vs:List Value}{R:Result->Shared->Prop}(G:Gd C)(hm:uk C.K D fI=true)(hj:mem j=none)(hF:Fn C n (.ref fI) (.at (.sk j)::xs) (mem.set j (.inst D [])) K)(hR:Rm A (n+1))(H:HR C ρ F (aH mem) s.heap)(htm:∀i,ρ (.tm i)=none)(hfS:∀n,mem n=none->ρ (.sk n)=none)(r:bQ C ρ F vs xs)(h:∀h' tk ρ' F' mem' p,HR C ρ' F' (aH mem') h'->(∀i,ρ' (.tm i)=none)->(∀n,mem' n=none->ρ' (.sk n)=none)->bx (λU=>False) ρ F (aH mem) s.heap ρ' F' (aH mem') h'->ρ' (.sk j)=some p->s.heap.get? p.1=none->s.heap.get? p.2=none->
   (∀pv,g4 mem' pv->K pv mem'->pv= .d .none/\R (.ok (.ret (.ref p.1))) (wh s h' tk))),codeAny (model C.prog C.w) A (.call (.ref D) ⟨vs,[]⟩) R s:=by
 exists ce λC=>cx λA=>aA λD=>aA λfI=>aA λn=>aA λj=>aA λxs=>aA λmem=>aA λK=>aA λρ=>aA λF=>eu λs=>aA λvs=>aA λR=>aO _;intros;have m:=AO hm;have X:C.K.In s.heap:=G.X.keeps H.Hv;have hk:∀b o,s.heap.get? b=some o->((s.heap.push emptyDict).push<|instObj D s.heap.objs.size).get? b=some o:=λb o e=>Heap.get?_push_of_some _<|Heap.get?_push_of_some _ e
 have g1:((s.heap.push emptyDict).push<|instObj D s.heap.objs.size).get? (s.heap.objs.size+1)=some (instObj D s.heap.objs.size):=by
  have:=Heap.get?_push_size (h:=s.heap.push emptyDict) (o:=instObj D s.heap.objs.size) rfl
  rwa [Heap.size_push] at this
 have g2:((s.heap.push emptyDict).push<|instObj D s.heap.objs.size).get? s.heap.objs.size=some emptyDict:=Heap.get?_push_of_some _<|Heap.get?_push_size _ rfl
 have n1:s.heap.get? (s.heap.objs.size+1)=none:=by
  cases e:s.heap.get? (s.heap.objs.size+1) with
  |none=>rfl
  |some o=>exact absurd (Heap.lt_size e)<|Nat.not_lt.mpr<|Nat.le_succ _
 have B:=H.Iw (h':=(s.heap.push emptyDict).push<|instObj D s.heap.objs.size) (j:=j) (po:=.inst D []) (p:=(s.heap.objs.size+1,s.heap.objs.size)) (hfS j hj) hk (λa e=>by rcases e with rfl|rfl;exact n1;exact aZ _)<|⟨g1,dk [] 0 g2 .nil⟩
 refine(ys<|show s=⟨s.heap,s.gens,s.drawn,s.toks,s.os⟩ from rfl)▸?_;refine make_core (makes_of X m.1) (looks_findIn X<|eq_of_beq m.2.1) (λself=>bind_fn X self<|eq_of_beq m.2.2) (.inl rfl) ?_;refine codeAny_mono (hF _ _ F {s with heap:=(s.heap.push emptyDict).push (instObj D s.heap.objs.size)} _ (hR.typeCall D vs) B.1 (zE htm) (xV hfS)
  (.cons (.at (k:=.sk j) (p:=(s.heap.objs.size+1,s.heap.objs.size)) (if_pos rfl))<|r.mono B.2.HD B.2.fz)) λres s' q=>iN.use q λv h' tk ρ' F' mem' pv H' t1 t2 st rv ok hK=>?_
 have st':bx (λU=>False) ρ F (aH mem) s.heap ρ' F' (aH mem') h':=B.2.trans st (λa ha o=>B.1.HT ha)<|λa ha=>ha.elim
 have L:=h h' tk ρ' F' mem' (s.heap.objs.size+1,s.heap.objs.size) H' t1 t2 st' (st.HD (.sk j) _<|if_pos rfl) n1 (aZ _) pv ok hK;exact⟨aW.H7 (X:=λv=>v=Value.none) (L.1▸rv) rfl,L.2⟩
theorem BG(G:Gd C){fI:Addr}(W:uk C.K D fI=true){n:Nat}{mem:aQ}{K:PV->aQ->Prop}(hj:mem j=none)
  (J:Fn C n (.ref fI) (.at (.sk j)::xs) (mem.set j (.inst D [])) (λr mem'=>r= .d .none/\mem' j≠none/\K (.at (.sk j)) mem')):Fn C (n+1) (.ref D) xs mem K:=λA ρ F s vs V H u z r=>
 uB G W hj J V H u z r λh' tk ρ' F' mem' p I t1 S N e _ _ pv ok B=>dK B λO U Z=>⟨O,.mk I t1 S N (.at (k:=.sk j) e) U Z⟩
theorem jd.toD{I:List (Str×PV)}(h:jd P ρ F es I):∀{fs:List (Str×DV)},I=(fs.map λp=>(p.1,PV.d p.2))->qG P F es fs:=by
 induction h with
 | nil=>intro fs e;cases fs with
  |nil=>exact .nil
  |cons p fs=>exact nc List.ctorIdx e rfl
 | cons r _ J=>intro fs e;cases fs with
  |nil=>exact nc List.ctorIdx e rfl
  | cons p fs=>
   have z:=(Prod.mk.inj (List.cons.inj e).1).1;have u:=(Prod.mk.inj (List.cons.inj e).1).2;have B:=(List.cons.inj e).2;clear e;subst z;subst u;clear a;subst B;exact .cons r.dv<|J rfl
theorem B3:∀{C:Cx}{D fI:Addr}{n j:Nat}{xs:List PV}{mem:aQ}{K:PV->aQ->Prop}{fs:List (Str×DV)}(G:Gd C)(hm:uk C.K D fI=true)(hj:mem j=none)(hn:∀n o,mem n=some (some o)->o.Iq (λk=>k != .sk j)=true)(hF:Fn C n (.ref fI) (.at (.sk j)::xs) (mem.set j (.inst D [])) (λr mem'=>r= .d .none/\mem'=mem.set j (.inst D (fs.map λp=>(p.1,PV.d p.2)))))(hK:K (.d (.inst D fs)) mem),Fn C (n+1) (.ref D) xs mem K:=by
 exists ce λC=>aA λD=>aA λfI=>aA λn=>aA λj=>aA λxs=>aA λmem=>aA λK=>aA λfs=>aO _;intro C D fI n j xs mem K fs G hm hj hn hF hK;exact λA ρ F s vs hR H aa J r=>
  uB G hm hj hF hR H aa J r λh' tk ρ' F' mem' p B t1 t2 I e ad ae pv ok q=>by
   revert hR H aa J r B t1 t2 I e ad ae ok q;revert A ρ F s vs h' tk ρ' F' mem' p pv;exists cx λA=>aA λρ=>aA λF=>eu λs=>aA λvs=>aA λh'=>aA λtk=>aA λρ'=>aA λF'=>aA λmem'=>aA λp=>oO λpv=>aO _;intro A ρ F s vs h' tk ρ' F' mem' p pv hR H aa J r B t1 t2 I e ad ae ok q;rw[q.2] at B t2 I;refine⟨q.1,?_⟩;generalize hO:PO.inst D (fs.map λp=>(p.1,PV.d p.2))=O at B t2 I;have gj:aH (mem.set j O) (.sk j)=some O:=congrArg Option.join aQ.Ib;refine(B.obj (.sk j) _ gj).elim λp' q=>?_;rw[<-hO] at q;have N:p'=p:=oi<|q.1.symm.trans e
   rw[N] at q;refine vX q.2.2 λes m q2=>?_;have gm:aH mem (.sk j)=none:=congrArg Option.join hj;have up:∀k o,aH mem k=some o->k≠ .sk j/\aH (mem.set j O) k=some o:=λk o e=>by
    have hk:k≠ .sk j:=λq=>by rw[q,gm] at e;exact bU e
    refine⟨hk,?_⟩;cases k with
    |tm i=>exact bU e
    |sk n=>exact(congrArg Option.join (if_neg λe=>hk (congrArg Ky.sk e):mem.set j O n=mem n)).trans e
   have un:∀k q,mi ρ' (.sk j) k=some q->ρ' k=some q:=λk q e=>by
    by_cases hk:k= .sk j
    ·cases(if_pos hk:mi ρ' (.sk j) k=none).symm.trans e
    ·exact(if_neg hk:mi ρ' (.sk j) k=ρ' k).symm.trans e
   have hr:∀k q,(k !=Ky.sk j)=true->ρ' k=some q->mi ρ' (.sk j) k=some q:=λk q hk e=>(if_neg<|bne_iff_ne.mp hk).trans e;have V:∀a o,(a,o)∈[(p.1,instObj D p.2),(p.2,dictOf es m)]->(a=p.1\/a=p.2)/\h'.get? a=some o:=λa o hm=>by
    rcases List.mem_cons.mp hm with w|w
    ·(have ab:=(Prod.mk.inj w).1;have W:=(Prod.mk.inj w).2;clear w;subst ab;clear hm;subst W);exact⟨.inl rfl,q.2.1⟩
    ·cases List.mem_singleton.mp w;exact⟨.inr rfl,q2.1⟩
   have Z:∀k q,ρ k=some q->(k != .sk j)=true:=λk q z=>bne_iff_ne.mpr λS=>by rw[S,J j hj] at z;exact bU z
   refine .mk (ρ':=mi ρ'<|.sk j) (F':=b9 F' [(p.1,instObj D p.2),(p.2,dictOf es m)]) (mem':=mem) (pv:=.d<|.inst D fs) ⟨λb o e=>.inl<|B.base b o e,λa o z=>z.elim (B.HC a o) λz=>(V a o z).2,λk o z=>?_,λk o q a z S e2 o' N=>?_,λk k' o1 o2 q q' a z S e2 N e4 e5=>B.inj k k' o1 o2 q q' a (up k o1 z).2 (up k' o2 S).2 (un k q e2) (un k' q' N) e4 e5⟩
    (λi=>(if_neg nofun).trans<|t1 i) (λi hi=>?_) ⟨λk q z=>hr k q (Z k q z)<|I.HD k q z,λa o e=>.inl<|I.fz a o e,I.keep,λa e=>?_⟩ (.d<|.inst (.inr<|.head _) (.inr<|.tail _<|.head _)<|(jd.toD q2.2 rfl).mono b9.old) trivial hK
   ·have u:=up k o z;refine(B.obj k o u.2).imp λq s=>⟨hr k q (bne_iff_ne.mpr u.1) s.1,(s.2.narrow hr (?_:o.Iq (λk=>k != .sk j)=true)).mono (λU U e=>e) b9.old λU U U e=>e⟩
    cases k with
    |tm i=>exact bU z
    | sk n=>
     refine hn n o ?_;have z:(mem n).join=some o:=z;cases e4:mem n with
     |none=>rw[e4] at z;exact bU z
     |some y=>rw[e4] at z;exact congrArg some z
   ·have u:=up k o z;rcases N with N|N
    ·exact B.sep k o q a u.2 (un k q S) e2 o' N
    ·exact u.1<|B.inj k (.sk j) o _ q p a u.2 gj (un k q S) e e2 (V a o' N).1
   ·by_cases q:i=j
    ·exact if_pos<|congrArg Ky.sk q
    ·exact(if_neg λe=>q<|Ky.sk.inj e).trans<|t2 i<|(if_neg q).trans hi
   ·rcases e with⟨k,o,q,z,S,e2⟩|⟨o,z|z⟩
    ·exact I.fresh a<|.inl<|bH k o q ((up k o z).2) (un k q S) e2
    ·exact I.fresh a<|.inr ⟨o,z⟩
    ·exact .inr (.inr (by rcases(V a o z).1 with rfl|rfl<;>assumption))
end
end
section
section
variable {C:Cx} {A:Around} {f:Fc} {σ:aC}
theorem El(G:Gd C){attr:Str}{Q:aC->Prop}(hg:σ.get k=some (.inst D fs))(hz:fs.length<=500)(hok:eY C.K D attr=true)(q:Q (σ.put k (.inst D (ku attr x fs)))){o v:Value}
  (a1:At C f ρ F σ s.heap) (ry:aW C ρ F o (.at k)) (r:aW C ρ F v x):fw C A f (setAttr o attr v) ρ F σ s (λU U U σ'=>Q σ'):=by
 refine a1.Ig (X:=λo=>fw C A f (setAttr o attr v) ρ F σ s _) hg ry λp es n e g1 g2 rr=>?_;have o:=qI hok;refine set_plain (G.at a1) (od:=some<|dictOf es n) ⟨g1,rfl,rfl,g2⟩ (eq_of_beq o.1)<|nQ (s:={s with toks:=s.toks+1}) (G.at a1) g1 g2 o.2.1 (eq_of_beq o.2.2.1) o.2.2.2 (rr.isSome _) ?_ λh' d' sb=>?_
 ·exact Nat.le_trans (Nat.le_of_eq (rr.put (name:=attr) r).length) (Nat.le_trans (kF fs)<|Nat.le_trans (Nat.succ_le_succ hz)<|by decide)
 ·exact aS.upd (o':=.inst D<|ku attr x fs) a1 hg e (.inr rfl) (λb ob hb eb=>sb.extBut b ob hb eb) (⟨sb.extBut _ _ (λq=>by rw[q] at g1;cases g1.symm.trans g2) g1,dk _ _ d'<|rr.put r⟩) q
theorem qc:∀{C A f σ o I B J pos op Q}(G:Gd C)(h:Ev C A f o σ λy σ1=>∃k D fs N,y= .at k/\σ1.get k=some (.inst D fs)/\fs.lookup B=some (.d N)/\fO C.K D B=true/\
   Ev C A f I σ1 λz σ2=>cO C A f (inplaceOp op) (.d N) z σ2 λu W=>∃O,W.get k=some (.inst D O)/\O.length<=500/\eY C.K D B=true/\Q .next (W.put k (.inst D (ku B u O)))),Ex C A f (.AugAssign (.Attribute o B J) op I pos) σ Q:=by
 exists ce λC=>cx λA=>dO λf=>dR λσ=>aA λo=>aA λI=>aA λB=>aA λJ=>aA λpos=>aA λop=>aA λQ=>aO _;intros;exact λρ F s a=>by
  refine wpAny_AugAssign_AttributeAny<|(h ρ F s a).go λv1 h1 ae al F1 σ1 y a1 ad ry q=>ex4 q λk D fs N q=>?_
  rw[q.1] at ry;refine(ud G q.2.1 q.2.2.1 q.2.2.2.1 rfl (ex:=true) (Q:=λy' σ'=>y'= .d N/\σ'=σ1) ⟨rfl,rfl⟩ al F1 (wh s h1 ae) v1 a1 ry).go λw h2 af ρ2 F2 σ2 y' a2 S aa e=>?_;rw[e.1] at aa;rw[e.2] at a2 S;exact(q.2.2.2.2 ρ2 F2 (wh s h2 af) a2).go λv3 h3 ap am F3 W z a3 V rz ak=>(ak am F3 (wh s h3 ap) w v3 a3 (aa.step V) rz).go λv4 h4 an aq F4 ar u a4 ab ru Z=>Z.elim λO Z=>(El G Z.1 Z.2.1 Z.2.2.1 (Q:=λσ'=>Q .next σ') Z.2.2.2 (s:=(wh s h4 an)) a4 (((ry.step S).step V).step ab) ru).use λU h5 ag aj F5 ah a5 ai ao=>bS h5 ag aj F5 ah rfl a5 ((((ad.then a1 S).then a2 V).then a3 ab).then a4 ai)<|aD .next trivial ao
theorem B0{j:Int}(h:Q (.d (.int (i+j))) σ):cO C A f (inplaceOp .Add) (.d (.int i)) (.d (.int j)) σ Q:=fL h λa b k=>PySem.P.iadd_int<|k _ _ λU=>.int _ _
theorem BL{j:Int}(h:Q (.d (.int (i-j))) σ):cO C A f (inplaceOp .Sub) (.d (.int i)) (.d (.int j)) σ Q:=fL h λa b k=>PySem.P.isub_int<|k _ _ λU=>.int _ _
theorem aK:aU []:=λi o h=>by simp at h
theorem fZ{o:Option PO}{r:List (Option PO)}(u:∀x,o=some x->x.HM=true)(h:aU r):aU (o::r):=λi x e=>by
 cases i with
 | zero=>
  have z:o=some x:=by simpa using e
  exact u x z
 |succ i=>exact h i x (by simpa using e)
theorem Bb(G:Gd C){x:Str}{pos:Pos}(u:f.env.kindOf x=some .globalImplicit)(e:nsIn C.K mainGlobals x=some (some (.ref a)))(z:(x==("__debug__":Str))=false)(q:Q (.val (.ref a)) σ):Ev C A f (.Name x pos) σ Q:=
 lC G e u (λU U U=>.val _) z q
theorem Ci{pos:Pos}(h:((backTo pos (starEach args f.env)).any (·.1)||([]:List (Option Str×Sem Value)).any (·.1.isNone))=false):eS f pos args:=h
theorem Ec:c8 f []:=Or.inl rfl
theorem pd{r:List Expr}(h:starEach (e::r) f.env=(false,eval e f.env)::starEach r f.env):c8 f (e::r):=Or.inr<|dk e r rfl h
theorem xM(G:Gd C){x:Str}{z pos:Pos}(u:f.env.kindOf x=some .globalImplicit)(e:nsIn C.K mainGlobals x=some (some (.ref a)))(I:(x==("__debug__":Str))=false)
  (hk:di C.K (.ref a)=true) (B:c8 f args) (hn:eS f pos args) (h:jo C A f pos args σ λxs σ2=>Cl C A f (.ref a) xs σ2 Q):Ev C A f (.Call (.Name x z) args [] pos) σ Q:=
 uC G (Bb G u e I ⟨rfl,h⟩) hk B hn
theorem r5(G:Gd C){x:Str}{I pos:Pos}{v:Value}(e:nsIn C.K mainGlobals x=some none)(N:bootBuiltins x=some v)(u:x≠"__name__")(z:f.env.kindOf x=some .globalImplicit)(J:(x==("__debug__":Str))=false)
  (hk:di C.K v=true) (B:c8 f args) (hn:eS f pos args) (h:jo C A f pos args σ λxs σ2=>Cl C A f v xs σ2 Q):Ev C A f (.Call (.Name x I) args [] pos) σ Q:=
 uC G (CA G e N u z J ⟨rfl,h⟩) hk B hn
theorem zM{k:Int}(z:x.items=some xs)(B:t5 xs k=some y)(u: -(2^63)<=k/\k<2^63)(q:Q y σ):pW C A f x (.d (.int k)) σ Q:=AI z B u.1 u.2 q
noncomputable def de(l:List (Int×Int)):List DV:=l.map λq=>.tup [.int q.1,.int q.2]
theorem iX(l:List (Int×Int)):(de l).length=l.length:=List.length_map ..
theorem rM{u:Type}{x:u}{l:List u}:t5 (x::l) 0=some x:=by
 unfold t5 seqIndex?;simp
theorem oK{k n:Nat}(h:k<n):seqIndex? (k:Int) n=some k:=by
 unfold seqIndex?;have z:¬(k:Int)<0:=by exact jO [_] [] 4209793 ft
 have B:(0:Int)<=k:=by exact jO [_] [] 7344513 ft
 have u:(k:Int)<(n:Int):=by exact bw [_,_] [] 4503876801673729 ft h
 simp[z,u]
theorem nb{n:Nat}(h:0<n):seqIndex? (-1) n=some (n-1):=by
 unfold seqIndex?;have z:(0:Int)<=-1+(n:Int):=by exact bw [_] [] 0x42040782b301181 ft h
 have B:(-1:Int)+(n:Int)<(n:Int):=by exact jO [_] [] 963080722945 ft
 have u:(-1+(n:Int)).toNat=n-1:=by lia
 simp[z,B,u]
theorem lI{u:Type}{l:List u}{k:Nat}{x:u}(h:l[k]? =some x):t5 l (k:Int)=some x:=by
 have hk:k<l.length:=(List.getElem?_eq_some_iff.mp h).1;unfold t5;refine(ys<|oK hk)▸?_;exact h
theorem jC{u:Type}{l:List u}{x:u}(h:l.getLast? =some x):t5 l (-1)=some x:=by
 cases l with
 |nil=>exact bU h
 | cons y l=>
  unfold t5;rw[nb (by simp)];rw[List.getLast?_eq_getElem?] at h;exact h
theorem fg{k:Int}{y:DV}(z:t5 l k=some y)(u: -(2^63)<=k/\k<2^63)(q:Q (.d y) σ):pW C A f (.d (.seq l)) (.d (.int k)) σ Q:=AF z u.1 u.2 q
noncomputable def G6(C:Cx)(A:Around)(f:Fc):List Expr->List PV->aC->(aC->Prop)->Prop
 |t::ts,x::xs,σ,Q=>As C A f (λv=>assign t f.env v) x σ λσ1=>G6 C A f ts xs σ1 Q
 |[],[],σ,Q=>Q σ
 |_,_,_,_=>False
theorem Bh:∀{u xs σ Q},G6 C A f u xs σ Q->(∀σ,Q σ->True)->AsL C A f (u.map λt=>assign t f.env) xs σ Q
 := λ{u}=>by
  induction u with
  | nil=>
    intro xs σ Q h U;cases xs with
    |nil=>exact h
    |cons x xs=>exact h.elim
  | cons t u z=>
    intro xs σ Q h U;cases xs with
    |nil=>exact h.elim
    |cons x xs=>exact λρ F s v a r=>(h ρ F s v a r).mono λU U U U q=>z q λU U=>trivial
theorem AQ{k:Nat}{pos:Pos}{Q:aC->Prop}(N:A.handled=none)(I:x.items=some xs)(z:assignEach elts f.env=elts.map λt=>(false,assign t f.env))(J:elts.length=xs.length)(h:G6 C A f elts xs σ Q):
  As C A f (λv=>assign (.Tuple elts k pos) f.env v) x σ Q:=by
 refine EX N I (by rw[z,List.length_map];exact J) ?_ ?_
 ·rw[z,List.findIdx?_eq_none_iff];intro y B;refine aG (List.mem_map.mp B) λt U u=>?_;clear B;subst u;rfl
 ·refine(ys z)▸(ys List.map_map)▸?_;exact Bh h λU U=>trivial
end
end
section
section
variable {C:Cx} {A:Around} {f:Fc} {σ:aC}
theorem sQ:typeOf (.builtin "list.append")=pure (.type "method_descriptor"):=by kernel_rfl
theorem tN:typeOf (.builtin "list.extend")=pure (.type "method_descriptor"):=by kernel_rfl
theorem BT:typeOf (.builtin "dict.pop")=pure (.type "method_descriptor"):=by kernel_rfl
theorem so{K:Ky}(O:σ.get K=some (.Ha l))(ρ:Pl)(F:Fz)(s:Shared)(v:Value)(a:At C f ρ F σ s.heap)(r:aW C ρ F v (.at K)):s.TypeIs v "list"/\∀b,v= .ref b->∃N:Obj,s.heap.get? b=some N/\N.dict=none:=by
 refine aG r.place λp e I=>?_;clear r;subst I;refine aL (a.list O e) λU J=>bM J λo vs g z U=>aP z λn B=>?_;try clear z;subst B;exact⟨(aD _ g rfl),λb q=>by(have u:=PySem.Value.ref.inj q;clear q;subst u);exact aD _ g rfl⟩
noncomputable def tY{α:Type}(inv:aC->Prop)(St:List α->aC->Prop)(l:List α)(Q:Fl->aC->Prop):Fl->aC->Prop:=λfl σ2=>match fl with
 | .next=>inv σ2/\St l σ2
 | .cont=>inv σ2/\St l σ2
 | .brk=>Q .next σ2
 | .ret v=>Q (.ret v) σ2
theorem rm{I:Type}(g:I->PV){inv:aC->Prop}(St:List I->aC->Prop){Q:Fl->aC->Prop}(B:∀σ,St [] σ->Q .next σ)
    (u:∀x l σ,St (x::l) σ->As C A f (λv=>assign target f.env v) (g x) σ λσ1=>fA C A f body σ1 (tY inv St l Q)):∀(l:List I)(σ:aC),St l σ->kC C A f target body inv (l.map g) σ Q
 :=λl=>by
  induction l with
  |nil=>exact B
  |cons x l N=>exact λσ h ρ F s v a r=>(u x l σ h ρ F s v a r).mono λU U U σ1 q ρ F s a=>(q ρ F s a).mono λU U U U J=>aG J λy O z=>aD y O (by
      cases y with
      |next=>exact⟨z.1,N _ z.2⟩
      |cont=>exact⟨z.1,N _ z.2⟩
      |brk=>exact z
      |ret v=>exact z)
theorem sO{B:Type}(g:B->DV)(St:List B->aC->Prop){pos:Pos}{Q:Fl->aC->Prop}(J:A.handled=none)(l:List B)(h:Ev C A f iter σ λx σ1=>x= .d (.seq (l.map g))/\St l σ1)(z:∀σ,St [] σ->Q .next σ)
  (u:∀x l σ,St (x::l) σ->As C A f (λv=>assign target f.env v) (.d (g x)) σ λσ1=>fA C A f body σ1 (tY (λU=>True) St l Q))
  (I:∀x,foldedSetIterable iter f.env x=pure x):Ex C A f (.For target iter body [] pos) σ Q:=by
 refine s3 (h.mono λx σ1 q=>?_) I;obtain⟨rfl,q⟩:=q;refine bE _ _ (lB J) trivial ?_;have:=rm (C:=C) (A:=A) (f:=f) (λx=>PV.d<|g x) (inv:=λU=>True) St z u l σ1 q
 rwa [List.map_map]
noncomputable def m4(m:Nat)(caps:List (Option PV))(G8:List (Option PO))(mem:aQ)(acc:List DV)(σ':aC):Prop:=∃u t,u.length=m/\aU t/\σ'=⟨u++caps,G8++some (.Ha acc)::t,mem⟩
noncomputable def rT(C:Cx)(A:Around)(cf:Fc)(target:Expr)(ifs:List Expr)(elt:Expr)(m:Nat)(caps:List (Option PV))(G8:List (Option PO))(mem:aQ)(x:DV)(ok:Bool)(y:DV):Prop:=
 ∀ u acc t,u.length=m->aU t->As C A cf (λv=>assign target cf.env v) (.d x) ⟨u++caps,G8++some (.Ha acc)::t,mem⟩ λσ2=>zU C A cf ifs σ2 λb σ3=>b=ok/\
  if ok=true then Ev C A cf elt σ3 λz σ4=>z= .d y/\m4 m caps G8 mem acc σ4 else m4 m caps G8 mem acc σ3
theorem zU.mono{K K':Bool->aC->Prop}(h:zU C A f ifs σ K)(k:∀b σ,K b σ->K' b σ):zU C A f ifs σ K':=by
 match ifs,h with
 |[],h=>exact k _ _ h
 |[c],h=>exact λρ F s a=>(h ρ F s a).mono λU U U U q=>k _ _ q
theorem yn:∀{f o name z pos u}(J:attributeBase o name f.env (eval o f.env)=eval o f.env)(N:methodCallForm (u.length+([]:List Keyword).length) (backTo pos (starEach u f.env)) []=true)(I:(z.endLine==pos.line)=true),jq f o name z pos u (do return(<-importBound o f.env).getD true):=by
 exists dO λf=>aA λo=>aA λname=>aA λz=>aA λpos=>aA λu=>aO _;intros;unfold jq;rw[arm_eval_Call,J];unfold methodCall calleeOf methodCallPos;have e:backToKw pos (keywordEach ([]:List Keyword) f.env)=[]:=rfl;refine(ys e)▸?_;have B:methodCallForm (u.length+0) (backTo pos<|starEach u f.env) []=true:=N;simp only[List.length_nil,B,I,Bool.not_true,Bool.false_or,if_true];rfl
theorem yx{u:Expr}{z:Str}{pos:Pos}(B:attributeBase u z f.env (eval u f.env)=eval u f.env)(h:Ev C A f u σ λx σ1=>uX C A f (λv=>getAttr v z true) x σ1 Q):Ev C A f (.Attribute u z pos) σ Q:=
 Ay h (by rw[arm_eval_Attribute,B])
theorem nX{z:List Stmt}{Q:Fl->aC->Prop}(j:Nat)(d:DV)(ls':List (Option PV))(B:σ.get (.tm j)=some po)(I:po.dv=some d)(u:kI j d σ.ls=ls')(h:fA C A f z ⟨ls',σ.G8.set j none,σ.mem⟩ Q):fA C A f z σ Q:=BN j B I<|u▸h
noncomputable def ET(C:Cx)(f:Fc):List Str->List PV->aC->(aC->Prop)->Prop
 |n::ns,x::xs,σ,Q=>∃i,f.ns[i]? =some n/\hJ f n/\ET C f ns xs (σ.H0 i x) Q
 |[],[],σ,Q=>Q σ
 |_,_,_,_=>False
theorem BV{Q:aC->Prop}:∀(ns:List Str){xs:List PV}{vs:List Value}{σ:aC}{ρ:Pl}{F:Fz}{s:Shared},ET C f ns xs σ Q->At C f ρ F σ s.heap->bQ C ρ F vs xs->
  fw C A f (assignInOrder (ns.map λn=>bindName f.env n) vs) ρ F σ s (λU U U σ'=>Q σ'):=
 λns=>by
 induction ns with
 | nil=>
  intro xs vs σ ρ F s h a z;cases xs with
  |nil=>exact z.HV<|wpAny_pure<|aS.same (tk:=s.toks) a h
  |cons x xs=>exact h.elim
 | cons n ns J=>
  intro xs vs σ ρ F s h a z;cases xs with
  |nil=>exact h.elim
  | cons x xs=>
   refine z.HE λ{v vs} r rs=>cj h λi I S W=>?_;show wpAny _ _ (do holding vs (bindName f.env n v);assignInOrder (ns.map λn=>bindName f.env n) vs) _ _ _;refine wpAny_bind<|wpAny_holding<|bindName_<|(ja (Q:=λσ'=>ET C f ns xs σ' Q) I S a r W).use λU I V O Z σ1 B u N=>?_
   exact(J N B<|rs.step u).cont u B
theorem bQ.rev:∀{xs vs},bQ P ρ F vs xs->bQ P ρ F vs.reverse xs.reverse:=λ{xs}=>by
 induction xs with
 |nil=>exact λh=>h.HV .nil
 |cons x xs u=>exact λh=>h.HE λr rs=>by rw[List.reverse_cons,List.reverse_cons];exact bQ.append (.cons r .nil)<|u rs
theorem wj:∀{C A f σ B k I pos z u Q}(hh:A.handled=none)(hs:swapsWithSole [.Tuple B k I] z pos.line f.env=pure false)(hw:swappedStores [.Tuple B k I] z f.env=pure (some u))(h:Ev C A f z σ λx σ1=>∃xs,x.items=some xs/\xs.length=u.length/\ET C f u.reverse xs.reverse σ1 λσ2=>Q .next σ2),Ex C A f (.Assign [.Tuple B k I] z pos) σ Q:=by
 exists ce λC=>cx λA=>dO λf=>dR λσ=>aA λB=>aA λk=>aA λI=>aA λpos=>aA λz=>aA λu=>aA λQ=>aO _;intros;exact λρ F s a=>by
  refine Assign_Tuple_swapped ((h ρ F s a).use λv h1 V aa F1 σ1 N O J=>aG J λx rx W=>cj W λxs hx hl hq=>?_) hs hw;refine ca (rx.items hx) λt vs n Z hF rs=>?_;clear J rx;subst Z;have ht:IsTup h1 t vs.toArray:=bD _ (N.H.HC _ _ hF) rfl ⟨n,rfl⟩;have hn:u.length=vs.toArray.size:=by rw[<-hl,List.size_toArray,rs.length]
  rw[hn];refine unpackItems_tuple hh ht λh' he=>?_;have hk:∀b o,h1.get? b=some o->h'.get? b=some o:=λb o e=>he b o (Nat.ne_of_lt<|Heap.lt_size e) e;refine((BV (A:=A) (s:=(wh s h' V)) u.reverse hq (N.grow hk)<|show bQ C aa F1 vs.toArray.toList.reverse xs.reverse from rs.rev).use λU h3 ae ab F3 af a3 ad S=>?_);exact bS h3 ae ab F3 af rfl a3 ((O.then N<|.grow hk).then (N.grow hk) ad)<|aD .next trivial S
theorem xT{n:Str}{Q:aC->Prop}(i:Nat)(z:f.ns[i]? =some n)(B:hJ f n)(u:ET C f ns xs (σ.H0 i x) Q):ET C f (n::ns) (x::xs) σ Q:=bD i z B u
theorem fB:eM σ (.d (.seq l)) l:=.inl rfl
theorem gU{K:Ky}(h:σ.get K=some (.Ha l)):eM σ (.at K) l:=.inr<|aD K rfl h
theorem jp{u:Type}{x y:u}{l:List u}:t5 (x::y::l) 1=some y:=lI (k:=1) rfl
theorem Am(B:A.handled=none)(u:List Bool)(z:l=u.map .bool)(q:Q (.d (.bool (u.any id))) σ):Cl C A f (.builtin "any") [.d (.seq l)] σ Q:=by subst z;exact DF B q
theorem vd(z:A.handled=none)(ns:List Int)(u:l=ns.map .int)(q:Q (.d (.int ns.sum)) σ):Cl C A f (.builtin "sum") [.d (.seq l)] σ Q:=by subst u;exact DJ z q
theorem iY(ns ns':List Int)(u:l=ns.map .int)(I:ns.length<64)(z:ns'.Perm ns)(B:ns'.Pairwise (· <= ·))(q:Q (.d (.seq (ns'.map .int))) σ):Cl C A f (.builtin "sorted") [.d (.seq l)] σ Q:=by subst u;exact wY I z B q
end
end
section
set_option genInjectivity false
theorem zc{f:Fc}{n:Nat}{z:Value}{K:PV->(Nat->Option (Option PO))->Prop}(I:Fn C n z xs σ.mem K)(J:Rm A m)(u:n<=m)(B:xs.all PV.HM=true)(O:aN σ.mem)(N:aU σ.G8)
  (k:∀pv mem',K pv mem'->Q pv ⟨σ.ls,σ.G8,mem'⟩):Cl C A f z xs σ Q:=Cs (J.le u) I B O N k
theorem jE{f:Fc}{m:List DV}{n:Nat}(u:eM σ x l)(z:eM σ y m)(I:A.units+(n+1)<cLine)(q:Q (.d (.bool (!ez l m))) σ)(B:l.length=m.length->HU n l m=true):cO C A f (compareOp .NotEq) x y σ Q:=Ek u z B I q
theorem jD{n:Nat}:HU n l []=true:=by cases l<;>rfl
theorem lJ:ez l []=l.isEmpty:=by cases l<;>rfl
inductive aM where
 |Hp (off:Int) (b:Array UInt8)
 |stream (k:Int)
 |Hw
 |Hs
 |Hl (k:Int)
 |Ho
noncomputable def b8:aM->DV
 | .Hp off b=>.tup [.str "crypto",.int off,.bytes b]
 | .stream k=>.tup [.str "stream",.int 4,.int (8*k),.bytes #[97,98],.bool false]
 | .Hw=>.tup [.str "ping"]
 | .Hs=>.tup [.str "handshake_done"]
 | .Hl k=>.tup [.str "retire_connection_id",.int k]
 | .Ho=>.tup [.str "max_data",.int 9]
theorem jS{t:List (Option PO)}(h:aU t):aU (some (.Ha l)::t):=fZ (λx e=>by(have u:=oi e;clear e;subst u);rfl) h
section
theorem aF{m:aQ}(h:aN m)(z:o.HM=true):aN (m.set j o):=λn x e=>by
 unfold aQ.set at e
 split at e
 ·(have u:=oi<|oi e;clear e;subst u);exact z
 ·exact h n x e
end
theorem fK{m:aQ}{o':PO}:(m.set j o).set j o'=m.set j o':=by
 funext k;unfold aQ.set;split<;>rfl
noncomputable def tX(n t z:Int)(l:List aM):List (Str×DV):=[("number",.int n),("time",.int t),("size",.int z),("frames",.seq (l.map b8)),("is_eliciting",.bool (!l.isEmpty)),("in_flight",.bool (!l.isEmpty))]
theorem gg{u:Type}(l:List u):(l.filter λU=>true)=l:=List.filter_eq_self.mpr λU U=>rfl
structure SpS where
 Hd:List (Int×List aM)
 HK:Int
 largest:Option Int
 G9:List (Int×Int)
 Ix:DV
 Ii:Option Int
structure jV where
 data:Array UInt8
 HG:List (Int×Int)
 G9:List (Int×Int)
structure vE where
 He:Int
 least:Int
 s8:Int
 v4:Int
 first:Option Int
structure pw where
 H4:Int
 thr:Option Int
 ID:Option Int
 Ht:Int
 IT:Int
structure WldS where
 next:Int
 largest:Option Int
 He:Int
 later:Option Int
structure Gh where
 c:Addr
 Hm:DV
 Hn:DV
 over:DV
 Jd:DV
 exp:DV
 Je:DV
 fr1:Option (Addr×(Str->Option Value)):=none
 fr2:Option (Addr×(Str->Option Value)):=none
structure St where
 lam:Gh
 sp:SpS
 Hk:jV
 HI:vE
 HB:pw
 log:List (Bool×aM)
 Hq:List aM
 probe:Int
 Hc:List Int
 Hg:Int
 hw:Bool
 Hf:List (Int×List aM)
 w:WldS
 Hr:List (Bool×aM)
 Hi:List aM
 Hm:List Int
 Hn:List Int
 ps:Array Value
noncomputable def b_T:Bt:=⟨St,⟨⟨default,.none,.none,.none,.none,.none,.none,none,none⟩,⟨[],0,none,[],.none,none⟩,⟨#[],[],[]⟩,⟨0,0,0,0,none⟩,⟨0,none,none,0,0⟩,[],[],0,[],0,true,[],⟨0,none,0,none⟩,[],[],[],[],#[]⟩⟩
noncomputable def em:((St)->gK)->gK:=i7 b_T
noncomputable def b_fr:Bt:=⟨aM,.Hw⟩
noncomputable def jY:((aM)->gK)->gK:=i7 b_fr
noncomputable def jT:Option Int->DV
 |none=>.none
 |some i=>.int i
noncomputable def gO(name:Str)(sk:Nat)(s:SpS):List (Str×PV):=[("name",.d (.str name)),("next_number",.d (.int s.HK)),("sent",.at (.sk sk)),("largest_acked",.d (jT s.largest)),("acked",.d (.seq (de s.G9))),("last_eliciting_time",.d s.Ix),("loss_time",.d (jT s.Ii)),("received",.d (.seq [])),
 ("largest_seen",.d .none),("largest_time",.d .none),("first_unacked",.d .none),("unacked",.d (.int 0)),("wants_now",.d (.bool false)),("has_new",.d (.bool false)),("ecn",.d (.seq [.int 0,.int 0,.int 0])),("is_gone",.d (.bool false))]
noncomputable def gF:SpS:=⟨[],0,none,[],.none,none⟩
noncomputable def CT(r:vE):List (Str×PV):=[("latest",.d (.int r.He)),("least",.d (.int r.least)),("smoothed8",.d (.int r.s8)),("variance4",.d (.int r.v4)),("first_at",.d (jT r.first))]
noncomputable def zu(c:jV):List (Str×PV):=[("data",.d (.bytes c.data)),("due",.d (.seq (de c.HG))),("acked",.d (.seq (de c.G9)))]
noncomputable def Ez(r:pw):List (Str×PV):=[("datagram",.d (.int 1200)),("window",.d (.int r.H4)),("threshold",.d (jT r.thr)),("recovery_at",.d (jT r.ID)),("in_flight",.d (.int r.Ht)),("credit",.d (.int r.IT))]
noncomputable def mO(q:Int×List aM):DV:=.inst 474 (tX q.1 q.1 (100+q.1) q.2)
noncomputable def cV(l:List (Int×List aM)):List (Int×DV):=l.map λq=>(q.1,mO q)
noncomputable def dh(l:List (Int×List aM)):List (Int×DV):=l.map λq=>(q.1,.seq (q.2.map b8))
noncomputable def gL(q:Bool×aM):DV:=.tup [.str (if q.1=true then "came" else "lost"),b8 q.2]
noncomputable def Gr(S:St):List (Str×PV):=gO "state" 23 gF++([("spaces",.at (.sk 8)),("crypto_out",.at (.sk 9)),("rtt",.at (.sk 6)),("control",.at (.sk 7)),("config",.at (.sk 13)),("streams",.at (.sk 1)),("shake",.at (.sk 2)),("local",.at (.sk 3)),("owed",.at (.sk 12)),("probe_count",.d (.int S.probe)),
 ("is_client",.d S.lam.Jd),("peer_exponent",.d S.lam.exp),("most_delay",.d S.lam.Je)]:List (Str×PV))
noncomputable def frO(z:Option (Addr×(Str->Option Value))):Option PO:=z.map λx=>.IM x.1 x.2
noncomputable def Ej(S:St):List (Option PO):=[
 some (.inst 605 (Gr S)),
 some (.inst 605 (gO "streams" 24 gF++([("on_acked",.d S.lam.Hm),("on_lost",.d S.lam.Hn),("close_over",.d S.lam.over)]:List (Str×PV)))),
 some (.inst 605 (gO "shake" 25 gF++([("is_confirmed",.d (.bool false))]:List (Str×PV)))),
 some (.inst 605 (gO "local" 26 gF++([("next_sequence",.d (.int 0)),("issued",.at (.sk 14))]:List (Str×PV)))),
 some (.inst 605 (gO "application" 10 S.sp)),
 some (.inst 323 (zu S.Hk)),
 some (.inst 93 (CT S.HI)),
 some (.inst 428 (Ez S.HB)),
 some (.Hh [("application",.at (.sk 4))]),
 some (.Hh [("application",.at (.sk 5))]),
 some (.G7 (cV S.sp.Hd)),
 some (.Ha (S.log.map gL)),
 some (.Ha (S.Hq.map b8)),
 some (.Hh [("datagram",.d (.int 1200))]),
 some (.G7 []),
 if S.hw=true then some (.Hh [("out",.at (.sk 16)),("next",.d (.int S.w.next)),("largest",.d (jT S.w.largest)),("log",.at (.sk 17)),("owed",.at (.sk 18)),("octets",.at (.sk 19)),("latest",.d (.int S.w.He)),("later",.d (jT S.w.later))]) else none,
 if S.hw=true then some (.G7 (dh S.Hf)) else none,
 if S.hw=true then some (.Ha (S.Hr.map gL)) else none,
 if S.hw=true then some (.Ha (S.Hi.map b8)) else none,
 if S.hw=true then some (.Hh [("came",.d (.seq (S.Hm.map .int))),("lost",.d (.seq (S.Hn.map .int)))]) else none,
 some (.HA [.seq (S.Hc.map .int),.int S.Hg]),
 some (.cellAt S.lam.c (.at (.sk 11))),
 some (.Hb 625 (tabObj S.ps)),
 some (.G7 []),some (.G7 []),some (.G7 []),some (.G7 []),
 frO S.lam.fr1,frO S.lam.fr2]
noncomputable def eG(l:List (Option PO)):aQ:=λn=>match l[n]? with|some (some o)=>some (some o)|_=>none
noncomputable def aJ(S:St):aQ:=eG (Ej S)
theorem yr{l:List (Option PO)}(h:j<l.length):(eG l).set j o=eG (l.set j (some o)):=by
 funext n;unfold aQ.set eG
 by_cases e:n=j
 ·subst e;exact(ys<|if_pos rfl)▸(ys<|List.getElem?_set_self h)▸rfl
 ·exact(ys<|if_neg e)▸(ys<|List.getElem?_set_ne<|λq=>e q.symm)▸rfl
theorem zs(S:St):(Ej S).length=29:=rfl
set_option tactic.hygienic true in
theorem nU{l:List (Option PO)}(h:∀o,some o∈l->o.HM=true):aN (eG l):=λn o e=>by
 unfold eG at e
 split at e
 ·rename_i o' q;(have u:=oi<|oi e;clear e;subst u);exact h _<|List.mem_of_getElem? q
 ·exact bU e
set_option tactic.hygienic true in
theorem yE{l:List (Option PO)}{p:Ky->Bool}(h:∀o,some o∈l->o.Iq p=true):∀n o,eG l n=some (some o)->o.Iq p=true:=λn o e=>by
 unfold eG at e
 split at e
 ·rename_i o' q;(have u:=oi<|oi e;clear e;subst u);exact h _<|List.mem_of_getElem? q
 ·exact bU e
noncomputable def wI(P:PO->Prop):List (Option PO)->Prop
 |[]=>True
 |x::r=>(∀o,x=some o->P o)/\wI P r
theorem wI.mem{P:PO->Prop}{l:List (Option PO)}(h:wI P l)(o:PO)(u:some o∈l):P o:=by
 induction l with
 |nil=>exact absurd u List.not_mem_nil
 | cons x r B=>
  have z:(∀o,x=some o->P o)/\wI P r:=h;rcases List.mem_cons.mp u with e|e
  ·exact z.1 o e.symm
  ·exact B z.2 e
theorem Cm{P:PO->Prop}{x:PO}(h:P x):∀o,some x=some o->P o:=λo e=>by(have u:=oi e;clear e;subst u);exact h
theorem Co{x:PO}{P:PO->Prop}(h:P x):∀o,(if b=true then some x else none)=some o->P o:=λo e=>by
 split at e
 ·(have u:=oi e;clear e;subst u);exact h
 ·exact bU e
theorem GC{z:Option (Addr×(Str->Option Value))}{P:PO->Prop}(h:∀a m,P (.IM a m)):∀o,frO z=some o->P o:=λo e=>by
 cases z with
 |none=>exact bU e
 |some x=>(have u:=oi e;clear e;subst u);exact h _ _
theorem aB:∀(S:St),aN (aJ S):=by
 exists em λS=>aO _;intros;exact nU (wI.mem (P:=λo=>o.HM=true) (by unfold Ej;repeat' first|exact trivial|(refine And.intro ?_ ?_)|(refine Cm ?_)|(refine Co ?_)|(refine GC<|λU U=>?_)|exact rfl))
theorem yi:∀(S:St),∀n o,aJ S n=some (some o)->o.Iq (λk=>k != .sk 99)=true:=by
 exists em λS=>aO _;intro S;exact yE (wI.mem (P:=λo=>o.Iq (λk=>k != .sk 99)=true) (by unfold Ej;repeat' first|exact trivial|(refine And.intro ?_ ?_)|(refine Cm ?_)|(refine Co ?_)|(refine GC<|λU U=>?_)|exact rfl))
theorem xZ{S:St}(T:St)(u:j<29)(h:(Ej S).set j (some o)=Ej T):(aJ S).set j o=aJ T:=by unfold aJ;exact(ys<|yr<|Nat.lt_of_lt_of_eq u (zs S).symm)▸(ys h)▸rfl
theorem yZ{S:St}{l:List (Int×List aM)}:(aJ S).set 10 (.G7 (cV l))=aJ {S with sp:={S.sp with Hd:=l}}:=xZ _ (by decide) rfl
theorem AS{S:St}{l:List (Bool×aM)}:(aJ S).set 11 (.Ha (l.map gL))=aJ {S with log:=l}:=xZ _ (by decide) rfl
end
variable {q:Int×List aM}
variable {S:St}
section
section
variable {C:Cx} {A:Around} {f:Fc} {σ:aC}
theorem Aa{mem:aQ}{n:Nat}(h:mem n=some (some o)):aC.get ⟨ls,G8,mem⟩ (.sk n)=some o:=by
 show(mem n).join=_;refine(ys h)▸?_;rfl
noncomputable def mt:List (Option PO)->Nat->Option PO->List (Option PO)
 |[],0,x=>[x]
 |[],n+1,x=>none::mt [] n x
 |_::l,0,x=>x::l
 |a::l,n+1,x=>a::mt l n x
theorem zB(l:List (Option PO)):∀(j n:Nat)(x:Option PO),((mt l j x)[n]?).join=if n=j then x else(l[n]?).join:=by
 induction l with
 | nil =>
  intro j
  induction j with
  | zero=>intro n x;cases n with
   |zero=>rfl
   |succ n=>refine(ys<|if_neg<|Nat.succ_ne_zero n)▸?_;simp[mt]
  | succ j u=>intro n x;cases n with
   |zero=>refine(ys<|if_neg (Nat.succ_ne_zero j).symm)▸?_;simp[mt]
   | succ n=>
    have:=u n x;simp only[mt,List.getElem?_cons_succ,Nat.add_right_cancel_iff];refine(ys this)▸?_;simp
 | cons a l u=>
  intro j n x;cases j with
  | zero=>cases n with
   |zero=>rfl
   |succ n=>refine(ys<|if_neg<|Nat.succ_ne_zero n)▸?_;simp[mt]
  | succ j=>cases n with
   |zero=>refine(ys<|if_neg (Nat.succ_ne_zero j).symm)▸?_;simp[mt]
   | succ n=>
    simp only[mt,List.getElem?_cons_succ,Nat.add_right_cancel_iff];exact u j n x
theorem oa(l:List (Option PO))(n:Nat):eG l n=((l[n]?).join).map some:=by
 unfold eG;cases h:l[n]? with
 |none=>rfl
 |some o=>cases o<;>rfl
theorem vr{l:List (Option PO)}:(eG l).set j o=eG (mt l j (some o)):=by
 funext n;unfold aQ.set;rw[oa,oa,zB]
 split<;>rfl
end
end
section
section
variable {C:Cx} {A:Around} {f:Fc} {σ:aC}
theorem aS.Ip{O:Type}{σ σ':aC}{Q:Pl->Fz->O->aC->Prop}{y:O}{ax:Addr}{hN:Heap}(a:At C f ρ F σ s.heap)(hk:∀b S,s.heap.get? b=some S->hN.get? b=some S)(hn:s.heap.get? ax=none)(N:ρ k=none)
  (r:c9 C ρ F hN (ax,ax) po) (J:σ'.ls=σ.ls) (z:∀I,σ'.get I=if I=k then some po else σ.get I) (B:∀i,σ'.G8.length<=i->σ.G8.length<=i/\Ky.tm i≠k) (u:∀n,σ'.mem n=none->σ.mem n=none/\Ky.sk n≠k)
  (q:∀ρ':Pl,ρ' k=some (ax,ax)->Q ρ' F y σ'):aS C f ρ F σ s Q y (wh s hN tk):=
 aS.IS (pp:=(ax,ax)) a hk (λb U=>by rcases U with rfl|rfl<;>exact hn) N r J z B u q
theorem uS{k':Ky}:aC.get ⟨σ.ls,σ.G8,aQ.set σ.mem j o⟩ k'=if k'=Ky.sk j then some o else σ.get k':=by
 cases k' with
 | sk n=>
  by_cases q:n=j
  ·subst q;rw[if_pos rfl];show((aQ.set σ.mem n o) n).join=_;rw[aQ.Ib];rfl
  ·rw[if_neg (λe=>q<|by(have u:=Mine.Ky.sk.inj e;clear e;clear q;subst u);rfl)];show((aQ.set σ.mem j o) n).join=(σ.mem n).join;unfold aQ.set;rw[if_neg q]
 |tm i=>rw[if_neg (λe=>by exact nc Ky.ctorIdx e rfl)];rfl
theorem aS.Iw{B:Type}{Q:Pl->Fz->B->aC->Prop}{y:B}{ax:Addr}{hN:Heap}(a:At C f ρ F σ s.heap)(I:σ.mem j=none)(hk:∀b z,s.heap.get? b=some z->hN.get? b=some z)(hn:s.heap.get? ax=none)
  (r:c9 C ρ F hN (ax,ax) po) (q:∀ρ':Pl,ρ' (.sk j)=some (ax,ax)->Q ρ' F y ⟨σ.ls,σ.G8,aQ.set σ.mem j po⟩):aS C f ρ F σ s Q y (wh s hN tk):=
 aS.Ip (k:=.sk j) (σ':=⟨σ.ls,σ.G8,aQ.set σ.mem j po⟩) a hk hn (a.HN j I) r rfl (λU=>uS) (λi hi=>⟨hi,λe=>by exact nc Ky.ctorIdx e rfl⟩) (λn u=>⟨(dn u).2,λe=>(dn u).1<|Ky.sk.inj e⟩) q
theorem At.HW(G:Gd C)(a:At C f ρ F σ h):h.objs.size≠sysModules:=Nat.ne_of_gt<|modules_low<|G.lim.keeps a.Hv
theorem iy:∃o,(s.heap.push {cls:=.type "dict",data:=.dict #[]}).get? s.heap.objs.size=some o/\dT (intKind C.prog C.w) o []:=cA.mp<|Heap.DictOf.new (knd:=intKind C.prog C.w) s.heap
theorem vS:∃o,(s.heap.push {cls:=.type "dict",data:=.dict #[]}).get? s.heap.objs.size=some o/\dT (strKind C.prog C.w) o []:=cA.mp<|Heap.DictOf.new (knd:=strKind C.prog C.w) s.heap
theorem d9(G:Gd C)(j:Nat){pos:Pos}(I:σ.mem j=none)(q:Q (.at (.sk j)) ⟨σ.ls,σ.G8,aQ.set σ.mem j (.G7 [])⟩):Ev C A f (.Dict [] [] pos) σ Q:=λρ F s a=>by
 exact aG (iy (C:=C) (s:=s)) λo u B=>wpAny_Dict_empty<|aS.Iw (po:=.G7 []) (tk:=s.toks) a I (λb J e=>Heap.get?_push_of_some _ e) (aZ _) (⟨⟨rfl,a.HW G⟩,bE o [] u B .nil⟩) λρ' z=>aD _ (.at (p:=(s.heap.objs.size,s.heap.objs.size)) z) q
theorem wp(G:Gd C){pos:Pos}(q:Q (.at (.tm σ.G8.length)) ⟨σ.ls,σ.G8++[some (.G7 [])],σ.mem⟩):Ev C A f (.Dict [] [] pos) σ Q:=λρ F s a=>by
 exact aG (iy (C:=C) (s:=s)) λo u B=>wpAny_Dict_empty<|fj.Ih (po:=.G7 []) a rfl (⟨⟨rfl,a.HW G⟩,bE o [] u B .nil⟩) λρ' z=>aD _ (.at (p:=(s.heap.objs.size,s.heap.objs.size)) z) q
theorem nD(G:Gd C){pos:Pos}(q:Q (.d (.G7 [])) σ):Ev C A f (.Dict [] [] pos) σ Q:=λρ F s a=>by
 refine aG (iy (C:=C) (s:=s)) λo u z=>?_;exact wpAny_Dict_empty (aS.push a rfl ⟨_,.d (.G7 (o:=o) (kvs:=[]) (a.HW G) (.inr (by
  have:o={cls:=.type "dict",data:=.dict #[]}:=oi<|u.symm.trans<|Heap.get?_push_size _ rfl
  refine(ys this)▸?_;exact .head _)) z .nil),q⟩)
theorem rf(j:Nat){pos:Pos}{O:List Expr}(po:List DV->PO)(B:∀{ρ:Pl}{F:Fz}{h:Heap}{a:Addr}{vs:List Value}{z:List DV},h.get? a=some {cls:=.type "list",data:=.seq vs.toArray}->bA C F vs z->c9 C ρ F h (a,a) (po z))
  (h:jo C A f pos O σ λxs σ1=>xs.length<=1000/\σ1.mem j=none/\∃z,mh xs=some z/\Q (.at (.sk j)) ⟨σ1.ls,σ1.G8,aQ.set σ1.mem j (po z)⟩):Ev C A f (.List O pos) σ Q:=λρ F s a=>
 wpAny_List ((h ρ F s a).go λvs J u V Z σ1 xs S I N q=>⟨by refine(ys N.length)▸?_;exact Nat.le_trans q.1 (by decide),q.2.2.elim λz w=>aS.after (tk:=u) I S
  (aS.Iw (po:=po z) (tk:=u) (s:=(wh s J u)) S q.2.1 (λb W e=>Heap.get?_push_of_some _ e) (aZ _) (B (Heap.get?_push_size _ rfl)<|N.dvs w.1)<|λρ' U=>aD _ (.at (k:=.sk j) (p:=(J.objs.size,J.objs.size)) U) w.2)⟩)
theorem jv(j:Nat){pos:Pos}{z:List Expr}(h:jo C A f pos z σ λxs σ1=>xs.length<=1000/\σ1.mem j=none/\∃u,mh xs=some u/\Q (.at (.sk j)) ⟨σ1.ls,σ1.G8,aQ.set σ1.mem j (.Ha u)⟩):Ev C A f (.List z pos) σ Q:=
 rf j .Ha (λg r=>⟨rfl,bE _ _ g ⟨0,rfl⟩ r⟩) h
theorem xw(j:Nat){pos:Pos}{z:List Expr}(h:jo C A f pos z σ λxs σ1=>xs.length<=1000/\σ1.mem j=none/\∃u,mh xs=some u/\Q (.at (.sk j)) ⟨σ1.ls,σ1.G8,aQ.set σ1.mem j (.HA u)⟩):Ev C A f (.List z pos) σ Q:=
 rf j .HA (λg r=>⟨rfl,bE _ _ g ⟨rfl,0,rfl⟩ r⟩) h
noncomputable def Fp(C:Cx)(A:Around)(f:Fc)(pos:Pos):List (Option Expr)->List Expr->aC->(List (Str×PV)->aC->Prop)->Prop:=λks vs σ Q=>
 ∀ρ F s,At C f ρ F σ s.heap->fw C A f (evalPairs (pairTrees ks vs f.env pos)) ρ F σ s (λρ' F' r σ'=>∃kvs l,Carries (strKind C.prog C.w) r kvs/\gQ C ρ' F' kvs l/\Q l σ')
theorem iA{pos:Pos}{Q:List (Str×PV)->aC->Prop}(q:Q [] σ):Fp C A f pos [] [] σ Q:=λρ F s a=>pairTrees_nil_walk<|aS.same (tk:=s.toks) a<|bE [] [] trivial .nil q
theorem cF:∀{C A f σ pos J x n v ks vs Q}(h:Ev C A f v σ λy σ1=>Fp C A f pos ks vs σ1 λl σ2=>Q ((x,y)::l) σ2),Fp C A f pos (some (.Constant (.str x) n J)::ks) (v::vs) σ Q:=by
 intro C A f σ pos J x n v ks vs Q h;exact λρ F s a=>
  pairTrees_cons_walk (wpAny_Constant_str ((h ρ F {s with toks:=s.toks+1} a).go λS h1 V I F1 σ1 y N z O W=>(W I F1 _ N).use λr U B ρ2 F2 σ2 Z u q=>vX q λkvs l q=>
   bS U B ρ2 F2 σ2 rfl Z (z.then N u) (bE ((x,S)::kvs) ((x,y)::l) ⟨iQ,rfl,q.1⟩ (.cons (O.step u) q.2.1) q.2.2)))
theorem gQ.keys{vs:List (Str×Value)}{u:List (Str×PV)}(h:gQ P ρ F vs u):vs.map (·.1)=u.map (·.1):=by
 induction h with
 |nil=>rfl
 |cons _ _ z=>exact congrArg (_:: ·) z
theorem sR{K:Type}[DecidableEq K]{acc:List (K×Value)}{k:K}{v:Value}(h:k∉acc.map (·.1)):stored acc k v=acc++[(k,v)]:=by
 unfold stored;rw[if_neg];intro q;exact aG (List.any_eq_true.mp q) λx u e=>h<|List.mem_map.mpr<|aD x u<|of_decide_eq_true e
theorem l3{K:Type}[DecidableEq K]:∀(kvs acc:List (K×Value)),((acc++kvs).map (·.1)).Nodup->merged acc kvs=acc++kvs:=λkvs=>by
 induction kvs with
 | nil=>
  intro acc U;exact(List.append_nil acc).symm
 | cons z r u=>
  obtain⟨k,v⟩:=z;intro acc h;have hk:k∉acc.map (·.1):=by
   rw[List.map_append,List.nodup_append] at h;intro q;exact h.2.2 k q k (by simp) rfl
  show merged (stored acc k v) r=_;rw[sR hk,u _ (by simpa using h)];simp
theorem tJ{kvs:List (Str×Value)}{l:List (Str×PV)}(z:gQ C ρ F kvs l)(u:(l.map (·.1)).Nodup):merged [] kvs=kvs:=l3 kvs [] (by rw[List.nil_append,z.keys];exact u)
theorem rZ:∀{C A f σ K σ0 pos ks vs Q}(G:Gd C)(S:∀{ρ F h},At C f ρ F σ h->ρ K=none)(V:σ0.ls=σ.ls)(I:∀k',σ0.get k'=if k'=K then some (.Hh []) else σ.get k')(B:∀i,σ0.G8.length<=i->σ.G8.length<=i/\Ky.tm i≠K)(z:∀n,σ0.mem n=none->σ.mem n=none/\Ky.sk n≠K)(h1:ks.all (·.isSome)=true)(W:ks.length=vs.length)(h3:ks≠[])(h4:ks.length<=15)(h:Fp C A f pos ks vs σ0 λl σ1=>(l.map (·.1)).Nodup/\σ1.get K=some (.Hh [])/\Q (.at K) (σ1.put K (.Hh l))),Ev C A f (.Dict ks vs pos) σ Q:=by
 exists ce λC=>cx λA=>dO λf=>dR λσ=>Au λK=>dR λσ0=>aA λpos=>aA λks=>aA λvs=>aA λQ=>aO _;intros;exact λρ F s a=>by
  revert ρ F s;exists aA λρ=>aA λF=>eu λs=>aO _;intros;refine wpAny_Dict_walk (knd:=strKind C.prog C.w) h1 W h3 h4<|(vS (C:=C) (s:=s)).elim λo n=>?_;have N:=a.Ip (X:=bv f) (σ':=σ0) (k:=K) (po:=.Hh []) (pp:=(s.heap.objs.size,s.heap.objs.size)) (hN:=s.heap.push {cls:=.type "dict",data:=.dict #[]}) (λb ob e=>Heap.get?_push_of_some _ e) (λb e=>(show b=s.heap.objs.size from e.elim id id)▸aZ _) (S a)
   (⟨⟨rfl,a.HW G⟩,bE o [] n.1 n.2 .nil⟩) V I B z
  have e0:fm ρ K (s.heap.objs.size,s.heap.objs.size) K=some (s.heap.objs.size,s.heap.objs.size):=if_pos rfl;revert N e0;generalize fm ρ K (s.heap.objs.size,s.heap.objs.size)=ab;intro N e0;refine(h ab F {s with heap:=s.heap.push {cls:=.type "dict",data:=.dict #[]}} N.1).use λr W J ρ2 F2 σ2 a2 O q=>vX q λkvs l q=>?_;have u:=O.HD _ _ e0;have D:=a2.Hh q.2.2.2.1 u;refine vX D.2 λo2 aa d=>?_;have hk:aa=[]:=by cases d.2.2;rfl
  rw[hk] at d;refine bD kvs q.1 (d.2.1.mapOf d.1)<|λh' U Z=>?_
  rw[tJ q.2.1 q.2.2.1] at U;refine(cA.mp U).elim λo3 g3=>?_;have P2:=aS.upd (s:=(wh s W J)) (tk:=J+r.length) (h':=h') (y:=Value.ref s.heap.objs.size) (Q:=VQ C Q) (o':=.Hh l) a2 q.2.2.2.1 u (.inl rfl) (λb ob hb eb=>Z.extBut b ob hb eb) (⟨⟨rfl,D.1.2⟩,bE o3 kvs g3.1 g3.2 q.2.1⟩)<|aD _ (.at (p:=(s.heap.objs.size,s.heap.objs.size)) u) q.2.2.2.2
  exact P2.after (s:=s) (tk:=J) (N.2.then N.1 O) a2
theorem ia(G:Gd C)(j:Nat){pos:Pos}{ks:List (Option Expr)}{vs:List Expr}(J:σ.mem j=none)(I:ks.all (·.isSome)=true)(u:ks.length=vs.length)(B:ks≠[])(z:ks.length<=15)
  (h:Fp C A f pos ks vs ⟨σ.ls,σ.G8,aQ.set σ.mem j (.Hh [])⟩ λl σ1=>(l.map (·.1)).Nodup/\σ1.get (.sk j)=some (.Hh [])/\Q (.at (.sk j)) (σ1.put (.sk j) (.Hh l))):Ev C A f (.Dict ks vs pos) σ Q:=
 rZ (σ0:=⟨σ.ls,σ.G8,aQ.set σ.mem j<|.Hh []⟩) G (λa=>a.HN j J) rfl (λU=>uS) (λi hi=>⟨hi,nofun⟩) (λn hn=>⟨(dn hn).2,λe=>(dn hn).1<|Ky.sk.inj e⟩) I u B z h
end
end
section
section
variable {C:Cx} {A:Around} {f:Fc} {σ:aC}
noncomputable def tu(C:Cx)(A:Around)(cf:Fc)(target:Expr)(ifs:List Expr)(elt:Expr)(m:Nat)(caps:List (Option PV))(G8:List (Option PO))(mem:aQ)(x:DV)(ok:Bool)(y:DV)(mem':aQ):Prop:=
 ∀ u acc t,u.length=m->aU t->As C A cf (λv=>assign target cf.env v) (.d x) ⟨u++caps,G8++some (.Ha acc)::t,mem⟩ λσ2=>zU C A cf ifs σ2 λb σ3=>b=ok/\
  if ok=true then Ev C A cf elt σ3 λz σ4=>z= .d y/\m4 m caps G8 mem' acc σ4 else m4 m caps G8 mem' acc σ3
noncomputable def ej{α τ:Type}(p:τ->α->Bool)(e:τ->α->DV)(nx:τ->α->τ):List α->τ->List DV
 |[],_=>[]
 |x::l,t=>(if p t x=true then[e t x] else[])++ej p e nx l (nx t x)
theorem pP{r:List (Option PO)}{mem:aQ}{o:Option PO}:aC.get ⟨ls,T++o::r,mem⟩ (.tm T.length)=o:=by
 show((T++o::r)[T.length]?).join=o;rw[List.getElem?_append_right (Nat.le_refl _),Nat.sub_self];rfl
theorem rK{r:List (Option PO)}{x y:Option PO}:(T++x::r).set T.length y=T++y::r:=by
 rw[List.set_append_right _ _ (Nat.le_refl _),Nat.sub_self];rfl
theorem qK{r:List (Option PO)}{mem:aQ}{x:Option PO}:aC.put ⟨ls,T++x::r,mem⟩ (.tm T.length) o=⟨ls,T++some o::r,mem⟩:=congrArg (λq=>aC.mk ls q mem) rK
theorem zle{a b:Nat}(h:a+(b+1)<=100000):a<=100000/\a+1+b<=100000/\a+b<=100000:=by exact⟨bw [_,_] [] 0x61a81150508601801c3502280001 ft h,bw [_,_] [] 0x30d408a8284300c00e1a8114220a00d801 ft h,bw [_,_] [] 0x186a045414218060070d408a1001801 ft h⟩
theorem qx{O N:Type}(g:O->DV)(M:N->aQ)(p:N->O->Bool)(e:N->O->DV)(nx:N->O->N)(Ok:List O->N->Prop){inv:aC->Prop}{cf:Fc}{caps:List (Option PV)}{Q:aC->Prop}
    (J:∀σ':aC,(∃t,σ'.mem=M t)->inv σ') (hT:∀x l t,Ok (x::l) t->tu C A cf target ifs elt m caps G8 (M t) (g x) (p t x) (e t x) (M (nx t x))/\Ok l (nx t x)):∀(l:List O)(t:N),Ok l t->
    ∀(acc:List DV)(σ:aC),acc.length+l.length<=100000->m4 m caps G8 (M t) acc σ->(∀σ',m4 m caps G8 (M (l.foldl nx t)) (acc++ej p e nx l t) σ'->Q σ')->nj C A cf target ifs elt G8.length inv (l.map λx=>.d (g x)) σ Q
 := λl=>by
  induction l with
  |nil=>exact λt U acc σ U S W=>W σ (by rw[show ej p e nx [] t=[] from rfl,List.append_nil];exact S)
  | cons x l ih=>
    intro t aa acc σ hz S W;refine bM S λu tt hu ht ad=>?_;clear S;subst ad;refine dK (zle hz) λz1 z2 z3=>aL (hT x l t aa) λh1 I=>λρ F s v a r=>(h1 u acc tt hu ht ρ F s v a r).mono λU U U σ2 h2=>zU.mono h2 λb ae B=>aL B λeb h4=>?_;clear B;subst eb;have B:=h4;clear h4;have z:∀σ',m4 m caps G8 (M<|l.foldl nx<|nx t x) ((acc++if p t x=true then[e t x] else[])++ej p e nx l (nx t x)) σ'->Q σ':=λσ' h=>W σ' (by rw[List.append_assoc] at h;exact h);cases hp:p t x with
    | true=>
      rw[hp,if_pos rfl] at B z;rw[if_pos rfl];refine λρ F s a=>(B ρ F s a).mono λU U U af V=>V.imp λpv V=>⟨V.1,?_⟩
      refine aL V.2 λhz rq=>bM rq λu' t' Z ab eq=>?_;clear rq;subst eq;refine tU (e t x) acc hz pP z1 ?_ ?_
      · rw[qK];exact J _ ⟨_,rfl⟩
      · rw[qK]
        exact ih (nx t x) I _ _ (by rw[List.length_append];exact z2) (bE u' t' Z ab rfl) z
    | false=>
      rw[hp,if_neg Bool.false_ne_true] at B z;rw[if_neg Bool.false_ne_true];rw[List.append_nil] at z;exact⟨J _ (B.elim λu' q=>q.elim λt' q=>⟨_,by rw[q.2.2]⟩),ih (nx t x) I acc ae z3 B z⟩
theorem wB{u:Type}{p:u->Bool}{e:u->DV}:∀(l:List u),ej (λU=>p) (λU=>e) (λ(_:Unit) _=>()) l ()=(l.filter p).map e:=λl=>by
 induction l with
 | nil=>
  exact rfl
 | cons x l z=>
  show(if p x=true then[e x] else[])++ej (λU=>p) (λU=>e) (λ(_:Unit) _=>()) l ()=_;refine(ys z)▸(ys List.filter_cons)▸?_;cases p x<;>rfl
theorem pI{z:Type}(g:z->DV)(p:z->Bool)(e:z->DV){inv:aC->Prop}{B:Fc}{caps:List (Option PV)}{mem:aQ}{Q:aC->Prop}(u:∀σ':aC,σ'.mem=mem->inv σ')(l:List z)(S:∀x∈l,rT C A B target ifs elt m caps G8 mem (g x) (p x) (e x))
  (acc:List DV) (σ:aC) (N:acc.length+l.length<=100000) (J:m4 m caps G8 mem acc σ) (O:∀σ',m4 m caps G8 mem (acc++(l.filter p).map e) σ'->Q σ'):nj C A B target ifs elt G8.length inv (l.map λx=>.d (g x)) σ Q:=
 qx g (λ_:Unit=>mem) (λU=>p) (λU=>e) (λU U=>()) (λr U=>∀y∈r,y∈l) (λσ' h=>h.elim λU h=>u σ' h) (λx r U h=>⟨S x<|h x<|.head _,λy I=>h y<|.tail _ I⟩) l () (λU h=>h) acc σ N J λσ' h=>O σ'<|wB l▸h
theorem Ad{mem:aQ}(h:σ.mem=mem):m4 own.length (caps.map λx=>(σ.ls[f.ns.idxOf x]?).join) σ.G8 mem [] (xm own caps f σ):=h▸(bE (own.map λU=>none) [] (List.length_map _) aK rfl)
theorem lG{σ':aC}{J:List (Option PV)}{mem:aQ}(h:m4 m J σ.G8 mem l σ')(B:∀t,aU t->Q (.d (.seq l)) ⟨σ.ls,σ.G8++none::t,mem⟩):yY σ Q σ':=by
 refine bM h λu t U I z=>?_;try clear h;subst z;exact aD l pP (by refine(ys rK)▸?_;exact B t I)
theorem lv(O:dz scope cl own caps f)(hh:A.handled=none){B z:Type}(g:B->DV)(M:z->aQ)(p:z->B->Bool)(e:z->B->DV)(nx:z->B->z)(I:List B->z->Prop)(l:List B)(t0:z){y:Str}{V:Pos}{i:Nat}{pos u:Pos}{Q:Fl->aC->Prop}(hl:l.length<=100000)
  (hi:f.ns[i]? =some y) (hk:hJ f y) (N:swapsWith (.ListComp elt [⟨target,iter,ifs,0⟩] scope pos) (some (.Name y V)) u.line f.env=pure true)
  (h:Ev C A f iter σ λx σ1=>x= .d (.seq (l.map g))/\σ1.mem=M t0/\I l t0/\(∀D,∀x l t,I (x::l) t->tu C A (cn scope cl D own caps f) target ifs elt own.length (caps.map λx=>(σ1.ls[f.ns.idxOf x]?).join) σ1.G8 (M t) (g x) (p t x) (e t x) (M (nx t x))/\I l (nx t x))/\
   ∀W,aU W->Q .next (aC.H0 ⟨σ1.ls,σ1.G8++none::W,M (l.foldl nx t0)⟩ i (.d (.seq (ej p e nx l t0)))))
  (Z:∀x,foldedSetIterable iter f.env x=pure x):Ex C A f (.Assign [.Name y V] (.ListComp elt [⟨target,iter,ifs,0⟩] scope pos) u) σ Q:=by
 refine kU O hi hk N (h.mono λx σ1 q=>?_) Z;refine CD q λS hM J hT hq=>?_;try clear q;subst S;refine dk _ _ (lB hh)<|λD=>?_
 refine(ys List.map_map)▸?_;exact qx g M p e nx I (λU U=>trivial) (hT D) l t0 J [] _ (by rw[List.length_nil,Nat.zero_add];exact hl) (Ad hM) λσ' h'=>lG h' hq
theorem ra(O:dz scope cl own caps f){u:Type}(g:u->DV)(p:u->Bool)(e:u->DV)(l:List u){pos:Pos}(z:l.length<=100000)
  (h:Ev C A f iter σ λx σ1=>(∃inv,oq C A f x σ1 (l.map λy=>.d (g y)) inv/\∀σ':aC,σ'.mem=σ1.mem->inv σ')/\(∀D,∀x∈l,rT C A (cn scope cl D own caps f) target ifs elt own.length (caps.map λx=>(σ1.ls[f.ns.idxOf x]?).join) σ1.G8 σ1.mem (g x) (p x) (e x))/\
   ∀t,aU t->Q (.d (.seq ((l.filter p).map e))) ⟨σ1.ls,σ1.G8++none::t,σ1.mem⟩)
  (B:∀x,foldedSetIterable iter f.env x=pure x):Ev C A f (.ListComp elt [⟨target,iter,ifs,0⟩] scope pos) σ Q:=
 AW O (h.mono λx σ1 q=>⟨_,q.1.elim λinv r=>aD inv r.1<|λD=>pI g p e r.2 l (q.2.1 D) [] _ (by rw[List.length_nil,Nat.zero_add];exact z) (Ad rfl) λσ' h'=>lG h' q.2.2⟩) B
theorem lu(O:dz scope cl own caps f){z:Type}(g:z->DV)(p:z->Bool)(e:z->DV)(l:List z){y:Str}{I:Pos}{i:Nat}{pos u:Pos}{Q:Fl->aC->Prop}(N:l.length<=100000)
  (hi:f.ns[i]? =some y) (hk:hJ f y) (B:swapsWith (.ListComp elt [⟨target,iter,ifs,0⟩] scope pos) (some (.Name y I)) u.line f.env=pure true)
  (h:Ev C A f iter σ λx σ1=>(∃inv,oq C A f x σ1 (l.map λy=>.d (g y)) inv/\∀σ':aC,σ'.mem=σ1.mem->inv σ')/\(∀D,∀x∈l,rT C A (cn scope cl D own caps f) target ifs elt own.length (caps.map λx=>(σ1.ls[f.ns.idxOf x]?).join) σ1.G8 σ1.mem (g x) (p x) (e x))/\
   ∀t,aU t->Q .next (aC.H0 ⟨σ1.ls,σ1.G8++none::t,σ1.mem⟩ i (.d (.seq ((l.filter p).map e)))))
  (J:∀x,foldedSetIterable iter f.env x=pure x):Ex C A f (.Assign [.Name y I] (.ListComp elt [⟨target,iter,ifs,0⟩] scope pos) u) σ Q:=
 kU O hi hk B (h.mono λx σ1 q=>⟨_,q.1.elim λinv r=>aD inv r.1<|λD=>pI g p e r.2 l (q.2.1 D) [] _ (by rw[List.length_nil,Nat.zero_add];exact N) (Ad rfl) λσ' h'=>lG h' q.2.2⟩) J
theorem bZ(B:A.handled=none){u:Type}{g:u->DV}{l:List u}(z:x= .d (.seq (l.map g))):∃inv,oq C A f x σ (l.map λy=>.d (g y)) inv/\∀σ':aC,σ'.mem=σ.mem->inv σ':=by
 subst z;refine aD _ ?_<|λU U=>trivial
 have:=lB (C:=C) (A:=A) (f:=f) (σ:=σ) B (l:=l.map g)
 rwa [List.map_map] at this
theorem lW(J:A.handled=none){lo hi:Int}{l:List Int}(B:x= .d (.It lo hi))(z: -1000<=lo/\lo<1000000)(u: -1000<=hi/\hi<1000000)(I:cM lo (hi-lo).toNat=l.map .int):∃inv,oq C A f x σ (l.map λy=>.d (.int y)) inv/\∀σ':aC,σ'.mem=σ.mem->inv σ':=by
 subst B;refine aD _ ?_<|λU U=>trivial
 have:=px (C:=C) (A:=A) (f:=f) (σ:=σ) J (lo:=lo) (hi:=hi) (bw [] [_] 0x7e8296302060000000000000007eb181 ft z.1) (bw [] [_] 0x1e8480a2028060000000000000007e80a01 ft z.2) (bw [] [_] 0x7e8296302060000000000000007eb181 ft u.1)<|bw [] [_] 0x1e8480a2028060000000000000007e80a01 ft u.2
 rw[I,List.map_map] at this;exact this
theorem kB(N:A.handled=none){n:Nat}{o:Obj}{d:List (Int×DV)}{z:Type}{g:z->Int}{l:List z}(B:x= .at (.sk n))(I:σ.mem n=some (some (.Hz o d)))(J:d.map (·.1)=l.map g):∃inv,oq C A f x σ (l.map λy=>.d (.int (g y))) inv/\∀σ':aC,σ'.mem=σ.mem->inv σ':=by
 subst B;have u:σ.get (.sk n)=some (.Hz o d):=Aa I;refine aD (λσ'=>σ'.get (.sk n)=some (.Hz o d)) ?_<|λσ' e=>?_
 ·have:=rC (C:=C) (A:=A) (f:=f) (σ:=σ) N u;have e:(d.map λp=>PV.d<|.int p.1)=l.map λy=>PV.d (.int<|g y):=by
   have:=congrArg (List.map λi=>PV.d<|.int i) J;rw[List.map_map,List.map_map] at this;exact this
  rwa [e] at this
 ·show(σ'.mem n).join=_;refine(ys e)▸?_;exact u
theorem gP(lo:Int):∀n:Nat,cM lo n=(List.range n).map λ(i:Nat)=>DV.int (lo+(i:Int)):=by
 intro n
 induction n generalizing lo with
 |zero=>rfl
 | succ n u=>
  rw[cM,u,List.range_succ_eq_map,List.map_cons,List.map_map];congr 1
  ·simp
  ·apply List.map_congr_left;intro i _;simp only[Function.comp];congr 1;push_cast;exact Int.le_antisymm (jO [_] [_] 0x10500ec0b01e0a02d981 ft)<|jO [_] [_] 0x3c1405b82807605981 ft
end
end
section
section
variable {C:Cx} {A:Around} {f:Fc} {σ:aC}
theorem xP{K:Ky}{l:List (Int×DV)}(J:σ.get K=some (.G7 l))(ρ:Pl)(F:Fz)(s:Shared)(v:Value)(a:At C f ρ F σ s.heap)(r:aW C ρ F v (.at K)):s.TypeIs v "dict"/\∀b,v= .ref b->∃B:Obj,s.heap.get? b=some B/\B.dict=none:=by
 refine aG r.place λp e u=>?_;clear r;subst u;refine aL (a.G7 J e) λU z=>bM z λo kvs g i U=>?_;have I:=(i.mapOf g).mapOf;exact⟨I.typeIs,I.noDict⟩
theorem bP{t:List (Option PO)}(h:aU t):aU (none::t):=fZ (λx e=>by exact bU e) h
theorem eO{l r:List (Option PO)}(h:aU l)(k:aU r):aU (l++r):=λi o e=>by
 by_cases q:i<l.length
 ·rw[List.getElem?_append_left q] at e;exact h i o e
 ·rw[List.getElem?_append_right (Nat.le_of_not_lt q)] at e;exact k _ o e
theorem AU{K:Ky}{l:List (Int×DV)}{k:Int}(b:Bool)(u:σ.get K=some po)(z:po.dct=some l)(B:(l.lookup k).isSome=b)(q:Q (.d (.bool b)) σ):cO C A f (compareOp .In) (.d (.int k)) (.at K) σ Q:=EM u z (by refine(ys B)▸?_;exact q)
theorem to{K:Ky}{l:List (Int×DV)}{k:Int}(y:DV)(u:σ.get K=some po)(B:po.dct=some l)(z:l.lookup k=some y)(q:Q (.d y) σ):pW C A f (.at K) (.d (.int k)) σ Q:=wT u B z q
theorem o5{mem':aQ}(h:σ.mem=mem'):σ=⟨σ.ls,σ.G8,mem'⟩:=by subst h;rfl
theorem wg(I:A.handled=none){K:Ky}{o:Obj}{d:List (Int×DV)}{u:Type}{g:u->Int}{l:List u}(z:σ.get K=some (.Hz o d))(B:d.map (·.1)=l.map g):oq C A f (.at K) σ (l.map λy=>.d (.int (g y))) (λσ'=>σ'.get K=some (.Hz o d)):=by
 have:=rC (C:=C) (A:=A) (f:=f) (σ:=σ) I z;have e:(d.map λp=>PV.d<|.int p.1)=l.map λy=>PV.d (.int<|g y):=by
  have:=congrArg (List.map λi=>PV.d<|.int i) B;rw[List.map_map,List.map_map] at this;exact this
 rwa [e] at this
theorem nZ(l:List (Int×List aM)):(cV l).map (·.1)=l.map (·.1):=by unfold cV;refine(ys List.map_map)▸?_;rfl
theorem iu(l:List (Int×List aM)):(dh l).map (·.1)=l.map (·.1):=by unfold dh;refine(ys List.map_map)▸?_;rfl
theorem gW{K:Ky}(l u:List (Int×DV)){k:Int}{Q:aC->Prop}(z:σ.get K=some (.G7 l))(B:l.length<=100000)(e:iS l k d=u)(q:Q (σ.put K (.G7 u))):sy C A f (.at K) (.d (.int k)) (.d d) σ Q:=tf z B<|e▸q
theorem cQ{l:List (Int×DV)}{k:Int}(y:DV)(u:l.lookup k=some y)(q:Q (.d y) σ):pW C A f (.d (.G7 l)) (.d (.int k)) σ Q:=wx u q
end
end
section
set_option genInjectivity false
section
variable {C:Cx} {A:Around} {f:Fc} {σ:aC}
noncomputable def xl(C:Cx)(n:Nat)(dv:DV)(xs:List PV)(mem:aQ)(K:PV->aQ->Prop):Prop:=
 ∀ A ρ F s a vs,Rm A n->HR C ρ F (aH mem) s.heap->(∀i,ρ (.tm i)=none)->(∀n,mem n=none->ρ (.sk n)=none)->bz C F (.ref a) dv->bQ C ρ F vs xs->
  codeAny (model C.prog C.w) A (.call (.ref a) ⟨vs,[]⟩) (iN C ρ F mem K s) s
noncomputable def ClV(C:Cx)(A:Around)(f:Fc)(dv:DV)(xs:List PV)(σ:aC)(Q:PV->aC->Prop):Prop:=
 ∀ρ F s a vs,At C f ρ F σ s.heap->bz C F (.ref a) dv->bQ C ρ F vs xs->fw C A f (call (.ref a) vs) ρ F σ s (VQ C Q)
theorem DG{n:Nat}{z:DV}{K:PV->aQ->Prop}(J:xl C n z xs σ.mem K)(Z:Rm A m)(u:n<=m)(B:xs.all PV.HM=true)(hm:aN σ.mem)(W:aU σ.G8)
  (k:∀pv mem',K pv mem'->Q pv ⟨σ.ls,σ.G8,mem'⟩):ClV C A f z xs σ Q:=λρ F s a vs h N r=>
 wpAny_call (codeAny_mono (J A (bJ ρ) F s a vs (Z.le u) (h.H.H8 hm) (λU=>rfl) (λn e=>h.HN n e) N<|r.sk B) λS s' q=>iN.use q λv h' tk ρ' F' mem' pv I t1 V O rv ok hK=>by
  have p:=h.back I V t1 O W;exact bS h' tk _ F' _ rfl p.1 p.2<|aD pv (ok.back rv)<|k _ _ hK)
noncomputable def ut(K:Frag)(D:Addr)(name:Str):Bool:=plainGet K D name&&(findIn K (.ref D) name==some none)&&fO K D name
theorem bz.fnAt{params:Arguments}{body:Expr}{qual:Str}(B:∀a o,F a o->s.heap.get? a=some o)(r:bz P F (.ref a) (.lam params body scope qual cl)):FnAt a s.heap:=by
 exact bz.I8 (X:=λv=>∀a,v= .ref a->FnAt a s.heap) r (λz U U U a e=>by(have u:=PySem.Value.ref.inj e;clear e;subst u);exact ee4 _ _ _ _<|B _ _ z) a rfl
noncomputable def DV.H5:DV->Bool
 | .lam _ _ _ _ _=>true
 |_=>false
noncomputable def dA(mem:aQ):aQ:=λn=>if n=21 then some none else mem n
noncomputable def mL(o:PO)(mem:aQ):aQ:=mem.set 21 o
theorem iw{mem:aQ}(h:mem 21=some (some o)):mL o (dA mem)=mem:=by
 funext n
 by_cases e:n=21
 ·refine(ys e)▸(ys h)▸?_;rfl
 ·exact(if_neg e).trans<|if_neg e
theorem fv{mem:aQ}(h:aH (dA mem) k=some o):k≠ .sk 21/\aH mem k=some o:=by
 cases k with
 |tm i=>exact bU h
 | sk n=>
  by_cases q:n=21
  ·rw[q] at h;exact bU h
  ·exact⟨λe=>q<|Ky.sk.inj e,(congrArg Option.join (if_neg q:dA mem n=mem n)).symm.trans h⟩
theorem ri{mem:aQ}(h:bY ρ (aH (dA mem)) a):bY ρ (aH mem) a:=by
 exact ca h λk o p z u B=>bH k o p ((fv z).2) u B
theorem HR.drop{mem:aQ}(H:HR C ρ F (aH mem) h):HR C ρ F (aH (dA mem)) h:=
 ⟨H.base,H.HC,λk o e=>H.obj k o (fv e).2,λk o p a u z B=>H.sep k o p a (fv u).2 z B,λk N o o' p I a u z B O J S=>H.inj k N o o' p I a (fv u).2 (fv z).2 B O J S⟩
noncomputable def nA(qual:Str)(scope:Scope)(L fa c':Addr)(cl:List (Str×Addr))(ps ns:List Str):Fc:=⟨envX qual scope L fa (.ref c') cl,ns,ps⟩
structure nJ(params:Arguments)(scope:Scope)(cl:List (Str×Addr))(c:Addr)(ps ns:List Str):Prop where
 kind:scope.kind= .function
 co:scope.isCoroutine=false
 gen:scope.isGenerator=false
 cell:∀x∈scope.names,x.2≠ .cell
 one:ps=[]\/∃x,ps=[x]
 par:∀x∈ps,scope.names.lookup x=some .local
 Iu:(cl=[]/\ns=ps)\/∃y,cl=[(y,c)]/\ns=ps++[y]/\scope.names.lookup y=some .free/\(y==("__classdict__":Str))=false
 nodup:ns.Nodup
 bind:∀name qual body pm cdv ct(vs:List Value),vs.length=ps.length->bindArgs (kla_fn name qual params body scope cl pm cdv ct) ⟨vs,[]⟩=pure (ps.zip vs)
theorem nJ.HX:∀{params scope u c ps ns x b}(O:nJ params scope u c ps ns)(h:(x,b)∈u),b=c/\scope.names.lookup x=some .free:=by
 exists aA λparams=>aA λscope=>aA λu=>aA λc=>aA λps=>aA λns=>aA λx=>aA λb=>aO _;intros;rcases O.Iu with⟨rfl,_⟩|⟨y,rfl,_,z,_⟩
 ·cases h
 ·cases List.mem_singleton.mp h;exact⟨rfl,z⟩
theorem yX:∀{cl:List (Str×Addr)}{c:Addr}{ps ns:List Str}{xs:List PV}{i:Nat}{x:Str}{pv x21:PV}(one:ps=[]\/∃x,ps=[x])(Iu:(cl=[]/\ns=ps)\/∃y,cl=[(y,c)]/\ns=ps++[y])(hlen:xs.length=ps.length)(h1:ns[i]? =some x)(h2:(xs.map some++(if cl.isEmpty then[] else[some x21]))[i]? =some (some pv)),(ps=[x]/\xs=[pv])\/(cl=[(x,c)]/\pv=x21):=by
 exists aA λcl=>aA λc=>aA λps=>aA λns=>aA λxs=>aA λi=>aA λx=>oO λpv=>oO λx21=>aO _;intros;rcases one with rfl|⟨z,rfl⟩
 ·cases List.length_eq_zero_iff.mp hlen;rcases Iu with⟨rfl,rfl⟩|⟨y,rfl,rfl⟩
  ·exact bU h1
  ·revert y;exists aA λy=>aO _;intros;cases i with
   |zero=>(have re4_0:=oi h1;clear h1;subst re4_0);(have re5_0:=oi<|oi h2;clear h2;subst re5_0);exact .inr ⟨rfl,rfl⟩
   |succ i=>exact bU h1
 ·revert z;exists aA λz=>aO _;intros;obtain⟨w,rfl⟩:=List.length_eq_one_iff.mp hlen;revert w;exists oO λw=>aO _;intros;cases i with
  | zero=>
   have hw:w=pv:=oi<|oi h2
   rcases Iu with⟨rfl,rfl⟩|⟨y,rfl,rfl⟩<;>(have re7_0:=oi h1;clear h1;subst re7_0)<;>exact .inl ⟨rfl,congrArg (λw=>[w]) hw⟩
  | succ i=>
   revert i;exists aA λi=>aO _;intros;rcases Iu with⟨rfl,rfl⟩|⟨y,rfl,rfl⟩
   ·exact bU h1
   ·revert y;exists aA λy=>aO _;intros;cases i with
    |zero=>(have re9_0:=oi h1;clear h1;subst re9_0);(have re10_0:=oi<|oi h2;clear h2;subst re10_0);exact .inr ⟨rfl,rfl⟩
    |succ i=>exact bU h1
theorem EQ:∀{C:Cx}{params:Arguments}{scope:Scope}{qual:Str}{I:List (Str×Addr)}{c L fa c':Addr}{x21:PV}{ps ns:List Str}{xs:List PV}{mem:aQ}{ρ:Pl}{F:Fz}{h h₁:Heap}{vs:List Value}{m:Str->Option Value}{oc:Obj}{N:Value}(O:nJ params scope I c ps ns)(z:xs.length=ps.length)(H:HR C ρ F (aH mem) h)(aa:∀i,ρ (.tm i)=none)(ad:∀n,mem n=none->ρ (.sk n)=none)(r:bQ C ρ F vs xs)(hk:∀b o,h.get? b=some o->h₁.get? b=some o)(u:h.get? L=none)(ae:h₁.Ns L m)(V:∀x v,ps=[x]->vs=[v]->m x=some v)(B:h.get? c=some oc)(Z:oc.data= .cell (some N))(ab:aW C ρ F N x21)(J:¬bY ρ (aH (dA mem)) c)(nF:∀o,¬F c o),At C (nA qual scope L fa c' I ps ns) ρ F ⟨xs.map some++(if I.isEmpty then[] else[some x21]),[],dA mem⟩ h₁:=by
 exists ce λC=>aA λparams=>aA λscope=>aA λqual=>aA λI=>aA λc=>aA λL=>aA λfa=>aA λc'=>oO λx21=>aA λps=>aA λns=>aA λxs=>aA λmem=>aA λρ=>aA λF=>aA λh=>aA λh₁=>aA λvs=>aA λm=>aA λoc=>aA λN=>aO _;intros;have af:c≠L:=λe=>by rw[e,u] at B;exact bU B
 refine⟨?_,⟨O.kind,rfl,rfl,O.nodup,rfl,(bE m (λU=>some N) ae (λn cc e=>?_)<|λi x W h1 h2=>?_),?_,λn cc V=>(O.HX V).1▸af,λb hb ho=>?_,λb hb o e=>?_⟩,λi U=>aa i,λn e=>?_⟩
 ·rw[dH];exact H.drop.grow hk
 ·exact(O.HX<|mem_of_lookup e).1▸(aD oc (hk _ _ B) Z)
 ·revert i x W;exists aA λi=>aA λx=>aA λW=>aO _;intros;cases W with
  |none=>trivial
  | some pv=>
   rcases yX O.one (O.Iu.imp id λq=>q.imp λU q=>⟨q.1,q.2.1⟩) z h1 h2 with⟨S,e2⟩|⟨S,rfl⟩
   ·clear z h2;subst e2;refine r.one (Y:=λvs=>(∀x v,ps=[x]->vs=[v]->m x=some v)->du C ρ F (nA qual scope L fa c' I ps ns) m (λU=>some N) x (some pv)) (λ{v} rv V=>aD v rv<|.inl ⟨O.par x<|S▸.head _,V x v S rfl⟩) V
   ·rcases O.Iu with⟨e,_⟩|⟨y,e,_,e3,e4⟩
    ·cases S.symm.trans e
    ·cases S.symm.trans e;exact aD N ab (.inr ⟨.inr e3,e4,⟨c,by show I.lookup x=_;rw[S,List.lookup_cons,beq_self_eq_true]⟩,rfl⟩)
 ·show I.Pairwise _;rcases O.Iu with⟨e,_⟩|⟨y,e,_⟩
  ·exact e▸.nil
  ·exact e▸List.pairwise_singleton _ _
 ·rw[dH] at ho;rcases hb with rfl|⟨x,cc,hl,rfl⟩
  ·refine aP (H.HJ<|ri ho) λob e=>?_;cases u.symm.trans e
  ·exact J<|(O.HX<|mem_of_lookup hl).1▸ho
 ·rcases hb with rfl|⟨x,cc,hl,rfl⟩
  ·cases u.symm.trans (H.HC _ _ e)
  ·exact nF o<|(O.HX<|mem_of_lookup hl).1▸e
 ·by_cases q:n=21
  ·rw[q] at e;exact jg e
  ·exact ad n<|(if_neg q:dA mem n=mem n).symm.trans e
theorem HR.Il{ρ2:Pl}{mem:aQ}(H:HR C ρ F (aH mem) h)(B:ρ2 (.sk j)=some p)(z:∀k,k≠ .sk j->ρ2 k=ρ k)(u:∀k q,ρ k=some q->ρ2 k=some q)(hn:∀a,(a=p.1\/a=p.2)->¬bY ρ (aH mem) a/\∀o,¬F a o)
  (r:c9 C ρ2 F h p po):HR C ρ2 F (aH (mem.set j po)) h/\(∀a,bY ρ2 (aH (mem.set j po)) a->(a=p.1\/a=p.2)\/bY ρ (aH mem) a):=
 H.IA (λU U e=>e) qv B z u hn r
theorem bx.Il{ρ2:Pl}{I J:bR}(u:bx (λU=>False) ρ F g h ρ' F' I h')(B:∀k q,ρ' k=some q->ρ2 k=some q)(z:∀a,bY ρ2 J a->(a=p.1\/a=p.2)\/bY ρ' I a)
  (hn:∀a,(a=p.1\/a=p.2)->bY ρ g a\/h.get? a=none):bx (λU=>False) ρ F g h ρ2 F' J h':=
 ⟨λk q e=>B _ _<|u.HD _ _ e,u.fz,u.keep,λa e=>e.elim (λe=>(z a e).elim (λq=>(hn a q).imp id .inr) λq=>u.fresh a<|.inl q) λe=>u.fresh a<|.inr e⟩
theorem g4.setM{mem:aQ}(h:g4 mem x):g4 (mem.set j o) x:=by
 cases x with
 | «at»k=>cases k with
  |sk n=>exact λe=>h (dn e).2
  |tm i=>exact h
 |_=>exact h
theorem wX:∀{C params body scope qual cl c x21 ps ns n xs mem K}(G:Gd C)(O:nJ params scope cl c ps ns)(S:xs.length=ps.length)(ad:mem 21=some (some (.cellAt c x21)))(aa:x21.HM=true)(h:∀A' L fa c',Rm A' n->Ev C A' (nA qual scope L fa c' cl ps ns) body ⟨xs.map some++(if cl.isEmpty then[] else[some x21]),[],dA mem⟩ λpv σ'=>g4 σ'.mem pv/\aN σ'.mem/\K pv (mL (.cellAt c x21) σ'.mem)),xl C (n+1) (.lam params body scope qual cl) xs mem K:=by
 intro C params body scope qual cl c x21 ps ns n xs mem K G O S ad aa h;exact λA ρ F s a vs hR H al av rd r=>by
  have N:aH mem (.sk 21)=some (.cellAt c x21):=congrArg Option.join ad;refine cj (H.obj _ _ N) λI ab an ap=>aL an λao az=>bM ap λoc vc V ak am=>?_;clear ad an;subst az;refine rd.I8 λ{a c' pm ctv ar a0 t} f1 f2 aq ay=>?_;have hv:vs.length=ps.length:=r.length.trans S;have aw:s.heap.CodeRec (.ref c') qual:=qw c' ar a0 t rfl (H.HC _ _ f2) aq ay;refine kla_callFunE (Nat.lt_of_le_of_lt (Nat.le_add_right _ _) hR.dep) (H.HC _ _ f1) rfl O.co O.gen rfl aw<|(ys<|O.bind _ _ _ _ _ _ vs hv)▸?_;refine wpAny_pure<|wpAny_newFunctionEnv O.cell (λy hy=>O.par _ (List.of_mem_zip hy).1) (λW af au=>?_) O.kind
  have u:∀b o,s.heap.get? b=some o->W.get? b=some o:=λb o e=>au.extBut b o (Nat.ne_of_lt<|Heap.lt_size e)<|Heap.get?_push_of_some _ e
  refine⟨(G.lim.keeps H.Hv).keeps u,?_⟩;show codeAny _ _ (.expr body<|envX qual scope s.heap.objs.size a (.ref c') cl) _ _;have z:s.heap.get? s.heap.objs.size=none:=aZ _;revert af z;generalize s.heap.objs.size=L;intro af z;have B:bY ρ (aH mem) I.1:=bH _ _ _ N ab<|.inl rfl
  have J:¬bY ρ (aH<|dA mem) I.1:=λ⟨k,o,p,e1,e2,e3⟩=>
   (fv e1).1 (H.inj k (.sk 21) o _ p I I.1 (fv e1).2 N e2 ab e3<|.inl rfl)
  have ah:=EQ (qual:=qual) (fa:=a) (c':=c') O S H al av r u z af (λx v e1 e2=>by refine(ys e1)▸(ys e2)▸?_;show List.lookup x [(x,v)]=_;rw[List.lookup_cons,beq_self_eq_true]) V ak am J λo=>H.HT B;refine kla_codeExpr<|(h _ L a c' (hR.deep _) ρ F (wh s W<|s.toks+(ps.zip vs).length) ah).go λv h' tk ρ' F' σ' pv a' st rv q=>?_
  have ai:=qC (mem:=mem) u (λb o hb e=>by
   rcases hb with rfl|⟨x,cc,hx,hl,rfl⟩
   ·cases z.symm.trans e
   ·cases(O.par x hx).symm.trans (O.HX<|mem_of_lookup hl).2) al (λb e=>ri<|dH _ _▸e) st
  have aj:bY ρ' σ'.get I.1\/(∃o,F' I.1 o)->False:=λq=>by
   rcases st.fresh _ q with q|⟨o,q⟩|q
   ·exact J<|dH _ _▸q
   ·exact H.HT B q
   ·cases(u _ _ V).symm.trans q
  have ae:h'.get? I.1=some oc:=st.keep _ _ (u _ _ V) (λq=>J<|dH _ _▸q) λhb=>by
   rcases hb with e|⟨x,cc,hx,hl,e⟩
   ·cases z.symm.trans ((congrArg s.heap.get? e).symm.trans V)
   ·cases(O.par x hx).symm.trans (O.HX<|mem_of_lookup hl).2
  have Z:∀b,(b=I.1\/b=I.2)->b=I.1:=λb e=>e.elim id λe=>e.trans ao;refine aL (HR.Il (j:=21) (p:=I) (po:=.cellAt I.1 x21) (ρ2:=bJ ρ') (a'.H.H8 q.2.1) (ai.HD _ _ ab) (λU U=>rfl) (λU U e=>e) (λb e=>by
   refine(ys<|Z b e)▸?_;exact⟨λo=>aj<|.inl<|cs o,λo q=>aj<|.inr ⟨o,q⟩⟩) ⟨⟨ao,rfl⟩,oc,vc,ae,ak,(am.sk aa).mono (λk p e=>by
    cases k with
    |sk n=>exact st.HD _ _ e
    |tm i=>exact bU e) st.fz⟩) λH2 ag=>?_
  exact .mk H2 (λU=>rfl) (λn e=>a'.HN n (dn e).2) (ai.Il (λU U e=>e) ag λb e=>.inl<|Z b e▸B) (rv.IG q.1) q.1.setM q.2.2
end
end
section
section
variable {C:Cx} {A:Around} {f:Fc} {σ:aC}
noncomputable def EA(C:Cx)(A:Around)(f:Fc)(e:Option Expr)(σ:aC)(Q:Option Int->aC->Prop):Prop:=match e with
 |none=>Q none σ
 |some e=>Ev C A f e σ λx σ1=>∃i,x= .d (.int i)/\Q (some i) σ1
noncomputable def Slc(C:Cx)(A:Around)(f:Fc)(x:PV)(lo hi:Option Int)(σ:aC)(Q:PV->aC->Prop):Prop:=
 ∀ρ F s o a vl vu,At C f ρ F σ s.heap->aW C ρ F o x->s.heap.IsSliceOf a vl vu .none->IsPart vl lo->IsPart vu hi->ItemOn (model C.prog C.w) A (λU U=>False) o (.ref a) (aS C f ρ F σ s (VQ C Q)) s
theorem tS:∀{C A f σ e Q ρ F s}(h:EA C A f e σ Q)(a:At C f ρ F σ s.heap),fw C A f (valueOrNone (evalOpt e f.env)) ρ F σ s (λρ' F' v σ'=>∃i,IsPart v i/\Q i σ'):=by
 exists ce λC=>cx λA=>dO λf=>dR λσ=>aA λe=>aA λQ=>aA λρ=>aA λF=>eu λs=>aO _;intro C A f σ e Q ρ F s h a;cases e with
 |none=>exact wpAny_pure<|aS.same (tk:=s.toks) a<|aD none .none h
 | some e=>
  revert h;revert e;exists aA λe=>aO _;intro e h;refine fw.mono (h ρ F s a) ?_;rintro ρ' F' v σ' ⟨pv,r,i,u,q⟩;revert r u q;revert ρ' F' v σ' pv i;exists aA λρ'=>aA λF'=>aA λv=>dR λσ'=>oO λpv=>aA λi=>aO _;intro ρ' F' v σ' pv i r u q;subst u;cases r with
  | d r=>cases r with
   |int i t=>exact aD (some i) (.int i t) q
theorem xJ:∀{C A f σ B z I p pos Q}(h:Ev C A f B σ λx σ1=>EA C A f z σ1 λl σ2=>EA C A f I σ2 λu J=>Slc C A f x l u J Q),Ev C A f (.Subscript B (.Slice z I none p) pos) σ Q:=by
 exists ce λC=>cx λA=>dO λf=>dR λσ=>aA λB=>aA λz=>aA λI=>aA λp=>aA λpos=>aA λQ=>aO _;intros;exact λρ F s a=>by
  refine Subscript_<|(h ρ F s a).go λv1 h1 ab ae F1 σ1 x a1 aa rx hl=>?_
  rw[arm_eval_Slice];refine wpAny_bind<|(tS hl (s:=(wh s h1 ab)) a1).go λvl h2 ad ρ2 F2 σ2 l a2 N pl hu=>?_
  refine wpAny_bind<|wpAny_holding<|(tS hu (s:=(wh s h2 ad)) a2).go λO S Z V F3 J u a3 W pu hs=>?_
  refine wpAny_bind<|wpAny_holding ?_
  show wpAny _ _ (pure Value.none) _ _ _;refine wpAny_pure ?_;show wpAny _ _ (newFields "slice" [vl,O,Value.none]) _ _ _;simp only[newFields];refine wpAny_newObj_type ?_ (by size_fits);have hk:∀b o,S.get? b=some o->(S.push {cls:=.type "slice",data:=.fields #[vl,O,.none]}).get? b=some o:=λb o e=>Heap.get?_push_of_some _ e;have q:=hs V F3 {s with heap:=S.push {cls:=.type "slice",data:=.fields #[vl,O,.none]},toks:=Z} v1 S.objs.size vl O (a3.grow hk) ((rx.step N).step W) (Heap.IsSliceOf.new S vl O .none) pl pu;refine bM q λT id q1 q2 q3=>?_;have fq:=((aa.then a1 N).then a2 W).then a3 (bx.grow (X:=bv f) (ρ:=V) (F:=F3) (g:=J.get) hk)
  exact tail_any q2 q1 (wpAny_mono q3 (λU U pp=>pp.after (s:=s) (tk:=Z) fq<|a3.grow hk) λU U e=>e.elim)<|dj _ _ _
theorem bA.take{u:List DV}(h:bA P F vs u)(k:Nat):bA P F (vs.take k) (u.take k):=by
 induction u generalizing vs k with
 |nil=>exact h.HV (by rw[List.take_nil,List.take_nil];exact .nil)
 |cons x u z=>exact h.HE λa b=> @Nat.casesOn (λj=>bA P F (List.take j _)<|List.take j _) k .nil λj=>.cons a<|z b j
theorem oC:∀(items:Array Value)(k:Nat),(slicePick items none (some (k:Int)) none)=(items.toList.take k).toArray:=by
 exists aA λitems=>aA λk=>aO _;intros;have:=slicePick_run items 0 (min k items.size) (Nat.min_le_right _ _)<|Nat.zero_le _
 have e:slicePick items none (some (k:Int)) none=slicePick items (some ((0:Nat):Int)) (some ((min k items.size:Nat):Int)) none:=by
  unfold slicePick;have:sliceBounds none (some (k:Int)) none items.size=sliceBounds (some ((0:Nat):Int)) (some ((min k items.size:Nat):Int)) none items.size:=by
   simp only[sliceBounds,Option.getD_none];refine Prod.ext ?_<|Prod.ext ?_ rfl
   ·show(0:Int)=max 0 (min (if((0:Nat):Int)<0 then((0:Nat):Int)+(items.size:Int) else((0:Nat):Int)) (items.size:Int));rw[if_neg (Int.not_lt.mpr<|Int.natCast_nonneg 0)];show(0:Int)=max 0 (min 0 (items.size:Int));rw[Int.min_eq_left (Int.natCast_nonneg _),Int.max_self]
   ·show max (0:Int) (min (if(k:Int)<0 then(k:Int)+(items.size:Int) else(k:Int)) (items.size:Int))=max 0 (min (if((min k items.size:Nat):Int)<0 then((min k items.size:Nat):Int)+(items.size:Int) else((min k items.size:Nat):Int)) (items.size:Int));rw[if_neg (Int.not_lt.mpr<|Int.natCast_nonneg _),if_neg<|Int.not_lt.mpr<|Int.natCast_nonneg _,show((min k items.size:Nat):Int)=min (k:Int) items.size from by omega,Int.min_assoc,Int.min_self]
  exact(ys this)▸rfl
 refine(ys e)▸(ys this)▸?_;simp
theorem xQ{k:Nat}(O:l.length<=100000)(q:Q (.d (.seq (l.take k))) σ):Slc C A f (.d (.seq l)) none (some (k:Int)) σ Q:=λρ F s o a Z vu x r I pl J=>by
 have r:=r.dv;refine r.H9 λN W B=>?_
 rename_i ax V vs
 refine aL W.weak λS u=>aP u λn U=>?_;have g:=x.H.HC _ _ N;have z:s.heap.IsList ax vs.toArray:=bD V g S ⟨n,U⟩;refine bE ("list") _ list_getitem_lookup z.typeIs (wpAny_getItem_list_slice z I pl J .none (by simp) ?_<|by refine(ys List.size_toArray)▸(ys B.length)▸?_;exact Nat.le_trans O<|by decide);rw[oC];exact aS.newList (tk:=s.toks) (n:=0) x (λb o e=>Heap.get?_push_of_some _ e) (aZ _) (Heap.get?_push_size _ rfl) (B.take k) q
theorem wb{b:Array UInt8}{lo hi:Option Int}(B:b.size<=100000)(q:Q (.d (.bytes (KBy.picked b lo hi))) σ):Slc C A f (.d (.bytes b)) lo hi σ Q:=λρ F s o a J N x r u pl z=>by
 have r:=r.dv;refine r.H3 λt=>?_;exact⟨"bytes",_,FB.slot_bytes_getitem.lookup,typeIs_bytes _ _ _,getItem_meets (typeIs_bytes _ _ _) (by decide) FB.slot_bytes_getitem FB.entry_bytes_getitem (FB.args_bytes_getitem_2 _ _) (KBc.meets_slice2 b t _ pl z)
  ⟨u,Nat.le_trans (KBc.size_picked_le b lo hi) (by refine(ys sizeLine_eq)▸?_;exact bw [_] [] 0xc35022800018000003280001 ft B),λI k=>aS.same x<|aD _ (.d<|.bytes _ _) q⟩⟩
theorem AY{b c:Array UInt8}(I:b.size+c.size<=100000)(q:Q (.d (.bytes (b++c))) σ):cO C A f (binaryOp .Add) (.d (.bytes b)) (.d (.bytes c)) σ Q:=λρ F s u v x z B=>by
 have z:=z.dv;have B:=B.dv;exact z.H3 λt=>B.H3 λJ=>KBy.add_bytes (bw [_,_] [] 0xc3502284006006000000ca1001801 ft I) λN k=>aS.same x<|aD _ (.d<|.bytes _ _) q
theorem At.IE(x:At C f ρ F σ h){l:List (Addr×Obj)}(u:∀p∈l,h.get? p.1=some p.2/\¬bY ρ σ.get p.1/\¬aV f p.1):At C f ρ (b9 F l) σ h:=
 x.more (λU U e=>e) rfl (λU e=>e) (λU e=>e) (λU U e=>e) u
noncomputable def Fs(C:Cx):Prop:=∃(mg:Str->Option Value) (bm:Addr) (ob:Obj),C.h₀.Ns mainGlobals mg/\mg "__builtins__"=some (.ref bm)/\bm≠builtinsNs/\bm≠mainGlobals/\C.h₀.get? bm=some ob/\ob.cls= .type "module"/\ob.dict=some builtinsNs/\ob.data= .plain
theorem Ds:∀{C A f σ ps c P params body scope pos cl Q}(G:Gd C)(GL:Fs C)(W:σ.get (.sk 22)=some (.Hb P (tabObj ps)))(I:f.env.code= .ref c)(hC:codeHdIn C.K c P=true)(ht:TriplesOk ps.toList)(af:codeAmong pos ps.toList=none)(ad:closureFor scope f.env=pure cl)(O:defaultsOf params f.env=([],[]))(q:∀c':Addr,Q (.d (.lam params body scope (f.env.qual++"<lambda>") cl)) (σ.put (.sk 22) (.Hb P (tabObj (ps++#[rawInt pos.line,rawInt pos.col,.ref c']))))),Ev C A f (.Lambda params body scope pos) σ Q:=by
 intro C A f σ ps c P params body scope pos cl Q G GL W I hC ht af ad O q;exact λρ F s a=>by
  refine aG (a.H.obj _ _ W) λpp B ae=>aL ae λag hP=>aL ag λap ao=>?_;clear ae ag;subst ao;have own:bY ρ σ.get pp.1:=bH _ _ _ W B<|.inl rfl
  refine FX GL λmg bm ob b0 b1 b2 bG b3 b4 b5 b6=>?_;have am:=b0.keeps a.Hv;have S:∀b o,C.h₀.get? b=some o->b≠pp.1:=λb o e e2=>a.HO own o<|e2▸a.H.base b o e
  have an:mainGlobals≠pp.1:=by
   exact vf b0 λo es ep e U=>S _ _ e
  have aj:bm≠pp.1:=S _ _ b3;have ak:CodeHd s.heap c pp.1:=codeHd_of_K (G.at a) hC;refine kla_eval O<|kla_makeFunction (mg:=mg) ad a.R.glob am I ak hP ht af an (Gm bm ob b1 b2 bG aj (a.Hv _ _ b3) b4 b5 b6) λc' ctv h' tk hx ab ah aa al=>?_
  refine nY aa λc2 oc vs t e2 ai hd hv=>?_;have V:=PySem.Value.ref.inj e2;clear e2;subst V;generalize IB:kla_obj "<lambda>" (f.env.qual++"<lambda>") params body scope cl ((mg "__name__").getD .none) c' ctv=u;have hk:∀b o,b≠pp.1->s.heap.get? b=some o->(h'.push u).get? b=some o:=λb o Z e=>Heap.get?_push_of_some _<|hx b o Z e
  have z:∀b,s.heap.objs.size<=b->s.heap.get? b=none:=λb Z=>by
   cases e:s.heap.get? b with
   |none=>rfl
   |some o=>exact absurd (Heap.lt_size e)<|Nat.not_lt.mpr Z
  have a1:At C f ρ F (σ.put (.sk 22)<|.Hb pp.1<|tabObj<|ps++#[rawInt pos.line,rawInt pos.col,.ref c']) (h'.push u):=a.upd W B (.inl rfl) hk ⟨⟨ap,rfl⟩,Heap.get?_push_of_some _ al⟩;have J:bx (bv f) ρ F σ.get s.heap ρ F (σ.put (.sk 22)<|.Hb pp.1<|tabObj<|ps++#[rawInt pos.line,rawInt pos.col,.ref c']).get (h'.push u):=.upd W B (.inl rfl) hk;have N:∀b,s.heap.objs.size<=b->¬bY ρ (σ.put (.sk 22)<|.Hb pp.1<|tabObj<|ps++#[rawInt pos.line,rawInt pos.col,.ref c']).get b/\¬aV f b:=λb Z=>by
   refine⟨λq=>?_,λq=>?_⟩
   ·refine aP (a.H.HJ<|(gp W).mp q) λo e=>?_;rw[z b Z] at e;exact bU e
   ·refine aP (a.R.has q) λo e=>?_;rw[z b Z] at e;exact bU e
  have hl:∀p∈[(h'.objs.size,u),(c',oc)],(h'.push u).get? p.1=some p.2/\s.heap.objs.size<=p.1:=λp B=>by
   rcases List.mem_cons.mp B with rfl|B
   ·exact⟨Heap.get?_push_size _ (by refine IB▸?_;rfl),Nat.le_trans ab<|Nat.le_of_lt ah⟩
   ·cases List.mem_singleton.mp B;exact⟨Heap.get?_push_of_some _ ai,ab⟩
  refine bS (h'.push u) tk ρ (b9 F [(h'.objs.size,u),(c',oc)]) _ rfl (a1.IE<|λp B=>⟨(hl p B).1,(N p.1 (hl p B).2).1,(N p.1 (hl p B).2).2⟩) ⟨J.HD,b9.old,J.keep,?_⟩<|aD _ (.d<|.lam (c:=c') (oc:=oc) (vs:=vs) (t:=t) (pm:=(mg "__name__").getD .none) (ctv:=ctv) ?_ (.inr<|.tail _<|.head _) hd hv)<|q c'
  ·rintro b (e|⟨o,e|e⟩)
   ·exact J.fresh b<|.inl e
   ·exact J.fresh b<|.inr ⟨o,e⟩
   ·exact .inr<|.inr<|z b (hl _ e).2
  ·refine(ys IB)▸?_;exact .inr<|.head _
end
end
section
section
variable {prog:Program} {w:World} {A:Around} {E:Value->Shared->Prop} {s:Shared}
theorem vo{Q:Int->Shared->Prop}(h:Q (reduceHash 0xFCA86420) {s with toks:=s.toks+1}):wpAny (model prog w) A (pyHash .none) Q E s:=by
 show wpAny _ _ (pyHashByItsType .none) _ _ _;refine pyHash_slot (T:="NoneType") rfl PySem.F.slot_NoneType_hash PySem.F.entry_NoneType_hash (PySem.F.args_NoneType_hash_1 _) (beq_builtin_none _) (.inl rfl)<|wpAny_bind<|wpAny_of_eq (a:=(Value.none,([]:List Value))) rfl ?_
 show wpAny _ _ (mkInt 0xFCA86420>>=λi=>ret i) _ _ _;exact wpAny_bind<|wpAny_mkInt<|wpAny_pure<|dk _ _ rfl h
noncomputable def nz(h:Heap)(a:Addr)(x:Str)(k:Option Int):Prop:=∃(o:Obj) (t:Tok) (v:Value) (n:Nat),h.get? a=some o/\o.cls= .type "tuple"/\o.data= .seq #[.str x t,v] n/\match k with|none=>v= .none|some i=>∃u,v= .int i u
noncomputable def uN:Option Int->Int
 |none=>reduceHash 0xFCA86420
 |some i=>hashInt i
noncomputable def uc(w:World)(x:Str)(k:Option Int):Int:=reduceHash (Builtin.Tuple.tupleHashOf [hashStr w x,uN k])
theorem nz.typeIs{x:Str}{k:Option Int}(h:nz s.heap a x k):s.TypeIs (.ref a) "tuple":=let⟨o,t,v,n,e,c,_⟩:=h;(aD o e c)
theorem xq{k:Option Int}{v:Value}(hv:match k with|none=>v= .none|some i=>∃u,v= .int i u){Q:Int->Shared->Prop}(h:Q (uN k) {s with toks:=s.toks+1}):wpAny (model prog w) A (pyHash v) Q E s:=by
 cases k with
 | none=>
  have hv:v= .none:=hv;subst hv;exact vo h
 |some i=>refine aP hv λu re1=>?_;try clear hv;subst re1;exact wpAny_pyHash_int h
theorem zq:∀{prog w A E s a x k Q}(hu:A.units<cLine)(hk:nz s.heap a x k)(h:Q (uc w x k) {s with toks:=s.toks+3}),wpAny (model prog w) A (pyHash (.ref a)) Q E s:=by
 intro prog w A E s a x k Q hu hk h;have hT:=hk.typeIs;refine nY hk λo t v n ho U hd hv=>?_;show wpAny _ _ (pyHashByItsType<|.ref a) _ _ _;refine pyHash_slot hT PySem.F.slot_tuple_hash PySem.F.entry_tuple_hash (PySem.F.args_tuple_hash_1 _) (beq_builtin_none _) (.inr hu) ?_;show wpAny _ _ (Builtin.Tuple.tupleItemsOf (.ref a)>>=_) _ _ s;refine wpAny_bind<|wpAny_tupleItemsOf ho hd ?_
 refine wpAny_bind ?_;rw[<-Array.forIn_toList];show wpAny _ _ (forIn [Value.str x t,v] _ _) _ _ _;rw[List.forIn_cons];refine wpAny_bind<|wpAny_bind<|wpAny_pyHash_str<|wpAny_pure ?_
 dsimp only;rw[List.forIn_cons];refine wpAny_bind<|wpAny_bind<|xq hv<|wpAny_pure ?_
 dsimp only;rw[List.forIn_nil];refine wpAny_pure ?_;show wpAny _ _ (mkInt (Builtin.Tuple.tupleHashOf _)>>=λi=>ret i) _ _ _;exact wpAny_bind<|wpAny_mkInt<|wpAny_pure<|dk _ _ rfl h
theorem vL:∀{prog w A E s a x k Q}(hk:nz s.heap a x k)(h:Q true s),wpAny (model prog w) A (eqIsQuiet 8 (.ref a)) Q E s:=by
 intro prog w A E s a x k Q hk h;have W:=hk.typeIs;refine nY hk λo t v n ho U Z J=>?_;have S:carriedByValue v=true:=by
  cases k with
  |none=>have J:v= .none:=J;clear Z;subst J;rfl
  |some i=>refine aP J λu B=>?_;try clear J;clear Z;subst B;rfl
 unfold eqIsQuiet;refine wpAny_bind<|wpAny_specialOf W PySem.F.slot_tuple_eq.lookup ?_
 show wpAny _ _ (isInstance (.ref a) (.type "tuple")>>=_) _ _ s;refine wpAny_bind<|wpAny_isInstance W isSubtype_tuple_tuple ?_
 simp only[Bool.not_true,Bool.false_eq_true,if_false];refine wpAny_bind<|wpAny_seqItems ho Z ?_
 refine wpAny_bind ?_;show wpAny _ _ (forIn (#[Value.str x t,v]:Array Value) _ _) _ _ s;rw[<-Array.forIn_toList];refine wpAny_forIn_list _ (λrest r s'=>r.1=none/\s'=s/\∀v∈rest,carriedByValue v=true) _ ?_ ?_ _ _ ⟨rfl,rfl,λu O=>?_⟩
 ·intro v rest r s' I;refine dK I λV B z=>?_;try clear I;clear hk h W ho;subst B;refine(ys<|eqIsQuiet_byValue _<|z v List.mem_cons_self)▸?_;refine wpAny_bind<|wpAny_pure ?_
  simp only[Bool.not_true,Bool.false_eq_true,if_false];exact wpAny_pure ⟨rfl,rfl,λu N=>z u<|List.mem_cons_of_mem _ N⟩
 ·rintro⟨r1,r2⟩ s' ⟨V,rfl,_⟩;simp only at V;subst V;exact wpAny_pure h
 ·rcases List.mem_cons.mp O with rfl|O
  ·rfl
  ·refine(ys<|List.mem_singleton.mp O)▸?_;exact S
noncomputable def lx(prog:Program)(w:World)(a0:Addr)(x:Str)(k:Option Int):HeapKind prog w Unit where
 is:=λh U a=>a=a0/\nz h a x k
 hash:=λU=>uc w x k
 draws:=λU=>3
 room:=λA=>A.units<cLine
 inj:=λU U=>rfl
 keeps:=λ{h h' _ a d o es ep} hx ho hd hs=>by
  refine aL hx λre4 rn5=>?_;try clear hx;subst re4;refine nY rn5 λo' t v n e c e2 hv=>?_
  refine⟨rfl,qw o' t v n (hs.extBut a o' (λq=>?_) e) c e2 hv⟩
  rw[q,ho] at e;(have re0_0:=oi e;clear e;clear c;subst re0_0);rw[hd] at e2;exact nc PySem.Data.ctorIdx e2 rfl
 pyHash:=λhu hk h=>zq hu hk.2 h
 eqBool:=λ{A E s _ _ a b Q} hu hx hy h=>by
  refine aL hx λre4 U=>?_;try clear hx;subst re4
  refine aL hy λre5 U=>?_;try clear hy;subst re5
  unfold eqBool
  try with_reducible refine wpAny_holding ?_
  show wpAny _ _ (if(Value.ref b==Value.ref b)=true then _ else _) Q E s
  rw[if_pos (beq_self_eq_true _)]
  exact wpAny_bind (wpAny_rule (wpAny_pure (by simpa using h)))
 quiet:=λhk h=>vL hk.2 h
end
end
section
section
variable {C:Cx} {A:Around} {f:Fc} {σ:aC}
theorem At.IV:∀{C f σ ρ F h h' k o o' p}(x:At C f ρ F σ h)(N:σ.get k=some o)(hp:ρ k=some p)(hk:∀b I,¬(b=p.1\/b=p.2)->h.get? b=some I->h'.get? b=some I)(r:c9 C ρ F h' p o'),At C f ρ F (σ.put k o') h':=by
 exists ce λC=>dO λf=>dR λσ=>aA λρ=>aA λF=>aA λh=>aA λh'=>Au λk=>yG λo=>yG λo'=>aA λp=>aO _;intros;have B:∀a,(a=p.1\/a=p.2)->bY ρ σ.get a:=λa ha=>bH k o p N hp ha;have key:∀u z,(σ.put k o').get u=some z->∃o2,σ.get u=some o2:=λu z e=>by
  by_cases q:u=k
  ·exact⟨o,q▸N⟩
  ·rw[d8 q] at e;exact⟨z,e⟩
 refine⟨⟨x.H.base,λb I e=>hk b I (λq=>x.HO (B b q) I e)<|x.H.HC b I e,?_,?_,?_⟩,?_,λi hi=>x.fin i (by rw[uD] at hi;exact hi),λn hn=>x.HN n<|rO hn⟩
 ·intro u z e
  by_cases q:u=k
  ·clear key;subst q;rw[gA N] at e;(have J:=oi e;clear e;subst J);exact aD p hp r
  ·rw[d8 q] at e;exact aG (x.H.obj u z e) λZ O r'=>aD Z O<|r'.mono (λU U e=>e) (λU U e=>e) λb W I S=>hk b I (λq2=>q<|x.H.inj u k z o Z p b e N O hp W q2) S
 ·intro u z Z b O S e3;exact aP (key u z O) λo2 e4=>x.H.sep u o2 Z b e4 S e3
 ·intro k1 k2 z o2 p1 p2 b O S e3 e4 e5 e6;exact aP (key k1 z O) λo3 e7=>aP (key k2 o2 S) λo4 e8=>x.H.inj k1 k2 o3 o4 p1 p2 b e7 e8 e3 e4 e5 e6
 ·have R:=x.R;have V:∀b,aV f b->¬(b=p.1\/b=p.2):=λb W q=>R.Hj b W<|B b q
  refine{R with HF:=?_,Hj:=λb W ho=>R.Hj b W ((gp N).mp ho)};refine bM R.HF λm cm hn hc hs=>bE m cm (hn.at' λo e=>hk _ o (V _<|.inl rfl) e) (λn c e=>by refine aG (hc n c e) λo ho hd=>?_;exact aD o (hk c o (V c<|.inr<|dk n c e rfl) ho) hd) ?_;refine(ys tD)▸?_;exact hs
theorem bx.IV{X:Addr->Prop}{o':PO}(z:σ.get k=some o)(B:ρ k=some p)
  (hk:∀b u,¬(b=p.1\/b=p.2)->h.get? b=some u->h'.get? b=some u):bx X ρ F σ.get h ρ F (σ.put k o').get h':=
 ⟨λU U e=>e,λU U e=>e,λb u e n1 n2=>hk b u (λq=>n1<|bH k o p z B q) e,λb e=>by
  rcases e with e|e
  ·exact .inl<|(gp z).mp e
  ·exact .inr<|.inl e⟩
theorem gR(h:aC.get ⟨σ.ls,σ.G8.set j none,σ.mem⟩ k=some o):σ.get k=some o/\k≠ .tm j:=by
 cases k with
 |sk n=>exact⟨h,λe=>by exact nc Ky.ctorIdx e rfl⟩
 | tm i=>
  simp only[aC.get] at h
  by_cases q:j=i
  ·subst q;rw[List.getElem?_set] at h;simp at h
   split at h<;>exact bU h
  ·rw[List.getElem?_set_ne q] at h;exact⟨h,λe=>by(have u:=Mine.Ky.tm.inj e;clear e;subst u);exact q rfl⟩
theorem qD(h:bY ρ (aC.get ⟨σ.ls,σ.G8.set j none,σ.mem⟩) a):bY ρ σ.get a:=by
 exact ca h λk o p z u B=>bH k o p ((gR z).1) u B
theorem At.kill:∀{C f σ ρ F h h' j o p}(x:At C f ρ F σ h)(Z:σ.get (.tm j)=some o)(hp:ρ (.tm j)=some p)(hk:∀b z,¬(b=p.1\/b=p.2)->h.get? b=some z->h'.get? b=some z),At C f ρ F ⟨σ.ls,σ.G8.set j none,σ.mem⟩ h':=by
 intro C f σ ρ F h h' j o p x Z hp hk;have u:∀a,(a=p.1\/a=p.2)->bY ρ σ.get a:=λa ha=>bH _ o p Z hp ha;refine⟨⟨x.H.base,λb z e=>hk b z (λq=>x.HO (u b q) z e)<|x.H.HC b z e,?_,?_,?_⟩,?_,λi hi=>x.fin i (by rw[List.length_set] at hi;exact hi),x.HN⟩
 ·intro W J e;exact aL (gR e) λB ne=>aG (x.H.obj W J B) λV I r'=>aD V I<|r'.mono (λU U e=>e) (λU U e=>e) λb O z S=>hk b z (λq2=>ne<|x.H.inj W _ J o V p b B Z I hp O q2) S
 ·intro W J V b B I S;exact x.H.sep W J V b (gR B).1 I S
 ·intro k1 k2 J o2 p1 p2 b B I S e4 e5 e6;exact x.H.inj k1 k2 J o2 p1 p2 b (gR B).1 (gR I).1 S e4 e5 e6
 ·have R:=x.R;have N:∀b,aV f b->¬(b=p.1\/b=p.2):=λb O q=>R.Hj b O<|u b q
  refine{R with HF:=?_,Hj:=λb O ho=>R.Hj b O (qD ho)};exact bM R.HF λm cm hn hc hs=>bE m cm (hn.at' λo e=>hk _ o (N _<|.inl rfl) e) (λn c e=>by exact aG (hc n c e) λo ho hd=>aD o (hk c o (N c<|.inr<|dk n c e rfl) ho) hd) hs
theorem bx.kill{X:Addr->Prop}(z:σ.get (.tm j)=some o)(B:ρ (.tm j)=some p)(hk:∀b u,¬(b=p.1\/b=p.2)->h.get? b=some u->h'.get? b=some u):bx X ρ F σ.get h ρ F (aC.get ⟨σ.ls,σ.G8.set j none,σ.mem⟩) h':=
 ⟨λU U e=>e,λU U e=>e,λb u e n1 n2=>hk b u (λq=>n1<|bH _ o p z B q) e,λb e=>by
  rcases e with e|e
  ·exact .inl<|qD e
  ·exact .inr<|.inl e⟩
theorem pk(q:Q (.at (.tm σ.G8.length)) ⟨σ.ls,σ.G8++[some (.enum l 0)],σ.mem⟩):Cl C A f (.type "enumerate") [.d (.seq l)] σ Q:=λρ F s vs a r=>by
 refine r.one λu=>?_;have u:=u.dv;refine u.H9 λI J Z=>?_
 rename_i ax o vs
 refine aL J.weak λO B=>aP B λn S=>call_enumerate_list (items:=vs.toArray) (bD o (a.H.HC _ _ I) O ⟨n,S⟩) λh' N z hz hk=>?_;have W:s.heap.get? (s.heap.objs.size+1)=none:=by
  cases e:s.heap.get? (s.heap.objs.size+1) with
  |none=>rfl
  |some o=>exact absurd (Heap.lt_size e)<|Nat.not_lt.mpr<|Nat.le_succ _
 exact aS.IK (tk:=s.toks) (pp:=(s.heap.objs.size+1,s.heap.objs.size)) (po:=.enum l 0) a hk (λb V=>by rcases V with rfl|rfl;exact W;exact aZ _) (⟨Nat.succ_ne_self _,yH ax _ o vs N z I J Z⟩) λρ' U=>aD _ (.at (p:=(s.heap.objs.size+1,s.heap.objs.size)) U) q
theorem At.enum(a:At C f ρ F σ h){i:Nat}(z:σ.get k=some (.enum l i))(e:ρ k=some p):p.1≠p.2/\∃ax u o vs,IsEnum h p.1 p.2 i u/\h.IsListIter p.2 ax i/\F ax o/\gd o vs/\bA C F vs l:=by
 exact a.H.here z e
theorem nW:∀{C A f σ k l i d p ρ F s Q E}(a:At C f ρ F σ s.heap)(O:σ.get k=some (.enum l i))(e:ρ k=some p)(hd:l[i]? =some d)(h:∀(T:Addr)(s1:Shared),(∀(I:List Expr)(n:Nat)(pos:Pos)(Q':Unit->Shared->Prop)(E':Value->Shared->Prop),(∀J F',At C f ρ F' (σ.put k (.enum l (i+1))) J->bx (bv f) ρ F σ.get s.heap ρ F' (σ.put k (.enum l (i+1))).get J->bz C F' (.ref T) (.tup [.int i,d])->Q' () {s1 with heap:=J})->
   wpAny (model C.prog C.w) A (letOwnedTupleGo (.Tuple I n pos) (.ref p.1) (.ref T)) Q' E' s1)->(∃h1 tk,s1=(wh s h1 tk))->Q (some (.ref T)) s1),wpAny (model C.prog C.w) A (pyNext (.ref p.1)) Q E s:=by
 exists ce λC=>cx λA=>dO λf=>dR λσ=>Au λk=>aA λl=>aA λi=>zR λd=>aA λp=>aA λρ=>aA λF=>eu λs=>aA λQ=>aA λE=>aO _;intros;refine aL (a.enum O e) λN ag=>Ck ag λax an o vs he ai hF hL hA=>aL hL.weak λi1 ad=>aP ad λn i3=>?_;have ak:=hA.length;have hi:i<l.length:=(List.getElem?_eq_some_iff.mp hd).1;refine aG (hA.get' hd) λv hv rv=>?_;have hl:s.heap.IsList ax vs.toArray:=bD o (a.H.HC _ _ hF) i1 ⟨n,i3⟩;have own:∀b,(b=p.1\/b=p.2)->bY ρ σ.get b:=λb W=>bH k _ p O e W;have ao:ax≠p.1:=λq=>a.HO (own p.1<|.inl rfl) o<|q▸hF
 have am:ax≠p.2:=λq=>a.HO (own p.2<|.inr rfl) o<|q▸hF
 refine wpAny_pyNext_enum_item he ai hl (x:=v) (by simpa using hv) N λh1 ah Z ae al ab=>h s.heap.objs.size _ (λI n pos Q' E' hq=>?_)<|DU h1 (s.toks+1) rfl
 refine wpAny_letOwnedTupleGo_enum ah λh2 aa z=>?_
 replace z:Heap.SameBut p.1 h1 h2:=z
 have aj:p.1<s.heap.objs.size:=Heap.lt_size he;have af:h2.get? s.heap.objs.size=some (dg [.int i s.toks,v] 0):=z.extBut _ _ (Nat.ne_of_gt aj) ae;have hk:∀b ob,¬(b=p.1\/b=p.2)->s.heap.get? b=some ob->h2.get? b=some ob:=λb ob W u=>z.extBut b ob (λq=>W<|.inl q)<|ab b ob (λq=>W<|.inl q) (λq=>W<|.inr q) u
 have U:h2.IsListIter p.2 ax (i+1):=Z.extBut z.extBut<|Ne.symm N
 have V:IsEnum h2 p.1 p.2 ((i+1:Nat):Int) v:=by
  have:((i+1:Nat):Int)=(i:Int)+1:=by push_cast;rfl
  refine(ys this)▸?_;exact aa
 have a2:At C f ρ F (σ.put k<|.enum l<|i+1) h2:=a.IV O e hk<|⟨N,yH ax v o vs V U hF hL hA⟩
 have B:bx (bv f) ρ F σ.get s.heap ρ F (σ.put k<|.enum l<|i+1).get h2:=.IV O e hk;have S:¬bY ρ (σ.put k<|.enum l<|i+1).get s.heap.objs.size/\¬aV f s.heap.objs.size:=by
  refine⟨λq=>?_,λq=>?_⟩
  ·refine aP (a.H.HJ<|(gp O).mp q) λob u=>?_;rw[aZ] at u;exact bU u
  ·refine aP (a.R.has q) λob u=>?_;rw[aZ] at u;exact bU u
 have a3:=a2.IE (l:=[(s.heap.objs.size,dg [.int i s.toks,v] 0)]) λq hq=>by refine(ys<|List.mem_singleton.mp hq)▸?_;exact⟨af,S⟩
 refine hq h2 _ a3 ⟨B.HD,b9.old,B.keep,λb u=>?_⟩<|.tup (n:=0) (.inr<|.head _)<|.cons (.int _ _)<|.cons (rv.mono b9.old) .nil
 rcases u with u|⟨ob,u|u⟩
 ·exact B.fresh b<|.inl u
 ·exact B.fresh b<|.inr ⟨ob,u⟩
 ·cases List.mem_singleton.mp u;exact .inr<|.inr<|aZ _
theorem nM(hh:A.handled=none)(a:At C f ρ F σ s.heap)(hg:σ.get (.tm j)=some (.enum l l.length))(e:ρ (.tm j)=some p){Q:Option Value->Shared->Prop}
  (h:∀h',At C f ρ F ⟨σ.ls,σ.G8.set j none,σ.mem⟩ h'->bx (bv f) ρ F σ.get s.heap ρ F (aC.get ⟨σ.ls,σ.G8.set j none,σ.mem⟩) h'->Q none {s with heap:=h'}):wpAny (model C.prog C.w) A (pyNext (.ref p.1)) Q E s:=by
 refine aL (a.enum hg e) λIy rn4=>Ck rn4 λax old o vs he hit hF hL hA=>aL hL.weak λi1 rn5=>aP rn5 λn i3=>?_;have hlen:=hA.length;have hl:s.heap.IsList ax vs.toArray:=bD o (a.H.HC _ _ hF) i1 ⟨n,i3⟩;refine wpAny_pyNext_enum_end hh he hit hl (by simp[hlen]) λh' hx=>?_;have hk:∀b ob,¬(b=p.1\/b=p.2)->s.heap.get? b=some ob->h'.get? b=some ob:=λb ob hb eb=>hx b ob (λq=>hb<|.inr q) eb;exact h h' (a.kill hg e hk)<|.kill hg e hk
noncomputable def CE(j:Nat)(St:Nat->aC->Prop)(l:List DV)(i:Nat)(Q:Fl->aC->Prop):Fl->aC->Prop:=λfl σ2=>match fl with
 | .next=>St (i+1) σ2/\σ2.get (.tm j)=some (.enum l (i+1))
 | .cont=>St (i+1) σ2/\σ2.get (.tm j)=some (.enum l (i+1))
 | .brk=>False
 | .ret v=>False
theorem zg(hh:A.handled=none)(j:Nat)(l:List DV)(St:Nat->aC->Prop){elts:List Expr}{n:Nat}{tp:Pos}{iter:Expr}{body:List Stmt}{pos:Pos}{Q:Fl->aC->Prop}{p:Addr×Addr}{ρ ρ1:Pl}{F F1:Fz}{σ1:aC}{g₀:bR}{s:Shared}{h1:Heap}{tk1:Nat}
  (L1:LS C f (bv f) [] ρ F g₀ s.heap h1 ρ1 F1 σ1 h1) (hp:ρ1 (.tm j)=some p) (hg:σ1.get (.tm j)=some (.enum l 0)) (hst:St 0 σ1)
  (hcons:∀i d σ,l[i]? =some d->St i σ->σ.get (.tm j)=some (.enum l i)->As C A f (λv=>assign (.Tuple elts n tp) f.env v) (.d (.tup [.int i,d])) (σ.put (.tm j) (.enum l (i+1))) λσ1=>fA C A f body σ1 (CE j St l i Q))
  {R:Result->Shared->Prop} (hR:∀h3 tk3 ρ3 F3 σ3 hb,LS C f (bv f) [] ρ F g₀ s.heap hb ρ3 F3 ⟨σ3.ls,σ3.G8.set j none,σ3.mem⟩ h3->St l.length σ3->R (.ok .next) (wh s h3 tk3)):
  codeAny (model C.prog C.w) A (.forLoop (.Tuple elts n tp) (.ref p.1) body [] f.env) R (wh s h1 tk1):=by
 revert hh L1 hp hg hst hcons hR;revert C A f j l St elts n tp body Q p ρ ρ1 F F1 σ1 g₀ s h1 tk1 R;exists ce λC=>cx λA=>dO λf=>aA λj=>aA λl=>aA λSt=>aA λelts=>aA λn=>aA λtp=>aA λbody=>aA λQ=>aA λp=>aA λρ=>aA λρ1=>aA λF=>aA λF1=>dR λσ1=>aA λg₀=>eu λs=>aA λh1=>aA λtk1=>aA λR=>aO _;intro C A f j l St elts n tp body Q p ρ ρ1 F F1 σ1 g₀ s h1 tk1 R hh L1 hp hg hst hcons hR;refine codeAny_forLoop_any (pM C f (bv f) [] ρ F g₀ s (λU U=>True) l.length λi ρ2 σ2=>ρ2 (.tm j)=some p/\σ2.get (.tm j)=some (.enum l i)/\St i σ2) (λk s' hk=>?_) (l.length+1)
  (mI 0 h1 tk1 ρ1 F1 σ1 rfl rfl ⟨Nat.zero_le _,trivial,L1,hp,hg,hst⟩)
 refine y9 hk λi h2 tk2 ρ2 F2 σ2 re6 re7 rn8=>?_;try clear hk;subst re6;subst re7;obtain⟨hi,_,L2,hp2,hg2,hst2⟩:=rn8;revert hi L2 hp2 hg2 hst2;revert i h2 tk2 ρ2 F2 σ2;exists aA λi=>aA λh2=>aA λtk2=>aA λρ2=>aA λF2=>dR λσ2=>aO _;intro i h2 tk2 ρ2 F2 σ2 hi L2 hp2 hg2 hst2;have nx:∀{ρ1 ρ2:Pl}{F1 F2:Fz}{σ1 σ2:aC}{h1 h2 hb:Heap},LS C f (bv f) [] ρ F g₀ s.heap hb ρ1 F1 σ1 h1->At C f ρ2 F2 σ2 h2->bx (bv f) ρ1 F1 σ1.get h1 ρ2 F2 σ2.get h2->LS C f (bv f) [] ρ F g₀ s.heap hb ρ2 F2 σ2 h2:=λL a st=>L.next (λU=>.inl) (λU=>bv.all) (λU hb=>nomatch hb) a st
 by_cases hlt:i<l.length
 ·have hd:l[i]? =some l[i]:=List.getElem?_eq_getElem hlt;refine nW (s:=(wh s h2 tk2)) L2.a hg2 hp2 hd λT s1 hgo hs1=>l4 hs1 λh3 tk3 re3=>?_;try clear hs1;subst re3;refine hgo _ _ _ _ _ λh4 F4 a4 st4 r4=>(hcons i l[i] σ2 hd hst2 hg2 ρ2 F4 (wh s h4 tk3) (.ref T) a4<|.d r4).use λU h5 tk5 ρ5 F5 σ5 a5 st5 hb=>(hb ρ5 F5 (wh s h5 tk5) a5).go λfl h6 tk6 ρ6 F6 σ6 z a6 st6 rz hz=>?_;have L6:=nx (nx (nx L2 a4 st4) a5 st5) a6 st6;have hp6:=st6.HD _ _<|st5.HD _ _ hp2
  revert hz;exact rz.view (λq=>pM.again L6 hlt trivial ⟨hp6,q.2,q.1⟩) (λq=>q.elim) (λq=>pM.again L6 hlt trivial ⟨hp6,q.2,q.1⟩) λU U U q=>q.elim
 ·have e:i=l.length:=Nat.le_antisymm hi<|Nat.le_of_not_lt hlt
  clear hi hlt;subst e;exact nM (s:=(wh s h2 tk2)) hh L2.a hg2 hp2 λh3 a3 st3=>wpAny_execs_nil<|hR h3 tk2 ρ2 F2 σ2 _ (nx L2 a3 st3) hst2
theorem qV (hh : A.handled = none) (j : Nat) (l : List DV) (St : Nat -> aC -> Prop) {elts : List Expr} {n : Nat} {tp : Pos} {iter : Expr} {body : List Stmt} {pos : Pos} {Q : Fl -> aC -> Prop}
    (h : Ev C A f iter σ λx σ1 => x = .at (.tm j) /\ σ1.get (.tm j) = some (.enum l 0) /\ St 0 σ1) (hnil : ∀ σ, St l.length σ -> Q .next ⟨σ.ls, σ.G8.set j none, σ.mem⟩)
    (hcons : ∀ i d σ, l[i]? = some d -> St i σ -> σ.get (.tm j) = some (.enum l i) -> As C A f (λv => assign (.Tuple elts n tp) f.env v) (.d (.tup [.int i, d])) (σ.put (.tm j) (.enum l (i + 1))) λσ1 => fA C A f body σ1 (CE j St l i Q))
    (hs : ∀ x, foldedSetIterable iter f.env x = pure x) : Ex C A f (.For (.Tuple elts n tp) iter body [] pos) σ Q := by
  revert hh h hnil hcons hs; revert C A f σ j l St elts n tp iter body pos Q; show ∀ C A f σ j l St elts n tp iter body pos Q, _; exists ce λC => cx λA => dO λf => dR λσ => aA λj => aA λl => aA λSt => aA λelts => aA λn => aA λtp => aA λiter => aA λbody => aA λpos => aA λQ => aO _, h _ _ _ _ _ _ _ _ _ _ _ _ _ _; intro C A f σ j l St elts n tp iter body pos Q hh h hnil hcons hs
  exact λρ F s a => by
    revert a; revert ρ F s; show ∀ ρ F s, _; exists aA λρ => aA λF => eu λs => aO _, h _ _ _; intro ρ F s a
    refine wpAny_For ((h ρ F s a).go λv h1 tk1 ρ1 F1 σ1 x a1 st1 rx hr => ?_) hs
    revert a1 st1 rx hr; revert v h1 tk1 ρ1 F1 σ1 x; show ∀ v h1 tk1 ρ1 F1 σ1 x, _; exists aA λv => aA λh1 => aA λtk1 => aA λρ1 => aA λF1 => dR λσ1 => oO λx => aO _, h _ _ _ _ _ _ _; intro v h1 tk1 ρ1 F1 σ1 x a1 st1 rx hr
    refine dK hr λre4 hg hst => ?_; try clear hr; subst re4
    refine aG rx.place λp hp re5 => ?_; clear rx; subst re5
    revert hp; revert p; show ∀ p, _; exists aA λp => aO _, h _; intro p hp
    refine aL (a1.enum hg hp) λIy rn9 => ?_; refine u5 rn9 λax old o vs he U => ?_
    revert he U; revert ax old o vs; show ∀ ax old o vs, _; exists aA λax => aA λold => aA λo => aA λvs => aO _, h _ _ _ _; intro ax old o vs he U
    exact wpAny_pyIter_enum he (zg (pos := pos) (iter := iter) hh j l St ⟨a1, st1, λU hb => (nomatch hb), λU hb => (nomatch hb)⟩ hp hg hst hcons λh3 tk3 ρ3 F3 σ3 hb L3 q => bS h3 tk3 ρ3 F3 _ rfl L3.a L3.st (aD .next trivial (hnil σ3 q)))
end
end
section
section
variable {prog:Program} {w:World} {A:Around} {E:Value->Shared->Prop} {s:Shared}
noncomputable def mf(h:Heap)(d:Addr)(es:Array DictEntry)(ep:Nat):Prop:=∃o,h.get? d=some o/\o.ExactDict/\o.data= .dict es ep
theorem mf.grow{d:Addr}{u:Array DictEntry}{ep:Nat}(x:mf h d u ep)(k:∀o,h.get? d=some o->h'.get? d=some o):mf h' d u ep:=let⟨o,e,r⟩:=x;(aD o (k o e) r)
theorem mf.lt{d:Addr}{u:Array DictEntry}{ep:Nat}(x:mf h d u ep):d<h.objs.size:=let⟨o,e,_⟩:=x;Heap.lt_size e
theorem yb:∀{prog w A E s v d es ep Q}(hv:s.heap.IsValuesView v d)(hm:mf s.heap d es ep)(hQ:Q (.ref s.heap.objs.size) {s with heap:=s.heap.push {cls:=.type "dict_valueiterator",data:=.fields #[.ref d,.int 0 0,.int es.size 0,.int ep 0]}}),wpAny (model prog w) A (pyIter (.ref v)) Q E s:=by
 intro prog w A E s v d es ep Q hv hm hQ;refine cj (id hv) λov h1 U h3=>cj (id hm) λo h4 U h5=>wpAny_pyIter_slot hv.typeIs PySem.F.slot_dict_values_iter<|wpAny_call_entry PySem.F.slot_dict_values_iter hv.typeIs PySem.F.entry_dict_values_iter ?_<|PySem.F.args_dict_values_iter_1 _
 unfold Builtin.«dict_values.__iter__»;refine wpAny_bind<|wpAny_pure<|wpAny_bind ?_
 unfold Builtin.Dict_items.dictOf;refine wpAny_bind<|wpAny_field h1 h3 (x:=.ref d) rfl<|wpAny_pure<|wpAny_bind ?_
 unfold Builtin.Dict_items.newIterator;refine wpAny_bind<|wpAny_dictEntries h4 h5<|wpAny_bind<|wpAny_dictEpoch h4 h5 ?_
 have own:Builtin.Dict_items.ownsTuple "dict_valueiterator"=false:=by decide
 simp only[own,Bool.false_eq_true,if_false];refine wpAny_newObj_type<|wpAny_pure<|aD _ rfl<|bE ("dict_valueiterator") _ (aD _ (Heap.get?_push_size _ rfl) rfl) PySem.F.slot_dict_valueiterator_next.lookup ?_
 simpa [rawInt] using hQ
theorem yB:∀{prog w A E s it d i ep es Q}(hit:s.heap.IsValIter it d i es.size ep)(hm:mf s.heap d es ep)(hi:i<es.size)(hQ:∀h',h'.IsValIter it d (i+1) es.size ep->Heap.SameBut it s.heap h'->Q (some es[i].val) {s with heap:=h'}),wpAny (model prog w) A (pyNext (.ref it)) Q E s:=by
 exists aA λprog=>zV λw=>cx λA=>aA λE=>eu λs=>aA λit=>aA λd=>aA λi=>aA λep=>aA λes=>aA λQ=>aO _;intros;refine cj (id hit) λo h1 h2 h3=>?_;refine cj (id hm) λod h4 U h5=>?_;unfold pyNext;refine wpAny_bind (wpAny_attempt (wpAny_callSpecial?_slot (name:=Str.ofString "__next__") hit.typeIs PySem.F.slot_dict_valueiterator_next
  (wpAny_call_entry PySem.F.slot_dict_valueiterator_next hit.typeIs PySem.F.entry_dict_valueiterator_next ?_<|PySem.F.args_dict_valueiterator_next_1 _)))
 refine wpAny_bind<|wpAny_pure<|wpAny_bind<|wpAny_bind ?_
 refine wpAny_bind<|wpAny_typeNameOfWhole_valiter hit.typeIs<|wpAny_pure ?_
 refine wpAny_bind<|wpAny_fieldsOf h1 h3 ?_
 have own:Builtin.Dict_items.ownsTuple "dict_valueiterator"=false:=by decide
 simp only[own,Bool.false_eq_true,if_false];show wpAny _ _ (if(Value.ref d==Value.none)=true then _ else _) _ _ s;rw[if_neg (show¬((Value.ref d==Value.none)=true) from Bool.false_ne_true)];refine wpAny_bind<|wpAny_pure<|wpAny_bind<|wpAny_dictEntries h4 h5 ?_
 rw[if_neg (by simp)];refine wpAny_bind<|wpAny_pure<|wpAny_bind<|wpAny_dictEpoch h4 h5 ?_
 rw[if_neg (by simp)];refine wpAny_pure ?_;simp only[show¬((i:Int)<0) from by exact jO [_] [] 4209793 ft,if_false,Int.toNat_natCast,Array.getElem?_eq_getElem hi];refine wpAny_bind<|wpAny_bind<|wpAny_typeNameOfWhole_valiter hit.typeIs<|wpAny_pure ?_
 refine wpAny_bind<|wpAny_isOneOf_valiter hit.typeIs ?_
 show wpAny _ _ (setField (.ref it) 1 (rawInt<|(i:Int)+1)>>=_) _ _ s;refine wpAny_bind (wpAny_setField h1 h3 (by simp) ?_);have hit':(s.heap.update it<|Obj.mapFields (·.setIfInBounds 1 (rawInt<|(i:Int)+1))).IsValIter it d (i+1) es.size ep:=
  bD _ (Heap.get?_update_self _ h1<|Obj.isFreed_of_fields<|Obj.data_mapFields h3 _) ((Obj.cls_mapFields ..).trans h2) (by rw[Obj.data_mapFields h3];simp[rawInt])
 refine wpAny_bind<|wpAny_holding ?_
 refine wpAny_bind<|wpAny_isOneOf_valiter (s:={s with heap:=s.heap.update it (Obj.mapFields (·.setIfInBounds 1 (rawInt<|(i:Int)+1)))}) hit'.typeIs ?_
 refine wpAny_bind<|wpAny_isOneOf_valiter (s:={s with heap:=s.heap.update it (Obj.mapFields (·.setIfInBounds 1 (rawInt<|(i:Int)+1)))}) hit'.typeIs ?_
 show wpAny _ _ (pure es[i].val) _ _ _;exact wpAny_pure<|wpAny_pure<|aD _ rfl<|wpAny_pure<|hQ _ hit'<|Heap.SameBut.update ..
theorem Bx:∀{prog w A E s it d ep es Q}(hh:A.handled=none)(hit:s.heap.IsValIter it d es.size es.size ep)(hm:mf s.heap d es ep)(hQ:∀h',Heap.ExtBut it s.heap h'->Q none {s with heap:=h'}),wpAny (model prog w) A (pyNext (.ref it)) Q E s:=by
 exists aA λprog=>zV λw=>cx λA=>aA λE=>eu λs=>aA λit=>aA λd=>aA λep=>aA λes=>aA λQ=>aO _;intros;refine cj (id hit) λo h1 h2 h3=>?_;refine cj (id hm) λod h4 U h5=>?_;unfold pyNext;refine wpAny_bind (wpAny_attempt (wpAny_callSpecial?_slot (name:=Str.ofString "__next__") hit.typeIs PySem.F.slot_dict_valueiterator_next
  (wpAny_call_entry PySem.F.slot_dict_valueiterator_next hit.typeIs PySem.F.entry_dict_valueiterator_next ?_<|PySem.F.args_dict_valueiterator_next_1 _)))
 refine wpAny_bind<|wpAny_pure<|wpAny_bind<|wpAny_bind ?_
 refine wpAny_bind<|wpAny_typeNameOfWhole_valiter hit.typeIs<|wpAny_pure ?_
 refine wpAny_bind<|wpAny_fieldsOf h1 h3 ?_
 have own:Builtin.Dict_items.ownsTuple "dict_valueiterator"=false:=by decide
 simp only[own,Bool.false_eq_true,if_false];show wpAny _ _ (if(Value.ref d==Value.none)=true then _ else _) _ _ s;refine(ys<|if_neg<|show¬((Value.ref d==Value.none)=true) from Bool.false_ne_true)▸?_;refine wpAny_bind<|wpAny_pure<|wpAny_bind<|wpAny_dictEntries h4 h5 ?_
 rw[if_neg (by simp)];refine wpAny_bind<|wpAny_pure<|wpAny_bind<|wpAny_dictEpoch h4 h5 ?_
 rw[if_neg (by simp)];refine wpAny_pure ?_;simp only[show¬((es.size:Int)<0) from by exact jO [_] [] 4209793 ft,if_false,Int.toNat_natCast,Array.getElem?_eq_none (Nat.le_refl es.size)];refine wpAny_bind<|wpAny_bind<|wpAny_typeNameOfWhole_valiter hit.typeIs<|wpAny_pure ?_
 show wpAny _ _ (setField (.ref it) 0 .none>>=_) _ _ s;refine wpAny_bind (wpAny_setField h1 h3 (by simp) ?_);show wpAny _ _ (newExc (.type "StopIteration") []>>=_) _ _ _;refine wpAny_bind ?_;simp only[newExc,newTuple];refine wpAny_bind (wpAny_newObj_type ?_<|by size_fits);refine wpAny_bind (m:=firstArgMember _ _) (wpAny_of_eq (a:=Value.none) (by first|rfl|(simp only[firstArgMember];rfl)) ?_);refine wpAny_newObj_type ?_ (by size_fits);simp only[raiseNew];refine wpAny_bind<|wpAny_handled ?_
 refine(ys<|show A.in1.handled=none from hh)▸?_;refine wpAny_bind<|wpAny_pure<|wpAny_throw ?_
 refine wpAny_bind<|wpAny_isInstance (T:="StopIteration") (b:=true) (aD _ (Heap.get?_push_size _ rfl) rfl) isSubtype_stop ?_
 exact wpAny_pure<|hQ _<|((Heap.SameBut.update ..).extBut.push _).push _
theorem w0(hh:A.handled=none)(I d:Addr)(Iy:d≠I)(es:Array DictEntry)(ep:Nat):
  Walks prog w A I [I,d] [I] es.size (λi v=>∃h:i<es.size,v=es[i].val) (λi h=>h.IsValIter I d i es.size ep/\mf h d es ep) where
 sub:=λb hb=>by refine(ys<|List.mem_singleton.mp hb)▸?_;exact .head _
 frame:=λU U U st hk=>⟨let⟨o,e,r⟩:=st.1;(aD o (hk I (.head _) o e) r),st.2.grow λo e=>hk d (.tail _<|.head _) o e⟩
 item:=λi s Q E hi st hQ=>yB st.1 st.2 hi λh' hit' hs'=>hQ _ h' s.toks ⟨hi,rfl⟩ ⟨hit',st.2.grow λo e=>hs'.extBut d o Iy e⟩ λb o hb e=>hs'.extBut b o (λq=>hb<|q▸.head _) e
 done:=λs Q E st hQ=>Bx hh st.1 st.2 λh' he'=>hQ h' s.toks λb o hb e=>he' b o (λq=>hb<|q▸.head _) e
 self:=λU U U U st hQ=>wpAny_pyIter_valiter st.1 hQ
theorem BY{r d:Addr}{es:Array DictEntry}{ep:Nat}:KdlSrc prog w "dict_values" r d es.size (λi v=>∃h:i<es.size,v=es[i].val) (λh=>h.IsValuesView r d/\mf h d es ep) where
 type:=λU hm=>hm.1.typeIs
 there:=λU hm=>⟨let⟨_,ho,_⟩:=hm.1;Heap.lt_size ho,hm.2.lt⟩
 keep:=λU U hm hk=>⟨let⟨o,ho,x⟩:=hm.1;(aD o (hk r (.inl rfl) o ho) x),hm.2.grow λo e=>hk d (.inr rfl) o e⟩
 notList:=by decide
 notTuple:=by decide
 hint:=λU U U U hm hq=>kdl_hint_values hm.1.typeIs hq
 iter:=λU U hh hm=>bE _ _ (λU U hq=>yb hm.1 hm.2 hq) (w0 hh _ d (Nat.ne_of_lt hm.2.lt) es ep) ⟨(bD _ (Heap.get?_push_size _ rfl) rfl rfl),hm.2.grow λo e=>Heap.get?_push_of_some _ e⟩
end
section
variable {C:Cx} {A:Around} {f:Fc} {σ:aC}
theorem tl:typeOf (.builtin "dict.values")=pure (.type "method_descriptor"):=by kernel_rfl
theorem w9(q:Q (.d (.vals l)) σ):Cl C A f (.builtin "dict.values") [.d (.Hx l)] σ Q:=λρ F s vs a r=>by
 refine r.one λz=>?_;have z:=z.dv;refine z.IJ λu B I N O=>?_
 rename_i d o S ep
 have g:=a.H.HC _ _ B;have J:s.TypeIs (.ref d) "dict":=aD o g I.1;refine wpAny_call_entry PySem.F.slot_dict_values J PySem.F.entry_dict_values ?_<|PySem.F.args_dict_values_1 _
 refine wpAny_bind ?_;unfold Builtin.Dict.noArgs;refine wpAny_bind<|wpAny_notOrdered_dict J ?_
 show wpAny _ _ (pure d) _ _ s;refine wpAny_pure ?_;show wpAny _ _ (Builtin.Dict.showsAll d>>=_) _ _ s;unfold Builtin.Dict.showsAll;rw[if_neg (by simpa using u)];refine wpAny_bind<|wpAny_pure<|wpAny_bind<|wpAny_newObj_type<|wpAny_pure<|aD _ rfl ?_
 exact aS.push a rfl<|aD _ (.d<|.vals (.inr<|.head _) u (.inl B) I N<|O.mono b9.old) q
theorem g9:∀{C:Cx}{A:Around}{f:Fc}{σ:aC}{ns ns':List Int}{Q:PV->aC->Prop}(hh:A.handled=none)(V:ns.length<64)(hp:ns'.Perm ns)(hs:ns'.Pairwise (· <= ·))(q:Q (.d (.seq (ns'.map .int))) σ),Cl C A f (.builtin "sorted") [.d (.vals (ns.map .int))] σ Q:=by
 exists ce λC=>cx λA=>dO λf=>dR λσ=>aA λns=>aA λns'=>aA λQ=>aO _;intros;exact λρ F s vs a r=>by
  revert ρ F s vs;exists aA λρ=>aA λF=>eu λs=>aA λvs=>aO _;intros;refine r.one λr1=>?_;have r1:=r1.dv;refine r1.Jc λhV I hF hE hD S=>?_
  rename_i N d o z ep
  revert N d o z ep;exists aA λN=>aA λd=>aA λo=>aA λz=>aA λep=>aO _;intros;have u:z.size=ns.length:=by have:=S.length;simpa using this
  have Z:s.heap.IsValuesView N d/\mf s.heap d z ep:=⟨(bD _ (a.H.HC _ _ hV) rfl rfl),(bD o (a.H.HC _ _ hF) hE hD)⟩
  refine Calls.call_function_entry kind_sorted plain_sorted entry_sorted (args_sorted1 _) ?_;unfold Builtin.«sorted»;refine wpAny_bind (m:=checkCount "sorted" 1 1 _)<|wpAny_pure ?_
  refine wpAny_bind (kdu_collect (A:=A.in1) BY hh Z (by refine(ys u)▸?_;exact Nat.le_trans (Nat.le_of_lt V)<|by decide) λh' tk acc hk hI=>?_);revert h' tk acc;exists aA λh'=>aA λtk=>aA λacc=>aO _;intros;refine aL (eU hI) λj1 j2=>?_;have J:bA C F acc.toList (ns.map .int):=.of (by rw[j1,u,List.length_map]) λj v e=>by
   refine aP (j2 j v e) λhj aa=>?_;clear e;subst aa;exact S.get (i:=j) (v:=z[j].val) (by simp[hj])
  refine wpAny_bind (wpAny_newList ?_<|by refine(ys j1)▸(ys u)▸?_;exact Nat.le_trans (Nat.le_of_lt V)<|by decide);have W:(h'.push<|seqObj "list" acc.toList.toArray 0).get? h'.objs.size=some (seqObj "list" acc.toList.toArray 0):=Heap.get?_push_size _ rfl;refine wpAny_bind (wpAny_holding<|wpAny_call_entry slot_list_sort (aD _ W rfl) entry_list_sort (list_sort_tree W J.ints (by refine(ys j1)▸(ys u)▸?_;exact V) λout ab a1 a2 a3=>aD _ rfl ?_)<|args_list_sort _);refine aP (sortedHeap_at (out:=out) W) λe he=>?_;have e1:ab=ns':=(a2.trans hp.symm).eq_of_pairwise (λU U U U=>Int.le_antisymm) a3 hs;rw[e1] at a1;refine wpAny_pure<|aD _ rfl ?_
  refine aS.newList (s:=s) (tk:=tk) (vs:=out.toList) (n:=e) (ax:=h'.objs.size) a (λb o eb=>?_) ?_ (by refine(ys Array.toArray_toList)▸?_;exact he) (ko a1) q
  ·have O:=hk b o eb;have B:=Heap.lt_size O;rw[sortedHeap_old (Nat.ne_of_lt B) (by rw[Heap.size_push];exact Nat.lt_succ_of_lt B)];exact Heap.get?_push_of_some _ O
  ·cases e:s.heap.get? h'.objs.size with
   |none=>rfl
   |some o=>exact absurd (Heap.lt_size<|hk _ _ e)<|Nat.lt_irrefl _
theorem n5(G:Gd C){pos:Pos}(q:Q (.at (.tm σ.G8.length)) ⟨σ.ls,σ.G8++[some (.Hx [])],σ.mem⟩):Ev C A f (.Dict [] [] pos) σ Q:=λρ F s a=>
 wpAny_Dict_empty (fj.Ih (po:=.Hx []) a rfl (⟨⟨rfl,a.HW G⟩,uK _ (#[]) 0 (Heap.get?_push_size _ rfl) ⟨rfl,rfl,rfl⟩ rfl .nil⟩) λρ' u=>aD _ (.at (p:=(s.heap.objs.size,s.heap.objs.size)) u) q)
theorem za{s:Shared}(a:At C f ρ F σ s.heap){v:Value}{x:Str}{k:Option Int}(r:bz C F v (.tup [.str x,match k with|none=>.none|some i=>.int i])):∃b,v= .ref b/\nz s.heap b x k:=by
 refine r.tupE λ{b vs n} z N=>?_;revert z;refine N.two λ{O J} I B=>I.Id λt z=>aD b rfl<|qw _ t J n (a.H.HC _ _ z) rfl rfl ?_
 cases k with
 |none=>exact B.inv
 |some i=>refine B.HH λu=>?_;exact⟨u,rfl⟩
theorem sH:∀{C A f σ j x k d Q}(G:Gd C)(hu:A.units+2<cLine)(O:σ.get j=some (.Hx []))(q:Q (σ.put j (.Hx [d]))),sy C A f (.at j) (.d (.tup [.str x,match k with|none=>.none|some i=>.int i])) (.d d) σ Q:=by
 exists ce λC=>cx λA=>dO λf=>dR λσ=>Au λj=>aA λx=>aA λk=>zR λd=>aA λQ=>aO _;intros;exact λρ F s o i v a r1 r2 r3=>by
  refine aG r1.place λp e ah=>?_;clear r1;subst ah;refine aG (a.H.obj _ _ O) λp' W B=>?_;(refine aL B λI J=>aL I λai ad=>kY J λob es ep g hE hD hA=>?_);rw[e] at W;(have u:=oi W;clear W;clear B I J;subst u);refine aG (za a r2.dv) λb aa N=>?_;clear r2;subst aa;have V:es.toList=[]:=by have:=hA.length;simpa using this
  have hm:s.heap.DictOfH (lx C.prog C.w b x k) p.1 []:=rF ob es ep g hE hD (by refine(ys V)▸?_;rfl) (λU h=>(List.not_mem_nil h).elim) List.nodup_nil;refine wpAny_setItem_heap (knd:=lx C.prog C.w b x k) (k:=()) (show A.in1.units<cLine by rw[Around.in1_units];exact bw [_,_] [] 0x2209006204441401881 ft hu) ⟨rfl,N⟩ hm (λh' af S=>?_)<|Nat.zero_le _
  refine Cu af λo2 Z ab g2 ag ae z U U=>aS.upd (o':=.Hx [d]) (tk:=s.toks+3) a O e (.inl rfl) (λb ob hb eb=>S.extBut b ob hb eb) (⟨⟨ai,ad⟩,uK o2 Z ab g2 ag ae ?_⟩) q;refine(ys z)▸?_;exact .cons r3.dv .nil
theorem sK:∀{C A f σ x k Q}(G:Gd C)(V:A.units+2<cLine)(q:Q (.d (.bool false)) σ),cO C A f (compareOp .In) (.d (.tup [.str x,match k with|none=>.none|some i=>.int i])) (.d (.G7 [])) σ Q:=by
 exists ce λC=>cx λA=>dO λf=>dR λσ=>aA λx=>aA λk=>aA λQ=>aO _;intros;exact λρ F s u v a S O=>by
  refine aG (za a S.dv) λb B z=>?_;clear S;subst B;have O:=O.dv;refine O.Iv λN hF hi hd=>?_
  rename_i d o kvs
  cases hd;refine aL hi λhE J=>iP J λW ep hD hK Z U=>?_;have I:W.toList=[]:=by
   have:=Z.length
   simpa using this
  have hm:s.heap.DictOfH (lx C.prog C.w b x k) d []:=rF o W ep (a.H.HC _ _ hF) hE hD (by refine(ys I)▸?_;rfl) (λU h=>(List.not_mem_nil h).elim) List.nodup_nil;exact wpAny_in_heap (knd:=lx C.prog C.w b x k) (k:=()) (show A.in1.units<cLine by rw[Around.in1_units];exact bw [_,_] [] 0x2209006204441401881 ft V) ⟨rfl,z⟩ (by simpa using N) hm<|aS.same a<|aD _ (.d<|.bool _) q
end
end
section
set_option genInjectivity false
section
variable {prog:Program} {w:World} {A:Around} {E:Value->Shared->Prop} {s:Shared}
theorem DP{u:Nat->Nat->(Bool->Shared->Prop)->Shared->Prop}{H:Shared->Prop}{p:Array Nat}{Q:Nat->Shared->Prop}:∀(f a:Nat),
    (∀k,a<=k->k<a+f->∀C s,H s->(∀z,H z->C false z)->u (p.getD k 0) (p.getD (k-1) 0) C s)->∀s,H s->(∀z,H z->Q (a+f) z)->(kas_asc p f a).kasWp u Q s
 := λf=>by
  induction f with
  |zero=>exact λa U s I J=>J s I
  | succ f S=>
    intro a O s I J;show u _ _ (λb z=>(if b=true then KasT.ret a else kas_asc p f (a+1)).kasWp u Q z) s;refine O a (Nat.le_refl _) (jO [_,_] [] 0x8284300c0081 ft) _ s I λz B=>?_;show(kas_asc p f<|a+1).kasWp u Q z;exact S (a+1) (λk W N=>O k (bw [_,_] [] 0x882803002200001 ft W)<|bw [_,_,_] [] 0x2105086c00818288310c0081 ft N) z B λV N=>by rw[Nat.add_right_comm];exact J V N
theorem xv{z:Nat->Nat->(Bool->Shared->Prop)->Shared->Prop}{H:Shared->Prop}{G:Array Nat->Shared->Prop}(n:Nat)(V:2<=n)
  (S:∀k,1<=k->k<n->∀C s,H s->(∀u,H u->C false u)->z k (k-1) C s) (s:Shared) (I:H s) (N:∀u,H u->G (List.toArray (List.range n)) u):(kas_sort n).kasWp z G s:=by
 unfold kas_sort;rw[KasT.kasWp_bind];unfold kas_count;rw[KasT.kasWp_bind];have J:∀k,k<n->(List.toArray<|List.range n).getD k 0=k:=λk hk=>by simp[Array.getD,hk]
 refine DP (H:=H) (n-1) 1 (λk U W C s I O=>?_) s I λu B=>?_
 ·refine(ys<|J k<|by lia)▸(ys<|J (k-1)<|by lia)▸?_;exact S k U (by lia) C s I O
 ·have e:1+(n-1)=n:=by lia
  refine(ys e)▸?_;simp only[beq_self_eq_true,if_true];show((if n<n then _ else KasT.ret _):KasT (Array Nat)).kasWp z G u;refine(ys<|if_neg<|Nat.lt_irrefl _)▸?_;exact N u B
inductive cT (h:Heap):List Value->List (Int×Int)->Prop
 |nil:cT h [] []
 |cons {a:Addr} {n:Nat} {t u:Tok} {q:Int×Int} {vs:List Value} {qs:List (Int×Int)}:h.get? a=some {cls:=.type "tuple",data:=.seq #[.int q.1 t,.int q.2 u] n}->cT h vs qs->cT h (.ref a::vs) (q::qs)
theorem cT.len(x:cT h vs qs):vs.length=qs.length:=by
 induction x with
 |nil=>rfl
 |cons _ _ u=>exact congrArg Nat.succ u
theorem cT.keep(x:cT h vs qs):(∀b o,Value.ref b∈vs->h.get? b=some o->h'.get? b=some o)->cT h' vs qs:=by
 induction x with
 |nil=>exact λU=>.nil
 |cons g _ u=>exact λk=>.cons (k _ _ (.head _) g)<|u λb o m=>k b o<|.tail _ m
theorem cT.get(x:cT h vs qs):∀i,i<vs.length->∃q a n t u,qs[i]? =some q/\vs.getD i .none= .ref a/\h.get? a=some {cls:=.type "tuple",data:=.seq #[.int q.1 t,.int q.2 u] n}:=by
 induction x with
 |nil=>exact λi hi=>absurd hi<|Nat.not_lt_zero _
 | cons g _ z=>
  intro i hi;cases i with
  |zero=>exact Cb _ _ _ _ _ rfl rfl g
  |succ i=>exact z i<|Nat.lt_of_succ_lt_succ hi
theorem cT.tups(x:cT h vs qs):∃fs,fs.length=vs.length/\KatTups h vs fs/\∀v∈fs,∃i t,v= .int i t:=by
 induction x with
 |nil=>exact bD [] rfl .nil<|λU h=>(List.not_mem_nil h).elim
 |cons g _ u=>exact u.elim λfs q=>bD (_::fs) (congrArg Nat.succ q.1) (.cons g rfl rfl rfl q.2.1)<|λv z=>(List.mem_cons.mp z).elim (λe=>DU _ _ e)<|q.2.2 v
theorem D0(B:qs.Pairwise λx y=>x.1<y.1){k:Nat}{q u:Int×Int}(N:1<=k)(U:qs[k]? =some q)(J:qs[k-1]? =some u):u.1<q.1:=by
 refine aP (List.getElem?_eq_some_iff.mp U) λS I=>aP (List.getElem?_eq_some_iff.mp J) λz O=>I▸O▸?_;exact List.pairwise_iff_getElem.mp B (k-1) k z S<|Nat.sub_lt N Nat.one_pos
theorem lL:∀(vs:List Value),((List.toArray (List.range vs.length)).toList.map λi=>vs.getD i Value.none)=vs:=by
 exists aA λvs=>aO _;intros;refine List.ext_getElem (by simp) λi z u=>?_;simp[u]
theorem m5:∀{prog w A E s a vs qs n P}(ho:s.heap.get? a=some (seqObj "list" vs.toArray n))(hI:cT s.heap vs qs)(hq:qs.Pairwise λx y=>x.1<y.1)(hna:∀v∈vs,v≠ .ref a)(h64:vs.length<64)(h:P (.done (.ret .none)) {s with heap:=sortedHeap s.heap a vs vs.toArray}),wpAny (model prog w) A (Builtin.«list.sort» ⟨[.ref a],[]⟩) P E s:=by
 exists aA λprog=>zV λw=>cx λA=>aA λE=>eu λs=>aA λa=>aA λvs=>aA λqs=>aA λn=>aA λP=>aO _;intros;rw[list_sort_plain];have ha:a<s.heap.objs.size:=Heap.lt_size ho;refine wpAny_bind<|listItems_at ho rfl ?_
 refine wpAny_bind (listUpdate_at ho rfl ?_ (by rw[List.size_toArray,sizeLine_eq];exact bw [_] [] 0x200e800818000003280001 ft h64)<|Nat.zero_le _);refine aP (show∃e1,(s.heap.update a<|Obj.mapSeq λU=>#[]).get? a=some (seqObj "list" #[] e1) from⟨_,get?_update_seq ho<|λU=>#[]⟩) λe1 ho1=>wpAny_bind<|seqEpoch_at ho1 rfl ?_
 refine wpAny_bind (wpAny_newTuple ?_<|by show vs.length<=_;rw[sizeLine_eq];exact bw [_] [] 0x200e800818000003280001 ft h64);refine wpAny_bind<|wpAny_newList ?_<|Nat.zero_le _
 refine wpAny_holding ?_;have ho6:(((s.heap.update a<|Obj.mapSeq λU=>#[]).push<|seqObj "tuple" vs.toArray 0).push<|seqObj "list" #[] 0).get? a=some (seqObj "list" #[] e1):=by
  rw[Heap.get?_push_ne _ _ _ (by rw[size_push',Heap.size_update];exact Nat.ne_of_lt<|Nat.lt_succ_of_lt ha),Heap.get?_push_ne _ _ _ (by rw[Heap.size_update];exact Nat.ne_of_lt ha)];exact ho1
 have hI6:cT ((((s.heap.update a<|Obj.mapSeq λU=>#[]).push<|seqObj "tuple" vs.toArray 0).push<|seqObj "list" #[] 0)) vs qs:=hI.keep λb o hb g=>by
  have hlt:=Heap.lt_size g;rw[Heap.get?_push_ne _ _ _ (by rw[size_push',Heap.size_update];exact Nat.ne_of_lt<|Nat.lt_succ_of_lt hlt),Heap.get?_push_ne _ _ _ (by rw[Heap.size_update];exact Nat.ne_of_lt hlt),Heap.get?_update_ne _ _ _ _ λe=>hna _ hb (by rw[e])];exact g
 show wpAny (model prog w) A _ P E {s with heap:=((s.heap.update a<|Obj.mapSeq λU=>#[]).push<|seqObj "tuple" vs.toArray 0).push (seqObj "list" #[] 0)};have h:P (.done<|.ret .none) {s with heap:=(((s.heap.update a<|Obj.mapSeq λU=>#[]).push<|seqObj "tuple" vs.toArray 0).push<|seqObj "list" #[] 0).update a (Obj.mapSeq λU=>vs.toArray)}:=h;revert ho6 hI6 h;generalize((s.heap.update a<|Obj.mapSeq λU=>#[]).push<|seqObj "tuple" vs.toArray 0).push (seqObj "list" #[] 0)=H6;intro ho6 hI6 h;dsimp only;have hsz:vs.toArray.size=vs.length:=by simp
 by_cases h2:vs.toArray.size<2
 ·rw[if_pos h2,if_pos h2];refine wpAny_bind<|wpAny_pure ?_
  rw[StateT.run_pure];refine wpAny_bind<|wpAny_pure ?_
  dsimp only;refine wpAny_bind<|seqEpoch_at ho6 rfl ?_
  have e:(arrOf<|SortSt.mk' general' (vs.toArray.zip vs.toArray) #[] 7 none).map (·.2)=vs.toArray:=by
   show(vs.toArray.zip vs.toArray).map (·.2)=_;apply Array.toList_inj.mp;simp[List.map_snd_zip]
  rw[e];refine wpAny_bind (listUpdate_at ho6 rfl ?_ (Nat.zero_le _)<|by rw[hsz,sizeLine_eq];exact bw [_] [] 0x401d0010305400000194c0001 ft h64);simp only[bne_self_eq_false,Bool.false_eq_true,if_false];exact wpAny_pure h
 ·rw[if_neg h2,if_neg h2];refine cj hI6.tups λfs f1 f2 f3=>?_;refine wpAny_bind (kat_kind (T:=.type "int") f2 (by rw[f1];exact dD [_,_] [] 0x104843810020808001081 ft hsz h2) (λv hv=>by refine l4 (f3 v hv) λi t re1=>?_;clear hv;subst re1;exact Looks.of_pure rfl) (by decide) ?_);rw[show(Value.type "int" !=Value.type "tuple")=true from by decide];refine wpAny_bind (wpAny_mono (kat_run (Q:=λst' s'=>s'={s with heap:=H6}/\arrOf st'=(List.toArray<|List.range vs.length).map (kas_item<|vs.toArray.zip vs.toArray)/\failedOf st'=none)
   (G:=λp s'=>p=List.toArray (List.range vs.length)/\s'={s with heap:=H6})
   (κ:=tuples' true) (ks:=vs) (vs:=vs) rfl (dD [_,_] [] 0x41210e040082020209001 ft hsz h2) h64 (λp' st' s' a1 a2 a3 a4=>⟨a4.2,by rw[a2,a4.1],a3⟩) ?srt) ?_ λU U e=>e)
  case srt=>
   refine xv (H:=λs'=>s'=_) vs.length (dD [_,_] [] 0x41210e040082020209001 ft hsz h2) (λk k1 k2 C s' hs' hC=>?_) _ rfl λs' hs'=>⟨rfl,hs'⟩
   subst hs';refine zr (hI6.get k k2) λq b n1 t u hq1 hv1 g1=>zr (hI6.get (k-1)<|by lia) λq' b' n1' t' u' hq2 hv2 g2=>?_;unfold kas_ask;rw[hv1,hv2];refine kat_lt g1 rfl g2 rfl<|kat_cons<|wpAny_eqBool_int ?_
   have hlt:=D0 hq k1 hq1 hq2;have e0:(q.1==q'.1)=false:=by rw[beq_eq_false_iff_ne];exact λe=>dD [] [_,_] 0x112a044814020201500 ft hlt e
   rw[e0];refine kat_no<|oneLt_int ?_
   rw[show decide (q.1<q'.1)=false from by simp;exact bw [] [_,_] 79250772461953 ft hlt];exact hC _ rfl
  rintro⟨⟨⟩,st'⟩ s' ⟨rfl,har,hf⟩;dsimp only;have hout:=(kat_snds (ks:=vs) (vs:=vs) rfl har).trans (by rw[lL]);rw[hout];refine wpAny_bind<|seqEpoch_at ho6 rfl ?_
  refine wpAny_bind (listUpdate_at ho6 rfl ?_ (Nat.zero_le _)<|by rw[hsz,sizeLine_eq];exact bw [_] [] 0x401d0010305400000194c0001 ft h64);rw[hf];simp only[bne_self_eq_false,Bool.false_eq_true,if_false];exact wpAny_pure h
theorem tB:∀{prog w A E s l vs qs Q}(hl:s.heap.IsList l vs.toArray)(hI:cT s.heap vs qs)(hq:qs.Pairwise λx y=>x.1<y.1)(h64:vs.length<64)(h:Q (.ref (s.heap.objs.size+1)) {s with heap:=sortedAll s.heap vs vs.toArray}),wpAny (model prog w) A (call (.builtin "sorted") [.ref l]) Q E s:=by
 exists aA λprog=>zV λw=>cx λA=>aA λE=>eu λs=>aA λl=>aA λvs=>aA λqs=>aA λQ=>aO _;intros;refine Calls.call_function_entry kind_sorted plain_sorted entry_sorted (args_sorted1 _) ?_;unfold Builtin.«sorted»;refine wpAny_bind (m:=checkCount "sorted" 1 1 _)<|wpAny_pure ?_
 refine wpAny_bind (collect_list hl ?_<|by rw[sizeLine_eq];exact bw [_] [] 0x200e800818000003280001 ft h64);refine wpAny_bind (wpAny_newList ?_<|by rw[sizeLine_eq];exact bw [_] [] 0x200e800818000003280001 ft h64);have hsz:((s.heap.push<|seqObj "list" #[] 0).update s.heap.objs.size<|Obj.mapSeq (· ++vs.toArray)).objs.size=s.heap.objs.size+1:=by
  rw[Heap.size_update,size_push']
 have hoL:(((s.heap.push<|seqObj "list" #[] 0).update s.heap.objs.size<|Obj.mapSeq (· ++vs.toArray)).push<|seqObj "list" vs.toArray 0).get? (s.heap.objs.size+1)=some (seqObj "list" vs.toArray 0):=by
  rw[<-hsz];exact Heap.get?_push_size _ rfl
 have keep:∀b o,s.heap.get? b=some o->(((s.heap.push<|seqObj "list" #[] 0).update s.heap.objs.size<|Obj.mapSeq (· ++vs.toArray)).push<|seqObj "list" vs.toArray 0).get? b=some o:=λb o q=>by
  have hlt:b<s.heap.objs.size:=Heap.lt_size q;rw[Heap.get?_push_ne _ _ _ (by rw[hsz];exact Nat.ne_of_lt<|Nat.lt_succ_of_lt hlt),Heap.get?_update_ne _ _ _ _<|Nat.ne_of_lt hlt,Heap.get?_push_ne _ _ _ (Nat.ne_of_lt hlt)];exact q
 have hna:∀v∈vs,v≠ .ref (s.heap.objs.size+1):=by
  intro v hv e;obtain⟨i,hi,e2⟩:=List.getElem_of_mem hv;refine zr (hI.get i hi) λq a n t u U e3 g=>?_;have e4:vs.getD i .none=v:=by simp[hi,e2]
  rw[e4,e] at e3;have re0_0:=PySem.Value.ref.inj e3;clear e3;subst re0_0;exact absurd (Heap.lt_size g)<|Nat.not_lt.mpr<|Nat.le_succ _
 show wpAny _ _ _ _ _ {s with heap:=((s.heap.push<|seqObj "list" #[] 0).update s.heap.objs.size<|Obj.mapSeq (· ++vs.toArray)).push (seqObj "list" vs.toArray 0)};rw[hsz];exact wpAny_bind<|wpAny_holding<|wpAny_call_entry slot_list_sort (aD _ hoL rfl) entry_list_sort (m5 hoL (hI.keep λb o U=>keep b o) hq hna h64<|aD _ rfl<|wpAny_pure<|aD _ rfl h)<|args_list_sort _
end
section
variable {C:Cx} {A:Around} {f:Fc} {σ:aC}
theorem D8(J:∀a o,F a o->h.get? a=some o):∀{qs:List (Int×Int)}{vs:List Value},bA P F vs (de qs)->cT h vs qs:=λ{qs}=>by
 induction qs with
 |nil=>exact λr=>bA.HV (Y:=λvs=>cT h vs []) r .nil
 | cons q qs I=>
  intro vs r;refine bA.HE (Y:=λvs=>cT h vs (q::qs)) r λ{v vs} r rs=>r.tupE (X:=λv=>cT h (v::vs) (q::qs)) λ{a vs n} z O=>?_;revert z;exact O.two λ{v w} B N=>B.HH λt=>N.HH λu z=>.cons (J _ _ z)<|I rs
theorem m9(hz:qs.length<64)(hs:qs.Pairwise λx y=>x.1<y.1)(q:Q (.d (.seq (de qs))) σ):Cl C A f (.builtin "sorted") [.d (.seq (de qs))] σ Q:=λρ F s vs a r=>by
 refine r.one λr1=>?_;have r1:=r1.dv;refine r1.H9 λ{ax o vs} hF hL hA=>?_
 refine aP hL λn re2=>?_;try clear hL;subst re2
 have hI:=D8 a.H.HC hA
 refine tB (l:=_) (bD _ (a.H.HC _ _ hF) rfl ⟨n,rfl⟩) hI hs (by refine(ys hI.len)▸?_;exact hz) ?_
 refine aP (sortedAll_at s.heap vs vs.toArray) λe he=>?_
 exact aS.newList (tk:=s.toks) (vs:=vs) (n:=e) a (λb o=>sortedAll_old) (by
  cases e:s.heap.get? (s.heap.objs.size+1) with
  |none=>rfl
  |some o=>exact absurd (Heap.lt_size e)<|Nat.not_lt.mpr<|Nat.le_succ _) he hA q
end
end
section
section
variable {C:Cx} {A:Around} {f:Fc} {σ:aC}
noncomputable def GN(i:Nat)(c:Addr)(K:PV->aQ->Prop)(x:Fl)(σ':aC):Prop:=
 g4 σ'.mem (lU x)/\aN σ'.mem/\σ'.mem 21=none/\σ'.ls[i]? =some (some (.at (.sk 11)))/\σ'.mem 11≠none/\K (lU x) (aQ.set σ'.mem 21 (.cellAt c (.at (.sk 11))))
theorem xg:∀{C:Cx}{f:Fc}{u:List (Option PV)}{ρ:Pl}{F:Fz}{g:bR}{h:Heap}{i:Nat}{y:Str}{c:Addr}{pv:PV}(R:FR C f u ρ F g h)(O:f.ns[i]? =some y)(hk:f.env.kindOf y=some .cell)(V:f.env.cells.lookup y=some c)(S:u[i]? =some (some pv)),∃o v,h.get? c=some o/\o.data= .cell (some v)/\aW C ρ F v pv:=by
 exists ce λC=>dO λf=>aA λu=>aA λρ=>aA λF=>aA λg=>aA λh=>aA λi=>aA λy=>aA λc=>oO λpv=>aO _;intros;refine bM R.HF λm cm U N W=>aG (W i y _ O S) λv Z J=>?_;rcases J with⟨J,_⟩|⟨_,_,_,I⟩
 ·cases hk.symm.trans J
 ·exact aG (N y c V) λoc B z=>bE oc v B (I▸z) Z
theorem vH(G:Gd C){fa:Addr}{fd:FuncData}{body:List Stmt}{ps ns:List Str}{n:Nat}{xs:List PV}{mem:Nat->Option (Option PO)}{K:PV->(Nat->Option (Option PO))->Prop}(O:sG C fa fd body ps ns)
  (aa:xs.length=ps.length) (I:∀vs:List Value,vs.length=xs.length->bindArgs fd ⟨vs,[]⟩=pure (ps.zip vs)) (i:Nat) (y:Str) (hy:ns[i]? =some y) (ab:fd.scope.names.lookup y=some .cell)
  (h:∀A' L c,Rm A' n->(callEnvC fd L fa).cells.lookup y=some c->fA C A' (gM fd L fa ns) body ⟨xs.map some++List.replicate (ns.length-ps.length) none,[],mem⟩ (GN i c K)):Fn C (n+1) (.ref fa) xs mem K:=λA ρ F s vs hR H ad ai r=>by
 refine f9 G O aa I hR H ad ai r λL Z J V B z ae=>aP (Option.isSome_iff_exists.mp<|cg (n:=L+1) ab) λc hc=>?_;have N:aV (gM fd L fa ns) c:=.inr<|dk y c hc rfl
 refine(h _ L c ae hc ρ F (wh s Z J) V).go λfl h' tk ρ' F' σ' x S st rx q=>bM (xg S.R hy ab hc q.2.2.2.1) λoc v af ah rv=>?_;have ag:=S.HN 21 q.2.2.1;have u:∀k p,bJ ρ' k=some p->(if k=Ky.sk 21 then some (c,c) else bJ ρ' k)=some p:=λk p e=>by
  rw[if_neg (λe2=>by rw[e2] at e;cases ag.symm.trans e)];exact e
 have W:∀a,(a=(c,c).1\/a=(c,c).2)->a=c:=λa e=>e.elim id id;have A:=HR.Il (j:=21) (p:=(c,c)) (po:=.cellAt c<|.at (.sk 11)) (S.H.H8 q.2.1) (if_pos rfl) (λk e=>if_neg e) u (λa ha=>by
   refine(ys<|W a ha)▸?_;exact⟨λho=>S.R.Hj _ N<|cs ho,S.R.HT _ N⟩)
  (⟨⟨rfl,rfl⟩,bE oc v af ah<|(aW.IG rv q.2.2.2.2.1).mono u λU U e=>e⟩)
 exact .mk A.1 (λi=>if_neg nofun) (λn e=>(if_neg λe2=>(dn e).1<|Ky.sk.inj e2).trans<|S.HN n (dn e).2) ((nH B z ad st).Il u A.2 λa ha=>.inr<|W a ha▸z _ N)
  ((aW.IG (uU rx) q.1).mono u λU U e=>e) q.1.setM q.2.2.2.2.2
end
end
section
section
variable {C:Cx} {A:Around} {f:Fc} {σ:aC}
theorem qP(B u iter:Expr)(z:List Expr)(J:Comprehension)(scope:Scope)(pos:Pos)(I acc:Value)(env:Env):
  compTurn (.ListComp B [J,⟨u,iter,z,0⟩] scope pos) 1 I acc env=(do
   standAt iter.pos
   match<-pyNext I with
   |none=>pure (.done .next)
   | some v=>
    letOwnedTupleGo u I v
    assign u env v
    let mut ok:=true
    for c in z do
     if ok then ok<-isTrue c env (eval c env)
    if ok then
     (do let _<-call (.builtin "list.append") [acc,<-eval B env])
    again (.compLoop (.ListComp B [J,⟨u,iter,z,0⟩] scope pos) 1 I acc env)):=by rfl
theorem ou(u t0 J N B:Expr)(z:List Expr)(scope:Scope)(pos:Pos)(I acc:Value)(env:Env):
  compTurn (.ListComp u [⟨t0,J,[],0⟩,⟨N,B,z,0⟩] scope pos) 0 I acc env=(do
   standAt J.pos
   match<-pyNext I with
   |none=>pure (.done .next)
   | some v=>
    letOwnedTupleGo t0 I v
    assign t0 env v
    let x<-eval B env
    standAt B.pos
    let x<-foldedSetIterable B env x
    let _<-runOwn (.compStart (.ListComp u [⟨t0,J,[],0⟩,⟨N,B,z,0⟩] scope pos) 1 (<-holding [x] (pyIter x)) acc env) env
    again (.compLoop (.ListComp u [⟨t0,J,[],0⟩,⟨N,B,z,0⟩] scope pos) 0 I acc env)):=by rfl
theorem oQ{J t0 i0 t1 i1:Expr}{N:List Expr}{scope:Scope}{pos:Pos}{it acc:Value}{env:Env}{R:Result->Shared->Prop}{prog:Program}{w:World}{s:Shared}(hs:∀x,foldedSetIterable i1 env x=pure x)(I:Nat->Shared->Prop)
  (S:∀n s,I n s->wpAny (model prog w) A (pyNext it) (λr u=>match r with
   |none=>R (.ok .next) u
   |some v=>wpAny (model prog w) A (letOwnedTupleGo t0 it v) (λU V=>wpAny (model prog w) A (assign t0 env v) (λU z=>
     wpAny (model prog w) A (eval i1 env) (λx B=>wpAny (model prog w) A (pyIter x) (λag ad=>codeAny (model prog w) A (.compStart (.ListComp J [⟨t0,i0,[],0⟩,⟨t1,i1,N,0⟩] scope pos) 1 ag acc env)
      (λr ab=>r= .ok .next/\∃m,m<n/\I m ab) ad) (λU U=>False) B) (λU U=>False) z) (λU U=>False) V) (λU U=>False) u) (λU U=>False) s)
  (n:Nat) (h:I n s):codeAny (model prog w) A (.compLoop (.ListComp J [⟨t0,i0,[],0⟩,⟨t1,i1,N,0⟩] scope pos) 0 it acc env) R s:=by
 revert hs S h;revert A J t0 i0 t1 i1 N scope pos it acc env R prog w s I n;exists cx λA=>aA λJ=>aA λt0=>aA λi0=>aA λt1=>aA λi1=>aA λN=>aA λscope=>aA λpos=>aA λit=>aA λacc=>aA λenv=>aA λR=>aA λprog=>zV λw=>eu λs=>aA λI=>aA λn=>aO _;intro A J t0 i0 t1 i1 N scope pos it acc env R prog w s I n hs S h;refine codeAny_loop rfl I (λn s hI=>?_) n h;revert hI;revert n s;exists aA λn=>eu λs=>aO _;intro n s hI;show wpAny _ A ((compTurn (.ListComp J [⟨t0,i0,[],0⟩,⟨t1,i1,N,0⟩] scope pos) 0 it acc env).onRaise<|λx=>do noteFrame x env;theTreesLotGoes x) _ _ s;refine wpAny_noted ?_;rw[ou];refine wpAny_bind<|wpAny_standAt<|wpAny_bind<|wpAny_mono (S n s hI) (λr u O=>?_) λU U e=>e.elim
 revert O;revert r u;exists aA λr=>eu λu=>aO _;intro r u O;cases r with
 |none=>exact wpAny_pure O
 | some v=>
  refine wpAny_bind<|wpAny_mono O (λU V ae=>?_) λU U e=>e.elim
  refine wpAny_bind<|wpAny_mono ae (λU z W=>wpAny_bind<|wpAny_mono W (λx B aa=>?_) λU U e=>e.elim) λU U e=>e.elim
  revert W aa;revert z x B;exists eu λz=>aA λx=>eu λB=>aO _;intro z x B W aa;refine wpAny_bind<|wpAny_standAt<|wpAny_bind ?_
  refine wpAny_of_eq (hs x)<|wpAny_bind<|wpAny_holding<|wpAny_mono aa (λag ad af=>?_) λU U e=>e.elim
  refine wpAny_bind<|wpAny_runOwn<|codeAny_mono af λr ab Z=>?_
  obtain⟨rfl,Z⟩:=Z;exact wpAny_pure ⟨rfl,Z⟩
theorem pn:∀{A elt target iter ifs g0 scope pos it acc env R prog w s}(h0:codeAny (model prog w) A (.compLoop (.ListComp elt [g0,⟨target,iter,ifs,0⟩] scope pos) 1 it acc env) R s)(h:wpAny (model prog w) A (pyIter it) (λit' s'=>codeAny (model prog w) A (.compLoop (.ListComp elt [g0,⟨target,iter,ifs,0⟩] scope pos) 1 it' acc env) R s') (λU U=>False) s),codeAny (model prog w) A (.compStart (.ListComp elt [g0,⟨target,iter,ifs,0⟩] scope pos) 1 it acc env) R s:=by
 intro A elt target iter ifs g0 scope pos it acc env R prog w s h0 h;refine codeAny_of_tree ?_;show wpAny _ _ ((compStart (.ListComp elt [g0,⟨target,iter,ifs,0⟩] scope pos) 1 it acc env).onRaise<|λx=>do noteFrame x env;standAt theWindowsPlace) _ _ s;refine wpAny_notedAt ?_;unfold compStart;show wpAny _ _ (ask>>=_) _ _ s;refine wpAny_bind<|wpAny_askSetting<|wpAny_ite ?_
 split
 ·first
   |exact wpAny_bind<|wpAny_pure<|wpAny_pure<|And.intro rfl h0
   |exact wpAny_pure<|And.intro rfl h0
 ·first
   |exact wpAny_bind<|wpAny_rule<|wpAny_bind<|wpAny_standAt<|wpAny_bind<|wpAny_mono h (λit' s' h'=>wpAny_pure<|And.intro rfl h') λU U x=>x.elim
   |(refine wpAny_bind<|wpAny_rule ?_;show wpAny _ _ (standAt iter.pos>>=_) _ _ s;exact wpAny_bind<|wpAny_standAt<|wpAny_bind<|wpAny_mono h (λit' s' h'=>wpAny_pure<|And.intro rfl h') λU U x=>x.elim)
theorem sv{g0:Comprehension}{pos:Pos}{items:List PV}{inv:aC->Prop}{pj:Addr}{Q:aC->Prop}
  (hI:oq C A f x σ items inv) (hW:nj C A f target ifs elt j inv items σ Q) {v:Value} (hj:ρ (.tm j)=some (pj,pj)) (a:At C f ρ F σ s.heap) (r:aW C ρ F v x) {RR:Result->Shared->Prop}
  (hRR:∀h' tk ρ' F' σ',At C f ρ' F' σ' h'->bx (bv f) ρ F σ.get s.heap ρ' F' σ'.get h'->Q σ'->RR (.ok .next) (wh s h' tk)):
  wpAny (model C.prog C.w) A (pyIter v) (λit1 s₄=>codeAny (model C.prog C.w) A (.compStart (.ListComp elt [g0,⟨target,iter,ifs,0⟩] scope pos) 1 it1 (.ref pj) f.env) RR s₄) (λU U=>False) s:=by
 refine wpAny_mono (hI ρ F s v a r) (λit s' p=>?_) λU U e=>e
 refine tW p λI fp wr Pp St h2 tk re2 re3 T=>?_;try clear p;subst re2;subst re3
 have q:=gy (R:=RR) (qP elt target iter ifs g0 scope pos (.ref I) (.ref pj) f.env) (pM C f (bv f) wr ρ F σ.get s St items.length<|CK C A f target ifs elt j inv items Q pj) (λk s' hk=>n9 T (λU=>.inl) (λU=>bv.all) hk λh6 tk6 ρ6 F6 σ6 L6 U q=>hRR h6 tk6 ρ6 F6 σ6 L6.a L6.st q)
  (items.length+1) (mI 0 h2 tk ρ F σ rfl rfl ⟨Nat.zero_le _,T.IX,⟨a.grow T.old,.grow T.old,T.wr0 a,λU U U e=>e⟩,hj,hW⟩)
 exact pn q<|T.W.self 0 _ _ _ T.IX q
noncomputable def zi(C:Cx)(A:Around)(f:Fc)(t0 t1 i1:Expr)(ifs:List Expr)(elt:Expr)(j:Nat)(inv:aC->Prop):List PV->aC->(aC->Prop)->Prop
 |[],σ,Q=>Q σ
 |x::xs,σ,Q=>As C A f (λv=>assign t0 f.env v) x σ λσ1=>Ev C A f i1 σ1 λy σ2=>∃items inv1,oq C A f y σ2 items inv1/\nj C A f t1 ifs elt j inv1 items σ2 λσ3=>inv σ3/\zi C A f t0 t1 i1 ifs elt j inv xs σ3 Q
theorem sT:∀{C A W V items inv t0 i0 t1 i1 u z scope pos j QQ}(Z:∀x,foldedSetIterable i1 W.env x=pure x)(hW:zi C A W t0 t1 i1 z u j inv items V QQ),sI C A W (.ListComp u [⟨t0,i0,[],0⟩,⟨t1,i1,z,0⟩] scope pos) j items inv V QQ:=by
 intro C A W V items inv t0 i0 t1 i1 u z scope pos j QQ Z hW;exact λ{ab ρ a1 F F3 s h' h4 tk I LA fp wr Pp St R} T L0 aj hx ae hE=>by
  refine oQ Z (pM C W (λU=>False) wr ρ F ab s St items.length λi ap σ1=>ap (.tm j)=some (LA,LA)/\zi C A W t0 t1 i1 z u j inv (items.drop i) σ1 QQ) (λk s' hk=>?_) (items.length+1)<|mI 0 _ _ _ _ _ rfl rfl ⟨Nat.zero_le _,aj,L0,ae,hW⟩
  refine hk.turn T (λi v2 y h6 N S F6 aa hd ry L6 K J O am=>am t0 _ _ ?_) λh6 N S F6 aa L6 K=>hE h6 N S F6 aa L6 K.1 (by have q:=K.2;rw[List.drop_length] at q;exact q);have q6:=K.2;rw[hd] at q6;refine(q6 S F6 (wh s h6 N) v2 L6.a ry).use λU h7 aq ar F7 a0 a7 ad hb=>(hb ar F7 (wh s h7 aq) a7).go λx1 h8 an az F8 a2 y1 a8 af au aw=>nP aw λah ay ai ao=>?_;have L8:=(L6.next hx (λU=>False.elim) J a7 ad).next hx (λU=>False.elim) J a8 af;have B:=af.HD _ _<|ad.HD _ _ K.1
  exact sv (s:=(wh s h8 an)) ai ao B a8 au λh9 av ak F9 al a9 ag hz=>⟨rfl,O h9 av ak F9 al (L8.next hx (λU=>False.elim) J a9 ag) hz.1 ⟨ag.HD _ _ B,hz.2⟩⟩
theorem ye(O:dz scope cl own caps f){t0 z I B:Expr}{pos:Pos}
  (u:∀(D:Addr) x,foldedSetIterable B (cn scope cl D own caps f).env x=pure x)
  (h:Ev C A f z σ λx σ1=>∃items inv,oq C A f x σ1 items inv/\∀D,zi C A (cn scope cl D own caps f) t0 I B ifs elt σ1.G8.length inv items (xm own caps f σ1) (yY σ1 Q))
  (J:∀x,foldedSetIterable z f.env x=pure x:=by intro _;rfl):Ev C A f (.ListComp elt [⟨t0,z,[],0⟩,⟨I,B,ifs,0⟩] scope pos) σ Q:=
 lR O (h.mono λU U q=>q.elim λU q=>q.elim λU q=>mG O q.1 λD=>sT (u D)<|q.2 D) J
end
end
section
section
variable {C:Cx} {A:Around} {f:Fc} {σ:aC}
noncomputable def yd(C:Cx)(A:Around)(cf:Fc)(elts:List Expr)(tn:Nat)(tp:Pos)(ifs:List Expr)(elt:Expr)(j0 j:Nat)(l:List DV)(St:Nat->aC->Prop):Prop:=
 ∀ i d σ',l[i]? =some d->St i σ'->σ'.get (.tm j0)=some (.enum l i)->As C A cf (λv=>assign (.Tuple elts tn tp) cf.env v) (.d (.tup [.int i,d])) (σ'.put (.tm j0) (.enum l (i+1))) λσ1=>zU C A cf ifs σ1 λb σ2=>
   if b=true then Ev C A cf elt σ2 λy σ3=>∃d acc,y= .d d/\σ3.get (.tm j)=some (.Ha acc)/\acc.length<=100000/\(σ3.put (.tm j) (.Ha (acc++[d]))).get (.tm j0)=some (.enum l (i+1))/\St (i+1) (σ3.put (.tm j) (.Ha (acc++[d])))
   else σ2.get (.tm j0)=some (.enum l (i+1))/\St (i+1) σ2
noncomputable def EK(j0 j:Nat)(l:List DV)(St:Nat->aC->Prop)(p:Addr×Addr)(LA:Addr)(i:Nat)(ρ:Pl)(σ:aC):Prop:=ρ (.tm j)=some (LA,LA)/\ρ (.tm j0)=some p/\σ.get (.tm j0)=some (.enum l i)/\St i σ
theorem td:∀{C A B u ρ F s s' z tn tp S V j0 j k l St p I R}(hh:A.handled=none)(hx:∀b,bv B b->False\/s.heap.get? b=none)(hT:yd C A B z tn tp V S j0 j l St)(hk:pM C B (λU=>False) [] ρ F u s (λU U=>True) l.length (EK j0 j l St p I) k s')(hE:∀h6 am ap F6 ae hb,LS C B (λU=>False) [] ρ F u s.heap hb ap F6 ⟨ae.ls,ae.G8.set j0 none,ae.mem⟩ h6->ap (.tm j)=some (I,I)->St l.length ae->R (wh s h6 am)),xn (model C.prog C.w) A (.Tuple z tn tp) V S (.ref p.1) (.ref I) B.env R (pM C B (λU=>False) [] ρ F u s (λU U=>True) l.length (EK j0 j l St p I)) k s':=by
 exists ce λC=>cx λA=>dO λB=>aA λu=>aA λρ=>aA λF=>eu λs=>eu λs'=>aA λz=>aA λtn=>aA λtp=>aA λS=>aA λV=>aA λj0=>aA λj=>aA λk=>aA λl=>aA λSt=>aA λp=>aA λI=>aA λR=>aO _;intros;refine y9 hk λi h5 an av F5 au bd bf bb=>?_;try clear hk;subst bd;subst bf;obtain⟨hi,_,L5,ai,al,ao,ah⟩:=bb;have nx:∀{a1 ρ2:Pl}{F1 F2:Fz}{σ1 σ2:aC}{h1 h2 hb:Heap},LS C B (λU=>False) [] ρ F u s.heap hb a1 F1 σ1 h1->At C B ρ2 F2 σ2 h2->bx (bv B) a1 F1 σ1.get h1 ρ2 F2 σ2.get h2->LS C B (λU=>False) [] ρ F u s.heap hb ρ2 F2 σ2 h2:=λL a st=>L.next hx (λU=>False.elim) (λU hb=>nomatch hb) a st
 by_cases aa:i<l.length
 ·have hd:l[i]? =some l[i]:=List.getElem?_eq_getElem aa;have J:∀{h9 ad W F9 af},LS C B (λU=>False) [] ρ F u s.heap h5 W F9 af h9->EK j0 j l St p I (i+1) W af->∃m,m<l.length+1-i/\pM C B (λU=>False) [] ρ F u s (λU U=>True) l.length (EK j0 j l St p I) m (wh s h9 ad):=λ{h9 ad W F9 af} L9 q=>
   pM.again L9 aa trivial q
  refine nW (s:=(wh s h5 an)) L5.a ao al hd λT s1 bj aw=>l4 aw λh6 am bk=>?_;try clear aw;subst bk;refine bj _ _ _ _ _ λh7 F7 a7 be r7=>(hT i l[i] au hd ah ao av F7 (wh s h7 am) (.ref T) a7<|.d r7).use λU h8 bu br F8 bt a8 aj hb=>(uy hb a8).use λok h9 ad W F9 af a9 ak ab=>?_;have L9:=nx (nx (nx L5 a7 be) a8 aj) a9 ak;have ag:=ak.HD _ _<|aj.HD _ _ ai
  have az:=ak.HD _ _<|aj.HD _ _ al
  cases ok with
  | false=>
   rw[if_neg Bool.false_ne_true] at ab⊢;exact J L9 ⟨ag,az,ab⟩
  | true=>
   rw[if_pos rfl] at ab⊢;refine(ab W F9 (wh s h9 ad) a9).go λyv bi a0 ay bh aq U ar O a2 hz=>iP hz λd2 acc bc hg hl bm=>?_;try clear hz;subst bc;have N:=O.HD _ _ ag;refine(kz (A:=A) (Q:=λU σ'=>σ'=aq.put (.tm j) (.Ha<|acc++[d2])) hg hl rfl ay bh (wh s bi a0) [.ref I,yv] ar<|.cons (.at (p:=(I,I)) N)<|.cons a2 .nil).go λU bs bp bo bq bn U bg Z U bl=>?_;subst bl;exact J (nx (nx L9 ar O) bg Z) ⟨Z.HD _ _ N,Z.HD _ _<|O.HD _ _ az,bm⟩
 ·have e:i=l.length:=Nat.le_antisymm hi<|Nat.le_of_not_lt aa
  clear hi aa;subst e;exact nM (s:=(wh s h5 an)) hh L5.a ao al λh6 a6 ba=>hE h6 an av F5 au _ (nx L5 a6 ba) ai ah
theorem wC:∀{C A f σ scope V own caps u tn W iter B I pos z l St Q}(hh:A.handled=none)(O:dz scope V own caps f)(J:σ.get (.tm z)=some (.enum l 0))(S:St 0 (xm own caps f σ))(hT:∀D,yd C A (cn scope V D own caps f) u tn W I B z σ.G8.length l St)(hE:∀σ',St l.length σ'->∃out,aC.get ⟨σ'.ls,σ'.G8.set z none,σ'.mem⟩ (.tm σ.G8.length)=some (.Ha out)/\Q (.d (.seq out)) ⟨σ.ls,(σ'.G8.set z none).set σ.G8.length none,σ'.mem⟩),lE C A f scope V (.ListComp B [⟨.Tuple u tn W,iter,I,0⟩] scope pos) (.at (.tm z)) σ Q:=by
 exists ce λC=>cx λA=>dO λf=>dR λσ=>aA λscope=>aA λV=>aA λown=>aA λcaps=>aA λu=>aA λtn=>aA λW=>aA λiter=>aA λB=>aA λI=>aA λpos=>aA λz=>aA λl=>aA λSt=>aA λQ=>aO _;intros;exact λ{ρ F s v} a r {RR} an=>by
  refine aG r.place λp hp al=>?_;clear r;subst al;refine aL (a.enum J hp) λaq ag=>u5 ag λax au o0 vs ah U=>wpAny_pyIter_enum ah<|l2 O a λh3 h4 ab a3 N k3 a4 k4 x4 ae=>?_
  have g:(xm own caps f σ).get=aC.get ⟨σ.ls,σ.G8++[some (.Ha [])],σ.mem⟩:=by funext k;cases k<;>rfl
  have xs:∀b,bv (cn scope V h3.objs.size own caps f) b->s.heap.get? b=none:=λb Z=>fF (x4 b Z)<|k3 b
  have ad:(xm own caps f σ).get (.tm z)=some (.enum l 0):=by
   have ak:z<σ.G8.length:=Nat.lt_of_not_le λq=>by
    have e:(σ.G8[z]?).join=some (.enum l 0):=J;rw[List.getElem?_eq_none q] at e;exact bU e
   show((σ.G8++[some (.Ha [])])[z]?).join=_;refine(ys<|List.getElem?_append_left ak)▸?_;exact J
  have af:ab (.tm z)=some p:=N.HD _ _ hp;refine aL (a4.enum (k:=.tm z) ad af) λU aj=>u5 aj λU U U U am U=>?_;have q:=gy (R:=RR (.ref s.heap.objs.size) h3.objs.size) (compTurn_list B (.Tuple u tn W) iter I scope pos (.ref p.1) (.ref s.heap.objs.size) (cn scope V h3.objs.size own caps f).env) _ (λk s' hk=>td hh (λb q=>.inr<|xs b q) (hT _) hk λh6 ap ar F6 ai Z L6 aa ao=>(hE ai ao).elim λout q=>rG a L6 aa q.1 q.2 (xs _<|.inl rfl) an) (l.length+1)
   (mI 0 h4 s.toks ab F (xm own caps f σ) rfl rfl ⟨Nat.zero_le _,trivial,⟨a4,g▸⟨N.HD,N.fz,λb o e n U=>k4 b o<|k3 b o e,λb q=>N.fresh b q⟩,λU Z=>(nomatch Z),λU Z=>(nomatch Z)⟩,ae,af,ad,S⟩)
  exact codeAny_compStart_list q<|wpAny_pyIter_enum am q
theorem yK(J:A.handled=none)(O:dz scope cl own caps f){z:Nat}{B:Pos}{pos:Pos}(St:aC->Nat->aC->Prop)
  (h:Ev C A f iter σ λx σ1=>∃u,x= .at (.tm u)/\σ1.get (.tm u)=some (.enum l 0)/\St σ1 0 (xm own caps f σ1)/\(∀D,yd C A (cn scope cl D own caps f) elts z B ifs elt u σ1.G8.length l (St σ1))/\
   ∀σ',St σ1 l.length σ'->∃out,aC.get ⟨σ'.ls,σ'.G8.set u none,σ'.mem⟩ (.tm σ1.G8.length)=some (.Ha out)/\Q (.d (.seq out)) ⟨σ1.ls,(σ'.G8.set u none).set σ1.G8.length none,σ'.mem⟩)
  (I:∀x,foldedSetIterable iter f.env x=pure x:=by intro _;rfl):Ev C A f (.ListComp elt [⟨.Tuple elts z B,iter,ifs,0⟩] scope pos) σ Q:=
 lR O (h.mono λx σ1 q=>q.elim λu q=>q.1▸wC J O q.2.1 q.2.2.1 q.2.2.2.1 q.2.2.2.2) I
theorem DY(q:Q (.d (.bool true)) σ):cO C A f (compareOp .Eq) (.d .none) (.d .none) σ Q:=λρ F s u v a z B=>by
 refine z.H7<|B.H7 ?_;exact EqNone.eq_none_none<|aS.same (tk:=s.toks) a<|aD _ (.d<|.bool _) q
theorem CY(q:Q (.d (.bool false)) σ):cO C A f (compareOp .NotEq) (.d .none) (.d .none) σ Q:=λρ F s u v a z B=>by
 refine z.H7<|B.H7 ?_;exact EqNone.ne_none_none<|aS.same (tk:=s.toks) a<|aD _ (.d<|.bool _) q
theorem BX(x:Option Int)(q:Q (.d (.bool true)) σ):cO C A f (compareOp .Eq) (.d (jT x)) (.d (jT x)) σ Q:=by
 cases x with
 |none=>exact DY q
 |some i=>exact yL (by rw[beq_self_eq_true];exact q)
theorem Ax(x:Option Int)(q:Q (.d (.bool false)) σ):cO C A f (compareOp .NotEq) (.d (jT x)) (.d (jT x)) σ Q:=by
 cases x with
 |none=>exact CY q
 |some i=>exact ym (by rw[bne_self_eq_false];exact q)
end
end
section
open PySem PySem.W PyProof.Rows PySem.Calls
section
variable {prog:Program} {w:World} {A:Around} {E:Value->Shared->Prop} {h:Heap} {g:Array GenState} {d:Drawn} {t:Nat} {os:OsState}
variable {nm q:Str} {C N:Addr} {bs bm:List Value} {hdct:Bool} {sn:List Str} {sub:List Value} {ab:Bool} {col:Option Bool} {dd:Option Addr} {k0 k1 k2 k3 k5:Option Value} {B newId initId:String}
noncomputable def pi(h:Heap)(C:Addr)(rest:List Value):Heap:=(h.push {cls:=.type "tuple",data:=.seq rest.toArray}).push {cls:=.ref C,data:=.fields #[.ref h.objs.size,.none,.none,.none,.bool false,.none]}
theorem m7(F:ExcBaseFacts B newId initId bm){mN:Str->Option Value}{rest:List Value}{fI:Addr}{Q:Fin->Shared->Prop}
  (J:h.get? C=some (excClassObj nm q C N bs bm hdct sn sub ab col dd k0 k1 k2 k3 k5 newId)) (hn:h.Ns N mN) (I:mN "__init__"=some (.ref fI)) (Z:∀h' z,(∀b o,h.get? b=some o->h'.get? b=some o)->Looks (model prog w) h' (bindSpecial (.ref fI) z) (.ref fI,[z]))
  (U:codeAny (model prog w) A (.call (.ref fI) ⟨.ref (h.objs.size+1)::rest,[]⟩) (λr s'=>r= .ok (.ret .none)/\Q (.done (.ret (.ref (h.objs.size+1)))) s') ⟨pi h C rest,g,d,t,os⟩) (hrest:rest.length<=sizeLine:=by size_fits):
  wpAny (model prog w) A (Builtin.«type.__call__» ⟨.ref C::rest,[]⟩) Q E ⟨h,g,d,t,os⟩:=by
 revert F J hn I Z U hrest;revert prog w A E h g d t os nm q C N bs bm hdct sn sub ab col dd k0 k1 k2 k3 k5 B newId initId mN rest fI Q;exists aA λprog=>zV λw=>cx λA=>aA λE=>aA λh=>aA λg=>i7 ⟨Drawn,{}⟩ λd=>aA λt=>aA λos=>aA λnm=>aA λq=>aA λC=>aA λN=>aA λbs=>aA λbm=>aA λhdct=>aA λsn=>aA λsub=>aA λab=>aA λcol=>aA λdd=>aA λk0=>aA λk1=>aA λk2=>aA λk3=>aA λk5=>aA λB=>aA λnewId=>aA λinitId=>aA λmN=>aA λrest=>aA λfI=>aA λQ=>aO _;intro prog w A E h g d t os nm q C N bs bm hdct sn sub ab col dd k0 k1 k2 k3 k5 B newId initId mN rest fI Q F J hn I Z U hrest
 repeat (first|with_reducible refine wpAny_loadPart_at J ?_|with_reducible refine wpAny_madeBy_exc J ?_|wp_step)
 refine codeAny_call_builtin_code (Code.quiet_builtin _ F.quiet)<|wpAny_check_new_sub F J ?_
 refine codeAny_exc_new_sub F J ?_ hrest;show wpAny _ _ _ _ _ _;have u:=Heap.get?_push_of_some {cls:=.ref C,data:=.fields #[.ref h.objs.size,.none,.none,.none,.bool false,.none]}
  (Heap.get?_push_of_some {cls:=.type "tuple",data:=.seq rest.toArray} J)
 have O:((h.push {cls:=.type "tuple",data:=.seq rest.toArray}).push {cls:=.ref C,data:=.fields #[.ref h.objs.size,.none,.none,.none,.bool false,.none]}).Ns N mN:=
  let⟨o,es,ep,e,r⟩:=hn;(rp o es ep (Heap.get?_push_of_some _<|Heap.get?_push_of_some _ e) r)
 have S:((h.push {cls:=.type "tuple",data:=.seq rest.toArray}).push
   {cls:=.ref C,data:=.fields #[.ref h.objs.size,.none,.none,.none,.bool false,.none]}).get? (h.objs.size+1)=some
   {cls:=.ref C,data:=.fields #[.ref h.objs.size,.none,.none,.none,.bool false,.none]}:=by heap_get
 have V:(Value.ref C::bm).contains (.ref C)=true:=by simp
 unfold isInstance
 repeat (first|with_reducible refine wpAny_loadPart_at S ?_|(with_reducible refine wpAny_isSubtype_exc u ?_;refine(ys V)▸?_)|wp_step)
 show wpAny _ _ (typeLookup (.ref C) _) _ _ _;refine wpAny_typeLookup_exc u O F.mroIs F.init.lookup<|(ys I)▸?_;refine wpAny_holding<|wpAny_bind<|(Z _ (.ref<|h.objs.size+1) λb o e=>Heap.get?_push_of_some _<|Heap.get?_push_of_some _ e).at ?_
 refine wpAny_bind<|wpAny_call<|codeAny_mono U λr s' W=>?_
 obtain⟨rfl,W⟩:=W
 wp_walk
 exact W
theorem oH(F:ExcBaseFacts B newId initId bm){J:Str->Option Value}{rest:List Value}{fI:Addr}{Q:Value->Shared->Prop}
  (z:h.get? C=some (excClassObj nm q C N bs bm hdct sn sub ab col dd k0 k1 k2 k3 k5 newId)) (hn:h.Ns N J) (I:J "__init__"=some (.ref fI)) (V:∀h' u,(∀b o,h.get? b=some o->h'.get? b=some o)->Looks (model prog w) h' (bindSpecial (.ref fI) u) (.ref fI,[u]))
  (U:codeAny (model prog w) (A.under (.builtin "type.__call__" ⟨.ref C::rest,[]⟩)) (.call (.ref fI) ⟨.ref (h.objs.size+1)::rest,[]⟩) (λr O=>r= .ok (.ret .none)/\Q (.ref (h.objs.size+1)) O) ⟨pi h C rest,g,d,t,os⟩) (hrest:rest.length<=sizeLine:=by size_fits):
  wpAny (model prog w) A (call (.ref C) rest) Q E ⟨h,g,d,t,os⟩:=by
 have f1:=tc_lookup;have W:=tc_bind<|.ref C
 have Z:(⟨h,g,d,t,os⟩:Shared).TypeIs (.ref C) "type":=aD _ z rfl;refine wpAny_call<|codeAny_of_tree ?_
 show wpAny _ _ (callAny (.ref C) _) _ _ _
 repeat (any_goals (first|assumption|with_reducible refine wpAny_loadPart_at z ?_|wp_step))
 refine⟨rfl,?_⟩;refine codeAny_call_builtin_at (Code.quiet_builtin _<|by decide+kernel) entry_typeCall<|wpAny_check_type_call_sub z<|m7 (hrest:=hrest) F z hn I V ?_
 exact codeAny_mono U λr O S=>⟨S.1,S.2⟩
theorem pE(F:ExcBaseFacts B newId initId bm){e:Addr}{I:Obj}{vs:Array Value}{t0:Addr}{rest:List Value}{Q:Value->Shared->Prop}
  (V:h.get? C=some (excClassObj nm q C N bs bm hdct sn sub ab col dd k0 k1 k2 k3 k5 newId)) (S:h.get? e=some I) (z:I.cls= .ref C) (O:I.data= .fields vs) (J:vs[0]? =some (.ref t0))
  (U:Q .none ⟨(h.push {cls:=.type "tuple",data:=.seq rest.toArray}).update e (Obj.mapFields (·.setIfInBounds 0 (.ref h.objs.size))),g,d,t,os⟩) (hrest:rest.length<=sizeLine:=by size_fits):
  wpAny (model prog w) A (call (.builtin initId) (.ref e::rest)) Q E ⟨h,g,d,t,os⟩:=by
 refine wpAny_call<|codeAny_call_builtin F.init.plain F.initEntry<|wpAny_check_init_sub F V S z ?_
 unfold Builtin.«BaseException.__init__»;dsimp only;rw[if_neg (by simp)];unfold newTuple Builtin.BaseException.bexcPut;have hsz:0<vs.size:=(Array.getElem?_eq_some_iff.mp J).1;have u:=Heap.get?_push_of_some (h:=h) {cls:=.type "tuple",data:=.seq rest.toArray} S;refine wpAny_bind (wpAny_newObj_type (wpAny_bind<|wpAny_bind<|wpAny_field u O J<|wpAny_bind<|wpAny_setField u O hsz ?_)<|by show rest.toArray.size<=sizeLine;refine(ys List.size_toArray)▸?_;exact hrest);exact wpAny_letGo<|wpAny_pure U
end
end
section
open PySem PySem.W PyProof.Rows PySem.Calls Builtin Builtin.ObjectAttr
section
variable {C:Cx} {A:Around}
noncomputable def bC(D:Addr)(dx:Option Addr)(fl:Array Value):Obj:={cls:=.ref D,dict:=dx,data:=.fields fl}
theorem n8:∀{C:Cx}{A:Around}{V:Obj}{od:Option Obj}{D x:Addr}{name:Str}{tk:Tok}{v:Value}{R:Result->Shared->Prop}{s:Shared}{J:List Value}(X:C.K.In s.heap)(I:InstAt s.heap x V D od)(hm:(clsIn C.K D).map (·.mro)=some (.ref D::J))(U:J.contains (.type "object")=true)(z:∀O,refuseLoop O "__setattr__" J=pure ())(ht:takerIn C.K D name=some none)(h:∀b,wpAny (model C.prog C.w) A.in1 (storeInOwnDict (.ref x) (.ref D) (.str name tk) name v b)
   (λZ S=>match Z with| .done f=>R (.ok f) S| .again c'=>c'.quiet=true/\codeAny (model C.prog C.w) A c' R S) (λe S=>R (.error e) S) s),codeAny (model C.prog C.w) A (.call (.builtin "object.__setattr__") ⟨[.ref x,.str name tk,v],[]⟩) R s:=by
 exists ce λC=>cx λA=>aA λV=>aA λod=>aA λD=>aA λx=>aA λname=>aA λtk=>aA λv=>aA λR=>eu λs=>aA λJ=>aO _;intros;have N:=PySem.F.store_object;refine aG (Option.map_eq_some_iff.mp hm) λcd hc u=>?_;have ne:cd.mro.isEmpty=false:=by rw[u];rfl
 have W:cd.mro.contains (.type "object")=true:=by rw[u,List.contains_cons,U,Bool.or_true]
 have aa:Looks (model C.prog C.w) s.heap (isInstance (.ref x)<|.type "object") true:=I.type.andThen (looks_mroIn X<|by unfold mroIn;rw[hc,Option.bind_some,if_neg (by rw[ne];decide),W]);refine codeAny_call_builtin N.slot.plain N.entry<|@check_slot (model C.prog C.w) _ _ s "object.__setattr__" "object" "__setattr__" (.ref x) [.str name tk,v] [] _ N.kind N.split aa (N.args (.ref x) (.str name tk) v) ?_
 refine aG (Option.bind_eq_some_iff.mp ht) λB ha hr=>?_;have ab:Looks (model C.prog C.w) s.heap (mroOf<|.ref D) cd.mro:=(looks_clsIn X hc).andThen .now;have L3:Looks (model C.prog C.w) s.heap (storeTaker? B) none:=by
  cases B with
  |none=>exact .now
  | some a=>
   refine aG (Option.map_eq_some_iff.mp hr) λb U e=>(looks_takesIn X U).andThen ?_;cases b<;>first|exact .now|exact jg e
 rw[osa_eq,refuse_eq];refine wpAny_bind<|wpAny_bind<|I.type.here<|wpAny_bind<|ab.here ?_
 rw[u,refuseLoop_ref,z];refine wpAny_pure<|wpAny_bind<|I.type.here<|wpAny_bind<|(looks_findIn X ha).here<|wpAny_bind<|L3.here ?_
 exact h _
theorem qg:∀{C:Cx}{A:Around}{bm:List Value}{R:Result->Shared->Prop}{x D:Addr}{fl:Array Value}{name:Str}{tk:Tok}{v:Value}{s:Shared}(X:C.K.In s.heap)(h1:s.heap.get? x=some (bC D none fl))(hp:(clsIn C.K D).map (·.mro)=some (.ref D::bm))(hb:bm.contains (.type "object")=true)(hpass:∀self,refuseLoop self "__setattr__" bm=pure ())(ht:takerIn C.K D name=some none)(hh:hasDictIn C.K D=true)(h:∀h',h'.get? x=some (bC D (some s.heap.objs.size) fl)->h'.get? s.heap.objs.size=some (dictOf [⟨PyData.keyHash C.w.params name,.str name s.toks,v⟩] 1)->(∀b o,b≠x->s.heap.get? b=some o->h'.get? b=some o)->R (.ok (.ret .none)) (wh s h' (s.toks+1))),codeAny (model C.prog C.w) A (.call (.builtin "object.__setattr__") ⟨[.ref x,.str name tk,v],[]⟩) R s:=by
 exists ce λC=>cx λA=>aA λbm=>aA λR=>aA λx=>aA λD=>aA λfl=>aA λname=>aA λtk=>aA λv=>eu λs=>aO _;intros;have I:InstAt s.heap x (bC D none fl) D none:=⟨h1,rfl,rfl,trivial⟩
 refine n8 X I hp hb hpass ht λb=>aG (any_some hh) λcd hc hd=>wpAny_bind<|wpAny_pure<|wpAny_bind<|wpAny_bind<|wpAny_loadPart h1<|wpAny_bind<|(looks_clsIn X hc).here ?_
 refine(ys hd)▸?_;show wpAny _ _ (alloc {cls:=.type "dict",data:=.dict #[]}>>=λd=>update x (λo=>{o with dict:=some d})>>=λU=>pure<|some d) _ _ s;have h1':(s.heap.push {cls:=.type "dict",data:=.dict #[]}).get? x=some (bC D none fl):=Heap.get?_push_of_some _ h1;have Iy:s.heap.objs.size≠x:=Nat.ne_of_gt<|Heap.lt_size h1
 refine wpAny_bind<|wpAny_alloc<|wpAny_bind<|wpAny_update h1'<|wpAny_pure ?_
 have hx2:((s.heap.push {cls:=.type "dict",data:=.dict #[]}).update x λo=>{o with dict:=some s.heap.objs.size}).get? x=some (bC D (some s.heap.objs.size) fl):=Heap.get?_update_self _ h1' rfl;have hd2:((s.heap.push {cls:=.type "dict",data:=.dict #[]}).update x λo=>{o with dict:=some s.heap.objs.size}).get? s.heap.objs.size=some (dictOf [] 0):=
  (Heap.get?_update_other _ _ Iy.symm).trans (Heap.get?_push_size _ rfl)
 refine wpAny_bind<|wpAny_pure<|wpAny_bind ?_
 unfold nsSet;refine wpAny_bind<|wpAny_bind<|wpAny_askSetting<|wpAny_pure<|wpAny_bind<|wpAny_mkText<|wpAny_bind<|wpAny_loadPart hd2 ?_
 dsimp only;rw[aRefKeyMayBeTheName_at,show(!([]:List DictEntry).toArray.any (·.key.isStr name)&&([]:List DictEntry).toArray.any (·.refKey))=false from by simp];refine wpAny_updatePart hd2 ?_;have D':(((s.heap.push {cls:=.type "dict",data:=.dict #[]}).update x λo=>{o with dict:=some s.heap.objs.size}).update s.heap.objs.size<|Obj.putName name (PyData.keyHash C.w.params name) (.str name s.toks) v).get? s.heap.objs.size=some (dictOf (putL name (PyData.keyHash C.w.params name) (.str name s.toks) v [])<|putN name [] 0):=by
  rw[<-putName_dict];exact Heap.get?_update_self _ hd2 (by rw[putName_dict];rfl)
 refine wpAny_bind (wpAny_lookBehind D' (pastItsLine_dict<|by simp[putL]) ?_);refine wpAny_pure<|h _ ?_ D' λb o hb e=>?_
 ·refine(ys<|Heap.get?_update_other _ _ Iy)▸?_;exact hx2
 ·have hlt:=Heap.lt_size e;refine(ys<|Heap.get?_update_other _ _<|Nat.ne_of_gt hlt)▸(ys<|Heap.get?_update_other _ _<|λq=>hb q.symm)▸?_;exact Heap.get?_push_of_some _ e
set_option tactic.hygienic true in
theorem th:∀{C:Cx}{A:Around}{bm:List Value}{R:Result->Shared->Prop}{x dx D:Addr}{fl:Array Value}{es:List DictEntry}{n:Nat}{name:Str}{tk:Tok}{v:Value}{s:Shared}(X:C.K.In s.heap)(h1:s.heap.get? x=some (bC D (some dx) fl))(h2:s.heap.get? dx=some (dictOf es n))(hp:(clsIn C.K D).map (·.mro)=some (.ref D::bm))(hb:bm.contains (.type "object")=true)(hpass:∀self,refuseLoop self "__setattr__" bm=pure ())(ht:takerIn C.K D name=some none)(hh:hasDictIn C.K D=true)(hl:(getL name es).isSome=true)(hz:(putL name (PyData.keyHash C.w.params name) (.str name s.toks) v es).length<=1000)(h:∀h',h'.get? dx=some (dictOf (putL name (PyData.keyHash C.w.params name) (.str name s.toks) v es) (putN name es n))->Heap.SameBut dx s.heap h'->R (.ok (.ret .none)) (wh s h' (s.toks+1))),codeAny (model C.prog C.w) A (.call (.builtin "object.__setattr__") ⟨[.ref x,.str name tk,v],[]⟩) R s:=by
 exists ce λC=>cx λA=>aA λbm=>aA λR=>aA λx=>aA λdx=>aA λD=>aA λfl=>aA λes=>aA λn=>aA λname=>aA λtk=>aA λv=>eu λs=>aO _;intro C A bm R x dx D fl es n name tk v s X h1 h2 hp hb hpass ht hh hl hz h;have I:InstAt s.heap x (bC D (some dx) fl) D (some<|dictOf es n):=⟨h1,rfl,rfl,h2⟩
 refine n8 X I hp hb hpass ht λb=>aG (any_some hh) λcd hc hd=>?_;have D':(s.heap.update dx<|Obj.putName name (PyData.keyHash C.w.params name) (.str name s.toks) v).get? dx=some (dictOf (putL name (PyData.keyHash C.w.params name) (.str name s.toks) v es)<|putN name es n):=by
  rw[<-putName_dict];exact Heap.get?_update_self _ h2 (by rw[putName_dict];rfl)
 refine wpAny_bind<|wpAny_pure<|wpAny_bind<|wpAny_bind<|wpAny_loadPart h1<|wpAny_bind<|(looks_clsIn X hc).here ?_
 refine(ys hd)▸?_;refine wpAny_pure (a:=some dx)<|wpAny_bind<|wpAny_pure<|wpAny_bind ?_
 unfold nsSet;refine wpAny_bind<|wpAny_bind<|wpAny_askSetting<|wpAny_pure<|wpAny_bind<|wpAny_mkText<|wpAny_bind<|wpAny_loadPart h2 ?_
 have c:(!es.toArray.any (·.key.isStr name)&&es.toArray.any (·.refKey))=false:=by
  unfold getL at hl;refine Array.any_toList▸Array.any_toList▸?_
  split at hl
  ·rename_i en he
   refine(ys<|List.any_eq_true.mpr<|aD en (List.mem_of_find?_eq_some he)<|List.find?_some he)▸?_;rfl
  ·split at hl
   ·exact jn hl
   ·rename_i z;rw[Bool.not_eq_true] at z;rw[show es.toArray.toList=es from rfl,z,Bool.and_false]
 dsimp only;rw[aRefKeyMayBeTheName_at,c];refine wpAny_updatePart h2<|wpAny_bind (wpAny_lookBehind D' (pastItsLine_dict<|by refine(ys List.size_toArray)▸(ys sizeLine_eq)▸?_;exact bw [_] [] 0x3e8290000305400000194c0001 ft hz) ?_);exact wpAny_pure<|h _ D'<|Heap.SameBut.update ..
end
end
section
open PySem PySem.W PyProof.Rows PySem.Calls
section
variable {prog:Program} {w:World} {A:Around} {E:Value->Shared->Prop} {s:Shared} {K:Frag} {x C:Addr} {ox:Obj} {od:Option Obj} {name:Str} {expr:Bool} {Q:Value->Shared->Prop}
theorem yg:builtinKind "BaseException.__getattribute__"=some .slot:=by decide+kernel
theorem vk:splitId "BaseException.__getattribute__"=some ("BaseException","__getattribute__"):=by decide+kernel
theorem By:∀{prog w A E s K x C ox od name expr Q v}(X:K.In s.heap)(I:W.InstAt s.heap x ox C od)(hga:findIn K (.ref C) "__getattribute__"=some (some (.builtin "BaseException.__getattribute__")))(hgb:findIn K (.ref C) "__getattr__"=some none)(hsub:mroIn K C (.type "BaseException")=some true)(hf:findObj K C od name=some (.value v))(hh:handedIn v=true)(h:Q v {s with toks:=s.toks+1}),wpAny (model prog w) A (getAttr (.ref x) name expr) Q E s:=by
 intro prog w A E s K x C ox od name expr Q v X I hga hgb hsub hf hh h
 obtain⟨hp,g,d,t,os⟩:=s
 have L0:=I.type (M:=model prog w)
 have L1:=looks_findIn (M:=model prog w) X hga
 have L2:=looks_findIn (M:=model prog w) X hgb
 have f3:=F.attr_Exception.ga.bind<|.ref x
 have hx0:(expr&&onTheHeap (Value.builtin "BaseException.__getattribute__"))=false:=by cases expr<;>rfl
 have hx2:(Value.builtin "BaseException.__getattribute__"==Value.builtin "object.__getattribute__")=false:=by decide+kernel
 have hx1:(onTheHeap (Value.ref C)&&Value.builtin "BaseException.__getattribute__"==Value.builtin "object.__getattribute__")=false:=by refine(ys hx2)▸?_;rfl
 unfold getAttr getAttrBy
 refine wpAny_bind<|wpAny_mkText<|wpAny_holding<|wpAny_bind<|L0.at<|wpAny_bind<|L1.at ?_
 show wpAny _ _ (if(onTheHeap (Value.ref C)&&Value.builtin "BaseException.__getattribute__"==Value.builtin "object.__getattribute__")=true then _ else _) _ _ _
 refine(ys hx1)▸?_
 show wpAny _ _ (getAttrByItsOwn _ _ _ _ _ _) _ _ _
 unfold getAttrByItsOwn
 show wpAny _ _ (typeLookup (.ref C) "__getattr__">>=_) _ _ _
 refine wpAny_bind<|L2.at ?_
 have LT:Looks (model prog w) hp (isInstance (.ref x)<|.type "BaseException") true:=I.type.andThen<|looks_mroIn X hsub
 have LF:=looks_find (M:=model prog w) X I hf
 have body:∀(Q' E':Value->Shared->Prop),Q' v ⟨hp,g,d,t+1,os⟩->wpAny (model prog w) A (call (.builtin "BaseException.__getattribute__") [.ref x,.str name t]) Q' E' ⟨hp,g,d,t+1,os⟩:=by
  intro Q' E' h
  refine wpAny_call<|codeAny_call_builtin F.attr_Exception.ga.plain F.entry_bexc_ga<|@check_slot (model prog w) _ _ ⟨hp,g,d,t+1,os⟩ "BaseException.__getattribute__" "BaseException" "__getattribute__" (.ref x) [.str name t] [] _ yg vk LT (F.args_bexc_ga _ _) ?_
  unfold Builtin.«object.__getattribute__»
  refine wpAny_bind<|wpAny_pure<|wpAny_bind<|wpAny_pure<|wpAny_bind<|L0.at<|wpAny_bind<|LF.at ?_
  first|exact wpAny_pure ⟨_,rfl,h⟩|exact wpAny_pure h
 refine wpAny_bind<|wpAny_attempt<|wpAny_holding ?_
 unfold callGetattribute
 refine(ys hx0)▸?_
 show wpAny _ _ (boundAndCalled _ _ _) _ _ _
 unfold boundAndCalled
 refine wpAny_bind<|wpAny_of_eq f3 ?_
 refine body _ _ ?_
 show wpAny _ _ (handedOut v) _ _ _
 refine(ys<|handedOut_of hh)▸?_;exact wpAny_pure h
end
end
section
section
variable {C:Cx} {A:Around} {f:Fc} {σ:aC}
open PySem.Calls
theorem tT:∀{C A f σ x y Q}(hz:x.length+y.length<=1000)(q:Q (.d (.str (x++y))) σ),cO C A f (binaryOp .Add) (.d (.str x)) (.d (.str y)) σ Q:=by
 exists ce λC=>cx λA=>dO λf=>dR λσ=>aA λx=>aA λy=>aA λQ=>aO _;intro C A f σ x y Q hz q;exact λρ F s u v a r1 r2=>by
  revert a r1 r2;revert ρ F s u v;exists aA λρ=>aA λF=>eu λs=>aA λu=>aA λv=>aO _;intro ρ F s u v a r1 r2;have r1:=r1.dv;have r2:=r2.dv;cases r1;cases r2;revert r1 r2;revert t t_1;exists aA λt=>aA λt_1=>aO _;intro t t_1 r1 r2;exact add_str (λt' tk=>aS.same (tk:=tk) a<|aD _ (.d<|.str _ t') q) (Nat.le_trans hz<|by decide)
theorem BB:∀{C A f σ i Q}(hi:(if i<0 then 0-i else i)<1000000)(q:Q (.d (.str (toString i))) σ),Cl C A f (.type "str") [.d (.int i)] σ Q:=by
 exists ce λC=>cx λA=>dO λf=>dR λσ=>aA λi=>aA λQ=>aO _;intros;exact λρ F s vs a r=>by
  revert ρ F s vs;exists aA λρ=>aA λF=>eu λs=>aA λvs=>aO _;intros;refine r.one λu=>?_;have u:=u.dv;cases u;revert t;exists aA λt=>aO _;intros;exact str_of_int_fit hi (by decide) λU=>aS.same (tk:=s.toks+1) a<|aD _ (.d<|.str _ _) q
theorem yu{w:World}{K:Frag}{pl:Sem Bool}{Q:Value×List Value->Shared->Prop}(X:K.In s.heap)
  (e:findCls K (.type "Exception") (.type "type") "__init__"=some (.val (.builtin "Exception.__init__")))
  (h:Q (.builtin "Exception.__init__",[]) {s with toks:=s.toks+1}):wpAny (model prog w) A (getMethod (.type "Exception") "__init__" pl) Q E s:=by
 have hstub:opaqueClassAbove (.type "Exception")=pure none:=by unfold opaqueClassAbove;dsimp only;refine(ys<|show Manifest.isStub "Exception"=false by decide+kernel)▸?_;rfl
 have ht:typeOf (.type "Exception")=pure (.type "type"):=by first|rfl|kernel_rfl
 have L0:Looks (model prog w) s.heap (typeOf<|.type "Exception") (.type "type"):=Looks.of_pure ht;have hg:findIn K (.type "type") "__getattribute__"=some (some<|.builtin "type.__getattribute__"):=type_tga;unfold getMethod specialOf;refine wpAny_bind<|wpAny_bind<|L0.here<|(looks_findIn X hg).here ?_
 dsimp only;refine(ys<|if_pos canon_tga)▸?_;refine wpAny_bind<|wpAny_mono (Q:=λv=>Q (v,[])) (E:=E) ?_ (λU U z=>wpAny_pure z) λU U z=>z
 have LO:Looks (model prog w) s.heap (opaqueClassAbove<|.type "Exception") none:=Looks.of_pure hstub;refine cls_open X LO L0 hg (looks_hook X (r:=none)<|by rfl) (by show subIn K _ _=_;rfl) e<|wpAny_pure ?_;show wpAny _ _ (handedOut _) _ _ _;rw[handedOut_of (by rfl)];exact wpAny_pure h
end
end
section
section
variable {C:Cx} {A:Around} {f:Fc} {σ:aC}
theorem oX:bootBuiltins "Exception"=some (.type "Exception"):=by rfl
theorem sS(G:Gd C){N u pos:Pos}{pl:Sem Bool}(e:nsIn C.K mainGlobals "Exception"=some none)(O:f.env.kindOf "Exception"=some .globalImplicit)
  (hf:findCls C.K (.type "Exception") (.type "type") "__init__"=some (.val (.builtin "Exception.__init__"))) (hk:di C.K (.builtin "Exception.__init__")=true) (V:c8 f args) (hn:eS f pos args) (he:jq f (.Name "Exception" N) "__init__" u pos args pl)
  (h:jo C A f pos args σ λxs σ2=>Cl C A f (.builtin "Exception.__init__") xs σ2 Q):Ev C A f (.Call (.Attribute (.Name "Exception" N) "__init__" u) args [] pos) σ Q:=λρ F s a=>by
 refine MethodCall_ (pl:=pl) ((CA (Q:=λy σ1=>y= .val (.type "Exception")/\jo C A f pos args σ1 λxs σ2=>Cl C A f (.builtin "Exception.__init__") xs σ2 Q) G e oX (by decide) O rfl ⟨rfl,h⟩ ρ F s a).use λv1 U I aa F1 σ1 J B z=>cj z λy S W Z=>?_) he;subst W;refine S.Ia<|yu (G.at J) hf ?_;exact(fP (first:=[]) (s:=(wh s U<|I+1)) G hk V hn Z J .nil).cont B J
end
end
section
set_option genInjectivity false
open PySem PySem.W PyProof.Rows PySem.Calls
section
variable {C:Cx} {A:Around} {f:Fc} {σ:aC}
theorem bX{u:Type}{x y:u}(h:x=(y,y).1\/x=(y,y).2):x=y:=h.elim id id
theorem At.IW(a:At C f ρ F σ h)(i:Nat):At C f ρ F ⟨σ.ls,σ.G8.set i none,σ.mem⟩ h/\∀b,bY ρ (aC.get ⟨σ.ls,σ.G8.set i none,σ.mem⟩) b->bY ρ σ.get b:=by
 have u:∀k o,aC.get ⟨σ.ls,σ.G8.set i none,σ.mem⟩ k=some o->σ.get k=some o:=λk o e=>by
  cases k with
  |sk n=>exact e
  | tm j=>
   simp only[aC.get] at e⊢
   by_cases q:i=j
   ·subst q;rw[List.getElem?_set_self'] at e;cases B:σ.G8[i]? <;>rw[B] at e<;>exact bU e
   ·rwa [List.getElem?_set_ne q] at e
 have z:∀b,bY ρ (aC.get ⟨σ.ls,σ.G8.set i none,σ.mem⟩) b->bY ρ σ.get b:=λb N=>ca N λk o p I B J=>bH k o p (u _ _ I) B J;refine⟨⟨⟨a.H.base,a.H.HC,λk o e=>a.H.obj k o<|u _ _ e,λk o p b I B J=>a.H.sep k o p b (u _ _ I) B J,λk U o o' p S b I B=>a.H.inj k U o o' p S b (u _ _ I)<|u _ _ B⟩,
  {a.R with Hj:=λb V O=>a.R.Hj b V (z b O)},λj W=>a.fin j (by simpa using W),a.HN⟩,z⟩
theorem bx.HS{X:Addr->Prop}{u:Pl}{B:Fz}{I N:bR}{z:Heap}(J:bx X u B I z ρ F g h)(S:∀k q,ρ k=some q->ρ' k=some q)(hn:∀b,(b=p.1\/b=p.2)->z.get? b=none)
  (O:∀b,bY ρ' N b->(b=p.1\/b=p.2)\/bY ρ g b):bx X u B I z ρ' F N h:=
 ⟨λk q e=>S _ _<|J.HD _ _ e,J.fz,J.keep,λb e=>by
  rcases e with e|e
  ·rcases O b e with q|q
   ·exact .inr<|.inr<|hn b q
   ·exact J.fresh b<|.inl q
  ·exact J.fresh b<|.inr e⟩
theorem At.raw(a:At C f ρ F σ h){e:Addr}{o:Obj}(J:σ.get k=some (.Hb e o)):ρ k=some (e,e)/\h.get? e=some o:=by
 refine cj (a.H.obj k _ J) λp N u B=>aL u λI z=>?_;obtain⟨p1,p2⟩:=p;simp only at I z B;subst I z;exact⟨N,B⟩
structure mX(C:Cx)(D fI:Addr)(bm:List Value)(newId initId:String):Prop where
 base:ExcBaseFacts "Exception" newId initId bm
 obj:∃nm q N bs hdct sn sub ab col dd k0 k1 k2 k3 k5 mN,(∀h,C.K.In h->h.get? D=some (excClassObj nm q D N bs bm hdct sn sub ab col dd k0 k1 k2 k3 k5 newId)/\h.Ns N mN)/\mN "__init__"=some (.ref fI)
 mro:(clsIn C.K D).map (·.mro)=some (.ref D::bm)
 IB:bm.contains (.type "object")=true
 pass:∀self,refuseLoop self "__setattr__" bm=pure ()
 sa:findIn C.K (.ref D) "__setattr__"=some (some (.builtin "object.__setattr__"))
 hd:hasDictIn C.K D=true
theorem mX.objE{fI:Addr}{u B:String}(O:mX C D fI bm u B){R:Prop}(k:∀nm q N W z U J ab I dd Z V k2 k3 k5 S,(∀h,C.K.In h->h.get? D=some (excClassObj nm q D N W bm z U J ab I dd Z V k2 k3 k5 u)/\h.Ns N S)->S "__init__"=some (.ref fI)->R):R:=by
 obtain⟨nm,q,N,W,z,U,J,ab,I,dd,Z,V,k2,k3,k5,S,ad,aa⟩:=O.obj;exact k nm q N W z U J ab I dd Z V k2 k3 k5 S ad aa
theorem tM{fI:Addr}{z u:String}(G:Gd C)(O:mX C D fI bm z u){e t0:Addr}{I:Option Addr}{fl:Array Value}(J:σ.get k=some (.Hb e (bC D I fl)))(h0:fl[0]? =some (.ref t0))
  (q:∀t,Q (.d .none) (σ.put k (.Hb e (bC D I (fl.setIfInBounds 0 (.ref t)))))):Cl C A f (.builtin u) [.val (.ref e),x] σ Q:=λρ F s vs a r=>by
 refine r.two λr1 r2=>r1.Ia ?_
 rename_i W
 refine O.objE λnm q' N bs aa sn af ab ad dd k0 k1 k2 k3 k5 mN V ae=>?_;have hC:=(V _<|G.at a).1;have S:=(a.raw J).1;have Z:=(a.raw J).2;obtain⟨B,g,d,tk,os⟩:=s;refine pE (t0:=t0) (rest:=[W]) O.base hC Z rfl rfl h0 ?_ (by show 1<=sizeLine;decide+kernel);have U:((B.push {cls:=.type "tuple",data:=.seq [W].toArray}).update e<|Obj.mapFields (·.setIfInBounds 0 (.ref B.objs.size))).get? e=some (bC D I<|fl.setIfInBounds 0<|.ref B.objs.size):=
  Heap.get?_update_self _ (Heap.get?_push_of_some _ Z) rfl
 refine aS.upd (s:=⟨B,g,d,tk,os⟩) (o':=.Hb e<|bC D I<|fl.setIfInBounds 0<|.ref B.objs.size) a J S (.inl rfl) (λb ob hb eb=>?_) ⟨⟨rfl,rfl⟩,U⟩<|aD _ (.d .none)<|q _
 rw[Heap.get?_update_other _ _ (Ne.symm hb)];exact Heap.get?_push_of_some _ eb
theorem wi{e d:Addr}{o u o2:Obj}{Q:aC->Prop}(hk:∀b S,b≠e->s.heap.get? b=some S->h'.get? b=some S)(a:At C f ρ F σ s.heap)(I:σ.get k=some (.Hb e o))(B:ρ k=some (e,e))(z:s.heap.get? d=none)(V:h'.get? e=some u)(d1:h'.get? d=some o2)
  (q:Q ⟨(σ.put k (.Hb e u)).ls,(σ.put k (.Hb e u)).G8++[some (.Hb d o2)],(σ.put k (.Hb e u)).mem⟩):aS C f ρ F σ s (λ_ _ (_:Unit) σ'=>Q σ') () (wh s h' tk):=by
 have W:=a.upd (o':=.Hb e u) I B (.inl rfl) hk ⟨⟨rfl,rfl⟩,V⟩;have O:=a.HQ z;exact(W.HS (p:=(d,d)) (po:=.Hb d o2) (λb N=>bX N▸⟨λU=>O.1<|(gp I).mp U,O.2⟩) ⟨⟨rfl,rfl⟩,d1⟩).elim λρ2 J=>bS h' tk ρ2 F _ rfl J.2.2.1 ((bx.upd I B (.inl rfl) hk).HS (p:=(d,d)) J.1 (λb N=>bX N▸z) J.2.2.2) q
theorem AV:∀{C:Cx}{A:Around}{f:Fc}{σ:aC}{D fI:Addr}{bm:List Value}{newId initId:String}{o:Expr}{attr:Str}{pos:Pos}{i:Int}{Q:aC->Prop}(G:Gd C)(O:mX C D fI bm newId initId)(ht:takerIn C.K D attr=some none)(h:Ev C A f o σ λy σ1=>∃k e fl,y= .val (.ref e)/\σ1.get k=some (.Hb e (bC D none fl))/\∀d t1 t2,d≠e->Q ⟨σ1.ls,(σ1.put k (.Hb e (bC D (some d) fl))).G8++[some (.Hb d (dictOf [⟨PyData.keyHash C.w.params attr,.str attr t1,.int i t2⟩] 1))],(σ1.put k (.Hb e (bC D (some d) fl))).mem⟩),As C A f (λv=>assign (.Attribute o attr pos) f.env v) (.d (.int i)) σ Q:=by
 show∀C A f σ D fI bm newId initId o attr pos i Q,_;exists ce λC=>cx λA=>dO λf=>dR λσ=>aA λD=>aA λfI=>aA λbm=>aA λnewId=>aA λinitId=>aA λo=>aA λattr=>aA λpos=>aA λi=>aA λQ=>aO _,h _ _ _ _ _ _ _ _ _ _ _ _ _ _;intro C A f σ D fI bm newId initId o attr pos i Q G O ht h;exact λρ F s a z r=>by
  show wpAny _ _ (do
   let ov<-holding [a] (eval o f.env)
   standAt pos.atName
   holding [a,ov] (setAttr ov attr a)
   release [a,ov] []) _ _ _
  refine r.HH (X:=λa=>fw C A f (do
   let ov<-holding [a] (eval o f.env)
   standAt pos.atName
   holding [a,ov] (setAttr ov attr a)
   release [a,ov] []) ρ F σ s _) λtz=>?_
  refine wpAny_bind (wpAny_holding ((h ρ F s z).go λv1 h1 tk1 ρ1 F1 σ1 y a1 st1 ry q=>D9 q λk e fl q=>?_));refine aW.Ia (X:=λv1=>wpAny _ _ (do
   standAt pos.atName
   holding [Value.int i tz,v1] (setAttr v1 attr (Value.int i tz))
   release [Value.int i tz,v1] []) _ _ _) (q.1▸ry) ?_
  have hg:=q.2.1;have he:=a1.raw hg;refine wpAny_bind (wpAny_standAt (wpAny_bind (wpAny_holding ?_)));refine set_plain (G.at a1) (od:=none) ⟨he.2,rfl,rfl,trivial⟩ O.sa (qg (s:=(wh s h1 (tk1+1))) (G.at a1) he.2 O.mro O.IB O.pass ht O.hd λh' e1 d1 kp=>?_);refine wpAny_release' (aS.after (tk:=tk1) st1 a1 ?_);have new:=aZ h1;refine wi (hk:=kp) (o2:=dictOf [⟨PyData.keyHash C.w.params attr,.str attr (tk1+1),.int i tz⟩] 1) a1 hg he.1 new e1 d1 ?_;have q:=q.2.2 h1.objs.size (tk1+1) tz (λq=>by rw[q] at new;cases he.2.symm.trans new);refine(ys tD)▸?_;exact q
theorem zt{I:Str}{z:Int}{key v:Value}:∀u:List DictEntry,(putL I z key v u).length<=u.length+1:=λu=>by
 induction u with
 |nil=>exact Nat.le_refl _
 | cons en u B=>
  unfold putL
  split
  ·exact Nat.le_succ _
  ·exact Nat.succ_le_succ B
theorem ux:∀{C:Cx}{A:Around}{f:Fc}{σ:aC}{D fI:Addr}{bm:List Value}{newId initId:String}{o:Expr}{attr:Str}{pos:Pos}{x:PV}{Q:aC->Prop}(G:Gd C)(O:mX C D fI bm newId initId)(ht:takerIn C.K D attr=some none)(h:Ev C A f o σ λy σ1=>∃k k2 e d fl es n,y= .val (.ref e)/\σ1.get k=some (.Hb e (bC D (some d) fl))/\σ1.get k2=some (.Hb d (dictOf es n))/\d≠e/\(getL attr es).isSome=true/\es.length<=900/\
   ∀t1 v,handedIn v=true->(∀i,x= .d (.int i)->∃t,v= .int i t)->Q (σ1.put k2 (.Hb d (dictOf (putL attr (PyData.keyHash C.w.params attr) (.str attr t1) v es) (putN attr es n)))))(hx:x.handed=true),As C A f (λv=>assign (.Attribute o attr pos) f.env v) x σ Q:=by
 show∀C A f σ D fI bm newId initId o attr pos x Q,_;exists ce λC=>cx λA=>dO λf=>dR λσ=>aA λD=>aA λfI=>aA λbm=>aA λnewId=>aA λinitId=>aA λo=>aA λattr=>aA λpos=>oO λx=>aA λQ=>aO _,h _ _ _ _ _ _ _ _ _ _ _ _ _ _;intro C A f σ D fI bm newId initId o attr pos x Q G O ht h hx;exact λρ F s a z r=>by
  revert z r;revert ρ F s a;show∀ρ F s a,_;exists aA λρ=>aA λF=>eu λs=>aA λa=>aO _,h _ _ _ _;intro ρ F s a z r;show wpAny _ _ (do
   let ov<-holding [a] (eval o f.env)
   standAt pos.atName
   holding [a,ov] (setAttr ov attr a)
   release [a,ov] []) _ _ _
  refine wpAny_bind (wpAny_holding ((h ρ F s z).go λv1 h1 tk1 ρ1 F1 σ1 y a1 st1 ry q=>ex4 q λk k2 e d q=>D9 q λfl es n q=>?_));refine aW.Ia (X:=λv1=>wpAny _ _ (do
   standAt pos.atName
   holding [a,v1] (setAttr v1 attr a)
   release [a,v1] []) _ _ _) (q.1▸ry) ?_
  have he:=a1.raw q.2.1;have hd:=a1.raw q.2.2.1;refine wpAny_bind (wpAny_standAt (wpAny_bind (wpAny_holding ?_)));refine set_plain (G.at a1) (od:=some (dictOf es n)) ⟨he.2,rfl,rfl,hd.2⟩ O.sa (th (s:=(wh s h1 (tk1+1))) (G.at a1) he.2 hd.2 O.mro O.IB O.pass ht O.hd q.2.2.2.2.1 (Nat.le_trans (zt es) (Nat.le_trans (Nat.succ_le_succ q.2.2.2.2.2.1) (by decide))) λh' d1 sb=>?_);refine wpAny_release' (aS.after (tk:=tk1) st1 a1 ?_);exact aS.upd (o':=.Hb d (dictOf (putL attr (PyData.keyHash C.w.params attr) (.str attr (tk1+1)) a es) (putN attr es n))) (s:=(wh s h1 tk1)) a1 q.2.2.1 hd.1 (.inl rfl) (λb ob hb eb=>sb.extBut b ob hb eb) ⟨⟨rfl,rfl⟩,d1⟩ (q.2.2.2.2.2.2 _ _ (r.handed hx) (λi e=>aW.HH (X:=λa=>∃t,a= .int i t) (e▸r) λt=>⟨t,rfl⟩))
end
end
section
open PySem PySem.W PyProof.Rows PySem.Calls
section
variable {C:Cx} {A:Around} {f:Fc} {σ:aC}
noncomputable def Eh(D:Addr)(P:Array Value->List DictEntry->Prop)(mem:aQ)(e:Addr)(x:Fl)(σ':aC):Prop:=x= .next/\∃ls d fl es n,d≠e/\P fl es/\σ'=⟨ls,[some (.Hb e (bC D (some d) fl)),some (.Hb d (dictOf es n))],mem⟩
noncomputable def Ea(t:Addr):Array Value:=#[.ref t,.none,.none,.none,.bool false,.none]
theorem yM{fc:Fc}{V:Pl}{g1:bR}{O u:Heap}{σ1:aC}{e d:Addr}{p2:PO}(hs:σ1.mem=σ.mem)(gD:σ1.get (.tm 1)=some p2)(rD:ρ' (.tm 1)=some (d,d))(a':At C fc ρ' F' σ1 h')(ad:d≠e)(J:O.get? e=none)
  (W:bx (bv fc) V F g1 u ρ' F' σ1.get h') (ab:∀k q,bJ ρ k=some q->V k=some q) (N:∀b,bY V g1 b->b=e\/bY (bJ ρ) (aH σ.mem) b) (z:∀b o,O.get? b=some o->u.get? b=some o) (aa:∀b,bv fc b->O.get? b=none) (S:∀b,bY (bJ ρ') (aH σ1.mem) b->b≠e/\b≠d):
  O.get? d=none/\bx (λU=>False) (bJ ρ) F (aH σ.mem) O (bJ ρ') F' (aH σ.mem) h':=by
 have fF:∀b,u.get? b=none->O.get? b=none:=λb I=>by
  cases e2:O.get? b with
  |none=>rfl
  |some o=>rw[z _ _ e2] at I;exact jg I
 have B:∀b,(bY ρ' σ1.get b\/∃o,F' b o)->b≠e->bY (bJ ρ) (aH σ.mem) b\/(∃o,F b o)\/O.get? b=none:=λb hb ae=>
  (W.fresh b hb).elim (λq=>(N b q).elim (λq=>(ae q).elim) .inl) λq=>.inr<|q.imp id<|fF b
 refine⟨?_,λk p e=>?_,W.fz,λb o I n1 U=>?_,λb hb=>?_⟩
 ·rcases B d (.inl<|bH _ _ _ gD rD<|.inl rfl) ad with⟨k,o,p,I,e2,e3⟩|⟨o,q⟩|q
  ·cases k with
   |tm i=>exact bU I
   |sk n=>exact((S d<|bH (.sk n) o p (hs▸I) (W.HD _ _<|ab _ _ e2) e3).2 rfl).elim
  ·exact(a'.H.sep _ _ _ d gD rD (.inl rfl) o<|W.fz _ _ q).elim
  ·exact q
 ·cases k with
  |sk n=>exact W.HD _ _<|ab _ _ e
  |tm i=>exact bU e
 ·exact W.keep b o (z _ _ I) (λn2=>(N b n2).elim (λq=>by rw[q,J] at I;exact bU I) n1) λha=>nomatch (aa b ha).symm.trans I
 ·by_cases Z:b=e
  ·exact .inr<|.inr<|Z▸J
  ·exact B b (hb.imp (λq=>cs<|hs▸q) id) Z
theorem xD:∀{C f σ fc ρ N ρ' F F' g1 W z h' σ1 e d p1 p2}(a:At C f ρ F σ W)(ht:aU σ.G8)(hm:aN σ.mem)(hs:σ1.mem=σ.mem)(gE:σ1.get (.tm 0)=some p1)(gD:σ1.get (.tm 1)=some p2)(a':At C fc ρ' F' σ1 h')(rE:ρ' (.tm 0)=some (e,e))(rD:ρ' (.tm 1)=some (d,d))(ab:d≠e)(J:W.get? e=none)(st:bx (bv fc) N F g1 z ρ' F' σ1.get h')(ad:∀k q,bJ ρ k=some q->N k=some q)(aa:∀b,bY N g1 b->b=e\/bY (bJ ρ) (aH σ.mem) b)(O:∀b o,W.get? b=some o->z.get? b=some o)(Z:∀b,bv fc b->W.get? b=none)(r1:∀ρ F,c9 C ρ F h' (e,e) p1)(r2:∀ρ F,c9 C ρ F h' (d,d) p2),∃V,At C f V F' ⟨σ.ls,(σ.G8++[some p1])++[some p2],σ.mem⟩ h'/\bx (bv f) ρ F σ.get W V F' (aC.get ⟨σ.ls,(σ.G8++[some p1])++[some p2],σ.mem⟩) h':=by
 exists ce λC=>dO λf=>dR λσ=>dO λfc=>aA λρ=>aA λN=>aA λρ'=>aA λF=>aA λF'=>aA λg1=>aA λW=>aA λz=>aA λh'=>dR λσ1=>aA λe=>aA λd=>yG λp1=>yG λp2=>aO _;intros;have u:∀b,bY (bJ ρ') (aH σ1.mem) b->b≠e/\b≠d:=λb ae=>ca ae λk o p e1 e2 e3=>by
  cases k with
  |tm i=>exact bU e1
  |sk n=>exact⟨λq=>(nomatch a'.H.inj (.sk n) (.tm 0) o _ p (e,e) b e1 gE e2 rE e3 (.inl q)),λq=>(nomatch a'.H.inj (.sk n) (.tm 1) o _ p (d,d) b e1 gD e2 rD e3 (.inl q))⟩
 have S:=yM hs gD rD a' ab J st ad aa O Z u;rw[hs] at u;have B:=a.back (ρ':=bJ ρ') (mem':=σ.mem) (hs▸a'.H.H8 (hs▸hm)) (λn e=>a'.HN n<|hs▸e) (λU=>rfl) S.2 ht;have I:∀b,(∀c,bY (bJ ρ') (aH σ.mem) c->c≠b)->W.get? b=none->(∀o,¬F' b o)->dM (ci ρ<|bJ ρ') F' ⟨σ.ls,σ.G8,σ.mem⟩ f b:=λb h1 h2 h3=>
  ⟨λaf=>ca af λk o p e1 e2 e3=>(by
   cases k with
   |sk n=>exact h1 b (bH (.sk n) o p e1 e2 e3) rfl
   |tm i=>exact(a.HQ h2).1<|bH (.tm i) o p e1 e2 e3),h3,(a.HQ h2).2.2⟩
 refine(B.1.HS (p:=(e,e)) (po:=p1) (λb hb=>bX hb▸I _ (λc hc=>(u c hc).1) J (a'.H.sep _ _ _ _ gE rE<|.inl rfl))<|r1 _ _).elim λah q4=>?_;have ag:=B.2.HS (p:=(e,e)) q4.1 (λb hb=>bX hb▸J) q4.2.2.2;have b0:=I d (λc hc=>(u c hc).2) S.1<|a'.H.sep _ _ _ _ gD rD<|.inl rfl
 exact(q4.2.2.1.HS (p:=(d,d)) (po:=p2) (λb hb=>bX hb▸⟨λho=>(q4.2.2.2 d ho).elim (λq=>ab<|bX q) b0.1,b0.2⟩)<|r2 _ _).elim λV q5=>aD V q5.2.2.1<|ag.HS (p:=(d,d)) q5.1 (λb hb=>bX hb▸S.1) q5.2.2.2
theorem wU(G:Gd C){fI:Addr}{ag V:String}(O:mX C D fI bm ag V)(hf:typeIn C.K (.ref fI)=some (.type "function")){fd:FuncData}{ps:List Str}(OK:sG C fI fd body ps ns){n:Nat}
  (aj:xs.length+1=ps.length) (ae:∀vs:List Value,vs.length=xs.length+1->bindArgs fd ⟨vs,[]⟩=pure (ps.zip vs)) (hR:Rm A (n+2)) (hx:xs.all PV.HM=true) (hz:xs.length<=100) (hm:aN σ.mem) (ht:aU σ.G8) {P:Array Value->List DictEntry->Prop}
  (ad:∀A' L e t,Rm A' n->fA C A' (gM fd L fI ns) body ⟨(PV.val (.ref e)::xs).map some++List.replicate (ns.length-ps.length) none,[some (.Hb e (bC D none (Ea t)))],σ.mem⟩ (Eh D P σ.mem e))
  (q:∀e d fl es n,d≠e->P fl es->Q (.val (.ref e)) ⟨σ.ls,σ.G8++[some (.Hb e (bC D (some d) fl)),some (.Hb d (dictOf es n))],σ.mem⟩):Cl C A f (.ref D) xs σ Q:=by
 exact λρ F s vs a r=>by
  have an:vs.length=xs.length:=r.length;obtain⟨B,g,d0,tk,os⟩:=s;refine O.objE λnm q' N bs au sn aw ab av dd k0 k1 k2 k3 k5 mN ak ao=>oH O.base (ak _<|G.at a).1 (ak _<|G.at a).2 ao (λh' al hk=>bind_fn ((G.at a).keeps hk) al hf) ?_ (by refine(ys an)▸?_;exact Nat.le_trans hz<|by decide+kernel);have z:B.get? (B.objs.size+1)=none:=by
   cases e1:B.get? (B.objs.size+1) with
   |none=>rfl
   |some o=>exact absurd (Heap.lt_size e1)<|Nat.not_lt.mpr<|Nat.le_succ _
  have aa:∀b o,B.get? b=some o->(pi B D vs).get? b=some o:=λb o e=>Heap.get?_push_of_some _<|Heap.get?_push_of_some _ e
  have S:(pi B D vs).get? (B.objs.size+1)=some (bC D none<|Ea B.objs.size):=by
   have:=Heap.get?_push_size (B.push {cls:=.type "tuple",data:=.seq vs.toArray}) (o:={cls:=.ref D,data:=.fields #[.ref B.objs.size,.none,.none,.none,.bool false,.none]}) rfl;rw[Heap.size_push] at this;exact this
  revert z S;generalize B.objs.size+1=e;intro z S;refine f9 G OK (n:=n) (xs:=.val (.ref e)::xs) (mem:=σ.mem) (ρ:=bJ ρ) (F:=F) aj ae (hR.typeCall _ _) ((a.H.H8 hm).grow aa) (λU=>rfl) (λn e=>a.HN n e) (.cons (.val _)<|r.sk hx) λL Z af ai I u am=>?_;have Ao:∀b o,B.get? b=some o->Z.get? b=some o:=λb o e=>I b o<|aa b o e
  have ah:∀b,aV (gM fd L fI ns) b->B.get? b=none:=λb hb=>by
   cases e1:B.get? b with
   |none=>rfl
   |some o=>exact nomatch (u b hb).symm.trans (aa b o e1)
  have W:dM (bJ ρ) F ⟨(PV.val (.ref e)::xs).map some++List.replicate (ns.length-ps.length) none,[],σ.mem⟩ (gM fd L fI ns) e:=
   ⟨λho=>(a.HQ z).1<|cs<|dH _ _▸ho,(a.HQ z).2.1,λha=>nomatch (u _ ha).symm.trans S⟩
  refine(ai.HS (p:=(e,e)) (po:=.Hb e<|bC D none<|Ea B.objs.size) (λb hb=>bX hb▸W) ⟨⟨rfl,rfl⟩,I _ _ S⟩).elim λar q1=>(ad _ L e B.objs.size am ar F ⟨Z,g,d0,af,os⟩ q1.2.2.1).go λfl h' ap ρ' F' σ' x a' st rx pz=>⟨by(rw[pz.1] at rx;cases fl<;>first|rfl|exact rx.elim),?_⟩;refine ex5 pz.2 λls d J es n' pz=>?_;rw[pz.2.2] at a' st;have gE:=a'.raw (k:=.tm 0) rfl;have gD:=a'.raw (k:=.tm 1) rfl;refine(xD (σ1:=⟨ls,[some (.Hb e<|bC D (some d) J),some (.Hb d<|dictOf es n')],σ.mem⟩) (p1:=.Hb e<|bC D (some d) J) (p2:=.Hb d<|dictOf es n') a ht hm rfl rfl rfl a' gE.1 gD.1 pz.1 z st q1.1 (λb ho=>(q1.2.2.2 b ho).imp bX λho=>dH _ _▸ho) Ao (λb hb=>ah b hb.all) (λU U=>⟨⟨rfl,rfl⟩,gE.2⟩)<|λU U=>⟨⟨rfl,rfl⟩,gD.2⟩).elim λaq q5=>?_;have hq:=q e d J es n' pz.1 pz.2.1;rw[show σ.G8++[some (.Hb e<|bC D (some d) J),some (.Hb d<|dictOf es n')]=(σ.G8++[some (.Hb e<|bC D (some d) J)])++[some (.Hb d<|dictOf es n')] by rw[List.append_assoc];rfl] at hq;exact bS h' ap aq F' _ rfl q5.1 q5.2<|aD (.val<|.ref e) (.val _) hq
end
end
section
set_option genInjectivity false
open PySem PySem.W PyProof.Rows PySem.Calls
section
variable {M:Model} {A:Around} {E:Value->Shared->Prop} {s:Shared}
noncomputable def cz:Heap:={objs:=#[]}
structure dq(h h':Heap)(l:List Addr)(e:Addr)(oe:Obj)(fl:Value):Prop where
 obj:∃T oT ts,h.get? T=none/\T≠e/\h'.get? e=some (oe.mapFields (·.setIfInBounds 1 (.ref T)))/\h'.get? T=some oT/\oT.data= .fields ts/\ts[3]? =some fl
 keep:∀b o,h.get? b=some o->b≠e->b∉l->h'.get? b=some o
 slots:∀b o,h.get? b=some o->b∈l->∃sl,h'.get? b=some {o with slots:=sl}
theorem ny{B:List Env}{L e:Addr}{oe:Obj}{vs:Array Value}{head:Value}{N:Bool}{Q:Unit->Shared->Prop}
  (ae:A.frames=some (env::B)) (hl:s.heap.FunFrames cz (env::B)) (hf:env.frame=some L) (he:s.heap.get? e=some oe) (hd:oe.data= .fields vs) (hsz:1<vs.size)
  (h:∀h',dq s.heap h' ((env::B).filterMap (·.frame)) e oe (rawInt L)->Q () {s with heap:=h'}):
  wpAny M A (do let a<-frameOf env;let pl<-entryPlaceOf L N;let b<-EntryCells.newEntry head a .none (rawInt L) .none pl;setField (.ref e) 1 b) Q E s:=by
 have S:e∉(env::B).filterMap (·.frame):=λhm=>by
  refine aL (hl.mem hm) λU af=>aG af λo ho ag=>?_;rw[he] at ho;injection ho with ho;subst ho;exact ag vs hd
 refine wpAny_bind<|wpAny_frameOf_fun ae hl hf λu z=>?_
 refine wpAny_bind<|wpAny_entryPlaceOf λpl ab=>?_
 unfold EntryCells.newEntry newFields;refine wpAny_bind<|wpAny_newObj_type ?_<|ab.sizeOk5 _ _ _ _ _
 have O:u.get? e=some oe:=(z.2.1 e S).trans he;generalize hob:({cls:=.type "traceback",dict:=none,data:=.fields ([head,.ref L,.none,rawInt L,.none]++(if pl.isEmpty then List.replicate 6 Value.none else pl)).toArray}:Obj)=ob;have I:=Heap.get?_push_of_some (h:=u) ob O;refine wpAny_setField I hd hsz<|h _ ?_
 have aa:u.objs.size≠e:=Nat.ne_of_gt<|Heap.lt_size O
 have Z:=Obj.data_mapFields hd (·.setIfInBounds 1 (Value.ref u.objs.size));have J:=(Heap.get?_update_other (u.push ob) (Obj.mapFields (·.setIfInBounds 1 (Value.ref u.objs.size)))<|Ne.symm aa).trans (Heap.get?_push_size u<|by(clear I;subst hob);rfl);have W:∀b,u.get? b=none->s.heap.get? b=none:=λb e1=>by
  cases e2:s.heap.get? b with
  |none=>rfl
  |some o=>refine aP (z.2.2 b o e2) λsl e3=>?_;rw[e1] at e3;exact bU e3
 refine⟨(rF u.objs.size ob (([head,.ref L,.none,rawInt L,.none]++(if pl.isEmpty then List.replicate 6 Value.none else pl)).toArray) (W _<|aZ _) aa (Heap.get?_update_self _ I<|Obj.isFreed_of_fields Z) J (by(clear I J;subst hob);rfl) (by first|(simp;done)|(rcases ab with rfl|⟨_,_,_,_,_,_,_,rfl⟩<;>simp))),λb o hb ad V=>?_,λb o hb V=>?_⟩
 ·rw[Heap.get?_update_other _ _ (Ne.symm ad)];exact Heap.get?_push_of_some _<|(z.2.1 b V).trans hb
 ·refine aP (z.2.2 b o hb) λsl hs=>⟨sl,?_⟩;rw[Heap.get?_update_other _ _ (λq=>S<|by rw[show e=b from q];exact V)];exact Heap.get?_push_of_some _ hs
theorem rY{l:List Addr}{e:Addr}{oe:Obj}{vs:Array Value}{fl:Value}{Q:Unit->Shared->Prop}(x:dq h s.heap l e oe fl)(hd:oe.data= .fields vs)(hsz:1<vs.size)(hl:∀b∈l,∃o,h.get? b=some o)
  (k:∀h',dq h h' l e oe .none->Q () {s with heap:=h'}):wpAny M A (setFlight (.ref e) none) Q E s:=by
 obtain⟨⟨T,oT,ts,hn,hTe,h1,h2,h3,h4⟩,kp,sl⟩:=x;have hsz3:3<ts.size:=(Array.getElem?_eq_some_iff.mp h4).1;refine wpAny_setFlight_none h1 (Obj.data_mapFields hd _) (by simp[hsz]) h2 h3 hsz3 (k _ ⟨(rF T _ _ hn hTe ?_ (Heap.get?_update_self _ h2<|Obj.isFreed_of_fields<|Obj.data_mapFields h3 _) (Obj.data_mapFields h3 _)<|by simp[hsz3]),λb o hb hbe hbl=>?_,λb o hb hbl=>?_⟩)
 ·rw[Heap.get?_update_other _ _ hTe];exact h1
 ·rw[Heap.get?_update_other _ _ (λq=>by rw[<-q,hn] at hb;exact bU hb)];exact kp b o hb hbe hbl
 ·refine aP (sl b o hb hbl) λsl e2=>⟨sl,?_⟩;rw[Heap.get?_update_other _ _ (λq=>by rw[<-q,hn] at hb;exact bU hb)];exact e2
theorem vW{outer:List Env}{L e:Addr}{oe:Obj}{vs:Array Value}{Q:Unit->Shared->Prop}
  (hfr:A.frames=some (env::outer)) (hl:s.heap.FunFrames cz (env::outer)) (hf:env.frame=some L) (he:s.heap.get? e=some oe) (hd:oe.data= .fields vs) (h1:vs[1]? =some .none)
  (h:∀h',dq s.heap h' ((env::outer).filterMap (·.frame)) e oe .none->Q () {s with heap:=h'}):wpAny M A (leaving env (.ref e)) Q E s:=by
 have hsz:1<vs.size:=(Array.getElem?_eq_some_iff.mp h1).1;unfold leaving noteFrame;simp only[hf];refine wpAny_bind<|wpAny_bind<|wpAny_field he hd h1 ?_
 rw[if_neg (by decide)];refine ny hfr hl hf he hd hsz λh₁ x=>rY (s:={s with heap:=h₁}) x hd hsz (λb hb=>?_) h;exact aL (hl.mem hb) λU rn2=>aG rn2 λo ho U=>⟨o,ho⟩
theorem vY{outer:List Env}{L e T:Addr}{oe oT:Obj}{vs ts:Array Value}{Q:Unit->Shared->Prop}
  (hfr:A.frames=some (env::outer)) (hl:s.heap.FunFrames cz (env::outer)) (hf:env.frame=some L) (he:s.heap.get? e=some oe) (hd:oe.data= .fields vs) (h1:vs[1]? =some (.ref T)) (hTe:T≠e) (hT:s.heap.get? T=some oT) (hdT:oT.data= .fields ts) (h3:ts[3]? =some .none)
  (h:∀h₁ h',(∀b,b≠T->h₁.get? b=s.heap.get? b)->(h₁.get? T).isSome=true->dq h₁ h' ((env::outer).filterMap (·.frame)) e oe (rawInt L)->Q () {s with heap:=h'}):wpAny M A (noteFrame (.ref e) env) Q E s:=by
 have hsz:1<vs.size:=(Array.getElem?_eq_some_iff.mp h1).1;unfold noteFrame;simp only[hf];refine wpAny_bind<|wpAny_field he hd h1 ?_
 refine(ys<|if_pos<|show(Value.ref T !=Value.none)=true from by simp)▸?_;refine wpAny_bind<|wpAny_field hT hdT h3 ?_
 refine(ys<|if_neg<|show¬((Value.none==rawInt L)=true) from by simp[rawInt])▸?_;refine wpAny_bind<|wpAny_setField hT hdT (Array.getElem?_eq_some_iff.mp h3).1 ?_
 have other:∀b,b≠T->(s.heap.update T<|Obj.mapFields (·.setIfInBounds 3 Value.none)).get? b=s.heap.get? b:=λb hb=>Heap.get?_update_other _ _<|Ne.symm hb
 have noRecord:∀b o,s.heap.get? b=some o->(∀vs,o.data≠ .fields vs)->b≠T:=λb o hb hnf q=>by
  rw[q,hT] at hb;injection hb with hb;subst hb;exact hnf ts hdT
 exact ny hfr (hl.of_keeps λb o hb hnf=>aD o ((other b<|noRecord b o hb hnf).trans hb) rfl) hf ((other e<|Ne.symm hTe).trans he) hd hsz λh' x=>h _ h' other (by refine(ys<|Heap.get?_update_self _ hT<|Obj.isFreed_of_fields<|Obj.data_mapFields hdT _)▸?_;rfl) x
end
end
section
open PySem PySem.W PyProof.Rows PySem.Calls
section
variable {C:Cx} {A:Around} {f:Fc} {σ:aC}
theorem ky{M:Model}{nm q:Str}{N:Addr}{bs:List Value}{J:Bool}{sn:List Str}{Z:List Value}{ab:Bool}{S:Option Bool}{dd:Option Addr}{k0 k1 k2 k3 k5:Option Value}{I:String}
  {x:Sem Value} {Q:Flow->Shared->Prop} (B:bm.contains (.type "BaseException")=true) (hh:A.handled=none)
  (h:wpAny M A x (λv u=>∃e dx fl,v= .ref e/\u.heap.get? D=some (excClassObj nm q D N bs bm J sn Z ab S dd k0 k1 k2 k3 k5 I)/\
   u.heap.get? e=some (bC D dx fl)/\fl[1]? =some .none/\E (.ref e) u) E s):
  wpAny M A (raiseStmt env (some x) none) Q E s:=by
 have W:(Value.ref D::bm).contains (.type "BaseException")=true:=by rw[List.contains_cons,B,Bool.or_true]
 unfold raiseStmt;refine wpAny_bind<|wpAny_mono h (λv u z=>?_) λU U x=>x
 refine qb z λe dx fl V hC O h1 hE=>?_;try clear z;subst V;unfold bC at O;obtain⟨hp,g,d,tk,os⟩:=u
 repeat (first|with_reducible refine wpAny_field O rfl h1 ?_|with_reducible refine wpAny_loadPart_at O ?_|with_reducible refine wpAny_loadPart_at hC ?_|(with_reducible refine wpAny_isSubtype_exc hC ?_;refine(ys W)▸?_)|wp_step)
 exact wpAny_raiseNew_none hh hE
theorem wl(G:Gd C){fI:Addr}{newId initId:String}(O:mX C D fI bm newId initId)(hh:A.handled=none){x:Expr}{pos:Pos}{Q:Flow->Shared->Prop}(a:At C f ρ F σ s.heap){K:Addr->Option Addr->Array Value->aC->Prop}
  (h:Ev C A f x σ λy σ1=>∃e dx fl k,y= .val (.ref e)/\σ1.get k=some (.Hb e (bC D dx fl))/\fl[1]? =some .none/\K e dx fl σ1)
  (hE:∀e dx fl h' tk ρ' F' σ',At C f ρ' F' σ' h'->bx (bv f) ρ F σ.get s.heap ρ' F' σ'.get h'->K e dx fl σ'->E (.ref e) (wh s h' tk)):
  wpAny (model C.prog C.w) A (exec (.Raise (some x) none pos) f.env) Q E s:=by
 refine O.objE λnm q' N bs hdct sn sub ab col dd k0 k1 k2 k3 k5 mN hob hni=>?_;rw[arm_exec_Raise];have key:wpAny (model C.prog C.w) A (eval x f.env) (λv s₁=>∃e dx fl,v= .ref e/\s₁.heap.get? D=some (excClassObj nm q' D N bs bm hdct sn sub ab col dd k0 k1 k2 k3 k5 newId)/\s₁.heap.get? e=some (bC D dx fl)/\fl[1]? =some .none/\E (.ref e) s₁) E s:=
  (h ρ F s a).use λv h1 tk1 ρ1 F1 σ1 a1 st1 rn1=>aG rn1 λy ry rn2=>nY rn2 λe dx fl k ey hg hf1 hK=>by
   clear rn2;subst ey;exact ry.Ia<|jx e dx fl rfl ((hob _<|G.at a1).1) ((a1.raw hg).2) hf1<|hE e dx fl h1 tk1 ρ1 F1 σ1 a1 st1 hK
 first
  |exact wpAny_bind<|wpAny_standAt<|ky O.base.hasBase hh<|wpAny_bind<|wpAny_mono key (λv s₁ h₁=>wpAny_bind<|wpAny_standAt<|wpAny_pure h₁) λU U x=>x
  |(simp only[evalOpt,Option.map];exact wpAny_bind<|wpAny_standAt<|ky O.base.hasBase hh<|wpAny_bind<|wpAny_mono key (λv s₁ h₁=>wpAny_bind<|wpAny_standAt<|wpAny_pure h₁) λU U x=>x)
  |(show wpAny _ A (do standAt pos;raiseStmt f.env (some<|do let v<-eval x f.env;standAt pos;pure v) none) Q E s;exact wpAny_bind<|wpAny_standAt<|ky O.base.hasBase hh<|wpAny_bind<|wpAny_mono key (λv s₁ h₁=>wpAny_bind<|wpAny_standAt<|wpAny_pure h₁) λU U x=>x)
theorem qn{m:Str->Option Value}(x:h.Ns a m)(k:∀o,h.get? a=some o->∃u,h'.get? a=some {o with slots:=u}):h'.Ns a m:=by
 exact ca x λo B ep e d r=>aP (k o e) λu z=>bH _ B ep z d r
theorem At.HZ:∀{C f σ ρ F h h' l e N fl}(a:At C f ρ F σ h)(x:dq h h' l e N fl)(Z:dM ρ F σ f e)(hl:∀b∈l,b=f.env.locals\/dM ρ F σ f b),At C f ρ F σ h':=by
 exists ce λC=>dO λf=>dR λσ=>aA λρ=>aA λF=>aA λh=>aA λh'=>aA λl=>aA λe=>aA λN=>aA λfl=>aO _;intros;have u:∀b o,h.get? b=some o->¬dM ρ F σ f b->b≠f.env.locals->h'.get? b=some o:=λb o z hn W=>
  x.keep b o z (λq=>hn<|q▸Z) λO=>(hl b O).elim W hn
 have qB:∀o,¬F f.env.locals o:=a.R.HT _<|.inl rfl
 have I:¬bY ρ σ.get f.env.locals:=a.R.Hj _<|.inl rfl
 refine⟨⟨a.H.base,λb o z=>u b o (a.H.HC b o z) (λq=>q.2.1 o z)<|λq=>qB o<|q▸z,λk o hk=>?_,a.H.sep,a.H.inj⟩,{a.R with HF:=?_},a.fin,a.HN⟩
 ·exact aG (a.H.obj k o hk) λp V r=>aD p V<|r.mono (λU U e=>e) (λU U e=>e) λb z ob S=>u b ob S (λq=>q.1<|bH k o p hk V z) λq=>I<|q▸(bH k o p hk V z)
 ·refine bM a.R.HF λm cm hn hc hs=>bE m cm (qn hn λo J=>?_) (λn c B=>?_) hs
  ·by_cases O:f.env.locals∈l
   ·exact x.slots _ o J O
   ·exact⟨o.slots,x.keep _ o J (λq=>(Z.2.2)<|q▸.inl rfl) O⟩
  ·exact aG (hc n c B) λo J hd=>aD o (u c o J (λq=>q.2.2<|.inr<|dk n c B rfl)<|a.R.Ie n c<|mem_of_lookup B) hd
end
end
section
set_option genInjectivity false
open PySem PySem.W PyProof.Rows PySem.Calls
section
variable {C:Cx} {A:Around} {f:Fc} {σ:aC}
structure o9(C:Cx)(D:Addr)(P:Array Value->List DictEntry->Prop)(ρ:Pl)(F:Fz)(mem:aQ)(l:List Addr)(h0:Heap)(e d:Addr)(fl:Array Value)(es:List DictEntry)(n:Nat)(h1 h2:Heap)(ρ':Pl)(F':Fz)(L:Addr):Prop where
 H:HR C ρ' F' (aH mem) h1
 tm:∀i,ρ' (.tm i)=none
 sk:∀n,mem n=none->ρ' (.sk n)=none
 st:bx (λU=>False) ρ F (aH mem) h0 ρ' F' (aH mem) h1
 ne:d≠e
 has:P fl es
 IF:h1.get? e=some (bC D (some d) fl)
 atD:h1.get? d=some (dictOf es n)
 Iz:h0.get? e=none
 newD:h0.get? d=none
 Ja:h0.get? L=none
 neL:d≠L
 out:∀b,b=e\/b=d\/b=L->¬bY ρ' (aH mem) b/\∀o,¬F' b o
 ent:dq h1 h2 (L::l) e (bC D (some d) fl) .none
theorem xf:∀{C A D P fa fd body ps ns n xs mem ρ F s vs fr}(G:Gd C)(am:∀fl O,P fl O->fl[1]? =some .none)(OK:sG C fa fd body ps ns)(ae:xs.length=ps.length)(aa:∀vs:List Value,vs.length=xs.length->bindArgs fd ⟨vs,[]⟩=pure (ps.zip vs))(al:A.frames=some fr)(hl:s.heap.FunFrames cz fr)(af:∀b∈fr.filterMap (·.frame),¬bY ρ (aH mem) b)(hR:Rm A (n+1))(H:HR C ρ F (aH mem) s.heap)(ah:∀i,ρ (.tm i)=none)(an:∀n,mem n=none->ρ (.sk n)=none)(r:bQ C ρ F vs xs)(hm:aN mem)(W:∀A' L,Rm A' n->∀(Q:Flow->Shared->Prop)(E:Value->Shared->Prop)(s:Shared)(ρ:Pl)(F:Fz),At C (gM fd L fa ns) ρ F ⟨xs.map some++List.replicate (ns.length-ps.length) none,[],mem⟩ s.heap->
   (∀e d fl O m h' tk ρ' F' ls,At C (gM fd L fa ns) ρ' F' ⟨ls,[some (.Hb e (bC D (some d) fl)),some (.Hb d (dictOf O m))],mem⟩ h'->bx (bv (gM fd L fa ns)) ρ F (aH mem) s.heap ρ' F' (aC.get ⟨ls,[some (.Hb e (bC D (some d) fl)),some (.Hb d (dictOf O m))],mem⟩) h'->d≠e->P fl O->E (.ref e) (wh s h' tk))->
   wpAny (model C.prog C.w) A' (execs body (callEnvC fd L fa)) Q E s),codeAny (model C.prog C.w) A (.call (.ref fa) ⟨vs,[]⟩) (λr s'=>∃e d fl O m h1 h2 tk ρ' F' L,r= .error (.ref e)/\s'=(wh s h2 tk)/\o9 C D P ρ F mem (fr.filterMap (·.frame)) s.heap e d fl O m h1 h2 ρ' F' L) s:=by
 intro C A D P fa fd body ps ns n xs mem ρ F s vs fr G am OK ae aa al hl af hR H ah an r hm W;refine f9 G OK ae aa hR H ah an r λL ad ai ak J u ao=>W _ L ao _ _ (wh s ad ai) ρ F ak λe d fl O m h' tk ρ' F' ls N V S hP=>?_;have gE:aC.get ⟨ls,[some (.Hb e<|bC D (some d) fl),some (.Hb d<|dictOf O m)],mem⟩ (.tm 0)=some (.Hb e<|bC D (some d) fl):=rfl;have gD:aC.get ⟨ls,[some (.Hb e<|bC D (some d) fl),some (.Hb d<|dictOf O m)],mem⟩ (.tm 1)=some (.Hb d<|dictOf O m):=rfl;refine aL (N.raw gE) λrE hE=>aL (N.raw gD) λrD hD=>?_;have fF:∀b,ad.get? b=none->s.heap.get? b=none:=λb I=>by
  cases e2:s.heap.get? b with
  |none=>rfl
  |some o=>rw[J _ _ e2] at I;exact jg I
 have z:∀b,bY (bJ ρ') (aH mem) b->b≠e/\b≠d:=λb ap=>ca ap λk o p I e2 e3=>by
  cases k with
  |tm i=>exact bU I
  | sk n=>
   refine⟨λq=>?_,λq=>?_⟩
   ·clear V S gD hE;subst q;have:=N.H.inj (.sk n) (.tm 0) o _ p (b,b) b I gE e2 rE e3<|.inl rfl;exact nc Ky.ctorIdx this rfl
   ·clear V S gE hE hD;subst q;have:=N.H.inj (.sk n) (.tm 1) o _ p (b,b) b I gD e2 rD e3<|.inl rfl;exact nc Ky.ctorIdx this rfl
 have B:∀b,(bY ρ' (aC.get ⟨ls,[some (.Hb e<|bC D (some d) fl),some (.Hb d<|dictOf O m)],mem⟩) b)->(b=e\/b=d)->s.heap.get? b=none:=λb Z aj=>by
  rcases V.fresh b (.inl Z) with q|⟨o,q⟩|q
  ·exfalso
   refine ca q λk o p I e2 e3=>?_;cases k with
   |tm i=>exact bU I
   | sk n=>
    have:=z b ⟨.sk n,o,p,I,V.HD _ _ e2,e3⟩;rcases aj with q|q
    ·exact this.1 q
    ·exact this.2 q
  ·rcases aj with q2|q2
   ·clear S gD hE z Z;subst q2;exact absurd (V.fz _ _ q)<|N.H.sep _ _ _ b gE rE (.inl rfl) o
   ·clear S gE hE hD z Z;subst q2;exact absurd (V.fz _ _ q)<|N.H.sep _ _ _ b gD rD (.inl rfl) o
  ·exact fF b q
 have ab:aV (gM fd L fa ns) L:=.inl rfl;have ag:∀b∈fr.filterMap (·.frame),∀o,s.heap.get? b=some o->h'.get? b=some o:=λb Z o ho=>
  V.keep b o (J _ _ ho) (λq=>af b Z<|by exact ca q λk o p I e2 e3=>⟨k,o,p,I,e2,e3⟩) λq=>by
   have:=u b q.all;rw[ho] at this;exact jg this
 have aq:h'.FunFrames cz (callEnvC fd L fa::fr):=by
  refine bM N.R.HF λmm cm hn U U=>Heap.FunFrames.cons (L:=L) (m:=mm) (by refine(ys<|show(callEnvC fd L fa).scope.kind= .function from OK.kind)▸?_;exact λe=>by exact nc PySem.ScopeKind.ctorIdx e rfl) rfl hn rfl ?_;have gen:∀fr:List Env,s.heap.FunFrames cz fr->(∀b∈fr.filterMap (·.frame),∀o,s.heap.get? b=some o->h'.get? b=some o)->h'.FunFrames cz fr:=by
   intro fr
   induction fr with
   |nil=>intro _ _;trivial
   | cons env fr ih=>
    intro⟨x1,⟨L',o,x2,x3,x4,x5⟩,x6⟩ hk;refine⟨x1,⟨L',o,x2,x3,hk L' (by refine(ys List.filterMap_cons)▸(ys x2)▸?_;exact .head _) o x4,x5⟩,ih x6 λb Z=>hk b ?_⟩;refine(ys List.filterMap_cons)▸(ys x2)▸?_;exact .tail _ Z
  exact gen fr hl ag
 refine vW (s:=(wh s h' tk)) (Around.frames_deeper al) aq rfl hE rfl (am _ _ hP) λh2 x=>⟨e,d,fl,O,m,h',h2,tk,bJ ρ',F',L,rfl,rfl,N.H.H8 hm,λU=>rfl,λn e=>N.HN n e,⟨λk p e=>?_,V.fz,λb o I n1 U=>?_,λb Z=>?_⟩,S,hP,hE,hD,B e ⟨_,_,_,gE,rE,.inl rfl⟩<|.inl rfl,B d ⟨_,_,_,gD,rD,.inl rfl⟩<|.inr rfl,u L ab,λq=>N.R.Hj _ ab ⟨_,_,_,gD,rD,.inl q.symm⟩,λb Z=>?_,x⟩
 ·cases k with
  |sk n=>exact V.HD _ _ e
  |tm i=>rw[ah] at e;exact bU e
 ·refine V.keep b o (J _ _ I) n1 λha=>?_;rw[u b ha.all] at I;exact bU I
 ·rcases V.fresh b (Z.imp (λq=>cs (σ:=⟨ls,[some (.Hb e<|bC D (some d) fl),some (.Hb d<|dictOf O m)],mem⟩) q) id) with q|q|q
  ·exact .inl q
  ·exact .inr<|.inl q
  ·exact .inr<|.inr<|fF b q
 ·rcases Z with rfl|rfl|rfl
  ·exact⟨λq=>(z _ q).1 rfl,N.H.sep _ _ _ _ gE rE<|.inl rfl⟩
  ·exact⟨λq=>(z _ q).2 rfl,N.H.sep _ _ _ _ gD rD<|.inl rfl⟩
  ·exact⟨λq=>N.R.Hj _ ab<|cs q,N.R.HT _ ab⟩
end
end
section
open PySem PySem.W PyProof.Rows PySem.Calls
section
variable {C:Cx} {A:Around} {f:Fc} {σ:aC}
theorem D5{u:ExceptHandler}{z:List ExceptHandler}{pos:Pos}{Q:Fl->aC->Prop}(h:fA C A f body σ Q):Ex C A f (.Try body (u::z) [] [] pos) σ Q:=λρ F s a=>
 wpAny_Try_except (wpAny_mono (h ρ F s a) (λfl B p=>by
  cases fl with
  |next=>exact wpAny_execs_nil p
  |_=>exact p) λU U e=>e.elim)
end
end
section
set_option genInjectivity false
open PySem PySem.W PyProof.Rows PySem.Calls
section
variable {C:Cx} {A:Around} {f:Fc} {σ:aC}
structure i6(f:Fc)(ρ₀:Pl)(F₀:Fz)(g₀:bR)(h₀:Heap)(l:List Addr):Prop where
 out:∀a∈l,(∃o,h₀.get? a=some o)/\¬bY ρ₀ g₀ a/\∀o,¬F₀ a o
 new:∀a,aV f a->h₀.get? a=none
structure jh(ρ₀:Pl)(F₀:Fz)(g₀:bR)(h₀:Heap)(l:List Addr)(ρ:Pl)(F:Fz)(σ:aC)(h:Heap):Prop where
 HD:∀k p,ρ₀ k=some p->ρ k=some p
 fz:∀a o,F₀ a o->F a o
 keep:∀a o,h₀.get? a=some o->¬bY ρ₀ g₀ a->a∉l->h.get? a=some o
 slots:∀a o,h₀.get? a=some o->a∈l->∃sl,h.get? a=some {o with slots:=sl}
 fresh:∀a,(bY ρ σ.get a\/∃o,F a o)->bY ρ₀ g₀ a\/(∃o,F₀ a o)\/h₀.get? a=none
section
variable {ρ₀ ρ ρ':Pl} {F₀ F F':Fz} {g₀:bR} {h₀ h h':Heap} {l:List Addr} {σ':aC}
theorem jh.Im(x:jh ρ₀ F₀ g₀ h₀ l ρ F σ h)(c:i6 f ρ₀ F₀ g₀ h₀ l)(J:a∈l):dM ρ F σ f a:=by
 refine dK (c.out a J) λu I B=>aP u λo z=>?_;have key:(bY ρ σ.get a\/∃o,F a o)->False:=λq=>by
  rcases x.fresh a q with q|⟨o',q⟩|q
  ·exact I q
  ·exact B _ q
  ·rw[z] at q;exact jg q
 exact⟨λq=>key<|.inl q,λo q=>key<|.inr ⟨o,q⟩,λq=>by have:=c.new a q;rw[z] at this;exact jg this⟩
theorem jh.none(x:jh ρ₀ F₀ g₀ h₀ l ρ F σ h)(e:h.get? a= .none):bY ρ₀ g₀ a\/h₀.get? a= .none:=by
 by_cases q:bY ρ₀ g₀ a
 ·exact .inl q
 ·refine .inr ?_;cases B:h₀.get? a with
  |none=>rfl
  | some o=>
   by_cases u:a∈l
   ·refine aP (x.slots a o B u) λI z=>?_;rw[e] at z;exact bU z
   ·rw[x.keep a o B q u] at e;exact jg e
theorem jh.then(x:jh ρ₀ F₀ g₀ h₀ l ρ F σ h)(c:i6 f ρ₀ F₀ g₀ h₀ l)(a:At C f ρ F σ h)(z:bx (bv f) ρ F σ.get h ρ' F' σ'.get h'):jh ρ₀ F₀ g₀ h₀ l ρ' F' σ' h' where
 HD:=λk p e=>z.HD _ _ (x.HD _ _ e)
 fz:=λa o e=>z.fz _ _ (x.fz _ _ e)
 keep:=λb o e n1 n2=>by
  refine z.keep b o (x.keep b o e n1 n2) (λq=>?_) λq=>by have:=c.new b q.all;rw[e] at this;exact jg this
  rcases x.fresh b (.inl q) with u|⟨o',u⟩|u
  ·exact n1 u
  ·exact a.HO q _<|x.fz _ _ u
  ·rw[e] at u;exact jg u
 slots:=λb o e I=>by
  refine aP (x.slots b o e I) λN J=>?_;have B:=x.Im c I;exact⟨N,z.keep b _ J B.1 λq=>B.2.2 q.all⟩
 fresh:=λb e=>by
  rcases z.fresh b e with q|q|q
  ·exact x.fresh b<|.inl q
  ·exact x.fresh b<|.inr q
  ·rcases x.none q with q|q
   ·exact .inl q
   ·exact .inr<|.inr q
theorem jh.HZ(x:jh ρ₀ F₀ g₀ h₀ l ρ F σ h)(c:i6 f ρ₀ F₀ g₀ h₀ l){I:List Addr}{e:Addr}{U:Obj}{fl:Value}(z:dq h h' I e U fl)(O:h₀.get? e= .none)(J:∀b∈I,b∈l\/h₀.get? b= .none):jh ρ₀ F₀ g₀ h₀ l ρ F σ h' where
 HD:=x.HD
 fz:=x.fz
 keep:=λb o u n1 n2=>z.keep b o (x.keep b o u n1 n2) (λq=>by rw[q,O] at u;exact bU u) λq=>by
  rcases J b q with q|q
  ·exact n2 q
  ·rw[q] at u;exact bU u
 slots:=λb o u Z=>by
  refine aP (x.slots b o u Z) λV N=>?_
  by_cases S:b∈I
  ·exact aP (z.slots b _ N S) λB W=>⟨B,W⟩
  ·exact⟨V,z.keep b _ N (λq=>by rw[q,O] at u;exact bU u) S⟩
 fresh:=x.fresh
theorem jh.HY(x:jh ρ₀ F₀ g₀ h₀ l ρ F σ h){T:Addr}(z:h₀.get? T= .none)(hk:∀b,b≠T->h'.get? b=h.get? b):jh ρ₀ F₀ g₀ h₀ l ρ F σ h' where
 HD:=x.HD
 fz:=x.fz
 keep:=λb o u n1 n2=>(hk b λq=>by rw[q,z] at u;exact bU u).trans (x.keep b o u n1 n2)
 slots:=λb o u I=>by
  exact aP (x.slots b o u I) λJ B=>⟨J,(hk b λq=>by rw[q,z] at u;exact bU u).trans B⟩
 fresh:=x.fresh
theorem jh.HS(x:jh ρ₀ F₀ g₀ h₀ l ρ F σ h)(z:∀k q,ρ k=some q->ρ' k=some q)(hn:∀b,(b=p.1\/b=p.2)->h₀.get? b= .none)(u:∀b,bY ρ' σ'.get b->(b=p.1\/b=p.2)\/bY ρ σ.get b):jh ρ₀ F₀ g₀ h₀ l ρ' F σ' h where
 HD:=λk q e=>z _ _ (x.HD _ _ e)
 fz:=x.fz
 keep:=x.keep
 slots:=x.slots
 fresh:=λb e=>by
  rcases e with e|e
  ·rcases u b e with q|q
   ·exact .inr<|.inr<|hn b q
   ·exact x.fresh b<|.inl q
  ·exact x.fresh b<|.inr e
end
theorem At.II{ρ:Pl}{F:Fz}{i:Nat}{n:Str}{pos:Pos}{M:Model}{Q:Unit->Shared->Prop}(a:At C f ρ F σ s.heap)(hi:f.ns[i]? =some n)(hk:f.env.kindOf n=some .local)
  (h:∀h' tk,At C f ρ F ⟨σ.ls.set i none,σ.G8,σ.mem⟩ h'->bx (bv f) ρ F σ.get s.heap ρ F (aC.get ⟨σ.ls.set i none,σ.G8,σ.mem⟩) h'->Q () (wh s h' tk)):wpAny M A (do bindName f.env n .none;unbindBehindTheSuite f.env n pos) Q E s:=by
 refine bM a.R.HF λm cm hn hc hs=>wpAny_nameGoes_keeps hk hn (by refine(ys a.R.kind)▸?_;rfl) λh' v S sb=>?_;have B:aC.get ⟨σ.ls.set i none,σ.G8,σ.mem⟩=σ.get:=by funext k;cases k<;>rfl
 have Ao:∀b o,b≠f.env.locals->s.heap.get? b=some o->h'.get? b=some o:=λb o N e=>sb.extBut b o N e;refine h h' _ ⟨⟨a.H.base,λb o e=>Ao b o (λq=>a.R.HT _ (.inl rfl) o<|q▸e)<|a.H.HC b o e,λk o e=>?_,?_,?_⟩,{a.R with HF:=bE _ cm S (λW c e=>?_)<|λj y ov I J=>?_,Hj:=λb N=>by refine(ys B)▸?_;exact a.R.Hj b N},a.fin,a.HN⟩ ⟨λU U e=>e,λU U e=>e,λb o e n1 n2=>Ao b o (λq=>n2<|q▸.inl rfl) e,λb e=>by rw[B] at e;exact e.elim .inl λq=>.inr<|.inl q⟩
 ·rw[B] at e;exact aG (a.H.obj k o e) λp I r=>aD p I<|r.mono (λU U e=>e) (λU U e=>e) λb N ob J=>Ao b ob (λq=>a.R.Hj _ (.inl rfl)<|q▸(bH k o p e I N)) J
 ·intro k o p b I;rw[B] at I;exact a.H.sep k o p b I
 ·intro k k' o o' p p' b I J;rw[B] at I J;exact a.H.inj k k' o o' p p' b I J
 ·exact aG (hc W c e) λo ho hd=>aD o (Ao c o (a.R.Ie W c<|mem_of_lookup e) ho) hd
 ·by_cases q:j=i
  ·clear hi h B;subst q;have:ov=none:=by
    have z:(σ.ls.set j none)[j]? =some ov:=J;rw[List.getElem?_set_self'] at z;cases V:σ.ls[j]? with
    |none=>rw[V] at z;exact bU z
    |some w=>rw[V] at z;simpa using z.symm
   clear J;subst this;trivial
  ·have z:σ.ls[j]? =some ov:=by
    have z:(σ.ls.set i none)[j]? =some ov:=J
    rwa [List.getElem?_set_ne (λe=>q e.symm)] at z
   have Z:y≠n:=λe=>q<|uL a.R.nodup (e▸I) hi
   have:=hs j y ov I z;cases ov with
   |none=>trivial
   | some pv=>
    refine aG this λu r1 O=>aD u r1 ?_;rcases O with⟨O,r3⟩|O
    ·exact .inl ⟨O,(if_neg Z).trans r3⟩
    ·exact .inr O
theorem xt(G:Gd C){e d:Addr}{k2:Ky}{fl:Array Value}{n:Nat}{ex:Bool}(U:σ.get k=some (.Hb e (bC D (some d) fl)))(O:σ.get k2=some (.Hb d (dictOf es n)))(I:∃t,getL name es=some (some (.int i t)))
  (B:findIn C.K (.ref D) "__getattribute__"=some (some (.builtin "BaseException.__getattribute__"))) (S:findIn C.K (.ref D) "__getattr__"=some none) (u:mroIn C.K D (.type "BaseException")=some true) (V:hasDictIn C.K D=true) (z:(match findIn C.K (.ref D) name with|some a=>noGet C.K a|none=>false)=true)
  (q:Q (.d (.int i)) σ):uX C A f (λv=>getAttr v name ex) (.val (.ref e)) σ Q:=λρ F s v a r=>by
 refine r.Ia ?_;obtain⟨t,I⟩:=I;obtain⟨_,W⟩:=a.raw U;obtain⟨_,J⟩:=a.raw O;cases N:findIn C.K (.ref D) name with
 |none=>rw[N] at z;exact jn z
 | some Z=>
  rw[N] at z;exact By (G.at a) (od:=some<|dictOf es n) ⟨W,rfl,rfl,J⟩ B S u (findObj_own V N z<|by rw[lookIn_dict];exact I) rfl<|aS.same (tk:=s.toks+1) a<|aD _ (.d<|.int i t) q
end
end
section
open PySem PySem.W PyProof.Rows PySem.Calls
section
variable {C:Cx} {A:Around} {f:Fc} {σ:aC}
theorem dq.frames{h:Heap}{l:List Addr}{e:Addr}{B:Obj}{vs:Array Value}{fl:Value}(x:dq h h' l e B fl)(J:h.get? e=some B)(S:B.data= .fields vs){fr:List Env}(N:h.FunFrames cz fr):h'.FunFrames cz fr:=
 N.of_keeps λb o z I=>by
  by_cases q:b=e
  ·clear x;subst q;rw[J] at z;(have u:=oi z;clear z;subst u);exact absurd S<|I vs
  ·by_cases m:b∈l
   ·exact aP (x.slots b o z m) λU O=>aD _ O rfl
   ·exact aD o (x.keep b o z q m) rfl
theorem qA{h:Heap}:∀{fr:List Env},(∀b∈fr.filterMap (·.frame),∀o,h.get? b=some o->h'.get? b=some o)->h.FunFrames cz fr->h'.FunFrames cz fr:=
 λ{fr}=>by
 induction fr with
 |nil=>exact λU U=>trivial
 |cons env fr B=>exact λhk x=>iP x.2.1 λz o u I J N=>⟨x.1,kH z o u I (hk z (by refine(ys List.filterMap_cons)▸(ys u)▸?_;exact .head _) o J) N,B (λb O=>hk b<|by refine(ys List.filterMap_cons)▸(ys u)▸?_;exact .tail _ O) x.2.2⟩
theorem dq.none_of{h:Heap}{l:List Addr}{e:Addr}{J:Obj}{fl:Value}(x:dq h h' l e J fl){b:Addr}(u:h'.get? b=none):h.get? b=none:=by
 cases z:h.get? b with
 |none=>rfl
 | some o=>
  by_cases q:b=e
  ·refine kY x.obj λT O N U U I U=>?_;rw[q,I] at u;exact jg u
  ·by_cases m:b∈l
   ·refine aP (x.slots b o z m) λS B=>?_;rw[u] at B;exact bU B
   ·rw[x.keep b o z q m] at u;exact jg u
section
variable {ρ ρ₀:Pl} {F₀ F:Fz} {g₀:bR} {h₀ h:Heap} {l:List Addr} {ls0:List (Option PV)} {mem:aQ}
theorem GY:∀{C f ρ ρ₀ F₀ F g₀ h₀ h l ls0 mem e d T p1 p2 p3}(a:At C f ρ F ⟨ls0,[],mem⟩ h)(x:jh ρ₀ F₀ g₀ h₀ l ρ F ⟨ls0,[],mem⟩ h)(aE:dM ρ F ⟨ls0,[],mem⟩ f e)(W:dM ρ F ⟨ls0,[],mem⟩ f d)(U:dM ρ F ⟨ls0,[],mem⟩ f T)(B:d≠e)(J:T≠e)(N:T≠d)(nE:h₀.get? e=none)(Z:h₀.get? d=none)(nT:h₀.get? T=none)(r1:∀ρ,c9 C ρ F h (e,e) p1)(r2:∀ρ,c9 C ρ F h (d,d) p2)(r3:∀ρ,c9 C ρ F h (T,T) p3),∃z,At C f z F ⟨ls0,[some p1,some p2,some p3],mem⟩ h/\jh ρ₀ F₀ g₀ h₀ l z F ⟨ls0,[some p1,some p2,some p3],mem⟩ h:=by
 intro C f ρ ρ₀ F₀ F g₀ h₀ h l ls0 mem e d T p1 p2 p3 a x aE W U B J N nE Z nT r1 r2 r3;refine(a.HS (p:=(e,e)) (po:=p1) (λb u=>bX u▸aE)<|r1 _).elim λab O=>?_;have x5:=x.HS (p:=(e,e)) O.1 (λb u=>bX u▸nE) O.2.2.2;refine(O.2.2.1.HS (p:=(d,d)) (po:=p2) (λb u=>bX u▸⟨λI=>(O.2.2.2 d I).elim (λq=>B<|bX q) W.1,W.2⟩)<|r2 _).elim λaa S=>?_;have x6:=x5.HS (p:=(d,d)) S.1 (λb u=>bX u▸Z) S.2.2.2;exact(S.2.2.1.HS (p:=(T,T)) (po:=p3) (λb u=>bX u▸⟨λI=>(S.2.2.2 T I).elim (λq=>N<|bX q) λI=>(O.2.2.2 T I).elim (λq=>J<|bX q) U.1,U.2⟩)<|r3 _).elim λz V=>aD z V.2.2.1<|x6.HS (p:=(T,T)) V.1 (λb u=>bX u▸nT) V.2.2.2
end
theorem DQ:∀{C:Cx}{A:Around}{f:Fc}{D:Addr}{P:Array Value->List DictEntry->Prop}{ls:List (Option PV)}{mem:aQ}{ρ ρ' ρ₀:Pl}{F F' F₀:Fz}{g₀:bR}{h₀ h0 h1 h2:Heap}{l:List Addr}{fr:List Env}{e d L:Addr}{fl:Array Value}{es:List DictEntry}{n:Nat}{s:Shared}{W:Shared->Prop}{E:Value->Shared->Prop}(hP1:∀fl es,P fl es->fl[1]? =some .none/\fl.size=6)(hs:s.heap=h2)(a:At C f ρ F ⟨ls,[],mem⟩ h0)(x:jh ρ₀ F₀ g₀ h₀ l ρ F ⟨ls,[],mem⟩ h0)(c:i6 f ρ₀ F₀ g₀ h₀ l)(hnew:∀b,h0.get? b=none->h₀.get? b=none)(hfr:A.frames=some (f.env::fr))(hf:f.env.frame=some f.env.locals)(hlf:fr.filterMap (·.frame)=l)(hff:h0.FunFrames cz (f.env::fr))(R:o9 C D P (bJ ρ) F mem (f.env.locals::l) h0 e d fl es n h1 h2 ρ' F' L)(k:∀h4 fl2 T oT ts,At C f (ci ρ ρ') F' ⟨ls,[],mem⟩ h4->jh ρ₀ F₀ g₀ h₀ l (ci ρ ρ') F' ⟨ls,[],mem⟩ h4->dM (ci ρ ρ') F' ⟨ls,[],mem⟩ f e->dM (ci ρ ρ') F' ⟨ls,[],mem⟩ f d->dM (ci ρ ρ') F' ⟨ls,[],mem⟩ f T->T≠e->T≠d->h₀.get? T=none->
   h4.get? e=some (bC D (some d) fl2)->fl2[1]? =some (.ref T)->h4.get? d=some (dictOf es n)->h4.get? T=some oT->oT.data= .fields ts->3<ts.size->W {s with heap:=h4}),wpAny (model C.prog C.w) A (noteFrame (.ref e) f.env) (λU s₂=>wpAny (model C.prog C.w) A (setFlight (.ref e) none) (λU s₃=>W s₃) E s₂) E s:=by
 exists ce λC=>cx λA=>dO λf=>aA λD=>aA λP=>aA λls=>aA λmem=>aA λρ=>aA λρ'=>aA λρ₀=>aA λF=>aA λF'=>aA λF₀=>aA λg₀=>aA λh₀=>aA λh0=>aA λh1=>aA λh2=>aA λl=>aA λfr=>aA λe=>aA λd=>aA λL=>aA λfl=>aA λes=>aA λn=>eu λs=>aA λW=>aA λE=>aO _;intro C A f D P ls mem ρ ρ' ρ₀ F F' F₀ g₀ h₀ h0 h1 h2 l fr e d L fl es n s W E hP1 hs a x c hnew hfr hf hlf hff R k;have hsz:1<fl.size:=by refine(ys<|(hP1 _ _ R.has).2)▸?_;decide
 have B:=a.back R.H R.sk R.tm R.st (λi o e=>by cases i<;>exact bU e);have a1:=B.1;have x1:=x.then c a B.2
 have asideOf:∀b,(b=e\/b=d\/b=L)->h0.get? b=none->dM (ci ρ ρ') F' ⟨ls,[],mem⟩ f b:=λb hb h0b=>
  ⟨λho=>(R.out b hb).1 (dH ls mem▸ho|>λ⟨k,o,p,e1,e2,e3⟩=>by
   cases k with
   |sk n=>exact bH (.sk n) o p e1 e2 e3
   |tm i=>exact bU e1),(R.out b hb).2,λq=>(a.R.has q).elim λo e=>(nomatch h0b.symm.trans e)⟩
 have asE:=asideOf e (.inl rfl) R.Iz;have asD:=asideOf d (.inr<|.inl rfl) R.newD;have hl1:∀b∈L::f.env.locals::l,b=f.env.locals\/dM (ci ρ ρ') F' ⟨ls,[],mem⟩ f b:=λb hb=>by
  rcases List.mem_cons.mp hb with rfl|hb
  ·exact .inr<|asideOf b (.inr<|.inr rfl) R.Ja
  ·exact(List.mem_cons.mp hb).imp id<|x1.Im c
 have hl1':∀b∈L::f.env.locals::l,b∈l\/h₀.get? b=none:=λb hb=>by
  rcases List.mem_cons.mp hb with rfl|hb
  ·exact .inr<|hnew _ R.Ja
  ·exact(List.mem_cons.mp hb).symm.imp id λe:b=f.env.locals=>by refine(ys e)▸?_;exact c.new _<|.inl rfl
 have a2:=a1.HZ R.ent asE hl1;have x2:=x1.HZ c R.ent (hnew _ R.Iz) hl1';have lM:∀b,b∈(f.env::fr).filterMap (·.frame)->b∈f.env.locals::l:=λb=>by refine(ys List.filterMap_cons)▸(ys hf)▸(ys hlf)▸?_;exact id
 have hff2:=R.ent.frames R.IF rfl (qA (λb hb o ho=>R.st.keep b o ho (λq=>(by
  rcases List.mem_cons.mp (lM b hb) with rfl|hb
  ·exact a.R.Hj _ (.inl rfl)<|cs q
  ·exact(x.Im c hb).1<|cs q))<|λz=>z) hff)
 have none1:∀b,h1.get? b=none->h₀.get? b=none:=λb e1=>hnew b (by
  cases e2:h0.get? b with
  |none=>rfl
  | some o=>
   by_cases ho:bY (bJ ρ) (aH mem) b
   ·refine ca ho λk o' p q1 q2 q3=>?_;revert q1 q2 q3;revert k o' p;exists Au λk=>yG λo'=>aA λp=>aO _;intro k o' p q1 q2 q3;exact(R.H.HJ<|bH k o' p q1 (R.st.HD _ _ q2) q3).elim λob q4=>nomatch e1.symm.trans q4
   ·exact nomatch e1.symm.trans (R.st.keep b o e2 ho<|λz=>z))
 have outOf:∀b,h1.get? b=none->dM (ci ρ ρ') F' ⟨ls,[],mem⟩ f b:=λb e1=>a1.HQ e1;have dOut:d∉f.env.locals::l:=λq=>by
  rcases List.mem_cons.mp q with q|q
  ·exact asD.2.2<|.inl q
  ·exact(c.out d q).1.elim λo ho=>nomatch (hnew _ R.newD).symm.trans ho
 have hD2:h2.get? d=some (dictOf es n):=R.ent.keep d _ R.atD R.ne λq=>(List.mem_cons.mp q).elim R.neL dOut;have ent:=R.ent;have Iz:=hnew _ R.Iz;have atD1:=R.atD;have hde:=R.ne;clear R B x1 x hl1 hl1' hff hP1;subst hs;refine D9 ent.obj λT oT ts q=>?_;revert q;revert T oT ts;exists aA λT=>aA λoT=>aA λts=>aO _;intro T oT ts q;refine vY (s:=s) hfr hff2 hf q.2.2.1 (Obj.data_mapFields rfl _) (by exact(ys<|Array.getElem?_setIfInBounds_self_of_lt hsz)▸rfl) q.2.1 q.2.2.2.1 q.2.2.2.2.1 q.2.2.2.2.2 λhh1 h3 other someT ent2=>?_;have a3:At C f (ci ρ ρ') F' ⟨ls,[],mem⟩ hh1:=a2.HY (wr:=[T]) (λb hb=>by refine(ys<|List.mem_singleton.mp hb)▸?_;exact outOf T q.1) λb o hb e1=>(other b λq=>hb<|List.mem_singleton.mpr q).trans e1;have x3:=x2.HY (none1 T q.1) other;refine rY (s:={s with heap:=h3}) ent2 (Obj.data_mapFields rfl _) (by refine(ys Array.size_setIfInBounds)▸?_;exact hsz) (λb hb=>?_) λh4 ent3=>?_
 ·exact aL (hff2.mem hb) λU rn1=>aG rn1 λo ho hnf=>⟨o,(other b λw=>by rw[w] at ho;cases q.2.2.2.1.symm.trans ho;exact hnf _ q.2.2.2.2.1).trans ho⟩
 have hl3:∀b∈(f.env::fr).filterMap (·.frame),b=f.env.locals\/dM (ci ρ ρ') F' ⟨ls,[],mem⟩ f b:=λb hb=>(List.mem_cons.mp<|lM b hb).imp id<|x3.Im c
 have hl3':∀b∈(f.env::fr).filterMap (·.frame),b∈l\/h₀.get? b=none:=λb hb=>(List.mem_cons.mp<|lM b hb).symm.imp id λe:b=f.env.locals=>by refine(ys e)▸?_;exact c.new _<|.inl rfl
 have hD4:h4.get? d=some (dictOf es n):=ent3.keep d _ ((other d λw=>by rw[w,q.1] at atD1;exact bU atD1).trans hD2) hde λw=>dOut<|lM d w
 refine D9 ent3.obj λT2 oT2 ts2 q2=>?_;have n2:h1.get? T2=none:=ent.none_of (by
  by_cases w:T2=T
  ·rw[w] at q2;rw[q2.1] at someT;exact jn someT
  ·refine(other T2 w)▸?_;exact q2.1)
 exact k h4 _ T2 oT2 ts2 (a3.HZ ent3 asE hl3) (x3.HZ c ent3 Iz hl3') asE asD (outOf T2 n2) q2.2.1 (λw=>by rw[w,atD1] at n2;exact jg n2) (none1 _ n2) (q2.2.2.1.trans rfl) (Array.getElem?_setIfInBounds_self_of_lt<|by refine(ys Array.size_setIfInBounds)▸?_;exact hsz) hD4 q2.2.2.2.1 q2.2.2.2.2.1 (Array.getElem?_eq_some_iff.mp q2.2.2.2.2.2).1
theorem EW:∀{C A f D fI bm I u ls mem ρ ρ₀ F F₀ g₀ h₀ l e T V oT p2 W ts s X np pos nm i J B Q E ls'}(G:Gd C)(O:mX C D fI bm I u)(a:At C f ρ F ⟨ls,[some (.Hb e V),some p2,some (.Hb T oT)],mem⟩ s.heap)(x:jh ρ₀ F₀ g₀ h₀ l ρ F ⟨ls,[some (.Hb e V),some p2,some (.Hb T oT)],mem⟩ s.heap)(c:i6 f ρ₀ F₀ g₀ h₀ l)(hc:V.cls= .ref D)(au:V.data= .fields W)(ap:W[1]? =some (.ref T))(ah:oT.data= .fields ts)(av:3<ts.size)(ay:p2.HM=true)(eX:nsIn C.K mainGlobals X=some (some (.ref D)))(hX:f.env.kindOf X=some .globalImplicit)(al:(X==("__debug__":Str))=false)(hi:f.ns[i]? =some nm)(hk:f.env.kindOf nm=some .local)(S:∀A',fA C A' f (J::B) ⟨ls.set i (some (.val (.ref e))),[some (.Hb e V),some p2,none],mem⟩ λy σ'=>y= .next/\σ'=⟨ls',[some (.Hb e V),some p2,none],mem⟩)(k:∀h' tk an F3 T,At C f an F3 ⟨ls'.set i none,T,mem⟩ h'->jh ρ₀ F₀ g₀ h₀ l an F3 ⟨ls'.set i none,T,mem⟩ h'->aU T->Q .next (wh s h' tk)),wpAny (model C.prog C.w) A (handleBy (.ref e) f.env [.ExceptHandler (some (.Name X np)) (some nm) (J::B) pos]) Q E s:=by
 exists ce λC=>cx λA=>dO λf=>aA λD=>aA λfI=>aA λbm=>aA λI=>aA λu=>aA λls=>aA λmem=>aA λρ=>aA λρ₀=>aA λF=>aA λF₀=>aA λg₀=>aA λh₀=>aA λl=>aA λe=>aA λT=>aA λV=>aA λoT=>yG λp2=>aA λW=>aA λts=>eu λs=>aA λX=>aA λnp=>aA λpos=>aA λnm=>aA λi=>aA λJ=>aA λB=>aA λQ=>aA λE=>aA λls'=>aO _;intros;obtain⟨hp,g,d0,tk,os⟩:=s;refine wpAny_handleBy_cons (codeAny_handlers_test ?_) (by intro q;exact nc PySem.Value.ctorIdx q rfl);refine((lC (A:=A.mark<|some<|.ref e) (Q:=λy σ1=>y= .val (.ref D)/\σ1=⟨ls,[some (.Hb e V),some p2,some (.Hb T oT)],mem⟩) G eX hX (λU U U=>.val _) al ⟨rfl,rfl⟩) ρ F ⟨hp,g,d0,tk,os⟩ a).go λv h8 a1 bo F8 bq y a8 ao ry q=>?_;rw[q.2] at a8 ao;rw[q.1] at ry;refine ry.Ia ?_;have x8:=x.then c a ao
 have r8:=a8.raw (k:=.tm 0) rfl;refine O.objE λbu q' N bs bk sn bp ab br dd k0 k1 k2 k3 k5 mN bh bt=>wpAny_excMatches_sub_self (bh _<|G.at a8).1 r8.2 hc O.base.hasBase ?_;show codeAny _ _ _ _ _;refine codeAny_handlers_suite_as ?_;have t8:=a8.raw (k:=.tm 2) rfl;refine wpAny_setFlight_none (s:=⟨h8,g,d0,a1,os⟩) r8.2 au ap t8.2 ah av ?_;have ak:(h8.update T<|Obj.mapFields (·.setIfInBounds 3 Value.none)).get? T=some (oT.mapFields (·.setIfInBounds 3 .none)):=Heap.get?_update_self _ t8.2<|Obj.isFreed_of_fields<|Obj.data_mapFields ah _
 have ad:∀b ob,b≠T->h8.get? b=some ob->(h8.update T<|Obj.mapFields (·.setIfInBounds 3 Value.none)).get? b=some ob:=λb ob hb e1=>(Heap.get?_update_other _ _<|Ne.symm hb).trans e1;revert ak ad;generalize oT.mapFields (·.setIfInBounds 3 .none)=a0;generalize h8.update T (Obj.mapFields (·.setIfInBounds 3 Value.none))=h9;intro ak ad;have a9:=a8.upd (k:=.tm 2) (o':=.Hb T a0) rfl t8.1 (.inl rfl) ad ⟨⟨rfl,rfl⟩,ak⟩;have x9:=x8.then c a8<|.upd (k:=.tm 2) (o':=.Hb T a0) rfl t8.1 (.inl rfl) ad
 refine(ja (A:=A.mark<|some<|.ref e) (s:=⟨h9,g,d0,a1,os⟩) (Q:=λσ'=>σ'=_) hi (.inl hk) a9 (.val<|.ref e) rfl).use λU h10 bb af az bl aq ae bj=>?_;rw[bj] at aq ae;have ar:=x9.then c a9 ae
 have aj:=aq.IW 2;have bd:jh ρ₀ F₀ g₀ h₀ l af az ⟨ls.set i<|some<|.val<|.ref e,[some (.Hb e V),some p2,none],mem⟩ h10:={ar with fresh:=λb hb=>ar.fresh b (hb.imp (aj.2 b) id)}
 refine(S (A.mark<|some<|.ref e) af az ⟨h10,g,d0,bb,os⟩ aj.1).go λy bi am a2 bg bn z ai ag rz q=>?_;rw[q.2] at ai ag;rw[q.1] at rz;have be:=bd.then c aj.1 ag
 cases y with
 |next=>exact At.II (s:=⟨bi,g,d0,am,os⟩) ai hi hk λbc aw bf ba=>k bc aw a2 bg _ bf (be.then c ai ba) (fZ (λo e=>by(have Z:=oi e;clear e;subst Z);rfl)<|fZ (λo e=>by(have aa:=oi e;clear e;subst aa);exact ay)<|bP aK)
 |_=>exact rz.elim
theorem tG(G:Gd C){fI:Addr}{newId initId:String}(O:mX C D fI bm newId initId){P:Array Value->List DictEntry->Prop}(hP1:∀fl es,P fl es->fl[1]? =some .none/\fl.size=6){mem:aQ}{ρ ρ₀:Pl}{F F₀:Fz}{g₀:bR}{h₀ h0 h1 h2:Heap}{l:List Addr}{fr:List Env}
  {e d L:Addr} {fl:Array Value} {n:Nat} (hs:s.heap=h2) (a:At C f ρ F ⟨ls,[],mem⟩ h0) (x:jh ρ₀ F₀ g₀ h₀ l ρ F ⟨ls,[],mem⟩ h0) (c:i6 f ρ₀ F₀ g₀ h₀ l) (hnew:∀b,h0.get? b=none->h₀.get? b=none)
  (hfr:A.frames=some (f.env::fr)) (hf:f.env.frame=some f.env.locals) (hlf:fr.filterMap (·.frame)=l) (hff:h0.FunFrames cz (f.env::fr)) (R:o9 C D P (bJ ρ) F mem (f.env.locals::l) h0 e d fl es n h1 h2 ρ' F' L)
  {X:Str} {np pos:Pos} {nm:Str} {i:Nat} {b₀:Stmt} {suite:List Stmt} {Q:Flow->Shared->Prop} (eX:nsIn C.K mainGlobals X=some (some (.ref D))) (hX:f.env.kindOf X=some .globalImplicit) (hdX:(X==("__debug__":Str))=false)
  (hi:f.ns[i]? =some nm) (hk:f.env.kindOf nm=some .local) {ls':List (Option PV)}
  (hsuite:∀A' fl',P fl es->fA C A' f (b₀::suite) ⟨ls.set i (some (.val (.ref e))),[some (.Hb e (bC D (some d) fl')),some (.Hb d (dictOf es n)),none],mem⟩ λy σ'=>y= .next/\σ'=⟨ls',[some (.Hb e (bC D (some d) fl')),some (.Hb d (dictOf es n)),none],mem⟩)
  (k:∀h' tk ρ3 F3 T,At C f ρ3 F3 ⟨ls'.set i none,T,mem⟩ h'->jh ρ₀ F₀ g₀ h₀ l ρ3 F3 ⟨ls'.set i none,T,mem⟩ h'->aU T->Q .next (wh s h' tk)):
  wpAny (model C.prog C.w) A (noteFrame (.ref e) f.env) (λU s₂=>wpAny (model C.prog C.w) A (setFlight (.ref e) none) (λU s₃=>wpAny (model C.prog C.w) A (handleBy (.ref e) f.env [.ExceptHandler (some (.Name X np)) (some nm) (b₀::suite) pos]) Q E s₃) E s₂) E s:=by
 exact DQ hP1 hs a x c hnew hfr hf hlf hff R λh4 fl2 T oT ts a4 x4 asE asD asT hTe hTd nT gE h1' gD gT hdT hts=>(GY a4 x4 asE asD asT R.ne hTe hTd (hnew _ R.Iz) (hnew _ R.newD) nT (p1:=.Hb e<|bC D (some d) fl2) (p2:=.Hb d<|dictOf es n) (p3:=.Hb T oT) (λU=>⟨⟨rfl,rfl⟩,gE⟩) (λU=>⟨⟨rfl,rfl⟩,gD⟩)<|λU=>⟨⟨rfl,rfl⟩,gT⟩).elim λρ7 q=>EW (s:={s with heap:=h4}) G O q.1 q.2 c rfl rfl h1' hdT hts rfl eX hX hdX hi hk (λA'=>hsuite A' fl2 R.has) k
theorem kM{ρ:Pl}{F:Fz}{h:Heap}{z:List Env}(a:At C f ρ F σ h)(I:f.env.frame=some f.env.locals)(B:h.FunFrames cz z):h.FunFrames cz (f.env::z):=by
 exact bM a.R.HF λJ N u U U=>Heap.FunFrames.cons (L:=f.env.locals) (m:=J) (by refine(ys a.R.kind)▸?_;exact λe=>by exact nc PySem.ScopeKind.ctorIdx e rfl) I u rfl B
theorem jh.none_of{ρ₀ ρ:Pl}{F₀ F:Fz}{mem:aQ}{h₀ h:Heap}{l:List Addr}(x:jh ρ₀ F₀ (aH mem) h₀ l ρ F σ h)(a:At C f ρ F σ h)(I:σ.mem=mem){b:Addr}(e:h.get? b= .none):h₀.get? b= .none:=by
 rcases x.none e with⟨k,o,p,u,J,B⟩|q
 ·exfalso
  cases k with
  |tm i=>exact bU u
  | sk n=>
   refine aP (a.H.HJ<|bH (.sk n) o p (by rw[<-I] at u;exact u) (x.HD _ _ J) B) λN z=>?_;rw[e] at z;exact bU z
 ·exact q
theorem zo:∀{C A f σ x z pos u v ρ F s xs σ' Q E}(G:Gd C)(a:At C f ρ F σ s.heap)(e:nsIn C.K mainGlobals x=some (some v))(hx:f.env.kindOf x=some .globalImplicit)(hd:(x==("__debug__":Str))=false)(hk:di C.K v=true)(hs:c8 f u)(hn:eS f pos u)(h:jo C A f pos u σ λys σ1=>ys=xs/\σ1=σ')(k:∀vs h' tk ρ' F',At C f ρ' F' σ' h'->bx (bv f) ρ F σ.get s.heap ρ' F' σ'.get h'->bQ C ρ' F' vs xs->wpAny (model C.prog C.w) A (call v vs) Q E (wh s h' tk)),wpAny (model C.prog C.w) A (eval (.Call (.Name x z) u [] pos) f.env) Q E s:=by
 exists ce λC=>cx λA=>dO λf=>dR λσ=>aA λx=>aA λz=>aA λpos=>aA λu=>aA λv=>aA λρ=>aA λF=>eu λs=>aA λxs=>dR λσ'=>aA λQ=>aA λE=>aO _;intros;refine wpAny_Call_ofName<|((lC (A:=A) (Q:=λy σ1=>y= .val v/\σ1=σ) G e hx (λU U U=>.val _) hd ⟨rfl,rfl⟩) ρ F s a).use λv2 h2 J ρ2 F2 σ2 a2 I N=>cj N λy ry B e2=>?_
 subst B e2;refine ry.Ia<|callWith_of (P:=C.K.In) hn (λhp X=>jm hk hp X)<|gt hs<|(h ρ2 F2 (wh s h2 J) a2).use λW h3 Z O F3 ab a3 S V=>cj V λys aa B e3=>⟨G.at a3,?_⟩
 subst B e3;exact k W h3 Z O F3 a3 (I.then a2 S) aa
end
end
section
open PySem PySem.W PyProof.Rows PySem.Calls
section
variable {C:Cx} {A:Around} {f:Fc} {σ:aC}
noncomputable def Fg(C:Cx)(ρ:Pl)(F:Fz)(l:List Addr)(mem:aQ)(s:Shared)(x:PV)(mem':aQ)(r:Result)(s':Shared):Prop:=
 ∃ v h' tk ρ' F',r= .ok (.ret v)/\s'=(wh s h' tk)/\HR C ρ' F' (aH mem') h'/\(∀i,ρ' (.tm i)=none)/\(∀n,mem' n=none->ρ' (.sk n)=none)/\bx (λa=>a∈l) ρ F (aH mem) s.heap ρ' F' (aH mem') h'/\aW C ρ' F' v x/\
  ∀a∈l,∀o,s.heap.get? a=some o->∃sl,h'.get? a=some {o with slots:=sl}
theorem At.I3:∀{C f σ ρ ρ' F F' h h' mem'}(x:At C f ρ F σ h)(H':HR C ρ' F' (aH mem') h')(ae:∀n,mem' n=none->ρ' (.sk n)=none)(ad:∀i,ρ' (.tm i)=none)(O:bx (λa=>a∈[f.env.locals]) (bJ ρ) F (aH σ.mem) h ρ' F' (aH mem') h')(af:∀o,h.get? f.env.locals=some o->∃sl,h'.get? f.env.locals=some {o with slots:=sl}),At C f (ci ρ ρ') F' ⟨σ.ls,σ.G8,mem'⟩ h'/\bx (bv f) ρ F σ.get h (ci ρ ρ') F' (aC.get ⟨σ.ls,σ.G8,mem'⟩) h':=by
 exists ce λC=>dO λf=>dR λσ=>aA λρ=>aA λρ'=>aA λF=>aA λF'=>aA λh=>aA λh'=>aA λmem'=>aO _;intros;have Z:∀k p,ρ k=some p->ci ρ ρ' k=some p:=λk p e=>by
  cases k with
  |sk n=>exact O.HD (.sk n) p e
  |tm i=>exact e
 have ab:∀k p,ρ' k=some p->ci ρ ρ' k=some p:=λk p e=>by
  cases k with
  |sk n=>exact e
  |tm i=>rw[ad] at e;exact bU e
 have W:∀a o,h.get? a=some o->¬bY ρ σ.get a->a≠f.env.locals->h'.get? a=some o:=λa o e n nl=>O.keep a o e (λn2=>n<|cs n2)<|λq=>nl<|List.mem_singleton.mp q
 have V:∀i o p a,σ.get (.tm i)=some o->ρ (.tm i)=some p->(a=p.1\/a=p.2)->∀ob,h.get? a=some ob->h'.get? a=some ob:=λi o p a u z B ob S=>
  O.keep a ob S (λn2=>by
   refine ca n2 λk o2 p2 g1 g2 g3=>?_;cases k with
   |tm j=>exact bU g1
   |sk n=>have:=x.H.inj (.sk n) (.tm i) o2 o p2 p a g1 u g2 z g3 B;exact nc Ky.ctorIdx this rfl) (λq=>x.R.Hj f.env.locals (.inl rfl)<|bH (.tm i) o p u z<|by refine(List.mem_singleton.mp q)▸?_;exact B)
 have J:∀i o p a,σ.get (.tm i)=some o->ρ (.tm i)=some p->(a=p.1\/a=p.2)->¬bY ρ' (aH mem') a/\∀ob,¬F' a ob:=λi o p a u z B=>by
  have I:(bY ρ' (aH mem') a\/∃ob,F' a ob)->False:=λhh=>by
   rcases O.fresh a hh with⟨k,o2,p2,g1,g2,g3⟩|⟨ob,g⟩|g
   ·cases k with
    |tm j=>exact bU g1
    |sk n=>have:=x.H.inj (.sk n) (.tm i) o2 o p2 p a g1 u g2 z g3 B;exact nc Ky.ctorIdx this rfl
   ·exact x.H.sep (.tm i) o p a u z B ob g
   ·refine aG (x.H.obj (.tm i) o u) λp' S r=>?_;rw[z] at S;(have aa:=oi S;clear S;subst aa);refine aP (r.has B) λob e5=>?_;rw[g] at e5;exact bU e5
  exact⟨λh=>I<|.inl h,λob h=>I<|.inr ⟨ob,h⟩⟩
 have hR:HR C (ci ρ ρ') F' (aC.get ⟨σ.ls,σ.G8,mem'⟩) h':=by
  refine⟨H'.base,H'.HC,?_,?_,?_⟩
  ·intro k o e;cases k with
   | sk n=>
    exact aG (H'.obj (.sk n) o e) λp u r=>aD p u<|r.IY ab
   | tm i=>
    exact aG (x.H.obj (.tm i) o e) λp u r=>aD p u<|r.mono Z O.fz λa U ob z=>V i o p a e u U ob z
  ·intro k o p a u z B;cases k with
   |sk n=>exact H'.sep (.sk n) o p a u z B
   |tm i=>exact(J i o p a u z B).2
  ·intro k k' o o' p p' a u z B S e5 e6;cases k with
   | sk n=>cases k' with
    |sk n'=>exact H'.inj (.sk n) (.sk n') o o' p p' a u z B S e5 e6
    |tm i=>exact absurd (bH (.sk n) o p u B e5) (J i o' p' a z S e6).1
   | tm i=>cases k' with
    |sk n'=>exact absurd (bH (.sk n') o' p' z S e6) (J i o p a u B e5).1
    |tm j=>exact x.H.inj (.tm i) (.tm j) o o' p p' a u z B S e5 e6
 have N:∀a,aV f a->¬bY (ci ρ ρ') (aC.get ⟨σ.ls,σ.G8,mem'⟩) a/\∀ob,¬F' a ob:=λa U=>by
  have I:(bY ρ' (aH mem') a\/∃ob,F' a ob)->False:=λhh=>by
   rcases O.fresh a hh with g|⟨ob,g⟩|g
   ·exact x.R.Hj a U<|cs g
   ·exact x.R.HT a U ob g
   ·refine aP (x.R.has U) λob e=>?_;rw[g] at e;exact bU e
  refine⟨λag=>ca ag λk o p u z B=>?_,λob h=>I<|.inr ⟨ob,h⟩⟩;cases k with
  |sk n=>exact I<|.inl<|bH (.sk n) o p u z B
  |tm i=>exact x.R.Hj a U<|bH (.tm i) o p u z B
 refine⟨⟨hR,?_,x.fin,ae⟩,Z,O.fz,λa o e n1 n2=>W a o e n1<|λq=>n2<|q▸.inl rfl,λa e=>?_⟩
 ·have R:=x.R;refine{R with HF:=?_,Hj:=λa U=>(N a U).1,HT:=λa U=>(N a U).2};refine bM R.HF λm cm hn hc hs=>bE m cm (qn hn af) (λn c e=>?_)<|λi y ov u z=>(hs i y ov u z).mono Z O.fz
  exact aG (hc n c e) λo ho hd=>aD o (W c o ho (R.Hj c<|.inr<|dk n c e rfl)<|R.Ie n c<|mem_of_lookup e) hd
 ·rcases e with⟨k,o,p,u,z,B⟩|⟨o,e⟩
  ·cases k with
   | sk n=>
    rcases O.fresh a (.inl<|bH (.sk n) o p u z B) with g|g|g
    ·exact .inl<|cs g
    ·exact .inr<|.inl g
    ·exact .inr<|.inr g
   |tm i=>exact .inl<|bH (.tm i) o p u z B
  ·rcases O.fresh a (.inr ⟨o,e⟩) with g|g|g
   ·exact .inl<|cs g
   ·exact .inr<|.inl g
   ·exact .inr<|.inr g
theorem ul{J:Value}{mem':aQ}(O:A.frames=some [f.env])(S:f.env.frame=some f.env.locals)(hm:aN σ.mem)(hx:xs.all PV.HM=true)(u:g4 mem' x)
  (W:∀ρ F s vs,s.heap.FunFrames cz [f.env]->(∀b∈[f.env.locals],¬bY ρ (aH σ.mem) b/\∀o,¬F b o)->HR C ρ F (aH σ.mem) s.heap->(∀i,ρ (.tm i)=none)->(∀n,σ.mem n=none->ρ (.sk n)=none)->bQ C ρ F vs xs->
   codeAny (model C.prog C.w) A (.call J ⟨vs,[]⟩) (Fg C ρ F [f.env.locals] σ.mem s x mem') s)
  (q:Q x ⟨σ.ls,σ.G8,mem'⟩):Cl C A f J xs σ Q:=λρ F s vs a r=>
 wpAny_call (codeAny_mono (W (bJ ρ) F s vs (kM a S trivial) (λb hb=>by refine(ys<|List.mem_singleton.mp hb)▸?_;exact⟨λq=>a.R.Hj _ (.inl rfl)<|cs q,a.R.HT _<|.inl rfl⟩) (a.H.H8 hm) (λU=>rfl) (λn e=>a.HN n e)<|r.sk hx) λaa s' h=>by
  refine FC h λv h' tk ρ' F' B I H' t1 V N Z hs=>?_;try clear h;subst B;subst I;refine aL (a.I3 H' V t1 N<|hs _<|.head _) λa' z=>?_;exact bS h' tk _ F' _ rfl a' z<|aD x (g4.back Z u) q)
theorem AK{n:Nat}{W:Value}{mem mem':aQ}{l:List Addr}(U:Fn C n W xs mem λr m=>r=x/\m=mem')(hl:∀b∈l,¬bY ρ (aH mem) b/\∀o,¬F b o)(Z:Rm A n)(H:HR C ρ F (aH mem) s.heap)(J:∀i,ρ (.tm i)=none)(N:∀n,mem n=none->ρ (.sk n)=none)(r:bQ C ρ F vs xs):
  codeAny (model C.prog C.w) A (.call W ⟨vs,[]⟩) (Fg C ρ F l mem s x mem') s:=
 codeAny_mono (U A ρ F s vs Z H J N r) λaa s' h=>by
  refine Fm h λv h' tk ρ' F' V pv O S H' t1 t2 u rv ok I B=>?_;try clear h;subst O;subst S;subst I;clear U;subst B;exact Cj v h' tk ρ' F' rfl rfl H' t1 t2 ⟨u.HD,u.fz,λa o e n1 n2=>u.keep a o e n1<|λz=>z,u.fresh⟩ rv<|λa ha o e=>⟨o.slots,u.keep a o e (hl a ha).1<|λz=>z⟩
end
end
section
open PySem PySem.W PyProof.Rows PySem.Calls
section
variable {prog:Program} {w:World} {A:Around} {E:Value->Shared->Prop} {s:Shared}
theorem o6:typeLookup (.type "int") "__bytes__"=pure none:=by rw[typeLookup_type,builtinLookup_eq_fast];kernel_rfl
theorem vy:typeLookup (.type "int") "__index__"=pure (some (.builtin "int.__index__")):=by rw[typeLookup_type,builtinLookup_eq_fast];kernel_rfl
theorem nk:∀{prog w A E s n t Q}(hn:0<=n/\n<1000)(hQ:∀t',Q (.bytes (Array.replicate n.toNat 0) t') {s with toks:=s.toks+1}),codeAny (model prog w) A (.call (.builtin "bytes.__new__") ⟨[.type "bytes",.int n t],[]⟩) (wants Q E) s:=by
 exists aA λprog=>zV λw=>cx λA=>aA λE=>eu λs=>aA λn=>aA λt=>aA λQ=>aO _;intros;refine codeAny_of_tree ?_;show wpAny _ A.in1 (do checkBuiltinCall "bytes.__new__" ⟨[.type "bytes",.int n t],[]⟩;again (.builtin "bytes.__new__" ⟨[.type "bytes",.int n t],[]⟩)) _ _ s;refine wpAny_bind<|wpAny_of_eq (F.bm_newCall _)<|wpAny_pure ⟨plainId_quiet F.bm_plain _,codeAny_builtin F.bm_entry ?_⟩
 refine(ys<|Around.under_plainId F.bm_plain _)▸?_;have hT:s.TypeIs (.int n t) "int":=rfl;unfold Builtin.«bytes.__new__»;refine wpAny_bind<|wpAny_of_eq (a:=true) rfl ?_
 refine bm_if_false rfl<|wpAny_bind<|wpAny_of_eq F.bm_sub ?_
 refine bm_if_false rfl<|wpAny_bind<|wpAny_of_eq (F.bm_bind _) ?_
 refine wpAny_bind<|wpAny_of_eq (a:=()) rfl ?_
 refine wpAny_bind<|wpAny_of_eq (a:=()) rfl ?_
 refine bm_if_false rfl<|wpAny_bind<|wpAny_specialOf hT o6 ?_
 refine wpAny_bind<|wpAny_of_eq (a:=false) rfl ?_
 refine bm_if_false rfl<|wpAny_bind<|wpAny_specialOf hT vy ?_
 refine bm_if_false rfl<|wpAny_bind<|wpAny_attempt<|wpAny_of_eq (a:=n) rfl ?_
 dsimp only;have hf:Builtin.SmallTypes.fitsIndex n=true:=by
  unfold Builtin.SmallTypes.fitsIndex;simp only[Bool.and_eq_true,decide_eq_true_eq]
  lia
 refine bm_if_false (by show(!Builtin.SmallTypes.fitsIndex n)=false;refine(ys hf)▸?_;rfl) ?_;rw[if_neg (by exact bw [] [_] 0x808c08080c81 ft hn.1),if_neg (by lia)];have hz:(Array.replicate n.toNat (0:UInt8)).size<=sizeLine:=by refine(ys Array.size_replicate)▸(ys PySem.sizeLine_eq)▸?_;lia
 refine bm_if_false (by unfold Builtin.Bytes.tooLong;simp only[decide_eq_false_iff_not];refine(ys PySem.sizeLine_eq)▸?_;lia) ?_;refine wpAny_bind<|wpAny_rule<|wpAny_bind<|wpAny_mkBytes ?_ hz
 exact wpAny_of_eq (a:=Fin.done<|.ret _) rfl<|hQ _
end
section
variable {C:Cx} {A:Around} {f:Fc} {σ:aC}
theorem xb:∀{C A f σ n Q}(hn:0<=n/\n<1000)(q:Q (.d (.bytes (Array.replicate n.toNat 0))) σ),Cl C A f (.type "bytes") [.d (.int n)] σ Q:=by
 exists ce λC=>cx λA=>dO λf=>dR λσ=>aA λn=>aA λQ=>aO _;intros;exact λρ F s vs a r=>by
  revert ρ F s vs;exists aA λρ=>aA λF=>eu λs=>aA λvs=>aO _;intros;refine r.one λr1=>?_;have r1:=r1.dv;cases r1;refine callType_codes (Q₁:=λobj s₁=>s₁.TypeIs obj "bytes"/\aS C f ρ F σ s (VQ C Q) obj s₁) PySem.F.bm_called (PySem.F.bm_typeCall _) PySem.F.entry_object_init
   (nk hn λt=>⟨PySem.W.typeIs_bytes _ _ _,aS.same (tk:=s.toks+1) a<|aD _ (.d<|.bytes _ _) q⟩) λobj s₁ h₁=>?_
  exact⟨h₁.1,PySem.F.args_object_init_2 obj _,object_init_meets PySem.F.bm_called.init.lookup PySem.F.bm_called.made (by decide) C.prog C.w A.in1 _ s₁ ⟨h₁.1,rfl,h₁.2⟩⟩
theorem wW(G:Gd C){pos:Pos}{ks:List (Option Expr)}{vs:List Expr}(I:ks.all (·.isSome)=true)(u:ks.length=vs.length)(B:ks≠[])(z:ks.length<=15)
  (h:Fp C A f pos ks vs ⟨σ.ls,σ.G8++[some (.Hh [])],σ.mem⟩ λl σ1=>(l.map (·.1)).Nodup/\σ1.get (.tm σ.G8.length)=some (.Hh [])/\Q (.at (.tm σ.G8.length)) (σ1.put (.tm σ.G8.length) (.Hh l))):Ev C A f (.Dict ks vs pos) σ Q:=
 rZ (σ0:=⟨σ.ls,σ.G8++[some (.Hh [])],σ.mem⟩) G (λa=>a.fin _<|Nat.le_refl _) rfl (λU=>lH) pD (λn hn=>⟨hn,nofun⟩) I u B z h
theorem vP:∀{C A f σ K u l m Q}(O:σ.get K=some (.Hh l))(z:σ.get u=some (.Hh m))(J:K≠u)(B:((l++m).map (·.1)).Nodup)(hz:l.length+m.length<=1000)(q:Q (.d .none) (σ.put K (.Hh (l++m)))),Cl C A f (.builtin "dict.update") [.at K,.at u] σ Q:=by
 exists ce λC=>cx λA=>dO λf=>dR λσ=>Au λK=>Au λu=>aA λl=>aA λm=>aA λQ=>aO _;intros;exact λρ F s vs a r=>by
  revert ρ F s vs;exists aA λρ=>aA λF=>eu λs=>aA λvs=>aO _;intros;refine r.two λr1 r2=>r1.IF (X:=λv=>fw C A f (call (.builtin "dict.update") [v,_]) ρ F σ s _) λ{p} e=>r2.IF (X:=λv=>fw C A f (call (.builtin "dict.update") [_,v]) ρ F σ s _) λ{p2} Z=>?_;have S:=a.Hh O e;have S2:=a.Hh z Z;refine vX S.2 λo kvs x=>vX S2.2 λo2 kvs2 N=>?_;have V:p.1≠p2.1:=λq=>J<|a.H.inj K u _ _ p p2 p.1 O z e Z (.inl rfl)<|.inl q
  have hD:s.heap.DictOf (strKind C.prog C.w) p.1 kvs:=cA.mpr<|aD o x.1 x.2.1
  have W:s.heap.DictOf (strKind C.prog C.w) p2.1 kvs2:=cA.mpr<|aD o2 N.1 N.2.1
  have I:kvs.length+kvs2.length=l.length+m.length:=by have h1:=congrArg List.length x.2.2.keys;have h2:=congrArg List.length N.2.2.keys;rw[List.length_map,List.length_map] at h1 h2;exact(ys h1)▸(ys h2)▸rfl
  refine call_meetsIn PySem.F.slot_dict_update hD.typeIs PySem.F.entry_dict_update (PySem.F.args_dict_update_2 _ _) (meets_dict_update (strKind C.prog C.w) p.1 p2.1 V<|beq_eq_false_iff_ne.mpr S2.1.2)
   (kH kvs kvs2 hD W (by refine(ys I)▸(ys PySem.sizeLine_eq)▸?_;exact Nat.le_trans hz<|by decide)<|λh' hm U hs=>?_)
  rw[l3 kvs2 kvs (by rw[List.map_append,x.2.2.keys,N.2.2.keys,<-List.map_append];exact B)] at hm;exact(cA.mp hm).elim λo3 g3=>aS.upd (o':=.Hh<|l++m) (tk:=s.toks) a O e (.inl rfl) (λb ob hb eb=>hs.extBut b ob hb eb) (⟨S.1,bE o3 (kvs++kvs2) g3.1 g3.2<|gQ.append x.2.2 N.2.2⟩)<|aD _ (.d .none) q
theorem s9:typeOf (.builtin "dict.update")=pure (.type "method_descriptor"):=PySem.F.type_dict_update
end
end
section
open PySem PySem.W PyProof.Rows PySem.Calls
section
variable {C:Cx} {A:Around} {f:Fc} {σ:aC}
noncomputable def CQ(St:Nat->aC->Prop)(n:Nat)(Q:Fl->aC->Prop):Fl->aC->Prop:=λfl σ2=>match fl with
 | .next=>St (n+1) σ2
 | .cont=>St (n+1) σ2
 | .brk=>Q .next σ2
 | .ret v=>Q (.ret v) σ2
theorem AC{St:Nat->aC->Prop}{Q:Fl->aC->Prop}(I:∀σ,St m σ->Q .next σ)
    (u:∀n σ,n<m->St n σ->As C A f (λv=>assign target f.env v) (.d (.int (n:Int))) σ λσ1=>fA C A f body σ1 (CQ St n Q)):∀(k n:Nat)(σ:aC),n+k=m->St n σ->kC C A f target body (λU=>True) ((cM (n:Int) k).map .d) σ Q
 := λk=>by
  induction k with
  |zero=>exact λn σ e h=>I σ<|e▸h
  | succ k O=>
    intro n σ e h;rw[cM,List.map_cons];refine λρ F s v a r=>(u n σ (bw [_,_,_] [] 0x220a20c03202200081 ft e) h ρ F s v a r).mono λU U U σ1 q ρ F s a=>(q ρ F s a).mono λ_ _ _ σ2 J=>aG J λy N z=>aD y N ?_;have B:St (n+1) σ2->kC C A f target body (λU=>True) ((cM ((n:Int)+1) k).map .d) σ2 Q:=λz=>by
      have:=O (n+1) σ2 (Nat.le_antisymm (bw [_,_,_] [] 0x21050860190120220a00d801 ft e)<|bw [_,_,_] [] 0x105106219412105086c0001 ft e) z
      rwa [show((n+1:Nat):Int)=(n:Int)+1 from by exact Int.le_antisymm (jO [_] [] 73465991291533697 ft) (jO [_] [] 73465510255253889 ft)] at this
    cases y with
    |next=>exact⟨trivial,B z⟩
    |cont=>exact⟨trivial,B z⟩
    |brk=>exact z
    |ret v=>exact z
theorem lK(St:Nat->aC->Prop)(m:Nat){pos:Pos}{Q:Fl->aC->Prop}(J:A.handled=none)(I:m<1000)(h:Ev C A f iter σ λx σ1=>x= .d (.It 0 (m:Int))/\St 0 σ1)(z:∀σ,St m σ->Q .next σ)
  (u:∀n σ,n<m->St n σ->As C A f (λv=>assign target f.env v) (.d (.int (n:Int))) σ λσ1=>fA C A f body σ1 (CQ St n Q))
  (B:∀x,foldedSetIterable iter f.env x=pure x):Ex C A f (.For target iter body [] pos) σ Q:=by
 refine s3 (h.mono λx σ1 q=>?_) B;obtain⟨rfl,q⟩:=q;refine bE _ _ (px J (by decide) (by decide) (jO [_] [] 0x1e0000000000000007eb181 ft)<|bw [_] [] 0x3e829001030000000000000003f403a01 ft I) trivial<|(ys<|show((m:Int)-0).toNat=m from by lia)▸?_;exact AC (C:=C) (A:=A) (f:=f) z u m 0 σ1 (Nat.le_antisymm (jO [_] [] 38913 ft)<|jO [_] [] 4980737 ft) q
end
end
section
theorem pB:typeLookup (.type "list") "keys"=pure none:=by rw[typeLookup_type,builtinLookup_eq_fast];kernel_rfl
theorem vZ:∀{prog w A E s a o xs k Q}(J:s.heap.get? a=some o)(I:o.cls= .type "list")(u:o.data= .seq xs k)(N:o.dict=none)(S:A.handled=none)(h:∀h' tk,(∀b V,s.heap.get? b=some V->h'.get? b=some V)->Q none (wh s h' tk)),wpAny (model prog w) A (getAttr? (.ref a) "keys") Q E s:=by
 intro prog w A E s a o xs k Q J I u N S h;obtain⟨c,Cn,aa,Z⟩:=o;simp only at I u N;subst I u N;obtain⟨hp,g,d,tk,W⟩:=s;have O:∀z,(⟨hp,g,d,z,W⟩:Shared).TypeIs (.ref a) "list":=λU=>aD _ J rfl;have f1:=sub_AttributeError;have f3:=F.slot_list_getattribute.lookup;have f4:=F.slot_list_getattribute.bind<|.ref a
 have f5:=am_list_getattr_none;unfold getAttr? getAttrBy? getAttrBy
 repeat (any_goals (first|assumption|exact O _|((with_reducible show wpAny _ _ (call (Value.builtin "list.__getattribute__") _ _) _ _ _);refine call_meets F.slot_list_getattribute (O _) am_entry_list_getattribute (F.args_list_getattribute_2 _ _) (meets_getattribute_miss_list a xs k Z _ _ pB<|by decide+kernel) ⟨J,S,λh' z e B=>?_⟩)|wp_step))
 refine l4 B.there λt' u' he=>?_;show wpAny _ _ (getattributeRaised _ _ _ _ _ _ _) _ _ _;unfold getattributeRaised
 repeat (any_goals (first|assumption|wp_step))
 exact h h' z B.keeps
theorem mU:entryFor table "dict.update.loop"=some Builtin.«dict.update.loop»:=entryFor_of_tree (by kernel_rfl)
theorem mQ:∀{prog w A E s a o k Q}(hx:s.heap.get? a=some o)(hc:o.cls= .type "list")(hdat:o.data= .seq #[] k)(hd:o.dict=none)(hA:A.handled=none)(h:∀h' tk,(∀b ob,s.heap.get? b=some ob->h'.get? b=some ob)->h'.get? s.heap.objs.size=some {cls:=.type "dict",data:=.dict #[]}->Q (.ref s.heap.objs.size) (wh s h' tk)),wpAny (model prog w) A (call (.type "dict") [.ref a]) Q E s:=by
 exists aA λprog=>zV λw=>cx λA=>aA λE=>eu λs=>aA λa=>aA λo=>aA λk=>aA λQ=>aO _;intros;refine callType_codes (Q₁:=λobj s₁=>obj= .ref s.heap.objs.size/\s₁={s with heap:=s.heap.push {cls:=.type "dict",data:=.dict #[]}}) F.kt_called_dict (F.kt_typeCall_dict_1 _) F.entry_dict_init (kt_code_dict_new _ ⟨rfl,rfl⟩) ?_;intro obj s₁ rn1;refine aL rn1 λre2 re3=>?_;try clear rn1;subst re2;subst re3;have hnew:(s.heap.push {cls:=.type "dict",data:=.dict #[]}).get? s.heap.objs.size=some {cls:=.type "dict",data:=.dict #[]}:=Heap.get?_push_size _ rfl;have hT:({s with heap:=s.heap.push {cls:=.type "dict",data:=.dict #[]}}:Shared).TypeIs (.ref s.heap.objs.size) "dict":=aD _ hnew rfl;have hx1:(s.heap.push {cls:=.type "dict",data:=.dict #[]}).get? a=some o:=Heap.get?_push_of_some _ hx;refine⟨hT,F.args_dict_init_2 _ _,?_⟩;unfold Builtin.«dict.__init__»;refine wpAny_bind ?_;unfold Builtin.Dict.selfAndRest;refine wpAny_bind<|wpAny_notOrdered_dict hT ?_
 show wpAny _ _ (pure (s.heap.objs.size,[Value.ref a])) _ _ _;refine wpAny_pure ?_;show wpAny _ _ (Builtin.Dict.updateFrom "dict.__init__" s.heap.objs.size (.ref a) [] .none) _ _ _;unfold Builtin.Dict.updateFrom;refine wpAny_bind<|wpAny_typeOf (T:="list") (aD o hx1 hc) ?_
 rw[if_pos (by decide)];refine wpAny_bind<|vZ (o:=o) hx1 hc hdat hd hA λh1 tk1 hk1=>?_
 revert h1 tk1;exists aA λh1=>aA λtk1=>aO _;intros;rw[if_pos (by rfl)];have hx2:h1.get? a=some o:=hk1 _ _ hx1;have hl:h1.IsList a #[]:=bD o hx2 hc ⟨k,hdat⟩;refine wpAny_bind<|wpAny_rule ?_
 refine wpAny_bind<|wpAny_pyIter_list hl ?_
 refine wpAny_pure ⟨Code.quiet_builtin _ (by decide+kernel),?_⟩;refine codeAny_builtin mU ?_;unfold Builtin.«dict.update.loop»;have hit:(h1.push {cls:=.type "list_iterator",data:=.fields #[.ref a,.int 0 0]}).IsListIter h1.objs.size a 0:=bD _ (Heap.get?_push_size _ rfl) rfl rfl;refine wpAny_bind<|wpAny_pyNext_list_end (i:=0) hA hit (items:=#[]) (hl.push _) rfl λh2 hb2=>?_
 have hk2:∀b ob,h1.get? b=some ob->h2.get? b=some ob:=λb ob e=>hb2 b ob (Nat.ne_of_lt<|Heap.lt_size e)<|Heap.get?_push_of_some _ e
 show wpAny _ _ (Builtin.Dict.addKeywords s.heap.objs.size []>>=_) _ _ _;refine wpAny_bind<|wpAny_pure<|wpAny_pure ?_
 exact⟨rfl,h h2 tk1 (λb ob e=>hk2 _ _<|hk1 _ _<|Heap.get?_push_of_some _ e)<|hk2 _ _<|hk1 _ _ hnew⟩
section
variable {C:Cx} {A:Around} {f:Fc} {σ:aC}
theorem qi(G:Gd C)(hh:A.handled=none)(q:Q (.d (.G7 [])) σ):Cl C A f (.type "dict") [.d (.seq [])] σ Q:=λρ F s vs a r=>by
 refine r.one λr1=>?_;have r1:=r1.dv;refine r1.H9 λhF hL hA=>?_
 rename_i ax o vs
 cases hA;refine aP hL λn re1=>?_;try clear hL;subst re1;refine mQ (a.H.HC _ _ hF) rfl rfl rfl hh λh' tk hk hn=>aG (iy (C:=C) (s:=s)) λo2 ho2 hd2=>?_;have e2:o2={cls:=.type "dict",data:=.dict #[]}:=oi<|ho2.symm.trans<|Heap.get?_push_size _ rfl
 refine aS.add (l:=[(s.heap.objs.size,o2)]) a hk (λq hq=>by refine(ys<|List.mem_singleton.mp hq)▸?_;exact⟨by refine(ys e2)▸?_;exact hn,aZ _⟩) ?_;exact aD _ (.d<|.G7 (o:=o2) (kvs:=[]) (a.HW G) (.inr<|.head _) hd2 .nil) q
end
end
section
noncomputable def lq:List Nat->List Nat->Bool
 |[],[]=>true
 |a::x,b::y=>match Nat.beq a b with|true=>lq x y|false=>false
 |_,_=>false
theorem Gv{x y:List Nat}(h:lq x y=true):x=y:=by
 induction x generalizing y with
 | nil=>
  cases y with
  |nil=>rfl
  |cons b y=>exact jn h
 | cons a x u=>
  cases y with
  |nil=>exact jn h
  | cons b y=>
   have h:(match Nat.beq a b with|true=>lq x y|false=>false)=true:=h;cases e:Nat.beq a b with
   |true=>rw[e] at h;exact Nat.eq_of_beq_eq_true e▸u h▸rfl
   |false=>rw[e] at h;exact jn h
noncomputable def sq(x y:Str):Bool:=lq x.cps.toList y.cps.toList
theorem n6{x y:Str}(h:sq x y=true):x=y:=by
 cases x;cases y;exact congrArg Str.mk<|Array.toList_inj.mp<|Gv h
noncomputable def vA(x:Str):List Str->Option Nat
 |[]=>none
 |y::r=>match sq x y with|true=>some 0|false=>(vA x r).map (· +1)
theorem iv{x:Str}:∀{l:List Str}{i:Nat},vA x l=some i->l[i]? =some x:=λ{l}=>by
 induction l with
 | nil=>
  intro U I;exact bU I
 | cons y r B=>
  intro i h;unfold vA at h
  split at h
  ·rename_i e;(have u:=oi h;clear h;subst u);refine(ys<|n6 e)▸?_;rfl
  ·refine aG (Option.map_eq_some_iff.mp h) λj J z=>?_;clear h;subst z;exact B J
theorem ol{u:Type}:∀{l:List u}{i:Nat}{x:u},s7 l i=some x->l[i]? =some x
 := λ{l}=>by
  induction l with
  |nil=>exact λ{i x} h=>(show none=some x by cases i<;>exact h)
  | cons y r z=>
    intro i x h;cases i with
    |zero=>exact h
    |succ i=>exact z h
noncomputable def iE{α:Type}(x:Str):List (Str×α)->Option α
 |[]=>none
 |p::r=>match sq x p.1 with|true=>some p.2|false=>iE x r
theorem jI{z:Type}{x:Str}{y:z}:∀{l:List (Str×z)},iE x l=some y->(x,y)∈l:=λ{l}=>by
 induction l with
 | nil=>
  intro I;exact bU I
 | cons p r B=>
  intro h;unfold iE at h
  split at h
  ·rename_i e;(have u:=oi h;clear h;subst u);rw[n6 e];exact .head _
  ·exact .tail _<|B h
theorem oG(x:Str):sq x x=true:=by
 have:∀l,lq l l=true:=λl=>by
  induction l with
  |nil=>rfl
  |cons a l u=>unfold lq;refine(ys<|show Nat.beq a a=true from Nat.beq_refl a)▸?_;exact u
 exact this _
theorem iz{B:Type}{x:Str}:∀{l:List (Str×B)},iE x l=l.lookup x:=λ{l}=>by
 induction l with
 | nil=>
  exact rfl
 | cons p r u=>
  obtain⟨y,z⟩:=p;unfold iE;rw[List.lookup_cons];cases e:sq x y with
  |true=>rw[n6 e,beq_self_eq_true]
  | false=>
   have:(x==y)=false:=by
    cases q:x==y with
    |false=>rfl
    |true=>rw[beq_iff_eq.mp q,oG] at e;exact Gu e
   refine(ys this)▸?_;exact u
noncomputable def cb:Expr->Bool
 | .Starred _ _=>false
 |_=>true
noncomputable def jU:Expr->Bool
 | .Call _ [] [] _=>false
 |_=>true
noncomputable def oy:Expr->Bool
 | .UnaryOp .Not _ _=>false
 | .BoolOp _ _ _=>false
 | .IfExp _ _ _ _=>false
 | .Compare _ _ _ _=>false
 |_=>true
noncomputable def lO:Expr->Bool
 | .ListComp _ _ _ _=>true
 | .SetComp _ _ _ _=>true
 | .DictComp _ _ _ _ _=>true
 |_=>false
theorem dy:∀{e env u}(h:cb e=true),starEach (e::u) env=(false,eval e env)::starEach u env:=by
 intro e env u h;cases e<;>first|rfl|exact jn h
theorem nG:∀{e env u}(h:cb e=true),assignEach (e::u) env=(false,assign e env)::assignEach u env:=by
 intro e env u h;cases e<;>first|rfl|exact jn h
theorem rU:∀{u},u.all cb=true->starEach u env=u.map λe=>(false,eval e env):=λ{u}=>by
 induction u with
 | nil=>
  intro U;exact rfl
 | cons e u z=>
  intro h;rw[List.all_cons,Bool.and_eq_true] at h;rw[dy h.1,z h.2];rfl
theorem AG:∀{u},u.all cb=true->assignEach u env=u.map λe=>(false,assign e env):=λ{u}=>by
 induction u with
 | nil=>
  intro U;exact rfl
 | cons e u z=>
  intro h;rw[List.all_cons,Bool.and_eq_true] at h;rw[nG h.1,z h.2];rfl
theorem vB:∀{I u z p B env t}(h:jU (.Call I u z p)=true),attributeBase (.Call I u z p) B env t=t:=by
 intro I u z p B env t h;cases u with
 | nil=>cases z with
  |nil=>exact jn h
  |cons _ _=>cases I<;>rfl
 |cons _ _=>cases I<;>rfl
theorem uj{o:Expr}{u:Str}{t:Sem Value}(h:jU o=true):attributeBase o u env t=t:=by
 cases o with
 |Call I z B p=>exact vB h
 |_=>rfl
theorem tv{t:Sem Value}(h:oy e=true):isTrue e env t=(do let v<-t;standAt e.pos;holding [v] (truthy v)):=by
 cases e with
 |UnaryOp op x p=>cases op<;>first|rfl|exact jn h
 |_=>first|rfl|exact jn h
section
variable {C:Cx} {A:Around} {f:Fc} {σ:aC}
theorem io(h:args.all cb=true):c8 f args:=by
 cases args with
 |nil=>exact Ec
 |cons e r=>rw[List.all_cons,Bool.and_eq_true] at h;exact pd<|dy h.1
theorem f6:∀{f pos args}(h:args.all cb=true),eS f pos args:=by
 intro f pos args h;unfold eS backTo;refine(ys<|rU h)▸?_;simp
theorem BQ{o:Expr}{u pos:Pos}(I:jU o=true)(h:args.all cb=true)(B:Nat.blt args.length 30=true)(z:(u.endLine==pos.line)=true):
  jq f o name u pos args (do return(<-importBound o f.env).getD true):=by
 refine yn (uj I) ?_ z;unfold methodCallForm backTo;refine(ys<|rU h)▸?_;have:args.length<30:=bl_ B;simp[this]
noncomputable def tL (C : Cx) (A : Around) (f : Fc) (o : Expr) (name : Str) (args : List Expr) (pos : Pos) (y : PV) (σ : aC) (Q : PV -> aC -> Prop) : Prop :=
  ∀ ρ F s v, At C f ρ F σ s.heap -> aW C ρ F v y -> wpAny (model C.prog C.w) A (getMethod v name (do return (<- importBound o f.env).getD true)) (λfx s₂ => wpAny (model C.prog C.w) A (callWith pos fx.1 fx.2 (backTo pos (starEach args f.env)) [])
    (aS C f ρ F σ s (VQ C Q)) (λU U => False) s₂) (λU U => False) s
theorem xy{o:Expr}{u pos:Pos}(hb:jU o=true)(W:args.all cb=true)(N:Nat.blt args.length 30=true)(S:(u.endLine==pos.line)=true)
  (h:Ev C A f o σ λy σ1=>tL C A f o name args pos y σ1 Q):Ev C A f (.Call (.Attribute o name u) args [] pos) σ Q:=λρ F s a=>
 MethodCall_ ((h ρ F s a).go λO h1 V B F1 σ1 y I z J Z=>wpAny_mono (Z B F1 _ O I J) (λU U q=>wpAny_mono q (λU U p=>p.after z I) λU U e=>e) λU U e=>e.elim) (BQ hb W N S)
theorem zd(G:Gd C){o:Expr}{pos:Pos}{u:Addr}(B:args.all cb=true)(I:σ.get k=some (.inst D fs))(N:fs.lookup name=none)(O:oZ C.K D name u=true)(hk:di C.K (.ref u)=true)
  (h:jo C A f pos args σ λxs σ2=>Cl C A f (.ref u) (.at k::xs) σ2 Q):tL C A f o name args pos (.at k) σ Q:=λρ F s v a r=>by
 refine a.Ig (X:=λv=>wpAny _ _ (getMethod v name _) _ _ _) I r λp z n e J S U=>?_;have m:=AO O;exact method_fn (G.at a) (od:=some<|dictOf z n) ⟨J,rfl,rfl,S⟩ (plainGet_of m.1).1 (plainGet_of m.1).2 (eq_of_beq m.2.1) (eq_of_beq m.2.2) (by show(lookIn name<|dictOf z n).map _=_;rw[lookIn_dict,U.miss N];rfl)<|fP (first:=[.at k]) G hk (io B) (f6 B) h a<|.cons (.at (p:=p) e) .nil
theorem mv(G:Gd C){o:Expr}{pos:Pos}{T z:String}(O:PlainAttrs T)(u:Slot T name z)(B:typeOf (.builtin z)=pure (.type "method_descriptor"))(I:args.all cb=true)
  (N:∀(ρ:Pl)(F:Fz)(s:Shared)(v:Value),At C f ρ F σ s.heap->aW C ρ F v y->s.TypeIs v T/\∀b,v= .ref b->∃J:Obj,s.heap.get? b=some J/\J.dict=none)
  (h:jo C A f pos args σ λxs σ1=>Cl C A f (.builtin z) (y::xs) σ1 Q):tL C A f o name args pos y σ Q:=λρ F s v a r=>by
 exact getMethod_builtin (N ρ F s v a r).1 O u B (N ρ F s v a r).2<|fP (first:=[y]) G rfl (io I) (f6 I) h a<|.cons r .nil
theorem mJ(G:Gd C){o:Expr}{pos:Pos}{K:Ky}{l0:List DV}(B:cb e=true)(I:σ.get K=some (.Ha l0))
  (h:Ev C A f e σ λx σ2=>∃d l,x= .d d/\σ2.get K=some (.Ha l)/\l.length<=100000/\Q (.d .none) (σ2.put K (.Ha (l++[d])))):tL C A f o "append" [e] pos (.at K) σ Q:=
 mv G PySem.F.plainAttrs_list slot_list_append sQ (by refine(ys List.all_cons)▸(ys B)▸?_;rfl) (so I) (fi (h.mono λx σ2 q=>by
  refine iP q λd l u z J N=>?_;try clear q;subst u;exact da<|kz z J N)<|dy B)
end
end
section
set_option genInjectivity false
inductive Bk
 |len|abs|max|min
noncomputable def Bk.v:Bk->Value
 | .len=>.builtin "len"
 | .abs=>.builtin "abs"
 | .max=>.builtin "max"
 | .min=>.builtin "min"
inductive GE
 |pv (x:PV)
 |fn (a:Addr)
 |bi (v:Value)
 |bk (b:Bk)
inductive Lm
 |G8|HC|leaf|opq
structure Tb where
 g:List (Str×GE)
 m:List (Addr×List (Str×Addr))
 a:List (Addr×List Str)
 lm:Lm
noncomputable def b_t:Bt:=⟨Tb,⟨[],[],[],.G8⟩⟩
noncomputable def zS:((Tb)->gK)->gK:=i7 b_t
noncomputable def GOk(C:Cx)(x:Str):GE->Prop
 | .pv y=>∃v,nsIn C.K mainGlobals x=some (some v)/\∀ρ F,(∀b o,C.h₀.get? b=some o->F b o)->aW C ρ F v y
 | .fn a=>nsIn C.K mainGlobals x=some (some (.ref a))/\di C.K (.ref a)=true
 | .bi v=>nsIn C.K mainGlobals x=some none/\bootBuiltins x=some v/\x≠"__name__"/\di C.K v=true
 | .bk b=>nsIn C.K mainGlobals x=some none/\bootBuiltins x=some b.v/\x≠"__name__"/\di C.K b.v=true
noncomputable def r6{α:Type}(n:Nat):List (Nat×α)->Option α
 |[]=>none
 |p::r=>match Nat.beq n p.1 with|true=>some p.2|false=>r6 n r
theorem nV{z:Type}{x:Nat}{y:z}:∀{l:List (Nat×z)},r6 x l=some y->(x,y)∈l:=λ{l}=>by
 induction l with
 | nil=>
  intro I;exact bU I
 | cons p r B=>
  intro h;unfold r6 at h
  split at h
  ·rename_i e;(have u:=oi h;clear h;subst u);rw[Nat.eq_of_beq_eq_true e];exact .head _
  ·exact .tail _<|B h
noncomputable def rV(x:Str):List Str->Bool
 |[]=>false
 |y::r=>match sq x y with|true=>true|false=>rV x r
theorem r0{x:Str}{l:List Str}(h:rV x l=true):x∈l:=by
 induction l with
 |nil=>exact jn h
 | cons y r u=>
  unfold rV at h
  split at h
  ·rename_i e;rw[n6 e];exact .head _
  ·exact .tail _<|u h
noncomputable def Tb.IC(T:Tb)(D:Addr)(x:Str):Option Addr:=match r6 D T.m with|some l=>iE x l|none=>none
noncomputable def Tb.attr(T:Tb)(D:Addr)(x:Str):Bool:=match r6 D T.a with|some l=>rV x l|none=>false
structure re(C:Cx)(T:Tb):Prop where
 g:∀x e,(x,e)∈T.g->(x==("__debug__":Str))=false/\GOk C x e
 m:∀D l,(D,l)∈T.m->∀x fn,(x,fn)∈l->oZ C.K D x fn=true/\di C.K (.ref fn)=true
 a:∀D l,(D,l)∈T.a->∀x∈l,fO C.K D x=true/\eY C.K D x=true
set_option tactic.hygienic true in
theorem re.IC{C:Cx}{T:Tb}(O:re C T){x:Str}{u:Addr}(h:T.IC D x=some u):oZ C.K D x u=true/\di C.K (.ref u)=true:=by
 unfold Tb.IC at h
 split at h
 ·rename_i l e;exact O.m D l (nV e) x u<|jI h
 ·exact bU h
set_option tactic.hygienic true in
theorem re.attr{C:Cx}{T:Tb}(O:re C T){x:Str}(h:T.attr D x=true):fO C.K D x=true/\eY C.K D x=true:=by
 unfold Tb.attr at h
 split at h
 ·rename_i l e;exact O.a D l (nV e) x<|r0 h
 ·exact jn h
structure dU(T:Tb)(C:Cx)(A:Around)(f:Fc)(n:Nat):Prop where
 G:Gd C
 t:re C T
 r:Rm A n
 kind:f.env.scope.kind= .function
 dbg:∀(i:Nat) x,f.ns[i]? =some x->(x==("__debug__":Str))=false
 st:∀(i:Nat) x,i<f.wc.length->f.ns[i]? =some x->hJ f x
theorem dU.hh{T:Tb}{C:Cx}{A:Around}{f:Fc}{n:Nat}(O:dU T C A f n):A.handled=none:=O.r.hh
theorem dU.un{T:Tb}{C:Cx}{A:Around}{f:Fc}{n:Nat}(O:dU T C A f n):A.units+1<cLine:=by have:=O.r.un;exact bw [_,_,_] [] 0x4414420450036204441401881 ft this
noncomputable def nt(b:Bool)(X Y:Prop):Prop:=match b with|true=>X|false=>Y
noncomputable def iJ(b:Bool)(X Y:Prop):Prop:=match b with|true=>X|false=>Y
noncomputable def iD{α:Type}(o:Option α)(F:α->Prop):Prop:=match o with|some z=>F z|none=>False
noncomputable def iI{α:Type}(o:Option α)(F:α->Prop)(X:Prop):Prop:=match o with|some z=>F z|none=>X
noncomputable def Ft{α β:Type}(o:Option (α×β))(F:α->β->Prop)(X:Prop):Prop:=match o with|some (a,b)=>F a b|none=>X
noncomputable def Fr(o:Option (Ky×Addr×List (Str×PV)))(F:Ky->Addr->List (Str×PV)->Prop)(X:Prop):Prop:=match o with|some (k,D,fs)=>F k D fs|none=>X
inductive Wk
 |ev (x:Expr) (Q:PV->aC->Prop)
 |es (l:List Expr) (Q:List PV->aC->Prop)
 |tt (x:Expr) (Q:Bool->aC->Prop)
 |ts (op:BoolOp) (l:List Expr) (Q:Bool->aC->Prop)
 |as (g:Expr) (x:PV) (Q:aC->Prop)
 |al (gs:List Expr) (xs:List PV) (Q:aC->Prop)
 |ex (x:Stmt) (Q:Fl->aC->Prop)
 |bl (l:List Stmt) (Q:Fl->aC->Prop)
noncomputable def Wk.Sem(C:Cx)(A:Around)(f:Fc):Wk->aC->Prop
 | .ev x Q,σ=>Ev C A f x σ Q
 | .es l Q,σ=>∀pos,jo C A f pos l σ Q
 | .tt x Q,σ=>Tt C A f x σ Q
 | .ts op l Q,σ=>zX C A f op l σ Q
 | .as g x Q,σ=>As C A f (λv=>assign g f.env v) x σ Q
 | .al gs xs Q,σ=>G6 C A f gs xs σ Q
 | .ex x Q,σ=>Ex C A f x σ Q
 | .bl l Q,σ=>fA C A f l σ Q
section
variable (T:Tb) (C:Cx) (A:Around) (f:Fc) (R:Wk->aC->Prop)
noncomputable def nq(x:PV)(σ:aC)(Q:Bool->aC->Prop):Prop:=match x with
 | .d (.bool b)=>Q b σ
 | .d (.int i)=>Q (i !=0) σ
 | .d .none=>Q false σ
 |x=>qL C A f x σ Q
noncomputable def gC:PV->Option Int
 | .d (.int i)=>some i
 |_=>none
noncomputable def qp:PV->Option Str
 | .d (.str i)=>some i
 |_=>none
noncomputable def yf:PV->Option (List DV)
 | .d (.tup l)=>some l
 |_=>none
noncomputable def isN:PV->Bool
 | .d .none=>true
 |_=>false
noncomputable def se:PV->Option (List DV)
 | .d (.seq l)=>some l
 |_=>none
noncomputable def GX:PV->Option Ky
 | .at k=>some k
 |_=>none
noncomputable def poL:PO->Option (List DV)
 | .Ha l=>some l
 |_=>none
noncomputable def poI:PO->Option (Addr×List (Str×PV))
 | .inst D fs=>some (D,fs)
 |_=>none
noncomputable def poS:PO->Option (List (Str×PV))
 | .Hh l=>some l
 |_=>none
noncomputable def atV{α:Type}(p:PO->Option α)(σ:aC)(x:PV):Option (Ky×α):=(GX x).bind λk=>(σ.get k).bind λo=>(p o).bind λy=>some (k,y)
noncomputable def kc(σ:aC)(x:PV):Option (Ky×Addr×List (Str×PV)):=atV poI σ x
noncomputable def Gc(σ:aC)(x:PV):Option (Ky×List (Str×PV)):=atV poS σ x
noncomputable def xx(σ:aC)(x:PV):Option (Ky×List DV):=atV poL σ x
noncomputable def tV(σ:aC)(x:PV):Option (List DV):=match se x with
 |some l=>some l
 |none=>(match xx σ x with|some (_,l)=>some l|none=>none)
noncomputable def yW(op:Operator)(x y:PV)(σ:aC)(Q:PV->aC->Prop):Prop:=match op with
 | .Add=>iI (tV σ x) (λl=>iI (tV σ y) (λm=>l.length+m.length<=100000/\Q (.d (.seq (l++m))) σ) (cO C A f (binaryOp op) x y σ Q)) (cO C A f (binaryOp op) x y σ Q)
 |_=>cO C A f (binaryOp op) x y σ Q
noncomputable def Cc(op:Operator)(i j:Int)(Q:Int->Prop)(X:Prop):Prop:=match op with
 | .Add=>Q (i+j)
 | .Sub=>Q (i-j)
 | .Mult=>IntMulOk i j/\Q (i*j)
 | .FloorDiv=>j≠0/\Builtin.divisionGoesByPylong i j=false/\Q (i.fdiv j)
 | .Mod=>j≠0/\Q (i.fmod j)
 |_=>X
noncomputable def Fy(op:Operator)(x y:PV)(σ:aC)(Q:PV->aC->Prop):Prop:=iI (gC x) (λi=>iI (gC y) (λj=>Cc op i j (λi=>Q (.d (.int i)) σ) (cO C A f (binaryOp op) x y σ Q)) (yW C A f op x y σ Q)) (yW C A f op x y σ Q)
noncomputable def CI(op:CmpOp)(i j:Int)(Q:Bool->Prop)(X:Prop):Prop:=match op with
 | .Lt=>Q (decide (i<j))
 | .Gt=>Q (decide (j<i))
 | .LtE=>Q (decide (i<=j))
 | .GtE=>Q (decide (j<=i))
 | .Eq=>Q (i==j)
 | .NotEq=>Q (i !=j)
 |_=>X
noncomputable def sg(x y:PV)(Q:Bool->Prop)(X:Prop):Prop:=iI (qp x) (λa=>iI (qp y) (λb=>Q (sq a b)) X) X
noncomputable def sh(x y:PV)(Q:Bool->Prop)(X:Prop):Prop:=iI (qp x) (λa=>iI (yf y) (λl=>iJ (l.all λy=>pN 0 y (.str a)) (Q (l.any λy=>im y (.str a))) False) X) X
noncomputable def xr(op:CmpOp)(x y:PV)(σ:aC)(Q:PV->aC->Prop):Prop:=match op with
 | .Eq=>sg x y (λb=>Q (.d (.bool b)) σ) (cO C A f (compareOp op) x y σ Q)
 | .NotEq=>sg x y (λb=>Q (.d (.bool (!b))) σ) (cO C A f (compareOp op) x y σ Q)
 | .In=>sh x y (λb=>Q (.d (.bool b)) σ) (cO C A f (compareOp op) x y σ Q)
 | .NotIn=>sh x y (λb=>Q (.d (.bool (!b))) σ) (cO C A f (compareOp op) x y σ Q)
 |_=>cO C A f (compareOp op) x y σ Q
noncomputable def Cq(op:CmpOp)(x y:PV)(σ:aC)(Q:PV->aC->Prop):Prop:=iI (gC x) (λi=>iI (gC y) (λj=>CI op i j (λb=>Q (.d (.bool b)) σ) (cO C A f (compareOp op) x y σ Q)) (xr C A f op x y σ Q)) (xr C A f op x y σ Q)
noncomputable def yI(op:CmpOp)(x y:PV)(σ:aC)(Q:PV->aC->Prop):Prop:=match op,isN y with
 | .Is,true=>Q (.d (.bool x.isNone)) σ
 | .IsNot,true=>Q (.d (.bool (!x.isNone))) σ
 |op,_=>Cq C A f op x y σ Q
noncomputable def GT:PV->Bool
 | .at _=>true
 |_=>false
noncomputable def I5(m:Lm)(op:CmpOp):Bool:=match m,op with
 | .opq,.Eq=>true
 | .opq,.NotEq=>true
 |_,_=>false
noncomputable def rl(op:CmpOp)(x y:PV)(σ:aC)(Q:PV->aC->Prop):Prop:=match GT y||I5 T.lm op with|true=>cO C A f (compareOp op) x y σ Q|false=>yI C A f op x y σ Q
noncomputable def wUn(op:UnaryOp)(x:PV)(σ:aC)(Q:PV->aC->Prop):Prop:=match op with
 | .Not=>nq C A f x σ λb σ1=>Q (.d (.bool (!b))) σ1
 | .USub=>iI (gC x) (λi=>Q (.d (.int (-i))) σ) (uX C A f (unaryOp op) x σ Q)
 |_=>uX C A f (unaryOp op) x σ Q
noncomputable def B5:PV->Option (Addr×List (Str×DV))
 | .d (.inst D fs)=>some (D,fs)
 |_=>none
noncomputable def B7:PV->Option Nat
 | .d (.int (.ofNat k))=>some k
 |_=>none
noncomputable def FI:PV->Option DV
 | .d x=>some x
 |_=>none
noncomputable def GQ(name:Str)(x:PV)(σ:aC)(Q:PV->aC->Prop):Prop:=Fr (kc σ x) (λU D fs=>iI (iE name fs) (λpv=>iJ (T.attr D name&&pv.handed) (Q pv σ) False) (uX C A f (λv=>getAttr v name true) x σ Q))
 (Ft (B5 x) (λD fs=>iD (iE name fs) λdv=>iJ (T.attr D name) (Q (.d dv) σ) False) (uX C A f (λv=>getAttr v name true) x σ Q))
noncomputable def zw(x y:PV)(σ:aC)(Q:PV->aC->Prop):Prop:=iI (qp y) (λs=>Ft (Gc σ x) (λU l=>iD (iE s l) λz=>Q z σ) (pW C A f x y σ Q)) (pW C A f x y σ Q)
noncomputable def GV(k:Nat)(x:PV)(σ:aC)(Q:PV->aC->Prop)(X:Prop):Prop:=iI x.items (λxs=>iD (s7 xs k) λz=>Q z σ) (iI (se x) (λl=>iD (s7 l k) λz=>Q (.d z) σ) X)
noncomputable def FK(x y:PV)(σ:aC)(Q:PV->aC->Prop):Prop:=iI (B7 y) (λk=>iJ (Nat.blt k 1000) (GV k x σ Q (pW C A f x y σ Q)) False) (zw C A f x y σ Q)
noncomputable def G5:Expr->Bool
 | .Constant (.int _) _ _=>true
 |_=>false
noncomputable def Cr(b:Bool)(x y:PV)(σ:aC)(Q:PV->aC->Prop):Prop:=match b with|true=>FK C A f x y σ Q|false=>zw C A f x y σ Q
noncomputable def Cz:GE->Bool
 | .pv _=>false
 |_=>true
noncomputable def Ge(b:Bk)(x:PV)(σ:aC)(Q:PV->aC->Prop)(X:Prop):Prop:=match b with
 | .len=>iI (se x) (λl=>l.length<100000/\Q (.d (.int l.length)) σ) X
 | .abs=>iI (gC x) (λi=>Q (.d (.int (if i<0 then-i else i))) σ) X
 |_=>X
noncomputable def yc(x y:PV)(F:Int->Int->Prop)(X:Prop):Prop:=iI (gC x) (λi=>iI (gC y) (λj=>F i j) X) X
noncomputable def GS(b:Bk)(x y:PV)(σ:aC)(Q:PV->aC->Prop)(X:Prop):Prop:=match b with
 | .max=>yc x y (λi j=>Q (.d (.int (max i j))) σ) X
 | .min=>yc x y (λi j=>Q (.d (.int (min i j))) σ) X
 |_=>X
noncomputable def wBk(b:Bk)(xs:List PV)(σ:aC)(Q:PV->aC->Prop):Prop:=match xs with
 |[x]=>Ge b x σ Q (Cl C A f b.v [x] σ Q)
 |[x,y]=>GS b x y σ Q (Cl C A f b.v [x,y] σ Q)
 |xs=>Cl C A f b.v xs σ Q
noncomputable def Cf(g:GE)(xs:List PV)(σ:aC)(Q:PV->aC->Prop):Prop:=match g with
 | .pv _=>False
 | .fn a=>Cl C A f (.ref a) xs σ Q
 | .bi v=>Cl C A f v xs σ Q
 | .bk b=>wBk C A f b xs σ Q
noncomputable def wApp(y:PV)(args:List Expr)(b:Bool)(σ:aC)(Q:PV->aC->Prop)(X:Prop):Prop:=match args with
 |[e]=>iJ b (R (.ev e λx σ2=>iD (FI x) λd=>Ft (xx σ2 y) (λk l=>l.length<=100000/\Q (.d .none) (σ2.put k (.Ha (l++[d])))) False) σ) X
 |_=>X
noncomputable def Gj(o:Expr)(name:Str)(args:List Expr)(pos:Pos)(y:PV)(σ:aC)(Q:PV->aC->Prop):Prop:=Fr (kc σ y) (λU D fs=>iI (iE name fs) (λU=>tL C A f o name args pos y σ Q) (iI (T.IC D name) (λfn=>R (.es args λxs σ2=>Cl C A f (.ref fn) (y::xs) σ2 Q) σ) (tL C A f o name args pos y σ Q)))
 (Ft (xx σ y) (λU U=>wApp R y args (sq name "append") σ Q (tL C A f o name args pos y σ Q)) (tL C A f o name args pos y σ Q))
noncomputable def CN(x:Str)(σ:aC)(Q:PV->aC->Prop)(X:Prop):Prop:=iI (vA x f.ns) (λi=>iI (s7 σ.ls i) (λo=>iI o (λpv=>Q pv σ) X) X)
 (iI (iE x T.g) (λg=>match g with| .pv y=>iJ (f.env.kindOf x==some .globalImplicit) (Q y σ) X|_=>X) X)
noncomputable def xG(es:List Expr)(σ:aC)(Q:PV->aC->Prop):Prop:=R (.es es λxs σ1=>iJ (Nat.ble xs.length 1000) (iD (mh xs) λds=>Q (.d (.seq ds)) σ1) False) σ
noncomputable def FA(m:Lm)(es:List Expr)(σ:aC)(Q:PV->aC->Prop)(X:Prop):Prop:=match m with
 | .leaf=>X
 | .G8=>(match es with|[]=>Q (.at (.tm σ.G8.length)) ⟨σ.ls,σ.G8++[some (.Ha [])],σ.mem⟩|es=>xG R es σ Q)
 |_=>xG R es σ Q
noncomputable def wO(e:Option Expr)(σ:aC)(K:Option Int->aC->Prop):Prop:=match e with
 |none=>K none σ
 |some e=>R (.ev e λx σ1=>iD (gC x) λi=>K (some i) σ1) σ
noncomputable def EI(ops:List CmpOp)(rs:List Expr)(F1:CmpOp->Expr->Prop)(F2:CmpOp->CmpOp->Expr->Expr->Prop)(X:Prop):Prop:=match ops,rs with
 |[op],[r]=>F1 op r
 |[o1,o2],[r1,r2]=>F2 o1 o2 r1 r2
 |_,_=>X
noncomputable def Go(l:List Expr)(F:Expr->Expr->Prop)(X:Prop):Prop:=match l with
 |[y,z]=>F y z
 |_=>X
noncomputable def wAO(op:BoolOp)(b:Bool)(X Y:Prop):Prop:=match op with
 | .And=>nt b X Y
 | .Or=>nt b Y X
noncomputable def B6(fn:Expr)(kws:List Keyword)(F:Str->Prop)(G:Expr->Str->Pos->Prop)(X:Prop):Prop:=match kws with
 | []=>(match fn with
  | .Name n _=>F n
  | .Attribute o name ap=>G o name ap
  |_=>X)
 |_=>X
noncomputable def stE(x:Expr)(Q:PV->aC->Prop)(σ:aC):Prop:=match x with
 | .Name n _=>CN T f n σ Q (Ev C A f x σ Q)
 | .Constant c _ _=>(match c with
  | .int i=>Q (.d (.int i)) σ
  | .str s=>Q (.d (.str s)) σ
  | .none=>Q (.d .none) σ
  | .bool b=>Q (.d (.bool b)) σ
  | .bytes b=>Q (.d (.bytes b.toArray)) σ
  |_=>Ev C A f x σ Q)
 | .BinOp l op r _=>R (.ev l λx σ1=>R (.ev r λy σ2=>Fy C A f op x y σ2 Q) σ1) σ
 | .UnaryOp op y _=>R (.ev y λy σ1=>wUn C A f op y σ1 Q) σ
 | .Compare l ops rs _=>EI ops rs (λop r=>iJ (!behindInMarks op r) (R (.ev l λx σ1=>R (.ev r λy σ2=>rl T C A f op x y σ2 Q) σ1) σ) (Ev C A f x σ Q))
  (λo1 o2 r1 r2=>iJ (!lastMarks [o1,o2] [r1,r2]) (R (.ev l λx σ1=>R (.ev r1 λy σ2=>rl T C A f o1 x y σ2 λz σ3=>nq C A f z σ3 λb σ4=>nt b (R (.ev r2 λu σ5=>rl T C A f o2 y u σ5 Q) σ4) (Q z σ4)) σ1) σ) (Ev C A f x σ Q)) (Ev C A f x σ Q)
 | .BoolOp op l _=>Go l (λy z=>R (.ev y λv σ1=>nq C A f v σ1 λb σ2=>wAO op b (R (.ev z Q) σ2) (Q v σ2)) σ) (Ev C A f x σ Q)
 | .IfExp t b e _=>R (.tt t λc σ1=>nt c (R (.ev b Q) σ1) (R (.ev e Q) σ1)) σ
 | .Attribute o name _=>iJ (jU o) (R (.ev o λy σ1=>GQ T C A f name y σ1 Q) σ) (Ev C A f x σ Q)
 | .Subscript o (.Slice lo hi st _) _=>(match st with
  |none=>R (.ev o λy σ1=>wO R lo σ1 λl σ2=>wO R hi σ2 λu σ3=>Slc C A f y l u σ3 Q) σ
  |some _=>Ev C A f x σ Q)
 | .Subscript o i _=>R (.ev o λy σ1=>R (.ev i λz σ2=>Cr C A f (G5 i) y z σ2 Q) σ1) σ
 | .Tuple es _ _=>R (.es es λxs σ1=>iJ (Nat.ble xs.length 1000) (Q (zh xs) σ1) False) σ
 | .List es _=>FA R T.lm es σ Q (Ev C A f x σ Q)
 | .Call fn args kws p=>B6 fn kws (λn=>iJ (args.all cb) (iI (iE n T.g) (λg=>iJ (Cz g&&f.env.kindOf n==some .globalImplicit) (R (.es args λxs σ1=>Cf C A f g xs σ1 Q) σ) (Ev C A f x σ Q)) (Ev C A f x σ Q)) (Ev C A f x σ Q))
  (λo name ap=>iJ (jU o&&args.all cb&&Nat.blt args.length 30&&(ap.endLine==p.line)) (R (.ev o λy σ1=>Gj T C A f R o name args p y σ1 Q) σ) (Ev C A f x σ Q)) (Ev C A f x σ Q)
 |x=>Ev C A f x σ Q
noncomputable def GM(l:List Expr)(Q:List PV->aC->Prop)(σ:aC):Prop:=match l with
 |[]=>Q [] σ
 |e::es=>iJ (cb e) (R (.ev e λx σ1=>R (.es es λxs σ2=>Q (x::xs) σ2) σ1) σ) (∀pos,jo C A f pos (e::es) σ Q)
noncomputable def stT(x:Expr)(Q:Bool->aC->Prop)(σ:aC):Prop:=match x with
 | .UnaryOp .Not y _=>R (.tt y λb σ1=>Q (!b) σ1) σ
 | .BoolOp op l _=>R (.ts op l Q) σ
 | .Compare l ops rs _=>EI ops rs (λop r=>iJ (!behindInMarks op r) (R (.ev l λx σ1=>R (.ev r λy σ2=>rl T C A f op x y σ2 λz σ3=>nq C A f z σ3 Q) σ1) σ) (Tt C A f x σ Q))
  (λo1 o2 r1 r2=>iJ (!lastMarks [o1,o2] [r1,r2]) (R (.ev l λx σ1=>R (.ev r1 λy σ2=>rl T C A f o1 x y σ2 λz σ3=>nq C A f z σ3 λb σ4=>nt b (R (.ev r2 λu σ5=>rl T C A f o2 y u σ5 λv σ6=>nq C A f v σ6 Q) σ4) (Q false σ4)) σ1) σ) (Tt C A f x σ Q)) (iJ (oy x) (R (.ev x λv σ1=>nq C A f v σ1 Q) σ) (Tt C A f x σ Q))
 |x=>iJ (oy x) (R (.ev x λv σ1=>nq C A f v σ1 Q) σ) (Tt C A f x σ Q)
noncomputable def Fx(op:BoolOp)(l:List Expr)(Q:Bool->aC->Prop)(σ:aC):Prop:=match op,l with
 | .And,[]=>Q true σ
 | .Or,[]=>Q false σ
 | .And,x::r=>R (.tt x λb σ1=>nt b (R (.ts .And r Q) σ1) (Q false σ1)) σ
 | .Or,x::r=>R (.tt x λb σ1=>nt b (Q true σ1) (R (.ts .Or r Q) σ1)) σ
noncomputable def Gn(t:Expr)(x:PV)(Q:aC->Prop)(σ:aC):Prop:=match t with
 | .Name n _=>iD (vA n f.ns) λi=>iJ (Nat.blt i f.wc.length) (Q (σ.H0 i x)) False
 | .Attribute o name _=>R (.ev o λy σ1=>Fr (kc σ1 y) (λk D fs=>iJ (Nat.ble fs.length 500&&T.attr D name) (Q (σ1.put k (.inst D (ku name x fs)))) False) False) σ
 | .Subscript o i _=>R (.ev o λy σ1=>R (.ev i λz σ2=>sy C A f y z x σ2 Q) σ1) σ
 | .Tuple es _ _=>iD x.items λxs=>iJ (es.all cb&&Nat.beq es.length xs.length) (R (.al es xs Q) σ) False
 |t=>As C A f (λv=>assign t f.env v) x σ Q
noncomputable def GO(ts:List Expr)(xs:List PV)(Q:aC->Prop)(σ:aC):Prop:=match ts,xs with
 |t::ts,x::xs=>R (.as t x λσ1=>R (.al ts xs Q) σ1) σ
 |[],[]=>Q σ
 |_,_=>False
noncomputable def stN:List Str->List PV->aC->(aC->Prop)->Prop
 |n::ns,x::xs,σ,Q=>iD (vA n f.ns) λi=>iJ (Nat.blt i f.wc.length) (stN ns xs (σ.H0 i x) Q) False
 |[],[],σ,Q=>Q σ
 |_,_,_,_=>False
noncomputable def qB(env:Env)(line:Nat):Expr->Option Str
 | .Name id pos=>if env.kindOf id==some .local&&pos.line==line then some id else none
 |_=>none
noncomputable def swp(env:Env)(ts vs:List Expr):Option (Option (List Str)):=
 if !(ts.length==2||ts.length==3)||vs.length !=ts.length||env.blockKind != .function then some none else
 if vs.any λ| .Starred .. =>true|_=>false then some none else
 let line:=(ts.head?.map (·.pos.line)).getD 0
 let names:=ts.filterMap (qB env line)
 if names.length !=ts.length||names.eraseDups.length !=names.length then some none else
 if vs.all (foldedForSure 8) then some none else
 if vs.all (constantsAlone 8) then none else some (some names)
noncomputable def sU(env:Env)(line:Nat):List Expr->Option (List Str)
 |[]=>some []
 |t::r=>(qB env line t).bind λx=>(sU env line r).bind λl=>some (x::l)
noncomputable def fH:List Str->Bool
 |[]=>true
 |x::r=> !rV x r&&fH r
noncomputable def swq(env:Env)(ts vs:List Expr):Option (Option (List Str)):=match !(ts.length==2||ts.length==3)||vs.length !=ts.length with
 |true=>some none
 | false =>(match env.blockKind== .function&&vs.all cb with
  |false=>none
  | true=>(match sU env ((ts.head?.map (·.pos.line)).getD 0) ts with
   |none=>some none
   | some l=>(match vs.all (foldedForSure 8) with
    |true=>(match fH l with|true=>some none|false=>none)
    | false=>(match fH l&& !vs.all (constantsAlone 8) with
     |true=>some (some l)
     |false=>none))))
noncomputable def oU(t v:Expr)(Q:Fl->aC->Prop)(σ:aC):Prop:=R (.ev v λx σ1=>R (.as t x λσ2=>Q .next σ2) σ1) σ
noncomputable def asgN(names:List Str)(v:Expr)(Q:Fl->aC->Prop)(σ:aC):Prop:=R (.ev v λy σ1=>iD y.items λxs=>iJ (Nat.beq xs.length names.length) (stN f names.reverse xs.reverse σ1 λσ2=>Q .next σ2) False) σ
noncomputable def GR(t:Expr)(ts:List Expr)(v:Expr)(vs:List Expr)(Q:Fl->aC->Prop)(σ:aC)(X:Prop):Prop:=iI (swq f.env ts vs) (λo=>iI o (λnames=>asgN f R names v Q σ) (oU R t v Q σ)) X
noncomputable def rB:Expr->Option (List Expr)
 | .Tuple ts _ _=>some ts
 |_=>none
noncomputable def ya:Expr->Bool
 | .List _ _=>true
 |_=>false
noncomputable def BK(t v:Expr)(Q:Fl->aC->Prop)(σ:aC)(X:Prop):Prop:=iJ (ya t) X (iI (rB t) (λts=>iI (rB v) (λvs=>GR f R t ts v vs Q σ X) (oU R t v Q σ)) (oU R t v Q σ))
noncomputable def Cg(op:Operator)(name:Str)(i j:Int)(Q:PV->Prop):Prop:=match op with
 | .Add=>Q (.d (.int (i+j)))
 | .Sub=>Q (.d (.int (i-j)))
 |_=>False
noncomputable def Ga(op:Operator)(name:Str)(v:Expr)(y:PV)(Q:Fl->aC->Prop)(σ:aC):Prop:=Fr (kc σ y) (λU D fs=>iD (iE name fs) λz=>iD (gC z) λi=>iJ (T.attr D name) (R (.ev v λz σ2=>iD (gC z) λj=>Fr (kc σ2 y) (λk D' fs'=>iJ (Nat.beq D D'&&Nat.ble fs'.length 500) (Cg op name i j λu=>Q .next (σ2.put k (.inst D (ku name u fs')))) False) False) σ) False) False
noncomputable def GG:Expr->Option (Expr×Str)
 | .Attribute o name _=>some (o,name)
 |_=>none
noncomputable def stS(x:Stmt)(Q:Fl->aC->Prop)(σ:aC):Prop:=match x with
 | .Return (some e) _=>R (.ev e λx σ1=>Q (.ret x) σ1) σ
 | .Return none _=>Q (.ret (.d .none)) σ
 | .Continue _=>Q .cont σ
 | .If t b e _=>R (.tt t λc σ1=>nt c (R (.bl b Q) σ1) (R (.bl e Q) σ1)) σ
 | .Expr e _=>iJ (!lO e) (R (.ev e λU σ1=>Q .next σ1) σ) (Ex C A f x σ Q)
 | .Assign [t] v _=>iJ (!lO v&&cb t) (BK f R t v Q σ (Ex C A f x σ Q)) (Ex C A f x σ Q)
 | .AugAssign t op v _=>Ft (GG t) (λo name=>R (.ev o λy σ1=>Ga T R op name v y Q σ1) σ) (Ex C A f x σ Q)
 |x=>Ex C A f x σ Q
noncomputable def qF:Stmt->Bool
 | .For _ _ _ _ _=>true
 |_=>false
noncomputable def stB(l:List Stmt)(Q:Fl->aC->Prop)(σ:aC):Prop:=match l with
 |[]=>Q .next σ
 | x::r=>(match qF x with
  |true=>R (.ex x (kX C A f r Q)) σ
  |false=>R (.ex x λfl σ1=>match fl with| .next=>R (.bl r Q) σ1|fl=>Q fl σ1) σ)
noncomputable def GU:Wk->aC->Prop
 | .ev x Q,σ=>stE T C A f R x Q σ
 | .es l Q,σ=>GM C A f R l Q σ
 | .tt x Q,σ=>stT T C A f R x Q σ
 | .ts op l Q,σ=>Fx R op l Q σ
 | .as t x Q,σ=>Gn T C A f R t x Q σ
 | .al ts xs Q,σ=>GO R ts xs Q σ
 | .ex x Q,σ=>stS T C A f R x Q σ
 | .bl l Q,σ=>stB C A f R l Q σ
end
noncomputable def w(T:Tb)(C:Cx)(A:Around)(f:Fc):Nat->Wk->aC->Prop
 |0=>Wk.Sem C A f
 |n+1=>GU T C A f (w T C A f n)
end
section
section
variable {T:Tb} {C:Cx} {A:Around} {f:Fc} {σ:aC}
theorem cr{X:Prop}(h:iJ b X False):b=true/\X:=by
 cases b with
 |true=>exact⟨rfl,h⟩
 |false=>exact h.elim
theorem dL{X Y P:Prop}(h:iJ b X Y)(u:b=true->X->P)(z:Y->P):P:=by
 cases b with
 |true=>exact u rfl h
 |false=>exact z h
theorem cY{u:Type}{i:u}{P:Prop}(h:none=some i):P:=bU h
theorem df:∀{x i}(h:gC x=some i),x= .d (.int i):=by
 intro x i h;cases x with
 | d x=>cases x with
  |int j=>exact congrArg (λi=>PV.d<|.int i)<|oi h
  |_=>exact cY h
 |_=>exact cY h
theorem jR:∀{x i}(h:qp x=some i),x= .d (.str i):=by
 intro x i h;cases x with
 | d x=>cases x with
  |str j=>exact congrArg (λi=>PV.d<|.str i)<|oi h
  |_=>exact cY h
 |_=>exact cY h
theorem xX:∀{x i}(h:yf x=some i),x= .d (.tup i):=by
 intro x i h;cases x with
 | d x=>cases x with
  |tup j=>exact congrArg (λi=>PV.d<|.tup i)<|oi h
  |_=>exact cY h
 |_=>exact cY h
theorem mK:∀{x i}(h:se x=some i),x= .d (.seq i):=by
 intro x i h;cases x with
 | d x=>cases x with
  |seq j=>exact congrArg (λi=>PV.d<|.seq i)<|oi h
  |_=>exact cY h
 |_=>exact cY h
theorem Aj{i:DV}(h:FI x=some i):x= .d i:=by
 cases x with
 |d x=>exact congrArg PV.d<|oi h
 |_=>exact cY h
theorem cW{P:Prop}(h:false=true):P:=jn h
theorem zy(h:isN x=true):x= .d .none:=by
 cases x with
 | d x=>cases x with
  |none=>rfl
  |_=>exact cW h
 |_=>exact cW h
theorem yk:∀{x k}(h:B7 x=some k),x= .d (.int (.ofNat k)):=by
 intro x k h;cases x with
 | d x=>cases x with
  | int i=>cases i with
   |ofNat i=>exact congrArg (λi=>PV.d<|.int<|.ofNat i)<|oi h
   |negSucc i=>exact cY h
  |_=>exact cY h
 |_=>exact cY h
theorem xL:∀{x q}(h:B5 x=some q),x= .d (.inst q.1 q.2):=by
 intro x q h;cases x with
 | d x=>cases x with
  |inst D fs=>exact congrArg (λq:Addr×List (Str×DV)=>PV.d<|.inst q.1 q.2)<|oi h
  |_=>exact cY h
 |_=>exact cY h
theorem BF(h:GX x=some k):x= .at k:=by
 cases x with
 |«at»k=>exact congrArg PV.at<|oi h
 |_=>exact cY h
theorem Ff{x:PO}{q:Addr×List (Str×PV)}(h:poI x=some q):x= .inst q.1 q.2:=by
 cases x with
 |inst D fs=>exact congrArg (λq:Addr×List (Str×PV)=>PO.inst q.1 q.2)<|oi h
 |_=>exact cY h
theorem EH{x:PO}{l:List (Str×PV)}(h:poS x=some l):x= .Hh l:=by
 cases x with
 |Hh l=>exact congrArg PO.Hh<|oi h
 |_=>exact cY h
theorem Em{x:PO}(h:poL x=some l):x= .Ha l:=by
 cases x with
 |Ha l=>exact congrArg PO.Ha<|oi h
 |_=>exact cY h
theorem bO{u:Type}{o:Option u}{F:u->Prop}{X P:Prop}(h:iI o F X)(k:∀z,o=some z->F z->P)(x:X->P):P:=by
 cases o with
 |none=>exact x h
 |some z=>exact k z rfl h
theorem jy{B u:Type}{o:Option (B×u)}{F:B->u->Prop}{X P:Prop}(h:Ft o F X)(k:∀a b,o=some (a,b)->F a b->P)(x:X->P):P:=by
 cases o with
 |none=>exact x h
 |some z=>exact k z.1 z.2 rfl h
theorem jr{o:Option (Ky×Addr×List (Str×PV))}{F:Ky->Addr->List (Str×PV)->Prop}{X P:Prop}(h:Fr o F X)(k:∀K D fs,o=some (K,D,fs)->F K D fs->P)(x:X->P):P:=by
 cases o with
 |none=>exact x h
 |some z=>exact k z.1 z.2.1 z.2.2 rfl h
theorem qR{u:List CmpOp}{rs:List Expr}{J:CmpOp->Expr->Prop}{N:CmpOp->CmpOp->Expr->Expr->Prop}{X P:Prop}(h:EI u rs J N X)(O:∀op r,u=[op]->rs=[r]->J op r->P)(k2:∀B o2 z I,u=[B,o2]->rs=[z,I]->N B o2 z I->P)(x:X->P):P:=by
 cases u with
 |nil=>exact x h
 | cons B u=>cases rs with
  | nil=>cases u with
   |nil=>exact x h
   |cons _ u=>cases u<;>exact x h
  | cons z rs=>cases u with
   | nil=>cases rs with
    |nil=>exact O _ _ rfl rfl h
    |cons _ _=>exact x h
   | cons o2 u=>cases rs with
    |nil=>cases u<;>exact x h
    | cons I rs=>cases u with
     |cons _ _=>exact x h
     | nil=>cases rs with
      |cons _ _=>exact x h
      |nil=>exact k2 _ _ _ _ rfl rfl h
theorem xS{l:List Expr}{F:Expr->Expr->Prop}{X P:Prop}(h:Go l F X)(k:∀y z,l=[y,z]->F y z->P)(x:X->P):P:=by
 cases l with
 |nil=>exact x h
 | cons y l=>cases l with
  |nil=>exact x h
  | cons z l=>cases l with
   |nil=>exact k _ _ rfl h
   |cons _ _=>exact x h
theorem wu{z:Expr}{u:List Keyword}{F:Str->Prop}{G:Expr->Str->Pos->Prop}{X P:Prop}(h:B6 z u F G X)(B:∀n p,u=[]->z= .Name n p->F n->P)(k2:∀o n p,u=[]->z= .Attribute o n p->G o n p->P)(x:X->P):P:=by
 cases u with
 |cons _ _=>exact x h
 | nil=>cases z with
  |Name n p=>exact B n p rfl rfl h
  |Attribute o n p=>exact k2 o n p rfl rfl h
  |_=>exact x h
theorem cw{u:Type}{o:Option u}{F:u->Prop}{P:Prop}(h:iD o F)(k:∀z,o=some z->F z->P):P:=by
 cases o with
 |none=>exact h.elim
 |some z=>exact k z rfl h
theorem sx{B:Type}{p:PO->Option B}{y:B}(h:atV p σ x=some (k,y)):x= .at k/\∃o,σ.get k=some o/\p o=some y:=by
 refine aG (Option.bind_eq_some_iff.mp h) λS I h=>aG (Option.bind_eq_some_iff.mp h) λo J h=>aG (Option.bind_eq_some_iff.mp h) λO N h=>?_
 (have u:=(Prod.mk.inj<|oi h).1;have z:=(Prod.mk.inj<|oi h).2;clear h;subst u;subst z);exact⟨BF I,aD o J N⟩
theorem cG(h:kc σ x=some (k,D,fs)):x= .at k/\σ.get k=some (.inst D fs):=
 have q:=sx h;⟨q.1,q.2.elim λo e=>e.1.trans<|congrArg some<|Ff e.2⟩
theorem uH{l:List (Str×PV)}(h:Gc σ x=some (k,l)):x= .at k/\σ.get k=some (.Hh l):=
 have q:=sx h;⟨q.1,q.2.elim λo e=>e.1.trans<|congrArg some<|EH e.2⟩
theorem ir(h:xx σ x=some (k,l)):x= .at k/\σ.get k=some (.Ha l):=
 have q:=sx h;⟨q.1,q.2.elim λo e=>e.1.trans<|congrArg some<|Em e.2⟩
theorem qJ:∀{σ x l}(h:tV σ x=some l),eM σ x l:=by
 exists dR λσ=>oO λx=>aA λl=>aO _;intros;unfold tV at h;cases I:se x with
 |some m=>rw[I] at h;(have z:=oi h;clear h;subst z);exact .inl<|mK I
 | none=>
  rw[I] at h;cases B:xx σ x with
  |none=>rw[B] at h;exact cY h
  |some q=>rw[B] at h;(have u:=oi h;clear h;subst u);exact .inr ⟨q.1,(ir<|B.trans rfl).1,(ir<|B.trans rfl).2⟩
theorem DH:∀{x y},sq x y=(x==y):=by
 intro x y;cases e:sq x y with
 |true=>rw[n6 e,beq_self_eq_true]
 | false=>cases q:x==y with
  |false=>rfl
  |true=>rw[beq_iff_eq.mp q,oG] at e;exact Gu e
theorem hG{Q:Bool->aC->Prop}(h:nq C A f x σ Q):qL C A f x σ Q:=by
 cases x with
 | d x=>cases x with
  |bool b=>exact rW h
  |int i=>exact z7 h
  |none=>exact yC h
  |_=>exact h
 |_=>exact h
theorem u7{op:Operator}(h:yW C A f op x y σ Q):cO C A f (binaryOp op) x y σ Q:=by
 cases op with
 |Add=>exact bO h (λl z h=>bO h (λm u h=>Av (qJ z) (qJ u) h.1 h.2) id) id
 |_=>exact h
theorem AP{op:Operator}{j:Int}(h:Cc op i j (λi=>Q (.d (.int i)) σ) (cO C A f (binaryOp op) (.d (.int i)) (.d (.int j)) σ Q)):cO C A f (binaryOp op) (.d (.int i)) (.d (.int j)) σ Q:=by
 cases op with
 |Add=>exact Dv h
 |Sub=>exact DI h
 |Mult=>exact EP h.2 h.1
 |FloorDiv=>exact Eb h.1 h.2.1 h.2.2
 |Mod=>exact EZ h.1 h.2
 |_=>exact h
theorem Ey:∀{C A f σ op x y Q}(h:Fy C A f op x y σ Q),cO C A f (binaryOp op) x y σ Q:=by
 intro C A f σ op x y Q h;exact bO h (λi z h=>bO h (λj u h=>by rw[df z,df u] at h⊢;exact AP h) u7) u7
theorem qU{x:PV}{F:Bool->Prop}{X P:Prop}(h:sg x y F X)(k:∀a b,x= .d (.str a)->y= .d (.str b)->F (a==b)->P)(x:X->P):P:=
 bO h (λa z h=>bO h (λb u h=>k a b (jR z) (jR u)<|DH▸h) x) x
theorem qr{x:PV}{F:Bool->Prop}{X P:Prop}(h:sh x y F X)(k:∀a l,x= .d (.str a)->y= .d (.tup l)->(∀y∈l,pN 0 y (.str a)=true)->F (l.any λy=>im y (.str a))->P)(x:X->P):P:=
 bO h (λa z h=>bO h (λl u h=>k a l (jR z) (xX u) (List.all_eq_true.mp (cr h).1) (cr h).2) x) x
theorem tZ(I:A.units+1<cLine){op:CmpOp}(h:xr C A f op x y σ Q):cO C A f (compareOp op) x y σ Q:=by
 cases op with
 |Eq=>exact qU (show sg x y (λb=>Q (.d<|.bool b) σ) (cO C A f (compareOp .Eq) x y σ Q) from h) (λa b z u h=>by refine(ys z)▸(ys u)▸?_;exact Er h) id
 |NotEq=>exact qU (show sg x y (λb=>Q (.d<|.bool<|!b) σ) (cO C A f (compareOp .NotEq) x y σ Q) from h) (λa b z u h=>by refine(ys z)▸(ys u)▸?_;exact CV h) id
 |In=>exact qr (show sh x y (λb=>Q (.d<|.bool b) σ) (cO C A f (compareOp .In) x y σ Q) from h) (λa l z u B h=>by refine(ys z)▸(ys u)▸?_;exact D6 (n:=0) B I h) id
 |NotIn=>exact qr (show sh x y (λb=>Q (.d<|.bool<|!b) σ) (cO C A f (compareOp .NotIn) x y σ Q) from h) (λa l z u B h=>by refine(ys z)▸(ys u)▸?_;exact z4 (n:=0) B I h) id
 |_=>exact h
theorem AD{op:CmpOp}{j:Int}(h:CI op i j (λb=>Q (.d (.bool b)) σ) (cO C A f (compareOp op) (.d (.int i)) (.d (.int j)) σ Q)):cO C A f (compareOp op) (.d (.int i)) (.d (.int j)) σ Q:=by
 cases op with
 |Lt=>exact GH h
 |Gt=>exact FZ h
 |LtE=>exact Gk h
 |GtE=>exact FN h
 |Eq=>exact yL h
 |NotEq=>exact ym h
 |_=>exact h
theorem uJ(u:A.units+1<cLine){op:CmpOp}(h:Cq C A f op x y σ Q):cO C A f (compareOp op) x y σ Q:=
 bO h (λi B h=>bO h (λj z h=>by rw[df B,df z] at h⊢;exact AD h)<|tZ u) (tZ u)
theorem Bd(u:A.units+1<cLine){op:CmpOp}(h:yI C A f op x y σ Q):cO C A f (compareOp op) x y σ Q:=by
 unfold yI at h;cases e:isN y with
 |false=>rw[e] at h;cases op<;>exact uJ u h
 | true=>
  rw[e] at h;cases op with
  |Is=>refine(ys<|zy e)▸?_;exact vh h
  |IsNot=>refine(ys<|zy e)▸?_;exact pJ h
  |_=>exact uJ u h
theorem j7{T:Tb}(u:A.units+1<cLine){op:CmpOp}(h:rl T C A f op x y σ Q):cO C A f (compareOp op) x y σ Q:=by
 unfold rl at h;cases e:GT y||I5 T.lm op with
 |true=>rw[e] at h;exact h
 |false=>rw[e] at h;exact Bd u h
theorem GF{op:UnaryOp}(h:wUn C A f op x σ Q):uX C A f (unaryOp op) x σ Q:=by
 cases op with
 |Not=>exact ER<|hG h
 |USub=>exact bO h (λi e h=>df e▸Fi h) id
 |_=>exact h
theorem DN(O:dU T C A f m)(h:GQ T C A f name x σ Q):uX C A f (λv=>getAttr v name true) x σ Q:=
 jr h (λk D fs z h=>bO h (λpv u h=>(cG z).1▸ud O.G (cG z).2 (iz.symm.trans u) (O.t.attr (ki (cr h).1).1).1 (ki (cr h).1).2 (cr h).2) id)
  λh=>jy h (λD fs B h=>cw h λI u h=>xL B▸yS O.G (iz.symm.trans u) (O.t.attr (cr h).1).1 (cr h).2) id
theorem ur(h:zw C A f x y σ Q):pW C A f x y σ Q:=
 bO h (λs B h=>jy h (λk l u h=>cw h λz I h=>by
  refine(ys<|(uH u).1)▸(ys<|jR B)▸?_;exact vp (uH u).2 (iz.symm.trans I) h) id) id
theorem Ep(h:FK C A f x y σ Q):pW C A f x y σ Q:=by
 exact bO h (λk I h=>by
   have hk:k<1000:=bl_ (cr h).1;have B: -(2^63)<=(Int.ofNat k)/\(Int.ofNat k)<2^63:=⟨by show-_<=((k:Nat):Int);omega,by show((k:Nat):Int)<_;omega⟩
   have h:=(cr h).2;rw[yk I] at h⊢;exact bO h (λxs J h=>cw h λz u q=>zM J (lI<|ol u) B q) λh=>bO h (λl N h=>cw h λz u q=>mK N▸fg (lI<|ol u) B q) id) ur
theorem BU(h:Cr C A f b x y σ Q):pW C A f x y σ Q:=by
 cases b with
 |true=>exact Ep h
 |false=>exact ur h
theorem EB{b:Bk}(h:Ge b x σ Q (Cl C A f b.v [x] σ Q)):Cl C A f b.v [x] σ Q:=by
 cases b with
 |len=>exact bO h (λl e h=>mK e▸te h.1 h.2) id
 |abs=>exact bO h (λl e h=>df e▸Dg h) id
 |_=>exact h
theorem sf{x:PV}{F:Int->Int->Prop}{X P:Prop}(h:yc x y F X)(k:∀i j,x= .d (.int i)->y= .d (.int j)->F i j->P)(x:X->P):P:=
 bO h (λa z h=>bO h (λb u h=>k a b (df z) (df u) h) x) x
theorem ED(B:A.handled=none){b:Bk}(h:GS b x y σ Q (Cl C A f b.v [x,y] σ Q)):Cl C A f b.v [x,y] σ Q:=by
 cases b with
 |max=>exact sf h (λi j z u h=>by refine(ys z)▸(ys u)▸?_;exact DO B h) id
 |min=>exact sf h (λi j z u h=>by refine(ys z)▸(ys u)▸?_;exact Ei B h) id
 |_=>exact h
theorem FV(u:A.handled=none){b:Bk}(h:wBk C A f b xs σ Q):Cl C A f b.v xs σ Q:=by
 cases xs with
 |nil=>exact h
 | cons x r=>cases r with
  |nil=>exact EB h
  | cons y r=>cases r with
   |nil=>exact ED u h
   |cons _ _=>exact h
theorem Aq(O:dU T C A f m){x:Str}{J pos:Pos}{g:GE}(hn:Cz g=true)(z:args.all cb=true)(B:f.env.kindOf x=some .globalImplicit)(N:iE x T.g=some g)(h:jo C A f pos args σ λxs σ1=>Cf C A f g xs σ1 Q):Ev C A f (.Call (.Name x J) args [] pos) σ Q:=by
 refine aL (O.t.g x g<|jI N) λI u=>?_;cases g with
 |pv y=>exact jn hn
 |fn a=>exact xM O.G B u.1 I u.2 (io z) (f6 z) h
 |bi v=>exact r5 O.G u.1 u.2.1 u.2.2.1 B I u.2.2.2 (io z) (f6 z) h
 |bk b=>exact r5 O.G u.1 u.2.1 u.2.2.1 B I u.2.2.2 (io z) (f6 z) λρ F s a=>(h ρ F s a).mono λU U U U p=>p.imp λxs q=>⟨q.1,FV O.hh q.2⟩
end
end
section
section
variable {T:Tb} {C:Cx} {A:Around} {f:Fc} {σ:aC} {R:Wk->aC->Prop}
theorem qL.mono{Q Q':Bool->aC->Prop}(h:qL C A f x σ Q)(k:∀b σ,Q b σ->Q' b σ):qL C A f x σ Q':=λρ F s v a r=>(h ρ F s v a r).mono λU U U U q=>k _ _ q
theorem cO.mono{t:Value->Value->Sem Value}{Q':PV->aC->Prop}(h:cO C A f t x y σ Q)(k:∀b σ,Q b σ->Q' b σ):cO C A f t x y σ Q':=λρ F s v w a r u=>(h ρ F s v w a r u).mono λU U U U p=>p.imp λU q=>⟨q.1,k _ _ q.2⟩
theorem Tt.mono{x:Expr}{Q Q':Bool->aC->Prop}(h:Tt C A f x σ Q)(k:∀b σ,Q b σ->Q' b σ):Tt C A f x σ Q':=λρ F s a=>(h ρ F s a).mono λU U U U q=>k _ _ q
theorem jo.mono{pos:Pos}{l:List Expr}{Q Q':List PV->aC->Prop}(h:jo C A f pos l σ Q)(k:∀b σ,Q b σ->Q' b σ):jo C A f pos l σ Q':=λρ F s a=>(h ρ F s a).mono λU U U U p=>p.imp λU q=>⟨q.1,k _ _ q.2⟩
theorem As.mono{t:Value->Sem Unit}{Q Q':aC->Prop}(h:As C A f t x σ Q)(k:∀σ,Q σ->Q' σ):As C A f t x σ Q':=λρ F s v a r=>(h ρ F s v a r).mono λU U U U q=>k _ q
theorem Ex.mono{x:Stmt}{Q Q':Fl->aC->Prop}(h:Ex C A f x σ Q)(k:∀b σ,Q b σ->Q' b σ):Ex C A f x σ Q':=λρ F s a=>(h ρ F s a).mono λU U U U p=>p.imp λU q=>⟨q.1,k _ _ q.2⟩
theorem uf(h:(!b)=true):b=false:=by cases b;rfl;exact cW h
theorem Bz:∀{T C A f σ m x pos Q}(O:dU T C A f m)(h:CN T f x σ Q (Ev C A f (.Name x pos) σ Q)),Ev C A f (.Name x pos) σ Q:=by
 exists zS λT=>ce λC=>cx λA=>dO λf=>dR λσ=>aA λm=>aA λx=>aA λpos=>aA λQ=>aO _;intros;exact bO h (λi e h=>bO h (λo u h=>bO h (λpv z h=>lF (iv e) (ol<|z▸u) h<|O.dbg i x<|iv e) id) id)
   λh=>bO h (λg u h=>by
    cases g with
    |pv y=>exact dL h (λhk q=>(O.t.g x _<|jI u).2.elim λv z=>lC O.G z.1 (beq_iff_eq.mp hk) z.2 (O.t.g x _<|jI u).1 q) id
    |_=>exact h) id
theorem Dd:∀{T C A f σ R m o name u pos y Q}(O:dU T C A f m)(N:∀k σ,R k σ->k.Sem C A f σ)(V:u.all cb=true)(h:Gj T C A f R o name u pos y σ Q),tL C A f o name u pos y σ Q:=by
 exists zS λT=>ce λC=>cx λA=>dO λf=>dR λσ=>aA λR=>aA λm=>aA λo=>aA λname=>aA λu=>aA λpos=>oO λy=>aA λQ=>aO _;intros;exact jr h (λk D fs e h=>bO h (λU U h=>h) λh'=>by
    cases B:iE name fs with
    |some z=>rw[B] at h;exact h
    |none=>exact bO h' (λfn J h=>by
      have I:=(cG e).1;rw[I] at h⊢;exact zd O.G V (cG e).2 (iz.symm.trans B) (O.t.IC J).1 (O.t.IC J).2<|N _ _ h pos) id)
   λh=>jy h (λk l B h=>by
    cases u with
    |nil=>exact h
    | cons x r=>cases r with
     |cons _ _=>exact h
     |nil=>exact dL h (λJ h=>by
       have I:=(ir B).1;refine(ys<|n6 J)▸(ys I)▸?_;refine mJ O.G (ki V).1 (ir B).2<|(show Ev C A f x σ _ from N _ _ h).mono λz σ2 r=>cw r λd e6 r=>jy r (λk2 Z W r=>?_) False.elim
       have S:k2=k:=PV.at.inj<|(ir W).1.symm.trans I
       rw[S] at r W;exact kH d Z (Aj e6) ((ir W).2) r.1 r.2) id) id
theorem EA.mono{e:Option Expr}{K K':Option Int->aC->Prop}(h:EA C A f e σ K)(k:∀i σ,K i σ->K' i σ):EA C A f e σ K':=by
 cases e with
 |none=>exact k _ _ h
 |some e=>exact Ev.mono h λx σ1 p=>p.imp λi q=>⟨q.1,k _ _ q.2⟩
theorem B8(u:∀k σ,R k σ->k.Sem C A f σ){e:Option Expr}{K:Option Int->aC->Prop}(h:wO R e σ K):EA C A f e σ K:=by
 cases e with
 |none=>exact h
 | some e=>
  exact(show Ev C A f e σ _ from u _ _ h).mono λx σ1 q=>cw q λi z q=>aD i (df z) q
theorem C0:∀{T C A f σ R m x Q}(O:dU T C A f m)(I:∀k σ,R k σ->k.Sem C A f σ)(h:stE T C A f R x Q σ),Ev C A f x σ Q:=by
 exists zS λT=>ce λC=>cx λA=>dO λf=>dR λσ=>aA λR=>aA λm=>aA λx=>aA λQ=>aO _;intros;have B:∀{e:Expr}{σ:aC}{Q:PV->aC->Prop},R (.ev e Q) σ->Ev C A f e σ Q:=λh=>I _ _ h;cases x with
 |Name n p=>exact Bz O h
 | Constant c k p=>cases c with
  |int i=>exact yD h
  |str i=>exact Dt h
  |none=>exact oE h
  |bool i=>exact Be h
  |bytes i=>exact xK h
  |_=>exact h
 |BinOp l op r p=>exact Fh<|(B h).mono λx σ1 h=>(B h).mono λy σ2 h=>Ey h
 |UnaryOp op y p=>exact Gy<|(B h).mono λx σ1 h=>GF h
 | Compare l ab rs p=>
  exact qR h
   (λo r N S h=>by subst N S;exact dL h (λV h=>EG ((B h).mono λx σ1 h=>(B h).mono λy σ2 h=>j7 O.un h)<|uf V) id)
   (λo1 o2 r1 r2 N S h=>by subst N S;exact dL h (λV h=>vU ((B h).mono λx σ1 h=>(B h).mono λy σ2 h=>(j7 O.un h).mono λz ad h=>(hG h).mono λb ae h=>by
         cases b with
         |true=>refine(ys<|if_pos rfl)▸?_;exact(B h).mono λu aa h=>j7 O.un h
         |false=>refine(ys<|if_neg Bool.false_ne_true)▸?_;exact h)<|uf V) id) id
 | BoolOp op l p=>exact xS h (λy z e h=>by
   subst e;cases op with
   |And=>exact Bv ((B h).mono λv σ1 h=>(hG h).mono λb σ2 h=>by
       cases b with
       |true=>refine(ys<|if_pos rfl)▸?_;exact B h
       |false=>refine(ys<|if_neg Bool.false_ne_true)▸?_;exact h)
   | Or => exact Dn ((B h).mono λv σ1 h=>(hG h).mono λb σ2 h=>by
       cases b with
       |true=>refine(ys<|if_pos rfl)▸?_;exact h
       |false=>refine(ys<|if_neg Bool.false_ne_true)▸?_;exact B h)) id
 |IfExp t b e p=>exact Dj ((show Tt C A f t σ _ from I _ _ h).mono λc σ1 h=>by
   cases c with
   |true=>refine(ys<|if_pos rfl)▸?_;exact B h
   |false=>refine(ys<|if_neg Bool.false_ne_true)▸?_;exact B h)
 |Attribute o name p=>exact dL h (λhb h=>yx (uj hb)<|(B h).mono λy σ1 h=>DN O h) id
 | Subscript o i p=>cases i with
  | Slice l u s p=>cases s with
   |some s=>exact h
   |none=>exact xJ<|(B h).mono λy σ1 h=>(B8 I h).mono λl σ2 h=>B8 I h
  |_=>exact EC<|(B h).mono λy σ1 h=>(B h).mono λz σ2 h=>BU h
 |Tuple J k p=>exact y4<|(show jo C A f _ J σ _ from I _ _ h _).mono λxs σ1 h=>⟨bl_ (cr h).1,(cr h).2⟩
 | List J p=>
  have L:xG R J σ Q->Ev C A f (.List J p) σ Q:=λh=>
   lQ ((show jo C A f _ J σ _ from I _ _ h _).mono λxs σ1 h=>⟨bl_ (cr h).1,cw (cr h).2 λZ e h=>aD Z e h⟩)
  have h:FA R T.lm J σ Q (Ev C A f (.List J p) σ Q):=h;generalize T.lm=m at h;cases m with
  |leaf=>exact h
  |HC=>exact L h
  |opq=>exact L h
  | G8=>cases J with
   |nil=>exact fj<|da<|⟨Nat.zero_le _,aD [] rfl h⟩
   |cons _ _=>exact L h
 | Call fn W af p=>
  exact wu h
   (λn np N S h=>by subst N S;exact dL h (λhp h=>bO h (λg e h=>dL h (λhk h=>Aq O (ki hk).1 hp (beq_iff_eq.mp (ki hk).2) e<|I _ _ h _) id) id) id)
   (λo name ap N S h=>by subst N S;exact dL h (λU h=>xy (qI U).1 (qI U).2.1 (qI U).2.2.1 (qI U).2.2.2<|(B h).mono λy σ1 h=>Dd O I (qI U).2.1 h) id) id
 |_=>exact h
end
end
section
section
variable {T:Tb} {C:Cx} {A:Around} {f:Fc} {σ:aC} {R:Wk->aC->Prop}
theorem BD(u:∀k σ,R k σ->k.Sem C A f σ){l:List Expr}{Q:List PV->aC->Prop}(h:GM C A f R l Q σ)(pos:Pos):jo C A f pos l σ Q:=by
 cases l with
 |nil=>exact da h
 |cons e z=>exact dL h (λB h=>fi ((show Ev C A f e σ _ from u _ _ h).mono λx σ1 h=>(show jo C A f pos z σ1 _ from u _ _ h pos))<|dy B) λh=>h pos
theorem Eu:∀{T C A f σ R m x Q}(O:dU T C A f m)(I:∀k σ,R k σ->k.Sem C A f σ)(h:stT T C A f R x Q σ),Tt C A f x σ Q:=by
 exists zS λT=>ce λC=>cx λA=>dO λf=>dR λσ=>aA λR=>aA λm=>aA λx=>aA λQ=>aO _;intros;have B:∀{e:Expr}{σ:aC}{Q:PV->aC->Prop},R (.ev e Q) σ->Ev C A f e σ Q:=λh=>I _ _ h;have D:iJ (oy x) (R (.ev x λv σ1=>nq C A f v σ1 Q) σ) (Tt C A f x σ Q)->Tt C A f x σ Q:=λh=>
  dL h (λZ h=>CW ((B h).mono λv σ1 h=>hG h)<|tv Z) id
 cases x with
 | UnaryOp op y p=>cases op with
  |Not=>exact CX<|show Tt C A f y σ _ from I _ _ h
  |_=>exact D h
 |BoolOp op l p=>exact Ac<|show zX C A f op l σ _ from I _ _ h
 | Compare l W rs p=>
  exact qR h
   (λo r J S h=>by subst J S;exact dL h (λU h=>Ed ((B h).mono λx σ1 h=>(B h).mono λy σ2 h=>(j7 O.un h).mono λz N h=>hG h)<|uf U) id)
   (λo1 o2 r1 r2 J S h=>by subst J S;exact dL h (λU h=>vG ((B h).mono λx σ1 h=>(B h).mono λy σ2 h=>(j7 O.un h).mono λz N h=>(hG h).mono λb aa h=>by
         cases b with
         |true=>refine(ys<|if_pos rfl)▸?_;exact(B h).mono λu ab h=>(j7 O.un h).mono λt V h=>hG h
         |false=>refine(ys<|if_neg Bool.false_ne_true)▸?_;exact h)<|uf U) id) D
 |_=>exact D h
theorem AT(u:∀k σ,R k σ->k.Sem C A f σ){op:BoolOp}{l:List Expr}{Q:Bool->aC->Prop}(h:Fx R op l Q σ):zX C A f op l σ Q:=by
 cases op with
 | And =>cases l with
  |nil=>exact qt h
  |cons x r=>exact BC ((show Tt C A f x σ _ from u _ _ h).mono λb σ1 h=>by
    cases b with
    |true=>rw[if_pos rfl];exact u _ _ h
    |false=>rw[if_neg Bool.false_ne_true];exact h)
 | Or =>cases l with
  |nil=>exact sX h
  |cons x r=>exact Du ((show Tt C A f x σ _ from u _ _ h).mono λb σ1 h=>by
    cases b with
    |true=>rw[if_pos rfl];exact h
    |false=>rw[if_neg Bool.false_ne_true];exact u _ _ h)
theorem Bg(O:dU T C A f m)(z:∀k σ,R k σ->k.Sem C A f σ){g:Expr}{Q:aC->Prop}(h:Gn T C A f R g x Q σ):As C A f (λv=>assign g f.env v) x σ Q:=by
 have u:∀{e:Expr}{σ:aC}{Q:PV->aC->Prop},R (.ev e Q) σ->Ev C A f e σ Q:=λh=>z _ _ h;cases g with
 |Name n p=>exact cw h λi e h=>oV (iv e) (O.st i n (bl_ (cr h).1)<|iv e) (cr h).2
 |Attribute o name p=>exact BR O.G<|(u h).mono λy σ1 h=>jr h (λk D fs e h=>jx k D fs ((cG e).1) ((cG e).2) (bl_ (ki (cr h).1).1) ((O.t.attr (ki (cr h).1).2).2)<|(cr h).2) False.elim
 |Subscript o i p=>exact Dk<|(u h).mono λy σ1 h=>u h
 |Tuple B k p=>exact cw h λxs e h=>AQ O.hh e (AG (ki (cr h).1).1) (Nat.eq_of_beq_eq_true (ki (cr h).1).2)<|z _ _ (cr h).2
 |_=>exact h
theorem BI(z:∀k σ,R k σ->k.Sem C A f σ){u:List Expr}{Q:aC->Prop}(h:GO R u xs Q σ):G6 C A f u xs σ Q:=by
 cases u with
 | nil=>cases xs with
  |nil=>exact h
  |cons _ _=>exact h.elim
 | cons g u=>cases xs with
  |nil=>exact h.elim
  |cons x xs=>exact(show As C A f _ x σ _ from z _ _ h).mono λσ1 h=>z _ _ h
theorem Ef(O:dU T C A f m){Q:aC->Prop}:∀{ns:List Str}{xs:List PV}{σ:aC},stN f ns xs σ Q->ET C f ns xs σ Q:=λ{ns}=>by
 induction ns with
 | nil=>intro xs σ h;cases xs with
  |nil=>exact h
  |cons x xs=>exact h.elim
 | cons n ns u=>intro xs σ h;cases xs with
  |nil=>exact h.elim
  |cons x xs=>exact cw h λi e h=>xT i (iv e) (O.st i n (bl_ (cr h).1)<|iv e)<|u (cr h).2
theorem ite5{J B:Type}{c1 c2 I z u:Bool}{N:B}{o:Option B}{X:J}{p:Option B->J}(h:(if c1=true then some none else if c2=true then some none else if I=true then some none else if z=true then some none else if u=true then none else some (some N))=some o):
  (if c1=true then p none else if c2=true then p none else if I=true then p none else if z=true then p none else if u=true then X else p (some N))=p o:=by
 cases c1 with
 |true=>exact congrArg p<|oi h
 | false =>cases c2 with
  |true=>exact congrArg p<|oi h
  | false=>cases I with
   |true=>exact congrArg p<|oi h
   | false=>cases z with
    |true=>exact congrArg p<|oi h
    | false=>cases u with
     |true=>exact cY h
     |false=>exact congrArg p<|oi h
theorem xo{u vs:List Expr}{z k2:Nat}{p1 p2:Pos}{o:Option (List Str)}(h:swp env u vs=some o):swappedStores [.Tuple u z p1] (.Tuple vs k2 p2) env=pure o:=by
 exact ite5 h
theorem vv:∀{env u},∀{I:List Expr}{l:List Str},sU env u I=some l->(I.filterMap (qB env u))=l/\l.length=I.length:=by
 intro env u;exact λ{I}=>by
  induction I with
  |nil=>intro l h;(have B:=oi h;clear h;subst B);exact⟨rfl,rfl⟩
  | cons t r J=>
   intro l h;refine aG (Option.bind_eq_some_iff.mp h) λx O h=>aG (Option.bind_eq_some_iff.mp h) λm N h=>?_;have z:=oi h;clear h;subst z;exact⟨(List.filterMap_cons_some O).trans<|congrArg _ (J N).1,congrArg Nat.succ (J N).2⟩
theorem vM:∀{env u},∀{z:List Expr},sU env u z=none->(z.filterMap (qB env u)).length<z.length:=by
 intro env u;exact λ{z}=>by
  induction z with
  |nil=>intro h;exact jg h
  | cons t r J=>
   intro h;have h:(qB env u t).bind (λx=>(sU env u r).bind λl=>some (x::l))=none:=h;cases B:qB env u t with
   |none=>refine(ys<|List.filterMap_cons_none B)▸?_;exact Nat.lt_succ_of_le<|List.length_filterMap_le ..
   | some x=>
    refine(ys<|List.filterMap_cons_some B)▸?_;cases I:sU env u r with
    |none=>exact Nat.succ_lt_succ<|J I
    |some m=>rw[B,I] at h;exact jg h
theorem uq:∀{x},∀{r:List Str},x∈r->rV x r=true:=by
 intro x;exact λ{r} u=>by
  induction r with
  |nil=>cases u
  | cons y r z=>
   unfold rV;cases e:sq x y with
   |true=>rfl
   | false=>
    rcases List.mem_cons.mp u with q|q
    ·rw[q,oG] at e;exact Gu e
    ·exact z q
theorem ib:∀{l},fH l=true->l.Nodup:=λ{l}=>by
 induction l with
 | nil=>
  intro U;exact List.nodup_nil
 | cons x r z=>
  intro h;unfold fH at h;rw[Bool.and_eq_true,Bool.not_eq_true'] at h;exact List.nodup_cons.mpr ⟨λu=>by rw[uq u] at h;exact cW h.1.symm,z h.2⟩
theorem tO:∀{l},fH l=true->l.eraseDups=l:=λ{l}=>by
 induction l with
 | nil=>
  intro U;exact rfl
 | cons x r z=>
  intro h;unfold fH at h;rw[Bool.and_eq_true,Bool.not_eq_true'] at h;rw[List.eraseDups_cons,List.filter_eq_self.mpr λb u=>?_,z h.2];cases e:b==x with
  |false=>rfl
  |true=>rw[beq_iff_eq.mp e] at u;rw[uq u] at h;exact cW h.1.symm
theorem yh:∀{env u vs o}(h:swq env u vs=some o),swp env u vs=some o:=by
 exists aA λenv=>aA λu=>aA λvs=>aA λo=>aO _;intros;unfold swq at h;unfold swp;cases c1:(!(u.length==2||u.length==3)||vs.length !=u.length) with
 |true=>rw[c1] at h;rw[if_pos (by rfl)];exact h
 | false =>
  rw[c1] at h;cases c2:(env.blockKind== .function&&vs.all cb) with
  |false=>simp only[c2] at h;exact cY h
  | true =>
   simp only[c2] at h;rw[Bool.and_eq_true] at c2;have V:(env.blockKind != .function)=false:=by unfold bne;refine(ys c2.1)▸?_;rfl
   have k2:∀{g:Expr->Bool},(∀x,cb x=true->g x=false)->∀{I:Type}{X Y:I},(if vs.any g=true then X else Y)=Y:=λ{g} J {I X Y}=>if_neg (by
    revert g;exists i7 ⟨Expr->Bool,λ_=>b_B.d⟩ λg=>aO _;intros;rw[List.any_eq_false.mpr λx N=>by rw[J x (List.all_eq_true.mp c2.2 x N)];exact Bool.false_ne_true];exact Bool.false_ne_true)
   rw[V,Bool.or_false,if_neg Bool.false_ne_true,k2 (λx N=>by cases x<;>first|rfl|exact cW N)];cases B:sU env ((u.head?.map (·.pos.line)).getD 0) u with
   | none=>
    simp only[B] at h;refine(if_pos ?_).trans h;rw[Bool.or_eq_true];exact .inl<|bne_iff_ne.mpr<|Nat.ne_of_lt<|vM B
   | some l=>
    revert l;exists aA λl=>aO _;intros;simp only[B] at h;refine aL (vv B) λW U=>?_;have S:fH l=true->∀{I:Type}{X Y:I},(if((l.length !=u.length)||(l.eraseDups.length !=l.length))=true then X else Y)=Y:=λq {I} {X Y}=>if_neg (by
     refine(ys<|tO q)▸(ys U)▸?_;simp)
    show(if _ then _ else _)=_;refine(ys W)▸?_;cases O:vs.all (foldedForSure 8) with
    | true=>
     simp only[O] at h;cases z:fH l with
     |false=>simp only[z] at h;exact cY h
     |true=>simp only[z] at h;refine(ys<|S z)▸?_;exact h
    | false=>
     simp only[O] at h;cases z:(fH l&& !vs.all (constantsAlone 8)) with
     |false=>simp only[z] at h;exact cY h
     | true=>
      simp only[z] at h;rw[Bool.and_eq_true,Bool.not_eq_true'] at z;refine(ys<|S z.1)▸(ys z.2)▸?_;exact h
theorem vt:∀{g v n env},(!lO v)=true->swapsWithSole [g] v n env=pure false:=by
 intro g v n env;cases v<;>first|exact λU=>rfl|exact λh=>cW h
theorem wE{n:Nat}:(!lO e)=true->swapsWith e none n env=pure false:=by
 cases e<;>first|exact λU=>rfl|exact λh=>cW h
theorem yF:∀{t v env},ya t=false->(rB t=none\/rB v=none)->swappedStores [t] v env=pure none:=by
 intro t v env;cases t with
 | Tuple u k p=>cases v with
  |Tuple vs k p=>exact λU h=>h.elim nofun nofun
  |_=>exact λU U=>rfl
 |List l p=>exact λh U=>Gu h
 |_=>exact λU U=>rfl
theorem uo:∀{t u},rB t=some u->∃k p,t= .Tuple u k p:=by
 intro t u;cases t with
 |Tuple u k p=>exact λh=>DU k p (by exact(ys<|oi h)▸rfl)
 |_=>exact cY
theorem Ah:∀{t o name},GG t=some (o,name)->∃p,t= .Attribute o name p:=by
 intro t o name;cases t with
 |Attribute o n p=>exact λh=>⟨p,by(have z:=(Prod.mk.inj<|oi h).1;have u:=(Prod.mk.inj<|oi h).2;clear h;subst z;subst u);rfl⟩
 |_=>exact cY
theorem AN:∀{T C A f σ R m g v p Q}(O:dU T C A f m)(I:∀k σ,R k σ->k.Sem C A f σ)(V:(!lO v&&cb g)=true)(h:BK f R g v Q σ (Ex C A f (.Assign [g] v p) σ Q)),Ex C A f (.Assign [g] v p) σ Q:=by
 exists zS λT=>ce λC=>cx λA=>dO λf=>dR λσ=>aA λR=>aA λm=>aA λg=>aA λv=>aA λp=>aA λQ=>aO _;intro T C A f σ R m g v p Q O I V h;have S:=vt (g:=g) (n:=p.line) (env:=f.env) (ki V).1;have one:swappedStores [g] v f.env=pure none->oU R g v Q σ->Ex C A f (.Assign [g] v p) σ Q:=λhw h=>
  mF ((show Ev C A f v σ _ from I _ _ h).mono λx σ1 h=>I _ _ h) (by rw[nG (ki V).2];rfl) S hw
 cases N:ya g with
 |true=>rw[BK,N] at h;exact h
 | false =>
  rw[BK,N] at h;cases z:rB g with
  |none=>rw[z] at h;exact one (yF N<|.inl z) h
  | some B=>cases u:rB v with
   |none=>rw[z,u] at h;exact one (yF N<|.inr u) h
   | some vs=>
    revert z u;revert B vs;exists aA λB=>aA λvs=>aO _;intro B vs z u;rw[z,u] at h;refine vX (uo z) λJ p1 z=>vX (uo u) λk2 p2 u=>?_;revert z u;revert J p1 k2 p2;exists aA λJ=>aA λp1=>aA λk2=>aA λp2=>aO _;intro J p1 k2 p2 z u;rw[z,u] at h S one⊢;exact bO h (λo e h=>by
     cases o with
     |none=>exact one (xo<|yh e) h
     |some U=>exact wj O.hh S (xo<|yh e)<|(show Ev C A f _ σ _ from I _ _ h).mono λy σ1 h=>cw h λxs u h=>bD xs u (Nat.eq_of_beq_eq_true (cr h).1)<|Ef O (cr h).2) id
theorem BJ{op:Operator}{j:Int}{F:PV->Prop}(h:Cg op name i j F)(k:∀u,F u->Q u σ):cO C A f (inplaceOp op) (.d (.int i)) (.d (.int j)) σ Q:=by
 cases op with
 |Add=>exact B0<|k _ h
 |Sub=>exact BL<|k _ h
 |_=>exact h.elim
theorem Fa:∀{T:Tb}{C:Cx}{A:Around}{f:Fc}{σ:aC}{R:Wk->aC->Prop}{m:Nat}{op:Operator}{o v:Expr}{name:Str}{p p1:Pos}{Q:Fl->aC->Prop}(O:dU T C A f m)(ih:∀k σ,R k σ->k.Sem C A f σ)(h:R (.ev o λy σ1=>Ga T R op name v y Q σ1) σ),Ex C A f (.AugAssign (.Attribute o name p1) op v p) σ Q:=by
 show∀T C A f σ R m op o v name p p1 Q,_;exists zS λT=>ce λC=>cx λA=>dO λf=>dR λσ=>aA λR=>aA λm=>aA λop=>aA λo=>aA λv=>aA λname=>aA λp=>aA λp1=>aA λQ=>aO _,h _ _ _ _ _ _ _ _ _ _ _ _ _ _;intro T C A f σ R m op o v name p p1 Q O ih h;refine qc O.G ((show Ev C A f o σ _ from ih _ _ h).mono λy σ1 h=>jr h (λk D fs e h=>cw h λz e3 h=>cw h λi e4 h=>?_) False.elim);have h1:=O.t.attr (cr h).1;refine yH k D fs (.int i) ((cG e).1) ((cG e).2) (iz.symm.trans (df e4▸e3)) h1.1 ((show Ev C A f v σ1 _ from ih _ _ (cr h).2).mono λz σ2 h=>cw h λj e5 h=>jr h (λk2 D2 fs2 e6 h=>?_) False.elim);have e8:k2=k:=PV.at.inj ((cG e6).1.symm.trans (cG e).1);have e9:D=D2:=Nat.eq_of_beq_eq_true (ki (cr h).1).1;have g2:=(cG e6).2;refine(ys (df e5))▸?_;rw[<-e9,e8] at g2;rw[e8] at h;exact BJ (cr h).2 λu q=>u6 fs2 g2 (bl_ (ki (cr h).1).2) h1.2 q
theorem DD:∀{T C A f σ R m x Q}(O:dU T C A f m)(u:∀k σ,R k σ->k.Sem C A f σ)(h:stS T C A f R x Q σ),Ex C A f x σ Q:=by
 intro T C A f σ R m x Q O u h;cases x with
 | Return v p=>cases v with
  |none=>exact Ap h
  |some e=>exact De<|show Ev C A f e σ _ from u _ _ h
 |Continue p=>exact A0 h
 |If t b e p=>exact yQ ((show Tt C A f t σ _ from u _ _ h).mono λc σ1 h=>by
   cases c with
   |true=>refine(ys<|if_pos rfl)▸?_;exact u _ _ h
   |false=>refine(ys<|if_neg Bool.false_ne_true)▸?_;exact u _ _ h)
 |Expr e p=>exact dL h (λB h=>pt (show Ev C A f e σ _ from u _ _ h) (by unfold interactive;refine(ys O.kind)▸?_;rfl)<|wE B) id
 | Assign z v p=>
  cases z with
  |nil=>exact h
  | cons g z=>cases z with
   |cons _ _=>exact h
   |nil=>exact dL h (λB h=>AN O u B h) id
 |AugAssign g op v p=>exact jy h (λo name e h=>(Ah e).elim λp1 e=>e▸Fa O u h) id
 |_=>exact h
theorem EJ(u:∀k σ,R k σ->k.Sem C A f σ){l:List Stmt}{Q:Fl->aC->Prop}(h:stB C A f R l Q σ):fA C A f l σ Q:=by
 cases l with
 |nil=>exact gr h
 | cons x r=>
  have h:(match qF x with|true=>R (.ex x<|kX C A f r Q) σ|false=>R (.ex x λfl σ1=>match fl with| .next=>R (.bl r Q) σ1|fl=>Q fl σ1) σ):=h;cases e:qF x with
  |true=>rw[e] at h;exact cK<|u _ _ h
  | false=>
   rw[e] at h;exact cK ((show Ex C A f x σ _ from u _ _ h).mono λfl σ1 h=>by
    cases fl with
    |next=>exact u _ _ h
    |_=>exact h)
theorem bK(O:dU T C A f m):∀(n:Nat)(k:Wk)(σ:aC),w T C A f n k σ->k.Sem C A f σ
 := λn=>by
  induction n with
  |zero=>exact λU U h=>h
  | succ n u=>
    intro k σ h;cases k with
    |ev x Q=>exact C0 O u h
    |es l Q=>exact BD u h
    |tt x Q=>exact Eu O u h
    |ts op l Q=>exact AT u h
    |as g x Q=>exact Bg O u h
    |al z xs Q=>exact BI u h
    |ex x Q=>exact DD O u h
    |bl l Q=>exact EJ u h
end
end
section
noncomputable def kZ(K:Frag)(a:Addr):FuncData:=(wf K a).getD default
noncomputable def pK(fd:FuncData):List Stmt:=match fd.body with
 | .stmts b=>b
 |_=>[]
noncomputable def uv(fd:FuncData):Bool:=match fd.body with
 | .stmts _=>true
 |_=>false
noncomputable def tP(sc:Scope)(x:Str):Bool:= !(x==("__debug__":Str))&&(match sc.names.lookup x with
 |some .local=>true
 |some .cell=> !(x==("__classdict__":Str))
 |_=>false)
noncomputable def gI(K:Frag)(fa:Addr)(ns:List Str):Bool:=
 (wf K fa).isSome&&uv (kZ K fa)&&(kZ K fa).closure.isEmpty&&(kZ K fa).globals==mainGlobals&&(kZ K fa).builtins==builtinsNs&& !(kZ K fa).scope.isCoroutine&& !(kZ K fa).scope.isGenerator&&
 (kZ K fa).scope.kind== .function&&fH ns&&ns.all (tP (kZ K fa).scope)
noncomputable def mc:Nat->(List Value->Prop)->Prop
 |0,P=>P []
 |n+1,P=>∀v,mc n λl=>P (v::l)
@[elab_as_elim] theorem tA{u:Type}{vs:List u}{P:List u->Prop}(e:vs.length=0)(h:P []):P vs:=List.eq_nil_of_length_eq_zero e▸h
@[elab_as_elim] theorem EE{u:Type}{n:Nat}{vs:List u}{P:List u->Prop}(e:vs.length=n+1)(h:∀a l,l.length=n->P (a::l)):P vs:=by
 revert e;exact @List.casesOn u (λvs=>vs.length=n+1->P vs) vs (λe=>(Nat.zero_ne_add_one n e).elim) λa l e=>h a l<|Nat.succ.inj e
@[elab_as_elim] theorem GI{P:List Value->Prop}(e:vs.length=1)(h:∀a,P [a]):P vs:=EE e λa l q=>tA (P:=λl=>P (a::l)) q<|h a
theorem mc.of{n:Nat}:∀{P:List Value->Prop},mc n P->∀vs:List Value,vs.length=n->P vs:=by
 induction n with
 |zero=>exact λh vs e=>tA e h
 |succ n u=>exact λ{P} h vs e=>EE e λa l q=>u (P:=λl=>P (a::l)) (h a) l q
theorem l7:∀{u x}(h:tP u x=true),(x==("__debug__":Str))=false/\(u.names.lookup x=some .local\/(u.names.lookup x=some .cell/\(x==("__classdict__":Str))=false)):=by
 exists aA λu=>aA λx=>aO _;intros;unfold tP at h;rw[Bool.and_eq_true,Bool.not_eq_true'] at h;refine⟨h.1,?_⟩;have z:=h.2;cases e:u.names.lookup x with
 |none=>rw[e] at z;exact jn z
 | some k=>cases k with
  |«local»=>exact .inl rfl
  |cell=>rw[e] at z;exact .inr ⟨rfl,by simpa using z⟩
  |_=>rw[e] at z;exact jn z
section
variable {T:Tb} {C:Cx}
theorem fQ(G:Gd C)(z:Nat)(h:gI C.K fa ns=true):sG C fa (kZ C.K fa) (pK (kZ C.K fa)) (ns.take z) ns:=by
 revert G h;revert fa ns C z;exists aA λfa=>aA λns=>ce λC=>aA λz=>aO _;intro fa ns C z G h;unfold gI at h;simp only[Bool.and_eq_true,Bool.not_eq_true',beq_iff_eq] at h;refine aL h λZ I=>aL Z λab S=>aL ab λO h9=>aL O λJ h8=>aL J λN h7=>aL N λV h6=>aL V λaa h5=>aL aa λW h4=>aL W λh1 U=>⟨?_,?_,?_,List.isEmpty_iff.mp h4,h5,h6,h7,h8,h9,ib S,?_,λx hx=>(l7<|List.all_eq_true.mp I x<|List.mem_of_mem_take hx).2⟩
 ·unfold kZ;refine aP (Option.isSome_iff_exists.mp h1) λfd e=>(ys e)▸?_;unfold wf at e;cases B:C.K.lookup fa with
  |none=>simp only[B] at e;exact bU e
  | some o=>
   obtain⟨oc,od,dt,sl⟩:=o;cases dt with
   |func ad=>simp only[B] at e;(have u:=oi e;clear e;subst u);exact ee3 _ _ _ rfl
   |_=>simp only[B] at e;exact bU e
 ·unfold kZ;refine aP (Option.isSome_iff_exists.mp h1) λfd e=>(ys e)▸?_;exact G.code fa fd e
 ·unfold pK;unfold uv at U;generalize(kZ C.K fa).body=b at U⊢;cases b with
  |stmts b=>rfl
  |_=>exact jn U
 ·rw[List.length_take,List.take_eq_take_iff];lia
noncomputable def fz(C:Cx)(fa:Addr)(ns:List Str)(L:Addr):Fc:=gM (kZ C.K fa) L fa ns
noncomputable def fb(C:Cx)(fa:Addr):List Stmt:=pK (kZ C.K fa)
theorem ml(G:Gd C)(t:re C T){n:Nat}{L:Addr}(u:gI C.K fa ns=true)(z:Rm A n):dU T C A (fz C fa ns L) n:=by
 have hn:∀(i:Nat) x,ns[i]? =some x->tP (kZ C.K fa).scope x=true:=λi x e=>by
  unfold gI at u;rw[Bool.and_eq_true] at u;exact List.all_eq_true.mp u.2 x<|List.mem_of_getElem? e
 refine⟨G,t,z,(fQ G 0 u).kind,λi x e=>(l7<|hn i x e).1,λi x U e=>?_⟩;rcases(l7<|hn i x e).2 with q|⟨q,B⟩
 ·exact .inl q
 ·exact .inr ⟨q,B,List.mem_of_getElem? e,Option.isSome_iff_exists.mp<|cg q⟩
theorem CU(G:Gd C)(t:re C T){n:Nat}{mem:Nat->Option (Option PO)}{K:PV->(Nat->Option (Option PO))->Prop}(ns:List Str)(np:Nat)(B:gI C.K fa ns=true)(u:xs.length=np)(N:Nat.ble np ns.length=true)
  (z:mc np λvs=>bindArgs (kZ C.K fa) ⟨vs,[]⟩=pure ((ns.take np).zip vs))
  (h:∀A L,dU T C A (fz C fa ns L) n->∀Q:Fl->aC->Prop,(∀{x σ'},yj K x σ'->Q x σ')->w T C A (fz C fa ns L) 1000 (.bl (fb C fa) Q) ⟨xs.map some++List.replicate (ns.length-np) none,[],mem⟩):Fn C (n+1) (.ref fa) xs mem K:=by
 have I:(ns.take np).length=np:=by refine(ys List.length_take)▸?_;exact Nat.min_eq_left<|bl_ N
 refine qZ G (fQ G np B) (by exact(ys I)▸(ys u)▸rfl) (λvs O=>z.of vs<|O.trans u) λA L J=>(ys I)▸?_;exact bK (ml G t B J) _ _ _<|h A L (ml G t B J) _ λq=>q
noncomputable def Fd(C:Cx)(n:Nat)(fn:Value)(xs:List PV)(mem:aQ)(v:PV)(mem':aQ):Prop:=Fn C n fn xs mem λr m=>r=v/\m=mem'
theorem aX(G:Gd C)(t:re C T){n:Nat}{mem mem':aQ}{v:PV}(ns:List Str)(z:Nat)(S:gI C.K fa ns=true)(B:xs.length=z)(O:Nat.ble z ns.length=true)
  (u:mc z λvs=>bindArgs (kZ C.K fa) ⟨vs,[]⟩=pure ((ns.take z).zip vs)) (U:g4 mem' v) (V:aN mem')
  (h:∀A L,dU T C A (fz C fa ns L) n->∀Q:Fl->aC->Prop,(∀{x σ'},lU x=v->σ'.mem=mem'->Q x σ')->w T C A (fz C fa ns L) 1000 (.bl (fb C fa) Q) ⟨xs.map some++List.replicate (ns.length-z) none,[],mem⟩):Fd C (n+1) (.ref fa) xs mem v mem':=
 CU G t ns z S B O u λA L W Q N=>h A L W Q λJ I=>N ⟨by refine(ys J)▸(ys I)▸?_;exact U,by refine(ys I)▸?_;exact V,J,I⟩
end
end
noncomputable def qS:List Value->List DV->Bool
 |[],[]=>true
 | .str x _::vs,.str y::l=>x==y&&qS vs l
 |_,_=>false
theorem yR:∀{P F},∀{vs:List Value}{l:List DV},qS vs l=true->bA P F vs l:=by
 intro P F;exact λ{vs}=>by
  induction vs with
  | nil=>intro l h;cases l with
   |nil=>exact .nil
   |cons _ _=>exact cW h
  | cons v vs u=>intro l h;cases l with
   |nil=>cases v<;>exact cW h
   | cons d l=>cases v with
    | str x t=>cases d with
     | str y=>
      have h:(x==y&&qS vs l)=true:=h;rw[Bool.and_eq_true] at h;refine(beq_iff_eq.mp h.1)▸?_;exact .cons (.str _ _)<|u h.2
     |_=>exact cW h
    |_=>cases d<;>exact cW h
noncomputable def Fj(o:Option Obj)(l:List DV):Bool:=match o with
 |some ⟨c,none,.seq vs _,⟨[]⟩⟩=>c== .type "tuple"&&qS vs.toList l
 |_=>false
noncomputable def sC(K:Frag)(x:Str):GE->Bool
 | .pv (.d (.int i))=>(match nsIn K mainGlobals x with|some (some (.int j _))=>i==j|_=>false)
 | .pv (.d (.tup l))=>(match nsIn K mainGlobals x with|some (some (.ref a))=>Fj (K.lookup a) l|_=>false)
 | .pv _=>false
 | .fn a=>nsIn K mainGlobals x==some (some (.ref a))&&di K (.ref a)
 | .bi v=>nsIn K mainGlobals x==some none&&bootBuiltins x==some v&& !(x=="__name__")&&di K v
 | .bk b=>nsIn K mainGlobals x==some none&&bootBuiltins x==some b.v&& !(x=="__name__")&&di K b.v
set_option tactic.hygienic true in
theorem Bf:∀{o l}(h:Fj o l=true),∃vs n,o=some (dg vs n)/\qS vs l=true:=by
 intro o l h;unfold Fj at h
 split at h
 ·rename_i c vs n
  rw[Bool.and_eq_true] at h;exact DU vs.toList n ⟨by exact(ys<|beq_iff_eq.mp h.1)▸rfl,h.2⟩
 ·exact jn h
theorem Bq:∀{C x e}(G:Gd C)(h:sC C.K x e=true),GOk C x e:=by
 exists ce λC=>aA λx=>i7 ⟨GE,.fn 0⟩ λe=>aO _;intros;cases e with
 | pv y => cases y with
  | d y =>cases y with
   | int i=>
    revert i;exists aA λi=>aO _;intros;simp only[sC] at h;cases u:nsIn C.K mainGlobals x with
    |none=>simp only[u] at h;exact cW h
    | some o=>cases o with
     |none=>simp only[u] at h;exact cW h
     | some v=>cases v with
      |int j t=>simp only[u] at h;exact aD _ u (λU U U=>by refine(beq_iff_eq.mp h)▸?_;exact .d<|.int _ _)
      |_=>simp only[u] at h;exact cW h
   | tup l =>
    revert l;exists aA λl=>aO _;intros;simp only[sC] at h;cases u:nsIn C.K mainGlobals x with
    |none=>simp only[u] at h;exact cW h
    | some o=>cases o with
     |none=>simp only[u] at h;exact cW h
     | some v=>cases v with
      | ref a=>
       revert a;exists aA λa=>aO _;intros;simp only[u] at h;refine nP (Bf h) λvs n B z=>?_;revert vs n;exists aA λvs=>aA λn=>aO _;intros;exact aD _ u<|λρ F I=>.d<|.tup (I _ _<|G.X _ _ B)<|yR z
      |_=>simp only[u] at h;exact cW h
   |_=>exact cW h
  |_=>exact cW h
 |fn a=>simp only[sC,Bool.and_eq_true,beq_iff_eq] at h;exact h
 |bi v=>simp only[sC,Bool.and_eq_true,beq_iff_eq,Bool.not_eq_true',beq_eq_false_iff_ne] at h;exact⟨h.1.1.1,h.1.1.2,h.1.2,h.2⟩
 |bk v=>simp only[sC,Bool.and_eq_true,beq_iff_eq,Bool.not_eq_true',beq_eq_false_iff_ne] at h;exact⟨h.1.1.1,h.1.1.2,h.1.2,h.2⟩
noncomputable def Gg(K:Frag)(T:Tb):Bool:=T.g.all (λp=> !(p.1=="__debug__")&&sC K p.1 p.2)&&T.m.all (λp=>p.2.all λq=>oZ K p.1 q.1 q.2&&di K (.ref q.2))&&T.a.all (λp=>p.2.all λx=>fO K p.1 x&&eY K p.1 x)
theorem z0:∀{C T}(G:Gd C)(h:Gg C.K T=true),re C T:=by
 exists ce λC=>zS λT=>aO _;intros;simp only[Gg,Bool.and_eq_true] at h;refine⟨λx e u=>?_,λD l u x I B=>?_,λD l u x z=>?_⟩
 ·have:=List.all_eq_true.mp h.1.1 _ u;rw[Bool.and_eq_true,Bool.not_eq_true'] at this;exact⟨this.1,Bq G this.2⟩
 ·exact(Bool.and_eq_true _ _).mp<|List.all_eq_true.mp (List.all_eq_true.mp h.1.2 _ u) _ B
 ·exact(Bool.and_eq_true _ _).mp<|List.all_eq_true.mp (List.all_eq_true.mp h.2 _ u) _ z
noncomputable def Aw:List DV:=[.str "new_connection_id",.str "retire_connection_id",.str "new_token",.str "handshake_done",.str "stop_sending",.str "reset_stream"]
noncomputable def oR:List DV:=[.str "crypto",.str "stream"]
noncomputable def vK:List DV:=[.str "max_data",.str "max_stream_data",.str "max_streams"]
noncomputable def km:List DV:=[.str "data_blocked",.str "stream_data_blocked",.str "streams_blocked"]
noncomputable def lw:List DV:=[.str "stream",.str "reset_stream",.str "stop_sending",.str "max_data",.str "max_stream_data",.str "max_streams",.str "data_blocked",.str "stream_data_blocked",.str "streams_blocked"]
noncomputable def jZ:List DV:=[.str "ack",.str "padding",.str "close"]
noncomputable def TT:Tb where
 lm:=.G8
 g :=[(Str.ofString "len",.bk .len),
  (Str.ofString "abs",.bk .abs),
  (Str.ofString "max",.bk .max),
  (Str.ofString "min",.bk .min),
  (Str.ofString "sum",.bi (.builtin "sum")),
  (Str.ofString "any",.bi (.builtin "any")),
  (Str.ofString "sorted",.bi (.builtin "sorted")),
  (Str.ofString "list",.bi (.type "list")),
  (Str.ofString "range",.bi (.type "range")),
  (Str.ofString "bytes",.bi (.type "bytes")),
  (Str.ofString "dict",.bi (.type "dict")),
  (Str.ofString "enumerate",.bi (.type "enumerate")),
  (Str.ofString "str",.bi (.type "str")),
  (Str.ofString "PROTOCOL_VIOLATION",.pv (.d (.int 10))),
  (Str.ofString "QuicError",.fn 38),
  (Str.ofString "INITIAL_RTT",.pv (.d (.int 333000))),
  (Str.ofString "GRANULARITY",.pv (.d (.int 1000))),
  (Str.ofString "without_delay",.fn 48),
  (Str.ofString "Rtt",.fn 93),
  (Str.ofString "PACKET_THRESHOLD",.pv (.d (.int 3))),
  (Str.ofString "TIME_TOP",.pv (.d (.int 9))),
  (Str.ofString "TIME_BOTTOM",.pv (.d (.int 8))),
  (Str.ofString "PERSISTENT_TIMES",.pv (.d (.int 3))),
  (Str.ofString "loss_delay",.fn 104),
  (Str.ofString "is_lost",.fn 111),
  (Str.ofString "detect_lost",.fn 118),
  (Str.ofString "newest_time",.fn 125),
  (Str.ofString "flight_size",.fn 130),
  (Str.ofString "persistent_span",.fn 137),
  (Str.ofString "is_between",.fn 142),
  (Str.ofString "is_persistent",.fn 149),
  (Str.ofString "add_number",.fn 156),
  (Str.ofString "has_number",.fn 161),
  (Str.ofString "newly_acked",.fn 166),
  (Str.ofString "prune",.fn 171),
  (Str.ofString "ANEW",.pv (.d (.tup Aw))),
  (Str.ofString "BY_HOLDER",.pv (.d (.tup oR))),
  (Str.ofString "LATEST",.pv (.d (.tup vK))),
  (Str.ofString "WHILE_BLOCKED",.pv (.d (.tup km))),
  (Str.ofString "way_of",.fn 182),
  (Str.ofString "subject_of",.fn 189),
  (Str.ofString "newest",.fn 194),
  (Str.ofString "told_again",.fn 201),
  (Str.ofString "ACK_TYPE",.pv (.d (.int 2))),
  (Str.ofString "STREAM_KINDS",.pv (.d (.tup lw))),
  (Str.ofString "frame_came",.fn 209),
  (Str.ofString "done_subjects",.fn 214),
  (Str.ofString "frame_lost",.fn 219),
  (Str.ofString "take_ack",.fn 226),
  (Str.ofString "sample_rtt",.fn 231),
  (Str.ofString "look_for_losses",.fn 236),
  (Str.ofString "is_validated",.fn 243),
  (Str.ofString "add_span",.fn 250),
  (Str.ofString "cut_span",.fn 257),
  (Str.ofString "first_span",.fn 264),
  (Str.ofString "without_spans",.fn 271),
  (Str.ofString "CryptoOut",.fn 323),
  (Str.ofString "INITIAL_PACKETS",.pv (.d (.int 10))),
  (Str.ofString "INITIAL_OCTETS",.pv (.d (.int 14720))),
  (Str.ofString "LEAST_PACKETS",.pv (.d (.int 2))),
  (Str.ofString "LOSS_TOP",.pv (.d (.int 1))),
  (Str.ofString "LOSS_BOTTOM",.pv (.d (.int 2))),
  (Str.ofString "initial_window",.fn 334),
  (Str.ofString "least_window",.fn 341),
  (Str.ofString "NewReno",.fn 428),
  (Str.ofString "NOT_ELICITING",.pv (.d (.tup jZ))),
  (Str.ofString "is_eliciting",.fn 440),
  (Str.ofString "counts_in_flight",.fn 447),
  (Str.ofString "any_eliciting",.fn 452),
  (Str.ofString "any_in_flight",.fn 457),
  (Str.ofString "KEPT_RANGES",.pv (.d (.int 64))),
  (Str.ofString "SentPacket",.fn 474),
  (Str.ofString "Space",.fn 605),
  (Str.ofString "kept_ranges",.fn 616),
  (Str.ofString "_law_take",.fn 623),
  (Str.ofString "_law_state",.fn 630),
  (Str.ofString "_law_frames",.fn 637),
  (Str.ofString "_law_spread",.fn 642),
  (Str.ofString "_law_told",.fn 649),
  (Str.ofString "_law_is_alike",.fn 654),
  (Str.ofString "_law_acked_right",.fn 659),
  (Str.ofString "law",.fn 666)]
 m :=[(93,[(Str.ofString "smoothed",69),(Str.ofString "variance",76),(Str.ofString "sample",83),(Str.ofString "probe_base",90)]),
  (323,[(Str.ofString "put",292),(Str.ofString "next_chunk",299),(Str.ofString "on_lost",306),(Str.ofString "on_acked",313)]),
  (428,[(Str.ofString "may_send",362),(Str.ofString "is_slow_start",369),(Str.ofString "in_recovery",376),(Str.ofString "on_sent",383),(Str.ofString "on_acked",397),(Str.ofString "widen",404),(Str.ofString "on_congestion",411),(Str.ofString "on_lost",418),(Str.ofString "on_persistent",425)]),
  (605,[(Str.ofString "take_number",534),(Str.ofString "on_sent",541),(Str.ofString "take",546),(Str.ofString "acked_by",553),(Str.ofString "note_acked",560),(Str.ofString "is_beyond",567),(Str.ofString "note_largest",574),(Str.ofString "sent_rows",595)])]
 a :=[(605,[Str.ofString "spaces",Str.ofString "crypto_out",Str.ofString "rtt",Str.ofString "control",Str.ofString "config",Str.ofString "streams",Str.ofString "shake",Str.ofString "local",Str.ofString "owed",Str.ofString "probe_count",Str.ofString "is_client",Str.ofString "peer_exponent",Str.ofString "most_delay",Str.ofString "is_confirmed",Str.ofString "next_sequence",Str.ofString "issued",Str.ofString "sent",Str.ofString "largest_acked",Str.ofString "acked",Str.ofString "loss_time",Str.ofString "next_number",Str.ofString "last_eliciting_time",Str.ofString "name",Str.ofString "received",Str.ofString "largest_seen",Str.ofString "largest_time",Str.ofString "first_unacked",Str.ofString "unacked",Str.ofString "wants_now",Str.ofString "has_new",Str.ofString "ecn",Str.ofString "is_gone",Str.ofString "on_acked",Str.ofString "on_lost",Str.ofString "close_over"]),
  (93,[Str.ofString "latest",Str.ofString "least",Str.ofString "smoothed8",Str.ofString "variance4",Str.ofString "first_at"]),
  (323,[Str.ofString "data",Str.ofString "due",Str.ofString "acked"]),
  (428,[Str.ofString "datagram",Str.ofString "window",Str.ofString "threshold",Str.ofString "recovery_at",Str.ofString "in_flight",Str.ofString "credit"]),
  (474,[Str.ofString "number",Str.ofString "time",Str.ofString "size",Str.ofString "frames",Str.ofString "is_eliciting",Str.ofString "in_flight"])]
theorem aT(G:Gd C):re C TT:=z0 G (by kernel_rfl)
noncomputable def TF:Tb:=⟨TT.g,TT.m,TT.a,.HC⟩
noncomputable def TL:Tb:=⟨TT.g,TT.m,TT.a,.leaf⟩
noncomputable def TO:Tb:=⟨TT.g,TT.m,TT.a,.opq⟩
theorem gH(G:Gd C):re C TF:=⟨(aT G).g,(aT G).m,(aT G).a⟩
theorem G2(G:Gd C):re C TO:=⟨(aT G).g,(aT G).m,(aT G).a⟩
theorem uh(G:Gd C):re C TL:=⟨(aT G).g,(aT G).m,(aT G).a⟩
section
section
theorem bL{p:Prop}[Decidable p]{X Y:Prop}(u:p->X)(z:¬p->Y):nt (decide p) X Y:=by
 by_cases h:p
 ·refine(ys<|decide_eq_true h)▸?_;exact u h
 ·refine(ys<|decide_eq_false h)▸?_;exact z h
theorem GW{p:Prop}[Decidable p]{X Y:Prop}(u:¬p->X)(z:p->Y):nt (!decide p) X Y:=by
 by_cases h:p
 ·refine(ys<|decide_eq_true h)▸?_;exact z h
 ·refine(ys<|decide_eq_false h)▸?_;exact u h
theorem eC{X Y:Prop}(u:b=true->X)(z:b=false->Y):nt b X Y:=by
 cases b with
 |true=>exact u rfl
 |false=>exact z rfl
theorem nO{X Y:Prop}(h:b=true)(u:X):nt b X Y:=by subst h;exact u
theorem Ce{X Y:Prop}(h:b=false)(u:Y):nt b X Y:=by subst h;exact u
theorem mC{j:Int}{X Y:Prop}(u:i=j->X)(z:i≠j->Y):nt (i==j) X Y:=eC (λh=>u<|beq_iff_eq.mp h) λh=>z<|beq_eq_false_iff_ne.mp h
theorem zG{j:Int}{X Y:Prop}(u:i≠j->X)(z:i=j->Y):nt (i !=j) X Y:=eC (λh=>u<|bne_iff_ne.mp h) λh=>z<|bne_eq_false_iff_eq.mp h
theorem Fe{u:Type}{o:Option u}{F:u->Prop}(z:u)(h:o=some z)(q:F z):iD o F:=by subst h;exact q
noncomputable def fe:Expr->Bool
 | .Set _ _ _=>false
 |_=>true
theorem cE(h:fe e=true)(x:Value):foldedSetIterable e env x=pure x:=by
 cases e<;>first|rfl|exact cW h
variable {T:Tb} {C:Cx} {A:Around} {f:Fc} {σ:aC} {m:Nat}
noncomputable def FW:Fl->Bool
 | .next=>true
 | .cont=>true
 |_=>false
noncomputable def my{α τ:Type}(mk:τ->aC)(P:List α->τ->Prop)(r:List α)(Q:Fl->aC->Prop):Prop:=∀fl t,FW fl=true->P r t->Q fl (mk t)
theorem my.n{I u:Type}{mk:u->aC}{P:List I->u->Prop}{r:List I}{Q:Fl->aC->Prop}{σ:aC}(h:my mk P r Q)(t:u)(N:P r t)(z:σ.mem=(mk t).mem:=by rfl)(B:σ.ls=(mk t).ls:=by rfl)(J:σ.G8=(mk t).G8:=by rfl):Q .next σ:=by
 have e:σ=mk t:=by cases σ;simp only at z B J;exact(ys z)▸(ys B)▸(ys J)▸rfl
 refine(ys e)▸?_;exact h _ t rfl N
theorem my.c{I u:Type}{mk:u->aC}{P:List I->u->Prop}{r:List I}{Q:Fl->aC->Prop}{σ:aC}(h:my mk P r Q)(t:u)(N:P r t)(z:σ.mem=(mk t).mem:=by rfl)(B:σ.ls=(mk t).ls:=by rfl)(J:σ.G8=(mk t).G8:=by rfl):Q .cont σ:=by
 have e:σ=mk t:=by cases σ;simp only at z B J;exact(ys z)▸(ys B)▸(ys J)▸rfl
 refine(ys e)▸?_;exact h _ t rfl N
theorem fW(W:dU T C A f m){S N:Type}(g:S->DV)(mk:N->aC)(P:List S->N->Prop)(l:List S)(t0:N){pos:Pos}{Q:Fl->aC->Prop}(h0:P l t0)(I:∀t,P [] t->Q .next (mk t))
  (u:∀x r t,P (x::r) t->∀V:Fl->aC->Prop,my mk P r V->(∀v σ,Q (.ret v) σ->V (.ret v) σ)->w T C A f 1000 (.as target (.d (g x)) λσ1=>w T C A f 1000 (.bl body V) σ1) (mk t))
  (h:w T C A f 1000 (.ev iter λx σ1=>x= .d (.seq (l.map g))/\σ1=mk t0) σ) (hs:fe iter=true:=by rfl):Ex C A f (.For target iter body [] pos) σ Q:=by
 refine sO g (λr σ'=>∃t,σ'=mk t/\P r t) W.hh l ((show Ev C A f iter σ _ from bK W _ _ _ h).mono λx σ1 q=>⟨q.1,aD t0 q.2 h0⟩) (λσ J=>aG J λt e O=>e▸I t O) (λx r σ z=>aG z λt e O=>?_)<|cE hs
 clear z;subst e;refine(show As C A f _ _ (mk t) _ from bK W _ _ _<|u x r t O (tY (λU=>True) (λr σ'=>∃t,σ'=mk t/\P r t) r Q) (λfl Z hf B=>?_) λv σ q=>q).mono λσ1 h=>bK W _ _ _ h;cases fl with
 |next=>exact⟨trivial,aD Z rfl B⟩
 |cont=>exact⟨trivial,aD Z rfl B⟩
 |_=>exact cW hf
theorem hU(W:dU T C A f m){z:List Stmt}{Q:Fl->aC->Prop}(j:Nat)(d:DV)(ls':List (Option PV))(B:σ.get (.tm j)=some po)(I:po.dv=some d)(u:kI j d σ.ls=ls')(h:w T C A f 1000 (.bl z Q) ⟨ls',σ.G8.set j none,σ.mem⟩):kX C A f z Q .next σ:=
 nX j d ls' B I u (bK W _ _ _ h)
theorem jM(W:dU T C A f m){u:List Stmt}{Q:Fl->aC->Prop}(h:w T C A f 1000 (.bl u Q) σ):kX C A f u Q .next σ:=bK W _ _ _ h
theorem aI(W:dU T C A f m){n:Nat}{B:Value}{mem mem':aQ}{v:PV}(J:Fd C n B xs mem v mem')(u:Nat.ble n m=true)(N:σ.mem=mem)(S:aN mem)(O:aU σ.G8)(I:xs.all PV.HM=true)(q:Q v ⟨σ.ls,σ.G8,mem'⟩):Cl C A f B xs σ Q:=by
 subst N;exact Cs (W.r.le<|bl_ u) J I S O λpv z hk=>by refine(ys hk.1)▸(ys hk.2)▸?_;exact q
end
end
section
noncomputable def isFree:NameKind->Bool
 | .free=>true
 |_=>false
noncomputable def sr(env:Env):List (Str×NameKind)->List (Str×Addr)->List (Str×Addr)
 |[],acc=>acc
 |p::r,acc=>sr env r (if(p.2== .free)=true then(p.1,(env.cells.lookup p.1).getD 0)::acc else acc)
noncomputable def knd(sc:List (Str×NameKind))(x:Str)(k:NameKind):Bool:=sc.lookup x==some k
noncomputable def eV(sc:Scope)(env:Env)(ns own caps:List Str):Bool:=
 sc.kind== .function&&fH (sc.names.map (·.1))&&fH (own++caps)&&caps.all (λx=>knd sc.names x .free&&rV x ns&& !(x=="__debug__")&& !(x=="__classdict__"))&&own.all (λx=>(knd sc.names x .local||(knd sc.names x .cell&& !(x=="__classdict__")))&& !(x=="__debug__"))&&sc.names.all (λp=> !(p.2== .free)||knd env.scope.names p.1 .cell)&&env.scope.kind== .function
section
variable {T:Tb} {C:Cx} {A:Around} {f:Fc} {σ:aC} {m:Nat}
theorem Bw:∀(l:List (Str×NameKind))(acc:List (Str×Addr)),(∀x,(x,NameKind.free)∈l->(env.cells.lookup x).isSome=true)->
  (forIn l acc λ(x:Str×NameKind) r=>(match x with|(name,kind)=>if(kind== .free)=true then do let y<-cellOf env name;pure (ForInStep.yield ((name,y)::r)) else pure (ForInStep.yield r):Sem _))=(pure (sr env l acc):Sem (List (Str×Addr))):=λl=>by
 induction l with
 | nil=>
  intro acc U;exact rfl
 | cons J r u=>
  obtain⟨n,k⟩:=J;intro acc h;have u:=λacc=>u acc λx B=>h x<|.tail _ B
  rw[List.forIn_cons];unfold sr;dsimp only;cases e:k== .free with
  |false=>exact u acc
  | true=>
   refine aP (Option.isSome_iff_exists.mp<|h n<|by refine(beq_iff_eq.mp e)▸?_;exact .head _) λc z=>?_;have I:cellOf env n=pure c:=by unfold cellOf;exact(ys z)▸rfl
   refine(ys<|if_pos rfl)▸(ys<|if_pos rfl)▸(ys I)▸(ys z)▸?_;exact u _
theorem Ab{u:Scope}(h:∀x,(x,NameKind.free)∈u.names->(env.cells.lookup x).isSome=true):closureFor u env=pure (sr env u.names []):=
 congrArg (λt:Sem (List<|Str×Addr)=>t>>=λz=>pure z) (Bw u.names [] h)
theorem Dp:∀(l:List (Str×NameKind))(acc:List (Str×Addr))(p:Str×Addr),p∈sr env l acc->p∈acc\/((p.1,NameKind.free)∈l/\p.2=(env.cells.lookup p.1).getD 0):=λl=>by
 induction l with
 | nil=>
  intro acc p h;exact .inl h
 | cons q r B=>
  intro acc p h;unfold sr at h;rcases B _ p h with u|u
  ·cases e:q.2== .free with
   |false=>rw[e] at u;exact .inl u
   | true=>
    rw[e,if_pos rfl] at u;rcases List.mem_cons.mp u with z|z
    ·refine(ys z)▸?_;exact .inr ⟨by refine(beq_iff_eq.mp e)▸?_;exact .head _,rfl⟩
    ·exact .inl z
  ·exact .inr ⟨.tail _ u.1,u.2⟩
theorem pG:∀(l:List (Str×NameKind))(acc:List (Str×Addr)),(l.map (·.1)).Nodup->(acc.map (·.1)).Nodup->(∀p∈acc,p.1∉l.map (·.1))->((sr env l acc).map (·.1)).Nodup:=λl=>by
 induction l with
 | nil=>
  intro acc U B U;exact B
 | cons q r O=>
  intro acc N B J;rw[List.map_cons,List.nodup_cons] at N;unfold sr;refine O _ N.2 ?_ ?_
  ·split
   ·exact List.nodup_cons.mpr ⟨λu=>by exact aG (List.mem_map.mp u) λp z e=>J p z (by rw[e];exact .head _),B⟩
   ·exact B
  ·intro p z u
   split at z
   ·rcases List.mem_cons.mp z with I|I
    ·rw[I] at u;exact N.1 u
    ·exact J p I<|.tail _ u
   ·exact J p z<|.tail _ u
theorem fE{z:Type}:∀{l:List (Str×z)}{x:Str}{y:z},(l.map (·.1)).Nodup->(x,y)∈l->l.lookup x=some y
 := λ{l}=>by
  induction l with
  |nil=>exact λ{x y} U u=>nomatch u
  | cons q r B=>
    intro x y h u;rw[List.map_cons,List.nodup_cons] at h;rw[List.lookup_cons];rcases List.mem_cons.mp u with e|e
    · rw[<-e,beq_self_eq_true]
    · cases I:x==q.1 with
      |true=>exact absurd (List.mem_map_of_mem (f:=(·.1)) e) (by rw[show(x,y).1=q.1 from beq_iff_eq.mp I];exact h.1)
      |false=>exact B h.2 e
theorem uR:∀{l acc x},(l.map (·.1)).Nodup->(x,NameKind.free)∈l->(x,(env.cells.lookup x).getD 0)∈sr env l acc
 := λ{l}=>by
  induction l with
  |nil=>exact λ{acc x} U hm=>nomatch hm
  | cons q r ih=>
    intro acc x h hm;rw[List.map_cons,List.nodup_cons] at h;unfold sr;rcases List.mem_cons.mp hm with e|e
    · refine e▸?_
      have : ∀(l : List (Str×NameKind))(acc:List (Str×Addr))(p:Str×Addr),p∈acc->p∈sr env l acc:=λl=>by
        induction l with
        |nil=>intro acc p h;exact h
        | cons q r ih => intro acc p h;unfold sr;refine ih _ p ?_;split
                         · exact .tail _ h
                         · exact h
      exact this _ _ _<|.head _
    · exact ih h.2 e
noncomputable def jK(f:Fc):Prop:=∀x,f.env.kindOf x=some .cell->(f.env.cells.lookup x).isSome=true
theorem cJ{L:Addr}:jK (fz C fa ns L):=λx h=>cg h
theorem f8:∀{f z own caps}(N:jK f)(h:eV z f.env f.ns own caps=true),dz z (sr f.env z.names []) own caps f:=by
 exists dO λf=>aA λz=>aA λown=>aA λcaps=>aO _;intros;unfold eV at h;simp only[Bool.and_eq_true] at h;refine aL h λae h7=>?_;refine aL ae λaf h6=>?_;refine aL af λad h5=>?_;refine aL ad λaa h4=>?_;refine aL aa λab h3=>?_;refine aL ab λh1 h2=>?_;have I:=ib h2;have V:∀x,(x,NameKind.free)∈z.names->∃c,f.env.cells.lookup x=some c:=λx u=>Option.isSome_iff_exists.mp (N x (by
  revert x;exists aA λx=>aO _;intros;have:=List.all_eq_true.mp h6 _ u;have this:f.env.scope.names.lookup x=some .cell:=by simpa [knd] using this
  exact this))
 have Z:∀x∈caps,(x,NameKind.free)∈z.names/\x∈f.ns/\(x==("__classdict__":Str))=false:=λx u=>by
  revert x;exists aA λx=>aO _;intros;have:=List.all_eq_true.mp h4 _ u;simp only[Bool.and_eq_true,Bool.not_eq_true'] at this;exact⟨gX (beq_iff_eq.mp this.1.1.1),r0 this.1.1.2,this.2⟩
 have S:∀p∈sr f.env z.names [],(p.1,NameKind.free)∈z.names/\f.env.cells.lookup p.1=some p.2:=λp J=>by
  revert p;exists i7 ⟨Str×Addr,(b_s.d,b_a.d)⟩ λp=>aO _;intros;rcases Dp _ _ p J with q|⟨B,q2⟩
  ·cases q
  ·refine aP (V p.1 B) λc O=>?_;revert c;exists aA λc=>aO _;intros;exact⟨B,by refine(ys q2)▸(ys O)▸?_;rfl⟩
 refine⟨beq_iff_eq.mp h1,Ab λx u=>Option.isSome_iff_exists.mpr (V x u),λx u e=>fE I (by refine e▸?_;exact u),ib h3,λx u=>?_,λp J=>(S p J).2,pG _ _ I List.nodup_nil (λU W=>nomatch W),λx u=>?_,λp J W=>?_⟩
 ·revert x;exists aA λx=>aO _;intros;refine dK (Z x u) λB q2 q3=>?_;have k:f.env.kindOf x=some .cell:=by
   have:=List.all_eq_true.mp h6 _ B;have this:f.env.scope.names.lookup x=some .cell:=by simpa [knd] using this
   exact this
  refine aP (V x B) λc O=>?_;revert c;exists aA λc=>aO _;intros;refine⟨.inl (fE (l:=(relabel z f.env).names) (by
   have e:(relabel z f.env).names.map (·.1)=z.names.map (·.1):=by
    unfold relabel;refine(ys (List.map_map))▸?_;refine List.map_congr_left λp U=>?_;revert p;exists i7 ⟨Str×NameKind,(b_s.d,default)⟩ λp=>aO _;intros;obtain⟨n,k⟩:=p;revert n k;exists aA λn=>aA λk=>aO _;intros;dsimp only[Function.comp]
    split<;>rfl
   refine(ys e)▸?_;exact I) ?_),q3,.inl k,(List.getElem?_eq_getElem (List.idxOf_lt_length_iff.mpr q2)).trans (congrArg some (List.getElem_idxOf _)),?_,?_⟩
  ·unfold relabel;exact List.mem_map.mpr (aD (x,.free) B (by show(if _ then _ else _)=_;refine(ys k)▸(ys h7)▸?_;rfl))
  ·refine(ys O)▸?_;exact fE (pG _ _ I List.nodup_nil (λU W=>nomatch W)) (by have:=uR (acc:=[]) (env:=f.env) I B;rw[O] at this;exact this)
  ·refine(ys (fE I B))▸?_;decide
 ·revert x;exists aA λx=>aO _;intros;cases e:(sr f.env z.names []).lookup x with
  |none=>rfl
  | some c=>
   revert c;exists aA λc=>aO _;intros;have q:=(S _ (gX e)).1;have:=List.all_eq_true.mp h5 _ u;rw[Bool.and_eq_true] at this;have k:=this.1;unfold knd at k;rw[fE I q] at k;exact cW k
 ·revert p;exists i7 ⟨Str×Addr,(b_s.d,b_a.d)⟩ λp=>aO _;intros;have B:=fE I (S p J).1;rw[fE I W] at B;exact nc PySem.NameKind.ctorIdx (oi B) rfl
end
end
section
section
variable {T:Tb} {C:Cx} {A:Around} {f:Fc} {σ:aC} {m:Nat}
noncomputable def mW(sc:Scope)(f:Fc)(own caps:List Str)(D:Addr):Fc:=cn sc (sr f.env sc.names []) D own caps f
theorem iF{env:Env}:∀{u:List (Str×NameKind)}{x:Str},u.lookup x=some .cell->
  (u.map λ(n,k)=>if(k==NameKind.free&&env.scope.kind== .function&&env.kindOf n==some .cell) then(n,NameKind.cell) else(n,k)).lookup x=some .cell:=λ{u}=>by
 induction u with
 | nil=>
  intro U h;exact bU h
 | cons J r I=>
  obtain⟨n,k⟩:=J;intro x h;have e:(if(k==NameKind.free&&env.scope.kind== .function&&env.kindOf n==some .cell)=true then(n,NameKind.cell) else(n,k)).1=n:=by split<;>rfl
  refine(ys List.map_cons)▸?_;show List.lookup x ((if(k==NameKind.free&&env.scope.kind== .function&&env.kindOf n==some .cell)=true then(n,NameKind.cell) else(n,k))::_)=_;rw[List.lookup_cons] at h⊢;refine(ys e)▸?_;cases B:x==n with
  |true=>rw[B] at h;(have z:=oi h;clear h;clear e;subst z);rfl
  |false=>rw[B] at h;exact I h
theorem gv:∀{T:Tb}{C:Cx}{A:Around}{f:Fc}{m:Nat}{u:Scope}{own caps:List Str}{D:Addr}(W:dU T C A f m)(h:eV u f.env f.ns own caps=true),dU T C A (mW u f own caps D) m:=by
 exists zS λT=>ce λC=>cx λA=>dO λf=>aA λm=>aA λu=>aA λown=>aA λcaps=>aA λD=>aO _;intros;unfold eV at h;simp only[Bool.and_eq_true] at h;refine aL h λJ h7=>aL J λB h6=>aL B λI O=>aL I λN U=>aL N λz h3=>aL z λV Z=>⟨W.G,W.t,W.r,beq_iff_eq.mp V,λi x e=>?_,λi x hi e=>?_⟩
 ·revert i x;exists aA λi=>aA λx=>aO _;intros;rcases List.mem_append.mp (List.mem_of_getElem?<|show(own++caps)[i]? =some x from e) with q|q
  ·have:=List.all_eq_true.mp O _ q;rw[Bool.and_eq_true,Bool.not_eq_true'] at this;exact this.2
  ·have:=List.all_eq_true.mp U _ q;simp only[Bool.and_eq_true,Bool.not_eq_true'] at this;exact this.1.2
 ·revert i x;exists aA λi=>aA λx=>aO _;intros;have e:(own++caps)[i]? =some x:=e;have hi:i<own.length:=hi;rw[List.getElem?_append_left hi] at e;have:=List.all_eq_true.mp O _<|List.mem_of_getElem? e
  rw[Bool.and_eq_true] at this;have S:=List.mem_of_getElem? e;rcases(Bool.or_eq_true _ _).mp this.1 with q|q
  ·exact .inl<|lookup_relabel_local (env:=f.env)<|beq_iff_eq.mp q
  ·rw[Bool.and_eq_true,Bool.not_eq_true'] at q;have k:=beq_iff_eq.mp q.1;exact .inr ⟨iF (env:=f.env) k,q.2,S,Option.isSome_iff_exists.mp<|cellsFrom_some _ _ _<|.inl k⟩
theorem qe{env:Env}:∀{u:List (Str×NameKind)}{x:Str},(u.map λ(n,k)=>if(k==NameKind.free&&env.scope.kind== .function&&env.kindOf n==some .cell) then(n,NameKind.cell) else(n,k)).lookup x=some .cell->u.lookup x=some .cell\/((x,NameKind.free)∈u/\env.kindOf x=some .cell):=λ{u}=>by
 induction u with
 | nil=>
  intro U h;exact bU h
 | cons I r B=>
  obtain⟨n,k⟩:=I;intro x h;have e:(if(k==NameKind.free&&env.scope.kind== .function&&env.kindOf n==some .cell)=true then(n,NameKind.cell) else(n,k)).1=n:=by split<;>rfl
  rw[List.map_cons] at h;have h:List.lookup x ((if(k==NameKind.free&&env.scope.kind== .function&&env.kindOf n==some .cell)=true then(n,NameKind.cell) else(n,k))::_)=_:=h;rw[List.lookup_cons,e] at h;rw[List.lookup_cons];cases z:x==n with
  | true=>
   rw[z] at h;have h:=oi h;have en:x=n:=beq_iff_eq.mp z
   by_cases c:(k==NameKind.free&&env.scope.kind== .function&&env.kindOf n==some .cell)=true
   ·rw[Bool.and_eq_true,Bool.and_eq_true] at c;exact .inr ⟨by refine(ys en)▸(ys<|beq_iff_eq.mp c.1.1)▸?_;exact .head _,by refine(ys en)▸?_;exact beq_iff_eq.mp c.2⟩
   ·rw[if_neg c] at h;exact .inl<|congrArg some h
  | false=>
   rw[z] at h;rcases B h with q|q
   ·exact .inl q
   ·exact .inr ⟨.tail _ q.1,q.2⟩
theorem B2(u:jK f){z:Scope}{own caps:List Str}{D:Addr}(hn:fH (z.names.map (·.1))=true):jK (mW z f own caps D):=λx B=>by
 rcases qe (env:=f.env) B with q|⟨q,k⟩
 ·exact cellsFrom_some _ _ _<|.inl q
 ·refine aP (Option.isSome_iff_exists.mp<|u x k) λc I=>?_;have:=uR (acc:=[]) (env:=f.env) (ib hn) q;rw[I] at this;exact cellsFrom_some _ _ _<|.inr<|Option.isSome_iff_exists.mpr ⟨c,fE (pG _ _ (ib hn) List.nodup_nil<|λU J=>nomatch J) this⟩
noncomputable def ze(C:Cx)(A:Around)(f:Fc)(x:PV)(σ:aC)(l:List PV):Prop:=∃inv,oq C A f x σ l inv/\∀σ':aC,σ'.mem=σ.mem->inv σ'
noncomputable def vI:Nat->(List (Option PV)->Prop)->Prop
 |0,P=>P []
 |n+1,P=>∀u,vI n λl=>P (u::l)
theorem vI.of{n:Nat}:∀{P:List (Option PV)->Prop},vI n P->∀vs:List (Option PV),vs.length=n->P vs:=by
 induction n with
 |zero=>exact λh vs e=>tA e h
 |succ n u=>exact λ{P} h vs e=>EE e λa l q=>u (P:=λl=>P (a::l)) (h a) l q
noncomputable def Do(T:Tb)(C:Cx)(A:Around)(f:Fc)(ifs:List Expr)(K:Bool->aC->Prop)(σ:aC):Prop:=match ifs with
 |[]=>K true σ
 |[c]=>w T C A f 1000 (.tt c K) σ
 |_=>False
noncomputable def zQ(k:Nat)(cv:List (Option PV))(G8:List (Option PO))(mem:aQ)(acc:List DV)(y:DV)(Y:PV->aC->Prop):Prop:=∀u'{t':List (Option PO)}{z:PV},u'.length=k->z= .d y->aU t'->Y z ⟨u'++cv,G8++some (.Ha acc)::t',mem⟩
theorem zQ.me{k:Nat}{I:List (Option PV)}{mem J:aQ}{acc:List DV}{y:DV}{Y:PV->aC->Prop}(h:zQ k I G8 mem acc y Y)(u:List (Option PV)){B:List (Option PO)}{z:PV}(N:u.length=k)(O:z= .d y)(S:aU B)(e:J=mem):Y z ⟨u++I,G8++some (.Ha acc)::B,J⟩:=e▸h u N O S
noncomputable def Gl(k:Nat)(cv:List (Option PV))(G8:List (Option PO))(mem:aQ)(acc:List DV)(N:aC->Prop):Prop:=∀u'{t':List (Option PO)},u'.length=k->aU t'->N ⟨u'++cv,G8++some (.Ha acc)::t',mem⟩
noncomputable def wd(T:Tb)(C:Cx)(A:Around)(cf:Fc)(target:Expr)(ifs:List Expr)(elt:Expr)(k:Nat)(cv:List (Option PV))(G8:List (Option PO))(mem:aQ)(x:DV)(ok:Bool)(y:DV)(mem':aQ):Prop:=
 vI k λu=>∀acc t,aU t->∀(Y:PV->aC->Prop)(N:aC->Prop),zQ k cv G8 mem' acc y Y->Gl k cv G8 mem' acc N->
  w T C A cf 1000 (.as target (.d x) λσ2=>Do T C A cf ifs (λb σ3=>nt b (ok=true/\w T C A cf 1000 (.ev elt Y) σ3) (ok=false/\N σ3)) σ2) ⟨u++cv,G8++some (.Ha acc)::t,mem⟩
theorem t9:∀{T C A m U B O J k S I mem mem' x y ok}(W:dU T C A U m)(h:wd T C A U B O J k S I mem x ok y mem'),tu C A U B O J k S I mem x ok y mem':=by
 intro T C A m U B O J k S I mem mem' x y ok W h;exact λu acc t hu ht=>by
  refine(show As C A U _ _ _ _ from bK W _ _ _<|h.of u hu acc t ht (λz N=>z= .d y/\m4 k S I mem' acc N) (m4 k S I mem' acc) (λu' Z z V h2 h3=>⟨h2,bE u' Z V h3 rfl⟩) λu' Z V h3=>bE u' Z V h3 rfl).mono λσ2 h=>?_;have K:∀b σ3,nt b (ok=true/\w T C A U 1000 (.ev J λz N=>z= .d y/\m4 k S I mem' acc N) σ3) (ok=false/\m4 k S I mem' acc σ3)->b=ok/\if ok=true then Ev C A U J σ3 λz N=>z= .d y/\m4 k S I mem' acc N else m4 k S I mem' acc σ3:=λb σ3 h=>by
   cases b with
   |true=>exact⟨h.1.symm,by rw[h.1,if_pos rfl];exact bK W _ _ _ h.2⟩
   |false=>exact⟨h.1.symm,by rw[h.1,if_neg Bool.false_ne_true];exact h.2⟩
  match O,h with
  |[],h=>exact K _ _ h
  |[c],h=>exact(show Tt C A U c σ2 _ from bK W _ _ _ h).mono K
theorem lY{u:Fc}(W:dU T C A u m){k:Nat}{z:List (Option PV)}{mem:aQ}{x y:DV}{ok:Bool}(h:wd T C A u target ifs elt k z G8 mem x ok y mem):rT C A u target ifs elt k z G8 mem x ok y:=t9 W h
noncomputable def su(f:Fc)(σ:aC)(caps:List Str):List (Option PV):=caps.map λx=>(σ.ls[f.ns.idxOf x]?).join
theorem d7(W:dU T C A f m)(z:jK f){B:Scope}(J:eV B f.env f.ns own caps=true){I:Type}(g:I->DV)(p:I->Bool)(e:I->DV)(l:List I){pos:Pos}(U:l.length<=100000)
  (h:w T C A f 1000 (.ev iter λx σ1=>ze C A f x σ1 (l.map λy=>.d (g y))/\σ1=σ) σ)
  (V:∀D,dU T C A (mW B f own caps D) m->∀x∈l,wd T C A (mW B f own caps D) target ifs elt own.length (su f σ caps) σ.G8 σ.mem (g x) (p x) (e x) σ.mem)
  (S:∀t,aU t->Q (.d (.seq ((l.filter p).map e))) ⟨σ.ls,σ.G8++none::t,σ.mem⟩) (O:fe iter=true:=by rfl):Ev C A f (.ListComp elt [⟨target,iter,ifs,0⟩] B pos) σ Q:=
 ra (f8 z J) g p e l U ((show Ev C A f iter σ _ from bK W _ _ _ h).mono λx σ1 u=>aL u λZ q2=>by
  clear h u;subst q2;exact⟨Z,λD x N=>lY (gv W J)<|V D (gv W J) x N,S⟩) (cE O)
theorem gl(W:dU T C A f m)(I:jK f){z:Scope}(O:eV z f.env f.ns own caps=true){J:Type}(g:J->DV)(p:J->Bool)(e:J->DV)(l:List J){y:Str}{S:Pos}(i:Nat){pos u:Pos}{Q:Fl->aC->Prop}(hl:l.length<=100000)
  (h:w T C A f 1000 (.ev iter λx σ1=>ze C A f x σ1 (l.map λy=>.d (g y))/\σ1=σ) σ)
  (hT:∀D,dU T C A (mW z f own caps D) m->∀x∈l,wd T C A (mW z f own caps D) target ifs elt own.length (su f σ caps) σ.G8 σ.mem (g x) (p x) (e x) σ.mem)
  (Z:∀t,aU t->Q .next (aC.H0 ⟨σ.ls,σ.G8++none::t,σ.mem⟩ i (.d (.seq ((l.filter p).map e)))))
  (hi:f.ns[i]? =some y:=by rfl) (hk:Nat.blt i f.wc.length=true:=by rfl) (N:swapsWith (.ListComp elt [⟨target,iter,ifs,0⟩] z pos) (some (.Name y S)) u.line f.env=pure true:=by rfl) (V:fe iter=true:=by rfl):Ex C A f (.Assign [.Name y S] (.ListComp elt [⟨target,iter,ifs,0⟩] z pos) u) σ Q:=
 lu (f8 I O) g p e l hl hi (W.st i y (bl_ hk) hi) N ((show Ev C A f iter σ _ from bK W _ _ _ h).mono λx σ1 B=>aL B λq1 q2=>by
  clear h B;subst q2;exact⟨q1,λD x U=>lY (gv W O)<|hT D (gv W O) x U,Z⟩) (cE V)
end
end
section
section
variable {T:Tb} {C:Cx} {A:Around} {f:Fc} {σ:aC} {m:Nat}
theorem y7(W:dU T C A f m){o:Expr}{pos:Pos}{K:Ky}{l0:List (Int×DV)}(I:σ.get K=some (.G7 l0))
  (h:w T C A f 1000 (.ev e λx σ2=>∃n l d,x= .d (.int n)/\σ2.get K=some (.G7 l)/\l.lookup n=some d/\l.length<=100000/\Q (.d d) (σ2.put K (.G7 (mM l n)))) σ) (B:cb e=true:=by rfl):tL C A f o "pop" [e] pos (.at K) σ Q:=
 mv W.G PySem.F.plainAttrs_dict PySem.F.slot_dict_pop BT (by refine(ys List.all_cons)▸(ys B)▸?_;rfl) (xP I) (fi ((show Ev C A f e σ _ from bK W _ _ _ h).mono λx σ2 q=>by
  refine qb q λn l d u z O J N=>?_;try clear q;subst u;exact da<|EO z O J N)<|dy B)
theorem xF(W:dU T C A f m){o:Expr}{pos:Pos}{K:Ky}{l0:List DV}(B:σ.get K=some (.Ha l0))
  (h:w T C A f 1000 (.ev e λx σ2=>∃l m,eM σ2 x m/\σ2.get K=some (.Ha l)/\l.length+m.length<=100000/\Q (.d .none) (σ2.put K (.Ha (l++m)))) σ) (z:cb e=true:=by rfl):tL C A f o "extend" [e] pos (.at K) σ Q:=
 mv W.G PySem.F.plainAttrs_list PySem.F.slot_list_extend tN (by refine(ys List.all_cons)▸(ys z)▸?_;rfl) (so B) (fi ((show Ev C A f e σ _ from bK W _ _ _ h).mono λx σ2 q=>by
  refine iP q λl m I u J N=>?_;exact da<|w7 u I J N)<|dy z)
theorem rI(W:dU T C A f m){o:Expr}{pos:Pos}(q:Q (.d (.vals l)) σ):tL C A f o "values" [] pos (.d (.Hx l)) σ Q:=
 mv W.G PySem.F.plainAttrs_dict PySem.F.slot_dict_values tl rfl (λρ F s v a r=>by
  have r:=r.dv;refine r.IJ λI z B J N=>?_;exact⟨(aD _ (a.H.HC _ _ z) B.1),λb q=>by(have u:=PySem.Value.ref.inj q;clear q;subst u);exact aD _ (a.H.HC _ _ z) B.2.1⟩) (da<|w9 q)
theorem kJ(W:dU T C A f m){o:Expr}{pos:Pos}{N:DV}(hg:σ.get k=some (.inst D fs))(hl:iE name fs=some (.d N))(u:N.H5=true)(hm:ut C.K D name=true)
  (h:w T C A f 1000 (.es args λxs σ2=>ClV C A f N xs σ2 Q) σ) (V:args.all cb=true:=by rfl):tL C A f o name args pos (.at k) σ Q:=by
 revert W hg hl u hm h V;revert D args name k fs Q T C A f σ m o pos N;exists aA λD=>aA λargs=>aA λname=>Au λk=>aA λfs=>aA λQ=>zS λT=>ce λC=>cx λA=>dO λf=>dR λσ=>aA λm=>aA λo=>aA λpos=>zR λN=>aO _;intro D args name k fs Q T C A f σ m o pos N W hg hl u hm h V;exact λρ F s v a r=>by
  revert a r;revert ρ F s v;exists aA λρ=>aA λF=>eu λs=>aA λv=>aO _;intro ρ F s v a r;obtain⟨p,e,rfl⟩:=r.place;revert e r;revert p;exists aA λp=>aO _;intro p e r;obtain⟨p',Z,g1,I,n,U,rr⟩:=a.H.obj k _ hg;revert Z g1 U rr;revert p' I n;exists aA λp'=>aA λI=>aA λn=>aO _;intro p' I n Z g1 U rr;rw[e] at Z;(have O:=oi Z;clear Z;subst O);revert rr U;revert I n;exists aA λI=>aA λn=>aO _;intro I n rr U;unfold ut at hm;simp only[Bool.and_eq_true,beq_iff_eq] at hm;obtain⟨⟨m1,m2⟩,m3⟩:=hm;refine method_usual (W.G.at a) (od:=some<|dictOf I n) ⟨g1,rfl,rfl,U⟩ (plainGet_of m1).1 (plainGet_of m1).2 m2 rfl ?_;obtain⟨v,hv,J⟩:=rr.get<|iz.symm.trans hl
  revert hv J;revert v;exists aA λv=>aO _;intro v hv J;refine gx (X:=W.G.at a) m3 g1 U hv (J.handed rfl) ?_;have S:=J.dv;cases N with
  | lam params body scope qual cl=>
   revert hl u h J S;revert params body scope qual cl;exists aA λparams=>aA λbody=>aA λscope=>aA λqual=>aA λcl=>aO _;intro params body scope qual cl hl u h J S;obtain⟨fa,rfl⟩:∃fa,v= .ref fa:=by cases S;exact⟨_,rfl⟩
   revert hv J S;revert fa;exists aA λfa=>aO _;intro fa hv J S;refine callWith_of (P:=FnAt fa) (f6 V) (λV X=>keeps_F V X)<|gt (io V)<|((show jo C A f pos args σ _ from bK W _ _ _ h pos) ρ F {s with toks:=s.toks+1} a).go λvs h2 B ρ2 F2 σ2 xs a2 z rx hc=>⟨(S.mono z.fz).fnAt a2.H.HC,?_⟩
   revert a2 z rx hc;revert vs h2 B ρ2 F2 σ2 xs;exists aA λvs=>aA λh2=>aA λB=>aA λρ2=>aA λF2=>dR λσ2=>aA λxs=>aO _;intro vs h2 B ρ2 F2 σ2 xs a2 z rx hc;exact(hc ρ2 F2 (wh s h2 B) fa vs a2 (S.mono z.fz) rx).cont z a2
  |_=>exact jn u
theorem Dy(W:dU T C A f m){Z U:Type}(g:Z->DV)(mk:U->aC)(P:List Z->U->Prop)(l:List Z)(t0:U){pos:Pos}{Q:Fl->aC->Prop}(h0:P l t0)(N:∀t,P [] t->Q .next (mk t))
  (B:∀x r t,P (x::r) t->∀Q':Fl->aC->Prop,my mk P r Q'->(∀v σ,Q (.ret v) σ->Q' (.ret v) σ)->w T C A f 1000 (.as target (.d (g x)) λσ1=>w T C A f 1000 (.bl body Q') σ1) (mk t))
  (h:w T C A f 1000 (.ev iter λx σ1=>(∃inv,oq C A f x σ1 (l.map λy=>.d (g y)) inv/\∀t,inv (mk t))/\σ1=mk t0) σ) (hs:fe iter=true:=by rfl):Ex C A f (.For target iter body [] pos) σ Q:=by
 refine s3 ((show Ev C A f iter σ _ from bK W _ _ _ h).mono λx σ1 q=>?_)<|cE hs
 refine aL q λz S=>?_;try clear q;refine aG z λinv hI u=>?_;clear z;subst S;refine bE _ inv hI (u t0)<|rm (λy=>PV.d<|g y) (inv:=inv) (λr σ'=>∃t,σ'=mk t/\P r t) (λσ z=>aG z λt e V=>e▸N t V) (λx r σ I=>aG I λt e V=>?_) l _<|aD t0 rfl h0
 clear I;subst e;refine(show As C A f _ _ (mk t) _ from bK W _ _ _<|B x r t V (tY inv (λr σ'=>∃t,σ'=mk t/\P r t) r Q) (λfl O hf J=>?_) λv σ q=>q).mono λσ1 h=>bK W _ _ _ h;cases fl with
 |next=>exact⟨u O,aD O rfl J⟩
 |cont=>exact⟨u O,aD O rfl J⟩
 |_=>exact cW hf
theorem qa(W:dU T C A f m)(I:jK f){J:Scope}(S:eV J f.env f.ns own caps=true){B z:Type}(g:B->DV)(M:z->aQ)(p:z->B->Bool)(e:z->B->DV)(nx:z->B->z)(O:List B->z->Prop)(l:List B)(t0:z){y:Str}{py:Pos}(i:Nat){pos u:Pos}{Q:Fl->aC->Prop}(hl:l.length<=100000)(h0:O l t0)
  (h:w T C A f 1000 (.ev iter λx σ1=>x= .d (.seq (l.map g))/\σ1.mem=M t0/\σ1=σ) σ)
  (Z:∀D,dU T C A (mW J f own caps D) m->∀x l t,O (x::l) t->wd T C A (mW J f own caps D) target ifs elt own.length (su f σ caps) σ.G8 (M t) (g x) (p t x) (e t x) (M (nx t x))/\O l (nx t x))
  (hq:∀tt,aU tt->Q .next (aC.H0 ⟨σ.ls,σ.G8++none::tt,M (l.foldl nx t0)⟩ i (.d (.seq (ej p e nx l t0)))))
  (hi:f.ns[i]? =some y:=by rfl) (hk:Nat.blt i f.wc.length=true:=by rfl) (U:swapsWith (.ListComp elt [⟨target,iter,ifs,0⟩] J pos) (some (.Name y py)) u.line f.env=pure true:=by rfl) (hs:fe iter=true:=by rfl):Ex C A f (.Assign [.Name y py] (.ListComp elt [⟨target,iter,ifs,0⟩] J pos) u) σ Q:=
 lv (f8 I S) W.hh g M p e nx O l t0 hl hi (W.st i y (bl_ hk) hi) U ((show Ev C A f iter σ _ from bK W _ _ _ h).mono λx σ1 N=>dK N λq1 q2 q3=>by
  clear h N;subst q3;exact⟨q1,q2,h0,λD x l t V=>⟨t9 (gv W S) (Z D (gv W S) x l t V).1,(Z D (gv W S) x l t V).2⟩,hq⟩) (cE hs)
end
end
section
section
variable {T:Tb} {C:Cx} {A:Around} {f:Fc} {σ:aC} {m:Nat}
theorem yy(W:dU T C A f m)(j:Nat)(l:List DV)(mk:Nat->aC){n:Nat}{J:Pos}{pos:Pos}{Q:Fl->aC->Prop}
  (I:∀i:Nat,(mk i).get (.tm j)=some (.enum l i)) (z:Q .next ⟨(mk l.length).ls,(mk l.length).G8.set j none,(mk l.length).mem⟩)
  (u:∀(i:Nat) d,l[i]? =some d->w T C A f 1000 (.as (.Tuple elts n J) (.d (.tup [.int i,d])) λσ1=>w T C A f 1000 (.bl body λfl σ2=>FW fl=true/\σ2=mk (i+1)) σ1) ((mk i).put (.tm j) (.enum l (i+1))))
  (h:w T C A f 1000 (.ev iter λx σ1=>x= .at (.tm j)/\σ1=mk 0) σ) (N:fe iter=true:=by rfl):Ex C A f (.For (.Tuple elts n J) iter body [] pos) σ Q:=by
 refine qV W.hh j l (λi σ=>σ=mk i) ((show Ev C A f iter σ _ from bK W _ _ _ h).mono λx σ1 q=>⟨q.1,by refine(ys q.2)▸?_;exact I 0,q.2⟩) (λσ e=>e▸z) (λi d σ O e U=>?_)<|cE N
 subst e;refine(show As C A f _ _ _ _ from bK W _ _ _<|u i d O).mono λσ1 h=>(show fA C A f body σ1 _ from bK W _ _ _ h).mono λfl σ2 q=>?_;have B:σ2=mk (i+1):=q.2;cases fl with
 |next=>exact⟨B,by refine(ys B)▸?_;exact I _⟩
 |cont=>exact⟨B,by refine(ys B)▸?_;exact I _⟩
 |_=>exact cW q.1
end
end
section
section
variable {T:Tb} {C:Cx} {A:Around} {f:Fc} {σ:aC} {m:Nat}
theorem lc(W:dU T C A f m){n:Nat}{I:DV}{B:PV}{mem mem':aQ}(N:xl C n I xs mem λr m=>r=B/\m=mem')(u:Nat.ble n m=true)(O:σ.mem=mem)(U:aN mem)(S:aU σ.G8)(J:xs.all PV.HM=true)
  (q:Q B ⟨σ.ls,σ.G8,mem'⟩):ClV C A f I xs σ Q:=by
 subst O;exact DG N W.r (bl_ u) J U S λpv z hk=>by refine(ys hk.1)▸(ys hk.2)▸?_;exact q
end
end
section
section
variable {T:Tb} {C:Cx} {A:Around} {f:Fc} {σ:aC} {m:Nat}
theorem q7(σ':aC){e:Stmt}{Q:Fl->aC->Prop}(h:σ=σ')(q:Ex C A f e σ' Q):Ex C A f e σ Q:=h▸q
noncomputable def Fv{τ:Type}(σ:aC)(i j:Nat)(M:τ->aQ)(t:τ×Option PV×Option PV):aC:=⟨(σ.ls.set i t.2.1).set j t.2.2,σ.G8,M t.1⟩
theorem kd(W:dU T C A f m){I B:Type}(g:I->DV)(i j:Nat)(M:B->aQ)(P:List I->B->Prop)(l:List I)(t0:B×Option PV×Option PV){pos:Pos}{Q:Fl->aC->Prop}(O:P l t0.1)(z:∀t,P [] t.1->Q .next (Fv σ i j M t))
  (u:∀x r t,P (x::r) t.1->∀J:Fl->aC->Prop,my (Fv σ i j M) (λr t=>P r t.1) r J->(∀v σ,Q (.ret v) σ->J (.ret v) σ)->w T C A f 1000 (.as target (.d (g x)) λσ1=>w T C A f 1000 (.bl body J) σ1) (Fv σ i j M t))
  (h:w T C A f 1000 (.ev iter λx σ1=>x= .d (.seq (l.map g))/\σ1=Fv σ i j M t0) σ) (N:fe iter=true:=by rfl):Ex C A f (.For target iter body [] pos) σ Q:=
 fW W g (Fv σ i j M) (λr t=>P r t.1) l t0 O z u h N
end
end
section
section
variable {T:Tb} {C:Cx}
theorem CZ(G:Gd C)(t:re C T){n:Nat}{mem:aQ}{K:PV->aQ->Prop}(ns:List Str)(np:Nat)(i:Nat)(y:Str)(J:gI C.K fa ns=true)(S:ns[i]? =some y)(I:(kZ C.K fa).scope.names.lookup y=some .cell)(u:xs.length=np)(U:Nat.ble np ns.length=true)
  (z:mc np λvs=>bindArgs (kZ C.K fa) ⟨vs,[]⟩=pure ((ns.take np).zip vs))
  (h:∀A L c,(callEnvC (kZ C.K fa) L fa).cells.lookup y=some c->dU T C A (fz C fa ns L) n->∀Q:Fl->aC->Prop,(∀{x σ'},GN i c K x σ'->Q x σ')->w T C A (fz C fa ns L) 1000 (.bl (fb C fa) Q) ⟨xs.map some++List.replicate (ns.length-np) none,[],mem⟩):Fn C (n+1) (.ref fa) xs mem K:=by
 have N:(ns.take np).length=np:=by refine(ys List.length_take)▸?_;exact Nat.min_eq_left<|bl_ U
 refine vH G (fQ G np J) (by exact(ys N)▸(ys u)▸rfl) (λvs V=>z.of vs<|V.trans u) i y S I λA L c O B=>(ys N)▸?_;exact bK (ml G t J O) _ _ _<|h A L c B (ml G t J O) _ λq=>q
theorem Cw(G:Gd C)(t:re C T){params:Arguments}{qual:Str}{c L c':Addr}{ps:List Str}{n:Nat}{A:Around}(O:nJ params scope cl c ps ns)(z:(ns.all λx=> !(x=="__debug__"))=true)(u:Rm A n):dU T C A (nA qual scope L fa c' cl ps ns) n:=by
 refine⟨G,t,u,O.kind,λi x e=>?_,λi x hi e=>.inl<|O.par x ?_⟩
 ·have:=List.all_eq_true.mp z x (List.mem_of_getElem? e)
  rwa [Bool.not_eq_true'] at this
 ·have e:ns[i]? =some x:=e;have hi:i<ps.length:=hi;rcases O.Iu with⟨_,q⟩|⟨y,_,q,_⟩
  ·rw[q] at e;exact List.mem_of_getElem? e
  ·rw[q,List.getElem?_append_left hi] at e;exact List.mem_of_getElem? e
theorem jW(G:Gd C)(t:re C T){params:Arguments}{body:Expr}{qual:Str}{c:Addr}{x21:PV}{ps:List Str}{n:Nat}{mem:aQ}{K:PV->aQ->Prop}(O:nJ params scope cl c ps ns)(J:(ns.all λx=> !(x=="__debug__"))=true)
  (z:xs.length=ps.length) (B:mem 21=some (some (.cellAt c x21))) (u:x21.HM=true)
  (h:∀A L fa c',dU T C A (nA qual scope L fa c' cl ps ns) n->w T C A (nA qual scope L fa c' cl ps ns) 1000 (.ev body λpv σ'=>g4 σ'.mem pv/\aN σ'.mem/\K pv (mL (.cellAt c x21) σ'.mem)) ⟨xs.map some++(if cl.isEmpty then[] else[some x21]),[],dA mem⟩):xl C (n+1) (.lam params body scope qual cl) xs mem K:=
 wX G O z B u λA L fa c' I=>bK (Cw G t O J I) 1000 (.ev _ _) _<|h A L fa c'<|Cw G t O J I
variable {A:Around} {f:Fc} {σ:aC}
theorem yp(σ':aC)(h:σ=σ')(q:Ev C A f e σ' Q):Ev C A f e σ Q:=h▸q
theorem Gp(σ':aC){u:Value}(h:σ=σ')(q:Cl C A f u xs σ' Q):Cl C A f u xs σ Q:=h▸q
end
end
section
section
variable {T:Tb} {C:Cx} {A:Around} {f:Fc} {σ:aC} {m:Nat}
theorem zK(W:dU T C A f m){Q:Fl->aC->Prop}:∀(k n:Nat)(l:List Stmt)(σ:aC),k<n->((l.take k).all λx=> !qF x)=true->w T C A f n (.bl (l.take k) (kX C A f (l.drop k) Q)) σ->fA C A f l σ Q
 := λk=>by
  induction k with
  | zero=>
    intro n l σ hk U h;cases n with
    |zero=>exact(Nat.lt_irrefl _ hk).elim
    |succ n=>exact h
  | succ k z=>
    intro n l σ hk u h;cases n with
    |zero=>exact(Nat.not_lt_zero _ hk).elim
    | succ n=>
      cases l with
      |nil=>exact h
      | cons x r=>
        rw[List.take_succ_cons,List.all_cons,Bool.and_eq_true,Bool.not_eq_true'] at u;have h:stB C A f (w T C A f n) (x::r.take k) (kX C A f (r.drop k) Q) σ:=h;unfold stB at h;simp only[u.1] at h;refine cK<|(show Ex C A f x σ _ from bK W n _ _ h).mono λfl σ1 q=>?_
        cases fl with
        |next=>exact z n r σ1 (Nat.lt_of_succ_lt_succ hk) u.2 q
        |_=>exact q
theorem gi(G:Gd C)(t:re C T){n:Nat}{mem:aQ}{K:PV->aQ->Prop}(k:Nat)(ns:List Str)(np:Nat)(B:gI C.K fa ns=true)(u:xs.length=np)(N:Nat.ble np ns.length=true)
  (z:mc np λvs=>bindArgs (kZ C.K fa) ⟨vs,[]⟩=pure ((ns.take np).zip vs)) (hk:(Nat.blt k 900&&((fb C fa).take k).all λx=> !qF x)=true)
  (h:∀A L,dU T C A (fz C fa ns L) n->∀Q:Fl->aC->Prop,(∀{x σ'},yj K x σ'->Q x σ')->w T C A (fz C fa ns L) 1000 (.bl ((fb C fa).take k) (kX C A (fz C fa ns L) ((fb C fa).drop k) Q)) ⟨xs.map some++List.replicate (ns.length-np) none,[],mem⟩):Fn C (n+1) (.ref fa) xs mem K:=by
 have I:(ns.take np).length=np:=by refine(ys List.length_take)▸?_;exact Nat.min_eq_left<|bl_ N
 rw[Bool.and_eq_true] at hk;refine qZ G (fQ G np B) (by exact(ys I)▸(ys u)▸rfl) (λvs O=>z.of vs<|O.trans u) λA L J=>(ys I)▸?_;exact zK (ml G t B J) k 1000 _ _ (Nat.lt_of_lt_of_le (bl_ hk.1)<|by decide) hk.2<|h A L (ml G t B J) _ λq=>q
end
end
section
noncomputable def cq(o:Int)(n:Nat):List Int:=(List.range n).map λ(i:Nat)=>o+(i:Int)
section
theorem zD{C:Cx}{A:Around}(hh:A.handled=none){z:Fc}{t0 t1 i1:Expr}{m:Nat}{caps:List (Option PV)}{mem:aQ}{N:Type}(g:N->DV)(out:N->List Int){Q:aC->Prop}:∀(l:List N),
    (∀q∈l,∀u acc t,u.length=m->aU t->As C A z (λv=>assign t0 z.env v) (.d (g q)) ⟨u++caps,G8++some (.Ha acc)::t,mem⟩ λσ1=>Ev C A z i1 σ1 λy σ2=>∃lo hi:Int,y= .d (.It lo hi)/\(-1000<=lo/\lo<1000000/\-1000<=hi/\hi<1000000)/\cM lo (hi-lo).toNat=(out q).map .int/\m4 m caps G8 mem acc σ2/\∀x∈out q,rT C A z t1 ifs elt m caps G8 mem (.int x) true (.int x))->
    ∀(acc:List DV)(σ:aC),acc.length+(l.flatMap out).length<=100000->m4 m caps G8 mem acc σ->(∀σ',m4 m caps G8 mem (acc++(l.flatMap out).map .int) σ'->Q σ')->zi C A z t0 t1 i1 ifs elt G8.length (λU=>True) (l.map λq=>.d (g q)) σ Q
 := λl=>by
  induction l with
  |nil=>exact λU acc σ U J B=>B σ (by simpa using J)
  | cons q l ih=>
    intro Z acc σ S J B;refine bM J λu t hu ht O=>?_;clear J;subst O;rw[List.flatMap_cons,List.length_append] at S;refine λρ F s v a r=>(Z q (.head _) u acc t hu ht ρ F s v a r).mono λU U U σ1 h1=>h1.mono λy σ2 h2=>CL h2 λlo hi ey rb e W V=>?_;clear h2;subst ey;refine ji rb λb1 b2 b3 b4=>?_;have hI:=px (C:=C) (A:=A) (f:=z) (σ:=σ2) hh (lo:=lo) (hi:=hi) (bw [] [_] 0x7e8296302060000000000000007eb181 ft b1) (bw [] [_] 0x1e8480a2028060000000000000007e80a01 ft b2) (bw [] [_] 0x7e8296302060000000000000007eb181 ft b3)<|bw [] [_] 0x1e8480a2028060000000000000007e80a01 ft b4
    rw[e,List.map_map] at hI;refine dk _ _ hI<|pI (λx:Int=>.int x) (λU=>true) (λx=>.int x) (λU U=>trivial) (out q) V acc σ2 (bw [_,_,_] [] 0x30d408a20218060070d408a1001801 ft S) W λσ' h3=>⟨trivial,?_⟩
    rw[gg] at h3;refine ih (λq B=>Z q<|.tail _ B) _ σ' (by rw[List.length_append,List.length_map];exact bw [_,_,_] [] 0xc350228808601801c35022880800d801 ft S) h3 λI h4=>B I ?_;rw[List.flatMap_cons,List.map_append,<-List.append_assoc];exact h4
variable {T:Tb} {C:Cx} {A:Around} {f:Fc} {σ:aC} {m:Nat}
theorem BZ(W:dU T C A f m)(B:jK f){z:Scope}(hc:eV z f.env f.ns own caps=true){S:Type}(g:S->DV)(out:S->List Int)(l:List S){t0 t1 I J:Expr}{pos:Pos}(hz:(l.flatMap out).length<=100000)
  (h:w T C A f 1000 (.ev I λx σ1=>x= .d (.seq (l.map g))/\σ1=σ) σ)
  (hT:∀D,dU T C A (mW z f own caps D) m->∀q∈l,vI own.length λu=>∀acc t,aU t->w T C A (mW z f own caps D) 1000 (.as t0 (.d (g q)) λσ1=>w T C A (mW z f own caps D) 1000 (.ev J λy σ2=>∃lo hi:Int,y= .d (.It lo hi)/\(-1000<=lo/\lo<1000000/\-1000<=hi/\hi<1000000)/\cM lo (hi-lo).toNat=(out q).map .int/\m4 own.length (su f σ caps) σ.G8 σ.mem acc σ2/\
   ∀x∈out q,wd T C A (mW z f own caps D) t1 ifs elt own.length (su f σ caps) σ.G8 σ.mem (.int x) true (.int x) σ.mem) σ1) ⟨u++su f σ caps,σ.G8++some (.Ha acc)::t,σ.mem⟩)
  (hq:∀t,aU t->Q (.d (.seq ((l.flatMap out).map .int))) ⟨σ.ls,σ.G8++none::t,σ.mem⟩)
  (hs:fe I=true:=by rfl) (O:fe J=true:=by rfl):Ev C A f (.ListComp elt [⟨t0,I,[],0⟩,⟨t1,J,ifs,0⟩] z pos) σ Q:=by
 refine ye (f8 B hc) (λD x=>cE O x) ((show Ev C A f I σ _ from bK W _ _ _ h).mono λx σ1 q=>?_)<|cE hs
 refine aL q λV Z=>?_;try clear q;subst V;clear h;subst Z;refine dk _ _ (lB W.hh)<|λD=>?_
 have N:=gv (D:=D) W hc;refine(ys List.map_map)▸?_;refine zD W.hh g out l (λq U u acc t hu ht=>?_) [] _ (by rw[List.length_nil,Nat.zero_add];exact hz) (Ad rfl) λσ' h=>lG h hq
 ·exact(show As C A (mW z f own caps D) _ _ _ _ from bK N _ _ _<|(hT D N q U).of u hu acc t ht).mono λσ1 h=>(show Ev C A (mW z f own caps D) J σ1 _ from bK N _ _ _ h).mono λy σ2 h=>CL h λlo hi e1 e2 e3 e4 e5=>tU lo hi e1 e2 e3 e4<|λx hx=>lY N<|e5 x hx
end
end
section
theorem FT{C:Cx}{A:Around}{f:Fc}{σ σ':aC}{g:Value->Sem Unit}{x:PV}{Q:aC->Prop}(e:σ=σ')(h:As C A f g x σ' Q):As C A f g x σ Q:=e▸h
section
variable {ls:List (Option PV)} {T r:List (Option PO)} {mem:aQ} {x y z:Option PO} {o:PO}
theorem lD:(T++x::r).set T.length y=T++y::r:=by
 rw[List.set_append_right _ _ (Nat.le_refl _),Nat.sub_self];rfl
theorem rk{u:Option PO}:(T++x::y::r).set (T++[z]).length u=T++x::u::r:=by
 rw[List.length_append,List.set_append_right _ _<|Nat.le_add_right _ _,Nat.add_sub_cancel_left];rfl
theorem app2:(T++[x])++[y]=T++x::y::[]:=by rw[List.append_assoc];rfl
theorem ip:aC.get ⟨ls,T++x::r,mem⟩ (.tm T.length)=x:=by
 show((T++x::r)[T.length]?).join=x;rw[List.getElem?_append_right (Nat.le_refl _),Nat.sub_self];rfl
theorem uE:aC.put ⟨ls,T++x::r,mem⟩ (.tm T.length) o=⟨ls,T++some o::r,mem⟩:=congrArg (λq=>aC.mk ls q mem) lD
theorem rn:aC.get ⟨ls,T++x::y::r,mem⟩ (.tm (T++[z]).length)=y:=by
 show((T++x::y::r)[(T++[z]).length]?).join=y;rw[List.length_append,List.getElem?_append_right<|Nat.le_add_right _ _,Nat.add_sub_cancel_left];rfl
theorem pV:aC.put ⟨ls,T++x::y::r,mem⟩ (.tm (T++[z]).length) o=⟨ls,T++x::some o::r,mem⟩:=congrArg (λq=>aC.mk ls q mem) rk
end
section
variable {T:Tb} {C:Cx} {A:Around} {f:Fc} {σ:aC} {m:Nat}
theorem Es{u:Fc}(W:dU T C A u m){K K':Bool->aC->Prop}(h:Do T C A u ifs K σ)(k:∀b σ,K b σ->K' b σ):zU C A u ifs σ K':=by
 match ifs,h with
 |[],h=>exact k _ _ h
 |[c],h=>exact(show Tt C A u c σ _ from bK W _ _ _ h).mono k
noncomputable def ES(cv:List (Option PV))(k:Nat)(σ:aC)(l:List DV)(P:Nat->List DV->Prop)(i:Nat)(σ':aC):Prop:=∃u acc t,σ'=⟨u++cv,σ.G8++some (PO.enum l i)::some (PO.Ha acc)::t,σ.mem⟩/\u.length=k/\aU t/\acc.length<=i/\P i acc
noncomputable def EY(cv:List (Option PV))(k:Nat)(σ:aC)(l:List DV)(i:Nat)(P:Nat->List DV->Prop)(y:PV)(σ4:aC):Prop:=∃d acc,y= .d d/\σ4.get (.tm (σ.G8++[some (PO.enum l 0)]).length)=some (.Ha acc)/\acc.length<=100000/\(σ4.put (.tm (σ.G8++[some (PO.enum l 0)]).length) (.Ha (acc++[d]))).get (.tm σ.G8.length)=some (.enum l (i+1))/\ES cv k σ l P (i+1) (σ4.put (.tm (σ.G8++[some (PO.enum l 0)]).length) (.Ha (acc++[d])))
noncomputable def EN(cv:List (Option PV))(k:Nat)(σ:aC)(l:List DV)(i:Nat)(P:Nat->List DV->Prop)(σ3:aC):Prop:=σ3.get (.tm σ.G8.length)=some (.enum l (i+1))/\ES cv k σ l P (i+1) σ3
theorem AX (W : dU T C A f m) (hcel : jK f) {sc : Scope} {own caps : List Str} (hc : eV sc f.env f.ns own caps = true) (l : List DV) (P : Nat -> List DV -> Prop) {elts : List Expr} {tn : Nat} {tp : Pos} {iter elt : Expr} {ifs : List Expr} {pos : Pos} {Q : PV -> aC -> Prop} (hl : l.length <= 100000) (h0 : P 0 [])
    (h : w T C A f 1000 (.ev iter λx σ1 => x = .at (.tm σ.G8.length) /\ σ1 = ⟨σ.ls, σ.G8 ++ [some (.enum l 0)], σ.mem⟩) σ)
    (hT : ∀ D, dU T C A (mW sc f own caps D) m -> ∀ (i : Nat) d, l[i]? = some d -> ∀ acc, acc.length <= i -> P i acc -> vI own.length λu => ∀ t, aU t -> ∀ (Y : PV -> aC -> Prop) (N : aC -> Prop),
      (∀ u' {t' : List (Option PO)} (y : DV) {z : PV}, u'.length = own.length -> z = .d y -> aU t' -> P (i + 1) (acc ++ [y]) -> Y z ⟨u' ++ su f σ caps, σ.G8 ++ some (.enum l (i + 1)) :: some (.Ha acc) :: t', σ.mem⟩) ->
      (∀ u' {t' : List (Option PO)}, u'.length = own.length -> aU t' -> P (i + 1) acc -> N ⟨u' ++ su f σ caps, σ.G8 ++ some (.enum l (i + 1)) :: some (.Ha acc) :: t', σ.mem⟩) ->
      w T C A (mW sc f own caps D) 1000 (.as (.Tuple elts tn tp) (.d (.tup [.int i, d])) λσ2 => Do T C A (mW sc f own caps D) ifs (λb σ3 => nt b (w T C A (mW sc f own caps D) 1000 (.ev elt Y) σ3) (N σ3)) σ2) ⟨u ++ su f σ caps, σ.G8 ++ some (.enum l (i + 1)) :: some (.Ha acc) :: t, σ.mem⟩)
    (hq : ∀ out t, P l.length out -> aU t -> Q (.d (.seq out)) ⟨σ.ls, σ.G8 ++ none :: none :: t, σ.mem⟩)
    (hs : fe iter = true := by rfl) : Ev C A f (.ListComp elt [⟨.Tuple elts tn tp, iter, ifs, 0⟩] sc pos) σ Q := by
  revert W hcel hc hl h0 h hT hq hs; revert T C A f σ m sc own caps l P elts tn tp iter elt ifs pos Q; show ∀ T C A f σ m sc own caps l P elts tn tp iter elt ifs pos Q, _; exists zS λT => ce λC => cx λA => dO λf => dR λσ => aA λm => aA λsc => aA λown => aA λcaps => aA λl => aA λP => aA λelts => aA λtn => aA λtp => aA λiter => aA λelt => aA λifs => aA λpos => aA λQ => aO _, h _ _ _ _ _ _ _ _ _ _ _ _ _ _ _ _ _ _ _; intro T C A f σ m sc own caps l P elts tn tp iter elt ifs pos Q W hcel hc hl h0 h hT hq hs
  refine yK W.hh (f8 hcel hc) (l := l) (λU i σ' => ES (su f σ caps) own.length σ l P i σ') ((show Ev C A f iter σ _ from bK W _ _ _ h).mono λx σ1 q => ?_) (cE hs)
  refine aL q λre1 re2 => ?_; try clear q; subst re1; subst re2
  refine qf _ rfl ip (jx (own.map λU => none) [] [] ?_ (List.length_map _) aK (Nat.le_refl _) h0) (λD i d σ' hd hS U => ?_) (λσ' hS => ?_)
  · unfold xm; refine (ys app2) ▸ ?_; rfl
  · revert hd hS U; revert D i d σ'; show ∀ D i d σ', _; exists aA λD => aA λi => zR λd => dR λσ' => aO _, h _ _ _ _; intro D i d σ' hd hS U
    refine qb hS λu acc t re3 hu ht ha hp => ?_; try clear hS; subst re3
    revert hu ht ha hp U; revert u acc t; show ∀ u acc t, _; exists aA λu => aA λacc => aA λt => aO _, h _ _ _; intro u acc t hu ht ha hp U
    have Wc := gv (D := D) W hc
    have hi : i < l.length := (List.getElem?_eq_some_iff.mp hd).1
    refine FT uE ?_
    have H := (hT D Wc i d hd acc ha hp).of u hu t ht (EY (su f σ caps) own.length σ l i P) (EN (su f σ caps) own.length σ l i P)
      (λu' t' y z hu' hz ht' hp' => tU y acc hz rn (Nat.le_trans ha (Nat.le_trans (Nat.le_of_lt hi) hl)) (by refine (ys pV) ▸ ?_; exact ip) (jx u' (acc ++ [y]) t' pV hu' ht' (by refine (ys (List.length_append)) ▸ ?_; exact Nat.succ_le_succ ha) hp'))
      (λu' t' hu' ht' hp' => ⟨ip, jx u' acc t' rfl hu' ht' (Nat.le_succ_of_le ha) hp'⟩)
    refine (show As C A (mW sc f own caps D) _ _ _ _ from bK Wc _ _ _ H).mono λσ2 h => ?_
    have K : ∀ b σ3, nt b (w T C A (mW sc f own caps D) 1000 (.ev elt (EY (su f σ caps) own.length σ l i P)) σ3) (EN (su f σ caps) own.length σ l i P σ3) -> if b = true then Ev C A (mW sc f own caps D) elt σ3 (EY (su f σ caps) own.length σ l i P) else EN (su f σ caps) own.length σ l i P σ3 := λb σ3 h => by
      cases b with
      | true => refine (ys (if_pos rfl)) ▸ ?_; exact bK Wc _ _ _ h
      | false => refine (ys (if_neg Bool.false_ne_true)) ▸ ?_; exact h
    exact Es Wc h K
  · refine qb hS λu out t re4 hu ht ha hp => ?_; try clear hS; subst re4
    refine aD out ((congrArg (λq => aC.get ⟨_, q, σ.mem⟩ _) lD).trans rn) ?_
    refine (ys lD) ▸ (ys rk) ▸ ?_; exact hq out t hp ht
end
end
section
theorem pvi{j:Int}(h:i=j):PV.d (.int i)=PV.d (.int j):=congrArg (λi=>PV.d<|.int i) h
theorem FP{i j:Bool}(h:i=j):PV.d (.bool i)=PV.d (.bool j):=congrArg (λi=>PV.d<|.bool i) h
theorem zW{i j:List DV}(h:i=j):PV.d (.seq i)=PV.d (.seq j):=congrArg (λi=>PV.d<|.seq i) h
section
variable {C:Cx}
noncomputable def b7(He smoothed:Int):Int:=max ((9*max He smoothed).fdiv 8) 1000
theorem iL(G:Gd C)(mem)(u:aN mem)(a b:Int):Fd C 1 (.ref 104) [.d (.int a),.d (.int b)] mem (.d (.int (b7 a b))) mem:=by
 exact aX G (aT G) ["latest","smoothed"] 2 (by kernel_rfl) rfl rfl (by ac_rfl) trivial u λA L W Q z=>⟨.of_left (by decide),by decide,rfl,z rfl rfl⟩
noncomputable def dN(a b c:Int):Int:=if b+c<=a then a-c else a
theorem kt(G:Gd C)(mem)(z:aN mem)(a b c:Int):Fd C 1 (.ref 48) [.d (.int a),.d (.int b),.d (.int c)] mem (.d (.int (dN a b c))) mem:=by
 exact aX G (aT G) ["latest","least","ack_delay"] 3 (by kernel_rfl) rfl rfl (by ac_rfl) trivial z λA L W Q u=>bL (λh=>u (pvi (if_pos h).symm) rfl) λh=>u (pvi (if_neg h).symm) rfl
noncomputable def eK(n t largest now delay:Int):Bool:=decide (n+3<=largest)||decide (t+delay<=now)
theorem ty(G:Gd C)(mem)(z:aN mem)(a b c d e:Int):Fd C 1 (.ref 111) [.d (.int a),.d (.int b),.d (.int c),.d (.int d),.d (.int e)] mem (.d (.bool (eK a b c d e))) mem:=by
 refine aX G (aT G) ["number","sent_at","largest","now","delay"] 5 (by kernel_rfl) rfl rfl (by ac_rfl) trivial z λA L W Q u=>bL (λh=>u (FP ?_) rfl) λh=>u (FP ?_) rfl
 ·unfold eK;refine(ys<|decide_eq_true h)▸?_;rfl
 ·unfold eK;refine(ys<|decide_eq_false h)▸?_;rfl
theorem iZ(G:Gd C)(mem)(u:aN mem)(a b:Int):Fd C 1 (.ref 137) [.d (.int a),.d (.int b)] mem (.d (.int ((a+b)*3))) mem:=by
 exact aX G (aT G) ["base","most_delay"] 2 (by kernel_rfl) rfl rfl (by ac_rfl) trivial u λA L W Q z=>⟨.of_right (by decide),z rfl rfl⟩
theorem lp(G:Gd C)(mem)(u:aN mem)(d:Int):Fd C 1 (.ref 341) [.d (.int d)] mem (.d (.int (2*d))) mem:=by
 exact aX G (aT G) ["datagram"] 1 (by kernel_rfl) rfl rfl (by ac_rfl) trivial u λA L W Q z=>⟨.of_left (by decide),z rfl rfl⟩
theorem jw(G:Gd C)(mem)(u:aN mem)(d:Int):Fd C 1 (.ref 334) [.d (.int d)] mem (.d (.int (min (10*d) (max 14720 (2*d))))) mem:=by
 exact aX G (aT G) ["datagram"] 1 (by kernel_rfl) rfl rfl (by ac_rfl) trivial u λA L W Q z=>⟨.of_left (by decide),.of_left (by decide),z rfl rfl⟩
theorem lN(G:Gd C)(mem)(B:aN mem)(l:List DV)(u:l.length<=64):Fd C 1 (.ref 616) [.d (.seq l)] mem (.d (.seq l)) mem:=by
 exact aX G (aT G) ["ranges"] 1 (by kernel_rfl) rfl rfl (by ac_rfl) trivial B λA L W Q z=>⟨Nat.lt_of_le_of_lt u (by decide),bL (λU=>z rfl rfl) λh=>absurd (Int.ofNat_le.mpr u) h⟩
noncomputable def bI(low high:Int):List (Int×Int)->List (Int×Int)
 |[]=>[]
 |q::r=>(if q.1<min q.2 low then[(q.1,min q.2 low)] else[])++(if max q.1 high<q.2 then[(max q.1 high,q.2)] else[])++bI low high r
noncomputable def pr(q:Int×Int):DV:=.tup [.int q.1,.int q.2]
theorem lt5{l:List (Int×Int)}(u:l.length<1000):(de l).length<100000:=by rw[iX];exact Nat.lt_of_lt_of_le u (by decide)
theorem m0(G:Gd C)(mem)(z:aN mem)(l:List (Int×Int))(k:Int)(u:l.length<1000)(hk:0<k):Fd C 1 (.ref 264) [.d (.seq (de l)),.d (.int k)] mem (match l with|[]=>.d .none|q::_=>.d (.tup [.int q.1,.int (min q.2 (q.1+k))])) mem:=by
 revert G z u hk;revert C mem l k;exists ce λC=>aA λmem=>aA λl=>aA λk=>aO _;intro C mem l k G z u hk;cases l with
 | nil=>
  exact aX G (aT G) ["spans","most","low","high"] 2 (by kernel_rfl) rfl rfl (by ac_rfl) trivial z λA L W Q B=>⟨lt5 u,B rfl rfl⟩
 | cons q l=>
  exact aX G (aT G) ["spans","most","low","high"] 2 (by kernel_rfl) rfl rfl (by ac_rfl) trivial z λA L W Q B=>⟨lt5 u,bL (λh=>absurd hk<|Int.not_lt.mpr h) λU=>B rfl rfl⟩
theorem a3{a b c:Nat}(h:a+2*(b+1)<=2*c)(u:c<1000):a<=100000:=by exact dD [_,_,_] [] 0x1f414880822104a41421c12801801c3502280001 ft h u
theorem a4{a b c:Nat}(h:a+2*(b+1)<=2*c):a+2*b<=2*c:=by exact bw [_,_,_] [] 0x1082520a10e09400c009082504412801801 ft h
theorem a5{a b c:Nat}(h:a+2*(b+1)<=2*c):a+1+2*b<=2*c:=by exact bw [_,_,_] [] 0x2104a41421c128018012104a0882520a00d801 ft h
theorem a6{a b c:Nat}(h:a+2*(b+1)<=2*c):a+1+1+2*b<=2*c:=by exact bw [_,_,_] [] 0x4209482843825003002420941104a41505006d801 ft h
theorem a7{a c:Nat}(h:a<=2*c)(u:c<1000):a+1<=100000:=by exact dD [_,_] [] 0x1f414840821104a0000386a04541401801 ft h u
theorem a8{a b c:Nat}(h:a+2*(b+1)<=2*c)(u:c<1000):a+1<=100000:=by exact dD [_,_,_] [] 0x3e82910104420948284382500300386a04541401801 ft h u
theorem iW{x:DV}:(l++[x]).length=l.length+1:=List.length_append
theorem g6(G:Gd C)(mem)(N:aN mem)(l:List (Int×Int))(a b:Int)(I:l.length<1000)(B:a<b):Fd C 1 (.ref 257) [.d (.seq (de l)),.d (.int a),.d (.int b)] mem (.d (.seq (de (bI a b l)))) mem:=by
 refine aX G (aT G) ["spans","low","high","found","one","other"] 3 (by kernel_rfl) rfl rfl (by ac_rfl) trivial N λA L W Q J=>fW W pr (λt:List DV×Option PV×Option PV=>⟨[some (.d<|.seq<|de l),some<|.d<|.int a,some<|.d<|.int b,some<|.at (.tm 0),t.2.1,t.2.2],[some (.Ha t.1)],mem⟩) (λr t=>t.1.length+2*r.length<=2*l.length/\t.1++de (bI a b r)=de (bI a b l)) l ([],none,none) ⟨Nat.le_of_eq<|Nat.zero_add _,rfl⟩ (λt h=>?_) (λq r t z S hn O=>?_) ⟨rfl,rfl⟩
 ·exact hU W 0 (.seq t.1) [some (.d<|.seq<|de l),some<|.d<|.int a,some<|.d<|.int b,some<|.d<|.seq t.1,_,_] rfl rfl rfl<|bL (λU=>J (zW<|(List.append_nil _).symm.trans h.2) rfl) λh=>absurd B h
 ·have e:de (bI a b (q::r))=(if q.1<min q.2 a then[pr (q.1,min q.2 a)] else[])++((if max q.1 b<q.2 then[pr (max q.1 b,q.2)] else[])++de (bI a b r)):=by
   unfold de;rw[bI,List.map_append,List.map_append,List.append_assoc];congr 1
   ·split<;>rfl
   ·congr 1;split<;>rfl
  have u:=z.2;rw[e] at u;refine bL (λh=>?_) λh=>?_
  ·rw[if_pos h] at u;refine⟨a3 z.1 I,bL (λh=>?_) λh=>?_⟩
   ·rw[if_pos h] at u;exact⟨by refine(ys iW)▸?_;exact a8 z.1 I,hn.n (t.1++[pr (q.1,min q.2 a)]++[pr (max q.1 b,q.2)],some<|.d<|.int q.1,some<|.d<|.int q.2) ⟨by refine(ys iW)▸(ys iW)▸?_;exact a6 z.1,by rw[List.append_assoc,List.append_assoc];exact u⟩⟩
   ·rw[if_neg h] at u;exact hn.n (t.1++[pr (q.1,min q.2 a)],some<|.d<|.int q.1,some<|.d<|.int q.2) ⟨by refine(ys iW)▸?_;exact a5 z.1,by rw[List.append_assoc];exact u⟩
  ·rw[if_neg h] at u;refine bL (λh=>?_) λh=>?_
   ·rw[if_pos h] at u;exact⟨a3 z.1 I,hn.n (t.1++[pr (max q.1 b,q.2)],some<|.d<|.int q.1,some<|.d<|.int q.2) ⟨by refine(ys iW)▸?_;exact a5 z.1,by rw[List.append_assoc];exact u⟩⟩
   ·rw[if_neg h] at u;exact hn.n (t.1,some<|.d<|.int q.1,some<|.d<|.int q.2) ⟨a4 z.1,u⟩
end
end
section
section
variable {C:Cx}
noncomputable def bN:List (Int×Int)->Int->Int->Bool->List (Int×Int)
 |[],lo,hi,put=>if put=true then[] else[(lo,hi)]
 | q::r,lo,hi,put=>if q.2<lo then q::bN r lo hi put
  else if hi<q.1 then(if put=true then q::bN r lo hi true else(lo,hi)::q::bN r lo hi true)
  else bN r (min lo q.1) (max hi q.2) put
noncomputable abbrev Ts:=Int×Int×Bool×List DV×Option PV×Option PV
theorem ie(G:Gd C)(mem)(O:aN mem)(l:List (Int×Int))(a b:Int)(I:l.length<1000)(B:a<b):Fd C 1 (.ref 250) [.d (.seq (de l)),.d (.int a),.d (.int b)] mem (.d (.seq (de (bN l a b false)))) mem:=by
 revert G O I B;revert C mem l a b;exists ce λC=>aA λmem=>aA λl=>aA λa=>aA λb=>aO _;intro C mem l a b G O I B;refine aX G (aT G) ["spans","low","high","found","is_put","one","other"] 3 (by kernel_rfl) rfl rfl (by ac_rfl) trivial O λA L W Q J=>?_;revert W J;revert A L Q;exists cx λA=>aA λL=>aA λQ=>aO _;intro A L Q W J;refine bL (λh=>absurd B<|Int.not_lt.mpr h) λh=>fW W pr (λt:Ts=>⟨[some (.d<|.seq<|de l),some<|.d<|.int t.1,some<|.d<|.int t.2.1,some<|.at (.tm 0),some<|.d<|.bool t.2.2.1,t.2.2.2.2.1,t.2.2.2.2.2],[some (.Ha t.2.2.2.1)],mem⟩)
  (λr t=>t.2.2.2.1.length+2*r.length<=2*l.length/\t.2.2.2.1++de (bN r t.1 t.2.1 t.2.2.1)=de (bN l a b false)) l (a,b,false,[],none,none) ⟨Nat.le_of_eq<|Nat.zero_add _,rfl⟩ (λt h=>?_) (λq r t z N hn S=>?_) ⟨rfl,rfl⟩
 ·revert h;revert t;exists aA λt=>aO _;intro t h;refine hU W 0 (.seq t.2.2.2.1) [some (.d<|.seq<|de l),some<|.d<|.int t.1,some<|.d<|.int t.2.1,some<|.d<|.seq t.2.2.2.1,some<|.d<|.bool t.2.2.1,_,_] rfl rfl rfl ?_;have u:=h.2;refine eC (λe=>J (zW ?_) rfl) λe=>⟨a7 h.1 I,J (zW ?_) rfl⟩
  ·rw[e] at u;exact(List.append_nil _).symm.trans u
  ·rw[e] at u;exact u
 ·revert z hn S;revert q r t N;exists aA λq=>aA λr=>aA λt=>aA λN=>aO _;intro q r t N z hn S;have u:=z.2;rw[bN.eq_2] at u;refine bL (λh=>?_)<|λh=>?_
  ·rw[if_pos h] at u;exact⟨a3 z.1 I,hn.n (t.1,t.2.1,t.2.2.1,t.2.2.2.1++[pr q],some<|.d<|.int q.1,some<|.d<|.int q.2) ⟨by refine(ys iW)▸?_;exact a5 z.1,by rw[List.append_assoc];exact u⟩⟩
  ·rw [if_neg h] at u;refine bL (λh=>?_)<|λh=>?_
   ·rw[if_pos h] at u;refine eC (λe=>?_) λe=>?_
    ·rw[if_neg (by simpa using e)] at u;exact⟨a3 z.1 I,by refine(ys iW)▸?_;exact a8 z.1 I,hn.n (t.1,t.2.1,true,t.2.2.2.1++[pr (t.1,t.2.1)]++[pr q],some<|.d<|.int q.1,some<|.d<|.int q.2) ⟨by refine(ys iW)▸(ys iW)▸?_;exact a6 z.1,by rw[List.append_assoc,List.append_assoc];exact u⟩⟩
    ·have e:t.2.2.1=true:=by simpa using e
     rw[if_pos e] at u;exact⟨a3 z.1 I,hn.n (t.1,t.2.1,t.2.2.1,t.2.2.2.1++[pr q],some<|.d<|.int q.1,some<|.d<|.int q.2) ⟨by refine(ys iW)▸?_;exact a5 z.1,by rw[List.append_assoc,e];exact u⟩⟩
   ·rw[if_neg h] at u;exact hn.n (min t.1 q.1,max t.2.1 q.2,t.2.2.1,t.2.2.2.1,some<|.d<|.int q.1,some<|.d<|.int q.2) ⟨a4 z.1,u⟩
noncomputable def eI:List (Int×Int)->Int->Int->Bool->List (Int×Int)
 |[],lo,hi,put=>if put=true then[] else[(lo,hi)]
 | q::r,lo,hi,put=>if hi+1<q.1 then q::eI r lo hi put
  else if q.2<lo-1 then(if put=true then q::eI r lo hi true else(lo,hi)::q::eI r lo hi true)
  else eI r (min lo q.1) (max hi q.2) put
noncomputable abbrev Tn:=Int×Int×Bool×List DV×Option PV
theorem ng(G:Gd C)(mem)(N:aN mem)(l:List (Int×Int))(n:Int)(B:l.length<1000):Fd C 1 (.ref 156) [.d (.seq (de l)),.d (.int n)] mem (.d (.seq (de (eI l n n false)))) mem:=by
 revert G N B;revert C mem l n;exists ce λC=>aA λmem=>aA λl=>aA λn=>aO _;intro C mem l n G N B;refine aX G (aT G) ["ranges","n","low","high","found","is_in","one"] 2 (by kernel_rfl) rfl rfl (by ac_rfl) trivial N λA L W Q I=>?_;revert W I;revert A L Q;exists cx λA=>aA λL=>aA λQ=>aO _;intro A L Q W I;refine fW W pr (λt:Tn=>⟨[some (.d<|.seq<|de l),some<|.d<|.int n,some<|.d<|.int t.1,some<|.d<|.int t.2.1,some<|.at (.tm 0),some<|.d<|.bool t.2.2.1,t.2.2.2.2],[some (.Ha t.2.2.2.1)],mem⟩)
  (λr t=>t.2.2.2.1.length+2*r.length<=2*l.length/\t.2.2.2.1++de (eI r t.1 t.2.1 t.2.2.1)=de (eI l n n false)) l (n,n,false,[],none) ⟨Nat.le_of_eq<|Nat.zero_add _,rfl⟩ (λt h=>?_) (λq r t z J hn O=>?_) ⟨rfl,rfl⟩
 ·revert h;revert t;exists aA λt=>aO _;intro t h;refine hU W 0 (.seq t.2.2.2.1) [some (.d<|.seq<|de l),some<|.d<|.int n,some<|.d<|.int t.1,some<|.d<|.int t.2.1,some<|.d<|.seq t.2.2.2.1,some<|.d<|.bool t.2.2.1,_] rfl rfl rfl ?_;have u:=h.2;refine eC (λe=>I (zW ?_) rfl) λe=>⟨a7 h.1 B,I (zW ?_) rfl⟩
  ·rw[e] at u;exact(List.append_nil _).symm.trans u
  ·rw[e] at u;exact u
 ·revert z hn O;revert q r t J;exists aA λq=>aA λr=>aA λt=>aA λJ=>aO _;intro q r t J z hn O;have u:=z.2;rw[eI.eq_2] at u;refine bL (λh=>?_)<|λh=>?_
  ·rw[if_pos h] at u;exact⟨a3 z.1 B,hn.n (t.1,t.2.1,t.2.2.1,t.2.2.2.1++[pr q],some<|.d<|pr q) ⟨by refine(ys iW)▸?_;exact a5 z.1,by rw[List.append_assoc];exact u⟩⟩
  ·rw [if_neg h] at u;refine bL (λh=>?_)<|λh=>?_
   ·rw[if_pos h] at u;refine eC (λe=>?_) λe=>?_
    ·rw[if_neg (by simpa using e)] at u;exact⟨a3 z.1 B,by refine(ys iW)▸?_;exact a8 z.1 B,hn.n (t.1,t.2.1,true,t.2.2.2.1++[pr (t.1,t.2.1)]++[pr q],some<|.d<|pr q) ⟨by refine(ys iW)▸(ys iW)▸?_;exact a6 z.1,by rw[List.append_assoc,List.append_assoc];exact u⟩⟩
    ·have e:t.2.2.1=true:=by simpa using e
     rw[if_pos e] at u;exact⟨a3 z.1 B,hn.n (t.1,t.2.1,t.2.2.1,t.2.2.2.1++[pr q],some<|.d<|pr q) ⟨by refine(ys iW)▸?_;exact a5 z.1,by rw[List.append_assoc,e];exact u⟩⟩
   ·rw[if_neg h] at u;exact hn.n (min t.1 q.1,max t.2.1 q.2,t.2.2.1,t.2.2.2.1,some<|.d<|pr q) ⟨a4 z.1,u⟩
noncomputable def cu(l:List (Int×Int))(n:Int):Bool:=l.any λq=>decide (q.1<=n)&&decide (n<=q.2)
theorem l5{n:Nat}(h:n<1000):n<=100000:=Nat.le_of_lt (Nat.lt_trans h<|by decide)
theorem dec2{p q:Prop}[Decidable p][Decidable q](h:p):PV.d (.bool (decide q))=PV.d (.bool (decide p&&decide q)):=by refine(ys<|decide_eq_true h)▸?_;rfl
theorem dec1{p q:Prop}[Decidable p][Decidable q](h:¬p):PV.d (.bool (decide p))=PV.d (.bool (decide p&&decide q)):=by refine(ys<|decide_eq_false h)▸?_;rfl
theorem FH{u:Type}{l:List u}{g:u->Bool}:((l.filter λU=>true).map λx=>DV.bool (g x))=(l.map g).map .bool:=by rw[gg,List.map_map];rfl
theorem Dq{u:Type}{l:List u}{g:u->Bool}:(l.map g).any id=l.any g:=by rw[List.any_map];rfl
theorem iH(G:Gd C)(mem)(J:aN mem)(l:List (Int×Int))(n:Int)(I:l.length<1000):Fd C 1 (.ref 161) [.d (.seq (de l)),.d (.int n)] mem (.d (.bool (cu l n))) mem:=by
 refine aX G (aT G) ["ranges","n"] 2 (by kernel_rfl) rfl rfl (by ac_rfl) trivial J λA L W Q B=>d7 W cJ (own:=["low","high"]) (caps:=["n"]) (by kernel_rfl) pr (λU=>true) (λq=>.bool<|decide (q.1<=n)&&decide (n<=q.2)) l (l5 I) ⟨bZ W.hh rfl,rfl⟩ (λD S q O V u1 acc t u Y N z hN=>?_)<|λt u=>?_
 ·exact⟨rfl,bL (λh=>z [_,_] rfl (dec2 h) u) λh=>z [_,_] rfl (dec1 h) u⟩
 ·exact Am W.hh _ FH<|B (FP Dq) rfl
theorem lj(G:Gd C)(mem)(u:aN mem)(x:aM):Fd C 2 (.ref 440) [.d (b8 x)] mem (.d (.bool true)) mem:=by
 refine aX G (aT G) ["f"] 1 (by kernel_rfl) rfl rfl (by ac_rfl) trivial u λA L W Q z=>?_;cases x<;>exact z rfl rfl
theorem iG(G:Gd C)(mem)(u:aN mem)(x:aM):Fd C 2 (.ref 447) [.d (b8 x)] mem (.d (.bool true)) mem:=by
 refine aX G (aT G) ["f"] 1 (by kernel_rfl) rfl rfl (by ac_rfl) trivial u λA L W Q z=>?_;cases x<;>exact z rfl rfl
theorem yT{l:List aM}:(!ez ((l.filter λU=>true).map b8) [])= !l.isEmpty:=by rw[gg,lJ];cases l<;>rfl
theorem kg(G:Gd C)(mem)(z:aN mem)(l:List aM)(J:l.length<1000):Fd C 3 (.ref 452) [.d (.seq (l.map b8))] mem (.d (.bool (!l.isEmpty))) mem:=by
 refine aX G (gH G) ["row"] 1 (by kernel_rfl) rfl rfl (by ac_rfl) trivial z λA L W Q B=>d7 W cJ (own:=["f"]) (caps:=[]) (by kernel_rfl) b8 (λU=>true) b8 l (l5 J) ⟨bZ W.hh rfl,rfl⟩ (λD O q S V acc t u Y N I hN=>?_)<|λt u=>?_
 ·exact aI O (lj G mem z q) rfl rfl z (jS u) rfl ⟨rfl,I [_] rfl rfl u⟩
 ·exact jE (n:=6) (.inl rfl) (.inl rfl) (W.r.room<|by decide) (B (FP yT) rfl) λU=>jD
theorem kb(G:Gd C)(mem)(z:aN mem)(l:List aM)(J:l.length<1000):Fd C 3 (.ref 457) [.d (.seq (l.map b8))] mem (.d (.bool (!l.isEmpty))) mem:=by
 refine aX G (gH G) ["row"] 1 (by kernel_rfl) rfl rfl (by ac_rfl) trivial z λA L W Q B=>d7 W cJ (own:=["f"]) (caps:=[]) (by kernel_rfl) b8 (λU=>true) b8 l (l5 J) ⟨bZ W.hh rfl,rfl⟩ (λD O q S V acc t u Y N I hN=>?_)<|λt u=>?_
 ·exact aI O (iG G mem z q) rfl rfl z (jS u) rfl ⟨rfl,I [_] rfl rfl u⟩
 ·exact jE (n:=6) (.inl rfl) (.inl rfl) (W.r.room<|by decide) (B (FP yT) rfl) λU=>jD
theorem jb(G:Gd C)(mem:aQ)(u:aN mem)(n t z:Int)(l:List aM)(B:l.length<1000):Fd C 4 (.ref 471) [.at (.sk 99),.d (.int n),.d (.int t),.d (.int z),.d (.seq (l.map b8))] (mem.set 99 (.inst 474 [])) (.d .none) (mem.set 99 (.inst 474 ((tX n t z l).map λp=>(p.1,PV.d p.2)))):=by
 refine aX G (aT G) ["self","number","time","size","frames"] 5 (by kernel_rfl) rfl rfl (by ac_rfl) trivial (aF u rfl) λA L W Q I=>aI W (kg G _ ?_ l B) rfl rfl ?_ aK rfl ?_
 iterate 2 exact aF (aF (aF (aF (aF u rfl) rfl) rfl) rfl) rfl
 refine aI W (kb G _ ?_ l B) rfl rfl ?_ aK rfl ?_
 iterate 2 exact aF (aF (aF (aF (aF (aF u rfl) rfl) rfl) rfl) rfl) rfl
 refine I rfl ?_;show aQ.set (aQ.set (aQ.set (aQ.set (aQ.set (aQ.set (mem.set 99 _) 99 _) 99 _) 99 _) 99 _) 99 _) 99 _=_;rw[fK,fK,fK,fK,fK,fK];rfl
theorem mS(G:Gd C)(mem:aQ)(B:aN mem)(u:mem 99=none)(hn:∀n o,mem n=some (some o)->o.Iq (λk=>k != .sk 99)=true)(n t z:Int)(l:List aM)(I:l.length<1000):
  Fd C 5 (.ref 474) [.d (.int n),.d (.int t),.d (.int z),.d (.seq (l.map b8))] mem (.d (.inst 474 (tX n t z l))) mem:=
 B3 G (fI:=471) (j:=99) (fs:=tX n t z l) (by kernel_rfl) u hn (jb G mem B n t z l I) ⟨rfl,rfl⟩
end
end
section
section
variable {C:Cx}
theorem ms{m:aQ}{l:List (Option PO)}(h:m=eG l):aQ.set m j o=eG (mt l j (some o)):=by refine(ys h)▸?_;exact vr
theorem eB(G:Gd C)(S:St):Fd C 1 (.ref 69) [.at (.sk 6)] (aJ S) (.d (.int (S.HI.s8.fdiv 8))) (aJ S):=by
 exact aX G (aT G) ["self"] 1 (by kernel_rfl) rfl rfl (by ac_rfl) trivial (aB S) λA L W Q u=>⟨by decide,rfl,u rfl rfl⟩
theorem nf(G:Gd C)(S:St):Fd C 2 (.ref 90) [.at (.sk 6)] (aJ S) (.d (.int (S.HI.s8.fdiv 8+max S.HI.v4 1000))) (aJ S):=by
 exact aX G (aT G) ["self"] 1 (by kernel_rfl) rfl rfl (by ac_rfl) trivial (aB S) λA L W Q u=>aI W (eB G S) rfl rfl (aB S) aK rfl<|u rfl rfl
noncomputable def fX(r:vE)(He delay now:Int):vE:=match r.first with
 |none=>⟨He,He,8*He,2*He,some now⟩
 |some f=>⟨He,min r.least He,r.s8-r.s8.fdiv 8+dN He (min r.least He) delay,
   r.v4-r.v4.fdiv 4+(if r.s8.fdiv 8-dN He (min r.least He) delay<0 then-(r.s8.fdiv 8-dN He (min r.least He) delay) else r.s8.fdiv 8-dN He (min r.least He) delay),some f⟩
theorem xe(G:Gd C)(S:St)(a b n:Int):Fd C 3 (.ref 83) [.at (.sk 6),.d (.int a),.d (.int b),.d .none,.d (.int n)] (aJ S) (.d .none) (aJ {S with HI:=fX S.HI a b n}):=by
 revert G;revert C S a b n;exists ce λC=>em λS=>aA λa=>aA λb=>aA λn=>aO _;intro C S a b n G;obtain⟨lam,sp,Hk,⟨N,u,J,I,O⟩,HB,log,Hq,probe,Hc,Hg,hw,Hf,B,Hr,Hi,Hm,Hn,ps⟩:=S;cases O with
 | none=>
  exact aX G (aT G) ["self","latest","ack_delay","most_delay","now","adjusted","apart"] 5 (by kernel_rfl) rfl rfl (by ac_rfl) trivial (aB _) λA L W Q z=>⟨.of_left (by decide),.of_left (by decide),z rfl<|ms<|ms<|ms<|ms<|ms rfl⟩
 | some t=>
  refine aX G (aT G) ["self","latest","ack_delay","most_delay","now","adjusted","apart"] 5 (by kernel_rfl) rfl rfl (by ac_rfl) trivial (aB _) λA L W Q z=>aI W (kt G (aJ ⟨lam,sp,Hk,⟨a,min u a,J,I,some t⟩,HB,log,Hq,probe,Hc,Hg,hw,Hf,B,Hr,Hi,Hm,Hn,ps⟩) (aB _) a (min u a) b) rfl (ms<|ms rfl) (aB _) aK rfl ?_;exact aI W (eB G ⟨lam,sp,Hk,⟨a,min u a,J,I,some t⟩,HB,log,Hq,probe,Hc,Hg,hw,Hf,B,Hr,Hi,Hm,Hn,ps⟩) rfl rfl (aB _) aK rfl<|⟨by decide,rfl,by decide,rfl,z rfl<|ms<|ms rfl⟩
theorem qq(G:Gd C)(S:St)(z:Int):Fd C 1 (.ref 362) [.at (.sk 7),.d (.int z)] (aJ S) (.d (.bool (decide (S.HB.Ht+z<=S.HB.H4)))) (aJ S):=by
 exact aX G (aT G) ["self","size"] 2 (by kernel_rfl) rfl rfl (by ac_rfl) trivial (aB S) λA L W Q u=>u rfl rfl
noncomputable def CC(q:pw)(t:Int):Bool:=match q.ID with
 |none=>false
 |some r=>decide (t<=r)
theorem gV(G:Gd C)(S:St)(t:Int):Fd C 1 (.ref 376) [.at (.sk 7),.d (.int t)] (aJ S) (.d (.bool (CC S.HB t))) (aJ S):=by
 obtain⟨lam,sp,Hk,HI,⟨H4,z,B,Ht,IT⟩,log,Hq,probe,Hc,Hg,hw,Hf,I,Hr,Hi,Hm,Hn,ps⟩:=S;cases B with
 | none=>
  exact aX G (aT G) ["self","sent_at"] 2 (by kernel_rfl) rfl rfl (by ac_rfl) trivial (aB _) λA L W Q u=>u rfl rfl
 | some r=>
  exact aX G (aT G) ["self","sent_at"] 2 (by kernel_rfl) rfl rfl (by ac_rfl) trivial (aB _) λA L W Q u=>u rfl rfl
theorem rc(G:Gd C)(S:St)(z:Int):Fd C 1 (.ref 383) [.at (.sk 7),.d (.int z)] (aJ S) (.d .none) (aJ {S with HB:={S.HB with Ht:=S.HB.Ht+z}}):=by
 exact aX G (aT G) ["self","size"] 2 (by kernel_rfl) rfl rfl (by ac_rfl) trivial (aB _) λA L W Q u=>u rfl<|ms rfl
theorem ot(G:Gd C)(S:St)(z t n B:Int):Fd C 2 (.ref 397) [.at (.sk 7),.d (.int z),.d (.int t),.d (.bool false),.d (.int n),.d (.int B)] (aJ S) (.d .none) (aJ {S with HB:={S.HB with Ht:=S.HB.Ht-z}}):=by
 exact aX G (aT G) ["self","size","sent_at","is_limited","now","smoothed"] 6 (by kernel_rfl) rfl rfl (by ac_rfl) trivial (aB _) λA L W Q u=>aI W (gV G {S with HB:={S.HB with Ht:=S.HB.Ht-z}} t) rfl (ms rfl) (aB _) aK rfl<|eC (λU=>u rfl rfl) λU=>u rfl rfl
noncomputable def jk(r:pw)(t n:Int):pw:=if CC r t=true then r else⟨max ((r.H4*1).fdiv 2) (2*1200),some (max ((r.H4*1).fdiv 2) (2*1200)),some n,r.Ht,0⟩
theorem ni(G:Gd C)(S:St)(t n:Int):Fd C 2 (.ref 411) [.at (.sk 7),.d (.int t),.d (.int n)] (aJ S) (.d .none) (aJ {S with HB:=jk S.HB t n}):=by
 revert G;revert C S t n;exists ce λC=>em λS=>aA λt=>aA λn=>aO _;intro C S t n G;refine aX G (aT G) ["self","sent_at","now"] 3 (by kernel_rfl) rfl rfl (by ac_rfl) trivial (aB _) λA L W Q u=>?_;revert W u;revert A L Q;exists cx λA=>aA λL=>aA λQ=>aO _;intro A L Q W u;refine aI W (gV G S t) rfl rfl (aB _) aK rfl<|eC (λe=>?_) λe=>?_
 ·exact u rfl (by rw[show jk S.HB t n=S.HB from if_pos e])
 ·refine⟨.of_right (by decide),by decide,rfl,?_⟩;exact aI W (lp G (aJ {S with HB:={S.HB with ID:=some n,IT:=0}}) (aB _) 1200) rfl (ms<|ms rfl) (aB _) aK rfl<|u rfl (by rw[show jk S.HB t n=_ from if_neg (by rw[e];exact Bool.false_ne_true)];exact ms<|ms rfl)
noncomputable def gq(r:pw)(z:Int)(nw:Option Int)(n:Int):pw:=match nw with
 |none=>{r with Ht:=r.Ht-z}
 |some t=>jk {r with Ht:=r.Ht-z} t n
theorem qh(G:Gd C)(S:St)(z:Int)(u:Option Int)(n:Int):Fd C 3 (.ref 418) [.at (.sk 7),.d (.int z),.d (jT u),.d (.int n)] (aJ S) (.d .none) (aJ {S with HB:=gq S.HB z u n}):=by
 revert G;revert C S z u n;exists ce λC=>em λS=>aA λz=>aA λu=>aA λn=>aO _;intro C S z u n G;cases u with
 | none=>
  exact aX G (aT G) ["self","size","newest","now"] 4 (by kernel_rfl) rfl rfl (by ac_rfl) trivial (aB _) λA L W Q B=>B rfl<|ms rfl
 | some t=>
  exact aX G (aT G) ["self","size","newest","now"] 4 (by kernel_rfl) rfl rfl (by ac_rfl) trivial (aB _) λA L W Q B=>aI W (ni G {S with HB:={S.HB with Ht:=S.HB.Ht-z}} t n) rfl (ms rfl) (aB _) aK rfl<|B rfl rfl
theorem mj(G:Gd C)(S:St):Fd C 1 (.ref 534) [.at (.sk 4)] (aJ S) (.d (.int (S.sp.HK+1-1))) (aJ {S with sp:={S.sp with HK:=S.sp.HK+1}}):=by
 exact aX G (aT G) ["self"] 1 (by kernel_rfl) rfl rfl (by ac_rfl) trivial (aB _) λA L W Q u=>u rfl<|ms rfl
theorem jj(G:Gd C)(S:St)(r:Int×Int)(l:List (Int×Int))(z:l.length<999):Fd C 1 (.ref 567) [.at (.sk 4),.d (.seq (de (r::l)))] (aJ S) (.d (.bool (decide (S.sp.HK<=r.2)))) (aJ S):=by
 exact aX G (aT G) ["self","ranges"] 2 (by kernel_rfl) rfl rfl (by ac_rfl) trivial (aB _) λA L W Q u=>⟨lt5 (l:=r::l)<|Nat.succ_lt_succ z,bL (λU=>u rfl rfl) λh=>absurd (Int.natCast_pos.mpr<|Nat.succ_pos _) h⟩
noncomputable def et(l:Option Int)(n:Int):Option Int:=match l with
 |none=>some n
 |some m=>if m<n then some n else some m
theorem li(G:Gd C)(S:St)(n:Int):Fd C 1 (.ref 574) [.at (.sk 4),.d (.int n)] (aJ S) (.d .none) (aJ {S with sp:={S.sp with largest:=et S.sp.largest n}}):=by
 obtain⟨lam,⟨Hd,HK,largest,G9,Ix,Ii⟩,Hk,HI,HB,log,Hq,probe,Hc,Hg,hw,Hf,z,Hr,Hi,Hm,Hn,ps⟩:=S;cases largest with
 | none=>
  exact aX G (aT G) ["self","number"] 2 (by kernel_rfl) rfl rfl (by ac_rfl) trivial (aB _) λA L W Q u=>u rfl<|ms rfl
 | some k=>
  refine aX G (aT G) ["self","number"] 2 (by kernel_rfl) rfl rfl (by ac_rfl) trivial (aB _) λA L W Q u=>bL (λh=>u rfl ?_) λh=>u rfl ?_
  ·refine(ys<|show et (some k) n=some n from if_pos h)▸?_;exact ms rfl
  ·exact(ys<|show et (some k) n=some k from if_neg h)▸rfl
end
end
section
section
noncomputable def Hu(l:List (Int×List aM)):List Int:=l.map (·.1)
theorem cy(l:List (Int×List aM)):(Hu l).length=l.length:=List.length_map ..
noncomputable def cU(l:List (Int×List aM)):Prop:=(Hu l).Pairwise (· < ·)
theorem Da{j:Int}(h:j<i):(i==j)=false:=beq_eq_false_iff_ne.mpr<|Int.ne_of_gt h
theorem mn:∀(f:Int×List aM->DV){l:List (Int×List aM)}{q:Int×List aM}(u:cU l)(z:q∈l),(l.map λq=>(q.1,f q)).lookup q.1=some (f q):=by
 intro f l q u z
 induction l with
 |nil=>cases z
 | cons x l B=>
  have u:=List.pairwise_cons.mp<|show(x.1::Hu l).Pairwise (· < ·) from u
  rw[List.map_cons,List.lookup_cons];rcases List.mem_cons.mp z with rfl|hq'
  ·rw[beq_self_eq_true]
  ·refine(ys<|Da<|u.1 q.1<|List.mem_map_of_mem hq')▸?_;exact B u.2 hq'
theorem kR{l:List (Int×List aM)}(z:cU l)(u:q∈l):(cV l).lookup q.1=some (mO q):=mn mO z u
theorem wQ(l:List (Int×List aM))(n:Int):mM (cV l) n=cV (l.filter λq=>decide (q.1≠n)):=by
 unfold mM cV;rw[List.filter_map];rfl
theorem eP(l:List (Int×List aM)):(cV l).length=l.length:=List.length_map ..
theorem s4(l:List (Int×List aM)):((cV l).map λp=>DV.int p.1)=(Hu l).map .int:=by unfold cV Hu;refine(ys List.map_map)▸(ys List.map_map)▸?_;rfl
theorem xA(f:Int×List aM->DV){l:List (Int×List aM)}(h:q.1∉Hu l):iS (l.map λq=>(q.1,f q)) q.1 (f q)=(l++[q]).map λq=>(q.1,f q):=by
 unfold iS;rw[if_neg,List.map_append]; · rfl
 intro e;refine aG (List.any_eq_true.mp e) λx z e=>aG (List.mem_map.mp z) λy B u=>?_;clear z;subst u;exact h<|(show y.1=q.1 from of_decide_eq_true e)▸List.mem_map_of_mem B
theorem vR{l:List (Int×List aM)}(h:q.1∉Hu l):iS (cV l) q.1 (mO q)=cV (l++[q]):=xA mO h
theorem AA:∀{l r}(h:cU (l++r)),cU l/\cU r/\∀q∈r,q.1∉Hu l:=by
 intro l r h;unfold cU Hu at h;rw[List.map_append,List.pairwise_append] at h;exact⟨h.1,h.2.1,λq z u=>Int.lt_irrefl _<|h.2.2 q.1 u q.1<|List.mem_map_of_mem z⟩
theorem l6{n:Nat}(h:n<60):n<=100000:=Nat.le_of_lt (Nat.lt_trans h<|by decide)
theorem Cd{n:Nat}(h:n<60):n<64:=Nat.lt_trans h (by decide)
variable {C:Cx} {A:Around} {f:Fc} {σ:aC}
theorem pe(z:A.handled=none){K:Ky}{l:List (Int×List aM)}(u:σ.get K=some (.G7 (cV l)))(B:l.length<60)(q:Q (.d (.seq ((Hu l).map .int))) σ):Cl C A f (.type "list") [.at K] σ Q:=
 rJ z u rfl (by rw[eP];exact l6 B) (by rw[s4];exact q)
theorem jG{ns:List Int}(z:ns.length<60)(u:ns.Pairwise (· < ·))(q:Q (.d (.seq (ns.map .int))) σ):Cl C A f (.builtin "sorted") [.d (.seq (ns.map .int))] σ Q:=iY ns ns rfl (Cd z) (.refl _) (u.imp Int.le_of_lt) q
theorem l1(G:Gd C)(mem)(z:aN mem)(ns:List Int)(l:List (Int×Int))(hn:ns.length<60)(I:ns.Pairwise (· < ·))(O:l.length<1000):Fd C 3 (.ref 166) [.d (.seq (ns.map .int)),.d (.seq (de l))] mem (.d (.seq ((ns.filter (cu l)).map .int))) mem:=by
 refine aX G (aT G) ["sent_numbers","ranges"] 2 (by kernel_rfl) rfl rfl (by ac_rfl) trivial z λA L W Q B=>d7 W cJ (own:=["n"]) (caps:=["ranges"]) (by kernel_rfl) DV.int (cu l) DV.int ns (l6 hn) ⟨bZ W.hh rfl,rfl⟩ (λD S q U V acc t u Y N J hN=>?_)<|λt u=>?_
 ·exact aI S (iH G mem z l q O) rfl rfl z (jS u) rfl<|eC (λe=>⟨e,J [_] rfl rfl u⟩) λe=>⟨e,hN [_] rfl u⟩
 ·exact jG (Nat.lt_of_le_of_lt (List.length_filter_le ..) hn) (I.sublist List.filter_sublist)<|B rfl rfl
theorem qk(G:Gd C)(S:St)(l:List (Int×Int))(hn:S.sp.Hd.length<60)(z:cU S.sp.Hd)(B:l.length<1000):Fd C 4 (.ref 553) [.at (.sk 4),.d (.seq (de l))] (aJ S) (.d (.seq (((Hu S.sp.Hd).filter (cu l)).map .int))) (aJ S):=by
 exact aX G (aT G) ["self","ranges"] 2 (by kernel_rfl) rfl rfl (by ac_rfl) trivial (aB S) λA L W Q u=>pe W.hh rfl hn (aI W (l1 G (aJ S) (aB S) (Hu S.sp.Hd) l (by rw[cy];exact hn) z B) rfl rfl (aB S) aK rfl<|u rfl rfl)
theorem mr:∀(l:List (Int×Int))(a b:Int)(u:Bool),(eI l a b u).length<=l.length+(if u=true then 0 else 1):=λl=>by
 induction l with
 | nil=>
  intro a b u;cases u<;>exact Nat.le_refl _
 | cons q r z=>
  intro a b u;unfold eI
  split
  ·have:=Nat.succ_le_succ<|z a b u;rw[List.length_cons,List.length_cons,Nat.add_right_comm];exact this
  ·split
   ·split
    ·have:=Nat.succ_le_succ<|z a b true;rw[List.length_cons,List.length_cons,Nat.add_right_comm];exact this
    ·have:=Nat.succ_le_succ<|Nat.succ_le_succ<|z a b true;rw[List.length_cons,List.length_cons,List.length_cons];exact this
   ·have:=Nat.le_succ_of_le<|z (min a q.1) (max b q.2) u;rw[List.length_cons,Nat.add_right_comm];exact this
noncomputable def fh(l:List (Int×Int))(n:Int):List (Int×Int):=eI l n n false
noncomputable def mu(S:St)(l:List (Int×Int)):St:={S with sp:={S.sp with G9:=l}}
theorem nI{l:List (Int×Int)}{n:Int}{r:Nat}(h:l.length+(r+1)<=60):(fh l n).length+r<=60:=Nat.le_trans (Nat.add_le_add_right (mr l n n false) r) (by rw[Nat.add_assoc,Nat.add_comm (if false=true then 0 else 1)];exact h)
theorem n1{a r:Nat}(h:a+r<=60):a<1000:=Nat.lt_of_le_of_lt (Nat.le_trans (Nat.le_add_right _ _) h) (by decide)
theorem n2{a r:Nat}(h:a+r<=60):a<=64:=Nat.le_trans (Nat.le_trans (Nat.le_add_right _ _) h) (by decide)
theorem na(G:Gd C)(S:St)(ns:List Int)(hn:S.sp.G9.length+ns.length<=60):Fd C 3 (.ref 560) [.at (.sk 4),.d (.seq (ns.map .int))] (aJ S) (.d .none) (aJ (mu S (ns.foldl fh S.sp.G9))):=by
 refine aX G (aT G) ["self","numbers","number"] 2 (by kernel_rfl) rfl rfl (by ac_rfl) trivial (aB _) λA L W Q z=>fW W DV.int (λt:List (Int×Int)×Option PV=>⟨[some (.at (.sk 4)),some<|.d<|.seq<|ns.map .int,t.2],[],aJ<|mu S t.1⟩)
  (λr t=>t.1.length+r.length<=60/\r.foldl fh t.1=ns.foldl fh S.sp.G9) ns (S.sp.G9,none) ⟨hn,rfl⟩ (λt h=>jM W<|z rfl<|by refine h.2▸?_;rfl) (λx r t u I hn B=>?_) ⟨rfl,rfl⟩
 refine aI W (ng G _ (aB _) t.1 x<|n1 u.1) rfl rfl (aB _) aK rfl<|aI W (lN G _ (aB<|mu S t.1) (de<|fh t.1 x)<|by rw[iX];exact n2<|nI u.1) rfl rfl (aB _) aK rfl ?_;exact hn.n (fh t.1 x,some<|.d<|.int x) ⟨nI u.1,u.2⟩<|ms rfl
noncomputable def ck(t:List (Int×List aM))(q:Int×List aM):List (Int×List aM):=t.filter λx=>decide (x.1≠q.1)
noncomputable def oA(S:St)(l:List (Int×List aM)):St:={S with sp:={S.sp with Hd:=l}}
noncomputable def Bo(r t:List (Int×List aM)):Prop:=cU t/\cU r/\(∀q∈r,q∈t)/\t.length<60
theorem Bo.cons:∀{x r t}(h:Bo (x::r) t),Bo r (ck t x):=by
 intro x r t h;have z:=List.pairwise_cons.mp<|show(x.1::Hu r).Pairwise (· < ·) from h.2.1
 exact⟨.sublist (.map _ List.filter_sublist) h.1,z.2,λq u=>List.mem_filter.mpr ⟨h.2.2.1 q<|.tail _ u,decide_eq_true<|Int.ne_of_gt<|z.1 q.1<|List.mem_map_of_mem u⟩,Nat.lt_of_le_of_lt (List.length_filter_le ..) h.2.2.2⟩
theorem An:∀(a b:List (Int×List aM)),ej (λU U=>true) (λU q=>mO q) ck a b=a.map mO:=λa=>by
 induction a with
 | nil=>
  intro U;exact rfl
 | cons x a u=>
  intro b;rw[ej,u];rfl
theorem ua(G:Gd C)(S:St)(l:List (Int×List aM))(ha:cU S.sp.Hd)(I:cU l)(hm:∀q∈l,q∈S.sp.Hd)(Z:S.sp.Hd.length<60)(z:l.length<60):
  Fd C 3 (.ref 546) [.at (.sk 4),.d (.seq ((Hu l).map .int))] (aJ S) (.d (.seq (l.map mO))) (aJ (oA S (l.foldl ck S.sp.Hd))):=by
 refine aX G (aT G) ["self","numbers","found"] 2 (by kernel_rfl) rfl rfl (by ac_rfl) trivial (aB _) λA L W Q O=>qa W cJ (own:=["number"]) (caps:=["self"]) (by kernel_rfl) (λq:Int×List aM=>.int q.1) (λt=>aJ<|oA S t) (λU U=>true) (λU q=>mO q) ck Bo l S.sp.Hd 2 (l6 z) ⟨ha,I,hm,Z⟩ ?_ (λD Wc x r t B=>⟨λu0 acc tt J Y N V hN=>?_,B.cons⟩)<|λtt J=>O (zW<|An _ _) rfl
 ·exact jG (by rw[cy];exact z) I ⟨by unfold Hu;refine(ys List.map_map)▸?_;rfl,rfl,rfl⟩
 ·have u:=kR B.1<|B.2.2.1 x<|.head _
  refine AU true (po:=.G7<|cV t) rfl rfl (by refine(ys u)▸?_;rfl) ⟨rfl,?_⟩;refine y7 Wc (K:=.sk 10) (l0:=cV t) rfl (jx _ _ _ rfl rfl u (by rw[eP];exact l6 B.2.2.2) ?_);exact V.me [some (.d<|.int x.1)] rfl rfl J (ms rfl|>.trans (by rw[wQ];rfl))
end
end
section
section
variable {C:Cx}
noncomputable def ke(q:Int×List aM):DV:=.tup [.int q.1,.int (100+q.1),.bool (!q.2.isEmpty),.bool (!q.2.isEmpty)]
noncomputable def dG(l:List (Int×List aM)):List (Int×DV):=l.map λq=>(q.1,ke q)
theorem jF(l:List (Int×List aM)):(dG l).length=l.length:=List.length_map ..
theorem fJ{l:List (Int×List aM)}(z:cU l)(u:q∈l):(dG l).lookup q.1=some (ke q):=mn ke z u
theorem AR{u:Type}{a b c:List u}(h:a++b=c):a.length<=c.length:=by rw[<-h,List.length_append];exact Nat.le_add_right _ _
theorem ow(G:Gd C)(S:St)(u:cU S.sp.Hd)(B:S.sp.Hd.length<60):Fd C 3 (.ref 595) [.at (.sk 4)] (aJ S) (.d (.G7 (dG S.sp.Hd))) (aJ S):=by
 revert G u B;revert C S;exists ce λC=>em λS=>aO _;intro C S G u B;refine aX G (aT G) ["self","found","number","packet"] 1 (by kernel_rfl) rfl rfl (by ac_rfl) trivial (aB _) λA L W Q I=>wp G<|uz (k:=.sk 10) (l:=cV S.sp.Hd) rfl λo=>?_
 refine Dy W (λq:Int×List aM=>.int q.1) (λt:List (Int×List aM)×Option PV×Option PV=>⟨[some (.at (.sk 4)),some<|.at (.tm 0),t.2.1,t.2.2],[some (.G7<|dG t.1)],aQ.set (aJ S) 10<|.Hz o<|cV S.sp.Hd⟩)
  (λr t=>t.1++r=S.sp.Hd) S.sp.Hd ([],none,none) rfl (λt h=>⟨rfl,?_⟩) (λq r t h N hn J=>?_) ⟨(aD _ (wg W.hh rfl<|nZ _)<|λU=>rfl),rfl⟩
 ·refine(ys<|show t.1=S.sp.Hd from(List.append_nil _).symm.trans h)▸?_;exact hU W 0 (.G7<|dG S.sp.Hd) [some (.at (.sk 4)),some<|.d<|.G7<|dG S.sp.Hd,_,_] rfl rfl rfl<|I rfl<|fK.trans yZ
 ·have z:(cV S.sp.Hd).lookup q.1=some (mO q):=kR u (by refine h▸?_;exact List.mem_append_right _<|.head _);refine to (po:=.Hz o<|cV S.sp.Hd) (l:=cV S.sp.Hd) (mO q) rfl rfl z<|gW (dG t.1) (dG<|t.1++[q]) rfl (by rw[jF];exact l6<|Nat.lt_of_le_of_lt (AR h) B) (xA ke<|(AA<|h▸u).2.2 _<|.head _) ?_;exact hn.n (t.1++[q],some<|.d<|.int q.1,some<|.d<|mO q) (by rw[List.append_assoc];exact h)
noncomputable def ug(S:St)(q:Int×List aM):St:={S with sp:={S.sp with Hd:=S.sp.Hd++[q],Ix:=.int q.1}}
theorem tH(G:Gd C)(S:St)(n:Int)(fs:List aM)(hn:n∉Hu S.sp.Hd)(z:S.sp.Hd.length<60)(I:fs.isEmpty=false)(B:fs.length<1000):
  Fd C 6 (.ref 541) [.at (.sk 4),.d (.int n),.d (.int n),.d (.int (100+n)),.d (.seq (fs.map b8))] (aJ S) (.d (mO (n,fs))) (aJ (ug S (n,fs))):=by
 refine aX G (aT G) ["self","number","now","size","frames","packet"] 5 (by kernel_rfl) rfl rfl (by ac_rfl) trivial (aB _) λA L W Q u=>aI W (mS G (aJ S) (aB _) rfl (yi _) n n (100+n) fs B) rfl rfl (aB _) aK rfl ?_;exact gW (cV S.sp.Hd) (cV<|S.sp.Hd++[(n,fs)]) rfl (by rw[eP];exact l6 z) (vR (q:=(n,fs)) hn)<|nO (by refine(ys I)▸?_;rfl)<|u rfl<|ms<|ms rfl
noncomputable def bW(l:List (Int×List aM)):Int:=(l.map λq=>100+q.1).sum
theorem iq(l:List (Int×List aM)):(Hu l).map DV.int=l.map λq=>DV.int q.1:=List.map_map ..
theorem mx(G:Gd C)(mem)(V:aN mem)(T l:List (Int×List aM))(Z:cU T)(B:∀q∈l,q∈T/\q.2.isEmpty=false)(S:l.length<60):Fd C 3 (.ref 130) [.d (.G7 (dG T)),.d (.seq ((Hu l).map .int))] mem (.d (.int (bW l))) mem:=by
 refine aX G (aT G) ["sent","numbers"] 2 (by kernel_rfl) rfl rfl (by ac_rfl) trivial V λA L W Q J=>d7 W cJ (own:=["number"]) (caps:=["sent"]) (by kernel_rfl) (λq:Int×List aM=>.int q.1) (λU=>true) (λq=>.int<|100+q.1) l (l6 S) ⟨bZ W.hh<|zW<|iq l,rfl⟩ (λD Wc q z u0 acc t I Y N O hN=>?_)<|λt I=>?_
 ·have u:=fJ Z (B _ z).1;exact cQ (ke q) u (nO (by refine(ys<|(B _ z).2)▸?_;rfl) ⟨rfl,cQ (ke q) u<|O [_] rfl rfl I⟩)
 ·exact vd W.hh (l.map λq=>100+q.1) (by rw[gg,List.map_map];rfl)<|J rfl rfl
noncomputable def tI(l:List (Int×List aM)):Option Int:=l.foldl (λf q=>et f q.1) none
theorem mq(G:Gd C)(mem)(S:aN mem)(T l:List (Int×List aM))(Z:cU T)(O:∀q∈l,q∈T/\q.2.isEmpty=false)(hz:l.length<60):Fd C 3 (.ref 125) [.d (.G7 (dG T)),.d (.seq ((Hu l).map .int))] mem (.d (jT (tI l))) mem:=by
 revert G S Z O hz;revert C mem T l;exists ce λC=>aA λmem=>aA λT=>aA λl=>aO _;intro C mem T l G S Z O hz;refine aX G (aT G) ["sent","numbers","found","number"] 2 (by kernel_rfl) rfl rfl (by ac_rfl) ((by unfold jT;split<;>trivial)) S λA L W Q N=>?_;revert W N;revert A L Q;exists cx λA=>aA λL=>aA λQ=>aO _;intro A L Q W N;refine fW W (λq:Int×List aM=>.int q.1) (λt:Option Int×Option PV=>⟨[some (.d<|.G7<|dG T),some<|.d<|.seq<|(Hu l).map .int,some<|.d<|jT t.1,t.2],[],mem⟩)
  (λr t=>(∀q∈r,q∈l)/\r.foldl (λf q=>et f q.1) t.1=tI l) l (none,none) ⟨λU h=>h,rfl⟩ (λt h=>jM W<|N (by refine h.2▸?_;rfl) rfl) (λq r t z J hn hr=>?_) ⟨by rw[iq],rfl⟩
 revert z hn hr;revert q r t J;exists aA λq=>aA λr=>i7 ⟨Option Int×Option PV,(b_oi.d,default)⟩ λt=>aA λJ=>aO _;intro q r t J z hn hr;have I:=O q<|z.1 _<|.head _
 have B:=fJ Z I.1;have V:∀q∈r,q∈l:=λq I=>z.1 q<|.tail _ I
 obtain⟨fd,u⟩:=t;revert z;revert fd u;exists aA λfd=>aA λu=>aO _;intro fd u z;refine cQ (ke q) B (nO (by refine(ys I.2)▸?_;rfl) ?_);cases fd with
 |none=>exact cQ (ke q) B<|hn.n (some q.1,some<|.d<|.int q.1) ⟨V,z.2⟩
 | some m=>
  revert z;revert m;exists aA λm=>aO _;intro m z;refine cQ (ke q) B<|bL (λh=>cQ (ke q) B ?_) λh=>?_
  ·exact hn.n (some q.1,some<|.d<|.int q.1) ⟨V,by exact z.2▸(ys List.foldl_cons)▸(ys<|show et (some m) q.1=some q.1 from if_pos h)▸rfl⟩
  ·exact hn.n (some m,some<|.d<|.int q.1) ⟨V,by exact z.2▸(ys List.foldl_cons)▸(ys<|show et (some m) q.1=some m from if_neg h)▸rfl⟩
end
end
section
section
variable {C:Cx}
noncomputable def Eg:Option Int->Int->Option Int
 |none,x=>some x
 |some y,x=>if x<y then some x else some y
noncomputable def gJ(L now delay:Int):List Int->List Int->Option Int->List Int×Option Int
 |[],a,b=>(a,b)
 |n::r,a,b=>if L<n then gJ L now delay r a b else if eK n n L now delay=true then gJ L now delay r (a++[n]) b else gJ L now delay r a (Eg b (n+delay))
theorem b1{a r:Nat}(h:a+(r+1)<=60):a+r<=60:=Nat.le_of_succ_le h
theorem b2{l:List Int}{n:Int}{r:Nat}(h:l.length+(r+1)<=60):(l++[n]).length+r<=60:=by rw[List.length_append,Nat.add_assoc,Nat.add_comm _ r];exact h
theorem b3{l:List Int}{r:Nat}(h:l.length+(r+1)<=60):(l.map DV.int).length<=100000:=by rw[List.length_map];exact l6<|Nat.lt_of_lt_of_le (Nat.lt_of_lt_of_le (Nat.lt_add_of_pos_right<|Nat.succ_pos _) h)<|Nat.le_refl _
noncomputable abbrev Td:=List Int×Option Int×Option PV×Option PV
theorem lP(G:Gd C)(mem)(O:aN mem)(T:List (Int×List aM))(ha:cU T)(hz:T.length<60)(B now z:Int):Fd C 3 (.ref 118) [.d (.G7 (dG T)),.d (.int B),.d (.int now),.d (.int z)] mem
  (.d (.tup [.seq ((gJ B now z (Hu T) [] none).1.map .int),jT (gJ B now z (Hu T) [] none).2])) mem:=by
 revert G O ha hz;revert C mem T B now z;exists ce λC=>aA λmem=>aA λT=>aA λB=>aA λnow=>aA λz=>aO _;intro C mem T B now z G O ha hz;refine aX G (aT G) ["sent","largest","now","delay","lost","later","number","sent_at"] 4 (by kernel_rfl) rfl rfl (by ac_rfl) trivial O λA L W Q hQ=>?_;revert W hQ;revert A L Q;exists cx λA=>aA λL=>aA λQ=>aO _;intro A L Q W hQ;refine fW W (λq:Int×List aM=>.int q.1) (λt:Td=>⟨[some (.d<|.G7<|dG T),some<|.d<|.int B,some<|.d<|.int now,some<|.d<|.int z,some<|.at (.tm 0),some<|.d<|jT t.2.1,t.2.2.1,t.2.2.2],[some (.Ha<|t.1.map .int)],mem⟩)
  (λr t=>t.1.length+r.length<=60/\(∀q∈r,q∈T)/\gJ B now z (Hu r) t.1 t.2.1=gJ B now z (Hu T) [] none) T ([],none,none,none) ⟨by rw[List.length_nil,Nat.zero_add];exact Nat.le_of_lt hz,λU h=>h,rfl⟩ (λt h=>?_) (λq r t S Z hn hr=>?_) ?_
 ·refine hU W 0 (.seq<|t.1.map .int) [some (.d<|.G7<|dG T),some<|.d<|.int B,some<|.d<|.int now,some<|.d<|.int z,some<|.d<|.seq<|t.1.map .int,some<|.d<|jT t.2.1,_,_] rfl rfl rfl<|hQ ?_ rfl
  refine h.2.2▸?_;rfl
 ·revert S hn hr;revert q r t Z;exists aA λq=>aA λr=>aA λt=>aA λZ=>aO _;intro q r t Z S hn hr;obtain⟨acc,I,u,v⟩:=t;revert S;revert acc I u v;exists aA λacc=>aA λI=>aA λu=>aA λv=>aO _;intro acc I u v S;obtain⟨N,h2,J⟩:=S;have aa:=fJ ha<|h2 _<|.head _
  have V:∀q∈r,q∈T:=λq hq=>h2 q<|.tail _ hq
  have J:gJ B now z (q.1::Hu r) acc I=_:=J;rw[gJ.eq_2] at J;refine bL (λe=>?_) λe=>cQ (ke q) aa ?_
  ·rw[if_pos e] at J;exact hn.c (acc,I,some<|.d<|.int q.1,v) ⟨b1 N,V,J⟩
  ·rw [if_neg e] at J;refine aI W (ty G mem O q.1 q.1 B now z) rfl rfl O (jS aK) rfl<|eC (λe=>?_) λe=>?_
   ·rw[if_pos e] at J;exact⟨b3 N,hn.n (acc++[q.1],I,some<|.d<|.int q.1,some<|.d<|.int q.1) ⟨b2 N,V,J⟩ rfl rfl<|by refine(ys List.map_append)▸?_;rfl⟩
   ·rw[e,if_neg Bool.false_ne_true] at J;cases I with
    |none=>exact hn.n (acc,some<|q.1+z,some<|.d<|.int q.1,some<|.d<|.int q.1) ⟨b1 N,V,J⟩
    | some y=>
     refine bL (λe=>?_) λe=>?_
     ·exact hn.n (acc,some<|q.1+z,some<|.d<|.int q.1,some<|.d<|.int q.1) ⟨b1 N,V,by exact J▸(ys<|show Eg (some y) (q.1+z)=some (q.1+z) from if_pos e)▸rfl⟩
     ·exact hn.n (acc,some y,some<|.d<|.int q.1,some<|.d<|.int q.1) ⟨b1 N,V,by exact J▸(ys<|show Eg (some y) (q.1+z)=some y from if_neg e)▸rfl⟩
 ·exact lX W.hh (l:=dG T) (ns':=Hu T) (by rw[jF];exact Cd hz) (by unfold dG Hu;refine(ys List.map_map)▸?_;exact .refl _) (ha.imp Int.le_of_lt) ⟨by rw[iq],rfl⟩
theorem kT(a b:Int):∀l:List (Int×Int),(bI a b l).length<=2*l.length:=λl=>by
 induction l with
 | nil=>
  exact Nat.le_refl _
 | cons q r u=>
  have:=u;unfold bI;rw[List.length_append,List.length_append,List.length_cons,Nat.mul_succ,Nat.add_comm (2*_)];exact Nat.add_le_add (Nat.add_le_add (b:=1) (d:=1) (by split<;>first|exact Nat.le_refl 1|exact Nat.zero_le 1) (by split<;>first|exact Nat.le_refl 1|exact Nat.zero_le 1)) this
noncomputable def without(l o:List (Int×Int)):List (Int×Int):=o.foldl (λf q=>bI q.1 q.2 f) l
theorem c1{n k r:Nat}(h:n<=2^k)(u:k+(r+1)<=8):n<1000:=Nat.lt_of_le_of_lt (Nat.le_trans h<|Nat.pow_le_pow_right (by decide)<|show k<=8 by exact bw [_,_] [] 0x10228284300c00c0880001 ft u) (by decide)
theorem c2{n k:Nat}(h:n<=2*m)(u:m<=2^k):n<=2^(k+1):=by rw[Nat.pow_succ,Nat.mul_comm];exact Nat.le_trans h<|Nat.mul_le_mul_left 2 u
theorem j8(G:Gd C)(mem)(z:aN mem)(l o:List (Int×Int))(B:l.length<=1)(J:o.length<=8)(hw:∀q∈o,q.1<q.2):Fd C 3 (.ref 271) [.d (.seq (de l)),.d (.seq (de o))] mem (.d (.seq (de (without l o)))) mem:=by
 refine aX G (aT G) ["spans","others","found","low","high"] 2 (by kernel_rfl) rfl rfl (by ac_rfl) trivial z λA L W Q I=>kL (by rw[iX];exact Nat.le_trans B<|by decide) ?_;refine fW W pr (λt:List (Int×Int)×Nat×Option PV×Option PV=>⟨[some (.d<|.seq<|de l),some<|.d<|.seq<|de o,some<|.d<|.seq<|de t.1,t.2.2.1,t.2.2.2],[],mem⟩)
  (λr t=>(∀q∈r,q∈o)/\t.1.length<=2^t.2.1/\t.2.1+r.length<=8/\without t.1 r=without l o) o (l,0,none,none) ⟨λU h=>h,B,by rw[Nat.zero_add];exact J,rfl⟩ (λt h=>jM W<|I (by refine h.2.2.2▸?_;rfl) rfl) (λq r t u S hn O=>?_) ⟨rfl,rfl⟩
 exact aI W (g6 G mem z t.1 q.1 q.2 (c1 u.2.1 u.2.2.1)<|hw _<|u.1 _<|.head _) rfl rfl z aK rfl<|hn.n (bI q.1 q.2 t.1,t.2.1+1,some<|.d<|.int q.1,some<|.d<|.int q.2) ⟨λq N=>u.1 q<|.tail _ N,c2 (kT _ _ _) u.2.1,by rw[Nat.add_assoc,Nat.add_comm 1];exact u.2.2.1,u.2.2.2⟩
theorem Df(G:Gd C)(S:St)(b:Array UInt8)(J:0<b.size)(u:b.size+S.Hk.data.size<1000)(I:S.Hk.HG.length<1000):Fd C 3 (.ref 292) [.at (.sk 5),.d (.bytes b)] (aJ S)
  (.d .none) (aJ {S with Hk:={S.Hk with HG:=bN S.Hk.HG S.Hk.data.size (S.Hk.data.size+b.size) false,data:=S.Hk.data++b}}):=by
 refine aX G (aT G) ["self","data"] 2 (by kernel_rfl) rfl rfl (by ac_rfl) trivial (aB _) λA L W Q B=>?_;have z:S.Hk.data.size<100000:=by exact bw [_,_] [] 0x7d0520021881c3502280081 ft u
 refine cR z<|cR z<|cR (bw [_,_] [] 0x7d0521001881c3502280081 ft u) ?_
 exact aI W (ie G _ (aB _) S.Hk.HG S.Hk.data.size (S.Hk.data.size+b.size) I<|bw [_,_] [] 0x80108111c07603a01 ft J) rfl rfl (aB _) aK rfl<|AY (bw [_,_] [] 0x1f414800862070d408a1001801 ft u)<|B rfl<|ms<|ms rfl
noncomputable def ee(d:Array UInt8)(q:Int×Int):Array UInt8:=KBy.picked d (some q.1) (some (min q.2 (q.1+4)))
theorem m8(G:Gd C)(S:St)(q:Int×Int)(l:List (Int×Int))(hd:S.Hk.HG=q::l)(hq:q.1<q.2)(hz:S.Hk.data.size<1000)(hl:l.length<900):Fd C 3 (.ref 299) [.at (.sk 5),.d (.int 4)] (aJ S)
  (.d (.tup [.int q.1,.bytes (ee S.Hk.data q)])) (aJ {S with Hk:={S.Hk with HG:=bI q.1 (min q.2 (q.1+4)) (q::l)}}):=by
 obtain⟨lam,sp,⟨data,HG,G9⟩,HI,HB,log,Hq,probe,Hc,Hg,hw,Hf,ww,Hr,Hi,Hm,Hn,ps⟩:=S;have hd:HG=q::l:=hd;subst hd;have hl:(q::l).length<1000:=by refine(ys List.length_cons)▸?_;exact bw [_] [] 0x7085200207e82941401881 ft hl
 refine aX G (aT G) ["self","most","span"] 2 (by kernel_rfl) rfl rfl (by ac_rfl) trivial (aB _) λA L W Q hQ=>aI W (m0 G _ (aB _) (q::l) 4 hl<|by decide) rfl rfl (aB _) aK rfl ?_;exact aI W (g6 G _ (aB _) (q::l) q.1 (min q.2<|q.1+4) hl<|by lia) rfl rfl (aB _) aK rfl<|wb (Nat.le_of_lt<|Nat.lt_of_lt_of_le hz<|by decide)<|hQ rfl<|ms rfl
theorem ti{o z:Int}(h:0<z):o<o+z:=Int.lt_add_of_pos_right o h
theorem oz(G:Gd C)(S:St)(o z:Int)(u:0<z)(J:S.Hk.G9.length<1000)(I:S.Hk.HG.length<1000):Fd C 3 (.ref 313) [.at (.sk 5),.d (.int o),.d (.int z)] (aJ S)
  (.d .none) (aJ {S with Hk:={S.Hk with G9:=bN S.Hk.G9 o (o+z) false,HG:=bI o (o+z) S.Hk.HG}}):=by
 refine aX G (aT G) ["self","offset","size"] 3 (by kernel_rfl) rfl rfl (by ac_rfl) trivial (aB _) λA L W Q B=>aI W (ie G _ (aB _) S.Hk.G9 o (o+z) J<|ti u) rfl rfl (aB _) aK rfl ?_;exact aI W (g6 G _ (aB {S with Hk:={S.Hk with G9:=bN S.Hk.G9 o (o+z) false}}) S.Hk.HG o (o+z) I<|ti u) rfl (ms rfl) (aB _) aK rfl<|B rfl<|ms rfl
theorem rA(a b:Int):∀(l:List (Int×Int)),∀q∈bI a b l,q.1<q.2:=λl=>by
 induction l with
 | nil=>
  intro q h;cases h
 | cons x r u=>
  intro q h;unfold bI at h;rw[List.mem_append,List.mem_append] at h;rcases h with(h|h)|h
  ·split at h
   ·rename_i e;refine(ys<|List.mem_singleton.mp h)▸?_;exact e
   ·cases h
  ·split at h
   ·rename_i e;refine(ys<|List.mem_singleton.mp h)▸?_;exact e
   ·cases h
  ·exact u q h
theorem qO:∀(o l:List (Int×Int)),(∀q∈l,q.1<q.2)->∀q∈without l o,q.1<q.2:=λo=>by
 induction o with
 | nil=>
  intro l h;exact h
 | cons x r u=>
  intro l h;exact u (bI x.1 x.2 l)<|rA _ _ l
theorem q8:∀(o l:List (Int×Int))(k:Nat),l.length<=2^k->(without l o).length<=2^(k+o.length):=λo=>by
 induction o with
 | nil=>
  intro l k h;exact h
 | cons x r u=>
  intro l k h;have z:=u (bI x.1 x.2 l) (k+1)<|c2 (kT x.1 x.2 l) h
  rw[List.length_cons,Nat.add_comm r.length,<-Nat.add_assoc];exact z
theorem qu:∀(l:List (Int×Int))(a b:Int)(u:Bool),(bN l a b u).length<=l.length+(if u=true then 0 else 1):=λl=>by
 induction l with
 | nil=>
  intro a b u;cases u<;>exact Nat.le_refl _
 | cons q r z=>
  intro a b u;unfold bN
  split
  ·have:=Nat.succ_le_succ<|z a b u;rw[List.length_cons,List.length_cons,Nat.add_right_comm];exact this
  ·split
   ·split
    ·have:=Nat.succ_le_succ<|z a b true;rw[List.length_cons,List.length_cons,Nat.add_right_comm];exact this
    ·have:=Nat.succ_le_succ<|Nat.succ_le_succ<|z a b true;rw[List.length_cons,List.length_cons,List.length_cons];exact this
   ·have:=Nat.le_succ_of_le<|z (min a q.1) (max b q.2) u;rw[List.length_cons,Nat.add_right_comm];exact this
noncomputable def gu(d:List (Int×Int))(l:List (Int×Int)):List (Int×Int):=l.foldl (λd q=>bN d q.1 q.2 false) d
noncomputable def yo(S:St)(d:List (Int×Int)):St:={S with Hk:={S.Hk with HG:=d}}
theorem d1{a r:Nat}(h:a+(r+1)<=400):a<1000:=by exact bw [_,_] [] 0xc812a0a10c03003f41480081 ft h
theorem d2{b a r:Nat}(u:b<=a+1)(h:a+(r+1)<=400):b+r<=400:=by exact dD [_,_,_] [] 0x6409505086418018288300007204a1001801 ft u h
theorem rR(G:Gd C)(S:St)(o z:Int)(J:0<z)(I:S.Hk.G9.length<=8)(O:S.Hk.HG.length<=100)(U:∀q∈S.Hk.G9,q.1<q.2):Fd C 4 (.ref 306) [.at (.sk 5),.d (.int o),.d (.int z)] (aJ S)
  (.d .none) (aJ (yo S (gu S.Hk.HG (without [(o,o+z)] S.Hk.G9)))):=by
 revert G J I O U;revert C S o z;exists ce λC=>em λS=>aA λo=>aA λz=>aO _;intro C S o z G J I O U;have B:(without [(o,o+z)] S.Hk.G9).length<=256:=Nat.le_trans (q8 S.Hk.G9 [(o,o+z)] 0<|Nat.le_refl _) (Nat.le_trans (Nat.pow_le_pow_right (by decide) ((Nat.zero_add _).symm▸I:0+S.Hk.G9.length<=8))<|by decide);refine aX G (aT G) ["self","offset","size","first","behind"] 3 (by kernel_rfl) rfl rfl (by ac_rfl) trivial (aB _) λA L W Q V=>fW W pr (λt:List (Int×Int)×Option PV×Option PV=>⟨[some (.at (.sk 5)),some<|.d<|.int o,some<|.d<|.int z,t.2.1,t.2.2],[],aJ<|yo S t.1⟩)
  (λr t=>(∀q∈r,q.1<q.2)/\t.1.length+r.length<=400/\gu t.1 r=gu S.Hk.HG (without [(o,o+z)] S.Hk.G9)) (without [(o,o+z)] S.Hk.G9) (S.Hk.HG,none,none) ⟨qO _ _ (λq N=>by refine(ys<|List.mem_singleton.mp N)▸?_;exact ti J),Nat.add_le_add O (Nat.le_trans B (by decide:256<=300)),rfl⟩
  (λt h=>jM W<|V rfl<|by refine h.2.2▸?_;rfl) (λq r t u Q' hn Z=>?_) ?_
 ·exact aI W (ie G _ (aB _) t.1 q.1 q.2 (d1 u.2.1)<|u.1 _<|.head _) rfl rfl (aB _) aK rfl<|hn.n (bN t.1 q.1 q.2 false,some<|.d<|.int q.1,some<|.d<|.int q.2) ⟨λq N=>u.1 q<|.tail _ N,d2 (qu _ _ _ _) u.2.1,u.2.2⟩<|ms rfl
 ·exact aI W (j8 G _ (aB _) [(o,o+z)] S.Hk.G9 (Nat.le_refl 1) I U) rfl rfl (aB _) aK rfl ⟨rfl,rfl⟩
end
end
section
set_option genInjectivity false
inductive eD where
 |Hw
 |Hs
 |Hl (k:Int)
noncomputable def eD.HP:eD->aM
 | .Hw=>.Hw
 | .Hs=>.Hs
 | .Hl k=>.Hl k
noncomputable def eD.kind:eD->Str
 | .Hw=>"ping"
 | .Hs=>"handshake_done"
 | .Hl _=>"retire_connection_id"
noncomputable def eD.way:eD->Str
 | .Hw=>"never"
 | .Hs=>"same"
 | .Hl _=>"same"
noncomputable def eD.key:eD->Option Int
 | .Hl k=>some k
 |_=>none
noncomputable def eD.subj(x:eD):DV:=.tup [.str x.kind,match x.key with|none=>.none|some i=>.int i]
section
variable {C:Cx}
theorem ka(G:Gd C)(mem)(u:aN mem)(x:eD):Fd C 2 (.ref 182) [.d (.str x.kind)] mem (.d (.str x.way)) mem:=by
 refine aX G (aT G) ["kind"] 1 (by kernel_rfl) rfl rfl (by ac_rfl) trivial u λA L W Q z=>?_;cases x<;>exact z rfl rfl
theorem ei(G:Gd C)(mem)(u:aN mem)(x:eD):Fd C 2 (.ref 189) [.d (b8 x.HP)] mem (.d x.subj) mem:=by
 refine aX G (aT G) ["frame","kind"] 1 (by kernel_rfl) rfl rfl (by ac_rfl) trivial u λA L W Q z=>?_;cases x<;>exact z rfl rfl
theorem db{l:List (Option PO)}(h:(l.all λo=>match o with|none=>true|some o=>o.HM)=true):aU l:=λi o e=>by
 rw[List.all_eq_true] at h;cases hi:l[i]? with
 |none=>rw[hi] at e;exact bU e
 | some x=>
  rw[hi] at e;have e:x=some o:=e;subst e;exact h _<|List.mem_of_getElem? hi
theorem s2{u:Type}{x:u}{X:Prop}(h:x∈([]:List u)):X:=by cases h
theorem sw(G:Gd C)(mem)(B:aN mem):Fd C 4 (.ref 194) [.d (.seq [])] mem (.d (.seq [])) mem:=by
 refine aX G (aT G) ["frames","last","place","frame"] 1 (by kernel_rfl) rfl rfl (by ac_rfl) trivial B λA L W Q u=>n5 G<|yy W 1 [] (λi=>⟨[some (.d<|.seq []),some<|.at (.tm 0),none,none],[some (.Hx []),some (.enum [] i)],mem⟩) (λU=>rfl) ?_ (λi d h=>?_)<|pk ⟨rfl,rfl⟩
 ·refine hU W 0 (.Hx []) [some (.d<|.seq []),some<|.d<|.Hx [],none,none] rfl rfl rfl<|d7 W cJ (own:=["place"]) (caps:=["frames"]) (by kernel_rfl) DV.int (λU=>true) DV.int [] (Nat.zero_le _) ?_ (λD I q z=>s2 z) λt J=>u rfl rfl;exact rI W (g9 (ns:=[]) (ns':=[]) W.hh (by decide) (.refl _) .nil ⟨bZ W.hh rfl,rfl⟩)
 ·rw[List.getElem?_nil] at h;exact bU h
noncomputable def mkE(mem:aQ)(d:DV):Nat->aC
 |0=>⟨[some (.d (.seq [d])),some (.at (.tm 0)),none,none],[some (.Hx []),some (.enum [d] 0)],mem⟩
 |i+1=>⟨[some (.d (.seq [d])),some (.at (.tm 0)),some (.d (.int 0)),some (.d d)],[some (.Hx [.int 0]),some (.enum [d] (i+1))],mem⟩
theorem l8(G:Gd C)(mem)(z:aN mem)(x:eD):Fd C 4 (.ref 194) [.d (.seq [b8 x.HP])] mem (.d (.seq [b8 x.HP])) mem:=by
 revert G z;revert C mem x;exists ce λC=>aA λmem=>i7 ⟨eD,.Hw⟩ λx=>aO _;intro C mem x G z;refine aX G (aT G) ["frames","last","place","frame"] 1 (by kernel_rfl) rfl rfl (by ac_rfl) trivial z λA L W Q I=>n5 G (yy W 1 [b8 x.HP] (mkE mem<|b8 x.HP) (λi=>by cases i<;>rfl) ?_ (λi d h=>?_)<|pk ⟨rfl,rfl⟩)
 ·refine hU W 0 (.Hx [.int 0]) [some (.d<|.seq [b8 x.HP]),some<|.d<|.Hx [.int 0],some<|.d<|.int 0,some (.d<|b8 x.HP)] rfl rfl rfl<|d7 W cJ (own:=["place"]) (caps:=["frames"]) (by kernel_rfl) DV.int (λU=>true) (λq=>b8 x.HP) [0] (by decide) ?_ (λD S q O V acc t B Y N J hN=>?_) λt B=>I rfl rfl
  ·exact rI W (g9 (ns:=[0]) (ns':=[0]) W.hh (by decide) (.refl _) (List.pairwise_singleton ..) ⟨bZ W.hh rfl,rfl⟩)
  ·rw[List.mem_singleton.mp O];exact⟨rfl,fg (k:=0) rfl (by decide)<|J [_] rfl rfl B⟩
 ·match i,h with
  | 0,h=>
   have u:=oi h;clear h;clear h;subst u;exact aI W (ei G mem z x) rfl rfl z (db rfl) rfl<|sH G (W.r.room<|by decide) rfl ⟨rfl,rfl⟩
theorem kr(G:Gd C)(S:St):Fd C 4 (.ref 214) [.at (.sk 0)] (aJ S) (.d (.G7 [])) (aJ S):=by
 exact aX G (gH G) ["conn","local","gone"] 1 (by kernel_rfl) rfl rfl (by ac_rfl) trivial (aB _) λA L W Q z=>gl W cJ (own:=["number"]) (caps:=["local"]) (by kernel_rfl) DV.int (λU=>true) DV.int [] 2 (by decide) (j9 ⟨lW W.hh rfl (by decide) (by decide) rfl,rfl⟩) (λD B q u=>s2 u) λt N=>d7 W cJ (own:=["number"]) (caps:=[]) (by kernel_rfl) DV.int (λU=>true) DV.int [] (by decide) ⟨bZ W.hh rfl,rfl⟩ (λD B q u=>s2 u) λJ I=>qi G W.hh<|z rfl rfl
noncomputable def eD.again:eD->List DV
 | .Hw=>[]
 |x=>[b8 x.HP]
theorem vF(G:Gd C)(mem)(u:aN mem)(x:eD):Fd C 4 (.ref 194) [.d (.seq x.again)] mem (.d (.seq x.again)) mem:=by
 cases x with
 |Hw=>exact sw G mem u
 |Hs=>exact l8 G mem u .Hs
 |Hl k=>exact l8 G mem u<|.Hl k
noncomputable abbrev Ta:=List DV×Option PV×Option PV×Option PV
theorem mY(G:Gd C)(mem)(B:aN mem)(x:eD):Fd C 5 (.ref 201) [.d (.seq [b8 x.HP]),.d (.G7 []),.d (.G7 []),.d (.G7 [])] mem (.d (.seq x.again)) mem:=by
 revert G B;revert C mem x;exists ce λC=>aA λmem=>i7 ⟨eD,.Hw⟩ λx=>aO _;intro C mem x G B;refine aX G (aT G) ["lost","limits","blocked","done","found","frame","way","subject"] 4 (by kernel_rfl) rfl rfl (by ac_rfl) trivial B λA L W Q S=>?_;revert W S;revert A L Q;exists cx λA=>aA λL=>aA λQ=>aO _;intro A L Q W S;refine fW W b8 (λt:Ta=>⟨[some (.d<|.seq [b8 x.HP]),some<|.d<|.G7 [],some<|.d<|.G7 [],some<|.d<|.G7 [],some<|.at (.tm 0),t.2.1,t.2.2.1,t.2.2.2],[some (.Ha t.1)],mem⟩)
  (λr t=>(r=[x.HP]/\t.1=[])\/(r=[]/\t.1=x.again)) [x.HP] ([],none,none,none) (.inl ⟨rfl,rfl⟩) (λt h=>?_) (λy r t N O hn Z=>?_) ⟨rfl,rfl⟩
 ·rcases h with h|h
  ·cases h.1
  ·obtain⟨acc,u,v,z⟩:=t;revert h;revert acc u v z;exists aA λacc=>aA λu=>aA λv=>aA λz=>aO _;intro acc u v z h;have U:acc=x.again:=h.2;clear h;subst U;exact hU W 0 (.seq x.again) [some (.d<|.seq [b8 x.HP]),some<|.d<|.G7 [],some<|.d<|.G7 [],some<|.d<|.G7 [],some<|.d<|.seq x.again,_,_,_] rfl rfl rfl<|aI W (vF G mem B x) rfl rfl B (db rfl) rfl<|S rfl rfl
 ·revert N hn Z;revert y r t O;exists jY λy=>aA λr=>aA λt=>aA λO=>aO _;intro y r t O N hn Z;obtain⟨acc,u,v,z⟩:=t;revert N;revert acc u v z;exists aA λacc=>aA λu=>aA λv=>aA λz=>aO _;intro acc u v z N;rcases N with h|h
  ·obtain⟨V,U⟩:=h;have I:=(List.cons.inj V).1;have J:=(List.cons.inj V).2;clear V;subst I;subst J;cases U;cases x with
   | Hw=>
    refine aI W (ka G mem B .Hw) rfl rfl B (db rfl) rfl<|aI W (ei G mem B .Hw) rfl rfl B (db rfl) rfl ?_;exact sK G (k:=none) (W.r.room<|by decide)<|hn.c ([],_,_,_)<|.inr ⟨rfl,rfl⟩
   | Hs=>
    refine aI W (ka G mem B .Hs) rfl rfl B (db rfl) rfl<|aI W (ei G mem B .Hs) rfl rfl B (db rfl) rfl ?_;exact sK G (k:=none) (W.r.room<|by decide) ⟨Nat.zero_le _,hn.n ([b8 .Hs],_,_,_)<|.inr ⟨rfl,rfl⟩⟩
   | Hl k=>
    refine aI W (ka G mem B<|.Hl k) rfl rfl B (db rfl) rfl<|aI W (ei G mem B<|.Hl k) rfl rfl B (db rfl) rfl ?_;exact sK G (k:=some k) (W.r.room<|by decide) ⟨Nat.zero_le _,hn.n ([b8 (.Hl k)],_,_,_)<|.inr ⟨rfl,rfl⟩⟩
  ·cases h.1
end
end
section
set_option genInjectivity false
section
variable {C:Cx}
noncomputable def fU(S:St)(b:Bool)(q:aM):St:={S with log:=S.log++[(b,q)]}
structure xj(C:Cx)(l:Gh):Prop where
 IR:l.Hm.H5=true/\l.Hn.H5=true/\l.over.H5=true/\l.Jd.H5=true/\l.exp.H5=true/\l.Je.H5=true
 Hm:∀(S:St)(q:aM),S.lam=l->S.log.length<=100->xl C 4 l.Hm [.d (b8 q)] (aJ S) λr m=>r= .d .none/\m=aJ (fU S true q)
 Hn:∀(S:St)(q:aM),S.lam=l->S.log.length<=100->xl C 4 l.Hn [.d (b8 q)] (aJ S) λr m=>r= .d .none/\m=aJ (fU S false q)
 over:∀(S:St),S.lam=l->xl C 4 l.over [] (aJ S) λr m=>r= .d .none/\m=aJ S
 Jd:∀(S:St),S.lam=l->xl C 4 l.Jd [] (aJ S) λr m=>r= .d (.bool false)/\m=aJ S
 exp:∀(S:St),S.lam=l->xl C 4 l.exp [] (aJ S) λr m=>r= .d (.int 3)/\m=aJ S
 Je:∀(S:St),S.lam=l->xl C 4 l.Je [] (aJ S) λr m=>r= .d (.int 25000)/\m=aJ S
theorem lf(G:Gd C)(S:St)(H:xj C S.lam):Fd C 5 (.ref 243) [.at (.sk 0)] (aJ S) (.d (.bool true)) (aJ S):=by
 refine aX G (aT G) ["conn"] 1 (by kernel_rfl) rfl rfl (by ac_rfl) trivial (aB S) λA L W Q u=>pq<|bK W 1000 (.ev _ _) _ ?_
 exact kJ W (k:=.sk 0) rfl rfl H.IR.2.2.2.1 (by kernel_rfl)<|lc W (H.Jd S rfl) rfl rfl (aB S) aK rfl<|rW ⟨rfl,u rfl rfl⟩
noncomputable def iB(rs:List (Int×Int)):DV:=.tup [.str "ack",.int 0,.seq (de rs),.none]
noncomputable def js(S:St)(q:Int×List aM)(hi now:Int):St:=if q.1=hi then{S with HI:=fX S.HI (now-q.1) 0 now} else S
theorem DM{n:Nat}(h:n≠0){X:Prop}(e:(n:Int)=0):X:=absurd (Int.ofNat.inj e) h
theorem mZ(G:Gd C)(S:St)(H:xj C S.lam)(l:List (Int×List aM))(I:l.length<60)(Z:∀q∈l,q.2.isEmpty=false)(q:Int×List aM)(u:l.getLast? =some q)(lo hi:Int)(rs:List (Int×Int))(now:Int):
  Fd C 5 (.ref 231) [.at (.sk 0),.d (.seq (l.map mO)),.d (iB ((lo,hi)::rs)),.d (.int now)] (aJ S) (.d .none) (aJ (js S q hi now)):=by
 revert G H I Z u;revert C S l q lo hi rs now;exists ce λC=>em λS=>aA λl=>aA λq=>aA λlo=>aA λhi=>aA λrs=>aA λnow=>aO _;intro C S l q lo hi rs now G H I Z u;have O:(l.map mO).getLast? =some (mO q):=by rw[List.getLast?_map,u];rfl
 have hf:((l.filter λU=>true).map λU=>DV.int 1).length=l.length:=by rw[List.length_map,gg]
 refine aX G (aT G) ["conn","packets","frame","now","newest","delay"] 4 (by kernel_rfl) rfl rfl (by ac_rfl) trivial (aB _) λA L W Q B=>?_;revert W B;revert A L Q;exists cx λA=>aA λL=>aA λQ=>aO _;intro A L Q W B;refine fg (jC O) (by decide) (zG (λe=>B rfl<|by rw[show js S q hi now=S from if_neg e];rfl) λe=>?_);refine d7 W cJ (own:=["packet"]) (caps:=[]) (by kernel_rfl) mO (λU=>true) (λU=>.int 1) l (l6 I) ⟨bZ W.hh rfl,rfl⟩ (λD Wc q u J acc t z Y N V hN=>?_)<|λt z=>?_
 ·revert Wc u z V hN;revert D q J acc t Y N;exists aA λD=>aA λq=>aA λJ=>aA λacc=>aA λt=>aA λY=>aA λN=>aO _;intro D q J acc t Y N Wc u z V hN;exact nO (by rw[Z _ u];rfl) ⟨rfl,V [_] rfl rfl z⟩
 ·refine⟨by rw[hf];exact Nat.lt_trans I (by decide),mC (λe=>DM (by rw[hf];intro h0;rw[List.eq_nil_of_length_eq_zero h0] at u;exact bU u) e) λU=>?_⟩;refine kJ W (k:=.sk 0) rfl rfl H.IR.2.2.2.2.1 (by kernel_rfl) (lc W (H.exp S rfl) rfl rfl (aB S) (fZ (λx e=>by exact bU e) z) rfl ?_);refine Dz (by decide) (by decide) (by decide) ⟨.of_left (by decide),?_⟩;exact aI W (xe G S (now-q.1) 0 now) rfl rfl (aB S) (fZ (λx e=>by exact bU e) z) rfl<|B rfl (by rw[show js S q hi now=_ from if_pos e])
noncomputable def jA(S:St):aM->St
 | .Hp o b=>{S with Hk:={S.Hk with G9:=bN S.Hk.G9 o (o+b.size) false,HG:=bI o (o+b.size) S.Hk.HG}}
 | .stream k=>fU S true (.stream k)
 | .Ho=>fU S true .Ho
 |_=>S
noncomputable def aM.ok(S:St):aM->Prop
 | .Hp o b=>0<b.size/\b.size<1000
 |_=>True
theorem mT(G:Gd C)(S:St)(H:xj C S.lam)(J:S.Hk.G9.length<1000)(I:S.Hk.HG.length<1000)(B:S.log.length<=100)(x:aM)(z:x.ok S):
  Fd C 5 (.ref 209) [.at (.sk 0),.d (.str "application"),.d (b8 x)] (aJ S) (.d .none) (aJ (jA S x)):=by
 refine aX G (aT G) ["conn","space","frame"] 3 (by kernel_rfl) rfl rfl (by ac_rfl) trivial (aB _) λA L W Q u=>?_;cases x with
 | Hp o b=>
  exact cR (Nat.lt_trans z.2<|by decide)<|aI W (oz G S o b.size (Int.natCast_pos.mpr z.1) J I) rfl rfl (aB S) aK rfl<|u rfl rfl
 |stream k=>exact kJ W (k:=.sk 1) rfl rfl H.IR.1 (by kernel_rfl)<|lc W (H.Hm S (.stream k) rfl B) rfl rfl (aB S) aK rfl<|u rfl rfl
 |Ho=>exact kJ W (k:=.sk 1) rfl rfl H.IR.1 (by kernel_rfl)<|lc W (H.Hm S .Ho rfl B) rfl rfl (aB S) aK rfl<|u rfl rfl
 |Hw=>exact u rfl rfl
 |Hs=>exact u rfl rfl
 |Hl k=>exact u rfl rfl
end
end
section
deriving instance DecidableEq for aM
set_option tactic.hygienic true in
theorem uZ(x y:eD):im (b8 y.HP) (b8 x.HP)=decide (y.HP=x.HP):=by
 cases x<;>cases y<;>(try(show ez _ _=_))<;>first|rfl|decide+kernel|skip
 rename_i a b
 have u:ez [DV.str (Str.ofString "retire_connection_id"),DV.int b] [DV.str (Str.ofString "retire_connection_id"),DV.int a]=(b==a):=by
  rw[show ez [DV.str (Str.ofString "retire_connection_id"),DV.int b] [DV.str (Str.ofString "retire_connection_id"),DV.int a]=(((Str.ofString "retire_connection_id")==(Str.ofString "retire_connection_id"))&&((b==a)&&true)) from rfl,show((Str.ofString "retire_connection_id")==(Str.ofString "retire_connection_id"))=true from by decide+kernel];rw[Bool.true_and,Bool.and_true]
 refine u.trans ?_
 by_cases e:b=a
 ·clear u;subst e;exact(beq_self_eq_true b).trans (decide_eq_true rfl).symm
 ·exact(beq_eq_false_iff_ne.mpr e).trans (decide_eq_false λq=>e<|by injection q).symm
theorem u4(x y:eD):pN 1 (b8 y.HP) (b8 x.HP)=true:=by
 cases x<;>cases y<;>rfl
noncomputable def dI(l:List aM):Prop:=∀y∈l,∃x:eD,y=x.HP
theorem AH{l:List aM}(h:dI l)(x:eD):((l.map b8).any λy=>im y (b8 x.HP))=decide (x.HP∈l):=by
 induction l with
 |nil=>rfl
 | cons y l I=>
  refine aP (h y<|.head _) λz u=>?_;subst u;rw[List.map_cons,List.any_cons,uZ,I λy B=>h y (.tail _ B)]
  by_cases e:z.HP=x.HP
  ·rw[decide_eq_true e,Bool.true_or,decide_eq_true (e▸.head _)]
  ·rw[decide_eq_false e,Bool.false_or];exact decide_eq_decide.mpr ⟨.tail _,λh=>(List.mem_cons.mp h).resolve_left λq=>e q.symm⟩
noncomputable def sJ(l:List aM):eD->List aM
 | .Hw=>l
 |x=>if x.HP∈l then l else l++[x.HP]
noncomputable def fM(S:St):aM->St
 | .Hp o b=>{S with Hk:={S.Hk with HG:=gu S.Hk.HG (without [(o,o+b.size)] S.Hk.G9)}}
 | .stream k=>fU S false (.stream k)
 | .Ho=>fU S false .Ho
 | .Hw=>S
 | .Hs=>{S with Hq:=sJ S.Hq .Hs}
 | .Hl k=>{S with Hq:=sJ S.Hq (.Hl k)}
noncomputable def eD.ag:eD->List eD
 | .Hw=>[]
 |x=>[x]
noncomputable def eD.rest:eD->List DV
 | .Hl k=>[.int k]
 |_=>[]
theorem eD.frD(x:eD):Mine.b8 x.HP= .tup (.str x.kind::x.rest):=by cases x<;>rfl
theorem eD.agE(x:eD):x.again=x.ag.map λq=>Mine.b8 q.HP:=by cases x<;>rfl
theorem Cv:∀(l:List aM)(x:eD),l.map b8++(([x].filter λq:eD=> !decide (q.HP∈l)).map λq=>b8 q.HP)=(if x.HP∈l then l else l++[x.HP]).map b8:=by
 intro l x;refine(ys List.filter_cons)▸?_
 by_cases e:x.HP∈l
 ·refine(ys<|if_pos e)▸(ys<|decide_eq_true e)▸?_;exact List.append_nil _
 ·refine(ys<|if_neg e)▸(ys<|decide_eq_false e)▸(ys List.map_append)▸?_;rfl
theorem D7(l:List aM)(x:eD):l.map b8++((x.ag.filter λq:eD=> !decide (q.HP∈l)).map λq=>b8 q.HP)=(sJ l x).map b8:=by
 cases x with
 |Hw=>exact List.append_nil _
 |Hs=>exact Cv l .Hs
 |Hl k=>exact Cv l<|.Hl k
theorem wG(S:St)(x:eD):fM S x.HP={S with Hq:=sJ S.Hq x}:=by cases x<;>rfl
section
variable {C:Cx} {A:Around} {f:Fc} {σ:aC}
theorem oS{K:Ky}{l:List aM}(h:dI l)(x:eD)(N:σ.get K=some (.Ha (l.map b8)))(O:A.units+(1+1)<cLine)(q:Q (.d (.bool (!decide (x.HP∈l)))) σ):cO C A f (compareOp .NotIn) (.d (b8 x.HP)) (.at K) σ Q:=
 uF (n:=1) (gU N) (λy I=>by
  refine aG (List.mem_map.mp I) λz J u=>?_;subst u;refine aP (h z J) λo B=>?_;clear J I;subst B;exact u4 x o) O (by rw[AH h];exact q)
theorem zx(x:eD):x.ag.length<=1:=by cases x<;>first|exact Nat.le_refl 1|exact Nat.zero_le 1
theorem qH(G:Gd C)(S:St)(O:S.Hq.length<=100)(J:dI S.Hq)(x:eD):
  Fd C 7 (.ref 219) [.at (.sk 0),.d (.str "application"),.d (.tup (.str x.kind::x.rest))] (aJ S) (.d .none) (aJ {S with Hq:=sJ S.Hq x}):=by
 revert G O J;revert C S x;exists ce λC=>em λS=>i7 ⟨eD,.Hw⟩ λx=>aO _;intro C S x G O J;refine aX G (aT G) ["conn","space","frame"] 3 (by kernel_rfl) rfl rfl (by ac_rfl) (trivial) (aB _) λA L W Q B=>?_;revert W B;revert A L Q;exists cx λA=>aA λL=>aA λQ=>aO _;intro A L Q W B;refine Ce (by cases x<;>rfl) (Ce (by cases x<;>rfl) ?_);refine xF W (K:=.sk 12) (l0:=S.Hq.map b8) rfl<|d7 W cJ (own:=["one"]) (caps:=["conn"]) (by kernel_rfl) (λq:eD=>b8 q.HP) (λq=> !decide (q.HP∈S.Hq)) (λq=>b8 q.HP) x.ag (Nat.le_trans (zx x) (by decide)) ?_ (λD V q U z acc t u Y N I hN=>?_) (λt u=>?_)
 ·refine nD G (nD G (aI W (kr G S) rfl rfl (aB S) aK rfl ?_));exact aI W (show Fd C 5 _ [.d (.seq [.tup (.str x.kind::x.rest)]),_,_,_] _ _ _ from eD.frD x▸mY G (aJ S) (aB S) x) rfl rfl (aB S) aK rfl<|⟨bZ W.hh (zW (eD.agE x)),rfl⟩
 ·revert V U u I hN;revert D q z acc t Y N;exists aA λD=>i7 ⟨eD,.Hw⟩ λq=>aA λz=>aA λacc=>aA λt=>aA λY=>aA λN=>aO _;intro D q z acc t Y N V U u I hN;exact oS J q rfl (W.r.room (by decide)) (eC (λe=>⟨e,I [_] rfl rfl u⟩) λe=>⟨e,hN [_] rfl u⟩)
 ·refine kH (S.Hq.map b8) _ fB rfl ?_ (B rfl ?_)
  ·rw[List.length_map,List.length_map];exact Nat.le_trans (Nat.add_le_add O (Nat.le_trans (List.length_filter_le ..) (zx x))) (by decide)
  ·exact(ms rfl).trans (by rw[D7];rfl)
theorem nn(G:Gd C)(S:St)(H:xj C S.lam)(O:S.Hk.G9.length<=8)(I:S.Hk.HG.length<=100)(J:∀q∈S.Hk.G9,q.1<q.2)(B:S.log.length<=100)(U:S.Hq.length<=100)(N:dI S.Hq)(x:aM)(u:x.ok S):
  Fd C 7 (.ref 219) [.at (.sk 0),.d (.str "application"),.d (b8 x)] (aJ S) (.d .none) (aJ (fM S x)):=by
 revert G H O I J B U N u;revert C S x;exists ce λC=>em λS=>jY λx=>aO _;intro C S x G H O I J B U N u;have K:∀y:eD,x=y.HP->Fd C 7 (.ref 219) [.at (.sk 0),.d<|.str "application",.d (b8 x)] (aJ S) (.d .none) (aJ<|fM S x):=λy e=>by
  clear u;subst e;rw[wG,eD.frD];exact qH G S U N y
 cases x with
 | Hp o b=>
  refine aX G (aT G) ["conn","space","frame"] 3 (by kernel_rfl) rfl rfl (by ac_rfl) trivial (aB _) λA L W Q z=>cR (Nat.lt_trans u.2<|by decide) ?_;exact aI W (rR G S o b.size (Int.natCast_pos.mpr u.1) O I J) rfl rfl (aB S) aK rfl<|z rfl rfl
 | stream k=>
  exact aX G (aT G) ["conn","space","frame"] 3 (by kernel_rfl) rfl rfl (by ac_rfl) trivial (aB _) λA L W Q z=>kJ W (k:=.sk 1) rfl rfl H.IR.2.1 (by kernel_rfl)<|lc W (H.Hn S (.stream k) rfl B) rfl rfl (aB S) aK rfl<|z rfl rfl
 | Ho=>
  exact aX G (aT G) ["conn","space","frame"] 3 (by kernel_rfl) rfl rfl (by ac_rfl) trivial (aB _) λA L W Q z=>kJ W (k:=.sk 1) rfl rfl H.IR.2.1 (by kernel_rfl)<|lc W (H.Hn S .Ho rfl B) rfl rfl (aB S) aK rfl<|z rfl rfl
 |Hw=>exact K .Hw rfl
 |Hs=>exact K .Hs rfl
 |Hl k=>exact K (.Hl k) rfl
end
end
section
section
variable {C:Cx}
theorem kj(G:Gd C)(mem)(V:aN mem)(u:List (Int×Int))(N:u.length<60)(J:u.Pairwise λx y=>x.1<y.1)(b:DV)(z:Option Int)(S:∀f,z=some f->∀q∈u,q.2<=f)(sp:Int):
  Fd C 2 (.ref 149) [.d (.seq (de u)),.d b,.d (jT z),.d (.int sp)] mem (.d (.bool false)) mem:=by
 refine aX G (aT G) ["lost","acked","first_at","span","begin","last","number","sent_at"] 4 (by kernel_rfl) rfl rfl (by ac_rfl) trivial V λA L W Q I=>?_;cases z with
 |none=>exact I rfl rfl
 | some f=>
  refine fW W pr (λt:Option PV×Option PV=>⟨[some (.d<|.seq<|de u),some<|.d b,some<|.d<|.int f,some<|.d<|.int sp,some<|.d .none,some<|.d .none,t.1,t.2],[],mem⟩)
   (λr t=>∀q∈r,q∈u) u (none,none) (λU h=>h) (λt h=>jM W<|I rfl rfl) (λq r t B Q' hn Z=>?_) ?_
  ·exact bL (λU=>hn.c (some<|.d<|.int q.1,some<|.d<|.int q.2) λq O=>B q<|.tail _ O) λh=>absurd (S f rfl _<|B _<|.head _) h
  ·exact m9 (Cd N) J ⟨rfl,rfl⟩
noncomputable def fG(B now d:Int)(q:Int×List aM):Bool:= !decide (B<q.1)&&eK q.1 q.1 B now d
theorem xY(B now d:Int):∀(T:List (Int×List aM))(a:List Int)(b:Option Int),(gJ B now d (Hu T) a b).1=a++Hu (T.filter (fG B now d)):=λT=>by
 induction T with
 | nil=>
  intro a b;exact(List.append_nil _).symm
 | cons q T z=>
  intro a b;show(gJ B now d (q.1::Hu T) a b).1=_;unfold gJ;rw[List.filter_cons];unfold fG
  by_cases e:B<q.1
  ·rw[if_pos e,z,decide_eq_true e];rfl
  ·rw[if_neg e,decide_eq_false e]
   by_cases u:eK q.1 q.1 B now d=true
   ·rw[if_pos u,z,u,List.append_assoc];rfl
   ·rw[if_neg u,z,Bool.not_eq_true _|>.mp u];rfl
noncomputable def PreL(S:St)(x:aM):Prop:=S.Hk.G9.length<=8/\S.Hk.HG.length<=100/\(∀q∈S.Hk.G9,q.1<q.2)/\S.log.length<=100/\S.Hq.length<=100/\dI S.Hq/\x.ok S
noncomputable def wS(S:St):List aM->Prop
 |[]=>True
 |x::r=>PreL S x/\wS (fM S x) r
theorem nK(S:St)(x:aM):(fM S x).lam=S.lam:=by cases x<;>rfl
noncomputable def jQ(S:St):Int:=b7 S.HI.He (S.HI.s8.fdiv 8)
noncomputable def bT(S:St)(B now:Int):List (Int×List aM):=S.sp.Hd.filter (fG B now (jQ S))
noncomputable def mE(S:St)(B now:Int):Option Int:=(gJ B now (jQ S) (Hu S.sp.Hd) [] none).2
noncomputable def uT(S:St)(L:List (Int×List aM)):St:=oA S (L.foldl ck S.sp.Hd)
noncomputable def kS(S:St)(B now:Int):St:={S with sp:={S.sp with Ii:=mE S B now}}
noncomputable def jL(S:St)(B now:Int):St:={kS S B now with HB:=gq S.HB (bW (bT S B now)) (tI (bT S B now)) now}
noncomputable def u3(S:St)(B now:Int):St:=uT {kS S B now with HB:=gq S.HB (bW (bT S B now)) (tI (bT S B now)) now} (bT S B now)
noncomputable def eN(S:St)(B now:Int):St:=if bT S B now=[] then kS S B now else((bT S B now).flatMap (·.2)).foldl fM (u3 S B now)
noncomputable def Fu(l:List (Int×List aM)):List (Int×Int):=l.map λq=>(q.1,q.1)
theorem Et(l:List (Int×List aM)):((l.filter λU=>true).map λq=>DV.tup [.int q.1,.int q.1])=de (Fu l):=by rw[gg];unfold de Fu;rw[List.map_map];rfl
theorem yz{l:List (Int×List aM)}(h:l.getLast? =some q):((Hu l).map DV.int).getLast? =some (.int q.1):=by rw[iq,List.getLast?_map,h];rfl
noncomputable def btw(a b:Int):List Int:=(List.range (b-a).toNat).map λ(i:Nat)=>a+(i:Int)
theorem iV(G:Gd C)(S:St)(H:xj C S.lam)(B now:Int)(hB:S.sp.largest=some B)(ha:cU S.sp.Hd)(hz:S.sp.Hd.length<60)(ae:∀q∈S.sp.Hd,q.2.isEmpty=false)
  (u:∀q∈S.sp.Hd,0<=q.1/\q.1<100) (ag:S.sp.G9.length<1000) (af:∀f,S.HI.first=some f->∀q∈S.sp.Hd,q.1<=f) (al:∀q∈S.sp.Hd,q.2.length<=1000) (ad:wS (u3 S B now) ((bT S B now).flatMap (·.2))):
  Fd C 8 (.ref 236) [.at (.sk 0),.d (.str "application"),.d (.int now)] (aJ S) (.d .none) (aJ (eN S B now)):=by
 revert G H hB ha hz ae u ag af al ad;revert C S B now;exists ce λC=>em λS=>aA λB=>aA λnow=>aO _;intro C S B now G H hB ha hz ae u ag af al ad;have D:Fd C 3 (.ref 118) [.d (.G7<|dG S.sp.Hd),.d<|jT S.sp.largest,.d<|.int now,.d (.int<|jQ S)] (aJ S) (.d<|.tup [.seq ((Hu<|bT S B now).map .int),jT (mE S B now)]) (aJ S):=by
  have D:=lP G (aJ S) (aB S) S.sp.Hd ha hz B now<|jQ S
  rw[xY,List.nil_append] at D;refine(ys hB)▸?_;exact D
 have z:∀q∈bT S B now,q∈S.sp.Hd:=λq Z=>(List.mem_filter.mp Z).1;have J:∀q∈bT S B now,q∈S.sp.Hd/\q.2.isEmpty=false:=λq Z=>⟨z q Z,ae q<|z q Z⟩
 have ab:cU (bT S B now):=.sublist (.map _ List.filter_sublist) ha;have I:(bT S B now).length<60:=Nat.lt_of_le_of_lt (List.length_filter_le ..) hz;have ah:((Hu<|bT S B now).map DV.int).length=(bT S B now).length:=by rw[List.length_map,cy]
 refine aX G (aT G) ["conn","space","now","place","rows","lost","later","pairs","span","between","packet","frame"] 3 (by kernel_rfl) rfl rfl (by ac_rfl) trivial (aB _) λA L W Q hQ=>?_;revert W hQ;revert A L Q;exists cx λA=>aA λL=>aA λQ=>aO _;intro A L Q W hQ;refine aI W (ow G S ha hz) rfl rfl (aB S) aK rfl<|aI W (eB G S) rfl rfl (aB S) aK rfl ?_;refine aI W (iL G (aJ S) (aB S) S.HI.He _) rfl rfl (aB S) aK rfl<|aI W D rfl rfl (aB S) aK rfl ⟨by refine(ys ah)▸?_;exact Nat.lt_trans I (by decide),mC (λe=>?_) λe=>?_⟩
 ·have e2:bT S B now=[]:=List.length_eq_zero_iff.mp<|ah▸Int.ofNat.inj e
  exact hQ rfl (ms rfl|>.trans (by refine(ys<|show eN S B now=kS S B now from if_pos e2)▸?_;rfl))
 obtain⟨V,Lr,hc⟩:∃V Lr,bT S B now=V::Lr:=by
  match hm:bT S B now with
  |[]=>exact absurd (by refine(ys ah)▸(ys hm)▸?_;rfl) e
  |V::Lr=>exact DU V Lr rfl
 revert hc;revert V Lr;exists aA λV=>aA λLr=>aO _;intro V Lr hc;obtain⟨qz,aa⟩:∃qz,(bT S B now).getLast? =some qz:=by refine(ys hc)▸?_;exact⟨_,List.getLast?_eq_some_getLast<|List.cons_ne_nil _ _⟩
 revert aa;revert qz;exists aA λqz=>aO _;intro qz aa;have ak:=u _<|z _<|List.mem_of_getLast? aa
 have aj:=u V (z V<|by refine(ys hc)▸?_;exact .head _);have hN:=aB<|jL S B now
 refine aI W (mx G (aJ<|kS S B now) (aB _) S.sp.Hd (bT S B now) ha J I) rfl (ms rfl) (aB _) aK rfl<|aI W (mq G (aJ<|kS S B now) (aB _) S.sp.Hd (bT S B now) ha J I) rfl rfl (aB _) aK rfl ?_;refine aI W (qh G (kS S B now) (bW<|bT S B now) (tI<|bT S B now) now) rfl rfl (aB _) aK rfl<|gl W cJ (own:=["number"]) (caps:=["rows"]) (by kernel_rfl) (λq:Int×List aM=>.int q.1) (λU=>true) (λq=>.tup [.int q.1,.int q.1]) (bT S B now) 7 (l6 I) ⟨bZ W.hh<|zW<|iq _,rfl⟩ (λD Wc q Z u0 acc t ht Y N hY hN=>?_) λt ht=>?_
 ·have ai:=fJ ha<|z _ Z
  exact cQ (ke q) ai (nO (by refine(ys<|(J _ Z).2)▸?_;rfl) ⟨rfl,cQ (ke q) ai<|hY [_] rfl rfl ht⟩)
 rw[Et];refine aI W (nf G<|jL S B now) rfl rfl hN (bP ht) rfl<|kJ W (k:=.sk 0) rfl rfl H.IR.2.2.2.2.2 (by kernel_rfl)<|lc W (H.Je (jL S B now) rfl) rfl rfl hN (bP ht) rfl ?_
 refine aI W (iZ G (aJ<|jL S B now) hN _ 25000) rfl rfl hN (bP ht) rfl<|q7 ⟨[some (.at (.sk 0)),some<|.d<|.str "application",some<|.d<|.int now,some<|.at (.sk 4),some<|.d<|.G7<|dG S.sp.Hd,some<|.d<|.seq<|(Hu<|bT S B now).map .int,some<|.d<|jT<|mE S B now,some<|.d<|.seq<|de<|Fu<|bT S B now,some<|.d<|.int<|(S.HI.s8.fdiv 8+max S.HI.v4 1000+25000)*3,none,none,none],none::t,aJ<|jL S B now⟩ rfl ?_;refine gl W cJ (own:=["number"]) (caps:=["place"]) (by kernel_rfl) DV.int (cu S.sp.G9) DV.int (btw V.1 qz.1) 9 ?_ ?_ (λD Wc q Z u0 acc t2 O Y N hY an=>?_) λt2 O=>?_
 ·unfold btw;rw[List.length_map,List.length_range];omega
 ·exact Fe (.int V.1) (by refine(ys hc)▸?_;rfl) (fg (jC<|yz aa) (by decide)<|il ⟨lW W.hh rfl (⟨bw [] [_] 0x10118103f414b181 ft aj.1,bw [] [_] 0x190740500fa1202880a01 ft aj.2⟩) (⟨bw [] [_] 0x10118103f414b181 ft ak.1,bw [] [_] 0x190740500fa1202880a01 ft ak.2⟩) (by rw[gP];unfold btw;refine(ys List.map_map)▸?_;rfl),rfl⟩)
 ·exact aI Wc (iH G (aJ<|jL S B now) hN S.sp.G9 q ag) rfl rfl hN (eO (bP ht)<|jS O) rfl<|eC (λe=>⟨e,hY [_] rfl rfl O⟩) λe=>⟨e,an [_] rfl O⟩
 refine aI W (kj G (aJ<|jL S B now) hN (Fu<|bT S B now) (by unfold Fu;rw[List.length_map];exact I) (List.pairwise_map.mpr<|List.pairwise_map.mp ab) _ S.HI.first (λf hf q Z=>by obtain⟨q',am,rfl⟩:=List.mem_map.mp Z;exact af f hf q'<|z q' am) _) rfl rfl hN (eO (bP ht)<|bP O) rfl<|q7 ⟨[some (.at (.sk 0)),some<|.d<|.str "application",some<|.d<|.int now,some<|.at (.sk 4),some<|.d<|.G7<|dG S.sp.Hd,some<|.d<|.seq<|(Hu<|bT S B now).map .int,some<|.d<|jT<|mE S B now,some<|.d<|.seq<|de<|Fu<|bT S B now,some<|.d<|.int<|(S.HI.s8.fdiv 8+max S.HI.v4 1000+25000)*3,some<|.d<|.seq<|((btw V.1 qz.1).filter<|cu S.sp.G9).map .int,none,none],none::(t++none::t2),aJ<|jL S B now⟩ rfl ?_;refine kd W mO 10 11 aJ (λr S'=>S'.lam=S.lam/\wS S' (r.flatMap (·.2))/\(r.flatMap (·.2)).foldl fM S'=eN S B now) (bT S B now) (u3 S B now,none,none) ⟨rfl,ad,?_⟩ (λt h=>jM W<|hQ rfl<|by refine h.2.2▸?_;rfl) (λq r t hP Q' hn hr=>?_) ?_
 ·unfold eN;rw[if_neg (by rw[hc];exact List.cons_ne_nil _ _)]
 ·refine kd W b8 11 11 aJ (λgs S'=>S'.lam=S.lam/\wS S' (gs++r.flatMap (·.2))/\(gs++r.flatMap (·.2)).foldl fM S'=eN S B now) q.2 (t.1,t.2.2,t.2.2) hP (λt h=>jM W<|hn.n (t.1,some<|.d<|mO q,t.2.2) h) (λx gs t hP Q' hn hr=>?_) ⟨rfl,rfl⟩;obtain⟨h2,⟨⟨p1,p2,p3,p4,p5,p6,p7⟩,h3⟩,h4⟩:=hP;exact aI W (nn G t.1 (h2▸H) p1 p2 p3 p4 p5 p6 x p7) rfl rfl (aB _) (eO (bP ht)<|bP O) rfl<|hn.n (fM t.1 x,some<|.d<|b8 x,some<|.d<|b8 x) ⟨(nK t.1 x).trans h2,h3,h4⟩
 ·exact aI W (ua G (jL S B now) (bT S B now) ha ab z hz I) rfl rfl hN (eO (bP ht)<|bP O) rfl ⟨rfl,rfl⟩
end
end
section
set_option genInjectivity false
section
variable {C:Cx}
theorem wq(S:St)(x:aM):(jA S x).lam=S.lam:=by cases x<;>rfl
noncomputable def y8(S:St)(n:Int):St:={S with HB:={S.HB with Ht:=S.HB.Ht-(100+n)}}
noncomputable def oI(S:St)(q:Int×List aM):St:=q.2.foldl jA (y8 S q.1)
noncomputable def PreC(S:St)(x:aM):Prop:=S.Hk.G9.length<1000/\S.Hk.HG.length<1000/\S.log.length<=100/\x.ok S
noncomputable def Al(S:St):List aM->Prop
 |[]=>True
 |x::r=>PreC S x/\Al (jA S x) r
noncomputable def BE(S:St):List (Int×List aM)->Prop
 |[]=>True
 |q::r=>Al (y8 S q.1) q.2/\BE (oI S q) r
structure BM(S:St)(B now:Int):Prop where
 hB:S.sp.largest=some B
 ha:cU S.sp.Hd
 hz:S.sp.Hd.length<60
 Iy:∀q∈S.sp.Hd,q.2.isEmpty=false
 IU:∀q∈S.sp.Hd,0<=q.1/\q.1<100
 hak:S.sp.G9.length<1000
 hfi:∀f,S.HI.first=some f->∀q∈S.sp.Hd,q.1<=f
 hfl:∀q∈S.sp.Hd,q.2.length<=1000
 hR0:wS (u3 S B now) ((bT S B now).flatMap (·.2))
noncomputable def bB(S:St)(rs:List (Int×Int)):List (Int×List aM):=S.sp.Hd.filter λq=>cu rs q.1
noncomputable def jH(S:St)(n:Int):St:={S with sp:={S.sp with largest:=et S.sp.largest n}}
noncomputable def yw(S:St)(F:List (Int×List aM)):St:={S with sp:={S.sp with G9:=(Hu F).foldl fh S.sp.G9}}
noncomputable def fN(S:St)(rs:List (Int×Int))(hi now:Int)(q:Int×List aM):St:=js (yw (uT (jH S hi) (bB S rs)) (bB S rs)) q hi now
noncomputable def kA(S:St)(rs:List (Int×Int))(hi now:Int)(q:Int×List aM):St:=(bB S rs).foldl oI (fN S rs hi now q)
noncomputable def fR(S:St)(rs:List (Int×Int))(hi now:Int):St:=match(bB S rs).getLast? with
 |none=>jH S hi
 | some q=>match et S.sp.largest hi with
  |none=>S
  |some B=>{eN (kA S rs hi now q) B now with probe:=0}
theorem tC(l:Option Int)(n:Int):∃B,et l n=some B:=by
 unfold et
 split
 ·exact⟨_,rfl⟩
 ·split
  ·exact⟨_,rfl⟩
  ·exact⟨_,rfl⟩
theorem vz:∀(l:List aM)(S:St),(l.foldl fM S).lam=S.lam:=λl=>by
 induction l with
 | nil=>
  intro U;exact rfl
 | cons x l u=>
  intro S;exact(u<|fM S x).trans<|nK S x
theorem w8(S:St)(B now:Int):(eN S B now).lam=S.lam:=by
 unfold eN
 split
 ·rfl
 ·exact vz _ _
structure oB(S:St)(rs:List (Int×Int))(hi now:Int):Prop where
 ha:cU S.sp.Hd
 hz:S.sp.Hd.length<60
 Iy:∀q∈S.sp.Hd,q.2.isEmpty=false
 hfl:∀q∈S.sp.Hd,q.2.length<=1000
 hnx:hi<S.sp.HK
 hak:S.sp.G9.length+S.sp.Hd.length<=60
 hwin:S.HB.Ht+1200<=S.HB.H4
 hP:∀q,BE (fN S rs hi now q) (bB S rs)
 hL:∀q,(bB S rs).getLast? =some q->∀B,et S.sp.largest hi=some B->BM (kA S rs hi now q) B now
theorem tq(l:List (Int×List aM))(P:Int->Bool):(Hu l).filter P=Hu (l.filter λq=>P q.1):=by
 unfold Hu;refine(ys List.filter_map)▸?_;rfl
theorem wL(S:St)(q:Int×List aM)(hi now:Int):(js S q hi now).lam=S.lam:=by unfold js;split<;>rfl
theorem vx(S:St)(q:Int×List aM)(hi now:Int):(js S q hi now).HB=S.HB:=by unfold js;split<;>rfl
theorem qT(G:Gd C)(S:St)(H:xj C S.lam)(lo hi:Int)(rs:List (Int×Int))(J:rs.length<=1)(now:Int)(P:oB S ((lo,hi)::rs) hi now):
  Fd C 9 (.ref 226) [.at (.sk 0),.d (.str "application"),.d (iB ((lo,hi)::rs)),.d (.int now)] (aJ S) (.d .none) (aJ (fR S ((lo,hi)::rs) hi now)):=by
 revert G H J P;revert C S lo hi rs now;exists ce λC=>em λS=>aA λlo=>aA λhi=>aA λrs=>aA λnow=>aO _;intro C S lo hi rs now G H J P;have hl:((lo,hi)::rs).length<1000:=Nat.lt_of_le_of_lt (Nat.succ_le_succ J) (by decide);have D:Fd C 4 (.ref 553) [.at (.sk 4),.d (.seq<|de ((lo,hi)::rs))] (aJ S) (.d<|.seq<|(Hu<|bB S ((lo,hi)::rs)).map .int) (aJ S):=by
  have D:=qk G S ((lo,hi)::rs) P.hz P.ha hl;rw[tq] at D;exact D
 have I:∀q∈bB S ((lo,hi)::rs),q∈S.sp.Hd:=λq z=>(List.mem_filter.mp z).1;have ab:cU (bB S ((lo,hi)::rs)):=.sublist (.map _ List.filter_sublist) P.ha;have aa:(bB S ((lo,hi)::rs)).length<=S.sp.Hd.length:=List.length_filter_le ..;have hz:=Nat.lt_of_le_of_lt aa P.hz;have V:((Hu<|bB S ((lo,hi)::rs)).map DV.int).length=(bB S ((lo,hi)::rs)).length:=by rw[List.length_map,cy]
 refine aX G (aT G) ["conn","space","frame","now","place","numbers","packets","is_limited","packet","one"] 4 (by kernel_rfl) rfl rfl (by ac_rfl) trivial (aB _) λA L W Q hQ=>?_;revert W hQ;revert A L Q;exists cx λA=>aA λL=>aA λQ=>aO _;intro A L Q W hQ;refine aI W (jj G S (lo,hi) rs<|Nat.lt_of_le_of_lt J<|by decide) rfl rfl (aB S) aK rfl<|bL (λh=>absurd h<|Int.not_le.mpr P.hnx) λU=>?_
 refine aI W D rfl rfl (aB S) aK rfl<|aI W (li G S hi) rfl rfl (aB S) aK rfl ⟨by refine(ys V)▸?_;exact Nat.lt_trans hz (by decide),mC (λe=>?_) λe=>?_⟩
 ·have e2:bB S ((lo,hi)::rs)=[]:=List.length_eq_zero_iff.mp<|V▸Int.ofNat.inj e
  exact hQ rfl (by unfold fR;refine(ys e2)▸?_;rfl)
 obtain⟨q,z⟩:∃q,(bB S ((lo,hi)::rs)).getLast? =some q:=by
  match hm:bB S ((lo,hi)::rs) with
  |[]=>exact absurd (show(((Hu<|bB S ((lo,hi)::rs)).map DV.int).length:Int)=0 by refine(ys V)▸(ys hm)▸?_;rfl) e
  |q0::Lr=>exact⟨_,List.getLast?_eq_some_getLast<|List.cons_ne_nil _ _⟩
 revert z;revert q;exists aA λq=>aO _;intro q z;refine aP (tC S.sp.largest hi) λB hB=>?_;revert hB;revert B;exists aA λB=>aO _;intro B hB;have M:=qq G (fN S ((lo,hi)::rs) hi now q) 1200;rw[show(fN S ((lo,hi)::rs) hi now q).HB=S.HB from vx ..,decide_eq_true P.hwin] at M;refine aI W (ua G (jH S hi) (bB S ((lo,hi)::rs)) P.ha ab I P.hz hz) rfl rfl (aB _) aK rfl<|aI W (na G (uT (jH S hi)<|bB S ((lo,hi)::rs)) (Hu<|bB S ((lo,hi)::rs))<|by rw[cy];exact Nat.le_trans (Nat.add_le_add_left aa _) P.hak) rfl rfl (aB _) aK rfl ?_;refine aI W (mZ G (yw (uT (jH S hi)<|bB S ((lo,hi)::rs))<|bB S ((lo,hi)::rs)) H (bB S ((lo,hi)::rs)) hz (λq z=>P.Iy q<|I q z) q z lo hi rs now) rfl rfl (aB _) aK rfl<|aI W M rfl rfl (aB _) aK rfl ?_;refine q7 ⟨[some (.at (.sk 0)),some<|.d<|.str "application",some<|.d<|iB ((lo,hi)::rs),some<|.d<|.int now,some<|.at (.sk 4),some<|.d<|.seq<|(Hu<|bB S ((lo,hi)::rs)).map .int,some<|.d<|.seq<|(bB S ((lo,hi)::rs)).map mO,some<|.d<|.bool false,none,none],[],aJ<|fN S ((lo,hi)::rs) hi now q⟩ rfl<|kd W mO 8 9 aJ (λr N=>N.lam=S.lam/\BE N r/\r.foldl oI N=kA S ((lo,hi)::rs) hi now q/\∀q∈r,q∈S.sp.Hd) (bB S ((lo,hi)::rs)) (fN S ((lo,hi)::rs) hi now q,none,none) ⟨wL ..,P.hP q,rfl,I⟩ (λt h=>?_) (λp r t hP Q' hn hr=>?_) ⟨rfl,rfl⟩
 ·obtain⟨N,u,v⟩:=t;refine ji h λh1 h2 Z h4=>?_;have Z:N=kA S ((lo,hi)::rs) hi now q:=Z;clear h h2;subst Z;have L:=P.hL q z B hB;have ah:(eN (kA S ((lo,hi)::rs) hi now q) B now).lam=S.lam:=(w8 ..).trans h1;have H':xj C (eN (kA S ((lo,hi)::rs) hi now q) B now).lam:=ah▸H;refine jM W<|aI W (iV G (kA S ((lo,hi)::rs) hi now q) (h1▸H) B now L.hB L.ha L.hz L.Iy L.IU L.hak L.hfi L.hfl L.hR0) rfl rfl (aB _) aK rfl ?_
  refine aI W (lf G (eN (kA S ((lo,hi)::rs) hi now q) B now) H') rfl rfl (aB _) aK rfl<|kJ W (k:=.sk 1) rfl rfl H'.IR.2.2.1 (by kernel_rfl)<|lc W (H'.over {eN (kA S ((lo,hi)::rs) hi now q) B now with probe:=0} rfl) rfl (ms rfl) (aB _) aK rfl ?_
  exact hQ rfl (by unfold fR;refine(ys z)▸?_;dsimp only;exact(ys hB)▸rfl)
 ·refine ji hP λh1 af Z h4=>aL af λh2 ae=>nO (by refine(ys<|P.Iy _<|h4 _<|.head _)▸?_;rfl) ?_;refine aI W (eB G t.1) rfl rfl (aB _) aK rfl<|aI W (ot G t.1 (100+p.1) p.1 now _) rfl rfl (aB _) aK rfl ?_;refine kd W b8 9 9 aJ (λgs N=>N.lam=S.lam/\Al N gs/\gs.foldl jA N=oI t.1 p) p.2 (y8 t.1 p.1,t.2.2,t.2.2) ⟨h1,h2,rfl⟩ (λO h=>?_) (λx gs O hP Q' hn hr=>?_) ⟨rfl,rfl⟩
  ·exact jM W (hn.n (O.1,some<|.d<|mO p,O.2.2) ⟨h.1,by refine(ys<|show O.1=oI t.1 p from h.2.2)▸?_;exact ae,by refine(ys<|show O.1=oI t.1 p from h.2.2)▸?_;exact Z,λq z=>h4 q<|.tail _ z⟩)
  ·exact dK hP λg1 ag g3=>aL ag λad g2=>ji ad λp1 p2 p3 p4=>aI W (mT G O.1 (g1▸H) p1 p2 p3 x p4) rfl rfl (aB _) aK rfl<|hn.n (jA O.1 x,some<|.d<|b8 x,some<|.d<|b8 x) ⟨(wq O.1 x).trans g1,g2,g3⟩
end
end
section
noncomputable def Bi:vE:=⟨0,0,8*333000,2*333000,none⟩
noncomputable def yl:pw:=⟨min (10*1200) (max 14720 (2*1200)),none,none,0,0⟩
noncomputable def vq:jV:=⟨#[],[],[]⟩
theorem CR{m:aQ}{k:Nat}{o':PO}(h:j≠k):(m.set j o).set k o'=(m.set k o').set j o:=by
 funext n;unfold aQ.set
 by_cases e:n=k
 ·subst e;rw[if_pos rfl,if_neg<|λq=>h q.symm,if_pos rfl]
 ·exact(ys<|if_neg e)▸(ys<|if_neg e)▸rfl
theorem cp{m u:aQ}{o':PO}(h:m=aQ.set u j o'):aQ.set m j o=aQ.set u j o:=by exact(ys h)▸(ys fK)▸rfl
theorem GB{m u:aQ}{k:Nat}{x o':PO}(z:j≠k)(h:m=aQ.set u j o'):aQ.set m k x=aQ.set (aQ.set u k x) j o':=by rw[h,CR z]
section
variable {C:Cx}
theorem kE(G:Gd C){fI:Addr}(u:uk C.K D fI=true){n:Nat}{mem mem':aQ}(B:mem j=none)(z:Fd C n (.ref fI) (.at (.sk j)::xs) (mem.set j (.inst D [])) (.d .none) mem')(h:mem' j≠none):Fd C (n+1) (.ref D) xs mem (.at (.sk j)) mem':=
 BG (K:=λr m=>r=PV.at (.sk j)/\m=mem') G u B (Fn.mono z λU U q=>⟨q.1,by refine(ys q.2)▸?_;exact h,rfl,q.2⟩)
theorem ew{m:aQ}:m.set j o j≠none:=by refine(ys aQ.Ib)▸?_;exact Option.some_ne_none _
theorem EF(G:Gd C)(mem:aQ)(u:aN mem)(B:mem 6=none):Fd C 3 (.ref 93) [] mem (.at (.sk 6)) (mem.set 6 (.inst 93 (CT Bi))):=by
 refine kE G (fI:=62) (j:=6) (by kernel_rfl) B ?_ ew;exact aX G (aT G) ["self"] 1 (by kernel_rfl) rfl rfl (by ac_rfl) trivial (aF u rfl) λA L W Q z=>⟨.of_left (by decide),.of_left (by decide),z rfl<|cp<|cp<|cp<|cp<|cp rfl⟩
theorem om(G:Gd C)(mem:aQ)(u:aN mem)(B:mem 5=none):Fd C 3 (.ref 323) [] mem (.at (.sk 5)) (mem.set 5 (.inst 323 (zu vq))):=by
 refine kE G (fI:=285) (j:=5) (by kernel_rfl) B ?_ ew;exact aX G (gH G) ["self"] 1 (by kernel_rfl) rfl rfl (by ac_rfl) trivial (aF u rfl) λA L W Q z=>z rfl<|cp<|cp<|cp rfl
theorem tj(G:Gd C)(mem:aQ)(u:aN mem)(B:mem 7=none):Fd C 4 (.ref 428) [.d (.int 1200)] mem (.at (.sk 7)) (mem.set 7 (.inst 428 (Ez yl))):=by
 refine kE G (fI:=355) (j:=7) (by kernel_rfl) B ?_ ew;refine aX G (aT G) ["self","datagram"] 2 (by kernel_rfl) rfl rfl (by ac_rfl) trivial (aF u rfl) λA L W Q z=>aI W (jw G (aQ.set mem 7<|.inst 428 [("datagram",.d<|.int 1200)]) (aF u rfl) 1200) rfl (cp rfl) (aF u rfl) aK rfl ?_;exact z rfl<|cp<|cp<|cp<|cp<|cp rfl
theorem wF(G:Gd C)(mem:aQ)(u:aN mem)(B:mem 0=none)(hk:mem 23=none):Fd C 3 (.ref 605) [.d (.str "state")] mem (.at (.sk 0)) ((mem.set 23 (.G7 [])).set 0 (.inst 605 (gO "state" 23 gF))):=by
 refine kE G (fI:=492) (j:=0) (by kernel_rfl) B ?_ ew;refine aX G (gH G) ["self","name"] 2 (by kernel_rfl) rfl rfl (by ac_rfl) trivial (aF (aF u rfl) rfl) λA L W Q z=>d9 G 23 hk (z rfl<|cp<|cp<|cp<|cp<|cp<|cp<|cp<|cp<|cp<|cp<|cp<|cp<|cp<|cp<|GB (by decide)<|cp<|cp rfl)
theorem wk(G:Gd C)(mem:aQ)(u:aN mem)(B:mem 1=none)(hk:mem 24=none):Fd C 3 (.ref 605) [.d (.str "streams")] mem (.at (.sk 1)) ((mem.set 24 (.G7 [])).set 1 (.inst 605 (gO "streams" 24 gF))):=by
 refine kE G (fI:=492) (j:=1) (by kernel_rfl) B ?_ ew;refine aX G (gH G) ["self","name"] 2 (by kernel_rfl) rfl rfl (by ac_rfl) trivial (aF (aF u rfl) rfl) λA L W Q z=>d9 G 24 hk (z rfl<|cp<|cp<|cp<|cp<|cp<|cp<|cp<|cp<|cp<|cp<|cp<|cp<|cp<|cp<|GB (by decide)<|cp<|cp rfl)
theorem wo(G:Gd C)(mem:aQ)(u:aN mem)(B:mem 2=none)(hk:mem 25=none):Fd C 3 (.ref 605) [.d (.str "shake")] mem (.at (.sk 2)) ((mem.set 25 (.G7 [])).set 2 (.inst 605 (gO "shake" 25 gF))):=by
 refine kE G (fI:=492) (j:=2) (by kernel_rfl) B ?_ ew;refine aX G (gH G) ["self","name"] 2 (by kernel_rfl) rfl rfl (by ac_rfl) trivial (aF (aF u rfl) rfl) λA L W Q z=>d9 G 25 hk (z rfl<|cp<|cp<|cp<|cp<|cp<|cp<|cp<|cp<|cp<|cp<|cp<|cp<|cp<|cp<|GB (by decide)<|cp<|cp rfl)
theorem wm(G:Gd C)(mem:aQ)(u:aN mem)(B:mem 3=none)(hk:mem 26=none):Fd C 3 (.ref 605) [.d (.str "local")] mem (.at (.sk 3)) ((mem.set 26 (.G7 [])).set 3 (.inst 605 (gO "local" 26 gF))):=by
 refine kE G (fI:=492) (j:=3) (by kernel_rfl) B ?_ ew;refine aX G (gH G) ["self","name"] 2 (by kernel_rfl) rfl rfl (by ac_rfl) trivial (aF (aF u rfl) rfl) λA L W Q z=>d9 G 26 hk (z rfl<|cp<|cp<|cp<|cp<|cp<|cp<|cp<|cp<|cp<|cp<|cp<|cp<|cp<|cp<|GB (by decide)<|cp<|cp rfl)
theorem vO(G:Gd C)(mem:aQ)(u:aN mem)(B:mem 4=none)(hk:mem 10=none):Fd C 3 (.ref 605) [.d (.str "application")] mem (.at (.sk 4)) ((mem.set 10 (.G7 [])).set 4 (.inst 605 (gO "application" 10 gF))):=by
 refine kE G (fI:=492) (j:=4) (by kernel_rfl) B ?_ ew;refine aX G (gH G) ["self","name"] 2 (by kernel_rfl) rfl rfl (by ac_rfl) trivial (aF (aF u rfl) rfl) λA L W Q z=>d9 G 10 hk (z rfl<|cp<|cp<|cp<|cp<|cp<|cp<|cp<|cp<|cp<|cp<|cp<|cp<|cp<|cp<|GB (by decide)<|cp<|cp rfl)
end
end
section
set_option genInjectivity false
section
theorem nh(z:Pos)(r:List Value)(l:List Value):TriplesOk l->codeAmong z l=none->codeAmong z (l++r)=codeAmong z r:=by
 fun_induction TriplesOk l with
 |case1=>intro _ _;rfl
 | case2 a t b u c rest B=>
  intro h hn;rw[List.cons_append,List.cons_append,List.cons_append];rw[codeAmong] at hn⊢
  split at hn
  ·exact jg hn
  ·rename_i q
   rw[if_neg q];exact B h hn
 |case3=>intro h;exact h.elim
theorem qQ(r:List Value)(l:List Value):TriplesOk l->TriplesOk r->TriplesOk (l++r):=by
 fun_induction TriplesOk l with
 |case1=>intro _ h;exact h
 |case2 a t b u c rest B=>intro h z;exact B h z
 |case3=>intro h;exact h.elim
structure FO(ps ps':Array Value)(pos:Pos):Prop where
 ok:TriplesOk ps'.toList
 ne:∀pos':Pos,codeAmong pos' ps.toList=none->(pos.line==pos'.line&&pos.col==pos'.col)=false->codeAmong pos' ps'.toList=none
theorem Ai{ps:Array Value}(h:TriplesOk ps.toList)(pos:Pos)(c:Value):FO ps (ps++#[rawInt pos.line,rawInt pos.col,c]) pos:=by
 refine⟨?_,λu hn z=>?_⟩
 ·rw[Array.toList_append];exact qQ _ _ h trivial
 ·rw[Array.toList_append,nh _ _ _ h hn];show codeAmong u [rawInt pos.line,rawInt pos.col,c]=none;unfold rawInt;rw[codeAmong,if_neg]
  ·rfl
  ·intro q;simp only[Bool.and_eq_true,beq_iff_eq] at q;simp only[Bool.and_eq_false_iff,beq_eq_false_iff_ne] at z
   lia
theorem ik{C:Cx}{f:Fc}(G:Gd C)(V:Fs C)(P:DV->Prop){ps:Array Value}{c T:Addr}{params:Arguments}{body:Expr}{pos:Pos}(S:σ.get (.sk 22)=some (.Hb T (tabObj ps)))(u:f.env.code= .ref c)(W:codeHdIn C.K c T=true)(O:TriplesOk ps.toList)(N:codeAmong pos ps.toList=none)
  (I:closureFor scope f.env=pure cl) (B:defaultsOf params f.env=([],[])) (U:∀qual,P (.lam params body scope qual cl)) (q:∀(z:Array Value)(J:DV),FO ps z pos->J.H5=true->P J->Q (.d J) (σ.put (.sk 22) (.Hb T (tabObj z)))):Ev C A f (.Lambda params body scope pos) σ Q:=
 Ds G V S u W O N I B λc'=>q _ _ (Ai O pos<|.ref c') rfl<|U _
noncomputable def CJ(C:Cx)(c:Addr)(b:Bool)(dv:DV):Prop:=∀(S:St)(q:aM),S.lam.c=c->S.log.length<=100->xl C 4 dv [.d (b8 q)] (aJ S) λr m=>r= .d .none/\m=aJ (fU S b q)
noncomputable def BW(C:Cx)(c:Addr)(d:DV)(dv:DV):Prop:=∀(S:St),S.lam.c=c->xl C 4 dv [] (aJ S) λr m=>r= .d d/\m=aJ S
noncomputable def ph(C:Cx)(S:St)(box:List Int)(bk:Int):Prop:=
 (∀x y,xj C {S.lam with fr1:=x,fr2:=y})/\S.lam.fr1=none/\S.lam.fr2=none/\S.sp=gF/\S.Hk=vq/\S.HI=Bi/\S.HB=yl/\S.log=[]/\S.Hq=[]/\S.probe=2/\S.hw=false/\S.Hc=box/\S.Hg=bk
noncomputable def DC(box:List Int)(bk:Int):aQ:=eG [none,none,none,none,none,none,none,none,none,none,none,some (.Ha []),none,none,none,none,none,none,none,none,some (.HA [.seq (box.map .int),.int bk]),none,some (.Hb 625 (tabObj #[])),none,none,none,none,none,none]
theorem ij{m:aQ}(h:aN m):aN (dA m):=λn o e=>by
 unfold dA at e
 split at e
 ·cases e
 ·exact h n o e
theorem qy{m:aQ}{x:PO}(u:j≠21)(h:m 21=some (some o)):mL o (aQ.set (dA m) j x)=aQ.set m j x:=by
 funext n;unfold mL aQ.set dA
 by_cases e:n=21
 ·subst e;rw[if_pos rfl,if_neg<|λq=>u q.symm,h]
 ·rw[if_neg e,if_neg e]
variable {C:Cx}
theorem g5{l:List (Option PO)}(h:(l.all λo=>match o with|none=>true|some o=>o.HM)=true):aN (eG l):=nU λo u=>by rw[List.all_eq_true] at h;exact h _ u
theorem ve{q:aM}:aQ.set (aJ S) 11 (.Ha (S.log.map gL++[gL (b,q)]))=aJ (fU S b q):=by
 rw[show S.log.map gL++[gL (b,q)]=(S.log++[(b,q)]).map gL from by rw[List.map_append];rfl];exact AS
theorem pg(G:Gd C)(GL:Fs C)(u:List Int)(bk:Int):Fn C 6 (.ref 630) [.at (.sk 11)] (DC u bk) λr m=>∃S,r= .at (.sk 0)/\m=aJ S/\ph C S u bk:=by
 revert G GL;revert C u bk;exists ce λC=>aA λu=>aA λbk=>aO _;intro C u bk G GL;refine CZ G (uh G) ["log","conn","streams","shake","local"] 1 0 "log" (by kernel_rfl) rfl (by kernel_rfl) rfl rfl (by ac_rfl) λA L c hc W Q hQ=>?_;obtain rfl:L+1=c:=oi hc;have hm:aN (DC u bk):=g5 rfl;refine aI W (wF G _ hm rfl rfl) rfl rfl hm aK rfl<|aI W (wk G _ (aF (aF hm rfl) rfl) rfl rfl) rfl rfl (aF (aF hm rfl) rfl) aK rfl ?_;refine aI W (wo G _ (aF (aF (aF (aF hm rfl) rfl) rfl) rfl) rfl rfl) rfl rfl (aF (aF (aF (aF hm rfl) rfl) rfl) rfl) aK rfl<|aI W (wm G _ (aF (aF (aF (aF (aF (aF hm rfl) rfl) rfl) rfl) rfl) rfl) rfl rfl) rfl rfl (aF (aF (aF (aF (aF (aF hm rfl) rfl) rfl) rfl) rfl) rfl) aK rfl ?_;refine yp ⟨[some (.at (.sk 11)),some<|.at (.sk 0),some<|.at (.sk 1),some<|.at (.sk 2),some (.at (.sk 3))],[],eG [some (.inst 605<|gO "state" 23 gF),some<|.inst 605<|gO "streams" 24 gF,some<|.inst 605<|gO "shake" 25 gF,some<|.inst 605<|gO "local" 26 gF,none,none,none,none,none,none,none,some<|.Ha [],none,none,none,none,none,none,none,none,some<|.HA [.seq (u.map .int),.int bk],none,some<|.Hb 625<|tabObj #[],some<|.G7 [],some<|.G7 [],some<|.G7 [],some<|.G7 [],none,none]⟩ (o5 (ms<|ms<|ms<|ms<|ms<|ms<|ms<|ms rfl)|>.trans rfl)<|ik G GL (CJ C (L+1) true) (c:=629) (ps:=#[]) (T:=625) rfl rfl (by kernel_rfl) trivial rfl (by with_unfolding_all rfl) rfl (λqual S q z hl=>?_) ?_
 ·refine jW G (aT G) (ps:=["frame"]) (ns:=["frame","log"]) (c:=L+1) (x21:=.at (.sk 11)) {kind:=rfl,co:=rfl,gen:=rfl,cell:=by decide+kernel,one:=.inr ⟨_,rfl⟩,par:=by decide+kernel,Iu:=.inr (u6 _ rfl rfl (by decide+kernel)<|by decide+kernel),nodup:=by decide+kernel,bind:=?_} (by kernel_rfl) rfl (by rw[<-z];rfl) rfl ?_
  ·intro name qual body pm V ct vs U;refine GI U λa0=>?_;show bindArgs _ _=_
   kernel_rfl
  ·intro A' L' fa c' W';exact⟨by rw[List.length_map];exact Nat.le_trans hl (by decide),trivial,aF (ij<|aB S) rfl,rfl,(qy (by decide)<|by rw[<-z];rfl).trans<|ve (b:=true) (q:=q)⟩
 intro au J O aw ag;refine ik G GL (CJ C (L+1) false) (c:=629) (ps:=au) (T:=625) rfl rfl (by kernel_rfl) O.ok (O.ne _ rfl rfl) (by with_unfolding_all rfl) rfl (λqual S q z hl=>?_) ?_
 ·refine jW G (aT G) (ps:=["frame"]) (ns:=["frame","log"]) (c:=L+1) (x21:=.at (.sk 11)) {kind:=rfl,co:=rfl,gen:=rfl,cell:=by decide+kernel,one:=.inr ⟨_,rfl⟩,par:=by decide+kernel,Iu:=.inr (u6 _ rfl rfl (by decide+kernel)<|by decide+kernel),nodup:=by decide+kernel,bind:=?_} (by kernel_rfl) rfl (by rw[<-z];rfl) rfl ?_
  ·intro name qual body pm V ct vs U;refine GI U λa0=>?_;show bindArgs _ _=_
   kernel_rfl
  ·intro A' L' fa c' W';exact⟨by rw[List.length_map];exact Nat.le_trans hl (by decide),trivial,aF (ij<|aB S) rfl,rfl,(qy (by decide)<|by rw[<-z];rfl).trans<|ve (b:=false) (q:=q)⟩
 intro ai B Z a1 am;refine ik G GL (BW C (L+1) .none) (c:=629) (ps:=ai) (T:=625) rfl rfl (by kernel_rfl) Z.ok (Z.ne _ (O.ne _ rfl rfl) rfl) (by with_unfolding_all rfl) rfl (λqual S z=>?_) ?_
 ·refine jW G (aT G) (ps:=[]) (ns:=[]) (c:=L+1) (x21:=.at (.sk 11)) {kind:=rfl,co:=rfl,gen:=rfl,cell:=by decide+kernel,one:=.inl rfl,par:=by decide+kernel,Iu:=.inl ⟨rfl,rfl⟩,nodup:=by decide+kernel,bind:=?_} (by kernel_rfl) rfl (by rw[<-z];rfl) rfl ?_
  ·intro name qual body pm V ct vs U;refine tA U ?_;show bindArgs _ _=_
   kernel_rfl
  ·intro A' L' fa c' W';exact⟨trivial,ij<|aB S,rfl,iw<|by rw[<-z];rfl⟩
 intro I N aa aj ar;refine d9 G 14 rfl<|yp ⟨[some (.at (.sk 11)),some<|.at (.sk 0),some<|.at (.sk 1),some<|.at (.sk 2),some (.at (.sk 3))],[],eG [some (.inst 605<|gO "state" 23 gF),some<|.inst 605<|gO "streams" 24 gF++([("on_acked",.d J),("on_lost",.d B),("close_over",.d N)]:List (Str×PV)),some<|.inst 605<|gO "shake" 25 gF++([("is_confirmed",.d<|.bool false)]:List (Str×PV)),some<|.inst 605<|gO "local" 26 gF++([("next_sequence",.d<|.int 0),("issued",.at (.sk 14))]:List (Str×PV)),none,none,none,none,none,none,none,some<|.Ha [],none,none,some<|.G7 [],none,none,none,none,none,some<|.HA [.seq (u.map .int),.int bk],none,some<|.Hb 625<|tabObj I,some<|.G7 [],some<|.G7 [],some<|.G7 [],some<|.G7 [],none,none]⟩ (o5 (ms (ms<|ms<|ms<|ms<|ms<|ms<|ms<|ms<|ms rfl)|>.trans rfl)) ?_;have hB:aN (eG [some (.inst 605<|gO "state" 23 gF),some<|.inst 605<|gO "streams" 24 gF++([("on_acked",.d J),("on_lost",.d B),("close_over",.d N)]:List (Str×PV)),some<|.inst 605<|gO "shake" 25 gF++([("is_confirmed",.d<|.bool false)]:List (Str×PV)),some<|.inst 605<|gO "local" 26 gF++([("next_sequence",.d<|.int 0),("issued",.at (.sk 14))]:List (Str×PV)),none,none,none,none,none,none,none,some<|.Ha [],none,none,some<|.G7 [],none,none,none,none,none,some<|.HA [.seq (u.map .int),.int bk],none,some<|.Hb 625<|tabObj I,some<|.G7 [],some<|.G7 [],some<|.G7 [],some<|.G7 [],none,none]):=g5 rfl;refine ia G 8 rfl rfl rfl (List.cons_ne_nil _ _) (by decide)<|cF<|bK W 1000 (.ev _ _) _ ?_
 refine aI W (vO G _ (aF hB rfl) rfl rfl) rfl rfl (aF hB rfl) aK rfl<|iA ⟨List.pairwise_singleton ..,rfl,?_⟩
 refine ia G 9 rfl rfl rfl (List.cons_ne_nil _ _) (by decide)<|cF<|bK W 1000 (.ev _ _) _ ?_
 refine aI W (om G _ (aF (aF (aF (aF (aF hB rfl) rfl) rfl) rfl) rfl) rfl) rfl rfl (aF (aF (aF (aF (aF hB rfl) rfl) rfl) rfl) rfl) aK rfl<|iA ⟨List.pairwise_singleton ..,rfl,?_⟩
 refine Gp ⟨[some (.at (.sk 11)),some<|.at (.sk 0),some<|.at (.sk 1),some<|.at (.sk 2),some (.at (.sk 3))],[],eG [some (.inst 605<|gO "state" 23 gF++([("spaces",.at (.sk 8)),("crypto_out",.at (.sk 9))]:List (Str×PV))),some<|.inst 605<|gO "streams" 24 gF++([("on_acked",.d J),("on_lost",.d B),("close_over",.d N)]:List (Str×PV)),some<|.inst 605<|gO "shake" 25 gF++([("is_confirmed",.d<|.bool false)]:List (Str×PV)),some<|.inst 605<|gO "local" 26 gF++([("next_sequence",.d<|.int 0),("issued",.at (.sk 14))]:List (Str×PV)),some<|.inst 605<|gO "application" 10 gF,some<|.inst 323<|zu vq,none,none,some<|.Hh [("application",.at (.sk 4))],some<|.Hh [("application",.at (.sk 5))],some<|.G7 [],some<|.Ha [],none,none,some<|.G7 [],none,none,none,none,none,some<|.HA [.seq (u.map .int),.int bk],none,some<|.Hb 625<|tabObj I,some<|.G7 [],some<|.G7 [],some<|.G7 [],some<|.G7 [],none,none]⟩ (o5 (ms (ms<|ms<|ms<|ms<|ms<|ms<|ms<|ms rfl)|>.trans rfl)) ?_;have hE:aN (eG [some (.inst 605<|gO "state" 23 gF++([("spaces",.at (.sk 8)),("crypto_out",.at (.sk 9))]:List (Str×PV))),some<|.inst 605<|gO "streams" 24 gF++([("on_acked",.d J),("on_lost",.d B),("close_over",.d N)]:List (Str×PV)),some<|.inst 605<|gO "shake" 25 gF++([("is_confirmed",.d<|.bool false)]:List (Str×PV)),some<|.inst 605<|gO "local" 26 gF++([("next_sequence",.d<|.int 0),("issued",.at (.sk 14))]:List (Str×PV)),some<|.inst 605<|gO "application" 10 gF,some<|.inst 323<|zu vq,none,none,some<|.Hh [("application",.at (.sk 4))],some<|.Hh [("application",.at (.sk 5))],some<|.G7 [],some<|.Ha [],none,none,some<|.G7 [],none,none,none,none,none,some<|.HA [.seq (u.map .int),.int bk],none,some<|.Hb 625<|tabObj I,some<|.G7 [],some<|.G7 [],some<|.G7 [],some<|.G7 [],none,none]):=g5 rfl;refine aI W (EF G _ hE rfl) rfl rfl hE aK rfl<|aI W (tj G _ (aF hE rfl) rfl) rfl rfl (aF hE rfl) aK rfl ?_;refine ia G 13 rfl rfl rfl (List.cons_ne_nil _ _) (by decide)<|cF<|bK W 1000 (.ev _ _) _<|iA ⟨List.pairwise_singleton ..,rfl,?_⟩
 refine jv 12<|da<|⟨Nat.zero_le _,rfl,aD _ rfl ?_⟩
 refine yp ⟨[some (.at (.sk 11)),some<|.at (.sk 0),some<|.at (.sk 1),some<|.at (.sk 2),some (.at (.sk 3))],[],eG [some (.inst 605<|gO "state" 23 gF++([("spaces",.at (.sk 8)),("crypto_out",.at (.sk 9)),("rtt",.at (.sk 6)),("control",.at (.sk 7)),("config",.at (.sk 13)),("streams",.at (.sk 1)),("shake",.at (.sk 2)),("local",.at (.sk 3)),("owed",.at (.sk 12)),("probe_count",.d<|.int 2)]:List (Str×PV))),some<|.inst 605<|gO "streams" 24 gF++([("on_acked",.d J),("on_lost",.d B),("close_over",.d N)]:List (Str×PV)),some<|.inst 605<|gO "shake" 25 gF++([("is_confirmed",.d<|.bool false)]:List (Str×PV)),some<|.inst 605<|gO "local" 26 gF++([("next_sequence",.d<|.int 0),("issued",.at (.sk 14))]:List (Str×PV)),some<|.inst 605<|gO "application" 10 gF,some<|.inst 323<|zu vq,some<|.inst 93<|CT Bi,some<|.inst 428<|Ez yl,some<|.Hh [("application",.at (.sk 4))],some<|.Hh [("application",.at (.sk 5))],some<|.G7 [],some<|.Ha [],some<|.Ha [],some<|.Hh [("datagram",.d<|.int 1200)],some<|.G7 [],none,none,none,none,none,some<|.HA [.seq (u.map .int),.int bk],none,some<|.Hb 625<|tabObj I,some<|.G7 [],some<|.G7 [],some<|.G7 [],some<|.G7 [],none,none]⟩ (o5 (ms (ms<|ms<|ms<|ms<|ms<|ms<|ms<|ms<|ms<|ms<|ms<|ms rfl)|>.trans rfl))<|ik G GL (BW C (L+1)<|.bool false) (c:=629) (ps:=I) (T:=625) rfl rfl (by kernel_rfl) aa.ok (aa.ne _ (Z.ne _ (O.ne _ rfl rfl) rfl) rfl) (by with_unfolding_all rfl) rfl (λqual S z=>?_) ?_
 ·refine jW G (aT G) (ps:=[]) (ns:=[]) (c:=L+1) (x21:=.at (.sk 11)) {kind:=rfl,co:=rfl,gen:=rfl,cell:=by decide+kernel,one:=.inl rfl,par:=by decide+kernel,Iu:=.inl ⟨rfl,rfl⟩,nodup:=by decide+kernel,bind:=?_} (by kernel_rfl) rfl (by rw[<-z];rfl) rfl ?_
  ·intro name qual body pm V ct vs U;refine tA U ?_;show bindArgs _ _=_
   kernel_rfl
  ·intro A' L' fa c' W';exact⟨trivial,ij<|aB S,rfl,iw<|by rw[<-z];rfl⟩
 intro ah av ab an ak;refine ik G GL (BW C (L+1)<|.int 3) (c:=629) (ps:=ah) (T:=625) rfl rfl (by kernel_rfl) ab.ok (ab.ne _ (aa.ne _ (Z.ne _ (O.ne _ rfl rfl) rfl) rfl) rfl) (by with_unfolding_all rfl) rfl (λqual S z=>?_) ?_
 ·refine jW G (aT G) (ps:=[]) (ns:=[]) (c:=L+1) (x21:=.at (.sk 11)) {kind:=rfl,co:=rfl,gen:=rfl,cell:=by decide+kernel,one:=.inl rfl,par:=by decide+kernel,Iu:=.inl ⟨rfl,rfl⟩,nodup:=by decide+kernel,bind:=?_} (by kernel_rfl) rfl (by rw[<-z];rfl) rfl ?_
  ·intro name qual body pm V ct vs U;refine tA U ?_;show bindArgs _ _=_
   kernel_rfl
  ·intro A' L' fa c' W';exact⟨trivial,ij<|aB S,rfl,iw<|by rw[<-z];rfl⟩
 intro ay al ad aq ao;refine ik G GL (BW C (L+1)<|.int 25000) (c:=629) (ps:=ay) (T:=625) rfl rfl (by kernel_rfl) ad.ok (ad.ne _ (ab.ne _ (aa.ne _ (Z.ne _ (O.ne _ rfl rfl) rfl) rfl) rfl) rfl) (by with_unfolding_all rfl) rfl (λqual S z=>?_) ?_
 ·refine jW G (aT G) (ps:=[]) (ns:=[]) (c:=L+1) (x21:=.at (.sk 11)) {kind:=rfl,co:=rfl,gen:=rfl,cell:=by decide+kernel,one:=.inl rfl,par:=by decide+kernel,Iu:=.inl ⟨rfl,rfl⟩,nodup:=by decide+kernel,bind:=?_} (by kernel_rfl) rfl (by rw[<-z];rfl) rfl ?_
  ·intro name qual body pm V ct vs U;refine tA U ?_;show bindArgs _ _=_
   kernel_rfl
  ·intro A' L' fa c' W';exact⟨trivial,ij<|aB S,rfl,iw<|by rw[<-z];rfl⟩
 intro af ae a2 ap az;refine hQ<|⟨Option.some_ne_none _,(aF (aF (aF (aF (aF (aF ((g5 rfl)) rfl) rfl) rfl) rfl) rfl) rfl),rfl,rfl,Option.some_ne_none _,bD ({lam:=⟨L+1,J,B,N,av,al,ae,none,none⟩,sp:=gF,Hk:=vq,HI:=Bi,HB:=yl,log:=[],Hq:=[],probe:=2,Hc:=u,Hg:=bk,hw:=false,Hf:=[],w:=⟨0,none,0,none⟩,Hr:=[],Hi:=[],Hm:=[],Hn:=[],ps:=af}) rfl (ms (ms<|ms<|ms<|ms<|ms<|ms rfl)|>.trans rfl) ?_⟩
 exact⟨λx y=>⟨⟨aw,a1,aj,an,aq,ap⟩,λS q e=>ag S q (by rw[e]),λS q e=>am S q (by rw[e]),λS e=>ar S (by rw[e]),λS e=>ak S (by rw[e]),λS e=>ao S (by rw[e]),λS e=>az S<|by rw[e]⟩,rfl,rfl,rfl,rfl,rfl,rfl,rfl,rfl,rfl,rfl,rfl,rfl⟩
end
end
section
section
variable {C:Cx}
noncomputable def dp(sc:List Int)(k many:Int):Int:=if k<=sc.length then(if sc.getD (k-1).toNat 0<0 then-sc.getD (k-1).toNat 0 else sc.getD (k-1).toNat 0).fmod many else(7*k+k.fdiv 4).fmod many
theorem jJ(u:List Int)(k many:Int)(h:0<many):0<=dp u k many/\dp u k many<many:=by
 unfold dp
 split
 ·exact⟨Int.fmod_nonneg_of_pos _ h,Int.fmod_lt_of_pos _ h⟩
 ·exact⟨Int.fmod_nonneg_of_pos _ h,Int.fmod_lt_of_pos _ h⟩
noncomputable def bF(S:St):St:={S with Hg:=S.Hg+1}
theorem cL(G:Gd C)(S:St)(u:Int)(I:0<u)(hk:0<=S.Hg)(z:S.Hg<1000)(J:S.Hc.length<1000):Fd C 2 (.ref 623) [.at (.sk 20),.d (.int u)] (aJ S) (.d (.int (dp S.Hc (S.Hg+1) u))) (aJ (bF S)):=by
 revert G I hk z J;revert C S u;exists ce λC=>em λS=>aA λu=>aO _;intro C S u G I hk z J;refine aX G (aT G) ["box","many"] 2 (by kernel_rfl) rfl rfl (by ac_rfl) trivial (aB _) λA L W Q B=>?_;revert W B;revert A L Q;exists cx λA=>aA λL=>aA λQ=>aO _;intro A L Q W B;refine ge (po:=.HA [.seq (S.Hc.map .int),.int S.Hg]) rfl rfl (y:=.int S.Hg) jp (by decide) (by decide)<|xE (k:=1) (po:=.HA [.seq (S.Hc.map .int),.int S.Hg]) rfl rfl (bl_ rfl) (bl_ rfl) ?_;refine ge (po:=.HA [.seq (S.Hc.map .int),.int (S.Hg+1)]) rfl rfl (y:=.int<|S.Hg+1) jp (by decide) (by decide) (ge (po:=.HA [.seq (S.Hc.map .int),.int (S.Hg+1)]) rfl rfl (y:=.seq<|S.Hc.map .int) rM (by decide) (by decide) ⟨by rw[List.length_map];exact bw [_] [] 0x1f41480081c3502280081 ft J,bL (λe=>?_) λe=>?_⟩)
 ·rw[List.length_map] at e;have N:S.Hg+1-1=(S.Hg.toNat:Int):=by lia
  have O:S.Hg.toNat<S.Hc.length:=by exact dD [_,_] [_] 0x1e0a8280bab04478280b302200081 ft e N
  refine ge (po:=.HA [.seq (S.Hc.map .int),.int (S.Hg+1)]) rfl rfl (y:=.seq<|S.Hc.map .int) rM (by decide) (by decide) (ge (po:=.HA [.seq (S.Hc.map .int),.int (S.Hg+1)]) rfl rfl (y:=.int<|S.Hg+1) jp (by decide) (by decide)<|fg (y:=.int<|S.Hc.getD S.Hg.toNat 0) (by rw[N];exact lI<|by rw[List.getElem?_map,List.getElem?_eq_getElem O];simp[List.getD,O]) (by lia) ⟨Int.ne_of_gt I,B ?_<|ms rfl⟩);unfold dp;rw[if_pos e,N,Int.toNat_natCast];rfl
 ·rw[List.length_map] at e;refine ge (po:=.HA [.seq (S.Hc.map .int),.int (S.Hg+1)]) rfl rfl (y:=.int<|S.Hg+1) jp (by decide) (by decide) ⟨.of_left (by decide),ge (po:=.HA [.seq (S.Hc.map .int),.int (S.Hg+1)]) rfl rfl (y:=.int<|S.Hg+1) jp (by decide) (by decide) ⟨by decide,by rfl,Int.ne_of_gt I,B ?_<|ms rfl⟩⟩;unfold dp;rw[if_neg e];rfl
noncomputable def y6(fs:List aM):Prop:=(∃k,fs=[.stream k])\/fs=[.Hs,.Hw]\/(∃k,fs=[.Hl k])\/fs=[.Ho]
noncomputable def lT(S:St)(q:Int×Int)(fs:List aM)(S':St):Prop:=
 ∃ k,S.Hg<k/\k<=S.Hg+2/\(((fs=[.Hp q.1 (ee S.Hk.data q)]\/∃j,fs=[.Hp q.1 (ee S.Hk.data q),.stream j])/\S'={S with Hg:=k,Hk:={S.Hk with HG:=bI q.1 (min q.2 (q.1+4)) [q]}})\/
  (y6 fs/\S'={S with Hg:=k}))
noncomputable def oN(S:St)(q:Int×Int):St:={S with Hk:={S.Hk with HG:=bI q.1 (min q.2 (q.1+4)) [q]}}
theorem gY(G:Gd C)(S:St)(q:Int×Int)(z:S.Hk.HG=[q])(u:q.1<q.2)(B:S.Hk.data.size<1000):Fd C 3 (.ref 299) [.at (.sk 5),.d (.int 4)] (aJ S)
  (.d (.tup [.int q.1,.bytes (ee S.Hk.data q)])) (aJ (oN S q)):=m8 G S q [] z u B<|Nat.zero_lt_succ _
theorem mV(G:Gd C)(S:St)(q:Int×Int)(U:S.Hk.HG=[q])(O:q.1<q.2)(I:S.Hk.data.size<1000)(hk:0<=S.Hg)(z:S.Hg<900)(N:S.Hc.length<1000):Fn C 5 (.ref 637) [.at (.sk 20),.at (.sk 0)] (aJ S) λr m=>∃fs S',r= .d (.seq (fs.map b8))/\m=aJ S'/\lT S q fs S':=by
 revert G U O I hk z N;revert C S q;exists ce λC=>em λS=>aA λq=>aO _;intro C S q G U O I hk z N;have D:=cL G S 6 (by decide) hk (bw [] [_] 0x3842901403f41480a01 ft z) N;have V:=jJ S.Hc (S.Hg+1) 6 (by decide);have Z:=cL G (bF S) 2 (by decide) (show(0:Int)<=S.Hg+1 by exact bw [] [_] 0x1011818280b01181 ft hk) (show S.Hg+1<1000 by exact bw [] [_] 0x7085202807e82941405a01 ft z) N;have D3:=cL G (oN (bF S) q) 2 (by decide) (show(0:Int)<=S.Hg+1 by exact bw [] [_] 0x1011818280b01181 ft hk) (show S.Hg+1<1000 by exact bw [] [_] 0x7085202807e82941405a01 ft z) N;have J:S.Hg<S.Hg+1/\S.Hg+1<=S.Hg+2:=by exact⟨jO [] [_] 140126194177 ft,jO [] [_] 0x82405c1405981 ft⟩
 have k2:S.Hg<S.Hg+1+1/\S.Hg+1+1<=S.Hg+2:=by exact⟨jO [] [_] 0x41505016c0a01 ft,jO [] [_] 0x10480b82a0a02d981 ft⟩
 generalize dp S.Hc (S.Hg+1) 6=B at D V;revert D V;revert B;exists aA λB=>aO _;intro B D V;have hc:B=0\/B=1\/B=2\/B=3\/B=4\/B=5:=by lia
 rcases hc with rfl|rfl|rfl|rfl|rfl|rfl
 ·
  refine gi G (aT G) 6 ["box","conn","form","chunk","found"] 2 (by kernel_rfl) rfl rfl (by ac_rfl) (by kernel_rfl) λA L W Q u=>?_;revert W u;revert A L Q;exists cx λA=>aA λL=>aA λQ=>aO _;intro A L Q W u;refine aI W D rfl rfl (aB _) aK rfl<|aI W (gY G (bF S) q U O I) rfl rfl (aB _) aK rfl ?_
  exact jM W<|u<|⟨trivial,aB _,bE [aM.Hp q.1 (ee S.Hk.data q)] (oN (bF S) q) rfl rfl<|bD (S.Hg+1) J.1 J.2<|.inl ⟨.inl rfl,rfl⟩⟩
 ·
  refine gi G (uh G) 6 ["box","conn","form","chunk","found"] 2 (by kernel_rfl) rfl rfl (by ac_rfl) (by kernel_rfl) λA L W Q u=>?_;revert W u;revert A L Q;exists cx λA=>aA λL=>aA λQ=>aO _;intro A L Q W u;refine aI W D rfl rfl (aB _) aK rfl<|aI W (gY G (bF S) q U O I) rfl rfl (aB _) aK rfl ?_
  refine fj<|bK W 1000 (.es _ _) _ ?_ _
  refine⟨bl_ rfl,aD _ rfl ?_⟩;refine aI W D3 rfl rfl (aB _) (db rfl) rfl ⟨.of_left (by decide),bl_ rfl,?_⟩;exact hU W 0 (.seq<|List.map b8 [aM.Hp q.1 (ee S.Hk.data q),aM.stream (dp S.Hc (S.Hg+1+1) 2)]) [_,_,_,_,some (.d<|.seq<|List.map b8 [aM.Hp q.1 (ee S.Hk.data q),aM.stream (dp S.Hc (S.Hg+1+1) 2)])] rfl rfl rfl
   (u<|⟨trivial,aB _,bE [aM.Hp q.1 (ee S.Hk.data q),aM.stream (dp S.Hc (S.Hg+1+1) 2)] (bF<|oN (bF S) q) rfl rfl<|bD (S.Hg+1+1) k2.1 k2.2<|.inl ⟨.inr ⟨_,rfl⟩,rfl⟩⟩)
 ·
  refine gi G (aT G) 6 ["box","conn","form","chunk","found"] 2 (by kernel_rfl) rfl rfl (by ac_rfl) (by kernel_rfl) λA L W Q u=>?_;revert W u;revert A L Q;exists cx λA=>aA λL=>aA λQ=>aO _;intro A L Q W u;refine aI W D rfl rfl (aB _) aK rfl (aI W Z rfl rfl (aB _) (db rfl) rfl ⟨.of_left (by decide),bl_ rfl,?_⟩);exact hU W 0 (.seq<|List.map b8 [aM.stream (dp S.Hc (S.Hg+1+1) 2)]) [_,_,_,_,some (.d<|.seq<|List.map b8 [aM.stream (dp S.Hc (S.Hg+1+1) 2)])] rfl rfl rfl
   (u<|⟨trivial,aB _,bE [aM.stream (dp S.Hc (S.Hg+1+1) 2)] (bF<|bF S) rfl rfl<|bD (S.Hg+1+1) k2.1 k2.2<|.inr ⟨.inl ⟨_,rfl⟩,rfl⟩⟩)
 ·
  refine gi G (aT G) 6 ["box","conn","form","chunk","found"] 2 (by kernel_rfl) rfl rfl (by ac_rfl) (by kernel_rfl) λA L W Q u=>?_;revert W u;revert A L Q;exists cx λA=>aA λL=>aA λQ=>aO _;intro A L Q W u;exact aI W D rfl rfl (aB _) aK rfl ⟨bl_ rfl,jM W<|u<|⟨trivial,aB _,bE [aM.Hs,aM.Hw] (bF S) rfl rfl<|bD (S.Hg+1) J.1 J.2<|.inr ⟨.inr<|.inl rfl,rfl⟩⟩⟩
 ·
  refine gi G (aT G) 6 ["box","conn","form","chunk","found"] 2 (by kernel_rfl) rfl rfl (by ac_rfl) (by kernel_rfl) λA L W Q u=>?_;revert W u;revert A L Q;exists cx λA=>aA λL=>aA λQ=>aO _;intro A L Q W u;refine aI W D rfl rfl (aB _) aK rfl<|aI W Z rfl rfl (aB _) (db rfl) rfl ⟨bl_ rfl,?_⟩
  exact hU W 0 (.seq<|List.map b8 [aM.Hl (dp S.Hc (S.Hg+1+1) 2)]) [_,_,_,_,some (.d<|.seq<|List.map b8 [aM.Hl (dp S.Hc (S.Hg+1+1) 2)])] rfl rfl rfl
   (u<|⟨trivial,aB _,bE [aM.Hl (dp S.Hc (S.Hg+1+1) 2)] (bF<|bF S) rfl rfl<|bD (S.Hg+1+1) k2.1 k2.2<|.inr ⟨.inr<|.inr<|.inl ⟨_,rfl⟩,rfl⟩⟩)
 ·
  refine gi G (aT G) 6 ["box","conn","form","chunk","found"] 2 (by kernel_rfl) rfl rfl (by ac_rfl) (by kernel_rfl) λA L W Q u=>?_;revert W u;revert A L Q;exists cx λA=>aA λL=>aA λQ=>aO _;intro A L Q W u;exact aI W D rfl rfl (aB _) aK rfl<|jM W ⟨bl_ rfl,u<|⟨trivial,aB _,bE [aM.Ho] (bF S) rfl rfl<|bD (S.Hg+1) J.1 J.2<|.inr ⟨.inr<|.inr<|.inr rfl,rfl⟩⟩⟩
end
end
section
section
variable {C:Cx}
noncomputable def ch(S:St)(b:Bool):aM->St
 | .Hp o d=>if b=true then{S with Hm:=S.Hm++cq o d.size} else{S with Hn:=S.Hn++cq o d.size}
 | .stream k=>{S with Hr:=S.Hr++[(b,.stream k)]}
 | .Ho=>{S with Hr:=S.Hr++[(b,.Ho)]}
 | .Hw=>S
 | .Hs=>if b=true then S else{S with Hi:=sJ S.Hi .Hs}
 | .Hl k=>if b=true then S else{S with Hi:=sJ S.Hi (.Hl k)}
theorem zk:∀(S:St)(b:Bool)(x:aM),(ch S b x).hw=S.hw:=by
 intro S b x;cases x<;>cases b<;>rfl
noncomputable def PreT(S:St)(x:aM):Prop:=S.hw=true/\S.Hm.length<=1000/\S.Hn.length<=1000/\S.Hr.length<=1000/\S.Hi.length<=1000/\dI S.Hi/\(match x with| .Hp o d=>d.size<=1000/\-1000<=o/\o<=1000|_=>True)
noncomputable def sd(S:St)(b:Bool):List aM->Prop
 |[]=>True
 |x::r=>PreT S x/\sd (ch S b x) b r
noncomputable def qm(b:Bool):DV:=.str (if b=true then "came" else "lost")
noncomputable def Fw(S:St):List (Str×PV):=[("came",.d (.seq (S.Hm.map .int))),("lost",.d (.seq (S.Hn.map .int)))]
noncomputable def iC(S:St):St:={S with hw:=true}
theorem eH(h:S.hw=true):iC S=S:=by cases S;cases h;rfl
theorem gk(b:Bool):∀(l:List aM)(S:St),(l.foldl (λS x=>ch S b x) S).hw=S.hw
 |[],_=>rfl
 |x::l,S=>(gk b l (ch S b x)).trans (zk S b x)
theorem oh(l:List Int)(o:Int)(n:Nat):l.map DV.int++cM o (o+(n:Int)-o).toNat=(l++cq o n).map .int:=by
 rw[show(o+(n:Int)-o).toNat=n from by lia,gP,List.map_append,cq,List.map_map];rfl
theorem AZ(l:List (Bool×aM))(q:Bool×aM):l.map gL++[gL q]=(l++[q]).map gL:=by rw[List.map_append];rfl
theorem ix(S:St)(b:Bool)(q:aM):aQ.set (aJ (iC S)) 17 (.Ha (S.Hr.map gL++[gL (b,q)]))=aJ (iC {S with Hr:=S.Hr++[(b,q)]}):=by rw[AZ];exact ms rfl
theorem lV(S:St)(l:List aM)(q:aM)(e:l=S.Hi++[q]):aQ.set (aJ (iC S)) 18 (.Ha (S.Hi.map b8++[b8 q]))=aJ (iC {S with Hi:=l}):=by rw[e,show S.Hi.map b8++[b8 q]=(S.Hi++[q]).map b8 from by rw[List.map_append];rfl];exact ms rfl
theorem vN(S:St)(o:Int)(n:Nat):aQ.set (aJ (iC S)) 19 (.Hh [("came",.d (.seq (S.Hm.map .int++cM o (o+(n:Int)-o).toNat))),("lost",.d (.seq (S.Hn.map .int)))])=aJ (iC {S with Hm:=S.Hm++cq o n}):=by rw[oh];exact ms rfl
theorem xc(S:St)(o:Int)(n:Nat):aQ.set (aJ (iC S)) 19 (.Hh [("came",.d (.seq (S.Hm.map .int))),("lost",.d (.seq (S.Hn.map .int++cM o (o+(n:Int)-o).toNat)))])=aJ (iC {S with Hn:=S.Hn++cq o n}):=by rw[oh];exact ms rfl
theorem uA:∀{l x}(u:x≠ .Hw)(h:(!decide (x.HP∈l))=true),sJ l x=l++[x.HP]:=by
 intro l x u h;have h:x.HP∉l:=by simpa using h
 cases x with
 |Hw=>exact absurd rfl u
 |_=>exact if_neg h
theorem yq{l:List aM}{x:eD}(h:(!decide (x.HP∈l))=false):sJ l x=l:=by
 have h:x.HP∈l:=by simpa using h
 cases x with
 |Hw=>rfl
 |_=>exact if_pos h
theorem qY(G:Gd C)(S:St)(b:Bool)(l:List aM)(hw:S.hw=true)(I:sd S b l):Fd C 3 (.ref 649) [.at (.sk 17),.d (.seq (l.map b8)),.d (qm b),.at (.sk 19),.at (.sk 18)] (aJ S) (.d .none) (aJ (l.foldl (λS x=>ch S b x) S)):=by
 revert G hw I;revert C S b l;exists ce λC=>em λS=>aA λb=>aA λl=>aO _;intro C S b l G hw I
 suffices H:Fd C 3 (.ref 649) [.at (.sk 17),.d<|.seq<|l.map b8,.d<|qm b,.at (.sk 19),.at (.sk 18)] (aJ<|iC S) (.d .none) (aJ<|iC<|l.foldl (λS x=>ch S b x) S) by
  rwa [eH hw,eH ((gk b l S).trans hw)] at H
 cases b with
 | true=>
  refine aX G (aT G) ["log","frames","word","octets","owed","frame"] 5 (by kernel_rfl) rfl rfl (by ac_rfl) trivial (aB _) λA L W Q N=>?_;revert W N;revert A L Q;exists cx λA=>aA λL=>aA λQ=>aO _;intro A L Q W N;refine fW W b8 (λt:St×Option PV=>⟨[some (.at (.sk 17)),some<|.d<|.seq<|l.map b8,some<|.d<|qm true,some<|.at (.sk 19),some<|.at (.sk 18),t.2],[],aJ<|iC t.1⟩) (λr t=>sd t.1 true r/\r.foldl (λS x=>ch S true x) t.1=l.foldl (λS x=>ch S true x) S) l (S,none) ⟨I,rfl⟩ (λt h=>jM W<|N rfl<|by refine h.2▸?_;rfl) (λx r t J B hn Z=>?_) ⟨rfl,rfl⟩;revert J hn Z;revert x r t B;exists jY λx=>aA λr=>i7 ⟨St×Option PV,(b_T.d,default)⟩ λt=>aA λB=>aO _;intro x r t B J hn Z;obtain⟨⟨⟨_,p1,p2,p3,p4,p5,p6⟩,z⟩,u⟩:=J;cases x with
  | Hp o d=>
   obtain⟨O,U,V⟩:=p6;refine cR (bw [_] [] 0x1f41480001c3502280081 ft O)<|il<|kD W.hh (bw [] [_] 0x7e8296302060000000000000007eb181 ft U) (bw [] [_] 0x7d052026060000000000000007e80a01 ft V) (bw [_] [_] 0xfd052c6040702e0000000000000007eb181 ft U) (dD [_] [_] 0x1f41480981fa0a40000c000000000000000fd00e05a01 ft O V) (bw [_] [_] 0x7d05200007d090144040702e981 ft O) ⟨?_,?_⟩
   ·rw[List.length_map,el];show t.1.Hm.length+_<=_;lia
   ·exact dB (l:=Fw<|iC t.1) rfl (bl_ rfl)<|hn.n (ch t.1 true<|.Hp o d,some<|.d<|b8<|.Hp o d) ⟨z,u⟩<|vN t.1 o d.size
  |stream k=>exact⟨by rw[List.length_map];exact Nat.le_trans p3 (by decide),hn.n (ch t.1 true<|.stream k,some<|.d<|b8<|.stream k) ⟨z,u⟩<|ix t.1 true<|.stream k⟩
  |Ho=>exact⟨by rw[List.length_map];exact Nat.le_trans p3 (by decide),hn.n (ch t.1 true .Ho,some<|.d<|b8 .Ho) ⟨z,u⟩<|ix t.1 true .Ho⟩
  |Hw=>exact hn.n (t.1,some<|.d<|b8 .Hw) ⟨z,u⟩
  |Hs=>exact hn.n (t.1,some<|.d<|b8 .Hs) ⟨z,u⟩
  |Hl k=>exact hn.n (t.1,some<|.d<|b8<|.Hl k) ⟨z,u⟩
 | false=>
  refine aX G (aT G) ["log","frames","word","octets","owed","frame"] 5 (by kernel_rfl) rfl rfl (by ac_rfl) trivial (aB _) λA L W Q N=>?_;revert W N;revert A L Q;exists cx λA=>aA λL=>aA λQ=>aO _;intro A L Q W N;refine fW W b8 (λt:St×Option PV=>⟨[some (.at (.sk 17)),some<|.d<|.seq<|l.map b8,some<|.d<|qm false,some<|.at (.sk 19),some<|.at (.sk 18),t.2],[],aJ<|iC t.1⟩) (λr t=>sd t.1 false r/\r.foldl (λS x=>ch S false x) t.1=l.foldl (λS x=>ch S false x) S) l (S,none) ⟨I,rfl⟩ (λt h=>jM W<|N rfl<|by refine h.2▸?_;rfl) (λx r t J B hn Z=>?_) ⟨rfl,rfl⟩;revert J hn Z;revert x r t B;exists jY λx=>aA λr=>i7 ⟨St×Option PV,(b_T.d,default)⟩ λt=>aA λB=>aO _;intro x r t B J hn Z;obtain⟨⟨⟨_,p1,p2,p3,p4,p5,p6⟩,z⟩,u⟩:=J;cases x with
  | Hp o d=>
   obtain⟨O,U,V⟩:=p6;refine cR (bw [_] [] 0x1f41480001c3502280081 ft O)<|il<|kD W.hh (bw [] [_] 0x7e8296302060000000000000007eb181 ft U) (bw [] [_] 0x7d052026060000000000000007e80a01 ft V) (bw [_] [_] 0xfd052c6040702e0000000000000007eb181 ft U) (dD [_] [_] 0x1f41480981fa0a40000c000000000000000fd00e05a01 ft O V) (bw [_] [_] 0x7d05200007d090144040702e981 ft O) ⟨?_,?_⟩
   ·rw[List.length_map,el];show t.1.Hn.length+_<=_;lia
   ·exact dB (l:=Fw<|iC t.1) rfl (bl_ rfl)<|hn.n (ch t.1 false<|.Hp o d,some<|.d<|b8<|.Hp o d) ⟨z,u⟩<|xc t.1 o d.size
  |stream k=>exact⟨by rw[List.length_map];exact Nat.le_trans p3 (by decide),hn.n (ch t.1 false<|.stream k,some<|.d<|b8<|.stream k) ⟨z,u⟩<|ix t.1 false<|.stream k⟩
  |Ho=>exact⟨by rw[List.length_map];exact Nat.le_trans p3 (by decide),hn.n (ch t.1 false .Ho,some<|.d<|b8 .Ho) ⟨z,u⟩<|ix t.1 false .Ho⟩
  |Hw=>exact hn.n (t.1,some<|.d<|b8 .Hw) ⟨z,u⟩
  | Hs=>
   refine oS p5 .Hs rfl (W.r.room<|by decide) (eC (λe=>⟨by rw[List.length_map];exact Nat.le_trans p4 (by decide),?_⟩) λe=>?_)
   ·exact hn.n (ch t.1 false .Hs,some<|.d<|b8 .Hs) ⟨z,u⟩ (lV t.1 _ aM.Hs<|uA (x:=.Hs) (by intro q;exact nc eD.ctorIdx q rfl) e)
   ·exact hn.n (ch t.1 false .Hs,some<|.d<|b8 .Hs) ⟨z,u⟩ (by unfold ch;dsimp only;refine(ys<|if_neg Bool.false_ne_true)▸(ys<|yq (x:=.Hs) e)▸?_;rfl)
  | Hl k=>
   refine oS p5 (.Hl k) rfl (W.r.room<|by decide) (eC (λe=>⟨by rw[List.length_map];exact Nat.le_trans p4 (by decide),?_⟩) λe=>?_)
   ·exact hn.n (ch t.1 false<|.Hl k,some<|.d<|b8<|.Hl k) ⟨z,u⟩ (lV t.1 _ (aM.Hl k)<|uA (x:=(.Hl k)) (by intro q;exact nc eD.ctorIdx q rfl) e)
   ·exact hn.n (ch t.1 false<|.Hl k,some<|.d<|b8<|.Hl k) ⟨z,u⟩ (by unfold ch;dsimp only;refine(ys<|if_neg Bool.false_ne_true)▸(ys<|yq (x:=(.Hl k)) e)▸?_;rfl)
end
end
section
section
variable {C:Cx}
noncomputable def dX(l:List (Int×Int)):List Int:=l.flatMap λq=>cq q.1 (q.2-q.1).toNat
theorem iO(G:Gd C)(mem)(V:aN mem)(l:List (Int×Int))(O:∀q∈l,-500<=q.1/\q.1<500/\-500<=q.2/\q.2<500)(U:(dX l).length<=1000):Fd C 2 (.ref 642) [.d (.seq (de l))] mem (.d (.seq ((dX l).map .int))) mem:=by
 refine aX G (aT G) ["spans"] 1 (by kernel_rfl) rfl rfl (by ac_rfl) trivial V λA L W Q S=>BZ W cJ (own:=["low","high","place"]) (caps:=[]) (by kernel_rfl) pr (λq=>cq q.1 (q.2-q.1).toNat) l (Nat.le_trans U<|by decide) ⟨rfl,rfl⟩ (λD Wc q B u0 u1 u2 acc t I=>?_) λt I=>S rfl rfl;have u:=O q B;refine il (tU q.1 q.2 rfl (⟨bw [] [_] 0x1fa12b18103f414b181 ft u.1,bw [] [_] 0x7d0940500fa1202880a01 ft u.2.1,bw [] [_] 0x1fa12b18103f414b181 ft u.2.2.1,bw [] [_] 0x7d0940500fa1202880a01 ft u.2.2.2⟩) (by rw[gP];unfold cq;rw[List.map_map];rfl) (bE [some (.d<|.int q.1),some<|.d<|.int q.2,u2] t rfl I rfl)<|λx hx v0 v1 v2 J t' z Y N Z hN=>⟨rfl,Z [_,_,_] rfl rfl z⟩)
end
end
section
set_option genInjectivity false
section
variable {C:Cx} {A:Around} {f:Fc} {σ:aC}
theorem ii:∀{l},(∀x∈l,im x x=true)->ez l l=true:=λ{l}=>by
 induction l with
 | nil=>
  intro U;exact rfl
 | cons x l z=>
  intro h;show(im x x&&ez l l)=true;rw[h x (.head _),z λy u=>h y (.tail _ u)];rfl
theorem wN{n:Nat}:∀{l:List DV},(∀x∈l,pN n x x=true)->HU n l l=true:=λ{l}=>by
 induction l with
 | nil=>
  intro U;cases n<;>rfl
 | cons x l z=>
  intro h;have:HU n (x::l) (x::l)=(pN n x x&&HU n l l):=by cases n<;>rfl
  rw[this,h x<|.head _,z λy u=>h y (.tail _ u)];rfl
noncomputable def zv(x:aM):Prop:=(∃k,x= .stream k)\/x= .Ho
theorem oJ{u:Type}{p:u->Prop}{x:u}{l:List u}(h:p x)(z:∀y∈l,p y):∀y∈x::l,p y:=List.forall_mem_cons.mpr ⟨h,z⟩
theorem Dx{u:Type}{p:u->Prop}:∀y∈([]:List u),p y:=λU h=>nomatch h
theorem B1{q:Bool×aM}(h:zv q.2):im (gL q) (gL q)=true:=by
 obtain⟨b,x⟩:=q;rcases h with⟨k,h⟩|h
 ·have h:x= .stream k:=h;subst h;have hk:im (.int<|8*k) (.int<|8*k)=true:=beq_self_eq_true<|8*k
  exact ii<|oJ (beq_self_eq_true _)<|oJ (ii<|oJ (beq_self_eq_true _)<|oJ (beq_self_eq_true _)<|oJ hk<|oJ (beq_self_eq_true _)<|oJ rfl Dx) Dx
 ·have h:x= .Ho:=h;subst h;exact ii (oJ (beq_self_eq_true _)<|oJ (show im (b8 .Ho) (b8 .Ho)=true by decide+kernel) Dx)
theorem AB{q:Bool×aM}(h:zv q.2):pN 2 (gL q) (gL q)=true:=by
 obtain⟨b,x⟩:=q;rcases h with⟨k,h⟩|h
 ·have h:x= .stream k:=h;subst h;rfl
 ·have h:x= .Ho:=h;subst h;rfl
noncomputable def fV:List Int->List Int->List Int
 |_,[]=>[]
 |seen,x::r=>(if x∈seen then[] else[x])++fV (seen++[x]) r
theorem Bm(l:List Int)(x:Int):((l.map DV.int).any λy=>im y (.int x))=decide (x∈l):=by
 induction l with
 |nil=>rfl
 | cons y l u=>
  rw[List.map_cons,List.any_cons,u];show((y==x)||_)=_
  by_cases e:y=x
  ·clear u;subst e;simp
  ·have z:¬x=y:=λq=>e q.symm;simp[e,z]
theorem um{l:List Int}{x:Int}(B:A.units+1<cLine)(q:Q (.d (.bool (!decide (x∈l)))) σ):cO C A f (compareOp .NotIn) (.d (.int x)) (.d (.seq (l.map .int))) σ Q:=by
 refine uF (l:=l.map .int) (n:=0) fB ?_ B ?_
 ·intro y z;refine aG (List.mem_map.mp z) λi U u=>?_;clear z;subst u;rfl
 ·rw[Bm];exact q
structure rh(S:St)(D C:List Int):Prop where
 hw:S.hw=true
 keys:Hu S.sp.Hd=Hu S.Hf
 asc:cU S.sp.Hd
 len:S.sp.Hd.length<60
 lg:S.sp.largest=S.w.largest
 dP:D.Perm (S.Hn.filter λx=> !decide (x∈S.Hm))
 dS:D.Pairwise (· <= ·)
 dZ:D.length<60
 cP:C.Perm S.Hm
 cS:C.Pairwise (· <= ·)
 cZ:C.length<60
 lZ:S.Hn.length<1000
 HG:dX S.Hk.HG=fV [] D
 G9:dX S.Hk.G9=C
 duel:S.Hk.HG.length<1000
 ackl:S.Hk.G9.length<1000
 I9:∀q∈S.Hk.HG,-500<=q.1/\q.1<500/\-500<=q.2/\q.2<500
 IZ:∀q∈S.Hk.G9,-500<=q.1/\q.1<500/\-500<=q.2/\q.2<500
 log:S.log=S.Hr
 Io:∀q∈S.log,zv q.2
 Hq:S.Hq=S.Hi
 H1:dI S.Hq
 Ht:S.HB.Ht=((Hu S.Hf).map λn=>100+n).sum
 He:S.HI.He=S.w.He
 later:S.sp.Ii=S.w.later
theorem tw:∀(l s:List Int),(fV s l).length<=l.length:=λl=>by
 induction l with
 | nil=>
  intro U;exact Nat.le_refl _
 | cons x l u=>
  intro s;have z:=u<|s++[x]
  unfold fV
  split<;>simp<;>omega
theorem gc(n:Nat)(u:eM σ x l)(B:eM σ y l)(N:∀z∈l,im z z=true)(J:∀z∈l,pN n z z=true)(I:A.units+(n+1)<cLine)(q:Q (.d (.bool false)) σ):cO C A f (compareOp .NotEq) x y σ Q:=by
 refine jE (n:=n) u B I ?_<|λU=>wN J
 rw[ii N];exact q
theorem y5(l:List Int):∀z∈l.map DV.int,im z z=true:=λz B=>by
 refine aG (List.mem_map.mp B) λi U u=>?_;clear B;subst u;show(i==i)=true;simp
theorem yJ(n:Nat)(l:List Int):∀z∈l.map DV.int,pN n z z=true:=λz B=>by
 refine aG (List.mem_map.mp B) λi U u=>?_;clear B;subst u;cases n<;>rfl
theorem Dm{j:Int}(h:i=j)(q:Q (.d (.bool false)) σ):cO C A f (compareOp .NotEq) (.d (.int i)) (.d (.int j)) σ Q:=by subst h;exact ym (by rw[bne_self_eq_false];exact q)
theorem Dr{j:Int}(h:i=j)(q:Q (.d (.bool true)) σ):cO C A f (compareOp .Eq) (.d (.int i)) (.d (.int j)) σ Q:=by subst h;exact yL (by rw[beq_self_eq_true];exact q)
theorem Dl{x y:Option Int}(h:x=y)(q:Q (.d (.bool false)) σ):cO C A f (compareOp .NotEq) (.d (jT x)) (.d (jT y)) σ Q:=h▸Ax x q
theorem DE{x y:Option Int}(h:x=y)(q:Q (.d (.bool true)) σ):cO C A f (compareOp .Eq) (.d (jT x)) (.d (jT y)) σ Q:=h▸BX x q
theorem dJ(l:List (Int×List aM)):(dh l).length=l.length:=List.length_map ..
theorem kK(G:Gd C)(S:St)(D E:List Int)(H:rh S D E):Fd C 4 (.ref 654) [.at (.sk 0),.at (.sk 15),.at (.sk 11)] (aJ S) (.d (.bool true)) (aJ S):=by
 revert G H;revert C S D E;exists ce λC=>em λS=>aA λD=>aA λE=>aO _;intro C S D E G H;rw[<-eH H.hw];have hm:=aB (iC S);have ae:=H.dZ;have af:=H.cZ;have ah:=tw D [];have ad:S.Hf.length<60:=by rw[<-cy,<-H.keys,cy];exact H.len
 have hk:(Hu S.Hf).Pairwise (· <= ·):=by rw[<-H.keys];exact H.asc.imp Int.le_of_lt
 have L1:=iO G (aJ (iC S)) hm S.Hk.HG H.I9 (by rw[H.HG];exact dD [_,_] [] 0x800007c1908103f41480001 ft ae ah);have L2:=iO G (aJ (iC S)) hm S.Hk.G9 H.IZ (by rw[H.G9];exact bw [_] [] 0x3c1900103f41480001 ft af);rw[H.HG] at L1;rw[H.G9] at L2;refine aX G (G2 G) ["conn","world","log","place","out","due"] 3 (by kernel_rfl) rfl rfl (by ac_rfl) (trivial) (aB _) λA L W Q hQ=>?_;revert W hQ;revert A L Q;exists cx λA=>aA λL=>aA λQ=>aO _;intro A L Q W hQ;refine eh W.hh (po:=.G7 (cV S.sp.Hd)) (l:=cV S.sp.Hd) (ns':=Hu S.Hf) rfl rfl (by rw[eP];exact Cd H.len) (by rw[<-H.keys,nZ];exact .refl _) hk<|eh W.hh (po:=.G7 (dh S.Hf)) (l:=dh S.Hf) (ns':=Hu S.Hf) rfl rfl (by rw[dJ];exact Cd ad) (by rw[iu];exact .refl _) hk ?_;refine gc 0 fB fB (y5 _) (yJ 0 _) (W.r.room (by decide)) (Dl H.lg ?_);refine d7 W cJ (own:=["spot"]) (caps:=["world"]) (by kernel_rfl) DV.int (λx=> !decide (x∈S.Hm)) DV.int S.Hn (l5 H.lZ) ⟨bZ W.hh rfl,rfl⟩ (λD' Wc q V u0 acc t ht Y N O hN=>?_) λt ht=>?_
 ·revert Wc V ht O hN;revert D' q u0 acc t Y N;exists aA λD'=>aA λq=>aA λu0=>aA λacc=>aA λt=>aA λY=>aA λN=>aO _;intro D' q u0 acc t Y N Wc V ht O hN;exact um (W.r.room (by decide)) (eC (λe=>⟨e,O [_] rfl rfl ht⟩) λe=>⟨e,hN [_] rfl ht⟩)
 revert ht;revert t;exists aA λt=>aO _;intro t ht;refine iY (S.Hn.filter λx=> !decide (x∈S.Hm)) D rfl (by rw[<-H.dP.length_eq];exact Cd H.dZ) H.dP H.dS<|aI W L1 rfl rfl hm (bP ht) rfl ?_;refine AX W cJ (own:=["at","spot"]) (caps:=["due"]) (by kernel_rfl) (D.map .int) (λi acc=>acc++(fV (D.take i) (D.drop i)).map .int=(fV [] D).map .int) (by rw[List.length_map];exact l6 H.dZ) rfl (pk ⟨rfl,rfl⟩) (λD2 Wc i d Z acc ha B u0 u1 I u Y N O hN=>?_) λout I B u=>?_
 ·revert Wc Z ha B u O hN;revert D2 i d acc u0 u1 I Y N;exists aA λD2=>aA λi=>zR λd=>aA λacc=>aA λu0=>aA λu1=>aA λI=>aA λY=>aA λN=>aO _;intro D2 i d acc u0 u1 I Y N Wc Z ha B u O hN;obtain⟨x,hx,rfl⟩:∃x,D[i]? =some x/\d= .int x:=by
   rw[List.getElem?_map] at Z;revert ha B u O hN;revert acc I Y N;exists aA λacc=>aA λI=>aA λY=>aA λN=>aO _;intro acc I Y N ha B u O hN;cases hx:D[i]? with
   |none=>rw[hx] at Z;exact bU Z
   |some x=>rw[hx] at Z;(have ab:=oi Z;clear Z;subst ab);exact aD x rfl rfl
  revert hx Z;revert x;exists aA λx=>aO _;intro x hx Z;obtain⟨ag,ai⟩:=List.getElem?_eq_some_iff.mp hx;have aj:D.take i++[x]=D.take (i+1):=by rw[List.take_add_one,hx];rfl
  rw[List.drop_eq_getElem_cons ag,ai,fV.eq_2,aj,List.map_append,<-List.append_assoc] at B;refine xQ (by rw[List.length_map];exact l6 H.dZ) ?_;rw[<-List.map_take];refine um (W.r.room (by decide)) (eC (λe=>?_) λe=>?_)
  ·have q:x∉D.take i:=by simpa using e
   rw[if_neg q] at B;exact O [_,_] (.int x) rfl rfl u B
  ·have q:x∈D.take i:=by simpa using e
   rw[if_pos q,List.map_nil,List.append_nil] at B;exact hN [_,_] rfl u B
 revert B u;revert out I;exists aA λout=>aA λI=>aO _;intro out I B u;rw[List.length_map,List.drop_length] at B;have B:out=(fV [] D).map .int:=(List.append_nil _).symm.trans B;subst B;refine gc 0 fB fB (y5 _) (yJ 0 _) (W.r.room (by decide))<|aI W L2 rfl rfl hm (eO (bP ht) (bP (bP u))) rfl ?_;refine iY S.Hm E rfl (by rw[<-H.cP.length_eq];exact Cd H.cZ) H.cP H.cS<|gc 0 fB fB (y5 _) (yJ 0 _) (W.r.room (by decide)) ?_;refine gc 2 (l:=S.log.map gL) (gU rfl) (gU (by rw[H.log];rfl)) (λz J=>?_) (λz J=>?_) (W.r.room (by decide)) ?_
 iterate 2
  revert J;revert z;exists zR λz=>aO _;intro z J;obtain⟨q,V,rfl⟩:=List.mem_map.mp J
  first|exact B1 (H.Io q V)|exact AB (H.Io q V)
 refine gc 1 (l:=S.Hq.map b8) (gU rfl) (gU (by rw[H.Hq];rfl)) (λz J=>?_) (λz J=>?_) (W.r.room (by decide)) ?_
 iterate 2
  revert J;revert z;exists zR λz=>aO _;intro z J;obtain⟨q,V,rfl⟩:=List.mem_map.mp J;revert V J;revert q;exists jY λq=>aO _;intro q V J;obtain⟨o,rfl⟩:=H.H1 q V
  first|exact u4 o o|exact(uZ o o).trans (decide_eq_true rfl)
 refine Bp (k:=.sk 16) (l:=dh S.Hf) rfl λo=>?_;revert o;exists aA λo=>aO _;intro o;refine d7 W cJ (own:=["number"]) (caps:=[]) (by kernel_rfl) (λq:Int×List aM=>.int q.1) (λU=>true) (λq=>.int (100+q.1)) S.Hf (l6 ad) ⟨kB W.hh rfl rfl (iu _),rfl⟩ (λD2 Wc q V u0 acc t3 aa Y N O hN=>⟨rfl,O [_] rfl rfl aa⟩) λt3 aa=>⟨rfl,?_⟩
 revert aa;revert t3;exists aA λt3=>aO _;intro t3 aa;refine vd W.hh ((Hu S.Hf).map λn=>100+n) (by rw[gg];unfold Hu;rw[List.map_map,List.map_map];rfl) (Dm H.Ht (Dr H.He (DE H.later (hQ rfl (ms (ms rfl))))))
end
end
section
open PySem PySem.W PyProof.Rows PySem.Calls
section
variable {C:Cx}
noncomputable def qeEs(K:Frag):Array DictEntry:=match(List.lookup 37 K) with|some ⟨_,_,.dict es _,_⟩=>es|_=>#[]
theorem sM:mX C 38 35 [.type "Exception",.type "BaseException",.type "object"] "Exception.__new__" "Exception.__init__" where
 base:=PySem.F.excBase_Exception
 obj :=by
  refine⟨"QuicError","QuicError",37,[.type "Exception"],true,[],[],false,none,none,some<|.ref 22,none,some<|.str "QuicError" 198,some<|.str "QuicError" 206,some<|.bool true,λx=>nsFind (qeEs C.K) x,λB X=>⟨?_,?_⟩,?_⟩
  ·exact X 38 ⟨_,_,_,_⟩ rfl
  ·have e:B.get? 37=some _:=X 37 ⟨_,_,_,_⟩ rfl;refine⟨_,_,_,e,rfl,?_,λx=>?_⟩
   ·intro en u;refine aG (List.mem_map.mp<|List.mem_toArray.mp u) λp U z=>?_;clear u;subst z;exact⟨_,_,rfl⟩
   ·rfl
  ·show nsFind _ _=_
   with_unfolding_all rfl
 mro:=by kernel_rfl
 IB:=by decide+kernel
 pass:=PySem.F.store_Exception.passes
 sa:=by kernel_rfl
 hd:=by kernel_rfl
end
end
section
set_option genInjectivity false
open PySem PySem.W PyProof.Rows PySem.Calls
section
variable {C:Cx} {A:Around} {f:Fc} {σ:aC}
structure n7(fl:Array Value)(es:List DictEntry):Prop where
 sz:fl.size=6
 one:fl[1]? =some .none
 code:∃t,getL "code" es=some (some (.int 10 t))
 ft:∃t,getL "frame_type" es=some (some (.int 2 t))
theorem BP:∀{C A f σ u Q}(G:Gd C)(hR:Rm A 3)(O:aN σ.mem)(ht:aU σ.G8)(I:u.length<=500)(q:∀e d fl es n,d≠e->n7 fl es->Q (.val (.ref e)) ⟨σ.ls,σ.G8++[some (.Hb e (bC 38 (some d) fl)),some (.Hb d (dictOf es n))],σ.mem⟩),Cl C A f (.ref 38) [.d (.int 10),.d (.int 2),.d (.str u)] σ Q:=by
 exists ce λC=>cx λA=>dO λf=>dR λσ=>aA λu=>aA λQ=>aO _;intros;have hc:gI C.K 35 ["self","code","frame_type","text"]=true:=by kernel_rfl
 have hb:mc 4 λvs=>bindArgs (kZ C.K 35) ⟨vs,[]⟩=pure ((List.take 4 (["self","code","frame_type","text"]:List Str)).zip vs):=by(repeat intro _);(show bindArgs _ _=_);kernel_rfl
 refine wU (xs:=[.d (.int 10),.d<|.int 2,.d (.str u)]) G sM (by kernel_rfl) (fQ G 4 hc) (n:=1) rfl (λvs B=>hb.of vs B) hR rfl (bl_ rfl) O ht (P:=n7) (λZ L e t z=>?_) q;revert Z L e t;exists cx λZ=>aA λL=>aA λe=>aA λt=>aO _;intros;have W:=ml (L:=L) G (aT G) hc z;generalize σ.mem=mem at O;revert mem;exists aA λmem=>aO _;intros;refine cK (pt<|sS G (by kernel_rfl) (by kernel_rfl) (by kernel_rfl) (by kernel_rfl) (pd rfl) (Ci rfl) (yn rfl rfl rfl)<|bK W 1000 (.es _ _) _ ?_ _);refine BB (by decide) (tT (by decide+kernel)<|tT ?_ ?_)
 ·rw[show(toString (10:Int)++": ":Str).length=4 from by decide+kernel];exact bw [_] [] 0xfa1280001fa0a402069801 ft I
 refine tM G sM (k:=.tm 0) rfl rfl λt'=>?_;revert t';exists aA λt'=>aO _;intros;refine cK<|mF<|bK W 1000 (.ev _ _) _ ?_
 refine AV G sM (by kernel_rfl)<|bK W 1000 (.ev _ _) _ ?_
 refine bH (.tm 0) _ _ rfl rfl<|λd t1 t2 N=>?_
 revert d t1 t2;exists aA λd=>aA λt1=>aA λt2=>aO _;intros;refine cK<|mF<|bK W 1000 (.ev _ _) _ ?_
 refine ux G sM (by kernel_rfl) (bK W 1000 (.ev _ _) _ ?_) rfl;refine CG (.tm 0) (.tm 1) _ _ _ _ _ rfl rfl rfl N rfl (bl_ rfl)<|λV v B hi=>?_
 revert V v;exists aA λV=>aA λv=>aO _;intros;refine aP (hi _ rfl) λt4 aa=>?_;clear B hi;subst aa;revert t4;exists aA λt4=>aO _;intros;refine cK<|mF<|bK W 1000 (.ev _ _) _ ?_
 refine ux G sM (by kernel_rfl) (bK W 1000 (.ev _ _) _ ?_) rfl;refine CG (.tm 0) (.tm 1) _ _ _ _ _ rfl rfl rfl N rfl (bl_ rfl)<|λS v5 J U=>?_
 revert S v5;exists aA λS=>aA λv5=>aO _;intros;exact gr<|⟨rfl,Cb _ d _ _ _ N ⟨rfl,rfl,⟨_,rfl⟩,⟨_,rfl⟩⟩ rfl⟩
end
end
section
open PySem PySem.W PyProof.Rows PySem.Calls
section
variable {C:Cx}
noncomputable def zH(lo hi:Int)(rs:List (Int×Int))(now:Int):List (Option PV):=[some (.at (.sk 0)),some (.d (.str "application")),some (.d (iB ((lo,hi)::rs))),some (.d (.int now)),some (.at (.sk 4)),none,none,none,none,none]
theorem lr(G:Gd C)(S:St)(lo hi:Int)(rs:List (Int×Int))(J:rs.length<=1)(now:Int)(hb:S.sp.HK<=hi){z:List Env}(N:A.frames=some z)(hl:s.heap.FunFrames cz z)(u:∀b∈z.filterMap (·.frame),¬bY ρ (aH (aJ S)) b)
  (O:Rm A 6) (H:HR C ρ F (aH (aJ S)) s.heap) (V:∀i,ρ (.tm i)=none) (Z:∀n,aJ S n=none->ρ (.sk n)=none) (r:bQ C ρ F vs [.at (.sk 0),.d (.str "application"),.d (iB ((lo,hi)::rs)),.d (.int now)]):
  codeAny (model C.prog C.w) A (.call (.ref 226) ⟨vs,[]⟩) (λr s'=>∃e d fl B m h1 h2 tk ρ' F' L,r= .error (.ref e)/\s'=(wh s h2 tk)/\o9 C 38 n7 ρ F (aJ S) (z.filterMap (·.frame)) s.heap e d fl B m h1 h2 ρ' F' L) s:=by
 revert G J hb N hl u O H V Z r;revert A vs s F ρ C S lo hi rs now z;exists cx λA=>aA λvs=>eu λs=>aA λF=>aA λρ=>ce λC=>em λS=>aA λlo=>aA λhi=>aA λrs=>aA λnow=>aA λz=>aO _;intro A vs s F ρ C S lo hi rs now z G J hb N hl u O H V Z r;have hc:gI C.K 226 ["conn","space","frame","now","place","numbers","packets","is_limited","packet","one"]=true:=by kernel_rfl
 have ah:mc 4 λvs=>bindArgs (kZ C.K 226) ⟨vs,[]⟩=pure ((List.take 4 (["conn","space","frame","now","place","numbers","packets","is_limited","packet","one"]:List Str)).zip vs):=by(repeat intro _);(show bindArgs _ _=_);kernel_rfl
 refine xf (C:=C) (xs:=[.at (.sk 0),.d<|.str "application",.d<|iB ((lo,hi)::rs),.d (.int now)]) G (D:=38) (P:=n7) (λU U h=>h.one) (n:=5) (fQ G 4 hc) rfl (λvs hv=>ah.of vs hv) N hl u O H V Z r (aB S)<|λA' L O Q E s ρ F a hE=>?_
 have W:=ml (L:=L) G (aT G) hc O;refine wpAny_execs_cons<|((?w1:Ex C A' (gM _ _ _ _) _ _ (λx σ'=>x= .next/\σ'=⟨zH lo hi rs now,[],aJ S⟩)) ρ F s a).use λfl h1 ab ai F1 σ1 a1 aa ag=>cj ag λx rx ex e1=>?_
 case w1=>exact bK W 1000 (.ex _ _) _ ⟨rfl,rfl⟩
 subst ex e1;cases fl with
 | next=>
  refine wpAny_execs_cons<|wpAny_If<|((?w2:Tt C A' (gM _ _ _ _) _ _ (λb σ'=>b=true/\σ'=⟨zH lo hi rs now,[],aJ S⟩)) ai F1 (wh s h1 ab) a1).use λc h2 ae ρ2 F2 σ2 a2 ad al=>aL al λec e2=>?_
  case w2=>exact bK W 1000 (.tt _ _) _ (aI W (jj G S (lo,hi) rs<|Nat.lt_of_le_of_lt J<|by decide) rfl rfl (aB S) aK rfl ⟨decide_eq_true hb,rfl⟩)
  subst ec e2;show wpAny _ _ (execs _ _) _ _ _;refine wpAny_execs_cons<|wl G sM O.hh (s:=(wh s h2 ae)) a2 (K:=λe dx fl σ'=>∃d B m,dx=some d/\d≠e/\n7 fl B/\σ'=⟨zH lo hi rs now,[some (.Hb e<|bC 38 (some d) fl),some (.Hb d<|dictOf B m)],aJ S⟩) (bK W 1000 (.ev _ _) _ ?w3) λe dx fl h3 am aj F3 an a3 ak af=>kY af λd B m ed I hP e3=>?_
  case w3=>exact BP G (O.le<|by decide) (aB S) aK (by decide+kernel) λe d fl B n I hq=>qw e (some d) fl (.tm 0) rfl rfl hq.one<|uK d B n rfl I hq rfl
  subst ed e3;exact hE e d fl B m h3 am aj F3 _ a3 ((aa.then a1 ad).then a2 ak) I hP
 |_=>exact rx.elim
end
end
section
set_option genInjectivity false
open PySem PySem.W PyProof.Rows PySem.Calls
noncomputable def kW(S:St)(q:Int×List aM):St:={S with Hf:=ck S.Hf q}
noncomputable def dC(b:Bool)(S:St)(q:Int×List aM):St:=q.2.foldl (λS x=>ch S b x) (kW S q)
noncomputable def bV(S:St)(hi:Int):St:={S with w:={S.w with largest:=some (match S.w.largest with|none=>hi|some m=>max m hi)}}
noncomputable def aY(S:St)(rs:List (Int×Int)):List (Int×List aM):=S.Hf.filter λq=>cu rs q.1
noncomputable def gB(B now d:Int)(S:St)(q:Int×List aM):St:=if q.1<B/\(q.1+3<=B\/q.1+d<=now) then dC false S q else if q.1<B/\S.w.later=none then{S with w:={S.w with later:=some (q.1+d)}} else S
noncomputable def c7(S:St)(rs:List (Int×Int))(hi now:Int):St:=match(aY S rs).getLast? with
 |some q=>if q.1=hi then{S with w:={S.w with He:=now-q.1}} else S
 |none=>S
noncomputable def fD(S:St)(rs:List (Int×Int))(hi now:Int):St:=(aY S rs).foldl (dC true) (c7 S rs hi now)
noncomputable def ek(S:St):St:={S with w:={S.w with later:=none}}
noncomputable def dQ(S:St)(hi:Int):Int:=match S.w.largest with|none=>hi|some m=>max m hi
noncomputable def jB(S:St)(B now:Int):St:=(ek S).Hf.foldl (gB B now (b7 S.HI.He (S.HI.s8.fdiv 8))) (ek S)
noncomputable def ic(S:St)(rs:List (Int×Int))(hi now:Int):St:=if aY S rs=[] then bV S hi else jB (fD (bV S hi) rs hi now) (dQ S hi) now
noncomputable def ub(b:Bool)(S:St):List (Int×List aM)->Prop
 |[]=>True
 |q::r=>sd (kW S q) b q.2/\ub b (dC b S q) r
noncomputable def uu(B now d:Int)(S:St):List (Int×List aM)->Prop
 |[]=>True
 |q::r=>((q.1<B/\(q.1+3<=B\/q.1+d<=now))->sd (kW S q) false q.2)/\uu B now d (gB B now d S q) r
structure tF(S:St)(rs:List (Int×Int))(hi now:Int)(D C:List Int):Prop where
 hw:S.hw=true
 next:hi<S.w.next
 wz:S.Hf.length<60
 wa:cU S.Hf
 wfl:∀q∈S.Hf,q.2.length<=1000
 probe:aY S rs≠[]->S.probe=0
 Hm:ub true (c7 (bV S hi) rs hi now) (aY S rs)
 Hn:∀d,uu (dQ S hi) now d (ek (fD (bV S hi) rs hi now)) (ek (fD (bV S hi) rs hi now)).Hf
 al:rh (ic S rs hi now) D C
theorem s5:∀(S:St)(b:Bool)(x:aM),(ch S b x).Hf=S.Hf:=by
 intro S b x;cases x<;>cases b<;>rfl
theorem tE(b:Bool):∀(l:List aM)(S:St),(l.foldl (λS x=>ch S b x) S).Hf=S.Hf:=λl=>by
 induction l with
 | nil=>
  intro U;exact rfl
 | cons x l u=>
  intro S;exact(u _).trans<|s5 S b x
theorem z9(b:Bool):∀(l:List aM)(S:St),(l.foldl (λS x=>ch S b x) S).w=S.w:=λl=>by
 induction l with
 | nil=>
  intro U;exact rfl
 | cons x l u=>
  intro S;exact(u _).trans (by cases x<;>cases b<;>rfl)
theorem qM(b:Bool):∀(l:List aM)(S:St),(l.foldl (λS x=>ch S b x) S).probe=S.probe:=λl=>by
 induction l with
 | nil=>
  intro U;exact rfl
 | cons x l u=>
  intro S;exact(u _).trans (by cases x<;>cases b<;>rfl)
theorem Az(b:Bool)(S:St)(q:Int×List aM):(dC b S q).w=S.w:=z9 b _ _
theorem rQ(b:Bool)(S:St)(q:Int×List aM):(dC b S q).probe=S.probe:=qM b _ _
theorem i8(b:Bool)(S:St)(q:Int×List aM):(dC b S q).Hf=ck S.Hf q:=tE b _ _
theorem xO(b:Bool)(S:St)(q:Int×List aM):(dC b S q).hw=S.hw:=gk b _ _
theorem ld{l:List (Int×List aM)}(z:cU l)(u:q∈l):(dh l).lookup q.1=some (.seq (q.2.map b8)):=mn (λq=>.seq<|q.2.map b8) z u
theorem vn(l:List (Int×List aM))(q:Int×List aM):mM (dh l) q.1=dh (ck l q):=by
 unfold mM dh ck;rw[List.filter_map];rfl
theorem wy{l:List (Int×List aM)}(h:cU l)(q:Int×List aM):cU (ck l q):=List.Pairwise.sublist (List.Sublist.map _ List.filter_sublist) h
theorem vD{l r:List (Int×List aM)}(B:cU (q::r))(z:∀x∈q::r,x∈l):∀x∈r,x∈ck l q:=λx u=>
 List.mem_filter.mpr ⟨z x<|.tail _ u,decide_eq_true<|Int.ne_of_gt<|(List.pairwise_cons.mp<|show(q.1::Hu r).Pairwise (· < ·) from B).1 x.1<|List.mem_map_of_mem u⟩
theorem jX{r:List (Int×List aM)}(h:cU (q::r)):cU r:=(List.pairwise_cons.mp<|show(q.1::Hu r).Pairwise (· < ·) from h).2
theorem mR:∀(l:List (Int×Int))(n:Int),(!((l.filter λr=>decide (r.1<=n)&&decide (n<=r.2)).map λU=>DV.int 1).isEmpty)=cu l n:=by
 intro l n
 induction l with
 |nil=>rfl
 | cons r l u=>
  unfold cu at u⊢;rw[List.filter_cons,List.any_cons,<-u];cases(decide (r.1<=n)&&decide (n<=r.2))<;>simp
end
noncomputable def nu(l:List (Int×Int)):Prop:=(∀q∈l,q.1<q.2)/\l.Pairwise λq r=>q.2<r.1
noncomputable def iT(l:List (Int×Int))(x:Int):Prop:=∃q∈l,q.1<=x/\x<q.2
theorem ef{x:Int}:iT [] x↔False:=⟨λu=>aG u λU h U=>(nomatch h),False.elim⟩
theorem c0:∀{q l x},iT (q::l) x↔(q.1<=x/\x<q.2)\/iT l x:=by
 intro q l x;constructor
 ·intro z;refine aG z λr h u=>?_;rcases List.mem_cons.mp h with rfl|h
  ·exact .inl u
  ·exact .inr<|aD r h u
 ·rintro(h|⟨r,h,u⟩)
  ·exact aD q (.head _) h
  ·exact aD r (.tail _ h) u
theorem u9{l m:List (Int×Int)}{x:Int}:iT (l++m) x↔iT l x\/iT m x:=by
 induction l with
 |nil=>simp[ef]
 |cons q l u=>rw[List.cons_append,c0,c0,u,or_assoc]
theorem GJ{a b:Int}(h:a<=b):a+((b-a).toNat:Int)=b:=by rw[Int.toNat_of_nonneg (Int.sub_nonneg_of_le h),Int.add_comm,Int.sub_add_cancel]
theorem zn{lo hi x:Int}:iT (if lo<hi then[(lo,hi)] else[]) x↔lo<=x/\x<hi:=by
 by_cases h:lo<hi
 ·rw[if_pos h,c0,ef,or_false]
 ·rw[if_neg h,ef];exact⟨False.elim,λk=>h<|Int.lt_of_le_of_lt k.1 k.2⟩
theorem mn_x{a b x:Int}(h:min a b<=x)(u:¬b<=x):a<=x:=by
 by_cases q:a<=b
 ·exact Int.min_eq_left q▸h
 ·exact absurd (Int.min_eq_right (Int.le_of_not_le q)▸h) u
theorem mx_x{a b x:Int}(h:x<max a b)(u:¬x<b):x<a:=by
 by_cases q:a<=b
 ·exact absurd (Int.max_eq_right q▸h) u
 ·exact Int.max_eq_left (Int.le_of_not_le q)▸h
theorem dE:∀{o n x},x∈cq o n↔o<=x/\x<o+n:=by
 exists aA λo=>aA λn=>aA λx=>aO _;intros;unfold cq;rw[List.mem_map];constructor
 ·rintro⟨i,hi,rfl⟩;have:=List.mem_range.mp hi;exact⟨jO [_] [_] 1881934209 ft,bw [_,_] [_] 0x10004088e0580e05a01 ft this⟩
 ·rintro⟨u,z⟩;exact aD ((x-o).toNat) (List.mem_range.mpr<|(Int.toNat_lt<|Int.sub_nonneg_of_le u).mpr<|Int.sub_left_lt_of_lt_add z)<|GJ u
theorem oY{a b x:Int}:x∈cq a (b-a).toNat↔a<=x/\x<b:=by
 rw[dE]
 by_cases h:a<=b
 ·rw[GJ h]
 ·rw[Int.toNat_of_nonpos (Int.sub_nonpos_of_le<|Int.le_of_not_le h)];exact⟨λk=>absurd k.1<|Int.not_le.mpr<|Int.add_zero a▸k.2,λk=>(h<|Int.le_of_lt<|Int.lt_of_le_of_lt k.1 k.2).elim⟩
theorem ea:∀{l x},x∈dX l↔iT l x:=by
 exists aA λl=>aA λx=>aO _;intros;unfold dX iT;rw[List.mem_flatMap];exact⟨λk=>aG k λq h u=>aD q h<|oY.mp u,λk=>aG k λq h u=>aD q h<|oY.mpr u⟩
theorem ju:nu []:=⟨λU h=>(nomatch h),.nil⟩
theorem cX:∀{q l},nu (q::l)↔q.1<q.2/\(∀r∈l,q.2<r.1)/\nu l:=by
 exists aA λq=>aA λl=>aO _;intros;unfold nu;rw[List.pairwise_cons];constructor
 ·intro B;exact dK B λz J N=>⟨z q<|.head _,J,λr u=>z r<|.tail _ u,N⟩
 ·intro I;refine ji I λz J N O=>⟨λr u=>?_,J,O⟩;rcases List.mem_cons.mp u with rfl|u
  ·exact z
  ·exact N r u
theorem pU{a b:Int}:∀{l:List (Int×Int)}{z:Int},(∀r∈l,z<r.1)->∀r∈bI a b l,z<r.1:=λ{l}=>by
 induction l with
 | nil=>
  intro U U r u;exact nomatch u
 | cons q l I=>
  intro z h r u;unfold bI at u;have B:=h q<|.head _
  rcases List.mem_append.mp u with u|u
  ·rcases List.mem_append.mp u with u|u
   ·split at u
    ·rw[List.mem_singleton.mp u];exact B
    ·exact nomatch u
   ·split at u
    ·rw[List.mem_singleton.mp u];exact Int.lt_of_lt_of_le B<|Int.le_max_left _ _
    ·exact nomatch u
  ·exact I (λr u=>h r<|.tail _ u) r u
theorem kO{a b:Int}(I:a<b):∀{l:List (Int×Int)},nu l->nu (bI a b l):=λ{l}=>by
 induction l with
 | nil=>
  intro U;exact ju
 | cons q l u=>
  intro h;refine dK (cX.mp h) λO J N=>?_;have u:=u N;have B:=pU (a:=a) (b:=b) J;unfold bI
  split<;>split
  ·refine cX.mpr ⟨by assumption,λr z=>?_,cX.mpr ⟨by assumption,B,u⟩⟩;rcases List.mem_cons.mp z with rfl|z
   ·exact Int.lt_of_le_of_lt (Int.min_le_right _ _)<|Int.lt_of_lt_of_le I<|Int.le_max_right _ _
   ·exact Int.lt_of_le_of_lt (Int.min_le_left _ _)<|B r z
  ·refine cX.mpr ⟨by assumption,λr z=>?_,u⟩;exact Int.lt_of_le_of_lt (Int.min_le_left _ _)<|B r z
  ·exact cX.mpr ⟨by assumption,B,u⟩
  ·exact u
theorem k9{a b:Int}(B:a<b):∀{l:List (Int×Int)}{x:Int},iT (bI a b l) x↔iT l x/\¬(a<=x/\x<b)
 := λ{l}=>by
  induction l with
  |nil=>intro x;simp[bI,ef]
  | cons q l u=>
    intro x;unfold bI;rw[u9,u9,u,c0];rw[zn,zn,Int.lt_min,Int.max_le];constructor
    · intro k
      rcases k with k|k
      · rcases k with k|k
        · exact⟨.inl ⟨k.1,k.2.1⟩,λz=>Int.not_lt.mpr z.1 k.2.2⟩
        · exact⟨.inl ⟨k.1.1,k.2⟩,λz=>Int.not_lt.mpr k.1.2 z.2⟩
      · exact⟨.inr k.1,k.2⟩
    · intro k
      rcases k.1 with z|z
      · by_cases e:x<a
        · exact .inl<|.inl ⟨z.1,z.2,e⟩
        · exact .inl<|.inr ⟨⟨z.1,Int.not_lt.mp λy=>k.2 ⟨Int.not_lt.mp e,y⟩⟩,z.2⟩
      · exact .inr ⟨z,k.2⟩
theorem o7{lo hi:Int}:∀{l:List (Int×Int)},lo<hi->nu l->(∀r∈l,hi<r.1)->bN l lo hi true=l:=λ{l}=>by
 induction l with
 | nil=>
  intro U U U;exact rfl
 | cons q l z=>
  intro u hw h;refine dK (cX.mp hw) λJ N I=>?_;have:=h q<|.head _
  unfold bN;rw[if_neg (by exact jt [] [_,_,_,_] 0x3245008132804889402240c81 ft u J this),if_pos this,if_pos rfl,z u I λr B=>h r (.tail _ B)]
theorem jl:∀{l lo hi},lo<hi->nu l->nu (bN l lo hi false)/\(∀x,iT (bN l lo hi false) x↔iT l x\/(lo<=x/\x<hi))/\(bN l lo hi false).length<=l.length+1/\∀z,z<lo->(∀r∈l,z<r.1)->∀r∈bN l lo hi false,z<r.1:=λ{l}=>by
 induction l with
 | nil=>
  intro lo hi I U;show nu [(lo,hi)]/\_;refine⟨cX.mpr ⟨I,λU h=>(nomatch h),ju⟩,λx=>?_,Nat.le_refl _,λz B U r u=>?_⟩
  ·show iT [(lo,hi)] x↔_;rw[c0,ef];simp
  ·refine(ys<|List.mem_singleton.mp u)▸?_;exact B
 | cons q l ih=>
  intro lo hi I hw;refine dK (cX.mp hw) λZ S W=>?_;unfold bN
  split
  ·rename_i e
   refine ji (ih I W) λi1 O V N=>⟨cX.mpr ⟨Z,λr u=>N _ e S r u,i1⟩,λx=>?_,by simp only[List.length_cons];exact bw [_,_] [] 0x20a10c000182a0a10dc1401801 ft V,λz B h r u=>?_⟩
   ·rw[c0,O,c0,or_assoc]
   ·rcases List.mem_cons.mp u with rfl|u
    ·exact h r<|.head _
    ·exact N z B (λr u=>h r<|.tail _ u) r u
  ·split
   ·rename_i e1 J
    rw[if_neg (by decide),o7 I W (λr u=>by have:=S r u;exact jt [] [_,_,_,_] 0x1265009102804c91402240a01 ft Z J this)];refine⟨cX.mpr ⟨I,λr u=>?_,hw⟩,λx=>?_,Nat.le_refl _,λz B h r u=>?_⟩
    ·rcases List.mem_cons.mp u with rfl|u
     ·exact J
     ·have:=S r u;show hi<_;exact jt [] [_,_,_,_] 0x1265009102804c91402240a01 ft Z J this
    ·rw[c0];constructor
     ·rintro(h|h)
      ·exact .inr h
      ·exact .inl h
     ·rintro(h|h)
      ·exact .inr h
      ·exact .inl h
    ·rcases List.mem_cons.mp u with rfl|u
     ·exact B
     ·exact h r u
   ·rename_i e1 J
    refine ji (ih (lo:=min lo q.1) (hi:=max hi q.2) (Int.lt_of_le_of_lt (Int.min_le_left _ _)<|Int.lt_of_lt_of_le I<|Int.le_max_left _ _) W) λi1 O V N=>⟨i1,λx=>?_,by simp only[List.length_cons];exact bw [_,_] [] 0x1050860000c1505086c0001 ft V,λz B h r u=>?_⟩
    ·rw [O,c0];constructor
     ·rintro(h|h)
      ·exact .inl<|.inr h
      ·by_cases e:q.1<=x/\x<q.2
       ·exact .inl<|.inl e
       ·refine .inr ?_
        by_cases z:q.1<=x
        ·exact⟨Int.le_trans (Int.not_lt.mp e1)<|Int.not_lt.mp λy=>e ⟨z,y⟩,mx_x h.2 λy=>e ⟨z,y⟩⟩
        ·exact⟨mn_x h.1 z,Int.lt_of_lt_of_le (Int.not_le.mp z)<|Int.not_lt.mp J⟩
     ·rintro((h|h)|h)
      ·exact .inr ⟨Int.le_trans (Int.min_le_right _ _) h.1,Int.lt_of_lt_of_le h.2<|Int.le_max_right _ _⟩
      ·exact .inl h
      ·exact .inr ⟨Int.le_trans (Int.min_le_left _ _) h.1,Int.lt_of_lt_of_le h.2<|Int.le_max_left _ _⟩
    ·have:=h q<|.head _
     exact N z (Int.lt_min.mpr ⟨B,this⟩) (λr u=>h r<|.tail _ u) r u
theorem xd:∀(l:List (Int×Int))(lo hi:Int)(b:Bool),(eI l lo hi b).length<=l.length+1:=λl lo hi b=>Nat.le_trans (mr l lo hi b) (Nat.add_le_add_left (by split<;>first|exact Nat.zero_le _|exact Nat.le_refl _) _)
theorem oD:∀{o l},(∀q∈o,q.1<q.2)->nu l->nu (without l o)/\∀x,iT (without l o) x↔iT l x/\¬iT o x:=λ{o}=>by
 induction o with
 | nil=>
  intro l U B;exact⟨B,λx=>by rw[ef];simp[without]⟩
 | cons q o O=>
  intro l J B;have N:=J q<|.head _
  refine aL (O (l:=bI q.1 q.2 l) (λr V=>J r<|.tail _ V)<|kO N B) λW S=>⟨W,λx=>(S x).trans ?_⟩;rw[k9 N,c0];constructor
  ·(intro I;refine aL I λz c=>aL z λa b=>?_);exact⟨a,λh=>h.elim b c⟩
  ·(intro u;refine aL u λa b=>?_);exact⟨⟨a,λh=>b<|.inl h⟩,λh=>b<|.inr h⟩
theorem pZ:∀{o l},(∀q∈o,q.1<q.2)->nu l->nu (gu l o)/\∀x,iT (gu l o) x↔iT l x\/iT o x:=λ{o}=>by
 induction o with
 | nil=>
  intro l U u;exact⟨u,λx=>by rw[ef];simp[gu]⟩
 | cons q o I=>
  intro l z u;have N:=z q<|.head _
  refine dK (jl N u) λV B U=>aL (I (l:=bN l q.1 q.2 false) (λr O=>z r<|.tail _ O) V) λS J=>⟨S,λx=>(J x).trans ?_⟩;rw[B,c0,or_assoc]
theorem oj(o:Int)(n:Nat):(cq o n).Pairwise (· < ·):=by
 unfold cq;rw[List.pairwise_map];exact List.pairwise_lt_range.imp λh=>by exact bw [_,_] [_] 0x10004088e0580e05a01 ft h
theorem jf:∀{l},nu l->(dX l).Pairwise (· < ·):=λ{l}=>by
 induction l with
 | nil=>
  intro U;exact .nil
 | cons q l u=>
  intro h;refine dK (cX.mp h) λS z J=>?_;show(cq q.1 (q.2-q.1).toNat++dX l).Pairwise (· < ·);rw[List.pairwise_append];exact⟨oj _ _,u J,λa O b I=>aG (ea.mp I) λr B N=>Int.lt_trans (oY.mp O).2<|Int.lt_of_lt_of_le (z r B) N.1⟩
theorem dW{l:List Int}(h:l.Pairwise (· < ·)):l.Nodup:=h.imp λh=>Int.ne_of_lt h
theorem wV:∀(l s:List Int),l.Nodup->(∀x∈l,x∉s)->fV s l=l:=λl=>by
 induction l with
 | nil=>
  intro U U U;exact rfl
 | cons x l B=>
  intro s h z;rw[List.nodup_cons] at h;unfold fV;rw[if_neg (z x<|.head _),B (s++[x]) h.2 λy u q=>?_]; · rfl
  rcases List.mem_append.mp q with q|q
  ·exact z y (.tail _ u) q
  ·rw[List.mem_singleton.mp q] at u;exact h.1 u
theorem md{l m:List Int}(z:l.Nodup)(u:m.Nodup)(h:∀x,x∈l↔x∈m):l.Perm m:=by
 rw[List.perm_iff_count];intro a;rw[z.count,u.count];simp only[h a]
theorem vw:∀{l m:List Int},l.Nodup->(∀x∈l,x∈m)->l.length<=m.length:=λ{l}=>by
 induction l with
 | nil=>
  intro U U U;exact Nat.zero_le _
 | cons x l I=>
  intro m h u;rw[List.nodup_cons] at h;have z:=I (m:=m.erase x) h.2 λy B=>(List.mem_erase_of_ne λe=>by(clear u;subst e);exact h.1 B).mpr<|u y<|.tail _ B
  have e:=List.length_erase_of_mem<|u x<|.head _
  have p:=List.length_pos_of_mem<|u x<|.head _
  exact Nat.succ_le_of_lt<|Nat.lt_of_le_of_lt (e▸z)<|Nat.sub_lt p Nat.one_pos
theorem gb{l:List Int}(h:l.Nodup)(z:∀x∈l,0<=x/\x<40):l.length<=40:=by
 have:=vw (m:=cq 0 40) h λx u=>dE.mpr (by have:=z x u;exact⟨bw [] [_] 0x808c08101181 ft this.1,bw [] [_] 0x140c80a01a065c04c0a01 ft this.2⟩);have e:(cq 0 40).length=40:=rfl;exact dD [_,_] [] 0x50321040440000340c80001 ft this e
theorem Ak{l:List (Int×Int)}(h:∀q∈l,q.1<q.2):l.length<=(dX l).length:=by
 induction l with
 |nil=>exact Nat.zero_le _
 | cons q l z=>
  show l.length+1<=(cq q.1 (q.2-q.1).toNat++dX l).length;have B:=h q<|.head _
  have u:=z λr I=>h r<|.tail _ I
  rw[List.length_append];have e:(cq q.1 (q.2-q.1).toNat).length=(q.2-q.1).toNat:=by unfold cq;rw[List.length_map,List.length_range]
  rw[e,Nat.add_comm];exact Nat.add_le_add (Int.lt_toNat.mpr<|Int.sub_pos_of_lt B) u
section
set_option genInjectivity false
open PySem PySem.W PyProof.Rows PySem.Calls
theorem c6{C:Cx}{f:Fc}{z:Stmt}{rest:List Stmt}{Q:Fl->aC->Prop}(σ1:aC)(O:Ex C A f z σ λx σ'=>x= .next/\σ'=σ1)(J:fA C A f rest σ1 Q):fA C A f (z::rest) σ Q:=
 cK λρ F s a=>(O ρ F s a).mono λ_ _ _ _ u=>cj u λx B I N=>aD x B (by subst I N;exact J)
theorem dY{C:Cx}{f:Fc}{B:Stmt}{rest:List Stmt}{Q:Fl->aC->Prop}(R:aC->Prop)(O:Ex C A f B σ λx σ'=>x= .next/\R σ')(J:∀σ',R σ'->fA C A f rest σ' Q):fA C A f (B::rest) σ Q:=
 cK λρ F s a=>(O ρ F s a).mono λ_ _ _ σ' u=>cj u λx z I N=>aD x z (by(clear z;subst I);exact J σ' N)
theorem lh{mem:aQ}(z:σ.ls=ls)(B:σ.G8=T)(u:σ.mem=mem):σ=⟨ls,T,mem⟩:=by cases σ;subst z B u;rfl
noncomputable def kw(B:Int)(S:St):St:={S with hw:=true,w:={S.w with largest:=some B}}
theorem jz{B:Int}(h:S.hw=true)(u:S.w.largest=some B):kw B S=S:=by
 obtain⟨_,_,_,_,_,_,_,_,_,_,_,_,⟨_,_,_,_⟩,_,_,_,_,_⟩:=S;cases h;cases u;rfl
theorem rP(B:Int)(S:St)(q:Int×List aM):aQ.set (aJ (kw B S)) 16 (.G7 (mM (dh S.Hf) q.1))=aJ (kw B (kW S q)):=by rw[vn];exact ms rfl
theorem EU{l:List (Int×List aM)}{X Y:Prop}(u:l≠[]->X)(z:l=[]->Y):if(!ez (l.map λq=>DV.int q.1) [])=true then X else Y:=by
 rw[lJ];cases l with
 |nil=>exact z rfl
 |cons _ _=>exact u<|List.cons_ne_nil _ _
theorem DX{x:Option Int}{X Y:Prop}(u:x=none->X)(z:x≠none->Y):nt (PV.isNone (.d (jT x))) X Y:=by
 cases x with
 |none=>exact u rfl
 |some i=>exact z λe=>jg e
theorem zN{l:List (Int×Int)}{n:Int}(e:(!ez ((l.filter λr=>decide (r.1<=n)&&decide (n<=r.2)).map λU=>DV.int 1) [])=b):cu l n=b:=by rw[<-e,lJ,mR]
structure eA(S:St)(B:Int)(r:List (Int×List aM)):Prop where
 hw:S.hw=true
 asc:cU S.Hf
 len:S.Hf.length<60
 big:S.w.largest=some B
 probe:S.probe=0
 IP:cU r
 mem:∀q∈r,q∈S.Hf
theorem eA.told{B:Int}{r:List (Int×List aM)}(h:eA S B (q::r))(b:Bool):eA (dC b S q) B r:=
 ⟨(xO ..).trans h.hw,by rw[i8];exact wy h.asc q,by rw[i8];exact Nat.lt_of_le_of_lt (List.length_filter_le ..) h.len,by rw[Az];exact h.big,by rw[rQ];exact h.probe,jX h.IP,by rw[i8];exact vD h.IP h.mem⟩
theorem eA.tail{B:Int}{r:List (Int×List aM)}(h:eA S B (q::r)):eA S B r:=⟨h.hw,h.asc,h.len,h.big,h.probe,jX h.IP,λx u=>h.mem x<|.tail _ u⟩
theorem eA.later{B:Int}{r:List (Int×List aM)}(h:eA S B r)(z:Option Int):eA {S with w:={S.w with later:=z}} B r:=⟨h.hw,h.asc,h.len,h.big,h.probe,h.IP,h.mem⟩
section
variable {C:Cx}
theorem yV(G:Gd C){B:Int}{r:List (Int×List aM)}(b:Bool)(h:eA S B (q::r))(u:sd (kW S q) b q.2):Fd C 3 (.ref 649) [.at (.sk 17),.d (.seq (q.2.map b8)),.d (qm b),.at (.sk 19),.at (.sk 18)] (aJ (kw B (kW S q))) (.d .none) (aJ (kw B (dC b S q))):=by
 rw[jz (show(kW S q).hw=true from h.hw) h.big,jz (h.told b).hw (h.told b).big];exact qY G (kW S q) b q.2 h.hw u
theorem tb(G:Gd C)(S:St)(H:xj C S.lam)(lo hi:Int)(rs:List (Int×Int))(ah:rs.length<=1)(now:Int)(P:oB S ((lo,hi)::rs) hi now)(D E:List Int)(X:tF (fR S ((lo,hi)::rs) hi now) ((lo,hi)::rs) hi now D E):
  Fd C 10 (.ref 659) [.at (.sk 0),.at (.sk 15),.d (.seq (de ((lo,hi)::rs))),.d (.int now),.at (.sk 11)] (aJ S) (.d (.bool true)) (aJ (ic (fR S ((lo,hi)::rs) hi now) ((lo,hi)::rs) hi now)):=by
 revert G H ah P X;revert C S lo hi rs now D E;exists ce λC=>em λS=>aA λlo=>aA λhi=>aA λrs=>aA λnow=>aA λD=>aA λE=>aO _;intro C S lo hi rs now D E G H ah P X;have DA:Fd C 9 (.ref 226) [.at (.sk 0),.d<|.str "application",.d<|iB ((lo,hi)::rs),.d (.int now)] (aJ S) (.d .none) (aJ<|iC<|fR S ((lo,hi)::rs) hi now):=by
  rw[eH X.hw];exact qT G S H lo hi rs ah now P
 generalize fR S ((lo,hi)::rs) hi now=u at X DA;refine gi G (gH G) 3 ["conn","world","ranges","now","log","frame","wanted","wrong","number","fresh","delay"] 5 (by kernel_rfl) rfl rfl (by ac_rfl) (by kernel_rfl) λA L W Q hQ=>D5<|bK W 1000 (.bl _ _) _ ?_
 refine aI W DA rfl rfl (aB S) aK rfl<|bL (λh=>absurd X.next<|Int.not_lt.mpr h) λU=>?_;show fA C A _ _ _ _;refine dY (λσ'=>∃t,aU t/\σ'=⟨[some (.at (.sk 0)),some<|.at (.sk 15),some<|.d<|.seq<|de ((lo,hi)::rs),some<|.d<|.int now,some<|.at (.sk 11),some<|.d<|iB ((lo,hi)::rs),some<|.d .none,none,none,some<|.d<|.seq<|(aY u ((lo,hi)::rs)).map λq=>.int q.1,none],none::t,aJ<|iC u⟩) ?fr ?_
 case fr=>
  refine uz (k:=.sk 16) (l:=dh u.Hf) rfl λo=>gl W cJ (own:=["number"]) (caps:=["ranges"]) (by kernel_rfl) (λq:Int×List aM=>.int q.1) (λq=>cu ((lo,hi)::rs) q.1) (λq=>.int q.1) u.Hf 9 (l6 X.wz) ⟨kB W.hh rfl rfl<|iu _,rfl⟩ (λD Wc q hq u0 acc t ht Y N hY hN=>?_) λt ht=>⟨rfl,rfl,aD t ht<|lh rfl rfl<|ms<|ms rfl⟩
  refine d7 Wc (B2 cJ<|by kernel_rfl) (own:=["low","high"]) (caps:=["number"]) (by kernel_rfl) pr (λr=>decide (r.1<=q.1)&&decide (q.1<=r.2)) (λU=>.int 1) ((lo,hi)::rs) (Nat.le_trans (Nat.succ_le_succ ah)<|by decide) ⟨bZ Wc.hh rfl,rfl⟩ (λD3 ba r hr u1 u2 a9 t3 ab Y3 N3 a2 ar=>?_) λt3 ab=>?_
  ·refine bL (λh1=>bL (λh2=>⟨by rw[decide_eq_true h1,decide_eq_true h2];rfl,a2 [_,_] rfl rfl ab⟩) λh2=>⟨by rw[decide_eq_true h1,decide_eq_false h2];rfl,ar [_,_] rfl ab⟩) λh1=>⟨by rw[decide_eq_false h1];rfl,ar [_,_] rfl ab⟩
  ·exact jE (n:=6) (.inl rfl) (.inl rfl) (Wc.r.room<|by decide) (eC (λe=>⟨zN e,hY [_] rfl rfl<|eO ht<|bP ab⟩) λe=>⟨zN e,hN [_] rfl<|eO ht<|bP ab⟩) λU=>jD
 intro σ' ap;refine aG ap λt ht ay=>?_;try clear ap;subst ay;refine c6 ⟨[some (.at (.sk 0)),some<|.at (.sk 15),some<|.d<|.seq<|de ((lo,hi)::rs),some<|.d<|.int now,some<|.at (.sk 11),some<|.d<|iB ((lo,hi)::rs),some<|.d .none,none,none,some<|.d<|.seq<|(aY u ((lo,hi)::rs)).map λq=>.int q.1,none],none::t,aJ<|iC<|bV u hi⟩ ?note ?_
 case note=>
  cases hl:u.w.largest with
  | none=>
   refine q7 ⟨_,_,aJ<|iC {u with w:={u.w with largest:=none}}⟩ (by rw[<-hl])<|bK W 1000 (.ex _ _) _ ?_
   exact dB rfl (bl_ rfl) ⟨rfl,lh rfl rfl<|by unfold bV;rw[hl];exact ms rfl⟩
  | some B=>
   refine q7 ⟨_,_,aJ<|iC {u with w:={u.w with largest:=some B}}⟩ (by rw[<-hl])<|bK W 1000 (.ex _ _) _ ?_
   exact dB rfl (bl_ rfl) ⟨rfl,lh rfl rfl<|by unfold bV;rw[hl];exact ms rfl⟩
 refine dY (λσ'=>∃v8 au T,aU T/\σ'=⟨[some (.at (.sk 0)),some<|.at (.sk 15),some<|.d<|.seq<|de ((lo,hi)::rs),some<|.d<|.int now,some<|.at (.sk 11),some<|.d<|iB ((lo,hi)::rs),some<|.d .none,none,v8,some<|.d<|.seq<|(aY u ((lo,hi)::rs)).map λq=>.int q.1,au],T,aJ<|iC<|ic u ((lo,hi)::rs) hi now⟩) ?told ?rest
 case rest=>
  intro σ' af;refine vf af λv8 au T hT aw=>?_;try clear af;subst aw;refine bK W 1000 (.bl _ _) _<|aI W (kK G (iC<|ic u ((lo,hi)::rs) hi now) D E<|by rw[eH X.al.hw];exact X.al) rfl rfl (aB _) hT rfl ?_;exact hQ ⟨trivial,aB _,rfl,by rw[eH X.al.hw]⟩
 case told=>
  have hF:aY (bV u hi) ((lo,hi)::rs)=aY u ((lo,hi)::rs):=rfl;have am:∀q∈aY u ((lo,hi)::rs),q∈u.Hf:=λq hq=>(List.mem_filter.mp hq).1;have al:cU (aY u ((lo,hi)::rs)):=List.Pairwise.sublist (List.Sublist.map _ List.filter_sublist) X.wa;have hC:fD (bV u hi) ((lo,hi)::rs) hi now=(aY u ((lo,hi)::rs)).foldl (dC true) (c7 (bV u hi) ((lo,hi)::rs) hi now):=rfl;have hN:aY u ((lo,hi)::rs)≠[]->ic u ((lo,hi)::rs) hi now=jB (fD (bV u hi) ((lo,hi)::rs) hi now) (dQ u hi) now:=λe=>if_neg e;have hE:aY u ((lo,hi)::rs)=[]->ic u ((lo,hi)::rs) hi now=bV u hi:=λe=>if_pos e;have Z:=X.Hm;have O:=X.Hn;have z:(bV u hi).w.largest=some (dQ u hi):=rfl;have ai:∀S3,S3.hw=true->S3.Hf=u.Hf->S3.w.largest=some (dQ u hi)->S3.probe=0->eA S3 (dQ u hi) (aY u ((lo,hi)::rs)):=λS3 e1 e2 e3 e4=>⟨e1,by rw[e2];exact X.wa,by rw[e2];exact X.wz,e3,e4,al,by rw[e2];exact am⟩
  have ak:aY u ((lo,hi)::rs)≠[]->(bV u hi).probe=0:=X.probe;have ag:(bV u hi).hw=true:=X.hw;have ad:(bV u hi).Hf=u.Hf:=rfl;generalize bV u hi=S2 at hF hC hN hE Z O z ak ag ad⊢;generalize dQ u hi=B at hN O z ai;generalize ic u ((lo,hi)::rs) hi now=S9 at hN hE⊢;refine yQ<|bK W 1000 (.tt _ _) _ ?_
  refine jE (n:=6) (.inl rfl) (.inl rfl) (W.r.room<|by decide) (EU (λe=>?_) λe=>gr<|⟨rfl,rp none none _ (bP ht)<|by rw[hE e]⟩) λU=>jD;rw[hN e];refine aP (show∃ql,(aY u ((lo,hi)::rs)).getLast? =some ql from⟨_,List.getLast?_eq_some_getLast e⟩) λql ao=>?_;have aj:((aY u ((lo,hi)::rs)).map λq=>DV.int q.1).getLast? =some (.int ql.1):=by rw[List.getLast?_map,ao];rfl
  have aa:c7 S2 ((lo,hi)::rs) hi now=if ql.1=hi then{S2 with w:={S2.w with He:=now-ql.1}} else S2:=by unfold c7;rw[hF,ao]
  have K3:eA (c7 S2 ((lo,hi)::rs) hi now) B (aY u ((lo,hi)::rs)):=by
   rw[aa];split
   ·exact ai _ ag ad z<|ak e
   ·exact ai _ ag ad z<|ak e
  refine c6 ⟨[some (.at (.sk 0)),some<|.at (.sk 15),some<|.d<|.seq<|de ((lo,hi)::rs),some<|.d<|.int now,some<|.at (.sk 11),some<|.d<|iB ((lo,hi)::rs),some<|.d .none,none,none,some<|.d<|.seq<|(aY u ((lo,hi)::rs)).map λq=>.int q.1,none],none::t,aJ<|kw B<|c7 S2 ((lo,hi)::rs) hi now⟩ (bK W 1000 (.ex _ _) _ ?_) ?_
  ·refine fg (jC aj) (by decide) (mC (λe=>?_) λe=>⟨rfl,lh rfl rfl<|by rw[jz K3.hw K3.big,aa,if_neg e,eH ag]⟩);refine fg (jC aj) (by decide)<|dB rfl (bl_ rfl) ⟨rfl,lh rfl rfl ?_⟩
   rw[jz K3.hw K3.big,<-eH K3.hw,aa,if_pos e];exact ms rfl
  clear aa ai hN hE;generalize c7 S2 ((lo,hi)::rs) hi now=S3 at hC Z K3⊢;generalize fD S2 ((lo,hi)::rs) hi now=J at hC O⊢;refine dY (λσ'=>∃v8,σ'=⟨[some (.at (.sk 0)),some<|.at (.sk 15),some<|.d<|.seq<|de ((lo,hi)::rs),some<|.d<|.int now,some<|.at (.sk 11),some<|.d<|iB ((lo,hi)::rs),some<|.d .none,none,v8,some<|.d<|.seq<|(aY u ((lo,hi)::rs)).map λq=>.int q.1,none],none::t,aJ<|kw B J⟩/\eA J B []) ?sB ?_
  case sB=>
   refine kd W (λq:Int×List aM=>.int q.1) 8 8 (λS'=>aJ<|kw B S') (λr S'=>eA S' B r/\ub true S' r/\r.foldl (dC true) S'=J) (aY u ((lo,hi)::rs)) (S3,none,none) ⟨K3,Z,hC.symm⟩ (λt h=>⟨rfl,aD t.2.2 (by rw[<-h.2.2];rfl)<|h.2.2▸h.1⟩) (λq r t hP Q' hn hr=>?_) ⟨rfl,rfl⟩;refine dK hP λk a0 I=>aL a0 λh9 V=>y7 W rfl (jx q.1 (dh t.1.Hf) _ rfl rfl (ld k.asc<|k.mem q<|.head _) (by rw[dJ];exact l6 k.len) ?_);exact aI W (yV G true k h9) rfl (rP B t.1 q) (aB _) (bP ht) rfl<|hn.n (dC true t.1 q,some<|.d<|.int q.1,some<|.d<|.int q.1) ⟨k.told true,V,I⟩
  intro σ' an;refine aG an λv8 az k4=>?_;try clear an;subst az;have K5:eA (ek J) B (ek J).Hf:=⟨k4.hw,k4.asc,k4.len,k4.big,k4.probe,k4.asc,λU h=>h⟩
  refine c6 ⟨[some (.at (.sk 0)),some<|.at (.sk 15),some<|.d<|.seq<|de ((lo,hi)::rs),some<|.d<|.int now,some<|.at (.sk 11),some<|.d<|iB ((lo,hi)::rs),some<|.d .none,none,v8,some<|.d<|.seq<|(aY u ((lo,hi)::rs)).map λq=>.int q.1,some (.d<|.int<|b7 J.HI.He<|J.HI.s8.fdiv 8)],none::t,aJ<|kw B<|ek J⟩ (bK W 1000 (.ex _ _) _ ?_) ?_
  ·refine aI W (eB G<|kw B J) rfl rfl (aB _) (bP ht) rfl<|aI W (iL G (aJ<|kw B J) (aB _) J.HI.He _) rfl rfl (aB _) (bP ht) rfl ?_;exact dB rfl (bl_ rfl) ⟨rfl,lh rfl rfl<|ms rfl⟩
  have ae:=O<|b7 J.HI.He<|J.HI.s8.fdiv 8
  have hD:(ek J).Hf.foldl (gB B now<|b7 J.HI.He<|J.HI.s8.fdiv 8) (ek J)=jB J B now:=rfl;generalize(b7 J.HI.He<|J.HI.s8.fdiv 8)=dl at ae hD⊢;generalize jB J B now=S6 at hD⊢;generalize ek J=S5 at ae hD K5⊢;refine dY (λσ'=>∃v8,σ'=⟨[some (.at (.sk 0)),some<|.at (.sk 15),some<|.d<|.seq<|de ((lo,hi)::rs),some<|.d<|.int now,some<|.at (.sk 11),some<|.d<|iB ((lo,hi)::rs),some<|.d .none,none,v8,some<|.d<|.seq<|(aY u ((lo,hi)::rs)).map λq=>.int q.1,some (.d<|.int dl)],none::t,aJ<|kw B S6⟩/\eA S6 B []) ?sD ?_
  case sD =>
   refine kd W (λq:Int×List aM=>.int q.1) 8 8 (λS'=>aJ<|kw B S') (λr S'=>eA S' B r/\uu B now dl S' r/\r.foldl (gB B now dl) S'=S6) S5.Hf (S5,v8,v8) ⟨K5,ae,hD⟩ (λt h=>⟨rfl,aD t.2.2 (by rw[<-h.2.2];rfl)<|h.2.2▸h.1⟩) (λq r t hP Q' hn hr=>?_) ?_
   ·refine dK hP λk af I=>aL af λh9 V=>?_;have I:r.foldl (gB B now dl) (gB B now dl t.1 q)=S6:=I;refine bL (λh1=>bL (λh2=>?a) λh2=>bL (λh3=>?b) λh3=>?c) λh1=>?d
    case a|b=>
     have hc:q.1<B/\(q.1+3<=B\/q.1+dl<=now):=by first|exact⟨h1,.inl h2⟩|exact⟨h1,.inr h3⟩
     rw[show gB B now dl t.1 q=dC false t.1 q from if_pos hc] at V I;refine y7 W rfl (jx q.1 (dh t.1.Hf) _ rfl rfl (ld k.asc<|k.mem q<|.head _) (by rw[dJ];exact l6 k.len) ?_);exact aI W (yV G false k<|h9 hc) rfl (rP B t.1 q) (aB _) (bP ht) rfl<|hn.n (dC false t.1 q,some<|.d<|.int q.1,some<|.d<|.int q.1) ⟨k.told false,V,I⟩
    case c|d=>
     have hc:¬(q.1<B/\(q.1+3<=B\/q.1+dl<=now)):=by first|exact λe=>e.2.elim h2 h3|exact λe=>h1 e.1
     have e1:gB B now dl t.1 q=_:=if_neg hc;rw[e1] at V I;clear e1;refine bL (λg1=>DX (λg2=>?e) λg2=>?f) λg1=>?g
     case e=>
      rw[if_pos ⟨g1,g2⟩] at V I;exact dB rfl (bl_ rfl)<|hn.n ({t.1 with w:={t.1.w with later:=some (q.1+dl)}},some<|.d<|.int q.1,some<|.d<|.int q.1) ⟨k.tail.later _,V,I⟩<|ms rfl
     case f|g=>
      rw[if_neg (by first|exact λe=>g2 e.2|exact λe=>g1 e.1)] at V I;exact hn.n (t.1,some<|.d<|.int q.1,some<|.d<|.int q.1) ⟨k.tail,V,I⟩
   ·exact eh W.hh (po:=.G7<|dh S5.Hf) (l:=dh S5.Hf) (ns':=Hu S5.Hf) rfl rfl (by rw[dJ];exact Cd K5.len) (by rw[iu];exact .refl _) (K5.asc.imp Int.le_of_lt) ⟨zW<|iq _,rfl⟩
  intro σ' aq;refine aG aq λa1 av k7=>?_;try clear aq;subst av;exact bK W 1000 (.bl _ _) _ (zG (λe=>absurd k7.probe e) λU=>⟨rfl,rp a1 _ _ (bP ht)<|by rw[jz k7.hw k7.big,eH k7.hw]⟩)
end
end
section
open PySem PySem.W PyProof.Rows PySem.Calls
theorem pc:∀{fr},(∀b∈fr.filterMap (·.frame),∀o,h.get? b=some o->∃B,h'.get? b=some {o with slots:=B})->h.FunFrames cz fr->h'.FunFrames cz fr:=
 λ{fr}=>by
 induction fr with
 |nil=>exact λU U=>trivial
 |cons env fr I=>exact λhk x=>iP x.2.1 λz o u J N O=>(hk z (by refine(ys List.filterMap_cons)▸(ys u)▸?_;exact .head _) o N).elim λB e=>⟨x.1,kH z _ u J e O,I (λb S=>hk b<|by refine(ys List.filterMap_cons)▸(ys u)▸?_;exact .tail _ S) x.2.2⟩
theorem jh.start:∀{ρ F mem h h' l z}(hk:∀b o,h.get? b=some o->h'.get? b=some o),jh ρ F (aH mem) h l ρ F ⟨z,[],mem⟩ h':=by
 intro ρ F mem h h' l z hk;exact ⟨λU U e=>e,λU U e=>e,λb o e U U=>hk b o e,λb o e U=>⟨o.slots,hk b o e⟩,λb e=>by
   rcases e with⟨k,o,p,u,B,I⟩|q
   ·cases k with
    |sk n=>exact .inl<|bH (.sk n) o p u B I
    |tm i=>simp[aC.get] at u
   ·exact .inr<|.inl q⟩
noncomputable def rLs(lo hi:Int)(rs:List (Int×Int))(now:Int)(x6:DV)(x7:Option PV):List (Option PV):=[some (.at (.sk 0)),some (.at (.sk 15)),some (.d (.seq (de ((lo,hi)::rs)))),some (.d (.int now)),some (.at (.sk 11)),some (.d (iB ((lo,hi)::rs))),some (.d x6),x7,none,none,none]
section
variable {C:Cx}
theorem sW(G:Gd C)(S:St)(lo hi:Int)(rs:List (Int×Int))(aa:rs.length<=1)(now:Int)(z:S.sp.HK<=hi)(hw:S.hw=true)(hn:S.w.next<=hi)(D E:List Int)(al:rh S D E){fr:List Env}{l:List Addr}(J:A.frames=some fr)(hl:s.heap.FunFrames cz fr)(af:fr.filterMap (·.frame)=l)
  (I:∀b∈l,¬bY ρ (aH (aJ S)) b/\∀o,¬F b o) (hR:Rm A 10) (H:HR C ρ F (aH (aJ S)) s.heap) (N:∀i,ρ (.tm i)=none) (ab:∀n,aJ S n=none->ρ (.sk n)=none) (r:bQ C ρ F vs [.at (.sk 0),.at (.sk 15),.d (.seq (de ((lo,hi)::rs))),.d (.int now),.at (.sk 11)]):
  codeAny (model C.prog C.w) A (.call (.ref 659) ⟨vs,[]⟩) (Fg C ρ F l (aJ S) s (.d (.bool true)) (aJ S)) s:=by
 revert G aa z hw hn al J hl af I hR H N ab r;revert A vs s F ρ C S lo hi rs now D E fr l;exists cx λA=>aA λvs=>eu λs=>aA λF=>aA λρ=>ce λC=>em λS=>aA λlo=>aA λhi=>aA λrs=>aA λnow=>aA λD=>aA λE=>aA λfr=>aA λl=>aO _;intro A vs s F ρ C S lo hi rs now D E fr l G aa z hw hn al J hl af I hR H N ab r;have hc:gI C.K 659 ["conn","world","ranges","now","log","frame","wanted","wrong","number","fresh","delay"]=true:=by kernel_rfl
 have a0:mc 5 λvs=>bindArgs (kZ C.K 659) ⟨vs,[]⟩=pure ((List.take 5 (["conn","world","ranges","now","log","frame","wanted","wrong","number","fresh","delay"]:List Str)).zip vs):=by(repeat intro _);(show bindArgs _ _=_);kernel_rfl
 refine f9 (C:=C) (xs:=[.at (.sk 0),.at (.sk 15),.d<|.seq<|de ((lo,hi)::rs),.d<|.int now,.at (.sk 11)]) G (n:=9) (fQ G 5 hc) rfl (λvs hv=>a0.of vs hv) hR H N ab r λL aj ae O ad u hR=>?_;subst af;have W:=ml (L:=L) G (gH G) hc hR;have a9:∀b∈fr.filterMap (·.frame),∃o,s.heap.get? b=some o:=λb z=>by
  exact aL (hl.mem z) λU ag=>aG ag λo ho U=>⟨o,ho⟩
 have B:i6 (fz C 659 ["conn","world","ranges","now","log","frame","wanted","wrong","number","fresh","delay"] L) ρ F (aH<|aJ S) s.heap (fr.filterMap (·.frame)):=⟨λb z=>⟨a9 b z,I b z⟩,u⟩
 refine wpAny_execs_cons<|((?w1:Ex C _ (fz C 659 _ L) _ _ (λx σ'=>x= .next/\σ'=⟨rLs lo hi rs now .none none,[],aJ S⟩)) ρ F (wh s aj ae) O).use λfl h1 aq be F1 σ1 a1 ak ag=>cj ag λx rx ex e1=>?_
 case w1=>exact bK W 1000 (.ex _ _) _ ⟨rfl,rfl⟩
 subst ex e1;have x1:=(jh.start (l:=fr.filterMap (·.frame)) ad).then B O ak
 cases fl with
 | next=>
  refine wpAny_execs_cons<|wpAny_Try_except ?_
  refine wpAny_execs_cons<|wpAny_Expr_any ?_ rfl rfl
  refine zo (C:=C) (v:=.ref 226) (xs:=[.at (.sk 0),.d<|.str "application",.d<|iB ((lo,hi)::rs),.d (.int now)]) (σ':=⟨rLs lo hi rs now .none none,[],aJ S⟩) (s:=(wh s h1 aq)) G a1 (by kernel_rfl) (by kernel_rfl) rfl (by kernel_rfl) (pd rfl) (Ci rfl) ?wA λbd h3 a2 ao F3 a3 ap an=>?_
  case wA=>refine bK W 1000 (.es _ _) _ ?_ _;exact⟨rfl,rfl⟩
  have x3:=x1.then B a1 ap
  have ay:h3.FunFrames cz fr:=pc (λb z o ho=>x3.slots b o ho z) hl;have V:=kM a3 rfl ay;refine wpAny_call (codeAny_mono (lr G S lo hi rs aa now z (A:=A.deeper<|callEnvC _ L 659) (ρ:=bJ ao) (s:=(wh s h3 a2)) (Around.frames_deeper J) V (λb Z=>?ho) (hR.le<|by decide) (a3.H.H8<|aB S) (λU=>rfl) (λn e=>a3.HN n e)<|an.sk rfl) λr s' rz=>x0 rz λe d fl es rz=>tW rz λm g1 g2 tk ρ' F' L2 er bb RR=>?_)
  case ho=>
   intro q;rcases List.mem_cons.mp (show b∈L::fr.filterMap (·.frame) from Z) with rfl|Z
   ·exact a3.R.Hj _ (.inl rfl)<|cs q
   ·exact(x3.Im B Z).1<|cs q
  subst er bb;refine tG (C:=C) (f:=fz C 659 _ L) (P:=n7) (ls':=rLs lo hi rs now (.tup [.int 10,.int 2])<|some<|.val<|.ref e) (s:=(wh s g2 tk)) G sM (λU U h=>⟨h.one,h.sz⟩) rfl a3 x3 B (λb=>x3.none_of a3 rfl) (Around.frames_deeper J) rfl rfl V RR (i:=7) (by kernel_rfl) (by kernel_rfl) rfl rfl (by kernel_rfl) ?hsuite ?hk
  case hsuite=>
   intro A' bc hQ;refine cK<|mF<|y4<|fi (yx rfl<|lF (i:=7) (pv:=.val<|.ref e) rfl rfl ?_ rfl) rfl
   refine xt G (k:=.tm 0) (k2:=.tm 1) rfl rfl hQ.code (by kernel_rfl) (by kernel_rfl) (by kernel_rfl) (by kernel_rfl) (by kernel_rfl)<|fi (yx rfl<|lF (i:=7) (pv:=.val<|.ref e) rfl rfl ?_ rfl) rfl;exact xt G (k:=.tm 0) (k2:=.tm 1) rfl rfl hQ.ft (by kernel_rfl) (by kernel_rfl) (by kernel_rfl) (by kernel_rfl) (by kernel_rfl)<|da ⟨bl_ rfl,oV (i:=6) rfl (W.st 6 "wanted" (bl_ rfl) rfl)<|gr ⟨rfl,rfl⟩⟩
  case hk=>
   intro h5 ba au F5 T a5 x5 hT;show wpAny _ _ _ _ _ _;refine wpAny_mono ((?w4:fA C _ (fz C 659 _ L) _ ⟨rLs lo hi rs now (.tup [.int 10,.int 2]) none,T,aJ S⟩ (λx σ'=>x= .ret (.d<|.bool true)/\σ'.mem=aJ S)) au F5 (wh s h5 ba) a5) (λfl s' pz=>?_)<|λU U e=>e.elim
   case w4=>
    have DL:=kK G S D E al;have ar:(iC S).w.next<=hi:=hn;rw[<-eH hw] at DL⊢;refine bK W 1000 (.bl _ _) _<|bL (λU=>?_) λh=>absurd ar h
    refine CS (n:=0) (l:=[.int 10,.int 2]) (m:=[.int 10,.int 2]) (by decide+kernel) (W.r.room<|by decide)<|(ys<|show ez [.int 10,.int 2] [.int 10,.int 2]=true from by decide+kernel)▸?_;exact aI W DL rfl rfl (aB _) hT rfl ⟨rfl,rfl⟩
   refine xC pz λh6 aw am F6 az av a6 ah ai=>?_;try clear pz;subst av;refine cj ai λy ry ey e6=>?_;subst ey;have x6:=x5.then B a5 ah
   cases fl with
   | ret v=>
    obtain⟨l6,T6,m6⟩:=az;have e6:m6=aJ S:=e6;clear ah ai;subst e6;refine Cj v h6 aw (bJ am) F6 rfl rfl (a6.H.H8<|aB S) (λU=>rfl) (λn e=>a6.HN n e) ⟨λk p e=>?_,x6.fz,λb o e n1 n2=>x6.keep b o e n1 n2,λb e=>x6.fresh b<|e.imp cs id⟩ (aW.IG (mem:=aJ S) ry trivial)<|λb z o e=>x6.slots b o e z
    cases k with
    |sk n=>exact x6.HD _ _ e
    |tm i=>rw[N] at e;exact bU e
   |_=>exact ry.elim
 |_=>exact rx.elim
end
end
section
set_option genInjectivity false
noncomputable def dm:aM->List Int
 | .Hp o b=>cq o b.size
 |_=>[]
noncomputable def eE(l:List (Int×List aM)):List aM:=l.flatMap (·.2)
noncomputable def cB(l:List (Int×List aM)):List Int:=(eE l).flatMap dm
noncomputable def sA:aM->Prop
 | .Hp o b=>b.size=4/\0<=o/\o<=36
 |_=>True
noncomputable def aM.IN:aM->Bool
 | .Hp _ _=>true
 |_=>false
structure gn(q:Int×List aM):Prop where
 ok:∀x∈q.2,sA x
 len:q.2.length<=3
 ne:q.2.isEmpty=false
 one:q.2.countP aM.IN<=1
noncomputable def lg(b:Bool):aM->List (Bool×aM)
 | .stream k=>[(b,.stream k)]
 | .Ho=>[(b,.Ho)]
 |_=>[]
noncomputable def cD(c:jV):aM->jV
 | .Hp o b=>{c with G9:=bN c.G9 o (o+b.size) false,HG:=bI o (o+b.size) c.HG}
 |_=>c
noncomputable def dr(c:jV):aM->jV
 | .Hp o b=>{c with HG:=gu c.HG (without [(o,o+b.size)] c.G9)}
 |_=>c
noncomputable def mP(l:List aM):aM->List aM
 | .Hs=>sJ l .Hs
 | .Hl k=>sJ l (.Hl k)
 |_=>l
theorem qN:∀(S:St)(x:aM),jA S x={S with Hk:=cD S.Hk x,log:=S.log++lg true x}:=by
 exists em λS=>jY λx=>aO _;intros;cases x<;>simp[jA,cD,lg,fU]
theorem sj:∀(S:St)(x:aM),fM S x={S with Hk:=dr S.Hk x,log:=S.log++lg false x,Hq:=mP S.Hq x}:=by
 exists em λS=>jY λx=>aO _;intros;cases x<;>simp[fM,dr,lg,fU,mP]
theorem pQ:∀(S:St)(x:aM),ch S true x={S with Hm:=S.Hm++dm x,Hr:=S.Hr++lg true x}:=by
 exists em λS=>jY λx=>aO _;intros;cases x<;>simp[ch,lg,dm]
theorem qd:∀(S:St)(x:aM),ch S false x={S with Hn:=S.Hn++dm x,Hr:=S.Hr++lg false x,Hi:=mP S.Hi x}:=by
 exists em λS=>jY λx=>aO _;intros;cases x<;>simp[ch,lg,dm,mP]
theorem rj:∀(l:List aM)(S:St),l.foldl jA S={S with Hk:=l.foldl cD S.Hk,log:=S.log++l.flatMap (lg true)}:=λl=>by
 induction l with
 | nil=>
  intro S;simp
 | cons x l u=>
  intro S;rw[List.foldl_cons,u,qN];simp
theorem xH:∀(l:List aM)(S:St),l.foldl fM S={S with Hk:=l.foldl dr S.Hk,log:=S.log++l.flatMap (lg false),Hq:=l.foldl mP S.Hq}:=λl=>by
 induction l with
 | nil=>
  intro S;simp
 | cons x l u=>
  intro S;rw[List.foldl_cons,u,sj];simp
theorem vJ:∀(l:List aM)(S:St),l.foldl (λS x=>ch S true x) S={S with Hm:=S.Hm++l.flatMap dm,Hr:=S.Hr++l.flatMap (lg true)}:=λl=>by
 induction l with
 | nil=>
  intro S;simp
 | cons x l u=>
  intro S;rw[List.foldl_cons,u,pQ];simp
theorem wP:∀(l:List aM)(S:St),l.foldl (λS x=>ch S false x) S={S with Hn:=S.Hn++l.flatMap dm,Hr:=S.Hr++l.flatMap (lg false),Hi:=l.foldl mP S.Hi}:=λl=>by
 induction l with
 | nil=>
  intro S;simp
 | cons x l u=>
  intro S;rw[List.foldl_cons,u,qd];simp
theorem ig(q:Int×List aM)(l:List (Int×List aM)):eE (q::l)=q.2++eE l:=rfl
theorem n4(q:Int×List aM)(l:List (Int×List aM)):cB (q::l)=q.2.flatMap dm++cB l:=by unfold cB;rw[ig,List.flatMap_append]
theorem fu(q:Int×List aM)(l:List (Int×List aM)):bW (q::l)=100+q.1+bW l:=by unfold bW;rw[List.map_cons,List.sum_cons]
theorem y2:∀(l:List (Int×List aM))(S:St),l.foldl oI S={S with Hk:=(eE l).foldl cD S.Hk,log:=S.log++(eE l).flatMap (lg true),HB:={S.HB with Ht:=S.HB.Ht-bW l}}:=λl=>by
 induction l with
 | nil=>
  intro S;simp[eE,bW]
 | cons q l u=>
  intro S;rw[List.foldl_cons,u];unfold oI;rw[rj,ig,fu,List.foldl_append,List.flatMap_append];simp only[y8,List.append_assoc];rw[show S.HB.Ht-(100+q.1)-bW l=S.HB.Ht-(100+q.1+bW l) from by exact Int.le_antisymm (jO [] [_,_,_] 0x11139074d81a444e41d3036981 ft) (jO [] [_,_,_] 0x11139074c0da444e41d3606981 ft)]
theorem n0(q:Int×List aM)(S:St):dC true S q={S with Hf:=ck S.Hf q,Hm:=S.Hm++q.2.flatMap dm,Hr:=S.Hr++q.2.flatMap (lg true)}:=by
 unfold dC;rw[vJ];rfl
theorem n3(q:Int×List aM)(S:St):dC false S q={S with Hf:=ck S.Hf q,Hn:=S.Hn++q.2.flatMap dm,Hr:=S.Hr++q.2.flatMap (lg false),Hi:=q.2.foldl mP S.Hi}:=by
 unfold dC;rw[wP];rfl
theorem vg:∀(l:List (Int×List aM))(S:St),l.foldl (dC true) S={S with Hf:=l.foldl ck S.Hf,Hm:=S.Hm++cB l,Hr:=S.Hr++(eE l).flatMap (lg true)}:=λl=>by
 induction l with
 | nil=>
  intro S;simp[eE,cB]
 | cons q l u=>
  intro S;rw[List.foldl_cons,u,n0,n4,ig,List.flatMap_append];simp only[List.foldl_cons,List.append_assoc]
noncomputable def dF(B now d:Int)(q:Int×List aM):Bool:=decide (q.1<B/\(q.1+3<=B\/q.1+d<=now))
noncomputable def iU(B now d:Int):Option Int->List (Int×List aM)->Option Int
 |o,[]=>o
 |o,q::l=>iU B now d (if dF B now d q=true then o else if q.1<B/\o=none then some (q.1+d) else o) l
theorem kQ(B now d:Int)(o:Option Int)(q:Int×List aM)(l:List (Int×List aM)):iU B now d o (q::l)=iU B now d (if dF B now d q=true then o else if q.1<B/\o=none then some (q.1+d) else o) l:=rfl
theorem uV{B now d:Int}(h:dF B now d q=true):gB B now d S q=dC false S q:=if_pos<|of_decide_eq_true h
theorem uY:∀{B now d S q}(h:¬dF B now d q=true),gB B now d S q={S with w:={S.w with later:=if q.1<B/\S.w.later=none then some (q.1+d) else S.w.later}}:=by
 intro B now d S q h;have u:¬(q.1<B/\(q.1+3<=B\/q.1+d<=now)):=λe=>h<|decide_eq_true e
 unfold gB;rw[if_neg u]
 split
 ·rfl
 ·rfl
theorem wH(B now d:Int):∀(l:List (Int×List aM))(S:St),l.foldl (gB B now d) S={S with Hf:=(l.filter (dF B now d)).foldl ck S.Hf,Hn:=S.Hn++cB (l.filter (dF B now d)),Hr:=S.Hr++(eE (l.filter (dF B now d))).flatMap (lg false),Hi:=(eE (l.filter (dF B now d))).foldl mP S.Hi,w:={S.w with later:=iU B now d S.w.later l}}:=λl=>by
 induction l with
 | nil=>
  intro S;simp[eE,cB,iU]
 | cons q l u=>
  intro S;rw[List.foldl_cons,u,List.filter_cons,kQ]
  by_cases h:dF B now d q=true
  ·rw[if_pos h,if_pos h,uV h,n3,n4,ig,List.flatMap_append,List.foldl_append];simp only[List.foldl_cons,List.append_assoc]
  ·rw[if_neg h,if_neg h,uY h]
theorem tr(B now d:Int):∀(l:List (Int×List aM))(a:List Int)(o:Option Int),cU l->B∉Hu l->(∀y,o=some y->∀q∈l,y<=q.1+d)->(gJ B now d (Hu l) a o).2=iU B now d o l:=λl=>by
 induction l with
 | nil=>
  intro a o U U U;exact rfl
 | cons q l S=>
  intro a o ha hB ho;have aa:=(List.pairwise_cons.mp<|show(q.1::Hu l).Pairwise (· < ·) from ha).1;have z:=jX ha;have u:B∉Hu l:=λh=>hB<|.tail _ h
  have ae:B≠q.1:=λe=>hB<|e▸List.Mem.head _
  have I:∀y,o=some y->∀r∈l,y<=r.1+d:=λy e r Z=>ho y e r<|.tail _ Z
  show(gJ B now d (q.1::Hu l) a o).2=_;rw[kQ];unfold gJ
  by_cases W:B<q.1
  ·have N:¬dF B now d q=true:=λh=>by have ab:=of_decide_eq_true h;exact dD [] [_,_] 0x1128044814020201500 ft W ab.1
   rw[if_pos W,if_neg N,if_neg (by lia),S a o z u I]
  ·rw [if_neg W]
   by_cases O:eK q.1 q.1 B now d=true
   ·have e4:q.1+3<=B\/q.1+d<=now:=by simpa [eK] using O
    have N:dF B now d q=true:=decide_eq_true ⟨by lia,e4⟩;rw[if_pos O,if_pos N,S _ o z u I]
   ·have e4:¬(q.1+3<=B\/q.1+d<=now):=λh=>O (by simpa [eK] using h);have N:¬dF B now d q=true:=λh=>e4 (of_decide_eq_true h).2;rw[if_neg O,if_neg N];cases o with
    | none=>
     rw[if_pos ⟨by lia,rfl⟩];refine S a _ z u λy e r Z=>?_;have J:=oi e;clear e;subst J;have V:=aa r.1<|List.mem_map_of_mem (f:=(·.1)) Z
     exact bw [] [_,_,_] 0x881402248b1205981 ft V
    | some y=>
     rw[if_neg (λh=>nomatch h.2)];have ad:=ho y rfl q<|.head _
     show(gJ B now d (Hu l) a<|if q.1+d<y then some (q.1+d) else some y).2=_;rw[if_neg (by exact bw [] [_,_,_] 0x481644c0911205c81 ft ad)];exact S a _ z u I
theorem sE:∀(F l:List (Int×List aM)),F.foldl ck l=l.filter λx=> !decide (x.1∈Hu F):=λF=>by
 induction F with
 | nil=>
  intro l;exact(List.filter_eq_self.mpr λx U=>by simp[Hu]).symm
 | cons q F u=>
  intro l;rw[List.foldl_cons,u];unfold ck;rw[List.filter_filter];refine List.filter_congr λx U=>?_;show _= !decide (x.1∈q.1::Hu F)
  by_cases e:x.1=q.1<;>simp[e]
theorem eg:∀(P:Int->Bool)(l:List (Int×List aM)),(l.filter λq=>P q.1).foldl ck l=l.filter λq=> !P q.1:=by
 intro P l;rw[sE];refine List.filter_congr λx B=>?_;have e:x.1∈Hu (l.filter λq=>P q.1)↔P x.1=true:=by
  unfold Hu;rw[List.mem_map];constructor
  ·intro u;refine aG u λy I e=>?_;rw[<-e];exact(List.mem_filter.mp I).2
  ·intro h;exact aD x (List.mem_filter.mpr ⟨B,h⟩) rfl
 cases z:P x.1
 ·rw[decide_eq_false (λh=>by rw[z] at e;exact nomatch (e.mp h))]
 ·rw[decide_eq_true (e.mpr z)]
noncomputable def fY(S:St)(q:Int×List aM)(hi now:Int):vE:=if q.1=hi then fX S.HI (now-q.1) 0 now else S.HI
noncomputable def ff(S:St)(rs:List (Int×Int)):List (Int×List aM):=S.sp.Hd.filter λq=> !cu rs q.1
theorem mz:∀(S:St)(rs:List (Int×Int))(hi now:Int)(q:Int×List aM),fN S rs hi now q={S with sp:={S.sp with Hd:=ff S rs,largest:=et S.sp.largest hi,G9:=(Hu (bB S rs)).foldl fh S.sp.G9},HI:=fY S q hi now}:=by
 exists em λS=>aA λrs=>aA λhi=>aA λnow=>aA λq=>aO _;intros;unfold fN js fY;have e:(bB S rs).foldl ck S.sp.Hd=ff S rs:=eg (cu rs) S.sp.Hd;rw[<-e]
 split<;>rfl
theorem oP(S:St)(rs:List (Int×Int))(hi now:Int)(q:Int×List aM):kA S rs hi now q={S with sp:={S.sp with Hd:=ff S rs,largest:=et S.sp.largest hi,G9:=(Hu (bB S rs)).foldl fh S.sp.G9},HI:=fY S q hi now,Hk:=(eE (bB S rs)).foldl cD S.Hk,log:=S.log++(eE (bB S rs)).flatMap (lg true),HB:={S.HB with Ht:=S.HB.Ht-bW (bB S rs)}}:=by
 unfold kA;rw[y2,mz]
theorem oW:∀(r:pw)(z:Int)(o:Option Int)(n:Int),(gq r z o n).Ht=r.Ht-z/\(2400<=r.H4->2400<=(gq r z o n).H4):=by
 intro r z o n;unfold gq
 split
 ·exact⟨rfl,id⟩
 ·unfold jk
  split
  ·exact⟨rfl,id⟩
  ·exact⟨rfl,λU=>by show 2400<=max _ _;omega⟩
theorem zp:∀(M:St)(B now:Int),∃u,eN M B now={M with sp:={M.sp with Ii:=mE M B now,Hd:=M.sp.Hd.filter λq=> !fG B now (jQ M) q},Hk:=(eE (bT M B now)).foldl dr M.Hk,log:=M.log++(eE (bT M B now)).flatMap (lg false),Hq:=(eE (bT M B now)).foldl mP M.Hq,HB:=u}/\u.Ht=M.HB.Ht-bW (bT M B now)/\(2400<=M.HB.H4->2400<=u.H4):=by
 exists em λM=>aA λB=>aA λnow=>aO _;intros
 by_cases h:bT M B now=[]
 ·refine bD M.HB ?_ (by rw[h];simp[bW]) id;have e:(M.sp.Hd.filter λq=> !fG B now (jQ M) q)=M.sp.Hd:=by
   rw[List.filter_eq_self];intro q I;cases e:fG B now (jQ M) q
   ·rfl
   ·have:q∈bT M B now:=List.mem_filter.mpr ⟨I,e⟩;rw[h] at this;exact nomatch this
  unfold eN;rw[if_pos h,h,e];simp[eE,kS]
 ·refine aL (oW M.HB (bW<|bT M B now) (tI<|bT M B now) now) λJ z=>bD (gq M.HB (bW<|bT M B now) (tI<|bT M B now) now) ?_ J z;have e:(bT M B now).foldl ck M.sp.Hd=M.sp.Hd.filter λq=> !fG B now (jQ M) q:=eg (λn=> !decide (B<n)&&eK n n B now (jQ M)) M.sp.Hd;unfold eN;rw[if_neg h,xH,<-e];rfl
end
section
set_option genInjectivity false
structure CF(c:jV)(Hm Hn:List Int):Prop where
 wA:nu c.G9
 mA:∀x,iT c.G9 x↔x∈Hm
 wD:nu c.HG
 mD:∀x,iT c.HG x↔x∈Hn/\x∉Hm
noncomputable def wK(l:List Int):Prop:=∀x∈l,0<=x/\x<40
theorem ue:∀{c A L x}(h:CF c A L)(u:sA x),CF (cD c x) (A++dm x) L/\(cD c x).G9.length<=c.G9.length+(if x.IN=true then 1 else 0):=by
 exists i7 ⟨jV,⟨#[],[],[]⟩⟩ λc=>aA λA=>aA λL=>jY λx=>aO _;intros;cases x with
 | Hp o b=>
  revert o b;exists aA λo=>aA λb=>aO _;intros;have u:b.size=4/\0<=o/\o<=36:=u;refine ji (jl (l:=c.G9) (lo:=o) (hi:=o+b.size) (by exact bw [_] [_] 0x81a005040702c0a01 ft u.1) h.wA) λI z B U=>⟨⟨I,λx=>?_,kO (by exact bw [_] [_] 0x81a005040702c0a01 ft u.1) h.wD,λx=>?_⟩,B⟩
  ·show iT (bN c.G9 o (o+b.size) false) x↔x∈A++cq o b.size;rw[z,h.mA,List.mem_append,dE]
  ·show iT (bI o (o+b.size) c.HG) x↔x∈L/\¬x∈A++cq o b.size;rw[k9 (by exact bw [_] [_] 0x81a005040702c0a01 ft u.1),h.mD,List.mem_append,dE,not_or,and_assoc]
 |_=>exact⟨by show CF c (A++[]) L;rw[List.append_nil];exact h,Nat.le_refl _⟩
theorem uI:∀{c A L x}(h:CF c A L)(u:sA x),CF (dr c x) A (L++dm x)/\(dr c x).G9=c.G9:=by
 exists i7 ⟨jV,⟨#[],[],[]⟩⟩ λc=>aA λA=>aA λL=>jY λx=>aO _;intros;cases x with
 | Hp o b=>
  revert o b;exists aA λo=>aA λb=>aO _;intros;have u:b.size=4/\0<=o/\o<=36:=u;refine aL (oD (o:=c.G9) (l:=[(o,o+b.size)]) h.wA.1<|cX.mpr ⟨by show o<o+b.size;exact bw [_] [_] 0x81a005040702c0a01 ft u.1,λU h=>(nomatch h),ju⟩) λJ z=>aL (pZ (o:=without [(o,o+b.size)] c.G9) (l:=c.HG) J.1 h.wD) λI B=>⟨⟨h.wA,h.mA,I,λx=>?_⟩,rfl⟩;revert x;exists aA λx=>aO _;intros;show iT (gu c.HG<|without [(o,o+b.size)] c.G9) x↔x∈L++cq o b.size/\¬x∈A;rw[B,h.mD,z,c0,ef,or_false,h.mA,List.mem_append,dE];constructor
  ·rintro(⟨a,b⟩|⟨a,b⟩)
   ·exact⟨.inl a,b⟩
   ·exact⟨.inr a,b⟩
  ·rintro⟨a|a,b⟩
   ·exact .inl ⟨a,b⟩
   ·exact .inr ⟨a,b⟩
 |_=>exact⟨by show CF c A (L++[]);rw[List.append_nil];exact h,rfl⟩
theorem mB:∀(l:List aM)(c:jV)(A L:List Int),CF c A L->(∀x∈l,sA x)->CF (l.foldl cD c) (A++l.flatMap dm) L/\(l.foldl cD c).G9.length<=c.G9.length+l.countP aM.IN:=λl=>by
 induction l with
 | nil=>
  intro c A L h U;exact⟨by simpa using h,Nat.le_refl _⟩
 | cons x l B=>
  intro c A L h u;refine aL (ue h<|u x<|.head _) λN J=>aL (B (cD c x) (A++dm x) L N λy z=>u y<|.tail _ z) λO I=>?_;rw[List.flatMap_cons,<-List.append_assoc];refine⟨O,?_⟩;rw[List.countP_cons];simp only[List.foldl_cons];exact dD [_,_,_,_,_] [] 0x1040c00013021a0002608310c0001 ft J I
theorem zC:∀(l:List aM)(c:jV)(A L:List Int),CF c A L->(∀x∈l,sA x)->CF (l.foldl dr c) A (L++l.flatMap dm)/\(l.foldl dr c).G9=c.G9:=λl=>by
 induction l with
 | nil=>
  intro c A L h U;exact⟨by simpa using h,rfl⟩
 | cons x l B=>
  intro c A L h u;refine aL (uI h<|u x<|.head _) λN J=>aL (B (dr c x) A (L++dm x) N λy z=>u y<|.tail _ z) λO I=>?_;rw[List.flatMap_cons,<-List.append_assoc];exact⟨O,I.trans J⟩
theorem uQ{x:aM}(u:sA x):wK (dm x):=by
 cases x with
 | Hp o b=>
  intro y z;have u:b.size=4/\0<=o/\o<=36:=u;have:=dE.mp<|show y∈cq o b.size from z
  exact⟨dD [] [_,_] 0x1126044808c08101181 ft u.2.1 this.1,jt [_] [_,_] 0x712c0a01906424c0c0d0020340c80a01 ft u.1 u.2.2 this.2⟩
 |_=>exact λU h=>nomatch h
theorem pH{l m:List Int}(h:wK l)(z:wK m):wK (l++m):=λx u=>(List.mem_append.mp u).elim (h x)<|z x
theorem rX{l:List aM}(h:∀x∈l,sA x):wK (l.flatMap dm):=λy z=>by
 exact aG (List.mem_flatMap.mp z) λx u B=>uQ (h x u) y B
theorem wZ{l:List (Int×Int)}(h:nu l)(z:∀x,iT l x->0<=x/\x<40):l.length<=40:=
 Nat.le_trans (Ak h.1) (gb (dW<|jf h) λx u=>z x<|ea.mp u)
theorem CF.Ij{c:jV}{A L:List Int}(h:CF c A L)(z:wK L):c.HG.length<=40:=wZ h.wD λx u=>z x ((h.mD x).mp u).1
theorem zz{x:aM}(h:sA x):x.ok S:=by
 cases x with
 |Hp o b=>have h:b.size=4/\0<=o/\o<=36:=h;show 0<b.size/\b.size<1000;exact⟨bw [_] [] 72972430796132481 ft h.1,bw [_] [] 0x40d00203f41480081 ft h.1⟩
 |_=>exact trivial
theorem pb(b:Bool)(x:aM):(lg b x).length<=1:=by cases x<;>exact bl_ rfl
theorem gh(b:Bool):∀l:List aM,(l.flatMap (lg b)).length<=l.length:=λl=>by
 induction l with
 | nil=>
  exact Nat.le_refl _
 | cons x l z=>
  have u:=pb b x;have B:=z;rw[List.flatMap_cons,List.length_append,List.length_cons];exact dD [_,_,_] [] 0x10500002404001828831001801 ft z u
theorem uw:∀(l:List aM)(x:eD),(sJ l x).length<=l.length+1:=by
 intro l x;unfold sJ
 split
 ·exact jO [_] [] 140124094465 ft
 ·split
  ·exact jO [_] [] 140124094465 ft
  ·simp
theorem vb{l:List aM}(h:dI l)(x:eD):dI (sJ l x):=by
 unfold sJ
 split
 ·exact h
 ·split
  ·exact h
  ·intro y u;rcases List.mem_append.mp u with u|u
   ·exact h y u
   ·exact⟨_,List.mem_singleton.mp u⟩
theorem pA(l:List aM)(x:aM):(mP l x).length<=l.length+1:=by cases x<;>first|exact Nat.le_succ _|exact uw l .Hs|exact uw l<|.Hl _
theorem oM{l:List aM}(h:dI l)(x:aM):dI (mP l x):=by cases x<;>first|exact h|exact vb h .Hs|exact vb h<|.Hl _
theorem rg:∀(m l:List aM),(m.foldl mP l).length<=l.length+m.length:=λm=>by
 induction m with
 | nil=>
  intro l;exact Nat.le_refl _
 | cons x m B=>
  intro l;have z:=pA l x;have u:=B<|mP l x
  simp only[List.foldl_cons,List.length_cons];exact dD [_,_,_,_] [] 0x40c3000060a10cc0018288310c0001 ft z u
theorem rH:∀(m l:List aM),dI l->dI (m.foldl mP l):=λm=>by
 induction m with
 | nil=>
  intro l h;exact h
 | cons x m u=>
  intro l h;exact u _<|oM h x
theorem sm{x:aM}(h:sA x):(dm x).length<=4:=by
 cases x with
 |Hp o b=>have h:b.size=4/\0<=o/\o<=36:=h;show(cq o b.size).length<=4;unfold cq;rw[List.length_map,List.length_range];exact bw [_] [] 0x81a004060680001 ft h.1
 |_=>exact Nat.zero_le _
theorem FY:∀(l:List aM)(S:St)(A L:List Int),CF S.Hk A L->wK L->(∀x∈l,sA x)->S.Hk.G9.length+l.length<=900->S.log.length+l.length<=100->Al S l:=λl=>by
 induction l with
 | nil=>
  intro U U U U U U U U;exact trivial
 | cons x l O=>
  intro S A L h J u I B;simp only[List.length_cons] at I B;have V:=h.Ij J;refine aL (ue h<|u x<|.head _) λW z=>?_;have:=pb true x;have z:(cD S.Hk x).G9.length<=S.Hk.G9.length+1:=by split at z<;>lia
  refine⟨⟨by exact bw [_,_] [] 0x1c214a0a10c03003f41480081 ft I,by exact bw [_] [] 0x281900003f41480081 ft V,by exact bw [_,_] [] 0x641d4142180600720e80001 ft B,zz<|u x<|.head _⟩,?_⟩;rw[qN];exact O _ _ L W J (λy N=>u y<|.tail _ N) (by show(cD S.Hk x).G9.length+_<=_;exact dD [_,_,_] [] 0x1051060000f08528284320c00f08521001801 ft I z) (by show(S.log++lg true x).length+_<=_;rw[List.length_append];exact dD [_,_,_] [] 0x4142000e41d4144180600720e880800d801 ft B this)
theorem FU:∀(F:List (Int×List aM))(S:St)(A L:List Int),CF S.Hk A L->wK L->(∀q∈F,gn q)->S.Hk.G9.length+3*F.length<=900->S.log.length+3*F.length<=100->BE S F:=λF=>by
 induction F with
 | nil=>
  intro U U U U U U U U;exact trivial
 | cons q F V=>
  intro S A L h N J I B;simp only[List.length_cons] at I B;have z:=J q<|.head _
  have u:=z.len;have Z:= @List.countP_le_length _ aM.IN q.2;refine aL (mB q.2 S.Hk A L h z.ok) λi1 W=>?_;have i3:=gh true q.2;refine⟨FY q.2 (y8 S q.1) A L h N z.ok (by show S.Hk.G9.length+_<=_;exact dD [_,_,_] [] 0x30908003c214a0a20f09400c00f08521001801 ft I u) (by show S.log.length+_<=_;exact dD [_,_,_] [] 0xc242000e41d41441e12801801c83a1001801 ft B u),?_⟩;unfold oI;rw[rj];exact V _ _ L i1 N (λy O=>J y<|.tail _ O) (by show(q.2.foldl cD S.Hk).G9.length+_<=_;exact DW [_,_,_,_,_] [] 0x404180002610001c246000f085282843c25083003c21484612801801 ft I u Z W) (by show(S.log++q.2.flatMap (lg true)).length+_<=_;rw[List.length_append];exact jt [_,_,_,_] [] 0x604001c246000e41d41441e12801801c83a2184a0800d801 ft B u i3)
theorem Gb:∀(l:List aM)(S:St)(A L:List Int),CF S.Hk A L->wK L->(∀x∈l,sA x)->S.Hk.G9.length<=8->S.log.length+l.length<=100->S.Hq.length+l.length<=100->dI S.Hq->wS S l:=λl=>by
 induction l with
 | nil=>
  intro U U U U U U U U U U;exact trivial
 | cons x l W=>
  intro S A L h N B O I z J;simp only[List.length_cons] at I z;have hd:=h.Ij N;have u:=B x<|.head _
  refine aL (uI h u) λi1 Z=>?_;have:=pb false x;have:=pA S.Hq x;refine⟨⟨O,by exact bw [_] [] 0x50320000720e80001 ft hd,h.wA.1,by exact bw [_,_] [] 0x641d4142180600720e80001 ft I,by exact bw [_,_] [] 0x641d4142180600720e80001 ft z,J,zz u⟩,?_⟩;rw[sj];exact W _ A _ i1 (pH N<|uQ u) (λy V=>B y<|.tail _ V) (by show(dr S.Hk x).G9.length<=8;rw[Z];exact O) (by show(S.log++lg false x).length+_<=_;rw[List.length_append];lia) (by show(mP S.Hq x).length+_<=_;exact dD [_,_,_] [] 0x414418000390750508641801c83a1001801 ft z this)<|oM J x
theorem Ct(b:Bool):∀(l:List aM)(S:St),(∀x∈l,sA x)->S.hw=true->S.Hm.length+4*l.length<=1000->S.Hn.length+4*l.length<=1000->S.Hr.length+l.length<=1000->S.Hi.length+l.length<=1000->dI S.Hi->sd S b l
 := λl=>by
  induction l with
  |nil=>exact λU U U U U U U U=>trivial
  | cons x l Z=>
    intro S N V J z I B W;simp only[List.length_cons] at J z I B;have u:=N x<|.head _
    have i1:=sm u;have i2:=pb b x;have i3:=pA S.Hi x;refine⟨⟨V,by exact bw [_,_] [] 0xfa0a505087035003003f41480001 ft J,by exact bw [_,_] [] 0xfa0a505087035003003f41480001 ft z,by exact bw [_,_] [] 0x1f414a0a10c03003f41480001 ft I,by exact bw [_,_] [] 0x1f414a0a10c03003f41480001 ft B,W,?_⟩,?_⟩
    · cases x with
      |Hp o d=>have h:d.size=4/\0<=o/\o<=36:=u;show d.size<=1000/\-1000<=o/\o<=1000;exact⟨bw [_] [] 0x40d00203f41480001 ft h.1,bw [] [_] 0x10118103f414b181 ft h.2.1,bw [] [_] 0x241901303f41480981 ft h.2.2⟩
      |_=>exact trivial
    · cases b with
      | true=>
        rw[pQ];exact Z _ (λy O=>N y<|.tail _ O) V (by show(S.Hm++dm x).length+_<=_;rw[List.length_append];exact dD [_,_,_] [] 0x10342000fd0528288381a801801fa0a44206a0800d801 ft J i1) (by show S.Hn.length+_<=_;exact bw [_,_] [] 0x1f414a0a10e06a006007e8290881a801801 ft z) (by show(S.Hr++lg true x).length+_<=_;rw[List.length_append];exact dD [_,_,_] [] 0x10508003f414a0a20c03003f414880800d801 ft I i2) (by show S.Hi.length+_<=_;exact bw [_,_] [] 0x7d0528284300c00fd0521001801 ft B) W
      | false=>
        rw[qd];exact Z _ (λy O=>N y<|.tail _ O) V (by show S.Hm.length+_<=_;exact bw [_,_] [] 0x1f414a0a10e06a006007e8290881a801801 ft J) (by show(S.Hn++dm x).length+_<=_;rw[List.length_append];exact dD [_,_,_] [] 0x10342000fd0528288381a801801fa0a44206a0800d801 ft z i1) (by show(S.Hr++lg false x).length+_<=_;rw[List.length_append];exact dD [_,_,_] [] 0x10508003f414a0a20c03003f414880800d801 ft I i2) (by show(mP S.Hi x).length+_<=_;exact dD [_,_,_] [] 0x1051060000fd0528284320c00fd0521001801 ft B i3)<|oM W x
theorem kf:∀{l:List aM},(∀x∈l,sA x)->(l.flatMap dm).length<=4*l.length:=λ{l}=>by
 induction l with
 | nil=>
  intro U;exact Nat.le_refl _
 | cons x l I=>
  intro h;have z:=sm<|h x<|.head _
  have u:=I λy B=>h y<|.tail _ B
  rw[List.flatMap_cons,List.length_append,List.length_cons];exact dD [_,_,_] [] 0x4206a080030340000c1441c0d41001801 ft z u
theorem Db:∀(F:List (Int×List aM))(S:St),(∀q∈F,gn q)->S.hw=true->S.Hm.length+12*F.length<=1000->S.Hn.length+12*F.length<=1000->S.Hr.length+3*F.length<=1000->S.Hi.length+3*F.length<=1000->dI S.Hi->ub true S F:=λF=>by
 induction F with
 | nil=>
  intro U U U U U U U U;exact trivial
 | cons q F ih=>
  intro S O V N B J I W;simp only[List.length_cons] at N B J I;have z:=O q<|.head _
  have u:=z.len;have i1:=kf z.ok;have i2:=gh true q.2;refine⟨Ct true q.2 _ z.ok V (by show S.Hm.length+_<=_;exact dD [_,_,_] [] 0x61210013e82941441e08a006007e8290881a801801 ft N u) (by show S.Hn.length+_<=_;exact dD [_,_,_] [] 0x61210013e82941441e08a006007e8290881a801801 ft B u) (by show S.Hr.length+_<=_;exact dD [_,_,_] [] 0x30908003f414a0a20f09400c00fd0521001801 ft J u) (by show S.Hi.length+_<=_;exact dD [_,_,_] [] 0x30908003f414a0a20f09400c00fd0521001801 ft I u) W,?_⟩;rw[n0];exact ih _ (λy Z=>O y<|.tail _ Z) V (by show(S.Hm++q.2.flatMap dm).length+_<=_;rw[List.length_append];exact jt [_,_,_,_] [] 0xc40d4100070918009f414a0a20f045003003f41488608a0800d801 ft N u i1) (by show S.Hn.length+_<=_;exact bw [_,_] [] 0x7d05282843c11400c00fd05211822801801 ft B) (by show(S.Hr++q.2.flatMap (lg true)).length+_<=_;rw[List.length_append];exact jt [_,_,_,_] [] 0x18100070918003f414a0a20f09400c00fd0522184a0800d801 ft J u i2) (by show S.Hi.length+_<=_;exact bw [_,_] [] 0x7d05282843c25003003f41484612801801 ft I) W
theorem Fk(B now d:Int):∀(F:List (Int×List aM))(S:St),(∀q∈F,gn q)->S.hw=true->S.Hm.length+12*F.length<=1000->S.Hn.length+12*F.length<=1000->S.Hr.length+3*F.length<=1000->S.Hi.length+3*F.length<=1000->dI S.Hi->uu B now d S F:=λF=>by
 induction F with
 | nil=>
  intro U U U U U U U U;exact trivial
 | cons q F ih=>
  intro S O Z N z J I h5;simp only[List.length_cons] at N z J I;have W:=O q<|.head _
  have u:=W.len;have i1:=kf W.ok;have i2:=gh false q.2;have i3:=rg q.2 S.Hi;refine⟨λU=>Ct false q.2 _ W.ok Z (by show S.Hm.length+_<=_;exact dD [_,_,_] [] 0x61210013e82941441e08a006007e8290881a801801 ft N u) (by show S.Hn.length+_<=_;exact dD [_,_,_] [] 0x61210013e82941441e08a006007e8290881a801801 ft z u) (by show S.Hr.length+_<=_;exact dD [_,_,_] [] 0x30908003f414a0a20f09400c00fd0521001801 ft J u) (by show S.Hi.length+_<=_;exact dD [_,_,_] [] 0x30908003f414a0a20f09400c00fd0521001801 ft I u) h5,?_⟩
  by_cases e:dF B now d q=true
  ·rw[uV e,n3];exact ih _ (λy V=>O y<|.tail _ V) Z (by show S.Hm.length+_<=_;exact bw [_,_] [] 0x7d05282843c11400c00fd05211822801801 ft N) (by show(S.Hn++q.2.flatMap dm).length+_<=_;rw[List.length_append];exact jt [_,_,_,_] [] 0xc40d4100070918009f414a0a20f045003003f41488608a0800d801 ft z u i1) (by show(S.Hr++q.2.flatMap (lg false)).length+_<=_;rw[List.length_append];exact jt [_,_,_,_] [] 0x18100070918003f414a0a20f09400c00fd0522184a0800d801 ft J u i2) (by show(q.2.foldl mP S.Hi).length+_<=_;exact jt [_,_,_,_] [] 0x1820c0001c246000fd05282843c25083003f41484612801801 ft I u i3)<|rH _ _ h5
  ·rw[uY e];exact ih _ (λy V=>O y<|.tail _ V) Z (by show S.Hm.length+_<=_;exact bw [_,_] [] 0x7d05282843c11400c00fd05211822801801 ft N) (by show S.Hn.length+_<=_;exact bw [_,_] [] 0x7d05282843c11400c00fd05211822801801 ft z) (by show S.Hr.length+_<=_;exact bw [_,_] [] 0x7d05282843c25003003f41484612801801 ft J) (by show S.Hi.length+_<=_;exact bw [_,_] [] 0x7d05282843c25003003f41484612801801 ft I) h5
end
section
set_option genInjectivity false
structure wJ(many:Int)(S:St):Prop where
 m:3<=many/\many<=8
 hw:S.hw=true
 Hf:S.Hf=S.sp.Hd
 asc:cU S.sp.Hd
 ok:∀q∈S.sp.Hd,gn q/\0<=q.1/\q.1<many
 nx:S.sp.HK=many/\S.w.next=many
 lg:S.sp.largest=S.w.largest
 lgB:∀B,S.sp.largest=some B->B∉Hu S.sp.Hd
 log:S.log=S.Hr
 Io:∀q∈S.log,zv q.2
 Hq:S.Hq=S.Hi
 H1:dI S.Hq
 Ht:S.HB.Ht=bW S.sp.Hd
 H4:2400<=S.HB.H4
 lat:S.HI.He=S.w.He
 later:S.sp.Ii=S.w.later
 cf:CF S.Hk S.Hm S.Hn
 nd:(S.Hm++(S.Hn++cB S.sp.Hd)).Nodup
 IL:wK S.Hm
 Ik:wK S.Hn
 la:S.Hk.G9.length+S.sp.Hd.length<=8
 lA:S.sp.G9.length+S.sp.Hd.length<=8
 ll:S.log.length+3*S.sp.Hd.length<=24
 lo:S.Hq.length+3*S.sp.Hd.length<=24
 fst:∀f,S.HI.first=some f->1000<=f
theorem zm{l:List (Int×Int)}(h:nu l)(J:∀x,iT l x->0<=x/\x<40):∀q∈l,-500<=q.1/\q.1<500/\-500<=q.2/\q.2<500:=λq B=>by
 have I:=h.1 q B;have z:=J q.1<|aD q B<|⟨jO [] [_] 264577 ft,bw [] [_,_] 79250772462081 ft I⟩
 have u:=J (q.2-1)<|aD q B<|⟨bw [] [_,_] 0x9028060a1340981 ft I,jO [] [_] 3242224129 ft⟩
 exact⟨bw [] [_] 0x808c081fa12b181 ft z.1,bw [] [_] 0x140c80a01fa1280a01 ft z.2,bw [] [_] 0x41406808c081fa12b181 ft u.1,bw [] [_] 0x281941406a01fa1280a01 ft u.2⟩
theorem nL:∀{u S}(I:wJ u S),∃D C,rh S D C:=by
 exists aA λu=>em λS=>aO _;intros;have n1:S.Hm.Nodup:=(List.nodup_append.mp I.nd).1;have n2:S.Hn.Nodup:=(List.nodup_append.mp (List.nodup_append.mp I.nd).2.1).1;have B:=jf I.cf.wD;have J:=jf I.cf.wA;have V:∀x,iT S.Hk.HG x->0<=x/\x<40:=λx z=>I.Ik x ((I.cf.mD x).mp z).1;have N:∀x,iT S.Hk.G9 x->0<=x/\x<40:=λx z=>I.IL x<|(I.cf.mA x).mp z
 have W:=gb (dW B) λx z=>V x<|ea.mp z
 have zA:=gb (dW J) λx z=>N x<|ea.mp z
 have Z:=gb n2 I.Ik;have O:=I.la;exact⟨dX S.Hk.HG,dX S.Hk.G9,{
  hw:=I.hw
  keys:=by rw[I.Hf]
  asc:=I.asc
  len:=by exact bw [_,_] [] 0x20440043003e0c80081 ft O
  lg:=I.lg
  dP:=md (dW B) (n2.sublist List.filter_sublist) λx=>by rw[ea,I.cf.mD,List.mem_filter];simp
  dS:=B.imp λh=>Int.le_of_lt h
  dZ:=by exact bw [_] [] 0x281900003e0c80081 ft W
  cP:=md (dW J) n1 λx=>by rw[ea,I.cf.mA]
  cS:=J.imp λh=>Int.le_of_lt h
  cZ:=by exact bw [_] [] 0x281900003e0c80081 ft zA
  lZ:=by exact bw [_] [] 0x281900003f41480081 ft Z
  HG:=(wV (dX S.Hk.HG) [] (dW B) λU U h=>nomatch h).symm
  G9:=rfl
  duel:=by have:=I.cf.Ij I.Ik;exact bw [_] [] 0x281900003f41480081 ft this
  ackl:=by exact bw [_,_] [] 0x20442003003f41480081 ft O
  I9:=zm I.cf.wD V
  IZ:=zm I.cf.wA N
  log:=I.log
  Io:=I.Io
  Hq:=I.Hq
  H1:=I.H1
  Ht:=by rw[I.Ht,I.Hf];unfold bW Hu;rw[List.map_map];rfl
  He:=I.lat
  later:=I.later}⟩
theorem EL{u:Type}(p:u->Bool)(l:List u):(l.filter p).length+(l.filter λx=> !p x).length=l.length:=by
 rw[<-List.length_append];exact(List.filter_append_perm p l).length_eq
theorem CM(p:Int×List aM->Bool):∀l:List (Int×List aM),bW (l.filter p)+bW (l.filter λx=> !p x)=bW l:=λl=>by
 induction l with
 | nil=>
  exact rfl
 | cons q l u=>
  have:=u;rw[List.filter_cons,List.filter_cons,fu];cases p q
  ·simp only[Bool.false_eq_true,if_false,Bool.not_false,if_true,fu];exact Int.le_antisymm (bw [] [_,_,_,_] 0x32440b502644e41d36444e41d3605981 ft this)<|bw [] [_,_,_,_] 0x12648b582640e41d364589039074d981 ft this
  ·simp only[if_true,Bool.not_true,Bool.false_eq_true,if_false,fu];exact Int.le_antisymm (bw [] [_,_,_,_] 0x32444b502640e41d3644481c83a6d981 ft this)<|bw [] [_,_,_,_] 0x12648b58264881c83a6d89039074d981 ft this
theorem qo(l m:List (Int×List aM)):cB (l++m)=cB l++cB m:=by unfold cB eE;rw[List.flatMap_append,List.flatMap_append]
theorem FF(p:Int×List aM->Bool)(l:List (Int×List aM)):(cB (l.filter p)++cB (l.filter λx=> !p x)).Perm (cB l):=by
 rw[<-qo];exact((List.filter_append_perm p l).flatMap_right _).flatMap_right _
theorem je{l:List (Int×List aM)}(h:∀q∈l,gn q):∀x∈eE l,sA x:=λx u=>by
 exact aG (List.mem_flatMap.mp u) λq z B=>(h q z).ok x B
theorem kh:∀{l},(∀q∈l,gn q)->(eE l).length<=3*l.length/\(eE l).countP aM.IN<=l.length:=λ{l}=>by
 induction l with
 | nil=>
  intro U;exact⟨Nat.le_refl _,Nat.le_refl _⟩
 | cons q l J=>
  intro h;refine aL (J λy I=>h y<|.tail _ I) λO N=>?_;have B:=h q<|.head _
  have z:=B.len;have u:=B.one;rw[ig,List.length_append,List.countP_append,List.length_cons];exact⟨dD [_,_,_] [] 0x3090000243094100060a20f0941001801 ft O z,dD [_,_,_] [] 0x10500002404001828831001801 ft N u⟩
theorem mH:∀(l:List Int)(m:List (Int×Int)),(l.foldl fh m).length<=m.length+l.length:=λl=>by
 induction l with
 | nil=>
  intro m;exact Nat.le_refl _
 | cons x l B=>
  intro m;have z:(fh m x).length<=m.length+1:=xd m x x false;have u:=B<|fh m x
  simp only[List.foldl_cons,List.length_cons];exact dD [_,_,_,_] [] 0x40c3000060a10cc0018288310c0001 ft z u
theorem Bn:∀(l:List (Int×List aM)),(∀q∈l,q.1<8)->bW l<=107*l.length:=λl=>by
 induction l with
 | nil=>
  intro U;simp[bW]
 | cons q l I=>
  intro h;have z:=I λy B=>h y<|.tail _ B
  have u:=h q<|.head _
  rw[fu,List.length_cons];push_cast;exact dD [_] [_,_] 0x40880a0101f58ea093030500ef58ea09039074d981 ft z u
theorem s6{p:Int×List aM->Bool}{l:List (Int×List aM)}{x:Int}(h:x∈Hu (l.filter p)):x∈Hu l:=(List.Sublist.map _ List.filter_sublist).subset h
theorem i9{p:Int×List aM->Bool}{l:List (Int×List aM)}(h:cU l):cU (l.filter p):=List.Pairwise.sublist (List.Sublist.map _ List.filter_sublist) h
theorem nR:∀(S:St)(q:Int×List aM)(hi:Int){now:Int}(hn:1000<=now)(h:∀f,S.HI.first=some f->1000<=f),∀f,(fY S q hi now).first=some f->1000<=f:=by
 exists em λS=>aA λq=>aA λhi=>aA λnow=>aO _;intro S q hi now hn h;intro f u;unfold fY at u
 split at u
 ·unfold fX at u
  split at u
  ·(have z:=oi u;clear u;subst z);exact hn
  ·rename_i g e;exact h f<|e.trans u
 ·exact h f u
theorem sN:∀(S:St)(q:Int×List aM)(hi now:Int),(fY S q hi now).He=if q.1=hi then now-q.1 else S.HI.He:=by
 exists em λS=>aA λq=>aA λhi=>aA λnow=>aO _;intros;unfold fY
 split
 ·unfold fX
  split<;>rfl
 ·rfl
theorem Ba:∀{many S rs hi now}(I:wJ many S)(hm:hi<many)(hn:1000<=now),oB S rs hi now:=by
 exists aA λmany=>em λS=>aA λrs=>aA λhi=>aA λnow=>aO _;intro many S rs hi now I hm hn;have la:=I.la;have lA:=I.lA;have N:=I.ll;have lo:=I.lo;have z:=EL (λq:Int×List aM=>cu rs q.1) S.sp.Hd;have U:∀q∈bB S rs,gn q:=λq u=>(I.ok q (List.mem_filter.mp u).1).1;have J:∀q∈ff S rs,gn q/\0<=q.1/\q.1<many:=λq u=>I.ok q (List.mem_filter.mp u).1;have z:(bB S rs).length+(ff S rs).length=S.sp.Hd.length:=z;have hM:=I.m;refine aL (kh U) λk1 k2=>⟨I.asc,by exact bw [_,_] [] 0x181500c25043003e0c80083 ft N,λq u=>(I.ok q u).1.ne,λq u=>by have:=(I.ok q u).1.len;exact bw [_] [] 0x30900003f41480001 ft this,by rw[I.nx.1];exact hm,by exact bw [_,_] [] 0x8110800c00f8321001801 ft lA,?_,λq=>?_,λq u B V=>?_⟩
 ·have:=Bn S.sp.Hd λq u=>by have:=(I.ok q u).2;exact dD [] [_,_] 0x90280604424c0c0880a01 ft hM.2 this.2
  have:=I.H4;rw[I.Ht];lia
 ·rw[mz];exact FU _ _ S.Hm S.Hn I.cf I.Ik U (by show S.Hk.G9.length+_<=_;exact jt [_,_,_,_,_] [] 0x41008642702a2184a18600a0444003007c21484612801803 ft la N z) (by show S.log.length+_<=_;exact dD [_,_,_,_] [] 0x40c08640f02a2184a00600720e84612801801 ft N z)
 ·revert u V;revert q B;exists aA λq=>aA λB=>aO _;intro q B u V;rw[oP];refine aL (mB (eE<|bB S rs) S.Hk S.Hm S.Hn I.cf<|je U) λc1 c2=>?_;have c3:=gh true<|eE<|bB S rs
  have c4:=mH (Hu<|bB S rs) S.sp.G9;rw[cy] at c4;refine⟨V,i9 I.asc,by show(ff S rs).length<60;exact dD [_,_,_,_] [] 0x2000c320781510c25043003e0c80083 ft N z,λq u=>(J q u).1.ne,λq u=>by have:=(J q u).2;exact⟨bw [] [_] 0x808c08101181 ft this.1,dD [] [_,_] 0x4814030221260720e80a01 ft hM.2 this.2⟩,by show((Hu<|bB S rs).foldl fh S.sp.G9).length<1000;exact jt [_,_,_,_,_] [] 0x3021800024101864060444043003f41480081 ft lA z c4,λf O x W=>?_,λq u=>by have:=(J q u).1.len;exact bw [_] [] 0x30900003f41480001 ft this,?_⟩
  ·revert O W;revert f x;exists aA λf=>aA λx=>aO _;intro f x O W;have:=nR S q hi hn I.fst f O;have:=(J x W).2
   lia
  ·have hL:∀d,(((ff S rs).filter<|fG B now d).length<=(ff S rs).length):=λd=>List.length_filter_le ..;have Z:∀d,∀q∈(ff S rs).filter (fG B now d),gn q:=λd q u=>(J q (List.mem_filter.mp u).1).1;refine Gb _ _ (S.Hm++cB (bB S rs)) S.Hn c1 I.Ik (je<|Z _) ?_ ?_ ?_ I.H1
   ·show((eE<|bB S rs).foldl cD S.Hk).G9.length<=8;exact DW [_,_,_,_,_,_] [] 0x2810c000130a0009040619018111010c00c0880001 ft la z k2 c2
   ·have:=(kh<|Z<|b7 (fY S q hi now).He<|(fY S q hi now).s8.fdiv 8).1;have:=hL<|b7 (fY S q hi now).He<|(fY S q hi now).s8.fdiv 8
    show(S.log++(eE<|bB S rs).flatMap (Mine.lg true)).length+(eE<|(ff S rs).filter<|fG B now<|b7 (fY S q hi now).He<|(fY S q hi now).s8.fdiv 8).length<=100;rw[List.length_append];lia
   ·have:=(kh<|Z<|b7 (fY S q hi now).He<|(fY S q hi now).s8.fdiv 8).1;have:=hL<|b7 (fY S q hi now).He<|(fY S q hi now).s8.fdiv 8
    show S.Hq.length+(eE<|(ff S rs).filter<|fG B now<|b7 (fY S q hi now).He<|(fY S q hi now).s8.fdiv 8).length<=100
    lia
noncomputable def nC(S:St)(rs:List (Int×Int))(hi now:Int):Int:=match(aY S rs).getLast? with
 |some q=>if q.1=hi then now-q.1 else S.w.He
 |none=>S.w.He
theorem jN:∀(S:St)(rs:List (Int×Int))(hi now:Int),c7 (bV S hi) rs hi now={S with w:={S.w with largest:=some (dQ S hi),He:=nC S rs hi now}}:=by
 exists em λS=>aA λrs=>aA λhi=>aA λnow=>aO _;intros;unfold c7 nC;have e:aY (bV S hi) rs=aY S rs:=rfl;rw[e];cases(aY S rs).getLast? with
 |none=>rfl
 | some q=>
  dsimp only
  split<;>rfl
theorem ma:∀(S:St)(rs:List (Int×Int))(hi now:Int),fD (bV S hi) rs hi now={S with Hf:=(aY S rs).foldl ck S.Hf,Hm:=S.Hm++cB (aY S rs),Hr:=S.Hr++(eE (aY S rs)).flatMap (lg true),w:={S.w with largest:=some (dQ S hi),He:=nC S rs hi now}}:=by
 intro S rs hi now;unfold fD;have e:aY (bV S hi) rs=aY S rs:=rfl;rw[e,vg,jN]
theorem zY{rs:List (Int×Int)}{hi now:Int}(O:S.hw=true)(h2:hi<S.w.next)(u:S.Hf.length<=8)(h4:cU S.Hf)(U:∀q∈S.Hf,gn q)(h6:aY S rs≠[]->S.probe=0)(h7:S.Hm.length<=100)(V:S.Hn.length<=100)(h9:S.Hr.length<=100)(I:S.Hi.length<=100)(B:dI S.Hi)
  {D C:List Int} (hA:rh (ic S rs hi now) D C):tF S rs hi now D C:=by
 have J:(aY S rs).length<=S.Hf.length:=List.length_filter_le ..;have N:∀q∈aY S rs,gn q:=λq z=>U q (List.mem_filter.mp z).1;have k1:=(kh N).1;have k2:=kf<|je N
 have k3:=gh true<|eE<|aY S rs
 have W:((aY S rs).foldl ck S.Hf).length<=S.Hf.length:=by rw[sE];exact List.length_filter_le ..
 have Z:∀q∈(aY S rs).foldl ck S.Hf,gn q:=λq z=>by rw[sE] at z;exact U q (List.mem_filter.mp z).1
 refine⟨O,h2,by exact bw [_] [] 0x81100003e0c80081 ft u,h4,λq z=>by have:=(U q z).len;exact bw [_] [] 0x30900003f41480001 ft this,h6,?_,λd=>?_,hA⟩
 ·rw[jN];exact Db _ _ N O (by show S.Hm.length+_<=_;exact jt [_,_,_] [] 0x40400cc83a0000604440067d05211822801801 ft u h7 J) (by show S.Hn.length+_<=_;exact jt [_,_,_] [] 0x40400cc83a0000604440067d05211822801801 ft u V J) (by show S.Hr.length+_<=_;exact jt [_,_,_] [] 0x101000f20e8000181110007f41484612801801 ft u h9 J) (by show S.Hi.length+_<=_;exact jt [_,_,_] [] 0x101000f20e8000181110007f41484612801801 ft u I J) B
 ·rw[ma];refine Fk _ _ _ _ _ Z O (?_:(S.Hm++cB (aY S rs)).length+_<=_) (?_:S.Hn.length+_<=_) (?_:(S.Hr++(eE<|aY S rs).flatMap (lg true)).length+_<=_) (?_:S.Hi.length+_<=_) B
  ·rw[List.length_append];show _+((eE<|aY S rs).flatMap dm).length+12*((aY S rs).foldl ck S.Hf).length<=_
   lia
  ·show _+12*((aY S rs).foldl ck S.Hf).length<=_;exact jt [_,_,_] [] 0x40400cc83a0000604440067d05211822801801 ft u V W
  ·rw[List.length_append];show _+3*((aY S rs).foldl ck S.Hf).length<=_
   lia
  ·show _+3*((aY S rs).foldl ck S.Hf).length<=_;exact jt [_,_,_] [] 0x101000f20e8000181110007f41484612801801 ft u I W
theorem z5:∀(S:St)(rs:List (Int×Int))(hi now:Int){R:List (Int×List aM)}{d:Int}(u:aY S rs≠[])(z:(aY S rs).foldl ck S.Hf=R)(B:b7 S.HI.He (S.HI.s8.fdiv 8)=d),ic S rs hi now={S with
  Hf:=(R.filter (dF (dQ S hi) now d)).foldl ck R,Hm:=S.Hm++cB (aY S rs),Hn:=S.Hn++cB (R.filter (dF (dQ S hi) now d)),
  Hr:=S.Hr++(eE (aY S rs)).flatMap (lg true)++(eE (R.filter (dF (dQ S hi) now d))).flatMap (lg false),Hi:=(eE (R.filter (dF (dQ S hi) now d))).foldl mP S.Hi,
  w:={S.w with largest:=some (dQ S hi),He:=nC S rs hi now,later:=iU (dQ S hi) now d none R}}:=by
 intro S rs hi now R d u z B;unfold ic;rw[if_neg u,ma,z];unfold jB;rw[wH];subst B;rfl
theorem Ar(h:S.sp.largest=S.w.largest)(hi:Int):et S.sp.largest hi=some (dQ S hi)/\hi<=dQ S hi:=by
 unfold et dQ;rw[h];cases S.w.largest with
 |none=>exact⟨rfl,Int.le_refl _⟩
 | some m=>
  dsimp only
  split<;>exact⟨by congr 1;lia,by lia⟩
theorem lgF(b:Bool)(l:List aM):∀q∈l.flatMap (lg b),zv q.2:=λq z=>by
 refine aG (List.mem_flatMap.mp z) λx B u=>?_;cases x with
 |stream k=>rw[List.mem_singleton.mp u];exact .inl ⟨k,rfl⟩
 |Ho=>rw[List.mem_singleton.mp u];exact .inr rfl
 |_=>exact nomatch u
end
section
set_option genInjectivity false
theorem vm{lo hi:Int}(h:lo<=hi)(rs:List (Int×Int)):cu ((lo,hi)::rs) hi=true:=by
 unfold cu;rw[List.any_cons,decide_eq_true h,decide_eq_true (Int.le_refl hi)];rfl
theorem GZ:∀{u S rs hi}(I:wJ u S)(B:cu rs hi=true),dQ S hi∉Hu (ff S rs):=by
 intro u S rs hi I B;intro h;refine aG (List.mem_map.mp h) λq N e=>?_;have e:q.1=dQ S hi:=e;refine aL (List.mem_filter.mp N) λO J=>?_
 by_cases z:dQ S hi=hi
 ·rw[e,z,B] at J;exact jn J
 ·refine I.lgB (dQ S hi) ?_<|e▸List.mem_map_of_mem (f:=(·.1)) O
  rw[I.lg];unfold dQ at z⊢;cases hw:S.w.largest with
  |none=>rw[hw] at z;exact absurd rfl z
  | some m=>
   rw[hw] at z;dsimp only at z⊢;congr 1;lia
structure Dh(many:Int)(S:St)(rs:List (Int×Int))(hi now:Int)(X T:St):Prop where
 inv:wJ many T
 lam:T.lam=S.lam
 Hc:T.Hc=S.Hc
 Hg:T.Hg=S.Hg
 w:X.hw=S.hw/\X.w=S.w/\X.Hf=S.Hf/\X.Hm=S.Hm/\X.Hn=S.Hn/\X.Hr=S.Hr/\X.Hi=S.Hi
 probe:aY X rs≠[]->X.probe=0
theorem En:∀{many S rs hi now}(I:wJ many S)(hin:cu rs hi=true)(hm:hi<many)(hn:1000<=now),Dh many S rs hi now (fR S rs hi now) (ic (fR S rs hi now) rs hi now):=by
 exists aA λmany=>em λS=>aA λrs=>aA λhi=>aA λnow=>aO _;intros;refine aL (Ar I.lg hi) λhB hBhi=>?_;have nB:=GZ I hin;have eF:(S.Hf.filter λq=>cu rs q.1)=bB S rs:=by rw[I.Hf];rfl
 by_cases hf:bB S rs=[]
 ·have eX:fR S rs hi now=jH S hi:=by unfold fR;rw[hf];rfl
  have eW:aY (jH S hi) rs=[]:=eF.trans hf;have eT:ic (jH S hi) rs hi now=bV (jH S hi) hi:=if_pos eW;have eR:ff S rs=S.sp.Hd:=by
   unfold ff;rw[List.filter_eq_self];intro q hq;cases e:cu rs q.1
   ·rfl
   ·have:q∈bB S rs:=List.mem_filter.mpr ⟨hq,e⟩;rw[hf] at this;exact nomatch this
  rw[eR] at nB;rw[eX,eT];refine⟨{I with lg:=hB,lgB:=λB e=>?_},rfl,rfl,rfl,⟨rfl,rfl,rfl,rfl,rfl,rfl,rfl⟩,λh=>absurd eW h⟩;have e:et S.sp.largest hi=some B:=e;rw[hB] at e;(have re1_0:=oi e;clear e;subst re1_0);exact nB
 ·refine aP (show∃q,(bB S rs).getLast? =some q from⟨_,List.getLast?_eq_some_getLast hf⟩) λq hq=>cj (zp (kA S rs hi now q) (dQ S hi) now) λren' hX r1 r2=>?_;have eX:fR S rs hi now={eN (kA S rs hi now q) (dQ S hi) now with probe:=0}:=by unfold fR;rw[hq];dsimp only;rw[hB]
  rw[hX,oP,hB] at eX;rw[oP] at r1 r2;clear hX;refine aP (show∃r,r=fY S q hi now from⟨_,rfl⟩) λr hr=>aP (show∃d,d=b7 r.He (r.s8.fdiv 8) from⟨_,rfl⟩) λd hd=>aP (show∃F,F=bB S rs from⟨_,rfl⟩) λF hF=>aP (show∃R,R=ff S rs from⟨_,rfl⟩) λR hR=>aP (show∃B,B=dQ S hi from⟨_,rfl⟩) λB hBe=>aP (show∃L,L=R.filter (fG B now d) from⟨_,rfl⟩) λL hL=>aP (show∃Z,Z=R.filter λx=> !fG B now d x from⟨_,rfl⟩) λZ hZ=>?_;have eX:fR S rs hi now={S with sp:={S.sp with Hd:=Z,largest:=some B,G9:=(Hu F).foldl fh S.sp.G9,Ii:=(gJ B now d (Hu R) [] none).2},HI:=r,Hk:=(eE L).foldl dr<|(eE F).foldl cD S.Hk,log:=S.log++(eE F).flatMap (lg true)++(eE L).flatMap (lg false),Hq:=(eE L).foldl mP S.Hq,HB:=ren',probe:=0}:=by
   subst hZ hL hBe hR hF hd hr;exact eX
  have r1:ren'.Ht=S.HB.Ht-bW F-bW L:=by
   subst hZ hL hBe hR hF hd hr;exact r1
  have r2:2400<=S.HB.H4->2400<=ren'.H4:=r2;have n1:=hr▸nR S q hi hn I.fst;have n2:=hr▸sN S q hi now;rw[<-hR,<-hBe] at nB;rw[<-hF] at eF hf hq;have aR:cU R:=hR▸i9 I.asc;have pR:∀q∈R,gn q/\0<=q.1/\q.1<many:=λq hq=>I.ok q (List.mem_filter.mp<|hR▸hq).1;have pF:∀q∈F,gn q:=λq hq=>(I.ok q (List.mem_filter.mp<|hF▸hq).1).1;have pL:∀q∈L,gn q:=λq hq=>(pR q (List.mem_filter.mp<|hL▸hq).1).1;have zF:F.length+R.length=S.sp.Hd.length:=by subst hF hR;exact EL _ _
  have zL:L.length+Z.length=R.length:=by subst hL hZ;exact EL _ _
  have sF:bW F+bW R=bW S.sp.Hd:=by subst hF hR;exact CM _ _
  have sL:bW L+bW Z=bW R:=by subst hL hZ;exact CM _ _
  have oF:(cB F++cB R).Perm (cB S.sp.Hd):=by subst hF hR;exact FF _ _
  have oL:(cB L++cB Z).Perm (cB R):=by subst hL hZ;exact FF _ _
  have eL:R.filter (dF B now d)=L:=by
   rw[hL];refine List.filter_congr λx hx=>?_;have Iy:B≠x.1:=λe=>nB<|e▸List.mem_map_of_mem (f:=(·.1)) hx
   unfold dF fG eK;rw[<-Bool.decide_or,<-decide_not,<-Bool.decide_and];exact decide_eq_decide.mpr (by lia)
  have eZ:L.foldl ck R=Z:=by rw[hL,hZ];exact eg (λn=> !decide (B<n)&&eK n n B now d) R
  have eR:F.foldl ck S.Hf=R:=by rw[hF,hR,I.Hf];exact eg (cu rs) S.sp.Hd
  generalize fR S rs hi now=X at eX;have w1:X.Hf=S.Hf:=by rw[eX]
  have w2:X.HI=r:=by rw[eX]
  have w3:X.w=S.w:=by rw[eX]
  have eFX:aY X rs=F:=by unfold aY;rw[w1];exact eF
  have eBX:dQ X hi=B:=by rw[hBe];unfold dQ;rw[w3]
  have eLt:nC X rs hi now=if q.1=hi then now-q.1 else S.w.He:=by unfold nC;rw[eFX,hq,w3]
  have eT:=z5 X rs hi now (R:=R) (d:=d) (by rw[eFX];exact hf) (by rw[eFX,w1];exact eR) (by rw[w2];exact hd.symm);rw[eFX,eBX,eL,eZ,eLt] at eT;rw[eT];have hpr:aY X rs≠[]->X.probe=0:=λU=>by rw[eX]
  rw[eX];rw[eX] at hpr;refine aL (mB (eE F) S.Hk S.Hm S.Hn I.cf<|je pF) λc1 c2=>aL (zC (eE L) _ _ _ c1<|je pL) λc3 c4=>aL (kh pF) λk1 k2=>aL (kh pL) λk3 k4=>?_;have k5:=gh true<|eE F
  have k6:=gh false<|eE L
  have k7:=rg (eE L) S.Hq;have k8:=mH (Hu F) S.sp.G9;rw[cy] at k8;have la:=I.la;have lA:=I.lA;have ll:=I.ll;have lo:=I.lo;have hinf:=I.Ht;refine⟨?_,rfl,rfl,rfl,⟨rfl,rfl,rfl,rfl,rfl,rfl,rfl⟩,hpr⟩;exact {
   m:=I.m
   hw:=I.hw
   Hf:=rfl
   asc:=hZ▸i9 aR
   ok:=λx hx=>pR x (List.mem_filter.mp<|hZ▸hx).1
   nx:=I.nx
   lg:=rfl
   lgB:=λB' e h=>by(have re3_0:=oi e;clear e;subst re3_0);exact nB (s6<|hZ▸h)
   log:=by show S.log++_++_=S.Hr++_++_;rw[I.log]
   Io:=λx hx=>by
    rcases List.mem_append.mp hx with hx|hx
    ·rcases List.mem_append.mp hx with hx|hx
     ·exact I.Io x hx
     ·exact lgF _ _ x hx
    ·exact lgF _ _ x hx
   Hq:=by show(eE L).foldl mP S.Hq=(eE L).foldl mP S.Hi;rw[I.Hq]
   H1:=rH _ _ I.H1
   Ht:=by show ren'.Ht=bW Z;exact Int.le_antisymm (DW [] [_,_,_,_,_,_,_] 0xc48a8152250b582c54996b0509923681502240981 ft r1 sF sL hinf) (DW [] [_,_,_,_,_,_,_] 0xc48ac152050b502c54996a0509923689582240981 ft r1 sF sL hinf)
   H4:=r2 I.H4
   lat:=by show r.He=if q.1=hi then now-q.1 else S.w.He;rw[n2,I.lat]
   later:=tr B now d R [] none aR nB λy e=>bU e
   cf:=c3
   nd:=by
    refine List.Perm.nodup ?_ I.nd;show(S.Hm++(S.Hn++cB S.sp.Hd)).Perm ((S.Hm++cB F)++((S.Hn++cB L)++cB Z));rw[List.perm_iff_count];intro a;have h1:=oF.count_eq a;have h2:=oL.count_eq a;simp only[List.count_append] at h1 h2⊢;exact Nat.le_antisymm (dD [_,_,_,_,_,_,_] [] 0x30508194120c0c3282a10086cc006c808601801 ft h1 h2) (dD [_,_,_,_,_,_,_] [] 0x30406190150c043202a08300d01820d8800d801 ft h1 h2)
   IL:=pH I.IL (rX<|je pF)
   Ik:=pH I.Ik (rX<|je pL)
   la:=by show((eE L).foldl dr<|(eE F).foldl cD S.Hk).G9.length+Z.length<=8;rw[c4];exact fk5 [_,_,_,_,_,_,_,_] [] 0x8112060c009070005c30600009810a19014060832030221001801 ft zF zL c2 k2 la
   lA:=by show((Hu F).foldl fh S.sp.G9).length+Z.length<=8;exact DW [_,_,_,_,_,_,_] [] 0x40890306004830600009810a19014060832030221001801 ft zF zL k8 lA
   ll:=by show(S.log++(eE F).flatMap (Mine.lg true)++(eE L).flatMap (Mine.lg false)).length+3*Z.length<=24;rw[List.length_append,List.length_append];lia
   lo:=by show((eE L).foldl mP S.Hq).length+3*Z.length<=24;exact fk5 [_,_,_,_,_,_,_,_] [] 0xc0a906128e180160e180002a309460004c0850c81a03041903c0a84612801801 ft zF zL k3 k7 lo
   fst:=n1}
theorem y0:∀{u S lo hi rs now}(I:wJ u S)(V:lo<=hi)(z:hi<u)(hn:1000<=now),oB S ((lo,hi)::rs) hi now/\(∃D C,tF (fR S ((lo,hi)::rs) hi now) ((lo,hi)::rs) hi now D C)/\wJ u (ic (fR S ((lo,hi)::rs) hi now) ((lo,hi)::rs) hi now)/\
  (ic (fR S ((lo,hi)::rs) hi now) ((lo,hi)::rs) hi now).lam=S.lam/\(ic (fR S ((lo,hi)::rs) hi now) ((lo,hi)::rs) hi now).Hc=S.Hc/\(ic (fR S ((lo,hi)::rs) hi now) ((lo,hi)::rs) hi now).Hg=S.Hg:=by
 exists aA λu=>em λS=>aA λlo=>aA λhi=>aA λrs=>aA λnow=>aO _;intros;obtain⟨T,t1,t2,Z,⟨w1,w2,B,w4,w5,w6,J⟩,W⟩:=En I (vm V rs) z hn;refine⟨Ba I z hn,?_,T,t1,t2,Z⟩;refine l4 (nL T) λD C hA=>?_;have n1:S.Hm.Nodup:=(List.nodup_append.mp I.nd).1;have n2:S.Hn.Nodup:=(List.nodup_append.mp (List.nodup_append.mp I.nd).2.1).1;have z1:=gb n1 I.IL;have z2:=gb n2 I.Ik;have la:=I.la;have U:=I.ll;have lo:=I.lo;have hl:=I.log;have N:=I.Hq;refine DU D C (zY (w1.trans I.hw) (by rw[w2,I.nx.2];exact z) (by rw[B,I.Hf];exact bw [_,_] [] 0x60540309410c00c0880003 ft U) (by rw[B,I.Hf];exact I.asc) (λq O=>(I.ok q<|by rw[B,I.Hf] at O;exact O).1) W (by rw[w4];exact bw [_] [] 0x50320000720e80001 ft z1) (by rw[w5];exact bw [_] [] 0x50320000720e80001 ft z2) (by rw[w6,<-hl];exact bw [_,_] [] 0x302a1184a00600720e80001 ft U) (by rw[J,<-N];exact bw [_,_] [] 0x302a1184a00600720e80001 ft lo) (by rw[J,<-N];exact I.H1) hA)
structure lS(many:Int)(n:Nat)(S:St):Prop where
 m:3<=many/\many<=8
 hw:S.hw=true
 hn:(n:Int)<=many
 Hf:S.Hf=S.sp.Hd
 Hu:Hu S.sp.Hd=(List.range n).map λ(i:Nat)=>(i:Int)
 ok:∀q∈S.sp.Hd,gn q
 nx:S.sp.HK=n/\S.w.next=many
 lg:S.sp.largest=none/\S.w.largest=none
 I6:S.sp.G9=[]/\S.sp.Ii=none
 Hk:S.Hk.G9=[]/\S.Hk.data.size=40
 HG:∃c:Int,0<=c/\c<=n/\S.Hk.HG=[(4*c,40)]/\(cB S.sp.Hd).Nodup/\∀x∈cB S.sp.Hd,0<=x/\x<4*c
 HI:S.HI.first=none/\S.HI.He=0
 Ht:S.HB.Ht=bW S.sp.Hd
 H4:2400<=S.HB.H4
 e:S.log=[]/\S.Hq=[]/\S.Hr=[]/\S.Hi=[]/\S.Hm=[]/\S.Hn=[]
 w:S.w.He=0/\S.w.later=none
noncomputable def qW(S:St)(n:Nat)(fs:List aM):St:={S with sp:={S.sp with Hd:=S.sp.Hd++[((n:Int),fs++[.Hw])],HK:=S.sp.HK+1,Ix:=.int n},HB:={S.HB with Ht:=S.HB.Ht+(100+n)},Hf:=S.Hf++[((n:Int),fs++[.Hw])]}
noncomputable def qE(S:St):St:={S with Hk:={S.Hk with HG:=[]}}
theorem kN:∀{S u q fs}(F:lT S q fs u),u.sp=S.sp/\u.Hf=S.Hf/\u.hw=S.hw/\u.lam=S.lam/\u.Hc=S.Hc:=by
 exists em λS=>em λu=>aA λq=>aA λfs=>aO _;intros;obtain⟨k,_,_,⟨_,rfl⟩|⟨_,rfl⟩⟩:=F<;>exact⟨rfl,rfl,rfl,rfl,rfl⟩
theorem lS.IO{u:Int}{n:Nat}(I:lS u n S):(n:Int)∉Mine.Hu S.sp.Hd/\S.sp.Hd.length=n:=by
 refine⟨λh=>?_,?_⟩
 ·rw[I.Hu] at h;refine aG (List.mem_map.mp h) λi hi e=>?_;have:=List.mem_range.mp hi;exact dD [_,_] [] 0x20008111c075820201500 ft e this
 ·have:=congrArg List.length I.Hu;rw[cy,List.length_map,List.length_range] at this;exact this
theorem vT(l:List (Int×List aM))(n:Int)(fs:List aM):cB (l++[(n,fs)])=cB l++fs.flatMap dm:=by
 rw[qo];unfold cB eE;simp
theorem tx(l:List (Int×List aM))(n:Int)(fs:List aM):bW (l++[(n,fs)])=bW l+(100+n):=by
 unfold bW;simp
theorem tc{d:Array UInt8}{c:Int}(O:d.size=40)(B:0<=c)(J:c<=7):(ee d (4*c,40)).size=4:=by
 refine aP (show∃k:Nat,c=k from⟨c.toNat,(Int.toNat_of_nonneg B).symm⟩) λk z=>?_;clear B;subst z;have u:4*k+4<=40:=Nat.le_trans (Nat.add_le_add_right (Nat.mul_le_mul_left 4<|Int.ofNat_le.mp J) 4) (by decide);have I:(4*(k:Int))=((4*k:Nat):Int):=rfl;have N:min (40:Int) (4*(k:Int)+4)=((4*k+4:Nat):Int):=Int.min_eq_right<|Int.ofNat_le.mpr u
 unfold ee;dsimp only;rw[N,I,KBc.picked_eq,List.size_toArray,List.length_take,List.length_drop,Array.length_toList,O];show min (clipAt 40 ((4*k+4:Nat):Int)-clipAt 40 ((4*k:Nat):Int)) (40-clipAt 40 ((4*k:Nat):Int))=4;rw[clipAt_nat,clipAt_nat,Nat.min_eq_left u,Nat.min_eq_left<|Nat.le_trans (Nat.le_add_right _ 4) u,Nat.add_sub_cancel_left];exact Nat.min_eq_left<|Nat.le_sub_of_add_le<|Nat.add_comm _ _▸u
theorem nS:∀{z n S u fs}(I:lS z n S)(hn:(n:Int)<z)(B:u.sp=S.sp)(W:u.Hf=S.Hf)(e3:u.hw=S.hw)(O:u.w=S.w)(e5:u.HI=S.HI)(U:u.HB=S.HB)(Z:u.log=S.log/\u.Hq=S.Hq/\u.Hr=S.Hr/\u.Hi=S.Hi/\u.Hm=S.Hm/\u.Hn=S.Hn)(V:u.Hk.G9=S.Hk.G9/\u.Hk.data=S.Hk.data)(hp:gn ((n:Int),fs++[.Hw]))(N:∃c:Int,0<=c/\c<=n+1/\u.Hk.HG=[(4*c,40)]/\(cB S.sp.Hd++fs.flatMap dm).Nodup/\∀x∈cB S.sp.Hd++fs.flatMap dm,0<=x/\x<4*c),lS z (n+1) (qW u n fs):=by
 exists aA λz=>aA λn=>em λS=>em λu=>aA λfs=>aO _;intros;refine ui Z λd1 d2 d3 d4 d5 d6=>?_;have eo:cB (S.sp.Hd++[((n:Int),fs++[.Hw])])=cB S.sp.Hd++fs.flatMap dm:=by
  rw[vT,List.flatMap_append];simp[dm]
 exact{
  m:=I.m
  hw:=e3.trans I.hw
  hn:=by push_cast;exact bw [_] [_] 0x407402060a01d981 ft hn
  Hf:=by show u.Hf++_=u.sp.Hd++_;rw[W,B,I.Hf]
  Hu:=by
   show Mine.Hu (u.sp.Hd++_)=_;rw[B,List.range_succ,List.map_append,<-I.Hu];unfold Mine.Hu;rw[List.map_append];rfl
  ok:=λq J=>by
   have J:q∈u.sp.Hd++[((n:Int),fs++[aM.Hw])]:=J;rw[B] at J;rcases List.mem_append.mp J with J|J
   ·exact I.ok q J
   ·rw[List.mem_singleton.mp J];exact hp
  nx:=⟨by show u.sp.HK+1=_;rw[B,I.nx.1];push_cast;rfl,by show u.w.next=_;rw[O];exact I.nx.2⟩
  lg:=⟨by show u.sp.largest=none;rw[B];exact I.lg.1,by show u.w.largest=none;rw[O];exact I.lg.2⟩
  I6:=by show u.sp.G9=[]/\u.sp.Ii=none;rw[B];exact I.I6
  Hk:=by show u.Hk.G9=[]/\u.Hk.data.size=40;rw[V.1,V.2];exact I.Hk
  HG:=by
   refine t7 N λc h1 h2 h3 h4 h5=>qf c h1 (by push_cast;exact bw [_] [_] 0x20a01d813030500ec0981 ft h2) h3 ?_ ?_
   ·show(cB<|u.sp.Hd++_).Nodup;rw[B,eo];exact h4
   ·show∀x∈cB (u.sp.Hd++_),_;rw[B,eo];exact h5
  HI:=by show u.HI.first=none/\u.HI.He=0;rw[e5];exact I.HI
  Ht:=by show u.HB.Ht+(100+n)=bW (u.sp.Hd++_);rw[U,B,tx,I.Ht]
  H4:=by show 2400<=u.HB.H4;rw[U];exact I.H4
  e:=by show u.log=[]/\u.Hq=[]/\u.Hr=[]/\u.Hi=[]/\u.Hm=[]/\u.Hn=[];rw[d1,d2,d3,d4,d5,d6];exact I.e
  w:=by show u.w.He=0/\u.w.later=none;rw[O];exact I.w}
theorem wt:∀{n fs}(h:y6 fs),gn (n,fs++[.Hw])/\fs.flatMap dm=[]/\fs.length<=10:=by
 exists aA λn=>aA λfs=>aO _;intros;rcases h with⟨k,rfl⟩|rfl|⟨k,rfl⟩|rfl
 all_goals
  refine⟨⟨λx u=>?_,bl_ rfl,rfl,bl_ rfl⟩,rfl,bl_ rfl⟩;simp only[List.cons_append,List.nil_append,List.mem_cons,List.not_mem_nil,or_false] at u
  first
  |(rcases u with rfl|rfl|rfl<;>exact trivial)
  |(rcases u with rfl|rfl<;>exact trivial)
theorem vQ:∀{u n S B fs q}(I:lS u n S)(hn:(n:Int)<u)(Z:S.Hk.HG=[q])(F:lT S q fs B),lS u (n+1) (qW B n fs)/\B.lam=S.lam/\B.Hc=S.Hc/\S.Hg<B.Hg/\B.Hg<=S.Hg+2/\fs.length<=10:=by
 exists aA λu=>aA λn=>em λS=>em λB=>aA λfs=>aA λq=>aO _;intro u n S B fs q I hn Z F;refine t7 I.HG λc c1 c2 c3 c4 V=>?_;revert c1 c2 c3 V;revert c;exists aA λc=>aO _;intro c c1 c2 c3 V;have hm:=I.m;obtain⟨k,N,k2,⟨O,rfl⟩|⟨O,rfl⟩⟩:=F
 ·revert N k2;revert k;exists aA λk=>aO _;intro k N k2;rw[c3] at Z;revert N k2;revert k;exists aA λk=>aO _;intro k N k2;have J:=(List.cons.inj Z).1;clear Z;subst J;have hz:=tc (d:=S.Hk.data) (c:=c) I.Hk.2 c1<|jt [_] [_,_] 0x1022126040702604480e8078680981 ft hn c2 hm.2
  have U:sA (.Hp (4*c)<|ee S.Hk.data (4*c,40)):=⟨hz,by exact bw [] [_] 0x4046100c0d401181 ft c1,by exact jt [_] [_,_] 0x4088498401c09841203a0490640606a181 ft hn c2 hm.2⟩
  have W:fs.flatMap dm=cq (4*c) 4:=by
   rcases O with rfl|⟨j,rfl⟩
   ·show cq (4*c) (ee S.Hk.data (4*c,40)).size++[]=_;rw[hz,List.append_nil]
   ·revert j;exists aA λj=>aO _;intro j;show cq (4*c) (ee S.Hk.data (4*c,40)).size++([]++[])=_;rw[hz,List.append_nil,List.append_nil]
  have aa:gn ((n:Int),fs++[.Hw]):=by
   rcases O with rfl|⟨j,rfl⟩
   ·refine⟨λx z=>?_,bl_ rfl,rfl,bl_ rfl⟩;revert z;revert x;exists jY λx=>aO _;intro x z;simp only[List.cons_append,List.nil_append,List.mem_cons,List.not_mem_nil,or_false] at z;rcases z with rfl|rfl
    ·exact U
    ·exact trivial
   ·revert W;revert j;exists aA λj=>aO _;intro j W;refine⟨λx z=>?_,bl_ rfl,rfl,bl_ rfl⟩;revert z;revert x;exists jY λx=>aO _;intro x z;simp only[List.cons_append,List.nil_append,List.mem_cons,List.not_mem_nil,or_false] at z;rcases z with rfl|rfl|rfl
    ·exact U
    ·exact trivial
    ·exact trivial
  refine⟨nS I hn rfl rfl rfl rfl rfl rfl ⟨rfl,rfl,rfl,rfl,rfl,rfl⟩ ⟨rfl,rfl⟩ aa<|qf (c+1) (bw [] [_] 0x1011818280b01181 ft c1) (bw [_] [_] 0x7026060a01dc1405981 ft c2) ?_ ?_<|λx z=>?_,rfl,rfl,N,k2,?_⟩
  ·show bI (4*c) (min 40<|4*c+4) [(4*c,40)]=_;unfold bI bI;dsimp only;rw[if_neg (by lia),if_pos (by lia),show max (4*c) (min 40<|4*c+4)=4*(c+1) from by lia];rfl
  ·rw[W,List.nodup_append];refine⟨c4,dW<|oj _ _,λa ha b hb=>?_⟩;revert ha hb;revert a b;exists aA λa=>aA λb=>aO _;intro a b ha hb;have:=V a ha;have:=dE.mp hb
   lia
  ·revert z;revert x;exists aA λx=>aO _;intro x z;rw[W] at z;rcases List.mem_append.mp z with z|z
   ·have:=V x z;exact⟨bw [] [_] 0x808c08101181 ft this.1,bw [] [_,_] 0x2606a014030509703500a01 ft this.2⟩
   ·have:=dE.mp z;exact⟨dD [] [_,_] 0x8981a86044808c20101181 ft c1 this.1,bw [] [_,_] 0x40d7130351814030509703500a01 ft this.2⟩
  ·rcases O with rfl|⟨j,rfl⟩<;>exact bl_ rfl
 ·refine dK (wt (n:=(n:Int)) O) λp1 p2 p3=>⟨nS I hn rfl rfl rfl rfl rfl rfl ⟨rfl,rfl,rfl,rfl,rfl,rfl⟩ ⟨rfl,rfl⟩ p1<|qf c c1 (bw [_] [_] 0x3813030500ec0981 ft c2) c3 ?_ ?_,rfl,rfl,N,k2,p3⟩
  ·rw[p2,List.append_nil];exact c4
  ·rw[p2,List.append_nil];exact V
theorem vV:∀{u n S}(I:lS u n S)(hn:(n:Int)=u),wJ u (qE S):=by
 exists aA λu=>aA λn=>em λS=>aO _;intros;refine ui I.e λd1 d2 d3 d4 O V=>?_;refine t7 I.HG λc c1 c2 c3 Z c5=>?_;have J:=I.IO.2;have N:=I.m;have hk:=I.Hu;exact{
  m:=I.m
  hw:=I.hw
  Hf:=I.Hf
  asc:=by
   show List.Pairwise _ (Hu S.sp.Hd);rw[hk,List.pairwise_map];exact List.pairwise_lt_range.imp λh=>by exact bw [_,_] [] 4503876801673729 ft h
  ok:=λq W=>⟨I.ok q W,by
   have:q.1∈Hu S.sp.Hd:=List.mem_map_of_mem (f:=(·.1)) W;rw[hk] at this;refine aG (List.mem_map.mp this) λi hi e=>?_;have:=List.mem_range.mp hi;exact⟨bw [_] [_] 283485156675969 ft e,jt [_,_] [_,_] 0x810204475822407502240a01 ft hn e this⟩⟩
  nx:=⟨I.nx.1.trans hn,I.nx.2⟩
  lg:=I.lg.1.trans I.lg.2.symm
  lgB:=λB e=>by have e:S.sp.largest=some B:=e;rw[I.lg.1] at e;exact bU e
  log:=d1.trans d3.symm
  Io:=λx z=>by have z:x∈S.log:=z;rw[d1] at z;exact nomatch z
  Hq:=d2.trans d4.symm
  H1:=λx z=>by have z:x∈S.Hq:=z;rw[d2] at z;exact nomatch z
  Ht:=I.Ht
  H4:=I.H4
  lat:=I.HI.2.trans I.w.1.symm
  later:=I.I6.2.trans I.w.2.symm
  cf:=by
   show CF {S.Hk with HG:=[]} S.Hm S.Hn;refine⟨by show nu S.Hk.G9;rw[I.Hk.1];exact ju,λx=>?_,ju,λx=>?_⟩
   ·show iT S.Hk.G9 x↔_;rw[I.Hk.1,O,ef];simp
   ·show iT [] x↔_;rw[ef,V];simp
  nd:=by show(S.Hm++(S.Hn++cB S.sp.Hd)).Nodup;rw[O,V];exact Z
  IL:=by show wK S.Hm;rw[O];exact λU h=>nomatch h
  Ik:=by show wK S.Hn;rw[V];exact λU h=>nomatch h
  la:=by show S.Hk.G9.length+S.sp.Hd.length<=8;rw[I.Hk.1,List.length_nil];exact jt [_,_] [_] 0x408809811000808111d40c0880009801 ft hn J N.2
  lA:=by show S.sp.G9.length+S.sp.Hd.length<=8;rw[I.I6.1,List.length_nil];exact jt [_,_] [_] 0x408809811000808111d40c0880009801 ft hn J N.2
  ll:=by show S.log.length+3*S.sp.Hd.length<=24;rw[d1,List.length_nil];exact jt [_,_] [_] 0x204404c1880040c088ea0f02a0184a009801 ft hn J N.2
  lo:=by show S.Hq.length+3*S.sp.Hd.length<=24;rw[d2,List.length_nil];exact jt [_,_] [_] 0x204404c1880040c088ea0f02a0184a009801 ft hn J N.2
  fst:=λf e=>by have e:S.HI.first=some f:=e;rw[I.HI.1] at e;exact bU e}
end
theorem wv:∀{C S0 S1 S2 box t6}(h:ph C S0 box 0)(h6:0<=t6/\t6<6)(h1:S1={bF S0 with Hk:={(bF S0).Hk with HG:=bN (bF S0).Hk.HG (bF S0).Hk.data.size ((bF S0).Hk.data.size+(Array.replicate (Int.toNat 40) (0:UInt8)).size) false,data:=(bF S0).Hk.data++Array.replicate (Int.toNat 40) 0}})(h2:S2={S1 with hw:=true,Hf:=[],w:=⟨3+t6,none,0,none⟩,Hr:=[],Hi:=[],Hm:=[],Hn:=[]}),lS (3+t6) 0 S2/\S2.Hc=box/\S2.Hg=1/\S2.lam=S0.lam:=by
 exists ce λC=>em λS0=>em λS1=>em λS2=>aA λbox=>aA λt6=>aO _;intros;obtain⟨lam,sp,Hk,HI,HB,log,Hq,probe,Hc,Hg,hw,Hf,w,Hr,Hi,Hm,Hn,ps⟩:=S0;obtain⟨_,_,_,hsp,hcry,hrtt,hren,hlog,how,hpr,hhw,hsc,hbk⟩:=h;dsimp only at hsp hcry hrtt hren hlog how hpr hhw hsc hbk;subst hsp hcry hrtt hren hlog how hpr hhw hsc hbk h1 h2;have z1:((#[]:Array UInt8)++Array.replicate (Int.toNat 40) (0:UInt8)).size=40:=by decide+kernel
 have z2:bN [] (((#[]:Array UInt8).size:Nat):Int) ((((#[]:Array UInt8).size:Nat):Int)+(((Array.replicate (Int.toNat 40) (0:UInt8)).size:Nat):Int)) false=[(4*0,40)]:=by decide+kernel
 have z3:(2400:Int)<=yl.H4:=by decide+kernel
 refine⟨{m:=by exact⟨bw [] [_] 0x808c081c24f09181 ft h6.1,bw [] [_] 0x60d0140302203849981 ft h6.2⟩,hw:=rfl,hn:=by push_cast;exact bw [] [_] 0x2023020709301181 ft h6.1,Hf:=rfl,Hu:=rfl,ok:=λq hq=>(nomatch hq),nx:=⟨rfl,rfl⟩,lg:=⟨rfl,rfl⟩,I6:=⟨rfl,rfl⟩,Hk:=⟨rfl,z1⟩,HG:=qf 0 (by decide) (by decide) z2 .nil<|λx hx=>(nomatch hx),HI:=⟨rfl,rfl⟩,Ht:=rfl,H4:=z3,e:=⟨rfl,rfl,rfl,rfl,rfl,rfl⟩,w:=⟨rfl,rfl⟩},rfl,rfl,rfl⟩
section
open PySem PySem.W PyProof.Rows PySem.Calls
noncomputable def iM:aQ:=eG [none,none,none,none,none,none,none,none,none,none,none,none,none,none,none,none,none,none,none,none,none,none,some (.Hb 625 (tabObj #[])),none,none,none,none,none,none]
noncomputable def hwF(S:St):St:={S with hw:=false}
theorem DK(h:S.hw=false):hwF S=S:=by cases S;cases h;rfl
theorem vi{l:List (Int×List aM)}(h:q.1∉Hu l):iS (dh l) q.1 (.seq (q.2.map b8))=dh (l++[q]):=by
 unfold iS dh;rw[if_neg,List.map_append]; · rfl
 intro e;refine aG (List.any_eq_true.mp e) λx z e=>aG (List.mem_map.mp z) λy B u=>?_;clear z;subst u;exact h (List.mem_map.mpr<|aD y B<|by simpa using e)
section
variable {T:Tb} {C:Cx} {A:Around} {f:Fc} {σ:aC} {m:Nat}
theorem yt(W:dU T C A f m){o:Expr}{pos:Pos}{K:Ky}{l0:List (Str×PV)}(hg:σ.get K=some (.Hh l0))
  (h:Ev C A f e σ λx σ2=>∃u l m,x= .at u/\σ2.get K=some (.Hh l)/\σ2.get u=some (.Hh m)/\K≠u/\((l++m).map (·.1)).Nodup/\l.length+m.length<=1000/\Q (.d .none) (σ2.put K (.Hh (l++m)))) (V:cb e=true:=by rfl):tL C A f o "update" [e] pos (.at K) σ Q:=
 mv W.G PySem.F.plainAttrs_dict PySem.F.slot_dict_update s9 (by refine(ys List.all_cons)▸(ys V)▸?_;rfl) (λρ F s v a r=>by
  refine aG r.place λp e B=>?_;clear r;subst B;refine aL (a.Hh hg e) λU S=>?_;refine bM S λo kvs g i U=>?_;have Z:=(i.mapOf g).mapOf;exact⟨Z.typeIs,Z.noDict⟩) (fi (h.mono λx σ2 q=>by
  refine Gq q λu l m I N O J z hz hq=>?_;try clear q;subst I;exact da<|vP N O J z hz hq)<|dy V)
end
section
variable {C:Cx}
noncomputable def ss(ns:List Int)(t6:Int)(v:List (Option PV)):List (Option PV):=some (.d (.seq (ns.map .int)))::some (.at (.sk 20))::some (.at (.sk 11))::some (.at (.sk 0))::some (.at (.sk 4))::some (.d (.int (3+t6)))::some (.at (.sk 15))::v
theorem Bj(G:Gd C)(GL:Fs C)(ns:List Int)(hz:ns.length<=63){A:Around}{L:Addr}(W:dU TL C A (fz C 666 ["script","box","log","conn","place","many","world","number","frames","turn","high","low","ranges"] L) 13){Q:Fl->aC->Prop}
  (k:∀(t6:Int)(S:St),0<=t6/\t6<6->lS (3+t6) 0 S->xj C S.lam->S.Hc.length<=40->S.Hg=1->fA C A (fz C 666 ["script","box","log","conn","place","many","world","number","frames","turn","high","low","ranges"] L) ((fb C 666).drop 6) ⟨ss ns t6 [none,none,none,none,none,none],[some (.Hh [("latest",.d (.int 0)),("later",.d .none)])],aJ S⟩ Q):
  fA C A (fz C 666 ["script","box","log","conn","place","many","world","number","frames","turn","high","low","ranges"] L) (fb C 666) ⟨[some (.d (.seq (ns.map .int))),none,none,none,none,none,none,none,none,none,none,none,none],[],iM⟩ Q:=by
 revert G GL hz W k;revert C ns A L Q;show∀C ns A L Q,_;exists ce λC=>aA λns=>cx λA=>aA λL=>aA λQ=>aO _,h _ _ _ _ _;intro C ns A L Q G GL hz W k;refine c6 ⟨[some (.d (.seq (ns.map .int))),some (.at (.sk 20)),some (.at (.sk 11)),none,none,none,none,none,none,none,none,none,none],[],DC (ns.take 40) 0⟩ ?_ ?_
 ·refine bK W 1000 (.ex _ _) _ ?_;refine xw 20 (bK W 1000 (.es _ _) _ ?_ _);refine xQ (k:=40) (by rw[List.length_map];exact bw [_] [] 0x1f8c80001c3502280001 ft hz) ?_;refine List.map_take▸?_;refine kL (by rw[List.length_map,List.length_take];lia) (⟨bl_ rfl,rfl,aD _ rfl ?_⟩);exact jv 11 (da (⟨Nat.zero_le _,rfl,bD _ rfl rfl (lh rfl rfl (ms (ms rfl)))⟩))
 refine dY (λσ'=>∃S,σ'=⟨[some (.d (.seq (ns.map .int))),some (.at (.sk 20)),some (.at (.sk 11)),some (.at (.sk 0)),none,none,none,none,none,none,none,none,none],[],aJ S⟩/\ph C S (ns.take 40) 0) ?_ ?_
 ·refine bK W 1000 (.ex _ _) _ ?_;refine zc (n:=6) (K:=λr m=>∃S,r= .at (.sk 0)/\m=aJ S/\ph C S (ns.take 40) 0) (pg G GL (ns.take 40) 0) W.r (by decide) rfl (g5 rfl) aK λpv mem' hk=>?_;revert hk;revert pv mem';show∀pv mem',_;exists oO λpv=>aA λmem'=>aO _,h _ _;intro pv mem' hk;refine cj hk λS0 re4 re5 hS0=>?_;try clear hk;subst re4;subst re5;revert hS0;revert S0;show∀S0,_;exists em λS0=>aO _,h _;intro S0 hS0;exact⟨rfl,aD S0 rfl hS0⟩
 intro σ' rn2;refine aG rn2 λS0 re3 hS0=>?_;try clear rn2;subst re3;revert hS0;revert S0;show∀S0,_;exists em λS0=>aO _,h _;intro S0 hS0;have hS0':=hS0;obtain⟨hLm,hf1,hf2,hsp,hcry,hrtt,hren,hlog,how,hpr,hhw,hsc,hbk⟩:=hS0;have hsl:S0.Hc.length<=40:=by refine(ys hsc)▸(ys (List.length_take))▸?_;lia
 have hb6:=jJ S0.Hc (S0.Hg+1) 6 (by decide);have ht:=cL G S0 6 (by decide) (bw [] [_] 70738246635905 ft hbk) (bw [] [_] 72427301623040513 ft hbk) (bw [_] [] 0x281900003f41480081 ft hsl);generalize dp S0.Hc (S0.Hg+1) 6=t6 at hb6 ht;revert hb6 ht;revert t6;show∀t6,_;exists aA λt6=>aO _,h _;intro t6 hb6 ht;refine c6 ⟨[some (.d (.seq (ns.map .int))),some (.at (.sk 20)),some (.at (.sk 11)),some (.at (.sk 0)),some (.at (.sk 4)),some (.d (.int (3+t6))),none,none,none,none,none,none,none],[],aJ (bF S0)⟩ ?_ ?_
 ·refine bK W 1000 (.ex _ _) _ ?_;exact aI W ht rfl rfl (aB _) aK rfl ⟨rfl,rfl⟩
 refine aP (show∃S1:St,S1={bF S0 with Hk:={(bF S0).Hk with HG:=bN (bF S0).Hk.HG (bF S0).Hk.data.size ((bF S0).Hk.data.size+(Array.replicate (Int.toNat 40) (0:UInt8)).size) false,data:=(bF S0).Hk.data++Array.replicate (Int.toNat 40) 0}} from⟨_,rfl⟩) λS1 hS1=>?_;revert hS1;revert S1;show∀S1,_;exists em λS1=>aO _,h _;intro S1 hS1;have hput:=Df G (bF S0) (Array.replicate (Int.toNat 40) 0) (by decide) (by show _+S0.Hk.data.size<1000;refine(ys hcry)▸?_;decide) (by show S0.Hk.HG.length<1000;refine(ys hcry)▸?_;decide);have e1:S1.hw=false:=by refine(ys hS1)▸?_;exact hhw
 rw[<-hS1,<-DK e1] at hput;refine c6 ⟨[some (.d (.seq (ns.map .int))),some (.at (.sk 20)),some (.at (.sk 11)),some (.at (.sk 0)),some (.at (.sk 4)),some (.d (.int (3+t6))),none,none,none,none,none,none,none],[],aJ (hwF S1)⟩ ?_ ?_
 ·refine bK W 1000 (.ex _ _) _ ?_;exact xb (by decide) (aI W hput rfl rfl (aB _) aK rfl ⟨rfl,rfl⟩)
 refine aP (show∃S2:St,S2={S1 with hw:=true,Hf:=[],w:=⟨3+t6,none,0,none⟩,Hr:=[],Hi:=[],Hm:=[],Hn:=[]} from⟨_,rfl⟩) λS2 hS2=>?_;revert hS2;revert S2;show∀S2,_;exists em λS2=>aO _,h _;intro S2 hS2;refine c6 ⟨ss ns t6 [none,none,none,none,none,none],[],aQ.set (aJ S2) 15 (.Hh [("out",.at (.sk 16)),("next",.d (.int (3+t6))),("largest",.d .none),("log",.at (.sk 17)),("owed",.at (.sk 18)),("octets",.at (.sk 19))])⟩ ?_ ?_
 ·refine bK W 1000 (.ex _ _) _ ?_;refine ia G 15 rfl rfl rfl (List.cons_ne_nil _ _) (by decide) ?_;refine cF ?_;refine d9 G 16 rfl ?_;refine cF ?_;refine lF (i:=5) (pv:=.d (.int (3+t6))) rfl rfl ?_ rfl;refine cF ?_;refine oE ?_;refine cF ?_;refine jv 17 (da (⟨Nat.zero_le _,rfl,aD _ rfl ?_⟩));refine cF ?_;refine jv 18 (da (⟨Nat.zero_le _,rfl,aD _ rfl ?_⟩));refine cF ?_;refine ia G 19 rfl rfl rfl (List.cons_ne_nil _ _) (by decide) ?_;refine cF ?_;refine lQ (da (⟨Nat.zero_le _,aD _ rfl ?_⟩));refine cF ?_;refine lQ (da (⟨Nat.zero_le _,aD _ rfl ?_⟩));refine iA ⟨?_,rfl,?_⟩
  rotate_left
  refine iA ⟨?_,rfl,rfl,?_⟩
  rotate_left 2
  ·show List.Nodup (["came","lost"]:List Str);decide+kernel
  ·show List.Nodup (["out","next","largest","log","owed","octets"]:List Str);decide+kernel
  ·refine(ys hS2)▸?_;refine lh rfl rfl ((ms (ms (ms (ms (ms (ms (ms rfl))))))).trans ?_);refine Eq.trans ?_ (ms (l:=Ej _) rfl).symm;rfl
 refine c6 ⟨ss ns t6 [none,none,none,none,none,none],[some (.Hh [("latest",.d (.int 0)),("later",.d .none)])],aJ S2⟩ ?_ ?_
 ·refine bK W 1000 (.ex _ _) _ ?_;refine yt W rfl ?_;refine wW G rfl rfl (List.cons_ne_nil _ _) (by decide) ?_;refine cF ?_;refine yD ?_;refine cF ?_;refine oE ?_;refine iA (⟨?_,rfl,CO (.tm 0) _ _ rfl rfl rfl (by decide) ?_ (bl_ rfl) rfl ?_⟩)
  ·show List.Nodup (["latest","later"]:List Str);decide+kernel
  ·show List.Nodup (["out","next","largest","log","owed","octets","latest","later"]:List Str);decide+kernel
  ·refine(ys hS2)▸?_;exact lh rfl rfl (ms (ms rfl))
 refine ji (wv hS0' hb6 hS1 hS2) λI0 hsc2 hbk2 hlam2=>?_;exact k t6 S2 hb6 I0 (by refine(ys hlam2)▸?_;exact hLm S0.lam.fr1 S0.lam.fr2) (by refine(ys hsc2)▸(ys (List.length_take))▸?_;lia) hbk2
end
end
section
open PySem PySem.W PyProof.Rows PySem.Calls
noncomputable abbrev jP:List Str:=["script","box","log","conn","place","many","world","number","frames","turn","high","low","ranges"]
section
variable {C:Cx} {A:Around} {L:Addr}
theorem y3(l:List aM):(l++[aM.Hw]).map b8=l.map b8++[b8 .Hw]:=List.map_append
theorem z60{a b:Nat}(u:a<=10)(z:b<=1):a+b<=100000:=by exact dD [_,_] [] 0x10508003422000070d408a1001801 ft u z
theorem xU(G:Gd C)(W:dU TF C A (fz C 666 jP L) 13)(ns:List Int)(t6:Int)(S:St)(h6:0<=t6/\t6<6)(I0:lS (3+t6) 0 S)(hs:S.Hc.length<=40)(hb:S.Hg=1){T0:List (Option PO)}(hT0:aU T0){Q:Fl->aC->Prop}
  (k:∀v7 v8 TT S',aU TT->wJ (3+t6) (qE S')->S'.lam=S.lam->S'.Hc.length<=40->0<=S'.Hg->S'.Hg<=50->fA C A (fz C 666 jP L) ((fb C 666).drop 7) ⟨ss ns t6 [v7,v8,none,none,none,none],TT,aJ S'⟩ Q):
  fA C A (fz C 666 jP L) ((fb C 666).drop 6) ⟨ss ns t6 [none,none,none,none,none,none],T0,aJ S⟩ Q:=by
 revert G W h6 I0 hs hb hT0 k;revert C A L ns t6 S T0 Q;exists ce λC=>cx λA=>aA λL=>aA λns=>aA λt6=>em λS=>aA λT0=>aA λQ=>aO _;intro C A L ns t6 S T0 Q G W h6 I0 hs hb hT0 k;refine aP (show∃m:Nat,(m:Int)=3+t6 from⟨(3+t6).toNat,by lia⟩) λm hm=>?_;revert hm;revert m;exists aA λm=>aO _;intro m hm;refine cK<|lK (λn σ'=>∃(v7 v8:Option PV) (TT:List (Option PO)) (S':St),σ'=⟨ss ns t6 [v7,v8,none,none,none,none],TT,aJ S'⟩/\aU TT/\lS (3+t6) n S'/\S'.lam=S.lam/\S'.Hc.length<=40/\1<=S'.Hg/\S'.Hg<=1+2*n) m W.hh (dD [_] [_] 0x709301d40e0d01403f41480081 ft h6.2 hm) ?cI ?cN ?cC<|cE rfl
 case cI=>
  exact bK W 1000 (.ev _ _) _<|j9 (⟨by exact(ys hm)▸rfl,Gs none none T0 S rfl hT0 I0 rfl hs (bw [] [_] 0x8280ac10305181 ft hb)<|bw [] [_] 0x1050150202f04a414c0981 ft hb⟩)
 case cN=>
  intro σ rn1;refine Ch rn1 λv7 v8 TT S' re2 hTT I i1 i2 i3 i4=>?_;try clear rn1;subst re2;revert hTT I i1 i2 i3 i4;revert v7 v8 TT S';exists aA λv7=>aA λv8=>aA λTT=>em λS'=>aO _;intro v7 v8 TT S' hTT I i1 i2 i3 i4;exact k v7 v8 TT S' hTT (vV I hm) i1 i2 (bw [] [_] 425012919013761 ft i3)<|jt [_] [_,_] 0x1e094829813022709301d4160d0940590c80981 ft h6.2 hm i4
 case cC=>
  intro n σ hn rn3;refine Ch rn3 λv7 v8 TT S' re4 hTT I i1 i2 i3 i4=>?_;try clear rn3;subst re4;revert hn hTT I i1 i2 i3 i4;revert n v7 v8 TT S';exists aA λn=>aA λv7=>aA λv8=>aA λTT=>em λS'=>aO _;intro n v7 v8 TT S' hn hTT I i1 i2 i3 i4;refine t7 I.HG λc c1 c2 c3 c4 c5=>?_;revert c1 c2 c3 c5;revert c;exists aA λc=>aO _;intro c c1 c2 c3 c5;have hmm:=I.m;refine bK W 1000 (.as _ _ _) _ ?_;show fA C A _ _ _ _;refine dY (λσ'=>∃fs S2,σ'=⟨ss ns t6 [some (.d<|.int n),some<|.d<|.seq<|fs.map b8,none,none,none,none],TT,aJ<|iC S2⟩/\lT S' (4*c,40) fs S2) ?_ ?_
  ·refine bK W 1000 (.ex _ _) _<|zc (n:=5) (K:=λr m=>∃fs S2,r= .d (.seq<|fs.map b8)/\m=aJ S2/\lT S' (4*c,40) fs S2) (mV G S' (4*c,40) c3 (by show 4*c<40;exact DW [_,_] [_,_] 0x23813080040841384980ea130684a04a0640606a201 ft h6.2 hm hn c2) (by refine(ys I.Hk.2)▸?_;decide) (bw [] [_] 425012919013761 ft i3) (DW [_,_] [_,_] 0x23c129053026040081042709301d4160d09405c21480a01 ft h6.2 hm hn i4)<|bw [_] [] 0x281900003f41480081 ft i2) W.r (by decide) rfl (aB S') hTT λpv mem' hk=>?_;revert hk;revert pv mem';exists oO λpv=>aA λmem'=>aO _;intro pv mem' hk;refine bM hk λfs S2 re1 re2 hF=>?_;try clear hk;subst re1;subst re2;revert hF;revert fs S2;exists aA λfs=>em λS2=>aO _;intro fs S2 hF;exact⟨rfl,dk fs S2 (lh rfl rfl (congrArg aJ<|eH<|(kN hF).2.2.1.trans I.hw).symm) hF⟩
  intro σ' rn5;refine nP rn5 λfs S2 re6 hF=>?_;try clear rn5;subst re6;revert hF;revert fs S2;exists aA λfs=>em λS2=>aO _;intro fs S2 hF;refine ui (vQ I (dD [_,_] [_] 0x2000810384988ea040e12603a01 ft hm hn) c3 hF) λI' j1 j2 j3 j4 j5=>CD (kN hF) λq1 q2 q3 q4 q5=>?_;have hw2:iC S2=S2:=eH<|q3.trans I.hw
  have hnx:(iC S2).sp.HK+1-1=(n:Int):=by refine(ys hw2)▸(ys q1)▸(ys I.nx.1)▸?_;exact Int.le_antisymm (jO [_] [] 0x3c150500ee981 ft)<|jO [_] [] 73536713055549825 ft
  have hky:(n:Int)∉Hu S2.sp.Hd:=by refine(ys q1)▸?_;exact I.IO.1
  have hln:S2.sp.Hd.length<60:=by refine(ys q1)▸(ys I.IO.2)▸?_;exact jt [_,_] [_] 0x4001020709311d40e0d01403e0c80081 ft h6.2 hm hn
  have hwo:S2.Hf=S2.sp.Hd:=by refine(ys q2)▸(ys q1)▸?_;exact I.Hf
  have DT:=mj G<|iC S2
  rw[hnx] at DT;have DS:=tH G {iC S2 with sp:={S2.sp with HK:=S2.sp.HK+1}} n (fs++[.Hw]) hky hln (by cases fs<;>rfl) (by refine(ys List.length_append)▸(ys List.length_singleton)▸?_;exact bw [_] [] 0x142200007e82941401881 ft j5);rw[y3] at DS;have DR:=rc G (ug {iC S2 with sp:={S2.sp with HK:=S2.sp.HK+1}} ((n:Int),fs++[.Hw]))<|100+n
  have zl:(fs.map b8).length+1<=100000:=z60 (by rw[List.length_map];exact j5) (by decide);refine bK W 1000 (.bl _ _) _<|aI W DT rfl rfl (aB _) hTT rfl ⟨zl,?_⟩;refine aI W DS rfl rfl (aB _) hTT rfl<|aI W DR rfl rfl (aB _) hTT rfl ⟨zl,?_⟩;refine gW (dh S2.Hf) (dh<|S2.Hf++[((n:Int),fs++[.Hw])]) rfl (by rw[dJ,hwo];exact l6 hln) ?_ ?_
  ·exact(congrArg (λx=>iS (dh S2.Hf) n<|.seq x) (y3 fs).symm).trans (vi (q:=((n:Int),fs++[.Hw]))<|by refine(ys hwo)▸?_;exact hky)
  ·refine Exists.intro (some<|.d<|.int n)<|G1 (some<|.d<|.seq<|fs.map b8) TT (qW S2 n fs) (lh rfl rfl ?_) hTT I' (j1.trans i1) (by show S2.Hc.length<=40;refine(ys j2)▸?_;exact i2) (by show 1<=S2.Hg;exact dD [] [_,_] 0x44a0113051810305181 ft i3 j3) (by show S2.Hg<=1+2*((n+1:Nat):Int);push_cast;exact dD [_] [_,_] 0x20909604c080f04a414c498182807704a414c0981 ft i4 j4);have e:qW (iC S2) n fs=qW S2 n fs:=by exact(ys hw2)▸rfl
   refine e▸?_;exact ms rfl
end
end
section
open PySem PySem.W PyProof.Rows PySem.Calls
section
variable {C:Cx} {A:Around} {L:Addr}
theorem zj{x y:Option PO}:(T++[x]).set T.length y=T++[y]:=lD
theorem xi(G:Gd C)(ab:∃e:Env,A.frames=some [e]/\e=(fz C 666 jP L).env)(W:dU TF C A (fz C 666 jP L) 13)(ns:List Int)(V:Int)(S:St)(H:xj C S.lam)(h6:0<=V/\V<6)(J0:wJ (3+V) (qE S))(hs:S.Hc.length<=40)(hb:0<=S.Hg)(aa:S.Hg<=50){z B:Option PV}{T0:List (Option PO)}(ae:aU T0):
  fA C A (fz C 666 jP L) ((fb C 666).drop 7) ⟨ss ns V [z,B,none,none,none,none],T0,aJ S⟩ λx σ'=>x= .ret (.d (.bool true))/\∃S,σ'.mem=aJ S:=by
 revert G ab W H h6 J0 hs hb aa ae;revert C A L ns V S z B T0;exists ce λC=>cx λA=>aA λL=>aA λns=>aA λV=>em λS=>aA λz=>aA λB=>aA λT0=>aO _;intro C A L ns V S z B T0 G ab W H h6 J0 hs hb aa ae;have WL:dU TL C A (fz C 666 jP L) 13:=⟨W.G,uh G,W.r,W.kind,W.dbg,W.st⟩
 refine c6 ⟨ss ns V [z,B,none,none,none,none],T0,aJ<|qE S⟩ ?_ ?_
 ·exact bK W 1000 (.ex _ _) _<|⟨rfl,lh rfl rfl<|ms rfl⟩
 refine cK<|lK (λn σ'=>∃(v9 O N I:Option PV) (z B:Option PV) (TT:List (Option PO)) (u:St),σ'=⟨ss ns V [z,B,v9,O,N,I],TT,aJ u⟩/\aU TT/\wJ (3+V) u/\u.lam=S.lam/\u.Hc.length<=40/\0<=u.Hg/\u.Hg<=50+10*n) 3 W.hh (by decide) ?cI ?cN ?cC<|cE rfl
 case cI=>
  exact bK W 1000 (.ev _ _) _<|j9 (⟨rfl,zb none none none none z B T0 (qE S) rfl ae J0 rfl hs hb<|by show S.Hg<=_;exact bw [] [_] 0x190c80981017a114c864c0981 ft aa⟩)
 case cN=>
  intro σ am;refine Cy am λv9 O N I z B TT u ar Z J i1 i2 i3 i4=>?_;try clear am;subst ar;revert Z J i1 i2 i3 i4;revert v9 O N I z B TT u;exists aA λv9=>aA λO=>aA λN=>aA λI=>aA λz=>aA λB=>aA λTT=>em λu=>aO _;intro v9 O N I z B TT u Z J i1 i2 i3 i4;exact bK W 1000 (.bl _ _) _ ⟨rfl,_,rfl⟩
 case cC=>
  clear z B;intro n σ hn ak;refine Cy ak λv9 O N I z B TT u av Z J i1 i2 i3 i4=>?_;try clear ak;subst av;revert hn Z J i1 i2 i3 i4;revert n v9 O N I z B TT u;exists aA λn=>aA λv9=>aA λO=>aA λN=>aA λI=>aA λz=>aA λB=>aA λTT=>em λu=>aO _;intro n v9 O N I z B TT u hn Z J i1 i2 i3 i4;have D1:=cL G u (3+V+1) (bw [] [_] 0x4046060a03849b01201 ft h6.1) i3 (dD [_] [_] 0x1e84532193026070900115f41480a01 ft hn i4)<|bw [_] [] 0x281900003f41480081 ft i2
  have ag:=jJ u.Hc (u.Hg+1) (3+V+1)<|bw [] [_] 0x4046060a03849b01201 ft h6.1
  have D2:=cL G (bF u) 3 (by decide) (by show 0<=u.Hg+1;exact bw [] [_] 0x1011818280b01181 ft i3) (by show u.Hg+1<1000;exact dD [_] [_] 0x3d08a6432604c0e120022be82941405a01 ft hn i4) (by show u.Hc.length<1000;exact bw [_] [] 0x281900003f41480081 ft i2);have aa:=jJ (bF u).Hc ((bF u).Hg+1) 3 (by decide);generalize dp u.Hc (u.Hg+1) (3+V+1)=hi at D1 ag;revert D1 ag;revert hi;exists aA λhi=>aO _;intro hi D1 ag;generalize dp (bF u).Hc ((bF u).Hg+1) 3=dw at D2 aa;revert D2 aa;revert dw;exists aA λdw=>aO _;intro dw D2 aa;have Jb:wJ (3+V) (bF<|bF u):={J with}
  have k1:(bF<|bF u).lam=S.lam:=i1;have k2:(bF<|bF u).Hc.length<=40:=i2;have k3:0<=(bF<|bF u).Hg/\(bF<|bF u).Hg<=52+10*n:=by show 0<=u.Hg+1+1/\u.Hg+1+1<=_;exact⟨bw [] [_] 0x2023030541405b01181 ft i3,bw [_] [_] 0x7a114c864c098101e8453419382a0a02d981 ft i4⟩
  refine aP (show∃lo,lo=max 0 (hi-dw) from⟨_,rfl⟩) λlo ad=>?_;revert ad;revert lo;exists aA λlo=>aO _;intro lo ad;have aq:0<=lo/\lo<=hi:=by lia
  refine bK WL 1000 (.as _ _ _) _ ?_;show fA C A _ _ _ _;refine c6 ⟨ss ns V [z,B,some<|.d<|.int n,some<|.d<|.int hi,N,I],TT,aJ<|bF u⟩ ?_ ?_
  ·exact bK WL 1000 (.ex _ _) _<|aI WL D1 rfl rfl (aB _) Z rfl ⟨rfl,rfl⟩
  refine c6 ⟨ss ns V [z,B,some<|.d<|.int n,some<|.d<|.int hi,some<|.d<|.int lo,I],TT,aJ<|bF<|bF u⟩ ?_ ?_
  ·exact bK WL 1000 (.ex _ _) _<|aI WL D2 rfl rfl (aB _) Z rfl ⟨rfl,by refine(ys ad)▸?_;rfl⟩
  refine c6 ⟨ss ns V [z,B,some<|.d<|.int n,some<|.d<|.int hi,some<|.d<|.int lo,some (.at (.tm TT.length))],TT++[some (.Ha<|de [(lo,hi)])],aJ<|bF<|bF u⟩ ?_ ?_
  ·refine bK WL 1000 (.ex _ _) _<|fj ?_;refine bK WL 1000 (.es _ _) _ ?_ _;exact⟨bl_ rfl,bD _ rfl rfl rfl⟩
  generalize bF (bF u)=Sb at Jb k1 k2 k3⊢;clear D1 D2 J i1 i2 i3 i4 ad aa;have aj:∀l:List (Int×Int),aU (TT++[some (.Ha<|de l)]):=λl=>eO Z<|db rfl
  have D3:=cL G Sb 2 (by decide) k3.1 (dD [_] [_] 0x1e84534193026070900115f41480a01 ft hn k3.2)<|bw [_] [] 0x281900003f41480081 ft k2
  have D4:=cL G (bF Sb) 2 (by decide) (by show 0<=Sb.Hg+1;exact bw [] [_] 0x1011818280b01181 ft k3.1) (by show Sb.Hg+1<1000;exact dD [_] [_] 0x3d08a6832604c0e120022be82941405a01 ft hn k3.2) (by show Sb.Hc.length<1000;exact bw [_] [] 0x281900003f41480081 ft k2);generalize dp Sb.Hc (Sb.Hg+1) 2=z1 at D3;generalize dp (bF Sb).Hc ((bF Sb).Hg+1) 2=z2 at D4;refine dY (λσ'=>∃rs Sx,σ'=⟨ss ns V [z,B,some<|.d<|.int n,some<|.d<|.int hi,some<|.d<|.int lo,some (.at (.tm TT.length))],TT++[some (.Ha<|de ((lo,hi)::rs))],aJ Sx⟩/\rs.length<=1/\wJ (3+V) Sx/\Sx.lam=S.lam/\Sx.Hc.length<=40/\0<=Sx.Hg/\Sx.Hg<=54+10*n) ?tR ?tQ
  case tR=>
   refine yQ<|bK W 1000 (.tt _ _) _ ?_;refine bL (λU=>?_) λU=>?_
   ·refine aI W D3 rfl rfl (aB _) (aj _) rfl<|mC (λU=>?_) λU=>?_
    ·show fA C A _ _ _ _;refine cK<|pt ?_ rfl rfl;refine xy rfl rfl rfl rfl<|bK W 1000 (.ev _ _) _ ?_;show tL C A _ _ _ _ _ _ _ _;refine mJ G rfl (l0:=de [(lo,hi)]) ip<|bK W 1000 (.ev _ _) _ ?_;refine aI W D4 rfl rfl (aB _) (aj _) rfl<|kH _ (de [(lo,hi)]) rfl ip (bl_ rfl) ?_;refine(ys uE)▸?_;exact gr (⟨rfl,zJ [(max 0<|lo-2-z2,lo-2)] (bF<|bF Sb) rfl (bl_ rfl) ({Jb with}) k1 k2 (by show 0<=Sb.Hg+1+1;exact bw [] [_] 0x2023030541405b01181 ft k3.1)<|by show Sb.Hg+1+1<=_;exact bw [_] [_] 0x7a114d064c098101e8453619382a0a02d981 ft k3.2⟩)
    ·show fA C A _ _ _ _;exact gr (⟨rfl,zJ [] (bF Sb) rfl (by decide) ({Jb with}) k1 k2 (by show 0<=Sb.Hg+1;exact bw [] [_] 0x1011818280b01181 ft k3.1)<|by show Sb.Hg+1<=_;exact bw [_] [_] 0x3d08a6832604c080f4229b0c9c1405981 ft k3.2⟩)
   ·show fA C A _ _ _ _;exact gr (⟨rfl,zJ [] Sb rfl (by decide) Jb k1 k2 k3.1<|bw [_] [_] 0x1e845341930260407a114d864c0981 ft k3.2⟩)
  case tQ=>
   intro σ' an;refine Gz an λrs Sx ao ai Jx k1 k2 k3 k4=>?_;try clear an;subst ao;refine nX TT.length (.seq<|de ((lo,hi)::rs)) (ss ns V [z.map (iK TT.length<|.seq<|de ((lo,hi)::rs)),B.map<|iK TT.length<|.seq<|de ((lo,hi)::rs),some<|.d<|.int n,some<|.d<|.int hi,some<|.d<|.int lo,some (.d<|.seq<|de ((lo,hi)::rs))]) ip rfl (by simp[ss,kI,iK]) ?_;generalize z.map (iK TT.length<|.seq<|de ((lo,hi)::rs))=z;generalize B.map (iK TT.length<|.seq<|de ((lo,hi)::rs))=B;refine(ys zj)▸?_;have af:aU (TT++[none]):=eO Z<|db rfl
   generalize TT++[none]=T2 at af;have HL:xj C Sx.lam:=by refine(ys k1)▸?_;exact H
   refine aG ab λenv ah ap=>?_;try clear ab;subst ap;refine bK W 1000 (.bl _ _) _<|⟨.of_left (by decide),?_⟩
   by_cases hb:3+V<=hi
   ·refine l4 (nL Jx) λD E al=>ul (mem':=aJ Sx) (x:=.d<|.bool true) ah rfl (aB Sx) rfl trivial (λρ F s vs x1 x2 x3 x4 x5 x6=>sW G Sx lo hi rs ai (1000+400*n) (by refine(ys Jx.nx.1)▸?_;exact hb) Jx.hw (by refine(ys Jx.nx.2)▸?_;exact hb) D E al ah x1 rfl x2 (W.r.le<|by decide) x3 x4 x5 x6) ?_;exact zb _ _ _ _ z B T2 Sx rfl af Jx k1 k2 k3 (by push_cast;exact bw [_] [_] 0x3d08a6c32604c0c1403ba114c864c0981 ft k4)
   ·refine ui (y0 Jx aq.2 (rs:=rs) (bw [] [_,_] 0x89c24e0089c24c0a01 ft hb) (now:=1000+400*n)<|jO [_] [] 0xf90254fa0a4fe829181 ft) λP au J' t1 t2 t3=>l4 au λD E X=>ul (mem':=aJ<|ic (fR Sx ((lo,hi)::rs) hi<|1000+400*n) ((lo,hi)::rs) hi<|1000+400*n) (x:=.d<|.bool true) ah rfl (aB Sx) rfl trivial (λρ F s vs x1 x2 x3 x4 x5 x6=>AK (tb G Sx HL lo hi rs ai (1000+400*n) P D E X) x2 (W.r.le<|by decide) x3 x4 x5 x6) ?_;exact zb _ _ _ _ z B T2 _ rfl af J' (t1.trans k1) (by refine(ys t2)▸?_;exact k2) (by refine(ys t3)▸?_;exact k3) (by refine(ys t3)▸?_;push_cast;exact bw [_] [_] 0x3d08a6c32604c0c1403ba114c864c0981 ft k4)
end
end
section
open PySem PySem.W PyProof.Rows PySem.Calls
section
variable {C:Cx}
theorem Bu(G:Gd C)(GL:Fs C)(ns:List Int)(hz:ns.length<=63)(J:A.frames=some [])(V:Rm A 14)(H:HR C ρ F (aH iM) s.heap)(I:∀i,ρ (.tm i)=none)(N:∀n,iM n=none->ρ (.sk n)=none)
  (r:bQ C ρ F vs [.d (.seq (ns.map .int))]):
  codeAny (model C.prog C.w) A (.call (.ref 666) ⟨vs,[]⟩) (λr s'=>∃h' tk ρ' F' S,r= .ok (.ret (.bool true))/\s'=(wh s h' tk)/\HR C ρ' F' (aH (aJ S)) h'/\bx (λU=>False) ρ F (aH iM) s.heap ρ' F' (aH (aJ S)) h') s:=by
 revert G GL hz J V H I N r;revert A vs s F ρ C ns;exists cx λA=>aA λvs=>eu λs=>aA λF=>aA λρ=>ce λC=>aA λns=>aO _;intro A vs s F ρ C ns G GL hz J V H I N r;have hc:gI C.K 666 jP=true:=by kernel_rfl
 have ai:mc 1 λvs=>bindArgs (kZ C.K 666) ⟨vs,[]⟩=pure ((List.take 1 jP).zip vs):=by(repeat intro _);(show bindArgs _ _=_);kernel_rfl
 refine f9 (C:=C) (xs:=[.d (.seq<|ns.map .int)]) G (n:=13) (fQ G 1 hc) rfl (λvs hv=>ai.of vs hv) V H I N r λL Z O W z u V=>?_;have WT:=ml (L:=L) G (gH G) hc V;have WL:=ml (L:=L) G (uh G) hc V;refine wpAny_mono ((Bj G GL ns hz WL λt6 S h6 I0 HL hs hb=>xU G WT ns t6 S h6 I0 hs hb (db rfl) λv7 v8 TT S' af J0 e1 e2 e3 e4=>xi G (aD _ (Around.frames_deeper J) rfl) WT ns t6 S' (e1▸HL) h6 J0 e2 e3 e4 af) ρ F (wh s Z O) W) (λfl s' pz=>?_) λU U e=>e.elim;have hg:∀ls,aC.get ⟨ls,[],iM⟩=aH iM:=λls=>by
  funext k;cases k with
  |sk n=>rfl
  |tm i=>rfl
 refine xC pz λh6 ad ah F6 ae ag a6 B ab=>?_;try clear pz;subst ag;refine cj ab λy ry ey aa=>aP aa λS e6=>?_;subst ey;cases fl with
 | ret v=>
  obtain⟨l6,T6,m6⟩:=ae;have e6:m6=aJ S:=e6;clear aa;subst e6;have hv:v= .bool true:=by cases ry with|d r=>cases r;rfl
  clear ry ab;subst hv;refine bS h6 ad (bJ ah) F6 S rfl rfl (a6.H.H8<|aB S) ⟨λk p e=>?_,B.fz,λa o e n1 U=>?_,λa e=>?_⟩
  ·cases k with
   |sk n=>exact B.HD _ _ e
   |tm i=>rw[I] at e;exact bU e
  ·refine B.keep a o (z _ _ e) (by rw[hg];exact n1) λha=>?_;rw[u a ha.all] at e;exact bU e
  ·rcases B.fresh a (e.imp cs id) with q|q|q
   ·rw[hg] at q;exact .inl q
   ·exact .inr<|.inl q
   ·refine .inr<|.inr ?_
    cases e2:s.heap.get? a with
    |none=>rfl
    |some o=>rw[z _ _ e2] at q;exact jg q
 |_=>exact ry.elim
end
noncomputable def Sub(K:Frag):Frag->Prop
 |[]=>True
 |p::r=>K.lookup p.1=some p.2/\Sub K r
noncomputable def ly(K:Frag):Frag->Bool
 |[]=>true
 |p::r=>(match p.2 with|⟨_,_,.func fd,_⟩=>codeIn K fd.code fd.qualname|_=>true)&&ly K r
theorem E0{K:Frag}(X:K.In h):∀{z:Frag},Sub K z->z.In h:=λ{z}=>by
 induction z with
 | nil=>
  intro U;exact λU U e=>bU e
 | cons p r B=>
  intro q;exact λa o e=>by
    have e:(match a==p.1 with|true=>some p.2|false=>r.lookup a)=some o:=e;cases b:a==p.1 with
    |true=>rw[b] at e;(have u:=oi e;clear e;clear e;subst u);refine(ys<|beq_iff_eq.mp b)▸?_;exact X _ _ q.1
    |false=>rw[b] at e;exact B q.2 a o e
theorem wR{K:Frag}:∀{z:Frag}{a:Addr}{fd:FuncData},ly K z=true->wf z a=some fd->codeIn K fd.code fd.qualname=true:=λ{z}=>by
 induction z with
 | nil=>
  intro U U U e;exact bU e
 | cons S r I=>
  obtain⟨b,B⟩:=S;intro a fd h e;have h:=(Bool.and_eq_true _ _).mp h;unfold wf at e;rw[show List.lookup a ((b,B)::r)=_ from List.lookup_cons] at e;cases q:a==b with
  | true=>
   rw[q] at e;have O:=h.1;obtain⟨oc,od,J,V⟩:=B;cases J with
   |func N=>(have u:=oi e;clear e;subst u);exact O
   |_=>exact bU e
  |false=>rw[q] at e;exact I h.2 e
theorem xa{P:Params}{C:Cx}:∀(l:List Int){vs:List Value},WellAll P h vs (ofPys (l.map PyData.int))->bA C F vs (l.map .int):=λl=>by
 induction l with
 | nil=>
  intro vs hw;have hw:WellAll P h vs []:=hw;cases hw;exact .nil
 | cons i l u=>
  intro vs hw;have hw:WellAll P h vs (.int i::ofPys (l.map PyData.int)):=hw;cases hw with
  | cons z B=>
   cases z with
   |int i t=>exact .cons (.int i t)<|u B
theorem p9:∀(n:Nat),(n=22/\iM n=some (some (.Hb 625 (tabObj #[]))))\/(n≠22/\aH iM (.sk n)=none):=by
 intro n
 by_cases h:n<29
 ·have:∀n,n<29->n=22\/(aH iM<|.sk n).isNone=true:=by decide+kernel
  by_cases e:n=22
  ·clear h;subst e;exact .inl ⟨rfl,rfl⟩
  ·exact .inr ⟨e,Option.isNone_iff_eq_none.mp<|(this n h).resolve_left e⟩
 ·refine .inr ⟨λe=>h (e▸by decide),?_⟩;show(eG _ n).join=none;unfold eG;rw[List.getElem?_eq_none (Nat.not_lt.mp h)];rfl
set_option tactic.hygienic true in
theorem Dc:∀{p p':Program}{w:World}{s₁:Shared}{u:List Str}{B:ExcName->Option Value}{mg mb:Str->Option Value}{K:Frag}{a:Addr}{ns:List Int}(V:Sub K (KK w.params))(ae:ly K (KK w.params)=true)(aa:noTabs K=true)(KX:K.In s₁.heap)(T:Top p' u B mg mb s₁.heap)(I:TabsAt [(629,625)] s₁.heap)(hW:Well w.params s₁.heap (.ref a) (ofPy (.list (ns.map .int))))(hz:ns.length<=63),codeAny (model p w) callerA (.call (.ref 666) ⟨[.ref a],[]⟩) (λr s'=>r= .ok (.ret (.bool true))/\(∀b o,(ghostOf s₁.heap [(629,625)]).get? b=some o->s'.heap.get? b=some o)/\s'.os=s₁.os/\s'.gens=s₁.gens/\GrownAll [(629,625)] s'.heap) s₁:=by
 exists aA λp=>aA λp'=>zV λw=>eu λs₁=>aA λu=>aA λB=>aA λmg=>aA λmb=>aA λK=>aA λa=>aA λns=>aO _;intro p p' w s₁ u B mg mb K a ns V ae aa KX T I hW hz;have T2:=ghost_top I T;have ab:=(I (629,625)<|.head _).2;have ad:(ghostOf s₁.heap [(629,625)]).get? 625=none:=hideAll_none _<|.head _
 have KG:=ghost_K I KX aa;have G:Gd ⟨p,w,ghostOf s₁.heap [(629,625)]⟩:=⟨E0 KG V,T2.nolimit,λa fd e=>codeRec_of KG<|wR ae e,_,_,_,_,topRead_of T2⟩
 have GL:Fs ⟨p,w,ghostOf s₁.heap [(629,625)]⟩:=by
  refine GP T2.bmain λbm ob b1 b2 b3 b4 b5 b6=>CO mg bm ob T2.g b1 b2 (λe=>?_) b3 b4 b5 b6;refine ca T2.g λo es ep q1 q2 U=>?_;rw[<-e] at q1;have q3:=b3.symm.trans q1;have Z:=oi q3;clear q3;clear q1;subst Z;rw[b6] at q2;exact nc PySem.Data.ctorIdx q2 rfl
 have hW:Well w.params s₁.heap (.ref a) (.list<|ofPys<|ns.map .int):=hW;cases hW with
 | list hl hv=>
  rename_i vs
  have ha:(ghostOf s₁.heap [(629,625)]).get? a=some {cls:=.type "list",data:=.seq vs.toArray}:=ghost_get I hl (λq=>by exact nc PySem.Value.ctorIdx ((PySem.Obj.mk.inj q).1) rfl);have hk:∀{k:Ky}{pp:Addr×Addr},(if k= .sk 22 then some ((625:Addr),(625:Addr)) else none)=some pp->k= .sk 22/\pp=(625,625):=λ{k pp} e=>by
   split at e
   ·rename_i q;(have N:=oi e;clear e;subst N);exact⟨q,rfl⟩
   ·exact bU e
  refine codeAny_mono (Bu (C:=⟨p,w,ghostOf s₁.heap [(629,625)]⟩) G GL ns hz (A:=callerA) rfl ⟨rfl,by decide+kernel,by decide+kernel⟩ (ρ:=λk=>if k= .sk 22 then some (625,625) else none) (F:=λb o=>(ghostOf s₁.heap [(629,625)]).get? b=some o) (s:=s₁) (vs:=[.ref a]) ⟨λU U e=>e,λb o e=>of_hideAll _ e,?_,?_,?_⟩ (λU=>rfl) ?_<|.cons (.d<|.seq ha ⟨_,rfl⟩<|xa ns hv) .nil) λr s' ah=>xC ah λh' tk ρ' F' S e1 e2 H' st=>?_
  ·intro k o e;cases k with
   |tm i=>exact bU e
   | sk n=>
    rcases p9 n with⟨rfl,q⟩|⟨_,q⟩
    ·have e:(iM 22).join=some o:=e;rw[q] at e;(have J:=oi e;clear e;clear e;subst J);exact bD (625,625) rfl ⟨rfl,rfl⟩ ab
    ·rw[q] at e;exact bU e
  ·intro k o pp b e1 e2 e3 o' e4;refine aL (hk e2) λU ai=>?_;clear e2;subst ai;have:b=625:=e3.elim id id;clear e3;subst this;rw[ad] at e4;exact bU e4
  ·intro k k' o o' pp aj b e1 e2 e3 e4 e5 e6;rw[(hk e3).1,(hk e4).1]
  ·intro n e;rcases p9 n with⟨_,q⟩|⟨q,_⟩
   ·rw[q] at e;exact jg e
   ·show(if Ky.sk n=Ky.sk 22 then _ else _)=_;rw[if_neg (λz=>q<|by(have O:=Mine.Ky.sk.inj z;clear z;clear e q;subst O);rfl)]
  ·subst e1 e2;refine⟨rfl,λb o e=>H'.Hv b o e,rfl,rfl,?_,trivial⟩;refine aG (H'.obj (.sk 22) (.Hb 625<|tabObj S.ps) rfl) λpp q1 ag=>aL ag λaf q4=>aL af λU q3=>?_;rw[q3] at q4;exact⟨S.ps,q4⟩
end
end Mine
open PySem PySem.W PyProof.Rows
set_option tactic.hygienic true
set_option maxHeartbeats 8000000
set_option Elab.async true in
theorem Mine.top : PySem.Challenge.rw_pq0978_01.Holds := by
  w_on; o_law; k_head; (case hw => w_witness2)
  have hS : ∀ P, Mine.Sub (Mine.top.heap_1_39 P) (Mine.KK P) := by
    intro P
    unfold Mine.KK
    repeat' (first | exact trivial | (refine And.intro ?_ ?_))
    all_goals kernel_rfl
  have hC : ∀ P, Mine.ly (Mine.top.heap_1_39 P) (Mine.KK P) = true := by
    intro P
    kernel_rfl
  k_fill
  intro w s₀ s₁ mg mb G Y fa o pm cd doc dV kV ho hd hcd hD hmg hg args vals as hpre hlay hrd hwl hlo
  have KX := km_in_of Y
  km_tabs Y
  have X := (Ground.X G).1
  have V := (Ground.X G).2
  refine Ground.open G ?_
  intro T B D TE TW
  try (refine guard_noD D (by decide +kernel) ?_; clear D)
  km_lay T hmg ho hd cd
  have hfa := hmg.symm.trans (mg_of (n := "law") (v := .ref 666) KX (Top.g T) (by kernel_rfl))
  wrow_args hpre hlay hrd hwl hlo
  all_goals (
    first | refine callC_kw (enter_call ?_) | refine enter_call ?_
    w_top on
    kn_posts)
  cases hfa
  (with_reducible rename Well _ _ _ _ => hW)
  rename_i hlen hc
  refine codeAny_mono (Mine.Dc (hS _) (hC _) (by kernel_rfl) KX T hT9 hW (by omega)) fun r s' ⟨e, hk, hos, hgn, hgr⟩ => ?_
  subst e
  exact ⟨⟨.inl ⟨.bool true, .bool true, [], rfl, fun U => rfl, .bool true, by kernel_rfl, fun U => ⟨.nil, nofun⟩⟩, hk, hos, hgn.trans hg⟩, hgr⟩
set_option Elab.async false
theorem PySem.Challenge.cw_pq0978_01_holds : PySem.Challenge.rw_pq0978_01.Holds :=
  Mine.top
