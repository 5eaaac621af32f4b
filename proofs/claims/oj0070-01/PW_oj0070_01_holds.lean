import PyProof.Rows.All
import Wide.All
import OpenK.AllK
import Wide.FinOn
import KE.KDictOf
import KE.KEqDict
import PySem.Challenge.RW_oj0070_01
set_option Elab.async false
set_option maxRecDepth 100000
set_option linter.all false
set_option maxHeartbeats 0
set_option genInjectivity false
set_option tactic.hygienic false
set_option compiler.extract_closed false
set_option genSizeOf false
set_option bootstrap.genMatcherCode false
section
open PySem PySem.W PyProof.Rows
namespace Mine
section
set_option hygiene false in
local macro_rules | `(tactic| o_head $_) => `(tactic| exact h)
theorem kk (h : PySem.Challenge.rw_oj0070_01.row.Holds) : PySem.Challenge.rw_oj0070_01.row.Holds := by k_head
end
namespace entry
theorem tw10004314600517447617:True:=⟨⟩
theorem tw10007225196235357014:True:=⟨⟩
theorem tw10065544730959587433:True:=⟨⟩
theorem tw10072529917227447954:True:=⟨⟩
theorem tw10082673020821605732:True:=⟨⟩
theorem tw10151226718804151655:True:=⟨⟩
theorem tw10151703914111594697:True:=⟨⟩
theorem tw1016372528476536345:True:=⟨⟩
theorem tw10165525054452172319:True:=⟨⟩
theorem tw1021024379383091753:True:=⟨⟩
theorem tw10240180635756516378:True:=⟨⟩
theorem tw10351586467806123426:True:=⟨⟩
theorem tw10371805625615309988:True:=⟨⟩
theorem tw10411740951368753199:True:=⟨⟩
theorem tw10459829441555020335:True:=⟨⟩
theorem tw10465373065954812316:True:=⟨⟩
theorem tw10473662203144891164:True:=⟨⟩
theorem tw1051382647764358275:True:=⟨⟩
theorem tw10527996277783577188:True:=⟨⟩
theorem tw10612986826337676674:True:=⟨⟩
theorem tw1062944586021331777:True:=⟨⟩
theorem tw10652799301289401541:True:=⟨⟩
theorem tw10670808328163433728:True:=⟨⟩
theorem tw10683423944057570626:True:=⟨⟩
theorem tw10712293962711695484:True:=⟨⟩
theorem tw10741304740453012499:True:=⟨⟩
theorem tw10759662201149282710:True:=⟨⟩
theorem tw10780931306809666146:True:=⟨⟩
theorem tw10830413293735716280:True:=⟨⟩
theorem tw10851802018719551656:True:=⟨⟩
theorem tw1088410997196452061:True:=⟨⟩
theorem tw10888515993495429254:True:=⟨⟩
theorem tw10893266883400467236:True:=⟨⟩
theorem tw10895411456146295702:True:=⟨⟩
theorem tw10941356330115664253:True:=⟨⟩
theorem tw10947217955586845481:True:=⟨⟩
theorem tw10987043018597264425:True:=⟨⟩
theorem tw1100810649700077351:True:=⟨⟩
theorem tw11013691802189525237:True:=⟨⟩
theorem tw1101609573598784572:True:=⟨⟩
theorem tw11040148053345373301:True:=⟨⟩
theorem tw1106309178171208163:True:=⟨⟩
theorem tw11070549454657927644:True:=⟨⟩
theorem tw11078800630819282695:True:=⟨⟩
theorem tw11079641959644844282:True:=⟨⟩
theorem tw11130836367917823092:True:=⟨⟩
theorem tw11219217861436301013:True:=⟨⟩
theorem tw11222939787376309722:True:=⟨⟩
theorem tw11232763954213548685:True:=⟨⟩
theorem tw11235963143332505733:True:=⟨⟩
theorem tw11277701119213011001:True:=⟨⟩
theorem tw11288458355805206756:True:=⟨⟩
theorem tw11290723200214974542:True:=⟨⟩
theorem tw11299968277527157484:True:=⟨⟩
theorem tw11330697985461969326:True:=⟨⟩
theorem tw11332348278109235133:True:=⟨⟩
theorem tw11351687478992589637:True:=⟨⟩
theorem tw11393941174002963624:True:=⟨⟩
theorem tw11446801605552269207:True:=⟨⟩
theorem tw11453132376935257396:True:=⟨⟩
theorem tw11476586131109648659:True:=⟨⟩
theorem tw11503111524796665675:True:=⟨⟩
theorem tw11505012535885252737:True:=⟨⟩
theorem tw11539287079661578775:True:=⟨⟩
theorem tw11559296461638305025:True:=⟨⟩
theorem tw11575934149445642907:True:=⟨⟩
theorem tw11578059026503273621:True:=⟨⟩
theorem tw11603102597548859617:True:=⟨⟩
theorem tw11618014949020900747:True:=⟨⟩
theorem tw11653232361541292505:True:=⟨⟩
theorem tw11658571563887527091:True:=⟨⟩
theorem tw11674389746289900464:True:=⟨⟩
theorem tw11676483668323583102:True:=⟨⟩
theorem tw11714973527554595300:True:=⟨⟩
theorem tw11740461598417978789:True:=⟨⟩
theorem tw11788074752109671403:True:=⟨⟩
theorem tw1182565212608381658:True:=⟨⟩
theorem tw11898718340974580425:True:=⟨⟩
theorem tw11919144567569475318:True:=⟨⟩
theorem tw11921538011369287504:True:=⟨⟩
theorem tw1198588548295055959:True:=⟨⟩
theorem tw11989959171602952947:True:=⟨⟩
theorem tw11995209555032902892:True:=⟨⟩
theorem tw11999110923643607405:True:=⟨⟩
theorem tw1202227500949381439:True:=⟨⟩
theorem tw12049488528684533992:True:=⟨⟩
theorem tw12093785402370855361:True:=⟨⟩
theorem tw12095097619929290476:True:=⟨⟩
theorem tw12096544190266344292:True:=⟨⟩
theorem tw12148000158075784524:True:=⟨⟩
theorem tw12192856756130677124:True:=⟨⟩
theorem tw12215407869766925758:True:=⟨⟩
theorem tw12225038643251693898:True:=⟨⟩
theorem tw12317867519988934455:True:=⟨⟩
theorem tw1232066366961443937:True:=⟨⟩
theorem tw12330833729366025557:True:=⟨⟩
theorem tw12340473399698487172:True:=⟨⟩
theorem tw12341450377523386851:True:=⟨⟩
theorem tw12343108332002388386:True:=⟨⟩
theorem tw12345307443234361069:True:=⟨⟩
theorem tw1236075705514667942:True:=⟨⟩
theorem tw12391313491941734194:True:=⟨⟩
theorem tw12393483405249658546:True:=⟨⟩
theorem tw12445876769258292223:True:=⟨⟩
theorem tw12454752726252415884:True:=⟨⟩
theorem tw12473418574814070343:True:=⟨⟩
theorem tw12475850771500785242:True:=⟨⟩
theorem tw12491368836281360607:True:=⟨⟩
theorem tw12494239536820621374:True:=⟨⟩
theorem tw12517867337758065234:True:=⟨⟩
theorem tw1256089185809228867:True:=⟨⟩
theorem tw1256159918000391969:True:=⟨⟩
theorem tw12610188852576541025:True:=⟨⟩
theorem tw12626686701820335648:True:=⟨⟩
theorem tw12653183158223064650:True:=⟨⟩
theorem tw12739362212941142057:True:=⟨⟩
theorem tw12740281593293339135:True:=⟨⟩
theorem tw12759538113509519123:True:=⟨⟩
theorem tw12777125813430957091:True:=⟨⟩
theorem tw12779872841865794264:True:=⟨⟩
theorem tw1280185448924777614:True:=⟨⟩
theorem tw1280488879347598540:True:=⟨⟩
theorem tw12866551470103079302:True:=⟨⟩
theorem tw12884456471982700292:True:=⟨⟩
theorem tw12938400235720146104:True:=⟨⟩
theorem tw12942056047212652475:True:=⟨⟩
theorem tw12973178218964611060:True:=⟨⟩
theorem tw13006889983185576644:True:=⟨⟩
theorem tw13009988850211003047:True:=⟨⟩
theorem tw13010364004660872621:True:=⟨⟩
theorem tw13026967130434980840:True:=⟨⟩
theorem tw13055630642241725017:True:=⟨⟩
theorem tw13065884002923189115:True:=⟨⟩
theorem tw13113857910568142910:True:=⟨⟩
theorem tw13117037803756715033:True:=⟨⟩
theorem tw13136632645608554485:True:=⟨⟩
theorem tw13154149497360062420:True:=⟨⟩
theorem tw1315805966070343490:True:=⟨⟩
theorem tw13200000828643394171:True:=⟨⟩
theorem tw13204703157999053671:True:=⟨⟩
theorem tw13293485489154879703:True:=⟨⟩
theorem tw13350704063329624171:True:=⟨⟩
theorem tw13388988157310689257:True:=⟨⟩
theorem tw13392394527139046544:True:=⟨⟩
theorem tw13427445511610727160:True:=⟨⟩
theorem tw1344500334511880906:True:=⟨⟩
theorem tw13476135597472901292:True:=⟨⟩
theorem tw1350403721503741434:True:=⟨⟩
theorem tw13523491862556793817:True:=⟨⟩
theorem tw13530064992588319361:True:=⟨⟩
theorem tw13532401953259298317:True:=⟨⟩
theorem tw13553043008969101920:True:=⟨⟩
theorem tw13556075676116121499:True:=⟨⟩
theorem tw13581461955420525817:True:=⟨⟩
theorem tw13615392347672041259:True:=⟨⟩
theorem tw13670494700861195134:True:=⟨⟩
theorem tw13687640829745894376:True:=⟨⟩
theorem tw13704093773206608904:True:=⟨⟩
theorem tw13716691103193401937:True:=⟨⟩
theorem tw1371800700105836127:True:=⟨⟩
theorem tw13718933341350464847:True:=⟨⟩
theorem tw13747030687605117363:True:=⟨⟩
theorem tw13782864589920038063:True:=⟨⟩
theorem tw13823358243460168819:True:=⟨⟩
theorem tw13845889707110734715:True:=⟨⟩
theorem tw13856007218876611637:True:=⟨⟩
theorem tw13911933718592831488:True:=⟨⟩
theorem tw13940971146147043017:True:=⟨⟩
theorem tw13958133979481834811:True:=⟨⟩
theorem tw13975321712708779426:True:=⟨⟩
theorem tw13984978045512602656:True:=⟨⟩
theorem tw14029400396955483993:True:=⟨⟩
theorem tw14057537998057457126:True:=⟨⟩
theorem tw14065147975478681861:True:=⟨⟩
theorem tw14080919606307612795:True:=⟨⟩
theorem tw14090284624843534012:True:=⟨⟩
theorem tw1409240892957474605:True:=⟨⟩
theorem tw14094033873170588889:True:=⟨⟩
theorem tw1410815023835447493:True:=⟨⟩
theorem tw14112500773789047929:True:=⟨⟩
theorem tw14123728232889109312:True:=⟨⟩
theorem tw14134611188585751515:True:=⟨⟩
theorem tw14157664480194127970:True:=⟨⟩
theorem tw14167316339524693020:True:=⟨⟩
theorem tw1419403027413075256:True:=⟨⟩
theorem tw14195937056651054290:True:=⟨⟩
theorem tw14199659173972667229:True:=⟨⟩
theorem tw14200731812667703294:True:=⟨⟩
theorem tw14228756165315520048:True:=⟨⟩
theorem tw14235153465294558684:True:=⟨⟩
theorem tw1423709841959520388:True:=⟨⟩
theorem tw142375755643004481:True:=⟨⟩
theorem tw14245841072856205057:True:=⟨⟩
theorem tw14253168372384955414:True:=⟨⟩
theorem tw14279464814440770139:True:=⟨⟩
theorem tw1430794861318486425:True:=⟨⟩
theorem tw1435363932654358078:True:=⟨⟩
theorem tw14375315343954543510:True:=⟨⟩
theorem tw14391864057915497020:True:=⟨⟩
theorem tw14391978649029770376:True:=⟨⟩
theorem tw14411736295395705860:True:=⟨⟩
theorem tw14411952301489071684:True:=⟨⟩
theorem tw14425641364391513741:True:=⟨⟩
theorem tw14459384545570845542:True:=⟨⟩
theorem tw14487205494033758817:True:=⟨⟩
theorem tw14493243370883887052:True:=⟨⟩
theorem tw14514360023573455160:True:=⟨⟩
theorem tw14520111865528174801:True:=⟨⟩
theorem tw14534075263330121420:True:=⟨⟩
theorem tw14576413178391726482:True:=⟨⟩
theorem tw14593514962356687487:True:=⟨⟩
theorem tw14637765126901004198:True:=⟨⟩
theorem tw14652758243702779989:True:=⟨⟩
theorem tw14662832351958114203:True:=⟨⟩
theorem tw14673823225115686495:True:=⟨⟩
theorem tw14679753563950771085:True:=⟨⟩
theorem tw14680447290981268330:True:=⟨⟩
theorem tw14704704979403286192:True:=⟨⟩
theorem tw14723204751656666458:True:=⟨⟩
theorem tw14787169094174933452:True:=⟨⟩
theorem tw14814295624323705103:True:=⟨⟩
theorem tw14828821192535809636:True:=⟨⟩
theorem tw1483703600205863000:True:=⟨⟩
theorem tw14845410097515284068:True:=⟨⟩
theorem tw14853454170649939156:True:=⟨⟩
theorem tw14856215841194099334:True:=⟨⟩
theorem tw14857773873074504199:True:=⟨⟩
theorem tw14862787970154046779:True:=⟨⟩
theorem tw14868281096933871192:True:=⟨⟩
theorem tw14935843178586815750:True:=⟨⟩
theorem tw14943922625844263641:True:=⟨⟩
theorem tw14945405948997911149:True:=⟨⟩
theorem tw14960709435214575033:True:=⟨⟩
theorem tw14973636881188272362:True:=⟨⟩
theorem tw15007926512950680305:True:=⟨⟩
theorem tw15018723447937720933:True:=⟨⟩
theorem tw1505296819307820381:True:=⟨⟩
theorem tw15067183332970474038:True:=⟨⟩
theorem tw15074612602993316752:True:=⟨⟩
theorem tw15079473669193709957:True:=⟨⟩
theorem tw15111608855523897046:True:=⟨⟩
theorem tw15141037882146429778:True:=⟨⟩
theorem tw15160948263118890712:True:=⟨⟩
theorem tw15169119885074824480:True:=⟨⟩
theorem tw15175702725025817822:True:=⟨⟩
theorem tw15187013617964603345:True:=⟨⟩
theorem tw15204096081922340476:True:=⟨⟩
theorem tw15219675738870888448:True:=⟨⟩
theorem tw15223181050374821564:True:=⟨⟩
theorem tw15239082396169913127:True:=⟨⟩
theorem tw15254637597496698767:True:=⟨⟩
theorem tw15257749027302553541:True:=⟨⟩
theorem tw15290608317823131711:True:=⟨⟩
theorem tw15300323468101140043:True:=⟨⟩
theorem tw15353966203992179643:True:=⟨⟩
theorem tw15361469836528342525:True:=⟨⟩
theorem tw1539195718961929116:True:=⟨⟩
theorem tw15451558095712562443:True:=⟨⟩
theorem tw15469579262412429014:True:=⟨⟩
theorem tw15503806450338990902:True:=⟨⟩
theorem tw15513809798380998443:True:=⟨⟩
theorem tw15520382468689126504:True:=⟨⟩
theorem tw15524921455744717637:True:=⟨⟩
theorem tw15553808177309318266:True:=⟨⟩
theorem tw15561073333537869799:True:=⟨⟩
theorem tw15601031927599387040:True:=⟨⟩
theorem tw15604787349532158321:True:=⟨⟩
theorem tw15612791224023175862:True:=⟨⟩
theorem tw15619591113834929905:True:=⟨⟩
theorem tw15658459868037123955:True:=⟨⟩
theorem tw15744578864873034466:True:=⟨⟩
theorem tw15745900028168698473:True:=⟨⟩
theorem tw15767694205139555878:True:=⟨⟩
theorem tw15776611262233273759:True:=⟨⟩
theorem tw15786326577014393000:True:=⟨⟩
theorem tw15791424808948733071:True:=⟨⟩
theorem tw15821690399380833692:True:=⟨⟩
theorem tw15850287631017358675:True:=⟨⟩
theorem tw15879366990074395724:True:=⟨⟩
theorem tw15938921103529821708:True:=⟨⟩
theorem tw15939165717265411209:True:=⟨⟩
theorem tw15979116043502714870:True:=⟨⟩
theorem tw16018558972641457165:True:=⟨⟩
theorem tw16020721531310485910:True:=⟨⟩
theorem tw16026974257265610781:True:=⟨⟩
theorem tw16094758796282846156:True:=⟨⟩
theorem tw16154581009338284539:True:=⟨⟩
theorem tw16155037675158454409:True:=⟨⟩
theorem tw16159178027466875517:True:=⟨⟩
theorem tw16175360209314899482:True:=⟨⟩
theorem tw16218090545206126016:True:=⟨⟩
theorem tw16245446792400504653:True:=⟨⟩
theorem tw16318835315223734124:True:=⟨⟩
theorem tw16344095203942803975:True:=⟨⟩
theorem tw16351891293216295377:True:=⟨⟩
theorem tw16357456468285817558:True:=⟨⟩
theorem tw16366208203411429237:True:=⟨⟩
theorem tw1636719996339344710:True:=⟨⟩
theorem tw16409134777406192057:True:=⟨⟩
theorem tw16412459980232881978:True:=⟨⟩
theorem tw16428209966961068769:True:=⟨⟩
theorem tw16439710714252052537:True:=⟨⟩
theorem tw16559901936756804053:True:=⟨⟩
theorem tw16584394425786833500:True:=⟨⟩
theorem tw16590740802817310881:True:=⟨⟩
theorem tw16627069878571791712:True:=⟨⟩
theorem tw1665339017790520373:True:=⟨⟩
theorem tw16660674393151564732:True:=⟨⟩
theorem tw16762732078636230493:True:=⟨⟩
theorem tw1679316626617400862:True:=⟨⟩
theorem tw1681208942326508484:True:=⟨⟩
theorem tw16816873025362805923:True:=⟨⟩
theorem tw16857708923688184143:True:=⟨⟩
theorem tw16898900312656836714:True:=⟨⟩
theorem tw16901351431876846743:True:=⟨⟩
theorem tw16946087280772392357:True:=⟨⟩
theorem tw16960861919702097833:True:=⟨⟩
theorem tw17050819358493045149:True:=⟨⟩
theorem tw17050967512599810967:True:=⟨⟩
theorem tw17054480001032270120:True:=⟨⟩
theorem tw17060761345168717024:True:=⟨⟩
theorem tw17072581073842803215:True:=⟨⟩
theorem tw17082902993167422837:True:=⟨⟩
theorem tw17091208267875487117:True:=⟨⟩
theorem tw17174124994876252719:True:=⟨⟩
theorem tw1718320034732547655:True:=⟨⟩
theorem tw1722793283344245339:True:=⟨⟩
theorem tw17228372320367207244:True:=⟨⟩
theorem tw17239224026390302034:True:=⟨⟩
theorem tw1725517458046095586:True:=⟨⟩
theorem tw17276535193877938609:True:=⟨⟩
theorem tw17285463540518988576:True:=⟨⟩
theorem tw17318398451503679604:True:=⟨⟩
theorem tw1732311017788377034:True:=⟨⟩
theorem tw17368355563223721209:True:=⟨⟩
theorem tw17408759739971153571:True:=⟨⟩
theorem tw17444696912548571731:True:=⟨⟩
theorem tw17448913125491879744:True:=⟨⟩
theorem tw17505914881156518053:True:=⟨⟩
theorem tw1755113369079405865:True:=⟨⟩
theorem tw17559099722165389023:True:=⟨⟩
theorem tw17598120606862501896:True:=⟨⟩
theorem tw17612722552693257478:True:=⟨⟩
theorem tw17613712605773931750:True:=⟨⟩
theorem tw17634840898153545223:True:=⟨⟩
theorem tw17657088171553801151:True:=⟨⟩
theorem tw17677476868792442266:True:=⟨⟩
theorem tw17703418440978913607:True:=⟨⟩
theorem tw17727075974086512497:True:=⟨⟩
theorem tw1772750327502089463:True:=⟨⟩
theorem tw17812493635910264684:True:=⟨⟩
theorem tw17815848300333587018:True:=⟨⟩
theorem tw1782246086613040110:True:=⟨⟩
theorem tw17829927507403113854:True:=⟨⟩
theorem tw17841254638940746088:True:=⟨⟩
theorem tw17853436901821904770:True:=⟨⟩
theorem tw17886214165457584203:True:=⟨⟩
theorem tw17907417164286536431:True:=⟨⟩
theorem tw17947650081099583062:True:=⟨⟩
theorem tw17955722463110085121:True:=⟨⟩
theorem tw1796359304119270084:True:=⟨⟩
theorem tw18005694069376067625:True:=⟨⟩
theorem tw18029193178949866363:True:=⟨⟩
theorem tw18040946623434538020:True:=⟨⟩
theorem tw1804326925233347848:True:=⟨⟩
theorem tw18077875576357632492:True:=⟨⟩
theorem tw18093458025247409569:True:=⟨⟩
theorem tw18095267294499867914:True:=⟨⟩
theorem tw18149638687597535871:True:=⟨⟩
theorem tw18152056702302302161:True:=⟨⟩
theorem tw18173394687760788305:True:=⟨⟩
theorem tw18177594327629351551:True:=⟨⟩
theorem tw18219402109148642619:True:=⟨⟩
theorem tw18230576055144201804:True:=⟨⟩
theorem tw18252302042695562691:True:=⟨⟩
theorem tw18253851087547827195:True:=⟨⟩
theorem tw18265476554566796220:True:=⟨⟩
theorem tw18311043842248056926:True:=⟨⟩
theorem tw18325236286138268555:True:=⟨⟩
theorem tw1837114391391287503:True:=⟨⟩
theorem tw18374599947849236610:True:=⟨⟩
theorem tw18382089596120844481:True:=⟨⟩
theorem tw1838461633271971067:True:=⟨⟩
theorem tw18390780855811236532:True:=⟨⟩
theorem tw1856290471609781436:True:=⟨⟩
theorem tw1860479008972712238:True:=⟨⟩
theorem tw1882352913464870234:True:=⟨⟩
theorem tw1900895857295268861:True:=⟨⟩
theorem tw1910138573828540581:True:=⟨⟩
theorem tw1929997647796957580:True:=⟨⟩
theorem tw1956982688158005759:True:=⟨⟩
theorem tw199569572683273973:True:=⟨⟩
theorem tw2083552918123270120:True:=⟨⟩
theorem tw2097529653755612904:True:=⟨⟩
theorem tw210690588595147332:True:=⟨⟩
theorem tw2122743760077456797:True:=⟨⟩
theorem tw2128930602826773077:True:=⟨⟩
theorem tw2149625344923340646:True:=⟨⟩
theorem tw2189421632896008012:True:=⟨⟩
theorem tw2211380178833565526:True:=⟨⟩
theorem tw2239222731426787892:True:=⟨⟩
theorem tw2246388209021219563:True:=⟨⟩
theorem tw2258322343698791001:True:=⟨⟩
theorem tw2258675633463133593:True:=⟨⟩
theorem tw2265845134991336993:True:=⟨⟩
theorem tw2310481452151030058:True:=⟨⟩
theorem tw2350963302743552295:True:=⟨⟩
theorem tw2384017588694618654:True:=⟨⟩
theorem tw2401886296937424150:True:=⟨⟩
theorem tw2431760594883233531:True:=⟨⟩
theorem tw2471262208556160038:True:=⟨⟩
theorem tw2477017423211238262:True:=⟨⟩
theorem tw2529745946275782953:True:=⟨⟩
theorem tw2537377519424967478:True:=⟨⟩
theorem tw2556479583749255539:True:=⟨⟩
theorem tw256468434365995004:True:=⟨⟩
theorem tw2576537691594010038:True:=⟨⟩
theorem tw2591400441677678396:True:=⟨⟩
theorem tw259544403885938629:True:=⟨⟩
theorem tw2603793991428441298:True:=⟨⟩
theorem tw2645026697880269132:True:=⟨⟩
theorem tw2667712960216837816:True:=⟨⟩
theorem tw2681815565206431044:True:=⟨⟩
theorem tw2725660190689437964:True:=⟨⟩
theorem tw2763081411878813607:True:=⟨⟩
theorem tw2771800672925583205:True:=⟨⟩
theorem tw278394367503426354:True:=⟨⟩
theorem tw2804832475115389926:True:=⟨⟩
theorem tw2843829827187342837:True:=⟨⟩
theorem tw2890380405016416029:True:=⟨⟩
theorem tw2904632019388951045:True:=⟨⟩
theorem tw2935241727725473609:True:=⟨⟩
theorem tw2980792197317895485:True:=⟨⟩
theorem tw2989239706571971703:True:=⟨⟩
theorem tw3004930940542117210:True:=⟨⟩
theorem tw3010402746268795332:True:=⟨⟩
theorem tw3031738057500757702:True:=⟨⟩
theorem tw3055044009165241736:True:=⟨⟩
theorem tw3068562817927895513:True:=⟨⟩
theorem tw3091763669409543635:True:=⟨⟩
theorem tw3113104768000134265:True:=⟨⟩
theorem tw3146902687352644055:True:=⟨⟩
theorem tw3163964177429051819:True:=⟨⟩
theorem tw3181689731554777601:True:=⟨⟩
theorem tw320911283118862517:True:=⟨⟩
theorem tw3214094716067916737:True:=⟨⟩
theorem tw3231139900080418078:True:=⟨⟩
theorem tw3242746158276869740:True:=⟨⟩
theorem tw3266375772177960205:True:=⟨⟩
theorem tw3291250848648351168:True:=⟨⟩
theorem tw3293526082473448439:True:=⟨⟩
theorem tw3351162457328362099:True:=⟨⟩
theorem tw3373230832484183537:True:=⟨⟩
theorem tw3374153465935715347:True:=⟨⟩
theorem tw3387842715678053443:True:=⟨⟩
theorem tw3393212771704752526:True:=⟨⟩
theorem tw3417376551025619508:True:=⟨⟩
theorem tw3467354686950275807:True:=⟨⟩
theorem tw3471954769216125496:True:=⟨⟩
theorem tw3530637791436541188:True:=⟨⟩
theorem tw3594936091215153956:True:=⟨⟩
theorem tw3629119687869309781:True:=⟨⟩
theorem tw3629552594097284835:True:=⟨⟩
theorem tw3645339909781349820:True:=⟨⟩
theorem tw3649769119712569205:True:=⟨⟩
theorem tw3683265896952939038:True:=⟨⟩
theorem tw3746189567890301301:True:=⟨⟩
theorem tw3757303858981258072:True:=⟨⟩
theorem tw3772880487193183666:True:=⟨⟩
theorem tw3810702879824377822:True:=⟨⟩
theorem tw3872037242508446568:True:=⟨⟩
theorem tw3873335135917706896:True:=⟨⟩
theorem tw3919013561346086562:True:=⟨⟩
theorem tw3936664814081499182:True:=⟨⟩
theorem tw3946890185604088177:True:=⟨⟩
theorem tw4018307371552408626:True:=⟨⟩
theorem tw404589455710422564:True:=⟨⟩
theorem tw4082378702837874940:True:=⟨⟩
theorem tw4094438338117169744:True:=⟨⟩
theorem tw4100911475608620383:True:=⟨⟩
theorem tw4108790000610124266:True:=⟨⟩
theorem tw4126663103246551928:True:=⟨⟩
theorem tw4138286657855489150:True:=⟨⟩
theorem tw4142192488636669262:True:=⟨⟩
theorem tw4142279833493327390:True:=⟨⟩
theorem tw4161768810675347132:True:=⟨⟩
theorem tw427046413814184881:True:=⟨⟩
theorem tw4300402396595620718:True:=⟨⟩
theorem tw4362048541870834207:True:=⟨⟩
theorem tw4364721960853597970:True:=⟨⟩
theorem tw4382252646672647109:True:=⟨⟩
theorem tw4387662120683532982:True:=⟨⟩
theorem tw4390919687549119089:True:=⟨⟩
theorem tw4391590312977548305:True:=⟨⟩
theorem tw4397150551304238098:True:=⟨⟩
theorem tw4430831718498609952:True:=⟨⟩
theorem tw4434970401690326657:True:=⟨⟩
theorem tw4447034532517548033:True:=⟨⟩
theorem tw4505795719953908856:True:=⟨⟩
theorem tw4509449190804836202:True:=⟨⟩
theorem tw4515603511596420498:True:=⟨⟩
theorem tw4536113193292188719:True:=⟨⟩
theorem tw4536339863544709464:True:=⟨⟩
theorem tw4581116565657512570:True:=⟨⟩
theorem tw4621610978971450578:True:=⟨⟩
theorem tw4642929120620127409:True:=⟨⟩
theorem tw4654607128962757588:True:=⟨⟩
theorem tw4712523743285649281:True:=⟨⟩
theorem tw4722291711174814414:True:=⟨⟩
theorem tw4732048982233475841:True:=⟨⟩
theorem tw4795888679662852286:True:=⟨⟩
theorem tw4832506272633519567:True:=⟨⟩
theorem tw4871276480813670543:True:=⟨⟩
theorem tw4882551765675561785:True:=⟨⟩
theorem tw4917704186241290930:True:=⟨⟩
theorem tw4937673933858630250:True:=⟨⟩
theorem tw4990256871006090304:True:=⟨⟩
theorem tw5028242727254597392:True:=⟨⟩
theorem tw5082894052974571178:True:=⟨⟩
theorem tw5096359590844153878:True:=⟨⟩
theorem tw5131083636175950647:True:=⟨⟩
theorem tw5150599639781993304:True:=⟨⟩
theorem tw5161009314828479600:True:=⟨⟩
theorem tw5162539895961533052:True:=⟨⟩
theorem tw5176503261398882128:True:=⟨⟩
theorem tw5191141192176824695:True:=⟨⟩
theorem tw5197529403662257699:True:=⟨⟩
theorem tw5199815236882528404:True:=⟨⟩
theorem tw5260302455768884644:True:=⟨⟩
theorem tw5307819979113806407:True:=⟨⟩
theorem tw5320534377390933526:True:=⟨⟩
theorem tw5330882630901857615:True:=⟨⟩
theorem tw5336315302883859062:True:=⟨⟩
theorem tw5351029431593847699:True:=⟨⟩
theorem tw5354698612049114094:True:=⟨⟩
theorem tw5356647108576857756:True:=⟨⟩
theorem tw535965312421086911:True:=⟨⟩
theorem tw5362889190379695524:True:=⟨⟩
theorem tw5372401573803187089:True:=⟨⟩
theorem tw5374477039644706304:True:=⟨⟩
theorem tw5405920242178060872:True:=⟨⟩
theorem tw5472969406421530813:True:=⟨⟩
theorem tw5522750009849295449:True:=⟨⟩
theorem tw5545187456492869926:True:=⟨⟩
theorem tw55502737222213066:True:=⟨⟩
theorem tw5567859551813203782:True:=⟨⟩
theorem tw5585395443875113138:True:=⟨⟩
theorem tw5632373157850378241:True:=⟨⟩
theorem tw5665746982621449201:True:=⟨⟩
theorem tw5667142295647858541:True:=⟨⟩
theorem tw5688849780457757743:True:=⟨⟩
theorem tw5724864714503943280:True:=⟨⟩
theorem tw5772985144805225695:True:=⟨⟩
theorem tw5780962172954860549:True:=⟨⟩
theorem tw5800443112757964504:True:=⟨⟩
theorem tw5838675521020305655:True:=⟨⟩
theorem tw5839757468060434703:True:=⟨⟩
theorem tw5860930844759423352:True:=⟨⟩
theorem tw5875304160647670092:True:=⟨⟩
theorem tw5884065922493729515:True:=⟨⟩
theorem tw5949577866681516244:True:=⟨⟩
theorem tw5968734546019971539:True:=⟨⟩
theorem tw5983377626125962771:True:=⟨⟩
theorem tw6002418231063908988:True:=⟨⟩
theorem tw6014229134959454857:True:=⟨⟩
theorem tw6021796400982811229:True:=⟨⟩
theorem tw602957022233623044:True:=⟨⟩
theorem tw6034294073172276316:True:=⟨⟩
theorem tw607239164001178483:True:=⟨⟩
theorem tw6112473727968823042:True:=⟨⟩
theorem tw6139560914789683646:True:=⟨⟩
theorem tw6142906538707049237:True:=⟨⟩
theorem tw6165889110346488696:True:=⟨⟩
theorem tw6222190542078578277:True:=⟨⟩
theorem tw6222580994786312551:True:=⟨⟩
theorem tw6227299316475700923:True:=⟨⟩
theorem tw6245945993112688738:True:=⟨⟩
theorem tw6252175887956334440:True:=⟨⟩
theorem tw6265118645226930730:True:=⟨⟩
theorem tw6283970619255008959:True:=⟨⟩
theorem tw6296953921603230901:True:=⟨⟩
theorem tw6299334943239519778:True:=⟨⟩
theorem tw631805426944758769:True:=⟨⟩
theorem tw6318893790425702217:True:=⟨⟩
theorem tw632105644467839473:True:=⟨⟩
theorem tw6348189063284435001:True:=⟨⟩
theorem tw6384069399553514834:True:=⟨⟩
theorem tw6392140940695024954:True:=⟨⟩
theorem tw641520616195121356:True:=⟨⟩
theorem tw6473423289514564371:True:=⟨⟩
theorem tw648884115783756433:True:=⟨⟩
theorem tw655138436775090318:True:=⟨⟩
theorem tw6564960254984977942:True:=⟨⟩
theorem tw6571940980089688034:True:=⟨⟩
theorem tw6586211466568768796:True:=⟨⟩
theorem tw6598788403754997370:True:=⟨⟩
theorem tw6611521241890415383:True:=⟨⟩
theorem tw6640443769089675055:True:=⟨⟩
theorem tw6673092999194001315:True:=⟨⟩
theorem tw6679005084686624228:True:=⟨⟩
theorem tw6690553113100375134:True:=⟨⟩
theorem tw6716873192108778550:True:=⟨⟩
theorem tw6749764571502861826:True:=⟨⟩
theorem tw6773373038355705292:True:=⟨⟩
theorem tw6773437590051727004:True:=⟨⟩
theorem tw6783207413674125321:True:=⟨⟩
theorem tw6784284818224064651:True:=⟨⟩
theorem tw6793221767161869032:True:=⟨⟩
theorem tw6841773470142664414:True:=⟨⟩
theorem tw6849309232262424691:True:=⟨⟩
theorem tw6850893621712242349:True:=⟨⟩
theorem tw6873462237677646847:True:=⟨⟩
theorem tw6882727473214366909:True:=⟨⟩
theorem tw6905213647611263208:True:=⟨⟩
theorem tw6932171780100881115:True:=⟨⟩
theorem tw6953960692236729472:True:=⟨⟩
theorem tw6963717859494419070:True:=⟨⟩
theorem tw69661440531901255:True:=⟨⟩
theorem tw6999673117630714093:True:=⟨⟩
theorem tw7039579123330305732:True:=⟨⟩
theorem tw7054954752721192602:True:=⟨⟩
theorem tw7067900209136602475:True:=⟨⟩
theorem tw7068721126599650913:True:=⟨⟩
theorem tw7082627036078073869:True:=⟨⟩
theorem tw7114882016527641170:True:=⟨⟩
theorem tw7167053014626701669:True:=⟨⟩
theorem tw7173208427466483722:True:=⟨⟩
theorem tw7192588513466682189:True:=⟨⟩
theorem tw7208417772949059873:True:=⟨⟩
theorem tw722233741094211657:True:=⟨⟩
theorem tw7226738352268706923:True:=⟨⟩
theorem tw7233920940779181892:True:=⟨⟩
theorem tw7253259136437976461:True:=⟨⟩
theorem tw7309689133169265775:True:=⟨⟩
theorem tw7350843097171767025:True:=⟨⟩
theorem tw7370268518585783156:True:=⟨⟩
theorem tw7402757355268500136:True:=⟨⟩
theorem tw7440558390359198960:True:=⟨⟩
theorem tw7456319310211393159:True:=⟨⟩
theorem tw7465394598297574237:True:=⟨⟩
theorem tw7505685058089392465:True:=⟨⟩
theorem tw752045660607393821:True:=⟨⟩
theorem tw7530442589983185708:True:=⟨⟩
theorem tw7535085400244385310:True:=⟨⟩
theorem tw7542815314885128531:True:=⟨⟩
theorem tw7576831235936000107:True:=⟨⟩
theorem tw7617633247505379818:True:=⟨⟩
theorem tw7641960777741614827:True:=⟨⟩
theorem tw766148585942931141:True:=⟨⟩
theorem tw766221535507586626:True:=⟨⟩
theorem tw7682510479595446584:True:=⟨⟩
theorem tw7733698129525322452:True:=⟨⟩
theorem tw7736342217877515692:True:=⟨⟩
theorem tw7789611488545689196:True:=⟨⟩
theorem tw7798265219190247690:True:=⟨⟩
theorem tw780992026182154625:True:=⟨⟩
theorem tw7834392511366670210:True:=⟨⟩
theorem tw7901143922158119781:True:=⟨⟩
theorem tw7915200478852826505:True:=⟨⟩
theorem tw7915435716206134868:True:=⟨⟩
theorem tw7921709028120933206:True:=⟨⟩
theorem tw7948652363117799992:True:=⟨⟩
theorem tw8018127404827513259:True:=⟨⟩
theorem tw8027080974473158025:True:=⟨⟩
theorem tw8058292054906110252:True:=⟨⟩
theorem tw8061936408217794804:True:=⟨⟩
theorem tw8071792813804386559:True:=⟨⟩
theorem tw8103266119737358779:True:=⟨⟩
theorem tw8108020951428812195:True:=⟨⟩
theorem tw8143292749023684724:True:=⟨⟩
theorem tw8164101775356625256:True:=⟨⟩
theorem tw8183289911422642052:True:=⟨⟩
theorem tw8191213385912941875:True:=⟨⟩
theorem tw8217128060025319273:True:=⟨⟩
theorem tw8271595172181798870:True:=⟨⟩
theorem tw827228643201520429:True:=⟨⟩
theorem tw8283704087543726487:True:=⟨⟩
theorem tw8288796763818574960:True:=⟨⟩
theorem tw8313517358792173118:True:=⟨⟩
theorem tw8339358156470457606:True:=⟨⟩
theorem tw8354208466411867982:True:=⟨⟩
theorem tw8461083041402916332:True:=⟨⟩
theorem tw8472195759009986976:True:=⟨⟩
theorem tw8475332176530640278:True:=⟨⟩
theorem tw8476214085267873289:True:=⟨⟩
theorem tw8476450568368273116:True:=⟨⟩
theorem tw8489433433055913096:True:=⟨⟩
theorem tw8509384753808624427:True:=⟨⟩
theorem tw8517951984620903632:True:=⟨⟩
theorem tw8530157843808411101:True:=⟨⟩
theorem tw8538390829228869972:True:=⟨⟩
theorem tw8547321730077591579:True:=⟨⟩
theorem tw8563313077582136772:True:=⟨⟩
theorem tw8564408656699258669:True:=⟨⟩
theorem tw8572034813889520435:True:=⟨⟩
theorem tw8586340664856672201:True:=⟨⟩
theorem tw8633313968254012999:True:=⟨⟩
theorem tw86569666628659866:True:=⟨⟩
theorem tw8675535904472802961:True:=⟨⟩
theorem tw8676577424630100276:True:=⟨⟩
theorem tw8691654315482841775:True:=⟨⟩
theorem tw8697437345487936330:True:=⟨⟩
theorem tw8703987299085568742:True:=⟨⟩
theorem tw8732330829906579809:True:=⟨⟩
theorem tw8764831236109197411:True:=⟨⟩
theorem tw8793060744964455439:True:=⟨⟩
theorem tw8812782290124923251:True:=⟨⟩
theorem tw8830179910149870330:True:=⟨⟩
theorem tw8889816105290026256:True:=⟨⟩
theorem tw8915190083478396059:True:=⟨⟩
theorem tw8921055269811246804:True:=⟨⟩
theorem tw8928236208049915827:True:=⟨⟩
theorem tw8934684260724466082:True:=⟨⟩
theorem tw9070320228072582908:True:=⟨⟩
theorem tw9091593429239882178:True:=⟨⟩
theorem tw9101157241849007766:True:=⟨⟩
theorem tw9133165007155935665:True:=⟨⟩
theorem tw913683600122966413:True:=⟨⟩
theorem tw9149599289863891395:True:=⟨⟩
theorem tw9190767959756058878:True:=⟨⟩
theorem tw9211514688435146957:True:=⟨⟩
theorem tw9216304009388079292:True:=⟨⟩
theorem tw9257226936312402774:True:=⟨⟩
theorem tw9263492823371270252:True:=⟨⟩
theorem tw9270535017101540792:True:=⟨⟩
theorem tw9287713210395479247:True:=⟨⟩
theorem tw9299738680862869391:True:=⟨⟩
theorem tw9301502111170909581:True:=⟨⟩
theorem tw9316146803976665716:True:=⟨⟩
theorem tw9319161474317058442:True:=⟨⟩
theorem tw9321670703610196913:True:=⟨⟩
theorem tw93447132125540719:True:=⟨⟩
theorem tw9413556318163073090:True:=⟨⟩
theorem tw9414361153095979666:True:=⟨⟩
theorem tw9427687332396683029:True:=⟨⟩
theorem tw9428502419526572583:True:=⟨⟩
theorem tw9428765986603012691:True:=⟨⟩
theorem tw9433650103000576790:True:=⟨⟩
theorem tw9446489209651009998:True:=⟨⟩
theorem tw9456895563046742298:True:=⟨⟩
theorem tw9478247677582655843:True:=⟨⟩
theorem tw9486229368547210204:True:=⟨⟩
theorem tw9500272598278695553:True:=⟨⟩
theorem tw9514705683598088755:True:=⟨⟩
theorem tw9519117429261136888:True:=⟨⟩
theorem tw9520903628012835075:True:=⟨⟩
theorem tw952723174812299495:True:=⟨⟩
theorem tw9546393048163393116:True:=⟨⟩
theorem tw9549592038758667097:True:=⟨⟩
theorem tw9566210322203163906:True:=⟨⟩
theorem tw9577625658756715483:True:=⟨⟩
theorem tw9592366428595839502:True:=⟨⟩
theorem tw9594902059834200345:True:=⟨⟩
theorem tw9607200148161081006:True:=⟨⟩
theorem tw9621996332804155265:True:=⟨⟩
theorem tw9709063720089244111:True:=⟨⟩
theorem tw9710303396836059036:True:=⟨⟩
theorem tw9726247649304866488:True:=⟨⟩
theorem tw9741815432880229999:True:=⟨⟩
theorem tw9743721821355938761:True:=⟨⟩
theorem tw9781061951584216813:True:=⟨⟩
theorem tw9825077781732094247:True:=⟨⟩
theorem tw9887640361982760899:True:=⟨⟩
theorem tw9890984926054042287:True:=⟨⟩
theorem tw9906880710175003280:True:=⟨⟩
theorem tw9916445539621720002:True:=⟨⟩
theorem tw994125257405279226:True:=⟨⟩
theorem tw9941361192112467023:True:=⟨⟩
theorem tw9957717561233212482:True:=⟨⟩
theorem tw9993304564819863411:True:=⟨⟩
end entry
end Mine
end
section
open PySem PySem.W PyProof.Rows PySem.Calls
namespace Mine
inductive AV where
  | none | bool (b : Bool) | int (i : Int) | str (x : Str) | ref (a : Addr) | blt (id : String) | typ (n : String)
  | tup (xs : List AV) | lst (xs : List AV) | dct (es : List (Str × AV))
inductive Cell where
  | list (xs : List AV)
  | dict (es : List (Str × AV))
  | inst (C d : Addr)
  | exc (C : Addr) (d : Option Addr) (tr : Bool)
  | ns (es : List (Str × AV))
noncomputable abbrev AH := Addr → Option Cell
noncomputable def AH.put (H : AH) (a : Addr) (c : Option Cell) : AH := fun b => if b = a then c else H b
structure BC where
  prog : Program
  w : World
  K : Frag
  base : Heap
  gens : Array GenState
  os : OsState
  mg : Str → Option Value
  mb : Str → Option Value
  hK : K.In base
  hg : base.Ns mainGlobals mg
  hb : base.Ns builtinsNs mb
  hl : base.NoLimit
  low : sysModules < base.objs.size
  hbb : ∀ x : Str, x ≠ "__name__" → mb x = bootBuiltins x
noncomputable def LstAt (h : Heap) (a : Addr) (items : List Value) : Prop := ∃ n, h.get? a = some (listOf items.toArray n)
theorem LstAt.isList {h : Heap} {a : Addr} {items : List Value} (x : LstAt h a items) : h.IsList a items.toArray := let ⟨n, e⟩ := x; ⟨_, e, rfl, n, rfl⟩
section
variable (prog : Program) (w : World) (P : Addr → Prop) (h : Heap)
mutual
inductive VR : AV → Value → Prop
  | none : VR .none .none
  | bool (b : Bool) : VR (.bool b) (.bool b)
  | int (i : Int) (t : Tok) : VR (.int i) (.int i t)
  | str (x : Str) (t : Tok) : VR (.str x) (.str x t)
  | ref (a : Addr) : VR (.ref a) (.ref a)
  | blt (i : String) : VR (.blt i) (.builtin i)
  | typ (n : String) : VR (.typ n) (.type n)
  | tup {a : Addr} {items : List Value} {xs : List AV} : IsTup h a items.toArray → ¬ P a → VRs xs items → VR (.tup xs) (.ref a)
  | lst {a : Addr} {items : List Value} {xs : List AV} : LstAt h a items → ¬ P a → VRs xs items → VR (.lst xs) (.ref a)
  | dct {a : Addr} {kvs : List (Str × Value)} {es : List (Str × AV)} : h.DictOf (strKind prog w) a kvs → ¬ P a → a ≠ sysModules → VRd es kvs → VR (.dct es) (.ref a)
inductive VRs : List AV → List Value → Prop
  | nil : VRs [] []
  | cons {x : AV} {v : Value} {xs : List AV} {vs : List Value} : VR x v → VRs xs vs → VRs (x :: xs) (v :: vs)
inductive VRd : List (Str × AV) → List (Str × Value) → Prop
  | nil : VRd [] []
  | cons {k : Str} {x : AV} {v : Value} {es : List (Str × AV)} {kvs : List (Str × Value)} : VR x v → VRd es kvs → VRd ((k, x) :: es) ((k, v) :: kvs)
end
end
noncomputable def TbOk (o : Obj) : Prop := o.cls = .type "traceback" ∧ ∃ vs, o.data = .fields vs ∧ 4 ≤ vs.size
structure Kp (P : Addr → Prop) (h : Heap) (P' : Addr → Prop) (h' : Heap) : Prop where
  keep : ∀ a o, h.get? a = some o → ¬ P a → h'.get? a = some o ∨ (TbOk o ∧ ∃ o', h'.get? a = some o' ∧ TbOk o')
  dom : ∀ a o, h.get? a = some o → ¬ P a → ¬ P' a
structure Step (P : Addr → Prop) (F G : List Addr) (h : Heap) (P' : Addr → Prop) (h' : Heap) : Prop where
  keep : ∀ a o, h.get? a = some o → ¬ P a → h'.get? a = some o ∨ (TbOk o ∧ ∃ o', h'.get? a = some o' ∧ TbOk o')
  fr : ∀ a ∈ F, ∀ o, h.get? a = some o → ∃ sl, h'.get? a = some { o with slots := sl }
  hid : ∀ a ∈ G, ∀ o, h.get? a = some o → h'.get? a = some o
  dom : ∀ a o, h.get? a = some o → ¬ P a → ¬ P' a
  alive : ∀ a o, h.get? a = some o → ∃ o', h'.get? a = some o'
theorem Step.kp {P P' : Addr → Prop} {F G : List Addr} {h h' : Heap} (x : Step P F G h P' h') : Kp P h P' h' := ⟨x.keep, x.dom⟩
theorem Step.refl {P : Addr → Prop} {F G : List Addr} {h : Heap} : Step P F G h P h :=
  ⟨fun _ _ e _ => .inl e, fun _ _ o e => ⟨o.slots, e⟩, fun _ _ _ e => e, fun _ _ _ n => n, fun _ o e => ⟨o, e⟩⟩
theorem Step.trans {P P' P'' : Addr → Prop} {F G : List Addr} {h h' h'' : Heap} (x : Step P F G h P' h') (y : Step P' F G h' P'' h'') : Step P F G h P'' h'' := by
  refine ⟨fun a o e n => ?_, fun a m o e => ?_, fun a m o e => y.hid a m o (x.hid a m o e), fun a o e n => let ⟨o', e'⟩ := x.alive a o e; y.dom a o' e' (x.dom a o e n), fun a o e => let ⟨o', e'⟩ := x.alive a o e; y.alive a o' e'⟩
  · have n' := x.dom a o e n
    rcases x.keep a o e n with q | ⟨t, o', q, t'⟩
    · exact y.keep a o q n'
    · rcases y.keep a o' q n' with r | ⟨_, o'', r, t''⟩
      · exact .inr ⟨t, o', r, t'⟩
      · exact .inr ⟨t, o'', r, t''⟩
  · obtain ⟨sl, q⟩ := x.fr a m o e
    obtain ⟨sl', r⟩ := y.fr a m _ q
    exact ⟨sl', r⟩
section
variable {prog : Program} {w : World} {P P' : Addr → Prop} {F G : List Addr} {h h' : Heap}
theorem Kp.at (x : Kp P h P' h') {a : Addr} {o : Obj} (e : h.get? a = some o) (n : ¬ P a) (ht : o.cls ≠ .type "traceback") : h'.get? a = some o := by
  rcases x.keep a o e n with q | ⟨t, _⟩
  · exact q
  · exact absurd t.1 ht
theorem isList_step (x : Kp P h P' h') {a : Addr} {items : List Value} (e : LstAt h a items) (n : ¬ P a) : LstAt h' a items := by
  obtain ⟨k, ho⟩ := e
  exact ⟨k, x.at ho n (by show Value.type "list" ≠ Value.type "traceback"; decide)⟩
theorem isList_dom (x : Kp P h P' h') {a : Addr} {items : List Value} (e : LstAt h a items) (n : ¬ P a) : ¬ P' a := let ⟨_, ho⟩ := e; x.dom _ _ ho n
theorem VR.map (m : ∀ a o, h.get? a = some o → o.cls = .type "tuple" ∨ o.cls = .type "list" ∨ o.cls = .type "dict" → ¬ P a → h'.get? a = some o ∧ ¬ P' a) {v : AV} {r : Value} (q : VR prog w P h v r) : VR prog w P' h' v r :=
  VR.rec (motive_1 := fun v r _ => VR prog w P' h' v r) (motive_2 := fun v r _ => VRs prog w P' h' v r) (motive_3 := fun v r _ => VRd prog w P' h' v r)
    .none .bool .int .str .ref .blt .typ
    (fun ⟨o, ho, hc, r⟩ n _ q => have x := m _ o ho (.inl hc) n; .tup ⟨o, x.1, hc, r⟩ x.2 q)
    (fun ⟨k, ho⟩ n _ q => have x := m _ _ ho (.inr (.inl rfl)) n; .lst ⟨k, x.1⟩ x.2 q)
    (fun ⟨o, es, ep, ho, hc, r⟩ n z _ q => have x := m _ o ho (.inr (.inr hc.1)) n; .dct ⟨o, es, ep, x.1, hc, r⟩ x.2 z q)
    .nil (fun _ _ a b => .cons a b) .nil (fun _ _ a b => .cons a b) q
section
variable {C : Value → Prop} {D : List Value → Prop} {r : Value} {rs : List Value}
@[elab_as_elim] theorem VR.eNone (q : VR prog w P h .none r) (k : C .none) : C r := by cases q; exact k
@[elab_as_elim] theorem VR.eBool {b : Bool} (q : VR prog w P h (.bool b) r) (k : C (.bool b)) : C r := by cases q; exact k
@[elab_as_elim] theorem VR.eInt {i : Int} (q : VR prog w P h (.int i) r) (k : ∀ t, C (.int i t)) : C r := by cases q; exact k _
@[elab_as_elim] theorem VR.eStr {x : Str} (q : VR prog w P h (.str x) r) (k : ∀ t, C (.str x t)) : C r := by cases q; exact k _
@[elab_as_elim] theorem VR.eRef {a : Addr} (q : VR prog w P h (.ref a) r) (k : C (.ref a)) : C r := by cases q; exact k
@[elab_as_elim] theorem VR.eBlt {i : String} (q : VR prog w P h (.blt i) r) (k : C (.builtin i)) : C r := by cases q; exact k
@[elab_as_elim] theorem VR.eTyp {i : String} (q : VR prog w P h (.typ i) r) (k : C (.type i)) : C r := by cases q; exact k
@[elab_as_elim] theorem VR.eTup {xs : List AV} (q : VR prog w P h (.tup xs) r) (k : ∀ a items, IsTup h a items.toArray → ¬ P a → VRs prog w P h xs items → C (.ref a)) : C r := by cases q with | tup a b c => exact k _ _ a b c
@[elab_as_elim] theorem VR.eLst {xs : List AV} (q : VR prog w P h (.lst xs) r) (k : ∀ a items, LstAt h a items → ¬ P a → VRs prog w P h xs items → C (.ref a)) : C r := by cases q with | lst a b c => exact k _ _ a b c
@[elab_as_elim] theorem VR.eDct {es : List (Str × AV)} (q : VR prog w P h (.dct es) r) (k : ∀ a kvs, h.DictOf (strKind prog w) a kvs → ¬ P a → a ≠ sysModules → VRd prog w P h es kvs → C (.ref a)) : C r := by cases q with | dct a b c d => exact k _ _ a b c d
@[elab_as_elim] theorem VRs.e0 (q : VRs prog w P h [] rs) (k : D []) : D rs := by cases q; exact k
@[elab_as_elim] theorem VRs.ec {x : AV} {xs : List AV} (q : VRs prog w P h (x :: xs) rs) (k : ∀ v vs, VR prog w P h x v → VRs prog w P h xs vs → D (v :: vs)) : D rs := by cases q with | cons a b => exact k _ _ a b
@[elab_as_elim] theorem VRs.e1 {x : AV} (q : VRs prog w P h [x] rs) (k : ∀ v, VR prog w P h x v → D [v]) : D rs := q.ec fun v _ a b => b.e0 (D := fun vs => D (v :: vs)) (k v a)
@[elab_as_elim] theorem VRs.e2 {x y : AV} (q : VRs prog w P h [x, y] rs) (k : ∀ u v, VR prog w P h x u → VR prog w P h y v → D [u, v]) : D rs := q.ec fun u _ a b => b.e1 (D := fun vs => D (u :: vs)) fun v c => k u v a c
@[elab_as_elim] theorem VRd.e0 {D : List (Str × Value) → Prop} {kvs : List (Str × Value)} (q : VRd prog w P h [] kvs) (k : D []) : D kvs := by cases q; exact k
@[elab_as_elim] theorem VRd.ec {D : List (Str × Value) → Prop} {kvs : List (Str × Value)} {y : Str} {x : AV} {es : List (Str × AV)} (q : VRd prog w P h ((y, x) :: es) kvs) (k : ∀ v r, VR prog w P h x v → VRd prog w P h es r → D ((y, v) :: r)) : D kvs := by cases q with | cons a b => exact k _ _ a b
end
theorem VRs.imp (m : ∀ v r, VR prog w P h v r → VR prog w P' h' v r) {xs : List AV} : ∀ {vs : List Value}, VRs prog w P h xs vs → VRs prog w P' h' xs vs := by
  induction xs with
  | nil => exact fun q => q.e0 .nil
  | cons x xs ih => exact fun q => q.ec fun v vs a b => .cons (m _ _ a) (ih b)
theorem VRd.imp (m : ∀ v r, VR prog w P h v r → VR prog w P' h' v r) {es : List (Str × AV)} : ∀ {kvs : List (Str × Value)}, VRd prog w P h es kvs → VRd prog w P' h' es kvs := by
  induction es with
  | nil => exact fun q => q.e0 .nil
  | cons p es ih => exact fun q => q.ec fun v vs a b => .cons (m _ _ a) (ih b)
theorem VR.kp (x : Kp P h P' h') {v : AV} {r : Value} (q : VR prog w P h v r) : VR prog w P' h' v r := q.map fun a o e hc n => ⟨x.at e n (by rcases hc with e | e | e <;> rw [e] <;> decide), x.dom a o e n⟩
theorem VRs.kp (x : Kp P h P' h') {v : List AV} {r : List Value} (q : VRs prog w P h v r) : VRs prog w P' h' v r := q.imp fun _ _ => VR.kp x
theorem VRd.kp (x : Kp P h P' h') {v : List (Str × AV)} {r : List (Str × Value)} (q : VRd prog w P h v r) : VRd prog w P' h' v r := q.imp fun _ _ => VR.kp x
theorem Step.at (x : Step P F G h P' h') {a : Addr} {o : Obj} (e : h.get? a = some o) (n : ¬ P a) (ht : o.cls ≠ .type "traceback") : h'.get? a = some o := x.kp.at e n ht
theorem VR.step (x : Step P F G h P' h') {v : AV} {r : Value} (q : VR prog w P h v r) : VR prog w P' h' v r := q.kp x.kp
theorem VRs.step (x : Step P F G h P' h') {v : List AV} {r : List Value} (q : VRs prog w P h v r) : VRs prog w P' h' v r := q.kp x.kp
theorem VRd.step (x : Step P F G h P' h') {v : List (Str × AV)} {r : List (Str × Value)} (q : VRd prog w P h v r) : VRd prog w P' h' v r := q.kp x.kp
end
end Mine
end
section
open PySem PySem.W PyProof.Rows PySem.Calls
namespace Mine
noncomputable def frs (Fs : List Env) : List Addr := Fs.filterMap (·.frame)
noncomputable def dm (Fs : List Env) (G : List Addr) (H : AH) (a : Addr) : Prop := H a ≠ none ∨ a ∈ frs Fs ∨ a ∈ G
noncomputable def TbAt (base : Heap) (P : Addr → Prop) (h : Heap) (T : Addr) : Prop := (∃ o, h.get? T = some o ∧ TbOk o) ∧ base.get? T = none ∧ ¬ P T
noncomputable def Real (B : BC) (P : Addr → Prop) (h : Heap) (a : Addr) : Cell → Prop
  | .list xs => ∃ items : List Value, LstAt h a items ∧ VRs B.prog B.w P h xs items
  | .dict es => a ≠ sysModules ∧ es.length ≤ 1000 ∧ ∃ kvs, h.DictOf (strKind B.prog B.w) a kvs ∧ VRd B.prog B.w P h es kvs
  | .inst C d => h.get? a = some (instObj C d)
  | .ns es => (es.map (·.1)).Nodup ∧ es.length ≤ 1000 ∧ ∃ kvs : List (Str × Value), h.Ns1 a (fun y => kvs.lookup y) ∧ VRd B.prog B.w P h es kvs
  | .exc C d tr => ∃ vs : List Value, h.get? a = some ⟨.ref C, d, .fields vs.toArray, #[]⟩ ∧ vs.length = 6 ∧
      ((tr = false ∧ vs[1]? = some .none) ∨ (tr = true ∧ ∃ T, vs[1]? = some (.ref T) ∧ TbAt B.base P h T))
structure RH (B : BC) (Fs : List Env) (G : List Addr) (H : AH) (s : Shared) : Prop where
  base : B.base.StaysIn s.heap
  gens : s.gens = B.gens
  os : s.os = B.os
  cells : ∀ a c, H a = some c → Real B (dm Fs G H) s.heap a c
  nb : ∀ a, dm Fs G H a → B.base.get? a = none
  live : ∀ a, dm Fs G H a → ∃ o, s.heap.get? a = some o
  disj : ∀ a, a ∈ frs Fs ∨ a ∈ G → H a = none
  apart : ∀ a ∈ frs Fs, a ∉ G
  stk : s.heap.FunFrames B.base Fs
structure Fc where
  env : Env
  fenv : Env
  outer : List Env
  names : List Str
  L : Addr
  own : List Addr
  hid : List Addr
  gl : List (Str × AV)
noncomputable abbrev Fc.Fs (f : Fc) : List Env := f.fenv :: f.outer
noncomputable abbrev Fc.G (f : Fc) : List Addr := f.own ++ f.hid
structure St where
  loc : List (Option AV)
  H : AH
noncomputable def Fc.fr (f : Fc) : List Addr := if f.env.locals = f.L then frs f.outer else f.L :: frs f.outer
theorem cell_via {h h' : Heap} {c : Addr} {v : Option Value} (x : h.IsCell c v) (k : ∀ o, h.get? c = some o → h'.get? c = some o) : h'.IsCell c v := let ⟨o, ho, hd⟩ := x; ⟨o, k o ho, hd⟩
noncomputable def NameIs (f : Fc) (h : Heap) (x : Str) (rv : Value) : Prop :=
  (f.env.kindOf x = some .local ∧ ∃ m, h.Ns f.env.locals m ∧ m x = some rv) ∨
  ((f.env.kindOf x = some .cell ∨ f.env.kindOf x = some .free) ∧ ∃ c ∈ f.own, f.env.cells.lookup x = some c ∧ h.IsCell c (some rv))
structure FcOk (B : BC) (f : Fc) : Prop where
  kind : f.env.scope.kind = .function
  glob : f.env.globals = mainGlobals
  blt : f.env.builtins = builtinsNs
  fr : f.env.frame = some f.L
  ffr : f.fenv.frame = some f.L
  loc : f.env.locals = f.L ∨ f.env.locals ∈ f.own
  nd : f.names.Nodup
  nm : ∀ x ∈ f.names, (x == ("__debug__" : Str)) = false ∧ (x == ("__classdict__" : Str)) = false ∧ (f.env.kindOf x = some .local ∨ ((f.env.kindOf x = some .cell ∨ f.env.kindOf x = some .free) ∧ ∃ c ∈ f.own, c ≠ f.env.locals ∧ f.env.cells.lookup x = some c))
  lnew : f.L ∉ frs f.outer
  onh : ∀ a ∈ f.own, a ∉ f.hid
  inj : ∀ x y c, f.env.cells.lookup x = some c → f.env.cells.lookup y = some c → x = y
  gl : ∀ p ∈ f.gl, (p.1 == ("__debug__" : Str)) = false ∧ ((f.env.kindOf p.1 = some .globalImplicit ∧ ∃ rv, (∀ P h, VR B.prog B.w P h p.2 rv) ∧ (B.mg p.1 = some rv ∨ (B.mg p.1 = none ∧ B.mb p.1 = some rv))) ∨
    ((p.1 == ("__classdict__" : Str)) = false ∧ (f.env.kindOf p.1 = some .cell ∨ f.env.kindOf p.1 = some .free) ∧ ∃ c ∈ f.hid, f.env.cells.lookup p.1 = some c))
  frL : ∀ b ∈ f.fr, b ∈ frs f.Fs
noncomputable abbrev PP (f : Fc) (H : AH) : Addr → Prop := dm f.Fs f.G H
structure RS (B : BC) (f : Fc) (σ : St) (s : Shared) : Prop where
  rh : RH B f.Fs f.G σ.H s
  ok : FcOk B f
  ns : ∃ m, s.heap.Ns f.env.locals m
  cel : ∀ x c, x ∈ f.names → (f.env.kindOf x = some .cell ∨ f.env.kindOf x = some .free) → f.env.cells.lookup x = some c → ∃ o, s.heap.get? c = some o ∧ ∃ ov, o.data = .cell ov
  loc : ∀ (i : Nat) (x : Str) (v : AV), f.names[i]? = some x → σ.loc[i]? = some (some v) → ∃ rv, NameIs f s.heap x rv ∧ VR B.prog B.w (PP f σ.H) s.heap v rv
  cap : ∀ p ∈ f.gl, ∀ c ∈ f.hid, f.env.cells.lookup p.1 = some c → (f.env.kindOf p.1 = some .cell ∨ f.env.kindOf p.1 = some .free) → ∃ rv, s.heap.IsCell c (some rv) ∧ VR B.prog B.w (PP f σ.H) s.heap p.2 rv
structure AOk (f : Fc) (n : Nat) (hd : Option Value) (A : Around) : Prop where
  frames : A.frames = some f.Fs
  hd : A.handled = hd
  depth : A.depth + 4 * n ≤ 990
  units : A.units + 32 * n ≤ 9800
theorem up_le {a c k n m : Nat} (hc : c ≤ k) (h : a + k * (n + 1) ≤ m) : a + c + k * n ≤ m := by
  rw [Nat.mul_succ] at h
  rw [Nat.add_assoc, Nat.add_comm c]
  exact Nat.le_trans (Nat.add_le_add_left (Nat.add_le_add_left hc _) _) h
noncomputable abbrev SStep (f : Fc) (σ : St) (s : Shared) (σ' : St) (s' : Shared) : Prop :=
  Step (PP f σ.H) f.fr f.hid s.heap (PP f σ'.H) s'.heap
noncomputable abbrev RelT (α β : Type) := (P : Addr → Prop) → Heap → β → α → Prop
inductive OkP (B : BC) (f : Fc) {α β : Type} (R : RelT α β) (σ : St) (s : Shared) (Q : β → St → Prop) (r : α) (s' : Shared) : Prop
  | mk (v : β) (σ' : St) : RS B f σ' s' → SStep f σ s σ' s' → R (PP f σ'.H) s'.heap v r → Q v σ' → OkP B f R σ s Q r s'
inductive ErP (B : BC) (f : Fc) (σ : St) (s : Shared) (X : Addr → St → Prop) : Value → Shared → Prop
  | mk {s' : Shared} (a : Addr) (σ' : St) (C : Addr) (d : Option Addr) (tr : Bool) : RS B f σ' s' → SStep f σ s σ' s' → σ'.H a = some (.exc C d tr) → X a ⟨σ'.loc, σ'.H.put a (some (.exc C d true))⟩ → ErP B f σ s X (.ref a) s'
inductive ErT (B : BC) (f : Fc) (σ : St) (s : Shared) (X : Addr → St → Prop) : Value → Shared → Prop
  | mk {s' : Shared} (a : Addr) (σ' : St) (C : Addr) (d : Option Addr) : RS B f σ' s' → SStep f σ s σ' s' → σ'.H a = some (.exc C d true) → X a σ' → ErT B f σ s X (.ref a) s'
theorem OkP.back {B : BC} {f : Fc} {α β : Type} {R : RelT α β} {σ σ' : St} {s s' : Shared} {Q : β → St → Prop} (x : SStep f σ s σ' s') {r : α} {t : Shared} (y : OkP B f R σ' s' Q r t) : OkP B f R σ s Q r t := by
  obtain ⟨v, σ'', a, b, c, d⟩ := y
  exact ⟨v, σ'', a, x.trans b, c, d⟩
theorem ErP.back {B : BC} {f : Fc} {σ σ' : St} {s s' : Shared} {X : Addr → St → Prop} (x : SStep f σ s σ' s') {r : Value} {t : Shared} (y : ErP B f σ' s' X r t) : ErP B f σ s X r t := by
  obtain ⟨v, σ'', C, D, tr, b, c, d, e⟩ := y
  exact ⟨v, σ'', C, D, tr, b, x.trans c, d, e⟩
noncomputable def EX (B : BC) (f : Fc) (n : Nat) (hd : Option Value) {α β : Type} (R : RelT α β) (t : Sem α) (σ : St) (Q : β → St → Prop) (X : Addr → St → Prop) : Prop :=
  ∀ A s, AOk f n hd A → RS B f σ s → wpAny (model B.prog B.w) A t (OkP B f R σ s Q) (ErP B f σ s X) s
noncomputable abbrev vrel (B : BC) : RelT Value AV := fun P h v r => VR B.prog B.w P h v r
noncomputable abbrev vsrel (B : BC) : RelT (List Value) (List AV) := fun P h v r => VRs B.prog B.w P h v r
noncomputable abbrev idrel {α : Type} : RelT α α := fun _ _ v r => r = v
inductive AFlow where
  | next | brk | cont | ret (v : AV)
theorem ErP.no {B : BC} {f : Fc} {σ : St} {s : Shared} {r : Value} {t : Shared} (y : ErP B f σ s (fun _ _ => False) r t) : False := by obtain ⟨_, _, _, _, _, _, _, _, q⟩ := y; exact q
inductive frel (B : BC) (P : Addr → Prop) (h : Heap) : AFlow → Flow → Prop
  | next : frel B P h .next .next
  | brk : frel B P h .brk .brk
  | cont : frel B P h .cont .cont
  | ret {v : AV} {r : Value} : VR B.prog B.w P h v r → frel B P h (.ret v) (.ret r)
theorem frel.step {B : BC} {P P' : Addr → Prop} {F G : List Addr} {h h' : Heap} (x : Step P F G h P' h') {v : AFlow} {r : Flow} (q : frel B P h v r) : frel B P' h' v r := by
  cases q with
  | next => exact .next
  | brk => exact .brk
  | cont => exact .cont
  | ret q => exact .ret (q.step x)
noncomputable abbrev EV (B : BC) (f : Fc) (n : Nat) (hd : Option Value) (t : Sem Value) (σ : St) (Q : AV → St → Prop) (X : Addr → St → Prop) : Prop := EX B f n hd (vrel B) t σ Q X
noncomputable abbrev EB (B : BC) (f : Fc) (n : Nat) (hd : Option Value) (t : Sem Bool) (σ : St) (Q : Bool → St → Prop) (X : Addr → St → Prop) : Prop := EX B f n hd idrel t σ Q X
noncomputable abbrev EL (B : BC) (f : Fc) (n : Nat) (hd : Option Value) (t : Sem (List Value)) (σ : St) (Q : List AV → St → Prop) (X : Addr → St → Prop) : Prop := EX B f n hd (vsrel B) t σ Q X
noncomputable abbrev EF (B : BC) (f : Fc) (n : Nat) (hd : Option Value) (t : Sem Flow) (σ : St) (Q : AFlow → St → Prop) (X : Addr → St → Prop) : Prop := EX B f n hd (frel B) t σ Q X
noncomputable def EO1 (B : BC) (f : Fc) (n : Nat) (hd : Option Value) {α β : Type} (R : RelT α β) (a : AV) (t : Value → Sem α) (σ : St) (Q : β → St → Prop) (X : Addr → St → Prop) : Prop :=
  ∀ A s r, AOk f n hd A → RS B f σ s → VR B.prog B.w (PP f σ.H) s.heap a r → wpAny (model B.prog B.w) A (t r) (OkP B f R σ s Q) (ErP B f σ s X) s
noncomputable def EO2 (B : BC) (f : Fc) (n : Nat) (hd : Option Value) {α β : Type} (R : RelT α β) (a b : AV) (t : Value → Value → Sem α) (σ : St) (Q : β → St → Prop) (X : Addr → St → Prop) : Prop :=
  ∀ A s r q, AOk f n hd A → RS B f σ s → VR B.prog B.w (PP f σ.H) s.heap a r → VR B.prog B.w (PP f σ.H) s.heap b q → wpAny (model B.prog B.w) A (t r q) (OkP B f R σ s Q) (ErP B f σ s X) s
noncomputable def EO3 (B : BC) (f : Fc) (n : Nat) (hd : Option Value) {α β : Type} (R : RelT α β) (a b c : AV) (t : Value → Value → Value → Sem α) (σ : St) (Q : β → St → Prop) (X : Addr → St → Prop) : Prop :=
  ∀ A s r q u, AOk f n hd A → RS B f σ s → VR B.prog B.w (PP f σ.H) s.heap a r → VR B.prog B.w (PP f σ.H) s.heap b q → VR B.prog B.w (PP f σ.H) s.heap c u → wpAny (model B.prog B.w) A (t r q u) (OkP B f R σ s Q) (ErP B f σ s X) s
noncomputable def EO (B : BC) (f : Fc) (n : Nat) (hd : Option Value) {α β : Type} (R : RelT α β) (vs : List AV) (t : List Value → Sem α) (σ : St) (Q : β → St → Prop) (X : Addr → St → Prop) : Prop :=
  ∀ A s rs, AOk f n hd A → RS B f σ s → VRs B.prog B.w (PP f σ.H) s.heap vs rs → wpAny (model B.prog B.w) A (t rs) (OkP B f R σ s Q) (ErP B f σ s X) s
section
variable {B : BC} {f : Fc} {n : Nat} {hd : Option Value} {σ : St} {X : Addr → St → Prop}
theorem EX.imp {α β : Type} {R : RelT α β} {t : Sem α} {Q Q' : β → St → Prop} {X' : Addr → St → Prop} (h : EX B f n hd R t σ Q X) (hq : ∀ v σ', Q v σ' → Q' v σ') (hx : ∀ v σ', X v σ' → X' v σ') : EX B f n hd R t σ Q' X' :=
  fun A s hA hs => wpAny_mono (h A s hA hs) (fun _ _ q => by obtain ⟨v, σ', a, b, c, d⟩ := q; exact ⟨v, σ', a, b, c, hq _ _ d⟩) (fun _ _ q => by obtain ⟨v, σ', C, D, tr, b, c, e, d⟩ := q; exact ⟨v, σ', C, D, tr, b, c, e, hx _ _ d⟩)
end
end Mine
end
section
open PySem PySem.W PyProof.Rows PySem.Calls
namespace Mine
set_option tactic.hygienic true in
theorem AH.put_some {H : AH} {a b : Addr} {c c' : Cell} (e : H.put a (some c) b = some c') : (b = a ∧ c = c') ∨ (b ≠ a ∧ H b = some c') := by
  unfold AH.put at e
  split at e
  · rename_i q; exact .inl ⟨q, Option.some.inj e⟩
  · rename_i q; exact .inr ⟨q, e⟩
section
variable {B : BC} {f : Fc} {σ : St} {s : Shared} {h' : Heap} {tk : Nat} {a : Addr} {c c₀ : Cell}
theorem TbAt.kp {base : Heap} {P P' : Addr → Prop} {h : Heap} {T : Addr} (x : Kp P h P' h') : TbAt base P h T → TbAt base P' h' T := fun ⟨⟨o, ho, hT⟩, hb, hP⟩ =>
  ⟨(x.keep T o ho hP).elim (fun k => ⟨o, k, hT⟩) fun ⟨_, o', k, t⟩ => ⟨o', k, t⟩, hb, x.dom _ _ ho hP⟩
theorem Real.kp {P P' : Addr → Prop} {h : Heap} (x : Kp P h P' h') (e : ∀ o, h.get? a = some o → h'.get? a = some o) : Real B P h a c → Real B P' h' a c := by
  cases c with
  | list xs => rintro ⟨items, ⟨k, ho⟩, r⟩; exact ⟨items, ⟨k, e _ ho⟩, r.kp x⟩
  | dict es => rintro ⟨m, z, kvs, ⟨o, ds, ep, ho, q⟩, r⟩; exact ⟨m, z, kvs, ⟨o, ds, ep, e _ ho, q⟩, r.kp x⟩
  | inst C d => exact e _
  | ns es => rintro ⟨nd, nz, kvs, q, r⟩; exact ⟨nd, nz, kvs, q.at e, r.kp x⟩
  | exc C d tr =>
    rintro ⟨vs, q, l, r⟩
    exact ⟨vs, e _ q, l, r.imp id fun ⟨y, T, z, w⟩ => ⟨y, T, z, w.kp x⟩⟩
theorem Real.step {P P' : Addr → Prop} {F G : List Addr} {h : Heap} (x : Step P F G h P' h') (e : ∀ o, h.get? a = some o → h'.get? a = some o) (r : Real B P h a c) : Real B P' h' a c := r.kp x.kp e
theorem NameIs.keep {h : Heap} {x : Str} {rv : Value} (e : ∀ b, b = f.env.locals ∨ b ∈ f.own → ∀ o, h.get? b = some o → h'.get? b = some o) : NameIs f h x rv → NameIs f h' x rv := by
  rintro (⟨k, m, ⟨o, es, ep, ho, q⟩, v⟩ | ⟨k, d, hd, l, g⟩)
  · exact .inl ⟨k, m, ⟨o, es, ep, e _ (.inl rfl) _ ho, q⟩, v⟩
  · exact .inr ⟨k, d, hd, l, cell_via g (e _ (.inr hd))⟩
theorem RS.offCells (hs : RS B f σ s) {b : Addr} (hb : b = f.env.locals ∨ b ∈ f.own) : σ.H b = none := by
  refine hs.rh.disj b ?_
  rcases hb with rfl | hb
  · rcases hs.ok.loc with e | e
    · left; rw [e]; show f.L ∈ List.filterMap _ (f.fenv :: f.outer); rw [List.filterMap_cons, hs.ok.ffr]; exact .head _
    · right; exact List.mem_append_left _ e
  · right; exact List.mem_append_left _ hb
theorem base_none (hs : RS B f σ s) (hn : s.heap.get? a = none) : B.base.get? a = none := by
  cases q : B.base.get? a with
  | none => rfl
  | some o => rw [hs.rh.base a o q] at hn; cases hn
theorem frs_outer {b : Addr} (h : b ∈ frs f.outer) : b ∈ frs f.Fs := by
  show b ∈ List.filterMap _ (f.fenv :: f.outer)
  rw [List.filterMap_cons]
  cases f.fenv.frame with
  | none => exact h
  | some _ => exact .tail _ h
theorem change_step (hs : RS B f σ s) {H' : AH} (kept : ∀ b o, s.heap.get? b = some o → σ.H b = none → h'.get? b = some o)
    (alive : ∀ b o, s.heap.get? b = some o → ∃ o', h'.get? b = some o') (dom : ∀ b c, H' b = some c → σ.H b ≠ none ∨ s.heap.get? b = none) :
    Step (PP f σ.H) f.fr f.hid s.heap (PP f H') h' := by
  refine ⟨fun b o e n => .inl (kept b o e ?_), fun b m o e => ⟨o.slots, kept b o e (hs.rh.disj b (.inl (hs.ok.frL b m)))⟩, fun b m o e => kept b o e (hs.rh.disj b (.inr (List.mem_append_right _ m))), fun b o e n q => n ?_, alive⟩
  · cases q : σ.H b with
    | none => rfl
    | some c => exact absurd (.inl (by rw [q]; simp)) n
  · rcases q with q | q
    · cases r : H' b with
      | none => exact absurd r q
      | some c =>
        rcases dom b c r with d | d
        · exact .inl d
        · rw [e] at d; cases d
    · exact .inr q
theorem RS.change (hs : RS B f σ s) {H' : AH} (kept : ∀ b o, s.heap.get? b = some o → σ.H b = none → h'.get? b = some o)
    (alive : ∀ b o, s.heap.get? b = some o → ∃ o', h'.get? b = some o') (dom : ∀ b c, H' b = some c → σ.H b ≠ none ∨ s.heap.get? b = none)
    (real : ∀ b c, H' b = some c → Real B (PP f H') h' b c) : RS B f ⟨σ.loc, H'⟩ { s with heap := h', toks := tk } := by
  have st := change_step hs kept alive dom
  have live : ∀ b, dm f.Fs f.G H' b → ∃ o, h'.get? b = some o := fun b q => by
    rcases q with q | q
    · cases r : H' b with
      | none => exact absurd r q
      | some c =>
        have z := real b c r
        cases c with
        | list xs => obtain ⟨_, ⟨_, z⟩, _⟩ := z; exact ⟨_, z⟩
        | dict es => obtain ⟨_, _, _, ⟨_, _, _, z, _⟩, _⟩ := z; exact ⟨_, z⟩
        | inst C d => exact ⟨_, z⟩
        | ns es => obtain ⟨_, _, _, ⟨_, _, _, z, _⟩, _⟩ := z; exact ⟨_, z⟩
        | exc C d tr => obtain ⟨_, z, _⟩ := z; exact ⟨_, z⟩
    · obtain ⟨o, e⟩ := hs.rh.live b (.inr q)
      exact alive b o e
  refine ⟨⟨fun b o e => ?_, hs.rh.gens, hs.rh.os, real, fun b q => ?_, live, fun b m => ?_, hs.rh.apart, ?_⟩, hs.ok, ?_, ?_, fun i x v hi hv => ?_, fun p hp c hc hl hk => ?_⟩
  · have := hs.rh.base b o e
    refine kept b o this ?_
    cases q : σ.H b with
    | none => rfl
    | some c => have z := hs.rh.nb b (.inl (by rw [q]; simp)); rw [e] at z; cases z
  · rcases q with q | q
    · cases r : H' b with
      | none => exact absurd r q
      | some c =>
        rcases dom b c r with d | d
        · exact hs.rh.nb b (.inl d)
        · exact base_none hs d
    · exact hs.rh.nb b (.inr q)
  · cases r : H' b with
    | none => exact r
    | some c =>
      rcases dom b c r with d | d
      · exact absurd (hs.rh.disj b m) d
      · obtain ⟨o, e⟩ := hs.rh.live b (.inr m); rw [e] at d; cases d
  · have key : ∀ l : List Env, (∀ b ∈ frs l, b ∈ frs f.Fs) → s.heap.FunFrames B.base l → h'.FunFrames B.base l := fun l => by
      induction l with
      | nil => exact fun _ _ => trivial
      | cons env rest ih =>
        rintro sub ⟨hk, ⟨L, o, hf, hn, ho, hd⟩, hr⟩
        have hL : L ∈ frs (env :: rest) := by show L ∈ List.filterMap _ _; rw [List.filterMap_cons, hf]; exact .head _
        refine ⟨hk, ⟨L, o, hf, hn, kept L o ho (hs.rh.disj L (.inl (sub L hL))), hd⟩, ih (fun b m => sub b ?_) hr⟩
        show b ∈ List.filterMap _ _; rw [List.filterMap_cons, hf]; exact .tail _ m
    exact key f.Fs (fun _ m => m) hs.rh.stk
  · obtain ⟨m, o, es, ep, ho, q⟩ := hs.ns
    exact ⟨m, o, es, ep, kept _ _ ho (hs.offCells (.inl rfl)), q⟩
  · intro x c hx hk hl
    obtain ⟨o, ho, q⟩ := hs.cel x c hx hk hl
    obtain ⟨_, _, z⟩ := hs.ok.nm x hx
    rcases z with z | ⟨_, c', hc', _, hl'⟩
    · rcases hk with k | k <;> rw [z] at k <;> cases k
    · rw [hl] at hl'; cases hl'
      exact ⟨o, kept _ _ ho (hs.offCells (.inr hc')), q⟩
  · obtain ⟨rv, hn, hv⟩ := hs.loc i x v hi hv
    exact ⟨rv, hn.keep fun b m o e => kept b o e (hs.offCells m), hv.step st⟩
  · obtain ⟨rv, e, hr⟩ := hs.cap p hp c hc hl hk
    exact ⟨rv, cell_via e fun o q => kept c o q (hs.rh.disj c (.inr (List.mem_append_right _ hc))), hr.step st⟩
theorem RS.grow (hs : RS B f σ s) (hk : ∀ b o, s.heap.get? b = some o → h'.get? b = some o) : RS B f σ { s with heap := h', toks := tk } ∧ SStep f σ s σ { s with heap := h', toks := tk } :=
  have st := change_step (H' := σ.H) hs (fun b o e _ => hk b o e) (fun b o e => ⟨o, hk b o e⟩) (fun b c e => .inl (by rw [e]; simp))
  ⟨hs.change (fun b o e _ => hk b o e) (fun b o e => ⟨o, hk b o e⟩) (fun b c e => .inl (by rw [e]; simp)) (fun b c e => (hs.rh.cells b c e).step st (hk b)), st⟩
theorem fresh_step (hs : RS B f σ s) (hk : ∀ b o, s.heap.get? b = some o → h'.get? b = some o) (hn : s.heap.get? a = none) : SStep f σ s ⟨σ.loc, σ.H.put a (some c)⟩ { s with heap := h', toks := tk } :=
  change_step hs (fun b o e _ => hk b o e) (fun b o e => ⟨o, hk b o e⟩) fun b c' e => by
    rcases AH.put_some e with ⟨q, _⟩ | ⟨_, e⟩
    · exact .inr (q ▸ hn)
    · exact .inl (by rw [e]; simp)
theorem RS.fresh (hs : RS B f σ s) (hk : ∀ b o, s.heap.get? b = some o → h'.get? b = some o) (hn : s.heap.get? a = none) (real : Real B (PP f (σ.H.put a (some c))) h' a c) :
    RS B f ⟨σ.loc, σ.H.put a (some c)⟩ { s with heap := h', toks := tk } :=
  hs.change (fun b o e _ => hk b o e) (fun b o e => ⟨o, hk b o e⟩) (fun b c' e => by
    rcases AH.put_some e with ⟨q, _⟩ | ⟨_, e⟩
    · exact .inr (q ▸ hn)
    · exact .inl (by rw [e]; simp)) fun b c' e => by
    have st : SStep f σ s ⟨σ.loc, σ.H.put a (some c)⟩ { s with heap := h', toks := tk } := fresh_step hs hk hn
    rcases AH.put_some e with ⟨q, rfl⟩ | ⟨_, e⟩
    · rw [q]; exact real
    · exact (hs.rh.cells b c' e).step st (hk b)
theorem upd_alive (ha : ∃ o, h'.get? a = some o) (hb : Heap.SameBut a s.heap h') (b : Addr) (o : Obj) (e : s.heap.get? b = some o) : ∃ o', h'.get? b = some o' := by
  by_cases q : b = a
  · rw [q]; exact ha
  · exact ⟨o, (hb.2 b q).trans e⟩
theorem upd_step (hs : RS B f σ s) (hc : σ.H a = some c₀) (ha : ∃ o, h'.get? a = some o) (hb : Heap.SameBut a s.heap h') : SStep f σ s ⟨σ.loc, σ.H.put a (some c)⟩ { s with heap := h', toks := tk } :=
  change_step hs (fun b o e n => (hb.2 b (fun q => by rw [q, hc] at n; cases n)).trans e) (upd_alive ha hb) fun b c' e => by
    left
    rcases AH.put_some e with ⟨q, _⟩ | ⟨_, e⟩
    · rw [q, hc]; simp
    · rw [e]; simp
theorem RS.upd (hs : RS B f σ s) (hc : σ.H a = some c₀) (ha : ∃ o, h'.get? a = some o) (hb : Heap.SameBut a s.heap h') (real : Real B (PP f (σ.H.put a (some c))) h' a c) :
    RS B f ⟨σ.loc, σ.H.put a (some c)⟩ { s with heap := h', toks := tk } :=
  hs.change (fun b o e n => (hb.2 b (fun q => by rw [q, hc] at n; cases n)).trans e) (upd_alive ha hb) (fun b c' e => by
    left
    rcases AH.put_some e with ⟨q, _⟩ | ⟨_, e⟩
    · rw [q, hc]; simp
    · rw [e]; simp) fun b c' e => by
    have st : SStep f σ s ⟨σ.loc, σ.H.put a (some c)⟩ { s with heap := h', toks := tk } := upd_step hs hc ha hb
    rcases AH.put_some e with ⟨q, rfl⟩ | ⟨q, e⟩
    · rw [q]; exact real
    · exact (hs.rh.cells b c' e).step st fun o e' => (hb.2 b q).trans e'
theorem forget_step (hs : RS B f σ s) {H' : AH} (hle : ∀ b c, H' b = some c → σ.H b = some c) : SStep f σ s ⟨σ.loc, H'⟩ s :=
  change_step hs (fun _ _ e _ => e) (fun _ o e => ⟨o, e⟩) fun b c e => .inl (by rw [hle b c e]; simp)
theorem RS.forget (hs : RS B f σ s) {H' : AH} (hle : ∀ b c, H' b = some c → σ.H b = some c) : RS B f ⟨σ.loc, H'⟩ s :=
  have st := forget_step hs hle
  hs.change (h' := s.heap) (tk := s.toks) (fun _ _ e _ => e) (fun _ o e => ⟨o, e⟩) (fun b c e => .inl (by rw [hle b c e]; simp)) fun b c e => (hs.rh.cells b c (hle b c e)).step st fun _ e => e
end
end Mine
end
section
open PySem PySem.W PyProof.Rows PySem.Calls
namespace Mine
inductive Idx : List Str → Str → Nat → Prop
  | z {x r} : Idx (x :: r) x 0
  | s {x y r i} : Idx r x i → Idx (y :: r) x (i + 1)
theorem Idx.get {l : List Str} {x : Str} {i : Nat} (h : Idx l x i) : l[i]? = some x := by
  induction h with
  | z => rfl
  | s _ ih => simpa using ih
theorem Idx.mem {l : List Str} {x : Str} {i : Nat} (h : Idx l x i) : x ∈ l := List.mem_of_getElem? h.get
inductive GHas : List (Str × AV) → Str → AV → Prop
  | z {x v r} : GHas ((x, v) :: r) x v
  | s {x v p r} : GHas r x v → GHas (p :: r) x v
theorem GHas.mem {l : List (Str × AV)} {x : Str} {v : AV} (h : GHas l x v) : (x, v) ∈ l := by
  induction h with
  | z => exact .head _
  | s _ ih => exact .tail _ ih
section
variable {B : BC} {f : Fc} {n : Nat} {hd : Option Value} {σ : St} {X : Addr → St → Prop} {s : Shared} {A : Around} {E : Value → Shared → Prop}
theorem RS.toks (hs : RS B f σ s) (tk : Nat) : RS B f σ { s with toks := tk } :=
  ⟨⟨hs.rh.base, hs.rh.gens, hs.rh.os, hs.rh.cells, hs.rh.nb, hs.rh.live, hs.rh.disj, hs.rh.apart, hs.rh.stk⟩, hs.ok, hs.ns, hs.cel, hs.loc, hs.cap⟩
theorem OkP.now {α β : Type} {R : RelT α β} {Q : β → St → Prop} {r : α} {v : β} (hs : RS B f σ s) (hr : R (PP f σ.H) s.heap v r) (hq : Q v σ) : OkP B f R σ s Q r s :=
  ⟨v, σ, hs, .refl, hr, hq⟩
theorem OkP.tok {α β : Type} {R : RelT α β} {Q : β → St → Prop} {r : α} {v : β} (hs : RS B f σ s) (tk : Nat) (hr : R (PP f σ.H) s.heap v r) (hq : Q v σ) : OkP B f R σ s Q r { s with toks := tk } :=
  ⟨v, σ, hs.toks tk, .refl, hr, hq⟩
theorem nd_lookup_ne {l : List Str} (hn : l.Nodup) {i j : Nat} {x y : Str} (hi : l[i]? = some x) (hj : l[j]? = some y) (ne : i ≠ j) : x ≠ y := fun e => by
  subst e
  obtain ⟨li, ei⟩ := List.getElem?_eq_some_iff.mp hi
  obtain ⟨lj, ej⟩ := List.getElem?_eq_some_iff.mp hj
  exact ne ((List.getElem_inj hn).mp (ei.trans ej.symm))
theorem load_name {x : Str} {i : Nat} {v : AV} {Q : AV → St → Prop} (hi : Idx f.names x i) (hv : σ.loc[i]? = some (some v)) (h : Q v σ) (hs : RS B f σ s) :
    wpAny (model B.prog B.w) A (loadName f.env x) (OkP B f (vrel B) σ s Q) E s := by
  obtain ⟨rv, hn, hr⟩ := hs.loc i x v hi.get hv
  rcases hn with ⟨hk, m, hm, e⟩ | ⟨hk, c, hc, hl, ho⟩
  · exact wpAny_loadName_local hs.ok.kind hk hm e (OkP.now hs hr h)
  · rcases hk with hk | hk
    · exact wpAny_loadName_cell hs.ok.kind hk hl ho (OkP.now hs hr h)
    · exact wpAny_loadName_free hs.ok.kind hk hl ho (OkP.now hs hr h) (hs.ok.nm x hi.mem).2.1
theorem glob_at {x : Str} {pos : Pos} {v : AV} {Q : Value → Shared → Prop} (hi : GHas f.gl x v) (hs : RS B f σ s) (k : ∀ rv, VR B.prog B.w (PP f σ.H) s.heap v rv → Q rv s) :
    wpAny (model B.prog B.w) A (eval (.Name x pos) f.env) Q E s := by
  obtain ⟨h1, ⟨h2, rv, hr, hv⟩ | ⟨h3, h2, c, hc, hl⟩⟩ := hs.ok.gl _ hi.mem
  case inr =>
    obtain ⟨rv, e, hr⟩ := hs.cap _ hi.mem c hc hl h2
    rcases h2 with h2 | h2
    · exact wpAny_Name (wpAny_loadName_cell hs.ok.kind h2 hl e (k rv hr)) h1
    · exact wpAny_Name (wpAny_loadName_free hs.ok.kind h2 hl e (k rv hr) h3) h1
  refine Name_function_global hs.ok.kind h2 ?_ h1
  have hg : s.heap.Ns f.env.globals B.mg := by rw [hs.ok.glob]; exact B.hg.keeps hs.rh.base
  rcases hv with hv | ⟨hv, hv'⟩
  · exact loadGlobal_global hg hv (k rv (hr _ _))
  · exact loadGlobal_builtin hg hv (by rw [hs.ok.blt]; exact B.hb.keeps hs.rh.base) hv' (k rv (hr _ _))
theorem glob_name {x : Str} {v : AV} {Q : AV → St → Prop} (hi : GHas f.gl x v) (h : Q v σ) (hs : RS B f σ s) :
    wpAny (model B.prog B.w) A (eval (.Name x pos) f.env) (OkP B f (vrel B) σ s Q) E s := glob_at hi hs fun _ hr => OkP.now hs hr h
theorem ns_own (hs : RS B f σ s) : f.env.locals ∈ frs f.Fs ∨ f.env.locals ∈ f.own := by
  rcases hs.ok.loc with e | e
  · left; rw [e]; show f.L ∈ List.filterMap _ (f.fenv :: f.outer); rw [List.filterMap_cons, hs.ok.ffr]; exact .head _
  · exact .inr e
theorem own_step (hs : RS B f σ s) {h' : Heap} {b : Addr} (hb : (f.env.locals = f.L ∧ b = f.L) ∨ b ∈ f.own) (hsb : Heap.SameBut b s.heap h') (hal : ∃ o, h'.get? b = some o) (hout : b ∉ f.fr) (hhid : b ∉ f.hid) :
    Step (PP f σ.H) f.fr f.hid s.heap (PP f σ.H) h' := by
  have hP : PP f σ.H b := by
    rcases hb with ⟨_, rfl⟩ | hb
    · right; left; show f.L ∈ List.filterMap _ (f.fenv :: f.outer); rw [List.filterMap_cons, hs.ok.ffr]; exact .head _
    · right; right; exact List.mem_append_left _ hb
  exact ⟨fun a o e n => .inl ((hsb.2 a fun q => n (q ▸ hP)).trans e), fun a m o e => ⟨o.slots, (hsb.2 a fun q => hout (q ▸ m)).trans e⟩, fun a m o e => (hsb.2 a fun q => hhid (q ▸ m)).trans e, fun _ _ _ n => n, upd_alive hal hsb⟩
theorem own_off (hs : RS B f σ s) {b : Addr} (hb : (f.env.locals = f.L ∧ b = f.L) ∨ b ∈ f.own) : b ∉ f.fr ∧ b ∉ f.hid := by
  rcases hb with ⟨hloc, rfl⟩ | hb
  · refine ⟨by unfold Fc.fr; rw [if_pos hloc]; exact hs.ok.lnew, fun m => hs.rh.apart f.L ?_ (List.mem_append_right _ m)⟩
    show f.L ∈ List.filterMap _ (f.fenv :: f.outer); rw [List.filterMap_cons, hs.ok.ffr]; exact .head _
  · exact ⟨fun m => hs.rh.apart b (hs.ok.frL b m) (List.mem_append_left _ hb), hs.ok.onh b hb⟩
theorem own_dm (hs : RS B f σ s) {b : Addr} (hb : (f.env.locals = f.L ∧ b = f.L) ∨ b ∈ f.own) : b ∈ frs f.Fs ∨ b ∈ f.G := by
  rcases hb with ⟨_, rfl⟩ | hb
  · left; show f.L ∈ List.filterMap _ (f.fenv :: f.outer); rw [List.filterMap_cons, hs.ok.ffr]; exact .head _
  · exact .inr (List.mem_append_left _ hb)
theorem funFrames_of {base h h' : Heap} : ∀ {l : List Env}, h.FunFrames base l → (∀ b o, b ∈ frs l → h.get? b = some o → (∀ vs, o.data ≠ .fields vs) → ∃ o', h'.get? b = some o' ∧ ∀ vs, o'.data ≠ .fields vs) → h'.FunFrames base l
  | [], _, _ => trivial
  | env :: rest, ⟨hk, ⟨L, o, hf, hn, ho, hd⟩, hr⟩, k => by
    have hL : L ∈ frs (env :: rest) := by show L ∈ List.filterMap _ _; rw [List.filterMap_cons, hf]; exact .head _
    obtain ⟨o', e, d⟩ := k L o hL ho hd
    refine ⟨hk, ⟨L, o', hf, hn, e, d⟩, funFrames_of hr fun b o m => k b o ?_⟩
    show b ∈ List.filterMap _ _; rw [List.filterMap_cons, hf]; exact .tail _ m
theorem RS.ownChange (hs : RS B f σ s) {h' : Heap} {tk : Nat} {b : Addr} (hb : (f.env.locals = f.L ∧ b = f.L) ∨ b ∈ f.own) (hsb : Heap.SameBut b s.heap h') (hob : ∃ o', h'.get? b = some o' ∧ ∀ vs, o'.data ≠ .fields vs) {loc' : List (Option AV)}
    (ns : ∃ m, h'.Ns f.env.locals m)
    (cel : ∀ x c, x ∈ f.names → (f.env.kindOf x = some .cell ∨ f.env.kindOf x = some .free) → f.env.cells.lookup x = some c → ∃ o, h'.get? c = some o ∧ ∃ ov, o.data = .cell ov)
    (loc : ∀ (i : Nat) (x : Str) (v : AV), f.names[i]? = some x → loc'[i]? = some (some v) → ∃ rv, NameIs f h' x rv ∧ VR B.prog B.w (PP f σ.H) h' v rv) :
    RS B f ⟨loc', σ.H⟩ { s with heap := h', toks := tk } ∧ SStep f σ s ⟨loc', σ.H⟩ { s with heap := h', toks := tk } := by
  have hal : ∃ o, h'.get? b = some o := hob.imp fun _ x => x.1
  have st := own_step hs hb hsb hal (own_off hs hb).1 (own_off hs hb).2
  have hH : σ.H b = none := hs.rh.disj b (own_dm hs hb)
  refine ⟨⟨⟨fun a o e => (hsb.2 a fun q => ?_).trans (hs.rh.base a o e), hs.rh.gens, hs.rh.os, fun a c e => (hs.rh.cells a c e).step st fun o e' => (hsb.2 a fun q => ?_).trans e', hs.rh.nb, fun a q => ?_, hs.rh.disj, hs.rh.apart, ?_⟩, hs.ok, ns, cel, loc, fun p hp c hc hl hk => let ⟨rv, e, hr⟩ := hs.cap p hp c hc hl hk; ⟨rv, cell_via e fun o z => (hsb.2 c fun q => (own_off hs hb).2 (q ▸ hc)).trans z, hr.step st⟩⟩, st⟩
  · have z := hs.rh.nb b (.inr (own_dm hs hb)); rw [← q, e] at z; cases z
  · rw [q, hH] at e; cases e
  · obtain ⟨o, e⟩ := hs.rh.live a q; exact upd_alive hal hsb a o e
  · refine funFrames_of hs.rh.stk fun a o m e d => ?_
    by_cases q : a = b
    · subst q; exact hob
    · exact ⟨o, (hsb.2 a q).trans e, d⟩
theorem RS.celled (hs : RS B f σ s) (x : Str) (c : Addr) (hl : f.env.cells.lookup x = some c) (hx : x ∈ f.names) (hk : f.env.kindOf x = some .cell ∨ f.env.kindOf x = some .free) : ∃ o, s.heap.get? c = some o ∧ ∃ ov, o.data = .cell ov :=
  hs.cel x c hx hk hl
set_option tactic.hygienic true in
theorem set_get {l : List (Option AV)} {i j : Nat} {v u : AV} (h : (l.set i (some v))[j]? = some (some u)) : (i = j ∧ v = u) ∨ (i ≠ j ∧ l[j]? = some (some u)) := by
  rw [List.getElem?_set] at h
  split at h
  · rename_i q
    split at h
    · exact .inl ⟨q, Option.some.inj (Option.some.inj h)⟩
    · cases h
  · rename_i q; exact .inr ⟨q, h⟩
theorem st_cell {M : Model} {E : Value → Shared → Prop} {A : Around} {s : Shared} {env : Env} {x : Str} {c : Addr} {v₀ : Option Value} {v : Value} {Q : Unit → Shared → Prop} (hk : env.scope.kind = .function) (hl : env.kindOf x = some .cell ∨ env.kindOf x = some .free)
    (hc : env.cells.lookup x = some c) (hv : s.heap.IsCell c v₀) (h : ∀ h', h'.IsCell c (some v) → Heap.SameBut c s.heap h' → Q () { s with heap := h' }) : wpAny M A (storeName env x v) Q E s := by
  rcases hl with hl | hl
  · exact wpAny_storeName_cell hk hl hc hv h
  · delta storeName
    rw [hl, hk]
    exact wpAny_bind (wpAny_cellOf hc (wpAny_cellSet hv h))
theorem store_name {x : Str} {i : Nat} {v : AV} {rv : Value} {Q : St → Prop} (hi : Idx f.names x i) (h : Q ⟨σ.loc.set i (some v), σ.H⟩) (hs : RS B f σ s) (hv : VR B.prog B.w (PP f σ.H) s.heap v rv) :
    wpAny (model B.prog B.w) A (storeName f.env x rv) (OkP B f (idrel (α := Unit)) σ s fun _ => Q) E s := by
  obtain ⟨_, _, hk⟩ := hs.ok.nm x hi.mem
  rcases hk with hk | ⟨hk, c, hc, hcl, hl⟩
  · obtain ⟨m, hm⟩ := hs.ns
    refine wpAny_storeName_local hk hm (fun h' hns hsb => ?_) (by rw [hs.ok.kind]; rfl)
    have hb : (f.env.locals = f.L ∧ f.env.locals = f.L) ∨ f.env.locals ∈ f.own := hs.ok.loc.imp (fun e => ⟨e, e⟩) id
    have hob : ∃ o', h'.get? f.env.locals = some o' ∧ ∀ vs, o'.data ≠ .fields vs := by
      obtain ⟨o, es, ep, ho, hd, _⟩ := hns
      exact ⟨o, ho, fun vs q => by rw [hd] at q; cases q⟩
    have st := own_step hs hb hsb (hob.imp fun _ x => x.1) (own_off hs hb).1 (own_off hs hb).2
    have hloc : ∀ (j : Nat) (y : Str) (u : AV), f.names[j]? = some y → (σ.loc.set i (some v))[j]? = some (some u) → ∃ rv, NameIs f h' y rv ∧ VR B.prog B.w (PP f σ.H) h' u rv := fun j y u hj hu => by
      rcases set_get hu with ⟨rfl, rfl⟩ | ⟨ne, hu⟩
      · have e : x = y := Option.some.inj (hi.get.symm.trans hj)
        subst e
        exact ⟨rv, .inl ⟨hk, _, hns, if_pos rfl⟩, hv.step st⟩
      · obtain ⟨ru, hn, hr⟩ := hs.loc j y u hj hu
        have hxy : y ≠ x := nd_lookup_ne hs.ok.nd hj hi.get (Ne.symm ne)
        refine ⟨ru, ?_, hr.step st⟩
        rcases hn with ⟨hk', m', hm', e⟩ | ⟨hk', d, hd', hl', ho'⟩
        · refine .inl ⟨hk', _, hns, ?_⟩
          have : m y = m' y := by
            obtain ⟨o, es, ep, a1, a2, a3, a4⟩ := hm
            obtain ⟨o', es', ep', b1, b2, b3, b4⟩ := hm'
            rw [a1] at b1; cases b1
            rw [a2] at b2; cases b2
            rw [← a4, ← b4]
          simp only [if_neg hxy]; rw [this, e]
        · obtain ⟨_, _, q⟩ := hs.ok.nm y (List.mem_of_getElem? hj)
          rcases q with q | ⟨_, c', _, hcl', hlc'⟩
          · rcases hk' with z | z <;> rw [q] at z <;> cases z
          · rw [hl'] at hlc'; cases hlc'
            exact .inr ⟨hk', d, hd', hl', cell_via ho' fun o z => (hsb.2 d hcl').trans z⟩
    have hcel : ∀ x c, x ∈ f.names → (f.env.kindOf x = some .cell ∨ f.env.kindOf x = some .free) → f.env.cells.lookup x = some c → ∃ o, h'.get? c = some o ∧ ∃ ov, o.data = .cell ov := fun y d hy hk' hl' => by
      obtain ⟨o, ho, z⟩ := hs.cel y d hy hk' hl'
      obtain ⟨_, _, q⟩ := hs.ok.nm y hy
      rcases q with q | ⟨_, c', _, hcl', hlc'⟩
      · rcases hk' with z | z <;> rw [q] at z <;> cases z
      · rw [hl'] at hlc'; cases hlc'
        exact ⟨o, (hsb.2 d hcl').trans ho, z⟩
    have q := hs.ownChange (tk := s.toks + 1) (loc' := σ.loc.set i (some v)) hb hsb hob ⟨_, hns⟩ hcel hloc
    exact ⟨(), _, q.1, q.2, rfl, h⟩
  · have hb : (f.env.locals = f.L ∧ c = f.L) ∨ c ∈ f.own := .inr hc
    obtain ⟨o, ho, ov, hov⟩ : ∃ o, s.heap.get? c = some o ∧ ∃ ov, o.data = .cell ov := hs.celled x c hl hi.mem hk
    refine st_cell hs.ok.kind hk hl ⟨o, ho, hov⟩ (fun h' hg hsb => ?_)
    have hob : ∃ o', h'.get? c = some o' ∧ ∀ vs, o'.data ≠ .fields vs := by
      obtain ⟨o, ho, hd⟩ := hg
      exact ⟨o, ho, fun vs q => by rw [hd] at q; cases q⟩
    have st := own_step hs hb hsb (hob.imp fun _ x => x.1) (own_off hs hb).1 (own_off hs hb).2
    obtain ⟨m, hm⟩ := hs.ns
    have hm' : h'.Ns f.env.locals m := by
      obtain ⟨o, es, ep, a1, a2⟩ := hm
      exact ⟨o, es, ep, (hsb.2 _ (Ne.symm hcl)).trans a1, a2⟩
    have hloc : ∀ (j : Nat) (y : Str) (u : AV), f.names[j]? = some y → (σ.loc.set i (some v))[j]? = some (some u) → ∃ rv', NameIs f h' y rv' ∧ VR B.prog B.w (PP f σ.H) h' u rv' := fun j y u hj hu => by
      rcases set_get hu with ⟨rfl, rfl⟩ | ⟨ne, hu⟩
      · have e : x = y := Option.some.inj (hi.get.symm.trans hj)
        subst e
        exact ⟨rv, .inr ⟨hk, c, hc, hl, hg⟩, hv.step st⟩
      · obtain ⟨ru, hn, hr⟩ := hs.loc j y u hj hu
        have hxy : y ≠ x := nd_lookup_ne hs.ok.nd hj hi.get (Ne.symm ne)
        refine ⟨ru, ?_, hr.step st⟩
        rcases hn with ⟨hk', m', ⟨o, es, ep, a1, a2⟩, e⟩ | ⟨hk', d, hd', hl', ho'⟩
        · exact .inl ⟨hk', m', ⟨o, es, ep, (hsb.2 _ (Ne.symm hcl)).trans a1, a2⟩, e⟩
        · refine .inr ⟨hk', d, hd', hl', cell_via ho' fun o z => (hsb.2 d fun q => hxy ?_).trans z⟩
          exact hs.ok.inj y x d hl' (q ▸ hl)
    have hcel : ∀ x c', x ∈ f.names → (f.env.kindOf x = some .cell ∨ f.env.kindOf x = some .free) → f.env.cells.lookup x = some c' → ∃ o, h'.get? c' = some o ∧ ∃ ov, o.data = .cell ov := fun y d hy hk' hl' => by
      by_cases q : d = c
      · subst q; obtain ⟨o, ho, z⟩ := hg; exact ⟨o, ho, _, z⟩
      · obtain ⟨o, ho, z⟩ := hs.cel y d hy hk' hl'
        exact ⟨o, (hsb.2 d q).trans ho, z⟩
    have q := hs.ownChange (tk := s.toks) (loc' := σ.loc.set i (some v)) hb hsb hob ⟨_, hm'⟩ hcel hloc
    exact ⟨(), _, q.1, q.2, rfl, h⟩
end
end Mine
end
section
open PySem PySem.W PyProof.Rows PySem.Calls
namespace Mine
section
variable {B : BC} {f : Fc} {n : Nat} {hd : Option Value} {σ : St} {X : Addr → St → Prop}
theorem EX.go {α β α' β' : Type} {R : RelT α β} {R' : RelT α' β'} {t : Sem α} {A : Around} {s : Shared} {Q : β → St → Prop} {Q' : β' → St → Prop} {k : α → Shared → Prop}
    (h : EX B f n hd R t σ Q X) (hA : AOk f n hd A) (hs : RS B f σ s)
    (next : ∀ r s', ∀ v σ', RS B f σ' s' → SStep f σ s σ' s' → R (PP f σ'.H) s'.heap v r → Q v σ' → k r s') : wpAny (model B.prog B.w) A t k (ErP B f σ s X) s :=
  wpAny_mono (h A s hA hs) (fun r s' ⟨v, σ', a, b, c, d⟩ => next r s' v σ' a b c d) fun _ _ q => q
theorem backW {α β : Type} {R : RelT α β} {t : Sem α} {A : Around} {s s' : Shared} {σ' : St} {Q : β → St → Prop} (st : SStep f σ s σ' s')
    (h : wpAny (model B.prog B.w) A t (OkP B f R σ' s' Q) (ErP B f σ' s' X) s') : wpAny (model B.prog B.w) A t (OkP B f R σ s Q) (ErP B f σ s X) s' :=
  wpAny_mono h (fun _ _ q => q.back st) fun _ _ q => q.back st
theorem backK {α : Type} {t : Sem α} {A : Around} {s s' : Shared} {σ' : St} {k : α → Shared → Prop} (st : SStep f σ s σ' s')
    (h : wpAny (model B.prog B.w) A t k (ErP B f σ' s' X) s') : wpAny (model B.prog B.w) A t k (ErP B f σ s X) s' :=
  wpAny_mono h (fun _ _ q => q) fun _ _ q => q.back st
theorem r_name {x : Str} {pos : Pos} {i : Nat} {v : AV} {Q : AV → St → Prop} (hi : Idx f.names x i) (hv : σ.loc[i]? = some (some v)) (h : Q v σ) : EV B f n hd (eval (.Name x pos) f.env) σ Q X := fun _ _ _ hs =>
  wpAny_Name (load_name hi hv h hs) (hs.ok.nm x hi.mem).1
theorem r_glob {x : Str} {pos : Pos} {v : AV} {Q : AV → St → Prop} (hi : GHas f.gl x v) (h : Q v σ) : EV B f n hd (eval (.Name x pos) f.env) σ Q X := fun _ _ _ hs => glob_name hi h hs
theorem r_int {i : Int} {k : Nat} {pos : Pos} {Q : AV → St → Prop} (h : Q (.int i) σ) : EV B f n hd (eval (.Constant (.int i) k pos) f.env) σ Q X := fun _ s _ hs =>
  wpAny_Constant_int (OkP.tok hs _ (.int i _) h)
theorem r_str {x : Str} {k : Nat} {pos : Pos} {Q : AV → St → Prop} (h : Q (.str x) σ) : EV B f n hd (eval (.Constant (.str x) k pos) f.env) σ Q X := fun _ s _ hs =>
  wpAny_Constant_str (OkP.tok hs _ (.str x _) h)
theorem r_none {k : Nat} {pos : Pos} {Q : AV → St → Prop} (h : Q .none σ) : EV B f n hd (eval (.Constant .none k pos) f.env) σ Q X := fun _ s _ hs =>
  wpAny_Constant_none (OkP.now hs .none h)
theorem r_bool {b : Bool} {k : Nat} {pos : Pos} {Q : AV → St → Prop} (h : Q (.bool b) σ) : EV B f n hd (eval (.Constant (.bool b) k pos) f.env) σ Q X := fun _ s _ hs =>
  wpAny_Constant_bool (OkP.now hs (.bool b) h)
theorem r_bin {l r : Expr} {op : Operator} {pos : Pos} {Q : AV → St → Prop}
    (h : EV B f n hd (eval l f.env) σ (fun a σ₁ => EV B f n hd (eval r f.env) σ₁ (fun b σ₂ => EO2 B f n hd (vrel B) a b (binaryOp op) σ₂ Q X) X) X) : EV B f n hd (eval (.BinOp l op r pos) f.env) σ Q X := fun A s hA hs =>
  wpAny_BinOp (h.go (Q' := Q) (R' := vrel B) hA hs fun ra s₁ a σ₁ h₁ st₁ va q₁ => backK st₁ (q₁.go (Q' := Q) (R' := vrel B) hA h₁ fun rb s₂ b σ₂ h₂ st₂ vb q₂ => by
    have := q₂ A s₂ ra rb hA h₂ (va.step st₂) vb
    exact wpAny_mono this (fun _ _ q => (q.back st₂).back st₁) fun _ _ q => (q.back st₂).back st₁))
theorem r_cmp {l r : Expr} {op : CmpOp} {pos : Pos} {Q : AV → St → Prop}
    (h : EV B f n hd (eval l f.env) σ (fun a σ₁ => EV B f n hd (eval r f.env) σ₁ (fun b σ₂ => EO2 B f n hd (vrel B) a b (compareOp op) σ₂ Q X) X) X) (hm : behindInMarks op r = false) :
    EV B f n hd (eval (.Compare l [op] [r] pos) f.env) σ Q X := fun A s hA hs =>
  wpAny_Compare1 (h.go (Q' := Q) (R' := vrel B) hA hs fun ra s₁ a σ₁ h₁ st₁ va q₁ => backK st₁ (q₁.go (Q' := Q) (R' := vrel B) hA h₁ fun rb s₂ b σ₂ h₂ st₂ vb q₂ => by
    have := q₂ A s₂ ra rb hA h₂ (va.step st₂) vb
    exact wpAny_mono this (fun _ _ q => (q.back st₂).back st₁) fun _ _ q => (q.back st₂).back st₁)) hm
theorem r_test_cmp {l r : Expr} {op : CmpOp} {pos : Pos} {whole : Sem Value} {Q : Bool → St → Prop}
    (h : EV B f n hd (eval l f.env) σ (fun a σ₁ => EV B f n hd (eval r f.env) σ₁ (fun b σ₂ => EO2 B f n hd (vrel B) a b (compareOp op) σ₂ (fun c σ₃ => ∃ b, c = .bool b ∧ Q b σ₃) X) X) X) (hm : behindInMarks op r = false) :
    EB B f n hd (isTrue (.Compare l [op] [r] pos) f.env whole) σ Q X := fun A s hA hs =>
  wpAny_isTrue_Compare1 (h.go (Q' := Q) (R' := idrel) hA hs fun ra s₁ a σ₁ h₁ st₁ va q₁ => backK st₁ (q₁.go (Q' := Q) (R' := idrel) hA h₁ fun rb s₂ b σ₂ h₂ st₂ vb q₂ => by
    have := q₂ A s₂ ra rb hA h₂ (va.step st₂) vb
    refine wpAny_mono this (fun rc s₃ q => ?_) fun _ _ q => (q.back st₂).back st₁
    obtain ⟨c, σ₃, h₃, st₃, vc, b, rfl, qb⟩ := q
    exact vc.eBool (wpAny_truthy_bool ⟨b, σ₃, h₃, (st₁.trans st₂).trans st₃, rfl, qb⟩))) hm
theorem r_test_not {x : Expr} {pos : Pos} {whole : Sem Value} {Q : Bool → St → Prop} (h : EB B f n hd (isTrue x f.env (eval x f.env)) σ (fun b => Q (!b)) X) : EB B f n hd (isTrue (.UnaryOp .Not x pos) f.env whole) σ Q X := fun A s hA hs =>
  wpAny_isTrue_Not (h.go (Q' := Q) (R' := idrel) hA hs fun r s₁ b σ₁ h₁ st₁ e q => by cases e; exact ⟨_, σ₁, h₁, st₁, rfl, q⟩)
theorem r_test_and {x : Expr} {rest : List Expr} {pos : Pos} {whole : Sem Value} {Q : Bool → St → Prop}
    (h : EB B f n hd (isTrue x f.env (eval x f.env)) σ (fun b σ₁ => if b = true then EB B f n hd (isTrue (.BoolOp .And rest pos) f.env whole) σ₁ Q X else Q false σ₁) X) : EB B f n hd (isTrue (.BoolOp .And (x :: rest) pos) f.env whole) σ Q X := fun A s hA hs =>
  isTrue_and (h.go (Q' := Q) (R' := idrel) hA hs fun r s₁ b σ₁ h₁ st₁ e q => by
    subst e
    cases r with
    | true => exact backW st₁ (q A s₁ hA h₁)
    | false => exact ⟨_, σ₁, h₁, st₁, rfl, q⟩)
theorem r_test_and_nil {pos : Pos} {whole : Sem Value} {Q : Bool → St → Prop} (h : Q true σ) : EB B f n hd (isTrue (.BoolOp .And [] pos) f.env whole) σ Q X := fun A s hA hs => isTrue_and_nil (OkP.now hs rfl h)
theorem r_test_or {x : Expr} {rest : List Expr} {pos : Pos} {whole : Sem Value} {Q : Bool → St → Prop}
    (h : EB B f n hd (isTrue x f.env (eval x f.env)) σ (fun b σ₁ => if b = true then Q true σ₁ else EB B f n hd (isTrue (.BoolOp .Or rest pos) f.env whole) σ₁ Q X) X) : EB B f n hd (isTrue (.BoolOp .Or (x :: rest) pos) f.env whole) σ Q X := fun A s hA hs =>
  isTrue_or (h.go (Q' := Q) (R' := idrel) hA hs fun r s₁ b σ₁ h₁ st₁ e q => by
    subst e
    cases r with
    | true => exact ⟨_, σ₁, h₁, st₁, rfl, q⟩
    | false => exact backW st₁ (q A s₁ hA h₁))
theorem r_test_or_nil {pos : Pos} {whole : Sem Value} {Q : Bool → St → Prop} (h : Q false σ) : EB B f n hd (isTrue (.BoolOp .Or [] pos) f.env whole) σ Q X := fun A s hA hs => isTrue_or_nil (OkP.now hs rfl h)
theorem r_test_val {e : Expr} {whole : Sem Value} {Q : Bool → St → Prop} (h : EV B f n hd whole σ (fun v σ₁ => EO1 B f n hd idrel v truthy σ₁ Q X) X)
    (he : isTrue e f.env whole = (do let v ← whole; standAt e.pos; holding [v] (truthy v))) : EB B f n hd (isTrue e f.env whole) σ Q X := fun A s hA hs =>
  isTrue_plain (h.go (Q' := Q) (R' := idrel) hA hs fun r s₁ v σ₁ h₁ st₁ hv q => backW st₁ (q A s₁ r hA h₁ hv)) he
theorem r_ifexp {test body orelse : Expr} {pos : Pos} {Q : AV → St → Prop}
    (h : EB B f n hd (isTrue test f.env (eval test f.env)) σ (fun b σ₁ => if b = true then EV B f n hd (eval body f.env) σ₁ Q X else EV B f n hd (eval orelse f.env) σ₁ Q X) X) : EV B f n hd (eval (.IfExp test body orelse pos) f.env) σ Q X := fun A s hA hs =>
  IfExp_ (h.go (Q' := Q) (R' := vrel B) hA hs fun r s₁ b σ₁ h₁ st₁ e q => by
    subst e
    cases r with
    | true => exact backW st₁ (q A s₁ hA h₁)
    | false => exact backW st₁ (q A s₁ hA h₁))
theorem r_and1 {e : Expr} {pos : Pos} {Q : AV → St → Prop} {op : BoolOp} (h : EV B f n hd (eval e f.env) σ Q X) : EV B f n hd (eval (.BoolOp op [e] pos) f.env) σ Q X := fun A s hA hs => BoolOp_one (h A s hA hs)
theorem r_and {x y : Expr} {rest : List Expr} {pos : Pos} {Q : AV → St → Prop}
    (h : EV B f n hd (eval x f.env) σ (fun v σ₁ => ∃ b, v = .bool b ∧ if b = true then EV B f n hd (eval (.BoolOp .And (y :: rest) pos) f.env) σ₁ Q X else Q (.bool false) σ₁) X) : EV B f n hd (eval (.BoolOp .And (x :: y :: rest) pos) f.env) σ Q X := fun A s hA hs =>
  BoolOp_and (h.go (Q' := Q) (R' := vrel B) hA hs fun r s₁ v σ₁ h₁ st₁ hv ⟨b, e, q⟩ => by
    subst e
    refine hv.eBool (wpAny_truthy_bool ?_)
    cases b with
    | true => exact backW st₁ (q A s₁ hA h₁)
    | false => exact ⟨_, σ₁, h₁, st₁, .bool false, q⟩)
theorem r_or {x y : Expr} {rest : List Expr} {pos : Pos} {Q : AV → St → Prop}
    (h : EV B f n hd (eval x f.env) σ (fun v σ₁ => ∃ b, v = .bool b ∧ if b = true then Q (.bool true) σ₁ else EV B f n hd (eval (.BoolOp .Or (y :: rest) pos) f.env) σ₁ Q X) X) : EV B f n hd (eval (.BoolOp .Or (x :: y :: rest) pos) f.env) σ Q X := fun A s hA hs =>
  BoolOp_or (h.go (Q' := Q) (R' := vrel B) hA hs fun r s₁ v σ₁ h₁ st₁ hv ⟨b, e, q⟩ => by
    subst e
    refine hv.eBool (wpAny_truthy_bool ?_)
    cases b with
    | false => exact backW st₁ (q A s₁ hA h₁)
    | true => exact ⟨_, σ₁, h₁, st₁, .bool true, q⟩)
theorem r_not {x : Expr} {pos : Pos} {Q : AV → St → Prop} (h : EV B f n hd (eval x f.env) σ (fun v σ₁ => EO1 B f n hd idrel v truthy σ₁ (fun b => Q (.bool (!b))) X) X) : EV B f n hd (eval (.UnaryOp .Not x pos) f.env) σ Q X := fun A s hA hs =>
  UnaryOp_ (h.go (Q' := Q) (R' := vrel B) hA hs fun r s₁ v σ₁ h₁ st₁ hv q => not_of (wpAny_mono (q A s₁ r hA h₁ hv) (fun c s₂ ⟨b, σ₂, h₂, st₂, e, q₂⟩ => by cases e; exact ⟨_, σ₂, h₂, st₁.trans st₂, .bool _, q₂⟩) fun _ _ q => q.back st₁))
theorem r_neg {x : Expr} {pos : Pos} {Q : AV → St → Prop} (h : EV B f n hd (eval x f.env) σ (fun v σ₁ => EO1 B f n hd (vrel B) v (unaryOp .USub) σ₁ Q X) X) : EV B f n hd (eval (.UnaryOp .USub x pos) f.env) σ Q X := fun A s hA hs =>
  UnaryOp_ (h.go (Q' := Q) (R' := vrel B) hA hs fun r s₁ v σ₁ h₁ st₁ hv q => backW st₁ (q A s₁ r hA h₁ hv))
theorem r_items_nil {pos : Pos} {Q : List AV → St → Prop} (h : Q [] σ) : EL B f n hd (spliced (backTo pos (starEach [] f.env))) σ Q X := fun A s hA hs => wpAny_items_nil (OkP.now hs .nil h)
theorem r_items_cons {pos : Pos} {e : Expr} {rest : List Expr} {Q : List AV → St → Prop} (h : EV B f n hd (eval e f.env) σ (fun v σ₁ => EL B f n hd (spliced (backTo pos (starEach rest f.env))) σ₁ (fun vs σ₂ => Q (v :: vs) σ₂) X) X)
    (he : starEach (e :: rest) f.env = (false, eval e f.env) :: starEach rest f.env) : EL B f n hd (spliced (backTo pos (starEach (e :: rest) f.env))) σ Q X := fun A s hA hs =>
  wpAny_items_cons (h.go (Q' := Q) (R' := vsrel B) hA hs fun r s₁ v σ₁ h₁ st₁ hv q => backK st₁ (q.go (Q' := Q) (R' := vsrel B) hA h₁ fun rs s₂ vs σ₂ h₂ st₂ hvs q₂ => ⟨v :: vs, σ₂, h₂, st₁.trans st₂, .cons (hv.step st₂) hvs, q₂⟩)) he
theorem VRs.length {P : Addr → Prop} {h : Heap} {xs : List AV} {vs : List Value} (r : VRs B.prog B.w P h xs vs) : xs.length = vs.length := by
  induction xs generalizing vs with
  | nil => refine r.e0 ?_; rfl
  | cons x xs ih => refine r.ec fun _ _ _ b => ?_; exact congrArg (· + 1) (ih b)
end
end Mine
end
section
open PySem PySem.W PyProof.Rows PySem.Calls
namespace Mine
section
variable {B : BC} {f : Fc} {n : Nat} {hd : Option Value} {σ : St} {X : Addr → St → Prop}
theorem none_dm {s : Shared} (hs : RS B f σ s) {a : Addr} (hn : s.heap.get? a = none) : ¬ PP f σ.H a := fun q => by
  obtain ⟨o, e⟩ := hs.rh.live a q; rw [hn] at e; cases e
theorem size_none (h : Heap) : h.get? h.objs.size = none := Heap.get?_none_of_le (Nat.le_refl _)
theorem H_none {s : Shared} (hs : RS B f σ s) {a : Addr} (hn : s.heap.get? a = none) : σ.H a = none := by
  cases q : σ.H a with
  | none => rfl
  | some c => exact absurd (.inl (by rw [q]; simp)) (none_dm hs hn)
theorem push_keeps (h : Heap) (o : Obj) : ∀ b o', h.get? b = some o' → (h.push o).get? b = some o' := fun _ _ e => Heap.get?_push_of_some _ e
theorem isTup_new (h : Heap) (vs : List Value) : IsTup (h.push { cls := .type "tuple", data := .seq vs.toArray }) h.objs.size vs.toArray := ⟨_, Heap.get?_push_size _ rfl, rfl, 0, rfl⟩
theorem isList_new (h : Heap) (vs : List Value) : LstAt (h.push { cls := .type "list", data := .seq vs.toArray }) h.objs.size vs := ⟨0, Heap.get?_push_size _ rfl⟩
theorem r_tuple {elts : List Expr} {k : Nat} {pos : Pos} {Q : AV → St → Prop} (h : EL B f n hd (spliced (backTo pos (starEach elts f.env))) σ (fun xs σ₁ => xs.length ≤ sizeLine ∧ Q (.tup xs) σ₁) X) :
    EV B f n hd (eval (.Tuple elts k pos) f.env) σ Q X := fun A s hA hs =>
  wpAny_Tuple (h.go (Q' := Q) (R' := vrel B) hA hs fun vs s₁ xs σ₁ h₁ st₁ hv ⟨hz, q⟩ => by
    have g := h₁.grow (tk := s₁.toks) (push_keeps s₁.heap { cls := .type "tuple", data := .seq vs.toArray })
    exact ⟨by rw [← hv.length]; exact hz, .tup xs, σ₁, g.1, st₁.trans g.2, .tup (isTup_new _ _) (none_dm h₁ (size_none _)) (hv.step g.2), q⟩)
theorem r_sub {value slice : Expr} {pos : Pos} {Q : AV → St → Prop}
    (h : EV B f n hd (eval value f.env) σ (fun a σ₁ => EV B f n hd (eval slice f.env) σ₁ (fun b σ₂ => EO2 B f n hd (vrel B) a b (subscriptTail value slice) σ₂ Q X) X) X) : EV B f n hd (eval (.Subscript value slice pos) f.env) σ Q X := fun A s hA hs =>
  Subscript_ (h.go (Q' := Q) (R' := vrel B) hA hs fun ra s₁ a σ₁ h₁ st₁ va q₁ => backK st₁ (q₁.go (Q' := Q) (R' := vrel B) hA h₁ fun rb s₂ b σ₂ h₂ st₂ vb q₂ => by
    have := q₂ A s₂ ra rb hA h₂ (va.step st₂) vb
    exact wpAny_mono this (fun _ _ q => (q.back st₂).back st₁) fun _ _ q => (q.back st₂).back st₁))
noncomputable def plainBase : Expr → Bool
  | .Call .. => false
  | _ => true
theorem base_plain {o : Expr} (h : plainBase o = true) (attr : Str) (env : Env) (whole : Sem Value) : attributeBase o attr env whole = whole := by
  cases o <;> first | rfl | cases h
theorem r_attr {value : Expr} {attr : Str} {pos : Pos} {Q : AV → St → Prop} (h : EV B f n hd (eval value f.env) σ (fun a σ₁ => EO1 B f n hd (vrel B) a (fun o => getAttr o attr true) σ₁ Q X) X) (hb : plainBase value = true) :
    EV B f n hd (eval (.Attribute value attr pos) f.env) σ Q X := fun A s hA hs =>
  Attribute_any_ (h.go (Q' := Q) (R' := vrel B) hA hs fun r s₁ v σ₁ h₁ st₁ hv q => backW st₁ (q A s₁ r hA h₁ hv)) (by rw [arm_eval_Attribute, base_plain hb])
noncomputable def EC (B : BC) (f : Fc) (n : Nat) (hd : Option Value) (pos : Pos) (fv : AV) (args : List Expr) (σ : St) (Q : AV → St → Prop) (X : Addr → St → Prop) : Prop :=
  EO1 B f n hd (vrel B) fv (fun r => callWith pos r [] (backTo pos (starEach args f.env)) []) σ Q X
theorem r_call {func : Expr} {args : List Expr} {pos : Pos} {Q : AV → St → Prop} (h : EV B f n hd (eval func f.env) σ (fun fv σ₁ => EC B f n hd pos fv args σ₁ Q X) X)
    (he : eval (.Call func args [] pos) f.env = (do callWith pos (← eval func f.env) [] (backTo pos (starEach args f.env)) (backToKw pos (keywordEach [] f.env)))) :
    EV B f n hd (eval (.Call func args [] pos) f.env) σ Q X := fun A s hA hs =>
  Call_ (h.go (Q' := Q) (R' := vrel B) hA hs fun r s₁ v σ₁ h₁ st₁ hv q => backW st₁ (q A s₁ r hA h₁ hv)) he
noncomputable def plainArg : Expr → Bool
  | .Starred .. => false
  | _ => true
theorem starEach_one {env : Env} {e : Expr} (h : plainArg e = true) (r : List Expr) : starEach (e :: r) env = (false, eval e env) :: starEach r env := by
  cases e <;> first | rfl | cases h
theorem starEach_plain {env : Env} {args : List Expr} (h : args.all plainArg = true) : starEach args env = args.map fun e => (false, eval e env) := by
  induction args with
  | nil => rfl
  | cons e r ih =>
    have h := Bool.and_eq_true_iff.mp (List.all_cons ▸ h)
    exact (starEach_one h.1 r).trans (congrArg _ (ih h.2))
theorem backTo_plain {env : Env} {pos : Pos} {args : List Expr} (h : args.all plainArg = true) : backTo pos (starEach args env) = args.map fun e => (false, eval e env) := by
  rw [starEach_plain h]
  unfold backTo
  rw [List.map_map]
  rfl
noncomputable def EM (B : BC) (f : Fc) (n : Nat) (hd : Option Value) (pos : Pos) (name : Str) (ov : AV) (args : List Expr) (σ : St) (Q : AV → St → Prop) (X : Addr → St → Prop) : Prop :=
  ∀ pl A s r, AOk f n hd A → RS B f σ s → VR B.prog B.w (PP f σ.H) s.heap ov r → wpAny (model B.prog B.w) A (getMethod r name pl) (fun fx s₂ =>
      wpAny (model B.prog B.w) A (callWith pos fx.1 fx.2 (backTo pos (starEach args f.env)) []) (OkP B f (vrel B) σ s Q) (ErP B f σ s X) s₂) (ErP B f σ s X) s
theorem meth_form {o : Expr} {name : Str} {apos pos : Pos} {args : List Expr} {env : Env} (hb : plainBase o = true) (hp : args.all plainArg = true) (hl : args.length < 20) (hline : (apos.endLine == pos.line) = true) :
    eval (.Call (.Attribute o name apos) args [] pos) env = (do
      let ov ← eval o env
      standAt apos.atName
      let (g, first) ← holding [ov] (getMethod ov name (do return (← importBound o env).getD true))
      callWith pos g first (backTo pos (starEach args env)) []) := by
  rw [arm_eval_Call, base_plain hb]
  have few : methodCallForm (args.length + ([] : List Keyword).length) (backTo pos (starEach args env)) (backToKw pos (keywordEach [] env)) = true := by
    unfold methodCallForm
    rw [backTo_plain hp]
    simp only [List.length_nil, Nat.add_zero, Bool.and_eq_true, decide_eq_true_eq]
    refine ⟨⟨?_, rfl⟩, ?_⟩
    · rw [List.all_map]; simp
    · show args.length + _ < 30
      have : (if (backToKw pos (keywordEach [] env)).isEmpty = true then 0 else 1) ≤ 1 := by split; exact Nat.zero_le _; exact Nat.le_refl _
      exact Nat.lt_of_le_of_lt (Nat.add_le_add (Nat.le_of_lt hl) this) (by decide)
  congr 1
  funext ov
  congr 1
  funext _
  unfold methodCall
  rw [few]
  unfold calleeOf methodCallPos
  simp only [if_true, hline, Bool.not_true, Bool.false_or]
  rfl
theorem r_meth {o : Expr} {name : Str} {apos pos : Pos} {args : List Expr} {Q : AV → St → Prop} (h : EV B f n hd (eval o f.env) σ (fun ov σ₁ => EM B f n hd pos name ov args σ₁ Q X) X)
    (hb : plainBase o = true) (hp : args.all plainArg = true) (hl : args.length < 20) (hline : (apos.endLine == pos.line) = true) :
    EV B f n hd (eval (.Call (.Attribute o name apos) args [] pos) f.env) σ Q X := fun A s hA hs =>
  MethodCall_ (pl := do return (← importBound o f.env).getD true) (h.go (Q' := Q) (R' := vrel B) hA hs fun r s₁ v σ₁ h₁ st₁ hv q =>
    wpAny_mono (q _ A s₁ r hA h₁ hv) (fun fx s₂ z => wpAny_mono z (fun _ _ q => q.back st₁) fun _ _ q => q.back st₁) fun _ _ q => q.back st₁) (meth_form hb hp hl hline)
end
end Mine
end
section
open PySem PySem.W PyProof.Rows PySem.Calls
namespace Mine
section
variable {B : BC} {f : Fc} {n : Nat} {hd : Option Value} {σ : St} {X : Addr → St → Prop} {s : Shared} {h' : Heap} {tk : Nat} {A : Around} {E : Value → Shared → Prop}
theorem ns_slots {h : Heap} {a : Addr} {m : Str → Option Value} (hn : h.Ns a m) (k : ∀ o, h.get? a = some o → ∃ sl, h'.get? a = some { o with slots := sl }) : h'.Ns a m := by
  obtain ⟨o, es, ep, ho, hd, r⟩ := hn
  obtain ⟨sl, e⟩ := k o ho
  exact ⟨_, es, ep, e, hd, r⟩
theorem RS.soft (hs : RS B f σ s) (k : ∀ a o, s.heap.get? a = some o → a ∉ frs f.Fs → h'.get? a = some o ∨ (TbOk o ∧ B.base.get? a = none ∧ ¬ PP f σ.H a ∧ ∃ o', h'.get? a = some o' ∧ TbOk o'))
    (fr : ∀ a ∈ frs f.Fs, ∀ o, s.heap.get? a = some o → ∃ sl, h'.get? a = some { o with slots := sl }) : RS B f σ { s with heap := h', toks := tk } ∧ SStep f σ s σ { s with heap := h', toks := tk } := by
  have alive : ∀ a o, s.heap.get? a = some o → ∃ o', h'.get? a = some o' := fun a o e => by
    by_cases m : a ∈ frs f.Fs
    · obtain ⟨sl, q⟩ := fr a m o e; exact ⟨_, q⟩
    · rcases k a o e m with q | ⟨_, _, _, o', q, _⟩
      · exact ⟨o, q⟩
      · exact ⟨o', q⟩
  have inP : ∀ a o, s.heap.get? a = some o → a ∉ frs f.Fs → PP f σ.H a → h'.get? a = some o := fun a o e m p => by
    rcases k a o e m with q | ⟨_, _, np, _⟩
    · exact q
    · exact absurd p np
  have st : Step (PP f σ.H) f.fr f.hid s.heap (PP f σ.H) h' := by
    refine ⟨fun a o e np => ?_, fun a m o e => fr a (hs.ok.frL a m) o e, fun a m o e => inP a o e (fun q => hs.rh.apart a q (List.mem_append_right _ m)) (.inr (.inr (List.mem_append_right _ m))), fun _ _ _ n => n, alive⟩
    rcases k a o e (fun m => np (.inr (.inl m))) with q | ⟨t, _, _, o', q, t'⟩
    · exact .inl q
    · exact .inr ⟨t, o', q, t'⟩
  have nsk : ∀ m, s.heap.Ns f.env.locals m → h'.Ns f.env.locals m := fun m hm => ns_slots hm fun o e => by
    rcases hs.ok.loc with q | q
    · exact fr _ (by rw [q]; show f.L ∈ List.filterMap _ (f.fenv :: f.outer); rw [List.filterMap_cons, hs.ok.ffr]; exact .head _) o e
    · exact ⟨o.slots, inP _ o e (fun m => hs.rh.apart _ m (List.mem_append_left _ q)) (.inr (.inr (List.mem_append_left _ q)))⟩
  have ownk : ∀ c ∈ f.own, ∀ o, s.heap.get? c = some o → h'.get? c = some o := fun c hc o e =>
    inP c o e (fun m => hs.rh.apart _ m (List.mem_append_left _ hc)) (.inr (.inr (List.mem_append_left _ hc)))
  refine ⟨⟨⟨fun a o e => ?_, hs.rh.gens, hs.rh.os, fun a c e => (hs.rh.cells a c e).step st fun o e' => inP a o e' (fun m => ?_) (.inl (by rw [e]; simp)), hs.rh.nb, fun a q => let ⟨o, e⟩ := hs.rh.live a q; alive a o e, hs.rh.disj, hs.rh.apart, ?_⟩, hs.ok, ?_, fun x c hx hk hl => ?_, fun i x v hi hv => ?_, fun p hp c hc hl hk => let ⟨rv, e, hr⟩ := hs.cap p hp c hc hl hk; ⟨rv, cell_via e fun o z => inP c o z (fun m => hs.rh.apart _ m (List.mem_append_right _ hc)) (.inr (.inr (List.mem_append_right _ hc))), hr.step st⟩⟩, st⟩
  · have q := hs.rh.base a o e
    have nd : ¬ PP f σ.H a := fun p => by have := hs.rh.nb a p; rw [e] at this; cases this
    rcases k a o q (fun m => nd (.inr (.inl m))) with z | ⟨_, z, _⟩
    · exact z
    · rw [e] at z; cases z
  · have := hs.rh.disj a (.inl m); rw [e] at this; cases this
  · refine funFrames_of hs.rh.stk fun b o m e d => ?_
    obtain ⟨sl, q⟩ := fr b m o e
    exact ⟨_, q, d⟩
  · obtain ⟨m, hm⟩ := hs.ns; exact ⟨m, nsk m hm⟩
  · obtain ⟨o, ho, z⟩ := hs.cel x c hx hk hl
    obtain ⟨_, _, q⟩ := hs.ok.nm x hx
    rcases q with q | ⟨_, c', hc', _, hl'⟩
    · rcases hk with z | z <;> rw [q] at z <;> cases z
    · rw [hl] at hl'; cases hl'
      exact ⟨o, ownk c hc' o ho, z⟩
  · obtain ⟨rv, hn, hr⟩ := hs.loc i x v hi hv
    refine ⟨rv, ?_, hr.step st⟩
    rcases hn with ⟨a1, m, hm, e⟩ | ⟨a1, c, hc, hl, ho⟩
    · exact .inl ⟨a1, m, nsk m hm, e⟩
    · exact .inr ⟨a1, c, hc, hl, cell_via ho (ownk c hc)⟩
theorem tb_set {h : Heap} {T : Addr} {oT : Obj} (hT : h.get? T = some oT) (ht : TbOk oT) (k : Nat) (v : Value) : ∃ o', (h.update T (Obj.mapFields (·.setIfInBounds k v))).get? T = some o' ∧ TbOk o' := by
  obtain ⟨hc, vs, hv, hz⟩ := ht
  have hd := Obj.data_mapFields hv (·.setIfInBounds k v)
  exact ⟨_, Heap.get?_update_self _ hT (Obj.isFreed_of_fields hd), (Obj.cls_mapFields _ _).trans hc, _, hd, by simpa using hz⟩
theorem RS.tb (hs : RS B f σ s) {T : Addr} (hT : TbAt B.base (PP f σ.H) s.heap T) (k : Nat) (v : Value) : RS B f σ { s with heap := s.heap.update T (Obj.mapFields (·.setIfInBounds k v)), toks := tk } ∧ SStep f σ s σ { s with heap := s.heap.update T (Obj.mapFields (·.setIfInBounds k v)), toks := tk } := by
  obtain ⟨⟨oT, ho, hok⟩, hb, hn⟩ := hT
  have hsb : Heap.SameBut T s.heap (s.heap.update T (Obj.mapFields (·.setIfInBounds k v))) := .update ..
  refine hs.soft (fun a o e m => ?_) fun a m o e => ⟨o.slots, (hsb.2 a fun q => hn (.inr (.inl (q ▸ m)))).trans e⟩
  by_cases q : a = T
  · subst q; rw [ho] at e; cases e; exact .inr ⟨hok, hb, hn, tb_set ho hok k v⟩
  · exact .inl ((hsb.2 a q).trans e)
theorem exc_real (hs : RS B f σ s) {a C : Addr} {d : Option Addr} {tr : Bool} (ha : σ.H a = some (.exc C d tr)) : ∃ vs : List Value, s.heap.get? a = some ⟨.ref C, d, .fields vs.toArray, #[]⟩ ∧ vs.length = 6 ∧
      ((tr = false ∧ vs[1]? = some .none) ∨ (tr = true ∧ ∃ T, vs[1]? = some (.ref T) ∧ TbAt B.base (PP f σ.H) s.heap T)) := hs.rh.cells a _ ha
theorem set_flight (hs : RS B f σ s) {a C : Addr} {d : Option Addr} (ha : σ.H a = some (.exc C d true)) {fr : Option Addr} {Q : Unit → Shared → Prop} (h : ∀ s', RS B f σ s' → SStep f σ s σ s' → Q () s') : wpAny (model B.prog B.w) A (setFlight (.ref a) fr) Q E s := by
  obtain ⟨vs, ho, hz, hv⟩ := exc_real hs ha
  rcases hv with ⟨q, _⟩ | ⟨_, T, h1, hT⟩
  · cases q
  · have hT' := hT
    obtain ⟨⟨oT, hoT, hok⟩, _⟩ := hT
    obtain ⟨hc, ts, hts, h4⟩ := hok
    unfold setFlight
    refine wpAny_bind (wpAny_field ho rfl (by simpa using h1) ?_)
    rw [if_pos (show (Value.ref T != Value.none) = true from by simp)]
    have g := hs.tb (tk := s.toks) hT' 3 (fr.elim .none fun f => rawInt f)
    exact wpAny_setField hoT hts (by omega) (h _ g.1 g.2)
theorem put_get {H : AH} {a : Addr} {c : Option Cell} : (H.put a c) a = c := if_pos rfl
theorem put_ne {H : AH} {a b : Addr} {c : Option Cell} (h : b ≠ a) : (H.put a c) b = H b := if_neg h
set_option tactic.hygienic true in
theorem put_self {H : AH} {a : Addr} {c : Option Cell} (h : H a = c) : H.put a c = H := by
  funext b
  unfold AH.put
  split
  · rename_i q; rw [q, h]
  · rfl
theorem note_frame (hs : RS B f σ s) {a C : Addr} {d : Option Addr} {tr : Bool} (ha : σ.H a = some (.exc C d tr)) (hA : A.frames = some f.Fs) {env : Env} (hf : env.frame = some f.L) {Q : Unit → Shared → Prop}
    (h : ∀ s', RS B f ⟨σ.loc, σ.H.put a (some (.exc C d true))⟩ s' → SStep f σ s ⟨σ.loc, σ.H.put a (some (.exc C d true))⟩ s' → Q () s') : wpAny (model B.prog B.w) A (noteFrame (.ref a) env) Q E s := by
  have rest : ∀ (s₁ : Shared), RS B f σ s₁ → SStep f σ s σ s₁ → ∀ (head : Value) (b : Bool), wpAny (model B.prog B.w) A (do let x ← frameOf env; let pl ← entryPlaceOf f.L b; let t ← EntryCells.newEntry head x .none (rawInt f.L) .none pl; setField (.ref a) 1 t) Q E s₁ := by
    intro s₁ hs₁ st₁ head b
    have hdw : (f.Fs.dropWhile fun x => x.frame != env.frame) = f.Fs := by
      show List.dropWhile _ (f.fenv :: f.outer) = _
      rw [List.dropWhile_cons, hs.ok.ffr, hf]; simp
    have ff : ∀ {P : Value → Shared → Prop}, (∀ h', Heap.SlotsOnly (frs f.Fs) s₁.heap h' → P (.ref f.L) { s₁ with heap := h' }) → wpAny (model B.prog B.w) A (frameOf env) P E s₁ := fun k => by
      unfold PySem.frameOf
      refine wpAny_bind (wpAny_frameEnvs hA ?_)
      rw [hdw]
      unfold frameObject
      refine wpAny_bind (wpAny_bind (wpAny_readyFrames_fun hs₁.rh.stk fun h₁ q => wpAny_pure ?_))
      rw [show f.fenv.frame = some f.L from hs.ok.ffr]
      exact wpAny_pure (k h₁ q)
    refine wpAny_bind (ff fun h₂ q₂ => ?_)
    have g₂ := hs₁.soft (h' := h₂) (tk := s₁.toks) (fun a' o e m => .inl ((q₂.2.1 a' m).trans e)) fun a' _ o e => q₂.2.2 a' o e
    refine wpAny_bind (wpAny_entryPlaceOf fun pl hpl => ?_)
    unfold EntryCells.newEntry newFields
    refine wpAny_bind (wpAny_newObj_type ?_ (hpl.sizeOk5 _ _ _ _ _))
    obtain ⟨vs, ho, hz, hv⟩ := exc_real g₂.1 ha
    have ho₃ := Heap.get?_push_of_some (h := h₂) { cls := .type "traceback", dict := none, data := .fields ([head, .ref f.L, .none, rawInt f.L, .none] ++ (if pl.isEmpty then List.replicate 6 Value.none else pl)).toArray } ho
    refine wpAny_setField ho₃ rfl (by simp [hz]) ?_
    generalize hob : ({ cls := .type "traceback", dict := none, data := .fields ([head, .ref f.L, .none, rawInt f.L, .none] ++ (if pl.isEmpty then List.replicate 6 Value.none else pl)).toArray } : Obj) = ob at ho₃ ⊢
    have htb : TbOk ob := by subst hob; exact ⟨rfl, _, rfl, by simp⟩
    have hbf : ob.isFreed = false := by subst hob; rfl
    have g₃ := g₂.1.grow (tk := s₁.toks) (push_keeps h₂ ob)
    have he : (h₂.push ob).get? a = some ⟨.ref C, d, .fields vs.toArray, #[]⟩ := ho₃
    have hsb : Heap.SameBut a (h₂.push ob) ((h₂.push ob).update a (Obj.mapFields (·.setIfInBounds 1 (Value.ref h₂.objs.size)))) := .update ..
    have hg : ((h₂.push ob).update a (Obj.mapFields (·.setIfInBounds 1 (Value.ref h₂.objs.size)))).get? a = some ⟨.ref C, d, .fields (vs.set 1 (.ref h₂.objs.size)).toArray, #[]⟩ := by
      rw [Heap.get?_update_self _ he rfl]
      simp [Obj.mapFields]
    have hne : h₂.objs.size ≠ a := Nat.ne_of_gt (Heap.lt_size ho)
    have hT : ((h₂.push ob).update a (Obj.mapFields (·.setIfInBounds 1 (Value.ref h₂.objs.size)))).get? h₂.objs.size = some ob := (hsb.2 _ hne).trans (Heap.get?_push_size _ hbf)
    have nP : ¬ PP f σ.H h₂.objs.size := none_dm g₂.1 (size_none _)
    have nP' : ¬ PP f (σ.H.put a (some (.exc C d true))) h₂.objs.size := fun q => nP (by
      rcases q with q | q
      · left; rwa [put_ne hne] at q
      · exact .inr q)
    have u := RS.upd (tk := s₁.toks) (c := .exc C d true) g₃.1 ha ⟨_, hg⟩ hsb ⟨_, hg, by simp [hz], .inr ⟨rfl, h₂.objs.size, by simp [hz], ⟨⟨ob, hT, htb⟩, base_none g₂.1 (size_none _), nP'⟩⟩⟩
    have us := upd_step (tk := s₁.toks) (c := .exc C d true) g₃.1 ha ⟨_, hg⟩ hsb
    exact h _ u (st₁.trans (g₂.2.trans (g₃.2.trans us)))
  obtain ⟨vs, ho, hz, hv⟩ := exc_real hs ha
  unfold noteFrame
  simp only [hf]
  rcases hv with ⟨q, h1⟩ | ⟨q, T, h1, hT⟩
  · refine wpAny_bind (wpAny_field ho rfl (by simpa using h1) ?_)
    rw [if_neg (by decide)]
    exact rest s hs .refl .none (Value.none != .none)
  · have hT' := hT
    obtain ⟨⟨oT, hoT, hok⟩, _⟩ := hT
    obtain ⟨hc, ts, hts, h4⟩ := hok
    obtain ⟨t3, ht3⟩ : ∃ t3, ts[3]? = some t3 := ⟨_, Array.getElem?_eq_getElem (by omega)⟩
    refine wpAny_bind (wpAny_field ho rfl (by simpa using h1) ?_)
    rw [if_pos (show (Value.ref T != Value.none) = true from by simp)]
    refine wpAny_bind (wpAny_field hoT hts ht3 ?_)
    split
    · refine wpAny_pure ?_
      subst q
      rw [put_self ha] at h
      exact h s hs .refl
    · have g := hs.tb (tk := s.toks) hT' 3 .none
      refine wpAny_bind ?_
      refine wpAny_setField hoT hts (by omega) ?_
      exact rest _ g.1 g.2 (.ref T) _
theorem ErP.note {e : Value} {s' : Shared} {A' : Around} (hA : A'.frames = some f.Fs) (x : ErP B f σ s X e s') {env : Env} (hf : env.frame = some f.L) {Q : Value → Shared → Prop} (h : ∀ s'', ErT B f σ s X e s'' → Q e s'') :
    wpAny (model B.prog B.w) A' (noteFrame e env) (fun _ s'' => Q e s'') E s' := by
  obtain ⟨a, σ', C, d, tr, r, st, hc, q⟩ := x
  exact note_frame r hc hA hf fun s'' r' st' => h s'' ⟨a, _, C, d, r', st.trans st', put_get, q⟩
theorem ErT.er {e : Value} {s' : Shared} (x : ErT B f σ s X e s') : ErP B f σ s X e s' := by
  obtain ⟨a, σ', C, d, r, st, hc, q⟩ := x
  exact ⟨a, σ', C, d, true, r, st, hc, by rw [put_self hc]; exact q⟩
theorem ErT.came {e : Value} {s' : Shared} (x : ErT B f σ s X e s') : cameBackBy (model B.prog B.w) A f.env (ErP B f σ s X) e s' := by
  obtain ⟨a, σ', C, d, r, st, hc, q⟩ := x
  obtain ⟨vs, ho, hz, hv⟩ := exc_real r hc
  rcases hv with ⟨z, _⟩ | ⟨_, T, h1, hT⟩
  · cases z
  · unfold cameBackBy
    refine wpAny_bind (wpAny_field ho rfl (by simpa using h1) ?_)
    rw [if_neg (by simp)]
    exact set_flight r hc fun s'' r' st' => (ErT.er ⟨a, σ', C, d, r', st.trans st', hc, q⟩)
end
end Mine
end
section
open PySem PySem.W PyProof.Rows PySem.Calls
namespace Mine
section
variable {B : BC} {f : Fc} {n : Nat} {hd : Option Value} {σ : St} {X : Addr → St → Prop} {α β α' β' : Type} {R : RelT α β} {σ₀ : St} {s₀ s : Shared} {A : Around}
theorem EX.via {t : Sem α} {Q : β → St → Prop} {k : α → Shared → Prop} (h : EX B f n hd R t σ Q X) (hA : AOk f n hd A) (hs : RS B f σ s) (st : SStep f σ₀ s₀ σ s)
    (next : ∀ r s', ∀ v σ', RS B f σ' s' → SStep f σ₀ s₀ σ' s' → SStep f σ s σ' s' → R (PP f σ'.H) s'.heap v r → Q v σ' → k r s') : wpAny (model B.prog B.w) A t k (ErP B f σ₀ s₀ X) s :=
  wpAny_mono (h A s hA hs) (fun r s' ⟨v, σ', a, b, c, d⟩ => next r s' v σ' a (st.trans b) b c d) fun _ _ q => q.back st
theorem EO1.via {a : AV} {r₀ : Value} {t : Value → Sem α} {Q : β → St → Prop} {k : α → Shared → Prop} (h : EO1 B f n hd R a t σ Q X) (hA : AOk f n hd A) (hs : RS B f σ s) (st : SStep f σ₀ s₀ σ s) (ha : VR B.prog B.w (PP f σ.H) s.heap a r₀)
    (next : ∀ r s', ∀ v σ', RS B f σ' s' → SStep f σ₀ s₀ σ' s' → SStep f σ s σ' s' → R (PP f σ'.H) s'.heap v r → Q v σ' → k r s') : wpAny (model B.prog B.w) A (t r₀) k (ErP B f σ₀ s₀ X) s :=
  wpAny_mono (h A s r₀ hA hs ha) (fun r s' ⟨v, σ', a, b, c, d⟩ => next r s' v σ' a (st.trans b) b c d) fun _ _ q => q.back st
theorem EO2.via {a b : AV} {r₀ r₁ : Value} {t : Value → Value → Sem α} {Q : β → St → Prop} {k : α → Shared → Prop} (h : EO2 B f n hd R a b t σ Q X) (hA : AOk f n hd A) (hs : RS B f σ s) (st : SStep f σ₀ s₀ σ s) (ha : VR B.prog B.w (PP f σ.H) s.heap a r₀) (hb : VR B.prog B.w (PP f σ.H) s.heap b r₁)
    (next : ∀ r s', ∀ v σ', RS B f σ' s' → SStep f σ₀ s₀ σ' s' → SStep f σ s σ' s' → R (PP f σ'.H) s'.heap v r → Q v σ' → k r s') : wpAny (model B.prog B.w) A (t r₀ r₁) k (ErP B f σ₀ s₀ X) s :=
  wpAny_mono (h A s r₀ r₁ hA hs ha hb) (fun r s' ⟨v, σ', a, b, c, d⟩ => next r s' v σ' a (st.trans b) b c d) fun _ _ q => q.back st
theorem EO3.via {a b c : AV} {r₀ r₁ r₂ : Value} {t : Value → Value → Value → Sem α} {Q : β → St → Prop} {k : α → Shared → Prop} (h : EO3 B f n hd R a b c t σ Q X) (hA : AOk f n hd A) (hs : RS B f σ s) (st : SStep f σ₀ s₀ σ s) (ha : VR B.prog B.w (PP f σ.H) s.heap a r₀) (hb : VR B.prog B.w (PP f σ.H) s.heap b r₁) (hc : VR B.prog B.w (PP f σ.H) s.heap c r₂)
    (next : ∀ r s', ∀ v σ', RS B f σ' s' → SStep f σ₀ s₀ σ' s' → SStep f σ s σ' s' → R (PP f σ'.H) s'.heap v r → Q v σ' → k r s') : wpAny (model B.prog B.w) A (t r₀ r₁ r₂) k (ErP B f σ₀ s₀ X) s :=
  wpAny_mono (h A s r₀ r₁ r₂ hA hs ha hb hc) (fun r s' ⟨v, σ', a, b, c, d⟩ => next r s' v σ' a (st.trans b) b c d) fun _ _ q => q.back st
noncomputable def nk (N : St → Prop) (K : AFlow → St → Prop) : AFlow → St → Prop
  | .next, σ => N σ
  | fl, σ => K fl σ
noncomputable abbrev ES (B : BC) (f : Fc) (n : Nat) (hd : Option Value) (t : Sem Flow) (σ : St) (N : St → Prop) (K : AFlow → St → Prop) (X : Addr → St → Prop) : Prop := EF B f n hd t σ (nk N K) X
variable {N : St → Prop} {K : AFlow → St → Prop}
theorem OkP.next (hs : RS B f σ s) (st : SStep f σ₀ s₀ σ s) (h : N σ) : OkP B f (frel B) σ₀ s₀ (nk N K) .next s := ⟨.next, σ, hs, st, .next, h⟩
theorem r_nil (h : N σ) : ES B f n hd (execs [] f.env) σ N K X := fun A s hA hs => wpAny_execs_nil (OkP.next hs .refl h)
theorem r_cons {st : Stmt} {rest : List Stmt} (h : ES B f n hd (exec st f.env) σ (fun σ₁ => ES B f n hd (execs rest f.env) σ₁ N K X) K X) : ES B f n hd (execs (st :: rest) f.env) σ N K X := fun A s hA hs =>
  wpAny_execs_cons (h.via hA hs .refl fun r s₁ v σ₁ h₁ st₁ _ hr q => by
    cases hr with
    | next => exact backW st₁ (q A s₁ hA h₁)
    | brk => exact ⟨_, σ₁, h₁, st₁, .brk, q⟩
    | cont => exact ⟨_, σ₁, h₁, st₁, .cont, q⟩
    | ret hr => exact ⟨_, σ₁, h₁, st₁, .ret hr, q⟩)
theorem r_pass {pos : Pos} (h : N σ) : ES B f n hd (exec (.Pass pos) f.env) σ N K X := fun A s hA hs => wpAny_Pass (OkP.next hs .refl h)
theorem r_break {pos : Pos} (h : K .brk σ) : ES B f n hd (exec (.Break pos) f.env) σ N K X := fun A s hA hs => wpAny_Break ⟨.brk, σ, hs, .refl, .brk, h⟩
theorem r_continue {pos : Pos} (h : K .cont σ) : ES B f n hd (exec (.Continue pos) f.env) σ N K X := fun A s hA hs => wpAny_Continue ⟨.cont, σ, hs, .refl, .cont, h⟩
theorem r_return {e : Expr} {pos : Pos} (h : EV B f n hd (eval e f.env) σ (fun v => K (.ret v)) X) : ES B f n hd (exec (.Return (some e) pos) f.env) σ N K X := fun A s hA hs =>
  wpAny_Return_some (h.via hA hs .refl fun r s₁ v σ₁ h₁ st₁ _ hr q => ⟨.ret v, σ₁, h₁, st₁, .ret hr, q⟩)
theorem r_return_none {pos : Pos} (h : K (.ret .none) σ) : ES B f n hd (exec (.Return none pos) f.env) σ N K X := fun A s hA hs => wpAny_Return_none ⟨.ret .none, σ, hs, .refl, .ret .none, h⟩
theorem r_if {test : Expr} {body orelse : List Stmt} {pos : Pos} (h : EB B f n hd (isTrue test f.env (eval test f.env)) σ (fun b σ₁ => if b = true then ES B f n hd (execs body f.env) σ₁ N K X else ES B f n hd (execs orelse f.env) σ₁ N K X) X) :
    ES B f n hd (exec (.If test body orelse pos) f.env) σ N K X := fun A s hA hs =>
  wpAny_If (h.via hA hs .refl fun r s₁ v σ₁ h₁ st₁ _ hr q => by
    subst hr
    cases r with
    | true => exact backW st₁ (q A s₁ hA h₁)
    | false => exact backW st₁ (q A s₁ hA h₁))
theorem not_interactive (hs : RS B f σ s) : interactive f.env = false := by unfold interactive; rw [hs.ok.kind]; rfl
theorem r_expr {e : Expr} {pos : Pos} (h : EV B f n hd (eval e f.env) σ (fun _ => N) X) (hs' : ∀ l env, swapsWith e none l env = pure false) : ES B f n hd (exec (.Expr e pos) f.env) σ N K X := fun A s hA hs =>
  wpAny_Expr_any (h.via hA hs .refl fun r s₁ v σ₁ h₁ st₁ _ hr q => .next h₁ st₁ q) (not_interactive hs) (hs' _ _)
theorem set_local {x : Str} {i : Nat} {v : AV} {rv : Value} (hi : Idx f.names x i) (hs : RS B f σ s) (st : SStep f σ₀ s₀ σ s) (hv : VR B.prog B.w (PP f σ.H) s.heap v rv) {k : Unit → Shared → Prop} {E : Value → Shared → Prop}
    (next : ∀ s', RS B f ⟨σ.loc.set i (some v), σ.H⟩ s' → SStep f σ₀ s₀ ⟨σ.loc.set i (some v), σ.H⟩ s' → k () s') : wpAny (model B.prog B.w) A (storeName f.env x rv) k E s :=
  wpAny_mono (store_name (Q := fun σ' => σ' = ⟨σ.loc.set i (some v), σ.H⟩) hi rfl hs hv) (fun u s' ⟨_, σ', a, b, _, d⟩ => by subst d; exact next s' a (st.trans b)) fun _ _ q => q
theorem r_set {x : Str} {xp pos : Pos} {value : Expr} (h : EV B f n hd (eval value f.env) σ (fun v σ₁ => ∃ i, Idx f.names x i ∧ N ⟨σ₁.loc.set i (some v), σ₁.H⟩) X)
    (hs' : ∀ l env, swapsWith value (some (.Name x xp)) l env = pure false) : ES B f n hd (exec (.Assign [.Name x xp] value pos) f.env) σ N K X := fun A s hA hs =>
  wpAny_Assign_Name (h.via hA hs .refl fun r s₁ v σ₁ h₁ st₁ _ hr ⟨i, hi, q⟩ => set_local hi h₁ st₁ hr fun s₂ h₂ st₂ => .next h₂ st₂ q) (hs' _ _)
inductive Stores (f : Fc) (Q : St → Prop) : List Expr → List AV → St → Prop
  | nil {σ : St} : Q σ → Stores f Q [] [] σ
  | cons {x : Str} {p : Pos} {es : List Expr} {v : AV} {vs : List AV} {σ : St} {i : Nat} : Idx f.names x i → Stores f Q es vs ⟨σ.loc.set i (some v), σ.H⟩ → Stores f Q (.Name x p :: es) (v :: vs) σ
theorem stores_go {es : List Expr} {vs : List AV} {σ : St} {Q : St → Prop} (h : Stores f Q es vs σ) {k : Unit → Shared → Prop} {E : Value → Shared → Prop} : ∀ {rs : List Value} {s : Shared}, RS B f σ s → SStep f σ₀ s₀ σ s → VRs B.prog B.w (PP f σ.H) s.heap vs rs →
    (∀ σ' s', RS B f σ' s' → SStep f σ₀ s₀ σ' s' → Q σ' → k () s') → wpAny (model B.prog B.w) A (assignInOrder ((assignEach es f.env).map (·.2)) rs) k E s := by
  induction h with
  | nil q =>
    intro rs s hs st hv next
    exact hv.e0 (assignInOrder_nil (next _ s hs st q))
  | @cons x p es v vs σ i hi h ih =>
    intro rs s hs st hv next
    refine hv.ec fun r rs hr hrs => ?_
    show wpAny _ _ (assignInOrder (assign (.Name x p) f.env :: (assignEach es f.env).map (·.2)) (r :: rs)) _ _ _
    refine assignInOrder_cons (PyProof.Rows.assign_Name ?_)
    refine wpAny_mono (store_name (Q := fun σ' => σ' = ⟨σ.loc.set i (some v), σ.H⟩) hi rfl hs hr) (fun u s' x => ?_) fun _ _ q => q
    obtain ⟨_, σ', a, b, _, d⟩ := x
    subst d
    exact ih a (st.trans b) (hrs.step b) next
theorem stores_len {es : List Expr} {vs : List AV} {σ : St} {Q : St → Prop} (h : Stores f Q es vs σ) (env : Env) : (assignEach es env).length = vs.length ∧ (assignEach es env).findIdx? (·.1) = none := by
  induction h with
  | nil => exact ⟨rfl, rfl⟩
  | @cons x p es v vs σ i hi h ih =>
    refine ⟨by show (assignEach es env).length + 1 = _; rw [ih.1]; rfl, ?_⟩
    show List.findIdx? _ ((false, assign (.Name x p) env) :: assignEach es env) = none
    rw [List.findIdx?_cons]
    simp [ih.2]
theorem unpack_go {elts : List Expr} {k : Nat} {pos : Pos} {xs : List AV} {r : Value} {Q : St → Prop} (h : Stores f Q elts xs σ) (hh : A.handled = none) (hs : RS B f σ s) (st : SStep f σ₀ s₀ σ s) (hv : VR B.prog B.w (PP f σ.H) s.heap (.tup xs) r)
    {kk : Unit → Shared → Prop} {E : Value → Shared → Prop} (next : ∀ σ' s', RS B f σ' s' → SStep f σ₀ s₀ σ' s' → Q σ' → kk () s') : wpAny (model B.prog B.w) A (assign (.Tuple elts k pos) f.env r) kk E s := by
  refine hv.eTup fun a items ht hn hvs => ?_
  obtain ⟨l1, l2⟩ := stores_len h f.env
  refine assign_Tuple_tuple hh ht (by rw [l1, hvs.length]; exact List.size_toArray) l2 fun h' hk => ?_
  have g := hs.grow (tk := s.toks) fun b o e => hk b o (Nat.ne_of_lt (Heap.lt_size e)) e
  exact stores_go h g.1 (st.trans g.2) (hvs.step g.2) next
theorem r_unpack {elts : List Expr} {k : Nat} {tpos pos : Pos} {value : Expr} (h : EV B f n none (eval value f.env) σ (fun v σ₁ => ∃ xs, v = .tup xs ∧ Stores f N elts xs σ₁) X)
    (hs' : ∀ l env, swapsWithSole [.Tuple elts k tpos] value l env = pure false) (hw : swappedStores [.Tuple elts k tpos] value f.env = pure none) :
    ES B f n none (exec (.Assign [.Tuple elts k tpos] value pos) f.env) σ N K X := fun A s hA hs =>
  Assign_Tuple (h.via hA hs .refl fun r s₁ v σ₁ h₁ st₁ _ hr ⟨xs, e, q⟩ => by
    subst e
    exact unpack_go q hA.hd h₁ st₁ hr fun σ' s' a b c => .next a b c) (hs' _ _) hw
theorem r_set_attr {o value : Expr} {attr : Str} {ap pos : Pos} (h : EV B f n hd (eval value f.env) σ (fun v σ₁ => EV B f n hd (eval o f.env) σ₁ (fun ov σ₂ => EO2 B f n hd (idrel (α := Unit)) ov v (fun a b => setAttr a attr b) σ₂ (fun _ => N) X) X) X)
    (hs' : ∀ l env, swapsWith value (some (.Attribute o attr ap)) l env = pure false) : ES B f n hd (exec (.Assign [.Attribute o attr ap] value pos) f.env) σ N K X := fun A s hA hs =>
  plainObj_wpAny_Assign_Attribute (h.via hA hs .refl fun r s₁ v σ₁ h₁ st₁ _ hr q => q.via hA h₁ st₁ fun r₂ s₂ v₂ σ₂ h₂ st₂ st₂' hr₂ q₂ => q₂.via hA h₂ st₂ hr₂ (hr.step st₂') fun _ s₃ _ σ₃ h₃ st₃ _ _ q₃ => .next h₃ st₃ q₃) (hs' _ _)
theorem r_set_sub {o i value : Expr} {ip pos : Pos} (h : EV B f n hd (eval value f.env) σ (fun v σ₁ => EV B f n hd (eval o f.env) σ₁ (fun ov σ₂ => EV B f n hd (eval i f.env) σ₂ (fun iv σ₃ => EO3 B f n hd (idrel (α := Unit)) ov iv v setItem σ₃ (fun _ => N) X) X) X) X)
    (hs' : ∀ l env, swapsWith value (some (.Subscript o i ip)) l env = pure false) : ES B f n hd (exec (.Assign [.Subscript o i ip] value pos) f.env) σ N K X := fun A s hA hs =>
  wpAny_Assign_Subscript (h.via hA hs .refl fun r s₁ v σ₁ h₁ st₁ _ hr q => q.via hA h₁ st₁ fun r₂ s₂ v₂ σ₂ h₂ st₂ st₂' hr₂ q₂ => q₂.via hA h₂ st₂ fun r₃ s₃ v₃ σ₃ h₃ st₃ st₃' hr₃ q₃ =>
    q₃.via hA h₃ st₃ (hr₂.step st₃') hr₃ ((hr.step st₂').step st₃') fun _ s₄ _ σ₄ h₄ st₄ _ _ q₄ => .next h₄ st₄ q₄) (hs' _ _)
theorem r_aug {x : Str} {xp pos : Pos} {op : Operator} {value : Expr} {i : Nat} {v₀ : AV} (hi : Idx f.names x i) (hv : σ.loc[i]? = some (some v₀))
    (h : EV B f n hd (eval value f.env) σ (fun v σ₁ => EO2 B f n hd (vrel B) v₀ v (inplaceOp op) σ₁ (fun r σ₂ => N ⟨σ₂.loc.set i (some r), σ₂.H⟩) X) X) : ES B f n hd (exec (.AugAssign (.Name x xp) op value pos) f.env) σ N K X := fun A s hA hs =>
  wpAny_AugAssign_Name (wpAny_mono (load_name (Q := fun v σ' => v = v₀ ∧ σ' = σ) hi hv ⟨rfl, rfl⟩ hs) (fun r s₁ ⟨v, σ₁, h₁, st₁, hr, e1, e2⟩ => by
    subst e1 e2
    exact h.via hA h₁ st₁ fun r₂ s₂ v₂ σ₂ h₂ st₂ st₂' hr₂ q₂ => q₂.via hA h₂ st₂ (hr.step st₂') hr₂ fun r₃ s₃ v₃ σ₃ h₃ st₃ _ hr₃ q₃ => set_local hi h₃ st₃ hr₃ fun s₄ h₄ st₄ => .next h₄ st₄ q₃) fun _ _ q => q)
theorem r_aug_attr {o value : Expr} {attr : Str} {ap pos : Pos} {op : Operator} (h : EV B f n hd (eval o f.env) σ (fun ov σ₁ => EO1 B f n hd (vrel B) ov (fun a => getAttr a attr true) σ₁ (fun old σ₂ => EV B f n hd (eval value f.env) σ₂ (fun v σ₃ =>
      EO2 B f n hd (vrel B) old v (inplaceOp op) σ₃ (fun r σ₄ => EO2 B f n hd (idrel (α := Unit)) ov r (fun a b => setAttr a attr b) σ₄ (fun _ => N) X) X) X) X) X) : ES B f n hd (exec (.AugAssign (.Attribute o attr ap) op value pos) f.env) σ N K X := fun A s hA hs =>
  wpAny_AugAssign_AttributeAny (h.via hA hs .refl fun r s₁ v σ₁ h₁ st₁ _ hr q => q.via hA h₁ st₁ hr fun r₂ s₂ v₂ σ₂ h₂ st₂ st₂' hr₂ q₂ => q₂.via hA h₂ st₂ fun r₃ s₃ v₃ σ₃ h₃ st₃ st₃' hr₃ q₃ =>
    q₃.via hA h₃ st₃ (hr₂.step st₃') hr₃ fun r₄ s₄ v₄ σ₄ h₄ st₄ st₄' hr₄ q₄ => q₄.via hA h₄ st₄ (((hr.step st₂').step st₃').step st₄') hr₄ fun _ s₅ _ σ₅ h₅ st₅ _ _ q₅ => .next h₅ st₅ q₅)
theorem r_aug_sub {o i value : Expr} {ip pos : Pos} {op : Operator} (h : EV B f n hd (eval o f.env) σ (fun ov σ₁ => EV B f n hd (eval i f.env) σ₁ (fun iv σ₂ => EO2 B f n hd (vrel B) ov iv getItem σ₂ (fun old σ₃ => EV B f n hd (eval value f.env) σ₃ (fun v σ₄ =>
      EO2 B f n hd (vrel B) old v (inplaceOp op) σ₄ (fun r σ₅ => EO3 B f n hd (idrel (α := Unit)) ov iv r setItem σ₅ (fun _ => N) X) X) X) X) X) X)
    (hi : ∀ ov iv new, augStore i ov iv new = (do holding [new, ov, iv] (setItem ov iv new); release [new, ov, iv] []; pure .next)) : ES B f n hd (exec (.AugAssign (.Subscript o i ip) op value pos) f.env) σ N K X := fun A s hA hs =>
  wpAny_AugAssign_SubscriptAny (h.via hA hs .refl fun r s₁ v σ₁ h₁ st₁ _ hr q => q.via hA h₁ st₁ fun r₂ s₂ v₂ σ₂ h₂ st₂ st₂' hr₂ q₂ => q₂.via hA h₂ st₂ (hr.step st₂') hr₂ fun r₃ s₃ v₃ σ₃ h₃ st₃ st₃' hr₃ q₃ =>
    q₃.via hA h₃ st₃ fun r₄ s₄ v₄ σ₄ h₄ st₄ st₄' hr₄ q₄ => q₄.via hA h₄ st₄ (hr₃.step st₄') hr₄ fun r₅ s₅ v₅ σ₅ h₅ st₅ st₅' hr₅ q₅ =>
      q₅.via hA h₅ st₅ ((((hr.step st₂').step st₃').step st₄').step st₅') (((hr₂.step st₃').step st₄').step st₅') hr₅ fun _ s₆ _ σ₆ h₆ st₆ _ _ q₆ => .next h₆ st₆ q₆) hi
end
end Mine
end
section
open PySem PySem.W PyProof.Rows PySem.Calls
namespace Mine
noncomputable def Held (o : Obj) : Prop := o.cls = .type "tuple" ∨ o.cls = .type "list" ∨ o.cls = .type "dict" ∨ o.cls = .type "traceback"
section
variable {prog : Program} {w : World} {P S : Addr → Prop} {h : Heap}
theorem ne_of_held {a : Addr} {o : Obj} (hi : ∀ a, S a → ∃ oi, h.get? a = some oi ∧ ¬ Held oi) (ho : h.get? a = some o) (hh : Held o) : ¬ S a := fun q => by
  obtain ⟨oi, e, hc⟩ := hi a q; rw [ho] at e; cases e; exact hc hh
theorem VR.avoid (hi : ∀ a, S a → ∃ oi, h.get? a = some oi ∧ ¬ Held oi) {v : AV} {r : Value} (q : VR prog w P h v r) : VR prog w (fun a => P a ∨ S a) h v r :=
  q.map fun _ _ e hc n => ⟨e, fun q => q.elim n (ne_of_held hi e (hc.imp_right fun q => q.imp_right .inl))⟩
theorem VRs.avoid (hi : ∀ a, S a → ∃ oi, h.get? a = some oi ∧ ¬ Held oi) {v : List AV} {r : List Value} (q : VRs prog w P h v r) : VRs prog w (fun a => P a ∨ S a) h v r := q.imp fun _ _ => VR.avoid hi
theorem VRd.avoid (hi : ∀ a, S a → ∃ oi, h.get? a = some oi ∧ ¬ Held oi) {v : List (Str × AV)} {r : List (Str × Value)} (q : VRd prog w P h v r) : VRd prog w (fun a => P a ∨ S a) h v r := q.imp fun _ _ => VR.avoid hi
end
section
variable {B : BC} {f : Fc} {n : Nat} {hd : Option Value} {σ : St} {X : Addr → St → Prop} {s : Shared} {A : Around} {E : Value → Shared → Prop}
theorem Real.avoid {P S : Addr → Prop} {h : Heap} {a : Addr} {c : Cell} (hi : ∀ a, S a → ∃ oi, h.get? a = some oi ∧ ¬ Held oi) : Real B P h a c → Real B (fun a => P a ∨ S a) h a c := by
  cases c with
  | list xs => rintro ⟨items, q, r⟩; exact ⟨items, q, r.avoid hi⟩
  | dict es => rintro ⟨m, z, kvs, q, r⟩; exact ⟨m, z, kvs, q, r.avoid hi⟩
  | inst C d => exact id
  | ns es => rintro ⟨nd, nz, kvs, q, r⟩; exact ⟨nd, nz, kvs, q, r.avoid hi⟩
  | exc C d tr =>
    rintro ⟨vs, q, l, r⟩
    refine ⟨vs, q, l, r.imp id fun ⟨y, T, z, ⟨o, ho, hT⟩, hb, hP⟩ => ⟨y, T, z, ⟨o, ho, hT⟩, hb, fun q => q.elim hP (ne_of_held hi ho (.inr (.inr (.inr hT.1))))⟩⟩
structure ItStep (B : BC) (f : Fc) (σ : St) (s s' : Shared) (S : Addr → Prop) : Prop where
  rs : RS B f σ s'
  vr : ∀ v r, VR B.prog B.w (PP f σ.H) s.heap v r → VR B.prog B.w (PP f σ.H) s'.heap v r
  vrs : ∀ v r, VRs B.prog B.w (PP f σ.H) s.heap v r → VRs B.prog B.w (PP f σ.H) s'.heap v r
  st : ∀ σ₀ s₀, (∀ a, S a → s₀.heap.get? a = none) → SStep f σ₀ s₀ σ s → SStep f σ₀ s₀ σ s'
  keep : ∀ b o, ¬ S b → s.heap.get? b = some o → s'.heap.get? b = some o
theorem RS.iter (hs : RS B f σ s) {S : Addr → Prop} {h' : Heap} {tk : Nat} (hb : ∀ a, S a → B.base.get? a = none) (hn : ∀ a, S a → ¬ PP f σ.H a) (hi : ∀ a, S a → ∃ oi, s.heap.get? a = some oi ∧ ¬ Held oi)
    (hk : ∀ b o, ¬ S b → s.heap.get? b = some o → h'.get? b = some o) : ItStep B f σ s { s with heap := h', toks := tk } S := by
  have alive : ∀ a o, ¬ S a → s.heap.get? a = some o → ∃ o', h'.get? a = some o' := fun a o q e => ⟨o, hk a o q e⟩
  have inP : ∀ a o, PP f σ.H a → s.heap.get? a = some o → h'.get? a = some o := fun a o p e => hk a o (fun q => hn a q p) e
  have sub : ∀ a, a ∈ f.fr ∨ a ∈ f.hid ∨ a ∈ f.own ∨ a ∈ frs f.Fs → PP f σ.H a := fun a m => by
    rcases m with m | m | m | m
    · exact .inr (.inl (hs.ok.frL a m))
    · exact .inr (.inr (List.mem_append_right _ m))
    · exact .inr (.inr (List.mem_append_left _ m))
    · exact .inr (.inl m)
  have st : Kp (fun a => PP f σ.H a ∨ S a) s.heap (PP f σ.H) h' :=
    ⟨fun a o e np => .inl (hk a o (fun q => np (.inr q)) e), fun _ _ _ np p => np (.inl p)⟩
  have loc : f.env.locals ∈ frs f.Fs ∨ f.env.locals ∈ f.own := ns_own hs
  have hl : PP f σ.H f.env.locals := sub _ (loc.elim (fun q => .inr (.inr (.inr q))) fun q => .inr (.inr (.inl q)))
  have nsk : ∀ m, s.heap.Ns f.env.locals m → h'.Ns f.env.locals m := fun m ⟨o, es, ep, ho, r⟩ => ⟨o, es, ep, inP _ o hl ho, r⟩
  have ownk : ∀ c ∈ f.own, ∀ o, s.heap.get? c = some o → h'.get? c = some o := fun c hc o e => inP c o (sub c (.inr (.inr (.inl hc)))) e
  refine ⟨⟨⟨fun a o e => hk a o (fun q => ?_) (hs.rh.base a o e), hs.rh.gens, hs.rh.os, fun a c e => ((hs.rh.cells a c e).avoid hi).kp st fun o e' => inP a o (.inl (by rw [e]; simp)) e', hs.rh.nb, fun a q => let ⟨o, e⟩ := hs.rh.live a q; alive a o (fun z => hn a z q) e, hs.rh.disj, hs.rh.apart, ?_⟩, hs.ok, ?_, fun x c hx hk' hl => ?_, fun i x v hi' hv => ?_, fun p hp c hc hl hk' => let ⟨rv, e, hr⟩ := hs.cap p hp c hc hl hk'; ⟨rv, cell_via e fun o z => inP c o (sub c (.inr (.inl hc))) z, (hr.avoid hi).kp st⟩⟩,
    fun v r q => (q.avoid hi).kp st, fun v r q => (q.avoid hi).kp st, fun σ₀ s₀ h0 x => ?_, fun b o q e => hk b o q e⟩
  · rw [hb a q] at e; cases e
  · exact funFrames_of hs.rh.stk fun b o m e d => ⟨o, inP b o (sub b (.inr (.inr (.inr m)))) e, d⟩
  · obtain ⟨m, hm⟩ := hs.ns; exact ⟨m, nsk m hm⟩
  · obtain ⟨o, ho, z⟩ := hs.cel x c hx hk' hl
    obtain ⟨_, _, q⟩ := hs.ok.nm x hx
    rcases q with q | ⟨_, c', hc', _, hl'⟩
    · rcases hk' with z | z <;> rw [q] at z <;> cases z
    · rw [hl] at hl'; cases hl'
      exact ⟨o, ownk c hc' o ho, z⟩
  · obtain ⟨rv, hn', hr⟩ := hs.loc i x v hi' hv
    refine ⟨rv, ?_, (hr.avoid hi).kp st⟩
    rcases hn' with ⟨a1, m, hm, e⟩ | ⟨a1, c, hc, hl, ho⟩
    · exact .inl ⟨a1, m, nsk m hm, e⟩
    · exact .inr ⟨a1, c, hc, hl, cell_via ho (ownk c hc)⟩
  · refine ⟨fun a o e np => ?_, fun a m o e => ?_, fun a m o e => ?_, x.dom, fun a o e => let ⟨o', e'⟩ := x.alive a o e; alive a o' (fun q => by rw [h0 a q] at e; cases e) e'⟩
    · have ne : ¬ S a := fun q => by rw [h0 a q] at e; cases e
      rcases x.keep a o e np with q | ⟨t, o', q, t'⟩
      · exact .inl (hk a o ne q)
      · exact .inr ⟨t, o', hk a o' ne q, t'⟩
    · have ne : ¬ S a := fun q => by rw [h0 a q] at e; cases e
      obtain ⟨sl, q⟩ := x.fr a m o e
      exact ⟨sl, hk a _ ne q⟩
    · have ne : ¬ S a := fun q => by rw [h0 a q] at e; cases e
      exact hk a o ne (x.hid a m o e)
end
end Mine
end
section
open PySem PySem.W PyProof.Rows PySem.Calls
namespace Mine
section
variable {B : BC} {f : Fc} {n : Nat} {hd : Option Value} {σ : St} {X : Addr → St → Prop} {s : Shared} {A : Around} {E : Value → Shared → Prop} {N : St → Prop} {K : AFlow → St → Prop}
noncomputable def sgn (c : Nat) : Str := ⟨#[c]⟩
inductive Iter (B : BC) (P : Addr → Prop) (h : Heap) : List Addr → Value → List AV → Prop
  | lst {it l : Addr} {i : Nat} {items : List Value} {xs : List AV} : h.IsListIter it l i → LstAt h l items → B.base.get? it = none → ¬ P it → ¬ P l → VRs B.prog B.w P h xs (items.drop i) → Iter B P h [it] (.ref it) xs
  | rng {it : Addr} {x c : Int} {left : Nat} {xs : List AV} : IsRangeIter h it x left c → B.base.get? it = none → ¬ P it → xs = (List.range left).map (fun k => AV.int (x + (k : Nat) * c)) → Iter B P h [it] (.ref it) xs
  | str {it : Addr} {x : Str} {t : Tok} {i : Nat} {xs : List AV} : h.IsStrIter it "str_ascii_iterator" x t i → B.base.get? it = none → ¬ P it → xs = (x.cps.toList.drop i).map (fun c => AV.str (sgn c)) → Iter B P h [it] (.ref it) xs
  | enum {e it l : Addr} {i : Nat} {items : List Value} {old : Value} {ys xs : List AV} : IsEnum h e it i old → h.IsListIter it l i → LstAt h l items → e ≠ it → B.base.get? e = none → B.base.get? it = none → ¬ P e → ¬ P it → ¬ P l →
      VRs B.prog B.w P h ys (items.drop i) → xs = ys.mapIdx (fun k y => AV.tup [.int ((i : Int) + (k : Nat)), y]) → Iter B P h [e, it] (.ref e) xs
theorem Iter.step {P P' : Addr → Prop} {F G : List Addr} {h h' : Heap} (x : Step P F G h P' h') {as : List Addr} {it : Value} {xs : List AV} (I : Iter B P h as it xs) : Iter B P' h' as it xs := by
  have li : ∀ {it l i}, h.IsListIter it l i → ¬ P it → h'.IsListIter it l i ∧ ¬ P' it := fun ⟨o, ho, hc, r⟩ n => ⟨⟨o, x.at ho n (by rw [hc]; decide), hc, r⟩, x.dom _ _ ho n⟩
  cases I with
  | lst a b c d e q => exact .lst (li a d).1 (isList_step x.kp b e) c (li a d).2 (isList_dom x.kp b e) (q.step x)
  | rng a c d q => exact .rng (x.at a d (by show Value.type "range_iterator" ≠ Value.type "traceback"; decide)) c (x.dom _ _ a d) q
  | str a c d q =>
    obtain ⟨o, ho, hc, r⟩ := a
    exact .str ⟨o, x.at ho d (by rw [hc]; decide), hc, r⟩ c (x.dom _ _ ho d) q
  | enum a b c ne b1 b2 n1 n2 n3 q e => exact .enum (x.at a n1 (by show Value.type "enumerate" ≠ Value.type "traceback"; decide)) (li b n2).1 (isList_step x.kp c n3) ne b1 b2 (x.dom _ _ a n1) (li b n2).2 (isList_dom x.kp c n3) (q.step x) e
abbrev Turned (B : BC) (f : Fc) (σ : St) (s s' : Shared) (as : List Addr) : Prop := ItStep B f σ s s' fun a => a ∈ as
theorem wp_ff {M : Model} {A : Around} {E : Value → Shared → Prop} {s : Shared} {b d : Bool} {t e : Sem Unit} {Q : Unit → Shared → Prop} (hb : b = false) (q : wpAny M A e Q E s) : wpAny M A (if (b && d) = true then t else e) Q E s := by subst hb; exact q
theorem letgo_pure {it : Addr} {o : Obj} {nm : String} {target : Expr} {v : Value} {Q : Unit → Shared → Prop} (ho : s.heap.get? it = some o) (hc : o.cls = .type nm)
    (hn : (["enumerate", "zip", "dict_itemiterator", "dict_reverseitemiterator", "odict_iterator", "itertools.zip_longest", "itertools.pairwise"].contains nm) = false) (h : Q () s) : wpAny (model B.prog B.w) A (letOwnedTupleGo target (.ref it) v) Q E s := by
  have key : ∀ e x p, wpAny (model B.prog B.w) A (letOwnedTupleGo (.Tuple e x p) (.ref it) v) Q E s := fun e x p => by
    cases v with
    | ref a =>
      refine wpAny_bind (wpAny_load ho ?_)
      obtain ⟨c, d, dt, sl⟩ := o
      cases hc
      cases dt with
      | fields vs => exact wp_ff hn (wpAny_pure h)
      | _ => exact wpAny_pure h
    | _ => exact wpAny_pure h
  cases target with
  | Tuple e x p => exact key e x p
  | List e p => exact key e 0 p
  | _ => exact wpAny_pure h
theorem not_held {o : Obj} {nm : String} (hc : o.cls = .type nm) (h1 : nm ≠ "tuple") (h2 : nm ≠ "list") (h3 : nm ≠ "dict") (h4 : nm ≠ "traceback") : ¬ Held o := by
  rintro (q | q | q | q) <;> rw [hc] at q <;> injection q with q
  · exact h1 q
  · exact h2 q
  · exact h3 q
  · exact h4 q
theorem drop_c {α : Type} {l : List α} {i : Nat} {r : α} {t : List α} (h : l.drop i = r :: t) : l[i]? = some r ∧ l.drop (i + 1) = t := ⟨by rw [← List.head?_drop, h]; rfl, by rw [← List.drop_drop, h]; rfl⟩
theorem drop_n {α : Type} {l : List α} {i : Nat} (h : l.drop i = []) : l[i]? = none := by rw [← List.head?_drop, h]; rfl
theorem tw {p : Addr → Prop} {a b : Addr} (h1 : p a) (h2 : p b) : ∀ c ∈ [a, b], p c := fun c z => by
  cases z with
  | head => exact h1
  | tail _ z => exact List.mem_singleton.mp z ▸ h2
theorem turn1 (hs : RS B f σ s) {it : Addr} {o : Obj} {h' : Heap} {tk : Nat} (c : B.base.get? it = none) (d : ¬ PP f σ.H it) (ho : s.heap.get? it = some o) (hh : ¬ Held o) (hk : ∀ b o, b ≠ it → s.heap.get? b = some o → h'.get? b = some o) : Turned B f σ s { s with heap := h', toks := tk } [it] :=
  hs.iter (fun _ z => List.mem_singleton.mp z ▸ c) (fun _ z => List.mem_singleton.mp z ▸ d) (fun _ z => ⟨o, List.mem_singleton.mp z ▸ ho, hh⟩) fun b o z => hk b o fun q => z (List.mem_singleton.mpr q)
theorem iter_next {as : List Addr} {it : Value} {x : AV} {xs : List AV} (I : Iter B (PP f σ.H) s.heap as it (x :: xs)) (hs : RS B f σ s) {target : Expr} {Q : Value → Shared → Prop}
    (ht : ∀ e it, as = [e, it] → ∃ elts k p, target = .Tuple elts k p)
    (hq : ∀ r s', Turned B f σ s s' as → VR B.prog B.w (PP f σ.H) s'.heap x r → Iter B (PP f σ.H) s'.heap as it xs → Q r s') :
    wpAny (model B.prog B.w) A (pyNext it) (fun o s₁ => match o with | none => False | some v => wpAny (model B.prog B.w) A (letOwnedTupleGo target it v) (fun _ s₂ => Q v s₂) E s₁) E s := by
  generalize hxx : x :: xs = xx at I
  cases I with
  | @lst it l i items _ a b c d e q =>
    subst hxx
    cases hd : items.drop i with
    | nil => rw [hd] at q; cases q
    | cons r rest =>
      rw [hd] at q
      have hr := drop_c hd
      cases q with
      | cons qx qs =>
      refine wpAny_pyNext_list_item a b.isList (List.getElem?_toArray.trans hr.1) fun h' hit hsb => ?_
      have ⟨o, ho, hc, _⟩ := a
      have ⟨o', ho', hc', _⟩ := hit
      have T := turn1 hs (tk := s.toks) c d ho (not_held hc (by decide) (by decide) (by decide) (by decide)) fun b' o'' ne => (hsb.2 b' ne).trans
      have ⟨k, hk⟩ := b
      refine letgo_pure ho' hc' (by decide) (hq _ _ T (T.vr _ _ qx) (.lst hit ⟨k, T.keep l _ (fun z => ?_) hk⟩ c d e (hr.2 ▸ T.vrs _ _ qs)))
      cases hk.symm.trans (List.mem_singleton.mp z ▸ ho)
      exact absurd hc (by show Value.type "list" ≠ Value.type "list_iterator"; decide)
  | @rng it x0 cc left _ a c d q =>
    subst hxx
    cases left with
    | zero => cases q
    | succ left =>
      rw [List.range_succ_eq_map, List.map_cons, List.map_map] at q
      injection q with q1 q2
      refine wpAny_pyNext_range_item a (by omega) fun h' hit hsb => ?_
      have T := turn1 hs (tk := s.toks + 1) c d a (not_held rfl (by decide) (by decide) (by decide) (by decide)) fun b' o'' ne => (hsb.2 b' ne).trans
      refine letgo_pure hit rfl (by decide) (hq _ _ T ?_ ?_)
      · rw [q1]; simp only [Int.natCast_zero, Int.zero_mul, Int.add_zero]; exact .int _ _
      · have e1 : ((left + 1 : Nat) : Int) - 1 = (left : Nat) := Int.add_sub_cancel (left : Int) 1
        rw [e1] at hit
        refine .rng hit c d ?_
        rw [q2]
        refine List.map_congr_left fun k _ => ?_
        show AV.int (x0 + ((k + 1 : Nat) : Int) * cc) = AV.int (x0 + cc + (k : Int) * cc)
        congr 1
        rw [Int.natCast_add, Int.add_mul]; omega
  | @str it x0 t i _ a c d q =>
    subst hxx
    cases hd : x0.cps.toList.drop i with
    | nil => rw [hd] at q; cases q
    | cons r rest =>
      rw [hd, List.map_cons] at q
      injection q with q1 q2
      have hr := drop_c hd
      refine wpAny_pyNext_ascii_item a (Array.getElem?_toList.symm.trans hr.1) fun h' hit hsb => ?_
      have ⟨o, ho, hc, _⟩ := a
      have ⟨o', ho', hc', _⟩ := hit
      have T := turn1 hs (tk := s.toks + 1) c d ho (not_held hc (by decide) (by decide) (by decide) (by decide)) fun b' o'' ne => (hsb.2 b' ne).trans
      refine letgo_pure ho' hc' (by decide) (hq _ _ T ?_ ?_)
      · rw [q1]; exact .str _ _
      · exact .str hit c d (hr.2 ▸ q2)
  | @enum e it l i items old ys _ a b c ne b1 b2 n1 n2 n3 q ex =>
    rw [← hxx] at ex
    cases hd : items.drop i with
    | nil => rw [hd] at q; cases q; cases ex
    | cons r rest =>
      rw [hd] at q
      have hr := drop_c hd
      cases q with
      | @cons y _ ys _ qx qs =>
      rw [List.mapIdx_cons] at ex
      injection ex with ex1 ex2
      obtain ⟨elts, k, p, rfl⟩ := ht e it rfl
      refine wpAny_pyNext_enum_item a b c.isList (List.getElem?_toArray.trans hr.1) ne fun h' hen hit htup hsz hk => ?_
      refine wpAny_letOwnedTupleGo_enum hen fun h'' hen' hsb => ?_
      obtain ⟨oi, hoi, hci, hdi⟩ := id b
      have hle : l ≠ e := fun z => by obtain ⟨k, hk'⟩ := c; rw [z, a] at hk'; injection hk' with hk'; exact absurd (congrArg Obj.cls hk') (by show Value.type "enumerate" ≠ Value.type "list"; decide)
      have hli : l ≠ it := fun z => by obtain ⟨k, hk'⟩ := c; rw [z, hoi] at hk'; injection hk' with hk'; rw [hk'] at hci; exact absurd hci (by show Value.type "list" ≠ Value.type "list_iterator"; decide)
      obtain ⟨oi', hoi', hci', hdi'⟩ := id hit
      have fin : ∀ b' o'', ¬ (b' = e ∨ b' = it) → s.heap.get? b' = some o'' → h''.get? b' = some o'' := fun b' o'' z w => (hsb.2 b' fun q' => z (.inl q')).trans (hk b' o'' (fun q' => z (.inl q')) (fun q' => z (.inr q')) w)
      have hit'' : h''.IsListIter it l (i + 1) := ⟨oi', (hsb.2 it (Ne.symm ne)).trans hoi', hci', hdi'⟩
      have T : Turned B f σ s { s with heap := h'', toks := s.toks + 1 } [e, it] := hs.iter (tw b1 b2) (tw n1 n2)
        (tw ⟨_, a, not_held rfl (by decide) (by decide) (by decide) (by decide)⟩ ⟨oi, hoi, not_held hci (by decide) (by decide) (by decide) (by decide)⟩) fun b o z => fin b o fun q => z (q.elim (fun q => q ▸ .head _) fun q => q ▸ .tail _ (.head _))
      have hel : s.heap.objs.size ≠ e := fun z => Nat.ne_of_gt (Heap.lt_size a) z
      have htn : h''.get? s.heap.objs.size = some { cls := .type "tuple", data := .seq #[.int i s.toks, r] } := (hsb.2 _ hel).trans htup
      refine hq _ _ T ?_ ?_
      · rw [ex1]
        refine .tup (items := [.int i s.toks, r]) ⟨_, htn, rfl, 0, rfl⟩ (none_dm hs (size_none _)) (.cons ?_ (.cons (T.vr _ _ qx) .nil))
        have : ((i : Int) + ((0 : Nat) : Int)) = i := Int.add_zero _
        rw [this]; exact .int _ _
      · refine .enum (i := i + 1) hen' hit'' ?_ ne b1 b2 n1 n2 n3 (hr.2 ▸ T.vrs _ _ qs) ?_
        · obtain ⟨k, hk'⟩ := c; exact ⟨k, fin l _ (fun z => z.elim hle hli) hk'⟩
        · rw [ex2]
          congr 1
          funext k y'
          congr 2
          congr 1
          omega
theorem iter_end {as : List Addr} {it : Value} (I : Iter B (PP f σ.H) s.heap as it []) (hs : RS B f σ s) (hh : A.handled = none) {Q : Option Value → Shared → Prop} (hq : ∀ s', Turned B f σ s s' as → Q none s') : wpAny (model B.prog B.w) A (pyNext it) Q E s := by
  generalize hxx : ([] : List AV) = xx at I
  cases I with
  | @lst it l i items _ a b c d e q =>
    subst hxx
    cases hd : items.drop i with
    | cons r rest => rw [hd] at q; cases q
    | nil =>
      refine wpAny_pyNext_list_end hh a b.isList (List.getElem?_toArray.trans (drop_n hd)) fun h' hsb => hq _ ?_
      have ⟨o, ho, hc, _⟩ := a
      exact turn1 hs (tk := s.toks) c d ho (not_held hc (by decide) (by decide) (by decide) (by decide)) fun b' o'' ne => hsb b' o'' ne
  | @rng it x0 cc left _ a c d q =>
    subst hxx
    cases left with
    | succ left => rw [List.range_succ_eq_map] at q; cases q
    | zero =>
      refine wpAny_pyNext_range_end hh a (by omega) fun h' hsb => hq _ ?_
      exact turn1 hs (tk := s.toks) c d a (not_held rfl (by decide) (by decide) (by decide) (by decide)) fun b' o'' ne => hsb b' o'' ne
  | @str it x0 t i _ a c d q =>
    subst hxx
    cases hd : x0.cps.toList.drop i with
    | cons r rest => rw [hd] at q; cases q
    | nil =>
      refine wpAny_pyNext_ascii_end hh a (Array.getElem?_toList.symm.trans (drop_n hd)) fun h' hsb => hq _ ?_
      have ⟨o, ho, hc, _⟩ := a
      exact turn1 hs (tk := s.toks) c d ho (not_held hc (by decide) (by decide) (by decide) (by decide)) fun b' o'' ne => hsb b' o'' ne
  | @enum e it l i items old ys _ a b c ne b1 b2 n1 n2 n3 q ex =>
    rw [← hxx] at ex
    cases hd : items.drop i with
    | cons r rest => rw [hd] at q; cases q; simp at ex
    | nil =>
      refine wpAny_pyNext_enum_end hh a b c.isList (List.getElem?_toArray.trans (drop_n hd)) fun h' hsb => hq _ ?_
      have ⟨o, ho, hc, _⟩ := b
      have T := turn1 hs (tk := s.toks) b2 n2 ho (not_held hc (by decide) (by decide) (by decide) (by decide)) fun b' o'' ne => hsb b' o'' ne
      exact ⟨T.rs, T.vr, T.vrs, fun σ₀ s₀ z => T.st σ₀ s₀ fun a q => z a (.tail _ q), fun b o n => T.keep b o fun q => n (.tail _ q)⟩
end
end Mine
end
section
open PySem PySem.W PyProof.Rows PySem.Calls
namespace Mine
section
variable {B : BC} {f : Fc} {n : Nat} {hd : Option Value} {σ σ₀ : St} {X : Addr → St → Prop} {s s₀ : Shared} {A : Around} {E : Value → Shared → Prop} {N : St → Prop} {K : AFlow → St → Prop}
noncomputable def Went (T : Prop) (R : Result → Shared → Prop) (s : Shared) : Flow → Prop
  | .next | .cont => T
  | .brk => R (.ok .next) s
  | .ret v => R (.ok (.ret v)) s
noncomputable def lk (C N : St → Prop) (K : AFlow → St → Prop) : AFlow → St → Prop
  | .cont, σ => C σ
  | .brk, σ => N σ
  | .ret v, σ => K (.ret v) σ
  | .next, _ => False
inductive LoopR (B : BC) (f : Fc) (σ₀ : St) (s₀ : Shared) (N : St → Prop) (K : AFlow → St → Prop) (X : Addr → St → Prop) : Result → Shared → Prop
  | ok {fl : Flow} {s' : Shared} : OkP B f (frel B) σ₀ s₀ (nk N K) fl s' → LoopR B f σ₀ s₀ N K X (.ok fl) s'
  | er {e : Value} {s' : Shared} : ErT B f σ₀ s₀ X e s' → LoopR B f σ₀ s₀ N K X (.error e) s'
theorem noted_of (hA : AOk f n hd A) (hs : RS B f σ s) {e : Value} {s' : Shared} (x : ErP B f σ₀ s₀ X e s') (hf : f.env.frame = some f.L) :
    notedBy (model B.prog B.w) A f.env (fun e s' => LoopR B f σ₀ s₀ N K X (.error e) s') e s' :=
  x.note (Q := fun e s'' => LoopR B f σ₀ s₀ N K X (.error e) s'') hA.frames hf fun _ q => .er q
theorem code_while {test : Expr} {body : List Stmt} {env : Env} {R : Result → Shared → Prop}
    (h : wpAny (model B.prog B.w) A (isTrue test env (eval test env)) (fun b s₂ =>
        if b = true then wpAny (model B.prog B.w) A (execs body env) (fun fl s₃ => Went (codeAny (model B.prog B.w) A (.whileLoop test body [] env) R s₃) R s₃ fl) (notedBy (model B.prog B.w) A env fun e s' => R (.error e) s') s₂
        else R (.ok .next) s₂) (notedBy (model B.prog B.w) A env fun e s' => R (.error e) s') s) : codeAny (model B.prog B.w) A (.whileLoop test body [] env) R s := by
  refine codeAny_of_tree ?_
  show wpAny _ A ((whileTurn test body [] env).onRaise (fun x => do noteFrame x env; theTreesLotGoes x)) _ _ s
  refine wpAny_noted ?_
  simp only [whileTurn]
  refine wpAny_bind (wpAny_mono h (fun b s₂ h₂ => ?_) fun _ _ h' => h')
  cases b with
  | false =>
    simp only [Bool.false_eq_true, if_false] at h₂ ⊢
    exact wpAny_bind (wpAny_execs_nil (wpAny_pure h₂))
  | true =>
    simp only [if_true] at h₂ ⊢
    refine wpAny_bind (wpAny_mono h₂ (fun fl s₃ h₃ => ?_) fun _ _ h' => h')
    cases fl with
    | next => exact wpAny_pure ⟨rfl, h₃⟩
    | cont => exact wpAny_pure ⟨rfl, h₃⟩
    | brk => exact wpAny_pure h₃
    | ret v => exact wpAny_pure h₃
noncomputable def WH (B : BC) (f : Fc) (n : Nat) (hd : Option Value) (test : Expr) (body : List Stmt) (N : St → Prop) (K : AFlow → St → Prop) (X : Addr → St → Prop) (σ : St) : Prop :=
  ∀ A s σ₀ s₀, AOk f n hd A → RS B f σ s → SStep f σ₀ s₀ σ s → codeAny (model B.prog B.w) A (.whileLoop test body [] f.env) (LoopR B f σ₀ s₀ N K X) s
theorem r_while {test : Expr} {body : List Stmt} {pos : Pos} (h : WH B f n hd test body N K X σ) : ES B f n hd (exec (.While test body [] pos) f.env) σ N K X := fun A s hA hs =>
  wpAny_While (codeAny_mono (h A s σ s hA hs .refl) fun r s' q => by
    cases q with
    | ok q => exact q
    | er q => exact q.came)
theorem lk_go {C N : St → Prop} {K : AFlow → St → Prop} {fl : Flow} {v : AFlow} (hs : RS B f σ s) (st : SStep f σ₀ s₀ σ s) (hr : frel B (PP f σ.H) s.heap v fl) (q : nk C (lk C N K) v σ) {T : Prop} (go : C σ → T) : Went T (LoopR B f σ₀ s₀ N K X) s fl := by
  cases hr with
  | next => exact go q
  | brk => exact .ok ⟨.next, σ, hs, st, .next, q⟩
  | cont => exact go q
  | ret hr => exact .ok ⟨.ret _, σ, hs, st, .ret hr, q⟩
theorem wh_turn {test : Expr} {body : List Stmt}
    (h : EB B f n hd (isTrue test f.env (eval test f.env)) σ (fun b σ₁ => if b = true then ES B f n hd (execs body f.env) σ₁ (WH B f n hd test body N K X) (lk (WH B f n hd test body N K X) N K) X else N σ₁) X) : WH B f n hd test body N K X σ := by
  intro A s σ₀ s₀ hA hs st
  have hf : f.env.frame = some f.L := hs.ok.fr
  refine code_while (wpAny_mono (h A s hA hs) (fun b s₁ x => ?_) fun e s' x => noted_of hA hs (x.back st) hf)
  obtain ⟨b', σ₁, h₁, st₁, e, q⟩ := x
  subst e
  cases b with
  | false =>
    rw [if_neg (by decide)] at q ⊢
    exact .ok ⟨.next, σ₁, h₁, st.trans st₁, .next, q⟩
  | true =>
    rw [if_pos rfl] at q ⊢
    refine wpAny_mono (q A s₁ hA h₁) (fun fl s₂ x => ?_) fun e s' x => noted_of hA hs ((x.back st₁).back st) hf
    obtain ⟨v, σ₂, h₂, st₂, hr, q₂⟩ := x
    exact lk_go h₂ ((st.trans st₁).trans st₂) hr q₂ fun w => w A s₂ σ₀ s₀ hA h₂ ((st.trans st₁).trans st₂)
theorem code_for {target : Expr} {it : Value} {body : List Stmt} {env : Env} {R : Result → Shared → Prop}
    (h : wpAny (model B.prog B.w) A (pyNext it) (fun o s₁ => match o with
      | none => R (.ok .next) s₁
      | some v => wpAny (model B.prog B.w) A (letOwnedTupleGo target it v) (fun _ s₂ => wpAny (model B.prog B.w) A (assign target env v) (fun _ s₃ => wpAny (model B.prog B.w) A (execs body env) (fun fl s₄ => Went (codeAny (model B.prog B.w) A (.forLoop target it body [] env) R s₄) R s₄ fl) (notedBy (model B.prog B.w) A env fun e s' => R (.error e) s') s₃) (notedBy (model B.prog B.w) A env fun e s' => R (.error e) s') s₂) (notedBy (model B.prog B.w) A env fun e s' => R (.error e) s') s₁)
      (notedBy (model B.prog B.w) A env fun e s' => R (.error e) s') s) : codeAny (model B.prog B.w) A (.forLoop target it body [] env) R s := by
  refine codeAny_of_tree ?_
  show wpAny _ A ((forTurn target it body [] env).onRaise (fun x => do noteFrame x env; theTreesLotGoes x)) _ _ s
  refine wpAny_noted ?_
  simp only [forTurn]
  refine wpAny_bind (wpAny_standAt (wpAny_bind (wpAny_onRaise (wpAny_mono h (fun r s₁ h₁ => ?_) fun _ _ h' => wpAny_standAt h'))))
  cases r with
  | none => exact wpAny_pure ⟨rfl, codeAny_block (wpAny_execs_nil h₁)⟩
  | some v =>
    refine wpAny_bind (wpAny_mono h₁ (fun _ s₁' h₁' => ?_) fun _ _ h' => h')
    refine wpAny_bind (wpAny_mono h₁' (fun _ s₂ h₂ => wpAny_bind (wpAny_mono h₂ (fun fl s₃ h₃ => ?_) fun _ _ h' => h')) fun _ _ h' => h')
    cases fl with
    | next => exact wpAny_pure ⟨rfl, h₃⟩
    | cont => exact wpAny_pure ⟨rfl, h₃⟩
    | brk => exact wpAny_pure h₃
    | ret v => exact wpAny_pure h₃
noncomputable def ForS (B : BC) (f : Fc) (n : Nat) (target : Expr) (body : List Stmt) (N : St → Prop) (K : AFlow → St → Prop) (X : Addr → St → Prop) : List AV → St → Prop
  | [], σ => N σ
  | x :: xs, σ => EO1 B f n none (idrel (α := Unit)) x (fun r => assign target f.env r) σ (fun _ σ₁ => ES B f n none (execs body f.env) σ₁ (ForS B f n target body N K X xs) (lk (ForS B f n target body N K X xs) N K) X) X
theorem for_run {target : Expr} {body : List Stmt} {as : List Addr} {it : Value} : ∀ (xs : List AV) (σ : St) (s : Shared), ForS B f n target body N K X xs σ → Iter B (PP f σ.H) s.heap as it xs → AOk f n none A → RS B f σ s → SStep f σ₀ s₀ σ s →
    (∀ a ∈ as, s₀.heap.get? a = none) → (∀ e i, as = [e, i] → ∃ elts k p, target = .Tuple elts k p) → codeAny (model B.prog B.w) A (.forLoop target it body [] f.env) (LoopR B f σ₀ s₀ N K X) s
  | [], σ, s, F, I, hA, hs, st, h0, ht => code_for (iter_end I hs hA.hd fun s' T => .ok ⟨.next, σ, T.rs, T.st σ₀ s₀ h0 st, .next, F⟩)
  | x :: xs, σ, s, F, I, hA, hs, st, h0, ht => by
    have hf : f.env.frame = some f.L := hs.ok.fr
    refine code_for (wpAny_mono (iter_next (E := notedBy (model B.prog B.w) A f.env fun e s' => LoopR B f σ₀ s₀ N K X (.error e) s') I hs ht (Q := fun v s₂ => wpAny (model B.prog B.w) A (assign target f.env v) (fun _ s₃ => wpAny (model B.prog B.w) A (execs body f.env) (fun fl s₄ => Went (codeAny (model B.prog B.w) A (.forLoop target it body [] f.env) (LoopR B f σ₀ s₀ N K X) s₄) (LoopR B f σ₀ s₀ N K X) s₄ fl) (notedBy (model B.prog B.w) A f.env fun e s' => LoopR B f σ₀ s₀ N K X (.error e) s') s₃) (notedBy (model B.prog B.w) A f.env fun e s' => LoopR B f σ₀ s₀ N K X (.error e) s') s₂) ?_) (fun o s₁ x => by cases o <;> first | exact x.elim | exact x) fun _ _ x => x)
    intro r s₁ T hv I₁
    have st₁ := T.st σ₀ s₀ h0 st
    refine wpAny_mono (F A s₁ r hA T.rs hv) (fun _ s₂ x => ?_) fun e s' x => noted_of hA hs (x.back st₁) hf
    obtain ⟨_, σ₂, h₂, st₂, _, q₂⟩ := x
    refine wpAny_mono (q₂ A s₂ hA h₂) (fun fl s₃ x => ?_) fun e s' x => noted_of hA hs ((x.back st₂).back st₁) hf
    obtain ⟨v, σ₃, h₃, st₃, hr, q₃⟩ := x
    have stt := (st₁.trans st₂).trans st₃
    exact lk_go h₃ stt hr q₃ fun w => for_run xs σ₃ s₃ w ((I₁.step st₂).step st₃) hA h₃ stt h0 ht
theorem r_to_name {x : Str} {p : Pos} {v : AV} {i : Nat} {Q : Unit → St → Prop} (hi : Idx f.names x i) (h : Q () ⟨σ.loc.set i (some v), σ.H⟩) : EO1 B f n hd (idrel (α := Unit)) v (fun r => assign (.Name x p) f.env r) σ Q X := fun A s r hA hs hv =>
  PyProof.Rows.assign_Name (set_local hi hs .refl hv fun s' h' st' => ⟨(), _, h', st', rfl, h⟩)
theorem r_to_tuple {elts : List Expr} {k : Nat} {p : Pos} {xs : List AV} {Q : Unit → St → Prop} (h : Stores f (Q ()) elts xs σ) : EO1 B f n none (idrel (α := Unit)) (.tup xs) (fun r => assign (.Tuple elts k p) f.env r) σ Q X := fun A s r hA hs hv =>
  unpack_go h hA.hd hs .refl hv fun σ' s' a b c => ⟨(), σ', a, b, rfl, c⟩
theorem one_ne_two {a b c : Addr} {P : Prop} (h : [a] = [b, c]) : P := by simp at h
end
end Mine
end
section
open PySem PySem.W PyProof.Rows PySem.Calls
namespace Mine
inductive RetP (B : BC) (Fs : List Env) (G : List Addr) (H : AH) (s : Shared) (Q : AV → AH → Prop) (X : Addr → AH → Prop) : Result → Shared → Prop
  | ret {s' : Shared} {rv : Value} (v : AV) (H' : AH) : RH B Fs G H' s' → Step (dm Fs G H) (frs Fs) G s.heap (dm Fs G H') s'.heap → VR B.prog B.w (dm Fs G H') s'.heap v rv → Q v H' → RetP B Fs G H s Q X (.ok (.ret rv)) s'
  | er {s' : Shared} (a : Addr) (H' : AH) (C : Addr) (d : Option Addr) : RH B Fs G H' s' → Step (dm Fs G H) (frs Fs) G s.heap (dm Fs G H') s'.heap → H' a = some (.exc C d true) → X a H' → RetP B Fs G H s Q X (.error (.ref a)) s'
inductive RetS (B : BC) (f : Fc) (σ : St) (s : Shared) (Q : AV → St → Prop) (X : Addr → St → Prop) : Result → Shared → Prop
  | ret {s' : Shared} {rv : Value} : OkP B f (vrel B) σ s Q rv s' → RetS B f σ s Q X (.ok (.ret rv)) s'
  | er {s' : Shared} {e : Value} : ErP B f σ s X e s' → RetS B f σ s Q X (.error e) s'
noncomputable def CodeP (B : BC) (n : Nat) (c : List Value → Code) (vs : List AV) (H : AH) (Q : AV → AH → Prop) (X : Addr → AH → Prop) : Prop :=
  ∀ A s Fs G rs, A.frames = some Fs → A.handled = none → A.depth + 4 * n ≤ 990 → A.units + 32 * n ≤ 9800 → RH B Fs G H s → VRs B.prog B.w (dm Fs G H) s.heap vs rs →
    codeAny (model B.prog B.w) A (c rs) (RetP B Fs G H s Q X) s
noncomputable def CallP (B : BC) (n : Nat) (fv : Value) (vs : List AV) (H : AH) (Q : AV → AH → Prop) (X : Addr → AH → Prop) : Prop :=
  keepIn B.K fv = true ∧ CodeP B n (fun rs => .call fv ⟨rs, []⟩) vs H Q X
section
variable {B : BC} {f : Fc} {n : Nat} {hd : Option Value} {σ σ₀ : St} {X : Addr → St → Prop} {s s₀ : Shared} {A : Around} {E : Value → Shared → Prop} {N : St → Prop} {K : AFlow → St → Prop}
theorem back_step (ok : FcOk B f) {H : AH} {h h' : Heap} {H' : AH} (x : Step (dm f.Fs f.G H) (frs f.Fs) f.G h (dm f.Fs f.G H') h') : Step (PP f H) f.fr f.hid h (PP f H') h' :=
  ⟨x.keep, fun a m => x.fr a (ok.frL a m), fun a m => x.hid a (List.mem_append_right _ m), x.dom, x.alive⟩
theorem RS.back (hs : RS B f σ s) {H' : AH} {s' : Shared} (r : RH B f.Fs f.G H' s') (x : Step (dm f.Fs f.G σ.H) (frs f.Fs) f.G s.heap (dm f.Fs f.G H') s'.heap) : RS B f ⟨σ.loc, H'⟩ s' := by
  have nsk : ∀ m, s.heap.Ns f.env.locals m → s'.heap.Ns f.env.locals m := fun m hm => ns_slots hm fun o e => by
    rcases ns_own hs with q | q
    · exact x.fr _ q o e
    · exact ⟨o.slots, x.hid _ (List.mem_append_left _ q) o e⟩
  have ownk : ∀ c ∈ f.own, ∀ o, s.heap.get? c = some o → s'.heap.get? c = some o := fun c hc o e => x.hid c (List.mem_append_left _ hc) o e
  refine ⟨r, hs.ok, ?_, fun y c hx hk hl => ?_, fun i y v hi hv => ?_, fun p hp c hc hl hk => let ⟨rv, e, hr⟩ := hs.cap p hp c hc hl hk; ⟨rv, cell_via e fun o z => x.hid c (List.mem_append_right _ hc) o z, hr.step x⟩⟩
  · obtain ⟨m, hm⟩ := hs.ns; exact ⟨m, nsk m hm⟩
  · obtain ⟨o, ho, z⟩ := hs.cel y c hx hk hl
    obtain ⟨_, _, q⟩ := hs.ok.nm y hx
    rcases q with q | ⟨_, c', hc', _, hl'⟩
    · rcases hk with z | z <;> rw [q] at z <;> cases z
    · rw [hl] at hl'; cases hl'
      exact ⟨o, ownk c hc' o ho, z⟩
  · obtain ⟨rv, hn, hr⟩ := hs.loc i y v hi hv
    refine ⟨rv, ?_, hr.step x⟩
    rcases hn with ⟨a1, m, hm, e⟩ | ⟨a1, c, hc, hl, ho⟩
    · exact .inl ⟨a1, m, nsk m hm, e⟩
    · exact .inr ⟨a1, c, hc, hl, cell_via ho (ownk c hc)⟩
theorem call_here {c : List Value → Code} {vs : List AV} {rs : List Value} {Q : AV → St → Prop} (h : CodeP B n c vs σ.H (fun v H' => Q v ⟨σ.loc, H'⟩) (fun a H' => X a ⟨σ.loc, H'⟩)) (hA : AOk f n none A) (hs : RS B f σ s) (hv : VRs B.prog B.w (PP f σ.H) s.heap vs rs) :
    codeAny (model B.prog B.w) A (c rs) (RetS B f σ s Q X) s := by
  refine codeAny_mono (h A s f.Fs f.G rs hA.frames hA.hd hA.depth hA.units hs.rh hv) fun r s' q => ?_
  cases q with
  | ret v H' r st hv' q => exact .ret ⟨v, ⟨σ.loc, H'⟩, hs.back r st, back_step hs.ok st, hv', q⟩
  | er a H' C d r st hc q => exact .er ⟨a, ⟨σ.loc, H'⟩, C, d, true, hs.back r st, back_step hs.ok st, hc, by rw [put_self hc]; exact q⟩
theorem kin (hs : RS B f σ s) : B.K.In s.heap := B.hK.keeps hs.rh.base
theorem kinH {Fs : List Env} {G : List Addr} {H : AH} (hs : RH B Fs G H s) : B.K.In s.heap := B.hK.keeps hs.base
theorem evalArgs_all {M : Model} {fv : Value} {l : List (Bool × Sem Value)} {Q : Args → Shared → Prop} (hp : l.all (fun p => !p.1) = true) (h : wpAny M A (spliced l) (fun vs s' => Q ⟨vs, []⟩ s') E s) : wpAny M A (evalArgs fv true l []) Q E s := by
  cases l with
  | nil =>
    unfold evalArgs
    show wpAny M A (spliced [] >>= _) Q E s
    refine wpAny_bind (wpAny_mono h (fun vs s' h' => ?_) fun _ _ x => x)
    refine wpAny_holding ?_
    exact wpAny_bind (wpAny_pure (wpAny_bind (wpAny_pure (wpAny_pure h'))))
  | cons p r =>
    obtain ⟨b, t⟩ := p
    obtain ⟨a, _⟩ := Bool.and_eq_true_iff.mp (List.all_cons ▸ hp)
    cases b with
    | true => cases a
    | false => exact evalArgs_plain h
theorem backTo_all {env : Env} {pos : Pos} {args : List Expr} (hp : args.all plainArg = true) : (backTo pos (starEach args env)).all (fun p => !p.1) = true ∧ (backTo pos (starEach args env)).any (·.1) = false := by
  rw [backTo_plain hp]
  constructor
  · rw [List.all_map]; simp
  · rw [List.any_map]; simp
theorem callWith_all {pos : Pos} {fv : Value} {first : List Value} {args : List Expr} {Q : Value → Shared → Prop} (hk : keepIn B.K fv = true) (hp : args.all plainArg = true)
    (h : wpAny (model B.prog B.w) A (spliced (backTo pos (starEach args f.env))) (fun vs s₁ => B.K.In s₁.heap ∧ wpAny (model B.prog B.w) A (call fv (first ++ vs)) Q E s₁) E s) : wpAny (model B.prog B.w) A (callWith pos fv first (backTo pos (starEach args f.env)) []) Q E s :=
  callWith_of (by rw [(backTo_all hp).2]; rfl) (keeps_K hk) (evalArgs_all (backTo_all hp).1 h)
theorem callWith_blt {pos : Pos} {id : String} {first : List Value} {args : List Expr} {Q : Value → Shared → Prop} (hp : args.all plainArg = true)
    (h : wpAny (model B.prog B.w) A (spliced (backTo pos (starEach args f.env))) (fun vs s₁ => wpAny (model B.prog B.w) A (call (.builtin id) (first ++ vs)) Q E s₁) E s) : wpAny (model B.prog B.w) A (callWith pos (.builtin id) first (backTo pos (starEach args f.env)) []) Q E s :=
  callWith_builtin (backTo_all hp).2 (evalArgs_all (backTo_all hp).1 h)
theorem call_done {fv : Value} {vs : List Value} {v : List AV} {σ' : St} {s₁ : Shared} {Q : AV → St → Prop} (hA : AOk f n none A) (r : RS B f σ' s₁) (st : SStep f σ s σ' s₁) (hv : VRs B.prog B.w (PP f σ'.H) s₁.heap v vs)
    (c : CallP B n fv v σ'.H (fun v H' => Q v ⟨σ'.loc, H'⟩) (fun a H' => X a ⟨σ'.loc, H'⟩)) : wpAny (model B.prog B.w) A (call fv vs) (OkP B f (vrel B) σ s Q) (ErP B f σ s X) s₁ :=
  wpAny_call (codeAny_mono (call_here c.2 hA r hv) fun r s' q => by
      cases q with
      | ret q => exact q.back st
      | er q => exact q.back st)
theorem r_call_fn {pos : Pos} {fa : Addr} {args : List Expr} {Q : AV → St → Prop} (hk : keepIn B.K (.ref fa) = true) (h : EL B f n none (spliced (backTo pos (starEach args f.env))) σ (fun vs σ₁ => CallP B n (.ref fa) vs σ₁.H (fun v H' => Q v ⟨σ₁.loc, H'⟩) (fun a H' => X a ⟨σ₁.loc, H'⟩)) X)
    (hp : args.all plainArg = true) : EC B f n none pos (.ref fa) args σ Q X := by
  intro A s r hA hs hv
  exact hv.eRef (callWith_all hk hp (wpAny_mono (h A s hA hs) (fun vs s₁ ⟨v, σ', r, st, hv, c⟩ => ⟨kin r, call_done hA r st hv c⟩) fun _ _ q => q))
noncomputable def EBl (B : BC) (f : Fc) (n : Nat) (hd : Option Value) (id : String) (vs : List AV) (σ : St) (Q : AV → St → Prop) (X : Addr → St → Prop) : Prop :=
  EO B f n hd (vrel B) vs (fun rs => call (.builtin id) rs) σ Q X
theorem r_call_blt {pos : Pos} {id : String} {args : List Expr} {Q : AV → St → Prop} (h : EL B f n hd (spliced (backTo pos (starEach args f.env))) σ (fun vs σ₁ => EBl B f n hd id vs σ₁ Q X) X)
    (hp : args.all plainArg = true) : EC B f n hd pos (.blt id) args σ Q X := by
  intro A s r hA hs hv
  exact hv.eBlt (callWith_blt hp (h.via hA hs .refl fun vs s₁ v σ' r st _ hv c => backW st (c A s₁ vs hA r hv)))
noncomputable def retk (Q : AV → AH → Prop) : AFlow → St → Prop
  | .ret v, σ => Q v σ.H
  | _, _ => False
noncomputable def Plain (f : Fc) : Prop := f.env.blockKind = .function ∧ ∀ x ∈ f.names, f.env.kindOf x = some .local
structure FnOk (B : BC) (fd : FuncData) (names : List Str) (gl : List (Str × AV)) : Prop where
  kind : fd.scope.kind = .function
  glob : fd.globals = mainGlobals
  blt : fd.builtins = builtinsNs
  clo : fd.closure = []
  nd : names.Nodup
  nm : ∀ x ∈ names, (x == ("__debug__" : Str)) = false ∧ (x == ("__classdict__" : Str)) = false ∧ fd.scope.names.lookup x = some .local
  gl : ∀ p ∈ gl, (p.1 == ("__debug__" : Str)) = false ∧ fd.scope.names.lookup p.1 = some .globalImplicit ∧ ∃ rv, (∀ P h, VR B.prog B.w P h p.2 rv) ∧ (B.mg p.1 = some rv ∨ (B.mg p.1 = none ∧ B.mb p.1 = some rv))
  cells : ∀ x ∈ fd.scope.names, x.2 ≠ .cell
  co : fd.scope.isCoroutine = false
  gen : fd.scope.isGenerator = false
noncomputable def fcOf (fd : FuncData) (names : List Str) (gl : List (Str × AV)) (Fs : List Env) (G : List Addr) (L a : Addr) : Fc :=
  { env := callEnv fd L a, fenv := callEnv fd L a, outer := Fs, names, L, own := [], hid := G, gl }
theorem fc_ok {fd : FuncData} {names : List Str} {gl : List (Str × AV)} (O : FnOk B fd names gl) {Fs : List Env} {G : List Addr} {L a : Addr} (hL : L ∉ frs Fs) : FcOk B (fcOf fd names gl Fs G L a) :=
  ⟨O.kind, O.glob, O.blt, rfl, rfl, .inl rfl, O.nd, fun x hx => ⟨(O.nm x hx).1, (O.nm x hx).2.1, .inl (O.nm x hx).2.2⟩, hL, fun _ m => (nomatch m), fun x y c h => (by
    have : (callEnv fd L a).cells = [] := O.clo
    rw [show (fcOf fd names gl Fs G L a).env.cells = [] from this] at h
    exact nomatch h), fun p hp => ⟨(O.gl p hp).1, .inl (O.gl p hp).2⟩, fun b m => by
    have m : b ∈ (if L = L then frs Fs else L :: frs Fs) := m
    rw [if_pos rfl] at m
    show b ∈ List.filterMap _ (callEnv fd L a :: Fs)
    rw [List.filterMap_cons]; exact .tail _ m⟩
theorem lookup_zip {names : List Str} (nd : names.Nodup) {rs : List Value} {i : Nat} {x : Str} {r : Value} (hi : names[i]? = some x) (hr : rs[i]? = some r) : (names.zip rs).reverse.lookup x = some r := by
  have hm : (x, r) ∈ (names.zip rs).reverse := by
    rw [List.mem_reverse]
    exact List.mem_of_getElem? (i := i) (by rw [List.getElem?_zip_eq_some]; exact ⟨hi, hr⟩)
  have nd' : ((names.zip rs).reverse.map (·.1)).Nodup := by
    rw [List.map_reverse]
    refine (List.reverse_perm _).nodup_iff.mpr (List.Nodup.sublist ?_ nd)
    clear hm hi hr
    induction names generalizing rs with
    | nil => simp
    | cons y ys ih =>
      cases rs with
      | nil => simp
      | cons r rs => rw [List.zip_cons_cons, List.map_cons]; exact (ih (List.nodup_cons.mp nd).2).cons_cons _
  generalize (names.zip rs).reverse = l at hm nd'
  induction l with
  | nil => cases hm
  | cons p l ih =>
    obtain ⟨y, q⟩ := p
    rw [List.lookup_cons]
    rw [List.map_cons, List.nodup_cons] at nd'
    cases hm with
    | head => simp
    | tail _ hm =>
      have : (x == y) = false := by
        rw [beq_eq_false_iff_ne]
        rintro rfl
        exact nd'.1 (List.mem_map.mpr ⟨_, hm, rfl⟩)
      rw [this]
      exact ih hm nd'.2
theorem VRs.app {P : Addr → Prop} {h : Heap} {b : List AV} {q : List Value} (y : VRs B.prog B.w P h b q) {a : List AV} : ∀ {r : List Value}, VRs B.prog B.w P h a r → VRs B.prog B.w P h (a ++ b) (r ++ q) := by
  induction a with
  | nil => exact fun x => x.e0 y
  | cons _ _ ih => exact fun x => x.ec fun _ _ a b => .cons a (ih b)
theorem VRs.get {P : Addr → Prop} {h : Heap} {l : List AV} : ∀ {q : List Value}, VRs B.prog B.w P h l q → ∀ {i : Nat} {v : AV}, l[i]? = some v → ∃ r, q[i]? = some r ∧ VR B.prog B.w P h v r := by
  induction l with
  | nil => exact fun _ _ _ e => nomatch e
  | cons x xs ih => exact fun hq i v => hq.ec fun r rs a b => match i with
    | 0 => fun e => ⟨r, rfl, Option.some.inj e ▸ a⟩
    | i + 1 => fun e => ih b (i := i) e
theorem fn_call {fa : Addr} {oc : Value} {od : Option Addr} {osl : Array (Option Value)} {fd : FuncData} {body : List Stmt} {names : List Str} {gl : List (Str × AV)} {vs dv : List AV} {H : AH} {Q : AV → AH → Prop} {X : Addr → AH → Prop}
    (hl : B.K.lookup fa = some ⟨oc, od, .func fd, osl⟩) (hk : keepIn B.K (.ref fa) = true) (hcd : codeIn B.K fd.code fd.qualname = true) (hbody : fd.body = .stmts body) (O : FnOk B fd names gl)
    (hbind : ∀ (s : Shared) (rs : List Value), B.K.In s.heap → rs.length = vs.length → ∃ ds, BindsTo s fd ⟨rs, []⟩ (names.zip (rs ++ ds)) ∧ ∀ P h, B.K.In h → (∀ a o, B.base.get? a = some o → ¬ P a) → VRs B.prog B.w P h dv ds)
    (hbody' : ∀ f : Fc, f.names = names → f.gl = gl → Plain f → ES B f n none (execs body f.env) ⟨(vs ++ dv).map some ++ List.replicate (names.length - (vs ++ dv).length) none, H⟩ (fun σ => Q .none σ.H) (retk Q) (fun a σ => X a σ.H)) :
    CallP B (n + 1) (.ref fa) vs H Q X := by
  refine ⟨hk, fun A s Fs G rs hfr hh hdep hun r hv => ?_⟩
  have kin := kinH r
  obtain ⟨ds, hb, hds⟩ := hbind s rs kin hv.length.symm
  have hlim : s.heap.NoLimit := B.hl.keeps r.base
  have hL : s.heap.objs.size ∉ frs Fs := fun m => by obtain ⟨o, e⟩ := r.live _ (.inr (.inl m)); rw [size_none] at e; cases e
  have hLd : ¬ dm Fs G H s.heap.objs.size := fun m => by obtain ⟨o, e⟩ := r.live _ m; rw [size_none] at e; cases e
  refine codeAny_call_def (fd := fd) (body := body) (binds := names.zip (rs ++ ds)) (Nat.lt_of_le_of_lt (Nat.le_add_right _ _) (Nat.lt_of_le_of_lt hdep (by decide))) (kin _ _ hl) rfl hlim (codeRec_of kin hcd) hbody hb O.cells (fun y hy => ?_) (fun h₁ hns hk₁ => ?_) O.co O.gen O.kind
  · exact (O.nm y.1 (List.of_mem_zip hy).1).2.2
  let f := fcOf fd names gl Fs G s.heap.objs.size fa
  have hFs : frs f.Fs = s.heap.objs.size :: frs Fs := by show List.filterMap _ (callEnv fd _ _ :: Fs) = _; rw [List.filterMap_cons]; rfl
  have inP : ∀ a, dm Fs G H a → PP f H a := fun a m => m.imp id (fun m => m.imp (fun m => by rw [hFs]; exact .tail _ m) id)
  have ofP : ∀ a, a ≠ s.heap.objs.size → ∀ H', PP f H' a → dm Fs G H' a := fun a ne H' m => m.imp id (fun m => m.imp (fun m => by rw [hFs] at m; exact (List.mem_cons.mp m).resolve_left ne) id)
  have kp₁ : Kp (dm Fs G H) s.heap (PP f H) h₁ := ⟨fun a o e n => .inl (hk₁ a o e), fun a o e n m => n (ofP a (Nat.ne_of_lt (Heap.lt_size e)) _ m)⟩
  have hbn : B.base.get? s.heap.objs.size = none := by
    cases q : B.base.get? s.heap.objs.size with
    | none => rfl
    | some o => have := r.base _ o q; rw [size_none] at this; cases this
  have hHn : H s.heap.objs.size = none := by
    cases q : H s.heap.objs.size with
    | none => rfl
    | some c => exact absurd (.inl (by rw [q]; simp)) hLd
  have hGn : s.heap.objs.size ∉ G := fun m => hLd (.inr (.inr m))
  have rh₁ : RH B f.Fs f.G H { s with heap := h₁, toks := s.toks + (names.zip (rs ++ ds)).length } := by
    refine ⟨fun a o e => hk₁ a o (r.base a o e), r.gens, r.os, fun a c e => (r.cells a c e).kp kp₁ (hk₁ a), fun a m => ?_, fun a m => ?_, fun a m => ?_, fun a m => ?_, ?_⟩
    · by_cases q : a = s.heap.objs.size
      · rw [q]; exact hbn
      · exact r.nb a (ofP a q _ m)
    · by_cases q : a = s.heap.objs.size
      · obtain ⟨o, _, _, ho, _⟩ := hns; exact ⟨o, q ▸ ho⟩
      · obtain ⟨o, e⟩ := r.live a (ofP a q _ m); exact ⟨o, hk₁ a o e⟩
    · rcases m with m | m
      · rw [hFs] at m
        rcases List.mem_cons.mp m with q | m
        · rw [q]; exact hHn
        · exact r.disj a (.inl m)
      · exact r.disj a (.inr m)
    · rw [hFs] at m
      rcases List.mem_cons.mp m with q | m
      · rw [q]; exact hGn
      · exact r.apart a m
    · exact .cons (by show fd.scope.kind ≠ .module; rw [O.kind]; decide) rfl hns hbn (r.stk.of_keeps fun b o e _ => ⟨o, hk₁ b o e, rfl⟩)
  have hvs : VRs B.prog B.w (PP f H) h₁ (vs ++ dv) (rs ++ ds) := (hds (PP f H) h₁ (B.hK.keeps fun b o e => hk₁ b o (r.base b o e)) fun a o e p => by have := rh₁.nb a p; rw [e] at this; cases this).app (hv.kp kp₁)
  have rs₁ : RS B f ⟨(vs ++ dv).map some ++ List.replicate (names.length - (vs ++ dv).length) none, H⟩ { s with heap := h₁, toks := s.toks + (names.zip (rs ++ ds)).length } := by
    refine ⟨rh₁, fc_ok O hL, ⟨_, hns⟩, fun x c hx hk' hc => ?_, fun i x v hi hv' => ?_, fun p hp c hc hl hk => by
      have : (callEnv fd s.heap.objs.size fa).cells = [] := O.clo
      rw [show f.env.cells = [] from this] at hl; cases hl⟩
    · have : (callEnv fd s.heap.objs.size fa).cells = [] := O.clo
      rw [show f.env.cells = [] from this] at hc; cases hc
    · have hget : ∀ {l : List AV} {k i : Nat} {v : AV}, (l.map some ++ List.replicate k none)[i]? = some (some v) → l[i]? = some v := fun {l k i v} e => by
        rw [List.getElem?_append] at e
        split at e
        · rw [List.getElem?_map] at e
          cases q : l[i]? with
          | none => rw [q] at e; cases e
          | some y => rw [q] at e; cases e; rfl
        · rw [List.getElem?_replicate] at e
          split at e <;> cases e
      have hv'' := hget hv'
      obtain ⟨rv, hr, hvr⟩ := hvs.get hv''
      refine ⟨rv, .inl ⟨?_, _, hns, ?_⟩, hvr⟩
      · exact (O.nm x (List.mem_of_getElem? hi)).2.2
      · exact lookup_zip O.nd hi hr
  have aok : AOk f n none (A.deeper (callEnv fd s.heap.objs.size fa)) := ⟨by show A.frames.map _ = _; rw [hfr]; rfl, hh, up_le (c := 1) (by decide) hdep, up_le (c := 3) (by decide) hun⟩
  have out : ∀ (H' : AH) (s' : Shared), Step (PP f H) f.fr f.hid h₁ (PP f H') s'.heap → RH B f.Fs f.G H' s' → RH B Fs G H' s' ∧ Step (dm Fs G H) (frs Fs) G s.heap (dm Fs G H') s'.heap ∧ Kp (PP f H') s'.heap (dm Fs G H') s'.heap := fun H' s' st r' => by
    have w : ∀ a, dm Fs G H' a → PP f H' a := fun a m => m.imp id (fun m => m.imp (fun m => by rw [hFs]; exact .tail _ m) id)
    have kp : Kp (PP f H') s'.heap (dm Fs G H') s'.heap := ⟨fun _ _ e _ => .inl e, fun a _ _ n m => n (w a m)⟩
    refine ⟨⟨r'.base, r'.gens, r'.os, fun a c e => (r'.cells a c e).kp kp fun _ e => e, fun a m => r'.nb a (w a m), fun a m => r'.live a (w a m), fun a m => r'.disj a (m.imp (fun m => by rw [hFs]; exact .tail _ m) id), fun a m => r'.apart a (by rw [hFs]; exact .tail _ m), ?_⟩, ⟨fun a o e n => ?_, fun a m o e => st.fr a (by show a ∈ (if s.heap.objs.size = s.heap.objs.size then frs Fs else _); rw [if_pos rfl]; exact m) o (hk₁ a o e), fun a m o e => st.hid a m o (hk₁ a o e), fun a o e n m => ?_, fun a o e => st.alive a o (hk₁ a o e)⟩, kp⟩
    · exact r'.stk.2.2
    · exact st.keep a o (hk₁ a o e) fun m => n (ofP a (Nat.ne_of_lt (Heap.lt_size e)) _ m)
    · exact st.dom a o (hk₁ a o e) (fun m => n (ofP a (Nat.ne_of_lt (Heap.lt_size e)) _ m)) (w a m)
  refine wpAny_mono (hbody' f rfl rfl ⟨by show (callEnv fd _ _).blockKind = _; unfold Env.blockKind; rw [show (callEnv fd s.heap.objs.size fa).scope.kind = .function from O.kind]; rfl, fun x hx => (O.nm x hx).2.2⟩ _ _ aok rs₁) (fun fl s' q => ?_) fun e s' q => ?_
  · obtain ⟨v, σ', r', st, hr, q⟩ := q
    obtain ⟨o1, o2, o3⟩ := out σ'.H s' st r'.rh
    cases hr with
    | next => exact .ret .none σ'.H o1 o2 .none q
    | ret hr => exact .ret _ σ'.H o1 o2 (VR.kp o3 hr) q
    | _ => exact q.elim
  · unfold leaving
    refine wpAny_bind (q.note (Q := fun e s₂ => wpAny (model B.prog B.w) (A.deeper (callEnv fd s.heap.objs.size fa)) (setFlight e none) (fun _ s₃ => RetP B Fs G H s Q X (.error e) s₃) (fun e' s₃ => RetP B Fs G H s Q X (.error e') s₃) s₂) aok.frames (env := callEnv fd s.heap.objs.size fa) rfl fun s₂ q' => ?_)
    clear q
    obtain ⟨a, σ', C, d, r', st, hc, q⟩ := q'
    refine set_flight r' hc fun s₃ r₃ st₃ => ?_
    obtain ⟨o1, o2, o3⟩ := out σ'.H s₃ (st.trans st₃) r₃.rh
    exact .er a σ'.H C d o1 o2 hc q
end
end Mine
end
section
open PySem PySem.W PyProof.Rows PySem.Calls
namespace Mine
section
variable {B : BC} {f : Fc} {n : Nat} {hd : Option Value} {σ : St} {X : Addr → St → Prop} {β : Type} {α : Type} {R : RelT α β}
inductive TK (s : Shared) (G : α → Prop) (r : α) : Shared → Prop
  | t {tk : Nat} : G r → TK s G r { s with toks := tk }
theorem TK.s {s : Shared} {G : α → Prop} {r : α} (h : G r) : TK s G r s := .t (tk := s.toks) h
theorem TK.ok {s s' : Shared} {Q : β → St → Prop} {v : β} {r : α} (hs : RS B f σ s) (hq : Q v σ) (q : TK s (R (PP f σ.H) s.heap v) r s') : OkP B f R σ s Q r s' := by
  cases q with | t g => exact OkP.tok hs _ g hq
theorem EO1.of {a : AV} {t : Value → Sem α} {Q : β → St → Prop} (v : β) (h : ∀ A s r, AOk f n hd A → RS B f σ s → VR B.prog B.w (PP f σ.H) s.heap a r → wpAny (model B.prog B.w) A (t r) (TK s (R (PP f σ.H) s.heap v)) (fun _ _ => False) s) (hq : Q v σ) : EO1 B f n hd R a t σ Q X :=
  fun A s r hA hs ha => wpAny_mono (h A s r hA hs ha) (fun _ _ => TK.ok hs hq) fun _ _ q => q.elim
theorem EO2.of {a b : AV} {t : Value → Value → Sem α} {Q : β → St → Prop} (v : β) (h : ∀ A s r q, AOk f n hd A → RS B f σ s → VR B.prog B.w (PP f σ.H) s.heap a r → VR B.prog B.w (PP f σ.H) s.heap b q → wpAny (model B.prog B.w) A (t r q) (TK s (R (PP f σ.H) s.heap v)) (fun _ _ => False) s) (hq : Q v σ) : EO2 B f n hd R a b t σ Q X :=
  fun A s r q hA hs ha hb => wpAny_mono (h A s r q hA hs ha hb) (fun _ _ => TK.ok hs hq) fun _ _ q => q.elim
theorem EO2.ii {a b : Int} {t : Value → Value → Sem α} {Q : β → St → Prop} (v : β) (h : ∀ A s u w, wpAny (model B.prog B.w) A (t (.int a u) (.int b w)) (TK s (R (PP f σ.H) s.heap v)) (fun _ _ => False) s) (hq : Q v σ) : EO2 B f n hd R (.int a) (.int b) t σ Q X :=
  EO2.of v (fun A s _ _ _ _ h1 h2 => h1.eInt fun u => h2.eInt fun w => h A s u w) hq
theorem EO2.ss {a b : Str} {t : Value → Value → Sem α} {Q : β → St → Prop} (v : β) (h : ∀ A s u w, wpAny (model B.prog B.w) A (t (.str a u) (.str b w)) (TK s (R (PP f σ.H) s.heap v)) (fun _ _ => False) s) (hq : Q v σ) : EO2 B f n hd R (.str a) (.str b) t σ Q X :=
  EO2.of v (fun A s _ _ _ _ h1 h2 => h1.eStr fun u => h2.eStr fun w => h A s u w) hq
theorem EO.of {vs : List AV} {t : List Value → Sem α} {Q : β → St → Prop} (v : β) (h : ∀ A s rs, AOk f n hd A → RS B f σ s → VRs B.prog B.w (PP f σ.H) s.heap vs rs → wpAny (model B.prog B.w) A (t rs) (TK s (R (PP f σ.H) s.heap v)) (fun _ _ => False) s) (hq : Q v σ) : EO B f n hd R vs t σ Q X :=
  fun A s rs hA hs hv => wpAny_mono (h A s rs hA hs hv) (fun _ _ => TK.ok hs hq) fun _ _ q => q.elim
section
variable {a b : Int} {x y : Str} {Q : AV → St → Prop}
theorem o_add (h : Q (.int (a + b)) σ) : EO2 B f n hd (vrel B) (.int a) (.int b) (binaryOp .Add) σ Q X := EO2.ii _ (fun _ _ _ _ => wpAny_add_int (TK.t (.int _ _))) h
theorem o_iadd (h : Q (.int (a + b)) σ) : EO2 B f n hd (vrel B) (.int a) (.int b) (inplaceOp .Add) σ Q X := EO2.ii _ (fun _ _ _ _ => wpAny_iadd_int (TK.t (.int _ _))) h
theorem o_sub (h : Q (.int (a - b)) σ) : EO2 B f n hd (vrel B) (.int a) (.int b) (binaryOp .Sub) σ Q X := EO2.ii _ (fun _ _ _ _ => SiftDown.sub_int (TK.t (.int _ _))) h
theorem o_isub (h : Q (.int (a - b)) σ) : EO2 B f n hd (vrel B) (.int a) (.int b) (inplaceOp .Sub) σ Q X := EO2.ii _ (fun _ _ _ _ => PyProof.Rows.isub_int (TK.t (.int _ _))) h
theorem o_mul (hm : IntMulOk a b) (h : Q (.int (a * b)) σ) : EO2 B f n hd (vrel B) (.int a) (.int b) (binaryOp .Mult) σ Q X := EO2.ii _ (fun _ _ _ _ => PyProof.Rows.mul_int (TK.t (.int _ _)) hm) h
theorem o_fdiv (hb : b ≠ 0) (hs : b.natAbs < 1073741824) (h : Q (.int (a.fdiv b)) σ) : EO2 B f n hd (vrel B) (.int a) (.int b) (binaryOp .FloorDiv) σ Q X := EO2.ii _ (fun _ _ _ _ => PyProof.Rows.floordiv_int hb (TK.t (.int _ _)) (.inl (PyProof.noPylong_small hs))) h
theorem o_mod (hb : b ≠ 0) (h : Q (.int (a.fmod b)) σ) : EO2 B f n hd (vrel B) (.int a) (.int b) (binaryOp .Mod) σ Q X := EO2.ii _ (fun _ _ _ _ => PyProof.Rows.mod_int' hb (TK.t (.int _ _))) h
theorem o_neg (h : Q (.int (-a)) σ) : EO1 B f n hd (vrel B) (.int a) (unaryOp .USub) σ Q X := EO1.of _ (fun A s r _ _ h1 => h1.eInt fun _ => PyProof.Rows.neg_int (TK.t (.int _ _))) h
theorem o_eq (h : Q (.bool (a == b)) σ) : EO2 B f n hd (vrel B) (.int a) (.int b) (compareOp .Eq) σ Q X := EO2.ii _ (fun _ _ _ _ => PyProof.Rows.eq_int (TK.s (.bool _))) h
theorem o_ne (h : Q (.bool (a != b)) σ) : EO2 B f n hd (vrel B) (.int a) (.int b) (compareOp .NotEq) σ Q X := EO2.ii _ (fun _ _ _ _ => PyProof.Rows.ne_int (TK.s (.bool _))) h
theorem o_lt (h : Q (.bool (decide (a < b))) σ) : EO2 B f n hd (vrel B) (.int a) (.int b) (compareOp .Lt) σ Q X := EO2.ii _ (fun _ _ _ _ => PyProof.Rows.lt_int (TK.s (.bool _))) h
theorem o_gt (h : Q (.bool (decide (b < a))) σ) : EO2 B f n hd (vrel B) (.int a) (.int b) (compareOp .Gt) σ Q X := EO2.ii _ (fun _ _ _ _ => PyProof.Rows.gt_int (TK.s (.bool _))) h
theorem o_le (h : Q (.bool (decide (a ≤ b))) σ) : EO2 B f n hd (vrel B) (.int a) (.int b) (compareOp .LtE) σ Q X := EO2.ii _ (fun _ _ _ _ => PyProof.Rows.le_int (TK.s (.bool _))) h
theorem o_ge (h : Q (.bool (decide (b ≤ a))) σ) : EO2 B f n hd (vrel B) (.int a) (.int b) (compareOp .GtE) σ Q X := EO2.ii _ (fun _ _ _ _ => PyProof.Rows.ge_int (TK.s (.bool _))) h
theorem o_add_s (hz : x.length + y.length ≤ sizeLine) (h : Q (.str (x ++ y)) σ) : EO2 B f n hd (vrel B) (.str x) (.str y) (binaryOp .Add) σ Q X := EO2.ss _ (fun _ _ _ _ => PyProof.Rows.add_str (fun _ _ => TK.t (.str _ _)) hz) h
theorem o_eq_s (h : Q (.bool (x == y)) σ) : EO2 B f n hd (vrel B) (.str x) (.str y) (compareOp .Eq) σ Q X := EO2.ss _ (fun _ _ _ _ => PyProof.Rows.eq_str (TK.s (.bool _))) h
theorem o_ne_s (h : Q (.bool (x != y)) σ) : EO2 B f n hd (vrel B) (.str x) (.str y) (compareOp .NotEq) σ Q X := EO2.ss _ (fun _ _ _ _ => PyProof.Rows.ne_str (TK.s (.bool _))) h
noncomputable def AV.isNone : AV → Bool | .none => true | _ => false
theorem VR.isNone {P : Addr → Prop} {h : Heap} {v : AV} {r : Value} (q : VR B.prog B.w P h v r) : (r == Value.none) = v.isNone :=
  VR.rec (motive_1 := fun v r _ => (r == Value.none) = v.isNone) (motive_2 := fun _ _ _ => True) (motive_3 := fun _ _ _ => True) rfl (fun _ => rfl) (fun _ _ => rfl) (fun _ _ => rfl) (fun _ => rfl) (fun _ => rfl) (fun _ => rfl) (fun _ _ _ _ => rfl) (fun _ _ _ _ => rfl) (fun _ _ _ _ _ => rfl) trivial (fun _ _ _ _ => trivial) trivial (fun _ _ _ _ => trivial) q
theorem o_is_none {v : AV} (h : Q (.bool v.isNone) σ) : EO2 B f n hd (vrel B) v .none (compareOp .Is) σ Q X := EO2.of (.bool v.isNone) (fun A s r q _ _ h1 h2 => by cases h2; exact is_none (TK.s (by rw [h1.isNone]; exact .bool _))) h
theorem o_isnt_none {v : AV} (h : Q (.bool (!v.isNone)) σ) : EO2 B f n hd (vrel B) v .none (compareOp .IsNot) σ Q X := EO2.of (.bool (!v.isNone)) (fun A s r q _ _ h1 h2 => h2.eNone (isNot_none (TK.s (by rw [h1.isNone]; exact .bool _)))) h
end
theorem o_truthy {b : Bool} {Q : Bool → St → Prop} (h : Q b σ) : EO1 B f n hd idrel (.bool b) truthy σ Q X := EO1.of _ (fun A s r _ _ h1 => h1.eBool (wpAny_truthy_bool (TK.s rfl))) h
theorem VRs.strs {P : Addr → Prop} {h : Heap} {ys : List Str} : ∀ {vs : List Value}, VRs B.prog B.w P h (ys.map AV.str) vs → StrsAre vs ys := by
  induction ys with
  | nil => exact fun q => q.e0 .nil
  | cons y ys ih => exact fun q => q.ec fun v vs a b => a.eStr fun t => .cons _ _ (ih b)
theorem o_in_strs {x : Str} {ys : List Str} {xs : List AV} {Q : AV → St → Prop} (h : Q (.bool (ys.any (· == x))) σ) (e : xs = ys.map AV.str) : EO2 B f n hd (vrel B) (.str x) (.tup xs) (compareOp .In) σ Q X := EO2.of _ (fun A s r q _ _ h1 h2 => by
  subst e; exact h1.eStr fun _ => h2.eTup fun _ _ ht _ hv => in_tuple_strs ht (by simpa using hv.strs) (TK.s (.bool _))) h
theorem subs_any (slice : Expr) (o i : Value) : ∃ ops, subscripted slice false o i = operate ops (getItem o i) := by
  cases slice with
  | Slice a b c => cases c <;> exact ⟨_, rfl⟩
  | _ => exact ⟨_, rfl⟩
theorem tail_go {prog : Program} {w : World} {A : Around} {E : Value → Shared → Prop} {s : Shared} {value slice : Expr} {o i : Value} {T id : String} {Q : Value → Shared → Prop} (hT : s.TypeIs o T)
    (hl : typeLookup (.type T) "__getitem__" = pure (some (.builtin id))) (h : wpAny (model prog w) A (getItem o i) Q E s) : wpAny (model prog w) A (subscriptTail value slice o i) Q E s := by
  obtain ⟨ops, hs⟩ := subs_any slice o i
  unfold subscriptTail
  refine wpAny_bind ?_
  rw [getitemInPython_of_ne hT.not_modules]
  refine wpAny_bind (wpAny_specialOf hT hl ?_)
  have fin : wpAny (model prog w) A (subscripted slice false o i) (fun r s₃ => wpAny (model prog w) A (letTemporaryGo value o r >>= fun _ => pure r) Q E s₃) E s := by
    rw [hs]
    exact wpAny_operating (wpAny_mono h (fun r s₃ h₃ => wpAny_bind (wpAny_letTemporaryGo (wpAny_pure h₃))) fun _ _ x => x)
  first
    | exact wpAny_pure (wpAny_bind fin)
    | exact wpAny_bind (wpAny_pure (wpAny_bind fin))
    | exact wpAny_bind fin
theorem neg1 {n : Nat} : (-1 + (n : Int)).toNat = n - 1 := by omega
theorem ssize_ok {i : Int} (h1 : -(2 ^ 63) ≤ i) (h2 : i < 2 ^ 63) : fitsSsize i = true := by
  unfold fitsSsize
  have a : ¬ i < -(2 ^ 63) := Int.not_lt.mpr h1
  have b : ¬ i ≥ 2 ^ 63 := Int.not_le.mpr h2
  rw [decide_eq_false a, decide_eq_false b]; rfl
theorem charAt_of {x : Str} {i : Int} {c : Nat} (h0 : 0 ≤ i) (hc : x.cps.toList[i.toNat]? = some c) : Txt.charAt x i = some c ∧ i < x.length := by
  have hl : i.toNat < x.cps.toList.length := (List.getElem?_eq_some_iff.mp hc).1
  have hl' : i < x.length := by
    have : x.length = x.cps.toList.length := rfl
    rw [← Int.toNat_of_nonneg h0, this]
    exact Int.ofNat_lt.mpr hl
  refine ⟨?_, hl'⟩
  unfold Txt.charAt
  have h1 : ¬ i < 0 := Int.not_lt.mpr h0
  have e : seqIndex? i x.length = some i.toNat := by
    unfold seqIndex?
    simp [h1, h0, hl']
  rw [e]
  simpa using hc
theorem o_item_s {value slice : Expr} {x : Str} {i : Int} {c : Nat} {Q : AV → St → Prop} (h0 : 0 ≤ i) (hf : x.length < 2 ^ 62) (hc : x.cps.toList[i.toNat]? = some c) (h : Q (.str (sgn c)) σ) : EO2 B f n hd (vrel B) (.str x) (.int i) (subscriptTail value slice) σ Q X :=
  EO2.of _ (fun A s r q _ _ h1 h2 => by
    refine h1.eStr fun t => h2.eInt fun u => ?_
    obtain ⟨e, hl⟩ := charAt_of h0 hc
    have e' : Txt.item x i = sgn c := by unfold Txt.item; rw [e]; rfl
    have hi : fitsSsize i = true := ssize_ok (Int.le_trans (by decide) h0) (Int.lt_trans hl (Int.lt_of_lt_of_le (Int.ofNat_lt.mpr hf) (by decide)))
    exact tail_go (typeIs_str _ _ _) F.slot_str_getitem.lookup (SB.getItem hi (by rw [e]; rfl) (TK.t (by rw [e']; exact .str _ _)))) h
theorem seqIx {k : Int} {n : Nat} (h0 : 0 ≤ k) (hn : k < n) : seqIndex? k n = some k.toNat := by
  unfold seqIndex?
  have : ¬ k < 0 := Int.not_lt.mpr h0
  simp [this, h0, hn]
theorem o_item_t {value slice : Expr} {xs : List AV} {k : Int} {v : AV} {Q : AV → St → Prop} (h0 : 0 ≤ k) (hf : k < 2 ^ 63) (hv : xs[k.toNat]? = some v) (h : Q v σ) : EO2 B f n hd (vrel B) (.tup xs) (.int k) (subscriptTail value slice) σ Q X :=
  EO2.of _ (fun A s r q _ _ h1 h2 => by
    refine h2.eInt fun _ => h1.eTup fun a items ht _ hvs => ?_
    obtain ⟨rv, hr, hvr⟩ := hvs.get hv
    have hl : k.toNat < _ := (List.getElem?_eq_some_iff.mp hr).1
    exact tail_go ht.typeIs slot_tuple_getitem.lookup (getItem_tuple ht (by omega) hf (seqIx h0 (by simp; omega)) (by simpa using hr) (TK.s hvr))) h
theorem o_item_l {value slice : Expr} {xs : List AV} {k : Int} {v : AV} {Q : AV → St → Prop} (h0 : 0 ≤ k) (hf : k < 2 ^ 63) (hv : xs[k.toNat]? = some v) (h : Q v σ) : EO2 B f n hd (vrel B) (.lst xs) (.int k) (subscriptTail value slice) σ Q X :=
  EO2.of _ (fun A s r q _ _ h1 h2 => by
    refine h2.eInt fun _ => h1.eLst fun a items ht _ hvs => ?_
    obtain ⟨rv, hr, hvr⟩ := hvs.get hv
    exact tail_go ht.isList.typeIs slot_list_getitem.lookup (wpAny_getItem_list (x := rv) ht.isList h0 hf (by simpa using hr) (TK.s hvr))) h
theorem o_last_l {value slice : Expr} {xs : List AV} {v : AV} {Q : AV → St → Prop} (hv : xs.getLast? = some v) (h : Q v σ) : EO2 B f n hd (vrel B) (.lst xs) (.int (-1)) (subscriptTail value slice) σ Q X :=
  EO2.of _ (fun A s r q _ _ h1 h2 => by
    refine h2.eInt fun _ => h1.eLst fun a items ht _ hvs => ?_
    rw [List.getLast?_eq_getElem?] at hv
    obtain ⟨rv, hr, hvr⟩ := hvs.get hv
    have hl : xs.length - 1 < items.length := (List.getElem?_eq_some_iff.mp hr).1
    have hlen := hvs.length
    refine tail_go ht.isList.typeIs slot_list_getitem.lookup (wpAny_getItem_list_neg (x := rv) ht.isList (by omega) (by simp; omega) (by omega) ?_ (TK.s hvr))
    have e : (-1 + (items.toArray.size : Int)).toNat = xs.length - 1 := by rw [hlen]; exact neg1
    rw [e]; simpa using hr) h
theorem o_item_m {value slice : Expr} {a : Addr} {xs : List AV} {k : Int} {v : AV} {Q : AV → St → Prop} (hc : σ.H a = some (.list xs)) (h0 : 0 ≤ k) (hf : k < 2 ^ 63) (hv : xs[k.toNat]? = some v) (h : Q v σ) : EO2 B f n hd (vrel B) (.ref a) (.int k) (subscriptTail value slice) σ Q X :=
  EO2.of _ (fun A s r q _ hs h1 h2 => by
    refine h2.eInt fun _ => h1.eRef ?_
    obtain ⟨items, ht, hvs⟩ := hs.rh.cells a _ hc
    obtain ⟨rv, hr, hvr⟩ := hvs.get hv
    exact tail_go ht.isList.typeIs slot_list_getitem.lookup (wpAny_getItem_list (x := rv) ht.isList h0 hf (by simpa using hr) (TK.s hvr))) h
theorem b_len_s {x : Str} {Q : AV → St → Prop} (hf : x.length < 2 ^ 62) (h : Q (.int x.length) σ) : EBl B f n hd "len" [.str x] σ Q X :=
  EO.of _ (fun A s rs _ _ hv => by
    exact hv.e1 fun _ h1 => h1.eStr fun _ => PyProof.Rows.len_str (by omega) (TK.t (.int _ _))) h
theorem b_len_l {xs : List AV} {Q : AV → St → Prop} (hf : xs.length < 2 ^ 62) (h : Q (.int xs.length) σ) : EBl B f n hd "len" [.lst xs] σ Q X :=
  EO.of _ (fun A s rs _ _ hv => by
    refine hv.e1 fun _ h1 => h1.eLst fun _ _ ht _ hvs => ?_
    have := hvs.length
    exact PyProof.Rows.len_list ht.isList (by simp; omega) (TK.t (by simp only [List.size_toArray]; rw [this]; exact .int _ _))) h
theorem b_len_m {a : Addr} {xs : List AV} {Q : AV → St → Prop} (hc : σ.H a = some (.list xs)) (hf : xs.length < 2 ^ 62) (h : Q (.int xs.length) σ) : EBl B f n hd "len" [.ref a] σ Q X :=
  EO.of _ (fun A s rs _ hs hv => by
    refine hv.e1 fun _ h1 => h1.eRef ?_
    obtain ⟨items, ht, hvs⟩ := hs.rh.cells a _ hc
    have := hvs.length
    exact PyProof.Rows.len_list ht.isList (by simp; omega) (TK.t (by simp only [List.size_toArray]; rw [this]; exact .int _ _))) h
theorem b_ord {c : Nat} {Q : AV → St → Prop} (h : Q (.int c) σ) : EBl B f n hd "ord" [.str (sgn c)] σ Q X :=
  EO.of _ (fun A s rs _ _ hv => by
    exact hv.e1 fun _ h1 => h1.eStr fun _ => P.ord_of_char (TK.t (.int _ _))) h
end
end Mine
end
section
open PySem PySem.W PyProof.Rows PySem.Calls
namespace Mine
set_option maxHeartbeats 0
theorem kf : kk.heap_1 = kk.heap_1 ∧ PySem.Challenge.rw_oj0070_01 = PySem.Challenge.rw_oj0070_01 := by
  k_fill
  exact ⟨rfl, rfl⟩
noncomputable def KB (B : BC) : Prop := B.K = kk.heap_1 B.w.params
section
variable {B : BC}
theorem KB.in (hB : KB B) : (kk.heap_1 B.w.params).In B.base := by
  have := B.hK
  rw [show B.K = kk.heap_1 B.w.params from hB] at this
  exact this
noncomputable def GlAt (B : BC) (x : Str) (v : AV) : Prop := (x == ("__debug__" : Str)) = false ∧ ∃ rv, (∀ P h, VR B.prog B.w P h v rv) ∧ (B.mg x = some rv ∨ (B.mg x = none ∧ B.mb x = some rv))
theorem gl_fn (hB : KB B) {x : Str} {a : Addr} (e : nsIn (kk.heap_1 B.w.params) mainGlobals x = some (some (.ref a))) (hd : (x == ("__debug__" : Str)) = false) : GlAt B x (.ref a) :=
  ⟨hd, .ref a, fun _ _ => .ref a, .inl (mg_of hB.in B.hg e)⟩
theorem gl_blt (hB : KB B) {x : Str} {i : String} (e : nsIn (kk.heap_1 B.w.params) mainGlobals x = some none) (hv : bootBuiltins x = some (.builtin i)) (hd : (x == ("__debug__" : Str)) = false) (hn : x ≠ "__name__") : GlAt B x (.blt i) :=
  ⟨hd, .builtin i, fun _ _ => .blt i, .inr ⟨mg_none_of hB.in B.hg e, (B.hbb x hn).trans hv⟩⟩
theorem gl_typ (hB : KB B) {x : Str} {i : String} (e : nsIn (kk.heap_1 B.w.params) mainGlobals x = some none) (hv : bootBuiltins x = some (.type i)) (hd : (x == ("__debug__" : Str)) = false) (hn : x ≠ "__name__") : GlAt B x (.typ i) :=
  ⟨hd, .type i, fun _ _ => .typ i, .inr ⟨mg_none_of hB.in B.hg e, (B.hbb x hn).trans hv⟩⟩
inductive GlsOk (B : BC) (ns : List (Str × NameKind)) : List (Str × AV) → Prop
  | nil : GlsOk B ns []
  | cons {x : Str} {v : AV} {r : List (Str × AV)} : GlAt B x v → ns.lookup x = some .globalImplicit → GlsOk B ns r → GlsOk B ns ((x, v) :: r)
theorem GlsOk.all {ns : List (Str × NameKind)} {l : List (Str × AV)} (h : GlsOk B ns l) : ∀ p ∈ l, (p.1 == ("__debug__" : Str)) = false ∧ ns.lookup p.1 = some .globalImplicit ∧ ∃ rv, (∀ P h, VR B.prog B.w P h p.2 rv) ∧ (B.mg p.1 = some rv ∨ (B.mg p.1 = none ∧ B.mb p.1 = some rv)) := by
  induction h with
  | nil => intro p m; cases m
  | cons a b _ ih =>
    intro p m
    cases m with
    | head => exact ⟨a.1, b, a.2⟩
    | tail _ m => exact ih p m
noncomputable def nodupB : List Str → Bool
  | [] => true
  | x :: r => !(r.any (· == x)) && nodupB r
theorem nodup_of : ∀ {l : List Str}, nodupB l = true → l.Nodup
  | [], _ => List.nodup_nil
  | x :: r, h => by
    obtain ⟨a, b⟩ := Bool.and_eq_true_iff.mp h
    refine List.nodup_cons.mpr ⟨fun m => ?_, nodup_of b⟩
    have : r.any (· == x) = true := List.any_eq_true.mpr ⟨x, m, by simp⟩
    rw [this] at a; cases a
noncomputable def isLocal : Option NameKind → Bool
  | some .local => true
  | _ => false
noncomputable def namesB (ns : List (Str × NameKind)) (l : List Str) : Bool := l.all fun x => !(x == ("__debug__" : Str)) && !(x == ("__classdict__" : Str)) && isLocal (ns.lookup x)
theorem names_of {ns : List (Str × NameKind)} {l : List Str} (h : namesB ns l = true) : ∀ x ∈ l, (x == ("__debug__" : Str)) = false ∧ (x == ("__classdict__" : Str)) = false ∧ ns.lookup x = some .local := fun x m => by
  have := List.all_eq_true.mp h x m
  simp only [Bool.and_eq_true, Bool.not_eq_true'] at this
  refine ⟨this.1.1, this.1.2, ?_⟩
  have q := this.2
  unfold isLocal at q
  split at q
  · assumption
  · cases q
noncomputable def noCell (ns : List (Str × NameKind)) : Bool := ns.all fun p => match p.2 with | .cell => false | _ => true
theorem noCell_of {ns : List (Str × NameKind)} (h : noCell ns = true) : ∀ x ∈ ns, x.2 ≠ .cell := fun x m e => by
  have := List.all_eq_true.mp h x m
  rw [e] at this; cases this
noncomputable def gcT (ns : List (Str × NameKind)) (x : Str) : Option NameKind × Bool × Bool := (ns.lookup x, x == ("__debug__" : Str), x == ("__name__" : Str))
theorem gcT_e {ns : List (Str × NameKind)} {x : Str} (h : gcT ns x = (some .globalImplicit, false, false)) : ns.lookup x = some .globalImplicit ∧ (x == ("__debug__" : Str)) = false ∧ x ≠ "__name__" := by
  injection h with h1 h; injection h with h2 h3
  exact ⟨h1, h2, fun e => by rw [e] at h3; cases h3⟩
theorem GlsOk.fn (hB : KB B) {ns : List (Str × NameKind)} {gl : List (Str × AV)} {x : Str} {a : Addr} (e : nsIn (kk.heap_1 B.w.params) mainGlobals x = some (some (.ref a))) (h : gcT ns x = (some .globalImplicit, false, false)) (t : GlsOk B ns gl) : GlsOk B ns ((x, .ref a) :: gl) :=
  .cons (gl_fn hB e (gcT_e h).2.1) (gcT_e h).1 t
theorem GlsOk.blt (hB : KB B) {ns : List (Str × NameKind)} {gl : List (Str × AV)} {x : Str} {i : String} (e : nsIn (kk.heap_1 B.w.params) mainGlobals x = some none) (hv : bootBuiltins x = some (.builtin i)) (h : gcT ns x = (some .globalImplicit, false, false)) (t : GlsOk B ns gl) : GlsOk B ns ((x, .blt i) :: gl) :=
  .cons (gl_blt hB e hv (gcT_e h).2.1 (gcT_e h).2.2) (gcT_e h).1 t
theorem GlsOk.typ (hB : KB B) {ns : List (Str × NameKind)} {gl : List (Str × AV)} {x : Str} {i : String} (e : nsIn (kk.heap_1 B.w.params) mainGlobals x = some none) (hv : bootBuiltins x = some (.type i)) (h : gcT ns x = (some .globalImplicit, false, false)) (t : GlsOk B ns gl) : GlsOk B ns ((x, .typ i) :: gl) :=
  .cons (gl_typ hB e hv (gcT_e h).2.1 (gcT_e h).2.2) (gcT_e h).1 t
noncomputable def fnT (fd : FuncData) (b : Bool) : ScopeKind × Addr × Addr × List (Str × Addr) × Bool × Bool × Bool := (fd.scope.kind, fd.globals, fd.builtins, fd.closure, b, fd.scope.isCoroutine, fd.scope.isGenerator)
theorem fn_ok {fd : FuncData} {names : List Str} {gl : List (Str × AV)} (g : GlsOk B fd.scope.names gl) (h : fnT fd (nodupB names && (namesB fd.scope.names names && noCell fd.scope.names)) = (.function, mainGlobals, builtinsNs, [], true, false, false)) : FnOk B fd names gl := by
  injection h with h1 h; injection h with h2 h; injection h with h3 h; injection h with h4 h; injection h with h5 h; injection h with h8 h9
  have h6 := Bool.and_eq_true_iff.mp h5
  have h7 := Bool.and_eq_true_iff.mp h6.2
  exact ⟨h1, h2, h3, h4, nodup_of h6.1, names_of h7.1, g.all, noCell_of h7.2, h8, h9⟩
noncomputable def mkLoc : List Str → List AV → List (Option AV)
  | [], vs => vs.map some
  | _ :: r, [] => none :: mkLoc r []
  | _ :: r, v :: vs => some v :: mkLoc r vs
theorem mkLoc_nil : ∀ names : List Str, mkLoc names [] = List.replicate names.length none
  | [] => rfl
  | _ :: r => by rw [mkLoc, mkLoc_nil r]; rfl
theorem mkLoc_eq : ∀ {names : List Str} {vs : List AV}, vs.length ≤ names.length → mkLoc names vs = vs.map some ++ List.replicate (names.length - vs.length) none
  | [], vs, h => by simp [mkLoc]
  | x :: r, [], h => by rw [mkLoc_nil]; simp
  | x :: r, v :: vs, h => by
    have := mkLoc_eq (names := r) (vs := vs) (by simpa using h)
    rw [mkLoc, this]
    simp
theorem call_def {n : Nat} (hB : KB B) {fa : Addr} {oc : Value} {od : Option Addr} {osl : Array (Option Value)} {fd : FuncData} {body : List Stmt} (names : List Str) (gl : List (Str × AV)) {vs : List AV} {H : AH} {Q : AV → AH → Prop} {X : Addr → AH → Prop}
    (hl : (kk.heap_1 B.w.params).lookup fa = some ⟨oc, od, .func fd, osl⟩) (hk : keepIn (kk.heap_1 B.w.params) (.ref fa) = true) (hcd : codeIn (kk.heap_1 B.w.params) fd.code fd.qualname = true) (hbody : fd.body = .stmts body) (O : FnOk B fd names gl)
    (hlen : vs.length ≤ names.length) (hbind : ∀ rs : List Value, rs.length = vs.length → bindArgs fd ⟨rs, []⟩ = pure (names.zip rs))
    (hbody' : ∀ f : Fc, f.names = names → f.gl = gl → Plain f → ES B f n none (execs body f.env) ⟨mkLoc names vs, H⟩ (fun σ => Q .none σ.H) (retk Q) (fun a σ => X a σ.H)) :
    CallP B (n + 1) (.ref fa) vs H Q X :=
  fn_call (dv := []) (body := body) (names := names) (gl := gl) (by rw [hB]; exact hl) (by rw [hB]; exact hk) (by rw [hB]; exact hcd) hbody O
    (fun s rs _ hr => ⟨[], by rw [List.append_nil]; exact BindsTo.of_eq (hbind rs hr), fun _ _ _ _ => .nil⟩) (by rw [List.append_nil]; rw [← mkLoc_eq hlen]; exact hbody')
end
end Mine
end
section
open PySem PySem.W PyProof.Rows PySem.Calls
namespace Mine
inductive Got : List Str → Str → List (Option AV) → AV → Prop
  | z {x r v l} : Got (x :: r) x (some v :: l) v
  | s {x y r v o l} : Got r x l v → Got (y :: r) x (o :: l) v
inductive Put : List Str → Str → List (Option AV) → AV → List (Option AV) → Prop
  | z {x r o v l} : Put (x :: r) x (o :: l) v (some v :: l)
  | s {x y r o v l l'} : Put r x l v l' → Put (y :: r) x (o :: l) v (o :: l')
theorem Got.idx {ns : List Str} {x : Str} {l : List (Option AV)} {v : AV} (h : Got ns x l v) : ∃ i, Idx ns x i ∧ l[i]? = some (some v) := by
  induction h with
  | z => exact ⟨0, .z, rfl⟩
  | s _ ih => obtain ⟨i, a, b⟩ := ih; exact ⟨i + 1, .s a, by simpa using b⟩
theorem Put.idx {ns : List Str} {x : Str} {l l' : List (Option AV)} {v : AV} (h : Put ns x l v l') : ∃ i, Idx ns x i ∧ l' = l.set i (some v) := by
  induction h with
  | z => exact ⟨0, .z, rfl⟩
  | s _ ih => obtain ⟨i, a, b⟩ := ih; exact ⟨i + 1, .s a, by simp [b]⟩
inductive Sto (ns : List Str) (x : Str) (v : AV) (N : St → Prop) : St → Prop
  | mk {l l' : List (Option AV)} {H : AH} : Put ns x l v l' → N ⟨l', H⟩ → Sto ns x v N ⟨l, H⟩
theorem Sto.to {ns : List Str} {x : Str} {v : AV} {N : St → Prop} {σ : St} (h : Sto ns x v N σ) : ∃ i, Idx ns x i ∧ N ⟨σ.loc.set i (some v), σ.H⟩ := by
  cases h with
  | mk p n => obtain ⟨i, a, b⟩ := p.idx; exact ⟨i, a, by rw [← b]; exact n⟩
inductive StoL (ns : List Str) (N : St → Prop) : List Expr → List AV → St → Prop
  | nil {σ : St} : N σ → StoL ns N [] [] σ
  | cons {x : Str} {p : Pos} {es : List Expr} {v : AV} {vs : List AV} {l l' : List (Option AV)} {H : AH} : Put ns x l v l' → StoL ns N es vs ⟨l', H⟩ → StoL ns N (.Name x p :: es) (v :: vs) ⟨l, H⟩
theorem StoL.to {f : Fc} {ns : List Str} (hn : f.names = ns) {N : St → Prop} {es : List Expr} {vs : List AV} {σ : St} (h : StoL ns N es vs σ) : Stores f N es vs σ := by
  induction h with
  | nil h => exact .nil h
  | cons p _ ih => obtain ⟨i, a, b⟩ := p.idx; exact .cons (hn ▸ a) (by rw [← b]; exact ih)
section
variable {B : BC} {f : Fc} {n : Nat} {hd : Option Value} {σ σ₀ : St} {X : Addr → St → Prop} {s s₀ : Shared} {A : Around} {E : Value → Shared → Prop} {N : St → Prop} {K : AFlow → St → Prop} {loc : List (Option AV)} {H : AH} {ns : List Str} {Q : AV → St → Prop}
theorem d_name {x : Str} {pos : Pos} {v : AV} (hn : f.names = ns) (g : Got ns x loc v) (h : Q v ⟨loc, H⟩) : EV B f n hd (eval (.Name x pos) f.env) ⟨loc, H⟩ Q X := by
  obtain ⟨i, a, b⟩ := g.idx
  exact r_name (hn ▸ a) b h
theorem d_glob {x : Str} {pos : Pos} {v : AV} {gl : List (Str × AV)} (hn : f.gl = gl) (g : GHas gl x v) (h : Q v σ) : EV B f n hd (eval (.Name x pos) f.env) σ Q X := r_glob (hn ▸ g) h
theorem d_set {x : Str} {xp pos : Pos} {value : Expr} (hn : f.names = ns) (h : EV B f n hd (eval value f.env) σ (fun v => Sto ns x v N) X)
    (hs' : ∀ l env, swapsWith value (some (.Name x xp)) l env = pure false) : ES B f n hd (exec (.Assign [.Name x xp] value pos) f.env) σ N K X :=
  r_set (EX.imp h (fun v σ' q => by obtain ⟨i, a, b⟩ := q.to; exact ⟨i, hn ▸ a, b⟩) fun _ _ q => q) hs'
theorem d_aug {x : Str} {xp pos : Pos} {op : Operator} {value : Expr} {v₀ : AV} (hn : f.names = ns) (g : Got ns x loc v₀)
    (h : EV B f n hd (eval value f.env) ⟨loc, H⟩ (fun v σ₁ => EO2 B f n hd (vrel B) v₀ v (inplaceOp op) σ₁ (fun r => Sto ns x r N) X) X) : ES B f n hd (exec (.AugAssign (.Name x xp) op value pos) f.env) ⟨loc, H⟩ N K X := by
  obtain ⟨i, a, b⟩ := g.idx
  refine r_aug (hn ▸ a) b (EX.imp h (fun v σ' q => ?_) fun _ _ q => q)
  intro A s r q' hA hs h1 h2
  refine wpAny_mono (q A s r q' hA hs h1 h2) (fun _ _ ⟨v, σ'', c1, c2, c3, c4⟩ => ⟨v, σ'', c1, c2, c3, ?_⟩) fun _ _ q => q
  obtain ⟨j, a', b'⟩ := c4.to
  have : j = i := by
    have e1 := a.get; have e2 := a'.get
    by_cases e : j = i
    · exact e
    · exact absurd rfl (nd_lookup_ne (hn ▸ hs.ok.nd) e2 e1 e)
  subst this; exact b'
theorem d_unpack {elts : List Expr} {k : Nat} {tpos pos : Pos} {value : Expr} (hn : f.names = ns) (h : EV B f n none (eval value f.env) σ (fun v σ₁ => ∃ xs, v = .tup xs ∧ StoL ns N elts xs σ₁) X)
    (hs' : ∀ l env, swapsWithSole [.Tuple elts k tpos] value l env = pure false) (hw : swappedStores [.Tuple elts k tpos] value f.env = pure none) :
    ES B f n none (exec (.Assign [.Tuple elts k tpos] value pos) f.env) σ N K X :=
  r_unpack (EX.imp h (fun v σ' q => by obtain ⟨xs, e, q⟩ := q; exact ⟨xs, e, q.to hn⟩) fun _ _ q => q) hs' hw
theorem d_to_name {x : Str} {p : Pos} {v : AV} {Q : Unit → St → Prop} (hn : f.names = ns) (h : Sto ns x v (Q ()) σ) : EO1 B f n hd (idrel (α := Unit)) v (fun r => assign (.Name x p) f.env r) σ Q X := by
  obtain ⟨i, a, b⟩ := h.to
  exact r_to_name (hn ▸ a) b
theorem d_to_tuple {elts : List Expr} {k : Nat} {p : Pos} {xs : List AV} {Q : Unit → St → Prop} (hn : f.names = ns) (h : StoL ns (Q ()) elts xs σ) : EO1 B f n none (idrel (α := Unit)) (.tup xs) (fun r => assign (.Tuple elts k p) f.env r) σ Q X := r_to_tuple (h.to hn)
theorem ite_n {α : Type} {c : Prop} [Decidable c] {t e : α} (h : e = t) : ite c t e = t := by cases h; exact ite_self _
theorem fm2 {g : Expr → Option Str} {x y : Expr} {a b : Str} (h1 : g x = some a) (h2 : g y = some b) : [x, y].filterMap g = [a, b] := by rw [List.filterMap_cons_some h1, List.filterMap_cons_some h2]; rfl
theorem swapped_none {ts vs : List Expr} {k k' : Nat} {tp vp : Pos} (h : vs.all (foldedForSure 8) = true) (env : Env) : swappedStores [.Tuple ts k tp] (.Tuple vs k' vp) env = pure none := by
  exact ite_n (ite_n (ite_n (if_pos h)))
theorem no_star : ∀ v : Expr, plainArg v = true → (match v with | .Starred .. => true | _ => false) = false := by
  intro v; cases v <;> first | exact fun _ => rfl | (intro h; cases h)
theorem swapped_two {v1 v2 : Expr} {a b : Str} {pa pb : Pos} {k k' : Nat} {tp vp : Pos} (hp : Plain f) (ha : a ∈ f.names) (hb : b ∈ f.names) (hne : (a == b) = false) (hl : (pb.line == pa.line) = true)
    (h1 : [v1, v2].all plainArg = true) (h2 : [v1, v2].all (foldedForSure 8) = false) (h3 : [v1, v2].all (constantsAlone 8) = false) : swappedStores [.Tuple [.Name a pa, .Name b pb] k tp] (.Tuple [v1, v2] k' vp) f.env = pure (some [a, b]) := by
  have ka := hp.2 a ha
  have kb := hp.2 b hb
  have e1 : (b == a) = false := by rw [beq_eq_false_iff_ne] at hne ⊢; exact fun e => hne e.symm
  have hst : ([v1, v2].any fun | .Starred .. => true | _ => false) = false := by
    simp only [List.all_cons, List.all_nil, Bool.and_true, Bool.and_eq_true] at h1
    rw [List.any_cons, List.any_cons, List.any_nil, no_star _ h1.1, no_star _ h1.2]; rfl
  have ed : [a, b].eraseDups = [a, b] := by simp [List.eraseDups, List.eraseDupsBy, List.eraseDupsBy.loop, e1]
  have key : ∀ {ns : List Str} {u : Sem (Option (List Str))}, ns = [a, b] → (if (ns.length != 2 || ns.eraseDups.length != ns.length) = true then pure none else if [v1, v2].all (foldedForSure 8) = true then pure none else if [v1, v2].all (constantsAlone 8) = true then u else pure (some ns)) = (pure (some [a, b]) : Sem (Option (List Str))) := fun e => by
    subst e
    exact (if_neg (by rw [ed]; exact Bool.false_ne_true)).trans ((if_neg (by rw [h2]; exact Bool.false_ne_true)).trans (if_neg (by rw [h3]; exact Bool.false_ne_true)))
  refine (if_neg ?_).trans ((if_neg (fun q => by have := hst.symm.trans q; cases this)).trans (key ?_))
  · rw [hp.1]; exact Bool.false_ne_true
  · exact fm2 (if_pos (by rw [ka]; exact beq_self_eq_true pa.line)) (if_pos (by rw [kb]; exact hl))
theorem d_pair {v1 v2 : Expr} {a b : Str} {pa pb tp vp pos : Pos} {k k' i j : Nat} (hn : f.names = ns) (hp : Plain f) (ha : Idx ns a i) (hb : Idx ns b j)
    (h : EV B f n none (eval (.Tuple [v1, v2] k' vp) f.env) σ (fun v σ₁ => ∃ x y, v = .tup [x, y] ∧ Sto ns b y (Sto ns a x N) σ₁) X)
    (hne : (a == b) = false) (hl : (pb.line == pa.line) = true) (h1 : [v1, v2].all plainArg = true) (h2 : [v1, v2].all (foldedForSure 8) = false) (h3 : [v1, v2].all (constantsAlone 8) = false)
    (hs' : ∀ l env, swapsWithSole [.Tuple [.Name a pa, .Name b pb] k tp] (.Tuple [v1, v2] k' vp) l env = pure false) :
    ES B f n none (exec (.Assign [.Tuple [.Name a pa, .Name b pb] k tp] (.Tuple [v1, v2] k' vp) pos) f.env) σ N K X := fun A s hA hs =>
  Assign_Tuple_swapped (h.via hA hs .refl fun r s₁ v σ₁ h₁ st₁ _ hr ⟨x, y, e, q⟩ => by
    subst e
    obtain ⟨ib, ab, q⟩ := q.to
    obtain ⟨ia, aa, q⟩ := q.to
    refine hr.eTup fun t items ht _ hvs => ?_
    revert ht
    refine hvs.e2 fun rx ry hx hy ht => ?_
    refine unpackItems_tuple (items := [rx, ry].toArray) hA.hd ht fun h' hk => ?_
    have g := h₁.grow (tk := s₁.toks) fun b o e => hk b o (Nat.ne_of_lt (Heap.lt_size e)) e
    show wpAny _ A (assignInOrder [bindName f.env b, bindName f.env a] [ry, rx]) _ _ _
    refine assignInOrder_cons (PyProof.Rows.bindName_ (set_local (s₀ := s₁) (σ₀ := σ₁) (hn ▸ ab) g.1 g.2 (hy.step g.2) fun s₂ h₂ st₂ => ?_))
    exact assignInOrder_cons (PyProof.Rows.bindName_ (set_local (hn ▸ aa) h₂ (st₁.trans st₂) (hx.step st₂) fun s₃ h₃ st₃ => assignInOrder_nil (.next h₃ st₃ q)))) (hs' _ _) (swapped_two hp (hn ▸ ha.mem) (hn ▸ hb.mem) hne hl h1 h2 h3)
noncomputable def EPt (B : BC) (f : Fc) (n : Nat) (hd : Option Value) (X : Addr → St → Prop) : Option Expr → St → (Option Int → St → Prop) → Prop
  | none, σ, Q => Q none σ
  | some e, σ, Q => EV B f n hd (eval e f.env) σ (fun v σ' => ∃ i, v = .int i ∧ Q (some i) σ') X
inductive SlOf : AV → Option Int → Option Int → AV → Prop
  | str {x i j} : x.length ≤ sizeLine → SlOf (.str x) i j (.str (Txt.slice x i j))
  | lst {xs i j} : xs.length ≤ sizeLine → SlOf (.lst xs) i j (.lst ((xs.drop (i.elim 0 (clipAt xs.length))).take (j.elim xs.length (clipAt xs.length) - i.elim 0 (clipAt xs.length))))
  | tup {xs} {a : Nat} : 1 ≤ a → a ≤ xs.length → xs.length ≤ sizeLine → SlOf (.tup xs) (some a) none (.tup (xs.drop a))
theorem VRs.drop {P : Addr → Prop} {h : Heap} (k : Nat) : ∀ {l : List AV} {q : List Value}, VRs B.prog B.w P h l q → VRs B.prog B.w P h (l.drop k) (q.drop k) := by
  induction k with
  | zero => exact fun x => x
  | succ k ih => exact fun {l _} x => match l, x with
    | [], x => x.e0 .nil
    | _ :: _, x => x.ec fun _ _ _ b => ih b
theorem VRs.take {P : Addr → Prop} {h : Heap} (k : Nat) : ∀ {l : List AV} {q : List Value}, VRs B.prog B.w P h l q → VRs B.prog B.w P h (l.take k) (q.take k) := by
  induction k with
  | zero => exact fun _ => .nil
  | succ k ih => exact fun {l _} x => match l, x with
    | [], x => x.e0 .nil
    | _ :: _, x => x.ec fun _ _ a b => .cons a (ih b)
theorem part_go {e : Option Expr} {Q : Option Int → St → Prop} {k : Value → Shared → Prop} (h : EPt B f n hd X e σ Q) (hA : AOk f n hd A) (hs : RS B f σ s) (st : SStep f σ₀ s₀ σ s)
    (next : ∀ r s' i σ', RS B f σ' s' → SStep f σ₀ s₀ σ' s' → SStep f σ s σ' s' → IsPart r i → Q i σ' → k r s') : wpAny (model B.prog B.w) A (evalPart e f.env) k (ErP B f σ₀ s₀ X) s := by
  cases e with
  | none => exact wpAny_pure (next _ _ none σ hs st .refl .none h)
  | some e => exact h.via hA hs st fun r s' v σ' h' st' st'' hr ⟨i, e, q⟩ => by subst e; exact hr.eInt fun _ => next _ _ (some i) σ' h' st' st'' (.int _ _) q
theorem IsPart.pv {r : Value} {i : Option Int} (h : IsPart r i) : ∃ l : Option (Int × Tok), r = partValue l ∧ i = l.map (·.1) := by
  cases h with
  | none => exact ⟨none, rfl, rfl⟩
  | int i t => exact ⟨some (i, t), rfl, rfl⟩
theorem slice_go {value slice : Expr} {a v : AV} {i j : Option Int} {r ri rj : Value} {sa : Addr} (sl : SlOf a i j v) (hs : RS B f σ s) (ha : VR B.prog B.w (PP f σ.H) s.heap a r) (hsl : s.heap.IsSliceOf sa ri rj .none) (hi : IsPart ri i) (hj : IsPart rj j) {Q : Value → Shared → Prop}
    (k : ∀ w s', RS B f σ s' → SStep f σ s σ s' → VR B.prog B.w (PP f σ.H) s'.heap v w → Q w s') : wpAny (model B.prog B.w) A (subscriptTail value slice r (.ref sa)) Q E s := by
  cases sl with
  | @str x _ _ hz =>
    refine ha.eStr fun t => tail_go (typeIs_str _ _ _) F.slot_str_getitem.lookup ?_
    obtain ⟨l, rfl, rfl⟩ := IsPart.pv hi
    obtain ⟨u, rfl, rfl⟩ := IsPart.pv hj
    exact wpAny_getItem_str_slice (l := l) (u := u) (st := none) hsl rfl (post_val_or_str ⟨Nat.le_trans (Txt.slice_le x _ _) hz, fun t' tk => k _ _ (hs.toks tk) .refl (.str _ _)⟩)
  | @lst xs _ _ hz =>
    refine ha.eLst fun l items hl hn hvs => ?_
    have e : items.toArray.size = xs.length := (List.size_toArray).trans hvs.length.symm
    refine tail_go hl.isList.typeIs list_getitem_lookup (wpAny_getItem_list_slice hl.isList hsl hi hj .none (by simp) ?_ (e ▸ hz))
    have g := hs.grow (tk := s.toks) (push_keeps s.heap { cls := .type "list", data := .seq (slicePick items.toArray i j none) })
    refine k _ _ g.1 g.2 (.lst (items := (items.drop (i.elim 0 (clipAt xs.length))).take (j.elim xs.length (clipAt xs.length) - i.elim 0 (clipAt xs.length))) ?_ (none_dm hs (size_none _)) (((hvs.drop _).take _).step g.2))
    rw [slicePick_plain, e]
    exact isList_new _ _
  | @tup xs a h1 ha' hz =>
    refine ha.eTup fun t items ht hn hvs => ?_
    cases hj
    cases hi
    have e : items.toArray.size = xs.length := (List.size_toArray).trans hvs.length.symm
    refine tail_go ht.typeIs slot_tuple_getitem.lookup (getItem_tuple_from ht hsl h1 (e ▸ ha') ?_ (e ▸ hz))
    have g := hs.grow (tk := s.toks) (push_keeps s.heap { cls := .type "tuple", data := .seq (items.toArray.toList.drop a).toArray })
    exact k _ _ g.1 g.2 (.tup (isTup_new _ _) (none_dm hs (size_none _)) ((hvs.drop _).step g.2))
theorem r_slice {value : Expr} {lo hi : Option Expr} {p pos : Pos} (h : EV B f n hd (eval value f.env) σ (fun a σ₁ => EPt B f n hd X lo σ₁ (fun i σ₂ => EPt B f n hd X hi σ₂ (fun j σ₃ => ∃ v, SlOf a i j v ∧ Q v σ₃))) X) :
    EV B f n hd (eval (.Subscript value (.Slice lo hi none p) pos) f.env) σ Q X := fun A s hA hs =>
  Subscript_ (h.via hA hs .refl fun ra s₁ a σ₁ h₁ st₁ _ ha q₁ => wpAny_Slice (part_go q₁ hA h₁ st₁ fun ri s₂ i σ₂ h₂ st₂ st₂' hi q₂ => part_go q₂ hA h₂ st₂ fun rj s₃ j σ₃ h₃ st₃ st₃' hj ⟨v, sl, q⟩ => by
    rw [evalPart_none]
    have g := h₃.grow (tk := s₃.toks) (push_keeps s₃.heap { cls := .type "slice", data := .fields #[ri, rj, .none] })
    exact wpAny_pure (slice_go sl g.1 (((ha.step st₂').step st₃').step g.2) (Heap.IsSliceOf.new ..) hi hj fun w s' h' st' hw => ⟨v, σ₃, h', (st₃.trans g.2).trans st', hw, q⟩)))
end
end Mine
end
section
open PySem PySem.W PyProof.Rows PySem.Calls
namespace Mine
section
variable {B : BC} {f : Fc} {n : Nat} {hd : Option Value} {σ σ₀ : St} {X : Addr → St → Prop} {s s₀ : Shared} {A : Around} {E : Value → Shared → Prop} {N : St → Prop} {K : AFlow → St → Prop} {loc : List (Option AV)} {H : AH} {ns : List Str} {Q : AV → St → Prop}
theorem HG.here {H : AH} {a : Addr} {c : Option Cell} : (H.put a c) a = c := if_pos rfl
theorem HG.ne {H : AH} {a b : Addr} {c : Option Cell} {c' : Option Cell} (h : b ≠ a) (e : H b = c') : (H.put a c) b = c' := (if_neg h).trans e
theorem HG.old {H : AH} {a b : Addr} {c : Option Cell} {c' : Cell} (hn : H a = none) (e : H b = some c') : (H.put a c) b = some c' := (if_neg (fun q => by rw [q, hn] at e; cases e)).trans e
theorem HG.not {H : AH} {a b : Addr} {c c' : Cell} (ha : H a = some c) (hb : H b = some c') (hne : c ≠ c') : b ≠ a := fun q => by rw [q, ha] at hb; exact hne (Option.some.inj hb)
theorem AH.put_none_put {H : AH} {a : Addr} {c : Option Cell} (hn : H a = none) : (H.put a c).put a none = H := by
  funext b; unfold AH.put; by_cases q : b = a
  · rw [if_pos q, q, hn]
  · rw [if_neg q, if_neg q]
theorem AH.put_twice {H : AH} {a : Addr} {c c' : Option Cell} : (H.put a c).put a c' = H.put a c' := by
  funext b; unfold AH.put; by_cases q : b = a
  · rw [if_pos q, if_pos q]
  · rw [if_neg q, if_neg q, if_neg q]
theorem AH.put_comm {H : AH} {a b : Addr} {c c' : Option Cell} (h : a ≠ b) : (H.put a c).put b c' = (H.put b c').put a c := by
  funext d; unfold AH.put; by_cases q : d = b
  · rw [if_pos q, if_neg (by rw [q]; exact h.symm), if_pos q]
  · rw [if_neg q]; by_cases q' : d = a
    · rw [if_pos q', if_pos q']
    · rw [if_neg q', if_neg q', if_neg q]
theorem freeze_vr (hs : RS B f σ s) {a : Addr} {xs : List AV} (hc : σ.H a = some (.list xs)) : RS B f ⟨σ.loc, σ.H.put a none⟩ s ∧ SStep f σ s ⟨σ.loc, σ.H.put a none⟩ s ∧ VR B.prog B.w (PP f (σ.H.put a none)) s.heap (.lst xs) (.ref a) := by
  have hle : ∀ b c, (σ.H.put a none) b = some c → σ.H b = some c := fun b c e => by
    unfold AH.put at e; split at e
    · cases e
    · exact e
  have st := forget_step (s := s) hs hle
  refine ⟨hs.forget hle, st, ?_⟩
  obtain ⟨items, hl, hv⟩ := hs.rh.cells a _ hc
  refine .lst hl (fun q => ?_) (hv.step st)
  rcases q with q | q
  · exact q HG.here
  · rw [hs.rh.disj a q] at hc; cases hc
theorem EV.freeze {t : Sem Value} (h : EV B f n hd t σ (fun v σ₁ => ∃ a xs, v = .ref a ∧ σ₁.H a = some (.list xs) ∧ Q (.lst xs) ⟨σ₁.loc, σ₁.H.put a none⟩) X) : EV B f n hd t σ Q X := fun A s hA hs =>
  h.via hA hs .refl fun r s₁ v σ₁ h₁ st₁ _ hr ⟨a, xs, e, hc, q⟩ => by
    subst e
    refine hr.eRef ?_
    obtain ⟨r1, r2, r3⟩ := freeze_vr h₁ hc
    exact ⟨.lst xs, _, r1, st₁.trans r2, r3, q⟩
theorem m_blt {name : Str} {pos : Pos} {ov : AV} {args : List Expr} {id : String} (hm : ∀ pl A s r, AOk f n hd A → RS B f σ s → VR B.prog B.w (PP f σ.H) s.heap ov r → ∀ (Q' : Value × List Value → Shared → Prop) (E : Value → Shared → Prop), Q' (.builtin id, [r]) s → wpAny (model B.prog B.w) A (getMethod r name pl) Q' E s)
    (h : EL B f n hd (spliced (backTo pos (starEach args f.env))) σ (fun vs σ₁ => EBl B f n hd id (ov :: vs) σ₁ Q X) X) (hp : args.all plainArg = true) : EM B f n hd pos name ov args σ Q X := fun pl A s r hA hs hv =>
  hm pl A s r hA hs hv _ _ (callWith_blt hp (wpAny_mono (h A s hA hs) (fun vs s₁ ⟨v, σ', r', st, hvs, c⟩ => wpAny_mono (c A s₁ (r :: vs) hA r' (.cons (hv.step st) hvs)) (fun _ _ q => q.back st) fun _ _ q => q.back st) fun _ _ q => q))
theorem b_find {x y : Str} (q : Q (.int (Txt.find x y)) σ) : EBl B f n hd "str.find" [.str x, .str y] σ Q X :=
  EO.of (.int (Txt.find x y)) (fun A s rs _ _ hv => by
    exact hv.e2 fun _ _ h1 h2 => h1.eStr fun _ => h2.eStr fun _ => by with_reducible exact SC.find (TK.t (.int _ _))) q
theorem m_find {pos : Pos} {x : Str} {args : List Expr} (h : EL B f n hd (spliced (backTo pos (starEach args f.env))) σ (fun vs σ₁ => ∃ y, vs = [.str y] ∧ Q (.int (Txt.find x y)) σ₁) X) (hp : args.all plainArg = true) : EM B f n hd pos "find" (.str x) args σ Q X :=
  m_blt (id := "str.find") (fun pl A s r _ _ hv Q' E q => by revert q; exact hv.eStr fun _ q => by with_reducible exact GM.find q) (EX.imp h (fun vs σ₁ ⟨y, e, q⟩ => by subst e; exact b_find q) fun _ _ q => q) hp
theorem m_upper {pos : Pos} {x : Str} (hf : Builtin.Str.tooLong (Txt.upper x).length = false) (h : Q (.str (Txt.upper x)) σ) : EM B f n hd pos "upper" (.str x) [] σ Q X :=
  m_blt (id := "str.upper") (fun pl A s r _ _ hv Q' E q => by revert q; exact hv.eStr fun _ q => by with_reducible exact GM.upper q) (r_items_nil (EO.of _ (fun A s rs _ _ hv => hv.e1 fun _ h1 => h1.eStr fun _ => SC.upper hf (TK.t (VR.str _ _))) h)) rfl
theorem VRs.strsL {P : Addr → Prop} {h : Heap} {ys : List Str} {vs : List Value} (q : VRs B.prog B.w P h (ys.map AV.str) vs) : StrsAre vs.toArray.toList ys := by simpa using q.strs
theorem b_join {x : Str} {ys : List Str} (hz : (ys.map (·.length)).sum + ys.length * x.length ≤ 16777216) (q : Q (.str (Txt.join x ys)) σ) : EBl B f n hd "str.join" [.str x, .lst (ys.map AV.str)] σ Q X :=
  EO.of (.str (Txt.join x ys)) (fun A s rs _ _ hv => by
    exact hv.e2 fun _ _ h1 h2 => h1.eStr fun _ => h2.eLst fun _ _ hl _ hvs => PyProof.Rows.join_list hl.isList hvs.strsL hz fun _ _ => TK.t (.str _ _)) q
theorem b_joinm {x : Str} {ys : List Str} {a : Addr} (hc : σ.H a = some (.list (ys.map AV.str))) (hz : (ys.map (·.length)).sum + ys.length * x.length ≤ 16777216) (q : Q (.str (Txt.join x ys)) σ) : EBl B f n hd "str.join" [.str x, .ref a] σ Q X :=
  EO.of (.str (Txt.join x ys)) (fun A s rs _ hs hv => by
    refine hv.e2 fun _ _ h1 h2 => h1.eStr fun _ => h2.eRef ?_
    obtain ⟨items, hl, hvs⟩ := hs.rh.cells a _ hc
    exact PyProof.Rows.join_list hl.isList hvs.strsL hz fun _ _ => TK.t (.str _ _)) q
theorem m_join {pos : Pos} {x : Str} {args : List Expr} (h : EL B f n hd (spliced (backTo pos (starEach args f.env))) σ (fun vs σ₁ => ∃ ys : List Str, (vs = [.lst (ys.map AV.str)] ∨ ∃ a, vs = [.ref a] ∧ σ₁.H a = some (.list (ys.map AV.str))) ∧ (ys.map (·.length)).sum + ys.length * x.length ≤ 16777216 ∧ Q (.str (Txt.join x ys)) σ₁) X)
    (hp : args.all plainArg = true) : EM B f n hd pos "join" (.str x) args σ Q X :=
  m_blt (id := "str.join") (fun pl A s r _ _ hv Q' E q => by revert q; exact hv.eStr fun _ q => by with_reducible exact GM.join q) (EX.imp h (fun vs σ₁ ⟨ys, e, hz, q⟩ => by
    rcases e with e | ⟨a, e, hc⟩
    · subst e; exact b_join hz q
    · subst e; exact b_joinm hc hz q) fun _ _ q => q) hp
theorem push_arr (xs : List Value) (v : Value) : xs.toArray.push v = (xs ++ [v]).toArray := by simp
theorem m_append {pos : Pos} {a : Addr} {args : List Expr} {xs₀ : List AV} (h0 : σ.H a = some (.list xs₀)) (h : EL B f n hd (spliced (backTo pos (starEach args f.env))) σ (fun vs σ₁ => ∃ v xs, vs = [v] ∧ σ₁.H a = some (.list xs) ∧ xs.length ≤ sizeLine ∧ Q .none ⟨σ₁.loc, σ₁.H.put a (some (.list (xs ++ [v])))⟩) X)
    (hp : args.all plainArg = true) : EM B f n hd pos "append" (.ref a) args σ Q X :=
  m_blt (id := "list.append") (fun pl A s r _ hs hv Q' E q => by
    revert q
    refine hv.eRef fun q => ?_
    obtain ⟨items, ⟨k, ho⟩, _⟩ := hs.rh.cells a _ h0
    exact getMethod_list_append ho rfl rfl q) (EX.imp h (fun vs σ₁ ⟨v, xs, e, hc, hz, q⟩ => by
    subst e
    intro A s rs hA hs hv
    refine hv.e2 fun _ rv h1 h2 => h1.eRef ?_
    obtain ⟨items, ⟨k, ho⟩, hvs⟩ := hs.rh.cells a _ hc
    refine append_at (hsz := by rw [List.size_toArray, ← hvs.length]; exact hz) ho fun h' hsb ho' => ?_
    have st := upd_step (tk := s.toks) (c := .list (xs ++ [v])) hs hc ⟨_, ho'⟩ hsb
    exact ⟨.none, _, hs.upd (tk := s.toks) (c := .list (xs ++ [v])) hc ⟨_, ho'⟩ hsb ⟨items ++ [rv], ⟨k + 1, by rw [ho', push_arr]⟩, (VRs.app (.cons (h2.step st) .nil) (hvs.step st))⟩, st, .none, q⟩) fun _ _ q => q) hp
theorem VRs.set {P : Addr → Prop} {h : Heap} {v : AV} {r : Value} (hv : VR B.prog B.w P h v r) {l : List AV} : ∀ {q : List Value}, VRs B.prog B.w P h l q → ∀ k, VRs B.prog B.w P h (l.set k v) (q.set k r) := by
  induction l with
  | nil => exact fun x _ => x.e0 .nil
  | cons _ _ ih => exact fun x k => x.ec fun _ _ a b => match k with
    | 0 => .cons hv b
    | k + 1 => .cons a (ih b k)
theorem o_set_m {a : Addr} {xs : List AV} {k : Int} {v : AV} {Q : Unit → St → Prop} (hc : σ.H a = some (.list xs)) (h0 : 0 ≤ k) (hf : k < 2 ^ 63) (hn : k < xs.length) (h : Q () ⟨σ.loc, σ.H.put a (some (.list (xs.set k.toNat v)))⟩) : EO3 B f n hd (idrel (α := Unit)) (.ref a) (.int k) v setItem σ Q X := fun A s r q u hA hs h1 h2 h3 => by
  refine h1.eRef (h2.eInt fun _ => ?_)
  obtain ⟨items, hl, hvs⟩ := hs.rh.cells a _ hc
  obtain ⟨m, ho⟩ := id hl
  have hlen := hvs.length
  unfold setItem
  try with_reducible refine wpAny_holding ?_
  first | refine wpAny_bind (wpAny_pure ?_) | skip
  refine wpAny_bind (wpAny_sequenceKey hl.isList.typeIs (by decide) ?_)
  refine wpAny_bind (wpAny_callSpecial?_slot (name := Str.ofString "__setitem__") hl.isList.typeIs slot_list_setitem
    (wpAny_call_entry slot_list_setitem hl.isList.typeIs entry_list_setitem ?_ (args_list_setitem _ _ _)))
  show wpAny _ _ (Builtin.List.listSubscript? (.int k _) >>= _) _ _ s
  refine wpAny_bind (wpAny_listSubscript_int (fitsIndex_of h0 hf) ?_)
  obtain ⟨j, rfl⟩ := Int.eq_ofNat_of_zero_le h0
  have hj : j < items.toArray.size := by simp; omega
  have hx' : items.toArray[j]? = some items.toArray[j] := Array.getElem?_eq_getElem hj
  show wpAny _ _ ((seqItemAt a j >>= fun r => pure (r.map (j, ·))) >>= _) _ _ s
  refine wpAny_bind (wpAny_bind (wpAny_seqItemAt ho rfl (wpAny_pure ?_)))
  rw [hx']
  show wpAny _ _ (setSeqItemAt a j u >>= _) _ _ s
  have hfin : (s.heap.update a (Obj.mapSeq (·.setIfInBounds j u))).get? a = some (listOf (items.set j u).toArray m) := by
    rw [Heap.get?_update_self _ ho (by simp [Obj.mapSeq]; rfl)]
    simp [Obj.mapSeq]
  have hsb : Heap.SameBut a s.heap (s.heap.update a (Obj.mapSeq (·.setIfInBounds j u))) := Heap.SameBut.update ..
  have st := upd_step (tk := s.toks) (c := .list (xs.set j v)) hs hc ⟨_, hfin⟩ hsb
  have fin : OkP B f (idrel (α := Unit)) σ s Q () { s with heap := s.heap.update a (Obj.mapSeq (·.setIfInBounds j u)) } :=
    ⟨(), _, hs.upd (tk := s.toks) (c := .list (xs.set j v)) hc ⟨_, hfin⟩ hsb ⟨items.set j u, ⟨m, hfin⟩, VRs.set (h3.step st) (hvs.step st) j⟩, st, rfl, h⟩
  refine wpAny_bind (wpAny_setSeqItemAt ho rfl ?_)
  first
    | exact wpAny_bind (wpAny_pure (wpAny_pure ⟨.none, rfl, wpAny_pure fin⟩))
    | exact wpAny_pure ⟨.none, rfl, wpAny_pure fin⟩
theorem m_pop1 {pos : Pos} {a : Addr} {args : List Expr} {xs : List AV} {x y : AV} (h0 : σ.H a = some (.list (x :: y :: xs))) (hz : xs.length ≤ 1000)
    (h : EL B f n hd (spliced (backTo pos (starEach args f.env))) σ (fun vs σ₁ => vs = [.int 1] ∧ σ₁ = σ ∧ Q y ⟨σ.loc, σ.H.put a (some (.list (x :: xs)))⟩) X) (hp : args.all plainArg = true) : EM B f n hd pos "pop" (.ref a) args σ Q X :=
  m_blt (id := "list.pop") (fun pl A s r _ hs hv Q' E q => by
    revert q
    refine hv.eRef fun q => ?_
    obtain ⟨items, ⟨k, ho⟩, _⟩ := hs.rh.cells a _ h0
    exact getMethod_builtin ⟨_, ho, rfl⟩ PySem.F.plainAttrs_list PySem.F.slot_list_pop PySem.F.type_list_pop (fun a e => by cases e; exact ⟨_, ho, rfl⟩) q) (EX.imp h (fun vs σ₁ ⟨e, es, q⟩ => by
    subst e; subst es
    intro A s rs hA hs hv
    refine hv.e2 fun _ _ h1 h2 => h1.eRef (h2.eInt fun _ => ?_)
    obtain ⟨items, ⟨k, ho⟩, hvs⟩ := hs.rh.cells a _ h0
    revert ho
    refine hvs.ec fun rx items hx hvs => hvs.ec fun ry items hy hvs ho => ?_
    have hz' : (rx :: ry :: items).toArray.size ≤ sizeLine := by
      rw [List.size_toArray, List.length_cons, List.length_cons, ← hvs.length]
      exact Nat.le_trans (Nat.add_le_add_right (Nat.add_le_add_right hz 1) 1) (by decide)
    have hsb : Heap.SameBut a s.heap (s.heap.update a (Obj.mapSeq fun xs => xs.eraseIdxIfInBounds 1)) := Heap.SameBut.update ..
    have hfin : (s.heap.update a (Obj.mapSeq fun xs => xs.eraseIdxIfInBounds 1)).get? a = some (listOf (rx :: items).toArray (k + 1)) := by
      have e : Obj.mapSeq (fun xs => xs.eraseIdxIfInBounds 1) (listOf (rx :: ry :: items).toArray k) = listOf (rx :: items).toArray (k + 1) := by
        have := mapSeq_erase (rx :: ry :: items).toArray k 1 (by simp)
        simpa using this
      rw [Heap.get?_update_self _ ho (by rw [e]; rfl), e]
    have st := upd_step (tk := s.toks) (c := .list (x :: xs)) hs h0 ⟨_, hfin⟩ hsb
    have fin : OkP B f (vrel B) _ s Q ry { s with heap := s.heap.update a (Obj.mapSeq fun xs => xs.eraseIdxIfInBounds 1) } :=
      ⟨y, _, hs.upd (tk := s.toks) (c := .list (x :: xs)) h0 ⟨_, hfin⟩ hsb ⟨rx :: items, ⟨_, hfin⟩, .cons (hx.step st) (hvs.step st)⟩, st, hy.step st, q⟩
    exact call_meets PySem.F.slot_list_pop ⟨_, ho, rfl⟩ PySem.F.entry_list_pop (PySem.F.args_list_pop_2 _ _) (PySem.MeetsSeq.list_pop_at a (rx :: ry :: items).toArray k 1 _ 1 ry (by decide) (seqIx (by decide) (by rw [List.size_toArray, List.length_cons, List.length_cons]; omega)) rfl hz') ⟨ho, fin⟩) fun _ _ q => q) hp
theorem add_lists_go {ra rb : Addr} {la lb : List Value} {Q' : Value → Shared → Prop} (hl : LstAt s.heap ra la) (hb : LstAt s.heap rb lb) (hz : la.length + lb.length ≤ sizeLine)
    (h : Q' (.ref s.heap.objs.size) { s with heap := s.heap.push { cls := .type "list", data := .seq (la ++ lb).toArray } }) : wpAny (model B.prog B.w) A (binaryOp .Add (.ref ra) (.ref rb)) Q' E s := by
  obtain ⟨n1, ho⟩ := hl
  obtain ⟨n2, ho2⟩ := hb
  have e : la.toArray ++ lb.toArray = (la ++ lb).toArray := by simp
  refine concat_meets ⟨_, ho, rfl⟩ ⟨_, ho2, rfl⟩ noFill_list_add seq_list_add PySem.F.slot_list_add PySem.F.entry_list_add (PySem.F.args_list_add_2 _ _) (list_addW ra rb la.toArray lb.toArray n1 n2 none none #[] #[] (by simpa using hz)) ⟨ho, ho2, ?_⟩
  rw [e]
  exact h
theorem o_add_l {xs ys : List AV} {Q : AV → St → Prop} (hz : xs.length + ys.length ≤ sizeLine) (h : Q (.lst (xs ++ ys)) σ) : EO2 B f n hd (vrel B) (.lst xs) (.lst ys) (binaryOp .Add) σ Q X := fun A s r q hA hs h1 h2 => by
  refine h1.eLst fun ra la hl hn hv => h2.eLst fun rb lb hl2 hn2 hv2 => ?_
  · refine add_lists_go hl hl2 (by rw [← hv.length, ← hv2.length]; exact hz) ?_
    have g := hs.grow (tk := s.toks) (push_keeps s.heap { cls := .type "list", data := .seq (la ++ lb).toArray })
    exact ⟨_, σ, g.1, g.2, .lst (isList_new _ _) (none_dm hs (size_none _)) (VRs.app (hv2.step g.2) (hv.step g.2)), h⟩
theorem o_add_lm {xs ys : List AV} (hz : xs.length + ys.length ≤ sizeLine) (h : ∀ a, σ.H a = none → Q (.ref a) ⟨σ.loc, σ.H.put a (some (.list (xs ++ ys)))⟩) : EO2 B f n hd (vrel B) (.lst xs) (.lst ys) (binaryOp .Add) σ Q X := fun A s r q hA hs h1 h2 => by
  refine h1.eLst fun ra la hl hn hv => h2.eLst fun rb lb hl2 hn2 hv2 => ?_
  · refine add_lists_go hl hl2 (by rw [← hv.length, ← hv2.length]; exact hz) ?_
    have hk := push_keeps s.heap { cls := .type "list", data := .seq (la ++ lb).toArray }
    have st := fresh_step (c := .list (xs ++ ys)) (tk := s.toks) hs hk (size_none _)
    exact ⟨_, _, hs.fresh (c := .list (xs ++ ys)) (tk := s.toks) hk (size_none _) ⟨_, isList_new _ _, VRs.app (hv2.step st) (hv.step st)⟩, st, .ref _, h _ (H_none hs (size_none _))⟩
end
end Mine
end
section
open PySem PySem.W PyProof.Rows PySem.Calls
namespace Mine
noncomputable def short {α : Type} : Nat → List α → Bool
  | _, [] => true
  | 0, _ :: _ => false
  | k + 1, _ :: r => short k r
theorem short_le {α : Type} : ∀ {k : Nat} {l : List α}, short k l = true → l.length ≤ k
  | _, [], _ => Nat.zero_le _
  | 0, _ :: _, h => by cases h
  | k + 1, _ :: r, h => Nat.succ_le_succ (short_le (l := r) h)
section
variable {B : BC} {f : Fc} {n : Nat} {hd : Option Value} {X : Addr → St → Prop} {σ : St} {N : St → Prop} {K : AFlow → St → Prop}
inductive EIr (B : BC) (f : Fc) (tw : Prop) (σ : St) (s : Shared) (Q : List AV → St → Prop) (it : Value) (s₂ : Shared) : Prop
  | mk (xs : List AV) (σ' : St) (as : List Addr) : RS B f σ' s₂ → SStep f σ s σ' s₂ → Iter B (PP f σ'.H) s₂.heap as it xs → (∀ a ∈ as, s.heap.get? a = none) → (∀ e i, as = [e, i] → tw) → Q xs σ' → EIr B f tw σ s Q it s₂
noncomputable def EI (B : BC) (f : Fc) (n : Nat) (tw : Prop) (iter : Expr) (σ : St) (Q : List AV → St → Prop) (X : Addr → St → Prop) : Prop :=
  ∀ A s, AOk f n none A → RS B f σ s → wpAny (model B.prog B.w) A (eval iter f.env) (fun r s₁ => wpAny (model B.prog B.w) A (pyIter r) (EIr B f tw σ s Q) (ErP B f σ s X) s₁) (ErP B f σ s X) s
theorem alive_none {s s' : Shared} {σ' : St} {f : Fc} {σ : St} (st : SStep f σ s σ' s') {a : Addr} (h : s'.heap.get? a = none) : s.heap.get? a = none := by
  cases q : s.heap.get? a with
  | none => rfl
  | some o => obtain ⟨o', e⟩ := st.alive a o q; rw [h] at e; cases e
theorem r_for_i {target iter : Expr} {body : List Stmt} {pos : Pos} (h : EI B f n (∃ elts k p, target = .Tuple elts k p) iter σ (fun xs σ₁ => ForS B f n target body N K X xs σ₁) X) (hs' : ∀ env x, foldedSetIterable iter env x = pure x) :
    ES B f n none (exec (.For target iter body [] pos) f.env) σ N K X := fun A s hA hs =>
  wpAny_For (wpAny_mono (h A s hA hs) (fun r s₁ q => wpAny_mono q (fun it s₂ q => by
    obtain ⟨xs, σ', as, h₂, st₂, I, hf, ht, F⟩ := q
    refine codeAny_mono (for_run (σ₀ := σ) (s₀ := s) xs σ' s₂ F I hA h₂ st₂ hf ht) fun r s' q => ?_
    cases q with
    | ok q => exact q
    | er q => exact q.came) fun _ _ q => q) fun _ _ q => q) (hs' _)
theorem EIr.one {tw : Prop} {Q : List AV → St → Prop} {s s₁ : Shared} {σ₁ : St} {ob : Obj} {tk : Nat} {xs : List AV} (h₁ : RS B f σ₁ s₁) (st₁ : SStep f σ s σ₁ s₁) (q : Q xs σ₁)
    (k : SStep f σ₁ s₁ σ₁ { s₁ with heap := s₁.heap.push ob, toks := tk } → B.base.get? s₁.heap.objs.size = none → ¬ PP f σ₁.H s₁.heap.objs.size → Iter B (PP f σ₁.H) (s₁.heap.push ob) [s₁.heap.objs.size] (.ref s₁.heap.objs.size) xs) :
    EIr B f tw σ s Q (.ref s₁.heap.objs.size) { s₁ with heap := s₁.heap.push ob, toks := tk } :=
  have g := h₁.grow (tk := tk) (push_keeps s₁.heap ob)
  have gn := size_none s₁.heap
  ⟨xs, σ₁, _, g.1, st₁.trans g.2, k g.2 (base_none h₁ gn) (none_dm h₁ gn), fun a m => by rw [List.mem_singleton.mp m]; exact alive_none st₁ gn, fun _ _ q => one_ne_two q, q⟩
theorem ei_val {iter : Expr} {tw : Prop} {Q : List AV → St → Prop} (h : EV B f n none (eval iter f.env) σ (fun v σ₁ => (∃ xs, v = .lst xs ∧ Q xs σ₁) ∨ ∃ x, v = .str x ∧ x.cps.all (· < 128) = true ∧ Q (x.cps.toList.map fun c => AV.str (sgn c)) σ₁) X) : EI B f n tw iter σ Q X := fun A s hA hs =>
  h.via hA hs .refl fun r s₁ v σ₁ h₁ st₁ _ hr q => by
    rcases q with ⟨xs, e, q⟩ | ⟨x, e, ha, q⟩
    · subst e
      exact hr.eLst fun l items hl hn hv => wpAny_pyIter_list hl.isList (EIr.one (tk := s₁.toks) h₁ st₁ q fun st b p => .lst (i := 0) ⟨_, Heap.get?_push_size _ rfl, rfl, rfl⟩ (isList_step st.kp hl hn) b p hn (hv.step st))
    · subst e
      exact hr.eStr fun t => wpAny_pyIter_ascii ha (EIr.one (tk := s₁.toks) h₁ st₁ q fun st b p => .str (i := 0) (t := t) ⟨_, Heap.get?_push_size _ rfl, rfl, rfl⟩ b p rfl)
inductive RgP : List AV → St → (List AV → St → Prop) → Prop
  | one {b : Int} {σ : St} {Q : List AV → St → Prop} : 0 ≤ b → b < 2 ^ 62 → Q ((List.range b.toNat).map fun k => AV.int (k : Nat)) σ → RgP [.int b] σ Q
  | three {a b c : Int} {n : Nat} {σ : St} {Q : List AV → St → Prop} : Builtin.Range.small a b c = true → c ≠ 0 → c.natAbs < 1073741824 → Builtin.Range.rangeSize a b c = (n : Int) → Q ((List.range n).map fun k => AV.int (a + (k : Nat) * c)) σ → RgP [.int a, .int b, .int c] σ Q
theorem ei_range {args : List Expr} {x : Str} {p pos : Pos} {tw : Prop} {Q : List AV → St → Prop} (hg : GHas f.gl x (.typ "range")) (h : EL B f n none (spliced (backTo pos (starEach args f.env))) σ (fun vs σ₁ => RgP vs σ₁ Q) X) (hp : args.all plainArg = true) :
    EI B f n tw (.Call (.Name x p) args [] pos) σ Q X := fun A s hA hs => by
  refine wpAny_Call_NameR (glob_at hg hs fun rv hrv => hrv.eTyp ?_)
  refine PyProof.Rows.callWith_type (backTo_all hp).2 (evalArgs_all (backTo_all hp).1 (h.via hA hs .refl fun rs s₁ vs σ₁ h₁ st₁ _ hr q => ?_))
  have fin : ∀ (ob : Obj) (tk tk' : Nat) (s₂ : Shared) (x0 c : Int) (left : Nat) (xs : List AV), s₂ = { s₁ with heap := s₁.heap.push ob, toks := tk } → xs = (List.range left).map (fun k => AV.int (x0 + (k : Nat) * c)) → Q xs σ₁ →
      EIr B f tw σ s Q (.ref s₂.heap.objs.size) { s₂ with heap := s₂.heap.push { cls := .type "range_iterator", data := .fields #[rawInt x0, rawInt left, rawInt c] }, toks := tk' } := by
    intro ob tk tk' s₂ x0 c left xs e exs q
    have g := h₁.grow (tk := tk) (push_keeps s₁.heap ob)
    rw [← e] at g
    exact EIr.one g.1 (st₁.trans g.2) q fun _ b p => .rng (Heap.get?_push_size _ rfl) b p exs
  cases q with
  | @one b _ _ h0 h1 q =>
    refine hr.e1 fun _ hb => hb.eInt fun t => call_range_1 (wpAny_pyIter_range (IsRange.new ..) (small_one (by decide) (by decide) (by omega) h1) ?_)
    have hsz : Builtin.Range.rangeSize 0 b 1 = ((b.toNat : Nat) : Int) := by rw [rangeSize_one]; split <;> omega
    rw [hsz]
    exact fin _ _ _ _ 0 1 b.toNat _ rfl (by simp) q
  | @three a b c m _ _ hsm hc hc' hsz q =>
    refine hr.ec fun _ _ ha hr => hr.e2 fun _ _ hb hc2 => ha.eInt fun t1 => hb.eInt fun t2 => hc2.eInt fun t3 => call_range_3 hc (wpAny_pyIter_range (IsRange.new ..) hsm ?_) (.inl (PyProof.noPylong_small hc'))
    rw [hsz]
    exact fin _ s₁.toks _ _ a c m _ rfl rfl q
inductive EnP : List AV → St → (List AV → St → Prop) → Prop
  | mk {xs : List AV} {σ : St} {Q : List AV → St → Prop} : Q (xs.mapIdx fun k y => AV.tup [.int (k : Nat), y]) σ → EnP [.lst xs] σ Q
theorem ei_enum {args : List Expr} {x : Str} {p pos : Pos} {tw : Prop} {Q : List AV → St → Prop} (htw : tw) (hg : GHas f.gl x (.typ "enumerate")) (h : EL B f n none (spliced (backTo pos (starEach args f.env))) σ (fun vs σ₁ => EnP vs σ₁ Q) X) (hp : args.all plainArg = true) :
    EI B f n tw (.Call (.Name x p) args [] pos) σ Q X := fun A s hA hs => by
  refine wpAny_Call_NameR (glob_at hg hs fun rv hrv => hrv.eTyp ?_)
  refine PyProof.Rows.callWith_type (backTo_all hp).2 (evalArgs_all (backTo_all hp).1 (h.via hA hs .refl fun rs s₁ vs σ₁ h₁ st₁ _ hr q => ?_))
  cases q with
  | @mk xs _ _ q =>
    refine hr.e1 fun _ hl => hl.eLst fun l items hl hn hv => ?_
    ·   refine call_enumerate_list hl.isList fun h' he hit hsz hk => ?_
        have g := h₁.grow (h' := h') (tk := s₁.toks) hk
        refine wpAny_pyIter_enum he ?_
        have gn : s₁.heap.get? s₁.heap.objs.size = none := size_none s₁.heap
        have gn' : s₁.heap.get? (s₁.heap.objs.size + 1) = none := Heap.get?_none_of_le (Nat.le_succ _)
        refine ⟨_, σ₁, [s₁.heap.objs.size + 1, s₁.heap.objs.size], g.1, st₁.trans g.2, .enum (i := 0) (ys := xs) he hit (isList_step g.2.kp hl hn) (Nat.succ_ne_self _) (base_none h₁ gn') (base_none h₁ gn) (none_dm h₁ gn') (none_dm h₁ gn) hn (hv.step g.2) rfl, fun a m => ?_, fun _ _ _ => htw, by simpa using q⟩
        rcases List.mem_cons.mp m with e | m
        · rw [e]; exact alive_none st₁ gn'
        · rw [List.mem_singleton.mp m]; exact alive_none st₁ gn
end
end Mine
end
section
open PySem PySem.W PyProof.Rows PySem.Calls Builtin.ObjectAttr
namespace Mine
noncomputable def IsAt (H : AH) (a C d : Addr) : Prop := H a = some (.inst C d) ∨ ∃ tr, H a = some (.exc C (some d) tr)
inductive PutN : List (Str × AV) → Str → AV → List (Str × AV) → Prop
  | z {x : Str} {u v : AV} {r : List (Str × AV)} : PutN ((x, u) :: r) x v ((x, v) :: r)
  | s {x y : Str} {u v : AV} {r r' : List (Str × AV)} : PutN r x v r' → PutN ((y, u) :: r) x v ((y, u) :: r')
theorem PutN.keys {es es' : List (Str × AV)} {x : Str} {v : AV} (h : PutN es x v es') : es'.map (·.1) = es.map (·.1) ∧ x ∈ es.map (·.1) := by
  induction h with
  | z => exact ⟨rfl, by simp⟩
  | s _ ih => exact ⟨by simp [ih.1], List.mem_cons_of_mem _ ih.2⟩
section
variable {B : BC} {f : Fc} {n : Nat} {hd : Option Value} {X : Addr → St → Prop} {σ : St} {P : Addr → Prop} {h : Heap} {s : Shared}
theorem VRd.keys {es : List (Str × AV)} : ∀ {kvs : List (Str × Value)}, VRd B.prog B.w P h es kvs → kvs.map (·.1) = es.map (·.1) := by
  induction es with
  | nil => intro _ q; refine q.e0 ?_; rfl
  | cons p es ih => intro _ q; refine q.ec fun v r _ b => ?_; exact congrArg (p.1 :: ·) (ih b)
set_option tactic.hygienic true in
theorem lookup_mem {l : List (Str × Value)} {x : Str} {v : Value} (h : l.lookup x = some v) : x ∈ l.map (·.1) := by
  induction l with
  | nil => cases h
  | cons p r ih =>
    obtain ⟨y, u⟩ := p
    rw [List.lookup_cons] at h
    split at h
    · rename_i e; rw [beq_iff_eq.mp e]; exact .head _
    · exact .tail _ (ih h)
theorem look_eq {x y : Str} {v : Value} {l : List (Str × Value)} (h : y = x) : ((x, v) :: l).lookup y = some v := by subst h; rw [List.lookup_cons, beq_self_eq_true]
theorem look_ne {x y : Str} {v : Value} {l : List (Str × Value)} (h : y ≠ x) : ((x, v) :: l).lookup y = l.lookup y := by rw [List.lookup_cons, beq_eq_false_iff_ne.mpr h]
theorem VRd.has {x : Str} {v : AV} {es : List (Str × AV)} (g : GHas es x v) : ∀ {kvs : List (Str × Value)}, VRd B.prog B.w P h es kvs → (es.map (·.1)).Nodup → ∃ rv, kvs.lookup x = some rv ∧ VR B.prog B.w P h v rv := by
  induction g with
  | z => exact fun q _ => q.ec fun r _ a _ => ⟨r, look_eq rfl, a⟩
  | @s x v p r g ih =>
    intro _ q nd
    have nd := List.nodup_cons.mp nd
    refine q.ec fun _ _ _ b => ?_
    obtain ⟨rv, e, hr⟩ := ih b nd.2
    exact ⟨rv, (look_ne fun e => nd.1 (by show p.1 ∈ _; rw [← e]; exact List.mem_map_of_mem (f := (·.1)) g.mem)).trans e, hr⟩
theorem look_put {x : Str} {rv v : Value} {l : List (Str × Value)} (y : Str) (k : (l.lookup y = if y = x then some rv else l.lookup y) ∨ True) : ((x, rv) :: l).lookup y = if y = x then some rv else ((x, v) :: l).lookup y := by
  by_cases e : y = x
  · rw [if_pos e, look_eq e]
  · rw [if_neg e, look_ne e, look_ne e]
theorem VRd.put {x : Str} {v : AV} {rv : Value} (hv : VR B.prog B.w P h v rv) {es es' : List (Str × AV)} (p : PutN es x v es') : ∀ {kvs : List (Str × Value)}, VRd B.prog B.w P h es kvs → (es.map (·.1)).Nodup →
    ∃ kvs', VRd B.prog B.w P h es' kvs' ∧ ∀ y, kvs'.lookup y = if y = x then some rv else kvs.lookup y := by
  induction p with
  | z => exact fun q _ => q.ec fun r kvs _ b => ⟨_, .cons hv b, fun y => look_put y (.inr trivial)⟩
  | @s x z _ _ _ _ p ih =>
    intro _ q nd
    have nd := List.nodup_cons.mp nd
    refine q.ec fun r kvs a b => ?_
    obtain ⟨kvs', c, d⟩ := ih hv b nd.2
    refine ⟨_, .cons a c, fun y => ?_⟩
    by_cases e : y = z
    · rw [look_eq e, look_eq e, if_neg (fun q => nd.1 (by rw [← e, q]; exact p.keys.2))]
    · rw [look_ne e, look_ne e, d]
theorem VRd.snoc {x : Str} {v : AV} {rv : Value} (hv : VR B.prog B.w P h v rv) {es : List (Str × AV)} : ∀ {kvs : List (Str × Value)}, VRd B.prog B.w P h es kvs → x ∉ es.map (·.1) →
    VRd B.prog B.w P h (es ++ [(x, v)]) (kvs ++ [(x, rv)]) ∧ ∀ y, (kvs ++ [(x, rv)]).lookup y = if y = x then some rv else kvs.lookup y := by
  induction es with
  | nil => exact fun q _ => q.e0 ⟨.cons hv .nil, fun y => look_put (v := rv) (l := []) y (.inr trivial) |>.trans (by by_cases e : y = x; rw [if_pos e, if_pos e]; rw [if_neg e, if_neg e, look_ne e])⟩
  | cons p es ih =>
    intro _ q nx
    rw [List.map_cons, List.mem_cons, not_or] at nx
    refine q.ec fun r kvs a b => ?_
    obtain ⟨c, d⟩ := ih b nx.2
    refine ⟨.cons a c, fun y => ?_⟩
    show ((p.1, r) :: (kvs ++ [(x, rv)])).lookup y = _
    by_cases e : y = p.1
    · rw [look_eq e, look_eq e, if_neg (fun q => nx.1 (q.symm.trans e))]
    · rw [look_ne e, look_ne e, d]
set_option tactic.hygienic true in
theorem look_of {o : Obj} {des : Array DictEntry} {ep : Nat} {name : Str} (hd : o.data = .dict des ep) (hk : StrKeys des) : lookIn name o = some (nsFind des name) := by
  unfold lookIn
  rw [hd]
  dsimp only
  unfold nsFind findBy
  rw [← Array.find?_toList]
  split
  · rename_i e he; rw [he]; rfl
  · rename_i he
    rw [he, if_neg]
    · rfl
    · rw [Array.any_toList, Array.any_eq_true']
      rintro ⟨e, hm, hr⟩
      obtain ⟨nn, t, q⟩ := hk e hm
      simp [DictEntry.refKey, q] at hr
inductive InstV (B : BC) (f : Fc) (σ : St) (s : Shared) (a C d : Addr) (es : List (Str × AV)) : Prop
  | mk (ox o : Obj) (kvs : List (Str × Value)) : InstAt s.heap a ox C (some o) → ox.dict = some d → s.heap.Ns1 d (fun y => kvs.lookup y) → VRd B.prog B.w (PP f σ.H) s.heap es kvs → (es.map (·.1)).Nodup → es.length ≤ 1000 → (∀ name, lookIn name o = some (kvs.lookup name)) → InstV B f σ s a C d es
theorem inst_at (hs : RS B f σ s) {a C d : Addr} {es : List (Str × AV)} (hi : IsAt σ.H a C d) (hd : σ.H d = some (.ns es)) :
    InstV B f σ s a C d es := by
  obtain ⟨nd, nz, kvs, hn, hv⟩ := hs.rh.cells d _ hd
  obtain ⟨o, des, ep, ho, hdt, hk, _, hf⟩ := id hn
  have lk : ∀ name, lookIn name o = some (kvs.lookup name) := fun name => by rw [look_of hdt hk, hf]
  rcases hi with hi | ⟨tr, hi⟩
  · have hx := hs.rh.cells a _ hi
    exact ⟨_, o, kvs, ⟨hx, rfl, rfl, ho⟩, rfl, hn, hv, nd, nz, lk⟩
  · obtain ⟨vs, hx, _⟩ := exc_real hs hi
    exact ⟨_, o, kvs, ⟨hx, rfl, rfl, ho⟩, rfl, hn, hv, nd, nz, lk⟩
structure NoAt (K : Frag) (C : Addr) (x : Str) : Prop where
  ga : findIn K (.ref C) "__getattribute__" = some (some (.builtin "object.__getattribute__"))
  no : findIn K (.ref C) x = some none
  hd : ∃ oc od cd sl, K.lookup C = some ⟨oc, od, .cls cd, sl⟩ ∧ cd.hasDict = true
theorem handed_vr {v : AV} {r : Value} (q : VR B.prog B.w P h v r) (hb : ∀ i, v ≠ .blt i) : handedIn r = true := by
  revert hb
  exact VR.rec (motive_1 := fun v r _ => (∀ i, v ≠ .blt i) → handedIn r = true) (motive_2 := fun _ _ _ => True) (motive_3 := fun _ _ _ => True) (fun _ => rfl) (fun _ _ => rfl) (fun _ _ _ => rfl) (fun _ _ _ => rfl) (fun _ _ => rfl) (fun _ hb => absurd rfl (hb _)) (fun _ _ => rfl) (fun _ _ _ _ _ => rfl) (fun _ _ _ _ _ => rfl) (fun _ _ _ _ _ _ => rfl) trivial (fun _ _ _ _ => trivial) trivial (fun _ _ _ _ => trivial) q
theorem o_attr {a C d : Addr} {es : List (Str × AV)} {x : Str} {v : AV} {Q : AV → St → Prop} (hN : NoAt B.K C x) (hi : IsAt σ.H a C d) (hd' : σ.H d = some (.ns es)) (g : GHas es x v) (hb : ∀ i, v ≠ .blt i) (q : Q v σ) :
    EO1 B f n hd (vrel B) (.ref a) (fun o => getAttr o x true) σ Q X := EO1.of v (fun A s r hA hs h1 => by
  refine h1.eRef ?_
  obtain ⟨ox, o, kvs, I, _, hn, hv, nd, _, lk⟩ := inst_at hs hi hd'
  obtain ⟨rv, e, hr⟩ := hv.has g nd
  obtain ⟨oc, od, cd, sl, hl, hh⟩ := hN.hd
  have hc : clsIn B.K C = some cd := by unfold clsIn; rw [hl]
  refine get_value (kin hs) I hN.ga (v := rv) ?_ (handed_vr hr hb) (TK.t hr)
  unfold findObj
  rw [hc, hN.no]
  show ((ownOf cd (some o) x).bind _) = _
  unfold PySem.W.ownOf
  rw [hh]
  show ((lookIn x o).bind _) = _
  rw [lk, e]; rfl) q
structure XNoAt (K : Frag) (C : Addr) (x : Str) : Prop where
  ga : findIn K (.ref C) "__getattribute__" = some (some (.builtin "BaseException.__getattribute__"))
  gx : findIn K (.ref C) "__getattr__" = some none
  no : findIn K (.ref C) x = some none
  hd : ∃ oc od cd sl, K.lookup C = some ⟨oc, od, .cls cd, sl⟩ ∧ cd.hasDict = true
  bs : subIn K (.ref C) (.type "BaseException") = some true
theorem bga_slot : Slot "Exception" "__getattribute__" "BaseException.__getattribute__" :=
  .of (owner := "BaseException") (n := "__getattribute__") (by rw [typeLookup_type, builtinLookup_eq_fast]; kernel_rfl) (by decide +kernel) (by decide +kernel) (by decide +kernel) (by first | exact .inl (by decide +kernel) | exact .inr (by decide +kernel)) (by rw [isSubtype_type]; kernel_rfl)
theorem o_xattr {a C d : Addr} {tr : Bool} {es : List (Str × AV)} {x : Str} {v : AV} {Q : AV → St → Prop} (hN : XNoAt B.K C x) (hi : σ.H a = some (.exc C (some d) tr)) (hd' : σ.H d = some (.ns es)) (g : GHas es x v) (hb : ∀ i, v ≠ .blt i) (q : Q v σ) :
    EO1 B f n hd (vrel B) (.ref a) (fun o => getAttr o x true) σ Q X := EO1.of v (fun A s r hA hs h1 => by
  refine h1.eRef ?_
  obtain ⟨ox, o, kvs, I, _, hn, hv, nd, _, lk⟩ := inst_at hs (.inr ⟨tr, hi⟩) hd'
  obtain ⟨rv, e, hr⟩ := hv.has g nd
  obtain ⟨oc, od, cd, sl, hl, hh⟩ := hN.hd
  have hc : clsIn B.K C = some cd := by unfold clsIn; rw [hl]
  have X' := kin hs
  have hf : findObj B.K C (some o) x = some (.value rv) := by
    unfold findObj
    rw [hc, hN.no]
    show ((PySem.W.ownOf cd (some o) x).bind _) = _
    unfold PySem.W.ownOf
    rw [hh]
    show ((lookIn x o).bind _) = _
    rw [lk, e]; rfl
  have hz2 : (Value.builtin "BaseException.__getattribute__" == Value.builtin "object.__getattribute__") = false := by decide +kernel
  obtain ⟨hp, gg, dw, t, os⟩ := s
  have L0 := I.type (M := model B.prog B.w)
  have L1 := looks_findIn (M := model B.prog B.w) X' hN.ga
  have L2 := looks_findIn (M := model B.prog B.w) X' hN.gx
  have L3 := looks_find (M := model B.prog B.w) X' I hf
  have L4 : Looks (model B.prog B.w) hp (isInstance (.ref a) (.type "BaseException")) true := L0.andThen (looks_subIn X' hN.bs)
  unfold getAttr getAttrBy
  refine wpAny_bind (wpAny_mkText (wpAny_holding (wpAny_bind (L0.at (wpAny_bind (L1.at ?_))))))
  dsimp only
  rw [hz2, Bool.and_false, if_neg (by decide)]
  unfold getAttrByItsOwn hookBefore
  rw [if_pos (show onTheHeap (Value.ref C) = true from rfl)]
  refine wpAny_bind (L2.at (wpAny_bind (wpAny_attempt (wpAny_holding ?_))))
  unfold callGetattribute
  rw [show (true && onTheHeap (Value.builtin "BaseException.__getattribute__")) = false from rfl, if_neg (by decide)]
  unfold boundAndCalled
  rw [bga_slot.bind]
  refine wpAny_bind (wpAny_pure ?_)
  show wpAny _ _ (call (.builtin "BaseException.__getattribute__") [.ref a, .str x t]) _ _ _
  refine wpAny_call (codeAny_call_builtin bga_slot.plain PySem.F.entry_bexc_ga (@check_slot (model B.prog B.w) _ _ ⟨hp, gg, dw, t + 1, os⟩ "BaseException.__getattribute__" "BaseException" "__getattribute__" (.ref a) [.str x t] [] _ (by decide +kernel) (by decide +kernel) L4 (PySem.F.args_bexc_ga _ _) ?_))
  unfold Builtin.«object.__getattribute__»
  refine wpAny_bind (wpAny_pure (wpAny_bind (wpAny_pure (wpAny_bind (L0.at (wpAny_bind (L3.at ?_)))))))
  refine wpAny_pure ?_
  show wpAny _ _ (handedOut rv) _ _ _
  rw [handedOut_of (handed_vr hr hb)]
  exact wpAny_pure (TK.t (tk := t + 1) hr)) q
structure MeAt (K : Frag) (C : Addr) (x : Str) (fa : Addr) : Prop where
  ga : findIn K (.ref C) "__getattribute__" = some (some (.builtin "object.__getattribute__"))
  gx : findIn K (.ref C) "__getattr__" = some none
  fn : findIn K (.ref C) x = some (some (.ref fa))
  ty : typeIn K (.ref fa) = some (.type "function")
  kp : keepIn K (.ref fa) = true
theorem not_key {es : List (Str × AV)} {x : Str} (h : (es.map (·.1)).all (fun y => !(y == x)) = true) : x ∉ es.map (·.1) := fun m => by
  have := List.all_eq_true.mp h x m
  simp at this
theorem m_own {name : Str} {pos : Pos} {a C d fa : Addr} {es : List (Str × AV)} {args : List Expr} {Q : AV → St → Prop} (hM : MeAt B.K C name fa) (hi : IsAt σ.H a C d) (hd' : σ.H d = some (.ns es)) (hx : (es.map (·.1)).all (fun y => !(y == name)) = true)
    (h : EL B f n none (spliced (backTo pos (starEach args f.env))) σ (fun vs σ₁ => CallP B n (.ref fa) (.ref a :: vs) σ₁.H (fun v H' => Q v ⟨σ₁.loc, H'⟩) (fun b H' => X b ⟨σ₁.loc, H'⟩)) X) (hp : args.all plainArg = true) : EM B f n none pos name (.ref a) args σ Q X := fun pl A s r hA hs hv => by
  refine hv.eRef ?_
  obtain ⟨ox, o, kvs, I, _, hn, hvd, nd, _, lk⟩ := inst_at hs hi hd'
  have hno : kvs.lookup name = none := by
    cases e : kvs.lookup name with
    | none => rfl
    | some v => exact absurd (hvd.keys ▸ lookup_mem e) (not_key hx)
  refine method_fn (kin hs) I hM.ga hM.gx hM.fn hM.ty (by show (lookIn name o).map _ = _; rw [lk, hno]; rfl) ?_
  refine callWith_all hM.kp hp (wpAny_mono (h A s hA hs) (fun vs s₁ ⟨v, σ', r, st, hvs, c⟩ => ⟨kin r, ?_⟩) fun _ _ q => q)
  exact call_done hA r st (.cons (.ref a) hvs) c
inductive PassM : List Value → Prop
  | o : PassM [.type "object"]
  | x : PassM [.type "Exception", .type "BaseException", .type "object"]
  | r {c : Addr} {l : List Value} : PassM l → PassM (.ref c :: l)
theorem refuse_pass (self : Value) {l : List Value} (h : PassM l) : refuseLoop self "__setattr__" l = pure () := by
  induction h with
  | o => exact PySem.F.store_object.passes self
  | x => exact PySem.F.store_Exception.passes self
  | r _ ih => rw [refuseLoop_ref]; exact ih
theorem pass_has {l : List Value} (h : PassM l) : l.contains (.type "object") = true ∧ l.isEmpty = false := by
  induction h with
  | o => exact ⟨by decide +kernel, rfl⟩
  | x => exact ⟨by decide +kernel, rfl⟩
  | r _ ih => exact ⟨by rw [List.contains_cons, ih.1, Bool.or_true], rfl⟩
structure StAt (K : Frag) (C : Addr) (x : Str) : Prop where
  sa : findIn K (.ref C) "__setattr__" = some (some (.builtin "object.__setattr__"))
  tk : takerIn K C x = some none
  hd : ∃ oc od cd sl, K.lookup C = some ⟨oc, od, .cls cd, sl⟩ ∧ cd.hasDict = true ∧ PassM cd.mro
theorem StAt.cls {K : Frag} {C : Addr} {x : Str} (h : StAt K C x) : ∃ cd, clsIn K C = some cd ∧ cd.hasDict = true ∧ PassM cd.mro := by
  obtain ⟨oc, od, cd, sl, hl, a, b⟩ := h.hd
  exact ⟨cd, by unfold clsIn; rw [hl], a, b⟩
theorem sa_open {prog : Program} {w : World} {A : Around} {R : Result → Shared → Prop} {s : Shared} {K : Frag} {x C : Addr} {ox : Obj} {od : Option Obj} {name : Str} {tk : Tok} {v : Value} (hS : StAt K C name) (X : K.In s.heap) (I : InstAt s.heap x ox C od)
    (h : ∀ b, wpAny (model prog w) A.in1 (storeInOwnDict (.ref x) (.ref C) (.str name tk) name v b)
      (fun fin s' => match fin with | .done f => R (.ok f) s' | .again c' => c'.quiet = true ∧ codeAny (model prog w) A c' R s') (fun e s' => R (.error e) s') s) :
    codeAny (model prog w) A (.call (.builtin "object.__setattr__") ⟨[.ref x, .str name tk, v], []⟩) R s := by
  have SF := PySem.F.store_object
  obtain ⟨cd, hc, _, ho⟩ := hS.cls
  have sub : Looks (model prog w) s.heap (isInstance (.ref x) (.type "object")) true := I.type.andThen (looks_mroIn X (by unfold mroIn; rw [hc, Option.bind_some, if_neg (by rw [(pass_has ho).2]; decide), (pass_has ho).1]))
  refine codeAny_call_builtin SF.slot.plain SF.entry (@check_slot (model prog w) _ _ s "object.__setattr__" "object" "__setattr__" (.ref x) [.str name tk, v] [] _ SF.kind SF.split sub (SF.args (.ref x) (.str name tk) v) ?_)
  obtain ⟨attr, ha, hr⟩ := Option.bind_eq_some_iff.mp hS.tk
  have hm : Looks (model prog w) s.heap (mroOf (.ref C)) cd.mro := (looks_clsIn X hc).andThen .now
  have L3 : Looks (model prog w) s.heap (storeTaker? attr) none := by
    cases attr with
    | none => exact .now
    | some a =>
      obtain ⟨b, hb, e⟩ := Option.map_eq_some_iff.mp hr
      refine (looks_takesIn X hb).andThen ?_
      cases b
      · exact .now
      · cases e
  rw [osa_eq, refuse_eq]
  refine wpAny_bind (wpAny_bind (I.type.here (wpAny_bind (hm.here ?_))))
  rw [refuse_pass _ ho]
  refine wpAny_pure (wpAny_bind (I.type.here (wpAny_bind ((looks_findIn X ha).here (wpAny_bind (L3.here ?_))))))
  exact h _
theorem within_kvs (kvs : List (Str × Value)) : Within (fun y => kvs.lookup y) (kvs.map (·.1)) := fun y hy => by
  cases e : kvs.lookup y with
  | none => exact absurd e hy
  | some v => exact lookup_mem e
theorem sa_here {A : Around} {E : Value → Shared → Prop} {K : Frag} {x C d : Addr} {ox o : Obj} {kvs kvs' : List (Str × Value)} {name : Str} {v : Value} {Q : Unit → Shared → Prop} (hS : StAt K C name) (X : K.In s.heap) (I : InstAt s.heap x ox C (some o)) (hd' : ox.dict = some d)
    (hn : s.heap.Ns1 d (fun y => kvs.lookup y)) (hl : kvs'.length ≤ 1001) (hk : ∀ y, kvs'.lookup y = if y = name then some v else kvs.lookup y)
    (h : ∀ h' tk, h'.Ns1 d (fun y => kvs'.lookup y) → Heap.SameBut d s.heap h' → Q () { s with heap := h', toks := tk }) : wpAny (model B.prog B.w) A (setAttr (.ref x) name v) Q E s := by
  refine set_plain X I hS.sa (sa_open (s := { s with toks := s.toks + 1 }) hS X I fun b => ?_)
  obtain ⟨cd, hc, hh, _⟩ := hS.cls
  obtain ⟨hx, hcl, hno, -⟩ := I
  obtain ⟨oc, odi, oda, osl⟩ := ox
  dsimp only at hcl hd'
  subst hcl hd'
  refine wpAny_bind (wpAny_pure (wpAny_bind (wpAny_bind (wpAny_loadPart hx (wpAny_bind (looks_clsIn X hc _ _ _ _ (fun _ _ e => e) ?_))))))
  rw [hh]
  refine wpAny_pure (a := some d) (wpAny_bind (wpAny_pure (wpAny_bind ?_)))
  refine wpAny_nsSet1 (s := { s with toks := s.toks + 1 }) hn fun h' hn' hs => ?_
  have hn'' : h'.Ns1 d (fun y => kvs'.lookup y) := by rw [show (fun y => kvs'.lookup y) = (fun y => if y = name then some v else kvs.lookup y) from funext hk]; exact hn'
  obtain ⟨oD, esD, epD, hoD, hdD, hcD⟩ := hn''.count (within_kvs kvs')
  refine wpAny_bind (wpAny_lookBehind hoD (by rw [hdD]; exact pastItsLine_dict (Nat.le_trans hcD (by rw [List.length_map, sizeLine_eq]; omega))) ?_)
  exact wpAny_pure (h _ _ hn'' hs)
theorem VRd.len {es : List (Str × AV)} {kvs : List (Str × Value)} (q : VRd B.prog B.w P h es kvs) : kvs.length = es.length := by
  have := congrArg List.length q.keys
  rwa [List.length_map, List.length_map] at this
theorem ns_done (hs : RS B f σ s) {h' : Heap} {tk : Nat} {d : Addr} {es es' : List (Str × AV)} {kvs' : List (Str × Value)} {Q : Unit → St → Prop} (hd' : σ.H d = some (.ns es)) (nd : (es'.map (·.1)).Nodup) (nz : es'.length ≤ 1000) (hn : h'.Ns1 d (fun y => kvs'.lookup y)) (hsb : Heap.SameBut d s.heap h')
    (hv : VRd B.prog B.w (PP f σ.H) s.heap es' kvs') (q : Q () ⟨σ.loc, σ.H.put d (some (.ns es'))⟩) : OkP B f (idrel (α := Unit)) σ s Q () { s with heap := h', toks := tk } := by
  have ha : ∃ o, h'.get? d = some o := by obtain ⟨o, _, _, e, _⟩ := hn; exact ⟨o, e⟩
  have st := upd_step (tk := tk) (c := .ns es') hs hd' ha hsb
  exact ⟨(), _, hs.upd (tk := tk) (c := .ns es') hd' ha hsb ⟨nd, nz, kvs', hn, hv.step st⟩, st, rfl, q⟩
theorem o_setattr {a C d : Addr} {es es' : List (Str × AV)} {x : Str} {v : AV} {Q : Unit → St → Prop} (hS : StAt B.K C x) (hi : IsAt σ.H a C d) (hd' : σ.H d = some (.ns es)) (hp : PutN es x v es') (q : Q () ⟨σ.loc, σ.H.put d (some (.ns es'))⟩) :
    EO2 B f n hd (idrel (α := Unit)) (.ref a) v (fun a b => setAttr a x b) σ Q X := fun A s r rv hA hs h1 h2 => by
  refine h1.eRef ?_
  obtain ⟨ox, o, kvs, I, hox, hn, hv, nd, nz, lk⟩ := inst_at hs hi hd'
  obtain ⟨kvs', hv', hk⟩ := hv.put h2 hp nd
  have hl : es'.length = es.length := by have := congrArg List.length hp.keys.1; simpa using this
  exact sa_here hS (kin hs) I hox hn (by rw [hv'.len]; omega) hk fun h' tk hn' hsb => ns_done hs hd' (by rw [hp.keys.1]; exact nd) (by omega) hn' hsb hv' q
theorem nodup_snoc {l : List Str} {x : Str} (nd : l.Nodup) (h : x ∉ l) : (l ++ [x]).Nodup := by
  rw [List.nodup_append]
  exact ⟨nd, by simp, fun a ha b hb => by rw [List.mem_singleton.mp hb]; rintro rfl; exact h ha⟩
theorem o_newattr {a C d : Addr} {es : List (Str × AV)} {x : Str} {v : AV} {Q : Unit → St → Prop} (hS : StAt B.K C x) (hi : IsAt σ.H a C d) (hd' : σ.H d = some (.ns es)) (hz : short 900 es = true) (hp : (es.map (·.1)).all (fun y => !(y == x)) = true) (q : Q () ⟨σ.loc, σ.H.put d (some (.ns (es ++ [(x, v)])))⟩) :
    EO2 B f n hd (idrel (α := Unit)) (.ref a) v (fun a b => setAttr a x b) σ Q X := fun A s r rv hA hs h1 h2 => by
  refine h1.eRef ?_
  obtain ⟨ox, o, kvs, I, hox, hn, hv, nd, nz, lk⟩ := inst_at hs hi hd'
  obtain ⟨hv', hk⟩ := hv.snoc h2 (not_key hp)
  have hl := short_le hz
  exact sa_here hS (kin hs) I hox hn (by rw [hv'.len]; simp; omega) hk fun h' tk hn' hsb => ns_done hs hd' (by rw [List.map_append]; exact nodup_snoc nd (not_key hp)) (by simp; omega) hn' hsb hv' q
theorem o_firstattr {a C : Addr} {tr : Bool} {x : Str} {v : AV} {Q : Unit → St → Prop} (hS : StAt B.K C x) (hi : σ.H a = some (.exc C none tr))
    (q : ∀ d, σ.H d = none → d ≠ a → Q () ⟨σ.loc, (σ.H.put a (some (.exc C (some d) tr))).put d (some (.ns [(x, v)]))⟩) :
    EO2 B f n hd (idrel (α := Unit)) (.ref a) v (fun a b => setAttr a x b) σ Q X := fun A s r rv hA hs h1 h2 => by
  refine h1.eRef ?_
  obtain ⟨vs, hx, hz, htb⟩ := exc_real hs hi
  have X := kin hs
  have I : InstAt s.heap a ⟨.ref C, none, .fields vs.toArray, #[]⟩ C none := ⟨hx, rfl, rfl, trivial⟩
  refine set_plain X I hS.sa (sa_open (s := { s with toks := s.toks + 1 }) hS X I fun b => ?_)
  obtain ⟨cd, hc, hh, _⟩ := hS.cls
  refine wpAny_bind (wpAny_pure (wpAny_bind (wpAny_bind (wpAny_loadPart hx (wpAny_bind (looks_clsIn X hc _ _ _ _ (fun _ _ e => e) ?_))))))
  rw [hh]
  have hk1 := push_keeps s.heap { cls := .type "dict", data := .dict #[] }
  have hxs : a ≠ s.heap.objs.size := Nat.ne_of_lt (Heap.lt_size hx)
  have hn1 : (s.heap.push { cls := .type "dict", data := .dict #[] }).Ns s.heap.objs.size (fun _ => none) := ⟨_, #[], _, Heap.get?_push_at rfl rfl, rfl, fun e he => absurd he (by simp), fun _ => rfl⟩
  have hi' : (σ.H.put s.heap.objs.size (some (.ns []))) a = some (.exc C none tr) := (put_ne hxs).trans hi
  have r1 := hs.fresh (tk := s.toks + 1) (c := .ns []) hk1 (size_none _) ⟨List.nodup_nil, Nat.zero_le _, [], Heap.Ns1.of_empty hn1, .nil⟩
  have t1 := fresh_step (tk := s.toks + 1) (c := .ns []) hs hk1 (size_none _)
  refine wpAny_bind (wpAny_alloc' ?_)
  refine wpAny_bind (wpAny_update' (hk1 _ _ hx) ?_)
  refine wpAny_pure ?_
  have hga := Heap.get?_update_self (fun o => { cls := o.cls, dict := some s.heap.objs.size, data := o.data, slots := o.slots }) (hk1 _ _ hx) rfl
  have hsa := Heap.SameBut.update (s.heap.push { cls := .type "dict", data := .dict #[] }) a (fun o => { cls := o.cls, dict := some s.heap.objs.size, data := o.data, slots := o.slots })
  generalize ((s.heap.push { cls := .type "dict", data := .dict #[] }).update a fun o => { cls := o.cls, dict := some s.heap.objs.size, data := o.data, slots := o.slots }) = hp2 at hga hsa ⊢
  have t2 := upd_step (tk := s.toks + 1) (c := .exc C (some s.heap.objs.size) tr) r1 hi' ⟨_, hga⟩ hsa
  have r2 := r1.upd (tk := s.toks + 1) (c := .exc C (some s.heap.objs.size) tr) hi' ⟨_, hga⟩ hsa ⟨vs, hga, hz, htb.imp_right fun ⟨y, T, z, w⟩ => ⟨y, T, z, (w.kp t1.kp).kp t2.kp⟩⟩
  have hn2 : hp2.Ns s.heap.objs.size (fun _ => none) := by
    obtain ⟨o, es, ep, e, r⟩ := hn1
    exact ⟨o, es, ep, (hsa.2 _ hxs.symm).trans e, r⟩
  unfold storeInDict newKeyGuard
  refine wpAny_bind (wpAny_pure (wpAny_bind (wpAny_nsSet1 (Heap.Ns1.of_empty hn2) fun h' hn' hsb => ?_)))
  obtain ⟨oD, esD, epD, hoD, hdD, hcD⟩ := hn'.count (Within.cons x rv Within.nil)
  refine wpAny_bind (wpAny_lookBehind hoD (by rw [hdD]; exact pastItsLine_dict (Nat.le_trans hcD (by rw [List.length_cons, List.length_nil, sizeLine_eq]; omega))) ?_)
  have hn'' : h'.Ns1 s.heap.objs.size (fun y => [(x, rv)].lookup y) := by
    rw [show (fun y => [(x, rv)].lookup y) = (fun y => if y = x then some rv else none) from funext fun y => by
      by_cases e : y = x
      · rw [if_pos e, look_eq e]
      · rw [if_neg e, look_ne e]; rfl]
    exact hn'
  refine wpAny_pure ((ns_done (es := []) (es' := [(x, v)]) (tk := s.toks + 1 + 1) r2 ((put_ne hxs.symm).trans put_get) (by simp) (by simp) hn'' hsb (.cons ((h2.step t1).step t2) .nil) ?_).back (t1.trans t2))
  have e : ((σ.H.put s.heap.objs.size (some (.ns []))).put a (some (.exc C (some s.heap.objs.size) tr))).put s.heap.objs.size (some (.ns [(x, v)])) = (σ.H.put a (some (.exc C (some s.heap.objs.size) tr))).put s.heap.objs.size (some (.ns [(x, v)])) := by
    rw [AH.put_comm hxs.symm, AH.put_twice]
  show Q () ⟨σ.loc, ((σ.H.put _ _).put _ _).put _ _⟩
  rw [e]
  exact q _ (H_none hs (size_none _)) hxs.symm
end
end Mine
end
section
open PySem PySem.W PyProof.Rows PySem.Calls Builtin.ObjectAttr
namespace Mine
section
variable {B : BC} {f : Fc} {n : Nat} {hd : Option Value} {X : Addr → St → Prop} {σ : St} {s : Shared} {N : St → Prop} {K : AFlow → St → Prop} {A : Around} {E : Value → Shared → Prop}
theorem under_ok (hA : AOk f (n + 1) none A) (C : Addr) (rest : List Value) : AOk f n none (A.under (.builtin "type.__call__" ⟨.ref C :: rest, []⟩)) := by
  have hw : (Code.builtin "type.__call__" ⟨.ref C :: rest, []⟩).weight = 1 := by
    show Code.frames _ + (if Code.isCreation _ then 1 else 0) + (if Code.isGuard _ then 1 else 0) + (if Code.isCaller _ then claimMargin else 0) = 1
    rw [show Code.isCreation (Code.builtin "type.__call__" ⟨.ref C :: rest, []⟩) = true from rfl, show Code.isGuard (Code.builtin "type.__call__" ⟨.ref C :: rest, []⟩) = false from by show guardIds.contains "type.__call__" = false; decide +kernel,
      show Code.isCaller (Code.builtin "type.__call__" ⟨.ref C :: rest, []⟩) = false from rfl]
    rfl
  have he : (Code.builtin "type.__call__" ⟨.ref C :: rest, []⟩).envs = [] := rfl
  have hu : (Code.builtin "type.__call__" ⟨.ref C :: rest, []⟩).cUnits ≤ 30 := by
    show Code.cUnits _ ≤ 30
    have : Code.cUnits (Code.builtin "type.__call__" ⟨.ref C :: rest, []⟩) = Code.cUnits (Code.builtin "type.__call__" ⟨[], []⟩) := rfl
    rw [this]; decide +kernel
  obtain ⟨h1, h2, h3, h4⟩ := hA
  refine ⟨?_, h2, ?_, ?_⟩
  · unfold Around.under; dsimp only; rw [he]; exact h1
  · unfold Around.under; dsimp only; rw [hw]; exact up_le (by decide) h3
  · unfold Around.under; dsimp only; exact up_le (Nat.le_trans hu (by decide)) h4
structure Mk (K : Frag) (C fI : Addr) : Prop where
  kp : keepIn K (.ref C) = true
  mi : makesIn K C = true
  fi : findIn K (.ref C) "__init__" = some (some (.ref fI))
  ty : typeIn K (.ref fI) = some (.type "function")
theorem r_make {pos : Pos} {C fI : Addr} {args : List Expr} {Q : AV → St → Prop} (M : Mk B.K C fI) (hp : args.all plainArg = true)
    (h : EL B f (n + 1) none (spliced (backTo pos (starEach args f.env))) σ (fun vs σ₁ => ∀ x d, σ₁.H x = none → σ₁.H d = none → x ≠ d →
      CallP B n (.ref fI) (.ref x :: vs) ((σ₁.H.put d (some (.ns []))).put x (some (.inst C d))) (fun v H' => v = .none ∧ Q (.ref x) ⟨σ₁.loc, H'⟩) (fun b H' => X b ⟨σ₁.loc, H'⟩)) X) : EC B f (n + 1) none pos (.ref C) args σ Q X := by
  intro A s r hA hs hv
  refine hv.eRef (callWith_all M.kp hp (h.via hA hs .refl fun rs s₁ vs σ₁ h₁ st₁ _ hr c => ⟨kin h₁, ?_⟩))
  obtain ⟨hh, g, d, t, os⟩ := s₁
  refine wpAny_call (make_core (makes_of (kin h₁) M.mi) (looks_findIn (kin h₁) M.fi) (fun self => bind_fn (kin h₁) self M.ty) (.inl rfl) ?_)
  have hd0 : (hh.push emptyDict).get? hh.objs.size = some emptyDict := Heap.get?_push_size _ rfl
  have hHd : σ₁.H hh.objs.size = none := H_none h₁ (size_none _)
  have r1 : RS B f ⟨σ₁.loc, σ₁.H.put hh.objs.size (some (.ns []))⟩ ⟨hh.push emptyDict, g, d, t, os⟩ := h₁.fresh (tk := t) (c := .ns []) (push_keeps hh emptyDict) (size_none _) ⟨by simp, by simp, [], Heap.Ns1.of_empty ⟨_, #[], _, hd0, rfl, fun e he => absurd he (by simp), fun _ => rfl⟩, .nil⟩
  have s1 : SStep f σ₁ ⟨hh, g, d, t, os⟩ ⟨σ₁.loc, σ₁.H.put hh.objs.size (some (.ns []))⟩ ⟨hh.push emptyDict, g, d, t, os⟩ := fresh_step (tk := t) h₁ (push_keeps hh emptyDict) (size_none _)
  have hsz : (hh.push emptyDict).objs.size = hh.objs.size + 1 := Heap.size_push ..
  have hx0 : ((hh.push emptyDict).push (instObj C hh.objs.size)).get? (hh.objs.size + 1) = some (instObj C hh.objs.size) := by
    have := Heap.get?_push_size (hh.push emptyDict) (o := instObj C hh.objs.size) rfl
    rwa [hsz] at this
  have hn1 : (hh.push emptyDict).get? (hh.objs.size + 1) = none := by rw [← hsz]; exact size_none _
  have r2 := r1.fresh (tk := t) (a := hh.objs.size + 1) (c := .inst C hh.objs.size) (push_keeps (hh.push emptyDict) (instObj C hh.objs.size)) hn1 hx0
  have s2 := fresh_step (tk := t) (a := hh.objs.size + 1) (c := .inst C hh.objs.size) r1 (push_keeps (hh.push emptyDict) (instObj C hh.objs.size)) hn1
  have hHx : σ₁.H (hh.objs.size + 1) = none := H_none h₁ (Heap.get?_none_of_le (Nat.le_succ _))
  have c' := (c (hh.objs.size + 1) hh.objs.size hHx hHd (Nat.succ_ne_self _)).2
  refine codeAny_mono (call_here (Q := fun v σ' => v = .none ∧ Q (.ref (hh.objs.size + 1)) σ') (σ := ⟨σ₁.loc, _⟩) c' (under_ok hA C rs) r2 (.cons (.ref _) ((hr.step s1).step s2))) fun r s' q => ?_
  cases q with
  | er q => exact ((q.back s2).back s1).back st₁
  | ret q =>
    obtain ⟨w, σ', a1, a2, a3, a4⟩ := q
    obtain ⟨rfl, a5⟩ := a4
    exact a3.eNone (C := fun v => v = .none ∧ _) ⟨rfl, ((OkP.mk _ σ' a1 a2 (.ref _) a5).back s2 |>.back s1).back st₁⟩
structure ClM (K : Frag) (C : Addr) (x : Str) (fa : Addr) : Prop where
  sp : specialIn K (.ref C) "__getattribute__" = some (some (.builtin "type.__getattribute__"))
  rd : readsIn K C (.type "type") = true
  fc : findCls K (.ref C) (.type "type") x = some (.val (.ref fa))
  kp : keepIn K (.ref fa) = true
theorem m_cls {name : Str} {pos : Pos} {C fa : Addr} {args : List Expr} {Q : AV → St → Prop} (M : ClM B.K C name fa) (hp : args.all plainArg = true)
    (h : EL B f n none (spliced (backTo pos (starEach args f.env))) σ (fun vs σ₁ => CallP B n (.ref fa) vs σ₁.H (fun v H' => Q v ⟨σ₁.loc, H'⟩) (fun b H' => X b ⟨σ₁.loc, H'⟩)) X) : EM B f n none pos name (.ref C) args σ Q X := fun pl A s r hA hs hv => by
  refine hv.eRef ?_
  refine method_cls (kin hs) M.sp (cls_value (kin hs) M.rd M.fc rfl ?_)
  have hs' := hs.toks (s.toks + 1)
  exact callWith_all M.kp hp (wpAny_mono (h A _ hA hs') (fun vs s₁ ⟨v, σ', r, st, hvs, c⟩ => ⟨kin r, call_done hA r (s := s) st hvs c⟩) fun _ _ q => ErP.back (s := s) (σ' := σ) (s' := { s with toks := s.toks + 1 }) .refl q)
structure XCls (K : Frag) (C : Addr) : Prop where
  cl : (clsIn K C).isSome = true
  ty : typeIn K (.ref C) = some (.type "type")
  ex : subIn K (.ref C) (.type "BaseException") = some true
theorem flight_none (hs : RS B f σ s) {a C : Addr} {d : Option Addr} {tr : Bool} (ha : σ.H a = some (.exc C d tr)) {Q : Unit → Shared → Prop} (h : ∀ s', RS B f σ s' → SStep f σ s σ s' → Q () s') : wpAny (model B.prog B.w) A (setFlight (.ref a) none) Q E s := by
  cases tr with
  | true => exact set_flight hs ha h
  | false =>
    obtain ⟨vs, ho, hz, hv⟩ := exc_real hs ha
    rcases hv with ⟨_, h1⟩ | ⟨q, _⟩
    · unfold setFlight
      refine wpAny_bind (wpAny_field ho rfl (by simpa using h1) ?_)
      rw [if_neg (by decide)]
      exact wpAny_pure (h s hs .refl)
    · cases q
theorem raise_go {env : Env} {x : Sem Value} {Q : Flow → Shared → Prop} (hA : A.handled = hd) (h : wpAny (model B.prog B.w) A x (fun r s₁ => ∃ a σ₁ C d tr, r = .ref a ∧ RS B f σ₁ s₁ ∧ σ₁.H a = some (.exc C d tr) ∧ XCls B.K C ∧ (hd = none ∨ hd = some (.ref a)) ∧ ∀ s', RS B f σ₁ s' → SStep f σ₁ s₁ σ₁ s' → E (.ref a) s') E s) :
    wpAny (model B.prog B.w) A (raiseStmt env (some x) none) Q E s := by
  unfold raiseStmt
  refine wpAny_bind (wpAny_mono h (fun r s₁ q => ?_) fun _ _ x => x)
  obtain ⟨a, σ₁, C, d, tr, rfl, hs, ha, hX, hh, k⟩ := q
  obtain ⟨vs, ho, _⟩ := exc_real hs ha
  have X := kin hs
  obtain ⟨cd, hc⟩ := Option.isSome_iff_exists.mp hX.cl
  have L1 : Looks (model B.prog B.w) s₁.heap (isType (.ref a)) false := (Looks.ld ho).andThen .now
  have L2 : Looks (model B.prog B.w) s₁.heap (isInstance (.ref a) (.type "BaseException")) true := Looks.andThen (a := .ref C) ((Looks.ld ho).andThen .now) (looks_subIn X hX.ex)
  have L3 : Looks (model B.prog B.w) s₁.heap (raisedInstance (.ref a)) (.ref a) := by
    unfold raisedInstance
    refine Looks.andThen (a := .ref C) ((Looks.ld ho).andThen .now) (Looks.andThen (looks_typeIn X hX.ty) ?_)
    rw [if_pos (by decide)]; exact .now
  have L4 : Looks (model B.prog B.w) s₁.heap (isExcClass (.ref a)) false := by
    unfold isExcClass
    refine Looks.andThen L1 ?_
    rw [if_neg (by decide)]; exact .now
  refine wpAny_bind (wpAny_pure ?_)
  refine wpAny_bind (wpAny_holding ?_)
  unfold excFromValue
  refine wpAny_bind (L4.here ?_)
  rw [if_neg (by decide)]
  refine wpAny_bind (L2.here ?_)
  rw [if_pos rfl]
  refine wpAny_pure ?_
  dsimp only
  first | refine wpAny_bind (wpAny_pure ?_) | skip
  refine wpAny_bind ?_
  first | refine wpAny_bind (L1.here ?_) | refine L1.here ?_
  rw [if_neg (by decide)]
  refine wpAny_bind (L3.here ?_)
  refine wpAny_bind (flight_none hs ha fun s' hs' st' => ?_)
  unfold raiseNew
  refine wpAny_bind (wpAny_handled ?_)
  rw [hA]
  rcases hh with e | e
  · subst e
    first
      | exact wpAny_throw (k s' hs' st')
      | exact wpAny_bind (wpAny_pure (wpAny_throw (k s' hs' st')))
  · subst e
    dsimp only
    rw [if_neg (by simp)]
    first
      | exact wpAny_throw (k s' hs' st')
      | exact wpAny_bind (wpAny_pure (wpAny_throw (k s' hs' st')))
theorem r_raise {e : Expr} {pos : Pos} (h : EV B f n hd (eval e f.env) σ (fun v σ₁ => ∃ a C d tr, v = .ref a ∧ σ₁.H a = some (.exc C d tr) ∧ XCls B.K C ∧ (hd = none ∨ hd = some (.ref a)) ∧ X a ⟨σ₁.loc, σ₁.H.put a (some (.exc C d true))⟩) X) :
    ES B f n hd (exec (.Raise (some e) none pos) f.env) σ N K X := fun A s hA hs => by
  rw [arm_exec_Raise]
  show wpAny _ A (do standAt pos; raiseStmt f.env (some (do let v ← eval e f.env; standAt pos; pure v)) none) _ _ s
  refine wpAny_bind (wpAny_standAt (raise_go (f := f) (hd := hd) hA.hd (wpAny_bind (h.via hA hs .refl fun r s₁ v σ₁ h₁ st₁ _ hr ⟨a, C, d, tr, ev, ha, hX, hh, q⟩ => wpAny_bind (wpAny_standAt (wpAny_pure ?_))))))
  subst ev
  refine hr.eRef ?_
  exact ⟨a, σ₁, C, d, tr, rfl, h₁, ha, hX, hh, fun s' h' st' => ⟨a, σ₁, C, d, tr, h', st₁.trans st', ha, q⟩⟩
end
end Mine
end
section
open PySem PySem.W PyProof.Rows PySem.Calls Builtin.ObjectAttr
open Sem (wp)
namespace Mine
structure XOb (o : Obj) (C : Addr) : Prop where
  ob : ∃ nm q N bs bm hdct sn sub ab col dd k0 k1 k2 k3 k5, o = excClassObj nm q C N bs bm hdct sn sub ab col dd k0 k1 k2 k3 k5 "Exception.__new__" ∧ bm.contains (.type "Exception") = true ∧ bm.contains (.type "AttributeError") = false ∧ bm.contains (.type "NameError") = false
section
variable {prog : Program} {w : World} {A : Around} {E : Value → Shared → Prop} {R : Result → Shared → Prop} {h : Heap} {g : Array GenState} {d : Drawn} {t : Nat} {os : OsState}
variable {nm q : Str} {C N : Addr} {bs bm : List Value} {hdct : Bool} {sn : List Str} {sub : List Value} {ab : Bool} {col : Option Bool} {dd : Option Addr} {k0 k1 k2 k3 k5 : Option Value}
theorem xcon {v : Value} {b : Bool} {C : Addr} {bm : List Value} (h : bm.contains v = b) (hn : (v == .ref C) = false) : (Value.ref C :: bm).contains v = b := by rw [List.contains_cons, hn, h]; rfl
theorem x_check {M : Model} {rest : List Value} {Q : Unit → Shared → Prop} (hb : bm.contains (.type "Exception") = true) (hC : h.get? C = some (excClassObj nm q C N bs bm hdct sn sub ab col dd k0 k1 k2 k3 k5 "Exception.__new__"))
    (hq : Q () ⟨h, g, d, t, os⟩) : wpAny M A (checkBuiltinCall "Exception.__new__" ⟨.ref C :: rest, []⟩) Q E ⟨h, g, d, t, os⟩ := by
  have F := PySem.F.excBase_Exception
  have hcont : (Value.ref C :: bm).contains (.type "Exception") = true := xcon hb rfl
  have hstar := F.noStar
  simp only [checkBuiltinCall, F.newKind, F.newSplit, F.newRow]
  repeat (first | with_reducible refine wpAny_loadPart_at hC ?_ | (with_reducible refine wpAny_isSubtype_exc hC ?_; rw [hcont]) | with_reducible refine wpAny_staticBase_exc hC ?_ | with_reducible refine wpAny_madeBy_exc hC ?_ | simp only [bne_self_eq_false, Bool.false_eq_true, if_false] | wp_step)
  exact hq
theorem x_new {rest : List Value} (hb : bm.contains (.type "Exception") = true) (h1 : bm.contains (.type "AttributeError") = false) (h2 : bm.contains (.type "NameError") = false)
    (hC : h.get? C = some (excClassObj nm q C N bs bm hdct sn sub ab col dd k0 k1 k2 k3 k5 "Exception.__new__"))
    (hq : R (.ok (.ret (.ref (h.objs.size + 1)))) ⟨(h.push { cls := .type "tuple", data := .seq rest.toArray }).push { cls := .ref C, data := .fields #[.ref h.objs.size, .none, .none, .none, .bool false, .none] }, g, d, t, os⟩) (hrest : rest.length ≤ sizeLine) :
    codeAny (model prog w) A (.builtin "Exception.__new__" ⟨.ref C :: rest, []⟩) R ⟨h, g, d, t, os⟩ := by
  have F := PySem.F.excBase_Exception
  have hends := F.ends
  have hcB : (Value.ref C :: bm).contains (.type "Exception") = true := xcon hb rfl
  have hcA : (Value.ref C :: bm).contains (.type "AttributeError") = false := xcon h1 rfl
  have hcN : (Value.ref C :: bm).contains (.type "NameError") = false := xcon h2 rfl
  refine codeAny_builtinAt F.entry ?_
  unfold Builtin.«BaseException.__new__»
  refine PySem.wpAt_bind ?_
  show PySem.wpAt _ _ _ (stack >>= _) _ _ _
  refine PySem.wpAt_bind (PySem.wpAt_stack fun p below => PySem.wpAt_of_wpAny ?_)
  wp_walk
  refine PySem.wpAt_of_wpAny ?_
  rw [F.owner]
  repeat (first | with_reducible refine wpAny_madeHere_exc F.canon hC ?_ | with_reducible refine wpAny_loadPart_at hC ?_ | (with_reducible refine wpAny_isSubtype_exc hC ?_; first | rw [hcB] | rw [hcA] | rw [hcN]) | wp_step)
  show R _ _
  rw [Heap.size_push]
  exact hq
theorem x_type {K : Frag} {rest : List Value} {fI : Addr} {Q : Fin → Shared → Prop} (X : K.In h) (hb : bm.contains (.type "Exception") = true) (h1 : bm.contains (.type "AttributeError") = false) (h2 : bm.contains (.type "NameError") = false)
    (hC : h.get? C = some (excClassObj nm q C N bs bm hdct sn sub ab col dd k0 k1 k2 k3 k5 "Exception.__new__")) (hi : findIn K (.ref C) "__init__" = some (some (.ref fI))) (hf : typeIn K (.ref fI) = some (.type "function")) (hrest : rest.length ≤ sizeLine)
    (hq : wpAny (model prog w) A (call (.ref fI) (.ref (h.objs.size + 1) :: rest)) (fun r s' => r = .none ∧ Q (.done (.ret (.ref (h.objs.size + 1)))) s') E
      ⟨(h.push { cls := .type "tuple", data := .seq rest.toArray }).push { cls := .ref C, data := .fields #[.ref h.objs.size, .none, .none, .none, .bool false, .none] }, g, d, t, os⟩) :
    wpAny (model prog w) A (Builtin.«type.__call__» ⟨.ref C :: rest, []⟩) Q E ⟨h, g, d, t, os⟩ := by
  have F := PySem.F.excBase_Exception
  repeat (first | with_reducible refine wpAny_loadPart_at hC ?_ | with_reducible refine wpAny_madeBy_exc hC ?_ | wp_step)
  refine codeAny_call_builtin_code (Code.quiet_builtin _ F.quiet) (x_check hb hC ?_)
  refine x_new hb h1 h2 hC ?_ hrest
  show wpAny _ _ _ _ _ _
  have hk : ∀ b o, h.get? b = some o → ((h.push { cls := .type "tuple", data := .seq rest.toArray }).push { cls := .ref C, data := .fields #[.ref h.objs.size, .none, .none, .none, .bool false, .none] }).get? b = some o := fun b o e => Heap.get?_push_of_some _ (Heap.get?_push_of_some _ e)
  have hC₁ := hk _ _ hC
  have X₁ : K.In ((h.push { cls := .type "tuple", data := .seq rest.toArray }).push { cls := .ref C, data := .fields #[.ref h.objs.size, .none, .none, .none, .bool false, .none] }) := X.keeps hk
  have hget : ((h.push { cls := .type "tuple", data := .seq rest.toArray }).push
      { cls := .ref C, data := .fields #[.ref h.objs.size, .none, .none, .none, .bool false, .none] }).get? (h.objs.size + 1) = some
      { cls := .ref C, data := .fields #[.ref h.objs.size, .none, .none, .none, .bool false, .none] } := by heap_get
  have hcC : (Value.ref C :: bm).contains (.ref C) = true := by simp
  unfold isInstance
  repeat (first | with_reducible refine wpAny_loadPart_at hget ?_ | (with_reducible refine wpAny_isSubtype_exc hC₁ ?_; rw [hcC]) | wp_step)
  show wpAny _ _ (typeLookup (.ref C) _) _ _ _
  refine (looks_findIn X₁ hi).at ?_
  refine wpAny_holding (wpAny_bind ((bind_fn X₁ _ hf).at ?_))
  refine wpAny_bind (wpAny_mono hq (fun r s' z => ?_) fun _ _ z => z)
  obtain ⟨rfl, z⟩ := z
  wp_walk
  exact z
theorem x_call {K : Frag} {rest : List Value} {fI : Addr} {Q : Value → Shared → Prop} (X : K.In h) (hb : bm.contains (.type "Exception") = true) (h1 : bm.contains (.type "AttributeError") = false) (h2 : bm.contains (.type "NameError") = false)
    (hC : h.get? C = some (excClassObj nm q C N bs bm hdct sn sub ab col dd k0 k1 k2 k3 k5 "Exception.__new__")) (hi : findIn K (.ref C) "__init__" = some (some (.ref fI))) (hf : typeIn K (.ref fI) = some (.type "function")) (hrest : rest.length ≤ sizeLine)
    (hq : wpAny (model prog w) (A.under (.builtin "type.__call__" ⟨.ref C :: rest, []⟩)) (call (.ref fI) (.ref (h.objs.size + 1) :: rest)) (fun r s' => r = .none ∧ Q (.ref (h.objs.size + 1)) s') E
      ⟨(h.push { cls := .type "tuple", data := .seq rest.toArray }).push { cls := .ref C, data := .fields #[.ref h.objs.size, .none, .none, .none, .bool false, .none] }, g, d, t, os⟩) :
    wpAny (model prog w) A (call (.ref C) rest) Q E ⟨h, g, d, t, os⟩ := by
  have f1 := tc_lookup
  have f2 := tc_bind (.ref C)
  have hT : (⟨h, g, d, t, os⟩ : Shared).TypeIs (.ref C) "type" := ⟨_, hC, rfl⟩
  refine wpAny_call (codeAny_of_tree ?_)
  show wpAny _ _ (callAny (.ref C) _) _ _ _
  repeat (any_goals (first | assumption | with_reducible refine wpAny_loadPart_at hC ?_ | wp_step))
  refine ⟨rfl, ?_⟩
  exact codeAny_call_builtin_at (Code.quiet_builtin _ (by decide +kernel)) entry_typeCall (wpAny_check_type_call_sub hC (x_type X hb h1 h2 hC hi hf hrest hq))
theorem xinit_check {M : Model} {a : Addr} {oe : Obj} {rest : List Value} {Q : Unit → Shared → Prop} (hb : bm.contains (.type "Exception") = true) (hC : h.get? C = some (excClassObj nm q C N bs bm hdct sn sub ab col dd k0 k1 k2 k3 k5 "Exception.__new__")) (he : h.get? a = some oe) (hcls : oe.cls = .ref C)
    (hq : Q () ⟨h, g, d, t, os⟩) : wpAny M A (checkBuiltinCall "Exception.__init__" ⟨.ref a :: rest, []⟩) Q E ⟨h, g, d, t, os⟩ := by
  have F := PySem.F.excBase_Exception
  have hcB : (Value.ref C :: bm).contains (.type "Exception") = true := xcon hb rfl
  have hshort := F.noStar
  simp only [checkBuiltinCall, F.initKind, F.initSplit, F.initRow]
  repeat (first | (with_reducible refine wpAny_loadPart_at he ?_; rw [hcls]) | with_reducible refine wpAny_loadPart_at hC ?_ | (with_reducible refine wpAny_isSubtype_exc hC ?_; rw [hcB]) | wp_step)
  refine wpAny_onRaise ?_
  rw [show ∀ (a' b : String) (n : Nat), Bind.check ⟨.positional, "*", "Exception", .self, [⟨"args", .varPos, false⟩]⟩ a' b n (List.map (fun x => x.fst) ({ pos := Value.ref a :: rest } : Args).kw) = pure () from
    fun a b n => check_star_args _ _ _ _ _ _]
  exact wpAny_pure hq
end
section
variable {B : BC} {f : Fc} {n : Nat} {hd : Option Value} {X : Addr → St → Prop} {σ : St} {s : Shared} {N : St → Prop} {K : AFlow → St → Prop} {A : Around} {E : Value → Shared → Prop}
structure Xk (K : Frag) (C fI : Addr) : Prop where
  kp : keepIn K (.ref C) = true
  ob : ∃ o, K.lookup C = some o ∧ XOb o C
  fi : findIn K (.ref C) "__init__" = some (some (.ref fI))
  ty : typeIn K (.ref fI) = some (.type "function")
theorem r_exc {pos : Pos} {C fI : Addr} {args : List Expr} {Q : AV → St → Prop} (M : Xk B.K C fI) (hp : args.all plainArg = true)
    (h : EL B f (n + 1) none (spliced (backTo pos (starEach args f.env))) σ (fun vs σ₁ => short 40 vs = true ∧ ∀ x, σ₁.H x = none →
      CallP B n (.ref fI) (.ref x :: vs) (σ₁.H.put x (some (.exc C none false))) (fun v H' => v = .none ∧ Q (.ref x) ⟨σ₁.loc, H'⟩) (fun b H' => X b ⟨σ₁.loc, H'⟩)) X) : EC B f (n + 1) none pos (.ref C) args σ Q X := by
  intro A s r hA hs hv
  refine hv.eRef (callWith_all M.kp hp (h.via hA hs .refl fun rs s₁ vs σ₁ h₁ st₁ _ hr ⟨hz, c⟩ => ⟨kin h₁, ?_⟩))
  obtain ⟨hh, g, d, t, os⟩ := s₁
  obtain ⟨o, ho, ⟨nm, q, N, bs, bm, hdct, sn, sub, ab, col, dd, k0, k1, k2, k3, k5, rfl, c1, c2, c3⟩⟩ := M.ob
  have hl : rs.length ≤ 40 := by rw [← hr.length]; exact short_le hz
  refine x_call (kin h₁) c1 c2 c3 (kin h₁ _ _ ho) M.fi M.ty (Nat.le_trans hl (by decide)) (wpAny_call ?_)
  have g1 := h₁.grow (tk := t) (push_keeps hh { cls := .type "tuple", data := .seq rs.toArray })
  have r1 : RS B f σ₁ ⟨hh.push { cls := .type "tuple", data := .seq rs.toArray }, g, d, t, os⟩ := g1.1
  have s1 : SStep f σ₁ ⟨hh, g, d, t, os⟩ σ₁ ⟨hh.push { cls := .type "tuple", data := .seq rs.toArray }, g, d, t, os⟩ := g1.2
  have hsz : (hh.push { cls := .type "tuple", data := .seq rs.toArray }).objs.size = hh.objs.size + 1 := Heap.size_push ..
  have hn1 : (hh.push { cls := .type "tuple", data := .seq rs.toArray }).get? (hh.objs.size + 1) = none := by rw [← hsz]; exact size_none _
  have hx0 : ((hh.push { cls := .type "tuple", data := .seq rs.toArray }).push { cls := .ref C, data := .fields #[.ref hh.objs.size, .none, .none, .none, .bool false, .none] }).get? (hh.objs.size + 1) = some { cls := .ref C, data := .fields #[.ref hh.objs.size, .none, .none, .none, .bool false, .none] } := by
    have := Heap.get?_push_size (hh.push { cls := .type "tuple", data := .seq rs.toArray }) (o := { cls := .ref C, data := .fields #[.ref hh.objs.size, .none, .none, .none, .bool false, .none] }) rfl
    rwa [hsz] at this
  have r2 := r1.fresh (tk := t) (a := hh.objs.size + 1) (c := .exc C none false) (push_keeps _ { cls := .ref C, data := .fields #[.ref hh.objs.size, .none, .none, .none, .bool false, .none] }) hn1 ⟨[.ref hh.objs.size, .none, .none, .none, .bool false, .none], hx0, rfl, .inl ⟨rfl, rfl⟩⟩
  have s2 := fresh_step (tk := t) (a := hh.objs.size + 1) (c := .exc C none false) r1 (push_keeps _ { cls := .ref C, data := .fields #[.ref hh.objs.size, .none, .none, .none, .bool false, .none] }) hn1
  have hHx : σ₁.H (hh.objs.size + 1) = none := H_none h₁ (Heap.get?_none_of_le (Nat.le_succ _))
  have c' := (c (hh.objs.size + 1) hHx).2
  refine codeAny_mono (call_here (Q := fun v σ' => v = .none ∧ Q (.ref (hh.objs.size + 1)) σ') (σ := ⟨σ₁.loc, _⟩) c' (under_ok hA C rs) r2 (.cons (.ref _) ((hr.step s1).step s2))) fun r s' q => ?_
  cases q with
  | er q => exact ((q.back s2).back s1).back st₁
  | ret q =>
    obtain ⟨w, σ', a1, a2, a3, a4⟩ := q
    obtain ⟨rfl, a5⟩ := a4
    exact a3.eNone (C := fun v => v = .none ∧ _) ⟨rfl, ((OkP.mk _ σ' a1 a2 (.ref _) a5).back s2 |>.back s1).back st₁⟩
inductive XiP (B : BC) : List AV → St → (AV → St → Prop) → Prop
  | mk {a C : Addr} {d : Option Addr} {v : AV} {σ : St} {Q : AV → St → Prop} : σ.H a = some (.exc C d false) → (∃ o, B.K.lookup C = some o ∧ XOb o C) → Q .none σ → XiP B [.ref a, v] σ Q
theorem m_excinit {pos : Pos} {args : List Expr} {Q : AV → St → Prop} (e : findCls B.K (.type "Exception") (.type "type") "__init__" = some (.val (.builtin "Exception.__init__"))) (hp : args.all plainArg = true)
    (h : EL B f n hd (spliced (backTo pos (starEach args f.env))) σ (fun vs σ₁ => XiP B vs σ₁ Q) X) : EM B f n hd pos "__init__" (.typ "Exception") args σ Q X := fun pl A s r hA hs hv => by
  cases hv
  have X' := kin hs
  have F := PySem.F.excBase_Exception
  have L0 : Looks (model B.prog B.w) s.heap (typeOf (.type "Exception")) (.type "type") := Looks.of_pure (by kernel_rfl)
  have hg : findIn B.K (.type "type") "__getattribute__" = some (some (.builtin "type.__getattribute__")) := type_tga
  have LO : Looks (model B.prog B.w) s.heap (opaqueClassAbove (.type "Exception")) none := Looks.of_pure (by unfold opaqueClassAbove; dsimp only; rw [show Manifest.isStub "Exception" = false from by decide +kernel]; rfl)
  unfold getMethod specialOf
  refine wpAny_bind (wpAny_bind (L0.here ((looks_findIn X' hg).here ?_)))
  dsimp only
  rw [if_pos canon_tga]
  refine wpAny_bind (wpAny_mono (Q := fun v s₂ => wpAny (model B.prog B.w) A (callWith pos v [] (backTo pos (starEach args f.env)) []) (OkP B f (vrel B) σ s Q) (ErP B f σ s X) s₂) (E := ErP B f σ s X) ?_ (fun _ _ z => wpAny_pure z) fun _ _ z => z)
  refine cls_open X' LO L0 hg (looks_hook X' (r := none) (by rfl)) (by show subIn B.K _ _ = _; rfl) e (wpAny_pure ?_)
  show wpAny _ _ (handedOut (.builtin "Exception.__init__")) _ _ _
  rw [handedOut_of (by decide +kernel)]
  refine wpAny_pure ?_
  have hs' := hs.toks (s.toks + 1)
  refine callWith_blt hp (h.via hA hs' .refl fun rs s₁ vs σ₁ h₁ st₁ _ hr q => ?_)
  cases q with
  | @mk a C d v _ _ ha hob q =>
    cases hr with | @cons _ _ _ rs ha' hr => cases hr with | @cons _ rv _ _ hv hr =>
      cases hr; cases ha'
      obtain ⟨vs, ho, hz, htb⟩ := exc_real h₁ ha
      obtain ⟨oC, hoC, ⟨nm, qn, N', bs, bm, hdct, sn, sub, ab, col, dd, k0, k1, k2, k3, k5, rfl, c1, c2, c3⟩⟩ := hob
      have hCC := kin h₁ _ _ hoC
      obtain ⟨hh, g, dw, t, os⟩ := s₁
      refine wpAny_call (codeAny_call_builtin F.init.plain F.initEntry (xinit_check c1 hCC ho rfl ?_))
      obtain ⟨v0, h0⟩ : ∃ v0, vs[0]? = some v0 := ⟨_, List.getElem?_eq_getElem (by omega)⟩
      unfold Builtin.«BaseException.__init__»
      have hk1 := push_keeps hh { cls := .type "tuple", data := .seq #[rv] }
      have g1 := h₁.grow (tk := t) hk1
      have ho1 : (hh.push { cls := .type "tuple", data := .seq #[rv] }).get? a = some ⟨.ref C, d, .fields vs.toArray, #[]⟩ := hk1 _ _ ho
      have hsb : Heap.SameBut a (hh.push { cls := .type "tuple", data := .seq #[rv] }) ((hh.push { cls := .type "tuple", data := .seq #[rv] }).update a (Obj.mapFields (·.setIfInBounds 0 (.ref hh.objs.size)))) := .update ..
      have hg2 : ((hh.push { cls := .type "tuple", data := .seq #[rv] }).update a (Obj.mapFields (·.setIfInBounds 0 (.ref hh.objs.size)))).get? a = some ⟨.ref C, d, .fields (vs.set 0 (.ref hh.objs.size)).toArray, #[]⟩ := by
        rw [Heap.get?_update_self _ ho1 rfl]
        simp [Obj.mapFields]
      have st2 := upd_step (tk := t) (c := .exc C d false) g1.1 ha ⟨_, hg2⟩ hsb
      have fin : OkP B f (vrel B) σ s Q .none ⟨(hh.push { cls := .type "tuple", data := .seq #[rv] }).update a (Obj.mapFields (·.setIfInBounds 0 (.ref hh.objs.size))), g, dw, t, os⟩ := by
        refine ⟨.none, ⟨σ₁.loc, σ₁.H.put a (some (.exc C d false))⟩, g1.1.upd (tk := t) (c := .exc C d false) ha ⟨_, hg2⟩ hsb ⟨_, hg2, by simp [hz], .inl ⟨rfl, ?_⟩⟩, (st₁.trans g1.2).trans st2, .none, ?_⟩
        · rcases htb with ⟨_, e⟩ | ⟨e, _⟩
          · rw [List.getElem?_set]; simpa using e
          · cases e
        · rw [put_self ha]; exact q
      show wpAny _ _ (newTuple [rv] >>= _) _ _ _
      refine wpAny_bind ?_
      unfold newTuple
      refine wpAny_newObj_type ?_ (by size_fits)
      unfold Builtin.BaseException.bexcPut
      refine wpAny_bind (wpAny_bind (wpAny_field ho1 rfl (x := v0) (by simpa using h0) ?_))
      refine wpAny_bind (wpAny_setField ho1 rfl (by simp [hz]) ?_)
      cases v0 with
      | ref r => exact wpAny_letGo (wpAny_pure fin)
      | _ => exact wpAny_pure (wpAny_pure fin)
end
end Mine
end
section
open PySem PySem.W PyProof.Rows PySem.Calls Builtin.ObjectAttr
namespace Mine
inductive Cut : List Str → Str → List (Option AV) → List (Option AV) → Prop
  | z {x r o l} : Cut (x :: r) x (o :: l) (none :: l)
  | s {x y r o l l'} : Cut r x l l' → Cut (y :: r) x (o :: l) (o :: l')
theorem Cut.idx {ns : List Str} {x : Str} {l l' : List (Option AV)} (h : Cut ns x l l') : ∃ i, Idx ns x i ∧ l' = l.set i none := by
  induction h with
  | z => exact ⟨0, .z, rfl⟩
  | s _ ih => obtain ⟨i, a, b⟩ := ih; exact ⟨i + 1, .s a, by simp [b]⟩
inductive GoP (ns : List Str) (x : Str) (P : St → Prop) : St → Prop
  | mk {l l' : List (Option AV)} {H : AH} : Cut ns x l l' → P ⟨l', H⟩ → GoP ns x P ⟨l, H⟩
section
variable {B : BC} {f : Fc} {n : Nat} {hd : Option Value} {X : Addr → St → Prop} {σ σ₀ : St} {s s₀ : Shared} {N : St → Prop} {K : AFlow → St → Prop} {A : Around} {E : Value → Shared → Prop} {ns : List Str}
set_option tactic.hygienic true in
theorem set_get_none {l : List (Option AV)} {i j : Nat} {u : AV} (h : (l.set i none)[j]? = some (some u)) : i ≠ j ∧ l[j]? = some (some u) := by
  rw [List.getElem?_set] at h
  split at h
  · split at h <;> cases h
  · rename_i q; exact ⟨q, h⟩
theorem ns_fun {h : Heap} {a : Addr} {m m' : Str → Option Value} (x : h.Ns a m) (y : h.Ns a m') : m = m' := by
  obtain ⟨o, es, ep, a1, a2, a3, a4⟩ := x
  obtain ⟨o', es', ep', b1, b2, b3, b4⟩ := y
  rw [a1] at b1; cases b1
  rw [a2] at b2; cases b2
  funext z; rw [← a4, ← b4]
theorem name_goes {x : Str} {pos : Pos} {Q : Unit → Shared → Prop} (hp : Plain f) (hn : f.names = ns) {l' : List (Option AV)} (hc : Cut ns x σ.loc l') (hs : RS B f σ s)
    (k : ∀ s', RS B f ⟨l', σ.H⟩ s' → SStep f σ s ⟨l', σ.H⟩ s' → Q () s') : wpAny (model B.prog B.w) A (do bindName f.env x .none; unbindBehindTheSuite f.env x pos) Q E s := by
  obtain ⟨i, hi, rfl⟩ := hc.idx
  rw [← hn] at hi
  have hl : f.env.kindOf x = some .local := hp.2 x hi.mem
  have hpp : (f.env.scope.kind == .class || (f.env.scope.kind == .module && f.env.locals != f.env.globals)) = false := by rw [hs.ok.kind]; rfl
  have hb : (f.env.locals = f.L ∧ f.env.locals = f.L) ∨ f.env.locals ∈ f.own := hs.ok.loc.imp (fun e => ⟨e, e⟩) id
  obtain ⟨m, hm⟩ := hs.ns
  refine wpAny_bind (PyProof.Rows.bindName_ (wpAny_storeName_local hl hm (fun h₁ hn₁ hs₁ => ?_) hpp))
  unfold unbindBehindTheSuite
  refine wpAny_onRaise (wpAny_unbindName_local hl hn₁ (if_pos rfl) hpp fun h₂ u hn₂ hs₂ => ?_)
  have hsb : Heap.SameBut f.env.locals s.heap h₂ := hs₁.trans hs₂
  have hob : ∃ o', h₂.get? f.env.locals = some o' ∧ ∀ vs, o'.data ≠ .fields vs := by
    obtain ⟨o, es, ep, ho, hd, _⟩ := hn₂
    exact ⟨o, ho, fun vs q => by rw [hd] at q; cases q⟩
  have st := own_step hs hb hsb (hob.imp fun _ x => x.1) (own_off hs hb).1 (own_off hs hb).2
  have hloc : ∀ (j : Nat) (y : Str) (v : AV), f.names[j]? = some y → (σ.loc.set i none)[j]? = some (some v) → ∃ rv, NameIs f h₂ y rv ∧ VR B.prog B.w (PP f σ.H) h₂ v rv := fun j y v hj hv => by
    obtain ⟨ne, hv⟩ := set_get_none hv
    obtain ⟨rv, hnm, hr⟩ := hs.loc j y v hj hv
    have hxy : y ≠ x := nd_lookup_ne hs.ok.nd hj hi.get (Ne.symm ne)
    refine ⟨rv, ?_, hr.step st⟩
    rcases hnm with ⟨hk', m', hm', e⟩ | ⟨hk', _⟩
    · refine .inl ⟨hk', _, hn₂, ?_⟩
      simp only [if_neg hxy]; rw [ns_fun hm hm']; exact e
    · have := hp.2 y (List.mem_of_getElem? hj)
      rcases hk' with q | q <;> rw [this] at q <;> cases q
  have hcel : ∀ x c, x ∈ f.names → (f.env.kindOf x = some .cell ∨ f.env.kindOf x = some .free) → f.env.cells.lookup x = some c → ∃ o, h₂.get? c = some o ∧ ∃ ov, o.data = .cell ov := fun y c hy hk _ => by
    have := hp.2 y hy
    rcases hk with q | q <;> rw [this] at q <;> cases q
  have q := hs.ownChange (tk := s.toks + 1) (loc' := σ.loc.set i none) hb hsb hob ⟨_, hn₂⟩ hcel hloc
  exact k _ q.1 q.2
structure Ct (K : Frag) (C Cl : Addr) (b : Bool) : Prop where
  sub : subIn K (.ref C) (.ref Cl) = some b
  ty : typeIn K (.ref Cl) = some (.type "type")
  ex : subIn K (.ref Cl) (.type "BaseException") = some true
  cl : (clsIn K Cl).isSome = true
set_option tactic.hygienic true in
theorem matches_K {M : Model} {K' : Frag} (X : K'.In s.heap) {a C Cl : Addr} {o : Obj} {b : Bool} {Q : Bool → Shared → Prop} (ha : s.heap.get? a = some o) (hc : o.cls = .ref C) (hC : Ct K' C Cl b) (q : Q b s) : wpAny M A (excMatches (.ref a) (.ref Cl)) Q E s := by
  obtain ⟨cd, hcl⟩ := Option.isSome_iff_exists.mp hC.cl
  have L1 : Looks M s.heap (isInstance (.ref Cl) (.type "tuple")) false := Looks.andThen (looks_typeIn X hC.ty) (Looks.of_pure (by rw [isSubtype_type]; kernel_rfl))
  have L2 : Looks M s.heap (isType (.ref Cl)) true := by
    unfold clsIn at hcl
    split at hcl
    · rename_i ho; exact (Looks.ld (X _ _ ho)).andThen .now
    · cases hcl
  have L3 : Looks M s.heap (isExcClass (.ref Cl)) true := by
    unfold isExcClass
    refine Looks.andThen L2 ?_
    rw [if_pos rfl]; exact looks_subIn X hC.ex
  have L4 : Looks M s.heap (typeOf (.ref a)) (.ref C) := hc ▸ (Looks.ld ha).andThen .now
  have L5 : Looks M s.heap (isSubtype (.ref C) (.ref Cl)) b := looks_subIn X hC.sub
  unfold excMatches
  refine wpAny_bind (L1.here ?_)
  rw [if_neg (by decide)]
  refine wpAny_bind (wpAny_pure ?_)
  refine wpAny_bind ?_
  rw [List.forIn_cons]
  refine wpAny_bind (wpAny_bind (L3.here ?_))
  simp only [Bool.not_true, Bool.false_eq_true, if_false]
  first | refine wpAny_pure (wpAny_pure ?_) | refine wpAny_pure ?_
  first | refine wpAny_bind (L4.here ?_) | (refine wpAny_pure ?_; refine wpAny_bind (L4.here ?_))
  refine wpAny_bind ?_
  rw [List.forIn_cons]
  refine wpAny_bind (wpAny_bind (L5.here ?_))
  cases b with
  | true =>
    rw [if_pos rfl]
    refine wpAny_pure ?_
    first | exact wpAny_pure (wpAny_pure q) | exact wpAny_pure q
  | false =>
    rw [if_neg (by decide)]
    refine wpAny_pure ?_
    first | exact wpAny_pure (wpAny_pure q) | exact wpAny_pure q
inductive HdP (B : BC) (f : Fc) (n : Nat) (ns : List Str) (N : St → Prop) (K : AFlow → St → Prop) (X : Addr → St → Prop) (a : Addr) (σ : St) : List ExceptHandler → Prop
  | nil : X a σ → HdP B f n ns N K X a σ []
  | skip {x : Str} {p pos : Pos} {nm : Option Str} {b₀ : Stmt} {suite : List Stmt} {rest : List ExceptHandler} {C Cl : Addr} {d : Option Addr} : σ.H a = some (.exc C d true) → GHas f.gl x (.ref Cl) → Ct B.K C Cl false →
      HdP B f n ns N K X a σ rest → HdP B f n ns N K X a σ (.ExceptHandler (some (.Name x p)) nm (b₀ :: suite) pos :: rest)
  | hit {x : Str} {p pos : Pos} {b₀ : Stmt} {suite : List Stmt} {rest : List ExceptHandler} {C Cl : Addr} {d : Option Addr} : σ.H a = some (.exc C d true) → GHas f.gl x (.ref Cl) → Ct B.K C Cl true →
      ES B f n (some (.ref a)) (execs (b₀ :: suite) f.env) σ N K X → HdP B f n ns N K X a σ (.ExceptHandler (some (.Name x p)) none (b₀ :: suite) pos :: rest)
  | hitAs {x nm : Str} {p pos : Pos} {b₀ : Stmt} {suite : List Stmt} {rest : List ExceptHandler} {C Cl : Addr} {d : Option Addr} : σ.H a = some (.exc C d true) → GHas f.gl x (.ref Cl) → Ct B.K C Cl true →
      Sto ns nm (.ref a) (fun σ₁ => ES B f n (some (.ref a)) (execs (b₀ :: suite) f.env) σ₁ (GoP ns nm N) (fun v => GoP ns nm (K v)) (fun b => GoP ns nm (X b))) σ → HdP B f n ns N K X a σ (.ExceptHandler (some (.Name x p)) (some nm) (b₀ :: suite) pos :: rest)
theorem mark_ok (hA : AOk f n none A) (a : Addr) : AOk f n (some (.ref a)) (A.mark (some (.ref a))) := ⟨hA.frames, rfl, hA.depth, hA.units⟩
theorem pass_on {α : Type} {what : String} {a C : Addr} {d : Option Addr} (hs : RS B f σ s) (st : SStep f σ₀ s₀ σ s) (ha : σ.H a = some (.exc C d true)) (q : X a σ) {Q : α → Shared → Prop} : wpAny (model B.prog B.w) A (PySem.passOn what (.ref a) f.env) Q (ErP B f σ₀ s₀ X) s := by
  obtain ⟨vs, ho, hz, hv⟩ := exc_real hs ha
  rcases hv with ⟨z, _⟩ | ⟨_, T, h1, hT⟩
  · cases z
  · unfold PySem.passOn
    refine wpAny_bind (wpAny_field ho rfl (by simpa using h1) ?_)
    rw [if_neg (by simp)]
    exact wpAny_bind (set_flight hs ha fun s' h' st' => wpAny_throw ⟨a, σ, C, d, true, h', st.trans st', ha, by rw [put_self ha]; exact q⟩)
theorem noted_er {e : Value} {s' : Shared} {A' : Around} (hA : A'.frames = some f.Fs) (hs : f.env.frame = some f.L) (x : ErP B f σ s X e s') : notedBy (model B.prog B.w) A' f.env (cameBackBy (model B.prog B.w) A f.env (ErP B f σ s X)) e s' :=
  x.note (Q := fun e s'' => cameBackBy (model B.prog B.w) A f.env (ErP B f σ s X) e s'') hA hs fun _ q => ErT.came q
theorem GoP.to {x : Str} {P : St → Prop} (h : GoP ns x P σ) : ∃ l', Cut ns x σ.loc l' ∧ P ⟨l', σ.H⟩ := by
  cases h with | mk c p => exact ⟨_, c, p⟩
theorem handle_go (hp : Plain f) (hn : f.names = ns) {hs : List ExceptHandler} {a : Addr} {σ : St} (h : HdP B f n ns N K X a σ hs) (hA : AOk f n none A) : ∀ {s : Shared}, RS B f σ s → SStep f σ₀ s₀ σ s → (∃ C d, σ.H a = some (.exc C d true)) →
    wpAny (model B.prog B.w) A (handleBy (.ref a) f.env hs) (OkP B f (frel B) σ₀ s₀ (nk N K)) (ErP B f σ₀ s₀ X) s := by
  induction h with
  | nil h => exact fun r st ⟨C, d, hc⟩ => wpAny_handleBy_nil (pass_on r st hc h)
  | skip hc g ct _ ih =>
    intro s r st hx
    refine wpAny_handleBy_cons (codeAny_handlers_test (glob_at g r fun rv hrv => hrv.eRef ?_)) (by intro q; cases q)
    obtain ⟨vs, ho, _⟩ := exc_real r hc
    exact matches_K (kin r) ho rfl ct (ih r st hx)
  | hit hc g ct h =>
    intro s r st hx
    refine wpAny_handleBy_cons (codeAny_handlers_test (glob_at g r fun rv hrv => hrv.eRef ?_)) (by intro q; cases q)
    obtain ⟨vs, ho, _⟩ := exc_real r hc
    refine matches_K (kin r) ho rfl ct ?_
    refine codeAny_handlers_suite (set_flight r hc fun s₁ r₁ st₁ => ?_)
    refine wpAny_mono (h (A.mark (some (.ref a))) s₁ (mark_ok hA a) r₁) (fun fl s₂ q => q.back (st.trans st₁)) fun e s₂ q => ?_
    exact noted_er (A' := A.mark (some (.ref a))) hA.frames r.ok.fr (q.back (st.trans st₁))
  | @hitAs x nm p pos b₀ suite rest C Cl d hc g ct h =>
    intro s r st hx
    refine wpAny_handleBy_cons (codeAny_handlers_test (glob_at g r fun rv hrv => hrv.eRef ?_)) (by intro q; cases q)
    obtain ⟨vs, ho, _⟩ := exc_real r hc
    refine matches_K (kin r) ho rfl ct ?_
    obtain ⟨i, hi, h⟩ := h.to
    refine codeAny_handlers_suite_as (set_flight r hc fun s₁ r₁ st₁ => ?_)
    refine wpAny_mono (store_name (Q := fun σ' => σ' = ⟨σ.loc.set i (some (.ref a)), σ.H⟩) (hn ▸ hi) rfl r₁ (.ref a)) (fun u s₂ ⟨_, σ', r₂, st₂, _, e⟩ => ?_) fun _ _ q => q
    subst e
    have stt := (st.trans st₁).trans st₂
    refine wpAny_mono (h (A.mark (some (.ref a))) s₂ (mark_ok hA a) r₂) (fun fl s₃ q => ?_) fun e s₃ q => ?_
    · obtain ⟨v, σ₃, r₃, st₃, hr, q⟩ := q
      have key : ∀ (P : St → Prop), GoP ns nm P σ₃ → (∀ s' l', RS B f ⟨l', σ₃.H⟩ s' → SStep f σ₀ s₀ ⟨l', σ₃.H⟩ s' → frel B (PP f σ₃.H) s'.heap v fl → P ⟨l', σ₃.H⟩ → OkP B f (frel B) σ₀ s₀ (nk N K) fl s') →
          wpAny (model B.prog B.w) A (do bindName f.env nm .none; unbindBehindTheSuite f.env nm pos) (fun _ s₅ => OkP B f (frel B) σ₀ s₀ (nk N K) fl s₅) (ErP B f σ₀ s₀ X) s₃ := fun P gp k => by
        obtain ⟨l', hcut, hP⟩ := gp.to
        exact name_goes hp hn hcut r₃ fun s₄ r₄ st₄ => k s₄ l' r₄ ((stt.trans st₃).trans st₄) (hr.step st₄) hP
      cases v with
      | next => exact key N q fun s' l' a1 a2 a3 a4 => ⟨.next, _, a1, a2, a3, a4⟩
      | brk => exact key (K .brk) q fun s' l' a1 a2 a3 a4 => ⟨.brk, _, a1, a2, a3, a4⟩
      | cont => exact key (K .cont) q fun s' l' a1 a2 a3 a4 => ⟨.cont, _, a1, a2, a3, a4⟩
      | ret w => exact key (K (.ret w)) q fun s' l' a1 a2 a3 a4 => ⟨.ret w, _, a1, a2, a3, a4⟩
    · refine q.note (A' := A.mark (some (.ref a))) (Q := fun e s₄ => wpAny (model B.prog B.w) (A.mark (some (.ref a))) (do bindName f.env nm .none; unbindBehindTheSuite f.env nm pos)
          (fun _ s₄' => wpAny (model B.prog B.w) (A.mark (some (.ref a))) (PySem.passOn "try.except-as" e f.env : Sem Flow) (fun _ _ => False) (notedBy (model B.prog B.w) (A.mark (some (.ref a))) f.env fun x s' => cameBackBy (model B.prog B.w) A f.env (ErP B f σ₀ s₀ X) x s') s₄')
          (fun y s₄' => wpAny (model B.prog B.w) (A.mark (some (.ref a))) (setFlight e none) (fun _ s₅ => (notedBy (model B.prog B.w) (A.mark (some (.ref a))) f.env fun x s' => cameBackBy (model B.prog B.w) A f.env (ErP B f σ₀ s₀ X) x s') y s₅) (notedBy (model B.prog B.w) (A.mark (some (.ref a))) f.env fun x s' => cameBackBy (model B.prog B.w) A f.env (ErP B f σ₀ s₀ X) x s') s₄') s₄) hA.frames r.ok.fr fun s₄ q' => ?_
      clear q
      obtain ⟨b, σ₃, C', d', r₃, st₃, hcb, gp⟩ := q'
      obtain ⟨l', hcut, hP⟩ := gp.to
      refine name_goes hp hn hcut r₃ fun s₅ r₅ st₅ => ?_
      exact wpAny_mono (pass_on (σ := ⟨l', σ₃.H⟩) (X := X) r₅ ((stt.trans st₃).trans st₅) hcb hP (Q := fun _ _ => False)) (fun _ _ q => q) fun e s₆ q => noted_er (A' := A.mark (some (.ref a))) hA.frames r.ok.fr q
theorem r_try {body : List Stmt} {h₀ : ExceptHandler} {hs : List ExceptHandler} {pos : Pos} (hp : Plain f) (hn : f.names = ns) (h : ES B f n none (execs body f.env) σ N K (fun a σ₁ => HdP B f n ns N K X a σ₁ (h₀ :: hs))) : ES B f n none (exec (.Try body (h₀ :: hs) [] [] pos) f.env) σ N K X := fun A s hA r =>
  wpAny_Try_except (wpAny_mono (h A s hA r) (fun fl s₁ q => by
    cases fl with
    | next => exact wpAny_execs_nil q
    | _ => exact q) fun e s₁ q₀ => by
      refine q₀.note (A' := A) (Q := fun e s₂ => wpAny (model B.prog B.w) A (setFlight e none) (fun _ s₃ => wpAny (model B.prog B.w) A (handleBy e f.env (h₀ :: hs)) (OkP B f (frel B) σ s (nk N K)) (ErP B f σ s X) s₃) (ErP B f σ s X) s₂) hA.frames r.ok.fr fun s₂ q => ?_
      clear q₀
      obtain ⟨a, σ₁, C, d, r₁, st₁, hc, q⟩ := q
      exact set_flight r₁ hc fun s₃ r₃ st₃ => handle_go hp hn q hA r₃ (st₁.trans st₃) ⟨C, d, hc⟩)
theorem ErT.note {e : Value} {s' : Shared} {A' : Around} (hA : A'.frames = some f.Fs) (x : ErT B f σ s X e s') {env : Env} (hf : env.frame = some f.L) {Q : Value → Shared → Prop} (h : ∀ s'', ErT B f σ s X e s'' → Q e s'') :
    wpAny (model B.prog B.w) A' (noteFrame e env) (fun _ s'' => Q e s'') E s' := x.er.note hA hf h
theorem r_finally {body : List Stmt} {f₀ : Stmt} {fs : List Stmt} {pos : Pos}
    (h : ES B f n none (execs body f.env) σ (fun σ₁ => ES B f n none (execs (f₀ :: fs) f.env) σ₁ N K X) (fun v σ₁ => ES B f n none (execs (f₀ :: fs) f.env) σ₁ (K v) K X)
      (fun a σ₁ => ES B f n (some (.ref a)) (execs (f₀ :: fs) f.env) σ₁ (fun σ₂ => (∃ C d, σ₂.H a = some (.exc C d true)) ∧ X a σ₂) (fun _ _ => False) X)) :
    ES B f n none (exec (.Try body [] [] (f₀ :: fs) pos) f.env) σ N K X := fun A s hA r => by
  have plain : ∀ (fl : Flow) (s₁ : Shared) (v : AFlow) (σ₁ : St), RS B f σ₁ s₁ → SStep f σ s σ₁ s₁ → frel B (PP f σ₁.H) s₁.heap v fl → ES B f n none (execs (f₀ :: fs) f.env) σ₁ (nk N K v) K X →
      wpAny (model B.prog B.w) A (execs (f₀ :: fs) f.env) (fun g s' => match g with | .next => OkP B f (frel B) σ s (nk N K) fl s' | g => OkP B f (frel B) σ s (nk N K) g s') (notedBy (model B.prog B.w) A f.env (cameBackBy (model B.prog B.w) A f.env (ErP B f σ s X))) s₁ := fun fl s₁ v σ₁ r₁ st₁ hr q => by
    refine wpAny_mono (q A s₁ hA r₁) (fun g s₂ q => ?_) fun e s₂ q => noted_er hA.frames r.ok.fr (q.back st₁)
    obtain ⟨w, σ₂, r₂, st₂, hr₂, q⟩ := q
    cases hr₂ with
    | next => exact ⟨v, σ₂, r₂, st₁.trans st₂, hr.step st₂, q⟩
    | brk => exact ⟨.brk, σ₂, r₂, st₁.trans st₂, .brk, q⟩
    | cont => exact ⟨.cont, σ₂, r₂, st₁.trans st₂, .cont, q⟩
    | ret hw => exact ⟨.ret _, σ₂, r₂, st₁.trans st₂, .ret hw, q⟩
  refine wpAny_Try_finally (wpAny_mono (h A s hA r) (fun fl s₁ q => ?_) fun e s₁ q₀ => ?_)
  · obtain ⟨v, σ₁, r₁, st₁, hr, q⟩ := q
    cases hr with
    | next => exact wpAny_execs_nil (plain .next s₁ .next σ₁ r₁ st₁ .next q)
    | brk => exact plain .brk s₁ .brk σ₁ r₁ st₁ .brk q
    | cont => exact plain .cont s₁ .cont σ₁ r₁ st₁ .cont q
    | ret hw => exact plain (.ret _) s₁ _ σ₁ r₁ st₁ (.ret hw) q
  · refine q₀.note (A' := A) (Q := fun e s₂ => FinallyRaised B.prog B.w A (ErP B f σ s X) f.env (f₀ :: fs) (OkP B f (frel B) σ s (nk N K)) e s₂) hA.frames r.ok.fr fun s₂ q => ?_
    refine ⟨by obtain ⟨a, _⟩ := q; exact ref_ne_byPass a, ?_⟩
    refine ErT.note (A' := A) (Q := fun e s₂ => wpAny (model B.prog B.w) A (setFlight e none) (fun _ s₁ =>
      wpAny (model B.prog B.w) (A.mark (some e)) (execs (f₀ :: fs) f.env)
        (fun g s₂ => match g with | .next => wpAny (model B.prog B.w) A (PySem.passOn "try.finally" e f.env) (OkP B f (frel B) σ s (nk N K)) (ErP B f σ s X) s₂ | g => wpAny (model B.prog B.w) A (setFlight e none) (fun _ s₃ => OkP B f (frel B) σ s (nk N K) g s₃) (ErP B f σ s X) s₂) (notedBy (model B.prog B.w) (A.mark (some e)) f.env (cameBackBy (model B.prog B.w) A f.env (ErP B f σ s X))) s₁) (ErP B f σ s X) s₂) hA.frames q r.ok.fr fun s₃ q' => ?_
    clear q q₀
    obtain ⟨a, σ₁, C, d, r₁, st₁, hc, q⟩ := q'
    refine set_flight r₁ hc fun s₄ r₄ st₄ => ?_
    refine wpAny_mono (q (A.mark (some (.ref a))) s₄ (mark_ok hA a) r₄) (fun g s₅ q => ?_) fun e s₅ q => noted_er (A' := A.mark (some (.ref a))) hA.frames r.ok.fr (q.back (st₁.trans st₄))
    obtain ⟨w, σ₂, r₂, st₂, hr₂, q⟩ := q
    cases hr₂ with
    | next =>
      obtain ⟨⟨C', d', hc'⟩, q⟩ := q
      exact pass_on r₂ ((st₁.trans st₄).trans st₂) hc' q
    | _ => exact q.elim
end
end Mine
end
section
open PySem PySem.W PyProof.Rows PySem.Calls Builtin.ObjectAttr
namespace Mine
section
variable {B : BC} {f : Fc} {n : Nat} {hd : Option Value} {X : Addr → St → Prop} {σ σ₀ : St} {s s₀ : Shared} {N : St → Prop} {K : AFlow → St → Prop} {A : Around} {E : Value → Shared → Prop} {P : Addr → Prop} {h : Heap}
theorem new_ne (hs : RS B f σ s) : s.heap.objs.size ≠ sysModules := Nat.ne_of_gt (modules_low (B.hl.keeps hs.rh.base))
theorem valueAt_lookup {kvs : List (Str × Value)} {x : Str} : valueAt kvs x = kvs.lookup x := by
  unfold valueAt
  induction kvs with
  | nil => rfl
  | cons p r ih =>
    obtain ⟨y, u⟩ := p
    rw [List.find?_cons, List.lookup_cons]
    by_cases e : y = x
    · subst e; simp
    · have e' : ¬ x = y := fun q => e q.symm
      simp only [e, decide_false, beq_eq_false_iff_ne.mpr e']
      exact ih
theorem VRd.ofKeys {es : List (Str × AV)} {kvs : List (Str × Value)} (r : VRd B.prog B.w P h es kvs) (nd : (kvs.map (·.1)).Nodup) : (es.map (·.1)).Nodup := r.keys ▸ nd
theorem dict_nd {a : Addr} {kvs : List (Str × Value)} (hd : h.DictOf (strKind B.prog B.w) a kvs) : (kvs.map (·.1)).Nodup := let ⟨_, _, _, _, _, _, _, _, hn⟩ := hd; hn
theorem any_key {l : List (Str × Value)} {x : Str} : (l.any fun kv => kv.1 = x) = true ↔ x ∈ l.map (·.1) := by
  rw [List.any_eq_true, List.mem_map]
  constructor
  · rintro ⟨p, m, e⟩; exact ⟨p, m, of_decide_eq_true e⟩
  · rintro ⟨p, m, e⟩; exact ⟨p, m, decide_eq_true e⟩
theorem stored_put {x : Str} {v : AV} {rv : Value} (hv : VR B.prog B.w P h v rv) {es es' : List (Str × AV)} (p : PutN es x v es') : ∀ {kvs : List (Str × Value)}, VRd B.prog B.w P h es kvs → (es.map (·.1)).Nodup →
    VRd B.prog B.w P h es' (kvs.map fun kv => if kv.1 = x then (kv.1, rv) else kv) := by
  induction p with
  | @z x u v r =>
    intro _ q nd
    have nd := List.nodup_cons.mp nd
    refine q.ec fun ru kvs a b => ?_
    have e : (kvs.map fun kv => if kv.1 = x then (kv.1, rv) else kv) = kvs.map id := List.map_congr_left fun kv hm => if_neg fun q => nd.1 (by show x ∈ _; rw [← q, ← b.keys]; exact List.mem_map_of_mem hm)
    rw [List.map_cons, if_pos rfl, e, List.map_id]
    exact .cons hv b
  | @s x y u v r r' p ih =>
    intro _ q nd
    have nd := List.nodup_cons.mp nd
    refine q.ec fun ru kvs a b => ?_
    rw [List.map_cons, if_neg (fun q => nd.1 (by show y ∈ _; rw [show y = x from q]; exact p.keys.2))]
    exact .cons a (ih hv b nd.2)
theorem isStr {x : Str} {t : Tok} : (strKind B.prog B.w).is x (.str x t) = true := by
  show Value.isStrOf x (.str x t) = true
  simp [Value.isStrOf]
section
variable {d : Addr} {es es' : List (Str × AV)} {x : Str} {v : AV} {Q : AV → St → Prop}
inductive DAt (B : BC) (h : Heap) (d : Addr) (x : Str) (G : Option Value → Prop) : Prop
  | mk (kvs : List (Str × Value)) (o : Option Value) : h.DictOf (strKind B.prog B.w) d kvs → (d == sysModules) = false → valueAt kvs x = o → G o → DAt B h d x G
theorem dict_has (hs : RS B f σ s) (hc : σ.H d = some (.dict es)) (g : GHas es x v) : DAt B s.heap d x (fun o => ∃ rv, o = some rv ∧ VR B.prog B.w (PP f σ.H) s.heap v rv) := by
  obtain ⟨m, _, kvs, hk, hv⟩ := hs.rh.cells d _ hc
  obtain ⟨rv, e, hr⟩ := hv.has g (hv.ofKeys (dict_nd hk))
  exact ⟨kvs, _, hk, beq_eq_false_iff_ne.mpr m, valueAt_lookup.trans e, rv, rfl, hr⟩
theorem dict_hasnt (hs : RS B f σ s) (hc : σ.H d = some (.dict es)) (hx : (es.map (·.1)).all (fun y => !(y == x)) = true) : DAt B s.heap d x (fun o => o = none) := by
  obtain ⟨m, _, kvs, hk, hv⟩ := hs.rh.cells d _ hc
  refine ⟨kvs, _, hk, beq_eq_false_iff_ne.mpr m, valueAt_lookup.trans ?_, rfl⟩
  cases e : kvs.lookup x with
  | none => rfl
  | some v => exact absurd (hv.keys ▸ lookup_mem e) (not_key hx)
theorem o_in_d (hc : σ.H d = some (.dict es)) (g : GHas es x v) (q : Q (.bool true) σ) : EO2 B f n hd (vrel B) (.str x) (.ref d) (compareOp .In) σ Q X := EO2.of (.bool true) (fun A s r u _ hs h1 h2 => h1.eStr fun t => h2.eRef (by
  obtain ⟨kvs, _, hk, m, e, rv, rfl, _⟩ := dict_has hs hc g
  exact wpAny_in_of (knd := strKind B.prog B.w) isStr m hk.mapOf (TK.t (by rw [e]; exact .bool true)))) q
theorem o_notin_d (hc : σ.H d = some (.dict es)) (g : GHas es x v) (q : Q (.bool false) σ) : EO2 B f n hd (vrel B) (.str x) (.ref d) (compareOp .NotIn) σ Q X := EO2.of (.bool false) (fun A s r u _ hs h1 h2 => h1.eStr fun t => h2.eRef (by
  obtain ⟨kvs, _, hk, m, e, rv, rfl, _⟩ := dict_has hs hc g
  exact wpAny_notIn_of (knd := strKind B.prog B.w) isStr m hk.mapOf (TK.t (by rw [e]; exact .bool false)))) q
theorem o_notin_d_new (hc : σ.H d = some (.dict es)) (hx : (es.map (·.1)).all (fun y => !(y == x)) = true) (q : Q (.bool true) σ) : EO2 B f n hd (vrel B) (.str x) (.ref d) (compareOp .NotIn) σ Q X := EO2.of (.bool true) (fun A s r u _ hs h1 h2 => h1.eStr fun t => h2.eRef (by
  obtain ⟨kvs, _, hk, m, e, rfl⟩ := dict_hasnt hs hc hx
  exact wpAny_notIn_of (knd := strKind B.prog B.w) isStr m hk.mapOf (TK.t (by rw [e]; exact .bool true)))) q
theorem o_item_d {value slice : Expr} (hc : σ.H d = some (.dict es)) (g : GHas es x v) (q : Q v σ) : EO2 B f n hd (vrel B) (.ref d) (.str x) (subscriptTail value slice) σ Q X := EO2.of v (fun A s r u _ hs h1 h2 => h1.eRef (h2.eStr fun t => by
  obtain ⟨kvs, _, hk, m, e, rv, rfl, hr⟩ := dict_has hs hc g
  exact tail_go hk.typeIs slot_dict_getitem.lookup (wpAny_getItem_of (knd := strKind B.prog B.w) isStr hk.mapOf e (TK.t hr)))) q
theorem o_get_d (hc : σ.H d = some (.dict es)) (g : GHas es x v) (q : Q v σ) : EO2 B f n hd (vrel B) (.ref d) (.str x) getItem σ Q X := EO2.of v (fun A s r u _ hs h1 h2 => h1.eRef (h2.eStr fun t => by
  obtain ⟨kvs, _, hk, m, e, rv, rfl, hr⟩ := dict_has hs hc g
  exact wpAny_getItem_of (knd := strKind B.prog B.w) isStr hk.mapOf e (TK.t hr))) q
theorem dict_done {α : Type} {α' : Type} {R : RelT α α'} {r : α} {v' : α'} {Q : α' → St → Prop} (hs : RS B f σ s) {h' : Heap} {tk : Nat} {kvs' : List (Str × Value)} (hc : σ.H d = some (.dict es)) (nz : es'.length ≤ 1000) (hk : h'.DictOf (strKind B.prog B.w) d kvs') (hsb : Heap.SameBut d s.heap h')
    (hv : VRd B.prog B.w (PP f σ.H) s.heap es' kvs') (hr : R (PP f (σ.H.put d (some (.dict es')))) h' v' r) (q : Q v' ⟨σ.loc, σ.H.put d (some (.dict es'))⟩) : OkP B f R σ s Q r { s with heap := h', toks := tk } := by
  have ha : ∃ o, h'.get? d = some o := by obtain ⟨o, _, _, e, _⟩ := hk; exact ⟨o, e⟩
  have st := upd_step (tk := tk) (c := .dict es') hs hc ha hsb
  obtain ⟨m, _⟩ := hs.rh.cells d _ hc
  exact ⟨v', _, hs.upd (tk := tk) (c := .dict es') hc ha hsb ⟨m, nz, kvs', hk, hv.step st⟩, st, hr, q⟩
theorem o_set_d {Q : Unit → St → Prop} (hc : σ.H d = some (.dict es)) (hp : PutN es x v es') (q : Q () ⟨σ.loc, σ.H.put d (some (.dict es'))⟩) : EO3 B f n hd (idrel (α := Unit)) (.ref d) (.str x) v setItem σ Q X := fun A s r u w hA hs h1 h2 h3 => by
  refine h1.eRef (h2.eStr fun t => ?_)
  obtain ⟨m, nz, kvs, hk, hv⟩ := hs.rh.cells d _ hc
  have hl : es'.length = es.length := by have := congrArg List.length hp.keys.1; simpa using this
  refine wpAny_setItem_pairs (knd := strKind B.prog B.w) isStr hk (fun h' hk' hsb => ?_) (by rw [hv.len]; exact Nat.le_trans nz (by decide))
  have e : stored kvs x w = kvs.map fun kv => if kv.1 = x then (kv.1, w) else kv := by
    unfold stored
    rw [if_pos]
    exact any_key.mpr (by rw [hv.keys]; exact hp.keys.2)
  rw [e] at hk'
  exact dict_done hs hc (by omega) hk' hsb (stored_put h3 hp hv (hv.ofKeys (dict_nd hk))) rfl q
theorem o_new_d {Q : Unit → St → Prop} (hc : σ.H d = some (.dict es)) (hz : short 900 es = true) (hx : (es.map (·.1)).all (fun y => !(y == x)) = true) (q : Q () ⟨σ.loc, σ.H.put d (some (.dict (es ++ [(x, v)])))⟩) : EO3 B f n hd (idrel (α := Unit)) (.ref d) (.str x) v setItem σ Q X := fun A s r u w hA hs h1 h2 h3 => by
  refine h1.eRef (h2.eStr fun t => ?_)
  obtain ⟨m, nz, kvs, hk, hv⟩ := hs.rh.cells d _ hc
  have hl := short_le hz
  refine wpAny_setItem_pairs (knd := strKind B.prog B.w) isStr hk (fun h' hk' hsb => ?_) (by rw [hv.len]; exact Nat.le_trans nz (by decide))
  have e : stored kvs x w = kvs ++ [(x, w)] := by
    unfold stored
    rw [if_neg]
    intro q
    exact not_key hx (by rw [← hv.keys]; exact any_key.mp q)
  rw [e] at hk'
  exact dict_done hs hc (by simp; omega) hk' hsb (hv.snoc h3 (not_key hx)).1 rfl q
end
theorem r_dict0 {pos : Pos} {Q : AV → St → Prop} (q : ∀ d, σ.H d = none → Q (.ref d) ⟨σ.loc, σ.H.put d (some (.dict []))⟩) : EV B f n hd (eval (.Dict [] [] pos) f.env) σ Q X := fun A s hA hs => by
  refine wpAny_Dict_empty ?_
  have hk := push_keeps s.heap { cls := .type "dict", data := .dict #[] }
  have st := fresh_step (c := .dict []) (tk := s.toks) hs hk (size_none _)
  exact ⟨.ref _, _, hs.fresh (c := .dict []) (tk := s.toks) hk (size_none _) ⟨new_ne hs, by simp, [], Heap.DictOf.new _, .nil⟩, st, .ref _, q _ (H_none hs (size_none _))⟩
inductive EDs (B : BC) (f : Fc) (n : Nat) (hd : Option Value) (X : Addr → St → Prop) : List (Option Expr) → List Expr → St → (List (Str × AV) → St → Prop) → Prop
  | nil {σ : St} {Q : List (Str × AV) → St → Prop} : Q [] σ → EDs B f n hd X [] [] σ Q
  | cons {k : Expr} {ks : List (Option Expr)} {v : Expr} {vs : List Expr} {σ : St} {Q : List (Str × AV) → St → Prop} (G : AV → St → Prop) (G' : Str → AV → St → Prop) : EV B f n hd (eval k f.env) σ G X → (∀ kv σ₁, G kv σ₁ → ∃ x, kv = .str x ∧ EV B f n hd (eval v f.env) σ₁ (G' x) X) →
    (∀ x v σ₂, G' x v σ₂ → EDs B f n hd X ks vs σ₂ (fun es => Q ((x, v) :: es))) → EDs B f n hd X (some k :: ks) (v :: vs) σ Q
theorem eds_go {ks : List (Option Expr)} {vs : List Expr} {σ : St} {Q : List (Str × AV) → St → Prop} {pos : Pos} (h : EDs B f n hd X ks vs σ Q) (hA : AOk f n hd A) : ∀ {s : Shared} {k : List (Value × Value) → Shared → Prop}, RS B f σ s → SStep f σ₀ s₀ σ s →
    (∀ rs kvs es σ' s', Carries (strKind B.prog B.w) rs kvs → VRd B.prog B.w (PP f σ'.H) s'.heap es kvs → RS B f σ' s' → SStep f σ₀ s₀ σ' s' → SStep f σ s σ' s' → Q es σ' → k rs s') → wpAny (model B.prog B.w) A (evalPairs (pairTrees ks vs f.env pos)) k (ErP B f σ₀ s₀ X) s := by
  induction h with
  | nil h => exact fun hs st next => evalPairs_nil (next [] [] [] _ _ trivial .nil hs st .refl h)
  | cons G G' h h' _ ih => exact fun hs st next => pairTrees_cons_walk (h.via hA hs st fun r s₁ kv σ₁ h₁ st₁ st₁' hr q => by
      obtain ⟨x, e, q'⟩ := h' _ _ q
      subst e
      exact hr.eStr fun t => q'.via hA h₁ st₁ fun rv s₂ v σ₂ h₂ st₂ st₂' hv q => ih _ _ _ q h₂ st₂ fun rs kvs es σ₃ s₃ hc hvd h₃ st₃ st₃' q₃ => next _ ((x, rv) :: kvs) _ σ₃ s₃ ⟨isStr, rfl, hc⟩ (.cons (hv.step st₃') hvd) h₃ st₃ ((st₁'.trans st₂').trans st₃') q₃)
theorem r_dict {keys : List (Option Expr)} {values : List Expr} {pos : Pos} {Q : AV → St → Prop} (hall : keys.all (·.isSome) = true) (hl : Nat.beq keys.length values.length = true) (h0 : keys ≠ []) (hlen : Nat.ble keys.length 15 = true)
    (h : ∀ d, σ.H d = none → EDs B f n hd X keys values ⟨σ.loc, σ.H.put d (some (.dict []))⟩ (fun es σ₁ => σ₁.H d = some (.dict []) ∧ nodupB (es.map (·.1)) = true ∧ short 40 es = true ∧ Q (.ref d) ⟨σ₁.loc, σ₁.H.put d (some (.dict es))⟩)) : EV B f n hd (eval (.Dict keys values pos) f.env) σ Q X := fun A s hA hs => by
  refine wpAny_Dict_walk (knd := strKind B.prog B.w) hall (Nat.eq_of_beq_eq_true hl) h0 (Nat.le_of_ble_eq_true hlen) ?_
  have hk := push_keeps s.heap { cls := .type "dict", data := .dict #[] }
  have st := fresh_step (c := .dict []) (tk := s.toks) hs hk (size_none _)
  have hs1 := hs.fresh (c := .dict []) (tk := s.toks) hk (size_none _) ⟨new_ne hs, by simp, [], Heap.DictOf.new _, .nil⟩
  refine eds_go (h _ (H_none hs (size_none _))) hA hs1 st fun rs kvs es σ₁ s₁ hc hv h₁ st₁ _ q => ?_
  obtain ⟨hd', nd, hz, q⟩ := q
  obtain ⟨m, _, kvs0, hk0, hv0⟩ := h₁.rh.cells _ _ hd'
  have e0 : kvs0 = [] := hv0.e0 rfl
  subst e0
  refine ⟨kvs, hc, hk0, fun h' hk' hsb => ?_⟩
  have nd' : (kvs.map (·.1)).Nodup := by rw [hv.keys]; exact nodup_of nd
  rw [merged_nil_of_nodup kvs nd'] at hk'
  have hlen' : es.length ≤ 1000 := Nat.le_trans (short_le hz) (by decide)
  exact (dict_done (tk := s₁.toks + rs.length) (R := vrel B) (Q := Q) (v' := .ref _) h₁ hd' hlen' hk' hsb hv (.ref _) q).back st₁
theorem b_dict_m {args : List Expr} {x : Str} {p pos : Pos} {Q : AV → St → Prop} (hg : GHas f.gl x (.typ "dict")) (hp : args.all plainArg = true)
    (h : EL B f n none (spliced (backTo pos (starEach args f.env))) σ (fun vs σ₁ => ∃ d es, vs = [.ref d] ∧ σ₁.H d = some (.dict es) ∧ Q (.dct es) σ₁) X) : EV B f n none (eval (.Call (.Name x p) args [] pos) f.env) σ Q X := fun A s hA hs => by
  refine wpAny_Call_NameR (glob_at hg hs fun rv hrv => hrv.eTyp ?_)
  refine PyProof.Rows.callWith_type (backTo_all hp).2 (evalArgs_all (backTo_all hp).1 (h.via hA hs .refl fun rs s₁ vs σ₁ h₁ st₁ _ hr q => ?_))
  obtain ⟨d, es, e, hc, q⟩ := q
  subst e
  refine hr.e1 fun _ hr1 => hr1.eRef ?_
  · obtain ⟨m, nz, kvs, hk, hv⟩ := h₁.rh.cells d _ hc
    refine kt_call_dict (knd := strKind B.prog B.w) (beq_eq_false_iff_ne.mpr m) hk (by rw [hv.len]; exact Nat.le_trans nz (by decide)) fun h' hk' hsb => ?_
    have g := h₁.grow (tk := s₁.toks) (h' := h') (fun b o e => (hsb.2 b (Nat.ne_of_lt (Heap.lt_size e))).trans (push_keeps s₁.heap _ b o e))
    exact ⟨.dct es, σ₁, g.1, st₁.trans g.2, .dct hk' (none_dm h₁ (size_none _)) (new_ne h₁) (hv.step g.2), q⟩
end
end Mine
end
section
open PySem PySem.W PyProof.Rows PySem.Calls
namespace Mine
structure Stop (p : Prop) : Prop where
  h : p
noncomputable def br (b : Bool) (T E : Prop) : Prop := cond b T E
theorem br_of {b : Bool} {T E : Prop} (t : b = true → T) (e : b = false → E) : br b T E := by cases b; exact e rfl; exact t rfl
theorem br_t {b : Bool} {T E : Prop} (hb : b = true) (t : T) : br b T E := by subst hb; exact t
theorem br_f {b : Bool} {T E : Prop} (hb : b = false) (e : E) : br b T E := by subst hb; exact e
theorem cond_e {b : Bool} {p q C : Prop} (h : cond b p q) (k : b = true → p → C) (k' : q → C) : C := by cases b; exact k' h; exact k rfl h
theorem cond_k {b : Bool} {p C : Prop} (h : cond b p False) (k : b = true → p → C) : C := cond_e h k False.elim
theorem and_e {a b : Bool} {C : Prop} (h : (a && b) = true) (k : a = true → b = true → C) : C := by cases a; cases h; exact k rfl h
noncomputable def leq (a : List Nat) : List Nat → Bool := List.rec (fun b => b.isEmpty) (fun x _ ih b => List.casesOn b false fun y t => cond (Nat.beq x y) (ih t) false) a
theorem leq_eq {a : List Nat} : ∀ {b : List Nat}, leq a b = true → a = b := by
  induction a with
  | nil => intro b h; cases b with
    | nil => rfl
    | cons y t => cases h
  | cons x r ih => intro b h; cases b with
    | nil => cases h
    | cons y t =>
      have h : cond (Nat.beq x y) (leq r t) false = true := h
      cases e : Nat.beq x y with
      | false => rw [e] at h; cases h
      | true => rw [e] at h; rw [Nat.eq_of_beq_eq_true e, ih h]
noncomputable def seq (a b : Str) : Bool := leq a.cps.toList b.cps.toList
theorem seq_eq {a b : Str} (h : seq a b = true) : a = b := by
  cases a; cases b; exact congrArg Str.mk (Array.toList_inj.mp (leq_eq h))
noncomputable def getN (x : Str) (S G : Prop) (Q : AV → Prop) (ns : List Str) : List Bool → List (Option AV) → Prop :=
  List.rec (fun _ _ => G) (fun y _ ih ms l => List.casesOn l G fun o r => cond (seq y x) (o.elim S fun v => cond (ms.headD false) S (Q v)) (ih ms.tail r)) ns
theorem getN_s {x : Str} {S G : Prop} {Q : AV → Prop} {ns : List Str} : ∀ {ms : List Bool} {l : List (Option AV)}, getN x S G Q ns ms l → (∃ v, Got ns x l v ∧ Q v) ∨ S ∨ G := by
  induction ns with
  | nil => exact fun h => .inr (.inr h)
  | cons y r ih =>
    intro ms l h
    cases l with
    | nil => exact .inr (.inr h)
    | cons o l =>
      refine cond_e (b := seq y x) h (fun e h' => ?_) fun h' => (ih h').imp_left fun ⟨v, g, q⟩ => ⟨v, .s g, q⟩
      cases seq_eq e
      cases o with
      | none => exact .inr (.inl h')
      | some v => exact cond_e (b := ms.headD false) h' (fun _ h' => .inr (.inl h')) fun h' => .inl ⟨v, .z, h'⟩
noncomputable def getG (x : Str) (E : Prop) (Q : AV → Prop) (gl : List (Str × AV)) : Prop :=
  List.rec E (fun p _ ih => Prod.casesOn p fun y v => cond (seq y x) (Q v) ih) gl
theorem getG_s {x : Str} {E : Prop} {Q : AV → Prop} {gl : List (Str × AV)} (h : getG x E Q gl) : (∃ v, GHas gl x v ∧ Q v) ∨ E := by
  induction gl with
  | nil => exact .inr h
  | cons p r ih =>
    exact cond_e (b := seq p.1 x) h (fun e h => .inl ⟨p.2, by cases p; cases seq_eq e; exact .z, h⟩) fun h => (ih h).imp_left fun ⟨v, g, q⟩ => ⟨v, .s g, q⟩
noncomputable def putN (x : Str) (v : AV) (ns : List Str) : List (Option AV) → (List (Option AV) → Prop) → Prop :=
  List.rec (fun _ _ => False) (fun y _ ih l k => List.casesOn l False fun o r => cond (seq y x) (k (some v :: r)) (ih r fun r => k (o :: r))) ns
theorem putN_s {x : Str} {v : AV} {ns : List Str} : ∀ {l : List (Option AV)} {k : List (Option AV) → Prop}, putN x v ns l k → ∃ l', Put ns x l v l' ∧ k l' := by
  induction ns with
  | nil => exact fun h => h.elim
  | cons y r ih =>
    intro l k h
    cases l with
    | nil => exact h.elim
    | cons o l =>
      exact cond_e (b := seq y x) h (fun e h' => by cases seq_eq e; exact ⟨_, .z, h'⟩) fun h' => let ⟨l', p, q⟩ := ih h'; ⟨_, .s p, q⟩
noncomputable def wSto (ns : List Str) (x : Str) (v : AV) (N : St → Prop) (σ : St) : Prop := St.casesOn σ fun l H => putN x v ns l fun l' => N ⟨l', H⟩
theorem wSto_s {ns : List Str} {x : Str} {v : AV} {N N' : St → Prop} {σ : St} (h : wSto ns x v N σ) (hn : ∀ σ', N σ' → N' σ') : Sto ns x v N' σ := by
  cases σ; obtain ⟨l', p, q⟩ := putN_s h; exact .mk p (hn _ q)
noncomputable def onN (e : Expr) (k : Str → Pos → Prop) : Prop := match e with
  | .Name x p => k x p
  | _ => False
@[elab_as_elim] theorem onN_e {e : Expr} {k : Str → Pos → Prop} {C : Expr → Prop} (h : onN e k) (t : ∀ x p, k x p → C (.Name x p)) : C e := by
  cases e <;> first | exact t _ _ h | exact h.elim
noncomputable def wStoL (ns : List Str) (N : St → Prop) (es : List Expr) : List AV → St → Prop :=
  List.rec (fun vs σ => List.casesOn vs (N σ) fun _ _ => False) (fun e _ ih vs σ => List.casesOn vs False fun v r => onN e fun x _ => wSto ns x v (ih r) σ) es
theorem wStoL_s {ns : List Str} {N N' : St → Prop} (hn : ∀ σ', N σ' → N' σ') {es : List Expr} : ∀ {vs : List AV} {σ : St}, wStoL ns N es vs σ → StoL ns N' es vs σ := by
  induction es with
  | nil => intro vs σ h; cases vs with
    | nil => exact .nil (hn _ h)
    | cons => exact h.elim
  | cons e r ih => intro vs σ h; cases vs with
    | nil => exact h.elim
    | cons v vs =>
      have h : onN e fun x _ => wSto ns x v (fun σ => wStoL ns N r vs σ) σ := h
      exact onN_e h fun x p h => by cases σ; obtain ⟨l', p, q⟩ := putN_s h; exact .cons p (ih q)
noncomputable def noComp (e : Expr) : Bool := !(Nat.beq e.ctorIdx 8 || Nat.beq e.ctorIdx 9 || Nat.beq e.ctorIdx 10)
theorem swaps_no {e : Expr} (h : noComp e = true) (t : Option Expr) (l : Nat) (env : Env) : swapsWith e t l env = pure false := by
  cases e <;> first | rfl | cases h
noncomputable def noSet (e : Expr) : Bool := !(Nat.beq e.ctorIdx 7)
theorem marks_no {op : CmpOp} {e : Expr} (h : noSet e = true) : behindInMarks op e = false := by
  cases e <;> first | rfl | cases h
noncomputable def isTup (e : Expr) : Bool := Nat.beq e.ctorIdx 25
theorem swapped_no {ts : List Expr} {k : Nat} {tp : Pos} {v : Expr} (h : isTup v = false) (env : Env) : swappedStores [.Tuple ts k tp] v env = pure none := by
  cases v <;> first | rfl | cases h
noncomputable def strsOf : List AV → List Str
  | [] => []
  | .str x :: r => x :: strsOf r
  | _ :: r => strsOf r
noncomputable def allStr : List AV → Bool
  | [] => true
  | .str x :: r => allStr r
  | _ :: _ => false
theorem allStr_eq : ∀ {xs : List AV}, allStr xs = true → xs = (strsOf xs).map AV.str
  | [], _ => rfl
  | .str x :: r, h => by rw [strsOf, List.map_cons, ← allStr_eq (xs := r) h]
  | .none :: _, h | .bool _ :: _, h | .int _ :: _, h | .ref _ :: _, h | .blt _ :: _, h | .typ _ :: _, h | .tup _ :: _, h | .lst _ :: _, h | .dct _ :: _, h => by cases h
inductive NmP (ns : List Str) (gl : List (Str × AV)) (x : Str) : St → (AV → St → Prop) → Prop
  | loc {l : List (Option AV)} {H : AH} {v : AV} {Q : AV → St → Prop} : Got ns x l v → Q v ⟨l, H⟩ → NmP ns gl x ⟨l, H⟩ Q
  | frz {l : List (Option AV)} {H : AH} {a : Addr} {xs : List AV} {Q : AV → St → Prop} : Got ns x l (.ref a) → H a = some (.list xs) → Q (.lst xs) ⟨l, H.put a none⟩ → NmP ns gl x ⟨l, H⟩ Q
  | frzd {l : List (Option AV)} {H : AH} {a : Addr} {es : List (Str × AV)} {Q : AV → St → Prop} : Got ns x l (.ref a) → H a = some (.dict es) → Q (.dct es) ⟨l, H.put a none⟩ → NmP ns gl x ⟨l, H⟩ Q
  | drop {l : List (Option AV)} {H H' : AH} {Q : AV → St → Prop} : (∀ b c, H' b = some c → H b = some c) → NmP ns gl x ⟨l, H'⟩ Q → NmP ns gl x ⟨l, H⟩ Q
structure WP where
  E : Expr → St → (AV → St → Prop) → Prop
  T : Expr → St → (Bool → St → Prop) → Prop
  L : Pos → List Expr → St → (List AV → St → Prop) → Prop
  S : List Stmt → St → (St → Prop) → (AFlow → St → Prop) → Prop
noncomputable def onB (v : AV) (k : Bool → Prop) (F : Prop) : Prop := match v with
  | .bool b => k b
  | _ => F
noncomputable def onI (v : AV) (k : Int → Prop) (F : Prop) : Prop := match v with
  | .int x => k x
  | _ => F
noncomputable def onS (v : AV) (k : Str → Prop) (F : Prop) : Prop := match v with
  | .str x => k x
  | _ => F
noncomputable def onT (v : AV) (k : List AV → Prop) (F : Prop) : Prop := match v with
  | .tup x => k x
  | _ => F
noncomputable def onL (v : AV) (k : List AV → Prop) (F : Prop) : Prop := match v with
  | .lst x => k x
  | _ => F
section
variable {v : AV} {F : Prop}
variable {C : AV → Prop}
@[elab_as_elim] theorem onB_e {k : Bool → Prop} (h : onB v k F) (t : ∀ x, k x → C (.bool x)) (e : F → C v) : C v := by cases v <;> first | exact t _ h | exact e h
@[elab_as_elim] theorem onI_e {k : Int → Prop} (h : onI v k F) (t : ∀ x, k x → C (.int x)) (e : F → C v) : C v := by cases v <;> first | exact t _ h | exact e h
@[elab_as_elim] theorem onS_e {k : Str → Prop} (h : onS v k F) (t : ∀ x, k x → C (.str x)) (e : F → C v) : C v := by cases v <;> first | exact t _ h | exact e h
@[elab_as_elim] theorem onT_e {k : List AV → Prop} (h : onT v k F) (t : ∀ x, k x → C (.tup x)) (e : F → C v) : C v := by cases v <;> first | exact t _ h | exact e h
@[elab_as_elim] theorem onL_e {k : List AV → Prop} (h : onL v k F) (t : ∀ x, k x → C (.lst x)) (e : F → C v) : C v := by cases v <;> first | exact t _ h | exact e h
end
noncomputable def twoI (a b : AV) (k : Int → Int → Prop) (F : Prop) : Prop := onI a (fun x => onI b (fun y => k x y) F) F
noncomputable def twoS (a b : AV) (k : Str → Str → Prop) (F : Prop) : Prop := onS a (fun x => onS b (fun y => k x y) F) F
@[elab_as_elim] theorem twoI_e {C : AV → AV → Prop} {a b : AV} {k : Int → Int → Prop} {F : Prop} (h : twoI a b k F) (t : ∀ x y, k x y → C (.int x) (.int y)) (e : F → C a b) : C a b :=
  onI_e (C := fun a => (F → C a b) → C a b) h (fun x h e => onI_e (C := C (.int x)) h (fun y h => t x y h) e) (fun h e => e h) e
@[elab_as_elim] theorem twoS_e {C : AV → AV → Prop} {a b : AV} {k : Str → Str → Prop} {F : Prop} (h : twoS a b k F) (t : ∀ x y, k x y → C (.str x) (.str y)) (e : F → C a b) : C a b :=
  onS_e (C := fun a => (F → C a b) → C a b) h (fun x h e => onS_e (C := C (.str x)) h (fun y h => t x y h) e) (fun h e => e h) e
section
variable (B : BC) (f : Fc) (n : Nat) (hd : Option Value) (X : Addr → St → Prop) (ns : List Str) (gl : List (Str × AV)) (ms : List Bool)
inductive InP : AV → AV → St → (AV → St → Prop) → Prop
  | dict {x : Str} {d : Addr} {es : List (Str × AV)} {v : AV} {σ : St} {Q : AV → St → Prop} : σ.H d = some (.dict es) → GHas es x v → Q (.bool true) σ → InP (.str x) (.ref d) σ Q
  | raw {a b : AV} {σ : St} {Q : AV → St → Prop} : EO2 B f n hd (vrel B) a b (compareOp .In) σ Q X → InP a b σ Q
inductive NiP : AV → AV → St → (AV → St → Prop) → Prop
  | has {x : Str} {d : Addr} {es : List (Str × AV)} {v : AV} {σ : St} {Q : AV → St → Prop} : σ.H d = some (.dict es) → GHas es x v → Q (.bool false) σ → NiP (.str x) (.ref d) σ Q
  | new {x : Str} {d : Addr} {es : List (Str × AV)} {σ : St} {Q : AV → St → Prop} : σ.H d = some (.dict es) → (es.map (·.1)).all (fun y => !(y == x)) = true → Q (.bool true) σ → NiP (.str x) (.ref d) σ Q
  | raw {a b : AV} {σ : St} {Q : AV → St → Prop} : EO2 B f n hd (vrel B) a b (compareOp .NotIn) σ Q X → NiP a b σ Q
noncomputable def wIn (a b : AV) (σ : St) (Q : AV → St → Prop) : Prop := onS a (fun x => onT b (fun ys => cond (allStr ys) (Q (.bool ((strsOf ys).any (· == x))) σ) False) (InP B f n hd X (.str x) b σ Q)) (InP B f n hd X a b σ Q)
noncomputable def wCmp (op : CmpOp) (a b : AV) (σ : St) (Q : AV → St → Prop) : Prop := match op with
  | .Eq => twoI a b (fun x y => Q (.bool (x == y)) σ) (twoS a b (fun x y => Q (.bool (x == y)) σ) (Stop (EO2 B f n hd (vrel B) a b (compareOp .Eq) σ Q X)))
  | .NotEq => twoI a b (fun x y => Q (.bool (x != y)) σ) (twoS a b (fun x y => Q (.bool (x != y)) σ) (Stop (EO2 B f n hd (vrel B) a b (compareOp .NotEq) σ Q X)))
  | .Lt => twoI a b (fun x y => Q (.bool (decide (x < y))) σ) False
  | .LtE => twoI a b (fun x y => Q (.bool (decide (x ≤ y))) σ) False
  | .Gt => twoI a b (fun x y => Q (.bool (decide (y < x))) σ) False
  | .GtE => twoI a b (fun x y => Q (.bool (decide (y ≤ x))) σ) False
  | .Is => cond b.isNone (Q (.bool a.isNone) σ) False
  | .IsNot => cond b.isNone (Q (.bool (!a.isNone)) σ) False
  | .In => wIn B f n hd X a b σ Q
  | .NotIn => NiP B f n hd X a b σ Q
noncomputable def wBin (op : Operator) (a b : AV) (σ : St) (Q : AV → St → Prop) : Prop := match op with
  | .Add => twoI a b (fun x y => Q (.int (x + y)) σ) (twoS a b (fun x y => x.length + y.length ≤ sizeLine ∧ Q (.str (x ++ y)) σ) (Stop (EO2 B f n hd (vrel B) a b (binaryOp .Add) σ Q X)))
  | .Sub => twoI a b (fun x y => Q (.int (x - y)) σ) False
  | .Mult => twoI a b (fun x y => IntMulOk x y ∧ Q (.int (x * y)) σ) False
  | .FloorDiv => twoI a b (fun x y => y ≠ 0 ∧ y.natAbs < 1073741824 ∧ Q (.int (x.fdiv y)) σ) False
  | .Mod => twoI a b (fun x y => y ≠ 0 ∧ Q (.int (x.fmod y)) σ) False
  | op => Stop (EO2 B f n hd (vrel B) a b (binaryOp op) σ Q X)
noncomputable def wIop (op : Operator) (a b : AV) (σ : St) (Q : AV → St → Prop) : Prop := match op with
  | .Add => twoI a b (fun x y => Q (.int (x + y)) σ) (Stop (EO2 B f n hd (vrel B) a b (inplaceOp .Add) σ Q X))
  | .Sub => twoI a b (fun x y => Q (.int (x - y)) σ) False
  | _ => False
noncomputable def wTru (v : AV) (σ : St) (Q : Bool → St → Prop) : Prop := onB v (fun b => Q b σ) (Stop (EO1 B f n hd idrel v truthy σ Q X))
noncomputable def wBool (v : AV) (σ : St) (Q : Bool → St → Prop) : Prop := onB v (fun b => Q b σ) False
inductive LsP (xs : List AV) (σ : St) (Q : AV → St → Prop) : Prop
  | frz : Q (.lst xs) σ → LsP xs σ Q
  | cel : (∀ a, σ.H a = none → Q (.ref a) ⟨σ.loc, σ.H.put a (some (.list xs))⟩) → LsP xs σ Q
inductive ItP (value slice : Expr) : AV → AV → St → (AV → St → Prop) → Prop
  | str {x : Str} {i : Int} {c : Nat} {σ : St} {Q : AV → St → Prop} : 0 ≤ i → x.length < 2 ^ 62 → x.cps.toList[i.toNat]? = some c → Q (.str (sgn c)) σ → ItP value slice (.str x) (.int i) σ Q
  | tup {xs : List AV} {k : Int} {v : AV} {σ : St} {Q : AV → St → Prop} : 0 ≤ k → k < 2 ^ 63 → xs[k.toNat]? = some v → Q v σ → ItP value slice (.tup xs) (.int k) σ Q
  | lst {xs : List AV} {k : Int} {v : AV} {σ : St} {Q : AV → St → Prop} : 0 ≤ k → k < 2 ^ 63 → xs[k.toNat]? = some v → Q v σ → ItP value slice (.lst xs) (.int k) σ Q
  | last {xs : List AV} {v : AV} {σ : St} {Q : AV → St → Prop} : xs.getLast? = some v → Q v σ → ItP value slice (.lst xs) (.int (-1)) σ Q
  | cell {a : Addr} {xs : List AV} {k : Int} {v : AV} {σ : St} {Q : AV → St → Prop} : σ.H a = some (.list xs) → 0 ≤ k → k < 2 ^ 63 → xs[k.toNat]? = some v → Q v σ → ItP value slice (.ref a) (.int k) σ Q
  | dict {d : Addr} {es : List (Str × AV)} {x : Str} {v : AV} {σ : St} {Q : AV → St → Prop} : σ.H d = some (.dict es) → GHas es x v → Q v σ → ItP value slice (.ref d) (.str x) σ Q
  | raw {a b : AV} {σ : St} {Q : AV → St → Prop} : EO2 B f n hd (vrel B) a b (subscriptTail value slice) σ Q X → ItP value slice a b σ Q
inductive AtP (x : Str) : AV → St → (AV → St → Prop) → Prop
  | own {a C d : Addr} {es : List (Str × AV)} {v : AV} {σ : St} {Q : AV → St → Prop} : NoAt B.K C x → IsAt σ.H a C d → σ.H d = some (.ns es) → GHas es x v → (∀ i, v ≠ .blt i) → Q v σ → AtP x (.ref a) σ Q
  | exc {a C d : Addr} {tr : Bool} {es : List (Str × AV)} {v : AV} {σ : St} {Q : AV → St → Prop} : XNoAt B.K C x → σ.H a = some (.exc C (some d) tr) → σ.H d = some (.ns es) → GHas es x v → (∀ i, v ≠ .blt i) → Q v σ → AtP x (.ref a) σ Q
  | raw {a : AV} {σ : St} {Q : AV → St → Prop} : EO1 B f n hd (vrel B) a (fun o => getAttr o x true) σ Q X → AtP x a σ Q
inductive SaP (x : Str) (v : AV) : AV → St → (St → Prop) → Prop
  | put {a C d : Addr} {es es' : List (Str × AV)} {σ : St} {N : St → Prop} : StAt B.K C x → IsAt σ.H a C d → σ.H d = some (.ns es) → PutN es x v es' → N ⟨σ.loc, σ.H.put d (some (.ns es'))⟩ → SaP x v (.ref a) σ N
  | new {a C d : Addr} {es : List (Str × AV)} {σ : St} {N : St → Prop} : StAt B.K C x → IsAt σ.H a C d → σ.H d = some (.ns es) → short 900 es = true → (es.map (·.1)).all (fun y => !(y == x)) = true → N ⟨σ.loc, σ.H.put d (some (.ns (es ++ [(x, v)])))⟩ → SaP x v (.ref a) σ N
  | first {a C : Addr} {tr : Bool} {σ : St} {N : St → Prop} : StAt B.K C x → σ.H a = some (.exc C none tr) → (∀ d, σ.H d = none → d ≠ a → N ⟨σ.loc, (σ.H.put a (some (.exc C (some d) tr))).put d (some (.ns [(x, v)]))⟩) → SaP x v (.ref a) σ N
  | raw {a : AV} {σ : St} {N : St → Prop} : EO2 B f n hd (idrel (α := Unit)) a v (fun a b => setAttr a x b) σ (fun _ => N) X → SaP x v a σ N
inductive SsP (v : AV) : AV → AV → St → (St → Prop) → Prop
  | lst {a : Addr} {xs : List AV} {k : Int} {σ : St} {N : St → Prop} : σ.H a = some (.list xs) → 0 ≤ k → k < 2 ^ 63 → k < xs.length → N ⟨σ.loc, σ.H.put a (some (.list (xs.set k.toNat v)))⟩ → SsP v (.ref a) (.int k) σ N
  | put {d : Addr} {es es' : List (Str × AV)} {x : Str} {σ : St} {N : St → Prop} : σ.H d = some (.dict es) → PutN es x v es' → N ⟨σ.loc, σ.H.put d (some (.dict es'))⟩ → SsP v (.ref d) (.str x) σ N
  | new {d : Addr} {es : List (Str × AV)} {x : Str} {σ : St} {N : St → Prop} : σ.H d = some (.dict es) → short 900 es = true → (es.map (·.1)).all (fun y => !(y == x)) = true → N ⟨σ.loc, σ.H.put d (some (.dict (es ++ [(x, v)])))⟩ → SsP v (.ref d) (.str x) σ N
  | raw {a b : AV} {σ : St} {N : St → Prop} : EO3 B f n hd (idrel (α := Unit)) a b v setItem σ (fun _ => N) X → SsP v a b σ N
inductive RaP : AV → St → Prop
  | mk {a C : Addr} {d : Option Addr} {tr : Bool} {σ : St} : σ.H a = some (.exc C d tr) → XCls B.K C → (hd = none ∨ hd = some (.ref a)) → X a ⟨σ.loc, σ.H.put a (some (.exc C d true))⟩ → RaP (.ref a) σ
structure CW (fa : Addr) (vs : List AV) (σ : St) (Q : AV → St → Prop) : Prop where
  h : CallP B n (.ref fa) vs σ.H (fun v H' => Q v ⟨σ.loc, H'⟩) (fun a H' => X a ⟨σ.loc, H'⟩)
inductive BlP : String → List AV → St → (AV → St → Prop) → Prop
  | len_c {c : Nat} {σ : St} {Q : AV → St → Prop} : Q (.int 1) σ → BlP "len" [.str (sgn c)] σ Q
  | len_s {x : Str} {σ : St} {Q : AV → St → Prop} : x.length < 2 ^ 62 → Q (.int x.length) σ → BlP "len" [.str x] σ Q
  | len_l {xs : List AV} {σ : St} {Q : AV → St → Prop} : xs.length < 2 ^ 62 → Q (.int xs.length) σ → BlP "len" [.lst xs] σ Q
  | len_m {a : Addr} {xs : List AV} {σ : St} {Q : AV → St → Prop} : σ.H a = some (.list xs) → xs.length < 2 ^ 62 → Q (.int xs.length) σ → BlP "len" [.ref a] σ Q
  | ord {c : Nat} {σ : St} {Q : AV → St → Prop} : Q (.int c) σ → BlP "ord" [.str (sgn c)] σ Q
  | raw {id : String} {vs : List AV} {σ : St} {Q : AV → St → Prop} : EBl B f n hd id vs σ Q X → BlP id vs σ Q
noncomputable def wNm (x : Str) (σ : St) (Q : AV → St → Prop) : Prop := getN x (NmP ns gl x σ Q) (getG x (NmP ns gl x σ Q) (fun v => Q v σ) gl) (fun v => Q v σ) ns ms σ.loc
inductive CaP (W : WP) (x : Str) (args : List Expr) (p pos : Pos) (σ : St) (Q : AV → St → Prop) : AV → Prop
  | fn {fa : Addr} : hd = none → keepIn B.K (.ref fa) = true ∧ typeIn B.K (.ref fa) = some (.type "function") → W.L pos args σ (fun vs σ₁ => CW B n X fa vs σ₁ Q) → CaP W x args p pos σ Q (.ref fa)
  | mk {C fI m : Addr} : hd = none → n = m + 1 → Mk B.K C fI → W.L pos args σ (fun vs σ₁ => ∀ x d, σ₁.H x = none → σ₁.H d = none → x ≠ d →
      CallP B m (.ref fI) (.ref x :: vs) ((σ₁.H.put d (some (.ns []))).put x (some (.inst C d))) (fun v H' => v = .none ∧ Q (.ref x) ⟨σ₁.loc, H'⟩) (fun b H' => X b ⟨σ₁.loc, H'⟩)) → CaP W x args p pos σ Q (.ref C)
  | exc {C fI m : Addr} : hd = none → n = m + 1 → Xk B.K C fI → W.L pos args σ (fun vs σ₁ => short 40 vs = true ∧ ∀ x, σ₁.H x = none →
      CallP B m (.ref fI) (.ref x :: vs) (σ₁.H.put x (some (.exc C none false))) (fun v H' => v = .none ∧ Q (.ref x) ⟨σ₁.loc, H'⟩) (fun b H' => X b ⟨σ₁.loc, H'⟩)) → CaP W x args p pos σ Q (.ref C)
  | dict : hd = none → W.L pos args σ (fun vs σ₁ => ∃ d es, vs = [.ref d] ∧ σ₁.H d = some (.dict es) ∧ Q (.dct es) σ₁) → CaP W x args p pos σ Q (.typ "dict")
  | raw {v : AV} : EV B f n hd (eval (.Call (.Name x p) args [] pos) f.env) σ Q X → CaP W x args p pos σ Q v
noncomputable def wCaV (W : WP) (x : Str) (args : List Expr) (p pos : Pos) (σ : St) (Q : AV → St → Prop) (v : AV) : Prop := match v with
  | .blt id => W.L pos args σ (fun vs σ₁ => BlP B f n hd X id vs σ₁ Q)
  | v => CaP B f n hd X W x args p pos σ Q v
noncomputable def wCa (W : WP) (x : Str) (args : List Expr) (p pos : Pos) (σ : St) (Q : AV → St → Prop) : Prop := getG x (CaP B f n hd X W x args p pos σ Q .none) (wCaV B f n hd X W x args p pos σ Q) gl
inductive FiP (x : Str) : List AV → St → (AV → St → Prop) → Prop
  | mk {y : Str} {σ : St} {Q : AV → St → Prop} (i : Int) : Txt.find x y = i → Q (.int i) σ → FiP x [.str y] σ Q
inductive JoP (x : Str) : List AV → St → (AV → St → Prop) → Prop
  | lst {ys : List Str} {xs : List AV} {σ : St} {Q : AV → St → Prop} : xs = ys.map AV.str → (ys.map (·.length)).sum + ys.length * x.length ≤ 16777216 → Q (.str (Txt.join x ys)) σ → JoP x [.lst xs] σ Q
  | cell {a : Addr} {ys : List Str} {σ : St} {Q : AV → St → Prop} : σ.H a = some (.list (ys.map AV.str)) → (ys.map (·.length)).sum + ys.length * x.length ≤ 16777216 → Q (.str (Txt.join x ys)) σ → JoP x [.ref a] σ Q
inductive ApP (a : Addr) : List AV → St → (AV → St → Prop) → Prop
  | mk {v : AV} {xs : List AV} {σ : St} {Q : AV → St → Prop} : σ.H a = some (.list xs) → xs.length ≤ sizeLine → Q .none ⟨σ.loc, σ.H.put a (some (.list (xs ++ [v])))⟩ → ApP a [v] σ Q
inductive MeP (W : WP) (pos : Pos) (args : List Expr) : Str → AV → St → (AV → St → Prop) → Prop
  | find {x : Str} {σ : St} {Q : AV → St → Prop} : W.L pos args σ (fun vs σ₁ => FiP x vs σ₁ Q) → MeP W pos args "find" (.str x) σ Q
  | upper {x : Str} {σ : St} {Q : AV → St → Prop} : args = [] → Builtin.Str.tooLong (Txt.upper x).length = false → Q (.str (Txt.upper x)) σ → MeP W pos args "upper" (.str x) σ Q
  | join {x : Str} {σ : St} {Q : AV → St → Prop} : W.L pos args σ (fun vs σ₁ => JoP x vs σ₁ Q) → MeP W pos args "join" (.str x) σ Q
  | append {a : Addr} {xs₀ : List AV} {σ : St} {Q : AV → St → Prop} : σ.H a = some (.list xs₀) → W.L pos args σ (fun vs σ₁ => ApP a vs σ₁ Q) → MeP W pos args "append" (.ref a) σ Q
  | own {name : Str} {a C d fa : Addr} {es : List (Str × AV)} {σ : St} {Q : AV → St → Prop} : hd = none → MeAt B.K C name fa → IsAt σ.H a C d → σ.H d = some (.ns es) → (es.map (·.1)).all (fun y => !(y == name)) = true → W.L pos args σ (fun vs σ₁ => CW B n X fa (.ref a :: vs) σ₁ Q) → MeP W pos args name (.ref a) σ Q
  | cls {name : Str} {C fa : Addr} {σ : St} {Q : AV → St → Prop} : hd = none → ClM B.K C name fa → W.L pos args σ (fun vs σ₁ => CW B n X fa vs σ₁ Q) → MeP W pos args name (.ref C) σ Q
  | xinit {σ : St} {Q : AV → St → Prop} : findCls B.K (.type "Exception") (.type "type") "__init__" = some (.val (.builtin "Exception.__init__")) → W.L pos args σ (fun vs σ₁ => XiP B vs σ₁ Q) → MeP W pos args "__init__" (.typ "Exception") σ Q
  | raw {name : Str} {ov : AV} {σ : St} {Q : AV → St → Prop} : EM B f n hd pos name ov args σ Q X → MeP W pos args name ov σ Q
inductive SlP : AV → Option Int → Option Int → St → (AV → St → Prop) → Prop
  | str {x : Str} {i j : Option Int} {σ : St} {Q : AV → St → Prop} : x.length ≤ sizeLine → Q (.str (Txt.slice x i j)) σ → SlP (.str x) i j σ Q
  | lst {xs : List AV} {i j : Option Int} {σ : St} {Q : AV → St → Prop} : xs.length ≤ sizeLine → Q (.lst ((xs.drop (i.elim 0 (clipAt xs.length))).take (j.elim xs.length (clipAt xs.length) - i.elim 0 (clipAt xs.length)))) σ → SlP (.lst xs) i j σ Q
  | tup {xs : List AV} {a : Nat} {σ : St} {Q : AV → St → Prop} : 1 ≤ a → a ≤ xs.length → xs.length ≤ sizeLine → Q (.tup (xs.drop a)) σ → SlP (.tup xs) (some a) none σ Q
noncomputable def wPt (W : WP) (e : Option Expr) (σ : St) (Q : Option Int → St → Prop) : Prop := e.elim (Q none σ) fun e => W.E e σ fun v σ₁ => onI v (fun i => Q (some i) σ₁) False
noncomputable def wEDs (W : WP) (ks : List (Option Expr)) : List Expr → St → (List (Str × AV) → St → Prop) → Prop :=
  List.rec (fun vs σ Q => List.casesOn vs (Q [] σ) fun _ _ => False) (fun k _ ih vs σ Q => List.casesOn vs False fun v r => k.elim False fun k => W.E k σ fun kv σ₁ => onS kv (fun x => W.E v σ₁ fun v σ₂ => ih r σ₂ fun es => Q ((x, v) :: es)) False) ks
structure DiP (W : WP) (keys : List (Option Expr)) (values : List Expr) (σ : St) (Q : AV → St → Prop) : Prop where
  h : ∀ d, σ.H d = none → wEDs W keys values ⟨σ.loc, σ.H.put d (some (.dict []))⟩ (fun es σ₁ => σ₁.H d = some (.dict []) ∧ nodupB (es.map (·.1)) = true ∧ short 40 es = true ∧ Q (.ref d) ⟨σ₁.loc, σ₁.H.put d (some (.dict es))⟩)
noncomputable def wConst (c : Const) (σ : St) (Q : AV → St → Prop) : Prop := match c with
  | .int i => Q (.int i) σ
  | .str x => Q (.str x) σ
  | .none => Q .none σ
  | .bool b => Q (.bool b) σ
  | _ => False
noncomputable def wUn (W : WP) (op : UnaryOp) (x : Expr) (σ : St) (Q : AV → St → Prop) : Prop := match op with
  | .Not => W.E x σ fun v σ₁ => wTru B f n hd X v σ₁ fun b => Q (.bool (!b))
  | .USub => W.E x σ fun v σ₁ => onI v (fun i => Q (.int (-i)) σ₁) False
  | _ => False
noncomputable def wBo (W : WP) (op : BoolOp) (x : Expr) (r : List Expr) (pos : Pos) (σ : St) (Q : AV → St → Prop) : Prop := List.casesOn r (W.E x σ Q) fun y r => W.E x σ fun v σ₁ => wBool v σ₁ fun b σ₂ => match op with
  | .And => br b (W.E (.BoolOp .And (y :: r) pos) σ₂ Q) (Q (.bool false) σ₂)
  | .Or => br b (Q (.bool true) σ₂) (W.E (.BoolOp .Or (y :: r) pos) σ₂ Q)
noncomputable def lone {α : Type} (l : List α) (k : α → Prop) (F : Prop) : Prop := List.casesOn l F fun a r => List.casesOn r (k a) fun _ _ => F
@[elab_as_elim] theorem lone_e {α : Type} {l : List α} {k : α → Prop} {C : List α → Prop} (h : lone l k False) (t : ∀ a, k a → C [a]) : C l := by
  cases l with
  | nil => exact h.elim
  | cons a r => cases r with
    | nil => exact t a h
    | cons => exact h.elim
noncomputable def wSub (W : WP) (value slice : Expr) (pos : Pos) (σ : St) (Q : AV → St → Prop) : Prop := match slice with
  | .Slice lo hi st p => Option.casesOn st (W.E value σ fun a σ₁ => wPt W lo σ₁ fun i σ₂ => wPt W hi σ₂ fun j σ₃ => SlP a i j σ₃ Q) fun st => Stop (EV B f n hd (eval (.Subscript value (.Slice lo hi (some st) p) pos) f.env) σ Q X)
  | slice => W.E value σ fun a σ₁ => W.E slice σ₁ fun b σ₂ => ItP B f n hd X value slice a b σ₂ Q
noncomputable def wCall (W : WP) (g : Expr) (args : List Expr) (ks : List Keyword) (pos : Pos) (σ : St) (Q : AV → St → Prop) : Prop := match g with
  | .Name x p => cond (ks.isEmpty && args.all plainArg) (wCa B f n hd X gl W x args p pos σ Q) (Stop (EV B f n hd (eval (.Call (.Name x p) args ks pos) f.env) σ Q X))
  | .Attribute o name apos => cond (ks.isEmpty && (plainBase o && (args.all plainArg && (short 19 args && Nat.beq apos.endLine pos.line)))) (W.E o σ fun ov σ₁ => MeP B f n hd X W pos args name ov σ₁ Q) (Stop (EV B f n hd (eval (.Call (.Attribute o name apos) args ks pos) f.env) σ Q X))
  | g => Stop (EV B f n hd (eval (.Call g args ks pos) f.env) σ Q X)
noncomputable def wDic (W : WP) (ks : List (Option Expr)) (vs : List Expr) (pos : Pos) (σ : St) (Q : AV → St → Prop) : Prop := List.casesOn ks (cond vs.isEmpty (Stop (∀ d, σ.H d = none → Q (.ref d) ⟨σ.loc, σ.H.put d (some (.dict []))⟩)) False) fun k r =>
  cond ((k :: r).all (·.isSome) && (Nat.beq (k :: r).length vs.length && Nat.ble (k :: r).length 15)) (DiP W (k :: r) vs σ Q) (Stop (EV B f n hd (eval (.Dict (k :: r) vs pos) f.env) σ Q X))
noncomputable def stepE (W : WP) (e : Expr) (σ : St) (Q : AV → St → Prop) : Prop := match e with
  | .Name x _ => wNm ns gl ms x σ Q
  | .Constant c _ _ => wConst c σ Q
  | .BinOp l op r _ => W.E l σ fun a σ₁ => W.E r σ₁ fun b σ₂ => wBin B f n hd X op a b σ₂ Q
  | .UnaryOp op x _ => wUn B f n hd X W op x σ Q
  | .IfExp t a b _ => W.T t σ fun c σ₁ => br c (W.E a σ₁ Q) (W.E b σ₁ Q)
  | .BoolOp op vs pos => List.casesOn vs False fun x r => wBo W op x r pos σ Q
  | .Compare l ops rs pos => lone ops (fun op => lone rs (fun r => cond (noSet r) (W.E l σ fun a σ₁ => W.E r σ₁ fun b σ₂ => wCmp B f n hd X op a b σ₂ Q) False) False) False
  | .Tuple elts k pos => W.L pos elts σ fun xs σ₁ => cond (short 40 xs) (Q (.tup xs) σ₁) False
  | .List elts pos => W.L pos elts σ fun xs σ₁ => cond (short 40 xs) (LsP xs σ₁ Q) False
  | .Subscript value slice pos => wSub B f n hd X W value slice pos σ Q
  | .Attribute value attr pos => cond (plainBase value) (W.E value σ fun a σ₁ => AtP B f n hd X attr a σ₁ Q) (Stop (EV B f n hd (eval (.Attribute value attr pos) f.env) σ Q X))
  | .Call g args ks pos => wCall B f n hd X gl W g args ks pos σ Q
  | .Dict ks vs pos => wDic B f n hd X W ks vs pos σ Q
  | e => Stop (EV B f n hd (eval e f.env) σ Q X)
noncomputable def tAnd (W : WP) (es : List Expr) : St → (Bool → St → Prop) → Prop := List.rec (fun σ Q => Q true σ) (fun x _ ih σ Q => W.T x σ fun b σ₁ => br b (ih σ₁ Q) (Q false σ₁)) es
noncomputable def tOr (W : WP) (es : List Expr) : St → (Bool → St → Prop) → Prop := List.rec (fun σ Q => Q false σ) (fun x _ ih σ Q => W.T x σ fun b σ₁ => br b (Q true σ₁) (ih σ₁ Q)) es
noncomputable def tC2 (W : WP) (l m r : Expr) (o1 o2 : CmpOp) (σ : St) (Q : Bool → St → Prop) : Prop := cond (noSet r) (W.E l σ fun a σ₁ => W.E m σ₁ fun b σ₂ => wCmp B f n hd X o1 a b σ₂ fun c σ₃ => wBool c σ₃ fun t σ₄ => br t (W.E r σ₄ fun d σ₅ => wCmp B f n hd X o2 b d σ₅ fun c' σ₆ => wBool c' σ₆ Q) (Q false σ₄)) False
noncomputable def tCmp (W : WP) (l : Expr) (ops : List CmpOp) (rs : List Expr) (σ : St) (Q : Bool → St → Prop) : Prop := List.casesOn ops False fun o1 os => List.casesOn rs False fun m rs => List.casesOn os
  (List.casesOn rs (cond (noSet m) (W.E l σ fun a σ₁ => W.E m σ₁ fun b σ₂ => wCmp B f n hd X o1 a b σ₂ fun c σ₃ => wBool c σ₃ Q) False) fun _ _ => False)
  fun o2 os => lone rs (fun r => List.casesOn os (tC2 B f n hd X W l m r o1 o2 σ Q) fun _ _ => False) False
noncomputable def tv (e : Expr) : Bool := Nat.beq e.ctorIdx 23 || Nat.beq e.ctorIdx 16 || Nat.beq e.ctorIdx 20 || Nat.beq e.ctorIdx 21 || Nat.beq e.ctorIdx 19
noncomputable def stepT (W : WP) (e : Expr) (σ : St) (Q : Bool → St → Prop) : Prop := match e with
  | .Compare l ops rs pos => tCmp B f n hd X W l ops rs σ Q
  | .UnaryOp op x pos => UnaryOp.casesOn op False (W.T x σ fun b => Q (!b)) False False
  | .BoolOp op vs pos => BoolOp.casesOn op (tAnd W vs σ Q) (tOr W vs σ Q)
  | e => cond (tv e) (W.E e σ fun v σ₁ => wTru B f n hd X v σ₁ Q) (Stop (EB B f n hd (isTrue e f.env (eval e f.env)) σ Q X))
noncomputable def stepL (W : WP) (pos : Pos) (es : List Expr) (σ : St) (Q : List AV → St → Prop) : Prop := List.casesOn es (Q [] σ) fun e r => cond (plainArg e) (W.E e σ fun v σ₁ => W.L pos r σ₁ fun vs σ₂ => Q (v :: vs) σ₂) False
structure PaP (W : WP) (a b : Str) (v1 v2 : Expr) (vp : Pos) (σ : St) (N : St → Prop) : Prop where
  p : Plain f
  h : W.L vp [v1, v2] σ (fun xs σ₁ => lone (xs.drop 1) (fun y => lone (xs.take 1) (fun x => wSto ns b y (wSto ns a x N) σ₁) False) False)
noncomputable def pairOk (a b : Str) (pa pb : Pos) (v1 v2 : Expr) : Bool := !(a == b) && (Nat.beq pb.line pa.line && ([v1, v2].all plainArg && (!([v1, v2].all (foldedForSure 8)) && (!([v1, v2].all (constantsAlone 8)) && (ns.any (· == a) && ns.any (· == b))))))
noncomputable def pairOf (es vs : List Expr) (k : Str → Pos → Str → Pos → Expr → Expr → Prop) : Prop :=
  List.casesOn es False fun e1 es => lone es (fun e2 => List.casesOn vs False fun v1 vs => lone vs (fun v2 => onN e1 fun a pa => onN e2 fun b pb => k a pa b pb v1 v2) False) False
@[elab_as_elim] theorem pairOf_e {es vs : List Expr} {k : Str → Pos → Str → Pos → Expr → Expr → Prop} {C : List Expr → List Expr → Prop} (h : pairOf es vs k) (t : ∀ a pa b pb v1 v2, k a pa b pb v1 v2 → C [.Name a pa, .Name b pb] [v1, v2]) : C es vs := by
  cases es with
  | nil => exact h.elim
  | cons e1 es =>
    refine lone_e (C := fun es => C (e1 :: es) vs) h fun e2 h => ?_
    cases vs with
    | nil => exact h.elim
    | cons v1 vs => exact lone_e (C := fun vs => C [e1, e2] (v1 :: vs)) h fun v2 h => onN_e (C := fun e1 => C [e1, e2] [v1, v2]) h fun a pa h => onN_e (C := fun e2 => C [_, e2] [v1, v2]) h fun b pb h => t a pa b pb v1 v2 h
noncomputable def wTupA (W : WP) (elts : List Expr) (v : Expr) (σ : St) (N : St → Prop) : Prop := match v with
  | .Tuple vs _ vp => cond (vs.all (foldedForSure 8)) (W.L vp vs σ fun xs σ₁ => cond (short 40 xs) (wStoL ns N elts xs σ₁) False)
      (pairOf elts vs fun a pa b pb v1 v2 => cond (pairOk ns a b pa pb v1 v2) (PaP f ns W a b v1 v2 vp σ N) False)
  | v => cond (noComp v) (W.E v σ fun v σ₁ => onT v (fun xs => wStoL ns N elts xs σ₁) False) False
noncomputable def wSrc (v : AV) (σ : St) (Q : List AV → St → Prop) : Prop := onL v (fun xs => Q xs σ) (onS v (fun x => x.cps.all (· < 128) = true ∧ Q (x.cps.toList.map fun c => AV.str (sgn c)) σ) False)
inductive RiP (tw : Bool) (W : WP) (x : Str) (args : List Expr) (p pos : Pos) (σ : St) (Q : List AV → St → Prop) : AV → Prop
  | range : W.L pos args σ (fun vs σ₁ => RgP vs σ₁ Q) → RiP tw W x args p pos σ Q (.typ "range")
  | enum : tw = true → W.L pos args σ (fun vs σ₁ => EnP vs σ₁ Q) → RiP tw W x args p pos σ Q (.typ "enumerate")
  | call {v : AV} : wCa B f n hd X gl W x args p pos σ (fun v σ₁ => wSrc v σ₁ Q) → RiP tw W x args p pos σ Q v
noncomputable def wIter (tw : Bool) (W : WP) (iter : Expr) (σ : St) (Q : List AV → St → Prop) : Prop := match iter with
  | .Call g args ks pos => onN g fun x p => cond (ks.isEmpty && args.all plainArg) (getG x False (RiP B f n hd X gl tw W x args p pos σ Q) gl) False
  | e => W.E e σ fun v σ₁ => wSrc v σ₁ Q
noncomputable def wTgt (ns : List Str) (tgt : Expr) (v : AV) (N : St → Prop) (σ : St) : Prop := match tgt with
  | .Name x _ => wSto ns x v N σ
  | .Tuple elts _ _ => onT v (fun xs => wStoL ns N elts xs σ) False
  | _ => False
noncomputable def WFor (W : WP) (tgt : Expr) (body : List Stmt) (N : St → Prop) (K : AFlow → St → Prop) : List AV → St → Prop
  | [], σ => N σ
  | x :: xs, σ => wTgt ns tgt x (fun σ₁ => W.S body σ₁ (WFor W tgt body N K xs) (lk (WFor W tgt body N K xs) N K)) σ
noncomputable def wAsg (W : WP) (t v : Expr) (p : Pos) (σ : St) (N : St → Prop) (K : AFlow → St → Prop) : Prop := match t with
  | .Name x xp => cond (noComp v) (W.E v σ fun v σ₁ => wSto ns x v N σ₁) (Stop (ES B f n hd (exec (.Assign [.Name x xp] v p) f.env) σ N K X))
  | .Tuple elts k tp => hd.elim (wTupA f ns W elts v σ N) fun _ => False
  | .Attribute o attr ap => cond (noComp v) (W.E v σ fun v σ₁ => W.E o σ₁ fun ov σ₂ => SaP B f n hd X attr v ov σ₂ N) False
  | .Subscript o i ip => cond (noComp v) (W.E v σ fun v σ₁ => W.E o σ₁ fun ov σ₂ => W.E i σ₂ fun iv σ₃ => SsP B f n hd X v ov iv σ₃ N) False
  | _ => False
noncomputable def wAug (W : WP) (t : Expr) (op : Operator) (v : Expr) (p : Pos) (σ : St) (N : St → Prop) (K : AFlow → St → Prop) : Prop := match t with
  | .Name x xp => St.casesOn σ fun l H => getN x False False (fun v₀ => W.E v ⟨l, H⟩ fun v σ₁ => wIop B f n hd X op v₀ v σ₁ fun u σ₂ => wSto ns x u N σ₂) ns [] l
  | .Attribute o attr ap => W.E o σ fun ov σ₁ => AtP B f n hd X attr ov σ₁ (fun old σ₂ => W.E v σ₂ fun v σ₃ => wIop B f n hd X op old v σ₃ fun u σ₄ => SaP B f n hd X attr u ov σ₄ N)
  | t => Stop (ES B f n hd (exec (.AugAssign t op v p) f.env) σ N K X)
noncomputable def stepO (W : WP) (s : Stmt) (σ : St) (N : St → Prop) (K : AFlow → St → Prop) : Prop := match s with
  | .Pass _ => N σ
  | .Break _ => K .brk σ
  | .Continue _ => K .cont σ
  | .Return e _ => e.elim (K (.ret .none) σ) fun e => W.E e σ fun v => K (.ret v)
  | .If t b o _ => W.T t σ fun c σ₁ => br c (W.S b σ₁ N K) (W.S o σ₁ N K)
  | .Expr e p => cond (noComp e) (W.E e σ fun _ σ₁ => N σ₁) False
  | .Assign ts v p => lone ts (fun t => wAsg B f n hd X ns W t v p σ N K) False
  | .AugAssign t op v p => wAug B f n hd X ns W t op v p σ N K
  | .Raise e c pos => e.elim False fun e => c.elim (W.E e σ fun v σ₁ => RaP B hd X v σ₁) fun _ => False
  | .While t b o p => cond o.isEmpty (Stop (WH B f n hd t b N K X σ)) False
  | .For tgt it b o p => cond (o.isEmpty && (noSet it && hd.isNone)) (wIter B f n hd X gl (isTup tgt) W it σ fun xs σ₁ => WFor ns W tgt b N K xs σ₁) False
  | s => Stop (ES B f n hd (exec s f.env) σ N K X)
noncomputable def stepS (W : WP) (ss : List Stmt) (σ : St) (N : St → Prop) (K : AFlow → St → Prop) : Prop := List.casesOn ss (N σ) fun s r => stepO B f n hd X ns gl W s σ (fun σ₁ => W.S r σ₁ N K) K
noncomputable def wpRaw : WP where
  E e σ Q := Stop (EV B f n hd (eval e f.env) σ Q X)
  T e σ Q := Stop (EB B f n hd (isTrue e f.env (eval e f.env)) σ Q X)
  L pos es σ Q := Stop (EL B f n hd (spliced (backTo pos (starEach es f.env))) σ Q X)
  S ss σ N K := Stop (ES B f n hd (execs ss f.env) σ N K X)
noncomputable def wp : Nat → WP
  | 0 => wpRaw B f n hd X
  | k + 1 => { E := stepE B f n hd X ns gl ms (wp k), T := stepT B f n hd X (wp k), L := stepL (wp k), S := stepS B f n hd X ns gl (wp k) }
end
end Mine
end
section
open PySem PySem.W PyProof.Rows PySem.Calls
namespace Mine
section
variable {B : BC} {f : Fc} {n : Nat} {hd : Option Value} {X : Addr → St → Prop} {ns : List Str} {gl : List (Str × AV)} {ms : List Bool} {σ : St}
theorem EO1.imp {α β : Type} {R : RelT α β} {a : AV} {t : Value → Sem α} {Q Q' : β → St → Prop} (h : EO1 B f n hd R a t σ Q X) (hq : ∀ v σ', Q v σ' → Q' v σ') : EO1 B f n hd R a t σ Q' X :=
  fun A s r hA hs h1 => wpAny_mono (h A s r hA hs h1) (fun _ _ ⟨v, σ', a, b, c, d⟩ => ⟨v, σ', a, b, c, hq _ _ d⟩) fun _ _ q => q
theorem EO2.imp {α β : Type} {R : RelT α β} {a b : AV} {t : Value → Value → Sem α} {Q Q' : β → St → Prop} (h : EO2 B f n hd R a b t σ Q X) (hq : ∀ v σ', Q v σ' → Q' v σ') : EO2 B f n hd R a b t σ Q' X :=
  fun A s r u hA hs h1 h2 => wpAny_mono (h A s r u hA hs h1 h2) (fun _ _ ⟨v, σ', a, b, c, d⟩ => ⟨v, σ', a, b, c, hq _ _ d⟩) fun _ _ q => q
theorem EO3.imp {α β : Type} {R : RelT α β} {a b c : AV} {t : Value → Value → Value → Sem α} {Q Q' : β → St → Prop} (h : EO3 B f n hd R a b c t σ Q X) (hq : ∀ v σ', Q v σ' → Q' v σ') : EO3 B f n hd R a b c t σ Q' X :=
  fun A s r u w hA hs h1 h2 h3 => wpAny_mono (h A s r u w hA hs h1 h2 h3) (fun _ _ ⟨v, σ', a, b, c, d⟩ => ⟨v, σ', a, b, c, hq _ _ d⟩) fun _ _ q => q
theorem ES.imp {t : Sem Flow} {N N' : St → Prop} {K : AFlow → St → Prop} (h : ES B f n hd t σ N K X) (hn : ∀ σ', N σ' → N' σ') : ES B f n hd t σ N' K X :=
  EX.imp h (fun v σ' q => by cases v <;> first | exact hn _ q | exact q) fun _ _ q => q
theorem EX.w {α β : Type} {R : RelT α β} {t : Sem α} {Q Q' : β → St → Prop} (h : EX B f n hd R t σ Q X) (hq : ∀ v σ', Q v σ' → Q' v σ') : EX B f n hd R t σ Q' X := EX.imp h hq fun _ _ q => q
theorem lk_imp {C N N' : St → Prop} {K : AFlow → St → Prop} (hn : ∀ σ', N σ' → N' σ') {C' : St → Prop} (hc : ∀ σ', C σ' → C' σ') (v : AFlow) (σ : St) (h : lk C N K v σ) : lk C' N' K v σ := by
  cases v <;> first | exact hc _ h | exact hn _ h | exact h
theorem LoopR.imp {σ₀ : St} {s₀ : Shared} {N N' : St → Prop} {K : AFlow → St → Prop} (hn : ∀ σ', N σ' → N' σ') {r : Result} {s : Shared} (h : LoopR B f σ₀ s₀ N K X r s) : LoopR B f σ₀ s₀ N' K X r s := by
  cases h with
  | er h => exact .er h
  | ok h =>
    obtain ⟨v, σ', a, b, c, d⟩ := h
    exact .ok ⟨v, σ', a, b, c, by cases v <;> first | exact hn _ d | exact d⟩
theorem WH.imp {test : Expr} {body : List Stmt} {N N' : St → Prop} {K : AFlow → St → Prop} (h : WH B f n hd test body N K X σ) (hn : ∀ σ', N σ' → N' σ') : WH B f n hd test body N' K X σ :=
  fun A s σ₀ s₀ hA hs st => codeAny_mono (h A s σ₀ s₀ hA hs st) fun _ _ q => q.imp hn
theorem r_list_any {elts : List Expr} {pos : Pos} {Q : AV → St → Prop} (h : EL B f n hd (spliced (backTo pos (starEach elts f.env))) σ (fun xs σ₁ => xs.length ≤ sizeLine ∧ LsP xs σ₁ Q) X) :
    EV B f n hd (eval (.List elts pos) f.env) σ Q X := fun A s hA hs =>
  wpAny_List (h.go (Q' := Q) (R' := vrel B) hA hs fun vs s₁ xs σ₁ h₁ st₁ hv ⟨hz, q⟩ => by
    refine ⟨by rw [← hv.length]; exact hz, ?_⟩
    cases q with
    | frz q =>
      have g := h₁.grow (tk := s₁.toks) (push_keeps s₁.heap { cls := .type "list", data := .seq vs.toArray })
      exact ⟨.lst xs, σ₁, g.1, st₁.trans g.2, .lst (isList_new _ _) (none_dm h₁ (size_none _)) (hv.step g.2), q⟩
    | cel q =>
      have hk := push_keeps s₁.heap { cls := .type "list", data := .seq vs.toArray }
      have st := fresh_step (c := .list xs) (tk := s₁.toks) h₁ hk (size_none _)
      exact ⟨.ref s₁.heap.objs.size, _, h₁.fresh (c := .list xs) hk (size_none _) ⟨vs, isList_new _ _, hv.step st⟩, st₁.trans st, .ref _, q _ (H_none h₁ (size_none _))⟩)
section
variable {a b : AV} {Q : AV → St → Prop}
theorem InP_s (h : InP B f n hd X a b σ Q) : EO2 B f n hd (vrel B) a b (compareOp .In) σ Q X := by
  cases h with
  | dict c g q => exact o_in_d c g q
  | raw h => exact h
theorem NiP_s (h : NiP B f n hd X a b σ Q) : EO2 B f n hd (vrel B) a b (compareOp .NotIn) σ Q X := by
  cases h with
  | has c g q => exact o_notin_d c g q
  | new c g q => exact o_notin_d_new c g q
  | raw h => exact h
theorem AtP_s {x : Str} (h : AtP B f n hd X x a σ Q) : EO1 B f n hd (vrel B) a (fun o => getAttr o x true) σ Q X := by
  cases h with
  | own a b c d e q => exact o_attr a b c d e q
  | exc a b c d e q => exact o_xattr a b c d e q
  | raw h => exact h
theorem SaP_s {x : Str} {v : AV} {N : St → Prop} (h : SaP B f n hd X x v a σ N) : EO2 B f n hd (idrel (α := Unit)) a v (fun a b => setAttr a x b) σ (fun _ => N) X := by
  cases h with
  | put a b c d q => exact o_setattr a b c d q
  | new a b c d e q => exact o_newattr a b c d e q
  | first a b q => exact o_firstattr a b q
  | raw h => exact h
theorem SsP_s {v : AV} {N : St → Prop} (h : SsP B f n hd X v a b σ N) : EO3 B f n hd (idrel (α := Unit)) a b v setItem σ (fun _ => N) X := by
  cases h with
  | lst a b c d q => exact o_set_m a b c d q
  | put a b q => exact o_set_d a b q
  | new a b c q => exact o_new_d a b c q
  | raw h => exact h
theorem wIn_s (h : wIn B f n hd X a b σ Q) : EO2 B f n hd (vrel B) a b (compareOp .In) σ Q X := by
  exact onS_e h (fun x h => onT_e h (fun ys h => cond_k h fun e h => o_in_strs h (allStr_eq e)) InP_s) InP_s
@[elab_as_elim] theorem isNone_e {b : AV} {p : Prop} {C : AV → Prop} (h : cond b.isNone p False) (k : p → C .none) : C b := by cases b <;> first | exact k h | exact h.elim
theorem wCmp_s {op : CmpOp} (h : wCmp B f n hd X op a b σ Q) : EO2 B f n hd (vrel B) a b (compareOp op) σ Q X := by
  cases op with
  | Eq => exact twoI_e h (fun x y => o_eq) fun h => twoS_e h (fun x y => o_eq_s) Stop.h
  | NotEq => exact twoI_e h (fun x y => o_ne) fun h => twoS_e h (fun x y => o_ne_s) Stop.h
  | Lt => exact twoI_e h (fun x y => o_lt) False.elim
  | LtE => exact twoI_e h (fun x y => o_le) False.elim
  | Gt => exact twoI_e h (fun x y => o_gt) False.elim
  | GtE => exact twoI_e h (fun x y => o_ge) False.elim
  | Is => exact isNone_e h o_is_none
  | IsNot => exact isNone_e h o_isnt_none
  | In => exact wIn_s h
  | NotIn => exact NiP_s h
theorem wBin_s {op : Operator} (h : wBin B f n hd X op a b σ Q) : EO2 B f n hd (vrel B) a b (binaryOp op) σ Q X := by
  cases op with
  | Add => exact twoI_e h (fun x y => o_add) fun h => twoS_e h (fun x y h => o_add_s h.1 h.2) Stop.h
  | Sub => exact twoI_e h (fun x y => o_sub) False.elim
  | Mult => exact twoI_e h (fun x y h => o_mul h.1 h.2) False.elim
  | FloorDiv => exact twoI_e h (fun x y h => o_fdiv h.1 h.2.1 h.2.2) False.elim
  | Mod => exact twoI_e h (fun x y h => o_mod h.1 h.2) False.elim
  | _ => exact h.h
theorem wIop_s {op : Operator} (h : wIop B f n hd X op a b σ Q) : EO2 B f n hd (vrel B) a b (inplaceOp op) σ Q X := by
  cases op with
  | Add => exact twoI_e h (fun x y => o_iadd) Stop.h
  | Sub => exact twoI_e h (fun x y => o_isub) False.elim
  | _ => exact h.elim
theorem ItP_s {value slice : Expr} (h : ItP B f n hd X value slice a b σ Q) : EO2 B f n hd (vrel B) a b (subscriptTail value slice) σ Q X := by
  cases h with
  | str a b c d => exact o_item_s a b c d
  | tup a b c d => exact o_item_t a b c d
  | lst a b c d => exact o_item_l a b c d
  | last a b => exact o_last_l a b
  | cell a b c d e => exact o_item_m a b c d e
  | dict a b c => exact o_item_d a b c
  | raw h => exact h
end
theorem wTru_s {v : AV} {Q : Bool → St → Prop} (h : wTru B f n hd X v σ Q) : EO1 B f n hd idrel v truthy σ Q X := by
  exact onB_e h (fun b => o_truthy) Stop.h
theorem wBool_s {v : AV} {Q : Bool → St → Prop} (h : wBool v σ Q) : ∃ b, v = .bool b ∧ Q b σ := onB_e h (fun b h => ⟨b, rfl, h⟩) False.elim
theorem b_len_sgn {c : Nat} {Q : AV → St → Prop} (h : Q (.int 1) σ) : EBl B f n hd "len" [.str (sgn c)] σ Q X :=
  b_len_s (x := sgn c) (by decide : (1 : Nat) < 2 ^ 62) h
theorem BlP_s {id : String} {vs : List AV} {Q : AV → St → Prop} (h : BlP B f n hd X id vs σ Q) : EBl B f n hd id vs σ Q X := by
  cases h with
  | len_c h => exact b_len_sgn h
  | len_s a b => exact b_len_s a b
  | len_l a b => exact b_len_l a b
  | len_m a b c => exact b_len_m a b c
  | ord h => exact b_ord h
  | raw h => exact h
theorem SlP_s {a : AV} {i j : Option Int} {Q : AV → St → Prop} (h : SlP a i j σ Q) : ∃ v, SlOf a i j v ∧ Q v σ := by
  cases h with
  | str a b => exact ⟨_, .str a, b⟩
  | lst a b => exact ⟨_, .lst a, b⟩
  | tup a b c d => exact ⟨_, .tup a b c, d⟩
theorem r_tru {e : Expr} {Q : Bool → St → Prop} (he : isTrue e f.env (eval e f.env) = (do let v ← eval e f.env; standAt e.pos; holding [v] (truthy v))) (h : EV B f n hd (eval e f.env) σ (fun v σ₁ => wTru B f n hd X v σ₁ Q) X) : EB B f n hd (isTrue e f.env (eval e f.env)) σ Q X :=
  r_test_val (EX.w h fun _ _ q => wTru_s q) he
theorem r_test_cmp2 {l m r : Expr} {o1 o2 : CmpOp} {pos : Pos} {whole : Sem Value} {Q : Bool → St → Prop} (h : EV B f n hd (eval l f.env) σ (fun a σ₁ => EV B f n hd (eval m f.env) σ₁ (fun b σ₂ => EO2 B f n hd (vrel B) a b (compareOp o1) σ₂
      (fun c σ₃ => ∃ t, c = .bool t ∧ (if t = true then EV B f n hd (eval r f.env) σ₃ (fun d σ₅ => EO2 B f n hd (vrel B) b d (compareOp o2) σ₅ (fun c' σ₆ => ∃ u, c' = .bool u ∧ Q u σ₆) X) X else Q false σ₃)) X) X) X) (hm : behindInMarks o2 r = false) :
    EB B f n hd (isTrue (.Compare l [o1, o2] [m, r] pos) f.env whole) σ Q X := fun A s hA hs =>
  isTrue_chain (h.via hA hs .refl fun ra s₁ a σ₁ h₁ st₁ st₁' va q₁ => test_link (q₁.via hA h₁ st₁ fun rb s₂ b σ₂ h₂ st₂ st₂' vb q₂ => q₂.via hA h₂ st₂ (va.step st₂') vb fun rc s₃ c σ₃ h₃ st₃ st₃' vc q₃ => by
    obtain ⟨t, e, q₃⟩ := q₃
    subst e
    cases vc
    refine wpAny_truthy_bool ?_
    cases t with
    | false => exact ⟨false, σ₃, h₃, st₃, rfl, q₃⟩
    | true =>
      rw [if_pos rfl] at q₃ ⊢
      refine test_last (q₃.via hA h₃ st₃ fun rd s₄ d σ₄ h₄ st₄ st₄' vd q₄ => q₄.via hA h₄ st₄ ((vb.step st₃').step st₄') vd fun rc s₅ c σ₅ h₅ st₅ st₅' vc q₅ => ?_)
      obtain ⟨u, e, q₅⟩ := q₅
      subst e
      cases vc
      exact wpAny_truthy_bool ⟨u, σ₅, h₅, st₅, rfl, q₅⟩)) hm
structure Snd (B : BC) (f : Fc) (n : Nat) (hd : Option Value) (X : Addr → St → Prop) (W : WP) : Prop where
  E : ∀ {e : Expr} {σ : St} {Q : AV → St → Prop}, W.E e σ Q → EV B f n hd (eval e f.env) σ Q X
  T : ∀ {e : Expr} {σ : St} {Q : Bool → St → Prop}, W.T e σ Q → EB B f n hd (isTrue e f.env (eval e f.env)) σ Q X
  L : ∀ {pos : Pos} {es : List Expr} {σ : St} {Q : List AV → St → Prop}, W.L pos es σ Q → EL B f n hd (spliced (backTo pos (starEach es f.env))) σ Q X
  S : ∀ {ss : List Stmt} {σ : St} {N : St → Prop} {K : AFlow → St → Prop}, W.S ss σ N K → ES B f n hd (execs ss f.env) σ N K X
variable {W : WP}
theorem freeze_here {a : Addr} {xs : List AV} {t : Sem Value} {σ : St} {Q : AV → St → Prop} (hc : σ.H a = some (.list xs)) (h : EV B f n hd t σ (fun v σ₁ => v = .ref a ∧ σ₁ = σ) X) (q : Q (.lst xs) ⟨σ.loc, σ.H.put a none⟩) : EV B f n hd t σ Q X :=
  EV.freeze (EX.imp h (fun v σ₁ ⟨e, e'⟩ => by subst e; subst e'; exact ⟨a, xs, rfl, hc, q⟩) fun _ _ q => q)
theorem freeze_vr_d {s : Shared} (hs : RS B f σ s) {a : Addr} {es : List (Str × AV)} (hc : σ.H a = some (.dict es)) : RS B f ⟨σ.loc, σ.H.put a none⟩ s ∧ SStep f σ s ⟨σ.loc, σ.H.put a none⟩ s ∧ VR B.prog B.w (PP f (σ.H.put a none)) s.heap (.dct es) (.ref a) := by
  have hle : ∀ b c, (σ.H.put a none) b = some c → σ.H b = some c := fun b c e => by
    unfold AH.put at e; split at e
    · cases e
    · exact e
  have st := forget_step (s := s) hs hle
  refine ⟨hs.forget hle, st, ?_⟩
  obtain ⟨hm, _, kvs, hl, hv⟩ := hs.rh.cells a _ hc
  refine .dct hl (fun q => ?_) hm (hv.step st)
  rcases q with q | q
  · exact q HG.here
  · rw [hs.rh.disj a q] at hc; cases hc
theorem freeze_here_d {a : Addr} {es : List (Str × AV)} {t : Sem Value} {σ : St} {Q : AV → St → Prop} (hc : σ.H a = some (.dict es)) (h : EV B f n hd t σ (fun v σ₁ => v = .ref a ∧ σ₁ = σ) X) (q : Q (.dct es) ⟨σ.loc, σ.H.put a none⟩) : EV B f n hd t σ Q X := fun A s hA hs =>
  h.via hA hs .refl fun r s₁ v σ₁ h₁ st₁ _ hr ⟨e, e'⟩ => by
    subst e; subst e'; cases hr
    obtain ⟨r1, r2, r3⟩ := freeze_vr_d h₁ hc
    exact ⟨.dct es, _, r1, st₁.trans r2, r3, q⟩
theorem EV.forget {t : Sem Value} {σ : St} {H' : AH} {Q : AV → St → Prop} (hle : ∀ b c, H' b = some c → σ.H b = some c) (h : EV B f n hd t ⟨σ.loc, H'⟩ Q X) : EV B f n hd t σ Q X := fun A s hA hs =>
  backW (forget_step (s := s) hs hle) (h A s hA (hs.forget hle))
theorem NmP_s (hn : f.names = ns) {x : Str} {p : Pos} {Q : AV → St → Prop} (h : NmP ns gl x σ Q) : EV B f n hd (eval (.Name x p) f.env) σ Q X := by
  induction h with
  | loc g q => exact d_name hn g q
  | frz g c q => exact freeze_here (by exact c) (d_name hn g ⟨rfl, rfl⟩) q
  | frzd g c q => exact freeze_here_d (by exact c) (d_name hn g ⟨rfl, rfl⟩) q
  | drop l _ ih => exact EV.forget (by exact l) ih
theorem wNm_s (hn : f.names = ns) (hg : f.gl = gl) {x : Str} {p : Pos} {Q : AV → St → Prop} (h : wNm ns gl ms x σ Q) : EV B f n hd (eval (.Name x p) f.env) σ Q X := by
  cases σ
  rcases getN_s h with ⟨v, g, q⟩ | h | h
  · exact d_name hn g q
  · exact NmP_s hn h
  · rcases getG_s h with ⟨v, g, q⟩ | h
    · exact d_glob hg g q
    · exact NmP_s hn h
theorem EM_of {pos : Pos} {args : List Expr} {name : Str} {ov : AV} {Q : AV → St → Prop} (s : Snd B f n hd X W) (hp : args.all plainArg = true) (h : MeP B f n hd X W pos args name ov σ Q) : EM B f n hd pos name ov args σ Q X := by
  cases h with
  | find h => exact m_find (EX.w (s.L h) (fun vs σ₁ q => by
      cases q with | mk i e q => subst e; exact ⟨_, rfl, q⟩)) hp
  | upper e a b => subst e; exact m_upper a b
  | join h => exact m_join (EX.w (s.L h) (fun vs σ₁ q => by
      cases q with
      | lst e z q => subst e; exact ⟨_, .inl rfl, z, q⟩
      | cell e z q => exact ⟨_, .inr ⟨_, rfl, e⟩, z, q⟩)) hp
  | append c h => exact m_append c (EX.w (s.L h) (fun vs σ₁ q => by
      cases q with
      | mk c z q => exact ⟨_, _, rfl, c, z, q⟩)) hp
  | own e M i c k h => subst e; exact m_own M i c k (EX.w (s.L h) (fun _ _ q => q.h)) hp
  | cls e M h => subst e; exact m_cls M hp (EX.w (s.L h) (fun _ _ q => q.h))
  | xinit e h => exact m_excinit e hp (s.L h)
  | raw h => exact h
theorem CaP_s {x : Str} {args : List Expr} {p pos : Pos} {Q : AV → St → Prop} {v : AV} (hg : f.gl = gl) (s : Snd B f n hd X W) (hp : args.all plainArg = true) (g : v = .none ∨ GHas gl x v) (h : CaP B f n hd X W x args p pos σ Q v) : EV B f n hd (eval (.Call (.Name x p) args [] pos) f.env) σ Q X := by
  have g' : v ≠ .none → GHas gl x v := fun h => g.resolve_left h
  cases h with
  | fn e k h => subst e; exact r_call (d_glob hg (g' (by simp)) (r_call_fn k.1 (EX.w (s.L h) fun vs σ₁ q => q.h) hp)) rfl
  | mk e m M h => subst e; subst m; exact r_call (d_glob hg (g' (by simp)) (r_make M hp (s.L h))) rfl
  | exc e m M h => subst e; subst m; exact r_call (d_glob hg (g' (by simp)) (r_exc M hp (s.L h))) rfl
  | dict e h => subst e; exact b_dict_m (hg ▸ g' (by simp)) hp (s.L h)
  | raw h => exact h
theorem wCa_s {x : Str} {args : List Expr} {p pos : Pos} {Q : AV → St → Prop} (hg : f.gl = gl) (s : Snd B f n hd X W) (hp : args.all plainArg = true) (h : wCa B f n hd X gl W x args p pos σ Q) : EV B f n hd (eval (.Call (.Name x p) args [] pos) f.env) σ Q X := by
  rcases getG_s h with ⟨v, g, h⟩ | h
  · cases v with
    | blt id => exact r_call (d_glob hg g (r_call_blt (EX.w (s.L h) fun vs σ₁ q => BlP_s q) hp)) rfl
    | _ => exact CaP_s hg s hp (.inr g) h
  · exact CaP_s hg s hp (.inl rfl) h
theorem wEDs_s (s : Snd B f n hd X W) {ks : List (Option Expr)} : ∀ {vs : List Expr} {σ : St} {Q : List (Str × AV) → St → Prop}, wEDs W ks vs σ Q → EDs B f n hd X ks vs σ Q := by
  induction ks with
  | nil => intro vs σ Q h; cases vs with
    | nil => exact .nil h
    | cons => exact h.elim
  | cons k ks ih => intro vs σ Q h; cases vs with
    | nil => exact h.elim
    | cons v vs => cases k with
      | none => exact h.elim
      | some k => exact .cons _ (fun x v σ₂ => wEDs W ks vs σ₂ fun es => Q ((x, v) :: es)) (s.E h) (fun kv σ₁ q => onS_e q (fun x q => ⟨x, rfl, s.E q⟩) False.elim) fun _ _ _ q => ih q
theorem wPt_s (s : Snd B f n hd X W) {e : Option Expr} {σ : St} {Q : Option Int → St → Prop} (h : wPt W e σ Q) : EPt B f n hd X e σ Q := by
  cases e with
  | none => exact h
  | some e => exact EX.w (s.E h) fun v σ₁ q => onI_e q (fun i q => ⟨i, rfl, q⟩) False.elim
theorem EPt.imp {e : Option Expr} {σ : St} {Q Q' : Option Int → St → Prop} (h : EPt B f n hd X e σ Q) (hq : ∀ v σ', Q v σ' → Q' v σ') : EPt B f n hd X e σ Q' := by
  cases e with
  | none => exact hq _ _ h
  | some e => exact EX.w h fun v σ' ⟨i, e, q⟩ => ⟨i, e, hq _ _ q⟩
theorem s40 {α : Type} {xs : List α} (h : short 40 xs = true) : xs.length ≤ sizeLine := Nat.le_trans (short_le h) (by decide)
section
variable {Q : AV → St → Prop}
theorem wConst_s {c : Const} {k : Nat} {pos : Pos} (h : wConst c σ Q) : EV B f n hd (eval (.Constant c k pos) f.env) σ Q X := by
  cases c with
  | int => exact r_int h
  | str => exact r_str h
  | none => exact r_none h
  | bool => exact r_bool h
  | _ => exact h.elim
theorem wUn_s (s : Snd B f n hd X W) {op : UnaryOp} {x : Expr} {pos : Pos} (h : wUn B f n hd X W op x σ Q) : EV B f n hd (eval (.UnaryOp op x pos) f.env) σ Q X := by
  cases op with
  | Not => exact r_not (EX.w (s.E h) fun _ _ q => wTru_s q)
  | USub => exact r_neg (EX.w (s.E h) fun _ _ q => onI_e q (fun i => o_neg) False.elim)
  | _ => exact h.elim
theorem wBo_s (s : Snd B f n hd X W) {op : BoolOp} {x : Expr} {r : List Expr} {pos : Pos} (h : wBo W op x r pos σ Q) : EV B f n hd (eval (.BoolOp op (x :: r) pos) f.env) σ Q X := by
  cases r with
  | nil => exact r_and1 (s.E h)
  | cons y r => cases op with
    | And => exact r_and (EX.w (s.E h) fun v _ q => by
        obtain ⟨b, e, q⟩ := wBool_s q
        exact ⟨b, e, by cases b; exact q; exact s.E q⟩)
    | Or => exact r_or (EX.w (s.E h) fun v _ q => by
        obtain ⟨b, e, q⟩ := wBool_s q
        exact ⟨b, e, by cases b; exact s.E q; exact q⟩)
theorem wSub_s (s : Snd B f n hd X W) {value slice : Expr} {pos : Pos} (h : wSub B f n hd X W value slice pos σ Q) : EV B f n hd (eval (.Subscript value slice pos) f.env) σ Q X := by
  have plain : (W.E value σ fun a σ₁ => W.E slice σ₁ fun b σ₂ => ItP B f n hd X value slice a b σ₂ Q) → EV B f n hd (eval (.Subscript value slice pos) f.env) σ Q X := fun h => r_sub (EX.w (s.E h) fun _ _ q => EX.w (s.E q) fun _ _ q => ItP_s q)
  cases slice with
  | Slice lo hi st p => cases st with
    | none => exact r_slice (EX.w (s.E h) fun a _ q => EPt.imp (wPt_s s q) fun i _ q => EPt.imp (wPt_s s q) fun j _ q => SlP_s q)
    | some st => exact h.h
  | _ => exact plain h
theorem wCall_s (hg : f.gl = gl) (s : Snd B f n hd X W) {g : Expr} {args : List Expr} {ks : List Keyword} {pos : Pos} (h : wCall B f n hd X gl W g args ks pos σ Q) : EV B f n hd (eval (.Call g args ks pos) f.env) σ Q X := by
  cases g with
  | Name x p =>
    exact cond_e h (fun e q => and_e e fun e hp => by cases ks with | nil => exact wCa_s hg s hp q | cons => cases e) Stop.h
  | Attribute o name apos =>
    exact cond_e h (fun e q => and_e e fun e hp => and_e hp fun h1 hp => and_e hp fun h2 hp => and_e hp fun h3 h4 => by
      cases ks with
      | nil => exact r_meth (EX.w (s.E q) fun _ _ q => EM_of s h2 q) h1 h2 (Nat.lt_of_le_of_lt (short_le h3) (by decide)) (beq_of_eq (Nat.eq_of_beq_eq_true h4))
      | cons => cases e) Stop.h
  | _ => exact h.h
theorem wDic_s (s : Snd B f n hd X W) {ks : List (Option Expr)} {vs : List Expr} {pos : Pos} (h : wDic B f n hd X W ks vs pos σ Q) : EV B f n hd (eval (.Dict ks vs pos) f.env) σ Q X := by
  cases ks with
  | nil =>
    exact cond_k h fun e h => by cases vs with | nil => exact r_dict0 h.h | cons => cases e
  | cons k r => exact cond_e h (fun e h => and_e e fun h1 hp => and_e hp fun h2 h3 => r_dict h1 h2 (List.cons_ne_nil _ _) h3 fun d hd' => wEDs_s s (h.h d hd')) Stop.h
end
theorem sndE (hn : f.names = ns) (hg : f.gl = gl) (s : Snd B f n hd X W) {e : Expr} {Q : AV → St → Prop} (h : stepE B f n hd X ns gl ms W e σ Q) : EV B f n hd (eval e f.env) σ Q X := by
  cases e with
  | Name x p => exact wNm_s hn hg h
  | Constant => exact wConst_s h
  | BinOp => exact r_bin (EX.w (s.E h) fun _ _ q => EX.w (s.E q) fun _ _ q => wBin_s q)
  | UnaryOp => exact wUn_s s h
  | IfExp => exact r_ifexp (EX.w (s.T h) fun c _ q => by cases c; exact s.E q; exact s.E q)
  | BoolOp op vs pos => cases vs with
    | nil => exact h.elim
    | cons x r => exact wBo_s s h
  | Compare =>
    exact lone_e h fun op h => lone_e h fun r h => cond_k h fun e h => r_cmp (EX.w (s.E h) fun _ _ q => EX.w (s.E q) fun _ _ q => wCmp_s q) (marks_no e)
  | Tuple => exact r_tuple (EX.w (s.L h) fun xs _ q => cond_k q fun e q => ⟨s40 e, q⟩)
  | List => exact r_list_any (EX.w (s.L h) fun xs _ q => cond_k q fun e q => ⟨s40 e, q⟩)
  | Subscript => exact wSub_s s h
  | Attribute =>
    exact cond_e h (fun e h => r_attr (EX.w (s.E h) fun _ _ q => AtP_s q) e) Stop.h
  | Call => exact wCall_s hg s h
  | Dict => exact wDic_s s h
  | _ => exact h.h
theorem sndT (s : Snd B f n hd X W) {e : Expr} {Q : Bool → St → Prop} (h : stepT B f n hd X W e σ Q) : EB B f n hd (isTrue e f.env (eval e f.env)) σ Q X := by
  have tvs : ∀ {e : Expr}, (tv e = true → isTrue e f.env (eval e f.env) = (do let v ← eval e f.env; standAt e.pos; holding [v] (truthy v))) → cond (tv e) (W.E e σ fun v σ₁ => wTru B f n hd X v σ₁ Q) (Stop (EB B f n hd (isTrue e f.env (eval e f.env)) σ Q X)) → EB B f n hd (isTrue e f.env (eval e f.env)) σ Q X := fun he h =>
    cond_e h (fun e h => r_tru (he e) (s.E h)) Stop.h
  cases e with
  | Compare l ops rs pos =>
    cases ops with
    | nil => exact h.elim
    | cons o1 os => cases rs with
      | nil => exact h.elim
      | cons m rs => cases os with
        | nil => cases rs with
          | nil => exact cond_k h fun e h => r_test_cmp (EX.w (s.E h) fun _ _ q => EX.w (s.E q) fun _ _ q => EO2.imp (wCmp_s q) fun _ _ q => wBool_s q) (marks_no e)
          | cons => exact h.elim
        | cons o2 os =>
          refine lone_e h fun r h => ?_
          cases os with
          | cons => exact h.elim
          | nil =>
            refine cond_k h fun e h => r_test_cmp2 (EX.w (s.E h) fun _ _ q => EX.w (s.E q) fun _ _ q => EO2.imp (wCmp_s q) fun c σ₃ q => ?_) (marks_no e)
            obtain ⟨t, e, q⟩ := wBool_s q
            exact ⟨t, e, by cases t; exact q; exact EX.w (s.E q) fun _ _ q => EO2.imp (wCmp_s q) fun _ _ q => wBool_s q⟩
  | UnaryOp op x pos => cases op with
    | Not => exact r_test_not (s.T h)
    | _ => exact h.elim
  | BoolOp op vs pos => cases op with
    | And =>
      suffices ∀ (whole : Sem Value) (σ : St), tAnd W vs σ Q → EB B f n hd (isTrue (.BoolOp .And vs pos) f.env whole) σ Q X from this _ _ h
      clear h
      induction vs with
      | nil => exact fun whole σ h => r_test_and_nil h
      | cons x r ih => exact fun whole σ h => r_test_and (EX.w (s.T h) fun b σ₁ q => by
          cases b
          · exact q
          · exact ih whole σ₁ q)
    | Or =>
      suffices ∀ (whole : Sem Value) (σ : St), tOr W vs σ Q → EB B f n hd (isTrue (.BoolOp .Or vs pos) f.env whole) σ Q X from this _ _ h
      clear h
      induction vs with
      | nil => exact fun whole σ h => r_test_or_nil h
      | cons x r ih => exact fun whole σ h => r_test_or (EX.w (s.T h) fun b σ₁ q => by
          cases b
          · exact ih whole σ₁ q
          · exact q)
  | Name => exact tvs (fun _ => rfl) h
  | Call => exact tvs (fun _ => rfl) h
  | Attribute => exact tvs (fun _ => rfl) h
  | Subscript => exact tvs (fun _ => rfl) h
  | Constant => exact tvs (fun _ => rfl) h
  | _ => exact h.h
theorem star_plain {e : Expr} {r : List Expr} {env : Env} (h : plainArg e = true) : starEach (e :: r) env = (false, eval e env) :: starEach r env := by
  cases e <;> first | rfl | cases h
theorem sndL (s : Snd B f n hd X W) {pos : Pos} {es : List Expr} {Q : List AV → St → Prop} (h : stepL W pos es σ Q) : EL B f n hd (spliced (backTo pos (starEach es f.env))) σ Q X := by
  cases es with
  | nil => exact r_items_nil h
  | cons e r => exact cond_k h fun e h => r_items_cons (EX.w (s.E h) fun _ _ q => s.L q) (star_plain e)
theorem folded_no {e : Expr} (h : noSet e = true) (env : Env) (x : Value) : foldedSetIterable e env x = pure x := by
  cases e <;> first | rfl | cases h
theorem ES.imp2 {t : Sem Flow} {N N' : St → Prop} {K K' : AFlow → St → Prop} (h : ES B f n hd t σ N K X) (hn : ∀ σ', N σ' → N' σ') (hk : ∀ v σ', K v σ' → K' v σ') : ES B f n hd t σ N' K' X :=
  EX.imp h (fun v σ' q => by cases v <;> first | exact hn _ q | exact hk _ _ q) fun _ _ q => q
theorem wTgt_go {X : Addr → St → Prop} (hn : f.names = ns) {tgt : Expr} {v : AV} {N : St → Prop} {Q : Unit → St → Prop} (h : wTgt ns tgt v N σ) (hq : ∀ σ, N σ → Q () σ) : EO1 B f n none (idrel (α := Unit)) v (fun r => assign tgt f.env r) σ Q X := by
  cases tgt with
  | Name x p => exact d_to_name hn (wSto_s h hq)
  | Tuple elts k p =>
    exact onT_e h (fun xs h => d_to_tuple hn (wStoL_s hq h)) False.elim
  | _ => exact h.elim
theorem WFor_s {X : Addr → St → Prop} (hn : f.names = ns) (s : Snd B f n none X W) {tgt : Expr} {body : List Stmt} {N : St → Prop} {K : AFlow → St → Prop} {xs : List AV} : ∀ {σ : St}, WFor ns W tgt body N K xs σ → ForS B f n tgt body N K X xs σ := by
  induction xs with
  | nil => exact fun h => h
  | cons x xs ih => exact fun h => wTgt_go hn h fun σ₁ q => ES.imp2 (s.S q) (fun _ q => ih q) (fun v σ' q => lk_imp (fun _ q => q) (fun _ q => ih q) v σ' q)
theorem isTup_ex {t : Expr} : isTup t = true → ∃ elts k p, t = .Tuple elts k p := by
  cases t <;> first | exact fun _ => ⟨_, _, _, rfl⟩ | exact fun h => nomatch h
theorem EX_EI {tw : Prop} {iter : Expr} {Q Q' : List AV → St → Prop} (h : EI B f n tw iter σ Q X) (hq : ∀ xs σ', Q xs σ' → Q' xs σ') : EI B f n tw iter σ Q' X := fun A s hA hs =>
  wpAny_mono (h A s hA hs) (fun _ _ q => wpAny_mono q (fun _ _ ⟨xs, σ', as, a, b, c, d, e, q⟩ => ⟨xs, σ', as, a, b, c, d, e, hq _ _ q⟩) fun _ _ q => q) fun _ _ q => q
theorem wSrc_s {v : AV} {Q : List AV → St → Prop} (h : wSrc v σ Q) : (∃ xs, v = .lst xs ∧ Q xs σ) ∨ ∃ x, v = .str x ∧ x.cps.all (· < 128) = true ∧ Q (x.cps.toList.map fun c => AV.str (sgn c)) σ := by
  exact onL_e h (fun xs h => .inl ⟨xs, rfl, h⟩) fun h => onS_e h (fun x h => .inr ⟨x, rfl, h⟩) False.elim
theorem wIter_s {X : Addr → St → Prop} (hg : f.gl = gl) (s : Snd B f n none X W) {tw : Bool} {P : Prop} (htw : tw = true → P) {iter : Expr} {Q : List AV → St → Prop} (h : wIter B f n none X gl tw W iter σ Q) : EI B f n P iter σ Q X := by
  have plain : (W.E iter σ fun v σ₁ => wSrc v σ₁ Q) → EI B f n P iter σ Q X := fun h => ei_val (EX.w (s.E h) fun _ _ q => wSrc_s q)
  cases iter with
  | Call g args ks pos =>
    have h : onN g fun x p => cond (ks.isEmpty && args.all plainArg) (getG x False (RiP B f n none X gl tw W x args p pos σ Q) gl) False := h
    clear plain
    refine onN_e h fun x p h => cond_k h fun e q => and_e e fun e hp => ?_
    cases ks with
    | cons => cases e
    | nil =>
      obtain ⟨v, g, q⟩ := (getG_s q).resolve_right id
      cases q with
      | range h => exact ei_range (hg ▸ g) (s.L h) hp
      | enum t h => exact ei_enum (htw t) (hg ▸ g) (s.L h) hp
      | call h => exact ei_val (EX.w (wCa_s hg s hp h) fun _ _ q => wSrc_s q)
  | _ => exact plain h
section
variable {N : St → Prop} {K : AFlow → St → Prop} {p : Pos}
theorem bnot {b : Bool} (h : (!b) = true) : b = false := by cases b; rfl; cases h
theorem any_idx {x : Str} {l : List Str} (h : l.any (· == x) = true) : ∃ i, Idx l x i := by
  induction l with
  | nil => cases h
  | cons y r ih =>
    rcases Bool.or_eq_true_iff.mp h with h | h
    · cases eq_of_beq h; exact ⟨_, .z⟩
    · obtain ⟨i, h⟩ := ih h; exact ⟨_, .s h⟩
theorem pair_go {X : Addr → St → Prop} (hn : f.names = ns) (s : Snd B f n none X W) {a b : Str} {pa pb tp vp : Pos} {v1 v2 : Expr} {k k' : Nat} {N' : St → Prop} (h : cond (pairOk ns a b pa pb v1 v2) (PaP f ns W a b v1 v2 vp σ N) False) (hN : ∀ σ, N σ → N' σ) :
    ES B f n none (exec (.Assign [.Tuple [.Name a pa, .Name b pb] k tp] (.Tuple [v1, v2] k' vp) p) f.env) σ N' K X :=
  cond_k h fun e h => and_e e fun e1 e => and_e e fun e2 e => and_e e fun e3 e => and_e e fun e4 e => and_e e fun e5 e => and_e e fun e6 e7 => by
    obtain ⟨i, hi⟩ := any_idx e6
    obtain ⟨j, hj⟩ := any_idx e7
    refine d_pair hn h.p hi hj (r_tuple (EX.w (s.L h.h) fun xs σ₁ q => ?_)) (bnot e1) (beq_of_eq (Nat.eq_of_beq_eq_true e2)) e3 (bnot e4) (bnot e5) (fun _ _ => rfl)
    match xs, q with
    | [x, y], q => exact ⟨(by decide : 2 ≤ sizeLine), _, _, rfl, wSto_s q fun _ q => wSto_s q hN⟩
    | [], q | [_], q | _ :: _ :: _ :: _, q => exact q.elim
theorem wTupA_s {X : Addr → St → Prop} (hn : f.names = ns) (s : Snd B f n none X W) {elts : List Expr} {k : Nat} {tp : Pos} {v : Expr} {N' : St → Prop} (h : wTupA f ns W elts v σ N) (hN : ∀ σ, N σ → N' σ) : ES B f n none (exec (.Assign [.Tuple elts k tp] v p) f.env) σ N' K X := by
  have plain : isTup v = false → cond (noComp v) (W.E v σ fun v σ₁ => onT v (fun xs => wStoL ns N elts xs σ₁) False) False → ES B f n none (exec (.Assign [.Tuple elts k tp] v p) f.env) σ N' K X := fun ht h => cond_k h fun e h =>
    d_unpack hn (EX.w (s.E h) fun v _ q => onT_e q (fun xs q => ⟨xs, rfl, wStoL_s hN q⟩) False.elim) (by intro l env; unfold swapsWithSole; exact swaps_no e _ _ _) (swapped_no ht _)
  cases v with
  | Tuple vs k' vp =>
    clear plain
    refine cond_e h (fun e h => d_unpack hn (r_tuple (EX.w (s.L h) fun xs σ₁ q => cond_k q fun e q => ⟨s40 e, xs, rfl, wStoL_s hN q⟩)) (fun _ _ => rfl) (swapped_none e _)) fun h => pairOf_e h fun a pa b pb v1 v2 h => pair_go hn s h hN
  | _ => exact plain rfl h
theorem wAsg_s (hn : f.names = ns) (s : Snd B f n hd X W) {t v : Expr} {N' : St → Prop} (h : wAsg B f n hd X ns W t v p σ N K) (hN : ∀ σ, N σ → N' σ) : ES B f n hd (exec (.Assign [t] v p) f.env) σ N' K X := by
  cases t with
  | Name x xp =>
    exact cond_e h (fun e h => d_set hn (EX.w (s.E h) fun _ _ q => wSto_s q hN) (fun _ _ => swaps_no e _ _ _)) fun h => ES.imp h.h hN
  | Tuple elts k tp => cases hd with
    | none => exact wTupA_s hn s h hN
    | some => exact h.elim
  | Attribute => exact cond_k h fun e h => r_set_attr (EX.w (s.E h) fun _ _ q => EX.w (s.E q) fun _ _ q => EO2.imp (SaP_s q) fun _ _ q => hN _ q) (fun _ _ => swaps_no e _ _ _)
  | Subscript => exact cond_k h fun e h => r_set_sub (EX.w (s.E h) fun _ _ q => EX.w (s.E q) fun _ _ q => EX.w (s.E q) fun _ _ q => EO3.imp (SsP_s q) fun _ _ q => hN _ q) (fun _ _ => swaps_no e _ _ _)
  | _ => exact h.elim
theorem wAug_s (hn : f.names = ns) (s : Snd B f n hd X W) {t v : Expr} {op : Operator} {N' : St → Prop} (h : wAug B f n hd X ns W t op v p σ N K) (hN : ∀ σ, N σ → N' σ) : ES B f n hd (exec (.AugAssign t op v p) f.env) σ N' K X := by
  cases t with
  | Name x xp =>
    cases σ
    rcases getN_s h with ⟨v₀, g, h⟩ | h | h
    · exact d_aug hn g (EX.w (s.E h) fun _ _ q => EO2.imp (wIop_s q) fun _ _ q => wSto_s q hN)
    · exact h.elim
    · exact h.elim
  | Attribute => exact r_aug_attr (EX.w (s.E h) fun _ _ q => EO1.imp (AtP_s q) fun _ _ q => EX.w (s.E q) fun _ _ q => EO2.imp (wIop_s q) fun _ _ q => EO2.imp (SaP_s q) fun _ _ q => hN _ q)
  | _ => exact ES.imp h.h hN
theorem stepO_s (hn : f.names = ns) (hg : f.gl = gl) (s : Snd B f n hd X W) {t : Stmt} {N' : St → Prop} (h : stepO B f n hd X ns gl W t σ N K) (hN : ∀ σ, N σ → N' σ) : ES B f n hd (exec t f.env) σ N' K X := by
  cases t with
  | Pass => exact r_pass (hN _ h)
  | Break => exact r_break h
  | Continue => exact r_continue h
  | Return e => cases e with
    | none => exact r_return_none h
    | some e => exact r_return (s.E h)
  | If => exact r_if (EX.w (s.T h) fun c σ₁ q => by
      cases c
      · exact ES.imp (s.S q) hN
      · exact ES.imp (s.S q) hN)
  | Expr => exact cond_k h fun e h => r_expr (EX.w (s.E h) fun _ _ q => hN _ q) (fun _ _ => swaps_no e _ _ _)
  | Assign ts v p =>
    exact lone_e h fun t h => wAsg_s hn s h hN
  | AugAssign => exact wAug_s hn s h hN
  | Raise e c => cases e with
    | none => exact h.elim
    | some e => cases c with
      | some => exact h.elim
      | none => exact r_raise (EX.w (s.E h) fun v σ₁ q => by
          cases q with
          | mk a b c d => exact ⟨_, _, _, _, rfl, a, b, c, d⟩)
  | While t b o p =>
    exact cond_k h fun e h => by cases o with | nil => exact r_while (WH.imp h.h hN) | cons => cases e
  | For tgt it b o p =>
    refine cond_k h fun e q => and_e e fun e0 e => and_e e fun e1 e2 => ?_
    cases o with
    | cons => cases e0
    | nil => cases hd with
    | some => cases e2
    | none => exact ES.imp (r_for_i (EX_EI (wIter_s hg s isTup_ex q) fun _ _ q => WFor_s hn s q) (folded_no e1)) hN
  | _ => exact ES.imp h.h hN
end
theorem sndS (hn : f.names = ns) (hg : f.gl = gl) (s : Snd B f n hd X W) {ss : List Stmt} {N : St → Prop} {K : AFlow → St → Prop} (h : stepS B f n hd X ns gl W ss σ N K) : ES B f n hd (execs ss f.env) σ N K X := by
  cases ss with
  | nil => exact r_nil h
  | cons t r => exact r_cons (stepO_s hn hg s (N := fun σ₁ => W.S r σ₁ N K) h fun _ q => s.S q)
theorem snd (hn : f.names = ns) (hg : f.gl = gl) (k : Nat) (ms : List Bool := []) : Snd B f n hd X (wp B f n hd X ns gl ms k) := by
  induction k with
  | zero => exact ⟨fun h => h.h, fun h => h.h, fun h => h.h, fun h => h.h⟩
  | succ k ih => exact ⟨fun h => sndE hn hg ih h, fun h => sndT ih h, fun h => sndL ih h, fun h => sndS hn hg ih h⟩
theorem wh_stepm (ms : List Bool) (hn : f.names = ns) (hg : f.gl = gl) (k : Nat) {test : Expr} {body : List Stmt} {N : St → Prop} {K : AFlow → St → Prop}
    (h : (wp B f n hd X ns gl ms k).T test σ (fun b σ₁ => br b ((wp B f n hd X ns gl ms k).S body σ₁ (WH B f n hd test body N K X) (lk (WH B f n hd test body N K X) N K)) (N σ₁))) : WH B f n hd test body N K X σ :=
  wh_turn (EX.w ((snd hn hg k ms).T h) fun b σ₁ q => by
    cases b
    · exact q
    · exact (snd hn hg k ms).S q)
theorem wh_step (hn : f.names = ns) (hg : f.gl = gl) (k : Nat) {test : Expr} {body : List Stmt} {N : St → Prop} {K : AFlow → St → Prop}
    (h : (wp B f n hd X ns gl [] k).T test σ (fun b σ₁ => br b ((wp B f n hd X ns gl [] k).S body σ₁ (WH B f n hd test body N K X) (lk (WH B f n hd test body N K X) N K)) (N σ₁))) : WH B f n hd test body N K X σ := wh_stepm [] hn hg k h
end
end Mine
end
section
open PySem PySem.W PyProof.Rows PySem.Calls
namespace Mine
theorem c_defm (ms : List Bool) {B : BC} {n : Nat} (hB : KB B) {fa : Addr} {oc : Value} {od : Option Addr} {osl : Array (Option Value)} {fd : FuncData} {body : List Stmt} (names : List Str) (gl : List (Str × AV)) {vs : List AV} {H : AH} {Q : AV → AH → Prop} {X : Addr → AH → Prop} {loc : List (Option AV)}
    (hl : (kk.heap_1 B.w.params).lookup fa = some ⟨oc, od, .func fd, osl⟩) (hk : keepIn (kk.heap_1 B.w.params) (.ref fa) = true) (hcd : codeIn (kk.heap_1 B.w.params) fd.code fd.qualname = true) (hbody : fd.body = .stmts body) (O : FnOk B fd names gl)
    (hlen : Nat.ble vs.length names.length = true) (hloc : mkLoc names vs = loc) (hbind : ∀ rs : List Value, rs.length = vs.length → bindArgs fd ⟨rs, []⟩ = pure (names.zip rs))
    (hbody' : ∀ f : Fc, f.names = names → f.gl = gl → Plain f → (wp B f n none (fun a σ => X a σ.H) names gl ms 60).S body ⟨loc, H⟩ (fun σ => Q .none σ.H) (retk Q)) :
    CallP B (n + 1) (.ref fa) vs H Q X :=
  call_def hB names gl hl hk hcd hbody O (Nat.le_of_ble_eq_true hlen) hbind fun f hn hg hp => hloc ▸ (snd hn hg 60 ms).S (hbody' f hn hg hp)
theorem c_def {B : BC} {n : Nat} (hB : KB B) {fa : Addr} {oc : Value} {od : Option Addr} {osl : Array (Option Value)} {fd : FuncData} {body : List Stmt} (names : List Str) (gl : List (Str × AV)) {vs : List AV} {H : AH} {Q : AV → AH → Prop} {X : Addr → AH → Prop} {loc : List (Option AV)}
    (hl : (kk.heap_1 B.w.params).lookup fa = some ⟨oc, od, .func fd, osl⟩) (hk : keepIn (kk.heap_1 B.w.params) (.ref fa) = true) (hcd : codeIn (kk.heap_1 B.w.params) fd.code fd.qualname = true) (hbody : fd.body = .stmts body) (O : FnOk B fd names gl)
    (hlen : Nat.ble vs.length names.length = true) (hloc : mkLoc names vs = loc) (hbind : ∀ rs : List Value, rs.length = vs.length → bindArgs fd ⟨rs, []⟩ = pure (names.zip rs))
    (hbody' : ∀ f : Fc, f.names = names → f.gl = gl → Plain f → (wp B f n none (fun a σ => X a σ.H) names gl [] 60).S body ⟨loc, H⟩ (fun σ => Q .none σ.H) (retk Q)) :
    CallP B (n + 1) (.ref fa) vs H Q X :=
  c_defm [] hB names gl hl hk hcd hbody O hlen hloc hbind hbody'
theorem kB {B : BC} (hB : KB B) : B.K = kk.heap_1 B.w.params := hB
theorem c_defdm (ms : List Bool) {B : BC} {n : Nat} (hB : KB B) {fa : Addr} {oc : Value} {od : Option Addr} {osl : Array (Option Value)} {fd : FuncData} {body : List Stmt} (names : List Str) (gl : List (Str × AV)) {vs dv : List AV} {H : AH} {Q : AV → AH → Prop} {X : Addr → AH → Prop} {loc : List (Option AV)} (ds : List Value)
    (hl : (kk.heap_1 B.w.params).lookup fa = some ⟨oc, od, .func fd, osl⟩) (hk : keepIn (kk.heap_1 B.w.params) (.ref fa) = true) (hcd : codeIn (kk.heap_1 B.w.params) fd.code fd.qualname = true) (hbody : fd.body = .stmts body) (O : FnOk B fd names gl)
    (hlen : Nat.ble (vs ++ dv).length names.length = true) (hloc : mkLoc names (vs ++ dv) = loc) (hbind : ∀ (s : Shared) (rs : List Value), (kk.heap_1 B.w.params).In s.heap → rs.length = vs.length → BindsTo s fd ⟨rs, []⟩ (names.zip (rs ++ ds)))
    (hds : ∀ P h, (kk.heap_1 B.w.params).In h → (∀ a o, B.base.get? a = some o → ¬ P a) → VRs B.prog B.w P h dv ds)
    (hbody' : ∀ f : Fc, f.names = names → f.gl = gl → Plain f → (wp B f n none (fun a σ => X a σ.H) names gl ms 60).S body ⟨loc, H⟩ (fun σ => Q .none σ.H) (retk Q)) :
    CallP B (n + 1) (.ref fa) vs H Q X :=
  fn_call (dv := dv) (body := body) (names := names) (gl := gl) (by rw [kB hB]; exact hl) (by rw [kB hB]; exact hk) (by rw [kB hB]; exact hcd) hbody O
    (fun s rs hK hr => ⟨ds, hbind s rs (by rw [← kB hB]; exact hK) hr, fun P h hK hP => hds P h (by rw [← kB hB]; exact hK) hP⟩) (fun f hn hg hp => by
      rw [← mkLoc_eq (Nat.le_of_ble_eq_true hlen), hloc]; exact (snd hn hg 60 ms).S (hbody' f hn hg hp))
theorem c_defd {B : BC} {n : Nat} (hB : KB B) {fa : Addr} {oc : Value} {od : Option Addr} {osl : Array (Option Value)} {fd : FuncData} {body : List Stmt} (names : List Str) (gl : List (Str × AV)) {vs dv : List AV} {H : AH} {Q : AV → AH → Prop} {X : Addr → AH → Prop} {loc : List (Option AV)} (ds : List Value)
    (hl : (kk.heap_1 B.w.params).lookup fa = some ⟨oc, od, .func fd, osl⟩) (hk : keepIn (kk.heap_1 B.w.params) (.ref fa) = true) (hcd : codeIn (kk.heap_1 B.w.params) fd.code fd.qualname = true) (hbody : fd.body = .stmts body) (O : FnOk B fd names gl)
    (hlen : Nat.ble (vs ++ dv).length names.length = true) (hloc : mkLoc names (vs ++ dv) = loc) (hbind : ∀ (s : Shared) (rs : List Value), (kk.heap_1 B.w.params).In s.heap → rs.length = vs.length → BindsTo s fd ⟨rs, []⟩ (names.zip (rs ++ ds)))
    (hds : ∀ P h, (kk.heap_1 B.w.params).In h → (∀ a o, B.base.get? a = some o → ¬ P a) → VRs B.prog B.w P h dv ds)
    (hbody' : ∀ f : Fc, f.names = names → f.gl = gl → Plain f → (wp B f n none (fun a σ => X a σ.H) names gl [] 60).S body ⟨loc, H⟩ (fun σ => Q .none σ.H) (retk Q)) :
    CallP B (n + 1) (.ref fa) vs H Q X :=
  c_defdm [] hB names gl ds hl hk hcd hbody O hlen hloc hbind hds hbody'
theorem kp_of {B : BC} (hB : KB B) {a : Addr} (h' : typeIn (kk.heap_1 B.w.params) (.ref a) = some (.type "function")) (h : keepIn (kk.heap_1 B.w.params) (.ref a) = true) : keepIn B.K (.ref a) = true ∧ typeIn B.K (.ref a) = some (.type "function") := by rw [kB hB]; exact ⟨h, h'⟩
theorem CallP.mono {B : BC} {n m : Nat} {fv : Value} {vs : List AV} {H : AH} {Q : AV → AH → Prop} {X : Addr → AH → Prop} (h : CallP B n fv vs H Q X) (le : n ≤ m) : CallP B m fv vs H Q X :=
  ⟨h.1, fun A s Fs G rs h1 h2 h3 h4 => h.2 A s Fs G rs h1 h2 (Nat.le_trans (Nat.add_le_add_left (Nat.mul_le_mul_left _ le) _) h3) (Nat.le_trans (Nat.add_le_add_left (Nat.mul_le_mul_left _ le) _) h4)⟩
theorem cafn {B : BC} {f : Fc} {n : Nat} {X : Addr → St → Prop} {W : WP} {x : Str} {args : List Expr} {p pos : Pos} {σ : St} {Q : AV → St → Prop} {fa : Addr} (hB : KB B) (h' : typeIn (kk.heap_1 B.w.params) (.ref fa) = some (.type "function")) (h : keepIn (kk.heap_1 B.w.params) (.ref fa) = true) (w : W.L pos args σ fun vs σ₁ => CW B n X fa vs σ₁ Q) : CaP B f n none X W x args p pos σ Q (.ref fa) := .fn rfl (kp_of hB h' h) w
noncomputable def Shrt (k : Nat) (x : Str) : Prop := x.length ≤ k * 2000
theorem Shrt.app {a b : Nat} {x y : Str} (h : Shrt a x) (h' : Shrt b y) : Shrt (a + b) (x ++ y) := by unfold Shrt at *; rw [PySem.Str.length_append, Nat.add_mul]; exact Nat.add_le_add h h'
theorem Shrt.lit {x : Str} (h : Nat.ble x.length 2000 = true) : Shrt 1 x := Nat.le_of_ble_eq_true h
theorem sz_of {a b : Nat} {x y : Str} (h : Shrt a x) (h' : Shrt b y) (hk : a + b ≤ 8000) : x.length + y.length ≤ sizeLine :=
  Nat.le_trans (Nat.add_le_add h h') (Nat.le_trans (Nat.le_of_eq (Nat.add_mul ..).symm) (Nat.le_trans (Nat.mul_le_mul_right 2000 hk) (by rw [sizeLine_eq]; decide)))
theorem CW.of {B : BC} {n m : Nat} {X : Addr → St → Prop} {fa : Addr} {vs : List AV} {σ : St} {Q : AV → St → Prop} (h : CallP B m (.ref fa) vs σ.H (fun v H' => Q v ⟨σ.loc, H'⟩) (fun a H' => X a ⟨σ.loc, H'⟩)) (le : m ≤ n) : CW B n X fa vs σ Q := ⟨h.mono le⟩
section
variable {B : BC} {C : Addr} {x : Str}
theorem cls_some {K : Frag} {C : Addr} (h : ∃ oc od cd sl, K.lookup C = some ⟨oc, od, .cls cd, sl⟩ ∧ cd.hasDict = true ∧ PassM cd.mro) : (clsIn K C).isSome = true := by
  obtain ⟨oc, od, cd, sl, h, _⟩ := h
  unfold clsIn; rw [h]; rfl
theorem noAt (hB : KB B) (a : findIn (kk.heap_1 B.w.params) (.ref C) "__getattribute__" = some (some (.builtin "object.__getattribute__"))) (b : findIn (kk.heap_1 B.w.params) (.ref C) x = some none) (c : ∃ oc od cd sl, (kk.heap_1 B.w.params).lookup C = some ⟨oc, od, .cls cd, sl⟩ ∧ cd.hasDict = true ∧ PassM cd.mro) : NoAt B.K C x := by
  rw [kB hB]; exact ⟨a, b, let ⟨oc, od, cd, sl, h, h', _⟩ := c; ⟨oc, od, cd, sl, h, h'⟩⟩
theorem xNoAt (hB : KB B) (a : findIn (kk.heap_1 B.w.params) (.ref C) "__getattribute__" = some (some (.builtin "BaseException.__getattribute__"))) (a' : findIn (kk.heap_1 B.w.params) (.ref C) "__getattr__" = some none) (b : findIn (kk.heap_1 B.w.params) (.ref C) x = some none)
    (c : ∃ oc od cd sl, (kk.heap_1 B.w.params).lookup C = some ⟨oc, od, .cls cd, sl⟩ ∧ cd.hasDict = true ∧ PassM cd.mro) (d : subIn (kk.heap_1 B.w.params) (.ref C) (.type "BaseException") = some true) : XNoAt B.K C x := by
  rw [kB hB]; exact ⟨a, a', b, let ⟨oc, od, cd, sl, h, h', _⟩ := c; ⟨oc, od, cd, sl, h, h'⟩, d⟩
theorem meAt (hB : KB B) {fa : Addr} (a : findIn (kk.heap_1 B.w.params) (.ref C) "__getattribute__" = some (some (.builtin "object.__getattribute__"))) (b : findIn (kk.heap_1 B.w.params) (.ref C) "__getattr__" = some none) (c : findIn (kk.heap_1 B.w.params) (.ref C) x = some (some (.ref fa)))
    (d : typeIn (kk.heap_1 B.w.params) (.ref fa) = some (.type "function")) (e : keepIn (kk.heap_1 B.w.params) (.ref fa) = true) : MeAt B.K C x fa := by
  rw [kB hB]; exact ⟨a, b, c, d, e⟩
theorem stAt (hB : KB B) (a : findIn (kk.heap_1 B.w.params) (.ref C) "__setattr__" = some (some (.builtin "object.__setattr__"))) (c : takerIn (kk.heap_1 B.w.params) C x = some none) (d : ∃ oc od cd sl, (kk.heap_1 B.w.params).lookup C = some ⟨oc, od, .cls cd, sl⟩ ∧ cd.hasDict = true ∧ PassM cd.mro) : StAt B.K C x := by
  rw [kB hB]; exact ⟨a, c, d⟩
theorem xCls (hB : KB B) (a : ∃ oc od cd sl, (kk.heap_1 B.w.params).lookup C = some ⟨oc, od, .cls cd, sl⟩ ∧ cd.hasDict = true ∧ PassM cd.mro) (b : typeIn (kk.heap_1 B.w.params) (.ref C) = some (.type "type")) (c : subIn (kk.heap_1 B.w.params) (.ref C) (.type "BaseException") = some true) : XCls B.K C := by
  rw [kB hB]; exact ⟨cls_some a, b, c⟩
theorem mkAt (hB : KB B) {fI : Addr} (a : keepIn (kk.heap_1 B.w.params) (.ref C) = true) (b : makesIn (kk.heap_1 B.w.params) C = true) (c : findIn (kk.heap_1 B.w.params) (.ref C) "__init__" = some (some (.ref fI))) (d : typeIn (kk.heap_1 B.w.params) (.ref fI) = some (.type "function")) : Mk B.K C fI := by
  rw [kB hB]; exact ⟨a, b, c, d⟩
theorem xkAt (hB : KB B) {fI : Addr} (a : keepIn (kk.heap_1 B.w.params) (.ref C) = true) (b : ∃ o, (kk.heap_1 B.w.params).lookup C = some o ∧ XOb o C) (c : findIn (kk.heap_1 B.w.params) (.ref C) "__init__" = some (some (.ref fI))) (d : typeIn (kk.heap_1 B.w.params) (.ref fI) = some (.type "function")) : Xk B.K C fI := by
  rw [kB hB]; exact ⟨a, b, c, d⟩
theorem clAt (hB : KB B) {fa : Addr} (a : specialIn (kk.heap_1 B.w.params) (.ref C) "__getattribute__" = some (some (.builtin "type.__getattribute__"))) (b : readsIn (kk.heap_1 B.w.params) C (.type "type") = true) (c : findCls (kk.heap_1 B.w.params) (.ref C) (.type "type") x = some (.val (.ref fa))) (d : keepIn (kk.heap_1 B.w.params) (.ref fa) = true) : ClM B.K C x fa := by
  rw [kB hB]; exact ⟨a, b, c, d⟩
theorem ctAt (hB : KB B) {Cl : Addr} {b : Bool} (a : subIn (kk.heap_1 B.w.params) (.ref C) (.ref Cl) = some b) (c : typeIn (kk.heap_1 B.w.params) (.ref Cl) = some (.type "type")) (d : subIn (kk.heap_1 B.w.params) (.ref Cl) (.type "BaseException") = some true) (e : ∃ oc od cd sl, (kk.heap_1 B.w.params).lookup Cl = some ⟨oc, od, .cls cd, sl⟩ ∧ cd.hasDict = true ∧ PassM cd.mro) : Ct B.K C Cl b := by
  rw [kB hB]; exact ⟨a, c, d, cls_some e⟩
end
theorem len0 {α : Type} {rs : List α} (h : rs.length = 0) : rs = [] := List.eq_nil_of_length_eq_zero h
section
variable {α : Type} {rs : List α} {C : List α → Prop}
@[elab_as_elim] theorem lenS {n : Nat} (h : rs.length = n + 1) (k : ∀ a r, r.length = n → C (a :: r)) : C rs := by
  cases rs with
  | nil => cases h
  | cons a r => exact k a r (Nat.succ.inj h)
@[elab_as_elim] theorem len1 (h : rs.length = 1) (k : ∀ a, C [a]) : C rs := lenS h fun a _ h => len0 h ▸ k a
@[elab_as_elim] theorem len2 (h : rs.length = 2) (k : ∀ a b, C [a, b]) : C rs := lenS h fun a _ h => len1 (C := fun r => C (a :: r)) h (k a)
@[elab_as_elim] theorem len3 (h : rs.length = 3) (k : ∀ a b c, C [a, b, c]) : C rs := lenS h fun a _ h => len2 (C := fun r => C (a :: r)) h (k a)
@[elab_as_elim] theorem len4 (h : rs.length = 4) (k : ∀ a b c d, C [a, b, c, d]) : C rs := lenS h fun a _ h => len3 (C := fun r => C (a :: r)) h (k a)
@[elab_as_elim] theorem len5 (h : rs.length = 5) (k : ∀ a b c d e, C [a, b, c, d, e]) : C rs := lenS h fun a _ h => len4 (C := fun r => C (a :: r)) h (k a)
end
end Mine
end
section
open PySem PySem.W PyProof.Rows PySem.Calls
namespace Mine
noncomputable def fH (f : Fc) (G : List Addr) : Fc := { f with hid := G ++ f.hid }
structure CfOk (f : Fc) (cn : List Str) : Prop where
  blk : f.env.blockKind = .function
  loc : f.env.locals = f.L
  kd : ∀ x ∈ f.names, if x ∈ cn then f.env.kindOf x = some .cell else f.env.kindOf x = some .local
  gl : ∀ p ∈ f.gl, f.env.kindOf p.1 = some .globalImplicit
noncomputable def fComp (f : Fc) (scope : Scope) (cl : List (Str × Addr)) (C D : Addr) (x : Str) (gl : List (Str × AV)) : Fc :=
  { env := compEnvC scope cl C f.env, fenv := f.fenv, outer := f.outer, names := [x], L := f.L, own := [C], hid := D :: (f.own ++ f.hid), gl }
section
variable {B : BC} {f : Fc} {n : Nat} {hd : Option Value} {σ σ₀ : St} {X : Addr → St → Prop} {s s₀ s₁ : Shared} {A : Around} {E : Value → Shared → Prop} {G : List Addr} {h' : Heap} {tk : Nat} {cn : List Str}
theorem pp_fH {H : AH} {a : Addr} : PP (fH f G) H a ↔ PP f H a ∨ a ∈ G := by
  show (H a ≠ none ∨ a ∈ frs f.Fs ∨ a ∈ f.own ++ (G ++ f.hid)) ↔ (H a ≠ none ∨ a ∈ frs f.Fs ∨ a ∈ f.own ++ f.hid) ∨ a ∈ G
  simp only [List.mem_append]
  constructor
  · rintro (h | h | h | h | h)
    · exact .inl (.inl h)
    · exact .inl (.inr (.inl h))
    · exact .inl (.inr (.inr (.inl h)))
    · exact .inr h
    · exact .inl (.inr (.inr (.inr h)))
  · rintro ((h | h | h | h) | h)
    · exact .inl h
    · exact .inr (.inl h)
    · exact .inr (.inr (.inl h))
    · exact .inr (.inr (.inr (.inr h)))
    · exact .inr (.inr (.inr (.inl h)))
theorem pp_comp {scope : Scope} {cl : List (Str × Addr)} {C D : Addr} {x : Str} {gl : List (Str × AV)} {H : AH} {a : Addr} : PP (fComp f scope cl C D x gl) H a ↔ PP (fH f [C, D]) H a := by
  rw [pp_fH]
  show (H a ≠ none ∨ a ∈ frs f.Fs ∨ a ∈ [C] ++ D :: (f.own ++ f.hid)) ↔ (H a ≠ none ∨ a ∈ frs f.Fs ∨ a ∈ f.own ++ f.hid) ∨ a ∈ [C, D]
  simp only [List.mem_append, List.mem_cons, List.not_mem_nil, or_false]
  constructor
  · rintro (h | h | h | h | h | h)
    · exact .inl (.inl h)
    · exact .inl (.inr (.inl h))
    · exact .inr (.inl h)
    · exact .inr (.inr h)
    · exact .inl (.inr (.inr (.inl h)))
    · exact .inl (.inr (.inr (.inr h)))
  · rintro ((h | h | h | h) | h | h)
    · exact .inl h
    · exact .inr (.inl h)
    · exact .inr (.inr (.inr (.inr (.inl h))))
    · exact .inr (.inr (.inr (.inr (.inr h))))
    · exact .inr (.inr (.inl h))
    · exact .inr (.inr (.inr (.inl h)))
theorem Kp.same {P P' : Addr → Prop} {h : Heap} (w : ∀ a, P' a → P a) : Kp P h P' h := ⟨fun _ _ e _ => .inl e, fun a _ _ n m => n (w a m)⟩
theorem RS.hide (hs : RS B f σ s) (cf : CfOk f cn) (hn : ∀ a ∈ G, s.heap.get? a = none) (hk : ∀ b o, s.heap.get? b = some o → h'.get? b = some o) (hl : ∀ a ∈ G, ∃ o, h'.get? a = some o) : RS B (fH f G) σ { s with heap := h', toks := tk } := by
  have kp : Kp (PP f σ.H) s.heap (PP (fH f G) σ.H) h' := ⟨fun a o e n => .inl (hk a o e), fun a o e n m => (pp_fH.mp m).elim n fun m => by rw [hn a m] at e; cases e⟩
  have g0 := (hs.grow (tk := tk) hk).1
  have live : ∀ a, PP f σ.H a → a ∉ G := fun a p m => by obtain ⟨o, e⟩ := hs.rh.live a p; rw [hn a m] at e; cases e
  have hok : FcOk B (fH f G) := ⟨hs.ok.kind, hs.ok.glob, hs.ok.blt, hs.ok.fr, hs.ok.ffr, hs.ok.loc, hs.ok.nd, hs.ok.nm, hs.ok.lnew, fun a m q => by
      rcases List.mem_append.mp q with q | q
      · exact live a (.inr (.inr (List.mem_append_left _ m))) q
      · exact hs.ok.onh a m q, hs.ok.inj, fun p hp => ⟨(hs.ok.gl p hp).1, (hs.ok.gl p hp).2.imp id fun ⟨a, b, c, m, e⟩ => ⟨a, b, c, List.mem_append_right _ m, e⟩⟩, hs.ok.frL⟩
  refine ⟨⟨fun a o e => hk a o (hs.rh.base a o e), hs.rh.gens, hs.rh.os, fun a c e => (hs.rh.cells a c e).kp kp (hk a), fun a m => (pp_fH.mp m).elim (hs.rh.nb a) fun m => base_none hs (hn a m), fun a m => (pp_fH.mp m).elim (fun p => let ⟨o, e⟩ := hs.rh.live a p; ⟨o, hk a o e⟩) (hl a), fun a m => ?_, fun a m q => ?_, g0.rh.stk⟩, hok, g0.ns, g0.cel, fun i x v hi hv => ?_, fun p hp c hc hl hk' => ?_⟩
  · rcases m with m | m
    · exact hs.rh.disj a (.inl m)
    · rcases List.mem_append.mp m with m | m
      · exact hs.rh.disj a (.inr (List.mem_append_left _ m))
      · rcases List.mem_append.mp m with m | m
        · exact H_none hs (hn a m)
        · exact hs.rh.disj a (.inr (List.mem_append_right _ m))
  · rcases List.mem_append.mp q with q | q
    · exact hs.rh.apart a m (List.mem_append_left _ q)
    · rcases List.mem_append.mp q with q | q
      · exact live a (.inr (.inl m)) q
      · exact hs.rh.apart a m (List.mem_append_right _ q)
  · obtain ⟨rv, hnm, hr⟩ := hs.loc i x v hi hv
    exact ⟨rv, NameIs.keep (fun b _ o e => hk b o e) hnm, hr.kp kp⟩
  · have := cf.gl p hp
    have hk' : f.env.kindOf p.1 = some .cell ∨ f.env.kindOf p.1 = some .free := hk'
    rcases hk' with q | q <;> rw [this] at q <;> cases q
theorem RS.unhide (ok : FcOk B f) (cf : CfOk f cn) (hd : ∀ a ∈ f.hid, a ∉ G) (hs : RS B (fH f G) σ s) (hk : ∀ b, b ∉ G → h'.get? b = s.heap.get? b) : RS B f σ { s with heap := h', toks := tk } := by
  have kp : Kp (PP (fH f G) σ.H) s.heap (PP f σ.H) h' := ⟨fun a o e n => .inl ((hk a fun q => n (pp_fH.mpr (.inr q))).trans e), fun a o e n m => n (pp_fH.mpr (.inl m))⟩
  have off : ∀ a, PP f σ.H a → a ∉ G := fun a p m => by
    have mG : a ∈ (fH f G).G := List.mem_append_right _ (List.mem_append_left _ m)
    rcases p with p | p | p
    · exact p (hs.rh.disj a (.inr mG))
    · exact hs.rh.apart a p mG
    · rcases List.mem_append.mp p with p | p
      · exact hs.ok.onh a p (List.mem_append_left _ m)
      · exact hd a p m
  have up : ∀ a, PP f σ.H a → h'.get? a = s.heap.get? a := fun a p => hk a (off a p)
  have ownP : ∀ b, b = f.env.locals ∨ b ∈ f.own → PP f σ.H b := fun b m => by
    rcases m with rfl | m
    · rcases ok.loc with q | q
      · right; left; rw [q]; show f.L ∈ List.filterMap _ (f.fenv :: f.outer); rw [List.filterMap_cons, ok.ffr]; exact .head _
      · exact .inr (.inr (List.mem_append_left _ q))
    · exact .inr (.inr (List.mem_append_left _ m))
  refine ⟨⟨fun a o e => (hk a fun q => ?_).trans (hs.rh.base a o e), hs.rh.gens, hs.rh.os, fun a c e => (hs.rh.cells a c e).kp kp fun o e' => (up a (.inl (by rw [e]; simp))).trans e', fun a m => hs.rh.nb a (pp_fH.mpr (.inl m)), fun a m => let ⟨o, e⟩ := hs.rh.live a (pp_fH.mpr (.inl m)); ⟨o, (up a m).trans e⟩, fun a m => hs.rh.disj a (m.imp id fun m => ?_), fun a m q => hs.rh.apart a m ?_, funFrames_of hs.rh.stk fun b o m e d => ⟨o, (up b (.inr (.inl m))).trans e, d⟩⟩, ok, ?_, fun x c hx hk' hc => ?_, fun i x v hi hv => ?_, fun p hp c hc hl hk' => ?_⟩
  · have z := hs.rh.nb a (pp_fH.mpr (.inr q)); rw [e] at z; cases z
  · rcases List.mem_append.mp m with m | m
    · exact List.mem_append_left _ m
    · exact List.mem_append_right _ (List.mem_append_right _ m)
  · rcases List.mem_append.mp q with q | q
    · exact List.mem_append_left _ q
    · exact List.mem_append_right _ (List.mem_append_right _ q)
  · obtain ⟨m, o, es, ep, ho, q⟩ := hs.ns
    exact ⟨m, o, es, ep, (up _ (ownP _ (.inl rfl))).trans ho, q⟩
  · obtain ⟨o, ho, z⟩ := hs.cel x c hx hk' hc
    obtain ⟨_, _, q⟩ := ok.nm x hx
    rcases q with q | ⟨_, c', hc', _, hl'⟩
    · rcases hk' with z | z <;> rw [q] at z <;> cases z
    · rw [hc] at hl'; cases hl'
      exact ⟨o, (up c (ownP _ (.inr hc'))).trans ho, z⟩
  · obtain ⟨rv, hnm, hr⟩ := hs.loc i x v hi hv
    exact ⟨rv, NameIs.keep (fun b m o e => (up b (ownP b m)).trans e) hnm, hr.kp kp⟩
  · have := cf.gl p hp
    rcases hk' with q | q <;> rw [this] at q <;> cases q
theorem lookup_relabel {env : Env} : ∀ {names : List (Str × NameKind)} {x : Str} {k : NameKind}, names.lookup x = some k →
    (names.map fun (n, k) => if (k == NameKind.free && env.scope.kind == .function && env.kindOf n == some .cell) then (n, NameKind.cell) else (n, k)).lookup x = some (if (k == NameKind.free && env.scope.kind == .function && env.kindOf x == some .cell) = true then .cell else k)
  | [], _, _, h => by simp at h
  | (n, k) :: r, x, k', h => by
    show List.lookup x ((if (k == NameKind.free && env.scope.kind == .function && env.kindOf n == some .cell) = true then (n, NameKind.cell) else (n, k)) :: _) = _
    cases hx : x == n with
    | true =>
      simp only [List.lookup_cons, hx] at h
      cases h
      have e : x = n := beq_iff_eq.mp hx
      subst e
      by_cases hc : (k == NameKind.free && env.scope.kind == .function && env.kindOf x == some .cell) = true
      · rw [if_pos hc, if_pos hc]; simp [List.lookup_cons]
      · rw [if_neg hc, if_neg hc]; simp [List.lookup_cons]
    | false =>
      simp only [List.lookup_cons, hx] at h
      have ih := @lookup_relabel env r x k' h
      by_cases hc : (k == NameKind.free && env.scope.kind == .function && env.kindOf n == some .cell) = true
      · rw [if_pos hc]; simp only [List.lookup_cons, hx]; exact ih
      · rw [if_neg hc]; simp only [List.lookup_cons, hx]; exact ih
structure ScOk (B : BC) (f : Fc) (scope : Scope) (x y : Str) (g2 : List (Str × AV)) : Prop where
  kind : scope.kind = .function
  cells : ∀ z ∈ scope.names, z.2 ≠ .cell
  locs : ∀ z ∈ scope.names, z.2 = .local → scope.names.lookup z.1 = some .local
  hx : scope.names.lookup x = some .local
  xd : (x == ("__debug__" : Str)) = false ∧ (x == ("__classdict__" : Str)) = false
  hy : scope.names.lookup y = some .free
  yd : (y == ("__debug__" : Str)) = false ∧ (y == ("__classdict__" : Str)) = false
  g2 : ∀ p ∈ g2, scope.names.lookup p.1 = some .globalImplicit ∧ (p.1 == ("__debug__" : Str)) = false ∧ ∃ rv, (∀ P h, VR B.prog B.w P h p.2 rv) ∧ (B.mg p.1 = some rv ∨ (B.mg p.1 = none ∧ B.mb p.1 = some rv))
section
variable {scope : Scope} {x y : Str} {v : AV} {g2 : List (Str × AV)} {c C D : Addr}
theorem comp_fr (hCL : C ≠ f.L) {gl : List (Str × AV)} {cl : List (Str × Addr)} : (fComp f scope cl C D x gl).fr = f.L :: frs f.outer := if_neg hCL
theorem L_frs (ok : FcOk B (fH f G)) : f.L ∈ frs f.Fs := by show f.L ∈ List.filterMap _ (f.fenv :: f.outer); rw [List.filterMap_cons, show f.fenv.frame = some f.L from ok.ffr]; exact .head _
set_option tactic.hygienic true in
theorem comp_ok (ok : FcOk B (fH f [C, D])) (cf : CfOk f cn) (hC : C ∉ frs f.Fs) (sc : ScOk B f scope x y g2) (hCD : C ≠ D) (hf : C ∉ f.hid) (hc : c ∈ f.own) : FcOk B (fComp f scope [(y, c)] C D x ((y, v) :: g2)) := by
  have onh := ok.onh
  have hLs := L_frs ok
  have hCL : C ≠ f.L := fun e => hC (e ▸ hLs)
  have kinds : ∀ {z : Str} {k : NameKind}, scope.names.lookup z = some k → (fComp f scope [(y, c)] C D x ((y, v) :: g2)).env.kindOf z = some (if (k == NameKind.free && f.env.scope.kind == .function && f.env.kindOf z == some .cell) = true then .cell else k) := fun h => lookup_relabel h
  refine ⟨sc.kind, ok.glob, ok.blt, ok.fr, ok.ffr, .inr (.head _), by simp [fComp], fun z hz => ?_, ok.lnew, fun a m q => ?_, fun a b c' h1 h2 => ?_, fun p hp => ?_, fun b m => ?_⟩
  · cases List.mem_singleton.mp hz
    exact ⟨sc.xd.1, sc.xd.2, .inl (lookup_relabel_local sc.hx)⟩
  · cases List.mem_singleton.mp m
    rcases List.mem_cons.mp q with q | q
    · exact hCD q
    · rcases List.mem_append.mp q with q | q
      · exact onh C q (List.mem_append_left _ (.head _))
      · exact hf q
  · have one : ∀ {z : Str}, List.lookup z [(y, c)] = some c' → z = y := fun {z} h => by
      rw [List.lookup_cons] at h
      split at h
      · rename_i e; exact beq_iff_eq.mp e
      · cases h
    exact (one h1).trans (one h2).symm
  · rcases List.mem_cons.mp hp with rfl | hp
    · refine ⟨sc.yd.1, .inr ⟨sc.yd.2, ?_, c, .tail _ (List.mem_append_left _ hc), ?_⟩⟩
      · rw [kinds sc.hy]
        split
        · exact .inl rfl
        · exact .inr rfl
      · show List.lookup y [(y, c)] = some c
        rw [List.lookup_cons, beq_self_eq_true]
    · obtain ⟨hk, h1, h2⟩ := sc.g2 p hp
      refine ⟨h1, .inl ⟨?_, h2⟩⟩
      rw [kinds hk]; rfl
  · rw [comp_fr hCL] at m
    rcases List.mem_cons.mp m with rfl | m
    · exact hLs
    · exact frs_outer m
theorem comp_in (hs : RS B (fH f [C, D]) σ s) (cf : CfOk f cn) (sc : ScOk B f scope x y g2) (hCD : C ≠ D) (hf : C ∉ f.hid) (hc : c ∈ f.own) (hcl : f.env.cells.lookup y = some c) (hy : f.env.kindOf y = some .cell) (hg : Got f.names y σ.loc v) (hn : ∃ m, s.heap.Ns C m) :
    RS B (fComp f scope [(y, c)] C D x ((y, v) :: g2)) ⟨[none], σ.H⟩ s := by
  have hCG : C ∈ (fH f [C, D]).G := List.mem_append_right _ (List.mem_append_left _ (.head _))
  have hC : C ∉ frs f.Fs := fun m => hs.rh.apart C m hCG
  have kp : Kp (PP (fH f [C, D]) σ.H) s.heap (PP (fComp f scope [(y, c)] C D x ((y, v) :: g2)) σ.H) s.heap := Kp.same fun a => pp_comp.mp
  have hG : ∀ a, a ∈ (fComp f scope [(y, c)] C D x ((y, v) :: g2)).G → a ∈ (fH f [C, D]).G := fun a m => by
    have m : a ∈ [C] ++ D :: (f.own ++ f.hid) := m
    show a ∈ f.own ++ ([C, D] ++ f.hid)
    simp only [List.mem_append, List.mem_cons, List.not_mem_nil, or_false] at m ⊢
    rcases m with m | m | m | m
    · exact .inr (.inl (.inl m))
    · exact .inr (.inl (.inr m))
    · exact .inl m
    · exact .inr (.inr m)
  refine ⟨⟨hs.rh.base, hs.rh.gens, hs.rh.os, fun a c e => (hs.rh.cells a c e).kp kp fun _ e => e, fun a m => hs.rh.nb a (pp_comp.mp m), fun a m => hs.rh.live a (pp_comp.mp m), fun a m => hs.rh.disj a (m.imp id (hG a)), fun a m q => hs.rh.apart a m (hG a q), hs.rh.stk⟩,
    comp_ok hs.ok cf hC sc hCD hf hc, hn, fun z c' hz hk _ => ?_, fun i z u _ hu => ?_, fun p hp c' hc' hl hk => ?_⟩
  · cases List.mem_singleton.mp hz
    rw [show (fComp f scope [(y, c)] C D x ((y, v) :: g2)).env.kindOf x = some .local from lookup_relabel_local sc.hx] at hk
    rcases hk with q | q <;> cases q
  · rcases i with _ | i <;> simp at hu
  · rcases List.mem_cons.mp hp with rfl | hp
    · have hl : List.lookup y [(y, c)] = some c' := hl
      rw [List.lookup_cons, beq_self_eq_true] at hl
      cases hl
      obtain ⟨i, hi, hgv⟩ := hg.idx
      obtain ⟨rv, hnm, hr⟩ := hs.loc i y v hi.get hgv
      rcases hnm with ⟨k, _⟩ | ⟨_, c₀, _, hl', ho⟩
      · rw [show (fH f [C, D]).env.kindOf y = some .cell from hy] at k; cases k
      · rw [show (fH f [C, D]).env.cells.lookup y = some c from hcl] at hl'
        cases hl'
        exact ⟨rv, ho, hr.kp kp⟩
    · obtain ⟨hk', _⟩ := sc.g2 p hp
      have := lookup_relabel (env := f.env) hk'
      rw [show (fComp f scope [(y, c)] C D x ((y, v) :: g2)).env.kindOf p.1 = some .globalImplicit from this] at hk
      rcases hk with q | q <;> cases q
theorem comp_out (hs : RS B (fH f [C, D]) σ s) (cf : CfOk f cn) {σ' : St} {cl : List (Str × Addr)} {gl : List (Str × AV)} (hf : C ∉ f.hid) (hs' : RS B (fComp f scope cl C D x gl) σ' s₁) {σ₁ : St} (hH : σ₁.H = σ.H) (st : SStep (fComp f scope cl C D x gl) σ₁ s σ' s₁) :
    RS B (fH f [C, D]) ⟨σ.loc, σ'.H⟩ s₁ ∧ ∃ m, s₁.heap.Ns C m := by
  have hCG : C ∈ (fH f [C, D]).G := List.mem_append_right _ (List.mem_append_left _ (.head _))
  have hC : C ∉ frs f.Fs := fun m => hs.rh.apart C m hCG
  have hCL : C ≠ f.L := fun e => hC (e ▸ L_frs hs.ok)
  have kp : Kp (PP (fH f [C, D]) σ.H) s.heap (PP (fH f [C, D]) σ'.H) s₁.heap := ⟨fun a o e n => st.keep a o e fun m => n (by rw [← hH]; exact pp_comp.mp m), fun a o e n m => st.dom a o e (fun m => n (by rw [← hH]; exact pp_comp.mp m)) (pp_comp.mpr m)⟩
  have kp' : Kp (PP (fComp f scope cl C D x gl) σ'.H) s₁.heap (PP (fH f [C, D]) σ'.H) s₁.heap := Kp.same fun a => pp_comp.mpr
  have hG : ∀ a, a ∈ (fH f [C, D]).G → a ∈ (fComp f scope cl C D x gl).G := fun a m => by
    have m : a ∈ f.own ++ ([C, D] ++ f.hid) := m
    show a ∈ [C] ++ D :: (f.own ++ f.hid)
    simp only [List.mem_append, List.mem_cons, List.not_mem_nil, or_false] at m ⊢
    rcases m with m | (m | m) | m
    · exact .inr (.inr (.inl m))
    · exact .inl m
    · exact .inr (.inl m)
    · exact .inr (.inr (.inr m))
  have ownk : ∀ a ∈ f.own, ∀ o, s.heap.get? a = some o → s₁.heap.get? a = some o := fun a m o e => st.hid a (.tail _ (List.mem_append_left _ m)) o e
  have nsk : ∀ m, s.heap.Ns f.env.locals m → s₁.heap.Ns f.env.locals m := fun m hm => ns_slots hm fun o e => by
    rw [cf.loc] at e ⊢
    exact st.fr f.L (by rw [comp_fr hCL]; exact .head _) o e
  refine ⟨⟨⟨hs'.rh.base, hs'.rh.gens, hs'.rh.os, fun a c e => (hs'.rh.cells a c e).kp kp' fun _ e => e, fun a m => hs'.rh.nb a (pp_comp.mpr m), fun a m => hs'.rh.live a (pp_comp.mpr m), fun a m => hs'.rh.disj a (m.imp id (hG a)), fun a m q => hs'.rh.apart a m (hG a q), hs'.rh.stk⟩,
    hs.ok, hs.ns.imp nsk, fun z c' hz hk hl => ?_, fun i z u hi hu => ?_, fun p hp c' hc' hl hk => ?_⟩, hs'.ns⟩
  · obtain ⟨o, ho, q⟩ := hs.cel z c' hz hk hl
    obtain ⟨_, _, w⟩ := hs.ok.nm z hz
    rcases w with w | ⟨_, c₀, hc₀, _, hl'⟩
    · rcases hk with k | k <;> rw [w] at k <;> cases k
    · rw [hl] at hl'; cases hl'
      exact ⟨o, ownk c' hc₀ o ho, q⟩
  · obtain ⟨rv, hnm, hr⟩ := hs.loc i z u hi hu
    refine ⟨rv, ?_, hr.kp kp⟩
    rcases hnm with ⟨a1, m, hm, e⟩ | ⟨a1, c₀, hc₀, hl, ho⟩
    · exact .inl ⟨a1, m, nsk m hm, e⟩
    · exact .inr ⟨a1, c₀, hc₀, hl, cell_via ho (ownk c₀ hc₀)⟩
  · have := cf.gl p hp
    have hk : f.env.kindOf p.1 = some .cell ∨ f.env.kindOf p.1 = some .free := hk
    rcases hk with q | q <;> rw [this] at q <;> cases q
theorem comp_step (cf : CfOk f cn) (hC : C ∉ frs f.Fs) {σ' σ₁ : St} {cl : List (Str × Addr)} {gl : List (Str × AV)} (ok : FcOk B (fH f [C, D])) (h0 : s₀.heap.get? C = none ∧ s₀.heap.get? D = none) (a : SStep (fH f [C, D]) σ₀ s₀ σ s) (hH : σ₁.H = σ.H) (st : SStep (fComp f scope cl C D x gl) σ₁ s σ' s₁) {l : List (Option AV)} : SStep (fH f [C, D]) σ₀ s₀ ⟨l, σ'.H⟩ s₁ := by
  have hCL : C ≠ f.L := fun e => hC (e ▸ L_frs ok)
  have fr : (fH f [C, D]).fr = frs f.outer := if_pos cf.loc
  refine ⟨fun b o e n => ?_, fun b m o e => ?_, fun b m o e => ?_, fun b o e n m => ?_, fun b o e => let ⟨o', e'⟩ := a.alive b o e; st.alive b o' e'⟩
  · have n' := a.dom b o e n
    have n'' : ¬ PP (fComp f scope cl C D x gl) σ₁.H b := fun m => n' (by rw [← hH]; exact pp_comp.mp m)
    rcases a.keep b o e n with q | ⟨t, o', q, t'⟩
    · exact st.keep b o q n''
    · rcases st.keep b o' q n'' with r | ⟨_, o'', r, t''⟩
      · exact .inr ⟨t, o', r, t'⟩
      · exact .inr ⟨t, o'', r, t''⟩
  · obtain ⟨sl, q⟩ := a.fr b m o e
    obtain ⟨sl', r⟩ := st.fr b (by rw [comp_fr hCL]; rw [fr] at m; exact .tail _ m) _ q
    exact ⟨sl', r⟩
  · have q := a.hid b m o e
    rcases List.mem_append.mp m with m | m
    · rcases List.mem_cons.mp m with rfl | m
      · rw [h0.1] at e; cases e
      · rw [List.mem_singleton.mp m, h0.2] at e; cases e
    · exact st.hid b (.tail _ (List.mem_append_right _ m)) o q
  · obtain ⟨o', e'⟩ := a.alive b o e
    exact st.dom b o' e' (fun m => a.dom b o e n (by rw [← hH]; exact pp_comp.mp m)) (pp_comp.mpr m)
theorem acc_turn (hs : RS B (fH f [C, D]) σ s) (cf : CfOk f cn) (hf : ∀ a ∈ f.hid, a ∉ [C, D]) (hCD : C ≠ D) (hsb : Heap.SameBut D s.heap h') (hal : ∃ o, h'.get? D = some o) (h0 : s₀.heap.get? C = none ∧ s₀.heap.get? D = none) (a : SStep (fH f [C, D]) σ₀ s₀ σ s) :
    RS B (fH f [C, D]) σ { s with heap := h', toks := tk } ∧ SStep (fH f [C, D]) σ₀ s₀ σ { s with heap := h', toks := tk } ∧ Kp (PP (fH f [C, D]) σ.H) s.heap (PP (fH f [C, D]) σ.H) h' := by
  have hDG : D ∈ (fH f [C, D]).G := List.mem_append_right _ (List.mem_append_left _ (.tail _ (.head _)))
  have hP : PP (fH f [C, D]) σ.H D := .inr (.inr hDG)
  have kp : Kp (PP (fH f [C, D]) σ.H) s.heap (PP (fH f [C, D]) σ.H) h' := ⟨fun b o e n => .inl ((hsb.2 b fun q => n (q ▸ hP)).trans e), fun _ _ _ n => n⟩
  have up : ∀ b, b ≠ D → h'.get? b = s.heap.get? b := fun b n => hsb.2 b n
  have hFs : D ∉ frs f.Fs := fun m => hs.rh.apart D m hDG
  have hH : σ.H D = none := hs.rh.disj D (.inr hDG)
  have ownD : ∀ b, b = f.env.locals ∨ b ∈ f.own → b ≠ D := fun b m e => by
    subst e
    rcases m with m | m
    · rw [m, cf.loc] at hFs; exact hFs (L_frs hs.ok)
    · exact hs.ok.onh b m (List.mem_append_left _ (.tail _ (.head _)))
  have hb : B.base.get? D = none := hs.rh.nb D hP
  refine ⟨⟨⟨fun b o e => (up b fun q => by rw [q, hb] at e; cases e).trans (hs.rh.base b o e), hs.rh.gens, hs.rh.os, fun b c e => (hs.rh.cells b c e).kp kp fun o e' => (up b fun q => by rw [q, hH] at e; cases e).trans e', hs.rh.nb, fun b m => ?_, hs.rh.disj, hs.rh.apart, funFrames_of hs.rh.stk fun b o m e d => ⟨o, (up b fun q => hFs (q ▸ m)).trans e, d⟩⟩,
    hs.ok, ?_, fun z c' hz hk hl => ?_, fun i z u hi hu => ?_, fun p hp c' hc' hl hk => ?_⟩, ⟨fun b o e n => ?_, fun b m o e => ?_, fun b m o e => ?_, a.dom, fun b o e => ?_⟩, kp⟩
  · by_cases q : b = D
    · rw [q]; exact hal
    · obtain ⟨o, e⟩ := hs.rh.live b m; exact ⟨o, (up b q).trans e⟩
  · obtain ⟨m, o, es, ep, ho, q⟩ := hs.ns
    exact ⟨m, o, es, ep, (up _ (ownD _ (.inl rfl))).trans ho, q⟩
  · obtain ⟨o, ho, q⟩ := hs.cel z c' hz hk hl
    obtain ⟨_, _, w⟩ := hs.ok.nm z hz
    rcases w with w | ⟨_, c₀, hc₀, _, hl'⟩
    · rcases hk with k | k <;> rw [w] at k <;> cases k
    · rw [hl] at hl'; cases hl'
      exact ⟨o, (up _ (ownD _ (.inr hc₀))).trans ho, q⟩
  · obtain ⟨rv, hnm, hr⟩ := hs.loc i z u hi hu
    exact ⟨rv, NameIs.keep (fun b m o e => (up b (ownD b m)).trans e) hnm, hr.kp kp⟩
  · have := cf.gl p hp
    have hk : f.env.kindOf p.1 = some .cell ∨ f.env.kindOf p.1 = some .free := hk
    rcases hk with q | q <;> rw [this] at q <;> cases q
  · have n' := a.dom b o e n
    have ne : b ≠ D := fun q => n' (q ▸ hP)
    rcases a.keep b o e n with q | ⟨t, o', q, t'⟩
    · exact .inl ((up b ne).trans q)
    · exact .inr ⟨t, o', (up b ne).trans q, t'⟩
  · obtain ⟨sl, q⟩ := a.fr b m o e
    exact ⟨sl, (up b fun z => hFs (z ▸ hs.ok.frL b m)).trans q⟩
  · exact (up b fun q => by rw [q, h0.2] at e; cases e).trans (a.hid b m o e)
  · obtain ⟨o', e'⟩ := a.alive b o e
    exact ⟨o', (up b fun q => by rw [q, h0.2] at e; cases e).trans e'⟩
end
end
end Mine
end
section
open PySem PySem.W PyProof.Rows PySem.Calls
namespace Mine
noncomputable def LcS (B : BC) (n : Nat) (elt : Expr) (x : Str) (gl : List (Str × AV)) (Q : List AV → AH → Prop) : List AV → List AV → AH → Prop
  | [], ys, H => Q ys H
  | v :: xs, ys, H => ∀ f' : Fc, f'.names = [x] → f'.gl = gl → EV B f' n none (eval elt f'.env) ⟨[some v], H⟩ (fun w σ' => LcS B n elt x gl Q xs (ys ++ [w]) σ'.H) (fun _ _ => False)
section
variable {prog : Program} {w : World} {A : Around} {E : Value → Shared → Prop} {R : Result → Shared → Prop} {s : Shared}
theorem code_lc {elt target iter : Expr} {scope : Scope} {pos : Pos} {it acc : Value} {env : Env}
    (h : wpAny (model prog w) A (pyNext it) (fun r s₁ => match r with
      | none => R (.ok .next) s₁
      | some v => wpAny (model prog w) A (letOwnedTupleGo target it v) (fun _ s₁' => wpAny (model prog w) A (assign target env v) (fun _ s₂ => wpAny (model prog w) A (eval elt env) (fun x s₃ =>
          wpAny (model prog w) A (call (.builtin "list.append") [acc, x]) (fun _ s₄ => codeAny (model prog w) A (.compLoop (.ListComp elt [⟨target, iter, [], 0⟩] scope pos) 0 it acc env) R s₄) (notedBy (model prog w) A env fun e s' => R (.error e) s') s₃)
          (notedBy (model prog w) A env fun e s' => R (.error e) s') s₂) (notedBy (model prog w) A env fun e s' => R (.error e) s') s₁') (notedBy (model prog w) A env fun e s' => R (.error e) s') s₁) (notedBy (model prog w) A env fun e s' => R (.error e) s') s) :
    codeAny (model prog w) A (.compLoop (.ListComp elt [⟨target, iter, [], 0⟩] scope pos) 0 it acc env) R s := by
  refine codeAny_of_tree ?_
  show wpAny _ A ((compTurn (.ListComp elt [⟨target, iter, [], 0⟩] scope pos) 0 it acc env).onRaise (fun x => do noteFrame x env; theTreesLotGoes x)) _ _ s
  refine wpAny_noted ?_
  rw [compTurn_list1]
  refine wpAny_bind (wpAny_standAt (wpAny_bind (wpAny_mono h (fun r s₁ h₁ => ?_) fun _ _ h' => h')))
  cases r with
  | none => exact wpAny_pure h₁
  | some v =>
    refine wpAny_bind (wpAny_mono h₁ (fun _ s₁' h₁' => ?_) fun _ _ h' => h')
    exact wpAny_bind (wpAny_mono h₁' (fun _ s₂ h₂ => wpAny_bind (wpAny_bind (wpAny_mono h₂ (fun x s₃ h₃ => wpAny_bind (wpAny_mono h₃
      (fun _ s₄ h₄ => wpAny_pure (wpAny_pure ⟨rfl, h₄⟩)) fun _ _ h' => h')) fun _ _ h' => h'))) fun _ _ h' => h')
end
theorem closure_one {scope : Scope} {env : Env} {y : Str} {c : Addr} {pre : List (Str × NameKind)} (hp : ∀ z ∈ pre, z.2 ≠ .free) (hn : scope.names = pre ++ [(y, .free)]) (hc : env.cells.lookup y = some c) : closureFor scope env = pure [(y, c)] := by
  simp only [closureFor]
  rw [hn]
  clear hn
  induction pre with
  | nil =>
    rw [List.nil_append, List.forIn_cons]
    unfold cellOf
    rw [hc]
    rfl
  | cons z pre ih =>
    obtain ⟨n, kind⟩ := z
    have : (kind == NameKind.free) = false := by simpa using hp _ (.head _)
    rw [List.cons_append, List.forIn_cons]
    simp only [this, Bool.false_eq_true, if_false, pure_bind]
    exact ih fun z m => hp z (.tail _ m)
section
variable {B : BC} {f : Fc} {n : Nat} {hd : Option Value} {σ σ₀ : St} {X : Addr → St → Prop} {s s₀ s₁ : Shared} {A : Around} {E : Value → Shared → Prop} {G : List Addr} {h' : Heap} {tk : Nat} {cn : List Str}
variable {scope : Scope} {x y : Str} {v : AV} {g2 : List (Str × AV)} {c C D : Addr}
theorem lc_loop {elt iter : Expr} {px pos : Pos} {as : List Addr} {it : Value} {Qf : List AV → AH → Prop} {loc : List (Option AV)} {R : Result → Shared → Prop} (cf : CfOk f cn) (sc : ScOk B f scope x y g2) (hCD : C ≠ D) (hf : ∀ a ∈ f.hid, a ∉ [C, D]) (hc : c ∈ f.own) (hcl : f.env.cells.lookup y = some c) (hy : f.env.kindOf y = some .cell) (hg : Got f.names y loc v)
    (h0 : ∀ a ∈ as, s₀.heap.get? a = none) (h1 : s₀.heap.get? C = none ∧ s₀.heap.get? D = none) (has : ∀ e i, as = [e, i] → False) (hnas : C ∉ as ∧ D ∉ as) (hA : AOk f n none A)
    (hR : ∀ H' s' ys items, RS B (fH f [C, D]) ⟨loc, H'⟩ s' → SStep (fH f [C, D]) σ₀ s₀ ⟨loc, H'⟩ s' → (∃ m, s'.heap.Ns C m) → LstAt s'.heap D items → VRs B.prog B.w (PP (fH f [C, D]) H') s'.heap ys items → Qf ys H' → R (.ok .next) s') :
    ∀ (xs ys : List AV) (H : AH) (s : Shared) (items : List Value), LcS B n elt x ((y, v) :: g2) Qf xs ys H → RS B (fH f [C, D]) ⟨loc, H⟩ s → SStep (fH f [C, D]) σ₀ s₀ ⟨loc, H⟩ s → Iter B (PP (fH f [C, D]) H) s.heap as it xs → (∃ m, s.heap.Ns C m) → LstAt s.heap D items → VRs B.prog B.w (PP (fH f [C, D]) H) s.heap ys items → ys.length + xs.length ≤ 1000 →
      codeAny (model B.prog B.w) A (.compLoop (.ListComp elt [⟨.Name x px, iter, [], 0⟩] scope pos) 0 it (.ref D) (compEnvC scope [(y, c)] C f.env)) R s
  | [], ys, H, s, items, F, hs, st, I, hn, hD, hv, _ => code_lc (iter_end I hs hA.hd fun s' T => hR H s' ys items T.rs (T.st σ₀ s₀ h0 st) (let ⟨m, o, es, ep, ho, q⟩ := hn; ⟨m, o, es, ep, T.keep C o hnas.1 ho, q⟩) (let ⟨k, ho⟩ := hD; ⟨k, T.keep D _ hnas.2 ho⟩) (T.vrs _ _ hv) F)
  | u :: xs, ys, H, s, items, F, hs, st, I, hn, hD, hv, hlen => by
    have ht : ∀ e i, as = [e, i] → ∃ elts k p, Expr.Name x px = .Tuple elts k p := fun e i q => (has e i q).elim
    refine code_lc (wpAny_mono (iter_next (E := notedBy (model B.prog B.w) A (compEnvC scope [(y, c)] C f.env) fun e s' => R (.error e) s') I hs ht (Q := fun r s₂ => wpAny (model B.prog B.w) A (assign (.Name x px) (compEnvC scope [(y, c)] C f.env) r) (fun _ s₃ => wpAny (model B.prog B.w) A (eval elt (compEnvC scope [(y, c)] C f.env)) (fun z s₄ => wpAny (model B.prog B.w) A (call (.builtin "list.append") [.ref D, z]) (fun _ s₅ => codeAny (model B.prog B.w) A (.compLoop (.ListComp elt [⟨.Name x px, iter, [], 0⟩] scope pos) 0 it (.ref D) (compEnvC scope [(y, c)] C f.env)) R s₅) (notedBy (model B.prog B.w) A (compEnvC scope [(y, c)] C f.env) fun e s' => R (.error e) s') s₄) (notedBy (model B.prog B.w) A (compEnvC scope [(y, c)] C f.env) fun e s' => R (.error e) s') s₃) (notedBy (model B.prog B.w) A (compEnvC scope [(y, c)] C f.env) fun e s' => R (.error e) s') s₂) ?_) (fun o s₁ q => by cases o with | none => exact q.elim | some v => exact q) fun _ _ q => q)
    intro r s₁ T hv₁ I₁
    have st₁ := T.st σ₀ s₀ h0 st
    obtain ⟨m, oC, es, ep, hoC, hmC⟩ := hn
    obtain ⟨kD, hoD⟩ := hD
    have hn₁ : ∃ m, s₁.heap.Ns C m := ⟨m, oC, es, ep, T.keep C oC hnas.1 hoC, hmC⟩
    have hD₁ : s₁.heap.get? D = some (listOf items.toArray kD) := T.keep D _ hnas.2 hoD
    have hvs₁ := T.vrs _ _ hv
    have hs₁ : RS B (fH f [C, D]) ⟨loc, H⟩ s₁ := T.rs
    have hfC : C ∉ f.hid := fun m => hf C m (.head _)
    have hCf : C ∉ frs f.Fs := fun m => hs₁.rh.apart C m (List.mem_append_right _ (List.mem_append_left _ (.head _)))
    have hin := comp_in hs₁ cf sc hCD hfC hc hcl hy hg hn₁
    have hAc : AOk (fComp f scope [(y, c)] C D x ((y, v) :: g2)) n none A := ⟨hA.frames, hA.hd, hA.depth, hA.units⟩
    have hv₁' : VR B.prog B.w (PP (fComp f scope [(y, c)] C D x ((y, v) :: g2)) H) s₁.heap u r := hv₁.kp (Kp.same fun a => pp_comp.mp)
    refine PyProof.Rows.assign_Name (set_local (f := fComp f scope [(y, c)] C D x ((y, v) :: g2)) (σ := ⟨[none], H⟩) (i := 0) .z hin .refl hv₁' fun s₂ hs₂ st₂ => ?_)
    refine wpAny_mono (F _ rfl rfl A s₂ hAc hs₂) (fun z s₃ q => ?_) fun e s' q => q.no.elim
    obtain ⟨u', σ₃, hs₃, st₃, hz, F₃⟩ := q
    have stc := st₂.trans st₃
    obtain ⟨ho, hn₃⟩ := comp_out hs₁ cf hfC hs₃ rfl stc
    have st₃' := comp_step (l := loc) cf hCf hs₁.ok h1 st₁ rfl stc
    have hD₃ : s₃.heap.get? D = some (listOf items.toArray kD) := stc.hid D (.head _) _ hD₁
    have kp₃ : Kp (PP (fH f [C, D]) H) s₁.heap (PP (fH f [C, D]) σ₃.H) s₃.heap := ⟨fun a o e n => stc.keep a o e fun m => n (pp_comp.mp m), fun a o e n m => stc.dom a o e (fun m => n (pp_comp.mp m)) (pp_comp.mpr m)⟩
    have hvs₃ := hvs₁.kp kp₃
    have hz' : VR B.prog B.w (PP (fH f [C, D]) σ₃.H) s₃.heap u' z := hz.kp (Kp.same fun a => pp_comp.mpr)
    have hl := hv.length
    refine append_at (hsz := by rw [List.size_toArray, ← hl]; simp only [List.length_cons] at hlen; exact Nat.le_trans (by omega : ys.length ≤ 1000) (by decide)) hD₃ fun h' hsb hD₄ => ?_
    obtain ⟨hs₄, st₄, kp₄⟩ := acc_turn (tk := s₃.toks) ho cf hf hCD hsb ⟨_, hD₄⟩ h1 st₃'
    refine lc_loop cf sc hCD hf hc hcl hy hg h0 h1 has hnas hA hR xs (ys ++ [u']) σ₃.H _ (items ++ [z]) F₃ hs₄ st₄ ?_ ?_ ⟨kD + 1, by rw [hD₄, push_arr]⟩ (VRs.app (.cons (hz'.kp kp₄) .nil) (hvs₃.kp kp₄)) (by simp only [List.length_append, List.length_cons, List.length_nil] at hlen ⊢; omega)
    · have a1 : Step (PP (fH f [C, D]) H) [] [] s₁.heap (PP (fH f [C, D]) σ₃.H) s₃.heap := ⟨kp₃.keep, fun _ m => (nomatch m), fun _ m => (nomatch m), kp₃.dom, stc.alive⟩
      have a2 : Step (PP (fH f [C, D]) σ₃.H) [] [] s₃.heap (PP (fH f [C, D]) σ₃.H) h' := ⟨kp₄.keep, fun _ m => (nomatch m), fun _ m => (nomatch m), kp₄.dom, upd_alive ⟨_, hD₄⟩ hsb⟩
      exact (I₁.step a1).step a2
    · obtain ⟨m, o, es, ep, e, q⟩ := hn₃
      exact ⟨m, o, es, ep, (hsb.2 C hCD).trans e, q⟩
theorem comp_end (ok : FcOk B f) (cf : CfOk f cn) (hf : ∀ a ∈ f.hid, a ∉ [C, D]) (h1 : s₀.heap.get? C = none ∧ s₀.heap.get? D = none) (hs : RS B (fH f [C, D]) σ s) (st : SStep (fH f [C, D]) σ₀ s₀ σ s) (hsb : Heap.SameBut C s.heap h') (hCD : C ≠ D) :
    RS B f σ { s with heap := h', toks := tk } ∧ SStep f σ₀ s₀ σ { s with heap := h', toks := tk } ∧ Kp (PP (fH f [C, D]) σ.H) s.heap (PP f σ.H) h' ∧ h'.get? D = s.heap.get? D := by
  have off : ∀ a, PP f σ.H a → a ∉ [C, D] := fun a p m => by
    have mG : a ∈ (fH f [C, D]).G := List.mem_append_right _ (List.mem_append_left _ m)
    rcases p with p | p | p
    · exact p (hs.rh.disj a (.inr mG))
    · exact hs.rh.apart a p mG
    · rcases List.mem_append.mp p with p | p
      · exact hs.ok.onh a p (List.mem_append_left _ m)
      · exact hf a p m
  have up : ∀ b, b ∉ [C, D] → h'.get? b = s.heap.get? b := fun b n => hsb.2 b fun q => n (by rw [q]; exact .head _)
  have kp : Kp (PP (fH f [C, D]) σ.H) s.heap (PP f σ.H) h' := ⟨fun a o e n => .inl ((up a fun q => n (pp_fH.mpr (.inr q))).trans e), fun a o e n m => n (pp_fH.mpr (.inl m))⟩
  have fresh : ∀ b o, s₀.heap.get? b = some o → b ∉ [C, D] := fun b o e q => by
    rcases List.mem_cons.mp q with rfl | q
    · rw [h1.1] at e; cases e
    · rw [List.mem_singleton.mp q, h1.2] at e; cases e
  refine ⟨hs.unhide ok cf hf up, ⟨fun b o e n => ?_, fun b m o e => ?_, fun b m o e => ?_, fun b o e n m => ?_, fun b o e => ?_⟩, kp, hsb.2 D (Ne.symm hCD)⟩
  · have n' : ¬ PP (fH f [C, D]) σ₀.H b := fun m => (pp_fH.mp m).elim n (fresh b o e)
    rcases st.keep b o e n' with q | ⟨t, o', q, t'⟩
    · exact .inl ((up b (fresh b o e)).trans q)
    · exact .inr ⟨t, o', (up b (fresh b o e)).trans q, t'⟩
  · obtain ⟨sl, q⟩ := st.fr b m o e
    exact ⟨sl, (up b (fresh b o e)).trans q⟩
  · exact (up b (fresh b o e)).trans (st.hid b (List.mem_append_right _ m) o e)
  · have n' : ¬ PP (fH f [C, D]) σ₀.H b := fun m => (pp_fH.mp m).elim n (fresh b o e)
    exact st.dom b o e n' (pp_fH.mpr (.inl m))
  · obtain ⟨o', q⟩ := st.alive b o e
    exact ⟨o', (up b (fresh b o e)).trans q⟩
theorem iter_same {as : List Addr} {it : Value} {xs : List AV} {P : Addr → Prop} {h : Heap} (I : Iter B P h as it xs) {Q : Value → Shared → Prop} {s : Shared} (hh : s.heap = h) (q : Q it s) : wpAny (model B.prog B.w) A (pyIter it) Q E s := by
  subst hh
  cases I with
  | lst a _ _ _ _ _ => exact wpAny_pyIter_listiter a q
  | rng a _ _ _ => exact wpAny_pyIter_rangeiter a q
  | str a _ _ _ => exact wpAny_pyIter_striter_ascii a q
  | enum a _ _ _ _ _ _ _ _ _ _ => exact wpAny_pyIter_enum a q
theorem iter_alive {as : List Addr} {it : Value} {xs : List AV} {P : Addr → Prop} {h : Heap} (I : Iter B P h as it xs) : ∀ a ∈ as, ∃ o, h.get? a = some o := by
  cases I with
  | lst a _ _ _ _ _ => intro b m; rw [List.mem_singleton.mp m]; obtain ⟨o, e, _⟩ := a; exact ⟨o, e⟩
  | rng a _ _ _ => intro b m; rw [List.mem_singleton.mp m]; exact ⟨_, a⟩
  | str a _ _ _ => intro b m; rw [List.mem_singleton.mp m]; obtain ⟨o, e, _⟩ := a; exact ⟨o, e⟩
  | enum a c _ _ _ _ _ _ _ _ _ =>
    intro b m
    rcases List.mem_cons.mp m with rfl | m
    · exact ⟨_, a⟩
    · rw [List.mem_singleton.mp m]; obtain ⟨o, e, _⟩ := c; exact ⟨o, e⟩
theorem hide_step (st : SStep f σ₀ s₀ σ s) (hn : ∀ a ∈ G, s.heap.get? a = none) (hk : ∀ b o, s.heap.get? b = some o → h'.get? b = some o) : SStep (fH f G) σ₀ s₀ σ { s with heap := h', toks := tk } := by
  have off : ∀ b o, s₀.heap.get? b = some o → b ∉ G := fun b o e m => by
    obtain ⟨o', e'⟩ := st.alive b o e
    rw [hn b m] at e'; cases e'
  refine ⟨fun b o e n => ?_, fun b m o e => ?_, fun b m o e => ?_, fun b o e n m => ?_, fun b o e => ?_⟩
  · rcases st.keep b o e fun m => n (pp_fH.mpr (.inl m)) with q | ⟨t, o', q, t'⟩
    · exact .inl (hk b o q)
    · exact .inr ⟨t, o', hk b o' q, t'⟩
  · obtain ⟨sl, q⟩ := st.fr b m o e
    exact ⟨sl, hk b _ q⟩
  · rcases List.mem_append.mp m with m | m
    · exact absurd m (off b o e)
    · exact hk b o (st.hid b m o e)
  · rcases pp_fH.mp m with m | m
    · exact st.dom b o e (fun m => n (pp_fH.mpr (.inl m))) m
    · exact off b o e m
  · obtain ⟨o', q⟩ := st.alive b o e
    exact ⟨o', hk b o' q⟩
theorem lc_all {elt iter : Expr} {px pos : Pos} {use : Option (Value → Sem Unit)} {Q : Value → Shared → Prop} (cf : CfOk f cn) (sc : ScOk B f scope x y g2) (hy : y ∈ cn) (hym : y ∈ f.names) {pre : List (Str × NameKind)} (hpre : ∀ z ∈ pre, z.2 ≠ .free) (hnm : scope.names = pre ++ [(y, .free)])
    (hA : AOk f n none A) (hs : RS B f σ s) (hs' : ∀ x, foldedSetIterable iter f.env x = pure x)
    (h : wpAny (model B.prog B.w) A (eval iter f.env) (fun r s₁ => wpAny (model B.prog B.w) A (pyIter r) (fun it s₂ =>
      ∃ xs σ' as v, RS B f σ' s₂ ∧ SStep f σ s σ' s₂ ∧ Iter B (PP f σ'.H) s₂.heap as it xs ∧ (∀ a ∈ as, s.heap.get? a = none) ∧ (∀ e i, as = [e, i] → False) ∧ Got f.names y σ'.loc v ∧ xs.length ≤ 1000 ∧
        (∀ C D, s.heap.get? C = none ∧ s.heap.get? D = none → C ≠ D → (∀ a ∈ f.hid, a ∉ [C, D]) → LcS B n elt x ((y, v) :: g2) (fun ys H' => ∀ s' items, RS B (fH f [C, D]) ⟨σ'.loc, H'⟩ s' → SStep (fH f [C, D]) σ s ⟨σ'.loc, H'⟩ s' → (∃ m, s'.heap.Ns C m) → LstAt s'.heap D items → VRs B.prog B.w (PP (fH f [C, D]) H') s'.heap ys items →
          compPost (model B.prog B.w) A E use Q (.ref D) C (.ok .next) s') xs [] σ'.H)) E s₁) E s) :
    wpAny (model B.prog B.w) A (comprehension (.ListComp elt [⟨.Name x px, iter, [], 0⟩] scope pos) scope f.env (firstIterPos [⟨.Name x px, iter, [], 0⟩] pos) (newList []) false (eval iter f.env) use) Q E s := by
  obtain ⟨hyk, c, hc, hcl⟩ : f.env.kindOf y = some .cell ∧ ∃ c ∈ f.own, f.env.cells.lookup y = some c := by
    have k := cf.kd y hym
    rw [if_pos hy] at k
    obtain ⟨_, _, q⟩ := hs.ok.nm y hym
    rcases q with q | ⟨_, c, hc, _, hl⟩
    · rw [k] at q; cases q
    · exact ⟨k, c, hc, hl⟩
  refine wpAny_comprehension_free (use := use) rfl hs' (closure_one hpre hnm hcl) sc.kind sc.locs (wpAny_mono h (fun r s₁ q => wpAny_mono q (fun it s₂ q => ?_) fun _ _ e => e) fun _ _ e => e)
  obtain ⟨xs, σ', as, v, h₂, st₂, I, has0, has, hg, hlen, F⟩ := q
  refine wpAny_newObj_type (wpAny_newFunctionEnv sc.cells (by intro y hy; simp at hy) (fun h₁ hns₁ hsb₁ => ?_) sc.kind)
  dsimp only at hns₁ hsb₁ ⊢
  generalize hH2 : s₂.heap.push { cls := .type "list", dict := none, data := .seq ([] : List Value).toArray } = H2 at hns₁ hsb₁ ⊢
  have hC : H2.objs.size = s₂.heap.objs.size + 1 := by rw [← hH2, Heap.size_push]
  have hCD : H2.objs.size ≠ s₂.heap.objs.size := by rw [hC]; exact Nat.ne_of_gt (Nat.lt_succ_self _)
  have old : ∀ b o, s₂.heap.get? b = some o → h₁.get? b = some o := fun b o e => hsb₁.extBut b o (by rw [hC]; exact Nat.ne_of_lt (Nat.lt_succ_of_lt (Heap.lt_size e))) (Heap.get?_push_of_some _ (hH2 ▸ Heap.get?_push_of_some _ e))
  have hD₁ : h₁.get? s₂.heap.objs.size = some (listOf ([] : List Value).toArray 0) := hsb₁.extBut _ _ (Ne.symm hCD) (Heap.get?_push_of_some _ (hH2 ▸ Heap.get?_push_size _ rfl))
  have hCn : s₂.heap.get? H2.objs.size = none := Heap.get?_none_of_le (by rw [hC]; exact Nat.le_succ _)
  have hDn : s₂.heap.get? s₂.heap.objs.size = none := size_none _
  have hn : ∀ a ∈ [H2.objs.size, s₂.heap.objs.size], s₂.heap.get? a = none := fun a m => by
    rcases List.mem_cons.mp m with rfl | m
    · exact hCn
    · rw [List.mem_singleton.mp m]; exact hDn
  have hl : ∀ a ∈ [H2.objs.size, s₂.heap.objs.size], ∃ o, h₁.get? a = some o := fun a m => by
    rcases List.mem_cons.mp m with rfl | m
    · obtain ⟨o, _, _, e, _⟩ := hns₁; exact ⟨o, e⟩
    · rw [List.mem_singleton.mp m]; exact ⟨_, hD₁⟩
  have h1 : s.heap.get? H2.objs.size = none ∧ s.heap.get? s₂.heap.objs.size = none := ⟨alive_none st₂ hCn, alive_none st₂ hDn⟩
  have hf : ∀ a ∈ f.hid, a ∉ [H2.objs.size, s₂.heap.objs.size] := fun a m q => by
    obtain ⟨o, e⟩ := h₂.rh.live a (.inr (.inr (List.mem_append_right _ m)))
    rw [hn a q] at e; cases e
  have F' := F _ _ h1 hCD hf
  have r₁ := h₂.hide (tk := s₂.toks + ([] : List (Str × Value)).length) cf hn old hl
  have st₁ := hide_step (tk := s₂.toks + ([] : List (Str × Value)).length) st₂ hn old
  have I₁ : Iter B (PP (fH f [H2.objs.size, s₂.heap.objs.size]) σ'.H) h₁ as it xs :=
    Iter.step (F := []) (G := []) ⟨fun a o e n => .inl (old a o e), fun _ m => (nomatch m), fun _ m => (nomatch m), fun a o e n m => (pp_fH.mp m).elim n fun m => (by rw [hn a m] at e; cases e), fun a o e => ⟨o, old a o e⟩⟩ I
  have hnas : H2.objs.size ∉ as ∧ s₂.heap.objs.size ∉ as := ⟨fun m => (by obtain ⟨o, e⟩ := iter_alive I _ m; rw [hCn] at e; cases e), fun m => (by obtain ⟨o, e⟩ := iter_alive I _ m; rw [hDn] at e; cases e)⟩
  have loop := lc_loop (elt := elt) (iter := iter) (px := px) (pos := pos) (it := it) (as := as) (loc := σ'.loc) (σ₀ := σ) (s₀ := s) (v := v) (R := compPost (model B.prog B.w) A E use Q (.ref s₂.heap.objs.size) H2.objs.size) cf sc hCD hf hc hcl hyk hg has0 h1 has hnas hA
    (fun H' s' ys items a b c d e g => g s' items a b c d e) xs [] σ'.H _ [] F' r₁ st₁ I₁ ⟨_, hns₁⟩ ⟨0, hD₁⟩ .nil (by simpa using hlen)
  exact codeAny_compStart_list loop (iter_same I₁ rfl loop)
theorem LcS.imp {elt : Expr} {gl : List (Str × AV)} {Q Q' : List AV → AH → Prop} (hq : ∀ ys H, Q ys H → Q' ys H) : ∀ {xs ys : List AV} {H : AH}, LcS B n elt x gl Q xs ys H → LcS B n elt x gl Q' xs ys H
  | [], _, _, h => hq _ _ h
  | _ :: _, _, _, h => fun f' a b => EX.imp (h f' a b) (fun _ _ z => LcS.imp hq z) fun _ _ z => z
theorem r_lc {elt iter : Expr} {px pos : Pos} {Q : AV → St → Prop} (cf : CfOk f cn) (sc : ScOk B f scope x y g2) (hy : y ∈ cn) (hym : y ∈ f.names) {pre : List (Str × NameKind)} (hpre : ∀ z ∈ pre, z.2 ≠ .free) (hnm : scope.names = pre ++ [(y, .free)])
    (hs' : ∀ x, foldedSetIterable iter f.env x = pure x) (h : EI B f n False iter σ (fun xs σ₁ => xs.length ≤ 1000 ∧ ∃ v, Got f.names y σ₁.loc v ∧ LcS B n elt x ((y, v) :: g2) (fun ys H => Q (.lst ys) ⟨σ₁.loc, H⟩) xs [] σ₁.H) X) :
    EV B f n none (eval (.ListComp elt [⟨.Name x px, iter, [], 0⟩] scope pos) f.env) σ Q X := fun A s hA hs => by
  rw [eval_ListComp]
  refine lc_all (use := none) (Q := OkP B f (vrel B) σ s Q) cf sc hy hym hpre hnm hA hs hs' (wpAny_mono (h A s hA hs) (fun r s₁ q => wpAny_mono q (fun it s₂ q => ?_) fun _ _ e => e) fun _ _ e => e)
  obtain ⟨xs, σ', as, h₂, st₂, I, has0, has, hlen, v, hg, F⟩ := q
  refine ⟨xs, σ', as, v, h₂, st₂, I, has0, has, hg, hlen, fun C D h1 hCD hf => F.imp fun ys H' q s' items r st hn hD hv => ?_⟩
  refine ⟨_, hn.choose_spec, fun h' hsb => ?_⟩
  obtain ⟨e1, e2, e3, e4⟩ := comp_end (tk := s'.toks) hs.ok cf hf h1 r st hsb hCD
  have hDP : ¬ PP f H' D := fun p => by
    have mG : D ∈ (fH f [C, D]).G := List.mem_append_right _ (List.mem_append_left _ (.tail _ (.head _)))
    rcases p with p | p | p
    · exact p (r.rh.disj D (.inr mG))
    · exact r.rh.apart D p mG
    · rcases List.mem_append.mp p with p | p
      · exact r.ok.onh D p (List.mem_append_left _ (.tail _ (.head _)))
      · exact hf D p (.tail _ (.head _))
  obtain ⟨k, ho⟩ := hD
  exact ⟨.lst ys, ⟨σ'.loc, H'⟩, e1, e2, .lst ⟨k, e4.trans ho⟩ hDP (hv.kp e3), q⟩
theorem RS.hidEq {G G' : List Addr} (h : ∀ a, a ∈ G ↔ a ∈ G') (hs : RS B (fH f G) σ s) : RS B (fH f G') σ s := by
  have e : ∀ H, PP (fH f G) H = PP (fH f G') H := fun H => funext fun a => propext (by rw [pp_fH, pp_fH, h])
  have e' : ∀ H, dm (fH f G).Fs (fH f G).G H = dm (fH f G').Fs (fH f G').G H := e
  have m : ∀ a, a ∈ G ++ f.hid ↔ a ∈ G' ++ f.hid := fun a => by rw [List.mem_append, List.mem_append, h]
  have mG : ∀ a, a ∈ (fH f G).G ↔ a ∈ (fH f G').G := fun a => by
    show a ∈ f.own ++ (G ++ f.hid) ↔ a ∈ f.own ++ (G' ++ f.hid)
    simp only [List.mem_append, h]
  refine ⟨⟨hs.rh.base, hs.rh.gens, hs.rh.os, fun a c z => by rw [← e']; exact hs.rh.cells a c z, fun a z => hs.rh.nb a (by rw [e']; exact z), fun a z => hs.rh.live a (by rw [e']; exact z), fun a z => hs.rh.disj a (z.imp id (mG a).mpr), fun a z q => hs.rh.apart a z ((mG a).mpr q), hs.rh.stk⟩,
    ⟨hs.ok.kind, hs.ok.glob, hs.ok.blt, hs.ok.fr, hs.ok.ffr, hs.ok.loc, hs.ok.nd, hs.ok.nm, hs.ok.lnew, fun a z q => hs.ok.onh a z ((m a).mpr q), hs.ok.inj, fun p hp => ⟨(hs.ok.gl p hp).1, (hs.ok.gl p hp).2.imp id fun ⟨a, b, c, q, z⟩ => ⟨a, b, c, (m c).mp q, z⟩⟩, hs.ok.frL⟩,
    hs.ns, hs.cel, fun i z u hi hu => ?_, fun p hp c hc hl hk => ?_⟩
  · rw [← e]; exact hs.loc i z u hi hu
  · rw [← e]; exact hs.cap p hp c ((m c).mpr hc) hl hk
theorem un_step (h1 : ∀ a ∈ G, s₀.heap.get? a = none) (st : SStep (fH f G) σ₀ s₀ σ s) : SStep f σ₀ s₀ σ s := by
  have off : ∀ b o, s₀.heap.get? b = some o → b ∉ G := fun b o e m => by rw [h1 b m] at e; cases e
  exact ⟨fun b o e n => st.keep b o e fun m => (pp_fH.mp m).elim n (off b o e), fun b m o e => st.fr b m o e, fun b m o e => st.hid b (List.mem_append_right _ m) o e, fun b o e n m => st.dom b o e (fun z => (pp_fH.mp z).elim n (off b o e)) (pp_fH.mpr (.inl m)), st.alive⟩
theorem re_step (h1 : ∀ a ∈ G, s₀.heap.get? a = none) (st : SStep f σ₀ s₀ σ s) : SStep (fH f G) σ₀ s₀ σ s := by
  have off : ∀ b o, s₀.heap.get? b = some o → b ∉ G := fun b o e m => by rw [h1 b m] at e; cases e
  refine ⟨fun b o e n => st.keep b o e fun m => n (pp_fH.mpr (.inl m)), fun b m o e => st.fr b m o e, fun b m o e => ?_, fun b o e n m => ?_, st.alive⟩
  · rcases List.mem_append.mp m with m | m
    · exact absurd m (off b o e)
    · exact st.hid b m o e
  · rcases pp_fH.mp m with m | m
    · exact st.dom b o e (fun z => n (pp_fH.mpr (.inl z))) m
    · exact off b o e m
theorem but_step (h1 : s₀.heap.get? C = none) (st : SStep f σ₀ s₀ σ s) (hsb : Heap.SameBut C s.heap h') : SStep f σ₀ s₀ σ { s with heap := h', toks := tk } := by
  have up : ∀ b o, s₀.heap.get? b = some o → h'.get? b = s.heap.get? b := fun b o e => hsb.2 b fun q => by rw [q, h1] at e; cases e
  refine ⟨fun b o e n => ?_, fun b m o e => ?_, fun b m o e => (up b o e).trans (st.hid b m o e), st.dom, fun b o e => ?_⟩
  · rcases st.keep b o e n with q | ⟨t, o', q, t'⟩
    · exact .inl ((up b o e).trans q)
    · exact .inr ⟨t, o', (up b o e).trans q, t'⟩
  · obtain ⟨sl, q⟩ := st.fr b m o e
    exact ⟨sl, (up b o e).trans q⟩
  · obtain ⟨o', q⟩ := st.alive b o e
    exact ⟨o', (up b o e).trans q⟩
theorem r_set_lc {elt iter : Expr} {z : Str} {px zp pos p : Pos} {N : St → Prop} {K : AFlow → St → Prop} (cf : CfOk f cn) (sc : ScOk B f scope x y g2) (hy : y ∈ cn) (hym : y ∈ f.names) {pre : List (Str × NameKind)} (hpre : ∀ z ∈ pre, z.2 ≠ .free) (hnm : scope.names = pre ++ [(y, .free)])
    (hs' : ∀ x, foldedSetIterable iter f.env x = pure x) (hz : z ∉ cn) (hzm : z ∈ f.names) (hline : (zp.line == pos.line) = true) (hany : (scope.names.any fun (n, k) => n == z && (k == .local || k == .cell)) = false)
    (h : EI B f n False iter σ (fun xs σ₁ => xs.length ≤ 1000 ∧ ∃ v, Got f.names y σ₁.loc v ∧ LcS B n elt x ((y, v) :: g2) (fun ys H => Sto f.names z (.lst ys) N ⟨σ₁.loc, H⟩) xs [] σ₁.H) X) :
    ES B f n none (exec (.Assign [.Name z zp] (.ListComp elt [⟨.Name x px, iter, [], 0⟩] scope pos) p) f.env) σ N K X := fun A s hA hs => by
  have hzk : f.env.kindOf z = some .local := by have k := cf.kd z hzm; rw [if_neg hz] at k; exact k
  have hsw : swapsWith (.ListComp elt [⟨.Name x px, iter, [], 0⟩] scope pos) (some (.Name z zp)) p.line f.env = pure true := by
    show (pure (f.env.blockKind == .function && f.env.kindOf z == some .local && zp.line == pos.line && !(scope.names.any fun (n, k) => n == z && (k == .local || k == .cell))) : Sem Bool) = pure true
    rw [cf.blk, hzk, hline, hany]
    rfl
  rw [exec_Assign_Name_used _ _ _ _ hsw]
  refine wpAny_bind (wpAny_standAt (wpAny_bind ?_))
  show wpAny _ A (do let _ ← comprehension (.ListComp elt [⟨.Name x px, iter, [], 0⟩] scope pos) scope f.env _ (newList []) false (eval iter f.env) (some (assign (.Name z zp) f.env))) _ _ s
  refine wpAny_bind (wpAny_mono (lc_all (use := some (assign (.Name z zp) f.env)) (Q := fun _ s' => OkP B f (frel B) σ s (nk N K) .next s') cf sc hy hym hpre hnm hA hs hs' (wpAny_mono (h A s hA hs) (fun r s₁ q => wpAny_mono q (fun it s₂ q => ?_) fun _ _ e => e) fun _ _ e => e)) (fun _ s' hq => wpAny_pure (wpAny_pure hq)) fun _ _ e => e)
  obtain ⟨xs, σ', as, h₂, st₂, I, has0, has, hlen, v, hg, F⟩ := q
  refine ⟨xs, σ', as, v, h₂, st₂, I, has0, has, hg, hlen, fun C D h1 hCD hf => F.imp fun ys H' q s' items r st hn hD hv => ?_⟩
  have hDP : ¬ PP (fH f [C]) H' D := fun p => by
    have mG : D ∈ (fH f [C, D]).G := List.mem_append_right _ (List.mem_append_left _ (.tail _ (.head _)))
    rcases pp_fH.mp p with (p | p | p) | p
    · exact p (r.rh.disj D (.inr mG))
    · exact r.rh.apart D p mG
    · rcases List.mem_append.mp p with p | p
      · exact r.ok.onh D p (List.mem_append_left _ (.tail _ (.head _)))
      · exact hf D p (.tail _ (.head _))
    · exact hCD (List.mem_singleton.mp p).symm
  have r' : RS B (fH (fH f [C]) [D]) ⟨σ'.loc, H'⟩ s' := RS.hidEq (f := f) (G' := [D, C]) (fun a => by simp [or_comm]) r
  have okC : FcOk B (fH f [C]) := ⟨r.ok.kind, r.ok.glob, r.ok.blt, r.ok.fr, r.ok.ffr, r.ok.loc, r.ok.nd, r.ok.nm, r.ok.lnew, fun a m q => r.ok.onh a m (by
      rcases List.mem_append.mp q with q | q
      · exact List.mem_append_left _ (by rw [List.mem_singleton.mp q]; exact .head _)
      · exact List.mem_append_right _ q), r.ok.inj, fun p hp => ⟨(hs.ok.gl p hp).1, (hs.ok.gl p hp).2.imp id fun ⟨a, b, c, m, e⟩ => ⟨a, b, c, List.mem_append_right _ m, e⟩⟩, r.ok.frL⟩
  have cfC : CfOk (fH f [C]) cn := ⟨cf.blk, cf.loc, cf.kd, cf.gl⟩
  have rC : RS B (fH f [C]) ⟨σ'.loc, H'⟩ s' := r'.unhide (tk := s'.toks) (h' := s'.heap) okC cfC (fun a m q => by
      rw [List.mem_singleton.mp q] at m
      rcases List.mem_append.mp m with m | m
      · exact hCD (List.mem_singleton.mp m).symm
      · exact hf D m (.tail _ (.head _))) (fun _ _ => rfl)
  have stf : SStep f σ s ⟨σ'.loc, H'⟩ s' := un_step (fun a m => by
      rcases List.mem_cons.mp m with rfl | m
      · exact h1.1
      · rw [List.mem_singleton.mp m]; exact h1.2) st
  have stC : SStep (fH f [C]) σ s ⟨σ'.loc, H'⟩ s' := re_step (fun a m => by rw [List.mem_singleton.mp m]; exact h1.1) stf
  have hvC : VR B.prog B.w (PP (fH f [C]) H') s'.heap (.lst ys) (.ref D) := .lst hD hDP (hv.kp (Kp.same fun a m => pp_fH.mpr ((pp_fH.mp m).imp id fun m => by rw [List.mem_singleton.mp m]; exact .head _)))
  obtain ⟨i, hi, q⟩ := q.to
  show wpAny _ A (assign (.Name z zp) f.env (.ref D)) _ _ s'
  refine PyProof.Rows.assign_Name (set_local (f := fH f [C]) (σ := ⟨σ'.loc, H'⟩) hi rC .refl hvC fun s₅ r₅ st₅ => ?_)
  obtain ⟨m, o, es, ep, ho, hm⟩ := hn
  refine ⟨m, ⟨o, es, ep, st₅.hid C (.head _) o ho, hm⟩, fun h' hsb => ?_⟩
  have fin : SStep f σ s ⟨σ'.loc.set i (some (.lst ys)), H'⟩ s₅ := un_step (fun a m => by rw [List.mem_singleton.mp m]; exact h1.1) (stC.trans st₅)
  exact ⟨.next, _, r₅.unhide (tk := s₅.toks) hs.ok cf (fun a m q => hf a m (by rw [List.mem_singleton.mp q]; exact .head _)) (fun b nb => hsb.2 b fun q => nb (by rw [q]; exact .head _)), but_step h1.1 fin hsb, .next, q⟩
end
end Mine
end
section
open PySem PySem.W PyProof.Rows PySem.Calls
namespace Mine
structure FnOkC (B : BC) (fd : FuncData) (names cn : List Str) (gl : List (Str × AV)) : Prop where
  kind : fd.scope.kind = .function
  glob : fd.globals = mainGlobals
  blt : fd.builtins = builtinsNs
  clo : fd.closure = []
  nd : names.Nodup
  nm : ∀ x ∈ names, (x == ("__debug__" : Str)) = false ∧ (x == ("__classdict__" : Str)) = false ∧ if x ∈ cn then fd.scope.names.lookup x = some .cell ∧ ∀ L, ((cellsFrom L fd.scope.names []).lookup x).isSome = true else fd.scope.names.lookup x = some .local
  gl : ∀ p ∈ gl, (p.1 == ("__debug__" : Str)) = false ∧ fd.scope.names.lookup p.1 = some .globalImplicit ∧ ∃ rv, (∀ P h, VR B.prog B.w P h p.2 rv) ∧ (B.mg p.1 = some rv ∨ (B.mg p.1 = none ∧ B.mb p.1 = some rv))
  co : fd.scope.isCoroutine = false
  gen : fd.scope.isGenerator = false
section
variable {B : BC} {f : Fc} {n : Nat} {hd : Option Value} {σ σ₀ : St} {X : Addr → St → Prop} {s s₀ : Shared} {A : Around} {E : Value → Shared → Prop} {N : St → Prop} {K : AFlow → St → Prop}
noncomputable def fcOfC (fd : FuncData) (names cn : List Str) (gl : List (Str × AV)) (Fs : List Env) (G : List Addr) (L a : Addr) : Fc :=
  { env := callEnvC fd L a, fenv := callEnvC fd L a, outer := Fs, names, L, own := cn.filterMap fun x => (callEnvC fd L a).cells.lookup x, hid := G, gl }
set_option tactic.hygienic true in
theorem fcC_ok {fd : FuncData} {names cn : List Str} {gl : List (Str × AV)} (O : FnOkC B fd names cn gl) {Fs : List Env} {G : List Addr} {L a : Addr} (hL : L ∉ frs Fs) (hG : ∀ c ∈ (fcOfC fd names cn gl Fs G L a).own, c ∉ G ∧ L < c) (ap : (callEnvC fd L a).cells.Pairwise fun x y => x.2 ≠ y.2) : FcOk B (fcOfC fd names cn gl Fs G L a) :=
  ⟨O.kind, O.glob, O.blt, rfl, rfl, .inl rfl, O.nd, fun x hx => ⟨(O.nm x hx).1, (O.nm x hx).2.1, by
    have h := (O.nm x hx).2.2
    split at h
    · rename_i hcn
      obtain ⟨h1, h2⟩ := h
      obtain ⟨c, hc⟩ := Option.isSome_iff_exists.mp (h2 (L + 1))
      have hm : c ∈ (fcOfC fd names cn gl Fs G L a).own := List.mem_filterMap.mpr ⟨x, hcn, hc⟩
      exact .inr ⟨.inl h1, c, hm, Nat.ne_of_gt (hG c hm).2, hc⟩
    · exact .inl h⟩, hL, fun c m => (hG c m).1, fun x y c h h' => name_of_addr ap (mem_of_lookup h) (mem_of_lookup h'), fun p hp => ⟨(O.gl p hp).1, .inl (O.gl p hp).2⟩, fun b m => by
    have m : b ∈ (if L = L then frs Fs else L :: frs Fs) := m
    rw [if_pos rfl] at m
    show b ∈ List.filterMap _ (callEnvC fd L a :: Fs)
    rw [List.filterMap_cons]; exact .tail _ m⟩
theorem bindL_off {k : Str → Option NameKind} {x : Str} {r : List (Str × Value)} {m : Str → Option Value} (h : x ∉ r.map (·.1)) : bindL k r m x = m x := by
  induction r generalizing m with
  | nil => rfl
  | cons p r ih =>
    rw [List.map_cons, List.mem_cons, not_or] at h
    refine (?_ : bindL k r (if k p.1 = some .local then fun z => if z = p.1 then some p.2 else m z else m) x = m x)
    rw [ih h.2]
    split
    · exact if_neg h.1
    · rfl
theorem bindC_off {k : Str → Option NameKind} {x : Str} {r : List (Str × Value)} {m : Str → Option Value} (h : x ∉ r.map (·.1)) : bindC k r m x = m x := by
  induction r generalizing m with
  | nil => rfl
  | cons p r ih =>
    rw [List.map_cons, List.mem_cons, not_or] at h
    refine (?_ : bindC k r (if k p.1 = some .local then m else fun z => if z = p.1 then some p.2 else m z) x = m x)
    rw [ih h.2]
    split
    · rfl
    · exact if_neg h.1
theorem bindL_on {k : Str → Option NameKind} {x : Str} {v : Value} (hk : k x = some .local) {r : List (Str × Value)} {m : Str → Option Value} (nd : (r.map (·.1)).Nodup) (h : (x, v) ∈ r) : bindL k r m x = some v := by
  induction r generalizing m with
  | nil => cases h
  | cons p r ih =>
    rw [List.map_cons, List.nodup_cons] at nd
    refine (?_ : bindL k r (if k p.1 = some .local then fun z => if z = p.1 then some p.2 else m z else m) x = some v)
    rcases List.mem_cons.mp h with e | h
    · cases e
      rw [bindL_off nd.1, if_pos hk]; exact if_pos rfl
    · exact ih nd.2 h
theorem bindC_on {k : Str → Option NameKind} {x : Str} {v : Value} (hk : k x ≠ some .local) {r : List (Str × Value)} {m : Str → Option Value} (nd : (r.map (·.1)).Nodup) (h : (x, v) ∈ r) : bindC k r m x = some v := by
  induction r generalizing m with
  | nil => cases h
  | cons p r ih =>
    rw [List.map_cons, List.nodup_cons] at nd
    refine (?_ : bindC k r (if k p.1 = some .local then m else fun z => if z = p.1 then some p.2 else m z) x = some v)
    rcases List.mem_cons.mp h with e | h
    · cases e
      rw [bindC_off nd.1, if_neg hk]; exact if_pos rfl
    · exact ih nd.2 h
theorem zip_nd : ∀ {names : List Str} {rs : List Value}, names.Nodup → ((names.zip rs).map (·.1)).Nodup
  | [], _, _ => by simp
  | _ :: _, [], _ => by simp
  | y :: ys, r :: rs, nd => by
    rw [List.nodup_cons] at nd
    rw [List.zip_cons_cons, List.map_cons, List.nodup_cons]
    refine ⟨fun m => nd.1 ?_, zip_nd nd.2⟩
    obtain ⟨p, hp, e⟩ := List.mem_map.mp m
    have e : p.1 = y := e
    rw [← e]; exact (List.of_mem_zip hp).1
set_option tactic.hygienic true in
theorem fn_call_c {fa : Addr} {oc : Value} {od : Option Addr} {osl : Array (Option Value)} {fd : FuncData} {body : List Stmt} {names cn : List Str} {gl : List (Str × AV)} {vs : List AV} {H : AH} {Q : AV → AH → Prop} {X : Addr → AH → Prop}
    (hl : B.K.lookup fa = some ⟨oc, od, .func fd, osl⟩) (hk : keepIn B.K (.ref fa) = true) (hcd : codeIn B.K fd.code fd.qualname = true) (hbody : fd.body = .stmts body) (O : FnOkC B fd names cn gl)
    (hbind : ∀ rs : List Value, rs.length = vs.length → bindArgs fd ⟨rs, []⟩ = pure (names.zip rs))
    (hbody' : ∀ f : Fc, f.names = names → f.gl = gl → CfOk f cn → ES B f n none (execs body f.env) ⟨vs.map some ++ List.replicate (names.length - vs.length) none, H⟩ (fun σ => Q .none σ.H) (retk Q) (fun a σ => X a σ.H)) :
    CallP B (n + 1) (.ref fa) vs H Q X := by
  refine ⟨hk, fun A s Fs G rs hfr hh hdep hun r hv => ?_⟩
  have kin := kinH r
  have hlim : s.heap.NoLimit := B.hl.keeps r.base
  have dead : ∀ a, s.heap.objs.size ≤ a → s.heap.get? a = none := fun a h => Heap.get?_none_of_le h
  have hLd : ∀ a, s.heap.objs.size ≤ a → ¬ dm Fs G H a := fun a h m => by obtain ⟨o, e⟩ := r.live _ m; rw [dead a h] at e; cases e
  refine codeAny_call_cells (fd := fd) (body := body) (binds := names.zip rs) (Nat.lt_of_le_of_lt (Nat.le_add_right _ _) (Nat.lt_of_le_of_lt hdep (by decide))) (kin _ _ hl) rfl hlim (codeRec_of kin hcd) hbody (hbind rs hv.length.symm) O.clo (fun y hy => ?_) (fun s₁ x => ?_) O.co O.gen O.kind
  · have h := (O.nm y.1 (List.of_mem_zip hy).1).2.2
    split at h
    · exact .inr ⟨h.1, h.2 _⟩
    · exact .inl h
  let L := s.heap.objs.size
  let f := fcOfC fd names cn gl Fs G L fa
  obtain ⟨h₁, tk₁, e₁⟩ := x.toInCall.same
  subst e₁
  have hns : h₁.Ns L _ := x.toInCall.ns
  have hk₁ : ∀ b o, s.heap.get? b = some o → h₁.get? b = some o := x.toInCall.keep
  have hown : ∀ c ∈ f.own, L < c ∧ ∃ nm v, f.env.cells.lookup nm = some c ∧ h₁.IsCell c v := fun c m => by
    obtain ⟨nm, _, hl'⟩ := List.mem_filterMap.mp m
    exact ⟨x.above nm c (mem_of_lookup hl'), nm, _, hl', x.cell nm c hl'⟩
  have hFs : frs f.Fs = L :: frs Fs := by show List.filterMap _ (callEnvC fd _ _ :: Fs) = _; rw [List.filterMap_cons]; rfl
  have inP : ∀ H' a, dm Fs G H' a → PP f H' a := fun H' a m => m.imp id (fun m => m.imp (fun m => by rw [hFs]; exact .tail _ m) (List.mem_append_right _))
  have ofP : ∀ a, a < L → ∀ H', PP f H' a → dm Fs G H' a := fun a lt H' m => m.imp id (fun m => m.imp (fun m => by rw [hFs] at m; exact (List.mem_cons.mp m).resolve_left (Nat.ne_of_lt lt)) fun m => (List.mem_append.mp m).resolve_left fun m => absurd (hown a m).1 (Nat.not_lt.mpr (Nat.le_of_lt lt)))
  have lo : ∀ a, PP f H a → dm Fs G H a ∨ a = L ∨ a ∈ f.own := fun a m => by
    rcases m with m | m | m
    · exact .inl (.inl m)
    · rw [hFs] at m
      rcases List.mem_cons.mp m with m | m
      · exact .inr (.inl m)
      · exact .inl (.inr (.inl m))
    · rcases List.mem_append.mp m with m | m
      · exact .inr (.inr m)
      · exact .inl (.inr (.inr m))
  have hLL : ∀ a, a = L ∨ a ∈ f.own → L ≤ a := fun a m => m.elim (fun e => Nat.le_of_eq e.symm) fun m => Nat.le_of_lt (hown a m).1
  have kp₁ : Kp (dm Fs G H) s.heap (PP f H) h₁ := ⟨fun a o e n => .inl (hk₁ a o e), fun a o e n m => n (ofP a (Heap.lt_size e) _ m)⟩
  have hbn : ∀ a, L ≤ a → B.base.get? a = none := fun a h => by
    cases q : B.base.get? a with
    | none => rfl
    | some o => have := r.base _ o q; rw [dead a h] at this; cases this
  have hHn : ∀ a, L ≤ a → H a = none := fun a h => by
    cases q : H a with
    | none => rfl
    | some c => exact absurd (.inl (by rw [q]; simp)) (hLd a h)
  have hGn : ∀ a, L ≤ a → a ∉ G := fun a h m => hLd a h (.inr (.inr m))
  have hFn : ∀ a, L ≤ a → a ∉ frs Fs := fun a h m => hLd a h (.inr (.inl m))
  have ok : FcOk B f := fcC_ok O (hFn L (Nat.le_refl _)) (fun c m => ⟨hGn c (Nat.le_of_lt (hown c m).1), (hown c m).1⟩) x.apart
  have al : ∀ a, a = L ∨ a ∈ f.own → ∃ o, h₁.get? a = some o := fun a m => by
    rcases m with rfl | m
    · obtain ⟨o, _, _, ho, _⟩ := hns; exact ⟨o, ho⟩
    · obtain ⟨_, _, _, _, o, ho, _⟩ := hown a m; exact ⟨o, ho⟩
  have rh₁ : RH B f.Fs f.G H { s with heap := h₁, toks := tk₁ } := by
    refine ⟨fun a o e => hk₁ a o (r.base a o e), r.gens, r.os, fun a c e => (r.cells a c e).kp kp₁ (hk₁ a), fun a m => ?_, fun a m => ?_, fun a m => ?_, fun a m q => ?_, ?_⟩
    · rcases lo a m with m | m
      · exact r.nb a m
      · exact hbn a (hLL a m)
    · rcases lo a m with m | m
      · obtain ⟨o, e⟩ := r.live a m; exact ⟨o, hk₁ a o e⟩
      · exact al a m
    · rcases m with m | m
      · rw [hFs] at m
        rcases List.mem_cons.mp m with q | m
        · exact hHn a (hLL a (.inl q))
        · exact r.disj a (.inl m)
      · rcases List.mem_append.mp m with m | m
        · exact hHn a (hLL a (.inr m))
        · exact r.disj a (.inr m)
    · rw [hFs] at m
      rcases List.mem_append.mp q with q | q
      · rcases List.mem_cons.mp m with e | m
        · exact absurd (hown a q).1 (by rw [e]; exact Nat.lt_irrefl _)
        · exact hFn a (hLL a (.inr q)) m
      · rcases List.mem_cons.mp m with e | m
        · exact hGn a (hLL a (.inl e)) q
        · exact r.apart a m q
    · exact .cons (by show fd.scope.kind ≠ .module; rw [O.kind]; decide) rfl hns (hbn L (Nat.le_refl _)) (r.stk.of_keeps fun b o e _ => ⟨o, hk₁ b o e, rfl⟩)
  have hvs : VRs B.prog B.w (PP f H) h₁ vs rs := hv.kp kp₁
  have kinds : ∀ y, f.env.kindOf y = fd.scope.names.lookup y := fun _ => rfl
  have rs₁ : RS B f ⟨vs.map some ++ List.replicate (names.length - vs.length) none, H⟩ { s with heap := h₁, toks := tk₁ } := by
    refine ⟨rh₁, ok, ⟨_, hns⟩, fun y c hx hk' hc => ?_, fun i y v hi hv' => ?_, fun p hp c hc hl hk => ?_⟩
    · obtain ⟨o, ho, hd⟩ := x.cell y c hc
      exact ⟨o, ho, _, hd⟩
    · have hget : ∀ {l : List AV} {k i : Nat} {v : AV}, (l.map some ++ List.replicate k none)[i]? = some (some v) → l[i]? = some v := fun {l k i v} e => by
        rw [List.getElem?_append] at e
        split at e
        · rw [List.getElem?_map] at e
          cases q : l[i]? with
          | none => rw [q] at e; cases e
          | some y => rw [q] at e; cases e; rfl
        · rw [List.getElem?_replicate] at e
          split at e <;> cases e
      obtain ⟨rv, hr, hvr⟩ := hvs.get (hget hv')
      have hm : (y, rv) ∈ names.zip rs := List.mem_of_getElem? (i := i) (by rw [List.getElem?_zip_eq_some]; exact ⟨hi, hr⟩)
      have hq := (O.nm y (List.mem_of_getElem? hi)).2.2
      refine ⟨rv, ?_, hvr⟩
      split at hq
      · rename_i hcn
        obtain ⟨c, hc⟩ := Option.isSome_iff_exists.mp (hq.2 (L + 1))
        have hc' : f.env.cells.lookup y = some c := hc
        refine .inr ⟨.inl hq.1, c, List.mem_filterMap.mpr ⟨y, hcn, hc⟩, hc', ?_⟩
        have hz := x.cell y c hc
        rw [bindC_on (by show fd.scope.names.lookup y ≠ _; rw [hq.1]; decide) (zip_nd O.nd) hm] at hz
        exact hz
      · exact .inl ⟨hq, _, hns, bindL_on hq (zip_nd O.nd) hm⟩
    · have : f.env.kindOf p.1 = some .globalImplicit := (O.gl p hp).2.1
      rcases hk with q | q <;> rw [this] at q <;> cases q
  have aok : AOk f n none (A.deeper (callEnvC fd L fa)) := ⟨by show A.frames.map _ = _; rw [hfr]; rfl, hh, up_le (c := 1) (by decide) hdep, up_le (c := 3) (by decide) hun⟩
  have out : ∀ (H' : AH) (s' : Shared), Step (PP f H) f.fr f.hid h₁ (PP f H') s'.heap → RH B f.Fs f.G H' s' → RH B Fs G H' s' ∧ Step (dm Fs G H) (frs Fs) G s.heap (dm Fs G H') s'.heap ∧ Kp (PP f H') s'.heap (dm Fs G H') s'.heap := fun H' s' st r' => by
    have kp : Kp (PP f H') s'.heap (dm Fs G H') s'.heap := Kp.same (inP H')
    refine ⟨⟨r'.base, r'.gens, r'.os, fun a c e => (r'.cells a c e).kp kp fun _ e => e, fun a m => r'.nb a (inP H' a m), fun a m => r'.live a (inP H' a m), fun a m => r'.disj a (m.imp (fun m => by rw [hFs]; exact .tail _ m) (List.mem_append_right _)), fun a m q => r'.apart a (by rw [hFs]; exact .tail _ m) (List.mem_append_right _ q), ?_⟩, ⟨fun a o e n => ?_, fun a m o e => st.fr a (by show a ∈ (if L = L then frs Fs else _); rw [if_pos rfl]; exact m) o (hk₁ a o e), fun a m o e => st.hid a m o (hk₁ a o e), fun a o e n m => ?_, fun a o e => st.alive a o (hk₁ a o e)⟩, kp⟩
    · exact r'.stk.2.2
    · exact st.keep a o (hk₁ a o e) fun m => n (ofP a (Heap.lt_size e) _ m)
    · exact st.dom a o (hk₁ a o e) (fun m => n (ofP a (Heap.lt_size e) _ m)) (inP H' a m)
  have cf : CfOk f cn := ⟨by show (callEnvC fd _ _).blockKind = _; unfold Env.blockKind; rw [show (callEnvC fd L fa).scope.kind = .function from O.kind]; rfl, rfl, fun y hy => by
    have hq := (O.nm y hy).2.2
    split
    · rename_i h; rw [if_pos h] at hq; exact hq.1
    · rename_i h; rw [if_neg h] at hq; exact hq, fun p hp => (O.gl p hp).2.1⟩
  refine wpAny_mono (hbody' f rfl rfl cf _ _ aok rs₁) (fun fl s' q => ?_) fun e s' q => ?_
  · obtain ⟨v, σ', r', st, hr, q⟩ := q
    obtain ⟨o1, o2, o3⟩ := out σ'.H s' st r'.rh
    cases hr with
    | next => exact .ret .none σ'.H o1 o2 .none q
    | ret hr => exact .ret _ σ'.H o1 o2 (VR.kp o3 hr) q
    | _ => exact q.elim
  · unfold leaving
    refine wpAny_bind (q.note (Q := fun e s₂ => wpAny (model B.prog B.w) (A.deeper (callEnvC fd L fa)) (setFlight e none) (fun _ s₃ => RetP B Fs G H s Q X (.error e) s₃) (fun e' s₃ => RetP B Fs G H s Q X (.error e') s₃) s₂) aok.frames (env := callEnvC fd L fa) rfl fun s₂ q' => ?_)
    clear q
    obtain ⟨a, σ', C, d, r', st, hc, q⟩ := q'
    refine set_flight r' hc fun s₃ r₃ st₃ => ?_
    obtain ⟨o1, o2, o3⟩ := out σ'.H s₃ (st.trans st₃) r₃.rh
    exact .er a σ'.H C d o1 o2 hc q
end
end Mine
end
section
open PySem PySem.W PyProof.Rows PySem.Calls Builtin.ObjectAttr
namespace Mine
noncomputable def PV (B : BC) (f : Fc) (n : Nat) (e : Expr) (σ : St) (v : AV) : Prop := ∀ A s, AOk f n none A → RS B f σ s → wpAny (model B.prog B.w) A (eval e f.env) (TK s (fun r => VR B.prog B.w (PP f σ.H) s.heap v r)) (fun _ _ => False) s
noncomputable def PVs (B : BC) (f : Fc) (n : Nat) (t : Sem (List Value)) (σ : St) (vs : List AV) : Prop := ∀ A s, AOk f n none A → RS B f σ s → wpAny (model B.prog B.w) A t (TK s (fun rs => VRs B.prog B.w (PP f σ.H) s.heap vs rs)) (fun _ _ => False) s
inductive KEr (B : BC) (f : Fc) (σ : St) (v : AV) (s : Shared) (r : Value) : Shared → Prop
  | mk {h' : Heap} {tk : Nat} : (∀ b o, s.heap.get? b = some o → h'.get? b = some o) → VR B.prog B.w (PP f σ.H) h' v r → KEr B f σ v s r { s with heap := h', toks := tk }
noncomputable def KE (B : BC) (f : Fc) (n : Nat) (e : Expr) (σ : St) (v : AV) : Prop := ∀ A s, AOk f n none A → RS B f σ s → wpAny (model B.prog B.w) A (eval e f.env) (KEr B f σ v s) (fun _ _ => False) s
section
variable {B : BC} {f : Fc} {n : Nat} {hd : Option Value} {X : Addr → St → Prop} {σ σ₀ : St} {s s₀ : Shared} {A : Around} {E : Value → Shared → Prop}
theorem pv_glob {x : Str} {pos : Pos} {v : AV} (hi : GHas f.gl x v) : PV B f n (.Name x pos) σ v := fun A s hA hs => glob_at hi hs fun rv hr => TK.s hr
theorem pv_name {x : Str} {pos : Pos} {v : AV} {ns : List Str} (hn : f.names = ns) (hg : Got ns x σ.loc v) (hk : f.env.kindOf x = some .local) : PV B f n (.Name x pos) σ v := fun A s hA hs => by
  subst hn
  obtain ⟨i, hi, hv⟩ := hg.idx
  obtain ⟨rv, hnm, hr⟩ := hs.loc i x v hi.get hv
  rcases hnm with ⟨_, m, hm, e⟩ | ⟨k, _⟩
  · exact wpAny_Name (wpAny_loadName_local hs.ok.kind hk hm e (TK.s hr)) (hs.ok.nm x hi.mem).1
  · rcases k with k | k <;> rw [hk] at k <;> cases k
theorem t_attr {a C d : Addr} {es : List (Str × AV)} {x : Str} {v : AV} (hN : NoAt B.K C x) (hi : IsAt σ.H a C d) (hd' : σ.H d = some (.ns es)) (g : GHas es x v) (hb : ∀ i, v ≠ .blt i) (hs : RS B f σ s) : wpAny (model B.prog B.w) A (getAttr (.ref a) x true) (TK s (fun r => VR B.prog B.w (PP f σ.H) s.heap v r)) (fun _ _ => False) s := by
  obtain ⟨ox, o, kvs, I, _, hn, hv, nd, _, lk⟩ := inst_at hs hi hd'
  obtain ⟨rv, e, hr⟩ := hv.has g nd
  obtain ⟨oc, od, cd, sl, hl, hh⟩ := hN.hd
  have hc : clsIn B.K C = some cd := by unfold clsIn; rw [hl]
  refine get_value (kin hs) I hN.ga (v := rv) ?_ (handed_vr hr hb) (TK.t hr)
  unfold findObj
  rw [hc, hN.no]
  show ((ownOf cd (some o) x).bind _) = _
  unfold PySem.W.ownOf
  rw [hh]
  show ((lookIn x o).bind _) = _
  rw [lk, e]; rfl
theorem TK.back {α : Type} {G : α → Prop} {r : α} {tk : Nat} {s' : Shared} (h : TK { s with toks := tk } G r s') : TK s G r s' := by cases h with | t g => exact .t g
theorem TK.via {α : Type} {t : Sem α} {G : α → Prop} (h : wpAny (model B.prog B.w) A t (TK s G) (fun _ _ => False) s) {Q : α → Shared → Prop} {E : Value → Shared → Prop} (hq : ∀ r tk, G r → Q r { s with toks := tk }) : wpAny (model B.prog B.w) A t Q E s :=
  wpAny_mono h (fun r s' q => by cases q with | t g => exact hq _ _ g) fun _ _ q => q.elim
theorem pv_attr {value : Expr} {x : Str} {pos : Pos} {a C d : Addr} {es : List (Str × AV)} {v : AV} (h : PV B f n value σ (.ref a)) (hb' : plainBase value = true) (hN : NoAt B.K C x) (hi : IsAt σ.H a C d) (hd' : σ.H d = some (.ns es)) (g : GHas es x v) (hb : ∀ i, v ≠ .blt i) : PV B f n (.Attribute value x pos) σ v := fun A s hA hs =>
  Attribute_any_ (TK.via (h A s hA hs) fun r tk q => q.eRef (wpAny_mono (t_attr hN hi hd' g hb (hs.toks tk)) (fun _ _ q => TK.back q) fun _ _ q => q)) (by rw [arm_eval_Attribute, base_plain hb'])
theorem pv_item {value slice : Expr} {pos : Pos} {d : Addr} {es : List (Str × AV)} {x : Str} {v : AV} (h : PV B f n value σ (.ref d)) (h' : PV B f n slice σ (.str x)) (hc : σ.H d = some (.dict es)) (g : GHas es x v) : PV B f n (.Subscript value slice pos) σ v := fun A s hA hs =>
  Subscript_ (TK.via (h A s hA hs) fun r tk q => TK.via (h' A _ hA (hs.toks tk)) fun r' tk' q' => q.eRef (q'.eStr fun t => by
    obtain ⟨kvs, _, hk, m, e, rv, rfl, hr⟩ := dict_has hs hc g
    exact tail_go (s := { s with toks := tk' }) hk.typeIs slot_dict_getitem.lookup (wpAny_getItem_of (knd := strKind B.prog B.w) isStr hk.mapOf e (.t hr))))
theorem pvs_nil {pos : Pos} : PVs B f n (spliced (backTo pos (starEach [] f.env))) σ [] := fun A s hA hs => wpAny_pure (TK.s .nil)
theorem pvs_cons {pos : Pos} {e : Expr} {rest : List Expr} {v : AV} {vs : List AV} (h : PV B f n e σ v) (h' : PVs B f n (spliced (backTo pos (starEach rest f.env))) σ vs)
    (he : starEach (e :: rest) f.env = (false, eval e f.env) :: starEach rest f.env) : PVs B f n (spliced (backTo pos (starEach (e :: rest) f.env))) σ (v :: vs) := fun A s hA hs => by
  exact wpAny_items_cons (TK.via (h A s hA hs) fun r tk q => TK.via (h' A _ hA (hs.toks tk)) fun rs tk' q' => TK.t (.cons q q')) he
theorem ke_tuple {elts : List Expr} {k : Nat} {pos : Pos} {vs : List AV} (h : PVs B f n (spliced (backTo pos (starEach elts f.env))) σ vs) (hz : short 40 vs = true) : KE B f n (.Tuple elts k pos) σ (.tup vs) := fun A s hA hs =>
  wpAny_Tuple (TK.via (h A s hA hs) fun rs tk q => by
    have g := (hs.toks tk).grow (tk := tk) (push_keeps s.heap { cls := .type "tuple", data := .seq rs.toArray })
    exact ⟨by rw [← q.length]; exact Nat.le_trans (short_le hz) (by decide), .mk (push_keeps _ _) (.tup (isTup_new _ _) (none_dm hs (size_none _)) (q.step g.2))⟩)
section
variable {cn : List Str} {scope : Scope} {x y : Str} {v : AV} {g2 : List (Str × AV)} {c C D : Addr}
theorem code_dc {kx vx iter : Expr} {pos px : Pos} {it : Value} {env : Env} {R : Result → Shared → Prop} (P : Nat → Shared → Prop) (turn : ∀ n s, P n s → wpAny (model B.prog B.w) A (pyNext it) (fun r s₁ => match r with
      | none => R (.ok .next) s₁
      | some v => wpAny (model B.prog B.w) A (assign (.Name x px) env v) (fun _ s₂ => wpAny (model B.prog B.w) A (eval kx env) (fun kv s₄ => wpAny (model B.prog B.w) A (eval vx env) (fun vv s₅ => wpAny (model B.prog B.w) A (dictSet D kv vv) (fun _ s₆ => ∃ m, m < n ∧ P m s₆) (fun _ _ => False) s₅) (fun _ _ => False) s₄) (fun _ _ => False) s₂) (fun _ _ => False) s₁) (fun _ _ => False) s) (n : Nat) (h : P n s) :
    codeAny (model B.prog B.w) A (.compLoop (.DictComp kx vx [⟨.Name x px, iter, [], 0⟩] scope pos) 0 it (.ref D) env) R s :=
  codeAny_compLoop_testsD P (fun n s hP => wpAny_mono (turn n s hP) (fun r s₁ q => by
    cases r with
    | none => exact q
    | some v => exact wpAny_mono q (fun _ s₂ q => wpAny_tests_nil (by
        rw [if_pos rfl]
        exact wpAny_mono q (fun kv s₄ q => wpAny_mono q (fun vv s₅ q => wpAny_mono q (fun _ _ q => q) fun _ _ q => q.elim) fun _ _ q => q.elim) fun _ _ q => q.elim)) fun _ _ q => q.elim) fun _ _ q => q.elim) n h
inductive DcI (B : BC) (f : Fc) (C D : Addr) (σ σ₀ : St) (s₀ : Shared) (I d : Addr) (kvs : List (Str × Value)) (ep : Nat) (es : List (Str × AV)) (g : Str → AV) (m : Nat) (s : Shared) : Prop
  | mk (i : Nat) (kvD : List (Str × Value)) : m = kvs.length - i → i ≤ kvs.length → RS B (fH f [C, D]) σ s → SStep (fH f [C, D]) σ₀ s₀ σ s → (∃ m, s.heap.Ns C m) → s.heap.IsKeyIter I d i kvs.length ep → s.heap.DictAt (strKind B.prog B.w) d kvs ep → s.heap.DictOf (strKind B.prog B.w) D kvD →
      VRd B.prog B.w (PP (fH f [C, D]) σ.H) s.heap ((es.take i).map fun p => (p.1, g p.1)) kvD → DcI B f C D σ σ₀ s₀ I d kvs ep es g m s
theorem dc_loop {vx iter : Expr} {px kp pos : Pos} {d I : Addr} {es : List (Str × AV)} {g : Str → AV} {kvs : List (Str × Value)} {ep : Nat} {R : Result → Shared → Prop} (cf : CfOk f cn) (sc : ScOk B f scope x y g2) (hCD : C ≠ D) (hf : ∀ a ∈ f.hid, a ∉ [C, D]) (hc : c ∈ f.own) (hcl : f.env.cells.lookup y = some c) (hy : f.env.kindOf y = some .cell) (hg : Got f.names y σ.loc v)
    (h0 : s₀.heap.get? I = none) (h1 : s₀.heap.get? C = none ∧ s₀.heap.get? D = none) (hI : I ≠ C ∧ I ≠ D) (hIb : B.base.get? I = none) (hA : AOk f n none A) (hd : σ.H d = some (.dict es)) (hlen : es.length ≤ 900) (hkk : kvs.map (·.1) = es.map (·.1))
    (hIP : ¬ PP (fH f [C, D]) σ.H I) (hv : ∀ f' : Fc, f'.names = [x] → f'.gl = (y, v) :: g2 → f'.env.kindOf x = some .local → ∀ k ∈ es.map (·.1), KE B f' n vx ⟨[some (.str k)], σ.H⟩ (g k))
    (hR : ∀ s' kvD, RS B (fH f [C, D]) σ s' → SStep (fH f [C, D]) σ₀ s₀ σ s' → (∃ m, s'.heap.Ns C m) → s'.heap.DictOf (strKind B.prog B.w) D kvD → VRd B.prog B.w (PP (fH f [C, D]) σ.H) s'.heap (es.map fun p => (p.1, g p.1)) kvD → R (.ok .next) s')
    (s : Shared) (hs : RS B (fH f [C, D]) σ s) (st : SStep (fH f [C, D]) σ₀ s₀ σ s) (hn : ∃ m, s.heap.Ns C m) (hit : s.heap.IsKeyIter I d 0 kvs.length ep) (hat : s.heap.DictAt (strKind B.prog B.w) d kvs ep) (hD : s.heap.DictOf (strKind B.prog B.w) D []) :
      codeAny (model B.prog B.w) A (.compLoop (.DictComp (.Name x kp) vx [⟨.Name x px, iter, [], 0⟩] scope pos) 0 (.ref I) (.ref D) (compEnvC scope [(y, c)] C f.env)) R s := by
  have hkl : kvs.length = es.length := by have := congrArg List.length hkk; simpa using this
  have hdD : d ≠ D := fun e => by
    have := hs.rh.disj D (.inr (List.mem_append_right _ (List.mem_append_left _ (.tail _ (.head _)))))
    have : σ.H D = none := this
    rw [← e, hd] at this; cases this
  have hdC : d ≠ C := fun e => by
    have := hs.rh.disj C (.inr (List.mem_append_right _ (List.mem_append_left _ (.head _))))
    have : σ.H C = none := this
    rw [← e, hd] at this; cases this
  have hdI : d ≠ I := fun e => hIP (.inl (by rw [← e, hd]; simp))
  have hfC : C ∉ f.hid := fun m => hf C m (.head _)
  refine code_dc (DcI B f C D σ σ₀ s₀ I d kvs ep es g) ?_ kvs.length ⟨0, [], rfl, Nat.zero_le _, hs, st, hn, hit, hat, hD, .nil⟩
  rintro m s ⟨i, kvD, rfl, hi, hs, st, hn, hit, hat, hD, hvD⟩
  have iter : ∀ {h' : Heap}, Heap.ExtBut I s.heap h' → ItStep B (fH f [C, D]) σ s { s with heap := h' } (fun a => a = I) := fun {h'} hsb => by
    obtain ⟨o, ho, hcl', _⟩ := id hit
    exact hs.iter (S := fun a => a = I) (tk := s.toks) (fun _ z => z ▸ hIb) (fun _ z => z ▸ hIP) (fun _ z => ⟨o, z ▸ ho, not_held hcl' (by decide) (by decide) (by decide) (by decide)⟩) (fun b o' ne e => hsb b o' ne e)
  by_cases hlt : i < kvs.length
  · obtain ⟨⟨k, xv⟩, hx⟩ : ∃ p, kvs[i]? = some p := ⟨kvs[i], List.getElem?_eq_getElem hlt⟩
    obtain ⟨⟨k', ev⟩, hx'⟩ : ∃ p, es[i]? = some p := ⟨es[i]'(hkl ▸ hlt), List.getElem?_eq_getElem (hkl ▸ hlt)⟩
    have hkeq : k' = k := by
      have := congrArg (·[i]?) hkk
      simp only [List.getElem?_map, hx, hx', Option.map_some, Option.some.injEq] at this
      exact this.symm
    subst hkeq
    have hkm : k' ∈ es.map (·.1) := List.mem_map.mpr ⟨_, List.mem_of_getElem? hx', rfl⟩
    refine wpAny_pyNext_dict_item hit hat hx fun key h₁ hkey hit₁ hsb₁ => ?_
    have T := iter hsb₁.extBut
    obtain ⟨t, rfl⟩ := Value.isStrOf_shape hkey
    have hs₁ := T.rs
    have st₁ := T.st σ₀ s₀ (fun a z => z ▸ h0) st
    obtain ⟨mC, oC, esC, epC, hoC, hmC⟩ := hn
    have hn₁ : ∃ m, h₁.Ns C m := ⟨mC, oC, esC, epC, T.keep C oC (fun e => hI.1 e.symm) hoC, hmC⟩
    have hat₁ : h₁.DictAt (strKind B.prog B.w) d kvs ep := hat.extBut hsb₁.extBut hdI
    have hD₁ : h₁.DictOf (strKind B.prog B.w) D kvD := hD.at fun o e => T.keep D o (fun e => hI.2 e.symm) e
    have hvD₁ : VRd B.prog B.w (PP (fH f [C, D]) σ.H) h₁ ((es.take i).map fun p => (p.1, g p.1)) kvD := hvD.imp T.vr
    have hCf : C ∉ frs f.Fs := fun m => hs₁.rh.apart C m (List.mem_append_right _ (List.mem_append_left _ (.head _)))
    have hin := comp_in hs₁ cf sc hCD hfC hc hcl hy hg hn₁
    have hAc : AOk (fComp f scope [(y, c)] C D x ((y, v) :: g2)) n none A := ⟨hA.frames, hA.hd, hA.depth, hA.units⟩
    obtain ⟨mC₁, hnC₁⟩ := hn₁
    have kloc : (fComp f scope [(y, c)] C D x ((y, v) :: g2)).env.kindOf x = some .local := lookup_relabel_local sc.hx
    refine wpAny_assign_Name (wpAny_storeName_local (env := compEnvC scope [(y, c)] C f.env) kloc hnC₁ (fun h₂ hn₂ hsb₂ => ?_) (by simp [compEnvC, relabel, sc.kind]))
    have hob : ∃ o', h₂.get? C = some o' ∧ ∀ vs, o'.data ≠ .fields vs := by
      obtain ⟨o, _, _, ho, hd, _⟩ := hn₂
      exact ⟨o, ho, fun vs q => by rw [hd] at q; cases q⟩
    obtain ⟨hs₂, st₂⟩ := hin.ownChange (f := fComp f scope [(y, c)] C D x ((y, v) :: g2)) (h' := h₂) (tk := s.toks + 1) (b := C) (.inr (.head _)) hsb₂ hob (loc' := [some (.str k')]) ⟨_, hn₂⟩ (fun z c' hz hk _ => by
        cases List.mem_singleton.mp hz
        rw [kloc] at hk
        rcases hk with q | q <;> cases q) (fun i z u hi hu => by
        rcases i with _ | i
        · cases hi
          cases hu
          exact ⟨_, .inl ⟨kloc, _, hn₂, if_pos rfl⟩, .str k' t⟩
        · simp at hu)
    refine TK.via (pv_name (f := fComp f scope [(y, c)] C D x ((y, v) :: g2)) (σ := ⟨[some (.str k')], σ.H⟩) (pos := kp) rfl .z kloc A _ hAc hs₂) fun kv tk₃ hkv => ?_
    have hs₃ := hs₂.toks tk₃
    refine wpAny_mono (hv _ rfl rfl kloc k' hkm A _ hAc hs₃) (fun vv s₄ q => ?_) fun _ _ q => q
    cases q with | @mk h₄ tk₄ hk₄ hvv =>
    refine hkv.eStr fun t' => ?_
    obtain ⟨hs₄, st₄⟩ := hs₃.grow (tk := tk₄) hk₄
    have stc : SStep (fComp f scope [(y, c)] C D x ((y, v) :: g2)) ⟨[none], σ.H⟩ { s with heap := h₁ } ⟨[some (.str k')], σ.H⟩ { s with heap := h₄, toks := tk₄ } := st₂.trans st₄
    obtain ⟨ho, hn₄⟩ := comp_out hs₁ cf hfC hs₄ (σ₁ := ⟨[none], σ.H⟩) rfl stc
    have st₄' := comp_step (l := σ.loc) cf hCf hs₁.ok h1 st₁ (σ₁ := ⟨[none], σ.H⟩) rfl stc
    have kp₄ : Kp (PP (fH f [C, D]) σ.H) h₁ (PP (fH f [C, D]) σ.H) h₄ := ⟨fun a o e n => stc.keep a o e fun m => n (pp_comp.mp m), fun _ _ _ n => n⟩
    have ex : ∀ b o, b ≠ C → h₁.get? b = some o → h₄.get? b = some o := fun b o ne e => hk₄ b o ((hsb₂.2 b ne).trans e)
    have hvv' : VR B.prog B.w (PP (fH f [C, D]) σ.H) h₄ (g k') vv := hvv.kp (Kp.same fun a => pp_comp.mpr)
    have hlk : kvD.length ≤ sizeLine := by
      rw [hvD₁.len, List.length_map, List.length_take]
      exact Nat.le_trans (Nat.le_trans (Nat.min_le_right ..) hlen) (by decide)
    refine wpAny_dictSet_pairs (knd := strKind B.prog B.w) (hsz := hlk) (k := k') isStr (hD₁.at fun o e => ex D o (Ne.symm hCD) e) fun h₅ hl₅ hsb₅ => ?_
    have T5 := fun tk => acc_turn (tk := tk) ho cf hf hCD hsb₅ (by obtain ⟨o, _, _, e, _⟩ := hl₅; exact ⟨o, e⟩) h1 st₄'
    have kp₅ := (T5 0).2.2
    have ndk : (es.map (·.1)).Nodup := by rw [← hkk]; exact hat.dictOf |> dict_nd
    have tk1 : es.take (i + 1) = es.take i ++ [(k', ev)] := by rw [List.take_add_one, hx']; rfl
    have hnk : k' ∉ (es.take i).map (·.1) := fun m => by
      have : ((es.take (i + 1)).map (·.1)).Nodup := List.Nodup.sublist ((List.take_sublist _ _).map _) ndk
      rw [tk1, List.map_append, List.nodup_append] at this
      exact this.2.2 k' m k' (by simp) rfl
    have est : stored kvD k' vv = kvD ++ [(k', vv)] := by
      unfold stored
      rw [if_neg]
      intro q
      have hm := any_key.mp q
      rw [hvD₁.keys, List.map_map] at hm
      exact hnk hm
    rw [est] at hl₅
    have hvD₅ := ((hvD₁.kp kp₄).kp kp₅).snoc (hvv'.kp kp₅) (x := k') (by rw [List.map_map]; exact hnk)
    refine ⟨kvs.length - (i + 1), Nat.sub_succ_lt_self _ _ hlt, i + 1, kvD ++ [(k', vv)], rfl, hlt, (T5 _).1, (T5 _).2.1, ?_, ?_, ?_, hl₅, ?_⟩
    · obtain ⟨m, o, es', ep', e, q⟩ := hn₄
      exact ⟨m, o, es', ep', (hsb₅.2 C hCD).trans e, q⟩
    · obtain ⟨o, e, q⟩ := hit₁
      exact ⟨o, (hsb₅.2 I hI.2).trans (ex I o hI.1 e), q⟩
    · exact (hat₁.at' fun o e => ex d o hdC e).at' fun o e => (hsb₅.2 d hdD).trans e
    · rw [tk1, List.map_append]; exact hvD₅.1
  · have hin : i = kvs.length := Nat.le_antisymm hi (Nat.le_of_not_lt hlt)
    subst hin
    refine wpAny_pyNext_dict_end hA.hd hit hat (by simp) fun h' he' => ?_
    have T := iter he'
    obtain ⟨mC, oC, esC, epC, hoC, hmC⟩ := hn
    refine hR _ kvD T.rs (T.st σ₀ s₀ (fun a z => z ▸ h0) st) ⟨mC, oC, esC, epC, T.keep C oC (fun e => hI.1 e.symm) hoC, hmC⟩ (hD.at fun o e => T.keep D o (fun e => hI.2 e.symm) e) ?_
    rw [hkl, List.take_length] at hvD
    exact hvD.imp T.vr
theorem r_dc {vx iter : Expr} {px kp pos : Pos} {Q : AV → St → Prop} (cf : CfOk f cn) (sc : ScOk B f scope x y g2) (hy : y ∈ cn) (hym : y ∈ f.names) {pre : List (Str × NameKind)} (hpre : ∀ z ∈ pre, z.2 ≠ .free) (hnm : scope.names = pre ++ [(y, .free)])
    (hs' : ∀ x, foldedSetIterable iter f.env x = pure x) (h : EV B f n none (eval iter f.env) σ (fun u σ₁ => ∃ d es v, ∃ g : Str → AV, u = .ref d ∧ σ₁.H d = some (.dict es) ∧ short 900 es = true ∧ Got f.names y σ₁.loc v ∧
      (∀ f' : Fc, f'.names = [x] → f'.gl = (y, v) :: g2 → f'.env.kindOf x = some .local → ∀ k ∈ es.map (·.1), KE B f' n vx ⟨[some (.str k)], σ₁.H⟩ (g k)) ∧ Q (.dct (es.map fun p => (p.1, g p.1))) σ₁) X) :
    EV B f n none (eval (.DictComp (.Name x kp) vx [⟨.Name x px, iter, [], 0⟩] scope pos) f.env) σ Q X := fun A s hA hs => by
  obtain ⟨hyk, c, hc, hcl⟩ : f.env.kindOf y = some .cell ∧ ∃ c ∈ f.own, f.env.cells.lookup y = some c := by
    have k := cf.kd y hym
    rw [if_pos hy] at k
    obtain ⟨_, _, q⟩ := hs.ok.nm y hym
    rcases q with q | ⟨_, c, hc, _, hl⟩
    · rw [k] at q; cases q
    · exact ⟨k, c, hc, hl⟩
  rw [arm_eval_DictComp]
  refine wpAny_comprehension_free (use := none) rfl hs' (closure_one hpre hnm hcl) sc.kind sc.locs (h.via hA hs .refl fun r s₁ u σ₁ r₁ st₁ _ hu q => ?_)
  obtain ⟨d, es, v, g, e, hd, hlen, hg, hv, q⟩ := q
  subst e
  refine hu.eRef ?_
  obtain ⟨m, _, kvs, hk, hvd⟩ := r₁.rh.cells d _ hd
  obtain ⟨ep, hat⟩ := hk.dictAt
  have hkk : kvs.map (·.1) = es.map (·.1) := hvd.keys
  refine wpAny_pyIter_dict (beq_eq_false_iff_ne.mpr m) hat ?_
  generalize hS : ({ s₁ with heap := s₁.heap.push { cls := .type "dict_keyiterator", data := .fields #[.ref d, .int 0 0, .int kvs.length 0, .int ep 0] } } : Shared) = s₂
  have hk₂ : ∀ b o, s₁.heap.get? b = some o → s₂.heap.get? b = some o := by rw [← hS]; exact push_keeps _ _
  have g2' := r₁.grow (tk := s₁.toks) (push_keeps s₁.heap { cls := .type "dict_keyiterator", data := .fields #[.ref d, .int 0 0, .int kvs.length 0, .int ep 0] })
  have h₂ : RS B f σ₁ s₂ := by rw [← hS]; exact g2'.1
  have st₂ : SStep f σ s σ₁ s₂ := by rw [← hS]; exact st₁.trans g2'.2
  have hit : s₂.heap.IsKeyIter s₁.heap.objs.size d 0 kvs.length ep := by rw [← hS]; exact ⟨_, Heap.get?_push_size _ rfl, rfl, rfl⟩
  have hat₂ : s₂.heap.DictAt (strKind B.prog B.w) d kvs ep := by rw [← hS]; exact hat.push _
  have hIlt : s₁.heap.objs.size < s₂.heap.objs.size := by obtain ⟨o, e, _⟩ := hit; exact Heap.lt_size e
  have hIn : s₁.heap.get? s₁.heap.objs.size = none := size_none _
  clear hS g2'
  refine wpAny_newObj_type (wpAny_newFunctionEnv sc.cells (by intro y hy; simp at hy) (fun h₁ hns₁ hsb₁ => ?_) sc.kind)
  dsimp only at hns₁ hsb₁ ⊢
  have hnew : (s₂.heap.push { cls := .type "dict", dict := none, data := .dict #[] }).DictOf (strKind B.prog B.w) s₂.heap.objs.size [] := Heap.DictOf.new s₂.heap
  generalize hH2 : s₂.heap.push { cls := .type "dict", dict := none, data := .dict #[] } = H2 at hns₁ hsb₁ hnew ⊢
  have hC : H2.objs.size = s₂.heap.objs.size + 1 := by rw [← hH2, Heap.size_push]
  have hCD : H2.objs.size ≠ s₂.heap.objs.size := by rw [hC]; exact Nat.ne_of_gt (Nat.lt_succ_self _)
  have old : ∀ b o, s₂.heap.get? b = some o → h₁.get? b = some o := fun b o e => hsb₁.extBut b o (by rw [hC]; exact Nat.ne_of_lt (Nat.lt_succ_of_lt (Heap.lt_size e))) (Heap.get?_push_of_some _ (hH2 ▸ Heap.get?_push_of_some _ e))
  have hD₁ : h₁.DictOf (strKind B.prog B.w) s₂.heap.objs.size [] := hnew.at fun o e => hsb₁.extBut _ _ (Ne.symm hCD) (Heap.get?_push_of_some _ e)
  have hCn : s₂.heap.get? H2.objs.size = none := Heap.get?_none_of_le (by rw [hC]; exact Nat.le_succ _)
  have hDn : s₂.heap.get? s₂.heap.objs.size = none := size_none _
  have hn : ∀ a ∈ [H2.objs.size, s₂.heap.objs.size], s₂.heap.get? a = none := fun a m => by
    rcases List.mem_cons.mp m with rfl | m
    · exact hCn
    · rw [List.mem_singleton.mp m]; exact hDn
  have hl : ∀ a ∈ [H2.objs.size, s₂.heap.objs.size], ∃ o, h₁.get? a = some o := fun a m => by
    rcases List.mem_cons.mp m with rfl | m
    · obtain ⟨o, _, _, e, _⟩ := hns₁; exact ⟨o, e⟩
    · rw [List.mem_singleton.mp m]; obtain ⟨o, _, _, e, _⟩ := hD₁; exact ⟨o, e⟩
  have h1 : s.heap.get? H2.objs.size = none ∧ s.heap.get? s₂.heap.objs.size = none := ⟨alive_none st₂ hCn, alive_none st₂ hDn⟩
  have hf : ∀ a ∈ f.hid, a ∉ [H2.objs.size, s₂.heap.objs.size] := fun a m q => by
    obtain ⟨o, e⟩ := h₂.rh.live a (.inr (.inr (List.mem_append_right _ m)))
    rw [hn a q] at e; cases e
  have r₂ := h₂.hide (tk := s₂.toks + ([] : List (Str × Value)).length) cf hn old hl
  have st₃ := hide_step (tk := s₂.toks + ([] : List (Str × Value)).length) st₂ hn old
  have hI : s₁.heap.objs.size ≠ H2.objs.size ∧ s₁.heap.objs.size ≠ s₂.heap.objs.size := ⟨by rw [hC]; omega, Nat.ne_of_lt hIlt⟩
  have hIP : ¬ PP (fH f [H2.objs.size, s₂.heap.objs.size]) σ₁.H s₁.heap.objs.size := fun p => by
    rcases pp_fH.mp p with p | p
    · exact none_dm r₁ hIn p
    · rcases List.mem_cons.mp p with p | p
      · exact hI.1 p
      · exact hI.2 (List.mem_singleton.mp p)
  have loop := dc_loop (B := B) (f := f) (n := n) (σ := σ₁) (σ₀ := σ) (s₀ := s) (A := A) (cn := cn) (vx := vx) (iter := iter) (px := px) (kp := kp) (pos := pos) (I := s₁.heap.objs.size) (R := compPost (model B.prog B.w) A (ErP B f σ s X) none (OkP B f (vrel B) σ s Q) (.ref s₂.heap.objs.size) H2.objs.size) cf sc hCD hf hc hcl hyk hg (alive_none st₁ hIn) h1 hI (base_none r₁ hIn) hA hd (short_le hlen) hkk hIP hv
    (fun s' kvD r st hn hD hv => ?_) _ r₂ st₃ ⟨_, hns₁⟩ ⟨_, old _ _ hit.choose_spec.1, hit.choose_spec.2⟩ (hat₂.keep old) hD₁
  · exact codeAny_compStart_dict loop (wpAny_pyIter_keyiter ⟨_, old _ _ hit.choose_spec.1, hit.choose_spec.2⟩ loop)
  · refine ⟨_, hn.choose_spec, fun h' hsb => ?_⟩
    obtain ⟨e1, e2, e3, e4⟩ := comp_end (tk := s'.toks) hs.ok cf hf h1 r st hsb hCD
    have hDP : ¬ PP f σ₁.H s₂.heap.objs.size := fun p => none_dm h₂ hDn p
    exact ⟨.dct _, σ₁, e1, e2, .dct (hD.at fun o e => e4.trans e) hDP (new_ne h₂) (hv.kp e3), q⟩
end
end
end Mine
end
section
open PySem PySem.W PyProof.Rows PySem.Calls
namespace Mine
theorem cells_some {x : Str} : ∀ {ns : List (Str × NameKind)} {L : Nat} {acc : List (Str × Addr)}, ns.lookup x = some .cell ∨ (acc.lookup x).isSome = true → ((cellsFrom L ns acc).lookup x).isSome = true
  | [], L, acc, h => by
    rcases h with h | h
    · cases h
    · exact h
  | (y, k) :: r, L, acc, h => by
    unfold cellsFrom
    by_cases hk : (k == NameKind.cell) = true
    · rw [if_pos hk]
      refine cells_some ?_
      by_cases e : (x == y) = true
      · right; rw [List.lookup_cons, e]; rfl
      · have e' : (x == y) = false := by cases q : (x == y) <;> simp_all
        rcases h with h | h
        · left; rw [List.lookup_cons, e'] at h; exact h
        · right; rw [List.lookup_cons, e']; exact h
    · rw [if_neg hk]
      refine cells_some ?_
      rcases h with h | h
      · left
        rw [List.lookup_cons] at h
        split at h
        · cases h; exact absurd rfl hk
        · exact h
      · exact .inr h
noncomputable def isCell : Option NameKind → Bool
  | some .cell => true
  | _ => false
noncomputable def namesCB (ns : List (Str × NameKind)) (cn l : List Str) : Bool := l.all fun x => !(x == ("__debug__" : Str)) && !(x == ("__classdict__" : Str)) && (if cn.contains x then isCell (ns.lookup x) else isLocal (ns.lookup x))
theorem namesC_of {ns : List (Str × NameKind)} {cn l : List Str} (h : namesCB ns cn l = true) : ∀ x ∈ l, (x == ("__debug__" : Str)) = false ∧ (x == ("__classdict__" : Str)) = false ∧ if x ∈ cn then ns.lookup x = some .cell ∧ ∀ L, ((cellsFrom L ns []).lookup x).isSome = true else ns.lookup x = some .local := fun x m => by
  have q := List.all_eq_true.mp h x m
  simp only [Bool.and_eq_true, Bool.not_eq_true', List.contains_iff_mem] at q
  obtain ⟨⟨a, b⟩, c⟩ := q
  refine ⟨a, b, ?_⟩
  by_cases hm : x ∈ cn
  · rw [if_pos hm] at c ⊢
    have : ns.lookup x = some .cell := by
      unfold isCell at c
      split at c
      · assumption
      · cases c
    exact ⟨this, fun L => cells_some (.inl this)⟩
  · rw [if_neg hm] at c ⊢
    unfold isLocal at c
    split at c
    · assumption
    · cases c
theorem fn_okc {B : BC} {fd : FuncData} {names cn : List Str} {gl : List (Str × AV)} (g : GlsOk B fd.scope.names gl) (h : fnT fd (nodupB names && namesCB fd.scope.names cn names) = (.function, mainGlobals, builtinsNs, [], true, false, false)) : FnOkC B fd names cn gl := by
  injection h with h1 h; injection h with h2 h; injection h with h3 h; injection h with h4 h; injection h with h5 h; injection h with h8 h9
  have h6 := Bool.and_eq_true_iff.mp h5
  exact ⟨h1, h2, h3, h4, nodup_of h6.1, namesC_of h6.2, g.all, h8, h9⟩
theorem c_defc {B : BC} {n : Nat} (hB : KB B) {fa : Addr} {oc : Value} {od : Option Addr} {osl : Array (Option Value)} {fd : FuncData} {body : List Stmt} (names cn : List Str) (gl : List (Str × AV)) {vs : List AV} {H : AH} {Q : AV → AH → Prop} {X : Addr → AH → Prop} {loc : List (Option AV)}
    (hl : (kk.heap_1 B.w.params).lookup fa = some ⟨oc, od, .func fd, osl⟩) (hk : keepIn (kk.heap_1 B.w.params) (.ref fa) = true) (hcd : codeIn (kk.heap_1 B.w.params) fd.code fd.qualname = true) (hbody : fd.body = .stmts body) (O : FnOkC B fd names cn gl)
    (hlen : Nat.ble vs.length names.length = true) (hloc : mkLoc names vs = loc) (hbind : ∀ rs : List Value, rs.length = vs.length → bindArgs fd ⟨rs, []⟩ = pure (names.zip rs))
    (hbody' : ∀ f : Fc, f.names = names → f.gl = gl → CfOk f cn → (wp B f n none (fun a σ => X a σ.H) names gl [] 60).S body ⟨loc, H⟩ (fun σ => Q .none σ.H) (retk Q)) :
    CallP B (n + 1) (.ref fa) vs H Q X :=
  fn_call_c (body := body) (names := names) (cn := cn) (gl := gl) (by rw [kB hB]; exact hl) (by rw [kB hB]; exact hk) (by rw [kB hB]; exact hcd) hbody O hbind (fun f hn hg cf => by
    rw [← mkLoc_eq (Nat.le_of_ble_eq_true hlen), hloc]; exact (snd hn hg 60).S (hbody' f hn hg cf))
noncomputable def isFree : Option NameKind → Bool
  | some .free => true
  | _ => false
noncomputable def isGlob : Option NameKind → Bool
  | some .globalImplicit => true
  | _ => false
noncomputable def scB (scope : Scope) (x y : Str) (g2 : List (Str × AV)) : Bool :=
  (match scope.kind with | .function => true | _ => false) && scope.names.all (fun z => !isCell (some z.2) && (!isLocal (some z.2) || isLocal (scope.names.lookup z.1))) && isLocal (scope.names.lookup x) && !(x == ("__debug__" : Str)) && !(x == ("__classdict__" : Str)) &&
  isFree (scope.names.lookup y) && !(y == ("__debug__" : Str)) && !(y == ("__classdict__" : Str)) && g2.all (fun p => isGlob (scope.names.lookup p.1))
theorem isLocal_of {o : Option NameKind} (h : isLocal o = true) : o = some .local := by
  unfold isLocal at h
  split at h
  · rfl
  · cases h
theorem isFree_of {o : Option NameKind} (h : isFree o = true) : o = some .free := by
  unfold isFree at h
  split at h
  · rfl
  · cases h
theorem isGlob_of {o : Option NameKind} (h : isGlob o = true) : o = some .globalImplicit := by
  unfold isGlob at h
  split at h
  · rfl
  · cases h
theorem sc_of {B : BC} {f : Fc} {scope : Scope} {x y : Str} {g2 : List (Str × AV)} (hg : ∀ p ∈ g2, GlAt B p.1 p.2) (h : scB scope x y g2 = true) : ScOk B f scope x y g2 := by
  unfold scB at h
  simp only [Bool.and_eq_true, Bool.not_eq_true'] at h
  obtain ⟨⟨⟨⟨⟨⟨⟨⟨a, b⟩, c⟩, d⟩, e⟩, i⟩, j⟩, k⟩, l⟩ := h
  have b' := List.all_eq_true.mp b
  refine ⟨?_, fun z m e => ?_, fun z m e => ?_, isLocal_of c, ⟨d, e⟩, isFree_of i, ⟨j, k⟩, fun p m => ⟨isGlob_of (List.all_eq_true.mp l p m), hg p m⟩⟩
  · split at a
    · assumption
    · cases a
  · have := b' z m
    rw [e] at this; simp [isCell] at this
  · have := b' z m
    rw [e] at this
    simp only [Bool.and_eq_true, isLocal, Bool.not_true, Bool.false_or] at this
    exact isLocal_of this.2
theorem gls_nil {B : BC} : ∀ p ∈ ([] : List (Str × AV)), GlAt B p.1 p.2 := fun p m => nomatch m
theorem gls_cons {B : BC} {x : Str} {v : AV} {r : List (Str × AV)} (h : GlAt B x v) (t : ∀ p ∈ r, GlAt B p.1 p.2) : ∀ p ∈ (x, v) :: r, GlAt B p.1 p.2 := fun p m => by
  rcases List.mem_cons.mp m with rfl | m
  · exact h
  · exact t p m
theorem call_loc {B : BC} {f : Fc} {n : Nat} {X : Addr → St → Prop} {ns : List Str} {gl : List (Str × AV)} (hn : f.names = ns) (hg : f.gl = gl) {x : Str} {p pos : Pos} {args : List Expr} {σ : St} {Q : AV → St → Prop} {fa : Addr} (h0 : Got ns x σ.loc (.ref fa)) (hk : keepIn B.K (.ref fa) = true) (hp : args.all plainArg = true)
    (h : (wp B f n none X ns gl [] 60).L pos args σ (fun vs σ₁ => CW B n X fa vs σ₁ Q)) : EV B f n none (eval (.Call (.Name x p) args [] pos) f.env) σ Q X := by
  obtain ⟨i, hi, hv⟩ := h0.idx
  rw [← hn] at hi
  exact r_call (r_name hi hv (r_call_fn hk (EX.imp ((snd hn hg 60).L h) (fun _ _ (q : CW B n X fa _ _ Q) => q.h) fun _ _ q => q) hp)) rfl
end Mine
end
section
open PySem PySem.W PyProof.Rows PySem.Calls
namespace Mine
inductive Atom : AV → Prop
  | int {i : Int} : Atom (.int i)
  | str {x : Str} : Atom (.str x)
inductive Tree : Nat → AV → Prop
  | atom {k : Nat} {v : AV} : Atom v → Tree k v
  | tup {k : Nat} {xs : List AV} : (∀ x ∈ xs, Tree k x) → Tree (k + 1) (.tup xs)
  | lst {k : Nat} {xs : List AV} : (∀ x ∈ xs, Tree k x) → Tree (k + 1) (.lst xs)
  | dct {k : Nat} {es : List (Str × AV)} : (∀ p ∈ es, ∃ xs, p.2 = .tup xs ∧ ∀ x ∈ xs, Atom x) → Tree (k + 2) (.dct es)
theorem Tree.tup_at {k : Nat} {xs : List AV} (t : Tree (k + 1) (.tup xs)) : ∀ x ∈ xs, Tree k x := by
  cases t with
  | atom a => cases a
  | tup h => exact h
theorem Tree.no {k : Nat} {v : AV} {i : String} (t : Tree k v) : v ≠ .blt i := fun e => by subst e; cases t with | atom a => cases a
theorem mem0 {α : Type} {p : α → Prop} : ∀ x ∈ ([] : List α), p x := fun _ m => nomatch m
theorem memc {α : Type} {p : α → Prop} {a : α} {l : List α} (h : p a) (r : ∀ x ∈ l, p x) : ∀ x ∈ a :: l, p x := fun _ m => (List.mem_cons.mp m).elim (fun e => e ▸ h) (r _)
theorem Tree.strs {k : Nat} (xs : List Str) : ∀ x ∈ xs.map AV.str, Tree k x := fun _ m => by obtain ⟨y, _, rfl⟩ := List.mem_map.mp m; exact .atom .str
inductive Two (R : AV → AV → Prop) : List AV → List AV → Prop
  | nil : Two R [] []
  | cons {x y : AV} {xs ys : List AV} : R x y → Two R xs ys → Two R (x :: xs) (y :: ys)
theorem Two.refl {R : AV → AV → Prop} : ∀ {xs : List AV}, (∀ x ∈ xs, R x x) → Two R xs xs
  | [], _ => .nil
  | _ :: _, h => .cons (h _ (.head _)) (Two.refl fun x m => h x (.tail _ m))
section
variable {prog : Program} {w : World} {A : Around} {E : Value → Shared → Prop} {s : Shared} {P : Addr → Prop} {h : Heap}
theorem Two.at {R : AV → AV → Prop} {G : Value → Value → Prop} (k : ∀ x y v v', R x y → VR prog w P h x v → VR prog w P h y v' → G v v') {xs ys : List AV} (t : Two R xs ys) : ∀ {vs vs' : List Value}, VRs prog w P h xs vs → VRs prog w P h ys vs' →
    vs.toArray.size = vs'.toArray.size ∧ ∀ j (h1 : j < vs.toArray.size) (h2 : j < vs'.toArray.size), G vs.toArray[j] vs'.toArray[j] := by
  suffices h : ∀ {vs vs' : List Value}, VRs prog w P h xs vs → VRs prog w P h ys vs' → vs.length = vs'.length ∧ ∀ j (h1 : j < vs.length) (h2 : j < vs'.length), G vs[j] vs'[j] from fun {vs vs'} q q' => h q q'
  induction t with
  | nil => exact fun q q' => q.e0 (q'.e0 ⟨rfl, fun _ h1 => absurd h1 (Nat.not_lt_zero _)⟩)
  | cons r _ ih => exact fun q q' => q.ec fun v vs a b => q'.ec fun v' vs' a' b' => ⟨congrArg Nat.succ (ih b b').1, fun
    | 0, _, _ => k _ _ _ _ r a a'
    | j + 1, h1, h2 => (ih b b').2 j (Nat.lt_of_succ_lt_succ h1) (Nat.lt_of_succ_lt_succ h2)⟩
noncomputable def EqW (prog : Program) (w : World) (A : Around) (s : Shared) (y x : Value) : Prop :=
  ∀ (E : Value → Shared → Prop) (Q : Bool → Shared → Prop), Q true s → wpAny (model prog w) A (eqBool y x) Q E s
noncomputable def RcW (prog : Program) (w : World) (A : Around) (s : Shared) (y x : Value) : Prop :=
  ∀ (E : Value → Shared → Prop) (Q : Value → Shared → Prop), Q (.bool true) s → wpAny (model prog w) A (richCompare .Eq y x) Q E s
theorem EqW.of {y x : Value} (h : SeqAt.EqAt A s y x true) : EqW prog w A s y x := fun E Q q => h prog w E Q q
theorem EqW.refs {l b : Addr} (h : RcW prog w A s (.ref l) (.ref b)) : EqW prog w A s (.ref l) (.ref b) := fun E Q q => by
  by_cases e : l = b
  · subst e; exact SeqAt.EqAt.same _ prog w E Q q
  · unfold eqBool
    refine wpAny_holding ?_
    refine wpAny_ite_split (fun hab => absurd (by have := eq_of_beq hab; injection this) e) (fun _ => ?_)
    exact wpAny_bind (h E _ (wpAny_truthy_bool q))
open AutoSeq1 MeetsSeq MeetsSeq2 MeetsSeq3 SeqRoads2 in
theorem eqw_turn (l b : Addr) (xs ys : Array Value) (n n2 : Nat) (dd dd2 : Option Addr) (sl sl2 : Array (Option Value)) (hsz : xs.size = ys.size) {A : Around} {R : Result → Shared → Prop} {s : Shared}
    (hl : s.heap.get? l = some { cls := .type "list", dict := dd, data := .seq xs n, slots := sl }) (hb : s.heap.get? b = some { cls := .type "list", dict := dd2, data := .seq ys n2, slots := sl2 })
    (he : ∀ j (h1 : j < xs.size) (h2 : j < ys.size), EqW prog w A.in1 s xs[j] ys[j]) (h : R (.ok (.ret (.bool true))) s) (k : Nat) :
    ∀ i : Nat, xs.size - i = k → wpAny (model prog w) A.in1 (Builtin.«list.__eq__.loop» ⟨[.ref l, .ref b, rawInt i, rawInt 2], []⟩)
      (fun fin s' => match fin with | .done f => R (.ok f) s' | .again c' => c'.quiet = true ∧ codeAny (model prog w) A c' R s') (fun e s' => R (.error e) s') s := by
  induction k with
  | zero =>
    intro i hk
    obtain ⟨hp, g, d, tk, os⟩ := s
    wp_walk using wpAny_loadPart' hl, wpAny_loadPart' hb
    have hi1 : xs[((i : Nat) : Int).toNat]? = none := Array.getElem?_eq_none (Nat.le_of_sub_eq_zero hk)
    have hi2 : ys[((i : Nat) : Int).toNat]? = none := Array.getElem?_eq_none (hsz ▸ Nat.le_of_sub_eq_zero hk)
    rw [hi1, hi2]
    wp_walk using wpAny_loadPart' hl, wpAny_loadPart' hb
    show R (.ok (.ret (.bool (xs.size == ys.size)))) _
    rw [hsz]
    simpa using h
  | succ k ih =>
    intro i hk
    obtain ⟨hp, g, d, tk, os⟩ := s
    wp_walk using wpAny_loadPart' hl, wpAny_loadPart' hb
    have h1 : i < xs.size := Nat.lt_of_sub_eq_succ hk
    have h2 : i < ys.size := hsz ▸ h1
    have hi1 : xs[((i : Nat) : Int).toNat]? = some xs[i] := Array.getElem?_eq_getElem h1
    have hi2 : ys[((i : Nat) : Int).toNat]? = some ys[i] := Array.getElem?_eq_getElem h2
    have hc : ((i : Int) + 1) = ((i + 1 : Nat) : Int) := by push_cast; rfl
    rw [hi1, hi2]
    refine wpAny_bind (he i h1 h2 _ _ ?_)
    wp_walk
    rw [hc]
    exact ⟨plainId_quiet plain_eq_loop _, codeAny_builtin entry_eq_loop (by
      rw [Around.under_plainId plain_eq_loop _]
      exact ih (i + 1) (congrArg Nat.pred hk))⟩
open AutoSeq1 MeetsSeq MeetsSeq2 MeetsSeq3 SeqRoads2 in
theorem rcw_lists {l b : Addr} {xs ys : Array Value} (hl : s.heap.IsList l xs) (hb : s.heap.IsList b ys) (hu : A.units < cLine) (he : xs.size = ys.size ∧ ∀ j (h1 : j < xs.size) (h2 : j < ys.size), EqW prog w A.in1 s xs[j] ys[j]) : RcW prog w A s (.ref l) (.ref b) := fun E Q h => by
  obtain ⟨hsz, he⟩ := he
  obtain ⟨⟨cls, dd, data, sl⟩, ho, hc, n, hd⟩ := id hl
  obtain ⟨⟨cls2, dd2, data2, sl2⟩, ho2, hc2, n2, hd2⟩ := id hb
  simp only at hc hd hc2 hd2
  subst hc hd hc2 hd2
  refine wpAny_richCompare_same_room (op := .Eq) ⟨_, ho, rfl⟩ ⟨_, ho2, rfl⟩ F.slot_list_eq (wpAny_call (codeAny_call_builtin F.slot_list_eq.plain F.entry_list_eq (F.slot_list_eq.check _ _ _ _ _ _ _ _ ⟨_, ho, rfl⟩ (F.args_list_eq_2 _ _) ?_))) hu
  obtain ⟨hp, g, d, tk, os⟩ := s
  have f3 := AutoSeq1.sub_list_list
  have hne : ¬ (xs.size != ys.size) = true := by simp [hsz]
  wp_walk using wpAny_loadPart' ho, wpAny_loadPart' ho2
  exact ⟨plainId_quiet plain_eq_loop _, codeAny_builtin entry_eq_loop (by
    rw [Around.under_plainId plain_eq_loop _]
    refine eqw_turn (R := wants (fun v s' => v ≠ .notImplemented ∧ Q v s') E) l b xs ys n n2 dd dd2 sl sl2 hsz ho ho2 he ?_ _ 0 rfl
    exact ⟨(fun x => nomatch x), h⟩)⟩
open AutoSeq1 MeetsSeq MeetsSeq2 MeetsSeq3 SeqRoads2 in
theorem rcw_tuples {l b : Addr} {xs ys : Array Value} (hl : s.heap.IsTuple l xs) (hb : s.heap.IsTuple b ys) (hu : A.units < cLine) (he : xs.size = ys.size ∧ ∀ j (h1 : j < xs.size) (h2 : j < ys.size), EqW prog w A.in1 s xs[j] ys[j]) : RcW prog w A s (.ref l) (.ref b) := fun E Q h => by
  obtain ⟨hsz, he⟩ := he
  obtain ⟨⟨cls, dd, data, sl⟩, ho, hc, n, hd⟩ := id hl
  obtain ⟨⟨cls2, dd2, data2, sl2⟩, ho2, hc2, n2, hd2⟩ := id hb
  simp only at hc hd hc2 hd2
  subst hc hd hc2 hd2
  refine wpAny_richCompare_same_room (op := .Eq) ⟨_, ho, rfl⟩ ⟨_, ho2, rfl⟩ F.slot_tuple_eq (wpAny_call (codeAny_call_builtin F.slot_tuple_eq.plain F.entry_tuple_eq (F.slot_tuple_eq.check _ _ _ _ _ _ _ _ ⟨_, ho, rfl⟩ (F.args_tuple_eq_2 _ _) ?_))) hu
  have hg : wpAny (model prog w) A.in1 (Builtin.«tuple.__eq__» ⟨[.ref l, .ref b], []⟩) (fun fin s' => fin = .done (.ret (.bool true)) ∧ s' = s) (fun e s' => False) s := by
    obtain ⟨hp, g, d, tk, os⟩ := s
    have f2 := AutoSeq1.sub_tuple_tuple
    wp_walk using wpAny_loadPart' ho, wpAny_loadPart' ho2, wpAny_forIn_list _ (fun rest c s' => c.1 = none ∧ s' = ⟨hp, g, d, tk, os⟩ ∧ ∃ i, rest = (xs.toList.zip ys.toList).drop i) _
    case turn =>
      rintro ⟨y, x⟩ rest c s' ⟨hc', rfl, i, hz⟩
      have hlt : i < (xs.toList.zip ys.toList).length := by
        rcases Nat.lt_or_ge i (xs.toList.zip ys.toList).length with h' | h'
        · exact h'
        · rw [List.drop_of_length_le h'] at hz; cases hz
      have h1 : i < xs.size := Nat.lt_of_lt_of_le (List.length_zip ▸ hlt) (Nat.min_le_left ..)
      have h2 : i < ys.size := Nat.lt_of_lt_of_le (List.length_zip ▸ hlt) (Nat.min_le_right ..)
      rw [List.drop_eq_getElem_cons hlt] at hz
      injection hz with hyx hrest
      have hy : y = xs[i] := by have := congrArg Prod.fst hyx; simpa using this
      have hx : x = ys[i] := by have := congrArg Prod.snd hyx; simpa using this
      subst hy hx
      refine wpAny_bind (he i h1 h2 _ _ ?_)
      wp_walk
      exact ⟨rfl, rfl, i + 1, hrest⟩
    case fin =>
      rintro ⟨b1, b2⟩ s' ⟨hb', rfl, i, hz⟩
      simp only at hb'
      subst hb'
      wp_walk
      simp [Builtin.Tuple.tupleCompareSizes, hsz]
    case h => exact ⟨rfl, rfl, 0, rfl⟩
  refine wpAny_mono hg (fun fin s' q => ?_) fun _ _ q => q.elim
  obtain ⟨e, e'⟩ := q
  subst e e'
  exact ⟨(fun x => nomatch x), h⟩
theorem tup_atoms {l b : Addr} {xs ys : Array Value} (hl : s.heap.IsTuple l xs) (hb : s.heap.IsTuple b ys) (hu : A.units < cLine) (he : xs.size = ys.size ∧ ∀ j (h1 : j < xs.size) (h2 : j < ys.size), SeqAt.EqAt A.in1 s xs[j] ys[j] true) : SeqAt.EqAt A s (.ref l) (.ref b) true := by
  by_cases e : l = b
  · subst e; exact SeqAt.EqAt.same _
  · have := SeqAt.EqAt.of_refs e (SeqAt.RcAt.tuples (e := fun _ => true) hl hb hu he.2)
    rwa [List.all_eq_true.mpr fun _ _ => rfl, he.1, beq_self_eq_true] at this
theorem val_mem {p : Str × Value} {kb : List (Str × Value)} (nd : (kb.map (·.1)).Nodup) (m : p ∈ kb) : valueAt kb p.1 = some p.2 := by
  induction kb with
  | nil => cases m
  | cons q r ih =>
    rw [List.map_cons, List.nodup_cons] at nd
    unfold valueAt
    rcases List.mem_cons.mp m with e | m
    · subst e; rw [List.find?_cons_of_pos (by exact decide_eq_true rfl)]; rfl
    · rw [List.find?_cons_of_neg (by exact fun h => nd.1 ((of_decide_eq_true h : q.1 = p.1) ▸ List.mem_map_of_mem m))]; exact ih nd.2 m
theorem hits_of {kb : List (Str × Value)} (nd : (kb.map (·.1)).Nodup) {es : List (Str × AV)} (he : ∀ p ∈ es, ∀ v v', VR prog w P h p.2 v → VR prog w P h p.2 v' → SeqAt.EqAt A s v v' true) :
    ∀ {ka kt : List (Str × Value)}, VRd prog w P h es ka → VRd prog w P h es kt → (∀ p ∈ kt, p ∈ kb) → KeqHits A s kb ka true ∧ ka.length = kt.length := by
  induction es with
  | nil => exact fun q q' _ => q.e0 (q'.e0 ⟨.nil, rfl⟩)
  | cons p r ih =>
    intro ka kt q q'
    refine VRd.ec q fun v ka a b => ?_
    refine VRd.ec q' fun v' kt a' b' m => ?_
    have i := ih (fun p m => he p (.tail _ m)) b b' fun p q => m p (.tail _ q)
    exact ⟨.hit (e := true) (b := true) (val_mem nd (m _ (.head _))) (he _ (.head _) v v' a a') i.1, congrArg Nat.succ i.2⟩
theorem u_in {A : Around} {k c : Nat} (h : A.units + (k + 1) < c) : A.in1.units + k < c ∧ A.units < c := ⟨by show A.units + 1 + k < c; rwa [Nat.add_assoc, Nat.add_comm 1], Nat.lt_of_le_of_lt (Nat.le_add_right _ _) h⟩
theorem eq_atom {v : AV} (t : Atom v) {r r' : Value} (q : VR prog w P h v r) (q' : VR prog w P h v r') : SeqAt.EqAt A s r r' true := by
  cases t with
  | @int i => exact q.eInt fun t => q'.eInt fun t' => by have := SeqAt.EqAt.int_int (A := A) (s := s) i t i t'; rwa [beq_self_eq_true] at this
  | @str x => exact q.eStr fun t => q'.eStr fun t' => by have := SeqAt.EqAt.str_str (A := A) (s := s) x t x t'; rwa [beq_self_eq_true] at this
theorem eq_tree {k : Nat} {v : AV} (t : Tree k v) : ∀ (A : Around), A.units + k < cLine → ∀ r r', VR prog w P s.heap v r → VR prog w P s.heap v r' → EqW prog w A s r r' := by
  induction t with
  | atom t => exact fun A _ r r' q q' => EqW.of (eq_atom t q q')
  | tup _ ih => exact fun A hu r r' q q' => q.eTup fun a _ e n i => q'.eTup fun b _ e' n' i' => EqW.refs (rcw_tuples e e' (u_in hu).2 (Two.at (R := fun x y => y = x ∧ x ∈ _) (fun x y v v' r a a' => ih x r.2 A.in1 (u_in hu).1 v v' a (r.1 ▸ a')) (Two.refl fun x m => ⟨rfl, m⟩) i i'))
  | lst _ ih => exact fun A hu r r' q q' => q.eLst fun a _ e n i => q'.eLst fun b _ e' n' i' => EqW.refs (rcw_lists e.isList e'.isList (u_in hu).2 (Two.at (R := fun x y => y = x ∧ x ∈ _) (fun x y v v' r a a' => ih x r.2 A.in1 (u_in hu).1 v v' a (r.1 ▸ a')) (Two.refl fun x m => ⟨rfl, m⟩) i i'))
  | dct hs =>
    exact fun A hu r r' q q' => q.eDct fun a ka e n m i => q'.eDct fun b kb e' n' m' i' => EqW.refs fun E Q h => by
      have nd : (kb.map (·.1)).Nodup := let ⟨_, _, _, _, _, _, _, _, nd⟩ := e'; nd
      have t := hits_of (A := A.in1) (s := s) nd (fun p m v v' => by
        obtain ⟨xs, e, hx⟩ := hs p m
        rw [e]
        exact fun q q' => q.eTup fun a _ e n i => q'.eTup fun b _ e' n' i' => tup_atoms e e' (u_in (u_in hu).1).2 (Two.at (R := fun x y => y = x ∧ x ∈ _) (fun x y v v' r a a' => eq_atom (hx x r.2) a (r.1 ▸ a')) (Two.refl fun x m => ⟨rfl, m⟩) i i')) i i' fun _ m => m
      exact keq_eq (r := true) (beq_false_of_ne m) (beq_false_of_ne m') e e' (u_in hu).2 (fun _ => t.1) (by rw [t.2, beq_self_eq_true]; exact h)
end
end Mine
end
section
open PySem PySem.W PyProof.Rows PySem.Calls
namespace Mine
inductive SameAt (H : AH) : AV → AV → Prop
  | eq {x : AV} : Tree 89 x → SameAt H x x
  | cel {a : Addr} {xs : List AV} : H a = some (.list xs) → (∀ x ∈ xs, Tree 88 x) → SameAt H (.ref a) (.lst xs)
section
variable {B : BC} {f : Fc} {n : Nat} {hd : Option Value} {σ : St} {X : Addr → St → Prop} {Q : AV → St → Prop}
theorem o_add_t {xs ys : List AV} (hx : xs ≠ []) (hy : ys ≠ []) (hz : xs.length + ys.length ≤ sizeLine) (h : Q (.tup (xs ++ ys)) σ) : EO2 B f n hd (vrel B) (.tup xs) (.tup ys) (binaryOp .Add) σ Q X := fun A s r q hA hs h1 h2 => by
  cases h1 with | @tup ra la _ hl hn hv => cases h2 with | @tup rb lb _ hl2 hn2 hv2 =>
    obtain ⟨⟨cls, dd, data, sl⟩, ho, hc, n, hd⟩ := id hl
    obtain ⟨⟨cls2, dd2, data2, sl2⟩, ho2, hc2, n2, hd2⟩ := id hl2
    simp only at hc hd hc2 hd2
    subst hc hd hc2 hd2
    have e : la.toArray ++ lb.toArray = (la ++ lb).toArray := by simp
    have ha : la ≠ [] := fun e => hx (by have := hv.length; rw [e] at this; exact List.eq_nil_of_length_eq_zero (by simpa using this))
    have hb : lb ≠ [] := fun e => hy (by have := hv2.length; rw [e] at this; exact List.eq_nil_of_length_eq_zero (by simpa using this))
    refine concat_meets ⟨_, ho, rfl⟩ ⟨_, ho2, rfl⟩ noFill_tuple_add seq_tuple_add PySem.F.slot_tuple_add PySem.F.entry_tuple_add (PySem.F.args_tuple_add_2 _ _)
      (tuple_addW2 ra rb la.toArray lb.toArray _ _ _ _ _ _ (by simpa using ha) (by simpa using hb) (by rw [List.size_toArray, List.size_toArray, ← hv.length, ← hv2.length]; exact hz)) ⟨ho, ho2, ?_⟩
    rw [e]
    have g := hs.grow (tk := s.toks) (push_keeps s.heap { cls := .type "tuple", data := .seq (la ++ lb).toArray })
    exact ⟨_, σ, g.1, g.2, .tup ⟨_, Heap.get?_push_size _ rfl, rfl, _, rfl⟩ (none_dm hs (size_none _)) (VRs.app (hv2.step g.2) (hv.step g.2)), h⟩
theorem same_go {s : Shared} {A : Around} {x y : AV} {v v' : Value} (hs : RS B f σ s) (hu : A.units + 89 < cLine) (h : SameAt σ.H x y) (a : VR B.prog B.w (PP f σ.H) s.heap x v) (b : VR B.prog B.w (PP f σ.H) s.heap y v') : EqW B.prog B.w A s v v' := by
  cases h with
  | eq t => exact eq_tree t A hu v v' a b
  | cel hc t =>
    obtain ⟨items, hl, i⟩ := hs.rh.cells _ _ hc
    exact a.eRef (b.eLst fun b _ e n i' => EqW.refs (rcw_lists hl.isList e.isList (u_in hu).2 (Two.at (R := fun x y => y = x ∧ x ∈ _) (fun x y v v' r a a' => eq_tree (t x r.2) A.in1 (u_in hu).1 v v' a (r.1 ▸ a')) (Two.refl fun x m => ⟨rfl, m⟩) i i')))
theorem u90 {A : Around} (hA : AOk f n hd A) : A.units + 90 < cLine := Nat.lt_of_le_of_lt (Nat.add_le_add_right (Nat.le_trans (Nat.le_add_right _ _) hA.units) 90) (by decide : 9800 + 90 < 9900)
theorem o_same2 {xs ys : List AV} (hv : Two (SameAt σ.H) xs ys) (h : Q (.bool true) σ) : EO2 B f n hd (vrel B) (.tup xs) (.tup ys) (compareOp .Eq) σ Q X :=
  EO2.of _ (fun A s r q hA hs h1 h2 => h1.eTup fun a _ e n i => h2.eTup fun b _ e' n' i' =>
    rcw_tuples e e' (u_in (u90 hA)).2 (Two.at (fun x y v v' t a a' => same_go hs (u_in (u90 hA)).1 t a a') hv i i') _ _ (TK.s (.bool true))) h
theorem o_eq_nil {xs : List AV} (h : Q (.bool xs.isEmpty) σ) : EO2 B f n hd (vrel B) (.lst xs) (.lst []) (compareOp .Eq) σ Q X :=
  EO2.of (.bool xs.isEmpty) (fun A s r q hA hs h1 h2 => h1.eLst fun a _ e n i => h2.eLst fun b _ e' n' i' => by
    have hu := (u_in (u90 hA)).2
    revert e'
    refine VRs.e0 i' fun e' => ?_
    cases xs with
    | nil =>
      revert e
      exact VRs.e0 i fun e => rcw_lists (prog := B.prog) (w := B.w) e.isList e'.isList hu ⟨rfl, fun j h1 => absurd h1 (Nat.not_lt_zero _)⟩ _ _ (TK.s (.bool true))
    | cons x r =>
      revert e
      exact VRs.ec i fun v vs _ _ e => SeqAt.eq_list_lengthsAt e.isList e'.isList (by simp) hu (TK.s (.bool false))) h
theorem ints_all {prog : Program} {w : World} {P : Addr → Prop} {h : Heap} {ns : List Int} : ∀ {vs : List Value}, VRs prog w P h (ns.map .int) vs → ∀ v ∈ vs, ∃ a t, v = .int a t := by
  induction ns with
  | nil => exact fun q => q.e0 fun _ m => nomatch m
  | cons i r ih => exact fun q => q.ec fun v vs a b u m => (List.mem_cons.mp m).elim (fun e => e ▸ a.eInt fun t => ⟨_, t, rfl⟩) fun m => ih b u m
theorem b_sum {ns : List Int} (h : ∀ N : Int, Q (.int N) σ) : EBl B f n none "sum" [.lst (ns.map .int)] σ Q X := fun A s rs hA hs hv => hv.e1 fun v h1 => h1.eLst fun l items hl hn hvs => by
  have hall : AllInts items.toArray := fun v hv => ints_all hvs v (List.mem_toArray.mp hv)
  obtain ⟨ps, hps⟩ := hall.items
  refine sum_intListG hA.hd (xs := ps) (by rw [← hps]; exact hl.isList) fun h' tk t' hk => ?_
  have g := hs.grow (tk := tk) hk
  exact ⟨_, σ, g.1, g.2, .int _ _, h _⟩
theorem o_pow (h : Q (.int (10 ^ 60)) σ) : EO2 B f n hd (vrel B) (.int 10) (.int 60) (binaryOp .Pow) σ Q X := EO2.of _ (fun A s r q _ _ h1 h2 => by
  cases h1; cases h2
  refine PySem.AutoIntOps.pow_4 (by decide) (by decide) (by decide) (by decide) (by decide +kernel) ?_
  exact TK.t (.int _ _)) h
theorem vrs_ints {prog : Program} {w : World} {P : Addr → Prop} {h : Heap} : ∀ {vs : List Value} {ns : List Int}, IntsAre vs ns → VRs prog w P h (ns.map .int) vs
  | _, _, .nil => .nil
  | _, _, .cons n t r => .cons (.int n t) (vrs_ints r)
theorem r_slice_step {value lo : Expr} {st : Expr} {p pos : Pos} {l : Addr} {vs : List Value} {ns : List Int} (hl : B.base.IsList l vs.toArray) (hi : IntsAre vs ns) (hz : ns.length ≤ 63)
    (h : EV B f n hd (eval value f.env) σ (fun a σ₁ => a = .ref l ∧ EPt B f n hd X (some lo) σ₁ (fun i σ₂ => EPt B f n hd X (some st) σ₂ (fun j σ₃ => j ≠ some 0 ∧ ∀ ms : List Int, Q (.lst (ms.map .int)) σ₃))) X) :
    EV B f n hd (eval (.Subscript value (.Slice (some lo) none (some st) p) pos) f.env) σ Q X := fun A s hA hs =>
  Subscript_ (h.via hA hs .refl fun ra s₁ a σ₁ h₁ st₁ _ ha q₁ => wpAny_Slice (by
    obtain ⟨rfl, q₁⟩ := q₁
    cases ha
    exact part_go q₁ hA h₁ st₁ fun ri s₂ i σ₂ h₂ st₂ st₂' hi' q₂ => by
      rw [evalPart_none]
      refine wpAny_pure ?_
      exact part_go q₂ hA h₂ st₂ fun rj s₃ j σ₃ h₃ st₃ st₃' hj q₃ => by
        obtain ⟨hj0, q⟩ := q₃
        have g := h₃.grow (tk := s₃.toks) (push_keeps s₃.heap { cls := .type "slice", data := .fields #[ri, .none, rj] })
        have hsl : (s₃.heap.push { cls := .type "slice", data := .fields #[ri, .none, rj] }).IsSliceOf s₃.heap.objs.size ri .none rj := Heap.IsSliceOf.new ..
        generalize hs4 : ({ s₃ with heap := s₃.heap.push { cls := .type "slice", data := .fields #[ri, .none, rj] } } : Shared) = s₄
        have h4 : s₄.heap = s₃.heap.push { cls := .type "slice", data := .fields #[ri, .none, rj] } := by rw [← hs4]
        have g1 : RS B f σ₃ s₄ := by rw [← hs4]; exact g.1
        have g2 : SStep f σ s σ₃ s₄ := by rw [← hs4]; exact st₃.trans g.2
        rw [← h4] at hsl
        have hl4 : s₄.heap.IsList l vs.toArray := let ⟨o, ho, r⟩ := hl; ⟨o, g1.rh.base _ _ ho, r⟩
        refine tail_go hl4.typeIs list_getitem_lookup (wpAny_getItem_list_slice hl4 hsl hi' .none hj hj0 ?_ (by rw [List.size_toArray, hi.length]; exact Nat.le_trans hz (by decide)))
        have g := g1.grow (tk := s₄.toks) (push_keeps s₄.heap { cls := .type "list", data := .seq (slicePick vs.toArray i none j) })
        refine ⟨.lst ((pickNums ns i none j).map .int), σ₃, g.1, g2.trans g.2, .lst (items := (slicePick vs.toArray i none j).toList) ?_ (none_dm g1 (size_none _)) (vrs_ints (hi.pick i none j)), q _⟩
        have := isList_new s₄.heap (slicePick vs.toArray i none j).toList
        simpa using this))
end
end Mine
end
section
open PySem PySem.W PyProof.Rows PySem.Calls
namespace Mine
section
variable {B : BC} {f : Fc} {n : Nat} {hd : Option Value} {σ : St} {X : Addr → St → Prop} {Q : AV → St → Prop} {cn : List Str}
theorem o_eq_si {x : Str} {i : Int} (h : Q (.bool false) σ) : EO2 B f n hd (vrel B) (.str x) (.int i) (compareOp .Eq) σ Q X :=
  EO2.of (.bool false) (fun A s r q hA hs h1 h2 => by
    cases h1; cases h2
    exact SeqAt.RcAt.str_int _ _ _ _ B.prog B.w _ _ (TK.s (.bool false))) h
theorem swaps_cell {elt : Expr} {gens : List Comprehension} {scope : Scope} {z : Str} {zp pos : Pos} {l : Nat} (cf : CfOk f cn) (hz : z ∈ cn) (hzm : z ∈ f.names) : swapsWith (.ListComp elt gens scope pos) (some (.Name z zp)) l f.env = pure false := by
  have hzk : f.env.kindOf z = some .cell := by have k := cf.kd z hzm; rw [if_pos hz] at k; exact k
  show (pure (f.env.blockKind == .function && f.env.kindOf z == some .local && zp.line == pos.line && !(scope.names.any fun (n, k) => n == z && (k == .local || k == .cell))) : Sem Bool) = pure false
  rw [hzk, show ((some NameKind.cell : Option NameKind) == some NameKind.local) = false from rfl, Bool.and_false]
  rfl
theorem r_set_lcc {elt : Expr} {gens : List Comprehension} {scope : Scope} {z : Str} {zp pos p : Pos} {N : St → Prop} {K : AFlow → St → Prop} (cf : CfOk f cn) (hz : z ∈ cn) (hzm : z ∈ f.names)
    (h : EV B f n hd (eval (.ListComp elt gens scope pos) f.env) σ (fun v σ₁ => Sto f.names z v N σ₁) X) : ES B f n hd (exec (.Assign [.Name z zp] (.ListComp elt gens scope pos) p) f.env) σ N K X := fun A s hA hs =>
  wpAny_Assign_Name (h.via hA hs .refl fun r s₁ v σ₁ h₁ st₁ _ hr q => by
    obtain ⟨i, hi, q⟩ := q.to
    exact set_local hi h₁ st₁ hr fun s₂ h₂ st₂ => .next h₂ st₂ q) (swaps_cell cf hz hzm)
theorem LcS.ind {elt : Expr} {x : Str} {gl : List (Str × AV)} {Q : List AV → AH → Prop} (I : List AV → List AV → AH → Prop) (h0 : ∀ ys H, I [] ys H → Q ys H)
    (h1 : ∀ v xs ys H, I (v :: xs) ys H → ∀ f' : Fc, f'.names = [x] → f'.gl = gl → EV B f' n none (eval elt f'.env) ⟨[some v], H⟩ (fun w σ' => I xs (ys ++ [w]) σ'.H) (fun _ _ => False)) : ∀ xs ys H, I xs ys H → LcS B n elt x gl Q xs ys H
  | [], ys, H, h => h0 ys H h
  | v :: xs, ys, H, h => fun f' hn hg => EX.imp (h1 v xs ys H h f' hn hg) (fun w σ' q => LcS.ind I h0 h1 xs (ys ++ [w]) σ'.H q) fun _ _ q => q
end
end Mine
end
section
open PySem PySem.W PyProof.Rows PySem.Calls
namespace Mine
section
variable {B : BC}
theorem cls84 : ∃ oc od cd sl, (kk.heap_1 B.w.params).lookup 84 = some ⟨oc, od, .cls cd, sl⟩ ∧ cd.hasDict = true ∧ PassM cd.mro := ⟨_, _, _, _, by k_is, rfl, by repeat constructor⟩
theorem cls63 : ∃ oc od cd sl, (kk.heap_1 B.w.params).lookup 63 = some ⟨oc, od, .cls cd, sl⟩ ∧ cd.hasDict = true ∧ PassM cd.mro := ⟨_, _, _, _, by k_is, rfl, by repeat constructor⟩
theorem cls381 : ∃ oc od cd sl, (kk.heap_1 B.w.params).lookup 381 = some ⟨oc, od, .cls cd, sl⟩ ∧ cd.hasDict = true ∧ PassM cd.mro := ⟨_, _, _, _, by k_is, rfl, by repeat constructor⟩
theorem cls622 : ∃ oc od cd sl, (kk.heap_1 B.w.params).lookup 622 = some ⟨oc, od, .cls cd, sl⟩ ∧ cd.hasDict = true ∧ PassM cd.mro := ⟨_, _, _, _, by k_is, rfl, by repeat constructor⟩
theorem xo84 : ∃ o, (kk.heap_1 B.w.params).lookup 84 = some o ∧ XOb o 84 := ⟨_, by k_is, ⟨_, _, _, _, _, _, _, _, _, _, _, _, _, _, _, _, rfl, rfl, rfl, rfl⟩⟩
theorem xo63 : ∃ o, (kk.heap_1 B.w.params).lookup 63 = some o ∧ XOb o 63 := ⟨_, by k_is, ⟨_, _, _, _, _, _, _, _, _, _, _, _, _, _, _, _, rfl, rfl, rfl, rfl⟩⟩
theorem fxi : findCls (kk.heap_1 B.w.params) (.type "Exception") (.type "type") "__init__" = some (.val (.builtin "Exception.__init__")) := by k_is
variable (hB : KB B)
include hB
theorem xo84' : ∃ o, B.K.lookup 84 = some o ∧ XOb o 84 := by rw [kB hB]; exact xo84
theorem xo63' : ∃ o, B.K.lookup 63 = some o ∧ XOb o 63 := by rw [kB hB]; exact xo63
theorem fxi' : findCls B.K (.type "Exception") (.type "type") "__init__" = some (.val (.builtin "Exception.__init__")) := by rw [kB hB]; exact fxi
theorem xk84 : Xk B.K 84 81 := xkAt hB (by k_is) xo84 (by k_is) (by k_is)
theorem xk63 : Xk B.K 63 35 := xkAt hB (by k_is) xo63 (by k_is) (by k_is)
theorem xc84 : XCls B.K 84 := xCls hB cls84 (by k_is) (by k_is)
theorem xc63 : XCls B.K 63 := xCls hB cls63 (by k_is) (by k_is)
theorem mk381 : Mk B.K 381 378 := mkAt hB (by k_is) (by k_is) (by k_is) (by k_is)
theorem mk622 : Mk B.K 622 520 := mkAt hB (by k_is) (by k_is) (by k_is) (by k_is)
theorem cm466 : ClM B.K 466 "__init__" 400 := clAt hB (by k_is) (by k_is) (by k_is) (by k_is)
theorem ct84_84 : Ct B.K 84 84 true := ctAt hB (by k_is) (by k_is) (by k_is) cls84
theorem ct63_84 : Ct B.K 63 84 false := ctAt hB (by k_is) (by k_is) (by k_is) cls84
theorem ct63_63 : Ct B.K 63 63 true := ctAt hB (by k_is) (by k_is) (by k_is) cls63
theorem g84_code : XNoAt B.K 84 "code" := xNoAt hB (by k_is) (by k_is) (by k_is) cls84 (by k_is)
theorem g84_value : XNoAt B.K 84 "value" := xNoAt hB (by k_is) (by k_is) (by k_is) cls84 (by k_is)
theorem g84_errorcode : XNoAt B.K 84 "errorcode" := xNoAt hB (by k_is) (by k_is) (by k_is) cls84 (by k_is)
theorem g84_level : XNoAt B.K 84 "level" := xNoAt hB (by k_is) (by k_is) (by k_is) cls84 (by k_is)
theorem g84_ret : XNoAt B.K 84 "ret" := xNoAt hB (by k_is) (by k_is) (by k_is) cls84 (by k_is)
theorem s84_code : StAt B.K 84 "code" := stAt hB (by k_is) (by k_is) cls84
theorem s84_value : StAt B.K 84 "value" := stAt hB (by k_is) (by k_is) cls84
theorem s84_errorcode : StAt B.K 84 "errorcode" := stAt hB (by k_is) (by k_is) cls84
theorem s84_level : StAt B.K 84 "level" := stAt hB (by k_is) (by k_is) cls84
theorem s84_ret : StAt B.K 84 "ret" := stAt hB (by k_is) (by k_is) cls84
theorem s84_info : StAt B.K 84 "info" := stAt hB (by k_is) (by k_is) cls84
theorem s84_is_noted : StAt B.K 84 "is_noted" := stAt hB (by k_is) (by k_is) cls84
theorem s84_line : StAt B.K 84 "line" := stAt hB (by k_is) (by k_is) cls84
theorem s84_extra : StAt B.K 84 "extra" := stAt hB (by k_is) (by k_is) cls84
theorem s63_why : StAt B.K 63 "why" := stAt hB (by k_is) (by k_is) cls63
theorem g381_kind : NoAt B.K 381 "kind" := noAt hB (by k_is) (by k_is) cls381
theorem g381_value : NoAt B.K 381 "value" := noAt hB (by k_is) (by k_is) cls381
theorem g381_writes : NoAt B.K 381 "writes" := noAt hB (by k_is) (by k_is) cls381
theorem s381_kind : StAt B.K 381 "kind" := stAt hB (by k_is) (by k_is) cls381
theorem s381_value : StAt B.K 381 "value" := stAt hB (by k_is) (by k_is) cls381
theorem s381_traces : StAt B.K 381 "traces" := stAt hB (by k_is) (by k_is) cls381
theorem s381_is_busy : StAt B.K 381 "is_busy" := stAt hB (by k_is) (by k_is) cls381
theorem s381_is_element : StAt B.K 381 "is_element" := stAt hB (by k_is) (by k_is) cls381
theorem s381_writes : StAt B.K 381 "writes" := stAt hB (by k_is) (by k_is) cls381
theorem g622_tools : NoAt B.K 622 "tools" := noAt hB (by k_is) (by k_is) cls622
theorem g622_limit : NoAt B.K 622 "limit" := noAt hB (by k_is) (by k_is) cls622
theorem g622_fuel : NoAt B.K 622 "fuel" := noAt hB (by k_is) (by k_is) cls622
theorem g622_depth : NoAt B.K 622 "depth" := noAt hB (by k_is) (by k_is) cls622
theorem g622_spent : NoAt B.K 622 "spent" := noAt hB (by k_is) (by k_is) cls622
theorem g622_vars : NoAt B.K 622 "vars" := noAt hB (by k_is) (by k_is) cls622
theorem s622_tools : StAt B.K 622 "tools" := stAt hB (by k_is) (by k_is) cls622
theorem s622_inline : StAt B.K 622 "inline" := stAt hB (by k_is) (by k_is) cls622
theorem s622_limit : StAt B.K 622 "limit" := stAt hB (by k_is) (by k_is) cls622
theorem s622_fuel : StAt B.K 622 "fuel" := stAt hB (by k_is) (by k_is) cls622
theorem s622_depth : StAt B.K 622 "depth" := stAt hB (by k_is) (by k_is) cls622
theorem s622_spent : StAt B.K 622 "spent" := stAt hB (by k_is) (by k_is) cls622
theorem s622_epoch : StAt B.K 622 "epoch" := stAt hB (by k_is) (by k_is) cls622
theorem s622_frame : StAt B.K 622 "frame" := stAt hB (by k_is) (by k_is) cls622
theorem s622_coroutine : StAt B.K 622 "coroutine" := stAt hB (by k_is) (by k_is) cls622
theorem s622_vars : StAt B.K 622 "vars" := stAt hB (by k_is) (by k_is) cls622
theorem s622_commands : StAt B.K 622 "commands" := stAt hB (by k_is) (by k_is) cls622
theorem s622_firsts : StAt B.K 622 "firsts" := stAt hB (by k_is) (by k_is) cls622
theorem m622_tool : MeAt B.K 622 "tool" 407 := meAt hB (by k_is) (by k_is) (by k_is) (by k_is) (by k_is)
theorem m622_spend : MeAt B.K 622 "spend" 414 := meAt hB (by k_is) (by k_is) (by k_is) (by k_is) (by k_is)
theorem m622_run : MeAt B.K 622 "run" 428 := meAt hB (by k_is) (by k_is) (by k_is) (by k_is) (by k_is)
theorem m622_write : MeAt B.K 622 "write" 562 := meAt hB (by k_is) (by k_is) (by k_is) (by k_is) (by k_is)
theorem m622_place : MeAt B.K 622 "place" 534 := meAt hB (by k_is) (by k_is) (by k_is) (by k_is) (by k_is)
theorem m622_write_var : MeAt B.K 622 "write_var" 548 := meAt hB (by k_is) (by k_is) (by k_is) (by k_is) (by k_is)
theorem m622_has : MeAt B.K 622 "has" 527 := meAt hB (by k_is) (by k_is) (by k_is) (by k_is) (by k_is)
theorem m622_drop : MeAt B.K 622 "drop" 569 := meAt hB (by k_is) (by k_is) (by k_is) (by k_is) (by k_is)
variable {f : Fc} {m : Nat} {X : Addr → St → Prop} {W : WP} {x : Str} {args : List Expr} {p pos : Pos} {σ : St} {Q : AV → St → Prop}
theorem ca84 (w : W.L pos args σ (fun vs σ₁ => short 40 vs = true ∧ ∀ x, σ₁.H x = none → CallP B m (.ref 81) (.ref x :: vs) (σ₁.H.put x (some (.exc 84 none false))) (fun v H' => v = .none ∧ Q (.ref x) ⟨σ₁.loc, H'⟩) (fun b H' => X b ⟨σ₁.loc, H'⟩))) : CaP B f (m + 1) none X W x args p pos σ Q (.ref 84) := .exc rfl rfl (xk84 hB) w
theorem ca63 (w : W.L pos args σ (fun vs σ₁ => short 40 vs = true ∧ ∀ x, σ₁.H x = none → CallP B m (.ref 35) (.ref x :: vs) (σ₁.H.put x (some (.exc 63 none false))) (fun v H' => v = .none ∧ Q (.ref x) ⟨σ₁.loc, H'⟩) (fun b H' => X b ⟨σ₁.loc, H'⟩))) : CaP B f (m + 1) none X W x args p pos σ Q (.ref 63) := .exc rfl rfl (xk63 hB) w
theorem cm381 (w : W.L pos args σ (fun vs σ₁ => ∀ x d, σ₁.H x = none → σ₁.H d = none → x ≠ d → CallP B m (.ref 378) (.ref x :: vs) ((σ₁.H.put d (some (.ns []))).put x (some (.inst 381 d))) (fun v H' => v = .none ∧ Q (.ref x) ⟨σ₁.loc, H'⟩) (fun b H' => X b ⟨σ₁.loc, H'⟩))) : CaP B f (m + 1) none X W x args p pos σ Q (.ref 381) := .mk rfl rfl (mk381 hB) w
theorem cm622 (w : W.L pos args σ (fun vs σ₁ => ∀ x d, σ₁.H x = none → σ₁.H d = none → x ≠ d → CallP B m (.ref 520) (.ref x :: vs) ((σ₁.H.put d (some (.ns []))).put x (some (.inst 622 d))) (fun v H' => v = .none ∧ Q (.ref x) ⟨σ₁.loc, H'⟩) (fun b H' => X b ⟨σ₁.loc, H'⟩))) : CaP B f (m + 1) none X W x args p pos σ Q (.ref 622) := .mk rfl rfl (mk622 hB) w
end
local macro_rules
  | `(tactic| walk_at "ww") => `(tactic| repeat first
    | refine NmP.loc (by repeat constructor) ?_
    | refine cafn ‹_› (by k_is) (by k_is) ?_
    | refine ca84 ‹_› ?_
    | refine ca63 ‹_› ?_
    | refine cm381 ‹_› ?_
    | refine cm622 ‹_› ?_
    | refine BlP.len_c ?_
    | refine BlP.ord ?_
    | refine MeP.find ?_
    | refine MeP.join ?_
    | refine PaP.mk ‹_› ?_)
theorem la {n a b : Nat} (h : Nat.ble a b = true) : n + a ≤ n + b := Nat.add_le_add_left (Nat.le_of_ble_eq_true h) n
noncomputable def tx (l : List Nat) : Str := ⟨l.toArray⟩
theorem tx_len (l : List Nat) : (tx l).length = l.length := by simp [tx, PySem.Str.length]
theorem tx_cps (l : List Nat) : (tx l).cps.toList = l := by simp [tx]
theorem tx_eta (x : Str) : tx x.cps.toList = x := by cases x; simp [tx]
theorem sgn_tx (c : Nat) : sgn c = tx [c] := rfl
theorem tx_inj {a b : List Nat} : tx a = tx b ↔ a = b := by
  constructor
  · intro h; have := congrArg (fun x : Str => x.cps.toList) h; simpa [tx] using this
  · intro h; rw [h]
theorem tx_beq (a b : List Nat) : (tx a == tx b) = (a == b) := by
  rw [Bool.eq_iff_iff, beq_iff_eq, beq_iff_eq, tx_inj]
noncomputable def bl (c : Nat) : Bool := c == 32 || c == 9 || c == 10 || c == 11 || c == 12 || c == 13
theorem s_sp : (" " : Str) = tx [32] := by decide +kernel
theorem s_tab : ("\t" : Str) = tx [9] := by decide +kernel
theorem s_nl : ("\n" : Str) = tx [10] := by decide +kernel
theorem s_vt : ("\x0b" : Str) = tx [11] := by decide +kernel
theorem s_ff : ("\x0c" : Str) = tx [12] := by decide +kernel
theorem s_cr : ("\r" : Str) = tx [13] := by decide +kernel
theorem bl_eq (c : Nat) : (([" ", "\t", "\n", "\x0b", "\x0c", "\r"] : List Str).any (· == sgn c)) = bl c := by
  rw [s_sp, s_tab, s_nl, s_vt, s_ff, s_cr]
  simp only [sgn_tx, List.any_cons, List.any_nil, tx_beq, Bool.or_false]
  have h : ∀ a : Nat, (([a] : List Nat) == [c]) = (c == a) := fun a => by
    rw [Bool.eq_iff_iff, beq_iff_eq, beq_iff_eq]; simp [eq_comm]
  simp only [h, bl, Bool.or_assoc]
theorem c_is_blank {B : BC} {n : Nat} (hB : KB B) {c : Nat} {H : AH} {Q : AV → AH → Prop} {X : Addr → AH → Prop} (q : Q (.bool (bl c)) H) : CallP B (n + 1) (.ref 181) [.str (sgn c)] H Q X := by
  refine c_def hB ["c"] [] (by k_is) (by k_is) (by k_is) rfl (fn_ok .nil rfl) rfl (by dsimp only [mkLoc, List.map]) (fun rs hr => ?_) (fun f hn hg hp => ?_)
  · exact len1 hr fun _ => rfl
  walk_at "ww"
  rw [← bl_eq] at q
  exact q
theorem c_digit {B : BC} {n : Nat} (hB : KB B) {c : Nat} {H : AH} {Q : AV → AH → Prop} {X : Addr → AH → Prop} (hc : 48 ≤ c) (hc' : c ≤ 57) (q : Q (.int ((c : Int) - 48)) H) : CallP B (n + 1) (.ref 188) [.str (sgn c)] H Q X := by
  refine c_def hB ["c", "n"] [("len", .blt "len"), ("ord", .blt "ord")] (by k_is) (by k_is) (by k_is) rfl (fn_ok (.blt hB (by k_is) rfl rfl (.blt hB (by k_is) rfl rfl .nil)) rfl) rfl (by dsimp only [mkLoc, List.map]) (fun rs hr => ?_) (fun f hn hg hp => ?_)
  · exact len1 hr fun _ => rfl
  walk_at "ww"
  conv => whnf
  refine br_t (decide_eq_true (by omega)) ?_
  walk_at "ww"
  conv => whnf
  refine br_t (decide_eq_true (by omega)) ?_
  walk_at "ww"
  exact q
section
variable {B : BC} {f : Fc} {n : Nat} {hd : Option Value} {X : Addr → St → Prop} {σ : St} {Q : AV → St → Prop} {l : List Nat}
theorem lt62 {k : Nat} (h : k ≤ 1000) : k < 2 ^ 62 := Nat.lt_of_le_of_lt h (by decide)
theorem nat63 {k : Nat} (h : k ≤ 1000) : (k : Int) < 2 ^ 63 := Int.ofNat_lt.mpr (Nat.lt_of_le_of_lt h (by decide))
theorem mul_ok {k : Nat} (h : k ≤ 1000) {y : Int} : IntMulOk (k : Int) y := IntMulOk.of_left (intBits_le_64 (Int.lt_of_lt_of_le (by decide) (Int.natCast_nonneg k)) (Int.lt_of_le_of_lt (Int.ofNat_le.mpr h) (by decide)))
theorem le_line {k : Nat} (h : k ≤ 10000) : k ≤ sizeLine := Nat.le_trans h (by decide)
theorem le_line1 {k : Nat} (h : k ≤ 1000) : k ≤ sizeLine := Nat.le_trans h (by decide)
theorem len_tx (h : l.length ≤ 1000) (q : Q (.int l.length) σ) : BlP B f n hd X "len" [.str (tx l)] σ Q := .len_s (by rw [tx_len]; exact lt62 h) (by rw [tx_len]; exact q)
theorem item_tx {value slice : Expr} {i c : Nat} (h : l.length ≤ 1000) (hc : l[i]? = some c) (q : Q (.str (sgn c)) σ) : ItP B f n hd X value slice (.str (tx l)) (.int (i : Nat)) σ Q := .str (Int.natCast_nonneg _) (by rw [tx_len]; exact lt62 h) (by rw [tx_cps]; exact hc) q
theorem it_lst {value slice : Expr} {xs : List AV} {k : Nat} {v : AV} (h : k ≤ 1000) (hx : xs[k]? = some v) (q : Q v σ) : ItP B f n hd X value slice (.lst xs) (.int (k : Nat)) σ Q := .lst (Int.natCast_nonneg _) (nat63 h) hx q
theorem it_tup {value slice : Expr} {xs : List AV} {k : Nat} {v : AV} (h : k ≤ 1000) (hx : xs[k]? = some v) (q : Q v σ) : ItP B f n hd X value slice (.tup xs) (.int (k : Nat)) σ Q := .tup (Int.natCast_nonneg _) (nat63 h) hx q
theorem len_lst {xs : List AV} (h : xs.length ≤ 1000) (q : Q (.int xs.length) σ) : BlP B f n hd X "len" [.lst xs] σ Q := .len_l (lt62 h) q
theorem len_map {α : Type} {xs : List α} {g : α → AV} (h : xs.length ≤ 1000) (q : Q (.int xs.length) σ) : BlP B f n hd X "len" [.lst (xs.map g)] σ Q := .len_l (by rw [List.length_map]; exact lt62 h) (by rw [List.length_map]; exact q)
theorem len_map2 {α β : Type} {xs : List α} {g : α → β} {g' : β → AV} (h : xs.length ≤ 1000) (q : Q (.int xs.length) σ) : BlP B f n hd X "len" [.lst ((xs.map g).map g')] σ Q := by
  rw [List.map_map]; exact len_map h q
section
variable {a b : Nat} {T E : Prop}
theorem br_lt (t : a < b → T) (e : b ≤ a → E) : br (decide ((a : Int) < (b : Int))) T E := br_of (fun h => t (Int.ofNat_lt.mp (of_decide_eq_true h))) fun h => e (Nat.not_lt.mp fun q => of_decide_eq_false h (Int.ofNat_lt.mpr q))
theorem br_le (t : a ≤ b → T) (e : b < a → E) : br (decide ((a : Int) ≤ (b : Int))) T E := br_of (fun h => t (Int.ofNat_le.mp (of_decide_eq_true h))) fun h => e (Nat.not_le.mp fun q => of_decide_eq_false h (Int.ofNat_le.mpr q))
theorem br_eq (t : a = b → T) (e : a ≠ b → E) : br ((a : Int) == (b : Int)) T E := br_of (fun h => t (Int.ofNat.inj (eq_of_beq h))) fun h => e fun q => by rw [q, beq_self_eq_true] at h; cases h
theorem br_sg {s : Str} {c : Nat} (hs : s = tx [a]) (t : c = a → T) (e : c ≠ a → E) : br (sgn c == s) T E := by
  rw [hs, sgn_tx, tx_beq]
  exact br_of (fun h => t (by have := eq_of_beq h; injection this)) fun h => e fun q => by rw [q, beq_self_eq_true] at h; cases h
end
end
theorem bl_dig {c : Nat} (hc : 48 ≤ c) (hc' : c ≤ 57) : bl c = false := (by decide : ∀ k : Fin 58, 48 ≤ k.val → bl k.val = false) ⟨c, Nat.lt_succ_of_le hc'⟩ hc
theorem slice_txt {l : List Nat} {a b : Nat} (hab : a ≤ b) (ha : a ≤ l.length) : Txt.slice (tx l) (some (a : Int)) (some (b : Int)) = tx ((l.drop a).take (b - a)) := by
  have key : ∀ b : Nat, a ≤ b → b ≤ l.length → Txt.slice (tx l) (some (a : Int)) (some (b : Int)) = tx ((l.drop a).take (b - a)) := fun b hab hb => by
    have := StrLaws.sliceText_nat (tx l) hab (by rw [tx_len]; exact hb)
    rw [tx_cps] at this
    exact this
  by_cases hb : b ≤ l.length
  · exact key b hab hb
  · have h1 := key l.length ha (Nat.le_refl _)
    have e : Txt.slice (tx l) (some (a : Int)) (some (b : Int)) = Txt.slice (tx l) (some (a : Int)) (some (l.length : Int)) := by
      have e : Builtin.Str.strSliceIndices (some (a : Int)) (some (b : Int)) 1 (tx l).length = Builtin.Str.strSliceIndices (some (a : Int)) (some (l.length : Int)) 1 (tx l).length := by
        rw [tx_len]
        have lb := Nat.le_of_lt (Nat.lt_of_not_le hb)
        have e1 : max (0 : Int) (min (b : Int) (l.length : Int)) = l.length := by rw [Int.min_eq_right (Int.ofNat_le.mpr lb), Int.max_eq_right (Int.natCast_nonneg _)]
        have e2 : max (0 : Int) (min (l.length : Int) (l.length : Int)) = l.length := by rw [Int.min_eq_right (Int.le_refl _), Int.max_eq_right (Int.natCast_nonneg _)]
        have a1 : ¬ (b : Int) < 0 := Int.not_lt.mpr (Int.natCast_nonneg _)
        have a2 : ¬ (l.length : Int) < 0 := Int.not_lt.mpr (Int.natCast_nonneg _)
        simp [Builtin.Str.strSliceIndices, a1, a2, e1, e2]
      unfold Txt.slice
      rw [e]
    rw [e, h1, List.take_of_length_le (Nat.le_of_eq List.length_drop), List.take_of_length_le (by rw [List.length_drop]; exact Nat.sub_le_sub_right (Nat.le_of_lt (Nat.lt_of_not_le hb)) a)]
theorem sl_tx {l : List Nat} {a b : Nat} {σ : St} {Q : AV → St → Prop} (hab : a ≤ b) (ha : a ≤ l.length) (hz : l.length ≤ 1000) (q : Q (.str (tx ((l.drop a).take (b - a)))) σ) : SlP (.str (tx l)) (some (a : Int)) (some (b : Int)) σ Q :=
  .str (by rw [tx_len]; exact le_line1 hz) (by rw [slice_txt hab ha]; exact q)
theorem any_ne {ys : List Str} {c : Nat} (h : ∀ y ∈ ys, ∃ a, y = tx [a] ∧ a ≠ c) : ys.any (· == sgn c) = false := by
  rw [List.any_eq_false]
  intro y hy
  obtain ⟨a, rfl, ha⟩ := h y hy
  rw [sgn_tx, tx_beq]
  simp [ha]
theorem c_digits_value {B : BC} {n : Nat} (hB : KB B) {c : Nat} {H : AH} {Q : AV → AH → Prop} {X : Addr → AH → Prop} (hc : 48 ≤ c) (hc' : c ≤ 57) (q : Q (.int ((c : Int) - 48)) H) : CallP B (n + 2) (.ref 195) [.str (tx [c]), .int 10] H Q X := by
  refine c_def hB ["text", "base", "value", "c", "n"] [("digit", .ref 188)] (by k_is) (by k_is) (by k_is) rfl (fn_ok (.fn hB (by k_is) rfl .nil) rfl) rfl (by dsimp only [mkLoc, List.map]) (fun rs hr => ?_) (fun f hn hg hp => ?_)
  · exact len2 hr fun _ _ => rfl
  walk_at "ww"
  refine ⟨by simp [tx]; omega, ?_⟩
  walk_at "ww"
  refine CW.of (c_digit (n := n) hB hc hc' ?_) (Nat.le_refl _)
  walk_at "ww"
  conv => whnf
  refine br_f (decide_eq_false (by omega)) ?_
  walk_at "ww"
  conv => whnf
  refine br_f (decide_eq_false (by omega)) ?_
  walk_at "ww"
  refine ⟨IntMulOk.of_left (by decide +kernel), ?_⟩
  walk_at "ww"
  conv => whnf
  rw [show ((0 : Int) * 10 + ((c : Int) - 48)) = (c : Int) - 48 by omega]
  exact q
theorem c_whole_of {B : BC} {n : Nat} (hB : KB B) {c : Nat} {H : AH} {Q : AV → AH → Prop} {X : Addr → AH → Prop} (hc : 48 ≤ c) (hc' : c ≤ 57) (q : Q (.int ((c : Int) - 48)) H) : CallP B (n + 3) (.ref 209) [.str (tx [c])] H Q X := by
  refine c_def hB ["text", "first", "behind", "is_minus", "base", "value"] [("len", .blt "len"), ("is_blank", .ref 181), ("base_of", .ref 202), ("digits_value", .ref 195)] (by k_is) (by k_is) (by k_is) rfl (fn_ok (.blt hB (by k_is) rfl rfl (.fn hB (by k_is) rfl (.fn hB (by k_is) rfl (.fn hB (by k_is) rfl .nil)))) rfl) rfl (by dsimp only [mkLoc, List.map]) (fun rs hr => ?_) (fun f hn hg hp => ?_)
  · exact len1 hr fun _ => rfl
  walk_at "ww"
  refine ⟨wh_step hn hg 60 ?_⟩
  walk_at "ww"
  refine item_tx (l := [c]) (i := 0) (Nat.le_of_ble_eq_true rfl) rfl ?_
  walk_at "ww"
  refine CW.of (c_is_blank (n := n) hB ?_) (by first | exact la rfl | exact Nat.le_add_right _ _ | omega)
  rw [bl_dig hc hc']
  walk_at "ww"
  refine ⟨wh_step hn hg 60 ?_⟩
  walk_at "ww"
  refine item_tx (l := [c]) (i := 0) (Nat.le_of_ble_eq_true rfl) rfl ?_
  walk_at "ww"
  refine CW.of (c_is_blank (n := n) hB ?_) (by first | exact la rfl | exact Nat.le_add_right _ _ | omega)
  rw [bl_dig hc hc']
  walk_at "ww"
  refine item_tx (l := [c]) (i := 0) (Nat.le_of_ble_eq_true rfl) rfl ?_
  walk_at "ww"
  conv => whnf
  refine br_f ?_ ?_
  · exact any_ne (fun y hy => by
      simp only [List.mem_cons, strsOf, List.not_mem_nil, or_false] at hy
      rcases hy with rfl | rfl
      · exact ⟨43, by decide +kernel, Nat.ne_of_lt (Nat.lt_of_lt_of_le (by decide) hc)⟩
      · exact ⟨45, by decide +kernel, Nat.ne_of_lt (Nat.lt_of_lt_of_le (by decide) hc)⟩)
  walk_at "ww"
  refine sl_tx (l := [c]) (a := 0) (b := 1) (by decide) (Nat.zero_le _) (Nat.le_of_ble_eq_true rfl) ?_
  walk_at "ww"
  refine CW.of (c_digits_value (c := c) (n := n) hB hc hc' ?_) (by first | exact la rfl | exact Nat.le_add_right _ _ | omega)
  walk_at "ww"
  exact q
theorem c_bool_of {B : BC} {n : Nat} (hB : KB B) {c : Nat} {H : AH} {Q : AV → AH → Prop} {X : Addr → AH → Prop} (hc : 48 ≤ c) (hc' : c ≤ 57) (q : Q (.bool (c != 48)) H) : CallP B (n + 4) (.ref 216) [.str (tx [c])] H Q X := by
  refine c_def hB ["text", "value", "low", "word"] [("whole_of", .ref 209)] (by k_is) (by k_is) (by k_is) rfl (fn_ok (.fn hB (by k_is) rfl .nil) rfl) rfl (by dsimp only [mkLoc, List.map]) (fun rs hr => ?_) (fun f hn hg hp => ?_)
  · exact len1 hr fun _ => rfl
  walk_at "ww"
  refine CW.of (c_whole_of (c := c) (n := n) hB hc hc' ?_) (by first | exact la rfl | exact Nat.le_add_right _ _ | omega)
  walk_at "ww"
  have e : ((c : Int) - 48 != 0) = (c != 48) := by
    rw [Bool.eq_iff_iff, bne_iff_ne, bne_iff_ne]; omega
  conv => whnf
  rw [e]
  exact q
theorem c_need_bool {B : BC} {n : Nat} (hB : KB B) {c : Nat} {H : AH} {Q : AV → AH → Prop} {X : Addr → AH → Prop} (hc : 48 ≤ c) (hc' : c ≤ 57) (q : Q (.bool (c != 48)) H) : CallP B (n + 5) (.ref 223) [.str (tx [c])] H Q X := by
  refine c_def hB ["text", "value"] [("bool_of", .ref 216)] (by k_is) (by k_is) (by k_is) rfl (fn_ok (.fn hB (by k_is) rfl .nil) rfl) rfl (by dsimp only [mkLoc, List.map]) (fun rs hr => ?_) (fun f hn hg hp => ?_)
  · exact len1 hr fun _ => rfl
  walk_at "ww"
  refine CW.of (c_bool_of (c := c) (n := n) hB hc hc' ?_) (by first | exact la rfl | exact Nat.le_add_right _ _ | omega)
  walk_at "ww"
  exact q
noncomputable def rfs (code : Int) (v : AV) (ec : AV) (level ret : Int) (ex : Addr) : List (Str × AV) := [("code", .int code), ("value", v), ("errorcode", ec), ("level", .int level), ("ret", .int ret), ("info", .str ""), ("is_noted", .bool false), ("line", .int 0), ("extra", .ref ex)]
theorem dfl74 {B : BC} : ∃ t1 t2 n, (kk.heap_1 B.w.params).lookup 74 = some ⟨.type "tuple", none, .seq #[.ref 73, .int 0 t1, .int 0 t2] n, #[]⟩ := ⟨_, _, _, by k_is⟩
section
variable {B : BC} {n : Nat} (hB : KB B) {H : AH} {Q : AV → AH → Prop} {X : Addr → AH → Prop}
theorem AH.new_ne {H : AH} {a b : Addr} {c : Cell} (ha : H a = none) (hb : H b = some c) : a ≠ b := fun e => by rw [e, hb] at ha; cases ha
theorem AH.back {H : AH} {d e : Addr} {c c' c'' : Option Cell} (h : e ≠ d) : ((H.put d c).put e c').put d c'' = (H.put e c').put d c'' := by
  rw [AH.put_comm h.symm, AH.put_twice]
include hB
theorem c_raised5 {a : Addr} {code level : Int} {v ec : AV} (ha : H a = some (.exc 84 none false))
    (q : ∀ d ex, H d = none → H ex = none → d ≠ a → ex ≠ a → ex ≠ d → Q .none (((H.put a (some (.exc 84 (some d) false))).put ex (some (.list []))).put d (some (.ns (rfs code v ec level 0 ex))))) :
    CallP B (n + 1) (.ref 81) [.ref a, .int code, v, ec, .int level] H Q X := by
  obtain ⟨t1, t2, nn, h74⟩ := dfl74 (B := B)
  refine c_defd hB ["self", "code", "value", "errorcode", "level", "ret"] [("Exception", .typ "Exception")] (dv := [.int 0]) [.int 0 t2] (by k_is) (by k_is) (by k_is) rfl (fn_ok (.typ hB (by k_is) rfl rfl .nil) rfl) rfl (by dsimp only [mkLoc, List.map, List.cons_append, List.nil_append]) (fun s rs hK hr => ?_) (fun P h hK hP => .cons (.int _ _) .nil) (fun f hn hg hp => ?_)
  · exact len5 hr fun _ _ _ _ _ => BindsTo.of_defaults rfl (hK _ _ h74) rfl rfl rfl
  walk_at "ww"
  refine MeP.xinit (fxi' hB) ?_
  walk_at "ww"
  refine XiP.mk ha (xo84' hB) ?_
  walk_at "ww"
  refine SaP.first (s84_code hB) ha (fun d hd hda => ?_)
  have hi : ∀ c, IsAt ((H.put a (some (.exc 84 (some d) false))).put d c) a 84 d := fun c => .inr ⟨false, HG.ne hda.symm HG.here⟩
  walk_at "ww"
  refine SaP.new (s84_value hB) (hi _) HG.here rfl rfl ?_
  rw [AH.put_twice]
  walk_at "ww"
  refine SaP.new (s84_errorcode hB) (hi _) HG.here rfl rfl ?_
  rw [AH.put_twice]
  walk_at "ww"
  refine SaP.new (s84_level hB) (hi _) HG.here rfl rfl ?_
  rw [AH.put_twice]
  walk_at "ww"
  refine SaP.new (s84_ret hB) (hi _) HG.here rfl rfl ?_
  rw [AH.put_twice]
  walk_at "ww"
  refine SaP.new (s84_info hB) (hi _) HG.here rfl rfl ?_
  rw [AH.put_twice]
  walk_at "ww"
  refine SaP.new (s84_is_noted hB) (hi _) HG.here rfl rfl ?_
  rw [AH.put_twice]
  walk_at "ww"
  refine SaP.new (s84_line hB) (hi _) HG.here rfl rfl ?_
  rw [AH.put_twice]
  walk_at "ww"
  refine LsP.cel (fun ex hex => ?_)
  have hed : ex ≠ d := AH.new_ne hex HG.here
  have hea : ex ≠ a := AH.new_ne hex (HG.ne hda.symm HG.here)
  walk_at "ww"
  refine SaP.new (s84_extra hB) (.inr ⟨false, HG.ne hea.symm (HG.ne hda.symm HG.here)⟩) (HG.ne hed.symm HG.here) rfl rfl ?_
  rw [AH.back hed]
  walk_at "ww"
  exact q d ex hd ((if_neg hea).symm.trans ((if_neg hed).symm.trans hex)) hda hea hed
theorem c_raised4 {a : Addr} {code : Int} {v ec : AV} (ha : H a = some (.exc 84 none false))
    (q : ∀ d ex, H d = none → H ex = none → d ≠ a → ex ≠ a → ex ≠ d → Q .none (((H.put a (some (.exc 84 (some d) false))).put ex (some (.list []))).put d (some (.ns (rfs code v ec 0 0 ex))))) :
    CallP B (n + 1) (.ref 81) [.ref a, .int code, v, ec] H Q X := by
  obtain ⟨t1, t2, nn, h74⟩ := dfl74 (B := B)
  refine c_defd hB ["self", "code", "value", "errorcode", "level", "ret"] [("Exception", .typ "Exception")] (dv := [.int 0, .int 0]) [.int 0 t1, .int 0 t2] (by k_is) (by k_is) (by k_is) rfl (fn_ok (.typ hB (by k_is) rfl rfl .nil) rfl) rfl (by dsimp only [mkLoc, List.map, List.cons_append, List.nil_append]) (fun s rs hK hr => ?_) (fun P h hK hP => .cons (.int _ _) (.cons (.int _ _) .nil)) (fun f hn hg hp => ?_)
  · exact len4 hr fun _ _ _ _ => BindsTo.of_defaults rfl (hK _ _ h74) rfl rfl rfl
  walk_at "ww"
  refine MeP.xinit (fxi' hB) ?_
  walk_at "ww"
  refine XiP.mk ha (xo84' hB) ?_
  walk_at "ww"
  refine SaP.first (s84_code hB) ha (fun d hd hda => ?_)
  have hi : ∀ c, IsAt ((H.put a (some (.exc 84 (some d) false))).put d c) a 84 d := fun c => .inr ⟨false, HG.ne hda.symm HG.here⟩
  walk_at "ww"
  refine SaP.new (s84_value hB) (hi _) HG.here rfl rfl ?_
  rw [AH.put_twice]
  walk_at "ww"
  refine SaP.new (s84_errorcode hB) (hi _) HG.here rfl rfl ?_
  rw [AH.put_twice]
  walk_at "ww"
  refine SaP.new (s84_level hB) (hi _) HG.here rfl rfl ?_
  rw [AH.put_twice]
  walk_at "ww"
  refine SaP.new (s84_ret hB) (hi _) HG.here rfl rfl ?_
  rw [AH.put_twice]
  walk_at "ww"
  refine SaP.new (s84_info hB) (hi _) HG.here rfl rfl ?_
  rw [AH.put_twice]
  walk_at "ww"
  refine SaP.new (s84_is_noted hB) (hi _) HG.here rfl rfl ?_
  rw [AH.put_twice]
  walk_at "ww"
  refine SaP.new (s84_line hB) (hi _) HG.here rfl rfl ?_
  rw [AH.put_twice]
  walk_at "ww"
  refine LsP.cel (fun ex hex => ?_)
  have hed : ex ≠ d := AH.new_ne hex HG.here
  have hea : ex ≠ a := AH.new_ne hex (HG.ne hda.symm HG.here)
  walk_at "ww"
  refine SaP.new (s84_extra hB) (.inr ⟨false, HG.ne hea.symm (HG.ne hda.symm HG.here)⟩) (HG.ne hed.symm HG.here) rfl rfl ?_
  rw [AH.back hed]
  walk_at "ww"
  exact q d ex hd ((if_neg hea).symm.trans ((if_neg hed).symm.trans hex)) hda hea hed
end
noncomputable def excH (H : AH) (a d ex : Addr) (code : Int) (v ec : AV) (level : Int) : AH := ((H.put a (some (.exc 84 (some d) false))).put ex (some (.list []))).put d (some (.ns (rfs code v ec level 0 ex)))
section
variable {B : BC} {n : Nat} (hB : KB B) {H : AH} {Q : AV → AH → Prop} {X : Addr → AH → Prop}
include hB
theorem c_error {t : Str} {ec : AV} (q : ∀ a d ex, H a = none → H d = none → H ex = none → d ≠ a → ex ≠ a → ex ≠ d → Q (.ref a) (excH H a d ex 1 (.str t) ec 0)) :
    CallP B (n + 3) (.ref 139) [.str t, ec] H Q X := by
  refine c_defd hB ["text", "errorcode"] [("Raised", .ref 84)] (dv := []) [] (by k_is) (by k_is) (by k_is) rfl (fn_ok (.fn hB (by k_is) rfl .nil) rfl) rfl (by dsimp only [mkLoc, List.map, List.cons_append, List.nil_append]) (fun s rs hK hr => ?_) (fun P h hK hP => .nil) (fun f hn hg hp => ?_)
  · exact len2 hr fun _ _ => BindsTo.of_defaults rfl (hK _ _ (by k_is)) rfl rfl rfl
  walk_at "ww"
  refine ⟨rfl, fun a ha => ?_⟩
  refine c_raised4 (n := n) hB HG.here (fun d ex hd hex hda hea hed => ⟨rfl, ?_⟩)
  rw [AH.put_twice]
  exact q a d ex ha ((if_neg hda).symm.trans hd) ((if_neg hea).symm.trans hex) hda hea hed
end
noncomputable def Ext (H H' : AH) : Prop := ∀ b c, H b = some c → H' b = some c
theorem Ext.refl {H : AH} : Ext H H := fun _ _ e => e
theorem Ext.put {H : AH} {a : Addr} {c : Option Cell} (h : H a = none) : Ext H (H.put a c) := fun _ _ e => HG.old h e
theorem Ext.trans {H H' H'' : AH} (x : Ext H H') (y : Ext H' H'') : Ext H H'' := fun b c e => y b c (x b c e)
noncomputable def excR (H : AH) (a d ex : Addr) (code : Int) (v ec : AV) (level : Int) : AH := (excH H a d ex code v ec level).put a (some (.exc 84 (some d) true))
noncomputable def RaisesE (H : AH) (X : Addr → AH → Prop) (code : Int) (v ec : AV) (level : Int) : Prop := ∀ H', Ext H H' → ∀ a d ex, H' a = none → H' d = none → H' ex = none → d ≠ a → ex ≠ a → ex ≠ d → X a (excR H' a d ex code v ec level)
theorem RaisesE.ext {H H' : AH} {X : Addr → AH → Prop} {code level : Int} {v ec : AV} (x : RaisesE H X code v ec level) (h : Ext H H') : RaisesE H' X code v ec level := fun H'' h' => x H'' (h.trans h')
theorem excH_at {H : AH} {a d ex : Addr} {code level : Int} {v ec : AV} (h1 : d ≠ a) (h2 : ex ≠ a) : excH H a d ex code v ec level a = some (.exc 84 (some d) false) := HG.ne h1.symm (HG.ne h2.symm HG.here)
noncomputable def cnt : Nat → List Nat → Nat
  | 0, _ => 0
  | _ + 1, [] => 0
  | k + 1, c :: r => if bl c = true then 0 else cnt k r + 1
noncomputable def junkOf (r : List Nat) : Str := tx (r.take (cnt 20 r))
noncomputable def junkWhy (what junk : Str) : Str := "list element in " ++ what ++ " followed by \"" ++ junk ++ "\" instead of space"
noncomputable def eJunk : AV := .tup [.str "TCL", .str "VALUE", .str "LIST", .str "JUNK"]
theorem cnt_drop {k e : Nat} {l : List Nat} {c : Nat} (h : l[e]? = some c) : cnt (k + 1) (l.drop e) = if bl c = true then 0 else cnt k (l.drop (e + 1)) + 1 := by
  have hlt : e < l.length := (List.getElem?_eq_some_iff.mp h).1
  have hc : l[e] = c := (List.getElem?_eq_some_iff.mp h).2
  rw [List.drop_eq_getElem_cons hlt, hc]; rfl
theorem WH.ind {B : BC} {f : Fc} {n : Nat} {hd : Option Value} {X : Addr → St → Prop} {test : Expr} {body : List Stmt} {N : St → Prop} {K : AFlow → St → Prop} {ι : Type} (st : ι → St) (I E : ι → Prop) (m : ι → Nat) (i : ι) (hi : I i) (fin : ∀ i, I i → E i → N (st i))
    (step : ∀ i, I i → (E i → N (st i)) → (∀ j, I j → m j < m i → WH B f n hd test body N K X (st j)) → WH B f n hd test body N K X (st i)) : WH B f n hd test body N K X (st i) := by
  have key : ∀ k i, m i < k → I i → WH B f n hd test body N K X (st i) := by
    intro k
    induction k with
    | zero => intro i h; exact absurd h (Nat.not_lt_zero _)
    | succ k ih => intro i h hi; exact step i hi (fin i hi) fun j hj hlt => ih j (by omega) hj
  exact key _ i (Nat.lt_succ_self _) hi
theorem sub_one {a e : Nat} (h : e < a) : a - e = (a - (e + 1)) + 1 := by rw [Nat.sub_succ]; exact (Nat.succ_pred_eq_of_pos (Nat.sub_pos_of_lt h)).symm
theorem junk_shrt (l : List Nat) (p : Nat) : Shrt 1 (junkOf (l.drop p)) := by
  have h : ∀ k (r : List Nat), cnt k r ≤ k := fun k => by
    induction k with
    | zero => exact fun _ => Nat.le_refl _
    | succ k ih => intro r; cases r with
      | nil => exact Nat.zero_le _
      | cons c r => refine (?_ : (if bl c = true then 0 else cnt k r + 1) ≤ k + 1); split; exact Nat.zero_le _; exact Nat.succ_le_succ (ih r)
  unfold Shrt junkOf; rw [tx_len, List.length_take]
  exact Nat.le_trans (Nat.min_le_left _ _) (Nat.le_trans (h 20 _) (by decide))
inductive JunkI (l : List Nat) (p e : Nat) : Prop
  | mk : p ≤ e → e ≤ l.length → e ≤ p + 20 → e + cnt (p + 20 - e) (l.drop e) = p + cnt 20 (l.drop p) → JunkI l p e
section
variable {l : List Nat} {p e : Nat}
theorem JunkI.end1 (h : JunkI l p e) (hb : l.length ≤ e) : e = p + cnt 20 (l.drop p) := by
  obtain ⟨_, _, _, h⟩ := h
  rw [List.drop_eq_nil_of_le hb] at h
  rw [← h]; cases (p + 20 - e) <;> rfl
theorem JunkI.end2 (h : JunkI l p e) (hb : p + 20 ≤ e) : e = p + cnt 20 (l.drop p) := by
  obtain ⟨_, _, _, h⟩ := h
  rw [Nat.sub_eq_zero_of_le hb] at h
  exact h
theorem JunkI.step (h : JunkI l p e) (h2 : e < l.length) (h3 : e < p + 20) : e + (if bl l[e] = true then 0 else cnt (p + 20 - (e + 1)) (l.drop (e + 1)) + 1) = p + cnt 20 (l.drop p) := by
  obtain ⟨_, _, _, h⟩ := h
  rwa [sub_one h3, cnt_drop (List.getElem?_eq_getElem h2)] at h
theorem JunkI.blank (h : JunkI l p e) (h2 : e < l.length) (h3 : e < p + 20) (hb : bl l[e] = true) : e = p + cnt 20 (l.drop p) := by
  have h := h.step h2 h3; rwa [if_pos hb] at h
theorem JunkI.next (h : JunkI l p e) (h2 : e < l.length) (h3 : e < p + 20) (hb : bl l[e] = false) : JunkI l p (e + 1) := by
  have h' := h.step h2 h3
  rw [if_neg (by rw [hb]; decide)] at h'
  obtain ⟨h, _, _, _⟩ := h
  exact ⟨Nat.le_succ_of_le h, h2, h3, (Nat.add_right_comm e 1 _).trans h'⟩
end
theorem WH.ind3 {B : BC} {f : Fc} {n : Nat} {hd : Option Value} {X : Addr → St → Prop} {test : Expr} {body : List Stmt} {N : St → Prop} {K : AFlow → St → Prop} {α β γ : Type} (st : α → β → γ → St) (I E : α → β → γ → Prop) (m : α → β → γ → Nat) (a : α) (b : β) (c : γ) (hi : I a b c) (fin : ∀ a b c, I a b c → E a b c → N (st a b c))
    (step : ∀ a b c, I a b c → (E a b c → N (st a b c)) → (∀ a' b' c', I a' b' c' → m a' b' c' < m a b c → WH B f n hd test body N K X (st a' b' c')) → WH B f n hd test body N K X (st a b c)) : WH B f n hd test body N K X (st a b c) :=
  WH.ind (ι := α × β × γ) (fun i => st i.1 i.2.1 i.2.2) (fun i => I i.1 i.2.1 i.2.2) (fun i => E i.1 i.2.1 i.2.2) (fun i => m i.1 i.2.1 i.2.2) (a, b, c) hi (fun i => fin _ _ _) fun i h1 h2 h3 => step _ _ _ h1 h2 fun a b c => h3 (a, b, c)
section
variable {B : BC} {n : Nat} (hB : KB B) {H : AH} {Q : AV → AH → Prop} {X : Addr → AH → Prop} {l : List Nat}
include hB
theorem c_check_ok {p : Nat} {what : AV} (hl : l.length ≤ 1000) (h : ∀ c, l[p]? = some c → bl c = true) (q : Q .none H) : CallP B (n + 4) (.ref 258) [.str (tx l), .int (p : Nat), what] H Q X := by
  refine c_def hB ["text", "at", "what", "end"] [("len", .blt "len"), ("is_blank", .ref 181), ("error", .ref 139)] (by k_is) (by k_is) (by k_is) rfl (fn_ok (.blt hB (by k_is) rfl rfl (.fn hB (by k_is) rfl (.fn hB (by k_is) rfl .nil))) rfl) rfl (by dsimp only [mkLoc, List.map]) (fun rs hr => ?_) (fun f hn hg hp => ?_)
  · exact len3 hr fun _ _ _ => rfl
  walk_at "ww"
  refine len_tx hl ?_
  walk_at "ww"
  conv => whnf
  refine br_le (fun hb => ?_) (fun hlt => ?_)
  · walk_at "ww"
    exact q
  · walk_at "ww"
    refine item_tx (c := l[p]) hl (List.getElem?_eq_getElem hlt) ?_
    walk_at "ww"
    refine CW.of (c_is_blank (n := n) hB ?_) (by first | exact la rfl | exact Nat.le_add_right _ _ | omega)
    rw [h l[p] (List.getElem?_eq_getElem hlt)]
    walk_at "ww"
    exact q
theorem c_check_junk {p : Nat} {what : Str} {c0 : Nat} (hl : l.length ≤ 1000) (hw : what.length ≤ 1000) (hc0 : l[p]? = some c0) (hb0 : bl c0 = false) (q : RaisesE H X 1 (.str (junkWhy what (junkOf (l.drop p)))) eJunk 0) :
    CallP B (n + 4) (.ref 258) [.str (tx l), .int (p : Nat), .str what] H Q X := by
  refine c_def hB ["text", "at", "what", "end"] [("len", .blt "len"), ("is_blank", .ref 181), ("error", .ref 139)] (by k_is) (by k_is) (by k_is) rfl (fn_ok (.blt hB (by k_is) rfl rfl (.fn hB (by k_is) rfl (.fn hB (by k_is) rfl .nil))) rfl) rfl (by dsimp only [mkLoc, List.map]) (fun rs hr => ?_) (fun f hn hg hp => ?_)
  · exact len3 hr fun _ _ _ => rfl
  have hlt : p < l.length := (List.getElem?_eq_some_iff.mp hc0).1
  walk_at "ww"
  refine len_tx hl ?_
  walk_at "ww"
  conv => whnf
  refine br_le (fun hb => absurd hlt (Nat.not_lt.mpr hb)) (fun _ => ?_)
  walk_at "ww"
  refine item_tx (c := c0) hl hc0 ?_
  walk_at "ww"
  refine CW.of (c_is_blank (n := n) hB ?_) (by first | exact la rfl | exact Nat.le_add_right _ _ | omega)
  rw [hb0]
  walk_at "ww"
  refine ⟨?_⟩
  refine WH.ind (st := fun e : Nat => ⟨[some (.str (tx l)), some (.int (p : Nat)), some (.str what), some (.int (e : Nat))], H⟩)
    (JunkI l p) (fun e => e = p + cnt 20 (l.drop p)) (fun e => l.length - e) p ⟨Nat.le_refl _, Nat.le_of_lt hlt, Nat.le_add_right _ _, by rw [Nat.add_sub_cancel_left]⟩ (fun e he hE => ?_) (fun e he fin ih => ?_)
  · unfold junkWhy at q
    have hw' : Shrt 1 what := Nat.le_trans hw (by decide)
    have hjk : Shrt 1 (junkOf (l.drop p)) := junk_shrt l p
    walk_at "ww"
    refine ⟨sz_of (by repeat' first | with_reducible assumption | with_reducible exact Shrt.lit (by decide +kernel) | with_reducible apply Shrt.app) (by repeat' first | with_reducible assumption | with_reducible exact Shrt.lit (by decide +kernel) | with_reducible apply Shrt.app) (by omega), ?_⟩
    walk_at "ww"
    refine ⟨sz_of (by repeat' first | with_reducible assumption | with_reducible exact Shrt.lit (by decide +kernel) | with_reducible apply Shrt.app) (by repeat' first | with_reducible assumption | with_reducible exact Shrt.lit (by decide +kernel) | with_reducible apply Shrt.app) (by omega), ?_⟩
    walk_at "ww"
    refine sl_tx (hE ▸ Nat.le_add_right _ _) (Nat.le_of_lt hlt) hl ?_
    rw [show tx ((l.drop p).take (e - p)) = junkOf (l.drop p) by rw [hE, Nat.add_sub_cancel_left]; rfl]
    walk_at "ww"
    refine ⟨sz_of (by repeat' first | with_reducible assumption | with_reducible exact Shrt.lit (by decide +kernel) | with_reducible apply Shrt.app) (by repeat' first | with_reducible assumption | with_reducible exact Shrt.lit (by decide +kernel) | with_reducible apply Shrt.app) (by omega), ?_⟩
    walk_at "ww"
    refine ⟨sz_of (by repeat' first | with_reducible assumption | with_reducible exact Shrt.lit (by decide +kernel) | with_reducible apply Shrt.app) (by repeat' first | with_reducible assumption | with_reducible exact Shrt.lit (by decide +kernel) | with_reducible apply Shrt.app) (by omega), ?_⟩
    walk_at "ww"
    refine CW.of (c_error (n := n) hB (fun a d ex ha hd hex hda hea hed => ?_)) (by first | exact la rfl | exact Nat.le_add_right _ _ | omega)
    walk_at "ww"
    exact RaP.mk (excH_at hda hea) (xc84 hB) (.inl rfl) (q H .refl a d ex ha hd hex hda hea hed)
  refine wh_step hn hg 60 ?_
  walk_at "ww"
  refine len_tx hl ?_
  walk_at "ww"
  conv => whnf
  refine br_lt (fun hlt2 => ?_) (fun hb => fin (he.end1 hb))
  · walk_at "ww"
    conv => whnf
    refine br_lt (b := p + 20) (fun hlt3 => ?_) (fun hb => fin (he.end2 hb))
    · walk_at "ww"
      refine item_tx (c := l[e]) hl (List.getElem?_eq_getElem hlt2) ?_
      walk_at "ww"
      refine CW.of (c_is_blank (n := n) hB ?_) (by first | exact la rfl | exact Nat.le_add_right _ _ | omega)
      cases hbl : bl l[e] with
      | true => exact fin (he.blank hlt2 hlt3 hbl)
      | false =>
        walk_at "ww"
        exact ih (e + 1) (he.next hlt2 hlt3 hbl) (Nat.sub_lt_sub_left hlt2 (Nat.lt_succ_self e))
end
noncomputable def esc (d : Nat) : Option Nat := if d = 110 then some 10 else if d = 32 ∨ d = 36 ∨ d = 59 ∨ d = 123 ∨ d = 125 then some d else none
set_option tactic.hygienic true in
theorem esc_cases {d e : Nat} (h : esc d = some e) : (d = 110 ∧ e = 10) ∨ ((d = 32 ∨ d = 36 ∨ d = 59 ∨ d = 123 ∨ d = 125) ∧ e = d) := by
  unfold esc at h
  split at h
  · rename_i q; cases h; exact .inl ⟨q, rfl⟩
  · split at h
    · rename_i q; cases h; exact .inr ⟨q, rfl⟩
    · cases h
section
variable {B : BC} {n : Nat} (hB : KB B) {H : AH} {Q : AV → AH → Prop} {X : Addr → AH → Prop} {l : List Nat}
include hB
theorem c_backslash {p d e : Nat} (hl : l.length ≤ 1000) (hd' : l[p + 1]? = some d) (he : esc d = some e) (q : Q (.tup [.str (sgn e), .int ((p + 2 : Nat) : Int)]) H) : CallP B (n + 1) (.ref 251) [.str (tx l), .int (p : Nat)] H Q X := by
  refine c_def hB ["text", "at", "sign", "known", "behind"] [] (by k_is) (by k_is) (by k_is) rfl (fn_ok .nil rfl) rfl (by dsimp only [mkLoc, List.map]) (fun rs hr => ?_) (fun f hn hg hp => ?_)
  · exact len2 hr fun _ _ => rfl
  have hlt : p + 1 < l.length := (List.getElem?_eq_some_iff.mp hd').1
  have hsl : (l.drop (p + 1)).take (p + 2 - (p + 1)) = [d] := by
    have hc : l[p + 1] = d := (List.getElem?_eq_some_iff.mp hd').2
    rw [List.drop_eq_getElem_cons hlt, hc, show p + 2 - (p + 1) = 1 from Nat.add_sub_cancel_left (n := p + 1) (m := 1)]; rfl
  walk_at "ww"
  refine sl_tx (a := p + 1) (b := p + 2) (Nat.le_succ _) (Nat.le_of_lt hlt) hl ?_
  rw [hsl]
  rcases esc_cases he with ⟨rfl, rfl⟩ | ⟨h, rfl⟩
  · walk_at "ww"
    refine FiP.mk 3 (by decide +kernel) ?_
    walk_at "ww"
    refine item_tx (l := [7, 8, 12, 10, 13, 9, 11]) (i := 3) (c := 10) (Nat.le_of_ble_eq_true rfl) rfl ?_
    walk_at "ww"
    exact q
  · walk_at "ww"
    refine FiP.mk (-1) (by rcases h with rfl | rfl | rfl | rfl | rfl <;> decide +kernel) ?_
    walk_at "ww"
    rcases h with rfl | rfl | rfl | rfl | rfl
    all_goals
      walk_at "ww"
      exact q
end
noncomputable def bOk (l : List Nat) (p : Nat) : Bool := match l[p]? with
  | none => true
  | some c => bl c
noncomputable def brc : Nat → List Nat → Option (Option Nat)
  | _, [] => some none
  | d, c :: r => if c = 92 then none else if c = 123 then (brc (d + 1) r).map (·.map (· + 1)) else if c = 125 then (if d ≤ 1 then some (some 0) else (brc (d - 1) r).map (·.map (· + 1))) else (brc d r).map (·.map (· + 1))
noncomputable def eBrace : AV := .tup [.str "TCL", .str "VALUE", .str "LIST", .str "BRACE"]
noncomputable def eQuote : AV := .tup [.str "TCL", .str "VALUE", .str "LIST", .str "QUOTE"]
theorem s_bs : ("\\" : Str) = tx [92] := by decide +kernel
theorem s_lb : ("{" : Str) = tx [123] := by decide +kernel
theorem s_rb : ("}" : Str) = tx [125] := by decide +kernel
theorem s_dq : ("\"" : Str) = tx [34] := by decide +kernel
theorem br_sub {d : Nat} {T E : Prop} (h1 : 1 ≤ d) (t : d = 1 → T) (e : ¬ d ≤ 1 → ((d - 1 : Nat) : Int) = (d : Int) - 1 → E) : br ((d : Int) - 1 == 0) T E := by
  refine br_of (fun h => t ?_) fun h => e (fun q => ?_) (Int.ofNat_sub h1)
  · have := eq_of_beq h; omega
  · rw [show d = 1 from Nat.le_antisymm q h1] at h; cases h
inductive BrI (l : List Nat) (p : Nat) (r : Option Nat) (e d : Nat) (c : Option AV) : Prop
  | mk (r' : Option Nat) : p ≤ e → e ≤ l.length + 1 → 1 ≤ d → brc d (l.drop e) = some r' → r.map (· + p) = r'.map (· + e) → BrI l p r e d c
section
variable {l : List Nat} {p e d : Nat} {r : Option Nat} {c : Option AV}
theorem BrI.end1 (h : BrI l p r e d c) (hE : l.length ≤ e) : r = none := by
  cases h with | mk _ _ _ _ h h' =>
  rw [List.drop_eq_nil_of_le hE] at h
  cases (h : some none = some r')
  cases r with
  | none => rfl
  | some => cases h'
theorem brc_e {c d : Nat} {r : List Nat} : brc d (c :: r) = if c = 92 then none else if c = 123 then (brc (d + 1) r).map (·.map (· + 1)) else if c = 125 then (if d ≤ 1 then some (some 0) else (brc (d - 1) r).map (·.map (· + 1))) else (brc d r).map (·.map (· + 1)) := rfl
theorem brc_c {c d : Nat} {r : List Nat} {x : Option Nat} (h : brc d (c :: r) = some x) : c ≠ 92 ∧ (c = 123 → (brc (d + 1) r).map (·.map (· + 1)) = some x) ∧ (c = 125 → (d = 1 → x = some 0) ∧ (¬ d ≤ 1 → (brc (d - 1) r).map (·.map (· + 1)) = some x)) ∧ (c ≠ 123 → c ≠ 125 → (brc d r).map (·.map (· + 1)) = some x) := by
  rw [brc_e] at h
  by_cases h1 : c = 92
  · rw [if_pos h1] at h; cases h
  rw [if_neg h1] at h
  refine ⟨h1, fun q => by rwa [if_pos q] at h, fun q => ?_, fun q q' => by rwa [if_neg q, if_neg q'] at h⟩
  rw [if_neg (by rw [q]; decide), if_pos q] at h
  exact ⟨fun z => by rw [if_pos (Nat.le_of_eq z)] at h; exact (Option.some.inj h).symm, fun z => by rwa [if_neg z] at h⟩
theorem BrI.go {d' : Nat} {x r' : Option Nat} {c' : Option AV} (h1 : p ≤ e) (hlt : e < l.length) (hd : 1 ≤ d') (h : (brc d' (l.drop (e + 1))).map (·.map (· + 1)) = some r') (h' : r.map (· + p) = r'.map (· + e)) : BrI l p r (e + 1) d' c' := by
  obtain ⟨x, hx, e'⟩ := Option.map_eq_some_iff.mp h
  refine ⟨x, Nat.le_succ_of_le h1, Nat.succ_le_succ (Nat.le_of_lt hlt), hd, hx, h'.trans ?_⟩
  rw [← e']
  cases x with
  | none => rfl
  | some x => exact congrArg some (Nat.add_right_comm x 1 e)
structure BrA (l : List Nat) (p : Nat) (r : Option Nat) (e d x : Nat) : Prop where
  pe : p ≤ e
  d1 : 1 ≤ d
  bs : x ≠ 92
  op : ∀ c', x = 123 → BrI l p r (e + 1) (d + 1) c'
  c1 : x = 125 → d = 1 → ∃ k, r = some k ∧ k + p = e
  cl : x = 125 → ¬ d ≤ 1 → ∀ c', BrI l p r (e + 1) (d - 1) c'
  ot : x ≠ 123 → x ≠ 125 → ∀ c', BrI l p r (e + 1) d c'
theorem BrI.at (h : BrI l p r e d c) (hlt : e < l.length) : BrA l p r e d l[e] := by
  cases h with | mk _ h1 _ h3 h h' =>
  rw [List.drop_eq_getElem_cons hlt] at h
  obtain ⟨a1, a2, a3, a4⟩ := brc_c h
  refine ⟨h1, h3, a1, fun c' q => .go (x := none) h1 hlt (Nat.le_add_left _ _) (a2 q) h', fun q z => ?_, fun q z c' => .go (x := none) h1 hlt (Nat.le_pred_of_lt (Nat.not_le.mp z)) ((a3 q).2 z) h', fun q q' c' => .go (x := none) h1 hlt h3 (a4 q q') h'⟩
  rw [(a3 q).1 z] at h'
  cases r with
  | none => cases h'
  | some k => exact ⟨k, rfl, (Option.some.inj h').trans (Nat.zero_add e)⟩
end
section
variable {B : BC} {n : Nat} (hB : KB B) {H : AH} {Q : AV → AH → Prop} {X : Addr → AH → Prop} {l : List Nat}
include hB
theorem c_check {p : Nat} {what : Str} (hl : l.length ≤ 1000) (hw : what.length ≤ 1000) (q : bOk l p = true → Q .none H) (x : bOk l p = false → RaisesE H X 1 (.str (junkWhy what (junkOf (l.drop p)))) eJunk 0) :
    CallP B (n + 4) (.ref 258) [.str (tx l), .int (p : Nat), .str what] H Q X := by
  cases h : bOk l p with
  | true => exact c_check_ok hB hl (fun c hc => by rw [bOk, hc] at h; exact h) (q h)
  | false =>
    have x := x h
    cases hc : l[p]? with
    | none => rw [bOk, hc] at h; cases h
    | some c => exact c_check_junk hB hl hw hc (by rw [bOk, hc] at h; exact h) x
theorem c_braced {p : Nat} {r : Option Nat} (hl : l.length ≤ 1000) (hp' : p ≤ l.length) (hb : brc 1 (l.drop p) = some r)
    (qn : r = none → RaisesE H X 1 (.str "unmatched open brace in list") eBrace 0)
    (qs : ∀ k, r = some k → bOk l (p + k + 1) = true → Q (.tup [.str (tx ((l.drop p).take k)), .int ((p + k + 1 : Nat) : Int)]) H)
    (qx : ∀ k, r = some k → bOk l (p + k + 1) = false → RaisesE H X 1 (.str (junkWhy "braces" (junkOf (l.drop (p + k + 1))))) eJunk 0) :
    CallP B (n + 5) (.ref 265) [.str (tx l), .int (p : Nat)] H Q X := by
  refine c_def hB ["text", "first", "depth", "at", "c"] [("len", .blt "len"), ("check_behind", .ref 258), ("error", .ref 139)] (by k_is) (by k_is) (by k_is) rfl (fn_ok (.blt hB (by k_is) rfl rfl (.fn hB (by k_is) rfl (.fn hB (by k_is) rfl .nil))) rfl) rfl (by dsimp only [mkLoc, List.map]) (fun rs hr => ?_) (fun f hn hg hp => ?_)
  · exact len2 hr fun _ _ => rfl
  walk_at "ww"
  refine ⟨?_⟩
  refine WH.ind3 (fun e d c => ⟨[some (.str (tx l)), some (.int (p : Nat)), some (.int (d : Nat)), some (.int (e : Nat)), c], H⟩)
    (BrI l p r) (fun e _ _ => l.length ≤ e) (fun e _ _ => l.length - e) p 1 none (.mk r (Nat.le_refl _) (Nat.le_succ_of_le hp') (Nat.le_refl _) hb rfl) (fun e d c hi hE => ?_) (fun e d c hi fin ih => ?_)
  · walk_at "ww"
    refine CW.of (c_error (n := n) hB (fun a d ex ha hd hex hda hea hed => ?_)) (by first | exact la rfl | exact Nat.le_add_right _ _ | omega)
    walk_at "ww"
    exact RaP.mk (excH_at hda hea) (xc84 hB) (.inl rfl) (qn (hi.end1 hE) H .refl a d ex ha hd hex hda hea hed)
  · refine wh_step hn hg 60 ?_
    walk_at "ww"
    refine len_tx hl ?_
    walk_at "ww"
    conv => whnf
    refine br_lt (fun hlt => ?_) fin
    walk_at "ww"
    refine item_tx (c := l[e]) hl (List.getElem?_eq_getElem hlt) ?_
    walk_at "ww"
    have A := hi.at hlt
    have lt := Nat.sub_lt_sub_left hlt (Nat.lt_succ_self e)
    conv => whnf
    refine br_sg s_bs (fun q => absurd q A.bs) (fun _ => ?_)
    walk_at "ww"
    conv => whnf
    refine br_sg s_lb (fun q => ?_) (fun q => ?_)
    · walk_at "ww"
      exact ih (e + 1) (d + 1) _ (A.op _ q) lt
    walk_at "ww"
    conv => whnf
    refine br_sg s_rb (fun q' => ?_) (fun q' => ?_)
    · walk_at "ww"
      conv => whnf
      refine br_sub A.d1 (fun z => ?_) (fun z z' => ?_)
      · obtain ⟨k, hr, rfl⟩ := A.c1 q' z
        have hk : p + k + 1 = k + p + 1 := by rw [Nat.add_comm p k]
        walk_at "ww"
        refine CW.of (c_check (p := k + p + 1) (n := n) hB hl (by decide +kernel) (fun ho => ?_) (fun ho => ?_)) (by first | exact la rfl | exact Nat.le_add_right _ _ | omega)
        · walk_at "ww"
          refine sl_tx A.pe (Nat.le_trans A.pe (Nat.le_of_lt hlt)) hl ?_
          walk_at "ww"
          have := qs _ hr (by rw [hk]; exact ho)
          rw [hk, show (l.drop p).take k = (l.drop p).take (k + p - p) by rw [Nat.add_sub_cancel]] at this
          exact this
        · have := qx _ hr (by rw [hk]; exact ho)
          rw [hk] at this
          exact this
      · walk_at "ww"
        conv => whnf
        rw [← z']
        exact ih (e + 1) (d - 1) _ (A.cl q' z _) lt
    · walk_at "ww"
      exact ih (e + 1) d _ (A.ot q q' _) lt
end
noncomputable def bare : List Nat → Option (List Nat × Nat)
  | [] => some ([], 0)
  | [c] => if bl c = true then some ([], 0) else if c = 92 then none else some ([c], 1)
  | c :: d :: r => if bl c = true then some ([], 0) else if c = 92 then (match esc d with | some e => (bare r).map (fun x => (e :: x.1, x.2 + 2)) | none => none) else (bare (d :: r)).map (fun x => (c :: x.1, x.2 + 1))
theorem bare_cons {c : Nat} {r : List Nat} (hb : bl c = false) (hc : c ≠ 92) : bare (c :: r) = (bare r).map (fun x => (c :: x.1, x.2 + 1)) := by
  cases r with
  | nil => exact (if_neg (by rw [hb]; exact Bool.false_ne_true)).trans (if_neg hc)
  | cons d r => exact (if_neg (by rw [hb]; exact Bool.false_ne_true)).trans (if_neg hc)
theorem bare_bl {c : Nat} {r : List Nat} (hb : bl c = true) : bare (c :: r) = some ([], 0) := by
  cases r with
  | nil => exact if_pos hb
  | cons d r => exact if_pos hb
theorem bl92 : bl 92 = false := by decide
theorem bare_bs {r : List Nat} {y : List Nat × Nat} (h : bare (92 :: r) = some y) : ∃ d e r' z, r = d :: r' ∧ esc d = some e ∧ bare r' = some z ∧ y = (e :: z.1, z.2 + 2) := by
  cases r with
  | nil => cases (show bare [92] = none from (if_neg (by decide)).trans (if_pos rfl)).symm.trans h
  | cons d r =>
    have h := (show bare (92 :: d :: r) = match esc d with | some e => (bare r).map (fun x => (e :: x.1, x.2 + 2)) | none => none from (if_neg (by decide)).trans (if_pos rfl)).symm.trans h
    cases he : esc d with
    | none => rw [he] at h; cases h
    | some e =>
      rw [he] at h
      obtain ⟨z, hz, e'⟩ := Option.map_eq_some_iff.mp h
      exact ⟨d, e, r, z, rfl, he, hz, e'.symm⟩
noncomputable def chs (xs : List Nat) : List AV := xs.map fun c => AV.str (sgn c)
theorem chs_map (xs : List Nat) : chs xs = (xs.map sgn).map AV.str := by simp [chs]
theorem chs_snoc (xs : List Nat) (c : Nat) : chs xs ++ [.str (sgn c)] = chs (xs ++ [c]) := by simp [chs]
theorem join_sgn (xs : List Nat) : Txt.join "" (xs.map sgn) = tx xs := by
  have e0 : ("" : Str) = tx [] := by decide +kernel
  show Builtin.Str.glued "" (xs.map sgn) = tx xs
  rw [StrLaws.glued_eq_join, e0]
  induction xs with
  | nil => rfl
  | cons c r ih =>
    cases r with
    | nil => rfl
    | cons d r =>
      show (sgn c ++ tx []) ++ PySem.Str.join (tx []) ((d :: r).map sgn) = _
      rw [ih]
      show (⟨(#[c] ++ ([] : List Nat).toArray) ++ (d :: r).toArray⟩ : Str) = ⟨(c :: d :: r).toArray⟩
      simp
theorem sum_sgn (xs : List Nat) : ((xs.map sgn).map (·.length)).sum = xs.length := by
  induction xs with
  | nil => rfl
  | cons c r ih => rw [List.map_cons, List.map_cons, List.sum_cons, ih]; show 1 + r.length = r.length + 1; omega
theorem drop_cons2 {l : List Nat} {e d : Nat} {r : List Nat} (h : l.drop e = d :: r) : l[e]? = some d ∧ r = l.drop (e + 1) := by
  constructor
  · rw [← List.head?_drop, h]; rfl
  · rw [← List.drop_drop, h]; rfl
theorem jsz {xs : List Nat} (h : xs.length ≤ 1000) : ((xs.map sgn).map (·.length)).sum + (xs.map sgn).length * (Str.ofString "").length ≤ 16777216 := by
  rw [sum_sgn, show (Str.ofString "").length = 0 by decide +kernel]; omega
theorem jo_chs {X₀ : Str} {oc : Addr} {xs : List Nat} {loc : List (Option AV)} {H : AH} {Q : AV → St → Prop} (h : xs.length ≤ 1000) (q : Q (.str (tx xs)) ⟨loc, H.put oc (some (.list (chs xs)))⟩) : JoP "" [.ref oc] ⟨loc, H.put oc (some (.list (chs xs)))⟩ Q :=
  JoP.cell (ys := xs.map sgn) (by rw [← chs_map]; exact HG.here) (jsz h) (by rw [join_sgn]; exact q)
theorem ap_chs {oc : Addr} {xs : List Nat} {c : Nat} {loc : List (Option AV)} {H : AH} {Q : AV → St → Prop} (h : xs.length ≤ 1000) (q : Q .none ⟨loc, H.put oc (some (.list (chs (xs ++ [c]))))⟩) : ApP oc [.str (sgn c)] ⟨loc, H.put oc (some (.list (chs xs)))⟩ Q :=
  ApP.mk HG.here (by rw [chs, List.length_map]; exact le_line1 h) (by rw [AH.put_twice, chs_snoc]; exact q)
inductive BaI (l : List Nat) (p : Nat) (o : List Nat) (k e : Nat) (xs : List Nat) (c : Option AV) : Prop
  | mk (o' : List Nat) (k' : Nat) : e ≤ l.length → xs.length ≤ e → bare (l.drop e) = some (o', k') → o = xs ++ o' → p + k = e + k' → BaI l p o k e xs c
section
variable {l : List Nat} {p e k : Nat} {o xs : List Nat} {c : Option AV}
theorem BaI.fin (h : BaI l p o k e xs c) (hE : bare (l.drop e) = some ([], 0)) : xs = o ∧ p + k = e := by
  obtain ⟨o', k', _, _, h, h1, h2⟩ := h
  rw [hE] at h
  cases h
  exact ⟨(List.append_nil _).symm.trans h1.symm, h2⟩
theorem BaI.len (h : BaI l p o k e xs c) (hl : l.length ≤ 1000) : xs.length ≤ 1000 := by
  obtain ⟨_, _, h1, h2, _⟩ := h
  exact Nat.le_trans h2 (Nat.le_trans h1 hl)
theorem BaI.blank (hlt : e < l.length) (hb : bl l[e] = true) : bare (l.drop e) = some ([], 0) := by
  rw [List.drop_eq_getElem_cons hlt]; exact bare_bl hb
theorem BaI.past (h : l.length ≤ e) : bare (l.drop e) = some ([], 0) := by rw [List.drop_eq_nil_of_le h]; rfl
theorem BaI.bs (h : BaI l p o k e xs c) (hlt : e < l.length) (h92 : l[e] = 92) : ∃ d es, l[e + 1]? = some d ∧ esc d = some es ∧ e + 1 < l.length ∧ ∀ c', BaI l p o k (e + 2) (xs ++ [es]) c' := by
  obtain ⟨o', k', h1, h2, h, h3, h4⟩ := h
  rw [List.drop_eq_getElem_cons hlt, h92] at h
  obtain ⟨d, es, r', z, g1, g2, g3, g4⟩ := bare_bs h
  obtain ⟨g5, g6⟩ := drop_cons2 g1
  have hlt2 := (List.getElem?_eq_some_iff.mp g5).1
  cases g4
  refine ⟨d, es, g5, g2, hlt2, fun c' => ⟨z.1, z.2, hlt2, ?_, by rw [g6] at g3; exact g3, by rw [h3, List.append_assoc]; rfl, h4.trans (Nat.add_right_comm e z.2 2)⟩⟩
  rw [List.length_append]; exact Nat.le_succ_of_le (Nat.succ_le_succ h2)
theorem BaI.next (h : BaI l p o k e xs c) (hlt : e < l.length) (hb : bl l[e] = false) (h92 : l[e] ≠ 92) (c' : Option AV) : BaI l p o k (e + 1) (xs ++ [l[e]]) c' := by
  obtain ⟨o', k', h1, h2, h, h3, h4⟩ := h
  rw [List.drop_eq_getElem_cons hlt, bare_cons hb h92] at h
  obtain ⟨z, g3, g4⟩ := Option.map_eq_some_iff.mp h
  cases g4
  refine ⟨z.1, z.2, hlt, ?_, g3, by rw [h3, List.append_assoc]; rfl, h4.trans (Nat.add_right_comm e z.2 1)⟩
  rw [List.length_append]; exact Nat.succ_le_succ h2
end
section
variable {B : BC} {n : Nat} (hB : KB B) {H : AH} {Q : AV → AH → Prop} {X : Addr → AH → Prop} {l : List Nat}
include hB
theorem c_bare {p : Nat} {o : List Nat} {k : Nat} (hl : l.length ≤ 1000) (hp' : p ≤ l.length) (hb : bare (l.drop p) = some (o, k)) (q : Q (.tup [.str (tx o), .int ((p + k : Nat) : Int)]) H) :
    CallP B (n + 2) (.ref 279) [.str (tx l), .int (p : Nat)] H Q X := by
  refine c_defm [false, true] hB ["text", "at", "out", "c"] [("len", .blt "len"), ("is_blank", .ref 181), ("backslash", .ref 251)] (by k_is) (by k_is) (by k_is) rfl (fn_ok (.blt hB (by k_is) rfl rfl (.fn hB (by k_is) rfl (.fn hB (by k_is) rfl .nil))) rfl) rfl (by dsimp only [mkLoc, List.map]) (fun rs hr => ?_) (fun f hn hg hp => ?_)
  · exact len2 hr fun _ _ => rfl
  walk_at "ww"
  refine LsP.cel (fun oc hoc => ?_)
  walk_at "ww"
  refine ⟨?_⟩
  refine WH.ind3 (fun e xs c => ⟨[some (.str (tx l)), some (.int (e : Nat)), some (.ref oc), c], H.put oc (some (.list (chs xs)))⟩)
    (BaI l p o k) (fun e _ _ => bare (l.drop e) = some ([], 0)) (fun e _ _ => l.length - e) p [] none ⟨o, k, hp', Nat.zero_le _, hb, rfl, rfl⟩ (fun e xs c hi hE => ?_) (fun e xs c hi fin ih => ?_)
  · obtain ⟨rfl, rfl⟩ := hi.fin hE
    walk_at "ww"
    refine jo_chs (X₀ := "") (hi.len hl) ?_
    conv => whnf
    refine NmP.drop (H' := H) (Ext.put hoc) (NmP.loc (by repeat constructor) ?_)
    walk_at "ww"
    exact q
  · refine wh_stepm [false, true] hn hg 60 ?_
    walk_at "ww"
    refine len_tx hl ?_
    walk_at "ww"
    conv => whnf
    refine br_lt (fun hlt => ?_) (fun hb => fin (BaI.past hb))
    walk_at "ww"
    refine item_tx (c := l[e]) hl (List.getElem?_eq_getElem hlt) ?_
    walk_at "ww"
    refine CW.of (c_is_blank (n := n) hB ?_) (by first | exact la rfl | exact Nat.le_add_right _ _ | omega)
    cases hbl : bl l[e] with
    | true => exact fin (BaI.blank hlt hbl)
    | false =>
      walk_at "ww"
      refine item_tx (c := l[e]) hl (List.getElem?_eq_getElem hlt) ?_
      walk_at "ww"
      conv => whnf
      refine br_sg s_bs (fun h92 => ?_) (fun h92 => ?_)
      · obtain ⟨d, es, g1, g2, hlt2, g3⟩ := hi.bs hlt h92
        walk_at "ww"
        refine CW.of (c_backslash (n := n) hB hl g1 g2 ?_) (by first | exact la rfl | exact Nat.le_add_right _ _ | omega)
        walk_at "ww"
        refine MeP.append HG.here ?_
        walk_at "ww"
        refine ap_chs (hi.len hl) ?_
        walk_at "ww"
        exact ih (e + 2) (xs ++ [es]) _ (g3 _) (Nat.sub_lt_sub_left hlt (Nat.lt_succ_of_lt (Nat.lt_succ_self e)))
      · walk_at "ww"
        refine MeP.append HG.here ?_
        walk_at "ww"
        refine ap_chs (hi.len hl) ?_
        walk_at "ww"
        exact ih (e + 1) (xs ++ [l[e]]) _ (hi.next hlt hbl h92 _) (Nat.sub_lt_sub_left hlt (Nat.lt_succ_self e))
end
noncomputable def quo : List Nat → Option (Option (List Nat × Nat))
  | [] => some none
  | [c] => if c = 92 then none else if c = 34 then some (some ([], 0)) else some none
  | c :: d :: r => if c = 92 then (match esc d with | some e => (quo r).map (·.map fun x => (e :: x.1, x.2 + 2)) | none => none) else if c = 34 then some (some ([], 0)) else (quo (d :: r)).map (·.map fun x => (c :: x.1, x.2 + 1))
theorem quo_cons {c : Nat} {r : List Nat} (hc : c ≠ 92) (hq : c ≠ 34) : quo (c :: r) = (quo r).map (·.map fun x => (c :: x.1, x.2 + 1)) := by
  cases r with
  | nil => exact (if_neg hc).trans (if_neg hq)
  | cons d r => exact (if_neg hc).trans (if_neg hq)
theorem quo_q {r : List Nat} : quo (34 :: r) = some (some ([], 0)) := by
  cases r with
  | nil => rfl
  | cons d r => rfl
theorem quo_bs {r : List Nat} {y : Option (List Nat × Nat)} (h : quo (92 :: r) = some y) : ∃ d e r' z, r = d :: r' ∧ esc d = some e ∧ quo r' = some z ∧ y = z.map fun x => (e :: x.1, x.2 + 2) := by
  cases r with
  | nil => cases (show quo [92] = none from rfl).symm.trans h
  | cons d r =>
    have h := (show quo (92 :: d :: r) = match esc d with | some e => (quo r).map (·.map fun x => (e :: x.1, x.2 + 2)) | none => none from if_pos rfl).symm.trans h
    cases he : esc d with
    | none => rw [he] at h; cases h
    | some e =>
      rw [he] at h
      obtain ⟨z, hz, e'⟩ := Option.map_eq_some_iff.mp h
      exact ⟨d, e, r, z, rfl, he, hz, e'.symm⟩
inductive QuI (l : List Nat) (p : Nat) (r : Option (List Nat × Nat)) (e : Nat) (xs : List Nat) (c : Option AV) : Prop
  | mk (r' : Option (List Nat × Nat)) : e ≤ l.length → xs.length ≤ e → quo (l.drop e) = some r' → (r.map fun x => (x.1, x.2 + p)) = (r'.map fun x => (xs ++ x.1, x.2 + e)) → QuI l p r e xs c
section
variable {l : List Nat} {p e : Nat} {r : Option (List Nat × Nat)} {xs : List Nat} {c : Option AV}
theorem QuI.end1 (h : QuI l p r e xs c) (hE : l.length ≤ e) : r = none := by
  obtain ⟨r', _, _, h, h'⟩ := h
  rw [List.drop_eq_nil_of_le hE] at h
  cases h
  cases r with
  | none => rfl
  | some => cases h'
theorem QuI.len (h : QuI l p r e xs c) (hl : l.length ≤ 1000) : xs.length ≤ 1000 := by
  obtain ⟨_, h1, h2, _⟩ := h
  exact Nat.le_trans h2 (Nat.le_trans h1 hl)
theorem QuI.on {z : Option (List Nat × Nat)} {y j : Nat} (h' : (r.map fun x => (x.1, x.2 + p)) = ((z.map fun x => (y :: x.1, x.2 + j)).map fun x => (xs ++ x.1, x.2 + e))) : (r.map fun x => (x.1, x.2 + p)) = (z.map fun x => ((xs ++ [y]) ++ x.1, x.2 + (e + j))) := by
  rw [h']
  cases z with
  | none => rfl
  | some z =>
    show some (xs ++ y :: z.1, z.2 + j + e) = some ((xs ++ [y]) ++ z.1, z.2 + (e + j))
    rw [List.append_assoc, Nat.add_assoc, Nat.add_comm j e]; rfl
theorem QuI.bs (h : QuI l p r e xs c) (hlt : e < l.length) (h92 : l[e] = 92) : ∃ d es, l[e + 1]? = some d ∧ esc d = some es ∧ ∀ c', QuI l p r (e + 2) (xs ++ [es]) c' := by
  obtain ⟨r', h1, h2, h, h'⟩ := h
  rw [List.drop_eq_getElem_cons hlt, h92] at h
  obtain ⟨d, es, r1, z, g1, g2, g3, g4⟩ := quo_bs h
  obtain ⟨g5, g6⟩ := drop_cons2 g1
  have hlt2 := (List.getElem?_eq_some_iff.mp g5).1
  subst g4
  refine ⟨d, es, g5, g2, fun c' => ⟨z, hlt2, ?_, by rw [g6] at g3; exact g3, QuI.on h'⟩⟩
  rw [List.length_append]; exact Nat.le_succ_of_le (Nat.succ_le_succ h2)
theorem QuI.q (h : QuI l p r e xs c) (hlt : e < l.length) (h34 : l[e] = 34) : ∃ k, r = some (xs, k) ∧ k + p = e := by
  obtain ⟨r', h1, h2, h, h'⟩ := h
  rw [List.drop_eq_getElem_cons hlt, h34, quo_q] at h
  cases h
  cases r with
  | none => cases h'
  | some x =>
    have h' : (x.1, x.2 + p) = (xs ++ [], 0 + e) := Option.some.inj h'
    rw [List.append_nil, Nat.zero_add] at h'
    injection h' with h1 h2
    exact ⟨x.2, by rw [← h1], h2⟩
theorem QuI.next (h : QuI l p r e xs c) (hlt : e < l.length) (h92 : l[e] ≠ 92) (h34 : l[e] ≠ 34) (c' : Option AV) : QuI l p r (e + 1) (xs ++ [l[e]]) c' := by
  obtain ⟨r', h1, h2, h, h'⟩ := h
  rw [List.drop_eq_getElem_cons hlt, quo_cons h92 h34] at h
  obtain ⟨z, g3, g4⟩ := Option.map_eq_some_iff.mp h
  subst g4
  refine ⟨z, hlt, ?_, g3, QuI.on h'⟩
  rw [List.length_append]; exact Nat.succ_le_succ h2
end
section
variable {B : BC} {n : Nat} (hB : KB B) {H : AH} {Q : AV → AH → Prop} {X : Addr → AH → Prop} {l : List Nat}
include hB
theorem c_quoted {p : Nat} {r : Option (List Nat × Nat)} (hl : l.length ≤ 1000) (hp' : p ≤ l.length) (hb : quo (l.drop p) = some r)
    (qn : r = none → RaisesE H X 1 (.str "unmatched open quote in list") eQuote 0)
    (qs : ∀ o k, r = some (o, k) → bOk l (p + k + 1) = true → Q (.tup [.str (tx o), .int ((p + k + 1 : Nat) : Int)]) H)
    (qx : ∀ o k, r = some (o, k) → bOk l (p + k + 1) = false → RaisesE H X 1 (.str (junkWhy "quotes" (junkOf (l.drop (p + k + 1))))) eJunk 0) :
    CallP B (n + 5) (.ref 272) [.str (tx l), .int (p : Nat)] H Q X := by
  refine c_defm [false, true] hB ["text", "at", "out", "c"] [("len", .blt "len"), ("backslash", .ref 251), ("check_behind", .ref 258), ("error", .ref 139)] (by k_is) (by k_is) (by k_is) rfl (fn_ok (.blt hB (by k_is) rfl rfl (.fn hB (by k_is) rfl (.fn hB (by k_is) rfl (.fn hB (by k_is) rfl .nil)))) rfl) rfl (by dsimp only [mkLoc, List.map]) (fun rs hr => ?_) (fun f hn hg hp => ?_)
  · exact len2 hr fun _ _ => rfl
  walk_at "ww"
  refine LsP.cel (fun oc hoc => ?_)
  walk_at "ww"
  refine ⟨?_⟩
  refine WH.ind3 (fun e xs c => ⟨[some (.str (tx l)), some (.int (e : Nat)), some (.ref oc), c], H.put oc (some (.list (chs xs)))⟩)
    (QuI l p r) (fun e _ _ => l.length ≤ e) (fun e _ _ => l.length - e) p [] none ⟨r, hp', Nat.zero_le _, hb, rfl⟩ (fun e xs c hi hE => ?_) (fun e xs c hi fin ih => ?_)
  · walk_at "ww"
    refine CW.of (c_error (n := n) hB (fun a d ex ha hd hex hda hea hed => ?_)) (by first | exact la rfl | exact Nat.le_add_right _ _ | omega)
    walk_at "ww"
    exact RaP.mk (excH_at hda hea) (xc84 hB) (.inl rfl) (qn (hi.end1 hE) _ (Ext.put hoc) a d ex ha hd hex hda hea hed)
  · refine wh_stepm [false, true] hn hg 60 ?_
    walk_at "ww"
    refine len_tx hl ?_
    walk_at "ww"
    conv => whnf
    refine br_lt (fun hlt => ?_) fin
    walk_at "ww"
    refine item_tx (c := l[e]) hl (List.getElem?_eq_getElem hlt) ?_
    walk_at "ww"
    conv => whnf
    refine br_sg s_bs (fun h92 => ?_) (fun h92 => ?_)
    · obtain ⟨d, es, g1, g2, g3⟩ := hi.bs hlt h92
      walk_at "ww"
      refine CW.of (c_backslash (n := n) hB hl g1 g2 ?_) (by first | exact la rfl | exact Nat.le_add_right _ _ | omega)
      walk_at "ww"
      refine MeP.append HG.here ?_
      walk_at "ww"
      refine ap_chs (hi.len hl) ?_
      walk_at "ww"
      exact ih (e + 2) (xs ++ [es]) _ (g3 _) (Nat.sub_lt_sub_left hlt (Nat.lt_succ_of_lt (Nat.lt_succ_self e)))
    · walk_at "ww"
      conv => whnf
      refine br_sg s_dq (fun h34 => ?_) (fun h34 => ?_)
      · obtain ⟨k, hr, rfl⟩ := hi.q hlt h34
        have hk : p + k + 1 = k + p + 1 := by rw [Nat.add_comm p k]
        have qs := qs _ _ hr
        have qx := qx _ _ hr
        rw [hk] at qs qx
        walk_at "ww"
        refine CW.of (c_check (p := k + p + 1) (n := n) hB hl (by decide +kernel) (fun ho => ?_) (fun ho => (qx ho).ext (Ext.put hoc))) (by first | exact la rfl | exact Nat.le_add_right _ _ | omega)
        walk_at "ww"
        refine jo_chs (X₀ := "") (hi.len hl) ?_
        conv => whnf
        refine NmP.drop (H' := H) (Ext.put hoc) (NmP.loc (by repeat constructor) ?_)
        walk_at "ww"
        exact qs ho
      · walk_at "ww"
        refine MeP.append HG.here ?_
        walk_at "ww"
        refine ap_chs (hi.len hl) ?_
        walk_at "ww"
        exact ih (e + 1) (xs ++ [l[e]]) _ (hi.next hlt h92 h34 _) (Nat.sub_lt_sub_left hlt (Nat.lt_succ_self e))
end
inductive FR where
  | none | ok (x : Str) (p : Nat) | bad (why : Str) (ec : AV)
noncomputable def chk (l : List Nat) (p : Nat) (what : Str) (r : FR) : FR := if bOk l p = true then r else .bad (junkWhy what (junkOf (l.drop p))) eJunk
noncomputable def feAt (l : List Nat) (p : Nat) : Option FR := match l.drop p with
  | [] => some .none
  | c :: r => if c = 123 then (match brc 1 r with
      | none => none
      | some none => some (.bad "unmatched open brace in list" eBrace)
      | some (some k) => some (chk l (p + 1 + k + 1) "braces" (.ok (tx (r.take k)) (p + 1 + k + 1))))
    else if c = 34 then (match quo r with
      | none => none
      | some none => some (.bad "unmatched open quote in list" eQuote)
      | some (some x) => some (chk l (p + 1 + x.2 + 1) "quotes" (.ok (tx x.1) (p + 1 + x.2 + 1))))
    else (bare (c :: r)).map fun x => .ok (tx x.1) (p + x.2)
theorem feAt_c {l : List Nat} {p c : Nat} {r : List Nat} (h : l.drop p = c :: r) : feAt l p = if c = 123 then (match brc 1 r with
      | none => none
      | some none => some (.bad "unmatched open brace in list" eBrace)
      | some (some k) => some (chk l (p + 1 + k + 1) "braces" (.ok (tx (r.take k)) (p + 1 + k + 1))))
    else if c = 34 then (match quo r with
      | none => none
      | some none => some (.bad "unmatched open quote in list" eQuote)
      | some (some x) => some (chk l (p + 1 + x.2 + 1) "quotes" (.ok (tx x.1) (p + 1 + x.2 + 1))))
    else (bare (c :: r)).map fun x => .ok (tx x.1) (p + x.2) := by
  delta feAt; rw [h]
noncomputable def skp : List Nat → Nat
  | [] => 0
  | c :: r => if bl c = true then skp r + 1 else 0
noncomputable def fe (l : List Nat) (p : Nat) : Option FR := feAt l (p + skp (l.drop p))
noncomputable def FRQ (H : AH) (Q : AV → AH → Prop) (X : Addr → AH → Prop) : FR → Prop
  | .none => Q .none H
  | .ok x p => Q (.tup [.str x, .int (p : Nat)]) H
  | .bad why ec => RaisesE H X 1 (.str why) ec 0
inductive SkI (l : List Nat) (p e : Nat) : Prop
  | mk : e ≤ l.length → e + skp (l.drop e) = p + skp (l.drop p) → SkI l p e
theorem SkI.next {l : List Nat} {p e : Nat} (h : SkI l p e) (hlt : e < l.length) (hb : bl l[e] = true) : SkI l p (e + 1) := by
  obtain ⟨_, h⟩ := h
  rw [List.drop_eq_getElem_cons hlt, show skp (l[e] :: l.drop (e + 1)) = skp (l.drop (e + 1)) + 1 from if_pos hb] at h
  exact ⟨hlt, (Nat.add_right_comm e 1 _).trans h⟩
theorem SkI.fin {l : List Nat} {p e : Nat} (h : SkI l p e) (hE : skp (l.drop e) = 0) : p + skp (l.drop p) = e := by
  obtain ⟨_, h⟩ := h
  rw [hE] at h
  exact h.symm
theorem SkI.stop {l : List Nat} {e : Nat} (hlt : e < l.length) (hb : bl l[e] = false) : skp (l.drop e) = 0 := by
  rw [List.drop_eq_getElem_cons hlt]; exact if_neg (by rw [hb]; decide)
theorem SkI.past {l : List Nat} {e : Nat} (h : l.length ≤ e) : skp (l.drop e) = 0 := by rw [List.drop_eq_nil_of_le h]; rfl
inductive FeB (l : List Nat) (e : Nat) (r : FR) : Prop
  | mk (y : Option Nat) : brc 1 (l.drop (e + 1)) = some y → (y = none → r = .bad "unmatched open brace in list" eBrace) → (∀ k, y = some k → r = chk l (e + 1 + k + 1) "braces" (.ok (tx ((l.drop (e + 1)).take k)) (e + 1 + k + 1))) → FeB l e r
inductive FeQ (l : List Nat) (e : Nat) (r : FR) : Prop
  | mk (y : Option (List Nat × Nat)) : quo (l.drop (e + 1)) = some y → (y = none → r = .bad "unmatched open quote in list" eQuote) → (∀ o k, y = some (o, k) → r = chk l (e + 1 + k + 1) "quotes" (.ok (tx o) (e + 1 + k + 1))) → FeQ l e r
inductive FeN (l : List Nat) (e : Nat) (r : FR) : Prop
  | mk (o : List Nat) (k : Nat) : bare (l.drop e) = some (o, k) → r = .ok (tx o) (e + k) → FeN l e r
section
variable {l : List Nat} {e : Nat} {r : FR} (hb : feAt l e = some r)
include hb
theorem fe_past (h : l.length ≤ e) : r = .none := by
  delta feAt at hb
  rw [List.drop_eq_nil_of_le h] at hb
  cases hb; rfl
theorem fe_br (hlt : e < l.length) (q : l[e] = 123) : FeB l e r := by
  rw [feAt_c (List.drop_eq_getElem_cons hlt), if_pos q] at hb
  cases h : brc 1 (l.drop (e + 1)) with
  | none => rw [h] at hb; cases hb
  | some y => rw [h] at hb; exact ⟨y, h, fun e => by subst e; cases hb; rfl, fun k e => by subst e; cases hb; rfl⟩
theorem fe_qu (hlt : e < l.length) (q : l[e] = 34) : FeQ l e r := by
  rw [feAt_c (List.drop_eq_getElem_cons hlt), if_neg (by rw [q]; decide), if_pos q] at hb
  cases h : quo (l.drop (e + 1)) with
  | none => rw [h] at hb; cases hb
  | some y => rw [h] at hb; exact ⟨y, h, fun e => by subst e; cases hb; rfl, fun o k e => by subst e; cases hb; rfl⟩
theorem fe_no (hlt : e < l.length) (q : l[e] ≠ 123) (q' : l[e] ≠ 34) : FeN l e r := by
  have hd := List.drop_eq_getElem_cons hlt
  rw [feAt_c hd, if_neg q, if_neg q', ← hd] at hb
  obtain ⟨y, g1, g2⟩ := Option.map_eq_some_iff.mp hb
  exact ⟨y.1, y.2, g1, g2.symm⟩
end
theorem FRQ.to {H : AH} {Q : AV → AH → Prop} {X : Addr → AH → Prop} {r r' : FR} (q : FRQ H Q X r) (e : r = r') : FRQ H Q X r' := e ▸ q
theorem FRQ.ok {H : AH} {Q : AV → AH → Prop} {X : Addr → AH → Prop} {l : List Nat} {p : Nat} {w : Str} {r : FR} (q : FRQ H Q X (chk l p w r)) (h : bOk l p = true) : FRQ H Q X r := by unfold chk at q; rwa [if_pos h] at q
theorem FRQ.no {H : AH} {Q : AV → AH → Prop} {X : Addr → AH → Prop} {l : List Nat} {p : Nat} {w : Str} {r : FR} (q : FRQ H Q X (chk l p w r)) (h : bOk l p = false) : RaisesE H X 1 (.str (junkWhy w (junkOf (l.drop p)))) eJunk 0 := by unfold chk at q; rw [if_neg (by rw [h]; decide)] at q; exact q
section
variable {B : BC} {n : Nat} (hB : KB B) {H : AH} {Q : AV → AH → Prop} {X : Addr → AH → Prop} {l : List Nat}
include hB
theorem c_find {p : Nat} {r : FR} (hl : l.length ≤ 1000) (hp' : p ≤ l.length) (hb : fe l p = some r) (q : FRQ H Q X r) : CallP B (n + 6) (.ref 286) [.str (tx l), .int (p : Nat)] H Q X := by
  refine c_def hB ["text", "at"] [("len", .blt "len"), ("is_blank", .ref 181), ("braced_element", .ref 265), ("quoted_element", .ref 272), ("bare_element", .ref 279)] (by k_is) (by k_is) (by k_is) rfl (fn_ok (.blt hB (by k_is) rfl rfl (.fn hB (by k_is) rfl (.fn hB (by k_is) rfl (.fn hB (by k_is) rfl (.fn hB (by k_is) rfl .nil))))) rfl) rfl (by dsimp only [mkLoc, List.map]) (fun rs hr => ?_) (fun f hn hg hp => ?_)
  · exact len2 hr fun _ _ => rfl
  walk_at "ww"
  refine ⟨?_⟩
  refine WH.ind (st := fun i : Nat => ⟨[some (.str (tx l)), some (.int (i : Nat))], H⟩)
    (SkI l p) (fun i => skp (l.drop i) = 0) (fun i => l.length - i) p ⟨hp', rfl⟩ (fun e hi hE => ?_) (fun e hi fin ih => ?_)
  · have hb : feAt l e = some r := by rw [← hi.fin hE]; exact hb
    walk_at "ww"
    refine len_tx hl ?_
    walk_at "ww"
    conv => whnf
    refine br_le (fun hge => ?_) (fun hlt => ?_)
    · walk_at "ww"
      exact q.to (fe_past hb hge)
    · walk_at "ww"
      refine item_tx (c := l[e]) hl (List.getElem?_eq_getElem hlt) ?_
      walk_at "ww"
      conv => whnf
      refine br_sg s_lb (fun hc => ?_) (fun hc => ?_)
      · obtain ⟨y, g1, g2, g3⟩ := fe_br hb hlt hc
        walk_at "ww"
        refine CW.of (c_braced (p := e + 1) (r := y) (n := n) hB hl hlt g1 (fun hy => q.to (g2 hy)) (fun k hy ho => ?_) (fun k hy ho => FRQ.no (q.to (g3 k hy)) ho)) (by first | exact la rfl | exact Nat.le_add_right _ _ | omega)
        walk_at "ww"
        exact FRQ.ok (q.to (g3 k hy)) ho
      · walk_at "ww"
        refine item_tx (c := l[e]) hl (List.getElem?_eq_getElem hlt) ?_
        walk_at "ww"
        conv => whnf
        refine br_sg s_dq (fun hc' => ?_) (fun hc' => ?_)
        · obtain ⟨y, g1, g2, g3⟩ := fe_qu hb hlt hc'
          walk_at "ww"
          refine CW.of (c_quoted (p := e + 1) (r := y) (n := n) hB hl hlt g1 (fun hy => q.to (g2 hy)) (fun o k hy ho => ?_) (fun o k hy ho => FRQ.no (q.to (g3 o k hy)) ho)) (by first | exact la rfl | exact Nat.le_add_right _ _ | omega)
          walk_at "ww"
          exact FRQ.ok (q.to (g3 o k hy)) ho
        · obtain ⟨o, k, g1, g2⟩ := fe_no hb hlt hc hc'
          walk_at "ww"
          refine CW.of (c_bare (p := e) (o := o) (k := k) (n := n) hB hl (Nat.le_of_lt hlt) g1 ?_) (by first | exact la rfl | exact Nat.le_add_right _ _ | omega)
          walk_at "ww"
          exact q.to g2
  · refine wh_step hn hg 60 ?_
    walk_at "ww"
    refine len_tx hl ?_
    walk_at "ww"
    conv => whnf
    refine br_lt (fun hlt => ?_) (fun hb => fin (SkI.past hb))
    walk_at "ww"
    refine item_tx (c := l[e]) hl (List.getElem?_eq_getElem hlt) ?_
    walk_at "ww"
    refine CW.of (c_is_blank (n := n) hB ?_) (by first | exact la rfl | exact Nat.le_add_right _ _ | omega)
    cases hbl : bl l[e] with
    | true =>
      walk_at "ww"
      exact ih (e + 1) (hi.next hlt hbl) (Nat.sub_lt_sub_left hlt (Nat.lt_succ_self e))
    | false => exact fin (SkI.stop hlt hbl)
end
inductive SR where
  | ok (xs : List Str) | bad (why : Str) (ec : AV)
noncomputable def SR.cons (x : Str) : SR → SR
  | .ok xs => .ok (x :: xs)
  | .bad w e => .bad w e
noncomputable def SR.app (ys : List Str) : SR → SR
  | .ok xs => .ok (ys ++ xs)
  | .bad w e => .bad w e
noncomputable def spl : Nat → List Nat → Nat → Option SR
  | 0, _, _ => none
  | k + 1, l, p => match fe l p with
    | none => none
    | some .none => some (.ok [])
    | some (.bad w e) => some (.bad w e)
    | some (.ok x p') => if p' ≤ l.length then (spl k l p').map (SR.cons x) else none
noncomputable def SRQ (H : AH) (Q : AV → AH → Prop) (X : Addr → AH → Prop) : SR → Prop
  | .ok xs => Q (.lst (xs.map .str)) H
  | .bad w e => RaisesE H X 1 (.str w) e 0
theorem SR.app_cons (ys : List Str) (x : Str) (r : SR) : (r.cons x).app ys = r.app (ys ++ [x]) := by
  cases r with
  | ok ys' => exact congrArg SR.ok (List.append_cons ..)
  | bad => rfl
noncomputable def fdAV : Option (Str × Nat) → AV
  | none => .none
  | some (x, p) => .tup [.str x, .int (p : Nat)]
noncomputable def splR (l : List Nat) (r : SR) (xs : List Str) (k : Nat) : Option (Str × Nat) → Prop
  | none => r = .ok xs
  | some (x, p) => p ≤ l.length ∧ ∃ r', spl k l p = some r' ∧ r = (r'.cons x).app xs
noncomputable def FR.fd : FR → Option (Option (Str × Nat))
  | .none => some Option.none
  | .ok x p => some (some (x, p))
  | .bad _ _ => Option.none
theorem spl_s {k p : Nat} {l : List Nat} : spl (k + 1) l p = match fe l p with | none => none | some .none => some (.ok []) | some (.bad w e) => some (.bad w e) | some (.ok x p') => if p' ≤ l.length then (spl k l p').map (SR.cons x) else none := rfl
theorem spl_fd {l : List Nat} {r : SR} {xs : List Str} {k p : Nat} {r' : SR} (hs : spl (k + 1) l p = some r') (h : r = r'.app xs) : ∃ f, fe l p = some f ∧ (∀ fd, f.fd = some fd → splR l r xs k fd) ∧ ∀ w e, f = .bad w e → r = .bad w e := by
  rw [spl_s] at hs
  cases hf : fe l p with
  | none => rw [hf] at hs; cases hs
  | some f =>
    rw [hf] at hs
    cases f with
    | none => cases hs; exact ⟨_, rfl, fun fd e => by cases e; exact h.trans (congrArg SR.ok (List.append_nil _)), fun w e q => by cases q⟩
    | bad w e => cases hs; exact ⟨_, rfl, fun fd q => (by cases q), fun w' e' q => (by cases q; exact h)⟩
    | ok x p' =>
      have hs : (if p' ≤ l.length then (spl k l p').map (SR.cons x) else none) = some r' := hs
      by_cases hle : p' ≤ l.length
      · rw [if_pos hle] at hs
        obtain ⟨r'', g1, g2⟩ := Option.map_eq_some_iff.mp hs
        exact ⟨_, rfl, fun fd e => by cases e; exact ⟨hle, r'', g1, by rw [h, g2]⟩, fun w e q => by cases q⟩
      · rw [if_neg hle] at hs; cases hs
structure SpI (l : List Nat) (r : SR) (xs : List Str) (k : Nat) (fd : Option (Str × Nat)) : Prop where
  h : splR l r xs k fd
  z : xs.length + k ≤ 1000
theorem SpI.len {l : List Nat} {r : SR} {xs : List Str} {k : Nat} {fd : Option (Str × Nat)} (h : SpI l r xs k fd) : xs.length ≤ 1000 := Nat.le_trans (Nat.le_add_right _ _) h.z
theorem SpI.next {l : List Nat} {r : SR} {xs : List Str} {k : Nat} {x : Str} {fd : Option (Str × Nat)} (h : SpI l r xs (k + 1) fd) : (xs ++ [x]).length + k ≤ 1000 := by
  rw [List.length_append]; exact Nat.le_trans (Nat.le_of_eq (Nat.add_right_comm _ 1 k)) h.z
theorem SpI.go {l : List Nat} {r : SR} {xs : List Str} {k p : Nat} {x : Str} (h : SpI l r xs k (some (x, p))) : p ≤ l.length ∧ ∃ k' f, k = k' + 1 ∧ fe l p = some f ∧ (∀ fd, f.fd = some fd → splR l r (xs ++ [x]) k' fd) ∧ ∀ w e, f = .bad w e → r = .bad w e := by
  obtain ⟨h1, r', h2, h3⟩ := h.h
  rw [SR.app_cons] at h3
  cases k with
  | zero => cases h2
  | succ k =>
    obtain ⟨fr, f1, f2, f3⟩ := spl_fd (xs := xs ++ [x]) (r := r) h2 h3
    exact ⟨h1, k, fr, rfl, f1, f2, f3⟩
theorem ap_strs {it : Addr} {xs : List Str} {x : Str} {loc : List (Option AV)} {H : AH} {Q : AV → St → Prop} (h : xs.length ≤ 1000) (q : Q .none ⟨loc, H.put it (some (.list ((xs ++ [x]).map .str)))⟩) : ApP it [.str x] ⟨loc, H.put it (some (.list (xs.map .str)))⟩ Q :=
  ApP.mk HG.here (by rw [List.length_map]; exact le_line1 h) (by rw [AH.put_twice]; rw [List.map_append] at q; exact q)
section
variable {B : BC} {n : Nat} (hB : KB B) {H : AH} {Q : AV → AH → Prop} {X : Addr → AH → Prop} {l : List Nat}
include hB
theorem c_find' {p : Nat} {r : FR} (hl : l.length ≤ 1000) (hp' : p ≤ l.length) (hb : fe l p = some r) (qo : ∀ fd, r.fd = some fd → Q (fdAV fd) H) (qx : ∀ w e, r = .bad w e → RaisesE H X 1 (.str w) e 0) : CallP B (n + 6) (.ref 286) [.str (tx l), .int (p : Nat)] H Q X :=
  c_find hB hl hp' hb (by
    cases r with
    | none => exact qo none rfl
    | ok x p => exact qo (some (x, p)) rfl
    | bad w e => exact qx w e rfl)
theorem c_split {k : Nat} {r : SR} (hl : l.length ≤ 1000) (hk : k ≤ 1000) (hs : spl k l 0 = some r) (q : SRQ H Q X r) : CallP B (n + 7) (.ref 293) [.str (tx l)] H Q X := by
  refine c_defm [false, true] hB ["text", "items", "found"] [("find_element", .ref 286)] (by k_is) (by k_is) (by k_is) rfl (fn_ok (.fn hB (by k_is) rfl .nil) rfl) rfl (by dsimp only [mkLoc, List.map]) (fun rs hr => ?_) (fun f hn hg hp => ?_)
  · exact len1 hr fun _ => rfl
  walk_at "ww"
  refine LsP.cel (fun it hit => ?_)
  walk_at "ww"
  obtain ⟨k, rfl⟩ : ∃ k', k = k' + 1 := by cases k with | zero => cases hs | succ k => exact ⟨k, rfl⟩
  obtain ⟨fr, g1, g2, g3⟩ := spl_fd (xs := []) (r := r) hs (by cases r <;> rfl)
  refine CW.of (c_find' (p := 0) (n := n) hB hl (Nat.zero_le _) g1 (fun fd hfd => ?_) (fun w e he => ?_)) (by first | exact la rfl | exact Nat.le_add_right _ _ | omega)
  · walk_at "ww"
    refine ⟨?_⟩
    refine WH.ind3 (fun xs _ fd => ⟨[some (.str (tx l)), some (.ref it), some (fdAV fd)], H.put it (some (.list (xs.map .str)))⟩)
      (SpI l r) (fun _ _ fd => fd = none) (fun _ k fd => fd.elim 0 fun _ => k + 1) [] k fd ⟨g2 fd hfd, (Nat.zero_add k).symm ▸ Nat.le_of_succ_le hk⟩ (fun xs k fd hi hE => ?_) (fun xs k fd hi fin ih => ?_)
    · subst hE
      cases hi.1
      conv => whnf
      refine NmP.frz (by repeat constructor) HG.here ?_
      rw [AH.put_none_put hit]
      conv => whnf
      exact q
    · cases fd with
      | none =>
        refine wh_stepm [false, true] hn hg 60 ?_
        have fin := fin rfl
        conv at fin => whnf
        conv => whnf
        exact fin
      | some y =>
        obtain ⟨x, p⟩ := y
        obtain ⟨h1, k, fr, rfl, f1, f2, f3⟩ := hi.go
        refine wh_stepm [false, true] hn hg 60 ?_
        walk_at "ww"
        refine MeP.append HG.here ?_
        walk_at "ww"
        refine ItP.tup (v := .str x) (by decide) (by decide) rfl ?_
        walk_at "ww"
        refine ap_strs hi.len ?_
        walk_at "ww"
        refine ItP.tup (v := .int (p : Nat)) (by decide) (by decide) rfl ?_
        walk_at "ww"
        refine CW.of (c_find' (p := p) (n := n) hB hl h1 f1 (fun fd hfd => ?_) (fun w e he => ?_)) (by first | exact la rfl | exact Nat.le_add_right _ _ | omega)
        · walk_at "ww"
          exact ih (xs ++ [x]) k fd ⟨f2 fd hfd, hi.next⟩ (by cases fd; exact Nat.succ_pos _; exact Nat.lt_succ_self _)
        · cases f3 w e he
          exact RaisesE.ext q (Ext.put hit)
  · cases g3 w e he
    exact RaisesE.ext q (Ext.put hit)
end
inductive Nm where
  | x | y | z
  deriving DecidableEq
noncomputable def Nm.str : Nm → Str
  | .x => "x"
  | .y => "y"
  | .z => "z"
structure VS where
  live : Bool
  value : Str
  writes : Int
noncomputable def kindS : Bool → Str
  | true => "scalar"
  | false => "none"
noncomputable abbrev VS.kind (v : VS) : Str := kindS v.live
inductive Act where
  | no | put (m : Nm) | drop (m : Nm)
structure Deed where
  act : Act
  code : Int
  value : Str
noncomputable def Deed.name (d : Deed) : Str := match d.act with | .no => "" | .put m => m.str | .drop m => m.str
noncomputable def Deed.word (d : Deed) : Str := match d.act with | .no => "" | .put _ => "put" | .drop _ => "drop"
noncomputable def Deed.av (d : Deed) : AV := .tup [.str d.word, .str d.name, .int d.code, .str d.value]
noncomputable abbrev Row := List (Nm × Str)
noncomputable def rowAV (r : Row) : AV := .lst (r.map fun p => AV.tup [.str p.1.str, .str p.2])
noncomputable def rowsAV (rs : List Row) : AV := .lst (rs.map rowAV)
structure HA where
  (h hd td vd lg kp : Addr)
  (v vdct vt : Nm → Addr)
  (i c f : Addr)
structure HS where
  rows : List Row
  deeds : List Deed
  log : List AV
  kept : List AV
  turn : Option Int
  depth : Int
  spent : Int
  fuel : Int
  v : Nm → VS
noncomputable abbrev hostEs (A : HA) (s : HS) : List (Str × AV) := [("tools", .ref A.td), ("inline", .ref A.i), ("limit", .int 40), ("fuel", .int s.fuel), ("depth", .int s.depth), ("spent", .int s.spent), ("epoch", .int 0), ("frame", .none), ("coroutine", .none), ("vars", .ref A.vd), ("commands", .ref A.c), ("firsts", .ref A.f)]
noncomputable def turnEs : Option Int → List (Str × AV)
  | none => []
  | some t => [("turn", .int t)]
noncomputable abbrev toolsEs (A : HA) (s : HS) : List (Str × AV) := ("run", .ref 685) :: ("expr", .ref 699) :: ("rounds", rowsAV s.rows) :: ("deeds", .lst (s.deeds.map Deed.av)) :: ("log", .ref A.lg) :: ("kept", .ref A.kp) :: turnEs s.turn
noncomputable abbrev varsEs (A : HA) : List (Str × AV) := [("x", .ref (A.v .x)), ("y", .ref (A.v .y)), ("z", .ref (A.v .z))]
noncomputable abbrev varEs (A : HA) (m : Nm) (v : VS) : List (Str × AV) := [("kind", .str v.kind), ("value", .str v.value), ("traces", .ref (A.vt m)), ("is_busy", .bool false), ("is_element", .bool false), ("writes", .int v.writes)]
noncomputable def HA.cells (A : HA) : List Addr := [A.h, A.hd, A.td, A.vd, A.lg, A.kp, A.v .x, A.v .y, A.v .z, A.vdct .x, A.vdct .y, A.vdct .z]
structure Sees (H : AH) (A : HA) (s : HS) : Prop where
  h : H A.h = some (.inst 622 A.hd)
  hd : H A.hd = some (.ns (hostEs A s))
  td : H A.td = some (.dict (toolsEs A s))
  vd : H A.vd = some (.dict (varsEs A))
  lg : H A.lg = some (.list s.log)
  kp : H A.kp = some (.list s.kept)
  v : ∀ m, H (A.v m) = some (.inst 381 (A.vdct m))
  vdct : ∀ m, H (A.vdct m) = some (.ns (varEs A m (s.v m)))
  nd : A.cells.Nodup
noncomputable def Keep (A : HA) (H H' : AH) : Prop := ∀ b c, H b = some c → b ∉ A.cells → H' b = some c
theorem Keep.refl {A : HA} {H : AH} : Keep A H H := fun _ _ e _ => e
theorem Keep.trans {A : HA} {H H' H'' : AH} (x : Keep A H H') (y : Keep A H' H'') : Keep A H H'' := fun b c e m => y b c (x b c e m) m
theorem put_off {H : AH} {a b : Addr} {c : Option Cell} (h : b ≠ a) : (H.put a c) b = H b := if_neg h
theorem Keep.put {A : HA} {H : AH} {a : Addr} {c : Option Cell} (h : a ∈ A.cells) : Keep A H (H.put a c) := fun b c' e m => by
  rw [put_off (fun q : b = a => m (by rw [q]; exact h))]; exact e
theorem Keep.fresh {A : HA} {H : AH} {a : Addr} {c : Option Cell} (h : H a = none) : Keep A H (H.put a c) := fun b c' e _ => HG.old h e
theorem Keep.ext {A : HA} {H H' : AH} (h : Ext H H') : Keep A H H' := fun b c e _ => h b c e
theorem nd_ne {l : List Addr} (nd : l.Nodup) {i j : Nat} {a b : Addr} (hi : l[i]? = some a) (hj : l[j]? = some b) (h : i ≠ j) : a ≠ b := fun e => by
  subst e
  obtain ⟨li, ei⟩ := List.getElem?_eq_some_iff.mp hi
  obtain ⟨lj, ej⟩ := List.getElem?_eq_some_iff.mp hj
  exact h ((List.getElem_inj nd).mp (ei.trans ej.symm))
noncomputable def Nm.ix : Nm → Nat
  | .x => 0
  | .y => 1
  | .z => 2
theorem v_at (A : HA) (m : Nm) : A.cells[6 + m.ix]? = some (A.v m) := by cases m <;> rfl
theorem vd_at (A : HA) (m : Nm) : A.cells[9 + m.ix]? = some (A.vdct m) := by cases m <;> rfl
theorem Sees.old {H : AH} {A : HA} {s : HS} (S : Sees H A s) {H' : AH} (h : ∀ b ∈ A.cells, H' b = H b) : Sees H' A s := by
  have vm : ∀ m, A.v m ∈ A.cells := fun m => List.mem_of_getElem? (v_at A m)
  have dm : ∀ m, A.vdct m ∈ A.cells := fun m => List.mem_of_getElem? (vd_at A m)
  exact ⟨(h _ (by simp [HA.cells])).trans S.h, (h _ (by simp [HA.cells])).trans S.hd, (h _ (by simp [HA.cells])).trans S.td, (h _ (by simp [HA.cells])).trans S.vd, (h _ (by simp [HA.cells])).trans S.lg, (h _ (by simp [HA.cells])).trans S.kp, fun m => (h _ (vm m)).trans (S.v m), fun m => (h _ (dm m)).trans (S.vdct m), S.nd⟩
theorem Sees.live {H : AH} {A : HA} {s : HS} (S : Sees H A s) {b : Addr} (h : b ∈ A.cells) : ∃ c, H b = some c := by
  simp only [HA.cells, List.mem_cons, List.not_mem_nil, or_false] at h
  rcases h with rfl | rfl | rfl | rfl | rfl | rfl | rfl | rfl | rfl | rfl | rfl | rfl
  · exact ⟨_, S.h⟩
  · exact ⟨_, S.hd⟩
  · exact ⟨_, S.td⟩
  · exact ⟨_, S.vd⟩
  · exact ⟨_, S.lg⟩
  · exact ⟨_, S.kp⟩
  · exact ⟨_, S.v .x⟩
  · exact ⟨_, S.v .y⟩
  · exact ⟨_, S.v .z⟩
  · exact ⟨_, S.vdct .x⟩
  · exact ⟨_, S.vdct .y⟩
  · exact ⟨_, S.vdct .z⟩
theorem Sees.ext {H H' : AH} {A : HA} {s : HS} (S : Sees H A s) (h : Ext H H') : Sees H' A s := S.old fun b m => by
  obtain ⟨c, e⟩ := S.live m; rw [e]; exact h b c e
theorem Sees.fresh {H : AH} {A : HA} {s : HS} (S : Sees H A s) {a : Addr} {c : Option Cell} (h : H a = none) : Sees (H.put a c) A s := S.ext (Ext.put h)
section
variable {H : AH} {A : HA} {s : HS}
theorem Sees.setHd (S : Sees H A s) (s' : HS) (e : s' = { s with depth := s'.depth, spent := s'.spent, fuel := s'.fuel }) : Sees (H.put A.hd (some (.ns (hostEs A s')))) A s' := by
  have n := fun {j : Nat} {b : Addr} (hj : A.cells[j]? = some b) (hne : j ≠ 1) => nd_ne S.nd hj (show A.cells[1]? = some A.hd from rfl) hne
  have e1 : toolsEs A s' = toolsEs A s := by rw [e]
  refine ⟨?_, HG.here, ?_, ?_, ?_, ?_, fun m => ?_, fun m => ?_, S.nd⟩
  · rw [put_off (n (j := 0) rfl (by decide))]; exact S.h
  · rw [put_off (n (j := 2) rfl (by decide)), e1]; exact S.td
  · rw [put_off (n (j := 3) rfl (by decide))]; exact S.vd
  · rw [put_off (n (j := 4) rfl (by decide)), e]; exact S.lg
  · rw [put_off (n (j := 5) rfl (by decide)), e]; exact S.kp
  · rw [put_off (n (v_at A m) (by cases m <;> decide))]; exact S.v m
  · rw [put_off (n (vd_at A m) (by cases m <;> decide)), e]; exact S.vdct m
theorem Sees.setTurn (S : Sees H A s) (t : Option Int) : Sees (H.put A.td (some (.dict (toolsEs A { s with turn := t })))) A { s with turn := t } := by
  have n := fun {j : Nat} {b : Addr} (hj : A.cells[j]? = some b) (hne : j ≠ 2) => nd_ne S.nd hj (show A.cells[2]? = some A.td from rfl) hne
  refine ⟨?_, ?_, HG.here, ?_, ?_, ?_, fun m => ?_, fun m => ?_, S.nd⟩
  · rw [put_off (n (j := 0) rfl (by decide))]; exact S.h
  · rw [put_off (n (j := 1) rfl (by decide))]; exact S.hd
  · rw [put_off (n (j := 3) rfl (by decide))]; exact S.vd
  · rw [put_off (n (j := 4) rfl (by decide))]; exact S.lg
  · rw [put_off (n (j := 5) rfl (by decide))]; exact S.kp
  · rw [put_off (n (v_at A m) (by cases m <;> decide))]; exact S.v m
  · rw [put_off (n (vd_at A m) (by cases m <;> decide))]; exact S.vdct m
theorem Sees.setLog (S : Sees H A s) (l : List AV) : Sees (H.put A.lg (some (.list l))) A { s with log := l } := by
  have n := fun {j : Nat} {b : Addr} (hj : A.cells[j]? = some b) (hne : j ≠ 4) => nd_ne S.nd hj (show A.cells[4]? = some A.lg from rfl) hne
  refine ⟨?_, ?_, ?_, ?_, HG.here, ?_, fun m => ?_, fun m => ?_, S.nd⟩
  · rw [put_off (n (j := 0) rfl (by decide))]; exact S.h
  · rw [put_off (n (j := 1) rfl (by decide))]; exact S.hd
  · rw [put_off (n (j := 2) rfl (by decide))]; exact S.td
  · rw [put_off (n (j := 3) rfl (by decide))]; exact S.vd
  · rw [put_off (n (j := 5) rfl (by decide))]; exact S.kp
  · rw [put_off (n (v_at A m) (by cases m <;> decide))]; exact S.v m
  · rw [put_off (n (vd_at A m) (by cases m <;> decide))]; exact S.vdct m
theorem Sees.setKept (S : Sees H A s) (l : List AV) : Sees (H.put A.kp (some (.list l))) A { s with kept := l } := by
  have n := fun {j : Nat} {b : Addr} (hj : A.cells[j]? = some b) (hne : j ≠ 5) => nd_ne S.nd hj (show A.cells[5]? = some A.kp from rfl) hne
  refine ⟨?_, ?_, ?_, ?_, ?_, HG.here, fun m => ?_, fun m => ?_, S.nd⟩
  · rw [put_off (n (j := 0) rfl (by decide))]; exact S.h
  · rw [put_off (n (j := 1) rfl (by decide))]; exact S.hd
  · rw [put_off (n (j := 2) rfl (by decide))]; exact S.td
  · rw [put_off (n (j := 3) rfl (by decide))]; exact S.vd
  · rw [put_off (n (j := 4) rfl (by decide))]; exact S.lg
  · rw [put_off (n (v_at A m) (by cases m <;> decide))]; exact S.v m
  · rw [put_off (n (vd_at A m) (by cases m <;> decide))]; exact S.vdct m
noncomputable def HS.setv (s : HS) (m : Nm) (v : VS) : HS := { s with v := fun k => if k = m then v else s.v k }
theorem Sees.setVar (S : Sees H A s) (m : Nm) (v : VS) : Sees (H.put (A.vdct m) (some (.ns (varEs A m v)))) A (s.setv m v) := by
  have n := fun {j : Nat} {b : Addr} (hj : A.cells[j]? = some b) (hne : j ≠ 9 + m.ix) => nd_ne S.nd hj (vd_at A m) hne
  refine ⟨?_, ?_, ?_, ?_, ?_, ?_, fun k => ?_, fun k => ?_, S.nd⟩
  · rw [put_off (n (j := 0) rfl (by cases m <;> decide))]; exact S.h
  · rw [put_off (n (j := 1) rfl (by cases m <;> decide))]; exact S.hd
  · rw [put_off (n (j := 2) rfl (by cases m <;> decide))]; exact S.td
  · rw [put_off (n (j := 3) rfl (by cases m <;> decide))]; exact S.vd
  · rw [put_off (n (j := 4) rfl (by cases m <;> decide))]; exact S.lg
  · rw [put_off (n (j := 5) rfl (by cases m <;> decide))]; exact S.kp
  · rw [put_off (n (v_at A k) (by cases m <;> cases k <;> decide))]; exact S.v k
  · by_cases e : k = m
    · subst e; show _ = some (Cell.ns (varEs A k (if k = k then v else s.v k))); rw [if_pos rfl]; exact HG.here
    · rw [put_off (n (vd_at A k) (by cases m <;> cases k <;> first | exact absurd rfl e | decide))]
      show _ = some (Cell.ns (varEs A k (if k = m then v else s.v k))); rw [if_neg e]; exact S.vdct k
end
noncomputable def ThrR (A : HA) (H : AH) (s' : HS) (code : Int) (v ec : AV) (level : Int) (X : Addr → AH → Prop) : Prop := ∀ H' a d ex, Sees H' A s' → Keep A H H' → H' a = some (.exc 84 (some d) true) → H' d = some (.ns (rfs code v ec level 0 ex)) → a ∉ A.cells → d ∉ A.cells → X a H'
noncomputable def ThrF (A : HA) (H : AH) (s' : HS) (X : Addr → AH → Prop) : Prop := ∀ H' a d, Sees H' A s' → Keep A H H' → H' a = some (.exc 63 (some d) true) → a ∉ A.cells → X a H'
noncomputable def RetH (A : HA) (H : AH) (s' : HS) (Q : AV → AH → Prop) (v : AV) : Prop := ∀ H', Sees H' A s' → Keep A H H' → Q v H'
theorem RetH.keep {A : HA} {H H' : AH} {s' : HS} {Q : AV → AH → Prop} {v : AV} (h : RetH A H s' Q v) (k : Keep A H H') : RetH A H' s' Q v := fun H'' S k' => h H'' S (k.trans k')
theorem ThrR.keep {A : HA} {H H' : AH} {s' : HS} {code level : Int} {v ec : AV} {X : Addr → AH → Prop} (h : ThrR A H s' code v ec level X) (k : Keep A H H') : ThrR A H' s' code v ec level X := fun H'' a d ex S k' => h H'' a d ex S (k.trans k')
theorem ThrF.keep {A : HA} {H H' : AH} {s' : HS} {X : Addr → AH → Prop} (h : ThrF A H s' X) (k : Keep A H H') : ThrF A H' s' X := fun H'' a d S k' => h H'' a d S (k.trans k')
theorem Sees.off {H : AH} {A : HA} {s : HS} (S : Sees H A s) {b : Addr} (h : H b = none) : b ∉ A.cells := fun m => by
  obtain ⟨c, e⟩ := S.live m; rw [h] at e; cases e
section
variable {B : BC} {n : Nat} (hB : KB B) {H : AH} {A : HA} {s : HS} {Q : AV → AH → Prop} {X : Addr → AH → Prop}
include hB
theorem c_tool {nm : Str} {v : AV} (S : Sees H A s) (g : GHas (toolsEs A s) nm v) (q : Q v H) : CallP B (n + 1) (.ref 407) [.ref A.h, .str nm] H Q X := by
  refine c_def hB ["self", "name"] [("Misused", .ref 51)] (by k_is) (by k_is) (by k_is) rfl (fn_ok (.fn hB (by k_is) rfl .nil) rfl) rfl (by dsimp only [mkLoc, List.map]) (fun rs hr => ?_) (fun f hn hg hp => ?_)
  · exact len2 hr fun _ _ => rfl
  walk_at "ww"
  refine AtP.own (g622_tools hB) (.inl S.h) S.hd .z (by intro i h; cases h) ?_
  walk_at "ww"
  refine NiP.has S.td g ?_
  walk_at "ww"
  refine AtP.own (g622_tools hB) (.inl S.h) S.hd .z (by intro i h; cases h) ?_
  walk_at "ww"
  refine ItP.dict S.td g ?_
  exact q
theorem c_fault {x : Addr} {why : AV} (hx : H x = some (.exc 63 none false)) (q : ∀ d, H d = none → d ≠ x → Q .none ((H.put x (some (.exc 63 (some d) false))).put d (some (.ns [("why", why)])))) : CallP B (n + 1) (.ref 35) [.ref x, why] H Q X := by
  refine c_def hB ["self", "why"] [("Exception", .typ "Exception")] (by k_is) (by k_is) (by k_is) rfl (fn_ok (.typ hB (by k_is) rfl rfl .nil) rfl) rfl (by dsimp only [mkLoc, List.map]) (fun rs hr => ?_) (fun f hn hg hp => ?_)
  · exact len2 hr fun _ _ => rfl
  walk_at "ww"
  refine MeP.xinit (fxi' hB) ?_
  walk_at "ww"
  refine XiP.mk hx (xo63' hB) ?_
  walk_at "ww"
  refine SaP.first (s63_why hB) hx (fun d hd hda => ?_)
  exact q d hd hda
theorem c_spend (S : Sees H A s) (q : s.spent + 1 ≤ s.fuel → RetH A H { s with spent := s.spent + 1 } Q .none) (x : s.fuel < s.spent + 1 → ThrF A H { s with spent := s.spent + 1 } X) : CallP B (n + 3) (.ref 414) [.ref A.h] H Q X := by
  refine c_def hB ["self"] [("OutOfFuel", .ref 63)] (by k_is) (by k_is) (by k_is) rfl (fn_ok (.fn hB (by k_is) rfl .nil) rfl) rfl (by dsimp only [mkLoc, List.map]) (fun rs hr => ?_) (fun f hn hg hp => ?_)
  · exact len1 hr fun _ => rfl
  walk_at "ww"
  refine AtP.own (g622_spent hB) (.inl S.h) S.hd (by repeat constructor) (by intro i h; cases h) ?_
  walk_at "ww"
  refine SaP.put (s622_spent hB) (.inl S.h) S.hd (by repeat constructor) ?_
  have S' : Sees (H.put A.hd (some (.ns (hostEs A { s with spent := s.spent + 1 })))) A { s with spent := s.spent + 1 } := S.setHd { s with spent := s.spent + 1 } rfl
  have k' : Keep A H (H.put A.hd (some (.ns (hostEs A { s with spent := s.spent + 1 })))) := Keep.put (by simp [HA.cells])
  walk_at "ww"
  refine AtP.own (g622_fuel hB) (.inl S'.h) S'.hd (by repeat constructor) (by intro i h; cases h) ?_
  walk_at "ww"
  refine AtP.own (g622_spent hB) (.inl S'.h) S'.hd (by repeat constructor) (by intro i h; cases h) ?_
  walk_at "ww"
  refine AtP.own (g622_fuel hB) (.inl S'.h) S'.hd (by repeat constructor) (by intro i h; cases h) ?_
  walk_at "ww"
  conv => whnf
  refine br_of (fun hb => ?_) (fun hb => ?_)
  · have hlt : s.fuel < s.spent + 1 := of_decide_eq_true hb
    walk_at "ww"
    refine ⟨rfl, fun a ha => ?_⟩
    refine c_fault (n := n) hB HG.here (fun d hd hda => ⟨rfl, ?_⟩)
    rw [AH.put_twice]
    have hd' : (H.put A.hd (some (.ns (hostEs A { s with spent := s.spent + 1 })))) d = none := (if_neg hda).symm.trans hd
    walk_at "ww"
    refine RaP.mk (HG.ne hda.symm HG.here) (xc63 hB) (.inl rfl) ?_
    have ha' : ((H.put A.hd (some (.ns (hostEs A { s with spent := s.spent + 1 })))).put d (some (.ns [("why", .str "the script spent all its fuel")]))) a = none := (put_off hda.symm).trans ha
    refine x hlt _ a d ?_ ?_ HG.here (S'.off ha)
    · rw [AH.back hda]
      exact (S'.fresh hd').fresh ha'
    · rw [AH.back hda]
      exact k'.trans ((Keep.fresh hd').trans (Keep.fresh ha'))
  · have hlt : s.spent + 1 ≤ s.fuel := by have : ¬ s.fuel < s.spent + 1 := of_decide_eq_false hb; omega
    exact q hlt _ S' k'
end
theorem vars_has (A : HA) (m : Nm) : GHas (varsEs A) m.str (.ref (A.v m)) := by cases m <;> repeat constructor
section
variable {B : BC} {n : Nat} (hB : KB B) {H : AH} {A : HA} {s : HS} {Q : AV → AH → Prop} {X : Addr → AH → Prop} {m : Nm}
include hB
theorem c_put_value {b : Bool} {value : Str} (S : Sees H A s) (q : RetH A H (s.setv m ⟨b, value, (s.v m).writes + 1⟩) Q (.str value)) : CallP B (n + 1) (.ref 491) [.ref (A.v m), .str (kindS b), .str value] H Q X := by
  refine c_def hB ["var", "kind", "value"] [] (by k_is) (by k_is) (by k_is) rfl (fn_ok .nil rfl) rfl (by dsimp only [mkLoc, List.map]) (fun rs hr => ?_) (fun f hn hg hp => ?_)
  · exact len3 hr fun _ _ _ => rfl
  walk_at "ww"
  refine SaP.put (s381_kind hB) (.inl (S.v m)) (S.vdct m) (by repeat constructor) ?_
  walk_at "ww"
  have hv : ∀ c, (H.put (A.vdct m) c) (A.v m) = some (.inst 381 (A.vdct m)) := fun c => by
    rw [put_off (nd_ne S.nd (v_at A m) (vd_at A m) (by cases m <;> decide))]; exact S.v m
  refine SaP.put (s381_value hB) (.inl (hv _)) HG.here (by repeat constructor) ?_
  rw [AH.put_twice]
  walk_at "ww"
  refine AtP.own (g381_writes hB) (.inl (hv _)) HG.here (by repeat constructor) (by intro i h; cases h) ?_
  walk_at "ww"
  refine SaP.put (s381_writes hB) (.inl (hv _)) HG.here (by repeat constructor) ?_
  rw [AH.put_twice]
  walk_at "ww"
  exact q _ (S.setVar m ⟨b, value, (s.v m).writes + 1⟩) (Keep.put (List.mem_of_getElem? (vd_at A m)))
theorem c_var_in {d a : Addr} {es : List (Str × AV)} {x : Str} (hd : H d = some (.dict es)) (g : GHas es x (.ref a)) (q : Q (.ref a) H) : CallP B (n + 1) (.ref 484) [.ref d, .str x] H Q X := by
  refine c_def hB ["book", "name"] [("Var", .ref 381)] (by k_is) (by k_is) (by k_is) rfl (fn_ok (.fn hB (by k_is) rfl .nil) rfl) rfl (by dsimp only [mkLoc, List.map]) (fun rs hr => ?_) (fun f hn hg hp => ?_)
  · exact len2 hr fun _ _ => rfl
  walk_at "ww"
  refine NiP.has hd g ?_
  walk_at "ww"
  refine ItP.dict hd g ?_
  exact q
theorem c_place (S : Sees H A s) (q : Q (.ref (A.v m)) H) : CallP B (n + 2) (.ref 534) [.ref A.h, .str m.str] H Q X := by
  refine c_def hB ["self", "name"] [("var_in", .ref 484)] (by k_is) (by k_is) (by k_is) rfl (fn_ok (.fn hB (by k_is) rfl .nil) rfl) rfl (by dsimp only [mkLoc, List.map]) (fun rs hr => ?_) (fun f hn hg hp => ?_)
  · exact len2 hr fun _ _ => rfl
  walk_at "ww"
  refine AtP.own (g622_vars hB) (.inl S.h) S.hd (by repeat constructor) (by intro i h; cases h) ?_
  walk_at "ww"
  refine CW.of (c_var_in (n := n) hB S.vd (vars_has A m) ?_) (by first | exact la rfl | exact Nat.le_add_right _ _ | omega)
  exact q
theorem c_write_var {nm value : Str} (S : Sees H A s) (q : RetH A H (s.setv m ⟨true, value, (s.v m).writes + 1⟩) Q (.str value)) : CallP B (n + 2) (.ref 548) [.ref A.h, .ref (A.v m), .str nm, .str value] H Q X := by
  refine c_def hB ["self", "var", "name", "value"] [("put_value", .ref 491)] (by k_is) (by k_is) (by k_is) rfl (fn_ok (.fn hB (by k_is) rfl .nil) rfl) rfl (by dsimp only [mkLoc, List.map]) (fun rs hr => ?_) (fun f hn hg hp => ?_)
  · exact len4 hr fun _ _ _ _ => rfl
  walk_at "ww"
  exact CW.of (c_put_value (n := n) (b := true) hB S q) (by first | exact la rfl | exact Nat.le_add_right _ _ | omega)
theorem c_write {value : Str} (S : Sees H A s) (q : RetH A H (s.setv m ⟨true, value, (s.v m).writes + 1⟩) Q (.str value)) : CallP B (n + 3) (.ref 562) [.ref A.h, .str m.str, .str value] H Q X := by
  refine c_def hB ["self", "name", "value"] [] (by k_is) (by k_is) (by k_is) rfl (fn_ok .nil rfl) rfl (by dsimp only [mkLoc, List.map]) (fun rs hr => ?_) (fun f hn hg hp => ?_)
  · exact len3 hr fun _ _ _ => rfl
  walk_at "ww"
  refine MeP.own rfl (m622_write_var hB) (.inl S.h) S.hd rfl ?_
  walk_at "ww"
  refine MeP.own rfl (m622_place hB) (.inl S.h) S.hd rfl ?_
  walk_at "ww"
  refine CW.of (c_place (n := n) (m := m) hB S ?_) (by first | exact la rfl | exact Nat.le_add_right _ _ | omega)
  walk_at "ww"
  exact CW.of (c_write_var (n := n) (m := m) hB S q) (by first | exact la rfl | exact Nat.le_add_right _ _ | omega)
theorem c_has (S : Sees H A s) (q : Q (.bool (s.v m).live) H) : CallP B (n + 1) (.ref 527) [.ref A.h, .str m.str] H Q X := by
  refine c_def hB ["self", "name"] [] (by k_is) (by k_is) (by k_is) rfl (fn_ok .nil rfl) rfl (by dsimp only [mkLoc, List.map]) (fun rs hr => ?_) (fun f hn hg hp => ?_)
  · exact len2 hr fun _ _ => rfl
  walk_at "ww"
  refine AtP.own (g622_vars hB) (.inl S.h) S.hd (by repeat constructor) (by intro i h; cases h) ?_
  walk_at "ww"
  refine InP.dict S.vd (vars_has A m) ?_
  walk_at "ww"
  refine AtP.own (g622_vars hB) (.inl S.h) S.hd (by repeat constructor) (by intro i h; cases h) ?_
  walk_at "ww"
  refine ItP.dict S.vd (vars_has A m) ?_
  walk_at "ww"
  refine AtP.own (g381_kind hB) (.inl (S.v m)) (S.vdct m) (by repeat constructor) (by intro i h; cases h) ?_
  have e : (kindS (s.v m).live != "none") = (s.v m).live := by cases (s.v m).live <;> rfl
  walk_at "ww"
  rw [← e] at q
  exact q
theorem c_drop (S : Sees H A s) (hk : (s.v m).live = true) (q : RetH A H (s.setv m ⟨false, "", (s.v m).writes + 1⟩) Q .none) : CallP B (n + 2) (.ref 569) [.ref A.h, .str m.str] H Q X := by
  refine c_def hB ["self", "name"] [("no_variable", .ref 477), ("put_value", .ref 491)] (by k_is) (by k_is) (by k_is) rfl (fn_ok (.fn hB (by k_is) rfl (.fn hB (by k_is) rfl .nil)) rfl) rfl (by dsimp only [mkLoc, List.map]) (fun rs hr => ?_) (fun f hn hg hp => ?_)
  · exact len2 hr fun _ _ => rfl
  walk_at "ww"
  refine MeP.own rfl (m622_has hB) (.inl S.h) S.hd rfl ?_
  walk_at "ww"
  refine CW.of (c_has (n := n) (m := m) hB S ?_) (by first | exact la rfl | exact Nat.le_add_right _ _ | omega)
  rw [hk]
  walk_at "ww"
  refine AtP.own (g622_vars hB) (.inl S.h) S.hd (by repeat constructor) (by intro i h; cases h) ?_
  walk_at "ww"
  refine ItP.dict S.vd (vars_has A m) ?_
  walk_at "ww"
  refine CW.of (c_put_value (n := n) (m := m) (b := false) hB S (fun H' S' k' => ?_)) (by first | exact la rfl | exact Nat.le_add_right _ _ | omega)
  exact q H' S' k'
end
noncomputable def vAV (w : VS) : AV := .tup [.str w.kind, .str w.value, .int w.writes]
noncomputable def standsEs (v : Nm → VS) : List (Str × AV) := [("x", vAV (v .x)), ("y", vAV (v .y)), ("z", vAV (v .z))]
noncomputable def standsAV (v : Nm → VS) : AV := .dct (standsEs v)
noncomputable def vAt (v : Nm → VS) (k : Str) : AV := if k = "x" then vAV (v .x) else if k = "y" then vAV (v .y) else vAV (v .z)
theorem vAt_m (v : Nm → VS) (m : Nm) : vAt v m.str = vAV (v m) := by cases m <;> rfl
theorem vAt_all (A : HA) (v : Nm → VS) : (varsEs A).map (fun p => (p.1, vAt v p.1)) = standsEs v := rfl
noncomputable def actS (s : HS) (d : Deed) : HS := match d.act with
  | .no => s
  | .put m => s.setv m ⟨true, d.value, (s.v m).writes + 1⟩
  | .drop m => if (s.v m).live = true then s.setv m ⟨false, "", (s.v m).writes + 1⟩ else s
noncomputable def ecNone : AV := .tup [.str "NONE"]
noncomputable def lvlOf (code : Int) : Int := if code = 2 then 1 else 0
theorem s_cut {B : BC} {f : Fc} {n : Nat} {hd : Option Value} {X : Addr → St → Prop} {ns : List Str} {gl : List (Str × AV)} {ms : List Bool} {k : Nat} {s : Stmt} {r : List Stmt} {σ : St} {N : St → Prop} {K : AFlow → St → Prop} (J : St → Prop)
    (h1 : (∀ σ', J σ' → (wp B f n hd X ns gl ms k).S r σ' N K) → (wp B f n hd X ns gl ms (k + 1)).S (s :: r) σ N K) (h2 : ∀ σ', J σ' → (wp B f n hd X ns gl ms k).S r σ' N K) : (wp B f n hd X ns gl ms (k + 1)).S (s :: r) σ N K := h1 h2
section
variable {W : WP} {b : Bool} {σ : St}
theorem br_cut {ss ss' : List Stmt} {N : St → Prop} {K : AFlow → St → Prop} (J : St → Prop) (h1 : (∀ σ', J σ' → N σ') → br b (W.S ss σ N K) (W.S ss' σ N K)) (h2 : ∀ σ', J σ' → N σ') : br b (W.S ss σ N K) (W.S ss' σ N K) := h1 h2
theorem br_cutE {e e' : Expr} {Q : AV → St → Prop} (v : AV) (h1 : Q v σ → br b (W.E e σ Q) (W.E e' σ Q)) (h2 : Q v σ) : br b (W.E e σ Q) (W.E e' σ Q) := h1 h2
variable {x y : Int} {T E : Prop}
theorem br_ie (t : x = y → T) (e : x ≠ y → E) : br (x == y) T E := br_of (fun h => t (eq_of_beq h)) fun h => e fun q => by rw [q, beq_self_eq_true] at h; cases h
theorem br_in (t : x ≠ y → T) (e : x = y → E) : br (x != y) T E := br_of (fun h => t fun q => by rw [q, bne_self_eq_false] at h; cases h) fun h => e (Classical.byContradiction fun q => by rw [bne_iff_ne.mpr q] at h; cases h)
end
inductive BdJ (A : HA) (H : AH) (d : Deed) (s : HS) : St → Prop
  | mk {H' : AH} : Sees H' A s → Keep A H H' → BdJ A H d s ⟨[some (.ref A.h), some d.av, some (.str d.word), some (.str d.name), some (.int d.code), some (.str d.value)], H'⟩
noncomputable def putS (s : HS) (d : Deed) : HS := match d.act with
  | .put m => s.setv m ⟨true, d.value, (s.v m).writes + 1⟩
  | _ => s
theorem actS_pos {A : HA} {s : HS} {m : Nm} {code : Int} {value : Str} {H : AH} (hv : (s.v m).live = true) (S : Sees H A (s.setv m ⟨false, "", (s.v m).writes + 1⟩)) : Sees H A (actS s ⟨.drop m, code, value⟩) := by
  show Sees H A (ite _ _ _)
  rw [if_pos hv]; exact S
theorem actS_neg {A : HA} {s : HS} {m : Nm} {code : Int} {value : Str} {H : AH} (hv : (s.v m).live = false) (S : Sees H A s) : Sees H A (actS s ⟨.drop m, code, value⟩) := by
  show Sees H A (ite _ _ _)
  rw [if_neg (by rw [hv]; decide)]; exact S
section
variable {B : BC} {n : Nat} (hB : KB B) {H : AH} {A : HA} {s : HS} {Q : AV → AH → Prop} {X : Addr → AH → Prop} {m : Nm}
include hB
theorem ke_v (S : Sees H A s) {f' : Fc} {k : Nat} {p0 p1 p2 p3 p4 q1 q2 q3 q4 r1 r2 r3 r4 : Pos} {kk : Nat} {pp t1 t2 : Pos} (hn : f'.names = (["name"] : List Str)) (hg : f'.gl = ([("host", AV.ref A.h)] : List (Str × AV))) (hk : f'.env.kindOf "name" = some .local) (m : Nm) :
    KE B f' k (.Tuple [.Attribute (.Subscript (.Attribute (.Name "host" p1) "vars" p2) (.Name "name" p3) p4) "kind" p0, .Attribute (.Subscript (.Attribute (.Name "host" q1) "vars" q2) (.Name "name" q3) q4) "value" r4, .Attribute (.Subscript (.Attribute (.Name "host" r1) "vars" r2) (.Name "name" r3) t1) "writes" t2] kk pp) ⟨[some (.str m.str)], H⟩ (vAV (s.v m)) := by
  have hd : ∀ {p1 p2 p3 p4 : Pos}, PV B f' k (.Subscript (.Attribute (.Name "host" p1) "vars" p2) (.Name "name" p3) p4) ⟨[some (.str m.str)], H⟩ (.ref (A.v m)) := fun {p1 p2 p3 p4} =>
    pv_item (pv_attr (pv_glob (by rw [hg]; exact .z)) rfl (g622_vars hB) (.inl S.h) S.hd (by repeat constructor) (by intro i h; cases h)) (pv_name hn .z hk) S.vd (vars_has A m)
  refine ke_tuple (pvs_cons (pv_attr hd rfl (g381_kind hB) (.inl (S.v m)) (S.vdct m) (by repeat constructor) (by intro i h; cases h)) (pvs_cons (pv_attr hd rfl (g381_value hB) (.inl (S.v m)) (S.vdct m) (by repeat constructor) (by intro i h; cases h))
    (pvs_cons (pv_attr hd rfl (g381_writes hB) (.inl (S.v m)) (S.vdct m) (by repeat constructor) (by intro i h; cases h)) pvs_nil rfl) rfl) rfl) rfl
theorem c_law_stands (S : Sees H A s) (q : Q (standsAV s.v) H) : CallP B (n + 1) (.ref 678) [.ref A.h] H Q X := by
  refine c_defc hB ["host"] ["host"] [] (by k_is) (by k_is) (by k_is) rfl (fn_okc .nil rfl) rfl (by dsimp only [mkLoc, List.map]) (fun rs hr => ?_) (fun f hn hg cf => ?_)
  · exact len1 hr fun _ => rfl
  walk_at "ww"
  refine ⟨?_⟩
  refine r_dc (g2 := []) (y := "host") cf (sc_of (by intro p m; cases m) (by rfl)) (.head _) (by rw [hn]; exact .head _) (pre := [(".0", .local), ("name", .local)]) (by decide) (by rfl) (fun _ => by rfl) ?_
  refine (snd hn hg 60).E ?_
  walk_at "ww"
  refine AtP.own (g622_vars hB) (.inl S.h) S.hd (by repeat constructor) (by intro i h; cases h) ?_
  refine ⟨A.vd, varsEs A, .ref A.h, vAt s.v, rfl, S.vd, by rfl, by rw [hn]; exact .z, fun f' a b c k hk => ?_, ?_⟩
  · simp only [List.map_cons, List.map_nil, List.mem_cons, List.not_mem_nil, or_false] at hk
    rcases hk with rfl | rfl | rfl
    · have e := vAt_m s.v .x
      exact e ▸ ke_v hB S a b c .x
    · have e := vAt_m s.v .y
      exact e ▸ ke_v hB S a b c .y
    · have e := vAt_m s.v .z
      exact e ▸ ke_v hB S a b c .z
  · rw [vAt_all]
    exact q
theorem c_law_expr {t : Int} (S : Sees H A s) (ht : s.turn = some t) (hr : s.rows.length ≤ 1000) (q : Q (.str (if t < s.rows.length then "1" else "0")) H) : CallP B (n + 1) (.ref 699) [.ref A.h, .str "more"] H Q X := by
  have ht' : GHas (toolsEs A s) "turn" (.int t) := by unfold toolsEs; rw [ht]; repeat constructor
  refine c_def hB ["host", "text"] [("len", .blt "len")] (by k_is) (by k_is) (by k_is) rfl (fn_ok (.blt hB (by k_is) rfl rfl .nil) rfl) rfl (by dsimp only [mkLoc, List.map]) (fun rs hr => ?_) (fun f hn hg hp => ?_)
  · exact len2 hr fun _ _ => rfl
  walk_at "ww"
  refine AtP.own (g622_tools hB) (.inl S.h) S.hd (by repeat constructor) (by intro i h; cases h) ?_
  walk_at "ww"
  refine ItP.dict S.td ht' ?_
  walk_at "ww"
  refine AtP.own (g622_tools hB) (.inl S.h) S.hd (by repeat constructor) (by intro i h; cases h) ?_
  walk_at "ww"
  refine ItP.dict S.td (by repeat constructor) ?_
  walk_at "ww"
  refine BlP.len_l (by rw [List.length_map]; omega) ?_
  rw [List.length_map]
  walk_at "ww"
  conv => whnf
  refine br_of (fun hb => ?_) (fun hb => ?_)
  · rw [if_pos (of_decide_eq_true hb)] at q; exact q
  · rw [if_neg (of_decide_eq_false hb)] at q; exact q
omit hB in
theorem thr_put {H₁ : AH} {s' : HS} {code l0 l1 : Int} {v ec : AV} (S : Sees H₁ A s') (k : Keep A H H₁) (x : ThrR A H s' code v ec l1 X) {a d ex : Addr} (ha : H₁ a = none) (hd : (H₁.put a (some (.exc 84 none false))) d = none) (hex : (H₁.put a (some (.exc 84 none false))) ex = none) (hda : d ≠ a) (hea : ex ≠ a) (hed : ex ≠ d) (hl : l1 = l0) :
    X a (((((H₁.put a (some (.exc 84 none false))).put a (some (.exc 84 (some d) false))).put ex (some (.list []))).put d (some (.ns (rfs code v ec l0 0 ex)))).put a (some (.exc 84 (some d) true))) := by
  subst hl
  have hd' : H₁ d = none := (put_off hda).symm.trans hd
  have hex' : H₁ ex = none := (put_off hea).symm.trans hex
  have e : ((((H₁.put a (some (.exc 84 none false))).put a (some (.exc 84 (some d) false))).put ex (some (.list []))).put d (some (.ns (rfs code v ec l1 0 ex)))).put a (some (.exc 84 (some d) true)) = ((H₁.put ex (some (.list []))).put d (some (.ns (rfs code v ec l1 0 ex)))).put a (some (.exc 84 (some d) true)) := by
    rw [AH.put_twice]
    funext b
    unfold AH.put
    by_cases h1 : b = a
    · simp [h1]
    · simp [h1]
  have hd2 : (H₁.put ex (some (.list []))) d = none := (put_off hed.symm).trans hd'
  have ha2 : ((H₁.put ex (some (.list []))).put d (some (.ns (rfs code v ec l1 0 ex)))) a = none := (put_off hda.symm).trans ((put_off hea.symm).trans ha)
  rw [e]
  refine x _ a d ex (((S.fresh hex').fresh hd2).fresh ha2) (k.trans ((Keep.fresh hex').trans ((Keep.fresh hd2).trans (Keep.fresh ha2)))) HG.here (HG.ne hda HG.here) (S.off ha) (S.off hd')
theorem c_law_body {d : Deed} (S : Sees H A s) (q : d.code = 0 → RetH A H (actS s d) Q (.str d.value)) (x : d.code ≠ 0 → ThrR A H (actS s d) d.code (.str d.value) ecNone (lvlOf d.code) X) : CallP B (n + 4) (.ref 692) [.ref A.h, d.av] H Q X := by
  refine c_def hB ["host", "row", "deed", "name", "code", "value"] [("Raised", .ref 84)] (by k_is) (by k_is) (by k_is) rfl (fn_ok (.fn hB (by k_is) rfl .nil) rfl) rfl (by dsimp only [mkLoc, List.map]) (fun rs hr => ?_) (fun f hn hg hp => ?_)
  · exact len2 hr fun _ _ => rfl
  walk_at "ww"
  conv => whnf
  refine br_cut (BdJ A H d (putS s d)) (fun cut => ?_) ?_
  · obtain ⟨act, code, value⟩ := d
    cases act with
    | no =>
      walk_at "ww"
      have h := cut _ (BdJ.mk S .refl)
      conv at h => whnf
      exact h
    | drop m =>
      walk_at "ww"
      have h := cut _ (BdJ.mk S .refl)
      conv at h => whnf
      exact h
    | put m =>
      walk_at "ww"
      refine MeP.own rfl (m622_write hB) (.inl S.h) S.hd rfl ?_
      walk_at "ww"
      refine CW.of (c_write (n := n) (m := m) hB S fun H' S' k' => ?_) (by first | exact la rfl | exact Nat.le_add_right _ _ | omega)
      walk_at "ww"
      have h := cut _ (BdJ.mk S' k')
      conv at h => whnf
      exact h
  rintro σ ⟨S1, k1⟩
  refine s_cut (BdJ A H d (actS s d)) (fun cut => ?_) ?_
  · obtain ⟨act, code, value⟩ := d
    cases act with
    | no =>
      walk_at "ww"
      have h := cut _ (BdJ.mk S1 k1)
      conv at h => whnf
      exact h
    | put m =>
      walk_at "ww"
      have h := cut _ (BdJ.mk S1 k1)
      conv at h => whnf
      exact h
    | drop m =>
      have S1 : Sees _ A s := S1
      walk_at "ww"
      refine MeP.own rfl (m622_has hB) (.inl S1.h) S1.hd rfl ?_
      walk_at "ww"
      refine CW.of (c_has (n := n) (m := m) hB S1 ?_) (by first | exact la rfl | exact Nat.le_add_right _ _ | omega)
      cases hv : (s.v m).live with
      | false =>
        walk_at "ww"
        have h := cut _ (BdJ.mk (actS_neg hv S1) k1)
        conv at h => whnf
        exact h
      | true =>
        walk_at "ww"
        refine MeP.own rfl (m622_drop hB) (.inl S1.h) S1.hd rfl ?_
        walk_at "ww"
        refine CW.of (c_drop (n := n) (m := m) hB S1 hv fun H' S' k' => ?_) (by first | exact la rfl | exact Nat.le_add_right _ _ | omega)
        walk_at "ww"
        have h := cut _ (BdJ.mk (actS_pos hv S') (k1.trans k'))
        conv at h => whnf
        exact h
  rintro σ ⟨S2, k2⟩
  walk_at "ww"
  conv => whnf
  refine br_in (fun hc => ?_) fun hc => ?_
  · walk_at "ww"
    conv => whnf
    refine br_cutE (.int (lvlOf d.code)) (fun h => ?_) ?_
    · exact br_ie (fun e => (if_pos e : lvlOf d.code = 1) ▸ h) fun e => (if_neg e : lvlOf d.code = 0) ▸ h
    walk_at "ww"
    refine ⟨rfl, fun a ha => ?_⟩
    refine c_raised5 (n := n + 1) hB HG.here (fun d ex hd hex hda hea hed => ⟨rfl, ?_⟩)
    walk_at "ww"
    refine RaP.mk (HG.ne hda.symm (HG.ne hea.symm HG.here)) (xc84 hB) (.inl rfl) ?_
    exact thr_put S2 k2 (x hc) ha hd hex hda hea hed rfl
  · walk_at "ww"
    exact q hc _ S2 k2
end
section
variable {ns : List Str} {W : WP} {tgt : Expr} {body : List Stmt} {N : St → Prop} {K : AFlow → St → Prop}
noncomputable def Turn (ns : List Str) (W : WP) (tgt : Expr) (body : List Stmt) (N : St → Prop) (K : AFlow → St → Prop) (J : St → Prop) (x : AV) (σ : St) : Prop :=
  ∀ rest, (∀ σ', J σ' → WFor ns W tgt body N K rest σ') → wTgt ns tgt x (fun σ₁ => W.S body σ₁ (WFor ns W tgt body N K rest) (lk (WFor ns W tgt body N K rest) N K)) σ
theorem WFor.map {α : Type} {g : α → AV} (I : List α → St → Prop) (h0 : ∀ σ, I [] σ → N σ) (h1 : ∀ d ds σ, I (d :: ds) σ → Turn ns W tgt body N K (I ds) (g d) σ) (ds : List α) : ∀ σ, I ds σ → WFor ns W tgt body N K (ds.map g) σ := by
  induction ds with
  | nil => exact h0
  | cons d ds ih => exact fun σ h => h1 d ds σ h (ds.map g) ih
theorem WFor.map2 {α β : Type} {g : α → β} {g' : β → AV} (I : List α → St → Prop) (h0 : ∀ σ, I [] σ → N σ) (h1 : ∀ d ds σ, I (d :: ds) σ → Turn ns W tgt body N K (I ds) (g' (g d)) σ) (ds : List α) (σ : St) (h : I ds σ) : WFor ns W tgt body N K ((ds.map g).map g') σ := by
  rw [List.map_map]; exact WFor.map I h0 h1 ds σ h
theorem WFor.nth {xs : List AV} (I : Nat → St → Prop) (h0 : ∀ σ, I xs.length σ → N σ) (h1 : ∀ t x σ, xs[t]? = some x → I t σ → Turn ns W tgt body N K (I (t + 1)) x σ) (σ : St) (h : I 0 σ) : WFor ns W tgt body N K xs σ := by
  have key : ∀ ys t, t ≤ xs.length → xs.drop t = ys → ∀ σ, I t σ → WFor ns W tgt body N K ys σ := fun ys => by
    induction ys with
    | nil => intro t ht e σ h; rw [Nat.le_antisymm ht (List.drop_eq_nil_iff.mp e)] at h; exact h0 σ h
    | cons y ys ih =>
      intro t ht e σ h
      have hx : xs[t]? = some y := by rw [← List.head?_drop, e]; rfl
      exact h1 t y σ hx h ys (ih (t + 1) (List.getElem?_eq_some_iff.mp hx).1 (by rw [← List.drop_drop, e]; rfl))
  exact key xs 0 (Nat.zero_le _) rfl σ h
theorem WFor.range {n : Nat} {f : Nat → AV} (I : Nat → St → Prop) (h0 : ∀ σ, I n σ → N σ) (h1 : ∀ t σ, t < n → I t σ → Turn ns W tgt body N K (I (t + 1)) (f t) σ) (σ : St) (h : I 0 σ) : WFor ns W tgt body N K ((List.range n).map f) σ :=
  WFor.nth I (fun σ h => h0 σ (by rwa [List.length_map, List.length_range] at h)) (fun t x σ e h => by
    rw [List.getElem?_map] at e
    obtain ⟨y, hy, e⟩ := Option.map_eq_some_iff.mp e
    obtain ⟨ht, hy⟩ := List.getElem?_eq_some_iff.mp hy
    rw [List.getElem_range] at hy
    rw [List.length_range] at ht
    subst hy; subst e
    exact h1 t σ ht h) σ h
theorem WFor.enum {α : Type} {g : α → AV} {l : List α} {F : Nat → AV → AV} (I : Nat → St → Prop) (h0 : ∀ σ, I l.length σ → N σ) (h1 : ∀ t σ (ht : t < l.length), I t σ → Turn ns W tgt body N K (I (t + 1)) (F t (g l[t])) σ) (σ : St) (h : I 0 σ) : WFor ns W tgt body N K ((l.map g).mapIdx F) σ :=
  WFor.nth I (fun σ h => h0 σ (by rwa [List.length_mapIdx, List.length_map] at h)) (fun t x σ e h => by
    rw [List.getElem?_mapIdx, List.getElem?_map] at e
    obtain ⟨y, hy, e⟩ := Option.map_eq_some_iff.mp e
    obtain ⟨z, hz, e'⟩ := Option.map_eq_some_iff.mp hy
    obtain ⟨ht, hz⟩ := List.getElem?_eq_some_iff.mp hz
    subst e; subst e'; subst hz
    exact h1 t σ ht h) σ h
end
inductive Out where
  | ret (v : AV) | thr (code : Int) (v : AV) (level : Int)
noncomputable def OutH (A : HA) (H : AH) (s : HS) (Q : AV → AH → Prop) (X : Addr → AH → Prop) : Out → Prop
  | .ret v => RetH A H s Q v
  | .thr c v l => ThrR A H s c v ecNone l X
noncomputable def outD (d : Deed) : Out := if d.code = 0 then .ret (.str d.value) else .thr d.code (.str d.value) (lvlOf d.code)
noncomputable def HS.logged (s : HS) : HS := { s with log := s.log ++ [standsAV s.v] }
noncomputable def bodyS (s : HS) (d : Deed) : HS := actS s.logged d
noncomputable def HS.deeper (s : HS) : HS := { s with depth := s.depth + 1 }
noncomputable def keepS (s : HS) (d : Deed) : HS := if d.code = 0 then { bodyS s d with kept := (bodyS s d).kept ++ [.str d.value] } else bodyS s d
noncomputable def writesS (s : HS) (row : Row) : HS := row.foldl (fun s p => s.setv p.1 ⟨true, p.2, (s.v p.1).writes + 1⟩) s
theorem actS_log (s : HS) (d : Deed) : (actS s d).log = s.log ∧ (actS s d).depth = s.depth ∧ (actS s d).deeds = s.deeds ∧ (actS s d).rows = s.rows ∧ (actS s d).turn = s.turn ∧ (actS s d).kept = s.kept ∧ (actS s d).spent = s.spent ∧ (actS s d).fuel = s.fuel := by
  have e : actS s d = s ∨ ∃ m w, actS s d = s.setv m w := by
    obtain ⟨act, _⟩ := d
    cases act with
    | no => exact .inl rfl
    | put m => exact .inr ⟨_, _, rfl⟩
    | drop m => exact if h : (s.v m).live = true then .inr ⟨m, _, if_pos h⟩ else .inl (if_neg h)
  obtain e | ⟨m, w, e⟩ := e <;> rw [e] <;> exact ⟨rfl, rfl, rfl, rfl, rfl, rfl, rfl, rfl⟩
theorem OutH.keep {A : HA} {H H' : AH} {s : HS} {Q : AV → AH → Prop} {X : Addr → AH → Prop} {o : Out} (h : OutH A H s Q X o) (k : Keep A H H') : OutH A H' s Q X o := by
  cases o with
  | ret v => exact RetH.keep h k
  | thr c v l => exact ThrR.keep h k
theorem outD_out {A : HA} {H : AH} {s : HS} {Q : AV → AH → Prop} {X : Addr → AH → Prop} {d : Deed} (h : OutH A H s Q X (outD d)) : (d.code = 0 → RetH A H s Q (.str d.value)) ∧ (d.code ≠ 0 → ThrR A H s d.code (.str d.value) ecNone (lvlOf d.code) X) := by
  unfold outD at h
  constructor
  · intro e; rw [if_pos e] at h; exact h
  · intro e; rw [if_neg e] at h; exact h
section
variable {B : BC} {n : Nat} (hB : KB B) {H : AH} {A : HA} {s : HS} {Q : AV → AH → Prop} {X : Addr → AH → Prop} {m : Nm}
include hB
theorem c_lr_start (S : Sees H A s) (ht : s.turn = none) (q : RetH A H { s with turn := some 0 } Q (.str "")) : CallP B (n + 1) (.ref 685) [.ref A.h, .str "start"] H Q X := by
  refine c_def hB ["host", "script", "tools", "name", "value"] [("_law_stands", .ref 678), ("_law_body", .ref 692), ("len", .blt "len")] (by k_is) (by k_is) (by k_is) rfl (fn_ok (.fn hB (by k_is) rfl (.fn hB (by k_is) rfl (.blt hB (by k_is) rfl rfl .nil))) rfl) rfl (by dsimp only [mkLoc, List.map]) (fun rs hr => ?_) (fun f hn hg hp => ?_)
  · exact len2 hr fun _ _ => rfl
  walk_at "ww"
  refine AtP.own (g622_tools hB) (.inl S.h) S.hd (by repeat constructor) (by intro i h; cases h) ?_
  walk_at "ww"
  have S' := S.setTurn (some 0)
  have std := S.td
  unfold toolsEs at std
  rw [ht] at std
  refine SsP.new std rfl rfl ?_
  walk_at "ww"
  exact q _ S' (Keep.put (by simp [HA.cells]))
theorem c_lr_next {t : Int} (S : Sees H A s) (ht : s.turn = some t) (q : RetH A H { s with turn := some (t + 1) } Q (.str "")) : CallP B (n + 1) (.ref 685) [.ref A.h, .str "next"] H Q X := by
  refine c_def hB ["host", "script", "tools", "name", "value"] [("_law_stands", .ref 678), ("_law_body", .ref 692), ("len", .blt "len")] (by k_is) (by k_is) (by k_is) rfl (fn_ok (.fn hB (by k_is) rfl (.fn hB (by k_is) rfl (.blt hB (by k_is) rfl rfl .nil))) rfl) rfl (by dsimp only [mkLoc, List.map]) (fun rs hr => ?_) (fun f hn hg hp => ?_)
  · exact len2 hr fun _ _ => rfl
  walk_at "ww"
  refine AtP.own (g622_tools hB) (.inl S.h) S.hd (by repeat constructor) (by intro i h; cases h) ?_
  walk_at "ww"
  have S' := S.setTurn (some (t + 1))
  have std := S.td
  unfold toolsEs at std
  rw [ht] at std
  refine ⟨r_aug_sub ((snd hn hg 60).E ?_) fun _ _ _ => rfl⟩
  walk_at "ww"
  refine (snd hn hg 60).E ?_
  walk_at "ww"
  refine o_get_d std (by repeat constructor) ?_
  refine (snd hn hg 60).E ?_
  walk_at "ww"
  refine o_iadd ?_
  refine o_set_d std (by repeat constructor) ?_
  walk_at "ww"
  exact q _ S' (Keep.put (by simp [HA.cells]))
theorem c_lr_body {d : Deed} (S : Sees H A s) (hd : s.deeds[s.log.length]? = some d) (hl : s.log.length ≤ 1000) (q : OutH A H (bodyS s d) Q X (outD d)) : CallP B (n + 5) (.ref 685) [.ref A.h, .str "body"] H Q X := by
  refine c_def hB ["host", "script", "tools", "name", "value"] [("_law_stands", .ref 678), ("_law_body", .ref 692), ("len", .blt "len")] (by k_is) (by k_is) (by k_is) rfl (fn_ok (.fn hB (by k_is) rfl (.fn hB (by k_is) rfl (.blt hB (by k_is) rfl rfl .nil))) rfl) rfl (by dsimp only [mkLoc, List.map]) (fun rs hr => ?_) (fun f hn hg hp => ?_)
  · exact len2 hr fun _ _ => rfl
  walk_at "ww"
  refine AtP.own (g622_tools hB) (.inl S.h) S.hd (by repeat constructor) (by intro i h; cases h) ?_
  walk_at "ww"
  refine ItP.dict S.td (by repeat constructor) ?_
  walk_at "ww"
  refine MeP.append S.lg ?_
  walk_at "ww"
  refine CW.of (c_law_stands (n := n) hB S ?_) (by first | exact la rfl | exact Nat.le_add_right _ _ | omega)
  walk_at "ww"
  refine ApP.mk S.lg (le_line1 hl) ?_
  have S' : Sees (H.put A.lg (some (.list (s.log ++ [standsAV s.v])))) A s.logged := S.setLog _
  have k' : Keep A H (H.put A.lg (some (.list (s.log ++ [standsAV s.v])))) := Keep.put (by simp [HA.cells])
  walk_at "ww"
  refine ItP.dict S'.td (by repeat constructor) ?_
  walk_at "ww"
  refine ItP.dict S'.td (by repeat constructor) ?_
  walk_at "ww"
  refine BlP.len_m S'.lg (by show (s.log ++ [standsAV s.v]).length < _; rw [List.length_append]; simp; omega) ?_
  walk_at "ww"
  have hlen : ((s.logged.log.length : Nat) : Int) - 1 = (s.log.length : Nat) := by show (((s.log ++ [standsAV s.v]).length : Nat) : Int) - 1 = _; rw [List.length_append]; simp
  conv => whnf
  rw [hlen]
  refine ItP.lst (v := d.av) (by omega) (by omega) (by show (s.deeds.map Deed.av)[_]? = _; rw [List.getElem?_map, Int.toNat_natCast, hd]; rfl) ?_
  walk_at "ww"
  have q' := outD_out (OutH.keep q k')
  refine CW.of (c_law_body (n := n) hB S' (fun e => ?_) (fun e => ?_)) (by first | exact la rfl | exact Nat.le_add_right _ _ | omega)
  · exact q'.1 e
  · exact q'.2 e
theorem c_run {script : Str} {k : Nat} {s1 : HS} {o : Out} (S : Sees H A s) (hd : s.depth < 40) (hn1 : s1.depth = s.depth + 1) (h : ∀ H1 (Q1 : AV → AH → Prop) (X1 : Addr → AH → Prop), Sees H1 A s.deeper → Keep A H H1 → OutH A H1 s1 Q1 X1 o → CallP B k (.ref 685) [.ref A.h, .str script] H1 Q1 X1) (hk : 1 ≤ k)
    (q : OutH A H { s1 with depth := s.depth } Q X o) : CallP B (k + 1) (.ref 428) [.ref A.h, .str script] H Q X := by
  obtain ⟨k, rfl⟩ : ∃ k', k = k' + 1 := ⟨k - 1, by omega⟩
  refine c_def hB ["self", "script", "runner"] [("error", .ref 139)] (by k_is) (by k_is) (by k_is) rfl (fn_ok (.fn hB (by k_is) rfl .nil) rfl) rfl (by dsimp only [mkLoc, List.map]) (fun rs hr => ?_) (fun f hn hg hp => ?_)
  · exact len2 hr fun _ _ => rfl
  walk_at "ww"
  refine AtP.own (g622_depth hB) (.inl S.h) S.hd (by repeat constructor) (by intro i h; cases h) ?_
  walk_at "ww"
  refine AtP.own (g622_limit hB) (.inl S.h) S.hd (by repeat constructor) (by intro i h; cases h) ?_
  walk_at "ww"
  conv => whnf
  refine br_f (decide_eq_false (by omega)) ?_
  walk_at "ww"
  refine MeP.own rfl (m622_tool hB) (.inl S.h) S.hd rfl ?_
  walk_at "ww"
  refine CW.of (c_tool (n := k) hB S (by repeat constructor) ?_) (by first | exact la rfl | exact Nat.le_add_right _ _ | omega)
  walk_at "ww"
  refine AtP.own (g622_depth hB) (.inl S.h) S.hd (by repeat constructor) (by intro i h; cases h) ?_
  walk_at "ww"
  refine SaP.put (s622_depth hB) (.inl S.h) S.hd (by repeat constructor) ?_
  have S' : Sees (H.put A.hd (some (.ns (hostEs A s.deeper)))) A s.deeper := S.setHd s.deeper rfl
  have k' : Keep A H (H.put A.hd (some (.ns (hostEs A s.deeper)))) := Keep.put (by simp [HA.cells])
  walk_at "ww"
  refine ⟨r_finally ?_⟩
  refine (snd hn hg 60).S ?_
  walk_at "ww"
  refine CaP.raw (call_loc hn hg (by repeat constructor) (kp_of hB (by k_is) (by k_is)).1 rfl ?_)
  walk_at "ww"
  refine CW.of (h _ _ _ S' k' ?_) (by first | exact la rfl | exact Nat.le_add_right _ _ | omega)
  have fin : ∀ H', Sees H' A s1 → Sees (H'.put A.hd (some (.ns (hostEs A { s1 with depth := s1.depth - 1 })))) A { s1 with depth := s.depth } := fun H' S1 => by
    have e : s1.depth - 1 = s.depth := by omega
    rw [e]
    exact S1.setHd { s1 with depth := s.depth } rfl
  cases o with
  | ret v =>
    intro H' S1 k1
    refine (snd hn hg 60).S ?_
    walk_at "ww"
    refine AtP.own (g622_depth hB) (.inl S1.h) S1.hd (by repeat constructor) (by intro i h; cases h) ?_
    walk_at "ww"
    refine SaP.put (s622_depth hB) (.inl S1.h) S1.hd (by repeat constructor) ?_
    exact q _ (fin _ S1) ((k'.trans k1).trans (Keep.put (by simp [HA.cells])))
  | thr c v l =>
    intro H' a d ex S1 k1 ha hd' hac hdc
    refine (snd hn hg 60).S ?_
    walk_at "ww"
    refine AtP.own (g622_depth hB) (.inl S1.h) S1.hd (by repeat constructor) (by intro i h; cases h) ?_
    walk_at "ww"
    refine SaP.put (s622_depth hB) (.inl S1.h) S1.hd (by repeat constructor) ?_
    have na : a ≠ A.hd := fun e => hac (by rw [e]; simp [HA.cells])
    have nd : d ≠ A.hd := fun e => hdc (by rw [e]; simp [HA.cells])
    have ha' : ∀ c, (H'.put A.hd c) a = some (.exc 84 (some d) true) := fun c => (put_off na).trans ha
    exact ⟨⟨_, _, ha' _⟩, q _ a d ex (fin _ S1) ((k'.trans k1).trans (Keep.put (by simp [HA.cells]))) (ha' _) ((put_off nd).trans hd') hac hdc⟩
theorem c_host_body {d : Deed} (S : Sees H A s) (hd : s.depth < 40) (hdd : s.deeds[s.log.length]? = some d) (hl : s.log.length ≤ 1000) (q : OutH A H (bodyS s d) Q X (outD d)) : CallP B (n + 6) (.ref 428) [.ref A.h, .str "body"] H Q X := by
  have e : { bodyS s.deeper d with depth := s.depth } = bodyS s d := by
    unfold bodyS actS
    cases d.act with
    | no => rfl
    | put m => rfl
    | drop m =>
      have a1 : (s.deeper.logged.v m).live = (s.v m).live := rfl
      have a2 : (s.logged.v m).live = (s.v m).live := rfl
      by_cases h : (s.v m).live = true
      · dsimp only
        rw [if_pos (a1.trans h), if_pos (a2.trans h)]; rfl
      · dsimp only
        rw [if_neg (by rw [a1]; exact h), if_neg (by rw [a2]; exact h)]; rfl
  exact c_run (k := n + 5) (s1 := bodyS s.deeper d) (o := outD d) hB S hd (actS_log _ _).2.1 (fun H1 Q1 X1 S1 k1 o1 => c_lr_body (n := n) hB S1 hdd hl o1) (by omega) (by rw [e]; exact q)
end
theorem keepS_eq (s : HS) (d : Deed) : (keepS s d).depth = s.depth := by
  unfold keepS bodyS
  split
  · exact (actS_log _ _).2.1
  · exact (actS_log _ _).2.1
theorem writesS_eq (s : HS) (row : Row) : (writesS s row).log = s.log ∧ (writesS s row).depth = s.depth ∧ (writesS s row).deeds = s.deeds ∧ (writesS s row).rows = s.rows ∧ (writesS s row).turn = s.turn ∧ (writesS s row).kept = s.kept ∧ (writesS s row).spent = s.spent ∧ (writesS s row).fuel = s.fuel := by
  induction row generalizing s with
  | nil => exact ⟨rfl, rfl, rfl, rfl, rfl, rfl, rfl, rfl⟩
  | cons p r ih => exact ih (s.setv p.1 ⟨true, p.2, (s.v p.1).writes + 1⟩)
section
variable {B : BC} {n : Nat} (hB : KB B) {H : AH} {A : HA} {s : HS} {Q : AV → AH → Prop} {X : Addr → AH → Prop} {m : Nm}
include hB
theorem c_lr_keep {d : Deed} (S : Sees H A s) (hd : s.depth < 40) (hdd : s.deeds[s.log.length]? = some d) (hl : s.log.length ≤ 1000) (hkl : s.kept.length ≤ 1000) (q : OutH A H (keepS s d) Q X (outD d)) : CallP B (n + 7) (.ref 685) [.ref A.h, .str "keep"] H Q X := by
  refine c_def hB ["host", "script", "tools", "name", "value"] [("_law_stands", .ref 678), ("_law_body", .ref 692), ("len", .blt "len")] (by k_is) (by k_is) (by k_is) rfl (fn_ok (.fn hB (by k_is) rfl (.fn hB (by k_is) rfl (.blt hB (by k_is) rfl rfl .nil))) rfl) rfl (by dsimp only [mkLoc, List.map]) (fun rs hr => ?_) (fun f hn hg hp => ?_)
  · exact len2 hr fun _ _ => rfl
  walk_at "ww"
  refine AtP.own (g622_tools hB) (.inl S.h) S.hd (by repeat constructor) (by intro i h; cases h) ?_
  walk_at "ww"
  refine MeP.own rfl (m622_run hB) (.inl S.h) S.hd rfl ?_
  walk_at "ww"
  refine CW.of (c_host_body (n := n) (d := d) hB S hd hdd hl ?_) (by first | exact la rfl | exact Nat.le_add_right _ _ | omega)
  unfold outD at q ⊢
  by_cases hc : d.code = 0
  · rw [if_pos hc] at q ⊢
    intro H' S' k'
    have e : keepS s d = { bodyS s d with kept := (bodyS s d).kept ++ [.str d.value] } := if_pos hc
    rw [e] at q
    walk_at "ww"
    refine ItP.dict S'.td (by repeat constructor) ?_
    walk_at "ww"
    refine MeP.append S'.kp ?_
    walk_at "ww"
    have hkb : (bodyS s d).kept = s.kept := (actS_log _ _).2.2.2.2.2.1
    refine ApP.mk S'.kp (by rw [hkb]; exact Nat.le_trans hkl (by decide)) ?_
    walk_at "ww"
    exact q _ (S'.setKept _) (k'.trans (Keep.put (by simp [HA.cells])))
  · rw [if_neg hc] at q ⊢
    have e : keepS s d = bodyS s d := if_neg hc
    rw [e] at q
    exact q
inductive LrI (A : HA) (H : AH) (s : HS) (row row' : Row) : St → Prop
  | mk (s0 : HS) (H0 : AH) (o1 o2 : Option AV) : Sees H0 A s0 → Keep A H H0 → writesS s0 row' = writesS s row → LrI A H s row row' ⟨[some (.ref A.h), some (.str "turn"), some (.ref A.td), o1, o2], H0⟩
theorem c_lr_turn {d : Deed} {t : Nat} {row : Row} (S : Sees H A s) (hd : s.depth < 40) (ht : s.turn = some (t : Int)) (htl : t ≤ 1000) (hr : s.rows[t]? = some row) (hdd : s.deeds[s.log.length]? = some d) (hl : s.log.length ≤ 1000) (hkl : s.kept.length ≤ 1000) (q : OutH A H (keepS (writesS s row) d) Q X (outD d)) : CallP B (n + 7) (.ref 685) [.ref A.h, .str "turn"] H Q X := by
  have ht' : GHas (toolsEs A s) "turn" (.int t) := by unfold toolsEs; rw [ht]; repeat constructor
  refine c_def hB ["host", "script", "tools", "name", "value"] [("_law_stands", .ref 678), ("_law_body", .ref 692), ("len", .blt "len")] (by k_is) (by k_is) (by k_is) rfl (fn_ok (.fn hB (by k_is) rfl (.fn hB (by k_is) rfl (.blt hB (by k_is) rfl rfl .nil))) rfl) rfl (by dsimp only [mkLoc, List.map]) (fun rs hr => ?_) (fun f hn hg hp => ?_)
  · exact len2 hr fun _ _ => rfl
  walk_at "ww"
  refine AtP.own (g622_tools hB) (.inl S.h) S.hd (by repeat constructor) (by intro i h; cases h) ?_
  walk_at "ww"
  refine ItP.dict S.td (by repeat constructor) ?_
  walk_at "ww"
  refine ItP.dict S.td ht' ?_
  walk_at "ww"
  refine ItP.lst (v := rowAV row) (Int.natCast_nonneg _) (nat63 htl) (by rw [List.getElem?_map, Int.toNat_natCast, hr]; rfl) ?_
  walk_at "ww"
  refine WFor.map (LrI A H s row) ?_ ?_ row _ (.mk s H none none S Keep.refl rfl)
  · rintro σ ⟨s0, H0, o1, o2, S0, k0, w⟩
    have w : s0 = writesS s row := w
    subst w
    have W := writesS_eq s row
    walk_at "ww"
    refine MeP.own rfl (m622_run hB) (.inl S0.h) S0.hd rfl ?_
    walk_at "ww"
    refine CW.of (c_host_body (n := n) (d := d) hB S0 (by rw [W.2.1]; exact hd) (by rw [W.2.2.1, W.1]; exact hdd) (by rw [W.1]; exact hl) ?_) (by first | exact la rfl | exact Nat.le_add_right _ _ | omega)
    have q := OutH.keep q k0
    unfold outD at q ⊢
    by_cases hc : d.code = 0
    · rw [if_pos hc] at q ⊢
      intro H' S' k'
      have e : keepS (writesS s row) d = { bodyS (writesS s row) d with kept := (bodyS (writesS s row) d).kept ++ [.str d.value] } := if_pos hc
      rw [e] at q
      walk_at "ww"
      refine ItP.dict S'.td (by repeat constructor) ?_
      walk_at "ww"
      refine MeP.append S'.kp ?_
      walk_at "ww"
      have hkb : (bodyS (writesS s row) d).kept = s.kept := ((actS_log _ _).2.2.2.2.2.1).trans W.2.2.2.2.2.1
      refine ApP.mk S'.kp (by rw [hkb]; exact Nat.le_trans hkl (by decide)) ?_
      walk_at "ww"
      exact q _ (S'.setKept _) (k'.trans (Keep.put (by simp [HA.cells])))
    · rw [if_neg hc] at q ⊢
      have e : keepS (writesS s row) d = bodyS (writesS s row) d := if_neg hc
      rw [e] at q
      exact q
  · rintro p row'' σ ⟨s0, H0, o1, o2, S0, k0, w⟩ rest ih
    walk_at "ww"
    refine MeP.own rfl (m622_write hB) (.inl S0.h) S0.hd rfl ?_
    walk_at "ww"
    refine CW.of (c_write (n := n) (m := p.1) hB S0 (fun H' S' k' => ?_)) (by first | exact la rfl | exact Nat.le_add_right _ _ | omega)
    walk_at "ww"
    exact ih _ (.mk _ H' _ _ S' (k0.trans k') w)
end
theorem un_deeper {x : HS} {k : Int} (h : x.depth = k) : { x.deeper with depth := k } = x := by subst h; rfl
theorem actS_deeper (s : HS) (d : Deed) : actS s.deeper d = (actS s d).deeper := by
  unfold actS
  cases d.act with
  | no => rfl
  | put m => rfl
  | drop m =>
    dsimp only
    have a1 : (s.deeper.v m).live = (s.v m).live := rfl
    by_cases h : (s.v m).live = true
    · rw [if_pos (a1.trans h), if_pos h]; rfl
    · rw [if_neg (by rw [a1]; exact h), if_neg h]
theorem keepS_deeper (s : HS) (d : Deed) : keepS s.deeper d = (keepS s d).deeper := by
  have e : bodyS s.deeper d = (bodyS s d).deeper := actS_deeper s.logged d
  unfold keepS
  rw [e]
  split <;> rfl
theorem writesS_deeper (s : HS) (row : Row) : writesS s.deeper row = (writesS s row).deeper := by
  induction row generalizing s with
  | nil => rfl
  | cons p r ih => exact ih (s.setv p.1 ⟨true, p.2, (s.v p.1).writes + 1⟩)
noncomputable def BodyOut (A : HA) (H : AH) (s : HS) (Q : AV → AH → Prop) (X : Addr → AH → Prop) : Out → Prop
  | .ret v => RetH A H s Q (.tup [.int 0, v])
  | .thr c v l => if c = 3 ∨ c = 4 then RetH A H s Q (.tup [.int c, .str ""]) else ThrR A H s c v ecNone l X
noncomputable def RunSp (B : BC) (n : Nat) (A : HA) (w : Str) (s s1 : HS) (o : Out) : Prop := ∀ (H : AH) (Q : AV → AH → Prop) (X : Addr → AH → Prop), Sees H A s → OutH A H s1 Q X o → CallP B n (.ref 428) [.ref A.h, .str w] H Q X
section
variable {B : BC} {n : Nat} (hB : KB B) {H : AH} {A : HA} {s s1 : HS} {Q : AV → AH → Prop} {X : Addr → AH → Prop} {m : Nm}
include hB
theorem sp_body {d : Deed} (hd : s.depth < 40) (hdd : s.deeds[s.log.length]? = some d) (hl : s.log.length ≤ 1000) : RunSp B (n + 6) A "body" s (bodyS s d) (outD d) := fun H Q X S q => c_host_body (n := n) hB S hd hdd hl q
theorem sp_keep {d : Deed} (hd : s.depth < 39) (hdd : s.deeds[s.log.length]? = some d) (hl : s.log.length ≤ 1000) (hkl : s.kept.length ≤ 1000) : RunSp B (n + 8) A "keep" s (keepS s d) (outD d) := fun H Q X S q =>
  c_run (k := n + 7) (s1 := keepS s.deeper d) (o := outD d) hB S (by omega) (keepS_eq _ _) (fun H1 Q1 X1 S1 k1 o1 => c_lr_keep (n := n) hB S1 (by show s.depth + 1 < 40; omega) hdd hl hkl o1) (by omega) (by rw [keepS_deeper, un_deeper (keepS_eq s d)]; exact q)
theorem sp_turn {d : Deed} {t : Nat} {row : Row} (hd : s.depth < 39) (ht : s.turn = some (t : Int)) (htl : t ≤ 1000) (hr : s.rows[t]? = some row) (hdd : s.deeds[s.log.length]? = some d) (hl : s.log.length ≤ 1000) (hkl : s.kept.length ≤ 1000) : RunSp B (n + 8) A "turn" s (keepS (writesS s row) d) (outD d) := fun H Q X S q =>
  c_run (k := n + 7) (s1 := keepS (writesS s.deeper row) d) (o := outD d) hB S (by omega) ((keepS_eq _ _).trans (writesS_eq _ _).2.1) (fun H1 Q1 X1 S1 k1 o1 => c_lr_turn (n := n) hB S1 (by show s.depth + 1 < 40; omega) ht htl hr hdd hl hkl o1) (by omega)
    (by rw [writesS_deeper, keepS_deeper, un_deeper ((keepS_eq _ d).trans (writesS_eq s row).2.1)]; exact q)
theorem sp_start (hd : s.depth < 40) (ht : s.turn = none) : RunSp B (n + 2) A "start" s { s with turn := some 0 } (.ret (.str "")) := fun H Q X S q =>
  c_run (k := n + 1) (s1 := { s.deeper with turn := some 0 }) (o := .ret (.str "")) hB S hd rfl (fun H1 Q1 X1 S1 k1 o1 => c_lr_start (n := n) hB S1 ht o1) (by omega) q
theorem sp_next {t : Int} (hd : s.depth < 40) (ht : s.turn = some t) : RunSp B (n + 2) A "next" s { s with turn := some (t + 1) } (.ret (.str "")) := fun H Q X S q =>
  c_run (k := n + 1) (s1 := { s.deeper with turn := some (t + 1) }) (o := .ret (.str "")) hB S hd rfl (fun H1 Q1 X1 S1 k1 o1 => c_lr_next (n := n) hB S1 ht o1) (by omega) q
theorem c_run_body {w : Str} {o : Out} (S : Sees H A s) (sp : RunSp B n A w s s1 o) (q : BodyOut A H s1 Q X o) : CallP B (n + 1) (.ref 329) [.ref A.h, .str w] H Q X := by
  refine c_def hB ["host", "body", "raised"] [("Raised", .ref 84)] (by k_is) (by k_is) (by k_is) rfl (fn_ok (.fn hB (by k_is) rfl .nil) rfl) rfl (by dsimp only [mkLoc, List.map]) (fun rs hr => ?_) (fun f hn hg hp => ?_)
  · exact len2 hr fun _ _ => rfl
  walk_at "ww"
  refine ⟨r_try hp hn ?_⟩
  refine (snd hn hg 60).S ?_
  walk_at "ww"
  refine MeP.own rfl (m622_run hB) (.inl S.h) S.hd rfl ?_
  walk_at "ww"
  refine CW.of (sp _ _ _ S ?_) (by first | exact la rfl | exact Nat.le_add_right _ _ | omega)
  cases o with
  | ret v =>
    intro H' S' k'
    walk_at "ww"
    exact q H' S' k'
  | thr c v l =>
    intro H' a d ex S' k' ha hd hac hdc
    refine HdP.hitAs ha (by rw [hg]; exact .z) (ct84_84 hB) (Sto.mk (by repeat constructor) ?_)
    refine (snd hn hg 60).S ?_
    walk_at "ww"
    refine AtP.exc (g84_code hB) ha hd (by repeat constructor) (by intro i h; cases h) ?_
    walk_at "ww"
    unfold BodyOut at q
    dsimp only at q
    conv => whnf
    refine br_of (fun hb => ?_) (fun hb => ?_)
    · have hc : c = 3 := by have h : (c == 3) = true := hb; simpa using h
      rw [if_pos (.inl hc)] at q
      walk_at "ww"
      refine AtP.exc (g84_code hB) ha hd (by repeat constructor) (by intro i h; cases h) ?_
      walk_at "ww"
      exact GoP.mk (by repeat constructor) (q H' S' k')
    · have hc : ¬ c = 3 := by have h : (c == 3) = false := hb; simpa using h
      walk_at "ww"
      refine AtP.exc (g84_code hB) ha hd (by repeat constructor) (by intro i h; cases h) ?_
      walk_at "ww"
      conv => whnf
      refine br_of (fun hb => ?_) (fun hb => ?_)
      · have hc' : c = 4 := by have h : (c == 4) = true := hb; simpa using h
        rw [if_pos (.inr hc')] at q
        walk_at "ww"
        refine AtP.exc (g84_code hB) ha hd (by repeat constructor) (by intro i h; cases h) ?_
        walk_at "ww"
        exact GoP.mk (by repeat constructor) (q H' S' k')
      · have hc' : ¬ c = 4 := by have h : (c == 4) = false := hb; simpa using h
        rw [if_neg (fun h => h.elim hc hc')] at q
        walk_at "ww"
        refine RaP.mk ha (xc84 hB) (.inr rfl) (GoP.mk (by repeat constructor) ?_)
        rw [put_self ha]
        exact q H' a d ex S' k' ha hd hac hdc
theorem c_run_next {w : Str} {v : AV} (S : Sees H A s) (sp : RunSp B n A w s s1 (.ret v)) (q : RetH A H s1 Q (.bool true)) : CallP B (n + 1) (.ref 336) [.ref A.h, .str w] H Q X := by
  refine c_def hB ["host", "script", "raised"] [("Raised", .ref 84)] (by k_is) (by k_is) (by k_is) rfl (fn_ok (.fn hB (by k_is) rfl .nil) rfl) rfl (by dsimp only [mkLoc, List.map]) (fun rs hr => ?_) (fun f hn hg hp => ?_)
  · exact len2 hr fun _ _ => rfl
  walk_at "ww"
  refine ⟨r_try hp hn ?_⟩
  refine (snd hn hg 60).S ?_
  walk_at "ww"
  refine MeP.own rfl (m622_run hB) (.inl S.h) S.hd rfl ?_
  walk_at "ww"
  refine CW.of (sp _ _ _ S ?_) (by first | exact la rfl | exact Nat.le_add_right _ _ | omega)
  intro H' S' k'
  walk_at "ww"
  exact q H' S' k'
theorem c_truth {t : Int} (S : Sees H A s) (ht : s.turn = some t) (hr : s.rows.length ≤ 1000) (q : Q (.bool (decide (t < s.rows.length))) H) : CallP B (n + 6) (.ref 230) [.ref A.h, .str "more"] H Q X := by
  refine c_def hB ["host", "text", "run"] [("need_bool", .ref 223)] (by k_is) (by k_is) (by k_is) rfl (fn_ok (.fn hB (by k_is) rfl .nil) rfl) rfl (by dsimp only [mkLoc, List.map]) (fun rs hr => ?_) (fun f hn hg hp => ?_)
  · exact len2 hr fun _ _ => rfl
  walk_at "ww"
  refine MeP.own rfl (m622_tool hB) (.inl S.h) S.hd rfl ?_
  walk_at "ww"
  refine CW.of (c_tool (n := n) hB S (by repeat constructor) ?_) (by first | exact la rfl | exact Nat.le_add_right _ _ | omega)
  walk_at "ww"
  refine CaP.raw (call_loc hn hg (by repeat constructor) (kp_of hB (by k_is) (by k_is)).1 rfl ?_)
  walk_at "ww"
  refine CW.of (c_law_expr (n := n) hB S ht hr ?_) (by first | exact la rfl | exact Nat.le_add_right _ _ | omega)
  by_cases hc : t < s.rows.length
  · rw [if_pos hc]
    rw [decide_eq_true hc] at q
    walk_at "ww"
    exact CW.of (c_need_bool (n := n) (c := 49) hB (by omega) (by omega) q) (by first | exact la rfl | exact Nat.le_add_right _ _ | omega)
  · rw [if_neg hc]
    rw [decide_eq_false hc] at q
    walk_at "ww"
    exact CW.of (c_need_bool (n := n) (c := 48) hB (by omega) (by omega) q) (by first | exact la rfl | exact Nat.le_add_right _ _ | omega)
end
noncomputable def kd : Bool → Str
  | true => "lmap"
  | false => "foreach"
noncomputable def eNeed (lm : Bool) : AV := .tup [.str "TCL", .str "OPERATION", .str (Txt.upper (kd lm)), .str "NEEDVARS"]
structure GD where
  w : List Nat
  nm : Option (List Nm)
  t : List Nat
  its : List Str
  ft : Option (Str × AV)
noncomputable def GD.names (g : GD) : List Nm := g.nm.getD []
structure GD.Ok (g : GD) : Prop where
  lw : g.w.length ≤ 1000
  lt : g.t.length ≤ 1000
  sw : spl 1000 g.w 0 = some (match g.nm with | none => .bad "unmatched open brace in list" eBrace | some ns => .ok (ns.map Nm.str))
  st : spl 1000 g.t 0 = some (match g.ft with | none => .ok g.its | some (w, e) => .bad w e)
  ln : g.names.length ≤ 10
  li : g.its.length ≤ 10
noncomputable def refG (lm : Bool) (g : GD) : Option (Str × AV) := match g.nm with
  | none => some ("unmatched open brace in list", eBrace)
  | some [] => some (kd lm ++ " varlist is empty", eNeed lm)
  | some (_ :: _) => g.ft
noncomputable def refGs (lm : Bool) : List GD → Option (Str × AV)
  | [] => none
  | g :: gs => match refG lm g with
    | some r => some r
    | none => refGs lm gs
noncomputable def GD.need (g : GD) : Nat := (g.its.length + g.names.length - 1) / g.names.length
noncomputable def maxN : List GD → Nat → Nat
  | [], r => r
  | g :: gs, r => maxN gs (if r < g.need then g.need else r)
noncomputable def GD.av (g : GD) : AV := .tup [.lst ((g.names.map Nm.str).map .str), .lst (g.its.map .str)]
noncomputable def flatG : List GD → List AV
  | [] => []
  | g :: gs => .str (tx g.w) :: .str (tx g.t) :: flatG gs
noncomputable def wordsG (gs : List GD) (last : Str) : List AV := .str "each" :: (flatG gs ++ [.str last])
theorem flatG_len (gs : List GD) : (flatG gs).length = 2 * gs.length := by
  induction gs with
  | nil => rfl
  | cons g gs ih => exact congrArg (· + 2) ih
theorem wordsG_len (gs : List GD) (last : Str) : (wordsG gs last).length = 2 * gs.length + 2 := by rw [wordsG, List.length_cons, List.length_append, flatG_len]; rfl
theorem flatG_at {gs : List GD} {i : Nat} {g : GD} {r : List AV} (h : gs[i]? = some g) : (flatG gs ++ r)[2 * i]? = some (.str (tx g.w)) ∧ (flatG gs ++ r)[2 * i + 1]? = some (.str (tx g.t)) := by
  induction gs generalizing i with
  | nil => cases List.getElem?_nil.symm.trans h
  | cons x gs ih => cases i with
    | zero => cases h; exact ⟨rfl, rfl⟩
    | succ i => exact ih h
theorem kd_len (lm : Bool) : (kd lm).length ≤ 10 := by cases lm <;> decide
theorem kd_up (lm : Bool) : Builtin.Str.tooLong (Txt.upper (kd lm)).length = false := by cases lm <;> decide +kernel
theorem maxN_snoc (gs : List GD) (g : GD) (r : Nat) : maxN (gs ++ [g]) r = if maxN gs r < g.need then g.need else maxN gs r := by
  induction gs generalizing r with
  | nil => rfl
  | cons x gs ih => exact ih _
theorem rg2 : ∀ k : Fin 11, Builtin.Range.small 1 (((2 * k.val + 2 : Nat) : Int) - 1) 2 = true ∧ Builtin.Range.rangeSize 1 (((2 * k.val + 2 : Nat) : Int) - 1) 2 = ((k.val : Nat) : Int) := by decide +kernel
theorem refGs_drop {lm : Bool} {gs : List GD} {i : Nat} {g : GD} (h : gs[i]? = some g) : refGs lm (gs.drop i) = match refG lm g with | some r => some r | none => refGs lm (gs.drop (i + 1)) := by
  induction gs generalizing i with
  | nil => cases List.getElem?_nil.symm.trans h
  | cons x gs ih => cases i with
    | zero => cases h; rfl
    | succ i => exact ih h
theorem words_at {gs : List GD} {last : Str} {i : Nat} {g : GD} (h : gs[i]? = some g) : (wordsG gs last)[1 + i * 2]? = some (.str (tx g.w)) ∧ (wordsG gs last)[1 + i * 2 + 1]? = some (.str (tx g.t)) := by
  rw [Nat.add_comm 1, Nat.mul_comm]
  exact flatG_at h
theorem rf_some {lm : Bool} {gs : List GD} {i : Nat} {g : GD} {r : Str × AV} (hg : gs[i]? = some g) (hr : refGs lm (gs.drop i) = refGs lm gs) (h : refG lm g = some r) : refGs lm gs = some r := by rw [← hr, refGs_drop hg, h]
theorem rf_none {lm : Bool} {gs : List GD} {i : Nat} {g : GD} (hg : gs[i]? = some g) (hr : refGs lm (gs.drop i) = refGs lm gs) (h : refG lm g = none) : refGs lm (gs.drop (i + 1)) = refGs lm gs := by rw [← hr, refGs_drop hg, h]
theorem rf_no {lm : Bool} {g : GD} (h : g.nm = none) : refG lm g = some (("unmatched open brace in list" : Str), eBrace) := by unfold refG; rw [h]
theorem rf_nil {lm : Bool} {g : GD} (h : g.nm = some []) : refG lm g = some (kd lm ++ " varlist is empty", eNeed lm) := by unfold refG; rw [h]
theorem rf_ft {lm : Bool} {g : GD} {ns : List Nm} (h : g.nm = some ns) (h0 : ns.length ≠ 0) : refG lm g = g.ft := by
  unfold refG; rw [h]
  cases ns with
  | nil => exact absurd rfl h0
  | cons a b => rfl
theorem kd_shrt (lm : Bool) : Shrt 1 (kd lm) := Nat.le_trans (kd_len lm) (by decide)
theorem need_div {g : GD} {ns : List Nm} (h : g.names = ns) (h0 : ns.length ≠ 0) : ((((g.its.length : Nat) : Int) + ((ns.length : Nat) : Int)) - 1).fdiv ((ns.length : Nat) : Int) = ((g.need : Nat) : Int) := by
  rw [GD.need, h, show ((g.its.length : Nat) : Int) + ((ns.length : Nat) : Int) - 1 = ((g.its.length + ns.length - 1 : Nat) : Int) from (Int.ofNat_sub (Nat.le_trans (Nat.pos_of_ne_zero h0) (Nat.le_add_left _ _))).symm]
  exact (Int.ofNat_fdiv _ _).symm
theorem tk_one {gs : List GD} {i : Nat} {g : GD} (h : gs[i]? = some g) : gs.take (i + 1) = gs.take i ++ [g] := by rw [List.take_add_one, h]; rfl
inductive EgI (gs : List GD) (last : Str) (lm : Bool) (it : Addr) (H : AH) (i : Nat) : St → Prop
  | mk (r : Nat) (L : List AV) (o1 o2 o3 o4 : Option AV) : r = maxN (gs.take i) 0 → L = (gs.take i).map GD.av → refGs lm (gs.drop i) = refGs lm gs →
      EgI gs last lm it H i ⟨[some (.lst (wordsG gs last)), some (.str (kd lm)), some (.ref it), some (.int (r : Nat)), o1, o2, o3, o4], H.put it (some (.list L))⟩
theorem EgI.len {gs : List GD} {L : List AV} {i : Nat} (h : L = (gs.take i).map GD.av) (hn : gs.length ≤ 10) : L.length ≤ sizeLine := by
  rw [h, List.length_map, List.length_take]; exact le_line1 (Nat.le_trans (Nat.min_le_right _ _) (Nat.le_trans hn (by decide)))
theorem EgI.app {gs : List GD} {L : List AV} {i : Nat} {g : GD} {ns : List Nm} (h : gs[i]? = some g) (hn : g.names = ns) (hL : L = (gs.take i).map GD.av) : L ++ [.tup [.lst ((ns.map Nm.str).map .str), .lst (g.its.map .str)]] = (gs.take (i + 1)).map GD.av := by
  rw [tk_one h, List.map_append, hL, ← hn]; rfl
theorem EgI.max {gs : List GD} {r i : Nat} {g : GD} (h : gs[i]? = some g) (hr : r = maxN (gs.take i) 0) : maxN (gs.take (i + 1)) 0 = if r < g.need then g.need else r := by
  rw [tk_one h, maxN_snoc, hr]
section
variable {B : BC} {n : Nat} (hB : KB B) {H : AH} {Q : AV → AH → Prop} {X : Addr → AH → Prop}
include hB
theorem c_each_groups {gs : List GD} {last : Str} {lm : Bool} (ok : ∀ g ∈ gs, g.Ok) (hn10 : gs.length ≤ 10) (q : refGs lm gs = none → Q (.tup [.lst (gs.map GD.av), .int (maxN gs 0 : Nat)]) H) (x : ∀ w e, refGs lm gs = some (w, e) → RaisesE H X 1 (.str w) e 0) : CallP B (n + 8) (.ref 350) [.lst (wordsG gs last), .str (kd lm)] H Q X := by
  refine c_defm [false, false, true] hB ["words", "kind", "groups", "rounds", "at", "names", "values", "needed"] [("range", .typ "range"), ("len", .blt "len"), ("split_list", .ref 293), ("error", .ref 139)] (by k_is) (by k_is) (by k_is) rfl (fn_ok (.typ hB (by k_is) rfl rfl (.blt hB (by k_is) rfl rfl (.fn hB (by k_is) rfl (.fn hB (by k_is) rfl .nil)))) rfl) rfl (by dsimp only [mkLoc, List.map]) (fun rs hr => ?_) (fun f hn hg hp => ?_)
  · exact len2 hr fun _ _ => rfl
  walk_at "ww"
  refine LsP.cel (fun it hit => ?_)
  walk_at "ww"
  refine RiP.range ?_
  walk_at "ww"
  refine len_lst (by rw [wordsG_len]; exact Nat.le_trans (Nat.add_le_add_right (Nat.mul_le_mul_left 2 hn10) 2) (by decide)) ?_
  rw [wordsG_len]
  walk_at "ww"
  obtain ⟨r1, r2⟩ := rg2 ⟨gs.length, Nat.lt_succ_of_le hn10⟩
  refine RgP.three r1 (by decide) (by decide) r2 ?_
  refine WFor.range (EgI gs last lm it H) ?_ ?_ _ (.mk 0 [] none none none none rfl rfl rfl)
  · rintro σ ⟨r, L, o1, o2, o3, o4, hr', hL, hr⟩
    rw [List.take_length] at hr' hL
    subst hr'; subst hL
    conv => whnf
    refine NmP.frz (by repeat constructor) HG.here ?_
    rw [AH.put_none_put hit]
    walk_at "ww"
    exact q (hr.symm.trans (by rw [List.drop_length]; rfl))
  · rintro i σ hlt ⟨r, L, o1, o2, o3, o4, hr', hL, hr⟩ rest ih
    obtain ⟨g, hg'⟩ : ∃ g, gs[i]? = some g := ⟨_, List.getElem?_eq_getElem hlt⟩
    have okg := ok g (List.mem_of_getElem? hg')
    have hi : 1 + i * 2 + 1 ≤ 1000 := Nat.le_trans (Nat.succ_le_succ (Nat.add_le_add_left (Nat.mul_le_mul_right 2 (Nat.le_trans (Nat.le_of_lt hlt) hn10)) 1)) (by decide)
    walk_at "ww"
    refine it_lst (k := 1 + i * 2) (Nat.le_of_succ_le hi) (words_at hg').1 ?_
    walk_at "ww"
    refine CW.of (c_split (n := n) hB okg.lw (Nat.le_refl _) okg.sw ?_) (by first | exact la rfl | exact Nat.le_add_right _ _ | omega)
    rcases hnm : g.nm with _ | ns
    · exact RaisesE.ext (x _ _ (rf_some hg' hr (rf_no hnm))) (Ext.put hit)
    · have hnames : g.names = ns := by unfold GD.names; rw [hnm]; rfl
      have hln : ns.length ≤ 1000 := Nat.le_trans (hnames ▸ okg.ln) (by decide)
      show SRQ _ _ _ (.ok (ns.map Nm.str))
      walk_at "ww"
      refine len_map2 hln ?_
      walk_at "ww"
      conv => whnf
      refine br_eq (b := 0) (fun h0 => ?_) (fun h0 => ?_)
      · have hrf : refG lm g = some (kd lm ++ " varlist is empty", eNeed lm) := rf_nil (by rw [hnm, List.eq_nil_of_length_eq_zero h0])
        have hk' := kd_shrt lm
        walk_at "ww"
        refine ⟨sz_of (by repeat' first | with_reducible assumption | with_reducible exact Shrt.lit (by decide +kernel) | with_reducible apply Shrt.app) (by repeat' first | with_reducible assumption | with_reducible exact Shrt.lit (by decide +kernel) | with_reducible apply Shrt.app) (by omega), ?_⟩
        walk_at "ww"
        refine MeP.upper rfl (kd_up lm) ?_
        walk_at "ww"
        refine CW.of (c_error (n := n) hB (fun a d ex ha hd hex hda hea hed => ?_)) (by first | exact la rfl | exact Nat.le_add_right _ _ | omega)
        walk_at "ww"
        exact RaP.mk (excH_at hda hea) (xc84 hB) (.inl rfl) (RaisesE.ext (x _ _ (rf_some hg' hr hrf)) (Ext.put hit) _ .refl a d ex ha hd hex hda hea hed)
      · have hrf : refG lm g = g.ft := rf_ft hnm h0
        walk_at "ww"
        refine it_lst (k := 1 + i * 2 + 1) hi (words_at hg').2 ?_
        walk_at "ww"
        refine CW.of (c_split (n := n) hB okg.lt (Nat.le_refl _) okg.st ?_) (by first | exact la rfl | exact Nat.le_add_right _ _ | omega)
        rcases hft : g.ft with _ | ⟨w, e⟩
        · have hli : g.its.length ≤ 1000 := Nat.le_trans okg.li (by decide)
          show SRQ _ _ _ (.ok g.its)
          walk_at "ww"
          refine len_map hli ?_
          walk_at "ww"
          refine len_map2 hln ?_
          walk_at "ww"
          refine len_map2 hln ?_
          walk_at "ww"
          refine ⟨fun h => h0 (Int.ofNat.inj h), Nat.lt_of_le_of_lt hln (by decide), ?_⟩
          rw [need_div hnames h0]
          walk_at "ww"
          conv => whnf
          refine br_lt (fun hb => ?_) (fun hb => ?_)
          · walk_at "ww"
            refine MeP.append HG.here ?_
            walk_at "ww"
            refine ApP.mk HG.here (EgI.len hL hn10) ?_
            rw [AH.put_twice]
            walk_at "ww"
            exact ih _ (.mk _ _ _ _ _ _ (by rw [EgI.max hg' hr', if_pos hb]) (EgI.app hg' hnames hL) (rf_none hg' hr (hrf.trans hft)))
          · walk_at "ww"
            refine MeP.append HG.here ?_
            walk_at "ww"
            refine ApP.mk HG.here (EgI.len hL hn10) ?_
            rw [AH.put_twice]
            walk_at "ww"
            exact ih _ (.mk _ _ _ _ _ _ (by rw [EgI.max hg' hr', if_neg (Nat.not_lt.mpr hb)]) (EgI.app hg' hnames hL) (rf_none hg' hr (hrf.trans hft)))
        · exact RaisesE.ext (x _ _ (rf_some hg' hr (hrf.trans hft))) (Ext.put hit)
end
noncomputable def itemAt (g : GD) (i : Nat) : Str := (g.its[i]?).getD ""
noncomputable def rowG (g : GD) (i : Nat) : List Nm → Row
  | [] => []
  | m :: r => (m, itemAt g i) :: rowG g (i + 1) r
noncomputable def rowOf : List GD → Nat → Row
  | [], _ => []
  | g :: gs, turn => rowG g (turn * g.names.length) g.names ++ rowOf gs turn
theorem writesS_app (s : HS) (r r' : Row) : writesS s (r ++ r') = writesS (writesS s r) r' := List.foldl_append ..
inductive SrI (A : HA) (H : AH) (s : HS) (gs : List GD) (turn : Nat) (gs' : List GD) : St → Prop
  | mk (s0 : HS) (H0 : AH) (o1 o2 o3 o4 o5 : Option AV) : (∀ g ∈ gs', g.Ok) → Sees H0 A s0 → Keep A H H0 → writesS s0 (rowOf gs' turn) = writesS s (rowOf gs turn) → SrI A H s gs turn gs' ⟨[some (.ref A.h), some (.lst (gs.map GD.av)), some (.int (turn : Nat)), o1, o2, o3, o4, o5], H0⟩
inductive SrJ (A : HA) (H : AH) (s : HS) (gs : List GD) (turn : Nat) (g : GD) (gs'' : List GD) (ms : List Nm) : St → Prop
  | mk (i : Nat) (s1 : HS) (H1 : AH) (o4 o5 : Option AV) : Sees H1 A s1 → Keep A H H1 → i + ms.length ≤ turn * g.names.length + g.names.length → writesS (writesS s1 (rowG g i ms)) (rowOf gs'' turn) = writesS s (rowOf gs turn) →
      SrJ A H s gs turn g gs'' ms ⟨[some (.ref A.h), some (.lst (gs.map GD.av)), some (.int (turn : Nat)), some (.lst ((g.names.map Nm.str).map .str)), some (.lst (g.its.map .str)), some (.int (i : Nat)), o4, o5], H1⟩
section
variable {B : BC} {n : Nat} (hB : KB B) {H : AH} {A : HA} {s : HS} {Q : AV → AH → Prop} {X : Addr → AH → Prop}
include hB
theorem c_set_round {gs : List GD} {turn : Nat} (S : Sees H A s) (ok : ∀ g ∈ gs, g.Ok) (ht : turn ≤ 1000) (q : RetH A H (writesS s (rowOf gs turn)) Q .none) : CallP B (n + 4) (.ref 357) [.ref A.h, .lst (gs.map GD.av), .int (turn : Nat)] H Q X := by
  refine c_def hB ["host", "groups", "turn", "names", "values", "at", "name", "value"] [("len", .blt "len")] (by k_is) (by k_is) (by k_is) rfl (fn_ok (.blt hB (by k_is) rfl rfl .nil) rfl) rfl (by dsimp only [mkLoc, List.map]) (fun rs hr => ?_) (fun f hn hg hp => ?_)
  · exact len3 hr fun _ _ _ => rfl
  walk_at "ww"
  refine WFor.map (SrI A H s gs turn) ?_ ?_ gs _ (.mk s H none none none none none ok S Keep.refl rfl)
  · rintro σ ⟨s0, H0, o1, o2, o3, o4, o5, _, S0, k0, w⟩
    exact q H0 ((show s0 = writesS s (rowOf gs turn) from w) ▸ S0) k0
  · rintro g gs'' σ ⟨s0, H0, o1, o2, o3, o4, o5, okg, S0, k0, w⟩ rest ih
    have hli : g.its.length ≤ 1000 := Nat.le_trans (okg g (.head _)).li (by decide)
    rw [show rowOf (g :: gs'') turn = rowG g (turn * g.names.length) g.names ++ rowOf gs'' turn from rfl, writesS_app] at w
    walk_at "ww"
    refine len_map2 (Nat.le_trans (okg g (.head _)).ln (by decide)) ?_
    walk_at "ww"
    refine ⟨mul_ok ht, ?_⟩
    walk_at "ww"
    refine WFor.map2 (SrJ A H s gs turn g gs'') ?_ ?_ g.names _ (.mk (turn * g.names.length) s0 H0 _ _ S0 k0 (Nat.le_refl _) w)
    · rintro σ ⟨i, s1, H1, p4, p5, S1, k1, _, w⟩
      exact ih _ (.mk s1 H1 _ _ _ _ _ (fun g m => okg g (.tail _ m)) S1 k1 w)
    · rintro m ms' σ ⟨i, s1, H1, p4, p5, S1, k1, hi, w⟩ rest2 ih'
      have hi' : i + 1 + ms'.length ≤ turn * g.names.length + g.names.length := Nat.le_trans (Nat.le_of_eq (Nat.add_right_comm i 1 _)) hi
      walk_at "ww"
      refine len_map hli ?_
      walk_at "ww"
      conv => whnf
      refine br_lt (fun hlt => ?_) (fun hge => ?_)
      · have hv : itemAt g i = g.its[i] := by unfold itemAt; rw [List.getElem?_eq_getElem hlt]; rfl
        walk_at "ww"
        refine it_lst (v := .str (itemAt g i)) (Nat.le_trans (Nat.le_of_lt hlt) hli) (by rw [List.getElem?_map, List.getElem?_eq_getElem hlt, hv]; rfl) ?_
        walk_at "ww"
        refine MeP.own rfl (m622_write hB) (.inl S1.h) S1.hd rfl ?_
        walk_at "ww"
        refine CW.of (c_write (n := n) (m := m) hB S1 (fun H' S' k' => ?_)) (by first | exact la rfl | exact Nat.le_add_right _ _ | omega)
        walk_at "ww"
        exact ih' _ (.mk (i + 1) _ H' _ _ S' (k1.trans k') hi' w)
      · have hv : itemAt g i = "" := by unfold itemAt; rw [List.getElem?_eq_none hge]; rfl
        rw [show rowG g i (m :: ms') = (m, itemAt g i) :: rowG g (i + 1) ms' from rfl, hv] at w
        walk_at "ww"
        refine MeP.own rfl (m622_write hB) (.inl S1.h) S1.hd rfl ?_
        walk_at "ww"
        refine CW.of (c_write (n := n) (m := m) hB S1 (fun H' S' k' => ?_)) (by first | exact la rfl | exact Nat.le_add_right _ _ | omega)
        walk_at "ww"
        exact ih' _ (.mk (i + 1) _ H' _ _ S' (k1.trans k') hi' w)
theorem c_wrong_args {t : Str} (ht : t.length ≤ 1000) (q : ∀ a d ex, H a = none → H d = none → H ex = none → d ≠ a → ex ≠ a → ex ≠ d → Q (.ref a) (excH H a d ex 1 (.str ("wrong # args: should be \"" ++ t ++ "\"")) (.tup [.str "TCL", .str "WRONGARGS"]) 0)) :
    CallP B (n + 4) (.ref 146) [.str t] H Q X := by
  refine c_def hB ["usage"] [("error", .ref 139)] (by k_is) (by k_is) (by k_is) rfl (fn_ok (.fn hB (by k_is) rfl .nil) rfl) rfl (by dsimp only [mkLoc, List.map]) (fun rs hr => ?_) (fun f hn hg hp => ?_)
  · exact len1 hr fun _ => rfl
  have hk' : Shrt 1 t := Nat.le_trans ht (by decide)
  walk_at "ww"
  refine ⟨sz_of (by repeat' first | with_reducible assumption | with_reducible exact Shrt.lit (by decide +kernel) | with_reducible apply Shrt.app) (by repeat' first | with_reducible assumption | with_reducible exact Shrt.lit (by decide +kernel) | with_reducible apply Shrt.app) (by omega), ?_⟩
  walk_at "ww"
  refine ⟨sz_of (by repeat' first | with_reducible assumption | with_reducible exact Shrt.lit (by decide +kernel) | with_reducible apply Shrt.app) (by repeat' first | with_reducible assumption | with_reducible exact Shrt.lit (by decide +kernel) | with_reducible apply Shrt.app) (by omega), ?_⟩
  walk_at "ww"
  exact CW.of (c_error (n := n) hB q) (by first | exact la rfl | exact Nat.le_add_right _ _ | omega)
end
structure Co where
  v : Nm → VS
  log : List AV
  kept : List Str
inductive End where
  | done | fuel | thr (code : Int) (value : Str)
noncomputable def putV (v : Nm → VS) (m : Nm) (w : VS) : Nm → VS := fun k => if k = m then w else v k
noncomputable def wrV (v : Nm → VS) (row : Row) : Nm → VS := row.foldl (fun v p => putV v p.1 ⟨true, p.2, (v p.1).writes + 1⟩) v
noncomputable def actV (v : Nm → VS) (d : Deed) : Nm → VS := match d.act with
  | .no => v
  | .put m => putV v m ⟨true, d.value, (v m).writes + 1⟩
  | .drop m => if (v m).live = true then putV v m ⟨false, "", (v m).writes + 1⟩ else v
theorem writesS_v (s : HS) (row : Row) : writesS s row = { s with v := wrV s.v row } := by
  induction row generalizing s with
  | nil => rfl
  | cons p r ih => exact ih (s.setv p.1 ⟨true, p.2, (s.v p.1).writes + 1⟩)
theorem actS_v (s : HS) (d : Deed) : actS s d = { s with v := actV s.v d } := by
  unfold actS actV
  cases d.act with
  | no => rfl
  | put m => rfl
  | drop m => dsimp only; split <;> rfl
noncomputable def coNext (c : Co) (r : Row) (d : Deed) : Co := ⟨actV (wrV c.v r) d, c.log ++ [standsAV (wrV c.v r)], if d.code = 0 then c.kept ++ [d.value] else c.kept⟩
noncomputable def coreR (fuel : Nat) (deeds : List Deed) : List Row → Nat → Co → End × Co × Nat
  | [], t, c => (.done, c, t)
  | r :: rs, t, c => if t = fuel then (.fuel, c, t + 1) else match deeds[t]? with
    | none => (.done, c, t)
    | some d => if d.code = 0 ∨ d.code = 4 then coreR fuel deeds rs (t + 1) (coNext c r d)
      else if d.code = 3 then (.done, coNext c r d, t + 1) else (.thr d.code d.value, coNext c r d, t + 1)
noncomputable def keptAV (keep : Bool) (c : Co) : List AV := if keep = true then c.kept.map .str else []
noncomputable def hsOf (rows : List Row) (deeds : List Deed) (fuel : Nat) (keep : Bool) (turn : Option Int) (c : Co) (spent : Nat) : HS := ⟨rows, deeds, c.log, keptAV keep c, turn, 0, spent, fuel, c.v⟩
noncomputable def bdS (keep : Bool) (s : HS) (d : Deed) : HS := if keep = true then keepS s d else bodyS s d
noncomputable def bdW (keep : Bool) : Str := if keep = true then "keep" else "body"
theorem bodyS_of {rows : List Row} {deeds : List Deed} {fuel : Nat} {turn : Option Int} {c : Co} {t : Nat} {r : Row} {d : Deed} {kp : List AV} : bodyS (writesS ⟨rows, deeds, c.log, kp, turn, 0, ((t : Nat) : Int) + 1, fuel, c.v⟩ r) d = ⟨rows, deeds, (coNext c r d).log, kp, turn, 0, ((t + 1 : Nat) : Int), fuel, (coNext c r d).v⟩ := by
  rw [writesS_v, bodyS, actS_v]
  rfl
theorem bdS_of {rows : List Row} {deeds : List Deed} {fuel : Nat} {keep : Bool} {turn : Option Int} {c : Co} {t : Nat} {r : Row} {d : Deed} : bdS keep (writesS ⟨rows, deeds, c.log, keptAV keep c, turn, 0, ((t : Nat) : Int) + 1, fuel, c.v⟩ r) d = hsOf rows deeds fuel keep turn (coNext c r d) (t + 1) := by
  unfold bdS
  cases keep with
  | false => rw [if_neg (by decide), bodyS_of]; rfl
  | true =>
    rw [if_pos rfl, keepS, bodyS_of]
    unfold hsOf keptAV
    simp only [if_true]
    by_cases h : d.code = 0
    · rw [if_pos h]
      have e : (coNext c r d).kept = c.kept ++ [d.value] := if_pos h
      rw [e, List.map_append]; rfl
    · rw [if_neg h]
      have e : (coNext c r d).kept = c.kept := if_neg h
      rw [e]
noncomputable def EndH (A : HA) (H : AH) (s : HS) (Q : AV → AH → Prop) (X : Addr → AH → Prop) (v : AV) : End → Prop
  | .done => RetH A H s Q v
  | .fuel => ThrF A H s X
  | .thr c w => ThrR A H s c (.str w) ecNone (lvlOf c) X
noncomputable def qtS (x : Str) : Str := if x = "" then "{}" else if x = "b {c" then "b\\ \\{c" else x
noncomputable def joinL (xs : List Str) : Str := Txt.join " " (xs.map qtS)
noncomputable def okVals : List Str := ["v", "", "b {c", "w", "gone"]
section
variable {B : BC} {n : Nat} (hB : KB B) {H : AH} {Q : AV → AH → Prop} {X : Addr → AH → Prop}
include hB
theorem c_mode_v (b : Bool) (q : Q (.str "none") H) : CallP B (n + 2) (.ref 300) [.str "v", .bool b] H Q X := by
  refine c_def hB ["element", "is_hash", "begins", "is_bound", "is_hashed", "wants_brace", "wants_escape", "depth", "at", "c"] [("len", .blt "len"), ("is_blank", .ref 181)] (by k_is) (by k_is) (by k_is) rfl (fn_ok (.blt hB (by k_is) rfl rfl (.fn hB (by k_is) rfl .nil)) rfl) rfl (by dsimp only [mkLoc, List.map]) (fun rs hr => ?_) (fun f hn hg hp => ?_)
  · exact len2 hr fun _ _ => rfl
  cases b <;> (((repeat ((walk_at "ww"; conv => whnf); first | (with_reducible first | refine BlP.len_s (by decide) ?_ | refine BlP.len_m (by repeat first | assumption | exact HG.here | refine HG.ne ‹_› ?_ | refine HG.ne (Ne.symm ‹_›) ?_) (by decide) ?_ | refine Stop.mk (wh_step ‹_› ‹_› 60 ?_) | refine FiP.mk (-1) (by decide +kernel) ?_ | refine CW.of (c_is_blank (n := 0) ‹_› ?_) (by omega)) | refine ItP.str (by decide) (by decide) rfl ?_ | refine wh_step ‹_› ‹_› 60 ?_)); walk_at "ww"); exact q)
theorem c_mode_e (b : Bool) (q : Q (.str "brace") H) : CallP B (n + 2) (.ref 300) [.str "", .bool b] H Q X := by
  refine c_def hB ["element", "is_hash", "begins", "is_bound", "is_hashed", "wants_brace", "wants_escape", "depth", "at", "c"] [("len", .blt "len"), ("is_blank", .ref 181)] (by k_is) (by k_is) (by k_is) rfl (fn_ok (.blt hB (by k_is) rfl rfl (.fn hB (by k_is) rfl .nil)) rfl) rfl (by dsimp only [mkLoc, List.map]) (fun rs hr => ?_) (fun f hn hg hp => ?_)
  · exact len2 hr fun _ _ => rfl
  cases b <;> (((repeat ((walk_at "ww"; conv => whnf); first | (with_reducible first | refine BlP.len_s (by decide) ?_ | refine BlP.len_m (by repeat first | assumption | exact HG.here | refine HG.ne ‹_› ?_ | refine HG.ne (Ne.symm ‹_›) ?_) (by decide) ?_ | refine Stop.mk (wh_step ‹_› ‹_› 60 ?_) | refine FiP.mk (-1) (by decide +kernel) ?_ | refine CW.of (c_is_blank (n := 0) ‹_› ?_) (by omega)) | refine ItP.str (by decide) (by decide) rfl ?_ | refine wh_step ‹_› ‹_› 60 ?_)); walk_at "ww"); exact q)
theorem c_mode_bc (b : Bool) (q : Q (.str "escape") H) : CallP B (n + 2) (.ref 300) [.str "b {c", .bool b] H Q X := by
  refine c_def hB ["element", "is_hash", "begins", "is_bound", "is_hashed", "wants_brace", "wants_escape", "depth", "at", "c"] [("len", .blt "len"), ("is_blank", .ref 181)] (by k_is) (by k_is) (by k_is) rfl (fn_ok (.blt hB (by k_is) rfl rfl (.fn hB (by k_is) rfl .nil)) rfl) rfl (by dsimp only [mkLoc, List.map]) (fun rs hr => ?_) (fun f hn hg hp => ?_)
  · exact len2 hr fun _ _ => rfl
  cases b <;> (((repeat ((walk_at "ww"; conv => whnf); first | (with_reducible first | refine BlP.len_s (by decide) ?_ | refine BlP.len_m (by repeat first | assumption | exact HG.here | refine HG.ne ‹_› ?_ | refine HG.ne (Ne.symm ‹_›) ?_) (by decide) ?_ | refine Stop.mk (wh_step ‹_› ‹_› 60 ?_) | refine FiP.mk (-1) (by decide +kernel) ?_ | refine CW.of (c_is_blank (n := 0) ‹_› ?_) (by omega)) | refine ItP.str (by decide) (by decide) rfl ?_ | refine wh_step ‹_› ‹_› 60 ?_)); walk_at "ww"); exact q)
theorem c_mode_w (b : Bool) (q : Q (.str "none") H) : CallP B (n + 2) (.ref 300) [.str "w", .bool b] H Q X := by
  refine c_def hB ["element", "is_hash", "begins", "is_bound", "is_hashed", "wants_brace", "wants_escape", "depth", "at", "c"] [("len", .blt "len"), ("is_blank", .ref 181)] (by k_is) (by k_is) (by k_is) rfl (fn_ok (.blt hB (by k_is) rfl rfl (.fn hB (by k_is) rfl .nil)) rfl) rfl (by dsimp only [mkLoc, List.map]) (fun rs hr => ?_) (fun f hn hg hp => ?_)
  · exact len2 hr fun _ _ => rfl
  cases b <;> (((repeat ((walk_at "ww"; conv => whnf); first | (with_reducible first | refine BlP.len_s (by decide) ?_ | refine BlP.len_m (by repeat first | assumption | exact HG.here | refine HG.ne ‹_› ?_ | refine HG.ne (Ne.symm ‹_›) ?_) (by decide) ?_ | refine Stop.mk (wh_step ‹_› ‹_› 60 ?_) | refine FiP.mk (-1) (by decide +kernel) ?_ | refine CW.of (c_is_blank (n := 0) ‹_› ?_) (by omega)) | refine ItP.str (by decide) (by decide) rfl ?_ | refine wh_step ‹_› ‹_› 60 ?_)); walk_at "ww"); exact q)
theorem c_mode_gone (b : Bool) (q : Q (.str "none") H) : CallP B (n + 2) (.ref 300) [.str "gone", .bool b] H Q X := by
  refine c_def hB ["element", "is_hash", "begins", "is_bound", "is_hashed", "wants_brace", "wants_escape", "depth", "at", "c"] [("len", .blt "len"), ("is_blank", .ref 181)] (by k_is) (by k_is) (by k_is) rfl (fn_ok (.blt hB (by k_is) rfl rfl (.fn hB (by k_is) rfl .nil)) rfl) rfl (by dsimp only [mkLoc, List.map]) (fun rs hr => ?_) (fun f hn hg hp => ?_)
  · exact len2 hr fun _ _ => rfl
  cases b <;> (((repeat ((walk_at "ww"; conv => whnf); first | (with_reducible first | refine BlP.len_s (by decide) ?_ | refine BlP.len_m (by repeat first | assumption | exact HG.here | refine HG.ne ‹_› ?_ | refine HG.ne (Ne.symm ‹_›) ?_) (by decide) ?_ | refine Stop.mk (wh_step ‹_› ‹_› 60 ?_) | refine FiP.mk (-1) (by decide +kernel) ?_ | refine CW.of (c_is_blank (n := 0) ‹_› ?_) (by omega)) | refine ItP.str (by decide) (by decide) rfl ?_ | refine wh_step ‹_› ‹_› 60 ?_)); walk_at "ww"); exact q)
theorem c_esc_b (q : Q (.str "b") H) : CallP B (n + 1) (.ref 307) [.str "b", .bool true] H Q X := by
  refine c_def hB ["c", "is_deep", "place"] [] (by k_is) (by k_is) (by k_is) rfl (fn_ok .nil rfl) rfl (by dsimp only [mkLoc, List.map]) (fun rs hr => ?_) (fun f hn hg hp => ?_)
  · exact len2 hr fun _ _ => rfl
  (repeat ((walk_at "ww"; conv => whnf); first | (with_reducible first | refine BlP.len_s (by decide) ?_ | refine BlP.len_m (by repeat first | assumption | exact HG.here | refine HG.ne ‹_› ?_ | refine HG.ne (Ne.symm ‹_›) ?_) (by decide) ?_ | refine Stop.mk (wh_step ‹_› ‹_› 60 ?_) | refine FiP.mk (-1) (by decide +kernel) ?_ | refine CW.of (c_is_blank (n := 0) ‹_› ?_) (by omega)) | refine ItP.str (by decide) (by decide) rfl ?_ | refine wh_step ‹_› ‹_› 60 ?_)); walk_at "ww"
  exact q
theorem c_esc_s (q : Q (.str "\\ ") H) : CallP B (n + 1) (.ref 307) [.str " ", .bool true] H Q X := by
  refine c_def hB ["c", "is_deep", "place"] [] (by k_is) (by k_is) (by k_is) rfl (fn_ok .nil rfl) rfl (by dsimp only [mkLoc, List.map]) (fun rs hr => ?_) (fun f hn hg hp => ?_)
  · exact len2 hr fun _ _ => rfl
  (repeat ((walk_at "ww"; conv => whnf); first | (with_reducible first | refine BlP.len_s (by decide) ?_ | refine BlP.len_m (by repeat first | assumption | exact HG.here | refine HG.ne ‹_› ?_ | refine HG.ne (Ne.symm ‹_›) ?_) (by decide) ?_ | refine Stop.mk (wh_step ‹_› ‹_› 60 ?_) | refine FiP.mk (-1) (by decide +kernel) ?_ | refine CW.of (c_is_blank (n := 0) ‹_› ?_) (by omega)) | refine ItP.str (by decide) (by decide) rfl ?_ | refine wh_step ‹_› ‹_› 60 ?_)); walk_at "ww"
  refine ⟨sz_of (by repeat' first | with_reducible assumption | with_reducible exact Shrt.lit (by decide +kernel) | with_reducible apply Shrt.app) (by repeat' first | with_reducible assumption | with_reducible exact Shrt.lit (by decide +kernel) | with_reducible apply Shrt.app) (by omega), ?_⟩
  show Q (.str (("\\" : Str) ++ (" " : Str))) H
  rw [show ("\\" : Str) ++ (" " : Str) = "\\ " by decide +kernel]
  exact q
theorem c_esc_o (q : Q (.str "\\{") H) : CallP B (n + 1) (.ref 307) [.str "{", .bool true] H Q X := by
  refine c_def hB ["c", "is_deep", "place"] [] (by k_is) (by k_is) (by k_is) rfl (fn_ok .nil rfl) rfl (by dsimp only [mkLoc, List.map]) (fun rs hr => ?_) (fun f hn hg hp => ?_)
  · exact len2 hr fun _ _ => rfl
  (repeat ((walk_at "ww"; conv => whnf); first | (with_reducible first | refine BlP.len_s (by decide) ?_ | refine BlP.len_m (by repeat first | assumption | exact HG.here | refine HG.ne ‹_› ?_ | refine HG.ne (Ne.symm ‹_›) ?_) (by decide) ?_ | refine Stop.mk (wh_step ‹_› ‹_› 60 ?_) | refine FiP.mk (-1) (by decide +kernel) ?_ | refine CW.of (c_is_blank (n := 0) ‹_› ?_) (by omega)) | refine ItP.str (by decide) (by decide) rfl ?_ | refine wh_step ‹_› ‹_› 60 ?_)); walk_at "ww"
  refine ⟨sz_of (by repeat' first | with_reducible assumption | with_reducible exact Shrt.lit (by decide +kernel) | with_reducible apply Shrt.app) (by repeat' first | with_reducible assumption | with_reducible exact Shrt.lit (by decide +kernel) | with_reducible apply Shrt.app) (by omega), ?_⟩
  show Q (.str (("\\" : Str) ++ ("{" : Str))) H
  rw [show ("\\" : Str) ++ ("{" : Str) = "\\{" by decide +kernel]
  exact q
theorem c_esc_c (q : Q (.str "c") H) : CallP B (n + 1) (.ref 307) [.str "c", .bool true] H Q X := by
  refine c_def hB ["c", "is_deep", "place"] [] (by k_is) (by k_is) (by k_is) rfl (fn_ok .nil rfl) rfl (by dsimp only [mkLoc, List.map]) (fun rs hr => ?_) (fun f hn hg hp => ?_)
  · exact len2 hr fun _ _ => rfl
  (repeat ((walk_at "ww"; conv => whnf); first | (with_reducible first | refine BlP.len_s (by decide) ?_ | refine BlP.len_m (by repeat first | assumption | exact HG.here | refine HG.ne ‹_› ?_ | refine HG.ne (Ne.symm ‹_›) ?_) (by decide) ?_ | refine Stop.mk (wh_step ‹_› ‹_› 60 ?_) | refine FiP.mk (-1) (by decide +kernel) ?_ | refine CW.of (c_is_blank (n := 0) ‹_› ?_) (by omega)) | refine ItP.str (by decide) (by decide) rfl ?_ | refine wh_step ‹_› ‹_› 60 ?_)); walk_at "ww"
  exact q
end
section
variable {B : BC} {n : Nat} (hB : KB B) {H : AH} {Q : AV → AH → Prop} {X : Addr → AH → Prop}
include hB
theorem c_quote_v (b : Bool) (q : Q (.str "v") H) : CallP B (n + 3) (.ref 315) [.str "v", .bool b] H Q X := by
  refine c_defd hB ["element", "is_hash", "mode", "out", "c"] [("mode_of", .ref 300), ("escaped", .ref 307)] (dv := []) [] (by k_is) (by k_is) (by k_is) rfl (fn_ok (.fn hB (by k_is) rfl (.fn hB (by k_is) rfl .nil)) rfl) rfl (by dsimp only [mkLoc, List.map, List.cons_append, List.nil_append]) (fun s rs hK hr => ?_) (fun P h hK hP => .nil) (fun f hn hg hp => ?_)
  · exact len2 hr fun _ _ => BindsTo.of_defaults rfl (hK _ _ (by k_is)) rfl rfl rfl
  walk_at "ww"
  refine CW.of (c_mode_v (n := n) hB b ?_) (by first | exact la rfl | exact Nat.le_add_right _ _ | omega)
  walk_at "ww"
  exact q
theorem c_quote_e (b : Bool) (q : Q (.str "{}") H) : CallP B (n + 3) (.ref 315) [.str "", .bool b] H Q X := by
  refine c_defd hB ["element", "is_hash", "mode", "out", "c"] [("mode_of", .ref 300), ("escaped", .ref 307)] (dv := []) [] (by k_is) (by k_is) (by k_is) rfl (fn_ok (.fn hB (by k_is) rfl (.fn hB (by k_is) rfl .nil)) rfl) rfl (by dsimp only [mkLoc, List.map, List.cons_append, List.nil_append]) (fun s rs hK hr => ?_) (fun P h hK hP => .nil) (fun f hn hg hp => ?_)
  · exact len2 hr fun _ _ => BindsTo.of_defaults rfl (hK _ _ (by k_is)) rfl rfl rfl
  walk_at "ww"
  refine CW.of (c_mode_e (n := n) hB b ?_) (by first | exact la rfl | exact Nat.le_add_right _ _ | omega)
  walk_at "ww"
  refine ⟨sz_of (by repeat' first | with_reducible assumption | with_reducible exact Shrt.lit (by decide +kernel) | with_reducible apply Shrt.app) (by repeat' first | with_reducible assumption | with_reducible exact Shrt.lit (by decide +kernel) | with_reducible apply Shrt.app) (by omega), ?_⟩
  walk_at "ww"
  refine ⟨sz_of (by repeat' first | with_reducible assumption | with_reducible exact Shrt.lit (by decide +kernel) | with_reducible apply Shrt.app) (by repeat' first | with_reducible assumption | with_reducible exact Shrt.lit (by decide +kernel) | with_reducible apply Shrt.app) (by omega), ?_⟩
  show Q (.str (("{" : Str) ++ ("" : Str) ++ ("}" : Str))) H
  rw [show ("{" : Str) ++ ("" : Str) ++ ("}" : Str) = "{}" by decide +kernel]
  exact q
theorem c_quote_w (b : Bool) (q : Q (.str "w") H) : CallP B (n + 3) (.ref 315) [.str "w", .bool b] H Q X := by
  refine c_defd hB ["element", "is_hash", "mode", "out", "c"] [("mode_of", .ref 300), ("escaped", .ref 307)] (dv := []) [] (by k_is) (by k_is) (by k_is) rfl (fn_ok (.fn hB (by k_is) rfl (.fn hB (by k_is) rfl .nil)) rfl) rfl (by dsimp only [mkLoc, List.map, List.cons_append, List.nil_append]) (fun s rs hK hr => ?_) (fun P h hK hP => .nil) (fun f hn hg hp => ?_)
  · exact len2 hr fun _ _ => BindsTo.of_defaults rfl (hK _ _ (by k_is)) rfl rfl rfl
  walk_at "ww"
  refine CW.of (c_mode_w (n := n) hB b ?_) (by first | exact la rfl | exact Nat.le_add_right _ _ | omega)
  walk_at "ww"
  exact q
theorem c_quote_gone (b : Bool) (q : Q (.str "gone") H) : CallP B (n + 3) (.ref 315) [.str "gone", .bool b] H Q X := by
  refine c_defd hB ["element", "is_hash", "mode", "out", "c"] [("mode_of", .ref 300), ("escaped", .ref 307)] (dv := []) [] (by k_is) (by k_is) (by k_is) rfl (fn_ok (.fn hB (by k_is) rfl (.fn hB (by k_is) rfl .nil)) rfl) rfl (by dsimp only [mkLoc, List.map, List.cons_append, List.nil_append]) (fun s rs hK hr => ?_) (fun P h hK hP => .nil) (fun f hn hg hp => ?_)
  · exact len2 hr fun _ _ => BindsTo.of_defaults rfl (hK _ _ (by k_is)) rfl rfl rfl
  walk_at "ww"
  refine CW.of (c_mode_gone (n := n) hB b ?_) (by first | exact la rfl | exact Nat.le_add_right _ _ | omega)
  walk_at "ww"
  exact q
theorem c_quote_bc (b : Bool) (q : Q (.str "b\\ \\{c") H) : CallP B (n + 3) (.ref 315) [.str "b {c", .bool b] H Q X := by
  refine c_defdm [false, false, false, true] hB ["element", "is_hash", "mode", "out", "c"] [("mode_of", .ref 300), ("escaped", .ref 307)] (dv := []) [] (by k_is) (by k_is) (by k_is) rfl (fn_ok (.fn hB (by k_is) rfl (.fn hB (by k_is) rfl .nil)) rfl) rfl (by dsimp only [mkLoc, List.map, List.cons_append, List.nil_append]) (fun s rs hK hr => ?_) (fun P h hK hP => .nil) (fun f hn hg hp => ?_)
  · exact len2 hr fun _ _ => BindsTo.of_defaults rfl (hK _ _ (by k_is)) rfl rfl rfl
  walk_at "ww"
  refine CW.of (c_mode_bc (n := n) hB b ?_) (by first | exact la rfl | exact Nat.le_add_right _ _ | omega)
  walk_at "ww"
  refine LsP.cel (fun it hit => ?_)
  cases b
  · walk_at "ww"
    refine ⟨by decide +kernel, ?_⟩
    walk_at "ww"
    refine MeP.append HG.here ?_
    walk_at "ww"
    refine CW.of (c_esc_b (n := n) hB ?_) (by first | exact la rfl | exact Nat.le_add_right _ _ | omega)
    walk_at "ww"
    refine ApP.mk HG.here (by decide) ?_
    rw [AH.put_twice]
    walk_at "ww"
    refine MeP.append HG.here ?_
    walk_at "ww"
    refine CW.of (c_esc_s (n := n) hB ?_) (by first | exact la rfl | exact Nat.le_add_right _ _ | omega)
    walk_at "ww"
    refine ApP.mk HG.here (by decide) ?_
    rw [AH.put_twice]
    walk_at "ww"
    refine MeP.append HG.here ?_
    walk_at "ww"
    refine CW.of (c_esc_o (n := n) hB ?_) (by first | exact la rfl | exact Nat.le_add_right _ _ | omega)
    walk_at "ww"
    refine ApP.mk HG.here (by decide) ?_
    rw [AH.put_twice]
    walk_at "ww"
    refine MeP.append HG.here ?_
    walk_at "ww"
    refine CW.of (c_esc_c (n := n) hB ?_) (by first | exact la rfl | exact Nat.le_add_right _ _ | omega)
    walk_at "ww"
    refine ApP.mk HG.here (by decide) ?_
    rw [AH.put_twice]
    conv => whnf
    refine MeP.join ?_
    conv => whnf
    refine NmP.frz (by repeat constructor) HG.here ?_
    rw [AH.put_none_put hit]
    conv => whnf
    refine JoP.lst (ys := ["b", "\\ ", "\\{", "c"]) rfl (by decide +kernel) ?_
    have e : Txt.join "" ["b", "\\ ", "\\{", "c"] = "b\\ \\{c" := by decide +kernel
    rw [e]
    exact q
  · walk_at "ww"
    refine ItP.str (c := 98) (by decide) (by decide) rfl ?_
    walk_at "ww"
    refine ⟨by decide +kernel, ?_⟩
    walk_at "ww"
    refine MeP.append HG.here ?_
    walk_at "ww"
    refine CW.of (c_esc_b (n := n) hB ?_) (by first | exact la rfl | exact Nat.le_add_right _ _ | omega)
    walk_at "ww"
    refine ApP.mk HG.here (by decide) ?_
    rw [AH.put_twice]
    walk_at "ww"
    refine MeP.append HG.here ?_
    walk_at "ww"
    refine CW.of (c_esc_s (n := n) hB ?_) (by first | exact la rfl | exact Nat.le_add_right _ _ | omega)
    walk_at "ww"
    refine ApP.mk HG.here (by decide) ?_
    rw [AH.put_twice]
    walk_at "ww"
    refine MeP.append HG.here ?_
    walk_at "ww"
    refine CW.of (c_esc_o (n := n) hB ?_) (by first | exact la rfl | exact Nat.le_add_right _ _ | omega)
    walk_at "ww"
    refine ApP.mk HG.here (by decide) ?_
    rw [AH.put_twice]
    walk_at "ww"
    refine MeP.append HG.here ?_
    walk_at "ww"
    refine CW.of (c_esc_c (n := n) hB ?_) (by first | exact la rfl | exact Nat.le_add_right _ _ | omega)
    walk_at "ww"
    refine ApP.mk HG.here (by decide) ?_
    rw [AH.put_twice]
    conv => whnf
    refine MeP.join ?_
    conv => whnf
    refine NmP.frz (by repeat constructor) HG.here ?_
    rw [AH.put_none_put hit]
    conv => whnf
    refine JoP.lst (ys := ["b", "\\ ", "\\{", "c"]) rfl (by decide +kernel) ?_
    have e : Txt.join "" ["b", "\\ ", "\\{", "c"] = "b\\ \\{c" := by decide +kernel
    rw [e]
    exact q
end
theorem qt_all {P : Str → Prop} {x : Str} (h : x ∈ okVals) (h1 : P "v") (h2 : P "") (h3 : P "b {c") (h4 : P "w") (h5 : P "gone") : P x := by
  unfold okVals at h
  simp only [List.mem_cons, List.not_mem_nil, or_false] at h
  rcases h with rfl | rfl | rfl | rfl | rfl
  · exact h1
  · exact h2
  · exact h3
  · exact h4
  · exact h5
theorem qt_v : qtS "v" = "v" := by decide +kernel
theorem qt_e : qtS "" = "{}" := by decide +kernel
theorem qt_bc : qtS "b {c" = "b\\ \\{c" := by decide +kernel
theorem qt_w : qtS "w" = "w" := by decide +kernel
theorem qt_gone : qtS "gone" = "gone" := by decide +kernel
theorem qt_len {x : Str} (h : x ∈ okVals) : (qtS x).length ≤ 10 := qt_all (P := fun x => (qtS x).length ≤ 10) h (by decide +kernel) (by decide +kernel) (by decide +kernel) (by decide +kernel) (by decide +kernel)
theorem qt_sum : ∀ {xs : List Str}, (∀ x ∈ xs, x ∈ okVals) → ((xs.map qtS).map (·.length)).sum ≤ 10 * xs.length
  | [], _ => by simp
  | x :: xs, h => by
    have a := qt_len (h x (.head _))
    have b := qt_sum (xs := xs) fun y m => h y (.tail _ m)
    simp only [List.map_cons, List.sum_cons, List.length_cons]
    omega
inductive JlI (xs : List Str) (it : Addr) (H : AH) (rest : List Str) : St → Prop
  | mk (dn : List Str) (o : Option AV) : xs = dn ++ rest → JlI xs it H rest ⟨[some (.lst (xs.map .str)), some (.ref it), o], H.put it (some (.list ((dn.map qtS).map .str)))⟩
theorem JlI.len {xs dn rest : List Str} {x : Str} (e : xs = dn ++ x :: rest) (hl : xs.length ≤ 100) : dn.length ≤ 1000 := by
  rw [e, List.length_append] at hl; exact Nat.le_trans (Nat.le_add_right _ _) (Nat.le_trans hl (by decide))
theorem jl_next {xs dn rest : List Str} {x : Str} {it : Addr} {H : AH} (e : xs = dn ++ x :: rest) (o : Option AV) : JlI xs it H rest ⟨[some (.lst (xs.map .str)), some (.ref it), o], H.put it (some (.list ((dn.map qtS).map .str ++ [.str (qtS x)])))⟩ := by
  have : (dn.map qtS).map AV.str ++ [.str (qtS x)] = ((dn ++ [x]).map qtS).map .str := by rw [List.map_append, List.map_append]; rfl
  rw [this]
  exact .mk _ _ (by rw [e, List.append_assoc]; rfl)
theorem qt_room {xs : List Str} (h : ∀ x ∈ xs, x ∈ okVals) (hl : xs.length ≤ 100) : ((xs.map qtS).map (·.length)).sum + (xs.map qtS).length * (" " : Str).length ≤ 16777216 := by
  have := qt_sum h
  rw [List.length_map, show (" " : Str).length = 1 by decide]
  omega
section
variable {B : BC} {n : Nat} (hB : KB B) {H : AH} {Q : AV → AH → Prop} {X : Addr → AH → Prop}
include hB
theorem c_quote {x : Str} (h : x ∈ okVals) (b : Bool) (q : Q (.str (qtS x)) H) : CallP B (n + 3) (.ref 315) [.str x, .bool b] H Q X := by
  revert q
  refine qt_all (P := fun x => Q (.str (qtS x)) H → CallP B (n + 3) (.ref 315) [.str x, .bool b] H Q X) h ?_ ?_ ?_ ?_ ?_
  · rw [qt_v]; exact fun q => c_quote_v hB b q
  · rw [qt_e]; exact fun q => c_quote_e hB b q
  · rw [qt_bc]; exact fun q => c_quote_bc hB b q
  · rw [qt_w]; exact fun q => c_quote_w hB b q
  · rw [qt_gone]; exact fun q => c_quote_gone hB b q
theorem c_join_list {xs : List Str} (h : ∀ x ∈ xs, x ∈ okVals) (hl : xs.length ≤ 100) (q : Q (.str (joinL xs)) H) : CallP B (n + 4) (.ref 322) [.lst (xs.map .str)] H Q X := by
  refine c_defm [false, true] hB ["items", "out", "item"] [("quote", .ref 315), ("len", .blt "len")] (by k_is) (by k_is) (by k_is) rfl (fn_ok (.fn hB (by k_is) rfl (.blt hB (by k_is) rfl rfl .nil)) rfl) rfl (by dsimp only [mkLoc, List.map]) (fun rs hr => ?_) (fun f hn hg hp => ?_)
  · exact len1 hr fun _ => rfl
  walk_at "ww"
  refine LsP.cel (fun it hit => ?_)
  walk_at "ww"
  refine WFor.map (JlI xs it H) ?_ ?_ xs _ (.mk [] none rfl)
  · rintro σ ⟨dn, o, e⟩
    rw [List.append_nil] at e
    subst e
    conv => whnf
    refine MeP.join ?_
    conv => whnf
    refine NmP.frz (by repeat constructor) HG.here ?_
    rw [AH.put_none_put hit]
    conv => whnf
    refine JoP.lst (ys := xs.map qtS) rfl (qt_room h hl) q
  · rintro x rest' σ ⟨dn, o, e⟩ rest ih
    have hdl := JlI.len e hl
    walk_at "ww"
    refine MeP.append HG.here ?_
    walk_at "ww"
    refine BlP.len_m HG.here (by rw [List.length_map, List.length_map]; exact lt62 hdl) ?_
    walk_at "ww"
    refine CW.of (c_quote (n := n) hB (h x (by rw [e]; exact List.mem_append_right _ (.head _))) _ ?_) (by first | exact la rfl | exact Nat.le_add_right _ _ | omega)
    walk_at "ww"
    refine ApP.mk HG.here (by rw [List.length_map, List.length_map]; exact le_line1 hdl) ?_
    rw [AH.put_twice]
    walk_at "ww"
    refine ih _ (jl_next e _)
end
theorem Sees.put {H : AH} {A : HA} {s : HS} {it : Addr} {c : Option Cell} (S : Sees H A s) (h : it ∉ A.cells) : Sees (H.put it c) A s := S.old fun b m => put_off fun e => h (e ▸ m)
theorem Keep.own {A : HA} {H H' : AH} {it : Addr} {c : Option Cell} (k : Keep A H H') (h : H it = none) : Keep A H (H'.put it c) := fun b c' e m => (put_off fun q => by rw [q, h] at e; cases e).trans (k b c' e m)
theorem thr_raises {A : HA} {H : AH} {s : HS} {code level : Int} {v ec : AV} {X : Addr → AH → Prop} (S : Sees H A s) (x : ThrR A H s code v ec level X) : RaisesE H X code v ec level := fun H' e a d ex ha hd hex hda hea hed => by
  have S' := S.ext e
  have hd2 : (H'.put ex (some (.list []))) d = none := (put_off hed.symm).trans hd
  have ha2 : ((H'.put ex (some (.list []))).put d (some (.ns (rfs code v ec level 0 ex)))) a = none := (put_off hda.symm).trans ((put_off hea.symm).trans ha)
  have eq : excR H' a d ex code v ec level = ((H'.put ex (some (.list []))).put d (some (.ns (rfs code v ec level 0 ex)))).put a (some (.exc 84 (some d) true)) := by
    unfold excR excH
    funext b
    unfold AH.put
    by_cases h1 : b = a
    · simp [h1]
    · simp [h1]
  rw [eq]
  exact x _ a d ex (((S'.fresh hex).fresh hd2).fresh ha2) ((Keep.ext e).trans ((Keep.fresh hex).trans ((Keep.fresh hd2).trans (Keep.fresh ha2)))) HG.here (HG.ne hda HG.here) (S'.off ha) (S'.off hd)
noncomputable def usage : Str := "wrong # args: should be \"each varList list ?varList list ...? command\""
noncomputable def eArgs : AV := .tup [.str "TCL", .str "WRONGARGS"]
section
variable {B : BC} {n : Nat} (hB : KB B) {H : AH} {A : HA} {s : HS} {Q : AV → AH → Prop} {X : Addr → AH → Prop}
include hB
theorem c_each_bad {h kind : AV} {r : List AV} (hw : r.length + 1 < 4 ∨ (r.length + 1) % 2 = 1) (hl : r.length ≤ 100) (x : RaisesE H X 1 (.str usage) eArgs 0) : CallP B (n + 9) (.ref 364) [h, .lst (.str "each" :: r), kind] H Q X := by
  refine c_def hB ["host", "words", "kind", "groups", "rounds", "kept", "turn", "code", "value"] [("len", .blt "len"), ("wrong_args", .ref 146), ("each_groups", .ref 350), ("set_round", .ref 357), ("run_body", .ref 329), ("join_list", .ref 322)] (by k_is) (by k_is) (by k_is) rfl (fn_ok (.blt hB (by k_is) rfl rfl (.fn hB (by k_is) rfl (.fn hB (by k_is) rfl (.fn hB (by k_is) rfl (.fn hB (by k_is) rfl (.fn hB (by k_is) rfl .nil)))))) rfl) rfl (by dsimp only [mkLoc, List.map]) (fun rs hr => ?_) (fun f hn hg hp => ?_)
  · exact len3 hr fun _ _ _ => rfl
  have e : ("wrong # args: should be \"" : Str) ++ (("each" : Str) ++ (" varList list ?varList list ...? command" : Str)) ++ ("\"" : Str) = usage := by decide +kernel
  have hl' : (AV.str "each" :: r).length ≤ 1000 := Nat.le_trans (Nat.succ_le_succ hl) (by decide)
  walk_at "ww"
  refine len_lst hl' ?_
  walk_at "ww"
  conv => whnf
  refine br_lt (b := 4) (fun hb => ?_) (fun hb => ?_)
  · walk_at "ww"
    refine ItP.lst (v := .str "each") (by decide) (by decide) rfl ?_
    walk_at "ww"
    refine ⟨sz_of (by repeat' first | with_reducible assumption | with_reducible exact Shrt.lit (by decide +kernel) | with_reducible apply Shrt.app) (by repeat' first | with_reducible assumption | with_reducible exact Shrt.lit (by decide +kernel) | with_reducible apply Shrt.app) (by omega), ?_⟩
    walk_at "ww"
    refine CW.of (c_wrong_args (n := n) hB (by decide +kernel) (fun a d ex ha hd hex hda hea hed => ?_)) (by first | exact la rfl | exact Nat.le_add_right _ _ | omega)
    walk_at "ww"
    conv => whnf
    rw [e]
    exact RaP.mk (excH_at hda hea) (xc84 hB) (.inl rfl) (x H .refl a d ex ha hd hex hda hea hed)
  · have hodd := hw.resolve_left (Nat.not_lt.mpr hb)
    walk_at "ww"
    refine len_lst hl' ?_
    walk_at "ww"
    refine ⟨by decide, ?_⟩
    have hm : (((AV.str "each" :: r).length : Nat) : Int).fmod 2 = 1 := by
      rw [List.length_cons]
      have := Int.ofNat_fmod (r.length + 1) 2
      rw [hodd] at this; exact this.symm
    rw [hm]
    walk_at "ww"
    refine ItP.lst (v := .str "each") (by decide) (by decide) rfl ?_
    walk_at "ww"
    refine ⟨sz_of (by repeat' first | with_reducible assumption | with_reducible exact Shrt.lit (by decide +kernel) | with_reducible apply Shrt.app) (by repeat' first | with_reducible assumption | with_reducible exact Shrt.lit (by decide +kernel) | with_reducible apply Shrt.app) (by omega), ?_⟩
    walk_at "ww"
    refine CW.of (c_wrong_args (n := n) hB (by decide +kernel) (fun a d ex ha hd hex hda hea hed => ?_)) (by first | exact la rfl | exact Nat.le_add_right _ _ | omega)
    walk_at "ww"
    conv => whnf
    rw [e]
    exact RaP.mk (excH_at hda hea) (xc84 hB) (.inl rfl) (x H .refl a d ex ha hd hex hda hea hed)
end
structure EI' where
  t : Nat
  c : Co
  sp : Nat
  H : AH
  o1 : Option AV
  o2 : Option AV
inductive CoA (fuel : Nat) (deeds : List Deed) (rows : List Row) (fin : End × Co × Nat) (t : Nat) (c : Co) : Prop
  | mk : t ≤ rows.length → t ≤ fuel → c.log.length = t → c.kept.length ≤ t → coreR fuel deeds (rows.drop t) t c = fin → CoA fuel deeds rows fin t c
section
variable {fuel : Nat} {deeds : List Deed} {rows : List Row} {fin : End × Co × Nat} {t : Nat} {c : Co} {d : Deed} {row : Row}
theorem CoA.one (hc : c.log = [] ∧ c.kept = []) (h : coreR fuel deeds rows 0 c = fin) : CoA fuel deeds rows fin 0 c := .mk (Nat.zero_le _) (Nat.zero_le _) (congrArg List.length hc.1) (Nat.le_of_eq (congrArg List.length hc.2)) h
theorem CoA.le (h : CoA fuel deeds rows fin t c) : t ≤ rows.length := by cases h; assumption
theorem CoA.log (h : CoA fuel deeds rows fin t c) : c.log.length = t := by cases h; assumption
theorem CoA.kept (h : CoA fuel deeds rows fin t c) : c.kept.length ≤ t := by cases h; assumption
theorem CoA.stop (h : CoA fuel deeds rows fin t c) (e : rows.length ≤ t) : fin = (.done, c, t) := by
  obtain ⟨_, _, _, _, h⟩ := h
  rw [List.drop_eq_nil_of_le e] at h; exact h.symm
theorem CoA.out (h : CoA fuel deeds rows fin t c) (e : t < rows.length) (hf : fuel < t + 1) : fin = (.fuel, c, t + 1) := by
  obtain ⟨_, h', _, _, h⟩ := h
  rw [List.drop_eq_getElem_cons e] at h; exact h.symm.trans (if_pos (Nat.le_antisymm h' (Nat.le_of_lt_succ hf)))
theorem coNext_kept0 (h : d.code = 0) : (coNext c row d).kept = c.kept ++ [d.value] := if_pos h
theorem coNext_kept (h : d.code ≠ 0) : (coNext c row d).kept = c.kept := if_neg h
theorem coreR_d {rs : List Row} (hd : deeds[t]? = some d) (hf : t ≠ fuel) : coreR fuel deeds (row :: rs) t c = if d.code = 0 ∨ d.code = 4 then coreR fuel deeds rs (t + 1) (coNext c row d) else if d.code = 3 then (.done, coNext c row d, t + 1) else (.thr d.code d.value, coNext c row d, t + 1) := by
  refine (if_neg hf).trans ?_; rw [hd]
theorem CoA.step (h : CoA fuel deeds rows fin t c) (hr : rows[t]? = some row) (hd : deeds[t]? = some d) (hf : t < fuel) : (d.code = 0 ∨ d.code = 4 → CoA fuel deeds rows fin (t + 1) (coNext c row d)) ∧ (d.code = 3 → fin = (.done, coNext c row d, t + 1)) ∧
    (d.code ≠ 0 → d.code ≠ 3 → d.code ≠ 4 → fin = (.thr d.code d.value, coNext c row d, t + 1)) := by
  obtain ⟨hlt, hr⟩ := List.getElem?_eq_some_iff.mp hr
  obtain ⟨_, _, hl, hk, h⟩ := h
  rw [List.drop_eq_getElem_cons hlt, hr, coreR_d hd (Nat.ne_of_lt hf)] at h
  refine ⟨fun e => ?_, fun e => ?_, fun e0 e3 e4 => ?_⟩
  · rw [if_pos e] at h
    refine .mk hlt hf ((List.length_append).trans (by rw [hl]; rfl)) ?_ h
    by_cases e0 : d.code = 0
    · rw [coNext_kept0 e0, List.length_append]; exact Nat.succ_le_succ hk
    · rw [coNext_kept e0]; exact Nat.le_succ_of_le hk
  · rw [if_neg (by rw [e]; decide), if_pos e] at h; exact h.symm
  · rw [if_neg (fun q => q.elim e0 e4), if_neg e3] at h; exact h.symm
theorem deed_at (h : t < deeds.length) : deeds[t]? = some deeds[t] := List.getElem?_eq_getElem h
theorem kap_le {keep : Bool} (h : c.kept.length ≤ 1000) : (keptAV keep c).length ≤ 1000 := by
  unfold keptAV; split
  · rw [List.length_map]; exact h
  · exact Nat.zero_le _
end
set_option tactic.hygienic true in
theorem BodyOut.ofD {A : HA} {H : AH} {s : HS} {Q : AV → AH → Prop} {X : Addr → AH → Prop} {d : Deed} (h0 : d.code = 0 → RetH A H s Q (.tup [.int 0, .str d.value])) (h34 : d.code ≠ 0 → d.code = 3 ∨ d.code = 4 → RetH A H s Q (.tup [.int d.code, .str ""]))
    (hx : d.code ≠ 0 → d.code ≠ 3 → d.code ≠ 4 → ThrR A H s d.code (.str d.value) ecNone (lvlOf d.code) X) : BodyOut A H s Q X (outD d) := by
  unfold outD
  split
  · exact h0 (by assumption)
  · unfold BodyOut
    dsimp only
    split
    · exact h34 (by assumption) (by assumption)
    · rename_i e0 e; exact hx e0 (fun q => e (.inl q)) fun q => e (.inr q)
inductive EaP (fuel : Nat) (deeds : List Deed) (rows : List Row) (fin : End × Co × Nat) (t : Nat) (c : Co) (sp : Nat) : Prop
  | go : CoA fuel deeds rows fin t c → sp = t → EaP fuel deeds rows fin t c sp
  | brk : rows.length ≤ t → fin = (.done, c, sp) → EaP fuel deeds rows fin t c sp
structure EaI (A : HA) (H : AH) (it : Addr) (rowsH : List Row) (deeds : List Deed) (fuel : Nat) (keep : Bool) (turn : Option Int) (rows : List Row) (fin : End × Co × Nat) (i : EI') : Prop where
  S : Sees i.H A (hsOf rowsH deeds fuel keep turn i.c i.sp)
  k : Keep A H i.H
  hk : i.H it = some (.list (i.c.kept.map .str))
  le : i.c.kept.length ≤ 100
  kv : ∀ y ∈ i.c.kept, y ∈ okVals
  p : EaP fuel deeds rows fin i.t i.c i.sp
section
variable {A : HA} {H : AH} {it : Addr} {rowsH : List Row} {deeds : List Deed} {fuel : Nat} {keep : Bool} {turn : Option Int} {rows : List Row} {fin : End × Co × Nat} {i : EI'} {H3 : AH} {c : Co} {t t' : Nat} {d : Deed} {row : Row} {o1 o2 : Option AV}
theorem EaI.stop (h : EaI A H it rowsH deeds fuel keep turn rows fin i) (e : rows.length ≤ i.t) : fin = (.done, i.c, i.sp) := by
  cases h.p with
  | go C q => rw [q]; exact C.stop e
  | brk _ q => exact q
theorem EaI.go (h : EaI A H it rowsH deeds fuel keep turn rows fin i) (e : i.t < rows.length) : CoA fuel deeds rows fin i.t i.c := by
  cases h.p with
  | go C q => exact C
  | brk q _ => exact absurd e (Nat.not_lt.mpr q)
theorem EaI.S1 (h : EaI A H it rowsH deeds fuel keep turn rows fin i) (e : i.t < rows.length) : Sees i.H A (hsOf rowsH deeds fuel keep turn i.c i.t) := by
  cases h.p with
  | go C q => exact q ▸ h.S
  | brk q _ => exact absurd e (Nat.not_lt.mpr q)
theorem EaI.app (C : CoA fuel deeds rows fin (t + 1) (coNext c row d)) (hR : rows.length ≤ 100) (S : Sees H3 A (hsOf rowsH deeds fuel keep turn (coNext c row d) (t + 1))) (hit : H it = none) (k : Keep A H H3) (hc : it ∉ A.cells) (kv : ∀ y ∈ c.kept, y ∈ okVals) (hd : d.value ∈ okVals) (h0 : d.code = 0) :
    EaI A H it rowsH deeds fuel keep turn rows fin ⟨t + 1, coNext c row d, t + 1, H3.put it (some (.list (c.kept.map .str ++ [.str d.value]))), o1, o2⟩ := by
  refine ⟨S.put hc, k.own hit, ?_, Nat.le_trans C.kept (Nat.le_trans C.le hR), ?_, .go C rfl⟩
  · dsimp only; rw [coNext_kept0 h0, List.map_append]; exact HG.here
  · dsimp only; rw [coNext_kept0 h0]; intro y hy
    exact (List.mem_append.mp hy).elim (kv y) fun h => List.mem_singleton.mp h ▸ hd
theorem EaI.same (P : EaP fuel deeds rows fin t' (coNext c row d) (t + 1)) (S : Sees H3 A (hsOf rowsH deeds fuel keep turn (coNext c row d) (t + 1))) (k : Keep A H H3) (hk : H3 it = some (.list (c.kept.map .str))) (le : c.kept.length ≤ 100) (kv : ∀ y ∈ c.kept, y ∈ okVals) (h0 : d.code ≠ 0) :
    EaI A H it rowsH deeds fuel keep turn rows fin ⟨t', coNext c row d, t + 1, H3, o1, o2⟩ := by
  refine ⟨S, k, ?_, ?_, ?_, P⟩ <;> (dsimp only; rw [coNext_kept h0]; assumption)
theorem fmod2 (k : Nat) : ((2 * k + 2 : Nat) : Int).fmod 2 = 0 := by
  rw [show (2 * k + 2 : Nat) = 2 * (k + 1) from rfl, Int.natCast_mul]; exact Int.mul_fmod_right ..
end
section
variable {B : BC} {n : Nat} (hB : KB B) {H : AH} {A : HA} {s : HS} {Q : AV → AH → Prop} {X : Addr → AH → Prop}
include hB
theorem sp_bd {keep : Bool} {s : HS} {d : Deed} (hd : s.depth < 39) (hdd : s.deeds[s.log.length]? = some d) (hl : s.log.length ≤ 1000) (hkl : s.kept.length ≤ 1000) : RunSp B (n + 8) A (bdW keep) s (bdS keep s d) (outD d) := by
  cases keep with
  | true => exact sp_keep hB hd hdd hl hkl
  | false => exact fun H Q X S q => CallP.mono (sp_body (n := n) hB (by omega) hdd hl H Q X S q) (by omega)
theorem sp_round {rowsH : List Row} {deeds : List Deed} {fuel : Nat} {keep : Bool} {turn : Option Int} {c : Co} {t : Nat} {row : Row} {d : Deed} (hd : deeds[t]? = some d) (hl : c.log.length = t) (ht : t ≤ 1000) (hk : (keptAV keep c).length ≤ 1000) :
    RunSp B (n + 8) A (bdW keep) (writesS { hsOf rowsH deeds fuel keep turn c t with spent := ((t : Nat) : Int) + 1 } row) (hsOf rowsH deeds fuel keep turn (coNext c row d) (t + 1)) (outD d) := by
  have e := (writesS_eq { hsOf rowsH deeds fuel keep turn c t with spent := ((t : Nat) : Int) + 1 } row)
  rw [← bdS_of (keep := keep) (r := row) (d := d)]
  exact sp_bd hB (by rw [e.2.1]; exact (by decide : (0 : Int) < 39)) (by rw [e.2.2.1, e.1]; exact (congrArg (deeds[·]?) hl).trans hd) (by rw [e.1]; exact Nat.le_trans (Nat.le_of_eq hl) ht) (by rw [e.2.2.2.2.2.1]; exact hk)
omit hB in
theorem wordsG_last (gs : List GD) (w : Str) : (wordsG gs w).getLast? = some (.str w) := by rw [wordsG, ← List.cons_append, List.getLast?_append]; rfl
theorem c_run_each {gs : List GD} {lm keep : Bool} {rowsH : List Row} {deeds : List Deed} {fuel : Nat} {turn : Option Int} {c0 : Co} {fin : End × Co × Nat} (S : Sees H A (hsOf rowsH deeds fuel keep turn c0 0)) (ok : ∀ g ∈ gs, g.Ok) (hn1 : 1 ≤ gs.length) (hn : gs.length ≤ 10) (hdl : deeds.length ≤ 100) (hR : maxN gs 0 ≤ deeds.length)
    (okD : ∀ d ∈ deeds, d.code = 0 → d.value ∈ okVals) (hc0 : c0.log = [] ∧ c0.kept = []) (hfin : coreR fuel deeds ((List.range (maxN gs 0)).map (rowOf gs)) 0 c0 = fin)
    (x : ∀ w e, refGs lm gs = some (w, e) → RaisesE H X 1 (.str w) e 0)
    (q : refGs lm gs = none → EndH A H (hsOf rowsH deeds fuel keep turn fin.2.1 fin.2.2) Q X (.str (if lm = true then joinL fin.2.1.kept else "")) fin.1) : CallP B (n + 10) (.ref 364) [.ref A.h, .lst (wordsG gs (bdW keep)), .str (kd lm)] H Q X := by
  refine c_defm [false, false, false, false, false, true] hB ["host", "words", "kind", "groups", "rounds", "kept", "turn", "code", "value"] [("len", .blt "len"), ("wrong_args", .ref 146), ("each_groups", .ref 350), ("set_round", .ref 357), ("run_body", .ref 329), ("join_list", .ref 322)] (by k_is) (by k_is) (by k_is) rfl (fn_ok (.blt hB (by k_is) rfl rfl (.fn hB (by k_is) rfl (.fn hB (by k_is) rfl (.fn hB (by k_is) rfl (.fn hB (by k_is) rfl (.fn hB (by k_is) rfl .nil)))))) rfl) rfl (by dsimp only [mkLoc, List.map]) (fun rs hr => ?_) (fun f hn' hg hp => ?_)
  · exact len3 hr fun _ _ _ => rfl
  have hwl := wordsG_len gs (bdW keep)
  have hw1 : 2 * gs.length + 2 ≤ 1000 := Nat.le_trans (Nat.add_le_add_right (Nat.mul_le_mul_left 2 hn) 2) (by decide)
  have hN : ((List.range (maxN gs 0)).map (rowOf gs)).length = maxN gs 0 := by rw [List.length_map, List.length_range]
  have hN100 := Nat.le_trans (Nat.le_of_eq hN) (Nat.le_trans hR hdl)
  walk_at "ww"
  refine len_lst (Nat.le_trans (Nat.le_of_eq hwl) hw1) ?_
  rw [hwl]
  walk_at "ww"
  conv => whnf
  refine br_lt (b := 4) (fun h => absurd (Nat.lt_of_lt_of_le h (Nat.add_le_add_right (Nat.mul_le_mul_left 2 hn1) 2)) (Nat.lt_irrefl _)) fun _ => ?_
  walk_at "ww"
  refine len_lst (Nat.le_trans (Nat.le_of_eq hwl) hw1) ?_
  rw [hwl]
  walk_at "ww"
  refine ⟨by decide, ?_⟩
  rw [fmod2]
  walk_at "ww"
  refine CW.of (c_each_groups (n := n + 1) (last := bdW keep) hB ok hn (fun href => ?_) (fun w e h => x w e h)) (by first | exact la rfl | exact Nat.le_add_right _ _ | omega)
  have q := q href
  walk_at "ww"
  refine LsP.cel (fun it hit => ?_)
  have hitA : it ∉ A.cells := S.off hit
  walk_at "ww"
  refine ⟨?_⟩
  refine WH.ind (st := fun i : EI' => ⟨[some (.ref A.h), some (.lst (wordsG gs (bdW keep))), some (.str (kd lm)), some (.lst (gs.map GD.av)), some (.int (maxN gs 0 : Nat)), some (.ref it), some (.int (i.t : Nat)), i.o1, i.o2], i.H⟩)
    (EaI A H it rowsH deeds fuel keep turn ((List.range (maxN gs 0)).map (rowOf gs)) fin) (fun i => maxN gs 0 ≤ i.t) (fun i => maxN gs 0 - i.t)
    ⟨0, c0, 0, H.put it (some (.list [])), none, none⟩ ⟨S.put hitA, Keep.refl.own hit, HG.here.trans (by rw [hc0.2]; rfl), Nat.le_trans (Nat.le_of_eq (congrArg List.length hc0.2)) (Nat.zero_le _), (fun y h => by rw [hc0.2] at h; cases h), .go (.one hc0 hfin) rfl⟩ (fun i hi hE => ?_) (fun i hi fin' ih => ?_)
  · rw [hi.stop (Nat.le_trans (Nat.le_of_eq hN) hE)] at q
    cases lm with
    | false =>
      walk_at "ww"
      exact q i.H hi.S hi.k
    | true =>
      refine cafn hB (by k_is) (by k_is) ?_
      refine NmP.frz (by repeat constructor) hi.hk ?_
      refine CW.of (c_join_list (n := n) hB hi.kv (Nat.le_trans hi.le (by decide)) ?_) (by first | exact la rfl | exact Nat.le_add_right _ _ | omega)
      exact q _ (hi.S.put hitA) (hi.k.own hit)
  · refine wh_stepm [false, false, false, false, false, true] hn' hg 60 ?_
    walk_at "ww"
    conv => whnf
    refine br_lt (fun hlt => ?_) fin'
    have hlt' : i.t < ((List.range (maxN gs 0)).map (rowOf gs)).length := Nat.lt_of_lt_of_le hlt (Nat.le_of_eq hN.symm)
    have hdt := Nat.lt_of_lt_of_le hlt hR
    have ht1 : i.t ≤ 1000 := Nat.le_trans (Nat.le_of_lt hdt) (Nat.le_trans hdl (by decide))
    have C := hi.go hlt'
    have S' := hi.S1 hlt'
    walk_at "ww"
    refine MeP.own rfl (m622_spend hB) (.inl S'.h) S'.hd rfl ?_
    walk_at "ww"
    refine CW.of (c_spend (n := n) hB S' (fun hle => ?_) (fun hgt => ?_)) (by first | exact la rfl | exact Nat.le_add_right _ _ | omega)
    · have st := C.step (row := rowOf gs i.t) (by rw [List.getElem?_map, List.getElem?_range hlt]; rfl) (deed_at hdt) (Int.ofNat_le.mp hle)
      intro H1 S1 k1
      walk_at "ww"
      refine CW.of (c_set_round (n := n) (turn := i.t) hB S1 ok ht1 (fun H2 S2 k2 => ?_)) (by first | exact la rfl | exact Nat.le_add_right _ _ | omega)
      walk_at "ww"
      refine ItP.last (v := .str (bdW keep)) (wordsG_last gs _) ?_
      walk_at "ww"
      refine CW.of (c_run_body (n := n + 8) (s1 := hsOf rowsH deeds fuel keep turn (coNext i.c (rowOf gs i.t) deeds[i.t]) (i.t + 1)) (o := outD deeds[i.t]) hB S2 (sp_round hB (deed_at hdt) C.log ht1 (kap_le (Nat.le_trans C.kept ht1))) (.ofD (fun h0 => ?_) (fun h0 h34 => ?_) fun h0 h3 h4 => ?_)) (by first | exact la rfl | exact Nat.le_add_right _ _ | omega)
      · intro H3 S3 k3
        have k13 := (k1.trans k2).trans k3
        have hk3 := k13 _ _ hi.hk hitA
        walk_at "ww"
        refine MeP.append hk3 ?_
        walk_at "ww"
        refine ApP.mk hk3 (by rw [List.length_map]; exact le_line1 (Nat.le_trans C.kept ht1)) ?_
        walk_at "ww"
        exact ih _ (EaI.app (st.1 (.inl h0)) hN100 S3 hit (hi.k.trans k13) hitA hi.kv (okD _ (List.getElem_mem hdt) h0) h0) (Nat.sub_lt_sub_left hlt (Nat.lt_succ_self i.t))
      · intro H3 S3 k3
        have k13 := (k1.trans k2).trans k3
        have hk3 := k13 _ _ hi.hk hitA
        walk_at "ww"
        conv => whnf
        refine br_ie (fun e => absurd e h0) fun _ => ?_
        walk_at "ww"
        conv => whnf
        refine br_ie (fun h3 => ?_) fun h3 => ?_
        · walk_at "ww"
          exact ih ⟨maxN gs 0, _, _, H3, _, _⟩ (EaI.same (.brk (Nat.le_of_eq hN) (st.2.1 h3)) S3 (hi.k.trans k13) hk3 hi.le hi.kv h0) (Nat.sub_lt_sub_left hlt hlt)
        · walk_at "ww"
          exact ih ⟨i.t + 1, _, _, H3, _, _⟩ (EaI.same (.go (st.1 (.inr (h34.resolve_left h3))) rfl) S3 (hi.k.trans k13) hk3 hi.le hi.kv h0) (Nat.sub_lt_sub_left hlt (Nat.lt_succ_self i.t))
      · rw [st.2.2 h0 h3 h4] at q
        exact ThrR.keep q (hi.k.trans (k1.trans k2))
    · rw [C.out hlt' (Int.ofNat_lt.mp hgt)] at q
      exact ThrF.keep q hi.k
end
structure FI where
  t : Nat
  c : Co
  sp : Nat
  H : AH
  go : Bool
  o : Option AV
noncomputable def forWords : List AV := [.str "for", .str "start", .str "more", .str "next", .str "turn"]
inductive FoP (fuel : Nat) (deeds : List Deed) (rows : List Row) (fin : End × Co × Nat) (t : Nat) (c : Co) (sp : Nat) : Bool → Prop
  | go : CoA fuel deeds rows fin t c → sp = t → FoP fuel deeds rows fin t c sp true
  | no : fin = (.done, c, sp) → FoP fuel deeds rows fin t c sp false
structure FoI (A : HA) (H : AH) (rows : List Row) (deeds : List Deed) (fuel : Nat) (fin : End × Co × Nat) (i : FI) : Prop where
  S : Sees i.H A (hsOf rows deeds fuel true (some (i.t : Nat)) i.c i.sp)
  k : Keep A H i.H
  p : FoP fuel deeds rows fin i.t i.c i.sp i.go
section
variable {A : HA} {H : AH} {rows : List Row} {deeds : List Deed} {fuel : Nat} {fin : End × Co × Nat} {i : FI}
theorem FoP.to {t : Nat} {c : Co} {sp : Nat} {b : Bool} (h : FoP fuel deeds rows fin t c sp b) : (b = true → CoA fuel deeds rows fin t c ∧ sp = t) ∧ (b = false → fin = (.done, c, sp)) := by
  cases h with
  | go C e => exact ⟨fun _ => ⟨C, e⟩, fun h => nomatch h⟩
  | no e => exact ⟨(nomatch ·), fun _ => e⟩
theorem FoI.S1 (h : FoI A H rows deeds fuel fin i) (e : i.go = true) : Sees i.H A (hsOf rows deeds fuel true (some (i.t : Nat)) i.c i.t) := (h.p.to.1 e).2 ▸ h.S
theorem FoI.stop (h : FoI A H rows deeds fuel fin i) (e : i.go = true) (hge : rows.length ≤ i.t) : fin = (.done, i.c, i.sp) := (h.p.to.1 e).2.symm ▸ (h.p.to.1 e).1.stop hge
theorem fm_next (h : i.go = true) (hlt : i.t < rows.length) : cond true (rows.length - (i.t + 1) + 1) 0 < cond i.go (rows.length - i.t + 1) 0 := by rw [h]; exact Nat.succ_lt_succ (Nat.sub_lt_sub_left hlt (Nat.lt_succ_self _))
theorem fm_stop {k : Nat} (h : i.go = true) : cond false k 0 < cond i.go (rows.length - i.t + 1) 0 := by rw [h]; exact Nat.succ_pos _
end
section
variable {B : BC} {n : Nat} (hB : KB B) {H : AH} {A : HA} {s : HS} {Q : AV → AH → Prop} {X : Addr → AH → Prop}
include hB
theorem sp_round_t {rows : List Row} {deeds : List Deed} {fuel : Nat} {c : Co} {t : Nat} {row : Row} {d : Deed} (hr : rows[t]? = some row) (hd : deeds[t]? = some d) (hl : c.log.length = t) (ht : t ≤ 1000) (hk : (keptAV true c).length ≤ 1000) :
    RunSp B (n + 8) A "turn" { hsOf rows deeds fuel true (some ((t : Nat) : Int)) c t with spent := ((t : Nat) : Int) + 1 } (hsOf rows deeds fuel true (some ((t : Nat) : Int)) (coNext c row d) (t + 1)) (outD d) := by
  rw [← bdS_of (keep := true) (r := row) (d := d)]
  exact sp_turn hB (by exact (by decide : (0 : Int) < 39)) rfl ht hr ((congrArg (deeds[·]?) hl).trans hd) (Nat.le_trans (Nat.le_of_eq hl) ht) hk
theorem c_run_for {rows : List Row} {deeds : List Deed} {fuel : Nat} {c0 : Co} {fin : End × Co × Nat} (S : Sees H A (hsOf rows deeds fuel true none c0 0)) (hdl : deeds.length ≤ 100) (hR : rows.length ≤ deeds.length)
    (hc0 : c0.log = [] ∧ c0.kept = []) (hfin : coreR fuel deeds rows 0 c0 = fin) (q : ∀ tn, EndH A H (hsOf rows deeds fuel true tn fin.2.1 fin.2.2) Q X (.str "") fin.1) : CallP B (n + 10) (.ref 343) [.ref A.h, .lst forWords] H Q X := by
  refine c_def hB ["host", "words", "goes_on", "code"] [("len", .blt "len"), ("wrong_args", .ref 146), ("truth", .ref 230), ("run_body", .ref 329), ("run_next", .ref 336)] (by k_is) (by k_is) (by k_is) rfl (fn_ok (.blt hB (by k_is) rfl rfl (.fn hB (by k_is) rfl (.fn hB (by k_is) rfl (.fn hB (by k_is) rfl (.fn hB (by k_is) rfl .nil))))) rfl) rfl (by dsimp only [mkLoc, List.map]) (fun rs hr => ?_) (fun f hn hg hp => ?_)
  · exact len2 hr fun _ _ => rfl
  walk_at "ww"
  refine BlP.len_l (by decide) ?_
  walk_at "ww"
  refine MeP.own rfl (m622_run hB) (.inl S.h) S.hd rfl ?_
  walk_at "ww"
  refine ItP.lst (v := .str "start") (by decide) (by decide) rfl ?_
  walk_at "ww"
  refine CW.of (sp_start (n := n) hB (by show (0 : Int) < 40; decide) rfl _ _ _ S (fun H1 S1 k1 => ?_)) (by first | exact la rfl | exact Nat.le_add_right _ _ | omega)
  walk_at "ww"
  refine ⟨?_⟩
  refine WH.ind (st := fun i : FI => ⟨[some (.ref A.h), some (.lst forWords), some (.bool i.go), i.o], i.H⟩)
    (FoI A H rows deeds fuel fin) (fun i => fin = (.done, i.c, i.sp)) (fun i => cond i.go (rows.length - i.t + 1) 0)
    ⟨0, c0, 0, H1, true, none⟩ ⟨S1, k1, .go (.one hc0 hfin) rfl⟩ (fun i hi hE => ?_) (fun i hi fin' ih => ?_)
  · have q := q (some (i.t : Nat))
    rw [hE] at q
    walk_at "ww"
    exact q i.H hi.S hi.k
  · refine wh_step hn hg 60 ?_
    walk_at "ww"
    conv => whnf
    refine br_of (fun hgo => ?_) fun hgo => fin' (hi.p.to.2 hgo)
    have C := (hi.p.to.1 hgo).1
    have S' := hi.S1 hgo
    have q := q (some (i.t : Nat))
    walk_at "ww"
    refine ItP.lst (v := .str "more") (by decide) (by decide) rfl ?_
    walk_at "ww"
    refine CW.of (c_truth (n := n) (t := (i.t : Nat)) hB S' rfl (Nat.le_trans hR (Nat.le_trans hdl (by decide))) ?_) (by first | exact la rfl | exact Nat.le_add_right _ _ | omega)
    walk_at "ww"
    conv => whnf
    refine br_lt (fun hlt => ?_) fun hge => fin' (hi.stop hgo hge)
    have hdt := Nat.lt_of_lt_of_le hlt hR
    have ht1 : i.t ≤ 1000 := Nat.le_trans (Nat.le_of_lt hdt) (Nat.le_trans hdl (by decide))
    walk_at "ww"
    refine MeP.own rfl (m622_spend hB) (.inl S'.h) S'.hd rfl ?_
    walk_at "ww"
    refine CW.of (c_spend (n := n) hB S' (fun hle => ?_) (fun hgt => ?_)) (by first | exact la rfl | exact Nat.le_add_right _ _ | omega)
    · have hr : rows[i.t]? = some rows[i.t] := List.getElem?_eq_getElem hlt
      have st := C.step hr (deed_at hdt) (Int.ofNat_le.mp hle)
      intro H1 S1 k1
      walk_at "ww"
      refine ItP.lst (v := .str "turn") (by decide) (by decide) rfl ?_
      walk_at "ww"
      refine CW.of (c_run_body (n := n + 8) (s1 := hsOf rows deeds fuel true (some ((i.t : Nat) : Int)) (coNext i.c rows[i.t] deeds[i.t]) (i.t + 1)) (o := outD deeds[i.t]) hB S1 (sp_round_t hB hr (deed_at hdt) C.log ht1 (kap_le (Nat.le_trans C.kept ht1))) (.ofD (fun h0 => ?_) (fun h0 h34 => ?_) fun h0 h3 h4 => ?_)) (by first | exact la rfl | exact Nat.le_add_right _ _ | omega)
      · intro H3 S3 k3
        walk_at "ww"
        refine ItP.tup (v := .int 0) (by decide) (by decide) rfl ?_
        walk_at "ww"
        refine ItP.lst (v := .str "next") (by decide) (by decide) rfl ?_
        walk_at "ww"
        refine CW.of (c_run_next (n := n + 2) (v := .str "") hB S3 (sp_next (n := n) (t := i.t) hB (by show (0 : Int) < 40; decide) rfl) (fun H4 S4 k4 => ?_)) (by first | exact la rfl | exact Nat.le_add_right _ _ | omega)
        walk_at "ww"
        exact ih ⟨i.t + 1, _, i.t + 1, H4, true, _⟩ ⟨S4, ((hi.k.trans k1).trans k3).trans k4, .go (st.1 (.inl h0)) rfl⟩ (fm_next hgo hlt)
      · intro H3 S3 k3
        walk_at "ww"
        refine ItP.tup (v := .int deeds[i.t].code) (by decide) (by decide) rfl ?_
        walk_at "ww"
        conv => whnf
        refine br_in (fun h3 => ?_) fun h3 => ?_
        · walk_at "ww"
          refine ItP.lst (v := .str "next") (by decide) (by decide) rfl ?_
          walk_at "ww"
          refine CW.of (c_run_next (n := n + 2) (v := .str "") hB S3 (sp_next (n := n) (t := i.t) hB (by show (0 : Int) < 40; decide) rfl) (fun H4 S4 k4 => ?_)) (by first | exact la rfl | exact Nat.le_add_right _ _ | omega)
          walk_at "ww"
          exact ih ⟨i.t + 1, _, i.t + 1, H4, true, _⟩ ⟨S4, ((hi.k.trans k1).trans k3).trans k4, .go (st.1 (.inr (h34.resolve_left h3))) rfl⟩ (fm_next hgo hlt)
        · walk_at "ww"
          exact ih ⟨i.t, _, i.t + 1, H3, false, _⟩ ⟨S3, (hi.k.trans k1).trans k3, .no (st.2.1 h3)⟩ (fm_stop hgo)
      · rw [st.2.2 h0 h3 h4] at q
        exact ThrR.keep q (hi.k.trans k1)
    · rw [C.out hlt (Int.ofNat_lt.mp hgt)] at q
      exact ThrF.keep q hi.k
end
noncomputable abbrev varEs0 (vt : Addr) (v : VS) : List (Str × AV) := [("kind", .str v.kind), ("value", .str v.value), ("traces", .ref vt), ("is_busy", .bool false), ("is_element", .bool false), ("writes", .int v.writes)]
noncomputable abbrev hostEs9 (t i : Addr) (fuel : Int) : List (Str × AV) := [("tools", .ref t), ("inline", .ref i), ("limit", .int 40), ("fuel", .int fuel), ("depth", .int 0), ("spent", .int 0), ("epoch", .int 0), ("frame", .none), ("coroutine", .none)]
noncomputable abbrev hostEs12 (t i v c f : Addr) (fuel : Int) : List (Str × AV) := [("tools", .ref t), ("inline", .ref i), ("limit", .int 40), ("fuel", .int fuel), ("depth", .int 0), ("spent", .int 0), ("epoch", .int 0), ("frame", .none), ("coroutine", .none), ("vars", .ref v), ("commands", .ref c), ("firsts", .ref f)]
theorem dfl393 {B : BC} : ∃ t1 n, (kk.heap_1 B.w.params).lookup 393 = some ⟨.type "tuple", none, .seq #[.int 40 t1, .none] n, #[]⟩ := ⟨_, _, by k_is⟩
theorem dfl513 {B : BC} : ∃ t1 n, (kk.heap_1 B.w.params).lookup 513 = some ⟨.type "tuple", none, .seq #[.int 40 t1, .none] n, #[]⟩ := ⟨_, _, by k_is⟩
section
variable {B : BC} {n : Nat} (hB : KB B) {H : AH} {Q : AV → AH → Prop} {X : Addr → AH → Prop}
include hB
theorem c_var_init {x d : Addr} (hx : H x = some (.inst 381 d)) (hd : H d = some (.ns [])) (q : ∀ vt, H vt = none → Q .none ((H.put vt (some (.list []))).put d (some (.ns (varEs0 vt ⟨false, "", 0⟩))))) : CallP B (n + 1) (.ref 378) [.ref x] H Q X := by
  have hxd : x ≠ d := fun e => by rw [e, hd] at hx; cases hx
  refine c_def hB ["self"] [] (by k_is) (by k_is) (by k_is) rfl (fn_ok .nil rfl) rfl (by dsimp only [mkLoc, List.map]) (fun rs hr => ?_) (fun f hn hg hp => ?_)
  · exact len1 hr fun _ => rfl
  walk_at "ww"
  refine SaP.new (s381_kind hB) (.inl hx) hd rfl rfl ?_
  have hi : ∀ c, (H.put d c) x = some (.inst 381 d) := fun c => HG.ne hxd hx
  walk_at "ww"
  refine SaP.new (s381_value hB) (.inl (hi _)) HG.here rfl rfl ?_
  rw [AH.put_twice]
  walk_at "ww"
  refine LsP.cel (fun vt hvt => ?_)
  have hed : vt ≠ d := AH.new_ne hvt HG.here
  have hex : vt ≠ x := AH.new_ne hvt (hi _)
  have hi2 : ∀ c c', ((H.put vt c).put d c') x = some (.inst 381 d) := fun c c' => HG.ne hxd (HG.ne hex.symm hx)
  walk_at "ww"
  refine SaP.new (s381_traces hB) (.inl (HG.ne hex.symm (hi _))) (HG.ne hed.symm HG.here) rfl rfl ?_
  rw [AH.back hed]
  walk_at "ww"
  refine SaP.new (s381_is_busy hB) (.inl (hi2 _ _)) HG.here rfl rfl ?_
  rw [AH.put_twice]
  walk_at "ww"
  refine SaP.new (s381_is_element hB) (.inl (hi2 _ _)) HG.here rfl rfl ?_
  rw [AH.put_twice]
  walk_at "ww"
  refine SaP.new (s381_writes hB) (.inl (hi2 _ _)) HG.here rfl rfl ?_
  rw [AH.put_twice]
  walk_at "ww"
  exact q vt ((if_neg hed).symm.trans hvt)
theorem c_host_init {x d : Addr} {fuel : Int} (hx : H x = some (.inst 622 d)) (hd : H d = some (.ns [])) (q : ∀ t i, H t = none → H i = none → i ≠ t → Q .none (((H.put t (some (.dict []))).put i (some (.dict []))).put d (some (.ns (hostEs9 t i fuel))))) : CallP B (n + 1) (.ref 400) [.ref x, .int 40, .int fuel] H Q X := by
  have hxd : x ≠ d := fun e => by rw [e, hd] at hx; cases hx
  obtain ⟨t1, nn, h393⟩ := dfl393 (B := B)
  refine c_defd hB ["self", "limit", "fuel"] [] (dv := []) [] (by k_is) (by k_is) (by k_is) rfl (fn_ok .nil rfl) rfl (by dsimp only [mkLoc, List.map, List.cons_append, List.nil_append]) (fun s rs hK hr => ?_) (fun P h hK hP => .nil) (fun f hn hg hp => ?_)
  · exact len3 hr fun _ _ _ => BindsTo.of_defaults rfl (hK _ _ h393) rfl rfl rfl
  walk_at "ww"
  refine ⟨fun t ht => ?_⟩
  have htd : t ≠ d := AH.new_ne ht hd
  have htx : t ≠ x := AH.new_ne ht hx
  walk_at "ww"
  refine SaP.new (s622_tools hB) (.inl (HG.ne htx.symm hx)) (HG.ne htd.symm hd) rfl rfl ?_
  walk_at "ww"
  refine ⟨fun i hi => ?_⟩
  have hid : i ≠ d := AH.new_ne hi HG.here
  have hix : i ≠ x := AH.new_ne hi (HG.ne hxd (HG.ne htx.symm hx))
  have hit : i ≠ t := AH.new_ne hi (HG.ne htd HG.here)
  have hh : ∀ c c' c'', (((H.put t c).put i c').put d c'') x = some (.inst 622 d) := fun c c' c'' => HG.ne hxd (HG.ne hix.symm (HG.ne htx.symm hx))
  walk_at "ww"
  refine SaP.new (s622_inline hB) (.inl (HG.ne hix.symm (HG.ne hxd (HG.ne htx.symm hx)))) (HG.ne hid.symm HG.here) rfl rfl ?_
  rw [AH.back hid]
  walk_at "ww"
  refine SaP.new (s622_limit hB) (.inl (hh _ _ _)) HG.here rfl rfl ?_
  rw [AH.put_twice]
  walk_at "ww"
  refine SaP.new (s622_fuel hB) (.inl (hh _ _ _)) HG.here rfl rfl ?_
  rw [AH.put_twice]
  walk_at "ww"
  refine SaP.new (s622_depth hB) (.inl (hh _ _ _)) HG.here rfl rfl ?_
  rw [AH.put_twice]
  walk_at "ww"
  refine SaP.new (s622_spent hB) (.inl (hh _ _ _)) HG.here rfl rfl ?_
  rw [AH.put_twice]
  walk_at "ww"
  refine SaP.new (s622_epoch hB) (.inl (hh _ _ _)) HG.here rfl rfl ?_
  rw [AH.put_twice]
  walk_at "ww"
  refine SaP.new (s622_frame hB) (.inl (hh _ _ _)) HG.here rfl rfl ?_
  rw [AH.put_twice]
  walk_at "ww"
  refine SaP.new (s622_coroutine hB) (.inl (hh _ _ _)) HG.here rfl rfl ?_
  rw [AH.put_twice]
  walk_at "ww"
  have hi0 : H i = none := (if_neg hit).symm.trans ((if_neg hid).symm.trans hi)
  exact q t i ht hi0 hit
theorem c_small_init {x d : Addr} {fuel : Int} (hx : H x = some (.inst 622 d)) (hd : H d = some (.ns [])) (q : ∀ t i v c f, H t = none → H i = none → H v = none → H c = none → H f = none → i ≠ t → v ≠ t → v ≠ i → c ≠ v → f ≠ v → c ≠ t → f ≠ t →
    ∀ H', (∀ b k, H b = some k → b ≠ d → H' b = some k) → H' d = some (.ns (hostEs12 t i v c f fuel)) → H' v = some (.dict []) → H' t = some (.dict []) → Q .none H') : CallP B (n + 2) (.ref 520) [.ref x, .int 40, .int fuel] H Q X := by
  have hxd : x ≠ d := fun e => by rw [e, hd] at hx; cases hx
  obtain ⟨t1, nn, h513⟩ := dfl513 (B := B)
  refine c_defd hB ["self", "limit", "fuel"] [("Host", .ref 466)] (dv := []) [] (by k_is) (by k_is) (by k_is) rfl (fn_ok (.fn hB (by k_is) rfl .nil) rfl) rfl (by dsimp only [mkLoc, List.map, List.cons_append, List.nil_append]) (fun s rs hK hr => ?_) (fun P h hK hP => .nil) (fun f hn hg hp => ?_)
  · exact len3 hr fun _ _ _ => BindsTo.of_defaults rfl (hK _ _ h513) rfl rfl rfl
  walk_at "ww"
  refine MeP.cls rfl (cm466 hB) ?_
  walk_at "ww"
  refine CW.of (c_host_init (n := n) hB hx hd fun t i ht hi hit => ?_) (by first | exact la rfl | exact Nat.le_add_right _ _ | omega)
  have htd : t ≠ d := AH.new_ne ht hd
  have htx : t ≠ x := AH.new_ne ht hx
  have hid : i ≠ d := AH.new_ne hi hd
  have hix : i ≠ x := AH.new_ne hi hx
  have h1 : ∀ b k, H b = some k → b ≠ d → (((H.put t (some (.dict []))).put i (some (.dict []))).put d (some (.ns (hostEs9 t i fuel)))) b = some k := fun b k e hb => HG.ne hb (HG.ne (AH.new_ne hi e).symm (HG.ne (AH.new_ne ht e).symm e))
  have h2 : (((H.put t (some (.dict []))).put i (some (.dict []))).put d (some (.ns (hostEs9 t i fuel)))) d = some (.ns (hostEs9 t i fuel)) := HG.here
  have h3 : (((H.put t (some (.dict []))).put i (some (.dict []))).put d (some (.ns (hostEs9 t i fuel)))) t = some (.dict []) := HG.ne htd (HG.ne hit.symm HG.here)
  have h4 : ∀ b, (((H.put t (some (.dict []))).put i (some (.dict []))).put d (some (.ns (hostEs9 t i fuel)))) b = none → H b = none ∧ b ≠ t ∧ b ≠ i ∧ b ≠ d := fun b e => by
    refine ⟨?_, fun q => ?_, fun q => ?_, fun q => ?_⟩
    · cases hb : H b with
      | none => rfl
      | some k =>
        by_cases hbd : b = d
        · subst hbd; rw [h2] at e; cases e
        · rw [h1 b k hb hbd] at e; cases e
    · subst q; rw [h3] at e; cases e
    · subst q; rw [HG.ne hid HG.here] at e; cases e
    · subst q; rw [h2] at e; cases e
  generalize (((H.put t (some (.dict []))).put i (some (.dict []))).put d (some (.ns (hostEs9 t i fuel)))) = H1 at h1 h2 h3 h4 ⊢
  have hx1 := h1 x _ hx hxd
  walk_at "ww"
  refine ⟨fun v hv => ?_⟩
  obtain ⟨hv0, hvt, hvi, hvd⟩ := h4 v hv
  have hvx : v ≠ x := AH.new_ne hv hx1
  walk_at "ww"
  refine SaP.new (s622_vars hB) (.inl (HG.ne hvx.symm hx1)) (HG.ne hvd.symm h2) rfl rfl ?_
  walk_at "ww"
  refine ⟨fun c hc => ?_⟩
  have hcd : c ≠ d := AH.new_ne hc HG.here
  have hcv : c ≠ v := AH.new_ne hc (HG.ne hvd HG.here)
  have hc1 : H1 c = none := (if_neg hcv).symm.trans ((if_neg hcd).symm.trans hc)
  obtain ⟨hc0, hct, hci, _⟩ := h4 c hc1
  have hcx : c ≠ x := AH.new_ne hc1 hx1
  walk_at "ww"
  refine SaP.new (s622_commands hB) (.inl (HG.ne hcx.symm (HG.ne hxd (HG.ne hvx.symm hx1)))) (HG.ne hcd.symm HG.here) rfl rfl ?_
  rw [AH.back hcd]
  walk_at "ww"
  refine ⟨fun fi hf => ?_⟩
  have hfd : fi ≠ d := AH.new_ne hf HG.here
  have hfc : fi ≠ c := AH.new_ne hf (HG.ne hcd HG.here)
  have hfv : fi ≠ v := AH.new_ne hf (HG.ne hvd (HG.ne hcv.symm HG.here))
  have hf1 : H1 fi = none := (if_neg hfv).symm.trans ((if_neg hfc).symm.trans ((if_neg hfd).symm.trans hf))
  obtain ⟨hf0, hft, hfi, _⟩ := h4 fi hf1
  have hfx : fi ≠ x := AH.new_ne hf1 hx1
  walk_at "ww"
  refine SaP.new (s622_firsts hB) (.inl (HG.ne hfx.symm (HG.ne hxd (HG.ne hcx.symm (HG.ne hvx.symm hx1))))) (HG.ne hfd.symm HG.here) rfl rfl ?_
  rw [AH.back hfd]
  walk_at "ww"
  refine q t i v c fi ht hi hv0 hc0 hf0 hit hvt hvi hcv hfv hct hft _ (fun b k e hb => ?_) HG.here ?_ ?_
  · have e1 := h1 b k e hb
    exact HG.ne hb (HG.ne (AH.new_ne hf1 e1).symm (HG.ne (AH.new_ne hc1 e1).symm (HG.ne (AH.new_ne hv e1).symm e1)))
  · exact HG.ne hvd (HG.ne hfv.symm (HG.ne hcv.symm HG.here))
  · exact HG.ne htd (HG.ne hft.symm (HG.ne hct.symm (HG.ne hvt.symm h3)))
end
section
variable {B : BC} {n : Nat} (hB : KB B) {H : AH} {Q : AV → AH → Prop} {X : Addr → AH → Prop}
include hB
theorem c_var_new {bd : Addr} {es : List (Str × AV)} {x : Str} (hbd : H bd = some (.dict es)) (hnew : (es.map (·.1)).all (fun y => !(y == x)) = true) (hsh : short 900 es = true)
    (q : ∀ v d vt H', H v = none → H d = none → H vt = none → v ≠ d → vt ≠ v → vt ≠ d → (∀ b k, H b = some k → b ≠ bd → H' b = some k) → H' bd = some (.dict (es ++ [(x, .ref v)])) → H' v = some (.inst 381 d) → H' d = some (.ns (varEs0 vt ⟨false, "", 0⟩)) → GHas (es ++ [(x, .ref v)]) x (.ref v) → Q (.ref v) H') :
    CallP B (n + 3) (.ref 484) [.ref bd, .str x] H Q X := by
  refine c_def hB ["book", "name"] [("Var", .ref 381)] (by k_is) (by k_is) (by k_is) rfl (fn_ok (.fn hB (by k_is) rfl .nil) rfl) rfl (by dsimp only [mkLoc, List.map]) (fun rs hr => ?_) (fun f hn hg hp => ?_)
  · exact len2 hr fun _ _ => rfl
  have has : ∀ v, GHas (es ++ [(x, .ref v)]) x (.ref v) := fun v => by
    clear hbd hsh q
    induction es with
    | nil => exact .z
    | cons p r ih =>
      rw [List.map_cons, List.all_cons, Bool.and_eq_true] at hnew
      exact .s (ih hnew.2)
  walk_at "ww"
  refine NiP.new hbd hnew ?_
  walk_at "ww"
  intro v d hv hd hvd
  refine CallP.mono (c_var_init (n := n) hB (x := v) (d := d) HG.here (HG.ne hvd.symm HG.here) fun vt hvt => ⟨rfl, ?_⟩) (by first | exact la rfl | exact Nat.le_add_right _ _ | omega)
  have hvtv : vt ≠ v := AH.new_ne hvt HG.here
  have hvtd : vt ≠ d := AH.new_ne hvt (HG.ne hvd.symm HG.here)
  have hvt0 : H vt = none := (if_neg hvtd).symm.trans ((if_neg hvtv).symm.trans hvt)
  walk_at "ww"
  have hbv : bd ≠ v := (AH.new_ne hv hbd).symm
  have hbdd : bd ≠ d := (AH.new_ne hd hbd).symm
  have hbt : bd ≠ vt := (AH.new_ne hvt0 hbd).symm
  refine SsP.new (HG.ne hbdd (HG.ne hbt (HG.ne hbv (HG.ne hbdd hbd)))) hsh hnew ?_
  walk_at "ww"
  refine ItP.dict HG.here (has v) ?_
  walk_at "ww"
  refine q v d vt _ hv hd hvt0 hvd hvtv hvtd (fun b k e hb => ?_) HG.here ?_ ?_ (has v)
  · exact HG.ne hb (HG.ne (AH.new_ne hd e).symm (HG.ne (AH.new_ne hvt0 e).symm (HG.ne (AH.new_ne hv e).symm (HG.ne (AH.new_ne hd e).symm e))))
  · exact HG.ne hbv.symm (HG.ne hvd (HG.ne hvtv.symm HG.here))
  · exact HG.ne hbdd.symm HG.here
theorem c_put0 {v d vt : Addr} {b b0 : Bool} {value value0 : Str} {w : Int} (hv : H v = some (.inst 381 d)) (hd : H d = some (.ns (varEs0 vt ⟨b0, value0, w⟩))) (q : Q (.str value) (H.put d (some (.ns (varEs0 vt ⟨b, value, w + 1⟩))))) : CallP B (n + 1) (.ref 491) [.ref v, .str (kindS b), .str value] H Q X := by
  have hvd : v ≠ d := fun e => by rw [e, hd] at hv; cases hv
  refine c_def hB ["var", "kind", "value"] [] (by k_is) (by k_is) (by k_is) rfl (fn_ok .nil rfl) rfl (by dsimp only [mkLoc, List.map]) (fun rs hr => ?_) (fun f hn hg hp => ?_)
  · exact len3 hr fun _ _ _ => rfl
  walk_at "ww"
  refine SaP.put (s381_kind hB) (.inl hv) hd (by repeat constructor) ?_
  walk_at "ww"
  have hi : ∀ c, (H.put d c) v = some (.inst 381 d) := fun c => HG.ne hvd hv
  refine SaP.put (s381_value hB) (.inl (hi _)) HG.here (by repeat constructor) ?_
  rw [AH.put_twice]
  walk_at "ww"
  refine AtP.own (g381_writes hB) (.inl (hi _)) HG.here (by repeat constructor) (by intro i h; cases h) ?_
  walk_at "ww"
  refine SaP.put (s381_writes hB) (.inl (hi _)) HG.here (by repeat constructor) ?_
  rw [AH.put_twice]
  walk_at "ww"
  exact q
theorem c_write_var0 {h v d vt : Addr} {b0 : Bool} {nm value value0 : Str} {w : Int} (hv : H v = some (.inst 381 d)) (hd : H d = some (.ns (varEs0 vt ⟨b0, value0, w⟩))) (q : Q (.str value) (H.put d (some (.ns (varEs0 vt ⟨true, value, w + 1⟩))))) : CallP B (n + 2) (.ref 548) [.ref h, .ref v, .str nm, .str value] H Q X := by
  refine c_def hB ["self", "var", "name", "value"] [("put_value", .ref 491)] (by k_is) (by k_is) (by k_is) rfl (fn_ok (.fn hB (by k_is) rfl .nil) rfl) rfl (by dsimp only [mkLoc, List.map]) (fun rs hr => ?_) (fun f hn hg hp => ?_)
  · exact len4 hr fun _ _ _ _ => rfl
  walk_at "ww"
  exact CW.of (c_put0 (n := n) (b := true) hB hv hd q) (by first | exact la rfl | exact Nat.le_add_right _ _ | omega)
theorem c_place_new {h hd t i bd c f : Addr} {fuel : Int} {es : List (Str × AV)} {x : Str} (hh : H h = some (.inst 622 hd)) (hhd : H hd = some (.ns (hostEs12 t i bd c f fuel))) (hbd : H bd = some (.dict es)) (hnew : (es.map (·.1)).all (fun y => !(y == x)) = true) (hsh : short 900 es = true)
    (q : ∀ v d vt H', H v = none → H d = none → H vt = none → v ≠ d → vt ≠ v → vt ≠ d → (∀ b k, H b = some k → b ≠ bd → H' b = some k) → H' bd = some (.dict (es ++ [(x, .ref v)])) → H' v = some (.inst 381 d) → H' d = some (.ns (varEs0 vt ⟨false, "", 0⟩)) → Q (.ref v) H') :
    CallP B (n + 4) (.ref 534) [.ref h, .str x] H Q X := by
  refine c_def hB ["self", "name"] [("var_in", .ref 484)] (by k_is) (by k_is) (by k_is) rfl (fn_ok (.fn hB (by k_is) rfl .nil) rfl) rfl (by dsimp only [mkLoc, List.map]) (fun rs hr => ?_) (fun f hn hg hp => ?_)
  · exact len2 hr fun _ _ => rfl
  walk_at "ww"
  refine AtP.own (g622_vars hB) (.inl hh) hhd (by repeat constructor) (by intro i h; cases h) ?_
  walk_at "ww"
  refine CW.of (c_var_new (n := n) hB hbd hnew hsh fun v d vt H' a1 a2 a3 a4 a5 a6 a7 a8 a9 a10 _ => ?_) (by first | exact la rfl | exact Nat.le_add_right _ _ | omega)
  exact q v d vt H' a1 a2 a3 a4 a5 a6 a7 a8 a9 a10
theorem c_write_new {h hd t i bd c f : Addr} {fuel : Int} {es : List (Str × AV)} {x value : Str} (hh : H h = some (.inst 622 hd)) (hhd : H hd = some (.ns (hostEs12 t i bd c f fuel))) (hbd : H bd = some (.dict es)) (hnew : (es.map (·.1)).all (fun y => !(y == x)) = true) (hsh : short 900 es = true)
    (q : ∀ v d vt H', H v = none → H d = none → H vt = none → v ≠ d → vt ≠ v → vt ≠ d → (∀ b k, H b = some k → b ≠ bd → H' b = some k) → H' bd = some (.dict (es ++ [(x, .ref v)])) → H' v = some (.inst 381 d) → H' d = some (.ns (varEs0 vt ⟨true, value, 1⟩)) → Q (.str value) H') :
    CallP B (n + 5) (.ref 562) [.ref h, .str x, .str value] H Q X := by
  have hbh : hd ≠ bd := fun e => by rw [e, hbd] at hhd; cases hhd
  have hbh' : h ≠ bd := fun e => by rw [e, hbd] at hh; cases hh
  refine c_def hB ["self", "name", "value"] [] (by k_is) (by k_is) (by k_is) rfl (fn_ok .nil rfl) rfl (by dsimp only [mkLoc, List.map]) (fun rs hr => ?_) (fun f hn hg hp => ?_)
  · exact len3 hr fun _ _ _ => rfl
  walk_at "ww"
  refine MeP.own rfl (m622_write_var hB) (.inl hh) hhd rfl ?_
  walk_at "ww"
  refine MeP.own rfl (m622_place hB) (.inl hh) hhd rfl ?_
  walk_at "ww"
  refine CW.of (c_place_new (n := n) hB hh hhd hbd hnew hsh fun v d vt H' a1 a2 a3 a4 a5 a6 a7 a8 a9 a10 => ?_) (by first | exact la rfl | exact Nat.le_add_right _ _ | omega)
  walk_at "ww"
  have hbv : bd ≠ v := (AH.new_ne a1 hbd).symm
  have hbd' : bd ≠ d := (AH.new_ne a2 hbd).symm
  refine CW.of (c_write_var0 (n := n) hB a9 a10 ?_) (by first | exact la rfl | exact Nat.le_add_right _ _ | omega)
  exact q v d vt _ a1 a2 a3 a4 a5 a6 (fun b k e hb => HG.ne (AH.new_ne a2 e).symm (a7 b k e hb)) (HG.ne hbd' a8) (HG.ne a4 a9) HG.here
end
inductive GotE where
  | ret (v : AV) | thr (code : Int) (v ec : AV) (level : Int) | fuel
noncomputable def GotE.av : GotE → AV
  | .ret v => .tup [.int 0, v, ecNone, .int 0, .int 0]
  | .thr c v ec l => .tup [.int c, v, ec, .int l, .int 0]
  | .fuel => .tup [.str "fuel", .str "", .tup [], .int 0, .int 0]
noncomputable def GotH (A : HA) (H : AH) (s : HS) (Q : AV → AH → Prop) (X : Addr → AH → Prop) : GotE → Prop
  | .ret v => RetH A H s Q v
  | .thr c v ec l => ThrR A H s c v ec l X
  | .fuel => ThrF A H s X
noncomputable def RunOf (B : BC) (n : Nat) (kind : Str) (words : AV) (A : HA) (H : AH) (Q : AV → AH → Prop) (X : Addr → AH → Prop) : Prop :=
  if kind = "for" then CallP B n (.ref 343) [.ref A.h, words] H Q X else CallP B n (.ref 364) [.ref A.h, words, .str kind] H Q X
noncomputable def v0 : Nm → VS := fun _ => ⟨true, "old", 1⟩
noncomputable def hs0 (rows : List Row) (deeds : List Deed) (fuel : Int) : HS := ⟨rows, deeds, [], [], none, 0, 0, fuel, v0⟩
structure VA where
  nm : Nm
  v : Addr
  d : Addr
  t : Addr
structure Pre (H0 H : AH) (h hd td vd lg kp i c f : Addr) (rows : List Row) (deeds : List Deed) (fuel : Int) (vs : List VA) : Prop where
  f_h : H h = some (.inst 622 hd)
  f_hd : H hd = some (.ns (hostEs12 td i vd c f fuel))
  f_td : H td = some (.dict [("run", .ref 685), ("expr", .ref 699), ("rounds", rowsAV rows), ("deeds", .lst (deeds.map Deed.av)), ("log", .ref lg), ("kept", .ref kp)])
  f_vd : H vd = some (.dict (vs.map fun p => (p.nm.str, .ref p.v)))
  f_lg : H lg = some (.list [])
  f_kp : H kp = some (.list [])
  f_v : ∀ p ∈ vs, H p.v = some (.inst 381 p.d)
  f_vdct : ∀ p ∈ vs, H p.d = some (.ns (varEs0 p.t ⟨true, "old", 1⟩))
  nd : ([h, hd, td, vd, lg, kp] ++ vs.map VA.v ++ vs.map VA.d).Nodup
  fresh : ∀ b ∈ [h, hd, td, vd, lg, kp] ++ vs.map VA.v ++ vs.map VA.d, H0 b = none
  ext : Ext H0 H
theorem put_none {H : AH} {a b : Addr} {c : Cell} (h : (H.put a (some c)) b = none) : b ≠ a ∧ H b = none := by
  unfold AH.put at h
  split at h
  · cases h
  · exact ⟨by assumption, h⟩
section
variable {H0 H : AH} {h hd td vd lg kp i c f : Addr} {rows : List Row} {deeds : List Deed} {fuel : Int} {vs : List VA}
theorem Pre.live (P : Pre H0 H h hd td vd lg kp i c f rows deeds fuel vs) {b : Addr} (m : b ∈ [h, hd, td, vd, lg, kp] ++ vs.map VA.v ++ vs.map VA.d) : ∃ k, H b = some k := by
  rcases List.mem_append.mp m with m | m
  · rcases List.mem_append.mp m with m | m
    · simp only [List.mem_cons, List.not_mem_nil, or_false] at m
      rcases m with rfl | rfl | rfl | rfl | rfl | rfl
      · exact ⟨_, P.f_h⟩
      · exact ⟨_, P.f_hd⟩
      · exact ⟨_, P.f_td⟩
      · exact ⟨_, P.f_vd⟩
      · exact ⟨_, P.f_lg⟩
      · exact ⟨_, P.f_kp⟩
    · obtain ⟨p, hp, rfl⟩ := List.mem_map.mp m
      exact ⟨_, P.f_v p hp⟩
  · obtain ⟨p, hp, rfl⟩ := List.mem_map.mp m
    exact ⟨_, P.f_vdct p hp⟩
theorem Pre.step (P : Pre H0 H h hd td vd lg kp i c f rows deeds fuel vs) {p : VA} {H' : AH} (hv : H p.v = none) (hpd : H p.d = none) (hne : p.v ≠ p.d) (k : ∀ b k, H b = some k → b ≠ vd → H' b = some k)
    (e1 : H' vd = some (.dict ((vs.map fun p => (p.nm.str, AV.ref p.v)) ++ [(p.nm.str, .ref p.v)]))) (e2 : H' p.v = some (.inst 381 p.d)) (e3 : H' p.d = some (.ns (varEs0 p.t ⟨true, "old", 1⟩))) : Pre H0 H' h hd td vd lg kp i c f rows deeds fuel (vs ++ [p]) := by
  have hl := fun b m => P.live (b := b) m
  have hvn : p.v ∉ [h, hd, td, vd, lg, kp] ++ vs.map VA.v ++ vs.map VA.d := fun m => by obtain ⟨k, e⟩ := hl _ m; rw [hv] at e; cases e
  have hdn : p.d ∉ [h, hd, td, vd, lg, kp] ++ vs.map VA.v ++ vs.map VA.d := fun m => by obtain ⟨k, e⟩ := hl _ m; rw [hpd] at e; cases e
  have hperm : ([h, hd, td, vd, lg, kp] ++ (vs ++ [p]).map VA.v ++ (vs ++ [p]).map VA.d).Perm (p.v :: p.d :: ([h, hd, td, vd, lg, kp] ++ vs.map VA.v ++ vs.map VA.d)) := by
    rw [List.map_append, List.map_append, List.map_cons, List.map_cons, List.map_nil, List.map_nil]
    generalize [h, hd, td, vd, lg, kp] = l0
    generalize vs.map VA.v = l1
    generalize vs.map VA.d = l2
    have a1 : (l0 ++ (l1 ++ [p.v]) ++ (l2 ++ [p.d])).Perm ((l0 ++ l1) ++ ([p.v] ++ (l2 ++ [p.d]))) := by simp
    refine a1.trans (List.perm_append_comm.trans ?_)
    simp only [List.cons_append, List.nil_append, List.append_assoc]
    refine List.Perm.cons _ ?_
    refine (List.perm_middle (a := p.d) (l₁ := l2) (l₂ := l0 ++ l1)).trans (List.Perm.cons _ ?_)
    refine List.perm_append_comm.trans ?_
    simp
  have hq : (p.v :: p.d :: ([h, hd, td, vd, lg, kp] ++ vs.map VA.v ++ vs.map VA.d)).Nodup := by
    refine List.nodup_cons.mpr ⟨fun m => ?_, List.nodup_cons.mpr ⟨hdn, P.nd⟩⟩
    rcases List.mem_cons.mp m with e | m
    · exact hne e
    · exact hvn m
  have nvd : ∀ b, b ∈ vs.map VA.v ++ vs.map VA.d → b ≠ vd := fun b m e => by
    subst e
    have q := P.nd
    rw [List.append_assoc, List.nodup_append] at q
    exact q.2.2 b (by simp) b m rfl
  have ntd : td ≠ vd := fun e => by
    have q := P.nd
    rw [List.append_assoc, List.nodup_append] at q
    have := q.1
    rw [e] at this
    simp at this
  refine ⟨k _ _ P.f_h (HG.not P.f_vd P.f_h (by intro q; cases q)), k _ _ P.f_hd (HG.not P.f_vd P.f_hd (by intro q; cases q)), k _ _ P.f_td ntd, ?_, k _ _ P.f_lg (HG.not P.f_vd P.f_lg (by intro q; cases q)), k _ _ P.f_kp (HG.not P.f_vd P.f_kp (by intro q; cases q)), fun p' m => ?_, fun p' m => ?_, hperm.nodup_iff.mpr hq, fun b m => ?_, fun b k' e => ?_⟩
  · rw [List.map_append]; exact e1
  · rcases List.mem_append.mp m with m | m
    · exact k _ _ (P.f_v p' m) (nvd _ (List.mem_append_left _ (List.mem_map_of_mem m)))
    · rw [List.mem_singleton.mp m]; exact e2
  · rcases List.mem_append.mp m with m | m
    · exact k _ _ (P.f_vdct p' m) (nvd _ (List.mem_append_right _ (List.mem_map_of_mem m)))
    · rw [List.mem_singleton.mp m]; exact e3
  · have m' := hperm.mem_iff.mp m
    have fr : ∀ a, H a = none → H0 a = none := fun a e => by
      cases ha : H0 a with
      | none => rfl
      | some k => rw [P.ext a k ha] at e; cases e
    rcases List.mem_cons.mp m' with rfl | m'
    · exact fr _ hv
    · rcases List.mem_cons.mp m' with rfl | m'
      · exact fr _ hpd
      · exact P.fresh b m'
  · refine k b k' (P.ext b k' e) fun q => ?_
    rw [q, P.fresh vd (by simp)] at e; cases e
noncomputable def Pre.ha (h hd td vd lg kp i c f : Addr) (p q r : VA) : HA := ⟨h, hd, td, vd, lg, kp, fun | .x => p.v | .y => q.v | .z => r.v, fun | .x => p.d | .y => q.d | .z => r.d, fun | .x => p.t | .y => q.t | .z => r.t, i, c, f⟩
theorem Pre.sees {p q r : VA} (P : Pre H0 H h hd td vd lg kp i c f rows deeds fuel [p, q, r]) (ep : p.nm = .x) (eq : q.nm = .y) (er : r.nm = .z) : Sees H (Pre.ha h hd td vd lg kp i c f p q r) (hs0 rows deeds fuel) ∧ (∀ b ∈ (Pre.ha h hd td vd lg kp i c f p q r).cells, H0 b = none) := by
  have hvd := P.f_vd
  rw [List.map_cons, List.map_cons, List.map_cons, ep, eq, er] at hvd
  refine ⟨⟨P.f_h, P.f_hd, P.f_td, hvd, P.f_lg, P.f_kp, fun m => ?_, fun m => ?_, P.nd⟩, P.fresh⟩
  · cases m
    · exact P.f_v p (by simp)
    · exact P.f_v q (by simp)
    · exact P.f_v r (by simp)
  · cases m
    · exact P.f_vdct p (by simp)
    · exact P.f_vdct q (by simp)
    · exact P.f_vdct r (by simp)
end
section
variable {B : BC} {n : Nat} (hB : KB B) {H0 H : AH} {h hd td vd lg kp i c f : Addr} {rows : List Row} {deeds : List Deed} {fuel : Int} {vs : List VA} {Q : AV → AH → Prop} {X : Addr → AH → Prop}
include hB
theorem c_write_p {m : Nm} (P : Pre H0 H h hd td vd lg kp i c f rows deeds fuel vs) (hnew : ((vs.map fun p => (p.nm.str, AV.ref p.v)).map (·.1)).all (fun y => !(y == m.str)) = true) (hsh : short 900 (vs.map fun p => (p.nm.str, AV.ref p.v)) = true)
    (q : ∀ v d t H', Pre H0 H' h hd td vd lg kp i c f rows deeds fuel (vs ++ [⟨m, v, d, t⟩]) → Q (.str "old") H') : CallP B (n + 5) (.ref 562) [.ref h, .str m.str, .str "old"] H Q X :=
  c_write_new hB P.f_h P.f_hd P.f_vd hnew hsh fun v d t H' z1 z2 z3 z4 z5 z6 z7 z8 z9 z10 => q v d t H' (P.step (p := ⟨m, v, d, t⟩) z1 z2 z4 z7 z8 z9 z10)
end
theorem cell_ne {H : AH} {a b : Addr} {c c' : Cell} (h : H a = some c) (h' : H b = some c') (n : c ≠ c') : a ≠ b := fun e => n (Option.some.inj (h.symm.trans (e ▸ h')))
theorem Tree.stands {k : Nat} {v : Nm → VS} : Tree (k + 2) (standsAV v) :=
  have h : ∀ m, ∃ xs, vAV (v m) = .tup xs ∧ ∀ x ∈ xs, Atom x := fun m => ⟨_, rfl, memc .str (memc .str (memc .int mem0))⟩
  .dct (memc (h _) (memc (h _) (memc (h _) mem0)))
theorem RunOf.for_ {B : BC} {n : Nat} {kind : Str} {words : AV} {A : HA} {H : AH} {Q : AV → AH → Prop} {X : Addr → AH → Prop} (h : RunOf B n kind words A H Q X) (hk : (kind == "for") = true) : CallP B n (.ref 343) [.ref A.h, words] H Q X := by
  unfold RunOf at h; rwa [if_pos (eq_of_beq hk)] at h
theorem RunOf.each {B : BC} {n : Nat} {kind : Str} {words : AV} {A : HA} {H : AH} {Q : AV → AH → Prop} {X : Addr → AH → Prop} (h : RunOf B n kind words A H Q X) (hk : (kind == "for") = false) : CallP B n (.ref 364) [.ref A.h, words, .str kind] H Q X := by
  unfold RunOf at h; rwa [if_neg (by rw [← beq_iff_eq, hk]; decide)] at h
section
variable {B : BC} {f : Fc} {n : Nat} {hd : Option Value} {X : Addr → St → Prop} {σ : St}
theorem stop_cut {t : Sem Flow} {N : St → Prop} {K : AFlow → St → Prop} (J : St → Prop) (h1 : (∀ σ', J σ' → N σ') → Stop (ES B f n hd t σ N K X)) (h2 : ∀ σ', J σ' → N σ') : Stop (ES B f n hd t σ N K X) := h1 h2
theorem br_cutX {ns : List Str} {gl : List (Str × AV)} {ms : List Bool} {k : Nat} {b : Bool} {e e' : Expr} {Q : AV → St → Prop} (P : (AV → St → Prop) → (Addr → St → Prop) → Prop) (h1 : P Q X → br b ((wp B f n hd X ns gl ms k).E e σ Q) ((wp B f n hd X ns gl ms k).E e' σ Q)) (h2 : P Q X) :
    br b ((wp B f n hd X ns gl ms k).E e σ Q) ((wp B f n hd X ns gl ms k).E e' σ Q) := h1 h2
end
theorem GotH.intro {A : HA} {H : AH} {s : HS} {Q : AV → AH → Prop} {X : Addr → AH → Prop} {g : GotE} (h0 : ∀ v, g = .ret v → RetH A H s Q v) (h1 : ∀ c v ec l, g = .thr c v ec l → ThrR A H s c v ec l X) (h2 : g = .fuel → ThrF A H s X) : GotH A H s Q X g := by
  cases g with
  | ret v => exact h0 v rfl
  | thr c v ec l => exact h1 c v ec l rfl
  | fuel => exact h2 rfl
theorem SameAt.of {H : AH} {x y : AV} (e : x = y) (t : Tree 89 y) : SameAt H x y := by subst e; exact .eq t
noncomputable def soL (words : AV) (kind : Str) (rows : List Row) (deeds : List Deed) (fuel : Int) (due h got : Option AV) : List (Option AV) :=
  [some words, some (.str kind), some (.tup [rowsAV rows, .lst (deeds.map Deed.av), .int fuel]), due, some (rowsAV rows), some (.lst (deeds.map Deed.av)), some (.int fuel), h, some (.str "z"), got, none]
inductive SoJ (A : HA) (H : AH) (s1 : HS) (words : AV) (kind : Str) (rows : List Row) (deeds : List Deed) (fuel : Int) (due : AV) (g : GotE) : St → Prop
  | mk {H' : AH} {tn : Option Int} {got : AV} : Sees H' A { s1 with turn := tn } → Keep A H H' → got = g.av → SoJ A H s1 words kind rows deeds fuel due g ⟨soL words kind rows deeds fuel (some due) (some (.ref A.h)) (some got), H'⟩
section
variable {B : BC} {n : Nat} (hB : KB B) {H : AH} {Q : AV → AH → Prop} {X : Addr → AH → Prop}
include hB
theorem c_law_is_so {kind : Str} {words : AV} {rows : List Row} {deeds : List Deed} {fuel : Int} {g : GotE} {s1 : HS} {due : AV}
    (run : ∀ A H Q X, Sees H A (hs0 rows deeds fuel) → (∀ tn, GotH A H { s1 with turn := tn } Q X g) → RunOf B (n + 10) kind words A H Q X) (hdep : s1.depth = 0)
    (hdue : due = .tup [g.av, .lst s1.log, standsAV s1.v, .lst s1.kept, .int s1.spent]) (hg1 : Tree 89 g.av) (hl1 : ∀ x ∈ s1.log, Tree 88 x) (hk1 : ∀ x ∈ s1.kept, Tree 88 x)
    (q : ∀ H', Ext H H' → Q (.bool true) H') : CallP B (n + 11) (.ref 734) [words, .str kind, .tup [rowsAV rows, .lst (deeds.map Deed.av), .int fuel], due] H Q X := by
  subst hdue
  refine c_def hB ["words", "kind", "drawn", "due", "rounds", "deeds", "fuel", "host", "name", "got", "fault"] [("SmallHost", .ref 622), ("_law_run", .ref 685), ("_law_expr", .ref 699), ("run_for", .ref 343), ("run_each", .ref 364), ("Raised", .ref 84), ("OutOfFuel", .ref 63), ("_law_stands", .ref 678)] (by k_is) (by k_is) (by k_is) rfl
    (fn_ok (.fn hB (by k_is) rfl (.fn hB (by k_is) rfl (.fn hB (by k_is) rfl (.fn hB (by k_is) rfl (.fn hB (by k_is) rfl (.fn hB (by k_is) rfl (.fn hB (by k_is) rfl (.fn hB (by k_is) rfl .nil)))))))) rfl) rfl (by dsimp only [mkLoc, List.map]) (fun rs hr => ?_) (fun f hn hg hp => ?_)
  · exact len4 hr fun _ _ _ _ => rfl
  walk_at "ww"
  intro h hd hh0 hd0 hne
  refine CallP.mono (c_small_init (n := n) hB (x := h) (d := hd) HG.here (HG.ne hne.symm HG.here) fun t i vd c fi a1 a2 a3 a4 a5 b1 b2 b3 b4 b5 b6 b7 H1 k1 e1 e2 e3 => ⟨rfl, ?_⟩) (by first | exact la rfl | exact Nat.le_add_right _ _ | omega)
  have eh : H1 h = some (.inst 622 hd) := k1 _ _ HG.here hne
  have old : ∀ b k, H b = some k → H1 b = some k := fun b k e => k1 _ _ (HG.ne (AH.new_ne hh0 e).symm (HG.ne (AH.new_ne hd0 e).symm e)) (AH.new_ne hd0 e).symm
  have hvd0 : H vd = none := (put_none (put_none a3).2).2
  walk_at "ww"
  refine ⟨fun td htd => ?_⟩
  have tdh : td ≠ h := AH.new_ne htd eh
  have tdhd : td ≠ hd := AH.new_ne htd e1
  have tdvd : td ≠ vd := AH.new_ne htd e2
  walk_at "ww"
  refine LsP.cel fun lg hlg => ?_
  have lgtd := (put_none hlg).1
  have hlg := (put_none hlg).2
  walk_at "ww"
  refine LsP.cel fun kp hkp => ?_
  have kplg := (put_none hkp).1
  have hkp := (put_none hkp).2
  have kptd := (put_none hkp).1
  have hkp := (put_none hkp).2
  walk_at "ww"
  refine ⟨HG.ne kptd.symm (HG.ne lgtd.symm HG.here), rfl, rfl, ?_⟩
  walk_at "ww"
  refine SaP.put (s622_tools hB) (.inl (HG.ne tdh.symm (HG.ne (AH.new_ne hkp eh).symm (HG.ne (AH.new_ne hlg eh).symm (HG.ne tdh.symm eh))))) (HG.ne tdhd.symm (HG.ne (AH.new_ne hkp e1).symm (HG.ne (AH.new_ne hlg e1).symm (HG.ne tdhd.symm e1)))) (by repeat constructor) ?_
  have old0 : ∀ a, H1 a = none → H a = none := fun a e => by
    cases ha : H a with
    | none => rfl
    | some k => rw [old a k ha] at e; cases e
  have x1 := AH.new_ne hlg eh
  have x2 := AH.new_ne hlg e1
  have x3 := AH.new_ne hlg e2
  have x4 := AH.new_ne hkp eh
  have x5 := AH.new_ne hkp e1
  have x6 := AH.new_ne hkp e2
  have x7 := cell_ne eh e2 (nomatch ·)
  have x8 := cell_ne e1 e2 (nomatch ·)
  have P0 : Pre H ((((((H1.put td (some (.dict []))).put lg (some (.list []))).put kp (some (.list []))).put td (some (.dict [("run", .ref 685), ("expr", .ref 699), ("rounds", rowsAV rows), ("deeds", .lst (deeds.map Deed.av)), ("log", .ref lg), ("kept", .ref kp)]))).put hd (some (.ns (hostEs12 td i vd c fi fuel))))) h hd td vd lg kp i c fi rows deeds fuel [] := by
    refine ⟨HG.ne hne (HG.ne tdh.symm (HG.ne x4.symm (HG.ne x1.symm (HG.ne tdh.symm eh)))), HG.here, HG.ne tdhd HG.here, HG.ne x8.symm (HG.ne tdvd.symm (HG.ne x6.symm (HG.ne x3.symm (HG.ne tdvd.symm e2)))), HG.ne x2 (HG.ne lgtd (HG.ne kplg.symm HG.here)), HG.ne x5 (HG.ne kptd HG.here), (fun p m => nomatch m), (fun p m => nomatch m),
      .cons (memc hne (memc tdh.symm (memc x7 (memc x1.symm (memc x4.symm mem0))))) (.cons (memc tdhd.symm (memc x8 (memc x2.symm (memc x5.symm mem0)))) (.cons (memc tdvd (memc lgtd.symm (memc kptd.symm mem0))) (.cons (memc x3.symm (memc x6.symm mem0)) (.cons (memc kplg.symm mem0) (.cons mem0 .nil))))),
      memc hh0 (memc hd0 (memc (old0 _ htd) (memc hvd0 (memc (old0 _ hlg) (memc (old0 _ hkp) mem0))))), fun b k e => ?_⟩
    have e' := old b k e
    exact HG.ne (AH.new_ne hd0 e).symm (HG.ne (AH.new_ne htd e').symm (HG.ne (AH.new_ne hkp e').symm (HG.ne (AH.new_ne hlg e').symm (HG.ne (AH.new_ne htd e').symm e'))))
  dsimp only
  generalize (((((H1.put td (some (.dict []))).put lg (some (.list []))).put kp (some (.list []))).put td (some (.dict [("run", .ref 685), ("expr", .ref 699), ("rounds", rowsAV rows), ("deeds", .lst (deeds.map Deed.av)), ("log", .ref lg), ("kept", .ref kp)]))).put hd (some (.ns (hostEs12 td i vd c fi fuel)))) = H2 at P0 ⊢
  walk_at "ww"
  refine LsP.frz ?_
  walk_at "ww"
  refine MeP.own rfl (m622_write hB) (.inl P0.f_h) P0.f_hd rfl ?_
  walk_at "ww"
  refine CW.of (c_write_p (n := n) (m := .x) hB P0 rfl rfl fun vx dx tx H3 P1 => ?_) (by first | exact la rfl | exact Nat.le_add_right _ _ | omega)
  walk_at "ww"
  refine MeP.own rfl (m622_write hB) (.inl P1.f_h) P1.f_hd rfl ?_
  walk_at "ww"
  refine CW.of (c_write_p (n := n) (m := .y) hB P1 rfl rfl fun vy dy ty H4 P2 => ?_) (by first | exact la rfl | exact Nat.le_add_right _ _ | omega)
  walk_at "ww"
  refine MeP.own rfl (m622_write hB) (.inl P2.f_h) P2.f_hd rfl ?_
  walk_at "ww"
  refine CW.of (c_write_p (n := n) (m := .z) hB P2 rfl rfl fun vz dz tz H5 P3 => ?_) (by first | exact la rfl | exact Nat.le_add_right _ _ | omega)
  have S := (P3.sees rfl rfl rfl).1
  have fr := (P3.sees rfl rfl rfl).2
  have ext := P3.ext
  clear P3 P2 P1 P0
  have eA : (Pre.ha h hd td vd lg kp i c fi ⟨.x, vx, dx, tx⟩ ⟨.y, vy, dy, ty⟩ ⟨.z, vz, dz, tz⟩).h = h := rfl
  generalize hA : Pre.ha h hd td vd lg kp i c fi ⟨.x, vx, dx, tx⟩ ⟨.y, vy, dy, ty⟩ ⟨.z, vz, dz, tz⟩ = A at S fr eA
  subst eA
  have fin : ∀ H', Keep A H5 H' → Ext H H' := fun H' k b c e => k b c (ext b c e) fun m => by rw [fr b m] at e; cases e
  walk_at "ww"
  refine stop_cut (SoJ A H5 s1 words kind rows deeds fuel (.tup [g.av, .lst s1.log, standsAV s1.v, .lst s1.kept, .int s1.spent]) g) (fun cut => ⟨r_try hp hn ?_⟩) ?_
  · refine (snd hn hg 60).S ?_
    walk_at "ww"
    conv => whnf
    refine br_cutX (fun Q X => ∀ tn, GotH A H5 { s1 with turn := tn } (fun v H' => Q v ⟨soL words kind rows deeds fuel (some (.tup [g.av, .lst s1.log, standsAV s1.v, .lst s1.kept, .int s1.spent])) (some (.ref A.h)) none, H'⟩) (fun a H' => X a ⟨soL words kind rows deeds fuel (some (.tup [g.av, .lst s1.log, standsAV s1.v, .lst s1.kept, .int s1.spent])) (some (.ref A.h)) none, H'⟩) g) (fun k => ?_) fun tn => ?_
    · refine br_of (fun hb => ?_) (fun hb => ?_)
      · walk_at "ww"
        exact CW.of ((run A H5 _ _ S k).for_ hb) (by first | exact la rfl | exact Nat.le_add_right _ _ | omega)
      · walk_at "ww"
        exact CW.of ((run A H5 _ _ S k).each hb) (by first | exact la rfl | exact Nat.le_add_right _ _ | omega)
    refine GotH.intro (fun v eg H6 S6 k6 => ?_) (fun c v ec l eg H6 a d ex S6 k6 ha hd hac hdc => ?_) (fun eg H6 a d S6 k6 ha hac => ?_)
    · walk_at "ww"
      have h := cut _ (SoJ.mk S6 k6 (congrArg GotE.av eg).symm)
      conv at h => whnf
      exact h
    · have hg1 : Tree 89 (GotE.thr c v ec l).av := eg ▸ hg1
      refine HdP.hitAs ha (by rw [hg]; repeat constructor) (ct84_84 hB) (Sto.mk (by repeat constructor) ?_)
      refine (snd hn hg 60).S ?_
      walk_at "ww"
      refine AtP.exc (g84_code hB) ha hd (by repeat constructor) (by intro i h; cases h) ?_
      walk_at "ww"
      refine AtP.exc (g84_value hB) ha hd (by repeat constructor) (fun i => (hg1.tup_at v (.tail _ (.head _))).no) ?_
      walk_at "ww"
      refine AtP.exc (g84_errorcode hB) ha hd (by repeat constructor) (fun i => (hg1.tup_at ec (.tail _ (.tail _ (.head _)))).no) ?_
      walk_at "ww"
      refine AtP.exc (g84_level hB) ha hd (by repeat constructor) (by intro i h; cases h) ?_
      walk_at "ww"
      refine AtP.exc (g84_ret hB) ha hd (by repeat constructor) (by intro i h; cases h) ?_
      walk_at "ww"
      refine GoP.mk (by repeat constructor) ?_
      walk_at "ww"
      have h := cut _ (SoJ.mk S6 k6 (congrArg GotE.av eg).symm)
      conv at h => whnf
      exact h
    · refine HdP.skip ha (by rw [hg]; repeat constructor) (ct63_84 hB) (HdP.hit ha (by rw [hg]; repeat constructor) (ct63_63 hB) ?_)
      refine (snd hn hg 60).S ?_
      walk_at "ww"
      have h := cut _ (SoJ.mk S6 k6 (congrArg GotE.av eg).symm)
      conv at h => whnf
      exact h
  rintro σ ⟨S6, k6, eg⟩
  walk_at "ww"
  refine AtP.own (g622_tools hB) (.inl S6.h) S6.hd (by repeat constructor) (by intro i h; cases h) ?_
  walk_at "ww"
  refine ItP.dict S6.td (by repeat constructor) ?_
  walk_at "ww"
  refine CW.of (c_law_stands (n := n) hB S6 ?_) (by first | exact la rfl | exact Nat.le_add_right _ _ | omega)
  walk_at "ww"
  refine AtP.own (g622_tools hB) (.inl S6.h) S6.hd (by repeat constructor) (by intro i h; cases h) ?_
  walk_at "ww"
  refine ItP.dict S6.td (by repeat constructor) ?_
  walk_at "ww"
  refine AtP.own (g622_spent hB) (.inl S6.h) S6.hd (by repeat constructor) (by intro i h; cases h) ?_
  walk_at "ww"
  refine AtP.own (g622_depth hB) (.inl S6.h) S6.hd (by repeat constructor) (by intro i h; cases h) ?_
  walk_at "ww"
  refine ⟨o_add_t (List.cons_ne_nil _ _) (List.cons_ne_nil _ _) (show 6 ≤ sizeLine by decide) ?_⟩
  walk_at "ww"
  refine ⟨o_same2 (.cons (SameAt.of eg hg1) (.cons (.cel S6.lg hl1) (.cons (.eq .stands) (.cons (.cel S6.kp hk1) (.cons (.eq (.atom .int)) (.cons (by rw [hdep]; exact .eq (.atom .int)) .nil)))))) ?_⟩
  walk_at "ww"
  exact q _ (fin _ k6)
end
noncomputable def nmTab : List (Str × Option (List Nm)) := [("x", some [.x]), ("x y", some [.x, .y]), ("y  z x", some [.y, .z, .x]), ("{x} y\n", some [.x, .y]), ("z z", some [.z, .z]), (" ", some []), ("{x", none), ("\"y\" x", some [.y, .x])]
noncomputable def nmsAV : Option (List Nm) → AV
  | none => .none
  | some ns => .lst (ns.map fun m => .str m.str)
noncomputable def spTab : List (Str × List Str) := [("a", ["a", "{a}", "\"a\""]), ("", ["{}", "\"\"", "{}"]), ("b c", ["{b c}", "\"b c\"", "b\\ c"]), ("{q}", ["{{q}}", "\\{q\\}", "\"{q}\""]), ("$x;", ["$x;", "{$x;}", "\\$x\\;"]), ("\n", ["{\n}", "\"\\n\"", "\\n"])]
noncomputable def gapTab : List Str := [" ", "\n", " \t "]
noncomputable def noFt : Str × Str × AV := ("", "", .tup [])
noncomputable def ftTab : List (Str × Str × AV) := [noFt, noFt, noFt, noFt, ("{e", "unmatched open brace in list", .tup [.str "TCL", .str "VALUE", .str "LIST", .str "BRACE"]), ("\"e", "unmatched open quote in list", .tup [.str "TCL", .str "VALUE", .str "LIST", .str "QUOTE"]),
  ("{e}fg h", "list element in braces followed by \"fg\" instead of space", .tup [.str "TCL", .str "VALUE", .str "LIST", .str "JUNK"]), ("\"e\"f", "list element in quotes followed by \"f\" instead of space", .tup [.str "TCL", .str "VALUE", .str "LIST", .str "JUNK"])]
noncomputable def dTab : List Deed := [⟨.no, 0, "v"⟩, ⟨.no, 0, ""⟩, ⟨.no, 0, "b {c"⟩, ⟨.no, 3, ""⟩, ⟨.no, 4, ""⟩, ⟨.no, 1, "bad"⟩, ⟨.no, 2, "r"⟩, ⟨.no, 7, "seven"⟩, ⟨.put .x, 0, "w"⟩, ⟨.put .z, 4, "w"⟩, ⟨.drop .x, 0, "gone"⟩, ⟨.no, 3, "lost"⟩]
theorem it_pick {B : BC} {f : Fc} {n : Nat} {hd : Option Value} {X : Addr → St → Prop} {σ : St} {Q : AV → St → Prop} {value slice : Expr} {α : Type} {tab : List α} {g : α → AV} {d : Nat} (hl : tab.length ≤ 1000) (h : d < tab.length) (q : ∀ w ∈ tab, Q (g w) σ) : ItP B f n hd X value slice (.lst (tab.map g)) (.int (d : Nat)) σ Q :=
  it_lst (Nat.le_trans (Nat.le_of_lt h) hl) (by rw [List.getElem?_map, List.getElem?_eq_getElem h]; rfl) (q _ (List.getElem_mem h))
theorem fmod_nat {x : Int} {many : Nat} (hm : 1 ≤ many) : x.fmod many = ((x.fmod many).toNat : Nat) ∧ (x.fmod many).toNat < many := by
  have h0 : (0 : Int) < many := Int.ofNat_lt.mpr hm
  have h1 := Int.fmod_nonneg_of_pos x h0
  exact ⟨(Int.toNat_of_nonneg h1).symm, (Int.toNat_lt h1).mpr (Int.fmod_lt_of_pos x h0)⟩
section
variable {B : BC} {n : Nat} (hB : KB B) {H : AH} {Q : AV → AH → Prop} {X : Addr → AH → Prop}
include hB
theorem c_law_names (q : Q (.lst (nmTab.map fun p => .tup [.str p.1, nmsAV p.2])) H) : CallP B (n + 1) (.ref 645) [] H Q X := by
  refine c_def hB [] [] (by k_is) (by k_is) (by k_is) rfl (fn_ok .nil rfl) rfl (by dsimp only [mkLoc, List.map]) (fun rs hr => ?_) (fun f hn hg hp => ?_)
  · rw [len0 hr]; rfl
  walk_at "ww"
  repeat (refine LsP.frz ?_; walk_at "ww")
  exact q
theorem c_law_spelled (q : Q (.lst (spTab.map fun p => .tup [.str p.1, .lst (p.2.map .str)])) H) : CallP B (n + 1) (.ref 652) [] H Q X := by
  refine c_def hB [] [] (by k_is) (by k_is) (by k_is) rfl (fn_ok .nil rfl) rfl (by dsimp only [mkLoc, List.map]) (fun rs hr => ?_) (fun f hn hg hp => ?_)
  · rw [len0 hr]; rfl
  walk_at "ww"
  repeat (refine LsP.frz ?_; walk_at "ww")
  exact q
theorem c_law_deeds (q : Q (.lst (dTab.map Deed.av)) H) : CallP B (n + 1) (.ref 666) [] H Q X := by
  refine c_def hB [] [] (by k_is) (by k_is) (by k_is) rfl (fn_ok .nil rfl) rfl (by dsimp only [mkLoc, List.map]) (fun rs hr => ?_) (fun f hn hg hp => ?_)
  · rw [len0 hr]; rfl
  walk_at "ww"
  repeat (refine LsP.frz ?_; walk_at "ww")
  exact q
theorem c_law_spoilt {w : Nat} (h8 : w < 8) (q : ∀ p ∈ ftTab, Q (.tup [.str p.1, .str p.2.1, p.2.2]) H) : CallP B (n + 1) (.ref 659) [.int (w : Nat)] H Q X := by
  refine c_def hB ["which"] [] (by k_is) (by k_is) (by k_is) rfl (fn_ok .nil rfl) rfl (by dsimp only [mkLoc, List.map]) (fun rs hr => ?_) (fun f hn hg hp => ?_)
  · exact len1 hr fun _ => rfl
  walk_at "ww"
  conv => whnf
  refine br_lt (b := 4) (fun hlt => ?_) (fun hge => ?_)
  · walk_at "ww"
    exact q noFt (.head _)
  · walk_at "ww"
    repeat (refine LsP.frz ?_; walk_at "ww")
    conv => whnf
    rw [show ((w : Nat) : Int) - 4 = ((w - 4 : Nat) : Int) from (Int.ofNat_sub hge).symm]
    exact it_pick (tab := ftTab.drop 4) (g := fun p => .tup [.str p.1, .str p.2.1, p.2.2]) (by decide) (Nat.sub_lt_left_of_lt_add hge h8) fun w hw => q w (List.mem_of_mem_drop hw)
theorem c_take {pen : Addr} {l : List Int} {many : Nat} (hp' : H pen = some (.list (l.map .int))) (h0 : l ≠ []) (hl : l.length ≤ 100) (hm : 1 ≤ many) (hm' : many ≤ 100)
    (q : ∀ d : Nat, d < many → ∀ l' : List Int, l' ≠ [] → l'.length ≤ 100 → Q (.int (d : Nat)) (H.put pen (some (.list (l'.map .int))))) : CallP B (n + 1) (.ref 631) [.ref pen, .int (many : Nat)] H Q X := by
  have q : ∀ x : Int, ∀ l' : List Int, l' ≠ [] → l'.length ≤ 100 → Q (.int (x.fmod many)) (H.put pen (some (.list (l'.map .int)))) := fun x => by
    rw [(fmod_nat hm).1]; exact q _ (fmod_nat hm).2
  have hm0 : (many : Int) ≠ 0 := fun e => absurd (Int.ofNat.inj e) (Nat.ne_of_gt hm)
  have hl2 : (l.map AV.int).length ≤ 1000 := by rw [List.length_map]; exact Nat.le_trans hl (by decide)
  refine c_def hB ["pen", "many", "base", "drawn"] [("len", .blt "len")] (by k_is) (by k_is) (by k_is) rfl (fn_ok (.blt hB (by k_is) rfl rfl .nil) rfl) rfl (by dsimp only [mkLoc, List.map]) (fun rs hr => ?_) (fun f hn hg hp => ?_)
  · exact len2 hr fun _ _ => rfl
  walk_at "ww"
  refine BlP.len_m hp' (lt62 hl2) ?_
  rw [List.length_map]
  walk_at "ww"
  match l with
  | [] => exact absurd rfl h0
  | [x] =>
    walk_at "ww"
    refine ItP.cell hp' (by decide) (by decide) rfl ?_
    walk_at "ww"
    refine ⟨hm0, ?_⟩
    walk_at "ww"
    refine ItP.cell hp' (by decide) (by decide) rfl ?_
    walk_at "ww"
    refine ⟨by omega, by omega, ?_⟩
    walk_at "ww"
    refine SsP.lst hp' (by decide) (by decide) (Int.ofNat_lt.mpr (Nat.succ_pos _)) ?_
    walk_at "ww"
    exact q _ [x.fdiv (many : Nat)] (List.cons_ne_nil _ _) (Nat.le_of_ble_eq_true rfl)
  | x :: y :: r =>
    conv => whnf
    refine br_t (decide_eq_true (Int.ofNat_lt.mpr (Nat.succ_lt_succ (Nat.succ_pos _)))) ?_
    walk_at "ww"
    refine MeP.raw (m_pop1 (x := .int x) (y := .int y) (xs := r.map .int) hp' (Nat.le_trans (Nat.le_trans (Nat.le_succ _) (Nat.le_succ _)) hl2) ?_ rfl)
    refine (snd hn hg 60).L ?_
    walk_at "ww"
    refine ⟨rfl, rfl, ?_⟩
    walk_at "ww"
    refine ItP.cell HG.here (by decide) (by decide) rfl ?_
    walk_at "ww"
    refine ⟨hm0, ?_⟩
    walk_at "ww"
    refine ItP.cell HG.here (by decide) (by decide) rfl ?_
    walk_at "ww"
    refine ⟨by omega, by omega, ?_⟩
    walk_at "ww"
    refine SsP.lst HG.here (by decide) (by decide) (Int.ofNat_lt.mpr (Nat.succ_pos _)) ?_
    rw [AH.put_twice]
    walk_at "ww"
    exact q _ (x.fdiv (many : Nat) :: r) (List.cons_ne_nil _ _) (Nat.le_trans (Nat.le_succ _) hl)
end
inductive PenAt (H : AH) (pen : Addr) : Prop
  | mk {l : List Int} : l ≠ [] → l.length ≤ 100 → H pen = some (.list (l.map .int)) → PenAt H pen
theorem PenAt.put {H : AH} {pen it : Addr} {c : Option Cell} (P : PenAt H pen) (h : pen ≠ it) : PenAt (H.put it c) pen := by cases P with | mk a b e => exact .mk a b (HG.ne h e)
theorem PenAt.ne {H : AH} {pen it : Addr} (P : PenAt H pen) (h : H it = none) : pen ≠ it := by cases P with | mk a b e => exact (AH.new_ne h e).symm
noncomputable def SpOk (p : Str × Str) : Prop := ∃ r ∈ spTab, p.1 = r.1 ∧ p.2 ∈ r.2
noncomputable def textOf (gap : Str) (its : List (Str × Str)) : Str := its.foldl (fun t p => t ++ p.2 ++ gap) ""
structure Draw where
  w : Str × Option (List Nm)
  gap : Str
  its : List (Str × Str)
  ft : Str × Str × AV
structure Draw.Ok (d : Draw) : Prop where
  w : d.w ∈ nmTab
  gap : d.gap ∈ gapTab
  its : ∀ p ∈ d.its, SpOk p
  len : d.its.length ≤ 6
  ft : d.ft ∈ ftTab
noncomputable def Draw.text (d : Draw) : Str := textOf d.gap d.its ++ d.ft.1
noncomputable def Draw.av (d : Draw) : AV := .tup [.str d.w.1, nmsAV d.w.2, .str d.text, .lst ((d.its.map (·.1)).map .str), .tup [.str d.ft.2.1, d.ft.2.2]]
theorem sp_len {p : Str × Str} (h : SpOk p) : p.2.length ≤ 10 := by
  obtain ⟨r, hr, _, hp⟩ := h
  have : ∀ r ∈ spTab, ∀ q ∈ r.2, q.length ≤ 10 := by decide +kernel
  exact this r hr _ hp
theorem gap_len {g : Str} (h : g ∈ gapTab) : g.length ≤ 3 := by
  have : ∀ g ∈ gapTab, g.length ≤ 3 := by decide +kernel
  exact this g h
theorem str_len_app (x y : Str) : (x ++ y).length = x.length + y.length := by
  show (x.cps ++ y.cps).size = _
  simp [PySem.Str.length]
theorem text_len {gap : Str} (hg : gap ∈ gapTab) {its : List (Str × Str)} (h : ∀ p ∈ its, SpOk p) : ∀ t : Str, (its.foldl (fun t p => t ++ p.2 ++ gap) t).length ≤ t.length + 20 * its.length := by
  induction its with
  | nil => intro t; exact Nat.le_refl _
  | cons p r ih =>
    intro t
    have a := sp_len (h p (.head _))
    have b := gap_len hg
    have c := ih (fun p m => h p (.tail _ m)) (t ++ p.2 ++ gap)
    rw [str_len_app, str_len_app] at c
    rw [List.foldl_cons, List.length_cons]
    omega
theorem textOf_snoc (gap : Str) (its : List (Str × Str)) (p : Str × Str) : textOf gap (its ++ [p]) = textOf gap its ++ p.2 ++ gap := by
  unfold textOf; rw [List.foldl_append]; rfl
theorem text_le {gap : Str} (hg : gap ∈ gapTab) {its : List (Str × Str)} (h : ∀ p ∈ its, SpOk p) (hl : its.length ≤ 6) : (textOf gap its).length ≤ 120 := by
  refine Nat.le_trans (text_len hg h "") ?_
  show 0 + _ ≤ _
  rw [Nat.zero_add]; exact Nat.mul_le_mul_left 20 hl
theorem app_le {x y : Str} {k j m : Nat} (hx : x.length ≤ k) (hy : y.length ≤ j) (h : k + j ≤ m) : x.length + y.length ≤ m := Nat.le_trans (Nat.add_le_add hx hy) h
inductive GrI (H : AH) (pen it : Addr) (w : Str × Option (List Nm)) (gap : Str) (d2 : Nat) (t : Nat) : St → Prop
  | mk (its : List (Str × Str)) (H0 : AH) (o1 o2 o3 o4 o5 o6 : Option AV) : its.length = t → (∀ p ∈ its, SpOk p) → PenAt H0 pen → H0 it = some (.list ((its.map (·.1)).map .str)) → (∀ b, b ≠ pen → b ≠ it → H0 b = H b) →
    GrI H pen it w gap d2 t ⟨[some (.ref pen), some (.str w.1), some (nmsAV w.2), some (.int (d2 : Nat)), some (.str gap), some (.ref it), some (.str (textOf gap its)), o1, o2, o3, o4, o5, o6], H0⟩
theorem ft_len : ∀ g ∈ ftTab, g.1.length ≤ 10 := by decide +kernel
theorem sp3 : ∀ g ∈ spTab, g.2.length = 3 := by decide +kernel
section
variable {B : BC} {n : Nat} (hB : KB B) {H : AH} {Q : AV → AH → Prop} {X : Addr → AH → Prop}
include hB
theorem c_take' {pen : Addr} {many : Nat} (P : PenAt H pen) (hm : 1 ≤ many) (hm' : many ≤ 100) (q : ∀ d : Nat, d < many → ∀ H', PenAt H' pen → (∀ b, b ≠ pen → H' b = H b) → Q (.int (d : Nat)) H') : CallP B (n + 1) (.ref 631) [.ref pen, .int (many : Nat)] H Q X := by
  cases P with | mk h0 hl hp => exact c_take hB hp h0 hl hm hm' fun d hd l' h0' hl' => q d hd _ (.mk h0' hl' HG.here) fun b hb => put_off hb
theorem c_law_group {pen : Addr} (P : PenAt H pen) (q : ∀ d : Draw, d.Ok → ∀ H', PenAt H' pen → (∀ b k, H b = some k → b ≠ pen → H' b = some k) → Q d.av H') : CallP B (n + 2) (.ref 673) [.ref pen] H Q X := by
  refine c_defm [false, false, false, false, false, true] hB ["pen", "written", "names", "many", "gap", "items", "text", "k", "item", "spellings", "spoil", "why", "errorcode"] [("_law_names", .ref 645), ("_law_take", .ref 631), ("_law_spelled", .ref 652), ("_law_spoilt", .ref 659), ("range", .typ "range")] (by k_is) (by k_is) (by k_is) rfl
    (fn_ok (.fn hB (by k_is) rfl (.fn hB (by k_is) rfl (.fn hB (by k_is) rfl (.fn hB (by k_is) rfl (.typ hB (by k_is) rfl rfl .nil))))) rfl) rfl (by dsimp only [mkLoc, List.map]) (fun rs hr => ?_) (fun f hn hg hp => ?_)
  · exact len1 hr fun _ => rfl
  walk_at "ww"
  refine CW.of (c_law_names (n := n) hB ?_) (by first | exact la rfl | exact Nat.le_add_right _ _ | omega)
  walk_at "ww"
  refine CW.of (c_take' (n := n) (many := 8) hB P (by decide) (by decide) fun d1 hd1 H1 P1 k1 => ?_) (by first | exact la rfl | exact Nat.le_add_right _ _ | omega)
  walk_at "ww"
  refine it_pick (tab := nmTab) (by decide) hd1 fun w hw => ?_
  walk_at "ww"
  refine CW.of (c_take' (n := n) (many := 7) hB P1 (by decide) (by decide) fun d2 hd2 H2 P2 k2 => ?_) (by first | exact la rfl | exact Nat.le_add_right _ _ | omega)
  walk_at "ww"
  refine LsP.frz ?_
  walk_at "ww"
  refine CW.of (c_take' (n := n) (many := 3) hB P2 (by decide) (by decide) fun d3 hd3 H3 P3 k3 => ?_) (by first | exact la rfl | exact Nat.le_add_right _ _ | omega)
  walk_at "ww"
  refine it_pick (tab := gapTab) (g := .str) (by decide) hd3 fun gap hgm => ?_
  walk_at "ww"
  refine LsP.cel fun it hit => ?_
  have hit : H3 it = none := hit
  have hpi := P3.ne hit
  walk_at "ww"
  refine RiP.range ?_
  walk_at "ww"
  refine RgP.one (Int.natCast_nonneg _) (Int.ofNat_lt.mpr (Nat.lt_trans hd2 (by decide))) ?_
  rw [Int.toNat_natCast]
  refine WFor.range (GrI H pen it w gap d2) ?_ ?_ _ (.mk [] (H3.put it (some (.list []))) _ _ _ _ _ _ rfl mem0 (P3.put hpi) HG.here fun b hb hb' => (put_off hb').trans ((k3 b hb).trans ((k2 b hb).trans (k1 b hb))))
  · rintro σ ⟨its, H0, o1, o2, o3, o4, o5, o6, hlen, hsp, P0, hi, k0⟩
    have hl6 := Nat.le_trans (Nat.le_of_eq hlen) (Nat.le_of_lt_succ hd2)
    walk_at "ww"
    refine CW.of (c_take' (n := n) (many := 8) hB P0 (by decide) (by decide) fun d4 hd4 H4 P4 k4 => ?_) (by first | exact la rfl | exact Nat.le_add_right _ _ | omega)
    walk_at "ww"
    refine CW.of (c_law_spoilt (n := n) (w := d4) hB hd4 fun ft hfm => ?_) (by first | exact la rfl | exact Nat.le_add_right _ _ | omega)
    walk_at "ww"
    refine ⟨le_line1 (app_le (text_le hgm hsp hl6) (ft_len _ hfm) (by decide)), ?_⟩
    conv => whnf
    refine NmP.frz (by repeat constructor) ((k4 it hpi.symm).trans hi) ?_
    walk_at "ww"
    refine q ⟨w, gap, its, ft⟩ ⟨hw, hgm, hsp, hl6, hfm⟩ _ (P4.put hpi) fun b k e hb => ?_
    have hbi : b ≠ it := fun q => by
      rw [q] at e; exact nomatch (((k3 it hpi.symm).trans ((k2 it hpi.symm).trans (k1 it hpi.symm))).symm.trans hit).symm.trans e
    exact HG.ne hbi ((k4 b hb).trans ((k0 b hb hbi).trans e))
  · rintro t σ hlt ⟨its, H0, o1, o2, o3, o4, o5, o6, hlen, hsp, P0, hi, k0⟩ rest ih
    have hl6 := Nat.le_trans (Nat.le_of_eq hlen) (Nat.le_trans (Nat.le_of_lt hlt) (Nat.le_of_lt_succ hd2))
    walk_at "ww"
    refine CW.of (c_law_spelled (n := n) hB ?_) (by first | exact la rfl | exact Nat.le_add_right _ _ | omega)
    walk_at "ww"
    refine CW.of (c_take' (n := n) (many := 6) hB P0 (by decide) (by decide) fun d4 hd4 H4 P4 k4 => ?_) (by first | exact la rfl | exact Nat.le_add_right _ _ | omega)
    walk_at "ww"
    refine it_pick (tab := spTab) (by decide) hd4 fun row hrm => ?_
    walk_at "ww"
    have hi4 := (k4 it hpi.symm).trans hi
    refine MeP.append hi4 ?_
    walk_at "ww"
    refine ApP.mk hi4 (by rw [List.length_map, List.length_map]; exact le_line1 (Nat.le_trans hl6 (by decide))) ?_
    walk_at "ww"
    refine CW.of (c_take' (n := n) (many := 3) hB (P4.put hpi) (by decide) (by decide) fun d5 hd5 H5 P5 k5 => ?_) (by first | exact la rfl | exact Nat.le_add_right _ _ | omega)
    walk_at "ww"
    refine it_pick (tab := row.2) (Nat.le_trans (Nat.le_of_eq (sp3 _ hrm)) (by decide)) (Nat.lt_of_lt_of_le hd5 (Nat.le_of_eq (sp3 _ hrm).symm)) fun sp hspm => ?_
    have hok : SpOk (row.1, sp) := ⟨row, hrm, rfl, hspm⟩
    have ht := text_le hgm hsp hl6
    walk_at "ww"
    refine ⟨le_line1 (app_le ht (sp_len hok) (by decide)), ?_⟩
    walk_at "ww"
    refine ⟨le_line1 (app_le (k := 130) (Nat.le_trans (Nat.le_of_eq (str_len_app _ _)) (app_le ht (sp_len hok) (by decide))) (gap_len hgm) (by decide)), ?_⟩
    walk_at "ww"
    conv => whnf
    rw [← textOf_snoc gap its (row.1, sp)]
    refine ih _ (.mk (its ++ [(row.1, sp)]) H5 _ _ _ _ _ _ (by rw [List.length_append, hlen]; rfl) (fun p m => (List.mem_append.mp m).elim (hsp p) fun m => List.mem_singleton.mp m ▸ hok) P5 ?_ fun b hb hb' => (k5 b hb).trans ((put_off hb').trans ((k4 b hb).trans (k0 b hb hb'))))
    rw [k5 it hpi.symm, List.map_append, List.map_append]; exact HG.here
end
theorem brc_app {d : Nat} {a : List Nat} {k : Nat} (b : List Nat) (h : brc d a = some (some k)) : brc d (a ++ b) = some (some k) := by
  induction a generalizing d k with
  | nil => cases h
  | cons c r ih =>
    have m : ∀ {d k : Nat}, (brc d r).map (·.map (· + 1)) = some (some k) → (brc d (r ++ b)).map (·.map (· + 1)) = some (some k) := fun h => by
      obtain ⟨o, ho, e⟩ := Option.map_eq_some_iff.mp h
      obtain ⟨j, rfl, e⟩ := Option.map_eq_some_iff.mp e
      rw [ih ho]
      exact congrArg some e
    rw [brc_e] at h
    rw [List.cons_append, brc_e]
    by_cases h1 : c = 92
    · rw [if_pos h1] at h; cases h
    rw [if_neg h1] at h ⊢
    by_cases h2 : c = 123
    · rw [if_pos h2] at h ⊢; exact m h
    rw [if_neg h2] at h ⊢
    by_cases h3 : c = 125
    · rw [if_pos h3] at h ⊢
      by_cases h4 : d ≤ 1
      · rw [if_pos h4] at h ⊢; exact h
      · rw [if_neg h4] at h ⊢; exact m h
    · rw [if_neg h3] at h ⊢; exact m h
theorem by_len {P : List Nat → Prop} (h : ∀ a, (∀ b, b.length < a.length → P b) → P a) (a : List Nat) : P a := (measure List.length).wf.induction a h
theorem quo_app {a : List Nat} (b : List Nat) : ∀ {x : List Nat × Nat}, quo a = some (some x) → quo (a ++ b) = some (some x) := by
  induction a using by_len with | _ a ih =>
  intro x h
  cases a with
  | nil => cases h
  | cons c r =>
    by_cases h1 : c = 92
    · subst h1
      obtain ⟨d, e, r', z, rfl, he, hz, hy⟩ := quo_bs h
      obtain ⟨z, rfl, _⟩ := Option.map_eq_some_iff.mp hy.symm
      refine (if_pos rfl : quo (92 :: d :: (r' ++ b)) = _).trans ?_
      rw [he]
      exact (congrArg (Option.map _) (ih r' (Nat.lt_succ_of_lt (Nat.lt_succ_self _)) hz)).trans (congrArg some hy.symm)
    by_cases h2 : c = 34
    · subst h2; exact quo_q.trans (quo_q.symm.trans h)
    rw [quo_cons h1 h2] at h
    obtain ⟨o, ho, e⟩ := Option.map_eq_some_iff.mp h
    obtain ⟨j, rfl, e⟩ := Option.map_eq_some_iff.mp e
    exact (quo_cons h1 h2).trans ((congrArg (Option.map _) (ih r (Nat.lt_succ_self _) ho)).trans (congrArg some e))
theorem bare_app {g : Nat} (hg : bl g = true) {a : List Nat} (b : List Nat) : ∀ {o : List Nat}, bare a = some (o, a.length) → bare (a ++ g :: b) = some (o, a.length) := by
  induction a using by_len with | _ a ih =>
  intro o h
  cases a with
  | nil => cases h; exact bare_bl hg
  | cons c r =>
    cases h1 : bl c with
    | true => cases (bare_bl h1).symm.trans h
    | false =>
      by_cases h2 : c = 92
      · subst h2
        obtain ⟨d, e, r', z, rfl, he, hz, hy⟩ := bare_bs h
        obtain ⟨z1, z2⟩ := z
        injection hy with e1 e2
        cases Nat.succ.inj (Nat.succ.inj e2)
        refine ((if_neg (by decide)).trans (if_pos rfl) : bare (92 :: d :: (r' ++ g :: b)) = _).trans ?_
        rw [he, e1]
        exact congrArg (Option.map _) (ih r' (Nat.lt_succ_of_lt (Nat.lt_succ_self _)) hz)
      rw [bare_cons h1 h2] at h
      obtain ⟨⟨x1, x2⟩, ho, e⟩ := Option.map_eq_some_iff.mp h
      injection e with e1 e2
      cases Nat.succ.inj e2
      exact (bare_cons h1 h2).trans ((congrArg (Option.map _) (ih r (Nat.lt_succ_self _) ho)).trans (by rw [← e1]; rfl))
theorem skp_app {g0 body : List Nat} (ha : g0.all bl = true) (h : ∀ c r, body = c :: r → bl c = false) : skp (g0 ++ body) = g0.length := by
  induction g0 with
  | nil => cases body with
    | nil => rfl
    | cons c r => exact if_neg (by rw [h c r rfl]; decide)
  | cons c r ih =>
    rw [List.all_cons, Bool.and_eq_true] at ha
    exact (if_pos ha.1 : skp (c :: (r ++ body)) = skp (r ++ body) + 1).trans (congrArg (· + 1) (ih ha.2))
noncomputable def okS (item : Str) (c : Nat) (r : List Nat) : Bool := !bl c && (if c = 123 then brc 1 r == some (some (r.length - 1)) && tx (r.take (r.length - 1)) == item && 1 ≤ r.length
      else if c = 34 then (match quo r with | some (some x) => x.2 + 1 == r.length && tx x.1 == item | _ => false)
      else (match bare (c :: r) with | some x => x.2 == (c :: r).length && tx x.1 == item | none => false))
noncomputable def okSp (item : Str) : List Nat → Bool
  | [] => false
  | c :: r => okS item c r
theorem drop_at {l m : List Nat} {q : Nat} (h : l.drop q = m) (j : Nat) : l[q + j]? = m[j]? := by rw [← h, List.getElem?_drop]
theorem q_len {q n : Nat} (h : 1 ≤ n) : q + 1 + (n - 1) + 1 = q + (n + 1) := by rw [Nat.add_assoc q 1, Nat.add_comm 1, Nat.sub_add_cancel h]; rfl
theorem q_len' {q k n : Nat} (h : k + 1 = n) : q + 1 + k + 1 = q + (n + 1) := by rw [← h, Nat.add_right_comm q 1 k]; rfl
theorem sp_local {item : Str} {sp : List Nat} {g : Nat} {rest l : List Nat} {q : Nat} (h : okSp item sp = true) (hg : bl g = true) (hl : l.drop q = sp ++ g :: rest) : feAt l q = some (.ok item (q + sp.length)) ∧ ∃ c r, sp = c :: r ∧ bl c = false := by
  cases sp with
  | nil => cases h
  | cons c r =>
    have h : okS item c r = true := h
    rw [okS, Bool.and_eq_true] at h
    obtain ⟨hc, h⟩ := h
    refine ⟨?_, c, r, rfl, by simpa using hc⟩
    rw [feAt_c (show l.drop q = c :: (r ++ g :: rest) from hl)]
    by_cases h1 : c = 123
    · rw [if_pos h1] at h ⊢
      simp only [Bool.and_eq_true, decide_eq_true_eq] at h
      obtain ⟨⟨hb, hi⟩, hr⟩ := h
      have hb : brc 1 r = some (some (r.length - 1)) := by simpa using hb
      rw [brc_app _ hb]
      dsimp only
      have hbo : bOk l (q + 1 + (r.length - 1) + 1) = true := by
        unfold bOk
        rw [show q + 1 + (r.length - 1) + 1 = q + ((c :: r).length) from q_len hr, drop_at hl, List.getElem?_append_right (Nat.le_refl _), Nat.sub_self]
        exact hg
      unfold chk
      rw [if_pos hbo, List.take_append_of_le_length (Nat.sub_le ..)]
      have hi : tx (r.take (r.length - 1)) = item := by simpa using hi
      rw [hi, List.length_cons, q_len hr]
    · rw [if_neg h1] at h ⊢
      by_cases h2 : c = 34
      · rw [if_pos h2] at h ⊢
        cases hx : quo r with
        | none => rw [hx] at h; cases h
        | some o => cases o with
        | none => rw [hx] at h; cases h
        | some x =>
          rw [hx] at h
          simp only [Bool.and_eq_true, beq_iff_eq] at h
          rw [quo_app _ hx]
          dsimp only
          have hbo : bOk l (q + 1 + x.2 + 1) = true := by
            unfold bOk
            rw [show q + 1 + x.2 + 1 = q + ((c :: r).length) from q_len' h.1, drop_at hl, List.getElem?_append_right (Nat.le_refl _), Nat.sub_self]
            exact hg
          unfold chk
          rw [if_pos hbo, h.2, List.length_cons, q_len' h.1]
      · rw [if_neg h2] at h ⊢
        cases hx : bare (c :: r) with
        | none => rw [hx] at h; cases h
        | some x =>
          rw [hx] at h
          simp only [Bool.and_eq_true, beq_iff_eq] at h
          have hx' : bare (c :: r) = some (x.1, (c :: r).length) := by rw [hx, ← h.1]
          have := bare_app hg rest hx'
          rw [List.cons_append] at this
          rw [this]
          show some (FR.ok (tx x.1) (q + (c :: r).length)) = _
          rw [h.2]
theorem sp_all : ∀ row ∈ spTab, ∀ sp ∈ row.2, okSp row.1 sp.cps.toList = true := by decide +kernel
theorem gap_all : ∀ g ∈ gapTab, g.cps.toList.all bl = true ∧ g.cps.toList ≠ [] := by decide +kernel
noncomputable def ftR (ft : Str × Str × AV) : FR := if ft.1 = "" then .none else .bad ft.2.1 ft.2.2
theorem ft_local : ∀ ft ∈ ftTab, ∀ (l : List Nat) (q : Nat), l.drop q = ft.1.cps.toList → feAt l q = some (ftR ft) := by
  have e4 : ("{e" : Str).cps.toList = [123, 101] := by decide +kernel
  have e5 : ("\"e" : Str).cps.toList = [34, 101] := by decide +kernel
  have e6 : ("{e}fg h" : Str).cps.toList = [123, 101, 125, 102, 103, 32, 104] := by decide +kernel
  have e7 : ("\"e\"f" : Str).cps.toList = [34, 101, 34, 102] := by decide +kernel
  have e0 : ("" : Str).cps.toList = [] := by decide +kernel
  have j6 : junkWhy "braces" (tx [102, 103]) = "list element in braces followed by \"fg\" instead of space" := by decide +kernel
  have j7 : junkWhy "quotes" (tx [102]) = "list element in quotes followed by \"f\" instead of space" := by decide +kernel
  have h0 : ∀ (l : List Nat) (q : Nat), l.drop q = noFt.1.cps.toList → feAt l q = some (ftR noFt) := fun l q h => by
    have h : l.drop q = [] := h.trans e0
    unfold feAt; rw [h]; rfl
  intro ft hm l q h
  simp only [ftTab, List.mem_cons, List.not_mem_nil, or_false] at hm
  rcases hm with rfl | rfl | rfl | rfl | rfl | rfl | rfl | rfl
  · exact h0 l q h
  · exact h0 l q h
  · exact h0 l q h
  · exact h0 l q h
  · have h := h.trans e4
    unfold feAt; rw [h]; rfl
  · have h := h.trans e5
    unfold feAt; rw [h]; rfl
  · have h := h.trans e6
    have hd : l.drop (q + 3) = [102, 103, 32, 104] := by rw [← List.drop_drop, h]; rfl
    have hg : l[q + 3]? = some 102 := (drop_at h 3).trans rfl
    unfold feAt; rw [h]
    show some (chk l (q + 1 + 1 + 1) "braces" _) = _
    unfold chk bOk
    rw [show q + 1 + 1 + 1 = q + 3 by omega, hg, hd]
    show some (FR.bad (junkWhy "braces" (tx [102, 103])) eJunk) = _
    rw [j6]; rfl
  · have h := h.trans e7
    have hd : l.drop (q + 3) = [102] := by rw [← List.drop_drop, h]; rfl
    have hg : l[q + 3]? = some 102 := (drop_at h 3).trans rfl
    unfold feAt; rw [h]
    show some (chk l (q + 1 + 1 + 1) "quotes" _) = _
    unfold chk bOk
    rw [show q + 1 + 1 + 1 = q + 3 by omega, hg, hd]
    show some (FR.bad (junkWhy "quotes" (tx [102])) eJunk) = _
    rw [j7]; rfl
noncomputable def ftOpt (ft : Str × Str × AV) : Option (Str × AV) := if ft.1 = "" then none else some (ft.2.1, ft.2.2)
theorem ft_head : ∀ ft ∈ ftTab, ∀ c r, ft.1.cps.toList = c :: r → bl c = false := by
  have : ∀ ft ∈ ftTab.map (·.1.cps.toList), (match ft with | [] => true | c :: _ => !bl c) = true := by decide +kernel
  intro ft hm c r h
  have := this _ (List.mem_map_of_mem hm)
  rw [h] at this
  simpa using this
theorem spl_its {gap : Str} {ft : Str × Str × AV} (hg : gap ∈ gapTab) (hf : ft ∈ ftTab) (its : List (Str × Str)) (hs : ∀ p ∈ its, SpOk p) (k : Nat) (l g0 : List Nat) (p : Nat) (hk : its.length < k) (h0 : g0.all bl = true) (hp : p ≤ l.length)
    (hl : l.drop p = g0 ++ (its.flatMap (fun q => q.2.cps.toList ++ gap.cps.toList) ++ ft.1.cps.toList)) : spl k l p = some (match ftOpt ft with | none => .ok (its.map (·.1)) | some (w, e) => .bad w e) := by
  induction its generalizing k l g0 p with
  | nil =>
    obtain _ | k := k
    · exact absurd hk (Nat.not_lt_zero _)
    rw [spl_s, fe, hl]
    rw [List.flatMap_nil, List.nil_append] at hl ⊢
    rw [skp_app h0 (ft_head ft hf)]
    have hl' : l.drop (p + g0.length) = ft.1.cps.toList := by rw [← List.drop_drop, hl, List.drop_left]
    rw [ft_local ft hf l _ hl']
    unfold ftR ftOpt
    by_cases e : ft.1 = ""
    · rw [if_pos e, if_pos e]; rfl
    · rw [if_neg e, if_neg e]
  | cons it its ih =>
    obtain _ | k := k
    · exact absurd hk (Nat.not_lt_zero _)
    obtain ⟨row, hr, e1, e2⟩ := hs it (.head _)
    have hok := sp_all row hr it.2 e2
    obtain ⟨ga, gn⟩ := gap_all gap hg
    obtain ⟨g, gs, hgs⟩ : ∃ g gs, gap.cps.toList = g :: gs := by
      cases hc : gap.cps.toList with
      | nil => exact absurd hc gn
      | cons g gs => exact ⟨g, gs, rfl⟩
    have hgb : bl g = true := by rw [hgs, List.all_cons, Bool.and_eq_true] at ga; exact ga.1
    rw [List.flatMap_cons, List.append_assoc, List.append_assoc] at hl
    have hl1 : l.drop (p + g0.length) = it.2.cps.toList ++ g :: (gs ++ (its.flatMap (fun q => q.2.cps.toList ++ gap.cps.toList) ++ ft.1.cps.toList)) := by
      rw [← List.drop_drop, hl, List.drop_left, hgs]; rfl
    obtain ⟨hfe, c, r, hcr, hcb⟩ := sp_local hok hgb hl1
    have hsk : skp (l.drop p) = g0.length := by
      rw [hl]
      refine skp_app h0 fun c' r' e => ?_
      rw [hcr, List.cons_append] at e
      injection e with e _
      rw [← e]; exact hcb
    have hl2 : l.drop (p + g0.length + it.2.cps.toList.length) = gap.cps.toList ++ (its.flatMap (fun q => q.2.cps.toList ++ gap.cps.toList) ++ ft.1.cps.toList) := by
      rw [← List.drop_drop, hl1, List.drop_left, hgs]; rfl
    have hle : p + g0.length + it.2.cps.toList.length ≤ l.length := by
      have := congrArg List.length hl2
      rw [List.length_drop, List.length_append, hgs, List.length_cons] at this
      exact Nat.le_of_lt (Nat.lt_of_sub_pos (by rw [this]; exact Nat.add_pos_left (Nat.succ_pos _) _))
    rw [spl_s, fe, hsk, hfe]
    dsimp only
    rw [if_pos hle, ih (fun q m => hs q (.tail _ m)) k l gap.cps.toList _ (Nat.lt_of_succ_lt_succ hk) ga hle hl2]
    cases ftOpt ft with
    | none => rw [← e1]; rfl
    | some x => rfl
theorem app_list (x y : Str) : (x ++ y).cps.toList = x.cps.toList ++ y.cps.toList := by
  show (x.cps ++ y.cps).toList = _
  simp
theorem text_list (gap : Str) (its : List (Str × Str)) (t : Str) : (its.foldl (fun t p => t ++ p.2 ++ gap) t).cps.toList = t.cps.toList ++ its.flatMap (fun q => q.2.cps.toList ++ gap.cps.toList) := by
  induction its generalizing t with
  | nil => exact (List.append_nil _).symm
  | cons p r ih =>
    rw [List.foldl_cons, ih, app_list, app_list, List.flatMap_cons, List.append_assoc, List.append_assoc, List.append_assoc]
noncomputable def Draw.gd (d : Draw) : GD := ⟨d.w.1.cps.toList, d.w.2, d.text.cps.toList, d.its.map (·.1), ftOpt d.ft⟩
theorem nm_spl : ∀ w ∈ nmTab, spl 1000 w.1.cps.toList 0 = some (match w.2 with | none => .bad "unmatched open brace in list" eBrace | some ns => .ok (ns.map Nm.str)) := by
  intro w hm
  simp only [nmTab, List.mem_cons, List.not_mem_nil, or_false] at hm
  rcases hm with rfl | rfl | rfl | rfl | rfl | rfl | rfl | rfl <;> kernel_rfl
theorem Draw.gd_ok {d : Draw} (h : d.Ok) : d.gd.Ok := by
  have hw : ∀ w ∈ nmTab, w.1.cps.toList.length ≤ 10 ∧ (w.2.getD []).length ≤ 3 := by decide +kernel
  have hft : ∀ g ∈ ftTab, g.1.length ≤ 10 := by decide +kernel
  have hl := h.len
  have ht : d.text.cps.toList.length ≤ 200 := by
    have a := text_len h.gap h.its ""
    have b := hft _ h.ft
    have c : ("" : Str).length = 0 := rfl
    have e : d.text.cps.toList.length = d.text.length := by simp [PySem.Str.length]
    rw [e]
    show (textOf d.gap d.its ++ d.ft.1).length ≤ 200
    rw [str_len_app]
    unfold textOf
    omega
  have e0 : ("" : Str).cps.toList = [] := by decide +kernel
  refine ⟨Nat.le_trans (hw _ h.w).1 (by decide), Nat.le_trans ht (by decide), nm_spl _ h.w, ?_, Nat.le_trans (hw _ h.w).2 (by decide), ?_⟩
  · have := spl_its h.gap h.ft d.its h.its 1000 d.text.cps.toList [] 0 (by omega) rfl (Nat.zero_le _) (by
      rw [List.drop_zero, List.nil_append]
      show (textOf d.gap d.its ++ d.ft.1).cps.toList = _
      rw [app_list, textOf, text_list, e0, List.nil_append])
    exact this
  · show (d.its.map _).length ≤ 10
    rw [List.length_map]; omega
noncomputable def refAV : Option (Str × AV) → AV
  | none => .none
  | some (w, e) => .tup [.int 1, .str w, e, .int 0, .int 0]
inductive RfI (ds : List Draw) (lm : Bool) (H : AH) (gs : List Draw) : St → Prop
  | mk (o1 o2 o3 o4 o5 : Option AV) : (∀ d ∈ gs, d.Ok) → refGs lm (gs.map Draw.gd) = refGs lm (ds.map Draw.gd) → RfI ds lm H gs ⟨[some (.lst (ds.map Draw.av)), some (.str (kd lm)), o1, o2, o3, o4, o5], H⟩
theorem refG_of (lm : Bool) (d : Draw) : refG lm d.gd = (match d.w.2 with | none => some (("unmatched open brace in list" : Str), eBrace) | some [] => some (kd lm ++ " varlist is empty", eNeed lm) | some (_ :: _) => ftOpt d.ft) := rfl
theorem ft_why : ∀ g ∈ ftTab, (g.2.1 == "") = (g.1 == "") := by decide +kernel
theorem ftOpt_t {ft : Str × Str × AV} (h : ft ∈ ftTab) (hb : (ft.2.1 != "") = true) : ftOpt ft = some (ft.2.1, ft.2.2) := if_neg fun e => by rw [bne, ft_why _ h, e] at hb; exact absurd hb (by decide)
theorem ftOpt_f {ft : Str × Str × AV} (h : ft ∈ ftTab) (hb : (ft.2.1 != "") = false) : ftOpt ft = none := if_pos (by rw [bne, ft_why _ h] at hb; simpa using hb)
theorem refGs_c {lm : Bool} {d : Draw} {gs : List Draw} {o : Option (Str × AV)} (h : refGs lm ((d :: gs).map Draw.gd) = o) {p : Str × AV} (e : refG lm d.gd = some p) : o = some p := by
  have k := (refGs_drop (i := 0) (g := d.gd) (gs := (d :: gs).map Draw.gd) rfl).symm.trans h
  rw [e] at k; exact k.symm
theorem refGs_n {lm : Bool} {d : Draw} {gs : List Draw} {o : Option (Str × AV)} (h : refGs lm ((d :: gs).map Draw.gd) = o) (e : refG lm d.gd = none) : refGs lm (gs.map Draw.gd) = o := by
  have k := (refGs_drop (i := 0) (g := d.gd) (gs := (d :: gs).map Draw.gd) rfl).symm.trans h
  rw [e] at k; exact k
section
variable {B : BC} {n : Nat} (hB : KB B) {H : AH} {Q : AV → AH → Prop} {X : Addr → AH → Prop}
include hB
theorem c_law_refusal {ds : List Draw} {lm : Bool} (ok : ∀ d ∈ ds, d.Ok) (q : Q (refAV (refGs lm (ds.map Draw.gd))) H) : CallP B (n + 1) (.ref 706) [.lst (ds.map Draw.av), .str (kd lm)] H Q X := by
  refine c_def hB ["groups", "kind", "written", "names", "text", "items", "fault"] [] (by k_is) (by k_is) (by k_is) rfl (fn_ok .nil rfl) rfl (by dsimp only [mkLoc, List.map]) (fun rs hr => ?_) (fun f hn hg hp => ?_)
  · exact len2 hr fun _ _ => rfl
  walk_at "ww"
  refine WFor.map (RfI ds lm H) ?_ ?_ ds _ (.mk none none none none none ok rfl)
  · rintro σ ⟨o1, o2, o3, o4, o5, _, hr⟩
    rw [← show none = refGs lm (ds.map Draw.gd) from hr] at q
    walk_at "ww"
    exact q
  · rintro d gs σ ⟨o1, o2, o3, o4, o5, okg, hr⟩ rest ih
    have okd := (okg d (.head _)).ft
    have hG := refG_of lm d
    walk_at "ww"
    conv => whnf
    rcases hw : d.w.2 with _ | _ | ⟨m, ns⟩ <;> rw [hw] at hG
    · rw [refGs_c hr hG] at q
      walk_at "ww"
      exact q
    · rw [refGs_c hr hG] at q
      walk_at "ww"
      refine LsP.frz ?_
      walk_at "ww"
      refine ⟨o_eq_nil ?_⟩
      walk_at "ww"
      refine ⟨le_line1 (Nat.le_trans (Nat.add_le_add (kd_len lm) (show (" varlist is empty" : Str).length ≤ 20 by decide +kernel)) (by decide)), ?_⟩
      walk_at "ww"
      refine MeP.upper rfl (kd_up lm) ?_
      walk_at "ww"
      exact q
    · walk_at "ww"
      refine LsP.frz ?_
      walk_at "ww"
      refine ⟨o_eq_nil ?_⟩
      walk_at "ww"
      refine ItP.tup (v := .str d.ft.2.1) (by decide) (by decide) rfl ?_
      walk_at "ww"
      conv => whnf
      refine br_of (fun hb => ?_) (fun hb => ?_)
      · rw [refGs_c hr (hG.trans (ftOpt_t okd hb))] at q
        walk_at "ww"
        refine ItP.tup (v := .str d.ft.2.1) (by decide) (by decide) rfl ?_
        walk_at "ww"
        refine ItP.tup (v := d.ft.2.2) (by decide) (by decide) rfl ?_
        walk_at "ww"
        exact q
      · walk_at "ww"
        exact ih _ (.mk _ _ _ _ _ (fun d m => okg d (.tail _ m)) (refGs_n hr (hG.trans (ftOpt_f okd hb))))
end
noncomputable def End.got : End → GotE
  | .done => .ret (.str "")
  | .thr c w => .thr c (.str w) ecNone (lvlOf c)
  | .fuel => .fuel
noncomputable def dueAV (fin : End × Co × Nat) : AV := .tup [fin.1.got.av, .lst fin.2.1.log, standsAV fin.2.1.v, .lst (fin.2.1.kept.map .str), .int (fin.2.2 : Nat)]
noncomputable def co0 : Co := ⟨v0, [], []⟩
structure DueAt (H H' : AH) (st sb kp : Addr) (c : Co) : Prop where
  a_st : H' st = some (.dict (standsEs c.v))
  a_sb : H' sb = some (.list c.log)
  a_kp : H' kp = some (.list (c.kept.map .str))
  ext : Ext H H'
  nst : H st = none
  nsb : H sb = none
  nkp : H kp = none
  d1 : st ≠ sb
  d2 : st ≠ kp
  d3 : sb ≠ kp
theorem DueAt.out {H H' : AH} {st sb kp : Addr} {c : Co} (D : DueAt H H' st sb kp c) : Ext H (((H'.put sb none).put st none).put kp none) := fun b k e => by
  have h1 : b ≠ kp := fun q => by rw [q, D.nkp] at e; cases e
  have h2 : b ≠ st := fun q => by rw [q, D.nst] at e; cases e
  have h3 : b ≠ sb := fun q => by rw [q, D.nsb] at e; cases e
  exact HG.ne h1 (HG.ne h2 (HG.ne h3 (D.ext b k e)))
theorem DueAt.setSt {H H' : AH} {st sb kp : Addr} {c c' : Co} (D : DueAt H H' st sb kp c) (hl : c'.log = c.log) (hk : c'.kept = c.kept) : DueAt H (H'.put st (some (.dict (standsEs c'.v)))) st sb kp c' :=
  ⟨HG.here, by rw [hl]; exact HG.ne D.d1.symm D.a_sb, by rw [hk]; exact HG.ne D.d2.symm D.a_kp, fun b k e => HG.ne (fun q => by rw [q, D.nst] at e; cases e) (D.ext b k e), D.nst, D.nsb, D.nkp, D.d1, D.d2, D.d3⟩
theorem DueAt.setSb {H H' : AH} {st sb kp : Addr} {c c' : Co} (D : DueAt H H' st sb kp c) (hv : c'.v = c.v) (hk : c'.kept = c.kept) : DueAt H (H'.put sb (some (.list c'.log))) st sb kp c' :=
  ⟨by rw [hv]; exact HG.ne D.d1 D.a_st, HG.here, by rw [hk]; exact HG.ne D.d3.symm D.a_kp, fun b k e => HG.ne (fun q => by rw [q, D.nsb] at e; cases e) (D.ext b k e), D.nst, D.nsb, D.nkp, D.d1, D.d2, D.d3⟩
theorem DueAt.setKp {H H' : AH} {st sb kp : Addr} {c c' : Co} (D : DueAt H H' st sb kp c) (hv : c'.v = c.v) (hl : c'.log = c.log) : DueAt H (H'.put kp (some (.list (c'.kept.map .str)))) st sb kp c' :=
  ⟨by rw [hv]; exact HG.ne D.d2 D.a_st, by rw [hl]; exact HG.ne D.d3 D.a_sb, HG.here, fun b k e => HG.ne (fun q => by rw [q, D.nkp] at e; cases e) (D.ext b k e), D.nst, D.nsb, D.nkp, D.d1, D.d2, D.d3⟩
theorem stands_at (v : Nm → VS) (m : Nm) : GHas (standsEs v) m.str (vAV (v m)) := by cases m <;> repeat constructor
theorem CoA.lt_of {fuel : Nat} {deeds : List Deed} {rows : List Row} {fin : End × Co × Nat} {t : Nat} {c : Co} (h : CoA fuel deeds rows fin t c) (e : t ≠ fuel) : t < fuel := by cases h; exact Nat.lt_of_le_of_ne (by assumption) e
theorem br_lvl {W : WP} {e e' : Expr} {σ : St} {Q : AV → St → Prop} {code : Int} (t : Q (.int 1) σ → W.E e σ Q) (t0 : Q (.int 0) σ → W.E e' σ Q) (h : Q (.int (lvlOf code)) σ) : br (code == 2) (W.E e σ Q) (W.E e' σ Q) :=
  br_ie (fun q => t ((if_pos q : lvlOf code = 1) ▸ h)) fun q => t0 ((if_neg q : lvlOf code = 0) ▸ h)
section
variable {H H' : AH} {st sb kp : Addr} {c : Co} {row : Row} {d : Deed} {v : Nm → VS} {m : Nm}
theorem DueAt.app (D : DueAt H H' st sb kp ⟨actV (wrV c.v row) d, c.log ++ [standsAV (wrV c.v row)], c.kept⟩) (h0 : d.code = 0) : DueAt H (H'.put kp (some (.list (c.kept.map .str ++ [.str d.value])))) st sb kp (coNext c row d) := by
  have := D.setKp (c' := coNext c row d) rfl rfl
  rwa [coNext_kept0 h0, List.map_append] at this
theorem DueAt.skip (D : DueAt H H' st sb kp ⟨actV (wrV c.v row) d, c.log ++ [standsAV (wrV c.v row)], c.kept⟩) (h0 : d.code ≠ 0) : DueAt H H' st sb kp (coNext c row d) :=
  ⟨D.a_st, D.a_sb, by rw [coNext_kept h0]; exact D.a_kp, D.ext, D.nst, D.nsb, D.nkp, D.d1, D.d2, D.d3⟩
noncomputable def actP (v : Nm → VS) (d : Deed) : Nm → VS := match d.act with
  | .put m => putV v m ⟨true, d.value, (v m).writes + 1⟩
  | _ => v
theorem br_put {T E : Prop} (t : ∀ m, d.act = .put m → d.name = m.str → T) (e : (∀ m, d.act ≠ .put m) → E) : br (d.word == "put") T E := by
  obtain ⟨act, code, value⟩ := d
  cases act with
  | put m => exact t m rfl rfl
  | no => exact e fun _ => (nomatch ·)
  | drop m => exact e fun _ => (nomatch ·)
theorem br_drop {T E : Prop} (t : ∀ m, d.act = .drop m → d.name = m.str → T) (e : (∀ m, d.act ≠ .drop m) → E) : br (d.word == "drop") T E := by
  obtain ⟨act, code, value⟩ := d
  cases act with
  | drop m => exact t m rfl rfl
  | no => exact e fun _ => (nomatch ·)
  | put m => exact e fun _ => (nomatch ·)
theorem br_kind {w : VS} {T E : Prop} (t : w.live = true → T) (e : w.live = false → E) : br (w.kind == "scalar") T E := by
  obtain ⟨live, value, writes⟩ := w
  cases live with
  | true => exact t rfl
  | false => exact e rfl
theorem act_put (h : d.act = .put m) : putV v m ⟨true, d.value, (v m).writes + 1⟩ = actP v d := by unfold actP; rw [h]
theorem act_np (h : ∀ m, d.act ≠ .put m) : v = actP v d := by
  unfold actP
  cases e : d.act with
  | put m => exact absurd e (h m)
  | _ => rfl
theorem act_nd (h : ∀ m, d.act ≠ .drop m) : actP v d = actV v d := by
  unfold actP actV
  cases e : d.act with
  | drop m => exact absurd e (h m)
  | _ => rfl
theorem act_dp (h : d.act = .drop m) : actP v d = v := by unfold actP; rw [h]
theorem act_dl (h : d.act = .drop m) (hl : (v m).live = true) : putV v m ⟨false, "", (v m).writes + 1⟩ = actV v d := by unfold actV; rw [h]; exact (if_pos hl).symm
theorem act_dd (h : d.act = .drop m) (hl : (v m).live = false) : v = actV v d := by unfold actV; rw [h]; exact (if_neg (by rw [hl]; decide)).symm
end
noncomputable abbrev duL (rows : List Row) (deeds : List Deed) (fuel : Nat) (st sb kp : Addr) (o1 o2 o3 o4 o5 o6 : Option AV) : List (Option AV) := [some (rowsAV rows), some (.lst (deeds.map Deed.av)), some (.int (fuel : Nat)), some (.ref st), some (.ref sb), some (.ref kp), o1, o2, o3, o4, o5, o6]
inductive DuI (rows : List Row) (deeds : List Deed) (fuel : Nat) (fin : End × Co × Nat) (H : AH) (st sb kp : Addr) (t : Nat) : St → Prop
  | mk {c : Co} {H0 : AH} (o1 o2 o3 o4 o5 o6 : Option AV) : CoA fuel deeds rows fin t c → DueAt H H0 st sb kp c → DuI rows deeds fuel fin H st sb kp t ⟨duL rows deeds fuel st sb kp o1 o2 o3 o4 o5 o6, H0⟩
inductive DuR (rows : List Row) (deeds : List Deed) (fuel : Nat) (H : AH) (st sb kp : Addr) (t : Nat) (row : Row) (c : Co) (o5 o6 : Option AV) (r : Row) : St → Prop
  | mk {v : Nm → VS} {H1 : AH} (o3 o4 : Option AV) : wrV v r = wrV c.v row → DueAt H H1 st sb kp ⟨v, c.log, c.kept⟩ → DuR rows deeds fuel H st sb kp t row c o5 o6 r ⟨duL rows deeds fuel st sb kp (some (.int (t : Nat))) (some (rowAV row)) o3 o4 o5 o6, H1⟩
inductive DuJ (rows : List Row) (deeds : List Deed) (fuel : Nat) (H : AH) (st sb kp : Addr) (t : Nat) (row : Row) (c : Co) (d : Deed) (v : Nm → VS) : St → Prop
  | mk {v' : Nm → VS} {H1 : AH} : v' = v → DueAt H H1 st sb kp ⟨v', c.log ++ [standsAV (wrV c.v row)], c.kept⟩ → DuJ rows deeds fuel H st sb kp t row c d v ⟨duL rows deeds fuel st sb kp (some (.int (t : Nat))) (some (rowAV row)) (some (.str d.name)) (some (.str d.value)) (some (.str d.word)) (some (.int d.code)), H1⟩
section
variable {B : BC} {n : Nat} (hB : KB B) {H : AH} {Q : AV → AH → Prop} {X : Addr → AH → Prop}
include hB
theorem c_law_written {st : Addr} {v : Nm → VS} {m : Nm} {x : Str} {live : Bool} {value : Str} (hx : x = m.str) (hst : H st = some (.dict (standsEs v))) (q : Q .none (H.put st (some (.dict (standsEs (putV v m ⟨live, value, (v m).writes + 1⟩)))))) : CallP B (n + 1) (.ref 720) [.ref st, .str x, .str (kindS live), .str value] H Q X := by
  subst hx
  refine c_def hB ["stands", "name", "kind", "value"] [] (by k_is) (by k_is) (by k_is) rfl (fn_ok .nil rfl) rfl (by dsimp only [mkLoc, List.map]) (fun rs hr => ?_) (fun f hn hg hp => ?_)
  · exact len4 hr fun _ _ _ _ => rfl
  cases m with
  | x =>
    walk_at "ww"
    refine ItP.dict hst (by repeat constructor) ?_
    walk_at "ww"
    refine ItP.tup (v := .int (v .x).writes) (by decide) (by decide) rfl ?_
    walk_at "ww"
    refine SsP.put hst (by repeat constructor) ?_
    walk_at "ww"
    exact q
  | y =>
    walk_at "ww"
    refine ItP.dict hst (by repeat constructor) ?_
    walk_at "ww"
    refine ItP.tup (v := .int (v .y).writes) (by decide) (by decide) rfl ?_
    walk_at "ww"
    refine SsP.put hst (by repeat constructor) ?_
    walk_at "ww"
    exact q
  | z =>
    walk_at "ww"
    refine ItP.dict hst (by repeat constructor) ?_
    walk_at "ww"
    refine ItP.tup (v := .int (v .z).writes) (by decide) (by decide) rfl ?_
    walk_at "ww"
    refine SsP.put hst (by repeat constructor) ?_
    walk_at "ww"
    exact q
theorem c_law_due {rows : List Row} {deeds : List Deed} {fuel : Nat} {fin : End × Co × Nat} (hR : rows.length ≤ deeds.length) (hdl : deeds.length ≤ 100) (hfin : coreR fuel deeds rows 0 co0 = fin) (q : ∀ H', Ext H H' → Q (dueAV fin) H') :
    CallP B (n + 2) (.ref 727) [rowsAV rows, .lst (deeds.map Deed.av), .int (fuel : Nat)] H Q X := by
  refine c_defm [false, false, false, true, true, true] hB ["rounds", "deeds", "fuel", "stands", "seen_by", "kept", "turn", "row", "name", "value", "deed", "code"] [("_law_written", .ref 720), ("enumerate", .typ "enumerate"), ("dict", .typ "dict"), ("len", .blt "len")] (by k_is) (by k_is) (by k_is) rfl
    (fn_ok (.fn hB (by k_is) rfl (.typ hB (by k_is) rfl rfl (.typ hB (by k_is) rfl rfl (.blt hB (by k_is) rfl rfl .nil)))) rfl) rfl (by dsimp only [mkLoc, List.map]) (fun rs hr => ?_) (fun f hn hg hp => ?_)
  · exact len3 hr fun _ _ _ => rfl
  walk_at "ww"
  refine ⟨fun st hst => ?_⟩
  walk_at "ww"
  refine ⟨HG.here, rfl, rfl, ?_⟩
  rw [AH.put_twice]
  walk_at "ww"
  refine LsP.cel fun sb hsb => ?_
  have sbst := (put_none hsb).1
  have hsb := (put_none hsb).2
  walk_at "ww"
  refine LsP.cel fun kp hkp => ?_
  have kpsb := (put_none hkp).1
  have hkp := (put_none hkp).2
  have kpst := (put_none hkp).1
  have hkp := (put_none hkp).2
  walk_at "ww"
  refine RiP.enum rfl ?_
  walk_at "ww"
  refine EnP.mk ?_
  refine WFor.enum (DuI rows deeds fuel fin H st sb kp) ?_ ?_ _ (.mk _ _ _ _ _ _ (.one ⟨rfl, rfl⟩ hfin) ⟨HG.ne kpst.symm (HG.ne sbst.symm HG.here), HG.ne kpsb.symm HG.here, HG.here, fun b k e => HG.ne (AH.new_ne hkp e).symm (HG.ne (AH.new_ne hsb e).symm (HG.ne (AH.new_ne hst e).symm e)), hst, hsb, hkp, sbst.symm, kpst.symm, kpsb.symm⟩)
  · rintro σ ⟨o1, o2, o3, o4, o5, o6, C, D⟩
    rw [C.stop (Nat.le_refl _)] at q
    conv => whnf
    refine NmP.frz (by repeat constructor) D.a_sb ?_
    conv => whnf
    refine NmP.frzd (by repeat constructor) (HG.ne D.d1 D.a_st) ?_
    conv => whnf
    refine NmP.frz (by repeat constructor) (HG.ne D.d2.symm (HG.ne D.d3.symm D.a_kp)) ?_
    walk_at "ww"
    refine len_map (Nat.le_trans hR (Nat.le_trans hdl (by decide))) ?_
    walk_at "ww"
    exact q _ D.out
  · rintro t σ hlt @⟨c, H0, o1, o2, o3, o4, o5, o6, C, D⟩ rest ih
    have hdt := Nat.lt_of_lt_of_le hlt hR
    have ht1 : t ≤ 1000 := Nat.le_trans (Nat.le_of_lt hdt) (Nat.le_trans hdl (by decide))
    walk_at "ww"
    conv => whnf
    refine br_eq (fun htf => ?_) (fun htf => ?_)
    · rw [C.out hlt (Nat.lt_succ_of_le (Nat.le_of_eq htf.symm)), htf] at q
      conv => whnf
      refine NmP.frz (by repeat constructor) D.a_sb ?_
      conv => whnf
      refine NmP.frzd (by repeat constructor) (HG.ne D.d1 D.a_st) ?_
      conv => whnf
      refine NmP.frz (by repeat constructor) (HG.ne D.d2.symm (HG.ne D.d3.symm D.a_kp)) ?_
      walk_at "ww"
      exact q _ D.out
    · have nx := C.step (List.getElem?_eq_getElem hlt) (deed_at hdt) (C.lt_of htf)
      walk_at "ww"
      refine WFor.map (g := fun p : Nm × Str => AV.tup [.str p.1.str, .str p.2]) (DuR rows deeds fuel H st sb kp t rows[t] c o5 o6) ?_ ?_ rows[t] _ (.mk _ _ rfl D)
      rotate_left 1
      · rintro p r σ ⟨o3, o4, hv, D1⟩ rest1 ih1
        walk_at "ww"
        refine CW.of (c_law_written (n := n) (m := p.1) (live := true) hB rfl D1.a_st ?_) (by first | exact la rfl | exact Nat.le_add_right _ _ | omega)
        walk_at "ww"
        exact ih1 _ (.mk _ _ hv (D1.setSt (c' := ⟨_, _, _⟩) rfl rfl))
      · rintro σ @⟨v, H1, o3, o4, hv, D1⟩
        have D1 := (show v = wrV c.v rows[t] from hv) ▸ D1
        walk_at "ww"
        refine MeP.append D1.a_sb ?_
        walk_at "ww"
        refine CaP.dict rfl ?_
        walk_at "ww"
        refine ⟨st, _, rfl, D1.a_st, ?_⟩
        walk_at "ww"
        refine ApP.mk D1.a_sb (le_line1 (Nat.le_trans (Nat.le_of_eq C.log) ht1)) ?_
        walk_at "ww"
        refine it_lst (v := deeds[t].av) ht1 (by rw [List.getElem?_map, deed_at hdt]; rfl) ?_
        walk_at "ww"
        conv => whnf
        refine br_cut (DuJ rows deeds fuel H st sb kp t rows[t] c deeds[t] (actP (wrV c.v rows[t]) deeds[t])) (fun cut => ?_) ?_
        · have D2 := D1.setSb (c' := ⟨wrV c.v rows[t], c.log ++ [standsAV (wrV c.v rows[t])], c.kept⟩) rfl rfl
          conv => whnf
          refine br_put (fun m hm hx => ?_) fun hm => ?_
          · walk_at "ww"
            refine CW.of (c_law_written (n := n) (m := m) (live := true) hB hx D2.a_st ?_) (by first | exact la rfl | exact Nat.le_add_right _ _ | omega)
            walk_at "ww"
            have h := cut _ (.mk (act_put hm) (D2.setSt (c' := ⟨_, _, _⟩) rfl rfl))
            conv at h => whnf
            exact h
          · walk_at "ww"
            have h := cut _ (.mk (act_np hm) D2)
            conv at h => whnf
            exact h
        rintro σ ⟨e, D2⟩
        refine s_cut (DuJ rows deeds fuel H st sb kp t rows[t] c deeds[t] (actV (wrV c.v rows[t]) deeds[t])) (fun cut => ?_) ?_
        · walk_at "ww"
          conv => whnf
          refine br_drop (fun m hm hx => ?_) fun hm => ?_
          · have D2 := (e.trans (act_dp hm)) ▸ D2
            walk_at "ww"
            refine ItP.dict D2.a_st (by rw [hx]; exact stands_at _ m) ?_
            walk_at "ww"
            refine it_tup (k := 0) (v := .str (wrV c.v rows[t] m).kind) (by decide) rfl ?_
            walk_at "ww"
            conv => whnf
            refine br_kind (fun hl => ?_) fun hl => ?_
            · walk_at "ww"
              refine CW.of (c_law_written (n := n) (m := m) (live := false) hB hx D2.a_st ?_) (by first | exact la rfl | exact Nat.le_add_right _ _ | omega)
              walk_at "ww"
              have h := cut _ (.mk (act_dl hm hl) (D2.setSt (c' := ⟨_, _, _⟩) rfl rfl))
              conv at h => whnf
              exact h
            · walk_at "ww"
              have h := cut _ (.mk (act_dd hm hl) D2)
              conv at h => whnf
              exact h
          · walk_at "ww"
            have h := cut _ (.mk (e.trans (act_nd hm)) D2)
            conv at h => whnf
            exact h
        rintro σ ⟨e, D2⟩
        have D2 := e ▸ D2
        walk_at "ww"
        conv => whnf
        refine br_ie (fun h0 => ?_) fun h0 => ?_
        · walk_at "ww"
          refine MeP.append D2.a_kp ?_
          walk_at "ww"
          refine ApP.mk D2.a_kp (by rw [List.length_map]; exact le_line1 (Nat.le_trans C.kept ht1)) ?_
          walk_at "ww"
          exact ih _ (.mk _ _ _ _ _ _ (nx.1 (.inl h0)) (D2.app h0))
        · have D4 := D2.skip h0
          walk_at "ww"
          conv => whnf
          refine br_ie (fun h3 => ?_) fun h3 => ?_
          · rw [nx.2.1 h3] at q
            conv => whnf
            refine NmP.frz (by repeat constructor) D4.a_sb ?_
            conv => whnf
            refine NmP.frzd (by repeat constructor) (HG.ne D4.d1 D4.a_st) ?_
            conv => whnf
            refine NmP.frz (by repeat constructor) (HG.ne D4.d2.symm (HG.ne D4.d3.symm D4.a_kp)) ?_
            walk_at "ww"
            exact q _ D4.out
          · walk_at "ww"
            conv => whnf
            refine br_in (fun h4 => ?_) fun h4 => ?_
            · rw [nx.2.2 h0 h3 h4] at q
              walk_at "ww"
              conv => whnf
              refine br_lvl (fun h => ?_) (fun h => ?_) ?_
              · conv at h => whnf
                conv => whnf
                exact h
              · conv at h => whnf
                conv => whnf
                exact h
              conv => whnf
              refine NmP.frz (by repeat constructor) D4.a_sb ?_
              conv => whnf
              refine NmP.frzd (by repeat constructor) (HG.ne D4.d1 D4.a_st) ?_
              conv => whnf
              refine NmP.frz (by repeat constructor) (HG.ne D4.d2.symm (HG.ne D4.d3.symm D4.a_kp)) ?_
              walk_at "ww"
              exact q _ D4.out
            · walk_at "ww"
              exact ih _ (.mk _ _ _ _ _ _ (nx.1 (.inr h4)) D4)
end
theorem sl_one {xs : List AV} {a : Nat} {σ : St} {Q : AV → St → Prop} (hz : xs.length ≤ 1000) (q : Q (.lst (xs[a]?).toList) σ) : SlP (.lst xs) (some (a : Int)) (some ((a + 1 : Nat) : Int)) σ Q := by
  have clip : ∀ n b : Nat, clipAt n (b : Nat) = min b n := fun n b => by
    unfold clipAt
    rw [if_neg (Int.not_lt.mpr (Int.natCast_nonneg b))]
    rcases Nat.le_total b n with h | h
    · rw [Int.min_eq_left (Int.ofNat_le.mpr h), Nat.min_eq_left h, Int.max_eq_right (Int.natCast_nonneg _), Int.toNat_natCast]
    · rw [Int.min_eq_right (Int.ofNat_le.mpr h), Nat.min_eq_right h, Int.max_eq_right (Int.natCast_nonneg _), Int.toNat_natCast]
  refine SlP.lst (le_line1 hz) ?_
  show Q (.lst ((xs.drop (clipAt xs.length (a : Nat))).take (clipAt xs.length ((a + 1 : Nat) : Int) - clipAt xs.length (a : Nat)))) σ
  rw [clip, clip]
  have e : (xs.drop (min a xs.length)).take (min (a + 1) xs.length - min a xs.length) = (xs[a]?).toList := by
    rcases Nat.lt_or_ge a xs.length with h | h
    · rw [Nat.min_eq_left (Nat.le_of_lt h), Nat.min_eq_left h, Nat.succ_sub (Nat.le_refl a), Nat.sub_self, List.drop_eq_getElem_cons h, List.getElem?_eq_getElem h]; rfl
    · rw [Nat.min_eq_right h, List.drop_length, List.getElem?_eq_none h, List.take_nil]; rfl
  rw [e]; exact q
theorem jo_one {o : Option Str} {σ : St} {Q : AV → St → Prop} (h : ∀ x, o = some x → x.length ≤ 1000) (q : Q (.str (o.getD "")) σ) : JoP "" [.lst (o.map AV.str).toList] σ Q := by
  refine JoP.lst (ys := o.toList) (by cases o <;> rfl) ?_ (by cases o <;> exact q)
  show _ + _ * 0 ≤ _
  rw [Nat.mul_zero]
  cases o with
  | none => exact Nat.zero_le _
  | some x => exact Nat.le_trans (h x rfl) (by decide)
theorem need_lt {m n x : Nat} (hn : 1 ≤ n) : x < (m + n - 1) / n ↔ x * n < m := by
  rw [Nat.lt_iff_add_one_le, Nat.le_div_iff_mul_le hn, Nat.le_sub_one_iff_lt (Nat.lt_of_lt_of_le hn (Nat.le_add_left ..)), Nat.add_mul, Nat.one_mul, Nat.add_lt_add_iff_right]
theorem item_len {p : Str × Str} (h : SpOk p) : p.1.length ≤ 10 := by
  obtain ⟨r, hr, hp, _⟩ := h
  have : ∀ r ∈ spTab, r.1.length ≤ 10 := by decide +kernel
  rw [hp]; exact this r hr
structure DN (d : Draw) : Prop where
  ok : d.Ok
  ln : d.gd.names.length ≤ 10
  av : nmsAV d.w.2 = .lst (d.gd.names.map fun m => .str m.str)
  need : ∀ x, x < d.gd.need ↔ x * d.gd.names.length < d.its.length
  n6 : d.gd.need ≤ 6
theorem dn_of {d : Draw} (ok : d.Ok) (h : ∃ m ns, d.w.2 = some (m :: ns)) : DN d := by
  obtain ⟨m, ns, hw⟩ := h
  have hnames : d.gd.names = m :: ns := by unfold GD.names; show d.w.2.getD [] = _; rw [hw]; rfl
  have hn1 : 1 ≤ d.gd.names.length := by rw [hnames]; exact Nat.succ_le_succ (Nat.zero_le _)
  have hneed : ∀ x, x < d.gd.need ↔ x * d.gd.names.length < d.its.length := fun x => by
    unfold GD.need
    rw [show d.gd.its.length = d.its.length from List.length_map ..]
    exact need_lt hn1
  refine ⟨ok, (Draw.gd_ok ok).ln, by rw [hw, hnames]; rfl, hneed, Nat.not_lt.mp fun h => ?_⟩
  exact absurd ((hneed 6).mp h) (Nat.not_lt.mpr (Nat.le_trans ok.len (Nat.le_mul_of_pos_right 6 hn1)))
inductive RoA (ds : List Draw) (H : AH) (gs : List Draw) : St → Prop
  | mk (many : Nat) (o1 o2 o3 o4 o5 o6 o7 o8 o9 o10 : Option AV) : (∀ d ∈ gs, DN d) → maxN (gs.map Draw.gd) many = maxN (ds.map Draw.gd) 0 → many ≤ 6 → RoA ds H gs ⟨[some (.lst (ds.map Draw.av)), some (.int (many : Nat)), o1, o2, o3, o4, o5, o6, o7, o8, o9, o10], H⟩
inductive RoB (ds : List Draw) (many : Nat) (H : AH) (rw' : Addr) (t : Nat) : St → Prop
  | mk (H0 : AH) (o1 o2 o3 o4 o5 o8 o9 o10 o11 : Option AV) : Ext H H0 → H0 rw' = some (.list ((List.range t).map fun t => rowAV (rowOf (ds.map Draw.gd) t))) → RoB ds many H rw' t ⟨[some (.lst (ds.map Draw.av)), some (.int (many : Nat)), o1, o2, o3, o4, o5, some (.ref rw'), o8, o9, o10, o11], H0⟩
inductive RoC (ds : List Draw) (many : Nat) (rw' : Addr) (t : Nat) (rc : Addr) (H0 : AH) (gs : List Draw) : St → Prop
  | mk (r0 : Row) (o1 o2 o3 o4 o5 o10 o11 : Option AV) : (∀ d ∈ gs, DN d) → r0 ++ rowOf (gs.map Draw.gd) t = rowOf (ds.map Draw.gd) t → r0.length + 100 * gs.length ≤ 100 * ds.length →
      RoC ds many rw' t rc H0 gs ⟨[some (.lst (ds.map Draw.av)), some (.int (many : Nat)), o1, o2, o3, o4, o5, some (.ref rw'), some (.int (t : Nat)), some (.ref rc), o10, o11], H0.put rc (some (.list (r0.map fun p => AV.tup [.str p.1.str, .str p.2])))⟩
inductive RoD (ds : List Draw) (many : Nat) (rw' : Addr) (t : Nat) (rc : Addr) (H0 : AH) (d : Draw) (r0 : Row) (j : Nat) : St → Prop
  | mk (r1 : Row) (o10 o11 : Option AV) : r1 ++ rowG d.gd (t * d.gd.names.length + j) (d.gd.names.drop j) = r0 ++ rowG d.gd (t * d.gd.names.length) d.gd.names → r1.length = r0.length + j →
      RoD ds many rw' t rc H0 d r0 j ⟨[some (.lst (ds.map Draw.av)), some (.int (many : Nat)), some (.str d.w.1), some (.lst (d.gd.names.map fun m => .str m.str)), some (.str d.text), some (.lst ((d.its.map (·.1)).map .str)), some (.tup [.str d.ft.2.1, d.ft.2.2]), some (.ref rw'), some (.int (t : Nat)), some (.ref rc), o10, o11], H0.put rc (some (.list (r1.map fun p => AV.tup [.str p.1.str, .str p.2])))⟩
theorem ifm_le {a b : Nat} (i : Nat) (h : i < b) : i + 1 ≤ (if a < b then b else a) := by split; exact h; exact Nat.le_trans h (Nat.not_lt.mp (by assumption))
theorem ifm_eq {a b i : Nat} (h : a ≤ i) (h' : i ≤ (if a < b then b else a)) (hb : b ≤ i) : i = (if a < b then b else a) := by
  split at h'
  · rw [if_pos (by assumption)]; exact Nat.le_antisymm h' hb
  · rw [if_neg (by assumption)]; exact Nat.le_antisymm h' h
theorem ifm6 {a b : Nat} (h : a ≤ 6) (h' : b ≤ 6) : (if a < b then b else a) ≤ 6 := by split <;> assumption
theorem ap_row {rc : Addr} {r : Row} {m : Nm} {x : Str} {loc : List (Option AV)} {H : AH} {Q : AV → St → Prop} (h : r.length ≤ 10000) (q : Q .none ⟨loc, H.put rc (some (.list ((r ++ [(m, x)]).map fun p => AV.tup [.str p.1.str, .str p.2])))⟩) :
    ApP rc [.tup [.str m.str, .str x]] ⟨loc, H.put rc (some (.list (r.map fun p => AV.tup [.str p.1.str, .str p.2])))⟩ Q :=
  ApP.mk HG.here (by rw [List.length_map]; exact le_line h) (by rw [AH.put_twice]; rw [List.map_append] at q; exact q)
theorem its_len {d : Draw} (ok : d.Ok) (k : Nat) (x : Str) (h : (d.its.map (·.1))[k]? = some x) : x.length ≤ 1000 := by
  obtain ⟨p, hp, rfl⟩ := List.mem_map.mp (List.mem_of_getElem? h)
  exact Nat.le_trans (item_len (ok.its p hp)) (by decide)
theorem row_room {r k g n : Nat} (h : k ≤ 10) (hl : r + 100 * (g + 1) ≤ 100 * n) : r + k + 100 * g ≤ 100 * n := up_le (Nat.le_trans h (by decide)) hl
theorem row_room2 {r k j g n : Nat} (h : k ≤ 10) (hn : n ≤ 10) (hj : j ≤ k) (hl : r + 100 * (g + 1) ≤ 100 * n) : r + j ≤ 10000 := Nat.le_trans (Nat.add_le_add_left (Nat.le_trans hj (Nat.le_trans h (Nat.le_trans (by decide : 10 ≤ 100 * 1) (Nat.mul_le_mul_left 100 (Nat.succ_le_succ (Nat.zero_le g)))))) _) (Nat.le_trans hl (Nat.le_trans (Nat.mul_le_mul_left 100 hn) (by decide)))
section
variable {B : BC} {n : Nat} (hB : KB B) {H : AH} {Q : AV → AH → Prop} {X : Addr → AH → Prop}
include hB
theorem c_law_rounds {ds : List Draw} (ok : ∀ d ∈ ds, d.Ok) (hne : ∀ d ∈ ds, ∃ m ns, d.w.2 = some (m :: ns)) (hd : ds.length ≤ 10) (q : ∀ H', Ext H H' → Q (rowsAV ((List.range (maxN (ds.map Draw.gd) 0)).map (rowOf (ds.map Draw.gd)))) H') : CallP B (n + 2) (.ref 713) [.lst (ds.map Draw.av)] H Q X := by
  refine c_defm [false, false, false, false, false, false, false, true, false, true] hB ["groups", "many", "written", "names", "text", "items", "fault", "rows", "turn", "row", "k", "name"] [("len", .blt "len"), ("range", .typ "range"), ("enumerate", .typ "enumerate")] (by k_is) (by k_is) (by k_is) rfl
    (fn_ok (.blt hB (by k_is) rfl rfl (.typ hB (by k_is) rfl rfl (.typ hB (by k_is) rfl rfl .nil))) rfl) rfl (by dsimp only [mkLoc, List.map]) (fun rs hr => ?_) (fun f hn hg hp => ?_)
  · exact len1 hr fun _ => rfl
  walk_at "ww"
  refine WFor.map (RoA ds H) ?_ ?_ ds _ (.mk 0 none none none none none none none none none none (fun d m => dn_of (ok d m) (hne d m)) rfl (Nat.zero_le _))
  rotate_left 1
  · rintro d gs' σ ⟨many, o1, o2, o3, o4, o5, o6, o7, o8, o9, o10, okg, hmax, hm6⟩ rest ih
    have D := okg d (.head _)
    walk_at "ww"
    conv => whnf
    rw [D.av]
    refine ⟨?_⟩
    refine WH.ind (st := fun i : Nat => ⟨[some (.lst (ds.map Draw.av)), some (.int (i : Nat)), some (.str d.w.1), some (.lst (d.gd.names.map fun m => .str m.str)), some (.str d.text), some (.lst ((d.its.map (·.1)).map .str)), some (.tup [.str d.ft.2.1, d.ft.2.2]), o6, o7, o8, o9, o10], H⟩)
      (fun i => many ≤ i ∧ i ≤ (if many < d.gd.need then d.gd.need else many)) (fun i => i = (if many < d.gd.need then d.gd.need else many)) (fun i => (if many < d.gd.need then d.gd.need else many) - i) many ⟨Nat.le_refl _, by split; exact Nat.le_of_lt (by assumption); exact Nat.le_refl _⟩ (fun i hi hE => ?_) (fun i hi fin' ih' => ?_)
    · conv => whnf
      exact ih _ (.mk i _ _ _ _ _ _ _ _ _ _ (fun d m => okg d (.tail _ m)) (hE ▸ hmax) (hE ▸ ifm6 hm6 D.n6))
    · have hi6 : i ≤ 1000 := Nat.le_trans (Nat.le_trans hi.2 (ifm6 hm6 D.n6)) (by decide)
      refine wh_stepm [false, false, false, false, false, false, false, true, false, true] hn hg 60 ?_
      walk_at "ww"
      refine len_map (Nat.le_trans D.ln (by decide)) ?_
      walk_at "ww"
      refine ⟨mul_ok hi6, ?_⟩
      walk_at "ww"
      refine len_map2 (Nat.le_trans D.ok.len (by decide)) ?_
      walk_at "ww"
      conv => whnf
      refine br_lt (a := i * d.gd.names.length) (fun hb => ?_) (fun hb => fin' (ifm_eq hi.1 hi.2 (Nat.not_lt.mp fun h => absurd ((D.need i).mp h) (Nat.not_lt.mpr hb))))
      have hlt := (D.need i).mpr hb
      walk_at "ww"
      exact ih' (i + 1) ⟨Nat.le_succ_of_le hi.1, ifm_le i hlt⟩ (Nat.sub_lt_sub_left (ifm_le i hlt) (Nat.lt_succ_self i))
  · rintro σ ⟨many, o1, o2, o3, o4, o5, o6, o7, o8, o9, o10, okg, hmax, hm6⟩
    rw [← show many = maxN (ds.map Draw.gd) 0 from hmax] at q
    walk_at "ww"
    refine LsP.cel fun rw' hrw => ?_
    have hrw0 : H rw' = none := hrw
    walk_at "ww"
    refine RiP.range ?_
    walk_at "ww"
    refine RgP.one (Int.natCast_nonneg _) (Int.ofNat_lt.mpr (Nat.lt_of_le_of_lt hm6 (by decide))) ?_
    rw [Int.toNat_natCast]
    refine WFor.range (RoB ds many H rw') ?_ ?_ _ (.mk (H.put rw' (some (.list []))) _ _ _ _ _ _ _ _ _ (Ext.put hrw0) HG.here)
    · rintro σ ⟨H0, o1, o2, o3, o4, o5, o8, o9, o10, o11, hext, hr⟩
      conv => whnf
      refine NmP.frz (by repeat constructor) hr ?_
      walk_at "ww"
      rw [rowsAV, List.map_map] at q
      exact q _ fun b k eb => HG.ne (AH.new_ne hrw0 eb).symm (hext b k eb)
    · rintro t σ hlt ⟨H0, o1, o2, o3, o4, o5, o8, o9, o10, o11, hext, hr⟩ rest ih
      walk_at "ww"
      refine LsP.cel fun rc hrc => ?_
      have hrc : H0 rc = none := hrc
      have hrcw : rc ≠ rw' := AH.new_ne hrc hr
      have ht6 : t ≤ 6 := Nat.le_trans (Nat.le_of_lt hlt) hm6
      walk_at "ww"
      refine WFor.map (RoC ds many rw' t rc H0) ?_ ?_ ds _ (.mk [] _ _ _ _ _ _ _ (fun d m => dn_of (ok d m) (hne d m)) rfl (Nat.le_of_eq (Nat.zero_add _)))
      · rintro σ ⟨r0, o1, o2, o3, o4, o5, o10, o11, _, hrow, _⟩
        rw [show r0 = rowOf (ds.map Draw.gd) t from (List.append_nil r0).symm.trans hrow]
        refine NmP.loc (by repeat constructor) ?_
        refine MeP.append (HG.ne hrcw.symm hr) ?_
        conv => whnf
        refine NmP.frz (by repeat constructor) HG.here ?_
        rw [AH.put_none_put hrc]
        walk_at "ww"
        refine ApP.mk hr (by rw [List.length_map, List.length_range]; exact le_line1 (Nat.le_trans ht6 (by decide))) ?_
        walk_at "ww"
        refine ih _ (.mk _ _ _ _ _ _ _ _ _ _ (fun b k eb => HG.ne (AH.new_ne hrw0 eb).symm (hext b k eb)) ?_)
        rw [List.range_succ, List.map_append]
        exact HG.here
      · rintro d gs' σ ⟨r0, o1, o2, o3, o4, o5, o10, o11, okg, hrow, hlen⟩ rest2 ih2
        have D := okg d (.head _)
        rw [List.map_cons, rowOf, ← List.append_assoc] at hrow
        walk_at "ww"
        conv => whnf
        rw [D.av]
        refine RiP.enum rfl ?_
        walk_at "ww"
        refine EnP.mk ?_
        refine WFor.enum (RoD ds many rw' t rc H0 d r0) ?_ ?_ _ (.mk r0 _ _ rfl rfl)
        · rintro σ ⟨r1, o10, o11, hr1, hl1⟩
          rw [List.drop_length, rowG, List.append_nil] at hr1
          conv => whnf
          exact ih2 _ (.mk r1 _ _ _ _ _ _ _ (fun d m => okg d (.tail _ m)) (hr1 ▸ hrow) (by rw [hl1]; exact row_room D.ln hlen))
        · rintro j σ hjl ⟨r1, o10, o11, hr1, hl1⟩ rest3 ih3
          rw [List.drop_eq_getElem_cons hjl, rowG] at hr1
          have hb : t * d.gd.names.length + j ≤ 1000 := Nat.le_trans (Nat.add_le_add (Nat.mul_le_mul ht6 D.ln) (Nat.le_trans (Nat.le_of_lt hjl) D.ln)) (by decide)
          walk_at "ww"
          refine MeP.append HG.here ?_
          walk_at "ww"
          refine len_map (Nat.le_trans D.ln (by decide)) ?_
          walk_at "ww"
          refine ⟨mul_ok (Nat.le_trans ht6 (by decide)), ?_⟩
          walk_at "ww"
          refine len_map (Nat.le_trans D.ln (by decide)) ?_
          walk_at "ww"
          refine ⟨mul_ok (Nat.le_trans ht6 (by decide)), ?_⟩
          walk_at "ww"
          refine sl_one (a := t * d.gd.names.length + j) (by rw [List.length_map, List.length_map]; exact Nat.le_trans D.ok.len (by decide)) ?_
          rw [List.getElem?_map]
          walk_at "ww"
          refine jo_one (its_len D.ok _) ?_
          walk_at "ww"
          refine ap_row (m := d.gd.names[j]) (by rw [hl1]; exact row_room2 D.ln hd (Nat.le_of_lt hjl) hlen) ?_
          walk_at "ww"
          exact ih3 _ (.mk (r1 ++ [(d.gd.names[j], itemAt d.gd (t * d.gd.names.length + j))]) (some (.int (j : Nat))) (some (.str d.gd.names[j].str)) (by rw [List.append_assoc]; exact hr1) (by rw [List.length_append, hl1]; rfl))
end
noncomputable def gotOf (v : AV) : End → GotE
  | .done => .ret v
  | .thr c w => .thr c (.str w) ecNone (lvlOf c)
  | .fuel => .fuel
theorem EndH.of_got {A : HA} {H : AH} {s : HS} {Q : AV → AH → Prop} {X : Addr → AH → Prop} {v : AV} {e : End} (h : GotH A H s Q X (gotOf v e)) : EndH A H s Q X v e := by cases e <;> exact h
set_option tactic.hygienic true in
theorem coreR_ind {fuel : Nat} {deeds : List Deed} {P : Nat → Co → Prop} (hP : ∀ n c r d, d ∈ deeds → P (n + 1) c → P n (coNext c r d)) (rows : List Row) : ∀ (t : Nat) (c : Co), P rows.length c →
    (∃ n, P n (coreR fuel deeds rows t c).2.1) ∧ ∀ code w, (coreR fuel deeds rows t c).1 = .thr code w → code ≠ 0 := by
  induction rows with
  | nil => exact fun t c h => ⟨⟨_, h⟩, fun _ _ e => nomatch e⟩
  | cons r rs ih =>
    intro t c h
    by_cases hf : t = fuel
    · rw [show coreR fuel deeds (r :: rs) t c = (.fuel, c, t + 1) from if_pos hf]
      exact ⟨⟨_, h⟩, fun _ _ e => nomatch e⟩
    cases hd : deeds[t]? with
    | none =>
      rw [show coreR fuel deeds (r :: rs) t c = (.done, c, t) from (if_neg hf).trans (by rw [hd])]
      exact ⟨⟨_, h⟩, fun _ _ e => nomatch e⟩
    | some d =>
      have h' := hP _ c r d (List.mem_of_getElem? hd) h
      rw [coreR_d hd hf]
      split
      · exact ih (t + 1) _ h'
      · rename_i h0
        split
        · exact ⟨⟨_, h'⟩, fun _ _ e => nomatch e⟩
        · exact ⟨⟨_, h'⟩, fun _ _ e q => h0 (.inl (by injection e with e; exact e.trans q))⟩
structure FinOk (N : Nat) (fin : End × Co × Nat) : Prop where
  log : ∀ x ∈ fin.2.1.log, Tree 88 x
  kept : ∀ y ∈ fin.2.1.kept, y ∈ okVals
  len : fin.2.1.kept.length ≤ N
  thr : ∀ code w, fin.1 = .thr code w → code ≠ 0
theorem coreR_ok {fuel : Nat} {deeds : List Deed} {rows : List Row} {fin : End × Co × Nat} (h : coreR fuel deeds rows 0 co0 = fin) (okD : ∀ d ∈ deeds, d.code = 0 → d.value ∈ okVals) : FinOk rows.length fin := by
  subst h
  have k := coreR_ind (fuel := fuel) (deeds := deeds) (P := fun n c => (∀ x ∈ c.log, Tree 88 x) ∧ (∀ y ∈ c.kept, y ∈ okVals) ∧ c.kept.length + n ≤ rows.length) (fun n c r d hd h => by
    refine ⟨fun x m => (List.mem_append.mp m).elim (h.1 x) fun m => List.mem_singleton.mp m ▸ .stands, ?_⟩
    by_cases h0 : d.code = 0
    · rw [coNext_kept0 h0]
      exact ⟨fun y m => (List.mem_append.mp m).elim (h.2.1 y) fun m => List.mem_singleton.mp m ▸ okD d hd h0, by rw [List.length_append]; exact Nat.le_trans (Nat.le_of_eq (Nat.add_right_comm ..)) h.2.2⟩
    · rw [coNext_kept h0]
      exact ⟨h.2.1, Nat.le_trans (Nat.le_succ _) h.2.2⟩) rows 0 co0 ⟨mem0, mem0, Nat.le_of_eq (Nat.zero_add _)⟩
  obtain ⟨⟨n, h1, h2, h3⟩, h4⟩ := k
  exact ⟨h1, h2, Nat.le_trans (Nat.le_add_right _ _) h3, h4⟩
theorem tree4 {k : Nat} {a b c d : Str} : Tree (k + 1) (.tup [.str a, .str b, .str c, .str d]) := .tup (Tree.strs [a, b, c, d])
theorem ft_tree : ∀ g ∈ ftTab, Tree 88 g.2.2 := memc (.tup mem0) (memc (.tup mem0) (memc (.tup mem0) (memc (.tup mem0) (memc tree4 (memc tree4 (memc tree4 (memc tree4 mem0)))))))
theorem refG_cases {lm : Bool} {d : Draw} : (d.w.2 = none ∧ refG lm d.gd = some (("unmatched open brace in list" : Str), eBrace)) ∨ (d.w.2 = some [] ∧ refG lm d.gd = some (kd lm ++ " varlist is empty", eNeed lm)) ∨ ((∃ m ns, d.w.2 = some (m :: ns)) ∧ refG lm d.gd = ftOpt d.ft) := by
  have h := refG_of lm d
  rcases hw : d.w.2 with _ | _ | ⟨m, ns⟩ <;> rw [hw] at h
  · exact .inl ⟨rfl, h⟩
  · exact .inr (.inl ⟨rfl, h⟩)
  · exact .inr (.inr ⟨⟨m, ns, rfl⟩, h⟩)
theorem refGs_tree {lm : Bool} {w : Str} {e : AV} {ds : List Draw} (ok : ∀ d ∈ ds, d.Ok) (h : refGs lm (ds.map Draw.gd) = some (w, e)) : Tree 88 e := by
  induction ds with
  | nil => cases h
  | cons d ds ih =>
    cases hr : refG lm d.gd with
    | none => exact ih (fun d m => ok d (.tail _ m)) (refGs_n h hr)
    | some r =>
      have hr := hr.trans (refGs_c h hr).symm
      rcases refG_cases (lm := lm) (d := d) with q | q | q <;> have q := q.2.symm.trans hr
      · cases q; exact tree4
      · cases q; exact tree4
      · unfold ftOpt at q
        split at q
        · cases q
        · cases q; exact ft_tree _ (ok d (.head _)).ft
theorem refGs_no {lm : Bool} {ds : List Draw} (h : refGs lm (ds.map Draw.gd) = none) : ∀ d ∈ ds, refG lm d.gd = none := by
  induction ds with
  | nil => exact mem0
  | cons d ds ih =>
    cases hr : refG lm d.gd with
    | some r => cases refGs_c h hr
    | none => exact memc hr (ih (refGs_n h hr))
theorem refGs_none {lm : Bool} {ds : List Draw} (h : refGs lm (ds.map Draw.gd) = none) : ∀ d ∈ ds, ∃ m ns, d.w.2 = some (m :: ns) := fun d m => by
  have hr := refGs_no h d m
  rcases refG_cases (lm := lm) (d := d) with q | q | q
  · cases q.2.symm.trans hr
  · cases q.2.symm.trans hr
  · exact q.1
theorem refGs_lm {lm lm' : Bool} {ds : List Draw} (h : refGs lm (ds.map Draw.gd) = none) : refGs lm' (ds.map Draw.gd) = none := by
  have hr := refGs_no h
  have hn := refGs_none h
  clear h
  induction ds with
  | nil => rfl
  | cons d ds ih =>
    have h1 : refG lm' d.gd = none := by
      obtain ⟨m, ns, hw⟩ := hn d (.head _)
      have a := refG_of lm d
      have b := refG_of lm' d
      rw [hw] at a b
      exact b.trans (a.symm.trans (hr d (.head _)))
    refine (refGs_drop (i := 0) (g := d.gd) (gs := (d :: ds).map Draw.gd) rfl).trans ?_
    rw [h1]
    exact ih (fun d m => hr d (.tail _ m)) fun d m => hn d (.tail _ m)
theorem maxN_le {ds : List Draw} (ok : ∀ d ∈ ds, d.Ok) : ∀ {r : Nat}, r ≤ 6 → maxN (ds.map Draw.gd) r ≤ 6 := by
  induction ds with
  | nil => exact fun h => h
  | cons d ds ih =>
    intro r h
    have h6 : d.gd.need ≤ 6 := by
      unfold GD.need
      rw [show d.gd.its.length = d.its.length from List.length_map ..]
      have hl := (ok d (.head _)).len
      rcases Nat.eq_zero_or_pos d.gd.names.length with h0 | h0
      · rw [h0, Nat.div_zero]; exact Nat.zero_le _
      · refine Nat.le_of_lt_succ ((Nat.div_lt_iff_lt_mul h0).mpr ?_)
        have := Nat.mul_le_mul_left 6 h0
        rw [Nat.succ_mul]; exact Nat.lt_of_lt_of_le (Nat.sub_lt (Nat.add_pos_right _ h0) (by decide)) (Nat.add_le_add_right (Nat.le_trans hl this) _)
    refine ih (fun d m => ok d (.tail _ m)) ?_
    split <;> assumption
theorem flat_eq (ds : List Draw) : flatG (ds.map Draw.gd) = ds.flatMap fun d => [.str d.w.1, .str d.text] := by
  induction ds with
  | nil => rfl
  | cons d ds ih =>
    rw [List.flatMap_cons, ← ih]
    refine (?_ : AV.str (tx d.w.1.cps.toList) :: AV.str (tx d.text.cps.toList) :: flatG (ds.map Draw.gd) = _)
    rw [tx_eta, tx_eta]; rfl
theorem dTab_ok : ∀ d ∈ dTab, d.code = 0 → d.value ∈ okVals := by decide +kernel
section
variable {B : BC} {n : Nat} (hB : KB B) {H : AH} {Q : AV → AH → Prop} {X : Addr → AH → Prop}
include hB
theorem c_law_base (q : ∀ bs : List (List Int), (∀ b ∈ bs, b ≠ [] ∧ b.length ≤ 90) → bs.length ≤ 10 → Q (.lst (bs.map fun b => .lst (b.map .int))) H) : CallP B (n + 1) (.ref 638) [] H Q X := by
  refine c_def hB [] [] (by k_is) (by k_is) (by k_is) rfl (fn_ok .nil rfl) rfl (by dsimp only [mkLoc, List.map]) (fun rs hr => ?_) (fun f hn hg hp => ?_)
  · rw [len0 hr]; rfl
  walk_at "ww"
  repeat (refine LsP.frz ?_; walk_at "ww")
  exact q [[0, 1, 5, 0, 0, 0, 2, 1, 3, 0, 1, 0, 4, 2, 0, 0, 0, 8, 4, 0, 0, 0, 9], [2, 4, 4, 1, 0, 0, 5, 1, 2, 2, 0, 1, 0, 2, 2, 2, 4, 0, 3, 1, 0, 0, 3, 0, 0, 2, 1, 1, 5, 0, 0, 0, 2, 10, 9, 0, 0, 0, 9], [0, 0, 6, 2, 0, 0, 1, 1, 2, 0, 3, 2, 4, 1, 5, 2, 0, 0, 0, 1, 2, 3, 0, 0, 9], [1, 7, 3, 0, 0, 0, 0, 0, 0, 0, 0, 0, 2, 0, 1, 0, 1, 0, 0, 0, 0, 5, 0, 0, 0, 0, 9]] (by decide) (by decide)
end
theorem cut_any (xs : List AV) : (xs.drop ((none : Option Int).elim 0 (clipAt xs.length))).take ((some (-1 : Int)).elim xs.length (clipAt xs.length) - (none : Option Int).elim 0 (clipAt xs.length)) = xs.dropLast := by
  show (xs.drop 0).take (clipAt xs.length (-1) - 0) = _
  have : clipAt xs.length (-1) = xs.length - 1 := by
    unfold clipAt
    rw [if_pos (by decide)]
    cases xs with
    | nil => decide
    | cons x r =>
      have e : (-1 : Int) + ((r.length + 1 : Nat) : Int) = (r.length : Nat) := by rw [Int.natCast_add, Int.add_comm, Int.add_assoc]; exact Int.add_zero _
      rw [List.length_cons, e, Int.min_eq_left (Int.ofNat_le.mpr (Nat.le_succ _)), Int.max_eq_right (Int.natCast_nonneg _), Int.toNat_natCast]; rfl
  rw [List.drop_zero, this, Nat.sub_zero, List.dropLast_eq_take]
theorem cut_words (gs : List GD) (x y : Str) : (wordsG gs x).dropLast ++ [.str y] = wordsG gs y := by
  unfold wordsG
  rw [← List.cons_append, List.dropLast_concat]; rfl
theorem got_tree (x : Str) (e : End) : Tree 89 (gotOf (.str x) e).av := by
  have h : ∀ {a b c d e : AV}, Tree 88 a → Tree 88 b → Tree 88 c → Tree 88 d → Tree 88 e → Tree 89 (.tup [a, b, c, d, e]) := fun a b c d e => .tup (memc a (memc b (memc c (memc d (memc e mem0)))))
  cases e with
  | done => exact h (.atom .int) (.atom .str) (.tup (Tree.strs ["NONE"])) (.atom .int) (.atom .int)
  | fuel => exact h (.atom .str) (.atom .str) (.tup mem0) (.atom .int) (.atom .int)
  | thr c w => exact h (.atom .int) (.atom .str) (.tup (Tree.strs ["NONE"])) (.atom .int) (.atom .int)
theorem kept_tree (keep : Bool) (c : Co) : ∀ x ∈ keptAV keep c, Tree 88 x := by
  cases keep with
  | true => exact Tree.strs c.kept
  | false => exact mem0
theorem kd_for (lm : Bool) : ¬ kd lm = "for" := by cases lm <;> decide +kernel
structure CaO (ds : List Draw) (dl : List Deed) : Prop where
  ok : ∀ d ∈ ds, d.Ok
  n1 : 1 ≤ ds.length
  n3 : ds.length ≤ 3
  dl6 : dl.length = 6
  okl : ∀ d ∈ dl, d ∈ dTab
noncomputable abbrev caR (ds : List Draw) : List Row := (List.range (maxN (ds.map Draw.gd) 0)).map (rowOf (ds.map Draw.gd))
section
variable {ds : List Draw} {dl : List Deed}
theorem CaO.d100 (O : CaO ds dl) : dl.length ≤ 100 := by rw [O.dl6]; decide
theorem CaO.val (O : CaO ds dl) : ∀ d ∈ dl, d.code = 0 → d.value ∈ okVals := fun d m => dTab_ok d (O.okl d m)
theorem CaO.gds (O : CaO ds dl) : ∀ g ∈ ds.map Draw.gd, g.Ok := fun g m => by obtain ⟨d, hd, rfl⟩ := List.mem_map.mp m; exact Draw.gd_ok (O.ok d hd)
theorem CaO.m1 (O : CaO ds dl) : 1 ≤ (ds.map Draw.gd).length := by rw [List.length_map]; exact O.n1
theorem CaO.m10 (O : CaO ds dl) : (ds.map Draw.gd).length ≤ 10 := by rw [List.length_map]; exact Nat.le_trans O.n3 (by decide)
theorem CaO.mx (O : CaO ds dl) : maxN (ds.map Draw.gd) 0 ≤ dl.length := by rw [O.dl6]; exact maxN_le O.ok (Nat.zero_le _)
theorem CaO.rl (O : CaO ds dl) : (caR ds).length ≤ dl.length := by rw [List.length_map, List.length_range]; exact O.mx
end
noncomputable def BadRun (B : BC) (n : Nat) (dl : List Deed) (fuel : Nat) (lm : Bool) (W : AV) (w : Str) (e : AV) : Prop := ∀ A H Q X, Sees H A (hs0 [] dl (fuel : Nat)) → RaisesE H X 1 (.str w) e 0 → CallP B (n + 10) (.ref 364) [.ref A.h, W, .str (kd lm)] H Q X
section
variable {B : BC} {n : Nat} (hB : KB B) {H : AH} {Q : AV → AH → Prop} {X : Addr → AH → Prop}
include hB
theorem c_so_bad {lm : Bool} {W e : AV} {w : Str} {dl : List Deed} {fuel : Nat} (he : Tree 88 e) (run : BadRun B n dl fuel lm W w e) (q : ∀ H', Ext H H' → Q (.bool true) H') :
    CallP B (n + 11) (.ref 734) [W, .str (kd lm), .tup [rowsAV [], .lst (dl.map Deed.av), .int (fuel : Nat)], .tup [refAV (some (w, e)), .lst [], standsAV v0, .lst [], .int 0]] H Q X :=
  c_law_is_so (g := .thr 1 (.str w) e 0) (s1 := hs0 [] dl (fuel : Nat)) hB (fun A H Q X S hq => by
    unfold RunOf
    rw [if_neg (kd_for lm)]
    exact run A H Q X S (thr_raises S (hq none))) rfl rfl (.tup (memc (.atom .int) (memc (.atom .str) (memc he (memc (.atom .int) (memc (.atom .int) mem0)))))) mem0 mem0 q
theorem c_so_each {lm keep : Bool} {ds : List Draw} {dl : List Deed} {fuel : Nat} {fin : End × Co × Nat} (O : CaO ds dl) (hnone : refGs lm (ds.map Draw.gd) = none) (hfin : coreR fuel dl (caR ds) 0 co0 = fin) (F : FinOk (caR ds).length fin) (q : ∀ H', Ext H H' → Q (.bool true) H') :
    CallP B (n + 11) (.ref 734) [.lst (wordsG (ds.map Draw.gd) (bdW keep)), .str (kd lm), .tup [rowsAV (caR ds), .lst (dl.map Deed.av), .int (fuel : Nat)],
      .tup [(gotOf (.str (if lm = true then joinL fin.2.1.kept else "")) fin.1).av, .lst fin.2.1.log, standsAV fin.2.1.v, .lst (keptAV keep fin.2.1), .int (fin.2.2 : Nat)]] H Q X :=
  c_law_is_so (g := gotOf (.str (if lm = true then joinL fin.2.1.kept else "")) fin.1) (s1 := hsOf (caR ds) dl fuel keep none fin.2.1 fin.2.2) hB (fun A H Q X S hq => by
    unfold RunOf
    rw [if_neg (kd_for lm)]
    exact c_run_each (n := n) hB (show Sees H A (hsOf (caR ds) dl fuel keep none co0 0) by cases keep <;> exact S) O.gds O.m1 O.m10 O.d100 O.mx O.val ⟨rfl, rfl⟩ hfin (fun w e h => nomatch hnone.symm.trans h) (fun _ => EndH.of_got (hq none))) rfl rfl (got_tree _ _) F.log (kept_tree _ _) q
theorem due_av (fin : End × Co × Nat) : dueAV fin = .tup [(gotOf (.str "") fin.1).av, .lst fin.2.1.log, standsAV fin.2.1.v, .lst (keptAV true fin.2.1), .int (fin.2.2 : Nat)] := by
  unfold dueAV
  cases fin.1 <;> rfl
theorem c_so_for {ds : List Draw} {dl : List Deed} {fuel : Nat} {fin : End × Co × Nat} (O : CaO ds dl) (hfin : coreR fuel dl (caR ds) 0 co0 = fin) (F : FinOk (caR ds).length fin) (q : ∀ H', Ext H H' → Q (.bool true) H') :
    CallP B (n + 11) (.ref 734) [.lst forWords, .str "for", .tup [rowsAV (caR ds), .lst (dl.map Deed.av), .int (fuel : Nat)], dueAV fin] H Q X :=
  c_law_is_so (g := gotOf (.str "") fin.1) (s1 := hsOf (caR ds) dl fuel true none fin.2.1 fin.2.2) hB (fun A H Q X S hq => by
    unfold RunOf
    rw [if_pos rfl]
    exact c_run_for (n := n) (c0 := co0) hB S O.d100 O.rl ⟨rfl, rfl⟩ hfin (fun tn => EndH.of_got (hq tn))) rfl (due_av hB fin) (got_tree _ _) F.log (kept_tree true _) q
end
inductive CaC (B : BC) (n : Nat) (ds : List Draw) (dl : List Deed) (fuel : Nat) : AV → Option (Str × AV) → Option (Str × AV) → Prop
  | bad {W e0 e1 : AV} {w0 w1 : Str} : Tree 88 e0 → Tree 88 e1 → BadRun B n dl fuel true W w0 e0 → BadRun B n dl fuel false W w1 e1 → CaC B n ds dl fuel W (some (w0, e0)) (some (w1, e1))
  | good : refGs true (ds.map Draw.gd) = none → CaC B n ds dl fuel (.lst (wordsG (ds.map Draw.gd) "body")) none none
theorem ca_each {B : BC} {n : Nat} (hB : KB B) {ds : List Draw} {dl : List Deed} {fuel : Nat} (O : CaO ds dl) : CaC B n ds dl fuel (.lst (wordsG (ds.map Draw.gd) "body")) (refGs true (ds.map Draw.gd)) (refGs false (ds.map Draw.gd)) := by
  have run : ∀ {lm : Bool} {w : Str} {e : AV}, refGs lm (ds.map Draw.gd) = some (w, e) → BadRun B n dl fuel lm (.lst (wordsG (ds.map Draw.gd) "body")) w e := fun h A H Q X S hr =>
    c_run_each (n := n) (keep := false) (turn := none) (c0 := co0) hB S O.gds O.m1 O.m10 O.d100 O.mx O.val ⟨rfl, rfl⟩ rfl (fun w e h' => by cases h.symm.trans h'; exact hr) (fun h' => nomatch h.symm.trans h')
  cases h0 : refGs true (ds.map Draw.gd) with
  | none => rw [refGs_lm (lm' := false) h0]; exact .good h0
  | some p => cases h1 : refGs false (ds.map Draw.gd) with
    | none => rw [refGs_lm (lm' := true) h1] at h0; cases h0
    | some p1 => exact .bad (refGs_tree O.ok h0) (refGs_tree O.ok h1) (run h0) (run h1)
noncomputable abbrev caL (pen : Addr) (ds : List Draw) (shape : Nat) (dl : List Deed) (fuel : Nat) (words why refusals calm drawn due ended seen stands kept spent first o1 o2 o3 o4 o5 : Option AV) : List (Option AV) :=
  [some (.ref pen), some (.lst (ds.map Draw.av)), some (.int (shape : Nat)), some (.lst (dl.map Deed.av)), some (.int (fuel : Nat)), words, why, refusals, calm, drawn, due, ended, seen, stands, kept, spent, first, o1, o2, o3, o4, o5]
inductive CaJ (B : BC) (n : Nat) (pen : Addr) (ds : List Draw) (shape : Nat) (dl : List Deed) (fuel : Nat) (H : AH) : St → Prop
  | mk {W : AV} {r0 r1 : Option (Str × AV)} (why o1 o2 o3 o4 o5 : Option AV) : CaC B n ds dl fuel W r0 r1 → CaJ B n pen ds shape dl fuel H ⟨caL pen ds shape dl fuel (some W) why (some (.lst [refAV r0, refAV r1])) none none none none none none none none none o1 o2 o3 o4 o5, H⟩
inductive CaK (pen : Addr) (ds : List Draw) (shape : Nat) (dl : List Deed) (fuel : Nat) (fin : End × Co × Nat) (first : Option AV) (H : AH) : St → Prop
  | mk {H' : AH} (why re o1 o2 o3 o4 o5 : Option AV) : Ext H H' → CaK pen ds shape dl fuel fin first H ⟨caL pen ds shape dl fuel (some (.lst (wordsG (ds.map Draw.gd) "body"))) why re none (some (.tup [rowsAV (caR ds), .lst (dl.map Deed.av), .int (fuel : Nat)])) (some (dueAV fin)) (some fin.1.got.av) (some (.lst fin.2.1.log)) (some (standsAV fin.2.1.v)) (some (.lst (fin.2.1.kept.map .str))) (some (.int (fin.2.2 : Nat))) first o1 o2 o3 o4 o5, H'⟩
inductive CaW (pen : Addr) (ds : List Draw) (shape : Nat) (dl : List Deed) (fuel : Nat) (H : AH) (gs : List Draw) : St → Prop
  | mk (done : List Draw) (o1 o2 o3 o4 o5 : Option AV) : done ++ gs = ds → CaW pen ds shape dl fuel H gs ⟨caL pen ds shape dl fuel (some (.lst (.str "each" :: flatG (done.map Draw.gd)))) none none none none none none none none none none none o1 o2 o3 o4 o5, H⟩
inductive LcA {α : Type} (g : α → AV) (ok : α → Prop) (N : Nat) (pen : Addr) (H : AH) : List AV → List AV → AH → Prop
  | mk {xs : List AV} {H' : AH} (ds : List α) : (∀ d ∈ ds, ok d) → xs.length + ds.length = N → PenAt H' pen → (∀ b k, H b = some k → b ≠ pen → H' b = some k) → LcA g ok N pen H xs (ds.map g) H'
theorem LcA.app {α : Type} {g : α → AV} {ok : α → Prop} {N : Nat} {pen : Addr} {H H' : AH} {v : AV} {xs : List AV} {ds : List α} {d : α} (o : ∀ d ∈ ds, ok d) (h : (v :: xs).length + ds.length = N) (od : ok d) (P : PenAt H' pen) (k : ∀ b k, H b = some k → b ≠ pen → H' b = some k) : LcA g ok N pen H xs (ds.map g ++ [g d]) H' := by
  have := LcA.mk (g := g) (ok := ok) (N := N) (H := H) (xs := xs) (ds ++ [d]) (fun d m => (List.mem_append.mp m).elim (o d) fun m => List.mem_singleton.mp m ▸ od) (by rw [List.length_append]; exact (Nat.succ_add_eq_add_succ ..).symm.trans h) P k
  rwa [List.map_append] at this
theorem bad_pick {B : BC} {f : Fc} {n : Nat} {hd : Option Value} {X : Addr → St → Prop} {σ : St} {Q : AV → St → Prop} {value slice : Expr} {F : List AV} {s m : Nat} (hs : s < 3) (hF : F.length = 2 * m) (h1 : 1 ≤ m) (h3 : m ≤ 3) (q : ∀ r : List AV, (r.length + 1 < 4 ∨ (r.length + 1) % 2 = 1) → r.length ≤ 100 → Q (.lst (.str "each" :: r)) σ) :
    ItP B f n hd X value slice (.lst [.lst (.str "each" :: F), .lst ((.str "each" :: F).dropLast ++ [.str "body"]), .lst [.str "each", .str "body"]]) (.int (s : Nat)) σ Q := by
  have hl : F.length ≤ 100 := by rw [hF]; exact Nat.le_trans (Nat.mul_le_mul_left 2 h3) (by decide)
  have ho : (F.length + 1) % 2 = 1 := by rw [hF]; exact Nat.mul_add_mod 2 m 1
  match s with
  | 0 => exact it_lst (by decide) rfl (q F (.inr ho) hl)
  | 1 =>
    have hne : F ≠ [] := List.ne_nil_of_length_pos (by rw [hF]; exact Nat.mul_pos (by decide) h1)
    have e : F.dropLast.length + 1 = F.length := by rw [List.length_dropLast]; exact Nat.sub_add_cancel (List.length_pos_iff.mpr hne)
    have e' : (F.dropLast ++ [AV.str "body"]).length = F.length := by rw [List.length_append]; exact e
    refine it_lst (by decide) rfl ?_
    rw [List.dropLast_cons_of_ne_nil hne, List.cons_append]
    exact q (F.dropLast ++ [.str "body"]) (.inr (by rw [e']; exact ho)) (by rw [e']; exact hl)
  | 2 => exact it_lst (by decide) rfl (q [.str "body"] (.inl (by decide)) (by decide))
theorem s_cut4 {B : BC} {f : Fc} {n : Nat} {hd : Option Value} {X : Addr → St → Prop} {ns : List Str} {gl : List (Str × AV)} {ms : List Bool} {k : Nat} {s1 s2 s3 s4 : Stmt} {r : List Stmt} {σ : St} {N : St → Prop} {K : AFlow → St → Prop} (J : St → Prop)
    (h1 : (∀ σ', J σ' → (wp B f n hd X ns gl ms k).S r σ' N K) → (wp B f n hd X ns gl ms (k + 4)).S (s1 :: s2 :: s3 :: s4 :: r) σ N K) (h2 : ∀ σ', J σ' → (wp B f n hd X ns gl ms k).S r σ' N K) : (wp B f n hd X ns gl ms (k + 4)).S (s1 :: s2 :: s3 :: s4 :: r) σ N K := h1 h2
section
variable {B : BC} {n : Nat} (hB : KB B) {H : AH} {Q : AV → AH → Prop} {X : Addr → AH → Prop}
include hB
theorem c_case {pen : Addr} (P : PenAt H pen) (q : ∀ H', (∀ b k, H b = some k → b ≠ pen → H' b = some k) → Q (.bool true) H') : CallP B (n + 14) (.ref 739) [.ref pen] H Q X := by
  refine c_defc hB ["pen", "groups", "shape", "deeds", "fuel", "words", "why", "refusals", "calm", "drawn", "due", "ended", "seen_by", "stands", "kept", "spent", "first", "written", "names", "text", "items", "fault"] ["pen", "groups", "why"]
    [("_law_take", .ref 631), ("_law_due", .ref 727), ("_law_is_so", .ref 734), ("_law_rounds", .ref 713), ("join_list", .ref 322), ("range", .typ "range")] (by k_is) (by k_is) (by k_is) rfl
    (fn_okc (.fn hB (by k_is) rfl (.fn hB (by k_is) rfl (.fn hB (by k_is) rfl (.fn hB (by k_is) rfl (.fn hB (by k_is) rfl (.typ hB (by k_is) rfl rfl .nil)))))) rfl) rfl (by dsimp only [mkLoc, List.map]) (fun rs hr => ?_) (fun f hn hg cf => ?_)
  · exact len1 hr fun _ => rfl
  walk_at "ww"
  refine ⟨?_⟩
  refine r_set_lcc cf (.tail _ (.head _)) (by rw [hn]; exact .tail _ (.head _)) ?_
  refine r_lc (g2 := [("_law_group", .ref 673)]) (y := "pen") cf (sc_of (gls_cons (gl_fn hB (by k_is) rfl) gls_nil) (by rfl)) (.head _) (by rw [hn]; exact .head _) (pre := [(".0", .local), ("k", .local), ("_law_group", .globalImplicit)]) (by decide) (by rfl) (fun _ => by rfl) ?_
  refine wIter_s hg (snd hn hg 60) (tw := false) (by intro h; cases h) ?_
  walk_at "ww"
  refine RiP.range ?_
  walk_at "ww"
  refine CW.of (c_take' (n := n) (many := 3) hB P (by decide) (by decide) fun d1 hd1 H1 P1 k1 => ?_) (by first | exact la rfl | exact Nat.le_add_right _ _ | omega)
  walk_at "ww"
  refine RgP.one (by omega) (by omega) ?_
  refine ⟨by rw [List.length_map, List.length_range]; omega, .ref pen, by rw [hn]; exact .z, ?_⟩
  refine LcS.ind (LcA Draw.av Draw.Ok (d1 + 1) pen H) ?_ ?_ _ _ _ (.mk [] mem0 (by rw [List.length_map, List.length_range]; show (1 + (d1 : Int)).toNat + 0 = d1 + 1; omega) P1 fun b k e hb => (k1 b hb).trans e)
  rotate_left 1
  · rintro v xs ys H' ⟨ds, ok, hlen, P2, k2⟩ f1 hn1 hg1
    refine (snd hn1 hg1 60).E ?_
    walk_at "ww"
    exact CW.of (c_law_group (n := n) hB P2 fun d okd H3 P3 k3 => .app ok hlen okd P3 fun b k e hb => k3 b k (k2 b k e hb) hb) (by first | exact la rfl | exact Nat.le_add_right _ _ | omega)
  rintro ys H2 ⟨ds, ok, hlen, P2, k2⟩
  have hlen : ds.length = d1 + 1 := (Nat.zero_add _).symm.trans hlen
  rw [hn]
  refine Sto.mk (by repeat constructor) ?_
  walk_at "ww"
  refine CW.of (c_take' (n := n) (many := 9) hB P2 (by decide) (by decide) fun shape hshape H3 P3 k3 => ?_) (by first | exact la rfl | exact Nat.le_add_right _ _ | omega)
  walk_at "ww"
  refine ⟨?_⟩
  refine r_set_lc (g2 := [("_law_deeds", .ref 666), ("_law_take", .ref 631)]) (y := "pen") cf (sc_of (gls_cons (gl_fn hB (by k_is) rfl) (gls_cons (gl_fn hB (by k_is) rfl) gls_nil)) (by rfl)) (.head _) (by rw [hn]; exact .head _) (pre := [(".0", .local), ("k", .local), ("_law_deeds", .globalImplicit), ("_law_take", .globalImplicit)]) (by decide) (by rfl) (fun _ => by rfl) (by decide) (by rw [hn]; decide) (by rfl) (by rfl) ?_
  refine wIter_s hg (snd hn hg 60) (tw := false) (by intro h; cases h) ?_
  walk_at "ww"
  refine RiP.range ?_
  walk_at "ww"
  refine RgP.one (by decide) (by decide) ?_
  refine ⟨by decide, .ref pen, by rw [hn]; exact .z, ?_⟩
  refine LcS.ind (LcA Deed.av (· ∈ dTab) 6 pen H) ?_ ?_ _ _ _ (.mk [] mem0 rfl P3 fun b k e hb => (k3 b hb).trans (k2 b k e hb))
  rotate_left 1
  · rintro v xs ys H' ⟨dl, okl, hlen', P4, k4⟩ f1 hn1 hg1
    refine (snd hn1 hg1 60).E ?_
    walk_at "ww"
    refine CW.of (c_law_deeds (n := n) hB ?_) (by first | exact la rfl | exact Nat.le_add_right _ _ | omega)
    walk_at "ww"
    refine CW.of (c_take' (n := n) (many := 12) hB P4 (by decide) (by decide) fun d5 hd5 H5 P5 k5 => ?_) (by first | exact la rfl | exact Nat.le_add_right _ _ | omega)
    walk_at "ww"
    exact it_pick (tab := dTab) (by decide) hd5 fun d hd => .app okl hlen' hd P5 fun b k e hb => (k5 b hb).trans (k4 b k e hb)
  rintro ys H4 ⟨dl, okl, hlen', P4, k4⟩
  have O : CaO ds dl := ⟨ok, hlen ▸ Nat.succ_le_succ (Nat.zero_le _), hlen ▸ hd1, (Nat.zero_add _).symm.trans hlen', okl⟩
  rw [hn]
  refine Sto.mk (by repeat constructor) ?_
  walk_at "ww"
  refine CW.of (c_take' (n := n) (many := 10) hB P4 (by decide) (by decide) fun fuel hfuel H5 P5 k5 => ?_) (by first | exact la rfl | exact Nat.le_add_right _ _ | omega)
  have q : ∀ H', Ext H5 H' → Q (.bool true) H' := fun H' x => q H' fun b k e hb => x b k ((k5 b hb).trans (k4 b k e hb))
  clear P P1 k1 P2 k2 P3 k3 P4 k4 k5
  walk_at "ww"
  refine LsP.frz ?_
  walk_at "ww"
  refine WFor.map (CaW pen ds shape dl fuel H5) ?_ ?_ ds _ (.mk [] none none none none none rfl)
  rotate_left 1
  · rintro d gs σ ⟨done, o1, o2, o3, o4, o5, hds⟩ rest ih
    have hd3 : done.length + (gs.length + 1) ≤ 3 := by rw [← List.length_cons (a := d), ← List.length_append, hds]; exact O.n3
    walk_at "ww"
    refine LsP.frz ?_
    walk_at "ww"
    refine ⟨o_add_l (by rw [List.length_cons, flatG_len, List.length_map]; exact Nat.le_trans (show _ ≤ 100 by simp; omega) (by decide)) ?_⟩
    walk_at "ww"
    refine ih _ ?_
    have := CaW.mk (pen := pen) (shape := shape) (dl := dl) (fuel := fuel) (H := H5) (gs := gs) (ds := ds) (done ++ [d]) (some (.str d.w.1)) (some (nmsAV d.w.2)) (some (.str d.text)) (some (.lst ((d.its.map (·.1)).map .str))) (some (.tup [.str d.ft.2.1, d.ft.2.2])) (by rw [List.append_assoc]; exact hds)
    rw [flat_eq, List.flatMap_append, ← flat_eq] at this
    exact this
  rintro σ ⟨done, o1, o2, o3, o4, o5, hds⟩
  rw [show done = ds from (List.append_nil _).symm.trans hds]
  have hF : (flatG (ds.map Draw.gd)).length = 2 * ds.length := by rw [flatG_len, List.length_map]
  have hW : ((AV.str "each" :: flatG (ds.map Draw.gd)) : List AV).length ≤ 10 := by rw [List.length_cons, hF]; exact Nat.le_trans (Nat.add_le_add_right (Nat.mul_le_mul_left 2 O.n3) 1) (by decide)
  walk_at "ww"
  conv => whnf
  refine br_cut (CaJ B n pen ds shape dl fuel H5) (fun cut => ?_) ?_
  · refine br_of (fun hb => ?_) (fun hb => ?_)
    · have hs5 : 5 < shape := Int.ofNat_lt.mp (of_decide_eq_true hb : ((5 : Nat) : Int) < (shape : Nat))
      walk_at "ww"
      refine SlP.lst (le_line (Nat.le_trans hW (by decide))) ?_
      rw [cut_any]
      walk_at "ww"
      refine LsP.frz ?_
      walk_at "ww"
      refine ⟨o_add_l (Nat.le_trans (Nat.add_le_add_right (Nat.le_trans (Nat.le_of_eq List.length_dropLast) (Nat.le_trans (Nat.sub_le _ _) hW)) _) (by decide)) ?_⟩
      walk_at "ww"
      refine LsP.frz ?_
      walk_at "ww"
      refine LsP.frz ?_
      walk_at "ww"
      conv => whnf
      rw [show ((shape : Nat) : Int) - 6 = ((shape - 6 : Nat) : Int) from (Int.ofNat_sub hs5).symm]
      refine bad_pick (m := ds.length) (by omega) hF O.n1 O.n3 fun r hbad hrl => ?_
      walk_at "ww"
      refine ⟨?_⟩
      refine r_set_lc (g2 := []) (y := "why") cf (sc_of gls_nil (by rfl)) (.tail _ (.tail _ (.head _))) (by rw [hn]; decide) (pre := [(".0", .local), ("kind", .local)]) (by decide) (by rfl) (fun _ => by rfl) (by decide) (by rw [hn]; decide) (by rfl) (by rfl) ?_
      refine wIter_s hg (snd hn hg 60) (tw := false) (by intro h; cases h) ?_
      walk_at "ww"
      refine RiP.range ?_
      walk_at "ww"
      refine RgP.one (by decide) (by decide) ?_
      refine ⟨by decide, _, by rw [hn]; repeat constructor, ?_⟩
      intro f1 hn1 hg1
      refine (snd hn1 hg1 60).E ?_
      walk_at "ww"
      intro f2 hn2 hg2
      refine (snd hn2 hg2 60).E ?_
      walk_at "ww"
      conv => whnf
      rw [hn]
      conv => whnf
      refine Sto.mk (by repeat constructor) ?_
      walk_at "ww"
      have run : ∀ lm, BadRun B n dl fuel lm (.lst (.str "each" :: r)) usage eArgs := fun lm A H Q X S hr => c_each_bad (n := n + 1) hB hbad hrl hr
      have h := cut _ (CaJ.mk (some (.str usage)) o1 o2 o3 o4 o5 (CaC.bad (.tup (Tree.strs ["TCL", "WRONGARGS"])) (.tup (Tree.strs ["TCL", "WRONGARGS"])) (run true) (run false)))
      conv at h => whnf
      exact h
    · walk_at "ww"
      refine LsP.frz ?_
      walk_at "ww"
      refine ⟨o_add_l (Nat.le_trans (Nat.add_le_add_right hW _) (by decide)) ?_⟩
      walk_at "ww"
      refine ⟨?_⟩
      refine r_set_lc (g2 := [("_law_refusal", .ref 706)]) (y := "groups") cf (sc_of (gls_cons (gl_fn hB (by k_is) rfl) gls_nil) (by rfl)) (.tail _ (.head _)) (by rw [hn]; decide) (pre := [(".0", .local), ("kind", .local), ("_law_refusal", .globalImplicit)]) (by decide) (by rfl) (fun _ => by rfl) (by decide) (by rw [hn]; decide) (by rfl) (by rfl) ?_
      refine wIter_s hg (snd hn hg 60) (tw := false) (by intro h; cases h) ?_
      walk_at "ww"
      refine LsP.frz ?_
      walk_at "ww"
      refine ⟨by decide, _, by rw [hn]; repeat constructor, ?_⟩
      intro f1 hn1 hg1
      refine (snd hn1 hg1 60).E ?_
      walk_at "ww"
      refine CW.of (c_law_refusal (n := n) (lm := true) hB ok ?_) (by first | exact la rfl | exact Nat.le_add_right _ _ | omega)
      intro f2 hn2 hg2
      refine (snd hn2 hg2 60).E ?_
      walk_at "ww"
      refine CW.of (c_law_refusal (n := n) (lm := false) hB ok ?_) (by first | exact la rfl | exact Nat.le_add_right _ _ | omega)
      show Sto f.names _ _ _ _
      rw [hn]
      refine Sto.mk (by repeat constructor) ?_
      walk_at "ww"
      have h := cut _ (CaJ.mk none o1 o2 o3 o4 o5 (ca_each hB O))
      conv at h => whnf
      exact h
  rintro σ ⟨why, o1, o2, o3, o4, o5, C⟩
  cases C with
  | bad t0 t1 run0 run1 =>
    walk_at "ww"
    refine ItP.lst (v := refAV (some (_, _))) (by decide) (by decide) rfl ?_
    walk_at "ww"
    refine LsP.frz ?_
    walk_at "ww"
    refine CW.of (c_law_due (n := n) (rows := []) (deeds := dl) (fuel := fuel) (fin := (.done, co0, 0)) hB (Nat.zero_le _) O.d100 rfl fun H6 x6 => ?_) (by first | exact la rfl | exact Nat.le_add_right _ _ | omega)
    walk_at "ww"
    refine LsP.frz ?_
    walk_at "ww"
    refine ItP.lst (v := refAV (some (_, _))) (by decide) (by decide) rfl ?_
    walk_at "ww"
    refine SlP.tup (a := 1) (by decide) (by decide) (show 5 ≤ sizeLine by decide) ?_
    walk_at "ww"
    refine ⟨o_add_t (List.cons_ne_nil _ _) (List.cons_ne_nil _ _) (show 5 ≤ sizeLine by decide) ?_⟩
    walk_at "ww"
    refine CW.of (c_so_bad (n := n) (lm := true) (dl := dl) (fuel := fuel) hB t0 run0 fun H7 x7 => ?_) (by first | exact la rfl | exact Nat.le_add_right _ _ | omega)
    walk_at "ww"
    refine ItP.lst (v := refAV (some (_, _))) (by decide) (by decide) rfl ?_
    walk_at "ww"
    refine SlP.tup (a := 1) (by decide) (by decide) (show 5 ≤ sizeLine by decide) ?_
    walk_at "ww"
    refine ⟨o_add_t (List.cons_ne_nil _ _) (List.cons_ne_nil _ _) (show 5 ≤ sizeLine by decide) ?_⟩
    walk_at "ww"
    exact CW.of (c_so_bad (n := n) (lm := false) (dl := dl) (fuel := fuel) hB t1 run1 fun H8 x8 => q _ fun b k e => x8 b k (x7 b k (x6 b k e))) (by first | exact la rfl | exact Nat.le_add_right _ _ | omega)
  | good h0 =>
    have h1 := refGs_lm (lm' := false) h0
    obtain ⟨fin, hfin⟩ : ∃ fin, coreR fuel dl (caR ds) 0 co0 = fin := ⟨_, rfl⟩
    have F := coreR_ok hfin O.val
    have hk6 := Nat.le_trans F.len (Nat.le_trans O.rl O.d100)
    have hWl : (wordsG (ds.map Draw.gd) "body").length ≤ 1000 := by rw [wordsG_len, List.length_map]; exact Nat.le_trans (Nat.add_le_add_right (Nat.mul_le_mul_left 2 O.n3) 2) (by decide)
    refine s_cut4 (CaK pen ds shape dl fuel fin none H5) (fun cut => ?_) ?_
    · walk_at "ww"
      refine ItP.lst (v := .none) (by decide) (by decide) rfl ?_
      walk_at "ww"
      refine CW.of (c_law_rounds (n := n) hB ok (refGs_none h0) (Nat.le_trans O.n3 (by decide)) fun H6 x6 => ?_) (by first | exact la rfl | exact Nat.le_add_right _ _ | omega)
      walk_at "ww"
      refine ItP.tup (v := rowsAV (caR ds)) (by decide) (by decide) rfl ?_
      walk_at "ww"
      refine CW.of (c_law_due (n := n) (rows := caR ds) (deeds := dl) (fuel := fuel) hB O.rl O.d100 hfin fun H7 x7 => ?_) (by first | exact la rfl | exact Nat.le_add_right _ _ | omega)
      walk_at "ww"
      have h := cut _ (CaK.mk why (some (.lst [refAV none, refAV none])) o1 o2 o3 o4 o5 fun b k e => x7 b k (x6 b k e))
      conv at h => whnf
      exact h
    rintro σ ⟨why, re, o1, o2, o3, o4, o5, x6⟩
    refine s_cut (CaK pen ds shape dl fuel fin (some (gotOf (.str (joinL fin.2.1.kept)) fin.1).av) H5) (fun cut => ?_) ?_
    · obtain ⟨e, c, sp⟩ := fin
      cases e with
      | done =>
        walk_at "ww"
        refine ItP.tup (v := .int 0) (by decide) (by decide) rfl ?_
        walk_at "ww"
        refine CW.of (c_join_list (n := n) hB F.kept (Nat.le_trans hk6 (by decide)) ?_) (by first | exact la rfl | exact Nat.le_add_right _ _ | omega)
        conv => whnf
        have h := cut _ (CaK.mk why re o1 o2 o3 o4 o5 x6)
        conv at h => whnf
        exact h
      | thr code w =>
        walk_at "ww"
        refine ItP.tup (v := .int code) (by decide) (by decide) rfl ?_
        walk_at "ww"
        conv => whnf
        refine br_ie (fun e => absurd e (F.thr code w rfl)) fun _ => ?_
        conv => whnf
        have h := cut _ (CaK.mk why re o1 o2 o3 o4 o5 x6)
        conv at h => whnf
        exact h
      | fuel =>
        walk_at "ww"
        refine ItP.tup (v := .str "fuel") (by decide) (by decide) rfl ?_
        walk_at "ww"
        refine ⟨o_eq_si ?_⟩
        conv => whnf
        have h := cut _ (CaK.mk why re o1 o2 o3 o4 o5 x6)
        conv at h => whnf
        exact h
    rintro σ ⟨why, re, o1, o2, o3, o4, o5, x7⟩
    walk_at "ww"
    refine LsP.frz ?_
    walk_at "ww"
    refine CW.of (c_so_each (n := n) (lm := true) (keep := false) (dl := dl) (fuel := fuel) hB O h0 hfin F fun H8 x8 => ?_) (by first | exact la rfl | exact Nat.le_add_right _ _ | omega)
    walk_at "ww"
    refine LsP.frz ?_
    walk_at "ww"
    refine CW.of (c_so_each (n := n) (lm := false) (keep := false) (dl := dl) (fuel := fuel) hB O h1 hfin F fun H9 x9 => ?_) (by first | exact la rfl | exact Nat.le_add_right _ _ | omega)
    walk_at "ww"
    refine SlP.lst (le_line1 hWl) ?_
    rw [cut_any]
    walk_at "ww"
    refine LsP.frz ?_
    walk_at "ww"
    refine ⟨o_add_l (Nat.le_trans (Nat.add_le_add_right (Nat.le_trans (Nat.le_of_eq List.length_dropLast) (Nat.le_trans (Nat.sub_le _ _) hWl)) _) (by decide)) ?_⟩
    rw [cut_words]
    walk_at "ww"
    conv => whnf
    rw [due_av hB fin]
    refine CW.of (c_so_each (n := n) (lm := false) (keep := true) (dl := dl) (fuel := fuel) hB O h1 hfin F fun H10 x10 => ?_) (by first | exact la rfl | exact Nat.le_add_right _ _ | omega)
    walk_at "ww"
    refine LsP.frz ?_
    walk_at "ww"
    conv => whnf
    rw [← due_av hB fin]
    exact CW.of (c_so_for (n := n) (dl := dl) (fuel := fuel) hB O hfin F fun H11 x11 => q _ fun b k e => x11 b k (x10 b k (x9 b k (x8 b k (x7 b k e))))) (by first | exact la rfl | exact Nat.le_add_right _ _ | omega)
end
inductive LawI (l : Addr) (t : Nat) : St → Prop
  | mk (H' : AH) (o1 o2 : Option AV) : LawI l t ⟨[some (.ref l), o1, o2], H'⟩
section
variable {B : BC} {n : Nat} (hB : KB B)
include hB
theorem c_law {l : Addr} {vs : List Value} {ns : List Int} {H : AH} (hl : B.base.IsList l vs.toArray) (hi : IntsAre vs ns) (hz : ns.length ≤ 63) : CallP B (n + 15) (.ref 746) [.ref l] H (fun v _ => v = .bool true) (fun _ _ => False) := by
  refine c_def hB ["script", "k", "base"] [("_law_base", .ref 638), ("_law_case_is_right", .ref 739), ("enumerate", .typ "enumerate"), ("sum", .blt "sum")] (by k_is) (by k_is) (by k_is) rfl (fn_ok (.fn hB (by k_is) rfl (.fn hB (by k_is) rfl (.typ hB (by k_is) rfl rfl (.blt hB (by k_is) rfl rfl .nil)))) rfl) rfl (by dsimp only [mkLoc, List.map]) (fun rs hr => ?_) (fun f hn hg hp => ?_)
  · exact len1 hr fun _ => rfl
  walk_at "ww"
  refine RiP.enum rfl ?_
  walk_at "ww"
  refine CW.of (c_law_base (n := n) hB fun bs hbs hbl => ?_) (by first | exact la rfl | exact Nat.le_add_right _ _ | omega)
  walk_at "ww"
  refine EnP.mk ?_
  refine WFor.enum (LawI l) ?_ ?_ _ (.mk H none none)
  · rintro σ ⟨H', o1, o2⟩
    exact rfl
  · rintro t σ ht ⟨H', o1, o2⟩ rest ih
    have hb : bs[t].length ≤ 90 := (hbs _ (List.getElem_mem ht)).2
    walk_at "ww"
    refine ⟨r_slice_step hl hi hz ?_⟩
    refine (snd hn hg 60).E ?_
    walk_at "ww"
    refine ⟨rfl, ?_⟩
    refine (snd hn hg 60).E ?_
    walk_at "ww"
    refine ⟨_, rfl, ?_⟩
    refine (snd hn hg 60).E ?_
    walk_at "ww"
    refine ⟨_, rfl, by decide, fun ms => ?_⟩
    walk_at "ww"
    refine BlP.raw (b_sum fun N => ?_)
    walk_at "ww"
    refine ⟨o_pow ?_⟩
    walk_at "ww"
    refine ⟨by decide, ?_⟩
    generalize N.fmod (10 ^ 60) = M
    walk_at "ww"
    refine LsP.frz ?_
    walk_at "ww"
    refine ⟨o_add_lm (by rw [List.length_map]; exact Nat.le_trans (Nat.add_le_add_left hb 1) (by decide)) fun a ha => ?_⟩
    walk_at "ww"
    refine CW.of (c_case (n := n) hB (.mk (l := M :: bs[t]) (List.cons_ne_nil _ _) (Nat.le_trans (Nat.succ_le_succ hb) (by decide)) HG.here) fun H2 k2 => ?_) (by first | exact la rfl | exact Nat.le_add_right _ _ | omega)
    walk_at "ww"
    exact ih _ (.mk _ _ _)
end
theorem post_true (args : List WData) : PySem.Challenge.rw_oj0070_01.row.claim.post args (WData.bool true) args = true := by
  refine postW_of (X := true) ?_ ?_ rfl
  · first | rfl | decide | (simp [WShape.has, OpenLaw.row])
  · first | rfl | (simp [OpenLaw.row, WTm.value, PySem.W.same])
set_option tactic.hygienic true in
set_option Elab.async true in
theorem entry : PySem.Challenge.rw_oj0070_01.Holds := by
  w_on
  o_law
  o_head (kHook kk.heap_1 [2,3,15,17,18,20,21,22,29,31,32,34,35,36,37,38,39,42,49,50,51,54,61,62,63,66,73,74,75,77,78,80,81,82,83,84,85,95,96,98,99,101,102,103,104,105,106,107,117,119,120,122,123,124,125,126,127,128,131,132,133,135,136,138,139,140,142,143,145,146,147,149,150,152,153,154,156,157,159,160,161,163,164,166,167,168,170,171,173,174,175,177,178,180,181,182,184,185,187,188,189,191,192,194,195,196,198,199,201,202,203,205,206,208,209,210,212,213,215,216,217,219,220,222,223,224,226,227,229,230,231,233,234,236,237,238,240,241,243,244,245,247,248,250,251,252,254,255,257,258,259,261,262,264,265,266,268,269,271,272,273,275,276,278,279,280,282,283,285,286,287,289,290,292,293,294,296,297,299,300,301,303,304,306,307,308,309,311,312,314,315,316,318,319,321,322,323,325,326,328,329,330,332,333,335,336,337,339,340,342,343,344,346,347,349,350,351,353,354,356,357,358,360,361,363,364,372,374,375,377,378,379,380,381,382,383,393,394,396,397,399,400,401,403,404,406,407,408,410,411,413,414,415,417,418,420,421,422,424,425,427,428,429,431,432,434,435,436,438,439,441,442,443,445,446,448,449,450,452,453,455,456,457,459,460,462,463,464,465,466,467,468,471,473,474,476,477,478,480,481,483,484,485,487,488,490,491,492,494,495,497,498,499,501,502,504,505,506,513,514,516,517,519,520,521,523,524,526,527,528,530,531,533,534,535,537,538,540,541,542,544,545,547,548,549,551,552,554,555,556,558,559,561,562,563,565,566,568,569,570,572,573,575,576,577,579,580,582,583,584,585,587,588,590,591,592,594,595,597,598,599,601,602,604,605,606,608,609,611,612,613,615,616,618,619,620,621,622,625,627,628,630,631,632,634,635,637,638,639,641,642,644,645,646,648,649,651,652,653,655,656,658,659,660,662,663,665,666,667,669,670,672,673,674,677,678,679,681,682,684,685,686,688,689,691,692,693,695,696,698,699,700,702,703,705,706,707,709,710,712,713,714,716,717,719,720,721,723,724,726,727,728,730,731,733,734,735,738,739,740,742,743,745,746] (fun _ => by kernel_rfl))
  case hw => w_witness2
  k_fill
  intro w s₀ s₁ mg mb G Y fa o pm cd doc dV kV ho hd hcd hD hmg hg args vals as hpre hlay hrd hwl hlo
  have KX := kIn_of Y
  refine Ground.open G ?_
  intro T B D TE TW
  have hlow : sysModules < s₁.heap.objs.size := by
    obtain ⟨_, ⟨o, _, _, ho, _⟩, _⟩ := T.nodigits
    exact Nat.lt_trans (by decide) (Heap.lt_size ho)
  clear ho hd hcd hD
  clear Y
  try (refine guard_noD D (by decide +kernel) ?_; clear D)
  wrow_args hpre hlay hrd hwl hlo
  rename_i ns _ _ _ _ _ _ _ la vs _ hL _ _ _ hI _ hc _
  let C : BC := ⟨PySem.Challenge.rw_oj0070_01.row.prog, w, kk.heap_1 w.params, s₁.heap, s₁.gens, s₁.os, mg, mb, KX, T.g, T.b, T.nolimit, hlow, T.builtins⟩
  have hC : KB C := rfl
  have hfa : mg PySem.Challenge.rw_oj0070_01.row.name = some (.ref 746) := mg_of hC.in C.hg (by k_is)
  have hfa' : mg PySem.Challenge.rw_oj0070_01.row.name = some (.ref fa) := hmg
  obtain rfl : 746 = fa := by rw [hfa] at hfa'; injection hfa' with e; injection e
  have hlen : ns.length ≤ 63 := by omega
  refine enter_call (codeAny_mono ((c_law (H := fun _ => none) (B := C) (n := 85) hC hL hI hlen).2 callerA s₁ [] [] [.ref la] rfl rfl (by decide) (by decide) ?_ (.cons (.ref la) .nil)) ?_)
  · exact ⟨fun _ _ e => e, rfl, rfl, fun _ _ e => (nomatch e), fun a h => (by rcases h with h | h | h; exact absurd rfl h; cases h; cases h), fun a h => (by rcases h with h | h | h; exact absurd rfl h; cases h; cases h), fun a h => rfl, fun a h => (nomatch h), trivial⟩
  · intro r s' h
    cases h with
    | ret v H' r st hv e =>
      subst e
      cases hv
      refine GoodW.toG ⟨.inl ⟨.bool true, .bool true, [], rfl, fun _ => rfl, .bool true, ?_, fun _ => ⟨List.nodup_nil, fun a m => nomatch m⟩⟩, r.base, r.os, r.gens.trans hg⟩
      exact post_true _
    | er _ _ _ _ _ _ _ q => exact q.elim
end Mine
end
theorem PySem.Challenge.cw_oj0070_01_holds : PySem.Challenge.rw_oj0070_01.Holds :=
  Mine.entry
