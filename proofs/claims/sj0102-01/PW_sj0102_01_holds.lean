import PyProof.Rows.All
import Wide.All
import OpenK.AllK
import Wide.FinOn
import PySem.Challenge.RW_sj0102_01

set_option Elab.async false
set_option linter.unusedVariables false
section
open PySem PySem.W PyProof.Rows
namespace PySem.W
name_quick tw1986458512934025661 for S.findZ by S.findZ_eq
name_quick tw15432132100017774171 for S.findZ by S.findZ_eq
name_quick tw16267933708587858586 for S.findZ by S.findZ_eq
name_quick tw8075568018651887793 for S.findZ by S.findZ_eq
name_quick tw9841527265395056889 for S.findZ by S.findZ_eq
name_quick tw15913091246340525004 for S.findZ by S.findZ_eq
name_quick tw8002986703683581581 for S.findZ by S.findZ_eq
name_quick tw11816235856337114411 for S.findZ by S.findZ_eq
name_quick tw18078706397584847548 for S.findZ by S.findZ_eq
name_quick tw8847259346848214657 for S.findZ by S.findZ_eq
name_quick tw16509779356886149309 for S.findZ by S.findZ_eq
name_quick tw15540069325123060978 for S.findZ by S.findZ_eq
name_quick tw14979626087600564940 for S.findZ by S.findZ_eq
name_quick tw6401150494695189813 for S.findZ by S.findZ_eq
name_quick tw1074804489107235056 for S.findZ by S.findZ_eq
name_quick tw8763444116262736839 for S.findZ by S.findZ_eq
name_quick tw8949753489320171837 for S.findZ by S.findZ_eq
name_quick tw17016373728026468306 for S.findZ by S.findZ_eq
name_quick tw411341824665146567 for S.findZ by S.findZ_eq
name_quick tw16390375249116991291 for S.findZ by S.findZ_eq
name_quick tw17612500589515189474 for S.findZ by S.findZ_eq
name_quick tw14950786731558844303 for S.findZ by S.findZ_eq
name_quick tw12401982843248261437 for S.findZ by S.findZ_eq
name_quick tw10730351240561388922 for S.findZ by S.findZ_eq
name_quick tw15576483152104568565 for S.findZ by S.findZ_eq
name_quick tw14261067545634055958 for S.findZ by S.findZ_eq
name_quick tw17431433668129655921 for S.findZ by S.findZ_eq
name_quick tw17123425798396237403 for S.findZ by S.findZ_eq
name_quick tw12758646416354461303 for S.findZ by S.findZ_eq
name_quick tw12296728618847696761 for S.findZ by S.findZ_eq
name_quick tw7538125934224741611 for S.findZ by S.findZ_eq
name_quick tw17528258088376854630 for S.findZ by S.findZ_eq
name_quick tw15045374019550898551 for S.findZ by S.findZ_eq
name_quick tw10006666124156027396 for S.findZ by S.findZ_eq
name_quick tw12071057409057901078 for S.findZ by S.findZ_eq
name_quick tw6057444674265745922 for S.findZ by S.findZ_eq
name_quick tw7378761846476686904 for S.findZ by S.findZ_eq
name_quick tw11055029398406535253 for S.findZ by S.findZ_eq
name_quick tw10323968676351773119 for S.findZ by S.findZ_eq
name_quick tw4338827642740501141 for S.findZ by S.findZ_eq
name_quick tw11994158751524154303 for S.findZ by S.findZ_eq
name_quick tw15062378111984178829 for S.findZ by S.findZ_eq
name_quick tw9467589175468403638 for S.findZ by S.findZ_eq
name_quick tw4716499452693333712 for S.findZ by S.findZ_eq
name_quick tw11793402487394874009 for S.findZ by S.findZ_eq
name_quick tw5409283761738284092 for S.findZ by S.findZ_eq
name_quick tw18036702205230433160 for S.findZ by S.findZ_eq
name_quick tw10477944011785391905 for S.findZ by S.findZ_eq
name_quick tw15028816761298942483 for S.findZ by S.findZ_eq
name_quick tw15066959818950650227 for S.findZ by S.findZ_eq
name_quick tw14896874001708588922 for S.findZ by S.findZ_eq
name_quick tw12214085216866374628 for S.findZ by S.findZ_eq
name_quick tw1495452243305574823 for S.findZ by S.findZ_eq
name_quick tw6431602227632030956 for S.findZ by S.findZ_eq
name_quick tw4434333111790514575 for S.findZ by S.findZ_eq
name_quick tw931183843429516998 for S.findZ by S.findZ_eq
name_quick tw15755039735206942576 for S.findZ by S.findZ_eq
name_quick tw15766043655864335149 for S.findZ by S.findZ_eq
name_quick tw18101931140130867144 for S.findZ by S.findZ_eq
name_quick tw3093977132361051618 for S.findZ by S.findZ_eq
name_quick tw15020028541594565831 for S.findZ by S.findZ_eq
name_quick tw9458956999447867950 for S.findZ by S.findZ_eq
name_quick tw6607189417530752870 for S.findZ by S.findZ_eq
name_quick tw17842620306162639686 for S.findZ by S.findZ_eq
name_quick tw1278341880987251545 for S.findZ by S.findZ_eq
name_quick tw9292931687148149277 for S.findZ by S.findZ_eq
name_quick tw6214688769961185500 for S.findZ by S.findZ_eq
name_quick tw10216692956209284516 for S.findZ by S.findZ_eq
name_quick tw4352594626159697269 for S.findZ by S.findZ_eq
name_quick tw441327347791068078 for S.findZ by S.findZ_eq
name_quick tw1460277438893781036 for S.findZ by S.findZ_eq
name_quick tw1809207472137372986 for S.findZ by S.findZ_eq
name_quick tw13262538273218963204 for S.findZ by S.findZ_eq
name_quick tw3558216917135427349 for S.findZ by S.findZ_eq
name_quick tw3306904295867340462 for S.findZ by S.findZ_eq
name_quick tw10227693086864044499 for S.findZ by S.findZ_eq
name_quick tw11855487677703710099 for S.findZ by S.findZ_eq
name_quick tw17672482021469178181 for S.findZ by S.findZ_eq
name_quick tw11741558526933031933 for S.findZ by S.findZ_eq
name_quick tw13690843758732723530 for S.findZ by S.findZ_eq
name_quick tw2110851967338885185 for S.findZ by S.findZ_eq
name_quick tw18188234029961486008 for S.findZ by S.findZ_eq
name_quick tw16770459766345991936 for S.findZ by S.findZ_eq
name_quick tw1320183511955256522 for S.findZ by S.findZ_eq
name_quick tw764782834095389478 for S.findZ by S.findZ_eq
name_quick tw12436211924289087317 for S.findZ by S.findZ_eq
name_quick tw4858009861420398278 for S.findZ by S.findZ_eq
name_quick tw7146146830050965766 for S.findZ by S.findZ_eq
name_quick tw14763704009068828915 for S.findZ by S.findZ_eq
name_quick tw482417222145425773 for S.findZ by S.findZ_eq
name_quick tw8719427161674164953 for S.findZ by S.findZ_eq
name_quick tw16280195873916505411 for S.findZ by S.findZ_eq
name_quick tw14389334442490810641 for S.findZ by S.findZ_eq
name_quick tw4600395469775339435 for S.findZ by S.findZ_eq
name_quick tw5248340912204065574 for S.findZ by S.findZ_eq
name_quick tw16289391198768371057 for S.findZ by S.findZ_eq
name_quick tw9219426015542480343 for S.findZ by S.findZ_eq
name_quick tw5720267713326709755 for S.findZ by S.findZ_eq
name_quick tw5950129339639070837 for S.findZ by S.findZ_eq
name_quick tw3504847659760329788 for S.findZ by S.findZ_eq
name_quick tw2708163388286742659 for S.findZ by S.findZ_eq
name_quick tw5854066237105225762 for S.findZ by S.findZ_eq
name_quick tw3195343069725486020 for S.findZ by S.findZ_eq
name_quick tw3695515675974049574 for S.findZ by S.findZ_eq
name_quick tw18287117734903463105 for S.findZ by S.findZ_eq
name_quick tw14174611291570781762 for S.findZ by S.findZ_eq
name_quick tw7853834085085047284 for S.findZ by S.findZ_eq
name_quick tw9236379625843700516 for S.findZ by S.findZ_eq
name_quick tw17138261911001417010 for S.findZ by S.findZ_eq
name_quick tw15586084020490888360 for S.findZ by S.findZ_eq
name_quick tw1059901042614829057 for S.findZ by S.findZ_eq
name_quick tw2413185636571951891 for S.findZ by S.findZ_eq
name_quick tw882838713213173450 for S.findZ by S.findZ_eq
name_quick tw15207642765257501584 for S.findZ by S.findZ_eq
name_quick tw17111948838632640456 for S.findZ by S.findZ_eq
name_quick tw3069475018656635626 for S.findZ by S.findZ_eq
name_quick tw4841608483596896988 for S.findZ by S.findZ_eq
name_quick tw13195905796856590283 for S.findZ by S.findZ_eq
name_quick tw3353693220867276294 for S.findZ by S.findZ_eq
name_quick tw10797649063328284778 for S.findZ by S.findZ_eq
name_quick tw10257574182948591618 for S.findZ by S.findZ_eq
name_quick tw10033396928017900241 for S.findZ by S.findZ_eq
name_quick tw13640514254501968386 for S.findZ by S.findZ_eq
name_quick tw4173924237407464957 for S.findZ by S.findZ_eq
name_quick tw17100903815162463580 for S.findZ by S.findZ_eq
name_quick tw3365093317950918147 for S.findZ by S.findZ_eq
name_quick tw2387720566874501970 for S.findZ by S.findZ_eq
name_quick tw6267220430429643429 for S.findZ by S.findZ_eq
name_quick tw18126140380344562322 for S.findZ by S.findZ_eq
name_quick tw8400853705098224536 for S.findZ by S.findZ_eq
name_quick tw12472836147817038354 for S.findZ by S.findZ_eq
name_quick tw7198390536060210744 for S.findZ by S.findZ_eq
name_quick tw13145125596335152023 for S.findZ by S.findZ_eq
name_quick tw16180483070735683940 for S.findZ by S.findZ_eq
name_quick tw721709456127091705 for S.findZ by S.findZ_eq
name_quick tw13581749221687468397 for S.findZ by S.findZ_eq
name_quick tw16643379632663270332 for S.findZ by S.findZ_eq
name_quick tw13987355940573415152 for S.findZ by S.findZ_eq
name_quick tw8868882367808763553 for S.findZ by S.findZ_eq
name_quick tw2351620601788327285 for S.findZ by S.findZ_eq
name_quick tw1214102232304312720 for S.findZ by S.findZ_eq
name_quick tw12606261883493885652 for S.findZ by S.findZ_eq
name_quick tw9041768174481992944 for S.findZ by S.findZ_eq
name_quick tw17295947923314359676 for S.findZ by S.findZ_eq
name_quick tw17517737089405305841 for S.findZ by S.findZ_eq
name_quick tw17020626225693228618 for S.findZ by S.findZ_eq
name_quick tw973662469405803806 for S.findZ by S.findZ_eq
name_quick tw8777329075199875621 for S.findZ by S.findZ_eq
name_quick tw5299483063635442899 for S.findZ by S.findZ_eq
name_quick tw7397068168572129948 for S.findZ by S.findZ_eq
name_quick tw3698559305507148144 for S.findZ by S.findZ_eq
name_quick tw10007627690174824804 for S.findZ by S.findZ_eq
name_quick tw6888100737891179579 for S.findZ by S.findZ_eq
name_quick tw13241461904039861399 for S.findZ by S.findZ_eq
name_quick tw6697550738653902072 for S.findZ by S.findZ_eq
name_quick tw15250204685079549951 for S.findZ by S.findZ_eq
name_quick tw607167704815816724 for S.findZ by S.findZ_eq
name_quick tw5946566240119215348 for S.findZ by S.findZ_eq
name_quick tw4504083675297759592 for S.findZ by S.findZ_eq
name_quick tw7299951869573292228 for S.findZ by S.findZ_eq
name_quick tw16658944759067139292 for S.findZ by S.findZ_eq
name_quick tw2711585505577850959 for S.findZ by S.findZ_eq
name_quick tw10379131730601215995 for S.findZ by S.findZ_eq
name_quick tw11790162104776037713 for S.findZ by S.findZ_eq
name_quick tw12143486254990352099 for S.findZ by S.findZ_eq
name_quick tw10353204498128435838 for S.findZ by S.findZ_eq
name_quick tw8654737378357257675 for S.findZ by S.findZ_eq
name_quick tw15202239659555905331 for S.findZ by S.findZ_eq
name_quick tw18163462532019968843 for S.findZ by S.findZ_eq
name_quick tw288087438632003012 for S.findZ by S.findZ_eq
name_quick tw1267870562809915468 for S.findZ by S.findZ_eq
name_quick tw10470071008263537045 for S.findZ by S.findZ_eq
name_quick tw15560853006256673968 for S.findZ by S.findZ_eq
name_quick tw3264259588550801142 for S.findZ by S.findZ_eq
name_quick tw14844032806303022069 for S.findZ by S.findZ_eq
name_quick tw12660628722211587041 for S.findZ by S.findZ_eq
name_quick tw15965015591981942514 for S.findZ by S.findZ_eq
name_quick tw2651664433501786496 for S.findZ by S.findZ_eq
name_quick tw10782641618400255816 for S.findZ by S.findZ_eq
name_quick tw9979284746773624096 for S.findZ by S.findZ_eq
name_quick tw12064662690394058248 for S.findZ by S.findZ_eq
name_quick tw6614585292965373069 for S.findZ by S.findZ_eq
name_quick tw16942194440817826258 for S.findZ by S.findZ_eq
name_quick tw7057405563618977329 for S.findZ by S.findZ_eq
name_quick tw12025208970609079342 for S.findZ by S.findZ_eq
name_quick tw6291368078380397288 for S.findZ by S.findZ_eq
name_quick tw18386054884457128365 for S.findZ by S.findZ_eq
name_quick tw5076957145309523181 for S.findZ by S.findZ_eq
name_quick tw1269743608478119537 for S.findZ by S.findZ_eq
name_quick tw13294325848734340343 for S.findZ by S.findZ_eq
name_quick tw8796240567053077481 for S.findZ by S.findZ_eq
name_quick tw6909570525239066004 for S.findZ by S.findZ_eq
name_quick tw17280976486791472633 for S.findZ by S.findZ_eq
name_quick tw7140130562030077042 for S.findZ by S.findZ_eq
name_quick tw9206804518496725263 for S.findZ by S.findZ_eq
name_quick tw12835720964997663042 for S.findZ by S.findZ_eq
name_quick tw6841013123486265825 for S.findZ by S.findZ_eq
name_quick tw12898947447245864913 for S.findZ by S.findZ_eq
name_quick tw6380047634161181297 for S.findZ by S.findZ_eq
name_quick tw11825729669827539873 for S.findZ by S.findZ_eq
name_quick tw6891000109920058784 for S.findZ by S.findZ_eq
name_quick tw18273839248471157720 for S.findZ by S.findZ_eq
name_quick tw5952267759425050802 for S.findZ by S.findZ_eq
name_quick tw2401699919119007470 for S.findZ by S.findZ_eq
name_quick tw1189734492583310 for S.findZ by S.findZ_eq
name_quick tw535072334866317008 for S.findZ by S.findZ_eq
name_quick tw5289962621202845349 for S.findZ by S.findZ_eq
name_quick tw14043711374191979534 for S.findZ by S.findZ_eq
name_quick tw6937325167468391026 for S.findZ by S.findZ_eq
name_quick tw3766158894648301139 for S.findZ by S.findZ_eq
name_quick tw151948405760981731 for S.findZ by S.findZ_eq
name_quick tw8123005709971320403 for S.findZ by S.findZ_eq
name_quick tw8944806292087596576 for S.findZ by S.findZ_eq
name_quick tw1375587502874563802 for S.findZ by S.findZ_eq
name_quick tw2736616831223182526 for S.findZ by S.findZ_eq
name_quick tw13121200027793486533 for S.findZ by S.findZ_eq
name_quick tw18428756778242999024 for S.findZ by S.findZ_eq
name_quick tw12821735335276811757 for S.findZ by S.findZ_eq
name_quick tw15663404670287596823 for S.findZ by S.findZ_eq
name_quick tw12647630874787467225 for S.findZ by S.findZ_eq
name_quick tw3658093133387280835 for S.findZ by S.findZ_eq
name_quick tw282004115355043989 for S.findZ by S.findZ_eq
name_quick tw11853533878840232495 for S.findZ by S.findZ_eq
name_quick tw5189142188285759775 for S.findZ by S.findZ_eq
name_quick tw15278061642289888581 for S.findZ by S.findZ_eq
name_quick tw14714103240675001986 for S.findZ by S.findZ_eq
name_quick tw9787463984185863102 for S.findZ by S.findZ_eq
name_quick tw16904869804480856166 for S.findZ by S.findZ_eq
name_quick tw2081907255765424308 for S.findZ by S.findZ_eq
name_quick tw13427988762788590312 for S.findZ by S.findZ_eq
name_quick tw13526986893379352335 for S.findZ by S.findZ_eq
name_quick tw13749758060653150092 for S.findZ by S.findZ_eq
name_quick tw8946543629884556368 for S.findZ by S.findZ_eq
name_quick tw7469732015759309437 for S.findZ by S.findZ_eq
name_quick tw14544052848187043789 for S.findZ by S.findZ_eq
name_quick tw17814930658547583709 for S.findZ by S.findZ_eq
name_quick tw1702518465993881591 for S.findZ by S.findZ_eq
name_quick tw17853915177807527196 for S.findZ by S.findZ_eq
name_quick tw252367510798351285 for S.findZ by S.findZ_eq
name_quick tw3142773779024712118 for S.findZ by S.findZ_eq
name_quick tw921073385446354868 for S.findZ by S.findZ_eq
name_quick tw9281714027785469542 for S.findZ by S.findZ_eq
name_quick tw2569364866550412066 for S.findZ by S.findZ_eq
name_quick tw13804622635509601256 for S.findZ by S.findZ_eq
name_quick tw10220936982206179058 for S.findZ by S.findZ_eq
name_quick tw6125931036764729998 for S.findZ by S.findZ_eq
name_quick tw6148621092414575339 for S.findZ by S.findZ_eq
name_quick tw17101871299007795629 for S.findZ by S.findZ_eq
name_quick tw9575731206691268911 for S.findZ by S.findZ_eq
name_quick tw10758392820592806131 for S.findZ by S.findZ_eq
name_quick tw18034167525097398909 for S.findZ by S.findZ_eq
name_quick tw16593013826814733010 for S.findZ by S.findZ_eq
name_quick tw3228652444460286982 for S.findZ by S.findZ_eq
name_quick tw7393211689510517793 for S.findZ by S.findZ_eq
name_quick tw6135381517318000843 for S.findZ by S.findZ_eq
name_quick tw4299136966843209011 for S.findZ by S.findZ_eq
name_quick tw10422997342228622526 for S.findZ by S.findZ_eq
name_quick tw10727534119236929211 for S.findZ by S.findZ_eq
name_quick tw6348685521300091022 for S.findZ by S.findZ_eq
name_quick tw1218959903707654005 for S.findZ by S.findZ_eq
name_quick tw14112274594779413971 for S.findZ by S.findZ_eq
name_quick tw8902219603052485911 for S.findZ by S.findZ_eq
name_quick tw10045867985992453528 for S.findZ by S.findZ_eq
name_quick tw16366562015402752707 for S.findZ by S.findZ_eq
name_quick tw2378363196638174374 for S.findZ by S.findZ_eq
name_quick tw5032809538720368765 for S.findZ by S.findZ_eq
name_quick tw9236875199018929784 for S.findZ by S.findZ_eq
name_quick tw4558998842232669794 for S.findZ by S.findZ_eq
name_quick tw3442601649717412197 for S.findZ by S.findZ_eq
name_quick tw17164873540382356111 for S.findZ by S.findZ_eq
name_quick tw460243522976405022 for S.findZ by S.findZ_eq
name_quick tw12050852935592152754 for S.findZ by S.findZ_eq
name_quick tw14210447440969649564 for S.findZ by S.findZ_eq
name_quick tw1258299570235058372 for S.findZ by S.findZ_eq
name_quick tw189603312586018693 for S.findZ by S.findZ_eq
name_quick tw3365010085382643294 for S.findZ by S.findZ_eq
name_quick tw15560500314895047343 for S.findZ by S.findZ_eq
name_quick tw11306939235166856333 for S.findZ by S.findZ_eq
name_quick tw6144853644547557980 for S.findZ by S.findZ_eq
name_quick tw1962928258387122110 for S.findZ by S.findZ_eq
name_quick tw2784737618629438770 for S.findZ by S.findZ_eq
name_quick tw15168306246750427876 for S.findZ by S.findZ_eq
name_quick tw12450158673883907302 for S.findZ by S.findZ_eq
name_quick tw4989861115921178866 for S.findZ by S.findZ_eq
name_quick tw3972328310683599613 for S.findZ by S.findZ_eq
name_quick tw799472198861031185 for S.findZ by S.findZ_eq
name_quick tw6550987210724342151 for S.findZ by S.findZ_eq
name_quick tw1749818173716722547 for S.findZ by S.findZ_eq
name_quick tw16474492168511960337 for S.findZ by S.findZ_eq
name_quick tw3764465048917985505 for S.findZ by S.findZ_eq
name_quick tw17815586953681464072 for S.findZ by S.findZ_eq
name_quick tw13342524657329470049 for S.findZ by S.findZ_eq
name_quick tw10948738476641704880 for S.findZ by S.findZ_eq
name_quick tw12177639751122801600 for S.findZ by S.findZ_eq
name_quick tw7503421922109321716 for S.findZ by S.findZ_eq
name_quick tw13915792640404377917 for S.findZ by S.findZ_eq
name_quick tw9151444980202551346 for S.findZ by S.findZ_eq
name_quick tw9504726810853072989 for S.findZ by S.findZ_eq
name_quick tw12224272158712414510 for S.findZ by S.findZ_eq
name_quick tw3424931102881643321 for S.findZ by S.findZ_eq
name_quick tw11543547407058413889 for S.findZ by S.findZ_eq
name_quick tw2011108890870493169 for S.findZ by S.findZ_eq
name_quick tw15025364365136419289 for S.findZ by S.findZ_eq
name_quick tw1041845030581493396 for S.findZ by S.findZ_eq
name_quick tw1735497430108182060 for S.findZ by S.findZ_eq
name_quick tw1343220272319300887 for S.findZ by S.findZ_eq
name_quick tw10276908904998144438 for S.findZ by S.findZ_eq
name_quick tw9529234661008812162 for S.findZ by S.findZ_eq
name_quick tw14333388528381170442 for S.findZ by S.findZ_eq
name_quick tw3152983702415266003 for S.findZ by S.findZ_eq
name_quick tw16916688483869632129 for S.findZ by S.findZ_eq
name_quick tw1499420768645567495 for S.findZ by S.findZ_eq
name_quick tw18220123701641295943 for S.findZ by S.findZ_eq
name_quick tw7250012664060256230 for S.findZ by S.findZ_eq
name_quick tw16049961110935095269 for S.findZ by S.findZ_eq
name_quick tw13251161224904053152 for S.findZ by S.findZ_eq
name_quick tw7009043117176579089 for S.findZ by S.findZ_eq
name_quick tw704327219915372674 for S.findZ by S.findZ_eq
name_quick tw14460367522058181017 for S.findZ by S.findZ_eq
name_quick tw4580202747914273547 for S.findZ by S.findZ_eq
name_quick tw10323183001455561277 for S.findZ by S.findZ_eq
name_quick tw7401281599722004195 for S.findZ by S.findZ_eq
name_quick tw16138931208732196661 for S.findZ by S.findZ_eq
name_quick tw4745058802850807175 for S.findZ by S.findZ_eq
name_quick tw3932193239157236269 for S.findZ by S.findZ_eq
name_quick tw1995926237046646575 for S.findZ by S.findZ_eq
name_quick tw8283515000281207119 for S.findZ by S.findZ_eq
name_quick tw6722154040420286063 for S.findZ by S.findZ_eq
name_quick tw14843722373977536959 for S.findZ by S.findZ_eq
name_quick tw7275051467321613617 for S.findZ by S.findZ_eq
name_quick tw14952990662201256454 for S.findZ by S.findZ_eq
name_quick tw4111355340424721971 for S.findZ by S.findZ_eq
name_quick tw15475462885187679331 for S.findZ by S.findZ_eq
name_quick tw8058433561772132124 for S.findZ by S.findZ_eq
name_quick tw8753696776887207221 for S.findZ by S.findZ_eq
name_quick tw8424611434330503625 for S.findZ by S.findZ_eq
name_quick tw11882691865914478047 for S.findZ by S.findZ_eq
name_quick tw2759451637364818457 for S.findZ by S.findZ_eq
name_quick tw1379578315556383370 for S.findZ by S.findZ_eq
name_quick tw5152784196030571298 for S.findZ by S.findZ_eq
name_quick tw774047393022817027 for S.findZ by S.findZ_eq
name_quick tw1188131947540300063 for S.findZ by S.findZ_eq
name_quick tw12731603968600162155 for S.findZ by S.findZ_eq
name_quick tw9047900276149940361 for S.findZ by S.findZ_eq
name_quick tw12494133203773749484 for S.findZ by S.findZ_eq
name_quick tw17846936440860909165 for S.findZ by S.findZ_eq
name_quick tw6004533443673955352 for S.findZ by S.findZ_eq
name_quick tw195516440579289731 for S.findZ by S.findZ_eq
name_quick tw18286265847491885052 for S.findZ by S.findZ_eq
name_quick tw17139780236743587250 for S.findZ by S.findZ_eq
name_quick tw4042386549635913901 for S.findZ by S.findZ_eq
name_quick tw10885399304501877467 for S.findZ by S.findZ_eq
name_quick tw10455430044892516648 for S.findZ by S.findZ_eq
name_quick tw15376083050721069600 for S.findZ by S.findZ_eq
name_quick tw8032284361305108907 for S.findZ by S.findZ_eq
name_quick tw8795123598061512290 for S.findZ by S.findZ_eq
name_quick tw12832791649633735192 for S.findZ by S.findZ_eq
name_quick tw17020146562604978829 for S.findZ by S.findZ_eq
name_quick tw18366058095514959488 for S.findZ by S.findZ_eq
name_quick tw3976722010076183465 for S.findZ by S.findZ_eq
name_quick tw11519604305632133818 for S.findZ by S.findZ_eq
name_quick tw13783648951372772217 for S.findZ by S.findZ_eq
name_quick tw16495097172686442475 for S.findZ by S.findZ_eq
name_quick tw5889167727604068794 for S.findZ by S.findZ_eq
name_quick tw2370070277545300124 for S.findZ by S.findZ_eq
name_quick tw17352973434858128600 for S.findZ by S.findZ_eq
name_quick tw4706425542698204933 for S.findZ by S.findZ_eq
name_quick tw3952652319720093869 for S.findZ by S.findZ_eq
name_quick tw757081541053455785 for S.findZ by S.findZ_eq
name_quick tw18328561965235511954 for S.findZ by S.findZ_eq
name_quick tw3740020263889925745 for S.findZ by S.findZ_eq
name_quick tw17475289236778735526 for S.findZ by S.findZ_eq
name_quick tw7574553109774388169 for S.findZ by S.findZ_eq
name_quick tw3619232141914619222 for S.findZ by S.findZ_eq
name_quick tw10015664371746657536 for S.findZ by S.findZ_eq
name_quick tw1184552218554016812 for S.findZ by S.findZ_eq
name_quick tw13316322371389871543 for S.findZ by S.findZ_eq
name_quick tw17552769576498331613 for S.findZ by S.findZ_eq
name_quick tw11641389924110848164 for S.findZ by S.findZ_eq
name_quick tw17988542015724977305 for S.findZ by S.findZ_eq
name_quick tw10040787053062605231 for S.findZ by S.findZ_eq
name_quick tw10528696920762540405 for S.findZ by S.findZ_eq
name_quick tw3362959441861295915 for S.findZ by S.findZ_eq
name_quick tw15919542637913265678 for S.findZ by S.findZ_eq
name_quick tw4658958612460137192 for S.findZ by S.findZ_eq
name_quick tw4527066259768149269 for S.findZ by S.findZ_eq
name_quick tw12225727855978595839 for S.findZ by S.findZ_eq
name_quick tw16531745337717519161 for S.findZ by S.findZ_eq
name_quick tw13746126617404028095 for S.findZ by S.findZ_eq
name_quick tw4319416812082413722 for S.findZ by S.findZ_eq
name_quick tw1667231139898017245 for S.findZ by S.findZ_eq
name_quick tw12635813782599140982 for S.findZ by S.findZ_eq
name_quick tw9575948337506731703 for S.findZ by S.findZ_eq
name_quick tw725871291056497461 for S.findZ by S.findZ_eq
name_quick tw13160144027095335755 for S.findZ by S.findZ_eq
name_quick tw7094674258960923220 for S.findZ by S.findZ_eq
name_quick tw178441218286455893 for S.findZ by S.findZ_eq
name_quick tw17919728810627054236 for S.findZ by S.findZ_eq
name_quick tw11740888236361828772 for S.findZ by S.findZ_eq
name_quick tw1503297043503765363 for S.findZ by S.findZ_eq
name_quick tw9376109419431680627 for S.findZ by S.findZ_eq
name_quick tw8474383852179026721 for S.findZ by S.findZ_eq
name_quick tw9411460985935078520 for S.findZ by S.findZ_eq
name_quick tw2905824091091238844 for S.findZ by S.findZ_eq
name_quick tw12726346659333912481 for S.findZ by S.findZ_eq
name_quick tw1210750091971509897 for S.findZ by S.findZ_eq
name_quick tw15041003319150489328 for S.findZ by S.findZ_eq
name_quick tw17727738676932873817 for S.findZ by S.findZ_eq
name_quick tw8610040677353227653 for S.findZ by S.findZ_eq
name_quick tw15039117976438264115 for S.findZ by S.findZ_eq
name_quick tw2422670821966735624 for S.findZ by S.findZ_eq
name_quick tw16180582048198870337 for S.findZ by S.findZ_eq
name_quick tw16369446117885005094 for S.findZ by S.findZ_eq
name_quick tw11334522289143818824 for S.findZ by S.findZ_eq
name_quick tw7581816359482902497 for S.findZ by S.findZ_eq
name_quick tw17554001833073541016 for S.findZ by S.findZ_eq
name_quick tw15806122291839087668 for S.findZ by S.findZ_eq
name_quick tw11277716924127702174 for S.findZ by S.findZ_eq
name_quick tw14159497744377131790 for S.findZ by S.findZ_eq
name_quick tw16172117957621229858 for S.findZ by S.findZ_eq
name_quick tw2660918139993853925 for S.findZ by S.findZ_eq
name_quick tw2627984346626558326 for S.findZ by S.findZ_eq
name_quick tw16752143609539240740 for S.findZ by S.findZ_eq
name_quick tw17230556039016184743 for S.findZ by S.findZ_eq
name_quick tw4278798014809849964 for S.findZ by S.findZ_eq
name_quick tw6426273055680023932 for S.findZ by S.findZ_eq
name_quick tw11796506867022685745 for S.findZ by S.findZ_eq
name_quick tw12477758415327278626 for S.findZ by S.findZ_eq
name_quick tw8656719876789144132 for S.findZ by S.findZ_eq
name_quick tw6789855027759293466 for S.findZ by S.findZ_eq
name_quick tw8537084889766193716 for S.findZ by S.findZ_eq
name_quick tw5701610774189311196 for S.findZ by S.findZ_eq
name_quick tw5529568453561195837 for S.findZ by S.findZ_eq
name_quick tw3395616883899927064 for S.findZ by S.findZ_eq
name_quick tw11363912090873407280 for S.findZ by S.findZ_eq
name_quick tw4319011637217762917 for S.findZ by S.findZ_eq
name_quick tw16374537267813192141 for S.findZ by S.findZ_eq
name_quick tw10487160056961263569 for S.findZ by S.findZ_eq
name_quick tw9626942728845285128 for S.findZ by S.findZ_eq
name_quick tw17848772402925894760 for S.findZ by S.findZ_eq
name_quick tw5349121933718820234 for S.findZ by S.findZ_eq
name_quick tw8162909057868654942 for S.findZ by S.findZ_eq
name_quick tw8704618095886561957 for S.findZ by S.findZ_eq
name_quick tw3105397867545767578 for S.findZ by S.findZ_eq
name_quick tw3793695936567050837 for S.findZ by S.findZ_eq
name_quick tw14746774941630613163 for S.findZ by S.findZ_eq
name_quick tw5698774287046732500 for S.findZ by S.findZ_eq
name_quick tw8802822988693486460 for S.findZ by S.findZ_eq
name_quick tw7392212959928792091 for S.findZ by S.findZ_eq
name_quick tw16966814322356759819 for S.findZ by S.findZ_eq
name_quick tw6606113021469975653 for S.findZ by S.findZ_eq
name_quick tw2504098582860672743 for S.findZ by S.findZ_eq
name_quick tw12885971956603332375 for S.findZ by S.findZ_eq
name_quick tw3536357697601684980 for S.findZ by S.findZ_eq
name_quick tw9537544019596298400 for S.findZ by S.findZ_eq
name_quick tw15315713394281565010 for S.findZ by S.findZ_eq
name_quick tw2504501939568898240 for S.findZ by S.findZ_eq
name_quick tw13317431791736044220 for S.findZ by S.findZ_eq
name_quick tw7295312623806419368 for S.findZ by S.findZ_eq
name_quick tw8579058602437062094 for S.findZ by S.findZ_eq
name_quick tw16154205161311493856 for S.findZ by S.findZ_eq
name_quick tw10755730847627044085 for S.findZ by S.findZ_eq
name_quick tw3953757239420563355 for S.findZ by S.findZ_eq
name_quick tw10299114407867686024 for S.findZ by S.findZ_eq
name_quick tw12540713548012372134 for S.findZ by S.findZ_eq
name_quick tw790365300219607850 for S.findZ by S.findZ_eq
name_quick tw17954736447514056666 for S.findZ by S.findZ_eq
name_quick tw487364732245791922 for S.findZ by S.findZ_eq
name_quick tw10308316962582663543 for S.findZ by S.findZ_eq
name_quick tw1102190903223815498 for S.findZ by S.findZ_eq
name_quick tw7729641633298002090 for S.findZ by S.findZ_eq
name_quick tw15157221202141545114 for S.findZ by S.findZ_eq
name_quick tw17719373434677690450 for S.findZ by S.findZ_eq
name_quick tw5068434257544371817 for S.findZ by S.findZ_eq
name_quick tw15736541856241217950 for S.findZ by S.findZ_eq
name_quick tw12170303376835216750 for S.findZ by S.findZ_eq
name_quick tw12807690338718825411 for S.findZ by S.findZ_eq
name_quick tw18011898689540126615 for S.findZ by S.findZ_eq
name_quick tw15194748194917737719 for S.findZ by S.findZ_eq
name_quick tw8732485361984058174 for S.findZ by S.findZ_eq
name_quick tw15271515629493726085 for S.findZ by S.findZ_eq
name_quick tw4936483359421988267 for S.findZ by S.findZ_eq
name_quick tw16648231224745350325 for S.findZ by S.findZ_eq
name_quick tw7344376507651311505 for S.findZ by S.findZ_eq
name_quick tw7112787868492120936 for S.findZ by S.findZ_eq
name_quick tw4549333791460862111 for S.findZ by S.findZ_eq
name_quick tw4681523508651956083 for S.findZ by S.findZ_eq
name_quick tw5310036984924271277 for S.findZ by S.findZ_eq
name_quick tw39160002569200845 for S.findZ by S.findZ_eq
name_quick tw11886712299990487620 for S.findZ by S.findZ_eq
name_quick tw447715330943862342 for S.findZ by S.findZ_eq
name_quick tw6213697211615256494 for S.findZ by S.findZ_eq
name_quick tw16835247145936305501 for S.findZ by S.findZ_eq
name_quick tw17341736924252097559 for S.findZ by S.findZ_eq
name_quick tw610167625130883901 for S.findZ by S.findZ_eq
name_quick tw10010936943081839664 for S.findZ by S.findZ_eq
name_quick tw8172093975534723114 for S.findZ by S.findZ_eq
name_quick tw16048576614497160029 for S.findZ by S.findZ_eq
name_quick tw14031254098957005024 for S.findZ by S.findZ_eq
name_quick tw11861152243698038893 for S.findZ by S.findZ_eq
name_quick tw6711915476519705758 for S.findZ by S.findZ_eq
name_quick tw5923252988546675246 for S.findZ by S.findZ_eq
name_quick tw5807050765050996992 for S.findZ by S.findZ_eq
name_quick tw6648157844845288826 for S.findZ by S.findZ_eq
name_quick tw16460519517873343938 for S.findZ by S.findZ_eq
name_quick tw9721856733848853292 for S.findZ by S.findZ_eq
name_quick tw5144633987255907666 for S.findZ by S.findZ_eq
name_quick tw12182807814244774211 for S.findZ by S.findZ_eq
name_quick tw17000155066101142889 for S.findZ by S.findZ_eq
name_quick tw12674565591061545060 for S.findZ by S.findZ_eq
name_quick tw4306451927003165895 for S.findZ by S.findZ_eq
name_quick tw6504275150365058295 for S.findZ by S.findZ_eq
name_quick tw10092856319447448734 for S.findZ by S.findZ_eq
name_quick tw1711657323119017317 for S.findZ by S.findZ_eq
name_quick tw14942985259670156941 for S.findZ by S.findZ_eq
name_quick tw8376441433122354887 for S.findZ by S.findZ_eq
name_quick tw16751196440357475278 for S.findZ by S.findZ_eq
name_quick tw2305325121136568689 for S.findZ by S.findZ_eq
name_quick tw563124612126607214 for S.findZ by S.findZ_eq
name_quick tw14834023430324568649 for S.findZ by S.findZ_eq
name_quick tw12233582284571471492 for S.findZ by S.findZ_eq
name_quick tw17069979004554194336 for S.findZ by S.findZ_eq
name_quick tw8164371507598914237 for S.findZ by S.findZ_eq
name_quick tw5736407798762289528 for S.findZ by S.findZ_eq
name_quick tw10475303700862453374 for S.findZ by S.findZ_eq
name_quick tw7276740287692124622 for S.findZ by S.findZ_eq
name_quick tw3891137856419664920 for S.findZ by S.findZ_eq
name_quick tw2571919107429820419 for S.findZ by S.findZ_eq
name_quick tw716658179208862652 for S.findZ by S.findZ_eq
name_quick tw6714822604882049554 for S.findZ by S.findZ_eq
name_quick tw17244072584429378644 for S.findZ by S.findZ_eq
name_quick tw15917270771655136656 for S.findZ by S.findZ_eq
name_quick tw15605440718772780007 for S.findZ by S.findZ_eq
name_quick tw13607416678640721797 for S.findZ by S.findZ_eq
name_quick tw12268644228514654432 for S.findZ by S.findZ_eq
name_quick tw17335170898614401699 for S.findZ by S.findZ_eq
name_quick tw5881240552750758400 for S.findZ by S.findZ_eq
name_quick tw7449101846280096545 for S.findZ by S.findZ_eq
name_quick tw937105155873367277 for S.findZ by S.findZ_eq
name_quick tw16309933130070103497 for S.findZ by S.findZ_eq
name_quick tw17394056326795013819 for S.findZ by S.findZ_eq
name_quick tw11333186260410459676 for S.findZ by S.findZ_eq
name_quick tw11629953924900746896 for S.findZ by S.findZ_eq
name_quick tw1617757218408452269 for S.findZ by S.findZ_eq
name_quick tw12825359941727978080 for S.findZ by S.findZ_eq
name_quick tw4430655021044022179 for S.findZ by S.findZ_eq
name_quick tw4275521005467322725 for S.findZ by S.findZ_eq
name_quick tw17071476683966804577 for S.findZ by S.findZ_eq
name_quick tw16039550372008468697 for S.findZ by S.findZ_eq
name_quick tw1370275717833778536 for S.findZ by S.findZ_eq
name_quick tw6012508502120743258 for S.findZ by S.findZ_eq
name_quick tw11625766737575182897 for S.findZ by S.findZ_eq
name_quick tw5978237884098788730 for S.findZ by S.findZ_eq
name_quick tw4748654258956052638 for S.findZ by S.findZ_eq
name_quick tw13721567128424951087 for S.findZ by S.findZ_eq
name_quick tw16947794391021106201 for S.findZ by S.findZ_eq
name_quick tw4319705520415482375 for S.findZ by S.findZ_eq
name_quick tw16817318245366136608 for S.findZ by S.findZ_eq
name_quick tw2408619945344806742 for S.findZ by S.findZ_eq
name_quick tw7783732958741208154 for S.findZ by S.findZ_eq
name_quick tw5823794197072137003 for S.findZ by S.findZ_eq
name_quick tw16413264400604254196 for S.findZ by S.findZ_eq
name_quick tw8649964590619651473 for S.findZ by S.findZ_eq
name_quick tw3256587380925597060 for S.findZ by S.findZ_eq
name_quick tw18350330562280901221 for S.findZ by S.findZ_eq
name_quick tw10619036274816975696 for S.findZ by S.findZ_eq
name_quick tw6448080314894763839 for S.findZ by S.findZ_eq
name_quick tw13215998728584607739 for S.findZ by S.findZ_eq
name_quick tw14273802060069496912 for S.findZ by S.findZ_eq
name_quick tw17344496456200356348 for S.findZ by S.findZ_eq
name_quick tw7808205228206232076 for S.findZ by S.findZ_eq
name_quick tw11636919720809706868 for S.findZ by S.findZ_eq
name_quick tw10833955939284561965 for S.findZ by S.findZ_eq
name_quick tw16950312913027304927 for S.findZ by S.findZ_eq
name_quick tw1829445100760108279 for S.findZ by S.findZ_eq
name_quick tw15007238320947547705 for S.findZ by S.findZ_eq
name_quick tw11137651959834898467 for S.findZ by S.findZ_eq
name_quick tw6122645084068987007 for S.findZ by S.findZ_eq
name_quick tw11729385059970357855 for S.findZ by S.findZ_eq
name_quick tw5998781340512891400 for S.findZ by S.findZ_eq
name_quick tw9948023125614773506 for S.findZ by S.findZ_eq
name_quick tw1536587703002861866 for S.findZ by S.findZ_eq
name_quick tw16241802466949684156 for S.findZ by S.findZ_eq
name_quick tw951843321253372498 for S.findZ by S.findZ_eq
name_quick tw10073347824450446311 for S.findZ by S.findZ_eq
name_quick tw11130039905162102590 for S.findZ by S.findZ_eq
name_quick tw17730428716208468724 for S.findZ by S.findZ_eq
name_quick tw13900631225919944168 for S.findZ by S.findZ_eq
name_quick tw6832808476680081064 for S.findZ by S.findZ_eq
name_quick tw10709196673778178906 for S.findZ by S.findZ_eq
name_quick tw1711367819467211730 for S.findZ by S.findZ_eq
name_quick tw11767421526060770920 for S.findZ by S.findZ_eq
name_quick tw9062771732600952553 for S.findZ by S.findZ_eq
name_quick tw8473563963867554017 for S.findZ by S.findZ_eq
name_quick tw17975652961387846372 for S.findZ by S.findZ_eq
name_quick tw7581352650102555174 for S.findZ by S.findZ_eq
name_quick tw8959964123841196786 for S.findZ by S.findZ_eq
name_quick tw7269565832213808900 for S.findZ by S.findZ_eq
name_quick tw15480198773659482676 for S.findZ by S.findZ_eq
name_quick tw17018628822417861297 for S.findZ by S.findZ_eq
name_quick tw10970087489707964778 for S.findZ by S.findZ_eq
name_quick tw1993567047419047990 for S.findZ by S.findZ_eq
name_quick tw7229665172594901996 for S.findZ by S.findZ_eq
name_quick tw8451552260295177759 for S.findZ by S.findZ_eq
name_quick tw3636048126100218174 for S.findZ by S.findZ_eq
name_quick tw17026713947507217902 for S.findZ by S.findZ_eq
name_quick tw11985326045990495214 for S.findZ by S.findZ_eq
name_quick tw12237943961548833269 for S.findZ by S.findZ_eq
name_quick tw3054071069301022655 for S.findZ by S.findZ_eq
name_quick tw16350708796919097252 for S.findZ by S.findZ_eq
name_quick tw4980102563643897964 for S.findZ by S.findZ_eq
name_quick tw5820445615435017067 for S.findZ by S.findZ_eq
name_quick tw4879560196417449868 for S.findZ by S.findZ_eq
name_quick tw3777755567575978352 for S.findZ by S.findZ_eq
name_quick tw7543618554067911206 for S.findZ by S.findZ_eq
name_quick tw16874561944515371726 for S.findZ by S.findZ_eq
name_quick tw11420187438672877268 for S.findZ by S.findZ_eq
name_quick tw8620020772036689432 for S.findZ by S.findZ_eq
name_quick tw1291980286583624508 for S.findZ by S.findZ_eq
name_quick tw14096952598973939363 for S.findZ by S.findZ_eq
name_quick tw1258717718454355964 for S.findZ by S.findZ_eq
name_quick tw18371169792594650754 for S.findZ by S.findZ_eq
name_quick tw7892128664451923741 for S.findZ by S.findZ_eq
name_quick tw15247426752500302083 for S.findZ by S.findZ_eq
name_quick tw8999186272805695465 for S.findZ by S.findZ_eq
name_quick tw14537914154153760125 for S.findZ by S.findZ_eq
name_quick tw13505292571300825877 for S.findZ by S.findZ_eq
name_quick tw13251646731365433171 for S.findZ by S.findZ_eq
name_quick tw2077871619930789226 for S.findZ by S.findZ_eq
name_quick tw9893030918988833448 for S.findZ by S.findZ_eq
name_quick tw7782445914667556100 for S.findZ by S.findZ_eq
name_quick tw9951705424602377420 for S.findZ by S.findZ_eq
name_quick tw5758256569797452207 for S.findZ by S.findZ_eq
name_quick tw17476080006546285661 for S.findZ by S.findZ_eq
name_quick tw10942035263794033107 for S.findZ by S.findZ_eq
name_quick tw2001226814458364393 for S.findZ by S.findZ_eq
name_quick tw16712280214892120555 for S.findZ by S.findZ_eq
name_quick tw15059462757989803610 for S.findZ by S.findZ_eq
name_quick tw4636218855388986860 for S.findZ by S.findZ_eq
name_quick tw2718901123391026995 for S.findZ by S.findZ_eq
name_quick tw13658505271682890234 for S.findZ by S.findZ_eq
name_quick tw17231944260260642093 for S.findZ by S.findZ_eq
name_quick tw14489655085307688843 for S.findZ by S.findZ_eq
name_quick tw13512673800721320934 for S.findZ by S.findZ_eq
name_quick tw7155543432591195943 for S.findZ by S.findZ_eq
name_quick tw494703546511474797 for S.findZ by S.findZ_eq
name_quick tw15562837088269578035 for S.findZ by S.findZ_eq
name_quick tw12377561305857167785 for S.findZ by S.findZ_eq
name_quick tw313226197891681235 for S.findZ by S.findZ_eq
name_quick tw17429684086410527887 for S.findZ by S.findZ_eq
name_quick tw9305466669911107070 for S.findZ by S.findZ_eq
name_quick tw15034313371233782410 for S.findZ by S.findZ_eq
name_quick tw16018607276475445134 for S.findZ by S.findZ_eq
name_quick tw17318589155259679147 for S.findZ by S.findZ_eq
name_quick tw3436264866546951355 for S.findZ by S.findZ_eq
name_quick tw9455686188066324210 for S.findZ by S.findZ_eq
name_quick tw6944952908185719654 for S.findZ by S.findZ_eq
name_quick tw2447921434856996015 for S.findZ by S.findZ_eq
name_quick tw1537898542681612871 for S.findZ by S.findZ_eq
name_quick tw11108263761283441063 for S.findZ by S.findZ_eq
name_quick tw14311459727803291754 for S.findZ by S.findZ_eq
name_quick tw5631866682500559305 for S.findZ by S.findZ_eq
name_quick tw14209830616999942402 for S.findZ by S.findZ_eq
name_quick tw15880737140895825463 for S.findZ by S.findZ_eq
name_quick tw9396933662098498411 for S.findZ by S.findZ_eq
name_quick tw6813294653679155843 for S.findZ by S.findZ_eq
name_quick tw1228064911786449325 for S.findZ by S.findZ_eq
name_quick tw13254397897704925713 for S.findZ by S.findZ_eq
name_quick tw489095991917526796 for S.findZ by S.findZ_eq
name_quick tw6224646082405213132 for S.findZ by S.findZ_eq
name_quick tw13776390136698705113 for S.findZ by S.findZ_eq
name_quick tw4405960384096086239 for S.findZ by S.findZ_eq
name_quick tw3427515755752030745 for S.findZ by S.findZ_eq
name_quick tw14186486079044719983 for S.findZ by S.findZ_eq
name_quick tw7165179329215463379 for S.findZ by S.findZ_eq
name_quick tw17274371674624000324 for S.findZ by S.findZ_eq
name_quick tw5357591511691535388 for S.findZ by S.findZ_eq
name_quick tw1708024556718086227 for S.findZ by S.findZ_eq
name_quick tw17238727255148662236 for S.findZ by S.findZ_eq
name_quick tw11891824955294080559 for S.findZ by S.findZ_eq
name_quick tw11186114360453789277 for S.findZ by S.findZ_eq
name_quick tw900395245841561262 for S.findZ by S.findZ_eq
name_quick tw6434265647005701932 for S.findZ by S.findZ_eq
name_quick tw11445135464325071761 for S.findZ by S.findZ_eq
name_quick tw4921902886906138986 for S.findZ by S.findZ_eq
name_quick tw9676229304581654039 for S.findZ by S.findZ_eq
name_quick tw17728961539438068574 for S.findZ by S.findZ_eq
name_quick tw3267979357774110234 for S.findZ by S.findZ_eq
name_quick tw7098571738820278039 for S.findZ by S.findZ_eq
name_quick tw1100353791813204450 for S.findZ by S.findZ_eq
name_quick tw1401972060568974870 for S.findZ by S.findZ_eq
name_quick tw2895304030280410150 for S.findZ by S.findZ_eq
name_quick tw8708707556590381134 for S.findZ by S.findZ_eq
name_quick tw16693541655264020344 for S.findZ by S.findZ_eq
name_quick tw14305139224198610471 for S.findZ by S.findZ_eq
name_quick tw8224813933742928703 for S.findZ by S.findZ_eq
name_quick tw17169101284591775605 for S.findZ by S.findZ_eq
name_quick tw3856783459128436802 for S.findZ by S.findZ_eq
name_quick tw8098380416015320538 for S.findZ by S.findZ_eq
name_quick tw7081425507203772304 for S.findZ by S.findZ_eq
name_quick tw16869277618539721502 for S.findZ by S.findZ_eq
name_quick tw15423634916342008072 for S.findZ by S.findZ_eq
name_quick tw17964007177503468958 for S.findZ by S.findZ_eq
name_quick tw7785048605280242668 for S.findZ by S.findZ_eq
name_quick tw17325535178939296128 for S.findZ by S.findZ_eq
name_quick tw11310463157757771331 for S.findZ by S.findZ_eq
name_quick tw9501820088010722379 for S.findZ by S.findZ_eq
name_quick tw6127375697748050860 for S.findZ by S.findZ_eq
name_quick tw4525517667737911620 for S.findZ by S.findZ_eq
name_quick tw13159241964716117882 for S.findZ by S.findZ_eq
name_quick tw9265879793445154701 for S.findZ by S.findZ_eq
name_quick tw3758773823038459598 for S.findZ by S.findZ_eq
name_quick tw3797612339304411714 for S.findZ by S.findZ_eq
name_quick tw15195428891847259777 for S.findZ by S.findZ_eq
name_quick tw6587116730350146372 for S.findZ by S.findZ_eq
name_quick tw4800724452203346748 for S.findZ by S.findZ_eq
name_quick tw4769018279307018242 for S.findZ by S.findZ_eq
name_quick tw13471316229770301743 for S.findZ by S.findZ_eq
name_quick tw12224578244612797663 for S.findZ by S.findZ_eq
name_quick tw18283703058932287227 for S.findZ by S.findZ_eq
name_quick tw12095823642532355627 for S.findZ by S.findZ_eq
name_quick tw5386766301290243201 for S.findZ by S.findZ_eq
name_quick tw16697116713213952808 for S.findZ by S.findZ_eq
name_quick tw3282434896037501709 for S.findZ by S.findZ_eq
name_quick tw608726401823008365 for S.findZ by S.findZ_eq
name_quick tw18310272354389090212 for S.findZ by S.findZ_eq
name_quick tw3783086151370532256 for S.findZ by S.findZ_eq
name_quick tw2118141222776746865 for S.findZ by S.findZ_eq
name_quick tw878741703135273975 for S.findZ by S.findZ_eq
name_quick tw2968979199505139716 for S.findZ by S.findZ_eq
name_quick tw3355348695024010778 for S.findZ by S.findZ_eq
name_quick tw16873187988247708562 for S.findZ by S.findZ_eq
name_quick tw15079194523842364033 for S.findZ by S.findZ_eq
name_quick tw3149940706203789266 for S.findZ by S.findZ_eq
name_quick tw9315938663221665524 for S.findZ by S.findZ_eq
name_quick tw4075660801711882420 for S.findZ by S.findZ_eq
name_quick tw9165568632223901487 for S.findZ by S.findZ_eq
name_quick tw5853609219237828028 for S.findZ by S.findZ_eq
name_quick tw5082074563857973206 for S.findZ by S.findZ_eq
name_quick tw1333364371103165705 for S.findZ by S.findZ_eq
name_quick tw1204117194425446250 for S.findZ by S.findZ_eq
name_quick tw9673203406766833760 for S.findZ by S.findZ_eq
name_quick tw11254254501726123291 for S.findZ by S.findZ_eq
name_quick tw6517296806544964722 for S.findZ by S.findZ_eq
name_quick tw5565278806992967083 for S.findZ by S.findZ_eq
name_quick tw219737044198020058 for S.findZ by S.findZ_eq
name_quick tw2922074901204462755 for S.findZ by S.findZ_eq
name_quick tw13642483538084851733 for S.findZ by S.findZ_eq
name_quick tw3373567504368509048 for S.findZ by S.findZ_eq
name_quick tw10767066097796618615 for S.findZ by S.findZ_eq
name_quick tw4407734736301137906 for S.findZ by S.findZ_eq
name_quick tw8603108125212654177 for S.findZ by S.findZ_eq
name_quick tw4264315005692455143 for S.findZ by S.findZ_eq
name_quick tw8432684481940611981 for S.findZ by S.findZ_eq
name_quick tw1423138165483278961 for S.findZ by S.findZ_eq
name_quick tw16861218917600885097 for S.findZ by S.findZ_eq
name_quick tw17888162413812561239 for S.findZ by S.findZ_eq
name_quick tw17300597898927385350 for S.findZ by S.findZ_eq
name_quick tw7652866986338317172 for S.findZ by S.findZ_eq
name_quick tw3398876845080916796 for S.findZ by S.findZ_eq
name_quick tw2460228577881660442 for S.findZ by S.findZ_eq
name_quick tw13615603153576403970 for S.findZ by S.findZ_eq
name_quick tw4039474712603431140 for S.findZ by S.findZ_eq
name_quick tw18247082017555167765 for S.findZ by S.findZ_eq
name_quick tw8881496252177385917 for S.findZ by S.findZ_eq
name_quick tw16741492637210864865 for S.findZ by S.findZ_eq
name_quick tw4187477659947935285 for S.findZ by S.findZ_eq
name_quick tw724751600484774222 for S.findZ by S.findZ_eq
name_quick tw12989987162080215863 for S.findZ by S.findZ_eq
name_quick tw5410153933605578482 for S.findZ by S.findZ_eq
name_quick tw11166942722945506595 for S.findZ by S.findZ_eq
name_quick tw11838138170533393997 for S.findZ by S.findZ_eq
name_quick tw2283851925072248500 for S.findZ by S.findZ_eq
name_quick tw17954471519018878134 for S.findZ by S.findZ_eq
name_quick tw4302124980754421698 for S.findZ by S.findZ_eq
name_quick tw7483462131439158144 for S.findZ by S.findZ_eq
name_quick tw10205541121877940668 for S.findZ by S.findZ_eq
name_quick tw16432479971616331241 for S.findZ by S.findZ_eq
name_quick tw12526863579885937616 for S.findZ by S.findZ_eq
name_quick tw11518781747449614426 for S.findZ by S.findZ_eq
name_quick tw8552093678088426289 for S.findZ by S.findZ_eq
name_quick tw7365555872484859036 for S.findZ by S.findZ_eq
name_quick tw12809422525583811893 for S.findZ by S.findZ_eq
name_quick tw12393455550290869266 for S.findZ by S.findZ_eq
name_quick tw14190725551584542720 for S.findZ by S.findZ_eq
name_quick tw17828083071136270317 for S.findZ by S.findZ_eq
name_quick tw6076076219008924368 for S.findZ by S.findZ_eq
name_quick tw16495559152270511615 for S.findZ by S.findZ_eq
name_quick tw8703263022893421829 for S.findZ by S.findZ_eq
name_quick tw1257650718994608863 for S.findZ by S.findZ_eq
name_quick tw13169248704851481478 for S.findZ by S.findZ_eq
name_quick tw8017206721242287953 for S.findZ by S.findZ_eq
name_quick tw9249553802937061307 for S.findZ by S.findZ_eq
name_quick tw3325841961599345399 for S.findZ by S.findZ_eq
name_quick tw6179359751918216688 for S.findZ by S.findZ_eq
name_quick tw503676674663206642 for S.findZ by S.findZ_eq
name_quick tw1620339239838986703 for S.findZ by S.findZ_eq
name_quick tw12945968074294007009 for S.findZ by S.findZ_eq
name_quick tw14553827428707814869 for S.findZ by S.findZ_eq
name_quick tw3039592710220408265 for S.findZ by S.findZ_eq
name_quick tw16865151637890581275 for S.findZ by S.findZ_eq
name_quick tw9492235034089005946 for S.findZ by S.findZ_eq
name_quick tw16406328271908756883 for S.findZ by S.findZ_eq
name_quick tw558745408833754511 for S.findZ by S.findZ_eq
name_quick tw10190238754879171395 for S.findZ by S.findZ_eq
name_quick tw1690735587144091376 for S.findZ by S.findZ_eq
name_quick tw14108194823987119177 for S.findZ by S.findZ_eq
name_quick tw15323854079317868165 for S.findZ by S.findZ_eq
name_quick tw14837249469386935497 for S.findZ by S.findZ_eq
name_quick tw13141144453892091621 for S.findZ by S.findZ_eq
name_quick tw7692015426583400375 for S.findZ by S.findZ_eq
name_quick tw2674190319118857908 for S.findZ by S.findZ_eq
name_quick tw4933834842325187142 for S.findZ by S.findZ_eq
name_quick tw12734952128020822468 for S.findZ by S.findZ_eq
name_quick tw10938465397075749097 for S.findZ by S.findZ_eq
name_quick tw9736788993784561348 for S.findZ by S.findZ_eq
name_quick tw3118938333895590913 for S.findZ by S.findZ_eq
name_quick tw12049575158971614909 for S.findZ by S.findZ_eq
name_quick tw14858287094103624389 for S.findZ by S.findZ_eq
name_quick tw11682084944484805031 for S.findZ by S.findZ_eq
name_quick tw13903129631018457399 for S.findZ by S.findZ_eq
name_quick tw667198328695590252 for S.findZ by S.findZ_eq
name_quick tw11786184479649081736 for S.findZ by S.findZ_eq
name_quick tw13314330512976039754 for S.findZ by S.findZ_eq
name_quick tw10093032338203421213 for S.findZ by S.findZ_eq
name_quick tw3488208955921114670 for S.findZ by S.findZ_eq
name_quick tw148260917463534702 for S.findZ by S.findZ_eq
name_quick tw9794667896261083176 for S.findZ by S.findZ_eq
name_quick tw16127339712140622707 for S.findZ by S.findZ_eq
name_quick tw10566222408779648918 for S.findZ by S.findZ_eq
name_quick tw14223099787259518943 for S.findZ by S.findZ_eq
name_quick tw18163708392712065173 for S.findZ by S.findZ_eq
name_quick tw13951257522405164796 for S.findZ by S.findZ_eq
name_quick tw12456492676567594705 for S.findZ by S.findZ_eq
name_quick tw17803129079492736432 for S.findZ by S.findZ_eq
name_quick tw950723637873067451 for S.findZ by S.findZ_eq
name_quick tw8385612375773290118 for S.findZ by S.findZ_eq
name_quick tw9515652053505349548 for S.findZ by S.findZ_eq
name_quick tw4507309187265873474 for S.findZ by S.findZ_eq
name_quick tw8621552478659558853 for S.findZ by S.findZ_eq
name_quick tw3302314484089059179 for S.findZ by S.findZ_eq
name_quick tw7641510929779896126 for S.findZ by S.findZ_eq
name_quick tw4966893808263662355 for S.findZ by S.findZ_eq
name_quick tw10589684114461592954 for S.findZ by S.findZ_eq
name_quick tw16723424844129597499 for S.findZ by S.findZ_eq
name_quick tw10846213317406478298 for S.findZ by S.findZ_eq
name_quick tw10919533547850550483 for S.findZ by S.findZ_eq
name_quick tw10964334890339321822 for S.findZ by S.findZ_eq
name_quick tw5706481520468235054 for S.findZ by S.findZ_eq
name_quick tw8595292554425487202 for S.findZ by S.findZ_eq
name_quick tw1944293319124727847 for S.findZ by S.findZ_eq
name_quick tw2506853364499732696 for S.findZ by S.findZ_eq
name_quick tw16548257151911338427 for S.findZ by S.findZ_eq
name_quick tw6636956529411117187 for S.findZ by S.findZ_eq
name_quick tw5607064600570693084 for S.findZ by S.findZ_eq
name_quick tw5925582254088234700 for S.findZ by S.findZ_eq
name_quick tw1574873078441994576 for S.findZ by S.findZ_eq
name_quick tw9076128300344869771 for S.findZ by S.findZ_eq
name_quick tw14981143343336467331 for S.findZ by S.findZ_eq
name_quick tw6929956602132211858 for S.findZ by S.findZ_eq
name_quick tw17679261114430710190 for S.findZ by S.findZ_eq
name_quick tw7461879971939330490 for S.findZ by S.findZ_eq
name_quick tw10010511219673018494 for S.findZ by S.findZ_eq
name_quick tw16439824349840649037 for S.findZ by S.findZ_eq
name_quick tw16979880578912567463 for S.findZ by S.findZ_eq
name_quick tw13236226663087606529 for S.findZ by S.findZ_eq
name_quick tw12981051755390344553 for S.findZ by S.findZ_eq
name_quick tw2334299552400917057 for S.findZ by S.findZ_eq
name_quick tw16339471991904476338 for S.findZ by S.findZ_eq
name_quick tw3577408171920636059 for S.findZ by S.findZ_eq
name_quick tw325292655437039998 for S.findZ by S.findZ_eq
name_quick tw14323765505736481980 for S.findZ by S.findZ_eq
name_quick tw16451151925259046446 for S.findZ by S.findZ_eq
name_quick tw1107438419126420414 for S.findZ by S.findZ_eq
name_quick tw12973657651903071711 for S.findZ by S.findZ_eq
name_quick tw12392613427281201732 for S.findZ by S.findZ_eq
name_quick tw12877114100897624224 for S.findZ by S.findZ_eq
name_quick tw14265314264860633672 for S.findZ by S.findZ_eq
name_quick tw392140993173905013 for S.findZ by S.findZ_eq
name_quick tw18056578402003937789 for S.findZ by S.findZ_eq
name_quick tw10352308551163946355 for S.findZ by S.findZ_eq
name_quick tw15983881195869794717 for S.findZ by S.findZ_eq
name_quick tw9868982950595657695 for S.findZ by S.findZ_eq
name_quick tw14934708107589980039 for S.findZ by S.findZ_eq
name_quick tw7286323032743288035 for S.findZ by S.findZ_eq
name_quick tw13156168479132978002 for S.findZ by S.findZ_eq
name_quick tw10029231156530900338 for S.findZ by S.findZ_eq
name_quick tw6993175162768986339 for S.findZ by S.findZ_eq
name_quick tw912392155897948271 for S.findZ by S.findZ_eq
name_quick tw14874922208557711187 for S.findZ by S.findZ_eq
name_quick tw14285374257681291273 for S.findZ by S.findZ_eq
name_quick tw8180830640274347804 for S.findZ by S.findZ_eq
name_quick tw13775618736486673144 for S.findZ by S.findZ_eq
name_quick tw8488268690174267210 for S.findZ by S.findZ_eq
name_quick tw15490439104401381959 for S.findZ by S.findZ_eq
name_quick tw5550314157272711993 for S.findZ by S.findZ_eq
name_quick tw16643706677886111943 for S.findZ by S.findZ_eq
name_quick tw18416463498863911781 for S.findZ by S.findZ_eq
name_quick tw6698160770425034372 for S.findZ by S.findZ_eq
name_quick tw16145008321745377990 for S.findZ by S.findZ_eq
name_quick tw10887116778572429059 for S.findZ by S.findZ_eq
name_quick tw9087420756778563785 for S.findZ by S.findZ_eq
name_quick tw17183712847048597117 for S.findZ by S.findZ_eq
name_quick tw5315457868209417068 for S.findZ by S.findZ_eq
name_quick tw11892598404827812706 for S.findZ by S.findZ_eq
name_quick tw8047484207015712433 for S.findZ by S.findZ_eq
name_quick tw1419416864934026935 for S.findZ by S.findZ_eq
name_quick tw894076849921957361 for S.findZ by S.findZ_eq
name_quick tw14588557730865908194 for S.findZ by S.findZ_eq
name_quick tw10719484529398299949 for S.findZ by S.findZ_eq
name_quick tw9720828393056574044 for S.findZ by S.findZ_eq
name_quick tw17497748084772794779 for S.findZ by S.findZ_eq
name_quick tw4733837786962973091 for S.findZ by S.findZ_eq
name_quick tw4071324889030633612 for S.findZ by S.findZ_eq
name_quick tw5854881644878751223 for S.findZ by S.findZ_eq
name_quick tw5423003317807263696 for S.findZ by S.findZ_eq
name_quick tw12172078356533094185 for S.findZ by S.findZ_eq
name_quick tw4978915544186085027 for S.findZ by S.findZ_eq
name_quick tw3131671291697673992 for S.findZ by S.findZ_eq
name_quick tw396607853666888187 for S.findZ by S.findZ_eq
name_quick tw662354867322794072 for S.findZ by S.findZ_eq
name_quick tw272414042388314806 for S.findZ by S.findZ_eq
name_quick tw1631149150583789468 for S.findZ by S.findZ_eq
name_quick tw15112985482279097393 for S.findZ by S.findZ_eq
name_quick tw7670514497116975361 for S.findZ by S.findZ_eq
name_quick tw15900120412870309639 for S.findZ by S.findZ_eq
name_quick tw8328094057196393916 for S.findZ by S.findZ_eq
name_quick tw12635297910168745909 for S.findZ by S.findZ_eq
name_quick tw2735471455948067141 for S.findZ by S.findZ_eq
name_quick tw9136488742655976645 for S.findZ by S.findZ_eq
name_quick tw18340240734955500558 for S.findZ by S.findZ_eq
name_quick tw4091194055036891139 for S.findZ by S.findZ_eq
name_quick tw4594841794817819559 for S.findZ by S.findZ_eq
name_quick tw1410096668721982599 for S.findZ by S.findZ_eq
name_quick tw3460871413274159568 for S.findZ by S.findZ_eq
name_quick tw7074542288925894100 for S.findZ by S.findZ_eq
name_quick tw2958062672499776758 for S.findZ by S.findZ_eq
name_quick tw12599741558188205749 for S.findZ by S.findZ_eq
name_quick tw13902233598862641821 for S.findZ by S.findZ_eq
name_quick tw13871001218405608335 for S.findZ by S.findZ_eq
name_quick tw16737559591592110954 for S.findZ by S.findZ_eq
name_quick tw16645262185327669138 for S.findZ by S.findZ_eq
name_quick tw4287028408620065468 for S.findZ by S.findZ_eq
name_quick tw15980859228951719591 for S.findZ by S.findZ_eq
name_quick tw17532440430192770315 for S.findZ by S.findZ_eq
name_quick tw4183877074749451670 for S.findZ by S.findZ_eq
name_quick tw1763209079605825380 for S.findZ by S.findZ_eq
name_quick tw8459811325457737761 for S.findZ by S.findZ_eq
name_quick tw18200712748503757919 for S.findZ by S.findZ_eq
name_quick tw15300170045991075079 for S.findZ by S.findZ_eq
name_quick tw13559156169165276386 for S.findZ by S.findZ_eq
name_quick tw6182678533730793537 for S.findZ by S.findZ_eq
name_quick tw13816233472422033322 for S.findZ by S.findZ_eq
name_quick tw2088498060469179804 for S.findZ by S.findZ_eq
name_quick tw3889259530307233657 for S.findZ by S.findZ_eq
name_quick tw16258813485015810305 for S.findZ by S.findZ_eq
name_quick tw6967401301877209104 for S.findZ by S.findZ_eq
name_quick tw3735880847841164279 for S.findZ by S.findZ_eq
name_quick tw4665496328224945229 for S.findZ by S.findZ_eq
name_quick tw2670528217467546775 for S.findZ by S.findZ_eq
name_quick tw2951486255847992690 for S.findZ by S.findZ_eq
name_quick tw12679591844961189642 for S.findZ by S.findZ_eq
name_quick tw12828332729040242785 for S.findZ by S.findZ_eq
name_quick tw14766643958189025262 for S.findZ by S.findZ_eq
name_quick tw12850107946570832962 for S.findZ by S.findZ_eq
name_quick tw13471461260053382970 for S.findZ by S.findZ_eq
name_quick tw2478078296215019888 for S.findZ by S.findZ_eq
name_quick tw15773981995205291829 for S.findZ by S.findZ_eq
name_quick tw4292500188555128830 for S.findZ by S.findZ_eq
name_quick tw8206430501311747189 for S.findZ by S.findZ_eq
name_quick tw4949472239710415697 for S.findZ by S.findZ_eq
name_quick tw12513138341781932208 for S.findZ by S.findZ_eq
name_quick tw17730448691065144110 for S.findZ by S.findZ_eq
name_quick tw2664551874359636763 for S.findZ by S.findZ_eq
name_quick tw347637069881736656 for S.findZ by S.findZ_eq
name_quick tw17041471163203698717 for S.findZ by S.findZ_eq
name_quick tw16758808235637498351 for S.findZ by S.findZ_eq
name_quick tw1481926694345511941 for S.findZ by S.findZ_eq
name_quick tw4172830789200971933 for S.findZ by S.findZ_eq
name_quick tw4318056027017086478 for S.findZ by S.findZ_eq
name_quick tw1638017585896720355 for S.findZ by S.findZ_eq
name_quick tw11543483234476862875 for S.findZ by S.findZ_eq
name_quick tw10819683100428557426 for S.findZ by S.findZ_eq
name_quick tw14427280190107063356 for S.findZ by S.findZ_eq
name_quick tw8540232549379673566 for S.findZ by S.findZ_eq
name_quick tw18260038339965228139 for S.findZ by S.findZ_eq
name_quick tw2883484788219351825 for S.findZ by S.findZ_eq
name_quick tw7733015712792483723 for S.findZ by S.findZ_eq
name_quick tw15103234261437856402 for S.findZ by S.findZ_eq
name_quick tw1402947280878808549 for S.findZ by S.findZ_eq
name_quick tw15067931366933112725 for S.findZ by S.findZ_eq
name_quick tw10028428298569065181 for S.findZ by S.findZ_eq
name_quick tw15598799602833418400 for S.findZ by S.findZ_eq
name_quick tw11036193050239951465 for S.findZ by S.findZ_eq
name_quick tw2302674139485633275 for S.findZ by S.findZ_eq
name_quick tw16296994325663420285 for S.findZ by S.findZ_eq
name_quick tw2315820567201803617 for S.findZ by S.findZ_eq
name_quick tw4824431525194463578 for S.findZ by S.findZ_eq
name_quick tw13451486832001684981 for S.findZ by S.findZ_eq
name_quick tw10058976618658966374 for S.findZ by S.findZ_eq
name_quick tw12227490674122928909 for S.findZ by S.findZ_eq
name_quick tw10030586065758793078 for S.findZ by S.findZ_eq
name_quick tw5994239182223829532 for S.findZ by S.findZ_eq
name_quick tw12913785700363492387 for S.findZ by S.findZ_eq
name_quick tw4613930686462287906 for S.findZ by S.findZ_eq
name_quick tw2193789692954389824 for S.findZ by S.findZ_eq
name_quick tw13833065179229638619 for S.findZ by S.findZ_eq
name_quick tw17765544955259793912 for S.findZ by S.findZ_eq
name_quick tw4552823106982906706 for S.findZ by S.findZ_eq
name_quick tw11957962974430299695 for S.findZ by S.findZ_eq
name_quick tw10650810973499830745 for S.findZ by S.findZ_eq
name_quick tw18466492976756830 for S.findZ by S.findZ_eq
name_quick tw2039238271031011813 for S.findZ by S.findZ_eq
name_quick tw2078703811421203504 for S.findZ by S.findZ_eq
name_quick tw13759679279233594173 for S.findZ by S.findZ_eq
name_quick tw12577023982554244617 for S.findZ by S.findZ_eq
name_quick tw10706342367453228570 for S.findZ by S.findZ_eq
name_quick tw139799656371268569 for S.findZ by S.findZ_eq
name_quick tw2447775223705975068 for S.findZ by S.findZ_eq
name_quick tw6917869754434977982 for S.findZ by S.findZ_eq
name_quick tw6900397732965128853 for S.findZ by S.findZ_eq
name_quick tw7957090006295546105 for S.findZ by S.findZ_eq
name_quick tw11277413387252134812 for S.findZ by S.findZ_eq
name_quick tw11433066937589102482 for S.findZ by S.findZ_eq
name_quick tw16148938690769344688 for S.findZ by S.findZ_eq
name_quick tw1869930749605803152 for S.findZ by S.findZ_eq
name_quick tw11495947367809530248 for S.findZ by S.findZ_eq
name_quick tw15542503528162795033 for S.findZ by S.findZ_eq
name_quick tw13951202360752479828 for S.findZ by S.findZ_eq
name_quick tw4679858250743294509 for S.findZ by S.findZ_eq
name_quick tw13329733208086693882 for S.findZ by S.findZ_eq
name_quick tw15902184279288820625 for S.findZ by S.findZ_eq
name_quick tw7976981314885711489 for S.findZ by S.findZ_eq
name_quick tw7950560144509940271 for S.findZ by S.findZ_eq
name_quick tw16846860572762119324 for S.findZ by S.findZ_eq
name_quick tw17768419659990539469 for S.findZ by S.findZ_eq
name_quick tw1189118826323900759 for S.findZ by S.findZ_eq
name_quick tw6952355047532471503 for S.findZ by S.findZ_eq
name_quick tw9908251947323293946 for S.findZ by S.findZ_eq
name_quick tw18345786424863182364 for S.findZ by S.findZ_eq
name_quick tw5127043949985792152 for S.findZ by S.findZ_eq
name_quick tw505943868828395459 for S.findZ by S.findZ_eq
name_quick tw6624491594363574236 for S.findZ by S.findZ_eq
name_quick tw9407582987413476825 for S.findZ by S.findZ_eq
name_quick tw6792406925840432001 for S.findZ by S.findZ_eq
name_quick tw1157545019965518967 for S.findZ by S.findZ_eq
name_quick tw10670733350059645105 for S.findZ by S.findZ_eq
name_quick tw8588708647495961459 for S.findZ by S.findZ_eq
name_quick tw17520869792638436183 for S.findZ by S.findZ_eq
name_quick tw9235277983596991582 for S.findZ by S.findZ_eq
name_quick tw5555313912996828296 for S.findZ by S.findZ_eq
name_quick tw8800560270773162519 for S.findZ by S.findZ_eq
name_quick tw17943406268862710625 for S.findZ by S.findZ_eq
name_quick tw1092655722715705105 for S.findZ by S.findZ_eq
name_quick tw5247225353297040015 for S.findZ by S.findZ_eq
name_quick tw3327986453032591115 for S.findZ by S.findZ_eq
name_quick tw9763268239775435451 for S.findZ by S.findZ_eq
name_quick tw14920864480051887209 for S.findZ by S.findZ_eq
name_quick tw16243683426749602078 for S.findZ by S.findZ_eq
name_quick tw14420389602138693270 for S.findZ by S.findZ_eq
name_quick tw14168537005229113720 for S.findZ by S.findZ_eq
name_quick tw3633577522364906407 for S.findZ by S.findZ_eq
name_quick tw3736136724727406031 for S.findZ by S.findZ_eq
name_quick tw618205885557783147 for S.findZ by S.findZ_eq
name_quick tw14224011070414065920 for S.findZ by S.findZ_eq
name_quick tw17207840028585114417 for S.findZ by S.findZ_eq
name_quick tw6213141578215901147 for S.findZ by S.findZ_eq
name_quick tw5697894365363955025 for S.findZ by S.findZ_eq
name_quick tw13142473509193869113 for S.findZ by S.findZ_eq
name_quick tw2037417660504910701 for S.findZ by S.findZ_eq
name_quick tw6551367506479906963 for S.findZ by S.findZ_eq
name_quick tw11298729390765005132 for S.findZ by S.findZ_eq
name_quick tw16349216596472256690 for S.findZ by S.findZ_eq
name_quick tw1930203975799679532 for S.findZ by S.findZ_eq
name_quick tw17774800907425398282 for S.findZ by S.findZ_eq
name_quick tw7191607858210974391 for S.findZ by S.findZ_eq
name_quick tw17913803186225011329 for S.findZ by S.findZ_eq
name_quick tw6090905460779295987 for S.findZ by S.findZ_eq
name_quick tw17172517015917474193 for S.findZ by S.findZ_eq
name_quick tw6234664779796018075 for S.findZ by S.findZ_eq
name_quick tw5111356299099525756 for S.findZ by S.findZ_eq
name_quick tw5815302876190815700 for S.findZ by S.findZ_eq
name_quick tw8693227569615203950 for S.findZ by S.findZ_eq
name_quick tw9821368406582625841 for S.findZ by S.findZ_eq
name_quick tw17000756265888016 for S.findZ by S.findZ_eq
name_quick tw12985358249318526461 for S.findZ by S.findZ_eq
name_quick tw7582166717755450365 for S.findZ by S.findZ_eq
name_quick tw11939915149646268982 for S.findZ by S.findZ_eq
name_quick tw8642067239939848140 for S.findZ by S.findZ_eq
name_quick tw14821650378409806113 for S.findZ by S.findZ_eq
name_quick tw11013792430000457035 for S.findZ by S.findZ_eq
name_quick tw5832503352825792928 for S.findZ by S.findZ_eq
name_quick tw8229689697521897066 for S.findZ by S.findZ_eq
name_quick tw932993149863042379 for S.findZ by S.findZ_eq
name_quick tw5518745428033880147 for S.findZ by S.findZ_eq
name_quick tw5512085447785999860 for S.findZ by S.findZ_eq
name_quick tw7585139358526817783 for S.findZ by S.findZ_eq
name_quick tw17955133630450735404 for S.findZ by S.findZ_eq
name_quick tw6580340599500149305 for S.findZ by S.findZ_eq
name_quick tw2614552105083212210 for S.findZ by S.findZ_eq
name_quick tw13650077344797733491 for S.findZ by S.findZ_eq
name_quick tw4011157648589011858 for S.findZ by S.findZ_eq
name_quick tw11462045893675790159 for S.findZ by S.findZ_eq
name_quick tw17537794083376710389 for S.findZ by S.findZ_eq
name_quick tw6683783046931543321 for S.findZ by S.findZ_eq
name_quick tw13902060940116135572 for S.findZ by S.findZ_eq
name_quick tw4797165386629745026 for S.findZ by S.findZ_eq
name_quick tw16189536214700107852 for S.findZ by S.findZ_eq
name_quick tw12022618010286034681 for S.findZ by S.findZ_eq
name_quick tw17434858337260393937 for S.findZ by S.findZ_eq
name_quick tw7573151900890175926 for S.findZ by S.findZ_eq
name_quick tw10057510723706494237 for S.findZ by S.findZ_eq
name_quick tw1305609685974793870 for S.findZ by S.findZ_eq
name_quick tw4724670654266164199 for S.findZ by S.findZ_eq
name_quick tw13070384816801012346 for S.findZ by S.findZ_eq
name_quick tw18263319221461684349 for S.findZ by S.findZ_eq
name_quick tw7499937903120025604 for S.findZ by S.findZ_eq
name_quick tw14126943448341045398 for S.findZ by S.findZ_eq
name_quick tw470574548607681690 for S.findZ by S.findZ_eq
name_quick tw11452132507678324671 for S.findZ by S.findZ_eq
name_quick tw18123110421147349612 for S.findZ by S.findZ_eq
name_quick tw10647819351689358120 for S.findZ by S.findZ_eq
name_quick tw3560238982266916124 for S.findZ by S.findZ_eq
name_quick tw14073706353221006472 for S.findZ by S.findZ_eq
name_quick tw13678640442995254988 for S.findZ by S.findZ_eq
name_quick tw17596809139577655471 for S.findZ by S.findZ_eq
name_quick tw16417370028952169744 for S.findZ by S.findZ_eq
name_quick tw16223305294053301992 for S.findZ by S.findZ_eq
name_quick tw11882390891050353253 for S.findZ by S.findZ_eq
name_quick tw14023627001141898710 for S.findZ by S.findZ_eq
name_quick tw7386744729831018872 for S.findZ by S.findZ_eq
name_quick tw293829605474521371 for S.findZ by S.findZ_eq
name_quick tw9862997608875712007 for S.findZ by S.findZ_eq
name_quick tw17370054149142409183 for S.findZ by S.findZ_eq
name_quick tw884248653220910886 for S.findZ by S.findZ_eq
name_quick tw13180171748994924942 for S.findZ by S.findZ_eq
name_quick tw9248541637817142097 for S.findZ by S.findZ_eq
name_quick tw15894407043143930727 for S.findZ by S.findZ_eq
name_quick tw10939839348159177617 for S.findZ by S.findZ_eq
name_quick tw13925586954763233925 for S.findZ by S.findZ_eq
name_quick tw16942504070071679284 for S.findZ by S.findZ_eq
name_quick tw18350638575300117064 for S.findZ by S.findZ_eq
name_quick tw6357409834272390260 for S.findZ by S.findZ_eq
name_quick tw7231524377534056507 for S.findZ by S.findZ_eq
name_quick tw15263041282635125899 for S.findZ by S.findZ_eq
name_quick tw14778209649434054790 for S.findZ by S.findZ_eq
name_quick tw15215539614974913122 for S.findZ by S.findZ_eq
name_quick tw13853819408611901635 for S.findZ by S.findZ_eq
name_quick tw7405434945208526273 for S.findZ by S.findZ_eq
name_quick tw4224760802259116069 for S.findZ by S.findZ_eq
name_quick tw1735007293439650466 for S.findZ by S.findZ_eq
name_quick tw17804436615005485693 for S.findZ by S.findZ_eq
name_quick tw12659028871203227004 for S.findZ by S.findZ_eq
name_quick tw17233024954070867409 for S.findZ by S.findZ_eq
name_quick tw13036272033356848781 for S.findZ by S.findZ_eq
name_quick tw11328821685186248670 for S.findZ by S.findZ_eq
name_quick tw11270796479367742343 for S.findZ by S.findZ_eq
name_quick tw13981391230805400906 for S.findZ by S.findZ_eq
name_quick tw930746551332336609 for S.findZ by S.findZ_eq
name_quick tw16729788964589934307 for S.findZ by S.findZ_eq
name_quick tw136631920214876835 for S.findZ by S.findZ_eq
name_quick tw8815187840785991937 for S.findZ by S.findZ_eq
name_quick tw14326252917377295143 for S.findZ by S.findZ_eq
name_quick tw3825061337978711158 for S.findZ by S.findZ_eq
name_quick tw3229698128091672885 for S.findZ by S.findZ_eq
name_quick tw6654550962395885724 for S.findZ by S.findZ_eq
name_quick tw9759809726879904816 for S.findZ by S.findZ_eq
name_quick tw6268969693082757200 for S.findZ by S.findZ_eq
name_quick tw6123655918767846522 for S.findZ by S.findZ_eq
name_quick tw18099695126128789690 for S.findZ by S.findZ_eq
name_quick tw1393629259489396696 for S.findZ by S.findZ_eq
name_quick tw8253183596043897158 for S.findZ by S.findZ_eq
name_quick tw14185684948912167051 for S.findZ by S.findZ_eq
name_quick tw3470799630455053000 for S.findZ by S.findZ_eq
name_quick tw16414604833108395602 for S.findZ by S.findZ_eq
name_quick tw16349804527192203551 for S.findZ by S.findZ_eq
name_quick tw5862295025349918931 for S.findZ by S.findZ_eq
name_quick tw15450981722951097364 for S.findZ by S.findZ_eq
name_quick tw17015423121036801654 for S.findZ by S.findZ_eq
name_quick tw3820604794100220378 for S.findZ by S.findZ_eq
name_quick tw7788680626742099145 for S.findZ by S.findZ_eq
name_quick tw5200128776193632040 for S.findZ by S.findZ_eq
name_quick tw4888971946704870899 for S.findZ by S.findZ_eq
name_quick tw1377046205977697930 for S.findZ by S.findZ_eq
name_quick tw5425108064043664162 for S.findZ by S.findZ_eq
name_quick tw10320149354908582346 for S.findZ by S.findZ_eq
name_quick tw9564595351457756722 for S.findZ by S.findZ_eq
name_quick tw6380782515089751550 for S.findZ by S.findZ_eq
name_quick tw12359285113459375979 for S.findZ by S.findZ_eq
name_quick tw9305782018832362445 for S.findZ by S.findZ_eq
name_quick tw387338674003428930 for S.findZ by S.findZ_eq
name_quick tw17001327861769816259 for S.findZ by S.findZ_eq
name_quick tw15224661121926592747 for S.findZ by S.findZ_eq
name_quick tw7824674403005707151 for S.findZ by S.findZ_eq
name_quick tw5135500740108067664 for S.findZ by S.findZ_eq
name_quick tw3826639566459466600 for S.findZ by S.findZ_eq
name_quick tw3880421473898291048 for S.findZ by S.findZ_eq
name_quick tw14433975572909055671 for S.findZ by S.findZ_eq
name_quick tw17024950926791866790 for S.findZ by S.findZ_eq
name_quick tw5268983451555188008 for S.findZ by S.findZ_eq
name_quick tw14971970265804392439 for S.findZ by S.findZ_eq
name_quick tw9130231340562597213 for S.findZ by S.findZ_eq
name_quick tw3094477031063562474 for S.findZ by S.findZ_eq
name_quick tw5732905514179830355 for S.findZ by S.findZ_eq
name_quick tw1772237422875290029 for S.findZ by S.findZ_eq
name_quick tw7650934615059315214 for S.findZ by S.findZ_eq
name_quick tw12290603225136948437 for S.findZ by S.findZ_eq
name_quick tw389472881494512206 for S.findZ by S.findZ_eq
name_quick tw4466658021391931909 for S.findZ by S.findZ_eq
name_quick tw7802139600951554647 for S.findZ by S.findZ_eq
name_quick tw10500077913531017323 for S.findZ by S.findZ_eq
name_quick tw14214133299417103183 for S.findZ by S.findZ_eq
name_quick tw17045043414572947948 for S.findZ by S.findZ_eq
name_quick tw1468114885665857710 for S.findZ by S.findZ_eq
name_quick tw18211773271919218964 for S.findZ by S.findZ_eq
name_quick tw6834602518627153040 for S.findZ by S.findZ_eq
name_quick tw13551572312386263098 for S.findZ by S.findZ_eq
name_quick tw7035115661146626270 for S.findZ by S.findZ_eq
name_quick tw9577309144901391297 for S.findZ by S.findZ_eq
name_quick tw15542691292777871779 for S.findZ by S.findZ_eq
name_quick tw10508251915553800215 for S.findZ by S.findZ_eq
name_quick tw4966674849315620570 for S.findZ by S.findZ_eq
name_quick tw8987815912523675519 for S.findZ by S.findZ_eq
name_quick tw12813236842856870187 for S.findZ by S.findZ_eq
name_quick tw14386061602966655976 for S.findZ by S.findZ_eq
name_quick tw6142071019320080357 for S.findZ by S.findZ_eq
name_quick tw17863021456227041891 for S.findZ by S.findZ_eq
name_quick tw117213463901210413 for S.findZ by S.findZ_eq
name_quick tw15742981410569661332 for S.findZ by S.findZ_eq
name_quick tw10317580896714288900 for S.findZ by S.findZ_eq
name_quick tw4775785305629353868 for S.findZ by S.findZ_eq
name_quick tw14530364306720264245 for S.findZ by S.findZ_eq
name_quick tw1156252341971683116 for S.findZ by S.findZ_eq
name_quick tw5902227825499142635 for S.findZ by S.findZ_eq
name_quick tw16655555454665732581 for S.findZ by S.findZ_eq
name_quick tw8989982439271903415 for S.findZ by S.findZ_eq
name_quick tw7258234576362860186 for S.findZ by S.findZ_eq
name_quick tw329819065673440000 for S.findZ by S.findZ_eq
name_quick tw17279654841073493023 for S.findZ by S.findZ_eq
name_quick tw9413167413068371254 for S.findZ by S.findZ_eq
name_quick tw12832477231654346042 for S.findZ by S.findZ_eq
name_quick tw11935356649212052271 for S.findZ by S.findZ_eq
name_quick tw9800571698397750058 for S.findZ by S.findZ_eq
name_quick tw11566699232636054958 for S.findZ by S.findZ_eq
name_quick tw15078596067121957158 for S.findZ by S.findZ_eq
name_quick tw17431367730909923944 for S.findZ by S.findZ_eq
name_quick tw10138199336372458610 for S.findZ by S.findZ_eq
name_quick tw6519424955469430661 for S.findZ by S.findZ_eq
name_quick tw10424941004445345732 for S.findZ by S.findZ_eq
name_quick tw16176465441171805009 for S.findZ by S.findZ_eq
name_quick tw9910355351051955638 for S.findZ by S.findZ_eq
name_quick tw14907048974825807369 for S.findZ by S.findZ_eq
name_quick tw1971209045111089449 for S.findZ by S.findZ_eq
name_quick tw8686407601681055034 for S.findZ by S.findZ_eq
end PySem.W
namespace Mine
set_option maxRecDepth 100000 in
set_option maxHeartbeats 8000000 in
open_top hd for PySem.Challenge.rw_sj0102_01
end Mine
end
set_option maxRecDepth 100000
set_option compiler.extract_closed false
set_option compiler.reuse false
set_option tactic.hygienic false
set_option genInjectivity false
/-! the walk's rules and small tactics as data -/
protected def Mine.mId (s : String) : Lean.Syntax := (Lean.mkIdent s.toName).raw
protected def Mine.mPop (k : String) (n : String) (st : List Lean.Syntax) : List Lean.Syntax := .node .none k.toName (st.take n.toNat!).reverse.toArray :: st.drop n.toNat!
protected def Mine.mTk (f : String → Lean.Syntax) (st : List Lean.Syntax) (t : String) : List Lean.Syntax := match t.splitOn "~" with
  | ["i", v] => Mine.mId v :: st
  | ["h", v] => f v :: st
  | ["S", n] => Mine.mPop "Lean.Parser.Tactic.tacticSeq" "1" (Mine.mPop "Lean.Parser.Tactic.tacticSeq1Indented" "1" (Mine.mPop "null" n st))
  | ["a", v] => .atom .none v :: st
  | ["t", k, n] => Mine.mPop ("Lean.Parser.Tactic." ++ k) n st
  | [_, k, n] => Mine.mPop k n st
  | _ => st
protected def Mine.mTab : String := "r a~( a~intros n~null~0 t~intros~2 a~; a~exact i~rfl t~exact~2 S~3 a~) t~paren~3\ne a~( a~intros n~null~0 t~intros~2 a~; a~exact a~⟨ i~rfl a~, i~rfl n~null~3 a~⟩ n~Lean.Parser.Term.anonymousCtor~3 t~exact~2 S~3 a~) t~paren~3\nu a~( a~first a~| a~( a~intro a~_ n~Lean.Parser.Term.hole~1 a~_ n~Lean.Parser.Term.hole~1 a~_ n~Lean.Parser.Term.hole~1 n~null~3 t~intro~2 a~; a~with_unfolding_all a~rfl t~tacticRfl~1 S~1 t~withUnfoldingAll~2 S~3 a~) t~paren~3 S~1 n~group~2 a~| a~( a~intro a~_ n~Lean.Parser.Term.hole~1 a~_ n~Lean.Parser.Term.hole~1 n~null~2 t~intro~2 a~; a~with_unfolding_all a~rfl t~tacticRfl~1 S~1 t~withUnfoldingAll~2 S~3 a~) t~paren~3 S~1 n~group~2 n~null~2 t~first~2 S~1 a~) t~paren~3\nra a~( a~first a~| a~exact i~rfl t~exact~2 S~1 n~group~2 a~| a~assumption t~assumption~1 S~1 n~group~2 n~null~2 t~first~2 S~1 a~) t~paren~3\nas a~assumption t~assumption~1\nd a~decide n~null~0 t~optConfig~1 t~decide~2\ndk a~( a~decide a~+ i~kernel t~posConfigItem~2 t~configItem~1 n~null~1 t~optConfig~1 t~decide~2 S~1 a~) t~paren~3\nbf a~boot_fast n~PyProof.Rows.tacticBoot_fast~1\nnm a~( a~exact i~noMods t~exact~2 S~1 a~) t~paren~3\nndp a~( a~dsimp n~null~0 t~optConfig~1 n~null~0 a~only n~null~1 a~[ n~null~0 n~null~0 i~List.map t~simpLemma~3 n~null~1 a~] n~null~3 n~null~0 t~dsimp~6 a~; a~decide n~null~0 t~optConfig~1 t~decide~2 S~3 a~) t~paren~3\nfn a~constructor t~constructor~1\nnd a~( a~first a~| a~exact i~List.nodup_nil t~exact~2 S~1 n~group~2 a~| a~decide n~null~0 t~optConfig~1 t~decide~2 S~1 n~group~2 n~null~2 t~first~2 S~1 a~) t~paren~3\nzz a~( a~( a~with_reducible a~first a~| a~show a~_ n~Lean.Parser.Term.hole~1 a~≤ a~_ n~Lean.Parser.Term.hole~1 n~«term_≤_»~3 t~show~2 S~1 n~group~2 a~| a~show a~_ n~Lean.Parser.Term.hole~1 a~= a~_ n~Lean.Parser.Term.hole~1 n~«term_=_»~3 t~show~2 S~1 n~group~2 a~| a~show a~_ n~Lean.Parser.Term.hole~1 a~< a~_ n~Lean.Parser.Term.hole~1 n~«term_<_»~3 t~show~2 S~1 n~group~2 n~null~3 t~first~2 S~1 t~withReducible~2 S~1 a~) t~paren~3 a~; a~walk_at a~\"sz\" n~str~1 n~PyProof.Rows.tacticWalk_at_~2 S~3 a~) t~paren~3\nmk a~( a~first a~| a~k_is n~PySem.W.tacticK_is~1 S~1 n~group~2 a~| a~( a~( a~try a~dsimp n~null~0 t~optConfig~1 n~null~0 a~only n~null~1 a~[ n~null~0 n~null~0 i~WW t~simpLemma~3 n~null~1 a~] n~null~3 n~null~0 t~dsimp~6 S~1 t~tacticTry_~2 S~1 a~) t~paren~3 a~; a~k_is n~PySem.W.tacticK_is~1 S~3 a~) t~paren~3 S~1 n~group~2 n~null~2 t~first~2 S~1 a~) t~paren~3\nargs a~first a~| a~exact i~Or.inl i~rfl n~null~1 n~Lean.Parser.Term.app~2 t~exact~2 S~1 n~group~2 a~| a~exact i~Or.inr a~⟨ a~_ n~Lean.Parser.Term.hole~1 a~, a~_ n~Lean.Parser.Term.hole~1 a~, i~rfl a~, a~fun a~_ n~Lean.Parser.Term.hole~1 n~null~1 n~null~0 a~=> i~rfl n~Lean.Parser.Term.basicFun~4 n~Lean.Parser.Term.fun~2 a~, a~fun a~_ n~Lean.Parser.Term.hole~1 n~null~1 n~null~0 a~=> i~rfl n~Lean.Parser.Term.basicFun~4 n~Lean.Parser.Term.fun~2 n~null~9 a~⟩ n~Lean.Parser.Term.anonymousCtor~3 n~null~1 n~Lean.Parser.Term.app~2 t~exact~2 S~1 n~group~2 n~null~2 t~first~2\nsz a~first a~| a~decide n~null~0 t~optConfig~1 t~decide~2 S~1 n~group~2 a~| a~exact i~len_ok i~rfl n~null~1 n~Lean.Parser.Term.app~2 t~exact~2 S~1 n~group~2 a~| a~( a~simp n~null~0 t~optConfig~1 n~null~0 a~only n~null~1 a~[ n~null~0 n~null~0 i~List.length_cons t~simpLemma~3 a~, n~null~0 n~null~0 i~List.length_nil t~simpLemma~3 a~, n~null~0 n~null~0 i~List.length_append t~simpLemma~3 a~, n~null~0 n~null~0 i~List.length_map t~simpLemma~3 a~, n~null~0 n~null~0 i~sizeLine t~simpLemma~3 n~null~9 a~] n~null~3 n~null~0 t~simp~6 a~; a~walk_at a~\"om\" n~str~1 n~PyProof.Rows.tacticWalk_at_~2 S~3 a~) t~paren~3 S~1 n~group~2 a~| a~( a~simp n~null~0 t~optConfig~1 n~null~0 a~only n~null~1 a~[ n~null~0 n~null~0 i~List.length_cons t~simpLemma~3 a~, n~null~0 n~null~0 i~List.length_nil t~simpLemma~3 a~, n~null~0 n~null~0 i~List.length_append t~simpLemma~3 a~, n~null~0 n~null~0 i~List.length_map t~simpLemma~3 a~, n~null~0 n~null~0 i~sizeLine t~simpLemma~3 n~null~9 a~] n~null~3 a~at a~* t~locationWildcard~1 t~location~2 n~null~1 t~simp~6 a~; a~walk_at a~\"om\" n~str~1 n~PyProof.Rows.tacticWalk_at_~2 S~3 a~) t~paren~3 S~1 n~group~2 n~null~4 t~first~2\nq a~( a~( a~repeat a~walk_at a~\"k\" n~str~1 n~PyProof.Rows.tacticWalk_at_~2 S~1 t~tacticRepeat_~2 S~1 a~) t~paren~3 a~; a~refine i~ToQ.use a~( i~[anonymous] n~hygieneInfo~1 n~Lean.Parser.Term.hygienicLParen~2 a~by a~assumption t~assumption~1 S~1 n~Lean.Parser.Term.byTactic~2 a~) n~Lean.Parser.Term.paren~3 a~? a~_ n~Lean.Parser.Term.syntheticHole~2 n~null~2 n~Lean.Parser.Term.app~2 t~refine~2 S~3 a~) t~paren~3\ndef a~( a~walk_at a~\"df\" n~str~1 n~PyProof.Rows.tacticWalk_at_~2 a~; a~refine i~absQ a~? a~_ n~Lean.Parser.Term.syntheticHole~2 n~null~1 n~Lean.Parser.Term.app~2 t~refine~2 a~; a~intro a~_ n~Lean.Parser.Term.hole~1 a~_ n~Lean.Parser.Term.hole~1 n~null~2 t~intro~2 S~5 a~) t~paren~3\ncdef a~( a~walk_at a~\"cf\" n~str~1 n~PyProof.Rows.tacticWalk_at_~2 a~; a~refine i~absQ a~? a~_ n~Lean.Parser.Term.syntheticHole~2 n~null~1 n~Lean.Parser.Term.app~2 t~refine~2 a~; a~intro a~_ n~Lean.Parser.Term.hole~1 a~_ n~Lean.Parser.Term.hole~1 n~null~2 t~intro~2 S~5 a~) t~paren~3\nsx a~( a~( a~fail_if_success a~with_reducible a~refine' i~ss_cons a~? a~_ n~Lean.Parser.Term.syntheticHole~2 n~null~1 n~Lean.Parser.Term.app~2 t~refine'~2 S~1 t~withReducible~2 S~1 t~failIfSuccess~2 S~1 a~) t~paren~3 a~; a~walk_at a~\"st\" n~str~1 n~PyProof.Rows.tacticWalk_at_~2 S~3 a~) t~paren~3\nx1 a~with_reducible a~refine' a~⟨ a~_ n~Lean.Parser.Term.hole~1 a~, i~rfl a~, a~? a~_ n~Lean.Parser.Term.syntheticHole~2 n~null~5 a~⟩ n~Lean.Parser.Term.anonymousCtor~3 t~refine'~2 S~1 t~withReducible~2\nx2 a~dsimp n~null~0 t~optConfig~1 n~null~0 a~only n~null~1 n~null~0 n~null~0 t~dsimp~6\ni a~intro a~_ n~Lean.Parser.Term.hole~1 a~_ n~Lean.Parser.Term.hole~1 n~null~2 t~intro~2\nom a~first a~| a~decide n~null~0 t~optConfig~1 t~decide~2 S~1 n~group~2 a~| a~with_reducible a~assumption t~assumption~1 S~1 t~withReducible~2 S~1 n~group~2 a~| a~with_reducible a~exact i~Nat.le_of_lt a~( i~[anonymous] n~hygieneInfo~1 n~Lean.Parser.Term.hygienicLParen~2 a~by a~assumption t~assumption~1 S~1 n~Lean.Parser.Term.byTactic~2 a~) n~Lean.Parser.Term.paren~3 n~null~1 n~Lean.Parser.Term.app~2 t~exact~2 S~1 t~withReducible~2 S~1 n~group~2 a~| a~( a~with_reducible a~refine i~Nat.le_trans a~( i~m a~:= a~? i~m n~Lean.Parser.Term.syntheticHole~2 a~) n~Lean.Parser.Term.namedArgument~5 a~? i~a n~Lean.Parser.Term.syntheticHole~2 a~? i~b n~Lean.Parser.Term.syntheticHole~2 n~null~3 n~Lean.Parser.Term.app~2 t~refine~2 a~; a~( a~case i~a n~Lean.binderIdent~1 n~null~0 t~caseArg~2 n~null~1 a~=> a~with_reducible a~assumption t~assumption~1 S~1 t~withReducible~2 S~1 t~case~4 S~1 a~) t~paren~3 a~; a~( a~case i~b n~Lean.binderIdent~1 n~null~0 t~caseArg~2 n~null~1 a~=> a~first a~| a~decide n~null~0 t~optConfig~1 t~decide~2 S~1 n~group~2 a~| a~with_reducible a~assumption t~assumption~1 S~1 t~withReducible~2 S~1 n~group~2 n~null~2 t~first~2 S~1 t~case~4 S~1 a~) t~paren~3 S~5 t~withReducible~2 S~1 a~) t~paren~3 S~1 n~group~2 a~| a~( a~with_reducible a~refine i~Nat.lt_of_lt_of_le a~( i~m a~:= a~? i~m n~Lean.Parser.Term.syntheticHole~2 a~) n~Lean.Parser.Term.namedArgument~5 a~? i~a n~Lean.Parser.Term.syntheticHole~2 a~? i~b n~Lean.Parser.Term.syntheticHole~2 n~null~3 n~Lean.Parser.Term.app~2 t~refine~2 a~; a~( a~case i~a n~Lean.binderIdent~1 n~null~0 t~caseArg~2 n~null~1 a~=> a~with_reducible a~assumption t~assumption~1 S~1 t~withReducible~2 S~1 t~case~4 S~1 a~) t~paren~3 a~; a~( a~case i~b n~Lean.binderIdent~1 n~null~0 t~caseArg~2 n~null~1 a~=> a~first a~| a~decide n~null~0 t~optConfig~1 t~decide~2 S~1 n~group~2 a~| a~with_reducible a~assumption t~assumption~1 S~1 t~withReducible~2 S~1 n~group~2 n~null~2 t~first~2 S~1 t~case~4 S~1 a~) t~paren~3 S~5 t~withReducible~2 S~1 a~) t~paren~3 S~1 n~group~2 a~| a~( a~with_reducible a~refine i~Nat.lt_of_le_of_lt a~( i~m a~:= a~? i~m n~Lean.Parser.Term.syntheticHole~2 a~) n~Lean.Parser.Term.namedArgument~5 a~? i~a n~Lean.Parser.Term.syntheticHole~2 a~? i~b n~Lean.Parser.Term.syntheticHole~2 n~null~3 n~Lean.Parser.Term.app~2 t~refine~2 a~; a~( a~case i~a n~Lean.binderIdent~1 n~null~0 t~caseArg~2 n~null~1 a~=> a~with_reducible a~assumption t~assumption~1 S~1 t~withReducible~2 S~1 t~case~4 S~1 a~) t~paren~3 a~; a~( a~case i~b n~Lean.binderIdent~1 n~null~0 t~caseArg~2 n~null~1 a~=> a~first a~| a~decide n~null~0 t~optConfig~1 t~decide~2 S~1 n~group~2 a~| a~with_reducible a~assumption t~assumption~1 S~1 t~withReducible~2 S~1 n~group~2 n~null~2 t~first~2 S~1 t~case~4 S~1 a~) t~paren~3 S~5 t~withReducible~2 S~1 a~) t~paren~3 S~1 n~group~2 a~| a~lia n~null~0 t~optConfig~1 t~lia~2 S~1 n~group~2 a~| a~omega n~null~0 t~optConfig~1 t~omega~2 S~1 n~group~2 n~null~8 t~first~2\n#_ a~? a~_ n~Lean.Parser.Term.syntheticHole~2\n#- a~_ n~Lean.Parser.Term.hole~1\n#0 a~? h~0 n~Lean.Parser.Term.syntheticHole~2\n=0 h~0 n~Lean.binderIdent~1 n~null~0 t~caseArg~2 n~null~1\n#1 a~? h~1 n~Lean.Parser.Term.syntheticHole~2\n=1 h~1 n~Lean.binderIdent~1 n~null~0 t~caseArg~2 n~null~1\n#2 a~? h~2 n~Lean.Parser.Term.syntheticHole~2\n=2 h~2 n~Lean.binderIdent~1 n~null~0 t~caseArg~2 n~null~1\n#3 a~? h~3 n~Lean.Parser.Term.syntheticHole~2\n=3 h~3 n~Lean.binderIdent~1 n~null~0 t~caseArg~2 n~null~1\n#4 a~? h~4 n~Lean.Parser.Term.syntheticHole~2\n=4 h~4 n~Lean.binderIdent~1 n~null~0 t~caseArg~2 n~null~1\n#5 a~? h~5 n~Lean.Parser.Term.syntheticHole~2\n=5 h~5 n~Lean.binderIdent~1 n~null~0 t~caseArg~2 n~null~1\n#6 a~? h~6 n~Lean.Parser.Term.syntheticHole~2\n=6 h~6 n~Lean.binderIdent~1 n~null~0 t~caseArg~2 n~null~1\n#7 a~? h~7 n~Lean.Parser.Term.syntheticHole~2\n=7 h~7 n~Lean.binderIdent~1 n~null~0 t~caseArg~2 n~null~1\n#8 a~? h~8 n~Lean.Parser.Term.syntheticHole~2\n=8 h~8 n~Lean.binderIdent~1 n~null~0 t~caseArg~2 n~null~1\n#9 a~? h~9 n~Lean.Parser.Term.syntheticHole~2\n=9 h~9 n~Lean.binderIdent~1 n~null~0 t~caseArg~2 n~null~1\nkR t~refine'~0\nkA n~Lean.Parser.Term.app~0\nkN n~null~0\nkW t~withReducible~0\nkS t~tacticSeq~0\nkT t~tacticSeq1Indented~0\nkC t~case~0\nkG n~group~0\nkF t~first~0\n'refine' a~refine'\n'with_reducible a~with_reducible\n'; a~;\n'case a~case\n'=> a~=>\n'| a~|\n'first a~first\n@bd a~walk_at a~\"bd\" n~str~1 n~PyProof.Rows.tacticWalk_at_~2\n@dic a~walk_at a~\"dic\" n~str~1 n~PyProof.Rows.tacticWalk_at_~2\n@lst a~walk_at a~\"lst\" n~str~1 n~PyProof.Rows.tacticWalk_at_~2\n@mem a~walk_at a~\"mem\" n~str~1 n~PyProof.Rows.tacticWalk_at_~2\n@pk a~walk_at a~\"pk\" n~str~1 n~PyProof.Rows.tacticWalk_at_~2\n@pks a~walk_at a~\"pks\" n~str~1 n~PyProof.Rows.tacticWalk_at_~2\n@put a~walk_at a~\"put\" n~str~1 n~PyProof.Rows.tacticWalk_at_~2\n@rp a~walk_at a~\"rp\" n~str~1 n~PyProof.Rows.tacticWalk_at_~2"
protected def Mine.mSq (g : String → Lean.Syntax) (as : List Lean.Syntax) : Lean.Syntax := (g "kS").setArgs #[(g "kT").setArgs #[(g "kN").setArgs as.toArray]]
protected def Mine.mCase (g : String → Lean.Syntax) (k : String) (p : String) : List Lean.Syntax := match p.splitOn ":" with
  | [j, c] => cond (j == k) [g "';", (g "kC").setArgs #[g "'case", g ("=" ++ k), g "'=>", Mine.mSq g [g c]]] []
  | _ => cond (p == "i" && k == "9") [g "';", g p] []
protected def Mine.mAlt (g : String → Lean.Syntax) (r : String) : Lean.Syntax := match r.splitOn " " with
  | [x] => Mine.mSq g [match x.splitOn "~" with
    | [_, y] => (g "kR").setArgs #[g "'refine'", Mine.mId y]
    | _ => g x]
  | h :: as =>
    let t := (g "kR").setArgs #[g "'refine'", (g "kA").setArgs #[Mine.mId ((h.splitOn "~").getLastD h), (g "kN").setArgs ((as.filter (· != "i")).map fun p => g ("#" ++ (p.splitOn ":").headD p)).toArray]]
    let t := cond (h.startsWith "~") t ((g "kW").setArgs #[g "'with_reducible", Mine.mSq g [t]])
    Mine.mSq g (t :: ["0", "1", "2", "3", "4", "5", "6", "7", "8", "9"].flatMap fun k => as.flatMap (Mine.mCase g k))
  | _ => .missing
protected def Mine.mRules : String := "st\nss_cons _,KSeq.next _,KAsg.go _,KCons2.go _,KRet.go _,KNext.go _,KSeq.ret _,KSeq.cont _,KSeq.brk _,ss_nil _,ev_pure 0:r _,sp_pure 0:r _,sx_AssignComp _ 0:dk 1:r 2:e 3:r,sx_Assign _ 0:e 1:r,sx_AssignSub _ 0:r,sx_UnpackSwap _ 1:r 2:r 3:r 0:r,sx_Unpack _ 1:e 2:r 0:r,asg_name 0:e _,asg_nil _,asg_sub _,ev_CallTI _ 0:r 1:r 2:r 3:args,ev_CallAppend _ 0:r 1:r 2:r 3:args,ev_CallPop0 _ 0:r 1:r 2:r 3:args,ev_CallPopD1 _ 0:r 1:r 2:r 3:args,ev_CallGetTab _ 0:r 1:r 2:r 3:args,ev_CallMake _ 0:r 1:args,ev_CallClear _ 0:r 1:args,methM_in 0:@mem 1:mk 2:mk 3:mk 4:mk 5:ra _,ev_CallMeth _ 0:r 1:args,meth_in 0:mk 1:mk 2:mk 3:mk 4:ra _,KOb.in 0:@mem _,sx_Fault _ 0:r 1:r 2:r,ev_Joined _,ev_JoinedOne _,jp_const 0:d _,jp_nil 0:d _,jp_val100 0:d _,sx_AssignAttr _ 0:r,t_setAttr 0:@rp 1:@put 2:sz 3:mk 4:mk 5:mk 6:mk _,sx_If _,sx_Return _,sx_ReturnNone _,sx_Continue _,sx_Expr _ 0:r,ev_local 0:r 1:r 2:r _,ev_local 0:r 1:as 2:r _,ev_cell 0:r 1:ra 2:r _,ev_globI 0:r 1:mk 2:r _,ev_int _,ev_str _,ev_none _,ev_bool _,ev_BinOp _,ev_UnaryOp _,ev_Subscript _,ev_IfExp _,ev_Slice _,evo_none _,evo_some _,ev_Tuple _,ev_List _,ev_Dict _,ev_Dict2 _,ev_Dict3 _,dp_cons _,dp_nil _,dict_end 1:ndp 0:@rp _,ev_Compare _ 0:r,tr_Compare _ 0:r,tr_Compare2 _ 0:r,tr_Not _,tr_AndNil _,tr_And _,tr_OrNil _,tr_Or _,tr_plain _ 0:r,ev_Attribute _ 0:r,ev_builtin 0:r 1:mk 2:bf 3:d 4:r _,ev_CallB 0:r 1:args 2:r 3:mk 4:bf 5:d 6:r 7:fn _,ev_CallG 0:r 1:args 2:r 3:mk 4:r 5:mk _,ev_ListComp _ 0:dk 1:r,sx_ForEnumC _ 0:r,bd_pair 0:r 1:e _,sx_For _ 0:r,bd_tuple 0:r 1:e _,bd_nameA 0:e i,bd_name 0:e _,sp_nil _,sp_cons _ 0:r,t_add _,t_sub _,t_neg _,t_leI _,t_ltI _,t_gtI _,t_geI _,t_eqI _,t_neI _,t_eqS _,t_neS _,t_isNone 0:r _,t_isNotNone 0:r _,t_subDict 0:nm 1:@dic 2:ra 3:u _,t_subTupL 1:r 2:r 3:d 0:u _,t_subTup 1:r 2:r 3:d 4:d 0:u _,t_inDict 0:nm 1:@dic _,t_notInDict 0:nm 1:@dic _,t_setDictR 1:@put 0:@rp 2:sz _,t_addTup 0:sz _,t_len 0:@lst 1:sz _,t_append 0:@rp 1:sz _,t_pop 0:@rp 1:sz _,t_getAttr 0:mk 1:mk 2:mk 3:mk 4:ra 5:r _,t_getAttrM 0:@mem 1:mk 2:mk 3:mk 4:mk 5:ra 6:r _,t_intInt _,t_lenTup 0:sz _,t_lenDict 0:nm 1:@dic 2:sz _,ToQ.use 0:as _,KTup.mk 0:sz _,KLst.mk 0:sz _,And.intro 0:zz _,KCmp2.in _,x1,x2\nop\nt_add _,t_sub _,t_neg _,t_leI _,t_ltI _,t_gtI _,t_geI _,t_eqI _,t_neI _,t_eqS _,t_neS _,t_isNone 0:r _,t_isNotNone 0:r _,t_subDict 0:nm 1:@dic 2:ra 3:u _,t_subTupL 1:r 2:r 3:d 0:u _,t_subTup 1:r 2:r 3:d 4:d 0:u _,t_inDict 0:nm 1:@dic _,t_notInDict 0:nm 1:@dic _,t_setDictR 1:@put 0:@rp 2:sz _,t_addTup 0:sz _,t_len 0:@lst 1:sz _,t_append 0:@rp 1:sz _,t_pop 0:@rp 1:sz _,t_getAttr 0:mk 1:mk 2:mk 3:mk 4:ra 5:r _,t_getAttrM 0:@mem 1:mk 2:mk 3:mk 4:mk 5:ra 6:r _,t_intInt _,t_lenTup 0:sz _,t_lenDict 0:nm 1:@dic 2:sz _\nk\nKSeq.next _,KAsg.go _,KCons2.go _,KRet.go _,KNext.go _,KSeq.ret _,KSeq.cont _,KSeq.brk _\nmem\n~List.Mem.head -,~List.Mem.tail - 0:@mem\nrp\n~Rp.head -,~Rp.tail - - - 0:@rp\nput\n~PutR.here - -,~PutR.nil,~PutR.there - - - - 0:r 1:@put\ndic\n~DicAV.frozen -,~DicAV.obj - - 0:@mem\nlst\n~LstAV.frozen -,~LstAV.obj - - 0:@mem\npk\n~Pick.head -,~Pick.tail - - - 0:@pk\npks\n~Picks.nil -,~Picks.cons - - - - - - 0:@pk 1:@pks\ndf\nts_def 0:mk 1:mk 2:@bd 3:r 4:r 5:r 6:r 7:r 8:r 9:nd _\ncf\ntc_def 0:mk 1:mk 2:@bd 3:r 4:r 5:r 6:r 7:r 8:r 9:nd _\nbd\nbindN1 0:r,bindN2 0:r,bindN3 0:r,bindN4 0:r,bindN5 0:r,bindN7 0:r,bindN0 0:r"
local macro_rules | `(tactic| walk_at $s:str) => do
  let k := s.getString
  let c ← Lean.MonadQuotation.getContext
  let n ← Lean.MonadQuotation.getCurrMacroScope
  let T := (Mine.mTab.splitOn "\n").map fun e => let l := e.splitOn " "; (l.headD "", (l.tail.foldl (Mine.mTk fun k => (Lean.mkIdent (Lean.addMacroScope c (Lean.Name.mkSimple ("h" ++ k)) n)).raw) []).headD .missing)
  let g := fun s => (T.lookup s).getD .missing
  match (Mine.mRules.splitOn "\n").dropWhile (· != k), T.lookup k with
  | _ :: r :: _, _ => return (g "kF").setArgs #[g "'first", (g "kN").setArgs ((r.splitOn ",").map fun r => (g "kG").setArgs #[g "'|", Mine.mAlt g r]).toArray]
  | _, some t => return t
  | _, none => Lean.Macro.throwUnsupported
section
open PySem PySem.W PySem.Calls PyProof.Rows PySem.Spec
namespace Mine
@[elab_as_elim] theorem rwE {α : Sort _} {a b : α} {P : α → Prop} (h : a = b) (x : P b) : P a := Eq.mpr (congrArg P h) x
theorem ar_less {a i : Nat} (h : i < a) : a + 1 - (i + 1) < a + 1 - i := Nat.sub_lt_sub_left (Nat.lt_succ_of_lt h) (Nat.lt_succ_self i)
theorem ar_sub4 {m b : Nat} (h : b ≤ m) (i : Nat) : 4 + m - b + i = 4 + (m - b + i) := (congrArg (· + i) (Nat.add_sub_assoc h 4)).trans (Nat.add_assoc 4 (m - b) i)
theorem ar_minL {a b c : Nat} (h : a ≤ c) : min a b ≤ c := Nat.le_trans (Nat.min_le_left a b) h
theorem ar_minR {a b c : Nat} (h : b ≤ c) : min a b ≤ c := Nat.le_trans (Nat.min_le_right a b) h
theorem ar_ltMinL {j a b : Nat} (h : j < min a b) : j < a := Nat.lt_of_lt_of_le h (Nat.min_le_left a b)
theorem ar_ltMinR {j a b : Nat} (h : j < min a b) : j < b := Nat.lt_of_lt_of_le h (Nat.min_le_right a b)
theorem ar_subS {j i k : Nat} (h : j - i = k + 1) : j - (i + 1) = k := congrArg Nat.pred h
theorem ar_pos {j i : Nat} (h : i < j) : j - i = j - i - 1 + 1 := (Nat.succ_pred_eq_of_pos (Nat.sub_pos_of_lt h)).symm
theorem ar_subLt {j i k : Nat} (h : j - i = k + 1) : i < j := Nat.lt_of_sub_eq_succ h
theorem ar_sub0 {i j : Nat} (h : j - i = 0) (l : i ≤ j) : i = j := Nat.le_antisymm l (Nat.le_of_sub_eq_zero h)
theorem ar_end {i j : Nat} (h : ¬ i < j) (l : i ≤ j) : i = j := Nat.le_antisymm l (Nat.not_lt.mp h)
theorem ar_fst {a b : Nat} (h1 : ¬ a < b) (h2 : a - b = 0) : a = b := Nat.le_antisymm (Nat.le_of_sub_eq_zero h2) (Nat.not_lt.mp h1)
theorem ar_in {a n r : Nat} (h : a + (n + 1) + 1 < r) : a + 1 + n + 1 < r := rwE (P := fun z => z + 1 < r) (Nat.add_right_comm a 1 n) h
theorem ar_room {a n r : Nat} (h : a + n + 1 < r) : a + 1 < r := Nat.lt_of_le_of_lt (Nat.add_le_add_right (Nat.le_add_right a n) 1) h
theorem ar_units {a n c k : Nat} (hk : k ≤ 10) (h : a + 10 * (n + 1) + 10 < c) : a + k + 10 * n + 10 < c :=
  Nat.lt_of_le_of_lt (Nat.add_le_add_right (rwE (P := fun z => z ≤ a + (10 * n + 10)) (Nat.add_right_comm a k (10 * n)) (Nat.add_le_add_left hk (a + 10 * n))) 10) h
theorem ar_un {a k n c : Nat} (hk : k ≤ 10) (h : a + 10 * n + 10 < c) : a + k < c := Nat.lt_of_le_of_lt (Nat.le_trans (Nat.add_le_add_left hk a) (Nat.add_le_add_right (Nat.le_add_right a (10 * n)) 10)) h
theorem wp_if {M : Model} {A : Around} {α : Type} {E : Value → Shared → Prop} {s : Shared} {c : Prop} [Decidable c] {a b : Sem α} {Q : α → Shared → Prop} (hc : c) (h : wpAny M A a Q E s) : wpAny M A (if c then a else b) Q E s := by rw [if_pos hc]; exact h
theorem wp_else {M : Model} {A : Around} {α : Type} {E : Value → Shared → Prop} {s : Shared} {c : Prop} [Decidable c] {a b : Sem α} {Q : α → Shared → Prop} (hc : ¬ c) (h : wpAny M A b Q E s) : wpAny M A (if c then a else b) Q E s := by rw [if_neg hc]; exact h
theorem m_cab {α : Type} {a b c q : α} {l : List α} (h : q ∈ a :: b :: c :: l) : q ∈ c :: a :: b :: l := by
  rcases List.mem_cons.mp h with h | h
  · exact .tail _ (h ▸ .head _)
  · rcases List.mem_cons.mp h with h | h
    · exact .tail _ (.tail _ (h ▸ .head _))
    · rcases List.mem_cons.mp h with h | h
      · exact h ▸ .head _
      · exact .tail _ (.tail _ (.tail _ h))
theorem m_bac {α : Type} {a b q : α} {l : List α} (h : q ∈ a :: b :: l) : q ∈ b :: a :: l := by
  rcases List.mem_cons.mp h with h | h
  · exact .tail _ (h ▸ .head _)
  · rcases List.mem_cons.mp h with h | h
    · exact h ▸ .head _
    · exact .tail _ (.tail _ h)
theorem m_bca {α : Type} {a b c q : α} {l : List α} (h : q ∈ a :: b :: c :: l) : q ∈ b :: c :: a :: l := m_cab (m_cab h)
/-- the goal, hidden behind a variable while things are taken apart -/
theorem byG {G : Prop} (h : ∀ P : Prop, (G → P) → P) : G := h G id
theorem nsE {α : Type} {x : α} {G : Prop} (h : none = some x) : G := nomatch h

theorem memX {env : Env} {L b : Addr} {outer : List Env} (hf : env.frame = some L) (hm : b ∈ (env :: outer).filterMap (·.frame)) : b = L ∨ b ∈ outer.filterMap (·.frame) := by
  obtain ⟨e, he, h1⟩ := List.mem_filterMap.mp hm
  rcases List.mem_cons.mp he with rfl | he
  · exact .inl (Option.some.inj (h1.symm.trans hf))
  · exact .inr (List.mem_filterMap.mpr ⟨e, he, h1⟩)

/-- a fault just made, with its tuple of arguments -/
noncomputable def FreshX (h h' : Heap) (e : Addr) (cls : Value) (t : Addr) (vs : List Value) : Prop :=
  (∀ b o, h.get? b = some o → h'.get? b = some o) ∧ h.get? e = none ∧ (∃ oe fs, h'.get? e = some oe ∧ oe.cls = cls ∧ oe.data = .fields fs ∧ fs[0]? = some (.ref t) ∧ fs[1]? = some .none) ∧ h.get? t = none ∧ h'.TupAt t vs

section
variable {M : Model} {A : Around} {E : Value → Shared → Prop} {s' : Shared} {base g g₂ h : Heap} {outer : List Env} {L e t : Addr} {m : Str → Option Value} {env : Env} {Q : Unit → Shared → Prop} {news : List (Addr × Obj)} {cls : Value} {vs : List Value}
theorem leave_fresh (K : Below A base outer g) (hx : FreshX h s'.heap e cls t vs) (F : Fr g L h m) (N : News g L h news)
    (hQ : ∀ h', RaisedS base g outer e cls t vs news h' → g.UpToSlots h' → Q () { s' with heap := h' }) (hf : env.frame = some L) (hk : env.scope.kind = .function) :
    wpAny M (A.deeper env) (leaving env (.ref e)) Q E s' := by
  refine byG fun G_ bk_ => ?_; obtain ⟨hkp, hen, ⟨oe, fs, he, hcls, hd, h0, h1⟩, htn, htup⟩ := hx
  subst hcls; refine bk_ ?_; clear bk_
  have K' := pushX K F hf hk
  have hin : ∀ x ∈ (env :: outer), ∀ b, x.frame = some b → b ∈ (env :: outer).filterMap (·.frame) := fun x hx b hb => List.mem_filterMap.mpr ⟨x, hx, hb⟩
  have st : base.StaysIn (hideAll h ((env :: outer).filterMap (·.frame))) := fun b o q => hideAll_get _ (K'.stays b o q) fun hm => by
    rw [(K'.frames.mem hm).1] at q; injection q
  have sg : ∀ b o, g.get? b = some o → b ∉ outer.filterMap (·.frame) → (hideAll h ((env :: outer).filterMap (·.frame))).get? b = some o := fun b o q nm => hideAll_get _ (F.keep b o q) fun hm => by
    rcases memX hf hm with z | z
    · rw [z, kts_self F] at q; injection q
    · exact nm z
  have hl : ∀ q ∈ news, (hideAll h ((env :: outer).filterMap (·.frame))).get? q.1 = some q.2 ∧ g.get? q.1 = none ∧ base.get? q.1 = none := fun q hq => by
    refine ⟨hideAll_get _ (N q hq).1 fun hm => ?_, (N q hq).2.2, fresh_of_stays K.stays (N q hq).2.2⟩
    rcases memX hf hm with z | z
    · exact (N q hq).2.1 z
    · refine byG fun G_ bk_ => ?_; obtain ⟨o, ho, _⟩ := (K.frames.mem z).2; refine bk_ ?_; clear bk_
      rw [(N q hq).2.2] at ho; injection ho
  have BH : (hideAll h ((env :: outer).filterMap (·.frame))).StaysIn s'.heap := fun b o q => hkp b o (of_hideAll _ q)
  have nb : ∀ b, h.get? b = none → (hideAll h ((env :: outer).filterMap (·.frame))).get? b = none := fun b hb => by
    cases q : (hideAll h ((env :: outer).filterMap (·.frame))).get? b with
    | none => rfl
    | some o => have := of_hideAll _ q; rw [hb] at this; injection this
  have FF : s'.heap.FunFrames (hideAll h ((env :: outer).filterMap (·.frame))) (env :: outer) :=
    (funFrames_hide K'.frames hin).of_keeps fun b o hb _ => ⟨o, hkp b o hb, rfl⟩
  refine wpAny_leaving_firstW (a0 := .ref t) K'.stack FF hf he BH (nb e hen) hd h1 h0 fun h' hL => ?_
  refine byG fun G_ bk_ => ?_; obtain ⟨k1, ⟨_, _, k2⟩, k3, k4⟩ := hL; refine bk_ ?_; clear bk_
  have hs : s'.heap.UpToSlots h' := k4
  exact hQ h' ⟨⟨_, st, sg, hl, ⟨k1, nb e hen, k2, k3⟩, nb t htn⟩, htup.of_slots hs⟩ (((Heap.UpToSlots.of_keeps F.keep).trans (Heap.UpToSlots.of_keeps hkp)).trans hs)

theorem leave_on (K : Below A base outer g) (F : Fr g L g₂ m) (R : RaisedS base g₂ (env :: outer) e cls t vs news s'.heap) (hsm : g₂.UpToSlots s'.heap) (hf : env.frame = some L)
    (hQ : ∀ h', RaisedS base g outer e cls t vs news h' → g.UpToSlots h' → Q () { s' with heap := h' }) : wpAny M (A.deeper env) (leaving env (.ref e)) Q E s' := by
  refine byG fun G_ bk_ => ?_; obtain ⟨⟨B, hB, hBG, hl, hfl, hnew⟩, htup⟩ := R; refine bk_ ?_; clear bk_
  refine wpAny_leaves_onW (Around.frames_deeper K.stack) hf hfl fun h' x1 x2 => hQ h' ⟨⟨B, hB, fun b o q nm => hBG b o (F.keep b o q) fun hm => ?_, fun q hq => ⟨(hl q hq).1, kts_none F.keep (hl q hq).2.1, (hl q hq).2.2⟩, x1, hnew⟩, htup.of_slots x2⟩
    ((Heap.UpToSlots.of_keeps F.keep).trans (hsm.trans x2))
  rcases memX hf hm with z | z
  · rw [z, kts_self F] at q; injection q
  · exact nm z

theorem leave_held (R : RaisedH base g₂ (env :: outer) L e cls t vs news s'.heap) (F : Fr g L g₂ m) (hsm : g₂.UpToSlots s'.heap) (hf : env.frame = some L)
    (hQ : ∀ h', RaisedS base g outer e cls t vs news h' → g.UpToSlots h' → Q () { s' with heap := h' }) : wpAny M (A.deeper env) (leaving env (.ref e)) Q E s' := by
  refine byG fun G_ bk_ => ?_; obtain ⟨⟨B, hB, hBG, hl, hh, hnew⟩, htup⟩ := R; refine bk_ ?_; clear bk_
  unfold leaving
  refine wpAny_bind (wpAny_noteFrame_againW hf hh.2.2.2 ?_)
  refine wpAny_landsW hh fun h' hfl hs => ?_
  refine byG fun G_ bk_ => ?_; obtain ⟨k1, k2, ⟨_, _, k3⟩, k4⟩ := hfl; refine bk_ ?_; clear bk_
  refine hQ h' ⟨⟨B, hB, fun b o q nm => hBG b o (F.keep b o q) fun hm => ?_, fun q hq => ⟨(hl q hq).1, kts_none F.keep (hl q hq).2.1, (hl q hq).2.2⟩, ⟨k1, k2, k3, k4⟩, hnew⟩, htup.of_slots hs⟩ ((Heap.UpToSlots.of_keeps F.keep).trans (hsm.trans hs))
  rcases memX hf hm with z | z
  · rw [z, kts_self F] at q; injection q
  · exact nm z
end

theorem cellsAre_mem {cm : Str → Option Value} {cs : List (Str × Addr)} {cells : List (Addr × Obj)} (h : CellsAre cm cs cells) : ∀ p ∈ cells, ∃ n, (n, p.1) ∈ cs := by
  induction h with
  | nil => intro p hp; cases hp
  | cons hd _ ih =>
    intro p hp
    rcases List.mem_cons.mp hp with rfl | hp
    · exact ⟨_, .head _⟩
    · obtain ⟨n, hn⟩ := ih p hp; exact ⟨n, .tail _ hn⟩
theorem cellsAre_at {cm : Str → Option Value} {cs : List (Str × Addr)} {cells : List (Addr × Obj)} (h : CellsAre cm cs cells) {x : Str} {c : Addr} : cs.lookup x = some c → ∃ o, (c, o) ∈ cells ∧ o.data = .cell (cm x) := by
  induction h with
  | nil => intro e; injection e
  | @cons n c' o cs cells hd _ ih =>
    intro e
    rw [List.lookup_cons] at e
    cases q : x == n with
    | true =>
      rw [q] at e
      obtain rfl : x = n := by simpa using q
      (injection e with e0; (first | subst e0 | cases e0))
      exact ⟨_, .head _, hd⟩
    | false =>
      rw [q] at e
      obtain ⟨o, h1, h2⟩ := ih e
      exact ⟨o, .tail _ h1, h2⟩

theorem lookup_mem {α : Type} {x : Str} {a : α} : ∀ {l : List (Str × α)}, l.lookup x = some a → (x, a) ∈ l
  | [], h => by injection h
  | (y, b) :: r, h => by
    rw [List.lookup_cons] at h
    cases q : x == y with
    | true =>
      rw [q] at h
      obtain rfl : x = y := by simpa using q
      (injection h with e0; (first | subst e0 | cases e0)); exact .head _
    | false => rw [q] at h; exact .tail _ (lookup_mem h)
theorem mem_lookup {α : Type} {x : Str} {a : α} : ∀ {l : List (Str × α)}, (x, a) ∈ l → (l.lookup x).isSome = true
  | (y, b) :: r, h => by
    rw [List.lookup_cons]
    cases q : x == y with
    | true => rfl
    | false =>
      rcases List.mem_cons.mp h with e | h
      · (injection e with e0; (first | subst e0 | cases e0)); simp at q
      · exact mem_lookup h
theorem cellsFrom_sub : ∀ {names : List (Str × NameKind)} {n : Nat} {acc : List (Str × Addr)} {p : Str × Addr}, p ∈ acc → p ∈ cellsFrom n names acc
  | [], _, _, _, h => h
  | (name, kind) :: r, n, acc, p, h => by
    unfold cellsFrom
    split
    · exact cellsFrom_sub (.tail _ h)
    · exact cellsFrom_sub h
theorem cellsFrom_cell : ∀ {names : List (Str × NameKind)} {n : Nat} {acc : List (Str × Addr)} {x : Str}, (x, NameKind.cell) ∈ names → ((cellsFrom n names acc).lookup x).isSome = true
  | (name, kind) :: r, n, acc, x, h => by
    unfold cellsFrom
    rcases List.mem_cons.mp h with e | h
    · cases e
      exact mem_lookup (a := n) (cellsFrom_sub (.head _))
    · split
      · exact cellsFrom_cell h
      · exact cellsFrom_cell h
theorem cellsFrom_of : ∀ {names : List (Str × NameKind)} {n : Nat} {acc : List (Str × Addr)} {p : Str × Addr}, p ∈ cellsFrom n names acc → p ∈ acc ∨ (p.1, NameKind.cell) ∈ names
  | [], _, _, _, h => .inl h
  | (name, kind) :: r, n, acc, p, h => by
    unfold cellsFrom at h
    split at h
    · rename_i hk
      have hk : kind = .cell := by simpa using hk
      rcases cellsFrom_of h with h | h
      · rcases List.mem_cons.mp h with rfl | h
        · exact .inr (by rw [hk]; exact .head _)
        · exact .inl h
      · exact .inr (.tail _ h)
    · rcases cellsFrom_of h with h | h
      · exact .inl h
      · exact .inr (.tail _ h)

theorem bindL_at {k : Str → Option NameKind} {x : Str} (hx : k x = some .local) : ∀ {binds : List (Str × Value)} {m : Str → Option Value} {v : Value}, binds.reverse.lookup x = some v ∨ (binds.reverse.lookup x = none ∧ m x = some v) → bindL k binds m x = some v
  | [], m, v, h => by
    rcases h with h | h
    · injection h
    · exact h.2
  | (n, u) :: r, m, v, h => by
    unfold bindL
    refine bindL_at hx ?_
    rw [List.reverse_cons, List.lookup_append] at h
    cases q : r.reverse.lookup x with
    | some w => rw [q] at h; exact .inl (by simpa using h)
    | none =>
      rw [q] at h
      refine .inr ⟨rfl, ?_⟩
      by_cases e : x = n
      · subst e
        rw [if_pos hx, if_pos rfl]
        simpa using h
      · have e' : (x == n) = false := by simpa using e
        have : m x = some v := by simpa [List.lookup_cons, e'] using h
        split
        · exact (if_neg e).trans this
        · exact this
theorem bindC_at {k : Str → Option NameKind} {x : Str} (hx : k x ≠ some .local) : ∀ {binds : List (Str × Value)} {m : Str → Option Value} {v : Value}, binds.reverse.lookup x = some v ∨ (binds.reverse.lookup x = none ∧ m x = some v) → bindC k binds m x = some v
  | [], m, v, h => by
    rcases h with h | h
    · injection h
    · exact h.2
  | (n, u) :: r, m, v, h => by
    unfold bindC
    refine bindC_at hx ?_
    rw [List.reverse_cons, List.lookup_append] at h
    cases q : r.reverse.lookup x with
    | some w => rw [q] at h; exact .inl (by simpa using h)
    | none =>
      rw [q] at h
      refine .inr ⟨rfl, ?_⟩
      by_cases e : x = n
      · subst e
        rw [if_neg hx, if_pos rfl]
        simpa using h
      · have e' : (x == n) = false := by simpa using e
        have : m x = some v := by simpa [List.lookup_cons, e'] using h
        split
        · exact this
        · exact (if_neg e).trans this

inductive LeaveX (A₀ : Around) (base : Heap) (outer : List Env) (env : Env) (h₀ : Heap) (L : Addr) (m : Str → Option Value) (g : Heap) (R : Result → Shared → Prop) (v : Value) (s' : Shared) : Prop
  | mk (g' : Heap) (L' : Addr) (m' : Str → Option Value) (news' : List (Addr × Obj)) (T : KtsTurn ((env :: outer).filterMap (·.frame)) g g') (F : Fr g' L' s'.heap m') (N : News g' L' s'.heap news')
      (k : ∀ h₀', KtsTurn (outer.filterMap (·.frame)) h₀ h₀' → Fr h₀' L s'.heap m → News h₀' L s'.heap news' → Below A₀ base outer h₀' → R (.ok (.ret v)) s') : LeaveX A₀ base outer env h₀ L m g R v s'

section
variable {prog : Program} {w : World} {A₀ A : Around} {s : Shared} {base h₀ : Heap} {outer : List Env} {L : Addr} {m : Str → Option Value} {env : Env} {news : List (Addr × Obj)}
  {R : Result → Shared → Prop} {name qual : Str} {params : Arguments} {body : List Stmt} {scope : Scope} {dV kV doc pm cdv ct : Value} {an : Option Addr} {fo : Obj} {f : Addr} {args : Args} {binds : List (Str × Value)}
/-- a def is called, from any frame -/
theorem code_frame (B : Below A₀ base outer h₀) (F : Fr h₀ L s.heap m) (N : News h₀ L s.heap news) (hlim : h₀.NoLimit) (D : KtsDicts (outer.filterMap (·.frame)) h₀) (hA : A.frames = some (env :: outer)) (hf : env.frame = some L) (hke : env.scope.kind = .function)
    (ho : s.heap.get? f = some fo) (hd : fo.data = .func (fnOf name qual params body scope dV kV doc pm an cdv ct)) (hcd : s.heap.CodeRec cdv qual) (hroom : A.depth < recursionLimit)
    (hbind : BindsTo s (fnOf name qual params body scope dV kV doc pm an cdv ct) args binds)
    (hkind : ∀ x ∈ binds, scope.names.lookup x.1 = some .local ∨ scope.names.lookup x.1 = some .cell)
    (hnd : ((cellsFrom 0 scope.names []).map (·.1)).Nodup)
    (h : ∀ g L' h₁ tk cells, Fr h₀ L g m → KtsDicts ((env :: outer).filterMap (·.frame)) g → Fr g L' h₁ (bindL (fun x => scope.names.lookup x) binds fun _ => none) → News g L' h₁ (cells ++ news) →
      CellsAre (bindC (fun x => scope.names.lookup x) binds fun _ => none) (cellsFrom (L' + 1) scope.names []) cells → Below A base (env :: outer) g → (∀ p ∈ news, p.1 < L') → (∀ p ∈ cells, L' < p.1) →
      wpAny (model prog w) (A.deeper (envX qual scope L' f cdv (cellsFrom (L' + 1) scope.names []))) (execs body (envX qual scope L' f cdv (cellsFrom (L' + 1) scope.names [])))
        (fun fl s' => LeaveX A₀ base outer env h₀ L m g R (match fl with | .ret v => v | _ => .none) s')
        (fun e s' => wpAny (model prog w) (A.deeper (envX qual scope L' f cdv (cellsFrom (L' + 1) scope.names []))) (leaving (envX qual scope L' f cdv (cellsFrom (L' + 1) scope.names [])) e) (fun _ s'' => R (.error e) s'') (fun e' s'' => R (.error e') s'') s')
        { s with heap := h₁, toks := tk })
    (hco : scope.isCoroutine = false) (hgen : scope.isGenerator = false) (hk : scope.kind = .function) : codeAny (model prog w) A (.call (.ref f) args) R s := by
  have nm : ∀ b o, h₀.get? b = some o → b ∉ news.map (·.1) := fun b o e q => by
    refine byG fun G_ bk_ => ?_; obtain ⟨p, hp, rfl⟩ := List.mem_map.mp q; refine bk_ ?_; clear bk_
    rw [(N p hp).2.2] at e; injection e
  have st : h₀.StaysIn (hideAll s.heap (news.map (·.1))) := fun b o e => hideAll_get _ (F.keep b o e) (nm b o e)
  refine byG fun G_ bk_ => ?_
  obtain ⟨oL, es, ep, hL, hLd, hLk, hLf⟩ := id F.ns
  refine bk_ ?_
  have nL : L ∉ news.map (·.1) := fun q => by
    refine byG fun G_ bk_ => ?_; obtain ⟨p, hp, e⟩ := List.mem_map.mp q; refine bk_ ?_; clear bk_
    exact (N p hp).2.1 e
  have hLg := hideAll_get (news.map (·.1)) hL nL
  refine byG fun G_ bk_ => ?_; obtain ⟨FG, BG, _, _⟩ := groundX (R := R) B F N hA hf hke; refine bk_ ?_; clear bk_
  have nL₀ : h₀.get? L = none := kts_self F
  refine codeAny_call_function hroom ho hd hco hgen rfl hcd (hbind _ _ _ _ ?_)
  refine wpAny_newFunctionEnv_cells hk (fun x hx => ?_) fun env' he s' x => ?_
  · rcases hkind x hx with h | h
    · exact .inl h
    · exact .inr ⟨h, cellsFrom_cell (lookup_mem h)⟩
  subst he
  refine ⟨(hlim.keeps F.keep).keeps x.toInCall.keep, codeAny_func ?_⟩
  refine byG fun G_ bk_ => ?_; obtain ⟨h₁, tk, rfl, _⟩ := x.done
  have hk₁ := x.toInCall.keep
  obtain ⟨cells, NC, Y⟩ := Cl.news (h₀ := s.heap) (Nat.le_refl _) fun n c hm => ⟨x.cell n c (lookup_of_mem_nodup (cellsFrom_names scope.names 0 (s.heap.objs.size + 1) [] [] rfl ▸ hnd) hm), x.above n c hm⟩; refine bk_ ?_; clear bk_
  refine wpAny_mono (h _ s.heap.objs.size h₁ tk cells FG (fun b hb => ?_) ⟨x.toInCall.ns, fun b o e => hk₁ b o (of_hideAll _ e), Nat.le_of_eq (hideAll_size _ _)⟩ (fun p hp => ?_) Y BG (fun p hp => Heap.lt_size (N p hp).1) fun p hp => ?_) (fun fl s' hl => ?_) fun _ _ y => y
  · rcases memX hf hb with rfl | hb
    · exact ⟨oL, es, ep, hLg, hLd⟩
    · refine byG fun G_ bk_ => ?_; obtain ⟨o, es', n', ho', hd'⟩ := D b hb; refine bk_ ?_; clear bk_
      exact ⟨o, es', n', st b o ho', hd'⟩
  · rcases List.mem_append.mp hp with hp | hp
    · refine ⟨(NC p hp).1, (NC p hp).2.1, ?_⟩
      cases q : (hideAll s.heap (news.map (·.1))).get? p.1 with
      | none => rfl
      | some o => have := of_hideAll _ q; rw [(NC p hp).2.2] at this; injection this
    · exact ⟨hk₁ _ _ (N p hp).1, Nat.ne_of_lt (Heap.lt_size (N p hp).1), hideAll_none _ (List.mem_map_of_mem hp)⟩
  · obtain ⟨n, hn⟩ := cellsAre_mem Y p hp
    exact x.above n _ hn
  · obtain ⟨g', L', m', news', T', F', N', k⟩ := hl
    obtain ⟨sl, hs⟩ := T'.up hLg
    obtain ⟨T₁, S₁⟩ := kts_turn_at (h := s'.heap) (fs := outer.filterMap (·.frame)) (g := h₀)
      (fun b hb => by
        refine byG fun G_ bk_ => ?_; obtain ⟨_, o, ho', _⟩ := B.frames.mem hb; refine bk_ ?_; clear bk_
        exact ⟨o, ho'⟩)
      (fun b o e nmem => F'.keep b o (T'.other b o (st b o e) (fun q => by
        rcases memX hf q with z | z
        · rw [z, nL₀] at e
          injection e
        · exact nmem z)))
      (fun b o e hm => by
        obtain ⟨sl', hs'⟩ := T'.up (st b o e)
        exact ⟨sl', F'.keep _ _ hs'⟩)
    have B₃ : Below A₀ base outer (ktsHeap s'.heap (outer.filterMap (·.frame)) h₀) := ⟨B.stack, fun b o e => T₁.other b o (B.stays b o e) (fun hm => by
      rw [(B.frames.mem hm).1] at e
      injection e), B.frames.of_keeps fun b o e _ => by
      obtain ⟨sl', hs'⟩ := T₁.up e
      exact ⟨_, hs', rfl⟩⟩
    refine k _ T₁ ⟨⟨_, es, ep, F'.keep _ _ hs, hLd, hLk, hLf⟩, S₁, by rw [T₁.size]; exact F.above⟩ (fun p hp => ⟨(N' p hp).1, fun q => ?_, ?_⟩) B₃
    · have := (N' p hp).2.2; rw [q, hs] at this; injection this
    · refine T₁.none_ _ ?_
      cases q : h₀.get? p.1 with
      | none => rfl
      | some o =>
        obtain ⟨sl', hs'⟩ := T'.up (st _ _ q)
        have := (N' p hp).2.2
        rw [hs'] at this
        injection this
end
end Mine
end
section
open PySem PySem.W PySem.Calls PyProof.Rows PySem.Spec PySem.SeqAt
namespace Mine
/-- a key of the bank's table: a word, the empty tuple and two zeros -/
noncomputable def IsBk (h : Heap) (x : Str) (a : Addr) : Prop := PyData.strOk x = true ∧ ∃ o n t e u v oe m, h.get? a = some o ∧ o.cls = .type "tuple" ∧ o.data = .seq #[.str x t, .ref e, .int 0 u, .int 0 v] n ∧ h.get? e = some oe ∧ oe.cls = .type "tuple" ∧ oe.data = .seq #[] m
noncomputable def bkData (x : Str) : PyData := .tuple [.str x, .tuple [], .int 0, .int 0]
theorem IsBk.reads {h : Heap} {x : Str} {a : Addr} (k : IsBk h x a) : Reads h (.ref a) (bkData x) [] := by
  refine byG fun G_ bk_ => ?_; obtain ⟨_, o, n, t, e, u, v, oe, m, h1, h2, h3, h4, h5, h6⟩ := k; refine bk_ ?_; clear bk_
  have he : Reads h (.ref e) (.tuple []) [] := .tuple h4 h5 h6 .nil
  exact .tuple h1 h2 h3 (ReadsAll.cons (as := []) (bs := []) (.str x t) (ReadsAll.cons (as := []) (bs := []) he (ReadsAll.cons (as := []) (bs := []) (.int 0 u) (ReadsAll.cons (as := []) (bs := []) (.int 0 v) .nil))))
theorem bk_lay {x : Str} (h : PyData.strOk x = true) : (bkData x).canLay0 = true := by
  simp [bkData, PyData.canLay0, PyData.canLayAll0, h]
noncomputable def bkHash (w : World) (x : Str) : Int := reduceHash (Builtin.Tuple.tupleHashOf [hashStr w x, reduceHash (Builtin.Tuple.tupleHashOf []), hashInt 0, hashInt 0])
section
variable {prog : Program} {w : World} {A : Around} {E : Value → Shared → Prop} {s : Shared}
theorem bk_hash {x : Str} {a : Addr} {Q : Int → Shared → Prop} (hu : A.units + 1 < cLine) (hk : IsBk s.heap x a) (h : Q (bkHash w x) { s with toks := s.toks + 5 }) : wpAny (model prog w) A (pyHash (.ref a)) Q E s := by
  refine byG fun G_ bk_ => ?_; obtain ⟨_, o, n, t, e, u, v, oe, m, h1, h2, h3, h4, h5, h6⟩ := hk; refine bk_ ?_; clear bk_
  have hT : s.TypeIs (.ref a) "tuple" := ⟨o, h1, h2⟩
  first | unfold pyHashByItsType | skip
  first | refine wpAny_bind (wpAny_cRoomFor_or (.inr (by walk_at "om")) ?_) | skip
  refine wpAny_bind (wpAny_specialOf hT F.slot_tuple_hash.lookup ?_)
  refine (?_ : wpAny _ _ (if (some (Value.builtin "tuple.__hash__") == some Value.none) = true then _ else _) Q E s)
  rw [if_neg (by rw [beq_builtin_none]; exact Bool.false_ne_true)]
  refine wpAny_bind (wpAny_specialOf hT F.slot_tuple_hash.lookup ?_)
  refine wpAny_bind (wpAny_callSpecialIfBoundUnlessNone?_slot hT F.slot_tuple_hash (wpAny_call_entry F.slot_tuple_hash hT F.entry_tuple_hash ?_ (F.args_tuple_hash_1 _)))
  refine (?_ : wpAny _ _ (Builtin.Tuple.tupleItemsOf (.ref a) >>= _) _ _ s)
  refine wpAny_bind (wpAny_tupleItemsOf h1 h3 ?_)
  refine wpAny_bind ?_
  with_reducible refine rwE (Eq.symm Array.forIn_toList) ?_
  refine (?_ : wpAny _ _ (forIn [Value.str x t, .ref e, .int 0 u, .int 0 v] _ _) _ _ _)
  rw [List.forIn_cons]
  refine wpAny_bind (wpAny_bind (wpAny_pyHash_str ?_))
  refine wpAny_bind (wpAny_pure (wpAny_pure ?_))
  dsimp only
  rw [List.forIn_cons]
  refine wpAny_bind (wpAny_bind (wpAny_pyHash_tuple (knd := strKind prog w) (ks := []) (by refine (?_ : A.in1.units < cLine); rw [Around.in1_units]; exact hu) ⟨oe, #[], m, h4, h5, h6, .nil⟩ ?_))
  refine wpAny_bind (wpAny_pure (wpAny_pure ?_))
  dsimp only
  rw [List.forIn_cons]
  refine wpAny_bind (wpAny_bind (wpAny_pyHash_int ?_))
  refine wpAny_bind (wpAny_pure (wpAny_pure ?_))
  dsimp only
  rw [List.forIn_cons]
  refine wpAny_bind (wpAny_bind (wpAny_pyHash_int ?_))
  refine wpAny_bind (wpAny_pure (wpAny_pure ?_))
  dsimp only
  refine wpAny_pure ?_
  refine (?_ : wpAny _ _ (retInt (Builtin.Tuple.tupleHashOf _)) _ _ _)
  refine wpAny_ret_mkInt ?_
  have e1 : Builtin.Tuple.tupleHashOf ((((((#[] : Array Int).push (hashStr w x)).push (tupleKeyHash (strKind prog w) [])).push (hashInt 0)).push (hashInt 0)).toList) = Builtin.Tuple.tupleHashOf [hashStr w x, reduceHash (Builtin.Tuple.tupleHashOf []), hashInt 0, hashInt 0] := rfl
  with_reducible refine rwE e1 ?_
  unfold bkHash at h
  generalize Builtin.Tuple.tupleHashOf [hashStr w x, reduceHash (Builtin.Tuple.tupleHashOf []), hashInt 0, hashInt 0] = z at h
  refine (?_ : wpAny _ _ (if (decide (-(2 : Int) ^ 63 ≤ z) && decide (z < 2 ^ 63)) = true then _ else _) Q E _)
  unfold reduceHash at h
  by_cases hr : (decide (-(2 : Int) ^ 63 ≤ z) && decide (z < 2 ^ 63)) = true
  · with_reducible refine rwE (if_pos hr) ?_
    rw [if_pos hr] at h
    exact wpAny_pure (by simpa [Nat.add_assoc] using h)
  · with_reducible refine rwE (if_neg hr) ?_
    rw [if_neg hr] at h
    exact wpAny_bind (wpAny_rule (wpAny_pure (by simpa [Nat.add_assoc] using h)))
theorem bk_quiet0 {e : Addr} {oe : Obj} {m n : Nat} {Q : Bool → Shared → Prop} (h4 : s.heap.get? e = some oe) (h5 : oe.cls = .type "tuple") (h6 : oe.data = .seq #[] m) (h : Q true s) : wpAny (model prog w) A (eqIsQuiet (n + 1) (.ref e)) Q E s := by
  have hTe : s.TypeIs (.ref e) "tuple" := ⟨oe, h4, h5⟩
  unfold eqIsQuiet
  refine wpAny_bind (wpAny_specialOf hTe F.slot_tuple_eq.lookup ?_)
  refine wpAny_bind (wpAny_isInstance hTe isSubtype_tuple_tuple ?_)
  refine wpAny_bind (wpAny_seqItems h4 h6 ?_)
  refine wpAny_bind ?_
  refine (?_ : wpAny _ _ (forIn (#[] : Array Value) _ _) _ _ s)
  with_reducible refine rwE (Eq.symm Array.forIn_toList) ?_
  refine (?_ : wpAny _ _ (forIn ([] : List Value) _ _) _ _ s)
  refine wpAny_pure ?_
  exact wpAny_pure h
theorem bk_quiet {x : Str} {a : Addr} {Q : Bool → Shared → Prop} (hk : IsBk s.heap x a) (h : Q true s) : wpAny (model prog w) A (eqIsQuiet 8 (.ref a)) Q E s := by
  refine byG fun G_ bk_ => ?_; obtain ⟨_, o, n, t, e, u, v, oe, m, h1, h2, h3, h4, h5, h6⟩ := hk; refine bk_ ?_; clear bk_
  have hT : s.TypeIs (.ref a) "tuple" := ⟨o, h1, h2⟩
  have hTe : s.TypeIs (.ref e) "tuple" := ⟨oe, h4, h5⟩
  unfold eqIsQuiet
  refine wpAny_bind (wpAny_specialOf hT F.slot_tuple_eq.lookup ?_)
  refine wpAny_bind (wpAny_isInstance hT isSubtype_tuple_tuple ?_)
  refine wpAny_bind (wpAny_seqItems h1 h3 ?_)
  refine wpAny_bind ?_
  refine (?_ : wpAny _ _ (forIn (#[Value.str x t, .ref e, .int 0 u, .int 0 v]) _ _) _ _ s)
  with_reducible refine rwE (Eq.symm Array.forIn_toList) ?_
  refine (?_ : wpAny _ _ (forIn [Value.str x t, .ref e, .int 0 u, .int 0 v] _ _) _ _ s)
  (rewrite [List.forIn_cons]; with_reducible refine rwE (eqIsQuiet_byValue _ (rfl : carriedByValue (Value.str x t) = true)) ?_)
  refine wpAny_bind (wpAny_bind (wpAny_pure ?_))
  refine wpAny_pure ?_
  dsimp only
  rw [List.forIn_cons]
  refine wpAny_bind (wpAny_bind ?_)
  refine bk_quiet0 h4 h5 h6 ?_
  refine wpAny_pure ?_
  dsimp only
  (rewrite [List.forIn_cons]; with_reducible refine rwE (eqIsQuiet_byValue _ (rfl : carriedByValue (Value.int 0 u) = true)) ?_)
  refine wpAny_bind (wpAny_bind (wpAny_pure ?_))
  refine wpAny_pure ?_
  dsimp only
  (rewrite [List.forIn_cons]; with_reducible refine rwE (eqIsQuiet_byValue _ (rfl : carriedByValue (Value.int 0 v) = true)) ?_)
  refine wpAny_bind (wpAny_bind (wpAny_pure ?_))
  refine wpAny_pure ?_
  dsimp only
  refine wpAny_pure ?_
  exact wpAny_pure h
end
noncomputable def bankKind (prog : Program) (w : World) : HeapKind prog w Str where
  is := IsBk
  hash := bkHash w
  draws := fun _ => 5
  room := fun A => A.units + 4 < cLine
  inj := fun hx hy => by
    obtain ⟨_, o, n, t, e, u, v, oe, m, h1, h2, h3, h4, h5, h6⟩ := hx
    obtain ⟨_, o', n', t', e', u', v', oe', m', h1', h2', h3', h4', h5', h6'⟩ := hy
    rw [h1] at h1'
    (injection h1' with e0; (first | subst e0 | cases e0))
    rw [h3] at h3'
    injection h3' with h3' _
    injection h3' with h3'
    injection h3' with h3' _
    injection h3'
  keeps := fun {h h' k a d o es ep} hk ho hd hs => by
    obtain ⟨hok, o1, n, t, e, u, v, oe, m, h1, h2, h3, h4, h5, h6⟩ := hk
    have ha : a ≠ d := by
      rintro rfl
      rw [ho] at h1; (injection h1 with e0; (first | subst e0 | cases e0)); rw [hd] at h3; injection h3
    have he : e ≠ d := by
      rintro rfl
      rw [ho] at h4; (injection h4 with e0; (first | subst e0 | cases e0)); rw [hd] at h6; injection h6
    exact ⟨hok, o1, n, t, e, u, v, oe, m, (hs.2 a ha).trans h1, h2, h3, (hs.2 e he).trans h4, h5, h6⟩
  pyHash := fun hu hk h => bk_hash (by walk_at "om") hk h
  eqBool := fun {A E s x y a b Q} hu hx hy h => by
    refine eqBoolOverData _ _ A E s _ _ _ _ _ _ Q hx.reads hy.reads (bk_lay hx.1) (bk_lay hy.1) ?_ ?_
    · have e1 : (bkData x).depth ≤ 4 := by simp [bkData, PyData.depth, PyData.depthAll]
      exact Nat.lt_of_le_of_lt (Nat.add_le_add_left (ar_minL e1) A.units) hu
    · have e2 : (bkData x).eqv (bkData y) = decide (x = y) := by
        simp only [bkData, PyData.eqv, PyData.eqvAll, Bool.and_true, beq_self_eq_true]
        rw [Bool.eq_iff_iff]; rfl
      with_reducible refine rwE e2 ?_; exact h
  quiet := fun hk h => bk_quiet hk h
end Mine
end
section
open PySem PySem.W PySem.Calls PyProof.Rows PySem.Spec
namespace Mine

/-- abstract values -/
inductive AV where
  | none | any
  | bool (b : Bool) | int (i : Int) | str (s : Str)
  | tup (vs : List AV) | flist (vs : List AV)
  | fdict (es : List (Str × AV)) | finst (C : Addr) (fs : List (Str × AV))
  | slc (x y z : AV)
  | rng (n : Int)
  | minst (C dx : Addr)
  | pair (vs : List AV)
  | obj (a : Addr) | stat (v : Value)
/-- abstract mutable objects -/
inductive AO where
  | list (vs : List AV)
  | dict (es : List (Str × AV))
  | rev (as : List AV)
  | enu (y : Addr)
  | tit (as : List AV)
  | tab (ks : List Str)
  | ns (fs : List (Str × AV))

noncomputable abbrev Tab := Addr → Obj → Prop
noncomputable abbrev Led := List (Addr × Obj)
noncomputable abbrev Mem := List (Addr × AO)
noncomputable abbrev Loc := Str → Option AV

structure Wd where
  prog : Program
  w : World
  K : Frag
  p : Program
  loose : List Str
  mean : ExcName → Option Value
  mg : Str → Option Value
  mb : Str → Option Value
  /-- the class of the faults -/
  X : Addr
structure Fx where
  nm : Str
  sc : Scope
  fa : Addr
  cd : Value
  /-- the names' block, where it is a comprehension's -/
  co : Option Scope := none
/-- the concrete things of a comprehension's block -/
structure Co where
  C : Addr
  oC : Obj
  m₂ : Str → Option Value
  ccl : List (Str × Addr)
  m₀ : Str → Option Value
/-- the concrete things of a frame -/
structure Cy where
  A : Around
  base : Heap
  outer : List Env
  g₀ : Heap
  L : Addr
  Fm : Led
  cl : List (Str × Addr) := []
  co : Option Co := none
noncomputable def Cy.cells (d : Cy) : List (Str × Addr) := match d.co with
  | none => d.cl
  | some c => c.ccl

noncomputable def TupW (o : Obj) (us : List Value) : Prop := o.cls = .type "tuple" ∧ ∃ n, o.data = .seq us.toArray n
noncomputable def TupO (o : Obj) (us : List Value) : Prop := TupW o us ∧ o.dict = none
noncomputable def LstO (o : Obj) (us : List Value) : Prop := ∃ n, o = listOf us.toArray n
noncomputable def DicO (W : Wd) (o : Obj) (kvs : List (Str × Value)) : Prop :=
  o.ExactDict ∧ ∃ es ep, o.data = .dict es ep ∧ KeysOf (strKind W.prog W.w) es ∧ Pairs (strKind W.prog W.w) es.toList kvs ∧ (kvs.map (·.1)).Nodup
noncomputable def keyStr : Value → Str
  | .str x _ => x
  | _ => Str.empty
/-- an object's own dict: its fields in order -/
noncomputable def NsO (o : Obj) (kvs : List (Str × Value)) : Prop :=
  ∃ es ep, o.data = .dict es ep ∧ (∀ e ∈ es.toList, ∃ x t, e.key = .str x t) ∧ es.toList.map (fun e => (keyStr e.key, e.val)) = kvs

/-- it stays as it is: new, or written out at the top -/
noncomputable def AtS (W : Wd) (S : Tab) (a : Addr) (o : Obj) : Prop := S a o ∨ W.K.lookup a = some o
mutual
inductive VR (W : Wd) (S : Tab) : Value → AV → Prop
  | none : VR W S .none .none
  | any (v : Value) : VR W S v .any
  | bool (b : Bool) : VR W S (.bool b) (.bool b)
  | int (i : Int) (t : Tok) : VR W S (.int i t) (.int i)
  | str (s : Str) (t : Tok) : VR W S (.str s t) (.str s)
  | tup (a : Addr) (o : Obj) (us : List Value) (as : List AV) : AtS W S a o → TupO o us → VRs W S us as → VR W S (.ref a) (.tup as)
  | flist (a : Addr) (o : Obj) (us : List Value) (as : List AV) : AtS W S a o → LstO o us → VRs W S us as → VR W S (.ref a) (.flist as)
  | fdict (a : Addr) (o : Obj) (kvs : List (Str × Value)) (es : List (Str × AV)) : AtS W S a o → DicO W o kvs → VRd W S kvs es → VR W S (.ref a) (.fdict es)
  | finst (a d : Addr) (od : Obj) (C : Addr) (kvs : List (Str × Value)) (fs : List (Str × AV)) : AtS W S a (instObj C d) → AtS W S d od → NsO od kvs → VRd W S kvs fs → VR W S (.ref a) (.finst C fs)
  | slc (a : Addr) (x y z : Value) (p q r : AV) : AtS W S a { cls := .type "slice", data := .fields #[x, y, z] } → VR W S x p → VR W S y q → VR W S z r → VR W S (.ref a) (.slc p q r)
  | rng (a : Addr) (n : Int) (t u v : Tok) : AtS W S a { cls := .type "range", data := .fields #[.int 0 t, .int n u, .int 1 v] } → VR W S (.ref a) (.rng n)
  | pair (a : Addr) (o : Obj) (us : List Value) (as : List AV) : AtS W S a o → TupW o us → VRs W S us as → VR W S (.ref a) (.pair as)
  | minst (a C dx : Addr) : AtS W S a (instObj C dx) → VR W S (.ref a) (.minst C dx)
  | obj (a : Addr) : VR W S (.ref a) (.obj a)
  | stat (v : Value) : VR W S v (.stat v)
inductive VRs (W : Wd) (S : Tab) : List Value → List AV → Prop
  | nil : VRs W S [] []
  | cons (v : Value) (a : AV) (vs : List Value) (as : List AV) : VR W S v a → VRs W S vs as → VRs W S (v :: vs) (a :: as)
inductive VRd (W : Wd) (S : Tab) : List (Str × Value) → List (Str × AV) → Prop
  | nil : VRd W S [] []
  | cons (x : Str) (v : Value) (a : AV) (vs : List (Str × Value)) (as : List (Str × AV)) : VR W S v a → VRd W S vs as → VRd W S ((x, v) :: vs) ((x, a) :: as)
end

section
variable {W : Wd} {S : Tab}
/-- what a value is, by what it stands for -/
noncomputable def VR.Inv (W : Wd) (S : Tab) : Value → AV → Prop
  | v, .none => v = .none
  | v, .bool b => v = .bool b
  | v, .int i => ∃ t, v = .int i t
  | v, .str s => ∃ t, v = .str s t
  | v, .tup as => ∃ a o us, v = .ref a ∧ AtS W S a o ∧ TupO o us ∧ VRs W S us as
  | v, .flist as => ∃ a o us, v = .ref a ∧ AtS W S a o ∧ LstO o us ∧ VRs W S us as
  | v, .fdict es => ∃ a o kvs, v = .ref a ∧ AtS W S a o ∧ DicO W o kvs ∧ VRd W S kvs es
  | v, .finst C fs => ∃ a d od kvs, v = .ref a ∧ AtS W S a (instObj C d) ∧ AtS W S d od ∧ NsO od kvs ∧ VRd W S kvs fs
  | v, .slc p q r => ∃ a x y z, v = .ref a ∧ AtS W S a { cls := .type "slice", data := .fields #[x, y, z] } ∧ VR W S x p ∧ VR W S y q ∧ VR W S z r
  | w, .rng n => ∃ a t u v, w = .ref a ∧ AtS W S a { cls := .type "range", data := .fields #[.int 0 t, .int n u, .int 1 v] }
  | v, .pair as => ∃ a o us, v = .ref a ∧ AtS W S a o ∧ TupW o us ∧ VRs W S us as
  | v, .minst C dx => ∃ a, v = .ref a ∧ AtS W S a (instObj C dx)
  | v, .obj a => v = .ref a
  | _, .any => True
  | v, .stat u => v = u
theorem VR.inv {v : Value} {a : AV} (h : VR W S v a) : VR.Inv W S v a :=
  h.casesOn (motive_1 := fun v a _ => VR.Inv W S v a) rfl (fun _ => trivial) (fun _ => rfl) (fun _ _ => ⟨_, rfl⟩) (fun _ _ => ⟨_, rfl⟩) (fun _ _ _ _ h1 h2 h3 => ⟨_, _, _, rfl, h1, h2, h3⟩) (fun _ _ _ _ h1 h2 h3 => ⟨_, _, _, rfl, h1, h2, h3⟩) (fun _ _ _ _ h1 h2 h3 => ⟨_, _, _, rfl, h1, h2, h3⟩)
    (fun _ _ _ _ _ _ h1 h2 h3 h4 => ⟨_, _, _, _, rfl, h1, h2, h3, h4⟩) (fun _ _ _ _ _ _ _ h1 h2 h3 h4 => ⟨_, _, _, _, rfl, h1, h2, h3, h4⟩) (fun _ _ _ _ _ h1 => ⟨_, _, _, _, rfl, h1⟩) (fun _ _ _ _ h1 h2 h3 => ⟨_, _, _, rfl, h1, h2, h3⟩) (fun _ _ _ h1 => ⟨_, rfl, h1⟩) (fun _ => rfl) (fun _ => rfl)
theorem VR.noneE {m : ∀ v, VR W S v .none → Prop} (none : m .none .none) {v : Value} (r : VR W S v .none) : m v r := by
  obtain rfl := VR.inv r
  exact none
theorem VR.boolE {b : Bool} {m : ∀ v, VR W S v (.bool b) → Prop} (bool : m (.bool b) (.bool b)) {v : Value} (r : VR W S v (.bool b)) : m v r := by
  obtain rfl := VR.inv r
  exact bool
theorem VR.intE {i : Int} {m : ∀ v, VR W S v (.int i) → Prop} (int : ∀ t, m (.int i t) (.int i t)) {v : Value} (r : VR W S v (.int i)) : m v r := by
  obtain ⟨t, rfl⟩ := VR.inv r
  exact int t
theorem VR.strE {s : Str} {m : ∀ v, VR W S v (.str s) → Prop} (str : ∀ t, m (.str s t) (.str s t)) {v : Value} (r : VR W S v (.str s)) : m v r := by
  obtain ⟨t, rfl⟩ := VR.inv r
  exact str t
theorem VR.tupE {as : List AV} {m : ∀ v, VR W S v (.tup as) → Prop} (tup : ∀ a o us h1 h2 h3, m (.ref a) (.tup a o us as h1 h2 h3)) {v : Value} (r : VR W S v (.tup as)) : m v r := by
  obtain ⟨a, o, us, rfl, h1, h2, h3⟩ := VR.inv r
  exact tup a o us h1 h2 h3
theorem VR.flistE {as : List AV} {m : ∀ v, VR W S v (.flist as) → Prop} (flist : ∀ a o us h1 h2 h3, m (.ref a) (.flist a o us as h1 h2 h3)) {v : Value} (r : VR W S v (.flist as)) : m v r := by
  obtain ⟨a, o, us, rfl, h1, h2, h3⟩ := VR.inv r
  exact flist a o us h1 h2 h3
theorem VR.fdictE {es : List (Str × AV)} {m : ∀ v, VR W S v (.fdict es) → Prop} (fdict : ∀ a o kvs h1 h2 h3, m (.ref a) (.fdict a o kvs es h1 h2 h3)) {v : Value} (r : VR W S v (.fdict es)) : m v r := by
  obtain ⟨a, o, kvs, rfl, h1, h2, h3⟩ := VR.inv r
  exact fdict a o kvs h1 h2 h3
theorem VR.finstE {C : Addr} {fs : List (Str × AV)} {m : ∀ v, VR W S v (.finst C fs) → Prop} (finst : ∀ a d od kvs h1 h2 h3 h4, m (.ref a) (.finst a d od C kvs fs h1 h2 h3 h4)) {v : Value} (r : VR W S v (.finst C fs)) : m v r := by
  obtain ⟨a, d, od, kvs, rfl, h1, h2, h3, h4⟩ := VR.inv r
  exact finst a d od kvs h1 h2 h3 h4
theorem VR.slcE {p : AV} {q : AV} {r : AV} {m : ∀ v, VR W S v (.slc p q r) → Prop} (slc : ∀ a x y z h1 h2 h3 h4, m (.ref a) (.slc a x y z p q r h1 h2 h3 h4)) {v : Value} (r : VR W S v (.slc p q r)) : m v r := by
  obtain ⟨a, x, y, z, rfl, h1, h2, h3, h4⟩ := VR.inv r
  exact slc a x y z h1 h2 h3 h4
theorem VR.rngE {n : Int} {m : ∀ v, VR W S v (.rng n) → Prop} (rng : ∀ a t u v h1, m (.ref a) (.rng a n t u v h1)) {v : Value} (r : VR W S v (.rng n)) : m v r := by
  obtain ⟨a, t, u, v, rfl, h1⟩ := VR.inv r
  exact rng a t u v h1
theorem VR.pairE {as : List AV} {m : ∀ v, VR W S v (.pair as) → Prop} (pair : ∀ a o us h1 h2 h3, m (.ref a) (.pair a o us as h1 h2 h3)) {v : Value} (r : VR W S v (.pair as)) : m v r := by
  obtain ⟨a, o, us, rfl, h1, h2, h3⟩ := VR.inv r
  exact pair a o us h1 h2 h3
theorem VR.minstE {C : Addr} {dx : Addr} {m : ∀ v, VR W S v (.minst C dx) → Prop} (minst : ∀ a h1, m (.ref a) (.minst a C dx h1)) {v : Value} (r : VR W S v (.minst C dx)) : m v r := by
  obtain ⟨a, rfl, h1⟩ := VR.inv r
  exact minst a h1
theorem VR.objE {a : Addr} {m : ∀ v, VR W S v (.obj a) → Prop} (obj : m (.ref a) (.obj a)) {v : Value} (r : VR W S v (.obj a)) : m v r := by
  obtain rfl := VR.inv r
  exact obj
theorem VRs.nilE {m : ∀ vs, VRs W S vs [] → Prop} (nil : m [] .nil) : ∀ {vs : List Value} (r : VRs W S vs []), m vs r
  | _, .nil => nil
theorem VRs.consE {a : AV} {as : List AV} {m : ∀ vs, VRs W S vs (a :: as) → Prop} (cons : ∀ v vs h1 h2, m (v :: vs) (.cons v a vs as h1 h2)) : ∀ {vs : List Value} (r : VRs W S vs (a :: as)), m vs r
  | _, .cons v _ vs _ h1 h2 => cons v vs h1 h2
theorem VRd.nilE {m : ∀ vs, VRd W S vs [] → Prop} (nil : m [] .nil) : ∀ {vs : List (Str × Value)} (r : VRd W S vs []), m vs r
  | _, .nil => nil
theorem VRd.consE {x : Str} {a : AV} {as : List (Str × AV)} {m : ∀ vs, VRd W S vs ((x, a) :: as) → Prop} (cons : ∀ v vs h1 h2, m ((x, v) :: vs) (.cons x v a vs as h1 h2)) : ∀ {vs : List (Str × Value)} (r : VRd W S vs ((x, a) :: as)), m vs r
  | _, .cons _ v _ vs _ h1 h2 => cons v vs h1 h2
theorem VRs.ind {m : ∀ us as, VRs W S us as → Prop} (nil : m [] [] .nil) (cons : ∀ v a us as r rs, m us as rs → m (v :: us) (a :: as) (.cons v a us as r rs)) : ∀ {us : List Value} {as : List AV} (h : VRs W S us as), m us as h :=
  @fun us as h => VRs.rec (motive_1 := fun _ _ _ => True) (motive_2 := m) (motive_3 := fun _ _ _ => True) trivial (fun _ => trivial) (fun _ => trivial) (fun _ _ => trivial) (fun _ _ => trivial) (fun _ _ _ _ _ _ _ _ => trivial) (fun _ _ _ _ _ _ _ _ => trivial) (fun _ _ _ _ _ _ _ _ => trivial) (fun _ _ _ _ _ _ _ _ _ _ _ => trivial) (fun _ _ _ _ _ _ _ _ _ _ _ _ _ _ => trivial) (fun _ _ _ _ _ _ => trivial) (fun _ _ _ _ _ _ _ _ => trivial) (fun _ _ _ _ => trivial) (fun _ => trivial) (fun _ => trivial) nil (fun v a us as r rs _ ih => cons v a us as r rs ih) trivial (fun _ _ _ _ _ _ _ _ _ => trivial) h
theorem VRd.ind {m : ∀ us as, VRd W S us as → Prop} (nil : m [] [] .nil) (cons : ∀ x v a us as r rs, m us as rs → m ((x, v) :: us) ((x, a) :: as) (.cons x v a us as r rs)) : ∀ {us : List (Str × Value)} {as : List (Str × AV)} (h : VRd W S us as), m us as h :=
  @fun us as h => VRd.rec (motive_1 := fun _ _ _ => True) (motive_2 := fun _ _ _ => True) (motive_3 := m) trivial (fun _ => trivial) (fun _ => trivial) (fun _ _ => trivial) (fun _ _ => trivial) (fun _ _ _ _ _ _ _ _ => trivial) (fun _ _ _ _ _ _ _ _ => trivial) (fun _ _ _ _ _ _ _ _ => trivial) (fun _ _ _ _ _ _ _ _ _ _ _ => trivial) (fun _ _ _ _ _ _ _ _ _ _ _ _ _ _ => trivial) (fun _ _ _ _ _ _ => trivial) (fun _ _ _ _ _ _ _ _ => trivial) (fun _ _ _ _ => trivial) (fun _ => trivial) (fun _ => trivial) trivial (fun _ _ _ _ _ _ _ _ => trivial) nil (fun x v a us as r rs _ ih => cons x v a us as r rs ih) h
end
noncomputable abbrev TabLe (S S' : Tab) : Prop := ∀ a o, S a o → S' a o

theorem VR.mono {W : Wd} {S S' : Tab} (k : TabLe S S') {v : Value} {a : AV} (h : VR W S v a) : VR W S' v a :=
  VR.rec (motive_1 := fun v a _ => VR W S' v a) (motive_2 := fun us as _ => VRs W S' us as) (motive_3 := fun us as _ => VRd W S' us as)
    .none .any .bool .int .str
    (fun a o us as h1 h2 _ h => .tup a o us as (h1.imp (k _ _) id) h2 h)
    (fun a o us as h1 h2 _ h => .flist a o us as (h1.imp (k _ _) id) h2 h)
    (fun a o kvs es h1 h2 _ h => .fdict a o kvs es (h1.imp (k _ _) id) h2 h)
    (fun a d od C kvs fs h1 h2 h3 _ h => .finst a d od C kvs fs (h1.imp (k _ _) id) (h2.imp (k _ _) id) h3 h)
    (fun a x y z p q r h1 _ _ _ h2 h3 h4 => .slc a x y z p q r (h1.imp (k _ _) id) h2 h3 h4)
    (fun a n t u v h1 => .rng a n t u v (h1.imp (k _ _) id))
    (fun a o us as h1 h2 _ h => .pair a o us as (h1.imp (k _ _) id) h2 h)
    (fun a C dx h1 => .minst a C dx (h1.imp (k _ _) id))
    .obj .stat .nil (fun v a vs as _ _ h1 h2 => .cons v a vs as h1 h2) .nil (fun x v a vs as _ _ h1 h2 => .cons x v a vs as h1 h2) h
theorem VRs.mono {W : Wd} {S S' : Tab} (k : TabLe S S') {vs : List Value} {as : List AV} (h : VRs W S vs as) : VRs W S' vs as :=
  VRs.ind (m := fun us as _ => VRs W S' us as) .nil (fun _ _ _ _ r _ ih => .cons _ _ _ _ (r.mono k) ih) h
theorem VRd.mono {W : Wd} {S S' : Tab} (k : TabLe S S') {vs : List (Str × Value)} {as : List (Str × AV)} (h : VRd W S vs as) : VRd W S' vs as :=
  VRd.ind (m := fun us as _ => VRd W S' us as) .nil (fun _ _ _ _ _ r _ ih => .cons _ _ _ _ _ (r.mono k) ih) h

noncomputable def revO (l : Addr) (i : Int) : Obj := { cls := .type "reversed", data := .fields #[.ref l, rawInt i] }
noncomputable def enuO (y : Addr) : Obj := { cls := .type "enumerate", dict := none, data := .fields #[.none, .bool false, .ref y, rawInt 0, .none, .none], slots := #[] }
noncomputable def titO (l : Addr) : Obj := { cls := .type "tuple_iterator", data := .fields #[.ref l, .int 0 0] }
inductive OR (W : Wd) (S : Tab) : Obj → AO → Prop
  | list (o : Obj) (us : List Value) (as : List AV) : LstO o us → VRs W S us as → OR W S o (.list as)
  | dict (o : Obj) (kvs : List (Str × Value)) (es : List (Str × AV)) : DicO W o kvs → VRd W S kvs es → OR W S o (.dict es)
  | rev (o : Obj) (l : Addr) (ot : Obj) (us : List Value) (as : List AV) : AtS W S l ot → TupO ot us → VRs W S us as → o = revO l ((us.length : Int) - 1) → OR W S o (.rev as)
  | enu (o : Obj) (y : Addr) : o = enuO y → OR W S o (.enu y)
  | ns (o : Obj) (es : List DictEntry) (n : Nat) (kvs : List (Str × Value)) (fs : List (Str × AV)) : o = dictOf es n → (∀ e ∈ es, ∃ x t, e.key = .str x t) → es.map (fun e => (keyStr e.key, e.val)) = kvs → VRd W S kvs fs → OR W S o (.ns fs)
  | tit (o : Obj) (l : Addr) (ot : Obj) (us : List Value) (as : List AV) : AtS W S l ot → TupO ot us → VRs W S us as → o = titO l → OR W S o (.tit as)
  | tab (o : Obj) (es : Array DictEntry) (ep : Nat) (xs : List (Str × Addr × Value)) : o.ExactDict → o.data = .dict es ep → es.toList = xs.map (entryOfKey (bankKind W.prog W.w)) → (∀ x ∈ xs, PyData.strOk x.1 = true ∧ VR W S (.ref x.2.1) (.tup [.str x.1, .tup [], .int 0, .int 0])) → (xs.map (·.1)).Nodup → OR W S o (.tab (xs.map (·.1)))
theorem OR.mono {W : Wd} {S S' : Tab} (k : TabLe S S') {o : Obj} {a : AO} (h : OR W S o a) : OR W S' o a := by
  cases h with
  | list us as h1 h2 => exact .list o us as h1 (h2.mono k)
  | dict kvs es h1 h2 => exact .dict o kvs es h1 (h2.mono k)
  | rev l ot us as h1 h2 h3 h4 => exact .rev o l ot us as (h1.imp (k _ _) id) h2 (h3.mono k) h4
  | enu y h1 => exact .enu o y h1
  | ns es n kvs fs h1 h2 h3 h4 => exact .ns o es n kvs fs h1 h2 h3 (h4.mono k)
  | tit l ot us as h1 h2 h3 h4 => exact .tit o l ot us as (h1.imp (k _ _) id) h2 (h3.mono k) h4
  | tab es ep xs h1 h2 h3 h4 h5 => exact .tab o es ep xs h1 h2 h3 (fun x hx => ⟨(h4 x hx).1, (h4 x hx).2.mono k⟩) h5

section
variable {W : Wd} {S : Tab} {o : Obj}
theorem OR.listE {as : List AV} {m : OR W S o (.list as) → Prop} (list : ∀ us h1 h2, m (.list o us as h1 h2)) (h : OR W S o (.list as)) : m h := by
  cases h with
  | list us as h1 h2 => exact list us h1 h2
theorem OR.dictE {es : List (Str × AV)} {m : OR W S o (.dict es) → Prop} (dict : ∀ kvs h1 h2, m (.dict o kvs es h1 h2)) (h : OR W S o (.dict es)) : m h := by
  cases h with
  | dict kvs es h1 h2 => exact dict kvs h1 h2
theorem OR.nsE {fs : List (Str × AV)} {m : OR W S o (.ns fs) → Prop} (ns : ∀ es n kvs h1 h2 h3 h4, m (.ns o es n kvs fs h1 h2 h3 h4)) (h : OR W S o (.ns fs)) : m h := by
  cases h with
  | ns es n kvs fs h1 h2 h3 h4 => exact ns es n kvs h1 h2 h3 h4
end

structure LedOk (W : Wd) (news Fm : Led) (S : Tab) (M : Mem) : Prop where
  fm : ∀ p ∈ Fm, p ∈ news
  tab : ∀ a o, S a o → (a, o) ∈ news
  mem : ∀ p ∈ M, ∃ o, (p.1, o) ∈ news ∧ OR W S o p.2
  nd : (M.map (·.1)).Nodup
  fmM : ∀ p ∈ M, ∀ q ∈ Fm, q.1 ≠ p.1
  tabM : ∀ p ∈ M, ∀ o, ¬ S p.1 o
  tabF : ∀ p ∈ Fm, ∀ o, ¬ S p.1 o
/-- what a name is bound to -/
noncomputable def Rd (W : Wd) (S : Tab) (d : Cy) (m : Str → Option Value) (x : Str) (v : Value) : Prop :=
  (d.cells.lookup x = none ∧ (match d.co with | none => m | some c => c.m₂) x = some v) ∨ ∃ c o, d.cells.lookup x = some c ∧ AtS W S c o ∧ o.data = .cell (some v)
noncomputable def LocOk (W : Wd) (S : Tab) (d : Cy) (m : Str → Option Value) (loc : Loc) : Prop := (∀ c, d.co = some c → m = c.m₀) ∧ ∀ x a, loc x = some a → ∃ v, Rd W S d m x v ∧ VR W S v a
theorem Rd.mono {W : Wd} {S S' : Tab} (k : TabLe S S') {d : Cy} {m : Str → Option Value} {x : Str} {v : Value} (h : Rd W S d m x v) : Rd W S' d m x v := by
  rcases h with h | ⟨c, o, h1, h2, h3⟩
  · exact .inl h
  · exact .inr ⟨c, o, h1, h2.imp (k _ _) id, h3⟩
theorem LocOk.mono {W : Wd} {S S' : Tab} (k : TabLe S S') {d : Cy} {m : Str → Option Value} {loc : Loc} (h : LocOk W S d m loc) : LocOk W S' d m loc :=
  ⟨h.1, fun x a e => let ⟨v, h1, h2⟩ := h.2 x a e; ⟨v, h1.mono k, h2.mono k⟩⟩

noncomputable def Fx.env (f : Fx) (d : Cy) : Env := envX f.nm f.sc d.L f.fa f.cd d.cl
/-- where the expressions are read -/
noncomputable def Fx.here (f : Fx) (d : Cy) : Env := match f.co, d.co with
  | some sc, some c => { scope := sc, locals := c.C, globals := mainGlobals, cells := c.ccl, qual := (f.env d).qual, func := none, code := f.cd, frame := some d.L, builtins := builtinsNs }
  | _, _ => f.env d
noncomputable def Fx.kindOf (f : Fx) (x : Str) : Option NameKind := match f.co with
  | none => f.sc.names.lookup x
  | some sc => sc.names.lookup x
noncomputable def Cy.fs (d : Cy) : List Addr := d.outer.filterMap (·.frame)

structure Ground (d : Cy) (g : Heap) : Prop where
  below : Below d.A d.base d.outer g
  turn : KtsTurn (d.outer.filterMap (·.frame)) d.g₀ g
  dicts : KtsDicts (d.outer.filterMap (·.frame)) g

inductive Here (W : Wd) (d : Cy) (S : Tab) (M : Mem) (loc : Loc) (h : Heap) : Prop
  | mk (g : Heap) (m : Str → Option Value) (news : Led) (G : Ground d g) (F : Fr g d.L h m) (N : News g d.L h news) (LO : LedOk W news d.Fm S M) (LC : LocOk W S d m loc) : Here W d S M loc h

structure Ok (W : Wd) (f : Fx) (n : Nat) (d : Cy) : Prop where
  kind : f.sc.kind = .function
  kin : W.K.In d.base
  top : Top W.p W.loose W.mean W.mg W.mb d.base
  room : d.A.depth + n + 1 < recursionLimit
  units : d.A.units + 10 * n + 10 < cLine
  hand : d.A.handled = none
  mods : ∃ o, d.base.get? sysModules = some o
  cells : ∀ x, (f.sc.names.lookup x = some .local → d.cl.lookup x = none) ∧ (f.sc.names.lookup x = some .cell → (d.cl.lookup x).isSome = true)
  mode : match f.co, d.co with
    | none, none => True
    | some sc, some c => sc.kind = .function ∧ (∀ x, (sc.names.lookup x = some .local → c.ccl.lookup x = none) ∧ (sc.names.lookup x = some .cell → (c.ccl.lookup x).isSome = true)) ∧ (c.C, c.oC) ∈ d.Fm ∧ LCg.NsObj c.oC c.m₂
    | _, _ => False

section
variable {W : Wd} {f : Fx} {n : Nat} {d : Cy}
theorem Ok.hereKind (ok : Ok W f n d) : (f.here d).scope.kind = .function := by
  have := ok.mode
  unfold Fx.here
  cases h1 : f.co <;> cases h2 : d.co <;> rw [h1, h2] at this <;> first | exact this.elim | exact ok.kind | exact this.1
theorem Ok.hereKindOf (ok : Ok W f n d) (x : Str) : (f.here d).kindOf x = f.kindOf x := by
  have := ok.mode
  unfold Fx.here Fx.kindOf
  cases h1 : f.co <;> cases h2 : d.co <;> rw [h1, h2] at this <;> first | exact this.elim | rfl
theorem Ok.hereCells (ok : Ok W f n d) : (f.here d).cells = d.cells := by
  have := ok.mode
  unfold Fx.here Cy.cells
  cases h1 : f.co <;> cases h2 : d.co <;> rw [h1, h2] at this <;> first | exact this.elim | rfl
theorem Ok.hereGlobals (ok : Ok W f n d) : (f.here d).globals = mainGlobals ∧ (f.here d).builtins = builtinsNs := by
  have := ok.mode
  unfold Fx.here
  cases h1 : f.co <;> cases h2 : d.co <;> rw [h1, h2] at this <;> first | exact this.elim | exact ⟨rfl, rfl⟩
theorem Ok.plain (ok : Ok W f n d) (h : f.co = none) : d.co = none ∧ f.here d = f.env d := by
  have := ok.mode
  unfold Fx.here
  rw [h] at this
  cases h2 : d.co with
  | none => exact ⟨rfl, by rw [h]⟩
  | some c => rw [h2] at this; exact this.elim
theorem Ok.local (ok : Ok W f n d) {x : Str} (h : f.kindOf x = some .local) : d.cells.lookup x = none := by
  have := ok.mode
  unfold Cy.cells
  unfold Fx.kindOf at h
  cases h1 : f.co <;> cases h2 : d.co <;> rw [h1, h2] at this <;> rw [h1] at h <;> first | exact this.elim | exact (ok.cells x).1 h | exact (this.2.1 x).1 h
theorem Ok.cell (ok : Ok W f n d) {x : Str} (h : f.kindOf x = some .cell) : ∃ c, d.cells.lookup x = some c := by
  have := ok.mode
  unfold Cy.cells
  unfold Fx.kindOf at h
  cases h1 : f.co <;> cases h2 : d.co <;> rw [h1, h2] at this <;> rw [h1] at h <;> first | exact this.elim | exact Option.isSome_iff_exists.mp ((ok.cells x).2 h) | exact Option.isSome_iff_exists.mp ((this.2.1 x).2 h)
end

/-- nothing but heap and tokens is other -/
noncomputable abbrev Same (s s' : Shared) : Prop := s' = { s with heap := s'.heap, toks := s'.toks }
theorem Same.refl (s : Shared) : Same s s := rfl
theorem Same.trans {s s₁ s₂ : Shared} (x : Same s s₁) (y : Same s₁ s₂) : Same s s₂ := by
  unfold Same at *; rw [y, x]
theorem Same.mk' {s : Shared} {h : Heap} {t : Nat} : Same s { s with heap := h, toks := t } := rfl
theorem Same.mkh {s : Shared} {h : Heap} : Same s { s with heap := h } := rfl

inductive ExcSt (W : Wd) (f : Fx) (d : Cy) (g : Heap) (m : Str → Option Value) (news : Led) (ea t : Addr) (vs : List Value) (h' : Heap) : Prop
  | fresh (h : Heap) : FreshX h h' ea (.ref W.X) t vs → Fr g d.L h m → News g d.L h news → ExcSt W f d g m news ea t vs h'
  | fly (G : Heap) : Fr g d.L G m → RaisedS d.base G (f.env d :: d.outer) ea (.ref W.X) t vs news h' → G.UpToSlots h' → ExcSt W f d g m news ea t vs h'
  | held (G : Heap) : Fr g d.L G m → RaisedH d.base G (f.env d :: d.outer) d.L ea (.ref W.X) t vs news h' → G.UpToSlots h' → ExcSt W f d g m news ea t vs h'

inductive Exc (W : Wd) (f : Fx) (d : Cy) (S : Tab) (EQ : Mem → Loc → Prop) (e : Value) (s' : Shared) : Prop
  | mk (ea t : Addr) (vs : List Value) (g : Heap) (m : Str → Option Value) (news : Led) (S' : Tab) (M' : Mem) (loc' : Loc) (he : e = .ref ea) (k : TabLe S S') (G : Ground d g) (LO : LedOk W news d.Fm S' M') (LC : LocOk W S' d m loc') (q : EQ M' loc') (st : ExcSt W f d g m news ea t vs s'.heap) : Exc W f d S EQ e s'
theorem Exc.mono {W : Wd} {f : Fx} {d : Cy} {S S₁ : Tab} {EQ EQ' : Mem → Loc → Prop} {e : Value} {s' : Shared} (k : TabLe S S₁) (h : Exc W f d S₁ EQ e s') (q : ∀ M l, EQ M l → EQ' M l) : Exc W f d S EQ' e s' := by
  obtain ⟨ea, t, vs, g, m, news, S', M', loc', h1, h2, h3, h4, h5, h6, h7⟩ := h
  exact ⟨ea, t, vs, g, m, news, S', M', loc', h1, fun a o x => h2 a o (k a o x), h3, h4, h5, q _ _ h6, h7⟩

/-- the ends of a run -/
inductive QP (W : Wd) (d : Cy) {α β : Type} (R : Tab → α → β → Prop) (S : Tab) (s : Shared) (Q : β → Mem → Loc → Prop) (a : α) (s' : Shared) : Prop
  | mk (e : Same s s') (S' : Tab) (M' : Mem) (loc' : Loc) (b : β) (k : TabLe S S') (H : Here W d S' M' loc' s'.heap) (r : R S' a b) (q : Q b M' loc') : QP W d R S s Q a s'
structure EP (W : Wd) (f : Fx) (d : Cy) (S : Tab) (s : Shared) (EQ : Mem → Loc → Prop) (e : Value) (s' : Shared) : Prop where
  same : Same s s'
  exc : Exc W f d S EQ e s'

noncomputable abbrev Run (W : Wd) (f : Fx) (d : Cy) {α β : Type} (R : Tab → α → β → Prop) (t : Sem α) (S : Tab) (s₀ s : Shared) (Q : β → Mem → Loc → Prop) (EQ : Mem → Loc → Prop) : Prop :=
  wpAny (model W.prog W.w) (d.A.deeper (f.env d)) t (QP W d R S s₀ Q) (EP W f d S s₀ EQ) s

section
variable {W : Wd} {f : Fx} {d : Cy} {α β : Type} {R : Tab → α → β → Prop} {S S₁ : Tab} {s s₁ s₀ : Shared} {Q : β → Mem → Loc → Prop} {EQ : Mem → Loc → Prop} {t : Sem α}
theorem EP.up {e : Value} {s' : Shared} (k : TabLe S S₁) (e₀ : Same s₀ s) (h : EP W f d S₁ s EQ e s') : EP W f d S s₀ EQ e s' := ⟨e₀.trans h.1, h.2.mono k fun _ _ x => x⟩
theorem QP.up {a : α} {s' : Shared} (k : TabLe S S₁) (e₀ : Same s₀ s) (h : QP W d R S₁ s Q a s') : QP W d R S s₀ Q a s' :=
  let ⟨h1, S', M', loc', b, h2, h3, h4, h5⟩ := h; ⟨e₀.trans h1, S', M', loc', b, fun a o x => h2 a o (k a o x), h3, h4, h5⟩
/-- one run, and what is done behind it -/
theorem Run.then {Q' : α → Shared → Prop} (k : TabLe S S₁) (e₀ : Same s₀ s) (h : Run W f d R t S₁ s s Q EQ)
    (hk : ∀ a s₁ S' M' loc' b, Same s₀ s₁ → TabLe S S' → TabLe S₁ S' → Here W d S' M' loc' s₁.heap → R S' a b → Q b M' loc' → Q' a s₁) :
    wpAny (model W.prog W.w) (d.A.deeper (f.env d)) t Q' (EP W f d S s₀ EQ) s :=
  wpAny_mono h (fun a s₁ ⟨h1, S', M', loc', b, h2, h3, h4, h5⟩ => hk a s₁ S' M' loc' b (e₀.trans h1) (fun a o x => h2 a o (k a o x)) h2 h3 h4 h5) fun _ _ x => x.up k e₀
theorem Run.up (k : TabLe S S₁) (e₀ : Same s₀ s) (h : Run W f d R t S₁ s s Q EQ) : Run W f d R t S s₀ s Q EQ := wpAny_mono h (fun _ _ x => x.up k e₀) fun _ _ x => x.up k e₀
/-- an end -/
theorem Run.end {M : Mem} {loc : Loc} {a : α} {b : β} (e₀ : Same s₀ s) (k : TabLe S S₁) (H : Here W d S₁ M loc s.heap) (r : R S₁ a b) (q : Q b M loc) : QP W d R S s₀ Q a s := ⟨e₀, S₁, M, loc, b, k, H, r, q⟩
end

noncomputable def UR (_ : Tab) (_ : Unit) (_ : Unit) : Prop := True
noncomputable def BR (_ : Tab) (a b : Bool) : Prop := a = b
inductive AFl where
  | next | brk | cont
  | ret (a : AV)
inductive FlR (W : Wd) (S : Tab) : Flow → AFl → Prop
  | next : FlR W S .next .next
  | brk : FlR W S .brk .brk
  | cont : FlR W S .cont .cont
  | ret (v : Value) (a : AV) : VR W S v a → FlR W S (.ret v) (.ret a)

/-- a tree, from a state -/
noncomputable def T0 (W : Wd) (f : Fx) (n : Nat) {α β : Type} (R : Tab → α → β → Prop) (t : Env → Sem α) (M : Mem) (loc : Loc) (Q : β → Mem → Loc → Prop) (EQ : Mem → Loc → Prop) : Prop :=
  ∀ (d : Cy) (S : Tab) (s : Shared), Ok W f n d → Here W d S M loc s.heap → Run W f d R (t (f.here d)) S s s Q EQ
noncomputable def T1 (W : Wd) (f : Fx) (n : Nat) {α β : Type} (R : Tab → α → β → Prop) (t : Value → Sem α) (a : AV) (M : Mem) (loc : Loc) (Q : β → Mem → Loc → Prop) (EQ : Mem → Loc → Prop) : Prop :=
  ∀ (d : Cy) (S : Tab) (s : Shared) (v : Value), Ok W f n d → Here W d S M loc s.heap → VR W S v a → Run W f d R (t v) S s s Q EQ
noncomputable def T2 (W : Wd) (f : Fx) (n : Nat) {α β : Type} (R : Tab → α → β → Prop) (t : Value → Value → Sem α) (a b : AV) (M : Mem) (loc : Loc) (Q : β → Mem → Loc → Prop) (EQ : Mem → Loc → Prop) : Prop :=
  ∀ (d : Cy) (S : Tab) (s : Shared) (v u : Value), Ok W f n d → Here W d S M loc s.heap → VR W S v a → VR W S u b → Run W f d R (t v u) S s s Q EQ
noncomputable def T3 (W : Wd) (f : Fx) (n : Nat) {α β : Type} (R : Tab → α → β → Prop) (t : Value → Value → Value → Sem α) (a b c : AV) (M : Mem) (loc : Loc) (Q : β → Mem → Loc → Prop) (EQ : Mem → Loc → Prop) : Prop :=
  ∀ (d : Cy) (S : Tab) (s : Shared) (v u x : Value), Ok W f n d → Here W d S M loc s.heap → VR W S v a → VR W S u b → VR W S x c → Run W f d R (t v u x) S s s Q EQ
noncomputable def Ts (W : Wd) (f : Fx) (n : Nat) {α β : Type} (R : Tab → α → β → Prop) (t : List Value → Sem α) (as : List AV) (M : Mem) (loc : Loc) (Q : β → Mem → Loc → Prop) (EQ : Mem → Loc → Prop) : Prop :=
  ∀ (d : Cy) (S : Tab) (s : Shared) (vs : List Value), Ok W f n d → Here W d S M loc s.heap → VRs W S vs as → Run W f d R (t vs) S s s Q EQ
noncomputable abbrev Ev (W : Wd) (f : Fx) (n : Nat) (e : Expr) (M : Mem) (loc : Loc) (Q : AV → Mem → Loc → Prop) (EQ : Mem → Loc → Prop) : Prop := T0 W f n (VR W) (eval e) M loc Q EQ
noncomputable abbrev Tr (W : Wd) (f : Fx) (n : Nat) (e : Expr) (M : Mem) (loc : Loc) (Q : Bool → Mem → Loc → Prop) (EQ : Mem → Loc → Prop) : Prop := T0 W f n BR (fun env => isTrue e env (eval e env)) M loc Q EQ
noncomputable abbrev Sx (W : Wd) (f : Fx) (n : Nat) (st : Stmt) (M : Mem) (loc : Loc) (Q : AFl → Mem → Loc → Prop) (EQ : Mem → Loc → Prop) : Prop := T0 W f n (FlR W) (exec st) M loc Q EQ
noncomputable abbrev Ss (W : Wd) (f : Fx) (n : Nat) (l : List Stmt) (M : Mem) (loc : Loc) (Q : AFl → Mem → Loc → Prop) (EQ : Mem → Loc → Prop) : Prop := T0 W f n (FlR W) (execs l) M loc Q EQ
end Mine
end
section
open PySem PySem.W PySem.Calls PyProof.Rows PySem.Spec
namespace Mine

noncomputable def Loc.set (loc : Loc) (x : Str) (a : AV) : Loc := fun y => if y = x then some a else loc y
theorem LocOk.set {W : Wd} {S : Tab} {d : Cy} {m : Str → Option Value} {loc : Loc} {x : Str} {v : Value} {a : AV} (hd : d.co = none) (hc : d.cells.lookup x = none) (h : LocOk W S d m loc) (r : VR W S v a) : LocOk W S d (fun y => if y = x then some v else m y) (loc.set x a) := by
  refine ⟨fun c e => (by rw [hd] at e; injection e), fun y b e => ?_⟩
  unfold Loc.set at e
  by_cases q : y = x
  · rw [if_pos q] at e; (injection e with e0; (first | subst e0 | cases e0))
    refine ⟨v, .inl ⟨by rw [q]; exact hc, ?_⟩, r⟩
    rw [hd]; exact if_pos q
  · rw [if_neg q] at e
    obtain ⟨u, h1, h2⟩ := h.2 y b e
    refine ⟨u, ?_, h2⟩
    rcases h1 with ⟨h1, h3⟩ | h1
    · rw [hd] at h3
      refine .inl ⟨h1, ?_⟩
      rw [hd]; exact (if_neg q).trans h3
    · exact .inr h1

/-- one entry rewritten -/
inductive Rp (a : Addr) (o o' : AO) : Mem → Mem → Prop
  | head (r : Mem) : Rp a o o' ((a, o) :: r) ((a, o') :: r)
  | tail (p : Addr × AO) (r r' : Mem) : Rp a o o' r r' → Rp a o o' (p :: r) (p :: r')
theorem Rp.mem {a : Addr} {o o' : AO} {M M' : Mem} (h : Rp a o o' M M') : (a, o) ∈ M := by
  induction h with
  | head r => exact .head _
  | tail p r r' _ ih => exact .tail _ ih
theorem Rp.keys {a : Addr} {o o' : AO} {M M' : Mem} (h : Rp a o o' M M') : M'.map (·.1) = M.map (·.1) := by
  induction h with
  | head r => rfl
  | tail p r r' _ ih => simp only [List.map_cons, ih]
theorem Rp.back {a : Addr} {o o' : AO} {M M' : Mem} (h : Rp a o o' M M') (nd : (M.map (·.1)).Nodup) : ∀ p ∈ M', p = (a, o') ∨ (p ∈ M ∧ p.1 ≠ a) := by
  induction h with
  | head r =>
    intro p hp
    rcases List.mem_cons.mp hp with e | hp
    · exact .inl e
    · simp only [List.map_cons, List.nodup_cons] at nd
      exact .inr ⟨.tail _ hp, fun e => nd.1 (e ▸ List.mem_map_of_mem hp)⟩
  | tail p r r' hr ih =>
    intro q hq
    simp only [List.map_cons, List.nodup_cons] at nd
    rcases List.mem_cons.mp hq with e | hq
    · subst e
      exact .inr ⟨.head _, fun e => nd.1 (e ▸ List.mem_map_of_mem (f := (·.1)) hr.mem)⟩
    · rcases ih nd.2 q hq with e | e
      · exact .inl e
      · exact .inr ⟨.tail _ e.1, e.2⟩

/-- one entry taken out -/
inductive Pick (a : Addr) (o : AO) : Mem → Mem → Prop
  | head (r : Mem) : Pick a o ((a, o) :: r) r
  | tail (p : Addr × AO) (r r' : Mem) : Pick a o r r' → Pick a o (p :: r) (p :: r')
theorem Pick.perm {a : Addr} {o : AO} {M r : Mem} (h : Pick a o M r) : M.Perm ((a, o) :: r) := by
  induction h with
  | head r => exact List.Perm.refl _
  | tail p r r' _ ih => exact (List.Perm.cons p ih).trans (List.Perm.swap _ _ _)
inductive Picks : Mem → Mem → Mem → Prop
  | nil (M : Mem) : Picks [] M M
  | cons (a : Addr) (o : AO) (M₁ M r r' : Mem) : Pick a o M r → Picks M₁ r r' → Picks ((a, o) :: M₁) M r'
theorem Picks.perm {M₁ M r : Mem} (h : Picks M₁ M r) : M.Perm (M₁ ++ r) := by
  induction h with
  | nil M => exact List.Perm.refl _
  | cons a o M₁ M r r' p _ ih => exact p.perm.trans (List.Perm.cons _ ih)

section
variable {W : Wd} {f : Fx} {d : Cy} {S : Tab} {M M' : Mem} {loc : Loc} {h h' : Heap}
theorem LedOk.perm {news Fm : Led} (x : LedOk W news Fm S M) (p : M.Perm M') : LedOk W news Fm S M' :=
  ⟨x.fm, x.tab, fun q hq => x.mem q (p.mem_iff.mpr hq), (p.map (·.1)).nodup_iff.mp x.nd, fun q hq => x.fmM q (p.mem_iff.mpr hq), fun q hq => x.tabM q (p.mem_iff.mpr hq), x.tabF⟩
theorem Here.perm (x : Here W d S M loc h) (p : M.Perm M') : Here W d S M' loc h :=
  let ⟨g, m, news, G, F, N, LO, LC⟩ := x; ⟨g, m, news, G, F, N, LO.perm p, LC⟩
theorem LedOk.sub {news Fm : Led} (x : LedOk W news Fm S M) (p : M'.Sublist M) : LedOk W news Fm S M' :=
  ⟨x.fm, x.tab, fun q hq => x.mem q (p.subset hq), (p.map (·.1)).nodup x.nd, fun q hq => x.fmM q (p.subset hq), fun q hq => x.tabM q (p.subset hq), x.tabF⟩
/-- forget -/
theorem Here.sub (x : Here W d S M loc h) (p : M'.Sublist M) : Here W d S M' loc h :=
  let ⟨g, m, news, G, F, N, LO, LC⟩ := x; ⟨g, m, news, G, F, N, LO.sub p, LC⟩
theorem Here.weak {loc' : Loc} (x : Here W d S M loc h) (p : ∀ y a, loc' y = some a → loc y = some a) : Here W d S M loc' h :=
  let ⟨g, m, news, G, F, N, LO, LC⟩ := x; ⟨g, m, news, G, F, N, LO, LC.1, fun y a e => LC.2 y a (p y a e)⟩

theorem Ok.kin' (ok : Ok W f n d) {g : Heap} (G : Ground d g) : W.K.In g := ok.kin.keeps G.below.stays
theorem Ok.top' (ok : Ok W f n d) {g : Heap} (G : Ground d g) : Top W.p W.loose W.mean W.mg W.mb g := ok.top.keeps G.below.stays

theorem Here.lt (x : Here W d S M loc h) {p : Addr × AO} (hp : p ∈ M) : p.1 < h.objs.size :=
  let ⟨_, _, _, _, _, N, LO, _⟩ := x; let ⟨_, ho, _⟩ := LO.mem p hp; Heap.lt_size (N _ ho).1

noncomputable def Tab.add (S : Tab) (n : Addr) (o : Obj) : Tab := fun a x => S a x ∨ (a = n ∧ x = o)
theorem Tab.add_le {S : Tab} {n : Addr} {o : Obj} : TabLe S (S.add n o) := fun _ _ h => .inl h
theorem Tab.add_at {S : Tab} {n : Addr} {o : Obj} : S.add n o n o := .inr ⟨rfl, rfl⟩

/-- a new object that stays as it is -/
theorem Here.allocS (x : Here W d S M loc h) (o : Obj) (hf : o.isFreed = false := by rfl) : Here W d (S.add h.objs.size o) M loc (h.push o) := by
  obtain ⟨g, m, news, G, F, N, LO, LC⟩ := x
  refine ⟨g, m, (h.objs.size, o) :: news, G, F.push o, N.push F o hf, ⟨fun p hp => .tail _ (LO.fm p hp), fun a y hy => ?_, fun p hp => ?_, LO.nd, LO.fmM, fun p hp y hy => ?_, fun p hp y hy => ?_⟩, LC.mono Tab.add_le⟩
  · rcases hy with hy | ⟨rfl, rfl⟩
    · exact .tail _ (LO.tab a y hy)
    · exact .head _
  · obtain ⟨y, h1, h2⟩ := LO.mem p hp
    exact ⟨y, .tail _ h1, h2.mono Tab.add_le⟩
  · rcases hy with hy | ⟨e, _⟩
    · exact LO.tabM p hp y hy
    · obtain ⟨y, h1, h2⟩ := LO.mem p hp
      exact absurd (Heap.lt_size (N _ h1).1) (e ▸ Nat.lt_irrefl _)
  · rcases hy with hy | ⟨e, _⟩
    · exact LO.tabF p hp y hy
    · exact absurd (Heap.lt_size (N _ (LO.fm p hp)).1) (e ▸ Nat.lt_irrefl _)

/-- a new object that may turn -/
theorem Here.allocM (x : Here W d S M loc h) (ok : Ok W f n d) {ao : AO} (o : Obj) (r : OR W S o ao) (hf : o.isFreed = false := by rfl) : Here W d S ((h.objs.size, ao) :: M) loc (h.push o) := by
  obtain ⟨g, m, news, G, F, N, LO, LC⟩ := x
  refine ⟨g, m, (h.objs.size, o) :: news, G, F.push o, N.push F o hf, ⟨fun p hp => .tail _ (LO.fm p hp), fun a y hy => .tail _ (LO.tab a y hy), fun p hp => ?_, ?_, fun p hp q hq => ?_, fun p hp y hy => ?_, LO.tabF⟩, LC⟩
  · rcases List.mem_cons.mp hp with rfl | hp
    · exact ⟨o, .head _, r⟩
    · obtain ⟨y, h1, h2⟩ := LO.mem p hp
      exact ⟨y, .tail _ h1, h2⟩
  · refine List.nodup_cons.mpr ⟨fun hm => ?_, LO.nd⟩
    obtain ⟨p, hp, e⟩ := List.mem_map.mp hm
    obtain ⟨y, h1, h2⟩ := LO.mem p hp
    exact absurd (Heap.lt_size (N _ h1).1) (e ▸ Nat.lt_irrefl _)
  · rcases List.mem_cons.mp hp with rfl | hp
    · exact Nat.ne_of_lt (Heap.lt_size (N _ (LO.fm q hq)).1)
    · exact LO.fmM p hp q hq
  · rcases List.mem_cons.mp hp with rfl | hp
    · exact absurd (Heap.lt_size (N _ (LO.tab _ _ hy)).1) (Nat.lt_irrefl _)
    · exact LO.tabM p hp y hy
/-- a new object that is forgotten -/
theorem Here.allocN (x : Here W d S M loc h) (o : Obj) : Here W d S M loc (h.push o) := by
  obtain ⟨g, m, news, G, F, N, LO, LC⟩ := x
  exact ⟨g, m, news, G, F.push o, fun p hp => ⟨Heap.get?_push_of_some _ (N p hp).1, (N p hp).2⟩, LO, LC⟩

/-- what the table says lies in the heap -/
theorem Here.at (x : Here W d S M loc h) (ok : Ok W f n d) {a : Addr} {o : Obj} (hs : AtS W S a o) : h.get? a = some o := by
  obtain ⟨g, m, news, G, F, N, LO, LC⟩ := x
  rcases hs with z | z
  · exact (N _ (LO.tab a o z)).1
  · exact F.keep _ _ (ok.kin' G _ _ z)
inductive MemAt (W : Wd) (S : Tab) (h : Heap) (p : Addr × AO) : Prop
  | mk (o : Obj) (h1 : h.get? p.1 = some o) (h2 : OR W S o p.2) : MemAt W S h p
theorem Here.memAt (x : Here W d S M loc h) {p : Addr × AO} (hp : p ∈ M) : MemAt W S h p := by
  obtain ⟨g, m, news, G, F, N, LO, LC⟩ := x
  obtain ⟨o, h1, h2⟩ := LO.mem p hp
  exact ⟨o, (N _ h1).1, h2⟩

theorem fr_of_sameBut {g : Heap} {L a : Addr} {m : Str → Option Value} (F : Fr g L h m) (hs : Heap.SameBut a h h') (hL : a ≠ L) (hg : g.get? a = none) : Fr g L h' m := by
  refine byG fun G_ bk_ => ?_; obtain ⟨oL, es, ep, e, r⟩ := F.ns; refine bk_ ?_; clear bk_
  refine ⟨⟨oL, es, ep, (hs.2 L (Ne.symm hL)).trans e, r⟩, fun b o q => (hs.2 b fun z => ?_).trans (F.keep b o q), F.above⟩
  rw [z, hg] at q; injection q

/-- an object turned -/
theorem Here.upd (x : Here W d S M loc h) {a : Addr} {ao ao' : AO} {o' : Obj} (rp : Rp a ao ao' M M') (hs : Heap.SameBut a h h') (ho : h'.get? a = some o') (r : OR W S o' ao') : Here W d S M' loc h' := by
  obtain ⟨g, m, news, G, F, N, LO, LC⟩ := x
  obtain ⟨o, h1, _⟩ := LO.mem _ rp.mem
  have A := N _ h1
  have stay : ∀ p ∈ news, p.1 ≠ a → p ∈ news.map (fun p => if p.1 = a then (a, o') else p) := fun p hp hne => List.mem_map.mpr ⟨p, hp, if_neg hne⟩
  refine ⟨g, m, news.map (fun p => if p.1 = a then (a, o') else p), G, fr_of_sameBut F hs A.2.1 A.2.2, fun p hp => ?_, ⟨fun p hp => stay p (LO.fm p hp) (LO.fmM _ rp.mem p hp), fun b y hy => ?_, fun p hp => ?_, by rw [rp.keys]; exact LO.nd, fun p hp => ?_, fun p hp => ?_, LO.tabF⟩, LC⟩
  · obtain ⟨q, hq, e⟩ := List.mem_map.mp hp
    by_cases z : q.1 = a
    · rw [if_pos z] at e; subst e; exact ⟨ho, A.2⟩
    · rw [if_neg z] at e; subst e; exact ⟨(hs.2 _ z).trans (N q hq).1, (N q hq).2⟩
  · refine stay _ (LO.tab b y hy) fun e => ?_
    exact LO.tabM _ rp.mem y (show S (a, ao).1 y from (show b = a from e) ▸ hy)
  · rcases rp.back LO.nd p hp with rfl | ⟨hp', hne⟩
    · exact ⟨o', List.mem_map.mpr ⟨(a, o), h1, if_pos rfl⟩, r⟩
    · obtain ⟨y, h3, h4⟩ := LO.mem p hp'
      exact ⟨y, stay _ h3 hne, h4⟩
  · rcases rp.back LO.nd p hp with rfl | ⟨hp', _⟩
    · exact fun q hq => LO.fmM (a, ao) rp.mem q hq
    · exact LO.fmM p hp'
  · rcases rp.back LO.nd p hp with rfl | ⟨hp', _⟩
    · exact fun o q => LO.tabM (a, ao) rp.mem o q
    · exact LO.tabM p hp'

/-- an object that may turn no more -/
theorem Here.freeze (x : Here W d S M loc h) {a : Addr} {ao : AO} (pk : Pick a ao M M') : ∃ o, OR W S o ao ∧ Here W d (S.add a o) M' loc h ∧ TabLe S (S.add a o) := by
  refine byG fun G_ bk_ => ?_; obtain ⟨g, m, news, G, F, N, LO, LC⟩ := x
  have LO' := LO.perm pk.perm
  obtain ⟨o, h1, h2⟩ := LO'.mem _ (.head _); refine bk_ ?_; clear bk_
  refine ⟨o, h2, ⟨g, m, news, G, F, N, ⟨LO.fm, fun b y hy => ?_, fun p hp => ?_, ?_, fun p hp => LO'.fmM p (.tail _ hp), fun p hp y hy => ?_, fun p hp y hy => ?_⟩, LC.mono Tab.add_le⟩, Tab.add_le⟩
  · rcases hy with hy | ⟨rfl, rfl⟩
    · exact LO.tab b y hy
    · exact h1
  · refine byG fun G_ bk_ => ?_; obtain ⟨y, h3, h4⟩ := LO'.mem p (.tail _ hp); refine bk_ ?_; clear bk_
    exact ⟨y, h3, h4.mono Tab.add_le⟩
  · exact (List.nodup_cons.mp LO'.nd).2
  · rcases hy with hy | ⟨e, _⟩
    · exact LO'.tabM p (.tail _ hp) y hy
    · exact (List.nodup_cons.mp LO'.nd).1 (List.mem_map.mpr ⟨p, hp, e⟩)
  · rcases hy with hy | ⟨e, _⟩
    · exact LO.tabF p hp y hy
    · exact LO'.fmM _ (.head _) p hp e
end
end Mine
end
section
open PySem PySem.W PySem.Calls PyProof.Rows PySem.Spec
namespace Mine

noncomputable def Cy.with (d : Cy) (F : Led) : Cy := { d with Fm := F ++ d.Fm }
theorem Ground.with {d : Cy} {F : Led} {g : Heap} (G : Ground d g) : Ground (d.with F) g := ⟨G.below, G.turn, G.dicts⟩
theorem Ground.unwith {d : Cy} {F : Led} {g : Heap} (G : Ground (d.with F) g) : Ground d g := ⟨G.below, G.turn, G.dicts⟩
theorem Ok.with {W : Wd} {f : Fx} {n : Nat} {d : Cy} (k : Ok W f n d) {F : Led} : Ok W f n (d.with F) := ⟨k.kind, k.kin, k.top, k.room, k.units, k.hand, k.mods, k.cells, (by
  have := k.mode
  show match f.co, d.co with | none, none => True | some sc, some c => _ ∧ _ ∧ (c.C, c.oC) ∈ F ++ d.Fm ∧ _ | _, _ => False
  cases h1 : f.co <;> cases h2 : d.co <;> rw [h1, h2] at this <;> first | exact this.elim | trivial | exact ⟨this.1, this.2.1, List.mem_append_right _ this.2.2.1, this.2.2.2⟩)⟩

/-- the ledger's part for some entries -/
inductive FmOf (W : Wd) (S : Tab) : Led → Mem → Prop
  | nil : FmOf W S [] []
  | cons (a : Addr) (o : Obj) (ao : AO) (F : Led) (M : Mem) : OR W S o ao → FmOf W S F M → FmOf W S ((a, o) :: F) ((a, ao) :: M)
theorem FmOf.keys {W : Wd} {S : Tab} {F : Led} {M : Mem} (h : FmOf W S F M) : F.map (·.1) = M.map (·.1) := by
  induction h with
  | nil => rfl
  | cons a o ao F M _ _ ih => simp only [List.map_cons, ih]
theorem FmOf.at {W : Wd} {S : Tab} {F : Led} {M : Mem} (h : FmOf W S F M) : ∀ p ∈ M, ∃ o, (p.1, o) ∈ F ∧ OR W S o p.2 := by
  induction h with
  | nil => intro p hp; cases hp
  | cons a o ao F M r _ ih =>
    intro p hp
    rcases List.mem_cons.mp hp with rfl | hp
    · exact ⟨o, .head _, r⟩
    · obtain ⟨o', h1, h2⟩ := ih p hp; exact ⟨o', .tail _ h1, h2⟩
theorem fmOf_of {W : Wd} {S : Tab} {news : Led} : ∀ {M : Mem}, (∀ p ∈ M, ∃ o, (p.1, o) ∈ news ∧ OR W S o p.2) → ∃ F, FmOf W S F M ∧ ∀ q ∈ F, q ∈ news
  | [], _ => ⟨[], .nil, fun _ h => nomatch h⟩
  | p :: M, h => by
    obtain ⟨o, h1, h2⟩ := h p (.head _)
    obtain ⟨F, h3, h4⟩ := fmOf_of fun q hq => h q (.tail _ hq)
    refine ⟨(p.1, o) :: F, .cons p.1 o p.2 F M h2 h3, fun q hq => ?_⟩
    rcases List.mem_cons.mp hq with rfl | hq
    · exact h1
    · exact h4 q hq

section
variable {W : Wd} {f : Fx} {d : Cy} {n : Nat} {S S' : Tab} {M M₁ M₂ M' : Mem} {loc loc' : Loc} {h h' : Heap} {news Fm F : Led}
theorem LedOk.frame (LO : LedOk W news Fm S (M₁ ++ M₂)) : ∃ F, FmOf W S F M₂ ∧ LedOk W news (F ++ Fm) S M₁ := by
  obtain ⟨F, h1, h2⟩ := fmOf_of (M := M₂) fun p hp => LO.mem p (List.mem_append_right _ hp)
  have nd := LO.nd
  rw [List.map_append, List.nodup_append] at nd
  refine ⟨F, h1, fun p hp => (List.mem_append.mp hp).elim (h2 p) (LO.fm p), LO.tab, fun p hp => LO.mem p (List.mem_append_left _ hp), nd.1, fun p hp q hq => ?_, fun p hp => LO.tabM p (List.mem_append_left _ hp), fun q hq => ?_⟩
  · rcases List.mem_append.mp hq with hq | hq
    · have : q.1 ∈ M₂.map (·.1) := h1.keys ▸ List.mem_map_of_mem hq
      exact fun e => nd.2.2 _ (List.mem_map_of_mem hp) _ this e.symm
    · exact LO.fmM p (List.mem_append_left _ hp) q hq
  · rcases List.mem_append.mp hq with hq | hq
    · have : q.1 ∈ M₂.map (·.1) := h1.keys ▸ List.mem_map_of_mem hq
      obtain ⟨p, hp, e⟩ := List.mem_map.mp this
      exact fun o ho => LO.tabM p (List.mem_append_right _ hp) o (e ▸ ho)
    · exact LO.tabF q hq
theorem LedOk.unframe (LO₀ : LedOk W news Fm S (M₁ ++ M₂)) (h1 : FmOf W S F M₂) {news' : Led} (LO : LedOk W news' (F ++ Fm) S' M') (k : TabLe S S') : LedOk W news' Fm S' (M' ++ M₂) := by
  have nd := LO₀.nd
  rw [List.map_append, List.nodup_append] at nd
  have at2 : ∀ p ∈ M₂, ∃ q ∈ F, q.1 = p.1 := fun p hp => by
    have : p.1 ∈ F.map (·.1) := h1.keys ▸ List.mem_map_of_mem hp
    obtain ⟨q, hq, e⟩ := List.mem_map.mp this
    exact ⟨q, hq, e⟩
  refine ⟨fun p hp => LO.fm p (List.mem_append_right _ hp), LO.tab, fun p hp => ?_, ?_, fun p hp => ?_, fun p hp => ?_, fun p hp => LO.tabF p (List.mem_append_right _ hp)⟩
  · rcases List.mem_append.mp hp with hp | hp
    · exact LO.mem p hp
    · obtain ⟨o, h3, h4⟩ := h1.at p hp
      exact ⟨o, LO.fm _ (List.mem_append_left _ h3), h4.mono k⟩
  · rw [List.map_append, List.nodup_append]
    refine ⟨LO.nd, nd.2.1, fun a ha b hb e => ?_⟩
    obtain ⟨p, hp, rfl⟩ := List.mem_map.mp ha
    obtain ⟨p₂, hp₂, rfl⟩ := List.mem_map.mp hb
    obtain ⟨q, hq, e₂⟩ := at2 p₂ hp₂
    exact LO.fmM p hp q (List.mem_append_left _ hq) (e₂.trans e.symm)
  · rcases List.mem_append.mp hp with hp | hp
    · exact fun q hq => LO.fmM p hp q (List.mem_append_right _ hq)
    · exact LO₀.fmM p (List.mem_append_right _ hp)
  · rcases List.mem_append.mp hp with hp | hp
    · exact LO.tabM p hp
    · obtain ⟨q, hq, e⟩ := at2 p hp
      exact fun o ho => LO.tabF q (List.mem_append_left _ hq) o (e ▸ ho)

/-- what a run does not touch stays -/
theorem run_frame {α β : Type} {R : Tab → α → β → Prop} {t : Sem α} {s : Shared} {Q : β → Mem → Loc → Prop} {EQ : Mem → Loc → Prop} (H : Here W d S (M₁ ++ M₂) loc s.heap)
    (x : ∀ F, Here W (d.with F) S M₁ loc s.heap → Run W f (d.with F) R t S s s Q EQ) :
    Run W f d R t S s s (fun b M' l' => ∃ M₃, M' = M₃ ++ M₂ ∧ Q b M₃ l') (fun M' l' => ∃ M₃, M' = M₃ ++ M₂ ∧ EQ M₃ l') := by
  obtain ⟨g, m, news, G, FF, N, LO, LC⟩ := H
  obtain ⟨F, h1, LO₁⟩ := LO.frame
  refine wpAny_mono (x F ⟨g, m, news, G.with, FF, N, LO₁, LC⟩) (fun a s' ⟨e, S', M', loc', b, k, H', r, q⟩ => ?_) (fun v s' ⟨e, z⟩ => ?_)
  · obtain ⟨g', m', news', G', FF', N', LO', LC'⟩ := H'
    exact ⟨e, S', M' ++ M₂, loc', b, k, ⟨g', m', news', G'.unwith, FF', N', LO.unframe h1 LO' k, LC'⟩, r, M', rfl, q⟩
  · obtain ⟨ea, t, vs, g', m', news', S', M', loc', h2, k, G', LO', LC', q, st⟩ := z
    refine ⟨e, ea, t, vs, g', m', news', S', M' ++ M₂, loc', h2, k, G'.unwith, LO.unframe h1 LO' k, LC', ⟨M', rfl, q⟩, ?_⟩
    cases st with
    | fresh h a b c => exact .fresh h a b c
    | fly G a b c => exact .fly G a b c
    | held G a b c => exact .held G a b c
end

section
variable {W : Wd} {f : Fx} {n : Nat} {α β : Type} {R : Tab → α → β → Prop} {M M₁ r : Mem} {loc : Loc} {Q : β → Mem → Loc → Prop} {EQ : Mem → Loc → Prop}
/-- a contract used -/
theorem Ts.use {t : List Value → Sem α} {as : List AV} {Q₁ : β → Mem → Loc → Prop} {EQ₁ : Mem → Loc → Prop} (c : Ts W f n R t as M₁ loc Q₁ EQ₁) (pk : Picks M₁ M r)
    (hq : ∀ b M' l', Q₁ b M' l' → Q b (M' ++ r) l') (he : ∀ M' l', EQ₁ M' l' → EQ (M' ++ r) l') : Ts W f n R t as M loc Q EQ := by
  intro d S s vs ok H rs
  have H' := H.perm pk.perm
  refine wpAny_mono (run_frame H' fun F H₁ => c (d.with F) S s vs ok.with H₁ rs) (fun a s' ⟨e, S', M', loc', b, k, H₂, r, M₃, e₂, q⟩ => ?_) (fun v s' ⟨e, z⟩ => ⟨e, z.mono (fun _ _ x => x) fun M' l' ⟨M₃, e₂, q⟩ => e₂ ▸ he _ _ q⟩)
  subst e₂
  exact ⟨e, S', _, loc', b, k, H₂, r, hq _ _ _ q⟩
theorem T0.mono {t : Env → Sem α} {Q₁ : β → Mem → Loc → Prop} {EQ₁ : Mem → Loc → Prop} (c : T0 W f n R t M loc Q₁ EQ₁) (hq : ∀ b M' l', Q₁ b M' l' → Q b M' l') (he : ∀ M' l', EQ₁ M' l' → EQ M' l') : T0 W f n R t M loc Q EQ :=
  fun d S s ok H => wpAny_mono (c d S s ok H) (fun a s' ⟨e, S', M', loc', b, k, H', r, q⟩ => ⟨e, S', M', loc', b, k, H', r, hq _ _ _ q⟩) fun v s' ⟨e, z⟩ => ⟨e, z.mono (fun _ _ x => x) he⟩
theorem T0.perm {t : Env → Sem α} {M' : Mem} (p : M.Perm M') (c : T0 W f n R t M' loc Q EQ) : T0 W f n R t M loc Q EQ := fun d S s ok H => c d S s ok (H.perm p)
theorem T0.sub {t : Env → Sem α} {M' : Mem} (p : M'.Sublist M) (c : T0 W f n R t M' loc Q EQ) : T0 W f n R t M loc Q EQ := fun d S s ok H => c d S s ok (H.sub p)
end

section
variable {W : Wd} {f : Fx} {n : Nat} {M : Mem} {loc : Loc} {Q : AV → Mem → Loc → Prop} {EQ : Mem → Loc → Prop}
theorem le0 {S : Tab} : TabLe S S := fun _ _ x => x

theorem ev_none {k pos} (h : Q .none M loc) : Ev W f n (.Constant .none k pos) M loc Q EQ := fun d S s ok H => wpAny_Constant_none (Run.end rfl le0 H .none h)
theorem ev_bool {b k pos} (h : Q (.bool b) M loc) : Ev W f n (.Constant (.bool b) k pos) M loc Q EQ := fun d S s ok H => wpAny_Constant_bool (Run.end rfl le0 H (.bool b) h)
theorem ev_int {i k pos} (h : Q (.int i) M loc) : Ev W f n (.Constant (.int i) k pos) M loc Q EQ := fun d S s ok H => wpAny_Constant_int (Run.end rfl le0 H (.int i _) h)
theorem ev_str {x k pos} (h : Q (.str x) M loc) : Ev W f n (.Constant (.str x) k pos) M loc Q EQ := fun d S s ok H => wpAny_Constant_str (Run.end rfl le0 H (.str x _) h)

theorem ev_local {x : Str} {pos : Pos} {a : AV} (hx : f.kindOf x = some .local) (hv : loc x = some a) (hd : (x == ("__debug__" : Str)) = false) (h : Q a M loc) : Ev W f n (.Name x pos) M loc Q EQ := by
  intro d S s ok H
  obtain ⟨g, m, news, G, F, N, LO, LC⟩ := id H
  obtain ⟨v, hm, r⟩ := LC.2 x a hv
  have hc := ok.local hx
  have hns : ∃ m', s.heap.Ns (f.here d).locals m' ∧ m' x = some v := by
    rcases hm with ⟨_, hm⟩ | ⟨c, o, h1, _⟩
    · have md := ok.mode
      unfold Fx.here
      cases h1 : f.co <;> cases h2 : d.co <;> rw [h1, h2] at md <;> rw [h2] at hm
      · exact ⟨m, F.ns, hm⟩
      · exact md.elim
      · exact md.elim
      · exact ⟨_, md.2.2.2.ns (N _ (LO.fm _ md.2.2.1)).1, hm⟩
    · rw [hc] at h1; injection h1
  obtain ⟨m', h1, h2⟩ := hns
  exact wpAny_Name (wpAny_loadName_local ok.hereKind ((ok.hereKindOf x).trans hx) h1 h2 (Run.end rfl le0 H r h)) hd
theorem ev_cell {x : Str} {pos : Pos} {a : AV} (hx : f.kindOf x = some .cell) (hv : loc x = some a) (hd : (x == ("__debug__" : Str)) = false) (h : Q a M loc) : Ev W f n (.Name x pos) M loc Q EQ := by
  intro d S s ok H
  obtain ⟨g, m, news, G, F, N, LO, LC⟩ := id H
  obtain ⟨v, hm, r⟩ := LC.2 x a hv
  obtain ⟨c, hc⟩ := ok.cell hx
  rcases hm with ⟨h1, _⟩ | ⟨c', o, h1, h2, h3⟩
  · rw [hc] at h1; injection h1
  · rw [hc] at h1; (injection h1 with e0; (first | subst e0 | cases e0))
    exact wpAny_Name (wpAny_loadName_cell ok.hereKind ((ok.hereKindOf x).trans hx) (by rw [ok.hereCells]; exact hc) ⟨o, H.at ok h2, h3⟩ (Run.end rfl le0 H r h)) hd
theorem ev_global {x : Str} {pos : Pos} {v : Value} {a : AV} (hx : f.kindOf x = some .globalImplicit) (hv : nsIn W.K mainGlobals x = some (some v)) (hd : (x == ("__debug__" : Str)) = false) (hr : ∀ S, VR W S v a) (h : Q a M loc) : Ev W f n (.Name x pos) M loc Q EQ := by
  intro d S s ok H
  obtain ⟨g, m, news, G, F, N, LO, LC⟩ := id H
  have T := topRead_of (ok.top' G)
  refine Name_function_global ok.hereKind ((ok.hereKindOf x).trans hx) (loadGlobal_global (env := f.here d) ?_ (mg_of (ok.kin' G) T.g hv) (Run.end rfl le0 H (hr S) h)) hd
  rw [ok.hereGlobals.1]
  exact T.g.keeps F.keep
theorem ev_builtin {x : Str} {pos : Pos} {v : Value} (hx : f.kindOf x = some .globalImplicit) (hn : nsIn W.K mainGlobals x = some none) (hv : bootBuiltins x = some v) (h1 : x ≠ "__name__") (hd : (x == ("__debug__" : Str)) = false) (h : Q (.stat v) M loc) :
    Ev W f n (.Name x pos) M loc Q EQ := by
  intro d S s ok H
  obtain ⟨g, m, news, G, F, N, LO, LC⟩ := id H
  have T := topRead_of (ok.top' G)
  refine Name_function_global ok.hereKind ((ok.hereKindOf x).trans hx) (loadGlobal_builtin (env := f.here d) (mg := W.mg) ?_ (mg_none_of (ok.kin' G) T.g hn) (mb := W.mb) ?_ ((T.builtins x h1).trans hv) (Run.end rfl le0 H (.stat v) h)) hd
  · rw [ok.hereGlobals.1]; exact T.g.keeps F.keep
  · rw [ok.hereGlobals.2]; exact T.b.keeps F.keep

/-! what comes next, by name: named, it stays small in the proofs -/
noncomputable abbrev KBin2 (W : Wd) (f : Fx) (n : Nat) (t : Value → Value → Sem Value) (a : AV) (Q : AV → Mem → Loc → Prop) (EQ : Mem → Loc → Prop) : AV → Mem → Loc → Prop := fun b M l => T2 W f n (VR W) t a b M l Q EQ
noncomputable abbrev KBin1 (W : Wd) (f : Fx) (n : Nat) (r : Expr) (t : Value → Value → Sem Value) (Q : AV → Mem → Loc → Prop) (EQ : Mem → Loc → Prop) : AV → Mem → Loc → Prop := fun a M l => Ev W f n r M l (KBin2 W f n t a Q EQ) EQ
theorem ev_BinOp {l op r pos} (h : Ev W f n l M loc (KBin1 W f n r (binaryOp op) Q EQ) EQ) : Ev W f n (.BinOp l op r pos) M loc Q EQ := by
  intro d S s ok H
  refine wpAny_BinOp ?_
  refine Run.then le0 rfl (h d S s ok H) fun v s₁ S₁ M₁ l₁ a e₁ k₁ _ H₁ r₁ q₁ => ?_
  refine Run.then k₁ e₁ (q₁ d S₁ s₁ ok H₁) fun u s₂ S₂ M₂ l₂ b e₂ k₂ k₂' H₂ r₂ q₂ => ?_
  exact Run.up k₂ e₂ (q₂ d S₂ s₂ v u ok H₂ (r₁.mono k₂') r₂)
theorem ev_Compare {l op r pos} (h : Ev W f n l M loc (fun a M₁ l₁ => Ev W f n r M₁ l₁ (fun b M₂ l₂ => T2 W f n (VR W) (compareOp op) a b M₂ l₂ Q EQ) EQ) EQ) (hm : behindInMarks op r = false) : Ev W f n (.Compare l [op] [r] pos) M loc Q EQ := by
  intro d S s ok H
  refine wpAny_Compare1 ?_ hm
  refine Run.then le0 rfl (h d S s ok H) fun v s₁ S₁ M₁ l₁ a e₁ k₁ _ H₁ r₁ q₁ => ?_
  refine Run.then k₁ e₁ (q₁ d S₁ s₁ ok H₁) fun u s₂ S₂ M₂ l₂ b e₂ k₂ k₂' H₂ r₂ q₂ => ?_
  exact Run.up k₂ e₂ (q₂ d S₂ s₂ v u ok H₂ (r₁.mono k₂') r₂)
theorem ev_UnaryOp {op x pos} (h : Ev W f n x M loc (fun a M₁ l₁ => T1 W f n (VR W) (unaryOp op) a M₁ l₁ Q EQ) EQ) : Ev W f n (.UnaryOp op x pos) M loc Q EQ := by
  intro d S s ok H
  refine UnaryOp_ ?_
  refine Run.then le0 rfl (h d S s ok H) fun v s₁ S₁ M₁ l₁ a e₁ k₁ _ H₁ r₁ q₁ => ?_
  exact Run.up k₁ e₁ (q₁ d S₁ s₁ v ok H₁ r₁)
theorem ev_IfExp {test body orelse pos} (h : Tr W f n test M loc (fun c M₁ l₁ => (c = true → Ev W f n body M₁ l₁ Q EQ) ∧ (c = false → Ev W f n orelse M₁ l₁ Q EQ)) EQ) : Ev W f n (.IfExp test body orelse pos) M loc Q EQ := by
  intro d S s ok H
  refine IfExp_ ?_
  refine Run.then le0 rfl (h d S s ok H) fun v s₁ S₁ M₁ l₁ a e₁ k₁ _ H₁ r₁ q₁ => ?_
  obtain rfl : v = a := r₁
  cases v with
  | true => exact Run.up k₁ e₁ (q₁.1 rfl d S₁ s₁ ok H₁)
  | false => exact Run.up k₁ e₁ (q₁.2 rfl d S₁ s₁ ok H₁)
theorem ev_Subscript {value slice pos} (h : Ev W f n value M loc (KBin1 W f n slice (subscriptTail value slice) Q EQ) EQ) : Ev W f n (.Subscript value slice pos) M loc Q EQ := by
  intro d S s ok H
  refine Subscript_ ?_
  refine Run.then le0 rfl (h d S s ok H) fun v s₁ S₁ M₁ l₁ a e₁ k₁ _ H₁ r₁ q₁ => ?_
  refine Run.then k₁ e₁ (q₁ d S₁ s₁ ok H₁) fun u s₂ S₂ M₂ l₂ b e₂ k₂ k₂' H₂ r₂ q₂ => ?_
  exact Run.up k₂ e₂ (q₂ d S₂ s₂ v u ok H₂ (r₁.mono k₂') r₂)

/-- arguments, items of a display -/
noncomputable def Sp (W : Wd) (f : Fx) (n : Nat) (pos : Pos) (es : List Expr) (M : Mem) (loc : Loc) (Q : List AV → Mem → Loc → Prop) (EQ : Mem → Loc → Prop) : Prop :=
  T0 W f n (VRs W) (fun env => spliced (backTo pos (starEach es env))) M loc Q EQ
theorem sp_nil {pos} {Q : List AV → Mem → Loc → Prop} (h : Q [] M loc) : Sp W f n pos [] M loc Q EQ := fun d S s ok H => spliced_none (Run.end rfl le0 H .nil h)
noncomputable def KCons2 (a : AV) (Q : List AV → Mem → Loc → Prop) : List AV → Mem → Loc → Prop := fun as M l => Q (a :: as) M l
theorem KCons2.go {a as M l} {Q : List AV → Mem → Loc → Prop} (h : Q (a :: as) M l) : KCons2 a Q as M l := h
noncomputable abbrev KCons1 (W : Wd) (f : Fx) (n : Nat) (pos : Pos) (rest : List Expr) (Q : List AV → Mem → Loc → Prop) (EQ : Mem → Loc → Prop) : AV → Mem → Loc → Prop := fun a M l => Sp W f n pos rest M l (KCons2 a Q) EQ
structure KTup (Q : AV → Mem → Loc → Prop) (as : List AV) (M : Mem) (l : Loc) : Prop where
  hz : as.length ≤ sizeLine
  h : Q (.tup as) M l
structure KLst (Q : AV → Mem → Loc → Prop) (as : List AV) (M : Mem) (l : Loc) : Prop where
  hz : as.length ≤ sizeLine
  h : ∀ x, Q (.obj x) ((x, .list as) :: M) l
theorem sp_cons {pos e rest} {Q : List AV → Mem → Loc → Prop} (h : Ev W f n e M loc (KCons1 W f n pos rest Q EQ) EQ)
    (he : ∀ env, starEach (e :: rest) env = (false, eval e env) :: starEach rest env) : Sp W f n pos (e :: rest) M loc Q EQ := by
  intro d S s ok H
  refine spliced_more ?_ (he _)
  refine Run.then le0 rfl (h d S s ok H) fun v s₁ S₁ M₁ l₁ a e₁ k₁ _ H₁ r₁ q₁ => ?_
  refine Run.then k₁ e₁ (q₁ d S₁ s₁ ok H₁) fun u s₂ S₂ M₂ l₂ b e₂ k₂ k₂' H₂ r₂ q₂ => ?_
  exact Run.end e₂ k₂ H₂ (.cons v a u b (r₁.mono k₂') r₂) q₂
theorem VRs.len {S : Tab} {vs : List Value} {as : List AV} (h : VRs W S vs as) : vs.length = as.length :=
  VRs.ind (m := fun us as _ => us.length = as.length) rfl (fun _ _ _ _ _ _ ih => congrArg (· + 1) ih) h
theorem ev_Tuple {es k pos} (h : Sp W f n pos es M loc (KTup Q) EQ) : Ev W f n (.Tuple es k pos) M loc Q EQ := by
  intro d S s ok H
  refine Tuple_ ?_
  refine Run.then le0 rfl (h d S s ok H) fun v s₁ S₁ M₁ l₁ a e₁ k₁ _ H₁ r₁ q₁ => ?_
  refine wpAny_newTuple ?_ (by rw [VRs.len r₁]; exact q₁.1)
  exact Run.end (e₁.trans rfl) (fun a o x => Tab.add_le a o (k₁ a o x)) (H₁.allocS _) (.tup _ _ v a (.inl Tab.add_at) ⟨⟨rfl, _, rfl⟩, rfl⟩ (r₁.mono Tab.add_le)) q₁.2
theorem ev_List {es pos} (h : Sp W f n pos es M loc (KLst Q) EQ) : Ev W f n (.List es pos) M loc Q EQ := by
  intro d S s ok H
  refine List_ ?_
  refine Run.then le0 rfl (h d S s ok H) fun v s₁ S₁ M₁ l₁ a e₁ k₁ _ H₁ r₁ q₁ => ?_
  refine wpAny_newList ?_ (by rw [VRs.len r₁]; exact q₁.1)
  exact Run.end (e₁.trans rfl) k₁ (H₁.allocM ok _ (.list _ v a ⟨_, rfl⟩ r₁)) (.obj _) (q₁.2 _)
end
end Mine
end
section
open PySem PySem.W PySem.Calls PyProof.Rows PySem.Spec
namespace Mine

theorem Here.ext {W : Wd} {d : Cy} {S : Tab} {M : Mem} {loc : Loc} {h h' : Heap} (x : Here W d S M loc h) (k : ∀ b o, h.get? b = some o → h'.get? b = some o) : Here W d S M loc h' := by
  refine byG fun G_ bk_ => ?_; obtain ⟨g, m, news, G, F, N, LO, LC⟩ := x
  obtain ⟨oL, es, ep, e, r⟩ := F.ns; refine bk_ ?_; clear bk_
  exact ⟨g, m, news, G, ⟨⟨oL, es, ep, k _ _ e, r⟩, fun b o q => k b o (F.keep b o q), F.above⟩, fun p hp => ⟨k _ _ (N p hp).1, (N p hp).2⟩, LO, LC⟩

section
variable {W : Wd} {f : Fx} {n : Nat} {M : Mem} {loc : Loc} {Q : AFl → Mem → Loc → Prop} {EQ : Mem → Loc → Prop}
theorem ss_nil (h : Q .next M loc) : Ss W f n [] M loc Q EQ := fun d S s ok H => wpAny_execs_nil (Run.end rfl le0 H .next h)
noncomputable def KSeq (W : Wd) (f : Fx) (n : Nat) (rest : List Stmt) (Q : AFl → Mem → Loc → Prop) (EQ : Mem → Loc → Prop) : AFl → Mem → Loc → Prop := fun fl M l => match fl with | .next => Ss W f n rest M l Q EQ | fl => Q fl M l
structure KIf (W : Wd) (f : Fx) (n : Nat) (body orelse : List Stmt) (Q : AFl → Mem → Loc → Prop) (EQ : Mem → Loc → Prop) (c : Bool) (M : Mem) (l : Loc) : Prop where
  t : c = true → Ss W f n body M l Q EQ
  f : c = false → Ss W f n orelse M l Q EQ
noncomputable def KRet (Q : AFl → Mem → Loc → Prop) : AV → Mem → Loc → Prop := fun a M l => Q (.ret a) M l
noncomputable def KNext (Q : AFl → Mem → Loc → Prop) : AV → Mem → Loc → Prop := fun _ M l => Q .next M l
noncomputable def KAsg (x : Str) (Q : AFl → Mem → Loc → Prop) : AV → Mem → Loc → Prop := fun a M l => Q .next M (l.set x a)
inductive KCmp2 (Q : Bool → Mem → Loc → Prop) (c : AV) (M : Mem) (l : Loc) : Prop
  | mk (q : Bool) (e : c = .bool q) (h : Q q M l) : KCmp2 Q c M l
theorem KRet.go {a} (h : Q (.ret a) M loc) : KRet Q a M loc := h
theorem KNext.go {a} (h : Q .next M loc) : KNext Q a M loc := h
theorem KAsg.go {x a} (h : Q .next M (loc.set x a)) : KAsg x Q a M loc := h
theorem KSeq.next {rest} (h : Ss W f n rest M loc Q EQ) : KSeq W f n rest Q EQ .next M loc := h
theorem KSeq.ret {rest a} (h : Q (.ret a) M loc) : KSeq W f n rest Q EQ (.ret a) M loc := h
theorem KSeq.brk {rest} (h : Q .brk M loc) : KSeq W f n rest Q EQ .brk M loc := h
theorem KSeq.cont {rest} (h : Q .cont M loc) : KSeq W f n rest Q EQ .cont M loc := h
theorem ss_cons {st rest} (h : Sx W f n st M loc (KSeq W f n rest Q EQ) EQ) : Ss W f n (st :: rest) M loc Q EQ := by
  intro d S s ok H
  refine wpAny_execs_cons ?_
  refine Run.then le0 rfl (h d S s ok H) fun v s₁ S₁ M₁ l₁ a e₁ k₁ _ H₁ r₁ q₁ => ?_
  cases r₁ with
  | next => exact Run.up k₁ e₁ (q₁ d S₁ s₁ ok H₁)
  | brk => exact Run.end e₁ k₁ H₁ .brk q₁
  | cont => exact Run.end e₁ k₁ H₁ .cont q₁
  | ret v a r => exact Run.end e₁ k₁ H₁ (.ret v a r) q₁
theorem sx_If {test body orelse pos} (h : Tr W f n test M loc (KIf W f n body orelse Q EQ) EQ) : Sx W f n (.If test body orelse pos) M loc Q EQ := by
  intro d S s ok H
  refine wpAny_If ?_
  refine Run.then le0 rfl (h d S s ok H) fun v s₁ S₁ M₁ l₁ a e₁ k₁ _ H₁ r₁ q₁ => ?_
  obtain rfl : v = a := r₁
  cases v with
  | true => exact Run.up k₁ e₁ (q₁.1 rfl d S₁ s₁ ok H₁)
  | false => exact Run.up k₁ e₁ (q₁.2 rfl d S₁ s₁ ok H₁)
theorem sx_Return {e pos} (h : Ev W f n e M loc (KRet Q) EQ) : Sx W f n (.Return (some e) pos) M loc Q EQ := by
  intro d S s ok H
  refine wpAny_Return_some ?_
  refine Run.then le0 rfl (h d S s ok H) fun v s₁ S₁ M₁ l₁ a e₁ k₁ _ H₁ r₁ q₁ => ?_
  exact Run.end e₁ k₁ H₁ (.ret v a r₁) q₁
theorem sx_ReturnNone {pos} (h : Q (.ret .none) M loc) : Sx W f n (.Return none pos) M loc Q EQ := fun d S s ok H => wpAny_Return_none (Run.end rfl le0 H (.ret _ _ .none) h)
theorem sx_Continue {pos} (h : Q .cont M loc) : Sx W f n (.Continue pos) M loc Q EQ := fun d S s ok H => wpAny_bind (wpAny_standAt (wpAny_pure (Run.end rfl le0 H .cont h)))
theorem sx_Expr {e pos} (h : Ev W f n e M loc (KNext Q) EQ) (hs : ∀ env, swapsWith e none pos.line env = pure false) : Sx W f n (.Expr e pos) M loc Q EQ := by
  intro d S s ok H
  refine wpAny_Expr_any ?_ (by unfold interactive; rw [ok.hereKind]; rfl) (hs _)
  refine Run.then le0 rfl (h d S s ok H) fun v s₁ S₁ M₁ l₁ a e₁ k₁ _ H₁ r₁ q₁ => ?_
  exact Run.end e₁ k₁ H₁ .next q₁

theorem run_store {d : Cy} {S S₀ : Tab} {s s₀ : Shared} {x : Str} {a : AV} {v : Value} {Q : Unit → Mem → Loc → Prop} (k : TabLe S₀ S) (e : Same s₀ s) (ok : Ok W f n d) (H : Here W d S M loc s.heap) (r : VR W S v a) (hx : f.co = none ∧ f.sc.names.lookup x = some .local)
    (h : Q () M (loc.set x a)) : Run W f d UR (storeName (f.here d) x v) S₀ s₀ s Q EQ := by
  refine byG fun G_ bk_ => ?_; obtain ⟨g, m, news, G, F, N, LO, LC⟩ := H
  obtain ⟨hx, hl⟩ := hx
  obtain ⟨hd, he⟩ := ok.plain hx; refine bk_ ?_; clear bk_
  have hc : d.cells.lookup x = none := ok.local (by unfold Fx.kindOf; with_reducible refine rwE hx ?_; exact hl)
  with_reducible refine rwE he ?_
  exact storeX_L F N (fun h' F' N' => Run.end (e.trans rfl) k ⟨g, _, news, G, F', N', LO, LC.set hd hc r⟩ trivial h) ok.kind hl
theorem sx_Assign {x pos' value pos} (h : Ev W f n value M loc (KAsg x Q) EQ) (hx : f.co = none ∧ f.sc.names.lookup x = some .local) (hs : ∀ env, swapsWith value (some (.Name x pos')) pos.line env = pure false) :
    Sx W f n (.Assign [.Name x pos'] value pos) M loc Q EQ := by
  intro d S s ok H
  refine wpAny_Assign_Name ?_ (hs _)
  refine Run.then le0 rfl (h d S s ok H) fun v s₁ S₁ M₁ l₁ a e₁ k₁ _ H₁ r₁ q₁ => ?_
  exact wpAny_mono (run_store (n := n) (Q := fun _ M l => Q .next M l) k₁ e₁ ok H₁ r₁ hx q₁) (fun _ s' ⟨e, S', M', l', b, k, H', _, q⟩ => ⟨e, S', M', l', .next, k, H', .next, q⟩) fun _ _ z => z

/-- values bound in order -/
noncomputable def Asg (W : Wd) (f : Fx) (n : Nat) (ts : List Expr) (as : List AV) (M : Mem) (loc : Loc) (Q : Mem → Loc → Prop) (EQ : Mem → Loc → Prop) : Prop :=
  ∀ (d : Cy) (S : Tab) (s : Shared) (vs : List Value), Ok W f n d → Here W d S M loc s.heap → VRs W S vs as → Run W f d UR (assignInOrder ((assignEach ts (f.here d)).map (·.2)) vs) S s s (fun _ M l => Q M l) EQ
theorem asg_nil {Q : Mem → Loc → Prop} (h : Q M loc) : Asg W f n [] [] M loc Q EQ := fun d S s vs ok H r => by
  cases r using VRs.nilE
  exact wpAny_pure (Run.end (b := ()) rfl le0 H trivial h)
theorem asg_name {x pos ts a as} {Q : Mem → Loc → Prop} (hx : f.co = none ∧ f.sc.names.lookup x = some .local) (h : Asg W f n ts as M (loc.set x a) Q EQ) : Asg W f n (.Name x pos :: ts) (a :: as) M loc Q EQ := by
  intro d S s vs ok H r
  cases r using VRs.consE with
  | cons v vs r rs =>
    refine (?_ : wpAny _ _ (do holding vs (assign (.Name x pos) (f.here d) v); assignInOrder ((assignEach ts (f.here d)).map (·.2)) vs) _ _ _)
    refine wpAny_bind (wpAny_holding (assign_Name ?_))
    refine Run.then le0 rfl (run_store (n := n) (EQ := EQ) (Q := fun _ M' l => M' = M ∧ l = loc.set x a) le0 rfl ok H r hx ⟨rfl, rfl⟩) fun _ s₁ S₁ M₁ l₁ b e₁ k₁ _ H₁ _ q₁ => ?_
    refine byG fun G_ bk_ => ?_; obtain ⟨rfl, rfl⟩ := q₁; refine bk_ ?_; clear bk_
    exact Run.up k₁ e₁ (h d S₁ s₁ vs ok H₁ (VRs.mono k₁ rs))
inductive TupAt (W : Wd) (S : Tab) (h : Heap) (v : Value) (as : List AV) : Prop
  | mk (a : Addr) (us : List Value) (e : v = .ref a) (t : IsTup h a us.toArray) (r : VRs W S us as) : TupAt W S h v as
theorem Here.tup {d : Cy} {S : Tab} {h : Heap} (H : Here W d S M loc h) (ok : Ok W f n d) {v : Value} {as : List AV} (r : VR W S v (.tup as)) : TupAt W S h v as := by
  cases r using VR.tupE with
  | tup a o us hs ho hr => exact ⟨a, us, rfl, ⟨o, H.at ok hs, ho.1.1, ho.1.2⟩, hr⟩
theorem Here.pair {d : Cy} {S : Tab} {h : Heap} (H : Here W d S M loc h) (ok : Ok W f n d) {v : Value} {as : List AV} (r : VR W S v (.pair as)) : TupAt W S h v as := by
  cases r using VR.pairE with
  | pair a o us hs ho hr => exact ⟨a, us, rfl, ⟨o, H.at ok hs, ho.1, ho.2⟩, hr⟩
theorem run_unpackAt {d : Cy} {S S₀ : Tab} {s s₀ : Shared} {v : Value} {ts k pos} {as : List AV} {Q : Mem → Loc → Prop} (k₀ : TabLe S₀ S) (e₀ : Same s₀ s) (ok : Ok W f n d) (H : Here W d S M loc s.heap) (r : TupAt W S s.heap v as)
    (hn : ts.length = as.length) (hstar : ∀ env, (assignEach ts env).findIdx? (·.1) = none ∧ (assignEach ts env).length = ts.length) (h : Asg W f n ts as M loc Q EQ) : Run W f d UR (assign (.Tuple ts k pos) (f.here d) v) S₀ s₀ s (fun _ M l => Q M l) EQ := by
  obtain ⟨a, us, rfl, ht, rs⟩ := r
  refine assign_Tuple_tuple ok.hand ht ?_ (hstar _).1 fun h' he => ?_
  · (with_reducible refine rwE ((hstar _).2) ?_; with_reducible refine rwE hn ?_; with_reducible refine rwE List.size_toArray ?_; with_reducible refine rwE (VRs.len rs) ?_; with_reducible rfl)
  · with_reducible refine rwE List.toList_toArray ?_
    exact Run.up k₀ (e₀.trans (show Same s { s with heap := h' } from rfl)) (h d S _ us ok (H.ext fun b o q => he b o (Nat.ne_of_lt (Heap.lt_size q)) q) rs)
theorem run_unpack {d : Cy} {S S₀ : Tab} {s s₀ : Shared} {v : Value} {ts k pos} {as : List AV} {Q : Mem → Loc → Prop} (k₀ : TabLe S₀ S) (e₀ : Same s₀ s) (ok : Ok W f n d) (H : Here W d S M loc s.heap) (r : VR W S v (.tup as))
    (hn : ts.length = as.length) (hstar : ∀ env, (assignEach ts env).findIdx? (·.1) = none ∧ (assignEach ts env).length = ts.length) (h : Asg W f n ts as M loc Q EQ) : Run W f d UR (assign (.Tuple ts k pos) (f.here d) v) S₀ s₀ s (fun _ M l => Q M l) EQ := by
  obtain ⟨a, us, rfl, ht, rs⟩ := H.tup ok r
  refine assign_Tuple_tuple ok.hand ht ?_ (hstar _).1 fun h' he => ?_
  · (with_reducible refine rwE ((hstar _).2) ?_; with_reducible refine rwE hn ?_; with_reducible refine rwE List.size_toArray ?_; with_reducible refine rwE (VRs.len rs) ?_; with_reducible rfl)
  · with_reducible refine rwE List.toList_toArray ?_
    exact Run.up k₀ (e₀.trans (show Same s { s with heap := h' } from rfl)) (h d S _ us ok (H.ext fun b o q => he b o (Nat.ne_of_lt (Heap.lt_size q)) q) rs)
theorem sx_Unpack {ts k tpos value pos} (h : Ev W f n value M loc (fun a M₁ l₁ => ∃ as, a = .tup as ∧ ts.length = as.length ∧ Asg W f n ts as M₁ l₁ (fun M l => Q .next M l) EQ) EQ)
    (hstar : ∀ env, (assignEach ts env).findIdx? (·.1) = none ∧ (assignEach ts env).length = ts.length)
    (hs : ∀ env, swapsWithSole [.Tuple ts k tpos] value pos.line env = pure false) (hw : ∀ d, swappedStores [.Tuple ts k tpos] value (f.here d) = pure none) : Sx W f n (.Assign [.Tuple ts k tpos] value pos) M loc Q EQ := by
  intro d S s ok H
  refine Assign_Tuple ?_ (hs _) (hw _)
  refine Run.then le0 rfl (h d S s ok H) fun v s₁ S₁ M₁ l₁ a e₁ k₁ _ H₁ r₁ q₁ => ?_
  refine byG fun G_ bk_ => ?_; obtain ⟨as, rfl, hn, q⟩ := q₁; refine bk_ ?_; clear bk_
  exact wpAny_mono (run_unpack (n := n) k₁ e₁ ok H₁ r₁ hn hstar q) (fun _ s' ⟨e, S', M', l', b, k, H', _, q⟩ => ⟨e, S', M', l', .next, k, H', .next, q⟩) fun _ _ z => z
theorem sx_AssignSub {o i pos' value pos} (h : Ev W f n value M loc (fun a M₁ l₁ => Ev W f n o M₁ l₁ (fun b M₂ l₂ => Ev W f n i M₂ l₂ (fun c M₃ l₃ => T3 W f n UR (fun ov iv v => setItem ov iv v) b c a M₃ l₃ (fun _ M l => Q .next M l) EQ) EQ) EQ) EQ)
    (hs : ∀ env, swapsWith value (some (.Subscript o i pos')) pos.line env = pure false) : Sx W f n (.Assign [.Subscript o i pos'] value pos) M loc Q EQ := by
  intro d S s ok H
  refine wpAny_Assign_Subscript ?_ (hs _)
  refine Run.then le0 rfl (h d S s ok H) fun v s₁ S₁ M₁ l₁ a e₁ k₁ _ H₁ r₁ q₁ => ?_
  refine Run.then k₁ e₁ (q₁ d S₁ s₁ ok H₁) fun u s₂ S₂ M₂ l₂ b e₂ k₂ k₂' H₂ r₂ q₂ => ?_
  refine Run.then k₂ e₂ (q₂ d S₂ s₂ ok H₂) fun x s₃ S₃ M₃ l₃ c e₃ k₃ k₃' H₃ r₃ q₃ => ?_
  exact wpAny_mono (Run.up k₃ e₃ (q₃ d S₃ s₃ u x v ok H₃ (r₂.mono k₃') r₃ ((r₁.mono k₂').mono k₃'))) (fun _ s' ⟨e, S', M', l', b, k, H', _, q⟩ => ⟨e, S', M', l', .next, k, H', .next, q⟩) fun _ _ z => z
end

section
variable {W : Wd} {f : Fx} {n : Nat} {M : Mem} {loc : Loc} {Q : Bool → Mem → Loc → Prop} {EQ : Mem → Loc → Prop}
theorem tr_Compare {l op r pos} (h : Ev W f n l M loc (KBin1 W f n r (compareOp op) (KCmp2 Q) EQ) EQ) (hm : behindInMarks op r = false) :
    Tr W f n (.Compare l [op] [r] pos) M loc Q EQ := by
  intro d S s ok H
  refine wpAny_isTrue_Compare1 ?_ hm
  refine Run.then le0 rfl (h d S s ok H) fun v s₁ S₁ M₁ l₁ a e₁ k₁ _ H₁ r₁ q₁ => ?_
  refine Run.then k₁ e₁ (q₁ d S₁ s₁ ok H₁) fun u s₂ S₂ M₂ l₂ b e₂ k₂ k₂' H₂ r₂ q₂ => ?_
  refine Run.then k₂ e₂ (q₂ d S₂ s₂ v u ok H₂ (r₁.mono k₂') r₂) fun x s₃ S₃ M₃ l₃ c e₃ k₃ k₃' H₃ r₃ q₃ => ?_
  obtain ⟨q, rfl, z⟩ := q₃
  cases r₃ using VR.boolE
  exact wpAny_truthy_bool (Run.end e₃ k₃ H₃ rfl z)
theorem tr_Not {x pos} (h : Tr W f n x M loc (fun c M₁ l₁ => Q (!c) M₁ l₁) EQ) : Tr W f n (.UnaryOp .Not x pos) M loc Q EQ := by
  intro d S s ok H
  refine isTrue_not ?_
  refine Run.then le0 rfl (h d S s ok H) fun v s₁ S₁ M₁ l₁ a e₁ k₁ _ H₁ r₁ q₁ => ?_
  obtain rfl : v = a := r₁
  exact Run.end e₁ k₁ H₁ rfl q₁
theorem tr_AndNil {pos} (h : Q true M loc) : Tr W f n (.BoolOp .And [] pos) M loc Q EQ := fun d S s ok H => isTrue_and_nil (Run.end rfl le0 H rfl h)
theorem tr_And {x rest pos} (h : Tr W f n x M loc (fun c M₁ l₁ => (c = true → Tr W f n (.BoolOp .And rest pos) M₁ l₁ Q EQ) ∧ (c = false → Q false M₁ l₁)) EQ) : Tr W f n (.BoolOp .And (x :: rest) pos) M loc Q EQ := by
  intro d S s ok H
  refine isTrue_and ?_
  refine Run.then le0 rfl (h d S s ok H) fun v s₁ S₁ M₁ l₁ a e₁ k₁ _ H₁ r₁ q₁ => ?_
  obtain rfl : v = a := r₁
  cases v with
  | true => exact Run.up k₁ e₁ (q₁.1 rfl d S₁ s₁ ok H₁)
  | false => exact Run.end e₁ k₁ H₁ rfl (q₁.2 rfl)
theorem tr_OrNil {pos} (h : Q false M loc) : Tr W f n (.BoolOp .Or [] pos) M loc Q EQ := fun d S s ok H => isTrue_or_nil (Run.end rfl le0 H rfl h)
theorem tr_Or {x rest pos} (h : Tr W f n x M loc (fun c M₁ l₁ => (c = true → Q true M₁ l₁) ∧ (c = false → Tr W f n (.BoolOp .Or rest pos) M₁ l₁ Q EQ)) EQ) : Tr W f n (.BoolOp .Or (x :: rest) pos) M loc Q EQ := by
  intro d S s ok H
  refine isTrue_or ?_
  refine Run.then le0 rfl (h d S s ok H) fun v s₁ S₁ M₁ l₁ a e₁ k₁ _ H₁ r₁ q₁ => ?_
  obtain rfl : v = a := r₁
  cases v with
  | true => exact Run.end e₁ k₁ H₁ rfl (q₁.1 rfl)
  | false => exact Run.up k₁ e₁ (q₁.2 rfl d S₁ s₁ ok H₁)
/-- any other test whose value is a bool -/
theorem tr_plain {e : Expr} (h : Ev W f n e M loc (KCmp2 Q) EQ) (he : ∀ env whole, isTrue e env whole = (do let v ← whole; standAt e.pos; holding [v] (truthy v))) : Tr W f n e M loc Q EQ := by
  intro d S s ok H
  refine isTrue_plain ?_ (he _ _)
  refine Run.then le0 rfl (h d S s ok H) fun v s₁ S₁ M₁ l₁ a e₁ k₁ _ H₁ r₁ q₁ => ?_
  obtain ⟨q, rfl, z⟩ := q₁
  cases r₁ using VR.boolE
  exact wpAny_truthy_bool (Run.end e₁ k₁ H₁ rfl z)
end
end Mine
end
section
open PySem PySem.W PySem.Calls PyProof.Rows PySem.Spec
namespace Mine

noncomputable def AV.handed : AV → Bool
  | .any => false
  | .stat v => handedIn v
  | _ => true
theorem handed_of {W : Wd} {S : Tab} {v : Value} {a : AV} (r : VR W S v a) (h : a.handed = true) : handedIn v = true := by
  cases r <;> first | rfl | exact h | injection h

theorem ns_find {o : Obj} {kvs : List (Str × Value)} (h : NsO o kvs) (name : Str) : lookIn name o = some (kvs.lookup name) := by
  obtain ⟨es, ep, hd, hk, rfl⟩ := h
  unfold lookIn
  with_reducible refine rwE hd ?_
  dsimp only
  have nr : es.toList.any (·.refKey) = false := by
    rw [List.any_eq_false]
    intro e he
    obtain ⟨x, t, hx⟩ := hk e he
    unfold DictEntry.refKey
    with_reducible refine rwE hx ?_; simp
  have fd : es.toList.find? (·.key.isStr name) = none ∧ (es.toList.map (fun e => (keyStr e.key, e.val))).lookup name = none ∨
      ∃ e, es.toList.find? (·.key.isStr name) = some e ∧ (es.toList.map (fun e => (keyStr e.key, e.val))).lookup name = some e.val := by
    generalize es.toList = l at hk
    induction l with
    | nil => exact .inl ⟨rfl, rfl⟩
    | cons e l ih =>
      obtain ⟨x, t, hx⟩ := hk e (.head _)
      have his : e.key.isStr name = (x == name) := by rw [hx]; rfl
      (with_reducible refine rwE (List.find?_cons) ?_; with_reducible refine rwE List.map_cons ?_; with_reducible refine rwE List.lookup_cons ?_; with_reducible refine rwE his ?_; with_reducible refine rwE hx ?_)
      with_reducible refine rwE (show keyStr (Value.str x t) = x from rfl) ?_
      by_cases q : x = name
      · subst q
        simp
      · have q1 : (x == name) = false := by simpa using q
        have q2 : (name == x) = false := by simpa using Ne.symm q
        (with_reducible refine rwE q1 ?_; with_reducible refine rwE q2 ?_)
        exact ih fun e he => hk e (.tail _ he)
  rcases fd with ⟨a, b⟩ | ⟨e, a, b⟩
  · rw [a, b]; dsimp only; rw [nr]; rfl
  · (with_reducible refine rwE a ?_; with_reducible refine rwE b ?_; with_reducible rfl)
theorem vrd_find {W : Wd} {S : Tab} {name : Str} {kvs : List (Str × Value)} {fs : List (Str × AV)} (h : VRd W S kvs fs) : (fs.lookup name = none ∧ kvs.lookup name = none) ∨ ∃ a v, fs.lookup name = some a ∧ kvs.lookup name = some v ∧ VR W S v a := by
  induction h using VRd.ind with
  | nil => exact .inl ⟨rfl, rfl⟩
  | cons x v a vs as r _ ih =>
    (with_reducible refine rwE List.lookup_cons ?_; with_reducible refine rwE List.lookup_cons ?_)
    cases name == x with
    | true => exact .inr ⟨a, v, rfl, rfl, r⟩
    | false => exact ih

section
variable {W : Wd} {f : Fx} {n : Nat} {M : Mem} {loc : Loc} {Q : AV → Mem → Loc → Prop} {EQ : Mem → Loc → Prop}
inductive InstV (W : Wd) (S : Tab) (h : Heap) (v : Value) (C : Addr) (fs : List (Str × AV)) : Prop
  | mk (a dx : Addr) (od : Obj) (kvs : List (Str × Value)) (e : v = .ref a) (i : PySem.W.InstAt h a (instObj C dx) C (some od)) (n : NsO od kvs) (r : VRd W S kvs fs) : InstV W S h v C fs
theorem Here.inst {d : Cy} {S : Tab} {h : Heap} (H : Here W d S M loc h) (ok : Ok W f n d) {v : Value} {C : Addr} {fs : List (Str × AV)} (r : VR W S v (.finst C fs)) :
    InstV W S h v C fs := by
  cases r using VR.finstE with
  | finst a dx od kvs h1 h2 h3 h4 => exact ⟨a, dx, od, kvs, rfl, ⟨H.at ok h1, rfl, rfl, H.at ok h2⟩, h3, h4⟩
/-- a field of an object that stays -/
theorem t_getAttr {C : Addr} {fs : List (Str × AV)} {name : Str} {a : AV} {attr : Option Value} {b : Bool} (hg : plainGet W.K C name = true) (hh : hasDictIn W.K C = true) (ha : findIn W.K (.ref C) name = some attr) (hn : noGet W.K attr = true)
    (hl : fs.lookup name = some a) (hv : a.handed = true) (h : Q a M loc) : T1 W f n (VR W) (fun v => getAttr v name b) (.finst C fs) M loc Q EQ := by
  intro d S s v ok H r
  obtain ⟨x, dx, od, kvs, rfl, I, hns, hr⟩ := H.inst ok r
  rcases vrd_find (name := name) hr with ⟨z, _⟩ | ⟨a', u, h1, h2, h3⟩
  · rw [hl] at z; injection z
  · rw [hl] at h1; (injection h1 with e0; (first | subst e0 | cases e0))
    have X : W.K.In s.heap := by obtain ⟨g, m, news, G, F, _⟩ := H; exact (ok.kin' G).keeps F.keep
    exact get_value X I (plainGet_of hg).1 (findObj_own hh ha hn (by (rewrite [ns_find hns]; with_reducible refine rwE h2 ?_; with_reducible rfl))) (handed_of h3 hv) (Run.end rfl le0 H h3 h)
noncomputable abbrev KAttr (W : Wd) (f : Fx) (n : Nat) (attr : Str) (Q : AV → Mem → Loc → Prop) (EQ : Mem → Loc → Prop) : AV → Mem → Loc → Prop := fun a M l => T1 W f n (VR W) (fun v => getAttr v attr true) a M l Q EQ
theorem ev_Attribute {value attr pos} (h : Ev W f n value M loc (KAttr W f n attr Q EQ) EQ)
    (he : ∀ env, eval (.Attribute value attr pos) env = (do
      let o ← eval value env
      standAt pos.atName
      let r ← holding [o] (getAttr o attr true)
      letTemporaryGo value o r
      pure r)) : Ev W f n (.Attribute value attr pos) M loc Q EQ := by
  intro d S s ok H
  refine Attribute_any_ ?_ (he _)
  refine Run.then le0 rfl (h d S s ok H) fun v s₁ S₁ M₁ l₁ a e₁ k₁ _ H₁ r₁ q₁ => ?_
  exact Run.up k₁ e₁ (q₁ d S₁ s₁ v ok H₁ r₁)

/-- what a call's function is, and with what ahead -/
inductive Fun (W : Wd) : AV → Value → Prop
  | def (fa : Addr) : keepIn W.K (.ref fa) = true → Fun W (.stat (.ref fa)) (.ref fa)
  | builtin (id : String) : Fun W (.stat (.builtin id)) (.builtin id)
  | type (T : String) : Fun W (.stat (.type T)) (.type T)

theorem run_callWith {d : Cy} {S S₀ : Tab} {s s₀ : Shared} {fv : AV} {v : Value} {first : List Value} {fas : List AV} {args : List Expr} {pos : Pos} (k₀ : TabLe S₀ S) (e₀ : Same s₀ s) (ok : Ok W f n d) (H : Here W d S M loc s.heap) (hf : Fun W fv v) (hfirst : VRs W S first fas)
    (ht : (∀ T, v ≠ .type T) ∨ first = [])
    (hs : args = [] ∨ ∃ e rest, args = e :: rest ∧ (∀ env, starEach (e :: rest) env = (false, eval e env) :: starEach rest env) ∧ ∀ env, (backTo pos (starEach rest env)).any (·.1) = false)
    (h : Sp W f n pos args M loc (fun as M₁ l₁ => Ts W f n (VR W) (fun vs => call v vs) (fas ++ as) M₁ l₁ Q EQ) EQ) :
    Run W f d (VR W) (callWith pos v first (backTo pos (starEach args (f.here d))) []) S₀ s₀ s Q EQ := by
  have key : ∀ (vs : List Value) s₁ S₁ M₁ l₁ as, Same s₀ s₁ → TabLe S₀ S₁ → TabLe S S₁ → Here W d S₁ M₁ l₁ s₁.heap → VRs W S₁ vs as → Ts W f n (VR W) (fun vs => call v vs) (fas ++ as) M₁ l₁ Q EQ →
      Run W f d (VR W) (call v (first ++ vs)) S₀ s₀ s₁ Q EQ := fun vs s₁ S₁ M₁ l₁ as e₁ k₁ k₁' H₁ r₁ q₁ => by
    exact Run.up k₁ e₁ (q₁ d S₁ s₁ _ ok H₁ (VRs.ind (m := fun xs as' _ => VRs W S₁ (xs ++ vs) (as' ++ as)) r₁ (fun _ _ _ _ r _ ih => .cons _ _ _ _ r ih) (hfirst.mono k₁')))
  have X : ∀ {M l} {S : Tab} {h : Heap}, Here W d S M l h → W.K.In h := fun H => by obtain ⟨g, m, news, G, F, _⟩ := H; exact (ok.kin' G).keeps F.keep
  obtain ⟨g₀, m₀, news₀, G₀, F₀, _⟩ := id H
  rcases hs with rfl | ⟨e, rest, rfl, he, hp⟩
  · have hn : Run W f d (VR W) (call v (first ++ [])) S₀ s₀ s Q EQ := by
      have z := h d S s ok H
      have zz : wpAny (model W.prog W.w) (d.A.deeper (f.env d)) (spliced (backTo pos (starEach [] (f.here d)))) (fun vs s₁ => vs = [] → Run W f d (VR W) (call v (first ++ [])) S₀ s₀ s₁ Q EQ) (EP W f d S₀ s₀ EQ) s :=
        Run.then k₀ e₀ z fun vs s₁ S₁ M₁ l₁ as e₁ k₁ k₁' H₁ r₁ q₁ hv => by subst hv; exact key [] s₁ S₁ M₁ l₁ as e₁ k₁ k₁' H₁ r₁ q₁
      exact fun Γ p hΓ => (zz Γ p hΓ) rfl Γ p hΓ
    cases hf with
    | «def» fa hk => exact callWith_K0 (X H) hk hn
    | builtin id => rw [List.append_nil] at hn; exact callWith_method0 hn
    | type T =>
      rcases ht with ht | rfl
      · exact absurd rfl (ht T)
      · exact callWith_type0 hn
  · cases hf with
    | «def» fa hk =>
      refine callWith_K (ok.kin' G₀) hk ?_ (he _) (hp _)
      exact Run.then k₀ e₀ (h d S s ok H) fun vs s₁ S₁ M₁ l₁ as e₁ k₁ k₁' H₁ r₁ q₁ => ⟨X H₁, key vs s₁ S₁ M₁ l₁ as e₁ k₁ k₁' H₁ r₁ q₁⟩
    | builtin id =>
      refine callWith_method1 ?_ (he _) (hp _)
      exact Run.then k₀ e₀ (h d S s ok H) fun vs s₁ S₁ M₁ l₁ as e₁ k₁ k₁' H₁ r₁ q₁ => key vs s₁ S₁ M₁ l₁ as e₁ k₁ k₁' H₁ r₁ q₁
    | type T =>
      rcases ht with ht | rfl
      · exact absurd rfl (ht T)
      · refine PyProof.Rows.callWith_type1 ?_ (he _) (hp _)
        exact Run.then k₀ e₀ (h d S s ok H) fun vs s₁ S₁ M₁ l₁ as e₁ k₁ k₁' H₁ r₁ q₁ => key vs s₁ S₁ M₁ l₁ as e₁ k₁ k₁' H₁ r₁ q₁

noncomputable abbrev KCallTs (W : Wd) (f : Fx) (n : Nat) (v : Value) (Q : AV → Mem → Loc → Prop) (EQ : Mem → Loc → Prop) : List AV → Mem → Loc → Prop := fun as M l => Ts W f n (VR W) (fun vs => call v vs) as M l Q EQ
inductive KCall (W : Wd) (f : Fx) (n : Nat) (pos : Pos) (args : List Expr) (Q : AV → Mem → Loc → Prop) (EQ : Mem → Loc → Prop) (a : AV) (M : Mem) (l : Loc) : Prop
  | mk (v : Value) (hf : Fun W a v) (h : Sp W f n pos args M l (KCallTs W f n v Q EQ) EQ) : KCall W f n pos args Q EQ a M l
noncomputable abbrev KMTs (W : Wd) (f : Fx) (n : Nat) (fa : Addr) (a : AV) (Q : AV → Mem → Loc → Prop) (EQ : Mem → Loc → Prop) : List AV → Mem → Loc → Prop := fun as M l => Ts W f n (VR W) (fun vs => call (.ref fa) vs) (a :: as) M l Q EQ
inductive KMeth (W : Wd) (f : Fx) (n : Nat) (name : Str) (pos : Pos) (args : List Expr) (Q : AV → Mem → Loc → Prop) (EQ : Mem → Loc → Prop) (a : AV) (M : Mem) (l : Loc) : Prop
  | mk (C : Addr) (fs : List (Str × AV)) (fa : Addr) (ha : a = .finst C fs) (h1 : plainGet W.K C name = true) (h2 : findIn W.K (.ref C) name = some (some (.ref fa))) (h3 : isFn W.K (.ref fa) = true) (h4 : keepIn W.K (.ref fa) = true) (h5 : fs.lookup name = none)
      (h : Sp W f n pos args M l (KMTs W f n fa (.finst C fs) Q EQ) EQ) : KMeth W f n name pos args Q EQ a M l
theorem ev_Call {func args pos} (h : Ev W f n func M loc (KCall W f n pos args Q EQ) EQ)
    (he : ∀ env, eval (.Call func args [] pos) env = (do callWith pos (← eval func env) [] (backTo pos (starEach args env)) (backToKw pos (keywordEach [] env))))
    (hs : args = [] ∨ ∃ e rest, args = e :: rest ∧ (∀ env, starEach (e :: rest) env = (false, eval e env) :: starEach rest env) ∧ ∀ env, (backTo pos (starEach rest env)).any (·.1) = false) :
    Ev W f n (.Call func args [] pos) M loc Q EQ := by
  intro d S s ok H
  refine Call_ ?_ (he _)
  refine Run.then le0 rfl (h d S s ok H) fun v s₁ S₁ M₁ l₁ a e₁ k₁ _ H₁ r₁ q₁ => ?_
  obtain ⟨u, hf, z⟩ := q₁
  have e : v = u := by
    cases hf with
    | «def» => exact VR.inv r₁
    | builtin => exact VR.inv r₁
    | type => exact VR.inv r₁
  subst e
  exact run_callWith k₁ e₁ ok H₁ hf .nil (.inr rfl) hs z

/-- a method of an object that stays -/
theorem ev_CallMeth {o name apos args pos} {pl : Env → Sem Bool} (h : Ev W f n o M loc (KMeth W f n name pos args Q EQ) EQ)
    (he : ∀ env, eval (.Call (.Attribute o name apos) args [] pos) env = (do
      let ov ← eval o env
      standAt apos.atName
      let (f, first) ← holding [ov] (getMethod ov name (pl env))
      callWith pos f first (backTo pos (starEach args env)) (backToKw pos (keywordEach [] env))))
    (hs : args = [] ∨ ∃ e rest, args = e :: rest ∧ (∀ env, starEach (e :: rest) env = (false, eval e env) :: starEach rest env) ∧ ∀ env, (backTo pos (starEach rest env)).any (·.1) = false) :
    Ev W f n (.Call (.Attribute o name apos) args [] pos) M loc Q EQ := by
  intro d S s ok H
  refine methodCall_KW ?_ (he _)
  refine Run.then le0 rfl (h d S s ok H) fun v s₁ S₁ M₁ l₁ a e₁ k₁ _ H₁ r₁ q₁ => ?_
  obtain ⟨C, fs, fa, rfl, hg, hf, ht, hk, hl, z⟩ := q₁
  obtain ⟨x, dx, od, kvs, rfl, I, hns, hr⟩ := H₁.inst ok r₁
  have X : W.K.In s₁.heap := by obtain ⟨g, m, news, G, F, _⟩ := H₁; exact (ok.kin' G).keeps F.keep
  have hsh : shadowIn (some od) name = some false := by
    refine (?_ : (lookIn name od).map (·.isSome) = some false)
    rcases vrd_find (name := name) hr with ⟨_, z⟩ | ⟨a', u, h1, _, _⟩
    · (rewrite [ns_find hns]; with_reducible refine rwE z ?_); rfl
    · rw [hl] at h1; injection h1
  refine method_fn X I (plainGet_of hg).1 (plainGet_of hg).2 hf (beq_iff_eq.mp ht) hsh ?_
  exact run_callWith k₁ e₁ ok H₁ (.def fa hk) (.cons _ _ _ _ r₁ .nil) (.inl fun T e => nomatch e) hs z

/-- a method of a list or a dict that may turn -/
theorem ev_CallMade {o name apos args pos} {T id : String} (pa : PlainAttrs T) (slot : Slot T name id) (hty : typeOf (.builtin id) = pure (.type "method_descriptor"))
    (h : Ev W f n o M loc (fun a M₁ l₁ => ∃ x ao, a = .obj x ∧ (x, ao) ∈ M₁ ∧ (∀ S ob, OR W S ob ao → ob.cls = .type T ∧ ob.dict = none) ∧
      Sp W f n pos args M₁ l₁ (fun as M₂ l₂ => Ts W f n (VR W) (fun vs => call (.builtin id) vs) (.obj x :: as) M₂ l₂ Q EQ) EQ) EQ)
    (hbase : ∀ env, attributeBase o name env (eval o env) = eval o env)
    (hfew : ∀ env, ((backTo pos (starEach args env)).all (fun x => !x.1) && (backToKw pos (keywordEach [] env)).all (fun x => x.1.isSome)
      && decide (args.length + ([] : List Keyword).length + (if ([] : List Keyword).isEmpty then 0 else 1) < 30)) = true)
    (hline : (apos.endLine == pos.line) = true)
    (hs : args = [] ∨ ∃ e rest, args = e :: rest ∧ (∀ env, starEach (e :: rest) env = (false, eval e env) :: starEach rest env) ∧ ∀ env, (backTo pos (starEach rest env)).any (·.1) = false) :
    Ev W f n (.Call (.Attribute o name apos) args [] pos) M loc Q EQ := by
  intro d S s ok H
  refine wpAny_Call_method (hbase _) (hfew _) hline pa slot hty ?_
  refine Run.then le0 rfl (h d S s ok H) fun v s₁ S₁ M₁ l₁ a e₁ k₁ _ H₁ r₁ q₁ => ?_
  refine byG fun G_ bk_ => ?_; obtain ⟨x, ao, rfl, hm, ho, z⟩ := q₁
  cases r₁ using VR.objE
  obtain ⟨ob, h1, h2⟩ := H₁.memAt hm
  obtain ⟨h3, h4⟩ := ho _ _ h2; refine bk_ ?_; clear bk_
  refine ⟨⟨ob, h1, h3⟩, fun a e => ?_, ?_⟩
  · (injection e with e0; (first | subst e0 | cases e0)); exact ⟨ob, h1, h4⟩
  · exact run_callWith k₁ e₁ ok H₁ (.builtin id) (.cons _ _ _ _ (.obj x) .nil) (.inl fun T e => nomatch e) hs z
end
end Mine
end
section
open PySem PySem.W PySem.Calls PyProof.Rows PySem.Spec
namespace Mine

/-- an exception that leaves a frame flies over the one below -/
theorem run_leaving {W : Wd} {f : Fx} {n : Nat} {d : Cy} {S : Tab} {EQ : Mem → Loc → Prop} {e : Value} {s' : Shared} {R : Result → Shared → Prop} (hk : f.sc.kind = .function)
    (z : Exc W f d S EQ e s')
    (hQ : ∀ ea t vs g news S' M' loc' h', e = .ref ea → TabLe S S' → Ground d g → LedOk W news d.Fm S' M' → EQ M' loc' → RaisedS d.base g d.outer ea (.ref W.X) t vs news h' → g.UpToSlots h' → R (.error e) { s' with heap := h' }) :
    wpAny (model W.prog W.w) (d.A.deeper (f.env d)) (leaving (f.env d) e) (fun _ s'' => R (.error e) s'') (fun e' s'' => R (.error e') s'') s' := by
  obtain ⟨ea, t, vs, g, m, news, S', M', loc', rfl, k, G, LO, LC, q, st⟩ := z
  have fin : ∀ h', RaisedS d.base g d.outer ea (.ref W.X) t vs news h' → g.UpToSlots h' → R (.error (.ref ea)) { s' with heap := h' } := fun h' r u => hQ ea t vs g news S' M' loc' h' rfl k G LO q r u
  cases st with
  | fresh h x F N => exact leave_fresh (Q := fun _ s'' => R (.error (.ref ea)) s'') G.below x F N fin rfl hk
  | fly G' F r u => exact leave_on (Q := fun _ s'' => R (.error (.ref ea)) s'') G.below F r u rfl fin
  | held G' F r u => exact leave_held (Q := fun _ s'' => R (.error (.ref ea)) s'') r F u rfl fin

noncomputable def BindN (fd : FuncData) (names : List Str) : Prop := ∀ vs : List Value, vs.length = names.length → bindArgs fd ⟨vs, []⟩ = pure (names.zip vs)
theorem bindN0 {fd : FuncData} (h : bindArgs fd ⟨[], []⟩ = pure []) : BindN fd [] := fun vs e => by
  obtain rfl := List.length_eq_zero_iff.mp e; exact h
theorem len_s {α : Type} {n : Nat} : ∀ {vs : List α}, vs.length = n + 1 → ∃ a r, vs = a :: r ∧ r.length = n
  | a :: r, e => ⟨a, r, rfl, Nat.succ.inj e⟩
theorem bindN1 {fd : FuncData} {x : Str} (h : ∀ a, bindArgs fd ⟨[a], []⟩ = pure [(x, a)]) : BindN fd [x] := fun vs e => by
  obtain ⟨a, v1', rfl, e1⟩ := len_s e
  cases List.eq_nil_of_length_eq_zero e1
  exact h a
theorem bindN2 {fd : FuncData} {x y : Str} (h : ∀ a b, bindArgs fd ⟨[a, b], []⟩ = pure [(x, a), (y, b)]) : BindN fd [x, y] := fun vs e => by
  refine byG fun G_ bk_ => ?_; obtain ⟨a, v1', rfl, e1⟩ := len_s e
  obtain ⟨b, v2', rfl, e2⟩ := len_s e1; refine bk_ ?_; clear bk_
  cases List.eq_nil_of_length_eq_zero e2
  exact h a b
theorem bindN3 {fd : FuncData} {x y z : Str} (h : ∀ a b c, bindArgs fd ⟨[a, b, c], []⟩ = pure [(x, a), (y, b), (z, c)]) : BindN fd [x, y, z] := fun vs e => by
  refine byG fun G_ bk_ => ?_; obtain ⟨a, v1', rfl, e1⟩ := len_s e
  obtain ⟨b, v2', rfl, e2⟩ := len_s e1
  obtain ⟨c, v3', rfl, e3⟩ := len_s e2; refine bk_ ?_; clear bk_
  cases List.eq_nil_of_length_eq_zero e3
  exact h a b c
theorem bindN4 {fd : FuncData} {x y z u : Str} (h : ∀ a b c d, bindArgs fd ⟨[a, b, c, d], []⟩ = pure [(x, a), (y, b), (z, c), (u, d)]) : BindN fd [x, y, z, u] := fun vs e => by
  refine byG fun G_ bk_ => ?_; obtain ⟨a, v1', rfl, e1⟩ := len_s e
  obtain ⟨b, v2', rfl, e2⟩ := len_s e1
  obtain ⟨c, v3', rfl, e3⟩ := len_s e2
  obtain ⟨d, v4', rfl, e4⟩ := len_s e3; refine bk_ ?_; clear bk_
  cases List.eq_nil_of_length_eq_zero e4
  exact h a b c d
theorem bindN5 {fd : FuncData} {x y z u v : Str} (h : ∀ a b c d i, bindArgs fd ⟨[a, b, c, d, i], []⟩ = pure [(x, a), (y, b), (z, c), (u, d), (v, i)]) : BindN fd [x, y, z, u, v] := fun vs e => by
  refine byG fun G_ bk_ => ?_; obtain ⟨a, v1', rfl, e1⟩ := len_s e
  obtain ⟨b, v2', rfl, e2⟩ := len_s e1
  obtain ⟨c, v3', rfl, e3⟩ := len_s e2
  obtain ⟨d, v4', rfl, e4⟩ := len_s e3
  obtain ⟨i, v5', rfl, e5⟩ := len_s e4; refine bk_ ?_; clear bk_
  cases List.eq_nil_of_length_eq_zero e5
  exact h a b c d i
theorem bindN7 {fd : FuncData} {x y z u v p q : Str} (h : ∀ a b c d i j k, bindArgs fd ⟨[a, b, c, d, i, j, k], []⟩ = pure [(x, a), (y, b), (z, c), (u, d), (v, i), (p, j), (q, k)]) : BindN fd [x, y, z, u, v, p, q] := fun vs e => by
  refine byG fun G_ bk_ => ?_; obtain ⟨a, v1', rfl, e1⟩ := len_s e
  obtain ⟨b, v2', rfl, e2⟩ := len_s e1
  obtain ⟨c, v3', rfl, e3⟩ := len_s e2
  obtain ⟨d, v4', rfl, e4⟩ := len_s e3
  obtain ⟨i, v5', rfl, e5⟩ := len_s e4
  obtain ⟨j, v6', rfl, e6⟩ := len_s e5
  obtain ⟨k, v7', rfl, e7⟩ := len_s e6; refine bk_ ?_; clear bk_
  cases List.eq_nil_of_length_eq_zero e7
  exact h a b c d i j k

/-- a frame's names at its start -/
noncomputable def Loc.of (names : List Str) (as : List AV) : Loc := fun y => (names.zip as).reverse.lookup y
theorem vrd_zip {W : Wd} {S : Tab} {names : List Str} {vs : List Value} {as : List AV} (h : VRs W S vs as) : VRd W S (names.zip vs) (names.zip as) := by
  induction h using VRs.ind generalizing names with
  | nil => (with_reducible refine rwE List.zip_nil_right ?_; with_reducible refine rwE List.zip_nil_right ?_); exact .nil
  | cons v a us as r _ ih =>
    cases names with
    | nil => exact .nil
    | cons x names => exact .cons x v a _ _ r ih
theorem vrd_append {W : Wd} {S : Tab} {xs ys : List (Str × Value)} {as bs : List (Str × AV)} (h : VRd W S xs as) (k : VRd W S ys bs) : VRd W S (xs ++ ys) (as ++ bs) :=
  VRd.ind (m := fun xs as _ => VRd W S (xs ++ ys) (as ++ bs)) k (fun _ _ _ _ _ r _ ih => .cons _ _ _ _ _ r ih) h
theorem vrd_reverse {W : Wd} {S : Tab} {xs : List (Str × Value)} {as : List (Str × AV)} (h : VRd W S xs as) : VRd W S xs.reverse as.reverse :=
  VRd.ind (m := fun xs as _ => VRd W S xs.reverse as.reverse) .nil (fun x v a vs as r _ ih => by
    (with_reducible refine rwE List.reverse_cons ?_; with_reducible refine rwE List.reverse_cons ?_)
    exact vrd_append ih (.cons x v a _ _ r .nil)) h
theorem locOk_of {W : Wd} {S : Tab} {d : Cy} {sc : Scope} {names : List Str} {vs : List Value} {as : List AV} {cells : List (Addr × Obj)} (hd : d.co = none) (r : VRs W S vs as)
    (hn : ∀ x ∈ names, (sc.names.lookup x = some .local ∧ d.cl.lookup x = none) ∨ (sc.names.lookup x = some .cell ∧ (d.cl.lookup x).isSome = true))
    (hc : CellsAre (bindC (fun x => sc.names.lookup x) (names.zip vs) fun _ => none) d.cl cells) (hs : ∀ p ∈ cells, S p.1 p.2) : LocOk W S d (bindL (fun x => sc.names.lookup x) (names.zip vs) fun _ => none) (Loc.of names as) := by
  refine ⟨fun c e => (by rw [hd] at e; injection e), fun x a e => ?_⟩
  have hcl : d.cells = d.cl := by unfold Cy.cells; (with_reducible refine rwE hd ?_; with_reducible rfl)
  rcases vrd_find (name := x) (vrd_reverse (vrd_zip (names := names) r)) with ⟨h, _⟩ | ⟨a', v, h1, h2, h3⟩
  · rw [show (names.zip as).reverse.lookup x = some a from e] at h; injection h
  · rw [show (names.zip as).reverse.lookup x = some a from e] at h1; (injection h1 with e0; (first | subst e0 | cases e0))
    refine ⟨v, ?_, h3⟩
    have hx : x ∈ names := (List.of_mem_zip (List.mem_reverse.mp (lookup_mem h2))).1
    rcases hn x hx with ⟨p, q⟩ | ⟨p, q⟩
    · refine .inl ⟨by with_reducible refine rwE hcl ?_; exact q, ?_⟩
      with_reducible refine rwE hd ?_
      exact bindL_at (k := fun x => sc.names.lookup x) p (.inl h2)
    · obtain ⟨c, q⟩ := Option.isSome_iff_exists.mp q
      obtain ⟨o, h4, h5⟩ := cellsAre_at hc q
      refine .inr ⟨c, o, by with_reducible refine rwE hcl ?_; exact q, .inl (hs _ h4), ?_⟩
      rw [h5, bindC_at (k := fun x => sc.names.lookup x) (by refine (?_ : ¬ sc.names.lookup x = _); with_reducible refine rwE p ?_; decide) (.inl h2)]

noncomputable def AFl.val : AFl → AV
  | .ret a => a
  | _ => .none

theorem flr_val {W : Wd} {S : Tab} {fl : Flow} {afl : AFl} : FlR W S fl afl → VR W S (match fl with | .ret v => v | _ => .none) afl.val := by
  intro r
  cases r <;> first | exact .none | assumption

section
variable {W : Wd} {f : Fx} {n : Nat} {M : Mem} {loc : Loc} {Q : AV → Mem → Loc → Prop} {EQ : Mem → Loc → Prop}
variable {name qual : Str} {params : Arguments} {body : List Stmt} {scope : Scope} {dV kV doc pm cdv ct oc : Value} {an od : Option Addr} {osl : Array (Option Value)} {fa : Addr} {names : List Str}
theorem LedOk.cells {news cells : Led} {Fm : Led} {S : Tab} {L : Addr} (LO : LedOk W news Fm S M) (h1 : ∀ p ∈ news, p.1 < L) (h2 : ∀ p ∈ cells, L < p.1) : LedOk W (cells ++ news) Fm (fun a o => S a o ∨ (a, o) ∈ cells) M := by
  refine ⟨fun p hp => List.mem_append_right _ (LO.fm p hp), fun a o h => ?_, fun p hp => ?_, LO.nd, LO.fmM, fun p hp o h => ?_, fun p hp o h => ?_⟩
  · rcases h with h | h
    · exact List.mem_append_right _ (LO.tab a o h)
    · exact List.mem_append_left _ h
  · obtain ⟨o, h3, h4⟩ := LO.mem p hp
    exact ⟨o, List.mem_append_right _ h3, h4.mono fun _ _ x => .inl x⟩
  · rcases h with h | h
    · exact LO.tabM p hp o h
    · obtain ⟨o', h3, _⟩ := LO.mem p hp
      exact absurd (Nat.lt_trans (h1 _ h3) (h2 _ h)) (Nat.lt_irrefl _)
  · rcases h with h | h
    · exact LO.tabF p hp o h
    · exact absurd (Nat.lt_trans (h1 _ (LO.fm p hp)) (h2 _ h)) (Nat.lt_irrefl _)

/-- what a call does, as code -/
noncomputable def Tc (W : Wd) (f : Fx) (n : Nat) (fa : Addr) (as : List AV) (M : Mem) (loc : Loc) (Q : AV → Mem → Loc → Prop) (EQ : Mem → Loc → Prop) : Prop :=
  ∀ (d : Cy) (S : Tab) (s : Shared) (vs : List Value), Ok W f n d → Here W d S M loc s.heap → VRs W S vs as →
    codeAny (model W.prog W.w) (d.A.deeper (f.env d)) (.call (.ref fa) ⟨vs, []⟩) (fun r s' => match r with | .ok (.ret v) => QP W d (VR W) S s Q v s' | .ok _ => False | .error e => EP W f d S s EQ e s') s
theorem Tc.call {as : List AV} (h : Tc W f n fa as M loc Q EQ) : Ts W f n (VR W) (fun vs => call (.ref fa) vs) as M loc Q EQ := fun d S s vs ok H rs => wpAny_call (h d S s vs ok H rs)
/-- a def is called -/
theorem tc_def {as : List AV} (ho : W.K.lookup fa = some ⟨oc, od, .func (fnOf name qual params body scope dV kV doc pm an cdv ct), osl⟩) (hcd : codeIn W.K cdv qual = true)
    (hb : BindN (fnOf name qual params body scope dV kV doc pm an cdv ct) names) (hn : as.length = names.length) (hloc : (names.all fun x => decide (scope.names.lookup x = some .local) || decide (scope.names.lookup x = some .cell)) = true)
    (hco : scope.isCoroutine = false) (hgen : scope.isGenerator = false) (hk : scope.kind = .function)
    (hcell : (scope.names.all fun x => x.2 != .cell || decide (scope.names.lookup x.1 = some .cell)) = true) (hnd : ((cellsFrom 0 scope.names []).map (·.1)).Nodup)
    (h : Ss W ⟨qual, scope, fa, cdv, none⟩ n body M (Loc.of names as) (fun fl M' _ => Q fl.val M' loc) (fun M' _ => EQ M' loc)) :
    Tc W f (n + 1) fa as M loc Q EQ := by
  intro d S s vs ok H rs
  refine byG fun G_ bk_ => ?_; obtain ⟨g, m, news, G, F, N, LO, LC⟩ := H; refine bk_ ?_; clear bk_
  have hlen : vs.length = names.length := by with_reducible refine rwE (VRs.len rs) ?_; exact hn
  have hroom : (d.A.deeper (f.env d)).depth < recursionLimit := by
    exact ar_room ok.room
  have X := (ok.kin' G).keeps F.keep
  have cellIf : ∀ {n' : Nat} {x : Str} {c : Addr}, (x, c) ∈ cellsFrom n' scope.names [] → scope.names.lookup x = some .cell := fun {n' x c} hm => by
    rcases cellsFrom_of hm with h | h
    · cases h
    · have := List.all_eq_true.mp hcell _ h
      simpa using this
  have okc : ∀ (L' : Addr) (x : Str), (scope.names.lookup x = some .local → (cellsFrom (L' + 1) scope.names []).lookup x = none) ∧ (scope.names.lookup x = some .cell → ((cellsFrom (L' + 1) scope.names []).lookup x).isSome = true) := fun L' x => by
    refine ⟨fun e => ?_, fun e => cellsFrom_cell (lookup_mem e)⟩
    cases q : (cellsFrom (L' + 1) scope.names []).lookup x with
    | none => rfl
    | some c => have := cellIf (lookup_mem q); rw [e] at this; (injection this with e0; (first | subst e0 | cases e0))
  have hloc' : ∀ x ∈ names, scope.names.lookup x = some .local ∨ scope.names.lookup x = some .cell := fun x hx => by
    have := List.all_eq_true.mp hloc _ hx
    simpa using this
  refine code_frame G.below F N (ok.top' G).nolimit G.dicts (env := f.env d) ?_ rfl ok.kind (X _ _ ho) rfl (codeRec_of X hcd) hroom (BindsTo.of_eq (hb vs hlen)) ?_ hnd ?_ hco hgen hk
  · refine (?_ : (d.A.frames.map (f.env d :: ·)) = some (f.env d :: d.outer))
    rw [G.below.stack]; rfl
  · intro y hy
    exact hloc' _ (List.of_mem_zip (show (y.1, y.2) ∈ names.zip vs from hy)).1
  · intro g' L' h₁ tk cells FG D' F' N' Y B' lo hi
    let d' : Cy := ⟨d.A.deeper (f.env d), d.base, f.env d :: d.outer, g', L', d.Fm, cellsFrom (L' + 1) scope.names [], none⟩
    have G' : Ground d' g' := ⟨B', KtsTurn.refl, D'⟩
    have kc : TabLe S (fun a o => S a o ∨ (a, o) ∈ cells) := fun _ _ x => .inl x
    have H' : Here W d' (fun a o => S a o ∨ (a, o) ∈ cells) M (Loc.of names as) h₁ := ⟨g', _, _, G', F', N', LO.cells lo hi, locOk_of (sc := scope) rfl (rs.mono kc) (fun x hx => by
      rcases hloc' x hx with h | h
      · exact .inl ⟨h, (okc L' x).1 h⟩
      · exact .inr ⟨h, (okc L' x).2 h⟩) Y fun p hp => .inr hp⟩
    have ok' : Ok W ⟨qual, scope, fa, cdv, none⟩ n d' := ⟨hk, ok.kin, ok.top, ar_in ok.room, ar_units (k := 3) (by decide) ok.units, ok.hand, ok.mods, okc L', trivial⟩
    refine wpAny_mono (h d' _ _ ok' H') (fun fl s' ⟨e, S', M', loc', afl, k, H₂, r, q⟩ => ?_) (fun v s' ⟨e, z⟩ => ?_)
    · refine byG fun G_ bk_ => ?_; obtain ⟨g₂, m₂, news₂, G₂, F₂, N₂, LO₂, _⟩ := H₂; refine bk_ ?_; clear bk_
      refine ⟨g₂, L', m₂, news₂, G₂.turn, F₂, N₂, fun h₀' T₃ F₃ N₃ B₃ => ?_⟩
      have k' : TabLe S S' := fun a o x => k a o (kc a o x)
      exact ⟨(show Same s { s with heap := h₁, toks := tk } from rfl).trans e, S', M', loc, afl.val, k', ⟨h₀', m, news₂, ⟨B₃, G.turn.trans T₃, G.dicts.turn T₃⟩, F₃, N₃, LO₂, LC.mono k'⟩, flr_val r, q⟩
    · refine run_leaving (n := n) (f := ⟨qual, scope, fa, cdv, none⟩) (d := d') hk (R := fun r s'' => match r with | .ok (.ret v) => QP W d (VR W) S s Q v s'' | .ok _ => False | .error e => EP W f d S s EQ e s'') z fun ea t ws g₂ news₂ S' M' loc' h' e₁ k G₂ LO₂ q R u => ?_
      subst e₁
      have k' : TabLe S S' := fun a o x => k a o (kc a o x)
      have nL₀ : g.get? d.L = none := kts_self F
      obtain ⟨T₁, S₁⟩ := kts_turn_at (h := g₂) (fs := d.outer.filterMap (·.frame)) (g := g)
        (fun b hb => by
          refine byG fun G_ bk_ => ?_; obtain ⟨_, o, ho', _⟩ := G.below.frames.mem hb; refine bk_ ?_; clear bk_
          exact ⟨o, ho'⟩)
        (fun b o e nmem => G₂.turn.other b o (FG.keep b o e) (fun q => by
          rcases memX (env := f.env d) rfl q with z | z
          · rw [z, nL₀] at e
            injection e
          · exact nmem z))
        (fun b o e hm => G₂.turn.up (FG.keep b o e))
      have B₃ : Below d.A d.base d.outer (ktsHeap g₂ (d.outer.filterMap (·.frame)) g) := ⟨G.below.stack, fun b o e => T₁.other b o (G.below.stays b o e) (fun hm => by
        rw [(G.below.frames.mem hm).1] at e
        injection e), G.below.frames.of_keeps fun b o e _ => by
        obtain ⟨sl', hs'⟩ := T₁.up e
        exact ⟨_, hs', rfl⟩⟩
      refine byG fun G_ bk_ => ?_; obtain ⟨oL, es, ep, hLg, hd', hk', hf'⟩ := FG.ns
      obtain ⟨sl, hs⟩ := G₂.turn.up hLg; refine bk_ ?_; clear bk_
      have F₃ : Fr (ktsHeap g₂ (d.outer.filterMap (·.frame)) g) d.L g₂ m := ⟨⟨_, es, ep, hs, hd', hk', hf'⟩, S₁, by with_reducible refine rwE T₁.size ?_; exact FG.above⟩
      exact ⟨(show Same s { s with heap := h₁, toks := tk } from rfl).trans (e.trans rfl), ea, t, ws, _, m, news₂, S', M', loc, rfl, k', ⟨B₃, G.turn.trans T₁, G.dicts.turn T₁⟩, LO₂, LC.mono k', q, .fly g₂ F₃ R u⟩
theorem ts_def {as : List AV} (ho : W.K.lookup fa = some ⟨oc, od, .func (fnOf name qual params body scope dV kV doc pm an cdv ct), osl⟩) (hcd : codeIn W.K cdv qual = true)
    (hb : BindN (fnOf name qual params body scope dV kV doc pm an cdv ct) names) (hn : as.length = names.length) (hloc : (names.all fun x => decide (scope.names.lookup x = some .local) || decide (scope.names.lookup x = some .cell)) = true)
    (hco : scope.isCoroutine = false) (hgen : scope.isGenerator = false) (hk : scope.kind = .function)
    (hcell : (scope.names.all fun x => x.2 != .cell || decide (scope.names.lookup x.1 = some .cell)) = true) (hnd : ((cellsFrom 0 scope.names []).map (·.1)).Nodup)
    (h : Ss W ⟨qual, scope, fa, cdv, none⟩ n body M (Loc.of names as) (fun fl M' _ => Q fl.val M' loc) (fun M' _ => EQ M' loc)) :
    Ts W f (n + 1) (VR W) (fun vs => call (.ref fa) vs) as M loc Q EQ := (tc_def ho hcd hb hn hloc hco hgen hk hcell hnd h).call
end
end Mine
end
section
open PySem PySem.W PySem.Calls PyProof.Rows PySem.Spec
namespace Mine

section
variable {W : Wd} {f : Fx} {n : Nat} {M : Mem} {loc : Loc} {Q : AV → Mem → Loc → Prop} {EQ : Mem → Loc → Prop}
/-! ints -/
section
variable {a b : Int}
theorem t_add (h : Q (.int (a + b)) M loc) : T2 W f n (VR W) (binaryOp .Add) (.int a) (.int b) M loc Q EQ := fun d S s v u ok H r₁ r₂ => by cases r₁ using VR.intE; cases r₂ using VR.intE; exact PySem.P.add_int (Run.end rfl le0 H (.int _ _) h)
theorem t_sub (h : Q (.int (a - b)) M loc) : T2 W f n (VR W) (binaryOp .Sub) (.int a) (.int b) M loc Q EQ := fun d S s v u ok H r₁ r₂ => by cases r₁ using VR.intE; cases r₂ using VR.intE; exact PySem.P.sub_int (Run.end rfl le0 H (.int _ _) h)
theorem t_mul (hm : IntMulOk a b) (h : Q (.int (a * b)) M loc) : T2 W f n (VR W) (binaryOp .Mult) (.int a) (.int b) M loc Q EQ := fun d S s v u ok H r₁ r₂ => by cases r₁ using VR.intE; cases r₂ using VR.intE; exact PySem.P.mul_int (Run.end rfl le0 H (.int _ _) h) hm
theorem t_mod (hb : b ≠ 0) (h : Q (.int (a.fmod b)) M loc) : T2 W f n (VR W) (binaryOp .Mod) (.int a) (.int b) M loc Q EQ := fun d S s v u ok H r₁ r₂ => by cases r₁ using VR.intE; cases r₂ using VR.intE; exact mod_int' hb (Run.end rfl le0 H (.int _ _) h)
theorem t_fdiv (hb : b ≠ 0) (hs : b.natAbs < 1073741824) (h : Q (.int (a.fdiv b)) M loc) : T2 W f n (VR W) (binaryOp .FloorDiv) (.int a) (.int b) M loc Q EQ := fun d S s v u ok H r₁ r₂ => by
  cases r₁ using VR.intE; cases r₂ using VR.intE; exact floordiv_int hb (Run.end rfl le0 H (.int _ _) h) (.inl (PyProof.noPylong_small hs))
theorem t_neg (h : Q (.int (-a)) M loc) : T1 W f n (VR W) (unaryOp .USub) (.int a) M loc Q EQ := fun d S s v ok H r₁ => by cases r₁ using VR.intE; exact PySem.P.neg_int (Run.end rfl le0 H (.int _ _) h)
theorem t_eqI (h : Q (.bool (a == b)) M loc) : T2 W f n (VR W) (compareOp .Eq) (.int a) (.int b) M loc Q EQ := fun d S s v u ok H r₁ r₂ => by cases r₁ using VR.intE; cases r₂ using VR.intE; exact PySem.P.eq_int (Run.end rfl le0 H (.bool _) h)
theorem t_ltI (h : Q (.bool (decide (a < b))) M loc) : T2 W f n (VR W) (compareOp .Lt) (.int a) (.int b) M loc Q EQ := fun d S s v u ok H r₁ r₂ => by cases r₁ using VR.intE; cases r₂ using VR.intE; exact PySem.P.lt_int (Run.end rfl le0 H (.bool _) h)
theorem t_leI (h : Q (.bool (decide (a ≤ b))) M loc) : T2 W f n (VR W) (compareOp .LtE) (.int a) (.int b) M loc Q EQ := fun d S s v u ok H r₁ r₂ => by cases r₁ using VR.intE; cases r₂ using VR.intE; exact PySem.P.le_int (Run.end rfl le0 H (.bool _) h)
theorem t_gtI (h : Q (.bool (decide (a > b))) M loc) : T2 W f n (VR W) (compareOp .Gt) (.int a) (.int b) M loc Q EQ := fun d S s v u ok H r₁ r₂ => by cases r₁ using VR.intE; cases r₂ using VR.intE; exact PySem.P.gt_int (Run.end rfl le0 H (.bool _) h)
theorem t_geI (h : Q (.bool (decide (a ≥ b))) M loc) : T2 W f n (VR W) (compareOp .GtE) (.int a) (.int b) M loc Q EQ := fun d S s v u ok H r₁ r₂ => by cases r₁ using VR.intE; cases r₂ using VR.intE; exact PySem.P.ge_int (Run.end rfl le0 H (.bool _) h)
theorem t_neI (h : Q (.bool (a != b)) M loc) : T2 W f n (VR W) (compareOp .NotEq) (.int a) (.int b) M loc Q EQ := fun d S s v u ok H r₁ r₂ => by cases r₁ using VR.intE; cases r₂ using VR.intE; exact PySem.P.ne_int (Run.end rfl le0 H (.bool _) h)
end
theorem str_eq_iff {x y : Str} : (x.cps.toList == y.cps.toList) = decide (x = y) := by
  by_cases h : x = y
  · subst h; simp
  · with_reducible refine rwE (decide_eq_false h) ?_
    refine beq_eq_false_iff_ne.mpr fun hl => h ?_
    cases x; cases y
    simp only [Str.mk.injEq]
    exact Array.toList_inj.mp hl
theorem t_eqS {x y : Str} (h : Q (.bool (decide (x = y))) M loc) : T2 W f n (VR W) (compareOp .Eq) (.str x) (.str y) M loc Q EQ := fun d S s v u ok H r₁ r₂ => by
  cases r₁ using VR.strE; cases r₂ using VR.strE; exact PySem.P.eq_str (Run.end rfl le0 H (.bool _) (by with_reducible refine rwE str_eq_iff ?_; exact h))
theorem t_neS {x y : Str} (h : Q (.bool (!decide (x = y))) M loc) : T2 W f n (VR W) (compareOp .NotEq) (.str x) (.str y) M loc Q EQ := fun d S s v u ok H r₁ r₂ => by
  cases r₁ using VR.strE; cases r₂ using VR.strE; exact PySem.P.ne_str (Run.end rfl le0 H (.bool _) (by (with_reducible refine rwE (show (x.cps.toList != y.cps.toList) = !(x.cps.toList == y.cps.toList) from rfl) ?_; with_reducible refine rwE str_eq_iff ?_); exact h))

/-! None -/
noncomputable def AV.isNone : AV → Option Bool
  | .none => some true
  | .any => Option.none
  | .stat (.ref _) => some false
  | .stat _ => Option.none
  | _ => some false
theorem isNone_of {S : Tab} {v : Value} {a : AV} {b : Bool} (r : VR W S v a) (h : a.isNone = some b) : (v == .none) = b ∧ plainIs v .none = true := by
  have i := VR.inv r
  have at_ : ∀ {u : Value}, v = u → (u == .none) = b ∧ plainIs u .none = true → (v == .none) = b ∧ plainIs v .none = true := fun e h => e ▸ h
  have ref : ∀ {x : Addr}, v = .ref x → some false = some b → (v == .none) = b ∧ plainIs v .none = true := fun e h => at_ e ⟨Option.some.inj h, rfl⟩
  cases a with
  | none => exact at_ i ⟨Option.some.inj h, rfl⟩
  | any => exact nsE h
  | bool => exact at_ i ⟨Option.some.inj h, rfl⟩
  | int => exact i.elim fun t i => at_ i ⟨Option.some.inj h, rfl⟩
  | str => exact i.elim fun t i => at_ i ⟨Option.some.inj h, rfl⟩
  | tup => exact i.elim fun _ i => i.elim fun _ i => i.elim fun _ i => ref i.1 h
  | flist => exact i.elim fun _ i => i.elim fun _ i => i.elim fun _ i => ref i.1 h
  | fdict => exact i.elim fun _ i => i.elim fun _ i => i.elim fun _ i => ref i.1 h
  | finst => exact i.elim fun _ i => i.elim fun _ i => i.elim fun _ i => i.elim fun _ i => ref i.1 h
  | slc => exact i.elim fun _ i => i.elim fun _ i => i.elim fun _ i => i.elim fun _ i => ref i.1 h
  | rng => exact i.elim fun _ i => i.elim fun _ i => i.elim fun _ i => i.elim fun _ i => ref i.1 h
  | minst => exact i.elim fun _ i => ref i.1 h
  | pair => exact i.elim fun _ i => i.elim fun _ i => i.elim fun _ i => ref i.1 h
  | obj => exact ref i h
  | stat u =>
    cases u with
    | ref x => exact ref i h
    | _ => exact nsE h
theorem t_isNone {a : AV} {b : Bool} (ha : a.isNone = some b) (h : Q (.bool b) M loc) : T2 W f n (VR W) (compareOp .Is) a .none M loc Q EQ := fun d S s v u ok H r₁ r₂ => by
  cases r₂ using VR.noneE
  obtain ⟨e, p⟩ := isNone_of r₁ ha
  exact wpAny_is_plain p (Run.end rfl le0 H (by with_reducible refine rwE e ?_; exact .bool b) h)
theorem t_isNotNone {a : AV} {b : Bool} (ha : a.isNone = some b) (h : Q (.bool (!b)) M loc) : T2 W f n (VR W) (compareOp .IsNot) a .none M loc Q EQ := fun d S s v u ok H r₁ r₂ => by
  cases r₂ using VR.noneE
  obtain ⟨e, p⟩ := isNone_of r₁ ha
  exact wpAny_isNot_plain p (Run.end rfl le0 H (by with_reducible refine rwE e ?_; exact .bool _) h)

/-! dicts by strs -/
theorem dictOf_at {h : Heap} {a : Addr} {o : Obj} {kvs : List (Str × Value)} (e : h.get? a = some o) (x : DicO W o kvs) : h.DictOf (strKind W.prog W.w) a kvs := by
  obtain ⟨x1, es, ep, x2, x3, x4, x5⟩ := x; exact ⟨o, es, ep, e, x1, x2, x3, x4, x5⟩
theorem at_dictOf {h : Heap} {a : Addr} {kvs : List (Str × Value)} (x : h.DictOf (strKind W.prog W.w) a kvs) : ∃ o, h.get? a = some o ∧ DicO W o kvs := by
  obtain ⟨o, es, ep, e, x1, x2, x3, x4, x5⟩ := x; exact ⟨o, e, x1, es, ep, x2, x3, x4, x5⟩
theorem valueAt_eq {kvs : List (Str × Value)} {k : Str} : valueAt kvs k = kvs.lookup k := by
  unfold valueAt
  induction kvs with
  | nil => rfl
  | cons p kvs ih =>
    (with_reducible refine rwE (List.find?_cons) ?_; with_reducible refine rwE List.lookup_cons ?_)
    by_cases q : p.1 = k
    · have : (k == p.1) = true := by simp [q]
      (with_reducible refine rwE (decide_eq_true q) ?_; with_reducible refine rwE this ?_); rfl
    · have : (k == p.1) = false := by simpa using Ne.symm q
      (with_reducible refine rwE (decide_eq_false q) ?_; with_reducible refine rwE this ?_); exact ih
theorem Here.notMods {d : Cy} {S : Tab} {h : Heap} (H : Here W d S M loc h) (ok : Ok W f n d) {p : Addr × AO} (hp : p ∈ M) : (p.1 == sysModules) = false := by
  refine byG fun G_ bk_ => ?_; obtain ⟨g, m, news, G, F, N, LO, LC⟩ := H
  obtain ⟨o, h1, _⟩ := LO.mem p hp
  obtain ⟨ob, hb⟩ := ok.mods; refine bk_ ?_; clear bk_
  refine beq_eq_false_iff_ne.mpr fun e => ?_
  have := (N _ h1).2.2
  rw [show (p.1, o).1 = sysModules from e, G.below.stays _ _ hb] at this; injection this
theorem Here.notModsS {d : Cy} {S : Tab} {h : Heap} (H : Here W d S M loc h) (ok : Ok W f n d) {a : Addr} {o : Obj} (hp : S a o) : (a == sysModules) = false := by
  obtain ⟨g, m, news, G, F, N, LO, LC⟩ := H
  have h1 := LO.tab _ _ hp
  obtain ⟨ob, hb⟩ := ok.mods
  refine beq_eq_false_iff_ne.mpr fun e => ?_
  have := (N _ h1).2.2
  rw [show (a, o).1 = sysModules from e, G.below.stays _ _ hb] at this; injection this

/-- a dict, one that may turn or one that stays -/
inductive DicAV (M : Mem) : AV → List (Str × AV) → Prop
  | obj (a : Addr) (es : List (Str × AV)) : (a, .dict es) ∈ M → DicAV M (.obj a) es
  | frozen (es : List (Str × AV)) : DicAV M (.fdict es) es
inductive DicV (W : Wd) (S : Tab) (h : Heap) (v : Value) (es : List (Str × AV)) : Prop
  | mk (b : Addr) (kvs : List (Str × Value)) (e : v = .ref b) (d : h.DictOf (strKind W.prog W.w) b kvs) (r : VRd W S kvs es) (n : (b == sysModules) = false) : DicV W S h v es
theorem DicAV.at {d : Cy} {S : Tab} {h : Heap} (H : Here W d S M loc h) (ok : Ok W f n d) {v : Value} {a : AV} {es : List (Str × AV)} (x : DicAV M a es) (r : VR W S v a) (hk : W.K.lookup sysModules = none) :
    DicV W S h v es := by
  cases x with
  | obj b _ hm =>
    cases r using VR.objE
    obtain ⟨o, h1, h2⟩ := H.memAt hm
    cases h2 using OR.dictE with
    | dict kvs h3 h4 => exact ⟨b, kvs, rfl, dictOf_at h1 h3, h4, H.notMods ok hm⟩
  | frozen =>
    cases r using VR.fdictE with
    | fdict b o kvs h1 h2 h3 =>
      refine ⟨b, kvs, rfl, dictOf_at (H.at ok h1) h2, h3, ?_⟩
      rcases h1 with h1 | h1
      · exact H.notModsS ok h1
      · refine beq_eq_false_iff_ne.mpr fun e => ?_
        rw [e, hk] at h1; injection h1
theorem isStrOf_self {x : Str} {t : Tok} : (strKind W.prog W.w).is x (.str x t) = true := by refine (?_ : Value.isStrOf x (.str x t) = true); simp [Value.isStrOf]
theorem t_inDict {a : AV} {x : Str} {es : List (Str × AV)} (hk : W.K.lookup sysModules = none) (hd : DicAV M a es) (h : Q (.bool (es.lookup x).isSome) M loc) : T2 W f n (VR W) (compareOp .In) (.str x) a M loc Q EQ := fun d S s v u ok H r₁ r₂ => by
  cases r₁ using VR.strE
  obtain ⟨b, kvs, rfl, hD, hr, hm⟩ := hd.at H ok r₂ hk
  refine wpAny_in_of isStrOf_self hm hD.mapOf ?_
  have e : (valueAt kvs x).isSome = (es.lookup x).isSome := by
    with_reducible refine rwE valueAt_eq ?_
    rcases vrd_find (name := x) hr with ⟨h1, h2⟩ | ⟨a, v, h1, h2, _⟩ <;> (with_reducible refine rwE h1 ?_; with_reducible refine rwE h2 ?_) <;> rfl
  exact Run.end rfl le0 H (by with_reducible refine rwE e ?_; exact .bool _) h
theorem t_notInDict {a : AV} {x : Str} {es : List (Str × AV)} (hk : W.K.lookup sysModules = none) (hd : DicAV M a es) (h : Q (.bool (!(es.lookup x).isSome)) M loc) : T2 W f n (VR W) (compareOp .NotIn) (.str x) a M loc Q EQ := fun d S s v u ok H r₁ r₂ => by
  cases r₁ using VR.strE
  obtain ⟨b, kvs, rfl, hD, hr, hm⟩ := hd.at H ok r₂ hk
  refine wpAny_notIn_of isStrOf_self hm hD.mapOf ?_
  have e : (valueAt kvs x).isSome = (es.lookup x).isSome := by
    with_reducible refine rwE valueAt_eq ?_
    rcases vrd_find (name := x) hr with ⟨h1, h2⟩ | ⟨a, v, h1, h2, _⟩ <;> (with_reducible refine rwE h1 ?_; with_reducible refine rwE h2 ?_) <;> rfl
  exact Run.end rfl le0 H (by with_reducible refine rwE e ?_; exact .bool _) h
theorem t_subDict {value slice : Expr} {a c : AV} {x : Str} {es : List (Str × AV)} (hk : W.K.lookup sysModules = none) (hd : DicAV M a es) (hx : es.lookup x = some c)
    (hs : ∀ b t, subscripted slice false (.ref b) (.str x t) = operate [.ref b, .str x t] (getItem (.ref b) (.str x t))) (h : Q c M loc) : T2 W f n (VR W) (subscriptTail value slice) a (.str x) M loc Q EQ := fun d S s v u ok H r₁ r₂ => by
  cases r₂ using VR.strE
  obtain ⟨b, kvs, rfl, hD, hr, hm⟩ := hd.at H ok r₁ hk
  rcases vrd_find (name := x) hr with ⟨h1, _⟩ | ⟨c', w, h1, h2, h3⟩
  · rw [hx] at h1; injection h1
  · rw [hx] at h1; (injection h1 with e0; (first | subst e0 | cases e0))
    exact tail_any hD.typeIs slot_dict_getitem.lookup (wpAny_getItem_of isStrOf_self hD.mapOf (by with_reducible refine rwE valueAt_eq ?_; exact h2) (Run.end rfl le0 H h3 h)) (hs _ _)
theorem vrd_len {S : Tab} {kvs : List (Str × Value)} {es : List (Str × AV)} (h : VRd W S kvs es) : kvs.length = es.length :=
  VRd.ind (m := fun us as _ => us.length = as.length) rfl (fun _ _ _ _ _ _ _ ih => congrArg (· + 1) ih) h
/-- a dict with a key put in -/
noncomputable def putD (es : List (Str × AV)) (k : Str) (a : AV) : List (Str × AV) := if es.any (fun kv => kv.1 = k) then es.map (fun kv => if kv.1 = k then (kv.1, a) else kv) else es ++ [(k, a)]
theorem vrd_map {S : Tab} {k : Str} {v : Value} {a : AV} (r : VR W S v a) {kvs : List (Str × Value)} {es : List (Str × AV)} (h : VRd W S kvs es) : VRd W S (kvs.map fun kv => if kv.1 = k then (kv.1, v) else kv) (es.map fun kv => if kv.1 = k then (kv.1, a) else kv) :=
  VRd.ind (m := fun kvs es _ => VRd W S (kvs.map fun kv => if kv.1 = k then (kv.1, v) else kv) (es.map fun kv => if kv.1 = k then (kv.1, a) else kv)) .nil (fun x v' a' vs as r' _ ih => by
    (with_reducible refine rwE List.map_cons ?_; with_reducible refine rwE List.map_cons ?_)
    by_cases z : x = k
    · (with_reducible refine rwE (if_pos z) ?_; with_reducible refine rwE (if_pos z) ?_); exact .cons _ _ _ _ _ r ih
    · (with_reducible refine rwE (if_neg z) ?_; with_reducible refine rwE (if_neg z) ?_); exact .cons _ _ _ _ _ r' ih) h
theorem vrd_any {S : Tab} {k : Str} {kvs : List (Str × Value)} {es : List (Str × AV)} (h : VRd W S kvs es) : kvs.any (fun kv => decide (kv.1 = k)) = es.any (fun kv => decide (kv.1 = k)) :=
  VRd.ind (m := fun kvs es _ => kvs.any (fun kv => decide (kv.1 = k)) = es.any (fun kv => decide (kv.1 = k))) rfl (fun x _ _ _ _ _ _ ih => congrArg (decide (x = k) || ·) ih) h
theorem vrd_put {S : Tab} {k : Str} {v : Value} {a : AV} (r : VR W S v a) {kvs : List (Str × Value)} {es : List (Str × AV)} (h : VRd W S kvs es) : VRd W S (stored kvs k v) (putD es k a) := by
  unfold stored putD
  with_reducible refine rwE (vrd_any h) ?_
  split
  · exact vrd_map r h
  · exact vrd_append h (.cons _ _ _ _ _ r .nil)
theorem t_setDict {a : Addr} {x : Str} {es : List (Str × AV)} {c : AV} {M' : Mem} {Q : Unit → Mem → Loc → Prop} (rp : Rp a (.dict es) (.dict (putD es x c)) M M') (hz : es.length ≤ sizeLine) (h : Q () M' loc) :
    T3 W f n UR (fun ov iv v => setItem ov iv v) (.obj a) (.str x) c M loc Q EQ := fun d S s v u y ok H r₁ r₂ r₃ => by
  cases r₁ using VR.objE; cases r₂ using VR.strE
  obtain ⟨o, h1, h2⟩ := H.memAt rp.mem
  cases h2 using OR.dictE with
  | dict kvs h3 h4 =>
    refine wpAny_setItem_pairs isStrOf_self (dictOf_at h1 h3) (fun h' hD hs => ?_) (by with_reducible refine rwE (vrd_len h4) ?_; exact hz)
    obtain ⟨o', e1, e2⟩ := at_dictOf hD
    exact Run.end (b := ()) rfl le0 (H.upd rp hs e1 (.dict o' _ _ e2 (vrd_put r₃ h4))) trivial h
end
end Mine
end
section
open PySem PySem.W PySem.Calls PyProof.Rows PySem.Spec PySem.SeqAt
namespace Mine

section
variable {W : Wd} {f : Fx} {n : Nat} {M : Mem} {loc : Loc} {Q : AV → Mem → Loc → Prop} {EQ : Mem → Loc → Prop}
/-! lists and tuples -/
/-- a list, one that may turn or one that stays -/
inductive LstAV (M : Mem) : AV → List AV → Prop
  | obj (a : Addr) (as : List AV) : (a, .list as) ∈ M → LstAV M (.obj a) as
  | frozen (as : List AV) : LstAV M (.flist as) as
inductive LstV (W : Wd) (S : Tab) (h : Heap) (v : Value) (as : List AV) : Prop
  | mk (b : Addr) (us : List Value) (m : Nat) (e : v = .ref b) (l : h.get? b = some (listOf us.toArray m)) (r : VRs W S us as) : LstV W S h v as
theorem LstAV.at {d : Cy} {S : Tab} {h : Heap} (H : Here W d S M loc h) (ok : Ok W f n d) {v : Value} {a : AV} {as : List AV} (x : LstAV M a as) (r : VR W S v a) :
    LstV W S h v as := by
  cases x with
  | obj b _ hm =>
    cases r using VR.objE
    obtain ⟨o, h1, h2⟩ := H.memAt hm
    cases h2 using OR.listE with
    | list us h3 h4 => obtain ⟨m, rfl⟩ := h3; exact ⟨b, us, m, rfl, h1, h4⟩
  | frozen =>
    cases r using VR.flistE with
    | flist b o us h1 h2 h3 => obtain ⟨m, rfl⟩ := h2; exact ⟨b, us, m, rfl, H.at ok h1, h3⟩
theorem isList_of {h : Heap} {b : Addr} {its : Array Value} {m : Nat} (e : h.get? b = some (listOf its m)) : h.IsList b its := ⟨_, e, rfl, m, rfl⟩
theorem vrs_get {S : Tab} {us : List Value} {as : List AV} {k : Nat} {c : AV} (h : VRs W S us as) (e : as[k]? = some c) : ∃ v, us[k]? = some v ∧ VR W S v c := by
  induction h using VRs.ind generalizing k with
  | nil => exact nsE e
  | cons u a us as r rs ih =>
    cases k with
    | zero => exact ⟨u, rfl, Option.some.inj e ▸ r⟩
    | succ k => exact ih e
theorem vrs_last {S : Tab} {c : AV} : ∀ {as : List AV} {us : List Value}, VRs W S us (as ++ [c]) → ∃ ws y, us = ws ++ [y] ∧ VRs W S ws as ∧ VR W S y c := by
  intro as
  induction as with
  | nil => intro us h; cases h with | cons v _ vs _ r rs => cases rs using VRs.nilE; exact ⟨[], v, rfl, .nil, r⟩
  | cons a as ih =>
    intro us h
    cases h using VRs.consE with
    | cons v vs r rs =>
      obtain ⟨ws, y, rfl, h1, h2⟩ := ih rs
      exact ⟨v :: ws, y, rfl, .cons _ _ _ _ r h1, h2⟩
theorem vrs_app {S : Tab} {us ws : List Value} {as bs : List AV} (h : VRs W S us as) (k : VRs W S ws bs) : VRs W S (us ++ ws) (as ++ bs) :=
  VRs.ind (m := fun us as _ => VRs W S (us ++ ws) (as ++ bs)) k (fun _ _ _ _ r _ ih => .cons _ _ _ _ r ih) h
theorem vrs_set {S : Tab} {v : Value} {c : AV} (r : VR W S v c) {us : List Value} {as : List AV} (k : Nat) (h : VRs W S us as) : VRs W S (us.set k v) (as.set k c) := by
  induction h using VRs.ind generalizing k with
  | nil => exact .nil
  | cons u a us as r' rs ih =>
    cases k with
    | zero => exact .cons _ _ _ _ r rs
    | succ k => exact .cons _ _ _ _ r' (ih k)

theorem t_len {a : AV} {as : List AV} (x : LstAV M a as) (hz : as.length ≤ sizeLine) (h : Q (.int as.length) M loc) : Ts W f n (VR W) (fun vs => call (.builtin "len") vs) [a] M loc Q EQ := fun d S s vs ok H rs => by
  cases rs using VRs.consE with
  | cons v vs r rs =>
    cases rs using VRs.nilE
    obtain ⟨b, us, m, rfl, e, r'⟩ := x.at H ok r
    have e2 : us.toArray.size = as.length := by (with_reducible refine rwE List.size_toArray ?_; with_reducible refine rwE (VRs.len r') ?_; with_reducible rfl)
    refine PyProof.Rows.len_list (isList_of e) (by with_reducible refine rwE e2 ?_; unfold sizeLine at hz; walk_at "om") (Run.end rfl le0 H (by with_reducible refine rwE e2 ?_; exact .int _ _) h)
theorem t_lenTup {as : List AV} (hz : as.length ≤ sizeLine) (h : Q (.int as.length) M loc) : Ts W f n (VR W) (fun vs => call (.builtin "len") vs) [.tup as] M loc Q EQ := fun d S s vs ok H rs => by
  cases rs using VRs.consE with
  | cons v vs r rs =>
    cases rs using VRs.nilE
    obtain ⟨b, us, rfl, e, r'⟩ := H.tup ok r
    have e2 : us.toArray.size = as.length := by (with_reducible refine rwE List.size_toArray ?_; with_reducible refine rwE (VRs.len r') ?_; with_reducible rfl)
    refine len_tuple e (by with_reducible refine rwE e2 ?_; unfold sizeLine at hz; walk_at "om") (Run.end rfl le0 H (by with_reducible refine rwE e2 ?_; exact .int _ _) h)
theorem t_lenDict {a : AV} {es : List (Str × AV)} (hk : W.K.lookup sysModules = none) (x : DicAV M a es) (hz : es.length ≤ sizeLine) (h : Q (.int es.length) M loc) : Ts W f n (VR W) (fun vs => call (.builtin "len") vs) [a] M loc Q EQ := fun d S s vs ok H rs => by
  cases rs using VRs.consE with
  | cons v vs r rs =>
    cases rs using VRs.nilE
    obtain ⟨b, kvs, rfl, hD, hr, hm⟩ := x.at H ok r hk
    have e2 := vrd_len hr
    refine call_len_dict hm hD (by with_reducible refine rwE e2 ?_; unfold sizeLine at hz; walk_at "om") (Run.end rfl le0 H (by with_reducible refine rwE e2 ?_; exact .int _ _) h)

theorem t_append {x : Addr} {as : List AV} {c : AV} {M' : Mem} (rp : Rp x (.list as) (.list (as ++ [c])) M M') (hz : as.length ≤ sizeLine) (h : Q .none M' loc) : Ts W f n (VR W) (fun vs => call (.builtin "list.append") vs) [.obj x, c] M loc Q EQ := fun d S s vs ok H rs => by
  cases rs using VRs.consE with
  | cons v vs r rs =>
    cases rs using VRs.consE with
    | cons u vs r₂ rs =>
      cases rs using VRs.nilE; cases r using VR.objE
      obtain ⟨o, h1, h2⟩ := H.memAt rp.mem
      cases h2 using OR.listE with
      | list us h3 h4 =>
        obtain ⟨m, rfl⟩ := h3
        refine append_at h1 (fun h' hs e => ?_) (by (with_reducible refine rwE List.size_toArray ?_; with_reducible refine rwE (VRs.len h4) ?_); exact hz)
        refine Run.end rfl le0 (H.upd rp hs e (.list _ (us ++ [u]) _ ⟨m + 1, ?_⟩ (vrs_app h4 (.cons _ _ _ _ r₂ .nil)))) .none h
        simp [List.push_toArray]
theorem t_pop {x : Addr} {as : List AV} {c : AV} {M' : Mem} (rp : Rp x (.list (as ++ [c])) (.list as) M M') (hz : as.length + 1 ≤ sizeLine) (h : Q c M' loc) : Ts W f n (VR W) (fun vs => call (.builtin "list.pop") vs) [.obj x] M loc Q EQ := fun d S s vs ok H rs => by
  cases rs using VRs.consE with
  | cons v vs r rs =>
    cases rs using VRs.nilE; cases r using VR.objE
    obtain ⟨o, h1, h2⟩ := H.memAt rp.mem
    cases h2 using OR.listE with
    | list us h3 h4 =>
      obtain ⟨m, rfl⟩ := h3
      obtain ⟨ws, y, rfl, rp', ry⟩ := vrs_last h4
      have hl := VRs.len rp'
      have hk : (ws ++ [y]).toArray.size - 1 = ws.length := by simp
      refine call_meets PySem.F.slot_list_pop ⟨_, h1, rfl⟩ PySem.F.entry_list_pop (PySem.F.args_list_pop_1 _) (PySem.MeetsSeq.list_pop_last x _ m y (by with_reducible refine rwE hk ?_; simp) (by simp; walk_at "om")) ⟨h1, ?_⟩
      have q := PySem.IsL.update h1 (fun xs => xs.eraseIdxIfInBounds ((ws ++ [y]).toArray.size - 1))
      have e3 : (ws ++ [y]).toArray.eraseIdxIfInBounds ((ws ++ [y]).toArray.size - 1) = ws.toArray := by
        (with_reducible refine rwE hk ?_; rewrite [kl_erase, List.append_nil]; with_reducible rfl)
      rw [e3, if_neg (by simp)] at q
      exact Run.end rfl le0 (H.upd rp (Heap.SameBut.update ..) q (.list _ ws _ ⟨_, rfl⟩ rp')) ry h
end
end Mine
end
section
open PySem PySem.W PySem.Calls PyProof.Rows PySem.Spec PySem.SeqAt
namespace Mine

section
variable {prog : Program} {w : World} {A : Around} {E : Value → Shared → Prop} {s : Shared}
theorem set_at {l : Addr} {items : Array Value} {m : Nat} {k : Int} {t : Tok} {v : Value} {Q : Unit → Shared → Prop} (ho : s.heap.get? l = some (listOf items m))
    (h0 : 0 ≤ k) (hfit : k < 2 ^ 63) (hn : k < items.size)
    (hQ : ∀ h', h'.get? l = some (listOf (items.setIfInBounds k.toNat v) m) → Heap.SameBut l s.heap h' → Q () { s with heap := h' }) :
    wpAny (model prog w) A (setItem (.ref l) (.int k t) v) Q E s := by
  have hl : s.heap.IsList l items := ⟨_, ho, rfl, m, rfl⟩
  unfold setItem
  try with_reducible refine wpAny_holding ?_
  first | refine wpAny_bind (wpAny_pure ?_) | skip
  refine wpAny_bind (wpAny_sequenceKey hl.typeIs (by decide) ?_)
  refine wpAny_bind (wpAny_callSpecial?_slot (name := Str.ofString "__setitem__") hl.typeIs slot_list_setitem
    (wpAny_call_entry slot_list_setitem hl.typeIs entry_list_setitem ?_ (args_list_setitem _ _ _)))
  refine (?_ : wpAny _ _ (Builtin.List.listSubscript? (.int k t) >>= _) _ _ s)
  refine wpAny_bind (wpAny_listSubscript_int (fitsIndex_of h0 hfit) ?_)
  clear hfit
  obtain ⟨j, rfl⟩ := Int.eq_ofNat_of_zero_le h0
  have hj : j < items.size := by walk_at "om"
  have hx' : items[j]? = some items[j] := Array.getElem?_eq_getElem hj
  refine wpAny_bind (wpAny_bind (wpAny_seqItemAt ho rfl (wpAny_pure ?_)))
  with_reducible refine rwE hx' ?_
  refine (?_ : wpAny _ _ (setSeqItemAt l j v >>= _) _ _ s)
  have q := PySem.IsL.update ho (·.setIfInBounds j v)
  rw [if_pos (by simp)] at q
  refine wpAny_bind (wpAny_setSeqItemAt ho rfl ?_)
  first
    | exact wpAny_bind (wpAny_pure (wpAny_pure ⟨.none, rfl, wpAny_pure (hQ _ q (Heap.SameBut.update ..))⟩))
    | exact wpAny_pure ⟨.none, rfl, wpAny_pure (hQ _ q (Heap.SameBut.update ..))⟩
end

section
variable {W : Wd} {f : Fx} {n : Nat} {M : Mem} {loc : Loc} {Q : AV → Mem → Loc → Prop} {EQ : Mem → Loc → Prop}
noncomputable abbrev SubOk (slice : Expr) : Prop := ∀ t k u, subscripted slice false (.ref t) (.int k u) = operate [.ref t, .int k u] (getItem (.ref t) (.int k u))
theorem t_subTup {value slice : Expr} {as : List AV} {k : Int} {j : Nat} {c : AV} (hj : seqIndex? k as.length = some j) (hx : as[j]? = some c) (hlo : -(2 ^ 63) ≤ k) (hhi : k < 2 ^ 63) (hs : SubOk slice) (h : Q c M loc) :
    T2 W f n (VR W) (subscriptTail value slice) (.tup as) (.int k) M loc Q EQ := fun d S s v u ok H r₁ r₂ => by
  cases r₂ using VR.intE
  obtain ⟨b, us, rfl, e, r'⟩ := H.tup ok r₁
  obtain ⟨x, hx', rx⟩ := vrs_get r' hx
  exact item_tupleT e hlo hhi (by with_reducible refine rwE (VRs.len r') ?_; exact hj) hx' (Run.end rfl le0 H rx h) (hs _ _ _)
theorem t_subList {value slice : Expr} {a : AV} {as : List AV} {k : Int} {c : AV} (x : LstAV M a as) (h0 : 0 ≤ k) (hx : as[k.toNat]? = some c) (hhi : k < 2 ^ 63) (hs : SubOk slice) (h : Q c M loc) :
    T2 W f n (VR W) (subscriptTail value slice) a (.int k) M loc Q EQ := fun d S s v u ok H r₁ r₂ => by
  cases r₂ using VR.intE
  obtain ⟨b, us, m, rfl, e, r'⟩ := x.at H ok r₁
  obtain ⟨y, hx', rx⟩ := vrs_get r' hx
  exact tail_any (isList_of e).typeIs slot_list_getitem.lookup (wpAny_getItem_list (isList_of e) h0 hhi (by simpa using hx') (Run.end rfl le0 H rx h)) (hs _ _ _)
theorem t_subListNeg {value slice : Expr} {a : AV} {as : List AV} {k : Int} {c : AV} (x : LstAV M a as) (h0 : k < 0) (h1 : -(as.length : Int) ≤ k) (hx : as[(k + as.length).toNat]? = some c) (hlo : -(2 ^ 63) ≤ k) (hs : SubOk slice) (h : Q c M loc) :
    T2 W f n (VR W) (subscriptTail value slice) a (.int k) M loc Q EQ := fun d S s v u ok H r₁ r₂ => by
  cases r₂ using VR.intE
  obtain ⟨b, us, m, rfl, e, r'⟩ := x.at H ok r₁
  obtain ⟨y, hx', rx⟩ := vrs_get r' hx
  have hl := VRs.len r'
  exact tail_any (isList_of e).typeIs slot_list_getitem.lookup (wpAny_getItem_list_neg (isList_of e) h0 (by (with_reducible refine rwE List.size_toArray ?_; with_reducible refine rwE hl ?_); exact h1) hlo (by (with_reducible refine rwE List.size_toArray ?_; with_reducible refine rwE hl ?_); simpa using hx') (Run.end rfl le0 H rx h)) (hs _ _ _)
theorem t_setList {a : Addr} {as : List AV} {k : Int} {c : AV} {M' : Mem} {Q : Unit → Mem → Loc → Prop} (rp : Rp a (.list as) (.list (as.set k.toNat c)) M M') (h0 : 0 ≤ k) (hn : k < as.length) (hhi : k < 2 ^ 63) (h : Q () M' loc) :
    T3 W f n UR (fun ov iv v => setItem ov iv v) (.obj a) (.int k) c M loc Q EQ := fun d S s v u y ok H r₁ r₂ r₃ => by
  cases r₁ using VR.objE; cases r₂ using VR.intE
  obtain ⟨o, h1, h2⟩ := H.memAt rp.mem
  cases h2 using OR.listE with
  | list us h3 h4 =>
    obtain ⟨m, rfl⟩ := h3
    refine set_at h1 h0 hhi (by (with_reducible refine rwE List.size_toArray ?_; with_reducible refine rwE (VRs.len h4) ?_); exact hn) (fun h' e hs => ?_)
    exact Run.end (b := ()) rfl le0 (H.upd rp hs e (.list _ (us.set k.toNat y) _ ⟨m, by simp⟩ (vrs_set r₃ _ h4))) trivial h

theorem Here.consM {d : Cy} {S : Tab} {h h' : Heap} {g : Heap} {m : Str → Option Value} {news : Led} {o : Obj} {ao : AO} (G : Ground d g) (F' : Fr g d.L h' m) (N : News g d.L h news) (N' : News g d.L h' ((h.objs.size, o) :: news)) (LO : LedOk W news d.Fm S M) (LC : LocOk W S d m loc) (r : OR W S o ao) :
    Here W d S ((h.objs.size, ao) :: M) loc h' := by
  refine ⟨g, m, (h.objs.size, o) :: news, G, F', N', ⟨fun p hp => .tail _ (LO.fm p hp), fun a y hy => .tail _ (LO.tab a y hy), fun p hp => ?_, ?_, fun p hp q hq => ?_, fun p hp y hy => ?_, LO.tabF⟩, LC⟩
  · rcases List.mem_cons.mp hp with rfl | hp
    · exact ⟨o, .head _, r⟩
    · obtain ⟨y, h1, h2⟩ := LO.mem p hp
      exact ⟨y, .tail _ h1, h2⟩
  · refine List.nodup_cons.mpr ⟨fun hm => ?_, LO.nd⟩
    obtain ⟨p, hp, e⟩ := List.mem_map.mp hm
    obtain ⟨y, h1, h2⟩ := LO.mem p hp
    exact absurd (Heap.lt_size (N _ h1).1) (e ▸ Nat.lt_irrefl _)
  · rcases List.mem_cons.mp hp with rfl | hp
    · exact Nat.ne_of_lt (Heap.lt_size (N _ (LO.fm q hq)).1)
    · exact LO.fmM p hp q hq
  · rcases List.mem_cons.mp hp with rfl | hp
    · exact absurd (Heap.lt_size (N _ (LO.tab _ _ hy)).1) (Nat.lt_irrefl _)
    · exact LO.tabM p hp y hy
theorem Here.consS {d : Cy} {S : Tab} {h h' : Heap} {g : Heap} {m : Str → Option Value} {news : Led} {o : Obj} (G : Ground d g) (F' : Fr g d.L h' m) (N : News g d.L h news) (N' : News g d.L h' ((h.objs.size, o) :: news)) (LO : LedOk W news d.Fm S M) (LC : LocOk W S d m loc) :
    Here W d (S.add h.objs.size o) M loc h' := by
  refine ⟨g, m, (h.objs.size, o) :: news, G, F', N', ⟨fun p hp => .tail _ (LO.fm p hp), fun a y hy => ?_, fun p hp => ?_, LO.nd, LO.fmM, fun p hp y hy => ?_, fun p hp y hy => ?_⟩, LC.mono Tab.add_le⟩
  · rcases hy with hy | ⟨rfl, rfl⟩
    · exact .tail _ (LO.tab a y hy)
    · exact .head _
  · obtain ⟨y, h1, h2⟩ := LO.mem p hp
    exact ⟨y, .tail _ h1, h2.mono Tab.add_le⟩
  · rcases hy with hy | ⟨e, _⟩
    · exact LO.tabM p hp y hy
    · obtain ⟨y, h1, h2⟩ := LO.mem p hp
      exact absurd (Heap.lt_size (N _ h1).1) (e ▸ Nat.lt_irrefl _)
  · rcases hy with hy | ⟨e, _⟩
    · exact LO.tabF p hp y hy
    · exact absurd (Heap.lt_size (N _ (LO.fm p hp)).1) (e ▸ Nat.lt_irrefl _)
theorem t_addList {a b : AV} {as bs : List AV} (x : LstAV M a as) (y : LstAV M b bs) (hz : as.length + bs.length ≤ sizeLine) (h : ∀ z, Q (.obj z) ((z, .list (as ++ bs)) :: M) loc) : T2 W f n (VR W) (binaryOp .Add) a b M loc Q EQ := fun d S s v u ok H r₁ r₂ => by
  obtain ⟨p, us, m, rfl, e, r'⟩ := x.at H ok r₁
  obtain ⟨q, ws, m', rfl, e', r''⟩ := y.at H ok r₂
  obtain ⟨g, m₀, news, G, F, N, LO, LC⟩ := id H
  refine add_lists F N (isList_of e) (isList_of e') (fun h' F' N' => ?_) (by (with_reducible refine rwE (VRs.len r') ?_; with_reducible refine rwE (VRs.len r'') ?_); exact hz)
  exact Run.end rfl le0 (Here.consM G F' N N' LO LC (.list _ (us ++ ws) _ ⟨_, rfl⟩ (vrs_app r' r''))) (.obj _) (h _)
theorem t_addTup {as bs : List AV} (hz : as.length + bs.length ≤ sizeLine) (h : Q (.tup (as ++ bs)) M loc) : T2 W f n (VR W) (binaryOp .Add) (.tup as) (.tup bs) M loc Q EQ := fun d S s v u ok H r₁ r₂ => by
  obtain ⟨p, us, rfl, e, r'⟩ := H.tup ok r₁
  obtain ⟨q, ws, rfl, e', r''⟩ := H.tup ok r₂
  obtain ⟨g, m₀, news, G, F, N, LO, LC⟩ := id H
  refine add_tuples F N e e' (fun e => ?_) (fun _ e => ?_) (fun _ _ h' F' N' => ?_) (by (with_reducible refine rwE (VRs.len r') ?_; with_reducible refine rwE (VRs.len r'') ?_); exact hz)
  · subst e; cases r'; exact Run.end rfl le0 H r₂ h
  · subst e; cases r''; rw [List.append_nil] at h; exact Run.end rfl le0 H r₁ h
  · exact Run.end rfl Tab.add_le (Here.consS G F' N N' LO LC) (.tup _ _ (us ++ ws) _ (.inl Tab.add_at) ⟨⟨rfl, _, rfl⟩, rfl⟩ ((vrs_app r' r'').mono Tab.add_le)) h
end

/-! equality of plain things -/
noncomputable def andO {α β : Type} (o : Option α) (g : α → Option β) : Option β := match o with
  | some a => g a
  | none => none
theorem omE {α β : Type} {o : Option α} {g : α → Option β} {b : β} {G : Prop} (h : andO o g = some b) (k : ∀ a, o = some a → g a = some b → G) : G := by
  cases o with
  | none => exact nsE h
  | some a => exact k a rfl h
/-- a plain thing -/
inductive Atm where
  | n
  | i (x : Int)
  | s (x : Str)
noncomputable def AV.atm : AV → Option Atm
  | .none => some .n
  | .int x => some (.i x)
  | .str x => some (.s x)
  | _ => Option.none
noncomputable def Atm.eq : Atm → Atm → Bool
  | .n, .n => true
  | .i a, .i b => a == b
  | .s a, .s b => decide (a = b)
  | _, _ => false
noncomputable def aeq (a b : AV) : Option Bool := andO a.atm fun x => andO b.atm fun y => some (x.eq y)
noncomputable def veq : Value → Value → Bool
  | .none, .none => true
  | .int a _, .int b _ => a == b
  | .str a _, .str b _ => a == b
  | _, _ => false
inductive AtmV : Value → Atm → Prop
  | n : AtmV .none .n
  | i (x : Int) (t : Tok) : AtmV (.int x t) (.i x)
  | s (x : Str) (t : Tok) : AtmV (.str x t) (.s x)
theorem atm_of {W : Wd} {S : Tab} {v : Value} {a : AV} {x : Atm} (r : VR W S v a) (h : a.atm = some x) : AtmV v x := by
  cases a with
  | none => cases r using VR.noneE; rw [← Option.some.inj h]; exact .n
  | int y => cases r using VR.intE with | int t => rw [← Option.some.inj h]; exact .i y t
  | str y => cases r using VR.strE with | str t => rw [← Option.some.inj h]; exact .s y t
  | _ => exact nsE h
theorem eqAt_atoms {W : Wd} {A : Around} {s : Shared} {S : Tab} {v u : Value} {a b : AV} {k : Bool} (r : VR W S v a) (r' : VR W S u b) (h : aeq a b = some k) : EqAt A s v u (veq v u) ∧ veq v u = k :=
  omE h fun x e1 h => omE h fun y e2 h => by
    with_reducible refine rwE (Eq.symm (Option.some.inj h)) ?_
    cases atm_of r e1 with
    | n => cases atm_of r' e2 with
      | n => exact ⟨.same _, rfl⟩
      | i => exact ⟨.none_int _ _, rfl⟩
      | s => exact ⟨.none_str _ _, rfl⟩
    | i => cases atm_of r' e2 with
      | n => exact ⟨.int_none _ _, rfl⟩
      | i => exact ⟨.int_int _ _ _ _, rfl⟩
      | s => exact ⟨.int_str _ _ _ _, rfl⟩
    | s x => cases atm_of r' e2 with
      | n => exact ⟨.str_none _ _, rfl⟩
      | i => exact ⟨.str_int _ _ _ _, rfl⟩
      | s y => exact ⟨.str_str _ _ _ _, by
          refine (?_ : (x == y) = decide (x = y))
          by_cases q : x = y <;> rfl⟩
noncomputable def eqs : List AV → List AV → Option Bool
  | [], [] => some true
  | [], _ :: _ => some false
  | _ :: _, [] => some false
  | a :: as, b :: bs => andO (aeq a b) fun x => andO (eqs as bs) fun y => some (x && y)
/-- a is one of them -/
noncomputable def isIn (a : AV) : List AV → Option Bool
  | [] => some false
  | b :: bs => andO (aeq b a) fun x => andO (isIn a bs) fun y => some (x || y)
theorem isIn_of {W : Wd} {A : Around} {s : Shared} {S : Tab} {v : Value} {a : AV} (r : VR W S v a) : ∀ {bs : List AV} {us : List Value} {k : Bool}, VRs W S us bs → isIn a bs = some k → (∀ y, y ∈ us → EqAt A s y v (veq y v)) ∧ us.any (veq · v) = k := by
  intro bs
  induction bs with
  | nil =>
    intro us k rs h
    cases rs using VRs.nilE
    exact ⟨fun _ h => (nomatch h), Option.some.inj h⟩
  | cons b bs ih =>
    intro us k rs h
    cases rs using VRs.consE with
    | cons u us r' rs =>
      refine omE h fun x e1 h => omE h fun y e2 h => ?_
      obtain ⟨h1, h2⟩ := eqAt_atoms (A := A) (s := s) r' r e1
      obtain ⟨h3, h4⟩ := ih rs e2
      refine ⟨fun z hz => ?_, by (with_reducible refine rwE List.any_cons ?_; with_reducible refine rwE h2 ?_; with_reducible refine rwE h4 ?_); exact Option.some.inj h⟩
      rcases List.mem_cons.mp hz with rfl | hz
      · exact h1
      · exact h3 z hz
theorem eqs_of {W : Wd} {A : Around} {s : Shared} {S : Tab} : ∀ {as bs : List AV} {us ws : List Value} {k : Bool}, VRs W S us as → VRs W S ws bs → eqs as bs = some k →
    (∀ j (h1 : j < us.length) (h2 : j < ws.length), EqAt A s us[j] ws[j] ((fun j => veq ((us[j]?).getD .none) ((ws[j]?).getD .none)) j)) ∧ ((List.range (min us.length ws.length)).all (fun j => veq ((us[j]?).getD .none) ((ws[j]?).getD .none)) && us.length == ws.length) = k := by
  intro as
  induction as with
  | nil =>
    intro bs us ws k rs rs' h
    cases rs using VRs.nilE
    cases bs with
    | nil => cases rs' using VRs.nilE; exact ⟨fun j h1 => absurd h1 (Nat.not_lt_zero _), Option.some.inj h⟩
    | cons b bs => cases rs' using VRs.consE; exact ⟨fun j h1 => absurd h1 (Nat.not_lt_zero _), by rw [← Option.some.inj h]; rfl⟩
  | cons a as ih =>
    intro bs us ws k rs rs' h
    cases rs using VRs.consE with
    | cons u us r rs =>
      cases bs with
      | nil => cases rs' using VRs.nilE; exact ⟨fun j _ h1 => absurd h1 (Nat.not_lt_zero _), by rw [← Option.some.inj h]; rfl⟩
      | cons b bs =>
        cases rs' using VRs.consE with
        | cons v ws r' rs' =>
          refine omE h fun x e1 h => omE h fun y e2 h => ?_
          obtain ⟨h1, h2⟩ := eqAt_atoms (A := A) (s := s) r r' e1
          obtain ⟨h3, h4⟩ := ih rs rs' e2
          refine ⟨fun j p q => ?_, ?_⟩
          · cases j with
            | zero => exact h1
            | succ j => exact h3 j (Nat.lt_of_succ_lt_succ p) (Nat.lt_of_succ_lt_succ q)
          · (with_reducible refine rwE List.length_cons ?_; with_reducible refine rwE List.length_cons ?_; rewrite [Nat.succ_min_succ]; with_reducible refine rwE List.range_succ_eq_map ?_; with_reducible refine rwE List.all_cons ?_; with_reducible refine rwE List.all_map ?_)
            (with_reducible refine rwE (Eq.symm (Option.some.inj h)) ?_; with_reducible refine rwE (Eq.symm h4) ?_; with_reducible refine rwE (Eq.symm h2) ?_)
            simp [Function.comp_def, Bool.and_assoc]

section
variable {W : Wd} {f : Fx} {n : Nat} {M : Mem} {loc : Loc} {Q : AV → Mem → Loc → Prop} {EQ : Mem → Loc → Prop}
theorem isTuple_of {h : Heap} {b : Addr} {us : List Value} (e : IsTup h b us.toArray) : h.IsTuple b us.toArray := let ⟨o, h1, h2, h3⟩ := e; ⟨o, h1, h2, h3⟩
theorem t_inTup {a : AV} {bs : List AV} {k : Bool} (hi : isIn a bs = some k) (h : Q (.bool k) M loc) : T2 W f n (VR W) (compareOp .In) a (.tup bs) M loc Q EQ := fun d S s v u ok H r₁ r₂ => by
  obtain ⟨b, us, rfl, e, r'⟩ := H.tup ok r₂
  obtain ⟨h1, h2⟩ := isIn_of (A := (d.A.deeper (f.env d)).in1) (s := s) r₁ r' hi
  exact in_tupleAt (veq · v) (isTuple_of e) (fun y hy => h1 y (by simpa using hy)) (Run.end rfl le0 H (by (with_reducible refine rwE List.any_toArray ?_; with_reducible refine rwE h2 ?_); exact .bool _) h)
theorem t_inList {a c : AV} {bs : List AV} {k : Bool} (x : LstAV M c bs) (hi : isIn a bs = some k) (h : Q (.bool k) M loc) : T2 W f n (VR W) (compareOp .In) a c M loc Q EQ := fun d S s v u ok H r₁ r₂ => by
  obtain ⟨b, us, m, rfl, e, r'⟩ := x.at H ok r₂
  obtain ⟨h1, h2⟩ := isIn_of (A := (d.A.deeper (f.env d)).in1) (s := s) r₁ r' hi
  exact in_listAt (veq · v) (isList_of e) (fun y hy => h1 y (by simpa using hy)) (Run.end rfl le0 H (by (with_reducible refine rwE List.any_toArray ?_; with_reducible refine rwE h2 ?_); exact .bool _) h)
theorem t_eqTup {as bs : List AV} {k : Bool} (hi : eqs as bs = some k) (h : Q (.bool k) M loc) : T2 W f n (VR W) (compareOp .Eq) (.tup as) (.tup bs) M loc Q EQ := fun d S s v u ok H r₁ r₂ => by
  obtain ⟨a, us, rfl, e, r'⟩ := H.tup ok r₁
  obtain ⟨b, ws, rfl, e', r''⟩ := H.tup ok r₂
  obtain ⟨h1, h2⟩ := eqs_of (A := (d.A.deeper (f.env d)).in1) (s := s) r' r'' hi
  refine eq_tupleAt (e := fun j => veq ((us[j]?).getD .none) ((ws[j]?).getD .none)) (isTuple_of e) (isTuple_of e') (by have := ok.units; refine (?_ : d.A.units + 3 < cLine); walk_at "om") (fun j p q => h1 j (by simpa using p) (by simpa using q)) (Run.end rfl le0 H ?_ h)
  (with_reducible refine rwE List.size_toArray ?_; with_reducible refine rwE List.size_toArray ?_; with_reducible refine rwE h2 ?_)
  exact .bool _
end
end Mine
end
section
open PySem PySem.W PySem.Calls PyProof.Rows PySem.Spec PySem.SeqAt
namespace Mine
/-- a dict with a written key put in -/
inductive PutR (k : Str) (c : AV) : List (Str × AV) → List (Str × AV) → Prop
  | here (o : AV) (r : List (Str × AV)) : PutR k c ((k, o) :: r) ((k, c) :: r)
  | there (x : Str) (o : AV) (r r' : List (Str × AV)) : (x == k) = false → PutR k c r r' → PutR k c ((x, o) :: r) ((x, o) :: r')
  | nil : PutR k c [] [(k, c)]
theorem PutR.eq {k : Str} {c : AV} {es es' : List (Str × AV)} (h : PutR k c es es') (nd : (es.map (·.1)).Nodup) : putD es k c = es' := by
  induction h with
  | here o r =>
    rw [List.map_cons, List.nodup_cons] at nd
    unfold putD
    (with_reducible refine rwE (if_pos (by simp)) ?_; with_reducible refine rwE List.map_cons ?_)
    simp only [if_true]
    congr 1
    rw [List.map_congr_left (g := id), List.map_id]
    intro p hp
    have : p.1 ≠ k := fun e => nd.1 (List.mem_map.mpr ⟨p, hp, e⟩)
    simp [this]
  | there x o r r' hx _ ih =>
    rw [List.map_cons, List.nodup_cons] at nd
    have hx' : x ≠ k := by simpa using hx
    have := ih nd.2
    unfold putD at this ⊢
    (with_reducible refine rwE List.any_cons ?_; with_reducible refine rwE List.map_cons ?_)
    simp only [hx', decide_false, Bool.false_or, if_false]
    split <;> rename_i q <;> simp only [q, if_true, if_false, Bool.false_eq_true] at this
    · (with_reducible refine rwE this ?_; with_reducible rfl)
    · (with_reducible refine rwE List.cons_append ?_; with_reducible refine rwE this ?_; with_reducible rfl)
  | nil => rfl
theorem vrd_keys {W : Wd} {S : Tab} {kvs : List (Str × Value)} {es : List (Str × AV)} (h : VRd W S kvs es) : kvs.map (·.1) = es.map (·.1) :=
  VRd.ind (m := fun kvs es _ => kvs.map (·.1) = es.map (·.1)) rfl (fun x _ _ _ _ _ _ ih => congrArg (x :: ·) ih) h
section
variable {W : Wd} {f : Fx} {n : Nat} {M : Mem} {loc : Loc} {Q : AV → Mem → Loc → Prop} {EQ : Mem → Loc → Prop}
theorem t_setDictR {a : Addr} {x : Str} {es es' : List (Str × AV)} {c : AV} {M' : Mem} {Q : Unit → Mem → Loc → Prop} (p : PutR x c es es') (rp : Rp a (.dict es) (.dict es') M M') (hz : es.length ≤ sizeLine) (h : Q () M' loc) :
    T3 W f n UR (fun ov iv v => setItem ov iv v) (.obj a) (.str x) c M loc Q EQ := fun d S s v u y ok H r₁ r₂ r₃ => by
  refine byG fun G_ bk_ => ?_; obtain ⟨o, h1, h2⟩ := H.memAt rp.mem; refine bk_ ?_; clear bk_
  cases h2 using OR.dictE with
  | dict kvs h3 h4 =>
    refine byG fun G_ bk_ => ?_; obtain ⟨_, _, _, _, _, _, nd⟩ := h3; refine bk_ ?_; clear bk_
    have e := p.eq (by with_reducible refine rwE (Eq.symm (vrd_keys h4)) ?_; exact nd)
    exact t_setDict (by with_reducible refine rwE e ?_; exact rp) hz h d S s v u y ok H r₁ r₂ r₃
end
end Mine
end
section
open PySem PySem.W PySem.Calls PyProof.Rows PySem.Spec PySem.SeqAt
set_option tactic.hygienic true
namespace Mine

noncomputable def unpackers : List String := ["enumerate", "zip", "dict_itemiterator", "dict_reverseitemiterator", "odict_iterator", "itertools.zip_longest", "itertools.pairwise"]
section
variable {prog : Program} {w : World} {A : Around} {E : Value → Shared → Prop} {s : Shared}
theorem go_plain {target : Expr} {I : Addr} {v : Value} {o : Obj} {c : String} {Q : Unit → Shared → Prop} (ho : s.heap.get? I = some o) (hc : o.cls = .type c) (hn : unpackers.contains c = false) (h : Q () s) :
    wpAny (model prog w) A (letOwnedTupleGo target (.ref I) v) Q E s := by
  have key : wpAny (model prog w) A (letOwnedTupleGo (.Tuple [] 0 ⟨0, 0, 0, 0⟩) (.ref I) v) Q E s := by
    cases v with
    | ref a =>
      refine wpAny_bind (wpAny_load ho ?_)
      obtain ⟨cls, dict, data, slots⟩ := o
      subst hc
      cases data with
      | fields vs =>
        refine wp_else (fun q => ?_) (wpAny_pure h)
        have q : (unpackers.contains c && vs[0]? == some (rawInt a)) = true := q
        rw [hn] at q
        exact Bool.false_ne_true q
      | _ => exact wpAny_pure h
    | _ => exact wpAny_pure h
  cases target with
  | Tuple => exact key
  | List => exact key
  | _ => exact wpAny_pure h
theorem codeAny_for {R : Result → Shared → Prop} {target it body env} (I : Nat → Shared → Prop)
    (turn : ∀ n s, I n s → wpAny (model prog w) A (pyNext it) (fun r s₁ => match r with
      | none => wpAny (model prog w) A (execs [] env) (fun f s₃ => R (.ok f) s₃) (notedBy (model prog w) A env fun e s' => R (.error e) s') s₁
      | some v => wpAny (model prog w) A (letOwnedTupleGo target it v) (fun _ s₀ => wpAny (model prog w) A (assign target env v) (fun _ s₂ => wpAny (model prog w) A (execs body env) (fun f s₃ => match f with
          | .next | .cont => ∃ m, m < n ∧ I m s₃
          | .brk => R (.ok .next) s₃
          | .ret v => R (.ok (.ret v)) s₃) (notedBy (model prog w) A env fun e s' => R (.error e) s') s₂) (notedBy (model prog w) A env fun e s' => R (.error e) s') s₀) (notedBy (model prog w) A env fun e s' => R (.error e) s') s₁) (notedBy (model prog w) A env fun e s' => R (.error e) s') s)
    (n : Nat) (h : I n s) : codeAny (model prog w) A (.forLoop target it body [] env) R s := by
  refine codeAny_loop' rfl I (fun n s hI => ?_) n h
  show wpAny _ _ ((forTurn target it body [] env).onRaise (fun x => do noteFrame x env; theTreesLotGoes x)) _ _ s
  refine wpAny_noted ?_
  simp only [forTurn]
  refine wpAny_bind (wpAny_standAt (wpAny_bind (wpAny_onRaise (wpAny_mono (turn n s hI) (fun r s₁ h₁ => ?_) fun _ _ h' => wpAny_standAt h'))))
  cases r with
  | none => exact wpAny_pure (.inr ⟨rfl, codeAny_block h₁⟩)
  | some v =>
    refine wpAny_bind (wpAny_mono h₁ (fun _ s₀ h₀ => ?_) fun _ _ h' => h')
    refine wpAny_bind (wpAny_mono h₀ (fun _ s₂ h₂ => wpAny_bind (wpAny_mono h₂ (fun f s₃ h₃ => ?_) fun _ _ h' => h')) fun _ _ h' => h')
    cases f with
    | next => exact wpAny_pure (.inl ⟨rfl, h₃⟩)
    | cont => exact wpAny_pure (.inl ⟨rfl, h₃⟩)
    | brk => exact wpAny_pure h₃
    | ret v => exact wpAny_pure h₃
end

/-- an entry of the framed part turned -/
theorem Here.updF {W : Wd} {d : Cy} {S : Tab} {M : Mem} {loc : Loc} {h h' : Heap} {I : Addr} {o o' : Obj} {F : Led} (x : Here W (d.with ((I, o) :: F)) S M loc h) (hF : ∀ q ∈ F ++ d.Fm, q.1 ≠ I)
    (hs : ∀ b ob, b ≠ I → h.get? b = some ob → h'.get? b = some ob) (ho : h'.get? I = some o') : Here W (d.with ((I, o') :: F)) S M loc h' := by
  refine byG fun G_ bk_ => ?_; obtain ⟨g, m, news, G, Fr', N, LO, LC⟩ := x
  have hm : (I, o) ∈ news := LO.fm (I, o) (.head _)
  have A := N _ hm
  have stay : ∀ p ∈ news, p.1 ≠ I → p ∈ news.map (fun p => if p.1 = I then (I, o') else p) := fun p hp hne => List.mem_map.mpr ⟨p, hp, if_neg hne⟩
  obtain ⟨oL, es, ep, e, r⟩ := Fr'.ns; refine bk_ ?_; clear bk_
  have mm : ∀ p ∈ M, p.1 ≠ I := fun p hp => Ne.symm (LO.fmM p hp (I, o) (.head _))
  refine ⟨g, m, news.map (fun p => if p.1 = I then (I, o') else p), ⟨G.below, G.turn, G.dicts⟩, ⟨⟨oL, es, ep, hs _ _ (Ne.symm A.2.1) e, r⟩, fun b ob q => hs b ob (fun z => by rw [z, A.2.2] at q; injection q) (Fr'.keep b ob q), Fr'.above⟩, fun p hp => ?_,
    ⟨fun p hp => ?_, fun b y hy => stay _ (LO.tab b y hy) fun e => LO.tabF (I, o) (.head _) y (show S I y from (show b = I from e) ▸ hy), fun p hp => ?_, LO.nd, fun p hp q hq => ?_, LO.tabM, fun p hp => ?_⟩, LC⟩
  · refine byG fun G_ bk_ => ?_; obtain ⟨q, hq, e⟩ := List.mem_map.mp hp; refine bk_ ?_; clear bk_
    by_cases z : q.1 = I
    · rw [if_pos z] at e; subst e; exact ⟨ho, A.2⟩
    · rw [if_neg z] at e; subst e; exact ⟨hs _ _ z (N q hq).1, (N q hq).2⟩
  · rcases List.mem_cons.mp (show p ∈ (I, o') :: (F ++ d.Fm) from hp) with rfl | hp
    · exact List.mem_map.mpr ⟨(I, o), hm, if_pos rfl⟩
    · exact stay p (LO.fm p (.tail _ hp)) (hF p hp)
  · refine byG fun G_ bk_ => ?_; obtain ⟨y, h3, h4⟩ := LO.mem p hp; refine bk_ ?_; clear bk_
    exact ⟨y, stay _ h3 (mm p hp), h4⟩
  · rcases List.mem_cons.mp (show q ∈ (I, o') :: (F ++ d.Fm) from hq) with rfl | hq
    · exact Ne.symm (mm p hp)
    · exact LO.fmM p hp q (.tail _ hq)
  · rcases List.mem_cons.mp (show p ∈ (I, o') :: (F ++ d.Fm) from hp) with rfl | hp
    · exact LO.tabF (I, o) (.head _)
    · exact LO.tabF p (.tail _ hp)

/-- an entry of the framed part let go -/
theorem Here.dropF {W : Wd} {d : Cy} {S : Tab} {M : Mem} {loc : Loc} {h h' : Heap} {I : Addr} {o : Obj} {F : Led} (x : Here W (d.with ((I, o) :: F)) S M loc h) (hF : ∀ q ∈ F ++ d.Fm, q.1 ≠ I)
    (hs : ∀ b ob, b ≠ I → h.get? b = some ob → h'.get? b = some ob) : Here W (d.with F) S M loc h' := by
  obtain ⟨g, m, news, G, Fr', N, LO, LC⟩ := x
  have hm : (I, o) ∈ news := LO.fm (I, o) (.head _)
  have A := N _ hm
  have stay : ∀ p ∈ news, p.1 ≠ I → p ∈ news.filter (fun p => decide (p.1 ≠ I)) := fun p hp hne => List.mem_filter.mpr ⟨hp, decide_eq_true hne⟩
  obtain ⟨oL, es, ep, e, r⟩ := Fr'.ns
  have mm : ∀ p ∈ M, p.1 ≠ I := fun p hp => Ne.symm (LO.fmM p hp (I, o) (.head _))
  refine ⟨g, m, news.filter (fun p => decide (p.1 ≠ I)), ⟨G.below, G.turn, G.dicts⟩, ⟨⟨oL, es, ep, hs _ _ (Ne.symm A.2.1) e, r⟩, fun b ob q => hs b ob (fun z => by rw [z, A.2.2] at q; injection q) (Fr'.keep b ob q), Fr'.above⟩, fun p hp => ?_,
    ⟨fun p hp => stay p (LO.fm p (.tail _ hp)) (hF p hp), fun b y hy => stay _ (LO.tab b y hy) fun e => LO.tabF (I, o) (.head _) y (show S I y from (show b = I from e) ▸ hy), fun p hp => ?_, LO.nd, fun p hp q hq => LO.fmM p hp q (.tail _ hq), LO.tabM, fun p hp => LO.tabF p (.tail _ hp)⟩, LC⟩
  · obtain ⟨hp, hne⟩ := List.mem_filter.mp hp
    exact ⟨hs _ _ (of_decide_eq_true hne) (N p hp).1, (N p hp).2⟩
  · obtain ⟨y, h3, h4⟩ := LO.mem p hp
    exact ⟨y, stay _ h3 (mm p hp), h4⟩

structure ItOk (W : Wd) (f : Fx) (d : Cy) (S : Tab) (I : Addr) (F : Led) (fp : List Addr) (as : List AV) (P : Nat → Value → Prop) (St : Nat → Heap → Prop) : Prop where
  walks : Walks W.prog W.w (d.A.deeper (f.env d)) I fp [I] as.length P St
  fpIn : ∀ b ∈ fp, b = I ∨ (∃ o, (b, o) ∈ F) ∨ ∃ o, AtS W S b o
  item : ∀ i v, i < as.length → P i v → ∃ a, as[i]? = some a ∧ VR W S v a
  here : ∀ i h, St i h → ∃ o c, h.get? I = some o ∧ o.cls = .type c ∧ unpackers.contains c = false
  apart : ∀ q ∈ F ++ d.Fm, q.1 ≠ I
/-- what is iterated: its items, what is left to the body, what is put by -/
noncomputable def IterOk (W : Wd) (f : Fx) (n : Nat) (a : AV) (as : List AV) (M M₁ M₂ : Mem) : Prop :=
  ∀ (d : Cy) (S : Tab) (s : Shared) (loc : Loc) (v : Value) (E : Value → Shared → Prop) (Q : Value → Shared → Prop), Ok W f n d → Here W d S M loc s.heap → VR W S v a →
    (∀ s' I o F fp P St S', Same s s' → TabLe S S' → Here W (d.with ((I, o) :: F)) S' M₁ loc s'.heap → ItOk W f d S' I F fp as P St → St 0 s'.heap →
      (∀ G S'' M' l' h', (∀ q ∈ G, ∀ p ∈ F, q.1 ≠ p.1) → TabLe S' S'' → Here W (d.with (F ++ G)) S'' M' l' h' → Here W (d.with G) S'' (M' ++ M₂) l' h') → Q (.ref I) s') →
    wpAny (model W.prog W.w) (d.A.deeper (f.env d)) (pyIter v) Q E s

theorem vrs_get' {W : Wd} {S : Tab} {us : List Value} {as : List AV} {k : Nat} {v : Value} (h : VRs W S us as) (e : us[k]? = some v) : ∃ c, as[k]? = some c ∧ VR W S v c := by
  induction h using VRs.ind generalizing k with
  | nil => exact nsE e
  | cons u a us as r rs ih =>
    cases k with
    | zero => exact ⟨a, rfl, Option.some.inj e ▸ r⟩
    | succ k => exact ih e
/-- a new object that is framed at once -/
theorem Here.frameNew {W : Wd} {f : Fx} {n : Nat} {d : Cy} {S : Tab} {M : Mem} {loc : Loc} {h : Heap} (x : Here W d S M loc h) (ok : Ok W f n d) (o : Obj) (hf : o.isFreed = false) : Here W (d.with [(h.objs.size, o)]) S M loc (h.push o) := by
  obtain ⟨g, m, news, G, F, N, LO, LC⟩ := x
  refine ⟨g, m, (h.objs.size, o) :: news, ⟨G.below, G.turn, G.dicts⟩, F.push o, N.push F o hf, ⟨fun p hp => ?_, fun a y hy => .tail _ (LO.tab a y hy), fun p hp => ?_, LO.nd, fun p hp q hq => ?_, LO.tabM, fun p hp y hy => ?_⟩, LC⟩
  · rcases List.mem_cons.mp (show p ∈ (h.objs.size, o) :: d.Fm from hp) with rfl | hp
    · exact .head _
    · exact .tail _ (LO.fm p hp)
  · obtain ⟨y, h1, h2⟩ := LO.mem p hp
    exact ⟨y, .tail _ h1, h2⟩
  · rcases List.mem_cons.mp (show q ∈ (h.objs.size, o) :: d.Fm from hq) with rfl | hq
    · obtain ⟨y, h1, _⟩ := LO.mem p hp
      exact Nat.ne_of_gt (Heap.lt_size (N _ h1).1)
    · exact LO.fmM p hp q hq
  · rcases List.mem_cons.mp (show p ∈ (h.objs.size, o) :: d.Fm from hp) with rfl | hp
    · exact absurd (Heap.lt_size (N _ (LO.tab _ _ hy)).1) (Nat.lt_irrefl _)
    · exact LO.tabF p hp y hy

/-- a value bound to a target -/
noncomputable def Bd (W : Wd) (f : Fx) (n : Nat) (t : Expr) (a : AV) (M : Mem) (loc : Loc) (Q : Mem → Loc → Prop) : Prop :=
  ∀ (d : Cy) (S : Tab) (s : Shared) (v : Value), Ok W f n d → Here W d S M loc s.heap → VR W S v a → Run W f d UR (assign t (f.here d) v) S s s (fun _ M l => Q M l) (fun _ _ => False)
section
variable {W : Wd} {f : Fx} {n : Nat} {M : Mem} {loc : Loc}
theorem bd_name {x pos} {a : AV} {Q : Mem → Loc → Prop} (hx : f.co = none ∧ f.sc.names.lookup x = some .local) (h : Q M (loc.set x a)) : Bd W f n (.Name x pos) a M loc Q := fun d S s v ok H r =>
  assign_Name (run_store (n := n) (Q := fun _ M l => Q M l) le0 rfl ok H r hx h)
theorem bd_tuple {ts k pos} {as : List AV} {Q : Mem → Loc → Prop} (hn : ts.length = as.length) (hstar : ∀ env, (assignEach ts env).findIdx? (·.1) = none ∧ (assignEach ts env).length = ts.length) (h : Asg W f n ts as M loc Q (fun _ _ => False)) :
    Bd W f n (.Tuple ts k pos) (.tup as) M loc Q := fun d S s v ok H r => run_unpack (n := n) le0 rfl ok H r hn hstar h

theorem bd_pair {ts k pos} {as : List AV} {Q : Mem → Loc → Prop} (hn : ts.length = as.length) (hstar : ∀ env, (assignEach ts env).findIdx? (·.1) = none ∧ (assignEach ts env).length = ts.length) (h : Asg W f n ts as M loc Q (fun _ _ => False)) :
    Bd W f n (.Tuple ts k pos) (.pair as) M loc Q := fun d S s v ok H r => run_unpackAt (n := n) le0 rfl ok H (H.pair ok r) hn hstar h

theorem ep_false {d : Cy} {S : Tab} {s : Shared} {e : Value} {s' : Shared} (h : EP W f d S s (fun _ _ => False) e s') : False := by
  obtain ⟨_, _, _, _, _, _, _, _, _, _, _, _, _, _, _, q, _⟩ := h; exact q

/-- what a loop wants of what it goes over -/
inductive ForH (W : Wd) (f : Fx) (n : Nat) (target : Expr) (body : List Stmt) (Q : AFl → Mem → Loc → Prop) (a : AV) (M₀ : Mem) (l₀ : Loc) : Prop
  | mk (as : List AV) (M₁ M₂ : Mem) (Inv : Nat → Mem → Loc → Prop) (hi : IterOk W f n a as M₀ M₁ M₂) (h0 : Inv 0 M₁ l₀)
      (turn : ∀ i a M l, as[i]? = some a → Inv i M l → Bd W f n target a M l (fun M' l' => Ss W f n body M' l' (fun fl M'' l'' => match fl with
        | .next => Inv (i + 1) M'' l''
        | .cont => Inv (i + 1) M'' l''
        | .brk => Q .next (M'' ++ M₂) l''
        | .ret v => Q (.ret v) (M'' ++ M₂) l'') (fun _ _ => False)))
      (done : ∀ M l, Inv as.length M l → Q .next (M ++ M₂) l) : ForH W f n target body Q a M₀ l₀
inductive ForI (W : Wd) (d : Cy) (s : Shared) (S : Tab) (I : Addr) (F : Led) (St : Nat → Heap → Prop) (Inv : Nat → Mem → Loc → Prop) (len m : Nat) (s' : Shared) : Prop
  | mk (i : Nat) (S' : Tab) (o' : Obj) (M' : Mem) (l' : Loc) (e : Same s s') (k : TabLe S S') (H : Here W (d.with ((I, o') :: F)) S' M' l' s'.heap) (st : St i s'.heap) (inv : Inv i M' l') (hi : i ≤ len) (hm : m = len + 1 - i) : ForI W d s S I F St Inv len m s'
theorem sx_For {Q : AFl → Mem → Loc → Prop} {EQ : Mem → Loc → Prop} {target iter body pos} (h : Ev W f n iter M loc (ForH W f n target body Q) EQ)
    (hs : ∀ env x, foldedSetIterable iter env x = pure x) : Sx W f n (.For target iter body [] pos) M loc Q EQ := by
  intro d S s ok H
  refine wpAny_For ?_ (hs _)
  refine Run.then le0 rfl (h d S s ok H) fun v s₁ S₁ M₀ l₀ a e₁ k₁ _ H₁ r₁ q₁ => ?_
  refine byG fun G_ bk_ => ?_; obtain ⟨as, M₁, M₂, Inv, hi, h0, turn, done⟩ := q₁; refine bk_ ?_; clear bk_
  refine hi d S₁ s₁ l₀ v _ _ ok H₁ r₁ fun s₂ I o F fp P St S₂ e₂ k₂ H₂ it st back => ?_
  have keep : ∀ {S' : Tab} {o' : Obj} {M' : Mem} {l' : Loc} {h' h'' : Heap} {S'' : Tab} {M'' : Mem} {l'' : Loc}, TabLe S₂ S' → TabLe S' S'' → Here W (d.with ((I, o') :: F)) S' M' l' h' → Here W (d.with ((I, o') :: F)) S'' M'' l'' h'' → ∀ b ∈ fp, ∀ ob, h'.get? b = some ob → h''.get? b = some ob := by
    intro S' o' M' l' h' h'' S'' M'' l'' k k' H' H'' b hb ob hob
    have fm : ∀ (q : Addr × Obj), q ∈ (I, o') :: F → h'.get? q.1 = some q.2 ∧ h''.get? q.1 = some q.2 := fun q hq => by
      refine byG fun G_ bk_ => ?_; obtain ⟨_, _, _, _, _, N', LO', _⟩ := H'
      obtain ⟨_, _, _, _, _, N'', LO'', _⟩ := H''; refine bk_ ?_; clear bk_
      have : q ∈ (d.with ((I, o') :: F)).Fm := List.mem_append_left _ hq
      exact ⟨(N' q (LO'.fm q this)).1, (N'' q (LO''.fm q this)).1⟩
    rcases it.fpIn b hb with rfl | ⟨ob', hm⟩ | ⟨ob', hm⟩
    · obtain ⟨z1, z2⟩ := fm (b, o') (.head _); rw [z1] at hob; (injection hob with e0; (first | subst e0 | cases e0)); exact z2
    · obtain ⟨z1, z2⟩ := fm (b, ob') (.tail _ hm); rw [z1] at hob; (injection hob with e0; (first | subst e0 | cases e0)); exact z2
    · have z1 := H'.at ok.with (hm.imp (k _ _) id)
      have z2 := H''.at ok.with (hm.imp (fun z => k' _ _ (k _ _ z)) id)
      rw [z1] at hob; (injection hob with e0; (first | subst e0 | cases e0)); exact z2
  refine codeAny_for (ForI W d s S₂ I F St Inv as.length) ?_ (as.length + 1)
    ⟨0, S₂, o, M₁, l₀, e₁.trans e₂, le0, H₂, st, h0, Nat.zero_le _, rfl⟩
  rintro m s' ⟨i, S', o', M', l', e', k', H', st', hinv, hi', rfl⟩
  have hFI := it.apart
  have back' : ∀ S'' M' l' h', TabLe S₂ S'' → Here W (d.with F) S'' M' l' h' → Here W d S'' (M' ++ M₂) l' h' := fun S'' M' l' h' k x => back [] S'' M' l' h' (fun _ h => nomatch h) k (by rw [List.append_nil]; exact x)
  have newO : ∀ {h'' : Heap} {j : Nat}, St j h'' → (∀ b ob, b ∉ [I] → s'.heap.get? b = some ob → h''.get? b = some ob) → ∃ o'', Here W (d.with ((I, o'') :: F)) S' M' l' h'' ∧ h''.get? I = some o'' ∧ ∃ c, o''.cls = .type c ∧ unpackers.contains c = false := fun {h'' j} st'' hk => by
    refine byG fun G_ bk_ => ?_; obtain ⟨o'', c, z1, z2, z3⟩ := it.here _ _ st''; refine bk_ ?_; clear bk_
    exact ⟨o'', H'.updF hFI (fun b ob hne q => hk b ob (by simpa using hne) q) z1, z1, c, z2, z3⟩
  by_cases hlt : i < as.length
  · refine it.walks.item i s' _ _ hlt st' fun v h'' tk hP st'' hk => ?_
    refine byG fun G_ bk_ => ?_; obtain ⟨o'', H'', z1, c, z2, z3⟩ := newO st'' hk
    obtain ⟨a', ha', rv⟩ := it.item _ _ hlt hP; refine bk_ ?_; clear bk_
    refine go_plain z1 z2 z3 ?_
    have rv' := rv.mono k'
    have st3 : Same s { s' with heap := h'', toks := tk } := e'.trans rfl
    refine wpAny_mono (turn i a' M' l' ha' hinv (d.with ((I, o'') :: F)) S' { s' with heap := h'', toks := tk } v ok.with H'' rv') (fun _ s₃ ⟨e₃, S₃, M₃, l₃, _, k₃, H₃, _, q₃⟩ => ?_) (fun _ _ z => (ep_false z).elim)
    refine wpAny_mono (q₃ (d.with ((I, o'') :: F)) S₃ s₃ ok.with H₃) (fun fl s₄ ⟨e₄, S₄, M₄, l₄, afl, k₄, H₄, r₄, q₄⟩ => ?_) (fun _ _ z => (ep_false z).elim)
    have e5 := (st3.trans e₃).trans e₄
    have k5 : TabLe S₂ S₄ := fun a o x => k₄ a o (k₃ a o (k' a o x))
    have st5 : St (i + 1) s₄.heap := it.walks.frame _ _ _ st'' (keep k' (fun a o x => k₄ a o (k₃ a o x)) H'' H₄)
    have k6 : TabLe S S₄ := fun a o x => k5 a o (k₂ a o (k₁ a o x))
    cases r₄ with
    | next => exact ⟨as.length + 1 - (i + 1), ar_less hlt, i + 1, S₄, o'', M₄, l₄, e5, k5, H₄, st5, q₄, hlt, rfl⟩
    | cont => exact ⟨as.length + 1 - (i + 1), ar_less hlt, i + 1, S₄, o'', M₄, l₄, e5, k5, H₄, st5, q₄, hlt, rfl⟩
    | brk => exact Run.end e5 k6 (back' _ _ _ _ k5 (H₄.dropF hFI fun _ _ _ q => q)) .next q₄
    | ret v a r => exact Run.end e5 k6 (back' _ _ _ _ k5 (H₄.dropF hFI fun _ _ _ q => q)) (.ret v a r) q₄
  · obtain rfl : i = as.length := by first | exact ar_end hlt (by assumption) | walk_at "om"
    refine it.walks.done s' _ _ st' fun h'' tk hk => ?_
    refine wpAny_execs_nil ?_
    have H'' : Here W (d.with F) S' M' l' h'' := H'.dropF hFI fun b ob hne q => hk b ob (by simpa using hne) q
    exact Run.end (e'.trans rfl) (fun a o x => k' a o (k₂ a o (k₁ a o x))) (back' _ _ _ _ k' H'') .next (done _ _ hinv)

/-! what may be iterated -/
theorem it_tup {as : List AV} : IterOk W f n (.tup as) as M M [] := by
  intro d S s loc v E Q ok H r hQ
  cases r using VR.tupE with
  | tup a o us hs ho hr =>
    have ht : s.heap.IsTuple a us.toArray := ⟨o, H.at ok hs, ho.1.1, ho.1.2⟩
    have hlt : a < s.heap.objs.size := Heap.lt_size (H.at ok hs)
    have e2 : us.toArray.size = as.length := by rw [List.size_toArray, VRs.len hr]
    refine wpAny_pyIter_tuple ht ?_
    have W' := Walks.tuple (prog := W.prog) (w := W.w) (A := d.A.deeper (f.env d)) ok.hand s.heap.objs.size a (Nat.ne_of_lt hlt) us.toArray
    rw [e2] at W'
    obtain ⟨g, m, news, G, Fr', N, LO, LC⟩ := id H
    have HN : Here W (d.with [(s.heap.objs.size, { cls := .type "tuple_iterator", data := .fields #[.ref a, .int 0 0] })]) S M loc (s.heap.push { cls := .type "tuple_iterator", data := .fields #[.ref a, .int 0 0] }) :=
      Here.frameNew H ok _ rfl
    refine hQ _ s.heap.objs.size _ [] [s.heap.objs.size, a] _ _ S rfl le0 HN ⟨W', ?_, ?_, ?_, ?_⟩ ⟨⟨_, Heap.get?_push_size _ rfl, rfl, rfl⟩, ht.at fun o e => Heap.get?_push_of_some _ e⟩ fun G S'' M' l' h' _ _ z => by rw [List.append_nil]; exact z
    · intro b hb
      rcases List.mem_cons.mp hb with rfl | hb
      · exact .inl rfl
      · rw [List.mem_singleton.mp hb]; exact .inr (.inr ⟨o, hs⟩)
    · intro i v _ hv
      obtain ⟨a', h1, h2⟩ := vrs_get' hr (by simpa using hv)
      exact ⟨a', h1, h2⟩
    · rintro i h ⟨⟨o, h1, h2, _⟩, _⟩
      exact ⟨o, _, h1, h2, by decide⟩
    · intro q hq
      exact Nat.ne_of_lt (Heap.lt_size (N _ (LO.fm q hq)).1)
end
end Mine
end
section
open PySem PySem.W PySem.Calls PyProof.Rows PySem.Spec PySem.SeqAt
namespace Mine

section
variable {W : Wd} {f : Fx} {n : Nat} {M : Mem} {loc : Loc} {Q : AV → Mem → Loc → Prop} {EQ : Mem → Loc → Prop}
/-! slices -/
noncomputable def Evo (W : Wd) (f : Fx) (n : Nat) (e : Option Expr) (M : Mem) (loc : Loc) (Q : AV → Mem → Loc → Prop) (EQ : Mem → Loc → Prop) : Prop := T0 W f n (VR W) (fun env => valueOrNone (evalOpt e env)) M loc Q EQ
theorem evo_none (h : Q .none M loc) : Evo W f n none M loc Q EQ := fun d S s ok H => wpAny_pure (Run.end rfl le0 H .none h)
theorem evo_some {e : Expr} (h : Ev W f n e M loc Q EQ) : Evo W f n (some e) M loc Q EQ := fun d S s ok H => h d S s ok H
theorem ev_Slice {lo hi st pos} (h : Evo W f n lo M loc (fun a M₁ l₁ => Evo W f n hi M₁ l₁ (fun b M₂ l₂ => Evo W f n st M₂ l₂ (fun c M₃ l₃ => Q (.slc a b c) M₃ l₃) EQ) EQ) EQ) : Ev W f n (.Slice lo hi st pos) M loc Q EQ := by
  intro d S s ok H
  show wpAny _ _ (do
    let l ← valueOrNone (evalOpt lo (f.here d))
    let u ← holding [l] (valueOrNone (evalOpt hi (f.here d)))
    let s ← holding [l, u] (valueOrNone (evalOpt st (f.here d)))
    newFields "slice" [l, u, s]) _ _ _
  refine wpAny_bind (Run.then le0 rfl (h d S s ok H) fun v s₁ S₁ M₁ l₁ a e₁ k₁ _ H₁ r₁ q₁ => ?_)
  refine wpAny_bind (wpAny_holding (Run.then k₁ e₁ (q₁ d S₁ s₁ ok H₁) fun u s₂ S₂ M₂ l₂ b e₂ k₂ k₂' H₂ r₂ q₂ => ?_))
  refine wpAny_bind (wpAny_holding (Run.then k₂ e₂ (q₂ d S₂ s₂ ok H₂) fun x s₃ S₃ M₃ l₃ c e₃ k₃ k₃' H₃ r₃ q₃ => ?_))
  refine wpAny_newObj_type ?_ (by size_fits)
  exact Run.end (e₃.trans rfl) (fun a o z => Tab.add_le a o (k₃ a o z)) (H₃.allocS _) (.slc _ v u x a b c (.inl Tab.add_at) (((r₁.mono k₂').mono k₃').mono Tab.add_le) ((r₂.mono k₃').mono Tab.add_le) (r₃.mono Tab.add_le)) q₃

/-- a slice's part -/
inductive Part : AV → Option Int → Prop
  | none : Part .none none
  | int (i : Int) : Part (.int i) (some i)
theorem Part.is {S : Tab} {v : Value} {a : AV} {p : Option Int} (x : Part a p) (r : VR W S v a) : IsPart v p := by
  cases x with
  | none => cases r using VR.noneE; constructor
  | int i => cases r using VR.intE; constructor
noncomputable def pickA (as : List AV) (lo hi st : Option Int) : List AV :=
  (sliceRange (sliceBounds lo hi st as.length).1 (sliceBounds lo hi st as.length).2.1 (sliceBounds lo hi st as.length).2.2).filterMap (as[·]?)
theorem vrs_pick {S : Tab} {us : List Value} {as : List AV} (r : VRs W S us as) (lo hi st : Option Int) : VRs W S (slicePick us.toArray lo hi st).toList (pickA as lo hi st) := by
  unfold slicePick pickA
  have hl : us.toArray.size = as.length := by (with_reducible refine rwE List.size_toArray ?_; with_reducible refine rwE (VRs.len r) ?_; with_reducible rfl)
  (with_reducible refine rwE hl ?_; with_reducible refine rwE List.toList_toArray ?_)
  generalize sliceRange _ _ _ = ks
  induction ks with
  | nil => exact .nil
  | cons k ks ih =>
    (with_reducible refine rwE List.filterMap_cons ?_; with_reducible refine rwE List.filterMap_cons ?_)
    cases hk : as[k]? with
    | none =>
      have : us.toArray[k]? = none := by
        (with_reducible refine rwE (List.getElem?_toArray) ?_; rewrite [List.getElem?_eq_none_iff]; with_reducible refine rwE (VRs.len r) ?_)
        exact List.getElem?_eq_none_iff.mp hk
      with_reducible refine rwE this ?_; exact ih
    | some c =>
      refine byG fun G_ bk_ => ?_; obtain ⟨v, hv, rv⟩ := vrs_get r hk; refine bk_ ?_; clear bk_
      have : us.toArray[k]? = some v := by with_reducible refine rwE (List.getElem?_toArray) ?_; exact hv
      with_reducible refine rwE this ?_
      exact .cons _ _ _ _ rv ih
theorem t_subListSlice {value slice : Expr} {a x y z : AV} {as : List AV} {lo hi st : Option Int} (xs : LstAV M a as) (hz : as.length ≤ sizeLine) (px : Part x lo) (py : Part y hi) (pz : Part z st) (h0 : st ≠ some 0)
    (hs : ∀ t u, ∃ ops, subscripted slice false (.ref t) (.ref u) = operate ops (getItem (.ref t) (.ref u))) (h : ∀ w, Q (.obj w) ((w, .list (pickA as lo hi st)) :: M) loc) :
    T2 W f n (VR W) (subscriptTail value slice) a (.slc x y z) M loc Q EQ := fun d S s v u ok H r₁ r₂ => by
  obtain ⟨b, us, m, rfl, e, r'⟩ := xs.at H ok r₁
  cases r₂ using VR.slcE with
  | slc t p q r ht rp rq rr =>
    obtain ⟨ops, hops⟩ := hs b t
    refine tail_any (isList_of e).typeIs slot_list_getitem.lookup ?_ hops
    refine wpAny_getItem_list_slice (isList_of e) ⟨_, H.at ok ht, rfl, rfl⟩ (px.is rp) (py.is rq) (pz.is rr) h0 ?_ (by (with_reducible refine rwE List.size_toArray ?_; with_reducible refine rwE (VRs.len r') ?_); exact hz)
    have rv := vrs_pick r' lo hi st
    exact Run.end rfl le0 (H.allocM ok _ (.list _ (slicePick us.toArray lo hi st).toList _ ⟨0, by rfl⟩ rv)) (.obj _) (h _)
end

section
variable {prog : Program} {w : World} {A : Around} {E : Value → Shared → Prop} {s : Shared}
/-- the places of a slice of a tuple by steps of one -/
theorem sliceApplied_one {sl : Addr} {vl vu : Value} {lo hi : Option Int} {n : Nat} {Q : Int × Int × Nat → Shared → Prop} (hs : s.heap.IsSliceOf sl vl vu .none) (pl : IsPart vl lo) (pu : IsPart vu hi)
    (h : Q ((Builtin.Slice.sliceAdjust lo hi 1 (n : Int)).1, 1, Builtin.Slice.slicePlaces (Builtin.Slice.sliceAdjust lo hi 1 (n : Int)).1 (Builtin.Slice.sliceAdjust lo hi 1 (n : Int)).2 1) s) :
    wpAny (model prog w) A (Builtin.Slice.sliceApplied (.ref sl) (pure (n : Int))) Q E s := by
  refine byG fun G_ bk_ => ?_; obtain ⟨os, hos, hcs, hds⟩ := id hs; refine bk_ ?_; clear bk_
  refine wpAny_bind (wpAny_bind (wpAny_field hos hds (x := vl) rfl (wpAny_bind (wpAny_field hos hds (x := vu) rfl (wpAny_bind (wpAny_field hos hds (x := .none) rfl (wpAny_pure ?_)))))))
  refine wpAny_bind (slicePart_none ?_)
  have part : ∀ {v : Value} {p : Option Int} {Q' : Option Int → Shared → Prop}, IsPart v p → Q' p s → wpAny (model prog w) A (Builtin.Slice.slicePartIndex v) Q' E s := fun {v p Q'} x q => by
    cases x with
    | none => exact slicePart_none q
    | int i t => exact slicePart_int q
  refine wpAny_bind (part pl (wpAny_bind (part pu (wpAny_bind (wpAny_pure ?_)))))
  exact wpAny_pure h
theorem getItem_tuple_slice {t sl : Addr} {items : Array Value} {vl vu : Value} {lo hi : Option Int} {Q : Value → Shared → Prop} (ht : IsTup s.heap t items) (hs : s.heap.IsSliceOf sl vl vu .none) (pl : IsPart vl lo) (pu : IsPart vu hi)
    {i : Nat} {c : Nat} (hi' : Builtin.Slice.sliceAdjust lo hi 1 (items.size : Int) = ((i : Int), (i : Int) + c)) (hc : i + c ≤ items.size)
    (h0 : ¬ (i = 0 ∧ c = items.size))
    (h : Q (.ref s.heap.objs.size) { s with heap := s.heap.push { cls := .type "tuple", data := .seq ((items.toList.drop i).take c).toArray } })
    (hsz : items.size ≤ sizeLine := by size_fits) : wpAny (model prog w) A (getItem (.ref t) (.ref sl)) Q E s := by
  have hdrop : sizeOk (.seq ((items.toList.drop i).take c).toArray) := by
    refine (?_ : ((items.toList.drop i).take c).toArray.size ≤ sizeLine)
    (with_reducible refine rwE List.size_toArray ?_; with_reducible refine rwE List.length_take ?_; with_reducible refine rwE List.length_drop ?_; with_reducible refine rwE Array.length_toList ?_)
    exact ar_minR (Nat.le_trans (Nat.sub_le ..) hsz)
  refine byG fun G_ bk_ => ?_; obtain ⟨os, hos, hcs, hds⟩ := id hs; refine bk_ ?_; clear bk_
  have hTs : s.TypeIs (.ref sl) "slice" := ⟨os, hos, hcs⟩
  unfold getItem
  try with_reducible refine wpAny_holding ?_
  first | refine wpAny_bind (wpAny_pure ?_) | skip
  refine wpAny_bind (wpAny_sequenceKey ht.typeIs (by decide) ?_)
  refine wpAny_bind (wpAny_callSpecial?_slot (name := Str.ofString "__getitem__") ht.typeIs slot_tuple_getitem
    (wpAny_call_entry slot_tuple_getitem ht.typeIs entry_tuple_getitem ?_ (args_tuple_getitem _ _)))
  refine (?_ : wpAny _ _ (Builtin.Tuple.tupleItemsOf (.ref t) >>= _) _ _ s)
  refine wpAny_bind (tupleItemsOf_ ht ?_)
  refine wpAny_bind (wpAny_typeOf hTs ?_)
  refine wpAny_bind (sliceApplied_one hs pl pu ?_)
  with_reducible refine rwE hi' ?_
  have hp : Builtin.Slice.slicePlaces (i : Int) ((i : Int) + c) 1 = c := by
    refine (?_ : (if (i : Int) < (i : Int) + c then ((i : Int) + c - i - 1) / 1 + 1 else 0).toNat = c)
    by_cases h1 : (i : Int) < (i : Int) + c
    · exact (congrArg Int.toNat ((if_pos h1).trans ((congrArg (· + 1) ((Int.ediv_one _).trans (congrArg (· - 1) ((congrArg (· - (i : Int)) (Int.add_comm ..)).trans (Int.add_sub_cancel ..))))).trans (Int.sub_add_cancel (c : Int) 1)))).trans (Int.toNat_natCast c)
    · exact (congrArg Int.toNat (if_neg h1)).trans (Nat.eq_zero_of_not_pos fun hc => h1 (Int.lt_add_of_pos_right _ (Int.ofNat_lt.mpr hc))).symm
  dsimp only
  with_reducible refine rwE hp ?_
  refine (?_ : wpAny _ _ (if ((i : Int) == 0 && (1 : Int) == 1 && c == items.size) = true then _ else _) _ _ s)
  rw [if_neg (by
    intro hw
    simp only [Bool.and_eq_true, beq_iff_eq] at hw
    exact h0 ⟨Int.ofNat.inj hw.1.1, hw.2⟩)]
  · have _u : True := trivial
    have pick : ((List.range c).filterMap fun (k : Nat) => items[((i : Int) + (k : Int) * 1).toNat]?).toArray = ((items.toList.drop i).take c).toArray := by
      have e : (fun (k : Nat) => items[((i : Int) + (k : Int) * 1).toNat]?) = fun k => items[i + k]? := by
        funext k
        exact congrArg (fun z => items[((i : Int) + z).toNat]?) (Int.mul_one k)
      with_reducible refine rwE e ?_
      have := pick_run items i c
      rw [List.filterMap_map] at this
      exact congrArg _ this
    with_reducible refine rwE pick ?_
    first
      | exact wpAny_bind (m := Builtin.Tuple.tupleExact _) (wpAny_newObj_type (wpAny_pure ⟨_, rfl, wpAny_pure h⟩) hdrop)
      | exact wpAny_bind (m := Builtin.Tuple.tupleExact _) (wpAny_newObj_type (wpAny_bind (wpAny_pure (wpAny_pure ⟨_, rfl, wpAny_pure h⟩))) hdrop)
      | exact wpAny_bind (wpAny_bind (m := Builtin.Tuple.tupleExact _) (wpAny_newObj_type (wpAny_pure (wpAny_pure ⟨_, rfl, wpAny_pure h⟩)) hdrop))
      | exact wpAny_bind (wpAny_bind (m := Builtin.Tuple.tupleExact _) (wpAny_newObj_type (wpAny_pure ⟨_, rfl, wpAny_pure h⟩) hdrop))
end
section
variable {W : Wd} {f : Fx} {n : Nat} {M : Mem} {loc : Loc} {Q : AV → Mem → Loc → Prop} {EQ : Mem → Loc → Prop}
theorem vrs_drop {S : Tab} {us : List Value} {as : List AV} (k : Nat) (h : VRs W S us as) : VRs W S (us.drop k) (as.drop k) := by
  induction h using VRs.ind generalizing k with
  | nil => (with_reducible refine rwE List.drop_nil ?_; with_reducible refine rwE List.drop_nil ?_); exact .nil
  | cons u a us as r rs ih =>
    cases k with
    | zero => exact .cons _ _ _ _ r rs
    | succ k => exact ih k
theorem vrs_take {S : Tab} {us : List Value} {as : List AV} (k : Nat) (h : VRs W S us as) : VRs W S (us.take k) (as.take k) := by
  induction h using VRs.ind generalizing k with
  | nil => (with_reducible refine rwE List.take_nil ?_; with_reducible refine rwE List.take_nil ?_); exact .nil
  | cons u a us as r rs ih =>
    cases k with
    | zero => exact .nil
    | succ k => exact .cons _ _ _ _ r (ih k)
theorem t_subTupSlice {value slice : Expr} {x y : AV} {as : List AV} {lo hi : Option Int} {i c : Nat} (hz : as.length ≤ sizeLine) (px : Part x lo) (py : Part y hi)
    (hi' : Builtin.Slice.sliceAdjust lo hi 1 (as.length : Int) = ((i : Int), (i : Int) + c)) (hc : i + c ≤ as.length) (h0 : ¬ (i = 0 ∧ c = as.length))
    (hs : ∀ t u, ∃ ops, subscripted slice false (.ref t) (.ref u) = operate ops (getItem (.ref t) (.ref u))) (h : Q (.tup ((as.drop i).take c)) M loc) :
    T2 W f n (VR W) (subscriptTail value slice) (.tup as) (.slc x y .none) M loc Q EQ := fun d S s v u ok H r₁ r₂ => by
  obtain ⟨b, us, rfl, e, r'⟩ := H.tup ok r₁
  have hl : us.toArray.size = as.length := by (with_reducible refine rwE List.size_toArray ?_; with_reducible refine rwE (VRs.len r') ?_; with_reducible rfl)
  cases r₂ using VR.slcE with
  | slc t p q r ht rp rq rr =>
    cases rr using VR.noneE
    obtain ⟨ops, hops⟩ := hs b t
    refine tail_any e.typeIs slot_tuple_getitem.lookup ?_ hops
    refine getItem_tuple_slice e ⟨_, H.at ok ht, rfl, rfl⟩ (px.is rp) (py.is rq) (by with_reducible refine rwE hl ?_; exact hi') (by with_reducible refine rwE hl ?_; exact hc) (by with_reducible refine rwE hl ?_; exact h0) ?_ (by with_reducible refine rwE hl ?_; exact hz)
    have rv := vrs_take c (vrs_drop i r')
    exact Run.end rfl Tab.add_le (H.allocS _) (.tup _ _ _ _ (.inl Tab.add_at) ⟨⟨rfl, 0, by rfl⟩, rfl⟩ (rv.mono Tab.add_le)) h

theorem pick_range {α : Type} (xs : List α) (i c : Nat) : ((List.range c).map fun (k : Nat) => ((i : Int) + 1 * (k : Int)).toNat).filterMap (xs[·]?) = (xs.drop i).take c := by
  have e : (fun (k : Nat) => ((i : Int) + 1 * (k : Int)).toNat) = (i + ·) := funext fun k => congrArg (fun z => ((i : Int) + z).toNat) (Int.one_mul k)
  refine rwE e ?_
  exact (congrArg (fun f => List.filterMap f _) (funext fun x => List.getElem?_toArray.symm)).trans (pick_run xs.toArray i c)
theorem pick1 (as : List AV) (i j : Nat) : (sliceRange (i : Int) (j : Int) 1).filterMap (as[·]?) = (as.drop i).take (j - i) := by
  have e : (if (i : Int) < j then ((j : Int) - i + 1 - 1) / 1 else 0).toNat = j - i := by
    by_cases h : (i : Int) < j
    · exact (congrArg Int.toNat ((if_pos h).trans ((Int.ediv_one _).trans (Int.add_sub_cancel ..)))).trans (Int.toNat_sub j i)
    · exact (congrArg Int.toNat (if_neg h)).trans (Nat.sub_eq_zero_of_le (Int.ofNat_le.mp (Int.not_lt.mp h))).symm
  exact (congrArg (fun c => ((List.range c).map fun (k : Nat) => ((i : Int) + 1 * (k : Int)).toNat).filterMap (as[·]?)) e).trans (pick_range as i (j - i))
theorem minN (k n : Nat) : max 0 (min (k : Int) n) = ((min k n : Nat) : Int) :=
  (Int.max_eq_right (Int.le_min.mpr ⟨Int.natCast_nonneg k, Int.natCast_nonneg n⟩)).trans
    ((Nat.le_total k n).elim (fun h => (Int.min_eq_left (Int.ofNat_le.mpr h)).trans (congrArg _ (Nat.min_eq_left h).symm)) fun h => (Int.min_eq_right (Int.ofNat_le.mpr h)).trans (congrArg _ (Nat.min_eq_right h).symm))
theorem clipN (k n : Nat) : max 0 (min (if (k : Int) < 0 then (k : Int) + n else k) n) = ((min k n : Nat) : Int) :=
  (congrArg (fun z : Int => max 0 (min z (n : Int))) (if_neg (Int.not_lt.mpr (Int.natCast_nonneg k)))).trans (minN k n)
/-- xs[k:] -/
theorem pick_from' {as : List AV} {k : Nat} (h : k ≤ as.length) : pickA as (some k) none none = as.drop k :=
  (congrArg (fun z => (sliceRange z (as.length : Int) 1).filterMap (as[·]?)) ((clipN k as.length).trans (congrArg _ (Nat.min_eq_left h)))).trans
    ((pick1 as k as.length).trans (List.take_of_length_le (Nat.le_of_eq List.length_drop)))
/-- xs[:k] -/
theorem pick_min {as : List AV} {k : Nat} : pickA as none (some k) none = as.take k :=
  (congrArg (fun z => (sliceRange ((0 : Nat) : Int) z 1).filterMap (as[·]?)) (clipN k as.length)).trans ((pick1 as 0 (min k as.length)).trans List.take_eq_take_min.symm)
/-- xs[:-k] -/
theorem pick_but {as : List AV} {k : Nat} (h : k ≤ as.length) (h0 : 0 < k) : pickA as none (some (-(k : Int))) none = as.take (as.length - k) :=
  (congrArg (fun z => (sliceRange ((0 : Nat) : Int) z 1).filterMap (as[·]?)) ((congrArg (fun z : Int => max 0 (min z (as.length : Int))) ((if_pos (Int.neg_neg_of_pos (Int.ofNat_lt.mpr h0))).trans ((Int.add_comm ..).trans (Int.ofNat_sub h).symm))).trans
    ((minN _ _).trans (congrArg _ (Nat.min_eq_left (Nat.sub_le ..)))))).trans (pick1 as 0 (as.length - k))
theorem rev_map {α : Type} (l : List α) : (List.range l.length).map (fun k => l[l.length - 1 - k]?) = l.reverse.map some := by
  induction l with
  | nil => rfl
  | cons a l ih =>
    refine rwE List.range_succ (rwE List.map_append (rwE List.reverse_cons (rwE List.map_append (rwE ih.symm ?_))))
    refine congr (congrArg (· ++ ·) (List.map_congr_left fun k hk => ?_)) (congrArg (fun z => [(a :: l)[z]?]) (Nat.sub_self l.length))
    exact congrArg (fun z => (a :: l)[z]?) ((Nat.succ_pred_eq_of_pos (Nat.sub_pos_of_lt (List.mem_range.mp hk))).symm.trans (show (l.length - k).pred.succ = l.length - 1 - k + 1 from congrArg Nat.succ (Nat.sub_right_comm l.length k 1)))
theorem rev_run {α : Type} (l : List α) : (List.range l.length).filterMap (fun k => l[l.length - 1 - k]?) = l.reverse :=
  (List.filterMap_map (g := id)).symm.trans ((congrArg (List.filterMap id) (rev_map l)).trans (List.filterMap_map.trans List.filterMap_some))
/-- xs[::-1] -/
theorem pick_rev {as : List AV} : pickA as none none (some (-1)) = as.reverse := by
  have e2 : (if (as.length : Int) - 1 > -1 then ((as.length : Int) - 1 - -1 - -1 - 1) / - -1 else 0).toNat = as.length := by
    cases as with
    | nil => rfl
    | cons a l =>
      refine rwE (if_pos ?_) ((congrArg Int.toNat ((Int.ediv_one _).trans ?_)).trans (Int.toNat_natCast _))
      · exact Int.lt_of_lt_of_le (by decide) (rwE (Int.add_sub_cancel (l.length : Int) 1) (Int.natCast_nonneg l.length) : 0 ≤ ((l.length : Int) + 1) - 1)
      · rw [Int.sub_neg, Int.sub_neg, Int.sub_add_cancel]; exact Int.add_sub_cancel ..
  have e : (fun (k : Nat) => ((as.length : Int) - 1 + -1 * (k : Int)).toNat) = fun k => as.length - 1 - k := funext fun k => by
    rw [Int.neg_mul, Int.one_mul, ← Int.sub_eq_add_neg, Int.sub_sub]
    exact (Int.toNat_sub as.length (1 + k)).trans (Nat.sub_add_eq ..)
  exact (congr (congrArg (fun c (f : Nat → Nat) => ((List.range c).map f).filterMap (as[·]?)) e2) e).trans (List.filterMap_map.trans (rev_run as))
end
end Mine
end
section
open PySem PySem.W PySem.Calls PyProof.Rows PySem.Spec PySem.SeqAt
namespace Mine

section
variable {W : Wd} {f : Fx} {n : Nat} {d : Cy} {S : Tab} {M M₁ M₂ M' : Mem} {loc : Loc} {h h' : Heap} {F F' G : Led}
/-- the framed part, in other order -/
theorem Here.permF (x : Here W (d.with F) S M loc h) (p : ∀ q ∈ F', q ∈ F) : Here W (d.with F') S M loc h := by
  obtain ⟨g, m, news, G, FF, N, LO, LC⟩ := x
  have up : ∀ q ∈ F' ++ d.Fm, q ∈ F ++ d.Fm := fun q hq => (List.mem_append.mp hq).elim (fun h => List.mem_append_left _ (p q h)) (List.mem_append_right _)
  exact ⟨g, m, news, ⟨G.below, G.turn, G.dicts⟩, FF, N, ⟨fun q hq => LO.fm q (up q hq), LO.tab, LO.mem, LO.nd, fun q hq r hr => LO.fmM q hq r (up r hr), LO.tabM, fun q hq => LO.tabF q (up q hq)⟩, LC⟩
/-- a framed object is taken up -/
theorem Here.claim {a : Addr} {o : Obj} {ao : AO} (x : Here W (d.with ((a, o) :: F)) S M loc h) (r : OR W S o ao) (hF : ∀ q ∈ F ++ d.Fm, q.1 ≠ a) : Here W (d.with F) S ((a, ao) :: M) loc h := by
  obtain ⟨g, m, news, G, FF, N, LO, LC⟩ := x
  refine ⟨g, m, news, ⟨G.below, G.turn, G.dicts⟩, FF, N, ⟨fun q hq => LO.fm q (.tail _ hq), LO.tab, fun p hp => ?_, List.nodup_cons.mpr ⟨fun hm => ?_, LO.nd⟩, fun p hp q hq => ?_, fun p hp => ?_, fun q hq => LO.tabF q (.tail _ hq)⟩, LC⟩
  · rcases List.mem_cons.mp hp with rfl | hp
    · exact ⟨o, LO.fm (a, o) (.head _), r⟩
    · exact LO.mem p hp
  · obtain ⟨p, hp, e⟩ := List.mem_map.mp hm
    exact LO.fmM p hp (a, o) (.head _) e.symm
  · rcases List.mem_cons.mp hp with rfl | hp
    · exact hF q hq
    · exact LO.fmM p hp q (.tail _ hq)
  · rcases List.mem_cons.mp hp with rfl | hp
    · exact LO.tabF (a, o) (.head _)
    · exact LO.tabM p hp
/-- a ledger's entry is framed -/
inductive HoldAt (W : Wd) (d : Cy) (S : Tab) (M : Mem) (loc : Loc) (h : Heap) (a : Addr) (ao : AO) : Prop
  | mk (o : Obj) (r : OR W S o ao) (H : Here W (d.with [(a, o)]) S M loc h) (n : ∀ q ∈ d.Fm, q.1 ≠ a) : HoldAt W d S M loc h a ao
theorem Here.hold {a : Addr} {ao : AO} (x : Here W d S ((a, ao) :: M) loc h) : HoldAt W d S M loc h a ao := by
  obtain ⟨g, m, news, G, FF, N, LO, LC⟩ := x
  obtain ⟨o, h1, h2⟩ := LO.mem _ (.head _)
  have nd := List.nodup_cons.mp LO.nd
  refine ⟨o, h2, ⟨g, m, news, ⟨G.below, G.turn, G.dicts⟩, FF, N, ⟨fun q hq => ?_, LO.tab, fun p hp => LO.mem p (.tail _ hp), nd.2, fun p hp q hq => ?_, fun p hp => LO.tabM p (.tail _ hp), fun q hq => ?_⟩, LC⟩, fun q hq => LO.fmM _ (.head _) q hq⟩
  · rcases List.mem_cons.mp (show q ∈ (a, o) :: d.Fm from hq) with rfl | hq
    · exact h1
    · exact LO.fm q hq
  · rcases List.mem_cons.mp (show q ∈ (a, o) :: d.Fm from hq) with rfl | hq
    · exact fun e => nd.1 (List.mem_map.mpr ⟨p, hp, e.symm⟩)
    · exact LO.fmM p (.tail _ hp) q hq
  · rcases List.mem_cons.mp (show q ∈ (a, o) :: d.Fm from hq) with rfl | hq
    · exact LO.tabM _ (.head _)
    · exact LO.tabF q hq
/-- a new object, framed -/
theorem Here.frameAt (x : Here W d S M loc h) {a : Addr} {o : Obj} (hk : ∀ b o, h.get? b = some o → h'.get? b = some o) (ho : h'.get? a = some o) (hs : h.objs.size ≤ a) : Here W (d.with [(a, o)]) S M loc h' := by
  obtain ⟨g, m, news, G, F, N, LO, LC⟩ := x
  obtain ⟨oL, es, ep, e, r⟩ := F.ns
  have lt : ∀ {b o}, h.get? b = some o → b ≠ a := fun q => Nat.ne_of_lt (Nat.lt_of_lt_of_le (Heap.lt_size q) hs)
  have new : g.get? a = none := by
    cases q : g.get? a with
    | none => rfl
    | some ob => exact absurd rfl (lt (F.keep a ob q))
  refine ⟨g, m, (a, o) :: news, ⟨G.below, G.turn, G.dicts⟩, ⟨⟨oL, es, ep, hk _ _ e, r⟩, fun b o q => hk b o (F.keep b o q), F.above⟩, fun p hp => ?_, ⟨fun p hp => ?_, fun a y hy => .tail _ (LO.tab a y hy), fun p hp => ?_, LO.nd, fun p hp q hq => ?_, LO.tabM, fun p hp y hy => ?_⟩, LC⟩
  · rcases List.mem_cons.mp hp with rfl | hp
    · exact ⟨ho, Ne.symm (lt e), new⟩
    · exact ⟨hk _ _ (N p hp).1, (N p hp).2⟩
  · rcases List.mem_cons.mp (show p ∈ (a, o) :: d.Fm from hp) with rfl | hp
    · exact .head _
    · exact .tail _ (LO.fm p hp)
  · obtain ⟨y, h1, h2⟩ := LO.mem p hp
    exact ⟨y, .tail _ h1, h2⟩
  · rcases List.mem_cons.mp (show q ∈ (a, o) :: d.Fm from hq) with rfl | hq
    · obtain ⟨y, h1, _⟩ := LO.mem p hp
      exact Ne.symm (lt (N _ h1).1)
    · exact LO.fmM p hp q hq
  · rcases List.mem_cons.mp (show p ∈ (a, o) :: d.Fm from hp) with rfl | hp
    · exact absurd rfl (lt (N _ (LO.tab _ _ hy)).1)
    · exact LO.tabF p hp y hy
theorem Here.fmNe (x : Here W d S M loc h) {a : Addr} (ha : h.objs.size ≤ a) : ∀ q ∈ d.Fm, q.1 ≠ a := by
  obtain ⟨g, m, news, G, F, N, LO, LC⟩ := x
  exact fun q hq => Nat.ne_of_lt (Nat.lt_of_lt_of_le (Heap.lt_size (N _ (LO.fm q hq)).1) ha)
theorem Here.fmAt (x : Here W d S M loc h) : ∀ q ∈ d.Fm, h.get? q.1 = some q.2 := by
  obtain ⟨g, m, news, G, F, N, LO, LC⟩ := x
  exact fun q hq => (N _ (LO.fm q hq)).1

theorem it_list {a : Addr} {as : List AV} (pk : Pick a (.list as) M M') : IterOk W f n (.obj a) as M M' [(a, .list as)] := by
  intro d S s loc v E Q ok H r hQ
  cases r using VR.objE
  obtain ⟨o, ro, H', ha⟩ := (H.perm pk.perm).hold
  cases ro using OR.listE with
  | list us ho hr =>
    obtain ⟨k, rfl⟩ := ho
    have hat : s.heap.get? a = some (listOf us.toArray k) := H'.fmAt (a, _) (List.mem_append_left _ (.head _))
    have ht : s.heap.IsList a us.toArray := ⟨_, hat, rfl, k, rfl⟩
    have hlt : a < s.heap.objs.size := Heap.lt_size hat
    have e2 : us.toArray.size = as.length := by (with_reducible refine rwE List.size_toArray ?_; with_reducible refine rwE (VRs.len hr) ?_; with_reducible rfl)
    refine wpAny_pyIter_list ht ?_
    have W' := Walks.list (prog := W.prog) (w := W.w) (A := d.A.deeper (f.env d)) ok.hand s.heap.objs.size a (Nat.ne_of_lt hlt) us.toArray
    rw [e2] at W'
    have HN := Here.frameNew H' ok.with { cls := .type "list_iterator", data := .fields #[.ref a, .int 0 0] } rfl
    refine hQ _ s.heap.objs.size _ [(a, listOf us.toArray k)] [s.heap.objs.size, a] _ _ S rfl le0 HN ⟨W', ?_, ?_, ?_, ?_⟩ ⟨⟨_, Heap.get?_push_size _ rfl, rfl, rfl⟩, ht.at fun o e => Heap.get?_push_of_some _ e⟩ fun G S'' M'' l' h' hG k' z => ?_
    · intro b hb
      rcases List.mem_cons.mp hb with rfl | hb
      · exact .inl rfl
      · rw [List.mem_singleton.mp hb]; exact .inr (.inl ⟨_, .head _⟩)
    · intro i v _ hv
      obtain ⟨a', h1, h2⟩ := vrs_get' hr (by simpa using hv)
      exact ⟨a', h1, h2⟩
    · rintro i h ⟨⟨o, h1, h2, _⟩, _⟩
      exact ⟨o, _, h1, h2, by decide⟩
    · exact fun q hq => H'.fmNe (Nat.le_refl _) q hq
    · have := z.claim (.list _ us as ⟨k, rfl⟩ (hr.mono k')) (fun q hq => (List.mem_append.mp hq).elim (fun h => hG q h _ (.head _)) (ha q))
      exact this.perm (List.perm_append_comm (l₁ := [(a, AO.list as)]))
theorem it_flist {as : List AV} : IterOk W f n (.flist as) as M M [] := by
  intro d S s loc v E Q ok H r hQ
  cases r using VR.flistE with
  | flist a o us hs ho hr =>
    obtain ⟨k, rfl⟩ := ho
    have hat : s.heap.get? a = some (listOf us.toArray k) := H.at ok hs
    have ht : s.heap.IsList a us.toArray := ⟨_, hat, rfl, k, rfl⟩
    have hlt : a < s.heap.objs.size := Heap.lt_size hat
    have e2 : us.toArray.size = as.length := by (with_reducible refine rwE List.size_toArray ?_; with_reducible refine rwE (VRs.len hr) ?_; with_reducible rfl)
    refine wpAny_pyIter_list ht ?_
    have W' := Walks.list (prog := W.prog) (w := W.w) (A := d.A.deeper (f.env d)) ok.hand s.heap.objs.size a (Nat.ne_of_lt hlt) us.toArray
    rw [e2] at W'
    have HN := Here.frameNew H ok { cls := .type "list_iterator", data := .fields #[.ref a, .int 0 0] } rfl
    refine hQ _ s.heap.objs.size _ [] [s.heap.objs.size, a] _ _ S rfl le0 HN ⟨W', ?_, ?_, ?_, ?_⟩ ⟨⟨_, Heap.get?_push_size _ rfl, rfl, rfl⟩, ht.at fun o e => Heap.get?_push_of_some _ e⟩ fun G S'' M' l' h' _ _ z => by rw [List.append_nil]; exact z
    · intro b hb
      rcases List.mem_cons.mp hb with rfl | hb
      · exact .inl rfl
      · with_reducible refine rwE (List.mem_singleton.mp hb) ?_; exact .inr (.inr ⟨_, hs⟩)
    · intro i v _ hv
      obtain ⟨a', h1, h2⟩ := vrs_get' hr (by simpa using hv)
      exact ⟨a', h1, h2⟩
    · rintro i h ⟨⟨o, h1, h2, _⟩, _⟩
      exact ⟨o, _, h1, h2, by decide⟩
    · exact fun q hq => H.fmNe (Nat.le_refl _) q hq

/-- range(k) -/
theorem t_range {k : Int} {Q : AV → Mem → Loc → Prop} {EQ : Mem → Loc → Prop} (q : Q (.rng k) M loc) : Ts W f n (VR W) (fun vs => call (.type "range") vs) [.int k] M loc Q EQ := by
  intro d S s vs ok H r
  cases r using VRs.consE with
  | cons v _ r rs =>
    cases rs using VRs.nilE
    cases r using VR.intE
    refine call_range_1 ?_
    exact Run.end rfl Tab.add_le (H.allocS _) (.rng _ k _ _ _ (.inl Tab.add_at)) q
theorem it_range {k : Nat} (hk : k < 4611686018427387904) : IterOk W f n (.rng k) ((List.range k).map fun i => AV.int (Int.ofNat i)) M M [] := by
  intro d S s loc v E Q ok H r hQ
  cases r using VR.rngE with
  | rng a t u v hs =>
    have hat := H.at ok hs
    have hn : Builtin.Range.rangeSize 0 (k : Int) 1 = (k : Int) := by
      unfold Builtin.Range.rangeSize
      first | refine wp_if (by decide) ?_ | with_reducible refine rwE (if_pos (by decide)) ?_
      split
      · simp
      · walk_at "om"
    have hsm : Builtin.Range.small 0 (k : Int) 1 = true := by
      have fit : ∀ x : Int, 0 ≤ x → x < 9223372036854775807 → Builtin.Range.rangeFitsLong x = true := fun x h1 h2 => by
        unfold Builtin.Range.rangeFitsLong
        simp only [Bool.and_eq_true, decide_eq_true_eq]
        constructor <;> walk_at "om"
      unfold Builtin.Range.small
      (with_reducible refine rwE hn ?_; with_reducible refine rwE (fit 0 (by decide) (by decide)) ?_; with_reducible refine rwE (fit k (by walk_at "om") (by walk_at "om")) ?_; with_reducible refine rwE (fit 1 (by decide) (by decide)) ?_; with_reducible refine rwE (if_pos (by decide)) ?_; with_reducible refine rwE (fit _ (by walk_at "om") (by walk_at "om")) ?_)
      simp
    refine wpAny_pyIter_range (t := t) (u := u) (v := v) hat hsm ?_
    with_reducible refine rwE hn ?_
    have HN := Here.frameNew H ok { cls := .type "range_iterator", data := .fields #[rawInt 0, rawInt (k : Int), rawInt 1] } rfl
    have W' := Walks.range (prog := W.prog) (w := W.w) (A := d.A.deeper (f.env d)) ok.hand s.heap.objs.size 0 1 k
    rw [show k = ((List.range k).map fun i => AV.int (Int.ofNat i)).length from by simp] at W'
    refine hQ _ s.heap.objs.size _ [] [s.heap.objs.size] _ _ S rfl le0 HN ⟨W', ?_, ?_, ?_, ?_⟩ ?_ fun G S'' M' l' h' _ _ z => by rw [List.append_nil]; exact z
    · intro b hb
      exact .inl (List.mem_singleton.mp hb)
    · rintro i v hi ⟨t, rfl⟩
      have hi' : i < k := by simpa using hi
      refine ⟨.int (Int.ofNat i), by simp [hi'], ?_⟩
      have e : (0 : Int) + (i : Int) * 1 = Int.ofNat i := by simp
      with_reducible refine rwE e ?_
      exact .int _ _
    · intro i h st
      exact ⟨_, _, st, rfl, by decide⟩
    · exact fun q hq => H.fmNe (Nat.le_refl _) q hq
    · refine (?_ : IsRangeIter _ _ _ _ _)
      simpa using Heap.get?_push_size _ rfl
end
end Mine
end
section
open PySem PySem.W PySem.Calls PyProof.Rows PySem.Spec PySem.SeqAt
namespace Mine

theorem clo_go {env : Env} (f : Str × NameKind → List (Str × Addr) → Sem (ForInStep (List (Str × Addr)))) (hf : ∀ p r, f p r = if (p.2 == .free) = true then (do let a ← cellOf env p.1; pure (.yield ((p.1, a) :: r))) else pure (.yield r)) :
    ∀ (names : List (Str × NameKind)) (acc : List (Str × Addr)), (∀ p ∈ names, p.2 = .free → ∃ c, env.cells.lookup p.1 = some c) → (∀ q ∈ acc, env.cells.lookup q.1 = some q.2) →
      ∃ cl, forIn names acc f = pure cl ∧ (∀ q ∈ cl, env.cells.lookup q.1 = some q.2 ∧ (q ∈ acc ∨ (q.1, NameKind.free) ∈ names)) ∧ (∀ q ∈ acc, q ∈ cl) ∧ ∀ x, (x, NameKind.free) ∈ names → ∃ c, (x, c) ∈ cl
  | [], acc, _, ha => ⟨acc, rfl, fun q hq => ⟨ha q hq, .inl hq⟩, fun _ h => h, fun _ h => nomatch h⟩
  | p :: r, acc, h, ha => by
    rw [List.forIn_cons, hf]
    cases q : p.2 == NameKind.free with
    | false =>
      (with_reducible refine rwE (if_neg (by decide)) ?_; rewrite [pure_bind])
      refine byG fun G_ bk_ => ?_; obtain ⟨cl, h1, h2, h3, h4⟩ := clo_go f hf r acc (fun p hp => h p (.tail _ hp)) ha; refine bk_ ?_; clear bk_
      refine ⟨cl, h1, fun q hq => ⟨(h2 q hq).1, (h2 q hq).2.imp id (.tail _)⟩, h3, fun x hx => ?_⟩
      rcases List.mem_cons.mp hx with e | hx
      · rw [← e] at q; injection q
      · exact h4 x hx
    | true =>
      with_reducible refine rwE (if_pos rfl) ?_
      have hp : p.2 = .free := by simpa using q
      obtain ⟨c, hc⟩ := h p (.head _) hp
      have e : cellOf env p.1 = pure c := by unfold cellOf; (with_reducible refine rwE hc ?_; with_reducible rfl)
      (with_reducible refine rwE e ?_; rewrite [pure_bind, pure_bind])
      obtain ⟨cl, h1, h2, h3, h4⟩ := clo_go f hf r ((p.1, c) :: acc) (fun p hp => h p (.tail _ hp)) (fun q hq => by
        rcases List.mem_cons.mp hq with rfl | hq
        · exact hc
        · exact ha q hq)
      refine ⟨cl, h1, fun q hq => ⟨(h2 q hq).1, ?_⟩, fun q hq => h3 q (.tail _ hq), fun x hx => ?_⟩
      · rcases (h2 q hq).2 with z | z
        · rcases List.mem_cons.mp z with rfl | z
          · exact .inr (by rw [← hp]; exact .head _)
          · exact .inl z
        · exact .inr (.tail _ z)
      · rcases List.mem_cons.mp hx with e | hx
        · exact ⟨c, h3 _ (by rw [← e]; exact .head _)⟩
        · exact h4 x hx
theorem closure_of {scope : Scope} {env : Env} (h : ∀ p ∈ scope.names, p.2 = .free → ∃ c, env.cells.lookup p.1 = some c) :
    ∃ cl, closureFor scope env = pure cl ∧ (∀ x c, cl.lookup x = some c → env.cells.lookup x = some c ∧ (x, NameKind.free) ∈ scope.names) ∧ ∀ x, (x, NameKind.free) ∈ scope.names → (cl.lookup x).isSome = true := by
  refine byG fun G_ bk_ => ?_; obtain ⟨cl, h1, h2, _, h4⟩ := clo_go (env := env) (fun p r => if (p.2 == .free) = true then (do let a ← cellOf env p.1; pure (.yield ((p.1, a) :: r))) else pure (.yield r)) (fun _ _ => rfl) scope.names [] h (fun _ h => nomatch h); refine bk_ ?_; clear bk_
  refine ⟨cl, ?_, fun x c e => ?_, fun x hx => ?_⟩
  · unfold closureFor
    refine Eq.trans ?_ h1
    refine Eq.trans (bind_pure _) ?_
    congr 1
  · obtain ⟨a, b⟩ := h2 _ (lookup_mem e)
    exact ⟨a, b.elim (fun h => nomatch h) id⟩
  · obtain ⟨c, hc⟩ := h4 x hx
    exact mem_lookup hc

theorem lookup_relabel {env : Env} {names : List (Str × NameKind)} {x : Str} : (names.map fun (n, k) => if (k == NameKind.free && env.scope.kind == .function && env.kindOf n == some .cell) then (n, NameKind.cell) else (n, k)).lookup x =
    (names.lookup x).map fun k => if (k == NameKind.free && env.scope.kind == .function && env.kindOf x == some .cell) then NameKind.cell else k := by
  induction names with
  | nil => rfl
  | cons p r ih =>
    obtain ⟨n, k⟩ := p
    (with_reducible refine rwE List.map_cons ?_; with_reducible refine rwE List.lookup_cons ?_)
    have : ∀ (b : Bool), (if b = true then (n, NameKind.cell) else (n, k)) = (n, if b = true then NameKind.cell else k) := fun b => by cases b <;> rfl
    dsimp only
    (rewrite [this]; with_reducible refine rwE List.lookup_cons ?_)
    cases q : x == n with
    | true =>
      obtain rfl : x = n := by simpa using q
      rfl
    | false => exact ih

/-- the scope of a comprehension, as it is read -/
noncomputable def Fx.comp (f : Fx) (scope : Scope) : Fx := { f with co := some { scope with names := scope.names.map fun (n, k) => if (k == NameKind.free && f.sc.kind == .function && f.sc.names.lookup n == some .cell) then (n, NameKind.cell) else (n, k) } }
noncomputable def Loc.caps (loc : Loc) (names : List (Str × NameKind)) : Loc := fun y => match names.lookup y with
  | some .free => loc y
  | _ => none
noncomputable def scopeFit (f : Fx) (scope : Scope) (x : Str) : Bool :=
  f.co.isNone && scope.kind == .function && (scope.names.all fun p => (p.2 != .cell) && (p.2 != .free || (scope.names.lookup p.1 == some .free && f.sc.names.lookup p.1 == some .cell)) && (p.2 != .local || scope.names.lookup p.1 == some .local)) && scope.names.lookup x == some .local

section
variable {W : Wd} {f : Fx} {n : Nat}
/-- what a block of a comprehension is at -/
structure FitS (f : Fx) (scope : Scope) (x : Str) : Prop where
  co : f.co = none
  kind : scope.kind = .function
  cell : ∀ p ∈ scope.names, p.2 ≠ .cell
  free : ∀ p ∈ scope.names, p.2 = .free → scope.names.lookup p.1 = some .free ∧ f.sc.names.lookup p.1 = some .cell
  loc : ∀ p ∈ scope.names, p.2 = .local → scope.names.lookup p.1 = some .local
  x : scope.names.lookup x = some .local
theorem FitS.of {scope : Scope} {x : Str} (h : scopeFit f scope x = true) : FitS f scope x := by
  unfold scopeFit at h
  simp only [Bool.and_eq_true, List.all_eq_true, Bool.or_eq_true, bne_iff_ne, beq_iff_eq, Option.isNone_iff_eq_none] at h
  obtain ⟨⟨⟨h1, h2⟩, h3⟩, h4⟩ := h
  exact ⟨h1, h2, fun p hp => (h3 p hp).1.1, fun p hp e => ((h3 p hp).1.2.resolve_left (fun n => n e)), fun p hp e => ((h3 p hp).2.resolve_left (fun n => n e)), h4⟩

theorem comp_mode {d : Cy} {scope : Scope} {x : Str} {C : Addr} {oC : Obj} {m₂ m₀ : Str → Option Value} {cl : List (Str × Addr)} (ok : Ok W f n d) (fit : FitS f scope x)
    (h2 : ∀ x c, cl.lookup x = some c → d.cl.lookup x = some c ∧ (x, NameKind.free) ∈ scope.names) (h3 : ∀ x, (x, NameKind.free) ∈ scope.names → (cl.lookup x).isSome = true)
    (hC : (C, oC) ∈ d.Fm) (hn : LCg.NsObj oC m₂) : Ok W (f.comp scope) n { d with co := some ⟨C, oC, m₂, cl, m₀⟩ } := by
  refine ⟨ok.kind, ok.kin, ok.top, ok.room, ok.units, ok.hand, ok.mods, ok.cells, ⟨fit.kind, fun y => ⟨fun e => ?_, fun e => ?_⟩, hC, hn⟩⟩
  · cases q : cl.lookup y with
    | none => rfl
    | some c =>
      have := fit.free _ (h2 y c q).2 rfl
      have e' := (lookup_relabel (env := envX f.nm f.sc 0 0 .none []) (names := scope.names) (x := y)).symm.trans e
      rw [this.1] at e'
      simp only [Option.map_some, Option.some.injEq] at e'
      split at e' <;> injection e'
  · have e' := (lookup_relabel (env := envX f.nm f.sc 0 0 .none []) (names := scope.names) (x := y)).symm.trans e
    cases q : scope.names.lookup y with
    | none => rw [q] at e'; injection e'
    | some k =>
      rw [q] at e'
      simp only [Option.map_some, Option.some.injEq] at e'
      have hm := lookup_mem q
      cases k with
      | free => exact h3 y hm
      | cell => exact absurd rfl (fit.cell _ hm)
      | _ => split at e' <;> first | exact absurd e' (by decide) | (rename_i hh; simp at hh)
theorem comp_here {d : Cy} {scope : Scope} {C : Addr} {oC : Obj} {m₂ m₀ : Str → Option Value} {cl : List (Str × Addr)} (hf : f.co = none) (hd : d.co = none) : (f.comp scope).here { d with co := some ⟨C, oC, m₂, cl, m₀⟩ } = compEnvC scope cl C (f.here d) := by
  unfold Fx.here
  with_reducible refine rwE hf ?_
  rfl
theorem comp_loc {d : Cy} {S : Tab} {scope : Scope} {x : Str} {C : Addr} {oC : Obj} {m m₂ : Str → Option Value} {cl : List (Str × Addr)} {loc : Loc} {v : Value} {a : AV} (hd : d.co = none) (fit : FitS f scope x)
    (h2 : ∀ x c, cl.lookup x = some c → d.cl.lookup x = some c ∧ (x, NameKind.free) ∈ scope.names) (h3 : ∀ x, (x, NameKind.free) ∈ scope.names → (cl.lookup x).isSome = true)
    (LC : LocOk W S d m loc) (hv : m₂ x = some v) (r : VR W S v a) : LocOk W S { d with co := some ⟨C, oC, m₂, cl, m⟩ } m ((loc.caps scope.names).set x a) := by
  refine ⟨fun c e => ?_, fun y b e => ?_⟩
  · (injection e with e0; (first | subst e0 | cases e0)); rfl
  · unfold Loc.set at e
    by_cases q : y = x
    · rw [if_pos q] at e
      (injection e with e0; (first | subst e0 | cases e0))
      subst q
      refine ⟨v, .inl ⟨?_, hv⟩, r⟩
      cases z : cl.lookup y with
      | none => exact z
      | some c =>
        have := fit.free _ (h2 y c z).2 rfl
        rw [fit.x] at this
        cases this.1
    · rw [if_neg q] at e
      unfold Loc.caps at e
      split at e
      · rename_i hfree
        obtain ⟨u, h4, h5⟩ := LC.2 y b e
        obtain ⟨c, hc⟩ := Option.isSome_iff_exists.mp (h3 y (lookup_mem hfree))
        have hc' := (h2 y c hc).1
        have hcl : d.cells = d.cl := by unfold Cy.cells; (with_reducible refine rwE hd ?_; with_reducible rfl)
        rcases h4 with ⟨h4, _⟩ | ⟨c', o, h4, h6, h7⟩
        · rw [hcl, hc'] at h4; injection h4
        · rw [hcl, hc'] at h4; (injection h4 with e0; (first | subst e0 | cases e0))
          exact ⟨u, .inr ⟨c, o, hc, h6, h7⟩, h5⟩
      · injection e
end
end Mine
end
section
open PySem PySem.W PySem.Calls PyProof.Rows PySem.Spec PySem.SeqAt
namespace Mine

section
variable {W : Wd} {f : Fx} {n : Nat}
/-- the block of a list comprehension -/
inductive CompI (W : Wd) (d : Cy) (s : Shared) (S : Tab) (C D I : Addr) (F : Led) (loc : Loc) (St : Nat → Heap → Prop) (Inv : Nat → List AV → Mem → Prop) (len k : Nat) (s' : Shared) : Prop
  | mk (i : Nat) (S' : Tab) (oI oC : Obj) (m' : Str → Option Value) (us : List Value) (ys : List AV) (M' : Mem) (e : Same s s') (kk : TabLe S S') (H : Here W (d.with ((C, oC) :: (D, listOf us.toArray us.length) :: (I, oI) :: F)) S' M' loc s'.heap) (st : St i s'.heap) (hn : LCg.NsObj oC m') (ru : VRs W S' us ys) (hy : ys.length = i) (inv : Inv i ys M') (hi : i ≤ len) (hk : k = len + 1 - i) : CompI W d s S C D I F loc St Inv len k s'
theorem comp_block {d : Cy} {S : Tab} {s : Shared} {v : Value} {a : AV} {as : List AV} {M₀ M₁ M₂ : Mem} {loc : Loc} {Inv : Nat → List AV → Mem → Prop} {elt iter : Expr} {x : Str} {px pos : Pos} {scope : Scope} {cl : List (Str × Addr)}
    {E : Value → Shared → Prop} {RR : Value → Addr → Result → Shared → Prop} (ok : Ok W f n d) (H : Here W d S M₀ loc s.heap) (r : VR W S v a) (fit : FitS f scope x) (hclo : closureFor scope (f.here d) = pure cl)
    (h2 : ∀ x c, cl.lookup x = some c → d.cl.lookup x = some c ∧ (x, NameKind.free) ∈ scope.names) (h3 : ∀ x, (x, NameKind.free) ∈ scope.names → (cl.lookup x).isSome = true)
    (hi : IterOk W f n a as M₀ M₁ M₂) (hsz : as.length ≤ sizeLine) (h0 : Inv 0 [] M₁)
    (turn : ∀ i a ys M, as[i]? = some a → Inv i ys M → Ev W (f.comp scope) n elt M ((loc.caps scope.names).set x a) (fun y M' _ => Inv (i + 1) (ys ++ [y]) M') (fun _ _ => False))
    (hRR : ∀ D C oC m' s' S' ys M', Same s s' → TabLe S S' → ys.length = as.length → Inv as.length ys M' → s'.heap.get? C = some oC → LCg.NsObj oC m' → (∀ q ∈ d.Fm, q.1 ≠ C) → Here W (d.with [(C, oC)]) S' (((D, .list ys) :: M') ++ M₂) loc s'.heap → RR (.ref D) C (.ok .next) s') :
    wpAny (model W.prog W.w) (d.A.deeper (f.env d)) (pyIter v) (fun it s₂ => wpAny (model W.prog W.w) (d.A.deeper (f.env d)) (newList []) (fun acc s₃ => wpAny (model W.prog W.w) (d.A.deeper (f.env d)) (newFunctionEnv scope (f.here d).globals cl [] (f.here d).qual none .none (some (f.here d))) (fun cenv s₄ =>
      codeAny (model W.prog W.w) (d.A.deeper (f.env d)) (.compStart (.ListComp elt [⟨.Name x px, iter, [], 0⟩] scope pos) 0 it acc { cenv with scope := relabel scope (f.here d) }) (RR acc cenv.locals) s₄) E s₃) E s₂) E s := by
  refine hi d S s loc v E _ ok H r fun s₂ I oI F fp P St S₂ e₂ k₂ H₂ it st back => ?_
  obtain ⟨hdco, _⟩ := ok.plain fit.co
  refine wpAny_newObj_type (wpAny_newFunctionEnv fit.cell (by intro y hy; simp at hy) (fun h₁ hns₁ hsb₁ => ?_) fit.kind)
  dsimp only at hns₁ hsb₁ ⊢
  have HD : Here W ((d.with ((I, oI) :: F)).with [(s₂.heap.objs.size, listOf [].toArray 0)]) S₂ M₁ loc (s₂.heap.push { cls := .type "list", dict := none, data := .seq ([] : List Value).toArray }) := H₂.frameNew ok.with _ rfl
  generalize hD : s₂.heap.objs.size = D at HD hns₁ hsb₁ ⊢
  generalize hH2 : s₂.heap.push { cls := .type "list", dict := none, data := .seq ([] : List Value).toArray } = H2 at hns₁ hsb₁ HD ⊢
  have szD : H2.objs.size = D + 1 := by (with_reducible refine rwE (Eq.symm hH2) ?_; rewrite [Heap.size_push]; with_reducible refine rwE hD ?_; with_reducible rfl)
  generalize hC : H2.objs.size = C at hns₁ hsb₁ szD ⊢
  refine byG fun G_ bk_ => ?_; obtain ⟨oC, hoC, hnC⟩ := LCg.ns_obj hns₁; refine bk_ ?_; clear bk_
  have old : ∀ b o, H2.get? b = some o → h₁.get? b = some o := fun b o e => hsb₁.extBut b o (Nat.ne_of_lt (hC ▸ Heap.lt_size e)) (Heap.get?_push_of_some _ e)
  have HC := HD.frameAt (a := C) (o := oC) old hoC (Nat.le_of_eq hC)
  have hDC : D ≠ C := by with_reducible refine rwE szD ?_; exact Nat.ne_of_lt (Nat.lt_succ_self _)
  have fIC : ∀ q ∈ (I, oI) :: (F ++ d.Fm), q.1 ≠ D ∧ q.1 ≠ C := fun q hq => by
    have h1 : q.1 ≠ D := H₂.fmNe (Nat.le_of_eq hD) q hq
    exact ⟨h1, HD.fmNe (Nat.le_of_eq hC) q (.tail _ hq)⟩
  have hFI : ∀ q ∈ F ++ d.Fm, q.1 ≠ I := it.apart
  have hID : I ≠ D := (fIC _ (.head _)).1
  have hIC : I ≠ C := (fIC _ (.head _)).2
  have fF : ∀ q ∈ F ++ d.Fm, q.1 ≠ D ∧ q.1 ≠ C := fun q hq => fIC q (.tail _ hq)
  have st₁ : St 0 h₁ := it.walks.frame _ _ _ st fun b hb o e => old b o (hH2 ▸ Heap.get?_push_of_some _ e)
  -- the parts in any order
  have ord : ∀ {oI oC oD S M h}, Here W (d.with ((C, oC) :: (D, oD) :: (I, oI) :: F)) S M loc h → Here W (d.with ((I, oI) :: (C, oC) :: (D, oD) :: F)) S M loc h := fun x => x.permF fun q hq => m_bca hq
  have ord' : ∀ {oI oC oD S M h}, Here W (d.with ((I, oI) :: (C, oC) :: (D, oD) :: F)) S M loc h → Here W (d.with ((C, oC) :: (D, oD) :: (I, oI) :: F)) S M loc h := fun x => x.permF fun q hq => m_cab hq
  have ord2 : ∀ {oI oC oD S M h}, Here W (d.with ((C, oC) :: (D, oD) :: (I, oI) :: F)) S M loc h → Here W (d.with ((D, oD) :: (C, oC) :: (I, oI) :: F)) S M loc h := fun x => x.permF fun q hq => m_bac hq
  have ord2' : ∀ {oI oC oD S M h}, Here W (d.with ((D, oD) :: (C, oC) :: (I, oI) :: F)) S M loc h → Here W (d.with ((C, oC) :: (D, oD) :: (I, oI) :: F)) S M loc h := fun x => x.permF fun q hq => m_bac hq
  have apI : ∀ {oC oD : Obj}, ∀ q ∈ ((C, oC) :: (D, oD) :: F) ++ d.Fm, q.1 ≠ I := fun q hq => by
    rcases List.mem_cons.mp hq with rfl | hq
    · exact Ne.symm hIC
    · rcases List.mem_cons.mp hq with rfl | hq
      · exact Ne.symm hID
      · exact hFI q hq
  have apC : ∀ {oI oD : Obj}, ∀ q ∈ ((D, oD) :: (I, oI) :: F) ++ d.Fm, q.1 ≠ C := fun q hq => by
    rcases List.mem_cons.mp hq with rfl | hq
    · exact hDC
    · rcases List.mem_cons.mp hq with rfl | hq
      · exact hIC
      · exact (fF q hq).2
  have apD : ∀ {oI oC : Obj}, ∀ q ∈ ((C, oC) :: (I, oI) :: F) ++ d.Fm, q.1 ≠ D := fun q hq => by
    rcases List.mem_cons.mp hq with rfl | hq
    · exact Ne.symm hDC
    · rcases List.mem_cons.mp hq with rfl | hq
      · exact hID
      · exact (fF q hq).1
  have keep : ∀ {S' : Tab} {o' oC oC' oD oD' : Obj} {M' : Mem} {l' : Loc} {h' h'' : Heap} {S'' : Tab} {M'' : Mem} {l'' : Loc}, TabLe S₂ S' → TabLe S' S'' → Here W (d.with ((C, oC) :: (D, oD) :: (I, o') :: F)) S' M' l' h' → Here W (d.with ((C, oC') :: (D, oD') :: (I, o') :: F)) S'' M'' l'' h'' → ∀ b ∈ fp, ∀ ob, h'.get? b = some ob → h''.get? b = some ob := by
    intro S' o' oC oC' oD oD' M' l' h' h'' S'' M'' l'' k k' H' H'' b hb ob hob
    have fm : ∀ (q : Addr × Obj), q ∈ (I, o') :: F → h'.get? q.1 = some q.2 ∧ h''.get? q.1 = some q.2 := fun q hq => ⟨H'.fmAt q (List.mem_append_left _ (.tail _ (.tail _ hq))), H''.fmAt q (List.mem_append_left _ (.tail _ (.tail _ hq)))⟩
    rcases it.fpIn b hb with rfl | ⟨ob', hm⟩ | ⟨ob', hm⟩
    · obtain ⟨z1, z2⟩ := fm (b, o') (.head _); rw [z1] at hob; (injection hob with e0; (first | subst e0 | cases e0)); exact z2
    · obtain ⟨z1, z2⟩ := fm (b, ob') (.tail _ hm); rw [z1] at hob; (injection hob with e0; (first | subst e0 | cases e0)); exact z2
    · have z1 := H'.at ok.with (hm.imp (k _ _) id)
      have z2 := H''.at ok.with (hm.imp (fun z => k' _ _ (k _ _ z)) id)
      rw [z1] at hob; (injection hob with e0; (first | subst e0 | cases e0)); exact z2
  have loop : ∀ s₃ : Shared, s₃ = { s₂ with heap := h₁, toks := s₂.toks + ([] : List (Str × Value)).length } →
      codeAny (model W.prog W.w) (d.A.deeper (f.env d)) (.compLoop (.ListComp elt [⟨.Name x px, iter, [], 0⟩] scope pos) 0 (.ref I) (.ref D) (compEnvC scope cl C (f.here d))) (RR (.ref D) C) s₃ := by
    rintro s₃ rfl
    refine codeAny_compLoop_list (CompI W d s S₂ C D I F loc St Inv as.length) ?_ (as.length + 1)
      ⟨0, S₂, oI, oC, _, [], [], M₁, e₂.trans rfl, le0, HC, st₁, hnC, .nil, rfl, h0, Nat.zero_le _, rfl⟩
    rintro k s' ⟨i, S', oI', oC', m', us, ys, M', e', k', H', st', hn', ru, hyl, hinv, hi', rfl⟩
    by_cases hlt : i < as.length
    · refine it.walks.item i s' _ _ hlt st' fun v h'' tk hP st'' hk => ?_
      refine byG fun G_ bk_ => ?_; obtain ⟨a', ha', rv⟩ := it.item _ _ hlt hP
      have rv' := rv.mono k'
      obtain ⟨oI'', c, z1, z2, z3⟩ := it.here _ _ st''; refine bk_ ?_; clear bk_
      have H3 := ord' ((ord H').updF apI (fun b ob hne q => hk b ob (by simpa using hne) q) z1)
      have zC : h''.get? C = some oC' := H3.fmAt (C, oC') (List.mem_append_left _ (.head _))
      refine wpAny_assign_Name (wpAny_storeName_local (lookup_relabel_local fit.x) (hn'.ns zC) (fun h₃ hn₃ hs₃ => ?_) (by simp [compEnvC, relabel, fit.kind]))
      refine byG fun G_ bk_ => ?_; obtain ⟨oC₃, zC₃, hnC₃⟩ := LCg.ns_obj hn₃
      have H4 := H3.updF apC (fun b ob hne q => hs₃.extBut b ob hne q) zC₃
      have st₃ : St (i + 1) h₃ := it.walks.frame _ _ _ st'' (keep k' le0 H3 H4)
      obtain ⟨g, m, news, G, FF, N, LO, LC⟩ := id H4
      obtain ⟨hdw, _⟩ := ok.plain fit.co; refine bk_ ?_; clear bk_
      have okc := comp_mode (m₂ := fun y => if y = x then some v else m' y) (m₀ := m) (ok.with (F := (C, oC₃) :: (D, listOf us.toArray us.length) :: (I, oI'') :: F)) fit h2 h3 (List.mem_append_left _ (.head _)) hnC₃
      have Hc : Here W { d.with ((C, oC₃) :: (D, listOf us.toArray us.length) :: (I, oI'') :: F) with co := some ⟨C, oC₃, _, cl, m⟩ } S' M' ((loc.caps scope.names).set x a') h₃ :=
        ⟨g, m, news, ⟨G.below, G.turn, G.dicts⟩, FF, N, LO, comp_loc (m₂ := fun y => if y = x then some v else m' y) (d := d.with ((C, oC₃) :: (D, listOf us.toArray us.length) :: (I, oI'') :: F)) hdco fit h2 h3 LC (if_pos rfl) rv'⟩
      have key := turn i a' ys M' ha' hinv _ S' { s' with heap := h₃, toks := tk + 1 } okc Hc
      rw [show (f.comp scope).here { d.with ((C, oC₃) :: (D, listOf us.toArray us.length) :: (I, oI'') :: F) with co := some ⟨C, oC₃, fun y => if y = x then some v else m' y, cl, m⟩ } = compEnvC scope cl C (f.here d) from
        comp_here (d := d.with ((C, oC₃) :: (D, listOf us.toArray us.length) :: (I, oI'') :: F)) fit.co hdco] at key
      refine wpAny_mono key (fun y s₄ ⟨e₄, S₄, M₄, l₄, y', k₄, H₄, r₄, q₄⟩ => ?_) (fun _ _ z => (ep_false z).elim)
      have H5 : Here W (d.with ((C, oC₃) :: (D, listOf us.toArray us.length) :: (I, oI'') :: F)) S₄ M₄ loc s₄.heap := by
        refine byG fun G_ bk_ => ?_; obtain ⟨g', m', news', G', FF', N', LO', LC'⟩ := H₄; refine bk_ ?_; clear bk_
        obtain rfl : m' = m := LC'.1 _ rfl
        exact ⟨g', m', news', ⟨G'.below, G'.turn, G'.dicts⟩, FF', N', LO', LC.mono k₄⟩
      have zD : s₄.heap.get? D = some (listOf us.toArray us.length) := H5.fmAt (D, _) (List.mem_append_left _ (.tail _ (.head _)))
      have ul : us.length = i := by (with_reducible refine rwE (VRs.len ru) ?_; with_reducible refine rwE hyl ?_; with_reducible rfl)
      refine append_at (hsz := by (with_reducible refine rwE List.size_toArray ?_; with_reducible refine rwE ul ?_); exact Nat.le_trans hi' hsz) zD fun h₅ hs₅ hD₅ => ?_
      have eq5 : listOf (us.toArray.push y) (us.length + 1) = listOf (us ++ [y]).toArray (us ++ [y]).length := by
        (with_reducible refine rwE List.length_append ?_; with_reducible refine rwE List.length_singleton ?_; rewrite [List.push_toArray]; with_reducible rfl)
      have H6 := ord2' ((ord2 H5).updF apD (fun b ob hne q => hs₅.extBut b ob hne q) (o' := listOf (us ++ [y]).toArray (us ++ [y]).length) (by with_reducible refine rwE (Eq.symm eq5) ?_; exact hD₅))
      have st₄ : St (i + 1) s₄.heap := it.walks.frame _ _ _ st₃ (keep k' k₄ H4 H5)
      have k6 : TabLe S₂ S₄ := fun a o x => k₄ a o (k' a o x)
      exact ⟨as.length + 1 - (i + 1), ar_less hlt, i + 1, S₄, oI'', oC₃, _, us ++ [y], ys ++ [y'], M₄, ((e'.trans rfl).trans e₄).trans rfl, k6, H6, it.walks.frame _ _ _ st₄ (keep k6 le0 H5 H6), hnC₃, vrs_app (ru.mono k₄) (.cons _ _ _ _ r₄ .nil), by (with_reducible refine rwE List.length_append ?_; with_reducible refine rwE hyl ?_); rfl, q₄, hlt, rfl⟩
    · obtain rfl : i = as.length := by first | exact ar_end hlt (by assumption) | walk_at "om"
      refine it.walks.done s' _ _ st' fun h'' tk hk => ?_
      have H3 : Here W (d.with ((C, oC') :: (D, listOf us.toArray us.length) :: F)) S' M' loc h'' := (ord H').dropF apI fun b ob hne q => hk b ob (by simpa using hne) q
      have H4 : Here W (d.with ((D, listOf us.toArray us.length) :: (F ++ [(C, oC')]))) S' M' loc h'' := H3.permF fun q hq => (List.mem_cons.mp hq).elim (fun e => .tail _ (e ▸ .head _)) fun h => (List.mem_append.mp h).elim (fun h => .tail _ (.tail _ h)) fun h => (List.mem_singleton.mp h) ▸ .head _
      have H5 := H4.claim (.list _ us ys ⟨_, rfl⟩ ru) fun q hq => by
        simp at hq
        rcases hq with hq | rfl | hq
        · exact (fF q (List.mem_append_left _ hq)).1
        · exact Ne.symm hDC
        · exact (fF q (List.mem_append_right _ hq)).1
      have H6 := back [(C, oC')] S' _ _ _ (fun q hq p hp e => by
        rw [List.mem_singleton.mp hq] at e
        exact (fF p (List.mem_append_left _ hp)).2 e.symm) k' H5
      exact hRR D C oC' m' _ S' ys M' ((e'.trans rfl)) (fun a o x => k' a o (k₂ a o x)) hyl hinv (H6.fmAt (C, oC') (.head _)) hn' (fun q hq => (fF q (List.mem_append_right _ hq)).2) H6
  exact codeAny_compStart_list (loop _ rfl) (it.walks.self 0 _ _ _ st₁ (loop _ rfl))

theorem closure_here {d : Cy} {scope : Scope} {x : Str} (ok : Ok W f n d) (fit : FitS f scope x) : ∃ cl, closureFor scope (f.here d) = pure cl ∧ (∀ x c, cl.lookup x = some c → d.cl.lookup x = some c ∧ (x, NameKind.free) ∈ scope.names) ∧ ∀ x, (x, NameKind.free) ∈ scope.names → (cl.lookup x).isSome = true := by
  obtain ⟨_, he⟩ := ok.plain fit.co
  with_reducible refine rwE he ?_
  exact closure_of fun p hp e => Option.isSome_iff_exists.mp ((ok.cells p.1).2 (fit.free p hp e).2)

section
variable {M : Mem} {loc : Loc} {EQ : Mem → Loc → Prop}
inductive CompH (W : Wd) (f : Fx) (n : Nat) (elt : Expr) (x : Str) (scope : Scope) (Q : AV → Mem → Loc → Prop) (a : AV) (M₀ : Mem) (l₀ : Loc) : Prop
  | mk (as : List AV) (M₁ M₂ : Mem) (Inv : Nat → List AV → Mem → Prop) (hi : IterOk W f n a as M₀ M₁ M₂) (hsz : as.length ≤ sizeLine) (h0 : Inv 0 [] M₁)
      (turn : ∀ i a ys M, as[i]? = some a → Inv i ys M → Ev W (f.comp scope) n elt M ((l₀.caps scope.names).set x a) (fun y M' _ => Inv (i + 1) (ys ++ [y]) M') (fun _ _ => False))
      (done : ∀ ys M, ys.length = as.length → Inv as.length ys M → ∀ D, Q (.obj D) (((D, .list ys) :: M) ++ M₂) l₀) : CompH W f n elt x scope Q a M₀ l₀
theorem ev_ListComp {elt x px iter scope pos} {Q : AV → Mem → Loc → Prop} (h : Ev W f n iter M loc (CompH W f n elt x scope Q) EQ) (fit : scopeFit f scope x = true) (hs : ∀ env x, foldedSetIterable iter env x = pure x) :
    Ev W f n (.ListComp elt [⟨.Name x px, iter, [], 0⟩] scope pos) M loc Q EQ := by
  intro d S s ok H
  have fit := FitS.of fit
  obtain ⟨cl, hclo, h2, h3⟩ := closure_here ok fit
  refine wpAny_comprehension_free (use := none) rfl (hs _) hclo fit.kind fit.loc ?_
  refine Run.then le0 rfl (h d S s ok H) fun v s₁ S₁ M₀ l₀ a e₁ k₁ _ H₁ r₁ q₁ => ?_
  obtain ⟨as, M₁, M₂, Inv, hi, hsz, h0, turn, done⟩ := q₁
  refine comp_block (RR := fun acc C => compPost (model W.prog W.w) _ _ none _ acc C) ok H₁ r₁ fit hclo h2 h3 hi hsz h0 turn ?_
  intro D C oC m' s' S' ys M' e k hl hinv hC hn hF H'
  refine ⟨m', hn.ns hC, fun h'' hs'' => ?_⟩
  have H'' : Here W (d.with []) S' _ l₀ h'' := H'.dropF (F := []) hF fun b ob hne q => hs''.extBut b ob hne q
  exact Run.end ((e₁.trans e).trans rfl) (fun a o x => k a o (k₁ a o x)) H'' (.obj D) (done ys M' hl hinv D)
theorem sx_AssignComp {y py elt x px iter scope pos spos} {Q : AFl → Mem → Loc → Prop} (h : Ev W f n iter M loc (CompH W f n elt x scope (KAsg y Q)) EQ) (fit : scopeFit f scope x = true) (hs : ∀ env x, foldedSetIterable iter env x = pure x)
    (hy : f.co = none ∧ f.sc.names.lookup y = some .local) (hsw : ∀ d, swapsWith (.ListComp elt [⟨.Name x px, iter, [], 0⟩] scope pos) (some (.Name y py)) spos.line (f.env d) = pure true) :
    Sx W f n (.Assign [.Name y py] (.ListComp elt [⟨.Name x px, iter, [], 0⟩] scope pos) spos) M loc Q EQ := by
  intro d S s ok H
  have fit := FitS.of fit
  obtain ⟨cl, hclo, h2, h3⟩ := closure_here ok fit
  obtain ⟨_, he⟩ := ok.plain hy.1
  rw [exec_Assign_Name_used _ _ _ _ (by with_reducible refine rwE he ?_; exact hsw d)]
  refine wpAny_bind (wpAny_standAt (wpAny_bind ?_))
  refine (?_ : wpAny _ _ (do let _ ← comprehension (.ListComp elt [⟨.Name x px, iter, [], 0⟩] scope pos) scope (f.here d) _ (newList []) false (eval iter (f.here d)) (some (assign (.Name y py) (f.here d)))) _ _ s)
  refine wpAny_bind (wpAny_mono (wpAny_comprehension_free (use := some (assign (.Name y py) (f.here d))) (Q := fun _ s' => QP W d (FlR W) S s Q .next s') rfl (hs _) hclo fit.kind fit.loc
    (Run.then le0 rfl (h d S s ok H) fun v s₁ S₁ M₀ l₀ a e₁ k₁ _ H₁ r₁ q₁ => ?_)) (fun _ s' hq => wpAny_pure (wpAny_pure hq)) fun _ _ e => e)
  obtain ⟨as, M₁, M₂, Inv, hi, hsz, h0, turn, done⟩ := q₁
  refine comp_block (RR := fun acc C => compPost (model W.prog W.w) _ _ (some (assign (.Name y py) (f.here d))) _ acc C) ok H₁ r₁ fit hclo h2 h3 hi hsz h0 turn ?_
  intro D C oC m' s' S' ys M' e k hl hinv hC hn hF H'
  refine assign_Name (wpAny_mono (run_store (n := n) (EQ := fun _ _ => False) (d := d.with [(C, oC)]) (Q := fun _ M'' l'' => M'' = ((D, .list ys) :: M') ++ M₂ ∧ l'' = l₀.set y (.obj D)) le0 rfl ok.with H' (.obj D) hy ⟨rfl, rfl⟩) (fun _ s₂ ⟨e₂, S₂, M₃, l₂, _, k₂, H₂, _, q₂⟩ => ?_) fun _ _ z => (ep_false z).elim)
  obtain ⟨rfl, rfl⟩ := q₂
  refine ⟨m', hn.ns (H₂.fmAt (C, oC) (.head _)), fun h'' hs'' => ?_⟩
  have H'' : Here W (d.with []) S₂ _ _ h'' := H₂.dropF (F := []) hF fun b ob hne q => hs''.extBut b ob hne q
  exact Run.end (((e₁.trans e).trans e₂).trans rfl) (fun a o x => k₂ a o (k a o (k₁ a o x))) H'' .next (done ys M' hl hinv D)
end
end
end Mine
end
section
open PySem PySem.W PySem.Calls PyProof.Rows PySem.Spec PySem.SeqAt
namespace Mine

section
variable {M : Model} {A : Around} {E : Value → Shared → Prop} {s : Shared}
/-- an exception whose flight is set to a frame -/
theorem setFlight_holds {base : Heap} {l : List Env} {e L : Addr} {cls a0 : Value} {Q : Unit → Shared → Prop} (R : Heap.HeldW base l e cls a0 L s.heap)
    (h : ∀ h', Heap.HeldW base l e cls a0 L h' → s.heap.UpToSlots h' → Q () { s with heap := h' }) : wpAny M A (setFlight (.ref e) (some L)) Q E s := by
  refine byG fun G_ bk_ => ?_
  obtain ⟨hkb, hen, hl, oe, vs, T, oT, ts, he, hcls, hd, h1, hnT, hTe, hT, hdT, h3⟩ := R
  refine bk_ ?_
  clear bk_
  have hsz3 : 3 < ts.size := (Array.getElem?_eq_some_iff.mp h3).1
  have other : ∀ b, b ≠ T → (s.heap.update T (Obj.mapFields (·.setIfInBounds 3 ((some L).elim Value.none fun f => rawInt f)))).get? b = s.heap.get? b :=
    fun b hb => Heap.get?_update_other _ _ (Ne.symm hb)
  have noRecord : ∀ b o, s.heap.get? b = some o → (∀ vs, o.data ≠ .fields vs) → b ≠ T := fun b o hb hnf q => by
    rw [q, hT] at hb; injection hb with hb; subst hb; exact hnf ts hdT
  refine wpAny_bind (wpAny_field he hd h1 ?_)
  refine wpAny_setField hT hdT hsz3 (h _ ⟨fun b o hbo => (other b fun q => by rw [q, hnT] at hbo; injection hbo).trans (hkb b o hbo), hen,
    hl.of_keeps fun b o hb hnf => ⟨o, (other b (noRecord b o hb hnf)).trans hb, rfl⟩, ?_⟩ fun b o hb hnf => ⟨o.slots, (other b (noRecord b o hb hnf)).trans hb⟩)
  exact ⟨oe, vs, T, _, _, (other e (Ne.symm hTe)).trans he, hcls, hd, h1, hnT, hTe, Heap.get?_update_self _ hT (Obj.isFreed_of_fields (Obj.data_mapFields hdT _)), Obj.data_mapFields hdT _, by simp [hsz3]⟩
theorem cameBack_holds {base : Heap} {l : List Env} {e L : Addr} {cls a0 : Value} {env : Env} (hf : env.frame = some L) (R : Heap.HeldW base l e cls a0 L s.heap)
    (h : ∀ h', Heap.HeldW base l e cls a0 L h' → s.heap.UpToSlots h' → E (.ref e) { s with heap := h' }) : cameBackBy M A env E (.ref e) s := by
  refine byG fun G_ bk_ => ?_
  obtain ⟨_, _, _, oe, vs, T, _, _, he, _, hd, h1, _⟩ := id R
  refine bk_ ?_
  clear bk_
  unfold cameBackBy
  rw [hf]
  refine wpAny_bind (wpAny_field he hd h1 ?_)
  first
    | exact wpAny_bind (wpAny_pure (setFlight_holds R h))
    | exact setFlight_holds R h
end

section
variable {W : Wd} {f : Fx} {n : Nat}
/-- an exception that is held at its own frame -/
inductive ExcH (W : Wd) (f : Fx) (d : Cy) (S : Tab) (EQ : Mem → Loc → Prop) (e : Value) (s' : Shared) : Prop
  | mk (ea t : Addr) (vs : List Value) (g : Heap) (m : Str → Option Value) (news : Led) (S' : Tab) (M' : Mem) (loc' : Loc) (G' : Heap) (he : e = .ref ea) (k : TabLe S S') (G : Ground d g) (LO : LedOk W news d.Fm S' M') (LC : LocOk W S' d m loc') (q : EQ M' loc') (F : Fr g d.L G' m) (R : RaisedH d.base G' (f.env d :: d.outer) d.L ea (.ref W.X) t vs news s'.heap) (u : G'.UpToSlots s'.heap) : ExcH W f d S EQ e s'
theorem ExcH.exc {d : Cy} {S : Tab} {EQ : Mem → Loc → Prop} {e : Value} {s' : Shared} (z : ExcH W f d S EQ e s') : Exc W f d S EQ e s' := by
  obtain ⟨ea, t, vs, g, m, news, S', M', loc', G', h1, h2, h3, h4, h5, h6, h7, h8, h9⟩ := z
  exact ⟨ea, t, vs, g, m, news, S', M', loc', h1, h2, h3, h4, h5, h6, .held G' h7 h8 h9⟩
/-- an exception noted at its own frame -/
theorem exc_noted {d : Cy} {S : Tab} {EQ : Mem → Loc → Prop} {e : Value} {s' : Shared} {E : Value → Shared → Prop} {Q : Unit → Shared → Prop} (ok : Ok W f n d) (hco : f.co = none) (z : Exc W f d S EQ e s')
    (hQ : ∀ s₂, Same s' s₂ → ExcH W f d S EQ e s₂ → Q () s₂) :
    wpAny (model W.prog W.w) (d.A.deeper (f.env d)) (noteFrame e (f.here d)) Q E s' := by
  obtain ⟨_, he⟩ := ok.plain hco
  rw [he]
  refine byG fun G_ bk_ => ?_; obtain ⟨ea, t, vs, g, m, news, S', M', loc', rfl, k, G, LO, LC, q, st⟩ := z; refine bk_ ?_; clear bk_
  have hfr : (d.A.deeper (f.env d)).frames = some (f.env d :: d.outer) := Around.frames_deeper G.below.stack
  cases st with
  | fresh h x F N =>
    refine byG fun G_ bk_ => ?_
    obtain ⟨hkp, hen, ⟨oe, fs, hoe, hcls, hd, h0, h1⟩, htn, htup⟩ := x
    refine bk_ ?_
    clear bk_
    have K' := pushX G.below F (env := f.env d) rfl ok.kind
    have hin : ∀ x ∈ (f.env d :: d.outer), ∀ b, x.frame = some b → b ∈ (f.env d :: d.outer).filterMap (·.frame) := fun x hx b hb => List.mem_filterMap.mpr ⟨x, hx, hb⟩
    have st : d.base.StaysIn (hideAll h ((f.env d :: d.outer).filterMap (·.frame))) := fun b o q => hideAll_get _ (K'.stays b o q) fun hm => by
      rw [(K'.frames.mem hm).1] at q; injection q
    have hl : ∀ q ∈ news, (hideAll h ((f.env d :: d.outer).filterMap (·.frame))).get? q.1 = some q.2 ∧ (hideAll h (news.map (·.1))).get? q.1 = none ∧ d.base.get? q.1 = none := fun q hq => by
      refine ⟨hideAll_get _ (N q hq).1 fun hm => ?_, hideAll_none _ (List.mem_map_of_mem hq), fresh_of_stays G.below.stays (N q hq).2.2⟩
      rcases memX (env := f.env d) rfl hm with z | z
      · exact (N q hq).2.1 z
      · refine byG fun G_ bk_ => ?_; obtain ⟨o, ho, _⟩ := (G.below.frames.mem z).2; refine bk_ ?_; clear bk_
        rw [(N q hq).2.2] at ho; injection ho
    have BH : (hideAll h ((f.env d :: d.outer).filterMap (·.frame))).StaysIn s'.heap := fun b o q => hkp b o (of_hideAll _ q)
    have nb : ∀ b, h.get? b = none → (hideAll h ((f.env d :: d.outer).filterMap (·.frame))).get? b = none := fun b hb => by
      cases q : (hideAll h ((f.env d :: d.outer).filterMap (·.frame))).get? b with
      | none => rfl
      | some o => have := of_hideAll _ q; rw [hb] at this; injection this
    have FF : s'.heap.FunFrames (hideAll h ((f.env d :: d.outer).filterMap (·.frame))) (f.env d :: d.outer) :=
      (funFrames_hide K'.frames hin).of_keeps fun b o hb _ => ⟨o, hkp b o hb, rfl⟩
    refine byG fun G_ bk_ => ?_; obtain ⟨FG, _, _, _⟩ := groundX (s := { s' with heap := h }) (A := d.A.deeper (f.env d)) (env := f.env d) (R := fun _ _ => True) G.below F N hfr rfl ok.kind; refine bk_ ?_; clear bk_
    unfold noteFrame
    refine wpAny_bind (wpAny_field hoe hd h1 ?_)
    refine wpAny_entryW (a0 := .ref t) hfr FF rfl hoe BH (nb ea hen) hd (Array.getElem?_eq_some_iff.mp h1).1 h0 fun h' hN => ?_
    refine byG fun G_ bk_ => ?_; obtain ⟨k1, k2, k3, k4⟩ := hN; refine bk_ ?_; clear bk_
    rw [hcls] at k3
    have hs : s'.heap.UpToSlots h' := k4
    have HW : Heap.HeldW (hideAll h ((f.env d :: d.outer).filterMap (·.frame))) (f.env d :: d.outer) ea (.ref W.X) (.ref t) d.L h' := ⟨k1, nb ea hen, k2, k3⟩
    refine hQ _ rfl ⟨ea, t, vs, g, m, news, S', M', loc', _, rfl, k, G, LO, LC, q, FG, ⟨⟨_, st, fun b o q nm => hideAll_get _ (of_hideAll _ q) nm, hl, HW, nb t htn⟩, htup.of_slots hs⟩, ?_⟩
    exact ((Heap.UpToSlots.of_keeps fun b o q => of_hideAll _ q).trans (Heap.UpToSlots.of_keeps hkp)).trans hs
  | fly G' F R u =>
    refine byG fun G_ bk_ => ?_; obtain ⟨⟨B, hB, hBG, hl, hfl, hnew⟩, htup⟩ := R; refine bk_ ?_; clear bk_
    refine wpAny_looks_onW hfr rfl hfl fun h' hh hs => ?_
    exact hQ _ rfl ⟨ea, t, vs, g, m, news, S', M', loc', G', rfl, k, G, LO, LC, q, F, ⟨⟨B, hB, hBG, hl, hh, hnew⟩, htup.of_slots hs⟩, u.trans hs⟩
  | held G' F R u =>
    refine byG fun G_ bk_ => ?_; obtain ⟨⟨B, hB, hBG, hl, hh, hnew⟩, htup⟩ := R; refine bk_ ?_; clear bk_
    refine wpAny_noteFrame_againW rfl hh.2.2.2 ?_
    exact hQ _ rfl ⟨ea, t, vs, g, m, news, S', M', loc', G', rfl, k, G, LO, LC, q, F, ⟨⟨B, hB, hBG, hl, hh, hnew⟩, htup⟩, u⟩
/-- what a loop's own activation does with it -/
theorem exc_back {d : Cy} {S : Tab} {s₀ : Shared} {EQ : Mem → Loc → Prop} {e : Value} {s' : Shared} (ok : Ok W f n d) (hco : f.co = none) (z : EP W f d S s₀ EQ e s') :
    notedBy (model W.prog W.w) (d.A.deeper (f.env d)) (f.here d) (fun e s' => cameBackBy (model W.prog W.w) (d.A.deeper (f.env d)) (f.here d) (EP W f d S s₀ EQ) e s') e s' := by
  obtain ⟨e₀, z⟩ := z
  obtain ⟨_, he⟩ := ok.plain hco
  refine exc_noted ok hco z fun s₂ e₂ z₂ => ?_
  obtain ⟨ea, t, vs, g, m, news, S', M', loc', G', he_, k, G, LO, LC, q, F, R_, u⟩ := z₂
  subst he_
  refine byG fun G_ bk_ => ?_
  obtain ⟨⟨B, hB, hBG, hl, hh, hnew⟩, htup⟩ := R_
  refine bk_ ?_
  clear bk_
  refine cameBack_holds (by rw [he]; rfl) hh fun h' hh' hs => ?_
  exact ⟨(e₀.trans e₂).trans rfl, ea, t, vs, g, m, news, S', M', loc', rfl, k, G, LO, LC, q, .held G' F ⟨⟨B, hB, hBG, hl, hh', hnew⟩, htup.of_slots hs⟩ (u.trans hs)⟩

inductive Less (Inv : Nat → Mem → Loc → Prop) (k : Nat) (M : Mem) (l : Loc) : Prop
  | mk (j : Nat) (hj : j < k) (h : Inv j M l) : Less Inv k M l
inductive WhileI (W : Wd) (d : Cy) (s : Shared) (S : Tab) (Inv : Nat → Mem → Loc → Prop) (k : Nat) (s' : Shared) : Prop
  | mk (S' : Tab) (M' : Mem) (l' : Loc) (e : Same s s') (kk : TabLe S S') (H : Here W d S' M' l' s'.heap) (inv : Inv k M' l') : WhileI W d s S Inv k s'
theorem sx_While {M : Mem} {loc : Loc} {EQ : Mem → Loc → Prop} {Q : AFl → Mem → Loc → Prop} {test body pos} (hco : f.co = none) (Inv : Nat → Mem → Loc → Prop) (n₀ : Nat) (h0 : Inv n₀ M loc)
    (turn : ∀ k M l, Inv k M l → Tr W f n test M l (fun c M₁ l₁ => (c = true → Ss W f n body M₁ l₁ (fun fl M₂ l₂ => match fl with
      | .next => Less Inv k M₂ l₂
      | .cont => Less Inv k M₂ l₂
      | .brk => Q .next M₂ l₂
      | .ret v => Q (.ret v) M₂ l₂) EQ) ∧ (c = false → Q .next M₁ l₁)) EQ) : Sx W f n (.While test body [] pos) M loc Q EQ := by
  intro d S s ok H
  refine wpAny_While (codeAny_whileLoop (WhileI W d s S Inv) ?_ n₀ ⟨S, M, loc, rfl, le0, H, h0⟩)
  rintro k s₁ ⟨S₁, M₁, l₁, e₁, k₁, H₁, hinv⟩
  refine wpAny_mono (turn k M₁ l₁ hinv d S₁ s₁ ok H₁) (fun b s₂ ⟨e₂, S₂, M₂, l₂, c, k₂, H₂, r₂, q₂⟩ => ?_) fun _ _ z => exc_back ok hco (z.up k₁ e₁)
  obtain rfl : b = c := r₂
  have k3 : TabLe S S₂ := fun a o x => k₂ a o (k₁ a o x)
  cases b with
  | false =>
    exact wpAny_execs_nil (Run.end (e₁.trans e₂) k3 H₂ .next (q₂.2 rfl))
  | true =>
    refine wpAny_mono (q₂.1 rfl d S₂ s₂ ok H₂) (fun fl s₃ ⟨e₃, S₃, M₃, l₃, afl, k₃, H₃, r₃, q₃⟩ => ?_) fun _ _ z => exc_back ok hco (z.up k3 (e₁.trans e₂))
    have k4 : TabLe S S₃ := fun a o x => k₃ a o (k3 a o x)
    have e4 := (e₁.trans e₂).trans e₃
    cases r₃ with
    | next => obtain ⟨j, hj, hi⟩ := q₃; exact ⟨j, hj, S₃, M₃, l₃, e4, k4, H₃, hi⟩
    | cont => obtain ⟨j, hj, hi⟩ := q₃; exact ⟨j, hj, S₃, M₃, l₃, e4, k4, H₃, hi⟩
    | brk => exact Run.end e4 k4 H₃ .next q₃
    | ret v a r => exact Run.end e4 k4 H₃ (.ret v a r) q₃
end
end Mine
end
section
open PySem PySem.W PySem.Calls PyProof.Rows PySem.Spec PySem.SeqAt
namespace Mine

section
variable {W : Wd} {f : Fx} {n : Nat} {M M' : Mem} {loc : Loc} {Q : AV → Mem → Loc → Prop} {EQ : Mem → Loc → Prop}
theorem dicO_nil : DicO W { cls := .type "dict", data := .dict #[] } [] := ⟨⟨rfl, rfl, rfl⟩, #[], 0, rfl, (fun e he => by simp at he), .nil, List.nodup_nil⟩
theorem ev_Dict {pos} (h : ∀ x, Q (.obj x) ((x, .dict []) :: M) loc) : Ev W f n (.Dict [] [] pos) M loc Q EQ := by
  intro d S s ok H
  refine wpAny_Dict_empty ?_
  exact Run.end rfl le0 (H.allocM ok _ (.dict _ [] [] dicO_nil .nil)) (.obj _) (h _)

/-! stores in one go -/
noncomputable def Loc.sets (l : Loc) (ps : List (Str × AV)) : Loc := ps.foldl (fun l p => l.set p.1 p.2) l
theorem run_binds {Q : Mem → Loc → Prop} {d : Cy} (ok : Ok W f n d) (hco : f.co = none) {names : List Str} : ∀ {vs : List Value} {as : List AV} {l : Loc} {S S₀ : Tab} {s s₀ : Shared}, TabLe S₀ S → Same s₀ s → Here W d S M l s.heap → VRs W S vs as → names.length = as.length →
    (names.all fun x => decide (f.sc.names.lookup x = some .local)) = true → Q M (l.sets (names.zip as)) → Run W f d UR (assignInOrder (names.map fun x => bindName (f.here d) x) vs) S₀ s₀ s (fun _ M l => Q M l) EQ := by
  induction names with
  | nil =>
    intro vs as l S S₀ s s₀ k e H r hn _ q
    cases as with
    | nil => cases r using VRs.nilE; exact wpAny_pure (Run.end (b := ()) e k H trivial q)
    | cons => exact absurd hn.symm (Nat.succ_ne_zero _)
  | cons x names ih =>
    intro vs as l S S₀ s s₀ k e H r hn hl q
    cases as with
    | nil => exact absurd hn (Nat.succ_ne_zero _)
    | cons a as =>
      cases r using VRs.consE with
      | cons v vs r rs =>
        rw [List.all_cons, Bool.and_eq_true] at hl
        refine (?_ : wpAny _ _ (do holding vs (bindName (f.here d) x v); assignInOrder (names.map fun x => bindName (f.here d) x) vs) _ _ _)
        refine wpAny_bind (wpAny_holding (bindName_ ?_))
        refine Run.then k e (run_store (n := n) (EQ := EQ) (Q := fun _ M' l' => M' = M ∧ l' = l.set x a) le0 rfl ok H r ⟨hco, of_decide_eq_true hl.1⟩ ⟨rfl, rfl⟩) fun _ s₁ S₁ M₁ l₁ b e₁ k₁ k₁' H₁ _ q₁ => ?_
        refine byG fun G_ bk_ => ?_; obtain ⟨rfl, rfl⟩ := q₁; refine bk_ ?_; clear bk_
        exact ih k₁ e₁ H₁ (VRs.mono k₁' rs) (Nat.succ.inj hn) hl.2 q
theorem vrs_reverse {S : Tab} {us : List Value} {as : List AV} (h : VRs W S us as) : VRs W S us.reverse as.reverse :=
  VRs.ind (m := fun us as _ => VRs W S us.reverse as.reverse) .nil (fun v a us as r _ ih => by
    (with_reducible refine rwE List.reverse_cons ?_; with_reducible refine rwE List.reverse_cons ?_)
    exact vrs_app ih (.cons _ _ _ _ r .nil)) h
theorem sx_UnpackSwap {ts k tpos value pos} {names : List Str} {Q : AFl → Mem → Loc → Prop} (h : Ev W f n value M loc (fun a M₁ l₁ => ∃ as, a = .tup as ∧ as.length = names.length ∧ Q .next M₁ (l₁.sets (names.reverse.zip as.reverse))) EQ)
    (hco : f.co = none) (hl : (names.reverse.all fun x => decide (f.sc.names.lookup x = some .local)) = true)
    (hs : ∀ env, swapsWithSole [.Tuple ts k tpos] value pos.line env = pure false) (hw : ∀ d, swappedStores [.Tuple ts k tpos] value (f.env d) = pure (some names)) : Sx W f n (.Assign [.Tuple ts k tpos] value pos) M loc Q EQ := by
  intro d S s ok H
  refine Assign_Tuple_swapped ?_ (hs _) (by with_reducible refine rwE ((ok.plain hco).2) ?_; exact hw d)
  refine Run.then le0 rfl (h d S s ok H) fun v s₁ S₁ M₁ l₁ a e₁ k₁ _ H₁ r₁ q₁ => ?_
  obtain ⟨as, rfl, hn, q⟩ := q₁
  obtain ⟨b, us, rfl, ht, rs⟩ := H₁.tup ok r₁
  have el : us.toArray.size = names.length := by (with_reducible refine rwE List.size_toArray ?_; with_reducible refine rwE (VRs.len rs) ?_; with_reducible refine rwE hn ?_; with_reducible rfl)
  with_reducible refine rwE (Eq.symm el) ?_
  refine unpackItems_tuple ok.hand ht fun h' he => ?_
  refine wpAny_mono (run_binds (n := n) (Q := fun M l => Q .next M l) ok hco k₁ (e₁.trans (show Same s₁ { s₁ with heap := h' } from rfl)) (H₁.ext fun b o q => he b o (Nat.ne_of_lt (Heap.lt_size q)) q) (vrs_reverse rs) (by simp [hn]) hl q) (fun _ s' ⟨e, S', M', l', b, k, H', _, q⟩ => ⟨e, S', M', l', .next, k, H', .next, q⟩) fun _ _ z => z
/-- a place in order -/
theorem asg_sub {o i pos ts} {a : AV} {as : List AV} {Q : Mem → Loc → Prop} (h : Ev W f n o M loc (fun b M₂ l₂ => Ev W f n i M₂ l₂ (fun c M₃ l₃ => T3 W f n UR (fun ov iv v => setItem ov iv v) b c a M₃ l₃ (fun _ M l => Asg W f n ts as M l Q EQ) EQ) EQ) EQ) :
    Asg W f n (.Subscript o i pos :: ts) (a :: as) M loc Q EQ := by
  intro d S s vs ok H r
  cases r using VRs.consE with
  | cons v vs r rs =>
    refine (?_ : wpAny _ _ (do holding vs (assign (.Subscript o i pos) (f.here d) v); assignInOrder ((assignEach ts (f.here d)).map (·.2)) vs) _ _ _)
    refine wpAny_bind (wpAny_holding ?_)
    refine wpAny_bind (wpAny_holding (Run.then le0 rfl (h d S s ok H) fun u s₁ S₁ M₁ l₁ b e₁ k₁ _ H₁ r₁ q₁ => ?_))
    refine wpAny_bind (wpAny_holding (Run.then k₁ e₁ (q₁ d S₁ s₁ ok H₁) fun x s₂ S₂ M₂ l₂ c e₂ k₂ k₂' H₂ r₂ q₂ => ?_))
    refine wpAny_bind (wpAny_standAt (wpAny_bind (wpAny_holding ?_)))
    have k12 : TabLe S S₂ := fun a o x => k₂' a o (k₁ a o x)
    refine Run.then k₂ e₂ (q₂ d S₂ s₂ u x v ok H₂ (r₁.mono k₂') r₂ (r.mono k12)) fun _ s₃ S₃ M₃ l₃ _ e₃ k₃ k₃' H₃ _ q₃ => ?_
    refine wpAny_release ?_
    exact Run.up k₃ e₃ (q₃ d S₃ s₃ vs ok H₃ (rs.mono k₃))

/-! builtins -/
theorem t_tupleOf {a : AV} {as : List AV} (x : LstAV M a as) (hz : as.length ≤ sizeLine) (h : Q (.tup as) M loc) : Ts W f n (VR W) (fun vs => call (.type "tuple") vs) [a] M loc Q EQ := fun d S s vs ok H rs => by
  cases rs using VRs.consE with
  | cons v vs r rs =>
    cases rs using VRs.nilE
    obtain ⟨b, us, m, rfl, e, r'⟩ := x.at H ok r
    refine call_tuple_list (isList_of e) (fun h' hk => ?_) (by (with_reducible refine rwE List.size_toArray ?_; with_reducible refine rwE (VRs.len r') ?_); exact hz)
    have H' : Here W d S M loc h' := H.ext hk
    exact Run.end rfl Tab.add_le (H'.allocS _) (.tup _ _ us _ (.inl Tab.add_at) ⟨⟨rfl, _, rfl⟩, rfl⟩ (r'.mono Tab.add_le)) h
/-- a new object that may turn, at any road -/
theorem Here.newM {d : Cy} {S : Tab} {h h' : Heap} (x : Here W d S M loc h) {a : Addr} {o : Obj} {ao : AO} (hk : ∀ b o, h.get? b = some o → h'.get? b = some o) (ho : h'.get? a = some o) (hs : h.objs.size ≤ a) (r : OR W S o ao) : Here W d S ((a, ao) :: M) loc h' :=
  (x.frameAt hk ho hs).claim (F := []) r fun q hq => x.fmNe hs q hq
theorem t_listOfT {as : List AV} (hz : as.length ≤ sizeLine) (h : ∀ x, Q (.obj x) ((x, .list as) :: M) loc) : Ts W f n (VR W) (fun vs => call (.type "list") vs) [.tup as] M loc Q EQ := fun d S s vs ok H rs => by
  cases rs using VRs.consE with
  | cons v vs r rs =>
    cases rs using VRs.nilE
    obtain ⟨b, us, rfl, ⟨o, ho, hc, m, hd⟩, r'⟩ := H.tup ok r
    refine call_list_seq b (.inr rfl) ho hc hd (fun h' c' hk hD => ?_) (by (with_reducible refine rwE List.size_toArray ?_; with_reducible refine rwE (VRs.len r') ?_); exact hz)
    exact Run.end rfl le0 (H.newM hk hD (Nat.le_refl _) (.list _ us as ⟨c', rfl⟩ r')) (.obj _) (h _)
theorem t_min {a b : Int} (h : Q (.int (if b < a then b else a)) M loc) : Ts W f n (VR W) (fun vs => call (.builtin "min") vs) [.int a, .int b] M loc Q EQ := fun d S s vs ok H rs => by
  cases rs using VRs.consE with
  | cons v vs r rs =>
    cases rs using VRs.consE with
    | cons u _ r' rs =>
      cases rs using VRs.nilE; cases r using VR.intE; cases r' using VR.intE
      refine min_two_ints ok.hand fun h' tk hk => ?_
      split
      · rename_i c; rw [if_pos c] at h; exact Run.end rfl le0 (H.ext hk) (.int _ _) h
      · rename_i c; rw [if_neg c] at h; exact Run.end rfl le0 (H.ext hk) (.int _ _) h
theorem t_strInt {a : Int} (h1 : 0 ≤ a) (h2 : a < 4611686018427387904) (h : Q (.str (toString a : String)) M loc) : Ts W f n (VR W) (fun vs => call (.type "str") vs) [.int a] M loc Q EQ := fun d S s vs ok H rs => by
  cases rs using VRs.consE with
  | cons v vs r rs =>
    cases rs using VRs.nilE; cases r using VR.intE
    refine str_of_int_fit (N := 4611686018427387904) (by with_reducible refine rwE (if_neg (by walk_at "om")) ?_; exact h2) (by decide) fun _ => ?_
    exact Run.end rfl le0 H (.str _ _) h
theorem vrd_without {S : Tab} {k : Str} {kvs : List (Str × Value)} {es : List (Str × AV)} (h : VRd W S kvs es) : VRd W S (without kvs k) (es.filter fun e => decide (e.1 ≠ k)) := by
  unfold without
  induction h using VRd.ind with
  | nil => exact .nil
  | cons x v a vs as r _ ih =>
    by_cases q : x = k
    · (with_reducible refine rwE (List.filter_cons_of_neg (by simp [q])) ?_; with_reducible refine rwE (List.filter_cons_of_neg (by simp [q])) ?_); exact ih
    · (with_reducible refine rwE (List.filter_cons_of_pos (by simp [q])) ?_; with_reducible refine rwE (List.filter_cons_of_pos (by simp [q])) ?_); exact .cons _ _ _ _ _ r ih
theorem t_popDict {x : Addr} {k : Str} {c : AV} {es : List (Str × AV)} (rp : Rp x (.dict es) (.dict (es.filter fun e => decide (e.1 ≠ k))) M M') (hx : es.lookup k = some c) (hz : es.length ≤ sizeLine) (h : Q c M' loc) :
    Ts W f n (VR W) (fun vs => call (.builtin "dict.pop") vs) [.obj x, .str k] M loc Q EQ := fun d S s vs ok H rs => by
  cases rs using VRs.consE with
  | cons v vs r rs =>
    cases rs using VRs.consE with
    | cons u _ r' rs =>
      cases rs using VRs.nilE; cases r using VR.objE; cases r' using VR.strE
      refine byG fun G_ bk_ => ?_; obtain ⟨o, h1, h2⟩ := H.memAt rp.mem; refine bk_ ?_; clear bk_
      cases h2 using OR.dictE with
      | dict kvs h3 h4 =>
        rcases vrd_find (name := k) h4 with ⟨e, _⟩ | ⟨c', w, e1, e2, e3⟩
        · rw [hx] at e; injection e
        · rw [hx] at e1; (injection e1 with e0; (first | subst e0 | cases e0))
          have hD := dictOf_at h1 h3
          refine call_meetsIn PySem.F.slot_dict_pop hD.typeIs PySem.F.entry_dict_pop (PySem.F.args_dict_pop_2 _ _) (meets_dict_pop_there (strKind W.prog W.w) x isStrOf_self [] (.inl rfl) rfl) ⟨kvs, w, hD, by with_reducible refine rwE (vrd_len h4) ?_; exact hz, by with_reducible refine rwE valueAt_eq ?_; exact e2, fun h' hD' hs => ?_⟩
          refine byG fun G_ bk_ => ?_; obtain ⟨o', ho', hd'⟩ := at_dictOf hD'; refine bk_ ?_; clear bk_
          exact Run.end rfl le0 (H.upd rp hs ho' (.dict o' _ _ hd' (vrd_without h4))) e3 h
end
end Mine
end
section
open PySem PySem.W PySem.Calls PyProof.Rows PySem.Spec PySem.SeqAt
namespace Mine

theorem owner_rev : Manifest.owners.lookup (String.ofList ['d', 'e', 's', 'r', 'e', 'v', 'e', 'r'].reverse) = some Manifest.sig_reversed := by kernel_rfl
theorem slot_rev_next : Slot "reversed" "__next__" "reversed.__next__" :=
  .of (owner := "reversed") (n := "__next__") (by (rewrite [typeLookup_type]; with_reducible refine rwE builtinLookup_eq_fast ?_); kernel_rfl) (by decide +kernel) (by decide +kernel) (by decide +kernel)
    (by first | exact .inl (by decide +kernel) | exact .inr (by decide +kernel)) (by rw [isSubtype_type]; kernel_rfl)
theorem entry_rev_next : entryFor table "reversed.__next__" = some Builtin.«reversed.__next__» := entryFor_of_tree (by kernel_rfl)
theorem args_rev_next (a : Value) : argsOk "reversed.__next__" ⟨[a], []⟩ := by
  unfold argsOk; with_reducible refine rwE (signature?_of (id := "reversed.__next__") (n := ['_', '_', 't', 'x', 'e', 'n', '_', '_']) (o := ['d', 'e', 's', 'r', 'e', 'v', 'e', 'r']) (by kernel_rfl) owner_rev) ?_; kernel_rfl
theorem slot_rev_iter : Slot "reversed" "__iter__" "reversed.__iter__" :=
  .of (owner := "reversed") (n := "__iter__") (by (rewrite [typeLookup_type]; with_reducible refine rwE builtinLookup_eq_fast ?_); kernel_rfl) (by decide +kernel) (by decide +kernel) (by decide +kernel)
    (by first | exact .inl (by decide +kernel) | exact .inr (by decide +kernel)) (by rw [isSubtype_type]; kernel_rfl)
theorem args_rev_iter (a : Value) : argsOk "reversed.__iter__" ⟨[a], []⟩ := by
  unfold argsOk; with_reducible refine rwE (signature?_of (id := "reversed.__iter__") (n := ['_', '_', 'r', 'e', 't', 'i', '_', '_']) (o := ['d', 'e', 's', 'r', 'e', 'v', 'e', 'r']) (by kernel_rfl) owner_rev) ?_; kernel_rfl
theorem entry_rev_iter : entryFor table "reversed.__iter__" = some Builtin.«dict_keyiterator.__iter__» :=
  entryFor_alias (id' := "dict_keyiterator.__iter__") (by kernel_rfl) (by first | rfl | decide +kernel | (unfold String.splitOn; simp +decide [String.splitOnAux])) (by decide +kernel) (by kernel_rfl)
theorem tuple_no_reversed : typeLookup (.type "tuple") "__reversed__" = pure none := by (rewrite [typeLookup_type]; with_reducible refine rwE builtinLookup_eq_fast ?_); kernel_rfl
theorem sub_tuple_dict : isSubtype (.type "tuple") (.type "dict") = pure false := by rw [isSubtype_type]; kernel_rfl
theorem called_reversed : TypeCalled "reversed" "reversed.__new__" "object.__init__" :=
  ⟨by decide +kernel, F.create_reversed, ⟨_, _, F.mro_reversed⟩, F.made_reversed, by decide +kernel, F.sub_reversed_self,
    .of (owner := "object") (n := "__init__") (by (rewrite [typeLookup_type]; with_reducible refine rwE builtinLookup_eq_fast ?_); kernel_rfl) (by decide +kernel) (by decide +kernel) (by decide +kernel)
    (by first | exact .inl (by decide +kernel) | exact .inr (by decide +kernel)) (by rw [isSubtype_type]; kernel_rfl)⟩

theorem meets_rev_new (l : Addr) (items : Array Value) : Meets (Builtin.«reversed.__new__» ⟨[.type "reversed", .ref l], []⟩) (fun _ R s => (IsTup s.heap l items ∧ (items.size : Int) < 2 ^ 63) ∧
    R (.ok (.ret (.ref s.heap.objs.size))) { s with heap := s.heap.push (revO l ((items.size : Int) - 1)), toks := s.toks + 1 + 1 }) :=
  .of_wp fun prog w A R s h => by
    obtain ⟨⟨hl, hfit⟩, h⟩ := h
    refine wpAny_bind (wpAny_of_eq (newClass_reversed _) ?_)
    try dsimp only
    refine wpAny_bind (wpAny_of_eq (a := ()) (by first | rfl | kernel_rfl) ?_)
    refine wpAny_bind (wpAny_of_eq (a := ()) (by first | rfl | kernel_rfl) ?_)
    try dsimp only
    refine wpAny_bind (wpAny_specialOf hl.typeIs tuple_no_reversed ?_)
    try dsimp only
    refine wpAny_bind ?_
    refine wpAny_bind (wpAny_isInstance (T := "tuple") (b := false) hl.typeIs sub_tuple_dict ?_)
    refine wpAny_bind (wpAny_specialOf hl.typeIs slot_tuple_getitem.lookup ?_)
    refine wpAny_pure ?_
    refine wpAny_bind (len_tuple hl hfit ?_)
    refine wpAny_bind (wpAny_of_eq (a := some (items.size : Int)) (by rfl) ?_)
    refine wpAny_bind ?_
    unfold Builtin.SmallTypes.newRecord
    refine wpAny_newObj_type ?_
    exact wpAny_pure ⟨_, rfl, h⟩
section
variable {prog : Program} {w : World} {A : Around} {E : Value → Shared → Prop} {s : Shared}
theorem call_reversed_tup {l : Addr} {items : Array Value} {Q : Value → Shared → Prop} (hl : IsTup s.heap l items) (hfit : (items.size : Int) < 2 ^ 63)
    (h : Q (.ref s.heap.objs.size) { s with heap := s.heap.push (revO l ((items.size : Int) - 1)), toks := s.toks + 1 + 1 }) : wpAny (model prog w) A (call (.type "reversed") [.ref l]) Q E s :=
  callType_new called_reversed (by decide) (F.typeCall_reversed_1 _) (F.newCall_reversed_1 _) (fun obj => F.args_object_init_2 obj _) F.entry_reversed_new (meets_rev_new l items)
    ⟨⟨hl, hfit⟩, ⟨_, Heap.get?_push_size _ rfl, rfl⟩, h⟩
theorem seqIndex_nat {i n : Nat} (h : i < n) : seqIndex? (i : Int) n = some i := by
  unfold seqIndex?
  have e : (if (i : Int) < 0 then (i : Int) + n else (i : Int)) = (i : Int) := if_neg (by walk_at "om")
  with_reducible refine rwE e ?_
  have : (decide (0 ≤ (i : Int)) && decide ((i : Int) < n)) = true := by simp; walk_at "om"
  simp only [this, if_true]
  rfl
noncomputable def IsRev (h : Heap) (a l : Addr) (i : Int) : Prop := h.get? a = some (revO l i)
theorem rev_item {it l : Addr} {i : Nat} {items : Array Value} {x : Value} {Q : Option Value → Shared → Prop} (hit : IsRev s.heap it l (i : Int)) (hl : IsTup s.heap l items) (hx : items[i]? = some x) (hfit : (items.size : Int) < 2 ^ 63)
    (hQ : ∀ h', IsRev h' it l ((i : Int) - 1) → Heap.SameBut it s.heap h' → Q (some x) { s with heap := h', toks := s.toks + 1 }) : wpAny (model prog w) A (pyNext (.ref it)) Q E s := by
  have hT : s.TypeIs (.ref it) "reversed" := ⟨_, hit, rfl⟩
  refine wpAny_bind (wpAny_attempt (wpAny_callSpecial?_slot (name := Str.ofString "__next__") hT slot_rev_next
    (wpAny_call_entry slot_rev_next hT entry_rev_next ?_ (args_rev_next _))))
  refine wpAny_bind (wpAny_of_eq (a := (Value.ref it, [])) rfl ?_)
  refine wpAny_bind (wpAny_field hit rfl (x := .ref l) rfl ?_)
  refine wpAny_bind (wpAny_field hit rfl (x := rawInt (i : Int)) rfl ?_)
  refine wpAny_bind (wpAny_specialOf hl.typeIs slot_tuple_getitem.lookup ?_)
  refine wpAny_bind (wpAny_mkInt ?_)
  refine wpAny_bind (wpAny_attempt ?_)
  refine PyProof.Rows.getItem_tuple (k := (i : Int)) (j := i) hl (by walk_at "om") (by have := (Array.getElem?_eq_some_iff.mp hx).1; walk_at "om") ?_ hx ?_
  · exact seqIndex_nat (Array.getElem?_eq_some_iff.mp hx).1
  · refine wpAny_bind (wpAny_field hit rfl (x := rawInt (i : Int)) rfl ?_)
    refine wpAny_bind (wpAny_setField hit rfl (by simp) ?_)
    refine wpAny_pure ⟨x, rfl, wpAny_pure (hQ _ ?_ (Heap.SameBut.update ..))⟩
    exact Heap.get?_update_self _ hit rfl
theorem rev_end {it l : Addr} {Q : Option Value → Shared → Prop} (hh : A.handled = none) (hit : IsRev s.heap it l (-1))
    (hQ : ∀ h', (∀ b o, b ≠ it → s.heap.get? b = some o → h'.get? b = some o) → Q none { s with heap := h' }) : wpAny (model prog w) A (pyNext (.ref it)) Q E s := by
  have hT : s.TypeIs (.ref it) "reversed" := ⟨_, hit, rfl⟩
  refine wpAny_bind (wpAny_attempt (wpAny_callSpecial?_slot (name := Str.ofString "__next__") hT slot_rev_next
    (wpAny_call_entry slot_rev_next hT entry_rev_next ?_ (args_rev_next _))))
  refine wpAny_bind (wpAny_of_eq (a := (Value.ref it, [])) rfl ?_)
  refine wpAny_bind (wpAny_field hit rfl (x := .ref l) rfl ?_)
  refine wpAny_bind (wpAny_field hit rfl (x := rawInt (-1)) rfl ?_)
  refine wpAny_bind (wpAny_rule ?_)
  refine wpAny_bind (m := (do setField (.ref it) 1 (rawInt (-1)); setField (.ref it) 0 .none : Sem Unit)) ?_
  have h2 : (s.heap.update it (Obj.mapFields (·.setIfInBounds 1 (rawInt (-1))))).get? it = some (revO l (-1)) := Heap.get?_update_self _ hit rfl
  refine wpAny_bind (wpAny_setField hit rfl (by simp) (wpAny_setField h2 rfl (by simp) ?_))
  first
    | refine wpAny_bind (show wpAny _ _ (Builtin.SmallTypes.stopIteration) _ _ _ from ?_)
    | skip
  refine wpAny_bind ?_
  refine wpAny_bind (wpAny_newObj_type ?_ (by size_fits))
  refine wpAny_bind (m := firstArgMember _ _) (wpAny_of_eq (a := Value.none) (by first | rfl | (simp only [firstArgMember]; rfl)) ?_)
  refine wpAny_newObj_type ?_ (by size_fits)
  refine wpAny_bind (wpAny_handled ?_)
  first | with_reducible refine rwE (show A.in1.handled = none from hh) ?_ | rw [hh]
  refine wpAny_bind (wpAny_pure (wpAny_throw ?_))
  refine wpAny_bind (wpAny_isInstance (T := "StopIteration") (b := true) ⟨_, Heap.get?_push_size _ rfl, rfl⟩ isSubtype_stop ?_)
  refine wpAny_pure (hQ _ fun b o hb e => ?_)
  refine Heap.get?_push_of_some _ (Heap.get?_push_of_some _ ?_)
  (with_reducible refine rwE (Heap.get?_update_other _ _ (Ne.symm hb)) ?_; with_reducible refine rwE (Heap.get?_update_other _ _ (Ne.symm hb)) ?_)
  exact e
theorem rev_iter {it l : Addr} {i : Int} {Q : Value → Shared → Prop} (hit : IsRev s.heap it l i) (h : Q (.ref it) s) : wpAny (model prog w) A (pyIter (.ref it)) Q E s := by
  have hT : s.TypeIs (.ref it) "reversed" := ⟨_, hit, rfl⟩
  refine wpAny_pyIter_slot hT slot_rev_iter (wpAny_call_entry slot_rev_iter hT entry_rev_iter ?_ (args_rev_iter _))
  refine (?_ : wpAny _ _ (ret (.ref it)) _ _ s)
  exact wpAny_pure ⟨_, rfl, "reversed", _, hT, slot_rev_next.lookup, h⟩
end
theorem Walks.tupRev {prog : Program} {w : World} {A : Around} (hh : A.handled = none) (I l : Addr) (hne : l ≠ I) (items : Array Value) (hfit : (items.size : Int) < 2 ^ 63) :
    Walks prog w A I [I, l] [I] items.size (fun i v => items[items.size - 1 - i]? = some v) (fun i h => i ≤ items.size ∧ IsRev h I l ((items.size : Int) - 1 - (i : Int)) ∧ IsTup h l items) where
  sub := fun b hb => by simp at hb; simp [hb]
  frame := fun _ _ _ x hk => ⟨x.1, hk I (by simp) _ x.2.1, (let ⟨o, h1, h2⟩ := x.2.2; ⟨o, hk l (by simp) _ h1, h2⟩)⟩
  item := fun i s Q E hi x hQ => by
    have e : (items.size : Int) - 1 - (i : Int) = ((items.size - 1 - i : Nat) : Int) := by rw [Int.sub_sub, Nat.sub_sub]; exact (Int.ofNat_sub (Nat.add_comm i 1 ▸ hi)).symm
    have hit := x.2.1
    rw [e] at hit
    have hlt : items.size - 1 - i < items.size := Nat.lt_of_le_of_lt (Nat.sub_le _ _) (Nat.sub_lt (Nat.zero_lt_of_lt hi) Nat.one_pos)
    refine rev_item hit x.2.2 (x := items[items.size - 1 - i]) (by simp [hlt]) hfit fun h' hit' hs' => ?_
    refine hQ _ h' _ (by simp [hlt]) ⟨hi, ?_, ?_⟩ fun b o hb e => hs'.extBut b o (fun h => hb (by simp [h])) e
    · have e2 : (items.size : Int) - 1 - ((i + 1 : Nat) : Int) = ((items.size - 1 - i : Nat) : Int) - 1 := (Int.sub_sub ((items.size : Int) - 1) i 1).symm.trans (congrArg (· - 1) e)
      with_reducible refine rwE e2 ?_; exact hit'
    · obtain ⟨o, h1, h2⟩ := x.2.2
      exact ⟨o, hs'.extBut l o hne h1, h2⟩
  done := fun s Q E x hQ => by
    have hit := x.2.1
    rw [show (items.size : Int) - 1 - (items.size : Int) = -1 by rw [Int.sub_sub, Int.add_comm 1, ← Int.sub_sub, Int.sub_self]; rfl] at hit
    exact rev_end hh hit fun h' hk => hQ h' s.toks fun b o hb e => hk b o (fun h => hb (by simp [h])) e
  self := fun _ _ _ _ x hQ => rev_iter x.2.1 hQ
end Mine
end
section
open PySem PySem.W PySem.Calls PyProof.Rows PySem.Spec PySem.SeqAt
set_option tactic.hygienic true
namespace Mine

section
variable {W : Wd} {f : Fx} {n : Nat} {d : Cy} {S : Tab} {M M' : Mem} {loc : Loc} {h h' : Heap} {F F' : Led} {Q : AV → Mem → Loc → Prop} {EQ : Mem → Loc → Prop}
/-- the framed part turned, and a new object that stays -/
theorem Here.updFs (x : Here W (d.with F) S M loc h) (hkeys : F'.map (·.1) = F.map (·.1)) (hF : ∀ q ∈ d.Fm, q.1 ∉ F.map (·.1)) {T : Addr} {oT : Obj} (hT : h.objs.size ≤ T) (hoT : h'.get? T = some oT)
    (hs : ∀ b ob, b ∉ F.map (·.1) → h.get? b = some ob → h'.get? b = some ob) (ho : ∀ p ∈ F', h'.get? p.1 = some p.2) : Here W (d.with F') (S.add T oT) M loc h' := by
  obtain ⟨g, m, news, G, Fr', N, LO, LC⟩ := x
  have key : ∀ p ∈ F', ∃ q ∈ F, q.1 = p.1 := fun p hp => by
    have : p.1 ∈ F.map (·.1) := hkeys ▸ List.mem_map_of_mem hp
    obtain ⟨q, hq, e⟩ := List.mem_map.mp this
    exact ⟨q, hq, e⟩
  have inF : ∀ q ∈ F, q ∈ news := fun q hq => LO.fm q (List.mem_append_left _ hq)
  have lt : ∀ {b o}, h.get? b = some o → b ≠ T := fun q => Nat.ne_of_lt (Nat.lt_of_lt_of_le (Heap.lt_size q) hT)
  obtain ⟨oL, es, ep, e, r⟩ := Fr'.ns
  have nL : d.L ∉ F.map (·.1) := fun hm => by
    obtain ⟨q, hq, eq⟩ := List.mem_map.mp hm
    exact (N q (inF q hq)).2.1 eq
  have ng : ∀ b o, g.get? b = some o → b ∉ F.map (·.1) := fun b o hb hm => by
    obtain ⟨q, hq, eq⟩ := List.mem_map.mp hm
    have := (N q (inF q hq)).2.2
    rw [eq, hb] at this; injection this
  have stay : ∀ p ∈ news, p.1 ∉ F.map (·.1) → p ∈ (T, oT) :: (F' ++ news.filter (fun p => decide (p.1 ∉ F.map (·.1)))) := fun p hp hne => .tail _ (List.mem_append_right _ (List.mem_filter.mpr ⟨hp, decide_eq_true hne⟩))
  have nS : ∀ a o, S a o → a ∉ F.map (·.1) := fun a o ha hm => by
    obtain ⟨q, hq, eq⟩ := List.mem_map.mp hm
    exact LO.tabF q (List.mem_append_left _ hq) o (by with_reducible refine rwE eq ?_; exact ha)
  have nM : ∀ p ∈ M, p.1 ∉ F.map (·.1) := fun p hp hm => by
    obtain ⟨q, hq, eq⟩ := List.mem_map.mp hm
    exact LO.fmM p hp q (List.mem_append_left _ hq) eq
  refine ⟨g, m, (T, oT) :: (F' ++ news.filter (fun p => decide (p.1 ∉ F.map (·.1)))), ⟨G.below, G.turn, G.dicts⟩, ⟨⟨oL, es, ep, hs _ _ nL e, r⟩, fun b ob q => hs b ob (ng b ob q) (Fr'.keep b ob q), Fr'.above⟩, fun p hp => ?_,
    ⟨fun p hp => ?_, fun b y hy => ?_, fun p hp => ?_, LO.nd, fun p hp q hq => ?_, fun p hp y hy => ?_, fun p hp y hy => ?_⟩, LC.mono Tab.add_le⟩
  · rcases List.mem_cons.mp hp with rfl | hp
    · refine ⟨hoT, fun eq => ?_, ?_⟩
      · exact lt e eq.symm
      · cases q : g.get? T with
        | none => rfl
        | some o => exact absurd rfl (lt (Fr'.keep _ _ q))
    · rcases List.mem_append.mp hp with hp | hp
      · obtain ⟨q, hq, eq⟩ := key p hp
        have := (N q (inF q hq)).2
        rw [eq] at this
        exact ⟨ho p hp, this⟩
      · obtain ⟨hp, hne⟩ := List.mem_filter.mp hp
        exact ⟨hs _ _ (of_decide_eq_true hne) (N p hp).1, (N p hp).2⟩
  · rcases List.mem_append.mp (show p ∈ F' ++ d.Fm from hp) with hp | hp
    · exact .tail _ (List.mem_append_left _ hp)
    · exact stay p (LO.fm p (List.mem_append_right _ hp)) (hF p hp)
  · rcases hy with hy | ⟨rfl, rfl⟩
    · exact stay _ (LO.tab b y hy) (nS b y hy)
    · exact .head _
  · obtain ⟨y, h3, h4⟩ := LO.mem p hp
    exact ⟨y, stay _ h3 (nM p hp), h4.mono Tab.add_le⟩
  · rcases List.mem_append.mp (show q ∈ F' ++ d.Fm from hq) with hq | hq
    · obtain ⟨q', hq', eq⟩ := key q hq
      with_reducible refine rwE (Eq.symm eq) ?_; exact LO.fmM p hp q' (List.mem_append_left _ hq')
    · exact LO.fmM p hp q (List.mem_append_right _ hq)
  · rcases hy with hy | ⟨eq, _⟩
    · exact LO.tabM p hp y hy
    · obtain ⟨z, h3, _⟩ := LO.mem p hp
      exact lt (N _ h3).1 eq
  · rcases List.mem_append.mp (show p ∈ F' ++ d.Fm from hp) with hp | hp
    · obtain ⟨q, hq, eq⟩ := key p hp
      rcases hy with hy | ⟨e2, _⟩
      · exact LO.tabF q (List.mem_append_left _ hq) y (by with_reducible refine rwE eq ?_; exact hy)
      · exact lt (N _ (inF q hq)).1 (eq.trans e2)
    · rcases hy with hy | ⟨e2, _⟩
      · exact LO.tabF p (List.mem_append_right _ hp) y hy
      · exact lt (N _ (LO.fm p (List.mem_append_right _ hp))).1 e2

/-! reversed -/
theorem t_reversed {as : List AV} (hz : as.length ≤ sizeLine) (h : ∀ x, Q (.obj x) ((x, .rev as) :: M) loc) : Ts W f n (VR W) (fun vs => call (.type "reversed") vs) [.tup as] M loc Q EQ := fun d S s vs ok H rs => by
  cases rs using VRs.consE with
  | cons v vs r rs =>
    cases rs using VRs.nilE
    cases r using VR.tupE with
    | tup b o us hs ho r' =>
      have e2 : us.toArray.size = us.length := List.size_toArray
      refine call_reversed_tup (items := us.toArray) ⟨o, H.at ok hs, ho.1.1, ho.1.2⟩ (by (with_reducible refine rwE e2 ?_; with_reducible refine rwE (VRs.len r') ?_); unfold sizeLine at hz; walk_at "om") ?_
      exact Run.end rfl le0 (H.allocM ok _ (.rev _ b o us as hs ho r' rfl)) (.obj _) (h _)
theorem reversed_get {as : List AV} {i : Nat} (hi : i < as.length) : as.reverse[i]? = as[as.length - 1 - i]? := by (with_reducible refine rwE (List.getElem?_reverse hi) ?_; with_reducible rfl)
theorem it_rev {a : Addr} {as : List AV} (hz : as.length ≤ sizeLine) (pk : Pick a (.rev as) M M') : IterOk W f n (.obj a) as.reverse M M' [] := by
  intro d S s loc v E Q ok H r hQ
  cases r using VR.objE
  obtain ⟨o, ro, H', ha⟩ := (H.perm pk.perm).hold
  cases ro with
  | rev l ot us as hs ho hr e =>
    subst e
    have hat : s.heap.get? a = some (revO l ((us.length : Int) - 1)) := H'.fmAt (a, _) (List.mem_append_left _ (.head _))
    have hT : IsTup s.heap l us.toArray := ⟨ot, H'.at ok.with hs, ho.1.1, ho.1.2⟩
    have hne : l ≠ a := fun e => by
      have h1 := H'.at ok.with hs
      rw [e, hat] at h1
      (injection h1 with e0; (first | subst e0 | cases e0))
      obtain ⟨⟨hc, _⟩, _⟩ := ho
      exact absurd (Value.type.inj hc) (by decide)
    have e2 : us.toArray.size = as.reverse.length := by (with_reducible refine rwE List.size_toArray ?_; with_reducible refine rwE (VRs.len hr) ?_; with_reducible refine rwE List.length_reverse ?_; with_reducible rfl)
    refine rev_iter (show IsRev s.heap a l ((us.length : Int) - 1) from hat) ?_
    have W' := Walks.tupRev (prog := W.prog) (w := W.w) (A := d.A.deeper (f.env d)) ok.hand a l hne us.toArray (by (with_reducible refine rwE List.size_toArray ?_; with_reducible refine rwE (VRs.len hr) ?_); unfold sizeLine at hz; walk_at "om")
    rw [e2] at W'
    refine hQ s a _ [] [a, l] _ _ S rfl le0 H' ⟨W', ?_, ?_, ?_, fun q hq => ha q hq⟩ ⟨Nat.zero_le _, ?_, hT⟩ fun G S'' M' l' h' _ _ z => by rw [List.append_nil]; exact z
    · intro b hb
      rcases List.mem_cons.mp hb with rfl | hb
      · exact .inl rfl
      · with_reducible refine rwE (List.mem_singleton.mp hb) ?_; exact .inr (.inr ⟨ot, hs⟩)
    · intro i v hi hv
      have hi' : i < as.length := by simpa using hi
      rw [← e2] at hv
      obtain ⟨a', h1, h2⟩ := vrs_get' (k := us.toArray.size - 1 - i) hr (by simpa using hv)
      refine ⟨a', ?_, h2⟩
      (with_reducible refine rwE (reversed_get hi') ?_; with_reducible refine rwE (Eq.symm h1) ?_; with_reducible refine rwE e2 ?_; with_reducible refine rwE List.length_reverse ?_; with_reducible rfl)
    · rintro i h ⟨_, h1, _⟩
      exact ⟨_, _, h1, rfl, by decide⟩
    · refine (?_ : s.heap.get? a = _)
      (with_reducible refine rwE hat ?_; with_reducible refine rwE (Eq.symm e2) ?_; with_reducible refine rwE List.size_toArray ?_)
      simp

/-! enumerate -/
theorem pureAll {M : Model} {A : Around} {E : Value → Shared → Prop} {s : Shared} {b : Bool} {Q : Bool → Shared → Prop} (h : ∀ b, Q b s) : wpAny M A (pure b) Q E s := wpAny_pure (h b)
theorem meets_enu_new (l : Addr) (items : Array Value) : Meets (Builtin.«enumerate.__new__» ⟨[.type "enumerate", .ref l], []⟩) (fun _ R s => s.heap.IsTuple l items ∧
      R (.ok (.ret (.ref (s.heap.push (titO l)).objs.size)))
        { s with heap := (s.heap.push (titO l)).push (enuO s.heap.objs.size) }) :=
  .of_wp fun prog w A R s h => by
    refine byG fun G_ bk_ => ?_; obtain ⟨hp, g, d, tk, os⟩ := s; obtain ⟨hl, h⟩ := h
    have hsub := sub_enumerate
    obtain ⟨ob, ho, hc, k, hd⟩ := id hl; refine bk_ ?_; clear bk_
    wp_walk using AutoSeq1.wpAny_loadPart' ho
    refine wpAny_stack_any fun st => pureAll fun b => ?_
    cases b
    · wp_walk using AutoSeq1.wpAny_loadPart' ho, wpAny_pyIter_tuple hl
      exact ⟨_, rfl, h⟩
    · wp_walk using AutoSeq1.wpAny_loadPart' ho, wpAny_pyIter_tuple hl
      exact ⟨_, rfl, h⟩
theorem t_enumerate {as : List AV} (h : ∀ x y, Q (.obj x) ((x, .enu y) :: (y, .tit as) :: M) loc) : Ts W f n (VR W) (fun vs => call (.type "enumerate") vs) [.tup as] M loc Q EQ := fun d S s vs ok H rs => by
  cases rs using VRs.consE with
  | cons v vs r rs =>
    cases rs using VRs.nilE
    cases r using VR.tupE with
    | tup b o us hs ho r' =>
      have hT : s.heap.IsTuple b us.toArray := ⟨o, H.at ok hs, ho.1.1, ho.1.2⟩
      refine callType_new F.called_enumerate (by decide) (F.typeCall_enumerate_1 _) (F.newCall_enumerate_1 _) (fun obj => F.args_object_init_2 obj _) F.entry_enumerate_new (meets_enu_new b us.toArray) ⟨hT, ⟨_, Heap.get?_push_size _ rfl, rfl⟩, ?_⟩
      have H1 : Here W d S ((s.heap.objs.size, AO.tit as) :: M) loc (s.heap.push (titO b)) := H.allocM ok (titO b) (.tit _ b o us as hs ho r' rfl)
      exact Run.end rfl le0 (H1.allocM ok (enuO s.heap.objs.size) (.enu _ _ rfl)) (.obj _) (h _ _)
end
section
variable {prog : Program} {w : World} {A : Around} {E : Value → Shared → Prop} {s : Shared}
theorem nextOf_tup_item {it t : Addr} {i : Nat} {items : Array Value} {x : Value} {Q : Value → Shared → Prop} (hit : s.heap.IsTupleIter it t i) (ht : s.heap.IsTuple t items) (hx : items[i]? = some x)
    (hQ : ∀ h', h'.IsTupleIter it t (i + 1) → Heap.SameBut it s.heap h' → Q x { s with heap := h' }) : wpAny (model prog w) A (Builtin.SmallTypes.nextOf (.ref it)) Q E s := by
  refine byG fun G_ bk_ => ?_; obtain ⟨o, ho, hc, hd⟩ := id hit
  obtain ⟨ol, hol, _, nl, hdl⟩ := ht; refine bk_ ?_; clear bk_
  unfold Builtin.SmallTypes.nextOf
  refine wpAny_bind (wpAny_callSpecial?_slot (name := Str.ofString "__next__") hit.typeIs F.slot_tuple_iterator_next
    (wpAny_call_entry F.slot_tuple_iterator_next hit.typeIs F.entry_tuple_iterator_next ?_ (F.args_tuple_iterator_next_1 _)))
  refine (?_ : wpAny _ _ (field (.ref it) 0 >>= _) _ _ s)
  refine wpAny_bind (wpAny_field ho hd (x := .ref t) rfl ?_)
  refine (?_ : wpAny _ _ (if (Value.ref t == Value.none) = true then _ else _) _ _ s)
  first | refine wp_else (show ¬ ((Value.ref t == Value.none) = true) from Bool.false_ne_true) ?_ | rw [if_neg (show ¬ ((Value.ref t == Value.none) = true) from Bool.false_ne_true)]
  refine (?_ : wpAny _ _ (field (.ref it) 1 >>= _) _ _ s)
  refine wpAny_bind (wpAny_field ho hd (x := .int i 0) rfl ?_)
  refine (?_ : wpAny _ _ (seqItems? (.ref t) >>= _) _ _ s)
  refine wpAny_bind (wpAny_seqItems hol hdl ?_)
  simp only [Int.toNat_natCast, hx]
  refine wpAny_bind (wpAny_setField ho hd (by simp) (wpAny_pure ⟨x, rfl, wpAny_pure (hQ _ ?_ (Heap.SameBut.update ..))⟩))
  exact ⟨_, Heap.get?_update_self _ ho (Obj.isFreed_of_fields (Obj.data_mapFields hd _)), (Obj.cls_mapFields ..).trans hc, by
    rw [Obj.data_mapFields hd]; simp [rawInt]⟩
theorem nextOf_tup_end {it t : Addr} {i : Nat} {items : Array Value} {Q : Value → Shared → Prop} (hh : A.handled = none) (hit : s.heap.IsTupleIter it t i) (ht : s.heap.IsTuple t items) (hx : items[i]? = none)
    (hE : ∀ h' e, Heap.ExtBut it s.heap h' → (∃ o, h'.get? e = some o ∧ o.cls = .type "StopIteration") → E (.ref e) { s with heap := h' }) : wpAny (model prog w) A (Builtin.SmallTypes.nextOf (.ref it)) Q E s := by
  refine byG fun G_ bk_ => ?_; obtain ⟨o, ho, hc, hd⟩ := id hit
  obtain ⟨ol, hol, _, nl, hdl⟩ := ht; refine bk_ ?_; clear bk_
  unfold Builtin.SmallTypes.nextOf
  refine wpAny_bind (wpAny_callSpecial?_slot (name := Str.ofString "__next__") hit.typeIs F.slot_tuple_iterator_next
    (wpAny_call_entry F.slot_tuple_iterator_next hit.typeIs F.entry_tuple_iterator_next ?_ (F.args_tuple_iterator_next_1 _)))
  refine (?_ : wpAny _ _ (field (.ref it) 0 >>= _) _ _ s)
  refine wpAny_bind (wpAny_field ho hd (x := .ref t) rfl ?_)
  refine (?_ : wpAny _ _ (if (Value.ref t == Value.none) = true then _ else _) _ _ s)
  first | refine wp_else (show ¬ ((Value.ref t == Value.none) = true) from Bool.false_ne_true) ?_ | rw [if_neg (show ¬ ((Value.ref t == Value.none) = true) from Bool.false_ne_true)]
  refine (?_ : wpAny _ _ (field (.ref it) 1 >>= _) _ _ s)
  refine wpAny_bind (wpAny_field ho hd (x := .int i 0) rfl ?_)
  refine (?_ : wpAny _ _ (seqItems? (.ref t) >>= _) _ _ s)
  refine wpAny_bind (wpAny_seqItems hol hdl ?_)
  simp only [Int.toNat_natCast, hx]
  first
    | refine wpAny_bind (wpAny_rule (wpAny_bind (wpAny_setField ho hd (by simp) ?_)))
    | refine wpAny_bind (wpAny_rule (wpAny_bind (wpAny_setField ho hd (by simp) (wpAny_bind (wpAny_letGo ?_)))))
  first
    | show wpAny _ _ (newExc (.type "StopIteration") [] >>= _) _ _ _
    | (refine wpAny_bind (wpAny_letGo ?_); refine (?_ : wpAny _ _ (newExc (.type "StopIteration") [] >>= _) _ _ _))
  refine wpAny_bind ?_
  simp only [newExc, newTuple]
  refine wpAny_bind (wpAny_newObj_type ?_ (by size_fits))
  refine wpAny_bind (m := firstArgMember _ _) (wpAny_of_eq (a := Value.none) (by first | rfl | (simp only [firstArgMember]; rfl)) ?_)
  refine wpAny_newObj_type ?_ (by size_fits)
  refine wpAny_bind (wpAny_handled ?_)
  first | with_reducible refine rwE (show A.in1.handled = none from hh) ?_ | rw [hh]
  refine wpAny_bind (wpAny_pure (wpAny_throw ?_))
  exact hE _ _ (((Heap.SameBut.update ..).extBut.push _).push _) ⟨_, Heap.get?_push_size _ rfl, rfl⟩
theorem drawsTup {prog : Program} {w : World} {A : Around} (hh : A.handled = none) (it l : Addr) (hne : l ≠ it) (items : Array Value) :
    Draws prog w A it [it, l] items.size (fun i v => items[i]? = some v) (fun i h => h.IsTupleIter it l i ∧ h.IsTuple l items) where
  live := fun _ _ st => let ⟨o, ho, _⟩ := st.1; ⟨o, ho⟩
  frame := fun _ _ _ st hk => ⟨st.1.at fun o e => hk it (by simp) o e, st.2.at fun o e => hk l (by simp) o e⟩
  item := fun i s Q E hi st hQ => by
    refine nextOf_tup_item st.1 st.2 (x := items[i]) (by simp [hi]) fun h' hit' hs' => ?_
    exact hQ _ h' s.toks (by simp [hi]) ⟨hit', st.2.extBut hs'.extBut hne⟩ hs'
  done := fun s Q E st hQ => nextOf_tup_end hh st.1 st.2 (by simp) fun h' e he' hx => hQ h' e he' hx
end
end Mine
end
section
open PySem PySem.W PySem.Calls PyProof.Rows PySem.Spec PySem.SeqAt
namespace Mine

section
variable {W : Wd} {f : Fx} {n : Nat} {M : Mem} {loc : Loc}
/-- the framed part let go -/
theorem Here.dropFs {d : Cy} {S : Tab} {h h' : Heap} {F : Led} (x : Here W (d.with F) S M loc h) (hF : ∀ q ∈ d.Fm, q.1 ∉ F.map (·.1)) (hs : ∀ b ob, b ∉ F.map (·.1) → h.get? b = some ob → h'.get? b = some ob) : Here W d S M loc h' := by
  obtain ⟨g, m, news, G, Fr', N, LO, LC⟩ := x
  have inF : ∀ q ∈ F, q ∈ news := fun q hq => LO.fm q (List.mem_append_left _ hq)
  obtain ⟨oL, es, ep, e, r⟩ := Fr'.ns
  have nL : d.L ∉ F.map (·.1) := fun hm => by
    obtain ⟨q, hq, eq⟩ := List.mem_map.mp hm
    exact (N q (inF q hq)).2.1 eq
  have ng : ∀ b o, g.get? b = some o → b ∉ F.map (·.1) := fun b o hb hm => by
    obtain ⟨q, hq, eq⟩ := List.mem_map.mp hm
    have := (N q (inF q hq)).2.2
    rw [eq, hb] at this; injection this
  have stay : ∀ p ∈ news, p.1 ∉ F.map (·.1) → p ∈ news.filter (fun p => decide (p.1 ∉ F.map (·.1))) := fun p hp hne => List.mem_filter.mpr ⟨hp, decide_eq_true hne⟩
  refine ⟨g, m, news.filter (fun p => decide (p.1 ∉ F.map (·.1))), ⟨G.below, G.turn, G.dicts⟩, ⟨⟨oL, es, ep, hs _ _ nL e, r⟩, fun b ob q => hs b ob (ng b ob q) (Fr'.keep b ob q), Fr'.above⟩, fun p hp => ?_,
    ⟨fun p hp => stay p (LO.fm p (List.mem_append_right _ hp)) (hF p hp), fun b y hy => stay _ (LO.tab b y hy) fun hm => ?_, fun p hp => ?_, LO.nd, fun p hp q hq => LO.fmM p hp q (List.mem_append_right _ hq), LO.tabM, fun p hp => LO.tabF p (List.mem_append_right _ hp)⟩, LC⟩
  · obtain ⟨hp, hne⟩ := List.mem_filter.mp hp
    exact ⟨hs _ _ (of_decide_eq_true hne) (N p hp).1, (N p hp).2⟩
  · obtain ⟨q, hq, eq⟩ := List.mem_map.mp hm
    exact LO.tabF q (List.mem_append_left _ hq) y (by rw [eq]; exact hy)
  · obtain ⟨y, h3, h4⟩ := LO.mem p hp
    refine ⟨y, stay _ h3 fun hm => ?_, h4⟩
    obtain ⟨q, hq, eq⟩ := List.mem_map.mp hm
    exact LO.fmM p hp q (List.mem_append_left _ hq) eq
inductive ForEH (W : Wd) (f : Fx) (n : Nat) (elts : List Expr) (k : Nat) (tpos : Pos) (body : List Stmt) (Q : AFl → Mem → Loc → Prop) (a : AV) (M₀ : Mem) (l₀ : Loc) : Prop
  | mk (x y : Addr) (as : List AV) (M₁ : Mem) (Inv : Nat → Mem → Loc → Prop) (ha : a = .obj x) (pk : Picks [(x, .enu y), (y, .tit as)] M₀ M₁) (h0 : Inv 0 M₁ l₀)
      (turn : ∀ i a M l, as[i]? = some a → Inv i M l → Bd W f n (.Tuple elts k tpos) (.pair [.int i, a]) M l (fun M' l' => Ss W f n body M' l' (fun fl M'' l'' => match fl with
        | .next => Inv (i + 1) M'' l''
        | .cont => Inv (i + 1) M'' l''
        | .brk => Q .next M'' l''
        | .ret v => Q (.ret v) M'' l'') (fun _ _ => False)))
      (done : ∀ M l, Inv as.length M l → Q .next M l) : ForEH W f n elts k tpos body Q a M₀ l₀
inductive EnuI (W : Wd) (d : Cy) (s : Shared) (S S₁ : Tab) (e it l : Addr) (us : Array Value) (Inv : Nat → Mem → Loc → Prop) (len m : Nat) (s' : Shared) : Prop
  | mk (i : Nat) (S' : Tab) (oe oi : Obj) (M' : Mem) (l' : Loc) (es : Same s s') (k : TabLe S S') (k1 : TabLe S₁ S') (H : Here W (d.with [(e, oe), (it, oi)]) S' M' l' s'.heap) (st : (∃ old, IsEnum s'.heap e it i old) ∧ s'.heap.IsTupleIter it l i ∧ s'.heap.IsTuple l us) (inv : Inv i M' l') (hi : i ≤ len) (hm : m = len + 1 - i) : EnuI W d s S S₁ e it l us Inv len m s'
theorem sx_ForEnum {Q : AFl → Mem → Loc → Prop} {EQ : Mem → Loc → Prop} {elts k tpos iter body pos} (h : Ev W f n iter M loc (ForEH W f n elts k tpos body Q) EQ)
    (hs : ∀ env x, foldedSetIterable iter env x = pure x) : Sx W f n (.For (.Tuple elts k tpos) iter body [] pos) M loc Q EQ := by
  intro d S s ok H
  refine wpAny_For ?_ (hs _)
  refine Run.then le0 rfl (h d S s ok H) fun v s₁ S₁ M₀ l₀ a e₁ k₁ _ H₁ r₁ q₁ => ?_
  obtain ⟨e, it, as, M₁, Inv, rfl, pk, h0, turn, done⟩ := q₁
  cases r₁ using VR.objE
  refine byG fun G_ bk_ => ?_
  obtain ⟨oE, rE, HE, haE⟩ := (H₁.perm pk.perm).hold
  obtain ⟨oI, rI, HI, haI⟩ := HE.hold
  cases rE with
  | enu _ hE =>
  cases rI with
  | tit l ot us _ hsl hot hr hI =>
  subst hE hI
  refine bk_ ?_
  clear bk_
  have gE : s₁.heap.get? e = some (enuO it) := HI.fmAt (e, _) (.tail _ (.head _))
  have gI : s₁.heap.get? it = some (titO l) := HI.fmAt (it, _) (.head _)
  have hT : s₁.heap.IsTuple l us.toArray := ⟨ot, HI.at ok.with.with hsl, hot.1.1, hot.1.2⟩
  have hei : e ≠ it := fun q => by
    rw [q, gI] at gE
    exact absurd (Value.type.inj (Option.some.inj (congrArg (Option.map Obj.cls) gE))) (by decide)
  have hle : l ≠ e := fun q => by
    obtain ⟨o, h1, h2, _⟩ := hT
    rw [q, gE] at h1; (injection h1 with e0; (first | subst e0 | cases e0))
    exact absurd (Value.type.inj h2) (by decide)
  have hli : l ≠ it := fun q => by
    obtain ⟨o, h1, h2, _⟩ := hT
    rw [q, gI] at h1; (injection h1 with e0; (first | subst e0 | cases e0))
    exact absurd (Value.type.inj h2) (by decide)
  have e2 : us.toArray.size = as.length := by rw [List.size_toArray, VRs.len hr]
  have WT := WalksT.enumerateD (prog := W.prog) (w := W.w) (A := d.A.deeper (f.env d)) (drawsTup (prog := W.prog) (w := W.w) (A := (d.A.deeper (f.env d)).in1) ok.hand it l hli us.toArray) e hei (by simp [hei, Ne.symm hle]) (by simp)
  rw [e2] at WT
  -- the two, framed
  have H0 : Here W (d.with [(e, enuO it), (it, titO l)]) S₁ M₁ l₀ s₁.heap := Here.permF (F := [(it, titO l), (e, enuO it)]) HI fun q hq => m_bac hq
  have hF : ∀ q ∈ d.Fm, q.1 ∉ [e, it] := fun q hq hm => by
    simp at hm
    rcases hm with h | h
    · exact haE q hq h
    · exact haI q (.tail _ hq) h
  refine wpAny_mono (Q := fun r s' => r = .ref e ∧ s' = s₁) (E := fun _ _ => False) (WT.self 0 s₁ _ _ ⟨⟨_, gE⟩, ⟨_, gI, rfl, rfl⟩, hT⟩ ⟨rfl, rfl⟩) (fun r s' hrs => ?_) (fun _ _ z => z.elim)
  obtain ⟨rfl, rfl⟩ := hrs
  refine codeAny_for (EnuI W d s S S₁ e it l us.toArray Inv as.length) ?_ (as.length + 1)
    ⟨0, S₁, _, _, M₁, l₀, e₁, k₁, le0, H0, ⟨⟨_, gE⟩, ⟨_, gI, rfl, rfl⟩, hT⟩, h0, Nat.zero_le _, rfl⟩
  rintro m s' ⟨i, S', oe, oi, M', l', e', k', k1', H', st', hinv, hi', rfl⟩
  by_cases hlt : i < as.length
  · refine WT.item i s' _ _ hlt st' fun T vals h' tk hP hsT hTt mid hk => ?_
    obtain ⟨t, x, hx, rfl⟩ := hP
    refine WT.go elts k tpos i T { s' with heap := h', toks := tk } _ _ mid fun h'' st'' hk2 => ?_
    have hTn := WT.apart _ _ _ mid
    refine byG fun G_ bk_ => ?_
    obtain ⟨oT, gT, hcT, nT, hdT⟩ := hTt
    have gT2 : h''.get? T = some oT := hk2 _ _ hTn gT
    obtain ⟨⟨old, gE2⟩, ⟨oi2, gI2, rI2⟩, hT2⟩ := id st''
    obtain ⟨oe2, gE3, eoe⟩ : ∃ oe2, h''.get? e = some oe2 ∧ ∀ h₃ : Heap, h₃.get? e = some oe2 → IsEnum h₃ e it ((i + 1 : Nat) : Int) old := ⟨_, gE2, fun _ q => q⟩
    refine bk_ ?_
    clear bk_
    have H2 : Here W (d.with [(e, oe2), (it, oi2)]) (S'.add T oT) M' l' h'' := H'.updFs (F' := [(e, oe2), (it, oi2)]) rfl hF hsT gT2 (fun b ob hb q => hk2 b ob (by simpa using hb) (hk b ob (by simpa using hb) q)) (fun p hp => by
      rcases List.mem_cons.mp hp with rfl | hp
      · exact gE3
      · rw [List.mem_singleton.mp hp]; exact gI2)
    obtain ⟨a', ha', rv⟩ := vrs_get' hr (by simpa using hx)
    have k2 : TabLe S' (S'.add T oT) := Tab.add_le
    have rv' : VR W (S'.add T oT) (.ref T) (.pair [.int i, a']) := .pair T oT [.int i t, x] _ (.inl Tab.add_at) ⟨hcT, nT, hdT⟩ (.cons _ _ _ _ (.int _ _) (.cons _ _ _ _ ((rv.mono k1').mono k2) .nil))
    refine wpAny_mono (turn i a' M' l' ha' hinv (d.with [(e, oe2), (it, oi2)]) _ { s' with heap := h'', toks := tk } _ ok.with H2 rv') (fun _ s₃ ⟨e₃, S₃, M₃, l₃, _, k₃, H₃, _, q₃⟩ => ?_) (fun _ _ z => (ep_false z).elim)
    refine wpAny_mono (q₃ (d.with [(e, oe2), (it, oi2)]) S₃ s₃ ok.with H₃) (fun fl s₄ ⟨e₄, S₄, M₄, l₄, afl, k₄, H₄, r₄, q₄⟩ => ?_) (fun _ _ z => (ep_false z).elim)
    have e5 := ((e'.trans (show Same s' { s' with heap := h'', toks := tk } from rfl)).trans e₃).trans e₄
    have k4 : TabLe S' S₄ := fun a o x => k₄ a o (k₃ a o (k2 a o x))
    have k5 : TabLe S S₄ := fun a o x => k4 a o (k' a o x)
    have k6 : TabLe S₁ S₄ := fun a o x => k4 a o (k1' a o x)
    have drop : Here W d S₄ M₄ l₄ s₄.heap := Here.permF (F := [(e, oe2), (it, oi2)]) (F' := []) H₄ fun q hq => nomatch hq
    have st5 : (∃ old, IsEnum s₄.heap e it ((i + 1 : Nat) : Int) old) ∧ s₄.heap.IsTupleIter it l (i + 1) ∧ s₄.heap.IsTuple l us.toArray :=
      ⟨⟨old, eoe _ (H₄.fmAt (e, oe2) (.head _))⟩, ⟨oi2, H₄.fmAt (it, oi2) (.tail _ (.head _)), rI2⟩, ⟨ot, H₄.at ok.with (hsl.imp (k6 _ _) id), hot.1.1, hot.1.2⟩⟩
    cases r₄ with
    | next => exact ⟨as.length + 1 - (i + 1), ar_less hlt, i + 1, S₄, oe2, oi2, M₄, l₄, e5, k5, k6, H₄, st5, q₄, hlt, rfl⟩
    | cont => exact ⟨as.length + 1 - (i + 1), ar_less hlt, i + 1, S₄, oe2, oi2, M₄, l₄, e5, k5, k6, H₄, st5, q₄, hlt, rfl⟩
    | brk => exact Run.end e5 k5 drop .next q₄
    | ret v a r => exact Run.end e5 k5 drop (.ret v a r) q₄
  · obtain rfl : i = as.length := by first | exact ar_end hlt (by assumption) | walk_at "om"
    refine WT.done s' _ _ st' fun h'' tk hk => ?_
    refine wpAny_execs_nil ?_
    have drop : Here W d S' M' l' h'' := H'.dropFs hF fun b ob hb q => hk b ob (by simpa using hb) q
    exact Run.end (e'.trans (show Same s' { s' with heap := h'', toks := tk } from rfl)) k' drop .next (done _ _ hinv)
end
end Mine
end
section
open PySem PySem.W PySem.Calls PyProof.Rows PySem.Spec PySem.SeqAt
namespace Mine

section
variable {W : Wd} {f : Fx} {n : Nat} {M M' : Mem} {loc : Loc} {Q : AV → Mem → Loc → Prop} {EQ : Mem → Loc → Prop}
/-- an entry turned, by the ledger alone -/
theorem Here.viaNews {d : Cy} {S : Tab} {h : Heap} {a : Addr} {ao ao' : AO} (x : Here W d S M loc h) (rp : Rp a ao ao' M M') :
    ∃ g m o rest, Ground d g ∧ Fr g d.L h m ∧ News g d.L h ((a, o) :: rest) ∧ (∀ p ∈ rest, p.1 ≠ a) ∧ OR W S o ao ∧ (∀ b ob, S b ob → (b, ob) ∈ rest) ∧
      ∀ h' o', Fr g d.L h' m → News g d.L h' ((a, o') :: rest) → OR W S o' ao' → Here W d S M' loc h' := by
  refine byG fun G_ bk_ => ?_; obtain ⟨g, m, news, G, F, N, LO, LC⟩ := x
  obtain ⟨o, h1, h2⟩ := LO.mem _ rp.mem; refine bk_ ?_; clear bk_
  have sub : ∀ p ∈ (a, o) :: news.filter (fun p => decide (p.1 ≠ a)), p ∈ news := fun p hp => by
    rcases List.mem_cons.mp hp with rfl | hp
    · exact h1
    · exact (List.mem_filter.mp hp).1
  have stay : ∀ p ∈ news, p.1 ≠ a → p ∈ news.filter (fun p => decide (p.1 ≠ a)) := fun p hp hne => List.mem_filter.mpr ⟨hp, decide_eq_true hne⟩
  have tabs : ∀ b ob, S b ob → (b, ob) ∈ news.filter (fun p => decide (p.1 ≠ a)) := fun b ob hb => stay _ (LO.tab b ob hb) fun e => LO.tabM _ rp.mem ob (show S a ob from (show b = a from e) ▸ hb)
  refine ⟨g, m, o, news.filter (fun p => decide (p.1 ≠ a)), G, F, fun p hp => N p (sub p hp), fun p hp => of_decide_eq_true (List.mem_filter.mp hp).2, h2, tabs, fun h' o' F' N' r => ?_⟩
  refine ⟨g, m, _, G, F', N', ⟨fun p hp => .tail _ (stay p (LO.fm p hp) (LO.fmM _ rp.mem p hp)), fun b y hy => .tail _ (tabs b y hy), fun p hp => ?_, by with_reducible refine rwE rp.keys ?_; exact LO.nd, fun p hp => ?_, fun p hp => ?_, LO.tabF⟩, LC⟩
  · rcases rp.back LO.nd p hp with rfl | ⟨hp', hne⟩
    · exact ⟨o', .head _, r⟩
    · refine byG fun G_ bk_ => ?_; obtain ⟨y, h3, h4⟩ := LO.mem p hp'; refine bk_ ?_; clear bk_
      exact ⟨y, .tail _ (stay _ h3 hne), h4⟩
  · rcases rp.back LO.nd p hp with rfl | ⟨hp', _⟩
    · exact fun q hq => LO.fmM (a, ao) rp.mem q hq
    · exact LO.fmM p hp'
  · rcases rp.back LO.nd p hp with rfl | ⟨hp', _⟩
    · exact fun o q => LO.tabM (a, ao) rp.mem o q
    · exact LO.tabM p hp'

theorem nsO_dict {es : List DictEntry} {n : Nat} (h : ∀ e ∈ es, ∃ x t, e.key = .str x t) : NsO (dictOf es n) (es.map (fun e => (keyStr e.key, e.val))) := ⟨es.toArray, n, rfl, by simpa using h, by rfl⟩
theorem t_getAttrM {C dx : Addr} {fs : List (Str × AV)} {name : Str} {a : AV} {attr : Option Value} {b : Bool} (hm : (dx, AO.ns fs) ∈ M) (hg : plainGet W.K C name = true) (hh : hasDictIn W.K C = true) (ha : findIn W.K (.ref C) name = some attr) (hn : noGet W.K attr = true)
    (hl : fs.lookup name = some a) (hv : a.handed = true) (h : Q a M loc) : T1 W f n (VR W) (fun v => getAttr v name b) (.minst C dx) M loc Q EQ := by
  intro d S s v ok H r
  cases r using VR.minstE with
  | minst x hx =>
    obtain ⟨o, ho, ro⟩ := H.memAt hm
    cases ro using OR.nsE with
    | ns es k kvs e1 e2 e3 hr =>
      subst e1 e3
      rcases vrd_find (name := name) hr with ⟨z, _⟩ | ⟨a', u, h1, h2, h3⟩
      · rw [hl] at z; injection z
      · rw [hl] at h1; (injection h1 with e0; (first | subst e0 | cases e0))
        have X : W.K.In s.heap := by obtain ⟨g, m, news, G, F, _⟩ := H; exact (ok.kin' G).keeps F.keep
        have I : PySem.W.InstAt s.heap x (instObj C dx) C (some (dictOf es k)) := ⟨H.at ok hx, rfl, rfl, ho⟩
        exact get_value X I (plainGet_of hg).1 (findObj_own hh ha hn (by (rewrite [ns_find (nsO_dict e2)]; with_reducible refine rwE h2 ?_; with_reducible rfl))) (handed_of h3 hv) (Run.end rfl le0 H h3 h)

theorem putL_of {S : Tab} {k : Str} {c : AV} {v : Value} {hsh : Int} {tk : Tok} (r : VR W S v c) {fs fs' : List (Str × AV)} (p : PutR k c fs fs') : ∀ {es : List DictEntry}, (∀ e ∈ es, ∃ x t, e.key = .str x t) → VRd W S (es.map fun e => (keyStr e.key, e.val)) fs →
    (∀ e ∈ putL k hsh (.str k tk) v es, ∃ x t, e.key = .str x t) ∧ VRd W S ((putL k hsh (.str k tk) v es).map fun e => (keyStr e.key, e.val)) fs' := by
  induction p with
  | here o q =>
    intro es he hr
    cases es with
    | nil => cases hr using VRd.consE
    | cons e es =>
      obtain ⟨x, t, hx⟩ := he e (.head _)
      rw [List.map_cons] at hr
      have e1 : keyStr e.key = x := by rw [hx]; rfl
      rw [e1] at hr
      cases hr using VRd.consE with
      | cons _ _ r1 rs =>
        unfold putL
        (with_reducible refine rwE hx ?_; with_reducible refine rwE (show (Value.str k t).isStr k = (k == k) from rfl) ?_; with_reducible refine rwE (if_pos (by simp)) ?_)
        refine ⟨fun e' he' => ?_, ?_⟩
        · rcases List.mem_cons.mp he' with rfl | he'
          · exact ⟨k, t, rfl⟩
          · exact he e' (.tail _ he')
        · rw [List.map_cons]; exact .cons _ _ _ _ _ r rs
  | there x o q q' hne _ ih =>
    intro es he hr
    cases es with
    | nil => cases hr using VRd.consE
    | cons e es =>
      obtain ⟨y, t, hy⟩ := he e (.head _)
      rw [List.map_cons] at hr
      have e1 : keyStr e.key = y := by rw [hy]; rfl
      rw [e1] at hr
      cases hr using VRd.consE with
      | cons _ _ r1 rs =>
        unfold putL
        (with_reducible refine rwE hy ?_; with_reducible refine rwE (show (Value.str x t).isStr k = (x == k) from rfl) ?_; with_reducible refine rwE hne ?_)
        obtain ⟨h1, h2⟩ := ih (es := es) (fun e' he' => he e' (.tail _ he')) rs
        refine ⟨fun e' he' => ?_, ?_⟩
        · rcases List.mem_cons.mp he' with rfl | he'
          · exact ⟨x, t, hy⟩
          · exact h1 e' he'
        · (with_reducible refine rwE (if_neg Bool.false_ne_true) ?_; with_reducible refine rwE List.map_cons ?_; with_reducible refine rwE e1 ?_); exact .cons _ _ _ _ _ r1 h2
  | nil =>
    intro es he hr
    cases es with
    | nil =>
      refine ⟨fun e' he' => ?_, ?_⟩
      · rcases List.mem_cons.mp he' with rfl | he'
        · exact ⟨k, tk, rfl⟩
        · cases he'
      · exact .cons _ _ _ _ _ r .nil
    | cons e es => cases hr using VRd.nilE
theorem putL_len {k : Str} {hsh : Int} {key v : Value} : ∀ {es : List DictEntry}, (putL k hsh key v es).length ≤ es.length + 1
  | [] => Nat.le_refl _
  | e :: r => by
    unfold putL
    split
    · exact Nat.le_succ _
    · (with_reducible refine rwE List.length_cons ?_; with_reducible refine rwE List.length_cons ?_); exact Nat.succ_le_succ putL_len
theorem t_setAttr {C dx : Addr} {fs fs' : List (Str × AV)} {name : Str} {a : AV} {Q : Unit → Mem → Loc → Prop} (rp : Rp dx (.ns fs) (.ns fs') M M') (p : PutR name a fs fs') (hz : fs.length < 1000)
    (hs : findIn W.K (.ref C) "__setattr__" = some (some (.builtin "object.__setattr__"))) (hp : plainOver W.K C = true) (ht : takerIn W.K C name = some none) (hh : hasDictIn W.K C = true) (h : Q () M' loc) :
    T2 W f n UR (fun ov v => setAttr ov name v) (.minst C dx) a M loc Q EQ := by
  intro d S s ov v ok H r₁ r₂
  cases r₁ using VR.minstE with
  | minst x hx =>
    refine byG fun G_ bk_ => ?_; obtain ⟨g, m, o, rest, G, F, N, hap, ro, tabs, fin⟩ := H.viaNews rp; refine bk_ ?_; clear bk_
    cases ro using OR.nsE with
    | ns es k kvs e1 e2 e3 hr =>
      refine byG fun G_ bk_ => ?_; subst e1 e3
      have I : PySem.W.InstAt s.heap x (instObj C dx) C (some (dictOf es k)) := ⟨H.at ok hx, rfl, rfl, (N _ (.head _)).1⟩
      obtain ⟨q1, q2⟩ := putL_of (hsh := PyData.keyHash W.w.params name) (tk := s.toks + 1) r₂ p e2 hr; refine bk_ ?_; clear bk_
      have hlen : es.length = fs.length := by have := vrd_len hr; simpa using this
      refine set_dict F (ok.kin' G) N I rfl hs hp ht hh ?_ rfl (.head hap) (Nat.le_trans putL_len (by walk_at "om")) fun h' F' N' => ?_
      · have := ns_find (nsO_dict (n := k) e2) name
        rw [lookIn_dict] at this
        rw [this]; rfl
      · exact Run.end (b := ()) rfl le0 (fin h' _ F' N' (.ns _ _ _ _ fs' rfl q1 rfl q2)) trivial h
theorem sx_AssignAttr {o attr pos' value pos} {Q : AFl → Mem → Loc → Prop} (h : Ev W f n value M loc (fun a M₁ l₁ => Ev W f n o M₁ l₁ (fun b M₂ l₂ => T2 W f n UR (fun ov v => setAttr ov attr v) b a M₂ l₂ (fun _ M l => Q .next M l) EQ) EQ) EQ)
    (hs : ∀ env, swapsWith value (some (.Attribute o attr pos')) pos.line env = pure false) : Sx W f n (.Assign [.Attribute o attr pos'] value pos) M loc Q EQ := by
  intro d S s ok H
  refine plainObj_wpAny_Assign_Attribute ?_ (hs _)
  refine Run.then le0 rfl (h d S s ok H) fun v s₁ S₁ M₁ l₁ a e₁ k₁ _ H₁ r₁ q₁ => ?_
  refine Run.then k₁ e₁ (q₁ d S₁ s₁ ok H₁) fun u s₂ S₂ M₂ l₂ b e₂ k₂ k₂' H₂ r₂ q₂ => ?_
  exact wpAny_mono (Run.up k₂ e₂ (q₂ d S₂ s₂ u v ok H₂ r₂ (r₁.mono k₂'))) (fun _ s' ⟨e, S', M', l', b, k, H', _, q⟩ => ⟨e, S', M', l', .next, k, H', .next, q⟩) fun _ _ z => z

noncomputable def made1 (A : Around) : Around := { A with depth := A.depth + 1, units := A.units + 1 }
theorem under_create {A : Around} {C : Addr} {vs : List Value} {kw : List (Str × Value)} : A.under (.builtin "type.__call__" ⟨.ref C :: vs, kw⟩) = made1 A := by
  obtain ⟨hd, d, fr, gs, u⟩ := A
  have g : (Code.builtin "type.__call__" ⟨.ref C :: vs, kw⟩).isGuard = false := by refine (?_ : guardIds.contains "type.__call__" = false); decide +kernel
  have w : (Code.builtin "type.__call__" ⟨.ref C :: vs, kw⟩).weight = 1 := by unfold Code.weight; rw [g]; rfl
  have e : (Code.builtin "type.__call__" ⟨.ref C :: vs, kw⟩).envs = [] := rfl
  have gg : (Code.builtin "type.__call__" ⟨.ref C :: vs, kw⟩).guards = [] := by unfold Code.guards; rw [g]; rfl
  unfold Around.under made1
  (with_reducible refine rwE w ?_; with_reducible refine rwE e ?_; with_reducible refine rwE gg ?_)
  first | rfl | (cases fr <;> cases gs <;> rfl)
theorem Ok.in1 {d : Cy} (ok : Ok W f (n + 1) d) : Ok W f n { d with A := made1 d.A } :=
  ⟨ok.kind, ok.kin, ok.top, ar_in ok.room, ar_units (k := 1) (by decide) ok.units, ok.hand, ok.mods, ok.cells, ok.mode⟩
theorem Ground.in1 {d : Cy} {g : Heap} (G : Ground d g) : Ground { d with A := made1 d.A } g := ⟨⟨G.below.stack, G.below.stays, G.below.frames⟩, G.turn, G.dicts⟩
theorem Ground.out1 {d : Cy} {g : Heap} (G : Ground { d with A := made1 d.A } g) : Ground d g := ⟨⟨G.below.stack, G.below.stays, G.below.frames⟩, G.turn, G.dicts⟩
/-- an object is made -/
theorem t_new {C fI : Addr} {as : List AV} (hm : makesIn W.K C = true) (hi : findIn W.K (.ref C) "__init__" = some (some (.ref fI))) (hf : isFn W.K (.ref fI) = true)
    (h : ∀ dx, Tc W f n fI (.minst C dx :: as) ((dx, .ns []) :: M) loc (fun b M' l' => b = .none ∧ Q (.minst C dx) M' l') EQ) : Ts W f (n + 1) (VR W) (fun vs => call (.ref C) vs) as M loc Q EQ := by
  intro d S s vs ok H rs
  obtain ⟨g, m, news, G, F, N, LO, LC⟩ := id H
  have X : W.K.In s.heap := (ok.kin' G).keeps F.keep
  obtain ⟨hh, gs, dr, tk, os⟩ := s
  refine wpAny_call (make_core (makes_of X hm) (looks_findIn X hi) (fun self => bind_fn X self (beq_iff_eq.mp hf)) (.inl rfl) ?_)
  have H1 : Here W d S ((hh.objs.size, AO.ns []) :: M) loc (hh.push emptyDict) := H.allocM ok emptyDict (.ns _ [] 0 [] [] rfl (fun _ h => nomatch h) rfl .nil)
  have H2 := H1.allocS (instObj C hh.objs.size)
  have ez : (hh.push emptyDict).objs.size = hh.objs.size + 1 := Heap.size_push ..
  rw [ez] at H2
  have k2 : TabLe S (S.add (hh.objs.size + 1) (instObj C hh.objs.size)) := Tab.add_le
  with_reducible refine rwE (show (d.A.deeper (f.env d)).under (.builtin "type.__call__" ⟨.ref C :: vs, []⟩) = (made1 d.A).deeper (f.env d) from under_create) ?_
  have H3 : Here W { d with A := made1 d.A } (S.add (hh.objs.size + 1) (instObj C hh.objs.size)) ((hh.objs.size, AO.ns []) :: M) loc ((hh.push emptyDict).push (instObj C hh.objs.size)) := by
    obtain ⟨g, m, news, G, F, N, LO, LC⟩ := H2
    exact ⟨g, m, news, G.in1, F, N, LO, LC⟩
  refine codeAny_mono (h hh.objs.size { d with A := made1 d.A } _ ⟨_, gs, dr, tk, os⟩ (.ref (hh.objs.size + 1) :: vs) ok.in1 H3 (.cons _ _ _ _ (.minst _ _ _ (.inl Tab.add_at)) (rs.mono k2))) fun r s' z => ?_
  cases r with
  | error e =>
    obtain ⟨e₀, ea, t, ws, g, m, news, S', M', loc', h2, k, G', LO', LC', q, st⟩ := z
    refine ⟨(show Same _ _ from rfl).trans e₀, ea, t, ws, g, m, news, S', M', loc', h2, fun a o x => k a o (k2 a o x), G'.out1, LO', LC', q, ?_⟩
    cases st with
    | fresh h a b c => exact .fresh h a b c
    | fly G a b c => exact .fly G a b c
    | held G a b c => exact .held G a b c
  | ok fl =>
    cases fl with
    | ret v =>
      obtain ⟨e₀, S', M', l', b, k, H', r', rfl, q⟩ := z
      cases r' using VR.noneE
      refine ⟨rfl, (show Same _ _ from rfl).trans e₀, S', M', l', _, fun a o x => k a o (k2 a o x), ?_, .minst _ _ _ (.inl (k _ _ Tab.add_at)), q⟩
      obtain ⟨g, m, news, G, F, N, LO, LC⟩ := H'
      exact ⟨g, m, news, G.out1, F, N, LO, LC⟩
    | next => exact z
    | brk => exact z
    | cont => exact z
/-- an object that turns no more -/
theorem VR.fix {d : Cy} {S : Tab} {h : Heap} {C dx : Addr} {fs : List (Str × AV)} {v : Value} (H : Here W d S M loc h) (pk : Pick dx (.ns fs) M M') (r : VR W S v (.minst C dx)) : ∃ S', TabLe S S' ∧ Here W d S' M' loc h ∧ VR W S' v (.finst C fs) := by
  refine byG fun G_ bk_ => ?_; obtain ⟨o, ro, H', k⟩ := H.freeze pk; refine bk_ ?_; clear bk_
  cases r using VR.minstE with
  | minst x hx =>
    cases ro using OR.nsE with
    | ns es n kvs e1 e2 e3 hr =>
      subst e1 e3
      exact ⟨_, k, H', .finst x dx _ C _ fs (hx.imp (k _ _) id) (.inl Tab.add_at) (nsO_dict e2) (hr.mono k)⟩
theorem t_newF {C fI : Addr} {as : List AV} (hm : makesIn W.K C = true) (hi : findIn W.K (.ref C) "__init__" = some (some (.ref fI))) (hf : isFn W.K (.ref fI) = true)
    (h : ∀ dx, Tc W f n fI (.minst C dx :: as) ((dx, .ns []) :: M) loc (fun b M' l' => b = .none ∧ ∃ fs M'', Pick dx (.ns fs) M' M'' ∧ Q (.finst C fs) M'' l') EQ) : Ts W f (n + 1) (VR W) (fun vs => call (.ref C) vs) as M loc Q EQ := by
  intro d S s vs ok H rs
  refine wpAny_mono (t_new (Q := fun b M' l' => ∃ dx fs M'', b = .minst C dx ∧ Pick dx (.ns fs) M' M'' ∧ Q (.finst C fs) M'' l') hm hi hf (fun dx d S s vs ok H rs => codeAny_mono (h dx d S s vs ok H rs) fun r s' z => ?_) d S s vs ok H rs) (fun v s' ⟨e, S', M', l', b, k, H', r, q⟩ => ?_) fun _ _ z => z
  · cases r with
    | error e => exact z
    | ok fl =>
      cases fl with
      | ret v =>
        refine byG fun G_ bk_ => ?_; obtain ⟨e₀, S', M', l', b, k, H', r', rfl, fs, M'', pk, q⟩ := z; refine bk_ ?_; clear bk_
        exact ⟨e₀, S', M', l', .none, k, H', r', rfl, dx, fs, M'', rfl, pk, q⟩
      | next => exact z
      | brk => exact z
      | cont => exact z
  · refine byG fun G_ bk_ => ?_; obtain ⟨dx, fs, M'', rfl, pk, q⟩ := q
    obtain ⟨S₂, k₂, H₂, r₂⟩ := r.fix H' pk; refine bk_ ?_; clear bk_
    exact ⟨e, S₂, M'', l', _, fun a o x => k₂ a o (k a o x), H₂, r₂, q⟩
end
end Mine
end
section
open PySem PySem.W PySem.Calls PyProof.Rows PySem.Spec PySem.SeqAt
namespace Mine

/-! a fault of the program's own is made -/
noncomputable abbrev excBm (D : Addr) : List Value := [.ref D, .type "Exception", .type "BaseException", .type "object"]
section
variable {prog : Program} {w : World} {M : Model} {A : Around} {E : Value → Shared → Prop} {R : Result → Shared → Prop} {h : Heap} {g : Array GenState} {d : Drawn} {t : Nat} {os : OsState}
variable {nm q : Str} {C D N : Addr} {bs : List Value} {hdct : Bool} {sn : List Str} {sub : List Value} {ab : Bool} {col : Option Bool} {dd : Option Addr} {k0 k1 k2 k3 k5 : Option Value}
theorem exc_check {rest : List Value} {Q : Unit → Shared → Prop} (hC : h.get? C = some (excClassObj nm q C N bs (excBm D) hdct sn sub ab col dd k0 k1 k2 k3 k5 "Exception.__new__"))
    (hq : Q () ⟨h, g, d, t, os⟩) : wpAny M A (checkBuiltinCall "Exception.__new__" ⟨.ref C :: rest, []⟩) Q E ⟨h, g, d, t, os⟩ := by
  have F := PySem.F.excBase_Exception
  have hcont : (Value.ref C :: excBm D).contains (.type "Exception") = true := rfl
  have hstar := F.noStar
  delta checkBuiltinCall
  have hp : (builtinKind "Exception.__new__", splitId "Exception.__new__") = (some .builtinFn, some ("Exception", "__new__")) := by rw [F.newKind, F.newSplit]
  with_reducible refine rwE hp ?_
  dsimp only
  repeat (first | refine wpAny_loadPart_at hC ?_ | (refine wpAny_isSubtype_exc hC ?_; refine rwE hcont ?_) | refine wpAny_staticBase_exc hC ?_ | refine wpAny_madeBy_exc hC ?_ | refine wp_else (by decide) ?_ |  wp_step)
  exact hq
theorem exc_code {rest : List Value} (hC : h.get? C = some (excClassObj nm q C N bs (excBm D) hdct sn sub ab col dd k0 k1 k2 k3 k5 "Exception.__new__"))
    (hq : R (.ok (.ret (.ref (h.objs.size + 1)))) ⟨(h.push { cls := .type "tuple", data := .seq rest.toArray }).push
      { cls := .ref C, data := .fields #[.ref h.objs.size, .none, .none, .none, .bool false, .none] }, g, d, t, os⟩) (hrest : rest.length ≤ sizeLine := by size_fits) :
    codeAny (model prog w) A (.builtin "Exception.__new__" ⟨.ref C :: rest, []⟩) R ⟨h, g, d, t, os⟩ := by
  have F := PySem.F.excBase_Exception
  have hends := F.ends
  have hcB : (Value.ref C :: excBm D).contains (.type "Exception") = true := rfl
  have hcA : (Value.ref C :: excBm D).contains (.type "AttributeError") = false := rfl
  have hcN : (Value.ref C :: excBm D).contains (.type "NameError") = false := rfl
  refine codeAny_builtinAt F.entry ?_
  refine _root_.PySem.wpAt_bind ?_
  refine (?_ : _root_.PySem.wpAt _ _ _ (stack >>= _) _ _ _)
  refine _root_.PySem.wpAt_bind (_root_.PySem.wpAt_stack fun p below => _root_.PySem.wpAt_of_wpAny ?_)
  wp_walk
  refine _root_.PySem.wpAt_of_wpAny ?_
  with_reducible refine rwE F.owner ?_
  repeat (first | with_reducible refine wpAny_madeHere_exc F.canon hC ?_ | with_reducible refine wpAny_loadPart_at hC ?_ | (with_reducible refine wpAny_isSubtype_exc hC ?_; first | with_reducible refine rwE hcB ?_ | with_reducible refine rwE hcA ?_ | with_reducible refine rwE hcN ?_) | wp_step)
  refine (?_ : R _ _)
  rw [Heap.size_push]
  exact hq
noncomputable abbrev excO (C t : Addr) : Obj := { cls := .ref C, data := .fields #[.ref t, .none, .none, .none, .bool false, .none] }
theorem exc_call {K : Frag} {rest : List Value} {fI : Addr} {Q : Value → Shared → Prop} (X : K.In h)
    (hC : h.get? C = some (excClassObj nm q C N bs (excBm D) hdct sn sub ab col dd k0 k1 k2 k3 k5 "Exception.__new__")) (hi : findIn K (.ref C) "__init__" = some (some (.ref fI))) (hf : isFn K (.ref fI) = true)
    (hq : ∀ h', (∀ b o, h.get? b = some o → h'.get? b = some o) → h'.get? (h.objs.size + 1) = some (excO C h.objs.size) → h'.objs.size = h.objs.size + 2 →
      codeAny (model prog w) (made1 A) (.call (.ref fI) ⟨.ref (h.objs.size + 1) :: rest, []⟩) (InitBack (h.objs.size + 1) fun r s' => match r with | .ok (.ret v) => Q v s' | .ok _ => False | .error e => E e s') ⟨h', g, d, t, os⟩) (hrest : rest.length ≤ sizeLine := by size_fits) :
    wpAny (model prog w) A (call (.ref C) rest) Q E ⟨h, g, d, t, os⟩ := by
  have f1 := tc_lookup
  have f2 := tc_bind (.ref C)
  have hT : (⟨h, g, d, t, os⟩ : Shared).TypeIs (.ref C) "type" := ⟨_, hC, rfl⟩
  refine wpAny_call (codeAny_of_tree ?_)
  refine (?_ : wpAny _ _ (callAny (.ref C) _) _ _ _)
  repeat (any_goals (first | assumption | with_reducible refine wpAny_loadPart_at hC ?_ | wp_step))
  refine ⟨rfl, ?_⟩
  refine codeAny_call_builtin_at (Code.quiet_builtin _ (by decide +kernel)) entry_typeCall (wpAny_check_type_call_sub hC ?_)
  with_reducible refine rwE (show A.under (.builtin "type.__call__" ⟨[.ref C] ++ (⟨rest, []⟩ : Args).pos, []⟩) = made1 A from under_create) ?_
  have F := PySem.F.excBase_Exception
  repeat (first | with_reducible refine wpAny_loadPart_at hC ?_ | with_reducible refine wpAny_madeBy_exc hC ?_ | wp_step)
  refine codeAny_call_builtin_code (Code.quiet_builtin _ F.quiet) (exc_check hC ?_)
  refine exc_code (rest := rest) hC ?_ hrest
  have hC₁ := Heap.get?_push_of_some { cls := .ref C, data := .fields #[.ref h.objs.size, .none, .none, .none, .bool false, .none] } (Heap.get?_push_of_some { cls := .type "tuple", data := .seq rest.toArray } hC)
  have keep : ∀ b o, h.get? b = some o → ((h.push { cls := .type "tuple", data := .seq rest.toArray }).push { cls := .ref C, data := .fields #[.ref h.objs.size, .none, .none, .none, .bool false, .none] }).get? b = some o := fun b o e => Heap.get?_push_of_some _ (Heap.get?_push_of_some _ e)
  have hget : ((h.push { cls := .type "tuple", data := .seq rest.toArray }).push { cls := .ref C, data := .fields #[.ref h.objs.size, .none, .none, .none, .bool false, .none] }).get? (h.objs.size + 1) = some { cls := .ref C, data := .fields #[.ref h.objs.size, .none, .none, .none, .bool false, .none] } := by heap_get
  have hcC : (Value.ref C :: excBm D).contains (.ref C) = true := by (with_reducible refine rwE List.contains_cons ?_; with_reducible refine rwE (beq_self_eq_true (Value.ref C)) ?_); rfl
  have X₁ : K.In ((h.push { cls := .type "tuple", data := .seq rest.toArray }).push { cls := .ref C, data := .fields #[.ref h.objs.size, .none, .none, .none, .bool false, .none] }) := X.keeps keep
  unfold isInstance
  repeat (first | with_reducible refine wpAny_loadPart_at hget ?_ | (refine wpAny_isSubtype_exc hC₁ ?_; with_reducible refine rwE hcC ?_) | wp_step)
  refine (?_ : wpAny _ _ (typeLookup (.ref C) _) _ _ _)
  refine (looks_findIn X₁ hi).at ?_
  refine wpAny_holding (wpAny_bind ((bind_fn X₁ _ (beq_iff_eq.mp hf)).at ?_))
  refine wpAny_bind (wpAny_call (codeAny_mono (hq _ keep hget (by rw [Heap.size_push, Heap.size_push])) fun r s' z => ?_))
  cases r with
  | error e => exact z
  | ok fl =>
    cases fl with
    | ret v =>
      obtain ⟨rfl, z⟩ := z
      first
        | exact wpAny_pure (wpAny_pure z)
        | (wp_walk; exact z)
    | next => exact z
    | brk => exact z
    | cont => exact z

/-! its own __init__: super().__init__(what); self.what = what -/
open Builtin Builtin.ObjectAttr
theorem exc_refuse (x D C : Addr) : refuseLoop (.ref x) "__setattr__" [.ref C, .ref D, .type "Exception", .type "BaseException", .type "object"] = pure () := by
  rw [refuseLoop_ref, refuseLoop_ref]
  exact PySem.F.store_Exception.passes _
theorem exc_setattr {K : Frag} {x : Addr} {oc : Value} {od : Option Addr} {cd : ClassData} {sl : Array (Option Value)} {fs : Array Value} {name : Str} {v : Value} {Q : Unit → Shared → Prop} (X : K.In h) (hx : h.get? x = some { cls := .ref C, data := .fields fs })
    (hC : K.lookup C = some ⟨oc, od, .cls cd, sl⟩) (hm : cd.mro = .ref C :: excBm D) (hd : cd.hasDict = true) (hs : findIn K (.ref C) "__setattr__" = some (some (.builtin "object.__setattr__"))) (ht : takerIn K C name = some none)
    (hq : ∀ h' t' dx, (∀ b o, b ≠ x → h.get? b = some o → h'.get? b = some o) → h'.get? x = some { cls := .ref C, dict := some dx, data := .fields fs } → Q () ⟨h', g, d, t', os⟩) :
    wpAny (model prog w) A (setAttr (.ref x) name v) Q E ⟨h, g, d, t, os⟩ := by
  have I : PySem.W.InstAt h x { cls := .ref C, data := .fields fs } C none := ⟨hx, rfl, rfl, trivial⟩
  refine set_plain (s := ⟨h, g, d, t, os⟩) X I hs ?_
  have SF := PySem.F.store_object
  have hc : clsIn K C = some cd := by unfold clsIn; (with_reducible refine rwE hC ?_; with_reducible rfl)
  have ne : cd.mro.isEmpty = false := by rw [hm]; rfl
  have sub : Looks (model prog w) h (isInstance (.ref x) (.type "object")) true := I.type.andThen (looks_mroIn X (by unfold mroIn; rw [hc, Option.bind_some, if_neg (by with_reducible refine rwE ne ?_; decide), hm]; simp))
  refine codeAny_call_builtin SF.slot.plain SF.entry (@check_slot (model prog w) _ _ _ "object.__setattr__" "object" "__setattr__" (.ref x) [.str name t, v] [] _ SF.kind SF.split sub (SF.args (.ref x) (.str name t) v) ?_)
  have hm' : Looks (model prog w) h (mroOf (.ref C)) cd.mro := (looks_clsIn X hc).andThen .now
  refine byG fun G_ bk_ => ?_; obtain ⟨attr, ha, hr⟩ := Option.bind_eq_some_iff.mp ht; refine bk_ ?_; clear bk_
  have L3 : Looks (model prog w) h (storeTaker? attr) none := by
    cases attr with
    | none => exact .now
    | some a =>
      refine byG fun G_ bk_ => ?_; obtain ⟨b, hb, e⟩ := Option.map_eq_some_iff.mp hr; refine bk_ ?_; clear bk_
      refine (looks_takesIn X hb).andThen ?_
      cases b with
      | false => exact .now
      | true => injection e
  rw [osa_eq, refuse_eq]
  refine wpAny_bind (wpAny_bind (I.type.at (wpAny_bind (hm'.at ?_))))
  (with_reducible refine rwE hm ?_; rewrite [exc_refuse])
  refine wpAny_pure (wpAny_bind (I.type.at (wpAny_bind ((looks_findIn X ha).at (wpAny_bind (L3.at ?_))))))
  dsimp only
  refine wpAny_bind (wpAny_pure ?_)
  refine wpAny_bind (wpAny_bind (wpAny_loadPart_at hx ?_))
  dsimp only
  refine wpAny_bind ((looks_clsIn X hc).at ?_)
  with_reducible refine rwE hd ?_
  (with_reducible refine rwE (if_neg (by decide)) ?_; with_reducible refine rwE (if_neg (by simp [typeHasDict])) ?_)
  have hx₁ : (h.push { cls := .type "dict", data := .dict #[] }).get? x = some { cls := .ref C, data := .fields fs } := Heap.get?_push_of_some _ hx
  have hxs : x ≠ h.objs.size := Nat.ne_of_lt (Heap.lt_size hx)
  refine wpAny_bind (wpAny_alloc' ?_)
  refine wpAny_bind (wpAny_update' hx₁ ?_)
  refine wpAny_pure ?_
  have hgd : ((h.push { cls := .type "dict", data := .dict #[] }).update x fun o => { cls := o.cls, dict := some h.objs.size, data := o.data, slots := o.slots }).get? h.objs.size = some { cls := .type "dict", data := .dict #[] } :=
    (Heap.get?_update_ne _ _ _ _ hxs.symm).trans (Heap.get?_push_at rfl rfl)
  have hnd : ((h.push { cls := .type "dict", data := .dict #[] }).update x fun o => { cls := o.cls, dict := some h.objs.size, data := o.data, slots := o.slots }).Ns h.objs.size (fun _ => none) :=
    ⟨_, #[], _, hgd, rfl, fun e he => absurd he (by simp), fun _ => rfl⟩
  refine (?_ : wpAny _ _ (storeInDict h.objs.size (.str name t) name v) _ _ _)
  refine wpAny_bind (wpAny_pure (wpAny_bind (wpAny_nsSet1 (Heap.Ns1.of_empty hnd) fun h' hn' hs' => ?_)))
  refine byG fun G_ bk_ => ?_; obtain ⟨oD, esD, epD, hoD, hdD, hcD⟩ := hn'.count (Within.cons name v Within.nil); refine bk_ ?_; clear bk_
  refine wpAny_bind (wpAny_lookBehind hoD (by with_reducible refine rwE hdD ?_; exact pastItsLine_dict (Nat.le_trans hcD (by (with_reducible refine rwE List.length_cons ?_; with_reducible refine rwE List.length_nil ?_; with_reducible refine rwE sizeLine_eq ?_); walk_at "om"))) ?_)
  refine wpAny_pure (hq h' _ h.objs.size (fun b ob hbx hb => ?_) ?_)
  · exact (hs'.2 b (Nat.ne_of_lt (Heap.lt_size hb))).trans ((Heap.get?_update_ne _ _ _ _ hbx).trans (Heap.get?_push_of_some _ hb))
  · exact (hs'.2 x hxs).trans (Heap.get?_update_self _ hx₁ rfl)
end
end Mine
end
section
open PySem PySem.W PySem.Calls PyProof.Rows PySem.Spec PySem.SeqAt
namespace Mine
noncomputable abbrev initId : String := "Exception.__init__"
theorem ei_type : typeOf (.builtin "Exception.__init__") = pure (.type "wrapper_descriptor") := by refine (?_ : builtinType _ = _); with_reducible refine rwE builtinType_eq_fast ?_; kernel_rfl
theorem slot_wd_get : Slot "wrapper_descriptor" "__get__" "wrapper_descriptor.__get__" := .of (owner := "wrapper_descriptor") (n := "__get__") (by (rewrite [typeLookup_type]; with_reducible refine rwE builtinLookup_eq_fast ?_); kernel_rfl) (by decide +kernel) (by decide +kernel) (by decide +kernel)
  (by first | exact .inl (by decide +kernel) | exact .inr (by decide +kernel)) (by rw [isSubtype_type]; kernel_rfl)
theorem entry_wd_get : entryFor table "wrapper_descriptor.__get__" = some Builtin.«wrapper_descriptor.__get__» := entryFor_of_tree (by kernel_rfl)
theorem args_wd_get (a b c : Value) : argsOk "wrapper_descriptor.__get__" ⟨[a, b, c], []⟩ := by unfold argsOk; kernel_rfl
section
variable {prog : Program} {w : World} {M : Model} {A : Around} {E : Value → Shared → Prop} {R : Result → Shared → Prop} {h : Heap} {g : Array GenState} {d : Drawn} {t : Nat} {os : OsState}
noncomputable abbrev mwO (x : Addr) : Obj := { cls := .type "method-wrapper", data := .fields #[.builtin "Exception.__init__", .ref x] }
theorem wd_get {x C : Addr} {Q : Value → Shared → Prop} (hi : Looks (model prog w) h (isInstance (.ref x) (.type "Exception")) true) (hC : (Value.ref C == Value.none) = false)
    (hq : Q (.ref h.objs.size) ⟨h.push (mwO x), g, d, t, os⟩) : wpAny (model prog w) A (call (.builtin "wrapper_descriptor.__get__") [.builtin "Exception.__init__", .ref x, .ref C]) Q E ⟨h, g, d, t, os⟩ := by
  have hT : (⟨h, g, d, t, os⟩ : Shared).TypeIs (.builtin "Exception.__init__") "wrapper_descriptor" := ei_type
  refine wpAny_call_entry slot_wd_get hT entry_wd_get ?_ (args_wd_get _ _ _)
  refine wpAny_bind (wpAny_of_eq (a := (Value.builtin "Exception.__init__", some (Value.ref x), some (Value.ref C))) rfl ?_)
  refine wpAny_bind ?_
  refine wpAny_bind (wpAny_of_eq (a := (("__init__" : Str), Value.type "Exception")) (by kernel_rfl) ?_)
  refine wpAny_bind (hi.at ?_)
  refine wpAny_pure ?_
  refine wpAny_bind ?_
  exact wpAny_newObj_type (wpAny_pure ⟨_, rfl, hq⟩)
theorem exc_super_ga {so D x C : Addr} {l₀ l : List Value} {K : Frag} {name : Str} {tk : Tok} {Q : Fin → Shared → Prop}
    (hso : h.get? so = some { cls := .type "super", dict := none, data := .fields #[.ref D, .ref x, .ref C], slots := #[] }) (hno : Looks (model prog w) h (opaqueClassAbove (.ref C)) none)
    (hC : Looks (model prog w) h (mroOf (.ref C)) l₀) (hl : (l₀.dropWhile (· != .ref D)).drop 1 = l) (X : K.In h)
    (hf : alongIn K name l = some (some (.builtin "Exception.__init__"))) (hi : Looks (model prog w) h (isInstance (.ref x) (.type "Exception")) true) (hxC : x ≠ C) (hn : (name == ("__class__" : Str)) = false)
    (hq : Q (.done (.ret (.ref h.objs.size))) ⟨h.push (mwO x), g, d, t, os⟩) :
    wpAny (model prog w) A (Builtin.«super.__getattribute__» ⟨[.ref so, .str name tk], []⟩) Q E ⟨h, g, d, t, os⟩ := by
  have hlk := slot_wd_get.lookup
  have hne : (Value.ref x == Value.ref C) = false := by simp [hxC]
  have hTf : (⟨h, g, d, t, os⟩ : Shared).TypeIs (.builtin "Exception.__init__") "wrapper_descriptor" := ei_type
  have hdt : ({ cls := .type "super", dict := none, data := .fields #[.ref D, .ref x, .ref C], slots := #[] } : Obj).data = .fields #[.ref D, .ref x, .ref C] := rfl
  have f0 : (#[.ref D, .ref x, .ref C] : Array Value)[0]? = some (.ref D) := rfl
  have f1 : (#[.ref D, .ref x, .ref C] : Array Value)[1]? = some (.ref x) := rfl
  have f2 : (#[.ref D, .ref x, .ref C] : Array Value)[2]? = some (.ref C) := rfl
  repeat (first
    | (with_reducible refine wpAny_field hso hdt f0 ?_) | (with_reducible refine wpAny_field hso hdt f1 ?_) | (with_reducible refine wpAny_field hso hdt f2 ?_)
    | (with_reducible refine ks_wpAny_notOpaque hno ?_)
    | (with_reducible refine Looks.at hC ?_; with_reducible refine rwE hl ?_)
    | (refine ks_forIn_along X (fun _ _ => rfl) rfl ?_ hf)
    | (with_reducible refine wpAny_typeOf hTf ?_)
    | (with_reducible refine wd_get hi rfl ?_)
    | (with_reducible refine ⟨_, rfl, ?_⟩)
    | (refine wp_else (by first | exact ne_true_of_eq_false hn | exact ne_true_of_eq_false hne | (simp only [hn, hne, Bool.or_false, Bool.false_eq_true, not_false_eq_true]; done)) ?_)
    | (with_reducible refine rwE (if_neg (ne_true_of_eq_false hne)) ?_)
    | (rw [if_neg (ne_true_of_eq_false hne)])
    | wp_step
    | dsimp only)
  all_goals exact hq
theorem exc_super_meth {so D x C : Addr} {l₀ l : List Value} {K : Frag} {name : Str} {pl : Sem Bool} {Q : Value × List Value → Shared → Prop}
    (hso : h.get? so = some { cls := .type "super", dict := none, data := .fields #[.ref D, .ref x, .ref C], slots := #[] }) (hno : Looks (model prog w) h (opaqueClassAbove (.ref C)) none)
    (hC : Looks (model prog w) h (mroOf (.ref C)) l₀) (hl : (l₀.dropWhile (· != .ref D)).drop 1 = l) (X : K.In h)
    (hf : alongIn K name l = some (some (.builtin "Exception.__init__"))) (hi : Looks (model prog w) h (isInstance (.ref x) (.type "Exception")) true) (hxC : x ≠ C) (hn : (name == ("__class__" : Str)) = false)
    (hq : Q (.ref h.objs.size, []) ⟨h.push (mwO x), g, d, t + 1, os⟩) :
    wpAny (model prog w) A (getMethod (.ref so) name pl) Q E ⟨h, g, d, t, os⟩ := by
  have hlk := F.ks_slot_super_ga.lookup
  have hcan := F.ks_canon_super_ga
  have hT : ∀ t', (⟨h, g, d, t', os⟩ : Shared).TypeIs (.ref so) "super" := fun _ => ⟨_, hso, rfl⟩
  refine wpAny_bind (wpAny_specialOf (hT _) hlk ?_)
  refine wpAny_bind (wpAny_bind (wpAny_mkText (wpAny_holding (wpAny_bind (wpAny_typeOf (hT _) (wpAny_bind (wpAny_of_eq hlk ?_)))))))
  refine wpAny_bind (wpAny_of_eq (show (if onTheHeap (.type "super") then typeLookup (.type "super") "__getattr__" else pure none) = pure none from rfl) ?_)
  refine wpAny_bind (wpAny_attempt (wpAny_holding ?_))
  refine (?_ : wpAny _ _ (bindSpecial (.builtin "super.__getattribute__") (.ref so) >>= _) _ _ _)
  refine wpAny_bind (wpAny_of_eq (F.ks_slot_super_ga.bind _) ?_)
  refine wpAny_mono (Q := fun v s' => v = .ref h.objs.size ∧ s' = ⟨h.push (mwO x), g, d, t + 1, os⟩) (E := fun _ _ => False)
    (wpAny_call_entry F.ks_slot_super_ga (hT _) F.ks_entry_super_ga (exc_super_ga hso hno hC hl X hf hi hxC hn ⟨_, rfl, rfl, rfl⟩) (F.ks_gaArgs_super _ _)) (fun v s' hv => ?_) fun _ _ z => z.elim
  obtain ⟨rfl, rfl⟩ := hv
  exact wpAny_pure (wpAny_pure hq)
end
section
variable {prog : Program} {w : World} {M : Model} {A : Around} {E : Value → Shared → Prop} {R : Result → Shared → Prop} {h : Heap} {g : Array GenState} {d : Drawn} {t : Nat} {os : OsState}
theorem mw_call {q x C a0 : Addr} {v : Value} {fs : Array Value} {oc : Obj} {cd : ClassData} {Q : Value → Shared → Prop} (hC : h.get? C = some oc) (hCd : oc.data = .cls cd) (hq0 : h.get? q = some (mwO x)) (hx : h.get? x = some { cls := .ref C, data := .fields fs }) (h0 : fs[0]? = some (.ref a0))
    (hi : Looks (model prog w) h (isInstance (.ref x) (.type "Exception")) true)
    (hQ : ∀ h', (∀ b o, b ≠ x → h.get? b = some o → h'.get? b = some o) → h'.get? x = some { cls := .ref C, data := .fields (fs.setIfInBounds 0 (.ref h.objs.size)) } → h'.get? h.objs.size = some { cls := .type "tuple", data := .seq #[v] } → Q .none ⟨h', g, d, t, os⟩) :
    wpAny (model prog w) A (call (.ref q) [v]) Q E ⟨h, g, d, t, os⟩ := by
  have F := PySem.F.excBase_Exception
  refine wpAny_call (codeAny_of_tree ?_)
  refine (?_ : wpAny _ A.in1 (callAny (.ref q) ⟨[v], []⟩) _ _ _)
  refine wpAny_bind (wpAny_load hq0 ?_)
  have e1 : ((mwO x).cls == Value.type "method" || (mwO x).cls == Value.type "builtin_function_or_method" || (mwO x).cls == Value.type "method-wrapper") = true := by
    refine (?_ : (Value.type "method-wrapper" == Value.type "method" || Value.type "method-wrapper" == Value.type "builtin_function_or_method" || Value.type "method-wrapper" == Value.type "method-wrapper") = true)
    decide
  have e2 : ((mwO x).cls != Value.type "method") = true := by
    refine (?_ : (Value.type "method-wrapper" != Value.type "method") = true)
    decide
  refine (?_ : wpAny _ _ (if ((mwO x).cls != Value.type "method") = true then (checkBoundCall "Exception.__init__" ⟨[.ref x, v], []⟩ >>= fun _ => again (.builtin "Exception.__init__" ⟨[.ref x, v], []⟩)) else _) _ _ _)
  first | refine wp_if e2 ?_ | rw [if_pos e2]
  refine wpAny_bind (m := checkBoundCall "Exception.__init__" ⟨[.ref x, v], []⟩) ?_
  have hstar := F.noStar
  repeat (first | (with_reducible refine wpAny_loadPart_at hx ?_) | (with_reducible refine wpAny_load hC ?_; with_reducible refine rwE hCd ?_) | wp_step)
  refine ⟨Code.quiet_builtin _ (by decide +kernel), codeAny_builtin F.initEntry ?_⟩
  unfold Builtin.«BaseException.__init__»
  dsimp only
  first | refine wp_else (by decide) ?_ | rw [if_neg (by decide)]
  refine wpAny_bind ?_
  refine wpAny_newObj_type ?_ (by size_fits)
  dsimp only
  have hx1 : (h.push { cls := .type "tuple", data := .seq #[v] }).get? x = some { cls := .ref C, data := .fields fs } := Heap.get?_push_of_some _ hx
  have hsz : 0 < fs.size := (Array.getElem?_eq_some_iff.mp h0).1
  refine wpAny_bind (wpAny_bind (wpAny_field hx1 rfl (x := .ref a0) h0 ?_))
  refine wpAny_bind (wpAny_setField hx1 rfl hsz ?_)
  refine wpAny_letGo ?_
  refine wpAny_pure (hQ _ (fun b o hb e => ?_) ?_ ?_)
  · with_reducible refine rwE (Heap.get?_update_other _ _ (Ne.symm hb)) ?_
    exact Heap.get?_push_of_some _ e
  · exact Heap.get?_update_self _ hx1 rfl
  · with_reducible refine rwE (Heap.get?_update_other _ _ (show x ≠ h.objs.size from Nat.ne_of_lt (Heap.lt_size hx))) ?_
    exact Heap.get?_push_at rfl rfl
end
end Mine
end
section
open PySem PySem.W PySem.Calls PyProof.Rows PySem.Spec PySem.SeqAt
namespace Mine
section
variable {M : Model} {A : Around} {E : Value → Shared → Prop} {s : Shared}
theorem callWith_mw {pos : Pos} {u x : Addr} {first : List Value} {env : Env} {e : Expr} {rest : List Expr} {Q : Value → Shared → Prop}
    (h : wpAny M A (spliced (backTo pos (starEach (e :: rest) env))) (fun vs s₁ => s₁.heap.get? u = some (mwO x) ∧ wpAny M A (call (.ref u) (first ++ vs)) Q E s₁) E s)
    (he : starEach (e :: rest) env = (false, eval e env) :: starEach rest env) (hplain : (backTo pos (starEach rest env)).any (·.1) = false) :
    wpAny M A (callWith pos (.ref u) first (backTo pos (starEach (e :: rest) env)) []) Q E s := by
  rw [he] at h ⊢
  have hp : (backTo pos ((false, eval e env) :: starEach rest env)).any (·.1) = false := by show (false || (backTo pos (starEach rest env)).any (·.1)) = false; rw [hplain]; rfl
  refine wpAny_bind (wpAny_holding (wpAny_mono (Q := fun (ar : Args) s₁ => s₁.heap.get? u = some (mwO x) ∧ wpAny M A (call (.ref u) (first ++ ar.pos) ar.kw) Q E s₁) (evalArgs_plain h) (fun x' s₁ h₁ => wpAny_bind (wpAny_standAt ?_)) fun _ _ x => x))
  obtain ⟨ho, hcall⟩ := h₁
  with_reducible refine rwE hp ?_
  refine (?_ : wpAny _ _ (keeperOf (.ref u) >>= _) _ _ _)
  refine wpAny_bind (m := keeperOf (.ref u)) ?_
  unfold keeperOf
  refine wpAny_bind (wpAny_load ho ?_)
  refine wpAny_pure ?_
  exact wpAny_bind (wpAny_mono hcall (fun r s₂ hr => wpAny_bind (wpAny_holding (wpAny_point (wpAny_pure hr)))) fun _ _ x => x)
end
end Mine
end
section
open PySem PySem.W PySem.Calls PyProof.Rows PySem.Spec PySem.SeqAt
namespace Mine

theorem log2_small {a : Int} (h0 : 0 ≤ a) (h : a < 1000000) : a.natAbs.log2 < 1920 := by
  by_cases z : a.natAbs = 0
  · rw [z]; decide
  · rw [Nat.log2_lt z]
    have : a.natAbs < 2 ^ 20 := by walk_at "om"
    exact Nat.lt_of_lt_of_le this (Nat.pow_le_pow_right (by decide) (by decide))
section
variable {W : Wd} {f : Fx} {n : Nat} {M : Mem} {loc : Loc} {EQ : Mem → Loc → Prop}
/-- the parts of a text, told up to a length -/
noncomputable def Jp (W : Wd) (f : Fx) (n : Nat) (parts : List Expr) (k : Nat) (M : Mem) (loc : Loc) (Q : Mem → Loc → Prop) (EQ : Mem → Loc → Prop) : Prop :=
  ∀ (d : Cy) (S : Tab) (s : Shared) (acc : Str), Ok W f n d → Here W d S M loc s.heap → acc.length ≤ k → Run W f d (fun _ _ (_ : Unit) => True) (joinParts acc (evalEach parts (f.here d))) S s s (fun _ M l => Q M l) EQ
theorem jp_nil {k : Nat} {Q : Mem → Loc → Prop} (hk : k ≤ sizeLine) (h : Q M loc) : Jp W f n [] k M loc Q EQ := fun d S s acc ok H ha => joinParts_nil (Run.end (b := ()) rfl le0 H trivial h) (Nat.le_trans ha hk)
theorem jp_const {k : Nat} {Q : Mem → Loc → Prop} {x : Str} {kk pos rest} (hk : k + x.length ≤ sizeLine) (h : Jp W f n rest (k + x.length) M loc Q EQ) : Jp W f n (.Constant (.str x) kk pos :: rest) k M loc Q EQ := fun d S s acc ok H ha => by
  have hl : (acc ++ x).length ≤ k + x.length := by rw [strLen_append]; walk_at "om"
  exact joinParts_cons (wpAny_Constant_str ⟨Nat.le_trans hl hk, Run.up (s₀ := s) le0 rfl (h d S _ _ ok H hl)⟩)
theorem jp_val {k b : Nat} {Q : Mem → Loc → Prop} {value : Expr} {pos rest} (hk : k + b ≤ sizeLine)
    (h : Ev W f n value M loc (fun a M₁ l₁ => ((∃ x : Str, a = .str x ∧ x.length ≤ b) ∨ (∃ i : Int, a = .int i ∧ 0 ≤ i ∧ i + 2 ≤ b ∧ i < 1000000)) ∧ Jp W f n rest (k + b) M₁ l₁ Q EQ) EQ) : Jp W f n (.FormattedValue value (-1) none pos :: rest) k M loc Q EQ := fun d S s acc ok H ha => by
  refine joinParts_cons (wpAny_FormattedValue_plain (Run.then le0 rfl (h d S s ok H) fun v s₁ S₁ M₁ l₁ a e₁ k₁ _ H₁ r₁ q₁ => ?_))
  obtain ⟨hx, hj⟩ := q₁
  rcases hx with ⟨x, rfl, hb⟩ | ⟨i, rfl, h0, hb, hs⟩
  · cases r₁ using VR.strE
    have hl : (acc ++ x).length ≤ k + b := by rw [strLen_append]; walk_at "om"
    refine formatField_str (fun t' tk => ⟨Nat.le_trans hl hk, ?_⟩) (by walk_at "om")
    exact Run.up k₁ (e₁.trans rfl) (hj d S₁ _ _ ok H₁ hl)
  · cases r₁ using VR.intE
    have hlen := len_str_of_int i
    have hb' : (Str.ofString (toString i)).length ≤ b := by walk_at "om"
    have hl : (acc ++ (toString i : Str)).length ≤ k + b := by rw [strLen_append]; exact Nat.add_le_add ha hb'
    refine formatField_int_small (log2_small h0 hs) ⟨Nat.le_trans hl hk, ?_⟩
    exact Run.up k₁ (e₁.trans rfl) (hj d S₁ _ _ ok H₁ hl)
theorem jp_val100 {k : Nat} {Q : Mem → Loc → Prop} {value : Expr} {pos rest} (hk : k + 100 ≤ sizeLine)
    (h : Ev W f n value M loc (fun a M₁ l₁ => ((∃ x : Str, a = .str x ∧ x.length ≤ 100) ∨ (∃ i : Int, a = .int i ∧ 0 ≤ i ∧ i + 2 ≤ 100 ∧ i < 1000000)) ∧ Jp W f n rest (k + 100) M₁ l₁ Q EQ) EQ) : Jp W f n (.FormattedValue value (-1) none pos :: rest) k M loc Q EQ := jp_val hk h
theorem ev_Joined {v₁ v₂ rest pos} {Q : AV → Mem → Loc → Prop} (h : Jp W f n (v₁ :: v₂ :: rest) 0 M loc (fun M' l' => Q .any M' l') EQ) : Ev W f n (.JoinedStr (v₁ :: v₂ :: rest) pos) M loc Q EQ := fun d S s ok H =>
  JoinedStr_many (wpAny_mono (h d S s Str.empty ok H (by decide)) (fun v s' ⟨e, S', M', l', b, k, H', _, q⟩ => ⟨e, S', M', l', .any, k, H', .any v, q⟩) fun _ _ z => z)
theorem ev_JoinedOne {x : Str} {k p pos} {Q : AV → Mem → Loc → Prop} (h : Q (.str x) M loc) : Ev W f n (.JoinedStr [.Constant (.str x) k p] pos) M loc Q EQ := fun d S s ok H => JoinedStr_one (wpAny_Constant_str (Run.end rfl le0 H (.str x _) h))
end

section
variable {M : Model} {A : Around} {E : Value → Shared → Prop} {env : Env}
variable {nm q : Str} {C D N : Addr} {bs : List Value} {hdct : Bool} {sn : List Str} {sub : List Value} {ab : Bool} {col : Option Bool} {dd : Option Addr} {k0 k1 k2 k3 k5 : Option Value} {newId : String}
theorem raise_made {s : Shared} {x : Sem Value} {Q : Flow → Shared → Prop} (hh : A.handled = none)
    (h : wpAny M A x (fun v s₁ => ∃ e oe fs, v = .ref e ∧ s₁.heap.get? C = some (excClassObj nm q C N bs (excBm D) hdct sn sub ab col dd k0 k1 k2 k3 k5 newId) ∧
      s₁.heap.get? e = some oe ∧ oe.cls = .ref C ∧ oe.data = .fields fs ∧ fs[1]? = some .none ∧ E (.ref e) s₁) E s) :
    wpAny M A (raiseStmt env (some x) none) Q E s := by
  have hcB : (Value.ref C :: excBm D).contains (.type "BaseException") = true := by simp
  refine wpAny_bind (wpAny_mono h (fun v s₁ h₁ => ?_) fun _ _ x => x)
  refine byG fun G_ bk_ => ?_; obtain ⟨e, oe, fs, rfl, hC, he, hc, hd, h1, hE⟩ := h₁
  obtain ⟨hp, g, d, tk, os⟩ := s₁
  obtain ⟨oc, od, odt, osl⟩ := oe; refine bk_ ?_; clear bk_
  dsimp only at hc hd
  subst hc hd
  have hT : (⟨hp, g, d, tk, os⟩ : Shared).TypeIs (.ref C) "type" := ⟨_, hC, rfl⟩
  repeat (first | with_reducible refine wpAny_loadPart_at he ?_ | with_reducible refine wpAny_loadPart_at hC ?_ | (with_reducible refine wpAny_isSubtype_exc hC ?_; rw [hcB]) | (with_reducible refine wpAny_field he rfl h1 ?_) | wp_step)
  exact wpAny_raiseNew_none hh hE
end
end Mine
end
section
open PySem PySem.W PySem.Calls PyProof.Rows PySem.Spec PySem.SeqAt
namespace Mine

theorem groundBack {A₀ : Around} {base g G B h₅ : Heap} {outer : List Env} {L : Addr} {m : Str → Option Value} {env : Env} (hf : env.frame = some L) (K : Below A₀ base outer g) (F : Fr g L G m)
    (hBG : ∀ b o, G.get? b = some o → b ∉ (env :: outer).filterMap (·.frame) → B.get? b = some o) (hBh : B.StaysIn h₅) (hsm : G.UpToSlots h₅) :
    ∃ g', KtsTurn (outer.filterMap (·.frame)) g g' ∧ Fr g' L h₅ m ∧ Below A₀ base outer g' := by
  obtain ⟨T, S⟩ := kts_turn_at (h := h₅) (fs := outer.filterMap (·.frame)) (g := g)
    (fun b hb => by
      refine byG fun G_ bk_ => ?_; obtain ⟨_, o, ho, _⟩ := K.frames.mem hb; refine bk_ ?_; clear bk_
      exact ⟨o, ho⟩)
    (fun b o e nm => hBh b o (hBG b o (F.keep b o e) (fun hm => by
      rcases memX hf hm with z | z
      · rw [z, kts_self F] at e
        injection e
      · exact nm z)))
    (fun b o e hm => by
      refine byG fun G_ bk_ => ?_; obtain ⟨_, o', ho', hd⟩ := K.frames.mem hm
      rw [e] at ho'
      (injection ho' with e0; (first | subst e0 | cases e0)); refine bk_ ?_; clear bk_
      exact hsm b o (F.keep b o e) hd)
  refine ⟨_, T, ⟨hsm.ns F.ns, S, by rw [T.size]; exact F.above⟩, ⟨K.stack, fun b o e => T.other b o (K.stays b o e) (fun hm => by
    rw [(K.frames.mem hm).1] at e
    injection e), K.frames.of_keeps fun b o e _ => ?_⟩⟩
  obtain ⟨sl, hs⟩ := T.up e
  exact ⟨_, hs, rfl⟩

section
variable {W : Wd} {f : Fx} {n : Nat} {M : Mem} {loc : Loc}
theorem sx_Try {EQ' EQ : Mem → Loc → Prop} {Q : AFl → Mem → Loc → Prop} {body suite : List Stmt} {b₀ : Stmt} {x : Str} {np hpos pos : Pos} (hco : f.co = none) (hx : f.kindOf x = some .globalImplicit) (hdb : (x == ("__debug__" : Str)) = false)
    (ex : nsIn W.K mainGlobals x = some (some (.ref W.X))) (kt : ktsIn W.K W.X "BaseException" = true)
    (h : Ss W f n body M loc (fun fl M' l' => Q fl M' l') EQ')
    (hs : ∀ (d : Cy) (S : Tab) (s : Shared) (e : Addr) (M' : Mem) (l' : Loc), Ok W f n d → Here W d S M' l' s.heap → EQ' M' l' →
      wpAny (model W.prog W.w) ((d.A.deeper (f.env d)).mark (some (.ref e))) (execs (b₀ :: suite) (f.here d)) (QP W d (FlR W) S s Q) (fun _ _ => False) s) :
    Sx W f n (.Try body [.ExceptHandler (some (.Name x np)) none (b₀ :: suite) hpos] [] [] pos) M loc Q EQ := by
  intro d S s ok H
  refine wpAny_Try_except ?_
  refine wpAny_mono (h d S s ok H) (fun fl s₁ z => ?_) (fun e s₁ z => ?_)
  · refine byG fun G_ bk_ => ?_; obtain ⟨e₁, S₁, M₁, l₁, afl, k₁, H₁, r₁, q₁⟩ := z; refine bk_ ?_; clear bk_
    cases r₁ with
    | next => exact wpAny_execs_nil (Run.end e₁ k₁ H₁ .next q₁)
    | brk => exact Run.end e₁ k₁ H₁ .brk q₁
    | cont => exact Run.end e₁ k₁ H₁ .cont q₁
    | ret v a r => exact Run.end e₁ k₁ H₁ (.ret v a r) q₁
  · obtain ⟨e₁, z⟩ := z
    refine exc_noted ok hco z fun s₂ e₂ z₂ => ?_
    refine byG fun G_ bk_ => ?_; obtain ⟨ea, t, vs, g, m, news, S', M', loc', G', he_, k, G, LO, LC, q, F, R_, u⟩ := z₂
    subst he_; refine bk_ ?_; clear bk_
    refine byG fun G_ bk_ => ?_
    obtain ⟨⟨B, hB, hBG, hl, hh, hnew⟩, htup⟩ := R_
    refine bk_ ?_
    clear bk_
    have hL : B.get? d.L = none := by
      refine byG fun G_ bk_ => ?_; obtain ⟨_, ⟨L', _, hf, hn', _⟩, _⟩ := hh.2.2.1; refine bk_ ?_; clear bk_
      obtain rfl : d.L = L' := Option.some.inj hf
      exact hn'
    refine wpAny_landsW hh fun h₅ hheld hsm₅ => ?_
    refine byG fun G_ bk_ => ?_; obtain ⟨g₅, T₅, F₅, K₅⟩ := groundBack (env := f.env d) rfl G.below F hBG hheld.1 (u.trans hsm₅); refine bk_ ?_; clear bk_
    have X₅ : W.K.In g₅ := ok.kin.keeps K₅.stays
    have P₅ : TopRead W.p W.loose W.mg W.mb g₅ := topRead_of (ok.top.keeps K₅.stays)
    refine byG fun G_ bk_ => ?_
    obtain ⟨ob, hob, hobc⟩ := hheld.there
    obtain ⟨nm, q', N, bs, bm, hdct, sn, sub, ab, col, dd, k0, k1, k2, k3, k5, newId, hC, hbase, hbT⟩ := kts_cls X₅ kt
    refine bk_ ?_
    have hC₅ := F₅.keep _ _ hC
    refine wpAny_handleBy_cons (codeAny_handlers_test ?_) (by intro q; injection q)
    refine Name_function_global ok.hereKind ((ok.hereKindOf x).trans hx) (loadGlobal_global (env := f.here d) ?_ (mg_of X₅ P₅.g ex) ?_) hdb
    · rw [ok.hereGlobals.1]
      exact P₅.g.keeps F₅.keep
    refine wpAny_excMatches_sub_self hC₅ hob hobc hbase (codeAny_handlers_suite ?_)
    refine lands_againW hheld fun h₆ hfl₆ hsm₆ => ?_
    refine byG fun G_ bk_ => ?_; obtain ⟨g₆, T₆, F₆, K₆⟩ := groundBack (env := f.env d) rfl G.below F hBG hfl₆.1 ((u.trans hsm₅).trans hsm₆); refine bk_ ?_; clear bk_
    have Nl : News g₆ d.L h₆ news := fun q hq => ⟨hfl₆.1 _ _ (hl q hq).1, (fun z => by have := (hl q hq).1; rw [z, hL] at this; injection this), T₆.none_ _ (kts_none F.keep (hl q hq).2.1)⟩
    have H₆ : Here W d S' M' loc' h₆ := ⟨g₆, m, news, ⟨K₆, G.turn.trans T₆, G.dicts.turn T₆⟩, F₆, Nl, LO, LC⟩
    refine wpAny_mono (hs d S' { s₂ with heap := h₆ } ea M' loc' ok H₆ q) (fun fl s₃ ⟨e₃, S₃, M₃, l₃, b, k₃, H₃, r₃, q₃⟩ => ?_) fun _ _ z => z.elim
    exact ⟨((e₁.trans e₂).trans rfl).trans e₃, S₃, M₃, l₃, b, fun a o y => k₃ a o (k a o y), H₃, r₃, q₃⟩
/-- «return x is None», under a mark -/
theorem suite_isNone {Q : AFl → Mem → Loc → Prop} {d : Cy} {S : Tab} {s : Shared} {e : Value} {x : Str} {xp cp rp kp : Pos} {kk : Nat} {a : AV} {b : Bool} (ok : Ok W f n d) (H : Here W d S M loc s.heap) (hx : f.kindOf x = some .local) (hv : loc x = some a) (hdb : (x == ("__debug__" : Str)) = false)
    (hn : a.isNone = some b) (q : Q (.ret (.bool b)) M loc) :
    wpAny (model W.prog W.w) ((d.A.deeper (f.env d)).mark (some e)) (execs [.Return (some (.Compare (.Name x xp) [.Is] [.Constant .none kk kp] cp)) rp] (f.here d)) (QP W d (FlR W) S s Q) (fun _ _ => False) s := by
  refine byG fun G_ bk_ => ?_; obtain ⟨g, m, news, G, F, N, LO, LC⟩ := id H
  obtain ⟨v, hm, r⟩ := LC.2 x a hv; refine bk_ ?_; clear bk_
  have hc := ok.local hx
  have hns : ∃ m', s.heap.Ns (f.here d).locals m' ∧ m' x = some v := by
    rcases hm with ⟨_, hm⟩ | ⟨c, o, h1, _⟩
    · have md := ok.mode
      unfold Fx.here
      cases h1 : f.co <;> cases h2 : d.co <;> rw [h1, h2] at md <;> rw [h2] at hm
      · exact ⟨m, F.ns, hm⟩
      · exact md.elim
      · exact md.elim
      · exact ⟨_, md.2.2.2.ns (N _ (LO.fm _ md.2.2.1)).1, hm⟩
    · rw [hc] at h1; injection h1
  refine byG fun G_ bk_ => ?_; obtain ⟨m', h1, h2⟩ := hns
  obtain ⟨e1, p⟩ := isNone_of r hn; refine bk_ ?_; clear bk_
  refine wpAny_execs_cons (wpAny_Return_some (wpAny_Compare1 ?_ rfl))
  refine wpAny_Name (wpAny_loadName_local ok.hereKind ((ok.hereKindOf x).trans hx) h1 h2 ?_) hdb
  refine wpAny_Constant_none ?_
  exact wpAny_is_plain p (Run.end rfl le0 H (.ret _ _ (by rw [e1]; exact .bool b)) q)
end
end Mine
end
section
open PySem PySem.W PySem.Calls PyProof.Rows PySem.Spec PySem.SeqAt
namespace Mine
section
theorem range_forIn {β : Type} (a b : Nat) (init : β) (f : Nat → β → Sem (ForInStep β)) : forIn [a:b] init f = forIn (List.range' a (b - a)) init f := by
  rw [Std.Legacy.Range.forIn_eq_forIn_range']
  simp [Std.Legacy.Range.size]
variable {prog : Program} {w : World} {A : Around} {E : Value → Shared → Prop} {s : Shared}
theorem tup_index {l : Addr} {us : List Value} {x : Value} {j : Nat} {Q : Value → Shared → Prop} (e : Value → Bool) (ht : IsTup s.heap l us.toArray) (he : ∀ y ∈ us, EqAt A.in1 s y x (e y)) (hj : j < us.length) (hit : ∀ y, us[j]? = some y → e y = true)
    (hno : ∀ m y, m < j → us[m]? = some y → e y = false) (h : Q (.int j s.toks) { s with toks := s.toks + 1 }) :
    wpAny (model prog w) A (call (.builtin "tuple.index") [.ref l, x]) Q E s := by
  refine wpAny_call_entry PySem.F.slot_tuple_index ht.typeIs PySem.F.entry_tuple_index ?_ (PySem.F.args_tuple_index_2 _ _)
  refine byG fun G_ bk_ => ?_; obtain ⟨o, ho, hc, n, hd⟩ := ht; refine bk_ ?_; clear bk_
  refine wpAny_bind (wpAny_of_eq (a := (Value.ref l, [x])) rfl ?_)
  dsimp only
  refine wpAny_bind ?_
  refine wpAny_bind (wpAny_seqItems ho hd (wpAny_pure ?_))
  refine wpAny_bind (wpAny_pure (wpAny_bind (wpAny_pure ?_)))
  rw [range_forIn]
  have key : ∀ (k i : Nat), j - i = k → i ≤ j → ∀ (P : (Option PySem.Fin × PUnit) → Shared → Prop), (∀ r, P (some r, ⟨⟩) { s with toks := s.toks + 1 } ∨ True) →
      (P (some (PySem.Fin.done (Flow.ret (.int j s.toks))), ⟨⟩) { s with toks := s.toks + 1 }) →
      wpAny (model prog w) A.in1 (forIn (List.range' i (us.length - i)) ((none, ⟨⟩) : Option PySem.Fin × PUnit) fun (i : Nat) __s => match us.toArray[i]? with
                | some y => do
                  let __do_lift ← eqBool y x
                  if __do_lift = true then do
                      let __do_lift ← retInt (i : Int)
                      pure (ForInStep.done (some __do_lift, ⟨⟩))
                    else pure (ForInStep.yield (none, ⟨⟩))
                | x => pure (ForInStep.yield (none, ⟨⟩))) P E s := by
    intro k
    induction k with
    | zero =>
      intro i hk hi P _ hP
      obtain rfl : i = j := ar_sub0 hk hi
      obtain ⟨r, hr⟩ : ∃ r, us.length - i = r + 1 := ⟨us.length - i - 1, ar_pos hj⟩
      (with_reducible refine rwE hr ?_; with_reducible refine rwE List.range'_succ ?_; rewrite [List.forIn_cons])
      have hg : us.toArray[i]? = some us[i] := by simp [hj]
      with_reducible refine rwE hg ?_
      refine wpAny_bind (wpAny_bind (he us[i] (List.getElem_mem hj) prog w _ _ ?_))
      with_reducible refine rwE (hit us[i] (by simp [hj])) ?_
      exact wpAny_bind (wpAny_bind (wpAny_mkInt (wpAny_pure (wpAny_pure (wpAny_pure hP)))))
    | succ k ih =>
      intro i hk hi P hP' hP
      have hlt : i < us.length := Nat.lt_trans (ar_subLt hk) hj
      obtain ⟨r, hr⟩ : ∃ r, us.length - i = r + 1 := ⟨us.length - i - 1, ar_pos hlt⟩
      (with_reducible refine rwE hr ?_; with_reducible refine rwE List.range'_succ ?_; rewrite [List.forIn_cons])
      have hg : us.toArray[i]? = some us[i] := by simp [hlt]
      with_reducible refine rwE hg ?_
      refine wpAny_bind (wpAny_bind (he us[i] (List.getElem_mem hlt) prog w _ _ ?_))
      with_reducible refine rwE (hno i us[i] (ar_subLt hk) (by simp [hlt])) ?_
      refine wpAny_pure ?_
      exact rwE (ar_subS hr).symm (ih (i + 1) (ar_subS hk) (ar_subLt hk) P hP' hP)
  refine wpAny_bind ?_
  have hm : min us.toArray.size us.toArray.size - 0 = us.length - 0 := by simp
  with_reducible refine rwE hm ?_
  exact key j 0 rfl (Nat.zero_le _) _ (fun _ => .inr trivial) (wpAny_pure ⟨_, rfl, h⟩)
end
/-- the first place of a thing -/
noncomputable def posIn (a : AV) : List AV → Option (Option Nat)
  | [] => some none
  | b :: bs => andO (aeq b a) fun x => match x with
    | true => some (some 0)
    | false => (posIn a bs).map (·.map (· + 1))
theorem posIn_of {W : Wd} {A : Around} {s : Shared} {S : Tab} {v : Value} {a : AV} (r : VR W S v a) : ∀ {bs : List AV} {us : List Value} {j : Nat}, VRs W S us bs → posIn a bs = some (some j) → j < us.length ∧ (∀ y, us[j]? = some y → veq y v = true) ∧ ∀ m y, m < j → us[m]? = some y → veq y v = false := by
  intro bs
  induction bs with
  | nil => intro us j _ h; exact nsE (Option.some.inj h)
  | cons b bs ih =>
    intro us j rs h
    cases rs using VRs.consE with
    | cons u us r' rs =>
      refine omE h fun x e1 h => ?_
      obtain ⟨_, h2⟩ := eqAt_atoms (A := A) (s := s) r' r e1
      cases x with
      | true =>
        with_reducible refine rwE (Eq.symm (Option.some.inj (Option.some.inj h))) ?_
        exact ⟨Nat.zero_lt_succ _, fun y hy => Option.some.inj hy ▸ h2, fun m y hm => absurd hm (Nat.not_lt_zero _)⟩
      | false =>
        refine byG fun G_ bk_ => ?_; obtain ⟨q, e2, h⟩ := Option.map_eq_some_iff.mp h
        obtain ⟨i, e3, h⟩ := Option.map_eq_some_iff.mp h
        obtain ⟨h3, h4, h5⟩ := ih rs (e3 ▸ e2); refine bk_ ?_; clear bk_
        with_reducible refine rwE (Eq.symm h) ?_
        refine ⟨Nat.succ_lt_succ h3, fun y hy => h4 y hy, fun m y hm hy => ?_⟩
        cases m with
        | zero => exact Option.some.inj hy ▸ h2
        | succ m => exact h5 m y (Nat.lt_of_succ_lt_succ hm) hy
section
variable {W : Wd} {f : Fx} {n : Nat} {M : Mem} {loc : Loc} {Q : AV → Mem → Loc → Prop} {EQ : Mem → Loc → Prop}
theorem t_tupIndex {a : AV} {bs : List AV} {j : Nat} {k : Bool} (hi : isIn a bs = some k) (hp : posIn a bs = some (some j)) (h : Q (.int j) M loc) : Ts W f n (VR W) (fun vs => call (.builtin "tuple.index") vs) [.tup bs, a] M loc Q EQ := fun d S s vs ok H rs => by
  cases rs using VRs.consE with
  | cons v vs r rs =>
    cases rs using VRs.consE with
    | cons u _ r' rs =>
      cases rs using VRs.nilE
      obtain ⟨b, us, rfl, e, rb⟩ := H.tup ok r
      obtain ⟨h1, _⟩ := isIn_of (A := (d.A.deeper (f.env d)).in1) (s := s) r' rb hi
      obtain ⟨h2, h3, h4⟩ := posIn_of (A := (d.A.deeper (f.env d)).in1) (s := s) r' rb hp
      exact tup_index (veq · u) e h1 h2 h3 h4 (Run.end rfl le0 H (.int _ _) h)
/-- a method of a tuple -/
theorem ev_CallTup {o name apos args pos} {id : String} (slot : Slot "tuple" name id) (hty : typeOf (.builtin id) = pure (.type "method_descriptor"))
    (h : Ev W f n o M loc (fun a M₁ l₁ => ∃ as, a = .tup as ∧ Sp W f n pos args M₁ l₁ (fun bs M₂ l₂ => Ts W f n (VR W) (fun vs => call (.builtin id) vs) (.tup as :: bs) M₂ l₂ Q EQ) EQ) EQ)
    (hbase : ∀ env, attributeBase o name env (eval o env) = eval o env)
    (hfew : ∀ env, ((backTo pos (starEach args env)).all (fun x => !x.1) && (backToKw pos (keywordEach [] env)).all (fun x => x.1.isSome)
      && decide (args.length + ([] : List Keyword).length + (if ([] : List Keyword).isEmpty then 0 else 1) < 30)) = true)
    (hline : (apos.endLine == pos.line) = true)
    (hs : args = [] ∨ ∃ e rest, args = e :: rest ∧ (∀ env, starEach (e :: rest) env = (false, eval e env) :: starEach rest env) ∧ ∀ env, (backTo pos (starEach rest env)).any (·.1) = false) :
    Ev W f n (.Call (.Attribute o name apos) args [] pos) M loc Q EQ := by
  intro d S s ok H
  refine wpAny_Call_method (hbase _) (hfew _) hline PySem.F.plainAttrs_tuple slot hty ?_
  refine Run.then le0 rfl (h d S s ok H) fun v s₁ S₁ M₁ l₁ a e₁ k₁ _ H₁ r₁ q₁ => ?_
  refine byG fun G_ bk_ => ?_; obtain ⟨as, rfl, z⟩ := q₁; refine bk_ ?_; clear bk_
  cases r₁ using VR.tupE with
  | tup b ob us hs' ho hr =>
    have hg := H₁.at ok hs'
    refine ⟨⟨ob, hg, ho.1.1⟩, fun a e => ?_, ?_⟩
    · (injection e with e0; (first | subst e0 | cases e0)); exact ⟨ob, hg, ho.2⟩
    · exact run_callWith k₁ e₁ ok H₁ (.builtin id) (.cons _ _ _ _ (.tup b ob us as hs' ho hr) .nil) (.inl fun T e => nomatch e) hs z
theorem ev_CallTI {o apos args pos}
    (h : Ev W f n o M loc (fun a M₁ l₁ => ∃ as, a = .tup as ∧ Sp W f n pos args M₁ l₁ (fun bs M₂ l₂ => Ts W f n (VR W) (fun vs => call (.builtin "tuple.index") vs) (.tup as :: bs) M₂ l₂ Q EQ) EQ) EQ)
    (hbase : ∀ env, attributeBase o "index" env (eval o env) = eval o env)
    (hfew : ∀ env, ((backTo pos (starEach args env)).all (fun x => !x.1) && (backToKw pos (keywordEach [] env)).all (fun x => x.1.isSome)
      && decide (args.length + ([] : List Keyword).length + (if ([] : List Keyword).isEmpty then 0 else 1) < 30)) = true)
    (hline : (apos.endLine == pos.line) = true)
    (hs : args = [] ∨ ∃ e rest, args = e :: rest ∧ (∀ env, starEach (e :: rest) env = (false, eval e env) :: starEach rest env) ∧ ∀ env, (backTo pos (starEach rest env)).any (·.1) = false) :
    Ev W f n (.Call (.Attribute o "index" apos) args [] pos) M loc Q EQ := ev_CallTup PySem.F.slot_tuple_index PySem.F.type_tuple_index h hbase hfew hline hs
end
end Mine
end
section
open PySem PySem.W PySem.Calls PyProof.Rows PySem.Spec PySem.SeqAt
namespace Mine
theorem Ts.useF {W : Wd} {f : Fx} {n : Nat} {α β : Type} {R : Tab → α → β → Prop} {M M₁ r : Mem} {loc : Loc} {Q : β → Mem → Loc → Prop} {EQ : Mem → Loc → Prop} {t : List Value → Sem α} {as : List AV} {Q₁ : β → Mem → Loc → Prop} (c : Ts W f n R t as M₁ loc Q₁ (fun _ _ => False)) (pk : Picks M₁ M r)
    (hq : ∀ b M' l', Q₁ b M' l' → Q b (M' ++ r) l') : Ts W f n R t as M loc Q EQ := c.use pk hq fun _ _ h => h.elim
theorem t_subTupN {W : Wd} {f : Fx} {n : Nat} {M : Mem} {loc : Loc} {Q : AV → Mem → Loc → Prop} {EQ : Mem → Loc → Prop} {value slice : Expr} {as : List AV} {j : Nat} {c : AV} (hx : as[j]? = some c) (hz : as.length ≤ 1000000) (hs : SubOk slice) (h : Q c M loc) :
    T2 W f n (VR W) (subscriptTail value slice) (.tup as) (.int (Int.ofNat j)) M loc Q EQ := by
  have hj : j < as.length := (List.getElem?_eq_some_iff.mp hx).1
  exact t_subTup (seqIndex_nat hj) hx (by have : (Int.ofNat j) = (j : Int) := rfl; walk_at "om") (by have : (Int.ofNat j) = (j : Int) := rfl; walk_at "om") hs h
theorem t_subTupL {W : Wd} {f : Fx} {n : Nat} {M : Mem} {loc : Loc} {Q : AV → Mem → Loc → Prop} {EQ : Mem → Loc → Prop} {value slice : Expr} {as : List AV} {k : Int} {j : Nat} {c : AV} (hk : k = Int.ofNat j) (hx : as[j]? = some c) (hz : k < 2 ^ 63) (hs : SubOk slice) (h : Q c M loc) :
    T2 W f n (VR W) (subscriptTail value slice) (.tup as) (.int k) M loc Q EQ := by
  have hj : j < as.length := (List.getElem?_eq_some_iff.mp hx).1
  subst hk
  exact t_subTup (seqIndex_nat hj) hx (by have : (Int.ofNat j) = (j : Int) := rfl; walk_at "om") hz hs h
/-- what is left over is forgotten -/
theorem Ts.drop {W : Wd} {f : Fx} {n : Nat} {α β : Type} {R : Tab → α → β → Prop} {M : Mem} {loc : Loc} {Q : β → Mem → Loc → Prop} {EQ : Mem → Loc → Prop} {t : List Value → Sem α} {as : List AV}
    (c : Ts W f n R t as M loc (fun b M' l' => ∃ M'', M''.Sublist M' ∧ Q b M'' l') (fun M' l' => ∃ M'', M''.Sublist M' ∧ EQ M'' l')) : Ts W f n R t as M loc Q EQ := by
  intro d S s vs ok H rs
  refine wpAny_mono (c d S s vs ok H rs) (fun a s' ⟨e, S', M', loc', b, k, H', r, M'', sub, q⟩ => ⟨e, S', M'', loc', b, k, H'.sub sub, r, q⟩) (fun v s' ⟨e, z⟩ => ⟨e, ?_⟩)
  obtain ⟨ea, t, vs, g, m, news, S', M', loc', h1, k, G, LO, LC, ⟨M'', sub, q⟩, st⟩ := z
  exact ⟨ea, t, vs, g, m, news, S', M'', loc', h1, k, G, LO.sub sub, LC, q, st⟩
end Mine
end
section
open PySem PySem.W PySem.Calls PyProof.Rows PySem.Spec PySem.SeqAt
namespace Mine
section
variable {W : Wd} {f : Fx} {n : Nat} {d : Cy} {S : Tab} {h : Heap} {M M' M₁ : Mem} {loc : Loc}
theorem Here.reval (H : Here W d S M loc h) {y : Str} {a b : AV} (hl : loc y = some a) (k : ∀ v, VR W S v a → VR W S v b) : Here W d S M (loc.set y b) h := by
  obtain ⟨g, m, news, G, F, N, LO, LC⟩ := H
  refine ⟨g, m, news, G, F, N, LO, LC.1, fun z c hz => ?_⟩
  unfold Loc.set at hz
  by_cases q : z = y
  · rw [if_pos q] at hz; (injection hz with e0; (first | subst e0 | cases e0))
    obtain ⟨v, h1, h2⟩ := LC.2 y a hl
    exact ⟨v, by rw [q]; exact h1, k v h2⟩
  · rw [if_neg q] at hz
    exact LC.2 z c hz
theorem Here.reform (H : Here W d S M loc h) {a : Addr} {ao ao' : AO} (rp : Rp a ao ao' M M') (k : ∀ o, OR W S o ao → OR W S o ao') : Here W d S M' loc h := by
  obtain ⟨g, m, news, G, F, N, LO, LC⟩ := H
  have hb := rp.back LO.nd
  have hk := rp.keys
  refine ⟨g, m, news, G, F, N, ⟨LO.fm, LO.tab, fun p hp => ?_, by rw [hk]; exact LO.nd, fun p hp => ?_, fun p hp => ?_, LO.tabF⟩, LC⟩
  · rcases hb p hp with rfl | ⟨hp, _⟩
    · obtain ⟨o, h1, h2⟩ := LO.mem _ rp.mem
      exact ⟨o, h1, k o h2⟩
    · exact LO.mem p hp
  · rcases hb p hp with rfl | ⟨hp, _⟩
    · exact LO.fmM (a, ao) rp.mem
    · exact LO.fmM p hp
  · rcases hb p hp with rfl | ⟨hp, _⟩
    · exact LO.tabM (a, ao) rp.mem
    · exact LO.tabM p hp
theorem T0.frzD {α β : Type} {R : Tab → α → β → Prop} {t : Env → Sem α} {Q : β → Mem → Loc → Prop} {EQ : Mem → Loc → Prop} {x : Addr} {es : List (Str × AV)} {y : Str} (hl : loc y = some (.obj x)) (pk : Pick x (.dict es) M M') (q : T0 W f n R t M' (loc.set y (.fdict es)) Q EQ) : T0 W f n R t M loc Q EQ := by
  intro d S s ok H
  obtain ⟨o, ro, H', k⟩ := H.freeze pk
  refine Run.up k rfl (q d _ s ok (H'.reval hl fun v r => ?_))
  cases r using VR.objE
  cases ro using OR.dictE with
  | dict kvs h1 h2 => exact .fdict x o kvs es (.inl Tab.add_at) h1 (h2.mono k)
theorem T0.frzL {α β : Type} {R : Tab → α → β → Prop} {t : Env → Sem α} {Q : β → Mem → Loc → Prop} {EQ : Mem → Loc → Prop} {x : Addr} {as : List AV} {y : Str} (hl : loc y = some (.obj x)) (pk : Pick x (.list as) M M') (q : T0 W f n R t M' (loc.set y (.flist as)) Q EQ) : T0 W f n R t M loc Q EQ := by
  intro d S s ok H
  obtain ⟨o, ro, H', k⟩ := H.freeze pk
  refine Run.up k rfl (q d _ s ok (H'.reval hl fun v r => ?_))
  cases r using VR.objE
  cases ro using OR.listE with
  | list us h1 h2 => exact .flist x o us as (.inl Tab.add_at) h1 (h2.mono k)
/-- a maker's object, and it once it is made -/
noncomputable def fixAV (C dx : Addr) (fs : List (Str × AV)) : AV → AV
  | .minst C' d' => if C' = C ∧ d' = dx then .finst C fs else .minst C' d'
  | a => a
theorem fix_vrd {C dx : Addr} {fs : List (Str × AV)} (k : ∀ v, VR W S v (.minst C dx) → VR W S v (.finst C fs)) {kvs : List (Str × Value)} {es : List (Str × AV)} (h : VRd W S kvs es) : VRd W S kvs (es.map fun e => (e.1, fixAV C dx fs e.2)) := by
  induction h using VRd.ind with
  | nil => exact .nil
  | cons x v a vs as r _ ih =>
    rw [List.map_cons]
    refine .cons _ _ _ _ _ ?_ ih
    show VR W S v (fixAV C dx fs a)
    cases a with
    | minst D dy =>
      show VR W S v (if D = C ∧ dy = dx then _ else _)
      by_cases q : D = C ∧ dy = dx
      · rw [if_pos q]; rw [q.1, q.2] at r; exact k v r
      · rw [if_neg q]; exact r
    | _ => exact r
theorem T0.fixIn {α β : Type} {R : Tab → α → β → Prop} {t : Env → Sem α} {Q : β → Mem → Loc → Prop} {EQ : Mem → Loc → Prop} {C dx a : Addr} {fs es : List (Str × AV)} (pk : Pick dx (.ns fs) M M₁) (rp : Rp a (.dict es) (.dict (es.map fun e => (e.1, fixAV C dx fs e.2))) M₁ M') (q : T0 W f n R t M' loc Q EQ) : T0 W f n R t M loc Q EQ := by
  intro d S s ok H
  obtain ⟨o, ro, H', k⟩ := H.freeze pk
  refine Run.up k rfl (q d _ s ok (H'.reform rp fun o' r => ?_))
  cases r using OR.dictE with
  | dict kvs h1 h2 =>
    refine .dict o' kvs _ h1 (fix_vrd (fun v r => ?_) h2)
    cases r using VR.minstE with
    | minst x hx =>
      cases ro using OR.nsE with
      | ns es n kvs e1 e2 e3 hr =>
        subst e1 e3
        exact .finst x dx _ C _ fs hx (.inl Tab.add_at) (nsO_dict e2) (hr.mono k)
end
section
variable {W : Wd} {f : Fx} {n : Nat} {M : Mem} {loc : Loc} {Q : AV → Mem → Loc → Prop} {EQ : Mem → Loc → Prop}
/-- a method of an object that may turn -/
inductive KOb {X : Type} (W : Wd) (f : Fx) (n : Nat) (id : String) (g : X → AO) (pos : Pos) (args : List Expr) (Q : AV → Mem → Loc → Prop) (EQ : Mem → Loc → Prop) (a : AV) (M : Mem) (l : Loc) : Prop
  | mk (x : Addr) (c : X) (ha : a = .obj x) (hm : (x, g c) ∈ M) (h : Sp W f n pos args M l (fun bs M₂ l₂ => Ts W f n (VR W) (fun vs => call (.builtin id) vs) (.obj x :: bs) M₂ l₂ Q EQ) EQ) : KOb W f n id g pos args Q EQ a M l
theorem KOb.in {X : Type} {id : String} {g : X → AO} {pos args} {l : Loc} {x : Addr} {c : X} (hm : (x, g c) ∈ M) (h : Sp W f n pos args M l (fun bs M₂ l₂ => Ts W f n (VR W) (fun vs => call (.builtin id) vs) (.obj x :: bs) M₂ l₂ Q EQ) EQ) : KOb W f n id g pos args Q EQ (.obj x) M l := ⟨x, c, rfl, hm, h⟩
theorem ev_CallAppend {o apos args pos}
    (h : Ev W f n o M loc (KOb W f n "list.append" AO.list pos args Q EQ) EQ)
    (hbase : ∀ env, attributeBase o "append" env (eval o env) = eval o env)
    (hfew : ∀ env, ((backTo pos (starEach args env)).all (fun x => !x.1) && (backToKw pos (keywordEach [] env)).all (fun x => x.1.isSome)
      && decide (args.length + ([] : List Keyword).length + (if ([] : List Keyword).isEmpty then 0 else 1) < 30)) = true)
    (hline : (apos.endLine == pos.line) = true)
    (hs : args = [] ∨ ∃ e rest, args = e :: rest ∧ (∀ env, starEach (e :: rest) env = (false, eval e env) :: starEach rest env) ∧ ∀ env, (backTo pos (starEach rest env)).any (·.1) = false) :
    Ev W f n (.Call (.Attribute o "append" apos) args [] pos) M loc Q EQ :=
  ev_CallMade PySem.F.plainAttrs_list slot_list_append type_list_append
    (h.mono (fun a M₁ l₁ ⟨x, as, h1, h2, h3⟩ => ⟨x, .list as, h1, h2, fun S ob r => (by cases r using OR.listE with | list us q _ => obtain ⟨k, rfl⟩ := q; exact ⟨rfl, rfl⟩), h3⟩) fun _ _ z => z) hbase hfew hline hs
theorem ev_CallPop {o apos args pos}
    (h : Ev W f n o M loc (KOb W f n "list.pop" AO.list pos args Q EQ) EQ)
    (hbase : ∀ env, attributeBase o "pop" env (eval o env) = eval o env)
    (hfew : ∀ env, ((backTo pos (starEach args env)).all (fun x => !x.1) && (backToKw pos (keywordEach [] env)).all (fun x => x.1.isSome)
      && decide (args.length + ([] : List Keyword).length + (if ([] : List Keyword).isEmpty then 0 else 1) < 30)) = true)
    (hline : (apos.endLine == pos.line) = true)
    (hs : args = [] ∨ ∃ e rest, args = e :: rest ∧ (∀ env, starEach (e :: rest) env = (false, eval e env) :: starEach rest env) ∧ ∀ env, (backTo pos (starEach rest env)).any (·.1) = false) :
    Ev W f n (.Call (.Attribute o "pop" apos) args [] pos) M loc Q EQ :=
  ev_CallMade PySem.F.plainAttrs_list PySem.F.slot_list_pop PySem.F.type_list_pop
    (h.mono (fun a M₁ l₁ ⟨x, as, h1, h2, h3⟩ => ⟨x, .list as, h1, h2, fun S ob r => (by cases r using OR.listE with | list us q _ => obtain ⟨k, rfl⟩ := q; exact ⟨rfl, rfl⟩), h3⟩) fun _ _ z => z) hbase hfew hline hs
theorem ev_CallPopD {o apos args pos}
    (h : Ev W f n o M loc (KOb W f n "dict.pop" AO.dict pos args Q EQ) EQ)
    (hbase : ∀ env, attributeBase o "pop" env (eval o env) = eval o env)
    (hfew : ∀ env, ((backTo pos (starEach args env)).all (fun x => !x.1) && (backToKw pos (keywordEach [] env)).all (fun x => x.1.isSome)
      && decide (args.length + ([] : List Keyword).length + (if ([] : List Keyword).isEmpty then 0 else 1) < 30)) = true)
    (hline : (apos.endLine == pos.line) = true)
    (hs : args = [] ∨ ∃ e rest, args = e :: rest ∧ (∀ env, starEach (e :: rest) env = (false, eval e env) :: starEach rest env) ∧ ∀ env, (backTo pos (starEach rest env)).any (·.1) = false) :
    Ev W f n (.Call (.Attribute o "pop" apos) args [] pos) M loc Q EQ :=
  ev_CallMade PySem.F.plainAttrs_dict PySem.F.slot_dict_pop PySem.F.type_dict_pop
    (h.mono (fun a M₁ l₁ ⟨x, es, h1, h2, h3⟩ => ⟨x, .dict es, h1, h2, fun S ob r => (by cases r using OR.dictE with | dict kvs q _ => exact ⟨q.1.1, q.1.2.1⟩), h3⟩) fun _ _ z => z) hbase hfew hline hs
theorem ev_CallPop0 {o apos pos}
    (h : Ev W f n o M loc (KOb W f n "list.pop" AO.list pos ([] : List Expr) Q EQ) EQ)
    (hbase : ∀ env, attributeBase o "pop" env (eval o env) = eval o env)
    (hfew : ∀ env, ((backTo pos (starEach ([] : List Expr) env)).all (fun x => !x.1) && (backToKw pos (keywordEach [] env)).all (fun x => x.1.isSome)
      && decide (([] : List Expr).length + ([] : List Keyword).length + (if ([] : List Keyword).isEmpty then 0 else 1) < 30)) = true)
    (hline : (apos.endLine == pos.line) = true)
    (hs : ([] : List Expr) = [] ∨ ∃ e rest, ([] : List Expr) = e :: rest ∧ (∀ env, starEach (e :: rest) env = (false, eval e env) :: starEach rest env) ∧ ∀ env, (backTo pos (starEach rest env)).any (·.1) = false) :
    Ev W f n (.Call (.Attribute o "pop" apos) ([] : List Expr) [] pos) M loc Q EQ := ev_CallPop h hbase hfew hline hs
theorem ev_CallPopD1 {o apos e₀ pos}
    (h : Ev W f n o M loc (KOb W f n "dict.pop" AO.dict pos [e₀] Q EQ) EQ)
    (hbase : ∀ env, attributeBase o "pop" env (eval o env) = eval o env)
    (hfew : ∀ env, ((backTo pos (starEach [e₀] env)).all (fun x => !x.1) && (backToKw pos (keywordEach [] env)).all (fun x => x.1.isSome)
      && decide ([e₀].length + ([] : List Keyword).length + (if ([] : List Keyword).isEmpty then 0 else 1) < 30)) = true)
    (hline : (apos.endLine == pos.line) = true)
    (hs : [e₀] = [] ∨ ∃ e rest, [e₀] = e :: rest ∧ (∀ env, starEach (e :: rest) env = (false, eval e env) :: starEach rest env) ∧ ∀ env, (backTo pos (starEach rest env)).any (·.1) = false) :
    Ev W f n (.Call (.Attribute o "pop" apos) [e₀] [] pos) M loc Q EQ := ev_CallPopD h hbase hfew hline hs
theorem ev_globI {x : Str} {pos : Pos} {i : Int} {t : Tok} (hx : f.kindOf x = some .globalImplicit) (hv : nsIn W.K mainGlobals x = some (some (.int i t))) (hd : (x == ("__debug__" : Str)) = false) (h : Q (.int i) M loc) : Ev W f n (.Name x pos) M loc Q EQ :=
  ev_global hx hv hd (fun _ => VR.int _ _) h
end
theorem meth_in {W : Wd} {f : Fx} {n : Nat} {name : Str} {pos : Pos} {args : List Expr} {Q : AV → Mem → Loc → Prop} {EQ : Mem → Loc → Prop} {M : Mem} {l : Loc} {C fa : Addr} {fs : List (Str × AV)} (h1 : plainGet W.K C name = true) (h2 : findIn W.K (.ref C) name = some (some (.ref fa))) (h3 : isFn W.K (.ref fa) = true) (h4 : keepIn W.K (.ref fa) = true) (h5 : fs.lookup name = none)
    (h : Sp W f n pos args M l (KMTs W f n fa (.finst C fs) Q EQ) EQ) : KMeth W f n name pos args Q EQ (.finst C fs) M l := ⟨C, fs, fa, rfl, h1, h2, h3, h4, h5, h⟩
theorem tr_det {W : Wd} {f : Fx} {n : Nat} {e : Expr} {M : Mem} {loc : Loc} {Q : Bool → Mem → Loc → Prop} {EQ : Mem → Loc → Prop} (k : Bool) (h : Tr W f n e M loc (fun c M₁ l₁ => c = k ∧ M₁ = M ∧ l₁ = loc) (fun _ _ => False)) (q : Q k M loc) : Tr W f n e M loc Q EQ :=
  h.mono (fun b M' l' ⟨h1, h2, h3⟩ => by subst h1 h2 h3; exact q) fun _ _ z => z.elim
theorem and_join {c : Bool} {G X : Prop} (h1 : X → c = true → G) (h : X) : (c = true → G) ∧ (c = false → X) := ⟨h1 h, fun _ => h⟩
theorem sx_ForEnumC {W : Wd} {f : Fx} {n : Nat} {M : Mem} {loc : Loc} {Q : AFl → Mem → Loc → Prop} {EQ : Mem → Loc → Prop} {elts k tpos body pos p1 p2 args} (h : Ev W f n (.Call (.Name "enumerate" p1) args [] p2) M loc (ForEH W f n elts k tpos body Q) EQ)
    (hs : ∀ env x, foldedSetIterable (.Call (.Name "enumerate" p1) args [] p2) env x = pure x) : Sx W f n (.For (.Tuple elts k tpos) (.Call (.Name "enumerate" p1) args [] p2) body [] pos) M loc Q EQ := sx_ForEnum h hs
theorem T0.keep {W : Wd} {f : Fx} {n : Nat} {α β : Type} {R : Tab → α → β → Prop} {t : Env → Sem α} {M M' r : Mem} {loc : Loc} {Q : β → Mem → Loc → Prop} {EQ : Mem → Loc → Prop} (pk : Picks M' M r) (c : T0 W f n R t M' loc Q EQ) : T0 W f n R t M loc Q EQ :=
  T0.perm pk.perm (T0.sub (List.sublist_append_left _ _) c)
end Mine
end
section
open PySem PySem.W PySem.Calls PyProof.Rows PySem.Spec PySem.SeqAt
namespace Mine
section
variable {W : Wd} {f : Fx} {n : Nat} {M M' : Mem} {loc : Loc} {Q : AV → Mem → Loc → Prop} {EQ : Mem → Loc → Prop}
noncomputable abbrev bkAV (x : Str) : AV := .tup [.str x, .tup [], .int 0, .int 0]
theorem Here.isBk {d : Cy} {S : Tab} {h : Heap} (H : Here W d S M loc h) (ok : Ok W f n d) {x : Str} {v : Value} (hx : PyData.strOk x = true) (r : VR W S v (bkAV x)) : ∃ a, v = .ref a ∧ IsBk h x a := by
  cases r using VR.tupE with
  | tup a o us h1 h2 h3 =>
    cases h3 using VRs.consE with
    | cons _ _ r1 h3 =>
      cases h3 using VRs.consE with
      | cons _ _ r2 h3 =>
        cases h3 using VRs.consE with
        | cons _ _ r3 h3 =>
          cases h3 using VRs.consE with
          | cons _ _ r4 h3 =>
            cases h3 using VRs.nilE
            cases r1 using VR.strE with
            | str t =>
              cases r3 using VR.intE with
              | int u =>
                cases r4 using VR.intE with
                | int v' =>
                  cases r2 using VR.tupE with
                  | tup e oe us2 g1 g2 g3 =>
                    cases g3
                    refine byG fun G_ bk_ => ?_; obtain ⟨⟨c1, n1, e1⟩, _⟩ := h2
                    obtain ⟨⟨c2, n2, e2⟩, _⟩ := g2; refine bk_ ?_; clear bk_
                    exact ⟨a, rfl, hx, o, n1, t, e, u, v', oe, n2, H.at ok h1, c1, e1, H.at ok g1, c2, e2⟩
theorem T0.toTab {α β : Type} {R : Tab → α → β → Prop} {t : Env → Sem α} {Q : β → Mem → Loc → Prop} {x : Addr} (rp : Rp x (.dict []) (.tab []) M M') (q : T0 W f n R t M' loc Q EQ) : T0 W f n R t M loc Q EQ := by
  intro d S s ok H
  refine q d S s ok (H.reform rp fun o r => ?_)
  cases r using OR.dictE with
  | dict kvs h1 h2 =>
    refine byG fun G_ bk_ => ?_; cases h2 using VRd.nilE
    obtain ⟨h3, es, ep, h4, h5, h6, h7⟩ := h1; refine bk_ ?_; clear bk_
    have he : es.toList = [] := by cases q : es.toList with
      | nil => rfl
      | cons e r => rw [q] at h6; cases h6
    exact .tab o es ep [] h3 h4 he (fun x hx => nomatch hx) List.nodup_nil
theorem Here.tabAt {d : Cy} {S : Tab} {h : Heap} (H : Here W d S M loc h) (ok : Ok W f n d) {x : Addr} {ks : List Str} (hx : (x, AO.tab ks) ∈ M) : ∃ xs, h.DictOfH (bankKind W.prog W.w) x xs ∧ xs.map (·.1) = ks ∧ ∀ y ∈ xs, PyData.strOk y.1 = true ∧ VR W S (.ref y.2.1) (bkAV y.1) := by
  refine byG fun G_ bk_ => ?_; obtain ⟨o, ho, r⟩ := H.memAt hx; refine bk_ ?_; clear bk_
  cases r with
  | tab es ep xs h1 h2 h3 h4 h5 =>
    refine ⟨xs, ⟨o, es, ep, ho, h1, h2, h3, fun y hy => ?_, h5⟩, rfl, h4⟩
    refine byG fun G_ bk_ => ?_; obtain ⟨a, e, hb⟩ := H.isBk ok (h4 y hy).1 (h4 y hy).2
    (injection e with e0; (first | subst e0 | cases e0)); refine bk_ ?_; clear bk_
    exact hb
theorem atKey_no {xs : List (Str × Addr × Value)} {k : Str} (h : k ∉ xs.map (·.1)) : atKey xs k = none := by
  unfold atKey
  have : xs.find? (fun x => decide (x.1 = k)) = none := by
    rw [List.find?_eq_none]
    intro y hy
    have : ¬ y.1 = k := fun e => h (e ▸ List.mem_map.mpr ⟨y, hy, rfl⟩)
    simpa using this
  rw [this]; rfl
theorem t_getTab {x : Addr} {ks : List Str} {k : Str} {b : AV} (hx : (x, AO.tab ks) ∈ M) (hk : k ∉ ks) (hok : PyData.strOk k = true) (hsm : W.K.lookup sysModules = none) (h : Q b M loc) : Ts W f n (VR W) (fun vs => call (.builtin "dict.get") vs) [.obj x, bkAV k, b] M loc Q EQ := by
  intro d S s vs ok H rs
  cases rs using VRs.consE with
  | cons v _ r1 rs =>
    cases rs using VRs.consE with
    | cons key _ r2 rs =>
      cases rs using VRs.consE with
      | cons dflt _ r3 rs =>
        cases rs using VRs.nilE
        cases r1 using VR.objE
        obtain ⟨xs, hD, hks, _⟩ := H.tabAt ok hx
        obtain ⟨a, rfl, hb⟩ := H.isBk ok hok r2
        have hn : atKey xs k = none := atKey_no (by with_reducible refine rwE hks ?_; exact hk)
        refine call_meetsIn PySem.F.slot_dict_get hD.typeIs PySem.F.entry_dict_get (PySem.F.args_dict_get_3 _ _ _) (meetsH_dict_get_default (bankKind W.prog W.w) _ _ (H.notMods ok hx) dflt) ⟨?_, k, xs, hb, hD, ?_⟩
        · exact ar_un (k := 8) (by decide) ok.units
        · with_reducible refine rwE hn ?_
          exact Run.end rfl le0 H r3 h
theorem t_setTab {x : Addr} {ks : List Str} {k : Str} {b : AV} {Q : Unit → Mem → Loc → Prop} (rp : Rp x (.tab ks) (.tab (ks ++ [k])) M M') (hk : k ∉ ks) (hok : PyData.strOk k = true) (hz : ks.length ≤ 1000) (h : Q () M' loc) : T3 W f n UR (fun ov iv v => setItem ov iv v) (.obj x) (bkAV k) b M loc Q EQ := by
  intro d S s v u y ok H r1 r2 r3
  refine byG fun G_ bk_ => ?_; cases r1 using VR.objE
  obtain ⟨xs, hD, hks, hall⟩ := H.tabAt ok rp.mem
  obtain ⟨a, rfl, hb⟩ := H.isBk ok hok r2; refine bk_ ?_; clear bk_
  have hn : atKey xs k = none := atKey_no (by with_reducible refine rwE hks ?_; exact hk)
  have hlen : xs.length = ks.length := by (with_reducible refine rwE (Eq.symm hks) ?_; rewrite [List.length_map]; with_reducible rfl)
  refine wpAny_setItem_heap (knd := bankKind W.prog W.w) ?_ hb hD (fun h' hD' hs => ?_) (by with_reducible refine rwE hlen ?_; unfold sizeLine; walk_at "om")
  · exact ar_un (k := 8) (by decide) ok.units
  · rw [storedH_new hn] at hD'
    refine byG fun G_ bk_ => ?_; obtain ⟨o', es, ep, ho', h1, h2, h3, _, h5⟩ := hD'; refine bk_ ?_; clear bk_
    have e : (xs ++ [(k, a, y)]).map (·.1) = ks ++ [k] := by (with_reducible refine rwE List.map_append ?_; with_reducible refine rwE hks ?_); rfl
    refine Run.end (b := ()) rfl le0 (H.upd rp hs ho' (e ▸ .tab o' es ep _ h1 h2 h3 (fun z hz => ?_) h5)) trivial h
    rcases List.mem_append.mp hz with hz | hz
    · exact hall z hz
    · with_reducible refine rwE (List.mem_singleton.mp hz) ?_; exact ⟨hok, r2⟩
theorem ev_CallGetTab {o apos args pos}
    (h : Ev W f n o M loc (KOb W f n "dict.get" AO.tab pos args Q EQ) EQ)
    (hbase : ∀ env, attributeBase o "get" env (eval o env) = eval o env)
    (hfew : ∀ env, ((backTo pos (starEach args env)).all (fun x => !x.1) && (backToKw pos (keywordEach [] env)).all (fun x => x.1.isSome)
      && decide (args.length + ([] : List Keyword).length + (if ([] : List Keyword).isEmpty then 0 else 1) < 30)) = true)
    (hline : (apos.endLine == pos.line) = true)
    (hs : args = [] ∨ ∃ e rest, args = e :: rest ∧ (∀ env, starEach (e :: rest) env = (false, eval e env) :: starEach rest env) ∧ ∀ env, (backTo pos (starEach rest env)).any (·.1) = false) :
    Ev W f n (.Call (.Attribute o "get" apos) args [] pos) M loc Q EQ :=
  ev_CallMade PySem.F.plainAttrs_dict PySem.F.slot_dict_get PySem.F.type_dict_get
    (h.mono (fun a M₁ l₁ ⟨x, ks, h1, h2, h3⟩ => ⟨x, .tab ks, h1, h2, fun S ob r => (by cases r with | tab es ep xs q _ _ _ _ => exact ⟨q.1, q.2.1⟩), h3⟩) fun _ _ z => z) hbase hfew hline hs
/-- a method of an object in the making -/
inductive KMethM (W : Wd) (f : Fx) (n : Nat) (name : Str) (pos : Pos) (args : List Expr) (Q : AV → Mem → Loc → Prop) (EQ : Mem → Loc → Prop) (a : AV) (M : Mem) (l : Loc) : Prop
  | mk (C dx : Addr) (fs : List (Str × AV)) (fa : Addr) (ha : a = .minst C dx) (h0 : (dx, AO.ns fs) ∈ M) (h1 : plainGet W.K C name = true) (h2 : findIn W.K (.ref C) name = some (some (.ref fa))) (h3 : isFn W.K (.ref fa) = true) (h4 : keepIn W.K (.ref fa) = true) (h5 : fs.lookup name = none)
      (h : Sp W f n pos args M l (KMTs W f n fa (.minst C dx) Q EQ) EQ) : KMethM W f n name pos args Q EQ a M l
theorem ev_CallMethM {o name apos args pos} {pl : Env → Sem Bool} (h : Ev W f n o M loc (KMethM W f n name pos args Q EQ) EQ)
    (he : ∀ env, eval (.Call (.Attribute o name apos) args [] pos) env = (do
      let ov ← eval o env
      standAt apos.atName
      let (f, first) ← holding [ov] (getMethod ov name (pl env))
      callWith pos f first (backTo pos (starEach args env)) (backToKw pos (keywordEach [] env))))
    (hs : args = [] ∨ ∃ e rest, args = e :: rest ∧ (∀ env, starEach (e :: rest) env = (false, eval e env) :: starEach rest env) ∧ ∀ env, (backTo pos (starEach rest env)).any (·.1) = false) :
    Ev W f n (.Call (.Attribute o name apos) args [] pos) M loc Q EQ := by
  intro d S s ok H
  refine methodCall_KW ?_ (he _)
  refine Run.then le0 rfl (h d S s ok H) fun v s₁ S₁ M₁ l₁ a e₁ k₁ _ H₁ r₁ q₁ => ?_
  obtain ⟨C, dx, fs, fa, rfl, hm, hg, hf, ht, hk, hl, z⟩ := q₁
  have r₁' := r₁
  cases r₁ using VR.minstE with
  | minst x hx =>
    obtain ⟨o', ho, ro⟩ := H₁.memAt hm
    cases ro using OR.nsE with
    | ns es k kvs e1 e2 e3 hr =>
      subst e1 e3
      have X : W.K.In s₁.heap := by obtain ⟨g, m, news, G, F, _⟩ := H₁; exact (ok.kin' G).keeps F.keep
      have I : PySem.W.InstAt s₁.heap x (instObj C dx) C (some (dictOf es k)) := ⟨H₁.at ok hx, rfl, rfl, ho⟩
      have hns := nsO_dict (n := k) e2
      have hsh : shadowIn (some (dictOf es k)) name = some false := by
        refine (?_ : (lookIn name (dictOf es k)).map (·.isSome) = some false)
        rcases vrd_find (name := name) hr with ⟨_, z⟩ | ⟨a', u, h1, _, _⟩
        · (rewrite [ns_find hns]; with_reducible refine rwE z ?_); rfl
        · rw [hl] at h1; injection h1
      refine method_fn X I (plainGet_of hg).1 (plainGet_of hg).2 hf (beq_iff_eq.mp ht) hsh ?_
      exact run_callWith k₁ e₁ ok H₁ (.def fa hk) (.cons _ _ _ _ r₁' .nil) (.inl fun T e => nomatch e) hs z
theorem ev_CallMake {o apos args pos} {pl : Env → Sem Bool} (h : Ev W f n o M loc (KMethM W f n "make" pos args Q EQ) EQ)
    (he : ∀ env, eval (.Call (.Attribute o "make" apos) args [] pos) env = (do
      let ov ← eval o env
      standAt apos.atName
      let (f, first) ← holding [ov] (getMethod ov "make" (pl env))
      callWith pos f first (backTo pos (starEach args env)) (backToKw pos (keywordEach [] env))))
    (hs : args = [] ∨ ∃ e rest, args = e :: rest ∧ (∀ env, starEach (e :: rest) env = (false, eval e env) :: starEach rest env) ∧ ∀ env, (backTo pos (starEach rest env)).any (·.1) = false) :
    Ev W f n (.Call (.Attribute o "make" apos) args [] pos) M loc Q EQ := ev_CallMethM h he hs
theorem ev_CallClear {o apos args pos} {pl : Env → Sem Bool} (h : Ev W f n o M loc (KMethM W f n "clear" pos args Q EQ) EQ)
    (he : ∀ env, eval (.Call (.Attribute o "clear" apos) args [] pos) env = (do
      let ov ← eval o env
      standAt apos.atName
      let (f, first) ← holding [ov] (getMethod ov "clear" (pl env))
      callWith pos f first (backTo pos (starEach args env)) (backToKw pos (keywordEach [] env))))
    (hs : args = [] ∨ ∃ e rest, args = e :: rest ∧ (∀ env, starEach (e :: rest) env = (false, eval e env) :: starEach rest env) ∧ ∀ env, (backTo pos (starEach rest env)).any (·.1) = false) :
    Ev W f n (.Call (.Attribute o "clear" apos) args [] pos) M loc Q EQ := ev_CallMethM h he hs
end
theorem methM_in {W : Wd} {f : Fx} {n : Nat} {name : Str} {pos : Pos} {args : List Expr} {Q : AV → Mem → Loc → Prop} {EQ : Mem → Loc → Prop} {l : Loc} {C dx fa : Addr} {M : Mem} {fs : List (Str × AV)} (h0 : (dx, AO.ns fs) ∈ M) (h1 : plainGet W.K C name = true) (h2 : findIn W.K (.ref C) name = some (some (.ref fa))) (h3 : isFn W.K (.ref fa) = true) (h4 : keepIn W.K (.ref fa) = true) (h5 : fs.lookup name = none)
    (h : Sp W f n pos args M l (KMTs W f n fa (.minst C dx) Q EQ) EQ) : KMethM W f n name pos args Q EQ (.minst C dx) M l := ⟨C, dx, fs, fa, rfl, h0, h1, h2, h3, h4, h5, h⟩
end Mine
end
section
open PySem PySem.W PySem.Calls PyProof.Rows PySem.Spec PySem.SeqAt
namespace Mine
section
variable {W : Wd} {f : Fx} {n : Nat} {M M' : Mem} {loc : Loc} {Q : AV → Mem → Loc → Prop} {EQ : Mem → Loc → Prop}
theorem t_intInt {i : Int} (h : Q (.int i) M loc) : Ts W f n (VR W) (fun vs => call (.type "int") vs) [.int i] M loc Q EQ := by
  intro d S s vs ok H rs
  cases rs using VRs.consE with
  | cons v _ r1 rs =>
    cases rs using VRs.nilE
    have r1' := r1
    cases r1 using VR.intE with
    | int t => exact call_int_int (Run.end rfl le0 H r1' h)
theorem intsAre_of {S : Tab} : ∀ {us : List Value} {ns : List Int}, VRs W S us (ns.map .int) → IntsAre us ns
  | _, [], h => by cases h; exact .nil
  | _, i :: ns, h => by
    cases h using VRs.consE with
    | cons v us r rs =>
      cases r using VR.intE with
      | int t => exact .cons _ _ (intsAre_of rs)
theorem t_sum {a : AV} {ns : List Int} (x : LstAV M a (ns.map .int)) (h : Q (.int ns.sum) M loc) : Ts W f n (VR W) (fun vs => call (.builtin "sum") vs) [a] M loc Q EQ := by
  intro d S s vs ok H rs
  cases rs using VRs.consE with
  | cons v _ r1 rs =>
    cases rs using VRs.nilE
    obtain ⟨b, us, m, rfl, ho, hr⟩ := x.at H ok r1
    have hi := intsAre_of hr
    obtain ⟨xs, hxs⟩ := hi.allInts.items
    have hl : s.heap.IsList b (intItems xs) := ⟨_, ho, rfl, m, by (with_reducible refine rwE (Eq.symm hxs) ?_; with_reducible rfl)⟩
    refine sum_intListG ok.hand hl fun h' tk t' hk => ?_
    have e : preSum (numAt xs) xs.size = ns.sum := by
      (rewrite [preSum_eq]; with_reducible refine rwE (List.take_of_length_le (by simp)) ?_)
      have := hi.numsOf
      rw [show us = us.toArray.toList from rfl, hxs, nums_intItems] at this
      (with_reducible refine rwE this ?_; with_reducible rfl)
    with_reducible refine rwE e ?_
    exact Run.end rfl le0 (H.ext hk) (.int _ _) h
theorem t_addS {x y : Str} (hz : x.length + y.length ≤ sizeLine) (h : Q (.str (x ++ y)) M loc) : T2 W f n (VR W) (binaryOp .Add) (.str x) (.str y) M loc Q EQ := by
  intro d S s v u ok H r1 r2
  cases r1 using VR.strE; cases r2 using VR.strE
  exact PyProof.Rows.add_str (fun t' tk => Run.end rfl le0 H (.str _ _) h) hz
theorem tr_Compare2 {l o1 o2 r1 r2 pos} {Q : Bool → Mem → Loc → Prop} (h : Ev W f n l M loc (fun a M₁ l₁ => Ev W f n r1 M₁ l₁ (fun b M₂ l₂ => T2 W f n (VR W) (compareOp o1) a b M₂ l₂ (fun c M₃ l₃ => ∃ q, c = .bool q ∧ (q = true → Ev W f n r2 M₃ l₃ (fun e M₄ l₄ => T2 W f n (VR W) (compareOp o2) b e M₄ l₄ (fun c' M₅ l₅ => ∃ q', c' = .bool q' ∧ Q q' M₅ l₅) EQ) EQ) ∧ (q = false → Q false M₃ l₃)) EQ) EQ) EQ) (hm : behindInMarks o2 r2 = false) :
    Tr W f n (.Compare l [o1, o2] [r1, r2] pos) M loc Q EQ := by
  intro d S s ok H
  refine (?_ : wpAny _ _ (isTrue _ _ _) _ _ _)
  rw [arm_isTrue_Compare]
  have e : markedEach [o1, o2] [r1, r2] (evalEach [r1, r2] (f.here d)) = [eval r1 (f.here d), eval r2 (f.here d)] := by
    refine (?_ : [eval r1 (f.here d), markedBehindIn o2 r2 (eval r2 (f.here d))] = _)
    (with_reducible refine rwE (markedBehindIn_of_false hm) ?_; with_reducible rfl)
  with_reducible refine rwE e ?_
  refine wpAny_bind (Run.then le0 rfl (h d S s ok H) fun v s₁ S₁ M₁ l₁ a e₁ k₁ _ H₁ ra q₁ => ?_)
  refine wpAny_bind (wpAny_holding (Run.then k₁ e₁ (q₁ d S₁ s₁ ok H₁) fun u s₂ S₂ M₂ l₂ b e₂ k₂ k₂' H₂ rb q₂ => ?_))
  refine wpAny_bind (wpAny_standAt ?_)
  refine wpAny_bind (wpAny_holding (Run.then k₂ e₂ (q₂ d S₂ s₂ v u ok H₂ (ra.mono k₂') rb) fun x s₃ S₃ M₃ l₃ c e₃ k₃ k₃' H₃ rc q₃ => ?_))
  obtain ⟨q, rfl, z1, z2⟩ := q₃
  cases rc using VR.boolE
  refine wpAny_bind (wpAny_release ?_)
  refine wpAny_bind (wpAny_holding (wpAny_truthy_bool ?_))
  cases q with
  | false => exact wpAny_pure (Run.end e₃ k₃ H₃ rfl (z2 rfl))
  | true =>
    simp only [if_true]
    refine wpAny_bind (wpAny_holding (Run.then k₃ e₃ (z1 rfl d S₃ s₃ ok H₃) fun y s₄ S₄ M₄ l₄ e' e₄ k₄ k₄' H₄ re q₄ => ?_))
    refine wpAny_bind (wpAny_standAt ?_)
    refine wpAny_bind (wpAny_operateT (Run.then k₄ e₄ (q₄ d S₄ s₄ u y ok H₄ ((rb.mono k₃').mono k₄') re) fun x s₅ S₅ M₅ l₅ c e₅ k₅ k₅' H₅ rc q₅ => ?_))
    obtain ⟨q', rfl, z⟩ := q₅
    cases rc using VR.boolE
    exact wpAny_holding (wpAny_truthy_bool (Run.end e₅ k₅ H₅ rfl z))
theorem reads_br {d : Cy} {S : Tab} {h : Heap} (H : Here W d S M loc h) (ok : Ok W f n d) : ∀ {names : List (Str × Str)} {us : List Value}, VRs W S us (names.map fun p => .tup [.str p.1, .str p.2]) → ReadsAll h us (names.map fun p => .tuple [.str p.1, .str p.2]) []
  | [], _, h => by cases h; exact .nil
  | p :: names, _, h => by
    cases h using VRs.consE with
    | cons v us r rs =>
      have ht := reads_br H ok rs
      cases r using VR.tupE with
      | tup a o us' h1 h2 h3 =>
        cases h3 using VRs.consE with
        | cons _ _ r1 h3 =>
          cases h3 using VRs.consE with
          | cons _ _ r2 h3 =>
            cases h3 using VRs.nilE
            cases r1 using VR.strE with
            | str t =>
              cases r2 using VR.strE with
              | str u =>
                obtain ⟨⟨c1, n1, e1⟩, _⟩ := h2
                exact ReadsAll.cons (as := []) (bs := []) (.tuple (H.at ok h1) c1 e1 (ReadsAll.cons (as := []) (bs := []) (.str _ t) (ReadsAll.cons (as := []) (bs := []) (.str _ u) .nil))) ht
theorem t_eqBr {a b : AV} {names : List (Str × Str)} (x : LstAV M a (names.map fun p => .tup [.str p.1, .str p.2])) (y : LstAV M b (names.map fun p => .tup [.str p.1, .str p.2])) (hok : ∀ p ∈ names, PyData.strOk p.1 = true ∧ PyData.strOk p.2 = true) (h : Q (.bool true) M loc) : T2 W f n (VR W) (compareOp .Eq) a b M loc Q EQ := by
  intro d S s v u ok H r1 r2
  obtain ⟨c, us, m, rfl, ho, hr⟩ := x.at H ok r1
  obtain ⟨c', us', m', rfl, ho', hr'⟩ := y.at H ok r2
  have ra : Reads s.heap (.ref c) (.list (names.map fun p => .tuple [.str p.1, .str p.2])) [c] := .list ho rfl rfl (reads_br H ok hr)
  have rb : Reads s.heap (.ref c') (.list (names.map fun p => .tuple [.str p.1, .str p.2])) [c'] := .list ho' rfl rfl (reads_br H ok hr')
  have lay : ∀ {ns : List (Str × Str)}, (∀ p ∈ ns, PyData.strOk p.1 = true ∧ PyData.strOk p.2 = true) → PyData.canLayAll0 (ns.map fun p => .tuple [.str p.1, .str p.2]) = true := by
    intro ns hns
    induction ns with
    | nil => rfl
    | cons p r ih =>
      with_reducible refine rwE List.map_cons ?_
      simp [PyData.canLayAll0, PyData.canLay0, (hns p (.head _)).1, (hns p (.head _)).2, ih fun q hq => hns q (.tail _ hq)]
  have dep : ∀ {ns : List (Str × Str)}, PyData.depthAll (ns.map fun p => .tuple [.str p.1, .str p.2]) ≤ 3 := by
    intro ns
    induction ns with
    | nil => decide
    | cons p r ih =>
      with_reducible refine rwE List.map_cons ?_
      simp [PyData.depthAll, PyData.depth]
      walk_at "om"
  have eqv : ∀ {ns : List (Str × Str)}, PyData.eqvAll (ns.map fun p => .tuple [.str p.1, .str p.2]) (ns.map fun p => .tuple [.str p.1, .str p.2]) = true := by
    intro ns
    induction ns with
    | nil => rfl
    | cons p r ih =>
      with_reducible refine rwE List.map_cons ?_
      simp [PyData.eqvAll, PyData.eqv, ih]
  have hlay : (PyData.list (names.map fun p => .tuple [.str p.1, .str p.2])).canLay0 = true := by
    simp only [PyData.canLay0]
    exact lay hok
  refine compareEq_reads ra rb hlay hlay ?_ ?_
  · have := ok.units
    have hd : (PyData.list (names.map fun p => .tuple [.str p.1, .str p.2])).depth ≤ 4 := by
      simp only [PyData.depth]
      have := dep (ns := names)
      walk_at "om"
    refine Nat.lt_of_le_of_lt (Nat.add_le_add_left (ar_minL hd) (d.A.units + 3)) (ar_un (k := 7) (by decide) this)
  · have he : (PyData.list (names.map fun p => .tuple [.str p.1, .str p.2])).eqv (.list (names.map fun p => .tuple [.str p.1, .str p.2])) = true := by
      simp only [PyData.eqv]
      exact eqv
    with_reducible refine rwE he ?_
    exact Run.end rfl le0 H (.bool _) h
end
end Mine
end
section
open PySem PySem.W PySem.Calls PyProof.Rows PySem.Spec PySem.SeqAt
namespace Mine
inductive RelD (W : Wd) (S : Tab) : List (Value × Value) → List (Str × AV) → Prop
  | nil : RelD W S [] []
  | cons (k : Str) (t : Tok) (v : Value) (a : AV) (vs : List (Value × Value)) (as : List (Str × AV)) : VR W S v a → RelD W S vs as → RelD W S ((.str k t, v) :: vs) ((k, a) :: as)
theorem relD_kvs {W : Wd} {S : Tab} : ∀ {vs : List (Value × Value)} {as : List (Str × AV)}, RelD W S vs as → ∃ kvs, Carries (strKind W.prog W.w) vs kvs ∧ VRd W S kvs as
  | _, _, .nil => ⟨[], trivial, .nil⟩
  | _, _, .cons k t v a vs as r rs => by
    obtain ⟨kvs, h1, h2⟩ := relD_kvs rs
    exact ⟨(k, v) :: kvs, ⟨isStrOf_self, rfl, h1⟩, .cons _ _ _ _ _ r h2⟩
theorem merged_go {kvs : List (Str × Value)} : ∀ {acc : List (Str × Value)}, ((acc ++ kvs).map (·.1)).Nodup → kvs.foldl (fun acc kv => stored acc kv.1 kv.2) acc = acc ++ kvs := by
  induction kvs with
  | nil => intro acc _; simp
  | cons e r ih =>
    intro acc h
    rw [List.foldl_cons]
    have hn : acc.any (fun kv => decide (kv.1 = e.1)) = false := by
      rw [List.any_eq_false]
      intro x hx
      rw [List.map_append, List.nodup_append] at h
      have := h.2.2 x.1 (List.mem_map.mpr ⟨x, hx, rfl⟩) e.1 (by simp)
      simpa using this
    have hs : stored acc e.1 e.2 = acc ++ [e] := by
      unfold stored
      rw [hn]; rfl
    rw [hs, ih (by simpa using h)]
    simp
section
variable {W : Wd} {f : Fx} {n : Nat} {M M' : Mem} {loc : Loc} {Q : AV → Mem → Loc → Prop} {EQ : Mem → Loc → Prop}
noncomputable def pairE (pos : Pos) (env : Env) (p : Expr × Expr) : Sem Value × Sem Value := (eval p.1 env, do let x ← eval p.2 env; standAt pos; pure x)
noncomputable def Dp (W : Wd) (f : Fx) (n : Nat) (pos : Pos) (kvs : List (Expr × Expr)) (M : Mem) (loc : Loc) (Q : List (Str × AV) → Mem → Loc → Prop) (EQ : Mem → Loc → Prop) : Prop :=
  T0 W f n (RelD W) (fun env => evalPairs (kvs.map (pairE pos env))) M loc Q EQ
theorem dp_nil {pos} {Q : List (Str × AV) → Mem → Loc → Prop} (h : Q [] M loc) : Dp W f n pos [] M loc Q EQ := fun d S s ok H => evalPairs_nil (Run.end rfl le0 H .nil h)
theorem dp_cons {pos k kk p v rest} {Q : List (Str × AV) → Mem → Loc → Prop} (h : Ev W f n v M loc (fun a M₁ l₁ => Dp W f n pos rest M₁ l₁ (fun as M₂ l₂ => Q ((k, a) :: as) M₂ l₂) EQ) EQ) : Dp W f n pos ((.Constant (.str k) kk p, v) :: rest) M loc Q EQ := by
  intro d S s ok H
  refine evalPairs_cons (wpAny_Constant_str ?_)
  refine wpAny_bind (Run.then (s₀ := s) le0 rfl (h d S _ ok H) fun u s₁ S₁ M₁ l₁ a e₁ k₁ _ H₁ ra q₁ => ?_)
  refine wpAny_bind (wpAny_standAt (wpAny_pure ?_))
  refine Run.then k₁ e₁ (q₁ d S₁ s₁ ok H₁) fun vs s₂ S₂ M₂ l₂ as e₂ k₂ k₂' H₂ rs q₂ => ?_
  exact Run.end e₂ k₂ H₂ (.cons _ _ _ _ _ _ (ra.mono k₂') rs) q₂
theorem ev_DictN {keys values pos} {kvs : List (Expr × Expr)} (h : ∀ x, Dp W f n pos kvs ((x, .dict []) :: M) loc (fun as M₂ l₂ => (as.map (·.1)).Nodup ∧ ∃ M₃, Rp x (.dict []) (.dict as) M₂ M₃ ∧ Q (.obj x) M₃ l₂) EQ)
    (hshape : ∀ env, (evalEachOpt keys env).zip ((evalEach values env).map fun v => do let x ← v; standAt pos; pure x) = (kvs.map (pairE pos env)).map fun p => (some p.1, p.2)) (h0 : kvs ≠ []) (hlen : kvs.length ≤ 15) : Ev W f n (.Dict keys values pos) M loc Q EQ := by
  intro d S s ok H
  refine wpAny_Dict_pairs (knd := strKind W.prog W.w) (hshape _) (by simpa using h0) (by simpa using hlen) ?_
  have H0 := H.allocM ok { cls := .type "dict", data := .dict #[] } (.dict _ [] [] dicO_nil .nil)
  refine Run.then le0 rfl (h s.heap.objs.size d S _ ok H0) fun vs s₁ S₁ M₁ l₁ as e₁ k₁ _ H₁ rs q₁ => ?_
  refine byG fun G_ bk_ => ?_; obtain ⟨nd, M₃, rp, q⟩ := q₁
  obtain ⟨kvs', hc, hr⟩ := relD_kvs rs
  obtain ⟨o, ho, ro⟩ := H₁.memAt rp.mem; refine bk_ ?_; clear bk_
  refine ⟨kvs', hc, ?_, fun h' hD hs => ?_⟩
  · cases ro using OR.dictE with
    | dict kv g1 g2 =>
      cases g2
      exact dictOf_at ho g1
  · have hnd : (kvs'.map (·.1)).Nodup := by rw [vrd_keys hr]; exact nd
    have em : merged [] kvs' = kvs' := by
      have := merged_go (kvs := kvs') (acc := []) (by simpa using hnd)
      simpa [merged] using this
    rw [em] at hD
    refine byG fun G_ bk_ => ?_; obtain ⟨o', g1, g2⟩ := at_dictOf hD; refine bk_ ?_; clear bk_
    exact Run.end (e₁.trans Same.mk') k₁ (H₁.upd rp hs g1 (.dict o' _ _ g2 hr)) (.obj _) q
end
end Mine
end
section
open PySem PySem.W PySem.Calls PyProof.Rows PySem.Spec PySem.SeqAt
namespace Mine
theorem LedOk.more {W : Wd} {news news' Fm : Led} {S : Tab} {M : Mem} (x : LedOk W news Fm S M) (h : ∀ p ∈ news, p ∈ news') : LedOk W news' Fm S M :=
  ⟨fun p hp => h p (x.fm p hp), fun a o z => h _ (x.tab a o z), fun p hp => by obtain ⟨o, h1, h2⟩ := x.mem p hp; exact ⟨o, h _ h1, h2⟩, x.nd, x.fmM, x.tabM, x.tabF⟩
section
variable {prog : Program} {w : World} {A₀ A : Around} {s : Shared} {base h₀ : Heap} {outer : List Env} {L : Addr} {m mg mb : Str → Option Value} {env : Env} {news : List (Addr × Obj)} {K : Frag} {p : Program} {loose : List Str} {mean : ExcName → Option Value}
  {R : Result → Shared → Prop} {name qual : Str} {params : Arguments} {body : List Stmt} {scope : Scope} {dV kV doc pm cdv ct oc : Value} {an od : Option Addr} {osl : Array (Option Value)} {f cc : Addr} {args : Args} {binds : List (Str × Value)}
theorem code_frameK (B : Below A₀ base outer h₀) (F : Fr h₀ L s.heap m) (X₀ : K.In h₀) (N : News h₀ L s.heap news) (T : Top p loose mean mg mb h₀) (D : KtsDicts (outer.filterMap (·.frame)) h₀) (hA : A.frames = some (env :: outer)) (hf : env.frame = some L) (hke : env.scope.kind = .function)
    (ho : K.lookup f = some ⟨oc, od, .func (ksFn name qual params body scope dV kV doc pm an cdv ct cc), osl⟩) (hcd : codeIn K cdv qual = true) (hroom : A.depth < recursionLimit)
    (hbind : BindsTo s (ksFn name qual params body scope dV kV doc pm an cdv ct cc) args binds) (hloc : ∀ y ∈ binds, scope.names.lookup y.1 = some .local)
    (h : ∀ g L' h₁, Fr h₀ L g m → KtsDicts ((env :: outer).filterMap (·.frame)) g → Fr g L' h₁ (fun y => binds.reverse.lookup y) → News g L' h₁ news → Below A base (env :: outer) g → K.In g → Top p loose mean mg mb g → (∀ p ∈ news, p.1 < L') →
      _root_.PySem.wpAt (model prog w) (A.deeper (ksEnv qual scope L' f cdv cc)) (.func body (ksEnv qual scope L' f cdv cc)) (execs body (ksEnv qual scope L' f cdv cc))
        (fun fl s' => LeaveX A₀ base outer env h₀ L m g R (match fl with | .ret v => v | _ => .none) s')
        (fun e s' => wpAny (model prog w) (A.deeper (ksEnv qual scope L' f cdv cc)) (leaving (ksEnv qual scope L' f cdv cc) e) (fun _ s'' => R (.error e) s'') (fun e' s'' => R (.error e') s'') s')
        { s with heap := h₁, toks := s.toks + binds.length })
    (hcell : ∀ x ∈ scope.names, x.2 ≠ .cell := by decide) (hco : scope.isCoroutine = false := by rfl) (hgen : scope.isGenerator = false := by rfl) (hk : scope.kind = .function := by rfl) : codeAny (model prog w) A (.call (.ref f) args) R s := by
  have nm : ∀ b o, h₀.get? b = some o → b ∉ news.map (·.1) := fun b o e q => by
    refine byG fun G_ bk_ => ?_; obtain ⟨p, hp, rfl⟩ := List.mem_map.mp q; refine bk_ ?_; clear bk_
    rw [(N p hp).2.2] at e; injection e
  have st' : h₀.StaysIn (hideAll s.heap (news.map (·.1))) := fun b o e => hideAll_get _ (F.keep b o e) (nm b o e)
  refine byG fun G_ bk_ => ?_
  obtain ⟨oL, es, ep, hL, hLd, hLk, hLf⟩ := id F.ns
  refine bk_ ?_
  have nL : L ∉ news.map (·.1) := fun q => by
    refine byG fun G_ bk_ => ?_; obtain ⟨p, hp, e⟩ := List.mem_map.mp q; refine bk_ ?_; clear bk_
    exact (N p hp).2.1 e
  have hLg := hideAll_get (news.map (·.1)) hL nL
  have nL₀ : h₀.get? L = none := kts_self F
  refine byG fun G_ bk_ => ?_; obtain ⟨FG, BG, st, lv⟩ := groundX (R := R) B F N hA hf hke; refine bk_ ?_; clear bk_
  refine ks_codeAny_call_defAt (fd := ksFn name qual params body scope dV kV doc pm an cdv ct cc) (body := body) (binds := binds) hroom ((X₀.keeps F.keep) _ _ ho) rfl (T.nolimit.keeps F.keep) (codeRec_of (X₀.keeps F.keep) hcd) rfl hbind hcell hloc (fun h₁ hns hk₁ => ?_) hco hgen hk
  refine ks_wpAt_mono (h _ s.heap.objs.size h₁ FG (fun b hb => ?_) ⟨hns, fun b o e => hk₁ b o (of_hideAll _ e), Nat.le_of_eq (hideAll_size _ _)⟩
    (fun p hp => ⟨hk₁ _ _ (N p hp).1, Nat.ne_of_lt (Heap.lt_size (N p hp).1), hideAll_none _ (List.mem_map_of_mem hp)⟩) BG (X₀.keeps st) (T.keeps st) (fun p hp => Heap.lt_size (N p hp).1)) (fun fl s' hl => ?_) fun _ _ y => y
  · rcases memX hf hb with rfl | hb
    · exact ⟨oL, es, ep, hLg, hLd⟩
    · refine byG fun G_ bk_ => ?_; obtain ⟨o, es', n', ho', hd'⟩ := D b hb; refine bk_ ?_; clear bk_
      exact ⟨o, es', n', st' b o ho', hd'⟩
  · obtain ⟨g', L', m', news', T', F', N', k⟩ := hl
    obtain ⟨sl, hs⟩ := T'.up hLg
    obtain ⟨T₁, S₁⟩ := kts_turn_at (h := s'.heap) (fs := outer.filterMap (·.frame)) (g := h₀)
      (fun b hb => by
        refine byG fun G_ bk_ => ?_; obtain ⟨_, o, ho', _⟩ := B.frames.mem hb; refine bk_ ?_; clear bk_
        exact ⟨o, ho'⟩)
      (fun b o e nmem => F'.keep b o (T'.other b o (st' b o e) (fun q => by
        rcases memX hf q with z | z
        · rw [z, nL₀] at e
          injection e
        · exact nmem z)))
      (fun b o e hm => by
        obtain ⟨sl', hs'⟩ := T'.up (st' b o e)
        exact ⟨sl', F'.keep _ _ hs'⟩)
    have B₃ : Below A₀ base outer (ktsHeap s'.heap (outer.filterMap (·.frame)) h₀) := ⟨B.stack, fun b o e => T₁.other b o (B.stays b o e) (fun hm => by
      rw [(B.frames.mem hm).1] at e
      injection e), B.frames.of_keeps fun b o e _ => by
      obtain ⟨sl', hs'⟩ := T₁.up e
      exact ⟨_, hs', rfl⟩⟩
    refine k _ T₁ ⟨⟨_, es, ep, F'.keep _ _ hs, hLd, hLk, hLf⟩, S₁, by rw [T₁.size]; exact F.above⟩ (fun p hp => ⟨(N' p hp).1, fun q => ?_, ?_⟩) B₃
    · have := (N' p hp).2.2; rw [q, hs] at this; injection this
    · refine T₁.none_ _ ?_
      cases q : h₀.get? p.1 with
      | none => rfl
      | some o =>
        obtain ⟨sl', hs'⟩ := T'.up (st' _ _ q)
        have := (N' p hp).2.2
        rw [hs'] at this
        injection this
end
section
variable {W : Wd} {f : Fx} {n : Nat} {M : Mem} {loc : Loc} {Q : AV → Mem → Loc → Prop} {EQ : Mem → Loc → Prop}
theorem ev_Dict2 {k1 k2 v1 v2 : Expr} {pos} (h : ∀ x, Dp W f n pos [(k1, v1), (k2, v2)] ((x, .dict []) :: M) loc (fun as M₂ l₂ => (as.map (·.1)).Nodup ∧ ∃ M₃, Rp x (.dict []) (.dict as) M₂ M₃ ∧ Q (.obj x) M₃ l₂) EQ) : Ev W f n (.Dict [some k1, some k2] [v1, v2] pos) M loc Q EQ :=
  ev_DictN (kvs := [(k1, v1), (k2, v2)]) h (fun _ => rfl) (by simp) (by simp)
theorem ev_Dict3 {k1 k2 k3 v1 v2 v3 : Expr} {pos} (h : ∀ x, Dp W f n pos [(k1, v1), (k2, v2), (k3, v3)] ((x, .dict []) :: M) loc (fun as M₂ l₂ => (as.map (·.1)).Nodup ∧ ∃ M₃, Rp x (.dict []) (.dict as) M₂ M₃ ∧ Q (.obj x) M₃ l₂) EQ) : Ev W f n (.Dict [some k1, some k2, some k3] [v1, v2, v3] pos) M loc Q EQ :=
  ev_DictN (kvs := [(k1, v1), (k2, v2), (k3, v3)]) h (fun _ => rfl) (by simp) (by simp)
theorem dict_end {P : Mem → Prop} {as : List (Str × AV)} {M₂ M₃ : Mem} {x : Addr} (nd : (as.map (·.1)).Nodup) (rp : Rp x (.dict []) (.dict as) M₂ M₃) (q : P M₃) : (as.map (·.1)).Nodup ∧ ∃ M₃, Rp x (.dict []) (.dict as) M₂ M₃ ∧ P M₃ := ⟨nd, M₃, rp, q⟩
end
theorem Sp.fixIn {W : Wd} {f : Fx} {n : Nat} {M M₁ M' : Mem} {loc : Loc} {EQ : Mem → Loc → Prop} {pos es} {Q : List AV → Mem → Loc → Prop} {C dx a : Addr} {fs ds : List (Str × AV)} (pk : Pick dx (.ns fs) M M₁) (rp : Rp a (.dict ds) (.dict (ds.map fun e => (e.1, fixAV C dx fs e.2))) M₁ M') (q : Sp W f n pos es M' loc Q EQ) : Sp W f n pos es M loc Q EQ := T0.fixIn pk rp q
theorem Sp.keep {W : Wd} {f : Fx} {n : Nat} {M M' r : Mem} {loc : Loc} {EQ : Mem → Loc → Prop} {pos es} {Q : List AV → Mem → Loc → Prop} (pk : Picks M' M r) (q : Sp W f n pos es M' loc Q EQ) : Sp W f n pos es M loc Q EQ := T0.keep pk q
end Mine
end
section
open PySem PySem.W PySem.Calls PyProof.Rows PySem.Spec
namespace Mine
/-- what is left to show, as a variable: the proofs stay small -/
noncomputable def ToQ {β : Type} (P Q : β → Mem → Loc → Prop) : Prop := ∀ b M l, P b M l → Q b M l
theorem absQ {W : Wd} {f : Fx} {n : Nat} {α β : Type} {R : Tab → α → β → Prop} {t : Env → Sem α} {M : Mem} {loc : Loc} {P : β → Mem → Loc → Prop} {EQ : Mem → Loc → Prop} (h : ∀ Q, ToQ P Q → T0 W f n R t M loc Q EQ) : T0 W f n R t M loc P EQ := h P fun _ _ _ q => q
theorem ToQ.use {β : Type} {P Q : β → Mem → Loc → Prop} {b : β} {M : Mem} {l : Loc} (q : ToQ P Q) (h : P b M l) : Q b M l := q b M l h
end Mine
end
section
open PySem PySem.W PySem.Calls PyProof.Rows PySem.Spec
namespace Mine
/-- a contract used: what comes behind is said by the contract -/
theorem Ts.useC {W : Wd} {f : Fx} {n : Nat} {α β : Type} {R : Tab → α → β → Prop} {M M₁ r : Mem} {loc : Loc} {Q : β → Mem → Loc → Prop} {EQ : Mem → Loc → Prop} {t : List Value → Sem α} {as : List AV} (pk : Picks M₁ M r)
    (c : Ts W f n R t as M₁ loc (fun b M' l' => Q b (M' ++ r) l') (fun _ _ => False)) : Ts W f n R t as M loc Q EQ := c.use pk (fun _ _ _ h => h) fun _ _ h => h.elim
theorem Ts.useC2 {W : Wd} {f : Fx} {n : Nat} {α β : Type} {R : Tab → α → β → Prop} {M M₁ r : Mem} {loc : Loc} {Q : β → Mem → Loc → Prop} {EQ : Mem → Loc → Prop} {t : List Value → Sem α} {as : List AV}
    (c : Ts W f n R t as M₁ loc (fun b M' l' => Q b (M' ++ r) l') (fun _ _ => False)) (pk : Picks M₁ M r) : Ts W f n R t as M loc Q EQ := Ts.useC pk c
theorem Ts.mono {W : Wd} {f : Fx} {n : Nat} {α β : Type} {R : Tab → α → β → Prop} {M : Mem} {loc : Loc} {Q Q₁ : β → Mem → Loc → Prop} {EQ : Mem → Loc → Prop} {t : List Value → Sem α} {as : List AV}
    (c : Ts W f n R t as M loc Q₁ EQ) (h : ∀ b M' l', Q₁ b M' l' → Q b M' l') : Ts W f n R t as M loc Q EQ :=
  fun d S s vs ok H rs => wpAny_mono (c d S s vs ok H rs) (fun _ _ ⟨e, S', M', loc', b, k, H', r, q⟩ => ⟨e, S', M', loc', b, k, H', r, h _ _ _ q⟩) fun _ _ z => z
section
variable {W : Wd} {f : Fx} {n : Nat} {α β : Type} {R : Tab → α → β → Prop} {M N : Mem} {loc : Loc} {B : β} {Q : β → Mem → Loc → Prop} {EQ : Mem → Loc → Prop} {t : List Value → Sem α} {as : List AV}
theorem Ts.det (c : Ts W f n R t as M loc (fun b M' l' => l' = loc ∧ b = B ∧ M' = N) EQ) (h : Q B N loc) : Ts W f n R t as M loc Q EQ := c.mono fun _ _ _ ⟨h1, h2, h3⟩ => h1 ▸ h2 ▸ h3 ▸ h
theorem Ts.det2 (c : Ts W f n R t as M loc (fun b M' l' => l' = loc ∧ M' = N ∧ b = B) EQ) (h : Q B N loc) : Ts W f n R t as M loc Q EQ := c.mono fun _ _ _ ⟨h1, h2, h3⟩ => h1 ▸ h2 ▸ h3 ▸ h
end
/-- two ways to one value -/
theorem ifJ {W : Wd} {f : Fx} {n : Nat} {M : Mem} {loc : Loc} {Q : AV → Mem → Loc → Prop} {EQ : Mem → Loc → Prop} {X : Type} (g : X → AV) (P : X → Prop) {t1 t2 : Env → Sem Value} {c1 c2 : Prop}
    (h1 : ∀ Q' : AV → Mem → Loc → Prop, (∀ x, P x → Q' (g x) M loc) → (c1 → T0 W f n (VR W) t1 M loc Q' EQ) ∧ (c2 → T0 W f n (VR W) t2 M loc Q' EQ)) (h2 : ∀ x, P x → Q (g x) M loc) : (c1 → T0 W f n (VR W) t1 M loc Q EQ) ∧ (c2 → T0 W f n (VR W) t2 M loc Q EQ) := h1 Q h2
section
variable {W : Wd} {f : Fx} {n : Nat} {M : Mem} {loc : Loc} {Q : AV → Mem → Loc → Prop} {EQ : Mem → Loc → Prop}
noncomputable abbrev CallIs (x : Str) (xp : Pos) (args : List Expr) (pos : Pos) (env : Env) : Prop := eval (.Call (.Name x xp) args [] pos) env = (do callWith pos (← eval (.Name x xp) env) [] (backTo pos (starEach args env)) (backToKw pos (keywordEach [] env)))
noncomputable abbrev ArgsOk (args : List Expr) (pos : Pos) : Prop := args = [] ∨ ∃ e rest, args = e :: rest ∧ (∀ env, starEach (e :: rest) env = (false, eval e env) :: starEach rest env) ∧ ∀ env, (backTo pos (starEach rest env)).any (·.1) = false
/-- a builtin called -/
theorem ev_CallB {x : Str} {xp : Pos} {v : Value} {args pos} (he : ∀ env, CallIs x xp args pos env) (hs : ArgsOk args pos) (hx : f.kindOf x = some .globalImplicit) (hn : nsIn W.K mainGlobals x = some none) (hv : bootBuiltins x = some v) (h1 : x ≠ "__name__") (hd : (x == ("__debug__" : Str)) = false) (hf : Fun W (.stat v) v)
    (h : Sp W f n pos args M loc (KCallTs W f n v Q EQ) EQ) : Ev W f n (.Call (.Name x xp) args [] pos) M loc Q EQ := ev_Call (ev_builtin hx hn hv h1 hd ⟨v, hf, h⟩) he hs
/-- a function or a class of the program called -/
theorem ev_CallG {x : Str} {xp : Pos} {a : Addr} {args pos} (he : ∀ env, CallIs x xp args pos env) (hs : ArgsOk args pos) (hx : f.kindOf x = some .globalImplicit) (hv : nsIn W.K mainGlobals x = some (some (.ref a))) (hd : (x == ("__debug__" : Str)) = false) (hf : keepIn W.K (.ref a) = true)
    (h : Sp W f n pos args M loc (KCallTs W f n (.ref a) Q EQ) EQ) : Ev W f n (.Call (.Name x xp) args [] pos) M loc Q EQ := ev_Call (ev_global hx hv hd (fun _ => VR.stat _) ⟨_, .def a hf, h⟩) he hs
theorem KCmp2.in {Q : Bool → Mem → Loc → Prop} {q : Bool} (h : Q q M loc) : KCmp2 Q (.bool q) M loc := ⟨q, rfl, h⟩
theorem bd_nameA {α β : Type} {R : Tab → α → β → Prop} {t : Env → Sem α} {x : Str} {pos} {a : AV} {P : β → Mem → Loc → Prop} (hx : f.co = none ∧ f.sc.names.lookup x = some .local) (h : ∀ Q, ToQ P Q → T0 W f n R t M (loc.set x a) Q EQ) : Bd W f n (.Name x pos) a M loc (fun M l => T0 W f n R t M l P EQ) := bd_name hx (absQ h)
end
theorem len_ok {k : Nat} (h : Nat.ble k 1000 = true) : k ≤ sizeLine := Nat.le_trans (Nat.le_of_ble_eq_true h) (by decide)
/-! plain expressions, read in one step -/
noncomputable def okName (f : Fx) (x : Str) : Bool := match x == ("__debug__" : Str) with
  | true => false
  | false => match f.kindOf x with
    | some .local => true
    | some .cell => true
    | _ => false
noncomputable def ifO {β : Type} (b : Bool) (o : Option β) : Option β := match b with
  | true => o
  | false => none
noncomputable def allOf (g : Expr → Option AV) : List Expr → Option (List AV)
  | [] => some []
  | e :: es => andO (g e) fun a => andO (allOf g es) fun as => some (a :: as)
noncomputable def intA : AV → Option Int
  | .int x => some x
  | _ => none
noncomputable def opI : Operator → Option (Int → Int → Int)
  | .Add => some (· + ·)
  | .Sub => some (· - ·)
  | _ => none
noncomputable def opA (op : Operator) (a b : AV) : Option AV := andO (opI op) fun g => andO (intA a) fun x => andO (intA b) fun y => some (.int (g x y))
noncomputable def tupA (as : List AV) : Option AV := ifO (Nat.ble as.length 1000) (some (.tup as))
noncomputable def subA (a : AV) (j : Nat) : Option AV := match a with
  | .tup as => ifO (Nat.ble j 1000) as[j]?
  | _ => none
noncomputable def sev (f : Fx) (loc : Loc) : Nat → Expr → Option AV
  | 0, _ => none
  | k + 1, e => match e with
    | .Name x _ => ifO (okName f x) (loc x)
    | .Constant (.int i) _ _ => some (.int i)
    | .Constant (.str s) _ _ => some (.str s)
    | .Constant .none _ _ => some .none
    | .Constant (.bool b) _ _ => some (.bool b)
    | .Tuple es _ _ => andO (allOf (sev f loc k) es) tupA
    | .BinOp l op r _ => andO (sev f loc k l) fun a => andO (sev f loc k r) fun b => opA op a b
    | .Subscript v (.Constant (.int (.ofNat j)) _ _) _ => andO (sev f loc k v) fun a => subA a j
    | _ => none
theorem bmE {β : Type} {o : Bool} {r : Option β} {b : β} {G : Prop} (h : ifO o r = some b) (k : o = true → r = some b → G) : G := by
  cases o with
  | false => exact nsE h
  | true => exact k rfl h
section
variable {W : Wd} {f : Fx} {n : Nat} {M : Mem} {loc : Loc} {EQ : Mem → Loc → Prop}
/-- what a step of sev finds is what is read -/
noncomputable def SevOk (W : Wd) (f : Fx) (n : Nat) (M : Mem) (loc : Loc) (EQ : Mem → Loc → Prop) (g : Expr → Option AV) : Prop :=
  ∀ e a, g e = some a → (∀ env rest, starEach (e :: rest) env = (false, eval e env) :: starEach rest env) ∧ ∀ Q : AV → Mem → Loc → Prop, Q a M loc → Ev W f n e M loc Q EQ
theorem SevOk.all {g : Expr → Option AV} (H : SevOk W f n M loc EQ g) {pos : Pos} : ∀ {es : List Expr} {as : List AV} {Q : List AV → Mem → Loc → Prop}, allOf g es = some as → Q as M loc → Sp W f n pos es M loc Q EQ := by
  intro es
  induction es with
  | nil => intro as Q h q; (injection h with e0; (first | subst e0 | cases e0)); exact sp_nil q
  | cons e es ih =>
    intro as Q h q
    exact omE h fun a e1 h => omE h fun r e2 h => sp_cons ((H e a e1).2 _ (ih e2 (by refine (?_ : Q (a :: r) M loc); with_reducible refine rwE (Option.some.inj h) ?_; exact q))) fun env => (H e a e1).1 env es
theorem ev_okName {x : Str} {pos : Pos} {a : AV} {Q : AV → Mem → Loc → Prop} (h1 : okName f x = true) (h2 : loc x = some a) (q : Q a M loc) : Ev W f n (.Name x pos) M loc Q EQ := by
  unfold okName at h1
  cases e1 : x == ("__debug__" : Str) with
  | true => rw [e1] at h1; injection h1
  | false =>
    rw [e1] at h1
    cases e2 : f.kindOf x with
    | none => rw [e2] at h1; injection h1
    | some k =>
      rw [e2] at h1
      cases k with
      | «local» => exact ev_local e2 h2 e1 q
      | cell => exact ev_cell e2 h2 e1 q
      | _ => injection h1
theorem intA_ok {a : AV} {x : Int} (h : intA a = some x) : a = .int x := by
  cases a with
  | int y => rw [Option.some.inj h]
  | _ => exact nsE h
theorem opA_ok {op : Operator} {a b c : AV} {Q : AV → Mem → Loc → Prop} (h : opA op a b = some c) (q : Q c M loc) : T2 W f n (VR W) (binaryOp op) a b M loc Q EQ :=
  omE h fun g e1 h => omE h fun x e2 h => omE h fun y e3 h => by
    (with_reducible refine rwE (intA_ok e2) ?_; with_reducible refine rwE (intA_ok e3) ?_)
    rw [← Option.some.inj h] at q
    cases op with
    | Add => rw [← Option.some.inj e1] at q; exact t_add q
    | Sub => rw [← Option.some.inj e1] at q; exact t_sub q
    | _ => exact nsE e1
theorem subA_ok {v : Expr} {a c : AV} {j k : Nat} {pos : Pos} {Q : AV → Mem → Loc → Prop} (h : subA a j = some c) (q : Q c M loc) : T2 W f n (VR W) (subscriptTail v (.Constant (.int (.ofNat j)) k pos)) a (.int (.ofNat j)) M loc Q EQ := by
  cases a with
  | tup as => exact bmE h fun hj h => t_subTupL rfl h (by have := Nat.le_of_ble_eq_true hj; refine (?_ : ((j : Nat) : Int) < 2 ^ 63); walk_at "om") (fun _ _ _ => by with_unfolding_all rfl) q
  | _ => exact nsE h
theorem sevOk : ∀ k, SevOk W f n M loc EQ (sev f loc k) := by
  intro k
  induction k with
  | zero => intro e a h; exact nsE h
  | succ k ih =>
    intro e a h
    cases e with
    | Name x pos => exact ⟨fun _ _ => rfl, bmE h fun h1 h2 Q q => ev_okName h1 h2 q⟩
    | Tuple es _ pos =>
      exact ⟨fun _ _ => rfl, omE h fun as e1 h => bmE h fun hl h Q q => ev_Tuple (ih.all e1 ⟨Nat.le_trans (Nat.le_of_ble_eq_true hl) (by decide), by with_reducible refine rwE (Option.some.inj h) ?_; exact q⟩)⟩
    | BinOp l op r pos =>
      exact ⟨fun _ _ => rfl, omE h fun x e1 h => omE h fun y e2 h Q q => ev_BinOp ((ih _ _ e1).2 _ ((ih _ _ e2).2 _ (opA_ok h q)))⟩
    | Constant c _ pos =>
      cases c with
      | none => exact ⟨fun _ _ => rfl, fun Q q => ev_none (by rw [Option.some.inj h]; exact q)⟩
      | bool b => exact ⟨fun _ _ => rfl, fun Q q => ev_bool (by rw [Option.some.inj h]; exact q)⟩
      | int i => exact ⟨fun _ _ => rfl, fun Q q => ev_int (by rw [Option.some.inj h]; exact q)⟩
      | str s => exact ⟨fun _ _ => rfl, fun Q q => ev_str (by rw [Option.some.inj h]; exact q)⟩
      | _ => exact nsE h
    | Subscript v s pos =>
      cases s with
      | Constant c _ p =>
        cases c with
        | int i =>
          cases i with
          | ofNat j => exact ⟨fun _ _ => rfl, omE h fun x e1 h Q q => ev_Subscript ((ih _ _ e1).2 _ (ev_int (subA_ok h q)))⟩
          | negSucc j => exact nsE h
        | _ => exact nsE h
      | _ => exact nsE h
    | _ => exact nsE h
theorem ev_pure {e : Expr} {a : AV} {Q : AV → Mem → Loc → Prop} (h : sev f loc 6 e = some a) (q : Q a M loc) : Ev W f n e M loc Q EQ := (sevOk 6 e a h).2 Q q
theorem sp_pure {pos : Pos} {es : List Expr} {as : List AV} {Q : List AV → Mem → Loc → Prop} (h : allOf (sev f loc 6) es = some as) (q : Q as M loc) : Sp W f n pos es M loc Q EQ := (sevOk 6).all h q
end
end Mine
end
section
open PySem PySem.W PySem.Calls PyProof.Rows PySem.Spec PySem.SeqAt
namespace Mine
noncomputable abbrev WW (w : World) (mean : ExcName → Option Value) (mg mb : Str → Option Value) : Wd := { prog := PySem.Challenge.rw_sj0102_01.row.prog, w := w, K := hd.heap_39 w.params, p := hd.view_39, loose := looseW hd.view_39 [Str.ofString "MOST_BITS"], mean := mean, mg := mg, mb := mb, X := 67 }
theorem noMods {w : World} {mean : ExcName → Option Value} {mg mb : Str → Option Value} : (WW w mean mg mb).K.lookup sysModules = none := by
  show (hd.heap_39 w.params).lookup 1 = none
  rfl
end Mine
end
section
open PySem PySem.W PySem.Calls PyProof.Rows PySem.Spec PySem.SeqAt
namespace Mine
example : (hd.heap_39 = hd.heap_39) ∧ PySem.Challenge.rw_sj0102_01 = PySem.Challenge.rw_sj0102_01 := by
  k_fill
  exact ⟨rfl, rfl⟩
theorem exc_make {w : World} {mean : ExcName → Option Value} {mg mb : Str → Option Value} {f : Fx} {n : Nat} {d : Cy} {S : Tab} {M : Mem} {loc : Loc} {s : Shared} {v : Value} {Q : Value → Shared → Prop} {E : Value → Shared → Prop}
    (ok : Ok (WW w mean mg mb) f (n + 1) d) (H : Here (WW w mean mg mb) d S M loc s.heap)
    (hQ : ∀ s' ea t g m news h, Same s s' → Ground d g → LedOk (WW w mean mg mb) news d.Fm S M → LocOk (WW w mean mg mb) S d m loc → FreshX h s'.heap ea (.ref 67) t [v] → Fr g d.L h m → News g d.L h news → (∀ b o, (hd.heap_39 w.params).lookup b = some o → s'.heap.get? b = some o) → Q (.ref ea) s') :
    wpAny (model (WW w mean mg mb).prog w) (d.A.deeper (f.env d)) (call (.ref 67) [v]) Q E s := by
  refine byG fun G_ bk_ => ?_; obtain ⟨g, m, news, G, F, N, LO, LC⟩ := H
  have X₀ : (hd.heap_39 w.params).In g := ok.kin' G
  have T := ok.top' G
  have X : (hd.heap_39 w.params).In s.heap := X₀.keeps F.keep
  obtain ⟨hh, gs, dr, tk, os⟩ := s; refine bk_ ?_; clear bk_
  have hC : hh.get? 67 = some (excClassObj (Str.ofString "SortFault") (Str.ofString "SortFault") 67 66 [.ref 47] (excBm 47) true [] [] false none none (some (.ref 51)) none (some (.str (Str.ofString "SortFault") 234)) (some (.str (Str.ofString "SortFault") 242)) (some (.bool true)) "Exception.__new__") := X _ _ (by k_is)
  refine exc_call (K := hd.heap_39 w.params) X hC (fI := 37) (by k_is) (by k_is) (fun h1 keep hget hsz => ?_) (by refine (?_ : 1 ≤ sizeLine); decide)
  have F1 : Fr g d.L h1 m := F.keeps keep
  have lt : ∀ (b : Nat) o, hh.get? b = some o → b < hh.objs.size := fun b o q => Heap.lt_size q
  have nl : (d.L : Nat) < hh.objs.size := F.ns.lt
  have ng : g.get? (hh.objs.size + 1) = none := by
    cases q : g.get? (hh.objs.size + 1) with
    | none => rfl
    | some o => exact absurd (lt _ _ (F.keep _ _ q)) (Nat.not_lt.mpr (Nat.le_succ _))
  have N1 : News g d.L h1 ((hh.objs.size + 1, excO 67 hh.objs.size) :: news) := fun p hp => by
    rcases List.mem_cons.mp hp with rfl | hp
    · exact ⟨hget, (fun e => absurd nl (Nat.not_lt.mpr (Nat.le_trans (Nat.le_succ _) (Nat.le_of_eq e)))), ng⟩
    · exact ⟨keep _ _ (N p hp).1, (N p hp).2⟩
  have hfr : (made1 (d.A.deeper (f.env d))).frames = some (f.env d :: d.outer) := by
    refine (?_ : (d.A.frames.map (f.env d :: ·)) = _)
    rw [G.below.stack]; rfl
  refine' ks_code_super (binds := [(("self" : Str), .ref (hh.objs.size + 1)), (("what" : Str), v)]) (s := ⟨h1, gs, dr, tk, os⟩) (env := f.env d) (L := d.L) G.below F1 X₀ N1 T hfr rfl ok.kind ?ho ?hcd ?hroom ?hb ?hloc ?_ ?c1 ?c2 ?c3 ?c4
  case ho => k_is
  case hcd => k_is
  case hroom => have := ok.room; refine (?_ : d.A.depth + 1 + 1 < recursionLimit); walk_at "om"
  case hb => exact BindsTo.of_eq rfl
  case hloc => exact locs rfl
  case c1 => decide
  case c2 => exact rfl
  case c3 => exact rfl
  case c4 => exact rfl
  intro g' L' h₁ FG F' N' B' X' T' l1
  have ge : h₁.get? (hh.objs.size + 1) = some (excO 67 hh.objs.size) := (N' _ (.head _)).1
  have XX : (hd.heap_39 w.params).In h₁ := X'.keeps F'.keep
  have I : PySem.W.InstAt h₁ (hh.objs.size + 1) (excO 67 hh.objs.size) 67 none := ⟨ge, rfl, rfl, trivial⟩
  refine ks_wpAt_execs_cons (ks_wpAt_Expr_any (ks_wpAt_MethodCall ?_))
  refine' ks_node (K := hd.heap_39 w.params) (x := hh.objs.size + 1) (C := 67) (D := 47) F' X' N' T' ?n1 ?n2 ?n3 I ?n5 ?n6 ?n7 ?n8 ?n9 ?n10 ?n11 ?n12 ?n13 ?n14 ?n15 ?n16 ?n17 ?n18 ?_
  case n1 => k_is
  case n2 => rfl
  case n3 => rfl
  case n5 => k_is
  case n6 => rfl
  case n7 => show ((PySem.Challenge.rw_sj0102_01.row.prog.main.file : Str) == _) = true; decide +kernel
  case n8 => k_is
  case n9 => k_is
  case n10 => k_is
  case n11 => k_is
  case n12 => decide
  case n13 => rfl
  case n14 => rfl
  case n15 => rfl
  case n16 => rfl
  case n17 => show (List.lookup _ PySem.Challenge.rw_sj0102_01.row.prog.main.scope.names).isSome = false; decide +kernel
  case n18 => first | boot_fast | kernel_rfl
  intro so h₂ F₂ N₂ l2
  have gs2 : h₂.get? so = some (ks_superObj 47 (hh.objs.size + 1) 67) := (N₂ _ (.head _)).1
  have ge2 : h₂.get? (hh.objs.size + 1) = some (excO 67 hh.objs.size) := (N₂ _ (.tail _ (.head _))).1
  have XX2 : (hd.heap_39 w.params).In h₂ := X'.keeps F₂.keep
  have I2 : PySem.W.InstAt h₂ (hh.objs.size + 1) (excO 67 hh.objs.size) 67 none := ⟨ge2, rfl, rfl, trivial⟩
  have sub2 : mroIn (hd.heap_39 w.params) 67 (.type "Exception") = some true := by k_is
  have nsK : nsIn (hd.heap_39 w.params) cStatics "thirdparty.any" = some none := by k_is
  have i2 : Looks (model (WW w mean mg mb).prog w) h₂ (isInstance (.ref (hh.objs.size + 1)) (.type "Exception")) true := I2.type.andThen (looks_mroIn XX2 sub2)
  refine exc_super_meth (l₀ := .ref 67 :: excBm 47) gs2 (looks_opaque XX2 nsK) ((looks_clsIn XX2 (cd := { name := Str.ofString "SortFault", bases := [.ref 47], mro := .ref 67 :: excBm 47, ns := 66, qualname := Str.ofString "SortFault" }) (by k_is)).andThen .now) rfl XX2 (name := "__init__") (by kernel_rfl) i2 (fun e => ?_) (by decide) ?_
  · exact absurd (lt _ _ hC) (Nat.not_lt.mpr (Nat.le_trans (Nat.le_succ _) (Nat.le_of_eq e)))
  have N3 : News g' L' (h₂.push (mwO (hh.objs.size + 1))) _ := N₂.push F₂ (mwO (hh.objs.size + 1))
  have F3 := F₂.push (mwO (hh.objs.size + 1))
  refine callWith_mw (x := hh.objs.size + 1) ?_ rfl rfl
  refine spliced_more ?_ rfl
  refine wpAny_Name (wpAny_loadName_local rfl rfl F3.ns (by rfl) ?_) (by decide)
  refine spliced_none ?_
  have gq : (h₂.push (mwO (hh.objs.size + 1))).get? h₂.objs.size = some (mwO (hh.objs.size + 1)) := Heap.get?_push_at rfl rfl
  have ge3 : (h₂.push (mwO (hh.objs.size + 1))).get? (hh.objs.size + 1) = some (excO 67 hh.objs.size) := Heap.get?_push_of_some _ ge2
  have XX3 : (hd.heap_39 w.params).In (h₂.push (mwO (hh.objs.size + 1))) := X'.keeps F3.keep
  have I3 : PySem.W.InstAt (h₂.push (mwO (hh.objs.size + 1))) (hh.objs.size + 1) (excO 67 hh.objs.size) 67 none := ⟨ge3, rfl, rfl, trivial⟩
  have i3 : Looks (model (WW w mean mg mb).prog w) (h₂.push (mwO (hh.objs.size + 1))) (isInstance (.ref (hh.objs.size + 1)) (.type "Exception")) true := I3.type.andThen (looks_mroIn XX3 sub2)
  refine ⟨gq, ?_⟩
  refine mw_call (a0 := hh.objs.size) (XX3 _ _ (by k_is)) rfl gq ge3 rfl i3 fun h₄ k4 ge4 gt4 => ?_
  have nle : hh.objs.size + 1 ≠ L' := fun e => (N' (hh.objs.size + 1, excO 67 hh.objs.size) (.head _)).2.1 e
  have nge : g'.get? (hh.objs.size + 1) = none := (N' (hh.objs.size + 1, excO 67 hh.objs.size) (.head _)).2.2
  have F4 : Fr g' L' h₄ _ := ⟨F3.ns.at' fun o e => k4 _ _ (Ne.symm nle) e, fun b o q => k4 b o (fun e => by rw [e, nge] at q; injection q) (F3.keep b o q), F3.above⟩
  have XX4 : (hd.heap_39 w.params).In h₄ := X'.keeps F4.keep
  refine _root_.PySem.wpAt_of_wpAny (wpAny_execs_cons (plainObj_wpAny_Assign_Attribute ?_ rfl))
  refine wpAny_Name (wpAny_loadName_local rfl rfl F4.ns (by rfl) ?_) (by decide)
  refine wpAny_Name (wpAny_loadName_local rfl rfl F4.ns (by rfl) ?_) (by decide)
  refine exc_setattr (K := hd.heap_39 w.params) (C := 67) (D := 47) XX4 ge4 (by k_is) rfl rfl (by k_is) (by k_is) fun h₅ t₅ dx k5 ge5 => ?_
  refine wpAny_execs_nil ?_
  have hp : (h₂.push (mwO (hh.objs.size + 1))).objs.size = h₂.objs.size + 1 := Heap.size_push ..
  have le2 : hh.objs.size + 1 < h₂.objs.size := Heap.lt_size ge2
  have nt : (h₂.push (mwO (hh.objs.size + 1))).objs.size ≠ hh.objs.size + 1 := by with_reducible refine rwE hp ?_; exact Nat.ne_of_gt (Nat.lt_succ_of_lt le2)
  have gt5 : h₅.get? (h₂.push (mwO (hh.objs.size + 1))).objs.size = some { cls := .type "tuple", data := .seq #[v] } := k5 _ _ nt gt4
  have F5 : Fr g' L' h₅ _ := ⟨F4.ns.at' fun o e => k5 _ _ (Ne.symm nle) e, fun b o q => k5 b o (fun e => by rw [e, nge] at q; injection q) (F4.keep b o q), F4.above⟩
  have newsLt : ∀ p ∈ news, (p.1 : Nat) < hh.objs.size := fun p hp' => lt _ _ (N p hp').1
  have kall : ∀ b o, b ≠ hh.objs.size + 1 → h₂.get? b = some o → h₅.get? b = some o := fun b o hb e => k5 b o hb (k4 b o hb (Heap.get?_push_of_some _ e))
  have ngt : g'.get? (h₂.push (mwO (hh.objs.size + 1))).objs.size = none := by
    cases q : g'.get? (h₂.push (mwO (hh.objs.size + 1))).objs.size with
    | none => rfl
    | some o => exact absurd (Heap.lt_size (F3.keep _ _ q)) (Nat.lt_irrefl _)
  refine byG fun G_ bk_ => ?_; obtain ⟨oe5, ge6, hc6, fs6, hd6, h06, h16⟩ : ∃ o, h₅.get? (hh.objs.size + 1) = some o ∧ o.cls = .ref 67 ∧ ∃ fs : Array Value, o.data = .fields fs ∧ fs[0]? = some (.ref (h₂.push (mwO (hh.objs.size + 1))).objs.size) ∧ fs[1]? = some .none := ⟨_, ge5, rfl, _, rfl, rfl, rfl⟩; refine bk_ ?_; clear bk_
  refine ⟨L', _, (hh.objs.size + 1, oe5) :: ((h₂.push (mwO (hh.objs.size + 1))).objs.size, { cls := .type "tuple", data := .seq #[v] }) :: news, F5, fun p hp' => ?_, fun FF NN => ?_⟩
  · rcases List.mem_cons.mp hp' with rfl | hp'
    · exact ⟨ge6, nle, nge⟩
    · rcases List.mem_cons.mp hp' with rfl | hp'
      · exact ⟨gt5, Ne.symm (Nat.ne_of_lt F3.ns.lt), ngt⟩
      · have z := N₂ p (.tail _ (.tail _ hp'))
        exact ⟨kall _ _ (Nat.ne_of_lt (Nat.lt_succ_of_lt (newsLt p hp'))) z.1, z.2⟩
  · refine ⟨rfl, hQ _ (hh.objs.size + 1) (h₂.push (mwO (hh.objs.size + 1))).objs.size g m news (hideAll h₅ [hh.objs.size + 1, (h₂.push (mwO (hh.objs.size + 1))).objs.size]) rfl G LO LC ?_ ?_ ?_ fun b o q => F5.keep b o (X' b o q)⟩
    · exact ⟨fun b o e => of_hideAll _ e, hideAll_none _ (.head _), ⟨oe5, fs6, ge6, hc6, hd6, h06, h16⟩, hideAll_none _ (.tail _ (.head _)), ⟨_, _, gt5, rfl, rfl⟩⟩
    · have ap : ∀ b o, g.get? b = some o → b ∉ [hh.objs.size + 1, (h₂.push (mwO (hh.objs.size + 1))).objs.size] := fun b o q hm => by
        rcases List.mem_cons.mp hm with rfl | hm
        · have := (NN _ (.head _)).2.2; rw [show g.get? (hh.objs.size + 1) = _ from q] at this; injection this
        · rw [List.mem_singleton.mp hm] at q
          have := (NN _ (.tail _ (.head _))).2.2; rw [q] at this; injection this
      refine byG fun G_ bk_ => ?_; obtain ⟨oL, es, ep, e, r⟩ := FF.ns; refine bk_ ?_; clear bk_
      refine ⟨⟨oL, es, ep, hideAll_get _ e fun hm => ?_, r⟩, fun b o q => hideAll_get _ (FF.keep b o q) (ap b o q), FF.above⟩
      rcases List.mem_cons.mp hm with e | hm
      · exact absurd nl (Nat.not_lt.mpr (Nat.le_trans (Nat.le_succ _) (Nat.le_of_eq e.symm)))
      · have := List.mem_singleton.mp hm
        exact absurd nl (Nat.not_lt.mpr (by (with_reducible refine rwE this ?_; with_reducible refine rwE hp ?_); walk_at "om"))
    · intro p hp'
      refine ⟨hideAll_get _ (NN p (.tail _ (.tail _ hp'))).1 fun hm => ?_, (N p hp').2⟩
      have := newsLt p hp'
      rcases List.mem_cons.mp hm with e | hm
      · exact absurd this (Nat.not_lt.mpr (Nat.le_trans (Nat.le_succ _) (Nat.le_of_eq e.symm)))
      · have e := List.mem_singleton.mp hm
        exact absurd this (Nat.not_lt.mpr (by (with_reducible refine rwE e ?_; with_reducible refine rwE hp ?_); walk_at "om"))

theorem sx_Fault {w : World} {mean : ExcName → Option Value} {mg mb : Str → Option Value} {f : Fx} {n : Nat} {M : Mem} {loc : Loc} {EQ : Mem → Loc → Prop} {Q : AFl → Mem → Loc → Prop} {arg : Expr} {np cpos pos : Pos}
    (h : Ev (WW w mean mg mb) f (n + 1) arg M loc (fun _ M' l' => EQ M' l') EQ) (hx : f.kindOf "SortFault" = some .globalImplicit)
    (hs : ∀ env, starEach [arg] env = [(false, eval arg env)]) (hc : ∀ env, eval (.Call (.Name "SortFault" np) [arg] [] cpos) env = (do callWith cpos (← eval (.Name "SortFault" np) env) [] (backTo cpos (starEach [arg] env)) (backToKw cpos (keywordEach [] env)))) :
    Sx (WW w mean mg mb) f (n + 1) (.Raise (some (.Call (.Name "SortFault" np) [arg] [] cpos)) none pos) M loc Q EQ := by
  intro d S s ok H
  rw [arm_exec_Raise]
  refine wpAny_bind (wpAny_standAt ?_)
  refine (?_ : wpAny _ _ (raiseStmt (f.here d) (some (do let v ← eval (.Call (.Name "SortFault" np) [arg] [] cpos) (f.here d); standAt pos; pure v)) none) _ _ _)
  refine raise_made (C := 67) (D := 47) (nm := Str.ofString "SortFault") (q := Str.ofString "SortFault") (N := 66) (bs := [.ref 47]) (hdct := true) (sn := []) (sub := []) (ab := false) (col := none) (dd := none) (k0 := some (.ref 51)) (k1 := none) (k2 := some (.str (Str.ofString "SortFault") 234)) (k3 := some (.str (Str.ofString "SortFault") 242)) (k5 := some (.bool true)) (newId := "Exception.__new__") ok.hand ?_
  refine wpAny_bind (Call_ ?_ (hc _))
  have nm : Ev (WW w mean mg mb) f (n + 1) (.Name "SortFault" np) M loc (fun a M' l' => a = .stat (.ref 67) ∧ M' = M ∧ l' = loc) EQ := by
    refine ev_global hx (v := .ref 67) ?_ (by decide) (fun _ => .stat _) ⟨rfl, rfl, rfl⟩
    refine (?_ : nsIn (hd.heap_39 w.params) mainGlobals _ = _)
    k_is
  refine Run.then le0 rfl (nm d S s ok H) fun v s₁ S₁ M₁ l₁ a e₁ k₁ _ H₁ r₁ q₁ => ?_
  refine byG fun G_ bk_ => ?_; obtain ⟨rfl, rfl, rfl⟩ := q₁; refine bk_ ?_; clear bk_
  cases r₁
  refine byG fun G_ bk_ => ?_; obtain ⟨g₀, m₀, news₀, G₀, F₀, _⟩ := id H₁; refine bk_ ?_; clear bk_
  refine callWith_K (K := hd.heap_39 w.params) (ok.kin' G₀) (by k_is) ?_ (hs _) rfl
  have sp : Sp (WW w mean mg mb) f (n + 1) cpos [arg] M₁ l₁ (fun as M' l' => as.length = 1 ∧ EQ M' l') EQ := sp_cons (T0.mono h (fun b M' l' q => sp_nil ⟨rfl, q⟩) fun _ _ z => z) hs
  refine Run.then k₁ e₁ (sp d S₁ s₁ ok H₁) fun vs s₂ S₂ M₂ l₂ as e₂ k₂ k₂' H₂ r₂ q₂ => ?_
  have X₂ : (hd.heap_39 w.params).In s₂.heap := by obtain ⟨g, m, news, G, F, _⟩ := H₂; exact (ok.kin' G).keeps F.keep
  refine ⟨X₂, ?_⟩
  obtain ⟨hl, he⟩ := q₂
  cases r₂ with
  | nil => injection hl
  | cons v a vs as r rs =>
    cases rs with
    | cons => simp at hl
    | nil =>
      refine exc_make ok H₂ fun s' ea t g m news h' e' G LO LC fx F N keep => ?_
      refine byG fun G_ bk_ => ?_; obtain ⟨_, _, ⟨oe, fs, hoe, hcls, hd', h0, h1⟩, _, _⟩ := id fx; refine bk_ ?_; clear bk_
      exact wpAny_bind (wpAny_standAt (wpAny_pure ⟨ea, oe, fs, rfl, keep _ _ (by k_is), hoe, hcls, hd', h1, e₂.trans e', ea, t, [v], g, m, news, S₂, M₂, l₂, rfl, k₂, G, LO, LC, he, .fresh h' fx F N⟩))
/-- the law's own source of numbers -/
noncomputable abbrev feedD (cells : List Int) (turn sum : Int) : AO := .dict [("cells", .flist (cells.map .int)), ("turn", .int turn), ("sum", .int sum)]
structure FeedOk (k : Nat) (cells : List Int) (turn sum : Int) : Prop where
  len : cells.length ≤ 60
  lo : 0 ≤ turn
  hi : turn ≤ k
/-- a feed that has told at most so many numbers -/
noncomputable def Feed (k : Nat) (o : AO) : Prop := ∃ cells turn sum, o = feedD cells turn sum ∧ FeedOk k cells turn sum
theorem Feed.mono {k k' : Nat} {o : AO} (h : Feed k o) (hk : k ≤ k') : Feed k' o := by
  obtain ⟨c, t, s, e, h1, h2, h3⟩ := h; exact ⟨c, t, s, e, h1, h2, by walk_at "om"⟩
theorem bits_small {a : Int} (h1 : 0 ≤ a) (h2 : a < 2 ^ 63) : Builtin.Int.intBits a ≤ 64 := intBits_le_64 (by walk_at "om") (by walk_at "om")
theorem fmod_lo {a b : Int} (h : 0 < b) : 0 ≤ a.fmod b ∧ a.fmod b < b := by
  rw [Int.fmod_eq_emod_of_nonneg _ (by walk_at "om")]
  exact ⟨Int.emod_nonneg _ (by walk_at "om"), Int.emod_lt_of_pos _ h⟩
set_option maxHeartbeats 4000000 in
theorem draw_ok {w : World} {mean : ExcName → Option Value} {mg mb : Str → Option Value} {f : Fx} {n : Nat} {loc : Loc} {EQ : Mem → Loc → Prop} {feed : Addr} {o : AO} {k : Nat} {wide : Int} (ho : Feed k o) (hk : k ≤ 100000) (hw : 0 < wide) {Q : AV → Mem → Loc → Prop} (hQ : ∀ r o', 0 ≤ r → r < wide → Feed (k + 1) o' → Q (.int r) [(feed, o')] loc) :
    Ts (WW w mean mg mb) f (n + 1) (VR (WW w mean mg mb)) (fun vs => call (.ref 904) vs) [.obj feed, .int wide] [(feed, o)] loc Q EQ := by
  refine byG fun G_ bk_ => ?_; obtain ⟨cells, turn, sum, rfl, hlen, hlo, hhi⟩ := ho; refine bk_ ?_; clear bk_
  have hl2 : (cells.map AV.int).length = cells.length := List.length_map ..
  walk_at "def"
  repeat' walk_at "st"
  refine ⟨fun hc => ?_, fun hc => ?_⟩
  · have hc' := of_decide_eq_true hc
    rw [hl2] at hc'
    obtain ⟨x, hx⟩ : ∃ x, cells[(turn + 1 - 1).toNat]? = some x := ⟨cells[(turn + 1 - 1).toNat]'((Int.toNat_lt (rwE (P := fun z => 0 ≤ z) (Int.add_sub_cancel turn 1) (by assumption))).mpr (rwE (P := fun z => z < (cells.length : Int)) (Int.add_sub_cancel turn 1) (Int.lt_of_add_one_le hc'))), List.getElem?_eq_getElem _⟩
    have hx' : (cells.map AV.int)[(turn + 1 - 1).toNat]? = some (.int x) := by rw [List.getElem?_map, hx]; rfl
    repeat' walk_at "st"
    refine t_subList (.frozen _) (by walk_at "om") hx' (by walk_at "om") (fun _ _ _ => by with_unfolding_all rfl) ?_
    repeat' walk_at "st"
    refine t_mod (by walk_at "om") ?_
    walk_at "q"
    exact hQ _ _ (fmod_lo hw).1 (fmod_lo hw).2 ⟨cells, turn + 1, sum, rfl, hlen, by walk_at "om", by walk_at "om"⟩
  · repeat' walk_at "st"
    refine t_mul (.of_left (bits_small (by walk_at "om") (by walk_at "om"))) ?_
    repeat' walk_at "st"
    have hm : 0 ≤ 13 * (turn + 1) := by walk_at "om"
    refine t_mul (.of_left (bits_small hm (by walk_at "om"))) ?_
    repeat' walk_at "st"
    refine t_mul (.of_left (bits_small (by walk_at "om") (by walk_at "om"))) ?_
    repeat' walk_at "st"
    refine t_fdiv (by walk_at "om") (by decide) ?_
    repeat' walk_at "st"
    refine t_mod (by walk_at "om") ?_
    repeat' walk_at "st"
    refine t_mod (by walk_at "om") ?_
    walk_at "q"
    exact hQ _ _ (fmod_lo hw).1 (fmod_lo hw).2 ⟨cells, turn + 1, sum, rfl, hlen, by walk_at "om", by walk_at "om"⟩
/-- an item of the law -/
inductive It where
  | sym (x : Str)
  | list (l : List It)
mutual
noncomputable def itAV : It → AV
  | .sym x => .tup [.str "sym", .str x]
  | .list l => .tup [.str "list", .tup (itsAV l)]
noncomputable def itsAV : List It → List AV
  | [] => []
  | i :: r => itAV i :: itsAV r
end
noncomputable abbrev words4 : List Str := ["Int", "U", "V", "Bool"]
theorem word_ok {w : World} {mean : ExcName → Option Value} {mg mb : Str → Option Value} {f : Fx} {n : Nat} {loc : Loc} {EQ : Mem → Loc → Prop} {feed : Addr} {o : AO} {k : Nat} {ps : List Str} (ho : Feed k o) (hk : k ≤ 100000) (hp : ps.length ≤ 10) {Q : AV → Mem → Loc → Prop} (hQ : ∀ x o', x ∈ ps ++ words4 → Feed (k + 1) o' → Q (itAV (.sym x)) [(feed, o')] loc) :
    Ts (WW w mean mg mb) f (n + 2) (VR (WW w mean mg mb)) (fun vs => call (.ref 911) vs) [.obj feed, .tup (ps.map .str)] [(feed, o)] loc Q EQ := by
  have hl : (ps.map AV.str).length = ps.length := List.length_map ..
  have e4 : ([AV.str (Str.ofString "Int"), AV.str (Str.ofString "U"), AV.str (Str.ofString "V"), AV.str (Str.ofString "Bool")] : List AV) = words4.map .str := rfl
  walk_at "def"
  repeat' walk_at "st"
  (with_reducible refine rwE e4 ?_; with_reducible refine rwE (Eq.symm List.map_append) ?_; with_reducible refine rwE (Eq.symm List.map_append) ?_)
  refine Ts.useC (by walk_at "pks") (draw_ok ho hk (by simp; walk_at "om") fun r o' h1 h2 ho' => ?_)
  obtain ⟨j, rfl⟩ := Int.eq_ofNat_of_zero_le h1
  rw [List.length_map] at h2
  have hj : j < (ps ++ ps ++ words4).length := Int.ofNat_lt.mp h2
  have hlen : (ps ++ ps ++ words4).length ≤ 100 := by simp; walk_at "om"
  refine t_subTupN (j := j) (c := .str (ps ++ ps ++ words4)[j]) (by (with_reducible refine rwE (List.getElem?_map) ?_; with_reducible refine rwE (List.getElem?_eq_getElem hj) ?_); rfl) (by rw [List.length_map]; walk_at "om") (fun _ _ _ => by with_unfolding_all rfl) ?_
  repeat' walk_at "st"
  refine hQ _ o' ?_ ho'
  have := List.getElem_mem hj
  simp only [List.mem_append] at this ⊢
  rcases this with (h | h) | h
  · exact .inl h
  · exact .inl h
  · exact .inr h
/-- the use of a row -/
noncomputable def UseOk (nm : Str) (qs ps : List Str) (it : It) : Prop := (qs = [] ∧ it = .sym nm) ∨ (qs ≠ [] ∧ ∃ ws : List Str, ws.length = qs.length ∧ (∀ x ∈ ws, x ∈ ps ++ words4) ∧ it = .list (.sym nm :: ws.map .sym))
theorem itsAV_map {l : List It} : itsAV l = l.map itAV := by
  induction l with
  | nil => rfl
  | cons i r ih => (rewrite [itsAV]; with_reducible refine rwE ih ?_); rfl
theorem use_ok {w : World} {mean : ExcName → Option Value} {mg mb : Str → Option Value} {f : Fx} {n : Nat} {loc : Loc} {EQ : Mem → Loc → Prop} {feed : Addr} {o : AO} {k : Nat} {ps qs : List Str} {nm : Str} {rest : List AV} (ho : Feed k o) (hk : k ≤ 90000) (hp : ps.length ≤ 10) (hq : qs.length ≤ 10) {Q : AV → Mem → Loc → Prop} (hQ : ∀ it o', UseOk nm qs ps it → Feed (k + 10) o' → Q (itAV it) [(feed, o')] loc) :
    Ts (WW w mean mg mb) f (n + 3) (VR (WW w mean mg mb)) (fun vs => call (.ref 916) vs) [.obj feed, .tup (.str nm :: .tup (qs.map .str) :: rest), .tup (ps.map .str)] [(feed, o)] loc Q EQ := by
  refine Ts.drop ?_
  walk_at "def"
  repeat' walk_at "st"
  refine t_eqTup (k := qs.isEmpty) (by cases qs <;> rfl) ?_
  refine ⟨_, rfl, fun hc => ?_, fun hc => ?_⟩
  · repeat' walk_at "st"
    exact ⟨_, List.Sublist.refl _, hQ (.sym nm) o (.inl ⟨List.isEmpty_iff.mp hc, rfl⟩) (ho.mono (by walk_at "om"))⟩
  · repeat' walk_at "st"
    have hq2 : (qs.map AV.str).length = qs.length := List.length_map ..
    refine ⟨qs.map .str, [(feed, o)], [], fun i ys M => ∃ (ws : List Str) (o' : AO), ys = ws.map (fun x => itAV (.sym x)) ∧ ws.length = i ∧ (∀ x ∈ ws, x ∈ ps ++ words4) ∧ M = [(feed, o')] ∧ Feed (k + i) o', it_tup, by with_reducible refine rwE hq2 ?_; unfold sizeLine; walk_at "om", ⟨[], o, rfl, rfl, (fun _ h => nomatch h), rfl, ho⟩, ?_, ?_⟩
    · rintro i a ys M ha ⟨ws, o', rfl, hw, hin, rfl, ho'⟩
      have hi : i < qs.length := by with_reducible refine rwE (Eq.symm hq2) ?_; exact (List.getElem?_eq_some_iff.mp ha).1
      repeat' walk_at "st"
      refine Ts.useC (by walk_at "pks") (word_ok ho' (by walk_at "om") hp fun x o'' hx ho'' => ?_)
      refine ⟨ws ++ [x], o'', by rw [List.map_append]; rfl, by rw [List.length_append, hw]; rfl, fun y hy => ?_, rfl, by rw [← Nat.add_assoc]; exact ho''⟩
      rcases List.mem_append.mp hy with hy | hy
      · exact hin y hy
      · with_reducible refine rwE (List.mem_singleton.mp hy) ?_; exact hx
    · rintro ys M hys ⟨ws, o', rfl, hw, hin, rfl, ho'⟩ D
      rw [hq2] at hw
      repeat' walk_at "st"
      refine t_tupleOf (.obj D _ (.head _)) (by (rewrite [List.length_map]; with_reducible refine rwE hw ?_); unfold sizeLine; walk_at "om") ?_
      refine t_addTup (by (rewrite [List.length_map]; with_reducible refine rwE hw ?_); unfold sizeLine; simp; walk_at "om") ?_
      repeat' walk_at "st"
      have he : AV.tup [.str "list", .tup ([.tup [.str "sym", .str nm]] ++ ws.map (fun x => itAV (.sym x)))] = itAV (.list (.sym nm :: ws.map .sym)) := by
        refine (?_ : AV.tup [_, AV.tup _] = AV.tup [_, AV.tup _])
        (rewrite [itsAV]; with_reducible refine rwE itsAV_map ?_; with_reducible refine rwE List.map_map ?_)
        rfl
      refine ⟨[(feed, o')], List.sublist_cons_self _ _, ?_⟩
      have := hQ (.list (.sym nm :: ws.map .sym)) o' (.inr ⟨fun e => ?_, ws, hw, hin, rfl⟩) (ho'.mono (by with_reducible refine rwE hq2 ?_; walk_at "om"))
      · rw [← he] at this; exact this
      · rw [e] at hc; injection hc
/-- a row of the law: a name, its parameters, its item -/
structure Row where
  nm : Str
  ps : List Str
  it : It
noncomputable def rowAV (r : Row) : AV := .tup [.str r.nm, .tup (r.ps.map .str), itAV r.it]
/-- what a row's item is drawn to -/
noncomputable def DrawnOk (rows : List Row) (j : Nat) (ps : List Str) (it : It) : Prop :=
  (j = 0 ∧ ∃ x, it = .sym x ∧ x ∈ ps ++ words4) ∨
  (0 < j ∧ ∃ (h : Str) (one other last : It) (r : Row), (h = "L" ∨ h = "M" ∨ h = "R") ∧ rows[j - 1]? = some r ∧ UseOk r.nm r.ps ps one ∧ UseOk r.nm r.ps ps other ∧
    ((∃ x, last = .sym x ∧ x ∈ ps ++ words4) ∨ ∃ i r', i < j ∧ rows[i]? = some r' ∧ UseOk r'.nm r'.ps ps last) ∧ it = .list [.sym h, one, other, last])
theorem mapGet {α β : Type} {g : α → β} {rows : List α} {j : Nat} {r : α} (h : rows[j]? = some r) : (rows.map g)[(Int.ofNat j).toNat]? = some (g r) := by
  refine (?_ : (rows.map g)[j]? = _)
  (with_reducible refine rwE (List.getElem?_map) ?_; with_reducible refine rwE h ?_); rfl
theorem small63 {q : Nat} (h : q ≤ 1000000) : Int.ofNat q < 2 ^ 63 := by
  have : Int.ofNat q = (q : Int) := rfl
  walk_at "om"
noncomputable abbrev heads3 : List Str := ["L", "M", "R"]
set_option maxHeartbeats 4000000 in
theorem drawn_ok {w : World} {mean : ExcName → Option Value} {mg mb : Str → Option Value} {f : Fx} {n : Nat} {loc : Loc} {EQ : Mem → Loc → Prop} {feed chain : Addr} {o : AO} {k j : Nat} {ps : List Str} {rows : List Row} (ho : Feed k o) (hk : k ≤ 80000) (hp : ps.length ≤ 10) (hj : j ≤ rows.length) (hr : ∀ r ∈ rows, r.ps.length ≤ 10) (hrl : rows.length ≤ 100) {Q : AV → Mem → Loc → Prop} (hQ : ∀ it o', DrawnOk rows j ps it → Feed (k + 100) o' → Q (itAV it) [(feed, o'), (chain, .list (rows.map rowAV))] loc) :
    Ts (WW w mean mg mb) f (n + 4) (VR (WW w mean mg mb)) (fun vs => call (.ref 923) vs) [.obj feed, .obj chain, .int (Int.ofNat j), .tup (ps.map .str)] [(feed, o), (chain, .list (rows.map rowAV))] loc Q EQ := by
  refine Ts.drop ?_
  walk_at "def"
  repeat' walk_at "st"
  refine ⟨fun hc => ?_, fun hc => ?_⟩
  · have hj0 : j = 0 := by have : Int.ofNat j = 0 := by simpa using hc
                           exact Int.ofNat.inj this
    repeat' walk_at "st"
    refine Ts.useC (by walk_at "pks") (word_ok ho (by walk_at "om") hp fun x o' hx ho' => ?_)
    walk_at "q"
    exact ⟨_, List.Sublist.refl _, hQ (.sym x) o' (.inl ⟨hj0, x, rfl, hx⟩) (ho'.mono (by walk_at "om"))⟩
  · have hj0 : 0 < j := by
      cases j with
      | zero => injection hc
      | succ j => exact Nat.succ_pos _
    obtain ⟨j, rfl⟩ : ∃ i, j = i + 1 := ⟨j - 1, (Nat.succ_pred_eq_of_pos hj0).symm⟩
    have e1 : (Int.ofNat (j + 1) - 1) = Int.ofNat j := Int.add_sub_cancel (j : Int) 1
    have hget : rows[j]? = some rows[j] := List.getElem?_eq_getElem (by walk_at "om")
    have hr1 : rows[j].ps.length ≤ 10 := hr _ (List.getElem_mem _)
    have hgA : (rows.map rowAV)[(Int.ofNat j).toNat]? = some (rowAV rows[j]) := by with_reducible refine rwE (List.getElem?_map) ?_; simp [hget]
    repeat' walk_at "st"
    refine Ts.useC (by walk_at "pks") (draw_ok ho (by walk_at "om") (by decide) fun r o' h1 h2 ho' => ?_)
    obtain ⟨i, rfl⟩ := Int.eq_ofNat_of_zero_le h1
    have hi : i < heads3.length := Int.ofNat_lt.mp h2
    refine t_subTupN (j := i) (c := .str heads3[i]) (by refine (?_ : (heads3.map AV.str)[i]? = _); (with_reducible refine rwE (List.getElem?_map) ?_; with_reducible refine rwE (List.getElem?_eq_getElem hi) ?_); rfl) (by decide) (fun _ _ _ => by with_unfolding_all rfl) ?_
    have hh : heads3[i] = "L" ∨ heads3[i] = "M" ∨ heads3[i] = "R" := by
      have := List.getElem_mem hi
      rcases List.mem_cons.mp this with e | this
      · exact .inl e
      · rcases List.mem_cons.mp this with e | this
        · exact .inr (.inl e)
        · exact .inr (.inr (List.mem_singleton.mp this))
    generalize heads3[i] = h at hh ⊢
    repeat' walk_at "st"
    refine' sx_UnpackSwap (names := ["one", "other"]) ?_ ?hco ?hl ?hs ?hw
    case hw => intro _; exact rfl
    case hco => exact rfl
    case hl => exact rfl
    case hs => intro _; exact rfl
    repeat' walk_at "st"
    with_reducible refine rwE e1 ?_
    refine t_subList (.obj chain _ (by walk_at "mem")) (Int.natCast_nonneg j) hgA (small63 (by walk_at "om")) (fun _ _ _ => by with_unfolding_all rfl) ?_
    repeat' walk_at "st"
    refine Ts.useC (by walk_at "pks") (use_ok ho' (by walk_at "om") hp hr1 fun one o1 hu1 ho1 => ?_)
    repeat' walk_at "st"
    with_reducible refine rwE e1 ?_
    refine t_subList (.obj chain _ (by walk_at "mem")) (Int.natCast_nonneg j) hgA (small63 (by walk_at "om")) (fun _ _ _ => by with_unfolding_all rfl) ?_
    repeat' walk_at "st"
    refine Ts.useC (by walk_at "pks") (use_ok ho1 (by walk_at "om") hp hr1 fun other o2 hu2 ho2 => ?_)
    repeat' walk_at "st"
    refine ⟨rfl, ?_⟩
    repeat' walk_at "st"
    refine Ts.useC (by walk_at "pks") (draw_ok ho2 (by walk_at "om") (by decide) fun r o3 h3 h4 ho3 => ?_)
    repeat' walk_at "st"
    refine ⟨fun hc2 => ?_, fun hc2 => ?_⟩
    · repeat' walk_at "st"
      refine Ts.useC (by walk_at "pks") (word_ok ho3 (by walk_at "om") hp fun x o4 hx ho4 => ?_)
      repeat' walk_at "st"
      exact ⟨_, List.Sublist.refl _, hQ (.list [.sym h, one, other, .sym x]) o4 (.inr ⟨hj0, h, one, other, .sym x, _, hh, hget, hu1, hu2, .inl ⟨x, rfl, hx⟩, rfl⟩) (ho4.mono (by walk_at "om"))⟩
    · repeat' walk_at "st"
      refine Ts.useC (by walk_at "pks") (draw_ok ho3 (by walk_at "om") (by have : Int.ofNat (j + 1) = (j : Int) + 1 := rfl; walk_at "om") fun r2 o4 h5 h6 ho4 => ?_)
      obtain ⟨i2, rfl⟩ := Int.eq_ofNat_of_zero_le h5
      have hi2 : i2 < j + 1 := Int.ofNat_lt.mp h6
      have e2 : Int.ofNat (j + 1) - 1 - (i2 : Int) = Int.ofNat (j - i2) := by
        exact (congrArg (· - (i2 : Int)) (Int.add_sub_cancel (j : Int) 1)).trans (Int.ofNat_sub (Nat.le_of_lt_succ hi2)).symm
      have hlt2 : j - i2 < rows.length := Nat.lt_of_le_of_lt (Nat.sub_le ..) (List.getElem?_eq_some_iff.mp hget).1
      have hget2 : rows[j - i2]? = some rows[j - i2] := List.getElem?_eq_getElem hlt2
      repeat' walk_at "st"
      with_reducible refine rwE e2 ?_
      refine t_subList (c := rowAV rows[j - i2]) (.obj chain _ (by walk_at "mem")) (Int.natCast_nonneg _) (by with_reducible refine rwE (List.getElem?_map) ?_; simp [hget2]) (small63 (by walk_at "om")) (fun _ _ _ => by with_unfolding_all rfl) ?_
      repeat' walk_at "st"
      refine Ts.useC (by walk_at "pks") (use_ok ho4 (by walk_at "om") hp (hr _ (List.getElem_mem _)) fun last o5 hu3 ho5 => ?_)
      repeat' walk_at "st"
      exact ⟨_, List.Sublist.refl _, hQ (.list [.sym h, one, other, last]) o5 (.inr ⟨hj0, h, one, other, last, _, hh, hget, hu1, hu2, .inr ⟨j - i2, _, by walk_at "om", hget2, hu3⟩, rfl⟩) (ho5.mono (by walk_at "om"))⟩
theorem idx_lt {i p n : Nat} (h : (i : Int) < (n : Int) - Int.ofNat p) : p + i < n := by
  rw [Int.ofNat_eq_natCast] at h
  walk_at "om"
theorem wide_pos {p n : Nat} (h : p < n) : 0 < (n : Int) - Int.ofNat p := by
  rw [Int.ofNat_eq_natCast]
  walk_at "om"
noncomputable def SpoiledOk (rows : List Row) (p : Nat) (it : It) : Prop := ∃ r, rows[p]? = some r ∧
  (it = .list [.sym "M", .sym "Nope", r.it, r.it] ∨
  (∃ (i : Nat) (r' : Row) (late : It) (x : Str), rows[i]? = some r' ∧ UseOk r'.nm r'.ps r.ps late ∧ x ∈ r.ps ++ words4 ∧ it = .list [.sym "L", r.it, late, .sym x]) ∨
  it = .list [.sym "A", r.it, .sym "Int"])
set_option maxHeartbeats 4000000 in
theorem spoiled_ok {w : World} {mean : ExcName → Option Value} {mg mb : Str → Option Value} {f : Fx} {n : Nat} {loc : Loc} {EQ : Mem → Loc → Prop} {feed chain : Addr} {o : AO} {k p : Nat} {way : Int} {rows : List Row} (ho : Feed k o) (hk : k ≤ 80000) (hj : p < rows.length) (hr : ∀ r ∈ rows, r.ps.length ≤ 10) (hrl : rows.length ≤ 100) {Q : AV → Mem → Loc → Prop} (hQ : ∀ it o', SpoiledOk rows p it → Feed (k + 100) o' → Q (itAV it) [(feed, o'), (chain, .list (rows.map rowAV))] loc) :
    Ts (WW w mean mg mb) f (n + 4) (VR (WW w mean mg mb)) (fun vs => call (.ref 930) vs) [.obj feed, .obj chain, .int (Int.ofNat p), .int way] [(feed, o), (chain, .list (rows.map rowAV))] loc Q EQ := by
  have k0 : k ≤ 100000 := by walk_at "om"
  have k1 : k + 1 ≤ 90000 := by walk_at "om"
  have k2 : k + 1 + 10 ≤ 100000 := by walk_at "om"
  have k3 : k + 1 + 10 + 1 ≤ k + 100 := by walk_at "om"
  have k4 : k ≤ k + 100 := by walk_at "om"
  have hp6 : p ≤ 1000000 := by walk_at "om"
  have hget : rows[p]? = some rows[p] := List.getElem?_eq_getElem hj
  have hr1 : rows[p].ps.length ≤ 10 := hr _ (List.getElem_mem _)
  have hgA : (rows.map rowAV)[(Int.ofNat p).toNat]? = some (.tup [.str rows[p].nm, .tup (rows[p].ps.map .str), itAV rows[p].it]) := mapGet hget
  have hlen : (rows.map rowAV).length = rows.length := List.length_map ..
  refine Ts.drop ?_
  walk_at "def"
  repeat' walk_at "st"
  refine' sx_UnpackSwap (names := ["params", "item"]) ?_ ?hco ?hl ?hs ?hw
  case hw => intro _; exact rfl
  case hco => exact rfl
  case hl => exact rfl
  case hs => intro _; exact rfl
  repeat' walk_at "st"
  refine t_subList (.obj chain _ (by walk_at "mem")) (Int.natCast_nonneg p) hgA (small63 hp6) (fun _ _ _ => by with_unfolding_all rfl) ?_
  repeat' walk_at "st"
  refine t_subList (.obj chain _ (by walk_at "mem")) (Int.natCast_nonneg p) hgA (small63 hp6) (fun _ _ _ => by with_unfolding_all rfl) ?_
  repeat' walk_at "st"
  refine ⟨rfl, ?_⟩
  repeat' walk_at "st"
  have fin : ∀ (it : It) {o' : AO}, SpoiledOk rows p it → Feed (k + 100) o' → ∃ M'', M''.Sublist [(feed, o'), (chain, .list (rows.map rowAV))] ∧ Q (itAV it) M'' loc := fun it o' h1 h2 => ⟨_, List.Sublist.refl _, hQ _ _ h1 h2⟩
  refine ⟨fun hc => ?_, fun hc => ?_⟩
  · repeat' walk_at "st"
    exact fin (.list [.sym "M", .sym "Nope", rows[p].it, rows[p].it]) ⟨_, hget, .inl rfl⟩ (ho.mono k4)
  · repeat' walk_at "st"
    refine ⟨fun hc2 => ?_, fun hc2 => ?_⟩
    · repeat' walk_at "st"
      rw [hlen]
      refine Ts.useC (by walk_at "pks") (draw_ok ho k0 (wide_pos hj) fun r o1 h1 h2 ho1 => ?_)
      obtain ⟨i, rfl⟩ := Int.eq_ofNat_of_zero_le h1
      have e2 : Int.ofNat p + (i : Int) = Int.ofNat (p + i) := rfl
      have hlt2 : p + i < rows.length := idx_lt h2
      have hget2 : rows[p + i]? = some rows[p + i] := List.getElem?_eq_getElem hlt2
      repeat' walk_at "st"
      rw [e2]
      refine t_subList (c := rowAV rows[p + i]) (.obj chain _ (by walk_at "mem")) (Int.natCast_nonneg _) (mapGet hget2) (small63 (Nat.le_trans (Nat.le_of_lt hlt2) (Nat.le_trans hrl (by decide)))) (fun _ _ _ => by with_unfolding_all rfl) ?_
      repeat' walk_at "st"
      refine Ts.useC (by walk_at "pks") (use_ok ho1 k1 hr1 (hr _ (List.getElem_mem _)) fun late o2 hu ho2 => ?_)
      repeat' walk_at "st"
      refine Ts.useC (by walk_at "pks") (word_ok ho2 k2 hr1 fun x o3 hx ho3 => ?_)
      repeat' walk_at "st"
      exact fin (.list [.sym "L", rows[p].it, late, .sym x]) ⟨_, hget, .inr (.inl ⟨p + i, _, late, x, hget2, hu, hx, rfl⟩)⟩ (ho3.mono k3)
    · repeat' walk_at "st"
      exact fin (.list [.sym "A", rows[p].it, .sym "Int"]) ⟨_, hget, .inr (.inr rfl)⟩ (ho.mono k4)
/-- the four rows that tell one of their parameters -/
noncomputable def tellersR : List Row := [⟨"A", ["X"], .sym "X"⟩, ⟨"L", ["X", "Y", "Z"], .sym "X"⟩, ⟨"M", ["X", "Y", "Z"], .sym "Y"⟩, ⟨"R", ["X", "Y", "Z"], .sym "Z"⟩]
theorem ev_three {w : World} {mean : ExcName → Option Value} {mg mb : Str → Option Value} {f : Fx} {n : Nat} {M : Mem} {loc : Loc} {pos : Pos} {Q : AV → Mem → Loc → Prop} {EQ : Mem → Loc → Prop} (hx : f.kindOf "_law_three" = some .globalImplicit) (h : Q (.tup [.str "X", .str "Y", .str "Z"]) M loc) :
    Ev (WW w mean mg mb) f n (.Name "_law_three" pos) M loc Q EQ := by
  refine' ev_global hx ?hv rfl ?hr h
  case hv => walk_at "mk"
  case hr =>
    intro S
    exact .tup _ _ _ _ (.inr (by walk_at "mk")) (by exact ⟨⟨rfl, ⟨_, rfl⟩⟩, rfl⟩) (by exact .cons _ _ _ _ (.str _ _) (.cons _ _ _ _ (.str _ _) (.cons _ _ _ _ (.str _ _) .nil)))
set_option maxHeartbeats 4000000 in
theorem tellers_ok {w : World} {mean : ExcName → Option Value} {mg mb : Str → Option Value} {f : Fx} {n : Nat} {loc : Loc} {EQ : Mem → Loc → Prop} :
    Ts (WW w mean mg mb) f (n + 1) (VR (WW w mean mg mb)) (fun vs => call (.ref 897) vs) [] [] loc (fun b M' l' => l' = loc ∧ M' = [] ∧ b = .tup (tellersR.map rowAV)) EQ := by
  walk_at "def"
  repeat' walk_at "st"
  refine ev_three rfl ?_
  repeat' walk_at "st"
  refine ev_three rfl ?_
  repeat' walk_at "st"
  refine ev_three rfl ?_
  repeat' walk_at "st"
  exact rfl
/-- what a name tells: one of its parameters, or a sort -/
inductive Wo where
  | par (x : Str)
  | so (i : Int)
noncomputable def woAV : Option Wo → AV
  | none => .none
  | some (.par x) => .str x
  | some (.so i) => .int i
noncomputable abbrev Told := List (Str × (List Str × Wo))
noncomputable def toldAV (T : Told) : List (Str × AV) := T.map fun e => (e.1, .tup [.tup (e.2.1.map .str), woAV (some e.2.2)])
noncomputable def posS (x : Str) : List Str → Nat
  | [] => 0
  | y :: r => if y = x then 0 else posS x r + 1
noncomputable def putLast (ps : List Str) (as : List (Option Wo)) : Wo → Option Wo
  | .par x => if x ∈ ps then (as[posS x ps]?).join else some (.par x)
  | .so i => some (.so i)
noncomputable def putW (T : Told) (nm : Str) (as : List (Option Wo)) : Option Wo := match T.lookup nm with
  | none => none
  | some (ps, wo) => if as.any (·.isNone) || decide (ps.length ≠ as.length) then none else putLast ps as wo
theorem lookup_map {α β : Type} {g : α → β} {x : Str} : ∀ {l : List (Str × α)}, (l.map fun e => (e.1, g e.2)).lookup x = (l.lookup x).map g
  | [] => rfl
  | (y, a) :: r => by
    (with_reducible refine rwE List.map_cons ?_; with_reducible refine rwE List.lookup_cons ?_; with_reducible refine rwE List.lookup_cons ?_)
    cases x == y
    · exact lookup_map
    · rfl
theorem toldAV_at {T : Told} {x : Str} : (toldAV T).lookup x = (T.lookup x).map fun e => .tup [.tup (e.1.map .str), woAV (some e.2)] := lookup_map (g := fun e : List Str × Wo => AV.tup [AV.tup (e.1.map .str), woAV (some e.2)])
theorem isIn_none : ∀ {as : List (Option Wo)}, isIn .none (as.map woAV) = some (as.any (·.isNone))
  | [] => rfl
  | none :: r => by (with_reducible refine rwE List.map_cons ?_; rewrite [isIn]; with_reducible refine rwE isIn_none ?_); rfl
  | some (.par x) :: r => by (with_reducible refine rwE List.map_cons ?_; rewrite [isIn]; with_reducible refine rwE isIn_none ?_); rfl
  | some (.so i) :: r => by (with_reducible refine rwE List.map_cons ?_; rewrite [isIn]; with_reducible refine rwE isIn_none ?_); rfl
theorem isIn_par {x : Str} : ∀ {ps : List Str}, isIn (.str x) (ps.map .str) = some (decide (x ∈ ps))
  | [] => rfl
  | y :: r => by
    (with_reducible refine rwE List.map_cons ?_; rewrite [isIn]; with_reducible refine rwE isIn_par ?_)
    refine (?_ : some (decide (y = x) || decide (x ∈ r)) = _)
    congr 1
    by_cases h : y = x
    · simp [h]
    · have : ¬ x = y := fun e => h e.symm
      simp [h, this]
theorem isIn_so {i : Int} : ∀ {ps : List Str}, isIn (.int i) (ps.map .str) = some false
  | [] => rfl
  | y :: r => by (with_reducible refine rwE List.map_cons ?_; rewrite [isIn]; with_reducible refine rwE isIn_so ?_); rfl
theorem posIn_par {x : Str} : ∀ {ps : List Str}, x ∈ ps → posIn (.str x) (ps.map .str) = some (some (posS x ps))
  | [], h => nomatch h
  | y :: r, h => by
    (with_reducible refine rwE List.map_cons ?_; rewrite [posIn])
    refine (?_ : (match decide (y = x) with | true => some (some 0) | false => Option.map (Option.map (· + 1)) (posIn (.str x) (r.map .str))) = _)
    by_cases e : y = x
    · with_reducible refine rwE (decide_eq_true e) ?_; simp [posS, e]
    · with_reducible refine rwE (decide_eq_false e) ?_
      have hr : x ∈ r := (List.mem_cons.mp h).resolve_left fun q => e q.symm
      refine (?_ : ((posIn (.str x) (r.map .str)).map (·.map (· + 1))) = _)
      with_reducible refine rwE (posIn_par hr) ?_; simp [posS, e]
theorem posS_lt {x : Str} : ∀ {ps : List Str}, x ∈ ps → posS x ps < ps.length
  | [], h => nomatch h
  | y :: r, h => by
    unfold posS
    split
    · exact Nat.zero_lt_succ _
    · rename_i e
      have hr : x ∈ r := (List.mem_cons.mp h).resolve_left fun q => e q.symm
      exact Nat.succ_lt_succ (posS_lt hr)
set_option maxHeartbeats 4000000 in
theorem put_ok {w : World} {mean : ExcName → Option Value} {mg mb : Str → Option Value} {f : Fx} {n : Nat} {loc : Loc} {EQ : Mem → Loc → Prop} {told args : Addr} {T : Told} {nm : Str} {as : List (Option Wo)} (hT : ∀ e ∈ T, e.2.1.length ≤ 100) (ha : as.length ≤ 100) :
    Ts (WW w mean mg mb) f (n + 1) (VR (WW w mean mg mb)) (fun vs => call (.ref 937) vs) [.obj told, .str nm, .obj args] [(told, .dict (toldAV T)), (args, .list (as.map woAV))] loc
      (fun b M' l' => l' = loc ∧ b = woAV (putW T nm as) ∧ M' = [(told, .dict (toldAV T)), (args, .list (as.map woAV))]) EQ := by
  cases hn : T.lookup nm with
  | none =>
    have e : (toldAV T).lookup nm = none := by (with_reducible refine rwE toldAV_at ?_; with_reducible refine rwE hn ?_); rfl
    walk_at "def"
    repeat' walk_at "st"
    with_reducible refine rwE e ?_
    refine ⟨fun _ => ⟨fun _ => ?_, fun h => by cases h⟩, fun h => by cases h⟩
    repeat' walk_at "st"
    exact ⟨rfl, by (rewrite [putW]; with_reducible refine rwE hn ?_); rfl, rfl⟩
  | some pw =>
    obtain ⟨ps, wo⟩ := pw
    have e : (toldAV T).lookup nm = some (.tup [.tup (ps.map .str), woAV (some wo)]) := by (with_reducible refine rwE toldAV_at ?_; with_reducible refine rwE hn ?_); rfl
    have hps : ps.length ≤ 100 := by
      obtain ⟨l1, l2, h, _⟩ := List.lookup_eq_some_iff.mp hn
      exact hT (nm, ps, wo) (by with_reducible refine rwE h ?_; simp)
    have hl : (ps.map AV.str).length = ps.length := List.length_map ..
    have hl2 : (as.map woAV).length = as.length := List.length_map ..
    walk_at "def"
    repeat' walk_at "st"
    with_reducible refine rwE e ?_
    refine ⟨fun h => (by injection h), fun _ => ?_⟩
    repeat' walk_at "st"
    refine t_inList (k := as.any (·.isNone)) (.obj args _ (by walk_at "mem")) isIn_none ?_
    refine ⟨_, rfl, fun hc => ⟨fun _ => ?_, fun h => by cases h⟩, fun hc => ?_⟩
    · repeat' walk_at "st"
      exact ⟨rfl, by (rewrite [putW]; with_reducible refine rwE hn ?_); simp only [hc, Bool.true_or, if_true]; rfl, rfl⟩
    repeat' walk_at "st"
    refine ⟨fun hc2 => ?_, fun hc2 => ?_⟩
    · refine ⟨fun _ => ?_, fun h => by cases h⟩
      repeat' walk_at "st"
      have hne : ps.length ≠ as.length := by
        intro q
        rw [hl, hl2, q] at hc2
        simp at hc2
      exact ⟨rfl, by (rewrite [putW]; with_reducible refine rwE hn ?_); simp only [hc, decide_eq_true hne, Bool.false_or, if_true]; rfl, rfl⟩
    · have hlen : ps.length = as.length := by
        rw [hl, hl2] at hc2
        have q : (ps.length : Int) = (as.length : Int) := by simpa using hc2
        walk_at "om"
      have hput : putW T nm as = putLast ps as wo := by
          (rewrite [putW]; with_reducible refine rwE hn ?_)
          simp only [hc, hlen, ne_eq, not_true_eq_false, decide_false, Bool.or_false, Bool.false_eq_true, if_false]
      repeat' walk_at "st"
      refine ⟨fun h => (by injection h), fun _ => ?_⟩
      repeat' walk_at "st"
      refine ⟨rfl, ?_⟩
      repeat' walk_at "st"
      cases wo with
      | so i =>
        refine t_inTup isIn_so ?_
        refine ⟨_, rfl, fun h => (by injection h), fun _ => ?_⟩
        repeat' walk_at "st"
        exact ⟨rfl, by rw [hput]; rfl, rfl⟩
      | par x =>
        refine t_inTup isIn_par ?_
        refine ⟨_, rfl, fun h => ?_, fun h => ?_⟩
        · have hx : x ∈ ps := of_decide_eq_true h
          repeat' walk_at "st"
          refine t_tupIndex isIn_par (posIn_par hx) ?_
          have hlt : posS x ps < as.length := by with_reducible refine rwE (Eq.symm hlen) ?_; exact posS_lt hx
          have hz : ((posS x ps : Nat) : Int) < 2 ^ 63 := by walk_at "om"
          refine t_subList (c := woAV as[posS x ps]) (.obj args _ (by walk_at "mem")) (Int.natCast_nonneg _) (by refine (?_ : (as.map woAV)[posS x ps]? = _); (with_reducible refine rwE (List.getElem?_map) ?_; with_reducible refine rwE (List.getElem?_eq_getElem hlt) ?_); rfl) hz (fun _ _ _ => by with_unfolding_all rfl) ?_
          repeat' walk_at "st"
          refine ⟨rfl, ?_, rfl⟩
          (with_reducible refine rwE hput ?_; rewrite [putLast]; with_reducible refine rwE (if_pos hx) ?_; with_reducible refine rwE (List.getElem?_eq_getElem hlt) ?_)
          rfl
        · have hx : ¬ x ∈ ps := of_decide_eq_false h
          repeat' walk_at "st"
          refine ⟨rfl, ?_, rfl⟩
          (with_reducible refine rwE hput ?_; rewrite [putLast]; with_reducible refine rwE (if_neg hx) ?_)
          rfl
/-- the worth of an item -/
noncomputable abbrev Plain := List (Str × Int)
noncomputable def plainAV (P : Plain) : List (Str × AV) := P.map fun e => (e.1, .int e.2)
theorem plainAV_at {P : Plain} {x : Str} : (plainAV P).lookup x = (P.lookup x).map .int := lookup_map (g := fun e : Int => AV.int e)
mutual
noncomputable def worthW (T : Told) (P : Plain) (ps : List Str) : It → Option Wo
  | .sym x => if x ∈ ps then some (.par x) else match P.lookup x with
    | some i => some (.so i)
    | none => putW T x []
  | .list [] => none
  | .list (.sym h :: r) => putW T h (worthsW T P ps r)
  | .list (.list _ :: _) => none
noncomputable def worthsW (T : Told) (P : Plain) (ps : List Str) : List It → List (Option Wo)
  | [] => []
  | i :: r => worthW T P ps i :: worthsW T P ps r
end
theorem worthsW_map {T : Told} {P : Plain} {ps : List Str} : ∀ {l : List It}, worthsW T P ps l = l.map (worthW T P ps)
  | [] => rfl
  | i :: r => by (rewrite [worthsW]; with_reducible refine rwE worthsW_map ?_); rfl
noncomputable def OkW (x : Str) : Prop := x ≠ "Real" ∧ x ≠ "_" ∧ x.length ≤ 100
/-- an item of this depth at most, each list with a word at its head -/
noncomputable def Wf : Nat → It → Prop
  | _, .sym x => OkW x
  | 0, .list _ => False
  | D + 1, .list l => ∃ h r, l = .sym h :: r ∧ OkW h ∧ r ≠ [] ∧ r.length ≤ 10 ∧ ∀ i ∈ r, Wf D i
noncomputable def WorthAt (w : World) (mean : ExcName → Option Value) (mg mb : Str → Option Value) (D : Nat) : Prop :=
  ∀ {f : Fx} {n : Nat} {loc : Loc} {EQ : Mem → Loc → Prop} {told plain : Addr} {T : Told} {P : Plain} {ps : List Str} {it : It} (_ : Wf D it) (_ : ∀ e ∈ T, e.2.1.length ≤ 100) (_ : ps.length ≤ 100),
    Ts (WW w mean mg mb) f (n + D + 2) (VR (WW w mean mg mb)) (fun vs => call (.ref 942) vs) [.obj told, .obj plain, .tup (ps.map .str), itAV it] [(told, .dict (toldAV T)), (plain, .dict (plainAV P))] loc
      (fun b M' l' => l' = loc ∧ b = woAV (worthW T P ps it) ∧ M' = [(told, .dict (toldAV T)), (plain, .dict (plainAV P))]) EQ
set_option maxHeartbeats 4000000 in
theorem worth_sym {w : World} {mean : ExcName → Option Value} {mg mb : Str → Option Value} {D : Nat} {f : Fx} {n : Nat} {loc : Loc} {EQ : Mem → Loc → Prop} {told plain : Addr} {T : Told} {P : Plain} {ps : List Str} {x : Str} (hT : ∀ e ∈ T, e.2.1.length ≤ 100) (hp : ps.length ≤ 100) :
    Ts (WW w mean mg mb) f (n + D + 2) (VR (WW w mean mg mb)) (fun vs => call (.ref 942) vs) [.obj told, .obj plain, .tup (ps.map .str), itAV (.sym x)] [(told, .dict (toldAV T)), (plain, .dict (plainAV P))] loc
      (fun b M' l' => l' = loc ∧ b = woAV (worthW T P ps (.sym x)) ∧ M' = [(told, .dict (toldAV T)), (plain, .dict (plainAV P))]) EQ := by
  have e : itAV (.sym x) = .tup [.str "sym", .str x] := rfl
  with_reducible refine rwE e ?_
  refine Ts.drop ?_
  walk_at "def"
  repeat' walk_at "st"
  refine ⟨fun _ => ?_, fun h => absurd h (by decide)⟩
  repeat' walk_at "st"
  refine t_inTup isIn_par ?_
  refine ⟨_, rfl, fun h => ?_, fun h => ?_⟩
  · have hx : x ∈ ps := of_decide_eq_true h
    repeat' walk_at "st"
    exact ⟨_, List.Sublist.refl _, rfl, by (rewrite [worthW]; with_reducible refine rwE (if_pos hx) ?_); rfl, rfl⟩
  · have hx : ¬ x ∈ ps := of_decide_eq_false h
    repeat' walk_at "st"
    with_reducible refine rwE plainAV_at ?_
    cases q : P.lookup x with
    | some i =>
      refine ⟨fun _ => ?_, fun h => (by injection h)⟩
      repeat' walk_at "st"
      refine t_subDict (c := .int i) noMods (.obj plain _ (by walk_at "mem")) (by (with_reducible refine rwE plainAV_at ?_; with_reducible refine rwE q ?_); rfl) (fun _ _ => by with_unfolding_all rfl) ?_
      repeat' walk_at "st"
      exact ⟨_, List.Sublist.refl _, rfl, by (rewrite [worthW]; with_reducible refine rwE (if_neg hx) ?_; with_reducible refine rwE q ?_); rfl, rfl⟩
    | none =>
      refine ⟨fun h => (by injection h), fun _ => ?_⟩
      repeat' walk_at "st"
      intro A
      repeat' walk_at "st"
      refine Ts.useC (by walk_at "pks") (Ts.det (put_ok (as := []) (args := A) hT (by decide)) ?_)
      walk_at "q"
      exact ⟨_, .cons_cons _ (.cons _ (.refl _)), rfl, by (rewrite [worthW]; with_reducible refine rwE (if_neg hx) ?_; with_reducible refine rwE q ?_); rfl, rfl⟩
theorem from_one {n : Nat} : Builtin.Slice.sliceAdjust (some 1) none 1 ((n + 1 : Nat) : Int) = (((1 : Nat) : Int), ((1 : Nat) : Int) + n) := by
  unfold Builtin.Slice.sliceAdjust
  simp
  walk_at "om"
set_option maxHeartbeats 4000000 in
theorem worth_list {w : World} {mean : ExcName → Option Value} {mg mb : Str → Option Value} {D : Nat} (IH : WorthAt w mean mg mb D) {f : Fx} {n : Nat} {loc : Loc} {EQ : Mem → Loc → Prop} {told plain : Addr} {T : Told} {P : Plain} {ps : List Str} {h : Str} {r : List It} (hT : ∀ e ∈ T, e.2.1.length ≤ 100) (hp : ps.length ≤ 100) (hr : r.length ≤ 10) (hf : ∀ i ∈ r, Wf D i) :
    Ts (WW w mean mg mb) f (n + (D + 1) + 2) (VR (WW w mean mg mb)) (fun vs => call (.ref 942) vs) [.obj told, .obj plain, .tup (ps.map .str), itAV (.list (.sym h :: r))] [(told, .dict (toldAV T)), (plain, .dict (plainAV P))] loc
      (fun b M' l' => l' = loc ∧ b = woAV (worthW T P ps (.list (.sym h :: r))) ∧ M' = [(told, .dict (toldAV T)), (plain, .dict (plainAV P))]) EQ := by
  have e : itAV (.list (.sym h :: r)) = .tup [.str "list", .tup (.tup [.str "sym", .str h] :: r.map itAV)] := by (rewrite [itAV, itsAV]; with_reducible refine rwE itsAV_map ?_); rfl
  with_reducible refine rwE e ?_
  refine Ts.drop ?_
  walk_at "def"
  repeat' walk_at "st"
  refine ⟨fun h => absurd h (by decide), fun _ => ?_⟩
  repeat' walk_at "st"
  refine t_subTupSlice (lo := some 1) (hi := none) (i := 1) (c := r.length) (by simp [sizeLine]; walk_at "om") (.int 1) .none (by (with_reducible refine rwE List.length_cons ?_; rewrite [List.length_map]); exact from_one) (by simp; walk_at "om") (by simp) (fun _ _ => ⟨_, by with_unfolding_all rfl⟩) ?_
  have hd : ((AV.tup [AV.str "sym", AV.str h] :: r.map itAV).drop 1).take r.length = r.map itAV := by
    refine (?_ : (r.map itAV).take r.length = _)
    exact List.take_of_length_le (by simp)
  with_reducible refine rwE hd ?_
  refine ⟨r.map itAV, [(told, .dict (toldAV T)), (plain, .dict (plainAV P))], [], fun i ys M => ys = (r.take i).map (fun i => woAV (worthW T P ps i)) ∧ M = [(told, .dict (toldAV T)), (plain, .dict (plainAV P))], it_tup, by rw [List.length_map]; unfold sizeLine; walk_at "om", ⟨rfl, rfl⟩, ?_, ?_⟩
  · rintro i a ys M ha ⟨rfl, rfl⟩
    repeat' walk_at "st"
    have hi : i < r.length := by have := (List.getElem?_eq_some_iff.mp ha).1; simpa using this
    have hgi : r[i]? = some r[i] := List.getElem?_eq_getElem hi
    have hai : itAV r[i] = a := by rw [List.getElem?_map, hgi] at ha; exact Option.some.inj ha
    subst hai
    refine Ts.useC (by walk_at "pks") (Ts.det (IH (n := n) (hf _ (List.getElem_mem hi)) hT hp) ?_)
    refine ⟨?_, rfl⟩
    (with_reducible refine rwE List.take_succ ?_; with_reducible refine rwE hgi ?_; with_reducible refine rwE List.map_append ?_)
    rfl
  · rintro ys M hys ⟨rfl, rfl⟩ A
    repeat' walk_at "st"
    have hy : (List.take (List.map itAV r).length r).map (fun i => woAV (worthW T P ps i)) = (worthsW T P ps r).map woAV := by
      (rewrite [List.length_map]; with_reducible refine rwE List.take_length ?_; with_reducible refine rwE worthsW_map ?_; with_reducible refine rwE List.map_map ?_); rfl
    with_reducible refine rwE hy ?_
    refine Ts.useC (by walk_at "pks") (Ts.det (put_ok (as := worthsW T P ps r) (args := A) hT (by (with_reducible refine rwE worthsW_map ?_; rewrite [List.length_map]); walk_at "om")) ?_)
    walk_at "q"
    exact ⟨_, .cons_cons _ (.cons _ (.refl _)), rfl, by rw [worthW]; rfl, rfl⟩
theorem worth_ok {w : World} {mean : ExcName → Option Value} {mg mb : Str → Option Value} : ∀ {D : Nat}, WorthAt w mean mg mb D
  | D, f, n, loc, EQ, told, plain, T, P, ps, .sym x, _, hT, hp => worth_sym hT hp
  | 0, f, n, loc, EQ, told, plain, T, P, ps, .list l, h, _, _ => h.elim
  | D + 1, f, n, loc, EQ, told, plain, T, P, ps, .list l, h, hT, hp => by
    refine byG fun G_ bk_ => ?_; obtain ⟨hd, r, rfl, _, _, hr, hf⟩ := h; refine bk_ ?_; clear bk_
    exact worth_list worth_ok hT hp hr hf
section
/-- what stands for a sort in the reader's values -/
noncomputable def encW (ps : List Str) : Wo → Int
  | .par x => -1 - (posS x ps : Int)
  | .so i => i
structure Ent where
  ps : List Str
  so : Int
  body : Option It
noncomputable abbrev Tbl := List (Str × Ent)
inductive Task where
  | read (it : It) (ps : List Str)
  | app (nm : Str) (k : Nat)
  | keep (nm : Str) (as : List Int)
structure St where
  ts : List Task
  vs : List Int
  fd : List (Str × Option Int)
inductive Out where
  | go (s : St)
  | fault
  | bad
noncomputable def putIn (v : Int) (as : List Int) : Option Int := if 0 ≤ v then some v else as[(-1 - v).toNat]?
noncomputable def putS {α : Type} (es : List (Str × α)) (k : Str) (a : α) : List (Str × α) := if es.any (fun kv => decide (kv.1 = k)) then es.map (fun kv => if kv.1 = k then (kv.1, a) else kv) else es ++ [(k, a)]
noncomputable def baseS (x : Str) : Option Int := if x = "Bool" then some 0 else if x = "Int" then some 1 else if x = "Real" then some 2 else none
noncomputable def step (T : Tbl) (s : St) : Out := match s.ts with
  | [] => .bad
  | .read (.sym x) ps :: ts => if x ∈ ps then .go ⟨ts, (-1 - (posS x ps : Int)) :: s.vs, s.fd⟩ else match baseS x with
    | some i => .go ⟨ts, i :: s.vs, s.fd⟩
    | none => match T.lookup x with
      | none => .fault
      | some _ => .go ⟨.app x 0 :: ts, s.vs, s.fd⟩
  | .read (.list (.sym h :: r)) ps :: ts => if r = [] ∨ h = "_" then .bad else match T.lookup h with
      | none => .fault
      | some _ => .go ⟨r.map (.read · ps) ++ .app h r.length :: ts, s.vs, s.fd⟩
  | .read _ _ :: _ => .bad
  | .app nm k :: ts => if s.vs.length < k then .bad else match T.lookup nm with
    | none => .bad
    | some e => if k ≠ e.ps.length then .fault else match e.body with
      | none => .go ⟨ts, e.so :: s.vs.drop k, s.fd⟩
      | some b => match s.fd.lookup nm with
        | none => .go ⟨.read b e.ps :: .keep nm (s.vs.take k).reverse :: ts, s.vs.drop k, putS s.fd nm none⟩
        | some none => .fault
        | some (some v) => match putIn v (s.vs.take k).reverse with
          | none => .bad
          | some u => .go ⟨ts, u :: s.vs.drop k, s.fd⟩
  | .keep nm as :: ts => match s.vs with
    | [] => .bad
    | v :: vs => match putIn v as with
      | none => .bad
      | some u => .go ⟨ts, u :: vs, putS s.fd nm (some v)⟩
section
variable {T : Tbl} {x : Str} {ps : List Str} {ts : List Task} {vs : List Int} {fd : List (Str × Option Int)} {e : Ent} {k : Nat} {b : It}
theorem step_par (hx : x ∈ ps) : step T ⟨.read (.sym x) ps :: ts, vs, fd⟩ = .go ⟨ts, (-1 - (posS x ps : Int)) :: vs, fd⟩ := if_pos hx
theorem step_base {i : Int} (hx : ¬ x ∈ ps) (hb : baseS x = some i) : step T ⟨.read (.sym x) ps :: ts, vs, fd⟩ = .go ⟨ts, i :: vs, fd⟩ := (if_neg hx).trans (by (with_reducible refine rwE hb ?_; with_reducible rfl))
theorem step_sym (hx : ¬ x ∈ ps) (hb : baseS x = none) (ht : T.lookup x = some e) : step T ⟨.read (.sym x) ps :: ts, vs, fd⟩ = .go ⟨.app x 0 :: ts, vs, fd⟩ := (if_neg hx).trans (by (with_reducible refine rwE hb ?_; with_reducible refine rwE ht ?_; with_reducible rfl))
theorem step_symNo (hx : ¬ x ∈ ps) (hb : baseS x = none) (ht : T.lookup x = none) : step T ⟨.read (.sym x) ps :: ts, vs, fd⟩ = .fault := (if_neg hx).trans (by (with_reducible refine rwE hb ?_; with_reducible refine rwE ht ?_; with_reducible rfl))
theorem step_list {r : List It} (hr : ¬ (r = [] ∨ x = "_")) (ht : T.lookup x = some e) : step T ⟨.read (.list (.sym x :: r)) ps :: ts, vs, fd⟩ = .go ⟨r.map (.read · ps) ++ .app x r.length :: ts, vs, fd⟩ := (if_neg hr).trans (by (with_reducible refine rwE ht ?_; with_reducible rfl))
theorem step_listNo {r : List It} (hr : ¬ (r = [] ∨ x = "_")) (ht : T.lookup x = none) : step T ⟨.read (.list (.sym x :: r)) ps :: ts, vs, fd⟩ = .fault := (if_neg hr).trans (by (with_reducible refine rwE ht ?_; with_reducible rfl))
theorem step_at (hk : ¬ vs.length < k) (ht : T.lookup x = some e) (hl : k = e.ps.length) {G : Out → Prop} (h : G (match e.body with
    | none => .go ⟨ts, e.so :: vs.drop k, fd⟩
    | some b => match fd.lookup x with
      | none => .go ⟨.read b e.ps :: .keep x (vs.take k).reverse :: ts, vs.drop k, putS fd x none⟩
      | some none => .fault
      | some (some v) => match putIn v (vs.take k).reverse with
        | none => .bad
        | some u => .go ⟨ts, u :: vs.drop k, fd⟩)) : G (step T ⟨.app x k :: ts, vs, fd⟩) := by
  unfold step
  dsimp only
  rw [if_neg hk, ht]
  dsimp only
  rw [if_neg fun z => z hl]
  exact h
theorem step_open (hk : ¬ vs.length < k) (ht : T.lookup x = some e) (hl : k = e.ps.length) (hb : e.body = some b) (hf : fd.lookup x = none) : step T ⟨.app x k :: ts, vs, fd⟩ = .go ⟨.read b e.ps :: .keep x (vs.take k).reverse :: ts, vs.drop k, putS fd x none⟩ :=
  step_at (G := (· = _)) hk ht hl (by with_reducible refine rwE hb ?_; dsimp only; (with_reducible refine rwE hf ?_; with_reducible rfl))
theorem step_loop (hk : ¬ vs.length < k) (ht : T.lookup x = some e) (hl : k = e.ps.length) (hb : e.body = some b) (hf : fd.lookup x = some none) : step T ⟨.app x k :: ts, vs, fd⟩ = .fault :=
  step_at (G := (· = _)) hk ht hl (by with_reducible refine rwE hb ?_; dsimp only; (with_reducible refine rwE hf ?_; with_reducible rfl))
theorem step_has {u v : Int} (hk : ¬ vs.length < k) (ht : T.lookup x = some e) (hl : k = e.ps.length) (hb : e.body = some b) (hf : fd.lookup x = some (some v)) (hp : putIn v (vs.take k).reverse = some u) : step T ⟨.app x k :: ts, vs, fd⟩ = .go ⟨ts, u :: vs.drop k, fd⟩ :=
  step_at (G := (· = _)) hk ht hl (by with_reducible refine rwE hb ?_; dsimp only; with_reducible refine rwE hf ?_; dsimp only; (with_reducible refine rwE hp ?_; with_reducible rfl))
theorem step_so (hk : ¬ vs.length < k) (ht : T.lookup x = some e) (hl : k = e.ps.length) (hb : e.body = none) : step T ⟨.app x k :: ts, vs, fd⟩ = .go ⟨ts, e.so :: vs.drop k, fd⟩ :=
  step_at (G := (· = _)) hk ht hl (by (with_reducible refine rwE hb ?_; with_reducible rfl))
theorem step_appNo (hk : ¬ vs.length < k) (ht : T.lookup x = some e) (hl : k ≠ e.ps.length) : step T ⟨.app x k :: ts, vs, fd⟩ = .fault := (if_neg hk).trans (by with_reducible refine rwE ht ?_; exact if_pos hl)
theorem step_keep {as : List Int} {u v : Int} (hp : putIn v as = some u) : step T ⟨.keep x as :: ts, v :: vs, fd⟩ = .go ⟨ts, u :: vs, putS fd x (some v)⟩ := by
  refine (?_ : (match putIn v as with | none => Out.bad | some u => .go ⟨ts, u :: vs, putS fd x (some v)⟩) = _)
  (with_reducible refine rwE hp ?_; with_reducible rfl)
end
inductive Runs (T : Tbl) : St → Option Int → Prop
  | done (v : Int) (vs : List Int) (fd : List (Str × Option Int)) : Runs T ⟨[], v :: vs, fd⟩ (some v)
  | fault (s : St) : step T s = .fault → Runs T s none
  | go (s s' : St) (r : Option Int) : step T s = .go s' → Runs T s' r → Runs T s r
inductive Reach (T : Tbl) : St → St → Prop
  | refl (s : St) : Reach T s s
  | go (s s' t : St) : step T s = .go s' → Reach T s' t → Reach T s t
theorem Reach.trans {T : Tbl} {s t u : St} (h : Reach T s t) (k : Reach T t u) : Reach T s u := by
  induction h with
  | refl => exact k
  | go s s' t e _ ih => exact .go _ _ _ e (ih k)
theorem Reach.runs {T : Tbl} {s t : St} {r : Option Int} (h : Reach T s t) (k : Runs T t r) : Runs T s r := by
  induction h with
  | refl => exact k
  | go s s' t e _ ih => exact .go _ _ _ e (ih k)
theorem putS_at {α : Type} {k y : Str} {a : α} {es : List (Str × α)} : (putS es k a).lookup y = if y = k then some a else es.lookup y := by
  unfold putS
  split
  · rename_i h
    have : ∀ {l : List (Str × α)}, (l.map (fun kv => if kv.1 = k then (kv.1, a) else kv)).lookup y = if y = k then (if l.any (fun kv => decide (kv.1 = k)) then some a else none) else l.lookup y := by
      intro l
      induction l with
      | nil => simp
      | cons e r ih =>
        (with_reducible refine rwE List.map_cons ?_; with_reducible refine rwE List.lookup_cons ?_)
        by_cases q : e.1 = k
        · simp only [q, if_true, List.any_cons, decide_true, Bool.true_or]
          by_cases z : y = k
          · simp [z]
          · have : (y == k) = false := by simpa using z
            obtain ⟨e1, e2⟩ := e
            simp only at q
            subst q
            (with_reducible refine rwE List.lookup_cons ?_; with_reducible refine rwE this ?_; with_reducible refine rwE ih ?_)
            simp [z]
        · obtain ⟨e1, e2⟩ := e
          simp only at q
          simp only [q, if_false, List.any_cons, decide_false, Bool.false_or]
          with_reducible refine rwE List.lookup_cons ?_
          by_cases z : y = e1
          · have : ¬ e1 = k := q
            subst z
            simp [q]
          · have : (y == e1) = false := by simpa using z
            (with_reducible refine rwE this ?_; with_reducible refine rwE ih ?_; with_reducible rfl)
    (with_reducible refine rwE this ?_; with_reducible refine rwE (if_pos h) ?_; with_reducible rfl)
  · rename_i h
    with_reducible refine rwE List.lookup_append ?_
    by_cases z : y = k
    · subst z
      have : es.lookup y = none := by
        rw [List.lookup_eq_none_iff]
        intro p hp
        have : ¬ (es.any fun kv => decide (kv.1 = y)) = true := h
        rw [List.any_eq_true] at this
        have : ¬ p.1 = y := fun q => this ⟨p, hp, by simpa using q⟩
        simpa using fun q => this q.symm
      simp [this, List.lookup_cons]
    · have : (y == k) = false := by simpa using z
      simp [z, List.lookup_cons, this]
/-- the worth of the rows, and the table of the reader -/
structure Good (T : Tbl) (P : Plain) (W : Told) : Prop where
  pln : ∀ x i, P.lookup x = some i → 0 ≤ i ∧ (baseS x = some i ∨ baseS x = none ∧ T.lookup x = some ⟨[], i, none⟩)
  base : ∀ x i, baseS x = some i → x ≠ "Real" → P.lookup x = some i
  srt : ∀ x e, T.lookup x = some e → e.body = none → e.ps = [] ∧ (P.lookup x).isSome = true
  bod : ∀ x e b, T.lookup x = some e → e.body = some b → (∃ D, Wf D b) ∧ P.lookup x = none ∧ baseS x = none
  fix : ∀ (i : Nat) (x : Str) (ps : List Str) (wo : Wo), W[i]? = some (x, ps, wo) → ∃ e b, T.lookup x = some e ∧ e.ps = ps ∧ e.body = some b ∧ worthW (W.take i) P ps b = some wo
  stab : ∀ x e b, T.lookup x = some e → e.body = some b → W.lookup x = none → worthW W P e.ps b = none
  nd : (W.map (·.1)).Nodup
noncomputable def WoOk (ps : List Str) : Wo → Prop
  | .par y => y ∈ ps
  | .so i => 0 ≤ i
noncomputable def EntOk (W : Told) : Prop := ∀ e ∈ W, WoOk e.2.1 e.2.2
theorem EntOk.at {W : Told} (h : EntOk W) {x : Str} {ps : List Str} {wo : Wo} (e : W.lookup x = some (ps, wo)) : WoOk ps wo := by
  obtain ⟨l1, l2, q, _⟩ := List.lookup_eq_some_iff.mp e
  exact h (x, ps, wo) (by with_reducible refine rwE q ?_; simp)
theorem any_none {as : List (Option Wo)} : as.any (·.isNone) = false ↔ ∃ ws : List Wo, as = ws.map some := by
  constructor
  · intro h
    induction as with
    | nil => exact ⟨[], rfl⟩
    | cons a r ih =>
      rw [List.any_cons] at h
      cases a with
      | none => injection h
      | some w =>
        obtain ⟨ws, e⟩ := ih (by simpa using h)
        exact ⟨w :: ws, by rw [e]; rfl⟩
  · rintro ⟨ws, rfl⟩
    simp
theorem putW_some {W : Told} {nm : Str} {as : List (Option Wo)} {w : Wo} (hW : EntOk W) (h : putW W nm as = some w) : ∃ (ps : List Str) (wo : Wo) (ws : List Wo), W.lookup nm = some (ps, wo) ∧ as = ws.map some ∧ ps.length = as.length ∧
    ((∃ i, wo = .so i ∧ w = .so i) ∨ ∃ z, wo = .par z ∧ z ∈ ps ∧ ws[posS z ps]? = some w) := by
  unfold putW at h
  cases e : W.lookup nm with
  | none => rw [e] at h; injection h
  | some pw =>
    obtain ⟨ps, wo⟩ := pw
    rw [e] at h
    simp only at h
    split at h
    · injection h
    rename_i hc
    rw [Bool.or_eq_true, not_or] at hc
    obtain ⟨h1, h2⟩ := hc
    obtain ⟨ws, rfl⟩ := any_none.mp (Bool.not_eq_true _ ▸ h1 : as.any (·.isNone) = false)
    have h2 : ps.length = (ws.map some).length := by simpa using h2
    refine ⟨ps, wo, ws, rfl, rfl, h2, ?_⟩
    have hw := hW.at e
    cases wo with
    | so i => exact .inl ⟨i, rfl, by simpa [putLast] using h.symm⟩
    | par z =>
      have hz : z ∈ ps := hw
      rw [putLast, if_pos hz, List.getElem?_map] at h
      refine .inr ⟨z, rfl, hz, ?_⟩
      cases q : ws[posS z ps]? with
      | none => rw [q] at h; injection h
      | some v => rw [q] at h; simpa using h
theorem putW_full {W : Told} {nm : Str} {ws : List Wo} {ps : List Str} {wo : Wo} (hW : EntOk W) (e : W.lookup nm = some (ps, wo)) (hl : ps.length = ws.length) : ∃ w, putW W nm (ws.map some) = some w := by
  have h1 : (ws.map some).any (·.isNone) = false := any_none.mpr ⟨ws, rfl⟩
  unfold putW
  with_reducible refine rwE e ?_
  simp only [h1, List.length_map, hl, ne_eq, not_true_eq_false, decide_false, Bool.or_false, Bool.false_eq_true, if_false]
  cases wo with
  | so i => exact ⟨_, rfl⟩
  | par z =>
    have hz : z ∈ ps := hW.at e
    have hlt : posS z ps < ws.length := by with_reducible refine rwE (Eq.symm hl) ?_; exact posS_lt hz
    (rewrite [putLast]; with_reducible refine rwE (if_pos hz) ?_; with_reducible refine rwE (List.getElem?_map) ?_; with_reducible refine rwE (List.getElem?_eq_getElem hlt) ?_)
    exact ⟨_, rfl⟩
theorem worth_fit {W : Told} {P : Plain} (hW : EntOk W) (hP : ∀ x i, P.lookup x = some i → 0 ≤ i) {ps : List Str} : ∀ {D : Nat} {it : It}, Wf D it → ∀ {w : Wo}, worthW W P ps it = some w → WoOk ps w
  | D, .sym x, _, w, h => by
    rw [worthW] at h
    split at h
    · rename_i hx
      (injection h with e0; (first | subst e0 | cases e0))
      exact hx
    · cases q : P.lookup x with
      | some i =>
        rw [q] at h; (injection h with e0; (first | subst e0 | cases e0))
        exact hP x i q
      | none =>
        rw [q] at h
        obtain ⟨ps', wo, ws, e, e1, hl, h⟩ := putW_some hW h
        rcases h with ⟨i, rfl, rfl⟩ | ⟨z, rfl, hz, h⟩
        · have : WoOk ps' (.so i) := hW.at e
          exact this
        · cases ws with
          | nil => injection h
          | cons => injection e1
  | 0, .list l, hf, w, h => hf.elim
  | D + 1, .list l, hf, w, h => by
    obtain ⟨hd, r, rfl, _, _, _, hr⟩ := hf
    rw [worthW, worthsW_map] at h
    obtain ⟨ps', wo, ws, e, e1, hl, h⟩ := putW_some hW h
    rcases h with ⟨i, rfl, rfl⟩ | ⟨z, rfl, hz, h⟩
    · have : WoOk ps' (.so i) := hW.at e
      exact this
    · have : (r.map (worthW W P ps))[posS z ps']? = some (some w) := by (with_reducible refine rwE e1 ?_; with_reducible refine rwE (List.getElem?_map) ?_; with_reducible refine rwE h ?_); rfl
      rw [List.getElem?_map] at this
      cases q : r[posS z ps']? with
      | none => rw [q] at this; injection this
      | some i =>
        rw [q] at this
        exact worth_fit hW hP (hr i (List.mem_of_getElem? q)) (by simpa using this)
theorem take_at {W : Told} {r : Nat} {x : Str} {v : List Str × Wo} (h : (W.take r).lookup x = some v) : ∃ i, i < r ∧ W[i]? = some (x, v) := by
  obtain ⟨l1, l2, q, _⟩ := List.lookup_eq_some_iff.mp h
  refine ⟨l1.length, ?_, ?_⟩
  · have : (W.take r).length ≤ r := by with_reducible refine rwE List.length_take ?_; exact Nat.min_le_left ..
    rw [q] at this
    simp at this
    walk_at "om"
  · have : (W.take r)[l1.length]? = some (x, v) := by with_reducible refine rwE q ?_; simp
    rw [List.getElem?_take] at this
    split at this
    · exact this
    · injection this
theorem at_lookup {W : Told} (nd : (W.map (·.1)).Nodup) {x : Str} {v : List Str × Wo} {i : Nat} (h : W[i]? = some (x, v)) : W.lookup x = some v := by
  have hi : i < W.length := (List.getElem?_eq_some_iff.mp h).1
  rw [List.lookup_eq_some_iff]
  refine ⟨W.take i, W.drop (i + 1), ?_, ?_⟩
  · have e : W[i] = (x, v) := (List.getElem?_eq_some_iff.mp h).2
    (with_reducible refine rwE (Eq.symm e) ?_; with_reducible refine rwE (Eq.symm (List.drop_eq_getElem_cons hi)) ?_; rewrite [List.take_append_drop]; with_reducible rfl)
  · intro p hp
    have : ¬ x = p.1 := by
      intro q
      obtain ⟨j, hj, e⟩ := List.getElem_of_mem hp
      rw [List.length_take] at hj
      rw [List.getElem_take] at e
      have h1 : (W.map (·.1))[j]'(by rw [List.length_map]; walk_at "om") = (W.map (·.1))[i]'(by rw [List.length_map]; walk_at "om") := by
        (rewrite [List.getElem_map, List.getElem_map]; with_reducible refine rwE e ?_; with_reducible refine rwE ((List.getElem?_eq_some_iff.mp h).2) ?_)
        exact q.symm
      have := (List.getElem_inj nd).mp h1
      walk_at "om"
    simpa using this
section
variable {T : Tbl} {P : Plain} {W : Told}
theorem Good.nn (g : Good T P W) : ∀ x i, P.lookup x = some i → 0 ≤ i := fun x i h => (g.pln x i h).1
theorem Good.entIdx (g : Good T P W) : ∀ (i : Nat) (x : Str) (ps : List Str) (wo : Wo), W[i]? = some (x, ps, wo) → WoOk ps wo := by
  intro i
  induction i using Nat.strongRecOn with
  | _ i ih =>
    intro x ps wo h
    obtain ⟨e, b, h1, rfl, h2, h3⟩ := g.fix i x ps wo h
    obtain ⟨⟨D, hD⟩, _⟩ := g.bod x e b h1 h2
    refine worth_fit (fun q hq => ?_) g.nn hD h3
    obtain ⟨j, hj, e⟩ := List.getElem_of_mem hq
    rw [List.length_take] at hj
    rw [List.getElem_take] at e
    exact ih j (ar_ltMinL hj) q.1 q.2.1 q.2.2 (by with_reducible refine rwE (Eq.symm e) ?_; exact List.getElem?_eq_getElem (ar_ltMinR hj))
theorem Good.ent (g : Good T P W) : EntOk W := by
  intro e he
  obtain ⟨i, hi, q⟩ := List.getElem_of_mem he
  exact g.entIdx i e.1 e.2.1 e.2.2 (by with_reducible refine rwE (Eq.symm q) ?_; exact List.getElem?_eq_getElem hi)
theorem Good.entTake (g : Good T P W) (r : Nat) : EntOk (W.take r) := fun e he => g.ent e (List.mem_of_mem_take he)
end
end
section
noncomputable def Cons (W : Told) (fd : List (Str × Option Int)) : Prop := ∀ (x : Str) (v : Int), fd.lookup x = some (some v) → ∃ (ps : List Str) (wo : Wo), W.lookup x = some (ps, wo) ∧ v = encW ps wo
noncomputable def Ext (fd fd' : List (Str × Option Int)) : Prop := (∀ x : Str, fd'.lookup x = some none ↔ fd.lookup x = some none) ∧ ∀ x : Str, fd.lookup x ≠ none → fd'.lookup x ≠ none
theorem Ext.refl (fd : List (Str × Option Int)) : Ext fd fd := ⟨fun _ => Iff.rfl, fun _ h => h⟩
theorem Ext.trans {a b c : List (Str × Option Int)} (h : Ext a b) (k : Ext b c) : Ext a c := ⟨fun x => (k.1 x).trans (h.1 x), fun x q => k.2 x (h.2 x q)⟩
section
variable {T : Tbl} {P : Plain} {W : Told}
noncomputable def Shut (W : Told) (r : Nat) (fd : List (Str × Option Int)) : Prop := ∀ x : Str, fd.lookup x = some none → (W.take r).lookup x = none
theorem Shut.ext {r : Nat} {fd fd' : List (Str × Option Int)} (h : Shut W r fd) (e : Ext fd fd') : Shut W r fd' := fun x hx => h x ((e.1 x).mp hx)
noncomputable def ReadOk (T : Tbl) (P : Plain) (W : Told) (r : Nat) (ps : List Str) (it : It) : Prop := ∀ (w : Wo) (ts : List Task) (vs : List Int) (fd : List (Str × Option Int)), worthW (W.take r) P ps it = some w → Cons W fd → Shut W r fd →
  ∃ fd', Reach T ⟨.read it ps :: ts, vs, fd⟩ ⟨ts, encW ps w :: vs, fd'⟩ ∧ Cons W fd' ∧ Ext fd fd'
theorem take_none {i r : Nat} (h : i ≤ r) {x : Str} (q : (W.take r).lookup x = none) : (W.take i).lookup x = none := by
  rw [List.lookup_eq_none_iff] at q ⊢
  intro p hp
  refine q p ?_
  have : (W.take i) = (W.take r).take i := by (with_reducible refine rwE List.take_take ?_; with_reducible refine rwE (Nat.min_eq_left h) ?_; with_reducible rfl)
  rw [this] at hp
  exact List.mem_of_mem_take hp
theorem take_self (nd : (W.map (·.1)).Nodup) {x : Str} {v : List Str × Wo} {i : Nat} (h : W[i]? = some (x, v)) : (W.take i).lookup x = none := by
  cases q : (W.take i).lookup x with
  | none => rfl
  | some u =>
    obtain ⟨j, hj, e⟩ := take_at q
    have hi : i < W.length := (List.getElem?_eq_some_iff.mp h).1
    have h1 : (W.map (·.1))[j]'(by rw [List.length_map]; walk_at "om") = (W.map (·.1))[i]'(by rw [List.length_map]; walk_at "om") := by
      (rewrite [List.getElem_map, List.getElem_map]; with_reducible refine rwE ((List.getElem?_eq_some_iff.mp h).2) ?_; with_reducible refine rwE ((List.getElem?_eq_some_iff.mp e).2) ?_; with_reducible rfl)
    have := (List.getElem_inj nd).mp h1
    walk_at "om"
theorem putIn_enc {ps qs : List Str} {wo w : Wo} {ws : List Wo} (hf : WoOk ps wo) (h : (∃ i, wo = .so i ∧ w = .so i) ∨ ∃ z, wo = .par z ∧ z ∈ ps ∧ ws[posS z ps]? = some w) : putIn (encW ps wo) (ws.map (encW qs)) = some (encW qs w) := by
  rcases h with ⟨i, rfl, rfl⟩ | ⟨z, rfl, hz, h⟩
  · have : 0 ≤ i := hf
    (rewrite [putIn, encW]; with_reducible refine rwE (if_pos this) ?_); rfl
  · (rewrite [putIn, encW]; with_reducible refine rwE (if_neg (by walk_at "om")) ?_)
    have : (-1 - (-1 - (posS z ps : Int))).toNat = posS z ps := by walk_at "om"
    (with_reducible refine rwE this ?_; with_reducible refine rwE (List.getElem?_map) ?_; with_reducible refine rwE h ?_); rfl
theorem reads_ok {r : Nat} {ps : List Str} : ∀ {l : List It}, (∀ i ∈ l, ReadOk T P W r ps i) → ∀ (ws : List Wo) (ts : List Task) (vs : List Int) (fd : List (Str × Option Int)), l.map (worthW (W.take r) P ps) = ws.map some → Cons W fd → Shut W r fd →
    ∃ fd', Reach T ⟨l.map (.read · ps) ++ ts, vs, fd⟩ ⟨ts, (ws.map (encW ps)).reverse ++ vs, fd'⟩ ∧ Cons W fd' ∧ Ext fd fd'
  | [], _, [], ts, vs, fd, _, hc, _ => ⟨fd, .refl _, hc, .refl _⟩
  | [], _, _ :: _, _, _, _, h, _, _ => by injection h
  | _ :: _, _, [], _, _, _, h, _, _ => by injection h
  | i :: l, H, w :: ws, ts, vs, fd, h, hc, hs => by
    rw [List.map_cons, List.map_cons] at h
    refine byG fun G_ bk_ => ?_; injection h with h1 h2
    obtain ⟨fd1, r1, c1, e1⟩ := H i (List.mem_cons_self ..) w (l.map (.read · ps) ++ ts) vs fd h1 hc hs
    obtain ⟨fd2, r2, c2, e2⟩ := reads_ok (fun j hj => H j (List.mem_cons_of_mem _ hj)) ws ts (encW ps w :: vs) fd1 h2 c1 (hs.ext e1); refine bk_ ?_; clear bk_
    refine ⟨fd2, r1.trans ?_, c2, e1.trans e2⟩
    (with_reducible refine rwE List.map_cons ?_; with_reducible refine rwE List.reverse_cons ?_; rewrite [List.append_assoc])
    exact r2
theorem app_ok (g : Good T P W) {r : Nat} (ih : ∀ i, i < r → ∀ (D : Nat) (it : It), Wf D it → ∀ ps, ReadOk T P W i ps it) {x : Str} {ps' qs : List Str} {wo w : Wo} {ws : List Wo} {ts : List Task} {vs : List Int} {fd : List (Str × Option Int)}
    (hx : (W.take r).lookup x = some (ps', wo)) (hl : ps'.length = ws.length) (hc : Cons W fd) (hs : Shut W r fd) (h : (∃ i, wo = .so i ∧ w = .so i) ∨ ∃ z, wo = .par z ∧ z ∈ ps' ∧ ws[posS z ps']? = some w) :
    ∃ fd', Reach T ⟨.app x ws.length :: ts, (ws.map (encW qs)).reverse ++ vs, fd⟩ ⟨ts, encW qs w :: vs, fd'⟩ ∧ Cons W fd' ∧ Ext fd fd' := by
  refine byG fun G_ bk_ => ?_; obtain ⟨i, hi, hw⟩ := take_at hx
  have hwx : W.lookup x = some (ps', wo) := at_lookup g.nd hw
  obtain ⟨e, b, h1, rfl, h2, h3⟩ := g.fix i x ps' wo hw
  obtain ⟨⟨D, hD⟩, _⟩ := g.bod x e b h1 h2; refine bk_ ?_; clear bk_
  have hpi := putIn_enc (qs := qs) (g.entIdx i x _ wo hw) h
  have htk : (((ws.map (encW qs)).reverse ++ vs).take ws.length).reverse = ws.map (encW qs) := by
    (with_reducible refine rwE (List.take_left' (by simp)) ?_; rewrite [List.reverse_reverse]; with_reducible rfl)
  have hdr : ((ws.map (encW qs)).reverse ++ vs).drop ws.length = vs := List.drop_left' (by simp)
  have hlen : ¬ ((ws.map (encW qs)).reverse ++ vs).length < ws.length := by simp
  cases q : fd.lookup x with
  | none =>
    have hst := step_open (ts := ts) hlen h1 hl.symm h2 q
    rw [htk, hdr] at hst
    obtain ⟨fd1, r1, c1, e1⟩ := ih i hi D b hD e.ps wo (.keep x (ws.map (encW qs)) :: ts) vs (putS fd x none) h3 (fun y v hy => by
        rw [putS_at] at hy
        split at hy
        · (injection hy with e0; (first | subst e0 | cases e0))
        · exact hc y v hy) (fun y hy => by
        rw [putS_at] at hy
        split at hy
        · rename_i q; with_reducible refine rwE q ?_; exact take_self g.nd hw
        · exact take_none (Nat.le_of_lt hi) (hs y hy))
    refine ⟨putS fd1 x (some (encW e.ps wo)), .go _ _ _ hst (r1.trans (.go _ ⟨ts, encW qs w :: vs, putS fd1 x (some (encW e.ps wo))⟩ _ ?_ (.refl _))), ?_, ?_, ?_⟩
    · exact step_keep hpi
    · intro y v hy
      rw [putS_at] at hy
      split at hy
      · rename_i q; with_reducible refine rwE q ?_
        refine byG fun G_ bk_ => ?_; (injection hy with e0; (first | subst e0 | cases e0)); refine bk_ ?_; clear bk_
        exact ⟨_, _, hwx, rfl⟩
      · exact c1 y v hy
    · intro y
      with_reducible refine rwE putS_at ?_
      split
      · rename_i q'; (with_reducible refine rwE q' ?_; with_reducible refine rwE q ?_); simp
      · rename_i q'
        (rewrite [e1.1 y]; with_reducible refine rwE putS_at ?_; with_reducible refine rwE (if_neg q') ?_; with_reducible rfl)
    · intro y hy
      with_reducible refine rwE putS_at ?_
      split
      · simp
      · rename_i q'
        refine e1.2 y ?_
        (with_reducible refine rwE putS_at ?_; with_reducible refine rwE (if_neg q') ?_)
        exact hy
  | some o =>
    cases o with
    | none => rw [hs x q] at hx; injection hx
    | some v =>
      refine byG fun G_ bk_ => ?_; obtain ⟨ps2, wo2, q2, rfl⟩ := hc x v q
      rw [hwx] at q2
      (injection q2 with e0; (first | subst e0 | cases e0)); refine bk_ ?_; clear bk_
      have hst := step_has (ts := ts) hlen h1 hl.symm h2 q (by with_reducible refine rwE htk ?_; exact hpi)
      rw [hdr] at hst
      exact ⟨fd, .go _ _ _ hst (.refl _), hc, .refl _⟩
theorem base_plain (g : Good T P W) {x : Str} (hx : OkW x) (h : P.lookup x = none) : baseS x = none := by
  cases q : baseS x with
  | none => rfl
  | some i => rw [g.base x i q hx.1] at h; injection h
theorem read_sym (g : Good T P W) {r : Nat} (ih : ∀ i, i < r → ∀ (D : Nat) (it : It), Wf D it → ∀ ps, ReadOk T P W i ps it) (D : Nat) (x : Str) (hf : Wf D (.sym x)) (ps : List Str) : ReadOk T P W r ps (.sym x) := by
  have hok : OkW x := by cases D <;> exact hf
  intro w ts vs fd hw hc hs
  rw [worthW] at hw
  by_cases hx : x ∈ ps
  · rw [if_pos hx] at hw
    refine byG fun G_ bk_ => ?_; (injection hw with e0; (first | subst e0 | cases e0)); refine bk_ ?_; clear bk_
    exact ⟨fd, .go _ _ _ (step_par hx) (.refl _), hc, .refl _⟩
  · rw [if_neg hx] at hw
    cases q : P.lookup x with
    | some i =>
      rw [q] at hw
      refine byG fun G_ bk_ => ?_; (injection hw with e0; (first | subst e0 | cases e0)); refine bk_ ?_; clear bk_
      rcases (g.pln x i q).2 with hb | ⟨hb, ht⟩
      · exact ⟨fd, .go _ _ _ (step_base hx hb) (.refl _), hc, .refl _⟩
      · refine ⟨fd, .go _ ⟨.app x 0 :: ts, vs, fd⟩ _ (step_sym hx hb ht) (.go _ _ _ (step_so (Nat.not_lt_zero _) ht rfl rfl) (.refl _)), hc, .refl _⟩
    | none =>
      rw [q] at hw
      refine byG fun G_ bk_ => ?_; obtain ⟨ps', wo, ws, e1, e2, e3, h4⟩ := putW_some (g.entTake r) hw; refine bk_ ?_; clear bk_
      cases ws with
      | cons => injection e2
      | nil =>
        refine byG fun G_ bk_ => ?_; obtain ⟨fd2, r2, c2, x2⟩ := app_ok (ts := ts) (vs := vs) (qs := ps) g ih e1 e3 hc hs h4; refine bk_ ?_; clear bk_
        refine ⟨fd2, .go _ _ _ ?_ r2, c2, x2⟩
        refine byG fun G_ bk_ => ?_; obtain ⟨i, hi, hwi⟩ := take_at e1
        obtain ⟨e, b, h1, _⟩ := g.fix i x ps' wo hwi; refine bk_ ?_; clear bk_
        exact step_sym hx (base_plain g hok q) h1
theorem read_ok (g : Good T P W) : ∀ (r D : Nat) (it : It), Wf D it → ∀ ps, ReadOk T P W r ps it := by
  intro r
  induction r using Nat.strongRecOn with
  | _ r ih =>
    intro D
    induction D with
    | zero =>
      intro it hf ps
      cases it with
      | list => exact hf.elim
      | sym x => exact read_sym g ih 0 x hf ps
    | succ D ihD =>
      intro it hf ps
      cases it with
      | sym x => exact read_sym g ih 0 x hf ps
      | list l =>
        refine byG fun G_ bk_ => ?_; obtain ⟨hd, l, rfl, hok, hne, _, hl⟩ := hf; refine bk_ ?_; clear bk_
        intro w ts vs fd hw hc hs
        rw [worthW, worthsW_map] at hw
        refine byG fun G_ bk_ => ?_; obtain ⟨ps', wo, ws, e1, e2, e3, h4⟩ := putW_some (g.entTake r) hw
        have hlen : l.length = ws.length := by have := congrArg List.length e2; simpa using this
        obtain ⟨fd1, r1, c1, x1⟩ := reads_ok (fun i hi => ihD i (hl i hi) ps) ws (.app hd l.length :: ts) vs fd e2 hc hs
        obtain ⟨fd2, r2, c2, x2⟩ := app_ok (ts := ts) (vs := vs) (qs := ps) g ih e1 (by (with_reducible refine rwE e3 ?_; with_reducible refine rwE e2 ?_; rewrite [List.length_map]; with_reducible rfl)) c1 (hs.ext x1) h4; refine bk_ ?_; clear bk_
        refine ⟨fd2, .go _ _ _ ?_ (r1.trans (by with_reducible refine rwE hlen ?_; exact r2)), c2, x1.trans x2⟩
        refine byG fun G_ bk_ => ?_; obtain ⟨i, hi, hwi⟩ := take_at e1
        obtain ⟨e, b, h1, _⟩ := g.fix i hd ps' wo hwi; refine bk_ ?_; clear bk_
        exact step_list (fun z => z.elim hne hok.2.1) h1
end
end
section
mutual
noncomputable def szI : It → Nat
  | .sym _ => 1
  | .list l => 1 + szL l
noncomputable def szL : List It → Nat
  | [] => 0
  | i :: r => szI i + szL r
end
noncomputable def cost (e : Ent) : Nat := match e.body with
  | none => 1
  | some b => 3 * szI b + 4
noncomputable def left (fd : List (Str × Option Int)) : Tbl → Nat
  | [] => 0
  | e :: r => (if (fd.lookup e.1).isNone then cost e.2 else 0) + left fd r
theorem left_mono {fd fd' : List (Str × Option Int)} (h : ∀ x : Str, fd.lookup x ≠ none → fd'.lookup x ≠ none) : ∀ {T : Tbl}, left fd' T ≤ left fd T
  | [] => Nat.le_refl _
  | e :: r => by
    rw [left, left]
    refine Nat.add_le_add ?_ (left_mono h)
    cases q : fd.lookup e.1 with
    | none => simp only [Option.isNone_none, if_true]; split <;> walk_at "om"
    | some v =>
      have := h e.1 (by with_reducible refine rwE q ?_; simp)
      cases q' : fd'.lookup e.1 with
      | none => exact (this q').elim
      | some _ => simp
theorem putS_keeps {α : Type} {fd : List (Str × α)} {x : Str} {o : α} : ∀ y : Str, fd.lookup y ≠ none → (putS fd x o).lookup y ≠ none := by
  intro y hy
  with_reducible refine rwE putS_at ?_
  split
  · simp
  · exact hy
theorem left_open {fd : List (Str × Option Int)} {x : Str} {o : Option Int} (hx : fd.lookup x = none) : ∀ {T : Tbl} {e : Ent}, T.lookup x = some e → left (putS fd x o) T + cost e ≤ left fd T
  | [], e, h => by injection h
  | (y, e') :: r, e, h => by
    rw [List.lookup_cons] at h
    rw [left, left]
    have hm : left (putS fd x o) r ≤ left fd r := left_mono putS_keeps
    by_cases z : x = y
    · subst z
      simp only [beq_self_eq_true] at h
      (injection h with e0; (first | subst e0 | cases e0))
      simp only [putS_at, hx, if_true, Option.isNone_none, Option.isNone_some, Bool.false_eq_true, if_false]
      walk_at "om"
    · have : (x == y) = false := by simpa using z
      rw [this] at h
      have := left_open (o := o) hx h
      have e2 : (putS fd x o).lookup y = fd.lookup y := by rw [putS_at, if_neg (fun q => z q.symm)]
      simp only [e2]
      walk_at "om"
theorem cost_pos (e : Ent) : 0 < cost e := by unfold cost; split <;> walk_at "om"
section
variable {T : Tbl} {P : Plain} {W : Told}
noncomputable def ReadNo (T : Tbl) (P : Plain) (W : Told) (m : Nat) (it : It) : Prop := ∀ (ps : List Str) (ts : List Task) (vs : List Int) (fd : List (Str × Option Int)), left fd T ≤ m → worthW W P ps it = none → Cons W fd → (∀ x : Str, fd.lookup x = some none → W.lookup x = none) → Runs T ⟨.read it ps :: ts, vs, fd⟩ none
theorem app_no (g : Good T P W) {m : Nat} (ih : ∀ i, i < m → ∀ (D : Nat) (it : It), Wf D it → ReadNo T P W i it) {x : Str} {e : Ent} {k : Nat} {ts : List Task} {vs : List Int} {fd : List (Str × Option Int)} (hx : T.lookup x = some e) (hk : k ≤ vs.length)
    (hm : left fd T ≤ m) (hW : ∀ ps wo, W.lookup x = some (ps, wo) → ps.length ≠ k) (hP : k = 0 → P.lookup x = none) (hc : Cons W fd) (hs : ∀ x : Str, fd.lookup x = some none → W.lookup x = none) : Runs T ⟨.app x k :: ts, vs, fd⟩ none := by
  have hlen : ¬ vs.length < k := by walk_at "om"
  by_cases hl : k = e.ps.length
  · subst hl
    cases hb : e.body with
    | none =>
      obtain ⟨h1, h2⟩ := g.srt x e hx hb
      rw [hP (by rw [h1]; rfl)] at h2
      injection h2
    | some b =>
      have hno : W.lookup x = none := by
        cases q : W.lookup x with
        | none => rfl
        | some pw =>
          refine byG fun G_ bk_ => ?_; obtain ⟨ps, wo⟩ := pw
          obtain ⟨i, hi, hw⟩ := take_at (r := W.length) (by with_reducible refine rwE List.take_length ?_; exact q)
          obtain ⟨e', b', h1, h2, _⟩ := g.fix i x ps wo hw
          rw [hx] at h1
          (injection h1 with e0; (first | subst e0 | cases e0)); refine bk_ ?_; clear bk_
          exact (hW ps wo q (by (with_reducible refine rwE h2 ?_; with_reducible rfl))).elim
      cases q : fd.lookup x with
      | some o =>
        cases o with
        | none => exact .fault _ (step_loop hlen hx rfl hb q)
        | some v =>
          refine byG fun G_ bk_ => ?_; obtain ⟨_, _, q2, _⟩ := hc x v q; refine bk_ ?_; clear bk_
          rw [hno] at q2; injection q2
      | none =>
        have hst := step_open (ts := ts) hlen hx rfl hb q
        have hlo := left_open (o := none) q hx
        have hcp := cost_pos e
        refine byG fun G_ bk_ => ?_; obtain ⟨⟨D, hD⟩, _⟩ := g.bod x e b hx hb; refine bk_ ?_; clear bk_
        refine .go _ _ _ hst (ih (left (putS fd x none) T) (by walk_at "om") D b hD e.ps _ _ _ (Nat.le_refl _) (g.stab x e b hx hb hno) ?_ ?_)
        · intro y v hy
          rw [putS_at] at hy
          split at hy
          · (injection hy with e0; (first | subst e0 | cases e0))
          · exact hc y v hy
        · intro y hy
          rw [putS_at] at hy
          split at hy
          · rename_i q; with_reducible refine rwE q ?_; exact hno
          · exact hs y hy
  · exact .fault _ (step_appNo hlen hx hl)
theorem putW_none {nm : Str} {ws : List Wo} (hW : EntOk W) (h : putW W nm (ws.map some) = none) : ∀ ps wo, W.lookup nm = some (ps, wo) → ps.length ≠ ws.length := by
  intro ps wo e hl
  obtain ⟨w, q⟩ := putW_full hW e hl
  rw [h] at q; injection q
theorem first_none {α β : Type} {f : α → Option β} : ∀ (l : List α), (∃ ws : List β, l.map f = ws.map some) ∨ ∃ l1 i l2 ws, l = l1 ++ i :: l2 ∧ l1.map f = (ws : List β).map some ∧ f i = none
  | [] => .inl ⟨[], rfl⟩
  | a :: r => by
    cases q : f a with
    | none => exact .inr ⟨[], a, r, [], rfl, rfl, q⟩
    | some w =>
      rcases first_none r with ⟨ws, h⟩ | ⟨l1, i, l2, ws, h1, h2, h3⟩
      · exact .inl ⟨w :: ws, by (with_reducible refine rwE List.map_cons ?_; with_reducible refine rwE List.map_cons ?_; with_reducible refine rwE q ?_; with_reducible refine rwE h ?_; with_reducible rfl)⟩
      · exact .inr ⟨a :: l1, i, l2, w :: ws, by rw [h1]; rfl, by rw [List.map_cons, List.map_cons, q, h2], h3⟩
theorem read_no (g : Good T P W) : ∀ (m D : Nat) (it : It), Wf D it → ReadNo T P W m it := by
  intro m
  induction m using Nat.strongRecOn with
  | _ m ih =>
    have sym : ∀ (D : Nat) (x : Str), Wf D (.sym x) → ReadNo T P W m (.sym x) := by
      intro D x hf ps ts vs fd hm hw hc hs
      have hok : OkW x := by cases D <;> exact hf
      rw [worthW] at hw
      by_cases hx : x ∈ ps
      · rw [if_pos hx] at hw; injection hw
      · rw [if_neg hx] at hw
        cases q : P.lookup x with
        | some i => rw [q] at hw; injection hw
        | none =>
          rw [q] at hw
          cases ht : T.lookup x with
          | none => exact .fault _ (step_symNo hx (base_plain g hok q) ht)
          | some e =>
            refine .go _ ⟨.app x 0 :: ts, vs, fd⟩ _ (step_sym hx (base_plain g hok q) ht) (app_no g ih ht (Nat.zero_le _) hm (putW_none (ws := []) g.ent hw) (fun _ => q) hc hs)
    intro D
    induction D with
    | zero =>
      intro it hf
      cases it with
      | list => exact hf.elim
      | sym x => exact sym 0 x hf
    | succ D ihD =>
      intro it hf
      cases it with
      | sym x => exact sym 0 x hf
      | list l =>
        obtain ⟨hd, l, rfl, hok, hne, _, hl⟩ := hf
        intro ps ts vs fd hm hw hc hs
        rw [worthW, worthsW_map] at hw
        have hshut : Shut W W.length fd := fun x hx => by with_reducible refine rwE List.take_length ?_; exact hs x hx
        cases ht : T.lookup hd with
        | none => exact .fault _ (step_listNo (fun z => z.elim hne hok.2.1) ht)
        | some e =>
          refine .go _ ⟨l.map (.read · ps) ++ .app hd l.length :: ts, vs, fd⟩ _ (step_list (fun z => z.elim hne hok.2.1) ht) ?_
          have hread : ∀ i ∈ l, ReadOk T P W W.length ps i := fun i hi => read_ok g W.length D i (hl i hi) ps
          rcases first_none (f := worthW W P ps) l with ⟨ws, hws⟩ | ⟨l1, i, l2, ws, rfl, hws, hi⟩
          · obtain ⟨fd1, r1, c1, x1⟩ := reads_ok hread ws (.app hd l.length :: ts) vs fd (by with_reducible refine rwE List.take_length ?_; exact hws) hc hshut
            have hlen : l.length = ws.length := by have := congrArg List.length hws; simpa using this
            rw [hws] at hw
            refine r1.runs (app_no g ih ht (by simp [hlen]) (Nat.le_trans (left_mono x1.2) hm) (by with_reducible refine rwE hlen ?_; exact putW_none g.ent hw) (fun h0 => ?_) c1 (fun x hx => hs x ((x1.1 x).mp hx)))
            exact (hne (List.length_eq_zero_iff.mp h0)).elim
          · (with_reducible refine rwE List.map_append ?_; rewrite [List.append_assoc])
            obtain ⟨fd1, r1, c1, x1⟩ := reads_ok (fun j hj => hread j (List.mem_append_left _ hj)) ws ((i :: l2).map (.read · ps) ++ .app hd (l1 ++ i :: l2).length :: ts) vs fd (by with_reducible refine rwE List.take_length ?_; exact hws) hc hshut
            refine r1.runs ?_
            (with_reducible refine rwE List.map_cons ?_; with_reducible refine rwE List.cons_append ?_)
            exact ihD i (hl i (by simp)) ps _ _ fd1 (Nat.le_trans (left_mono x1.2) hm) hi c1 (fun x hx => hs x ((x1.1 x).mp hx))
noncomputable def intOf : Wo → Int
  | .par _ => -1
  | .so i => i
/-- what the reader answers -/
theorem reader_ok (g : Good T P W) {D : Nat} {it : It} (hf : Wf D it) : Runs T ⟨[.read it []], [], []⟩ ((worthW W P [] it).map intOf) := by
  have hc : Cons W [] := fun x v h => by injection h
  cases q : worthW W P [] it with
  | none => exact read_no g (left [] T) D it hf [] [] [] [] (Nat.le_refl _) q hc (fun x h => by injection h)
  | some w =>
    obtain ⟨fd', r, _, _⟩ := read_ok g W.length D it hf [] w [] [] [] (by with_reducible refine rwE List.take_length ?_; exact q) hc (fun x h => by injection h)
    have hw := worth_fit g.ent g.nn hf q
    refine r.runs ?_
    cases w with
    | par y => cases hw
    | so i => exact .done i [] fd'
/-- due of the empty list of parameters is a sort -/
theorem due_so (g : Good T P W) {D : Nat} {it : It} (hf : Wf D it) {w : Wo} (q : worthW W P [] it = some w) : ∃ i, w = .so i := by
  have hw := worth_fit g.ent g.nn hf q
  cases w with
  | par y => cases hw
  | so i => exact ⟨i, rfl⟩
/-- the weight of the machine's state -/
noncomputable def wtT : Task → Nat
  | .read it _ => 3 * szI it
  | .app _ _ => 2
  | .keep _ _ => 2
noncomputable def wtTs (ts : List Task) : Nat := (ts.map wtT).sum
noncomputable def wtS (T : Tbl) (s : St) : Nat := wtTs s.ts + s.vs.length + s.fd.length + left s.fd T
theorem szI_pos : ∀ (i : It), 0 < szI i
  | .sym _ => Nat.one_pos
  | .list l => by rw [szI]; walk_at "om"
theorem wtT_pos (t : Task) : 0 < wtT t := by
  cases t with
  | read it ps => have := szI_pos it; simp only [wtT]; walk_at "om"
  | app => simp only [wtT]; walk_at "om"
  | keep => simp only [wtT]; walk_at "om"
theorem wt_reads {ps : List Str} {ts : List Task} : ∀ {l : List It}, wtTs (l.map (.read · ps) ++ ts) = 3 * szL l + wtTs ts
  | [] => by simp [szL]
  | i :: l => by
    have := wt_reads (ps := ps) (ts := ts) (l := l)
    have e : wtTs (.read i ps :: (l.map (.read · ps) ++ ts)) = wtT (.read i ps) + wtTs (l.map (.read · ps) ++ ts) := by simp [wtTs]
    (with_reducible refine rwE List.map_cons ?_; with_reducible refine rwE List.cons_append ?_; with_reducible refine rwE e ?_; with_reducible refine rwE this ?_; rewrite [szL, wtT])
    walk_at "om"
theorem putS_len {α : Type} {fd : List (Str × α)} {x : Str} {o : α} : (putS fd x o).length ≤ fd.length + 1 := by
  unfold putS
  split
  · rw [List.length_map]; walk_at "om"
  · rw [List.length_append]; exact Nat.le_refl _
/-- the steps that go on -/
inductive Goes (T : Tbl) : St → St → Prop
  | num (x : Str) (ps : List Str) (ts : List Task) (v : Int) (vs : List Int) (fd : List (Str × Option Int)) : Goes T ⟨.read (.sym x) ps :: ts, vs, fd⟩ ⟨ts, v :: vs, fd⟩
  | sym (x : Str) (ps : List Str) (ts : List Task) (vs : List Int) (fd : List (Str × Option Int)) (e : Ent) (he : T.lookup x = some e) : Goes T ⟨.read (.sym x) ps :: ts, vs, fd⟩ ⟨.app x 0 :: ts, vs, fd⟩
  | list (x : Str) (r : List It) (ps : List Str) (ts : List Task) (vs : List Int) (fd : List (Str × Option Int)) (e : Ent) (he : T.lookup x = some e) : Goes T ⟨.read (.list (.sym x :: r)) ps :: ts, vs, fd⟩ ⟨r.map (.read · ps) ++ .app x r.length :: ts, vs, fd⟩
  | has (x : Str) (k : Nat) (ts : List Task) (u : Int) (vs : List Int) (fd : List (Str × Option Int)) (hk : k ≤ vs.length) : Goes T ⟨.app x k :: ts, vs, fd⟩ ⟨ts, u :: vs.drop k, fd⟩
  | opens (x : Str) (e : Ent) (b : It) (ts : List Task) (vs : List Int) (fd : List (Str × Option Int)) (hk : e.ps.length ≤ vs.length) (he : T.lookup x = some e) (hb : e.body = some b) (hf : fd.lookup x = none) :
      Goes T ⟨.app x e.ps.length :: ts, vs, fd⟩ ⟨.read b e.ps :: .keep x (vs.take e.ps.length).reverse :: ts, vs.drop e.ps.length, putS fd x none⟩
  | keep (x : Str) (as : List Int) (ts : List Task) (u v : Int) (vs : List Int) (fd : List (Str × Option Int)) : Goes T ⟨.keep x as :: ts, v :: vs, fd⟩ ⟨ts, u :: vs, putS fd x (some v)⟩
theorem Out.goE {s t : St} {G : St → Prop} (h : Out.go s = .go t) (g : G s) : G t := by (injection h with e0; (first | subst e0 | cases e0)); exact g
theorem Out.badE {t : St} {G : Prop} (h : Out.bad = .go t) : G := nomatch h
theorem Out.faultE {t : St} {G : Prop} (h : Out.fault = .go t) : G := nomatch h
theorem step_goes {s t : St} (h : step T s = .go t) : Goes T s t := by
  obtain ⟨ts, vs, fd⟩ := s
  cases ts with
  | nil => exact Out.badE h
  | cons t0 ts =>
    cases t0 with
    | read it ps =>
      cases it with
      | sym x =>
        have h : (if x ∈ ps then Out.go ⟨ts, (-1 - (posS x ps : Int)) :: vs, fd⟩ else match baseS x with
          | some i => .go ⟨ts, i :: vs, fd⟩
          | none => match T.lookup x with
            | none => .fault
            | some _ => .go ⟨.app x 0 :: ts, vs, fd⟩) = .go t := h
        by_cases hx : x ∈ ps
        · rw [if_pos hx] at h; exact Out.goE h (.num ..)
        · rw [if_neg hx] at h
          generalize baseS x = q at h
          cases q with
          | some i => exact Out.goE h (.num ..)
          | none =>
            generalize he : T.lookup x = q at h
            cases q with
            | none => exact Out.faultE h
            | some e => exact Out.goE h (.sym _ _ _ _ _ e he)
      | list l =>
        cases l with
        | nil => exact Out.badE h
        | cons i r =>
          cases i with
          | list => exact Out.badE h
          | sym x =>
            have h : (if r = [] ∨ x = "_" then Out.bad else match T.lookup x with
              | none => .fault
              | some _ => .go ⟨r.map (.read · ps) ++ .app x r.length :: ts, vs, fd⟩) = .go t := h
            by_cases hx : r = [] ∨ x = "_"
            · rw [if_pos hx] at h; exact Out.badE h
            · rw [if_neg hx] at h
              generalize he : T.lookup x = q at h
              cases q with
              | none => exact Out.faultE h
              | some e => exact Out.goE h (.list _ _ _ _ _ _ e he)
    | app x k =>
      have h : (if vs.length < k then Out.bad else match T.lookup x with
        | none => .bad
        | some e => if k ≠ e.ps.length then .fault else match e.body with
          | none => .go ⟨ts, e.so :: vs.drop k, fd⟩
          | some b => match fd.lookup x with
            | none => .go ⟨.read b e.ps :: .keep x (vs.take k).reverse :: ts, vs.drop k, putS fd x none⟩
            | some none => .fault
            | some (some v) => match putIn v (vs.take k).reverse with
              | none => .bad
              | some u => .go ⟨ts, u :: vs.drop k, fd⟩) = .go t := h
      by_cases hk : vs.length < k
      · rw [if_pos hk] at h; exact Out.badE h
      · rw [if_neg hk] at h
        have hk := Nat.le_of_not_lt hk
        generalize he : T.lookup x = q at h
        cases q with
        | none => exact Out.badE h
        | some e =>
          by_cases hp : k = e.ps.length
          · subst hp
            dsimp only at h
            rw [if_neg (fun z => z rfl)] at h
            generalize hb : e.body = q at h
            cases q with
            | none => exact Out.goE h (.has _ _ _ _ _ _ hk)
            | some b =>
              generalize hf : fd.lookup x = q at h
              cases q with
              | none => exact Out.goE h (.opens _ e b _ _ _ hk he hb hf)
              | some o =>
                cases o with
                | none => exact Out.faultE h
                | some v =>
                  dsimp only at h
                  generalize putIn v _ = q at h
                  cases q with
                  | none => exact Out.badE h
                  | some u => exact Out.goE h (.has _ _ _ _ _ _ hk)
          · dsimp only at h
            rw [if_pos hp] at h; exact Out.faultE h
    | keep x as =>
      cases vs with
      | nil => exact Out.badE h
      | cons v vs =>
        have h : (match putIn v as with
          | none => Out.bad
          | some u => .go ⟨ts, u :: vs, putS fd x (some v)⟩) = .go t := h
        generalize putIn v as = q at h
        cases q with
        | none => exact Out.badE h
        | some u => exact Out.goE h (.keep ..)
theorem step_wt {s t : St} (h : step T s = .go t) : wtS T t < wtS T s := by
  have hcons : ∀ t0 ts, wtTs (t0 :: ts) = wtT t0 + wtTs ts := fun t0 ts => by simp [wtTs]
  cases step_goes h with
  | num => simp only [wtS, hcons, wtT, szI, List.length_cons]; walk_at "om"
  | sym => simp only [wtS, hcons, wtT, szI]; walk_at "om"
  | list => simp only [wtS, hcons, wt_reads, wtT, szI, szL]; walk_at "om"
  | has => simp only [wtS, hcons, wtT, List.length_cons, List.length_drop]; walk_at "om"
  | opens x e b ts vs fd hk he hb hf =>
    have hlo := left_open (o := none) hf he
    have hl := putS_len (fd := fd) (x := x) (o := none)
    have hcost : cost e = 3 * szI b + 4 := by unfold cost; (with_reducible refine rwE hb ?_; with_reducible rfl)
    simp only [wtS, hcons, wtT, List.length_drop]; walk_at "om"
  | keep x as ts u v vs fd =>
    have hl := putS_len (fd := fd) (x := x) (o := some v)
    have hm : left (putS fd x (some v)) T ≤ left fd T := left_mono putS_keeps
    simp only [wtS, hcons, wtT, List.length_cons]; walk_at "om"
theorem wt_len {s : St} : s.ts.length + s.vs.length + s.fd.length ≤ wtS T s := by
  have : ∀ ts : List Task, ts.length ≤ wtTs ts := by
    intro ts
    induction ts with
    | nil => exact Nat.le_refl _
    | cons t r ih =>
      have := wtT_pos t
      have : wtTs (t :: r) = wtT t + wtTs r := by simp [wtTs]
      with_reducible refine rwE List.length_cons ?_; walk_at "om"
  have := this s.ts
  unfold wtS; walk_at "om"
end
end
/-- the rounds' answer: each entry's worth told from those ahead of it -/
noncomputable def FixR (P : Plain) (rows : List Row) (T : Told) : Prop := (T.map (·.1)).Nodup ∧ ∀ (i : Nat) (x : Str) (ps : List Str) (wo : Wo), T[i]? = some (x, ps, wo) → ∃ r ∈ rows, r.nm = x ∧ r.ps = ps ∧ worthW (T.take i) P ps r.it = some wo
noncomputable def StabR (P : Plain) (rows : List Row) (T : Told) : Prop := ∀ r ∈ rows, T.lookup r.nm = none → worthW T P r.ps r.it = none
theorem nodup_len {α : Type} [DecidableEq α] : ∀ {l m : List α}, l.Nodup → (∀ x ∈ l, x ∈ m) → l.length ≤ m.length
  | [], _, _, _ => Nat.zero_le _
  | a :: l, m, nd, h => by
    have ha := h a (List.mem_cons_self ..)
    obtain ⟨h1, h2⟩ := List.nodup_cons.mp nd
    have := nodup_len (m := m.erase a) h2 (fun x hx => (List.mem_erase_of_ne (fun e => h1 (by with_reducible refine rwE (Eq.symm e) ?_; exact hx))).mpr (h x (List.mem_cons_of_mem _ hx)))
    rw [List.length_erase_of_mem ha] at this
    have := List.length_pos_of_mem ha
    exact Nat.add_le_of_le_sub this (by assumption)
theorem FixR.len {P : Plain} {rows : List Row} {T : Told} (h : FixR P rows T) : T.length ≤ rows.length := by
  have := nodup_len (m := rows.map (·.nm)) h.1 (fun x hx => by
    obtain ⟨e, he, rfl⟩ := List.mem_map.mp hx
    obtain ⟨i, hi, q⟩ := List.getElem_of_mem he
    obtain ⟨r, hr, h1, _⟩ := h.2 i e.1 e.2.1 e.2.2 (by with_reducible refine rwE (Eq.symm q) ?_; exact List.getElem?_eq_getElem hi)
    exact List.mem_map.mpr ⟨r, hr, h1⟩)
  simpa using this
theorem FixR.nil {P : Plain} {rows : List Row} : FixR P rows [] := ⟨List.nodup_nil, fun i x ps wo h => by simp at h⟩
theorem lookup_keys {β : Type} {T : List (Str × β)} {x : Str} (h : T.lookup x = none) : x ∉ T.map (·.1) := by
  intro hx
  obtain ⟨e, he, rfl⟩ := List.mem_map.mp hx
  rw [List.lookup_eq_none_iff] at h
  have := h e he
  simp at this
theorem FixR.snoc {P : Plain} {rows : List Row} {T : Told} (h : FixR P rows T) {r : Row} (hr : r ∈ rows) (hn : T.lookup r.nm = none) {wo : Wo} (hw : worthW T P r.ps r.it = some wo) : FixR P rows (T ++ [(r.nm, r.ps, wo)]) := by
  constructor
  · (with_reducible refine rwE List.map_append ?_; rewrite [List.nodup_append])
    refine ⟨h.1, by simp, fun a ha b hb e => ?_⟩
    have : b = r.nm := by simpa using hb
    exact lookup_keys hn (by (with_reducible refine rwE (Eq.symm this) ?_; with_reducible refine rwE (Eq.symm e) ?_); exact ha)
  · intro i x ps wo' hi
    by_cases q : i < T.length
    · rw [List.getElem?_append_left q] at hi
      obtain ⟨r', h1, h2, h3, h4⟩ := h.2 i x ps wo' hi
      refine ⟨r', h1, h2, h3, ?_⟩
      with_reducible refine rwE (List.take_append_of_le_length (Nat.le_of_lt q)) ?_
      exact h4
    · rw [List.getElem?_append_right (Nat.le_of_not_lt q)] at hi
      have : i - T.length = 0 := by
        have := (List.getElem?_eq_some_iff.mp hi).1
        simp at this; walk_at "om"
      rw [this] at hi
      simp at hi
      obtain ⟨rfl, rfl, rfl⟩ := hi
      refine ⟨r, hr, rfl, rfl, ?_⟩
      have e : i = T.length := ar_fst q this
      (with_reducible refine rwE e ?_; rewrite [List.take_left'])
      · exact hw
      · rfl
theorem FixR.small {P : Plain} {rows : List Row} {T : Told} (h : FixR P rows T) {k : Nat} (hr : ∀ r ∈ rows, r.ps.length ≤ k) : ∀ e ∈ T, e.2.1.length ≤ k := by
  intro e he
  refine byG fun G_ bk_ => ?_; obtain ⟨i, hi, q⟩ := List.getElem_of_mem he
  obtain ⟨r, h1, _, h2, _⟩ := h.2 i e.1 e.2.1 e.2.2 (by with_reducible refine rwE (Eq.symm q) ?_; exact List.getElem?_eq_getElem hi); refine bk_ ?_; clear bk_
  with_reducible refine rwE (Eq.symm h2) ?_; exact hr r h1
theorem putD_new {es : List (Str × AV)} {k : Str} {a : AV} (h : es.lookup k = none) : putD es k a = es ++ [(k, a)] := by
  unfold putD
  rw [if_neg]
  intro q
  obtain ⟨e, he, hk⟩ := List.any_eq_true.mp q
  exact lookup_keys h (List.mem_map.mpr ⟨e, he, by simpa using hk⟩)
theorem woAV_none {o : Option Wo} : (woAV o).isNone = some o.isNone := by
  cases o with
  | none => rfl
  | some wo => cases wo <;> rfl
inductive RInv (P : Plain) (rows : List Row) (told plain rowsA : Addr) (k : Nat) (M : Mem) (l : Loc) : Prop
  | mk (T : Told) (m : Nat) (hM : M = [(told, .dict (toldAV T)), (plain, .dict (plainAV P)), (rowsA, .list (rows.map rowAV))]) (hF : FixR P rows T) (hm : m ≤ T.length + 1) (hk : k = rows.length + 2 - m) (hst : m = T.length + 1 → StabR P rows T)
      (l1 : l "told" = some (.obj told)) (l2 : l "rows" = some (.obj rowsA)) (l3 : l "plain" = some (.obj plain)) (l4 : l "many" = some (.int ((m : Int) - 1))) : RInv P rows told plain rowsA k M l
inductive RInv2 (P : Plain) (rows : List Row) (told plain rowsA : Addr) (N : Nat) (i : Nat) (M : Mem) (l : Loc) : Prop
  | mk (T' : Told) (hM : M = [(told, .dict (toldAV T')), (plain, .dict (plainAV P))]) (hF : FixR P rows T') (hle : N ≤ T'.length)
      (hsn : T'.length = N → ∀ (j : Nat) (r : Row), j < i → rows[j]? = some r → T'.lookup r.nm = none → worthW T' P r.ps r.it = none) (l1 : l "told" = some (.obj told)) (l2 : l "rows" = some (.obj rowsA)) (l3 : l "plain" = some (.obj plain)) (l4 : l "many" = some (.int (N : Int))) : RInv2 P rows told plain rowsA N i M l
set_option maxHeartbeats 4000000 in
theorem rounds_ok {w : World} {mean : ExcName → Option Value} {mg mb : Str → Option Value} {f : Fx} {n : Nat} {loc : Loc} {EQ : Mem → Loc → Prop} {rowsA plain : Addr} {P : Plain} {rows : List Row} (hrows : ∀ r ∈ rows, Wf 3 r.it ∧ r.ps.length ≤ 10) (hrl : rows.length ≤ 100) {Q : AV → Mem → Loc → Prop} (hQ : ∀ told T, FixR P rows T → StabR P rows T → Q (.obj told) [(told, .dict (toldAV T)), (plain, .dict (plainAV P)), (rowsA, .list (rows.map rowAV))] loc) :
    Ts (WW w mean mg mb) f (n + 6) (VR (WW w mean mg mb)) (fun vs => call (.ref 949) vs) [.obj rowsA, .obj plain] [(plain, .dict (plainAV P)), (rowsA, .list (rows.map rowAV))] loc
      Q EQ := by
  refine Ts.drop ?_
  walk_at "def"
  repeat' walk_at "st"
  refine' sx_UnpackSwap (names := ["told", "many"]) ?_ ?hco ?hl ?hs ?hw
  case hw => intro _; exact rfl
  case hco => exact rfl
  case hl => exact rfl
  case hs => intro _; exact rfl
  repeat' walk_at "st"
  intro told
  repeat' walk_at "st"
  refine ⟨rfl, ?_⟩
  refine' ss_cons ?_
  refine sx_While rfl (RInv P rows told plain rowsA) (rows.length + 2) ⟨[], 0, rfl, .nil, Nat.zero_le _, rfl, (fun h => nomatch h), rfl, rfl, rfl, rfl⟩ ?_
  rintro k M l ⟨T, m, rfl, hF, hm, rfl, hst, l1, l2, l3, l4⟩
  have hTl := hF.len
  have hTA : (toldAV T).length = T.length := List.length_map ..
  repeat' walk_at "st"
  refine ⟨fun hc => ?_, fun hc => ?_⟩
  · have hlt : m < T.length + 1 := by
      have := of_decide_eq_true hc
      rw [hTA] at this; walk_at "om"
    repeat' walk_at "st"
    with_reducible refine rwE hTA ?_
    refine ⟨rows.map rowAV, [(told, .dict (toldAV T)), (plain, .dict (plainAV P))], [(rowsA, .list (rows.map rowAV))], RInv2 P rows told plain rowsA T.length,
      it_list (by walk_at "pk"), ⟨T, rfl, hF, Nat.le_refl _, fun _ j r h => absurd h (Nat.not_lt_zero _), l1, l2, l3, rfl⟩, ?_, ?_⟩
    · rintro i a M l ha ⟨T', rfl, hF', hle, hsn, l1, l2, l3, l4⟩
      have hi : i < rows.length := by have := (List.getElem?_eq_some_iff.mp ha).1; simpa using this
      have hgi : rows[i]? = some rows[i] := List.getElem?_eq_getElem hi
      have hai : rowAV rows[i] = a := by rw [List.getElem?_map, hgi] at ha; exact Option.some.inj ha
      subst hai
      obtain ⟨hwf, hps⟩ := hrows _ (List.getElem_mem hi)
      have hmem := List.getElem_mem hi
      generalize rows[i] = r at hwf hps hmem hgi ⊢
      have e : rowAV r = .tup [.str r.nm, .tup (r.ps.map .str), itAV r.it] := rfl
      with_reducible refine rwE e ?_
      have hTl' := hF'.len
      have hTA' : (toldAV T').length = T'.length := List.length_map ..
      have hlk : (toldAV T').lookup r.nm = (T'.lookup r.nm).map fun e => .tup [.tup (e.1.map .str), woAV (some e.2)] := toldAV_at
      repeat' walk_at "st"
      have same : ∀ {l' : Loc}, (T'.lookup r.nm = none → worthW T' P r.ps r.it = none) → l' "told" = some (.obj told) → l' "rows" = some (.obj rowsA) → l' "plain" = some (.obj plain) → l' "many" = some (.int ((T.length : Nat) : Int)) → RInv2 P rows told plain rowsA T.length (i + 1) [(told, .dict (toldAV T')), (plain, .dict (plainAV P))] l' := by
        intro l' h a b c d
        refine ⟨T', rfl, hF', hle, fun e j r' hj hr' hn => ?_, a, b, c, d⟩
        rcases Nat.lt_succ_iff_lt_or_eq.mp hj with q | rfl
        · exact hsn e j r' q hr' hn
        · rw [hgi] at hr'; (injection hr' with e0; (first | subst e0 | cases e0)); exact h hn
      refine ⟨fun hc1 => ?_, fun hc1 => ?_⟩
      · have hin : (T'.lookup r.nm).isSome = true := by rw [hlk] at hc1; simpa using hc1
        repeat' walk_at "st"
        refine ⟨fun h => (by injection h), fun _ => ?_⟩
        repeat' walk_at "st"
        exact same (fun h => by rw [h] at hin; injection hin) l1 l2 l3 l4
      · have hin : T'.lookup r.nm = none := by
          rw [hlk] at hc1
          cases q : T'.lookup r.nm with
          | none => rfl
          | some _ => rw [q] at hc1; injection hc1
        repeat' walk_at "st"
        refine Ts.useC (by walk_at "pks") (Ts.det (worth_ok (n := n) (D := 3) hwf (hF'.small (fun r hr => Nat.le_trans (hrows r hr).2 (by decide))) (Nat.le_trans hps (by decide))) ?_)
        repeat' walk_at "st"
        refine t_isNotNone woAV_none ?_
        cases ho : worthW T' P r.ps r.it with
        | none =>
          refine ⟨_, rfl, fun h => (by injection h), fun _ => ?_⟩
          repeat' walk_at "st"
          exact same (fun _ => ho) l1 l2 l3 l4
        | some wo =>
          refine ⟨_, rfl, fun _ => ?_, fun h => (by injection h)⟩
          repeat' walk_at "st"
          have hput : putD (toldAV T') r.nm (.tup [.tup (r.ps.map .str), woAV (some wo)]) = toldAV (T' ++ [(r.nm, r.ps, wo)]) := by
            rw [putD_new (by (with_reducible refine rwE hlk ?_; with_reducible refine rwE hin ?_); rfl)]
            unfold toldAV
            rw [List.map_append]; rfl
          refine t_setDict (by rw [hput]; walk_at "rp") (by rw [hTA']; unfold sizeLine; walk_at "om") ?_
          repeat' walk_at "st"
          refine ⟨_, rfl, hF'.snoc hmem hin ho, by with_reducible refine rwE List.length_append ?_; walk_at "om", fun e => ?_, l1, l2, l3, l4⟩
          rw [List.length_append] at e
          have : [(r.nm, r.ps, wo)].length = 1 := rfl
          walk_at "om"
    · rintro M l ⟨T', rfl, hF', hle, hsn, l1, l2, l3, l4⟩
      refine ss_nil ?_
      refine ⟨rows.length + 2 - (T.length + 1), Nat.sub_lt_sub_left (Nat.lt_of_lt_of_le hlt (Nat.le_succ_of_le (Nat.succ_le_succ hTl))) hlt, T', T.length + 1, rfl, hF', by walk_at "om", rfl, fun h => ?_, l1, l2, l3, by with_reducible refine rwE l4 ?_; simp⟩
      intro r hr hn
      obtain ⟨j, hj, rfl⟩ := List.getElem_of_mem hr
      rw [List.length_map] at hsn
      exact hsn (by walk_at "om") j _ hj (List.getElem?_eq_getElem hj) hn
  · have hlt : m = T.length + 1 := by
      have := of_decide_eq_false hc
      rw [hTA] at this; walk_at "om"
    repeat' walk_at "st"
    exact ⟨_, List.Sublist.refl _, hQ told T hF (hst hlt)⟩
noncomputable def entAV (e : Ent) : AV := .finst 649 [("sort", .int e.so), ("params", .tup (e.ps.map .str)), ("body", match e.body with
  | none => .none
  | some b => itAV b)]
noncomputable def sortsAV (T : Tbl) : List (Str × AV) := T.map fun e => (e.1, entAV e.2)
noncomputable def symAV (bk : AV) (so fu br sc le : Addr) : AV := .finst 782 [("bank", bk), ("sorts", .obj so), ("functions", .obj fu), ("brought", .obj br), ("scopes", .obj sc), ("lets", .obj le), ("numeral_sort", .int 1)]
noncomputable def rdAV (bk sy : AV) : AV := .finst 885 [("bank", bk), ("symbols", sy)]
theorem sortsAV_at {T : Tbl} {x : Str} : (sortsAV T).lookup x = (T.lookup x).map entAV := lookup_map (g := entAV)
section
variable {w : World} {mean : ExcName → Option Value} {mg mb : Str → Option Value} {f : Fx} {n : Nat} {loc : Loc} {EQ : Mem → Loc → Prop}
set_option maxHeartbeats 4000000 in
theorem listin_ok {l : List It} {what : AV} : Ts (WW w mean mg mb) f (n + 1) (VR (WW w mean mg mb)) (fun vs => call (.ref 807) vs) [itAV (.list l), what] [] loc (fun b M' l' => l' = loc ∧ b = .tup (l.map itAV) ∧ M' = []) EQ := by
  have e : itAV (.list l) = .tup [.str "list", .tup (l.map itAV)] := by (rewrite [itAV]; with_reducible refine rwE itsAV_map ?_; with_reducible rfl)
  with_reducible refine rwE e ?_
  walk_at "def"
  repeat' walk_at "st"
  refine ⟨fun h => absurd h (by decide), fun _ => ?_⟩
  repeat' walk_at "st"
set_option maxHeartbeats 4000000 in
theorem nameof_ok {x : Str} {what : AV} : Ts (WW w mean mg mb) f (n + 1) (VR (WW w mean mg mb)) (fun vs => call (.ref 793) vs) [itAV (.sym x), what] [] loc (fun b M' l' => l' = loc ∧ b = .str x ∧ M' = []) EQ := by
  have e : itAV (.sym x) = .tup [.str "sym", .str x] := rfl
  with_reducible refine rwE e ?_
  walk_at "def"
  repeat' walk_at "st"
  refine ⟨fun h => absurd h (by decide), fun _ => ?_⟩
  repeat' walk_at "st"
set_option maxHeartbeats 4000000 in
theorem putin_ok {v u : Int} {as : List Int} (h : putIn v as = some u) (ha : as.length ≤ 1000000) : Ts (WW w mean mg mb) f (n + 1) (VR (WW w mean mg mb)) (fun vs => call (.ref 814) vs) [.int v, .flist (as.map .int)] [] loc (fun b M' l' => l' = loc ∧ b = .int u ∧ M' = []) EQ := by
  walk_at "def"
  repeat' walk_at "st"
  unfold putIn at h
  refine ⟨fun hc => ?_, fun hc => ?_⟩
  · have : 0 ≤ v := of_decide_eq_true hc
    rw [if_pos this] at h
    (injection h with e0; (first | subst e0 | cases e0))
    repeat' walk_at "st"
  · have hv : ¬ 0 ≤ v := of_decide_eq_false hc
    rw [if_neg hv] at h
    have hlt := (List.getElem?_eq_some_iff.mp h).1
    repeat' walk_at "st"
    refine t_subList (c := .int u) (.frozen _) (by walk_at "om") (by (with_reducible refine rwE (List.getElem?_map) ?_; with_reducible refine rwE h ?_); rfl) (Int.lt_of_le_of_lt (Int.self_le_toNat _) (Int.lt_of_lt_of_le (Int.ofNat_lt.mpr hlt) (Int.le_trans (Int.ofNat_le.mpr ha) (by decide)))) (fun _ _ _ => by with_unfolding_all rfl) ?_
    repeat' walk_at "st"
set_option maxHeartbeats 4000000 in
theorem entry_ok {T : Tbl} {x : Str} {bk : AV} {so fu br sc le : Addr} (hx : x.length ≤ 100) : Ts (WW w mean mg mb) f (n + 2) (VR (WW w mean mg mb)) (fun vs => call (.ref 868) vs) [rdAV bk (symAV bk so fu br sc le), .str x] [(so, .dict (sortsAV T))] loc
    (fun b M' l' => l' = loc ∧ (∃ e, T.lookup x = some e ∧ b = entAV e) ∧ M' = [(so, .dict (sortsAV T))]) (fun M' l' => l' = loc ∧ T.lookup x = none ∧ M' = [(so, .dict (sortsAV T))]) := by
  unfold rdAV symAV
  walk_at "def"
  repeat' walk_at "st"
  have e : (sortsAV T).lookup x = (T.lookup x).map entAV := sortsAV_at
  cases q : T.lookup x with
  | none =>
    (with_reducible refine rwE e ?_; with_reducible refine rwE q ?_)
    refine ⟨fun _ => ?_, fun h => (by injection h)⟩
    repeat' walk_at "st"
    refine ⟨.inl ⟨_, rfl, hx⟩, ?_⟩
    repeat' walk_at "st"
  | some en =>
    (with_reducible refine rwE e ?_; with_reducible refine rwE q ?_)
    refine ⟨fun h => (by injection h), fun _ => ?_⟩
    repeat' walk_at "st"
    refine t_subDict (c := entAV en) noMods (.obj so _ (by walk_at "mem")) (by (with_reducible refine rwE e ?_; with_reducible refine rwE q ?_); rfl) (fun _ _ => by with_unfolding_all rfl) ?_
    repeat' walk_at "st"
    exact ⟨rfl, ⟨en, q, rfl⟩, rfl⟩
end
noncomputable def knownD (ps : List Str) : List (Str × AV) := ps.zipIdx.map fun p => (p.1, .int (-1 - (p.2 : Int)))
noncomputable def ent (T : Tbl) (x : Str) : Ent := (T.lookup x).getD ⟨[], 0, none⟩
noncomputable def taskAV (T : Tbl) : Task → AV
  | .read it ps => .tup [.str "read", itAV it, .fdict (knownD ps)]
  | .app x k => .tup [.str "apply", .tup [.str x, entAV (ent T x)], .int (k : Nat)]
  | .keep x as => .tup [.str "keep", .str x, .flist (as.map .int)]
noncomputable def waAV (T : Tbl) (ts : List Task) : List AV := (ts.map (taskAV T)).reverse
noncomputable def vaAV (vs : List Int) : List AV := (vs.map .int).reverse
theorem waAV_cons {T : Tbl} {t : Task} {ts : List Task} : waAV T (t :: ts) = waAV T ts ++ [taskAV T t] := by (rewrite [waAV]; with_reducible refine rwE List.map_cons ?_; with_reducible refine rwE List.reverse_cons ?_); rfl
theorem vaAV_cons {v : Int} {vs : List Int} : vaAV (v :: vs) = vaAV vs ++ [.int v] := by (rewrite [vaAV]; with_reducible refine rwE List.map_cons ?_; with_reducible refine rwE List.reverse_cons ?_); rfl
theorem waAV_len {T : Tbl} {ts : List Task} : (waAV T ts).length = ts.length := by simp [waAV]
theorem vaAV_len {vs : List Int} : (vaAV vs).length = vs.length := by simp [vaAV]
theorem zip_at {x : Str} : ∀ {ps : List Str} {k : Nat}, ((ps.zipIdx k).map fun p => (p.1, AV.int (-1 - (p.2 : Int)))).lookup x = if x ∈ ps then some (.int (-1 - ((posS x ps + k : Nat) : Int))) else none
  | [], k => by rfl
  | y :: r, k => by
    (with_reducible refine rwE List.zipIdx_cons ?_; with_reducible refine rwE List.map_cons ?_; with_reducible refine rwE List.lookup_cons ?_; with_reducible refine rwE zip_at ?_; rewrite [posS])
    by_cases e : x = y
    · subst e; simp
    · have : (x == y) = false := by simpa using e
      have e' : ¬ y = x := fun q => e q.symm
      simp only [this, List.mem_cons, e, false_or, if_neg e']
      split
      · congr 2; walk_at "om"
      · rfl
theorem knownD_at {x : Str} {ps : List Str} : (knownD ps).lookup x = if x ∈ ps then some (.int (-1 - (posS x ps : Int))) else none := zip_at
theorem ent_at {T : Tbl} {x : Str} {e : Ent} (h : T.lookup x = some e) : ent T x = e := by (rewrite [ent]; with_reducible refine rwE h ?_); rfl
section
variable {w : World} {mean : ExcName → Option Value} {mg mb : Str → Option Value} {f : Fx} {n : Nat} {loc : Loc} {EQ : Mem → Loc → Prop}
set_option maxHeartbeats 8000000 in
theorem readname_ok {T : Tbl} {x : Str} {bk : AV} {so fu br sc le wa va : Addr} {ps : List Str} {ts : List Task} {vs : List Int} {fd : List (Str × Option Int)} (hx : x.length ≤ 100) (ht : ts.length ≤ 1000000) (hv : vs.length ≤ 1000000) :
    Ts (WW w mean mg mb) f (n + 3) (VR (WW w mean mg mb)) (fun vs => call (.ref 861) vs) [rdAV bk (symAV bk so fu br sc le), .str x, .fdict (knownD ps), .obj wa, .obj va] [(so, .dict (sortsAV T)), (wa, .list (waAV T ts)), (va, .list (vaAV vs))] loc
    (fun b M' l' => l' = loc ∧ ∃ s', step T ⟨.read (.sym x) ps :: ts, vs, fd⟩ = .go s' ∧ s'.fd = fd ∧ M' = [(so, .dict (sortsAV T)), (wa, .list (waAV T s'.ts)), (va, .list (vaAV s'.vs))])
    (fun M' l' => l' = loc ∧ step T ⟨.read (.sym x) ps :: ts, vs, fd⟩ = .fault ∧ M' = [(so, .dict (sortsAV T)), (wa, .list (waAV T ts)), (va, .list (vaAV vs))]) := by
  unfold rdAV symAV
  have hk : (knownD ps).lookup x = if x ∈ ps then some (.int (-1 - (posS x ps : Int))) else none := knownD_at
  have hwl : (waAV T ts).length ≤ 1000000 := by with_reducible refine rwE waAV_len ?_; exact ht
  have hvl : (vaAV vs).length ≤ 1000000 := by with_reducible refine rwE vaAV_len ?_; exact hv
  walk_at "def"
  repeat' walk_at "st"
  with_reducible refine rwE hk ?_
  by_cases hin : x ∈ ps
  · rw [if_pos hin] at hk
    with_reducible refine rwE (if_pos hin) ?_
    refine ⟨fun _ => ?_, fun h => (by injection h)⟩
    repeat' walk_at "st"
    exact ⟨rfl, ⟨ts, (-1 - (posS x ps : Int)) :: vs, fd⟩, by rw [step]; simp only [if_pos hin], rfl, by (with_reducible refine rwE vaAV_cons ?_; with_reducible rfl)⟩
  · rw [if_neg hin] at hk
    with_reducible refine rwE (if_neg hin) ?_
    refine ⟨fun h => (by injection h), fun _ => ?_⟩
    repeat' walk_at "st"
    refine ⟨fun h1 => ?_, fun h1 => ?_⟩
    · have e1 : x = "Bool" := of_decide_eq_true h1
      have hb : baseS x = some 0 := by rw [e1]; rfl
      repeat' walk_at "st"
      exact ⟨rfl, ⟨ts, 0 :: vs, fd⟩, by rw [step]; simp only [if_neg hin, hb], rfl, by (with_reducible refine rwE vaAV_cons ?_; with_reducible rfl)⟩
    have e1 : ¬ x = "Bool" := of_decide_eq_false h1
    repeat' walk_at "st"
    refine ⟨fun h2 => ?_, fun h2 => ?_⟩
    · have e2 : x = "Int" := of_decide_eq_true h2
      have hb : baseS x = some 1 := by rw [e2]; rfl
      repeat' walk_at "st"
      exact ⟨rfl, ⟨ts, 1 :: vs, fd⟩, by rw [step]; simp only [if_neg hin, hb], rfl, by (with_reducible refine rwE vaAV_cons ?_; with_reducible rfl)⟩
    have e2 : ¬ x = "Int" := of_decide_eq_false h2
    repeat' walk_at "st"
    refine ⟨fun h3 => ?_, fun h3 => ?_⟩
    · have e3 : x = "Real" := of_decide_eq_true h3
      have hb : baseS x = some 2 := by rw [e3]; rfl
      repeat' walk_at "st"
      exact ⟨rfl, ⟨ts, 2 :: vs, fd⟩, by rw [step]; simp only [if_neg hin, hb], rfl, by (with_reducible refine rwE vaAV_cons ?_; with_reducible rfl)⟩
    have e3 : ¬ x = "Real" := of_decide_eq_false h3
    have hb : baseS x = none := by (rewrite [baseS]; with_reducible refine rwE (if_neg e1) ?_; with_reducible refine rwE (if_neg e2) ?_; with_reducible refine rwE (if_neg e3) ?_; with_reducible rfl)
    repeat' walk_at "st"
    refine Ts.use (entry_ok (n := n) hx) (by walk_at "pks") ?_ ?_
    · rintro b M' l' ⟨rfl, ⟨e, he, rfl⟩, rfl⟩
      repeat' walk_at "st"
      exact ⟨rfl, ⟨.app x 0 :: ts, vs, fd⟩, by rw [step]; simp only [if_neg hin, hb, he], rfl, by (with_reducible refine rwE waAV_cons ?_; rewrite [taskAV]; with_reducible refine rwE (ent_at he) ?_); rfl⟩
    · rintro M' l' ⟨rfl, he, rfl⟩
      refine ⟨rfl, ?_, rfl⟩
      rw [step]; simp only [if_neg hin, hb, he]
end
section
variable {w : World} {mean : ExcName → Option Value} {mg mb : Str → Option Value} {f : Fx} {n : Nat} {loc : Loc} {EQ : Mem → Loc → Prop}
noncomputable def RdOk (w : World) (mean : ExcName → Option Value) (mg mb : Str → Option Value) (T : Tbl) (it : It) : Prop := ∀ {f : Fx} {n : Nat} {loc : Loc} {bk : AV} {so fu br sc le wa va : Addr} {ps : List Str} {ts : List Task} {vs : List Int} {fd : List (Str × Option Int)}, ts.length ≤ 900000 → vs.length ≤ 900000 →
    Ts (WW w mean mg mb) f (n + 4) (VR (WW w mean mg mb)) (fun vs => call (.ref 854) vs) [rdAV bk (symAV bk so fu br sc le), itAV it, .fdict (knownD ps), .obj wa, .obj va] [(so, .dict (sortsAV T)), (wa, .list (waAV T ts)), (va, .list (vaAV vs))] loc
    (fun b M' l' => l' = loc ∧ ∃ s', step T ⟨.read it ps :: ts, vs, fd⟩ = .go s' ∧ s'.fd = fd ∧ M' = [(so, .dict (sortsAV T)), (wa, .list (waAV T s'.ts)), (va, .list (vaAV s'.vs))])
    (fun M' l' => l' = loc ∧ step T ⟨.read it ps :: ts, vs, fd⟩ = .fault ∧ M' = [(so, .dict (sortsAV T))])
theorem waAV_reads {T : Tbl} {ps : List Str} {r : List It} {ts : List Task} : waAV T (r.map (.read · ps) ++ ts) = waAV T ts ++ r.reverse.map fun p => taskAV T (.read p ps) := by
  unfold waAV
  (with_reducible refine rwE List.map_append ?_; with_reducible refine rwE List.reverse_append ?_; with_reducible refine rwE List.map_map ?_; with_reducible refine rwE List.map_reverse ?_)
  rfl
set_option maxHeartbeats 8000000 in
theorem rd_sym {T : Tbl} {x : Str} (hx : x.length ≤ 100) : RdOk w mean mg mb T (.sym x) := by
  intro f n loc bk so fu br sc le wa va ps ts vs fd ht hv
  have e : itAV (.sym x) = .tup [.str "sym", .str x] := rfl
  with_reducible refine rwE e ?_
  unfold rdAV symAV
  refine Ts.drop ?_
  walk_at "def"
  repeat' walk_at "st"
  refine ⟨fun _ => ?_, fun h => absurd h (by decide)⟩
  repeat' walk_at "st"
  refine Ts.use (readname_ok (T := T) (ts := ts) (vs := vs) (fd := fd) hx (by walk_at "om") (by walk_at "om")) (by walk_at "pks") ?_ ?_
  · rintro b M' l' ⟨rfl, s', h1, h2, rfl⟩
    repeat' walk_at "st"
    exact ⟨_, List.Sublist.refl _, rfl, s', h1, h2, rfl⟩
  · rintro M' l' ⟨rfl, h1, rfl⟩
    exact ⟨_, .cons_cons _ (List.nil_sublist _), rfl, h1, rfl⟩
set_option maxHeartbeats 8000000 in
theorem rd_list {T : Tbl} {h : Str} {r : List It} (hh : OkW h) (hr : r ≠ []) (hr2 : r.length ≤ 10) : RdOk w mean mg mb T (.list (.sym h :: r)) := by
  intro f n loc bk so fu br sc le wa va ps ts vs fd ht hv
  have e0 : itAV (.list (.sym h :: r)) = .tup [.str "list", .tup (itAV (.sym h) :: r.map itAV)] := by
    refine (?_ : AV.tup [.str "list", .tup (itAV (.sym h) :: itsAV r)] = _)
    (with_reducible refine rwE itsAV_map ?_; with_reducible rfl)
  have e1 : itAV (.sym h) = .tup [.str "sym", .str h] := rfl
  have hlen : (itAV (.sym h) :: r.map itAV).length = r.length + 1 := by simp
  unfold rdAV symAV
  have hwl : (waAV T ts).length ≤ 900000 := by with_reducible refine rwE waAV_len ?_; exact ht
  have hst : step T ⟨.read (.list (.sym h :: r)) ps :: ts, vs, fd⟩ = match T.lookup h with
      | none => .fault
      | some _ => .go ⟨r.map (.read · ps) ++ .app h r.length :: ts, vs, fd⟩ := by
    rw [step]; simp only [hr, hh.2.1, or_self, if_false]
    all_goals (cases T.lookup h <;> rfl)
  with_reducible refine rwE e0 ?_
  refine Ts.drop ?_
  walk_at "def"
  repeat' walk_at "st"
  refine ⟨fun h => absurd h (by decide), fun _ => ?_⟩
  repeat' walk_at "st"
  with_reducible refine rwE (Eq.symm e0) ?_
  refine Ts.useC (by walk_at "pks") (Ts.det (listin_ok) ?_)
  repeat' walk_at "st"
  (with_reducible refine rwE List.map_cons ?_; with_reducible refine rwE hlen ?_; with_reducible refine rwE e1 ?_)
  have hno : eqs [.str "sym", .str h] [.str "sym", .str "_"] = some false := by
    refine (?_ : some (decide (("sym" : Str) = "sym") && (decide (h = ("_" : Str)) && true)) = _)
    rw [decide_eq_false hh.2.1]
    rfl
  refine and_join (fun X _ => tr_det false ?_ X) ?_
  · repeat' walk_at "st"
    refine t_eqTup hno ?_
    repeat' walk_at "st"
    exact ⟨fun h => (by injection h), fun _ => ⟨rfl, rfl, rfl⟩⟩
  refine ⟨fun h => (by injection h), fun _ => ?_⟩
  repeat' walk_at "st"
  have hlen2 : (AV.tup [AV.str "sym", AV.str h] :: r.map itAV).length = r.length + 1 := by simp
  have hpos : 0 < r.length := List.length_pos_iff.mpr hr
  refine ⟨fun hc => ?_, fun _ => ?_⟩
  · exfalso
    have := of_decide_eq_true hc
    rw [hlen2] at this; walk_at "om"
  repeat' walk_at "st"
  refine t_eqTup hno ?_
  repeat' walk_at "st"
  refine ⟨fun h => (by injection h), fun _ => ?_⟩
  repeat' walk_at "st"
  refine ⟨fun h => (by injection h), fun _ => ?_⟩
  repeat' walk_at "st"
  refine Ts.useC (by walk_at "pks") (Ts.det (nameof_ok (x := h)) ?_)
  repeat' walk_at "st"
  refine Ts.use (entry_ok (T := T) hh.2.2) (by walk_at "pks") ?_ ?_
  · rintro b M' l' ⟨rfl, ⟨e, he, rfl⟩, rfl⟩
    repeat' walk_at "st"
    refine t_subTupSlice (lo := some 1) (hi := none) (i := 1) (c := r.length) (by simp [sizeLine]; walk_at "om") (.int 1) .none (by with_reducible refine rwE hlen2 ?_; exact from_one) (by simp; walk_at "om") (by simp) (fun _ _ => ⟨_, by with_unfolding_all rfl⟩) ?_
    have hd : ((AV.tup [AV.str "sym", AV.str h] :: r.map itAV).drop 1).take r.length = r.map itAV := by
      refine (?_ : (r.map itAV).take r.length = _)
      exact List.take_of_length_le (by simp)
    with_reducible refine rwE hd ?_
    have hrl : (r.map itAV).length ≤ sizeLine := by rw [List.length_map]; unfold sizeLine; walk_at "om"
    have hwa : waAV T ts ++ [AV.tup [AV.str "apply", AV.tup [AV.str h, entAV e], AV.int (((AV.tup [AV.str "sym", AV.str h] :: r.map itAV).length : Int) - 1)]] = waAV T (.app h r.length :: ts) := by
      (with_reducible refine rwE waAV_cons ?_; rewrite [taskAV]; with_reducible refine rwE (ent_at he) ?_; with_reducible refine rwE hlen2 ?_)
      have : (((r.length + 1 : Nat) : Int) - 1) = ((r.length : Nat) : Int) := by walk_at "om"
      (with_reducible refine rwE this ?_; with_reducible rfl)
    with_reducible refine rwE hwa ?_
    have hwl2 : (waAV T (.app h r.length :: ts)).length ≤ 900001 := by (with_reducible refine rwE waAV_len ?_; with_reducible refine rwE List.length_cons ?_); walk_at "om"
    repeat' walk_at "st"
    refine t_reversed hrl fun A => ?_
    generalize hL : (((Loc.of _ _).set _ _).set _ _) = L0
    refine ⟨(r.map itAV).reverse, [(so, .dict (sortsAV T)), (wa, .list (waAV T (.app h r.length :: ts))), (va, .list (vaAV vs))], [], fun i M l => M = [(so, .dict (sortsAV T)), (wa, .list (waAV T (.app h r.length :: ts) ++ (r.reverse.take i).map (fun p => taskAV T (.read p ps)))), (va, .list (vaAV vs))] ∧ l "waiting" = some (.obj wa) ∧ l "known" = some (.fdict (knownD ps)),
      it_rev hrl (by walk_at "pk"), ⟨by simp, by rw [← hL]; rfl, by rw [← hL]; rfl⟩, ?_, ?_⟩
    · rintro i a M l ha ⟨rfl, l1, l2⟩
      have hi : i < r.length := by have := (List.getElem?_eq_some_iff.mp ha).1; simpa using this
      have hi2 : i < r.reverse.length := by with_reducible refine rwE List.length_reverse ?_; exact hi
      have hgi : r.reverse[i]? = some r.reverse[i] := List.getElem?_eq_getElem hi2
      have hai : itAV r.reverse[i] = a := by rw [← List.map_reverse, List.getElem?_map, hgi] at ha; exact Option.some.inj ha
      subst hai
      have hwl3 : (waAV T (.app h r.length :: ts) ++ (r.reverse.take i).map (fun p => taskAV T (.read p ps))).length ≤ 1000000 := by
        (with_reducible refine rwE List.length_append ?_; rewrite [List.length_map]; with_reducible refine rwE List.length_take ?_); exact Nat.le_trans (Nat.add_le_add hwl2 (Nat.le_trans (Nat.min_le_left ..) (Nat.le_trans (Nat.le_of_lt hi) hr2))) (by decide)
      repeat' walk_at "st"
      refine ⟨?_, l1, l2⟩
      (with_reducible refine rwE List.take_add_one ?_; with_reducible refine rwE hgi ?_; with_reducible refine rwE List.map_append ?_; rewrite [← List.append_assoc])
      rfl
    · rintro M l ⟨rfl, l1, l2⟩
      repeat' walk_at "st"
      refine ⟨_, List.Sublist.refl _, rfl, ⟨r.map (.read · ps) ++ .app h r.length :: ts, vs, fd⟩, by (with_reducible refine rwE hst ?_; with_reducible refine rwE he ?_; with_reducible rfl), rfl, ?_⟩
      (with_reducible refine rwE waAV_reads ?_; rewrite [List.append_nil]; with_reducible refine rwE List.length_reverse ?_; rewrite [List.length_map]; with_reducible refine rwE (List.take_of_length_le (by simp)) ?_; with_reducible rfl)

  · rintro M' l' ⟨rfl, he, rfl⟩
    exact ⟨_, .cons_cons _ (List.nil_sublist _), rfl, by (with_reducible refine rwE hst ?_; with_reducible refine rwE he ?_; with_reducible rfl), rfl⟩
end
noncomputable def fdAV (fd : List (Str × Option Int)) : List (Str × AV) := fd.map fun e => (e.1, match e.2 with
  | none => .none
  | some v => .int v)
theorem fdAV_at {fd : List (Str × Option Int)} {x : Str} : (fdAV fd).lookup x = (fd.lookup x).map fun o => match o with
  | none => .none
  | some v => .int v := lookup_map (g := fun o : Option Int => match o with
  | none => AV.none
  | some v => .int v)
theorem putD_map {α : Type} {g : α → AV} {es : List (Str × α)} {k : Str} {a : α} : putD (es.map fun e => (e.1, g e.2)) k (g a) = (putS es k a).map fun e => (e.1, g e.2) := by
  unfold putD putS
  have e : (es.map fun e => (e.1, g e.2)).any (fun kv => decide (kv.1 = k)) = es.any (fun kv => decide (kv.1 = k)) := by rw [List.any_map]; rfl
  with_reducible refine rwE e ?_
  split
  · (with_reducible refine rwE List.map_map ?_; with_reducible refine rwE List.map_map ?_)
    refine List.map_congr_left fun p _ => ?_
    simp only [Function.comp]
    split <;> rfl
  · rw [List.map_append]; rfl
theorem fdAV_put {fd : List (Str × Option Int)} {k : Str} {o : Option Int} : putD (fdAV fd) k (match o with
  | none => .none
  | some v => .int v) = fdAV (putS fd k o) := putD_map (g := fun o : Option Int => match o with
  | none => AV.none
  | some v => .int v)
theorem fdAV_len {fd : List (Str × Option Int)} : (fdAV fd).length = fd.length := List.length_map ..
theorem knownD_snoc {ps : List Str} {x : Str} : knownD (ps ++ [x]) = knownD ps ++ [(x, .int (-1 - (ps.length : Int)))] := by
  unfold knownD
  (with_reducible refine rwE List.zipIdx_append ?_; with_reducible refine rwE List.map_append ?_)
  simp
noncomputable def openS (nm : Str) (e : Ent) (as : List Int) (ts : List Task) (vs : List Int) (fd : List (Str × Option Int)) : Out := if as.length ≠ e.ps.length then .fault else match e.body with
  | none => .go ⟨ts, e.so :: vs, fd⟩
  | some b => match fd.lookup nm with
    | none => .go ⟨.read b e.ps :: .keep nm as :: ts, vs, putS fd nm none⟩
    | some none => .fault
    | some (some v) => match putIn v as with
      | none => .bad
      | some u => .go ⟨ts, u :: vs, fd⟩
section
variable {w : World} {mean : ExcName → Option Value} {mg mb : Str → Option Value} {f : Fx} {n : Nat} {loc : Loc} {EQ : Mem → Loc → Prop}
noncomputable abbrev OpenOk (w : World) (mean : ExcName → Option Value) (mg mb : Str → Option Value) (f : Fx) (n : Nat) (loc : Loc) (bk sy : AV) (nm : Str) (e : Ent) (as : List Int) (ts : List Task) (vs : List Int) (fd : List (Str × Option Int)) (T : Tbl) (aA wa va fo : Addr) : Prop :=
    Ts (WW w mean mg mb) f (n + 2) (VR (WW w mean mg mb)) (fun vs => call (.ref 875) vs) [rdAV bk sy, .str nm, entAV e, .obj aA, .obj wa, .obj va, .obj fo] [(aA, .list (as.map .int)), (wa, .list (waAV T ts)), (va, .list (vaAV vs)), (fo, .dict (fdAV fd))] loc
    (fun b M' l' => l' = loc ∧ ∃ s', openS nm e as ts vs fd = .go s' ∧ M' = [(wa, .list (waAV T s'.ts)), (va, .list (vaAV s'.vs)), (fo, .dict (fdAV s'.fd))])
    (fun M' l' => l' = loc ∧ openS nm e as ts vs fd = .fault ∧ M' = [])
set_option maxHeartbeats 8000000 in
theorem open_sort {bk sy : AV} {nm : Str} {ps : List Str} {i : Int} {as : List Int} {ts : List Task} {vs : List Int} {fd : List (Str × Option Int)} {T : Tbl} {aA wa va fo : Addr} (hn : nm.length ≤ 100) (hp : ps.length ≤ 10) (ha : as.length ≤ 10) (hv : vs.length ≤ 900000) : OpenOk w mean mg mb f n loc bk sy nm ⟨ps, i, none⟩ as ts vs fd T aA wa va fo := by
  have e0 : entAV ⟨ps, i, none⟩ = .finst 649 [("sort", .int i), ("params", .tup (ps.map .str)), ("body", .none)] := rfl
  have hvl : (vaAV vs).length ≤ 900000 := by with_reducible refine rwE vaAV_len ?_; exact hv
  have h1 : (as.map AV.int).length = as.length := List.length_map ..
  have h2 : (ps.map AV.str).length = ps.length := List.length_map ..
  unfold OpenOk
  with_reducible refine rwE e0 ?_
  refine Ts.drop ?_
  walk_at "def"
  refine T0.frzL (y := "args") (x := aA) (as := as.map .int) rfl (by walk_at "pk") ?_
  repeat' walk_at "st"
  (with_reducible refine rwE h1 ?_; with_reducible refine rwE h2 ?_)
  refine ⟨fun hc => ?_, fun hc => ?_⟩
  · have hne : as.length ≠ ps.length := by
      intro q; rw [q] at hc; simp at hc
    repeat' walk_at "st"
    refine ⟨.inl ⟨_, rfl, hn⟩, ?_⟩
    repeat' walk_at "st"
    refine ⟨.inr ⟨_, rfl, by walk_at "om", by with_reducible refine rwE h2 ?_; walk_at "om", by with_reducible refine rwE h2 ?_; walk_at "om"⟩, ?_⟩
    repeat' walk_at "st"
    refine ⟨.inr ⟨_, rfl, by walk_at "om", by with_reducible refine rwE h1 ?_; walk_at "om", by with_reducible refine rwE h1 ?_; walk_at "om"⟩, ?_⟩
    repeat' walk_at "st"
    exact ⟨[], List.nil_sublist _, rfl, by unfold openS; exact if_pos hne, rfl⟩
  · have heq : as.length = ps.length := by
      have q : (as.length : Int) = (ps.length : Int) := by simpa using hc
      walk_at "om"
    repeat' walk_at "st"
    refine ⟨fun _ => ?_, fun h => (by injection h)⟩
    repeat' walk_at "st"
    refine ⟨_, List.Sublist.refl _, rfl, ⟨ts, i :: vs, fd⟩, ?_, by (with_reducible refine rwE vaAV_cons ?_; with_reducible rfl)⟩
    unfold openS
    simp only [heq, ne_eq, not_true_eq_false, if_false]
set_option maxHeartbeats 8000000 in
theorem open_def {bk sy : AV} {nm : Str} {ps : List Str} {i : Int} {it : It} {as : List Int} {ts : List Task} {vs : List Int} {fd : List (Str × Option Int)} {T : Tbl} {aA wa va fo : Addr} (hn : nm.length ≤ 100) (hp : ps.length ≤ 10) (hnd : ps.Nodup) (ha : as.length ≤ 10) (ht : ts.length ≤ 900000) (hv : vs.length ≤ 900000) (hf : fd.length ≤ 900000)
    (hb : openS nm ⟨ps, i, some it⟩ as ts vs fd ≠ .bad) : OpenOk w mean mg mb f n loc bk sy nm ⟨ps, i, some it⟩ as ts vs fd T aA wa va fo := by
  have e0 : entAV ⟨ps, i, some it⟩ = .finst 649 [("sort", .int i), ("params", .tup (ps.map .str)), ("body", itAV it)] := rfl
  have hvl : (vaAV vs).length ≤ 900000 := by with_reducible refine rwE vaAV_len ?_; exact hv
  have hwl : (waAV T ts).length ≤ 900000 := by with_reducible refine rwE waAV_len ?_; exact ht
  have hfl : (fdAV fd).length ≤ 900000 := by with_reducible refine rwE fdAV_len ?_; exact hf
  have h1 : (as.map AV.int).length = as.length := List.length_map ..
  have h2 : (ps.map AV.str).length = ps.length := List.length_map ..
  have hno : (itAV it).isNone = some false := by cases it <;> rfl
  have hha : (itAV it).handed = true := by cases it <;> rfl
  unfold OpenOk
  with_reducible refine rwE e0 ?_
  refine Ts.drop ?_
  walk_at "def"
  refine T0.frzL (y := "args") (x := aA) (as := as.map .int) rfl (by walk_at "pk") ?_
  repeat' walk_at "st"
  (with_reducible refine rwE h1 ?_; with_reducible refine rwE h2 ?_)
  refine ⟨fun hc => ?_, fun hc => ?_⟩
  · have hne : as.length ≠ ps.length := by
      intro q; rw [q] at hc; simp at hc
    repeat' walk_at "st"
    refine ⟨.inl ⟨_, rfl, hn⟩, ?_⟩
    repeat' walk_at "st"
    refine ⟨.inr ⟨_, rfl, by walk_at "om", by with_reducible refine rwE h2 ?_; walk_at "om", by with_reducible refine rwE h2 ?_; walk_at "om"⟩, ?_⟩
    repeat' walk_at "st"
    refine ⟨.inr ⟨_, rfl, by walk_at "om", by with_reducible refine rwE h1 ?_; walk_at "om", by with_reducible refine rwE h1 ?_; walk_at "om"⟩, ?_⟩
    repeat' walk_at "st"
    exact ⟨[], List.nil_sublist _, rfl, by unfold openS; exact if_pos hne, rfl⟩
  · have heq : as.length = ps.length := by
      have q : (as.length : Int) = (ps.length : Int) := by simpa using hc
      walk_at "om"
    have hop : openS nm ⟨ps, i, some it⟩ as ts vs fd = match fd.lookup nm with
      | none => .go ⟨.read it ps :: .keep nm as :: ts, vs, putS fd nm none⟩
      | some none => .fault
      | some (some v) => match putIn v as with
        | none => .bad
        | some u => .go ⟨ts, u :: vs, fd⟩ := by
      unfold openS
      simp only [heq, ne_eq, not_true_eq_false, if_false]
    repeat' walk_at "st"
    refine t_getAttr (by walk_at "mk") (by walk_at "mk") (by walk_at "mk") (by walk_at "mk") rfl hha ?_
    repeat' walk_at "st"
    refine t_isNone hno ?_
    refine ⟨_, rfl, fun h => (by injection h), fun _ => ?_⟩
    repeat' walk_at "st"
    with_reducible refine rwE fdAV_at ?_
    cases q : fd.lookup nm with
    | none =>
      rw [q] at hop
      refine ⟨fun _ => ?_, fun h => (by injection h)⟩
      repeat' walk_at "st"
      intro kn
      have hkp : ∀ i, i ≤ ps.length → (knownD (ps.take i)).length ≤ 10 := fun i hi => by simp [knownD]; walk_at "om"
      repeat' walk_at "st"
      refine t_enumerate fun ex ey => ?_
      generalize hL : (Loc.set _ _ _) = L0
      refine ⟨ex, ey, ps.map .str, [(kn, .dict []), (wa, .list (waAV T ts)), (va, .list (vaAV vs)), (fo, .dict (fdAV fd))], fun j M l => M = [(kn, .dict (knownD (ps.take j))), (wa, .list (waAV T ts)), (va, .list (vaAV vs)), (fo, .dict (fdAV fd))] ∧ l "known" = some (.obj kn) ∧ l "args" = some (.flist (as.map .int)) ∧
          l "waiting" = some (.obj wa) ∧ l "found" = some (.obj fo) ∧ l "name" = some (.str nm) ∧ l "entry" = some (.finst 649 [("sort", .int i), ("params", .tup (ps.map .str)), ("body", itAV it)]), rfl, by walk_at "pks", ⟨rfl, by rw [← hL]; rfl, by rw [← hL]; rfl, by rw [← hL]; rfl, by rw [← hL]; rfl, by rw [← hL]; rfl, by rw [← hL]; rfl⟩, ?_, ?_⟩
      · rintro q a M l hga ⟨rfl, l1, l2, l3, l4, l5, l6⟩
        have hi : q < ps.length := by have := (List.getElem?_eq_some_iff.mp hga).1; simpa using this
        have hgi : ps[q]? = some ps[q] := List.getElem?_eq_getElem hi
        have hai : AV.str ps[q] = a := by rw [List.getElem?_map, hgi] at hga; exact Option.some.inj hga
        subst hai
        have hnew : (knownD (ps.take q)).lookup ps[q] = none := by
          (with_reducible refine rwE knownD_at ?_; rewrite [if_neg]; with_reducible rfl)
          intro hm
          obtain ⟨j, hj, e⟩ := List.getElem_of_mem hm
          rw [List.length_take] at hj
          rw [List.getElem_take] at e
          have := (List.getElem_inj hnd).mp e
          walk_at "om"
        have hput : putD (knownD (ps.take q)) ps[q] (.int (-1 - (q : Int))) = knownD (ps.take (q + 1)) := by
          (with_reducible refine rwE (putD_new hnew) ?_; with_reducible refine rwE List.take_add_one ?_; with_reducible refine rwE hgi ?_)
          refine (?_ : _ = knownD (ps.take q ++ [ps[q]]))
          (with_reducible refine rwE knownD_snoc ?_; with_reducible refine rwE List.length_take ?_; with_reducible refine rwE (Nat.min_eq_left (Nat.le_of_lt hi)) ?_; with_reducible rfl)
        have hkl := hkp q (Nat.le_of_lt hi)
        repeat' walk_at "st"
        refine t_setDict (by with_reducible refine rwE hput ?_; walk_at "rp") (by unfold sizeLine; walk_at "om") ?_
        repeat' walk_at "st"
        exact ⟨rfl, l1, l2, l3, l4, l5, l6⟩
      · rintro M l ⟨rfl, l1, l2, l3, l4, l5, l6⟩
        have hkf : (ps.map AV.str).length = ps.length := List.length_map ..
        (with_reducible refine rwE hkf ?_; with_reducible refine rwE List.take_length ?_)
        refine T0.frzD (y := "known") (x := kn) l1 (by walk_at "pk") ?_
        repeat' walk_at "st"
        have hfp : putD (fdAV fd) nm .none = fdAV (putS fd nm none) := fdAV_put (o := none)
        refine t_setDict (by with_reducible refine rwE hfp ?_; walk_at "rp") (by unfold sizeLine; walk_at "om") ?_
        repeat' walk_at "st"
        have hwl2 : (waAV T ts ++ [AV.tup [AV.str "keep", AV.str nm, AV.flist (as.map .int)]]).length ≤ 900001 := by with_reducible refine rwE List.length_append ?_; simp; walk_at "om"
        refine t_getAttr (by walk_at "mk") (by walk_at "mk") (by walk_at "mk") (by walk_at "mk") rfl hha ?_
        repeat' walk_at "st"
        refine ⟨_, List.Sublist.refl _, rfl, ⟨.read it ps :: .keep nm as :: ts, vs, putS fd nm none⟩, hop, ?_⟩
        (with_reducible refine rwE waAV_cons ?_; with_reducible refine rwE waAV_cons ?_)
        rfl
    | some o =>
      refine ⟨fun h => (by injection h), fun _ => ?_⟩
      repeat' walk_at "st"
      cases o with
      | none =>
        rw [q] at hop
        refine t_subDict (c := .none) noMods (.obj fo _ (by walk_at "mem")) (by (with_reducible refine rwE fdAV_at ?_; with_reducible refine rwE q ?_); rfl) (fun _ _ => by with_unfolding_all rfl) ?_
        repeat' walk_at "st"
        refine ⟨fun _ => ?_, fun h => (by injection h)⟩
        repeat' walk_at "st"
        refine ⟨.inl ⟨_, rfl, hn⟩, ?_⟩
        repeat' walk_at "st"
        exact ⟨[], List.nil_sublist _, rfl, hop, rfl⟩
      | some v =>
        rw [q] at hop
        refine t_subDict (c := .int v) noMods (.obj fo _ (by walk_at "mem")) (by (with_reducible refine rwE fdAV_at ?_; with_reducible refine rwE q ?_); rfl) (fun _ _ => by with_unfolding_all rfl) ?_
        repeat' walk_at "st"
        refine ⟨fun h => (by injection h), fun _ => ?_⟩
        repeat' walk_at "st"
        refine t_subDict (c := .int v) noMods (.obj fo _ (by walk_at "mem")) (by (with_reducible refine rwE fdAV_at ?_; with_reducible refine rwE q ?_); rfl) (fun _ _ => by with_unfolding_all rfl) ?_
        repeat' walk_at "st"
        have hop2 : openS nm ⟨ps, i, some it⟩ as ts vs fd = (match putIn v as with
          | none => .bad
          | some u => .go ⟨ts, u :: vs, fd⟩) := hop
        cases hpi : putIn v as with
        | none => rw [hpi] at hop2; exact (hb hop2).elim
        | some u =>
          rw [hpi] at hop2
          refine Ts.useC (by walk_at "pks") (Ts.det (putin_ok hpi (by walk_at "om")) ?_)
          repeat' walk_at "st"
          exact ⟨_, List.Sublist.refl _, rfl, ⟨ts, u :: vs, fd⟩, hop2, by (with_reducible refine rwE vaAV_cons ?_; with_reducible rfl)⟩
end
noncomputable def TaskOk (T : Tbl) : Task → Prop
  | .read it ps => ∃ D, Wf D it
  | .app x k => (∃ e, T.lookup x = some e) ∧ x.length ≤ 100 ∧ k ≤ 10
  | .keep x as => as.length ≤ 10
structure TblOk (T : Tbl) : Prop where
  ps : ∀ x e, T.lookup x = some e → e.ps.length ≤ 10 ∧ e.ps.Nodup
  body : ∀ x e b, T.lookup x = some e → e.body = some b → ∃ D, Wf D b
theorem step_task {T : Tbl} (hT : TblOk T) {s t : St} (ok : ∀ x ∈ s.ts, TaskOk T x) (h : step T s = .go t) : ∀ x ∈ t.ts, TaskOk T x := by
  have more : ∀ {y : Task} {ts : List Task}, TaskOk T y → (∀ x ∈ ts, TaskOk T x) → ∀ x ∈ y :: ts, TaskOk T x := fun h1 h2 x hx => (List.mem_cons.mp hx).elim (fun e => e ▸ h1) (h2 x)
  have two : ∀ {t0 : Task} {ts : List Task}, (∀ x ∈ t0 :: ts, TaskOk T x) → TaskOk T t0 ∧ ∀ x ∈ ts, TaskOk T x := fun h => ⟨h _ (List.mem_cons_self ..), fun x hx => h x (List.mem_cons_of_mem _ hx)⟩
  cases step_goes h with
  | num => exact (two ok).2
  | sym x ps ts vs fd e he =>
    refine byG fun G_ bk_ => ?_; obtain ⟨⟨D, hD⟩, okr⟩ := two ok; refine bk_ ?_; clear bk_
    have : OkW x := by cases D <;> exact hD
    exact more (y := .app x 0) ⟨⟨e, he⟩, this.2.2, Nat.zero_le _⟩ okr
  | list x r ps ts vs fd e he =>
    refine byG fun G_ bk_ => ?_; obtain ⟨⟨D, hD⟩, okr⟩ := two ok; refine bk_ ?_; clear bk_
    cases D with
    | zero => exact hD.elim
    | succ D =>
      refine byG fun G_ bk_ => ?_; obtain ⟨_, _, e1, hok, _, hrl, hr⟩ := hD; refine bk_ ?_; clear bk_
      cases e1
      intro y hy
      rcases List.mem_append.mp hy with hy | hy
      · refine byG fun G_ bk_ => ?_; obtain ⟨i, hi, rfl⟩ := List.mem_map.mp hy; refine bk_ ?_; clear bk_
        exact ⟨D, hr i hi⟩
      · exact more (y := .app _ _) ⟨⟨e, he⟩, hok.2.2, hrl⟩ okr y hy
  | has => exact (two ok).2
  | opens x e b ts vs fd hk he hb hf =>
    refine more (hT.body x e b he hb) (more ?_ (two ok).2)
    refine (?_ : ((vs.take e.ps.length).reverse).length ≤ 10)
    (with_reducible refine rwE List.length_reverse ?_; with_reducible refine rwE List.length_take ?_)
    exact Nat.le_trans (Nat.min_le_left _ _) (two ok).1.2.2
  | keep => exact (two ok).2
theorem step_app {T : Tbl} {x : Str} {k : Nat} {e : Ent} {ts : List Task} {vs : List Int} {fd : List (Str × Option Int)} (he : T.lookup x = some e) (hk : k ≤ vs.length) : step T ⟨.app x k :: ts, vs, fd⟩ = openS x e (vs.take k).reverse ts (vs.drop k) fd := by
  have hl : (vs.take k).reverse.length = k := by (with_reducible refine rwE List.length_reverse ?_; with_reducible refine rwE List.length_take ?_); walk_at "om"
  rw [step, openS]
  simp only [Nat.not_lt.mpr hk, if_false, he, hl]
  all_goals
    split
    · rfl
    · cases e.body with
      | none => rfl
      | some b =>
        simp only
        cases fd.lookup x with
        | none => rfl
        | some o => cases o <;> rfl
section
variable {w : World} {mean : ExcName → Option Value} {mg mb : Str → Option Value} {f : Fx} {n : Nat} {loc : Loc} {EQ : Mem → Loc → Prop}
theorem rd_ok {T : Tbl} : ∀ {D : Nat} {it : It}, Wf D it → RdOk w mean mg mb T it
  | D, .sym x, h => rd_sym (by have : OkW x := by cases D <;> exact h
                               exact this.2.2)
  | 0, .list l, h => h.elim
  | D + 1, .list l, h => by
    refine byG fun G_ bk_ => ?_; obtain ⟨hd, r, rfl, h1, h2, h3, _⟩ := h; refine bk_ ?_; clear bk_
    exact rd_list h1 h2 h3
theorem runs_step {T : Tbl} {s : St} {r : Option Int} (h : Runs T s r) (hne : s.ts ≠ []) : (step T s = .fault ∧ r = none) ∨ ∃ s', step T s = .go s' ∧ Runs T s' r := by
  cases h with
  | done => exact (hne rfl).elim
  | fault _ h => exact .inl ⟨h, rfl⟩
  | go _ s' _ h h' => exact .inr ⟨s', h, h'⟩
inductive WInv (T : Tbl) (r : Option Int) (R : AV) (so wa va fo : Addr) (k : Nat) (M : Mem) (l : Loc) : Prop
  | mk (s : St) (hM : M = [(fo, .dict (fdAV s.fd)), (so, .dict (sortsAV T)), (wa, .list (waAV T s.ts)), (va, .list (vaAV s.vs))]) (run : Runs T s r) (task : ∀ x ∈ s.ts, TaskOk T x) (wt : wtS T s ≤ 800000) (hk : k = wtS T s)
      (l1 : l "self" = some R) (l2 : l "waiting" = some (.obj wa)) (l3 : l "values" = some (.obj va)) (l4 : l "found" = some (.obj fo)) : WInv T r R so wa va fo k M l
set_option maxHeartbeats 8000000 in
theorem walked_ok {T : Tbl} (hT : TblOk T) {bk : AV} {so fu br sc le wa va : Addr} {s0 : St} {r : Option Int} (hr : Runs T s0 r) (hok : ∀ x ∈ s0.ts, TaskOk T x) (hw : wtS T s0 ≤ 800000) (hfd : s0.fd = []) :
    Ts (WW w mean mg mb) f (n + 5) (VR (WW w mean mg mb)) (fun vs => call (.ref 847) vs) [rdAV bk (symAV bk so fu br sc le), .obj wa, .obj va] [(so, .dict (sortsAV T)), (wa, .list (waAV T s0.ts)), (va, .list (vaAV s0.vs))] loc
    (fun b M' l' => l' = loc ∧ (∃ v, r = some v ∧ b = .int v) ∧ M' = [(so, .dict (sortsAV T))])
    (fun M' l' => l' = loc ∧ r = none ∧ M' = [(so, .dict (sortsAV T))]) := by
  generalize hR : rdAV bk (symAV bk so fu br sc le) = R
  refine Ts.drop ?_
  walk_at "def"
  repeat' walk_at "st"
  intro fo
  repeat' walk_at "st"
  refine sx_While rfl (WInv T r R so wa va fo) (wtS T s0) ?_ ?_
  · exact ⟨s0, by rw [hfd]; rfl, hr, hok, hw, rfl, rfl, rfl, rfl, rfl⟩
  rintro k M l ⟨s, rfl, hrun, htask, hwt, rfl, l1, l2, l3, l4⟩
  have hlens := wt_len (T := T) (s := s)
  obtain ⟨ts, vs, fd⟩ := s
  have hwl : (waAV T ts).length = ts.length := waAV_len
  have hvl : (vaAV vs).length = vs.length := vaAV_len
  have hfl : (fdAV fd).length = fd.length := fdAV_len
  simp only at hlens
  repeat' walk_at "st"
  refine ⟨fun hc => ?_, fun hc => ?_⟩
  · cases ts with
    | nil => simp [waAV] at hc
    | cons t ts =>
      have hk := runs_step hrun (by simp)
      have ht0 := htask t (List.mem_cons_self ..)
      have fin : ∀ {s' : St} {l' : Loc}, step T ⟨t :: ts, vs, fd⟩ = .go s' → l' "self" = some R → l' "waiting" = some (.obj wa) → l' "values" = some (.obj va) → l' "found" = some (.obj fo) →
          Less (WInv T r R so wa va fo) (wtS T ⟨t :: ts, vs, fd⟩) [(fo, AO.dict (fdAV s'.fd)), (so, .dict (sortsAV T)), (wa, .list (waAV T s'.ts)), (va, .list (vaAV s'.vs))] l' := by
        intro s' l' hs a b c d
        have hlt := step_wt hs
        refine ⟨wtS T s', hlt, s', rfl, ?_, step_task hT htask hs, by walk_at "om", rfl, a, b, c, d⟩
        rcases hk with ⟨h1, _⟩ | ⟨s2, h1, h2⟩
        · rw [hs] at h1; injection h1
        · rw [hs] at h1; (injection h1 with e0; (first | subst e0 | cases e0)); exact h2
      have bad : step T ⟨t :: ts, vs, fd⟩ = .bad → False := by
        intro h
        rcases hk with ⟨h1, _⟩ | ⟨s2, h1, _⟩ <;> rw [h] at h1 <;> injection h1
      have flt : step T ⟨t :: ts, vs, fd⟩ = .fault → r = none := by
        intro h
        rcases hk with ⟨_, h1⟩ | ⟨s2, h1, _⟩
        · exact h1
        · rw [h] at h1; injection h1
      have hwl' : (waAV T ts).length = ts.length := waAV_len
      rw [List.length_cons] at hlens
      with_reducible refine rwE waAV_cons ?_
      cases t with
      | read it ps =>
        obtain ⟨D, hD⟩ := ht0
        have e : taskAV T (.read it ps) = .tup [.str "read", itAV it, .fdict (knownD ps)] := rfl
        with_reducible refine rwE e ?_
        repeat' walk_at "st"
        refine ⟨rfl, ?_⟩
        repeat' walk_at "st"
        refine ⟨fun _ => ?_, fun h => absurd h (by decide)⟩
        have l1' := l1
        rw [← hR, rdAV] at l1'
        repeat' walk_at "st"
        refine Ts.use (rd_ok hD (ts := ts) (vs := vs) (fd := fd) (by walk_at "om") (by walk_at "om")) (by walk_at "pks") ?_ ?_
        · rintro b M' l' ⟨rfl, s', h1, h2, rfl⟩
          refine T0.keep (M' := [(fo, .dict (fdAV s'.fd)), (so, .dict (sortsAV T)), (wa, .list (waAV T s'.ts)), (va, .list (vaAV s'.vs))]) (by rw [h2]; walk_at "pks") ?_
          repeat' walk_at "st"
          exact fin h1 l1 l2 l3 l4
        · rintro M' l' ⟨rfl, h1, rfl⟩
          exact ⟨_, .cons_cons _ (List.nil_sublist _), rfl, flt h1, rfl⟩
      | app x k =>
        obtain ⟨⟨e, he⟩, hx, hk10⟩ := ht0
        have ee : taskAV T (.app x k) = .tup [.str "apply", .tup [.str x, entAV e], .int (k : Nat)] := by (rewrite [taskAV]; with_reducible refine rwE (ent_at he) ?_; with_reducible rfl)
        with_reducible refine rwE ee ?_
        repeat' walk_at "st"
        refine ⟨rfl, ?_⟩
        repeat' walk_at "st"
        refine ⟨fun h => absurd h (by decide), fun _ => ?_⟩
        repeat' walk_at "st"
        refine ⟨fun _ => ?_, fun h => absurd h (by decide)⟩
        have hkv : k ≤ vs.length := by
          refine Nat.le_of_not_lt fun h => bad ?_
          rw [step]; simp only [h, if_true]
        have l1' := l1
        rw [← hR, rdAV] at l1'
        repeat' walk_at "st"
        refine t_range ?_
        refine ⟨(List.range k).map fun i => AV.int (Int.ofNat i), [(fo, .dict (fdAV fd)), (so, .dict (sortsAV T)), (wa, .list (waAV T ts)), (va, .list (vaAV vs))], [], fun i ys M => i ≤ k ∧ ys = (vs.take i).map .int ∧ M = [(fo, .dict (fdAV fd)), (so, .dict (sortsAV T)), (wa, .list (waAV T ts)), (va, .list (vaAV (vs.drop i)))], it_range (by walk_at "om"), by (rewrite [List.length_map]; with_reducible refine rwE List.length_range ?_); unfold sizeLine; walk_at "om", ⟨Nat.zero_le _, rfl, rfl⟩, ?_, ?_⟩
        · rintro i a ys M ha ⟨hik, rfl, rfl⟩
          have hi : i < k := by have := (List.getElem?_eq_some_iff.mp ha).1; simpa using this
          have hiv : i < vs.length := by walk_at "om"
          have hd : vs.drop i = vs[i] :: vs.drop (i + 1) := List.drop_eq_getElem_cons hiv
          have hvd : (vaAV (vs.drop (i + 1))).length = vs.length - (i + 1) := by (with_reducible refine rwE vaAV_len ?_; with_reducible refine rwE List.length_drop ?_; with_reducible rfl)
          (with_reducible refine rwE hd ?_; with_reducible refine rwE vaAV_cons ?_)
          repeat' walk_at "st"
          refine ⟨?_, rfl⟩
          (with_reducible refine rwE List.take_add_one ?_; with_reducible refine rwE (List.getElem?_eq_getElem hiv) ?_; with_reducible refine rwE List.map_append ?_)
          rfl
        · rintro ys M hys ⟨_, rfl, rfl⟩ aA
          (rewrite [List.length_map]; with_reducible refine rwE List.length_range ?_)
          have htl : (List.map AV.int (vs.take k)).length ≤ sizeLine := by (rewrite [List.length_map]; with_reducible refine rwE List.length_take ?_); unfold sizeLine; walk_at "om"
          repeat' walk_at "st"
          refine t_subListSlice (lo := none) (hi := none) (st := some (-1)) (.obj aA _ (by walk_at "mem")) htl .none .none (.int _) (by decide) (fun _ _ => ⟨_, by with_unfolding_all rfl⟩) fun bA => ?_
          (with_reducible refine rwE pick_rev ?_; with_reducible refine rwE (Eq.symm List.map_reverse) ?_)
          repeat' walk_at "st"
          have hsa := step_app (ts := ts) (fd := fd) he hkv
          have hal : (vs.take k).reverse.length ≤ 10 := by (with_reducible refine rwE List.length_reverse ?_; with_reducible refine rwE List.length_take ?_); walk_at "om"
          have hop : ∀ {f : Fx} {n : Nat} {loc : Loc}, OpenOk w mean mg mb f n loc bk (symAV bk so fu br sc le) x e (vs.take k).reverse ts (vs.drop k) fd T bA wa va fo := by
            intro f n loc
            obtain ⟨hp1, hp2⟩ := hT.ps x e he
            have hdl : (vs.drop k).length ≤ 900000 := by with_reducible refine rwE List.length_drop ?_; walk_at "om"
            obtain ⟨ps, i, b⟩ := e
            cases b with
            | none => exact open_sort hx hp1 hal hdl
            | some it => exact open_def hx hp1 hp2 hal (by walk_at "om") hdl (by walk_at "om") (fun h => bad (by (with_reducible refine rwE hsa ?_; with_reducible refine rwE h ?_; with_reducible rfl)))
          refine Ts.use hop (by walk_at "pks") ?_ ?_
          · rintro b M' l' ⟨rfl, s', h1, rfl⟩
            refine T0.keep (M' := [(fo, .dict (fdAV s'.fd)), (so, .dict (sortsAV T)), (wa, .list (waAV T s'.ts)), (va, .list (vaAV s'.vs))]) (by walk_at "pks") ?_
            repeat' walk_at "st"
            exact fin (hsa.trans h1) l1 l2 l3 l4
          · rintro M' l' ⟨rfl, h1, rfl⟩
            exact ⟨_, .cons _ (.cons_cons _ (List.nil_sublist _)), rfl, flt (hsa.trans h1), rfl⟩
      | keep x as =>
        have e : taskAV T (.keep x as) = .tup [.str "keep", .str x, .flist (as.map .int)] := rfl
        with_reducible refine rwE e ?_
        repeat' walk_at "st"
        refine ⟨rfl, ?_⟩
        repeat' walk_at "st"
        refine ⟨fun h => absurd h (by decide), fun _ => ?_⟩
        repeat' walk_at "st"
        refine ⟨fun h => absurd h (by decide), fun _ => ?_⟩
        cases vs with
        | nil => exact (bad rfl).elim
        | cons v vs =>
          cases hpi : putIn v as with
          | none => exact (bad (by rw [step]; simp only [hpi])).elim
          | some u =>
            have hs : step T ⟨.keep x as :: ts, v :: vs, fd⟩ = .go ⟨ts, u :: vs, putS fd x (some v)⟩ := by rw [step]; simp only [hpi]
            have hvl2 : (vaAV vs).length = vs.length := vaAV_len
            simp only [List.length_cons] at hlens
            with_reducible refine rwE vaAV_cons ?_
            repeat' walk_at "st"
            have hfp : putD (fdAV fd) x (.int v) = fdAV (putS fd x (some v)) := fdAV_put (o := some v)
            refine t_setDict (by with_reducible refine rwE hfp ?_; walk_at "rp") (by unfold sizeLine; walk_at "om") ?_
            repeat' walk_at "st"
            refine t_subDict (c := .int v) noMods (.obj fo _ (by walk_at "mem")) (by (with_reducible refine rwE fdAV_at ?_; with_reducible refine rwE putS_at ?_; with_reducible refine rwE (if_pos rfl) ?_); rfl) (fun _ _ => by with_unfolding_all rfl) ?_
            repeat' walk_at "st"
            refine Ts.useC (by walk_at "pks") (Ts.det (putin_ok hpi (Nat.le_trans (show as.length ≤ 10 from ht0) (by decide))) ?_)
            repeat' walk_at "st"
            with_reducible refine rwE (Eq.symm vaAV_cons) ?_
            exact fin hs l1 l2 l3 l4
  · have hts : ts = [] := by
      cases ts with
      | nil => rfl
      | cons t ts => rw [hwl] at hc; simp at hc
    subst hts
    repeat' walk_at "st"
    cases hrun with
    | fault _ h => simp [step] at h
    | go _ s' _ h _ => simp [step] at h
    | done v vs fd =>
      have hvl2 : (vaAV vs).length = vs.length := vaAV_len
      have hln : (vaAV vs ++ [AV.int v]).length = vs.length + 1 := by (with_reducible refine rwE List.length_append ?_; with_reducible refine rwE hvl2 ?_); rfl
      have hvb : vs.length + 1 ≤ 800000 := by simp only [List.length_cons] at hlens; walk_at "om"
      with_reducible refine rwE vaAV_cons ?_
      repeat' walk_at "st"
      refine t_subListNeg (c := .int v) (.obj va _ (by walk_at "mem")) (by decide) (by with_reducible refine rwE hln ?_; walk_at "om") (by
        with_reducible refine rwE hln ?_
        have : (-1 + ((vs.length + 1 : Nat) : Int)).toNat = vs.length := (congrArg Int.toNat (Int.add_comm ..)).trans (Int.toNat_sub (vs.length + 1) 1)
        rw [this, List.getElem?_append_right (by with_reducible refine rwE hvl2 ?_; exact Nat.le_refl _), hvl2, Nat.sub_self]
        rfl) (by decide) (fun _ _ _ => by with_unfolding_all rfl) ?_
      walk_at "q"
      exact ⟨_, .cons _ (.cons_cons _ (List.nil_sublist _)), rfl, ⟨v, rfl, rfl⟩, rfl⟩
end
section
variable {w : World} {mean : ExcName → Option Value} {mg mb : Str → Option Value} {f : Fx} {n : Nat} {loc : Loc} {EQ : Mem → Loc → Prop}
set_option maxHeartbeats 8000000 in
theorem sortunder_ok {T : Tbl} (hT : TblOk T) {bk : AV} {so fu br sc le kn : Addr} {it : It} {D : Nat} (hD : Wf D it) {r : Option Int} (hr : Runs T ⟨[.read it []], [], []⟩ r) (hw : wtS T ⟨[.read it []], [], []⟩ ≤ 800000) :
    Ts (WW w mean mg mb) f (n + 6) (VR (WW w mean mg mb)) (fun vs => call (.ref 842) vs) [rdAV bk (symAV bk so fu br sc le), itAV it, .obj kn] [(so, .dict (sortsAV T)), (kn, .dict [])] loc
    (fun b M' l' => l' = loc ∧ (∃ v, r = some v ∧ b = .int v) ∧ M' = [(so, .dict (sortsAV T))])
    (fun M' l' => l' = loc ∧ r = none ∧ M' = [(so, .dict (sortsAV T))]) := by
  have e1 : [AV.tup [AV.str "read", itAV it, AV.fdict []]] = waAV T [.read it []] := rfl
  have hok : ∀ x ∈ (⟨[.read it []], [], []⟩ : St).ts, TaskOk T x := by
    intro x hx
    rw [List.mem_singleton.mp hx]
    exact ⟨D, hD⟩
  unfold rdAV
  refine Ts.drop ?_
  walk_at "def"
  refine T0.frzD (y := "known") (x := kn) rfl (by walk_at "pk") ?_
  repeat' walk_at "st"
  intro wa
  repeat' walk_at "st"
  intro va
  repeat' walk_at "st"
  rw [e1]
  refine Ts.use (walked_ok (s0 := ⟨[.read it []], [], []⟩) hT hr hok hw rfl) (by walk_at "pks") ?_ ?_
  · rintro b M' l' ⟨rfl, h1, rfl⟩
    walk_at "q"
    exact ⟨_, List.Sublist.refl _, rfl, h1, rfl⟩
  · rintro M' l' ⟨rfl, h1, rfl⟩
    exact ⟨_, List.Sublist.refl _, rfl, h1, rfl⟩
set_option maxHeartbeats 8000000 in
theorem sortof_ok {T : Tbl} (hT : TblOk T) {bk : AV} {so fu br sc le : Addr} {it : It} {D : Nat} (hD : Wf D it) {r : Option Int} (hr : Runs T ⟨[.read it []], [], []⟩ r) (hw : wtS T ⟨[.read it []], [], []⟩ ≤ 800000) :
    Ts (WW w mean mg mb) f (n + 7) (VR (WW w mean mg mb)) (fun vs => call (.ref 835) vs) [rdAV bk (symAV bk so fu br sc le), itAV it] [(so, .dict (sortsAV T))] loc
    (fun b M' l' => l' = loc ∧ (∃ v, r = some v ∧ b = .int v) ∧ M' = [(so, .dict (sortsAV T))])
    (fun M' l' => l' = loc ∧ r = none ∧ M' = [(so, .dict (sortsAV T))]) := by
  unfold rdAV
  refine Ts.drop ?_
  walk_at "def"
  repeat' walk_at "st"
  intro kn
  repeat' walk_at "st"
  refine Ts.use (sortunder_ok hT hD hr hw) (by walk_at "pks") ?_ ?_
  · rintro b M' l' ⟨rfl, h1, rfl⟩
    walk_at "q"
    exact ⟨_, List.Sublist.refl _, rfl, h1, rfl⟩
  · rintro M' l' ⟨rfl, h1, rfl⟩
    exact ⟨_, List.Sublist.refl _, rfl, h1, rfl⟩
set_option maxHeartbeats 8000000 in
theorem isread_ok {T : Tbl} {P : Plain} {W : Told} (g : Good T P W) (hT : TblOk T) (hW : ∀ e ∈ W, e.2.1.length ≤ 10) {bk : AV} {so fu br sc le told plain : Addr} {it : It} (hD : Wf 3 it) (hw : wtS T ⟨[.read it []], [], []⟩ ≤ 800000) :
    Ts (WW w mean mg mb) f (n + 8) (VR (WW w mean mg mb)) (fun vs => call (.ref 956) vs) [rdAV bk (symAV bk so fu br sc le), .obj told, .obj plain, itAV it] [(told, .dict (toldAV W)), (plain, .dict (plainAV P)), (so, .dict (sortsAV T))] loc
    (fun b M' l' => l' = loc ∧ b = .bool true ∧ M' = [(so, .dict (sortsAV T)), (told, .dict (toldAV W)), (plain, .dict (plainAV P))])
    EQ := by
  have hrun := reader_ok g hD
  unfold rdAV
  refine Ts.drop ?_
  walk_at "def"
  repeat' walk_at "st"
  refine Ts.useC (by walk_at "pks") (Ts.det (worth_ok (ps := []) (D := 3) (n := n + 2) hD (fun e he => Nat.le_trans (hW e he) (by decide)) (Nat.zero_le _)) ?_)
  repeat' walk_at "st"
  cases q : worthW W P [] it with
  | none =>
    rw [q] at hrun
    refine sx_Try (EQ' := fun M' l' => l' "due" = some .none ∧ M' = [(so, .dict (sortsAV T)), (told, .dict (toldAV W)), (plain, .dict (plainAV P))]) rfl rfl rfl (by walk_at "mk") (by (try dsimp only [WW]); kts_isx) ?_ ?_
    · repeat' walk_at "st"
      refine Ts.use (sortof_ok (n := n) (T := T) hT hD hrun hw) (by walk_at "pks") ?_ ?_
      · rintro b M' l' ⟨rfl, ⟨v, h1, _⟩, rfl⟩
        injection h1
      · rintro M' l' ⟨rfl, h1, rfl⟩
        exact ⟨rfl, rfl⟩
    · rintro d S s e M' l' ok H ⟨l1, rfl⟩
      refine suite_isNone ok H rfl l1 rfl rfl ?_
      walk_at "q"
      exact ⟨_, List.Sublist.refl _, rfl, rfl, rfl⟩
  | some wo =>
    obtain ⟨i, rfl⟩ := due_so g hD q
    rw [q] at hrun
    refine sx_Try (EQ' := fun M' l' => False) rfl rfl rfl (by walk_at "mk") (by (try dsimp only [WW]); kts_isx) ?_ ?_
    · repeat' walk_at "st"
      refine Ts.use (sortof_ok (n := n) (T := T) hT hD hrun hw) (by walk_at "pks") ?_ ?_
      · rintro b M' l' ⟨rfl, ⟨v, h1, rfl⟩, rfl⟩
        (injection h1 with e0; (first | subst e0 | cases e0))
        repeat' walk_at "st"
        have e1 : woAV (some (Wo.so i)) = .int i := rfl
        have e2 : intOf (Wo.so i) = i := rfl
        rw [e1, e2]
        refine t_eqI ?_
        walk_at "q"
        exact ⟨_, List.Sublist.refl _, rfl, by simp [AFl.val], rfl⟩
      · rintro M' l' ⟨rfl, h1, rfl⟩
        injection h1
    · rintro d S s e M' l' ok H h
      exact h.elim
end
noncomputable abbrev ownW : List Str := ["Bool", "Int", "Real", "BitVec", "Array"]
noncomputable abbrev keyW : List Str := ["let", "forall", "exists", "match", "as", "!", "_", "par"]
noncomputable def FreeW (x : Str) : Prop := x ∉ ownW ∧ x ∉ keyW ∧ x.length ≤ 100
noncomputable def brAV (names : List Str) : List AV := names.map fun x => .tup [.str "sort", .str x]
section
variable {w : World} {mean : ExcName → Option Value} {mg mb : Str → Option Value} {f : Fx} {n : Nat} {loc : Loc} {M : Mem} {EQ : Mem → Loc → Prop}
theorem ev_own {pos : Pos} {Q : AV → Mem → Loc → Prop} (hx : f.kindOf "OWN_SORTS" = some .globalImplicit) (h : Q (.tup (ownW.map .str)) M loc) : Ev (WW w mean mg mb) f n (.Name "OWN_SORTS" pos) M loc Q EQ := by
  refine' ev_global hx ?hv rfl ?hr h
  case hv => walk_at "mk"
  case hr =>
    intro S
    exact .tup _ _ _ _ (.inr (by walk_at "mk")) (by exact ⟨⟨rfl, ⟨_, rfl⟩⟩, rfl⟩) (by exact .cons _ _ _ _ (.str _ _) (.cons _ _ _ _ (.str _ _) (.cons _ _ _ _ (.str _ _) (.cons _ _ _ _ (.str _ _) (.cons _ _ _ _ (.str _ _) .nil)))))
theorem ev_words {pos : Pos} {Q : AV → Mem → Loc → Prop} (hx : f.kindOf "WORDS" = some .globalImplicit) (h : Q (.tup (keyW.map .str)) M loc) : Ev (WW w mean mg mb) f n (.Name "WORDS" pos) M loc Q EQ := by
  refine' ev_global hx ?hv rfl ?hr h
  case hv => walk_at "mk"
  case hr =>
    intro S
    exact .tup _ _ _ _ (.inr (by walk_at "mk")) (by exact ⟨⟨rfl, ⟨_, rfl⟩⟩, rfl⟩) (by exact .cons _ _ _ _ (.str _ _) (.cons _ _ _ _ (.str _ _) (.cons _ _ _ _ (.str _ _) (.cons _ _ _ _ (.str _ _) (.cons _ _ _ _ (.str _ _) (.cons _ _ _ _ (.str _ _) (.cons _ _ _ _ (.str _ _) (.cons _ _ _ _ (.str _ _) .nil))))))))
set_option maxHeartbeats 8000000 in
theorem bring_ok {nm : Str} {a bk : AV} {so fu br sc le : Addr} {es : List (Str × AV)} {L : List AV} (hn : FreeW nm) (he : es.lookup nm = none) (h1 : es.length ≤ 100000) (h2 : L.length ≤ 100000) :
    Ts (WW w mean mg mb) f (n + 2) (VR (WW w mean mg mb)) (fun vs => call (.ref 716) vs) [symAV bk so fu br sc le, .str nm, a] [(so, .dict es), (br, .list L)] loc
    (fun b M' l' => l' = loc ∧ b = .none ∧ M' = [(so, .dict (es ++ [(nm, a)])), (br, .list (L ++ [.tup [.str "sort", .str nm]]))]) EQ := by
  have k1 : isIn (.str nm) (ownW.map .str) = some false := by rw [isIn_par, decide_eq_false hn.1]
  have k2 : isIn (.str nm) (keyW.map .str) = some false := by rw [isIn_par, decide_eq_false hn.2.1]
  unfold symAV
  walk_at "def"
  repeat' walk_at "st"
  refine ev_own rfl ?_
  refine t_inTup k1 ?_
  repeat' walk_at "st"
  refine ⟨fun h => (by injection h), fun _ => ?_⟩
  repeat' walk_at "st"
  refine ev_words rfl ?_
  refine t_inTup k2 ?_
  repeat' walk_at "st"
  refine ⟨fun h => (by injection h), fun _ => ?_⟩
  repeat' walk_at "st"
  refine ⟨fun h => (by injection h), fun _ => ?_⟩
  repeat' walk_at "st"
  with_reducible refine rwE he ?_
  refine ⟨fun h => (by injection h), fun _ => ?_⟩
  repeat' walk_at "st"
  refine t_setDict (by with_reducible refine rwE (putD_new he) ?_; walk_at "rp") (by unfold sizeLine; walk_at "om") ?_
  repeat' walk_at "st"
set_option maxHeartbeats 8000000 in
theorem mark_ok {bk : AV} {so fu br sc le : Addr} {L : List AV} (h2 : L.length ≤ 100000) :
    Ts (WW w mean mg mb) f (n + 1) (VR (WW w mean mg mb)) (fun vs => call (.ref 702) vs) [symAV bk so fu br sc le] [(br, .list L)] loc
    (fun b M' l' => l' = loc ∧ b = .int (L.length : Nat) ∧ M' = [(br, .list L)]) EQ := by
  unfold symAV
  walk_at "def"
  repeat' walk_at "st"
theorem entry_make {i : Int} {a b : AV} {loc : Loc} {M : Mem} : Ts (WW w mean mg mb) f (n + 2) (VR (WW w mean mg mb)) (fun vs => call (.ref 649) vs) [.int i, a, b] M loc (fun r M' l' => l' = loc ∧ r = .finst 649 [("sort", .int i), ("params", a), ("body", b)] ∧ M' = M) EQ := by
  refine t_newF (by walk_at "mk") (by walk_at "mk") (by walk_at "mk") fun dx => ?_
  walk_at "cdef"
  repeat' walk_at "st"
  exact ⟨rfl, _, _, .head _, rfl, rfl, rfl⟩
set_option maxHeartbeats 8000000 in
theorem define_ok {nm : Str} {ps : List Str} {it : It} {bk : AV} {so fu br sc le : Addr} {es : List (Str × AV)} {L : List AV} (hn : FreeW nm) (hp : ∀ p ∈ ps, FreeW p) (he : es.lookup nm = none) (h1 : es.length ≤ 100000) (h2 : L.length ≤ 100000) (h3 : ps.length ≤ 10) :
    Ts (WW w mean mg mb) f (n + 4) (VR (WW w mean mg mb)) (fun vs => call (.ref 730) vs) [symAV bk so fu br sc le, .str nm, .tup (ps.map .str), itAV it] [(so, .dict es), (br, .list L)] loc
    (fun b M' l' => l' = loc ∧ b = .none ∧ M' = [(so, .dict (es ++ [(nm, entAV ⟨ps, 0, some it⟩)])), (br, .list (L ++ [.tup [.str "sort", .str nm]]))]) EQ := by
  unfold symAV
  walk_at "def"
  repeat' walk_at "st"
  generalize hL : Loc.of _ _ = L0
  refine ⟨ps.map .str, [(so, .dict es), (br, .list L)], [], fun i M l => M = [(so, .dict es), (br, .list L)] ∧ l "self" = some (.finst 782 [("bank", bk), ("sorts", .obj so), ("functions", .obj fu), ("brought", .obj br), ("scopes", .obj sc), ("lets", .obj le), ("numeral_sort", .int 1)]) ∧ l "name" = some (.str nm) ∧ l "params" = some (.tup (ps.map .str)) ∧ l "body" = some (itAV it), it_tup, ⟨rfl, by rw [← hL]; rfl, by rw [← hL]; rfl, by rw [← hL]; rfl, by rw [← hL]; rfl⟩, ?_, ?_⟩
  · rintro i a M l ha ⟨rfl, l1, l2, l3, l4⟩
    have hi : i < ps.length := by have := (List.getElem?_eq_some_iff.mp ha).1; simpa using this
    have hgi : ps[i]? = some ps[i] := List.getElem?_eq_getElem hi
    have hai : AV.str ps[i] = a := by rw [List.getElem?_map, hgi] at ha; exact Option.some.inj ha
    subst hai
    have hf := hp _ (List.getElem_mem hi)
    generalize ps[i] = p at hf
    have k1 : isIn (.str p) (ownW.map .str) = some false := by rw [isIn_par, decide_eq_false hf.1]
    have k2 : isIn (.str p) (keyW.map .str) = some false := by rw [isIn_par, decide_eq_false hf.2.1]
    repeat' walk_at "st"
    refine ev_own rfl ?_
    refine t_inTup k1 ?_
    repeat' walk_at "st"
    refine ⟨fun h => (by injection h), fun _ => ?_⟩
    repeat' walk_at "st"
    refine ev_words rfl ?_
    refine t_inTup k2 ?_
    repeat' walk_at "st"
    refine ⟨fun h => (by injection h), fun _ => ?_⟩
    repeat' walk_at "st"
    refine ⟨fun h => (by injection h), fun _ => ?_⟩
    repeat' walk_at "st"
    exact ⟨rfl, l1, l2, l3, l4⟩
  · rintro M l ⟨rfl, l1, l2, l3, l4⟩
    repeat' walk_at "st"
    refine Ts.useC (by walk_at "pks") (Ts.det (entry_make (n := n + 1) (M := [])) ?_)
    repeat' walk_at "st"
    refine Ts.useC (by walk_at "pks") (Ts.det (bring_ok hn he h1 h2) ?_)
    repeat' walk_at "st"
    exact rfl
set_option maxHeartbeats 8000000 in
theorem rollback_ok {bk : AV} {so fu br sc le : Addr} {T T' : Tbl} {names names' : List Str} {m : Nat} (hm : m = names.length) (hT : T'.map (·.1) = names') (hnd : ((T ++ T').map (·.1)).Nodup) (h1 : T.length + T'.length ≤ 100000) (h2 : names.length + names'.length ≤ 100000) :
    Ts (WW w mean mg mb) f (n + 1) (VR (WW w mean mg mb)) (fun vs => call (.ref 709) vs) [symAV bk so fu br sc le, .int (m : Nat)] [(so, .dict (sortsAV (T ++ T'))), (br, .list (brAV (names ++ names')))] loc
    (fun b M' l' => l' = loc ∧ b = .none ∧ M' = [(so, .dict (sortsAV T)), (br, .list (brAV names))]) EQ := by
  unfold symAV
  walk_at "def"
  repeat' walk_at "st"
  refine sx_While rfl (fun k M l => ∃ T0 rest : Tbl, T' = T0 ++ rest ∧ M = [(so, .dict (sortsAV (T ++ T0))), (br, .list (brAV (names ++ T0.map (·.1))))] ∧ k = T0.length ∧ l "self" = some (.finst 782 [("bank", bk), ("sorts", .obj so), ("functions", .obj fu), ("brought", .obj br), ("scopes", .obj sc), ("lets", .obj le), ("numeral_sort", .int 1)]) ∧ l "mark" = some (.int (m : Nat)))
    T'.length ⟨T', [], by simp, by (with_reducible refine rwE hT ?_; with_reducible rfl), rfl, rfl, rfl⟩ ?_
  rintro k M l ⟨T0, rest, hT0, rfl, rfl, l1, l2⟩
  have hbl : (brAV (names ++ T0.map (·.1))).length = names.length + T0.length := by simp [brAV]
  have hsl : (sortsAV (T ++ T0)).length = T.length + T0.length := by simp [sortsAV]
  have hb1 : T0.length ≤ T'.length := by with_reducible refine rwE hT0 ?_; simp
  have hb2 : T'.length = names'.length := by with_reducible refine rwE (Eq.symm hT) ?_; simp
  repeat' walk_at "st"
  have hln : ((brAV (names ++ T0.map (·.1))).length : Int) = (names.length : Int) + T0.length := by with_reducible refine rwE hbl ?_; walk_at "om"
  with_reducible refine rwE hln ?_
  refine ⟨fun hc => ?_, fun hc => ?_⟩
  · rcases List.eq_nil_or_concat T0 with rfl | ⟨T1, xe, rfl⟩
    · have := of_decide_eq_true hc
      simp at this; walk_at "om"
    obtain ⟨x, e⟩ := xe
    have e1 : brAV (names ++ (T1.concat (x, e)).map (·.1)) = brAV (names ++ T1.map (·.1)) ++ [.tup [.str "sort", .str x]] := by
      unfold brAV; simp
    have e2 : sortsAV (T ++ T1.concat (x, e)) = sortsAV (T ++ T1) ++ [(x, entAV e)] := by
      unfold sortsAV; simp
    have hbl1 : (brAV (names ++ T1.map (·.1))).length = names.length + T1.length := by simp [brAV]
    have hc1 : (T1.concat (x, e)).length = T1.length + 1 := by simp
    have hsl1 : (sortsAV (T ++ T1) ++ [(x, entAV e)]).length = T.length + T1.length + 1 := by simp [sortsAV]; walk_at "om"
    (with_reducible refine rwE e1 ?_; with_reducible refine rwE e2 ?_)
    have hnot : (sortsAV (T ++ T1)).lookup x = none := by
      rw [List.lookup_eq_none_iff]
      intro p hp
      obtain ⟨q, hq, rfl⟩ := List.mem_map.mp hp
      have hnd2 := hnd
      rw [hT0, List.concat_eq_append, ← List.append_assoc, ← List.append_assoc, List.map_append, List.map_append] at hnd2
      have hnd3 := (List.nodup_append.mp (List.nodup_append.mp hnd2).1).2.2
      have : q.1 ≠ x := fun h => hnd3 q.1 (List.mem_map.mpr ⟨q, hq, rfl⟩) x (by simp) h
      simpa using fun h => this h.symm
    have hfil : (sortsAV (T ++ T1) ++ [(x, entAV e)]).filter (fun e => decide (e.1 ≠ x)) = sortsAV (T ++ T1) := by
      rw [List.filter_append]
      have : (sortsAV (T ++ T1)).filter (fun e => decide (e.1 ≠ x)) = sortsAV (T ++ T1) := by
        rw [List.filter_eq_self]
        intro p hp
        rw [List.lookup_eq_none_iff] at hnot
        have := hnot p hp
        simpa using fun h => (by simpa using this : ¬ x = p.1) h.symm
      with_reducible refine rwE this ?_; simp
    have hlk : (sortsAV (T ++ T1) ++ [(x, entAV e)]).lookup x = some (entAV e) := by
      (with_reducible refine rwE List.lookup_append ?_; with_reducible refine rwE hnot ?_); simp
    repeat' walk_at "st"
    refine ⟨rfl, ?_⟩
    repeat' walk_at "st"
    refine ⟨fun _ => ?_, fun h => absurd h (by decide)⟩
    repeat' walk_at "st"
    refine t_popDict (by with_reducible refine rwE hfil ?_; walk_at "rp") hlk (by with_reducible refine rwE hsl1 ?_; unfold sizeLine; walk_at "om") ?_
    repeat' walk_at "st"
    exact ⟨T1.length, by walk_at "om", T1, (x, e) :: rest, by with_reducible refine rwE hT0 ?_; simp, rfl, rfl, l1, l2⟩
  · have h0 : T0 = [] := by
      have := of_decide_eq_false hc
      exact List.length_eq_zero_iff.mp (by walk_at "om")
    subst h0
    repeat' walk_at "st"
    simp
end
/-- the tellers are told -/
structure Tell (T : Told) : Prop where
  a : T.lookup ("A" : Str) = some (([("X" : Str)], Wo.par "X") : List Str × Wo)
  l : T.lookup ("L" : Str) = some (([("X" : Str), "Y", "Z"], Wo.par "X") : List Str × Wo)
  m : T.lookup ("M" : Str) = some (([("X" : Str), "Y", "Z"], Wo.par "Y") : List Str × Wo)
  r : T.lookup ("R" : Str) = some (([("X" : Str), "Y", "Z"], Wo.par "Z") : List Str × Wo)
  n : T.lookup ("Nope" : Str) = none
noncomputable abbrev XYZ : List Str := ["X", "Y", "Z"]
noncomputable def tellS (T : Told) (h : Str) : Nat → Prop
  | j => T.lookup h = some (XYZ, .par (XYZ[j]?.getD "X"))
theorem Tell.at {T : Told} (t : Tell T) {j : Nat} (h : j < heads3.length) : T.lookup heads3[j] = some (XYZ, .par (XYZ[j]?.getD "X")) := by
  match j, h with
  | 0, _ => exact t.l
  | 1, _ => exact t.m
  | 2, _ => exact t.r
theorem put_tell {T : Told} (t : Tell T) {j : Nat} (h : j < heads3.length) {as : List (Option Wo)} (hl : as.length = 3) : putW T heads3[j] as = if as.any (·.isNone) then none else (as[j]?).join := by
  (rewrite [putW]; with_reducible refine rwE (t.at h) ?_)
  have e : XYZ.length = 3 := rfl
  simp only [hl, e, ne_eq, not_true_eq_false, decide_false, Bool.or_false]
  split
  · rfl
  · match j, h with
    | 0, _ => rfl
    | 1, _ => rfl
    | 2, _ => rfl
theorem put_a {T : Told} (t : Tell T) {a : Option Wo} : putW T "A" [a] = a := by
  (rewrite [putW]; with_reducible refine rwE t.a ?_)
  cases a with
  | none => rfl
  | some w => rfl
/-- what the deep row is -/
noncomputable def NestW (P : Plain) (it : It) (wo : Option Wo) : Prop := ∀ T, Tell T → worthW T P ["X"] it = wo
noncomputable abbrev parts3 : List It := [.sym "V", .sym "X", .sym "U"]
noncomputable def worths3 (v u : Int) : List (Option Wo) := [some (.so v), some (.par "X"), some (.so u)]
theorem nest_a {P : Plain} {it : It} {wo : Option Wo} (h : NestW P it wo) : NestW P (.list [.sym "A", it]) wo := by
  intro T t
  (rewrite [worthW]; with_reducible refine rwE worthsW_map ?_)
  refine (?_ : putW T "A" [worthW T P ["X"] it] = wo)
  (rewrite [h T t]; with_reducible refine rwE (put_a t) ?_; with_reducible rfl)
theorem nest_t {P : Plain} {it : It} {wo : Option Wo} {v u : Int} (hv : P.lookup ("V" : Str) = some v) (hu : P.lookup ("U" : Str) = some u) (h : NestW P it wo) {p j : Nat} (hp : p < 3) (hj : j < heads3.length) :
    NestW P (.list (.sym heads3[j] :: parts3.set p it)) (if wo.isNone then none else (((worths3 v u).set p wo)[j]?).join) := by
  intro T t
  have e : (parts3.set p it).map (worthW T P ["X"]) = (worths3 v u).set p wo := by
    rw [List.map_set, h T t]
    congr 1
    have e1 : worthW T P ["X"] (.sym "V") = some (.so v) := by (rewrite [worthW]; with_reducible refine rwE (if_neg (by decide)) ?_; with_reducible refine rwE hv ?_; with_reducible rfl)
    have e2 : worthW T P ["X"] (.sym "X") = some (.par "X") := by (rewrite [worthW]; with_reducible refine rwE (if_pos (by decide)) ?_; with_reducible rfl)
    have e3 : worthW T P ["X"] (.sym "U") = some (.so u) := by (rewrite [worthW]; with_reducible refine rwE (if_neg (by decide)) ?_; with_reducible refine rwE hu ?_; with_reducible rfl)
    refine (?_ : [worthW T P ["X"] (.sym "V"), worthW T P ["X"] (.sym "X"), worthW T P ["X"] (.sym "U")] = _)
    (with_reducible refine rwE e1 ?_; with_reducible refine rwE e2 ?_; with_reducible refine rwE e3 ?_); rfl
  (rewrite [worthW]; with_reducible refine rwE worthsW_map ?_; with_reducible refine rwE e ?_; with_reducible refine rwE (put_tell t hj (by simp [worths3])) ?_)
  have : ((worths3 v u).set p wo).any (·.isNone) = wo.isNone := by
    match p, hp with
    | 0, _ => simp [worths3]
    | 1, _ => simp [worths3]
    | 2, _ => simp [worths3]
  (with_reducible refine rwE this ?_; with_reducible rfl)
theorem wf_word {x : Str} (h : OkW x) : ∀ D, Wf D (.sym x)
  | 0 => h
  | _ + 1 => h
theorem Wf.mono : ∀ {D E : Nat} {it : It}, D ≤ E → Wf D it → Wf E it
  | D, E, .sym x, _, h => by
    have : OkW x := by cases D <;> exact h
    exact wf_word this E
  | 0, _, .list _, _, h => h.elim
  | D + 1, 0, .list _, h, _ => by walk_at "om"
  | D + 1, E + 1, .list _, hle, h => by
    obtain ⟨hd, r, e, h1, h2, h3, h4⟩ := h
    exact ⟨hd, r, e, h1, h2, h3, fun i hi => Wf.mono (Nat.le_of_succ_le_succ hle) (h4 i hi)⟩
theorem szL_sum : ∀ {l : List It}, szL l = (l.map szI).sum
  | [] => rfl
  | i :: l => by (rewrite [szL]; with_reducible refine rwE szL_sum ?_); rfl
theorem nest_sz {it : It} {p : Nat} (hp : p < 3) {h : Str} : szI (.list (.sym h :: parts3.set p it)) ≤ szI it + 4 := by
  match p, hp with
  | 0, _ => simp [szI, szL]; walk_at "om"
  | 1, _ => simp [szI, szL]; walk_at "om"
  | 2, _ => simp [szI, szL]; walk_at "om"
theorem nest_wf {it : It} {p D : Nat} (hp : p < 3) {h : Str} (hh : OkW h) (hi : Wf D it) : Wf (D + 1) (.list (.sym h :: parts3.set p it)) := by
  refine ⟨h, _, rfl, hh, ?_, by with_reducible refine rwE List.length_set ?_; decide, fun i hi2 => ?_⟩
  · intro e; have := congrArg List.length e; simp at this
  · rcases List.mem_or_eq_of_mem_set hi2 with h | rfl
    · have : i = .sym "V" ∨ i = .sym "X" ∨ i = .sym "U" := by simpa using h
      rcases this with rfl | rfl | rfl <;> exact wf_word ⟨by decide, by decide, by decide⟩ D
    · exact hi
noncomputable abbrev words4n : List Str := ["X", "X", "Int", "Nope"]
noncomputable abbrev worths4 : List (Option Wo) := [some (.par "X"), some (.par "X"), some (.so 1), none]
theorem nest_0 {P : Plain} (h1 : P.lookup ("Int" : Str) = some 1) (h0 : P.lookup ("Nope" : Str) = none) : ∀ {i : Nat} (h : i < words4n.length) (h' : i < worths4.length), NestW P (.sym words4n[i]) worths4[i]
  | 0, _, _, T, t => by refine (?_ : worthW T P ["X"] (.sym "X") = _); (rewrite [worthW]; with_reducible refine rwE (if_pos (by decide)) ?_); rfl
  | 1, _, _, T, t => by refine (?_ : worthW T P ["X"] (.sym "X") = _); (rewrite [worthW]; with_reducible refine rwE (if_pos (by decide)) ?_); rfl
  | 2, _, _, T, t => by refine (?_ : worthW T P ["X"] (.sym "Int") = _); (rewrite [worthW]; with_reducible refine rwE (if_neg (by decide)) ?_; with_reducible refine rwE h1 ?_); rfl
  | 3, _, _, T, t => by refine (?_ : worthW T P ["X"] (.sym "Nope") = _); (rewrite [worthW]; with_reducible refine rwE (if_neg (by decide)) ?_; with_reducible refine rwE h0 ?_); refine (?_ : putW T "Nope" [] = _); (rewrite [putW]; with_reducible refine rwE t.n ?_); rfl
theorem words4_ok : ∀ (i : Nat) (h : i < words4n.length), OkW words4n[i]
  | 0, _ => by refine (?_ : OkW "X"); exact ⟨by decide, by decide, by decide⟩
  | 1, _ => by refine (?_ : OkW "X"); exact ⟨by decide, by decide, by decide⟩
  | 2, _ => by refine (?_ : OkW "Int"); exact ⟨by decide, by decide, by decide⟩
  | 3, _ => by refine (?_ : OkW "Nope"); exact ⟨by decide, by decide, by decide⟩
theorem small_mul {a b : Int} (h1 : 0 ≤ a) (h2 : a < 1000) (h3 : 0 ≤ b) (h4 : b < 1000) : IntMulOk a b := .of_left (intBits_le_64 (by walk_at "om") (by walk_at "om"))
theorem heads3_ok : ∀ (i : Nat) (h : i < heads3.length), OkW heads3[i]
  | 0, _ => by refine (?_ : OkW "L"); exact ⟨by decide, by decide, by decide⟩
  | 1, _ => by refine (?_ : OkW "M"); exact ⟨by decide, by decide, by decide⟩
  | 2, _ => by refine (?_ : OkW "R"); exact ⟨by decide, by decide, by decide⟩
theorem sets_at {v u : Int} {p j : Nat} {wo : Option Wo} (hj : j < heads3.length) : ((worths3 v u).set p wo)[j]? = some (((worths3 v u).set p wo)[j]?).join := by
  have : j < ((worths3 v u).set p wo).length := by rw [List.length_set]; exact hj
  rw [List.getElem?_eq_getElem this]; rfl
theorem itAV_list {h : Str} {r : List It} : itAV (.list (.sym h :: r)) = .tup [.str "list", .tup ([.tup [.str "sym", .str h]] ++ r.map itAV)] := by
  refine (?_ : AV.tup [.str "list", .tup (itAV (.sym h) :: itsAV r)] = _)
  rw [itsAV_map]; rfl
inductive NInv (P : Plain) (base : Mem) (stp spt str : Int) (plain : Addr) (i : Nat) (M : Mem) (l : Loc) : Prop
  | mk (J : Mem) (pk : Picks base M J) (it : It) (wo : Option Wo) (l1 : l "item" = some (itAV it)) (l2 : l "worth" = some (woAV wo)) (q1 : NestW P it wo) (q2 : Wf i it) (q3 : szI it ≤ 1 + 4 * i)
      (l3 : l "step" = some (.int stp)) (l4 : l "spot" = some (.int spt)) (l5 : l "stray" = some (.int str)) (l6 : l "plain" = some (.obj plain)) : NInv P base stp spt str plain i M l
set_option maxHeartbeats 8000000 in
theorem nest_ok {w : World} {mean : ExcName → Option Value} {mg mb : Str → Option Value} {f : Fx} {n : Nat} {loc : Loc} {EQ : Mem → Loc → Prop} {feed plain : Addr} {o : AO} {k : Nat} {P : Plain} {u v : Int} (ho : Feed k o) (hk : k ≤ 80000) (hv : P.lookup ("V" : Str) = some v) (hu : P.lookup ("U" : Str) = some u) (h1 : P.lookup ("Int" : Str) = some 1) (h0 : P.lookup ("Nope" : Str) = none) {Q : AV → Mem → Loc → Prop} (hQ : ∀ it wo o', NestW P it wo → Wf 300 it → szI it ≤ 3000 → Feed (k + 10) o' → Q (.tup [itAV it, woAV wo]) [(feed, o'), (plain, .dict (plainAV P))] loc) :
    Ts (WW w mean mg mb) f (n + 2) (VR (WW w mean mg mb)) (fun vs => call (.ref 963) vs) [.obj feed, .obj plain] [(feed, o), (plain, .dict (plainAV P))] loc
      Q EQ := by
  refine Ts.drop ?_
  walk_at "def"
  repeat' walk_at "st"
  refine Ts.useC (by walk_at "pks") (draw_ok ho (by walk_at "om") (by decide) fun r o1 a1 a2 ho1 => ?_)
  repeat' walk_at "st"
  refine Ts.useC (by walk_at "pks") (draw_ok ho1 (by walk_at "om") (by decide) fun many o2 b1 b2 ho2 => ?_)
  repeat' walk_at "st"
  refine Ts.useC (by walk_at "pks") (draw_ok ho2 (by walk_at "om") (by decide) fun stp o3 c1 c2 ho3 => ?_)
  repeat' walk_at "st"
  refine Ts.useC (by walk_at "pks") (draw_ok ho3 (by walk_at "om") (by decide) fun spot o4 d1 d2 ho4 => ?_)
  repeat' walk_at "st"
  obtain ⟨mn, rfl⟩ := Int.eq_ofNat_of_zero_le b1
  obtain ⟨sn, rfl⟩ := Int.eq_ofNat_of_zero_le c1
  obtain ⟨pn, rfl⟩ := Int.eq_ofNat_of_zero_le d1
  have eN : (120 + (mn : Int)) = ((120 + mn : Nat) : Int) := by walk_at "om"
  have hmn : mn < 120 := by walk_at "om"
  have hst2 : 2 ≤ 2 + (sn : Int) ∧ 2 + (sn : Int) < 11 := ⟨Int.le_add_of_nonneg_right (Int.natCast_nonneg sn), Int.add_lt_add_left c2 2⟩
  generalize hst : (2 + (sn : Int)) = stp at *
  with_reducible refine rwE eN ?_
  refine ⟨rfl, ?_⟩
  repeat' walk_at "st"
  refine Ts.useC (by walk_at "pks") (draw_ok ho4 (by walk_at "om") (by decide) fun s20 o5 e1 e2 ho5 => ?_)
  repeat' walk_at "st"
  have hm : IntMulOk stp s20 := small_mul (by walk_at "om") (by walk_at "om") (by walk_at "om") (by walk_at "om")
  refine t_mul hm ?_
  obtain ⟨i, rfl⟩ := Int.eq_ofNat_of_zero_le a1
  have hi : i < words4n.length := Int.ofNat_lt.mp a2
  have hi2 : i < worths4.length := hi
  have g1 : ([AV.str "X", .str "X", .str "Int", .str "Nope"] : List AV)[i]? = some (.str words4n[i]) := by
    refine (?_ : (words4n.map AV.str)[i]? = _)
    (with_reducible refine rwE (List.getElem?_map) ?_; with_reducible refine rwE (List.getElem?_eq_getElem hi) ?_); rfl
  have g2 : ([AV.str "X", .str "X", .int 1, .none] : List AV)[i]? = some (woAV worths4[i]) := by
    refine (?_ : (worths4.map woAV)[i]? = _)
    (with_reducible refine rwE (List.getElem?_map) ?_; with_reducible refine rwE (List.getElem?_eq_getElem hi2) ?_); rfl
  have g3 := nest_0 (P := P) h1 h0 hi hi2
  have g4 : OkW words4n[i] := words4_ok i hi
  generalize words4n[i] = x0 at g1 g3 g4
  generalize worths4[i] = w0 at g2 g3
  repeat' walk_at "st"
  refine' sx_UnpackSwap (names := ["item", "worth"]) ?_ ?hco ?hl ?hs ?hw
  case hw => intro _; exact rfl
  case hco => exact rfl
  case hl => exact rfl
  case hs => intro _; exact rfl
  repeat' walk_at "st"
  refine t_subTupN (j := i) g1 (by decide) (fun _ _ _ => by with_unfolding_all rfl) ?_
  repeat' walk_at "st"
  refine t_subTupN (j := i) g2 (by decide) (fun _ _ _ => by with_unfolding_all rfl) ?_
  repeat' walk_at "st"
  refine ⟨rfl, ?_⟩
  repeat' walk_at "st"
  refine t_range ?_
  have hvA : (plainAV P).lookup ("V" : Str) = some (.int v) := by (with_reducible refine rwE plainAV_at ?_; with_reducible refine rwE hv ?_); rfl
  have huA : (plainAV P).lookup ("U" : Str) = some (.int u) := by (with_reducible refine rwE plainAV_at ?_; with_reducible refine rwE hu ?_); rfl
  generalize hL : Loc.sets _ _ = L0
  refine ⟨_, [(feed, o5), (plain, .dict (plainAV P))], [], NInv P [(feed, o5), (plain, .dict (plainAV P))] stp (pn : Int) (stp * s20) plain, it_range (by walk_at "om"), ⟨_, by walk_at "pks", .sym x0, w0, by rw [← hL]; rfl, by rw [← hL]; rfl, g3, g4, by simp [szI], by rw [← hL]; rfl, by rw [← hL]; rfl, by rw [← hL]; rfl, by rw [← hL]; rfl⟩, ?_, ?_⟩
  · rintro i a M l ha ⟨J, pk, it, wo, l1, l2, q1, q2, q3, l3, l4, l5, l6⟩
    have hi : i < 120 + mn := by have := (List.getElem?_eq_some_iff.mp ha).1; simpa using this
    have hai : AV.int (Int.ofNat i) = a := by rw [List.getElem?_map, List.getElem?_range hi] at ha; exact Option.some.inj ha
    subst hai
    refine bd_name ⟨rfl, rfl⟩ ?_
    refine absQ fun _ _ => ?_
    refine T0.keep pk ?_
    repeat' walk_at "st"
    refine t_mod (by walk_at "om") ?_
    repeat' walk_at "st"
    refine ⟨fun _ => ?_, fun _ => ?_⟩
    · repeat' walk_at "st"
      exact ⟨_, by walk_at "pks", .list [.sym "A", it], wo, rfl, l2, nest_a q1, ⟨"A", [it], rfl, ⟨by decide, by decide, by decide⟩, by simp, by simp, fun j hj => by with_reducible refine rwE (List.mem_singleton.mp hj) ?_; exact q2⟩, by simp [szI, szL]; walk_at "om", l3, l4, l5, l6⟩
    repeat' walk_at "st"
    refine t_fdiv (by walk_at "om") (by walk_at "om") ?_
    repeat' walk_at "st"
    refine t_mod (by decide) ?_
    have m1 : 0 ≤ ((Int.ofNat i).fdiv stp + (pn : Int)).fmod 3 := Int.fmod_nonneg_of_pos _ (by decide)
    have m2 : ((Int.ofNat i).fdiv stp + (pn : Int)).fmod 3 < 3 := Int.fmod_lt_of_pos _ (by decide)
    generalize ((Int.ofNat i).fdiv stp + (pn : Int)).fmod 3 = pl at m1 m2 ⊢
    obtain ⟨p, rfl⟩ := Int.eq_ofNat_of_zero_le m1
    have hp : p < 3 := by walk_at "om"
    repeat' walk_at "st"
    refine' sx_UnpackSwap (names := ["parts", "worths"]) ?_ ?hco ?hl ?hs ?hw
    case hw => intro _; exact rfl
    case hco => exact rfl
    case hl => exact rfl
    case hs => intro _; exact rfl
    repeat' walk_at "st"
    intro pa
    repeat' walk_at "st"
    intro wa
    repeat' walk_at "st"
    refine ⟨rfl, ?_⟩
    repeat' walk_at "st"
    have ew : ([AV.int v, AV.str "X", AV.int u] : List AV) = (worths3 v u).map woAV := rfl
    have ep : ([AV.tup [AV.str "sym", AV.str "V"], AV.tup [AV.str "sym", AV.str "X"], AV.tup [AV.str "sym", AV.str "U"]] : List AV) = parts3.map itAV := rfl
    have ew2 : ((worths3 v u).map woAV).set (p : Int).toNat (woAV wo) = ((worths3 v u).set p wo).map woAV := by rw [List.map_set]; rfl
    have ep2 : (parts3.map itAV).set (p : Int).toNat (itAV it) = (parts3.set p it).map itAV := by rw [List.map_set]; rfl
    (with_reducible refine rwE ew ?_; with_reducible refine rwE ep ?_)
    refine ⟨rfl, ?_⟩
    repeat' walk_at "st"
    refine t_setList (by with_reducible refine rwE ep2 ?_; walk_at "rp") (by walk_at "om") (by simp; walk_at "om") (by walk_at "om") ?_
    repeat' walk_at "st"
    refine t_setList (by with_reducible refine rwE ew2 ?_; walk_at "rp") (by walk_at "om") (by simp [worths3]; walk_at "om") (by walk_at "om") ?_
    repeat' walk_at "st"
    refine ifJ (fun j : Nat => AV.int (j : Int)) (fun j => j < heads3.length) (fun Q' kQ => ⟨fun _ => ?_, fun _ => ?_⟩) fun j hj => ?_
    · repeat' walk_at "st"
      refine t_mod (by decide) ?_
      have m1 : 0 ≤ ((p : Int) + 1).fmod 3 := Int.fmod_nonneg_of_pos _ (by decide)
      have m2 : ((p : Int) + 1).fmod 3 < 3 := Int.fmod_lt_of_pos _ (by decide)
      generalize ((p : Int) + 1).fmod 3 = jl at m1 m2 ⊢
      obtain ⟨j, rfl⟩ := Int.eq_ofNat_of_zero_le m1
      exact kQ j (by refine (?_ : j < 3); walk_at "om")
    · repeat' walk_at "st"
      exact kQ p hp
    repeat' walk_at "st"
    refine t_isNone woAV_none ?_
    have hj3 : j < 3 := hj
    have g5 : heads3[j]? = some heads3[j] := List.getElem?_eq_getElem hj
    have g6 : ([AV.str "L", .str "M", .str "R"] : List AV)[j]? = some (.str heads3[j]) := by
      refine (?_ : (heads3.map AV.str)[j]? = _)
      (with_reducible refine rwE (List.getElem?_map) ?_; with_reducible refine rwE g5 ?_); rfl
    have g7 : OkW heads3[j] := heads3_ok j hj
    have g8 : ((worths3 v u).set p wo)[j]? = some (((worths3 v u).set p wo)[j]?).join := sets_at hj
    have g9 := nest_t hv hu q1 hp hj
    refine ⟨_, rfl, ifJ (fun _ : Unit => woAV (if wo.isNone then none else (((worths3 v u).set p wo)[j]?).join)) (fun _ => True) (fun Q' kQ => ⟨fun hw => ?_, fun hw => ?_⟩) fun _ _ => ?_⟩
    · rw [hw] at kQ
      repeat' walk_at "st"
      exact kQ () trivial
    · rw [hw] at kQ
      repeat' walk_at "st"
      refine t_subList (c := woAV (((worths3 v u).set p wo)[j]?).join) (.obj wa _ (by walk_at "mem")) (by walk_at "om") (by rw [List.getElem?_map]; show ((worths3 v u).set p wo)[j]?.map woAV = _; rw [g8]; rfl) (by walk_at "om") (fun _ _ _ => by with_unfolding_all rfl) ?_
      exact kQ () trivial
    generalize (if wo.isNone then none else (((worths3 v u).set p wo)[j]?).join) = wo2 at g9 ⊢
    repeat' walk_at "st"
    refine t_subTupN (j := j) g6 (by decide) (fun _ _ _ => by with_unfolding_all rfl) ?_
    repeat' walk_at "st"
    refine t_tupleOf (.obj pa _ (by walk_at "mem")) (by simp [sizeLine]) ?_
    refine t_addTup (by simp [sizeLine]) ?_
    repeat' walk_at "st"
    exact ⟨_, by walk_at "pks", .list (.sym heads3[j] :: parts3.set p it), wo2, by rw [itAV_list]; rfl, rfl, g9, nest_wf hp g7 q2, Nat.le_trans (nest_sz hp) (by walk_at "om"), l3, l4, l5, l6⟩
  · rintro M l ⟨J, pk, it, wo, l1, l2, q1, q2, q3, l3, l4, l5, l6⟩
    have hpk : Picks [(feed, o5), (plain, .dict (plainAV P))] (M ++ []) J := by rw [List.append_nil]; exact pk
    refine T0.keep hpk ?_
    repeat' walk_at "st"
    exact ⟨_, List.Sublist.refl _, hQ it wo o5 q1 (q2.mono (by simp; walk_at "om")) (by simp at q3; walk_at "om") (ho5.mono (by walk_at "om"))⟩
theorem Ts.toTab {W : Wd} {f : Fx} {n : Nat} {M M' : Mem} {loc : Loc} {EQ : Mem → Loc → Prop} {α β : Type} {R : Tab → α → β → Prop} {t : List Value → Sem α} {as : List AV} {Q : β → Mem → Loc → Prop} {x : Addr} (rp : Rp x (.dict []) (.tab []) M M') (q : Ts W f n R t as M' loc Q EQ) : Ts W f n R t as M loc Q EQ := by
  intro d S s vs ok H rs
  refine q d S s vs ok (H.reform rp fun o r => ?_) rs
  cases r with
  | dict kvs es h1 h2 =>
    cases h2
    refine byG fun G_ bk_ => ?_; obtain ⟨h3, es, ep, h4, h5, h6, h7⟩ := h1; refine bk_ ?_; clear bk_
    have he : es.toList = [] := by cases q : es.toList with
      | nil => rfl
      | cons e r => rw [q] at h6; cases h6
    exact .tab o es ep [] h3 h4 he (fun x hx => nomatch hx) List.nodup_nil
theorem Tc.drop {W : Wd} {f : Fx} {n : Nat} {fa : Addr} {M : Mem} {loc : Loc} {Q : AV → Mem → Loc → Prop} {EQ : Mem → Loc → Prop} {as : List AV}
    (c : Tc W f n fa as M loc (fun b M' l' => ∃ M'', M''.Sublist M' ∧ Q b M'' l') (fun M' l' => ∃ M'', M''.Sublist M' ∧ EQ M'' l')) : Tc W f n fa as M loc Q EQ := by
  intro d S s vs ok H rs
  refine codeAny_mono (c d S s vs ok H rs) (fun r s' h => ?_)
  cases r with
  | ok fl =>
    cases fl with
    | ret v =>
      refine byG fun G_ bk_ => ?_; obtain ⟨e, S', M', loc', b, k, H', r, M'', sub, q⟩ := h; refine bk_ ?_; clear bk_
      exact ⟨e, S', M'', loc', b, k, H'.sub sub, r, q⟩
    | _ => exact h
  | error v =>
    refine byG fun G_ bk_ => ?_; obtain ⟨e, ea, t, vs, g, m, news, S', M', loc', h1, k, G, LO, LC, ⟨M'', sub, q⟩, st⟩ := h; refine bk_ ?_; clear bk_
    exact ⟨e, ea, t, vs, g, m, news, S', M'', loc', h1, k, G, LO.sub sub, LC, q, st⟩
section
variable {w : World} {mean : ExcName → Option Value} {mg mb : Str → Option Value} {f : Fx} {n : Nat} {loc : Loc} {EQ : Mem → Loc → Prop}
set_option maxHeartbeats 8000000 in
theorem make_ok {dx nu to ta ts td : Addr} {fs : List (Str × AV)} {ks : List Str} {a b c d : List AV} {op : Str} (g1 : fs.lookup ("numbers" : Str) = some (.obj nu)) (g2 : fs.lookup ("term_ops" : Str) = some (.obj to)) (g3 : fs.lookup ("term_args" : Str) = some (.obj ta)) (g4 : fs.lookup ("term_sorts" : Str) = some (.obj ts)) (g5 : fs.lookup ("term_datas" : Str) = some (.obj td))
    (hk : op ∉ ks) (hop : PyData.strOk op = true) (hks : ks.length ≤ 100) (ha : a.length ≤ 100) (hb : b.length ≤ 100) (hc : c.length ≤ 100) (hd : d.length ≤ 100) :
    Ts (WW w mean mg mb) f (n + 1) (VR (WW w mean mg mb)) (fun vs => call (.ref 242) vs) [.minst 628 dx, .str op, .tup [], .int 0, .int 0] [(dx, .ns fs), (nu, .tab ks), (to, .list a), (ta, .list b), (ts, .list c), (td, .list d)] loc
    (fun r M' l' => l' = loc ∧ r = .int (a.length : Nat) ∧ M' = [(dx, .ns fs), (nu, .tab (ks ++ [op])), (to, .list (a ++ [.str op])), (ta, .list (b ++ [.tup []])), (ts, .list (c ++ [.int 0])), (td, .list (d ++ [.int 0]))]) EQ := by
  walk_at "def"
  repeat' walk_at "st"
  refine t_getTab (by walk_at "mem") hk hop noMods ?_
  repeat' walk_at "st"
  refine ⟨fun _ => ?_, fun h => absurd h (by decide)⟩
  repeat' walk_at "st"
  refine t_setTab (by walk_at "rp") hk hop (by walk_at "om") ?_
  repeat' walk_at "st"
/-- the addresses of a bank -/
structure BA where
  (sn sw fn fa fr to ta ts td nu : Addr)
noncomputable def bankFs (b : BA) : List (Str × AV) := [("sort_names", .obj b.sn), ("sort_widths", .obj b.sw), ("fun_names", .obj b.fn), ("fun_args", .obj b.fa), ("fun_results", .obj b.fr), ("fresh_count", .int 0), ("term_ops", .obj b.to), ("term_args", .obj b.ta), ("term_sorts", .obj b.ts), ("term_datas", .obj b.td), ("numbers", .obj b.nu), ("true_number", .int 1), ("false_number", .int 2)]
noncomputable abbrev bankM (b : BA) : Mem := [(b.sw, .list [.int 0, .int 0, .int 0]), (b.sn, .list [.str "Bool", .str "Int", .str "Real"])]
set_option maxHeartbeats 16000000 in
theorem bankinit_ok {dx : Addr} {Q : AV → Mem → Loc → Prop} (hQ : ∀ b, Q .none ((dx, .ns (bankFs b)) :: bankM b) loc) : Tc (WW w mean mg mb) f (n + 2) 109 [.minst 628 dx] [(dx, .ns [])] loc Q EQ := by
  refine Tc.drop ?_
  walk_at "cdef"
  repeat' walk_at "st"
  intro sn
  repeat' walk_at "st"
  intro sw
  repeat' walk_at "st"
  intro fn
  repeat' walk_at "st"
  intro fa
  repeat' walk_at "st"
  intro fr
  repeat' walk_at "st"
  intro to
  repeat' walk_at "st"
  intro ta
  repeat' walk_at "st"
  intro ts
  repeat' walk_at "st"
  intro td
  repeat' walk_at "st"
  intro nu
  repeat' walk_at "st"
  refine Ts.toTab (x := nu) (by walk_at "rp") ?_
  refine Ts.useC (by walk_at "pks") (Ts.det (make_ok (nu := nu) (to := to) (ta := ta) (ts := ts) (td := td) (ks := []) (a := [.str ""]) (b := [.tup []]) (c := [.int 0]) (d := [.int 0]) rfl rfl rfl rfl rfl (by decide) (by decide +kernel) (by decide) (by decide) (by decide) (by decide) (by decide)) ?_)
  repeat' walk_at "st"
  refine Ts.useC (by walk_at "pks") (Ts.det (make_ok (nu := nu) (to := to) (ta := ta) (ts := ts) (td := td) (ks := ["true"]) (a := [.str "", .str "true"]) (b := [.tup [], .tup []]) (c := [.int 0, .int 0]) (d := [.int 0, .int 0]) rfl rfl rfl rfl rfl (by decide) (by decide +kernel) (by decide) (by decide) (by decide) (by decide) (by decide)) ?_)
  repeat' walk_at "st"
  exact ⟨[(dx, _), (sw, _), (sn, _)], .cons_cons _ (.cons _ (.cons _ (.cons _ (.cons _ (.cons _ (.cons _ (.cons _ (.cons _ (List.Sublist.refl _))))))))), hQ ⟨sn, sw, fn, fa, fr, to, ta, ts, td, nu⟩⟩
set_option maxHeartbeats 8000000 in
theorem bankdecl_ok {sn sw : Addr} {fs : List (Str × AV)} {a b : List AV} {nm : Str} (g1 : fs.lookup ("sort_names" : Str) = some (.obj sn)) (g2 : fs.lookup ("sort_widths" : Str) = some (.obj sw)) (g3 : fs.lookup ("declare_sort" : Str) = none) (ha : a.length ≤ 100) (hb : b.length ≤ 100) :
    Ts (WW w mean mg mb) f (n + 1) (VR (WW w mean mg mb)) (fun vs => call (.ref 123) vs) [.finst 628 fs, .str nm] [(sn, .list a), (sw, .list b)] loc
    (fun r M' l' => l' = loc ∧ r = .int (a.length : Nat) ∧ M' = [(sn, .list (a ++ [.str nm])), (sw, .list (b ++ [.int 0]))]) EQ := by
  walk_at "def"
  repeat' walk_at "st"
  refine ⟨rfl, ?_, rfl⟩
  have : (((a ++ [AV.str nm]).length : Nat) : Int) - 1 = (a.length : Nat) := by rw [List.length_append]; simp
  show AV.int _ = AV.int _
  rw [this]
end
inductive BankEnd (dx : Addr) (loc : Loc) (r : AV) (M : Mem) (l : Loc) : Prop
  | mk (b : BA) (hr : r = .none) (hM : M = (dx, .ns (bankFs b)) :: bankM b) (hl : l = loc) : BankEnd dx loc r M l
set_option maxHeartbeats 8000000 in
theorem tc_super {w : World} {mean : ExcName → Option Value} {mg mb : Str → Option Value} {f : Fx} {n : Nat} {loc : Loc} {EQ : Mem → Loc → Prop} {dx : Addr} {Q : AV → Mem → Loc → Prop}
    (h : ∀ f' : Fx, f'.co = none → f'.sc.names.lookup ("self" : Str) = some .local → ∀ Q' : AV → Mem → Loc → Prop, (∀ b, Q' .none ((dx, .ns (bankFs b)) :: bankM b) (Loc.of ["self"] [.minst 628 dx])) → Tc (WW w mean mg mb) f' (n + 2) 109 [.minst 628 dx] [(dx, .ns [])] (Loc.of ["self"] [.minst 628 dx]) Q' (fun _ _ => False))
    (hq : ∀ bv b, Q .none ((bv, .dict []) :: (dx, .ns (bankFs b ++ [(("bv_numbers" : Str), AV.obj bv)])) :: bankM b) loc) :
    Tc (WW w mean mg mb) f (n + 3) 527 [.minst 628 dx] [(dx, .ns [])] loc Q EQ := by
  intro d S s vs ok H rs
  cases rs using VRs.consE with
  | cons v vs r1 rs =>
    cases rs using VRs.nilE
    have r1' := r1
    cases r1 using VR.minstE with
    | minst x hx =>
      have H0 := H
      obtain ⟨g, m, news, G, F, N, LO, LC⟩ := H
      have X₀ : (hd.heap_39 w.params).In g := ok.kin' G
      have T := ok.top' G
      have hfr : (d.A.deeper (f.env d)).frames = some (f.env d :: d.outer) := by
        refine (?_ : (d.A.frames.map (f.env d :: ·)) = _)
        rw [G.below.stack]; rfl
      refine' code_frameK (binds := [(("self" : Str), .ref x)]) (s := s) (env := f.env d) (L := d.L) G.below F X₀ N T G.dicts hfr rfl ok.kind ?ho ?hcd ?hroom ?hb ?hloc ?_ ?c1 ?c2 ?c3 ?c4
      case ho => k_is
      case hcd => k_is
      case hroom => have := ok.room; refine (?_ : d.A.depth + 1 < recursionLimit); walk_at "om"
      case hb => exact BindsTo.of_eq rfl
      case hloc => exact locs rfl
      case c1 => decide
      case c2 => exact rfl
      case c3 => exact rfl
      case c4 => exact rfl
      intro g' L' h₁ FG D' F' N' B' X' T' l1
      let f' : Fx := ⟨"TermBank.__init__", { kind := .function, names := [("self", .local), ("__class__", .free), ("super", .globalImplicit)], isGenerator := false, isCoroutine := false }, 527, .ref 526, none⟩
      let d' : Cy := ⟨d.A.deeper (f.env d), d.base, f.env d :: d.outer, g', L', d.Fm, [("__class__", 515)], none⟩
      have G' : Ground d' g' := ⟨B', KtsTurn.refl, D'⟩
      have lc : LocOk (WW w mean mg mb) S d' (fun y => ([(("self" : Str), Value.ref x)]).reverse.lookup y) (Loc.of ["self"] [.minst 628 dx]) := by
        refine ⟨fun c e => (by injection e), fun y a e => ?_⟩
        have hm : (y, a) = (("self" : Str), AV.minst 628 dx) := List.mem_singleton.mp (lookup_mem (l := [(("self" : Str), AV.minst 628 dx)]) e)
        obtain ⟨rfl, rfl⟩ := Prod.mk.inj hm
        exact ⟨.ref x, .inl ⟨rfl, rfl⟩, r1'⟩
      have ok' : Ok (WW w mean mg mb) f' (n + 2) d' := ⟨rfl, ok.kin, ok.top, by have := ok.room; refine (?_ : d.A.depth + 1 + (n + 2) + 1 < recursionLimit); walk_at "om", by have := ok.units; refine (?_ : d.A.units + 3 + 10 * (n + 2) + 10 < cLine); walk_at "om", ok.hand, ok.mods, (fun y => ⟨fun e => (by decide : ∀ p ∈ ([(("self" : Str), NameKind.local), ("__class__", .free), ("super", .globalImplicit)] : List (Str × NameKind)), p.2 = .local → ([(("__class__" : Str), (515 : Addr))]).lookup p.1 = none) _ (lookup_mem e) rfl, fun e => (by decide : ∀ p ∈ ([(("self" : Str), NameKind.local), ("__class__", .free), ("super", .globalImplicit)] : List (Str × NameKind)), p.2 = .cell → (([(("__class__" : Str), (515 : Addr))]).lookup p.1).isSome = true) _ (lookup_mem e) rfl⟩), trivial⟩
      have H1 : Here (WW w mean mg mb) d' S [(dx, .ns [])] (Loc.of ["self"] [.minst 628 dx]) h₁ := ⟨g', _, news, G', F', N', LO, lc⟩
      have ge : h₁.get? x = some (instObj 628 dx) := H1.at ok' hx
      obtain ⟨odx, hodx, _⟩ := H1.memAt (List.Mem.head _)
      have XX : (hd.heap_39 w.params).In h₁ := X'.keeps F'.keep
      have I : PySem.W.InstAt h₁ x (instObj 628 dx) 628 (some odx) := ⟨ge, rfl, rfl, hodx⟩
      refine ks_wpAt_execs_cons (ks_wpAt_Expr_any (ks_wpAt_MethodCall ?_))
      refine' ks_node (K := hd.heap_39 w.params) (x := x) (C := 628) (D := 628) F' X' N' T' ?n1 ?n2 ?n3 I ?n5 ?n6 ?n7 ?n8 ?n9 ?n10 ?n11 ?n12 ?n13 ?n14 ?n15 ?n16 ?n17 ?n18 ?_
      case n1 => k_is
      case n2 => rfl
      case n3 => rfl
      case n5 => k_is
      case n6 => rfl
      case n7 => show ((PySem.Challenge.rw_sj0102_01.row.prog.main.file : Str) == _) = true; decide +kernel
      case n8 => k_is
      case n9 => k_is
      case n10 => k_is
      case n11 => k_is
      case n12 => decide
      case n13 => rfl
      case n14 => rfl
      case n15 => rfl
      case n16 => rfl
      case n17 => show (List.lookup _ PySem.Challenge.rw_sj0102_01.row.prog.main.scope.names).isSome = false; decide +kernel
      case n18 => first | boot_fast | kernel_rfl
      intro so h₂ F₂ N₂ l2
      have H2 : Here (WW w mean mg mb) d' S [(dx, .ns [])] (Loc.of ["self"] [.minst 628 dx]) h₂ := ⟨g', _, _, G', F₂, N₂, LO.more fun p hp => .tail _ hp, lc⟩
      have ge2 : h₂.get? x = some (instObj 628 dx) := H2.at ok' hx
      obtain ⟨odx2, hodx2, _⟩ := H2.memAt (List.Mem.head _)
      have I2 : PySem.W.InstAt h₂ x (instObj 628 dx) 628 (some odx2) := ⟨ge2, rfl, rfl, hodx2⟩
      refine' ks_method (K := hd.heap_39 w.params) (x := x) (C := 628) (D := 628) (f2 := 109) F₂ X' N₂ (.head _) I2 ?m1 ?m2 ?m3 ?m4 ?_
      case m1 => k_is
      case m2 => ks_is
      case m3 => k_is
      case m4 => decide
      intro q h₃ F₃ N₃ l3
      have H3 : Here (WW w mean mg mb) d' S [(dx, .ns [])] (Loc.of ["self"] [.minst 628 dx]) h₃ := ⟨g', _, _, G', F₃, N₃, LO.more fun p hp => .tail _ (.tail _ hp), lc⟩
      have X3 : (hd.heap_39 w.params).In h₃ := X'.keeps F₃.keep
      refine callWith_M0 (K := hd.heap_39 w.params) (methP N₃ (.head _) X3) (by k_is) ?_
      refine call_meth N₃ (.head _) ?_
      refine codeAny_mono (h f' rfl rfl (BankEnd dx (Loc.of ["self"] [.minst 628 dx])) (fun b => ⟨b, rfl, rfl, rfl⟩) d' S _ [.ref x] ok' H3 (.cons _ _ _ _ r1' .nil)) (fun r s' z => ?_)
      cases r with
      | error v =>
        exact (ep_false z).elim
      | ok fl =>
        cases fl with
        | ret v =>
          obtain ⟨e1, S₄, M₄, loc₄, b, k₄, H₄, r₄, bb, hb4, rfl, hl4⟩ := z
          subst hl4
          refine _root_.PySem.wpAt_of_wpAny ?_
          have st : ∀ (p1 p2 p3 p4 : Pos), Ss (WW w mean mg mb) f' (n + 2) [.Assign [.Attribute (.Name "self" p1) "bv_numbers" p2] (.Dict [] [] p3) p4] ((dx, .ns (bankFs bb)) :: bankM bb) (Loc.of ["self"] [.minst 628 dx])
              (fun fl M'' _ => fl = .next ∧ ∃ bv, M'' = (bv, .dict []) :: (dx, .ns (bankFs bb ++ [(("bv_numbers" : Str), AV.obj bv)])) :: bankM bb) (fun _ _ => False) := by
            intro p1 p2 p3 p4
            unfold bankFs
            repeat' walk_at "st"
            intro bv
            repeat' walk_at "st"
            exact ⟨rfl, bv, rfl⟩
          have ek : TabLe S S₄ := k₄
          refine wpAny_mono (st _ _ _ _ d' S₄ s' ok' H₄) (fun fl s'' ⟨e, S', M', loc', afl, k, H₂, r, q⟩ => ?_) (fun v s'' ⟨e, z⟩ => ?_)
          · obtain ⟨g₂, m₂, news₂, G₂, F₂, N₂, LO₂, _⟩ := H₂
            obtain ⟨rfl, bv, rfl⟩ := q
            refine ⟨g₂, L', m₂, news₂, G₂.turn, F₂, N₂, fun h₀' T₃ F₃ N₃ B₃ => ?_⟩
            have k' : TabLe S S' := fun a o x => k a o (k₄ a o x)
            refine ⟨?_, S', _, loc, .none, k', ⟨h₀', m, news₂, ⟨B₃, G.turn.trans T₃, G.dicts.turn T₃⟩, F₃, N₃, LO₂, LC.mono k'⟩, ?_, hq bv bb⟩
            · exact Same.trans (s₁ := _) rfl (e1.trans e)
            · cases r; exact .none
          · exact (ep_false ⟨e, z⟩).elim
        | _ => exact z.elim
set_option maxHeartbeats 8000000 in
theorem tbank_ok {w : World} {mean : ExcName → Option Value} {mg mb : Str → Option Value} {f : Fx} {n : Nat} {loc : Loc} {EQ : Mem → Loc → Prop} {Q : AV → Mem → Loc → Prop}
    (hQ : ∀ fs sn sw, fs.lookup ("sort_names" : Str) = some (.obj sn) → fs.lookup ("sort_widths" : Str) = some (.obj sw) → fs.lookup ("declare_sort" : Str) = none → Q (.finst 628 fs) [(sw, .list [.int 0, .int 0, .int 0]), (sn, .list [.str "Bool", .str "Int", .str "Real"])] loc) :
    Ts (WW w mean mg mb) f (n + 4) (VR (WW w mean mg mb)) (fun vs => call (.ref 628) vs) [] [] loc Q EQ := by
  refine Ts.drop ?_
  refine t_newF (by walk_at "mk") (by walk_at "mk") (by walk_at "mk") fun dx => ?_
  refine tc_super (fun f' _ _ Q' h => bankinit_ok h) fun bv b => ?_
  exact ⟨rfl, _, _, .tail _ _ _ (.head _), _, .cons _ (List.Sublist.refl _), hQ _ b.sn b.sw rfl rfl rfl⟩
section
variable {w : World} {mean : ExcName → Option Value} {mg mb : Str → Option Value} {f : Fx} {n : Nat} {loc : Loc} {EQ : Mem → Loc → Prop}
set_option maxHeartbeats 8000000 in
theorem clear_ok {dx : Addr} {bk : AV} : Ts (WW w mean mg mb) f (n + 1) (VR (WW w mean mg mb)) (fun vs => call (.ref 674) vs) [.minst 782 dx] [(dx, .ns [(("bank" : Str), bk)])] loc
    (fun r M' l' => l' = loc ∧ r = .none ∧ ∃ so fu br sc le, M' = [(le, .list []), (sc, .list []), (br, .list []), (fu, .dict []), (so, .dict []), (dx, .ns [(("bank" : Str), bk), ("sorts", .obj so), ("functions", .obj fu), ("brought", .obj br), ("scopes", .obj sc), ("lets", .obj le), ("numeral_sort", .int 1)])]) EQ := by
  walk_at "def"
  repeat' walk_at "st"
  intro so
  repeat' walk_at "st"
  intro fu
  repeat' walk_at "st"
  intro br
  repeat' walk_at "st"
  intro sc
  repeat' walk_at "st"
  intro le
  repeat' walk_at "st"
  exact ⟨so, fu, br, sc, le, rfl⟩
set_option maxHeartbeats 8000000 in
theorem symbols_ok {bk : AV} : Ts (WW w mean mg mb) f (n + 3) (VR (WW w mean mg mb)) (fun vs => call (.ref 782) vs) [bk] [] loc
    (fun r M' l' => l' = loc ∧ ∃ so fu br sc le, r = symAV bk so fu br sc le ∧ M' = [(br, .list []), (so, .dict [])]) EQ := by
  refine Ts.drop ?_
  refine t_newF (by walk_at "mk") (by walk_at "mk") (by walk_at "mk") fun dx => ?_
  walk_at "cdef"
  repeat' walk_at "st"
  refine Ts.useF clear_ok (by walk_at "pks") ?_
  rintro b M' l' ⟨rfl, rfl, so, fu, br, sc, le, rfl⟩
  repeat' walk_at "st"
  exact ⟨rfl, _, _, .tail _ _ _ (.tail _ _ _ (.tail _ _ _ (.tail _ _ _ (.tail _ _ _ (.head _))))), _, .cons _ (.cons _ (.cons_cons _ (.cons _ (List.Sublist.refl _)))), rfl, so, fu, br, sc, le, rfl, rfl⟩
set_option maxHeartbeats 8000000 in
theorem reader_make {bk sy : AV} : Ts (WW w mean mg mb) f (n + 2) (VR (WW w mean mg mb)) (fun vs => call (.ref 885) vs) [bk, sy] [] loc
    (fun r M' l' => l' = loc ∧ r = rdAV bk sy ∧ M' = []) EQ := by
  refine t_newF (by walk_at "mk") (by walk_at "mk") (by walk_at "mk") fun dx => ?_
  walk_at "cdef"
  repeat' walk_at "st"
  exact ⟨rfl, _, _, .head _, rfl, rfl, rfl⟩
theorem entry_makeM {i : Int} {a b : AV} {loc : Loc} {M : Mem} : Ts (WW w mean mg mb) f (n + 2) (VR (WW w mean mg mb)) (fun vs => call (.ref 649) vs) [.int i, a, b] M loc (fun r M' l' => l' = loc ∧ ∃ dx, r = .minst 649 dx ∧ M' = (dx, .ns [("sort", .int i), ("params", a), ("body", b)]) :: M) EQ := by
  refine t_new (by walk_at "mk") (by walk_at "mk") (by walk_at "mk") fun dx => ?_
  walk_at "cdef"
  repeat' walk_at "st"
  exact rfl
set_option maxHeartbeats 8000000 in
theorem declare_ok {nm : Str} {fs : List (Str × AV)} {sn sw so fu br sc le : Addr} {es : List (Str × AV)} {L a b : List AV} (g1 : fs.lookup ("sort_names" : Str) = some (.obj sn)) (g2 : fs.lookup ("sort_widths" : Str) = some (.obj sw)) (g3 : fs.lookup ("declare_sort" : Str) = none) (ha : a.length ≤ 100) (hb : b.length ≤ 100) (hn : FreeW nm) (he : es.lookup nm = none) (h1 : es.length ≤ 1000) (h2 : L.length ≤ 1000) :
    Ts (WW w mean mg mb) f (n + 5) (VR (WW w mean mg mb)) (fun vs => call (.ref 723) vs) [symAV (.finst 628 fs) so fu br sc le, .str nm] [(so, .dict es), (br, .list L), (sn, .list a), (sw, .list b)] loc
    (fun r M' l' => l' = loc ∧ r = .int (a.length : Nat) ∧ ∃ dx, M' = [(sn, .list (a ++ [.str nm])), (sw, .list (b ++ [.int 0])), (so, .dict (es ++ [(nm, .minst 649 dx)])), (br, .list (L ++ [.tup [.str "sort", .str nm]])), (dx, .ns [("sort", .int (a.length : Nat)), ("params", .tup []), ("body", .none)])]) EQ := by
  refine Ts.drop ?_
  unfold symAV
  walk_at "def"
  repeat' walk_at "st"
  refine Ts.useF (entry_makeM (M := [])) (by walk_at "pks") ?_
  rintro r M' l' ⟨rfl, dx, rfl, rfl⟩
  repeat' walk_at "st"
  refine Ts.useC (by walk_at "pks") (Ts.det (bring_ok (L := L) hn he (by walk_at "om") (by walk_at "om")) ?_)
  repeat' walk_at "st"
  refine Ts.useC (by walk_at "pks") (Ts.det (bankdecl_ok g1 g2 g3 ha hb) ?_)
  repeat' walk_at "st"
  exact ⟨_, List.Sublist.refl _, rfl, rfl, dx, rfl⟩
end
/-- the law's own def -/
noncomputable def LawFd (w : World) (fd : FuncData) : Prop := ∃ oc od osl, (hd.heap_39 w.params).lookup 968 = some ⟨oc, od, .func fd, osl⟩
noncomputable abbrev lawF (fd : FuncData) (fa : Addr) (cd : Value) : Fx := ⟨fd.name, fd.scope, fa, cd, none⟩
noncomputable def lawBody (fd : FuncData) : List Stmt := match fd.body with
  | .stmts b => b
  | _ => []
theorem law_lit {K : Frag} {fd fd' : FuncData} {oc oc' : Value} {od od' : Option Addr} {osl osl' : Array (Option Value)} (h : K.lookup 968 = some ⟨oc, od, .func fd, osl⟩) (h' : K.lookup 968 = some ⟨oc', od', .func fd', osl'⟩) : fd = fd' := by
  rw [h] at h'
  injection h' with h'
  injection h' with _ _ h' _
  injection h'
noncomputable abbrev plainP : Plain := [("Bool", 0), ("Int", 1), ("U", 3), ("V", 4)]
/-- where the law's names stand -/
structure LocS (l : Loc) (feed plain chain : Addr) (bk : AV) (so fu br sc le : Addr) : Prop where
  feed : l "feed" = some (.obj feed)
  bank : l "bank" = some bk
  sym : l "symbols" = some (symAV bk so fu br sc le)
  plain : l "plain" = some (.obj plain)
  chain : l "chain" = some (.obj chain)
noncomputable abbrev uvT : Tbl := [("U", ⟨[], 3, none⟩), ("V", ⟨[], 4, none⟩)]
section
variable {w : World} {mean : ExcName → Option Value} {mg mb : Str → Option Value} {EQ : Mem → Loc → Prop}
set_option maxHeartbeats 16000000 in
theorem lawA {fd : FuncData} (hfd : LawFd w fd) {fa : Addr} {cd : Value} {n : Nat} {l : Loc} {cA : Addr} {cells : List Int} (hc : cells.length ≤ 60) (l1 : l "cells" = some (.obj cA))
    (hB : ∀ (l : Loc) (o : AO) (feed plain chain : Addr) (bk : AV) (so fu br sc le : Addr), Feed 0 o → LocS l feed plain chain bk so fu br sc le → Ss (WW w mean mg mb) (lawF fd fa cd) (n + 20) ((lawBody fd).drop 4) [(so, .dict (sortsAV uvT)), (br, .list (brAV ["U", "V"])), (chain, .list []), (plain, .dict (plainAV plainP)), (feed, o)] l (fun fl _ _ => fl = .ret (.bool true)) (fun _ _ => False)) :
    Ss (WW w mean mg mb) (lawF fd fa cd) (n + 20) ((lawBody fd).drop 1) [(cA, .list (cells.map .int))] l (fun fl _ _ => fl = .ret (.bool true)) (fun _ _ => False) := by
  obtain ⟨oc, od, osl, h⟩ := hfd
  have e := law_lit h (by walk_at "mk")
  subst e
  clear h
  dsimp only [lawBody, List.drop, lawF]
  with_reducible refine' T0.frzL (y := "cells") (x := cA) ?l1 ?pk ?_
  case l1 => exact l1
  case pk => walk_at "pk"
  repeat' walk_at "st"
  refine' sx_UnpackSwap (names := ["feed", "bank"]) ?_ ?hco ?hl ?hs ?hw
  case hw => intro _; exact rfl
  case hco => exact rfl
  case hl => exact rfl
  case hs => intro _; exact rfl
  repeat' walk_at "st"
  intro feed
  repeat' walk_at "st"
  refine t_sum (.frozen _) ?_
  repeat' walk_at "st"
  generalize cells.sum = tot
  have ho : Feed 0 (feedD cells 0 tot) := ⟨cells, 0, tot, rfl, hc, Int.le_refl _, Int.le_refl _⟩
  generalize hod : feedD cells 0 tot = o at ho
  have hod' : AO.dict [("cells", AV.flist (cells.map .int)), ("turn", .int 0), ("sum", .int tot)] = o := hod
  rw [hod']
  refine Ts.useC (by walk_at "pks") (tbank_ok fun bfs sn sw g1 g2 g3 => ?_)
  repeat' walk_at "st"
  refine ⟨rfl, ?_⟩
  repeat' walk_at "st"
  refine' sx_UnpackSwap (names := ["symbols", "plain", "chain"]) ?_ ?hco ?hl ?hs ?hw
  case hw => intro _; exact rfl
  case hco => exact rfl
  case hl => exact rfl
  case hs => intro _; exact rfl
  repeat' walk_at "st"
  refine Ts.useF symbols_ok (by walk_at "pks") ?_
  rintro r M' l' ⟨rfl, so, fu, br, sc, le, rfl, rfl⟩
  unfold symAV
  repeat' walk_at "st"
  intro plain
  repeat' walk_at "st"
  intro chain
  repeat' walk_at "st"
  refine ⟨rfl, ?_⟩
  repeat' walk_at "st"
  refine Ts.useF (declare_ok (so := so) (fu := fu) (br := br) (sc := sc) (le := le) (es := []) (L := []) (a := [.str "Bool", .str "Int", .str "Real"]) (b := [.int 0, .int 0, .int 0]) g1 g2 g3 (by decide) (by decide) ⟨by decide, by decide, by decide⟩ rfl (by decide) (by decide)) (by walk_at "pks") ?_
  rintro r M' l' ⟨rfl, rfl, dx, rfl⟩
  refine Sp.fixIn (C := 649) (dx := dx) (a := so) (by walk_at "pk") (by walk_at "rp") ?_
  have eU : (([] : List (Str × AV)) ++ [(("U" : Str), AV.minst 649 dx)]).map (fun e => (e.1, fixAV 649 dx [("sort", .int ((3 : Nat) : Int)), ("params", .tup []), ("body", .none)] e.2)) = [(("U" : Str), entAV ⟨[], 3, none⟩)] := by
    simp [fixAV, entAV]
  refine Sp.keep (M' := [(sn, .list [.str "Bool", .str "Int", .str "Real", .str "U"]), (sw, .list [.int 0, .int 0, .int 0, .int 0]), (so, .dict [(("U" : Str), entAV ⟨[], 3, none⟩)]), (br, .list [.tup [.str "sort", .str "U"]]), (chain, .list []), (plain, .dict [(("Bool" : Str), .int 0), ("Int", .int 1)]), (feed, o)]) (by rw [← eU]; walk_at "pks") ?_
  repeat' walk_at "st"
  refine Ts.useF (declare_ok (so := so) (fu := fu) (br := br) (sc := sc) (le := le) (es := [(("U" : Str), entAV ⟨[], 3, none⟩)]) (L := [.tup [.str "sort", .str "U"]]) (a := [.str "Bool", .str "Int", .str "Real", .str "U"]) (b := [.int 0, .int 0, .int 0, .int 0]) g1 g2 g3 (by decide) (by decide) ⟨by decide, by decide, by decide⟩ rfl (by decide) (by decide)) (by walk_at "pks") ?_
  rintro r M' l' ⟨rfl, rfl, dv, rfl⟩
  refine Sp.fixIn (C := 649) (dx := dv) (a := so) (by walk_at "pk") (by walk_at "rp") ?_
  have eV : ([(("U" : Str), entAV ⟨[], 3, none⟩)] ++ [(("V" : Str), AV.minst 649 dv)]).map (fun e => (e.1, fixAV 649 dv [("sort", .int ((4 : Nat) : Int)), ("params", .tup []), ("body", .none)] e.2)) = sortsAV [(("U" : Str), ⟨[], 3, none⟩), ("V", ⟨[], 4, none⟩)] := by
    simp [fixAV, entAV, sortsAV]
  refine Sp.keep (M' := [(so, .dict (sortsAV [(("U" : Str), ⟨[], 3, none⟩), ("V", ⟨[], 4, none⟩)])), (br, .list (brAV ["U", "V"])), (chain, .list []), (plain, .dict [(("Bool" : Str), .int 0), ("Int", .int 1)]), (feed, o)]) (by rw [← eV]; walk_at "pks") ?_
  repeat' walk_at "sx"
  refine hB _ o feed plain chain (.finst 628 bfs) so fu br sc le ho ?_
  exact ⟨rfl, rfl, rfl, rfl, rfl⟩
end
section
variable {w : World} {mean : ExcName → Option Value} {mg mb : Str → Option Value} {EQ : Mem → Loc → Prop}
structure LocT (l : Loc) (feed plain chain : Addr) (bk : AV) (so fu br sc le : Addr) (form many shift back way : Int) : Prop where
  base : LocS l feed plain chain bk so fu br sc le
  rd : l "reader" = some (rdAV bk (symAV bk so fu br sc le))
  form : l "form" = some (.int form)
  many : l "many" = some (.int many)
  shift : l "shift" = some (.int shift)
  back : l "back" = some (.int back)
  way : l "way" = some (.int way)
noncomputable abbrev lawKeys : List Str := ["feed", "bank", "symbols", "plain", "chain", "reader", "form", "many", "shift", "back", "way"]
/-- stores in other names -/
theorem LocT.keep {l l' : Loc} {feed plain chain : Addr} {bk : AV} {so fu br sc le : Addr} {form many shift back way : Int} (L : LocT l feed plain chain bk so fu br sc le form many shift back way) (h : lawKeys.map l' = lawKeys.map l) : LocT l' feed plain chain bk so fu br sc le form many shift back way :=
  have g : ∀ x ∈ lawKeys, l' x = l x := List.map_inj_left.mp h
  ⟨⟨(g _ (by decide)).trans L.base.feed, (g _ (by decide)).trans L.base.bank, (g _ (by decide)).trans L.base.sym, (g _ (by decide)).trans L.base.plain, (g _ (by decide)).trans L.base.chain⟩, (g _ (by decide)).trans L.rd, (g _ (by decide)).trans L.form, (g _ (by decide)).trans L.many, (g _ (by decide)).trans L.shift, (g _ (by decide)).trans L.back, (g _ (by decide)).trans L.way⟩
noncomputable abbrev manyL : List Int := [16, 11, 11, 2]
noncomputable abbrev moreL : List Int := [6, 5, 4, 3]
noncomputable def PsOk (ps : List Str) : Prop := ps = [] ∨ ps = [("X" : Str)] ∨ ps = [("U" : Str), "X"]
noncomputable def menuAV (mL : List (List Str)) : List AV := mL.map fun ps => .tup (ps.map .str)
structure Nums (form many shift back way : Nat) : Prop where
  hform : form < 4
  hmany : 2 ≤ many ∧ many ≤ 30
  hshift : shift < many
  hback : 1 ≤ back ∧ back ≤ many ∧ back ≤ 3
  hway : way < 5
theorem min3 {m : Int} (h : 2 ≤ m) : 0 < (if m < 3 then m else 3) ∧ (if m < 3 then m else 3) ≤ 3 ∧ (if m < 3 then m else 3) ≤ m := by
  by_cases q : m < 3
  · exact rwE (P := fun z => 0 < z ∧ z ≤ 3 ∧ z ≤ m) (if_pos q) ⟨Int.lt_of_lt_of_le (by decide) h, Int.le_of_lt q, Int.le_refl _⟩
  · exact rwE (P := fun z => 0 < z ∧ z ≤ 3 ∧ z ≤ m) (if_neg q) ⟨by decide, by decide, Int.not_lt.mp q⟩
theorem many_ok : ∀ (i : Nat) (h : i < 4), ∃ a b : Int, manyL[i]? = some a ∧ moreL[i]? = some b ∧ 2 ≤ a ∧ a ≤ 16 ∧ 0 < b ∧ b ≤ 6
  | 0, _ => ⟨16, 6, rfl, rfl, by decide, by decide, by decide, by decide⟩
  | 1, _ => ⟨11, 5, rfl, rfl, by decide, by decide, by decide, by decide⟩
  | 2, _ => ⟨11, 4, rfl, rfl, by decide, by decide, by decide, by decide⟩
  | 3, _ => ⟨2, 3, rfl, rfl, by decide, by decide, by decide, by decide⟩
set_option maxHeartbeats 16000000 in
theorem lawB {fd : FuncData} (hfd : LawFd w fd) {fa : Addr} {cd : Value} {n : Nat} {l : Loc} {o : AO} {feed plain chain : Addr} {bk : AV} {so fu br sc le : Addr} (ho : Feed 0 o) (L : LocS l feed plain chain bk so fu br sc le)
    (hC : ∀ (l : Loc) (o : AO) (menu : Addr) (mL : List (List Str)) (form many shift back way : Nat), Feed 6 o → LocT l feed plain chain bk so fu br sc le form many shift back way → l "menu" = some (.obj menu) → Nums form many shift back way → mL ≠ [] → mL.length ≤ 4 → (∀ ps ∈ mL, PsOk ps) →
      Ss (WW w mean mg mb) (lawF fd fa cd) (n + 20) ((lawBody fd).drop 8) [(menu, .list (menuAV mL)), (feed, o), (so, .dict (sortsAV uvT)), (br, .list (brAV ["U", "V"])), (chain, .list []), (plain, .dict (plainAV plainP))] l (fun fl _ _ => fl = .ret (.bool true)) (fun _ _ => False)) :
    Ss (WW w mean mg mb) (lawF fd fa cd) (n + 20) ((lawBody fd).drop 4) [(so, .dict (sortsAV uvT)), (br, .list (brAV ["U", "V"])), (chain, .list []), (plain, .dict (plainAV plainP)), (feed, o)] l (fun fl _ _ => fl = .ret (.bool true)) (fun _ _ => False) := by
  obtain ⟨oc, od, osl, h⟩ := hfd
  have e := law_lit h (by walk_at "mk")
  subst e
  clear h
  obtain ⟨l1, l2, l3, l4, l5⟩ := L
  unfold symAV at l3
  dsimp only [lawBody, List.drop, lawF]
  repeat' walk_at "st"
  refine' sx_UnpackSwap (names := ["reader", "form"]) ?_ ?hco ?hl ?hs ?hw
  case hw => intro _; exact rfl
  case hco => exact rfl
  case hl => exact rfl
  case hs => intro _; exact rfl
  repeat' walk_at "st"
  refine Ts.useC (by walk_at "pks") (Ts.det (reader_make) ?_)
  repeat' walk_at "st"
  refine Ts.useC (by walk_at "pks") (draw_ok ho (by decide) (by decide) fun form o1 a1 a2 ho1 => ?_)
  repeat' walk_at "st"
  refine ⟨rfl, ?_⟩
  repeat' walk_at "st"
  obtain ⟨fm, rfl⟩ := Int.eq_ofNat_of_zero_le a1
  have hfm : fm < 4 := by walk_at "om"
  obtain ⟨base, more, q1, q2, b1, b2, b3, b4⟩ := many_ok fm hfm
  refine t_subTupN (j := fm) (c := .int base) (by show (manyL.map AV.int)[fm]? = _; rw [List.getElem?_map, q1]; rfl) (by decide) (fun _ _ _ => by with_unfolding_all rfl) ?_
  repeat' walk_at "st"
  refine t_subTupN (j := fm) (c := .int more) (by show (moreL.map AV.int)[fm]? = _; rw [List.getElem?_map, q2]; rfl) (by decide) (fun _ _ _ => by with_unfolding_all rfl) ?_
  repeat' walk_at "st"
  refine Ts.useC (by walk_at "pks") (draw_ok ho1 (by decide) b3 fun dm o2 c1 c2 ho2 => ?_)
  repeat' walk_at "st"
  have hmany : 2 ≤ base + dm ∧ base + dm ≤ 30 := ⟨Int.le_trans b1 (Int.le_add_of_nonneg_right c1), Int.le_trans (Int.add_le_add b2 (Int.le_trans (Int.le_of_lt c2) b4)) (by decide)⟩
  generalize base + dm = mi at hmany ⊢
  obtain ⟨many, rfl⟩ := Int.eq_ofNat_of_zero_le (show 0 ≤ mi by walk_at "om")
  refine' sx_UnpackSwap (names := ["shift", "back", "way"]) ?_ ?hco ?hl ?hs ?hw
  case hw => intro _; exact rfl
  case hco => exact rfl
  case hl => exact rfl
  case hs => intro _; exact rfl
  repeat' walk_at "st"
  refine Ts.useC (by walk_at "pks") (draw_ok ho2 (by decide) (by walk_at "om") fun ds o3 d1 d2 ho3 => ?_)
  repeat' walk_at "st"
  refine t_min ?_
  have hmin : 0 < (if (many : Int) < 3 then (many : Int) else 3) ∧ (if (many : Int) < 3 then (many : Int) else 3) ≤ 3 ∧ (if (many : Int) < 3 then (many : Int) else 3) ≤ many := min3 hmany.1
  generalize (if (many : Int) < 3 then (many : Int) else 3) = mn at hmin ⊢
  repeat' walk_at "st"
  refine Ts.useC (by walk_at "pks") (draw_ok ho3 (by decide) hmin.1 fun db o4 e1 e2 ho4 => ?_)
  repeat' walk_at "st"
  refine Ts.useC (by walk_at "pks") (draw_ok ho4 (by decide) (by decide) fun dw o5 f1 f2 ho5 => ?_)
  repeat' walk_at "st"
  refine ⟨rfl, ?_⟩
  have hdb : 1 + db ≤ mn := rwE (P := fun z => z ≤ mn) (Int.add_comm 1 db) (Int.add_one_le_of_lt e2)
  have hback : 1 ≤ 1 + db ∧ 1 + db ≤ many ∧ 1 + db ≤ 3 := ⟨Int.le_add_of_nonneg_right e1, Int.le_trans hdb hmin.2.2, Int.le_trans hdb hmin.2.1⟩
  generalize 1 + db = bi at hback ⊢
  obtain ⟨shift, rfl⟩ := Int.eq_ofNat_of_zero_le d1
  obtain ⟨back, rfl⟩ := Int.eq_ofNat_of_zero_le (show 0 ≤ bi by walk_at "om")
  obtain ⟨way, rfl⟩ := Int.eq_ofNat_of_zero_le f1
  repeat' walk_at "st"
  intro m0
  repeat' walk_at "st"
  intro m1
  repeat' walk_at "st"
  intro m2
  repeat' walk_at "st"
  intro m3
  repeat' walk_at "st"
  have nums : Nums fm many shift back way := ⟨hfm, ⟨Int.ofNat_le.mp hmany.1, Int.ofNat_le.mp hmany.2⟩, Int.ofNat_lt.mp d2, ⟨Int.ofNat_le.mp hback.1, Int.ofNat_le.mp hback.2.1, Int.ofNat_le.mp hback.2.2⟩, Int.ofNat_lt.mp f2⟩
  obtain rfl | rfl | rfl | rfl : fm = 0 ∨ fm = 1 ∨ fm = 2 ∨ fm = 3 := by walk_at "om"
  · refine t_subTupN (j := 0) (c := .obj m0) rfl (by simp) (fun _ _ _ => by with_unfolding_all rfl) ?_
    repeat' walk_at "sx"
    refine T0.keep (M' := [(m0, .list (menuAV [[]])), (feed, o5), (so, .dict (sortsAV uvT)), (br, .list (brAV ["U", "V"])), (chain, .list []), (plain, .dict (plainAV plainP))]) (by walk_at "pks") ?_
    refine hC _ o5 m0 [[]] 0 many shift back way (ho5.mono (by decide)) ?_ ?_ nums (by decide) (by decide) (by simp [PsOk])
    · exact ⟨⟨l1, l2, l3, l4, l5⟩, rfl, rfl, rfl, rfl, rfl, rfl⟩
    · rfl
  · refine t_subTupN (j := 1) (c := .obj m1) rfl (by simp) (fun _ _ _ => by with_unfolding_all rfl) ?_
    repeat' walk_at "sx"
    refine T0.keep (M' := [(m1, .list (menuAV [[("X" : Str)]])), (feed, o5), (so, .dict (sortsAV uvT)), (br, .list (brAV ["U", "V"])), (chain, .list []), (plain, .dict (plainAV plainP))]) (by walk_at "pks") ?_
    refine hC _ o5 m1 [[("X" : Str)]] 1 many shift back way (ho5.mono (by decide)) ?_ ?_ nums (by decide) (by decide) (by simp [PsOk])
    · exact ⟨⟨l1, l2, l3, l4, l5⟩, rfl, rfl, rfl, rfl, rfl, rfl⟩
    · rfl
  · refine t_subTupN (j := 2) (c := .obj m2) rfl (by simp) (fun _ _ _ => by with_unfolding_all rfl) ?_
    repeat' walk_at "sx"
    refine T0.keep (M' := [(m2, .list (menuAV [[], [("X" : Str)], [("U" : Str), "X"], []])), (feed, o5), (so, .dict (sortsAV uvT)), (br, .list (brAV ["U", "V"])), (chain, .list []), (plain, .dict (plainAV plainP))]) (by walk_at "pks") ?_
    refine hC _ o5 m2 [[], [("X" : Str)], [("U" : Str), "X"], []] 2 many shift back way (ho5.mono (by decide)) ?_ ?_ nums (by decide) (by decide) (by simp [PsOk])
    · exact ⟨⟨l1, l2, l3, l4, l5⟩, rfl, rfl, rfl, rfl, rfl, rfl⟩
    · rfl
  · refine t_subTupN (j := 3) (c := .obj m3) rfl (by simp) (fun _ _ _ => by with_unfolding_all rfl) ?_
    repeat' walk_at "sx"
    refine T0.keep (M' := [(m3, .list (menuAV [[("X" : Str)], []])), (feed, o5), (so, .dict (sortsAV uvT)), (br, .list (brAV ["U", "V"])), (chain, .list []), (plain, .dict (plainAV plainP))]) (by walk_at "pks") ?_
    refine hC _ o5 m3 [[("X" : Str)], []] 3 many shift back way (ho5.mono (by decide)) ?_ ?_ nums (by decide) (by decide) (by simp [PsOk])
    · exact ⟨⟨l1, l2, l3, l4, l5⟩, rfl, rfl, rfl, rfl, rfl, rfl⟩
    · rfl
end
noncomputable def dName (i : Nat) : Str := Str.ofString "D" ++ Str.ofString (toString (Int.ofNat i))
theorem dName_ok : ∀ i, i < 40 → OkW (dName i) ∧ FreeW (dName i) := by
  have : ∀ i, i < 40 → (dName i ≠ "Real" ∧ dName i ≠ "_" ∧ (dName i).length ≤ 100) ∧ (dName i ∉ ownW ∧ dName i ∉ keyW ∧ (dName i).length ≤ 100) := by decide +kernel
  exact this
theorem dName_inj : ∀ i, i < 40 → ∀ j, j < 40 → dName i = dName j → i = j := by decide +kernel
theorem dName_far : ∀ i, i < 40 → dName i ∉ ([("U" : Str), "V", "A", "L", "M", "R", "Deep", "Nope", "Bool", "Int", "X", "Y", "Z"] : List Str) := by decide +kernel
theorem dName_ascii : ∀ i, i < 40 → PyData.strOk (dName i) = true := by decide +kernel
mutual
/-- the item does not speak of the deep row -/
noncomputable def noD : It → Prop
  | .sym x => x ≠ ("Deep" : Str)
  | .list l => noDs l
noncomputable def noDs : List It → Prop
  | [] => True
  | i :: r => noD i ∧ noDs r
end
theorem noDs_all : ∀ {l : List It}, (∀ i ∈ l, noD i) → noDs l
  | [], _ => trivial
  | _ :: _, h => ⟨h _ (List.mem_cons_self ..), noDs_all fun i hi => h i (List.mem_cons_of_mem _ hi)⟩
structure ChainOk (D S : Nat) (ch : List Row) : Prop where
  at_ : ∀ (i : Nat) (r : Row), ch[i]? = some r → r.nm = dName i ∧ PsOk r.ps ∧ Wf D r.it ∧ szI r.it ≤ S
  len : ch.length ≤ 30
  nod : ∀ r ∈ ch, noD r.it
theorem PsOk.len {ps : List Str} (h : PsOk ps) : ps.length ≤ 2 := by rcases h with rfl | rfl | rfl <;> decide
theorem PsOk.okw {ps : List Str} (h : PsOk ps) {x : Str} (hx : x ∈ ps ++ words4) : OkW x := by
  have : ∀ x ∈ ([("U" : Str), "X", "Int", "U", "V", "Bool"] : List Str), OkW x := by
    show ∀ x ∈ _, _ ∧ _ ∧ _
    decide +kernel
  refine this x ((?_ : ∀ y ∈ ps ++ words4, y ∈ _) x hx)
  rcases h with rfl | rfl | rfl <;> decide +kernel
theorem PsOk.nod {ps : List Str} (h : PsOk ps) {x : Str} (hx : x ∈ ps ++ words4) : x ≠ ("Deep" : Str) := by
  have : ∀ y ∈ ps ++ words4, y ≠ ("Deep" : Str) := by rcases h with rfl | rfl | rfl <;> decide +kernel
  exact this x hx
theorem chain_nod {D S : Nat} {ch : List Row} (h : ChainOk D S ch) {i : Nat} {r : Row} (hr : ch[i]? = some r) : r.nm ≠ ("Deep" : Str) ∧ noD r.it := by
  have hi := (List.getElem?_eq_some_iff.mp hr).1
  have hl := h.len
  refine ⟨?_, h.nod r (List.mem_of_getElem? hr)⟩
  rw [(h.at_ i r hr).1]
  intro e
  exact dName_far i (by walk_at "om") (by rw [e]; decide)
theorem use_nod {nm : Str} {qs ps : List Str} {it : It} (hn : nm ≠ ("Deep" : Str)) (hp : PsOk ps) (h : UseOk nm qs ps it) : noD it := by
  rcases h with ⟨_, rfl⟩ | ⟨_, ws, _, hx, rfl⟩
  · exact hn
  · refine ⟨hn, noDs_all fun i hi => ?_⟩
    obtain ⟨x, hx', rfl⟩ := List.mem_map.mp hi
    exact hp.nod (hx x hx')
theorem szL_syms : ∀ {l : List Str}, szL (l.map .sym) = l.length
  | [] => rfl
  | x :: l => by
    rw [List.map_cons, szL, szL_syms, szI, List.length_cons]; walk_at "om"
theorem use_wf {nm : Str} {qs ps : List Str} {it : It} (hn : OkW nm) (hq : qs.length ≤ 2) (hp : PsOk ps) (h : UseOk nm qs ps it) : Wf 1 it ∧ szI it ≤ 4 := by
  rcases h with ⟨_, rfl⟩ | ⟨hne, ws, hw, hx, rfl⟩
  · exact ⟨wf_word hn 1, by simp [szI]⟩
  · refine ⟨⟨nm, ws.map .sym, rfl, hn, ?_, by rw [List.length_map]; walk_at "om", fun i hi => ?_⟩, ?_⟩
    · intro e
      cases ws with
      | nil => exact hne (List.length_eq_zero_iff.mp hw.symm)
      | cons => injection e
    · obtain ⟨x, hx', rfl⟩ := List.mem_map.mp hi
      exact wf_word (hp.okw (hx x hx')) 0
    · rw [szI, szL, szI, szL_syms]; walk_at "om"
theorem chain_row {D S : Nat} {ch : List Row} (h : ChainOk D S ch) {i : Nat} {r : Row} (hr : ch[i]? = some r) : OkW r.nm ∧ r.ps.length ≤ 2 ∧ i < 30 := by
  have hi := (List.getElem?_eq_some_iff.mp hr).1
  have hl := h.len
  obtain ⟨h1, h2, _⟩ := h.at_ i r hr
  exact ⟨by rw [h1]; exact (dName_ok i (by walk_at "om")).1, h2.len, by walk_at "om"⟩
theorem drawn_wf {D S : Nat} {ch : List Row} (h : ChainOk D S ch) {j : Nat} {ps : List Str} {it : It} (hp : PsOk ps) (hd : DrawnOk ch j ps it) : Wf 2 it ∧ szI it ≤ 20 := by
  rcases hd with ⟨_, x, rfl, hx⟩ | ⟨_, hd, one, other, last, r, hh, hr, hu1, hu2, hl, rfl⟩
  · exact ⟨wf_word (hp.okw hx) 2, by simp [szI]⟩
  · obtain ⟨k1, k2, _⟩ := chain_row h hr
    obtain ⟨u1, v1⟩ := use_wf k1 k2 hp hu1
    obtain ⟨u2, v2⟩ := use_wf k1 k2 hp hu2
    have hlast : Wf 1 last ∧ szI last ≤ 4 := by
      rcases hl with ⟨x, rfl, hx⟩ | ⟨i, r', _, hr', hu3⟩
      · exact ⟨wf_word (hp.okw hx) 1, by simp [szI]⟩
      · obtain ⟨k3, k4, _⟩ := chain_row h hr'
        exact use_wf k3 k4 hp hu3
    have hh' : OkW hd := by rcases hh with rfl | rfl | rfl <;> exact ⟨by decide, by decide, by decide⟩
    refine ⟨⟨hd, [one, other, last], rfl, hh', by simp, by simp, fun i hi => ?_⟩, by simp only [szI, szL]; walk_at "om"⟩
    simp only [List.mem_cons, List.not_mem_nil, or_false] at hi
    rcases hi with rfl | rfl | rfl
    · exact u1
    · exact u2
    · exact hlast.1
theorem spoiled_wf {ch : List Row} (h : ChainOk 2 20 ch) {p : Nat} {it : It} (hs : SpoiledOk ch p it) : Wf 3 it ∧ szI it ≤ 60 := by
  obtain ⟨r, hr, hs⟩ := hs
  obtain ⟨h1, h2, h3, h4⟩ := h.at_ p r hr
  rcases hs with rfl | ⟨i, r', late, x, hr', hu, hx, rfl⟩ | rfl
  · refine ⟨⟨"M", [.sym "Nope", r.it, r.it], rfl, ⟨by decide, by decide, by decide⟩, by simp, by simp, fun i hi => ?_⟩, by simp only [szI, szL]; walk_at "om"⟩
    simp only [List.mem_cons, List.not_mem_nil, or_false] at hi
    rcases hi with rfl | rfl | rfl
    · exact wf_word ⟨by decide, by decide, by decide⟩ 2
    · exact h3
    · exact h3
  · obtain ⟨k3, k4, _⟩ := chain_row h hr'
    obtain ⟨u1, v1⟩ := use_wf k3 k4 h2 hu
    refine ⟨⟨"L", [r.it, late, .sym x], rfl, ⟨by decide, by decide, by decide⟩, by simp, by simp, fun i hi => ?_⟩, by simp only [szI, szL]; walk_at "om"⟩
    simp only [List.mem_cons, List.not_mem_nil, or_false] at hi
    rcases hi with rfl | rfl | rfl
    · exact h3
    · exact u1.mono (by decide)
    · exact wf_word (h2.okw hx) 2
  · refine ⟨⟨"A", [r.it, .sym "Int"], rfl, ⟨by decide, by decide, by decide⟩, by simp, by simp, fun i hi => ?_⟩, by simp only [szI, szL]; walk_at "om"⟩
    simp only [List.mem_cons, List.not_mem_nil, or_false] at hi
    rcases hi with rfl | rfl
    · exact h3
    · exact wf_word ⟨by decide, by decide, by decide⟩ 2
theorem drawn_nod {D S : Nat} {ch : List Row} (h : ChainOk D S ch) {j : Nat} {ps : List Str} {it : It} (hp : PsOk ps) (hd : DrawnOk ch j ps it) : noD it := by
  rcases hd with ⟨_, x, rfl, hx⟩ | ⟨_, hd, one, other, last, r, hh, hr, hu1, hu2, hl, rfl⟩
  · exact hp.nod hx
  · have k1 := (chain_nod h hr).1
    refine ⟨?_, use_nod k1 hp hu1, use_nod k1 hp hu2, ?_, trivial⟩
    · rcases hh with rfl | rfl | rfl <;> (unfold noD; decide)
    · rcases hl with ⟨x, rfl, hx⟩ | ⟨i, r', _, hr', hu3⟩
      · exact hp.nod hx
      · exact use_nod (chain_nod h hr').1 hp hu3
theorem spoiled_nod {D S : Nat} {ch : List Row} (h : ChainOk D S ch) {p : Nat} {it : It} (hs : SpoiledOk ch p it) : noD it := by
  obtain ⟨r, hr, hs⟩ := hs
  have h2 := (h.at_ p r hr).2.1
  have k := (chain_nod h hr).2
  rcases hs with rfl | ⟨i, r', late, x, hr', hu, hx, rfl⟩ | rfl
  · exact ⟨by unfold noD; decide, by unfold noD; decide, k, k, trivial⟩
  · exact ⟨by unfold noD; decide, k, use_nod (chain_nod h hr').1 h2 hu, h2.nod hx, trivial⟩
  · exact ⟨by unfold noD; decide, k, by unfold noD; decide, trivial⟩
theorem ChainOk.snoc {D S : Nat} {ch : List Row} (h : ChainOk D S ch) {ps : List Str} {it : It} (hp : PsOk ps) (hw : Wf D it) (hs : szI it ≤ S) (hd : noD it) (hl : ch.length < 30) : ChainOk D S (ch ++ [⟨dName ch.length, ps, it⟩]) := by
  refine ⟨fun i r hr => ?_, by with_reducible refine rwE List.length_append ?_; simp; walk_at "om", fun r hr => ?_⟩
  rotate_left
  · rcases List.mem_append.mp hr with hr | hr
    · exact h.nod r hr
    · with_reducible refine rwE (List.mem_singleton.mp hr) ?_; exact hd
  by_cases q : i < ch.length
  · rw [List.getElem?_append_left q] at hr
    exact h.at_ i r hr
  · rw [List.getElem?_append_right (Nat.le_of_not_lt q)] at hr
    have : i - ch.length = 0 := by
      have := (List.getElem?_eq_some_iff.mp hr).1
      simp at this; walk_at "om"
    rw [this] at hr
    have e : i = ch.length := ar_fst q this
    subst e
    (injection hr with e0; (first | subst e0 | cases e0))
    exact ⟨rfl, hp, hw, hs⟩
section
variable {w : World} {mean : ExcName → Option Value} {mg mb : Str → Option Value} {EQ : Mem → Loc → Prop}
inductive CInv (menu : Addr) (mL : List (List Str)) (feed plain chain : Addr) (bk : AV) (so fu br sc le : Addr) (form many shift back way : Nat) (i : Nat) (M : Mem) (l : Loc) : Prop
  | mk (ch : List Row) (o' : AO) (J : Mem) (pk : Picks [(menu, .list (menuAV mL)), (feed, o'), (so, .dict (sortsAV uvT)), (br, .list (brAV ["U", "V"])), (chain, .list (ch.map rowAV)), (plain, .dict (plainAV plainP))] M J) (ho : Feed (6 + 110 * i) o') (hch : ChainOk 2 20 ch) (hcl : ch.length = i) (lm : l "menu" = some (.obj menu)) (L : LocT l feed plain chain bk so fu br sc le form many shift back way) : CInv menu mL feed plain chain bk so fu br sc le form many shift back way i M l
set_option maxHeartbeats 16000000 in
theorem lawC {fd : FuncData} (hfd : LawFd w fd) {fa : Addr} {cd : Value} {n : Nat} {l : Loc} {o : AO} {feed plain chain menu : Addr} {bk : AV} {so fu br sc le : Addr} {mL : List (List Str)} {form many shift back way : Nat} (ho : Feed 6 o) (L : LocT l feed plain chain bk so fu br sc le form many shift back way) (lm : l "menu" = some (.obj menu)) (nums : Nums form many shift back way) (hm0 : mL ≠ []) (hml : mL.length ≤ 4) (hps : ∀ ps ∈ mL, PsOk ps)
    (hD : ∀ (l : Loc) (o : AO) (ch : List Row), Feed 5000 o → LocT l feed plain chain bk so fu br sc le form many shift back way → ChainOk 2 20 ch → ch.length = many →
      Ss (WW w mean mg mb) (lawF fd fa cd) (n + 20) ((lawBody fd).drop 9) [(feed, o), (chain, .list (ch.map rowAV)), (so, .dict (sortsAV uvT)), (br, .list (brAV ["U", "V"])), (plain, .dict (plainAV plainP))] l (fun fl _ _ => fl = .ret (.bool true)) (fun _ _ => False)) :
    Ss (WW w mean mg mb) (lawF fd fa cd) (n + 20) ((lawBody fd).drop 8) [(menu, .list (menuAV mL)), (feed, o), (so, .dict (sortsAV uvT)), (br, .list (brAV ["U", "V"])), (chain, .list []), (plain, .dict (plainAV plainP))] l (fun fl _ _ => fl = .ret (.bool true)) (fun _ _ => False) := by
  obtain ⟨oc, od, osl, h⟩ := hfd
  have e := law_lit h (by walk_at "mk")
  subst e
  clear h
  have hmany := nums.hmany
  have hmlA : (menuAV mL).length = mL.length := List.length_map ..
  have hm1 : 0 < mL.length := List.length_pos_iff.mpr hm0
  have l8 := L.many
  dsimp only [lawBody, List.drop, lawF]
  repeat' walk_at "st"
  refine t_range ?_
  refine ⟨_, [(menu, .list (menuAV mL)), (feed, o), (so, .dict (sortsAV uvT)), (br, .list (brAV ["U", "V"])), (chain, .list []), (plain, .dict (plainAV plainP))], [], CInv menu mL feed plain chain bk so fu br sc le form many shift back way, it_range (by walk_at "om"), ⟨[], o, _, by walk_at "pks", ho, ⟨fun i r h => by simp at h, by decide, fun r h => nomatch h⟩, rfl, lm, L⟩, ?_, ?_⟩
  · rintro i a M l ha ⟨ch, o', J, pk, ho', hch, hcl, lm, L⟩
    have hi : i < many := by have := (List.getElem?_eq_some_iff.mp ha).1; simpa using this
    have hai : AV.int (Int.ofNat i) = a := by rw [List.getElem?_map, List.getElem?_range hi] at ha; exact Option.some.inj ha
    subst hai
    have l1 := L.base.feed
    have l5 := L.base.chain
    have hchA : (ch.map rowAV).length = ch.length := List.length_map ..
    refine bd_name ⟨rfl, rfl⟩ ?_
    refine absQ fun _ _ => ?_
    refine T0.keep pk ?_
    repeat' walk_at "st"
    with_reducible refine rwE hmlA ?_
    refine Ts.useC (by walk_at "pks") (draw_ok ho' (by walk_at "om") (by walk_at "om") fun pi o1 a1 a2 ho1 => ?_)
    obtain ⟨p, rfl⟩ := Int.eq_ofNat_of_zero_le a1
    have hp : p < mL.length := by walk_at "om"
    have hgp : mL[p]? = some mL[p] := List.getElem?_eq_getElem hp
    have hpok := hps _ (List.getElem_mem hp)
    refine t_subList (c := .tup (mL[p].map .str)) (.obj menu _ (by walk_at "mem")) (by walk_at "om") (by refine (?_ : (menuAV mL)[p]? = _); (rewrite [menuAV]; with_reducible refine rwE (List.getElem?_map) ?_; with_reducible refine rwE hgp ?_); rfl) (by walk_at "om") (fun _ _ _ => by with_unfolding_all rfl) ?_
    generalize mL[p] = ps at hpok
    have hplen := hpok.len
    repeat' walk_at "st"
    refine t_strInt (Int.natCast_nonneg i) (by have : Int.ofNat i = (i : Int) := rfl; walk_at "om") ?_
    have hdl : (Str.ofString (toString (Int.ofNat i))).length ≤ 100 := by
      have : ∀ i, i < 40 → (Str.ofString (toString (Int.ofNat i))).length ≤ 100 := by decide +kernel
      exact this i (by walk_at "om")
    refine t_addS (by have : (Str.ofString "D").length = 1 := rfl
                      with_reducible refine rwE this ?_; unfold sizeLine; walk_at "om") ?_
    repeat' walk_at "st"
    refine Ts.useC (by walk_at "pks") (drawn_ok (rows := ch) (j := i) ho1 (by walk_at "om") (by walk_at "om") (by walk_at "om") (fun r hr => ?_) (by have := hch.len; walk_at "om") fun it o2 hit ho2 => ?_)
    · obtain ⟨j, hj, rfl⟩ := List.getElem_of_mem hr
      have := (chain_row hch (List.getElem?_eq_getElem hj)).2.1
      walk_at "om"
    obtain ⟨hw1, hw2⟩ := drawn_wf hch hpok hit
    have hnd := drawn_nod hch hpok hit
    repeat' walk_at "st"
    refine ⟨ch ++ [⟨dName i, ps, it⟩], o2, _, (by rw [List.map_append]; walk_at "pks"), ho2.mono (by walk_at "om"), ?_, by rw [List.length_append, hcl]; rfl, lm, (L.keep rfl)⟩
    with_reducible refine rwE (Eq.symm hcl) ?_
    exact hch.snoc hpok hw1 hw2 hnd (by walk_at "om")
  · rintro M l ⟨ch, o', J, pk, ho', hch, hcl, lm, L⟩
    have hpk : Picks [(menu, .list (menuAV mL)), (feed, o'), (so, .dict (sortsAV uvT)), (br, .list (brAV ["U", "V"])), (chain, .list (ch.map rowAV)), (plain, .dict (plainAV plainP))] (M ++ []) J := by rw [List.append_nil]; exact pk
    refine T0.keep hpk ?_
    refine T0.keep (M' := [(feed, o'), (chain, .list (ch.map rowAV)), (so, .dict (sortsAV uvT)), (br, .list (brAV ["U", "V"])), (plain, .dict (plainAV plainP))]) (by walk_at "pks") ?_
    refine hD l o' ch (ho'.mono (by simp; walk_at "om")) L hch (by simpa using hcl)
end
theorem ChainOk.mono {D S D' S' : Nat} {ch : List Row} (h : ChainOk D S ch) (h1 : D ≤ D') (h2 : S ≤ S') : ChainOk D' S' ch :=
  ⟨fun i r hr => by obtain ⟨a, b, c, d⟩ := h.at_ i r hr; exact ⟨a, b, c.mono h1, Nat.le_trans d h2⟩, h.len, h.nod⟩
theorem ChainOk.set {D S : Nat} {ch : List Row} (h : ChainOk D S ch) {p : Nat} {r : Row} (hr : ch[p]? = some r) {it : It} (hw : Wf D it) (hs : szI it ≤ S) (hd : noD it) : ChainOk D S (ch.set p ⟨r.nm, r.ps, it⟩) := by
  refine ⟨fun i r' hr' => ?_, by rw [List.length_set]; exact h.len, fun r' hr' => ?_⟩
  rotate_left
  · rcases List.mem_or_eq_of_mem_set hr' with hr' | rfl
    · exact h.nod r' hr'
    · exact hd
  rw [List.getElem?_set] at hr'
  split at hr'
  · rename_i e
    subst e
    split at hr'
    · (injection hr' with e0; (first | subst e0 | cases e0))
      obtain ⟨a, b, _, _⟩ := h.at_ p r hr
      exact ⟨a, b, hw, hs⟩
    · injection hr'
  · exact h.at_ i r' hr'
section
variable {w : World} {mean : ExcName → Option Value} {mg mb : Str → Option Value} {EQ : Mem → Loc → Prop}
set_option maxHeartbeats 16000000 in
theorem lawD {fd : FuncData} (hfd : LawFd w fd) {fa : Addr} {cd : Value} {n : Nat} {l : Loc} {o : AO} {feed plain chain : Addr} {bk : AV} {so fu br sc le : Addr} {form many shift back way : Nat} {ch : List Row} (ho : Feed 5000 o) (L : LocT l feed plain chain bk so fu br sc le form many shift back way) (nums : Nums form many shift back way) (hch : ChainOk 2 20 ch) (hcl : ch.length = many)
    (hE : ∀ (l : Loc) (o : AO) (ch : List Row), Feed 5200 o → LocT l feed plain chain bk so fu br sc le form many shift back way → ChainOk 3 60 ch → ch.length = many →
      Ss (WW w mean mg mb) (lawF fd fa cd) (n + 20) ((lawBody fd).drop 10) [(feed, o), (chain, .list (ch.map rowAV)), (so, .dict (sortsAV uvT)), (br, .list (brAV ["U", "V"])), (plain, .dict (plainAV plainP))] l (fun fl _ _ => fl = .ret (.bool true)) (fun _ _ => False)) :
    Ss (WW w mean mg mb) (lawF fd fa cd) (n + 20) ((lawBody fd).drop 9) [(feed, o), (chain, .list (ch.map rowAV)), (so, .dict (sortsAV uvT)), (br, .list (brAV ["U", "V"])), (plain, .dict (plainAV plainP))] l (fun fl _ _ => fl = .ret (.bool true)) (fun _ _ => False) := by
  obtain ⟨oc, od, osl, h⟩ := hfd
  have e := law_lit h (by walk_at "mk")
  subst e
  clear h
  have hmany := nums.hmany
  have hshift := nums.hshift
  have hback := nums.hback
  have l1 := L.base.feed
  have l5 := L.base.chain
  have l6 := L.way
  have l7 := L.shift
  have l8 := L.many
  have l9 := L.back
  have hchl := hch.len
  have hchA : (ch.map rowAV).length = ch.length := List.length_map ..
  dsimp only [lawBody, List.drop, lawF]
  refine ss_cons ?_
  have skip := hE l o ch (ho.mono (by decide)) L (hch.mono (by decide) (by decide)) hcl
  repeat' walk_at "sx"
  refine ⟨fun _ => ?_, fun _ => ⟨fun h => (by injection h), fun _ => ?_⟩⟩
  · repeat' walk_at "sx"
    refine ⟨fun _ => ?_, fun _ => ?_⟩
    · refine ss_cons ?_
      repeat' walk_at "sx"
      refine Ts.useC (by walk_at "pks") (draw_ok ho (by decide) (by walk_at "om") fun dr o1 a1 a2 ho1 => ?_)
      repeat' walk_at "sx"
      refine t_mod (by walk_at "om") ?_
      have m1 : 0 ≤ ((shift : Int) - 1 - dr).fmod many := Int.fmod_nonneg_of_pos _ (by walk_at "om")
      have m2 : ((shift : Int) - 1 - dr).fmod many < many := Int.fmod_lt_of_pos _ (by walk_at "om")
      generalize ((shift : Int) - 1 - dr).fmod many = pi at m1 m2 ⊢
      obtain ⟨p, rfl⟩ := Int.eq_ofNat_of_zero_le m1
      have hp : p < ch.length := by walk_at "om"
      have hgp : ch[p]? = some ch[p] := List.getElem?_eq_getElem hp
      repeat' walk_at "sx"
      refine ss_cons ?_
      repeat' walk_at "sx"
      refine t_subList (c := .tup [.str ch[p].nm, .tup (ch[p].ps.map .str), itAV ch[p].it]) (.obj chain _ (by walk_at "mem")) (by walk_at "om") (by show (ch.map rowAV)[p]? = _; rw [List.getElem?_map, hgp]; rfl) (by walk_at "om") (fun _ _ _ => by with_unfolding_all rfl) ?_
      repeat' walk_at "sx"
      refine t_subTupSlice (lo := none) (hi := some 2) (i := 0) (c := 2) (by simp [sizeLine]) .none (.int 2) rfl (by simp) (by simp) (fun _ _ => ⟨_, by with_unfolding_all rfl⟩) ?_
      repeat' walk_at "sx"
      refine Ts.useC (by walk_at "pks") (spoiled_ok (rows := ch) (p := p) ho1 (by decide) hp (fun r hr => ?_) (by walk_at "om") fun it o2 hit ho2 => ?_)
      · obtain ⟨j, hj, rfl⟩ := List.getElem_of_mem hr
        have := (chain_row hch (List.getElem?_eq_getElem hj)).2.1
        walk_at "om"
      obtain ⟨hw1, hw2⟩ := spoiled_wf hch hit
      have hnd := spoiled_nod hch hit
      repeat' walk_at "sx"
      have hset : (ch.map rowAV).set (p : Int).toNat (.tup (List.take 2 (List.drop 0 [AV.str ch[p].nm, AV.tup (ch[p].ps.map AV.str), itAV ch[p].it]) ++ [itAV it])) = (ch.set p ⟨ch[p].nm, ch[p].ps, it⟩).map rowAV := by rw [List.map_set]; rfl
      refine t_setList (by rw [hset]; walk_at "rp") (by walk_at "om") (by rw [hchA]; walk_at "om") (by walk_at "om") ?_
      repeat' walk_at "sx"
      refine hE _ o2 (ch.set p ⟨ch[p].nm, ch[p].ps, it⟩) (ho2.mono (by decide)) ?_ ?_ (by rw [List.length_set]; exact hcl)
      · exact (L.keep rfl)
      · exact (hch.mono (by decide) (by decide)).set hgp hw1 hw2 hnd
    · repeat' walk_at "sx"
      exact skip
  · repeat' walk_at "sx"
    exact skip
end
noncomputable def rowsOf (ch : List Row) (shift : Nat) : List Row := tellersR ++ ch.drop shift ++ ch.take shift
section
variable {w : World} {mean : ExcName → Option Value} {mg mb : Str → Option Value} {EQ : Mem → Loc → Prop}
set_option maxHeartbeats 16000000 in
theorem lawE {fd : FuncData} (hfd : LawFd w fd) {fa : Addr} {cd : Value} {n : Nat} {l : Loc} {o : AO} {feed plain chain : Addr} {bk : AV} {so fu br sc le : Addr} {form many shift back way : Nat} {ch : List Row} (ho : Feed 5200 o) (L : LocT l feed plain chain bk so fu br sc le form many shift back way) (nums : Nums form many shift back way) (hch : ChainOk 3 60 ch) (hcl : ch.length = many)
    (hF : ∀ (l : Loc) (rowsA : Addr), l "rows" = some (.obj rowsA) → LocT l feed plain chain bk so fu br sc le form many shift back way →
      Ss (WW w mean mg mb) (lawF fd fa cd) (n + 20) ((lawBody fd).drop 11) [(rowsA, .list ((rowsOf ch shift).map rowAV)), (feed, o), (chain, .list (ch.map rowAV)), (so, .dict (sortsAV uvT)), (br, .list (brAV ["U", "V"])), (plain, .dict (plainAV plainP))] l (fun fl _ _ => fl = .ret (.bool true)) (fun _ _ => False)) :
    Ss (WW w mean mg mb) (lawF fd fa cd) (n + 20) ((lawBody fd).drop 10) [(feed, o), (chain, .list (ch.map rowAV)), (so, .dict (sortsAV uvT)), (br, .list (brAV ["U", "V"])), (plain, .dict (plainAV plainP))] l (fun fl _ _ => fl = .ret (.bool true)) (fun _ _ => False) := by
  obtain ⟨oc, od, osl, h⟩ := hfd
  have e := law_lit h (by walk_at "mk")
  subst e
  clear h
  have hmany := nums.hmany
  have hshift := nums.hshift
  have l5 := L.base.chain
  have l7 := L.shift
  have hchl := hch.len
  have hc30 : ch.length ≤ 30 := Nat.le_trans (Nat.le_of_eq hcl) nums.hmany.2
  have hchA : (ch.map rowAV).length = ch.length := List.length_map ..
  refine ss_cons ?_
  repeat' walk_at "sx"
  refine Ts.useC (by walk_at "pks") (Ts.det2 (tellers_ok) ?_)
  repeat' walk_at "sx"
  refine t_listOfT (by decide) fun tA => ?_
  repeat' walk_at "sx"
  refine t_subListSlice (lo := some (shift : Nat)) (hi := none) (st := none) (.obj chain _ (by walk_at "mem")) (by with_reducible refine rwE hchA ?_; unfold sizeLine; walk_at "om") (.int _) .none .none (by decide) (fun _ _ => ⟨_, by with_unfolding_all rfl⟩) fun aA => ?_
  rw [pick_from' (by with_reducible refine rwE hchA ?_; walk_at "om")]
  repeat' walk_at "sx"
  refine t_addList (.obj tA _ (by walk_at "mem")) (.obj aA _ (by walk_at "mem")) (by (rewrite [List.length_map]; with_reducible refine rwE List.length_drop ?_; with_reducible refine rwE hchA ?_); exact Nat.le_trans (Nat.add_le_add_left (Nat.le_trans (Nat.sub_le ..) hc30) 4) (by decide)) fun bA => ?_
  repeat' walk_at "sx"
  refine t_subListSlice (lo := none) (hi := some (shift : Nat)) (st := none) (.obj chain _ (by walk_at "mem")) (by with_reducible refine rwE hchA ?_; unfold sizeLine; walk_at "om") .none (.int _) .none (by decide) (fun _ _ => ⟨_, by with_unfolding_all rfl⟩) fun cA => ?_
  rw [pick_min]
  repeat' walk_at "sx"
  have hrows : tellersR.map rowAV ++ (ch.map rowAV).drop shift ++ (ch.map rowAV).take shift = (rowsOf ch shift).map rowAV := by
    unfold rowsOf
    (with_reducible refine rwE List.map_append ?_; with_reducible refine rwE List.map_append ?_; with_reducible refine rwE List.map_drop ?_; with_reducible refine rwE List.map_take ?_; with_reducible rfl)
  refine t_addList (.obj bA _ (by walk_at "mem")) (.obj cA _ (by walk_at "mem")) (by (with_reducible refine rwE List.length_append ?_; rewrite [List.length_map]; with_reducible refine rwE List.length_drop ?_; with_reducible refine rwE List.length_take ?_; with_reducible refine rwE hchA ?_); exact Nat.le_trans (Nat.add_le_add (Nat.add_le_add_left (Nat.le_trans (Nat.sub_le ..) hc30) 4) (Nat.le_trans (Nat.min_le_right ..) hc30)) (by decide)) fun dA => ?_
  with_reducible refine rwE hrows ?_
  repeat' walk_at "sx"
  refine T0.keep (M' := [(dA, .list ((rowsOf ch shift).map rowAV)), (feed, o), (chain, .list (ch.map rowAV)), (so, .dict (sortsAV uvT)), (br, .list (brAV ["U", "V"])), (plain, .dict (plainAV plainP))]) (by walk_at "pks") ?_
  refine hF _ dA ?_ ?_
  · rfl
  · exact (L.keep rfl)
end
structure RowGood (D S : Nat) (r : Row) : Prop where
  ok : OkW r.nm
  free : FreeW r.nm
  far : r.nm ∉ ([("U" : Str), "V", "Nope", "Bool", "Int"] : List Str)
  psl : r.ps.length ≤ 10
  psn : r.ps.Nodup
  psf : ∀ p ∈ r.ps, FreeW p
  wf : Wf D r.it
  sz : szI r.it ≤ S
  asc : PyData.strOk r.nm = true
structure RowsGood (D S : Nat) (rows : List Row) : Prop where
  all : ∀ r ∈ rows, RowGood D S r
  nd : (rows.map (·.nm)).Nodup
  len : rows.length ≤ 40
theorem RowGood.mono {D S D' S' : Nat} {r : Row} (h : RowGood D S r) (h1 : D ≤ D') (h2 : S ≤ S') : RowGood D' S' r := ⟨h.ok, h.free, h.far, h.psl, h.psn, h.psf, h.wf.mono h1, Nat.le_trans h.sz h2, h.asc⟩
theorem RowsGood.mono {D S D' S' : Nat} {rows : List Row} (h : RowsGood D S rows) (h1 : D ≤ D') (h2 : S ≤ S') : RowsGood D' S' rows := ⟨fun r hr => (h.all r hr).mono h1 h2, h.nd, h.len⟩
noncomputable def tblOf (rows : List Row) : Tbl := uvT ++ rows.map fun r => (r.nm, ⟨r.ps, 0, some r.it⟩)
theorem row_tbl {rows : List Row} (nd : (rows.map (·.nm)).Nodup) {r : Row} (hr : r ∈ rows) : (rows.map fun r => ((r.nm, ⟨r.ps, 0, some r.it⟩) : Str × Ent)).lookup r.nm = some ⟨r.ps, 0, some r.it⟩ := by
  induction rows with
  | nil => cases hr
  | cons a rest ih =>
    (with_reducible refine rwE List.map_cons ?_; with_reducible refine rwE List.lookup_cons ?_)
    rw [List.map_cons, List.nodup_cons] at nd
    rcases List.mem_cons.mp hr with rfl | hr
    · simp
    · have : r.nm ≠ a.nm := fun e => nd.1 (by with_reducible refine rwE (Eq.symm e) ?_; exact List.mem_map.mpr ⟨r, hr, rfl⟩)
      have e : (r.nm == a.nm) = false := by simpa using this
      with_reducible refine rwE e ?_
      exact ih nd.2 hr
theorem tbl_row {rows : List Row} {x : Str} {e : Ent} (h : (rows.map fun r => ((r.nm, ⟨r.ps, 0, some r.it⟩) : Str × Ent)).lookup x = some e) : ∃ r ∈ rows, r.nm = x ∧ e = ⟨r.ps, 0, some r.it⟩ := by
  refine byG fun G_ bk_ => ?_; obtain ⟨l1, l2, q, _⟩ := List.lookup_eq_some_iff.mp h
  have : (x, e) ∈ rows.map fun r => ((r.nm, ⟨r.ps, 0, some r.it⟩) : Str × Ent) := by with_reducible refine rwE q ?_; simp
  obtain ⟨r, hr, e'⟩ := List.mem_map.mp this; refine bk_ ?_; clear bk_
  cases e'
  exact ⟨r, hr, rfl, rfl⟩
theorem tblOf_at {rows : List Row} {x : Str} {e : Ent} (h : (tblOf rows).lookup x = some e) : (x = "U" ∧ e = ⟨[], 3, none⟩) ∨ (x = "V" ∧ e = ⟨[], 4, none⟩) ∨ ∃ r ∈ rows, r.nm = x ∧ e = ⟨r.ps, 0, some r.it⟩ := by
  unfold tblOf at h
  rw [List.lookup_append] at h
  cases q : uvT.lookup x with
  | some e' =>
    rw [q] at h
    simp only [Option.or_some, Option.some_or] at h
    (injection h with e0; (first | subst e0 | cases e0))
    unfold uvT at q
    rw [List.lookup_cons] at q
    cases q1 : x == ("U" : Str) with
    | true => rw [q1] at q; (injection q with e0; (first | subst e0 | cases e0)); exact .inl ⟨by simpa using q1, rfl⟩
    | false =>
      rw [q1, List.lookup_cons] at q
      cases q2 : x == ("V" : Str) with
      | true => rw [q2] at q; (injection q with e0; (first | subst e0 | cases e0)); exact .inr (.inl ⟨by simpa using q2, rfl⟩)
      | false => rw [q2] at q; injection q
  | none =>
    rw [q] at h
    simp only [Option.none_or] at h
    exact .inr (.inr (tbl_row h))
theorem tblOf_row {D S : Nat} {rows : List Row} (g : RowsGood D S rows) {r : Row} (hr : r ∈ rows) : (tblOf rows).lookup r.nm = some ⟨r.ps, 0, some r.it⟩ := by
  have hf := (g.all r hr).far
  simp only [List.mem_cons, List.not_mem_nil, or_false, not_or] at hf
  unfold tblOf
  with_reducible refine rwE List.lookup_append ?_
  have : uvT.lookup r.nm = none := by
    unfold uvT
    have e1 : (r.nm == ("U" : Str)) = false := by simpa using hf.1
    have e2 : (r.nm == ("V" : Str)) = false := by simpa using hf.2.1
    (with_reducible refine rwE List.lookup_cons ?_; with_reducible refine rwE e1 ?_; with_reducible refine rwE List.lookup_cons ?_; with_reducible refine rwE e2 ?_); rfl
  with_reducible refine rwE this ?_
  simp only [Option.none_or]
  exact row_tbl g.nd hr
theorem plain_at {x : Str} {i : Int} (h : plainP.lookup x = some i) : (x = "Bool" ∧ i = 0) ∨ (x = "Int" ∧ i = 1) ∨ (x = "U" ∧ i = 3) ∨ (x = "V" ∧ i = 4) := by
  unfold plainP at h
  rw [List.lookup_cons] at h
  cases q1 : x == ("Bool" : Str) with
  | true => rw [q1] at h; (injection h with e0; (first | subst e0 | cases e0)); exact .inl ⟨by simpa using q1, rfl⟩
  | false =>
    rw [q1, List.lookup_cons] at h
    cases q2 : x == ("Int" : Str) with
    | true => rw [q2] at h; (injection h with e0; (first | subst e0 | cases e0)); exact .inr (.inl ⟨by simpa using q2, rfl⟩)
    | false =>
      rw [q2, List.lookup_cons] at h
      cases q3 : x == ("U" : Str) with
      | true => rw [q3] at h; (injection h with e0; (first | subst e0 | cases e0)); exact .inr (.inr (.inl ⟨by simpa using q3, rfl⟩))
      | false =>
        rw [q3, List.lookup_cons] at h
        cases q4 : x == ("V" : Str) with
        | true => rw [q4] at h; (injection h with e0; (first | subst e0 | cases e0)); exact .inr (.inr (.inr ⟨by simpa using q4, rfl⟩))
        | false => rw [q4] at h; injection h
theorem far_plain {x : Str} (h : x ∉ ([("U" : Str), "V", "Nope", "Bool", "Int"] : List Str)) : plainP.lookup x = none := by
  cases q : plainP.lookup x with
  | none => rfl
  | some i =>
    exfalso
    apply h
    rcases plain_at q with ⟨rfl, _⟩ | ⟨rfl, _⟩ | ⟨rfl, _⟩ | ⟨rfl, _⟩ <;> simp
theorem far_base {x : Str} (h : x ∉ ([("U" : Str), "V", "Nope", "Bool", "Int"] : List Str)) (h2 : x ≠ "Real") : baseS x = none := by
  simp only [List.mem_cons, List.not_mem_nil, or_false, not_or] at h
  unfold baseS
  (with_reducible refine rwE (if_neg h.2.2.2.1) ?_; with_reducible refine rwE (if_neg h.2.2.2.2) ?_; with_reducible refine rwE (if_neg h2) ?_; with_reducible rfl)
theorem good_of {D S : Nat} {rows : List Row} (g : RowsGood D S rows) {W : Told} (hF : FixR plainP rows W) (hS : StabR plainP rows W) : Good (tblOf rows) plainP W where
  pln := fun x i h => by
    rcases plain_at h with ⟨rfl, rfl⟩ | ⟨rfl, rfl⟩ | ⟨rfl, rfl⟩ | ⟨rfl, rfl⟩
    · exact ⟨by decide, .inl rfl⟩
    · exact ⟨by decide, .inl rfl⟩
    · exact ⟨by decide, .inr ⟨rfl, rfl⟩⟩
    · exact ⟨by decide, .inr ⟨rfl, rfl⟩⟩
  base := fun x i h hx => by
    unfold baseS at h
    split at h
    · rename_i e; subst e; (injection h with e0; (first | subst e0 | cases e0)); rfl
    · split at h
      · rename_i e; subst e; (injection h with e0; (first | subst e0 | cases e0)); rfl
      · injection h
  srt := fun x e h hb => by
    rcases tblOf_at h with ⟨rfl, rfl⟩ | ⟨rfl, rfl⟩ | ⟨r, _, _, rfl⟩
    · exact ⟨rfl, rfl⟩
    · exact ⟨rfl, rfl⟩
    · injection hb
  bod := fun x e b h hb => by
    rcases tblOf_at h with ⟨rfl, rfl⟩ | ⟨rfl, rfl⟩ | ⟨r, hr, rfl, rfl⟩
    · injection hb
    · injection hb
    · (injection hb with e0; (first | subst e0 | cases e0))
      have q := g.all r hr
      exact ⟨⟨D, q.wf⟩, far_plain q.far, far_base q.far q.ok.1⟩
  fix := fun i x ps wo h => by
    obtain ⟨r, hr, rfl, rfl, hw⟩ := hF.2 i x ps wo h
    exact ⟨_, r.it, tblOf_row g hr, rfl, rfl, hw⟩
  stab := fun x e b h hb hn => by
    rcases tblOf_at h with ⟨rfl, rfl⟩ | ⟨rfl, rfl⟩ | ⟨r, hr, rfl, rfl⟩
    · injection hb
    · injection hb
    · (injection hb with e0; (first | subst e0 | cases e0))
      exact hS r hr hn
  nd := hF.1
theorem tblOk_of {D S : Nat} {rows : List Row} (g : RowsGood D S rows) : TblOk (tblOf rows) where
  ps := fun x e h => by
    rcases tblOf_at h with ⟨rfl, rfl⟩ | ⟨rfl, rfl⟩ | ⟨r, hr, rfl, rfl⟩
    · exact ⟨by decide, List.nodup_nil⟩
    · exact ⟨by decide, List.nodup_nil⟩
    · exact ⟨(g.all r hr).psl, (g.all r hr).psn⟩
  body := fun x e b h hb => by
    rcases tblOf_at h with ⟨rfl, rfl⟩ | ⟨rfl, rfl⟩ | ⟨r, hr, rfl, rfl⟩
    · injection hb
    · injection hb
    · (injection hb with e0; (first | subst e0 | cases e0)); exact ⟨D, (g.all r hr).wf⟩
theorem left_nil {T : Tbl} {S : Nat} (h : ∀ e ∈ T, cost e.2 ≤ S) : left [] T ≤ T.length * S := by
  induction T with
  | nil => exact Nat.zero_le _
  | cons e r ih =>
    have h1 := h e (List.mem_cons_self ..)
    have h2 := ih fun q hq => h q (List.mem_cons_of_mem _ hq)
    (rewrite [left]; with_reducible refine rwE List.length_cons ?_; rewrite [Nat.succ_mul])
    simp only [List.lookup_nil, Option.isNone_none, if_true]
    walk_at "om"
theorem wt_of {D : Nat} {rows : List Row} (g : RowsGood D 3000 rows) {it : It} (hi : szI it ≤ 3000) : wtS (tblOf rows) ⟨[.read it []], [], []⟩ ≤ 800000 := by
  have h1 : left [] (tblOf rows) ≤ (tblOf rows).length * 9004 := left_nil fun e he => by
    unfold tblOf at he
    rcases List.mem_append.mp he with he | he
    · simp only [List.mem_cons, List.not_mem_nil, or_false] at he
      rcases he with rfl | rfl <;> simp [cost]
    · obtain ⟨r, hr, rfl⟩ := List.mem_map.mp he
      have := (g.all r hr).sz
      simp only [cost]; walk_at "om"
  have h2 : (tblOf rows).length ≤ 42 := by
    unfold tblOf
    (with_reducible refine rwE List.length_append ?_; rewrite [List.length_map])
    have := g.len
    refine (?_ : 2 + _ ≤ 42)
    walk_at "om"
  have h3 : (tblOf rows).length * 9004 ≤ 42 * 9004 := Nat.mul_le_mul_right _ h2
  have : wtS (tblOf rows) ⟨[.read it []], [], []⟩ = 3 * szI it + left [] (tblOf rows) := by simp [wtS, wtTs, wtT]
  walk_at "om"
theorem tellers_good : ∀ r ∈ tellersR, RowGood 3 60 r := by
  intro r hr
  simp only [tellersR, List.mem_cons, List.not_mem_nil, or_false] at hr
  have fw : ∀ x ∈ ([("X" : Str), "Y", "Z", "A", "L", "M", "R"] : List Str), FreeW x := by
    show ∀ x ∈ _, _ ∧ _ ∧ _
    decide +kernel
  rcases hr with rfl | rfl | rfl | rfl
  · exact ⟨⟨by decide, by decide, by decide⟩, fw _ (by simp), by decide, by decide, by decide, fun p hp => fw p ((by decide +kernel : ∀ y ∈ _, y ∈ ([("X" : Str), "Y", "Z", "A", "L", "M", "R"] : List Str)) p hp), ⟨by decide, by decide, by decide⟩, by simp [szI], by decide +kernel⟩
  · exact ⟨⟨by decide, by decide, by decide⟩, fw _ (by simp), by decide, by decide, by decide, fun p hp => fw p ((by decide +kernel : ∀ y ∈ _, y ∈ ([("X" : Str), "Y", "Z", "A", "L", "M", "R"] : List Str)) p hp), ⟨by decide, by decide, by decide⟩, by simp [szI], by decide +kernel⟩
  · exact ⟨⟨by decide, by decide, by decide⟩, fw _ (by simp), by decide, by decide, by decide, fun p hp => fw p ((by decide +kernel : ∀ y ∈ _, y ∈ ([("X" : Str), "Y", "Z", "A", "L", "M", "R"] : List Str)) p hp), ⟨by decide, by decide, by decide⟩, by simp [szI], by decide +kernel⟩
  · exact ⟨⟨by decide, by decide, by decide⟩, fw _ (by simp), by decide, by decide, by decide, fun p hp => fw p ((by decide +kernel : ∀ y ∈ _, y ∈ ([("X" : Str), "Y", "Z", "A", "L", "M", "R"] : List Str)) p hp), ⟨by decide, by decide, by decide⟩, by simp [szI], by decide +kernel⟩
theorem chain_good {ch : List Row} (h : ChainOk 3 60 ch) {i : Nat} {r : Row} (hr : ch[i]? = some r) : RowGood 3 60 r := by
  obtain ⟨h1, h2, h3, h4⟩ := h.at_ i r hr
  obtain ⟨k1, k2, k3⟩ := chain_row h hr
  have hd := dName_ok i (by walk_at "om")
  have hf := dName_far i (by walk_at "om")
  have fw : ∀ x ∈ ([("X" : Str), "U"] : List Str), FreeW x := by
    show ∀ x ∈ _, _ ∧ _ ∧ _
    decide +kernel
  refine ⟨k1, by with_reducible refine rwE h1 ?_; exact hd.2, ?_, by walk_at "om", ?_, ?_, h3, h4, by with_reducible refine rwE h1 ?_; exact dName_ascii i (by walk_at "om")⟩
  · with_reducible refine rwE h1 ?_
    exact fun hm => hf ((by decide +kernel : ∀ y ∈ _, y ∈ ([("U" : Str), "V", "A", "L", "M", "R", "Deep", "Nope", "Bool", "Int", "X", "Y", "Z"] : List Str)) _ hm)
  · rcases h2 with h | h | h <;> with_reducible refine rwE h ?_ <;> decide
  · have sub : ∀ p ∈ r.ps, p ∈ ([("X" : Str), "U"] : List Str) := by rcases h2 with h | h | h <;> with_reducible refine rwE h ?_ <;> decide +kernel
    exact fun p hp => fw p (sub p hp)
theorem chain_names {D S : Nat} {ch : List Row} (h : ChainOk D S ch) : (ch.map (·.nm)).Nodup := by
  refine List.pairwise_iff_getElem.mpr (fun i j hi hj hij e => ?_)
  rw [List.length_map] at hi hj
  have hl := h.len
  have gi : ch[i]? = some ch[i] := List.getElem?_eq_getElem hi
  have gj : ch[j]? = some ch[j] := List.getElem?_eq_getElem hj
  rw [List.getElem_map, List.getElem_map] at e
  have e' : ch[i].nm = ch[j].nm := e
  rw [(h.at_ i _ gi).1, (h.at_ j _ gj).1] at e'
  have := dName_inj i (by walk_at "om") j (by walk_at "om") e'
  walk_at "om"
theorem rowsOf_perm (ch : List Row) (s : Nat) : (ch.drop s ++ ch.take s).Perm ch := by
  have := List.perm_append_comm (l₁ := ch.drop s) (l₂ := ch.take s)
  rw [List.take_append_drop] at this
  exact this
theorem rowsOf_good {ch : List Row} (h : ChainOk 3 60 ch) (s : Nat) : RowsGood 3 60 (rowsOf ch s) := by
  have hp := rowsOf_perm ch s
  refine ⟨fun r hr => ?_, ?_, ?_⟩
  · unfold rowsOf at hr
    rw [List.append_assoc] at hr
    rcases List.mem_append.mp hr with hr | hr
    · exact tellers_good r hr
    · obtain ⟨i, hi, rfl⟩ := List.getElem_of_mem (hp.subset hr)
      exact chain_good h (List.getElem?_eq_getElem hi)
  · unfold rowsOf
    (rewrite [List.append_assoc]; with_reducible refine rwE List.map_append ?_; rewrite [List.nodup_append])
    refine ⟨by decide, (hp.map _).nodup_iff.mpr (chain_names h), fun a ha b hb e => ?_⟩
    obtain ⟨r, hr, rfl⟩ := List.mem_map.mp hb
    obtain ⟨i, hi, rfl⟩ := List.getElem_of_mem (hp.subset hr)
    have hl := h.len
    have h1 := (h.at_ i _ (List.getElem?_eq_getElem hi)).1
    have hf := dName_far i (by walk_at "om")
    apply hf
    (with_reducible refine rwE (Eq.symm h1) ?_; with_reducible refine rwE (Eq.symm e) ?_)
    exact (by decide +kernel : ∀ y ∈ tellersR.map (·.nm), y ∈ ([("U" : Str), "V", "A", "L", "M", "R", "Deep", "Nope", "Bool", "Int", "X", "Y", "Z"] : List Str)) a ha
  · unfold rowsOf
    (rewrite [List.append_assoc]; with_reducible refine rwE List.length_append ?_; with_reducible refine rwE hp.length_eq ?_)
    have := h.len
    refine (?_ : 4 + _ ≤ 40)
    walk_at "om"
noncomputable abbrev namesOf (rows : List Row) : List Str := [("U" : Str), "V"] ++ rows.map (·.nm)
theorem tblOf_snoc {rows : List Row} {r : Row} : sortsAV (tblOf (rows ++ [r])) = sortsAV (tblOf rows) ++ [(r.nm, entAV ⟨r.ps, 0, some r.it⟩)] := by
  simp [tblOf, sortsAV]
theorem namesOf_snoc {rows : List Row} {r : Row} : brAV (namesOf (rows ++ [r])) = brAV (namesOf rows) ++ [.tup [.str "sort", .str r.nm]] := by
  simp [brAV]
theorem tblOf_fresh {D S : Nat} {rows : List Row} {r : Row} (g : RowsGood D S (rows ++ [r])) : (sortsAV (tblOf rows)).lookup r.nm = none := by
  with_reducible refine rwE sortsAV_at ?_
  cases q : (tblOf rows).lookup r.nm with
  | none => rfl
  | some e =>
    exfalso
    have hf := (g.all r (by simp)).far
    rcases tblOf_at q with ⟨h, _⟩ | ⟨h, _⟩ | ⟨r', hr', h, _⟩
    · apply hf; with_reducible refine rwE h ?_; decide
    · apply hf; with_reducible refine rwE h ?_; decide
    · have nd := g.nd
      rw [List.map_append, List.nodup_append] at nd
      exact nd.2.2 r'.nm (List.mem_map.mpr ⟨r', hr', rfl⟩) r.nm (by simp) h
theorem RowsGood.take {D S : Nat} {rows : List Row} (g : RowsGood D S rows) (i : Nat) : RowsGood D S (rows.take i) :=
  ⟨fun r hr => g.all r (List.mem_of_mem_take hr), by with_reducible refine rwE List.map_take ?_; exact g.nd.sublist (List.take_sublist _ _), by have := g.len; with_reducible refine rwE List.length_take ?_; walk_at "om"⟩
theorem pick_app {a : Addr} {o : AO} {M M' : Mem} (h : Pick a o M M') {N : Mem} : Pick a o (M ++ N) (M' ++ N) := by
  induction h with
  | head r => exact .head _
  | tail p r r' _ ih => exact .tail p _ _ ih
theorem pick_end {a : Addr} {o : AO} : ∀ {M : Mem}, Pick a o (M ++ [(a, o)]) M
  | [] => .head _
  | p :: M => .tail p _ _ pick_end
theorem picks_last {a : Addr} {o : AO} {A M J : Mem} (h : Picks A M J) : Picks ((a, o) :: A) (M ++ [(a, o)]) J :=
  .cons _ _ _ _ _ _ pick_end h
section
variable {w : World} {mean : ExcName → Option Value} {mg mb : Str → Option Value} {EQ : Mem → Loc → Prop}
inductive FInv (rowsA : Addr) (o : AO) (chA : List AV) (rows : List Row) (feed plain chain : Addr) (bk : AV) (so fu br sc le : Addr) (form many shift back way : Nat) (i : Nat) (M : Mem) (l : Loc) : Prop
  | mk (J : Mem) (pk : Picks [(so, .dict (sortsAV (tblOf (rows.take i)))), (br, .list (brAV (namesOf (rows.take i)))), (feed, o), (chain, .list chA), (plain, .dict (plainAV plainP))] M J) (lr : l "rows" = some (.obj rowsA)) (L : LocT l feed plain chain bk so fu br sc le form many shift back way) : FInv rowsA o chA rows feed plain chain bk so fu br sc le form many shift back way i M l
set_option maxHeartbeats 16000000 in
theorem lawF11 {fd : FuncData} (hfd : LawFd w fd) {fa : Addr} {cd : Value} {n : Nat} {l : Loc} {o : AO} {rowsA feed plain chain : Addr} {bk : AV} {so fu br sc le : Addr} {form many shift back way : Nat} {chA : List AV} {rows : List Row} (lr : l "rows" = some (.obj rowsA)) (L : LocT l feed plain chain bk so fu br sc le form many shift back way) (g : RowsGood 3 60 rows)
    (hG : ∀ (l : Loc), l "rows" = some (.obj rowsA) → LocT l feed plain chain bk so fu br sc le form many shift back way →
      Ss (WW w mean mg mb) (lawF fd fa cd) (n + 20) ((lawBody fd).drop 12) [(rowsA, .list (rows.map rowAV)), (feed, o), (chain, .list chA), (so, .dict (sortsAV (tblOf rows))), (br, .list (brAV (namesOf rows))), (plain, .dict (plainAV plainP))] l (fun fl _ _ => fl = .ret (.bool true)) (fun _ _ => False)) :
    Ss (WW w mean mg mb) (lawF fd fa cd) (n + 20) ((lawBody fd).drop 11) [(rowsA, .list (rows.map rowAV)), (feed, o), (chain, .list chA), (so, .dict (sortsAV uvT)), (br, .list (brAV ["U", "V"])), (plain, .dict (plainAV plainP))] l (fun fl _ _ => fl = .ret (.bool true)) (fun _ _ => False) := by
  obtain ⟨oc, od, osl, h⟩ := hfd
  have e := law_lit h (by walk_at "mk")
  subst e
  clear h
  have hlen := g.len
  dsimp only [lawBody, List.drop, lawF]
  refine ss_cons ?_
  repeat' walk_at "sx"
  refine ⟨rows.map rowAV, [(feed, o), (chain, .list chA), (so, .dict (sortsAV uvT)), (br, .list (brAV ["U", "V"])), (plain, .dict (plainAV plainP))], [(rowsA, .list (rows.map rowAV))], FInv rowsA o chA rows feed plain chain bk so fu br sc le form many shift back way,
    it_list (by walk_at "pk"), ⟨_, (by refine (?_ : Picks [(so, .dict (sortsAV uvT)), (br, .list (brAV ["U", "V"])), (feed, o), (chain, .list chA), (plain, .dict (plainAV plainP))] _ _); walk_at "pks"), lr, L⟩, ?_, ?_⟩
  · rintro i a M l ha ⟨J, pk, lr, L⟩
    have hi : i < rows.length := by have := (List.getElem?_eq_some_iff.mp ha).1; simpa using this
    have hgi : rows[i]? = some rows[i] := List.getElem?_eq_getElem hi
    have hai : rowAV rows[i] = a := by rw [List.getElem?_map, hgi] at ha; exact Option.some.inj ha
    subst hai
    have htk : rows.take (i + 1) = rows.take i ++ [rows[i]] := by (with_reducible refine rwE List.take_add_one ?_; with_reducible refine rwE hgi ?_); rfl
    have gi := g.take (i + 1)
    rw [htk] at gi
    have hfresh := tblOf_fresh gi
    have hrow := g.all _ (List.getElem_mem hi)
    clear ha
    generalize rows[i] = r at hrow hfresh hgi htk ⊢
    have e : rowAV r = .tup [.str r.nm, .tup (r.ps.map .str), itAV r.it] := rfl
    with_reducible refine rwE e ?_
    have l3 := L.base.sym
    unfold symAV at l3
    have gl := (g.take i).len
    have hl1 : (sortsAV (tblOf (rows.take i))).length ≤ 1000 := by simp [sortsAV, tblOf]; walk_at "om"
    have hl2 : (brAV (namesOf (rows.take i))).length ≤ 1000 := by simp [brAV]; walk_at "om"
    refine bd_tuple rfl (fun _ => ⟨rfl, rfl⟩) ?_
    repeat' walk_at "sx"
    refine T0.keep pk ?_
    refine ss_cons ?_
    repeat' walk_at "sx"
    refine Ts.useC (by walk_at "pks") (Ts.det (define_ok (so := so) (br := br) (fu := fu) (sc := sc) (le := le) (es := sortsAV (tblOf (rows.take i))) (L := brAV (namesOf (rows.take i))) hrow.free hrow.psf hfresh (by walk_at "om") (by walk_at "om") hrow.psl) ?_)
    repeat' walk_at "sx"
    refine ⟨_, (by (with_reducible refine rwE htk ?_; with_reducible refine rwE tblOf_snoc ?_; with_reducible refine rwE namesOf_snoc ?_); walk_at "pks"), lr, (L.keep rfl)⟩
  · rintro M l ⟨J, pk, lr, L⟩
    rw [List.length_map, List.take_length] at pk
    have pk2 : Picks [(rowsA, .list (rows.map rowAV)), (so, .dict (sortsAV (tblOf rows))), (br, .list (brAV (namesOf rows))), (feed, o), (chain, .list chA), (plain, .dict (plainAV plainP))] (M ++ [(rowsA, .list (rows.map rowAV))]) J := picks_last pk
    refine T0.keep pk2 ?_
    refine T0.keep (M' := [(rowsA, .list (rows.map rowAV)), (feed, o), (chain, .list chA), (so, .dict (sortsAV (tblOf rows))), (br, .list (brAV (namesOf rows))), (plain, .dict (plainAV plainP))]) (by walk_at "pks") ?_
    exact hG l lr L
end
section
variable {w : World} {mean : ExcName → Option Value} {mg mb : Str → Option Value} {EQ : Mem → Loc → Prop}
set_option maxHeartbeats 16000000 in
theorem lawG {fd : FuncData} (hfd : LawFd w fd) {fa : Addr} {cd : Value} {n : Nat} {l : Loc} {o : AO} {rowsA feed plain chain : Addr} {bk : AV} {so fu br sc le : Addr} {form many shift back way : Nat} {ch rows : List Row} (ho : Feed 5200 o) (lr : l "rows" = some (.obj rowsA)) (L : LocT l feed plain chain bk so fu br sc le form many shift back way) (nums : Nums form many shift back way) (hch : ChainOk 3 60 ch) (hcl : ch.length = many) (g : RowsGood 3 60 rows)
    (hH : ∀ (l : Loc) (o : AO), Feed 5300 o → l "rows" = some (.obj rowsA) → LocT l feed plain chain bk so fu br sc le form many shift back way →
      Ss (WW w mean mg mb) (lawF fd fa cd) (n + 20) ((lawBody fd).drop 13) [(rowsA, .list (rows.map rowAV)), (feed, o), (chain, .list (ch.map rowAV)), (so, .dict (sortsAV (tblOf rows))), (br, .list (brAV (namesOf rows))), (plain, .dict (plainAV plainP))] l (fun fl _ _ => fl = .ret (.bool true)) (fun _ _ => False)) :
    Ss (WW w mean mg mb) (lawF fd fa cd) (n + 20) ((lawBody fd).drop 12) [(rowsA, .list (rows.map rowAV)), (feed, o), (chain, .list (ch.map rowAV)), (so, .dict (sortsAV (tblOf rows))), (br, .list (brAV (namesOf rows))), (plain, .dict (plainAV plainP))] l (fun fl _ _ => fl = .ret (.bool true)) (fun _ _ => False) := by
  refine byG fun G_ bk_ => ?_; obtain ⟨oc, od, osl, h⟩ := hfd
  have e := law_lit h (by walk_at "mk")
  subst e; refine bk_ ?_; clear bk_
  clear h
  have hmany := nums.hmany
  have hchl := hch.len
  have hchA : (ch.map rowAV).length = ch.length := List.length_map ..
  have l1 := L.base.feed
  have l4 := L.base.plain
  have l5 := L.base.chain
  have l10 := L.rd
  dsimp only [lawBody, List.drop, lawF]
  refine ss_cons ?_
  repeat' walk_at "sx"
  refine Ts.useC (by walk_at "pks") (rounds_ok (n := n + 14) (rows := rows) (P := plainP) (fun r hr => ⟨(g.all r hr).wf, (g.all r hr).psl⟩) (by have := g.len; walk_at "om") fun told T hF hS => ?_)
  repeat' walk_at "sx"
  have hlast : many - 1 < ch.length := rwE (P := fun z => many - 1 < z) hcl (Nat.sub_lt (Nat.lt_of_lt_of_le (by decide) nums.hmany.1) Nat.one_pos)
  have hgl : ch[many - 1]? = some ch[many - 1] := List.getElem?_eq_getElem hlast
  refine byG fun G_ bk_ => ?_; obtain ⟨k1, k2, k3⟩ := chain_row hch hgl; refine bk_ ?_; clear bk_
  refine t_subListNeg (c := .tup (.str ch[many - 1].nm :: .tup (ch[many - 1].ps.map .str) :: [itAV ch[many - 1].it])) (.obj chain _ (by walk_at "mem")) (by decide) (by rw [hchA]; walk_at "om") (by
    rw [hchA]
    have : (-1 + (ch.length : Int)).toNat = many - 1 := (congrArg Int.toNat ((congrArg (fun z : Nat => -1 + (z : Int)) hcl).trans (Int.add_comm ..))).trans (Int.toNat_sub many 1)
    rw [this, List.getElem?_map, hgl]; rfl) (by decide) (fun _ _ _ => by with_unfolding_all rfl) ?_
  generalize ch[many - 1] = r at k1 k2
  repeat' walk_at "sx"
  refine Ts.useC (by walk_at "pks") (use_ok (nm := r.nm) (qs := r.ps) (ps := []) (rest := [itAV r.it]) ho (by decide) (by decide) (by walk_at "om") fun it o1 hu ho1 => ?_)
  obtain ⟨u1, u2⟩ := use_wf k1 k2 (.inl rfl) hu
  repeat' walk_at "sx"
  refine Ts.useC (by walk_at "pks") (Ts.det (isread_ok (n := n + 12) (good_of g hF hS) (tblOk_of g) (hF.small fun r hr => (g.all r hr).psl) (u1.mono (by decide)) (wt_of (g.mono (D' := 300) (S' := 3000) (by decide) (by decide)) (by walk_at "om"))) ?_)
  refine ⟨_, rfl, fun h => (by injection h), fun _ => ?_⟩
  repeat' walk_at "sx"
  refine T0.keep (M' := [(rowsA, .list (rows.map rowAV)), (feed, o1), (chain, .list (ch.map rowAV)), (so, .dict (sortsAV (tblOf rows))), (br, .list (brAV (namesOf rows))), (plain, .dict (plainAV plainP))]) (by walk_at "pks") ?_
  exact hH _ o1 (ho1.mono (by decide)) lr L
end
theorem tblOf_app {a b : List Row} : tblOf (a ++ b) = tblOf a ++ b.map fun r => (r.nm, ⟨r.ps, 0, some r.it⟩) := by
  simp [tblOf]
theorem tbl_keys {D S : Nat} {rows : List Row} (g : RowsGood D S rows) : ((tblOf rows).map (·.1)).Nodup := by
  have e : (tblOf rows).map (·.1) = [("U" : Str), "V"] ++ rows.map (·.nm) := by
    simp [tblOf]
  (with_reducible refine rwE e ?_; rewrite [List.nodup_append])
  refine ⟨by decide, g.nd, fun a ha b hb h => ?_⟩
  obtain ⟨r, hr, rfl⟩ := List.mem_map.mp hb
  have hf := (g.all r hr).far
  apply hf
  with_reducible refine rwE (Eq.symm h) ?_
  simp only [List.mem_cons, List.not_mem_nil, or_false] at ha ⊢
  rcases ha with h | h <;> simp [h]
section
variable {w : World} {mean : ExcName → Option Value} {mg mb : Str → Option Value} {EQ : Mem → Loc → Prop}
set_option maxHeartbeats 16000000 in
theorem lawH {fd : FuncData} (hfd : LawFd w fd) {fa : Addr} {cd : Value} {n : Nat} {l : Loc} {o : AO} {rowsA feed plain chain : Addr} {bk : AV} {so fu br sc le : Addr} {form many shift back way : Nat} {chA : List AV} {rows : List Row} (lr : l "rows" = some (.obj rowsA)) (L : LocT l feed plain chain bk so fu br sc le form many shift back way) (nums : Nums form many shift back way) (hrl : back ≤ rows.length) (g : RowsGood 3 60 rows)
    (hI : ∀ (l : Loc) (rowsB : Addr), l "rows" = some (.obj rowsB) → LocT l feed plain chain bk so fu br sc le form many shift back way →
      Ss (WW w mean mg mb) (lawF fd fa cd) (n + 20) ((lawBody fd).drop 15) [(rowsB, .list ((rows.take (rows.length - back)).map rowAV)), (feed, o), (chain, .list chA), (so, .dict (sortsAV (tblOf (rows.take (rows.length - back))))), (br, .list (brAV (namesOf (rows.take (rows.length - back))))), (plain, .dict (plainAV plainP))] l (fun fl _ _ => fl = .ret (.bool true)) (fun _ _ => False)) :
    Ss (WW w mean mg mb) (lawF fd fa cd) (n + 20) ((lawBody fd).drop 13) [(rowsA, .list (rows.map rowAV)), (feed, o), (chain, .list chA), (so, .dict (sortsAV (tblOf rows))), (br, .list (brAV (namesOf rows))), (plain, .dict (plainAV plainP))] l (fun fl _ _ => fl = .ret (.bool true)) (fun _ _ => False) := by
  refine byG fun G_ bk_ => ?_; obtain ⟨oc, od, osl, h⟩ := hfd
  have e := law_lit h (by walk_at "mk")
  subst e; refine bk_ ?_; clear bk_
  clear h
  have hback := nums.hback
  have hlen := g.len
  have hrA : (rows.map rowAV).length = rows.length := List.length_map ..
  have l3 := L.base.sym
  have l9 := L.back
  unfold symAV at l3
  have hbl : (brAV (namesOf rows)).length = 2 + rows.length := by simp [brAV]; walk_at "om"
  have esplit : rows = rows.take (rows.length - back) ++ rows.drop (rows.length - back) := (List.take_append_drop _ _).symm
  dsimp only [lawBody, List.drop, lawF]
  refine ss_cons ?_
  repeat' walk_at "sx"
  refine Ts.useC (by walk_at "pks") (Ts.det (mark_ok (fu := fu) (br := br) (so := so) (sc := sc) (le := le) (bk := bk) (L := brAV (namesOf rows)) (by walk_at "om")) ?_)
  repeat' walk_at "sx"
  have em : (((brAV (namesOf rows)).length : Nat) : Int) - (back : Int) = (((namesOf (rows.take (rows.length - back))).length : Nat) : Int) := by
    with_reducible refine rwE hbl ?_
    simp only [namesOf, List.length_append, List.length_map, List.length_take, List.length_cons, List.length_nil]
    exact (Int.ofNat_sub (Nat.le_trans hrl (Nat.le_add_left ..))).symm.trans (congrArg Int.ofNat ((Nat.add_sub_assoc hrl 2).trans (congrArg (2 + ·) (Nat.min_eq_left (Nat.sub_le ..)).symm)))
  with_reducible refine rwE em ?_
  have e1 : tblOf rows = tblOf (rows.take (rows.length - back)) ++ (rows.drop (rows.length - back)).map fun r => ((r.nm, ⟨r.ps, 0, some r.it⟩) : Str × Ent) := by
    (with_reducible refine rwE (Eq.symm tblOf_app) ?_; with_reducible refine rwE (Eq.symm esplit) ?_; with_reducible rfl)
  have e2 : namesOf rows = namesOf (rows.take (rows.length - back)) ++ (rows.drop (rows.length - back)).map (·.nm) := by
    simp only [namesOf]
    (rewrite [List.append_assoc]; with_reducible refine rwE (Eq.symm List.map_append) ?_; with_reducible refine rwE (Eq.symm esplit) ?_; with_reducible rfl)
  have hnd := tbl_keys g
  rw [e1] at hnd
  (with_reducible refine rwE e1 ?_; with_reducible refine rwE e2 ?_)
  refine Ts.useC2 (Ts.det (rollback_ok (bk := bk) (so := so) (fu := fu) (br := br) (sc := sc) (le := le) rfl (by (with_reducible refine rwE List.map_map ?_; with_reducible rfl)) hnd (by simp [tblOf]; first | exact Nat.le_trans (Nat.add_le_add (Nat.add_le_add_right (Nat.add_le_add_right (Nat.le_trans (Nat.sub_le ..) g.len) 1) 1) (Nat.le_trans (Nat.sub_le ..) g.len)) (by decide) | walk_at "om") (by simp; first | exact Nat.le_trans (Nat.add_le_add (Nat.add_le_add_right (Nat.add_le_add_right (Nat.le_trans (Nat.sub_le ..) g.len) 1) 1) (Nat.le_trans (Nat.sub_le ..) g.len)) (by decide) | walk_at "om")) ?_) (by walk_at "pks")
  repeat' walk_at "sx"
  refine ss_cons ?_
  repeat' walk_at "sx"
  refine t_subListSlice (lo := none) (hi := some (-(back : Int))) (st := none) (.obj rowsA _ (by walk_at "mem")) (by with_reducible refine rwE hrA ?_; unfold sizeLine; walk_at "om") .none (.int _) .none (by decide) (fun _ _ => ⟨_, by with_unfolding_all rfl⟩) fun rowsB => ?_
  rw [pick_but (by with_reducible refine rwE hrA ?_; walk_at "om") (by walk_at "om"), hrA, ← List.map_take]
  repeat' walk_at "sx"
  refine T0.keep (M' := [(rowsB, .list ((rows.take (rows.length - back)).map rowAV)), (feed, o), (chain, .list chA), (so, .dict (sortsAV (tblOf (rows.take (rows.length - back))))), (br, .list (brAV (namesOf (rows.take (rows.length - back))))), (plain, .dict (plainAV plainP))]) (by walk_at "pks") ?_
  refine hI _ rowsB ?_ ?_
  · rfl
  · exact (L.keep rfl)
end
section
variable {w : World} {mean : ExcName → Option Value} {mg mb : Str → Option Value} {EQ : Mem → Loc → Prop}
/-- told, and each of two rows is read: the same two statements stand twice in the law -/
noncomputable def TwoRows (w : World) (mean : ExcName → Option Value) (mg mb : Str → Option Value) (fd : FuncData) (fa : Addr) (cd : Value) (k : Nat) : Prop := ∀ {n : Nat} {l : Loc} {o : AO} {kf : Nat} {rowsA feed plain chain : Addr} {bk : AV} {so fu br sc le : Addr} {form many shift back way : Nat} {ch rows : List Row}, Feed kf o → kf ≤ 50000 → l "rows" = some (.obj rowsA) → LocT l feed plain chain bk so fu br sc le form many shift back way → Nums form many shift back way → ChainOk 3 60 ch → ch.length = many → RowsGood 3 60 rows →
    (∀ (l : Loc) (o : AO) (told : Addr) (T : Told), Feed (kf + 100) o → l "rows" = some (.obj rowsA) → l "told" = some (.obj told) → LocT l feed plain chain bk so fu br sc le form many shift back way → FixR plainP rows T → StabR plainP rows T →
      Ss (WW w mean mg mb) (lawF fd fa cd) (n + 20) ((lawBody fd).drop (k + 2)) [(told, .dict (toldAV T)), (rowsA, .list (rows.map rowAV)), (feed, o), (chain, .list (ch.map rowAV)), (so, .dict (sortsAV (tblOf rows))), (br, .list (brAV (namesOf rows))), (plain, .dict (plainAV plainP))] l (fun fl _ _ => fl = .ret (.bool true)) (fun _ _ => False)) →
    Ss (WW w mean mg mb) (lawF fd fa cd) (n + 20) ((lawBody fd).drop k) [(rowsA, .list (rows.map rowAV)), (feed, o), (chain, .list (ch.map rowAV)), (so, .dict (sortsAV (tblOf rows))), (br, .list (brAV (namesOf rows))), (plain, .dict (plainAV plainP))] l (fun fl _ _ => fl = .ret (.bool true)) (fun _ _ => False)
inductive IInv (rowsA told : Addr) (T : Told) (kf : Nat) (ch rows : List Row) (feed plain chain : Addr) (bk : AV) (so fu br sc le : Addr) (form many shift back way : Nat) (i : Nat) (M : Mem) (l : Loc) : Prop
  | mk (o' : AO) (J : Mem) (pk : Picks [(feed, o'), (told, .dict (toldAV T)), (plain, .dict (plainAV plainP)), (rowsA, .list (rows.map rowAV)), (chain, .list (ch.map rowAV)), (so, .dict (sortsAV (tblOf rows))), (br, .list (brAV (namesOf rows)))] M J) (ho : Feed (kf + 1 + 20 * i) o') (lr : l "rows" = some (.obj rowsA)) (lt : l "told" = some (.obj told)) (L : LocT l feed plain chain bk so fu br sc le form many shift back way) : IInv rowsA told T kf ch rows feed plain chain bk so fu br sc le form many shift back way i M l
set_option maxHeartbeats 16000000 in
theorem lawI15 {fd : FuncData} (hfd : LawFd w fd) {fa : Addr} {cd : Value} : TwoRows w mean mg mb fd fa cd 15 := by
  intro n l o kf rowsA feed plain chain bk so fu br sc le form many shift back way ch rows ho hkf lr L nums hch hcl g hJ
  obtain ⟨oc, od, osl, h⟩ := hfd
  have e := law_lit h (by walk_at "mk")
  subst e
  clear h
  have hmany := nums.hmany
  have hchl := hch.len
  have hchA : (ch.map rowAV).length = ch.length := List.length_map ..
  have l1 := L.base.feed
  have l4 := L.base.plain
  have l5 := L.base.chain
  have l8 := L.many
  dsimp only [lawBody, List.drop, lawF]
  refine ss_cons ?_
  repeat' walk_at "sx"
  refine Ts.useC (by walk_at "pks") (rounds_ok (n := n + 14) (rows := rows) (P := plainP) (fun r hr => ⟨(g.all r hr).wf, (g.all r hr).psl⟩) (by have := g.len; walk_at "om") fun told T hF hS => ?_)
  repeat' walk_at "sx"
  refine ss_cons ?_
  repeat' walk_at "sx"
  have hlast : many - 1 < ch.length := by walk_at "om"
  have hgl : ch[many - 1]? = some ch[many - 1] := List.getElem?_eq_getElem hlast
  obtain ⟨k1, k2, k3⟩ := chain_row hch hgl
  refine t_subListNeg (c := rowAV ch[many - 1]) (.obj chain _ (by walk_at "mem")) (by decide) (by rw [hchA]; walk_at "om") (by
    rw [hchA]
    have : (-1 + (ch.length : Int)).toNat = many - 1 := by walk_at "om"
    rw [this, List.getElem?_map, hgl]; rfl) (by decide) (fun _ _ _ => by with_unfolding_all rfl) ?_
  repeat' walk_at "sx"
  refine Ts.useC (by walk_at "pks") (draw_ok ho (by walk_at "om") (by walk_at "om") fun di o1 a1 a2 ho1 => ?_)
  obtain ⟨d, rfl⟩ := Int.eq_ofNat_of_zero_le a1
  have hd : d < ch.length := by walk_at "om"
  have hgd : ch[d]? = some ch[d] := List.getElem?_eq_getElem hd
  obtain ⟨k4, k5, k6⟩ := chain_row hch hgd
  refine t_subList (c := rowAV ch[d]) (.obj chain _ (by walk_at "mem")) (by walk_at "om") (by show (ch.map rowAV)[d]? = _; rw [List.getElem?_map, hgd]; rfl) (by walk_at "om") (fun _ _ _ => by with_unfolding_all rfl) ?_
  repeat' walk_at "sx"
  have hrows2 : ∀ (i : Nat) (a : AV), ([rowAV ch[many - 1], rowAV ch[d]] : List AV)[i]? = some a → ∃ r : Row, a = rowAV r ∧ OkW r.nm ∧ r.ps.length ≤ 2 := by
    intro i a h
    match i, h with
    | 0, h => (injection h with e0; (first | subst e0 | cases e0)); exact ⟨_, rfl, k1, k2⟩
    | 1, h => (injection h with e0; (first | subst e0 | cases e0)); exact ⟨_, rfl, k4, k5⟩
    | i + 2, h => simp at h
  generalize hL0 : Loc.set _ _ _ = L0
  have lr0 : L0 "rows" = some (.obj rowsA) := by rw [← hL0]; exact lr
  have lt0 : L0 "told" = some (.obj told) := by rw [← hL0]; rfl
  have LL0 : LocT L0 feed plain chain bk so fu br sc le form many shift back way := by
    rw [← hL0]
    exact (L.keep rfl)
  refine ⟨[rowAV ch[many - 1], rowAV ch[d]], [(feed, o1), (told, .dict (toldAV T)), (plain, .dict (plainAV plainP)), (rowsA, .list (rows.map rowAV)), (chain, .list (ch.map rowAV)), (so, .dict (sortsAV (tblOf rows))), (br, .list (brAV (namesOf rows)))], [], IInv rowsA told T kf ch rows feed plain chain bk so fu br sc le form many shift back way, it_tup, ⟨o1, _, by walk_at "pks", ho1, lr0, lt0, LL0⟩, ?_, ?_⟩
  · rintro i a M l ha ⟨o', J, pk, ho', lr, lt, L⟩
    have hi2 : i < 2 := (List.getElem?_eq_some_iff.mp ha).1
    obtain ⟨r, rfl, k1, k2⟩ := hrows2 i a ha
    have l1 := L.base.feed
    have l4 := L.base.plain
    have l10 := L.rd
    refine bd_name ⟨rfl, rfl⟩ ?_
    refine absQ fun _ _ => ?_
    refine T0.keep pk ?_
    refine ss_cons ?_
    repeat' walk_at "sx"
    refine Ts.useC (by walk_at "pks") (use_ok (nm := r.nm) (qs := r.ps) (ps := []) (rest := [itAV r.it]) ho' (by walk_at "om") (by decide) (by walk_at "om") fun it o2 hu ho2 => ?_)
    obtain ⟨u1, u2⟩ := use_wf k1 k2 (.inl rfl) hu
    repeat' walk_at "sx"
    refine Ts.useC (by walk_at "pks") (Ts.det (isread_ok (n := n + 12) (good_of g hF hS) (tblOk_of g) (hF.small fun r hr => (g.all r hr).psl) (u1.mono (by decide)) (wt_of (g.mono (D' := 300) (S' := 3000) (by decide) (by decide)) (by walk_at "om"))) ?_)
    refine ⟨_, rfl, fun h => (by injection h), fun _ => ?_⟩
    repeat' walk_at "sx"
    refine ⟨o2, _, by walk_at "pks", ho2.mono (by walk_at "om"), lr, lt, (L.keep rfl)⟩
  · rintro M l ⟨o', J, pk, ho', lr, lt, L⟩
    rw [List.append_nil]
    refine T0.keep pk ?_
    refine T0.keep (M' := [(told, .dict (toldAV T)), (rowsA, .list (rows.map rowAV)), (feed, o'), (chain, .list (ch.map rowAV)), (so, .dict (sortsAV (tblOf rows))), (br, .list (brAV (namesOf rows))), (plain, .dict (plainAV plainP))]) (by walk_at "pks") ?_
    exact hJ l o' told T (ho'.mono (by simp)) lr lt L hF hS
set_option maxHeartbeats 16000000 in
theorem lawI18 {fd : FuncData} (hfd : LawFd w fd) {fa : Addr} {cd : Value} : TwoRows w mean mg mb fd fa cd 18 := by
  intro n l o kf rowsA feed plain chain bk so fu br sc le form many shift back way ch rows ho hkf lr L nums hch hcl g hJ
  obtain ⟨oc, od, osl, h⟩ := hfd
  have e := law_lit h (by walk_at "mk")
  subst e
  clear h
  have hmany := nums.hmany
  have hchl := hch.len
  have hchA : (ch.map rowAV).length = ch.length := List.length_map ..
  have l1 := L.base.feed
  have l4 := L.base.plain
  have l5 := L.base.chain
  have l8 := L.many
  dsimp only [lawBody, List.drop, lawF]
  refine ss_cons ?_
  repeat' walk_at "sx"
  refine Ts.useC (by walk_at "pks") (rounds_ok (n := n + 14) (rows := rows) (P := plainP) (fun r hr => ⟨(g.all r hr).wf, (g.all r hr).psl⟩) (by have := g.len; walk_at "om") fun told T hF hS => ?_)
  repeat' walk_at "sx"
  refine ss_cons ?_
  repeat' walk_at "sx"
  have hlast : many - 1 < ch.length := by walk_at "om"
  have hgl : ch[many - 1]? = some ch[many - 1] := List.getElem?_eq_getElem hlast
  obtain ⟨k1, k2, k3⟩ := chain_row hch hgl
  refine t_subListNeg (c := rowAV ch[many - 1]) (.obj chain _ (by walk_at "mem")) (by decide) (by rw [hchA]; walk_at "om") (by
    rw [hchA]
    have : (-1 + (ch.length : Int)).toNat = many - 1 := by walk_at "om"
    rw [this, List.getElem?_map, hgl]; rfl) (by decide) (fun _ _ _ => by with_unfolding_all rfl) ?_
  repeat' walk_at "sx"
  refine Ts.useC (by walk_at "pks") (draw_ok ho (by walk_at "om") (by walk_at "om") fun di o1 a1 a2 ho1 => ?_)
  obtain ⟨d, rfl⟩ := Int.eq_ofNat_of_zero_le a1
  have hd : d < ch.length := by walk_at "om"
  have hgd : ch[d]? = some ch[d] := List.getElem?_eq_getElem hd
  obtain ⟨k4, k5, k6⟩ := chain_row hch hgd
  refine t_subList (c := rowAV ch[d]) (.obj chain _ (by walk_at "mem")) (by walk_at "om") (by show (ch.map rowAV)[d]? = _; rw [List.getElem?_map, hgd]; rfl) (by walk_at "om") (fun _ _ _ => by with_unfolding_all rfl) ?_
  repeat' walk_at "sx"
  have hrows2 : ∀ (i : Nat) (a : AV), ([rowAV ch[many - 1], rowAV ch[d]] : List AV)[i]? = some a → ∃ r : Row, a = rowAV r ∧ OkW r.nm ∧ r.ps.length ≤ 2 := by
    intro i a h
    match i, h with
    | 0, h => (injection h with e0; (first | subst e0 | cases e0)); exact ⟨_, rfl, k1, k2⟩
    | 1, h => (injection h with e0; (first | subst e0 | cases e0)); exact ⟨_, rfl, k4, k5⟩
    | i + 2, h => simp at h
  generalize hL0 : Loc.set _ _ _ = L0
  have lr0 : L0 "rows" = some (.obj rowsA) := by rw [← hL0]; exact lr
  have lt0 : L0 "told" = some (.obj told) := by rw [← hL0]; rfl
  have LL0 : LocT L0 feed plain chain bk so fu br sc le form many shift back way := by
    rw [← hL0]
    exact (L.keep rfl)
  refine ⟨[rowAV ch[many - 1], rowAV ch[d]], [(feed, o1), (told, .dict (toldAV T)), (plain, .dict (plainAV plainP)), (rowsA, .list (rows.map rowAV)), (chain, .list (ch.map rowAV)), (so, .dict (sortsAV (tblOf rows))), (br, .list (brAV (namesOf rows)))], [], IInv rowsA told T kf ch rows feed plain chain bk so fu br sc le form many shift back way, it_tup, ⟨o1, _, by walk_at "pks", ho1, lr0, lt0, LL0⟩, ?_, ?_⟩
  · rintro i a M l ha ⟨o', J, pk, ho', lr, lt, L⟩
    have hi2 : i < 2 := (List.getElem?_eq_some_iff.mp ha).1
    obtain ⟨r, rfl, k1, k2⟩ := hrows2 i a ha
    have l1 := L.base.feed
    have l4 := L.base.plain
    have l10 := L.rd
    refine bd_name ⟨rfl, rfl⟩ ?_
    refine absQ fun _ _ => ?_
    refine T0.keep pk ?_
    refine ss_cons ?_
    repeat' walk_at "sx"
    refine Ts.useC (by walk_at "pks") (use_ok (nm := r.nm) (qs := r.ps) (ps := []) (rest := [itAV r.it]) ho' (by walk_at "om") (by decide) (by walk_at "om") fun it o2 hu ho2 => ?_)
    obtain ⟨u1, u2⟩ := use_wf k1 k2 (.inl rfl) hu
    repeat' walk_at "sx"
    refine Ts.useC (by walk_at "pks") (Ts.det (isread_ok (n := n + 12) (good_of g hF hS) (tblOk_of g) (hF.small fun r hr => (g.all r hr).psl) (u1.mono (by decide)) (wt_of (g.mono (D' := 300) (S' := 3000) (by decide) (by decide)) (by walk_at "om"))) ?_)
    refine ⟨_, rfl, fun h => (by injection h), fun _ => ?_⟩
    repeat' walk_at "sx"
    refine ⟨o2, _, by walk_at "pks", ho2.mono (by walk_at "om"), lr, lt, (L.keep rfl)⟩
  · rintro M l ⟨o', J, pk, ho', lr, lt, L⟩
    rw [List.append_nil]
    refine T0.keep pk ?_
    refine T0.keep (M' := [(told, .dict (toldAV T)), (rowsA, .list (rows.map rowAV)), (feed, o'), (chain, .list (ch.map rowAV)), (so, .dict (sortsAV (tblOf rows))), (br, .list (brAV (namesOf rows))), (plain, .dict (plainAV plainP))]) (by walk_at "pks") ?_
    exact hJ l o' told T (ho'.mono (by simp)) lr lt L hF hS
end
theorem rot_name {D S : Nat} {ch : List Row} (h : ChainOk D S ch) {s : Nat} (hs : s < ch.length) {j : Nat} (hj : j < ch.length) : ((ch.drop s ++ ch.take s).map (·.nm))[j]? = some (dName ((s + j) % ch.length)) := by
  with_reducible refine rwE (List.getElem?_map) ?_
  by_cases q : j < ch.length - s
  · rw [List.getElem?_append_left (by with_reducible refine rwE List.length_drop ?_; exact q), List.getElem?_drop]
    have hlt : s + j < ch.length := Nat.add_lt_of_lt_sub' q
    (with_reducible refine rwE (List.getElem?_eq_getElem hlt) ?_; with_reducible refine rwE (Nat.mod_eq_of_lt hlt) ?_)
    have := (h.at_ (s + j) _ (List.getElem?_eq_getElem hlt)).1
    simp [this]
  · rw [List.getElem?_append_right (by with_reducible refine rwE List.length_drop ?_; walk_at "om"), List.length_drop, List.getElem?_take]
    have hlt : j - (ch.length - s) < s := Nat.sub_lt_left_of_lt_add (Nat.not_lt.mp q) ((Nat.sub_add_cancel (Nat.le_of_lt hs)).symm ▸ hj)
    have hlt2 : j - (ch.length - s) < ch.length := Nat.lt_of_le_of_lt (Nat.sub_le ..) hj
    (with_reducible refine rwE (if_pos hlt) ?_; with_reducible refine rwE (List.getElem?_eq_getElem hlt2) ?_)
    have e : (s + j) % ch.length = j - (ch.length - s) := by
      have : s + j = (j - (ch.length - s)) + ch.length := (Nat.add_comm s j).trans ((congrArg (· + s) (Nat.sub_add_cancel (Nat.not_lt.mp q)).symm).trans ((Nat.add_assoc ..).trans (congrArg (j - (ch.length - s) + ·) (Nat.sub_add_cancel (Nat.le_of_lt hs)))))
      (with_reducible refine rwE this ?_; rewrite [Nat.add_mod_right]; with_reducible refine rwE (Nat.mod_eq_of_lt hlt2) ?_; with_reducible rfl)
    with_reducible refine rwE e ?_
    have := (h.at_ (j - (ch.length - s)) _ (List.getElem?_eq_getElem hlt2)).1
    simp [this]
theorem place_eq {s b i m : Nat} (hm : 0 < m) (hb : b ≤ m) : ((s : Int) - (b : Int) + (i : Int)).fmod (m : Int) = (((s + (m - b + i)) % m : Nat) : Int) := by
  with_reducible refine rwE (Int.fmod_eq_emod_of_nonneg _ (by walk_at "om")) ?_
  have e : (((s + (m - b + i) : Nat)) : Int) = ((s : Int) - b + i) + m := by walk_at "om"
  (rewrite [Int.natCast_emod]; with_reducible refine rwE e ?_; rewrite [Int.add_emod_right]; with_reducible rfl)
section
variable {w : World} {mean : ExcName → Option Value} {mg mb : Str → Option Value} {EQ : Mem → Loc → Prop}
/-- the rows once some of them are drawn anew -/
structure Anew (base rows1 nrows : List Row) (back i : Nat) : Prop where
  len : nrows.length = i
  names : nrows.map (·.nm) = ((base.map (·.nm)).drop (base.length - back)).take i
  good : ∀ r ∈ nrows, RowGood 3 60 r
  nod : ∀ r ∈ nrows, noD r.it
theorem Anew.rows {base nrows : List Row} {back i : Nat} (g : RowsGood 3 60 base) (a : Anew base (base.take (base.length - back)) nrows back i) (hb : back ≤ base.length) (hi : i ≤ back) : RowsGood 3 60 (base.take (base.length - back) ++ nrows) := by
  have hn : (base.take (base.length - back) ++ nrows).map (·.nm) = (base.map (·.nm)).take (base.length - back + i) := by
    (with_reducible refine rwE List.map_append ?_; with_reducible refine rwE a.names ?_; with_reducible refine rwE List.map_take ?_; with_reducible refine rwE List.take_add ?_; with_reducible rfl)
  refine ⟨fun r hr => ?_, ?_, ?_⟩
  · rcases List.mem_append.mp hr with hr | hr
    · exact g.all r (List.mem_of_mem_take hr)
    · exact a.good r hr
  · with_reducible refine rwE hn ?_; exact g.nd.sublist (List.take_sublist _ _)
  · (with_reducible refine rwE List.length_append ?_; with_reducible refine rwE List.length_take ?_; with_reducible refine rwE a.len ?_)
    exact Nat.le_trans (Nat.add_le_add (Nat.min_le_left ..) hi) (Nat.le_trans (Nat.le_of_eq (Nat.sub_add_cancel hb)) g.len)
inductive JInv (rowsA : Addr) (base rows1 : List Row) (feed plain chain : Addr) (bk : AV) (so fu br sc le : Addr) (form many shift back way : Nat) (i : Nat) (M : Mem) (l : Loc) : Prop
  | mk (ch nrows : List Row) (o' : AO) (J : Mem) (pk : Picks [(rowsA, .list ((rows1 ++ nrows).map rowAV)), (feed, o'), (chain, .list (ch.map rowAV)), (so, .dict (sortsAV (tblOf (rows1 ++ nrows)))), (br, .list (brAV (namesOf (rows1 ++ nrows)))), (plain, .dict (plainAV plainP))] M J) (ho : Feed (6000 + 110 * i) o') (hch : ChainOk 3 60 ch) (hcl : ch.length = many) (anew : Anew base rows1 nrows back i) (lr : l "rows" = some (.obj rowsA)) (L : LocT l feed plain chain bk so fu br sc le form many shift back way) : JInv rowsA base rows1 feed plain chain bk so fu br sc le form many shift back way i M l
set_option maxHeartbeats 16000000 in
theorem lawJ {fd : FuncData} (hfd : LawFd w fd) {fa : Addr} {cd : Value} {n : Nat} {l : Loc} {o : AO} {rowsA feed plain chain : Addr} {bk : AV} {so fu br sc le : Addr} {form many shift back way : Nat} {ch0 : List Row} (ho : Feed 6000 o) (lr : l "rows" = some (.obj rowsA)) (L : LocT l feed plain chain bk so fu br sc le form many shift back way) (nums : Nums form many shift back way) (hch : ChainOk 3 60 ch0) (hcl : ch0.length = many) (base rows1 : List Row) (hbase : base = rowsOf ch0 shift) (hrows1 : rows1 = base.take (base.length - back)) (g : RowsGood 3 60 base)
    (hK : ∀ (l : Loc) (o : AO) (ch nrows : List Row), Feed 7000 o → l "rows" = some (.obj rowsA) → LocT l feed plain chain bk so fu br sc le form many shift back way → ChainOk 3 60 ch → ch.length = many → Anew base rows1 nrows back back →
      Ss (WW w mean mg mb) (lawF fd fa cd) (n + 20) ((lawBody fd).drop 18) [(rowsA, .list ((rows1 ++ nrows).map rowAV)), (feed, o), (chain, .list (ch.map rowAV)), (so, .dict (sortsAV (tblOf (rows1 ++ nrows)))), (br, .list (brAV (namesOf (rows1 ++ nrows)))), (plain, .dict (plainAV plainP))] l (fun fl _ _ => fl = .ret (.bool true)) (fun _ _ => False)) :
    Ss (WW w mean mg mb) (lawF fd fa cd) (n + 20) ((lawBody fd).drop 17) [(rowsA, .list (rows1.map rowAV)), (feed, o), (chain, .list (ch0.map rowAV)), (so, .dict (sortsAV (tblOf rows1))), (br, .list (brAV (namesOf rows1))), (plain, .dict (plainAV plainP))] l (fun fl _ _ => fl = .ret (.bool true)) (fun _ _ => False) := by
  refine byG fun G_ bk_ => ?_; obtain ⟨oc, od, osl, h⟩ := hfd
  have e := law_lit h (by walk_at "mk")
  subst e; refine bk_ ?_; clear bk_
  clear h
  have hmany := nums.hmany
  have hback := nums.hback
  have hshift := nums.hshift
  have hbl : base.length = 4 + many := by
    with_reducible refine rwE hbase ?_; unfold rowsOf
    (rewrite [List.append_assoc]; with_reducible refine rwE List.length_append ?_; with_reducible refine rwE ((rowsOf_perm ch0 shift).length_eq) ?_; with_reducible refine rwE hcl ?_); rfl
  have glen := g.len
  have l9 := L.back
  have hchl := hch.len
  dsimp only [lawBody, List.drop, lawF]
  refine ss_cons ?_
  repeat' walk_at "sx"
  refine t_range ?_
  refine ⟨_, [(rowsA, .list (rows1.map rowAV)), (feed, o), (chain, .list (ch0.map rowAV)), (so, .dict (sortsAV (tblOf rows1))), (br, .list (brAV (namesOf rows1))), (plain, .dict (plainAV plainP))], [], JInv rowsA base rows1 feed plain chain bk so fu br sc le form many shift back way, it_range (by walk_at "om"), ⟨ch0, [], o, _, (by rw [List.append_nil]; walk_at "pks"), ho, hch, hcl, ⟨rfl, rfl, fun r hr => (nomatch hr), fun r hr => (nomatch hr)⟩, lr, L⟩, ?_, ?_⟩
  · rintro i a M l ha ⟨ch, nrows, o', J, pk, ho', hch', hcl', anew, lr, L⟩
    have hi : i < back := by have := (List.getElem?_eq_some_iff.mp ha).1; simpa using this
    have hai : AV.int (Int.ofNat i) = a := by rw [List.getElem?_map, List.getElem?_range hi] at ha; exact Option.some.inj ha
    subst hai
    have l1 := L.base.feed
    have l3 := L.base.sym
    have l5 := L.base.chain
    have l7 := L.shift
    have l8 := L.many
    have l9 := L.back
    unfold symAV at l3
    have hchA : (ch.map rowAV).length = ch.length := List.length_map ..
    refine bd_name ⟨rfl, rfl⟩ ?_
    refine absQ fun _ _ => ?_
    refine T0.keep pk ?_
    refine ss_cons ?_
    repeat' walk_at "sx"
    refine t_mod (by walk_at "om") ?_
    have ep : ((shift : Int) - (back : Int) + Int.ofNat i).fmod (many : Int) = (((shift + (many - back + i)) % many : Nat) : Int) := place_eq (by walk_at "om") (by walk_at "om")
    with_reducible refine rwE ep ?_
    have hpm : (shift + (many - back + i)) % many < many := Nat.mod_lt _ (by walk_at "om")
    have hnm : ((base.map (·.nm)).drop (base.length - back))[i]? = some (dName ((shift + (many - back + i)) % many)) := by
      (with_reducible refine rwE (List.getElem?_drop) ?_; with_reducible refine rwE hbl ?_; with_reducible refine rwE hbase ?_)
      unfold rowsOf
      rw [List.append_assoc, List.map_append, List.getElem?_append_right (show 4 ≤ 4 + many - back + i from rwE (P := fun z => 4 ≤ z) (ar_sub4 hback.2.1 i) (Nat.le_add_right ..))]
      have e4 : 4 + many - back + i - (tellersR.map (·.nm)).length = many - back + i := show 4 + many - back + i - 4 = _ from (congrArg (· - 4) (ar_sub4 hback.2.1 i)).trans (Nat.add_sub_cancel_left ..)
      (with_reducible refine rwE e4 ?_; with_reducible refine rwE (rot_name hch (by walk_at "om") (by walk_at "om")) ?_; with_reducible refine rwE hcl ?_; with_reducible rfl)
    generalize (shift + (many - back + i)) % many = p at hpm hnm ⊢
    have hp : p < ch.length := by walk_at "om"
    have hgp : ch[p]? = some ch[p] := List.getElem?_eq_getElem hp
    have hcn := (hch'.at_ p _ hgp).1
    have hcp := (hch'.at_ p _ hgp).2.1
    have hcpl := hcp.len
    repeat' walk_at "sx"
    refine ss_cons ?_
    repeat' walk_at "sx"
    refine t_subList (c := .tup [.str ch[p].nm, .tup (ch[p].ps.map .str), itAV ch[p].it]) (.obj chain _ (by walk_at "mem")) (by walk_at "om") (by refine (?_ : (ch.map rowAV)[p]? = _); (with_reducible refine rwE (List.getElem?_map) ?_; with_reducible refine rwE hgp ?_); rfl) (by walk_at "om") (fun _ _ _ => by with_unfolding_all rfl) ?_
    repeat' walk_at "sx"
    refine t_subTupSlice (lo := none) (hi := some 2) (i := 0) (c := 2) (by simp [sizeLine]) .none (.int 2) rfl (by simp) (by simp) (fun _ _ => ⟨_, by with_unfolding_all rfl⟩) ?_
    repeat' walk_at "sx"
    have e2 : List.take 2 (List.drop 0 [AV.str ch[p].nm, AV.tup (ch[p].ps.map AV.str), itAV ch[p].it]) = [.str ch[p].nm, .tup (ch[p].ps.map .str)] := rfl
    with_reducible refine rwE e2 ?_
    refine ⟨rfl, ?_⟩
    repeat' walk_at "sx"
    refine ss_cons ?_
    repeat' walk_at "sx"
    refine Ts.useC (by walk_at "pks") (drawn_ok (rows := ch) (j := p) ho' (by walk_at "om") (by walk_at "om") (by walk_at "om") (fun r hr => ?_) (by have := hch'.len; walk_at "om") fun it o2 hit ho2 => ?_)
    · refine byG fun G_ bk_ => ?_; obtain ⟨j, hj, rfl⟩ := List.getElem_of_mem hr; refine bk_ ?_; clear bk_
      have := (chain_row hch' (List.getElem?_eq_getElem hj)).2.1
      walk_at "om"
    obtain ⟨hw1, hw2⟩ := drawn_wf hch' hcp hit
    have hnd := drawn_nod hch' hcp hit
    repeat' walk_at "sx"
    have hset : (ch.map rowAV).set (p : Int).toNat (.tup [.str ch[p].nm, .tup (ch[p].ps.map .str), itAV it]) = (ch.set p ⟨ch[p].nm, ch[p].ps, it⟩).map rowAV := by rw [List.map_set]; rfl
    refine t_setList (by rw [hset]; walk_at "rp") (by walk_at "om") (by rw [hchA]; walk_at "om") (by walk_at "om") ?_
    have hch2 := hch'.set hgp (hw1.mono (by decide)) (Nat.le_trans hw2 (by decide)) hnd
    have hg2 : (ch.set p ⟨ch[p].nm, ch[p].ps, it⟩)[p]? = some ⟨ch[p].nm, ch[p].ps, it⟩ := List.getElem?_set_self hp
    have hcl2 : (ch.set p ⟨ch[p].nm, ch[p].ps, it⟩).length = many := by with_reducible refine rwE List.length_set ?_; exact hcl'
    clear hset hit
    generalize hr : (⟨ch[p].nm, ch[p].ps, it⟩ : Row) = r at hch2 hg2 hcl2 ⊢
    have hrn : r.nm = dName p := by with_reducible refine rwE (Eq.symm hr) ?_; exact hcn
    have e3 : AV.str ch[p].nm = .str r.nm := by (with_reducible refine rwE (Eq.symm hr) ?_; with_reducible rfl)
    have e4 : AV.tup (ch[p].ps.map .str) = .tup (r.ps.map .str) := by (with_reducible refine rwE (Eq.symm hr) ?_; with_reducible rfl)
    (with_reducible refine rwE e3 ?_; with_reducible refine rwE e4 ?_)
    clear e2 e3 e4 hr hgp hchA hcn hcp hcpl hw1 hw2
    generalize ch.set p r = ch2 at hch2 hg2 hcl2 ⊢
    have hchA : (ch2.map rowAV).length = ch2.length := List.length_map ..
    have hrow := chain_good hch2 hg2
    have hnew : Anew base rows1 (nrows ++ [r]) back (i + 1) := ⟨by (with_reducible refine rwE List.length_append ?_; with_reducible refine rwE anew.len ?_); rfl, by (with_reducible refine rwE List.take_add_one ?_; with_reducible refine rwE hnm ?_; with_reducible refine rwE List.map_append ?_; with_reducible refine rwE anew.names ?_; with_reducible refine rwE List.map_cons ?_; with_reducible refine rwE hrn ?_); rfl, fun q hq => by
      rcases List.mem_append.mp hq with hq | hq
      · exact anew.good q hq
      · with_reducible refine rwE (List.mem_singleton.mp hq) ?_; exact hrow, fun q hq => by
      rcases List.mem_append.mp hq with hq | hq
      · exact anew.nod q hq
      · with_reducible refine rwE (List.mem_singleton.mp hq) ?_; exact hch2.nod r (List.mem_of_getElem? hg2)⟩
    have gr : RowsGood 3 60 (rows1 ++ (nrows ++ [r])) := by
      rw [hrows1] at hnew ⊢
      exact hnew.rows g (by walk_at "om") (by walk_at "om")
    rw [← List.append_assoc] at gr
    have hfresh := tblOf_fresh gr
    have grl := gr.len
    simp only [List.length_append, List.length_cons, List.length_nil] at grl
    have hrl : ((rows1 ++ nrows).map rowAV).length = rows1.length + nrows.length := by (rewrite [List.length_map]; with_reducible refine rwE List.length_append ?_; with_reducible rfl)
    have hl1 : (sortsAV (tblOf (rows1 ++ nrows))).length ≤ 1000 := by simp [sortsAV, tblOf]; walk_at "om"
    have hl2 : (brAV (namesOf (rows1 ++ nrows))).length ≤ 1000 := by simp [brAV]; walk_at "om"
    refine ss_cons ?_
    repeat' walk_at "sx"
    refine t_subList (c := .tup [.str r.nm, .tup (r.ps.map .str), itAV r.it]) (.obj chain _ (by walk_at "mem")) (by walk_at "om") (by show (ch2.map rowAV)[p]? = _; rw [List.getElem?_map, hg2]; rfl) (by walk_at "om") (fun _ _ _ => by with_unfolding_all rfl) ?_
    repeat' walk_at "sx"
    have l3 := L.base.sym
    unfold symAV at l3
    refine ss_cons ?_
    repeat' walk_at "sx"
    refine t_subList (c := .tup [.str r.nm, .tup (r.ps.map .str), itAV r.it]) (.obj chain _ (by walk_at "mem")) (by walk_at "om") (by refine (?_ : (ch2.map rowAV)[p]? = _); (with_reducible refine rwE (List.getElem?_map) ?_; with_reducible refine rwE hg2 ?_); rfl) (by walk_at "om") (fun _ _ _ => by with_unfolding_all rfl) ?_
    repeat' walk_at "sx"
    refine Ts.useC (by walk_at "pks") (Ts.det (define_ok (so := so) (br := br) (fu := fu) (sc := sc) (le := le) (es := sortsAV (tblOf (rows1 ++ nrows))) (L := brAV (namesOf (rows1 ++ nrows))) hrow.free hrow.psf hfresh (by walk_at "om") (by walk_at "om") hrow.psl) ?_)
    repeat' walk_at "sx"
    have e5 : rows1 ++ (nrows ++ [r]) = rows1 ++ nrows ++ [r] := (List.append_assoc _ _ _).symm
    refine ⟨ch2, nrows ++ [r], o2, _, (by (with_reducible refine rwE e5 ?_; with_reducible refine rwE tblOf_snoc ?_; with_reducible refine rwE namesOf_snoc ?_; with_reducible refine rwE (List.map_append (l₁ := rows1 ++ nrows)) ?_); walk_at "pks"), ho2.mono (by walk_at "om"), hch2, hcl2, hnew, lr, (L.keep rfl)⟩
  · rintro M l ⟨ch, nrows, o', J, pk, ho', hch', hcl', anew, lr, L⟩
    rw [List.append_nil]
    refine T0.keep pk ?_
    rw [List.length_map, List.length_range] at anew
    exact hK l o' ch nrows (ho'.mono (by simp; walk_at "om")) lr L hch' hcl' anew
end
theorem put_more {T : Told} {x : Str} {e : List Str × Wo} {as : List (Option Wo)} (h : x ≠ ("Deep" : Str)) : putW (T ++ [(("Deep" : Str), e)]) x as = putW T x as := by
  have : (T ++ [(("Deep" : Str), e)]).lookup x = T.lookup x := by
    (with_reducible refine rwE List.lookup_append ?_; with_reducible refine rwE List.lookup_cons ?_)
    have : (x == ("Deep" : Str)) = false := by simpa using h
    with_reducible refine rwE this ?_
    cases T.lookup x <;> rfl
  unfold putW
  (with_reducible refine rwE this ?_; with_reducible rfl)
mutual
theorem worth_more {T : Told} {P : Plain} {ps : List Str} {e : List Str × Wo} : ∀ {it : It}, noD it → worthW (T ++ [(("Deep" : Str), e)]) P ps it = worthW T P ps it
  | .sym x, h => by
    rw [worthW, worthW]
    split
    · rfl
    · split
      · rfl
      · exact put_more h
  | .list [], _ => by rw [worthW, worthW]
  | .list (.sym h :: r), hd => by rw [worthW, worthW, put_more hd.1, worths_more hd.2]
  | .list (.list _ :: _), _ => by rw [worthW, worthW]
theorem worths_more {T : Told} {P : Plain} {ps : List Str} {e : List Str × Wo} : ∀ {l : List It}, noDs l → worthsW (T ++ [(("Deep" : Str), e)]) P ps l = worthsW T P ps l
  | [], _ => by rw [worthsW, worthsW]
  | i :: r, h => by rw [worthsW, worthsW, worth_more h.1, worths_more h.2]
end
theorem row_uniq {rows : List Row} (nd : (rows.map (·.nm)).Nodup) {r r' : Row} (hr : r ∈ rows) (hr' : r' ∈ rows) (e : r'.nm = r.nm) : r'.ps = r.ps ∧ r'.it = r.it := by
  have h1 := row_tbl nd hr
  have h2 := row_tbl nd hr'
  rw [e, h1] at h2
  injection h2 with h2
  injection h2 with a _ b
  injection b with b
  exact ⟨a.symm, b.symm⟩
theorem told_at {T : Told} {x : Str} {e : List Str × Wo} (h : T.lookup x = some e) : ∃ i : Nat, T[i]? = some (x, e) := by
  obtain ⟨l1, l2, q, _⟩ := List.lookup_eq_some_iff.mp h
  refine ⟨l1.length, ?_⟩
  (with_reducible refine rwE q ?_; with_reducible refine rwE (List.getElem?_append_right (Nat.le_refl _)) ?_; rewrite [Nat.sub_self]); rfl
theorem tell_row {D S : Nat} {rows : List Row} {T : Told} (g : RowsGood D S rows) (hF : FixR plainP rows T) (hS : StabR plainP rows T) {nm x : Str} {ps : List Str} (hr : (⟨nm, ps, .sym x⟩ : Row) ∈ rows) (hx : x ∈ ps) : T.lookup nm = some (ps, .par x) := by
  cases q : T.lookup nm with
  | none =>
    have := hS _ hr q
    rw [worthW, if_pos hx] at this
    injection this
  | some e =>
    obtain ⟨qs, wo⟩ := e
    obtain ⟨i, hi⟩ := told_at q
    obtain ⟨r', hr', h1, h2, h3⟩ := hF.2 i nm qs wo hi
    obtain ⟨e1, e2⟩ := row_uniq g.nd hr hr' h1
    have e1 : r'.ps = ps := e1
    have e2 : r'.it = .sym x := e2
    rw [e1] at h2
    subst h2
    rw [e2, worthW, if_pos hx] at h3
    injection h3 with h3
    (with_reducible refine rwE h3 ?_; with_reducible rfl)
theorem tell_of {D S : Nat} {rows : List Row} {T : Told} (g : RowsGood D S rows) (hF : FixR plainP rows T) (hS : StabR plainP rows T) (ht : ∀ r ∈ tellersR, r ∈ rows) : Tell T where
  a := tell_row g hF hS (ht _ (.head _)) (by decide)
  l := tell_row g hF hS (ht _ (.tail _ (.head _))) (by decide)
  m := tell_row g hF hS (ht _ (.tail _ (.tail _ (.head _)))) (by decide)
  r := tell_row g hF hS (ht _ (.tail _ (.tail _ (.tail _ (.head _))))) (by decide)
  n := by
    cases q : T.lookup ("Nope" : Str) with
    | none => rfl
    | some e =>
      obtain ⟨qs, wo⟩ := e
      obtain ⟨i, hi⟩ := told_at q
      obtain ⟨r', hr', h1, h2, h3⟩ := hF.2 i _ qs wo hi
      exact absurd (by with_reducible refine rwE h1 ?_; decide) (g.all r' hr').far
theorem FixR.rows {P : Plain} {rows rows' : List Row} {T : Told} (h : FixR P rows T) (hs : ∀ r ∈ rows, r ∈ rows') : FixR P rows' T :=
  ⟨h.1, fun i x ps wo hi => by obtain ⟨r, hr, q⟩ := h.2 i x ps wo hi; exact ⟨r, hs r hr, q⟩⟩
noncomputable abbrev deepR (it : It) : Row := ⟨"Deep", ["X"], it⟩
theorem deep_good {rows : List Row} (g : RowsGood 3 60 rows) (hn : ∀ r ∈ rows, r.nm ≠ ("Deep" : Str)) (hl : rows.length ≤ 39) {it : It} (hw : Wf 300 it) (hs : szI it ≤ 3000) : RowsGood 300 3000 (rows ++ [deepR it]) := by
  have g' := g.mono (D' := 300) (S' := 3000) (by decide) (by decide)
  refine ⟨fun r hr => ?_, ?_, by rw [List.length_append]; show _ + 1 ≤ 40; walk_at "om"⟩
  · rcases List.mem_append.mp hr with hr | hr
    · exact g'.all r hr
    · with_reducible refine rwE (List.mem_singleton.mp hr) ?_
      have d1 : OkW "Deep" := ⟨by decide, by decide, by decide⟩
      have d2 : FreeW "Deep" := ⟨by decide, by decide, by decide⟩
      have d3 : FreeW "X" := ⟨by decide, by decide, by decide⟩
      have d4 : ("Deep" : Str) ∉ ([("U" : Str), "V", "Nope", "Bool", "Int"] : List Str) := by decide
      have d5 : PyData.strOk ("Deep" : Str) = true := by decide +kernel
      exact ⟨d1, d2, d4, (by simp), (by simp), fun p hp => by
        have : p = "X" := by simpa using hp
        subst this
        exact d3, hw, hs, d5⟩
  · (with_reducible refine rwE List.map_append ?_; rewrite [List.nodup_append])
    refine ⟨g.nd, by simp, fun a ha b hb e => ?_⟩
    obtain ⟨r, hr, rfl⟩ := List.mem_map.mp ha
    have : b = "Deep" := by simpa using hb
    exact hn r hr (by (with_reducible refine rwE e ?_; with_reducible refine rwE this ?_; with_reducible rfl))
noncomputable def deepT (T : Told) : Option Wo → Told
  | none => T
  | some wo => T ++ [(("Deep" : Str), (["X"] : List Str), wo)]
theorem deep_told {rows : List Row} {T : Told} (g : RowsGood 3 60 rows) (hF : FixR plainP rows T) (hS : StabR plainP rows T) (hn : ∀ r ∈ rows, r.nm ≠ ("Deep" : Str) ∧ noD r.it) (ht : ∀ r ∈ tellersR, r ∈ rows) {it : It} {wo : Option Wo} (hw : NestW plainP it wo) : FixR plainP (rows ++ [deepR it]) (deepT T wo) ∧ StabR plainP (rows ++ [deepR it]) (deepT T wo) ∧ T.lookup ("Deep" : Str) = none := by
  have t := hw T (tell_of g hF hS ht)
  have hF' := hF.rows (rows' := rows ++ [deepR it]) fun r hr => List.mem_append_left _ hr
  have hnone : T.lookup ("Deep" : Str) = none := by
    cases q : T.lookup ("Deep" : Str) with
    | none => rfl
    | some e =>
      obtain ⟨qs, wo'⟩ := e
      obtain ⟨i, hi⟩ := told_at q
      obtain ⟨r', hr', h1, _⟩ := hF.2 i _ qs wo' hi
      exact absurd h1 (hn r' hr').1
  cases wo with
  | none =>
    refine ⟨hF', fun r hr h => ?_, hnone⟩
    rcases List.mem_append.mp hr with hr | hr
    · exact hS r hr h
    · rw [List.mem_singleton.mp hr]; exact t
  | some w =>
    refine ⟨hF'.snoc (r := deepR it) (by simp) hnone t, fun r hr h => ?_, hnone⟩
    have hl : ∀ x, (T ++ [(("Deep" : Str), (["X"] : List Str), w)]).lookup x = none → T.lookup x = none ∧ x ≠ "Deep" := by
      intro x h
      rw [List.lookup_append] at h
      cases q : T.lookup x with
      | some v => rw [q] at h; injection h
      | none =>
        refine ⟨rfl, fun e => ?_⟩
        subst e
        rw [q] at h
        simp at h
    obtain ⟨h1, h2⟩ := hl _ h
    rcases List.mem_append.mp hr with hr | hr
    · refine (?_ : worthW (T ++ _) _ _ _ = none)
      with_reducible refine rwE (worth_more (hn r hr).2) ?_
      exact hS r hr h1
    · rw [List.mem_singleton.mp hr] at h2
      exact absurd rfl h2
section
variable {w : World} {mean : ExcName → Option Value} {mg mb : Str → Option Value} {EQ : Mem → Loc → Prop}
set_option maxHeartbeats 16000000 in
theorem lawK {fd : FuncData} (hfd : LawFd w fd) {fa : Addr} {cd : Value} {n : Nat} {l : Loc} {o : AO} {told rowsA feed plain chain : Addr} {bk : AV} {so fu br sc le : Addr} {form many shift back way : Nat} {chA : List AV} {rows : List Row} {T : Told} (ho : Feed 60000 o) (lr : l "rows" = some (.obj rowsA)) (lt : l "told" = some (.obj told)) (L : LocT l feed plain chain bk so fu br sc le form many shift back way) (g : RowsGood 3 60 rows) (hl : rows.length ≤ 39) (hF : FixR plainP rows T) (hS : StabR plainP rows T) (hn : ∀ r ∈ rows, r.nm ≠ ("Deep" : Str) ∧ noD r.it) (ht : ∀ r ∈ tellersR, r ∈ rows)
    (hM : ∀ (l : Loc) (rows' : List Row), RowsGood 300 3000 rows' → l "rows" = some (.obj rowsA) → LocT l feed plain chain bk so fu br sc le form many shift back way →
      Ss (WW w mean mg mb) (lawF fd fa cd) (n + 20) ((lawBody fd).drop 21) [(rowsA, .list (rows'.map rowAV)), (br, .list (brAV (namesOf rows')))] l (fun fl _ _ => fl = .ret (.bool true)) (fun _ _ => False)) :
    Ss (WW w mean mg mb) (lawF fd fa cd) (n + 20) ((lawBody fd).drop 20) [(told, .dict (toldAV T)), (rowsA, .list (rows.map rowAV)), (feed, o), (chain, .list chA), (so, .dict (sortsAV (tblOf rows))), (br, .list (brAV (namesOf rows))), (plain, .dict (plainAV plainP))] l (fun fl _ _ => fl = .ret (.bool true)) (fun _ _ => False) := by
  obtain ⟨oc, od, osl, h⟩ := hfd
  have e := law_lit h (by walk_at "mk")
  subst e
  clear h
  have l1 := L.base.feed
  have l3 := L.base.sym
  unfold symAV at l3
  have l4 := L.base.plain
  have l6 := L.form
  have l10 := L.rd
  have hTl := hF.len
  have hTA : (toldAV T).length = T.length := List.length_map ..
  have hl0 : (rows.map rowAV).length = rows.length := List.length_map ..
  have hl1 : (sortsAV (tblOf rows)).length ≤ 1000 := by simp [sortsAV, tblOf]; walk_at "om"
  have hl2 : (brAV (namesOf rows)).length ≤ 1000 := by simp [brAV]; walk_at "om"
  have skip := hM l rows (g.mono (by decide) (by decide)) lr L
  dsimp only [lawBody, List.drop, lawF] at skip ⊢
  refine ss_cons ?_
  repeat' walk_at "sx"
  refine ⟨fun _ => ?_, fun _ => ?_⟩
  · refine ss_cons ?_
    repeat' walk_at "sx"
    refine Ts.useC (by walk_at "pks") (nest_ok (n := n + 18) (P := plainP) (u := 3) (v := 4) ho (by decide) rfl rfl rfl rfl fun it wo o1 hnw hwf hsz ho1 => ?_)
    obtain ⟨hF', hS', hnone⟩ := deep_told g hF hS hn ht hnw
    have g' := deep_good g (fun r hr => (hn r hr).1) hl hwf hsz
    repeat' walk_at "sx"
    refine ⟨rfl, ?_⟩
    repeat' walk_at "sx"
    refine ss_cons ?_
    repeat' walk_at "sx"
    have hfresh := tblOf_fresh g'
    have hrow := g'.all (deepR it) (by simp)
    refine Ts.useC (by walk_at "pks") (Ts.det (define_ok (so := so) (br := br) (fu := fu) (sc := sc) (le := le) (ps := ["X"]) (es := sortsAV (tblOf rows)) (L := brAV (namesOf rows)) hrow.free hrow.psf hfresh (by walk_at "om") (by walk_at "om") (by decide)) ?_)
    repeat' walk_at "sx"
    refine ss_cons ?_
    repeat' walk_at "sx"
    refine ss_cons ?_
    repeat' walk_at "sx"
    have hwi : Wf 3 (.list [.sym "Deep", .sym "V"]) := ⟨"Deep", [.sym "V"], rfl, ⟨by decide, by decide, by decide⟩, by decide, by decide, fun i hi => by
      with_reducible refine rwE (List.mem_singleton.mp hi) ?_
      exact wf_word ⟨by decide, by decide, by decide⟩ 2⟩
    generalize hL1 : Loc.set _ _ _ = L1
    have L1r : L1 "rows" = some (.obj rowsA) := by rw [← hL1]; exact lr
    have L1t : L1 "told" = some (.obj told) := by rw [← hL1]; exact lt
    have L1w : L1 "worth" = some (woAV wo) := by rw [← hL1]; rfl
    have L1L : LocT L1 feed plain chain bk so fu br sc le form many shift back way := by
      with_reducible refine rwE (Eq.symm hL1) ?_
      exact (L.keep rfl)
    clear hL1
    have l4 := L1L.base.plain
    have l10 := L1L.rd
    refine t_isNotNone woAV_none ?_
    cases wo with
    | none =>
      refine ⟨_, rfl, fun h => (by injection h), fun _ => ?_⟩
      repeat' walk_at "sx"
      refine ss_cons ?_
      repeat' walk_at "sx"
      refine Ts.useF (isread_ok (n := n + 12) (T := tblOf (rows ++ [deepR it])) (W := deepT T none) (it := .list [.sym "Deep", .sym "V"]) (good_of g' hF' hS') (tblOk_of g') (hF'.small fun r hr => (g'.all r hr).psl) hwi (wt_of g' (by decide))) (by
        with_reducible refine rwE tblOf_snoc ?_
        walk_at "pks") ?_
      rintro b M' l' ⟨rfl, rfl, rfl⟩
      refine ⟨_, rfl, fun h => (by injection h), fun _ => ?_⟩
      repeat' walk_at "sx"
      have hm := hM l' (rows ++ [deepR it]) g' L1r L1L
      rw [namesOf_snoc, List.map_append (l₁ := rows)] at hm
      dsimp only [lawBody, List.drop, lawF] at hm ⊢
      refine T0.keep (by walk_at "pks") hm
    | some wo =>
      refine ⟨_, rfl, fun _ => ?_, fun h => (by injection h)⟩
      have hput : putD (toldAV T) "Deep" (.tup [.tup [.str "X"], woAV (some wo)]) = toldAV (deepT T (some wo)) := by
        rw [putD_new (by (with_reducible refine rwE toldAV_at ?_; with_reducible refine rwE hnone ?_); rfl)]
        unfold toldAV deepT
        rw [List.map_append]; rfl
      refine ss_cons ?_
      repeat' walk_at "sx"
      refine t_setDict (by with_reducible refine rwE hput ?_; walk_at "rp") (by with_reducible refine rwE hTA ?_; unfold sizeLine; walk_at "om") ?_
      repeat' walk_at "sx"
      refine ss_cons ?_
      repeat' walk_at "sx"
      refine Ts.useF (isread_ok (n := n + 12) (T := tblOf (rows ++ [deepR it])) (W := deepT T (some wo)) (it := .list [.sym "Deep", .sym "V"]) (good_of g' hF' hS') (tblOk_of g') (hF'.small fun r hr => (g'.all r hr).psl) hwi (wt_of g' (by decide))) (by
        with_reducible refine rwE tblOf_snoc ?_
        walk_at "pks") ?_
      rintro b M' l' ⟨rfl, rfl, rfl⟩
      refine ⟨_, rfl, fun h => (by injection h), fun _ => ?_⟩
      repeat' walk_at "sx"
      have hm := hM l' (rows ++ [deepR it]) g' L1r L1L
      rw [namesOf_snoc, List.map_append (l₁ := rows)] at hm
      dsimp only [lawBody, List.drop, lawF] at hm ⊢
      refine T0.keep (by walk_at "pks") hm
  · repeat' walk_at "sx"
    refine T0.keep (M' := [(rowsA, .list (rows.map rowAV)), (br, .list (brAV (namesOf rows)))]) (by walk_at "pks") ?_
    exact skip
end
theorem fit_any {nm : Str} {sc : Scope} {fa fa' : Addr} {cd cd' : Value} {scope : Scope} {x : Str} (h : scopeFit ⟨nm, sc, fa', cd', none⟩ scope x = true) : scopeFit ⟨nm, sc, fa, cd, none⟩ scope x = true := h
section
variable {w : World} {mean : ExcName → Option Value} {mg mb : Str → Option Value} {EQ : Mem → Loc → Prop}
set_option maxHeartbeats 16000000 in
theorem lawL {fd : FuncData} (hfd : LawFd w fd) {fa : Addr} {cd : Value} {n : Nat} {l : Loc} {rowsA feed plain chain : Addr} {bk : AV} {so fu br sc le : Addr} {form many shift back way : Nat} {rows : List Row} (g : RowsGood 300 3000 rows) (lr : l "rows" = some (.obj rowsA)) (L : LocT l feed plain chain bk so fu br sc le form many shift back way) :
    Ss (WW w mean mg mb) (lawF fd fa cd) (n + 20) ((lawBody fd).drop 21) [(rowsA, .list (rows.map rowAV)), (br, .list (brAV (namesOf rows)))] l (fun fl _ _ => fl = .ret (.bool true)) (fun _ _ => False) := by
  obtain ⟨oc, od, osl, h⟩ := hfd
  have e := law_lit h (by walk_at "mk")
  subst e
  clear h
  have l3 := L.base.sym
  unfold symAV at l3
  have glen := g.len
  refine ss_cons ?_
  repeat' walk_at "sx"
  refine ev_ListComp ?_ (fit_any (fa' := 0) (cd' := .none) (by decide +kernel)) (by intro _ _; exact rfl)
  repeat' walk_at "sx"
  intro uv
  refine ev_ListComp ?_ (fit_any (fa' := 0) (cd' := .none) (by decide +kernel)) (by intro _ _; exact rfl)
  repeat' walk_at "sx"
  refine ⟨rows.map rowAV, [(uv, .list [.str "U", .str "V"]), (br, .list (brAV (namesOf rows)))], [(rowsA, .list (rows.map rowAV))], fun i ys M => M = [(uv, .list [.str "U", .str "V"]), (br, .list (brAV (namesOf rows)))] ∧ ys = (rows.take i).map fun r => .str r.nm, it_list (by walk_at "pk"), by rw [List.length_map]; unfold sizeLine; walk_at "om", ⟨rfl, rfl⟩, ?_, ?_⟩
  · rintro i a ys M ha ⟨rfl, rfl⟩
    have hi : i < rows.length := by have := (List.getElem?_eq_some_iff.mp ha).1; simpa using this
    have hgi : rows[i]? = some rows[i] := List.getElem?_eq_getElem hi
    have hai : rowAV rows[i] = a := by rw [List.getElem?_map, hgi] at ha; exact Option.some.inj ha
    subst hai
    have htk : rows.take (i + 1) = rows.take i ++ [rows[i]] := by (with_reducible refine rwE List.take_add_one ?_; with_reducible refine rwE hgi ?_); rfl
    generalize rows[i] = r at hgi htk ⊢
    have e : rowAV r = .tup [.str r.nm, .tup (r.ps.map .str), itAV r.it] := rfl
    with_reducible refine rwE e ?_
    repeat' walk_at "sx"
    exact ⟨rfl, by (with_reducible refine rwE htk ?_; with_reducible refine rwE List.map_append ?_); rfl⟩
  · rintro ys M hys ⟨rfl, rfl⟩ D
    (rewrite [List.length_map]; with_reducible refine rwE List.take_length ?_)
    refine t_addList (as := [.str "U", .str "V"]) (bs := rows.map fun r => .str r.nm) (.obj uv _ (by walk_at "mem")) (.obj D _ (by walk_at "mem")) (by rw [List.length_map]; unfold sizeLine; refine (?_ : 2 + _ ≤ _); walk_at "om") fun E => ?_
    have hnames : ([.str "U", .str "V"] ++ rows.map fun r => .str r.nm : List AV) = (namesOf rows).map .str := by
      unfold namesOf
      (with_reducible refine rwE List.map_append ?_; with_reducible refine rwE List.map_map ?_); rfl
    with_reducible refine rwE hnames ?_
    have hnl : (namesOf rows).length = 2 + rows.length := by
      unfold namesOf
      (with_reducible refine rwE List.length_append ?_; rewrite [List.length_map]); rfl
    have hnok : ∀ x ∈ namesOf rows, PyData.strOk x = true := by
      intro x hx
      rcases List.mem_append.mp hx with hx | hx
      · simp only [List.mem_cons, List.not_mem_nil, or_false] at hx
        rcases hx with rfl | rfl <;> decide +kernel
      · obtain ⟨r, hr, rfl⟩ := List.mem_map.mp hx
        exact (g.all r hr).asc
    generalize namesOf rows = ns at hnl hnok ⊢
    refine ⟨ns.map .str, [(D, .list (rows.map fun r => .str r.nm)), (uv, .list [.str "U", .str "V"]), (br, .list (brAV ns)), (rowsA, .list (rows.map rowAV))], [(E, .list (ns.map .str))], fun i ys M => M = [(D, .list (rows.map fun r => .str r.nm)), (uv, .list [.str "U", .str "V"]), (br, .list (brAV ns)), (rowsA, .list (rows.map rowAV))] ∧ ys = brAV (ns.take i), it_list (by walk_at "pk"), by rw [List.length_map]; unfold sizeLine; walk_at "om", ⟨rfl, rfl⟩, ?_, ?_⟩
    · rintro i a ys M ha ⟨rfl, rfl⟩
      have hi : i < ns.length := by have := (List.getElem?_eq_some_iff.mp ha).1; simpa using this
      have hgi : ns[i]? = some ns[i] := List.getElem?_eq_getElem hi
      have hai : AV.str ns[i] = a := by rw [List.getElem?_map, hgi] at ha; exact Option.some.inj ha
      subst hai
      have htk : ns.take (i + 1) = ns.take i ++ [ns[i]] := by (with_reducible refine rwE List.take_add_one ?_; with_reducible refine rwE hgi ?_); rfl
      generalize ns[i] = x at hgi htk ⊢
      repeat' walk_at "sx"
      exact ⟨rfl, by rw [htk]; unfold brAV; rw [List.map_append]; rfl⟩
    · rintro ys M hys ⟨rfl, rfl⟩ D2
      (rewrite [List.length_map]; with_reducible refine rwE List.take_length ?_)
      have hb : brAV ns = (ns.map fun x => (("sort" : Str), x)).map fun p => .tup [.str p.1, .str p.2] := by
        rw [List.map_map]; rfl
      refine t_eqBr (names := ns.map fun x => (("sort" : Str), x)) (.obj br _ (by rw [← hb]; walk_at "mem")) (.obj D2 _ (by rw [← hb]; walk_at "mem")) (fun p hp => ?_) rfl
      obtain ⟨x, hx, rfl⟩ := List.mem_map.mp hp
      exact ⟨(show PyData.strOk ("sort" : Str) = true by decide +kernel), hnok x hx⟩
end
theorem base_far {ch : List Row} (h : ChainOk 3 60 ch) {s : Nat} {r : Row} (hr : r ∈ rowsOf ch s) : r.nm ≠ ("Deep" : Str) ∧ noD r.it := by
  unfold rowsOf at hr
  rw [List.append_assoc] at hr
  rcases List.mem_append.mp hr with hr | hr
  · simp only [tellersR, List.mem_cons, List.not_mem_nil, or_false] at hr
    rcases hr with rfl | rfl | rfl | rfl <;> exact ⟨by decide, by unfold noD; decide⟩
  · obtain ⟨i, hi, rfl⟩ := List.getElem_of_mem ((rowsOf_perm ch s).subset hr)
    exact chain_nod h (List.getElem?_eq_getElem hi)
section
variable {w : World} {mean : ExcName → Option Value} {mg mb : Str → Option Value} {EQ : Mem → Loc → Prop}
theorem lawRest {fd : FuncData} (hfd : LawFd w fd) {fa : Addr} {cd : Value} {n : Nat} {l : Loc} {cA : Addr} {cells : List Int} (hc : cells.length ≤ 60) (l1 : l "cells" = some (.obj cA)) :
    Ss (WW w mean mg mb) (lawF fd fa cd) (n + 20) ((lawBody fd).drop 1) [(cA, .list (cells.map .int))] l (fun fl _ _ => fl = .ret (.bool true)) (fun _ _ => False) := by
  refine lawA hfd hc l1 fun l o feed plain chain bk so fu br sc le ho L => ?_
  refine lawB hfd ho L fun l o menu mL form many shift back way ho L lm nums h0 h4 hps => ?_
  refine lawC hfd ho L lm nums h0 h4 hps fun l o ch ho L hch hcl => ?_
  refine lawD hfd ho L nums hch hcl fun l o ch ho L hch hcl => ?_
  refine lawE hfd ho L nums hch hcl fun l rowsA lr L => ?_
  have g := rowsOf_good hch shift
  have hbl : (rowsOf ch shift).length = 4 + many := by
    unfold rowsOf
    (rewrite [List.append_assoc]; with_reducible refine rwE List.length_append ?_; with_reducible refine rwE ((rowsOf_perm ch shift).length_eq) ?_; with_reducible refine rwE hcl ?_); rfl
  have hmany := nums.hmany
  have hback := nums.hback
  have hshift := nums.hshift
  have hbb : back ≤ (rowsOf ch shift).length := Nat.le_trans hback.2.1 (Nat.le_trans (Nat.le_add_left many 4) (Nat.le_of_eq hbl.symm))
  refine lawF11 hfd lr L g fun l lr L => ?_
  refine lawG hfd ho lr L nums hch hcl g fun l o ho lr L => ?_
  refine lawH hfd lr L nums hbb g fun l rowsB lr L => ?_
  have hr1 : (rowsOf ch shift).take ((rowsOf ch shift).length - back) = (rowsOf ch shift).take ((rowsOf ch shift).length - back) := rfl
  generalize hrows1 : (rowsOf ch shift).take ((rowsOf ch shift).length - back) = rows1 at hr1 ⊢
  have g1 : RowsGood 3 60 rows1 := by with_reducible refine rwE (Eq.symm hrows1) ?_; exact g.take _
  refine lawI15 hfd ho (by decide) lr L nums hch hcl g1 fun l o told T ho lr lt L hF hS => ?_
  refine T0.keep (M' := [(rowsB, .list (rows1.map rowAV)), (feed, o), (chain, .list (ch.map rowAV)), (so, .dict (sortsAV (tblOf rows1))), (br, .list (brAV (namesOf rows1))), (plain, .dict (plainAV plainP))]) (by walk_at "pks") ?_
  refine lawJ hfd (ho.mono (by decide)) lr L nums hch hcl (rowsOf ch shift) rows1 rfl hrows1.symm g fun l o ch2 nrows ho lr L hch2 hcl2 anew => ?_
  have g2 : RowsGood 3 60 (rows1 ++ nrows) := by
    have anew' := anew
    rw [← hrows1] at anew' ⊢
    exact anew'.rows g hbb (Nat.le_refl _)
  refine lawI18 hfd ho (by decide) lr L nums hch2 hcl2 g2 fun l o told T ho lr lt L hF hS => ?_
  refine lawK hfd (ho.mono (by decide)) lr lt L g2 ?_ hF hS (fun r hr => ?_) (fun r hr => ?_) fun l rows' g3 lr L => lawL hfd g3 lr L
  · (with_reducible refine rwE List.length_append ?_; with_reducible refine rwE anew.len ?_; with_reducible refine rwE (Eq.symm hrows1) ?_; with_reducible refine rwE List.length_take ?_); exact Nat.le_trans (Nat.add_le_add_right (Nat.min_le_left ..) back) (Nat.le_trans (Nat.le_of_eq (Nat.sub_add_cancel hbb)) (Nat.le_trans (Nat.le_of_eq hbl) (Nat.le_trans (Nat.add_le_add_left hmany.2 4) (by decide))))
  · rcases List.mem_append.mp hr with hr | hr
    · rw [← hrows1] at hr
      exact base_far hch (List.mem_of_mem_take hr)
    · refine ⟨?_, anew.nod r hr⟩
      have : r.nm ∈ nrows.map (·.nm) := List.mem_map.mpr ⟨r, hr, rfl⟩
      rw [anew.names] at this
      obtain ⟨r', hr', e⟩ := List.mem_map.mp (List.mem_of_mem_drop (List.mem_of_mem_take this))
      with_reducible refine rwE (Eq.symm e) ?_
      exact (base_far hch hr').1
  · refine List.mem_append_left _ ?_
    with_reducible refine rwE (Eq.symm hrows1) ?_
    have e4 : (rowsOf ch shift).length - back = tellersR.length + (many - back) := by
      exact (congrArg (· - back) hbl).trans (Nat.add_sub_assoc hback.2.1 4)
    with_reducible refine rwE e4 ?_
    unfold rowsOf
    rw [List.append_assoc, List.take_length_add_append]
    exact List.mem_append_left _ hr
end
theorem nsIn_app {K T : Frag} {a : Addr} {x : Str} {r : Option Value} (h : nsIn K a x = some r) : nsIn (K ++ T) a x = some r := by
  unfold nsIn at h ⊢
  with_reducible refine rwE List.lookup_append ?_
  cases q : K.lookup a with
  | none => rw [q] at h; injection h
  | some o => rw [q] at h; exact h
/-- the law's first statement is read with the script among the things that stay -/
noncomputable abbrev WV (w : World) (mean : ExcName → Option Value) (mg mb : Str → Option Value) (xs : Addr) (o : Obj) : Wd := { WW w mean mg mb with K := hd.heap_39 w.params ++ [(xs, o)] }
theorem look_app {K : Frag} {g : Heap} {xs : Addr} {ob : Obj} (KX : K.In g) (hL : g.get? xs = some ob) : (K ++ [(xs, ob)]).lookup xs = some ob := by
  with_reducible refine rwE List.lookup_append ?_
  cases q : K.lookup xs with
  | none => simp
  | some o' =>
    have := KX _ _ q
    rw [hL] at this
    simpa using this.symm
theorem in_app {K : Frag} {g : Heap} {xs : Addr} {ob : Obj} (KX : K.In g) (hL : g.get? xs = some ob) : Frag.In (K ++ [(xs, ob)]) g := by
  intro a o h
  rw [List.lookup_append] at h
  cases q : K.lookup a with
  | some o' =>
    rw [q] at h
    (injection h with e0; (first | subst e0 | cases e0))
    exact KX _ _ q
  | none =>
    rw [q, List.lookup_cons] at h
    cases e : a == xs with
    | true =>
      rw [e] at h
      have : a = xs := by simpa using e
      subst this
      (injection h with e0; (first | subst e0 | cases e0))
      exact hL
    | false => rw [e] at h; injection h
theorem led_nil {W : Wd} : LedOk W [] [] (fun _ _ => False) [] where
  fm := fun _ h => nomatch h
  tab := fun _ _ h => h.elim
  mem := fun _ h => nomatch h
  nd := .nil
  fmM := fun _ h => nomatch h
  tabM := fun _ h => nomatch h
  tabF := fun _ h => nomatch h
theorem room0 : callerA.depth + 20 + 1 < recursionLimit := by decide +kernel
theorem units0 : callerA.units + 10 * 20 + 10 < cLine := by decide +kernel
/-- a slice of a list that stays -/
theorem t_subStaySlice {W : Wd} {f : Fx} {n : Nat} {M : Mem} {loc : Loc} {EQ : Mem → Loc → Prop} {Q : AV → Mem → Loc → Prop} {value slice : Expr} {b : Addr} {ob : Obj} {us : List Value} {x y z : AV} {as : List AV} {lo hi st : Option Int} (hb : W.K.lookup b = some ob) (hob : ob.cls = .type "list" ∧ ∃ k, ob.data = .seq us.toArray k) (r' : ∀ S, VRs W S us as) (hz : as.length ≤ sizeLine) (px : Part x lo) (py : Part y hi) (pz : Part z st) (h0 : st ≠ some 0)
    (hs : ∀ t u, ∃ ops, subscripted slice false (.ref t) (.ref u) = operate ops (getItem (.ref t) (.ref u))) (h : ∀ w, Q (.obj w) ((w, .list (pickA as lo hi st)) :: M) loc) :
    T2 W f n (VR W) (subscriptTail value slice) (.stat (.ref b)) (.slc x y z) M loc Q EQ := fun d S s v u ok H r₁ r₂ => by
  cases r₁
  have il : s.heap.IsList b us.toArray := ⟨ob, H.at ok (.inr hb), hob⟩
  cases r₂ with
  | slc t p q r _ _ _ ht rp rq rr =>
    obtain ⟨ops, hops⟩ := hs b t
    refine tail_any il.typeIs slot_list_getitem.lookup ?_ hops
    refine wpAny_getItem_list_slice il ⟨_, H.at ok ht, rfl, rfl⟩ (px.is rp) (py.is rq) (pz.is rr) h0 ?_ (by (with_reducible refine rwE List.size_toArray ?_; with_reducible refine rwE (VRs.len (r' S)) ?_); exact hz)
    have rv := vrs_pick (r' S) lo hi st
    exact Run.end rfl le0 (H.allocM ok _ (.list _ (slicePick us.toArray lo hi st).toList _ ⟨0, by rfl⟩ rv)) (.obj _) (h _)
theorem ints_vrs {W : Wd} {S : Tab} {vs : List Value} {is : List Int} (h : IntsAre vs is) : VRs W S vs (is.map .int) := by
  induction h with
  | nil => exact .nil
  | cons n t _ ih => exact .cons _ _ _ _ (.int n t) ih
section
variable {w : World} {mean : ExcName → Option Value} {mg mb : Str → Option Value} {EQ : Mem → Loc → Prop}
set_option maxHeartbeats 16000000 in
theorem lawM {fd : FuncData} (hfd : LawFd w fd) {fa : Addr} {cd : Value} {n : Nat} {l : Loc} {xs : Addr} {ob : Obj} {is : List Int} (hb : (WV w mean mg mb xs ob).K.lookup xs = some ob) {us : List Value} (hob : ob.cls = .type "list" ∧ ∃ k, ob.data = .seq us.toArray k) (hI : IntsAre us is) (l1 : l "script" = some (.stat (.ref xs))) (hlen : is.length ≤ 63) :
    ∃ st, lawBody fd = st :: (lawBody fd).drop 1 ∧ Sx (WV w mean mg mb xs ob) (lawF fd fa cd) (n + 20) st [] l (fun fl M l => fl = .next ∧ ∃ (cells : List Int) (cA : Addr) (J : Mem), Picks [(cA, .list (cells.map .int))] M J ∧ cells.length ≤ 60 ∧ l "cells" = some (.obj cA)) (fun _ _ => False) := by
  refine byG fun G_ bk_ => ?_; obtain ⟨oc, od, osl, h⟩ := hfd
  have e := law_lit h (by walk_at "mk")
  subst e; refine bk_ ?_; clear bk_
  clear h
  refine ⟨_, rfl, ?_⟩
  refine sx_AssignComp ?_ (fit_any (fa' := 0) (cd' := .none) (by decide +kernel)) (fun _ _ => rfl) ⟨rfl, by rfl⟩ (fun _ => rfl)
  repeat' walk_at "sx"
  refine t_subStaySlice (lo := none) (hi := some (60 : Nat)) (st := none) hb hob (fun S => ints_vrs hI) (by rw [List.length_map]; unfold sizeLine; walk_at "om") .none (.int _) .none (by decide) (fun _ _ => ⟨_, by with_unfolding_all rfl⟩) fun p => ?_
  (with_reducible refine rwE pick_min ?_; with_reducible refine rwE (Eq.symm List.map_take) ?_)
  have hl : (is.take 60).length ≤ 60 := by with_reducible refine rwE List.length_take ?_; exact Nat.min_le_left ..
  generalize is.take 60 = js at hl ⊢
  refine ⟨js.map .int, [], [(p, .list (js.map .int))], fun i ys M => M = [] ∧ ys = ((js.take i).map fun j => j.fmod 100003).map .int, it_list (by walk_at "pk"), by rw [List.length_map]; unfold sizeLine; walk_at "om", ⟨rfl, rfl⟩, ?_, ?_⟩
  · rintro i a ys M ha ⟨rfl, rfl⟩
    have hi : i < js.length := by have := (List.getElem?_eq_some_iff.mp ha).1; simpa using this
    have hgi : js[i]? = some js[i] := List.getElem?_eq_getElem hi
    have hai : AV.int js[i] = a := by rw [List.getElem?_map, hgi] at ha; exact Option.some.inj ha
    subst hai
    have htk : js.take (i + 1) = js.take i ++ [js[i]] := by (with_reducible refine rwE List.take_add_one ?_; with_reducible refine rwE hgi ?_); rfl
    generalize js[i] = j at hgi htk ⊢
    repeat' walk_at "sx"
    refine' ev_Call ?_ ?he ?hs
    case he => intro _; exact rfl
    case hs => walk_at "args"
    have hnI : nsIn (hd.heap_39 w.params) mainGlobals ("int" : Str) = some none := by walk_at "mk"
    refine' ev_builtin ?hx ?hn ?hv ?h1 ?hd ?_
    case hx => exact rfl
    case hn => exact nsIn_app hnI
    case hv => boot_fast
    case h1 => decide
    case hd => exact rfl
    refine' ⟨_, Fun.type _, ?_⟩
    repeat' walk_at "sx"
    refine t_mod (by decide) ?_
    exact ⟨rfl, by with_reducible refine rwE htk ?_; simp⟩
  · rintro ys M hys ⟨rfl, rfl⟩ D
    (rewrite [List.length_map]; with_reducible refine rwE List.take_length ?_)
    exact ⟨rfl, js.map fun j => j.fmod 100003, D, _, .cons _ _ _ _ _ _ (.head _) (.nil _), by rw [List.length_map]; exact hl, rfl⟩
theorem vrs_ints {W : Wd} {S : Tab} {vs : List Value} {is : List Int} (h : VRs W S vs (is.map .int)) : IntsAre vs is := by
  induction is generalizing vs with
  | nil => cases h; exact .nil
  | cons i r ih =>
    cases h with
    | cons _ _ _ _ h1 h2 => cases h1; exact .cons _ _ (ih h2)
/-- the law run from its frame -/
theorem law_run {fd : FuncData} (hfd : LawFd w fd) {fa : Addr} {cd : Value} {g : Heap} {xs : Addr} {vs : List Value} {is : List Int} {s : Shared} (KX : (hd.heap_39 w.params).In g) (T : Top hd.view_39 (looseW hd.view_39 [Str.ofString "MOST_BITS"]) mean mg mb g) (K0 : Below callerA g [] g) (F : Fr g g.objs.size s.heap (fun x => [(("script" : Str), Value.ref xs)].reverse.lookup x)) (N : News g g.objs.size s.heap []) (hL : g.IsList xs vs.toArray) (hI : IntsAre vs is) (hlen : is.length ≤ 63) {Q : Flow → Shared → Prop} {E : Value → Shared → Prop}
    (hQ : ∀ s' : Shared, s'.os = s.os → s'.gens = s.gens → (∀ b o, g.get? b = some o → s'.heap.get? b = some o) → Q (.ret (.bool true)) s') :
    wpAny (model PySem.Challenge.rw_sj0102_01.row.prog w) (callerA.deeper (envOf fd.name fd.scope g.objs.size fa cd)) (execs (lawBody fd) (envOf fd.name fd.scope g.objs.size fa cd)) Q E s := by
  obtain ⟨ob, hL, hob⟩ := hL
  have hmods : ∃ o, g.get? sysModules = some o := by
    obtain ⟨mm, ⟨o, es, ep, h, _⟩, _⟩ := (T.seer (by decide +kernel)).mods
    exact ⟨_, h⟩
  have hscope : fd.scope.kind = .function ∧ (fd.scope.names.all fun q => q.2 != NameKind.cell) = true := by
    obtain ⟨oc, od, osl, h⟩ := hfd
    have e := law_lit h (by walk_at "mk")
    subst e
    exact ⟨rfl, by decide +kernel⟩
  have hcell : ∀ x, fd.scope.names.lookup x = some .cell → False := fun x hx => by
    have := List.all_eq_true.mp hscope.2 _ (lookup_mem hx)
    injection this
  have hKb : (WV w mean mg mb xs ob).K.lookup xs = some ob := look_app KX hL
  have hKin : (WV w mean mg mb xs ob).K.In g := in_app KX hL
  let d : Cy := ⟨callerA, g, [], g, g.objs.size, [], [], none⟩
  have okc : ∀ x, (fd.scope.names.lookup x = some .local → d.cl.lookup x = none) ∧ (fd.scope.names.lookup x = some .cell → (d.cl.lookup x).isSome = true) := fun x => ⟨fun _ => rfl, fun h => (hcell x h).elim⟩
  have okV : Ok (WV w mean mg mb xs ob) (lawF fd fa cd) 20 d := ⟨hscope.1, hKin, T, room0, units0, rfl, hmods, okc, trivial⟩
  have okW : Ok (WW w mean mg mb) (lawF fd fa cd) 20 d := ⟨hscope.1, KX, T, room0, units0, rfl, hmods, okc, trivial⟩
  have G : Ground d g := ⟨K0, .refl, ktsDicts_nil⟩
  have H : Here (WV w mean mg mb xs ob) d (fun _ _ => False) [] (fun x => [(("script" : Str), AV.stat (.ref xs))].lookup x) s.heap :=
    ⟨g, _, [], G, F, N, led_nil, fun c hc => (nomatch hc), fun x a hx => by
      have hx : [(("script" : Str), AV.stat (.ref xs))].lookup x = some a := hx
      rw [List.lookup_cons] at hx
      cases e : x == ("script" : Str) with
      | false => rw [e] at hx; injection hx
      | true =>
        rw [e] at hx
        (injection hx with e0; (first | subst e0 | cases e0))
        have : x = "script" := by simpa using e
        subst this
        exact ⟨.ref xs, .inl ⟨rfl, rfl⟩, .stat _⟩⟩
  obtain ⟨st, hst, hM⟩ := lawM (mean := mean) (mg := mg) (mb := mb) (l := fun x => [(("script" : Str), AV.stat (.ref xs))].lookup x) hfd (fa := fa) (cd := cd) (n := 0) hKb hob hI rfl hlen
  with_reducible refine rwE hst ?_
  refine wpAny_execs_cons ?_
  have henv : envOf fd.name fd.scope g.objs.size fa cd = (lawF fd fa cd).here d := rfl
  with_reducible refine rwE henv ?_
  refine wpAny_mono (hM d _ s okV H) (fun v s₁ ⟨e₁, S₁, M₁, l₁, fl, _, H₁, r₁, q₁⟩ => ?_) (fun v s₁ h => (ep_false h).elim)
  obtain ⟨rfl, cells, cA, J, pk, hc, hl⟩ := q₁
  cases r₁
  obtain ⟨g', m', news', G', F', N', LO', LC'⟩ := H₁
  have hmem : (cA, AO.list (cells.map .int)) ∈ M₁ := pk.perm.symm.subset (List.mem_append_left _ (.head _))
  obtain ⟨o, ho1, ho2⟩ := LO'.mem _ hmem
  have H₂ : Here (WW w mean mg mb) d (fun _ _ => False) [(cA, AO.list (cells.map .int))] (fun x => [(("cells" : Str), AV.obj cA)].lookup x) s₁.heap := by
    refine ⟨g', m', news', G', F', N', ⟨fun _ h => (nomatch h), fun _ _ h => h.elim, fun p hp => ?_, by simp, fun _ _ _ h => (nomatch h), fun _ _ _ h => h, fun _ h => (nomatch h)⟩, fun c hc => (nomatch hc), fun x a hx => ?_⟩
    · with_reducible refine rwE (List.mem_singleton.mp hp) ?_
      refine ⟨o, ho1, ?_⟩
      cases ho2 with
      | list us as hl hv => exact .list _ us _ hl (ints_vrs (vrs_ints hv))
    · have hx : [(("cells" : Str), AV.obj cA)].lookup x = some a := hx
      rw [List.lookup_cons] at hx
      cases e : x == ("cells" : Str) with
      | false => rw [e] at hx; injection hx
      | true =>
        rw [e] at hx
        (injection hx with e0; (first | subst e0 | cases e0))
        have : x = "cells" := by simpa using e
        subst this
        obtain ⟨v, hv1, hv2⟩ := LC'.2 _ _ hl
        refine ⟨v, ?_, ?_⟩
        · rcases hv1 with hv1 | ⟨c, o, hv1, _⟩
          · exact .inl hv1
          · injection hv1
        · cases hv2; exact .obj _
  refine wpAny_mono (lawRest hfd (fa := fa) (cd := cd) (n := 0) (l := fun x => [(("cells" : Str), AV.obj cA)].lookup x) hc rfl d _ s₁ okW H₂) (fun v s₂ ⟨e₂, S₂, M₂, l₂, fl, _, H₂, r₂, q₂⟩ => ?_) (fun v s₁ h => (ep_false h).elim)
  subst q₂
  cases r₂ with
  | ret v _ r =>
    cases r
    have e12 := e₁.trans e₂
    obtain ⟨g2, m2, news2, G2, F2, N2, _, _⟩ := H₂
    refine hQ s₂ ?_ ?_ fun b o hb => F2.keep b o (G2.below.stays b o hb)
    · (with_reducible refine rwE e12 ?_; with_reducible rfl)
    · (with_reducible refine rwE e12 ?_; with_reducible rfl)
end
section
set_option tactic.hygienic true
theorem main_at {w : World} {mean : ExcName → Option Value} {mg mb : Str → Option Value} {nm : Str} {sc : Scope} {body : List Stmt} {fa : Addr} {cd : Value} {g : Heap} {xs : Addr} {vs : List Value} {is : List Int} {s : Shared} {fd : FuncData} {oc : Value} {od : Option Addr} {osl : Array (Option Value)} (h : (hd.heap_39 w.params).lookup 968 = some ⟨oc, od, .func fd, osl⟩) (hb : lawBody fd = body) (hn : fd.name = nm) (hs : fd.scope = sc) (KX : (hd.heap_39 w.params).In g) (T : Top hd.view_39 (looseW hd.view_39 [Str.ofString "MOST_BITS"]) mean mg mb g) (K0 : Below callerA g [] g) (F : Fr g g.objs.size s.heap (fun x => [(("script" : Str), Value.ref xs)].reverse.lookup x)) (N : News g g.objs.size s.heap []) (hL : g.IsList xs vs.toArray) (hI : IntsAre vs is) (hlen : is.length ≤ 63) {Q : Flow → Shared → Prop} {E : Value → Shared → Prop}
    (hQ : ∀ s' : Shared, s'.os = s.os → s'.gens = s.gens → (∀ b o, g.get? b = some o → s'.heap.get? b = some o) → Q (.ret (.bool true)) s') :
    wpAny (model PySem.Challenge.rw_sj0102_01.row.prog w) (callerA.deeper (envOf nm sc g.objs.size fa cd)) (execs body (envOf nm sc g.objs.size fa cd)) Q E s := by
  subst hb hn hs
  exact law_run ⟨oc, od, osl, h⟩ KX T K0 F N hL hI hlen hQ
set_option maxHeartbeats 8000000 in
set_option pp.deepTerms false in
set_option pp.maxSteps 300 in
theorem main0 : PySem.Challenge.rw_sj0102_01.Holds := hd (by
  k_go0
  rename_i w s0 s1 mg mb G Y fa o pm doc kV ho hg KX X V GL T B TE TW wA wO M wB wC hcd is hs hlay0 hL0 hr hl2 l1 l2 xs vs l3 hL ra w1 r0 hI hr2 hc1 hc2 K0 hD h1 F N0
  refine' main_at ?h1 ?h2 ?h3 ?h4 KX T K0 F N0 hL hI ?hl ?_
  case h1 => walk_at "mk"
  case h2 => rfl
  case h3 => rfl
  case h4 => rfl
  case hl => walk_at "om"
  intro s' ho' hg' hk
  refine ⟨.inl ⟨_, ofPy (.bool true), [], rfl, ?_, ?_, ?_, ?_⟩, hk, ho', hg'.trans hg⟩
  · exact fun _ => rfl
  · exact .bool true
  · refine postW_of (X := true) ?_ ?_ rfl
    · rfl
    · simp [PySem.W.OpenLaw.row, WTm.value, PySem.W.same, ofPy]
  · exact fun _ => ⟨.nil, fun _ h => nomatch h⟩)
end
end Mine
end
theorem PySem.Challenge.cw_sj0102_01_holds : PySem.Challenge.rw_sj0102_01.Holds := by
  exact Mine.main0
