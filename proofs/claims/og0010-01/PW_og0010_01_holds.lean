import PyProof.Rows.All
import Wide.All
import OpenK.AllK
import Wide.FinOn
import Lean
import PySem.Challenge.RW_og0010_01
open PySem PySem.W PyProof.Rows PySem.Calls PySem.Spec
set_option Elab.async false
set_option maxRecDepth 100000
set_option maxHeartbeats 4000000
set_option compiler.extract_closed false
namespace Og
theorem ax.tw1203394455910827688 : True := trivial
theorem ax.tw4435833231199352796 : True := trivial
theorem ax.tw6253427538060967862 : True := trivial
theorem ax.tw13319144450555597755 : True := trivial
theorem ax.tw7750868723065417582 : True := trivial
theorem ax.tw3355230706122881722 : True := trivial
theorem ax.tw10694080548531883296 : True := trivial
theorem ax.tw12641179612340054177 : True := trivial
theorem ax.tw6435357048711058542 : True := trivial
theorem ax.tw8272482720298728753 : True := trivial
theorem ax.tw17355235411553239050 : True := trivial
theorem ax.tw16519524850167786455 : True := trivial
theorem ax.tw12488686273850468830 : True := trivial
theorem ax.tw9970487355957006309 : True := trivial
theorem ax.tw8434996661439198652 : True := trivial
theorem ax.tw3828079923477371718 : True := trivial
theorem ax.tw10482457874270046837 : True := trivial
theorem ax.tw9717200406431123246 : True := trivial
theorem ax.tw15946953215142148670 : True := trivial
theorem ax.tw4093796425508393887 : True := trivial
theorem ax.tw15966066529783329011 : True := trivial
theorem ax.tw6450341085879207370 : True := trivial
theorem ax.tw222022306237920676 : True := trivial
theorem ax.tw16512150459603604914 : True := trivial
theorem ax.tw709203151934789443 : True := trivial
theorem ax.tw2467726080912014713 : True := trivial
theorem ax.tw12498410420499119045 : True := trivial
theorem ax.tw11081725297783008730 : True := trivial
theorem ax.tw5051161396835344190 : True := trivial
theorem ax.tw7255612876020751539 : True := trivial
theorem ax.tw3753713687665464113 : True := trivial
theorem ax.tw7221620337788255448 : True := trivial
theorem ax.tw88090792993801692 : True := trivial
theorem ax.tw17423931264345527975 : True := trivial
theorem ax.tw12394757515133303900 : True := trivial
theorem ax.tw7082712431370366859 : True := trivial
theorem ax.tw16272361989741787347 : True := trivial
theorem ax.tw4546533406446708191 : True := trivial
theorem ax.tw12031260548991804235 : True := trivial
theorem ax.tw15854260421616195497 : True := trivial
theorem ax.tw995526895089650741 : True := trivial
theorem ax.tw17062118475026130909 : True := trivial
theorem ax.tw3824128545079884491 : True := trivial
theorem ax.tw13290089521096972409 : True := trivial
theorem ax.tw16409628701955024369 : True := trivial
theorem ax.tw5226338751199794276 : True := trivial
theorem ax.tw15401231596659551228 : True := trivial
theorem ax.tw10618119727618169601 : True := trivial
theorem ax.tw1914500455358687013 : True := trivial
theorem ax.tw17693589798839800734 : True := trivial
theorem ax.tw3113575034388679518 : True := trivial
theorem ax.tw6528258571237549529 : True := trivial
theorem ax.tw15591724569541877653 : True := trivial
theorem ax.tw12622732706878224197 : True := trivial
theorem ax.tw16095508563252466266 : True := trivial
theorem ax.tw259094514002012030 : True := trivial
theorem ax.tw8438476062339587401 : True := trivial
theorem ax.tw13224392228202356008 : True := trivial
theorem ax.tw1332199671892821134 : True := trivial
theorem ax.tw8238124523902854500 : True := trivial
theorem ax.tw16199812577156099504 : True := trivial
theorem ax.tw6440268536267512261 : True := trivial
theorem ax.tw1261581455471400230 : True := trivial
theorem ax.tw669783223867227351 : True := trivial
theorem ax.tw8709069422239035812 : True := trivial
theorem ax.tw12567091140405274724 : True := trivial
theorem ax.tw4290263856595764718 : True := trivial
theorem ax.tw17002069515424337777 : True := trivial
theorem ax.tw14356341784788313919 : True := trivial
theorem ax.tw11434087744064461393 : True := trivial
theorem ax.tw4120567567866561339 : True := trivial
theorem ax.tw7441306537123921621 : True := trivial
theorem ax.tw17489628545951023604 : True := trivial
theorem ax.tw7723287039605137902 : True := trivial
theorem ax.tw6736186034290405366 : True := trivial
theorem ax.tw8508002072055657558 : True := trivial
theorem ax.tw6767502865622644286 : True := trivial
theorem ax.tw12317283975825666005 : True := trivial
theorem ax.tw892403964774401020 : True := trivial
theorem ax.tw5883374459779316159 : True := trivial
theorem ax.tw7401437407342468805 : True := trivial
theorem ax.tw8140189972352297166 : True := trivial
theorem ax.tw203357479425947895 : True := trivial
theorem ax.tw10271583932448144071 : True := trivial
theorem ax.tw12802269093677346412 : True := trivial
theorem ax.tw3447992018460354518 : True := trivial
theorem ax.tw17989949358513536366 : True := trivial
theorem ax.tw3853710395035266184 : True := trivial
theorem ax.tw1742945237674536173 : True := trivial
theorem ax.tw17519226951821363119 : True := trivial
theorem ax.tw10775414325458186889 : True := trivial
theorem ax.tw11758946102363796923 : True := trivial
theorem ax.tw15323359318679415038 : True := trivial
theorem ax.tw3164739840317374756 : True := trivial
theorem ax.tw13011905507219960402 : True := trivial
theorem ax.tw10627232383938026467 : True := trivial
theorem ax.tw4532640668570188789 : True := trivial
theorem ax.tw4669373816151210886 : True := trivial
theorem ax.tw4117662828352068939 : True := trivial
theorem ax.tw8481520200849547202 : True := trivial
theorem ax.tw11243439363230786192 : True := trivial
theorem ax.tw2186395370576045120 : True := trivial
theorem ax.tw14217108018722607172 : True := trivial
theorem ax.tw7304715346681576333 : True := trivial
theorem ax.tw15445600506844999241 : True := trivial
theorem ax.tw15454302292228433989 : True := trivial
theorem ax.tw9321222692487711185 : True := trivial
theorem ax.tw12383806512051707831 : True := trivial
theorem ax.tw3881898173862570140 : True := trivial
theorem ax.tw15263860079994341549 : True := trivial
theorem ax.tw10361466817920349103 : True := trivial
theorem ax.tw8465235224368068935 : True := trivial
theorem ax.tw16729656354670097668 : True := trivial
theorem ax.tw6475644814985903908 : True := trivial
theorem ax.tw13137033362044565718 : True := trivial
theorem ax.tw9767532690752698123 : True := trivial
theorem ax.tw7437377094805294671 : True := trivial
theorem ax.tw4868313006914010438 : True := trivial
theorem ax.tw2304678633416716955 : True := trivial
theorem ax.tw8674002444726933732 : True := trivial
theorem ax.tw9498566960153379515 : True := trivial
theorem ax.tw14213160041371240567 : True := trivial
theorem ax.tw2461965203467105460 : True := trivial
theorem ax.tw10951664085611388969 : True := trivial
theorem ax.tw15782596652939633323 : True := trivial
theorem ax.tw5454839704904113844 : True := trivial
theorem ax.tw4399800950326095398 : True := trivial
theorem ax.tw5893604665728290961 : True := trivial
theorem ax.tw8086639301787882074 : True := trivial
theorem ax.tw16760701254268912163 : True := trivial
theorem ax.tw13534211794791767855 : True := trivial
theorem ax.tw6541614351304206713 : True := trivial
theorem ax.tw16146785459402600410 : True := trivial
theorem ax.tw17081771192765796414 : True := trivial
theorem ax.tw3522497732296753778 : True := trivial
theorem ax.tw121198511666113728 : True := trivial
theorem ax.tw4296901003818384192 : True := trivial
theorem ax.tw5251407562792570023 : True := trivial
theorem ax.tw7941678048322874665 : True := trivial
theorem ax.tw7166367760533703942 : True := trivial
theorem ax.tw15108794254645103442 : True := trivial
theorem ax.tw10348786747932266763 : True := trivial
theorem ax.tw2703806347687373968 : True := trivial
theorem ax.tw15563744714455986328 : True := trivial
theorem ax.tw4891526574166689300 : True := trivial
theorem ax.tw5757029424153904313 : True := trivial
theorem ax.tw6516573048987674185 : True := trivial
theorem ax.tw1994745843851053490 : True := trivial
theorem ax.tw4757698310007773158 : True := trivial
theorem ax.tw18416985974767672621 : True := trivial
theorem ax.tw2547525758909804034 : True := trivial
theorem ax.tw471496644070793553 : True := trivial
theorem ax.tw1807717001574290781 : True := trivial
theorem ax.tw15680325624034895221 : True := trivial
theorem ax.tw11957934413680178760 : True := trivial
theorem ax.tw10182889446796928487 : True := trivial
theorem ax.tw15645551083438650979 : True := trivial
theorem ax.tw9788016741783741606 : True := trivial
theorem ax.tw3469925533614889497 : True := trivial
theorem ax.tw14198055999710300788 : True := trivial
theorem ax.tw732761175349294914 : True := trivial
theorem ax.tw11744895234421629425 : True := trivial
theorem ax.tw14408077599463912010 : True := trivial
theorem ax.tw2215367393738400846 : True := trivial
theorem ax.tw1696667269259129060 : True := trivial
theorem ax.tw16623410640752838456 : True := trivial
theorem ax.tw2022291479783546172 : True := trivial
theorem ax.tw8719328208968826028 : True := trivial
theorem ax.tw5816926411615799832 : True := trivial
theorem ax.tw14660559836141468597 : True := trivial
theorem ax.tw1973752607055453685 : True := trivial
theorem ax.tw9472501180084623986 : True := trivial
theorem ax.tw11869501999976649409 : True := trivial
theorem ax.tw6746915492205245601 : True := trivial
theorem ax.tw17021041025430291082 : True := trivial
theorem ax.tw9601984631059169452 : True := trivial
theorem ax.tw4281621893485898292 : True := trivial
theorem ax.tw9988011568010375918 : True := trivial
theorem ax.tw15964091301274177650 : True := trivial
theorem ax.tw8163511395872078058 : True := trivial
theorem ax.tw3909135880181102731 : True := trivial
theorem ax.tw1822068952820866276 : True := trivial
theorem ax.tw5039600082533960974 : True := trivial
theorem ax.tw7636089749852153555 : True := trivial
theorem ax.tw17080753160901396163 : True := trivial
theorem ax.tw15195623350421531042 : True := trivial
theorem ax.tw18296377786166416117 : True := trivial
theorem ax.tw14152675814086985361 : True := trivial
theorem ax.tw7210400630961311971 : True := trivial
theorem ax.tw4444438651506610364 : True := trivial
theorem ax.tw10655153987767355283 : True := trivial
theorem ax.tw13167759874670953796 : True := trivial
theorem ax.tw7716966710040778635 : True := trivial
theorem ax.tw1393033399920660371 : True := trivial
theorem ax.tw10969541425690378164 : True := trivial
theorem ax.tw5157499545668098904 : True := trivial
theorem ax.tw16189863887011118897 : True := trivial
theorem ax.tw9424050178713171644 : True := trivial
theorem ax.tw1738477727525922463 : True := trivial
theorem ax.tw13332237625344406649 : True := trivial
theorem ax.tw14867923075001843174 : True := trivial
theorem ax.tw5957055183500103614 : True := trivial
theorem ax.tw2552333364482153936 : True := trivial
theorem ax.tw17074743578089726334 : True := trivial
theorem ax.tw17437674480553195713 : True := trivial
theorem ax.tw7473474612499783436 : True := trivial
theorem ax.tw30015213220503403 : True := trivial
theorem ax.tw12353179521779788172 : True := trivial
theorem ax.tw4847066055477573400 : True := trivial
theorem ax.tw12438041839274089471 : True := trivial
theorem ax.tw8518940858431535907 : True := trivial
theorem ax.tw7837907866456360253 : True := trivial
theorem ax.tw14574079060942466659 : True := trivial
theorem ax.tw2204641331619554740 : True := trivial
theorem ax.tw17164360698153360826 : True := trivial
theorem ax.tw3886220699220246136 : True := trivial
theorem ax.tw16729778358711306678 : True := trivial
theorem ax.tw9785938728038487443 : True := trivial
theorem ax.tw3544694592012794897 : True := trivial
theorem ax.tw6987240013532349190 : True := trivial
theorem ax.tw3939538092079273465 : True := trivial
theorem ax.tw12189783630771666829 : True := trivial
theorem ax.tw6416999112883784707 : True := trivial
theorem ax.tw14432923929840399366 : True := trivial
theorem ax.tw249059975695240310 : True := trivial
theorem ax.tw11301478820695703300 : True := trivial
theorem ax.tw1955937156269733171 : True := trivial
theorem ax.tw10920410563574615109 : True := trivial
theorem ax.tw15930135526788394812 : True := trivial
theorem ax.tw914640090489802516 : True := trivial
theorem ax.tw11806708278278570501 : True := trivial
theorem ax.tw17501490781296686127 : True := trivial
theorem ax.tw11056747362702889801 : True := trivial
theorem ax.tw17329713762161883403 : True := trivial
theorem ax.tw5545907504793782410 : True := trivial
theorem ax.tw7784598875543670761 : True := trivial
theorem ax.tw16754847153573906339 : True := trivial
theorem ax.tw18234453549242361335 : True := trivial
theorem ax.tw13717365624262202257 : True := trivial
theorem ax.tw3051271718531925899 : True := trivial
theorem ax.tw7440238048059785535 : True := trivial
theorem ax.tw13776216203749138191 : True := trivial
theorem ax.tw12714078667822766610 : True := trivial
theorem ax.tw12476036095939879864 : True := trivial
theorem ax.tw7886710525952932598 : True := trivial
theorem ax.tw17845125035392522594 : True := trivial
theorem ax.tw14543610047952680694 : True := trivial
theorem ax.tw12359264791940652397 : True := trivial
theorem ax.tw18205358611349942724 : True := trivial
theorem ax.tw11691078467390801521 : True := trivial
theorem ax.tw3320666909675377735 : True := trivial
theorem ax.tw14506413828715378755 : True := trivial
theorem ax.tw3085659216612209803 : True := trivial
theorem ax.tw252031541209481401 : True := trivial
theorem ax.tw12981143966615683178 : True := trivial
theorem ax.tw684646205721336451 : True := trivial
theorem ax.tw15412838646618782201 : True := trivial
theorem ax.tw2888877392558311385 : True := trivial
theorem ax.tw17203922991278197736 : True := trivial
theorem ax.tw12384116790291728851 : True := trivial
theorem ax.tw11118434036199639763 : True := trivial
theorem ax.tw3939186817192247607 : True := trivial
theorem ax.tw7169734742862797885 : True := trivial
theorem ax.tw3039781757703402484 : True := trivial
theorem ax.tw13341998067528541251 : True := trivial
theorem ax.tw16404852738361915199 : True := trivial
theorem ax.tw643925977066769561 : True := trivial
theorem ax.tw12072602260220012956 : True := trivial
theorem ax.tw676642125714895207 : True := trivial
theorem ax.tw13070521592062752072 : True := trivial
theorem ax.tw2524912291823622791 : True := trivial
theorem ax.tw1932075245196112633 : True := trivial
theorem ax.tw14503971316762046020 : True := trivial
theorem ax.tw17735449788787811879 : True := trivial
theorem ax.tw11016124555584219927 : True := trivial
theorem ax.tw6552819498419555012 : True := trivial
theorem ax.tw247360558043291974 : True := trivial
theorem ax.tw9657658668328563111 : True := trivial
theorem ax.tw15234551158615312478 : True := trivial
theorem ax.tw9890091598238074821 : True := trivial
theorem ax.tw9786656987164636092 : True := trivial
theorem ax.tw15499617478018476958 : True := trivial
theorem ax.tw16602647607395874865 : True := trivial
theorem ax.tw15696962844856569658 : True := trivial
theorem ax.tw11768390568961995136 : True := trivial
theorem ax.tw15451764612334460151 : True := trivial
theorem ax.tw13845152477290045895 : True := trivial
theorem ax.tw4318550000827235151 : True := trivial
theorem ax.tw9992881586320959211 : True := trivial
theorem ax.tw12692839554793749616 : True := trivial
theorem ax.tw18152020393610043572 : True := trivial
theorem ax.tw10352409703591725162 : True := trivial
theorem ax.tw6642463926417044891 : True := trivial
theorem ax.tw3556904311697578375 : True := trivial
theorem ax.tw6231912587914350216 : True := trivial
theorem ax.tw5493514161115203488 : True := trivial
theorem ax.tw11606226268113412141 : True := trivial
theorem ax.tw858929863149542064 : True := trivial
theorem ax.tw1446029972501079523 : True := trivial
theorem ax.tw2055145489279845083 : True := trivial
theorem ax.tw1223522898654954784 : True := trivial
theorem ax.tw17812909549590730244 : True := trivial
theorem ax.tw13093353906001175356 : True := trivial
theorem ax.tw10746199484607546269 : True := trivial
theorem ax.tw5044793342546086515 : True := trivial
theorem ax.tw11604288924312157923 : True := trivial
theorem ax.tw12436422162913389134 : True := trivial
theorem ax.tw11092619464809366970 : True := trivial
theorem ax.tw13592873562004493142 : True := trivial
theorem ax.tw2798076828272462248 : True := trivial
theorem ax.tw7335216551326906610 : True := trivial
theorem ax.tw13310363474610870553 : True := trivial
theorem ax.tw9884605565643793952 : True := trivial
theorem ax.tw14784115232540286374 : True := trivial
theorem ax.tw9791399642185667343 : True := trivial
theorem ax.tw4511196759196428039 : True := trivial
theorem ax.tw9782504328847999674 : True := trivial
theorem ax.tw17058775387696919664 : True := trivial
theorem ax.tw16658499708974461296 : True := trivial
theorem ax.tw16674846991763945917 : True := trivial
theorem ax.tw15005592660926246658 : True := trivial
theorem ax.tw4002440026688178295 : True := trivial
theorem ax.tw1686778136901430984 : True := trivial
theorem ax.tw2254178374115743721 : True := trivial
theorem ax.tw14311571533252223777 : True := trivial
theorem ax.tw5412381386674396629 : True := trivial
theorem ax.tw17408709610198815273 : True := trivial
theorem ax.tw16974016557010842682 : True := trivial
theorem ax.tw203652681508098369 : True := trivial
theorem ax.tw4214607270827477353 : True := trivial
theorem ax.tw11230846515674369144 : True := trivial
theorem ax.tw2255112897718453693 : True := trivial
theorem ax.tw8671108256862203575 : True := trivial
theorem ax.tw5575907861418504758 : True := trivial
theorem ax.tw7242203290682770249 : True := trivial
theorem ax.tw16661411610059317903 : True := trivial
theorem ax.tw2724994746824492049 : True := trivial
theorem ax.tw13602514540344156373 : True := trivial
theorem ax.tw3934909634537775843 : True := trivial
theorem ax.tw10813287100874213606 : True := trivial
theorem ax.tw13433547802054088896 : True := trivial
theorem ax.tw12720845336661290409 : True := trivial
theorem ax.tw8539734478621884337 : True := trivial
theorem ax.tw6106632681488268277 : True := trivial
theorem ax.tw2044122911207904097 : True := trivial
theorem ax.tw16820534650666031694 : True := trivial
theorem ax.tw5111518914184580857 : True := trivial
theorem ax.tw11030640852603013595 : True := trivial
theorem ax.tw8661160767673122414 : True := trivial
theorem ax.tw12367124818752013264 : True := trivial
theorem ax.tw18019318224939949 : True := trivial
theorem ax.tw647806702930893263 : True := trivial
theorem ax.tw4045607743976884907 : True := trivial
theorem ax.tw5176614291765426675 : True := trivial
theorem ax.tw3680275446356622803 : True := trivial
theorem ax.tw6853158756235284753 : True := trivial
theorem ax.tw9660828940006680952 : True := trivial
theorem ax.tw15246187977427630544 : True := trivial
theorem ax.tw14728907858133700991 : True := trivial
theorem ax.tw12648206785407294221 : True := trivial
theorem ax.tw12950171157982364319 : True := trivial
theorem ax.tw2322098970355457179 : True := trivial
theorem ax.tw13302264898641939722 : True := trivial
theorem ax.tw2050901444373469546 : True := trivial
theorem ax.tw16709658707932932754 : True := trivial
theorem ax.tw5557541100625390799 : True := trivial
theorem ax.tw3389334476141930262 : True := trivial
theorem ax.tw5866199107035559838 : True := trivial
theorem ax.tw4967669209683477108 : True := trivial
theorem ax.tw1471106859647107193 : True := trivial
theorem ax.tw7075640086071672875 : True := trivial
theorem ax.tw7548898631554239775 : True := trivial
theorem ax.tw6779575165633221026 : True := trivial
theorem ax.tw12161912637039169199 : True := trivial
theorem ax.tw11895790794233523382 : True := trivial
theorem ax.tw10202522869810940177 : True := trivial
theorem ax.tw7623344537803457626 : True := trivial
theorem ax.tw10470229334896145877 : True := trivial
theorem ax.tw3091290817654431990 : True := trivial
theorem ax.tw6541943229856294899 : True := trivial
theorem ax.tw15337099401484097759 : True := trivial
theorem ax.tw1940008008080517785 : True := trivial
theorem ax.tw18336043679195888079 : True := trivial
theorem ax.tw7199448421646231568 : True := trivial
theorem ax.tw5675012309776321176 : True := trivial
theorem ax.tw14655740978553428628 : True := trivial
theorem ax.tw5441527984802919532 : True := trivial
theorem ax.tw15429291839069418018 : True := trivial
theorem ax.tw262616219745387100 : True := trivial
theorem ax.tw14243500097728352509 : True := trivial
theorem ax.tw14960342499931808705 : True := trivial
theorem ax.tw11715548514367345883 : True := trivial
theorem ax.tw16838056649705264534 : True := trivial
theorem ax.tw16821783771424709870 : True := trivial
theorem ax.tw7289256284621849578 : True := trivial
theorem ax.tw13992483097018886070 : True := trivial
theorem ax.tw12764921142448305236 : True := trivial
theorem ax.tw17736605623667839760 : True := trivial
theorem ax.tw18347001373758372556 : True := trivial
theorem ax.tw13307094680031482589 : True := trivial
theorem ax.tw5528532189097217337 : True := trivial
theorem ax.tw18373838446657697472 : True := trivial
theorem ax.tw14861347734611543083 : True := trivial
theorem ax.tw10329987064939984154 : True := trivial
theorem ax.tw12795123618303543975 : True := trivial
theorem ax.tw974502362793201388 : True := trivial
theorem ax.tw10128479170185488694 : True := trivial
theorem ax.tw11689947297902996314 : True := trivial
theorem ax.tw7188480837602367765 : True := trivial
theorem ax.tw8367397166829905678 : True := trivial
theorem ax.tw11703775651059232674 : True := trivial
theorem ax.tw4639345426100194886 : True := trivial
theorem ax.tw9626623880572275481 : True := trivial
theorem ax.tw2824892787279570255 : True := trivial
theorem ax.tw3627999649906078665 : True := trivial
theorem ax.tw4941291413105220107 : True := trivial
theorem ax.tw5111146181520164527 : True := trivial
theorem ax.tw17705841944590359247 : True := trivial
theorem ax.tw13871100277368611503 : True := trivial
theorem ax.tw4473920715249307038 : True := trivial
theorem ax.tw6061355633120936782 : True := trivial
theorem ax.tw6860810780076962243 : True := trivial
theorem ax.tw7571100895166380052 : True := trivial
theorem ax.tw11470321827054534087 : True := trivial
theorem ax.tw1874213764445161015 : True := trivial
theorem ax.tw13858866819612667915 : True := trivial
theorem ax.tw4693806863916315089 : True := trivial
theorem ax.tw17004217632656783102 : True := trivial
theorem ax.tw16095800795323215267 : True := trivial
theorem ax.tw5566628340354244023 : True := trivial
theorem ax.tw8995343327509684589 : True := trivial
theorem ax.tw11192752932960606975 : True := trivial
theorem ax.tw11023030112646362669 : True := trivial
theorem ax.tw16712562654162264657 : True := trivial
theorem ax.tw15305732261361508396 : True := trivial
theorem ax.tw7154133262372800678 : True := trivial
theorem ax.tw9430893567728682870 : True := trivial
theorem ax.tw708757361383873943 : True := trivial
theorem ax.tw6912675923472298935 : True := trivial
theorem ax.tw13745202993294756087 : True := trivial
theorem ax.tw15956172247248228085 : True := trivial
theorem ax.tw13826708652129018689 : True := trivial
theorem ax.tw15839702626248783165 : True := trivial
theorem ax.tw7242174927420146039 : True := trivial
theorem ax.tw11674971459567312978 : True := trivial
theorem ax.tw9252253363182677978 : True := trivial
theorem ax.tw16817505085247065296 : True := trivial
theorem ax.tw3746764988072909025 : True := trivial
theorem ax.tw12452472931857213434 : True := trivial
theorem ax.tw11997341251831001453 : True := trivial
theorem ax.tw15951656121472594606 : True := trivial
theorem ax.tw2563741287306308096 : True := trivial
theorem ax.tw4668653629689386783 : True := trivial
theorem ax.tw7176551677120573697 : True := trivial
theorem ax.tw422336919154272102 : True := trivial
theorem ax.tw16119094703183107209 : True := trivial
theorem ax.tw15085025490137490340 : True := trivial
theorem ax.tw11138715424334957901 : True := trivial
theorem ax.tw10969928701499835448 : True := trivial
theorem ax.tw4179546116364900392 : True := trivial
theorem ax.tw11745749062682518915 : True := trivial
theorem ax.tw437905211031514035 : True := trivial
theorem ax.tw1998688812534721748 : True := trivial
theorem ax.tw3432025616565874394 : True := trivial
theorem ax.tw1424418838384707529 : True := trivial
theorem ax.tw9482077116963456722 : True := trivial
theorem ax.tw1006537274772793851 : True := trivial
theorem ax.tw2086513087090902597 : True := trivial
theorem ax.tw2137267613046895962 : True := trivial
theorem ax.tw4122024422481026870 : True := trivial
theorem ax.tw10512517048711274253 : True := trivial
theorem ax.tw17017753547508177061 : True := trivial
theorem ax.tw11179498087176733948 : True := trivial
theorem ax.tw15173765374022791527 : True := trivial
theorem ax.tw14382758417885856446 : True := trivial
theorem ax.tw12264571491453911707 : True := trivial
theorem ax.tw1233778575533304270 : True := trivial
theorem ax.tw2509529133641127425 : True := trivial
theorem ax.tw13560268312647624754 : True := trivial
theorem ax.tw2863878806396542127 : True := trivial
theorem ax.tw11326677551822073220 : True := trivial
theorem ax.tw7663245671913499998 : True := trivial
theorem ax.tw10031141441735223332 : True := trivial
theorem ax.tw10327559762227871276 : True := trivial
theorem ax.tw17453961593419989096 : True := trivial
theorem ax.tw12404125182047295424 : True := trivial
theorem ax.tw10619944207852485182 : True := trivial
theorem ax.tw8976914609954992705 : True := trivial
theorem ax.tw5844286561023630178 : True := trivial
theorem ax.tw1119393524790566552 : True := trivial
theorem ax.tw8542477239824750496 : True := trivial
theorem ax.tw8893114999438069124 : True := trivial
theorem ax.tw11649774613790600773 : True := trivial
theorem ax.tw7973663905719740469 : True := trivial
theorem ax.tw1952322735002097478 : True := trivial
theorem ax.tw4154304137793720145 : True := trivial
theorem ax.tw5321202901557514125 : True := trivial
theorem ax.tw3312241019141957661 : True := trivial
theorem ax.tw10956674806920074098 : True := trivial
theorem ax.tw645522710323199223 : True := trivial
theorem ax.tw15334104169156791291 : True := trivial
theorem ax.tw4528451377900071901 : True := trivial
theorem ax.tw7277941381227538138 : True := trivial
theorem ax.tw3839405200308395176 : True := trivial
theorem ax.tw2585983279755967188 : True := trivial
theorem ax.tw9873249960268203762 : True := trivial
theorem ax.tw10492982814993358713 : True := trivial
theorem ax.tw5827356971422441170 : True := trivial
theorem ax.tw11327368258957606042 : True := trivial
theorem ax.tw6973628786087987774 : True := trivial
theorem ax.tw6255485858183977368 : True := trivial
theorem ax.tw2920852113330195315 : True := trivial
theorem ax.tw6253977295239223270 : True := trivial
theorem ax.tw18180530238248567272 : True := trivial
theorem ax.tw9654509688641878434 : True := trivial
theorem ax.tw9396376929601999114 : True := trivial
theorem ax.tw15186879763213647423 : True := trivial
theorem ax.tw5456432776615198383 : True := trivial
theorem ax.tw5114204177056361854 : True := trivial
theorem ax.tw14090597236329893389 : True := trivial
theorem ax.tw448180808262515751 : True := trivial
theorem ax.tw8995368298411582855 : True := trivial
theorem ax.tw3874773127204040579 : True := trivial
theorem ax.tw2818285033203934273 : True := trivial
theorem ax.tw16918151761986532845 : True := trivial
theorem ax.tw4228673178175655111 : True := trivial
theorem ax.tw3166256003467210443 : True := trivial
theorem ax.tw7214800506011778019 : True := trivial
theorem ax.tw357157256376922772 : True := trivial
theorem ax.tw7745973244389604085 : True := trivial
theorem ax.tw12656587698955307977 : True := trivial
theorem ax.tw13370549799404014995 : True := trivial
theorem keep {P T : Prop} (a : P) (_ : T) : P := a
theorem val_mk {T H : Prop} {p : T → H} (h : T) : (Subtype.mk T p : { T : Prop // T → H }).1 := h
set_option Elab.async true in
theorem ax : True := trivial
where
  hd : { T : Prop // T → PySem.Challenge.rw_og0010_01.Holds } := ⟨_, fun h => by
    refine keep (T := type_of% h) ?C ?hc
    rotate_left
    exact h
    w_on
    o_law
    k_head
    case hw => w_witness2⟩
theorem walk_off : ax.heap_1_39 = ax.heap_1_39 := by
  w_top off
  rfl
local macro_rules | `(tactic| walk_at $s:str) => `(tactic| k_extra $s)
local macro_rules | `(tactic| k_mem) => `(tactic| k_extra "hk k_mem")
local macro_rules | `(tactic| k_inst) => `(tactic| k_extra "hk k_inst")
local macro_rules | `(tactic| k_all) => `(tactic| k_extra "hk k_all")
local macro_rules | `(tactic| k_room) => `(tactic| k_extra "hk k_room")
local macro_rules | `(tactic| k_units) => `(tactic| k_extra "hk k_units")
local macro_rules | `(tactic| ktr_room) => `(tactic| k_extra "hk ktr_room")
local macro_rules | `(tactic| ktr_units) => `(tactic| k_extra "hk ktr_units")
local macro_rules | `(tactic| k_ne) => `(tactic| k_extra "hk k_ne")
local macro_rules | `(tactic| k_handed) => `(tactic| k_extra "hk k_handed")
local macro_rules | `(tactic| ktr_member) => `(tactic| k_extra "hk ktr_member")
local macro_rules | `(tactic| mul_fits) => `(tactic| k_extra "hk mul_fits")
local macro_rules | `(tactic| k_upd) => `(tactic| k_extra "hk k_upd")
theorem wd_base_f : True := by
  k_with "memr" => (first | with_reducible exact List.mem_cons_self | (with_reducible refine' List.mem_cons_of_mem _ ?_; k_extra "memr") | exact List.mem_append_left _ (by with_reducible assumption) | (with_reducible refine' List.mem_append_right _ ?_; k_extra "memr") | (with_reducible refine' List.mem_append_left _ ?_; k_extra "memr") | with_reducible assumption)
  k_with "memd" => (first | exact List.mem_cons_self | (refine' List.mem_cons_of_mem _ ?_; k_extra "memd") | (refine' List.mem_append_right _ ?_; k_extra "memd") | (refine' List.mem_append_left _ ?_; k_extra "memd") | ktr_member | assumption)
  k_with "mem" => (first | k_extra "memr" | k_extra "memd")
  k_with "hk k_mem" => (k_extra "mem")
  k_with "hk k_inst" => (first | (refine' InstAt.of_news ?NZ8 ?h1Z8 ?h2Z8; (case NZ8 => k_asm); (case h1Z8 => k_extra "mem"); (case h2Z8 => k_extra "mem")) | (refine' InstAt.of_K ?XZ8 ?h1Z8 ?h2Z8; (case XZ8 => first | assumption | exact Frag.In.keeps (by k_asm) (Fr.keep (by k_asm))); (case h1Z8 => k_is); (case h2Z8 => k_is)))
  trivial
noncomputable abbrev PG : Program := PySem.Challenge.rw_og0010_01.row.prog
noncomputable abbrev LS : List Str := looseW ax.view_1_40 [Str.ofString "LazyError", Str.ofString "Export", Str.ofString "Import", Str.ofString "_law_word"]

/-- the words that the law lays -/
inductive W
  | lp | rp | cm | semi | kmod | dots | gM | gAB | gT | gMT | gOne | gN | gAN | vf | vMf | vplus | vMplus | vhid | vas | vqual | cplus | vop | fin
  deriving DecidableEq
def W.kind : W → String
  | .lp | .rp | .cm | .semi => "special"
  | .kmod => "key"
  | .dots => "op"
  | .gM | .gAB | .gT | .gMT | .gOne | .gN | .gAN => "con"
  | .vf | .vMf | .vhid | .vas | .vqual | .vop => "var"
  | .vplus | .vMplus => "varsym"
  | .cplus => "consym"
  | .fin => "end"
def W.text : W → String
  | .lp => "(" | .rp => ")" | .cm => "," | .semi => ";" | .kmod => "module" | .dots => ".."
  | .gM => "M" | .gAB => "B" | .gT => "T" | .gMT => "T" | .gOne => "One" | .gN => "N" | .gAN => "N"
  | .vf => "f" | .vMf => "f" | .vplus => "+" | .vMplus => "+" | .vhid => "hiding" | .vas => "as" | .vqual => "qualified"
  | .cplus => ":+" | .vop => "op" | .fin => ""
def W.value : W → Option String
  | .gAB => some "A" | .gMT => some "M" | .gAN => some "A" | .vMf => some "M" | .vMplus => some "M"
  | _ => none
def W.kd (x : W) : Str := Str.ofString x.kind
def W.tx (x : W) : Str := Str.ofString x.text
def W.vl (x : W) : Option Str := x.value.map Str.ofString
/-- the name in full -/
def W.nm (x : W) : Str := match x.vl with
  | none => x.tx
  | some v => v ++ Str.ofString "." ++ x.tx
def optV (o : Option Str) (t : Tok) : Value := match o with
  | none => .none
  | some x => .str x t

abbrev listO (vs : List Value) (n : Nat) : Obj := { cls := .type "list", data := .seq vs.toArray n }
abbrev tupO (vs : List Value) (n : Nat) : Obj := { cls := .type "tuple", data := .seq vs.toArray n }
noncomputable abbrev ent (w : World) (x : String) (t : Tok) (v : Value) : DictEntry := ⟨PyData.keyHash w.params (Str.ofString x), .str (Str.ofString x) t, v⟩

/-- a word's two objects are on the ledger -/
noncomputable abbrev wordO (w : World) (x : W) (T : Nat → Tok) : Obj :=
  dictOf [ent w "kind" (T 0) (.str x.kd (T 1)), ent w "text" (T 2) (.str x.tx (T 3)), ent w "line" (T 4) (.int 1 (T 5)), ent w "column" (T 6) (.int 1 (T 7)), ent w "value" (T 8) (optV x.vl (T 9)), ent w "is_first" (T 10) (.bool false)] 6
def WordIn (w : World) (news : List (Addr × Obj)) (v : Value) (x : W) : Prop :=
  ∃ a d T, v = .ref a ∧ (a, instObj 388 d) ∈ news ∧ (d, wordO w x T) ∈ news
theorem WordIn.mono {w : World} {news news' : List (Addr × Obj)} {v : Value} {x : W} (h : WordIn w news v x) (s : ∀ p ∈ news, p ∈ news') : WordIn w news' v x := by
  obtain ⟨a, d, T, rfl, h1, h2⟩ := h
  exact ⟨a, d, T, rfl, s _ h1, s _ h2⟩

/-- one relation, item by item -/
inductive All2 {α β : Type} (R : α → β → Prop) : List α → List β → Prop
  | nil : All2 R [] []
  | cons {a b l m} : R a b → All2 R l m → All2 R (a :: l) (b :: m)
theorem All2.length {α β : Type} {R : α → β → Prop} {l : List α} {m : List β} (h : All2 R l m) : l.length = m.length := by
  induction h with
  | nil => rfl
  | cons _ _ ih => rw [List.length_cons, List.length_cons, ih]
theorem All2.get {α β : Type} {R : α → β → Prop} {l : List α} {m : List β} (h : All2 R l m) : ∀ {i : Nat} {b : β}, m[i]? = some b → ∃ a, l[i]? = some a ∧ R a b := by
  induction h with
  | nil => intro i b e; simp at e
  | cons r _ ih =>
    intro i b e
    cases i with
    | zero => simp only [List.getElem?_cons_zero, Option.some.injEq] at e; subst e; exact ⟨_, by simp, r⟩
    | succ i => simp only [List.getElem?_cons_succ] at e ⊢; exact ih e
theorem All2.imp {α β : Type} {R S : α → β → Prop} (f : ∀ a b, R a b → S a b) {l : List α} {m : List β} (h : All2 R l m) : All2 S l m := by
  induction h with
  | nil => exact .nil
  | cons r _ ih => exact .cons (f _ _ r) ih
theorem All2.append {α β : Type} {R : α → β → Prop} {l l' : List α} {m m' : List β} (h : All2 R l m) (h' : All2 R l' m') : All2 R (l ++ l') (m ++ m') := by
  induction h with
  | nil => exact h'
  | cons r _ ih => exact .cons r ih
theorem All2.take {α β : Type} {R : α → β → Prop} {l : List α} {m : List β} (h : All2 R l m) : ∀ n, All2 R (l.take n) (m.take n) := by
  induction h with
  | nil => intro n; simp; exact .nil
  | cons r _ ih => intro n; cases n with
    | zero => exact .nil
    | succ n => exact .cons r (ih n)
theorem All2.drop {α β : Type} {R : α → β → Prop} {l : List α} {m : List β} (h : All2 R l m) : ∀ n, All2 R (l.drop n) (m.drop n) := by
  induction h with
  | nil => intro n; simp; exact .nil
  | cons r t ih => intro n; cases n with
    | zero => exact .cons r t
    | succ n => exact ih n

/-- a cursor over a row of words: its addresses, its words' values and its keys' tokens -/
structure Cu where
  c : Addr
  dc : Addr
  r : Addr
  dr : Addr
  l : Addr
  ln : Nat
  vs : List Value
  ea : Addr
  t1 : Tok
  t2 : Tok
  t3 : Tok
  t4 : Tok
  t5 : Tok
noncomputable abbrev dictC (w : World) (S : Cu) (lv : Value) : Obj := dictOf [ent w "layout" S.t1 (.ref S.r), ent w "last" S.t2 lv] 2
noncomputable abbrev dictR (w : World) (S : Cu) (i : Int) (u : Tok) : Obj := dictOf [ent w "words" S.t3 (.ref S.l), ent w "end" S.t4 (.ref S.ea), ent w "at" S.t5 (.int i u)] 3
structure CuIn (w : World) (S : Cu) (rest : List (Addr × Obj)) (toks : List W) : Prop where
  mc : (S.c, instObj 174 S.dc) ∈ rest
  mr : (S.r, instObj 352 S.dr) ∈ rest
  ml : (S.l, listO S.vs S.ln) ∈ rest
  hv : All2 (WordIn w rest) S.vs toks
  he : WordIn w rest (.ref S.ea) .fin
  d1 : ∀ p ∈ rest, p.1 ≠ S.dc
  d2 : ∀ p ∈ rest, p.1 ≠ S.dr
  d3 : @Ne Nat S.dc S.dr
  sz : toks.length ≤ 1000
/-- the place i, and what is left from there -/
def At (toks : List W) (i : Int) (rem : List W) : Prop := 0 ≤ i ∧ i ≤ (toks.length : Int) ∧ toks.drop i.toNat = rem

noncomputable abbrev atop (dp un : Nat) (gd : Option (List Code)) (cn : Str) (cs : Scope) (L a : Addr) (ccd : Value) (outer : List Env) : Around := { handled := none, depth := dp, frames := some (envOf cn cs L a ccd :: outer), guards := gd, units := un }

/-- what a call of fn upon args does, from any frame, where the ledger is news: it hands back v with the ledger news' (Ok), or raises a ReadError (Er) -/
def CSpec (w : World) (cost : Nat) (fn : Addr) (args : List Value) (news : List (Addr × Obj)) (Ok : Value → List (Addr × Obj) → Prop) (Er : Prop) : Prop :=
  ∀ (mean : ExcName → Option Value) (mg mb : Str → Option Value) (dp un : Nat) (gd : Option (List Code)) (cn : Str) (cs : Scope) (a : Addr) (ccd : Value) (outer : List Env) (A₀ : Around) (base h₀ : Heap) (L : Addr) (m : Str → Option Value) (s : Shared)
    (Q E : Value → Shared → Prop),
    Below A₀ base outer h₀ → Fr h₀ L s.heap m → (ax.heap_1_39 w.params).In h₀ → News h₀ L s.heap news → Top ax.view_1_40 LS mean mg mb h₀ → cs.kind = .function → dp + cost < recursionLimit → un + 8 * cost < cLine →
    (∀ v news' h' tk', Ok v news' → Fr h₀ L h' m → News h₀ L h' news' → Q v { s with heap := h', toks := tk' }) →
    (Er → ∀ e h' tk' g₂, RaisedSN base g₂ (envOf cn cs L a ccd :: outer) e (.ref 52) [] h' → Fr h₀ L g₂ m → g₂.UpToSlots h' → E (.ref e) { s with heap := h', toks := tk' }) →
    wpAny (model PG w) (atop dp un gd cn cs L a ccd outer) (call (.ref fn) args) Q E s
theorem CSpec.sub {w : World} {cost : Nat} {fn : Addr} {args : List Value} {news₁ news₂ : List (Addr × Obj)} {Ok : Value → List (Addr × Obj) → Prop} {Er : Prop} (h : CSpec w cost fn args news₁ Ok Er) (hs : ∀ p ∈ news₁, p ∈ news₂) : CSpec w cost fn args news₂ Ok Er :=
  fun mean mg mb dp un gd cn cs a ccd outer A₀ base h₀ L m s Q E B F X N T hk h1 h2 ok er => h mean mg mb dp un gd cn cs a ccd outer A₀ base h₀ L m s Q E B F X (fun p hp => N p (hs p hp)) T hk h1 h2 ok er
theorem CSpec.mono {w : World} {cost cost' : Nat} {fn : Addr} {args : List Value} {news : List (Addr × Obj)} {Ok Ok' : Value → List (Addr × Obj) → Prop} {Er Er' : Prop} (h : CSpec w cost fn args news Ok Er) (hc : cost ≤ cost') (hO : ∀ v n, Ok v n → Ok' v n) (hE : Er → Er') : CSpec w cost' fn args news Ok' Er' :=
  fun mean mg mb dp un gd cn cs a ccd outer A₀ base h₀ L m s Q E B F X N T hk h1 h2 ok er => h mean mg mb dp un gd cn cs a ccd outer A₀ base h₀ L m s Q E B F X N T hk (by omega) (by omega) (fun v n h' tk' o => ok v n h' tk' (hO v n o)) (fun e => er (hE e))
theorem CSpec.use {w : World} {cost : Nat} {fn : Addr} {args : List Value} {news : List (Addr × Obj)} {Ok : Value → List (Addr × Obj) → Prop} {Er : Prop} (h : CSpec w cost fn args news Ok Er)
    {mean : ExcName → Option Value} {mg mb : Str → Option Value} {dp un : Nat} {gd : Option (List Code)} {cn : Str} {cs : Scope} {a : Addr} {ccd : Value} {outer : List Env} {A₀ : Around} {base h₀ : Heap} {L : Addr} {m : Str → Option Value} {s : Shared}
    {Q E : Value → Shared → Prop} (B : Below A₀ base outer h₀) (F : Fr h₀ L s.heap m) (X : (ax.heap_1_39 w.params).In h₀) (N : News h₀ L s.heap news) (T : Top ax.view_1_40 LS mean mg mb h₀) (hk : cs.kind = .function) (h1 : dp + cost < recursionLimit) (h2 : un + 8 * cost < cLine)
    (ok : ∀ v news' h' tk', Ok v news' → Fr h₀ L h' m → News h₀ L h' news' → Q v { s with heap := h', toks := tk' })
    (er : Er → ∀ e h' tk' g₂, RaisedSN base g₂ (envOf cn cs L a ccd :: outer) e (.ref 52) [] h' → Fr h₀ L g₂ m → g₂.UpToSlots h' → E (.ref e) { s with heap := h', toks := tk' }) :
    wpAny (model PG w) (atop dp un gd cn cs L a ccd outer) (call (.ref fn) args) Q E s := h _ _ _ _ _ _ _ _ _ _ _ _ _ _ _ _ _ _ _ B F X N T hk h1 h2 ok er

/-- no new thing that is kept: a reader's call -/
def Ord (old tl : List (Addr × Obj)) : Prop := ∀ q ∈ old, ∀ p ∈ tl, q.1 < p.1
/-- a reader's end: the cursor stands at i', the things made are tl -/
def ROk (w : World) (S : Cu) (toks : List W) (rest : List (Addr × Obj)) (P : Value → List (Addr × Obj) → Int → Prop) (v : Value) (news' : List (Addr × Obj)) : Prop :=
  ∃ lv' i' u' tl, news' = (S.dc, dictC w S lv') :: (S.dr, dictR w S i' u') :: (tl ++ rest) ∧ (∀ p ∈ tl, S.dc < p.1 ∧ S.dr < p.1) ∧ Ord rest tl ∧ P v (tl ++ rest) i'
theorem rm0 {d c L : Nat} (h : d + c < L) : d < L := Nat.lt_of_le_of_lt (Nat.le_add_right _ _) h
theorem rm2 {d c j k L : Nat} (h : d + c < L) (h' : Nat.ble (j + k) c = true) : d + j + k < L := by
  rw [Nat.add_assoc]; exact Nat.lt_of_le_of_lt (Nat.add_le_add_left (Nat.le_of_ble_eq_true h') _) h


section
variable {prog : Program} {w : World} {A : Around} {E : Value → Shared → Prop} {s : Shared} {h₀ : Heap} {L l : Addr} {m : Str → Option Value} {news : List (Addr × Obj)} {Q : Value → Shared → Prop}
theorem og_len {vs : List Value} {n : Nat} (N : News h₀ L s.heap news) (hm : (l, listO vs n) ∈ news) (hz : (vs.length : Int) < 2 ^ 63)
    (h : Q (.int vs.length (s.toks + 1)) { s with toks := s.toks + 1 + 1 }) : wpAny (model prog w) A (call (.builtin "len") [.ref l]) Q E s :=
  len_list (items := vs.toArray) (N.isList hm) (by simpa using hz) (by simpa using h)
theorem og_item {value slice : PySem.Expr} {vs : List Value} {n : Nat} {k : Int} {u : Tok} {v : Value} (N : News h₀ L s.heap news) (hm : (l, listO vs n) ∈ news) (h0 : 0 ≤ k) (hk : k < 2 ^ 63)
    (hx : vs[k.toNat]? = some v) (h : Q v s)
    (hs : subscripted slice false (.ref l) (.int k u) = operate [.ref l, .int k u] (getItem (.ref l) (.int k u)) := by with_unfolding_all rfl) :
    wpAny (model prog w) A (subscriptTail value slice (.ref l) (.int k u)) Q E s :=
  have hL : s.heap.IsList l vs.toArray := N.isList hm
  tail_any hL.typeIs slot_list_getitem.lookup (wpAny_getItem_list hL h0 hk (by simpa using hx) h) hs
end

/-- the word at the place k, the end word behind the last -/
def wordAt (S : Cu) (k : Int) : Value := S.vs.getD k.toNat (.ref S.ea)
def IsWord (S : Cu) (toks : List W) (v : Value) (x : W) : Prop := ∃ k : Nat, v = S.vs.getD k (.ref S.ea) ∧ x = toks.getD k .fin
theorem IsWord.in_ {w : World} {S : Cu} {rest : List (Addr × Obj)} {toks : List W} {v : Value} {x : W} (h : IsWord S toks v x) (C : CuIn w S rest toks) : WordIn w rest v x := by
  obtain ⟨k, rfl, rfl⟩ := h
  have hl := C.hv.length
  by_cases hk : k < toks.length
  · obtain ⟨v, hx, hw⟩ := C.hv.get (List.getElem?_eq_getElem hk)
    rw [List.getD_eq_getElem?_getD, List.getD_eq_getElem?_getD, hx, List.getElem?_eq_getElem hk]
    exact hw
  · rw [List.getD_eq_getElem?_getD, List.getD_eq_getElem?_getD, List.getElem?_eq_none (by omega), List.getElem?_eq_none (by omega)]
    exact C.he
theorem At.wordIn {w : World} {S : Cu} {rest : List (Addr × Obj)} {toks : List W} {i : Int} {rem : List W} (hA : At toks i rem) (C : CuIn w S rest toks) : ∃ wa d T, wordAt S i = .ref wa ∧ IsWord S toks (.ref wa) (rem.headD .fin) ∧ (wa, instObj 388 d) ∈ rest ∧ (d, wordO w (rem.headD .fin) T) ∈ rest := by
  have hw : IsWord S toks (wordAt S i) (rem.headD .fin) := by
    obtain ⟨i0, i1, rfl⟩ := hA
    refine ⟨i.toNat, rfl, ?_⟩
    rw [List.headD_eq_head?_getD, List.head?_drop, List.getD_eq_getElem?_getD]
  obtain ⟨a, d, T, e, h1, h2⟩ := hw.in_ C
  exact ⟨a, d, T, e, e ▸ hw, h1, h2⟩
theorem At.word {S : Cu} {toks : List W} {i : Int} {rem : List W} (h : At toks i rem) : IsWord S toks (wordAt S i) (rem.headD .fin) := by
  obtain ⟨i0, i1, rfl⟩ := h
  refine ⟨i.toNat, rfl, ?_⟩
  rw [List.headD_eq_head?_getD, List.head?_drop, List.getD_eq_getElem?_getD]
theorem At.next {toks : List W} {i : Int} {rem : List W} (h : At toks i rem) (hl : i < toks.length) : At toks (i + 1) rem.tail := by
  obtain ⟨i0, i1, rfl⟩ := h
  refine ⟨by omega, by omega, ?_⟩
  rw [List.tail_drop, show (i + 1).toNat = i.toNat + 1 from by omega]
theorem At.stay {toks : List W} {i : Int} {rem : List W} (h : At toks i rem) (hl : ¬ i < toks.length) : At toks i rem.tail := by
  obtain ⟨i0, i1, rfl⟩ := h
  refine ⟨by omega, by omega, ?_⟩
  rw [List.drop_eq_nil_of_le (by omega)]; rfl
theorem CuIn.add {w : World} {S : Cu} {rest pre : List (Addr × Obj)} {toks : List W} (C : CuIn w S rest toks) (hp : ∀ q ∈ pre, q.1 ≠ S.dc ∧ q.1 ≠ S.dr) : CuIn w S (pre ++ rest) toks :=
  have sub : ∀ p ∈ rest, p ∈ pre ++ rest := fun p h => List.mem_append_right _ h
  ⟨sub _ C.mc, sub _ C.mr, sub _ C.ml, C.hv.imp fun _ _ h => h.mono sub, C.he.mono sub, fun p h => (List.mem_append.mp h).elim (fun h => (hp p h).1) (C.d1 p), fun p h => (List.mem_append.mp h).elim (fun h => (hp p h).2) (C.d2 p), C.d3, C.sz⟩
theorem news_to {h₀ h : Heap} {L : Addr} {pre rest : List (Addr × Obj)} {d r : Addr × Obj} (N : News h₀ L h (pre ++ d :: r :: rest)) : News h₀ L h (d :: r :: (pre ++ rest)) := fun p hp => N p (by
  simp only [List.mem_cons, List.mem_append] at hp ⊢; rcases hp with h | h | h | h <;> simp [h])
theorem news_back {h₀ h : Heap} {L : Addr} {pre rest : List (Addr × Obj)} {d r : Addr × Obj} (N : News h₀ L h (d :: r :: (pre ++ rest))) : News h₀ L h (pre ++ d :: r :: rest) := fun p hp => N p (by
  simp only [List.mem_cons, List.mem_append] at hp ⊢; rcases hp with h | h | h | h <;> simp [h])
theorem news_back2 {h₀ h : Heap} {L : Addr} {pre tl rest : List (Addr × Obj)} {d r : Addr × Obj} (N : News h₀ L h (d :: r :: (tl ++ (pre ++ rest)))) : News h₀ L h (pre ++ d :: r :: (tl ++ rest)) := fun p hp => N p (by
  simp only [List.mem_cons, List.mem_append] at hp ⊢; rcases hp with h | h | h | h | h <;> simp [h])
theorem all_app {A B : List (Addr × Obj)} {d : Addr} (h1 : ∀ p ∈ A, p.1 ≠ d) (h2 : ∀ p ∈ B, p.1 ≠ d) : ∀ p ∈ A ++ B, p.1 ≠ d := fun p h => (List.mem_append.mp h).elim (h1 p) (h2 p)
theorem ord_ne {A tl : List (Addr × Obj)} {d : Addr} {o : Obj} (h : Ord A tl) (hm : (d, o) ∈ A) : ∀ p ∈ tl, p.1 ≠ d := fun p hp => Nat.ne_of_gt (h _ hm p hp)
theorem lt_ne {d : Addr} {l : List (Addr × Obj)} (h : ∀ p ∈ l, p.1 < d) : ∀ p ∈ l, p.1 ≠ d := fun p hp => Nat.ne_of_lt (h p hp)
theorem allLt_ne {d : Addr} {l : List (Addr × Obj)} (h : AllLt d l) : ∀ p ∈ l, p.1 ≠ d := fun p hp => Nat.ne_of_lt (ktn_ltOf h p hp)
def W.at (x : W) (kd : Str) (tx : Option Str) : Bool := x.kd == kd && (match tx with | none => true | some t => x.tx == t)
theorem at_t {x : W} {kd tx : Str} (h : (x.kd == kd) = true) : (x.tx == tx) = x.at kd (some tx) := by simp only [W.at, h, Bool.true_and]
theorem at_n {x : W} {kd : Str} (h : (x.kd == kd) = true) : true = x.at kd none := by simp only [W.at, h, Bool.true_and]
theorem at_f {x : W} {kd : Str} {tx : Option Str} (h : (x.kd == kd) = false) : (x.kd == kd) = x.at kd tx := by simp only [W.at, h, Bool.false_and]
theorem W.tx_len (x : W) : x.tx.length ≤ 20 := by cases x <;> decide +kernel

local macro_rules | `(tactic| ktr_enter) => `(tactic| (refine' code_def ?k1 ?k2 ?k3 ?k4 ?k5 ?kA ?kF ?kK ?k6 ?k7 ?k8 ?k9 ?kB ?_ ?c2 ?c3 ?c4 ?c5; (case kA => exact rfl); (case kF => exact rfl); (case kK => first | exact rfl | assumption); (case k1 => k_asm); (case k2 => k_asm); (case k3 => k_asm); (case k4 => k_asm); (case k5 => k_asm); (case k6 => k_is); (case k7 => k_is); (case k8 => ktr_room); (case k9 => first | exact BindsTo.of_eq rfl | exact binds_K (by k_in) rfl (by k_is) rfl rfl rfl | fail "k_enter: no rule for these arguments"); (case c5 => decide); (case kB => exact locs rfl); (case c2 => exact rfl); (case c3 => exact rfl); (case c4 => exact rfl); k_whole; intro g' L' h' FG' F' N' B' X' T'; (try dsimp only); (try k_lift B'); (try k_fold)))
theorem wd_f_1 : True := by
  k_with "call builtin:len" => (k_here; (with_reducible show wpAny _ _ (call (Value.builtin "len") [Value.ref _]) _ _ _); k_dflt (refine' og_len ?k1Z9 ?k2Z9 ?k3Z9 ?_; (case k1Z9 => k_asm); (case k2Z9 => k_extra "mem"); (case k3Z9 => omega); k_whole))
  k_with "subscriptTail" => (k_here; (with_reducible show wpAny _ _ (subscriptTail _ _ (Value.ref _) (Value.int _ _)) _ _ _); k_dflt (refine' og_item ?k1Z9 ?k2Z9 ?k3Z9 ?k4Z9 ?k5Z9 ?_ ?k6Z9; (case k1Z9 => k_asm); (case k2Z9 => k_extra "mem"); (case k3Z9 => omega); (case k4Z9 => omega); (case k5Z9 => assumption); (case k6Z9 => with_unfolding_all rfl); k_whole))
  k_with "hk k_all" => (first | assumption | (refine' all_app ?aZ9 ?bZ9; (case aZ9 => k_all); (case bZ9 => k_all)) | exact ord_ne (by assumption) (by k_extra "mem") | exact lt_ne (by assumption) | exact allLt_ne (by assumption) | exact allLt_ne (And.right (by assumption)) | exact allLt_ne (And.right (And.right (by assumption))) | exact allLt_ne (And.right (And.right (And.right (by assumption)))))
  k_with "hk k_room" => (ktr_room)
  k_with "hk k_units" => (ktr_units)
  k_with "hk ktr_room" => (first | exact rm2 (by assumption) rfl | exact rm0 (by assumption))
  k_with "hk ktr_units" => (exact rm2 (by assumption) rfl)
  k_with "hk k_ne" => ((refine neN ?_; (try dsimp only); first | exact Nat.ne_of_gt (by assumption) | exact Nat.ne_of_lt (by assumption) | exact Nat.ne_of_gt (And.left (by assumption)) | exact Nat.ne_of_lt (And.left (by assumption)) | exact Nat.ne_of_gt (And.left (And.right (by assumption))) | exact Nat.ne_of_lt (And.left (And.right (by assumption))) | exact Nat.ne_of_gt (And.left (And.right (And.right (by assumption)))) | exact Nat.ne_of_lt (And.left (And.right (And.right (by assumption)))) | exact Nat.ne_of_gt (And.left (And.right (And.right (And.right (by assumption))))) | exact Nat.ne_of_lt (And.left (And.right (And.right (And.right (by assumption))))) | exact Nat.ne_of_gt (And.left (And.right (And.right (And.right (And.right (by assumption)))))) | exact Nat.ne_of_lt (And.left (And.right (And.right (And.right (And.right (by assumption)))))) | exact Nat.ne_of_gt (And.left (And.right (And.right (And.right (And.right (And.right (by assumption))))))) | exact Nat.ne_of_lt (And.left (And.right (And.right (And.right (And.right (And.right (by assumption))))))) | exact Nat.ne_of_gt (And.left (And.right (And.right (And.right (And.right (And.right (And.right (by assumption)))))))) | exact Nat.ne_of_lt (And.left (And.right (And.right (And.right (And.right (And.right (And.right (by assumption)))))))) | exact Nat.ne_of_gt (And.left (And.right (And.right (And.right (And.right (And.right (And.right (And.right (by assumption))))))))) | exact Nat.ne_of_lt (And.left (And.right (And.right (And.right (And.right (And.right (And.right (And.right (by assumption))))))))) | exact Nat.ne_of_gt (And.left (And.right (And.right (And.right (And.right (And.right (And.right (And.right (And.right (by assumption)))))))))) | exact Nat.ne_of_lt (And.left (And.right (And.right (And.right (And.right (And.right (And.right (And.right (And.right (by assumption))))))))))))
  k_with "callWith ref" => (k_here; (with_reducible show wpAny _ _ (callWith _ (Value.ref _) _ (backTo _ (starEach [] _)) []) _ _ _); k_dflt (refine' callWith_K0 ?k1Z9 ?k2Z9 ?_; (case k1Z9 => with_reducible exact Frag.In.keeps (by assumption) (Fr.keep (by assumption))); (case k2Z9 => k_is); k_whole))
  trivial


theorem peek_row {w : World} {S : Cu} {rest : List (Addr × Obj)} {toks : List W} {lv : Value} {i : Int} {u : Tok} {rem : List W} (C : CuIn w S rest toks) (hA : At toks i rem) :
    CSpec w 4 328 [.ref S.r] ((S.dc, dictC w S lv) :: (S.dr, dictR w S i u) :: rest) (fun v n' => v = wordAt S i ∧ n' = ((S.dc, dictC w S lv) :: (S.dr, dictR w S i u) :: rest)) False := by
  obtain ⟨mc, mr, ml, hv, he, d1, d2, d3, sz⟩ := C
  obtain ⟨i0, i1, i2⟩ := hA
  have hl := hv.length
  by_cases hlt : i < S.vs.length
  · have hlt' : i.toNat < toks.length := by omega
    obtain ⟨v, hx, hw⟩ := hv.get (List.getElem?_eq_getElem hlt')
    have e1 : wordAt S i = v := by unfold wordAt; rw [List.getD_eq_getElem?_getD, hx]; rfl
    rw [e1]
    unfold CSpec; intro mean mg mb dp un gd cn cs a ccd outer A₀ base h₀ L m s Q E B F X N T hk hd' hu hret her; refine wpAny_call ?_; k_dflt ktr_enter
    k_steps
    exact hret _ _ _ _ ⟨rfl, rfl⟩ (by assumption) (by assumption)
  · have e1 : wordAt S i = .ref S.ea := by unfold wordAt; rw [List.getD_eq_getElem?_getD, List.getElem?_eq_none (by omega)]; rfl
    rw [e1]
    unfold CSpec; intro mean mg mb dp un gd cn cs a ccd outer A₀ base h₀ L m s Q E B F X N T hk hd' hu hret her; refine wpAny_call ?_; k_dflt ktr_enter
    k_steps
    exact hret _ _ _ _ ⟨rfl, rfl⟩ (by assumption) (by assumption)
theorem peek_row_use {w : World} {S : Cu} {pre rest : List (Addr × Obj)} {toks : List W} {lv : Value} {i : Int} {u : Tok} {rem : List W}
    {mean : ExcName → Option Value} {mg mb : Str → Option Value} {dp un : Nat} {gd : Option (List Code)} {cn : Str} {cs : Scope} {a : Addr} {ccd : Value} {outer : List Env} {A₀ : Around} {base h₀ : Heap} {L : Addr} {m : Str → Option Value} {s : Shared} {Q E : Value → Shared → Prop} (B : Below A₀ base outer h₀) (F : Fr h₀ L s.heap m) (X : (ax.heap_1_39 w.params).In h₀) (N : News h₀ L s.heap (pre ++ (S.dc, dictC w S lv) :: (S.dr, dictR w S i u) :: rest)) (T : Top ax.view_1_40 LS mean mg mb h₀) (hk : cs.kind = .function) (h1 : dp + 4 < recursionLimit) (h2 : un + 8 * 4 < cLine)
    (C : CuIn w S rest toks) (hA : At toks i rem) (hp : ∀ q ∈ pre, @Ne Nat q.1 S.dc ∧ @Ne Nat q.1 S.dr)
    (ok : ∀ wa d T h' tk', wordAt S i = .ref wa → IsWord S toks (.ref wa) (rem.headD .fin) → (wa, instObj 388 d) ∈ rest → (d, wordO w (rem.headD .fin) T) ∈ rest → Fr h₀ L h' m → News h₀ L h' (pre ++ (S.dc, dictC w S lv) :: (S.dr, dictR w S i u) :: rest) → Q (.ref wa) { s with heap := h', toks := tk' }) :
    wpAny (model PG w) (atop dp un gd cn cs L a ccd outer) (call (.ref 328) [.ref S.r]) Q E s :=
  (peek_row (C.add hp) hA).use B F X (news_to N) T hk h1 h2 (fun v n' h' tk' o F' N' => by
    obtain ⟨rfl, rfl⟩ := o
    obtain ⟨wa, d, T, e, h3, h4, h5⟩ := hA.wordIn C
    rw [e]; exact ok wa d T _ _ e h3 h4 h5 F' (news_back N')) (fun h => h.elim)
theorem wd_f_2 : True := by
  k_with "hk cell_call" => (((any_goals ((with_reducible show Below _ _ _ _); k_asm)); (any_goals ((with_reducible show Fr _ _ _ _); k_asm)); (any_goals ((with_reducible show Frag.In _ _); k_asm)); (any_goals ((with_reducible show News _ _ _ _); k_asm)); (any_goals ((with_reducible show Top _ _ _ _ _ _); k_asm)); (any_goals ((with_reducible show _ = ScopeKind.function); exact rfl)); (any_goals ((with_reducible show _ < recursionLimit); ktr_room)); (any_goals ((with_reducible show _ < cLine); ktr_units))))
  k_with "hk kas_types" => (((any_goals ((with_reducible show CuIn _ _ _ _); assumption)); (any_goals ((with_reducible show At _ _ _); assumption)); (any_goals ((with_reducible show ∀ q : Addr × Obj, q ∈ _ → _ ∧ _); (repeat' first | exact List.forall_mem_nil _ | (refine' List.forall_mem_cons.mpr ⟨⟨?xZ9, ?yZ9⟩, ?_⟩; (case xZ9 => k_ne); (case yZ9 => k_ne)))))))
  k_with "hk kpt_turns" => ((try dsimp only [List.nil_append, List.cons_append]))
  k_with "hk kst_p2" => (((try dsimp only [List.nil_append, List.cons_append] at *); (try k_sweep)))
  k_with "call ref" => (k_here; k_dflt ((first | (refine' peek_row_use (pre := []) ?_ ?_ ?_ ?_ ?_ ?_ ?_ ?_ ?_ ?_ ?_ ?_; k_extra "hk cell_call")); k_extra "hk kas_types"); k_whole; k_extra "hk kpt_turns"; intro _ _ _ _ _ _ _ _ _ _ _; (try k_sweep))
  trivial

theorem next_row {w : World} {S : Cu} {rest : List (Addr × Obj)} {toks : List W} {lv : Value} {i : Int} {u : Tok} {rem : List W} (C : CuIn w S rest toks) (hA : At toks i rem) :
    CSpec w 8 335 [.ref S.r] ((S.dc, dictC w S lv) :: (S.dr, dictR w S i u) :: rest) (fun v n' => v = wordAt S i ∧ ∃ i' u', n' = (S.dc, dictC w S lv) :: (S.dr, dictR w S i' u') :: rest ∧ At toks i' rem.tail) False := by
  have C' := C
  have hA' := hA
  obtain ⟨mc, mr, ml, hv, he, d1, d2, d3, sz⟩ := C'
  obtain ⟨i0, i1, i2⟩ := hA'
  have hl := hv.length
  by_cases hlt : i < S.vs.length
  · unfold CSpec; intro mean mg mb dp un gd cn cs a ccd outer A₀ base h₀ L m s Q E B F X N T hk hd' hu hret her; refine wpAny_call ?_; k_dflt ktr_enter
    k_steps
    exact hret _ _ _ _ ⟨by symm; assumption, _, _, rfl, hA.next (by omega)⟩ (by assumption) (by assumption)
  · unfold CSpec; intro mean mg mb dp un gd cn cs a ccd outer A₀ base h₀ L m s Q E B F X N T hk hd' hu hret her; refine wpAny_call ?_; k_dflt ktr_enter
    k_steps
    exact hret _ _ _ _ ⟨by symm; assumption, _, _, rfl, hA.stay (by omega)⟩ (by assumption) (by assumption)
theorem next_row_use {w : World} {S : Cu} {pre rest : List (Addr × Obj)} {toks : List W} {lv : Value} {i : Int} {u : Tok} {rem : List W}
    {mean : ExcName → Option Value} {mg mb : Str → Option Value} {dp un : Nat} {gd : Option (List Code)} {cn : Str} {cs : Scope} {a : Addr} {ccd : Value} {outer : List Env} {A₀ : Around} {base h₀ : Heap} {L : Addr} {m : Str → Option Value} {s : Shared} {Q E : Value → Shared → Prop} (B : Below A₀ base outer h₀) (F : Fr h₀ L s.heap m) (X : (ax.heap_1_39 w.params).In h₀) (N : News h₀ L s.heap (pre ++ (S.dc, dictC w S lv) :: (S.dr, dictR w S i u) :: rest)) (T : Top ax.view_1_40 LS mean mg mb h₀) (hk : cs.kind = .function) (h1 : dp + 8 < recursionLimit) (h2 : un + 8 * 8 < cLine)
    (C : CuIn w S rest toks) (hA : At toks i rem) (hp : ∀ q ∈ pre, @Ne Nat q.1 S.dc ∧ @Ne Nat q.1 S.dr)
    (ok : ∀ wa d T i' u' h' tk', wordAt S i = .ref wa → IsWord S toks (.ref wa) (rem.headD .fin) → (wa, instObj 388 d) ∈ rest → (d, wordO w (rem.headD .fin) T) ∈ rest → At toks i' rem.tail → Fr h₀ L h' m → News h₀ L h' (pre ++ (S.dc, dictC w S lv) :: (S.dr, dictR w S i' u') :: rest) → Q (.ref wa) { s with heap := h', toks := tk' }) :
    wpAny (model PG w) (atop dp un gd cn cs L a ccd outer) (call (.ref 335) [.ref S.r]) Q E s :=
  (next_row (C.add hp) hA).use B F X (news_to N) T hk h1 h2 (fun v n' h' tk' o F' N' => by
    obtain ⟨rfl, i', u', rfl, hA'⟩ := o
    obtain ⟨wa, d, T, e, h3, h4, h5⟩ := hA.wordIn C
    rw [e]; exact ok wa d T _ _ _ _ e h3 h4 h5 hA' F' (news_back N')) (fun h => h.elim)
theorem wd_f_3 : True := by
  k_with "call ref" => (k_here; k_dflt ((first | (refine' next_row_use (pre := []) ?_ ?_ ?_ ?_ ?_ ?_ ?_ ?_ ?_ ?_ ?_ ?_; k_extra "hk cell_call")); k_extra "hk kas_types"); k_whole; k_extra "hk kpt_turns"; intro _ _ _ _ _ _ _ _ _ _ _ _ _ _; (try k_sweep))
  trivial



theorem next_cu {w : World} {S : Cu} {rest : List (Addr × Obj)} {toks : List W} {lv : Value} {i : Int} {u : Tok} {rem : List W} (C : CuIn w S rest toks) (hA : At toks i rem) :
    CSpec w 12 98 [.ref S.c] ((S.dc, dictC w S lv) :: (S.dr, dictR w S i u) :: rest) (fun v n' => v = wordAt S i ∧ ∃ lv' i' u', n' = (S.dc, dictC w S lv') :: (S.dr, dictR w S i' u') :: rest ∧ At toks i' rem.tail) False := by
  have C' := C
  obtain ⟨mc, mr, ml, hv, he, d1, d2, d3, sz⟩ := C'
  unfold CSpec; intro mean mg mb dp un gd cn cs a ccd outer A₀ base h₀ L m s Q E B F X N T hk hd' hu hret her; refine wpAny_call ?_; k_dflt ktr_enter
  k_steps
  exact hret _ _ _ _ ⟨by symm; assumption, _, _, _, rfl, by assumption⟩ (by assumption) (by assumption)
theorem peek_cu {w : World} {S : Cu} {rest : List (Addr × Obj)} {toks : List W} {lv : Value} {i : Int} {u : Tok} {rem : List W} (C : CuIn w S rest toks) (hA : At toks i rem) :
    CSpec w 8 91 [.ref S.c] ((S.dc, dictC w S lv) :: (S.dr, dictR w S i u) :: rest) (fun v n' => v = wordAt S i ∧ n' = ((S.dc, dictC w S lv) :: (S.dr, dictR w S i u) :: rest)) False := by
  have C' := C
  obtain ⟨mc, mr, ml, hv, he, d1, d2, d3, sz⟩ := C'
  unfold CSpec; intro mean mg mb dp un gd cn cs a ccd outer A₀ base h₀ L m s Q E B F X N T hk hd' hu hret her; refine wpAny_call ?_; k_dflt ktr_enter
  k_steps
  exact hret _ _ _ _ ⟨by symm; assumption, rfl⟩ (by assumption) (by assumption)
theorem next_cu_use {w : World} {S : Cu} {pre rest : List (Addr × Obj)} {toks : List W} {lv : Value} {i : Int} {u : Tok} {rem : List W}
    {mean : ExcName → Option Value} {mg mb : Str → Option Value} {dp un : Nat} {gd : Option (List Code)} {cn : Str} {cs : Scope} {a : Addr} {ccd : Value} {outer : List Env} {A₀ : Around} {base h₀ : Heap} {L : Addr} {m : Str → Option Value} {s : Shared} {Q E : Value → Shared → Prop} (B : Below A₀ base outer h₀) (F : Fr h₀ L s.heap m) (X : (ax.heap_1_39 w.params).In h₀) (N : News h₀ L s.heap (pre ++ ((S.dc, dictC w S lv) :: (S.dr, dictR w S i u) :: rest))) (T : Top ax.view_1_40 LS mean mg mb h₀) (hk : cs.kind = .function) (h1 : dp + 12 < recursionLimit) (h2 : un + 8 * 12 < cLine)
    (C : CuIn w S rest toks) (hA : At toks i rem) (hp : ∀ q ∈ pre, @Ne Nat q.1 S.dc ∧ @Ne Nat q.1 S.dr)
    (ok : ∀ wa d T lv' i' u' h' tk', wordAt S i = .ref wa → IsWord S toks (.ref wa) (rem.headD .fin) → (wa, instObj 388 d) ∈ rest → (d, wordO w (rem.headD .fin) T) ∈ rest → At toks i' rem.tail → Fr h₀ L h' m → News h₀ L h' (pre ++ (S.dc, dictC w S lv') :: (S.dr, dictR w S i' u') :: rest) → Q (.ref wa) { s with heap := h', toks := tk' }) :
    wpAny (model PG w) (atop dp un gd cn cs L a ccd outer) (call (.ref 98) [.ref S.c]) Q E s :=
  (next_cu (C.add hp) hA).use B F X (news_to N) T hk h1 h2 (fun v n' h' tk' o F' N' => by
    obtain ⟨rfl, lv', i', u', rfl, hA'⟩ := o
    obtain ⟨wa, d, T, e, h3, h4, h5⟩ := hA.wordIn C
    rw [e]; exact ok wa d T _ _ _ _ _ e h3 h4 h5 hA' F' (news_back N')) (fun h => h.elim)
theorem peek_cu_use {w : World} {S : Cu} {pre rest : List (Addr × Obj)} {toks : List W} {lv : Value} {i : Int} {u : Tok} {rem : List W}
    {mean : ExcName → Option Value} {mg mb : Str → Option Value} {dp un : Nat} {gd : Option (List Code)} {cn : Str} {cs : Scope} {a : Addr} {ccd : Value} {outer : List Env} {A₀ : Around} {base h₀ : Heap} {L : Addr} {m : Str → Option Value} {s : Shared} {Q E : Value → Shared → Prop} (B : Below A₀ base outer h₀) (F : Fr h₀ L s.heap m) (X : (ax.heap_1_39 w.params).In h₀) (N : News h₀ L s.heap (pre ++ ((S.dc, dictC w S lv) :: (S.dr, dictR w S i u) :: rest))) (T : Top ax.view_1_40 LS mean mg mb h₀) (hk : cs.kind = .function) (h1 : dp + 8 < recursionLimit) (h2 : un + 8 * 8 < cLine)
    (C : CuIn w S rest toks) (hA : At toks i rem) (hp : ∀ q ∈ pre, @Ne Nat q.1 S.dc ∧ @Ne Nat q.1 S.dr)
    (ok : ∀ wa d T h' tk', wordAt S i = .ref wa → IsWord S toks (.ref wa) (rem.headD .fin) → (wa, instObj 388 d) ∈ rest → (d, wordO w (rem.headD .fin) T) ∈ rest → Fr h₀ L h' m → News h₀ L h' (pre ++ ((S.dc, dictC w S lv) :: (S.dr, dictR w S i u) :: rest)) → Q (.ref wa) { s with heap := h', toks := tk' }) :
    wpAny (model PG w) (atop dp un gd cn cs L a ccd outer) (call (.ref 91) [.ref S.c]) Q E s :=
  (peek_cu (C.add hp) hA).use B F X (news_to N) T hk h1 h2 (fun v n' h' tk' o F' N' => by
    obtain ⟨rfl, rfl⟩ := o
    obtain ⟨wa, d, T, e, h3, h4, h5⟩ := hA.wordIn C
    rw [e]; exact ok wa d T _ _ e h3 h4 h5 F' (news_back N')) (fun h => h.elim)
theorem wd_f_4 : True := by
  k_with "call ref" => (k_here; k_dflt ((first | (refine' next_cu_use (pre := []) ?_ ?_ ?_ ?_ ?_ ?_ ?_ ?_ ?_ ?_ ?_ ?_; k_extra "hk cell_call") | (refine' next_cu_use (pre := [_]) ?_ ?_ ?_ ?_ ?_ ?_ ?_ ?_ ?_ ?_ ?_ ?_; k_extra "hk cell_call") | (refine' next_cu_use (pre := [_, _]) ?_ ?_ ?_ ?_ ?_ ?_ ?_ ?_ ?_ ?_ ?_ ?_; k_extra "hk cell_call")); k_extra "hk kas_types"); k_whole; k_extra "hk kpt_turns"; intro _ _ _ _ _ _ _ _ _ _ _ _ _ _ _; k_extra "hk kst_p2")
  k_with "call ref" => (k_here; k_dflt ((first | (refine' peek_cu_use (pre := []) ?_ ?_ ?_ ?_ ?_ ?_ ?_ ?_ ?_ ?_ ?_ ?_; k_extra "hk cell_call") | (refine' peek_cu_use (pre := [_]) ?_ ?_ ?_ ?_ ?_ ?_ ?_ ?_ ?_ ?_ ?_ ?_; k_extra "hk cell_call") | (refine' peek_cu_use (pre := [_, _]) ?_ ?_ ?_ ?_ ?_ ?_ ?_ ?_ ?_ ?_ ?_ ?_; k_extra "hk cell_call")); k_extra "hk kas_types"); k_whole; k_extra "hk kpt_turns"; intro _ _ _ _ _ _ _ _ _ _ _; k_extra "hk kst_p2")
  trivial



theorem is_at {w : World} {S : Cu} {rest : List (Addr × Obj)} {toks : List W} {lv : Value} {i : Int} {u : Tok} {rem : List W} {kd tx : Str} {k1 k2 : Tok} (C : CuIn w S rest toks) (hA : At toks i rem) :
    CSpec w 12 127 [.ref S.c, .str kd k1, .str tx k2] ((S.dc, dictC w S lv) :: (S.dr, dictR w S i u) :: rest) (fun v n' => v = .bool ((rem.headD .fin).at kd (some tx)) ∧ n' = ((S.dc, dictC w S lv) :: (S.dr, dictR w S i u) :: rest)) False := by
  have C' := C
  obtain ⟨mc, mr, ml, hv, he, d1, d2, d3, sz⟩ := C'
  unfold CSpec; intro mean mg mb dp un gd cn cs a ccd outer A₀ base h₀ L m s Q E B F X N T hk hd' hu hret her; refine wpAny_call ?_; k_dflt ktr_enter
  k_steps
  · exact hret _ _ _ _ ⟨congrArg _ (at_t (by assumption)), rfl⟩ (by assumption) (by assumption)
  · exact hret _ _ _ _ ⟨congrArg _ (at_f (by assumption)), rfl⟩ (by assumption) (by assumption)
theorem is_at0 {w : World} {S : Cu} {rest : List (Addr × Obj)} {toks : List W} {lv : Value} {i : Int} {u : Tok} {rem : List W} {kd : Str} {k1 : Tok} (C : CuIn w S rest toks) (hA : At toks i rem) :
    CSpec w 12 127 [.ref S.c, .str kd k1] ((S.dc, dictC w S lv) :: (S.dr, dictR w S i u) :: rest) (fun v n' => v = .bool ((rem.headD .fin).at kd none) ∧ n' = ((S.dc, dictC w S lv) :: (S.dr, dictR w S i u) :: rest)) False := by
  have C' := C
  obtain ⟨mc, mr, ml, hv, he, d1, d2, d3, sz⟩ := C'
  unfold CSpec; intro mean mg mb dp un gd cn cs a ccd outer A₀ base h₀ L m s Q E B F X N T hk hd' hu hret her; refine wpAny_call ?_; k_dflt ktr_enter
  k_steps
  · exact hret _ _ _ _ ⟨congrArg _ (at_n (by assumption)), rfl⟩ (by assumption) (by assumption)
  · exact hret _ _ _ _ ⟨congrArg _ (at_f (by assumption)), rfl⟩ (by assumption) (by assumption)
theorem is_at2 {w : World} {S : Cu} {rest : List (Addr × Obj)} {toks : List W} {lv : Value} {i : Int} {u : Tok} {rem : List W} {kd : Str} {k1 : Tok} (C : CuIn w S rest toks) (hA : At toks i rem) :
    CSpec w 12 127 [.ref S.c, .str kd k1, .none] ((S.dc, dictC w S lv) :: (S.dr, dictR w S i u) :: rest) (fun v n' => v = .bool ((rem.headD .fin).at kd none) ∧ n' = ((S.dc, dictC w S lv) :: (S.dr, dictR w S i u) :: rest)) False := by
  have C' := C
  obtain ⟨mc, mr, ml, hv, he, d1, d2, d3, sz⟩ := C'
  unfold CSpec; intro mean mg mb dp un gd cn cs a ccd outer A₀ base h₀ L m s Q E B F X N T hk hd' hu hret her; refine wpAny_call ?_; k_dflt ktr_enter
  k_steps
  · exact hret _ _ _ _ ⟨congrArg _ (at_n (by assumption)), rfl⟩ (by assumption) (by assumption)
  · exact hret _ _ _ _ ⟨congrArg _ (at_f (by assumption)), rfl⟩ (by assumption) (by assumption)
theorem is_at_use {w : World} {S : Cu} {pre rest : List (Addr × Obj)} {toks : List W} {lv : Value} {i : Int} {u : Tok} {rem : List W} {kd tx : Str} {k1 k2 : Tok}
    {mean : ExcName → Option Value} {mg mb : Str → Option Value} {dp un : Nat} {gd : Option (List Code)} {cn : Str} {cs : Scope} {a : Addr} {ccd : Value} {outer : List Env} {A₀ : Around} {base h₀ : Heap} {L : Addr} {m : Str → Option Value} {s : Shared} {Q E : Value → Shared → Prop} (B : Below A₀ base outer h₀) (F : Fr h₀ L s.heap m) (X : (ax.heap_1_39 w.params).In h₀) (N : News h₀ L s.heap (pre ++ ((S.dc, dictC w S lv) :: (S.dr, dictR w S i u) :: rest))) (T : Top ax.view_1_40 LS mean mg mb h₀) (hk : cs.kind = .function) (h1 : dp + 12 < recursionLimit) (h2 : un + 8 * 12 < cLine)
    (C : CuIn w S rest toks) (hA : At toks i rem) (hp : ∀ q ∈ pre, @Ne Nat q.1 S.dc ∧ @Ne Nat q.1 S.dr)
    (okT : (rem.headD .fin).at kd (some tx) = true → ∀ h' tk', Fr h₀ L h' m → News h₀ L h' (pre ++ ((S.dc, dictC w S lv) :: (S.dr, dictR w S i u) :: rest)) → Q (.bool true) { s with heap := h', toks := tk' })
    (okF : (rem.headD .fin).at kd (some tx) = false → ∀ h' tk', Fr h₀ L h' m → News h₀ L h' (pre ++ ((S.dc, dictC w S lv) :: (S.dr, dictR w S i u) :: rest)) → Q (.bool false) { s with heap := h', toks := tk' }) :
    wpAny (model PG w) (atop dp un gd cn cs L a ccd outer) (call (.ref 127) [.ref S.c, .str kd k1, .str tx k2]) Q E s :=
  (is_at (C.add hp) hA).use B F X (news_to N) T hk h1 h2 (fun v n' h' tk' o F' N' => by
    obtain ⟨rfl, rfl⟩ := o
    cases hc : (rem.headD .fin).at kd (some tx) with
    | true => exact okT hc _ _ F' (news_back N')
    | false => exact okF hc _ _ F' (news_back N')) (fun h => h.elim)
theorem wd_f_5 : True := by
  k_with "call ref" => (k_here; k_dflt ((first | (refine' is_at_use (pre := []) ?_ ?_ ?_ ?_ ?_ ?_ ?_ ?_ ?_ ?_ ?_ ?_ ?_; k_extra "hk cell_call") | (refine' is_at_use (pre := [_]) ?_ ?_ ?_ ?_ ?_ ?_ ?_ ?_ ?_ ?_ ?_ ?_ ?_; k_extra "hk cell_call") | (refine' is_at_use (pre := [_, _]) ?_ ?_ ?_ ?_ ?_ ?_ ?_ ?_ ?_ ?_ ?_ ?_ ?_; k_extra "hk cell_call")); k_extra "hk kas_types"); all_goals (k_whole; k_extra "hk kpt_turns"; intro _ _ _ _ _; k_extra "hk kst_p2"))
  trivial

theorem is_at0_use {w : World} {S : Cu} {pre rest : List (Addr × Obj)} {toks : List W} {lv : Value} {i : Int} {u : Tok} {rem : List W} {kd : Str} {k1 : Tok}
    {mean : ExcName → Option Value} {mg mb : Str → Option Value} {dp un : Nat} {gd : Option (List Code)} {cn : Str} {cs : Scope} {a : Addr} {ccd : Value} {outer : List Env} {A₀ : Around} {base h₀ : Heap} {L : Addr} {m : Str → Option Value} {s : Shared} {Q E : Value → Shared → Prop} (B : Below A₀ base outer h₀) (F : Fr h₀ L s.heap m) (X : (ax.heap_1_39 w.params).In h₀) (N : News h₀ L s.heap (pre ++ ((S.dc, dictC w S lv) :: (S.dr, dictR w S i u) :: rest))) (T : Top ax.view_1_40 LS mean mg mb h₀) (hk : cs.kind = .function) (h1 : dp + 12 < recursionLimit) (h2 : un + 8 * 12 < cLine)
    (C : CuIn w S rest toks) (hA : At toks i rem) (hp : ∀ q ∈ pre, @Ne Nat q.1 S.dc ∧ @Ne Nat q.1 S.dr)
    (okT : (rem.headD .fin).at kd none = true → ∀ h' tk', Fr h₀ L h' m → News h₀ L h' (pre ++ ((S.dc, dictC w S lv) :: (S.dr, dictR w S i u) :: rest)) → Q (.bool true) { s with heap := h', toks := tk' })
    (okF : (rem.headD .fin).at kd none = false → ∀ h' tk', Fr h₀ L h' m → News h₀ L h' (pre ++ ((S.dc, dictC w S lv) :: (S.dr, dictR w S i u) :: rest)) → Q (.bool false) { s with heap := h', toks := tk' }) :
    wpAny (model PG w) (atop dp un gd cn cs L a ccd outer) (call (.ref 127) [.ref S.c, .str kd k1]) Q E s :=
  (is_at0 (C.add hp) hA).use B F X (news_to N) T hk h1 h2 (fun v n' h' tk' o F' N' => by
    obtain ⟨rfl, rfl⟩ := o
    cases hc : (rem.headD .fin).at kd none with
    | true => exact okT hc _ _ F' (news_back N')
    | false => exact okF hc _ _ F' (news_back N')) (fun h => h.elim)
theorem wd_f_6 : True := by
  k_with "call ref" => (k_here; k_dflt ((first | (refine' is_at0_use (pre := []) ?_ ?_ ?_ ?_ ?_ ?_ ?_ ?_ ?_ ?_ ?_ ?_ ?_; k_extra "hk cell_call") | (refine' is_at0_use (pre := [_]) ?_ ?_ ?_ ?_ ?_ ?_ ?_ ?_ ?_ ?_ ?_ ?_ ?_; k_extra "hk cell_call") | (refine' is_at0_use (pre := [_, _]) ?_ ?_ ?_ ?_ ?_ ?_ ?_ ?_ ?_ ?_ ?_ ?_ ?_; k_extra "hk cell_call")); k_extra "hk kas_types"); all_goals (k_whole; k_extra "hk kpt_turns"; intro _ _ _ _ _; k_extra "hk kst_p2"))
  trivial

theorem is_at2_use {w : World} {S : Cu} {pre rest : List (Addr × Obj)} {toks : List W} {lv : Value} {i : Int} {u : Tok} {rem : List W} {kd : Str} {k1 : Tok}
    {mean : ExcName → Option Value} {mg mb : Str → Option Value} {dp un : Nat} {gd : Option (List Code)} {cn : Str} {cs : Scope} {a : Addr} {ccd : Value} {outer : List Env} {A₀ : Around} {base h₀ : Heap} {L : Addr} {m : Str → Option Value} {s : Shared} {Q E : Value → Shared → Prop} (B : Below A₀ base outer h₀) (F : Fr h₀ L s.heap m) (X : (ax.heap_1_39 w.params).In h₀) (N : News h₀ L s.heap (pre ++ ((S.dc, dictC w S lv) :: (S.dr, dictR w S i u) :: rest))) (T : Top ax.view_1_40 LS mean mg mb h₀) (hk : cs.kind = .function) (h1 : dp + 12 < recursionLimit) (h2 : un + 8 * 12 < cLine)
    (C : CuIn w S rest toks) (hA : At toks i rem) (hp : ∀ q ∈ pre, @Ne Nat q.1 S.dc ∧ @Ne Nat q.1 S.dr)
    (okT : (rem.headD .fin).at kd none = true → ∀ h' tk', Fr h₀ L h' m → News h₀ L h' (pre ++ ((S.dc, dictC w S lv) :: (S.dr, dictR w S i u) :: rest)) → Q (.bool true) { s with heap := h', toks := tk' })
    (okF : (rem.headD .fin).at kd none = false → ∀ h' tk', Fr h₀ L h' m → News h₀ L h' (pre ++ ((S.dc, dictC w S lv) :: (S.dr, dictR w S i u) :: rest)) → Q (.bool false) { s with heap := h', toks := tk' }) :
    wpAny (model PG w) (atop dp un gd cn cs L a ccd outer) (call (.ref 127) [.ref S.c, .str kd k1, .none]) Q E s :=
  (is_at2 (C.add hp) hA).use B F X (news_to N) T hk h1 h2 (fun v n' h' tk' o F' N' => by
    obtain ⟨rfl, rfl⟩ := o
    cases hc : (rem.headD .fin).at kd none with
    | true => exact okT hc _ _ F' (news_back N')
    | false => exact okF hc _ _ F' (news_back N')) (fun h => h.elim)
theorem wd_f_7 : True := by
  k_with "call ref" => (k_here; k_dflt ((first | (refine' is_at2_use (pre := []) ?_ ?_ ?_ ?_ ?_ ?_ ?_ ?_ ?_ ?_ ?_ ?_ ?_; k_extra "hk cell_call") | (refine' is_at2_use (pre := [_]) ?_ ?_ ?_ ?_ ?_ ?_ ?_ ?_ ?_ ?_ ?_ ?_ ?_; k_extra "hk cell_call") | (refine' is_at2_use (pre := [_, _]) ?_ ?_ ?_ ?_ ?_ ?_ ?_ ?_ ?_ ?_ ?_ ?_ ?_; k_extra "hk cell_call")); k_extra "hk kas_types"); all_goals (k_whole; k_extra "hk kpt_turns"; intro _ _ _ _ _; k_extra "hk kst_p2"))
  trivial



/-- an own exception: its record and its dict -/
abbrev excO (C t : Addr) (d : Option Addr) : Obj := { cls := .ref C, dict := d, data := .fields #[.ref t, .none, .none, .none, .bool false, .none] }
section
variable {prog : Program} {w : World} {A : Around} {R : Result → Shared → Prop} {E : Value → Shared → Prop} {h : Heap} {g : Array GenState} {d : Drawn} {t : Nat} {os : OsState}
variable {nm q : Str} {C N : Addr} {bs bm bmB : List Value} {hdct : Bool} {sn : List Str} {sub : List Value} {ab : Bool} {col : Option Bool} {dd : Option Addr} {k0 k1 k2 k3 k5 : Option Value} {B newId initId : String}
theorem own_check_new (F : ExcBaseFacts B newId initId bmB) {M : Model} {rest : List Value} {Q : Unit → Shared → Prop} (hC : h.get? C = some (excClassObj nm q C N bs bm hdct sn sub ab col dd k0 k1 k2 k3 k5 newId))
    (cB : bm.contains (.type B) = true) (hq : Q () ⟨h, g, d, t, os⟩) : wpAny M A (checkBuiltinCall newId ⟨.ref C :: rest, []⟩) Q E ⟨h, g, d, t, os⟩ := by
  have c1 : (Value.ref C :: bm).contains (.type B) = true := by rw [List.contains_cons, cB, Bool.or_true]
  have st := F.noStar
  simp only [checkBuiltinCall, F.newKind, F.newSplit, F.newRow]
  repeat (first | refine wpAny_loadPart_at hC ?_ | (refine wpAny_isSubtype_exc hC ?_; rw [c1]) | refine wpAny_staticBase_exc hC ?_ | refine wpAny_madeBy_exc hC ?_ | simp only [bne_self_eq_false, Bool.false_eq_true, if_false] | wp_step)
  exact hq
theorem own_new (F : ExcBaseFacts B newId initId bmB) {rest : List Value} (hC : h.get? C = some (excClassObj nm q C N bs bm hdct sn sub ab col dd k0 k1 k2 k3 k5 newId))
    (cB : bm.contains (.type B) = true) (cA : bm.contains (.type "AttributeError") = false) (cN : bm.contains (.type "NameError") = false)
    (hq : R (.ok (.ret (.ref (h.objs.size + 1)))) ⟨(h.push (tupO rest 0)).push (excO C h.objs.size none), g, d, t, os⟩) (hrest : rest.length ≤ sizeLine) :
    codeAny (model prog w) A (.builtin newId ⟨.ref C :: rest, []⟩) R ⟨h, g, d, t, os⟩ := by
  have hends := F.ends
  have c1 : (Value.ref C :: bm).contains (.type B) = true := by rw [List.contains_cons, cB, Bool.or_true]
  have c2 : (Value.ref C :: bm).contains (.type "AttributeError") = false := by rw [List.contains_cons, cA]; rfl
  have c3 : (Value.ref C :: bm).contains (.type "NameError") = false := by rw [List.contains_cons, cN]; rfl
  refine codeAny_builtinAt F.entry ?_
  unfold Builtin.«BaseException.__new__»
  refine PySem.wpAt_bind ?_
  show PySem.wpAt _ _ _ (stack >>= _) _ _ _
  refine PySem.wpAt_bind (PySem.wpAt_stack fun p below => PySem.wpAt_of_wpAny ?_)
  wp_walk
  refine PySem.wpAt_of_wpAny ?_
  rw [F.owner]
  repeat (first | with_reducible refine wpAny_madeHere_exc F.canon hC ?_ | with_reducible refine wpAny_loadPart_at hC ?_ | (with_reducible refine wpAny_isSubtype_exc hC ?_; first | rw [c1] | rw [c2] | rw [c3]) | wp_step)
  show R _ _
  rw [Heap.size_push]
  exact hq
end
section
variable {prog : Program} {w : World} {A : Around} {R : Result → Shared → Prop} {E : Value → Shared → Prop} {h : Heap} {g : Array GenState} {d : Drawn} {t : Nat} {os : OsState} {a1 a2 : Value}
theorem own_make (X : (ax.heap_1_39 w.params).In h)
    (hq : codeAny (model prog w) (A.under (.builtin "type.__call__" ⟨.ref 52 :: [a1, a2], []⟩)) (.call (.ref 36) ⟨[.ref (h.objs.size + 1), a1, a2], []⟩) (InitBack (h.objs.size + 1) R) ⟨(h.push (tupO [a1, a2] 0)).push (excO 52 h.objs.size none), g, d, t, os⟩) :
    codeAny (model prog w) A (.call (.ref 52) ⟨[a1, a2], []⟩) R ⟨h, g, d, t, os⟩ := by
  have F := PySem.F.excBase_Exception
  have hC : h.get? 52 = some _ := X _ _ (by k_is)
  refine codeAny_of_tree ?_
  show wpAny _ _ (callAny (.ref 52) _) _ _ _
  have sp : Looks (model prog w) h (specialOf (.ref 52) "__call__") (some (.builtin "type.__call__")) := looks_specialIn X (by k_is)
  refine nd_load hC ?_
  show wpAny _ _ (callAny.viaDunder (.ref 52) _) _ _ _
  unfold callAny.viaDunder
  refine wpAny_bind (sp.at ?_)
  dsimp only
  rw [tc_bind]
  refine wpAny_bind (wpAny_pure (wpAny_bind (wpAny_pure ?_)))
  refine wpAny_pure (a := Fin.again (.call (.builtin "type.__call__") ⟨.ref 52 :: [a1, a2], []⟩)) (And.intro rfl ?_)
  have typ : Looks (model prog w) h (isInstance (.ref 52) (.type "type")) true := looks_instIn X (by k_is)
  refine codeAny_call_builtin_at (Code.quiet_builtin _ (by decide +kernel)) entry_typeCall (check_slot tc_kind tc_split typ (tc_args _ _ _) ?_)
  unfold Builtin.«type.__call__»
  have hm : Looks (model prog w) h (mroOf (.ref 52)) [.ref 52, .ref 39, .type "Exception", .type "BaseException", .type "object"] := ((Looks.ld (part := none) hC).andThen .now).andThen .now
  have made : Looks (model prog w) h (Bind.madeBy (.ref 52)) (some "Exception.__new__") := Looks.of_peek X (by kernel_rfl)
  repeat (first | with_reducible refine wpAny_call ?_ | lk)
  refine codeAny_call_builtin_code (Code.quiet_builtin _ F.quiet) (own_check_new F hC (by decide) ?_)
  refine own_new F hC (by decide) (by decide) (by decide) ?_ (by show 2 ≤ sizeLine; decide)
  have k : ∀ b o, h.get? b = some o → ((h.push (tupO [a1, a2] 0)).push (excO 52 h.objs.size none)).get? b = some o := fun b o e => Heap.get?_push_of_some _ (Heap.get?_push_of_some _ e)
  have hx : ((h.push (tupO [a1, a2] 0)).push (excO 52 h.objs.size none)).get? (h.objs.size + 1) = some (excO 52 h.objs.size none) := by heap_get
  have X1 := X.keeps k
  have t1 : Looks (model prog w) ((h.push (tupO [a1, a2] 0)).push (excO 52 h.objs.size none)) (typeOf (.ref (h.objs.size + 1))) (.ref 52) := (Looks.ld hx).andThen .now
  have s1 : Looks (model prog w) ((h.push (tupO [a1, a2] 0)).push (excO 52 h.objs.size none)) (isSubtype (.ref 52) (.ref 52)) true := looks_subIn X1 (by k_is)
  have i1 : Looks (model prog w) ((h.push (tupO [a1, a2] 0)).push (excO 52 h.objs.size none)) (typeLookup (.ref 52) "__init__") (some (.ref 36)) := looks_findIn X1 (by k_is)
  have b1 : Looks (model prog w) ((h.push (tupO [a1, a2] 0)).push (excO 52 h.objs.size none)) (bindSpecial (.ref 36) (.ref (h.objs.size + 1))) (.ref 36, [.ref (h.objs.size + 1)]) := bind_fn X1 _ (by k_is)
  dsimp only
  unfold isInstance callSpecial? specialOf
  repeat (first | with_reducible refine wpAny_call ?_ | lk)
  refine codeAny_mono hq fun r s' z => ?_
  rcases r with e | (v | _ | _ | _) <;> first | exact z | exact z.elim | skip
  obtain ⟨rfl, z⟩ := z
  exact wpAny_pure (wpAny_pure z)
end
/-- what is raised is a ReadError, made -/
def RaisableO (w : World) (E : Value → Shared → Prop) (v : Value) (s₁ : Shared) : Prop :=
  ∃ a t dd, v = .ref a ∧ (ax.heap_1_39 w.params).In s₁.heap ∧ s₁.heap.get? a = some (excO 52 t dd) ∧ E (.ref a) s₁
theorem raise_O {prog : Program} {w : World} {A : Around} {E : Value → Shared → Prop} {s : Shared} {env : Env} {e : Expr} {pos : Pos} {Q : Flow → Shared → Prop} (hh : A.handled = none)
    (h : wpAny (model prog w) A (eval e env) (RaisableO w E) E s) : wpAny (model prog w) A (exec (.Raise (some e) none pos) env) Q E s := by
  show wpAny (model prog w) A (do standAt pos; raiseStmt env (some (do let v ← eval e env; standAt pos; pure v)) none) Q E s
  refine wpAny_bind (wpAny_standAt ?_)
  unfold raiseStmt
  dsimp only
  refine wpAny_bind (wpAny_bind (wpAny_mono h (fun v s₁ h₁ => wpAny_bind (wpAny_standAt (wpAny_pure ?_))) fun _ _ x => x))
  obtain ⟨a, t, dd, rfl, X, ha, hE⟩ := h₁
  obtain ⟨hp, g, d, tk, os⟩ := s₁
  have t1 : Looks (model prog w) hp (typeOf (.ref a)) (.ref 52) := (Looks.ld ha).andThen .now
  have sub : Looks (model prog w) hp (isSubtype (.ref 52) (.type "BaseException")) true := looks_subIn X (by k_is)
  have ity : Looks (model prog w) hp (isType (.ref a)) false := (Looks.ld ha).andThen .now
  have t2 : Looks (model prog w) hp (typeOf (.ref 52)) (.type "type") := looks_typeIn X (by k_is)
  unfold excFromValue isExcClass isInstance raisedInstance setFlight
  repeat lk
  refine wpAny_handled ?_
  rw [hh]
  exact wpAny_throw hE
theorem exc_K {prog : Program} {w : World} {A : Around} {E : Value → Shared → Prop} {s : Shared} {h₀ : Heap} {L : Addr} {m : Str → Option Value} {news : List (Addr × Obj)} {Q : Value → Shared → Prop} {a1 a2 : Value}
    (F : Fr h₀ L s.heap m) (X : (ax.heap_1_39 w.params).In h₀) (N : News h₀ L s.heap news)
    (h : ∀ e t h', Fr h₀ L h' m → News h₀ L h' ((e, excO 52 t none) :: (t, tupO [a1, a2] 0) :: news) → (∀ p ∈ news, p.1 < t) → t < e → (∀ p ∈ news, p.1 < e) →
      codeAny (model prog w) (A.under (.builtin "type.__call__" ⟨.ref 52 :: [a1, a2], []⟩)) (.call (.ref 36) ⟨[.ref e, a1, a2], []⟩) (InitBack e fun r s' => match r with | .ok (.ret v) => Q v s' | .ok _ => False | .error e => E e s') { s with heap := h' }) :
    wpAny (model prog w) A (call (.ref 52) [a1, a2]) Q E s := by
  obtain ⟨hh, g, d, t, os⟩ := s
  refine wpAny_call (own_make (X.keeps F.keep) (h _ hh.objs.size _ ((F.push _).push _) ?_ (fun p hp => Heap.lt_size (N p hp).1) (Nat.lt_succ_self _) (fun p hp => Nat.lt_succ_of_lt (Heap.lt_size (N p hp).1))))
  have := (N.push F (tupO [a1, a2] 0)).push (F.push _) (excO 52 hh.objs.size none)
  rwa [Heap.size_push] at this

theorem wd_f_8 : True := by
  k_with "exec Raise some none" => (k_here; k_dflt (refine' raise_O ?k1Z9 ?_; (case k1Z9 => exact rfl); k_whole))
  k_with "call ref" => (k_here; k_dflt (refine' exc_K ?k1Z9 ?k2Z9 ?k3Z9 ?_; (case k1Z9 => k_asm); (case k2Z9 => k_asm); (case k3Z9 => k_asm); k_whole; intro _ _ _ _ _ l1 l2 l3; (try k_lt l1); (try k_lt2 l2); (try k_lt l3); (try (revert l1 l2 l3; intro _ _ _)); (try k_sweep); ktr_enter))
  trivial


theorem exc_refuse (self : Value) : refuseLoop self "__setattr__" [.ref 52, .ref 39, .type "Exception", .type "BaseException", .type "object"] = pure () := by
  rw [refuseLoop_ref, refuseLoop_ref]; kernel_rfl
theorem exc_osa {prog : Program} {w : World} {A : Around} {R : Result → Shared → Prop} {s : Shared} {e : Addr} {ox : Obj} {od : Option Obj} {name : Str} {tk : Tok} {v : Value} (X : (ax.heap_1_39 w.params).In s.heap) (I : PySem.W.InstAt s.heap e ox 52 od)
    (hn : findIn (ax.heap_1_39 w.params) (.ref 52) name = some none)
    (h : wpAny (model prog w) A.in1 (Builtin.ObjectAttr.storeInOwnDict (.ref e) (.ref 52) (.str name tk) name v false)
      (fun fin s' => match fin with | .done f => R (.ok f) s' | .again c' => c'.quiet = true ∧ codeAny (model prog w) A c' R s') (fun e s' => R (.error e) s') s) :
    codeAny (model prog w) A (.call (.builtin "object.__setattr__") ⟨[.ref e, .str name tk, v], []⟩) R s := by
  have SF := PySem.F.store_object
  have hC : s.heap.get? 52 = some _ := X _ _ (by k_is)
  have sub : Looks (model prog w) s.heap (isInstance (.ref e) (.type "object")) true := I.type.andThen (looks_subIn X (by k_is))
  refine codeAny_call_builtin SF.slot.plain SF.entry (@check_slot (model prog w) _ _ s "object.__setattr__" "object" "__setattr__" (.ref e) [.str name tk, v] [] _ SF.kind SF.split sub (SF.args (.ref e) (.str name tk) v) ?_)
  have hm : Looks (model prog w) s.heap (mroOf (.ref 52)) [.ref 52, .ref 39, .type "Exception", .type "BaseException", .type "object"] := ((Looks.ld (part := none) hC).andThen .now).andThen .now
  have L3 : Looks (model prog w) s.heap (Builtin.ObjectAttr.storeTaker? none) none := .now
  rw [osa_eq, refuse_eq]
  refine wpAny_bind (wpAny_bind (I.type.here (wpAny_bind (hm.here ?_))))
  rw [exc_refuse]
  exact wpAny_pure (wpAny_bind (I.type.here (wpAny_bind ((looks_findIn X hn).here (wpAny_bind (L3.here h))))))

theorem exc_set {prog : Program} {w : World} {A : Around} {E : Value → Shared → Prop} {s : Shared} {e : Addr} {ox : Obj} {od : Option Obj} {name : Str} {v : Value} {Q : Unit → Shared → Prop} (X : (ax.heap_1_39 w.params).In s.heap) (I : PySem.W.InstAt s.heap e ox 52 od)
    (hn : findIn (ax.heap_1_39 w.params) (.ref 52) name = some none)
    (h : ∀ A', wpAny (model prog w) A' (Builtin.ObjectAttr.storeInOwnDict (.ref e) (.ref 52) (.str name s.toks) name v false)
      (fun fin s' => match fin with | .done (.ret _) => Q () s' | _ => False) E { s with toks := s.toks + 1 }) :
    wpAny (model prog w) A (setAttr (.ref e) name v) Q E s := by
  refine set_plain X I (by k_is) (exc_osa (s := { s with toks := s.toks + 1 }) X I hn (wpAny_mono (h _) (fun fin s' z => ?_) fun _ _ z => z))
  rcases fin with f | c
  · cases f <;> first | exact z | exact z.elim
  · exact z.elim
theorem store_known {prog : Program} {w : World} {A : Around} {E : Value → Shared → Prop} {s : Shared} {h₀ : Heap} {L dx : Addr} {m : Str → Option Value} {pre post : List (Addr × Obj)} {es es' : List DictEntry} {n n' : Nat} {name : Str} {tk : Tok} {v : Value} {Q : PySem.Fin → Shared → Prop}
    (F : Fr h₀ L s.heap m) (N : News h₀ L s.heap (pre ++ (dx, dictOf es n) :: post)) (hl : (getL name es).isSome = true)
    (e : (putL name (PyData.keyHash w.params name) (.str name s.toks) v es, putN name es n) = (es', n')) (h1 : ∀ p ∈ pre, p.1 ≠ dx) (h2 : ∀ p ∈ post, p.1 ≠ dx) (hz : es'.length ≤ 1000)
    (h : ∀ h', Fr h₀ L h' m → News h₀ L h' (pre ++ (dx, dictOf es' n') :: post) → Q (.done (.ret .none)) { s with heap := h', toks := s.toks + 1 }) :
    wpAny (model prog w) A (Builtin.ObjectAttr.storeInDict dx (.str name tk) name v) Q E s := by
  obtain ⟨e1, e2⟩ := Prod.mk.inj e
  obtain ⟨U1, U2⟩ := news_upd (f := Obj.putName name (PyData.keyHash w.params name) (.str name s.toks) v) F N h1 h2 (by rw [putName_dict, e1, e2]) rfl
  have D := (N (dx, dictOf es n) (by simp)).1
  have D' := (U2 (dx, dictOf es' n') (by simp)).1
  unfold Builtin.ObjectAttr.storeInDict
  refine wpAny_bind (wpAny_pure (wpAny_bind ?_))
  unfold nsSet
  refine wpAny_bind (wpAny_bind (wpAny_askSetting (wpAny_pure (wpAny_bind (wpAny_mkText (wpAny_bind (wpAny_loadPart D ?_)))))))
  dsimp only
  have c : (!es.toArray.any (·.key.isStr name) && es.toArray.any (·.refKey)) = false := by
    rw [← Array.any_toList, ← Array.any_toList]
    unfold getL at hl
    split at hl
    · rename_i en he
      rw [List.any_eq_true.mpr ⟨en, List.mem_of_find?_eq_some he, List.find?_some he⟩]; rfl
    · split at hl
      · cases hl
      · rename_i z; rw [Bool.not_eq_true] at z; rw [z, Bool.and_false]
  rw [aRefKeyMayBeTheName_at, c]
  refine wpAny_updatePart D ?_
  refine wpAny_bind (wpAny_lookBehind D' (pastItsLine_dict (by rw [List.size_toArray, sizeLine_eq]; omega)) ?_)
  exact wpAny_pure (h _ U1 U2)
/-- the first store: a dict is made -/
theorem exc_set1 {prog : Program} {w : World} {A : Around} {E : Value → Shared → Prop} {s : Shared} {h₀ : Heap} {L e t : Addr} {m : Str → Option Value} {post : List (Addr × Obj)} {name : Str} {v : Value} {Q : Unit → Shared → Prop}
    (F : Fr h₀ L s.heap m) (X : (ax.heap_1_39 w.params).In h₀) (N : News h₀ L s.heap ((e, excO 52 t none) :: post)) (hp : ∀ p ∈ post, p.1 ≠ e)
    (hn : findIn (ax.heap_1_39 w.params) (.ref 52) name = some none)
    (h : ∀ d h' tk' k, Fr h₀ L h' m → News h₀ L h' ((d, dictOf [⟨PyData.keyHash w.params name, .str name k, v⟩] 1) :: (e, excO 52 t (some d)) :: post) → (∀ p ∈ (e, excO 52 t (some d)) :: post, p.1 < d) → Q () { s with heap := h', toks := tk' }) :
    wpAny (model prog w) A (setAttr (.ref e) name v) Q E s := by
  have he := (N _ (.head _)).1
  have I : PySem.W.InstAt s.heap e (excO 52 t none) 52 none := ⟨he, rfl, rfl, trivial⟩
  have X1 := X.keeps F.keep
  have hC : s.heap.get? 52 = some _ := X1 _ _ (by k_is)
  refine exc_set X1 I hn fun A' => ?_
  unfold Builtin.ObjectAttr.storeInOwnDict ownStreamTells Builtin.ObjectAttr.ownDictForStores instanceDict classData
  refine wpAny_bind (wpAny_pure ?_)
  dsimp only
  rw [if_neg (by decide)]
  refine wpAny_bind (wpAny_bind (wpAny_loadPart he ?_))
  dsimp only
  refine wpAny_bind (wpAny_bind (wpAny_load hC (wpAny_pure ?_)))
  rw [if_neg (by decide), if_neg (by decide)]
  have F1 := F.push emptyDict
  have N1 := N.push F emptyDict
  have he1 : (s.heap.push emptyDict).get? e = some (excO 52 t none) := (N1 _ (.tail _ (.head _))).1
  obtain ⟨F2, N2⟩ := news_upd (pre := [(s.heap.objs.size, emptyDict)]) (post := post) (o := excO 52 t none) (o' := excO 52 t (some s.heap.objs.size)) (f := fun o => { o with dict := some s.heap.objs.size }) F1 N1
    (fun p hp => by rw [List.mem_singleton.mp hp]; exact Nat.ne_of_gt (Heap.lt_size he)) hp rfl rfl
  refine wpAny_bind (wpAny_alloc (wpAny_bind (wpAny_update he1 (wpAny_pure ?_))))
  have lt : ∀ p ∈ (e, excO 52 t (some s.heap.objs.size)) :: post, p.1 < s.heap.objs.size := fun p hp => by
    rcases List.mem_cons.mp hp with rfl | hp
    · exact Heap.lt_size he
    · exact Heap.lt_size (N p (.tail _ hp)).1
  exact store_known (s := { s with heap := _, toks := s.toks + 1 }) (pre := []) F2 N2 rfl rfl (List.forall_mem_nil _) (fun p hp => Nat.ne_of_lt (lt p hp)) (Nat.le_of_ble_eq_true rfl) (fun h' F' N' => h _ h' _ _ F' N' lt)
/-- a later store -/
theorem exc_set2 {prog : Program} {w : World} {A : Around} {E : Value → Shared → Prop} {s : Shared} {h₀ : Heap} {L e t d : Addr} {m : Str → Option Value} {post : List (Addr × Obj)} {es es' : List DictEntry} {n n' : Nat} {name : Str} {v : Value} {Q : Unit → Shared → Prop}
    (F : Fr h₀ L s.heap m) (X : (ax.heap_1_39 w.params).In h₀) (N : News h₀ L s.heap ((d, dictOf es n) :: (e, excO 52 t (some d)) :: post)) (hp : ∀ p ∈ (e, excO 52 t (some d)) :: post, p.1 ≠ d)
    (hn : findIn (ax.heap_1_39 w.params) (.ref 52) name = some none) (hl : (getL name es).isSome = true)
    (hput : (putL name (PyData.keyHash w.params name) (.str name (s.toks + 1)) v es, putN name es n) = (es', n')) (hz : es'.length ≤ 1000)
    (h : ∀ h' tk', Fr h₀ L h' m → News h₀ L h' ((d, dictOf es' n') :: (e, excO 52 t (some d)) :: post) → Q () { s with heap := h', toks := tk' }) :
    wpAny (model prog w) A (setAttr (.ref e) name v) Q E s := by
  have he := (N _ (.tail _ (.head _))).1
  have hd := (N _ (.head _)).1
  have I : PySem.W.InstAt s.heap e (excO 52 t (some d)) 52 (some (dictOf es n)) := ⟨he, rfl, rfl, hd⟩
  have X1 := X.keeps F.keep
  have hC : s.heap.get? 52 = some _ := X1 _ _ (by k_is)
  refine exc_set X1 I hn fun A' => ?_
  unfold Builtin.ObjectAttr.storeInOwnDict ownStreamTells Builtin.ObjectAttr.ownDictForStores instanceDict classData
  refine wpAny_bind (wpAny_pure ?_)
  dsimp only
  rw [if_neg (by decide)]
  refine wpAny_bind (wpAny_bind (wpAny_loadPart he ?_))
  dsimp only
  refine wpAny_bind (wpAny_bind (wpAny_load hC (wpAny_pure ?_)))
  rw [if_neg (by decide)]
  refine wpAny_pure ?_
  exact store_known (s := { s with toks := s.toks + 1 }) (pre := []) F N hl hput (List.forall_mem_nil _) hp hz (fun h' F' N' => h h' _ F' N')


theorem own_check_init {M : Model} {A : Around} {E : Value → Shared → Prop} {nm q : Str} {C N : Addr} {bs bm bmB : List Value} {hdct : Bool} {sn : List Str} {sub : List Value} {ab : Bool} {col : Option Bool} {dd : Option Addr} {k0 k1 k2 k3 k5 : Option Value} {B newId initId : String}
    (F : ExcBaseFacts B newId initId bmB) (cB : bm.contains (.type B) = true) {h : Heap} {g : Array GenState} {d : Drawn} {t : Nat} {os : OsState} {e : Addr} {oe : Obj} {rest : List Value} {Q : Unit → Shared → Prop}
    (hC : h.get? C = some (excClassObj nm q C N bs bm hdct sn sub ab col dd k0 k1 k2 k3 k5 newId)) (he : h.get? e = some oe) (hcls : oe.cls = .ref C) (hq : Q () ⟨h, g, d, t, os⟩) :
    wpAny M A (checkBuiltinCall initId ⟨.ref e :: rest, []⟩) Q E ⟨h, g, d, t, os⟩ := by
  have c1 : (Value.ref C :: bm).contains (.type B) = true := by rw [List.contains_cons, cB, Bool.or_true]
  have hs := F.noStar
  simp only [checkBuiltinCall, F.initKind, F.initSplit, F.initRow]
  repeat (first | (with_reducible refine wpAny_loadPart_at he ?_; rw [hcls]) | with_reducible refine wpAny_loadPart_at hC ?_ | (with_reducible refine wpAny_isSubtype_exc hC ?_; rw [c1]) | wp_step)
  refine wpAny_onRaise ?_
  rw [show ∀ (a b : String) (n : Nat), Bind.check ⟨.positional, "*", B, .self, [⟨"args", .varPos, false⟩]⟩ a b n (List.map (fun x => x.fst) ({ pos := Value.ref e :: rest } : Args).kw) = pure () from
    fun a b n => check_star_args _ _ _ _ _ _]
  exact wpAny_pure hq
theorem exc_init {prog : Program} {w : World} {A : Around} {E : Value → Shared → Prop} {s : Shared} {h₀ : Heap} {L e t : Addr} {m : Str → Option Value} {post : List (Addr × Obj)} {v : Value} {Q : Value → Shared → Prop}
    (F : Fr h₀ L s.heap m) (X : (ax.heap_1_39 w.params).In h₀) (N : News h₀ L s.heap ((e, excO 52 t none) :: post)) (hp : ∀ p ∈ post, p.1 ≠ e)
    (h : ∀ t' h', Fr h₀ L h' m → News h₀ L h' ((e, excO 52 t' none) :: post) → Q .none { s with heap := h' }) :
    wpAny (model prog w) A (call (.builtin "Exception.__init__") [.ref e, v]) Q E s := by
  have G := PySem.F.excBase_Exception
  obtain ⟨hh, g, d, tk, os⟩ := s
  have he := (N _ (.head _)).1
  have X1 := X.keeps F.keep
  have hC : hh.get? 52 = some _ := X1 _ _ (by k_is)
  refine wpAny_call (codeAny_call_builtin G.init.plain G.initEntry (own_check_init G (by decide) hC he rfl ?_))
  have F1 := F.push (tupO [v] 0)
  have N1 := N.push F (tupO [v] 0)
  have he1 : (hh.push (tupO [v] 0)).get? e = some (excO 52 t none) := (N1 _ (.tail _ (.head _))).1
  obtain ⟨F2, N2⟩ := news_upd (pre := [(hh.objs.size, tupO [v] 0)]) (post := post) (o := excO 52 t none) (o' := excO 52 hh.objs.size none) (f := Obj.mapFields (·.setIfInBounds 0 (.ref hh.objs.size))) F1 N1
    (fun p hp => by rw [List.mem_singleton.mp hp]; exact Nat.ne_of_gt (Heap.lt_size he)) hp rfl rfl
  wp_walk
  exact h _ _ F2 (fun p hp => N2 p (.tail _ hp))

theorem wd_f_9 : True := by
  k_with "getMethod type:Exception" => (k_here; refine' method_type ?FZ9 ?XZ9 ?mZ9 (by decide +kernel) ?eZ9 ?hZ9 ?_; (case FZ9 => k_asm); (case XZ9 => k_asm); (case mZ9 => kernel_rfl); (case eZ9 => k_dflt k_is); (case hZ9 => k_handed))
  k_with "call builtin:Exception.__init__" => (k_here; k_dflt (refine' exc_init ?k1Z9 ?k2Z9 ?k3Z9 ?k4Z9 ?_; (case k1Z9 => k_asm); (case k2Z9 => k_asm); (case k3Z9 => k_asm); (case k4Z9 => k_all); k_whole); intro _ _ _ _; (try k_sweep))
  k_with "setAttr ref" => (k_here; k_dflt (first
      | (refine' exc_set1 ?k1Z9 ?k2Z9 ?k3Z9 ?k4Z9 ?k5Z9 ?_; (case k1Z9 => k_asm); (case k2Z9 => k_asm); (case k3Z9 => k_asm); (case k4Z9 => k_all); (case k5Z9 => k_is); k_whole; intro _ _ _ _ _ _ l1; (try k_lt l1); (try (revert l1; intro _)); (try k_sweep))
      | (refine' exc_set2 ?k1Z9 ?k2Z9 ?k3Z9 ?k4Z9 ?k5Z9 ?k6Z9 ?k7Z9 ?k8Z9 ?_; (case k1Z9 => k_asm); (case k2Z9 => k_asm); (case k3Z9 => k_asm); (case k4Z9 => k_all); (case k5Z9 => k_is); (case k6Z9 => k_get); (case k7Z9 => k_put); (case k8Z9 => exact Nat.le_of_ble_eq_true rfl); k_whole; intro _ _ _ _; (try k_sweep))))
  trivial


theorem leave_newO {M : Model} {A : Around} {E : Value → Shared → Prop} {s' : Shared} {base g : Heap} {outer : List Env} {L a e : Addr} {m : Str → Option Value} {name : Str} {scope : Scope} {cd : Value} {Q : Unit → Shared → Prop} {oe : Obj} {vs : Array Value} {cls a0 : Value}
    (K : Below A base outer g) (F : Fr g L s'.heap m) (he : s'.heap.get? e = some oe) (hge : g.get? e = none) (hLe : e ≠ L) (hcls : oe.cls = cls) (hd : oe.data = .fields vs) (h1 : vs[1]? = some .none) (h0 : vs[0]? = some a0)
    (hQ : ∀ h', RaisedSN base g outer e cls [] h' → g.UpToSlots h' → Q () { s' with heap := h' }) (hk : scope.kind = .function) :
    wpAny M (A.deeper (envOf name scope L a cd)) (leaving (envOf name scope L a cd) (.ref e)) Q E s' := by
  have K' := K.push (name := name) (a := a) (cd := cd) F hk
  have ne : ∀ b o, g.get? b = some o → b ≠ e := fun b o q z => by rw [z, hge] at q; cases q
  have nf : e ∉ (envOf name scope L a cd :: outer).filterMap (·.frame) := fun hm => by
    rcases kts_mem hm with z | z
    · exact hLe z
    · obtain ⟨o, ho, _⟩ := (K.frames.mem z).2
      exact ne _ _ ho rfl
  have hin : ∀ env ∈ (envOf name scope L a cd :: outer), ∀ b, env.frame = some b → b ∈ e :: (envOf name scope L a cd :: outer).filterMap (·.frame) := fun env he b hb => List.mem_cons_of_mem _ (List.mem_filterMap.mpr ⟨env, he, hb⟩)
  have st : base.StaysIn (hideAll s'.heap (e :: (envOf name scope L a cd :: outer).filterMap (·.frame))) := fun b o q => hideAll_get _ (K'.stays b o q) fun hm => by
    rcases List.mem_cons.mp hm with z | hm
    · exact ne b o (K.stays b o q) z
    · rw [(K'.frames.mem hm).1] at q; cases q
  have sg : ∀ b o, g.get? b = some o → b ∉ outer.filterMap (·.frame) → (hideAll s'.heap (e :: (envOf name scope L a cd :: outer).filterMap (·.frame))).get? b = some o := fun b o q nm => hideAll_get _ (F.keep b o q) fun hm => by
    rcases List.mem_cons.mp hm with z | hm
    · exact ne b o q z
    · rcases kts_mem hm with z | z
      · rw [z, kts_self F] at q
        cases q
      · exact nm z
  have hen : (hideAll s'.heap (e :: (envOf name scope L a cd :: outer).filterMap (·.frame))).get? e = none := hideAll_none _ (.head _)
  refine wpAny_leaving_firstW (a0 := a0) K'.stack (funFrames_hide K'.frames hin) rfl he (fun b o hb => of_hideAll _ hb) hen hd h1 h0 fun h' hL => ?_
  obtain ⟨k1, ⟨_, _, k2⟩, k3, k4⟩ := hL
  exact hQ h' ⟨_, a0, st, sg, List.forall_mem_nil _, k1, hen, k2, hcls ▸ k3⟩ ((Heap.UpToSlots.of_keeps F.keep).trans k4)


theorem take_ {w : World} {S : Cu} {rest : List (Addr × Obj)} {toks : List W} {lv : Value} {i : Int} {u : Tok} {rem : List W} {kd tx : Str} {k1 k2 : Tok} (C : CuIn w S rest toks) (hA : At toks i rem) :
    CSpec w 20 135 [.ref S.c, .str kd k1, .str tx k2] ((S.dc, dictC w S lv) :: (S.dr, dictR w S i u) :: rest) (fun v n' => v = .bool ((rem.headD .fin).at kd (some tx)) ∧ ∃ lv' i' u', n' = (S.dc, dictC w S lv') :: (S.dr, dictR w S i' u') :: rest ∧ At toks i' (if (rem.headD .fin).at kd (some tx) = true then rem.tail else rem)) False := by
  have C' := C
  obtain ⟨mc, mr, ml, hv, he, d1, d2, d3, sz⟩ := C'
  unfold CSpec; intro mean mg mb dp un gd cn cs a ccd outer A₀ base h₀ L m s Q E B F X N T hk hd' hu hret her; refine wpAny_call ?_; k_dflt ktr_enter
  k_steps
  · exact hret _ _ _ _ ⟨congrArg _ (by symm; assumption), _, _, _, rfl, by rw [if_pos (by assumption)]; assumption⟩ (by assumption) (by assumption)
  · exact hret _ _ _ _ ⟨congrArg _ (by symm; assumption), _, _, _, rfl, by rw [if_neg (Bool.eq_false_iff.mp (by assumption))]; assumption⟩ (by assumption) (by assumption)


theorem refuse_ {w : World} {S : Cu} {rest : List (Addr × Obj)} {toks : List W} {lv : Value} {i : Int} {u : Tok} {rem : List W} {ms : Str} {k1 : Tok} (C : CuIn w S rest toks) (hA : At toks i rem) (hl : ms.length ≤ 1000) :
    CSpec w 60 150 [.ref S.c, .str ms k1] ((S.dc, dictC w S lv) :: (S.dr, dictR w S i u) :: rest) (fun v n' => False) True := by
  have C' := C
  obtain ⟨mc, mr, ml, hv, he, d1, d2, d3, sz⟩ := C'
  have hx := W.tx_len (rem.headD .fin)
  unfold CSpec; intro mean mg mb dp un gd cn cs a ccd outer A₀ base h₀ L m s Q E B F X N T hk hd' hu hret her; refine wpAny_call ?_; k_dflt ktr_enter
  k_steps
  all_goals (
    rename_i kF kN Tc kX
    refine ⟨_, _, _, rfl, Frag.In.keeps (by assumption) kF.keep, (kN _ (.tail _ (.head _))).1, ?_⟩
    refine leave_newO (by assumption) kF (kN _ (.tail _ (.head _))).1 (kN _ (.tail _ (.head _))).2.2 (kN _ (.tail _ (.head _))).2.1 rfl rfl rfl rfl ?_ rfl
    intro h' R U
    exact her trivial _ _ _ _ R (by assumption) U)


theorem take_use {w : World} {S : Cu} {pre rest : List (Addr × Obj)} {toks : List W} {lv : Value} {i : Int} {u : Tok} {rem : List W} {kd tx : Str} {k1 k2 : Tok}
    {mean : ExcName → Option Value} {mg mb : Str → Option Value} {dp un : Nat} {gd : Option (List Code)} {cn : Str} {cs : Scope} {a : Addr} {ccd : Value} {outer : List Env} {A₀ : Around} {base h₀ : Heap} {L : Addr} {m : Str → Option Value} {s : Shared} {Q E : Value → Shared → Prop} (B : Below A₀ base outer h₀) (F : Fr h₀ L s.heap m) (X : (ax.heap_1_39 w.params).In h₀) (N : News h₀ L s.heap (pre ++ ((S.dc, dictC w S lv) :: (S.dr, dictR w S i u) :: rest))) (T : Top ax.view_1_40 LS mean mg mb h₀) (hk : cs.kind = .function) (h1 : dp + 20 < recursionLimit) (h2 : un + 8 * 20 < cLine)
    (C : CuIn w S rest toks) (hA : At toks i rem) (hp : ∀ q ∈ pre, @Ne Nat q.1 S.dc ∧ @Ne Nat q.1 S.dr)
    (okT : (rem.headD .fin).at kd (some tx) = true → ∀ lv' i' u' h' tk', At toks i' rem.tail → Fr h₀ L h' m → News h₀ L h' (pre ++ (S.dc, dictC w S lv') :: (S.dr, dictR w S i' u') :: rest) → Q (.bool true) { s with heap := h', toks := tk' })
    (okF : (rem.headD .fin).at kd (some tx) = false → ∀ lv' i' u' h' tk', At toks i' rem → Fr h₀ L h' m → News h₀ L h' (pre ++ (S.dc, dictC w S lv') :: (S.dr, dictR w S i' u') :: rest) → Q (.bool false) { s with heap := h', toks := tk' }) :
    wpAny (model PG w) (atop dp un gd cn cs L a ccd outer) (call (.ref 135) [.ref S.c, .str kd k1, .str tx k2]) Q E s :=
  (take_ (C.add hp) hA).use B F X (news_to N) T hk h1 h2 (fun v n' h' tk' o F' N' => by
    obtain ⟨rfl, lv', i', u', rfl, hA'⟩ := o
    cases hc : (rem.headD .fin).at kd (some tx) with
    | true => rw [hc, if_pos rfl] at hA'; exact okT hc _ _ _ _ _ hA' F' (news_back N')
    | false => rw [hc, if_neg Bool.false_ne_true] at hA'; exact okF hc _ _ _ _ _ hA' F' (news_back N')) (fun h => h.elim)
theorem refuse_use {w : World} {S : Cu} {pre rest : List (Addr × Obj)} {toks : List W} {lv : Value} {i : Int} {u : Tok} {rem : List W} {ms : Str} {k1 : Tok}
    {mean : ExcName → Option Value} {mg mb : Str → Option Value} {dp un : Nat} {gd : Option (List Code)} {cn : Str} {cs : Scope} {a : Addr} {ccd : Value} {outer : List Env} {A₀ : Around} {base h₀ : Heap} {L : Addr} {m : Str → Option Value} {s : Shared} {Q E : Value → Shared → Prop} (B : Below A₀ base outer h₀) (F : Fr h₀ L s.heap m) (X : (ax.heap_1_39 w.params).In h₀) (N : News h₀ L s.heap (pre ++ ((S.dc, dictC w S lv) :: (S.dr, dictR w S i u) :: rest))) (T : Top ax.view_1_40 LS mean mg mb h₀) (hk : cs.kind = .function) (h1 : dp + 60 < recursionLimit) (h2 : un + 8 * 60 < cLine)
    (C : CuIn w S rest toks) (hA : At toks i rem) (hp : ∀ q ∈ pre, @Ne Nat q.1 S.dc ∧ @Ne Nat q.1 S.dr) (hl : ms.length ≤ 1000)
    (er : ∀ e h' tk' g₂, RaisedSN base g₂ (envOf cn cs L a ccd :: outer) e (.ref 52) [] h' → Fr h₀ L g₂ m → g₂.UpToSlots h' → E (.ref e) { s with heap := h', toks := tk' }) :
    wpAny (model PG w) (atop dp un gd cn cs L a ccd outer) (call (.ref 150) [.ref S.c, .str ms k1]) Q E s :=
  (refuse_ (C.add hp) hA hl).use B F X (news_to N) T hk h1 h2 (fun v n' h' tk' o F' N' => o.elim) (fun _ => er)
theorem wd_f_10 : True := by
  k_with "call ref" => (k_here; k_dflt ((first | (refine' take_use (pre := []) ?_ ?_ ?_ ?_ ?_ ?_ ?_ ?_ ?_ ?_ ?_ ?_ ?_; k_extra "hk cell_call") | (refine' take_use (pre := [_]) ?_ ?_ ?_ ?_ ?_ ?_ ?_ ?_ ?_ ?_ ?_ ?_ ?_; k_extra "hk cell_call") | (refine' take_use (pre := [_, _]) ?_ ?_ ?_ ?_ ?_ ?_ ?_ ?_ ?_ ?_ ?_ ?_ ?_; k_extra "hk cell_call")); k_extra "hk kas_types"); all_goals (k_whole; k_extra "hk kpt_turns"; intro _ _ _ _ _ _ _ _ _; k_extra "hk kst_p2"))
  k_with "call ref" => (k_here; k_dflt ((first | (refine' refuse_use (pre := []) ?_ ?_ ?_ ?_ ?_ ?_ ?_ ?_ ?_ ?_ ?_ ?kCZ9 ?_; k_extra "hk cell_call") | (refine' refuse_use (pre := [_]) ?_ ?_ ?_ ?_ ?_ ?_ ?_ ?_ ?_ ?_ ?_ ?kCZ9 ?_; k_extra "hk cell_call") | (refine' refuse_use (pre := [_, _]) ?_ ?_ ?_ ?_ ?_ ?_ ?_ ?_ ?_ ?_ ?_ ?kCZ9 ?_; k_extra "hk cell_call")); k_extra "hk kas_types"; (case kCZ9 => first | assumption | (simp only [Str.length_append]; omega) | decide +kernel | (simp only [Str.length_append, show (Str.ofString " is missing").length = 11 from by decide +kernel]; omega))); k_whole; k_extra "hk kpt_turns"; intro _ _ _ _ _ _ _; k_extra "hk kst_p2")
  k_with "leaving ref" => (k_here; k_dflt (refine' leave_onSN ?k1Z9 ?k2Z9 ?k3Z9 ?k4Z9 ?_; (case k3Z9 => assumption); (case k1Z9 => assumption); (case k2Z9 => assumption); (case k4Z9 => assumption); k_whole); intro _ R' R2' U'; clear R2'; (try dsimp only at R' U' ⊢); revert R' U'; intro _ _)
  trivial

theorem want_ {w : World} {S : Cu} {rest : List (Addr × Obj)} {toks : List W} {lv : Value} {i : Int} {u : Tok} {rem : List W} {kd tx : Str} {k1 k2 : Tok} (C : CuIn w S rest toks) (hA : At toks i rem) (hl : tx.length ≤ 100) :
    CSpec w 70 143 [.ref S.c, .str kd k1, .str tx k2] ((S.dc, dictC w S lv) :: (S.dr, dictR w S i u) :: rest) (fun v n' => v = wordAt S i ∧ (rem.headD .fin).at kd (some tx) = true ∧ ∃ lv' i' u', n' = (S.dc, dictC w S lv') :: (S.dr, dictR w S i' u') :: rest ∧ At toks i' rem.tail) ((rem.headD .fin).at kd (some tx) = false) := by
  have C' := C
  obtain ⟨mc, mr, ml, hv, he, d1, d2, d3, sz⟩ := C'
  unfold CSpec; intro mean mg mb dp un gd cn cs a ccd outer A₀ base h₀ L m s Q E B F X N T hk hd' hu hret her; refine wpAny_call ?_; k_dflt ktr_enter
  k_steps
  · exact hret _ _ _ _ ⟨by symm; assumption, by assumption, _, _, _, rfl, by assumption⟩ (by assumption) (by assumption)
  · exact her (by assumption) _ _ _ _ (by assumption) (by assumption) (by assumption)
theorem want__use {w : World} {S : Cu} {pre rest : List (Addr × Obj)} {toks : List W} {lv : Value} {i : Int} {u : Tok} {rem : List W} {kd tx : Str} {k1 k2 : Tok}
    {mean : ExcName → Option Value} {mg mb : Str → Option Value} {dp un : Nat} {gd : Option (List Code)} {cn : Str} {cs : Scope} {a : Addr} {ccd : Value} {outer : List Env} {A₀ : Around} {base h₀ : Heap} {L : Addr} {m : Str → Option Value} {s : Shared} {Q E : Value → Shared → Prop} (B : Below A₀ base outer h₀) (F : Fr h₀ L s.heap m) (X : (ax.heap_1_39 w.params).In h₀) (N : News h₀ L s.heap (pre ++ ((S.dc, dictC w S lv) :: (S.dr, dictR w S i u) :: rest))) (T : Top ax.view_1_40 LS mean mg mb h₀) (hk : cs.kind = .function) (h1 : dp + 70 < recursionLimit) (h2 : un + 8 * 70 < cLine)
    (C : CuIn w S rest toks) (hA : At toks i rem) (hp : ∀ q ∈ pre, @Ne Nat q.1 S.dc ∧ @Ne Nat q.1 S.dr) (hl : tx.length ≤ 100)
    (ok : ∀ wa d T lv' i' u' h' tk', (rem.headD .fin).at kd (some tx) = true → IsWord S toks (.ref wa) (rem.headD .fin) → (wa, instObj 388 d) ∈ rest → (d, wordO w (rem.headD .fin) T) ∈ rest → At toks i' rem.tail → Fr h₀ L h' m → News h₀ L h' (pre ++ (S.dc, dictC w S lv') :: (S.dr, dictR w S i' u') :: rest) → Q (.ref wa) { s with heap := h', toks := tk' })
    (er : (rem.headD .fin).at kd (some tx) = false → ∀ e h' tk' g₂, RaisedSN base g₂ (envOf cn cs L a ccd :: outer) e (.ref 52) [] h' → Fr h₀ L g₂ m → g₂.UpToSlots h' → E (.ref e) { s with heap := h', toks := tk' }) :
    wpAny (model PG w) (atop dp un gd cn cs L a ccd outer) (call (.ref 143) [.ref S.c, .str kd k1, .str tx k2]) Q E s :=
  (want_ (C.add hp) hA hl).use B F X (news_to N) T hk h1 h2 (fun v n' h' tk' o F' N' => by
    obtain ⟨rfl, hat, lv', i', u', rfl, hA'⟩ := o
    obtain ⟨wa, d, T, e, h3, h4, h5⟩ := hA.wordIn C
    rw [e]; exact ok wa d T _ _ _ _ _ hat h3 h4 h5 hA' F' (news_back N')) er
theorem wd_f_11 : True := by
  k_with "call ref" => (k_here; k_dflt ((first | (refine' want__use (pre := []) ?_ ?_ ?_ ?_ ?_ ?_ ?_ ?_ ?_ ?_ ?_ ?kCZ9 ?_ ?_; k_extra "hk cell_call") | (refine' want__use (pre := [_]) ?_ ?_ ?_ ?_ ?_ ?_ ?_ ?_ ?_ ?_ ?_ ?kCZ9 ?_ ?_; k_extra "hk cell_call") | (refine' want__use (pre := [_, _]) ?_ ?_ ?_ ?_ ?_ ?_ ?_ ?_ ?_ ?_ ?_ ?kCZ9 ?_ ?_; k_extra "hk cell_call")); k_extra "hk kas_types"; (case kCZ9 => decide +kernel)); all_goals (k_whole; k_extra "hk kpt_turns"; (first | intro _ _ _ _ _ _ _ _ _ _ _ _ _ _ _ | intro _ _ _ _ _ _ _ _); k_extra "hk kst_p2"))
  trivial

theorem want0 {w : World} {S : Cu} {rest : List (Addr × Obj)} {toks : List W} {lv : Value} {i : Int} {u : Tok} {rem : List W} {kd : Str} {k1 : Tok} (C : CuIn w S rest toks) (hA : At toks i rem) (hl : kd.length ≤ 100) :
    CSpec w 70 143 [.ref S.c, .str kd k1] ((S.dc, dictC w S lv) :: (S.dr, dictR w S i u) :: rest) (fun v n' => v = wordAt S i ∧ (rem.headD .fin).at kd none = true ∧ ∃ lv' i' u', n' = (S.dc, dictC w S lv') :: (S.dr, dictR w S i' u') :: rest ∧ At toks i' rem.tail) ((rem.headD .fin).at kd none = false) := by
  have C' := C
  obtain ⟨mc, mr, ml, hv, he, d1, d2, d3, sz⟩ := C'
  unfold CSpec; intro mean mg mb dp un gd cn cs a ccd outer A₀ base h₀ L m s Q E B F X N T hk hd' hu hret her; refine wpAny_call ?_; k_dflt ktr_enter
  k_steps
  · exact hret _ _ _ _ ⟨by symm; assumption, by assumption, _, _, _, rfl, by assumption⟩ (by assumption) (by assumption)
  · exact her (by assumption) _ _ _ _ (by assumption) (by assumption) (by assumption)
theorem want0_use {w : World} {S : Cu} {pre rest : List (Addr × Obj)} {toks : List W} {lv : Value} {i : Int} {u : Tok} {rem : List W} {kd : Str} {k1 : Tok}
    {mean : ExcName → Option Value} {mg mb : Str → Option Value} {dp un : Nat} {gd : Option (List Code)} {cn : Str} {cs : Scope} {a : Addr} {ccd : Value} {outer : List Env} {A₀ : Around} {base h₀ : Heap} {L : Addr} {m : Str → Option Value} {s : Shared} {Q E : Value → Shared → Prop} (B : Below A₀ base outer h₀) (F : Fr h₀ L s.heap m) (X : (ax.heap_1_39 w.params).In h₀) (N : News h₀ L s.heap (pre ++ ((S.dc, dictC w S lv) :: (S.dr, dictR w S i u) :: rest))) (T : Top ax.view_1_40 LS mean mg mb h₀) (hk : cs.kind = .function) (h1 : dp + 70 < recursionLimit) (h2 : un + 8 * 70 < cLine)
    (C : CuIn w S rest toks) (hA : At toks i rem) (hp : ∀ q ∈ pre, @Ne Nat q.1 S.dc ∧ @Ne Nat q.1 S.dr) (hl : kd.length ≤ 100)
    (ok : ∀ wa d T lv' i' u' h' tk', (rem.headD .fin).at kd none = true → IsWord S toks (.ref wa) (rem.headD .fin) → (wa, instObj 388 d) ∈ rest → (d, wordO w (rem.headD .fin) T) ∈ rest → At toks i' rem.tail → Fr h₀ L h' m → News h₀ L h' (pre ++ (S.dc, dictC w S lv') :: (S.dr, dictR w S i' u') :: rest) → Q (.ref wa) { s with heap := h', toks := tk' })
    (er : (rem.headD .fin).at kd none = false → ∀ e h' tk' g₂, RaisedSN base g₂ (envOf cn cs L a ccd :: outer) e (.ref 52) [] h' → Fr h₀ L g₂ m → g₂.UpToSlots h' → E (.ref e) { s with heap := h', toks := tk' }) :
    wpAny (model PG w) (atop dp un gd cn cs L a ccd outer) (call (.ref 143) [.ref S.c, .str kd k1]) Q E s :=
  (want0 (C.add hp) hA hl).use B F X (news_to N) T hk h1 h2 (fun v n' h' tk' o F' N' => by
    obtain ⟨rfl, hat, lv', i', u', rfl, hA'⟩ := o
    obtain ⟨wa, d, T, e, h3, h4, h5⟩ := hA.wordIn C
    rw [e]; exact ok wa d T _ _ _ _ _ hat h3 h4 h5 hA' F' (news_back N')) er
theorem wd_f_12 : True := by
  k_with "call ref" => (k_here; k_dflt ((first | (refine' want0_use (pre := []) ?_ ?_ ?_ ?_ ?_ ?_ ?_ ?_ ?_ ?_ ?_ ?kCZ9 ?_ ?_; k_extra "hk cell_call") | (refine' want0_use (pre := [_]) ?_ ?_ ?_ ?_ ?_ ?_ ?_ ?_ ?_ ?_ ?_ ?kCZ9 ?_ ?_; k_extra "hk cell_call") | (refine' want0_use (pre := [_, _]) ?_ ?_ ?_ ?_ ?_ ?_ ?_ ?_ ?_ ?_ ?_ ?kCZ9 ?_ ?_; k_extra "hk cell_call")); k_extra "hk kas_types"; (case kCZ9 => decide +kernel)); all_goals (k_whole; k_extra "hk kpt_turns"; (first | intro _ _ _ _ _ _ _ _ _ _ _ _ _ _ _ | intro _ _ _ _ _ _ _ _); k_extra "hk kst_p2"))
  trivial

theorem W.vl_len {x : W} {y : Str} (h : x.vl = some y) : y.length ≤ 20 := by
  have q : ∀ x : W, (match x.vl with | none => true | some y => decide (y.length ≤ 20)) = true := by intro x; cases x <;> decide +kernel
  have := q x
  rw [h] at this
  exact of_decide_eq_true this
theorem full_name {w : World} {news : List (Addr × Obj)} {wa d : Addr} {T : Nat → Tok} {x : W} (m1 : (wa, instObj 388 d) ∈ news) (m2 : (d, wordO w x T) ∈ news) :
    CSpec w 8 70 [.ref wa] news (fun v n' => (∃ t, v = .str x.nm t) ∧ n' = news) False := by
  have hx := W.tx_len x
  cases hv : x.vl with
  | none =>
    have e : x.nm = x.tx := by unfold W.nm; rw [hv]
    rw [e]
    simp only [wordO, hv, optV] at m2
    unfold CSpec; intro mean mg mb dp un gd cn cs a ccd outer A₀ base h₀ L m s Q E B F X N T hk hd' hu hret her; refine wpAny_call ?_; k_dflt ktr_enter
    k_steps
    exact hret _ _ _ _ ⟨⟨_, rfl⟩, rfl⟩ (by assumption) (by assumption)
  | some y =>
    have hy := W.vl_len hv
    have e : x.nm = y ++ Str.ofString "." ++ x.tx := by unfold W.nm; rw [hv]
    rw [e]
    simp only [wordO, hv, optV] at m2
    unfold CSpec; intro mean mg mb dp un gd cn cs a ccd outer A₀ base h₀ L m s Q E B F X N T hk hd' hu hret her; refine wpAny_call ?_; k_dflt ktr_enter
    k_steps
    exact hret _ _ _ _ ⟨⟨_, rfl⟩, rfl⟩ (by assumption) (by assumption)
theorem full_name_use {w : World} {news : List (Addr × Obj)} {wa d : Addr} {Tk : Nat → Tok} {x : W}
    {mean : ExcName → Option Value} {mg mb : Str → Option Value} {dp un : Nat} {gd : Option (List Code)} {cn : Str} {cs : Scope} {a : Addr} {ccd : Value} {outer : List Env} {A₀ : Around} {base h₀ : Heap} {L : Addr} {m : Str → Option Value} {s : Shared} {Q E : Value → Shared → Prop} (B : Below A₀ base outer h₀) (F : Fr h₀ L s.heap m) (X : (ax.heap_1_39 w.params).In h₀) (N : News h₀ L s.heap news) (T : Top ax.view_1_40 LS mean mg mb h₀) (hk : cs.kind = .function) (h1 : dp + 8 < recursionLimit) (h2 : un + 8 * 8 < cLine) (m1 : (wa, instObj 388 d) ∈ news) (m2 : (d, wordO w x Tk) ∈ news)
    (ok : ∀ t h' tk', Fr h₀ L h' m → News h₀ L h' news → Q (.str x.nm t) { s with heap := h', toks := tk' }) :
    wpAny (model PG w) (atop dp un gd cn cs L a ccd outer) (call (.ref 70) [.ref wa]) Q E s :=
  (full_name m1 m2).use B F X N T hk h1 h2 (fun v n' h' tk' o F' N' => by obtain ⟨⟨t, rfl⟩, rfl⟩ := o; exact ok _ _ _ F' N') (fun h => h.elim)
theorem wd_f_13 : True := by
  k_with "call ref" => (k_here; k_dflt (refine' full_name_use ?_ ?_ ?_ ?_ ?_ ?_ ?_ ?_ ?k9Z9 ?kAZ9 ?_; k_extra "hk cell_call"; (case k9Z9 => k_extra "mem"); (case kAZ9 => k_extra "mem")); k_whole; intro _ _ _ _ _; (try k_sweep))
  trivial



/-- a reader's contract: it does as the plain reader p does upon what is left; what it makes is tl -/
def RS (w : World) (cost : Nat) (fn : Addr) (args : List Value) (S : Cu) (toks : List W) {α : Type} (p : List W → Option (α × List W)) (Val : List (Addr × Obj) → Value → α → Prop) : Prop :=
  ∀ (rest : List (Addr × Obj)) (lv : Value) (i : Int) (u : Tok) (rem : List W), CuIn w S rest toks → At toks i rem → CSpec w cost fn args ((S.dc, dictC w S lv) :: (S.dr, dictR w S i u) :: rest)
    (fun v n' => ∃ lv' i' u' tl x rem', n' = (S.dc, dictC w S lv') :: (S.dr, dictR w S i' u') :: (tl ++ rest) ∧ Ord ((S.dc, dictC w S lv) :: (S.dr, dictR w S i u) :: rest) tl ∧ p rem = some (x, rem') ∧ At toks i' rem' ∧ Val tl v x) (p rem = none)
theorem Ord.nil {A : List (Addr × Obj)} : Ord A [] := fun _ _ _ h => nomatch h
theorem Ord.sub {A B tl : List (Addr × Obj)} (h : Ord B tl) (s : ∀ p ∈ A, p ∈ B) : Ord A tl := fun q hq p hp => h q (s q hq) p hp
theorem CuIn.grow {w : World} {S : Cu} {rest tl : List (Addr × Obj)} {toks : List W} {o₁ o₂ : Obj} (C : CuIn w S rest toks) (h : Ord ((S.dc, o₁) :: (S.dr, o₂) :: rest) tl) : CuIn w S (tl ++ rest) toks :=
  C.add fun q hq => ⟨Nat.ne_of_gt (h _ (.head _) q hq), Nat.ne_of_gt (h _ (.tail _ (.head _)) q hq)⟩
theorem RS.use {w : World} {cost : Nat} {fn : Addr} {args : List Value} {S : Cu} {toks : List W} {α : Type} {p : List W → Option (α × List W)} {Val : List (Addr × Obj) → Value → α → Prop} (H : RS w cost fn args S toks p Val)
    {pre rest : List (Addr × Obj)} {lv : Value} {i : Int} {u : Tok} {rem : List W}
    {mean : ExcName → Option Value} {mg mb : Str → Option Value} {dp un : Nat} {gd : Option (List Code)} {cn : Str} {cs : Scope} {a : Addr} {ccd : Value} {outer : List Env} {A₀ : Around} {base h₀ : Heap} {L : Addr} {m : Str → Option Value} {s : Shared} {Q E : Value → Shared → Prop} (B : Below A₀ base outer h₀) (F : Fr h₀ L s.heap m) (X : (ax.heap_1_39 w.params).In h₀) (N : News h₀ L s.heap (pre ++ ((S.dc, dictC w S lv) :: (S.dr, dictR w S i u) :: rest))) (T : Top ax.view_1_40 LS mean mg mb h₀) (hk : cs.kind = .function) (h1 : dp + cost < recursionLimit) (h2 : un + 8 * cost < cLine)
    (C : CuIn w S rest toks) (hA : At toks i rem) (hp : ∀ q ∈ pre, @Ne Nat q.1 S.dc ∧ @Ne Nat q.1 S.dr)
    (ok : ∀ v lv' i' u' tl x rem' h' tk', p rem = some (x, rem') → At toks i' rem' → CuIn w S (tl ++ rest) toks → Ord (pre ++ ((S.dc, dictC w S lv) :: (S.dr, dictR w S i u) :: rest)) tl → Val tl v x → Fr h₀ L h' m → News h₀ L h' (pre ++ (S.dc, dictC w S lv') :: (S.dr, dictR w S i' u') :: (tl ++ rest)) → Q v { s with heap := h', toks := tk' })
    (er : p rem = none → ∀ e h' tk' g₂, RaisedSN base g₂ (envOf cn cs L a ccd :: outer) e (.ref 52) [] h' → Fr h₀ L g₂ m → g₂.UpToSlots h' → E (.ref e) { s with heap := h', toks := tk' }) :
    wpAny (model PG w) (atop dp un gd cn cs L a ccd outer) (call (.ref fn) args) Q E s :=
  (H _ _ _ _ _ (C.add hp) hA).use B F X (news_to N) T hk h1 h2 (fun v n' h' tk' o F' N' => by
    obtain ⟨lv', i', u', tl, x, rem', rfl, ho, e, hA', hV⟩ := o
    have ho' : Ord (pre ++ ((S.dc, dictC w S lv) :: (S.dr, dictR w S i u) :: rest)) tl := ho.sub fun q hq => by
      simp only [List.mem_cons, List.mem_append] at hq ⊢; rcases hq with h | h | h | h <;> simp [h]
    have ho2 : Ord ((S.dc, dictC w S lv) :: (S.dr, dictR w S i u) :: rest) tl := ho.sub fun q hq => by
      simp only [List.mem_cons, List.mem_append] at hq ⊢; rcases hq with h | h | h <;> simp [h]
    exact ok v lv' i' u' tl x rem' h' tk' e hA' (C.grow ho2) ho' hV F' (news_back2 N')) er

theorem RS.use0 {w : World} {cost : Nat} {fn : Addr} {args : List Value} {S : Cu} {toks : List W} {α : Type} {p : List W → Option (α × List W)} {V : Value → α → Prop} (H : RS w cost fn args S toks p (fun _ => V))
    {pre rest : List (Addr × Obj)} {lv : Value} {i : Int} {u : Tok} {rem : List W}
    {mean : ExcName → Option Value} {mg mb : Str → Option Value} {dp un : Nat} {gd : Option (List Code)} {cn : Str} {cs : Scope} {a : Addr} {ccd : Value} {outer : List Env} {A₀ : Around} {base h₀ : Heap} {L : Addr} {m : Str → Option Value} {s : Shared} {Q E : Value → Shared → Prop} (B : Below A₀ base outer h₀) (F : Fr h₀ L s.heap m) (X : (ax.heap_1_39 w.params).In h₀) (N : News h₀ L s.heap (pre ++ ((S.dc, dictC w S lv) :: (S.dr, dictR w S i u) :: rest))) (T : Top ax.view_1_40 LS mean mg mb h₀) (hk : cs.kind = .function) (h1 : dp + cost < recursionLimit) (h2 : un + 8 * cost < cLine)
    (C : CuIn w S rest toks) (hA : At toks i rem) (hp : ∀ q ∈ pre, @Ne Nat q.1 S.dc ∧ @Ne Nat q.1 S.dr)
    (ok : ∀ v lv' i' u' x rem' h' tk', p rem = some (x, rem') → At toks i' rem' → V v x → Fr h₀ L h' m → News h₀ L h' (pre ++ (S.dc, dictC w S lv') :: (S.dr, dictR w S i' u') :: rest) → Q v { s with heap := h', toks := tk' })
    (er : p rem = none → ∀ e h' tk' g₂, RaisedSN base g₂ (envOf cn cs L a ccd :: outer) e (.ref 52) [] h' → Fr h₀ L g₂ m → g₂.UpToSlots h' → E (.ref e) { s with heap := h', toks := tk' }) :
    wpAny (model PG w) (atop dp un gd cn cs L a ccd outer) (call (.ref fn) args) Q E s :=
  H.use B F X N T hk h1 h2 C hA hp (fun v lv' i' u' tl x rem' h' tk' e hA' _ _ hV F' N' => ok v lv' i' u' x rem' h' tk' e hA' hV F' (fun q hq => N' q (by
    simp only [List.mem_cons, List.mem_append] at hq ⊢; rcases hq with h | h | h | h <;> simp [h]))) er
theorem handed_optV (o : Option Str) (t : Tok) : handedIn (optV o t) = true := by cases o <;> rfl
theorem og_isnot {M : Model} {A : Around} {E : Value → Shared → Prop} {s : Shared} {o : Option Str} {t : Tok} {Q : Value → Shared → Prop} (h : Q (.bool o.isSome) s) : wpAny M A (compareOp .IsNot (optV o t) .none) Q E s := by
  cases o with
  | none => exact isnot_none_none h
  | some x => exact isnot_str_none h
theorem wd_f_14 : True := by
  k_with "hk k_handed" => (exact handed_optV _ _)
  k_with "compareOp IsNot" => (k_here; refine og_isnot ?_)
  trivial

theorem news_cons {h₀ h : Heap} {L : Addr} {a : Addr × Obj} {l : List (Addr × Obj)} (x : h.get? a.1 = some a.2 ∧ a.1 ≠ L ∧ h₀.get? a.1 = none) (N : News h₀ L h l) : News h₀ L h (a :: l) := List.forall_mem_cons.mpr ⟨x, N⟩
theorem news_app {h₀ h : Heap} {L : Addr} {l l' : List (Addr × Obj)} (N : News h₀ L h l) (N' : News h₀ L h l') : News h₀ L h (l ++ l') := fun p hp => (List.mem_append.mp hp).elim (N p) (N' p)
def W.isOp (x : W) : Bool := ([Str.ofString "varsym", Str.ofString "consym"].any fun y => y == x.kd) && !x.vl.isSome
def pOp (rem : List W) : Option (W × List W) := if (rem.headD .fin).isOp then some (rem.headD .fin, rem.tail) else none
theorem pOp_t {rem : List W} (h1 : ([Str.ofString "varsym", Str.ofString "consym"].any fun y => y == (rem.headD .fin).kd) = true) (h2 : (rem.headD .fin).vl.isSome = false) : pOp rem = some (rem.headD .fin, rem.tail) := by
  unfold pOp W.isOp; rw [h1, h2]; rfl
theorem pOp_f1 {rem : List W} (h2 : (rem.headD .fin).vl.isSome = true) : pOp rem = none := by
  unfold pOp W.isOp; rw [h2, Bool.not_true, Bool.and_false]; rfl
theorem pOp_f2 {rem : List W} (h1 : ([Str.ofString "varsym", Str.ofString "consym"].any fun y => y == (rem.headD .fin).kd) = false) : pOp rem = none := by
  unfold pOp W.isOp; rw [h1, Bool.false_and]; rfl
theorem read_operator {w : World} {S : Cu} {toks : List W} : RS w 75 272 [.ref S.c] S toks pOp (fun _ v x => ∃ t, v = .str x.tx t) := by
  intro rest lv i u rem C hA
  have C' := C
  obtain ⟨mc, mr, ml, hv, he, d1, d2, d3, sz⟩ := C'
  unfold CSpec; intro mean mg mb dp un gd cn cs a ccd outer A₀ base h₀ L m s Q E B F X N T hk hd' hu hret her; refine wpAny_call ?_; k_dflt ktr_enter
  k_steps
  · exact her (pOp_f1 (by assumption)) _ _ _ _ (by assumption) (by assumption) (by assumption)
  · rename_i kF kN _ _
    exact hret _ _ _ _ ⟨_, _, _, [], _, _, rfl, Ord.nil, pOp_t (by assumption) (by assumption), by assumption, _, rfl⟩ kF (news_cons (kN _ (by k_extra "mem")) (news_cons (kN _ (by k_extra "mem")) fun p hp => kN p (by k_extra "mem")))
  · exact her (pOp_f2 (by assumption)) _ _ _ _ (by assumption) (by assumption) (by assumption)


theorem wd_f_15 : True := by
  k_with "call ref" => (k_here; k_dflt ((first | (refine' RS.use0 read_operator (pre := []) ?_ ?_ ?_ ?_ ?_ ?_ ?_ ?_ ?_ ?_ ?_ ?_ ?_; k_extra "hk cell_call") | (refine' RS.use0 read_operator (pre := [_]) ?_ ?_ ?_ ?_ ?_ ?_ ?_ ?_ ?_ ?_ ?_ ?_ ?_; k_extra "hk cell_call") | (refine' RS.use0 read_operator (pre := [_, _]) ?_ ?_ ?_ ?_ ?_ ?_ ?_ ?_ ?_ ?_ ?_ ?_ ?_; k_extra "hk cell_call") | (refine' RS.use0 read_operator (pre := [_, _, _]) ?_ ?_ ?_ ?_ ?_ ?_ ?_ ?_ ?_ ?_ ?_ ?_ ?_; k_extra "hk cell_call")); k_extra "hk kas_types"); all_goals (k_whole; k_extra "hk kpt_turns"; (first | (intro _ _ _ _ _ _ _ _ _ _ hV _ _; obtain ⟨_, hV⟩ := hV; subst hV) | intro _ _ _ _ _ _ _ _); k_extra "hk kst_p2"))
  trivial

def qLp (x : W) : Bool := x.at (Str.ofString "special") (some (Str.ofString "("))
def qRp (x : W) : Bool := x.at (Str.ofString "special") (some (Str.ofString ")"))
def qCm (x : W) : Bool := x.at (Str.ofString "special") (some (Str.ofString ","))
def W.isSub (x : W) : Bool := ([Str.ofString "var", Str.ofString "con"].any fun y => y == x.kd) && !x.vl.isSome
def pSub (rem : List W) : Option (W × List W) :=
  if qLp (rem.headD .fin) = true then (match pOp rem.tail with
    | none => none
    | some (x, r) => if qRp (r.headD .fin) = true then some (x, r.tail) else none)
  else if (rem.headD .fin).isSub = true then some (rem.headD .fin, rem.tail) else none
theorem pSub_ok1 {rem r : List W} {x : W} (h1 : (rem.headD .fin).at (Str.ofString "special") (some (Str.ofString "(")) = true) (h2 : pOp rem.tail = some (x, r)) (h3 : (r.headD .fin).at (Str.ofString "special") (some (Str.ofString ")")) = true) : pSub rem = some (x, r.tail) := by
  unfold pSub; rw [if_pos (show qLp _ = true from h1), h2]; exact if_pos h3
theorem pSub_e1 {rem r : List W} {x : W} (h1 : (rem.headD .fin).at (Str.ofString "special") (some (Str.ofString "(")) = true) (h2 : pOp rem.tail = some (x, r)) (h3 : (r.headD .fin).at (Str.ofString "special") (some (Str.ofString ")")) = false) : pSub rem = none := by
  unfold pSub; rw [if_pos (show qLp _ = true from h1), h2]; exact if_neg (Bool.eq_false_iff.mp h3)
theorem pSub_e2 {rem : List W} (h1 : (rem.headD .fin).at (Str.ofString "special") (some (Str.ofString "(")) = true) (h2 : pOp rem.tail = none) : pSub rem = none := by
  unfold pSub; rw [if_pos (show qLp _ = true from h1), h2]
theorem pSub_e3 {rem : List W} (h1 : (rem.headD .fin).at (Str.ofString "special") (some (Str.ofString "(")) = false) (h2 : (rem.headD .fin).vl.isSome = true) : pSub rem = none := by
  unfold pSub W.isSub; rw [if_neg (show ¬ qLp _ = true from Bool.eq_false_iff.mp h1), h2, Bool.not_true, Bool.and_false]; rfl
theorem pSub_e4 {rem : List W} (h1 : (rem.headD .fin).at (Str.ofString "special") (some (Str.ofString "(")) = false) (h2 : ([Str.ofString "var", Str.ofString "con"].any fun y => y == (rem.headD .fin).kd) = false) : pSub rem = none := by
  unfold pSub W.isSub; rw [if_neg (show ¬ qLp _ = true from Bool.eq_false_iff.mp h1), h2, Bool.false_and]; rfl
theorem pSub_ok2 {rem : List W} (h1 : (rem.headD .fin).at (Str.ofString "special") (some (Str.ofString "(")) = false) (h2 : ([Str.ofString "var", Str.ofString "con"].any fun y => y == (rem.headD .fin).kd) = true) (h3 : (rem.headD .fin).vl.isSome = false) : pSub rem = some (rem.headD .fin, rem.tail) := by
  unfold pSub W.isSub; rw [if_neg (show ¬ qLp _ = true from Bool.eq_false_iff.mp h1), h2, h3]; rfl
theorem read_sub {w : World} {S : Cu} {toks : List W} : RS w 150 279 [.ref S.c] S toks pSub (fun _ v x => ∃ t, v = .str x.tx t) := by
  intro rest lv i u rem C hA
  have C' := C
  obtain ⟨mc, mr, ml, hv, he, d1, d2, d3, sz⟩ := C'
  unfold CSpec; intro mean mg mb dp un gd cn cs a ccd outer A₀ base h₀ L m s Q E B F X N T hk hd' hu hret her; refine wpAny_call ?_; k_dflt ktr_enter
  k_steps
  all_goals first
    | exact her (pSub_e1 (by assumption) (by assumption) (by assumption)) _ _ _ _ (by assumption) (by assumption) (by assumption)
    | exact her (pSub_e2 (by assumption) (by assumption)) _ _ _ _ (by assumption) (by assumption) (by assumption)
    | exact her (pSub_e3 (by assumption) (by assumption)) _ _ _ _ (by assumption) (by assumption) (by assumption)
    | exact her (pSub_e4 (by assumption) (by assumption)) _ _ _ _ (by assumption) (by assumption) (by assumption)
    | (rename_i kF kN _ _
       exact hret _ _ _ _ ⟨_, _, _, [], _, _, rfl, Ord.nil, pSub_ok1 (by assumption) (by assumption) (by assumption), by assumption, _, rfl⟩ kF (news_cons (kN _ (by k_extra "mem")) (news_cons (kN _ (by k_extra "mem")) fun p hp => kN p (by k_extra "mem"))))
    | (rename_i kF kN _ _
       exact hret _ _ _ _ ⟨_, _, _, [], _, _, rfl, Ord.nil, pSub_ok2 (by assumption) (by assumption) (by assumption), by assumption, _, rfl⟩ kF (news_cons (kN _ (by k_extra "mem")) (news_cons (kN _ (by k_extra "mem")) fun p hp => kN p (by k_extra "mem"))))


theorem wd_f_16 : True := by
  k_with "call ref" => (k_here; k_dflt ((first | (refine' RS.use0 read_sub (pre := []) ?_ ?_ ?_ ?_ ?_ ?_ ?_ ?_ ?_ ?_ ?_ ?_ ?_; k_extra "hk cell_call") | (refine' RS.use0 read_sub (pre := [_]) ?_ ?_ ?_ ?_ ?_ ?_ ?_ ?_ ?_ ?_ ?_ ?_ ?_; k_extra "hk cell_call") | (refine' RS.use0 read_sub (pre := [_, _]) ?_ ?_ ?_ ?_ ?_ ?_ ?_ ?_ ?_ ?_ ?_ ?_ ?_; k_extra "hk cell_call") | (refine' RS.use0 read_sub (pre := [_, _, _]) ?_ ?_ ?_ ?_ ?_ ?_ ?_ ?_ ?_ ?_ ?_ ?_ ?_; k_extra "hk cell_call")); k_extra "hk kas_types"); all_goals (k_whole; k_extra "hk kpt_turns"; (first | (intro _ _ _ _ _ _ _ _ _ _ hV _ _; obtain ⟨_, hV⟩ := hV; subst hV) | intro _ _ _ _ _ _ _ _); k_extra "hk kst_p2"))
  trivial

/-- where the walk is to stand -/
def Stop (P : Prop) : Prop := P
theorem stop {P : Prop} (h : Stop P) : P := h
theorem wd_f_17 : True := by
  k_with "exec While" => (k_here; refine stop ?_)
  k_with "WhlRest" => (k_here; refine stop ?_)
  trivial

theorem whl_ind {w : World} {A : Around} {E : Value → Shared → Prop} {env : Env} {test : PySem.Expr} {body orelse : List Stmt} {Q : Flow → Shared → Prop} {s : Shared} (I : Nat → Shared → Prop) (hE : PassesOwn (model PG w) A env E)
    (turn : ∀ n s, I n s → (∀ s', I n.pred s' → n ≠ 0 → WhlRest PG w A E env test body orelse Q 0 s') →
      wpAny (model PG w) A (isTrue test env (eval test env)) (fun b s₂ => WhlIf b (wpAny (model PG w) A (execs body env) (WhlPost PG w A E env test body orelse Q 0) E s₂) (wpAny (model PG w) A (execs orelse env) Q E s₂)) E s)
    (n : Nat) (h : I n s) : WhlRest PG w A E env test body orelse Q 0 s := by
  induction n using Nat.strongRecOn generalizing s with
  | ind n ih =>
    refine whl_turn (k := 0) hE (turn n s h fun s' h' hn => ih n.pred (Nat.pred_lt hn) h')
inductive Subs
  | no
  | all
  | list (l : List W)
def pSubsL : Nat → List W → List W → Option (List W × List W)
  | 0, _, _ => none
  | n + 1, rem, acc => if qRp (rem.headD .fin) = true then some (acc, rem) else (match pSub rem with
    | none => none
    | some (x, r) => if qCm (r.headD .fin) = true then pSubsL n r.tail (acc ++ [x]) else some (acc ++ [x], r))
def qDots (x : W) : Bool := x.at (Str.ofString "op") (some (Str.ofString ".."))
def pSubs (rem : List W) : Option (Subs × List W) :=
  if qLp (rem.headD .fin) = true then
    (if qDots (rem.tail.headD .fin) = true then (if qRp (rem.tail.tail.headD .fin) = true then some (.all, rem.tail.tail.tail) else none)
    else (match pSubsL (rem.tail.length + 1) rem.tail [] with
      | none => none
      | some (xs, r) => if qRp (r.headD .fin) = true then some (.list xs, r.tail) else none))
  else some (.no, rem)
def SubsV (news : List (Addr × Obj)) (v : Value) : Subs → Prop
  | .no => v = .none
  | .all => ∃ t, v = .str (Str.ofString "all") t
  | .list xs => ∃ a vs n, v = .ref a ∧ (a, listO vs n) ∈ news ∧ All2 (fun v (x : W) => ∃ t, v = .str x.tx t) vs xs
section
variable {prog : Program} {w : World} {A : Around} {E : Value → Shared → Prop} {s : Shared} {h₀ : Heap} {L D : Addr} {m : Str → Option Value} {news news' : List (Addr × Obj)} {Q : Value → Shared → Prop}
theorem og_append {vs : List Value} {n : Nat} {x : Value} (F : Fr h₀ L s.heap m) (N : News h₀ L s.heap news) (U : Upd D (listO vs n) (listO (vs ++ [x]) (n + 1)) news news')
    (h : ∀ h', Fr h₀ L h' m → News h₀ L h' news' → Q .none { s with heap := h' }) (hsz : vs.length ≤ sizeLine) : wpAny (model prog w) A (call (.builtin "list.append") [.ref D, x]) Q E s := by
  refine append_K (its := vs.toArray) (n := n) F N ?_ h (by rw [List.size_toArray]; exact hsz)
  have e : W.listOf (vs.toArray.push x) (n + 1) = listO (vs ++ [x]) (n + 1) := by rw [List.push_toArray]
  rw [e]; exact U
end
theorem wd_f_18 : True := by
  k_with "call builtin:list.append" => (k_here; (with_reducible show wpAny _ _ (call (Value.builtin _) [Value.ref _, _]) _ _ _); k_dflt (refine' og_append ?k1Z9 ?k2Z9 ?k3Z9 ?_ ?zZ9; (case k1Z9 => k_asm); (case k2Z9 => k_asm); (case k3Z9 => k_upd); (case zZ9 => first | (rw [sizeLine_eq]; omega) | size_fits); k_whole); intro _ _ _; (try k_sweep))
  k_with "eval Name" => (k_here; k_dflt (refine' ld ?k1Z9 ?k2Z9 ?_; (case k1Z9 => k_asm); (case k2Z9 => assumption); k_whole))
  trivial

theorem pOp_len {rem r : List W} {x : W} (h : pOp rem = some (x, r)) : r.length < rem.length := by
  unfold pOp at h
  split at h
  · rename_i q
    cases h
    cases rem with
    | nil => revert q; decide +kernel
    | cons a l => exact Nat.lt_succ_self _
  · cases h
theorem pSub_len {rem r : List W} {x : W} (h : pSub rem = some (x, r)) : r.length < rem.length := by
  unfold pSub at h
  split at h
  · split at h
    · cases h
    · rename_i y r' q
      split at h
      · cases h
        have h1 := pOp_len q
        have h2 : r'.tail.length = r'.length - 1 := List.length_tail
        have h3 : rem.tail.length = rem.length - 1 := List.length_tail
        omega
      · cases h
  · split at h
    · rename_i q
      cases h
      cases rem with
      | nil => revert q; decide +kernel
      | cons a l => exact Nat.lt_succ_self _
    · cases h
theorem pSubsL_stop {n : Nat} {rem acc : List W} (h : (rem.headD .fin).at (Str.ofString "special") (some (Str.ofString ")")) = true) : pSubsL (n + 1) rem acc = some (acc, rem) := if_pos h
theorem pSubsL_none {n : Nat} {rem acc : List W} (h : (rem.headD .fin).at (Str.ofString "special") (some (Str.ofString ")")) = false) (h1 : pSub rem = none) : pSubsL (n + 1) rem acc = none := by
  unfold pSubsL; rw [if_neg (show ¬ qRp _ = true from Bool.eq_false_iff.mp h), h1]
theorem pSubsL_brk {n : Nat} {rem acc r : List W} {x : W} (h : (rem.headD .fin).at (Str.ofString "special") (some (Str.ofString ")")) = false) (h1 : pSub rem = some (x, r))
    (h2 : (r.headD .fin).at (Str.ofString "special") (some (Str.ofString ",")) = false) : pSubsL (n + 1) rem acc = some (acc ++ [x], r) := by
  unfold pSubsL; rw [if_neg (show ¬ qRp _ = true from Bool.eq_false_iff.mp h), h1]; exact if_neg (Bool.eq_false_iff.mp h2)
theorem pSubsL_go {n : Nat} {rem acc r : List W} {x : W} (h : (rem.headD .fin).at (Str.ofString "special") (some (Str.ofString ")")) = false) (h1 : pSub rem = some (x, r))
    (h2 : (r.headD .fin).at (Str.ofString "special") (some (Str.ofString ",")) = true) : pSubsL (n + 1) rem acc = pSubsL n r.tail (acc ++ [x]) := by
  rw [pSubsL, if_neg (show ¬ qRp _ = true from Bool.eq_false_iff.mp h), h1]; exact if_pos h2
theorem pSubs_no {rem : List W} (h : (rem.headD .fin).at (Str.ofString "special") (some (Str.ofString "(")) = false) : pSubs rem = some (.no, rem) := if_neg (Bool.eq_false_iff.mp h)
theorem pSubs_all {rem : List W} (h : (rem.headD .fin).at (Str.ofString "special") (some (Str.ofString "(")) = true) (h1 : (rem.tail.headD .fin).at (Str.ofString "op") (some (Str.ofString "..")) = true)
    (h2 : (rem.tail.tail.headD .fin).at (Str.ofString "special") (some (Str.ofString ")")) = true) : pSubs rem = some (.all, rem.tail.tail.tail) := by
  unfold pSubs; rw [if_pos (show qLp _ = true from h), if_pos (show qDots _ = true from h1)]; exact if_pos h2
theorem pSubs_all0 {rem : List W} (h : (rem.headD .fin).at (Str.ofString "special") (some (Str.ofString "(")) = true) (h1 : (rem.tail.headD .fin).at (Str.ofString "op") (some (Str.ofString "..")) = true)
    (h2 : (rem.tail.tail.headD .fin).at (Str.ofString "special") (some (Str.ofString ")")) = false) : pSubs rem = none := by
  unfold pSubs; rw [if_pos (show qLp _ = true from h), if_pos (show qDots _ = true from h1)]; exact if_neg (Bool.eq_false_iff.mp h2)
theorem pSubs_list {rem r xs : List W} (h : (rem.headD .fin).at (Str.ofString "special") (some (Str.ofString "(")) = true) (h1 : (rem.tail.headD .fin).at (Str.ofString "op") (some (Str.ofString "..")) = false)
    (h2 : pSubsL (rem.tail.length + 1) rem.tail [] = some (xs, r)) (h3 : (r.headD .fin).at (Str.ofString "special") (some (Str.ofString ")")) = true) : pSubs rem = some (.list xs, r.tail) := by
  unfold pSubs; rw [if_pos (show qLp _ = true from h), if_neg (show ¬ qDots _ = true from Bool.eq_false_iff.mp h1), h2]; exact if_pos h3
theorem pSubs_list0 {rem r xs : List W} (h : (rem.headD .fin).at (Str.ofString "special") (some (Str.ofString "(")) = true) (h1 : (rem.tail.headD .fin).at (Str.ofString "op") (some (Str.ofString "..")) = false)
    (h2 : pSubsL (rem.tail.length + 1) rem.tail [] = some (xs, r)) (h3 : (r.headD .fin).at (Str.ofString "special") (some (Str.ofString ")")) = false) : pSubs rem = none := by
  unfold pSubs; rw [if_pos (show qLp _ = true from h), if_neg (show ¬ qDots _ = true from Bool.eq_false_iff.mp h1), h2]; exact if_neg (Bool.eq_false_iff.mp h3)
theorem pSubs_none {rem : List W} (h : (rem.headD .fin).at (Str.ofString "special") (some (Str.ofString "(")) = true) (h1 : (rem.tail.headD .fin).at (Str.ofString "op") (some (Str.ofString "..")) = false)
    (h2 : pSubsL (rem.tail.length + 1) rem.tail [] = none) : pSubs rem = none := by
  unfold pSubs; rw [if_pos (show qLp _ = true from h), if_neg (show ¬ qDots _ = true from Bool.eq_false_iff.mp h1), h2]
theorem All2.snoc {α β : Type} {R : α → β → Prop} {l : List α} {m : List β} {a : α} {b : β} (h : All2 R l m) (r : R a b) : All2 R (l ++ [a]) (m ++ [b]) := h.append (.cons r .nil)
theorem ord_one {a b : Addr} {oa ob o : Obj} {c : Addr} {rest : List (Addr × Obj)} (h1 : @LT.lt Nat _ a c) (h2 : @LT.lt Nat _ b c) (h : AllLt c rest) : Ord ((a, oa) :: (b, ob) :: rest) [(c, o)] := ktn_ord1 ⟨h1, h2, h⟩
theorem At.len {toks : List W} {i : Int} {rem : List W} (h : At toks i rem) : rem.length ≤ toks.length := by
  obtain ⟨_, _, rfl⟩ := h
  rw [List.length_drop]; omega
theorem read_subs {w : World} {S : Cu} {toks : List W} : RS w 250 286 [.ref S.c] S toks pSubs SubsV := by
  intro rest lv i u rem C hA
  have C' := C
  obtain ⟨mc, mr, ml, hv, he, d1, d2, d3, sz⟩ := C'
  unfold CSpec; intro mean mg mb dp un gd cn cs a ccd outer A₀ base h₀ L m s Q E B F X N T hk hd' hu hret her; refine wpAny_call ?_; k_dflt ktr_enter
  k_steps
  · rename_i kF kN _ _
    exact hret _ _ _ _ ⟨_, _, _, [], .all, _, rfl, Ord.nil, pSubs_all (by assumption) (by assumption) (by assumption), by assumption, _, rfl⟩ kF (news_cons (kN _ (by k_extra "mem")) (news_cons (kN _ (by k_extra "mem")) fun p hp => kN p (by k_extra "mem")))
  · exact her (pSubs_all0 (by assumption) (by assumption) (by assumption)) _ _ _ _ (by assumption) (by assumption) (by assumption)
  · rename_i g1 L1 h4 FG1 B1 X1 T1 tk0 hc1 lv1 i1 u1 h3 tk1 hA1 l h2 l1 hh1 hc2 lv2 i2 u2 h5 tk2 hA2 F1 N1
    unfold Stop
    obtain ⟨mm, e1, e2, F1'⟩ : ∃ mm : Str → Option Value, mm (Str.ofString "cursor") = some (.ref S.c) ∧ mm (Str.ofString "found") = some (.ref l) ∧ Fr g1 L1 h5 mm := ⟨_, by exact rfl, by exact rfl, F1⟩
    clear F1
    refine whl_start 0 ?_
    refine whl_ind (fun n s' => ∃ rm lv i u vs xs k hp tk, s' = { s with heap := hp, toks := tk } ∧ rm.length < n ∧ vs.length + rm.length ≤ toks.length ∧ pSubsL n rm xs = pSubsL (rem.tail.length + 1) rem.tail [] ∧ At toks i rm ∧
      All2 (fun v (x : W) => ∃ t, v = .str x.tx t) vs xs ∧ Fr g1 L1 hp mm ∧ News g1 L1 hp ((l, listO vs k) :: (S.dc, dictC w S lv) :: (S.dr, dictR w S i u) :: rest)) (by first | passes_own | with_unfolding_all passes_own) ?_ (rem.tail.length + 1)
      ⟨rem.tail, _, _, _, [], [], 0, h5, tk2, rfl, Nat.lt_succ_self _, by have := hA2.len; simpa using this, rfl, hA2, .nil, F1', N1⟩
    clear hA2 N1 F1' hA1
    rintro n s' ⟨rm, lv3, i3, u3, vs, xs, k, hp, tk3, rfl, hn, hz, hP, hA3, hV, F3, N3⟩ ih
    cases n with
    | zero => exact absurd hn (Nat.not_lt_zero _)
    | succ n =>
    have hll := hV.length
    k_steps
    · rename_i kF kN _ _
      exact hret _ _ _ _ ⟨_, _, _, [(l, listO vs k)], .list xs, _, rfl, ord_one l1.1 l1.2.1 l1.2.2, pSubs_list hc1 hc2 (hP ▸ pSubsL_stop (by assumption)) (by assumption), by assumption, _, _, _, rfl, .head _, hV⟩ kF
        (news_cons (kN _ (by k_extra "mem")) (news_cons (kN _ (by k_extra "mem")) (news_cons (kN _ (by k_extra "mem")) fun p hp => kN p (by k_extra "mem"))))
    · exact her (pSubs_list0 hc1 hc2 (hP ▸ pSubsL_stop (by assumption)) (by assumption)) _ _ _ _ (by assumption) (by assumption) (by assumption)
    · unfold Stop
      refine ih _ ⟨_, _, _, _, _, _, _, _, _, rfl, ?_, ?_, (pSubsL_go (by assumption) (by assumption) (by assumption)).symm.trans hP, by assumption, hV.snoc ⟨_, rfl⟩, by assumption, by assumption⟩ (Nat.succ_ne_zero _)
      · have := pSub_len (by assumption)
        simp only [List.length_tail]; show _ < n; omega
      · have := pSub_len (by assumption)
        simp only [List.length_tail, List.length_append, List.length_cons, List.length_nil]; omega
    · rename_i kF kN _ _
      exact hret _ _ _ _ ⟨_, _, _, [(l, listO (vs ++ [_]) (k + 1))], .list _, _, rfl, ord_one l1.1 l1.2.1 l1.2.2, pSubs_list hc1 hc2 (hP ▸ pSubsL_brk (by assumption) (by assumption) (by assumption)) (by assumption), by assumption, _, _, _, rfl, .head _, hV.snoc ⟨_, rfl⟩⟩ kF
        (news_cons (kN _ (by k_extra "mem")) (news_cons (kN _ (by k_extra "mem")) (news_cons (kN _ (by k_extra "mem")) fun p hp => kN p (by k_extra "mem"))))
    · exact her (pSubs_list0 hc1 hc2 (hP ▸ pSubsL_brk (by assumption) (by assumption) (by assumption)) (by assumption)) _ _ _ _ (by assumption) (by assumption) (by assumption)
    · exact her (pSubs_none hc1 hc2 (hP ▸ pSubsL_none (by assumption) (by assumption))) _ _ _ _ (by assumption) (by assumption) (by assumption)
  · rename_i kF kN _ _
    exact hret _ _ _ _ ⟨_, _, _, [], .no, _, rfl, Ord.nil, pSubs_no (by assumption), by assumption, rfl⟩ kF (news_cons (kN _ (by k_extra "mem")) (news_cons (kN _ (by k_extra "mem")) fun p hp => kN p (by k_extra "mem")))


theorem wd_f_19 : True := by
  k_with "call ref" => (k_here; k_dflt ((first | (refine' RS.use read_subs (pre := []) ?_ ?_ ?_ ?_ ?_ ?_ ?_ ?_ ?_ ?_ ?_ ?_ ?_; k_extra "hk cell_call") | (refine' RS.use read_subs (pre := [_]) ?_ ?_ ?_ ?_ ?_ ?_ ?_ ?_ ?_ ?_ ?_ ?_ ?_; k_extra "hk cell_call") | (refine' RS.use read_subs (pre := [_, _]) ?_ ?_ ?_ ?_ ?_ ?_ ?_ ?_ ?_ ?_ ?_ ?_ ?_; k_extra "hk cell_call") | (refine' RS.use read_subs (pre := [_, _, _]) ?_ ?_ ?_ ?_ ?_ ?_ ?_ ?_ ?_ ?_ ?_ ?_ ?_; k_extra "hk cell_call")); k_extra "hk kas_types"); all_goals (k_whole; k_extra "hk kpt_turns"; (first | (intro _ _ _ _ _ _ _ _ _ _ _ _ _ _ _ _) | intro _ _ _ _ _ _ _ _); k_extra "hk kst_p2"))
  trivial

inductive Exp
  | value (x : W)
  | module (x : W)
  | type (x : W) (s : Subs)
def Exp.kindS : Exp → Str
  | .value _ => Str.ofString "value"
  | .module _ => Str.ofString "module"
  | .type _ _ => Str.ofString "type"
def Exp.word : Exp → W
  | .value x => x
  | .module x => x
  | .type x _ => x
def Exp.subs : Exp → Subs
  | .type _ s => s
  | _ => .no
def qMod (x : W) : Bool := x.at (Str.ofString "key") (some (Str.ofString "module"))
def qCon (x : W) : Bool := x.at (Str.ofString "con") none
def qVar (x : W) : Bool := x.at (Str.ofString "var") none
def pExp (rem : List W) : Option (Exp × List W) :=
  if qMod (rem.headD .fin) = true then (if qCon (rem.tail.headD .fin) = true then some (.module (rem.tail.headD .fin), rem.tail.tail) else none)
  else if qCon (rem.headD .fin) = true then (match pSubs rem.tail with
    | none => none
    | some (s, r) => some (.type (rem.headD .fin) s, r))
  else if qLp (rem.headD .fin) = true then (if ((rem.tail.headD .fin).kd == Str.ofString "varsym") = true then (if qRp (rem.tail.tail.headD .fin) = true then some (.value (rem.tail.headD .fin), rem.tail.tail.tail) else none) else none)
  else if qVar (rem.headD .fin) = true then some (.value (rem.headD .fin), rem.tail) else none
noncomputable abbrev expO (w : World) (T : Nat → Tok) (pv kv nv sv : Value) : Obj :=
  dictOf [ent w "place" (T 0) pv, ent w "kind" (T 1) kv, ent w "name" (T 2) nv, ent w "subs" (T 3) sv] 4
def ExpIn (w : World) (news : List (Addr × Obj)) (v : Value) (e : Exp) : Prop :=
  ∃ a d T pv u1 u2 sv, v = .ref a ∧ (a, instObj 236 d) ∈ news ∧ (d, expO w T pv (.str e.kindS u1) (.str e.word.nm u2) sv) ∈ news ∧ SubsV news sv e.subs
def toks4 (a b c d : Tok) : Nat → Tok
  | 0 => a
  | 1 => b
  | 2 => c
  | _ => d
theorem mk_export {w : World} {news : List (Addr × Obj)} {kv nv sv pv : Value} :
    CSpec w 30 236 [kv, nv, sv, pv] news (fun v n' => ∃ a d T, v = .ref a ∧ n' = (a, instObj 236 d) :: (d, expO w T pv kv nv sv) :: news ∧ (∀ p ∈ news, p.1 < d) ∧ @LT.lt Nat _ d a) False := by
  unfold CSpec; intro mean mg mb dp un gd cn cs a ccd outer A₀ base h₀ L m s Q E B F X N T hk hd' hu hret her
  k_dflt (refine' call_cls ?k1 ?k2 ?k3 ?k4 ?k5 ?k6 ?_; (case k1 => k_asm); (case k2 => k_asm); (case k3 => k_asm); (case k4 => k_is); (case k5 => k_is); (case k6 => k_is))
  intro x' d' h' F' N' l1 l2
  k_lt2 l2
  k_sweep
  k_dflt ktr_enter
  k_steps
  rename_i kF kN _ _
  exact hret _ _ _ _ ⟨x', d', toks4 _ _ _ _, rfl, rfl, l1, l2⟩ kF kN
theorem mk_export_use {w : World} {news : List (Addr × Obj)} {kv nv sv pv : Value}
    {mean : ExcName → Option Value} {mg mb : Str → Option Value} {dp un : Nat} {gd : Option (List Code)} {cn : Str} {cs : Scope} {a : Addr} {ccd : Value} {outer : List Env} {A₀ : Around} {base h₀ : Heap} {L : Addr} {m : Str → Option Value} {s : Shared} {Q E : Value → Shared → Prop} (B : Below A₀ base outer h₀) (F : Fr h₀ L s.heap m) (X : (ax.heap_1_39 w.params).In h₀) (N : News h₀ L s.heap news) (T : Top ax.view_1_40 LS mean mg mb h₀) (hk : cs.kind = .function) (h1 : dp + 30 < recursionLimit) (h2 : un + 8 * 30 < cLine)
    (ok : ∀ a d T h' tk', Fr h₀ L h' m → News h₀ L h' ((a, instObj 236 d) :: (d, expO w T pv kv nv sv) :: news) → (∀ p ∈ news, p.1 < d) → d < a → Q (.ref a) { s with heap := h', toks := tk' }) :
    wpAny (model PG w) (atop dp un gd cn cs L a ccd outer) (call (.ref 236) [kv, nv, sv, pv]) Q E s :=
  mk_export.use B F X N T hk h1 h2 (fun v n' h' tk' o F' N' => by obtain ⟨a, d, T, rfl, rfl, l1, l2⟩ := o; exact ok _ _ _ _ _ F' N' l1 l2) (fun h => h.elim)
theorem wd_f_20 : True := by
  k_with "call ref" => (k_here; k_dflt (refine' mk_export_use ?_ ?_ ?_ ?_ ?_ ?_ ?_ ?_ ?_; k_extra "hk cell_call"); k_whole; intro _ _ _ _ _ _ _ l1 l2; (try k_lt l1); (try k_lt2 l2); (try (revert l1 l2; intro _ _)); (try k_sweep))
  trivial

theorem mk_export3 {w : World} {news : List (Addr × Obj)} {kv nv sv : Value} :
    CSpec w 30 236 [kv, nv, sv] news (fun v n' => ∃ a d T, v = .ref a ∧ n' = (a, instObj 236 d) :: (d, expO w T .none kv nv sv) :: news ∧ (∀ p ∈ news, p.1 < d) ∧ @LT.lt Nat _ d a) False := by
  unfold CSpec; intro mean mg mb dp un gd cn cs a ccd outer A₀ base h₀ L m s Q E B F X N T hk hd' hu hret her
  k_dflt (refine' call_cls ?k1 ?k2 ?k3 ?k4 ?k5 ?k6 ?_; (case k1 => k_asm); (case k2 => k_asm); (case k3 => k_asm); (case k4 => k_is); (case k5 => k_is); (case k6 => k_is))
  intro x' d' h' F' N' l1 l2
  k_lt2 l2
  k_sweep
  k_dflt ktr_enter
  k_steps
  rename_i kF kN _ _
  exact hret _ _ _ _ ⟨x', d', toks4 _ _ _ _, rfl, rfl, l1, l2⟩ kF kN
theorem mk_export3_use {w : World} {news : List (Addr × Obj)} {kv nv sv : Value}
    {mean : ExcName → Option Value} {mg mb : Str → Option Value} {dp un : Nat} {gd : Option (List Code)} {cn : Str} {cs : Scope} {a : Addr} {ccd : Value} {outer : List Env} {A₀ : Around} {base h₀ : Heap} {L : Addr} {m : Str → Option Value} {s : Shared} {Q E : Value → Shared → Prop} (B : Below A₀ base outer h₀) (F : Fr h₀ L s.heap m) (X : (ax.heap_1_39 w.params).In h₀) (N : News h₀ L s.heap news) (T : Top ax.view_1_40 LS mean mg mb h₀) (hk : cs.kind = .function) (h1 : dp + 30 < recursionLimit) (h2 : un + 8 * 30 < cLine)
    (ok : ∀ a d T h' tk', Fr h₀ L h' m → News h₀ L h' ((a, instObj 236 d) :: (d, expO w T .none kv nv sv) :: news) → (∀ p ∈ news, p.1 < d) → d < a → Q (.ref a) { s with heap := h', toks := tk' }) :
    wpAny (model PG w) (atop dp un gd cn cs L a ccd outer) (call (.ref 236) [kv, nv, sv]) Q E s :=
  mk_export3.use B F X N T hk h1 h2 (fun v n' h' tk' o F' N' => by obtain ⟨a, d, T, rfl, rfl, l1, l2⟩ := o; exact ok _ _ _ _ _ F' N' l1 l2) (fun h => h.elim)
theorem wd_f_21 : True := by
  k_with "call ref" => (k_here; k_dflt (refine' mk_export3_use ?_ ?_ ?_ ?_ ?_ ?_ ?_ ?_ ?_; k_extra "hk cell_call"); k_whole; intro _ _ _ _ _ _ _ l1 l2; (try k_lt l1); (try k_lt2 l2); (try (revert l1 l2; intro _ _)); (try k_sweep))
  trivial

theorem place_ {w : World} {S : Cu} {rest : List (Addr × Obj)} {toks : List W} {lv : Value} {i : Int} {u : Tok} {rem : List W} (C : CuIn w S rest toks) (hA : At toks i rem) :
    CSpec w 30 105 [.ref S.c] ((S.dc, dictC w S lv) :: (S.dr, dictR w S i u) :: rest) (fun v n' => (∃ t, v = .ref t) ∧ n' = ((S.dc, dictC w S lv) :: (S.dr, dictR w S i u) :: rest)) False := by
  have C' := C
  obtain ⟨mc, mr, ml, hv, he, d1, d2, d3, sz⟩ := C'
  unfold CSpec; intro mean mg mb dp un gd cn cs a ccd outer A₀ base h₀ L m s Q E B F X N T hk hd' hu hret her; refine wpAny_call ?_; k_dflt ktr_enter
  k_steps
  rename_i kF kN _ _
  exact hret _ _ _ _ ⟨⟨_, rfl⟩, rfl⟩ kF (news_cons (kN _ (by k_extra "mem")) (news_cons (kN _ (by k_extra "mem")) fun p hp => kN p (by k_extra "mem")))
theorem place_use {w : World} {S : Cu} {pre rest : List (Addr × Obj)} {toks : List W} {lv : Value} {i : Int} {u : Tok} {rem : List W}
    {mean : ExcName → Option Value} {mg mb : Str → Option Value} {dp un : Nat} {gd : Option (List Code)} {cn : Str} {cs : Scope} {a : Addr} {ccd : Value} {outer : List Env} {A₀ : Around} {base h₀ : Heap} {L : Addr} {m : Str → Option Value} {s : Shared} {Q E : Value → Shared → Prop} (B : Below A₀ base outer h₀) (F : Fr h₀ L s.heap m) (X : (ax.heap_1_39 w.params).In h₀) (N : News h₀ L s.heap (pre ++ ((S.dc, dictC w S lv) :: (S.dr, dictR w S i u) :: rest))) (T : Top ax.view_1_40 LS mean mg mb h₀) (hk : cs.kind = .function) (h1 : dp + 30 < recursionLimit) (h2 : un + 8 * 30 < cLine)
    (C : CuIn w S rest toks) (hA : At toks i rem) (hp : ∀ q ∈ pre, @Ne Nat q.1 S.dc ∧ @Ne Nat q.1 S.dr)
    (ok : ∀ t h' tk', Fr h₀ L h' m → News h₀ L h' (pre ++ ((S.dc, dictC w S lv) :: (S.dr, dictR w S i u) :: rest)) → Q (.ref t) { s with heap := h', toks := tk' }) :
    wpAny (model PG w) (atop dp un gd cn cs L a ccd outer) (call (.ref 105) [.ref S.c]) Q E s :=
  (place_ (C.add hp) hA).use B F X (news_to N) T hk h1 h2 (fun v n' h' tk' o F' N' => by obtain ⟨⟨t, rfl⟩, rfl⟩ := o; exact ok _ _ _ F' (news_back N')) (fun h => h.elim)
theorem wd_f_22 : True := by
  k_with "call ref" => (k_here; k_dflt ((first | (refine' place_use (pre := []) ?_ ?_ ?_ ?_ ?_ ?_ ?_ ?_ ?_ ?_ ?_ ?_; k_extra "hk cell_call")); k_extra "hk kas_types"); k_whole; k_extra "hk kpt_turns"; intro _ _ _ _ _; (try k_sweep))
  trivial



theorem ne_f {x y : Str} (h : (x != y) = false) : (x == y) = true := by cases hx : (x == y) with
  | true => rfl
  | false => rw [bne, hx] at h; cases h
theorem ne_t {x y : Str} (h : (x != y) = true) : (x == y) = false := by cases hx : (x == y) with
  | false => rfl
  | true => rw [bne, hx] at h; cases h
theorem pExp_m {rem : List W} (h1 : (rem.headD .fin).at (Str.ofString "key") (some (Str.ofString "module")) = true) (h2 : (rem.tail.headD .fin).at (Str.ofString "con") none = true) : pExp rem = some (.module (rem.tail.headD .fin), rem.tail.tail) := by
  unfold pExp; rw [if_pos (show qMod _ = true from h1)]; exact if_pos h2
theorem pExp_m0 {rem : List W} (h1 : (rem.headD .fin).at (Str.ofString "key") (some (Str.ofString "module")) = true) (h2 : (rem.tail.headD .fin).at (Str.ofString "con") none = false) : pExp rem = none := by
  unfold pExp; rw [if_pos (show qMod _ = true from h1)]; exact if_neg (Bool.eq_false_iff.mp h2)
theorem pExp_t {rem r : List W} {s : Subs} (h1 : (rem.headD .fin).at (Str.ofString "key") (some (Str.ofString "module")) = false) (h2 : (rem.headD .fin).at (Str.ofString "con") none = true) (h3 : pSubs rem.tail = some (s, r)) : pExp rem = some (.type (rem.headD .fin) s, r) := by
  unfold pExp; rw [if_neg (show ¬ qMod _ = true from Bool.eq_false_iff.mp h1), if_pos (show qCon _ = true from h2), h3]
theorem pExp_t0 {rem : List W} (h1 : (rem.headD .fin).at (Str.ofString "key") (some (Str.ofString "module")) = false) (h2 : (rem.headD .fin).at (Str.ofString "con") none = true) (h3 : pSubs rem.tail = none) : pExp rem = none := by
  unfold pExp; rw [if_neg (show ¬ qMod _ = true from Bool.eq_false_iff.mp h1), if_pos (show qCon _ = true from h2), h3]
theorem pExp_o {rem : List W} (h1 : (rem.headD .fin).at (Str.ofString "key") (some (Str.ofString "module")) = false) (h2 : (rem.headD .fin).at (Str.ofString "con") none = false) (h3 : (rem.headD .fin).at (Str.ofString "special") (some (Str.ofString "(")) = true) (h4 : ((rem.tail.headD .fin).kd != Str.ofString "varsym") = false) (h5 : (rem.tail.tail.headD .fin).at (Str.ofString "special") (some (Str.ofString ")")) = true) : pExp rem = some (.value (rem.tail.headD .fin), rem.tail.tail.tail) := by
  unfold pExp; rw [if_neg (show ¬ qMod _ = true from Bool.eq_false_iff.mp h1), if_neg (show ¬ qCon _ = true from Bool.eq_false_iff.mp h2), if_pos (show qLp _ = true from h3), if_pos (ne_f h4)]; exact if_pos h5
theorem pExp_o0 {rem : List W} (h1 : (rem.headD .fin).at (Str.ofString "key") (some (Str.ofString "module")) = false) (h2 : (rem.headD .fin).at (Str.ofString "con") none = false) (h3 : (rem.headD .fin).at (Str.ofString "special") (some (Str.ofString "(")) = true) (h4 : ((rem.tail.headD .fin).kd != Str.ofString "varsym") = false) (h5 : (rem.tail.tail.headD .fin).at (Str.ofString "special") (some (Str.ofString ")")) = false) : pExp rem = none := by
  unfold pExp; rw [if_neg (show ¬ qMod _ = true from Bool.eq_false_iff.mp h1), if_neg (show ¬ qCon _ = true from Bool.eq_false_iff.mp h2), if_pos (show qLp _ = true from h3), if_pos (ne_f h4)]; exact if_neg (Bool.eq_false_iff.mp h5)
theorem pExp_o1 {rem : List W} (h1 : (rem.headD .fin).at (Str.ofString "key") (some (Str.ofString "module")) = false) (h2 : (rem.headD .fin).at (Str.ofString "con") none = false) (h3 : (rem.headD .fin).at (Str.ofString "special") (some (Str.ofString "(")) = true) (h4 : ((rem.tail.headD .fin).kd != Str.ofString "varsym") = true) : pExp rem = none := by
  unfold pExp; rw [if_neg (show ¬ qMod _ = true from Bool.eq_false_iff.mp h1), if_neg (show ¬ qCon _ = true from Bool.eq_false_iff.mp h2), if_pos (show qLp _ = true from h3), if_neg (Bool.eq_false_iff.mp (ne_t h4))]
theorem pExp_v {rem : List W} (h1 : (rem.headD .fin).at (Str.ofString "key") (some (Str.ofString "module")) = false) (h2 : (rem.headD .fin).at (Str.ofString "con") none = false) (h3 : (rem.headD .fin).at (Str.ofString "special") (some (Str.ofString "(")) = false) (h4 : (rem.headD .fin).at (Str.ofString "var") none = true) : pExp rem = some (.value (rem.headD .fin), rem.tail) := by
  unfold pExp; rw [if_neg (show ¬ qMod _ = true from Bool.eq_false_iff.mp h1), if_neg (show ¬ qCon _ = true from Bool.eq_false_iff.mp h2), if_neg (show ¬ qLp _ = true from Bool.eq_false_iff.mp h3)]; exact if_pos h4
theorem pExp_v0 {rem : List W} (h1 : (rem.headD .fin).at (Str.ofString "key") (some (Str.ofString "module")) = false) (h2 : (rem.headD .fin).at (Str.ofString "con") none = false) (h3 : (rem.headD .fin).at (Str.ofString "special") (some (Str.ofString "(")) = false) (h4 : (rem.headD .fin).at (Str.ofString "var") none = false) : pExp rem = none := by
  unfold pExp; rw [if_neg (show ¬ qMod _ = true from Bool.eq_false_iff.mp h1), if_neg (show ¬ qCon _ = true from Bool.eq_false_iff.mp h2), if_neg (show ¬ qLp _ = true from Bool.eq_false_iff.mp h3)]; exact if_neg (Bool.eq_false_iff.mp h4)
theorem ord_cons2 {a b : Addr} {o1 o2 o1' o2' od ox : Obj} {d x : Addr} {rest tl : List (Addr × Obj)} (h : @LT.lt Nat _ a d ∧ @LT.lt Nat _ b d ∧ AllLt d (tl ++ rest)) (l2 : @LT.lt Nat _ d x) (hO : Ord ((a, o1) :: (b, o2) :: rest) tl) :
    Ord ((a, o1') :: (b, o2') :: rest) ((x, ox) :: (d, od) :: tl) := by
  have hd : ∀ q ∈ (a, o1') :: (b, o2') :: rest, @LT.lt Nat _ q.1 d := fun q hq => by
    rcases List.mem_cons.mp hq with rfl | hq
    · exact h.1
    · rcases List.mem_cons.mp hq with rfl | hq
      · exact h.2.1
      · exact ktn_ltOf h.2.2 q (List.mem_append_right _ hq)
  intro q hq p hp
  rcases List.mem_cons.mp hp with rfl | hp
  · exact Nat.lt_trans (hd q hq) l2
  · rcases List.mem_cons.mp hp with rfl | hp
    · exact hd q hq
    · rcases List.mem_cons.mp hq with rfl | hq
      · exact hO _ (.head _) p hp
      · rcases List.mem_cons.mp hq with rfl | hq
        · exact hO _ (.tail _ (.head _)) p hp
        · exact hO q (.tail _ (.tail _ hq)) p hp
theorem ord_two {a b : Addr} {o1' o2' od ox : Obj} {d x : Addr} {rest : List (Addr × Obj)} (h : @LT.lt Nat _ a d ∧ @LT.lt Nat _ b d ∧ AllLt d rest) (l2 : @LT.lt Nat _ d x) :
    Ord ((a, o1') :: (b, o2') :: rest) [(x, ox), (d, od)] := ord_cons2 (o1 := o1') (o2 := o2') (tl := []) h l2 Ord.nil
theorem SubsV.mono {tl tl' : List (Addr × Obj)} (h : ∀ p ∈ tl, p ∈ tl') {v : Value} : ∀ {x : Subs}, SubsV tl v x → SubsV tl' v x
  | .no, hv => hv
  | .all, hv => hv
  | .list _, ⟨a, vs, n, e, hm, r⟩ => ⟨a, vs, n, e, h _ hm, r⟩
theorem read_export {w : World} {S : Cu} {toks : List W} : RS w 300 293 [.ref S.c] S toks pExp (ExpIn w) := by
  intro rest lv i u rem C hA
  have C' := C
  obtain ⟨mc, mr, ml, hv, he, d1, d2, d3, sz⟩ := C'
  unfold CSpec; intro mean mg mb dp un gd cn cs a ccd outer A₀ base h₀ L m s Q E B F X N T hk hd' hu hret her; refine wpAny_call ?_; k_dflt ktr_enter
  k_steps
  all_goals first
    | exact her (pExp_m0 (by assumption) (by assumption)) _ _ _ _ (by assumption) (by assumption) (by assumption)
    | exact her (pExp_t0 (by assumption) (by assumption) (by assumption)) _ _ _ _ (by assumption) (by assumption) (by assumption)
    | exact her (pExp_o0 (by assumption) (by assumption) (by assumption) (by assumption) (by assumption)) _ _ _ _ (by assumption) (by assumption) (by assumption)
    | exact her (pExp_o1 (by assumption) (by assumption) (by assumption) (by assumption)) _ _ _ _ (by assumption) (by assumption) (by assumption)
    | exact her (pExp_v0 (by assumption) (by assumption) (by assumption) (by assumption)) _ _ _ _ (by assumption) (by assumption) (by assumption)
    | (rename_i x' d' T' h' tk' F' N' l1 l2 kF kN Tc kX
       exact hret _ _ _ _ ⟨_, _, _, (x', instObj 236 d') :: (d', expO w T' _ _ _ _) :: [], _, _, rfl, ord_two l1 l2, pExp_m (by assumption) (by assumption), by assumption, x', d', T', _, _, _, _, rfl, .head _, .tail _ (.head _), rfl⟩ kF (news_cons (kN _ (by k_extra "mem")) (news_cons (kN _ (by k_extra "mem")) (news_cons (kN _ (.head _)) (news_cons (kN _ (.tail _ (.head _))) fun p hp => kN p (by k_extra "mem"))))))
    | (rename_i x' d' T' h' tk' F' N' l1 l2 kF kN Tc kX
       exact hret _ _ _ _ ⟨_, _, _, (x', instObj 236 d') :: (d', expO w T' _ _ _ _) :: [], _, _, rfl, ord_two l1 l2, pExp_o (by assumption) (by assumption) (by assumption) (by assumption) (by assumption), by assumption, x', d', T', _, _, _, _, rfl, .head _, .tail _ (.head _), rfl⟩ kF (news_cons (kN _ (by k_extra "mem")) (news_cons (kN _ (by k_extra "mem")) (news_cons (kN _ (.head _)) (news_cons (kN _ (.tail _ (.head _))) fun p hp => kN p (by k_extra "mem"))))))
    | (rename_i x' d' T' h' tk' F' N' l1 l2 kF kN Tc kX
       exact hret _ _ _ _ ⟨_, _, _, (x', instObj 236 d') :: (d', expO w T' _ _ _ _) :: [], _, _, rfl, ord_two l1 l2, pExp_v (by assumption) (by assumption) (by assumption) (by assumption), by assumption, x', d', T', _, _, _, _, rfl, .head _, .tail _ (.head _), rfl⟩ kF (news_cons (kN _ (by k_extra "mem")) (news_cons (kN _ (by k_extra "mem")) (news_cons (kN _ (.head _)) (news_cons (kN _ (.tail _ (.head _))) fun p hp => kN p (by k_extra "mem"))))))
    | (rename_i tl1 _ _ _ _ hA9 C9 hO hV x' d' T' h' tk' F' N' l1 l2 kF kN Tc kX
       exact hret _ _ _ _ ⟨_, _, _, (x', instObj 236 d') :: (d', expO w T' _ _ _ _) :: _, _, _, rfl, ord_cons2 l1 l2 hO, pExp_t (by assumption) (by assumption) (by assumption), hA9, x', d', T', _, _, _, _, rfl, .head _, .tail _ (.head _), hV.mono fun p hp => .tail _ (.tail _ hp)⟩ kF (news_cons (kN _ (by k_extra "mem")) (news_cons (kN _ (by k_extra "mem")) (news_cons (kN _ (.head _)) (news_cons (kN _ (.tail _ (.head _))) fun p hp => kN p (by k_extra "mem"))))))


theorem wd_f_23 : True := by
  k_with "call ref" => (k_here; k_dflt ((first | (refine' RS.use read_export (pre := []) ?_ ?_ ?_ ?_ ?_ ?_ ?_ ?_ ?_ ?_ ?_ ?_ ?_; k_extra "hk cell_call") | (refine' RS.use read_export (pre := [_]) ?_ ?_ ?_ ?_ ?_ ?_ ?_ ?_ ?_ ?_ ?_ ?_ ?_; k_extra "hk cell_call") | (refine' RS.use read_export (pre := [_, _]) ?_ ?_ ?_ ?_ ?_ ?_ ?_ ?_ ?_ ?_ ?_ ?_ ?_; k_extra "hk cell_call") | (refine' RS.use read_export (pre := [_, _, _]) ?_ ?_ ?_ ?_ ?_ ?_ ?_ ?_ ?_ ?_ ?_ ?_ ?_; k_extra "hk cell_call")); k_extra "hk kas_types"); all_goals (k_whole; k_extra "hk kpt_turns"; (first | (intro _ _ _ _ _ _ _ _ _ _ _ _ _ _ _ _) | intro _ _ _ _ _ _ _ _); k_extra "hk kst_p2"))
  trivial

theorem pSubsL_len : ∀ {n : Nat} {rem acc xs r : List W}, pSubsL n rem acc = some (xs, r) → r.length ≤ rem.length
  | 0, _, _, _, _, h => by cases h
  | n + 1, rem, acc, xs, r, h => by
    rw [pSubsL] at h
    split at h
    · cases h; exact Nat.le_refl _
    · split at h
      · cases h
      · rename_i x r' q
        have h1 := pSub_len q
        split at h
        · have h2 := pSubsL_len h
          rw [List.length_tail] at h2
          omega
        · cases h; omega
theorem pSubs_len {rem r : List W} {s : Subs} (h : pSubs rem = some (s, r)) : r.length ≤ rem.length := by
  unfold pSubs at h
  split at h
  · split at h
    · split at h
      · cases h; simp only [List.length_tail]; omega
      · cases h
    · split at h
      · cases h
      · rename_i xs r' q
        split at h
        · cases h
          have := pSubsL_len q
          simp only [List.length_tail] at this ⊢; omega
        · cases h
  · cases h; exact Nat.le_refl _
theorem pExp_nil : pExp [] = none := by
  have h1 : qMod W.fin = false := by decide +kernel
  have h2 : qCon W.fin = false := by decide +kernel
  have h3 : qLp W.fin = false := by decide +kernel
  have h4 : qVar W.fin = false := by decide +kernel
  unfold pExp
  simp only [List.headD_nil, h1, h2, h3, h4, Bool.false_eq_true, if_false]
theorem pExp_len {rem r : List W} {e : Exp} (h : pExp rem = some (e, r)) : r.length < rem.length := by
  cases rem with
  | nil => rw [pExp_nil] at h; cases h
  | cons a l =>
    unfold pExp at h
    (repeat' split at h) <;> first
      | (cases h; done)
      | (cases h; simp only [List.tail_cons, List.length_tail, List.length_cons]; omega)
      | (rename_i q; cases h; have := pSubs_len q; simp only [List.tail_cons, List.length_cons] at this ⊢; omega)
def pExpsL : Nat → List W → List Exp → Option (List Exp × List W)
  | 0, _, _ => none
  | n + 1, rem, acc => if qRp (rem.headD .fin) = true then some (acc, rem) else (match pExp rem with
    | none => none
    | some (x, r) => if qCm (r.headD .fin) = true then pExpsL n r.tail (acc ++ [x]) else some (acc ++ [x], r))
def pExps (rem : List W) : Option (Option (List Exp) × List W) :=
  if qLp (rem.headD .fin) = true then (match pExpsL (rem.tail.length + 1) rem.tail [] with
    | none => none
    | some (xs, r) => if qRp (r.headD .fin) = true then some (some xs, r.tail) else none)
  else some (none, rem)
theorem pExpsL_stop {n : Nat} {rem : List W} {acc : List Exp} (h : (rem.headD .fin).at (Str.ofString "special") (some (Str.ofString ")")) = true) : pExpsL (n + 1) rem acc = some (acc, rem) := if_pos h
theorem pExpsL_none {n : Nat} {rem : List W} {acc : List Exp} (h : (rem.headD .fin).at (Str.ofString "special") (some (Str.ofString ")")) = false) (h1 : pExp rem = none) : pExpsL (n + 1) rem acc = none := by
  unfold pExpsL; rw [if_neg (show ¬ qRp _ = true from Bool.eq_false_iff.mp h), h1]
theorem pExpsL_brk {n : Nat} {rem r : List W} {acc : List Exp} {x : Exp} (h : (rem.headD .fin).at (Str.ofString "special") (some (Str.ofString ")")) = false) (h1 : pExp rem = some (x, r)) (h2 : (r.headD .fin).at (Str.ofString "special") (some (Str.ofString ",")) = false) : pExpsL (n + 1) rem acc = some (acc ++ [x], r) := by
  unfold pExpsL; rw [if_neg (show ¬ qRp _ = true from Bool.eq_false_iff.mp h), h1]; exact if_neg (Bool.eq_false_iff.mp h2)
theorem pExpsL_go {n : Nat} {rem r : List W} {acc : List Exp} {x : Exp} (h : (rem.headD .fin).at (Str.ofString "special") (some (Str.ofString ")")) = false) (h1 : pExp rem = some (x, r)) (h2 : (r.headD .fin).at (Str.ofString "special") (some (Str.ofString ",")) = true) : pExpsL (n + 1) rem acc = pExpsL n r.tail (acc ++ [x]) := by
  rw [pExpsL, if_neg (show ¬ qRp _ = true from Bool.eq_false_iff.mp h), h1]; exact if_pos h2
theorem pExps_no {rem : List W} (h : (rem.headD .fin).at (Str.ofString "special") (some (Str.ofString "(")) = false) : pExps rem = some (none, rem) := if_neg (Bool.eq_false_iff.mp h)
theorem pExps_list {rem r : List W} {xs : List Exp} (h : (rem.headD .fin).at (Str.ofString "special") (some (Str.ofString "(")) = true) (h2 : pExpsL (rem.tail.length + 1) rem.tail [] = some (xs, r)) (h3 : (r.headD .fin).at (Str.ofString "special") (some (Str.ofString ")")) = true) : pExps rem = some (some xs, r.tail) := by
  unfold pExps; rw [if_pos (show qLp _ = true from h), h2]; exact if_pos h3
theorem pExps_list0 {rem r : List W} {xs : List Exp} (h : (rem.headD .fin).at (Str.ofString "special") (some (Str.ofString "(")) = true) (h2 : pExpsL (rem.tail.length + 1) rem.tail [] = some (xs, r)) (h3 : (r.headD .fin).at (Str.ofString "special") (some (Str.ofString ")")) = false) : pExps rem = none := by
  unfold pExps; rw [if_pos (show qLp _ = true from h), h2]; exact if_neg (Bool.eq_false_iff.mp h3)
theorem pExps_none {rem : List W} (h : (rem.headD .fin).at (Str.ofString "special") (some (Str.ofString "(")) = true) (h2 : pExpsL (rem.tail.length + 1) rem.tail [] = none) : pExps rem = none := by
  unfold pExps; rw [if_pos (show qLp _ = true from h), h2]
def ExpsV (w : World) (news : List (Addr × Obj)) (v : Value) : Option (List Exp) → Prop
  | none => v = .none
  | some es => ∃ a vs n, v = .ref a ∧ (a, listO vs n) ∈ news ∧ All2 (ExpIn w news) vs es
theorem ExpIn.mono {w : World} {tl tl' : List (Addr × Obj)} {v : Value} {e : Exp} (h : ExpIn w tl v e) (s : ∀ p ∈ tl, p ∈ tl') : ExpIn w tl' v e := by
  obtain ⟨a, d, T, pv, u1, u2, sv, rfl, h1, h2, h3⟩ := h
  exact ⟨a, d, T, pv, u1, u2, sv, rfl, s _ h1, s _ h2, h3.mono s⟩
theorem Ord.at {a b : Addr} {o1 o2 o1' o2' : Obj} {rest tl : List (Addr × Obj)} (h : Ord ((a, o1) :: (b, o2) :: rest) tl) : Ord ((a, o1') :: (b, o2') :: rest) tl := fun q hq p hp => by
  rcases List.mem_cons.mp hq with rfl | hq
  · exact h _ (.head _) p hp
  · rcases List.mem_cons.mp hq with rfl | hq
    · exact h _ (.tail _ (.head _)) p hp
    · exact h q (.tail _ (.tail _ hq)) p hp
theorem ord_grow {a b l : Addr} {o1 o2 o3 o4 o5 o6 o7 : Obj} {rest tl tl0 : List (Addr × Obj)} (h : Ord ((a, o1) :: (b, o2) :: rest) ((l, o3) :: tl0)) (h' : Ord ((l, o5) :: (a, o6) :: (b, o7) :: (tl0 ++ rest)) tl) :
    Ord ((a, o1) :: (b, o2) :: rest) ((l, o4) :: (tl ++ tl0)) := fun q hq p hp => by
  have h2 : ∀ p ∈ tl, @LT.lt Nat _ q.1 p.1 := fun p hp => by
    rcases List.mem_cons.mp hq with rfl | hq
    · exact h' _ (.tail _ (.head _)) p hp
    · rcases List.mem_cons.mp hq with rfl | hq
      · exact h' _ (.tail _ (.tail _ (.head _))) p hp
      · exact h' q (.tail _ (.tail _ (.tail _ (List.mem_append_right _ hq)))) p hp
  rcases List.mem_cons.mp hp with rfl | hp
  · exact h q hq (l, o3) (.head _)
  · rcases List.mem_append.mp hp with hp | hp
    · exact h2 p hp
    · exact h q hq p (.tail _ hp)
theorem read_exports {w : World} {S : Cu} {toks : List W} : RS w 400 300 [.ref S.c] S toks pExps (ExpsV w) := by
  intro rest lv i u rem C hA
  have C' := C
  obtain ⟨mc, mr, ml, hv, he, d1, d2, d3, sz⟩ := C'
  unfold CSpec; intro mean mg mb dp un gd cn cs a ccd outer A₀ base h₀ L m s Q E B F X N T hk hd' hu hret her; refine wpAny_call ?_; k_dflt ktr_enter
  k_steps
  · rename_i g1 L1 h4 FG1 B1 X1 T1 tk0 hc1 lv1 i1 u1 h3 tk1 hA1 l h2 l1 h5 F1 N1
    unfold Stop
    obtain ⟨mm, e1, e2, F1'⟩ : ∃ mm : Str → Option Value, mm (Str.ofString "cursor") = some (.ref S.c) ∧ mm (Str.ofString "found") = some (.ref l) ∧ Fr g1 L1 h5 mm := ⟨_, by exact rfl, by exact rfl, F1⟩
    clear F1
    refine whl_start 0 ?_
    refine whl_ind (fun n s' => ∃ rm lv i u vs xs k hp tk tl0, s' = { s with heap := hp, toks := tk } ∧ rm.length < n ∧ vs.length + rm.length ≤ toks.length ∧ pExpsL n rm xs = pExpsL (rem.tail.length + 1) rem.tail [] ∧ At toks i rm ∧
      CuIn w S (tl0 ++ rest) toks ∧ Ord ((S.dc, dictC w S lv1) :: (S.dr, dictR w S i1 u1) :: rest) ((l, listO vs k) :: tl0) ∧ (∀ p ∈ tl0 ++ rest, p.1 ≠ l) ∧
      All2 (ExpIn w tl0) vs xs ∧ Fr g1 L1 hp mm ∧ News g1 L1 hp ((l, listO vs k) :: (S.dc, dictC w S lv) :: (S.dr, dictR w S i u) :: (tl0 ++ rest))) (by first | passes_own | with_unfolding_all passes_own) ?_ (rem.tail.length + 1)
      ⟨rem.tail, _, _, _, [], [], 0, h5, tk, [], rfl, Nat.lt_succ_self _, by have := hA1.len; simpa using this, rfl, hA1, C, ord_one l1.1 l1.2.1 l1.2.2, allLt_ne l1.2.2, .nil, F1', N1⟩
    clear N1 F1' hA1 mc mr ml he hv
    have g1l : @LT.lt Nat _ S.dc l := l1.1
    have g2l : @LT.lt Nat _ S.dr l := l1.2.1
    rintro n s' ⟨rm, lv3, i3, u3, vs, xs, k, hp, tk3, tl0, rfl, hn, hz, hP, hA3, C3, hO3, hne, hV, F3, N3⟩ ih
    cases n with
    | zero => exact absurd hn (Nat.not_lt_zero _)
    | succ n =>
    have hll := hV.length
    have C3' := C3
    obtain ⟨mc, mr, ml, hv, he, d1', d2', _, _⟩ := C3'
    k_steps
    · rename_i kF kN _ _
      exact hret _ _ _ _ ⟨_, _, _, (l, listO vs k) :: tl0, some xs, _, rfl, hO3.at, pExps_list hc1 (hP ▸ pExpsL_stop (by assumption)) (by assumption), by assumption, l, vs, k, rfl, .head _, hV.imp fun _ _ h => h.mono fun p hp => .tail _ hp⟩ kF
        (news_cons (kN _ (by k_extra "mem")) (news_cons (kN _ (by k_extra "mem")) (news_cons (kN _ (by k_extra "mem")) fun p hp => kN p (by k_extra "mem"))))
    · exact her (pExps_list0 hc1 (hP ▸ pExpsL_stop (by assumption)) (by assumption)) _ _ _ _ (by assumption) (by assumption) (by assumption)
    · rename_i v lv4 i4 u4 tl x rem' h6 tk4 he4 hA4 C4 hO4 hV4 h7 hc4 lv5 i5 u5 h8 tk5 hA5 F5 N5
      unfold Stop
      refine ih _ ⟨_, _, _, _, _, _, _, _, _, tl ++ tl0, rfl, ?_, ?_, (pExpsL_go (by assumption) he4 hc4).symm.trans hP, hA5, by rw [List.append_assoc]; exact C4, ord_grow hO3 hO4, ?_,
        (hV.imp fun _ _ h => h.mono fun p hp => List.mem_append_right _ hp).snoc (hV4.mono fun p hp => List.mem_append_left _ hp), F5, by rw [List.append_assoc]; exact N5⟩ (Nat.succ_ne_zero _)
      · have := pExp_len he4
        simp only [List.length_tail]; show _ < n; omega
      · have := pExp_len he4
        simp only [List.length_tail, List.length_append, List.length_cons, List.length_nil]; omega
      · rw [List.append_assoc]
        exact all_app (ord_ne hO4 (.head _)) hne
    · rename_i v lv4 i4 u4 tl x rem' h6 tk4 he4 hA4 C4 hO4 hV4 h7 hc4 lv5 i5 u5 h8 tk5 hA5 wa6 d6 T6 lv6 i6 u6 h9 tk6 hw6 hw7 hw8 hw9 hA6 F5 N5 kF kN Tc kX
      exact hret _ _ _ _ ⟨_, _, _, (l, listO (vs ++ [v]) (k + 1)) :: (tl ++ tl0), some (xs ++ [x]), _, rfl, (ord_grow hO3 hO4).at, pExps_list hc1 (hP ▸ pExpsL_brk (by assumption) he4 hc4) hw6, hA6, l, _, _, rfl, .head _,
        (hV.imp fun _ _ h => h.mono fun p hp => .tail _ (List.mem_append_right _ hp)).snoc (hV4.mono fun p hp => .tail _ (List.mem_append_left _ hp))⟩ kF
        (news_cons (kN _ (by k_extra "mem")) (news_cons (kN _ (by k_extra "mem")) (news_cons (kN _ (by k_extra "mem")) (show News _ _ _ ((tl ++ tl0) ++ rest) from by rw [List.append_assoc]; exact fun p hp => kN p (by k_extra "mem")))))
    · exact her (pExps_list0 hc1 (hP ▸ pExpsL_brk (by assumption) (by assumption) (by assumption)) (by assumption)) _ _ _ _ (by assumption) (by assumption) (by assumption)
    · exact her (pExps_none hc1 (hP ▸ pExpsL_none (by assumption) (by assumption))) _ _ _ _ (by assumption) (by assumption) (by assumption)
  · rename_i kF kN _ _
    exact hret _ _ _ _ ⟨_, _, _, [], none, _, rfl, Ord.nil, pExps_no (by assumption), by assumption, rfl⟩ kF (news_cons (kN _ (by k_extra "mem")) (news_cons (kN _ (by k_extra "mem")) fun p hp => kN p (by k_extra "mem")))


theorem read_exports_use {w : World} {S : Cu} {toks : List W} {pre rest : List (Addr × Obj)} {lv : Value} {i : Int} {u : Tok} {rem : List W}
    {mean : ExcName → Option Value} {mg mb : Str → Option Value} {dp un : Nat} {gd : Option (List Code)} {cn : Str} {cs : Scope} {a : Addr} {ccd : Value} {outer : List Env} {A₀ : Around} {base h₀ : Heap} {L : Addr} {m : Str → Option Value} {s : Shared} {Q E : Value → Shared → Prop} (B : Below A₀ base outer h₀) (F : Fr h₀ L s.heap m) (X : (ax.heap_1_39 w.params).In h₀) (N : News h₀ L s.heap (pre ++ ((S.dc, dictC w S lv) :: (S.dr, dictR w S i u) :: rest))) (T : Top ax.view_1_40 LS mean mg mb h₀) (hk : cs.kind = .function) (h1 : dp + 400 < recursionLimit) (h2 : un + 8 * 400 < cLine)
    (C : CuIn w S rest toks) (hA : At toks i rem) (hp : ∀ q ∈ pre, @Ne Nat q.1 S.dc ∧ @Ne Nat q.1 S.dr)
    (okN : ∀ lv' i' u' tl rem' h' tk', pExps rem = some (none, rem') → At toks i' rem' → CuIn w S (tl ++ rest) toks → Ord (pre ++ ((S.dc, dictC w S lv) :: (S.dr, dictR w S i u) :: rest)) tl → Fr h₀ L h' m → News h₀ L h' (pre ++ (S.dc, dictC w S lv') :: (S.dr, dictR w S i' u') :: (tl ++ rest)) → Q .none { s with heap := h', toks := tk' })
    (okS : ∀ l vs n lv' i' u' tl es rem' h' tk', pExps rem = some (some es, rem') → At toks i' rem' → CuIn w S (tl ++ rest) toks → Ord (pre ++ ((S.dc, dictC w S lv) :: (S.dr, dictR w S i u) :: rest)) tl → (l, listO vs n) ∈ tl → All2 (ExpIn w tl) vs es → Fr h₀ L h' m → News h₀ L h' (pre ++ (S.dc, dictC w S lv') :: (S.dr, dictR w S i' u') :: (tl ++ rest)) → Q (.ref l) { s with heap := h', toks := tk' })
    (er : pExps rem = none → ∀ e h' tk' g₂, RaisedSN base g₂ (envOf cn cs L a ccd :: outer) e (.ref 52) [] h' → Fr h₀ L g₂ m → g₂.UpToSlots h' → E (.ref e) { s with heap := h', toks := tk' }) :
    wpAny (model PG w) (atop dp un gd cn cs L a ccd outer) (call (.ref 300) [.ref S.c]) Q E s :=
  RS.use read_exports B F X N T hk h1 h2 C hA hp (fun v lv' i' u' tl x rem' h' tk' e hA' C' hO hV F' N' => by
    cases x with
    | none => rw [show v = .none from hV]; exact okN _ _ _ _ _ _ _ e hA' C' hO F' N'
    | some es => obtain ⟨l, vs, n, rfl, h3, h4⟩ := hV; exact okS _ _ _ _ _ _ _ _ _ _ _ e hA' C' hO h3 h4 F' N') er
theorem wd_f_24 : True := by
  k_with "call ref" => (k_here; k_dflt ((first | (refine' read_exports_use (pre := [_, _]) ?_ ?_ ?_ ?_ ?_ ?_ ?_ ?_ ?_ ?_ ?_ ?_ ?_ ?_; k_extra "hk cell_call") | (refine' read_exports_use (pre := [_]) ?_ ?_ ?_ ?_ ?_ ?_ ?_ ?_ ?_ ?_ ?_ ?_ ?_ ?_; k_extra "hk cell_call") | (refine' read_exports_use (pre := []) ?_ ?_ ?_ ?_ ?_ ?_ ?_ ?_ ?_ ?_ ?_ ?_ ?_ ?_; k_extra "hk cell_call")); k_extra "hk kas_types"); all_goals (k_whole; k_extra "hk kpt_turns"; (first | intro _ _ _ _ _ _ _ _ _ _ _ _ _ _ _ _ _ _ _ | intro _ _ _ _ _ _ _ _ _ _ _ _ _ | intro _ _ _ _ _ _ _ _); k_extra "hk kst_p2"))
  trivial

structure Imp where
  mod : W
  names : Option (List Exp)
  hid : Bool
  far : Bool
  al : Option W
def qVw (t : String) (x : W) : Bool := x.at (Str.ofString "var") (some (Str.ofString t))
def skip (t : String) (rem : List W) : List W := if qVw t (rem.headD .fin) = true then rem.tail else rem
def pImpT (far : Bool) (m : W) (al : Option W) (rem : List W) : Option (Imp × List W) := match pExps (skip "hiding" rem) with
  | none => none
  | some (ns, r) => if (qVw "hiding" (rem.headD .fin) && ns.isNone) = true then none else some (⟨m, ns, qVw "hiding" (rem.headD .fin), far, al⟩, r)
def pImp (rem : List W) : Option (Imp × List W) :=
  if qCon ((skip "qualified" rem).headD .fin) = true then
    (if qVw "as" ((skip "qualified" rem).tail.headD .fin) = true then
      (if qCon ((skip "qualified" rem).tail.tail.headD .fin) = true then pImpT (qVw "qualified" (rem.headD .fin)) ((skip "qualified" rem).headD .fin) (some ((skip "qualified" rem).tail.tail.headD .fin)) (skip "qualified" rem).tail.tail.tail else none)
    else pImpT (qVw "qualified" (rem.headD .fin)) ((skip "qualified" rem).headD .fin) none (skip "qualified" rem).tail)
  else none
theorem take_qualified_use {w : World} {S : Cu} {pre rest : List (Addr × Obj)} {toks : List W} {lv : Value} {i : Int} {u : Tok} {rem : List W} {k1 k2 : Tok}
    {mean : ExcName → Option Value} {mg mb : Str → Option Value} {dp un : Nat} {gd : Option (List Code)} {cn : Str} {cs : Scope} {a : Addr} {ccd : Value} {outer : List Env} {A₀ : Around} {base h₀ : Heap} {L : Addr} {m : Str → Option Value} {s : Shared} {Q E : Value → Shared → Prop} (B : Below A₀ base outer h₀) (F : Fr h₀ L s.heap m) (X : (ax.heap_1_39 w.params).In h₀) (N : News h₀ L s.heap (pre ++ ((S.dc, dictC w S lv) :: (S.dr, dictR w S i u) :: rest))) (T : Top ax.view_1_40 LS mean mg mb h₀) (hk : cs.kind = .function) (h1 : dp + 20 < recursionLimit) (h2 : un + 8 * 20 < cLine)
    (C : CuIn w S rest toks) (hA : At toks i rem) (hp : ∀ q ∈ pre, @Ne Nat q.1 S.dc ∧ @Ne Nat q.1 S.dr)
    (ok : ∀ lv' i' u' h' tk', At toks i' (skip "qualified" rem) → Fr h₀ L h' m → News h₀ L h' (pre ++ (S.dc, dictC w S lv') :: (S.dr, dictR w S i' u') :: rest) → Q (.bool (qVw "qualified" (rem.headD .fin))) { s with heap := h', toks := tk' }) :
    wpAny (model PG w) (atop dp un gd cn cs L a ccd outer) (call (.ref 135) [.ref S.c, .str (Str.ofString "var") k1, .str (Str.ofString "qualified") k2]) Q E s :=
  (take_ (C.add hp) hA).use B F X (news_to N) T hk h1 h2 (fun v n' h' tk' o F' N' => by obtain ⟨rfl, lv', i', u', rfl, hA'⟩ := o; exact ok _ _ _ _ _ hA' F' (news_back N')) (fun h => h.elim)
theorem wd_f_25 : True := by
  k_with "call ref" => (k_here; k_dflt ((first | (refine' take_qualified_use (pre := [_, _]) ?_ ?_ ?_ ?_ ?_ ?_ ?_ ?_ ?_ ?_ ?_ ?_; k_extra "hk cell_call") | (refine' take_qualified_use (pre := [_]) ?_ ?_ ?_ ?_ ?_ ?_ ?_ ?_ ?_ ?_ ?_ ?_; k_extra "hk cell_call") | (refine' take_qualified_use (pre := []) ?_ ?_ ?_ ?_ ?_ ?_ ?_ ?_ ?_ ?_ ?_ ?_; k_extra "hk cell_call")); k_extra "hk kas_types"); k_whole; k_extra "hk kpt_turns"; intro _ _ _ _ _ _ _ _; k_extra "hk kst_p2")
  trivial

theorem take_hiding_use {w : World} {S : Cu} {pre rest : List (Addr × Obj)} {toks : List W} {lv : Value} {i : Int} {u : Tok} {rem : List W} {k1 k2 : Tok}
    {mean : ExcName → Option Value} {mg mb : Str → Option Value} {dp un : Nat} {gd : Option (List Code)} {cn : Str} {cs : Scope} {a : Addr} {ccd : Value} {outer : List Env} {A₀ : Around} {base h₀ : Heap} {L : Addr} {m : Str → Option Value} {s : Shared} {Q E : Value → Shared → Prop} (B : Below A₀ base outer h₀) (F : Fr h₀ L s.heap m) (X : (ax.heap_1_39 w.params).In h₀) (N : News h₀ L s.heap (pre ++ ((S.dc, dictC w S lv) :: (S.dr, dictR w S i u) :: rest))) (T : Top ax.view_1_40 LS mean mg mb h₀) (hk : cs.kind = .function) (h1 : dp + 20 < recursionLimit) (h2 : un + 8 * 20 < cLine)
    (C : CuIn w S rest toks) (hA : At toks i rem) (hp : ∀ q ∈ pre, @Ne Nat q.1 S.dc ∧ @Ne Nat q.1 S.dr)
    (ok : ∀ lv' i' u' h' tk', At toks i' (skip "hiding" rem) → Fr h₀ L h' m → News h₀ L h' (pre ++ (S.dc, dictC w S lv') :: (S.dr, dictR w S i' u') :: rest) → Q (.bool (qVw "hiding" (rem.headD .fin))) { s with heap := h', toks := tk' }) :
    wpAny (model PG w) (atop dp un gd cn cs L a ccd outer) (call (.ref 135) [.ref S.c, .str (Str.ofString "var") k1, .str (Str.ofString "hiding") k2]) Q E s :=
  (take_ (C.add hp) hA).use B F X (news_to N) T hk h1 h2 (fun v n' h' tk' o F' N' => by obtain ⟨rfl, lv', i', u', rfl, hA'⟩ := o; exact ok _ _ _ _ _ hA' F' (news_back N')) (fun h => h.elim)
theorem wd_f_26 : True := by
  k_with "call ref" => (k_here; k_dflt ((first | (refine' take_hiding_use (pre := [_, _]) ?_ ?_ ?_ ?_ ?_ ?_ ?_ ?_ ?_ ?_ ?_ ?_; k_extra "hk cell_call") | (refine' take_hiding_use (pre := [_]) ?_ ?_ ?_ ?_ ?_ ?_ ?_ ?_ ?_ ?_ ?_ ?_; k_extra "hk cell_call") | (refine' take_hiding_use (pre := []) ?_ ?_ ?_ ?_ ?_ ?_ ?_ ?_ ?_ ?_ ?_ ?_; k_extra "hk cell_call")); k_extra "hk kas_types"); k_whole; k_extra "hk kpt_turns"; intro _ _ _ _ _ _ _ _; k_extra "hk kst_p2")
  trivial

noncomputable abbrev impO (w : World) (T : Nat → Tok) (pv mv nv hv qv av : Value) : Obj :=
  dictOf [ent w "place" (T 0) pv, ent w "module" (T 1) mv, ent w "names" (T 2) nv, ent w "hiding" (T 3) hv, ent w "qualified" (T 4) qv, ent w "alias" (T 5) av] 6
def toks6 (a b c d e f : Tok) : Nat → Tok
  | 0 => a
  | 1 => b
  | 2 => c
  | 3 => d
  | 4 => e
  | _ => f
theorem mk_import {w : World} {news : List (Addr × Obj)} {mv nv hv qv av pv : Value} :
    CSpec w 30 263 [mv, nv, hv, qv, av, pv] news (fun v n' => ∃ a d T, v = .ref a ∧ n' = (a, instObj 263 d) :: (d, impO w T pv mv nv hv qv av) :: news ∧ (∀ p ∈ news, p.1 < d) ∧ @LT.lt Nat _ d a) False := by
  unfold CSpec; intro mean mg mb dp un gd cn cs a ccd outer A₀ base h₀ L m s Q E B F X N T hk hd' hu hret her
  k_dflt (refine' call_cls ?k1 ?k2 ?k3 ?k4 ?k5 ?k6 ?_; (case k1 => k_asm); (case k2 => k_asm); (case k3 => k_asm); (case k4 => k_is); (case k5 => k_is); (case k6 => k_is))
  intro x' d' h' F' N' l1 l2
  k_lt2 l2
  k_sweep
  k_dflt ktr_enter
  k_steps
  rename_i kF kN _ _
  exact hret _ _ _ _ ⟨x', d', toks6 _ _ _ _ _ _, rfl, rfl, l1, l2⟩ kF kN
theorem mk_import_use {w : World} {news : List (Addr × Obj)} {mv nv hv qv av pv : Value}
    {mean : ExcName → Option Value} {mg mb : Str → Option Value} {dp un : Nat} {gd : Option (List Code)} {cn : Str} {cs : Scope} {a : Addr} {ccd : Value} {outer : List Env} {A₀ : Around} {base h₀ : Heap} {L : Addr} {m : Str → Option Value} {s : Shared} {Q E : Value → Shared → Prop} (B : Below A₀ base outer h₀) (F : Fr h₀ L s.heap m) (X : (ax.heap_1_39 w.params).In h₀) (N : News h₀ L s.heap news) (T : Top ax.view_1_40 LS mean mg mb h₀) (hk : cs.kind = .function) (h1 : dp + 30 < recursionLimit) (h2 : un + 8 * 30 < cLine)
    (ok : ∀ a d T h' tk', Fr h₀ L h' m → News h₀ L h' ((a, instObj 263 d) :: (d, impO w T pv mv nv hv qv av) :: news) → (∀ p ∈ news, p.1 < d) → d < a → Q (.ref a) { s with heap := h', toks := tk' }) :
    wpAny (model PG w) (atop dp un gd cn cs L a ccd outer) (call (.ref 263) [mv, nv, hv, qv, av, pv]) Q E s :=
  mk_import.use B F X N T hk h1 h2 (fun v n' h' tk' o F' N' => by obtain ⟨a, d, T, rfl, rfl, l1, l2⟩ := o; exact ok _ _ _ _ _ F' N' l1 l2) (fun h => h.elim)
theorem wd_f_27 : True := by
  k_with "call ref" => (k_here; k_dflt (refine' mk_import_use ?_ ?_ ?_ ?_ ?_ ?_ ?_ ?_ ?_; k_extra "hk cell_call"); k_whole; intro _ _ _ _ _ _ _ l1 l2; (try k_lt l1); (try k_lt2 l2); (try (revert l1 l2; intro _ _)); (try k_sweep))
  trivial

theorem mk_import5 {w : World} {news : List (Addr × Obj)} {mv nv hv qv av : Value} :
    CSpec w 30 263 [mv, nv, hv, qv, av] news (fun v n' => ∃ a d T, v = .ref a ∧ n' = (a, instObj 263 d) :: (d, impO w T .none mv nv hv qv av) :: news ∧ (∀ p ∈ news, p.1 < d) ∧ @LT.lt Nat _ d a) False := by
  unfold CSpec; intro mean mg mb dp un gd cn cs a ccd outer A₀ base h₀ L m s Q E B F X N T hk hd' hu hret her
  k_dflt (refine' call_cls ?k1 ?k2 ?k3 ?k4 ?k5 ?k6 ?_; (case k1 => k_asm); (case k2 => k_asm); (case k3 => k_asm); (case k4 => k_is); (case k5 => k_is); (case k6 => k_is))
  intro x' d' h' F' N' l1 l2
  k_lt2 l2
  k_sweep
  k_dflt ktr_enter
  k_steps
  rename_i kF kN _ _
  exact hret _ _ _ _ ⟨x', d', toks6 _ _ _ _ _ _, rfl, rfl, l1, l2⟩ kF kN
theorem mk_import5_use {w : World} {news : List (Addr × Obj)} {mv nv hv qv av : Value}
    {mean : ExcName → Option Value} {mg mb : Str → Option Value} {dp un : Nat} {gd : Option (List Code)} {cn : Str} {cs : Scope} {a : Addr} {ccd : Value} {outer : List Env} {A₀ : Around} {base h₀ : Heap} {L : Addr} {m : Str → Option Value} {s : Shared} {Q E : Value → Shared → Prop} (B : Below A₀ base outer h₀) (F : Fr h₀ L s.heap m) (X : (ax.heap_1_39 w.params).In h₀) (N : News h₀ L s.heap news) (T : Top ax.view_1_40 LS mean mg mb h₀) (hk : cs.kind = .function) (h1 : dp + 30 < recursionLimit) (h2 : un + 8 * 30 < cLine)
    (ok : ∀ a d T h' tk', Fr h₀ L h' m → News h₀ L h' ((a, instObj 263 d) :: (d, impO w T .none mv nv hv qv av) :: news) → (∀ p ∈ news, p.1 < d) → d < a → Q (.ref a) { s with heap := h', toks := tk' }) :
    wpAny (model PG w) (atop dp un gd cn cs L a ccd outer) (call (.ref 263) [mv, nv, hv, qv, av]) Q E s :=
  mk_import5.use B F X N T hk h1 h2 (fun v n' h' tk' o F' N' => by obtain ⟨a, d, T, rfl, rfl, l1, l2⟩ := o; exact ok _ _ _ _ _ F' N' l1 l2) (fun h => h.elim)
theorem wd_f_28 : True := by
  k_with "call ref" => (k_here; k_dflt (refine' mk_import5_use ?_ ?_ ?_ ?_ ?_ ?_ ?_ ?_ ?_; k_extra "hk cell_call"); k_whole; intro _ _ _ _ _ _ _ l1 l2; (try k_lt l1); (try k_lt2 l2); (try (revert l1 l2; intro _ _)); (try k_sweep))
  trivial



def AliasV (v : Value) : Option W → Prop
  | none => v = .none
  | some x => ∃ t, v = .str x.nm t
def ImpIn (w : World) (news : List (Addr × Obj)) (v : Value) (p : Imp) : Prop :=
  ∃ a d T pv u1 nv av, v = .ref a ∧ (a, instObj 263 d) ∈ news ∧ (d, impO w T pv (.str p.mod.nm u1) nv (.bool p.hid) (.bool p.far) av) ∈ news ∧ ExpsV w news nv p.names ∧ AliasV av p.al
theorem pImpT_1 {far : Bool} {m : W} {al : Option W} {rem r : List W} (h : pExps (skip "hiding" rem) = some (none, r)) (h1 : qVw "hiding" (rem.headD .fin) = true) : pImpT far m al rem = none := by
  unfold pImpT; rw [h, h1]; rfl
theorem pImpT_2 {far : Bool} {m : W} {al : Option W} {rem r : List W} (h : pExps (skip "hiding" rem) = some (none, r)) (h1 : qVw "hiding" (rem.headD .fin) = false) : pImpT far m al rem = some (⟨m, none, qVw "hiding" (rem.headD .fin), far, al⟩, r) := by
  unfold pImpT; rw [h, h1]; rfl
theorem pImpT_3 {far : Bool} {m : W} {al : Option W} {rem r : List W} {es : List Exp} (h : pExps (skip "hiding" rem) = some (some es, r)) : pImpT far m al rem = some (⟨m, some es, qVw "hiding" (rem.headD .fin), far, al⟩, r) := by
  unfold pImpT; rw [h]; exact if_neg (by rw [Option.isNone_some, Bool.and_false]; exact Bool.false_ne_true)
theorem pImpT_4 {far : Bool} {m : W} {al : Option W} {rem : List W} (h : pExps (skip "hiding" rem) = none) : pImpT far m al rem = none := by
  unfold pImpT; rw [h]
theorem pImp_A {rem : List W} (h1 : ((skip "qualified" rem).headD .fin).at (Str.ofString "con") none = true) (h2 : ((skip "qualified" rem).tail.headD .fin).at (Str.ofString "var") (some (Str.ofString "as")) = true) (h3 : ((skip "qualified" rem).tail.tail.headD .fin).at (Str.ofString "con") none = true) :
    pImp rem = pImpT (qVw "qualified" (rem.headD .fin)) ((skip "qualified" rem).headD .fin) (some ((skip "qualified" rem).tail.tail.headD .fin)) (skip "qualified" rem).tail.tail.tail := by
  unfold pImp; rw [if_pos (show qCon _ = true from h1), if_pos (show qVw "as" _ = true from h2), if_pos (show qCon _ = true from h3)]
theorem pImp_B {rem : List W} (h1 : ((skip "qualified" rem).headD .fin).at (Str.ofString "con") none = true) (h2 : ((skip "qualified" rem).tail.headD .fin).at (Str.ofString "var") (some (Str.ofString "as")) = false) :
    pImp rem = pImpT (qVw "qualified" (rem.headD .fin)) ((skip "qualified" rem).headD .fin) none (skip "qualified" rem).tail := by
  unfold pImp; rw [if_pos (show qCon _ = true from h1), if_neg (show ¬ qVw "as" _ = true from Bool.eq_false_iff.mp h2)]
theorem pImp_C {rem : List W} (h1 : ((skip "qualified" rem).headD .fin).at (Str.ofString "con") none = false) : pImp rem = none := if_neg (Bool.eq_false_iff.mp h1)
theorem pImp_D {rem : List W} (h1 : ((skip "qualified" rem).headD .fin).at (Str.ofString "con") none = true) (h2 : ((skip "qualified" rem).tail.headD .fin).at (Str.ofString "var") (some (Str.ofString "as")) = true) (h3 : ((skip "qualified" rem).tail.tail.headD .fin).at (Str.ofString "con") none = false) : pImp rem = none := by
  unfold pImp; rw [if_pos (show qCon _ = true from h1), if_pos (show qVw "as" _ = true from h2)]; exact if_neg (Bool.eq_false_iff.mp h3)
theorem read_import {w : World} {S : Cu} {toks : List W} : RS w 500 307 [.ref S.c] S toks pImp (ImpIn w) := by
  intro rest lv i u rem C hA
  have C' := C
  obtain ⟨mc, mr, ml, hv, he, d1, d2, d3, sz⟩ := C'
  unfold CSpec; intro mean mg mb dp un gd cn cs a ccd outer A₀ base h₀ L m s Q E B F X N T hk hd' hu hret her; refine wpAny_call ?_; k_dflt ktr_enter
  k_steps
  all_goals first
    | exact her (pImp_C (by with_reducible assumption)) _ _ _ _ (by with_reducible assumption) (by with_reducible assumption) (by with_reducible assumption)
    | exact her (pImp_D (by with_reducible assumption) (by with_reducible assumption) (by with_reducible assumption)) _ _ _ _ (by with_reducible assumption) (by with_reducible assumption) (by with_reducible assumption)
    | exact her ((pImp_A (by with_reducible assumption) (by with_reducible assumption) (by with_reducible assumption)).trans (pImpT_4 (by with_reducible assumption))) _ _ _ _ (by with_reducible assumption) (by with_reducible assumption) (by with_reducible assumption)
    | exact her ((pImp_A (by with_reducible assumption) (by with_reducible assumption) (by with_reducible assumption)).trans (pImpT_1 (by with_reducible assumption) (by with_reducible assumption))) _ _ _ _ (by with_reducible assumption) (by with_reducible assumption) (by with_reducible assumption)
    | (rename_i tl rem' h2 tk1 he9 hA9 C9 hO9 h1 ha x' d' T' h' tk' F' N' l1 l2 kF kN Tc kX
       exact hret _ _ _ _ ⟨_, _, _, (x', instObj 263 d') :: (d', impO w T' _ _ _ _ _ _) :: tl, _, _, rfl, ord_cons2 l1 l2 hO9, (pImp_A (by with_reducible assumption) (by with_reducible assumption) (by with_reducible assumption)).trans (pImpT_2 he9 ha), hA9, x', d', T', _, _, _, _, rfl, .head _, .tail _ (.head _), rfl, ⟨_, rfl⟩⟩ kF (news_cons (kN _ (by k_extra "mem")) (news_cons (kN _ (by k_extra "mem")) (news_cons (kN _ (.head _)) (news_cons (kN _ (.tail _ (.head _))) fun p hp => kN p (by k_extra "mem"))))))
    | (rename_i l vs n lv9 i9 u9 tl es rem' h2 tk1 he9 hA9 C9 hO9 hm9 hV9 h1 ha x' d' T' h' tk' F' N' l1 l2 kF kN Tc kX
       exact hret _ _ _ _ ⟨_, _, _, (x', instObj 263 d') :: (d', impO w T' _ _ _ _ _ _) :: tl, _, _, rfl, ord_cons2 l1 l2 hO9, (pImp_A (by with_reducible assumption) (by with_reducible assumption) (by with_reducible assumption)).trans (pImpT_3 he9), hA9, x', d', T', _, _, _, _, rfl, .head _, .tail _ (.head _), ⟨l, vs, n, rfl, .tail _ (.tail _ hm9), hV9.imp fun _ _ h => h.mono fun p hp => .tail _ (.tail _ hp)⟩, ⟨_, rfl⟩⟩ kF (news_cons (kN _ (by k_extra "mem")) (news_cons (kN _ (by k_extra "mem")) (news_cons (kN _ (.head _)) (news_cons (kN _ (.tail _ (.head _))) fun p hp => kN p (by k_extra "mem"))))))
    | exact her ((pImp_B (by with_reducible assumption) (by with_reducible assumption)).trans (pImpT_4 (by with_reducible assumption))) _ _ _ _ (by with_reducible assumption) (by with_reducible assumption) (by with_reducible assumption)
    | exact her ((pImp_B (by with_reducible assumption) (by with_reducible assumption)).trans (pImpT_1 (by with_reducible assumption) (by with_reducible assumption))) _ _ _ _ (by with_reducible assumption) (by with_reducible assumption) (by with_reducible assumption)
    | (rename_i tl rem' h2 tk1 he9 hA9 C9 hO9 h1 ha x' d' T' h' tk' F' N' l1 l2 kF kN Tc kX
       exact hret _ _ _ _ ⟨_, _, _, (x', instObj 263 d') :: (d', impO w T' _ _ _ _ _ _) :: tl, _, _, rfl, ord_cons2 l1 l2 hO9, (pImp_B (by with_reducible assumption) (by with_reducible assumption)).trans (pImpT_2 he9 ha), hA9, x', d', T', _, _, _, _, rfl, .head _, .tail _ (.head _), rfl, rfl⟩ kF (news_cons (kN _ (by k_extra "mem")) (news_cons (kN _ (by k_extra "mem")) (news_cons (kN _ (.head _)) (news_cons (kN _ (.tail _ (.head _))) fun p hp => kN p (by k_extra "mem"))))))
    | (rename_i l vs n lv9 i9 u9 tl es rem' h2 tk1 he9 hA9 C9 hO9 hm9 hV9 h1 ha x' d' T' h' tk' F' N' l1 l2 kF kN Tc kX
       exact hret _ _ _ _ ⟨_, _, _, (x', instObj 263 d') :: (d', impO w T' _ _ _ _ _ _) :: tl, _, _, rfl, ord_cons2 l1 l2 hO9, (pImp_B (by with_reducible assumption) (by with_reducible assumption)).trans (pImpT_3 he9), hA9, x', d', T', _, _, _, _, rfl, .head _, .tail _ (.head _), ⟨l, vs, n, rfl, .tail _ (.tail _ hm9), hV9.imp fun _ _ h => h.mono fun p hp => .tail _ (.tail _ hp)⟩, rfl⟩ kF (news_cons (kN _ (by k_extra "mem")) (news_cons (kN _ (by k_extra "mem")) (news_cons (kN _ (.head _)) (news_cons (kN _ (.tail _ (.head _))) fun p hp => kN p (by k_extra "mem"))))))


def Subs.dat : Subs → Dat
  | .no => .none
  | .all => .str (Str.ofString "all")
  | .list xs => .tuple (xs.map fun x => .str x.tx)
def Exp.dat (e : Exp) : Dat := .tuple [.str (Str.ofString "export"), .str e.kindS, .str e.word.nm, e.subs.dat]
def Subs.small : Subs → Prop
  | .list xs => xs.length ≤ 1000
  | _ => True
theorem SubsV.datAll {news : List (Addr × Obj)} {vs : List Value} {xs : List W} (h : All2 (fun v (x : W) => ∃ t, v = .str x.tx t) vs xs) : DatAll news vs (xs.map fun x => .str x.tx) := by
  induction h with
  | nil => exact .nil
  | cons r _ ih => obtain ⟨t, rfl⟩ := r; exact .cons (.str _ _) ih
section
variable {prog : Program} {w : World} {A : Around} {E : Value → Shared → Prop} {s : Shared} {h₀ : Heap} {L l : Addr} {m : Str → Option Value} {news : List (Addr × Obj)} {Q : Value → Shared → Prop}
theorem og_tupleOf {vs : List Value} {n : Nat} (F : Fr h₀ L s.heap m) (N : News h₀ L s.heap news) (hm : (l, listO vs n) ∈ news) (hz : vs.length ≤ 16384)
    (h : ∀ D h', Fr h₀ L h' m → News h₀ L h' ((D, ({ cls := .type "tuple", data := .seq vs.toArray } : Obj)) :: news) → (∀ p ∈ news, p.1 < D) → Q (.ref D) { s with heap := h' }) : wpAny (model prog w) A (call (.type "tuple") [.ref l]) Q E s :=
  kde_tupleOf F N (N.isList hm) (by simpa using hz) (by simp) h
end
theorem wd_f_29 : True := by
  k_with "call type:tuple" => (k_here; (with_reducible show wpAny _ _ (call (Value.type _) [Value.ref _]) _ _ _); k_dflt (refine' og_tupleOf ?k1Z9 ?k2Z9 ?k3Z9 ?k4Z9 ?_; (case k1Z9 => k_asm); (case k2Z9 => k_asm); (case k3Z9 => k_extra "mem"); (case k4Z9 => omega); k_whole); intro _ _ _ _ l1; (try k_lt l1); (try (revert l1; intro _)); (try k_sweep))
  trivial

theorem lt_ord {D : Addr} {o : Obj} {news : List (Addr × Obj)} (h : ∀ p ∈ news, p.1 < D) : Ord news [(D, o)] := fun q hq p hp => by
  rcases List.mem_cons.mp hp with rfl | hp
  · exact h q hq
  · cases hp
theorem lt_ord2 {D D' : Addr} {o o' : Obj} {news : List (Addr × Obj)} (h : ∀ p ∈ news, p.1 < D) (h' : ∀ p ∈ (D, o) :: news, p.1 < D') : Ord news [(D', o'), (D, o)] := fun q hq p hp => by
  rcases List.mem_cons.mp hp with rfl | hp
  · exact h' q (.tail _ hq)
  · exact lt_ord h q hq p hp
theorem exp_row {w : World} {news rest : List (Addr × Obj)} {v : Value} {e : Exp} (h : ExpIn w rest v e) (hz : e.subs.small) (hs : ∀ p ∈ rest, p ∈ news) :
    CSpec w 40 233 [v] news (fun v' n' => ∃ tl, n' = tl ++ news ∧ Ord news tl ∧ DatIn (tl ++ rest) v' e.dat) False := by
  obtain ⟨a, d, T, pv, u1, u2, sv, rfl, h1, h2, h3⟩ := h
  replace h1 := hs _ h1
  replace h2 := hs _ h2
  unfold Exp.dat
  generalize e.subs = sb at *
  cases sb with
  | no =>
    cases h3
    unfold CSpec; intro mean mg mb dp un gd cn cs a ccd outer A₀ base h₀ L m s Q E B F X N T hk hd' hu hret her; refine wpAny_call ?_; k_dflt ktr_enter
    k_steps
    rename_i D' h' F' N' l1 kF kN Tc kX
    exact hret _ _ _ _ ⟨[_], rfl, lt_ord l1, .tuple (.head _) (.cons (.str _ _) (.cons (.str _ _) (.cons (.str _ _) (.cons .none .nil))))⟩ kF kN
  | all =>
    obtain ⟨t, rfl⟩ := h3
    unfold CSpec; intro mean mg mb dp un gd cn cs a ccd outer A₀ base h₀ L m s Q E B F X N T hk hd' hu hret her; refine wpAny_call ?_; k_dflt ktr_enter
    k_steps
    rename_i D' h' F' N' l1 kF kN Tc kX
    exact hret _ _ _ _ ⟨[_], rfl, lt_ord l1, .tuple (.head _) (.cons (.str _ _) (.cons (.str _ _) (.cons (.str _ _) (.cons (.str _ _) .nil))))⟩ kF kN
  | list xs =>
    obtain ⟨l, vs, n, rfl, hm, hV⟩ := h3
    replace hm := hs _ hm
    have hz' : vs.length ≤ 1000 := hV.length ▸ hz
    unfold CSpec; intro mean mg mb dp un gd cn cs a ccd outer A₀ base h₀ L m s Q E B F X N T hk hd' hu hret her; refine wpAny_call ?_; k_dflt ktr_enter
    k_steps
    rename_i D2 h2' l2 D' h' F' N' l1 kF kN Tc kX
    exact hret _ _ _ _ ⟨[_, _], rfl, lt_ord2 l2 (List.forall_mem_cons.mpr ⟨l1.1, ktn_ltOf l1.2⟩), .tuple (.head _) (.cons (.str _ _) (.cons (.str _ _) (.cons (.str _ _) (.cons (.tuple (.tail _ (.head _)) (SubsV.datAll hV)) .nil))))⟩ kF kN
theorem exp_row_use {w : World} {news rest : List (Addr × Obj)} {v : Value} {e : Exp}
    {mean : ExcName → Option Value} {mg mb : Str → Option Value} {dp un : Nat} {gd : Option (List Code)} {cn : Str} {cs : Scope} {a : Addr} {ccd : Value} {outer : List Env} {A₀ : Around} {base h₀ : Heap} {L : Addr} {m : Str → Option Value} {s : Shared} {Q E : Value → Shared → Prop} (B : Below A₀ base outer h₀) (F : Fr h₀ L s.heap m) (X : (ax.heap_1_39 w.params).In h₀) (N : News h₀ L s.heap news) (T : Top ax.view_1_40 LS mean mg mb h₀) (hk : cs.kind = .function) (h1 : dp + 40 < recursionLimit) (h2 : un + 8 * 40 < cLine) (h3 : ExpIn w rest v e) (hz : e.subs.small) (hs : ∀ p ∈ rest, p ∈ news)
    (ok : ∀ v' tl h' tk', Ord news tl → DatIn (tl ++ rest) v' e.dat → Fr h₀ L h' m → News h₀ L h' (tl ++ news) → Q v' { s with heap := h', toks := tk' }) :
    wpAny (model PG w) (atop dp un gd cn cs L a ccd outer) (call (.ref 233) [v]) Q E s :=
  (exp_row h3 hz hs).use B F X N T hk h1 h2 (fun v n' h' tk' o F' N' => by obtain ⟨tl, rfl, hO, hD⟩ := o; exact ok _ _ _ _ hO hD F' N') (fun h => h.elim)
theorem wd_f_30 : True := by
  k_with "call ref" => (k_here; k_dflt (refine' exp_row_use ?_ ?_ ?_ ?_ ?_ ?_ ?_ ?_ ?k9Z9 ?kAZ9 ?kBZ9 ?_; k_extra "hk cell_call"; (case k9Z9 => assumption); (case kAZ9 => assumption); (case kBZ9 => (intro _ _; k_extra "mem"))); k_whole; intro _ _ _ _ _ _ _ _; (try k_sweep))
  trivial



theorem comp_ind {w : World} {A : Around} {h₀ : Heap} {L : Addr} {m : Str → Option Value} {env : Env} {elt : PySem.Expr} {x : Str} {scope : Scope} {cl : List (Str × Addr)} {s : Shared} {S : List (Addr × Obj) → Prop} {P : Nat → Value → Prop} {Fin : List Value → List (Addr × Obj) → Prop} {n : Nat}
    (I : Nat → List Value → List (Addr × Obj) → Prop)
    (turn : ∀ i ys news, i < n → I i ys news → ∀ v Ia oI C oC D m₂ h tk (E' : Value → Shared → Prop), P i v → LCg.NsObj oC m₂ → m₂ x = some v → Fr h₀ L h m → News h₀ L h ((Ia, oI) :: (C, oC) :: (D, LCg.lst ys) :: news) → LCg.Off3 Ia C D news → ((@Ne Nat Ia C) ∧ (@Ne Nat Ia D) ∧ (@Ne Nat C D)) →
      wpAny (model PG w) A (eval elt (compEnvC scope cl C env)) (LCg.CompEnd h₀ L m { s with heap := h, toks := tk } Ia oI C oC D (LCg.lst ys) S (fun y news' => I (i + 1) (ys ++ [y]) news')) E' { s with heap := h, toks := tk })
    (fin : ∀ ys news, I n ys news → Fin ys news) : ∀ k i ys news, i + k = n → I i ys news → LCg.CompRest PG w A h₀ L m env elt x scope cl s S P Fin k i ys news
  | 0, i, ys, news, e, h => fin ys news (by rw [← e]; exact h)
  | k + 1, i, ys, news, e, h => fun v Ia oI C oC D m₂ h' tk E' hP hC hx F N o ne =>
    wpAny_mono (turn i ys news (by omega) h v Ia oI C oC D m₂ h' tk E' hP hC hx F N o ne) (fun y s₂ q => by
      obtain ⟨h2, tk2, news', e1, F', N', o', hS, r⟩ := q
      exact ⟨h2, tk2, news', e1, F', N', o', hS, comp_ind I turn fin k (i + 1) (ys ++ [y]) news' (by omega) r⟩) fun _ _ e => e
theorem wd_f_31 : True := by
  k_with "CompSrc" => (k_here; k_dflt (refine LCg.CompSrc.ledger (by rfl) (by k_asm) (by k_asm) (by k_extra "mem") (by rw [List.size_toArray, sizeLine_eq]; omega) ?_); intro _; refine stop ?_)
  trivial

def Exps.small (es : List Exp) : Prop := es.length ≤ 1000 ∧ ∀ e ∈ es, e.subs.small
theorem All2.getl {α β : Type} {R : α → β → Prop} {l : List α} {m : List β} (h : All2 R l m) : ∀ {i : Nat} {a : α}, l[i]? = some a → ∃ b, m[i]? = some b ∧ R a b := by
  induction h with
  | nil => intro i b e; simp at e
  | cons r _ ih =>
    intro i b e
    cases i with
    | zero => simp only [List.getElem?_cons_zero, Option.some.injEq] at e; subst e; exact ⟨_, by simp, r⟩
    | succ i => simp only [List.getElem?_cons_succ] at e ⊢; exact ih e
theorem Exps.at {w : World} {news : List (Addr × Obj)} {vs : List Value} {es : List Exp} (hV : All2 (ExpIn w news) vs es) (hz : Exps.small es) {i : Nat} {v : Value} (hP : vs.toArray[i]? = some v) : ∃ e, es[i]? = some e ∧ ExpIn w news v e ∧ e.subs.small := by
  rw [List.getElem?_toArray] at hP
  obtain ⟨e, h1, h2⟩ := hV.getl hP
  exact ⟨e, h1, h2, hz.2 e (List.mem_of_getElem? h1)⟩
theorem ord_lt {D : Addr} {o : Obj} {news tl : List (Addr × Obj)} (h : Ord news tl) (h' : ∀ p ∈ tl ++ news, p.1 < D) : Ord news ((D, o) :: tl) := fun q hq p hp => by
  rcases List.mem_cons.mp hp with rfl | hp
  · exact h' q (List.mem_append_right _ hq)
  · exact h q hq p hp
theorem take_dat {es : List Exp} {i : Nat} {e : Exp} (h : es[i]? = some e) : (es.take (i + 1)).map Exp.dat = (es.take i).map Exp.dat ++ [e.dat] := by
  rw [List.take_add_one, h]; simp
theorem ord_app {A tl tl' : List (Addr × Obj)} (h : Ord A tl) (h' : Ord (tl ++ A) tl') : Ord A (tl' ++ tl) := fun q hq p hp => (List.mem_append.mp hp).elim (h' q (List.mem_append_right _ hq) p) (h q hq p)
theorem off_grow {a b c : Addr} {oa ob oc : Obj} {nw tl : List (Addr × Obj)} (o : LCg.Off3 a b c nw) (h : Ord ((a, oa) :: (b, ob) :: (c, oc) :: nw) tl) : LCg.Off3 a b c (tl ++ nw) := LCg.Off3.of fun p hp => (List.mem_append.mp hp).elim (fun hp => ⟨Nat.ne_of_gt (h _ (.head _) p hp), Nat.ne_of_gt (h _ (.tail _ (.head _)) p hp), Nat.ne_of_gt (h _ (.tail _ (.tail _ (.head _))) p hp)⟩) (o.mem p)
theorem sub_grow {a b c : Addr × Obj} {nw tl : List (Addr × Obj)} : ∀ p ∈ a :: b :: c :: (tl ++ nw), p ∈ tl ++ a :: b :: c :: nw := fun p hp => by
  simp only [List.mem_cons, List.mem_append] at hp ⊢; rcases hp with h | h | h | h | h <;> simp [h]
theorem sub_mem {a b : List (Addr × Obj)} {p : Addr × Obj} (h : ∀ p ∈ a, p ∈ b) (hp : p ∈ a) : p ∈ b := h p hp
theorem wd_f_32 : True := by
  k_with "hk ktr_member" => (exact sub_mem (by assumption) (by assumption))
  trivial

theorem comp_end {h₀ : Heap} {L I C D l : Addr} {m : Str → Option Value} {s₁ : Shared} {oI oC oD : Obj} {h' : Heap} {tk n i : Nat} {vs ys : List Value} {news n0 tl tl2 : List (Addr × Obj)} {es : List Exp} {e : Exp} {y : Value}
    (F : Fr h₀ L h' m) (N : News h₀ L h' (tl2 ++ (I, oI) :: (C, oC) :: (D, oD) :: (tl ++ news))) (off : LCg.Off3 I C D (tl ++ news)) (hO2 : Ord ((I, oI) :: (C, oC) :: (D, oD) :: (tl ++ news)) tl2) (hm : (l, listO vs n) ∈ news)
    (hO : Ord news tl) (hD : DatAll (tl ++ n0) ys ((es.take i).map Exp.dat)) (he : es[i]? = some e)
    (hy' : DatIn (tl2 ++ n0) y e.dat) :
    LCg.CompEnd h₀ L m s₁ I oI C oC D oD (LCg.SrcAt h₀ l vs.toArray) (fun y news' => ∃ tl, news' = tl ++ news ∧ Ord news tl ∧ DatAll (tl ++ n0) (ys ++ [y]) ((es.take (i + 1)).map Exp.dat)) y { s₁ with heap := h', toks := tk } :=
  LCg.CompEnd.intro F N (tl2 ++ (tl ++ news)) sub_grow (off_grow off hO2) (.inr ⟨_, List.mem_append_right _ (List.mem_append_right _ hm), rfl, _, rfl⟩)
    ⟨tl2 ++ tl, (List.append_assoc _ _ _).symm, ord_app hO (hO2.sub fun q hq => .tail _ (.tail _ (.tail _ hq))), by
      rw [take_dat he]; exact (hD.mono fun p hp => (List.mem_append.mp hp).elim (fun h => List.mem_append_left _ (List.mem_append_right _ h)) fun h => List.mem_append_right _ h).append (.cons (hy'.mono fun p hp => (List.mem_append.mp hp).elim (fun h => List.mem_append_left _ (List.mem_append_left _ h)) fun h => List.mem_append_right _ h) .nil)⟩
theorem rows_of {w : World} {news n0 : List (Addr × Obj)} {l : Addr} {vs : List Value} {n : Nat} {es : List Exp} (hm : (l, listO vs n) ∈ news) (hV : All2 (ExpIn w n0) vs es) (hs : ∀ p ∈ n0, p ∈ news) (hz : Exps.small es) :
    CSpec w 80 183 [.ref l] news (fun v' n' => ∃ tl, n' = tl ++ news ∧ Ord news tl ∧ DatIn (tl ++ n0) v' (.tuple (es.map Exp.dat))) False := by
  have hll := hV.length
  have hz1 := hz.1
  unfold CSpec; intro mean mg mb dp un gd cn cs a ccd outer A₀ base h₀ L m s Q E B F X N T hk hd' hu hret her; refine wpAny_call ?_; k_dflt ktr_enter
  k_steps
  rename_i g2
  unfold Stop
  refine comp_ind (fun i ys nw => ∃ tl, nw = tl ++ news ∧ Ord news tl ∧ DatAll (tl ++ n0) ys ((es.take i).map Exp.dat)) ?_ ?_ _ 0 [] _ (Nat.zero_add _) ⟨[], rfl, Ord.nil, .nil⟩
  · rintro i ys nw hi ⟨tl, rfl, hO, hD⟩ v Ia oI C oC D m₂ h' tk' E' hP hC hx F' N' o' ne'
    obtain ⟨e, he, hE, hes⟩ := Exps.at hV hz hP
    obtain ⟨a1, d1, T1, pv, u1, u2, sv, rfl, m1, m2, m3⟩ := id hE
    replace m1 := hs _ m1
    replace m2 := hs _ m2
    k_steps
    rename_i v' tl2 h2 tk2 hO2 hD2 F2 N2
    exact comp_end F2 N2 o' hO2 hm hO hD he hD2
  · rintro ys nw ⟨tl, rfl, hO, hD⟩
    have hyl : ys.length ≤ 1000 := by
      rw [hD.length, List.length_map, List.length_take]; exact Nat.le_trans (Nat.min_le_right _ _) hz1
    k_steps
    rename_i D' h' F' N' l1 kF kN Tc kX
    exact hret _ _ _ _ ⟨(D', _) :: tl, rfl, ord_lt hO fun p hp => ktn_ltOf l1.2 p hp, .tuple (.head _) (by
      rw [List.take_of_length_le (by rw [List.size_toArray, hll]; exact Nat.le_refl _)] at hD; exact hD.mono fun p hp => .tail _ hp)⟩ kF (fun p hp => kN p (by
        rcases List.mem_cons.mp hp with h | h
        · exact h ▸ .head _
        · exact .tail _ (.tail _ h)))


theorem rows_of_use {w : World} {news n0 : List (Addr × Obj)} {l : Addr} {vs : List Value} {n : Nat} {es : List Exp}
    {mean : ExcName → Option Value} {mg mb : Str → Option Value} {dp un : Nat} {gd : Option (List Code)} {cn : Str} {cs : Scope} {a : Addr} {ccd : Value} {outer : List Env} {A₀ : Around} {base h₀ : Heap} {L : Addr} {m : Str → Option Value} {s : Shared} {Q E : Value → Shared → Prop} (B : Below A₀ base outer h₀) (F : Fr h₀ L s.heap m) (X : (ax.heap_1_39 w.params).In h₀) (N : News h₀ L s.heap news) (T : Top ax.view_1_40 LS mean mg mb h₀) (hk : cs.kind = .function) (h1 : dp + 80 < recursionLimit) (h2 : un + 8 * 80 < cLine) (hm : (l, listO vs n) ∈ news) (hV : All2 (ExpIn w n0) vs es) (hs : ∀ p ∈ n0, p ∈ news) (hz : Exps.small es)
    (ok : ∀ v' tl h' tk', Ord news tl → DatIn (tl ++ n0) v' (.tuple (es.map Exp.dat)) → Fr h₀ L h' m → News h₀ L h' (tl ++ news) → Q v' { s with heap := h', toks := tk' }) :
    wpAny (model PG w) (atop dp un gd cn cs L a ccd outer) (call (.ref 183) [.ref l]) Q E s :=
  (rows_of hm hV hs hz).use B F X N T hk h1 h2 (fun v n' h' tk' o F' N' => by obtain ⟨tl, rfl, hO, hD⟩ := o; exact ok _ _ _ _ hO hD F' N') (fun h => h.elim)
theorem wd_f_33 : True := by
  k_with "call ref" => (k_here; k_dflt (refine' rows_of_use ?_ ?_ ?_ ?_ ?_ ?_ ?_ ?_ ?k9Z9 ?kAZ9 ?kSZ9 ?kBZ9 ?_; k_extra "hk cell_call"; (case k9Z9 => k_extra "mem"); (case kAZ9 => assumption); (case kSZ9 => (intro _ h9; first | exact h9 | k_extra "mem")); (case kBZ9 => assumption)); k_whole; intro _ _ _ _ _ _ _ _; (try k_sweep))
  trivial

def aliasDat : Option W → Dat
  | none => .none
  | some x => .str x.nm
def namesDat : Option (List Exp) → Dat
  | none => .none
  | some es => .tuple (es.map Exp.dat)
def Imp.dat (p : Imp) : Dat := .tuple [.str (Str.ofString "\x69mport"), .str p.mod.nm, namesDat p.names, .bool p.hid, .bool p.far, aliasDat p.al]
def Imp.small (p : Imp) : Prop := match p.names with
  | none => True
  | some es => Exps.small es
theorem AliasV.dat {news : List (Addr × Obj)} {v : Value} {o : Option W} (h : AliasV v o) : DatIn news v (aliasDat o) := by
  cases o with
  | none => cases h; exact .none
  | some x => obtain ⟨t, rfl⟩ := h; exact .str _ _
theorem AliasV.handed {v : Value} {o : Option W} (h : AliasV v o) : handedIn v = true := by
  cases o with
  | none => cases h; rfl
  | some x => obtain ⟨t, rfl⟩ := h; rfl
theorem wd_f_34 : True := by
  k_with "hk k_handed" => (assumption)
  trivial

theorem imp_row {w : World} {news n0 : List (Addr × Obj)} {v : Value} {p : Imp} (h : ImpIn w n0 v p) (hs : ∀ q ∈ n0, q ∈ news) (hz : p.small) :
    CSpec w 120 260 [v] news (fun v' n' => ∃ tl, n' = tl ++ news ∧ Ord news tl ∧ DatIn (tl ++ n0) v' p.dat) False := by
  obtain ⟨a, d, T, pv, u1, nv, av, rfl, h1, h2, h3, h4⟩ := h
  replace h1 := hs _ h1
  replace h2 := hs _ h2
  have h4' := h4.handed
  unfold Imp.dat
  unfold Imp.small at hz
  generalize p.names = nm at *
  cases nm with
  | none =>
    cases h3
    unfold CSpec; intro mean mg mb dp un gd cn cs a ccd outer A₀ base h₀ L m s Q E B F X N T hk hd' hu hret her; refine wpAny_call ?_; k_dflt ktr_enter
    k_steps
    rename_i D' h' F' N' l1 kF kN Tc kX
    exact hret _ _ _ _ ⟨[_], rfl, lt_ord l1, .tuple (.head _) (.cons (.str _ _) (.cons (.str _ _) (.cons .none (.cons (.bool _) (.cons (.bool _) (.cons h4.dat .nil))))))⟩ kF kN
  | some es =>
    obtain ⟨l, vs, n, rfl, hm, hV⟩ := h3
    replace hm := hs _ hm
    replace hz : Exps.small es := hz
    unfold CSpec; intro mean mg mb dp un gd cn cs a ccd outer A₀ base h₀ L m s Q E B F X N T hk hd' hu hret her; refine wpAny_call ?_; k_dflt ktr_enter
    k_steps
    rename_i D' h' F' N' l1 kF kN Tc kX
    exact hret _ _ _ _ ⟨_ :: _, rfl, ord_lt (by assumption) l1, .tuple (.head _) (.cons (.str _ _) (.cons (.str _ _) (.cons (DatIn.mono (fun p hp => .tail _ hp) (by assumption)) (.cons (.bool _) (.cons (.bool _) (.cons h4.dat .nil))))))⟩ kF kN
theorem imp_row_use {w : World} {news n0 : List (Addr × Obj)} {v : Value} {p : Imp}
    {mean : ExcName → Option Value} {mg mb : Str → Option Value} {dp un : Nat} {gd : Option (List Code)} {cn : Str} {cs : Scope} {a : Addr} {ccd : Value} {outer : List Env} {A₀ : Around} {base h₀ : Heap} {L : Addr} {m : Str → Option Value} {s : Shared} {Q E : Value → Shared → Prop} (B : Below A₀ base outer h₀) (F : Fr h₀ L s.heap m) (X : (ax.heap_1_39 w.params).In h₀) (N : News h₀ L s.heap news) (T : Top ax.view_1_40 LS mean mg mb h₀) (hk : cs.kind = .function) (h1 : dp + 120 < recursionLimit) (h2 : un + 8 * 120 < cLine) (h3 : ImpIn w n0 v p) (hz : p.small) (hs : ∀ q ∈ n0, q ∈ news)
    (ok : ∀ v' tl h' tk', Ord news tl → DatIn (tl ++ n0) v' p.dat → Fr h₀ L h' m → News h₀ L h' (tl ++ news) → Q v' { s with heap := h', toks := tk' }) :
    wpAny (model PG w) (atop dp un gd cn cs L a ccd outer) (call (.ref 260) [v]) Q E s :=
  (imp_row h3 hs hz).use B F X N T hk h1 h2 (fun v n' h' tk' o F' N' => by obtain ⟨tl, rfl, hO, hD⟩ := o; exact ok _ _ _ _ hO hD F' N') (fun h => h.elim)
theorem wd_f_35 : True := by
  k_with "call ref" => (k_here; k_dflt (refine' imp_row_use ?_ ?_ ?_ ?_ ?_ ?_ ?_ ?_ ?k9Z9 ?kAZ9 ?kSZ9 ?_; k_extra "hk cell_call"; (case k9Z9 => assumption); (case kAZ9 => assumption); (case kSZ9 => (intro _ h9; first | exact h9 | (refine' (List.mem_append.mp h9).elim (fun h9 => ?kLZ9) (fun h9 => ?kRZ9); (case kLZ9 => k_extra "mem"); (case kRZ9 => k_extra "mem")) | k_extra "mem"))); k_whole; intro _ _ _ _ _ _ _ _; (try k_sweep))
  trivial



noncomputable abbrev srcO (a b : Int) (ta tb : Tok) (n : Nat) : Obj := listO [.int a ta, .int b tb] n
/-- a builder's contract: it draws from the source, what it makes is tl -/
def BS (w : World) (cost : Nat) (fn : Addr) (args : List Value) (src : Addr) (hyp : List (Addr × Obj) → Prop) (Val : List (Addr × Obj) → Value → Prop) : Prop :=
  ∀ (rest : List (Addr × Obj)) (a b : Int) (ta tb : Tok) (n : Nat), 0 ≤ a → 0 ≤ b → b < 2147483647 → (∀ p ∈ rest, p.1 ≠ src) → hyp rest → CSpec w cost fn args ((src, srcO a b ta tb n) :: rest)
    (fun v n' => ∃ a' b' ta' tb' n2 tl, n' = (src, srcO a' b' ta' tb' n2) :: (tl ++ rest) ∧ 0 ≤ a' ∧ 0 ≤ b' ∧ b' < 2147483647 ∧ (∀ p ∈ tl ++ rest, p.1 ≠ src) ∧ Ord ((src, srcO a b ta tb n) :: rest) tl ∧ Val tl v) False
theorem news_to1 {h₀ h : Heap} {L : Addr} {pre rest : List (Addr × Obj)} {d : Addr × Obj} (N : News h₀ L h (pre ++ d :: rest)) : News h₀ L h (d :: (pre ++ rest)) := fun p hp => N p (by
  simp only [List.mem_cons, List.mem_append] at hp ⊢; rcases hp with h | h | h <;> simp [h])
theorem news_back1 {h₀ h : Heap} {L : Addr} {pre tl rest : List (Addr × Obj)} {d : Addr × Obj} (N : News h₀ L h (d :: (tl ++ (pre ++ rest)))) : News h₀ L h (pre ++ d :: (tl ++ rest)) := fun p hp => N p (by
  simp only [List.mem_cons, List.mem_append] at hp ⊢; rcases hp with h | h | h | h <;> simp [h])
theorem og_mul {a x : Int} : IntMulOk ([a, x.fmod 2147483647].getD (Int.toNat 1) 0) ([a, x.fmod 2147483647].getD (Int.toNat 1) 0) := by
  show IntMulOk (x.fmod 2147483647) (x.fmod 2147483647)
  have h1 : 0 ≤ x.fmod 2147483647 := Int.fmod_nonneg_of_pos _ (by decide)
  have h2 : x.fmod 2147483647 < 2147483647 := Int.fmod_lt_of_pos _ (by decide)
  exact PySem.IntMulOk.of_right (PySem.intBits_le_64 (by omega) (by omega))
theorem wd_f_36 : True := by
  k_with "hk mul_fits" => (exact og_mul)
  trivial

theorem law_take {w : World} {src : Addr} {top : Int} {t : Tok} (ht : 0 < top) (ht2 : top < 1000) : BS w 20 406 [.ref src, .int top t] src (fun _ => True) (fun _ v => ∃ k t, v = .int k t ∧ 0 ≤ k ∧ k < top) := by
  intro rest xa xb ta tb n ha hb hb2 hne _
  unfold CSpec; intro mean mg mb dp un gd cn cs a ccd outer A₀ base h₀ L m s Q E B F X N T hk hd' hu hret her; refine wpAny_call ?_; k_dflt ktr_enter
  k_steps
  · rename_i kF kN Tc kX
    exact hret _ _ _ _ ⟨xa.fdiv top, xb, _, _, _, [], rfl, Int.fdiv_nonneg ha (Int.le_of_lt ht), hb, hb2, hne, Ord.nil, _, _, rfl, Int.fmod_nonneg_of_pos _ ht, Int.fmod_lt_of_pos _ ht⟩ kF kN
  · rename_i kF kN Tc kX
    exact hret _ _ _ _ ⟨_, _, _, _, _, [], rfl, ha, Int.fmod_nonneg_of_pos _ (by decide), Int.fmod_lt_of_pos _ (by decide), hne, Ord.nil, _, _, rfl, Int.fmod_nonneg_of_pos _ ht, Int.fmod_lt_of_pos _ ht⟩ kF kN
/-- the source is in the ledger l, the rest of it is l' -/
structure Rem (src : Addr) (o : Obj) (l l' : List (Addr × Obj)) : Prop where
  mem : (src, o) ∈ l
  sub : ∀ p ∈ l', p ∈ l
  ne : ∀ p ∈ l', p.1 ≠ src
theorem Rem.head {src : Addr} {o : Obj} {l : List (Addr × Obj)} (h : ∀ p ∈ l, p.1 ≠ src) : Rem src o ((src, o) :: l) l := ⟨.head _, fun _ hp => .tail _ hp, h⟩
theorem Rem.cons {src a : Addr} {o oa : Obj} {l l' : List (Addr × Obj)} (r : Rem src o l l') (h : @Ne Nat a src) : Rem src o ((a, oa) :: l) ((a, oa) :: l') :=
  ⟨.tail _ r.mem, fun p hp => (List.mem_cons.mp hp).elim (fun h => h ▸ .head _) fun h => .tail _ (r.sub p h), List.forall_mem_cons.mpr ⟨h, r.ne⟩⟩
theorem Rem.app {src : Addr} {o : Obj} {t l l' : List (Addr × Obj)} (r : Rem src o l l') (h : ∀ p ∈ t, p.1 ≠ src) : Rem src o (t ++ l) (t ++ l') :=
  ⟨List.mem_append_right _ r.mem, fun p hp => (List.mem_append.mp hp).elim (fun h => List.mem_append_left _ h) fun h => List.mem_append_right _ (r.sub p h), fun p hp => (List.mem_append.mp hp).elim (h p) (r.ne p)⟩
theorem BS.use {w : World} {cost : Nat} {fn : Addr} {args : List Value} {src : Addr} {hyp : List (Addr × Obj) → Prop} {Val : List (Addr × Obj) → Value → Prop} (H : BS w cost fn args src hyp Val)
    {led led' : List (Addr × Obj)} {xa xb : Int} {ta tb : Tok} {n : Nat}
    {mean : ExcName → Option Value} {mg mb : Str → Option Value} {dp un : Nat} {gd : Option (List Code)} {cn : Str} {cs : Scope} {a : Addr} {ccd : Value} {outer : List Env} {A₀ : Around} {base h₀ : Heap} {L : Addr} {m : Str → Option Value} {s : Shared} {Q E : Value → Shared → Prop} (B : Below A₀ base outer h₀) (F : Fr h₀ L s.heap m) (X : (ax.heap_1_39 w.params).In h₀) (N : News h₀ L s.heap led) (T : Top ax.view_1_40 LS mean mg mb h₀) (hk : cs.kind = .function) (h1 : dp + cost < recursionLimit) (h2 : un + 8 * cost < cLine)
    (R : Rem src (srcO xa xb ta tb n) led led') (ha : 0 ≤ xa) (hb : 0 ≤ xb) (hb2 : xb < 2147483647) (hy : hyp led')
    (ok : ∀ v xa' xb' ta' tb' n' tl h' tk', 0 ≤ xa' → 0 ≤ xb' → xb' < 2147483647 → (∀ p ∈ tl ++ led', p.1 ≠ src) → Ord ((src, srcO xa xb ta tb n) :: led') tl → Val tl v → Fr h₀ L h' m → News h₀ L h' ((src, srcO xa' xb' ta' tb' n') :: (tl ++ led')) → Q v { s with heap := h', toks := tk' }) :
    wpAny (model PG w) (atop dp un gd cn cs L a ccd outer) (call (.ref fn) args) Q E s :=
  (H led' _ _ _ _ _ ha hb hb2 R.ne hy).use B F X (fun p hp => N p ((List.mem_cons.mp hp).elim (fun h => h ▸ R.mem) (R.sub p))) T hk h1 h2 (fun v n' h' tk' o F' N' => by
    obtain ⟨a', b', ta', tb', n2, tl, rfl, i1, i2, i3, i4, hO, hV⟩ := o
    exact ok v a' b' ta' tb' n2 tl h' tk' i1 i2 i3 i4 hO hV F' N') (fun h => h.elim)
theorem law_take_use {w : World} {src : Addr} {top : Int} {t : Tok} {led led' : List (Addr × Obj)} {xa xb : Int} {ta tb : Tok} {n : Nat}
    {mean : ExcName → Option Value} {mg mb : Str → Option Value} {dp un : Nat} {gd : Option (List Code)} {cn : Str} {cs : Scope} {a : Addr} {ccd : Value} {outer : List Env} {A₀ : Around} {base h₀ : Heap} {L : Addr} {m : Str → Option Value} {s : Shared} {Q E : Value → Shared → Prop} (B : Below A₀ base outer h₀) (F : Fr h₀ L s.heap m) (X : (ax.heap_1_39 w.params).In h₀) (N : News h₀ L s.heap led) (T : Top ax.view_1_40 LS mean mg mb h₀) (hk : cs.kind = .function) (h1 : dp + 20 < recursionLimit) (h2 : un + 8 * 20 < cLine) (ht : 0 < top) (ht2 : top < 1000)
    (R : Rem src (srcO xa xb ta tb n) led led') (ha : 0 ≤ xa) (hb : 0 ≤ xb) (hb2 : xb < 2147483647)
    (ok : ∀ k t' xa' xb' ta' tb' n' h' tk', 0 ≤ k → k < top → 0 ≤ xa' → 0 ≤ xb' → xb' < 2147483647 → Fr h₀ L h' m → News h₀ L h' ((src, srcO xa' xb' ta' tb' n') :: led') → Q (.int k t') { s with heap := h', toks := tk' }) :
    wpAny (model PG w) (atop dp un gd cn cs L a ccd outer) (call (.ref 406) [.ref src, .int top t]) Q E s :=
  (law_take ht ht2).use B F X N T hk h1 h2 R ha hb hb2 trivial (fun v a' b' ta' tb' n' tl h' tk' i1 i2 i3 _ _ hV F' N' => by
    obtain ⟨k, t', rfl, k1, k2⟩ := hV
    exact ok k t' a' b' ta' tb' n' h' tk' k1 k2 i1 i2 i3 F' fun p hp => N' p (by simp only [List.mem_cons, List.mem_append] at hp ⊢; rcases hp with h | h <;> simp [h]))
theorem wd_f_37 : True := by
  k_with "hk k_all" => ((refine' List.forall_mem_cons.mpr ⟨?cZ9, ?dZ9⟩; (case cZ9 => k_ne); (case dZ9 => k_all)))
  k_with "call ref" => (k_here; k_dflt (refine' law_take_use ?_ ?_ ?_ ?_ ?_ ?_ ?_ ?_ ?e0Z9 ?e1Z9 ?b0Z9 ?b1Z9 ?b2Z9 ?b3Z9 ?_; k_extra "hk cell_call"; (case e0Z9 => first | omega | decide); (case e1Z9 => first | omega | decide); (case b0Z9 => (repeat' ((with_reducible show Rem _ _ _ _); first | (refine' Rem.head ?hZ9; (case hZ9 => k_all)) | (refine' Rem.cons ?_ ?hZ9; (case hZ9 => k_ne)) | (refine' Rem.app ?_ ?hZ9; (case hZ9 => k_all))))); (case b1Z9 => assumption); (case b2Z9 => assumption); (case b3Z9 => assumption)); k_whole; intro _ _ _ _ _ _ _ _ _ _ _ _ _ _ _ _; (try k_sweep))
  trivial

theorem ltm {a d : Addr} {o : Obj} {led : List (Addr × Obj)} (h : ∀ p ∈ led, @LT.lt Nat _ p.1 d) (hm : (a, o) ∈ led) : @LT.lt Nat _ a d := h _ hm
theorem lts {d : Addr} {l led : List (Addr × Obj)} (h : ∀ p ∈ led, @LT.lt Nat _ p.1 d) (hs : ∀ p ∈ l, p ∈ led) : ∀ p ∈ l, @LT.lt Nat _ p.1 d := fun p hp => h p (hs p hp)
theorem lts_ne {d : Addr} {l led : List (Addr × Obj)} (h : ∀ p ∈ led, @LT.lt Nat _ p.1 d) (hs : ∀ p ∈ l, p ∈ led) : ∀ p ∈ l, p.1 ≠ d := fun p hp => Nat.ne_of_lt (h p (hs p hp))
local macro_rules | `(tactic| k_lt $h:ident) => `(tactic| skip)
local macro_rules | `(tactic| k_lt2 $h:ident) => `(tactic| skip)
theorem wd_f_38 : True := by
  k_with "hk k_ne" => ((refine neN ?_; (try dsimp only); first | with_reducible assumption | exact Nat.ne_of_gt (ltm (by assumption) (by k_extra "mem")) | exact Nat.ne_of_lt (ltm (by assumption) (by k_extra "mem"))))
  k_with "hk k_all" => (first | with_reducible assumption | exact List.forall_mem_nil _ | exact ord_ne (by assumption) (by k_extra "mem") | exact lts_ne (by assumption) (fun p9 h9 => by k_extra "mem") | (refine' all_app ?aZ9 ?bZ9; (case aZ9 => k_all); (case bZ9 => k_all)) | (refine' List.forall_mem_cons.mpr ⟨?cZ9, ?dZ9⟩; (case cZ9 => k_ne); (case dZ9 => k_all)))
  trivial

theorem upd_app {D : Addr} {o o' : Obj} {t l l' : List (Addr × Obj)} (h : ∀ p ∈ t, @Ne Nat p.1 D) (u : Upd D o o' l l') : Upd D o o' (t ++ l) (t ++ l') := by
  induction t with
  | nil => exact u
  | cons a t ih => exact Upd.tail (h _ (.head _)) (ih fun p hp => h p (.tail _ hp))
theorem wd_f_39 : True := by
  k_with "hk k_upd" => ((refine' upd_app ?aZ9 ?bZ9; (case aZ9 => k_all); (case bZ9 => k_upd)))
  trivial



noncomputable abbrev wordG (w : World) (k x : Str) (v : Value) (T : Nat → Tok) : Obj :=
  dictOf [ent w "kind" (T 0) (.str k (T 1)), ent w "text" (T 2) (.str x (T 3)), ent w "line" (T 4) (.int 1 (T 5)), ent w "column" (T 6) (.int 1 (T 7)), ent w "value" (T 8) v, ent w "is_first" (T 10) (.bool false)] 6
def toks11 (a b c d e f g h i j k : Tok) : Nat → Tok
  | 0 => a
  | 1 => b
  | 2 => c
  | 3 => d
  | 4 => e
  | 5 => f
  | 6 => g
  | 7 => h
  | 8 => i
  | 9 => j
  | _ => k
theorem law_word3 {w : World} {news : List (Addr × Obj)} {k x : Str} {t1 t2 : Tok} {v : Value} (hv : handedIn v = true) :
    CSpec w 40 421 [.str k t1, .str x t2, v] news (fun r n' => ∃ a d T, r = .ref a ∧ n' = (a, instObj 388 d) :: (d, wordG w k x v T) :: news ∧ (∀ p ∈ news, p.1 < d) ∧ @LT.lt Nat _ d a) False := by
  unfold CSpec; intro mean mg mb dp un gd cn cs a ccd outer A₀ base h₀ L m s Q E B F X N T hk hd' hu hret her; refine wpAny_call ?_; k_dflt ktr_enter
  k_steps
  rename_i kF kN _ _
  exact hret _ _ _ _ ⟨_, _, toks11 _ _ _ _ _ _ _ _ _ t1 _, rfl, rfl, by assumption, by assumption⟩ kF kN
theorem law_word2 {w : World} {news : List (Addr × Obj)} {k x : Str} {t1 t2 : Tok} :
    CSpec w 40 421 [.str k t1, .str x t2] news (fun r n' => ∃ a d T, r = .ref a ∧ n' = (a, instObj 388 d) :: (d, wordG w k x .none T) :: news ∧ (∀ p ∈ news, p.1 < d) ∧ @LT.lt Nat _ d a) False := by
  unfold CSpec; intro mean mg mb dp un gd cn cs a ccd outer A₀ base h₀ L m s Q E B F X N T hk hd' hu hret her; refine wpAny_call ?_; k_dflt ktr_enter
  k_steps
  rename_i kF kN _ _
  exact hret _ _ _ _ ⟨_, _, toks11 _ _ _ _ _ _ _ _ _ t1 _, rfl, rfl, by assumption, by assumption⟩ kF kN
theorem law_word3_use {w : World} {news : List (Addr × Obj)} {k x : Str} {t1 t2 : Tok} {v : Value}
    {mean : ExcName → Option Value} {mg mb : Str → Option Value} {dp un : Nat} {gd : Option (List Code)} {cn : Str} {cs : Scope} {a : Addr} {ccd : Value} {outer : List Env} {A₀ : Around} {base h₀ : Heap} {L : Addr} {m : Str → Option Value} {s : Shared} {Q E : Value → Shared → Prop} (B : Below A₀ base outer h₀) (F : Fr h₀ L s.heap m) (X : (ax.heap_1_39 w.params).In h₀) (N : News h₀ L s.heap news) (T : Top ax.view_1_40 LS mean mg mb h₀) (hk : cs.kind = .function) (h1 : dp + 40 < recursionLimit) (h2 : un + 8 * 40 < cLine) (hv : handedIn v = true)
    (ok : ∀ a d T h' tk', Fr h₀ L h' m → News h₀ L h' ((a, instObj 388 d) :: (d, wordG w k x v T) :: news) → (∀ p ∈ news, p.1 < d) → (∀ p ∈ (d, wordG w k x v T) :: news, @LT.lt Nat _ p.1 a) → Q (.ref a) { s with heap := h', toks := tk' }) :
    wpAny (model PG w) (atop dp un gd cn cs L a ccd outer) (call (.ref 421) [.str k t1, .str x t2, v]) Q E s :=
  (law_word3 hv).use B F X N T hk h1 h2 (fun v n' h' tk' o F' N' => by obtain ⟨a, d, T, rfl, rfl, l1, l2⟩ := o; exact ok _ _ _ _ _ F' N' l1 (List.forall_mem_cons.mpr ⟨l2, fun p hp => Nat.lt_trans (l1 p hp) l2⟩)) (fun h => h.elim)
theorem wd_f_40 : True := by
  k_with "call ref" => (k_here; k_dflt (refine' law_word3_use ?_ ?_ ?_ ?_ ?_ ?_ ?_ ?_ ?k9Z9 ?_; k_extra "hk cell_call"; (case k9Z9 => k_handed)); k_whole; intro _ _ _ _ _ _ _ l1 l2; (try k_lt l1); (try k_lt2 l2); (try (revert l1 l2; intro _ _)); (try k_sweep))
  trivial

theorem law_word2_use {w : World} {news : List (Addr × Obj)} {k x : Str} {t1 t2 : Tok}
    {mean : ExcName → Option Value} {mg mb : Str → Option Value} {dp un : Nat} {gd : Option (List Code)} {cn : Str} {cs : Scope} {a : Addr} {ccd : Value} {outer : List Env} {A₀ : Around} {base h₀ : Heap} {L : Addr} {m : Str → Option Value} {s : Shared} {Q E : Value → Shared → Prop} (B : Below A₀ base outer h₀) (F : Fr h₀ L s.heap m) (X : (ax.heap_1_39 w.params).In h₀) (N : News h₀ L s.heap news) (T : Top ax.view_1_40 LS mean mg mb h₀) (hk : cs.kind = .function) (h1 : dp + 40 < recursionLimit) (h2 : un + 8 * 40 < cLine)
    (ok : ∀ a d T h' tk', Fr h₀ L h' m → News h₀ L h' ((a, instObj 388 d) :: (d, wordG w k x .none T) :: news) → (∀ p ∈ news, p.1 < d) → d < a → Q (.ref a) { s with heap := h', toks := tk' }) :
    wpAny (model PG w) (atop dp un gd cn cs L a ccd outer) (call (.ref 421) [.str k t1, .str x t2]) Q E s :=
  (law_word2).use B F X N T hk h1 h2 (fun v n' h' tk' o F' N' => by obtain ⟨a, d, T, rfl, rfl, l1, l2⟩ := o; exact ok _ _ _ _ _ F' N' l1 l2) (fun h => h.elim)
theorem wd_f_41 : True := by
  k_with "call ref" => (k_here; k_dflt (refine' law_word2_use ?_ ?_ ?_ ?_ ?_ ?_ ?_ ?_ ?_; k_extra "hk cell_call"); k_whole; intro _ _ _ _ _ _ _ l1 l2; (try k_lt l1); (try k_lt2 l2); (try (revert l1 l2; intro _ _)); (try k_sweep))
  trivial

theorem law_special {w : World} {news : List (Addr × Obj)} {x : Str} {t2 : Tok} :
    CSpec w 50 428 [.str x t2] news (fun r n' => ∃ a d T, r = .ref a ∧ n' = (a, instObj 388 d) :: (d, wordG w (Str.ofString "special") x .none T) :: news ∧ (∀ p ∈ news, p.1 < d) ∧ @LT.lt Nat _ d a) False := by
  unfold CSpec; intro mean mg mb dp un gd cn cs a ccd outer A₀ base h₀ L m s Q E B F X N T hk hd' hu hret her; refine wpAny_call ?_; k_dflt ktr_enter
  k_steps
  rename_i kF kN _ _
  exact hret _ _ _ _ ⟨_, _, _, rfl, rfl, by assumption, by assumption⟩ kF kN
theorem Ord.cons' {a : Addr} {o : Obj} {news tl : List (Addr × Obj)} (h : ∀ q ∈ news, @LT.lt Nat _ q.1 a) (t : Ord news tl) : Ord news ((a, o) :: tl) := fun q hq p hp => by
  rcases List.mem_cons.mp hp with rfl | hp
  · exact h q hq
  · exact t q hq p hp
theorem lt_tr {d a : Addr} {news : List (Addr × Obj)} (h : ∀ q ∈ news, @LT.lt Nat _ q.1 d) (h' : @LT.lt Nat _ d a) : ∀ q ∈ news, @LT.lt Nat _ q.1 a := fun q hq => Nat.lt_trans (h q hq) h'
def tok9 (T : Nat → Tok) (t : Tok) : Nat → Tok := fun n => if n = 9 then t else T n
theorem WordIn.mk {w : World} {x : W} {k tx : Str} {v : Value} {T : Nat → Tok} {tl : List (Addr × Obj)} {a d : Addr} (h1 : (a, instObj 388 d) ∈ tl) (h2 : (d, wordG w k tx v T) ∈ tl) (hk : x.kd = k) (ht : x.tx = tx)
    (hv : (v = .none ∧ x.vl = none) ∨ ∃ s t, v = .str s t ∧ x.vl = some s) : WordIn w tl (.ref a) x := by
  subst hk; subst ht
  rcases hv with ⟨rfl, e⟩ | ⟨s, t, rfl, e⟩
  · refine ⟨a, d, T, rfl, h1, ?_⟩
    unfold wordO
    rw [e]
    exact h2
  · refine ⟨a, d, tok9 T t, rfl, h1, ?_⟩
    unfold wordO
    rw [e]
    exact h2
theorem law_word2V_use {w : World} {news : List (Addr × Obj)} (x : W) {k tx : Str} {t1 t2 : Tok}
    {mean : ExcName → Option Value} {mg mb : Str → Option Value} {dp un : Nat} {gd : Option (List Code)} {cn : Str} {cs : Scope} {a : Addr} {ccd : Value} {outer : List Env} {A₀ : Around} {base h₀ : Heap} {L : Addr} {m : Str → Option Value} {s : Shared} {Q E : Value → Shared → Prop} (B : Below A₀ base outer h₀) (F : Fr h₀ L s.heap m) (X : (ax.heap_1_39 w.params).In h₀) (N : News h₀ L s.heap news) (T : Top ax.view_1_40 LS mean mg mb h₀) (hk : cs.kind = .function) (h1 : dp + 40 < recursionLimit) (h2 : un + 8 * 40 < cLine) (hxt : x.tx = tx) (hxk : x.kd = k) (hxv : x.vl = none)
    (ok : ∀ a tl h' tk', WordIn w tl (.ref a) x → Ord news tl → Fr h₀ L h' m → News h₀ L h' (tl ++ news) → Q (.ref a) { s with heap := h', toks := tk' }) :
    wpAny (model PG w) (atop dp un gd cn cs L a ccd outer) (call (.ref 421) [.str k t1, .str tx t2]) Q E s :=
  (law_word2).use B F X N T hk h1 h2 (fun v n' h' tk' o F' N' => by
    obtain ⟨a, d, T, rfl, rfl, l1, l2⟩ := o
    exact ok _ [_, _] _ _ (.mk (.head _) (.tail _ (.head _)) hxk hxt (.inl ⟨rfl, hxv⟩)) (Ord.cons' (lt_tr l1 l2) (Ord.cons' l1 Ord.nil)) F' N') (fun h => h.elim)
theorem wd_f_42 : True := by
  k_with "call ref" => (k_here; k_dflt ((first | (refine' law_word2V_use .vqual ?_ ?_ ?_ ?_ ?_ ?_ ?_ ?_ ?q2Z9 ?q1Z9 ?q3Z9 ?_; (case q2Z9 => decide +kernel)) | (refine' law_word2V_use .vas ?_ ?_ ?_ ?_ ?_ ?_ ?_ ?_ ?q2Z9 ?q1Z9 ?q3Z9 ?_; (case q2Z9 => decide +kernel)) | (refine' law_word2V_use .vhid ?_ ?_ ?_ ?_ ?_ ?_ ?_ ?_ ?q2Z9 ?q1Z9 ?q3Z9 ?_; (case q2Z9 => decide +kernel)) | (refine' law_word2V_use .kmod ?_ ?_ ?_ ?_ ?_ ?_ ?_ ?_ ?q2Z9 ?q1Z9 ?q3Z9 ?_; (case q2Z9 => decide +kernel)) | (refine' law_word2V_use .dots ?_ ?_ ?_ ?_ ?_ ?_ ?_ ?_ ?q2Z9 ?q1Z9 ?q3Z9 ?_; (case q2Z9 => decide +kernel)) | (refine' law_word2V_use .fin ?_ ?_ ?_ ?_ ?_ ?_ ?_ ?_ ?q2Z9 ?q1Z9 ?q3Z9 ?_; (case q2Z9 => decide +kernel)) | (refine' law_word2V_use .cplus ?_ ?_ ?_ ?_ ?_ ?_ ?_ ?_ ?q2Z9 ?q1Z9 ?q3Z9 ?_; (case q2Z9 => decide +kernel)) | (refine' law_word2V_use .gOne ?_ ?_ ?_ ?_ ?_ ?_ ?_ ?_ ?q2Z9 ?q1Z9 ?q3Z9 ?_; (case q2Z9 => decide +kernel)) | (refine' law_word2V_use .vop ?_ ?_ ?_ ?_ ?_ ?_ ?_ ?_ ?q2Z9 ?q1Z9 ?q3Z9 ?_; (case q2Z9 => decide +kernel))); (case q1Z9 => decide +kernel); (case q3Z9 => exact rfl); k_extra "hk cell_call"); k_whole; intro _ _ _ _ _ _ _ _; (try k_sweep))
  trivial

theorem law_specialV_use {w : World} {news : List (Addr × Obj)} (x : W) {tx : Str} {t2 : Tok}
    {mean : ExcName → Option Value} {mg mb : Str → Option Value} {dp un : Nat} {gd : Option (List Code)} {cn : Str} {cs : Scope} {a : Addr} {ccd : Value} {outer : List Env} {A₀ : Around} {base h₀ : Heap} {L : Addr} {m : Str → Option Value} {s : Shared} {Q E : Value → Shared → Prop} (B : Below A₀ base outer h₀) (F : Fr h₀ L s.heap m) (X : (ax.heap_1_39 w.params).In h₀) (N : News h₀ L s.heap news) (T : Top ax.view_1_40 LS mean mg mb h₀) (hk : cs.kind = .function) (h1 : dp + 50 < recursionLimit) (h2 : un + 8 * 50 < cLine) (hxt : x.tx = tx) (hxk : x.kd = Str.ofString "special") (hxv : x.vl = none)
    (ok : ∀ a tl h' tk', WordIn w tl (.ref a) x → Ord news tl → Fr h₀ L h' m → News h₀ L h' (tl ++ news) → Q (.ref a) { s with heap := h', toks := tk' }) :
    wpAny (model PG w) (atop dp un gd cn cs L a ccd outer) (call (.ref 428) [.str tx t2]) Q E s :=
  (law_special).use B F X N T hk h1 h2 (fun v n' h' tk' o F' N' => by
    obtain ⟨a, d, T, rfl, rfl, l1, l2⟩ := o
    exact ok _ [_, _] _ _ (.mk (.head _) (.tail _ (.head _)) hxk hxt (.inl ⟨rfl, hxv⟩)) (Ord.cons' (lt_tr l1 l2) (Ord.cons' l1 Ord.nil)) F' N') (fun h => h.elim)
theorem wd_f_43 : True := by
  k_with "call ref" => (k_here; k_dflt ((first | (refine' law_specialV_use .lp ?_ ?_ ?_ ?_ ?_ ?_ ?_ ?_ ?q2Z9 ?q1Z9 ?q3Z9 ?_; (case q2Z9 => decide +kernel)) | (refine' law_specialV_use .rp ?_ ?_ ?_ ?_ ?_ ?_ ?_ ?_ ?q2Z9 ?q1Z9 ?q3Z9 ?_; (case q2Z9 => decide +kernel)) | (refine' law_specialV_use .cm ?_ ?_ ?_ ?_ ?_ ?_ ?_ ?_ ?q2Z9 ?q1Z9 ?q3Z9 ?_; (case q2Z9 => decide +kernel)) | (refine' law_specialV_use .semi ?_ ?_ ?_ ?_ ?_ ?_ ?_ ?_ ?q2Z9 ?q1Z9 ?q3Z9 ?_; (case q2Z9 => decide +kernel))); (case q1Z9 => exact rfl); (case q3Z9 => exact rfl); k_extra "hk cell_call"); k_whole; intro _ _ _ _ _ _ _ _; (try k_sweep))
  trivial

theorem Ord.app2 {news t tl : List (Addr × Obj)} (h : Ord news t) (r : Ord news tl) : Ord news (t ++ tl) := fun q hq p hp => (List.mem_append.mp hp).elim (h q hq p) (r q hq p)
/-- the ledger l holds new things tl upon news -/
structure Spm (news l tl : List (Addr × Obj)) : Prop where
  sub : ∀ p ∈ tl ++ news, p ∈ l
  ord : Ord news tl
theorem Spm.nil {news : List (Addr × Obj)} : Spm news news [] := ⟨fun _ h => h, Ord.nil⟩
theorem Spm.cons {a : Addr} {o : Obj} {news l tl : List (Addr × Obj)} (r : Spm news l tl) (h : ∀ q ∈ news, @LT.lt Nat _ q.1 a) : Spm news ((a, o) :: l) ((a, o) :: tl) :=
  ⟨fun p hp => (List.mem_cons.mp hp).elim (fun h => h ▸ .head _) fun h => .tail _ (r.sub p h), Ord.cons' h r.ord⟩
theorem Spm.app {news l t tl : List (Addr × Obj)} (r : Spm news l tl) (h : Ord news t) : Spm news (t ++ l) (t ++ tl) :=
  ⟨fun p hp => by rw [List.append_assoc] at hp; exact (List.mem_append.mp hp).elim (fun h => List.mem_append_left _ h) fun h => List.mem_append_right _ (r.sub p h), Ord.app2 h r.ord⟩
theorem Spm.done {news l tl : List (Addr × Obj)} {Val : List (Addr × Obj) → Value → Prop} {v : Value} {m : Str → Option Value} {h₀ h' : Heap} {L : Addr} {tk' : Nat} {R : Value → Nat → Heap → Prop}
    (hret : ∀ v n2 h' tk', (∃ tl, n2 = tl ++ news ∧ Ord news tl ∧ Val tl v) → Fr h₀ L h' m → News h₀ L h' n2 → R v tk' h') (kF : Fr h₀ L h' m) (kN : News h₀ L h' l) (S : Spm news l tl) (hV : Val tl v) : R v tk' h' :=
  hret v _ h' tk' ⟨tl, rfl, S.ord, hV⟩ kF fun p hp => kN p (S.sub p hp)


theorem law_one {w : World} {src l : Addr} {vs : List Value} {n' : Nat} (h0 : 0 < vs.length) (h9 : vs.length < 100) : BS w 40 413 [.ref src, .ref l] src (fun rest => (l, listO vs n') ∈ rest) (fun _ v => v ∈ vs) := by
  intro rest xa xb ta tb n ha hb hb2 hne hm
  unfold CSpec; intro mean mg mb dp un gd cn cs a ccd outer A₀ base h₀ L m s Q E B F X N T hk hd' hu hret her; refine wpAny_call ?_; k_dflt ktr_enter
  k_steps
  rename_i kd td' xa' xb' ta' tb' n9 h9' tk9' kd0 kd1 xa0' xb0' xb9' F' N'
  obtain ⟨v, hx⟩ : ∃ v, vs[kd.toNat]? = some v := ⟨_, List.getElem?_eq_getElem (by omega)⟩
  k_steps
  rename_i kF kN _ _
  exact hret _ _ _ _ ⟨_, _, _, _, _, [], rfl, xa0', xb0', xb9', hne, Ord.nil, List.mem_of_getElem? hx⟩ kF kN
theorem law_one_use {w : World} {src l : Addr} {vs : List Value} {nn : Nat} {led led' : List (Addr × Obj)} {xa xb : Int} {ta tb : Tok} {n : Nat}
    {mean : ExcName → Option Value} {mg mb : Str → Option Value} {dp un : Nat} {gd : Option (List Code)} {cn : Str} {cs : Scope} {a : Addr} {ccd : Value} {outer : List Env} {A₀ : Around} {base h₀ : Heap} {L : Addr} {m : Str → Option Value} {s : Shared} {Q E : Value → Shared → Prop} (B : Below A₀ base outer h₀) (F : Fr h₀ L s.heap m) (X : (ax.heap_1_39 w.params).In h₀) (N : News h₀ L s.heap led) (T : Top ax.view_1_40 LS mean mg mb h₀) (hk : cs.kind = .function) (h1 : dp + 40 < recursionLimit) (h2 : un + 8 * 40 < cLine) (R : Rem src (srcO xa xb ta tb n) led led') (hm : (l, listO vs nn) ∈ led') (h0 : 0 < vs.length) (h9 : vs.length < 100) {P : Value → Prop} (hP : ∀ v ∈ vs, P v)
    (ha : 0 ≤ xa) (hb : 0 ≤ xb) (hb2 : xb < 2147483647)
    (ok : ∀ v xa' xb' ta' tb' n' h' tk', P v → 0 ≤ xa' → 0 ≤ xb' → xb' < 2147483647 → Fr h₀ L h' m → News h₀ L h' ((src, srcO xa' xb' ta' tb' n') :: led') → Q v { s with heap := h', toks := tk' }) :
    wpAny (model PG w) (atop dp un gd cn cs L a ccd outer) (call (.ref 413) [.ref src, .ref l]) Q E s :=
  (law_one h0 h9).use B F X N T hk h1 h2 R ha hb hb2 hm (fun v a' b' ta' tb' n' tl h' tk' i1 i2 i3 _ _ hV F' N' =>
    ok v a' b' ta' tb' n' h' tk' (hP v hV) i1 i2 i3 F' fun p hp => N' p (by simp only [List.mem_cons, List.mem_append] at hp ⊢; rcases hp with h | h <;> simp [h]))
def W.isVal : W → Bool
  | .vf | .vMf | .vplus | .vMplus | .vhid | .vas => true
  | _ => false
def W.great : W → Bool
  | .gM | .gAB | .gT | .gMT | .gN | .gAN => true
  | _ => false
theorem one_val {t1 t2 t3 t4 t5 t6 : Tok} : ∀ v ∈ ([.str (Str.ofString "f") t1, .str (Str.ofString "M.f") t2, .str (Str.ofString "+") t3, .str (Str.ofString "M.+") t4, .str (Str.ofString "hiding") t5, .str (Str.ofString "as") t6] : List Value), ∃ (x : W) (t : Tok), v = .str x.nm t ∧ x.isVal = true := by
  have e1 : W.vf.nm = Str.ofString "f" := by decide +kernel
  have e2 : W.vMf.nm = Str.ofString "M.f" := by decide +kernel
  have e3 : W.vplus.nm = Str.ofString "+" := by decide +kernel
  have e4 : W.vMplus.nm = Str.ofString "M.+" := by decide +kernel
  have e5 : W.vhid.nm = Str.ofString "hiding" := by decide +kernel
  have e6 : W.vas.nm = Str.ofString "as" := by decide +kernel
  rw [← e1, ← e2, ← e3, ← e4, ← e5, ← e6]
  intro v hv
  simp only [List.mem_cons, List.not_mem_nil, or_false] at hv
  rcases hv with rfl | rfl | rfl | rfl | rfl | rfl <;> exact ⟨_, _, rfl, rfl⟩
theorem one_mod {t1 t2 : Tok} : ∀ v ∈ ([.str (Str.ofString "M") t1, .str (Str.ofString "A.B") t2] : List Value), ∃ (x : W) (t : Tok), v = .str x.nm t ∧ x.great = true := by
  rw [show Str.ofString "M" = W.gM.nm from by decide +kernel, show Str.ofString "A.B" = W.gAB.nm from by decide +kernel]
  intro v hv
  simp only [List.mem_cons, List.not_mem_nil, or_false] at hv
  rcases hv with rfl | rfl <;> exact ⟨_, _, rfl, rfl⟩
theorem one_typ {t1 t2 : Tok} : ∀ v ∈ ([.str (Str.ofString "T") t1, .str (Str.ofString "M.T") t2] : List Value), ∃ (x : W) (t : Tok), v = .str x.nm t ∧ x.great = true := by
  rw [show Str.ofString "T" = W.gT.nm from by decide +kernel, show Str.ofString "M.T" = W.gMT.nm from by decide +kernel]
  intro v hv
  simp only [List.mem_cons, List.not_mem_nil, or_false] at hv
  rcases hv with rfl | rfl <;> exact ⟨_, _, rfl, rfl⟩
theorem one_al {t1 t2 : Tok} : ∀ v ∈ ([.none, .str (Str.ofString "N") t1, .str (Str.ofString "A.N") t2] : List Value), ∃ (x : Option W), AliasV v x ∧ ∀ y, x = some y → y.great = true := by
  rw [show Str.ofString "N" = W.gN.nm from by decide +kernel, show Str.ofString "A.N" = W.gAN.nm from by decide +kernel]
  intro v hv
  simp only [List.mem_cons, List.not_mem_nil, or_false] at hv
  rcases hv with rfl | rfl | rfl
  · exact ⟨none, rfl, fun _ h => nomatch h⟩
  · exact ⟨some .gN, ⟨_, rfl⟩, fun _ h => by cases h; rfl⟩
  · exact ⟨some .gAN, ⟨_, rfl⟩, fun _ h => by cases h; rfl⟩
theorem wd_f_44 : True := by
  k_with "call ref" => (k_here; k_dflt (refine' law_one_use ?_ ?_ ?_ ?_ ?_ ?_ ?_ ?_ ?b0Z9 ?e0Z9 ?e1Z9 ?e2Z9 ?e3Z9 ?b1Z9 ?b2Z9 ?b3Z9 ?_; k_extra "hk cell_call"; (case b0Z9 => (repeat' ((with_reducible show Rem _ _ _ _); first | (refine' Rem.head ?hZ9; (case hZ9 => k_all)) | (refine' Rem.cons ?_ ?hZ9; (case hZ9 => k_ne)) | (refine' Rem.app ?_ ?hZ9; (case hZ9 => k_all))))); (case e0Z9 => k_extra "mem"); (case e1Z9 => exact Nat.le_of_ble_eq_true rfl); (case e2Z9 => exact Nat.le_of_ble_eq_true rfl); (case e3Z9 => first | with_reducible exact one_val | with_reducible exact one_mod | with_reducible exact one_typ | with_reducible exact one_al); (case b1Z9 => assumption); (case b2Z9 => assumption); (case b3Z9 => assumption)); k_whole; intro _ _ _ _ _ _ _ _ hv _ _ _ _ _; (first | (obtain ⟨_, _, hv8, _⟩ := hv; subst hv8) | obtain ⟨_, _, _⟩ := hv); (try k_sweep))
  trivial



def Mk (w : World) (cost : Nat) (fn : Addr) (args : List Value) (Val : List (Addr × Obj) → Value → Prop) : Prop :=
  ∀ news : List (Addr × Obj), CSpec w cost fn args news (fun r n' => ∃ tl, n' = tl ++ news ∧ Ord news tl ∧ Val tl r) False
theorem Mk.use {w : World} {cost : Nat} {fn : Addr} {args : List Value} {Val : List (Addr × Obj) → Value → Prop} (H : Mk w cost fn args Val) {news : List (Addr × Obj)}
    {mean : ExcName → Option Value} {mg mb : Str → Option Value} {dp un : Nat} {gd : Option (List Code)} {cn : Str} {cs : Scope} {a : Addr} {ccd : Value} {outer : List Env} {A₀ : Around} {base h₀ : Heap} {L : Addr} {m : Str → Option Value} {s : Shared} {Q E : Value → Shared → Prop} (B : Below A₀ base outer h₀) (F : Fr h₀ L s.heap m) (X : (ax.heap_1_39 w.params).In h₀) (N : News h₀ L s.heap news) (T : Top ax.view_1_40 LS mean mg mb h₀) (hk : cs.kind = .function) (h1 : dp + cost < recursionLimit) (h2 : un + 8 * cost < cLine)
    (ok : ∀ v tl h' tk', Val tl v → Ord news tl → Fr h₀ L h' m → News h₀ L h' (tl ++ news) → Q v { s with heap := h', toks := tk' }) :
    wpAny (model PG w) (atop dp un gd cn cs L a ccd outer) (call (.ref fn) args) Q E s :=
  (H news).use B F X N T hk h1 h2 (fun v n' h' tk' o F' N' => by obtain ⟨tl, rfl, hO, hV⟩ := o; exact ok _ _ _ _ hV hO F' N') (fun h => h.elim)
theorem law_great {w : World} {x : W} {t : Tok} (hx : x.great = true) : Mk w 80 435 [.str x.nm t] (fun tl r => WordIn w tl r x) := by
  intro news
  cases x <;> first | (exact absurd hx (by decide)) | skip
  · rw [show W.gM.nm = Str.ofString "M" from by decide +kernel]
    unfold CSpec; intro mean mg mb dp un gd cn cs a ccd outer A₀ base h₀ L m s Q E B F X N T hk hd' hu hret her; refine wpAny_call ?_; k_dflt ktr_enter
    k_steps
    rename_i kF kN _ _
    refine' Spm.done (R := fun v tk h => Q v { s with heap := h, toks := tk }) hret kF kN ?S ?V
    case S => (repeat' ((with_reducible show Spm _ _ _); first | exact Spm.nil | (refine' Spm.cons ?_ ?h; (case h => first | with_reducible assumption | exact lts (by assumption) (fun p9 h9 => by k_extra "mem"))) | (refine' Spm.app ?_ ?h; (case h => exact Ord.sub (by assumption) (fun p9 h9 => by k_extra "mem")))))
    case V => exact .mk (.head _) (.tail _ (.head _)) (by decide +kernel) (by decide +kernel) (.inl ⟨rfl, rfl⟩)
  · rw [show W.gAB.nm = Str.ofString "A.B" from by decide +kernel]
    unfold CSpec; intro mean mg mb dp un gd cn cs a ccd outer A₀ base h₀ L m s Q E B F X N T hk hd' hu hret her; refine wpAny_call ?_; k_dflt ktr_enter
    k_steps
    rename_i kF kN _ _
    refine' Spm.done (R := fun v tk h => Q v { s with heap := h, toks := tk }) hret kF kN ?S ?V
    case S => (repeat' ((with_reducible show Spm _ _ _); first | exact Spm.nil | (refine' Spm.cons ?_ ?h; (case h => first | with_reducible assumption | exact lts (by assumption) (fun p9 h9 => by k_extra "mem"))) | (refine' Spm.app ?_ ?h; (case h => exact Ord.sub (by assumption) (fun p9 h9 => by k_extra "mem")))))
    case V => exact .mk (.head _) (.tail _ (.head _)) (by decide +kernel) (by decide +kernel) (.inr ⟨_, _, rfl, by decide +kernel⟩)
  · rw [show W.gT.nm = Str.ofString "T" from by decide +kernel]
    unfold CSpec; intro mean mg mb dp un gd cn cs a ccd outer A₀ base h₀ L m s Q E B F X N T hk hd' hu hret her; refine wpAny_call ?_; k_dflt ktr_enter
    k_steps
    rename_i kF kN _ _
    refine' Spm.done (R := fun v tk h => Q v { s with heap := h, toks := tk }) hret kF kN ?S ?V
    case S => (repeat' ((with_reducible show Spm _ _ _); first | exact Spm.nil | (refine' Spm.cons ?_ ?h; (case h => first | with_reducible assumption | exact lts (by assumption) (fun p9 h9 => by k_extra "mem"))) | (refine' Spm.app ?_ ?h; (case h => exact Ord.sub (by assumption) (fun p9 h9 => by k_extra "mem")))))
    case V => exact .mk (.head _) (.tail _ (.head _)) (by decide +kernel) (by decide +kernel) (.inl ⟨rfl, rfl⟩)
  · rw [show W.gMT.nm = Str.ofString "M.T" from by decide +kernel]
    unfold CSpec; intro mean mg mb dp un gd cn cs a ccd outer A₀ base h₀ L m s Q E B F X N T hk hd' hu hret her; refine wpAny_call ?_; k_dflt ktr_enter
    k_steps
    rename_i kF kN _ _
    refine' Spm.done (R := fun v tk h => Q v { s with heap := h, toks := tk }) hret kF kN ?S ?V
    case S => (repeat' ((with_reducible show Spm _ _ _); first | exact Spm.nil | (refine' Spm.cons ?_ ?h; (case h => first | with_reducible assumption | exact lts (by assumption) (fun p9 h9 => by k_extra "mem"))) | (refine' Spm.app ?_ ?h; (case h => exact Ord.sub (by assumption) (fun p9 h9 => by k_extra "mem")))))
    case V => exact .mk (.head _) (.tail _ (.head _)) (by decide +kernel) (by decide +kernel) (.inr ⟨_, _, rfl, by decide +kernel⟩)
  · rw [show W.gN.nm = Str.ofString "N" from by decide +kernel]
    unfold CSpec; intro mean mg mb dp un gd cn cs a ccd outer A₀ base h₀ L m s Q E B F X N T hk hd' hu hret her; refine wpAny_call ?_; k_dflt ktr_enter
    k_steps
    rename_i kF kN _ _
    refine' Spm.done (R := fun v tk h => Q v { s with heap := h, toks := tk }) hret kF kN ?S ?V
    case S => (repeat' ((with_reducible show Spm _ _ _); first | exact Spm.nil | (refine' Spm.cons ?_ ?h; (case h => first | with_reducible assumption | exact lts (by assumption) (fun p9 h9 => by k_extra "mem"))) | (refine' Spm.app ?_ ?h; (case h => exact Ord.sub (by assumption) (fun p9 h9 => by k_extra "mem")))))
    case V => exact .mk (.head _) (.tail _ (.head _)) (by decide +kernel) (by decide +kernel) (.inl ⟨rfl, rfl⟩)
  · rw [show W.gAN.nm = Str.ofString "A.N" from by decide +kernel]
    unfold CSpec; intro mean mg mb dp un gd cn cs a ccd outer A₀ base h₀ L m s Q E B F X N T hk hd' hu hret her; refine wpAny_call ?_; k_dflt ktr_enter
    k_steps
    rename_i kF kN _ _
    refine' Spm.done (R := fun v tk h => Q v { s with heap := h, toks := tk }) hret kF kN ?S ?V
    case S => (repeat' ((with_reducible show Spm _ _ _); first | exact Spm.nil | (refine' Spm.cons ?_ ?h; (case h => first | with_reducible assumption | exact lts (by assumption) (fun p9 h9 => by k_extra "mem"))) | (refine' Spm.app ?_ ?h; (case h => exact Ord.sub (by assumption) (fun p9 h9 => by k_extra "mem")))))
    case V => exact .mk (.head _) (.tail _ (.head _)) (by decide +kernel) (by decide +kernel) (.inr ⟨_, _, rfl, by decide +kernel⟩)


def ListW (w : World) (tl : List (Addr × Obj)) (r : Value) (toks : List W) : Prop := ∃ l vs n, r = .ref l ∧ (l, listO vs n) ∈ tl ∧ All2 (WordIn w tl) vs toks
def W.valT (x : W) : List W := match x with
  | .vplus | .vMplus => [.lp, x, .rp]
  | _ => [x]
def W.partT (x : W) : List W := match x with
  | .cplus => [.lp, x, .rp]
  | _ => [x]
def W.isPart : W → Bool
  | .gOne | .cplus | .vop => true
  | _ => false
theorem law_value {w : World} {x : W} {t : Tok} (hx : x.isVal = true) : Mk w 80 442 [.str x.nm t] (fun tl r => ListW w tl r x.valT) := by
  intro news
  cases x <;> first | (exact absurd hx (by decide)) | skip
  · rw [show W.vf.nm = Str.ofString "f" from by decide +kernel]
    unfold CSpec; intro mean mg mb dp un gd cn cs a ccd outer A₀ base h₀ L m s Q E B F X N T hk hd' hu hret her; refine wpAny_call ?_; k_dflt ktr_enter
    k_steps
    rename_i kF kN _ _
    refine' Spm.done (R := fun v tk h => Q v { s with heap := h, toks := tk }) hret kF kN ?S ?V
    case S => (repeat' ((with_reducible show Spm _ _ _); first | exact Spm.nil | (refine' Spm.cons ?_ ?h; (case h => first | with_reducible assumption | exact lts (by assumption) (fun p9 h9 => by k_extra "mem"))) | (refine' Spm.app ?_ ?h; (case h => exact Ord.sub (by assumption) (fun p9 h9 => by k_extra "mem")))))
    case V => exact ⟨_, [_], 0, rfl, .head _, .cons (.mk (by k_extra "mem") (by k_extra "mem") (by decide +kernel) (by decide +kernel) (.inl ⟨rfl, rfl⟩)) .nil⟩
  · rw [show W.vMf.nm = Str.ofString "M.f" from by decide +kernel]
    unfold CSpec; intro mean mg mb dp un gd cn cs a ccd outer A₀ base h₀ L m s Q E B F X N T hk hd' hu hret her; refine wpAny_call ?_; k_dflt ktr_enter
    k_steps
    rename_i kF kN _ _
    refine' Spm.done (R := fun v tk h => Q v { s with heap := h, toks := tk }) hret kF kN ?S ?V
    case S => (repeat' ((with_reducible show Spm _ _ _); first | exact Spm.nil | (refine' Spm.cons ?_ ?h; (case h => first | with_reducible assumption | exact lts (by assumption) (fun p9 h9 => by k_extra "mem"))) | (refine' Spm.app ?_ ?h; (case h => exact Ord.sub (by assumption) (fun p9 h9 => by k_extra "mem")))))
    case V => exact ⟨_, [_], 0, rfl, .head _, .cons (.mk (by k_extra "mem") (by k_extra "mem") (by decide +kernel) (by decide +kernel) (.inr ⟨_, _, rfl, by decide +kernel⟩)) .nil⟩
  · rw [show W.vplus.nm = Str.ofString "+" from by decide +kernel]
    unfold CSpec; intro mean mg mb dp un gd cn cs a ccd outer A₀ base h₀ L m s Q E B F X N T hk hd' hu hret her; refine wpAny_call ?_; k_dflt ktr_enter
    k_steps
    rename_i kF kN _ _
    refine' Spm.done (R := fun v tk h => Q v { s with heap := h, toks := tk }) hret kF kN ?S ?V
    case S => (repeat' ((with_reducible show Spm _ _ _); first | exact Spm.nil | (refine' Spm.cons ?_ ?h; (case h => first | with_reducible assumption | exact lts (by assumption) (fun p9 h9 => by k_extra "mem"))) | (refine' Spm.app ?_ ?h; (case h => exact Ord.sub (by assumption) (fun p9 h9 => by k_extra "mem")))))
    case V => exact ⟨_, [_, _, _], 0, rfl, .head _, .cons (WordIn.mono (by with_reducible assumption) (by intro p9 h9; k_extra "mem")) (.cons (.mk (by k_extra "mem") (by k_extra "mem") (by decide +kernel) (by decide +kernel) (.inl ⟨rfl, rfl⟩)) (.cons (WordIn.mono (by with_reducible assumption) (by intro p9 h9; k_extra "mem")) .nil))⟩
  · rw [show W.vMplus.nm = Str.ofString "M.+" from by decide +kernel]
    unfold CSpec; intro mean mg mb dp un gd cn cs a ccd outer A₀ base h₀ L m s Q E B F X N T hk hd' hu hret her; refine wpAny_call ?_; k_dflt ktr_enter
    k_steps
    rename_i kF kN _ _
    refine' Spm.done (R := fun v tk h => Q v { s with heap := h, toks := tk }) hret kF kN ?S ?V
    case S => (repeat' ((with_reducible show Spm _ _ _); first | exact Spm.nil | (refine' Spm.cons ?_ ?h; (case h => first | with_reducible assumption | exact lts (by assumption) (fun p9 h9 => by k_extra "mem"))) | (refine' Spm.app ?_ ?h; (case h => exact Ord.sub (by assumption) (fun p9 h9 => by k_extra "mem")))))
    case V => exact ⟨_, [_, _, _], 0, rfl, .head _, .cons (WordIn.mono (by with_reducible assumption) (by intro p9 h9; k_extra "mem")) (.cons (.mk (by k_extra "mem") (by k_extra "mem") (by decide +kernel) (by decide +kernel) (.inr ⟨_, _, rfl, by decide +kernel⟩)) (.cons (WordIn.mono (by with_reducible assumption) (by intro p9 h9; k_extra "mem")) .nil))⟩
  · rw [show W.vhid.nm = Str.ofString "hiding" from by decide +kernel]
    unfold CSpec; intro mean mg mb dp un gd cn cs a ccd outer A₀ base h₀ L m s Q E B F X N T hk hd' hu hret her; refine wpAny_call ?_; k_dflt ktr_enter
    k_steps
    rename_i kF kN _ _
    refine' Spm.done (R := fun v tk h => Q v { s with heap := h, toks := tk }) hret kF kN ?S ?V
    case S => (repeat' ((with_reducible show Spm _ _ _); first | exact Spm.nil | (refine' Spm.cons ?_ ?h; (case h => first | with_reducible assumption | exact lts (by assumption) (fun p9 h9 => by k_extra "mem"))) | (refine' Spm.app ?_ ?h; (case h => exact Ord.sub (by assumption) (fun p9 h9 => by k_extra "mem")))))
    case V => exact ⟨_, [_], 0, rfl, .head _, .cons (.mk (by k_extra "mem") (by k_extra "mem") (by decide +kernel) (by decide +kernel) (.inl ⟨rfl, rfl⟩)) .nil⟩
  · rw [show W.vas.nm = Str.ofString "as" from by decide +kernel]
    unfold CSpec; intro mean mg mb dp un gd cn cs a ccd outer A₀ base h₀ L m s Q E B F X N T hk hd' hu hret her; refine wpAny_call ?_; k_dflt ktr_enter
    k_steps
    rename_i kF kN _ _
    refine' Spm.done (R := fun v tk h => Q v { s with heap := h, toks := tk }) hret kF kN ?S ?V
    case S => (repeat' ((with_reducible show Spm _ _ _); first | exact Spm.nil | (refine' Spm.cons ?_ ?h; (case h => first | with_reducible assumption | exact lts (by assumption) (fun p9 h9 => by k_extra "mem"))) | (refine' Spm.app ?_ ?h; (case h => exact Ord.sub (by assumption) (fun p9 h9 => by k_extra "mem")))))
    case V => exact ⟨_, [_], 0, rfl, .head _, .cons (.mk (by k_extra "mem") (by k_extra "mem") (by decide +kernel) (by decide +kernel) (.inl ⟨rfl, rfl⟩)) .nil⟩
theorem law_part {w : World} {x : W} {t : Tok} (hx : x.isPart = true) : Mk w 80 449 [.str x.tx t] (fun tl r => ListW w tl r x.partT) := by
  intro news
  cases x <;> first | (exact absurd hx (by decide)) | skip
  · rw [show W.gOne.tx = Str.ofString "One" from by decide +kernel]
    unfold CSpec; intro mean mg mb dp un gd cn cs a ccd outer A₀ base h₀ L m s Q E B F X N T hk hd' hu hret her; refine wpAny_call ?_; k_dflt ktr_enter
    k_steps
    rename_i kF kN _ _
    refine' Spm.done (R := fun v tk h => Q v { s with heap := h, toks := tk }) hret kF kN ?S ?V
    case S => (repeat' ((with_reducible show Spm _ _ _); first | exact Spm.nil | (refine' Spm.cons ?_ ?h; (case h => first | with_reducible assumption | exact lts (by assumption) (fun p9 h9 => by k_extra "mem"))) | (refine' Spm.app ?_ ?h; (case h => exact Ord.sub (by assumption) (fun p9 h9 => by k_extra "mem")))))
    case V => exact ⟨_, [_], 0, rfl, .head _, .cons (WordIn.mono (by with_reducible assumption) (by intro p9 h9; k_extra "mem")) .nil⟩
  · rw [show W.cplus.tx = Str.ofString ":+" from by decide +kernel]
    unfold CSpec; intro mean mg mb dp un gd cn cs a ccd outer A₀ base h₀ L m s Q E B F X N T hk hd' hu hret her; refine wpAny_call ?_; k_dflt ktr_enter
    k_steps
    rename_i kF kN _ _
    refine' Spm.done (R := fun v tk h => Q v { s with heap := h, toks := tk }) hret kF kN ?S ?V
    case S => (repeat' ((with_reducible show Spm _ _ _); first | exact Spm.nil | (refine' Spm.cons ?_ ?h; (case h => first | with_reducible assumption | exact lts (by assumption) (fun p9 h9 => by k_extra "mem"))) | (refine' Spm.app ?_ ?h; (case h => exact Ord.sub (by assumption) (fun p9 h9 => by k_extra "mem")))))
    case V => exact ⟨_, [_, _, _], 0, rfl, .head _, .cons (WordIn.mono (by with_reducible assumption) (by intro p9 h9; k_extra "mem")) (.cons (WordIn.mono (by with_reducible assumption) (by intro p9 h9; k_extra "mem")) (.cons (WordIn.mono (by with_reducible assumption) (by intro p9 h9; k_extra "mem")) .nil))⟩
  · rw [show W.vop.tx = Str.ofString "op" from by decide +kernel]
    unfold CSpec; intro mean mg mb dp un gd cn cs a ccd outer A₀ base h₀ L m s Q E B F X N T hk hd' hu hret her; refine wpAny_call ?_; k_dflt ktr_enter
    k_steps
    rename_i kF kN _ _
    refine' Spm.done (R := fun v tk h => Q v { s with heap := h, toks := tk }) hret kF kN ?S ?V
    case S => (repeat' ((with_reducible show Spm _ _ _); first | exact Spm.nil | (refine' Spm.cons ?_ ?h; (case h => first | with_reducible assumption | exact lts (by assumption) (fun p9 h9 => by k_extra "mem"))) | (refine' Spm.app ?_ ?h; (case h => exact Ord.sub (by assumption) (fun p9 h9 => by k_extra "mem")))))
    case V => exact ⟨_, [_], 0, rfl, .head _, .cons (WordIn.mono (by with_reducible assumption) (by intro p9 h9; k_extra "mem")) .nil⟩
theorem law_great_use {w : World} {x : W} {t : Tok} {news : List (Addr × Obj)}
    {mean : ExcName → Option Value} {mg mb : Str → Option Value} {dp un : Nat} {gd : Option (List Code)} {cn : Str} {cs : Scope} {a : Addr} {ccd : Value} {outer : List Env} {A₀ : Around} {base h₀ : Heap} {L : Addr} {m : Str → Option Value} {s : Shared} {Q E : Value → Shared → Prop} (B : Below A₀ base outer h₀) (F : Fr h₀ L s.heap m) (X : (ax.heap_1_39 w.params).In h₀) (N : News h₀ L s.heap news) (T : Top ax.view_1_40 LS mean mg mb h₀) (hk : cs.kind = .function) (h1 : dp + 80 < recursionLimit) (h2 : un + 8 * 80 < cLine) (g0 : x.great = true)
    (ok : ∀ v tl h' tk', (WordIn w tl v x) → Ord news tl → Fr h₀ L h' m → News h₀ L h' (tl ++ news) → Q v { s with heap := h', toks := tk' }) :
    wpAny (model PG w) (atop dp un gd cn cs L a ccd outer) (call (.ref 435) [.str x.nm t]) Q E s := (law_great g0).use B F X N T hk h1 h2 ok
theorem wd_f_45 : True := by
  k_with "call ref" => (k_here; k_dflt (refine' law_great_use ?_ ?_ ?_ ?_ ?_ ?_ ?_ ?_ ?e0Z9 ?_; k_extra "hk cell_call"; (case e0Z9 => assumption); skip); k_whole; intro _ _ _ _ _ _ _ _; (try k_sweep))
  trivial

theorem law_value_use {w : World} {x : W} {t : Tok} {news : List (Addr × Obj)}
    {mean : ExcName → Option Value} {mg mb : Str → Option Value} {dp un : Nat} {gd : Option (List Code)} {cn : Str} {cs : Scope} {a : Addr} {ccd : Value} {outer : List Env} {A₀ : Around} {base h₀ : Heap} {L : Addr} {m : Str → Option Value} {s : Shared} {Q E : Value → Shared → Prop} (B : Below A₀ base outer h₀) (F : Fr h₀ L s.heap m) (X : (ax.heap_1_39 w.params).In h₀) (N : News h₀ L s.heap news) (T : Top ax.view_1_40 LS mean mg mb h₀) (hk : cs.kind = .function) (h1 : dp + 80 < recursionLimit) (h2 : un + 8 * 80 < cLine) (g0 : x.isVal = true)
    (ok : ∀ v tl h' tk', (ListW w tl v x.valT) → Ord news tl → Fr h₀ L h' m → News h₀ L h' (tl ++ news) → Q v { s with heap := h', toks := tk' }) :
    wpAny (model PG w) (atop dp un gd cn cs L a ccd outer) (call (.ref 442) [.str x.nm t]) Q E s := (law_value g0).use B F X N T hk h1 h2 ok
theorem wd_f_46 : True := by
  k_with "call ref" => (k_here; k_dflt (refine' law_value_use ?_ ?_ ?_ ?_ ?_ ?_ ?_ ?_ ?e0Z9 ?_; k_extra "hk cell_call"; (case e0Z9 => assumption); skip); k_whole; intro _ _ _ _ _ _ _ _; (try k_sweep))
  trivial

theorem law_part_use {w : World} {x : W} {t : Tok} {news : List (Addr × Obj)}
    {mean : ExcName → Option Value} {mg mb : Str → Option Value} {dp un : Nat} {gd : Option (List Code)} {cn : Str} {cs : Scope} {a : Addr} {ccd : Value} {outer : List Env} {A₀ : Around} {base h₀ : Heap} {L : Addr} {m : Str → Option Value} {s : Shared} {Q E : Value → Shared → Prop} (B : Below A₀ base outer h₀) (F : Fr h₀ L s.heap m) (X : (ax.heap_1_39 w.params).In h₀) (N : News h₀ L s.heap news) (T : Top ax.view_1_40 LS mean mg mb h₀) (hk : cs.kind = .function) (h1 : dp + 80 < recursionLimit) (h2 : un + 8 * 80 < cLine) (g0 : x.isPart = true)
    (ok : ∀ v tl h' tk', (ListW w tl v x.partT) → Ord news tl → Fr h₀ L h' m → News h₀ L h' (tl ++ news) → Q v { s with heap := h', toks := tk' }) :
    wpAny (model PG w) (atop dp un gd cn cs L a ccd outer) (call (.ref 449) [.str x.tx t]) Q E s := (law_part g0).use B F X N T hk h1 h2 ok
theorem wd_f_47 : True := by
  k_with "call ref" => (k_here; k_dflt (refine' law_part_use ?_ ?_ ?_ ?_ ?_ ?_ ?_ ?_ ?e0Z9 ?_; k_extra "hk cell_call"; (case e0Z9 => first | assumption | rfl); skip); k_whole; intro _ _ _ _ _ _ _ _; (try k_sweep))
  trivial



section
variable {prog : Program} {w : World} {A : Around} {E : Value → Shared → Prop} {s : Shared} {h₀ : Heap} {L a b : Addr} {m : Str → Option Value} {news : List (Addr × Obj)} {Q : Value → Shared → Prop}
theorem og_addL {xs ys : List Value} {n k : Nat} (F : Fr h₀ L s.heap m) (N : News h₀ L s.heap news) (ha : (a, listO xs n) ∈ news) (hb : (b, listO ys k) ∈ news) (hz : xs.length + ys.length ≤ 1000)
    (h : ∀ D h', Fr h₀ L h' m → News h₀ L h' ((D, listO (xs ++ ys) 0) :: news) → (∀ p ∈ news, p.1 < D) → Q (.ref D) { s with heap := h' }) : wpAny (model prog w) A (binaryOp .Add (.ref a) (.ref b)) Q E s :=
  add_lists F N (N.isList ha) (N.isList hb) (fun h' F' N' => h _ h' F' N' fun p hp => Heap.lt_size (N p hp).1) (by rw [sizeLine_eq]; omega)
end
theorem wd_f_48 : True := by
  k_with "binaryOp Add ref ref" => (k_here; (with_reducible show wpAny _ _ (binaryOp _ (Value.ref _) (Value.ref _)) _ _ _); k_dflt (refine' og_addL ?k1Z9 ?k2Z9 ?k3Z9 ?k4Z9 ?k5Z9 ?_; (case k1Z9 => k_asm); (case k2Z9 => k_asm); (case k3Z9 => k_extra "mem"); (case k4Z9 => k_extra "mem"); (case k5Z9 => ((try simp only [List.length_append, List.length_cons, List.length_nil]); omega)); k_whole); intro _ _ _ _ l1; (try k_lt l1); (try (revert l1; intro _)); (try k_sweep))
  k_with "call builtin:list.append" => (k_here; (with_reducible show wpAny _ _ (call (Value.builtin _) [Value.ref _, _]) _ _ _); k_dflt (refine' og_append ?k1Z9 ?k2Z9 ?k3Z9 ?_ ?zZ9; (case k1Z9 => k_asm); (case k2Z9 => k_asm); (case k3Z9 => k_upd); (case zZ9 => first | (rw [sizeLine_eq]; omega) | (simp only [List.length_append, List.length_cons, List.length_nil, sizeLine_eq]; omega) | size_fits); k_whole); intro _ _ _; (try k_sweep))
  k_with "subscriptTail" => (k_here; (with_reducible show wpAny _ _ (subscriptTail _ _ (Value.ref _) (Value.int _ _)) _ _ _); k_dflt (refine' og_item ?k1Z9 ?k2Z9 ?k3Z9 ?k4Z9 ?k5Z9 ?_ ?k6Z9; (case k1Z9 => k_asm); (case k2Z9 => k_extra "mem"); (case k3Z9 => omega); (case k4Z9 => omega); (case k5Z9 => first | assumption | exact rfl); (case k6Z9 => with_unfolding_all rfl); k_whole))
  k_with "eval Name" => (k_here; k_dflt (refine' ld ?k1Z9 ?k2Z9 ?_; (case k1Z9 => k_asm); (case k2Z9 => first | assumption | exact (if_neg (by decide)).trans (by assumption)); k_whole))
  trivial
local macro_rules | `(tactic| walk_at "pyIter ref") => `(tactic| (k_here; (with_reducible show wpAny _ _ (pyIter (Value.ref _)) (fun it s₂ => LoopAtV _ _ _ _ _ _ _ _ _ it s₂) _ _); (rename IsRange _ _ _ _ _ _ _ _ => rgX); (rename Fr _ _ _ _ => lF'); (rename News _ _ _ _ => lN'); (with_unfolding_all refine iter_rangeUnr (by rfl) rgX (small_one (by omega) (by omega) (by omega) (by omega)) (rangeSize_nat _ _) lF' lN' ?_); clear lF' lN'; intro i' l1; (try k_lt l1); refine stop ?_))
theorem wd_f_49 : True := by
  k_with "UnrEnd" => (k_here; refine stop ?_)
  trivial

theorem range_ind {w : World} {A : Around} {E : Value → Shared → Prop} {h₀ : Heap} {env : Env} {x : Str} {body : List Stmt} {Q : Flow → Shared → Prop} {s : Shared} {It : Addr} {a : Int} {n : Nat} (I : Nat → (Str → Option Value) → List (Addr × Obj) → Prop)
    (turn : ∀ i m news, i < n → I i m news → ∀ t h tk, Fr h₀ env.locals h (fun y => if y = x then some (.int (a + (i : Int)) t) else m y) → News h₀ env.locals h ((It, itR (a + ((i + 1 : Nat) : Int)) ((n : Int) - ((i + 1 : Nat) : Int))) :: news) →
      wpAny (model PG w) A (execs body env) (UnrPost h₀ env.locals { s with heap := h, toks := tk } It (itR (a + ((i + 1 : Nat) : Int)) ((n : Int) - ((i + 1 : Nat) : Int))) (I (i + 1)) Q) E { s with heap := h, toks := tk })
    (fin : ∀ m news, I n m news → ∀ h tk, Fr h₀ env.locals h m → News h₀ env.locals h news → Q .next { s with heap := h, toks := tk }) :
    ∀ k i m news, i + k = n → I i m news → RangeRest PG w A E h₀ env x body Q s It a n k i m news
  | 0, i, m, news, e, h => fin m news (by rw [← e]; exact h)
  | k + 1, i, m, news, e, h => fun t hp tk F N => wpAny_mono (turn i m news (by omega) h t hp tk F N) (fun f s₂ q => by
      have up : UnrEnd h₀ env.locals { s with heap := hp, toks := tk } It (itR (a + ((i + 1 : Nat) : Int)) ((n : Int) - ((i + 1 : Nat) : Int))) (I (i + 1)) s₂ → UnrEnd h₀ env.locals { s with heap := hp, toks := tk } It (itR (a + ((i + 1 : Nat) : Int)) ((n : Int) - ((i + 1 : Nat) : Int))) (RangeRest PG w A E h₀ env x body Q s It a n k (i + 1)) s₂ := fun q => by
        obtain ⟨h', tk', m', news', e1, F', N', o', r⟩ := q
        exact ⟨h', tk', m', news', e1, F', N', o', range_ind I turn fin k (i + 1) m' news' (by omega) r⟩
      cases f <;> first | exact q | exact up q) fun _ _ e => e
def joinT (b : Bool) : List (List W) → List W
  | [] => []
  | [t] => t ++ (if b then [.cm] else [])
  | t :: u :: r => t ++ .cm :: joinT b (u :: r)
def joinJ (b : Bool) (tss : List (List W)) : Nat → List W
  | 0 => []
  | i + 1 => joinJ b tss i ++ (tss.getD i [] ++ if (decide (i + 1 < tss.length) || b) = true then [.cm] else [])
theorem joinJ_T {b : Bool} {tss : List (List W)} : ∀ i, i ≤ tss.length → joinJ b tss i ++ joinT b (tss.drop i) = joinT b tss
  | 0, _ => by rw [joinJ, List.nil_append, List.drop_zero]
  | i + 1, h => by
    rw [joinJ, ← @joinJ_T b tss i (by omega), List.append_assoc]
    congr 1
    have e : tss.drop i = tss[i] :: tss.drop (i + 1) := List.drop_eq_getElem_cons (by omega)
    rw [e, List.getD_eq_getElem?_getD, List.getElem?_eq_getElem (by omega), Option.getD_some, List.append_assoc]
    by_cases hl : i + 1 < tss.length
    · have e2 : tss.drop (i + 1) = tss[i + 1] :: tss.drop (i + 1 + 1) := List.drop_eq_getElem_cons (by omega)
      rw [e2, decide_eq_true hl, Bool.true_or, if_pos rfl, joinT]; rfl
    · rw [List.drop_eq_nil_of_le (by omega), decide_eq_false hl, Bool.false_or, joinT, joinT, List.append_nil]
theorem joinJ_all {b : Bool} {tss : List (List W)} : joinJ b tss tss.length = joinT b tss := by
  have := @joinJ_T b tss tss.length (Nat.le_refl _)
  rwa [List.drop_length, joinT, List.append_nil] at this
theorem ListW.mono {w : World} {tl tl' : List (Addr × Obj)} {r : Value} {t : List W} (h : ListW w tl r t) (s : ∀ p ∈ tl, p ∈ tl') : ListW w tl' r t := by
  obtain ⟨l, vs, n, rfl, hm, hV⟩ := h
  exact ⟨l, vs, n, rfl, s _ hm, hV.imp fun _ _ h => h.mono s⟩
def JI (w : World) (n0 news : List (Addr × Obj)) (l : Addr) (b : Bool) (tss : List (List W)) (It : Addr) (i : Nat) (m : Str → Option Value) (nw : List (Addr × Obj)) : Prop :=
  ∃ D ws k tl, nw = (D, listO ws k) :: (tl ++ news) ∧ m (Str.ofString "lots") = some (.ref l) ∧ m (Str.ofString "ends_so") = some (.bool b) ∧ m (Str.ofString "words") = some (.ref D) ∧ All2 (WordIn w (tl ++ n0)) ws (joinJ b tss i) ∧ ws.length ≤ 21 * i ∧ Ord news ((D, listO ws k) :: tl) ∧
      (∀ p ∈ (D, listO ws k) :: (tl ++ news), @Ne Nat p.1 It)
theorem allLt_all {D : Addr} {l : List (Addr × Obj)} (h : AllLt D l) : ∀ p ∈ l, @LT.lt Nat _ p.1 D := fun p hp => ktn_ltOf h p hp
theorem ji_no {w : World} {n0 news : List (Addr × Obj)} {l : Addr} {b : Bool} {tss : List (List W)} {It : Addr} {it : Obj} {i : Nat} {D D2 : Addr} {ws xs : List Value} {k k2 tk : Nat} {tl : List (Addr × Obj)} {tt : List W} {g1 h' : Heap} {L1 : Addr} {mm : Str → Option Value} {s₁ : Shared}
    (hW : All2 (WordIn w (tl ++ n0)) ws (joinJ b tss i)) (hwl : ws.length ≤ 21 * i) (hO : Ord news ((D, listO ws k) :: tl)) (hne : ∀ p ∈ (D, listO ws k) :: (tl ++ news), @Ne Nat p.1 It) (ht : tss[i]? = some tt) (Wa : All2 (WordIn w n0) xs tt) (hxl : xs.length ≤ 20)
    (f1 : mm (Str.ofString "lots") = some (.ref l)) (f2 : mm (Str.ofString "ends_so") = some (.bool b)) (l1 : ∀ p ∈ (It, it) :: (D, listO ws k) :: (tl ++ news), @LT.lt Nat _ p.1 D2)
    (hc : (decide (i + 1 < tss.length) || b) = false) (F : Fr g1 L1 h' (fun y => if y = Str.ofString "words" then some (.ref D2) else mm y)) (N : News g1 L1 h' ((D2, listO (ws ++ xs) k2) :: (It, it) :: (D, listO ws k) :: (tl ++ news))) :
    UnrEnd g1 L1 s₁ It it (JI w n0 news l b tss It (i + 1)) { s₁ with heap := h', toks := tk } :=
  have hne2 : ∀ p ∈ (D2, listO (ws ++ xs) k2) :: (((D, listO ws k) :: tl) ++ news), @Ne Nat p.1 It := List.forall_mem_cons.mpr ⟨Nat.ne_of_gt (l1 _ (.head _)), hne⟩
  UnrEnd.intro F N ((D2, listO (ws ++ xs) k2) :: (((D, listO ws k) :: tl) ++ news)) (fun p hp => by
      simp only [List.mem_cons, List.mem_append] at hp ⊢; rcases hp with h | h | (h | h) | h <;> simp [h])
    hne2
    ⟨D2, ws ++ xs, k2, (D, listO ws k) :: tl, rfl, (if_neg (by decide)).trans f1, (if_neg (by decide)).trans f2, if_pos rfl, by
      rw [joinJ, hc, List.getD_eq_getElem?_getD, ht]
      rw [if_neg Bool.false_ne_true, List.append_nil]
      exact (hW.imp fun _ _ h => h.mono fun p hp => .tail _ hp).append (Wa.imp fun _ _ h => h.mono fun p hp => .tail _ (List.mem_append_right _ hp)), by
      rw [List.length_append]; omega, Ord.cons' (fun q hq => l1 q (.tail _ (.tail _ (List.mem_append_right _ hq)))) hO, hne2⟩
theorem ji_cm {w : World} {n0 news : List (Addr × Obj)} {l : Addr} {b : Bool} {tss : List (List W)} {It : Addr} {it o2 : Obj} {i : Nat} {D D2 x : Addr} {ws xs : List Value} {k k2 tk : Nat} {tl t9 : List (Addr × Obj)} {tt : List W} {g1 h' : Heap} {L1 : Addr} {mm : Str → Option Value} {s₁ : Shared}
    (hW : All2 (WordIn w (tl ++ n0)) ws (joinJ b tss i)) (hwl : ws.length ≤ 21 * i) (hO : Ord news ((D, listO ws k) :: tl)) (hne : ∀ p ∈ (D, listO ws k) :: (tl ++ news), @Ne Nat p.1 It) (ht : tss[i]? = some tt) (Wa : All2 (WordIn w n0) xs tt) (hxl : xs.length ≤ 20)
    (f1 : mm (Str.ofString "lots") = some (.ref l)) (f2 : mm (Str.ofString "ends_so") = some (.bool b)) (l1 : ∀ p ∈ (It, it) :: (D, listO ws k) :: (tl ++ news), @LT.lt Nat _ p.1 D2)
    (hO9 : Ord ((D2, o2) :: (It, it) :: (D, listO ws k) :: (tl ++ news)) t9) (hV : WordIn w t9 (.ref x) .cm)
    (hc : (decide (i + 1 < tss.length) || b) = true) (F : Fr g1 L1 h' (fun y => if y = Str.ofString "words" then some (.ref D2) else mm y)) (N : News g1 L1 h' (t9 ++ (D2, listO (ws ++ xs ++ [.ref x]) k2) :: (It, it) :: (D, listO ws k) :: (tl ++ news))) :
    UnrEnd g1 L1 s₁ It it (JI w n0 news l b tss It (i + 1)) { s₁ with heap := h', toks := tk } :=
  have hne2 : ∀ p ∈ (D2, listO (ws ++ xs ++ [.ref x]) k2) :: ((t9 ++ (D, listO ws k) :: tl) ++ news), @Ne Nat p.1 It :=
    List.forall_mem_cons.mpr ⟨Nat.ne_of_gt (l1 _ (.head _)), fun p hp => by
      rw [List.append_assoc] at hp
      exact (List.mem_append.mp hp).elim (fun hp => Nat.ne_of_gt (hO9 _ (.tail _ (.head _)) p hp)) (hne p)⟩
  UnrEnd.intro F N ((D2, listO (ws ++ xs ++ [.ref x]) k2) :: ((t9 ++ (D, listO ws k) :: tl) ++ news)) (fun p hp => by
      simp only [List.mem_cons, List.mem_append] at hp ⊢; rcases hp with h | h | (h | h | h) | h <;> simp [h])
    hne2
    ⟨D2, ws ++ xs ++ [.ref x], k2, _, rfl, (if_neg (by decide)).trans f1, (if_neg (by decide)).trans f2, if_pos rfl, by
      rw [joinJ, hc, List.getD_eq_getElem?_getD, ht, if_pos rfl, ← List.append_assoc]
      exact ((hW.imp fun _ _ h => h.mono fun p hp => (List.mem_append.mp hp).elim (fun h => List.mem_append_left _ (List.mem_append_right _ (.tail _ h))) fun h => List.mem_append_right _ h).append (Wa.imp fun _ _ h => h.mono fun p hp => List.mem_append_right _ hp)).append
        (.cons (hV.mono fun p hp => List.mem_append_left _ (List.mem_append_left _ hp)) .nil), by
      simp only [List.length_append, List.length_cons, List.length_nil]; omega,
      Ord.cons' (fun q hq => l1 q (.tail _ (.tail _ (List.mem_append_right _ hq)))) (Ord.app2 (hO9.sub fun q hq => .tail _ (.tail _ (.tail _ (List.mem_append_right _ hq)))) hO), hne2⟩
theorem law_joined {w : World} {n0 news : List (Addr × Obj)} {l : Addr} {ls : List Value} {n : Nat} {b : Bool} {tss : List (List W)} (hm : (l, listO ls n) ∈ news) (hL : All2 (ListW w n0) ls tss) (hs : ∀ p ∈ n0, p ∈ news) (hn : tss.length ≤ 20) (hz : ∀ t ∈ tss, t.length ≤ 20) :
    CSpec w 100 456 [.ref l, .bool b] news (fun r n' => ∃ tl, n' = tl ++ news ∧ Ord news tl ∧ ListW w (tl ++ n0) r (joinT b tss)) False := by
  have hll := hL.length
  unfold CSpec; intro mean mg mb dp un gd cn cs a ccd outer A₀ base h₀ L m s Q E B F X N T hk hd' hu hret her; refine wpAny_call ?_; k_dflt ktr_enter
  k_steps
  · rename_i g1 L1 h0 FG1 B1 X1 T1 tk0 lw h2 l1 h3 F1 N1 h4 tk8 u1 u2 u3 rg keep It l2
    unfold Stop
    refine range_ind (JI w n0 news l b tss It) ?_ ?_ _ 0 _ _ (Nat.zero_add _) ?hi
    case hi => exact ⟨lw, [], _, [], rfl, by exact rfl, by exact rfl, by exact rfl, .nil, Nat.zero_le _, Ord.cons' l1 Ord.nil, fun p hp => Nat.ne_of_lt (l2 p hp)⟩
    · rintro i m' nw hi ⟨D, ws, k, tl, rfl, e1, e2, e3, hW, hwl, hO, hne⟩ t hp tk F2 N2
      change News g1 L1 hp _ at N2
      have hil : i < ls.length := by omega
      have hil2 : i < 20 := by omega
      obtain ⟨t1, ht1⟩ : ∃ t1, ls[i]? = some t1 := ⟨_, List.getElem?_eq_getElem hil⟩
      obtain ⟨tt, ht2, hT⟩ := hL.getl ht1
      obtain ⟨la, xs, na, rfl, ma, Wa⟩ := hT
      replace ma := hs _ ma
      have hx : ls[((0 : Int) + (i : Int)).toNat]? = some (.ref la) := by rw [show ((0 : Int) + (i : Int)).toNat = i from by omega]; exact ht1
      have hxl : xs.length ≤ 20 := by rw [Wa.length]; exact hz _ (List.mem_of_getElem? ht2)
      obtain ⟨mm, f1, f2, f3, f4, F3⟩ : ∃ mm : Str → Option Value, mm (Str.ofString "lots") = some (.ref l) ∧ mm (Str.ofString "ends_so") = some (.bool b) ∧ mm (Str.ofString "words") = some (.ref D) ∧ mm (Str.ofString "at") = some (.int (0 + (i : Int)) t) ∧ Fr g1 L1 hp mm := ⟨_, (if_neg (by decide)).trans e1, (if_neg (by decide)).trans e2, (if_neg (by decide)).trans e3, if_pos rfl, F2⟩
      clear F2
      k_steps
      · exact ji_cm hW hwl hO hne ht2 Wa hxl f1 f2 (by assumption) (by assumption) (by assumption) (by rw [decide_eq_true (by omega), Bool.true_or]) (by assumption) (by assumption)
      · exact ji_cm hW hwl hO hne ht2 Wa hxl f1 f2 (by assumption) (by assumption) (by assumption) (by rw [‹b = true›, Bool.or_true]) (by assumption) (by assumption)
      · exact ji_no hW hwl hO hne ht2 Wa hxl f1 f2 (by assumption) (by rw [‹b = false›, decide_eq_false (by omega), Bool.false_or]) (by assumption) (by assumption)
    · rintro m' nw ⟨D, ws, k, tl, rfl, e1, e2, e3, hW, hwl, hO, hne⟩ hp tk F2 N2
      change News g1 L1 hp _ at N2
      change Fr g1 L1 hp _ at F2
      k_steps
      rename_i kF kN _ _
      exact hret _ _ _ _ ⟨_ :: tl, rfl, hO, D, ws, k, rfl, .head _, by
        rw [← joinJ_all, ← hll]
        exact hW.imp fun _ _ h => h.mono fun p hp => .tail _ hp⟩ kF kN


/-! the plain law: the reader makes of laid words what was laid, and each word but a comma weighs -/
inductive Laid : Exp → List W → Prop
  | value {x : W} : x.isVal = true → Laid (.value x) x.valT
  | module {x : W} : x.great = true → Laid (.module x) [.kmod, x]
  | type {x : W} : x.great = true → Laid (.type x .no) [x]
  | all {x : W} : x.great = true → Laid (.type x .all) [x, .lp, .dots, .rp]
  | list {x : W} {xs : List W} {b : Bool} : x.great = true → (∀ y ∈ xs, y.isPart = true) → xs.length ≤ 3 → Laid (.type x (.list xs)) (x :: .lp :: (joinT b (xs.map W.partT) ++ [.rp]))
def LaidL (es : List Exp) (ts : List W) : Prop := ∃ tss b, All2 Laid es tss ∧ ts = .lp :: (joinT b tss ++ [.rp])
def alT : Option W → List W
  | none => []
  | some y => [W.vas, y]
def namesT : Option (List Exp) → List W → Prop
  | none, ns => ns = []
  | some es, ns => LaidL es ns
structure LaidI (p : Imp) (ts : List W) : Prop where
  gm : p.mod.great = true
  ga : ∀ y, p.al = some y → y.great = true
  hn : p.hid = true → p.names ≠ none
  ts : ∃ ns, namesT p.names ns ∧ ts = (if p.far then [W.vqual] else []) ++ (p.mod :: (alT p.al ++ ((if p.hid then [W.vhid] else []) ++ ns)))
def W.conB : W → Bool
  | .gM | .gAB | .gT | .gMT | .gOne | .gN | .gAN => true
  | _ => false
def W.varB : W → Bool
  | .vf | .vMf | .vhid | .vas | .vqual | .vop => true
  | _ => false
def W.opB : W → Bool
  | .vplus | .cplus => true
  | _ => false
def W.subB : W → Bool
  | .gM | .gT | .gOne | .gN | .vf | .vhid | .vas | .vqual | .vop => true
  | _ => false
def W.vsB : W → Bool
  | .vplus | .vMplus => true
  | _ => false
def W.all : List W := [.lp, .rp, .cm, .semi, .kmod, .dots, .gM, .gAB, .gT, .gMT, .gOne, .gN, .gAN, .vf, .vMf, .vplus, .vMplus, .vhid, .vas, .vqual, .cplus, .vop, .fin]
theorem W.mem_all (x : W) : x ∈ W.all := by cases x <;> decide
theorem W.by_all {p : W → Bool} (h : W.all.all p = true) (x : W) : p x = true := List.all_eq_true.mp h x x.mem_all
theorem W.eq_all {f g : W → Bool} (h : (W.all.all fun x => f x == g x) = true) (x : W) : f x = g x := eq_of_beq (W.by_all h x)
theorem qLp_eq (x : W) : qLp x = decide (x = .lp) := W.eq_all (g := fun x => decide (x = .lp)) (by decide +kernel) x
theorem qRp_eq (x : W) : qRp x = decide (x = .rp) := W.eq_all (g := fun x => decide (x = .rp)) (by decide +kernel) x
theorem qCm_eq (x : W) : qCm x = decide (x = .cm) := W.eq_all (g := fun x => decide (x = .cm)) (by decide +kernel) x
theorem qDots_eq (x : W) : qDots x = decide (x = .dots) := W.eq_all (g := fun x => decide (x = .dots)) (by decide +kernel) x
theorem qMod_eq (x : W) : qMod x = decide (x = .kmod) := W.eq_all (g := fun x => decide (x = .kmod)) (by decide +kernel) x
theorem qQual_eq (x : W) : qVw "qualified" x = decide (x = .vqual) := W.eq_all (g := fun x => decide (x = .vqual)) (by decide +kernel) x
theorem qAs_eq (x : W) : qVw "as" x = decide (x = .vas) := W.eq_all (g := fun x => decide (x = .vas)) (by decide +kernel) x
theorem qHid_eq (x : W) : qVw "hiding" x = decide (x = .vhid) := W.eq_all (g := fun x => decide (x = .vhid)) (by decide +kernel) x
theorem qCon_eq (x : W) : qCon x = x.conB := W.eq_all (by decide +kernel) x
theorem qVar_eq (x : W) : qVar x = x.varB := W.eq_all (by decide +kernel) x
theorem isOp_eq (x : W) : x.isOp = x.opB := W.eq_all (by decide +kernel) x
theorem isSub_eq (x : W) : x.isSub = x.subB := W.eq_all (by decide +kernel) x
theorem vs_eq (x : W) : (x.kd == Str.ofString "varsym") = x.vsB := W.eq_all (f := fun x => x.kd == Str.ofString "varsym") (by decide +kernel) x
/-- the words but the commas -/
def cnt : List W → Nat
  | [] => 0
  | x :: l => (if x = .cm then 0 else 1) + cnt l
theorem cnt_cons (x : W) (l : List W) : cnt (x :: l) = (if x = .cm then 0 else 1) + cnt l := rfl
theorem cnt_app (l m : List W) : cnt (l ++ m) = cnt l + cnt m := by
  induction l with
  | nil => simp [cnt]
  | cons a l ih => rw [List.cons_append, cnt_cons, cnt_cons, ih, Nat.add_assoc]
/-- what is read of rem, down to r, weighs k -/
def Eats (k : Nat) (rem r : List W) : Prop := r <:+ rem ∧ cnt rem = k + cnt r
theorem Eats.refl (l : List W) : Eats 0 l l := ⟨List.suffix_refl _, (Nat.zero_add _).symm⟩
theorem Eats.trans {k j : Nat} {a b c : List W} (h : Eats k a b) (h' : Eats j b c) : Eats (k + j) a c := ⟨h'.1.trans h.1, by rw [h.2, h'.2, Nat.add_assoc]⟩
theorem Eats.tail {rem : List W} (h : rem.headD .fin ≠ .fin) : Eats (if rem.headD .fin = .cm then 0 else 1) rem rem.tail := by
  cases rem with
  | nil => exact absurd rfl h
  | cons x l => exact ⟨List.suffix_cons _ _, cnt_cons _ _⟩
theorem Eats.one {rem : List W} (h : rem.headD .fin ≠ .fin) (h' : rem.headD .fin ≠ .cm) : Eats 1 rem rem.tail := by
  have := Eats.tail h; rwa [if_neg h'] at this
theorem Eats.of {k j : Nat} {a b : List W} (h : Eats k a b) (e : k = j) : Eats j a b := e ▸ h
/-- a word's weight as a part -/
def wS (x : W) : Nat := if (x.vsB || x.opB) = true then 3 else 1
theorem wS_one {x : W} (h : (x.vsB || x.opB) = false) : wS x = 1 := if_neg (by rw [h]; exact Bool.false_ne_true)
theorem wS_three {x : W} (h : (x.vsB || x.opB) = true) : wS x = 3 := if_pos h
theorem W.imp_all {f g : W → Bool} (h : (W.all.all fun x => !f x || g x) = true) {x : W} (hx : f x = true) : g x = true := by
  have := W.by_all h x
  rwa [hx, Bool.not_true, Bool.false_or] at this
/-- no word that f finds is the end or a comma -/
theorem eats_by {f : W → Bool} (h : (W.all.all fun x => !f x || (decide (x ≠ .fin) && decide (x ≠ .cm))) = true) {rem : List W} (hx : f (rem.headD .fin) = true) : Eats 1 rem rem.tail := by
  have := W.imp_all (g := fun x => decide (x ≠ .fin) && decide (x ≠ .cm)) h hx
  exact Eats.one (of_decide_eq_true (Bool.and_eq_true_iff.mp this).1) (of_decide_eq_true (Bool.and_eq_true_iff.mp this).2)
theorem wS_by {f : W → Bool} {k : Nat} (h : (W.all.all fun x => !f x || wS x == k) = true) {x : W} (hx : f x = true) : wS x = k := eq_of_beq (W.imp_all (g := fun x => wS x == k) h hx)
def wL : List W → Nat
  | [] => 0
  | x :: l => wS x + wL l
theorem wL_snoc (l : List W) (x : W) : wL (l ++ [x]) = wL l + wS x := by
  induction l with
  | nil => simp [wL]
  | cons a l ih => rw [List.cons_append, wL, wL, ih, Nat.add_assoc]
def wSubs : Subs → Nat
  | .no => 0
  | .all => 3
  | .list xs => 2 + wL xs
def wE : Exp → Nat
  | .value x => wS x
  | .module _ => 2
  | .type _ s => 1 + wSubs s
def wEs : List Exp → Nat
  | [] => 0
  | x :: l => wE x + wEs l
theorem wEs_snoc (l : List Exp) (x : Exp) : wEs (l ++ [x]) = wEs l + wE x := by
  induction l with
  | nil => simp [wEs]
  | cons a l ih => rw [List.cons_append, wEs, wEs, ih, Nat.add_assoc]
def wN : Option (List Exp) → Nat
  | none => 0
  | some es => 2 + wEs es
def wA : Option W → Nat
  | none => 0
  | some _ => 2
def wI (p : Imp) : Nat := (if p.far then 1 else 0) + 1 + wA p.al + (if p.hid then 1 else 0) + wN p.names
theorem eats_lp {rem : List W} (h : qLp (rem.headD .fin) = true) : Eats 1 rem rem.tail := eats_by (f := qLp) (by decide +kernel) h
theorem eats_rp {rem : List W} (h : qRp (rem.headD .fin) = true) : Eats 1 rem rem.tail := eats_by (f := qRp) (by decide +kernel) h
theorem eats_dots {rem : List W} (h : qDots (rem.headD .fin) = true) : Eats 1 rem rem.tail := eats_by (f := qDots) (by decide +kernel) h
theorem eats_mod {rem : List W} (h : qMod (rem.headD .fin) = true) : Eats 1 rem rem.tail := eats_by (f := qMod) (by decide +kernel) h
theorem eats_cm {rem : List W} (h : qCm (rem.headD .fin) = true) : Eats 0 rem rem.tail := by
  have e : rem.headD .fin = .cm := of_decide_eq_true (qCm_eq _ ▸ h)
  have := Eats.tail (rem := rem) (by rw [e]; decide)
  rwa [if_pos e] at this
theorem eats_con {rem : List W} (h : qCon (rem.headD .fin) = true) : Eats 1 rem rem.tail := eats_by (f := qCon) (by decide +kernel) h
theorem eats_op {rem : List W} (h : (rem.headD .fin).isOp = true) : Eats 1 rem rem.tail ∧ wS (rem.headD .fin) = 3 := ⟨eats_by (f := W.isOp) (by decide +kernel) h, wS_by (f := W.isOp) (by decide +kernel) h⟩
theorem eats_sub {rem : List W} (h : (rem.headD .fin).isSub = true) : Eats (wS (rem.headD .fin)) rem rem.tail := (eats_by (f := W.isSub) (by decide +kernel) h).of (wS_by (f := W.isSub) (by decide +kernel) h).symm
theorem eats_var {rem : List W} (h : qVar (rem.headD .fin) = true) : Eats (wS (rem.headD .fin)) rem rem.tail := (eats_by (f := qVar) (by decide +kernel) h).of (wS_by (f := qVar) (by decide +kernel) h).symm
theorem eats_vs {rem : List W} (h : ((rem.headD .fin).kd == Str.ofString "varsym") = true) : Eats 1 rem rem.tail ∧ wS (rem.headD .fin) = 3 :=
  ⟨eats_by (f := fun x => x.kd == Str.ofString "varsym") (by decide +kernel) h, wS_by (f := fun x => x.kd == Str.ofString "varsym") (by decide +kernel) h⟩
theorem pOp_eats {rem r : List W} {x : W} (h : pOp rem = some (x, r)) : Eats 1 rem r ∧ wS x = 3 := by
  unfold pOp at h
  split at h
  · rename_i q; cases h; exact eats_op q
  · cases h
theorem pSub_eats {rem r : List W} {x : W} (h : pSub rem = some (x, r)) : Eats (wS x) rem r := by
  unfold pSub at h
  split at h
  · rename_i q1
    split at h
    · cases h
    · rename_i y r' q
      split at h
      · rename_i q3
        cases h
        obtain ⟨h1, h2⟩ := pOp_eats q
        exact (((eats_lp q1).trans h1).trans (eats_rp q3)).of h2.symm
      · cases h
  · split at h
    · rename_i q; cases h; exact eats_sub q
    · cases h
theorem pSubsL_eats : ∀ {n : Nat} {rem acc xs r : List W}, pSubsL n rem acc = some (xs, r) → ∃ k, wL xs = wL acc + k ∧ Eats k rem r
  | 0, _, _, _, _, h => by cases h
  | n + 1, rem, acc, xs, r, h => by
    rw [pSubsL] at h
    split at h
    · cases h; exact ⟨0, rfl, Eats.refl _⟩
    · split at h
      · cases h
      · rename_i x r' q
        have h1 := pSub_eats q
        split at h
        · rename_i q2
          obtain ⟨k, e, h2⟩ := pSubsL_eats h
          exact ⟨wS x + k, by rw [e, wL_snoc, Nat.add_assoc], (h1.trans ((eats_cm q2).trans h2)).of (by omega)⟩
        · cases h
          exact ⟨wS x, wL_snoc _ _, h1⟩
theorem pSubs_eats {rem r : List W} {s : Subs} (h : pSubs rem = some (s, r)) : Eats (wSubs s) rem r := by
  unfold pSubs at h
  split at h
  · rename_i q1
    split at h
    · rename_i q2
      split at h
      · rename_i q3
        cases h; exact ((eats_lp q1).trans (eats_dots q2)).trans (eats_rp q3)
      · cases h
    · split at h
      · cases h
      · rename_i xs r' q
        split at h
        · rename_i q3
          cases h
          obtain ⟨k, e, h2⟩ := pSubsL_eats q
          exact (((eats_lp q1).trans h2).trans (eats_rp q3)).of (by rw [wSubs, e, wL]; omega)
        · cases h
  · cases h; exact Eats.refl _
theorem pExp_eats {rem r : List W} {e : Exp} (h : pExp rem = some (e, r)) : Eats (wE e) rem r := by
  unfold pExp at h
  split at h
  · rename_i q1
    split at h
    · rename_i q2; cases h; exact (eats_mod q1).trans (eats_con q2)
    · cases h
  · split at h
    · rename_i q1
      split at h
      · cases h
      · rename_i s r' q; cases h; exact (eats_con q1).trans (pSubs_eats q)
    · split at h
      · rename_i q1
        split at h
        · rename_i q2
          split at h
          · rename_i q3
            cases h
            obtain ⟨h1, h2⟩ := eats_vs q2
            exact (((eats_lp q1).trans h1).trans (eats_rp q3)).of h2.symm
          · cases h
        · cases h
      · split at h
        · rename_i q; cases h; exact eats_var q
        · cases h
theorem pExpsL_eats : ∀ {n : Nat} {rem r : List W} {acc xs : List Exp}, pExpsL n rem acc = some (xs, r) → ∃ k, wEs xs = wEs acc + k ∧ Eats k rem r
  | 0, _, _, _, _, h => by cases h
  | n + 1, rem, r, acc, xs, h => by
    rw [pExpsL] at h
    split at h
    · cases h; exact ⟨0, rfl, Eats.refl _⟩
    · split at h
      · cases h
      · rename_i x r' q
        have h1 := pExp_eats q
        split at h
        · rename_i q2
          obtain ⟨k, e, h2⟩ := pExpsL_eats h
          exact ⟨wE x + k, by rw [e, wEs_snoc, Nat.add_assoc], (h1.trans ((eats_cm q2).trans h2)).of (by omega)⟩
        · cases h
          exact ⟨wE x, wEs_snoc _ _, h1⟩
theorem pExps_eats {rem r : List W} {o : Option (List Exp)} (h : pExps rem = some (o, r)) : Eats (wN o) rem r := by
  unfold pExps at h
  split at h
  · rename_i q1
    split at h
    · cases h
    · rename_i xs r' q
      split at h
      · rename_i q3
        cases h
        obtain ⟨k, e, h2⟩ := pExpsL_eats q
        exact (((eats_lp q1).trans h2).trans (eats_rp q3)).of (by rw [wN, e, wEs]; omega)
      · cases h
  · cases h; exact Eats.refl _
theorem skip_eats {t : String} {rem : List W} (ht : ∀ x, qVw t x = true → x ≠ .fin ∧ x ≠ .cm) : Eats (if qVw t (rem.headD .fin) = true then 1 else 0) rem (skip t rem) := by
  unfold skip
  split
  · rename_i q; exact Eats.one (ht _ q).1 (ht _ q).2
  · exact Eats.refl _
theorem qq_qual : ∀ x, qVw "qualified" x = true → x ≠ .fin ∧ x ≠ .cm := fun x h => by rw [qQual_eq] at h; rw [of_decide_eq_true h]; decide
theorem qq_hid : ∀ x, qVw "hiding" x = true → x ≠ .fin ∧ x ≠ .cm := fun x h => by rw [qHid_eq] at h; rw [of_decide_eq_true h]; decide
theorem eats_as {rem : List W} (h : qVw "as" (rem.headD .fin) = true) : Eats 1 rem rem.tail := eats_by (f := qVw "as") (by decide +kernel) h
theorem pImpT_eats {far : Bool} {m : W} {al : Option W} {rem r : List W} {p : Imp} (h : pImpT far m al rem = some (p, r)) : ∃ k, Eats k rem r ∧ wI p = (if far then 1 else 0) + 1 + wA al + k := by
  unfold pImpT at h
  split at h
  · cases h
  · rename_i ns r' q
    split at h
    · cases h
    · cases h
      exact ⟨_, (skip_eats qq_hid).trans (pExps_eats q), by simp only [wI]; omega⟩
theorem pImp_eats {rem r : List W} {p : Imp} (h : pImp rem = some (p, r)) : Eats (wI p) rem r := by
  have h0 := skip_eats (rem := rem) qq_qual
  unfold pImp at h
  split at h
  · rename_i q1
    have h1 := h0.trans (eats_con q1)
    split at h
    · rename_i q2
      split at h
      · rename_i q3
        obtain ⟨k, h2, e⟩ := pImpT_eats h
        exact (((h1.trans (eats_as q2)).trans (eats_con q3)).trans h2).of (by rw [e, wA])
      · cases h
    · obtain ⟨k, h2, e⟩ := pImpT_eats h
      exact (h1.trans h2).of (by rw [e, wA])
  · cases h


theorem great_con {x : W} (h : x.great = true) : x.conB = true ∧ x ≠ .kmod ∧ x ≠ .vqual ∧ x ≠ .rp := by
  have q := W.imp_all (f := W.great) (g := fun x => x.conB && (decide (x ≠ .kmod) && (decide (x ≠ .vqual) && decide (x ≠ .rp)))) (by decide +kernel) h
  rw [Bool.and_eq_true_iff, Bool.and_eq_true_iff, Bool.and_eq_true_iff] at q
  exact ⟨q.1, of_decide_eq_true q.2.1, of_decide_eq_true q.2.2.1, of_decide_eq_true q.2.2.2⟩
theorem part_len {x : W} (h : x.isPart = true) : 1 ≤ x.partT.length := of_decide_eq_true (W.imp_all (g := fun x => decide (1 ≤ x.partT.length)) (by decide +kernel) h)
theorem headD_app {l : List W} (h : 1 ≤ l.length) (r : List W) (d : W) : (l ++ r).headD d = l.headD d := by
  cases l with
  | nil => exact absurd h (Nat.not_lt_zero _)
  | cons a l => rfl
theorem part_head {x : W} (h : x.isPart = true) (r : List W) : qRp ((x.partT ++ r).headD .fin) = false ∧ qDots ((x.partT ++ r).headD .fin) = false := by
  have q := W.imp_all (g := fun x => (qRp (x.partT.headD .fin) == false) && (qDots (x.partT.headD .fin) == false)) (by decide +kernel) h
  rw [headD_app (part_len h)]
  exact ⟨eq_of_beq (Bool.and_eq_true_iff.mp q).1, eq_of_beq (Bool.and_eq_true_iff.mp q).2⟩
theorem pSub_part {x : W} (h : x.isPart = true) (r : List W) : pSub (x.partT ++ r) = some (x, r) := by
  have q := W.imp_all (g := fun x => (decide (x.partT = [.lp, x, .rp]) && x.isOp) || (decide (x.partT = [x]) && (qLp x == false) && x.isSub)) (by decide +kernel) h
  rcases Bool.or_eq_true_iff.mp q with q | q
  · obtain ⟨q1, q2⟩ := Bool.and_eq_true_iff.mp q
    rw [of_decide_eq_true q1]
    simp only [pSub, pOp, List.cons_append, List.nil_append, List.headD_cons, List.tail_cons, q2, qLp_eq, qRp_eq, decide_true, if_true]
  · obtain ⟨q, q3⟩ := Bool.and_eq_true_iff.mp q
    obtain ⟨q1, q2⟩ := Bool.and_eq_true_iff.mp q
    rw [of_decide_eq_true q1]
    simp only [pSub, List.cons_append, List.nil_append, List.headD_cons, List.tail_cons, q3, eq_of_beq q2, Bool.false_eq_true, if_false, if_true]
theorem pSubsL_laid {b : Bool} {r : List W} : ∀ (xs acc : List W) (n : Nat), (∀ y ∈ xs, y.isPart = true) → (joinT b (xs.map W.partT)).length < n → pSubsL n (joinT b (xs.map W.partT) ++ .rp :: r) acc = some (acc ++ xs, .rp :: r)
  | _, _, 0, _, hn => absurd hn (Nat.not_lt_zero _)
  | [], acc, n + 1, _, _ => by simp [joinT, pSubsL, qRp_eq]
  | [x], acc, n + 1, hx, hn => by
    have h := hx x (.head _)
    have hl := part_len h
    rw [List.map_cons, List.map_nil, joinT, List.append_assoc, pSubsL, (part_head h _).1, if_neg Bool.false_ne_true, pSub_part h]
    cases b with
    | false => simp [qCm_eq]
    | true =>
      rw [List.map_cons, List.map_nil, joinT, if_pos rfl, List.length_append, List.length_singleton] at hn
      obtain ⟨m, rfl⟩ : ∃ m, n = m + 1 := ⟨n - 1, by omega⟩
      simp [qCm_eq, pSubsL, qRp_eq]
  | x :: u :: l, acc, n + 1, hx, hn => by
    have h := hx x (.head _)
    have hl := part_len h
    have ih := pSubsL_laid (b := b) (r := r) (u :: l) (acc ++ [x]) n (fun y hy => hx y (.tail _ hy)) (by
      rw [List.map_cons, List.map_cons, joinT, List.length_append, List.length_cons] at hn
      rw [List.map_cons]; omega)
    rw [List.map_cons] at ih
    rw [List.map_cons, List.map_cons, joinT, List.append_assoc, pSubsL, (part_head h _).1, if_neg Bool.false_ne_true, pSub_part h]
    simp only [List.cons_append, List.headD_cons, List.tail_cons, qCm_eq, decide_true, if_true]
    rw [ih, List.append_assoc]; rfl
theorem join_dots {b : Bool} {r : List W} : ∀ (xs : List W), (∀ y ∈ xs, y.isPart = true) → qDots ((joinT b (xs.map W.partT) ++ .rp :: r).headD .fin) = false
  | [], _ => by simp [joinT, qDots_eq]
  | [x], hx => by
    rw [List.map_cons, List.map_nil, joinT, List.append_assoc]; exact (part_head (hx x (.head _)) _).2
  | x :: u :: l, hx => by
    rw [List.map_cons, List.map_cons, joinT, List.append_assoc]; exact (part_head (hx x (.head _)) _).2
theorem pExp_laid {e : Exp} {ts r : List W} (h : Laid e ts) (hr : r.headD .fin ≠ .lp) : pExp (ts ++ r) = some (e, r) := by
  cases h with
  | @value x h =>
    have q := W.imp_all (g := fun x => (decide (x.valT = [.lp, x, .rp]) && (x.kd == Str.ofString "varsym")) || (decide (x.valT = [x]) && ((qMod x == false) && ((qCon x == false) && ((qLp x == false) && qVar x))))) (by decide +kernel) h
    rcases Bool.or_eq_true_iff.mp q with q | q
    · obtain ⟨q1, q2⟩ := Bool.and_eq_true_iff.mp q
      rw [of_decide_eq_true q1]
      simp only [pExp, List.cons_append, List.nil_append, List.headD_cons, List.tail_cons, q2, show qMod .lp = false from by decide +kernel, show qCon .lp = false from by decide +kernel, show qLp .lp = true from by decide +kernel, show qRp .rp = true from by decide +kernel, if_true, Bool.false_eq_true, if_false]
    · rw [Bool.and_eq_true_iff, Bool.and_eq_true_iff, Bool.and_eq_true_iff, Bool.and_eq_true_iff] at q
      obtain ⟨q1, q2, q3, q4, q5⟩ := q
      rw [of_decide_eq_true q1]
      simp only [pExp, List.cons_append, List.nil_append, List.headD_cons, List.tail_cons, eq_of_beq q2, eq_of_beq q3, eq_of_beq q4, q5, Bool.false_eq_true, if_false, if_true]
  | @module x h =>
    obtain ⟨h1, h2, _, _⟩ := great_con h
    simp [pExp, qMod_eq, qCon_eq, h1]
  | @type x h =>
    obtain ⟨h1, h2, _, _⟩ := great_con h
    have hs : pSubs r = some (.no, r) := pSubs_no (by
      show qLp _ = false
      rw [qLp_eq, decide_eq_false hr])
    simp [pExp, qMod_eq, qCon_eq, h1, h2, hs]
  | @all x h =>
    obtain ⟨h1, h2, _, _⟩ := great_con h
    simp [pExp, qMod_eq, qCon_eq, h1, h2, pSubs, qLp_eq, qDots_eq, qRp_eq]
  | @list x xs b h hx hz =>
    obtain ⟨h1, h2, _, _⟩ := great_con h
    have hd := join_dots (b := b) (r := r) xs hx
    have hp := pSubsL_laid (b := b) (r := r) xs [] ((joinT b (xs.map W.partT) ++ .rp :: r).length + 1) hx (by rw [List.length_append]; omega)
    have hs : pSubs (.lp :: (joinT b (xs.map W.partT) ++ .rp :: r)) = some (.list xs, r) := by
      simp only [pSubs, List.headD_cons, List.tail_cons, qLp_eq, decide_true, if_true, hd, Bool.false_eq_true, if_false, hp, qRp_eq, List.nil_append]
    simp only [List.cons_append, List.append_assoc, List.nil_append, pExp, List.headD_cons, List.tail_cons, qMod_eq, decide_eq_false h2, Bool.false_eq_true, if_false, qCon_eq, h1, if_true, hs]
theorem laid_head {e : Exp} {ts : List W} (h : Laid e ts) (r : List W) : qRp ((ts ++ r).headD .fin) = false ∧ 1 ≤ ts.length := by
  cases h with
  | @value x h =>
    have q := W.imp_all (g := fun x => (qRp (x.valT.headD .fin) == false) && decide (1 ≤ x.valT.length)) (by decide +kernel) h
    have l := of_decide_eq_true (Bool.and_eq_true_iff.mp q).2
    rw [headD_app l]
    exact ⟨eq_of_beq (Bool.and_eq_true_iff.mp q).1, l⟩
  | @module x h => simp [qRp_eq]
  | @type x h => simp [qRp_eq, (great_con h).2.2.2]
  | @all x h => simp [qRp_eq, (great_con h).2.2.2]
  | @list x xs b h hx hz => simp [qRp_eq, (great_con h).2.2.2]
theorem pExpsL_laid {b : Bool} {r : List W} {es : List Exp} {tss : List (List W)} (acc : List Exp) (n : Nat) (H : All2 Laid es tss) (hn : (joinT b tss).length < n) : pExpsL n (joinT b tss ++ .rp :: r) acc = some (acc ++ es, .rp :: r) := by
  induction H generalizing acc n with
  | nil =>
    cases n with
    | zero => exact absurd hn (Nat.not_lt_zero _)
    | succ n => simp [joinT, pExpsL, qRp_eq]
  | @cons x t l m h hs ih =>
    cases n with
    | zero => exact absurd hn (Nat.not_lt_zero _)
    | succ n =>
    have hl := (laid_head h []).2
    cases hs with
    | nil =>
      rw [joinT, List.append_assoc, pExpsL, (laid_head h _).1, if_neg Bool.false_ne_true, pExp_laid h (by cases b <;> simp)]
      cases b with
      | false => simp [qCm_eq]
      | true =>
        rw [joinT, if_pos rfl, List.length_append, List.length_singleton] at hn
        obtain ⟨m, rfl⟩ : ∃ m, n = m + 1 := ⟨n - 1, by omega⟩
        simp [qCm_eq, pExpsL, qRp_eq]
    | @cons y u l m h' hs =>
      have ih := ih (acc ++ [x]) n (by
        rw [joinT, List.length_append, List.length_cons] at hn
        omega)
      rw [joinT, List.append_assoc, pExpsL, (laid_head h _).1, if_neg Bool.false_ne_true, pExp_laid h (by simp)]
      simp only [List.cons_append, List.headD_cons, List.tail_cons, qCm_eq, decide_true, if_true]
      rw [ih, List.append_assoc]; rfl
theorem pExps_laid {es : List Exp} {ts r : List W} (h : LaidL es ts) : pExps (ts ++ r) = some (some es, r) := by
  obtain ⟨tss, b, hL, rfl⟩ := h
  have hp := pExpsL_laid (b := b) (r := r) [] ((joinT b tss ++ .rp :: r).length + 1) hL (by rw [List.length_append]; omega)
  simp only [List.cons_append, List.append_assoc, List.nil_append, pExps, List.headD_cons, List.tail_cons, qLp_eq, decide_true, if_true, hp, qRp_eq]
theorem pExps_semi {r : List W} : pExps (.semi :: r) = some (none, .semi :: r) := pExps_no (by show qLp _ = false; rw [qLp_eq]; rfl)
theorem lay_head {es : List Exp} {ts : List W} (h : LaidL es ts) : ∃ l, ts = .lp :: l := by obtain ⟨_, _, _, rfl⟩ := h; exact ⟨_, rfl⟩
def pImpB (b : Bool) (rem : List W) : Option (Imp × List W) :=
  if qCon (rem.headD .fin) = true then
    (if qVw "as" (rem.tail.headD .fin) = true then
      (if qCon (rem.tail.tail.headD .fin) = true then pImpT b (rem.headD .fin) (some (rem.tail.tail.headD .fin)) rem.tail.tail.tail else none)
    else pImpT b (rem.headD .fin) none rem.tail)
  else none
theorem pImp_eq (rem : List W) : pImp rem = pImpB (qVw "qualified" (rem.headD .fin)) (skip "qualified" rem) := rfl
theorem skip_yes {t : String} {x : W} {l : List W} (h : qVw t x = true) : skip t (x :: l) = l := if_pos h
theorem skip_no {t : String} {l : List W} (h : qVw t (l.headD .fin) = false) : skip t l = l := if_neg (by rw [h]; exact Bool.false_ne_true)
theorem pImpT_no {b : Bool} {m : W} {al : Option W} {X r : List W} {ns : Option (List Exp)} (h : qVw "hiding" (X.headD .fin) = false) (hp : pExps X = some (ns, r)) : pImpT b m al X = some (⟨m, ns, false, b, al⟩, r) := by
  unfold pImpT; rw [skip_no h, hp, h]; rfl
theorem pImpT_yes {b : Bool} {m : W} {al : Option W} {X r : List W} {es : List Exp} (hp : pExps X = some (some es, r)) : pImpT b m al (.vhid :: X) = some (⟨m, some es, true, b, al⟩, r) := by
  have h : qVw "hiding" .vhid = true := by decide +kernel
  unfold pImpT; rw [skip_yes h, hp, List.headD_cons, h]; rfl
theorem lp_head {es : List Exp} {ts r : List W} (h : LaidL es ts) : (ts ++ r).headD .fin = .lp := by obtain ⟨l, rfl⟩ := lay_head h; rfl
theorem pImp_laid {p : Imp} {ts : List W} (h : LaidI p ts) : pImp (ts ++ [W.semi]) = some (p, [W.semi]) := by
  obtain ⟨gm, ga, hn, ns, h1, rfl⟩ := h
  obtain ⟨m, names, hid, far, al⟩ := p
  obtain ⟨c1, _, c2, _⟩ := great_con (show m.great = true from gm)
  have key : ∃ X, ((if hid = true then [W.vhid] else []) ++ ns) ++ [W.semi] = X ∧ X.headD .fin ≠ .vas ∧ ∀ (b : Bool) (al : Option W), pImpT b m al X = some (⟨m, names, hid, b, al⟩, [W.semi]) := by
    cases names with
    | none =>
      cases hid with
      | true => exact absurd rfl (hn rfl)
      | false =>
        have h1 : ns = [] := h1
        subst h1
        exact ⟨[W.semi], rfl, by decide, fun b al => pImpT_no (by decide +kernel) pExps_semi⟩
    | some es =>
      have h1 : LaidL es ns := h1
      cases hid with
      | true => exact ⟨W.vhid :: (ns ++ [W.semi]), rfl, show W.vhid ≠ W.vas by decide, fun b al => pImpT_yes (pExps_laid h1)⟩
      | false => exact ⟨ns ++ [W.semi], rfl, by rw [lp_head h1]; decide, fun b al => pImpT_no (by rw [lp_head h1]; decide +kernel) (pExps_laid h1)⟩
  obtain ⟨X, hX, hd, hT⟩ := key
  have hB : ∀ b, pImpB b (m :: (alT al ++ X)) = some (⟨m, names, hid, b, al⟩, [W.semi]) := by
    intro b
    rw [← qCon_eq] at c1
    cases al with
    | none =>
      have q : ¬ qVw "as" (X.headD .fin) = true := by rw [qAs_eq]; exact fun h => hd (of_decide_eq_true h)
      exact (if_pos c1).trans ((if_neg q).trans (hT b none))
    | some y =>
      obtain ⟨d1, _, _, _⟩ := great_con (ga y rfl)
      rw [← qCon_eq] at d1
      exact (if_pos c1).trans ((if_pos (show qVw "as" .vas = true by decide +kernel)).trans ((if_pos d1).trans (hT b (some y))))
  have e : ∀ Y, (Y ++ (m :: (alT al ++ ((if hid = true then [W.vhid] else []) ++ ns)))) ++ [W.semi] = Y ++ (m :: (alT al ++ X)) := by
    intro Y
    rw [← hX]; simp only [List.append_assoc, List.cons_append]
  refine (congrArg pImp (e _)).trans ?_
  rw [pImp_eq]
  cases far with
  | true =>
    have q : qVw "qualified" .vqual = true := by decide +kernel
    exact (congr (congrArg pImpB q) (skip_yes q)).trans (hB true)
  | false =>
    have q : qVw "qualified" m = false := by rw [qQual_eq, decide_eq_false c2]
    exact (congr (congrArg pImpB q) (skip_no q)).trans (hB false)
/-! what is told of a thing tells its weight -/
theorem nm_inj {x y : W} (h : x.nm = y.nm) : x = y := by
  have q : (W.all.all fun x => W.all.all fun y => !(x.nm == y.nm) || decide (x = y)) = true := by decide +kernel
  have q2 := List.all_eq_true.mp (List.all_eq_true.mp q x x.mem_all) y y.mem_all
  rw [h, beq_self_eq_true, Bool.not_true, Bool.false_or] at q2
  exact of_decide_eq_true q2
theorem tx_wS {x y : W} (h : x.tx = y.tx) : wS x = wS y := by
  have q : (W.all.all fun x => W.all.all fun y => !(x.tx == y.tx) || decide (wS x = wS y)) = true := by decide +kernel
  have q2 := List.all_eq_true.mp (List.all_eq_true.mp q x x.mem_all) y y.mem_all
  rw [h, beq_self_eq_true, Bool.not_true, Bool.false_or] at q2
  exact of_decide_eq_true q2
theorem wL_dat : ∀ {xs ys : List W}, (xs.map fun x => Dat.str x.tx) = (ys.map fun x => Dat.str x.tx) → wL xs = wL ys
  | [], [], _ => rfl
  | [], _ :: _, h => by cases h
  | _ :: _, [], h => by cases h
  | x :: xs, y :: ys, h => by
    rw [List.map_cons, List.map_cons] at h
    injection h with h1 h2
    injection h1 with h1
    rw [wL, wL, tx_wS h1, wL_dat h2]
theorem wSubs_dat {a b : Subs} (h : a.dat = b.dat) : wSubs a = wSubs b := by
  cases a <;> cases b <;> first | rfl | (cases h; done) | skip
  rename_i xs ys
  injection h with h
  rw [wSubs, wSubs, wL_dat h]
theorem wE_dat {a b : Exp} (h : a.dat = b.dat) : wE a = wE b := by
  unfold Exp.dat at h
  injection h with h
  injection h with _ h
  injection h with h1 h
  injection h with h2 h
  injection h with h3 _
  injection h1 with h1
  injection h2 with h2
  have n1 : Str.ofString "value" ≠ Str.ofString "module" := by decide +kernel
  have n2 : Str.ofString "value" ≠ Str.ofString "type" := by decide +kernel
  have n3 : Str.ofString "module" ≠ Str.ofString "type" := by decide +kernel
  cases a <;> cases b <;> simp only [Exp.kindS, Exp.word, Exp.subs] at h1 h2 h3 <;> first | (exact absurd h1 (by assumption)) | (exact absurd h1.symm (by assumption)) | skip
  · rw [nm_inj h2]
  · rfl
  · rw [wE, wE, wSubs_dat h3]
theorem wEs_dat : ∀ {xs ys : List Exp}, xs.map Exp.dat = ys.map Exp.dat → wEs xs = wEs ys
  | [], [], _ => rfl
  | [], _ :: _, h => by cases h
  | _ :: _, [], h => by cases h
  | x :: xs, y :: ys, h => by
    rw [List.map_cons, List.map_cons] at h
    injection h with h1 h2
    rw [wEs, wEs, wE_dat h1, wEs_dat h2]
theorem wN_dat {a b : Option (List Exp)} (h : namesDat a = namesDat b) : wN a = wN b := by
  cases a <;> cases b <;> first | rfl | (cases h; done) | skip
  injection h with h
  rw [wN, wN, wEs_dat h]
theorem wI_dat {a b : Imp} (h : a.dat = b.dat) : wI a = wI b := by
  unfold Imp.dat at h
  injection h with h
  injection h with _ h
  injection h with _ h
  injection h with h3 h
  injection h with h4 h
  injection h with h5 h
  injection h with h6 _
  injection h4 with h4
  injection h5 with h5
  unfold wI
  rw [wN_dat h3, h4, h5]
  congr 3
  cases ha : a.al <;> cases hb : b.al <;> rw [ha, hb] at h6 <;> first | rfl | (cases h6; done)
/-! a word left out is never the same -/
theorem semi_last {ts r : List W} (h : r <:+ ts ++ [W.semi]) (hl : r.length = 1) : r = [W.semi] := by
  obtain ⟨p, hp⟩ := h
  have e := List.append_inj' hp hl
  exact e.2
theorem cnt_out {ts : List W} {i : Nat} (hi : i < ts.length) (hc : ts[i]? ≠ some .cm) : cnt (ts.take i ++ ts.drop (i + 1)) + 1 = cnt ts := by
  have e : ts = ts.take i ++ (ts[i] :: ts.drop (i + 1)) := by rw [← List.drop_eq_getElem_cons hi, List.take_append_drop]
  have hc' : ts[i] ≠ .cm := fun h => hc (by rw [List.getElem?_eq_getElem hi, h])
  have := congrArg cnt e
  rw [cnt_app, cnt_cons, if_neg hc'] at this
  rw [cnt_app]; omega
theorem out_exps {es es' : List Exp} {ts r : List W} {i : Nat} (h : LaidL es ts) (hi : i < ts.length) (hc : ts[i]? ≠ some .cm) (h' : pExps (ts.take i ++ ts.drop (i + 1) ++ [W.semi]) = some (some es', r)) (hl : r.length = 1) : es'.map Exp.dat ≠ es.map Exp.dat := fun e => by
  have h1 := (pExps_eats (pExps_laid (r := [W.semi]) h)).2
  obtain ⟨s2, h2⟩ := pExps_eats h'
  have h3 := cnt_out hi hc
  rw [semi_last s2 hl] at h2
  rw [cnt_app] at h1 h2
  have := wEs_dat e
  rw [wN] at h1 h2
  omega
theorem out_imp {p p' : Imp} {ts r : List W} {i : Nat} (h : LaidI p ts) (hi : i < ts.length) (hc : ts[i]? ≠ some .cm) (h' : pImp (ts.take i ++ ts.drop (i + 1) ++ [W.semi]) = some (p', r)) (hl : r.length = 1) : p'.dat ≠ p.dat := fun e => by
  have h1 := (pImp_eats (pImp_laid h)).2
  obtain ⟨s2, h2⟩ := pImp_eats h'
  have h3 := cnt_out hi hc
  rw [semi_last s2 hl] at h2
  rw [cnt_app] at h1 h2
  have := wI_dat e
  omega


section
variable {prog : Program} {w : World} {A : Around} {E : Value → Shared → Prop} {s : Shared} {h₀ : Heap} {L a b : Addr} {news : List (Addr × Obj)} {Q : Value → Shared → Prop}
theorem og_neNil {xs : List Value} {n k : Nat} (N : News h₀ L s.heap news) (ha : (a, listO xs n) ∈ news) (hb : (b, listO [] k) ∈ news) (hu : A.units < cLine)
    (h : ∀ c : Bool, Q (.bool c) s) : wpAny (model prog w) A (compareOp .NotEq (.ref a) (.ref b)) Q E s := by
  have h1 : s.heap.IsList a xs.toArray := N.isList ha
  have h2 : s.heap.IsList b ([] : List Value).toArray := N.isList hb
  by_cases hx : xs.toArray.size = ([] : List Value).toArray.size
  · exact SeqAt.RcNeAt.lists (e := fun _ => true) h1 h2 hx hu (fun j _ j2 => absurd j2 (Nat.not_lt_zero _)) prog w E Q (h _)
  · exact SeqAt.RcNeAt.lists_lengths h1 h2 (bne_iff_ne.mpr hx) hu prog w E Q (h _)
end
/-- data without ints -/
def gOk : Nat → Dat → Bool
  | _, .none => true
  | _, .bool _ => true
  | _, .str x => PyData.strOk x
  | n + 1, .tuple ds => ds.all (gOk n)
  | _, _ => false
theorem g_cases {n : Nat} {d : Dat} (h : gOk n d = true) : d = .none ∨ (∃ b, d = .bool b) ∨ (∃ x, d = .str x ∧ PyData.strOk x = true) ∨ ∃ m ds, n = m + 1 ∧ d = .tuple ds ∧ ∀ e ∈ ds, gOk m e = true := by
  cases d with
  | none => exact .inl rfl
  | bool b => exact .inr (.inl ⟨b, rfl⟩)
  | str x => exact .inr (.inr (.inl ⟨x, rfl, by cases n <;> exact h⟩))
  | tuple ds =>
    cases n with
    | zero => exact Bool.noConfusion (show false = true from h)
    | succ m => exact .inr (.inr (.inr ⟨m, ds, rfl, rfl, fun e he => List.all_eq_true.mp h e he⟩))
  | _ => cases n <;> exact Bool.noConfusion (show false = true from h)
section
variable {h₀ h : Heap} {L : Addr} {news : List (Addr × Obj)}
theorem g_in (N : News h₀ L h news) (n : Nat) : ∀ {v : Value} {d : Dat}, DatIn news v d → gOk n d = true → ∃ as, Reads h v (kqdP d) as := by
  induction n using Nat.strongRecOn with
  | _ n ih =>
  intro v d H hk
  rcases g_cases hk with rfl | ⟨b, rfl⟩ | ⟨x, rfl, _⟩ | ⟨m, ds, rfl, rfl, hd⟩
  · cases H; exact ⟨_, Reads.none⟩
  · cases H; exact ⟨_, Reads.bool b⟩
  · cases H; exact ⟨_, Reads.str x _⟩
  · have all : ∀ (ds : List Dat) {vs : List Value}, DatAll news vs ds → (∀ d ∈ ds, gOk m d = true) → ∃ as, ReadsAll h vs (kqdPs ds) as := by
      intro ds
      induction ds with
      | nil => intro vs r _; cases r; exact ⟨_, ReadsAll.nil⟩
      | cons d ds hi =>
        intro vs r hk
        cases r with
        | cons hd r =>
          obtain ⟨as, q⟩ := ih m (Nat.lt_succ_self m) hd (hk _ (.head _))
          obtain ⟨bs, p⟩ := hi r fun d hm => hk d (.tail _ hm)
          rw [kqdPs]
          exact ⟨_, ReadsAll.cons q p⟩
    cases H with
    | tuple hm r =>
      obtain ⟨as, q⟩ := all ds r hd
      rw [kqdP]
      exact ⟨as, reads_tuple_at (N.get hm) rfl rfl (by simpa using q)⟩
end
theorem g_lay (n : Nat) : ∀ (d : Dat), gOk n d = true → (kqdP d).canLay0 = true ∧ (kqdP d).depth ≤ n := by
  induction n using Nat.strongRecOn with
  | _ n ih =>
  intro d hk
  rcases g_cases hk with rfl | ⟨b, rfl⟩ | ⟨x, rfl, hx⟩ | ⟨m, ds, rfl, rfl, hd⟩
  · exact ⟨rfl, Nat.zero_le _⟩
  · exact ⟨rfl, Nat.zero_le _⟩
  · exact ⟨hx, Nat.zero_le _⟩
  · have all : ∀ ds : List Dat, (∀ d ∈ ds, gOk m d = true) → PyData.canLayAll0 (kqdPs ds) = true ∧ PyData.depthAll (kqdPs ds) ≤ m := by
      intro ds
      induction ds with
      | nil => intro _; exact ⟨rfl, Nat.zero_le _⟩
      | cons d ds hi =>
        intro h
        have h1 := ih m (Nat.lt_succ_self m) d (h d (.head _))
        have h2 := hi fun e he => h e (.tail _ he)
        simp only [kqdPs, PyData.canLayAll0, PyData.depthAll, h1.1, h2.1, Bool.and_self, true_and]
        exact Nat.max_le.mpr ⟨h1.2, h2.2⟩
    have q := all ds hd
    have q2 := q.2
    simp only [kqdP, PyData.canLay0, PyData.depth, q.1, true_and]
    omega
theorem g_eqv (n : Nat) : ∀ (d e : Dat) (k : Nat), gOk n d = true → gOk k e = true → (PyData.eqv (kqdP d) (kqdP e) = true ↔ d = e) := by
  induction n using Nat.strongRecOn with
  | _ n ih =>
  intro d e k h1 h2
  have no : ∀ {a b : PyData} {d e : Dat}, PyData.eqv a b = false → d ≠ e → (PyData.eqv a b = true ↔ d = e) := fun h1 h2 => ⟨fun h => absurd (h1.symm.trans h) Bool.false_ne_true, fun h => absurd h h2⟩
  rcases g_cases h1 with rfl | ⟨b, rfl⟩ | ⟨x, rfl, hx⟩ | ⟨m, ds, rfl, rfl, hd⟩ <;> rcases g_cases h2 with rfl | ⟨c, rfl⟩ | ⟨y, rfl, hy⟩ | ⟨j, es, rfl, rfl, he⟩ <;> first | exact no rfl (fun h => nomatch h) | skip
  · exact ⟨fun _ => rfl, fun _ => rfl⟩
  · simp only [kqdP, PyData.eqv, Dat.bool.injEq, beq_iff_eq]
  · simp only [kqdP, PyData.eqv, Dat.str.injEq, beq_iff_eq]
  · have all : ∀ (ds es : List Dat), (∀ d ∈ ds, gOk m d = true) → (∀ d ∈ es, gOk j d = true) → (PyData.eqvAll (kqdPs ds) (kqdPs es) = true ↔ ds = es) := by
      intro ds
      induction ds with
      | nil =>
        intro es _ _
        cases es with
        | nil => exact ⟨fun _ => rfl, fun _ => rfl⟩
        | cons e es => exact ⟨fun h => Bool.noConfusion (show false = true from h), fun h => nomatch h⟩
      | cons d ds hi =>
        intro es h1 h2
        cases es with
        | nil => exact ⟨fun h => Bool.noConfusion (show false = true from h), fun h => nomatch h⟩
        | cons e es =>
          have q1 := ih m (Nat.lt_succ_self m) d e j (h1 d (.head _)) (h2 e (.head _))
          have q2 := hi es (fun x hx => h1 x (.tail _ hx)) fun x hx => h2 x (.tail _ hx)
          simp only [kqdPs, PyData.eqvAll, Bool.and_eq_true, q1, q2, List.cons.injEq]
    simp only [kqdP, PyData.eqv, Dat.tuple.injEq]
    exact all ds es hd he
section
variable {prog : Program} {w : World} {A : Around} {E : Value → Shared → Prop} {s : Shared} {h₀ : Heap} {L a c : Addr} {news : List (Addr × Obj)} {Q : Value → Shared → Prop}
/-- what the reader hands back -/
def RdV (news : List (Addr × Obj)) (v : Value) : Option (Dat × Int) → Prop
  | none => v = .none
  | some (d, k) => ∃ a x n t, v = .ref a ∧ (a, tupO [x, .int k t] n) ∈ news ∧ DatIn news x d
theorem rdv_ne {v y : Value} {o : Option (Dat × Int)} {due : Dat} {n : Nat} {t : Tok} (N : News h₀ L s.heap news) (hv : RdV news v o) (ho : ∀ d k, o = some (d, k) → gOk 8 d = true) (hm : (c, tupO [y, .int 0 t] n) ∈ news) (hy : DatIn news y due) (hd : gOk 8 due = true)
    (hu : A.units + 64 < cLine) (hT : o = some (due, 0) → Q (.bool false) s) (hF : o ≠ some (due, 0) → Q (.bool true) s) : wpAny (model prog w) A (compareOp .NotEq v (.ref c)) Q E s := by
  obtain ⟨bs, rb⟩ := g_in N 8 hy hd
  have l2 := g_lay 8 due hd
  have rc : Reads s.heap (.ref c) (.tuple [kqdP due, .int 0]) _ := reads_tuple_at (N.get hm) rfl rfl (ReadsAll.cons rb (ReadsAll.cons (Reads.int 0 t) ReadsAll.nil))
  have sc : SeqAt.shaped (.tuple [kqdP due, .int 0]) = true := by
    have := l2.2
    simp only [SeqAt.shaped, PyData.canLay0, PyData.canLayAll0, PyData.depth, PyData.depthAll, l2.1, Bool.and_self, Bool.true_and]
    refine decide_eq_true ?_
    omega
  cases o with
  | none =>
    have hv : v = .none := hv
    subst hv
    exact ne_dataH Reads.none rc rfl sc hu (hF (fun h => nomatch h))
  | some p =>
    obtain ⟨d, k⟩ := p
    obtain ⟨a', x, n', t', rfl, hm', hx⟩ := hv
    obtain ⟨as, ra⟩ := g_in N 8 hx (ho d k rfl)
    have l1 := g_lay 8 d (ho d k rfl)
    have rd : Reads s.heap (.ref a') (.tuple [kqdP d, .int k]) _ := reads_tuple_at (N.get hm') rfl rfl (ReadsAll.cons ra (ReadsAll.cons (Reads.int k t') ReadsAll.nil))
    have sd : SeqAt.shaped (.tuple [kqdP d, .int k]) = true := by
      have := l1.2
      simp only [SeqAt.shaped, PyData.canLay0, PyData.canLayAll0, PyData.depth, PyData.depthAll, l1.1, Bool.and_self, Bool.true_and]
      refine decide_eq_true ?_
      omega
    refine ne_dataH rd rc sd sc hu ?_
    have q := g_eqv 8 d due 8 (ho d k rfl) hd
    have e : PyData.eqv (.tuple [kqdP d, .int k]) (.tuple [kqdP due, .int 0]) = (PyData.eqv (kqdP d) (kqdP due) && (k == 0)) := by
      simp [PyData.eqv, PyData.eqvAll]
    rw [e]
    by_cases h1 : d = due
    · by_cases h2 : k = 0
      · rw [q.mpr h1, h2]; exact hT (by rw [h1, h2])
      · rw [q.mpr h1, beq_eq_false_iff_ne.mpr h2]; exact hF (fun z => h2 (by injection z with z; injection z))
    · rw [Bool.eq_false_iff.mpr fun z => h1 (q.mp z), Bool.false_and]; exact hF (fun z => h1 (by injection z with z; injection z))
end
theorem W.tx_ok (x : W) : PyData.strOk x.tx = true := W.by_all (p := fun x => PyData.strOk x.tx) (by decide +kernel) x
theorem W.nm_ok (x : W) : PyData.strOk x.nm = true := W.by_all (p := fun x => PyData.strOk x.nm) (by decide +kernel) x
theorem Subs.dat_ok (s : Subs) : gOk 2 s.dat = true := by
  cases s with
  | no => rfl
  | all => decide +kernel
  | list xs => simp [Subs.dat, gOk, W.tx_ok]
theorem gOk_mono {n m : Nat} {d : Dat} (hl : n ≤ m) (h : gOk n d = true) : gOk m d = true := by
  induction n using Nat.strongRecOn generalizing m d with
  | _ n ih =>
  rcases g_cases h with rfl | ⟨b, rfl⟩ | ⟨x, rfl, hx⟩ | ⟨j, ds, rfl, rfl, hd⟩
  · cases m <;> rfl
  · cases m <;> rfl
  · cases m <;> exact hx
  · cases m with
    | zero => exact absurd hl (Nat.not_succ_le_zero _)
    | succ m => exact List.all_eq_true.mpr fun e he => ih j (Nat.lt_succ_self j) (Nat.le_of_succ_le_succ hl) (hd e he)
theorem Exp.dat_ok (e : Exp) : gOk 3 e.dat = true := by
  have h1 : PyData.strOk (Str.ofString "export") = true := by decide +kernel
  have k1 : PyData.strOk (Str.ofString "value") = true := by decide +kernel
  have k2 : PyData.strOk (Str.ofString "module") = true := by decide +kernel
  have k3 : PyData.strOk (Str.ofString "type") = true := by decide +kernel
  have h2 : PyData.strOk e.kindS = true := by cases e <;> assumption
  have h3 := W.nm_ok e.word
  have h4 := Subs.dat_ok e.subs
  simp [Exp.dat, gOk, h1, h2, h3, h4]
theorem exps_ok (es : List Exp) : gOk 4 (.tuple (es.map Exp.dat)) = true := by
  simp [gOk, Exp.dat_ok]
theorem Imp.dat_ok (p : Imp) : gOk 5 p.dat = true := by
  have h1 : PyData.strOk (Str.ofString "\x69mport") = true := by decide +kernel
  have h2 : gOk 4 (namesDat p.names) = true := by
    cases p.names with
    | none => rfl
    | some es => exact exps_ok es
  have h3 : gOk 4 (aliasDat p.al) = true := by
    cases p.al with
    | none => rfl
    | some x => exact W.nm_ok x
  simp [Imp.dat, gOk, h1, h2, h3, W.nm_ok]


theorem allLt_app {d : Addr} : ∀ {l m : List (Addr × Obj)}, AllLt d (l ++ m) ↔ (AllLt d l ∧ AllLt d m)
  | [], m => by rw [List.nil_append]; exact ⟨fun h => ⟨trivial, h⟩, fun h => h.2⟩
  | p :: l, m => by
    rw [List.cons_append]
    exact ⟨fun h => ⟨⟨h.1, (allLt_app.mp h.2).1⟩, (allLt_app.mp h.2).2⟩, fun h => ⟨h.1.1, allLt_app.mpr ⟨h.1.2, h.2⟩⟩⟩
theorem lt_of1 {D a : Addr} {o : Obj} {led : List (Addr × Obj)} (h : ∀ p ∈ led, @LT.lt Nat _ p.1 D) (hm : (a, o) ∈ led) : @LT.lt Nat _ a D := h _ hm
theorem lt_of2 {D a : Addr} {o : Obj} {led : List (Addr × Obj)} (h : AllLt D led) (hm : (a, o) ∈ led) : @LT.lt Nat _ a D := ktn_ltOf h _ hm
/-- newer than the source and the rest -/
def New (src : Addr) (rest tl : List (Addr × Obj)) : Prop := ∀ p ∈ tl, @LT.lt Nat _ src p.1 ∧ ∀ q ∈ rest, @LT.lt Nat _ q.1 p.1
theorem New.of {src : Addr} {o : Obj} {rest led tl : List (Addr × Obj)} (h : Ord led tl) (h1 : (src, o) ∈ led) (h2 : ∀ p ∈ rest, p ∈ led) : New src rest tl := fun p hp => ⟨h _ h1 p hp, fun q hq => h q (h2 q hq) p hp⟩
structure SplR (src : Addr) (rest l tl : List (Addr × Obj)) : Prop where
  sub : ∀ p ∈ tl ++ rest, p ∈ l
  new : New src rest tl
structure Spl (src : Addr) (o : Obj) (rest l tl : List (Addr × Obj)) : Prop where
  mem : (src, o) ∈ l
  sub : ∀ p ∈ tl ++ rest, p ∈ l
  new : New src rest tl
theorem SplR.nil {src : Addr} {rest : List (Addr × Obj)} : SplR src rest rest [] := ⟨fun _ h => h, (fun _ h => nomatch h)⟩
theorem SplR.cons {src a : Addr} {oa : Obj} {rest l tl : List (Addr × Obj)} (r : SplR src rest l tl) (h1 : @LT.lt Nat _ src a) (h2 : ∀ q ∈ rest, @LT.lt Nat _ q.1 a) : SplR src rest ((a, oa) :: l) ((a, oa) :: tl) where
  sub := fun p hp => (List.mem_cons.mp hp).elim (fun h => h ▸ .head _) fun h => .tail _ (r.sub p h)
  new := fun p hp => (List.mem_cons.mp hp).elim (fun h => h ▸ ⟨h1, h2⟩) (r.new p)
theorem SplR.drop {src a : Addr} {oa : Obj} {rest l tl : List (Addr × Obj)} (r : SplR src rest l tl) : SplR src rest ((a, oa) :: l) tl where
  sub := fun p hp => .tail _ (r.sub p hp)
  new := r.new
theorem SplR.app {src : Addr} {rest l t tl : List (Addr × Obj)} (r : SplR src rest l tl) (h : New src rest t) : SplR src rest (t ++ l) (t ++ tl) :=
  ⟨fun p hp => by rw [List.append_assoc] at hp; exact (List.mem_append.mp hp).elim (fun h => List.mem_append_left _ h) fun h => List.mem_append_right _ (r.sub p h), fun p hp => (List.mem_append.mp hp).elim (h p) (r.new p)⟩
theorem Spl.base {src : Addr} {o : Obj} {rest l tl : List (Addr × Obj)} (r : SplR src rest l tl) : Spl src o rest ((src, o) :: l) tl :=
  ⟨.head _, fun p hp => .tail _ (r.sub p hp), r.new⟩
theorem Spl.cons {src a : Addr} {o oa : Obj} {rest l tl : List (Addr × Obj)} (r : Spl src o rest l tl) (h1 : @LT.lt Nat _ src a) (h2 : ∀ q ∈ rest, @LT.lt Nat _ q.1 a) : Spl src o rest ((a, oa) :: l) ((a, oa) :: tl) :=
  ⟨.tail _ r.mem, fun p hp => (List.mem_cons.mp hp).elim (fun h => h ▸ .head _) fun h => .tail _ (r.sub p h), fun p hp => (List.mem_cons.mp hp).elim (fun h => h ▸ ⟨h1, h2⟩) (r.new p)⟩
theorem Spl.drop {src a : Addr} {o oa : Obj} {rest l tl : List (Addr × Obj)} (r : Spl src o rest l tl) : Spl src o rest ((a, oa) :: l) tl :=
  ⟨.tail _ r.mem, fun p hp => .tail _ (r.sub p hp), r.new⟩
theorem Spl.app {src : Addr} {o : Obj} {rest l t tl : List (Addr × Obj)} (r : Spl src o rest l tl) (h : New src rest t) : Spl src o rest (t ++ l) (t ++ tl) :=
  ⟨List.mem_append_right _ r.mem, fun p hp => by rw [List.append_assoc] at hp; exact (List.mem_append.mp hp).elim (fun h => List.mem_append_left _ h) fun h => List.mem_append_right _ (r.sub p h), fun p hp => (List.mem_append.mp hp).elim (h p) (r.new p)⟩
theorem New.ord {src : Addr} {o : Obj} {rest tl : List (Addr × Obj)} (h : New src rest tl) : Ord ((src, o) :: rest) tl := fun q hq p hp => by
  rcases List.mem_cons.mp hq with rfl | hq
  · exact (h p hp).1
  · exact (h p hp).2 q hq
theorem New.ne {src : Addr} {rest tl : List (Addr × Obj)} (h : New src rest tl) (hne : ∀ p ∈ rest, p.1 ≠ src) : ∀ p ∈ tl ++ rest, p.1 ≠ src := fun p hp => (List.mem_append.mp hp).elim (fun hp => Nat.ne_of_gt (h p hp).1) (hne p)
theorem BS.done {src : Addr} {rest l tl : List (Addr × Obj)} {xa xb xa' xb' : Int} {ta tb ta' tb' : Tok} {n n' : Nat} {Val : List (Addr × Obj) → Value → Prop} {v : Value} {m : Str → Option Value} {h₀ h' : Heap} {L : Addr} {tk' : Nat} {R : Value → Nat → Heap → Prop}
    (hret : ∀ v n2 h' tk', (∃ a' b' ta' tb' n3 tl, n2 = (src, srcO a' b' ta' tb' n3) :: (tl ++ rest) ∧ 0 ≤ a' ∧ 0 ≤ b' ∧ b' < 2147483647 ∧ (∀ p ∈ tl ++ rest, p.1 ≠ src) ∧ Ord ((src, srcO xa xb ta tb n) :: rest) tl ∧ Val tl v) → Fr h₀ L h' m → News h₀ L h' n2 → R v tk' h')
    (kF : Fr h₀ L h' m) (kN : News h₀ L h' l) (S : Spl src (srcO xa' xb' ta' tb' n') rest l tl) (ha : 0 ≤ xa') (hb : 0 ≤ xb') (hb2 : xb' < 2147483647) (hne : ∀ p ∈ rest, p.1 ≠ src) (hV : Val tl v) : R v tk' h' :=
  hret v _ h' tk' ⟨xa', xb', ta', tb', n', tl, rfl, ha, hb, hb2, S.new.ne hne, S.new.ord, hV⟩ kF fun p hp => kN p ((List.mem_cons.mp hp).elim (fun h => h ▸ S.mem) (S.sub p))
def ExpW (w : World) (news : List (Addr × Obj)) (v : Value) : Prop := ∃ a vn vw n e ts, v = .ref a ∧ (a, tupO [vn, vw] n) ∈ news ∧ ExpIn w news vn e ∧ ListW w news vw ts ∧ Laid e ts
theorem wd_f_50 : True := by
  k_with "eval Subscript" => refine Subscript_ ?_
  trivial

theorem part_one {t1 : Tok} : All2 (fun v (x : W) => ∃ t, v = Value.str x.tx t) [Value.str (Str.ofString "One") t1] [.gOne] := by
  rw [show Str.ofString "One" = W.gOne.tx from by decide +kernel]
  exact .cons ⟨_, rfl⟩ .nil
theorem part_three {t1 t2 t3 : Tok} : All2 (fun v (x : W) => ∃ t, v = Value.str x.tx t) [Value.str (Str.ofString "One") t1, Value.str (Str.ofString ":+") t2, Value.str (Str.ofString "op") t3] [.gOne, .cplus, .vop] := by
  rw [show Str.ofString "One" = W.gOne.tx from by decide +kernel, show Str.ofString ":+" = W.cplus.tx from by decide +kernel, show Str.ofString "op" = W.vop.tx from by decide +kernel]
  exact .cons ⟨_, rfl⟩ (.cons ⟨_, rfl⟩ (.cons ⟨_, rfl⟩ .nil))
structure Pick (v : Addr) (o : Obj) (a b c : Addr × Obj) : Prop where
  h : ∀ led : List (Addr × Obj), a ∈ led → b ∈ led → c ∈ led → (v, o) ∈ led
theorem Pick.mem {v : Addr} {o : Obj} {a b c : Addr × Obj} {led : List (Addr × Obj)} (p : Pick v o a b c) (ha : a ∈ led) (hb : b ∈ led) (hc : c ∈ led) : (v, o) ∈ led := p.h led ha hb hc
theorem og_names {prog : Program} {w : World} {A : Around} {E : Value → Shared → Prop} {s : Shared} {h₀ : Heap} {L l a b c : Addr} {news : List (Addr × Obj)} {Q : Value → Shared → Prop} {value slice : PySem.Expr} {n na nb nc : Nat} {k : Int} {u t1 t2 t3 t4 : Tok} (N : News h₀ L s.heap news) (hm : (l, listO [.ref a, .ref b, .ref c] n) ∈ news)
    (ma : (a, listO [] na) ∈ news) (mb : (b, listO [.str (Str.ofString "One") t1] nb) ∈ news) (mc : (c, listO [.str (Str.ofString "One") t2, .str (Str.ofString ":+") t3, .str (Str.ofString "op") t4] nc) ∈ news) (h0 : 0 ≤ k) (hk : k < 3)
    (h : ∀ v vs n xs, (v, listO vs n) ∈ news → Pick v (listO vs n) (a, listO [] na) (b, listO [.str (Str.ofString "One") t1] nb) (c, listO [.str (Str.ofString "One") t2, .str (Str.ofString ":+") t3, .str (Str.ofString "op") t4] nc) → All2 (fun v (x : W) => ∃ t, v = .str x.tx t) vs xs → (∀ y ∈ xs, y.isPart = true) → xs.length ≤ 3 → vs.length ≤ 3 → Q (.ref v) s)
    (hs : subscripted slice false (.ref l) (.int k u) = operate [.ref l, .int k u] (getItem (.ref l) (.int k u)) := by with_unfolding_all rfl) :
    wpAny (model prog w) A (subscriptTail value slice (.ref l) (.int k u)) Q E s := by
  have hk' : k = 0 ∨ k = 1 ∨ k = 2 := by omega
  rcases hk' with rfl | rfl | rfl
  · exact og_item N hm (by decide) (by decide) rfl (h _ _ _ [] ma ⟨fun _ h _ _ => h⟩ .nil (fun _ h => nomatch h) (Nat.zero_le _) (Nat.zero_le _)) hs
  · exact og_item N hm (by decide) (by decide) rfl (h _ _ _ [.gOne] mb ⟨fun _ _ h _ => h⟩ part_one (by decide) (by decide) (Nat.le_of_ble_eq_true rfl)) hs
  · exact og_item N hm (by decide) (by decide) rfl (h _ _ _ [.gOne, .cplus, .vop] mc ⟨fun _ _ _ h => h⟩ part_three (by decide) (by decide) (Nat.le_of_ble_eq_true rfl)) hs
theorem wd_f_51 : True := by
  k_with "subscriptTail" => (k_here; (with_reducible show wpAny _ _ (subscriptTail _ _ (Value.ref _) (Value.int _ _)) _ _ _); k_dflt (refine' og_names ?k1Z9 ?k2Z9 ?m1Z9 ?m2Z9 ?m3Z9 ?b0Z9 ?b1Z9 ?_ ?k6Z9; (case k1Z9 => k_asm); (case k2Z9 => k_extra "mem"); (case m1Z9 => k_extra "mem"); (case m2Z9 => k_extra "mem"); (case m3Z9 => k_extra "mem"); (case b0Z9 => assumption); (case b1Z9 => assumption); (case k6Z9 => with_unfolding_all rfl); k_whole); intro _ _ _ _ _ _ _ _ _ _)
  k_with "compareOp NotEq ref ref" => (k_here; (with_reducible show wpAny _ _ (compareOp CmpOp.NotEq (Value.ref _) (Value.ref _)) _ _ _); k_dflt (refine' og_neNil ?k1Z9 ?k2Z9 ?k3Z9 ?k4Z9 ?_; (case k1Z9 => k_asm); (case k2Z9 => k_extra "mem"); (case k3Z9 => k_extra "mem"); (case k4Z9 => ktr_units)); intro _)
  trivial

theorem joinT_len {b : Bool} : ∀ {tss : List (List W)}, (∀ t ∈ tss, t.length ≤ 20) → (joinT b tss).length ≤ 21 * tss.length
  | [], _ => Nat.zero_le _
  | [t], h => by
    have := h t (.head _)
    rw [joinT, List.length_append]
    cases b <;> simp <;> omega
  | t :: u :: r, h => by
    have h1 := h t (.head _)
    have h2 := joinT_len (b := b) (tss := u :: r) fun t ht => h t (.tail _ ht)
    rw [joinT, List.length_append, List.length_cons]
    simp only [List.length_cons] at h2 ⊢
    omega
theorem law_joined_use {w : World} {news n0 : List (Addr × Obj)} {l : Addr} {ls : List Value} {n : Nat} {b : Bool} {tss : List (List W)}
    {mean : ExcName → Option Value} {mg mb : Str → Option Value} {dp un : Nat} {gd : Option (List Code)} {cn : Str} {cs : Scope} {a : Addr} {ccd : Value} {outer : List Env} {A₀ : Around} {base h₀ : Heap} {L : Addr} {m : Str → Option Value} {s : Shared} {Q E : Value → Shared → Prop} (B : Below A₀ base outer h₀) (F : Fr h₀ L s.heap m) (X : (ax.heap_1_39 w.params).In h₀) (N : News h₀ L s.heap news) (T : Top ax.view_1_40 LS mean mg mb h₀) (hk : cs.kind = .function) (h1 : dp + 100 < recursionLimit) (h2 : un + 8 * 100 < cLine) (hm : (l, listO ls n) ∈ news) (hL : All2 (ListW w n0) ls tss) (hs : ∀ p ∈ n0, p ∈ news) (hn : tss.length ≤ 20) (hz : ∀ t ∈ tss, t.length ≤ 20)
    (ok : ∀ l vs k tl h' tk', (l, listO vs k) ∈ tl ++ news → All2 (WordIn w (tl ++ n0)) vs (joinT b tss) → vs.length ≤ 420 → Ord news tl → Fr h₀ L h' m → News h₀ L h' (tl ++ news) → Q (.ref l) { s with heap := h', toks := tk' }) :
    wpAny (model PG w) (atop dp un gd cn cs L a ccd outer) (call (.ref 456) [.ref l, .bool b]) Q E s :=
  (law_joined hm hL hs hn hz).use B F X N T hk h1 h2 (fun v n' h' tk' o F' N' => by
    obtain ⟨tl, rfl, hO, l, vs, k, rfl, hm, hV⟩ := o
    exact ok _ _ _ _ _ _ ((List.mem_append.mp hm).elim (fun h => List.mem_append_left _ h) fun h => List.mem_append_right _ (hs _ h)) hV (by rw [hV.length]; have := joinT_len (b := b) hz; omega) hO F' N') (fun h => h.elim)
theorem wd_f_52 : True := by
  k_with "call ref" => (k_here; k_dflt (refine' law_joined_use ?_ ?_ ?_ ?_ ?_ ?_ ?_ ?_ ?b0Z9 ?b1Z9 ?b2Z9 ?b3Z9 ?b4Z9 ?_; k_extra "hk cell_call"; (case b0Z9 => k_extra "mem"); (case b1Z9 => with_reducible assumption); (case b2Z9 => (intro _ _; k_extra "mem")); (case b3Z9 => assumption); (case b4Z9 => assumption)); k_whole; intro _ _ _ _ _ _ _ _ _ _ _ _; (try k_sweep))
  trivial

theorem off1_app {d : Addr} : ∀ {l m : List (Addr × Obj)}, LCg.Off1 d (l ++ m) ↔ (LCg.Off1 d l ∧ LCg.Off1 d m)
  | [], m => by rw [List.nil_append]; exact ⟨fun h => ⟨trivial, h⟩, fun h => h.2⟩
  | p :: l, m => by
    rw [List.cons_append]
    exact ⟨fun h => ⟨⟨h.1, (off1_app.mp h.2).1⟩, (off1_app.mp h.2).2⟩, fun h => ⟨h.1.1, off1_app.mpr ⟨h.1.2, h.2⟩⟩⟩
theorem off1_all {d : Addr} {l : List (Addr × Obj)} : LCg.Off1 d l → ∀ q ∈ l, @Ne Nat d q.1 := by
  induction l with
  | nil => intro _ q hq; cases hq
  | cons p l ih =>
    intro h q hq
    rcases List.mem_cons.mp hq with rfl | hq
    · exact fun e => h.1 e.symm
    · exact ih h.2 q hq
theorem off1_ne {d a : Addr} {o : Obj} {l : List (Addr × Obj)} (h : LCg.Off1 d l) (hm : (a, o) ∈ l) : @Ne Nat d a := off1_all h _ hm
theorem off1_ne' {d a : Addr} {o : Obj} {l : List (Addr × Obj)} (h : LCg.Off1 d l) (hm : (a, o) ∈ l) : @Ne Nat a d := (off1_all h _ hm).symm
theorem wd_f_53 : True := by
  k_with "FinE" => ((unfold LCg.FinE); intro _ _ _ F' N' o1'; (try simp only [List.nil_append, List.cons_append] at N'); revert F' N' o1'; intro _ _ _; (try dsimp only))
  k_with "hk k_ne" => ((refine neN ?_; (try dsimp only); first | with_reducible assumption | exact Nat.ne_of_gt (ltm (by assumption) (by k_extra "mem")) | exact Nat.ne_of_lt (ltm (by assumption) (by k_extra "mem")) | exact off1_ne (by assumption) (by k_extra "mem") | exact off1_ne' (by assumption) (by k_extra "mem")))
  trivial

theorem mk_expV_use {w : World} {news n1 : List (Addr × Obj)} (e : Exp) {x : W} {k : Str} {t1 t2 : Tok} {sv : Value}
    {mean : ExcName → Option Value} {mg mb : Str → Option Value} {dp un : Nat} {gd : Option (List Code)} {cn : Str} {cs : Scope} {a : Addr} {ccd : Value} {outer : List Env} {A₀ : Around} {base h₀ : Heap} {L : Addr} {m : Str → Option Value} {s : Shared} {Q E : Value → Shared → Prop} (B : Below A₀ base outer h₀) (F : Fr h₀ L s.heap m) (X : (ax.heap_1_39 w.params).In h₀) (N : News h₀ L s.heap news) (T : Top ax.view_1_40 LS mean mg mb h₀) (hk : cs.kind = .function) (h1 : dp + 30 < recursionLimit) (h2 : un + 8 * 30 < cLine) (hw : e.word = x) (hk' : e.kindS = k) (hs : SubsV n1 sv e.subs)
    (ok : ∀ a n0 h' tk', ExpIn w (n0 ++ n1) (.ref a) e → Ord news n0 → Fr h₀ L h' m → News h₀ L h' (n0 ++ news) → Q (.ref a) { s with heap := h', toks := tk' }) :
    wpAny (model PG w) (atop dp un gd cn cs L a ccd outer) (call (.ref 236) [.str k t1, .str x.nm t2, sv]) Q E s :=
  mk_export3_use B F X N T hk h1 h2 (fun a d T h' tk' F' N' l1 l2 => by
    subst hw; subst hk'
    exact ok a [_, _] h' tk' ⟨a, d, T, _, _, _, _, rfl, .head _, .tail _ (.head _), hs.mono fun p hp => .tail _ (.tail _ hp)⟩ (Ord.cons' (lt_tr l1 l2) (Ord.cons' l1 Ord.nil)) F' N')
theorem kind_value {x : W} : (Exp.value x).kindS = Str.ofString "value" := rfl
theorem kind_module {x : W} : (Exp.module x).kindS = Str.ofString "module" := rfl
theorem kind_type {x : W} {s : Subs} : (Exp.type x s).kindS = Str.ofString "type" := rfl
theorem subs_no {x : W} : SubsV [] .none (Exp.type x .no).subs := rfl
theorem subs_value {x : W} : SubsV [] .none (Exp.value x).subs := rfl
theorem subs_module {x : W} : SubsV [] .none (Exp.module x).subs := rfl
theorem subs_all {x : W} {t : Tok} : SubsV [] (.str (Str.ofString "all") t) (Exp.type x .all).subs := ⟨_, rfl⟩
theorem subs_list {x : W} {l : Addr} {vs : List Value} {n : Nat} {xs : List W} {n9 : List (Addr × Obj)} (_ : (l, listO vs n) ∈ n9) (hA : All2 (fun v (x : W) => ∃ t, v = .str x.tx t) vs xs) : SubsV [(l, listO vs n)] (.ref l) (Exp.type x (.list xs)).subs := ⟨l, vs, n, rfl, .head _, hA⟩
theorem wd_f_54 : True := by
  k_with "call ref" => (k_here; k_dflt (refine' mk_expV_use (.type _ (.list _)) ?_ ?_ ?_ ?_ ?_ ?_ ?_ ?_ ?q1Z9 ?q2Z9 ?q3Z9 ?_; (case q2Z9 => with_reducible exact kind_type); (case q3Z9 => exact subs_list (by with_reducible assumption) (by with_reducible assumption)); (case q1Z9 => exact rfl); k_extra "hk cell_call"); k_whole; intro _ _ _ _ _ _ _ _; (try k_sweep))
  k_with "call ref" => (k_here; k_dflt (refine' mk_expV_use (.type _ .all) ?_ ?_ ?_ ?_ ?_ ?_ ?_ ?_ ?q1Z9 ?q2Z9 ?q3Z9 ?_; (case q2Z9 => with_reducible exact kind_type); (case q3Z9 => with_reducible exact subs_all); (case q1Z9 => exact rfl); k_extra "hk cell_call"); k_whole; intro _ _ _ _ _ _ _ _; (try k_sweep))
  k_with "call ref" => (k_here; k_dflt (refine' mk_expV_use (.type _ .no) ?_ ?_ ?_ ?_ ?_ ?_ ?_ ?_ ?q1Z9 ?q2Z9 ?q3Z9 ?_; (case q2Z9 => with_reducible exact kind_type); (case q3Z9 => with_reducible exact subs_no); (case q1Z9 => exact rfl); k_extra "hk cell_call"); k_whole; intro _ _ _ _ _ _ _ _; (try k_sweep))
  k_with "call ref" => (k_here; k_dflt (refine' mk_expV_use (.module _) ?_ ?_ ?_ ?_ ?_ ?_ ?_ ?_ ?q1Z9 ?q2Z9 ?q3Z9 ?_; (case q2Z9 => with_reducible exact kind_module); (case q3Z9 => with_reducible exact subs_module); (case q1Z9 => exact rfl); k_extra "hk cell_call"); k_whole; intro _ _ _ _ _ _ _ _; (try k_sweep))
  k_with "call ref" => (k_here; k_dflt (refine' mk_expV_use (.value _) ?_ ?_ ?_ ?_ ?_ ?_ ?_ ?_ ?q1Z9 ?q2Z9 ?q3Z9 ?_; (case q2Z9 => with_reducible exact kind_value); (case q3Z9 => with_reducible exact subs_value); (case q1Z9 => exact rfl); k_extra "hk cell_call"); k_whole; intro _ _ _ _ _ _ _ _; (try k_sweep))
  trivial

def PI (w : World) (news : List (Addr × Obj)) (xs : List W) (i : Nat) (ys : List Value) (nw : List (Addr × Obj)) : Prop := ∃ tl, nw = tl ++ news ∧ Ord news tl ∧ All2 (ListW w tl) ys ((xs.take i).map W.partT)
theorem PI.start {w : World} {news : List (Addr × Obj)} {xs : List W} : PI w news xs 0 [] news := ⟨[], rfl, Ord.nil, .nil⟩
theorem comp_endP {w : World} {h₀ : Heap} {L I C D l : Addr} {m : Str → Option Value} {s₁ : Shared} {oI oC oD : Obj} {h' : Heap} {tk n i : Nat} {vs ys : List Value} {news tl tl2 : List (Addr × Obj)} {xs : List W} {x : W} {y : Value}
    (F : Fr h₀ L h' m) (N : News h₀ L h' (tl2 ++ (I, oI) :: (C, oC) :: (D, oD) :: (tl ++ news))) (off : LCg.Off3 I C D (tl ++ news)) (hO2 : Ord ((I, oI) :: (C, oC) :: (D, oD) :: (tl ++ news)) tl2) (hm : (l, listO vs n) ∈ news)
    (hO : Ord news tl) (hL : All2 (ListW w tl) ys ((xs.take i).map W.partT)) (he : xs[i]? = some x) (hy : ListW w tl2 y x.partT) :
    LCg.CompEnd h₀ L m s₁ I oI C oC D oD (LCg.SrcAt h₀ l vs.toArray) (fun y news' => PI w news xs (i + 1) (ys ++ [y]) news') y { s₁ with heap := h', toks := tk } :=
  LCg.CompEnd.intro F N (tl2 ++ (tl ++ news)) sub_grow (off_grow off hO2) (.inr ⟨_, List.mem_append_right _ (List.mem_append_right _ hm), rfl, _, rfl⟩)
    ⟨tl2 ++ tl, (List.append_assoc _ _ _).symm, ord_app hO (hO2.sub fun q hq => .tail _ (.tail _ (.tail _ hq))), by
      rw [List.take_add_one, he, Option.toList_some, List.map_append, List.map_cons, List.map_nil]
      exact (hL.imp fun _ _ h => h.mono fun p hp => List.mem_append_right _ hp).append (.cons (hy.mono fun p hp => List.mem_append_left _ hp) .nil)⟩
theorem part_small {x : W} : x.partT.length ≤ 20 := by cases x <;> decide
theorem law_export {w : World} {src : Addr} : BS w 200 461 [.ref src] src (fun _ => True) (ExpW w) := by
  intro rest xa xb ta tb n ha hb hb2 hne _
  unfold CSpec; intro mean mg mb dp un gd cn cs a ccd outer A₀ base h₀ L m s Q E B F X N T hk hd' hu hret her; refine wpAny_call ?_; k_dflt ktr_enter
  k_steps
  · rename_i kF kN _ _; refine' BS.done (R := fun v tk h => Q v { s with heap := h, toks := tk }) hret kF kN ?S ?sa ?sb ?sc hne ?V; (case S => (repeat' (first | ((with_reducible show SplR _ _ _ _); first | exact SplR.nil | (refine' SplR.cons ?_ ?h1 ?h2; (case h1 => first | with_reducible assumption | exact ltm (by assumption) (by k_extra "mem")); (case h2 => first | with_reducible assumption | exact lts (by assumption) (fun p9 h9 => by k_extra "mem"))) | refine' SplR.drop ?_ | (refine' SplR.app ?_ ?h; (case h => first | with_reducible assumption | (refine' New.of ?p9 ?q9 ?r9; (case p9 => with_reducible assumption); (case q9 => k_extra "mem"); (case r9 => (intro p9 h9; k_extra "mem")))))) | ((with_reducible show Spl _ _ _ _ _); first | refine' Spl.base ?_ | (refine' Spl.cons ?_ ?h1 ?h2; (case h1 => first | with_reducible assumption | exact ltm (by assumption) (by k_extra "mem")); (case h2 => first | with_reducible assumption | exact lts (by assumption) (fun p9 h9 => by k_extra "mem"))) | refine' Spl.drop ?_ | (refine' Spl.app ?_ ?h; (case h => first | with_reducible assumption | (refine' New.of ?p9 ?q9 ?r9; (case p9 => with_reducible assumption); (case q9 => k_extra "mem"); (case r9 => (intro p9 h9; k_extra "mem"))))))))); (case sa => assumption); (case sb => assumption); (case sc => assumption)
    case V => exact ⟨_, _, _, 0, .value _, _, rfl, by k_extra "mem", ExpIn.mono (by with_reducible assumption) (fun p9 h9 => (List.mem_append.mp h9).elim (fun h9 => by k_extra "mem") (fun h9 => by cases h9)), ListW.mono (by with_reducible assumption) (by intro p9 h9; k_extra "mem"), .value (by with_reducible assumption)⟩
  · rename_i kF kN _ _; refine' BS.done (R := fun v tk h => Q v { s with heap := h, toks := tk }) hret kF kN ?S ?sa ?sb ?sc hne ?V; (case S => (repeat' (first | ((with_reducible show SplR _ _ _ _); first | exact SplR.nil | (refine' SplR.cons ?_ ?h1 ?h2; (case h1 => first | with_reducible assumption | exact ltm (by assumption) (by k_extra "mem")); (case h2 => first | with_reducible assumption | exact lts (by assumption) (fun p9 h9 => by k_extra "mem"))) | refine' SplR.drop ?_ | (refine' SplR.app ?_ ?h; (case h => first | with_reducible assumption | (refine' New.of ?p9 ?q9 ?r9; (case p9 => with_reducible assumption); (case q9 => k_extra "mem"); (case r9 => (intro p9 h9; k_extra "mem")))))) | ((with_reducible show Spl _ _ _ _ _); first | refine' Spl.base ?_ | (refine' Spl.cons ?_ ?h1 ?h2; (case h1 => first | with_reducible assumption | exact ltm (by assumption) (by k_extra "mem")); (case h2 => first | with_reducible assumption | exact lts (by assumption) (fun p9 h9 => by k_extra "mem"))) | refine' Spl.drop ?_ | (refine' Spl.app ?_ ?h; (case h => first | with_reducible assumption | (refine' New.of ?p9 ?q9 ?r9; (case p9 => with_reducible assumption); (case q9 => k_extra "mem"); (case r9 => (intro p9 h9; k_extra "mem"))))))))); (case sa => assumption); (case sb => assumption); (case sc => assumption)
    case V => exact ⟨_, _, _, 0, .module _, _, rfl, by k_extra "mem", ExpIn.mono (by with_reducible assumption) (fun p9 h9 => (List.mem_append.mp h9).elim (fun h9 => by k_extra "mem") (fun h9 => by cases h9)), ⟨_, [_, _], 0, rfl, by k_extra "mem", .cons (WordIn.mono (by with_reducible assumption) (by intro p9 h9; k_extra "mem")) (.cons (WordIn.mono (by with_reducible assumption) (by intro p9 h9; k_extra "mem")) .nil)⟩, .module (by with_reducible assumption)⟩
  · rename_i kF kN _ _; refine' BS.done (R := fun v tk h => Q v { s with heap := h, toks := tk }) hret kF kN ?S ?sa ?sb ?sc hne ?V; (case S => (repeat' (first | ((with_reducible show SplR _ _ _ _); first | exact SplR.nil | (refine' SplR.cons ?_ ?h1 ?h2; (case h1 => first | with_reducible assumption | exact ltm (by assumption) (by k_extra "mem")); (case h2 => first | with_reducible assumption | exact lts (by assumption) (fun p9 h9 => by k_extra "mem"))) | refine' SplR.drop ?_ | (refine' SplR.app ?_ ?h; (case h => first | with_reducible assumption | (refine' New.of ?p9 ?q9 ?r9; (case p9 => with_reducible assumption); (case q9 => k_extra "mem"); (case r9 => (intro p9 h9; k_extra "mem")))))) | ((with_reducible show Spl _ _ _ _ _); first | refine' Spl.base ?_ | (refine' Spl.cons ?_ ?h1 ?h2; (case h1 => first | with_reducible assumption | exact ltm (by assumption) (by k_extra "mem")); (case h2 => first | with_reducible assumption | exact lts (by assumption) (fun p9 h9 => by k_extra "mem"))) | refine' Spl.drop ?_ | (refine' Spl.app ?_ ?h; (case h => first | with_reducible assumption | (refine' New.of ?p9 ?q9 ?r9; (case p9 => with_reducible assumption); (case q9 => k_extra "mem"); (case r9 => (intro p9 h9; k_extra "mem"))))))))); (case sa => assumption); (case sb => assumption); (case sc => assumption)
    case V => exact ⟨_, _, _, 0, .type _ .no, _, rfl, by k_extra "mem", ExpIn.mono (by with_reducible assumption) (fun p9 h9 => (List.mem_append.mp h9).elim (fun h9 => by k_extra "mem") (fun h9 => by cases h9)), ⟨_, [_], 0, rfl, by k_extra "mem", .cons (WordIn.mono (by with_reducible assumption) (by intro p9 h9; k_extra "mem")) .nil⟩, .type (by with_reducible assumption)⟩
  · rename_i kF kN _ _; refine' BS.done (R := fun v tk h => Q v { s with heap := h, toks := tk }) hret kF kN ?S ?sa ?sb ?sc hne ?V; (case S => (repeat' (first | ((with_reducible show SplR _ _ _ _); first | exact SplR.nil | (refine' SplR.cons ?_ ?h1 ?h2; (case h1 => first | with_reducible assumption | exact ltm (by assumption) (by k_extra "mem")); (case h2 => first | with_reducible assumption | exact lts (by assumption) (fun p9 h9 => by k_extra "mem"))) | refine' SplR.drop ?_ | (refine' SplR.app ?_ ?h; (case h => first | with_reducible assumption | (refine' New.of ?p9 ?q9 ?r9; (case p9 => with_reducible assumption); (case q9 => k_extra "mem"); (case r9 => (intro p9 h9; k_extra "mem")))))) | ((with_reducible show Spl _ _ _ _ _); first | refine' Spl.base ?_ | (refine' Spl.cons ?_ ?h1 ?h2; (case h1 => first | with_reducible assumption | exact ltm (by assumption) (by k_extra "mem")); (case h2 => first | with_reducible assumption | exact lts (by assumption) (fun p9 h9 => by k_extra "mem"))) | refine' Spl.drop ?_ | (refine' Spl.app ?_ ?h; (case h => first | with_reducible assumption | (refine' New.of ?p9 ?q9 ?r9; (case p9 => with_reducible assumption); (case q9 => k_extra "mem"); (case r9 => (intro p9 h9; k_extra "mem"))))))))); (case sa => assumption); (case sb => assumption); (case sc => assumption)
    case V => exact ⟨_, _, _, 0, .type _ .all, _, rfl, by k_extra "mem", ExpIn.mono (by with_reducible assumption) (fun p9 h9 => (List.mem_append.mp h9).elim (fun h9 => by k_extra "mem") (fun h9 => by cases h9)), ⟨_, [_] ++ [_, _, _], 0, rfl, by k_extra "mem", .cons (WordIn.mono (by with_reducible assumption) (by intro p9 h9; k_extra "mem")) (.cons (WordIn.mono (by with_reducible assumption) (by intro p9 h9; k_extra "mem")) (.cons (WordIn.mono (by with_reducible assumption) (by intro p9 h9; k_extra "mem")) (.cons (WordIn.mono (by with_reducible assumption) (by intro p9 h9; k_extra "mem")) .nil)))⟩, .all (by with_reducible assumption)⟩
  · rename_i lv vs nn xs hm hK hA hP hz hl h5 F5 N5 g'
    unfold Stop
    refine comp_ind (PI w _ xs) ?_ ?_ _ 0 [] _ (Nat.zero_add _) PI.start
    · rintro i ys nw hi ⟨tl5, rfl, hO5, hL5⟩ v Ia oI C oC D m₂ h' tk' E' hP5 hC5 hx5 F6 N6 o6 ne6
      rw [List.getElem?_toArray] at hP5
      obtain ⟨x, hx, t, rfl⟩ := hA.getl hP5
      have hxp := hP x (List.mem_of_getElem? hx)
      k_steps
      rename_i v' tl6 h7 tk7 hV7 hO7 F7 N7
      exact comp_endP F7 N7 o6 hO7 hm hO5 hL5 hx hV7
    · rintro ys nw ⟨tl5, rfl, hO5, hL5⟩
      rw [List.take_of_length_le (by rw [List.size_toArray, hA.length]; exact Nat.le_refl _)] at hL5
      have hyl : ys.length ≤ 3 := by rw [hL5.length, List.length_map]; exact hz
      have hjn : (xs.map W.partT).length ≤ 20 := by rw [List.length_map]; omega
      have hjz : ∀ t ∈ xs.map W.partT, t.length ≤ 20 := fun t ht => by obtain ⟨x, _, rfl⟩ := List.mem_map.mp ht; exact part_small
      k_steps
      all_goals
        rename All2 (WordIn w _) _ (joinT _ _) => hV9
        rename_i kF kN _ _; refine' BS.done (R := fun v tk h => Q v { s with heap := h, toks := tk }) hret kF kN ?S ?sa ?sb ?sc hne ?V; (case S => (repeat' (first | ((with_reducible show SplR _ _ _ _); first | exact SplR.nil | (refine' SplR.cons ?_ ?h1 ?h2; (case h1 => first | with_reducible assumption | exact ltm (by assumption) (by k_extra "mem")); (case h2 => first | with_reducible assumption | exact lts (by assumption) (fun p9 h9 => by k_extra "mem"))) | refine' SplR.drop ?_ | (refine' SplR.app ?_ ?h; (case h => first | with_reducible assumption | (refine' New.of ?p9 ?q9 ?r9; (case p9 => with_reducible assumption); (case q9 => k_extra "mem"); (case r9 => (intro p9 h9; k_extra "mem")))))) | ((with_reducible show Spl _ _ _ _ _); first | refine' Spl.base ?_ | (refine' Spl.cons ?_ ?h1 ?h2; (case h1 => first | with_reducible assumption | exact ltm (by assumption) (by k_extra "mem")); (case h2 => first | with_reducible assumption | exact lts (by assumption) (fun p9 h9 => by k_extra "mem"))) | refine' Spl.drop ?_ | (refine' Spl.app ?_ ?h; (case h => first | with_reducible assumption | (refine' New.of ?p9 ?q9 ?r9; (case p9 => with_reducible assumption); (case q9 => k_extra "mem"); (case r9 => (intro p9 h9; k_extra "mem"))))))))); (case sa => assumption); (case sb => assumption); (case sc => assumption)
        case V =>
          exact ⟨_, _, _, 0, .type _ (.list xs), _, rfl, by k_extra "mem", ExpIn.mono (by with_reducible assumption) (fun p9 h9 => (List.mem_append.mp h9).elim (fun h9 => by k_extra "mem") (fun h9 => (List.mem_singleton.mp h9).symm ▸ hK.mem (by k_extra "mem") (by k_extra "mem") (by k_extra "mem"))),
            ⟨_, _, 0, rfl, by k_extra "mem", ((All2.append (.cons (WordIn.mono (by with_reducible assumption) (by intro p9 h9; k_extra "mem")) .nil) (.cons (WordIn.mono (by with_reducible assumption) (by intro p9 h9; k_extra "mem")) .nil)).append (hV9.imp fun _ _ h => h.mono fun p9 h9 => (List.mem_append.mp h9).elim (fun h9 => by k_extra "mem") (fun h9 => by k_extra "mem"))).append (.cons (WordIn.mono (by with_reducible assumption) (by intro p9 h9; k_extra "mem")) .nil)⟩, .list (by with_reducible assumption) hP hz⟩


theorem law_export_use {w : World} {src : Addr} {led led' : List (Addr × Obj)} {xa xb : Int} {ta tb : Tok} {n : Nat}
    {mean : ExcName → Option Value} {mg mb : Str → Option Value} {dp un : Nat} {gd : Option (List Code)} {cn : Str} {cs : Scope} {a : Addr} {ccd : Value} {outer : List Env} {A₀ : Around} {base h₀ : Heap} {L : Addr} {m : Str → Option Value} {s : Shared} {Q E : Value → Shared → Prop} (B : Below A₀ base outer h₀) (F : Fr h₀ L s.heap m) (X : (ax.heap_1_39 w.params).In h₀) (N : News h₀ L s.heap led) (T : Top ax.view_1_40 LS mean mg mb h₀) (hk : cs.kind = .function) (h1 : dp + 200 < recursionLimit) (h2 : un + 8 * 200 < cLine)
    (R : Rem src (srcO xa xb ta tb n) led led') (ha : 0 ≤ xa) (hb : 0 ≤ xb) (hb2 : xb < 2147483647)
    (ok : ∀ a na wa nn e ts xa' xb' ta' tb' n' tl h' tk', (a, tupO [.ref na, .ref wa] nn) ∈ tl → ExpIn w tl (.ref na) e → ListW w tl (.ref wa) ts → Laid e ts → 0 ≤ xa' → 0 ≤ xb' → xb' < 2147483647 → (∀ p ∈ tl ++ led', p.1 ≠ src) → Ord ((src, srcO xa xb ta tb n) :: led') tl → Fr h₀ L h' m → News h₀ L h' ((src, srcO xa' xb' ta' tb' n') :: (tl ++ led')) → Q (.ref a) { s with heap := h', toks := tk' }) :
    wpAny (model PG w) (atop dp un gd cn cs L a ccd outer) (call (.ref 461) [.ref src]) Q E s :=
  law_export.use B F X N T hk h1 h2 R ha hb hb2 trivial (fun v a' b' ta' tb' n' tl h' tk' i1 i2 i3 hne hO hV F' N' => by
    obtain ⟨a, vn, vw, nn, e, ts, rfl, hm, hE, hW, hL⟩ := hV
    obtain ⟨na, _, _, _, _, _, _, rfl, _⟩ := id hE
    obtain ⟨wa, _, _, rfl, _⟩ := id hW
    exact ok _ _ _ _ _ _ _ _ _ _ _ _ _ _ hm hE hW hL i1 i2 i3 hne hO F' N')
theorem wd_f_55 : True := by
  k_with "call ref" => (k_here; k_dflt (refine' law_export_use ?_ ?_ ?_ ?_ ?_ ?_ ?_ ?_ ?b0Z9 ?b1Z9 ?b2Z9 ?b3Z9 ?_; k_extra "hk cell_call"; (case b0Z9 => (repeat' ((with_reducible show Rem _ _ _ _); first | (refine' Rem.head ?hZ9; (case hZ9 => k_all)) | (refine' Rem.cons ?_ ?hZ9; (case hZ9 => k_ne)) | (refine' Rem.app ?_ ?hZ9; (case hZ9 => k_all))))); (case b1Z9 => assumption); (case b2Z9 => assumption); (case b3Z9 => assumption)); k_whole; intro _ _ _ _ _ _ _ _ _ _ _ _ _ _ _ _ _ _ _ _ _ _ _ _ _; (try k_sweep))
  trivial

theorem joinT_lenC {b : Bool} {c : Nat} : ∀ {tss : List (List W)}, (∀ t ∈ tss, t.length ≤ c) → (joinT b tss).length ≤ tss.length * (c + 1)
  | [], _ => Nat.zero_le _
  | [t], h => by
    have := h t (.head _)
    rw [joinT, List.length_append]
    cases b <;> simp <;> omega
  | t :: u :: r, h => by
    have h1 := h t (.head _)
    have h2 := joinT_lenC (b := b) (tss := u :: r) fun t ht => h t (.tail _ ht)
    rw [joinT, List.length_append, List.length_cons, List.length_cons, Nat.succ_mul]
    omega
theorem laid_len {e : Exp} {ts : List W} (h : Laid e ts) : ts.length ≤ 20 := by
  cases h with
  | @value x h => cases x <;> decide
  | @module x h => exact Nat.le_of_ble_eq_true rfl
  | @type x h => exact Nat.le_of_ble_eq_true rfl
  | @all x h => exact Nat.le_of_ble_eq_true rfl
  | @list x xs b h hx hz =>
    have h1 := joinT_lenC (b := b) (c := 3) (tss := xs.map W.partT) fun t ht => by obtain ⟨x, _, rfl⟩ := List.mem_map.mp ht; cases x <;> decide
    rw [List.length_map] at h1
    simp only [List.length_cons, List.length_append, List.length_nil]
    omega
theorem laid_small {e : Exp} {ts : List W} (h : Laid e ts) : e.subs.small := by
  cases h with
  | @value x h => trivial
  | @module x h => trivial
  | @type x h => trivial
  | @all x h => trivial
  | @list x xs b h hx hz => exact Nat.le_trans hz (Nat.le_of_ble_eq_true rfl)
theorem laids_len : ∀ {es : List Exp} {tss : List (List W)}, All2 Laid es tss → ∀ t ∈ tss, t.length ≤ 20
  | _, _, .nil, _, h => nomatch h
  | _, _, .cons h r, t, ht => (List.mem_cons.mp ht).elim (fun e => e ▸ laid_len h) (laids_len r t)
theorem laids_small : ∀ {es : List Exp} {tss : List (List W)}, All2 Laid es tss → ∀ e ∈ es, e.subs.small
  | _, _, .nil, _, h => nomatch h
  | _, _, .cons h r, t, ht => (List.mem_cons.mp ht).elim (fun e => e ▸ laid_small h) (laids_small r t)
def ExpsW (w : World) (news : List (Addr × Obj)) (v : Value) : Prop :=
  ∃ a l wa vs k n ws k2 es ts, v = .ref a ∧ (a, tupO [.ref l, .ref wa] n) ∈ news ∧ (l, listO vs k) ∈ news ∧ All2 (ExpIn w news) vs es ∧ (wa, listO ws k2) ∈ news ∧ All2 (WordIn w news) ws ts ∧ LaidL es ts ∧ es.length ≤ 3
theorem laidL_len {es : List Exp} {ts : List W} (h : LaidL es ts) (hn : es.length ≤ 3) : ts.length ≤ 70 := by
  obtain ⟨tss, b, hL, rfl⟩ := h
  have h1 := joinT_len (b := b) (laids_len hL)
  have h2 := hL.length
  simp only [List.length_cons, List.length_append, List.length_nil]
  omega
theorem laidL_small {es : List Exp} {ts : List W} (h : LaidL es ts) (hn : es.length ≤ 3) : Exps.small es := by
  obtain ⟨tss, b, hL, rfl⟩ := h
  exact ⟨Nat.le_trans hn (Nat.le_of_ble_eq_true rfl), laids_small hL⟩
abbrev tupD (ln ll : Addr) : Obj := { cls := .type "tuple", data := .seq #[.ref ln, .ref ll] }
def EI (w : World) (src : Addr) (rest : List (Addr × Obj)) (ln ll D It : Addr) (i : Nat) (m : Str → Option Value) (nw : List (Addr × Obj)) : Prop :=
  ∃ xa xb ta tb n vs k1 ls k2 tl es tss, nw = (src, srcO xa xb ta tb n) :: (D, tupD ln ll) :: (ll, listO ls k2) :: (ln, listO vs k1) :: (tl ++ rest) ∧ 0 ≤ xa ∧ 0 ≤ xb ∧ xb < 2147483647 ∧
    m (Str.ofString "source") = some (.ref src) ∧ m (Str.ofString "nodes") = some (.ref ln) ∧ m (Str.ofString "lots") = some (.ref ll) ∧ All2 (ExpIn w tl) vs es ∧ All2 (ListW w tl) ls tss ∧ All2 Laid es tss ∧ es.length = i ∧ New src rest tl ∧
    (∀ p ∈ tl ++ rest, @Ne Nat p.1 src ∧ @Ne Nat p.1 ln ∧ @Ne Nat p.1 ll ∧ @Ne Nat p.1 It)
theorem All2.snoc' {α β : Type} {R : α → β → Prop} {l : List α} {m : List β} {a : α} {b : β} (h : All2 R l m) (r : R a b) : All2 R (l ++ [a]) (m ++ [b]) := h.append (.cons r .nil)
theorem ei_step {w : World} {src : Addr} {rest tl tl5 : List (Addr × Obj)} {ln ll D It : Addr} {i : Nat} {xa xb : Int} {ta tb : Tok} {n k1 k2 tk : Nat} {vs ls : List Value} {es : List Exp} {tss : List (List W)} {e : Exp} {ts : List W} {na wa : Addr} {v1 v2 : Value} {o1 o2 o3 o4 o5 o6 it : Obj} {mm : Str → Option Value} {g1 h' : Heap} {L1 : Addr} {s₁ : Shared}
    (a0 : 0 ≤ xa) (b0 : 0 ≤ xb) (b9 : xb < 2147483647) (f1 : mm (Str.ofString "source") = some (.ref src)) (f2 : mm (Str.ofString "nodes") = some (.ref ln)) (f3 : mm (Str.ofString "lots") = some (.ref ll))
    (hV : All2 (ExpIn w tl) vs es) (hL : All2 (ListW w tl) ls tss) (hD : All2 Laid es tss) (hn : es.length = i) (hnew : New src rest tl) (hne : ∀ p ∈ tl ++ rest, @Ne Nat p.1 src ∧ @Ne Nat p.1 ln ∧ @Ne Nat p.1 ll ∧ @Ne Nat p.1 It)
    (l4 : ∀ p ∈ (src, o4) :: (D, tupD ln ll) :: (ll, o5) :: (ln, o6) :: rest, @LT.lt Nat _ p.1 It) (hO : Ord ((src, o1) :: (It, it) :: (D, tupD ln ll) :: (ll, o2) :: (ln, o3) :: (tl ++ rest)) tl5)
    (hE : ExpIn w tl5 (.ref na) e) (hW : ListW w tl5 (.ref wa) ts) (hLd : Laid e ts)
    (F : Fr g1 L1 h' (fun y => if y = Str.ofString "words" then some v1 else if y = Str.ofString "node" then some v2 else mm y))
    (N : News g1 L1 h' ((src, srcO xa xb ta tb n) :: (tl5 ++ (It, it) :: (D, tupD ln ll) :: (ll, listO (ls ++ [.ref wa]) k2) :: (ln, listO (vs ++ [.ref na]) k1) :: (tl ++ rest)))) :
    UnrEnd g1 L1 s₁ It it (EI w src rest ln ll D It (i + 1)) { s₁ with heap := h', toks := tk } :=
  have g5 : ∀ p ∈ tl5, @Ne Nat p.1 src ∧ @Ne Nat p.1 ln ∧ @Ne Nat p.1 ll ∧ @Ne Nat p.1 It := fun p hp => ⟨Nat.ne_of_gt (hO _ (.head _) p hp), Nat.ne_of_gt (hO _ (.tail _ (.tail _ (.tail _ (.tail _ (.head _))))) p hp), Nat.ne_of_gt (hO _ (.tail _ (.tail _ (.tail _ (.head _)))) p hp), Nat.ne_of_gt (hO _ (.tail _ (.head _)) p hp)⟩
  have gn : ∀ p ∈ (tl5 ++ tl) ++ rest, @Ne Nat p.1 src ∧ @Ne Nat p.1 ln ∧ @Ne Nat p.1 ll ∧ @Ne Nat p.1 It := fun p hp => by
    rw [List.append_assoc] at hp
    exact (List.mem_append.mp hp).elim (g5 p) (hne p)
  UnrEnd.intro F N ((src, srcO xa xb ta tb n) :: (D, tupD ln ll) :: (ll, listO (ls ++ [.ref wa]) k2) :: (ln, listO (vs ++ [.ref na]) k1) :: ((tl5 ++ tl) ++ rest)) (fun p hp => by
      simp only [List.mem_cons, List.mem_append] at hp ⊢; rcases hp with h | h | h | h | h | (h | h) | h <;> simp [h])
    (List.forall_mem_cons.mpr ⟨Nat.ne_of_lt (ltm l4 (.head _)), List.forall_mem_cons.mpr ⟨Nat.ne_of_lt (ltm l4 (.tail _ (.head _))), List.forall_mem_cons.mpr ⟨Nat.ne_of_lt (ltm l4 (.tail _ (.tail _ (.head _)))), List.forall_mem_cons.mpr ⟨Nat.ne_of_lt (ltm l4 (.tail _ (.tail _ (.tail _ (.head _))))), fun p hp => (gn p hp).2.2.2⟩⟩⟩⟩)
    ⟨xa, xb, ta, tb, n, vs ++ [.ref na], k1, ls ++ [.ref wa], k2, tl5 ++ tl, es ++ [e], tss ++ [ts], rfl, a0, b0, b9, (if_neg (by decide)).trans ((if_neg (by decide)).trans f1), (if_neg (by decide)).trans ((if_neg (by decide)).trans f2), (if_neg (by decide)).trans ((if_neg (by decide)).trans f3),
      (hV.imp fun _ _ h => h.mono fun p hp => List.mem_append_right _ hp).snoc' (hE.mono fun p hp => List.mem_append_left _ hp), (hL.imp fun _ _ h => h.mono fun p hp => List.mem_append_right _ hp).snoc' (hW.mono fun p hp => List.mem_append_left _ hp),
      hD.snoc' hLd, by rw [List.length_append, hn]; rfl, fun p hp => (List.mem_append.mp hp).elim (fun hp => ⟨hO _ (.head _) p hp, fun q hq => hO q (.tail _ (.tail _ (.tail _ (.tail _ (.tail _ (List.mem_append_right _ hq)))))) p hp⟩) (hnew p), gn⟩
theorem wd_f_56 : True := by
  k_with "call type:range" => (k_here; (with_reducible show wpAny _ _ (call (Value.type _) [_]) _ _ _); (with_unfolding_all refine range1_rows (by k_asm) (by k_asm) ?_; intro _ _ _ _ _ _ _ _ _))
  trivial

theorem law_exports {w : World} {src : Addr} {least : Int} {t : Tok} (hl0 : 0 ≤ least) (hl1 : least ≤ 1) : BS w 400 468 [.ref src, .int least t] src (fun _ => True) (ExpsW w) := by
  intro rest xa xb ta tb n ha hb hb2 hne _
  unfold CSpec; intro mean mg mb dp un gd cn cs a ccd outer A₀ base h₀ L m s Q E B F X N T hk hd' hu hret her; refine wpAny_call ?_; k_dflt ktr_enter
  k_steps
  rename_i g1 L1 h0 FG1 B1 X1 T1 tk0 ln h1 l1 ll h2 l2 D h3 l3 h4 h5 h6 kd td xa1 xb1 ta1 tb1 n1 h7 tk7 kd0 kd1 xa0 xb0 xb9 lF lN h8 tk8 u1 u2 u3 rg keep It l4
  unfold Stop
  refine range_ind (EI w src rest ln ll D It) ?_ ?_ _ 0 _ _ (Nat.zero_add _) ?hi
  case hi => exact ⟨xa1, xb1, ta1, tb1, n1, [], 0, [], 0, [], [], [], rfl, xa0, xb0, xb9, by exact rfl, by exact rfl, by exact rfl, .nil, .nil, .nil, rfl, (fun _ h => nomatch h), fun p hp => ⟨hne p hp, Nat.ne_of_lt (l1 p (.tail _ hp)), Nat.ne_of_lt (l2 p (.tail _ (.tail _ hp))), Nat.ne_of_lt (l4 p (.tail _ (.tail _ (.tail _ (.tail _ hp)))))⟩⟩
  · clear xa0 xb0 xb9 lF lN
    rintro i m' nw hi ⟨xa2, xb2, ta2, tb2, n2, vs, k1, ls, k2, tl, es, tss, rfl, a0, b0, b9, e1, e2, e3, hV, hL, hD, hlen, hnew, hne2⟩ t hp tk F2 N2
    change News g1 L1 hp _ at N2
    have hvl : vs.length ≤ 3 := by rw [hV.length]; omega
    have hll : ls.length ≤ 3 := by rw [hL.length, ← hD.length]; omega
    have q1 : ∀ p ∈ tl ++ rest, @Ne Nat p.1 src := fun p hp => (hne2 p hp).1
    have q2 : ∀ p ∈ tl ++ rest, @Ne Nat p.1 ln := fun p hp => (hne2 p hp).2.1
    have q3 : ∀ p ∈ tl ++ rest, @Ne Nat p.1 ll := fun p hp => (hne2 p hp).2.2.1
    obtain ⟨mm, f1, f2, f3, F3⟩ : ∃ mm : Str → Option Value, mm (Str.ofString "source") = some (.ref src) ∧ mm (Str.ofString "nodes") = some (.ref ln) ∧ mm (Str.ofString "lots") = some (.ref ll) ∧ Fr g1 L1 hp mm := ⟨_, (if_neg (by decide)).trans e1, (if_neg (by decide)).trans e2, (if_neg (by decide)).trans e3, F2⟩
    clear F2
    k_steps
    rename_i ea en ew nn e ts xa5 xb5 ta5 tb5 n5 tl5 h15 tk15 hm5 hE5 hW5 hL5 xa50 xb50 xb59 hne5 hO5 h14 h13 h12 tk14 h11 tk13 h10 F5 N5
    unfold Stop
    exact ei_step xa50 xb50 xb59 f1 f2 f3 hV hL hD hlen hnew hne2 l4 hO5 hE5 hW5 hL5 F5 N5
  · rintro m' nw ⟨xa2, xb2, ta2, tb2, n2, vs, k1, ls, k2, tl, es, tss, rfl, a0, b0, b9, e1, e2, e3, hV, hL, hD, hlen, hnew, hne2⟩ hp tk F2 N2
    change News g1 L1 hp _ at N2
    change Fr g1 L1 hp _ at F2
    have hll : ls.length ≤ 3 := by rw [hL.length, ← hD.length]; omega
    have hz := laids_len hD
    have hn : tss.length ≤ 20 := by rw [← hD.length]; omega
    have q1 : ∀ p ∈ tl ++ rest, @Ne Nat p.1 src := fun p hp => (hne2 p hp).1
    have hes : es.length ≤ 3 := by omega
    k_steps
    all_goals
      rename All2 (WordIn w _) _ (joinT _ _) => hV9
      rename_i kF kN _ _; refine' BS.done (R := fun v tk h => Q v { s with heap := h, toks := tk }) hret kF kN ?S ?sa ?sb ?sc hne ?V; (case S => (repeat' (first | ((with_reducible show SplR _ _ _ _); first | exact SplR.nil | (refine' SplR.cons ?_ ?h1 ?h2; (case h1 => first | with_reducible assumption | exact ltm (by assumption) (by k_extra "mem")); (case h2 => first | with_reducible assumption | exact lts (by assumption) (fun p9 h9 => by k_extra "mem"))) | refine' SplR.drop ?_ | (refine' SplR.app ?_ ?h; (case h => first | with_reducible assumption | (refine' New.of ?p9 ?q9 ?r9; (case p9 => with_reducible assumption); (case q9 => k_extra "mem"); (case r9 => (intro p9 h9; k_extra "mem")))))) | ((with_reducible show Spl _ _ _ _ _); first | refine' Spl.base ?_ | (refine' Spl.cons ?_ ?h1 ?h2; (case h1 => first | with_reducible assumption | exact ltm (by assumption) (by k_extra "mem")); (case h2 => first | with_reducible assumption | exact lts (by assumption) (fun p9 h9 => by k_extra "mem"))) | refine' Spl.drop ?_ | (refine' Spl.app ?_ ?h; (case h => first | with_reducible assumption | (refine' New.of ?p9 ?q9 ?r9; (case p9 => with_reducible assumption); (case q9 => k_extra "mem"); (case r9 => (intro p9 h9; k_extra "mem"))))))))); (case sa => assumption); (case sb => assumption); (case sc => assumption)
      case V =>
        exact ⟨_, _, _, vs, _, 0, _, _, es, _, rfl, by k_extra "mem", by k_extra "mem", hV.imp fun _ _ h => h.mono fun p9 h9 => by k_extra "mem", by k_extra "mem", ((All2.cons (WordIn.mono (by with_reducible assumption) (by intro p9 h9; k_extra "mem")) .nil).append (hV9.imp fun _ _ h => h.mono fun p9 h9 => (List.mem_append.mp h9).elim (fun h9 => by k_extra "mem") (fun h9 => by k_extra "mem"))).append (.cons (WordIn.mono (by with_reducible assumption) (by intro p9 h9; k_extra "mem")) .nil), ⟨tss, _, hD, rfl⟩, hes⟩


theorem law_exports_use {w : World} {src : Addr} {least : Int} {t : Tok} {led led' : List (Addr × Obj)} {xa xb : Int} {ta tb : Tok} {n : Nat}
    {mean : ExcName → Option Value} {mg mb : Str → Option Value} {dp un : Nat} {gd : Option (List Code)} {cn : Str} {cs : Scope} {a : Addr} {ccd : Value} {outer : List Env} {A₀ : Around} {base h₀ : Heap} {L : Addr} {m : Str → Option Value} {s : Shared} {Q E : Value → Shared → Prop} (B : Below A₀ base outer h₀) (F : Fr h₀ L s.heap m) (X : (ax.heap_1_39 w.params).In h₀) (N : News h₀ L s.heap led) (T : Top ax.view_1_40 LS mean mg mb h₀) (hk : cs.kind = .function) (h1 : dp + 400 < recursionLimit) (h2 : un + 8 * 400 < cLine) (hl0 : 0 ≤ least) (hl1 : least ≤ 1)
    (R : Rem src (srcO xa xb ta tb n) led led') (ha : 0 ≤ xa) (hb : 0 ≤ xb) (hb2 : xb < 2147483647)
    (ok : ∀ a l wa vs k nn ws k2 es ts xa' xb' ta' tb' n' tl h' tk', (a, tupO [.ref l, .ref wa] nn) ∈ tl → (l, listO vs k) ∈ tl → All2 (ExpIn w tl) vs es → (wa, listO ws k2) ∈ tl → All2 (WordIn w tl) ws ts → LaidL es ts → Exps.small es → ts.length ≤ 70 → ws.length ≤ 70 → vs.length ≤ 3 →
      0 ≤ xa' → 0 ≤ xb' → xb' < 2147483647 → (∀ p ∈ tl ++ led', p.1 ≠ src) → Ord ((src, srcO xa xb ta tb n) :: led') tl → Fr h₀ L h' m → News h₀ L h' ((src, srcO xa' xb' ta' tb' n') :: (tl ++ led')) → Q (.ref a) { s with heap := h', toks := tk' }) :
    wpAny (model PG w) (atop dp un gd cn cs L a ccd outer) (call (.ref 468) [.ref src, .int least t]) Q E s :=
  (law_exports hl0 hl1).use B F X N T hk h1 h2 R ha hb hb2 trivial (fun v a' b' ta' tb' n' tl h' tk' i1 i2 i3 hne hO hV F' N' => by
    obtain ⟨a, l, wa, vs, k, nn, ws, k2, es, ts, rfl, hm, hm2, hE, hm3, hW, hL, hz⟩ := hV
    have h70 := laidL_len hL hz
    exact ok _ _ _ _ _ _ _ _ _ _ _ _ _ _ _ _ _ _ hm hm2 hE hm3 hW hL (laidL_small hL hz) h70 (hW.length ▸ h70) (hE.length ▸ hz) i1 i2 i3 hne hO F' N')
theorem wd_f_57 : True := by
  k_with "call ref" => (k_here; k_dflt (refine' law_exports_use ?_ ?_ ?_ ?_ ?_ ?_ ?_ ?_ ?e0Z9 ?e1Z9 ?b0Z9 ?b1Z9 ?b2Z9 ?b3Z9 ?_; k_extra "hk cell_call"; (case e0Z9 => decide); (case e1Z9 => decide); (case b0Z9 => (repeat' ((with_reducible show Rem _ _ _ _); first | (refine' Rem.head ?hZ9; (case hZ9 => k_all)) | (refine' Rem.cons ?_ ?hZ9; (case hZ9 => k_ne)) | (refine' Rem.app ?_ ?hZ9; (case hZ9 => k_all))))); (case b1Z9 => assumption); (case b2Z9 => assumption); (case b3Z9 => assumption)); k_whole; intro _ _ _ _ _ _ _ _ _ _ _ _ _ _ _ _ _ _ _ _ _ _ _ _ _ _ _ _ _ _ _ _ _ _ _; (try k_sweep))
  trivial

theorem al_none : AliasV .none none := rfl
theorem al_some {y : W} {t : Tok} : AliasV (.str y.nm t) (some y) := ⟨_, rfl⟩
theorem mk_impN_use {w : World} {news : List (Addr × Obj)} {x : W} {hid far : Bool} {u : Tok} {av : Value} {al : Option W}
    {mean : ExcName → Option Value} {mg mb : Str → Option Value} {dp un : Nat} {gd : Option (List Code)} {cn : Str} {cs : Scope} {a : Addr} {ccd : Value} {outer : List Env} {A₀ : Around} {base h₀ : Heap} {L : Addr} {m : Str → Option Value} {s : Shared} {Q E : Value → Shared → Prop} (B : Below A₀ base outer h₀) (F : Fr h₀ L s.heap m) (X : (ax.heap_1_39 w.params).In h₀) (N : News h₀ L s.heap news) (T : Top ax.view_1_40 LS mean mg mb h₀) (hk : cs.kind = .function) (h1 : dp + 30 < recursionLimit) (h2 : un + 8 * 30 < cLine) (hal : AliasV av al)
    (ok : ∀ a d T n0 h' tk', (a, instObj 263 d) ∈ n0 → (d, impO w T .none (.str x.nm u) .none (.bool hid) (.bool far) av) ∈ n0 → ImpIn w n0 (.ref a) ⟨x, none, hid, far, al⟩ → Imp.small ⟨x, none, hid, far, al⟩ → Ord news n0 → Fr h₀ L h' m → News h₀ L h' (n0 ++ news) → Q (.ref a) { s with heap := h', toks := tk' }) :
    wpAny (model PG w) (atop dp un gd cn cs L a ccd outer) (call (.ref 263) [.str x.nm u, .none, .bool hid, .bool far, av]) Q E s :=
  mk_import5_use B F X N T hk h1 h2 (fun a d T h' tk' F' N' l1 l2 => ok a d T [_, _] h' tk' (.head _) (.tail _ (.head _)) ⟨a, d, T, _, _, _, _, rfl, .head _, .tail _ (.head _), rfl, hal⟩ trivial (Ord.cons' (lt_tr l1 l2) (Ord.cons' l1 Ord.nil)) F' N')
theorem mk_impS_use {w : World} {news n1 : List (Addr × Obj)} {x : W} {hid far : Bool} {u : Tok} {av : Value} {al : Option W} {l : Addr} {vs : List Value} {n : Nat} {es : List Exp}
    {mean : ExcName → Option Value} {mg mb : Str → Option Value} {dp un : Nat} {gd : Option (List Code)} {cn : Str} {cs : Scope} {a : Addr} {ccd : Value} {outer : List Env} {A₀ : Around} {base h₀ : Heap} {L : Addr} {m : Str → Option Value} {s : Shared} {Q E : Value → Shared → Prop} (B : Below A₀ base outer h₀) (F : Fr h₀ L s.heap m) (X : (ax.heap_1_39 w.params).In h₀) (N : News h₀ L s.heap news) (T : Top ax.view_1_40 LS mean mg mb h₀) (hk : cs.kind = .function) (h1 : dp + 30 < recursionLimit) (h2 : un + 8 * 30 < cLine) (hal : AliasV av al) (hm : (l, listO vs n) ∈ n1) (hV : All2 (ExpIn w n1) vs es) (hz : Exps.small es)
    (ok : ∀ a d T n0 h' tk', (a, instObj 263 d) ∈ n0 → (d, impO w T .none (.str x.nm u) (.ref l) (.bool hid) (.bool far) av) ∈ n0 → ImpIn w (n0 ++ n1) (.ref a) ⟨x, some es, hid, far, al⟩ → Imp.small ⟨x, some es, hid, far, al⟩ → Ord news n0 → Fr h₀ L h' m → News h₀ L h' (n0 ++ news) → Q (.ref a) { s with heap := h', toks := tk' }) :
    wpAny (model PG w) (atop dp un gd cn cs L a ccd outer) (call (.ref 263) [.str x.nm u, .ref l, .bool hid, .bool far, av]) Q E s :=
  mk_import5_use B F X N T hk h1 h2 (fun a d T h' tk' F' N' l1 l2 => ok a d T [_, _] h' tk' (.head _) (.tail _ (.head _)) ⟨a, d, T, _, _, _, _, rfl, .head _, .tail _ (.head _), ⟨l, vs, n, rfl, .tail _ (.tail _ hm), hV.imp fun _ _ h => h.mono fun p hp => .tail _ (.tail _ hp)⟩, hal⟩ hz (Ord.cons' (lt_tr l1 l2) (Ord.cons' l1 Ord.nil)) F' N')
theorem wd_f_58 : True := by
  k_with "call ref" => (k_here; k_dflt (refine' mk_impN_use ?_ ?_ ?_ ?_ ?_ ?_ ?_ ?_ ?e0Z9 ?_; k_extra "hk cell_call"; (case e0Z9 => first | exact al_none | exact al_some | assumption)); k_whole; intro _ _ _ _ _ _ _ _ _ _ _ _ _; (try k_sweep))
  k_with "call ref" => (k_here; k_dflt (refine' mk_impS_use ?_ ?_ ?_ ?_ ?_ ?_ ?_ ?_ ?e0Z9 ?e1Z9 ?e2Z9 ?e3Z9 ?_; k_extra "hk cell_call"; (case e0Z9 => first | exact al_none | exact al_some | assumption); (case e2Z9 => assumption); (case e1Z9 => assumption); (case e3Z9 => assumption)); k_whole; intro _ _ _ _ _ _ _ _ _ _ _ _ _; (try k_sweep))
  trivial

def ImpW (w : World) (news : List (Addr × Obj)) (v : Value) : Prop :=
  ∃ a vr wa n ws k p ts, v = .ref a ∧ (a, tupO [vr, .ref wa] n) ∈ news ∧ DatIn news vr p.dat ∧ (wa, listO ws k) ∈ news ∧ All2 (WordIn w news) ws ts ∧ LaidI p ts ∧ ws.length ≤ 80
def Nx (J : Shared → Prop) (f : Flow) (s : Shared) : Prop := f = .next ∧ J s
theorem st_join {M : Model} {A : Around} {E : Value → Shared → Prop} {s : Shared} {st : Stmt} {rest : List Stmt} {env : Env} {Q : Flow → Shared → Prop} (J : Shared → Prop) (h1 : wpAny M A (exec st env) (Nx J) E s) (h2 : ∀ s', J s' → wpAny M A (execs rest env) Q E s') : wpAny M A (execs (st :: rest) env) Q E s :=
  wpAny_execs_cons (wpAny_mono h1 (fun f s' j => by obtain ⟨rfl, j⟩ := j; exact h2 s' j) fun _ _ e => e)
/-- between two statements: the source, the list of words, new things, old things -/
def LI (w : World) (src : Addr) (rest : List (Addr × Obj)) (g1 : Heap) (L1 : Addr) (s : Shared) (mf : (Str → Option Value) → Addr → List (Addr × Obj) → Prop) (ts : List W) (z : Nat) (s' : Shared) : Prop :=
  ∃ xa xb ta tb n lw ws k tl h tk mm, s' = { s with heap := h, toks := tk } ∧ 0 ≤ xa ∧ 0 ≤ xb ∧ xb < 2147483647 ∧ @LT.lt Nat _ src lw ∧ (∀ q ∈ rest, @LT.lt Nat _ q.1 lw) ∧ New src rest tl ∧ (∀ p ∈ tl ++ rest, @Ne Nat p.1 src) ∧ (∀ p ∈ tl ++ rest, @Ne Nat p.1 lw) ∧ All2 (WordIn w tl) ws ts ∧ ws.length ≤ z ∧
    Fr g1 L1 h mm ∧ News g1 L1 h ((src, srcO xa xb ta tb n) :: (lw, listO ws k) :: (tl ++ rest)) ∧ mf mm lw tl
theorem LI.intro {w : World} {src lw : Addr} {rest l tl : List (Addr × Obj)} {g1 h : Heap} {L1 : Addr} {s : Shared} {mf : (Str → Option Value) → Addr → List (Addr × Obj) → Prop} {ts : List W} {z tk n k : Nat} {xa xb : Int} {ta tb : Tok} {ws : List Value} {mm : Str → Option Value}
    (F : Fr g1 L1 h mm) (N : News g1 L1 h l) (S : Spl src (srcO xa xb ta tb n) rest l tl) (hm : (lw, listO ws k) ∈ l) (ha : 0 ≤ xa) (hb : 0 ≤ xb) (hb2 : xb < 2147483647) (l1 : @LT.lt Nat _ src lw) (l2 : ∀ q ∈ rest, @LT.lt Nat _ q.1 lw) (off : ∀ p ∈ tl, @Ne Nat p.1 lw) (hne : ∀ p ∈ rest, p.1 ≠ src)
    (hW : All2 (WordIn w tl) ws ts) (hz : ws.length ≤ z) (hf : mf mm lw tl) : LI w src rest g1 L1 s mf ts z { s with heap := h, toks := tk } :=
  ⟨xa, xb, ta, tb, n, lw, ws, k, tl, h, tk, mm, rfl, ha, hb, hb2, l1, l2, S.new, S.new.ne hne, fun p hp => (List.mem_append.mp hp).elim (off p) fun hp => Nat.ne_of_lt (l2 p hp), hW, hz, F, fun p hp => N p (by
    rcases List.mem_cons.mp hp with e | hp
    · exact e ▸ S.mem
    · rcases List.mem_cons.mp hp with e | hp
      · exact e ▸ hm
      · exact S.sub p hp), hf⟩
theorem li_norm {src lw : Addr} {rest tl tl5 : List (Addr × Obj)} {g1 h : Heap} {L1 : Addr} {o o' o1 o2 : Obj} (N : News g1 L1 h (tl5 ++ (src, o) :: (lw, o') :: (tl ++ rest))) (hO : Ord ((src, o1) :: (lw, o2) :: (tl ++ rest)) tl5) (hnew : New src rest tl) (q1 : ∀ p ∈ tl ++ rest, @Ne Nat p.1 src) (q2 : ∀ p ∈ tl ++ rest, @Ne Nat p.1 lw) :
    News g1 L1 h ((src, o) :: (lw, o') :: ((tl5 ++ tl) ++ rest)) ∧ New src rest (tl5 ++ tl) ∧ (∀ p ∈ (tl5 ++ tl) ++ rest, @Ne Nat p.1 src) ∧ (∀ p ∈ (tl5 ++ tl) ++ rest, @Ne Nat p.1 lw) :=
  have g5 : ∀ p ∈ tl5, @Ne Nat p.1 src ∧ @Ne Nat p.1 lw := fun p hp => ⟨Nat.ne_of_gt (hO _ (.head _) p hp), Nat.ne_of_gt (hO _ (.tail _ (.head _)) p hp)⟩
  ⟨fun p hp => N p (by simp only [List.mem_cons, List.mem_append] at hp ⊢; rcases hp with h | h | (h | h) | h <;> simp [h]),
    fun p hp => (List.mem_append.mp hp).elim (fun hp => ⟨hO _ (.head _) p hp, fun q hq => hO q (.tail _ (.tail _ (List.mem_append_right _ hq))) p hp⟩) (hnew p),
    fun p hp => by rw [List.append_assoc] at hp; exact (List.mem_append.mp hp).elim (fun hp => (g5 p hp).1) (q1 p), fun p hp => by rw [List.append_assoc] at hp; exact (List.mem_append.mp hp).elim (fun hp => (g5 p hp).2) (q2 p)⟩
theorem LI.step {w : World} {src lw : Addr} {rest tl tl5 : List (Addr × Obj)} {g1 h : Heap} {L1 : Addr} {s : Shared} {mf : (Str → Option Value) → Addr → List (Addr × Obj) → Prop} {ts : List W} {z tk n k : Nat} {xa xb : Int} {ta tb : Tok} {ws : List Value} {mm : Str → Option Value} {o1 o2 : Obj}
    (F : Fr g1 L1 h mm) (N : News g1 L1 h (tl5 ++ (src, srcO xa xb ta tb n) :: (lw, listO ws k) :: (tl ++ rest))) (hO : Ord ((src, o1) :: (lw, o2) :: (tl ++ rest)) tl5) (ha : 0 ≤ xa) (hb : 0 ≤ xb) (hb2 : xb < 2147483647) (l1 : @LT.lt Nat _ src lw) (l2 : ∀ q ∈ rest, @LT.lt Nat _ q.1 lw) (hnew : New src rest tl) (q1 : ∀ p ∈ tl ++ rest, @Ne Nat p.1 src) (q2 : ∀ p ∈ tl ++ rest, @Ne Nat p.1 lw)
    (hW : All2 (WordIn w (tl5 ++ tl)) ws ts) (hz : ws.length ≤ z) (hf : mf mm lw (tl5 ++ tl)) : LI w src rest g1 L1 s mf ts z { s with heap := h, toks := tk } :=
  have q := li_norm N hO hnew q1 q2
  ⟨xa, xb, ta, tb, n, lw, ws, k, tl5 ++ tl, h, tk, mm, rfl, ha, hb, hb2, l1, l2, q.2.1, q.2.2.1, q.2.2.2, hW, hz, F, q.1, hf⟩
theorem LI.stay {w : World} {src lw : Addr} {rest tl : List (Addr × Obj)} {g1 h : Heap} {L1 : Addr} {s : Shared} {mf : (Str → Option Value) → Addr → List (Addr × Obj) → Prop} {ts : List W} {z tk n k : Nat} {xa xb : Int} {ta tb : Tok} {ws : List Value} {mm : Str → Option Value}
    (F : Fr g1 L1 h mm) (N : News g1 L1 h ((src, srcO xa xb ta tb n) :: (lw, listO ws k) :: (tl ++ rest))) (ha : 0 ≤ xa) (hb : 0 ≤ xb) (hb2 : xb < 2147483647) (l1 : @LT.lt Nat _ src lw) (l2 : ∀ q ∈ rest, @LT.lt Nat _ q.1 lw) (hnew : New src rest tl) (q1 : ∀ p ∈ tl ++ rest, @Ne Nat p.1 src) (q2 : ∀ p ∈ tl ++ rest, @Ne Nat p.1 lw)
    (hW : All2 (WordIn w tl) ws ts) (hz : ws.length ≤ z) (hf : mf mm lw tl) : LI w src rest g1 L1 s mf ts z { s with heap := h, toks := tk } :=
  ⟨xa, xb, ta, tb, n, lw, ws, k, tl, h, tk, mm, rfl, ha, hb, hb2, l1, l2, hnew, q1, q2, hW, hz, F, N, hf⟩
theorem New.app {src : Addr} {rest t u : List (Addr × Obj)} (h : New src rest t) (h' : New src rest u) : New src rest (t ++ u) := fun p hp => (List.mem_append.mp hp).elim (h p) (h' p)
theorem LI.grow {w : World} {src D : Addr} {o9 : Obj} {rest tl l led : List (Addr × Obj)} {g1 h : Heap} {L1 : Addr} {s : Shared} {mf : (Str → Option Value) → Addr → List (Addr × Obj) → Prop} {ts : List W} {z tk n k : Nat} {xa xb : Int} {ta tb : Tok} {ws : List Value} {mm : Str → Option Value}
    (F : Fr g1 L1 h mm) (N : News g1 L1 h l) (sub : ∀ p ∈ (src, srcO xa xb ta tb n) :: (D, listO ws k) :: (tl ++ rest), p ∈ l) (ha : 0 ≤ xa) (hb : 0 ≤ xb) (hb2 : xb < 2147483647) (lD : ∀ p ∈ led, @LT.lt Nat _ p.1 D) (s1 : (src, o9) ∈ led) (s2 : ∀ p ∈ tl ++ rest, p ∈ led) (hnew : New src rest tl) (hne : ∀ p ∈ rest, p.1 ≠ src)
    (hW : All2 (WordIn w tl) ws ts) (hz : ws.length ≤ z) (hf : mf mm D tl) : LI w src rest g1 L1 s mf ts z { s with heap := h, toks := tk } :=
  ⟨xa, xb, ta, tb, n, D, ws, k, tl, h, tk, mm, rfl, ha, hb, hb2, lD _ s1, fun q hq => lD q (s2 q (List.mem_append_right _ hq)), hnew, hnew.ne hne, fun p hp => Nat.ne_of_lt (lD p (s2 p hp)), hW, hz, F, fun p hp => N p (sub p hp), hf⟩
def NodesV (w : World) (tl : List (Addr × Obj)) (nv : Value) : Option (List Exp) → Prop
  | none => nv = .none
  | some es => ∃ l vs n, nv = .ref l ∧ (l, listO vs n) ∈ tl ∧ All2 (ExpIn w tl) vs es ∧ Exps.small es
theorem add_word {w : World} {tl5 tl : List (Addr × Obj)} {ws : List Value} {ts : List W} {v : Value} {x : W} (hW : All2 (WordIn w tl) ws ts) (hV : WordIn w tl5 v x) : All2 (WordIn w (tl5 ++ tl)) (ws ++ [v]) (ts ++ [x]) :=
  (hW.imp fun _ _ h => h.mono fun p hp => List.mem_append_right _ hp).snoc' (hV.mono fun p hp => List.mem_append_left _ hp)
theorem snoc_len {vs : List Value} {v : Value} {z : Nat} (h : vs.length ≤ z) : (vs ++ [v]).length ≤ z + 1 := by rw [List.length_append]; exact Nat.succ_le_succ h
/-- what the names hold -/
def MF (src : Addr) (x : W) (tx : Tok) (far hid : Bool) (av : Value) (mm : Str → Option Value) (lw : Addr) (_ : List (Addr × Obj)) : Prop :=
  mm (Str.ofString "source") = some (.ref src) ∧ mm (Str.ofString "full") = some (.str x.nm tx) ∧ mm (Str.ofString "words") = some (.ref lw) ∧ mm (Str.ofString "is_far") = some (.bool far) ∧ mm (Str.ofString "alias") = some av ∧ mm (Str.ofString "is_hiding") = some (.bool hid)
theorem imp_names {w : World} {src lw D en ew : Addr} {rest tl tl5 : List (Addr × Obj)} {g1 h : Heap} {L1 : Addr} {s : Shared} {x : W} {tx : Tok} {far hid : Bool} {av : Value} {ts ets : List W} {ees : List Exp} {n ek tk k : Nat} {xa xb : Int} {ta tb : Tok} {ws ews evs : List Value} {mm : Str → Option Value} {o1 o2 o3 o4 : Obj}
    (F : Fr g1 L1 h (fun y => if y = Str.ofString "words" then some (.ref D) else if y = Str.ofString "inside" then some (.ref ew) else if y = Str.ofString "nodes" then some (.ref en) else if y = Str.ofString "nodes" then some .none else mm y))
    (N : News g1 L1 h ((D, listO (ws ++ ews) k) :: (src, srcO xa xb ta tb n) :: (tl5 ++ (lw, o3) :: (tl ++ rest)))) (ha : 0 ≤ xa) (hb : 0 ≤ xb) (hb2 : xb < 2147483647) (lD : ∀ p ∈ (src, srcO xa xb ta tb n) :: (tl5 ++ (lw, o4) :: (tl ++ rest)), @LT.lt Nat _ p.1 D) (hO : Ord ((src, o1) :: (lw, o2) :: (tl ++ rest)) tl5)
    (hnew : New src rest tl) (hne : ∀ p ∈ rest, p.1 ≠ src) (hW : All2 (WordIn w tl) ws ts) (hz : ws.length ≤ 5) (m2 : (en, listO evs ek) ∈ tl5) (hE : All2 (ExpIn w tl5) evs ees) (hW5 : All2 (WordIn w tl5) ews ets) (hsm : Exps.small ees) (z2 : ews.length ≤ 70)
    (f : MF src x tx far hid av mm lw tl) : LI w src rest g1 L1 s (fun mm lw tl => MF src x tx far hid av mm lw tl ∧ ∃ nv, mm (Str.ofString "nodes") = some nv ∧ NodesV w tl nv (some ees)) (ts ++ ets) 75 { s with heap := h, toks := tk } := by
  obtain ⟨f1, f2, f3, f4, f5, f6⟩ := f
  have q : ∀ {y : Str}, y ≠ Str.ofString "words" → y ≠ Str.ofString "inside" → y ≠ Str.ofString "nodes" → (if y = Str.ofString "words" then some (Value.ref D) else if y = Str.ofString "inside" then some (Value.ref ew) else if y = Str.ofString "nodes" then some (Value.ref en) else if y = Str.ofString "nodes" then some Value.none else mm y) = mm y := fun a b c => (if_neg a).trans ((if_neg b).trans ((if_neg c).trans (if_neg c)))
  refine LI.grow (k := k) (ta := ta) (tb := tb) (n := n) (tl := tl5 ++ tl) F N ?sub ha hb hb2 lD (.head _) ?s2 ((New.of hO (.head _) fun p hp => .tail _ (.tail _ (List.mem_append_right _ hp))).app hnew) hne
    ((hW.imp fun _ _ h => h.mono fun p hp => List.mem_append_right _ hp).append (hW5.imp fun _ _ h => h.mono fun p hp => List.mem_append_left _ hp)) (by rw [List.length_append]; exact Nat.add_le_add hz z2)
    ⟨⟨(q (by decide) (by decide) (by decide)).trans f1, (q (by decide) (by decide) (by decide)).trans f2, if_pos rfl, (q (by decide) (by decide) (by decide)).trans f4, (q (by decide) (by decide) (by decide)).trans f5, (q (by decide) (by decide) (by decide)).trans f6⟩, .ref en, (if_neg (by decide)).trans ((if_neg (by decide)).trans (if_pos rfl)), en, evs, ek, rfl, List.mem_append_left _ m2, hE.imp fun _ _ h => h.mono fun p hp => List.mem_append_left _ hp, hsm⟩
  case sub => exact fun p hp => by simp only [List.mem_cons, List.mem_append] at hp ⊢; rcases hp with h | h | (h | h) | h <;> simp [h]
  case s2 => exact fun p hp => by simp only [List.mem_cons, List.mem_append] at hp ⊢; rcases hp with (h | h) | h <;> simp [h]
theorem imp_in0 {d lw : Addr × Obj} {tl n0 t : List (Addr × Obj)} {p : Addr × Obj} (h : p ∈ tl ++ n0) : p ∈ d :: (tl ++ (n0 ++ lw :: t)) := .tail _ ((List.mem_append.mp h).elim (fun h => List.mem_append_left _ h) fun h => List.mem_append_right _ (List.mem_append_left _ h))
theorem imp_in1 {d lw : Addr × Obj} {tl n0 t : List (Addr × Obj)} {p : Addr × Obj} (h : p ∈ tl ++ (n0 ++ t)) : p ∈ d :: (tl ++ (n0 ++ lw :: t)) := .tail _ ((List.mem_append.mp h).elim (fun h => List.mem_append_left _ h) fun h => List.mem_append_right _ ((List.mem_append.mp h).elim (fun h => List.mem_append_left _ h) fun h => List.mem_append_right _ (.tail _ h)))
theorem imp_sub {d lw sr : Addr × Obj} {tl n0 t rest : List (Addr × Obj)} (p : Addr × Obj) (hp : p ∈ sr :: ((d :: (tl ++ (n0 ++ lw :: t))) ++ rest)) : p ∈ d :: (tl ++ (n0 ++ sr :: lw :: (t ++ rest))) := by
  simp only [List.mem_cons, List.mem_append] at hp ⊢; rcases hp with h | (h | h | h | h | h) | h <;> simp [h]
theorem imp_done {w : World} {src lw D : Addr} {rest tl n0 t : List (Addr × Obj)} {xa xb xa' xb' : Int} {ta tb ta' tb' : Tok} {n n' k : Nat} {ws : List Value} {ts : List W} {p : Imp} {v : Value} {o1 o2 o3 o4 o5 o6 : Obj}
    (ha : 0 ≤ xa) (hb : 0 ≤ xb) (hb2 : xb < 2147483647) (lD : ∀ p ∈ tl ++ (n0 ++ (src, o5) :: (lw, o6) :: (t ++ rest)), @LT.lt Nat _ p.1 D) (l1 : @LT.lt Nat _ src lw) (l2 : ∀ q ∈ rest, @LT.lt Nat _ q.1 lw) (hnew : New src rest t) (hO : Ord ((src, o1) :: (lw, o2) :: (t ++ rest)) n0) (hO5 : Ord (n0 ++ (src, o3) :: (lw, o4) :: (t ++ rest)) tl) (hne : ∀ p ∈ rest, p.1 ≠ src)
    (hD : DatIn ((D, tupO [v, .ref lw] 0) :: (tl ++ (n0 ++ (lw, listO ws k) :: t))) v p.dat) (hW : All2 (WordIn w t) ws ts) (hz : ws.length ≤ 75) (hL : LaidI p ts) :
    ∃ a' b' ta'' tb'' n2 tl2, (src, srcO xa xb ta tb n) :: (((D, tupO [v, .ref lw] 0) :: (tl ++ (n0 ++ (lw, listO ws k) :: t))) ++ rest) = (src, srcO a' b' ta'' tb'' n2) :: (tl2 ++ rest) ∧ 0 ≤ a' ∧ 0 ≤ b' ∧ b' < 2147483647 ∧ (∀ p ∈ tl2 ++ rest, p.1 ≠ src) ∧ Ord ((src, srcO xa' xb' ta' tb' n') :: rest) tl2 ∧ ImpW w tl2 (.ref D) :=
  have hN : New src rest ((D, tupO [v, .ref lw] 0) :: (tl ++ (n0 ++ (lw, listO ws k) :: t))) := fun p hp => by
    rcases List.mem_cons.mp hp with rfl | hp
    · exact ⟨lD _ (List.mem_append_right _ (List.mem_append_right _ (.head _))), fun q hq => lD q (List.mem_append_right _ (List.mem_append_right _ (.tail _ (.tail _ (List.mem_append_right _ hq)))))⟩
    · rcases List.mem_append.mp hp with hp | hp
      · exact New.of hO5 (List.mem_append_right _ (.head _)) (fun p hp => List.mem_append_right _ (.tail _ (.tail _ (List.mem_append_right _ hp)))) p hp
      · rcases List.mem_append.mp hp with hp | hp
        · exact New.of hO (.head _) (fun p hp => .tail _ (.tail _ (List.mem_append_right _ hp))) p hp
        · rcases List.mem_cons.mp hp with rfl | hp
          · exact ⟨l1, l2⟩
          · exact hnew p hp
  ⟨xa, xb, ta, tb, n, _, rfl, ha, hb, hb2, hN.ne hne, hN.ord, D, v, lw, 0, ws, k, p, ts, rfl, .head _, hD, .tail _ (List.mem_append_right _ (List.mem_append_right _ (.head _))), hW.imp fun _ _ h => h.mono fun p hp => .tail _ (List.mem_append_right _ (List.mem_append_right _ (.tail _ hp))), hL, Nat.le_trans hz (by decide)⟩
theorem wd_f_59 : True := by
  k_with "execs cons" => (k_here; (with_reducible show wpAny _ _ (execs (Stmt.If (Expr.Name (Str.ofString "is_far") _) _ _ _ :: _) _) _ _ _); refine stop ?_)
  k_with "execs cons" => (k_here; (with_reducible show wpAny _ _ (execs (Stmt.If (Expr.Name (Str.ofString "is_hiding") _) _ _ _ :: _) _) _ _ _); refine stop ?_)
  k_with "execs cons" => (k_here; (with_reducible show wpAny _ _ (execs (Stmt.If (Expr.Compare (Expr.Name (Str.ofString "alias") _) _ _ _) _ _ _ :: _) _) _ _ _); refine stop ?_)
  k_with "execs cons" => (k_here; (with_reducible show wpAny _ _ (execs (Stmt.If (Expr.BoolOp BoolOp.Or (Expr.Name (Str.ofString "is_hiding") _ :: _) _) _ _ _ :: _) _) _ _ _); refine stop ?_)
  trivial

theorem law_import {w : World} {src : Addr} : BS w 500 475 [.ref src] src (fun _ => True) (ImpW w) := by
  intro rest xa xb ta tb n ha hb hb2 hne _
  unfold CSpec; intro mean mg mb dp un gd cn cs a ccd outer A₀ base h₀ L m s Q E B F X N T hk hd' hu hret her; refine wpAny_call ?_; k_dflt ktr_enter
  k_steps
  rename_i g1 L1 h0 FG1 B1 X1 T1 tk0 la h2 l1 xa3 xb3 ta3 tb3 n3 h3 tk3 a3 b3 b39 x tx hx lw h4 l2 D1 h5 l3 h6 h7 h8 kf tf xa4 xb4 ta4 tb4 n4 h9 tk9 kf0 kf1 a4 b4 b49 lb h10 l4 av xa5 xb5 ta5 tb5 n5 h11 tk11 a5 b5 b59 al hal hgr kh th xa6 xb6 ta6 tb6 n6 h12 tk12 kh0 kh1 a6 b6 b69 D2 h13 l5 h14 h15 h16 h17 F1 N1
  unfold Stop
  obtain ⟨far, hfar⟩ : ∃ b, b = (kf == 0) := ⟨_, rfl⟩
  obtain ⟨hid, hhid⟩ : ∃ b, b = (kh == 0) := ⟨_, rfl⟩
  rw [← hfar, ← hhid] at F1
  clear hfar hhid
  have h1lw : @LT.lt Nat _ src lw := ltm l2 (by k_extra "mem")
  have hrlw : ∀ q ∈ rest, @LT.lt Nat _ q.1 lw := lts l2 fun p9 h9 => by k_extra "mem"
  obtain ⟨mm, f1, f2, f3, f4, f5, f6, F2⟩ : ∃ mm : Str → Option Value, mm (Str.ofString "source") = some (.ref src) ∧ mm (Str.ofString "full") = some (.str x.nm tx) ∧ mm (Str.ofString "words") = some (.ref lw) ∧ mm (Str.ofString "is_far") = some (.bool far) ∧ mm (Str.ofString "alias") = some av ∧ mm (Str.ofString "is_hiding") = some (.bool hid) ∧ Fr g1 L1 h17 mm := ⟨_, by exact rfl, by exact rfl, by exact rfl, by exact rfl, by exact rfl, by exact rfl, F1⟩
  have N2 : News g1 L1 h17 ((src, srcO xa6 xb6 ta6 tb6 n6) :: (lw, listO [] 0) :: rest) := fun p hp => N1 p (by
    simp only [List.mem_cons] at hp ⊢; rcases hp with h | h | h <;> simp [h])
  clear F1 N1 l1 l2 l3 l4 l5 kf0 kf1 kh0 kh1 a3 b3 b39 a4 b4 b49 a5 b5 b59
  have q1 : ∀ p ∈ rest, @Ne Nat p.1 src := hne
  have q2 : ∀ p ∈ rest, @Ne Nat p.1 lw := lt_ne hrlw
  refine st_join (LI w src rest g1 L1 s (MF src x tx far hid av) (if far = true then [.vqual] else []) 1) ?_ ?_
  · k_steps
    · rename_i hc _ v tl5 _ _ hV hO _ F5 N5
      rw [if_pos hc]
      exact ⟨rfl, LI.step (tl := []) F5 N5 hO a6 b6 b69 h1lw hrlw (fun _ h => nomatch h) q1 q2 (add_word .nil hV) (Nat.le_refl _) ⟨f1, f2, f3, f4, f5, f6⟩⟩
    · rename_i hc
      rw [if_neg (Bool.eq_false_iff.mp hc)]
      exact ⟨rfl, LI.stay (tl := []) F2 N2 a6 b6 b69 h1lw hrlw (fun _ h => nomatch h) q1 q2 .nil (Nat.zero_le _) ⟨f1, f2, f3, f4, f5, f6⟩⟩
  · rintro s' ⟨xa7, xb7, ta7, tb7, n7, lw7, ws, k, tl, h, tk, mm7, rfl, a7, b7, b79, l7, l8, hnew, q7, q8, hW, hz, F7, N7, f1, f2, f3, f4, f5, f6⟩
    clear F2 N2 q1 q2 h1lw hrlw
    k_steps
    rename_i _ vg tl5 h8 tk8 hV hO h9 F8 N8
    unfold Stop
    obtain ⟨N9, hnew9, q79, q89⟩ := li_norm N8 hO hnew q7 q8
    have hW9 := add_word hW hV
    have hz9 := snoc_len (v := vg) hz
    clear N8 hW hV hO hnew q7 q8
    refine st_join (LI w src rest g1 L1 s (MF src x tx far hid av) (((if far = true then [.vqual] else []) ++ [x]) ++ alT al) 4) ?_ ?_
    · cases al with
      | none =>
        obtain rfl : av = .none := hal
        k_steps
        rw [alT, List.append_nil]
        exact ⟨rfl, LI.stay F8 N9 a7 b7 b79 l7 l8 hnew9 q79 q89 hW9 (Nat.le_trans hz9 (by decide)) ⟨f1, f2, f3, f4, f5, f6⟩⟩
      | some y =>
        obtain ⟨ty, rfl⟩ := hal
        have hgy := hgr y rfl
        k_steps
        rename_i v2 tla _ _ hVa hOa v3 tlg _ _ hVg hOg ld _ lld D _ lD _ F10 N10
        refine ⟨rfl, LI.grow (k := 0) (ta := ta7) (tb := tb7) (n := n7) (tl := tlg ++ (tla ++ (tl5 ++ tl))) F10 N10 ?sub a7 b7 b79 lD (o9 := srcO xa7 xb7 ta7 tb7 n7) (by k_extra "mem") ?s2
          ((New.of hOg (List.mem_append_right _ (.head _)) fun p hp => List.mem_append_right _ (.tail _ (.tail _ (List.mem_append_right _ hp)))).app ((New.of hOa (.head _) fun p hp => .tail _ (.tail _ (List.mem_append_right _ hp))).app hnew9)) hne
          ((hW9.imp fun _ _ h => h.mono fun p hp => List.mem_append_right _ (List.mem_append_right _ hp)).append (.cons (hVa.mono fun p hp => List.mem_append_right _ (List.mem_append_left _ hp)) (.cons (hVg.mono fun p hp => List.mem_append_left _ hp) .nil)))
          (by rw [List.length_append]; exact Nat.add_le_add hz9 (Nat.le_refl 2)) ⟨(if_neg (by decide)).trans f1, (if_neg (by decide)).trans f2, if_pos rfl, (if_neg (by decide)).trans f4, (if_neg (by decide)).trans f5, (if_neg (by decide)).trans f6⟩⟩
        case sub => exact fun p hp => by simp only [List.mem_cons, List.mem_append] at hp ⊢; rcases hp with h | h | (h | h | h | h) | h <;> simp [h]
        case s2 => exact fun p hp => by simp only [List.mem_cons, List.mem_append] at hp ⊢; rcases hp with (h | h | h | h) | h <;> simp [h]
    · rintro s' ⟨xa8, xb8, ta8, tb8, n8, lw8, ws8, k8, tl8, h8, tk8, mm8, rfl, a8, b8, b89, l9, l10, hnew8, q88, q89, hW8, hz8, F8, N8, f1, f2, f3, f4, f5, f6⟩
      k_steps
      unfold Stop
      refine st_join (LI w src rest g1 L1 s (MF src x tx far hid av) ((((if far = true then [.vqual] else []) ++ [x]) ++ alT al) ++ (if hid = true then [.vhid] else [])) 5) ?_ ?_
      · k_steps
        · rename hid = true => hc
          rename WordIn w _ _ _ => hV
          rename Ord _ _ => hO
          rename Fr _ _ _ _ => F5
          rename News _ _ _ _ => N5
          rw [if_pos hc]
          exact ⟨rfl, LI.step F5 N5 hO a8 b8 b89 l9 l10 hnew8 q88 q89 (add_word hW8 hV) (snoc_len hz8) ⟨f1, f2, f3, f4, f5, f6⟩⟩
        · rename hid = false => hc
          rw [if_neg (Bool.eq_false_iff.mp hc), List.append_nil]
          exact ⟨rfl, LI.stay F8 N8 a8 b8 b89 l9 l10 hnew8 q88 q89 hW8 (Nat.le_succ_of_le hz8) ⟨f1, f2, f3, f4, f5, f6⟩⟩
      · rintro s' ⟨xa9, xb9, ta9, tb9, n9, lw9, ws9, k9, tl9, h9, tk9, mm9, rfl, a9, b9, b99, l11, l12, hnew9, q98, q99, hW9, hz9, F9, N9, f1, f2, f3, f4, f5, f6⟩
        k_steps
        rename Fr _ _ _ _ => F10
        rename News _ _ _ _ => N10
        unfold Stop
        refine st_join (fun s' => ∃ names ns, namesT names ns ∧ (hid = true → names ≠ none) ∧ LI w src rest g1 L1 s (fun mm lw tl => MF src x tx far hid av mm lw tl ∧ ∃ nv, mm (Str.ofString "nodes") = some nv ∧ NodesV w tl nv names) (((((if far = true then [.vqual] else []) ++ [x]) ++ alT al) ++ (if hid = true then [.vhid] else [])) ++ ns) 75 s') ?_ ?_
        · k_steps
          · rename_i hc _ ea en ew evs ek nn ews ek2 ees ets xa2 xb2 ta2 tb2 n2 tl5 _ _ m1 m2 hE m3 hW5 hL hsm z1 z2 z3 xa20 xb20 xb29 hne5 hO _ _ _ D _ lD _ F5 N5
            exact ⟨rfl, some ees, ets, hL, (fun _ h => nomatch h), imp_names F5 N5 xa20 xb20 xb29 lD hO hnew9 hne hW9 hz9 m2 hE hW5 hsm z2 ⟨f1, f2, f3, f4, f5, f6⟩⟩
          · rename_i hc _ ea en ew evs ek nn ews ek2 ees ets xa2 xb2 ta2 tb2 n2 tl5 _ _ m1 m2 hE m3 hW5 hL hsm z1 z2 z3 xa20 xb20 xb29 hne5 hO _ _ _ D _ lD _ F5 N5
            exact ⟨rfl, some ees, ets, hL, (fun _ h => nomatch h), imp_names F5 N5 xa20 xb20 xb29 lD hO hnew9 hne hW9 hz9 m2 hE hW5 hsm z2 ⟨f1, f2, f3, f4, f5, f6⟩⟩
          · rename hid = false => hc
            rename Fr _ _ _ _ => F5
            rename News _ _ _ _ => N5
            exact ⟨rfl, none, [], rfl, (fun h => by rw [hc] at h; cases h), by rw [List.append_nil]; exact LI.stay F5 N5 (by assumption) (by assumption) (by assumption) l11 l12 hnew9 q98 q99 hW9 (Nat.le_trans hz9 (by decide)) ⟨⟨(if_neg (by decide)).trans f1, (if_neg (by decide)).trans f2, (if_neg (by decide)).trans f3, (if_neg (by decide)).trans f4, (if_neg (by decide)).trans f5, (if_neg (by decide)).trans f6⟩, .none, if_pos rfl, rfl⟩⟩
        · rintro s' ⟨names, ns, hns, hnn, xa10, xb10, ta10, tb10, n10, lw10, ws10, k10, tl10, h10, tk10, mm10, rfl, a10, b10, b109, l13, l14, hnew10, q108, q109, hW10, hz10, F11, N11, ⟨f1, f2, f3, f4, f5, f6⟩, nv, f7, hnv⟩
          cases names with
          | none =>
            obtain rfl : nv = .none := hnv
            k_steps
            rename_i a9 d9 T9 n0 _ _ m1 m2 hI hS hO v tl5 _ _ hO5 hD D _ F5 N5 lD kF kN _ _
            exact hret _ _ _ _ (imp_done (p := ⟨x, none, hid, far, al⟩) a10 b10 b109 lD l13 l14 hnew10 hO hO5 hne (hD.mono fun p hp => imp_in0 hp) hW10 hz10 ⟨hx, hgr, hnn, ns, hns, by simp only [List.append_assoc, List.cons_append, List.nil_append]⟩) kF fun p hp => kN p (imp_sub p hp)
          | some es =>
            obtain ⟨le, vse, ne, rfl, hme, hVe, hze⟩ := hnv
            k_steps
            rename_i a9 d9 T9 n0 _ _ m1 m2 hI hS hO v tl5 _ _ hO5 hD D _ F5 N5 lD kF kN _ _
            exact hret _ _ _ _ (imp_done (p := ⟨x, some es, hid, far, al⟩) a10 b10 b109 lD l13 l14 hnew10 hO hO5 hne (hD.mono fun p hp => imp_in1 hp) hW10 hz10 ⟨hx, hgr, hnn, ns, hns, by simp only [List.append_assoc, List.cons_append, List.nil_append]⟩) kF fun p hp => kN p (imp_sub p hp)


section
variable {prog : Program} {w : World} {A₀ : Around} {E : Value → Shared → Prop} {s' : Shared} {base g G : Heap} {outer : List Env} {L a e C : Addr} {m : Str → Option Value} {name : Str} {scope : Scope} {cd : Value}
  {b₀ : Stmt} {suite : List Stmt} {pos np : Pos} {rest : List ExceptHandler} {Q : Flow → Shared → Prop} {KF : Frag}
  {p : Program} {loose : List Str} {mean : ExcName → Option Value} {mg mb : Str → Option Value} {x : Str}
theorem caught_own (R : RaisedSN base G (envOf name scope L a cd :: outer) e (.ref C) [] s'.heap) (F : Fr g L G m) (K : Below A₀ base outer g) (hsm : G.UpToSlots s'.heap) (XB : KF.In base) (TB : Top p loose mean mg mb base)
    (ex : nsIn KF mainGlobals x = some (some (.ref C))) (q : ktsIn KF C "BaseException" = true)
    (k : ∀ h' g', KtsTurn (outer.filterMap (·.frame)) g g' → Fr g' L h' m → News g' L h' [] → Below A₀ base outer g' → KF.In g' → Top p loose mean mg mb g' →
      wpAny (model prog w) ((A₀.deeper (envOf name scope L a cd)).mark (some (.ref e))) (execs (b₀ :: suite) (envOf name scope L a cd)) Q E { s' with heap := h' })
    (hk : scope.kind = .function := by rfl) (hx : (envOf name scope L a cd).kindOf x = some .globalImplicit := by rfl) (hd : (x == ("__debug__" : Str)) = false := by decide)
    (hE : PassesOwnAt (model prog w) ((A₀.deeper (envOf name scope L a cd)).mark (some (.ref e))) (A₀.deeper (envOf name scope L a cd)) (envOf name scope L a cd) E := by passes_own) :
    wpAny (model prog w) (A₀.deeper (envOf name scope L a cd)) (noteFrame (.ref e) (envOf name scope L a cd))
      (fun _ s₂ => wpAny (model prog w) (A₀.deeper (envOf name scope L a cd)) (setFlight (.ref e) none) (fun _ s₃ =>
        wpAny (model prog w) (A₀.deeper (envOf name scope L a cd)) (handleBy (.ref e) (envOf name scope L a cd) (.ExceptHandler (some (.Name x np)) none (b₀ :: suite) pos :: rest)) Q E s₃) E s₂) E s' := by
  obtain ⟨B, a0, hB, hBG, hl, hfl⟩ := R
  refine wpAny_looks_onW (Around.frames_deeper K.stack) rfl hfl fun h₄ hheld₄ hsm₄ => ?_
  refine wpAny_landsW hheld₄ fun h₅ hheld hsm₅' => ?_
  have hsm₅ := hsm₄.trans hsm₅'
  obtain ⟨g₅, T₅, F₅, K₅⟩ := kts_ground K F hBG hheld.1 (hsm.trans hsm₅)
  have X₅ : KF.In g₅ := XB.keeps K₅.stays
  have P₅ : TopRead p loose mg mb g₅ := topRead_of (TB.keeps K₅.stays)
  obtain ⟨ob, hob, hobc⟩ := hheld.there
  obtain ⟨nm, q', N, bs, bm, hdct, sn, sub, ab, col, dd, k0, k1, k2, k3, k5, newId, hC, hbase, hbT⟩ := kts_cls X₅ q
  have hC₅ := F₅.keep _ _ hC
  refine wpAny_handleBy_cons (codeAny_handlers_test (name_K F₅ X₅ P₅ ex ?_ hk hx hd)) (by intro q; cases q)
  refine wpAny_excMatches_sub_self hC₅ hob hobc hbase (codeAny_handlers_suite ?_)
  refine lands_againW hheld fun h₆ hfl₆ hsm₆ => ?_
  obtain ⟨g₆, T₆, F₆, K₆⟩ := kts_ground K F hBG hfl₆.1 ((hsm.trans hsm₅).trans hsm₆)
  have X₆ : KF.In g₆ := XB.keeps K₆.stays
  have P₆ : Top p loose mean mg mb g₆ := TB.keeps K₆.stays
  exact wpAny_passesOwnAt hE (k h₆ g₆ T₆ F₆ News.nil K₆ X₆ P₆)
end
local macro_rules | `(tactic| walk_at "noteFrame ref") => `(tactic| (k_here; (rename RaisedSN _ _ _ _ _ _ _ => rsX); k_dflt (refine' caught_own ?R ?F ?K ?U ?XB ?TB ?ex ?q ?_; (case R => exact rsX); (case F => assumption); (case K => assumption); (case U => assumption); (case XB => assumption); (case TB => assumption); (case ex => k_is); (case q => kts_isx); k_whole); intro h' g' T' F' N' K' X' P'; (try k_lift K'); (try k_sweep)))

/-- the words that weigh are no fewer than the things -/
theorem cnt_le (l : List W) : cnt l ≤ l.length := by
  induction l with
  | nil => exact Nat.le_refl _
  | cons a l ih => rw [cnt_cons, List.length_cons]; split <;> omega
theorem wS_pos (x : W) : 1 ≤ wS x := by unfold wS; split <;> decide
theorem wL_len (l : List W) : l.length ≤ wL l := by
  induction l with
  | nil => exact Nat.le_refl _
  | cons a l ih => rw [wL, List.length_cons]; have := wS_pos a; omega
theorem wE_pos (e : Exp) : 1 ≤ wE e := by
  cases e with
  | value x => exact wS_pos x
  | module x => exact Nat.le_of_ble_eq_true rfl
  | type x s => rw [wE]; omega
theorem wEs_len (l : List Exp) : l.length ≤ wEs l := by
  induction l with
  | nil => exact Nat.le_refl _
  | cons a l ih => rw [wEs, List.length_cons]; have := wE_pos a; omega
theorem wEs_mem {l : List Exp} {e : Exp} (h : e ∈ l) : wE e ≤ wEs l := by
  induction l with
  | nil => cases h
  | cons a l ih =>
    rw [wEs]
    rcases List.mem_cons.mp h with rfl | h
    · omega
    · have := ih h; omega
theorem exps_small {es : List Exp} (h : wEs es ≤ 1000) : Exps.small es := by
  refine ⟨Nat.le_trans (wEs_len es) h, fun e he => ?_⟩
  have h1 := wEs_mem he
  cases e with
  | value x => trivial
  | module x => trivial
  | type x s =>
    cases s with
    | no => trivial
    | all => trivial
    | list xs =>
      show xs.length ≤ 1000
      rw [wE, wSubs] at h1
      have := wL_len xs
      omega
theorem pExps_small {rem r : List W} {es : List Exp} (h : pExps rem = some (some es, r)) (hz : rem.length ≤ 1000) : Exps.small es := by
  have h1 := (pExps_eats h).2
  have h2 := cnt_le rem
  rw [wN] at h1
  exact exps_small (by omega)
theorem pImp_small {rem r : List W} {p : Imp} (h : pImp rem = some (p, r)) (hz : rem.length ≤ 1000) : p.small := by
  have h1 := (pImp_eats h).2
  have h2 := cnt_le rem
  unfold Imp.small
  cases hn : p.names with
  | none => trivial
  | some es =>
    rw [wI, hn, wN] at h1
    exact exps_small (by omega)
theorem At.leq {toks rem : List W} {i : Int} (h : At toks i rem) : (rem.length : Int) = toks.length - i := by
  obtain ⟨i0, i1, rfl⟩ := h
  rw [List.length_drop]; omega
theorem ImpIn.mono {w : World} {tl tl' : List (Addr × Obj)} {v : Value} {p : Imp} (h : ImpIn w tl v p) (s : ∀ q ∈ tl, q ∈ tl') : ImpIn w tl' v p := by
  obtain ⟨a, d, T, pv, u1, nv, av, rfl, h1, h2, h3, h4⟩ := h
  refine ⟨a, d, T, pv, u1, nv, av, rfl, s _ h1, s _ h2, ?_, h4⟩
  cases hn : p.names with
  | none => rw [hn] at h3; exact h3
  | some es =>
    rw [hn] at h3
    obtain ⟨l, vs, n, e, hm, hV⟩ := h3
    exact ⟨l, vs, n, e, s _ hm, hV.imp fun _ _ h => h.mono s⟩
theorem read_import_use {w : World} {S : Cu} {toks : List W} {rest : List (Addr × Obj)} {lv : Value} {i : Int} {u : Tok} {rem : List W}
    {mean : ExcName → Option Value} {mg mb : Str → Option Value} {dp un : Nat} {gd : Option (List Code)} {cn : Str} {cs : Scope} {a : Addr} {ccd : Value} {outer : List Env} {A₀ : Around} {base h₀ : Heap} {L : Addr} {m : Str → Option Value} {s : Shared} {Q E : Value → Shared → Prop} (B : Below A₀ base outer h₀) (F : Fr h₀ L s.heap m) (X : (ax.heap_1_39 w.params).In h₀) (N : News h₀ L s.heap ((S.dc, dictC w S lv) :: (S.dr, dictR w S i u) :: rest)) (T : Top ax.view_1_40 LS mean mg mb h₀) (hk : cs.kind = .function) (h1 : dp + 500 < recursionLimit) (h2 : un + 8 * 500 < cLine)
    (C : CuIn w S rest toks) (hA : At toks i rem)
    (ok : ∀ a d T pv u1 nv av lv' i' u' tl p rem' h' tk', pImp rem = some (p, rem') → At toks i' rem' → CuIn w S (tl ++ rest) toks → Ord ((S.dc, dictC w S lv) :: (S.dr, dictR w S i u) :: rest) tl → (a, instObj 263 d) ∈ tl → (d, impO w T pv (.str p.mod.nm u1) nv (.bool p.hid) (.bool p.far) av) ∈ tl → ImpIn w ((S.dc, dictC w S lv') :: (S.dr, dictR w S i' u') :: (tl ++ rest)) (.ref a) p → p.small → Fr h₀ L h' m → News h₀ L h' ((S.dc, dictC w S lv') :: (S.dr, dictR w S i' u') :: (tl ++ rest)) → Q (.ref a) { s with heap := h', toks := tk' })
    (er : pImp rem = none → ∀ e h' tk' g₂, RaisedSN base g₂ (envOf cn cs L a ccd :: outer) e (.ref 52) [] h' → Fr h₀ L g₂ m → g₂.UpToSlots h' → E (.ref e) { s with heap := h', toks := tk' }) :
    wpAny (model PG w) (atop dp un gd cn cs L a ccd outer) (call (.ref 307) [.ref S.c]) Q E s :=
  RS.use (pre := []) read_import B F X N T hk h1 h2 C hA (List.forall_mem_nil _) (fun v lv' i' u' tl x rem' h' tk' e hA' C' hO hV F' N' => by
    have hV' := hV
    obtain ⟨a, d, T, pv, u1, nv, av, rfl, g1, g2, g3, g4⟩ := hV'
    exact ok _ _ _ _ _ _ _ _ _ _ _ _ _ _ _ e hA' C' hO g1 g2 (hV.mono fun q hq => .tail _ (.tail _ (List.mem_append_left _ hq))) (pImp_small e (by have := hA.len; have := C.sz; omega)) F' N') er
theorem read_exports_use2 {w : World} {S : Cu} {toks : List W} {pre rest : List (Addr × Obj)} {lv : Value} {i : Int} {u : Tok} {rem : List W}
    {mean : ExcName → Option Value} {mg mb : Str → Option Value} {dp un : Nat} {gd : Option (List Code)} {cn : Str} {cs : Scope} {a : Addr} {ccd : Value} {outer : List Env} {A₀ : Around} {base h₀ : Heap} {L : Addr} {m : Str → Option Value} {s : Shared} {Q E : Value → Shared → Prop} (B : Below A₀ base outer h₀) (F : Fr h₀ L s.heap m) (X : (ax.heap_1_39 w.params).In h₀) (N : News h₀ L s.heap (pre ++ ((S.dc, dictC w S lv) :: (S.dr, dictR w S i u) :: rest))) (T : Top ax.view_1_40 LS mean mg mb h₀) (hk : cs.kind = .function) (h1 : dp + 400 < recursionLimit) (h2 : un + 8 * 400 < cLine)
    (C : CuIn w S rest toks) (hA : At toks i rem) (hq : qLp (rem.headD .fin) = true) (hp : ∀ q ∈ pre, @Ne Nat q.1 S.dc ∧ @Ne Nat q.1 S.dr)
    (ok : ∀ l vs n lv' i' u' tl es rem' h' tk', pExps rem = some (some es, rem') → At toks i' rem' → CuIn w S (tl ++ rest) toks → Ord (pre ++ ((S.dc, dictC w S lv) :: (S.dr, dictR w S i u) :: rest)) tl → (l, listO vs n) ∈ tl → All2 (ExpIn w tl) vs es → Exps.small es → vs.length ≤ 1000 → Fr h₀ L h' m → News h₀ L h' (pre ++ (S.dc, dictC w S lv') :: (S.dr, dictR w S i' u') :: (tl ++ rest)) → Q (.ref l) { s with heap := h', toks := tk' })
    (er : pExps rem = none → ∀ e h' tk' g₂, RaisedSN base g₂ (envOf cn cs L a ccd :: outer) e (.ref 52) [] h' → Fr h₀ L g₂ m → g₂.UpToSlots h' → E (.ref e) { s with heap := h', toks := tk' }) :
    wpAny (model PG w) (atop dp un gd cn cs L a ccd outer) (call (.ref 300) [.ref S.c]) Q E s :=
  read_exports_use B F X N T hk h1 h2 C hA hp (fun lv' i' u' tl rem' h' tk' e => by
    exfalso
    unfold pExps at e
    rw [if_pos hq] at e
    split at e
    · cases e
    · split at e
      · cases e
      · cases e) (fun l vs n lv' i' u' tl es rem' h' tk' e hA' C' hO hm hV F' N' => by
    have hz := pExps_small e (by have := hA.len; have := C.sz; omega)
    exact ok _ _ _ _ _ _ _ _ _ _ _ e hA' C' hO hm hV hz (hV.length ▸ hz.1) F' N') er
theorem mk_row {w : World} {news : List (Addr × Obj)} {l ea : Addr} :
    CSpec w 30 352 [.ref l, .ref ea] news (fun v n' => ∃ a d t3 t4 t5 u, v = .ref a ∧ n' = (a, instObj 352 d) :: (d, dictOf [ent w "words" t3 (.ref l), ent w "end" t4 (.ref ea), ent w "at" t5 (.int 0 u)] 3) :: news ∧ (∀ p ∈ news, p.1 < d) ∧ @LT.lt Nat _ d a) False := by
  unfold CSpec; intro mean mg mb dp un gd cn cs a ccd outer A₀ base h₀ L m s Q E B F X N T hk hd' hu hret her
  k_dflt (refine' call_cls ?k1 ?k2 ?k3 ?k4 ?k5 ?k6 ?_; (case k1 => k_asm); (case k2 => k_asm); (case k3 => k_asm); (case k4 => k_is); (case k5 => k_is); (case k6 => k_is))
  intro x' d' h' F' N' l1 l2
  k_lt2 l2
  k_sweep
  k_dflt ktr_enter
  k_steps
  rename_i kF kN _ _
  exact hret _ _ _ _ ⟨x', d', _, _, _, _, rfl, rfl, l1, l2⟩ kF kN
theorem mk_cur {w : World} {news : List (Addr × Obj)} {r : Addr} :
    CSpec w 30 174 [.ref r] news (fun v n' => ∃ a d t1 t2, v = .ref a ∧ n' = (a, instObj 174 d) :: (d, dictOf [ent w "layout" t1 (.ref r), ent w "last" t2 .none] 2) :: news ∧ (∀ p ∈ news, p.1 < d) ∧ @LT.lt Nat _ d a) False := by
  unfold CSpec; intro mean mg mb dp un gd cn cs a ccd outer A₀ base h₀ L m s Q E B F X N T hk hd' hu hret her
  k_dflt (refine' call_cls ?k1 ?k2 ?k3 ?k4 ?k5 ?k6 ?_; (case k1 => k_asm); (case k2 => k_asm); (case k3 => k_asm); (case k4 => k_is); (case k5 => k_is); (case k6 => k_is))
  intro x' d' h' F' N' l1 l2
  k_lt2 l2
  k_sweep
  k_dflt ktr_enter
  k_steps
  rename_i kF kN _ _
  exact hret _ _ _ _ ⟨x', d', _, _, rfl, rfl, l1, l2⟩ kF kN
theorem mk_row_use {w : World} {news : List (Addr × Obj)} {l ea : Addr}
    {mean : ExcName → Option Value} {mg mb : Str → Option Value} {dp un : Nat} {gd : Option (List Code)} {cn : Str} {cs : Scope} {a : Addr} {ccd : Value} {outer : List Env} {A₀ : Around} {base h₀ : Heap} {L : Addr} {m : Str → Option Value} {s : Shared} {Q E : Value → Shared → Prop} (B : Below A₀ base outer h₀) (F : Fr h₀ L s.heap m) (X : (ax.heap_1_39 w.params).In h₀) (N : News h₀ L s.heap news) (T : Top ax.view_1_40 LS mean mg mb h₀) (hk : cs.kind = .function) (h1 : dp + 30 < recursionLimit) (h2 : un + 8 * 30 < cLine)
    (ok : ∀ a d t3 t4 t5 u h' tk', Fr h₀ L h' m → News h₀ L h' ((a, instObj 352 d) :: (d, dictOf [ent w "words" t3 (.ref l), ent w "end" t4 (.ref ea), ent w "at" t5 (.int 0 u)] 3) :: news) → (∀ p ∈ news, p.1 < d) → @LT.lt Nat _ d a → Q (.ref a) { s with heap := h', toks := tk' }) :
    wpAny (model PG w) (atop dp un gd cn cs L a ccd outer) (call (.ref 352) [.ref l, .ref ea]) Q E s :=
  mk_row.use B F X N T hk h1 h2 (fun v n' h' tk' o F' N' => by obtain ⟨a, d, t3, t4, t5, u, rfl, rfl, l1, l2⟩ := o; exact ok _ _ _ _ _ _ _ _ F' N' l1 l2) (fun h => h.elim)
theorem wd_f_60 : True := by
  k_with "call ref" => (k_here; k_dflt (refine' mk_row_use ?_ ?_ ?_ ?_ ?_ ?_ ?_ ?_ ?_; k_extra "hk cell_call"); k_whole; intro _ _ _ _ _ _ _ _ _ _ _ _; (try k_sweep))
  trivial

/-- a cursor over the words ts and a semicolon -/
theorem mk_cur_use {w : World} {rest n0 n1 n2 : List (Addr × Obj)} {r dr l ea sa : Addr} {t3 t4 t5 u : Tok} {vs : List Value} {n : Nat} {ts : List W}
    {mean : ExcName → Option Value} {mg mb : Str → Option Value} {dp un : Nat} {gd : Option (List Code)} {cn : Str} {cs : Scope} {a : Addr} {ccd : Value} {outer : List Env} {A₀ : Around} {base h₀ : Heap} {L : Addr} {m : Str → Option Value} {s : Shared} {Q E : Value → Shared → Prop} (B : Below A₀ base outer h₀) (F : Fr h₀ L s.heap m) (X : (ax.heap_1_39 w.params).In h₀) (N : News h₀ L s.heap ((r, instObj 352 dr) :: (dr, dictOf [ent w "words" t3 (.ref l), ent w "end" t4 (.ref ea), ent w "at" t5 (.int 0 u)] 3) :: rest)) (T : Top ax.view_1_40 LS mean mg mb h₀) (hk : cs.kind = .function) (h1 : dp + 30 < recursionLimit) (h2 : un + 8 * 30 < cLine)
    (lr : ∀ p ∈ rest, p.1 < dr) (lr2 : @LT.lt Nat _ dr r) (hW : All2 (WordIn w n0) vs ts) (hs : ∀ p ∈ n0, p ∈ rest) (hz : ts.length ≤ 200) (ml : (l, listO (vs ++ [.ref sa]) n) ∈ rest)
    (ms : WordIn w n1 (.ref sa) .semi) (ms2 : ∀ p ∈ n1, p ∈ rest) (me : WordIn w n2 (.ref ea) .fin) (me2 : ∀ p ∈ n2, p ∈ rest)
    (ok : ∀ S c u h' tk', S.r = r → S.dr = dr → S.c = c → CuIn w S ((c, instObj 174 S.dc) :: (r, instObj 352 dr) :: rest) (ts ++ [.semi]) → At (ts ++ [.semi]) 0 (ts ++ [.semi]) → (∀ p ∈ rest, p.1 < S.dr) → (∀ p ∈ rest, p.1 < S.r) → (∀ p ∈ rest, p.1 < S.dc) → (∀ p ∈ rest, p.1 < S.c) → Fr h₀ L h' m → News h₀ L h' ((S.dc, dictC w S .none) :: (S.dr, dictR w S 0 u) :: (c, instObj 174 S.dc) :: (r, instObj 352 dr) :: rest) → Q (.ref S.c) { s with heap := h', toks := tk' }) :
    wpAny (model PG w) (atop dp un gd cn cs L a ccd outer) (call (.ref 174) [.ref r]) Q E s :=
  mk_cur.use B F X N T hk h1 h2 (fun v n' h' tk' o F' N' => by
    obtain ⟨c, dc, t1, t2, rfl, rfl, l1, l2⟩ := o
    have w1 : WordIn w rest (.ref sa) .semi := ms.mono ms2
    have w2 : WordIn w rest (.ref ea) .fin := me.mono me2
    have a1 : @LT.lt Nat _ r dc := l1 _ (.head _)
    have a2 : @LT.lt Nat _ dr dc := l1 _ (.tail _ (.head _))
    have a3 : ∀ p ∈ rest, @LT.lt Nat _ p.1 dc := fun p hp => l1 p (.tail _ (.tail _ hp))
    refine ok ⟨c, dc, r, dr, l, n, vs ++ [.ref sa], ea, t1, t2, t3, t4, t5⟩ c u h' tk' rfl rfl rfl ?_ ⟨by decide, by simp; omega, rfl⟩ lr (lt_tr lr lr2) a3 (lt_tr a3 l2) F' ?_
    · refine ⟨.head _, .tail _ (.head _), .tail _ (.tail _ ml), ?_, w2.mono fun p hp => .tail _ (.tail _ hp), ?_, ?_, Nat.ne_of_gt a2, ?_⟩
      · exact (hW.imp fun _ _ h => h.mono fun p hp => .tail _ (.tail _ (hs p hp))).append (.cons (w1.mono fun p hp => .tail _ (.tail _ hp)) .nil)
      · exact List.forall_mem_cons.mpr ⟨Nat.ne_of_gt l2, List.forall_mem_cons.mpr ⟨Nat.ne_of_lt a1, fun p hp => Nat.ne_of_lt (a3 p hp)⟩⟩
      · exact List.forall_mem_cons.mpr ⟨Nat.ne_of_gt (Nat.lt_trans a2 l2), List.forall_mem_cons.mpr ⟨Nat.ne_of_gt lr2, fun p hp => Nat.ne_of_lt (lr p hp)⟩⟩
      · simp; omega
    · intro p hp
      refine N' p ?_
      simp only [List.mem_cons] at hp ⊢
      rcases hp with h | h | h | h | h <;> simp [h]) (fun h => h.elim)

theorem wd_f_61 : True := by
  k_with "call ref" => (k_here; k_dflt (refine' mk_cur_use ?_ ?_ ?_ ?_ ?_ ?_ ?_ ?_ ?l1Z9 ?l2Z9 ?b0Z9 ?b1Z9 ?b2Z9 ?m1Z9 ?m2Z9 ?m3Z9 ?m4Z9 ?m5Z9 ?_; k_extra "hk cell_call"; (case l1Z9 => assumption); (case l2Z9 => assumption); (case b0Z9 => assumption); (case b1Z9 => (intro _ _; k_extra "mem")); (case b2Z9 => assumption); (case m1Z9 => k_extra "mem"); (case m2Z9 => with_reducible assumption); (case m3Z9 => (intro _ _; k_extra "mem")); (case m4Z9 => with_reducible assumption); (case m5Z9 => (intro _ _; k_extra "mem"))); k_whole; intro _ _ _ _ _ e1' e2' e3' _ _ _ _ _ _ _ _; subst e1' e2' e3'; (try k_sweep))
  k_with "call ref" => (k_here; k_dflt (refine' read_import_use ?_ ?_ ?_ ?_ ?_ ?_ ?_ ?_ ?k9Z9 ?kAZ9 ?_ ?_; k_extra "hk cell_call"; (case k9Z9 => assumption); (case kAZ9 => assumption)); all_goals (k_whole; (first | intro _ _ _ _ _ _ _ _ _ _ _ _ _ _ _ _ _ _ _ _ _ _ _ _ _ | intro _ _ _ _ _ _ _ _); (try k_sweep)))
  k_with "call ref" => (k_here; k_dflt (refine' read_exports_use2 (pre := []) ?_ ?_ ?_ ?_ ?_ ?_ ?_ ?_ ?k9Z9 ?kAZ9 ?kQZ9 ?kBZ9 ?_ ?_; k_extra "hk cell_call"; (case k9Z9 => assumption); (case kAZ9 => assumption); (case kQZ9 => assumption); (case kBZ9 => exact List.forall_mem_nil _)); all_goals (k_whole; k_extra "hk kpt_turns"; (first | intro _ _ _ _ _ _ _ _ _ _ _ _ _ _ _ _ _ _ _ _ _ | intro _ _ _ _ _ _ _ _); k_extra "hk kst_p2"))
  trivial

/-- a call from the lowest frame -/
def CSpec0 (w : World) (cost : Nat) (fn : Addr) (args : List Value) (news : List (Addr × Obj)) (Ok : Value → List (Addr × Obj) → Prop) : Prop :=
  ∀ (mean : ExcName → Option Value) (mg mb : Str → Option Value) (dp un : Nat) (gd : Option (List Code)) (cn : Str) (cs : Scope) (a : Addr) (ccd : Value) (A₀ : Around) (base h₀ : Heap) (L : Addr) (m : Str → Option Value) (s : Shared)
    (Q E : Value → Shared → Prop),
    Below A₀ base [] h₀ → Fr h₀ L s.heap m → (ax.heap_1_39 w.params).In h₀ → News h₀ L s.heap news → Top ax.view_1_40 LS mean mg mb h₀ → (ax.heap_1_39 w.params).In base → Top ax.view_1_40 LS mean mg mb base → cs.kind = .function → dp + cost < recursionLimit → un + 8 * cost < cLine →
    (∀ v news' h' tk', Ok v news' → Fr h₀ L h' m → News h₀ L h' news' → Q v { s with heap := h', toks := tk' }) →
    wpAny (model PG w) (atop dp un gd cn cs L a ccd []) (call (.ref fn) args) Q E s
def rdI (ts : List W) : Option (Dat × Int) := (pImp (ts ++ [.semi])).map fun p => (p.1.dat, (p.2.length : Int) - 1)
def rdE (ts : List W) : Option (Dat × Int) := match pExps (ts ++ [.semi]) with
  | some (some es, r) => some (.tuple (es.map Exp.dat), (r.length : Int) - 1)
  | _ => none
def Apart (rest tl : List (Addr × Obj)) : Prop := ∀ q ∈ rest, ∀ p ∈ tl, @Ne Nat p.1 q.1
def RdOk (news : List (Addr × Obj)) (o : Option (Dat × Int)) (v : Value) (n' : List (Addr × Obj)) : Prop :=
  (∃ tl d k, n' = tl ++ news ∧ Apart news tl ∧ o = some (d, k) ∧ RdV n' v o) ∨ (o = none ∧ v = .none ∧ n' = [])
/-- the ledger l is new things tl upon rest -/
structure Spn (rest l tl : List (Addr × Obj)) : Prop where
  sub : ∀ p ∈ tl ++ rest, p ∈ l
  sup : ∀ p ∈ l, p ∈ tl ++ rest
  off : Apart rest tl
theorem Spn.nil {rest : List (Addr × Obj)} : Spn rest rest [] := ⟨fun _ h => h, fun _ h => h, fun _ _ _ h => nomatch h⟩
theorem Spn.cons0 {a : Addr} {oa : Obj} {rest l tl : List (Addr × Obj)} (r : Spn rest l tl) (h : ∀ q ∈ rest, @Ne Nat a q.1) : Spn rest ((a, oa) :: l) ((a, oa) :: tl) where
  sub := fun p hp => (List.mem_cons.mp hp).elim (fun h => h ▸ .head _) fun h => .tail _ (r.sub p h)
  sup := fun p hp => (List.mem_cons.mp hp).elim (fun h => h ▸ .head _) fun h => .tail _ (r.sup p h)
  off := fun q hq p hp => (List.mem_cons.mp hp).elim (fun e => e ▸ h q hq) fun hp => r.off q hq p hp
theorem Spn.cons {a : Addr} {oa : Obj} {rest l tl : List (Addr × Obj)} (r : Spn rest l tl) (h : ∀ q ∈ rest, @LT.lt Nat _ q.1 a) : Spn rest ((a, oa) :: l) ((a, oa) :: tl) := r.cons0 fun q hq => Nat.ne_of_gt (h q hq)
theorem Spn.cons1 {a : Addr} {oa : Obj} {rest l tl led : List (Addr × Obj)} (r : Spn rest l tl) (h : LCg.Off1 a led) (hs : ∀ q ∈ rest, q ∈ led) : Spn rest ((a, oa) :: l) ((a, oa) :: tl) := r.cons0 fun q hq => off1_all h q (hs q hq)
theorem Spn.app {rest l t tl : List (Addr × Obj)} (r : Spn rest l tl) (h : Ord rest t) : Spn rest (t ++ l) (t ++ tl) :=
  ⟨fun p hp => by rw [List.append_assoc] at hp; exact (List.mem_append.mp hp).elim (fun h => List.mem_append_left _ h) fun h => List.mem_append_right _ (r.sub p h),
   fun p hp => by rw [List.append_assoc]; exact (List.mem_append.mp hp).elim (fun h => List.mem_append_left _ h) fun h => List.mem_append_right _ (r.sup p h),
   fun q hq p hp => (List.mem_append.mp hp).elim (fun hp => Nat.ne_of_gt (h q hq p hp)) (r.off q hq p)⟩
theorem rd_done {news l tl : List (Addr × Obj)} {o : Option (Dat × Int)} {d : Dat} {k : Int} {D : Addr} {x : Value} {n : Nat} {t : Tok} {m : Str → Option Value} {h₀ h' : Heap} {L : Addr} {tk' : Nat} {R : Value → Nat → Heap → Prop}
    (hret : ∀ v n2 h' tk', RdOk news o v n2 → Fr h₀ L h' m → News h₀ L h' n2 → R v tk' h') (kF : Fr h₀ L h' m) (kN : News h₀ L h' l) (S : Spn news l tl) (he : o = some (d, k)) (hm : (D, tupO [x, .int k t] n) ∈ l) (hD : DatIn l x d) : R (.ref D) tk' h' :=
  hret _ _ h' tk' (.inl ⟨tl, d, k, rfl, S.off, he, by rw [he]; exact ⟨D, x, n, t, rfl, S.sup _ hm, hD.mono S.sup⟩⟩) kF fun p hp => kN p (S.sub p hp)
theorem law_read_imp {w : World} {news : List (Addr × Obj)} {l : Addr} {vs : List Value} {n : Nat} {ts : List W} (hm : (l, listO vs n) ∈ news) (hW : All2 (WordIn w news) vs ts) (hz : ts.length ≤ 200) :
    CSpec0 w 560 480 [.ref l, .bool true] news (RdOk news (rdI ts)) := by
  have hll := hW.length
  unfold CSpec0; intro mean mg mb dp un gd cn cs a ccd A₀ base h₀ L m s Q E B F X N T XB TB hk hd' hu hret; refine wpAny_call ?_; k_dflt (refine' code_defS0 ?k1 ?k2 ?k3 ?k4 ?k5 ?kA ?k6 ?k7 ?k8 ?k9 ?kB ?_ ?cK ?c2 ?c3 ?c4 ?c5; (case kA => exact rfl); (case k2 => k_asm); (case k1 => k_asm); (case k3 => k_asm); (case k4 => k_asm); (case k5 => k_asm); (case k6 => k_is); (case k7 => k_is); (case k8 => ktr_room); (case k9 => first | exact BindsTo.of_eq rfl | exact binds_K (by k_in) rfl (by k_is) rfl rfl rfl); (case kB => exact locs rfl); (case cK => first | exact rfl | assumption); (case c2 => exact rfl); (case c3 => exact rfl); (case c4 => exact rfl); (case c5 => decide); k_whole; intro g' L' h' FG' F' N' B' X' T' D'; (try dsimp only); (try k_lift B'); (try k_fold))
  k_steps
  · rename_i kF kN _ _
    rename pImp _ = some _ => he9
    rename At _ _ _ => hA9
    have hlen := hA9.leq
    simp only [List.length_append, List.length_cons, List.length_nil] at hlen
    rename DatIn _ _ _ => hD9
    (repeat ((with_reducible rename _ ∧ _ => hA9); cases hA9))
    refine' rd_done (R := fun v tk h => Q v { s with heap := h, toks := tk }) hret kF kN ?S ?e (.head _) (hD9.mono fun p hp => .tail _ ((List.mem_append.mp hp).elim (fun h => List.mem_append_left _ h) fun h => by first | exact List.mem_append_right _ h | k_extra "mem"))
    case S => (repeat' ((with_reducible show Spn _ _ _); first | exact Spn.nil | (refine' Spn.cons ?_ ?h; (case h => first | with_reducible assumption | exact lts (by assumption) (fun p9 h9 => by k_extra "mem") | assumption | (refine' lt_tr ?p9 ?q9; (case q9 => with_reducible assumption); (case p9 => assumption)))) | (refine' Spn.cons1 ?_ ?h ?hs; (case h => with_reducible assumption); (case hs => (intro p9 h9; k_extra "mem"))) | (refine' Spn.app ?_ ?h; (case h => first | with_reducible assumption | (refine' Ord.sub ?p9 ?q9; (case p9 => with_reducible assumption); (case q9 => (intro p9 h9; k_extra "mem")))))))
    case e =>
      unfold rdI
      rw [he9]
      show some (_, _) = some (_, _)
      congr 2
      dsimp only
      omega
  · rename_i kF kN _ _
    exact hret _ _ _ _ (.inr ⟨by unfold rdI; rw [‹pImp _ = none›]; rfl, rfl, rfl⟩) kF kN
def RI (led : List (Addr × Obj)) (es : List Exp) (i : Nat) (ys : List Value) (nw : List (Addr × Obj)) : Prop := ∃ tl, nw = tl ++ led ∧ Ord led tl ∧ DatAll (tl ++ led) ys ((es.take i).map Exp.dat)
theorem RI.start {led : List (Addr × Obj)} {es : List Exp} : RI led es 0 [] led := ⟨[], rfl, Ord.nil, .nil⟩
theorem law_read_exp {w : World} {news : List (Addr × Obj)} {l : Addr} {vs : List Value} {n : Nat} {ts : List W} (hm : (l, listO vs n) ∈ news) (hW : All2 (WordIn w news) vs ts) (hz : ts.length ≤ 200) (hq : qLp ((ts ++ [W.semi]).headD .fin) = true) :
    CSpec0 w 560 480 [.ref l, .bool false] news (RdOk news (rdE ts)) := by
  have hll := hW.length
  unfold CSpec0; intro mean mg mb dp un gd cn cs a ccd A₀ base h₀ L m s Q E B F X N T XB TB hk hd' hu hret; refine wpAny_call ?_; k_dflt (refine' code_defS0 ?k1 ?k2 ?k3 ?k4 ?k5 ?kA ?k6 ?k7 ?k8 ?k9 ?kB ?_ ?cK ?c2 ?c3 ?c4 ?c5; (case kA => exact rfl); (case k2 => k_asm); (case k1 => k_asm); (case k3 => k_asm); (case k4 => k_asm); (case k5 => k_asm); (case k6 => k_is); (case k7 => k_is); (case k8 => ktr_room); (case k9 => first | exact BindsTo.of_eq rfl | exact binds_K (by k_in) rfl (by k_is) rfl rfl rfl); (case kB => exact locs rfl); (case cK => first | exact rfl | assumption); (case c2 => exact rfl); (case c3 => exact rfl); (case c4 => exact rfl); (case c5 => decide); k_whole; intro g' L' h' FG' F' N' B' X' T' D'; (try dsimp only); (try k_lift B'); (try k_fold))
  k_steps
  · rename_i l5 vs5 n5 lv5 i5 u5 tl5 es5 rem5 h5 tk5 he5 hA5 C5 hO5 hm5 hV5 hsm5 hln5 F5 N5 g5
    have hlen := hA5.leq
    simp only [List.length_append, List.length_cons, List.length_nil] at hlen
    unfold Stop
    refine comp_ind (RI _ es5) ?_ ?_ _ 0 [] _ (Nat.zero_add _) RI.start
    · rintro i ys nw hi ⟨tl, rfl, hO, hD⟩ v Ia oI C oC D m₂ h' tk' E' hP hC hx F' N' o' ne'
      obtain ⟨e, he, hE, hes⟩ := Exps.at hV5 hsm5 hP
      obtain ⟨a1, d1, T1, pv, u1, u2, sv, rfl, m1, m2, m3⟩ := id hE
      k_steps
      rename_i v' tl2 h2 tk2 hO2 hD2 F2 N2
      exact comp_end F2 N2 o' hO2 (by k_extra "mem") hO hD he (hD2.mono fun p hp => (List.mem_append.mp hp).elim (fun h => List.mem_append_left _ h) (fun h => List.mem_append_right _ (by k_extra "mem")))
    · rintro ys nw ⟨tl, rfl, hO, hD⟩
      have hyl : ys.length ≤ 1000 := by
        rw [hD.length, List.length_map, List.length_take]; exact Nat.le_trans (Nat.min_le_right _ _) hsm5.1
      rw [List.take_of_length_le (by rw [List.size_toArray, hV5.length]; exact Nat.le_refl _)] at hD
      k_steps
      rename_i kF kN _ _
      (repeat ((with_reducible rename _ ∧ _ => hA9); cases hA9))
      refine' rd_done (R := fun v tk h => Q v { s with heap := h, toks := tk }) hret kF kN ?S ?e (.head _) (.tuple (by k_extra "mem") (hD.mono ?m))
      case S => (repeat' ((with_reducible show Spn _ _ _); first | exact Spn.nil | (refine' Spn.cons ?_ ?h; (case h => first | with_reducible assumption | exact lts (by assumption) (fun p9 h9 => by k_extra "mem") | assumption | (refine' lt_tr ?p9 ?q9; (case q9 => with_reducible assumption); (case p9 => assumption)))) | (refine' Spn.cons1 ?_ ?h ?hs; (case h => with_reducible assumption); (case hs => (intro p9 h9; k_extra "mem"))) | (refine' Spn.app ?_ ?h; (case h => first | with_reducible assumption | (refine' Ord.sub ?p9 ?q9; (case p9 => with_reducible assumption); (case q9 => (intro p9 h9; k_extra "mem")))))))
      case m =>
        intro p9 h9
        k_extra "mem"
      case e =>
        unfold rdE
        rw [he5]
        show some (_, _) = some (_, _)
        congr 2
        omega
  · rename_i kF kN _ _
    exact hret _ _ _ _ (.inr ⟨by unfold rdE; rw [‹pExps _ = none›], rfl, rfl⟩) kF kN


theorem ite01 {b : Bool} : (0 : Int) ≤ if b = true then 1 else 0 := by cases b <;> decide
/-- the pool: two ints in a list -/
theorem law_pool {w : World} {l : Addr} {vs : List Value} {ns : List Int} {t : Tok} (hI : IntsAre vs ns)
    {mean : ExcName → Option Value} {mg mb : Str → Option Value} {dp un : Nat} {gd : Option (List Code)} {cn : Str} {cs : Scope} {a : Addr} {ccd : Value} {outer : List Env} {A₀ : Around} {base h₀ : Heap} {L : Addr} {m : Str → Option Value} {s : Shared} {Q E : Value → Shared → Prop} (B : Below A₀ base outer h₀) (F : Fr h₀ L s.heap m) (X : (ax.heap_1_39 w.params).In h₀) (N : News h₀ L s.heap []) (T : Top ax.view_1_40 LS mean mg mb h₀) (hk : cs.kind = .function) (h1 : dp + 20 < recursionLimit) (h2 : un + 8 * 20 < cLine) (hL : base.IsList l vs.toArray) (hz : ¬ 63 < ns.length)
    (ok : ∀ src a b ta tb n h' tk', 0 ≤ a → 0 ≤ b → b < 2147483647 → Fr h₀ L h' m → News h₀ L h' [(src, srcO a b ta tb n)] → Q (.ref src) { s with heap := h', toks := tk' }) :
    wpAny (model PG w) (atop dp un gd cn cs L a ccd outer) (call (.ref 399) [.ref l, .int 0 t]) Q E s := by
  have hd' := h1
  have hu := h2
  refine wpAny_call ?_
  k_dflt ktr_enter
  k_steps
  all_goals
    rename_i kF kN _ _
    exact ok _ _ _ _ _ _ _ _ (Int.mul_nonneg (by split <;> omega) ite01) (Int.fmod_nonneg_of_pos _ (by decide)) (Int.fmod_lt_of_pos _ (by decide)) kF kN
theorem wd_f_62 : True := by
  k_with "call ref" => (k_here; k_dflt (refine' law_pool ?hIZ9 ?_ ?_ ?_ ?_ ?_ ?_ ?_ ?_ ?b0Z9 ?b1Z9 ?_; k_extra "hk cell_call"; (case b0Z9 => assumption); (case hIZ9 => assumption); (case b1Z9 => omega)); k_whole; intro _ _ _ _ _ _ _ _ _ _ _ _ _; (try k_sweep))
  trivial

theorem law_import_use {w : World} {src : Addr} {led led' : List (Addr × Obj)} {xa xb : Int} {ta tb : Tok} {n : Nat}
    {mean : ExcName → Option Value} {mg mb : Str → Option Value} {dp un : Nat} {gd : Option (List Code)} {cn : Str} {cs : Scope} {a : Addr} {ccd : Value} {outer : List Env} {A₀ : Around} {base h₀ : Heap} {L : Addr} {m : Str → Option Value} {s : Shared} {Q E : Value → Shared → Prop} (B : Below A₀ base outer h₀) (F : Fr h₀ L s.heap m) (X : (ax.heap_1_39 w.params).In h₀) (N : News h₀ L s.heap led) (T : Top ax.view_1_40 LS mean mg mb h₀) (hk : cs.kind = .function) (h1 : dp + 500 < recursionLimit) (h2 : un + 8 * 500 < cLine)
    (R : Rem src (srcO xa xb ta tb n) led led') (ha : 0 ≤ xa) (hb : 0 ≤ xb) (hb2 : xb < 2147483647)
    (ok : ∀ a vr wa nn ws k p ts xa' xb' ta' tb' n' tl h' tk', (a, tupO [vr, .ref wa] nn) ∈ tl → DatIn tl vr p.dat → (wa, listO ws k) ∈ tl → All2 (WordIn w tl) ws ts → LaidI p ts → ws.length ≤ 80 → 0 < ws.length →
      0 ≤ xa' → 0 ≤ xb' → xb' < 2147483647 → (∀ p ∈ tl ++ led', p.1 ≠ src) → Fr h₀ L h' m → News h₀ L h' ((src, srcO xa' xb' ta' tb' n') :: (tl ++ led')) → Q (.ref a) { s with heap := h', toks := tk' }) :
    wpAny (model PG w) (atop dp un gd cn cs L a ccd outer) (call (.ref 475) [.ref src]) Q E s :=
  law_import.use B F X N T hk h1 h2 R ha hb hb2 trivial (fun v a' b' ta' tb' n' tl h' tk' i1 i2 i3 hne hO hV F' N' => by
    obtain ⟨a, vr, wa, nn, ws, k, p, ts, rfl, hm, hD, hm3, hW, hL, hz⟩ := hV
    exact ok _ _ _ _ _ _ _ _ _ _ _ _ _ _ _ _ hm hD hm3 hW hL hz (by
      obtain ⟨_, _, _, ns, _, e⟩ := hL
      rw [hW.length, e, List.length_append, List.length_cons]; omega) i1 i2 i3 hne F' N')
theorem wd_f_63 : True := by
  k_with "call ref" => (k_here; k_dflt (refine' law_import_use ?_ ?_ ?_ ?_ ?_ ?_ ?_ ?_ ?b0Z9 ?b1Z9 ?b2Z9 ?b3Z9 ?_; k_extra "hk cell_call"; (case b0Z9 => (repeat' ((with_reducible show Rem _ _ _ _); first | (refine' Rem.head ?hZ9; (case hZ9 => k_all)) | (refine' Rem.cons ?_ ?hZ9; (case hZ9 => k_ne)) | (refine' Rem.app ?_ ?hZ9; (case hZ9 => k_all))))); (case b1Z9 => assumption); (case b2Z9 => assumption); (case b3Z9 => assumption)); k_whole; intro _ _ _ _ _ _ _ _ _ _ _ _ _ _ _ _ _ _ _ _ _ _ _ _ _ _ _ _ _; (try k_sweep))
  trivial

theorem rdI_laid {p : Imp} {ts : List W} (h : LaidI p ts) : rdI ts = some (p.dat, 0) := by unfold rdI; rw [pImp_laid h]; rfl
theorem rdE_laid {es : List Exp} {ts : List W} (h : LaidL es ts) : rdE ts = some (.tuple (es.map Exp.dat), 0) := by unfold rdE; rw [pExps_laid h]; rfl
theorem apart_ne {d : Addr} {o : Obj} {A tl : List (Addr × Obj)} (h : Apart A tl) (hm : (d, o) ∈ A) : ∀ p ∈ tl, p.1 ≠ d := fun p hp => h _ hm p hp
theorem wd_f_64 : True := by
  k_with "hk k_all" => (exact apart_ne (by assumption) (by k_extra "mem"))
  trivial

theorem read1 {w : World} {news : List (Addr × Obj)} {fn : Addr} {args : List Value} {o : Option (Dat × Int)} {due : Dat}
    {mean : ExcName → Option Value} {mg mb : Str → Option Value} {dp un : Nat} {gd : Option (List Code)} {cn : Str} {cs : Scope} {a : Addr} {ccd : Value} {A₀ : Around} {base h₀ : Heap} {L : Addr} {m : Str → Option Value} {s : Shared} {Q E : Value → Shared → Prop}
    (H : CSpec0 w 560 fn args news (RdOk news o)) (ho : o = some (due, 0))
    (B : Below A₀ base [] h₀) (F : Fr h₀ L s.heap m) (X : (ax.heap_1_39 w.params).In h₀) (N : News h₀ L s.heap news) (T : Top ax.view_1_40 LS mean mg mb h₀) (XB : (ax.heap_1_39 w.params).In base) (TB : Top ax.view_1_40 LS mean mg mb base) (hk : cs.kind = .function) (h1 : dp + 560 < recursionLimit) (h2 : un + 8 * 560 < cLine)
    (ok : ∀ a x k t tl h' tk', (a, tupO [x, .int 0 t] k) ∈ tl ++ news → DatIn (tl ++ news) x due → Apart news tl → Fr h₀ L h' m → News h₀ L h' (tl ++ news) → Q (.ref a) { s with heap := h', toks := tk' }) :
    wpAny (model PG w) (atop dp un gd cn cs L a ccd []) (call (.ref fn) args) Q E s :=
  H _ _ _ _ _ _ _ _ _ _ _ _ _ _ _ _ _ _ B F X N T XB TB hk h1 h2 (fun v n' h' tk' r F' N' => by
    subst ho
    rcases r with ⟨tl, d, j, rfl, hA, e, hR⟩ | ⟨e, _, _⟩
    · obtain ⟨a, x, n, t, rfl, hm', hx⟩ := hR
      exact ok _ _ _ _ _ _ _ hm' hx hA F' N'
    · cases e)
theorem read2 {w : World} {news : List (Addr × Obj)} {fn : Addr} {args : List Value} {o : Option (Dat × Int)} {due : Dat}
    {mean : ExcName → Option Value} {mg mb : Str → Option Value} {dp un : Nat} {gd : Option (List Code)} {cn : Str} {cs : Scope} {a : Addr} {ccd : Value} {A₀ : Around} {base h₀ : Heap} {L : Addr} {m : Str → Option Value} {s : Shared} {Q E : Value → Shared → Prop}
    (H : CSpec0 w 560 fn args news (RdOk news o)) (ho : o ≠ some (due, 0)) (hg : ∀ d j, o = some (d, j) → gOk 8 d = true)
    (B : Below A₀ base [] h₀) (F : Fr h₀ L s.heap m) (X : (ax.heap_1_39 w.params).In h₀) (N : News h₀ L s.heap news) (T : Top ax.view_1_40 LS mean mg mb h₀) (XB : (ax.heap_1_39 w.params).In base) (TB : Top ax.view_1_40 LS mean mg mb base) (hk : cs.kind = .function) (h1 : dp + 560 < recursionLimit) (h2 : un + 8 * 560 < cLine)
    (okS : ∀ a x k t d j tl h' tk', (d, j) ≠ (due, 0) → gOk 8 d = true → (a, tupO [x, .int j t] k) ∈ tl ++ news → DatIn (tl ++ news) x d → Apart news tl → Fr h₀ L h' m → News h₀ L h' (tl ++ news) → Q (.ref a) { s with heap := h', toks := tk' })
    (okN : ∀ h' tk', Fr h₀ L h' m → News h₀ L h' [] → Q .none { s with heap := h', toks := tk' }) :
    wpAny (model PG w) (atop dp un gd cn cs L a ccd []) (call (.ref fn) args) Q E s :=
  H _ _ _ _ _ _ _ _ _ _ _ _ _ _ _ _ _ _ B F X N T XB TB hk h1 h2 (fun v n' h' tk' r F' N' => by
    rcases r with ⟨tl, d, j, rfl, hA, e, hR⟩ | ⟨e, rfl, rfl⟩
    · have hgd := hg d j e
      subst e
      obtain ⟨a, x, n, t, rfl, hm', hx⟩ := hR
      exact okS _ _ _ _ _ _ _ _ _ (fun e => ho (congrArg some e)) hgd hm' hx hA F' N'
    · exact okN _ _ F' N')
theorem tx_cm {x : W} (h : (x.tx == Str.ofString ",") = false) : x ≠ .cm := by rintro rfl; revert h; decide +kernel
theorem rdI_ok {ts : List W} {d : Dat} {j : Int} (h : rdI ts = some (d, j)) : gOk 8 d = true := by
  unfold rdI at h
  cases e : pImp (ts ++ [.semi]) with
  | none => rw [e] at h; cases h
  | some q => rw [e] at h; cases h; exact gOk_mono (by decide) (Imp.dat_ok _)
theorem rdE_ok {ts : List W} {d : Dat} {j : Int} (h : rdE ts = some (d, j)) : gOk 8 d = true := by
  unfold rdE at h
  split at h
  · cases h; exact gOk_mono (by decide) (exps_ok _)
  · cases h
theorem rdI_out {p : Imp} {ts : List W} {i : Nat} {x : W} (h : LaidI p ts) (hx : ts[i]? = some x) (hc : (x.tx == Str.ofString ",") = false) : rdI (ts.take i ++ ts.drop (i + 1)) ≠ some (p.dat, 0) := fun e => by
  have hi : i < ts.length := (List.getElem?_eq_some_iff.mp hx).1
  unfold rdI at e
  cases q : pImp (ts.take i ++ ts.drop (i + 1) ++ [.semi]) with
  | none => rw [q] at e; cases e
  | some r =>
    obtain ⟨p', r⟩ := r
    rw [q] at e
    injection e with e
    injection e with e1 e2
    exact out_imp h hi (fun z => by rw [hx] at z; injection z with z; exact tx_cm hc z) q (by dsimp only at e2; omega) e1
theorem rdE_out {es : List Exp} {ts : List W} {i : Nat} {x : W} (h : LaidL es ts) (hx : ts[i]? = some x) (hc : (x.tx == Str.ofString ",") = false) : rdE (ts.take i ++ ts.drop (i + 1)) ≠ some (.tuple (es.map Exp.dat), 0) := fun e => by
  have hi : i < ts.length := (List.getElem?_eq_some_iff.mp hx).1
  unfold rdE at e
  split at e
  · rename_i es' r q
    injection e with e
    injection e with e1 e2
    injection e1 with e1
    exact out_exps h hi (fun z => by rw [hx] at z; injection z with z; exact tx_cm hc z) q (by omega) e1
  · cases e
theorem lp_out {es : List Exp} {ts : List W} {i : Nat} (h : LaidL es ts) (hi : 0 < i) : qLp ((ts.take i ++ ts.drop (i + 1) ++ [W.semi]).headD .fin) = true := by
  obtain ⟨l, rfl⟩ := lay_head h
  cases i with
  | zero => exact absurd hi (Nat.lt_irrefl _)
  | succ i => rw [List.take_succ_cons, List.cons_append, List.cons_append, List.headD_cons, qLp_eq]; rfl
theorem lp_in {es : List Exp} {ts : List W} (h : LaidL es ts) : qLp ((ts ++ [W.semi]).headD .fin) = true := by
  obtain ⟨l, rfl⟩ := lay_head h
  rw [List.cons_append, List.headD_cons, qLp_eq]; rfl
section
variable {prog : Program} {w : World} {A : Around} {E : Value → Shared → Prop} {s : Shared} {h₀ : Heap} {L a c : Addr} {led n1 n2 : List (Addr × Obj)} {Q : Value → Shared → Prop} {x y : Value} {d due : Dat} {j : Int} {t u : Tok} {k k2 : Nat}
theorem og_same (N : News h₀ L s.heap led) (hm : (a, tupO [x, .int 0 t] k) ∈ led) (hm2 : (c, tupO [y, .int 0 u] k2) ∈ led) (hx : DatIn n1 x due) (s1 : ∀ p ∈ n1, p ∈ led) (hy : DatIn n2 y due) (s2 : ∀ p ∈ n2, p ∈ led) (hd : gOk 8 due = true) (hu : A.units + 64 < cLine) (h : Q (.bool false) s) :
    wpAny (model prog w) A (compareOp .NotEq (.ref a) (.ref c)) Q E s :=
  rdv_ne (o := some (due, 0)) N ⟨a, x, k, t, rfl, hm, hx.mono s1⟩ (fun d j e => by cases e; exact hd) hm2 (hy.mono s2) hd hu (fun _ => h) (fun e => absurd rfl e)
theorem og_diff (N : News h₀ L s.heap led) (hm : (a, tupO [x, .int j t] k) ∈ led) (hm2 : (c, tupO [y, .int 0 u] k2) ∈ led) (hne : (d, j) ≠ (due, 0)) (hg : gOk 8 d = true) (hx : DatIn n1 x d) (s1 : ∀ p ∈ n1, p ∈ led) (hy : DatIn n2 y due) (s2 : ∀ p ∈ n2, p ∈ led) (hd : gOk 8 due = true) (hu : A.units + 64 < cLine) (h : Q (.bool true) s) :
    wpAny (model prog w) A (compareOp .NotEq (.ref a) (.ref c)) Q E s :=
  rdv_ne (o := some (d, j)) N ⟨a, x, k, t, rfl, hm, hx.mono s1⟩ (fun d j e => by cases e; exact hg) hm2 (hy.mono s2) hd hu (fun e => absurd (Option.some.inj e) hne) (fun _ => h)
theorem dat_tup {D : Addr} {ys : List Value} {ds : List Dat} {n3 : List (Addr × Obj)} {k : Nat} (mD : (D, tupO ys k) ∈ led) (hy : DatAll (n2 ++ n3) ys ds) (s2 : ∀ p ∈ n2, p ∈ led) (s3 : ∀ p ∈ n3, p ∈ led) : DatIn led (.ref D) (.tuple ds) :=
  .tuple mD (hy.mono fun p hp => (List.mem_append.mp hp).elim (s2 p) (s3 p))
theorem og_noneT (N : News h₀ L s.heap led) (hm : (c, tupO [y, .int 0 u] k2) ∈ led) (hu : A.units < cLine) (h : Q (.bool true) s) :
    wpAny (model prog w) A (compareOp .NotEq .none (.ref c)) Q E s :=
  SeqAt.RcNeAt.none_tuple (News.isTup N hm) hu prog w E Q h
theorem og_upto {value slice : PySem.Expr} {l : Addr} {vs : List Value} {n : Nat} {i : Int} {m : Str → Option Value} (F : Fr h₀ L s.heap m) (N : News h₀ L s.heap led) (hm : (l, listO vs n) ∈ led) (h0 : 0 ≤ i) (hk : i < vs.length) (hz : vs.length ≤ 80)
    (h : ∀ D h', Fr h₀ L h' m → News h₀ L h' ((D, listO (vs.take i.toNat) 0) :: led) → (∀ p ∈ led, p.1 < D) → Q (.ref D) { s with heap := h' })
    (hs : subscripted slice false (.ref l) (.ref s.heap.objs.size) = operate [.ref s.heap.objs.size, .ref l] (getItem (.ref l) (.ref s.heap.objs.size))) (ht : ∀ r, letTemporaryGo value (.ref l) r = pure ()) :
    wpAny (model prog w) A (subscriptTail value slice (.ref l) (.ref s.heap.objs.size)) Q E { s with heap := s.heap.push { cls := .type "slice", data := .fields #[.none, .int i u, .none] } } := by
  refine kmk_slice_lit (zs := vs.take i.toNat) F N (N.isList hm) IsPart.none (IsPart.int _ _) ?_ h hs ht (by rw [List.size_toArray, sizeLine_eq]; omega)
  have e := slicePick_upto vs.toArray i.toNat (by rw [List.size_toArray]; omega)
  rw [Int.toNat_of_nonneg h0] at e
  rw [e]
theorem og_from {value slice : PySem.Expr} {l : Addr} {vs : List Value} {n : Nat} {i : Int} {m : Str → Option Value} (F : Fr h₀ L s.heap m) (N : News h₀ L s.heap led) (hm : (l, listO vs n) ∈ led) (h0 : 0 ≤ i) (hk : i < vs.length) (hz : vs.length ≤ 80)
    (h : ∀ D h', Fr h₀ L h' m → News h₀ L h' ((D, listO (vs.drop (i.toNat + 1)) 0) :: led) → (∀ p ∈ led, p.1 < D) → Q (.ref D) { s with heap := h' })
    (hs : subscripted slice false (.ref l) (.ref s.heap.objs.size) = operate [.ref s.heap.objs.size, .ref l] (getItem (.ref l) (.ref s.heap.objs.size))) (ht : ∀ r, letTemporaryGo value (.ref l) r = pure ()) :
    wpAny (model prog w) A (subscriptTail value slice (.ref l) (.ref s.heap.objs.size)) Q E { s with heap := s.heap.push { cls := .type "slice", data := .fields #[.int (i + 1) u, .none, .none] } } := by
  refine kmk_slice_lit (zs := vs.drop (i.toNat + 1)) F N (N.isList hm) (IsPart.int _ _) IsPart.none ?_ h hs ht (by rw [List.size_toArray, sizeLine_eq]; omega)
  have ey : i + 1 = ((i.toNat + 1 : Nat) : Int) := by omega
  rw [ey, slicePick_from vs.toArray (i.toNat + 1) (by rw [List.size_toArray]; omega)]
theorem og_word {value slice : PySem.Expr} {l : Addr} {vs : List Value} {ts : List W} {n : Nat} {i : Int} (N : News h₀ L s.heap led) (hm : (l, listO vs n) ∈ led) (hW : All2 (WordIn w n1) vs ts) (hs : ∀ p ∈ n1, p ∈ led) (h0 : 0 ≤ i) (hk : i < vs.length) (hz : vs.length ≤ 80)
    (h : ∀ a d T x, ts[i.toNat]? = some x → (a, instObj 388 d) ∈ led → (d, wordO w x T) ∈ led → Q (.ref a) s)
    (hs' : subscripted slice false (.ref l) (.int i u) = operate [.ref l, .int i u] (getItem (.ref l) (.int i u)) := by with_unfolding_all rfl) :
    wpAny (model prog w) A (subscriptTail value slice (.ref l) (.int i u)) Q E s := by
  have hl := hW.length
  obtain ⟨v, hv, a, d, T, rfl, m1, m2⟩ := hW.get (List.getElem?_eq_getElem (l := ts) (i := i.toNat) (by omega))
  exact og_item N hm h0 (by omega) hv (h a d T _ (List.getElem?_eq_getElem (by omega)) (hs _ m1) (hs _ m2)) hs'
end
theorem law_read_imp' {w : World} {news n1 : List (Addr × Obj)} {l : Addr} {vs : List Value} {n : Nat} {ts : List W} {b : Bool} (hb : b = true) (hm : (l, listO vs n) ∈ news) (hW : All2 (WordIn w n1) vs ts) (hs : ∀ p ∈ n1, p ∈ news) (hz : vs.length ≤ 200) :
    CSpec0 w 560 480 [.ref l, .bool b] news (RdOk news (rdI ts)) := by
  subst hb; exact law_read_imp hm (hW.imp fun _ _ h => h.mono hs) (by rw [← hW.length]; exact hz)
theorem law_read_exp' {w : World} {news n1 : List (Addr × Obj)} {l : Addr} {vs : List Value} {n : Nat} {ts : List W} {b : Bool} (hb : b = false) (hm : (l, listO vs n) ∈ news) (hW : All2 (WordIn w n1) vs ts) (hs : ∀ p ∈ n1, p ∈ news) (hz : vs.length ≤ 200) (hq : qLp ((ts ++ [W.semi]).headD .fin) = true) :
    CSpec0 w 560 480 [.ref l, .bool b] news (RdOk news (rdE ts)) := by
  subst hb; exact law_read_exp hm (hW.imp fun _ _ h => h.mono hs) (by rw [← hW.length]; exact hz) hq
theorem wd_f_65 : True := by
  k_with "binaryOp Add ref ref" => (k_here; (with_reducible show wpAny _ _ (binaryOp _ (Value.ref _) (Value.ref _)) _ _ _); k_dflt (refine' og_addL ?k1Z9 ?k2Z9 ?k3Z9 ?k4Z9 ?k5Z9 ?_; (case k1Z9 => k_asm); (case k2Z9 => k_asm); (case k3Z9 => k_extra "mem"); (case k4Z9 => k_extra "mem"); (case k5Z9 => (simp only [List.length_take, List.length_drop]; omega)); k_whole); intro _ _ _ _ l1; (try k_lt l1); (try (revert l1; intro _)); (try k_sweep))
  k_with "call ref" => (k_here; k_dflt (refine' read1 (law_read_imp' ?hbZ9 ?hmZ9 ?hWZ9 ?hsZ9 ?hzZ9) (rdI_laid ?hLZ9) ?BZ9 ?FZ9 ?XZ9 ?NZ9 ?TZ9 ?XBZ9 ?TBZ9 ?k6Z9 ?k7Z9 ?k8Z9 ?_; (case NZ9 => k_asm); (case BZ9 => k_asm); (case FZ9 => k_asm); (case XZ9 => k_asm); (case TZ9 => k_asm); (case XBZ9 => k_asm); (case TBZ9 => k_asm); (case k6Z9 => exact rfl); (case k7Z9 => ktr_room); (case k8Z9 => ktr_units); (case hbZ9 => first | assumption | exact beq_iff_eq.mpr (by assumption) | exact beq_eq_false_iff_ne.mpr (by assumption)); (case hLZ9 => with_reducible assumption); (case hWZ9 => assumption); (case hmZ9 => k_extra "mem"); (case hsZ9 => (intro _ _; k_extra "mem")); (case hzZ9 => omega)); k_whole; intro _ _ _ _ _ _ _ _ _ _ _ _; (try k_sweep))
  k_with "call ref" => (k_here; k_dflt (refine' read1 (law_read_exp' ?hbZ9 ?hmZ9 ?hWZ9 ?hsZ9 ?hzZ9 (lp_in ?hLZ9)) (rdE_laid ?hLZ9) ?BZ9 ?FZ9 ?XZ9 ?NZ9 ?TZ9 ?XBZ9 ?TBZ9 ?k6Z9 ?k7Z9 ?k8Z9 ?_; (case NZ9 => k_asm); (case BZ9 => k_asm); (case FZ9 => k_asm); (case XZ9 => k_asm); (case TZ9 => k_asm); (case XBZ9 => k_asm); (case TBZ9 => k_asm); (case k6Z9 => exact rfl); (case k7Z9 => ktr_room); (case k8Z9 => ktr_units); (case hbZ9 => first | assumption | exact beq_iff_eq.mpr (by assumption) | exact beq_eq_false_iff_ne.mpr (by assumption)); (case hLZ9 => with_reducible assumption); (case hWZ9 => assumption); (case hmZ9 => k_extra "mem"); (case hsZ9 => (intro _ _; k_extra "mem")); (case hzZ9 => omega)); k_whole; intro _ _ _ _ _ _ _ _ _ _ _ _; (try k_sweep))
  k_with "call ref" => (k_here; k_dflt (refine' read2 (law_read_imp' ?hbZ9 ?hmZ9 ?hWZ9 ?hsZ9 ?hzZ9) (rdI_out ?hLZ9 ?hxZ9 ?hcZ9) (fun _ _ e => rdI_ok e) ?BZ9 ?FZ9 ?XZ9 ?NZ9 ?TZ9 ?XBZ9 ?TBZ9 ?k6Z9 ?k7Z9 ?k8Z9 ?_ ?_; (case NZ9 => k_asm); (case BZ9 => k_asm); (case FZ9 => k_asm); (case XZ9 => k_asm); (case TZ9 => k_asm); (case XBZ9 => k_asm); (case TBZ9 => k_asm); (case k6Z9 => exact rfl); (case k7Z9 => ktr_room); (case k8Z9 => ktr_units); (case hbZ9 => first | assumption | exact beq_iff_eq.mpr (by assumption) | exact beq_eq_false_iff_ne.mpr (by assumption)); (case hmZ9 => k_extra "mem"); (case hWZ9 => exact (All2.take (by assumption) _).append (All2.drop (by assumption) _)); (case hLZ9 => with_reducible assumption); (case hxZ9 => assumption); (case hcZ9 => assumption); (case hsZ9 => (intro _ _; k_extra "mem")); (case hzZ9 => (simp only [List.length_append, List.length_take, List.length_drop]; omega))); all_goals (k_whole; (first | intro _ _ _ _ _ _ _ _ _ _ _ _ _ _ _ _ | intro _ _ _ _); (try k_sweep)))
  k_with "call ref" => (k_here; k_dflt (refine' read2 (law_read_exp' ?hbZ9 ?hmZ9 ?hWZ9 ?hsZ9 ?hzZ9 (lp_out ?hLZ9 ?hiZ9)) (rdE_out ?hLZ9 ?hxZ9 ?hcZ9) (fun _ _ e => rdE_ok e) ?BZ9 ?FZ9 ?XZ9 ?NZ9 ?TZ9 ?XBZ9 ?TBZ9 ?k6Z9 ?k7Z9 ?k8Z9 ?_ ?_; (case NZ9 => k_asm); (case BZ9 => k_asm); (case FZ9 => k_asm); (case XZ9 => k_asm); (case TZ9 => k_asm); (case XBZ9 => k_asm); (case TBZ9 => k_asm); (case k6Z9 => exact rfl); (case k7Z9 => ktr_room); (case k8Z9 => ktr_units); (case hbZ9 => first | assumption | exact beq_iff_eq.mpr (by assumption) | exact beq_eq_false_iff_ne.mpr (by assumption)); (case hmZ9 => k_extra "mem"); (case hWZ9 => exact (All2.take (by assumption) _).append (All2.drop (by assumption) _)); (case hLZ9 => with_reducible assumption); (case hxZ9 => assumption); (case hcZ9 => assumption); (case hiZ9 => omega); (case hsZ9 => (intro _ _; k_extra "mem")); (case hzZ9 => (simp only [List.length_append, List.length_take, List.length_drop]; omega))); all_goals (k_whole; (first | intro _ _ _ _ _ _ _ _ _ _ _ _ _ _ _ _ | intro _ _ _ _); (try k_sweep)))
  k_with "compareOp NotEq none ref" => (k_here; (with_reducible show wpAny _ _ (compareOp CmpOp.NotEq Value.none (Value.ref _)) _ _ _); k_dflt (refine' og_noneT ?k1Z9 ?m1Z9 ?k4Z9 ?_; (case k1Z9 => k_asm); (case m1Z9 => k_extra "mem"); (case k4Z9 => ktr_units); k_whole))
  k_with "compareOp NotEq ref ref" => (k_here; (with_reducible show wpAny _ _ (compareOp CmpOp.NotEq (Value.ref _) (Value.ref _)) _ _ _); k_dflt (refine' og_diff ?k1Z9 ?m1Z9 ?m2Z9 ?neZ9 ?hgZ9 ?xZ9 ?s1Z9 ?yZ9 ?s2Z9 ?gZ9 ?k4Z9 ?_; (case k1Z9 => k_asm); (case m1Z9 => k_extra "mem"); (case m2Z9 => k_extra "mem"); (case neZ9 => assumption); (case hgZ9 => assumption); (case xZ9 => assumption); (case s1Z9 => (intro _ _; k_extra "mem")); (case yZ9 => assumption); (case s2Z9 => (intro _ _; k_extra "mem")); (case gZ9 => first | exact gOk_mono (by decide) (Imp.dat_ok _) | exact gOk_mono (by decide) (exps_ok _)); (case k4Z9 => ktr_units); k_whole))
  k_with "compareOp NotEq ref ref" => (k_here; (with_reducible show wpAny _ _ (compareOp CmpOp.NotEq (Value.ref _) (Value.ref _)) _ _ _); k_dflt (refine' og_same ?k1Z9 ?m1Z9 ?m2Z9 ?xZ9 ?s1Z9 ?yZ9 ?s2Z9 ?gZ9 ?k4Z9 ?_; (case k1Z9 => k_asm); (case m1Z9 => k_extra "mem"); (case m2Z9 => k_extra "mem"); (case xZ9 => assumption); (case s1Z9 => (intro _ _; k_extra "mem")); (case yZ9 => assumption); (case s2Z9 => (intro _ _; k_extra "mem")); (case gZ9 => first | exact gOk_mono (by decide) (Imp.dat_ok _) | exact gOk_mono (by decide) (exps_ok _)); (case k4Z9 => ktr_units); k_whole))
  k_with "subscriptTail" => (k_here; refine stop ?_)
  k_with "subscriptTail" => (k_here; (with_reducible show wpAny _ _ (subscriptTail _ (PySem.Expr.Slice none (some _) none _) (Value.ref _) (Value.ref _)) _ _ _); k_dflt (refine' og_upto ?FZ9 ?NZ9 ?m1Z9 ?b0Z9 ?b1Z9 ?b2Z9 ?_ ?sZ9 ?tZ9; (case FZ9 => k_asm); (case NZ9 => k_asm); (case m1Z9 => k_extra "mem"); (case b0Z9 => assumption); (case b1Z9 => assumption); (case b2Z9 => assumption); (case sZ9 => with_unfolding_all rfl); (case tZ9 => kmk_pure)); intro _ _ _ _ l1; (try k_lt l1); (try (revert l1; intro _)); (try k_sweep))
  k_with "subscriptTail" => (k_here; (with_reducible show wpAny _ _ (subscriptTail _ (PySem.Expr.Slice (some _) none none _) (Value.ref _) (Value.ref _)) _ _ _); k_dflt (refine' og_from ?FZ9 ?NZ9 ?m1Z9 ?b0Z9 ?b1Z9 ?b2Z9 ?_ ?sZ9 ?tZ9; (case FZ9 => k_asm); (case NZ9 => k_asm); (case m1Z9 => k_extra "mem"); (case b0Z9 => assumption); (case b1Z9 => assumption); (case b2Z9 => assumption); (case sZ9 => with_unfolding_all rfl); (case tZ9 => kmk_pure)); intro _ _ _ _ l1; (try k_lt l1); (try (revert l1; intro _)); (try k_sweep))
  k_with "subscriptTail" => (k_here; (with_reducible show wpAny _ _ (subscriptTail _ _ (Value.ref _) (Value.int _ _)) _ _ _); k_dflt (refine' og_word ?k1Z9 ?m1Z9 ?WZ9 ?s1Z9 ?b0Z9 ?b1Z9 ?b2Z9 ?_ ?k6Z9; (case k1Z9 => k_asm); (case m1Z9 => k_extra "mem"); (case WZ9 => assumption); (case s1Z9 => (intro _ _; k_extra "mem")); (case b0Z9 => assumption); (case b1Z9 => assumption); (case b2Z9 => assumption); (case k6Z9 => with_unfolding_all rfl); k_whole); intro _ _ _ _ _ _ _)
  k_with "compareOp NotEq ref ref" => (k_here; (with_reducible show wpAny _ _ (compareOp CmpOp.NotEq (Value.ref _) (Value.ref _)) _ _ _); k_dflt (refine' og_same (y := Value.ref _) ?k1Z9 ?m1Z9 ?m2Z9 ?xZ9 ?s1Z9 (dat_tup ?mDZ9 ?hyZ9 ?s2Z9 ?s3Z9) (fun _ h => h) ?gZ9 ?k4Z9 ?_; (case hyZ9 => with_reducible assumption); (case k1Z9 => k_asm); (case m1Z9 => k_extra "mem"); (case m2Z9 => k_extra "mem"); (case xZ9 => assumption); (case mDZ9 => k_extra "mem"); (case s1Z9 => (intro _ _; k_extra "mem")); (case s2Z9 => (intro _ _; k_extra "mem")); (case s3Z9 => (intro _ _; k_extra "mem")); (case gZ9 => exact gOk_mono (by decide) (exps_ok _)); (case k4Z9 => ktr_units); k_whole))
  k_with "compareOp NotEq ref ref" => (k_here; (with_reducible show wpAny _ _ (compareOp CmpOp.NotEq (Value.ref _) (Value.ref _)) _ _ _); k_dflt (refine' og_diff (y := Value.ref _) ?k1Z9 ?m1Z9 ?m2Z9 ?neZ9 ?hgZ9 ?xZ9 ?s1Z9 (dat_tup ?mDZ9 ?hyZ9 ?s2Z9 ?s3Z9) (fun _ h => h) ?gZ9 ?k4Z9 ?_; (case hyZ9 => with_reducible assumption); (case k1Z9 => k_asm); (case m1Z9 => k_extra "mem"); (case neZ9 => assumption); (case m2Z9 => k_extra "mem"); (case hgZ9 => assumption); (case xZ9 => assumption); (case mDZ9 => k_extra "mem"); (case s1Z9 => (intro _ _; k_extra "mem")); (case s2Z9 => (intro _ _; k_extra "mem")); (case s3Z9 => (intro _ _; k_extra "mem")); (case gZ9 => exact gOk_mono (by decide) (exps_ok _)); (case k4Z9 => ktr_units); k_whole))
  trivial

def RI2 (led n0 : List (Addr × Obj)) (es : List Exp) (i : Nat) (ys : List Value) (nw : List (Addr × Obj)) : Prop := ∃ tl, nw = tl ++ led ∧ Ord led tl ∧ DatAll (tl ++ n0) ys ((es.take i).map Exp.dat)
theorem RI2.start {led n0 : List (Addr × Obj)} {es : List Exp} : RI2 led n0 es 0 [] led := ⟨[], rfl, Ord.nil, .nil⟩
theorem law_holds : PySem.Challenge.rw_og0010_01.Holds := by
  refine ax.hd.2 ?_
  delta ax.hd
  refine val_mk ?_
  k_go0
  all_goals try k_fold
  k_steps
  rename_i ea en ew evs ek nn ews ek2 ees ets xa2 xb2 ta2 tb2 n2 tl9 h9 tk9 m1 m2 hE m3 hW hL hsm z1 z2 z3 xa20 xb20 xb29 hne9 hO9 h8 h7 h6 F5 N5 g5
  unfold Stop
  refine comp_ind (RI2 _ tl9 ees) ?_ ?_ _ 0 [] _ (Nat.zero_add _) RI2.start
  · rintro i ys nw hi ⟨tlc, rfl, hOc, hDc⟩ v Ia oI C oC D m₂ h' tk' E' hP hC hx F' N' o' ne'
    obtain ⟨e, he, hEe, hes⟩ := Exps.at hE hsm hP
    obtain ⟨a1, d1, T1, pv, u1, u2, sv, rfl, q1, q2, q3⟩ := id hEe
    k_steps
    rename_i v' tl2 h2 tk2 hO2 hD2 F2 N2
    exact comp_end F2 N2 o' hO2 (by k_extra "mem") hOc hDc he hD2
  · rintro ys nw ⟨tlc, rfl, hOc, hDc⟩
    have hyl : ys.length ≤ 1000 := by
      rw [hDc.length, List.length_map, List.length_take]; exact Nat.le_trans (Nat.min_le_right _ _) hsm.1
    rw [List.take_of_length_le (by rw [List.size_toArray, hE.length]; exact Nat.le_refl _)] at hDc
    have hz80 : ews.length ≤ 80 := Nat.le_trans z2 (by decide)
    have hz0 : 0 < ews.length := by
      obtain ⟨l, e⟩ := lay_head hL
      rw [hW.length, e]; exact Nat.succ_pos _
    clear hE hO9
    k_steps


end Og
theorem PySem.Challenge.cw_og0010_01_holds : PySem.Challenge.rw_og0010_01.Holds :=
  Og.law_holds
