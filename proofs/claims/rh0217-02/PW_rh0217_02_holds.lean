import PyProof.Rows.All
import Wide.All
import OpenK.AllK
import Wide.FinOn
import PyProof.MaxThree
import Lean
import PySem.Challenge.RW_rh0217_02
open PySem PySem.W PyProof.Rows PySem.Calls
set_option Elab.async false
theorem Mine.law_holds.tw10007947361888340627 : True := trivial
theorem Mine.law_holds.tw10024239376800412576 : True := trivial
theorem Mine.law_holds.tw10028117763298573888 : True := trivial
theorem Mine.law_holds.tw10079444305495103266 : True := trivial
theorem Mine.law_holds.tw10093380194815717143 : True := trivial
theorem Mine.law_holds.tw10188763426450519768 : True := trivial
theorem Mine.law_holds.tw10242277825702978295 : True := trivial
theorem Mine.law_holds.tw10247133587077514887 : True := trivial
theorem Mine.law_holds.tw10296202853966499060 : True := trivial
theorem Mine.law_holds.tw10301956948240465243 : True := trivial
theorem Mine.law_holds.tw1031057903888850656 : True := trivial
theorem Mine.law_holds.tw10346744231138586394 : True := trivial
theorem Mine.law_holds.tw10350734228115807855 : True := trivial
theorem Mine.law_holds.tw1035469204868569938 : True := trivial
theorem Mine.law_holds.tw10362271348294423435 : True := trivial
theorem Mine.law_holds.tw10371022188087798493 : True := trivial
theorem Mine.law_holds.tw10441050188594101415 : True := trivial
theorem Mine.law_holds.tw10442559174759676424 : True := trivial
theorem Mine.law_holds.tw10458381655096516384 : True := trivial
theorem Mine.law_holds.tw10486713781251687710 : True := trivial
theorem Mine.law_holds.tw10516828495840041881 : True := trivial
theorem Mine.law_holds.tw10517181812226103804 : True := trivial
theorem Mine.law_holds.tw1053317679998426468 : True := trivial
theorem Mine.law_holds.tw10565075396839593227 : True := trivial
theorem Mine.law_holds.tw10566571302883470556 : True := trivial
theorem Mine.law_holds.tw10609929442622069884 : True := trivial
theorem Mine.law_holds.tw10666784280354678857 : True := trivial
theorem Mine.law_holds.tw10667895100797718341 : True := trivial
theorem Mine.law_holds.tw10679931392274172632 : True := trivial
theorem Mine.law_holds.tw10725132931349513577 : True := trivial
theorem Mine.law_holds.tw10767655046202684341 : True := trivial
theorem Mine.law_holds.tw10812634152524527747 : True := trivial
theorem Mine.law_holds.tw10817052189556005596 : True := trivial
theorem Mine.law_holds.tw10841264019214440115 : True := trivial
theorem Mine.law_holds.tw10876394233666535175 : True := trivial
theorem Mine.law_holds.tw10897144627088453450 : True := trivial
theorem Mine.law_holds.tw10954758410522031216 : True := trivial
theorem Mine.law_holds.tw10958410103948607464 : True := trivial
theorem Mine.law_holds.tw10968802771074238664 : True := trivial
theorem Mine.law_holds.tw1096898596823417342 : True := trivial
theorem Mine.law_holds.tw11046636381182338224 : True := trivial
theorem Mine.law_holds.tw11067727234611919522 : True := trivial
theorem Mine.law_holds.tw11126432536435168541 : True := trivial
theorem Mine.law_holds.tw11169275537108399364 : True := trivial
theorem Mine.law_holds.tw11182679623053108816 : True := trivial
theorem Mine.law_holds.tw11223184984439025696 : True := trivial
theorem Mine.law_holds.tw11246263765543307023 : True := trivial
theorem Mine.law_holds.tw11289095316329951393 : True := trivial
theorem Mine.law_holds.tw11303081109005220762 : True := trivial
theorem Mine.law_holds.tw11347954631545130290 : True := trivial
theorem Mine.law_holds.tw11404014056486942332 : True := trivial
theorem Mine.law_holds.tw11426015686315989412 : True := trivial
theorem Mine.law_holds.tw11463670642173560981 : True := trivial
theorem Mine.law_holds.tw11470271118054631628 : True := trivial
theorem Mine.law_holds.tw11484002064277903863 : True := trivial
theorem Mine.law_holds.tw11532970265236058100 : True := trivial
theorem Mine.law_holds.tw11576900812866516365 : True := trivial
theorem Mine.law_holds.tw11583271856484122956 : True := trivial
theorem Mine.law_holds.tw11586273756423631628 : True := trivial
theorem Mine.law_holds.tw11609493526922420660 : True := trivial
theorem Mine.law_holds.tw11625900857008200698 : True := trivial
theorem Mine.law_holds.tw11633083819707477107 : True := trivial
theorem Mine.law_holds.tw11666318101497114028 : True := trivial
theorem Mine.law_holds.tw11677100312832694166 : True := trivial
theorem Mine.law_holds.tw11714151634956498000 : True := trivial
theorem Mine.law_holds.tw11721147071786614939 : True := trivial
theorem Mine.law_holds.tw1172607208729018732 : True := trivial
theorem Mine.law_holds.tw11781800970755023335 : True := trivial
theorem Mine.law_holds.tw11803358882649189518 : True := trivial
theorem Mine.law_holds.tw11846676642670509255 : True := trivial
theorem Mine.law_holds.tw1186782194237197914 : True := trivial
theorem Mine.law_holds.tw11881114122080957857 : True := trivial
theorem Mine.law_holds.tw11918526154901971515 : True := trivial
theorem Mine.law_holds.tw11946022803392826334 : True := trivial
theorem Mine.law_holds.tw11966672015165255308 : True := trivial
theorem Mine.law_holds.tw11977050620070087417 : True := trivial
theorem Mine.law_holds.tw12001131798957381970 : True := trivial
theorem Mine.law_holds.tw12108977868540685583 : True := trivial
theorem Mine.law_holds.tw12115171985352901274 : True := trivial
theorem Mine.law_holds.tw12116493165278983582 : True := trivial
theorem Mine.law_holds.tw12134408205421670959 : True := trivial
theorem Mine.law_holds.tw12149405283708829123 : True := trivial
theorem Mine.law_holds.tw12153922251378674784 : True := trivial
theorem Mine.law_holds.tw12210932052861102225 : True := trivial
theorem Mine.law_holds.tw12218498018843733332 : True := trivial
theorem Mine.law_holds.tw12223724995276690173 : True := trivial
theorem Mine.law_holds.tw12240961182476476926 : True := trivial
theorem Mine.law_holds.tw12253411696296436870 : True := trivial
theorem Mine.law_holds.tw12256559969785099955 : True := trivial
theorem Mine.law_holds.tw12275847060699157868 : True := trivial
theorem Mine.law_holds.tw12291295341487003417 : True := trivial
theorem Mine.law_holds.tw12294597709558488554 : True := trivial
theorem Mine.law_holds.tw12296726922439171297 : True := trivial
theorem Mine.law_holds.tw12303009252429188658 : True := trivial
theorem Mine.law_holds.tw12320438053989627958 : True := trivial
theorem Mine.law_holds.tw1232645469590886286 : True := trivial
theorem Mine.law_holds.tw123295346585929383 : True := trivial
theorem Mine.law_holds.tw12342728606916771844 : True := trivial
theorem Mine.law_holds.tw12394330538082041428 : True := trivial
theorem Mine.law_holds.tw12419048959643632839 : True := trivial
theorem Mine.law_holds.tw1242418559920758562 : True := trivial
theorem Mine.law_holds.tw12456547296908542839 : True := trivial
theorem Mine.law_holds.tw12459966957829302596 : True := trivial
theorem Mine.law_holds.tw1247253217256132012 : True := trivial
theorem Mine.law_holds.tw12476058986133298565 : True := trivial
theorem Mine.law_holds.tw12481875629721207810 : True := trivial
theorem Mine.law_holds.tw12503156628232749375 : True := trivial
theorem Mine.law_holds.tw1258919526383655059 : True := trivial
theorem Mine.law_holds.tw12597187120891498251 : True := trivial
theorem Mine.law_holds.tw12626328134170644701 : True := trivial
theorem Mine.law_holds.tw12634321019024901981 : True := trivial
theorem Mine.law_holds.tw12645607732203181651 : True := trivial
theorem Mine.law_holds.tw12663309570017281627 : True := trivial
theorem Mine.law_holds.tw12668044768207566790 : True := trivial
theorem Mine.law_holds.tw12684681026606017882 : True := trivial
theorem Mine.law_holds.tw12687621791434340054 : True := trivial
theorem Mine.law_holds.tw12731736397290755891 : True := trivial
theorem Mine.law_holds.tw12732824653754844360 : True := trivial
theorem Mine.law_holds.tw12785318317339004006 : True := trivial
theorem Mine.law_holds.tw12795448055554024986 : True := trivial
theorem Mine.law_holds.tw12800644894191811977 : True := trivial
theorem Mine.law_holds.tw12831907817818079685 : True := trivial
theorem Mine.law_holds.tw12835091436910803158 : True := trivial
theorem Mine.law_holds.tw12847567107135931479 : True := trivial
theorem Mine.law_holds.tw1285599515219305098 : True := trivial
theorem Mine.law_holds.tw12889673554181485818 : True := trivial
theorem Mine.law_holds.tw12949845418750544790 : True := trivial
theorem Mine.law_holds.tw13028658284911697911 : True := trivial
theorem Mine.law_holds.tw1303389685018741030 : True := trivial
theorem Mine.law_holds.tw13055523775352357715 : True := trivial
theorem Mine.law_holds.tw13087128984098923117 : True := trivial
theorem Mine.law_holds.tw13097044212144736960 : True := trivial
theorem Mine.law_holds.tw13182730311906835528 : True := trivial
theorem Mine.law_holds.tw13190408463805328480 : True := trivial
theorem Mine.law_holds.tw13190703287169160282 : True := trivial
theorem Mine.law_holds.tw13220211186989608806 : True := trivial
theorem Mine.law_holds.tw13250372474279835810 : True := trivial
theorem Mine.law_holds.tw13257055565626018733 : True := trivial
theorem Mine.law_holds.tw13280740594461564331 : True := trivial
theorem Mine.law_holds.tw13281950902743806629 : True := trivial
theorem Mine.law_holds.tw13287204720269558064 : True := trivial
theorem Mine.law_holds.tw13294052699122959228 : True := trivial
theorem Mine.law_holds.tw13301187468288870568 : True := trivial
theorem Mine.law_holds.tw13342137609418717338 : True := trivial
theorem Mine.law_holds.tw13342518741750886279 : True := trivial
theorem Mine.law_holds.tw1335265377702380343 : True := trivial
theorem Mine.law_holds.tw13388431603621797793 : True := trivial
theorem Mine.law_holds.tw13392613628428298086 : True := trivial
theorem Mine.law_holds.tw13397297893571687751 : True := trivial
theorem Mine.law_holds.tw13402424001964919149 : True := trivial
theorem Mine.law_holds.tw1341266762083198811 : True := trivial
theorem Mine.law_holds.tw13425932534011304816 : True := trivial
theorem Mine.law_holds.tw13429453918920967058 : True := trivial
theorem Mine.law_holds.tw13431030151845061361 : True := trivial
theorem Mine.law_holds.tw13454136545276886934 : True := trivial
theorem Mine.law_holds.tw13482675847692870326 : True := trivial
theorem Mine.law_holds.tw13536078969547264968 : True := trivial
theorem Mine.law_holds.tw13590972695719381181 : True := trivial
theorem Mine.law_holds.tw13642005409729077643 : True := trivial
theorem Mine.law_holds.tw13650905803964671038 : True := trivial
theorem Mine.law_holds.tw13656764964264320472 : True := trivial
theorem Mine.law_holds.tw13667737974841707781 : True := trivial
theorem Mine.law_holds.tw13674158931818614880 : True := trivial
theorem Mine.law_holds.tw13677857801504540592 : True := trivial
theorem Mine.law_holds.tw13709617746848070560 : True := trivial
theorem Mine.law_holds.tw1376783240425437725 : True := trivial
theorem Mine.law_holds.tw1377309892636839040 : True := trivial
theorem Mine.law_holds.tw13780023080261437657 : True := trivial
theorem Mine.law_holds.tw13800329570527188203 : True := trivial
theorem Mine.law_holds.tw13800757232730249582 : True := trivial
theorem Mine.law_holds.tw1382677567924326555 : True := trivial
theorem Mine.law_holds.tw13840902789983287329 : True := trivial
theorem Mine.law_holds.tw13848119269249539950 : True := trivial
theorem Mine.law_holds.tw13882729330811710610 : True := trivial
theorem Mine.law_holds.tw13902218012105463410 : True := trivial
theorem Mine.law_holds.tw13930286571792669329 : True := trivial
theorem Mine.law_holds.tw1393039868726904873 : True := trivial
theorem Mine.law_holds.tw13956741780833797525 : True := trivial
theorem Mine.law_holds.tw13958071646730322851 : True := trivial
theorem Mine.law_holds.tw13983371404066579822 : True := trivial
theorem Mine.law_holds.tw14032648460764376482 : True := trivial
theorem Mine.law_holds.tw14051398506283589457 : True := trivial
theorem Mine.law_holds.tw14064573792008682920 : True := trivial
theorem Mine.law_holds.tw1414043511812021011 : True := trivial
theorem Mine.law_holds.tw14252543395802736299 : True := trivial
theorem Mine.law_holds.tw14289194402921355359 : True := trivial
theorem Mine.law_holds.tw14326059299131336239 : True := trivial
theorem Mine.law_holds.tw14335913921861858828 : True := trivial
theorem Mine.law_holds.tw14351635765420936899 : True := trivial
theorem Mine.law_holds.tw14358080080312658767 : True := trivial
theorem Mine.law_holds.tw14377833709258309704 : True := trivial
theorem Mine.law_holds.tw14385925486924208373 : True := trivial
theorem Mine.law_holds.tw14390095281932903014 : True := trivial
theorem Mine.law_holds.tw14497384708736915567 : True := trivial
theorem Mine.law_holds.tw14498155544194170393 : True := trivial
theorem Mine.law_holds.tw14499810825090155391 : True := trivial
theorem Mine.law_holds.tw14521376392698553312 : True := trivial
theorem Mine.law_holds.tw145366339536180231 : True := trivial
theorem Mine.law_holds.tw14545874151571354728 : True := trivial
theorem Mine.law_holds.tw14571795756577361901 : True := trivial
theorem Mine.law_holds.tw14596297492920191028 : True := trivial
theorem Mine.law_holds.tw14646867148444618371 : True := trivial
theorem Mine.law_holds.tw14677013365202126530 : True := trivial
theorem Mine.law_holds.tw14774650325386425613 : True := trivial
theorem Mine.law_holds.tw14828999820898988419 : True := trivial
theorem Mine.law_holds.tw14872900085578418628 : True := trivial
theorem Mine.law_holds.tw14883556706271630602 : True := trivial
theorem Mine.law_holds.tw14892801356780361778 : True := trivial
theorem Mine.law_holds.tw14904137174637212347 : True := trivial
theorem Mine.law_holds.tw14908662282237933112 : True := trivial
theorem Mine.law_holds.tw14957179600199517237 : True := trivial
theorem Mine.law_holds.tw1496123403401453975 : True := trivial
theorem Mine.law_holds.tw14983226153234331074 : True := trivial
theorem Mine.law_holds.tw14988988175077273356 : True := trivial
theorem Mine.law_holds.tw14997073306097389879 : True := trivial
theorem Mine.law_holds.tw15006436103509636135 : True := trivial
theorem Mine.law_holds.tw15031514592837009168 : True := trivial
theorem Mine.law_holds.tw15088961453551581880 : True := trivial
theorem Mine.law_holds.tw15123554796541802991 : True := trivial
theorem Mine.law_holds.tw15140378357190847165 : True := trivial
theorem Mine.law_holds.tw15150646450996357022 : True := trivial
theorem Mine.law_holds.tw15154110283740273250 : True := trivial
theorem Mine.law_holds.tw15162217921772873613 : True := trivial
theorem Mine.law_holds.tw15202863084288179589 : True := trivial
theorem Mine.law_holds.tw15242022910975006910 : True := trivial
theorem Mine.law_holds.tw15272395603832836080 : True := trivial
theorem Mine.law_holds.tw15274831704391544125 : True := trivial
theorem Mine.law_holds.tw15293083901398250104 : True := trivial
theorem Mine.law_holds.tw15320506598460614908 : True := trivial
theorem Mine.law_holds.tw15333956030411951890 : True := trivial
theorem Mine.law_holds.tw15341342317828512493 : True := trivial
theorem Mine.law_holds.tw15352218221683021774 : True := trivial
theorem Mine.law_holds.tw15452448965706171373 : True := trivial
theorem Mine.law_holds.tw15455238578036456479 : True := trivial
theorem Mine.law_holds.tw15472126771306010800 : True := trivial
theorem Mine.law_holds.tw15483129889696659574 : True := trivial
theorem Mine.law_holds.tw1550374771381668074 : True := trivial
theorem Mine.law_holds.tw15514866124879379921 : True := trivial
theorem Mine.law_holds.tw15522444059895599089 : True := trivial
theorem Mine.law_holds.tw15526298677375409021 : True := trivial
theorem Mine.law_holds.tw15533563059666576871 : True := trivial
theorem Mine.law_holds.tw1556451293825771818 : True := trivial
theorem Mine.law_holds.tw15567558954438479688 : True := trivial
theorem Mine.law_holds.tw15607887362523206001 : True := trivial
theorem Mine.law_holds.tw15644819842384902770 : True := trivial
theorem Mine.law_holds.tw15661869461025623997 : True := trivial
theorem Mine.law_holds.tw15695062497276918967 : True := trivial
theorem Mine.law_holds.tw15726739188670627701 : True := trivial
theorem Mine.law_holds.tw15732109348078318572 : True := trivial
theorem Mine.law_holds.tw15741379261994504178 : True := trivial
theorem Mine.law_holds.tw15806970514647361693 : True := trivial
theorem Mine.law_holds.tw15829985883664642994 : True := trivial
theorem Mine.law_holds.tw15837584211629593338 : True := trivial
theorem Mine.law_holds.tw15848713872586308078 : True := trivial
theorem Mine.law_holds.tw15873654808861938513 : True := trivial
theorem Mine.law_holds.tw15883345262158282383 : True := trivial
theorem Mine.law_holds.tw15884304794012968992 : True := trivial
theorem Mine.law_holds.tw1588742098881680585 : True := trivial
theorem Mine.law_holds.tw15923823613939428921 : True := trivial
theorem Mine.law_holds.tw16009327648451700120 : True := trivial
theorem Mine.law_holds.tw16057390660189216267 : True := trivial
theorem Mine.law_holds.tw16066104587097768911 : True := trivial
theorem Mine.law_holds.tw16074064945343616743 : True := trivial
theorem Mine.law_holds.tw160851071654074740 : True := trivial
theorem Mine.law_holds.tw16092355726972411579 : True := trivial
theorem Mine.law_holds.tw16098122237329998606 : True := trivial
theorem Mine.law_holds.tw16098328659105767808 : True := trivial
theorem Mine.law_holds.tw16098570224071239113 : True := trivial
theorem Mine.law_holds.tw16106779387088534511 : True := trivial
theorem Mine.law_holds.tw16165715940066559518 : True := trivial
theorem Mine.law_holds.tw16174998905534648557 : True := trivial
theorem Mine.law_holds.tw16184459414616452189 : True := trivial
theorem Mine.law_holds.tw16190678330180157336 : True := trivial
theorem Mine.law_holds.tw16192464803593610453 : True := trivial
theorem Mine.law_holds.tw16213610584267445983 : True := trivial
theorem Mine.law_holds.tw16273140198857503625 : True := trivial
theorem Mine.law_holds.tw16307713440670912930 : True := trivial
theorem Mine.law_holds.tw16332274672890094952 : True := trivial
theorem Mine.law_holds.tw16335311869981183947 : True := trivial
theorem Mine.law_holds.tw16406091861079842607 : True := trivial
theorem Mine.law_holds.tw16461882675039125421 : True := trivial
theorem Mine.law_holds.tw16462895619179043833 : True := trivial
theorem Mine.law_holds.tw16470317323979864763 : True := trivial
theorem Mine.law_holds.tw16482278838752557086 : True := trivial
theorem Mine.law_holds.tw16563099163409725306 : True := trivial
theorem Mine.law_holds.tw16636207322123349953 : True := trivial
theorem Mine.law_holds.tw16641252976520058099 : True := trivial
theorem Mine.law_holds.tw16691439815215545270 : True := trivial
theorem Mine.law_holds.tw1670043908289496885 : True := trivial
theorem Mine.law_holds.tw16701994192336326122 : True := trivial
theorem Mine.law_holds.tw16708887144172644987 : True := trivial
theorem Mine.law_holds.tw16720094985154256693 : True := trivial
theorem Mine.law_holds.tw16760957895259694429 : True := trivial
theorem Mine.law_holds.tw16771549258648962210 : True := trivial
theorem Mine.law_holds.tw16805829885119392726 : True := trivial
theorem Mine.law_holds.tw1681173693875575501 : True := trivial
theorem Mine.law_holds.tw16827775902095551856 : True := trivial
theorem Mine.law_holds.tw16836969012518115619 : True := trivial
theorem Mine.law_holds.tw1685627985566243432 : True := trivial
theorem Mine.law_holds.tw16873799427995575018 : True := trivial
theorem Mine.law_holds.tw16883458599210261866 : True := trivial
theorem Mine.law_holds.tw16893121556090616931 : True := trivial
theorem Mine.law_holds.tw16898189318038581234 : True := trivial
theorem Mine.law_holds.tw16914220770136414715 : True := trivial
theorem Mine.law_holds.tw16935243356766158856 : True := trivial
theorem Mine.law_holds.tw16963379459963715452 : True := trivial
theorem Mine.law_holds.tw16978406815995349258 : True := trivial
theorem Mine.law_holds.tw17010894478248790464 : True := trivial
theorem Mine.law_holds.tw17027635718292003107 : True := trivial
theorem Mine.law_holds.tw17028624522117568015 : True := trivial
theorem Mine.law_holds.tw17046799393618780204 : True := trivial
theorem Mine.law_holds.tw17089861810051081540 : True := trivial
theorem Mine.law_holds.tw1710076424337546998 : True := trivial
theorem Mine.law_holds.tw17137235678499792623 : True := trivial
theorem Mine.law_holds.tw17156363617357476176 : True := trivial
theorem Mine.law_holds.tw17169043682955552997 : True := trivial
theorem Mine.law_holds.tw17183477848116922584 : True := trivial
theorem Mine.law_holds.tw1722738952054099684 : True := trivial
theorem Mine.law_holds.tw1724926542741425601 : True := trivial
theorem Mine.law_holds.tw17249539165995611551 : True := trivial
theorem Mine.law_holds.tw17253691774821329096 : True := trivial
theorem Mine.law_holds.tw17253903310271361901 : True := trivial
theorem Mine.law_holds.tw17255088995462705879 : True := trivial
theorem Mine.law_holds.tw17274716441693411508 : True := trivial
theorem Mine.law_holds.tw17294823503141414406 : True := trivial
theorem Mine.law_holds.tw17305254018735503138 : True := trivial
theorem Mine.law_holds.tw17311987242748728955 : True := trivial
theorem Mine.law_holds.tw17345407343664743607 : True := trivial
theorem Mine.law_holds.tw1737005901722704485 : True := trivial
theorem Mine.law_holds.tw17371252989657294990 : True := trivial
theorem Mine.law_holds.tw17389434848343332794 : True := trivial
theorem Mine.law_holds.tw17419225075052043924 : True := trivial
theorem Mine.law_holds.tw17433551320499381934 : True := trivial
theorem Mine.law_holds.tw17499823404086765753 : True := trivial
theorem Mine.law_holds.tw17502402720220698711 : True := trivial
theorem Mine.law_holds.tw17523808032732122987 : True := trivial
theorem Mine.law_holds.tw17529362906406652863 : True := trivial
theorem Mine.law_holds.tw17545576798567701639 : True := trivial
theorem Mine.law_holds.tw17553930602362091883 : True := trivial
theorem Mine.law_holds.tw17562025525947693838 : True := trivial
theorem Mine.law_holds.tw17580165497215679439 : True := trivial
theorem Mine.law_holds.tw17598101756349436640 : True := trivial
theorem Mine.law_holds.tw17607630403765710837 : True := trivial
theorem Mine.law_holds.tw1762888911704233025 : True := trivial
theorem Mine.law_holds.tw1767730674963353768 : True := trivial
theorem Mine.law_holds.tw17758146289354676595 : True := trivial
theorem Mine.law_holds.tw17792525830624384078 : True := trivial
theorem Mine.law_holds.tw17830944117370523080 : True := trivial
theorem Mine.law_holds.tw1784627337472249616 : True := trivial
theorem Mine.law_holds.tw17848598403364733487 : True := trivial
theorem Mine.law_holds.tw17865009358878524859 : True := trivial
theorem Mine.law_holds.tw17899081815984039989 : True := trivial
theorem Mine.law_holds.tw17911580528928914924 : True := trivial
theorem Mine.law_holds.tw17923851452625207687 : True := trivial
theorem Mine.law_holds.tw17942499455142895165 : True := trivial
theorem Mine.law_holds.tw17942709131360195518 : True := trivial
theorem Mine.law_holds.tw179590077315354965 : True := trivial
theorem Mine.law_holds.tw17974257514489008736 : True := trivial
theorem Mine.law_holds.tw17993387198741990920 : True := trivial
theorem Mine.law_holds.tw18006792725990754497 : True := trivial
theorem Mine.law_holds.tw18026530572120702767 : True := trivial
theorem Mine.law_holds.tw18051328159682125866 : True := trivial
theorem Mine.law_holds.tw18088736630749135056 : True := trivial
theorem Mine.law_holds.tw18090433342136740992 : True := trivial
theorem Mine.law_holds.tw18135211599370774712 : True := trivial
theorem Mine.law_holds.tw18153520721480276881 : True := trivial
theorem Mine.law_holds.tw18155623678392573649 : True := trivial
theorem Mine.law_holds.tw18165013545707147870 : True := trivial
theorem Mine.law_holds.tw18197852217732850983 : True := trivial
theorem Mine.law_holds.tw1819975233463548508 : True := trivial
theorem Mine.law_holds.tw18203989763732354715 : True := trivial
theorem Mine.law_holds.tw18221428039690301666 : True := trivial
theorem Mine.law_holds.tw18221580467831097590 : True := trivial
theorem Mine.law_holds.tw18234560199702728603 : True := trivial
theorem Mine.law_holds.tw18254337876149969668 : True := trivial
theorem Mine.law_holds.tw18305711974153968707 : True := trivial
theorem Mine.law_holds.tw18312799740870528207 : True := trivial
theorem Mine.law_holds.tw18326849912455186884 : True := trivial
theorem Mine.law_holds.tw18340385619391811705 : True := trivial
theorem Mine.law_holds.tw18340598423539479173 : True := trivial
theorem Mine.law_holds.tw18388893480867403737 : True := trivial
theorem Mine.law_holds.tw18430954121086234272 : True := trivial
theorem Mine.law_holds.tw1909877003179415225 : True := trivial
theorem Mine.law_holds.tw1921909227076624909 : True := trivial
theorem Mine.law_holds.tw1928719863018725356 : True := trivial
theorem Mine.law_holds.tw1929443778124869092 : True := trivial
theorem Mine.law_holds.tw194939583717160490 : True := trivial
theorem Mine.law_holds.tw1989176631692091739 : True := trivial
theorem Mine.law_holds.tw1995169965324791860 : True := trivial
theorem Mine.law_holds.tw1997475870405608531 : True := trivial
theorem Mine.law_holds.tw2006301483956418059 : True := trivial
theorem Mine.law_holds.tw2008241840959921210 : True := trivial
theorem Mine.law_holds.tw2016121425191149895 : True := trivial
theorem Mine.law_holds.tw2017991025062827469 : True := trivial
theorem Mine.law_holds.tw2043166853727251185 : True := trivial
theorem Mine.law_holds.tw2055734563569237896 : True := trivial
theorem Mine.law_holds.tw2075624079617657780 : True := trivial
theorem Mine.law_holds.tw2078624436916829710 : True := trivial
theorem Mine.law_holds.tw2088428893895992683 : True := trivial
theorem Mine.law_holds.tw2090888555730037645 : True := trivial
theorem Mine.law_holds.tw2124134355350193313 : True := trivial
theorem Mine.law_holds.tw2136269947727277649 : True := trivial
theorem Mine.law_holds.tw2139172203440323022 : True := trivial
theorem Mine.law_holds.tw2142710703020379005 : True := trivial
theorem Mine.law_holds.tw2175471002772951711 : True := trivial
theorem Mine.law_holds.tw218528332313867021 : True := trivial
theorem Mine.law_holds.tw2211468639325271704 : True := trivial
theorem Mine.law_holds.tw2269544990204364226 : True := trivial
theorem Mine.law_holds.tw228058311090241170 : True := trivial
theorem Mine.law_holds.tw2295933128562542503 : True := trivial
theorem Mine.law_holds.tw2322801206320994539 : True := trivial
theorem Mine.law_holds.tw2325693721150917532 : True := trivial
theorem Mine.law_holds.tw2376695672464595844 : True := trivial
theorem Mine.law_holds.tw2387193687640843687 : True := trivial
theorem Mine.law_holds.tw2395105632611409283 : True := trivial
theorem Mine.law_holds.tw2401843486660128364 : True := trivial
theorem Mine.law_holds.tw2414074194907454277 : True := trivial
theorem Mine.law_holds.tw2414130084998747865 : True := trivial
theorem Mine.law_holds.tw2414361068126709639 : True := trivial
theorem Mine.law_holds.tw2415007505029460712 : True := trivial
theorem Mine.law_holds.tw2446358144275080391 : True := trivial
theorem Mine.law_holds.tw2470889107711209942 : True := trivial
theorem Mine.law_holds.tw2503670479209048990 : True := trivial
theorem Mine.law_holds.tw2557128651999224082 : True := trivial
theorem Mine.law_holds.tw2558664710541493025 : True := trivial
theorem Mine.law_holds.tw2578278018795888234 : True := trivial
theorem Mine.law_holds.tw2580079619333081803 : True := trivial
theorem Mine.law_holds.tw2589748818833699389 : True := trivial
theorem Mine.law_holds.tw2643271747718453845 : True := trivial
theorem Mine.law_holds.tw2644310842459337959 : True := trivial
theorem Mine.law_holds.tw2667362832866536986 : True := trivial
theorem Mine.law_holds.tw2695550118857162214 : True := trivial
theorem Mine.law_holds.tw2782584491509435139 : True := trivial
theorem Mine.law_holds.tw2842810181116790245 : True := trivial
theorem Mine.law_holds.tw2851267720448770887 : True := trivial
theorem Mine.law_holds.tw2856731137302751260 : True := trivial
theorem Mine.law_holds.tw2865737869514987218 : True := trivial
theorem Mine.law_holds.tw2887050238494874643 : True := trivial
theorem Mine.law_holds.tw2903333896348957400 : True := trivial
theorem Mine.law_holds.tw2907507879108658156 : True := trivial
theorem Mine.law_holds.tw2924946361707170262 : True := trivial
theorem Mine.law_holds.tw293627430662643474 : True := trivial
theorem Mine.law_holds.tw3005452535816212104 : True := trivial
theorem Mine.law_holds.tw3028213030429885723 : True := trivial
theorem Mine.law_holds.tw3033269912633744064 : True := trivial
theorem Mine.law_holds.tw3035144380315620824 : True := trivial
theorem Mine.law_holds.tw3046938939346580660 : True := trivial
theorem Mine.law_holds.tw3049941959672503198 : True := trivial
theorem Mine.law_holds.tw3110860835449505704 : True := trivial
theorem Mine.law_holds.tw3127913417769977931 : True := trivial
theorem Mine.law_holds.tw3136910860242942599 : True := trivial
theorem Mine.law_holds.tw3158129796062787159 : True := trivial
theorem Mine.law_holds.tw3194924270671565583 : True := trivial
theorem Mine.law_holds.tw3253568177066640346 : True := trivial
theorem Mine.law_holds.tw3253820488102484341 : True := trivial
theorem Mine.law_holds.tw3258674603298201628 : True := trivial
theorem Mine.law_holds.tw3307954989432871184 : True := trivial
theorem Mine.law_holds.tw3329330481660614911 : True := trivial
theorem Mine.law_holds.tw3339164412607631549 : True := trivial
theorem Mine.law_holds.tw3366817510852727610 : True := trivial
theorem Mine.law_holds.tw3390839446522356110 : True := trivial
theorem Mine.law_holds.tw3416923247095428876 : True := trivial
theorem Mine.law_holds.tw3426337659310251177 : True := trivial
theorem Mine.law_holds.tw3426384778480675251 : True := trivial
theorem Mine.law_holds.tw3438298445031660282 : True := trivial
theorem Mine.law_holds.tw3494445600050047599 : True := trivial
theorem Mine.law_holds.tw3551631022101015893 : True := trivial
theorem Mine.law_holds.tw3552547156034379090 : True := trivial
theorem Mine.law_holds.tw357486453476387696 : True := trivial
theorem Mine.law_holds.tw3607610411644487750 : True := trivial
theorem Mine.law_holds.tw3612332870262773283 : True := trivial
theorem Mine.law_holds.tw3663427449441712954 : True := trivial
theorem Mine.law_holds.tw3672438013989251361 : True := trivial
theorem Mine.law_holds.tw3674665740742831893 : True := trivial
theorem Mine.law_holds.tw367903286550418209 : True := trivial
theorem Mine.law_holds.tw3682559726232862161 : True := trivial
theorem Mine.law_holds.tw3692103080737180250 : True := trivial
theorem Mine.law_holds.tw3742325753681652743 : True := trivial
theorem Mine.law_holds.tw3756308257209627903 : True := trivial
theorem Mine.law_holds.tw3776956092104397036 : True := trivial
theorem Mine.law_holds.tw3808703085821546077 : True := trivial
theorem Mine.law_holds.tw3850375180904979519 : True := trivial
theorem Mine.law_holds.tw3850404396616230974 : True := trivial
theorem Mine.law_holds.tw3882201998751590657 : True := trivial
theorem Mine.law_holds.tw3882250662718909693 : True := trivial
theorem Mine.law_holds.tw3896150654470677357 : True := trivial
theorem Mine.law_holds.tw389891695259654676 : True := trivial
theorem Mine.law_holds.tw3910120701321347557 : True := trivial
theorem Mine.law_holds.tw3912811242725288453 : True := trivial
theorem Mine.law_holds.tw3920392572372402345 : True := trivial
theorem Mine.law_holds.tw3927331946688356228 : True := trivial
theorem Mine.law_holds.tw3943428198234077543 : True := trivial
theorem Mine.law_holds.tw3955097671198598788 : True := trivial
theorem Mine.law_holds.tw3956099054510807996 : True := trivial
theorem Mine.law_holds.tw3959601488294255719 : True := trivial
theorem Mine.law_holds.tw3974387499553966400 : True := trivial
theorem Mine.law_holds.tw3979707639553702691 : True := trivial
theorem Mine.law_holds.tw4008084134468147086 : True := trivial
theorem Mine.law_holds.tw4030767218360268280 : True := trivial
theorem Mine.law_holds.tw4037582482628031876 : True := trivial
theorem Mine.law_holds.tw4072507727158212662 : True := trivial
theorem Mine.law_holds.tw4073161259928356638 : True := trivial
theorem Mine.law_holds.tw4136765680202085937 : True := trivial
theorem Mine.law_holds.tw4143738569270334224 : True := trivial
theorem Mine.law_holds.tw4146061822495498468 : True := trivial
theorem Mine.law_holds.tw415365407113419659 : True := trivial
theorem Mine.law_holds.tw41732636909640268 : True := trivial
theorem Mine.law_holds.tw4273555757443719353 : True := trivial
theorem Mine.law_holds.tw4329158554759489670 : True := trivial
theorem Mine.law_holds.tw4360515638614775343 : True := trivial
theorem Mine.law_holds.tw4370086069003782432 : True := trivial
theorem Mine.law_holds.tw4439653461905209652 : True := trivial
theorem Mine.law_holds.tw4441770287765753910 : True := trivial
theorem Mine.law_holds.tw445335354869643106 : True := trivial
theorem Mine.law_holds.tw4464252984393422682 : True := trivial
theorem Mine.law_holds.tw447027507633508388 : True := trivial
theorem Mine.law_holds.tw4503035019201841076 : True := trivial
theorem Mine.law_holds.tw4517222822008671029 : True := trivial
theorem Mine.law_holds.tw4524032621918665186 : True := trivial
theorem Mine.law_holds.tw455179833554555240 : True := trivial
theorem Mine.law_holds.tw4568741812840581045 : True := trivial
theorem Mine.law_holds.tw4575823598074768960 : True := trivial
theorem Mine.law_holds.tw4581845663705801772 : True := trivial
theorem Mine.law_holds.tw4593294709026258786 : True := trivial
theorem Mine.law_holds.tw4614512636035447770 : True := trivial
theorem Mine.law_holds.tw462603977267732627 : True := trivial
theorem Mine.law_holds.tw4635674611617693574 : True := trivial
theorem Mine.law_holds.tw4643041051132140158 : True := trivial
theorem Mine.law_holds.tw4741859662064258567 : True := trivial
theorem Mine.law_holds.tw4818577856007422655 : True := trivial
theorem Mine.law_holds.tw4820369329881294799 : True := trivial
theorem Mine.law_holds.tw4889031023730116350 : True := trivial
theorem Mine.law_holds.tw4913491355128607118 : True := trivial
theorem Mine.law_holds.tw4916342969005030805 : True := trivial
theorem Mine.law_holds.tw4963573110770748834 : True := trivial
theorem Mine.law_holds.tw498061464947678834 : True := trivial
theorem Mine.law_holds.tw4991859449750346478 : True := trivial
theorem Mine.law_holds.tw4992725456586698614 : True := trivial
theorem Mine.law_holds.tw4995542688137877417 : True := trivial
theorem Mine.law_holds.tw503957847093417577 : True := trivial
theorem Mine.law_holds.tw5044595872519035376 : True := trivial
theorem Mine.law_holds.tw5087963091746180759 : True := trivial
theorem Mine.law_holds.tw5112083995522966620 : True := trivial
theorem Mine.law_holds.tw5117662029339320154 : True := trivial
theorem Mine.law_holds.tw519298541982818421 : True := trivial
theorem Mine.law_holds.tw5212653520564569363 : True := trivial
theorem Mine.law_holds.tw5276584854992656965 : True := trivial
theorem Mine.law_holds.tw5277994541964179845 : True := trivial
theorem Mine.law_holds.tw5364902710198789758 : True := trivial
theorem Mine.law_holds.tw5451054884063135654 : True := trivial
theorem Mine.law_holds.tw545109181885906688 : True := trivial
theorem Mine.law_holds.tw5455921660152230842 : True := trivial
theorem Mine.law_holds.tw5488932636959071455 : True := trivial
theorem Mine.law_holds.tw5506821171919863439 : True := trivial
theorem Mine.law_holds.tw5542243279508502960 : True := trivial
theorem Mine.law_holds.tw5640673133297012132 : True := trivial
theorem Mine.law_holds.tw5647190250986860303 : True := trivial
theorem Mine.law_holds.tw5725672013846136890 : True := trivial
theorem Mine.law_holds.tw5731563423909890137 : True := trivial
theorem Mine.law_holds.tw575232530192455986 : True := trivial
theorem Mine.law_holds.tw576407869801174206 : True := trivial
theorem Mine.law_holds.tw5769158387606399586 : True := trivial
theorem Mine.law_holds.tw5791418645094131800 : True := trivial
theorem Mine.law_holds.tw5842969613912506279 : True := trivial
theorem Mine.law_holds.tw5898729028444588960 : True := trivial
theorem Mine.law_holds.tw5907203647135998699 : True := trivial
theorem Mine.law_holds.tw5914491427308094424 : True := trivial
theorem Mine.law_holds.tw5920216800500632969 : True := trivial
theorem Mine.law_holds.tw5926295103528105954 : True := trivial
theorem Mine.law_holds.tw5950301352895977177 : True := trivial
theorem Mine.law_holds.tw5981114437932730796 : True := trivial
theorem Mine.law_holds.tw59864651932915081 : True := trivial
theorem Mine.law_holds.tw5989267464594152519 : True := trivial
theorem Mine.law_holds.tw5994716906283268228 : True := trivial
theorem Mine.law_holds.tw602461330855297101 : True := trivial
theorem Mine.law_holds.tw6041440012092600215 : True := trivial
theorem Mine.law_holds.tw607667584577438428 : True := trivial
theorem Mine.law_holds.tw6116483010803129801 : True := trivial
theorem Mine.law_holds.tw6131913744916921595 : True := trivial
theorem Mine.law_holds.tw6159533029260741167 : True := trivial
theorem Mine.law_holds.tw6177970194926469781 : True := trivial
theorem Mine.law_holds.tw6189876280036216102 : True := trivial
theorem Mine.law_holds.tw6260460797876433568 : True := trivial
theorem Mine.law_holds.tw6265907326580845545 : True := trivial
theorem Mine.law_holds.tw6317479115527610633 : True := trivial
theorem Mine.law_holds.tw6345391036791879355 : True := trivial
theorem Mine.law_holds.tw6499956759230125245 : True := trivial
theorem Mine.law_holds.tw6507877686720480950 : True := trivial
theorem Mine.law_holds.tw653560878884961445 : True := trivial
theorem Mine.law_holds.tw6553333263825352884 : True := trivial
theorem Mine.law_holds.tw655438217634861079 : True := trivial
theorem Mine.law_holds.tw6564709946809587534 : True := trivial
theorem Mine.law_holds.tw6572314629012105047 : True := trivial
theorem Mine.law_holds.tw6580623548314892615 : True := trivial
theorem Mine.law_holds.tw660297872995803996 : True := trivial
theorem Mine.law_holds.tw6667284449218939238 : True := trivial
theorem Mine.law_holds.tw6674817763981286723 : True := trivial
theorem Mine.law_holds.tw6677821561840896501 : True := trivial
theorem Mine.law_holds.tw6719018230134327050 : True := trivial
theorem Mine.law_holds.tw6723812968561706957 : True := trivial
theorem Mine.law_holds.tw6727219029552735585 : True := trivial
theorem Mine.law_holds.tw6746360682218282392 : True := trivial
theorem Mine.law_holds.tw6751701741844952029 : True := trivial
theorem Mine.law_holds.tw676263390381983339 : True := trivial
theorem Mine.law_holds.tw6776455111828631412 : True := trivial
theorem Mine.law_holds.tw6860709855171689206 : True := trivial
theorem Mine.law_holds.tw6861490101519172755 : True := trivial
theorem Mine.law_holds.tw6869992995446874880 : True := trivial
theorem Mine.law_holds.tw687851300278632918 : True := trivial
theorem Mine.law_holds.tw6881874429007886204 : True := trivial
theorem Mine.law_holds.tw6911747868599837429 : True := trivial
theorem Mine.law_holds.tw6934448944433832347 : True := trivial
theorem Mine.law_holds.tw6952626026076278478 : True := trivial
theorem Mine.law_holds.tw7014720503175028613 : True := trivial
theorem Mine.law_holds.tw7019463264422422977 : True := trivial
theorem Mine.law_holds.tw7052821283958023361 : True := trivial
theorem Mine.law_holds.tw7089819591129360890 : True := trivial
theorem Mine.law_holds.tw7090730855818797151 : True := trivial
theorem Mine.law_holds.tw7120836010843673076 : True := trivial
theorem Mine.law_holds.tw718173064312146323 : True := trivial
theorem Mine.law_holds.tw7185456241796803578 : True := trivial
theorem Mine.law_holds.tw7221428835167493151 : True := trivial
theorem Mine.law_holds.tw724200737284857819 : True := trivial
theorem Mine.law_holds.tw7283070072754485986 : True := trivial
theorem Mine.law_holds.tw7304591109411159013 : True := trivial
theorem Mine.law_holds.tw7311554392007033315 : True := trivial
theorem Mine.law_holds.tw7333226193186587727 : True := trivial
theorem Mine.law_holds.tw7345768897557615242 : True := trivial
theorem Mine.law_holds.tw7346270606818648071 : True := trivial
theorem Mine.law_holds.tw7356724547972884604 : True := trivial
theorem Mine.law_holds.tw7404543985812422374 : True := trivial
theorem Mine.law_holds.tw7407239408455114201 : True := trivial
theorem Mine.law_holds.tw7408322871517469003 : True := trivial
theorem Mine.law_holds.tw7408472829698581751 : True := trivial
theorem Mine.law_holds.tw745255978533919091 : True := trivial
theorem Mine.law_holds.tw7472407996622490835 : True := trivial
theorem Mine.law_holds.tw7480714314260584917 : True := trivial
theorem Mine.law_holds.tw7484302960587174374 : True := trivial
theorem Mine.law_holds.tw7497986649931050792 : True := trivial
theorem Mine.law_holds.tw7544913113114293122 : True := trivial
theorem Mine.law_holds.tw7631636504923648304 : True := trivial
theorem Mine.law_holds.tw7636989558263936852 : True := trivial
theorem Mine.law_holds.tw7731979676555859252 : True := trivial
theorem Mine.law_holds.tw7743764779111840046 : True := trivial
theorem Mine.law_holds.tw7767266014307106701 : True := trivial
theorem Mine.law_holds.tw7769649832755249146 : True := trivial
theorem Mine.law_holds.tw7775064044895347852 : True := trivial
theorem Mine.law_holds.tw7820799176418779761 : True := trivial
theorem Mine.law_holds.tw784011647948385275 : True := trivial
theorem Mine.law_holds.tw7917754353467396125 : True := trivial
theorem Mine.law_holds.tw7927716881314893052 : True := trivial
theorem Mine.law_holds.tw7983211939772527470 : True := trivial
theorem Mine.law_holds.tw7999808266745449018 : True := trivial
theorem Mine.law_holds.tw8035577848987061507 : True := trivial
theorem Mine.law_holds.tw8040771413219435098 : True := trivial
theorem Mine.law_holds.tw8045378594462670225 : True := trivial
theorem Mine.law_holds.tw8061732933902216757 : True := trivial
theorem Mine.law_holds.tw808278469055374699 : True := trivial
theorem Mine.law_holds.tw8137031500313473552 : True := trivial
theorem Mine.law_holds.tw8170779377897787297 : True := trivial
theorem Mine.law_holds.tw8191475993861738794 : True := trivial
theorem Mine.law_holds.tw8210953160692291510 : True := trivial
theorem Mine.law_holds.tw8222453361321333920 : True := trivial
theorem Mine.law_holds.tw8249079356659094474 : True := trivial
theorem Mine.law_holds.tw8283681822388582728 : True := trivial
theorem Mine.law_holds.tw8285764192309689115 : True := trivial
theorem Mine.law_holds.tw8297313697389066934 : True := trivial
theorem Mine.law_holds.tw8312275703017117140 : True := trivial
theorem Mine.law_holds.tw8312341600987523519 : True := trivial
theorem Mine.law_holds.tw8330938851228082562 : True := trivial
theorem Mine.law_holds.tw8369274380968253667 : True := trivial
theorem Mine.law_holds.tw8386679336120195906 : True := trivial
theorem Mine.law_holds.tw8417186165934385351 : True := trivial
theorem Mine.law_holds.tw8441880690091102137 : True := trivial
theorem Mine.law_holds.tw8481075993509181622 : True := trivial
theorem Mine.law_holds.tw850272041215511910 : True := trivial
theorem Mine.law_holds.tw8514742172934523775 : True := trivial
theorem Mine.law_holds.tw854160357203062022 : True := trivial
theorem Mine.law_holds.tw8549365171731915398 : True := trivial
theorem Mine.law_holds.tw8553002610548859549 : True := trivial
theorem Mine.law_holds.tw8572072892066365893 : True := trivial
theorem Mine.law_holds.tw8591876402714022951 : True := trivial
theorem Mine.law_holds.tw863230966790177721 : True := trivial
theorem Mine.law_holds.tw8652346329174877282 : True := trivial
theorem Mine.law_holds.tw8666519363043736892 : True := trivial
theorem Mine.law_holds.tw8712014163911447464 : True := trivial
theorem Mine.law_holds.tw8715444014776630742 : True := trivial
theorem Mine.law_holds.tw8720880381367431298 : True := trivial
theorem Mine.law_holds.tw8763168800255643514 : True := trivial
theorem Mine.law_holds.tw8785698371604719795 : True := trivial
theorem Mine.law_holds.tw8804120190785687885 : True := trivial
theorem Mine.law_holds.tw8806649888931605024 : True := trivial
theorem Mine.law_holds.tw881140697980615281 : True := trivial
theorem Mine.law_holds.tw8829074647290719032 : True := trivial
theorem Mine.law_holds.tw8835965917227929528 : True := trivial
theorem Mine.law_holds.tw8854015012368427407 : True := trivial
theorem Mine.law_holds.tw8856317710758748564 : True := trivial
theorem Mine.law_holds.tw8857742495270377987 : True := trivial
theorem Mine.law_holds.tw8922897050441119698 : True := trivial
theorem Mine.law_holds.tw8939018918628865471 : True := trivial
theorem Mine.law_holds.tw8970147916757833333 : True := trivial
theorem Mine.law_holds.tw8982592368679156308 : True := trivial
theorem Mine.law_holds.tw8984152853971343422 : True := trivial
theorem Mine.law_holds.tw8984712037535005518 : True := trivial
theorem Mine.law_holds.tw9009705080361974123 : True := trivial
theorem Mine.law_holds.tw9013377322688217293 : True := trivial
theorem Mine.law_holds.tw9032369906271771983 : True := trivial
theorem Mine.law_holds.tw9069877914133315304 : True := trivial
theorem Mine.law_holds.tw908389787484368193 : True := trivial
theorem Mine.law_holds.tw9168033884955339765 : True := trivial
theorem Mine.law_holds.tw9184033795430018204 : True := trivial
theorem Mine.law_holds.tw9187647767651647856 : True := trivial
theorem Mine.law_holds.tw9212889513913684515 : True := trivial
theorem Mine.law_holds.tw9220624806794609946 : True := trivial
theorem Mine.law_holds.tw9244455487569901997 : True := trivial
theorem Mine.law_holds.tw9255152265573255198 : True := trivial
theorem Mine.law_holds.tw926570990666696690 : True := trivial
theorem Mine.law_holds.tw9290190842861060508 : True := trivial
theorem Mine.law_holds.tw9317688335297629284 : True := trivial
theorem Mine.law_holds.tw9403268196540146800 : True := trivial
theorem Mine.law_holds.tw9423440377400516374 : True := trivial
theorem Mine.law_holds.tw9432226000188453795 : True := trivial
theorem Mine.law_holds.tw9432397437662838624 : True := trivial
theorem Mine.law_holds.tw9502071092897418529 : True := trivial
theorem Mine.law_holds.tw9524400087533092186 : True := trivial
theorem Mine.law_holds.tw9525127294725463027 : True := trivial
theorem Mine.law_holds.tw9529696498207198238 : True := trivial
theorem Mine.law_holds.tw9548147230944474901 : True := trivial
theorem Mine.law_holds.tw9552830710289189752 : True := trivial
theorem Mine.law_holds.tw9565868465647148232 : True := trivial
theorem Mine.law_holds.tw9634471323475708679 : True := trivial
theorem Mine.law_holds.tw9682718004065560343 : True := trivial
theorem Mine.law_holds.tw972601921857779769 : True := trivial
theorem Mine.law_holds.tw9746213474893016414 : True := trivial
theorem Mine.law_holds.tw9758593294864014727 : True := trivial
theorem Mine.law_holds.tw9779807473162285230 : True := trivial
theorem Mine.law_holds.tw9843604407834444796 : True := trivial
theorem Mine.law_holds.tw9871626496009991038 : True := trivial
theorem Mine.law_holds.tw9875236377963488844 : True := trivial
theorem Mine.law_holds.tw9887912731928775018 : True := trivial
theorem Mine.law_holds.tw9889521400790421688 : True := trivial
theorem Mine.law_holds.tw9897484093202304508 : True := trivial
theorem Mine.law_holds.tw9952934120092978494 : True := trivial
theorem Mine.law_holds.tw9975692261777386857 : True := trivial
theorem Mine.law_holds.tw9989359697036934923 : True := trivial
theorem Mine.law_holds.tw9992725586745946429 : True := trivial
namespace Mine
section
local macro_rules | `(tactic| o_head $_) => `(tactic| exact False.elim ‹False›)
set_option maxRecDepth 100000 in
set_option maxHeartbeats 0 in
theorem hd (f : False) : PySem.Challenge.rw_rh0217_02.row.Holds := by k_head
end
set_option maxRecDepth 100000 in
/-- the written heap, by address -/
def held : List Addr := 2 :: 3 :: 15 :: 17 :: 18 :: 20 :: 21 :: 30 :: 31 :: 32 :: 33 :: 34 :: 35 :: 36 :: 37 :: 39 :: 40 :: 42 :: 43 :: 44 :: 46 :: 47 :: 49 :: 50 :: 51 :: 53 :: 54 :: 56 :: 57 :: 58 :: 60 :: 61 :: 63 :: 64 :: 65 :: 67 :: 68 :: 70 :: 71 :: 72 :: 74 :: 75 :: 77 :: 78 :: 79 :: 81 :: 82 :: 84 :: 85 :: 86 :: 88 :: 89 :: 91 :: 92 :: 93 :: 95 :: 96 :: 98 :: 99 :: 100 :: 102 :: 103 :: 105 :: 106 :: 107 :: 109 :: 110 :: 112 :: 113 :: 114 :: 116 :: 117 :: 119 :: 120 :: 121 :: 123 :: 124 :: 126 :: 127 :: 128 :: 130 :: 131 :: 133 :: 134 :: 135 :: 142 :: 144 :: 145 :: 147 :: 148 :: 149 :: 150 :: 151 :: 152 :: 155 :: 162 :: 163 :: 164 :: 167 :: 174 :: 176 :: 177 :: 179 :: 180 :: 181 :: 182 :: 183 :: 186 :: 189 :: 190 :: 191 :: 193 :: 194 :: 196 :: 197 :: 198 :: 200 :: 201 :: 203 :: 204 :: 205 :: 207 :: 208 :: 210 :: 211 :: 217 :: 218 :: 219 :: 221 :: 222 :: 224 :: 225 :: 226 :: 228 :: 229 :: 231 :: 232 :: 233 :: 235 :: 236 :: 238 :: 239 :: 240 :: 242 :: 243 :: 245 :: 246 :: 247 :: 249 :: 250 :: 252 :: 253 :: 254 :: 256 :: 257 :: 259 :: 260 :: 261 :: 264 :: 265 :: 266 :: 268 :: 269 :: 271 :: 272 :: 273 :: 275 :: 276 :: 278 :: 279 :: 280 :: 282 :: 283 :: 285 :: 286 :: 287 :: 289 :: 290 :: 292 :: 293 :: 294 :: 297 :: 298 :: 306 :: 308 :: 309 :: 311 :: 312 :: 313 :: 315 :: 316 :: 318 :: 319 :: 320 :: 322 :: 323 :: 325 :: 326 :: 327 :: 329 :: 330 :: 332 :: 333 :: 334 :: 337 :: 338 :: 339 :: 341 :: 342 :: 344 :: 345 :: 346 :: 348 :: 349 :: 351 :: 352 :: 353 :: 354 :: 355 :: 356 :: 357 :: 360 :: 362 :: 363 :: 365 :: 366 :: 367 :: 375 :: 377 :: 378 :: 380 :: 381 :: 382 :: 384 :: 385 :: 387 :: 388 :: 389 :: 391 :: 392 :: 394 :: 395 :: 396 :: 398 :: 399 :: 401 :: 402 :: 403 :: 405 :: 406 :: 408 :: 409 :: 410 :: 412 :: 413 :: 415 :: 416 :: 417 :: 419 :: 420 :: 422 :: 423 :: 424 :: 426 :: 427 :: 429 :: 430 :: 431 :: 433 :: 434 :: 436 :: 437 :: 438 :: 439 :: 440 :: 441 :: 442 :: 445 :: 452 :: 454 :: 455 :: 457 :: 458 :: 459 :: 461 :: 462 :: 464 :: 465 :: 466 :: 468 :: 469 :: 471 :: 472 :: 473 :: 475 :: 476 :: 478 :: 479 :: 480 :: 481 :: 482 :: 485 :: 488 :: 489 :: 490 :: 492 :: 493 :: 495 :: 496 :: 497 :: 499 :: 500 :: 502 :: 503 :: 504 :: 507 :: 508 :: 509 :: 511 :: 512 :: 514 :: 515 :: 516 :: 517 :: 518 :: 519 :: 520 :: 521 :: 522 :: 523 :: 524 :: 525 :: 526 :: 527 :: 528 :: 529 :: 530 :: 531 :: 533 :: 534 :: 536 :: 537 :: 538 :: 541 :: 542 :: 543 :: 546 :: 547 :: 548 :: 551 :: 552 :: 553 :: 555 :: 556 :: 558 :: 559 :: 560 :: 562 :: 563 :: 565 :: 566 :: 567 :: 570 :: 571 :: 572 :: 575 :: 576 :: 577 :: 579 :: 580 :: 582 :: 583 :: 584 :: 586 :: 587 :: 589 :: 590 :: 591 :: 593 :: 594 :: 596 :: 597 :: 598 :: 600 :: 601 :: 603 :: 604 :: 605 :: 607 :: 608 :: 610 :: 611 :: 612 :: 614 :: 615 :: 617 :: 618 :: 619 :: 621 :: 622 :: 624 :: 625 :: 626 :: 627 :: 629 :: 630 :: 632 :: 633 :: 634 :: 637 :: 638 :: 639 :: 641 :: 642 :: 644 :: 645 :: 646 :: 648 :: 649 :: 651 :: 652 :: 653 :: 655 :: 656 :: 658 :: 659 :: 660 :: 662 :: 663 :: 665 :: 666 :: 667 :: 669 :: 670 :: 672 :: 673 :: 674 :: 676 :: 677 :: 679 :: 680 :: 681 :: 683 :: 684 :: 686 :: 687 :: 688 :: 690 :: 691 :: 693 :: 694 :: 695 :: 697 :: 698 :: 700 :: 701 :: 702 :: 704 :: 705 :: 707 :: 708 :: 709 :: 711 :: 712 :: 714 :: 715 :: 716 :: 718 :: 719 :: 721 :: 722 :: 730 :: 733 :: 734 :: 735 :: 737 :: 738 :: 740 :: 741 :: 742 :: 744 :: 745 :: 747 :: 748 :: 749 :: 751 :: 752 :: 754 :: 755 :: 756 :: 758 :: 759 :: 761 :: 762 :: 763 :: 764 :: 765 :: 766 :: 767 :: 770 :: 772 :: 773 :: 775 :: 776 :: 777 :: 779 :: 780 :: 782 :: 783 :: 784 :: 786 :: 787 :: 789 :: 790 :: 791 :: 794 :: 795 :: []
set_option maxRecDepth 100000 in
theorem held_eq : ∀ P, held = (hd.heap_1 P).map (·.1) := fun _ => by kernel_rfl
/-- the statements that the head's view keeps -/
def kept (l : List Stmt) : List Stmt := (l.drop 0).take 1 ++ ((l.drop 2).take 23 ++ ((l.drop 26).take 3 ++ ((l.drop 30).take 4 ++ ((l.drop 35).take 16 ++ ((l.drop 52).take 13 ++ ((l.drop 66).take 2 ++ ((l.drop 69).take 3 ++ ((l.drop 73).take 10 ++ ((l.drop 84).take 21 ++ ((l.drop 106).take 3 ++ ((l.drop 110).take 9 ++ ((l.drop 120).take 8 ++ ((l.drop 129).take 1 ++ ((l.drop 131).take 4))))))))))))))
def view : Program := { PySem.Challenge.rw_rh0217_02.row.toRowW.prog with main := { PySem.Challenge.rw_rh0217_02.row.toRowW.prog.main with body := kept PySem.Challenge.rw_rh0217_02.row.toRowW.prog.main.body } }
/-- what the head leaves to walk -/
def Walk : Prop := ∀ (loose : List Str) (lv : List (Str × WData)) (d : DefRec), (recsOf view).find? (fun e => e.name == PySem.Challenge.rw_rh0217_02.row.toRowW.name) = some d →
  WalkO view loose (XL view lv) (kHook hd.heap_1 held held_eq).says PySem.Challenge.rw_rh0217_02.row.toRowW d [] fun f vs => PySem.call f vs
/-- the head's lemma with the walk taken from the premises at once: `o_head` clears them from what it leaves -/
theorem PySem.W.holds_open {r : OpenRow} {q : Program} {loose : List Str} {Xt : Shared → Bool} {XP : (Str → Option Value) → Heap → Prop} {α : Type} {Yf : Shared → α} {Ya : World → α} {YP : World → Heap → Prop} {d : DefRec} {kwd : List (Str × PySem.Expr)} {N : Nat}
    (g1 : LeftO r.prog q loose Xt Yf Ya N) (g2 : ∀ w s, Yf s = Ya w → YP w s.heap) (g3 : ∀ w h h', YP w h → (∀ b o, h.get? b = some o → h'.get? b = some o) → YP w h') (g4 : ∀ s, Xt s = true → XP (s.heap.nsMap mainGlobals) s.heap)
    (g5 : ∀ mg h h', XP mg h → (∀ b o, h.get? b = some o → h'.get? b = some o) → XP mg h') (g6 : defOf q r.name = some (d, kwd)) (g7 : r.prog.theDef r.name = some (d.params, d.body, d.scope)) (g8 : kwWritten? d.params.kwonlyargs d.params.kw_defaults = some kwd)
    (g9 : ∀ s, Xt s = true → RecFacts r.records s.heap) (g10 : (!r.writes || r.records.isEmpty) = true) (g11 : r.wellSaid = true) (g12 : (chainsOk q && opensWell r.prog && (frees r.toRowW && r.within.isEmpty)) = true) (g13 : r.prog.bare) (g14 : r.toRowW.promised) (_g15 : True)
    (W : WalkO q loose XP YP r.toRowW d kwd (fun f vs => PySem.call f vs) := by exact (by assumption : Mine.Walk) _ _ _ rfl) : r.Holds := _root_.PySem.W.holds_open g1 g2 g3 g4 g5 g6 g7 g8 g9 g10 g11 g12 g13 g14 W
end Mine
set_option Elab.async true
set_option maxRecDepth 100000 in
set_option maxHeartbeats 0 in
theorem Mine.law_holds (W : Mine.Walk) : PySem.Challenge.rw_rh0217_02.Holds := by
  w_on
  o_law
  o_head (kHook Mine.hd.heap_1 Mine.held Mine.held_eq)
  (case hw => w_witness2)
  w_top off
  exact True.intro
set_option Elab.async false
set_option rowWalk.seconds 0
set_option linter.unusedVariables false
set_option linter.unusedSimpArgs false
set_option compiler.extract_closed false
namespace Mine
theorem ne_lt {a b : Nat} (h : a < b) : a ≠ b := Nat.ne_of_lt h
theorem ne_gt {a b : Nat} (h : b < a) : a ≠ b := Nat.ne_of_gt h
theorem room_le {d k n R : Nat} (h : d + n < R) (e : Nat.ble k n = true) : d + k < R := Nat.lt_of_le_of_lt (Nat.add_le_add_left (Nat.le_of_ble_eq_true e) d) h
theorem ite_ff {P Q : Prop} (hq : Q) : (if false = true then P else Q) := by
  rw [if_neg (by decide)]
  exact hq
end Mine
local macro_rules | `(tactic| k_ne) => `(tactic| (refine neN ?_; (try dsimp only); first | exact Mine.ne_lt (by with_reducible assumption) | exact Mine.ne_gt (by with_reducible assumption)))
local macro_rules | `(tactic| k_lt $h:ident) => `(tactic| (replace $h:ident := allLt_of $h; simp only [AllLt, and_true] at $h:ident; (repeat (have hkl' := And.left $h; replace $h:ident := And.right $h))))
local macro_rules | `(tactic| ktr_room) => `(tactic| ((try dsimp only [depth_under_make, depth_under_kw, depth_in1, depth_deeper, depth_caller]); (try dsimp only [ktrTop]); (try simp only [Nat.add_assoc, Nat.reduceAdd]); refine' Mine.room_le ?rh ?re; (case rh => assumption); (case re => exact rfl)))
local macro_rules | `(tactic| ktr_units) => `(tactic| ((try dsimp only [units_under_make, units_in1, units_deeper, Around.mark_units, units_caller]); (try dsimp only [ktrTop]); (try simp only [Nat.add_assoc, Nat.reduceAdd]); refine' Mine.room_le ?rh ?re; (case rh => assumption); (case re => exact rfl)))
local macro_rules | `(tactic| k_room) => `(tactic| ktr_room)
local macro_rules | `(tactic| walk_at "om") => `(tactic| first | (with_reducible assumption) | decide | (with_reducible exact Int.natCast_nonneg _) | (with_reducible exact And.left (by assumption)) | (with_reducible exact Int.add_nonneg (by decide) (Int.natCast_nonneg _)) | omega)
open Mine
section
namespace Mine
section
variable {prog : Program} {w : World} {A : Around} {E : Value → Shared → Prop} {s : Shared} {h₀ : Heap} {L : Addr} {m : Str → Option Value} {env : Env}

/-- the source of a comprehension over a range of any step -/
def SrcS (prog : Program) (w : World) (A : Around) (h₀ : Heap) (L : Addr) (m : Str → Option Value) (env : Env) (elt : Expr) (x : Str) (scope : Scope) (cl : List (Str × Addr)) (Fin : Shared → List Value → List (Addr × Obj) → Prop) (xv : Value) (s₁ : Shared) : Prop :=
  ∃ r a b c t u v n news, xv = .ref r ∧ A.handled = none ∧ Fr h₀ L s₁.heap m ∧ News h₀ L s₁.heap news ∧ IsRange s₁.heap r a b c t u v ∧ Builtin.Range.small a b c = true ∧ Builtin.Range.rangeSize a b c = ((n : Nat) : Int) ∧ n ≤ sizeLine ∧
    ∀ g, LCg.CompRest prog w A h₀ L m env elt x scope cl { s₁ with heap := g } (fun _ => True) (fun i v => ∃ t, v = .int (a + (i : Int) * c) t) (Fin { s₁ with heap := g }) n 0 [] news
theorem SrcS.intro {elt : Expr} {x : Str} {scope : Scope} {cl : List (Str × Addr)} {Fin : Shared → List Value → List (Addr × Obj) → Prop} {r : Addr} {a b c : Int} {t u v : Tok} {n : Nat} {news : List (Addr × Obj)} {s₁ : Shared}
    (hh : A.handled = none) (F : Fr h₀ L s₁.heap m) (N : News h₀ L s₁.heap news) (hr : IsRange s₁.heap r a b c t u v) (hsm : Builtin.Range.small a b c = true) (hn : Builtin.Range.rangeSize a b c = ((n : Nat) : Int)) (hz : n ≤ sizeLine)
    (h : ∀ g, LCg.CompRest prog w A h₀ L m env elt x scope cl { s₁ with heap := g } (fun _ => True) (fun i v => ∃ t, v = .int (a + (i : Int) * c) t) (Fin { s₁ with heap := g }) n 0 [] news) :
    SrcS prog w A h₀ L m env elt x scope cl Fin (.ref r) s₁ := ⟨r, a, b, c, t, u, v, n, news, rfl, hh, F, N, hr, hsm, hn, hz, h⟩

theorem comp_steps {elt iter : Expr} {x : Str} {px : Pos} {scope : Scope} {cl : List (Str × Addr)} {pos : Pos} {Q : Value → Shared → Prop} (F₀ : Fr h₀ L s.heap m)
    (hclos : closureFor scope env = pure cl) (hcell : ∀ y ∈ scope.names, y.2 ≠ .cell) (hkind : scope.kind = .function)
    (hnames : ∀ y ∈ scope.names, y.2 = .local → scope.names.lookup y.1 = some .local) (hx : scope.names.lookup x = some .local)
    (h : wpAny (model prog w) A (eval iter env) (SrcS prog w A h₀ L m env elt x scope cl (fun s₂ => LCg.FinE h₀ L m s₂ Q)) E s)
    (hs : ∀ x, foldedSetIterable iter env x = pure x := by intro _; rfl) :
    wpAny (model prog w) A (eval (.ListComp elt [⟨.Name x px, iter, [], 0⟩] scope pos) env) Q E s := by
  rw [eval_ListComp]
  refine wpAny_comprehension_free (use := none) rfl hs hclos hkind hnames (wpAny_mono h (fun xv s₁ h₁ => ?_) fun _ _ e => e)
  obtain ⟨r, a, b, c, t, u, v, n, news, rfl, hh, F, N, hr, hsm, hn, hz, R⟩ := h₁
  refine wpAny_pyIter_range hr hsm ?_
  refine LCg.block_U (Walks.range hh s₁.heap.objs.size a c n) hz (fun i h st => ⟨_, st⟩) (fun i h h' o nw st e e' _ _ _ => ?_) hcell hkind hx ?_ (fun b hb => ?_)
    (F.keeps fun _ _ e => Heap.get?_push_of_some _ e) (N.grown fun _ _ e => Heap.get?_push_of_some _ e) (Nat.ne_of_lt F.ns.lt) (next_is_new F) (fun p hp => Nat.ne_of_lt (Heap.lt_size (N p hp).1)) trivial (R _) ?_
  · have st' : h.get? s₁.heap.objs.size = some _ := st
    show h'.get? s₁.heap.objs.size = some _
    rw [e', ← e]; exact st'
  · show IsRangeIter _ _ _ _ _
    rw [hn]
    simpa using Heap.get?_push_size _ rfl
  · rw [List.mem_singleton.mp hb]
    show s₁.heap.objs.size < (s₁.heap.push _).objs.size
    rw [Heap.size_push]; exact Nat.lt_succ_self _
  · intro D C h tk m' ys news' F' N' o1 hm' hC₀ hD₀ hCL hDL hCD offC fin
    refine ⟨m', hm', fun h'' hs'' => fin D h'' tk (F'.change hs'' hCL hC₀) (fun p hp => ?_) o1⟩
    refine ⟨hs''.extBut _ _ ?_ (N' p hp).1, (N' p hp).2⟩
    rcases List.mem_cons.mp hp with rfl | hp
    · exact Ne.symm hCD
    · exact offC p hp

/-- the source of a comprehension over a written tuple of the ledger -/
def SrcT (prog : Program) (w : World) (A : Around) (h₀ : Heap) (L : Addr) (m : Str → Option Value) (env : Env) (elt : Expr) (x : Str) (scope : Scope) (cl : List (Str × Addr)) (Fin : Shared → List Value → List (Addr × Obj) → Prop) (xv : Value) (s₁ : Shared) : Prop :=
  ∃ ax items n news, xv = .ref ax ∧ A.handled = none ∧ Fr h₀ L s₁.heap m ∧ News h₀ L s₁.heap news ∧ (ax, ({ cls := .type "tuple", data := .seq items n } : Obj)) ∈ news ∧ items.size ≤ sizeLine ∧
    ∀ g, LCg.CompRest prog w A h₀ L m env elt x scope cl { s₁ with heap := g } (fun nw => (ax, ({ cls := .type "tuple", data := .seq items n } : Obj)) ∈ nw) (fun i v => items[i]? = some v) (Fin { s₁ with heap := g }) items.size 0 [] news
theorem SrcT.intro {elt : Expr} {x : Str} {scope : Scope} {cl : List (Str × Addr)} {Fin : Shared → List Value → List (Addr × Obj) → Prop} {ax : Addr} {items : Array Value} {n : Nat} {news : List (Addr × Obj)} {s₁ : Shared}
    (hh : A.handled = none) (F : Fr h₀ L s₁.heap m) (N : News h₀ L s₁.heap news) (hm : (ax, ({ cls := .type "tuple", data := .seq items n } : Obj)) ∈ news) (hz : items.size ≤ sizeLine)
    (h : ∀ g, LCg.CompRest prog w A h₀ L m env elt x scope cl { s₁ with heap := g } (fun nw => (ax, ({ cls := .type "tuple", data := .seq items n } : Obj)) ∈ nw) (fun i v => items[i]? = some v) (Fin { s₁ with heap := g }) items.size 0 [] news) :
    SrcT prog w A h₀ L m env elt x scope cl Fin (.ref ax) s₁ := ⟨ax, items, n, news, rfl, hh, F, N, hm, hz, h⟩

theorem comp_tuple {elt iter : Expr} {x : Str} {px : Pos} {scope : Scope} {cl : List (Str × Addr)} {pos : Pos} {Q : Value → Shared → Prop} (F₀ : Fr h₀ L s.heap m)
    (hclos : closureFor scope env = pure cl) (hcell : ∀ y ∈ scope.names, y.2 ≠ .cell) (hkind : scope.kind = .function)
    (hnames : ∀ y ∈ scope.names, y.2 = .local → scope.names.lookup y.1 = some .local) (hx : scope.names.lookup x = some .local)
    (h : wpAny (model prog w) A (eval iter env) (SrcT prog w A h₀ L m env elt x scope cl (fun s₂ => LCg.FinE h₀ L m s₂ Q)) E s)
    (hs : ∀ x, foldedSetIterable iter env x = pure x := by intro _; rfl) :
    wpAny (model prog w) A (eval (.ListComp elt [⟨.Name x px, iter, [], 0⟩] scope pos) env) Q E s := by
  rw [eval_ListComp]
  refine wpAny_comprehension_free (use := none) rfl hs hclos hkind hnames (wpAny_mono h (fun xv s₁ h₁ => ?_) fun _ _ e => e)
  obtain ⟨ax, items, n, news, rfl, hh, F, N, hm, hz, R⟩ := h₁
  have ht : s₁.heap.IsTuple ax items := ⟨_, (N _ hm).1, rfl, n, rfl⟩
  have hlt : ax < s₁.heap.objs.size := Heap.lt_size (N _ hm).1
  refine wpAny_pyIter_tuple ht ?_
  refine LCg.block_U (S := fun nw => (ax, ({ cls := .type "tuple", data := .seq items n } : Obj)) ∈ nw) (Walks.tuple hh s₁.heap.objs.size ax (Nat.ne_of_lt hlt) items) hz (fun i h st => by obtain ⟨o, e, _⟩ := st.1; exact ⟨o, e⟩)
    (fun i h h' o nw st e e' _ Nw Sw => ?_) hcell hkind hx ?_ (fun b hb => ?_)
    (F.keeps fun _ _ e => Heap.get?_push_of_some _ e) (N.grown fun _ _ e => Heap.get?_push_of_some _ e) (Nat.ne_of_lt F.ns.lt) (next_is_new F) (fun p hp => Nat.ne_of_lt (Heap.lt_size (N p hp).1)) hm (R _) ?_
  · refine ⟨?_, ⟨_, (Nw _ Sw).1, rfl, n, rfl⟩⟩
    obtain ⟨o', q, r⟩ := st.1
    rw [e] at q; cases q
    exact ⟨o, e', r⟩
  · exact ⟨⟨_, Heap.get?_push_size _ rfl, rfl, rfl⟩, ⟨_, Heap.get?_push_of_some _ (N _ hm).1, rfl, n, rfl⟩⟩
  · show b < (s₁.heap.push _).objs.size
    rw [Heap.size_push]
    rcases List.mem_cons.mp hb with rfl | hb
    · exact Nat.lt_succ_self _
    · rw [List.mem_singleton.mp hb]; exact Nat.lt_succ_of_lt hlt
  · intro D C h tk m' ys news' F' N' o1 hm' hC₀ hD₀ hCL hDL hCD offC fin
    refine ⟨m', hm', fun h'' hs'' => fin D h'' tk (F'.change hs'' hCL hC₀) (fun p hp => ?_) o1⟩
    refine ⟨hs''.extBut _ _ ?_ (N' p hp).1, (N' p hp).2⟩
    rcases List.mem_cons.mp hp with rfl | hp
    · exact Ne.symm hCD
    · exact offC p hp
end

/-- the octets of a number, the greatest first -/
def oct1 (n : Int) : Array UInt8 := byteArr [n % 256]
def oct2 (n : Int) : Array UInt8 := byteArr [n / 256 % 256, n % 256]
def oct4 (n : Int) : Array UInt8 := byteArr [n / 16777216 % 256, n / 65536 % 256, n / 256 % 256, n % 256]
theorem fd (n : Int) {k : Int} (h : 0 ≤ k) : n.fdiv k = n / k := Int.fdiv_eq_ediv_of_nonneg n h
theorem oct1_eq (n : Int) : byteArr [Builtin.bitAnd (n.fdiv (2 ^ (8 * ((1 : Int) - 1 + ((0 : Nat) : Int) * -1)).toNat)) 255] = oct1 n := by
  show byteArr [Builtin.bitAnd (n.fdiv 1) 255] = oct1 n
  rw [bitAnd_m8, fd n (by decide), Int.ediv_one]; rfl
theorem oct2_eq (n : Int) : byteArr [Builtin.bitAnd (n.fdiv (2 ^ (8 * ((2 : Int) - 1 + ((0 : Nat) : Int) * -1)).toNat)) 255, Builtin.bitAnd (n.fdiv (2 ^ (8 * ((2 : Int) - 1 + ((0 + 1 : Nat) : Int) * -1)).toNat)) 255] = oct2 n := by
  show byteArr [Builtin.bitAnd (n.fdiv 256) 255, Builtin.bitAnd (n.fdiv 1) 255] = oct2 n
  rw [bitAnd_m8, bitAnd_m8, fd n (by decide), fd n (by decide), Int.ediv_one]; rfl
theorem oct4_eq (n : Int) : byteArr [Builtin.bitAnd (n.fdiv (2 ^ (8 * ((4 : Int) - 1 + ((0 : Nat) : Int) * -1)).toNat)) 255, Builtin.bitAnd (n.fdiv (2 ^ (8 * ((4 : Int) - 1 + ((0 + 1 : Nat) : Int) * -1)).toNat)) 255,
    Builtin.bitAnd (n.fdiv (2 ^ (8 * ((4 : Int) - 1 + ((0 + 1 + 1 : Nat) : Int) * -1)).toNat)) 255, Builtin.bitAnd (n.fdiv (2 ^ (8 * ((4 : Int) - 1 + ((0 + 1 + 1 + 1 : Nat) : Int) * -1)).toNat)) 255] = oct4 n := by
  show byteArr [Builtin.bitAnd (n.fdiv 16777216) 255, Builtin.bitAnd (n.fdiv 65536) 255, Builtin.bitAnd (n.fdiv 256) 255, Builtin.bitAnd (n.fdiv 1) 255] = oct4 n
  rw [bitAnd_m8, bitAnd_m8, bitAnd_m8, bitAnd_m8, fd n (by decide), fd n (by decide), fd n (by decide), fd n (by decide), Int.ediv_one]; rfl
theorem in_oct {ns : List Int} (h : ∀ n ∈ ns, ∃ x, n = Builtin.bitAnd x 255) : KBa.In ns := fun n hn => by
  obtain ⟨x, rfl⟩ := h n hn
  rw [bitAnd_m8]; omega
theorem all_nil {P : Int → Prop} : ∀ n ∈ ([] : List Int), P n := fun _ h => nomatch h
theorem all_cons {P : Int → Prop} {a : Int} {l : List Int} (h : P a) (t : ∀ n ∈ l, P n) : ∀ n ∈ a :: l, P n := fun n hn => by
  rcases List.mem_cons.mp hn with rfl | hn
  · exact h
  · exact t n hn
end Mine
end
section
set_option maxRecDepth 100000
namespace Mine
section
variable {prog : Program} {w : World} {A : Around} {E : Value → Shared → Prop} {R : Result → Shared → Prop} {h : Heap} {g : Array GenState} {d : Drawn} {t : Nat} {os : OsState}
variable {nm q : Str} {C N : Addr} {bs bm : List Value} {hdct : Bool} {sn : List Str} {sub : List Value} {ab : Bool} {col : Option Bool} {dd : Option Addr} {k0 k1 k2 k3 k5 : Option Value}

/-- the tail of an own exception class, under a class of the text's that stands under Exception -/
structure Tail (C : Addr) (bm : List Value) : Prop where
  B : (Value.ref C :: bm).contains (.type "Exception") = true
  A : (Value.ref C :: bm).contains (.type "AttributeError") = false
  N : (Value.ref C :: bm).contains (.type "NameError") = false
  Z : (Value.ref C :: bm).contains (.type "BaseException") = true

theorem own_new_check (T : Tail C bm) {M : Model} {rest : List Value} {Q : Unit → Shared → Prop} (hC : h.get? C = some (excClassObj nm q C N bs bm hdct sn sub ab col dd k0 k1 k2 k3 k5 "Exception.__new__"))
    (hq : Q () ⟨h, g, d, t, os⟩) : wpAny M A (checkBuiltinCall "Exception.__new__" ⟨.ref C :: rest, []⟩) Q E ⟨h, g, d, t, os⟩ := by
  have F := PySem.F.excBase_Exception
  have hB := T.B
  have hstar := F.noStar
  simp only [checkBuiltinCall, F.newKind, F.newSplit, F.newRow]
  repeat (first | refine wpAny_loadPart_at hC ?_ | (refine wpAny_isSubtype_exc hC ?_; rw [hB]) | refine wpAny_staticBase_exc hC ?_ | refine wpAny_madeBy_exc hC ?_ | simp only [bne_self_eq_false, Bool.false_eq_true, if_false] | wp_step)
  exact hq

theorem own_new (T : Tail C bm) {rest : List Value} (hC : h.get? C = some (excClassObj nm q C N bs bm hdct sn sub ab col dd k0 k1 k2 k3 k5 "Exception.__new__"))
    (hq : R (.ok (.ret (.ref (h.objs.size + 1)))) ⟨(h.push { cls := .type "tuple", data := .seq rest.toArray }).push
      { cls := .ref C, data := .fields #[.ref h.objs.size, .none, .none, .none, .bool false, .none] }, g, d, t, os⟩) (hrest : rest.length ≤ sizeLine) :
    codeAny (model prog w) A (.builtin "Exception.__new__" ⟨.ref C :: rest, []⟩) R ⟨h, g, d, t, os⟩ := by
  have F := PySem.F.excBase_Exception
  have hends := F.ends
  have hB := T.B
  have hA := T.A
  have hN := T.N
  refine codeAny_builtinAt F.entry ?_
  unfold Builtin.«BaseException.__new__»
  refine PySem.wpAt_bind ?_
  show PySem.wpAt _ _ _ (stack >>= _) _ _ _
  refine PySem.wpAt_bind (PySem.wpAt_stack fun p below => PySem.wpAt_of_wpAny ?_)
  wp_walk
  refine PySem.wpAt_of_wpAny ?_
  rw [F.owner]
  repeat (first | with_reducible refine wpAny_madeHere_exc F.canon hC ?_ | with_reducible refine wpAny_loadPart_at hC ?_ | (with_reducible refine wpAny_isSubtype_exc hC ?_; first | rw [hB] | rw [hA] | rw [hN]) | wp_step)
  show R _ _
  rw [Heap.size_push]
  exact hq

theorem own_type_call (T : Tail C bm) {rest : List Value} {fI : Addr} {Q : Fin → Shared → Prop} (hC : h.get? C = some (excClassObj nm q C N bs bm hdct sn sub ab col dd k0 k1 k2 k3 k5 "Exception.__new__"))
    (hi : Looks (model prog w) h (typeLookup (.ref C) "__init__") (some (.ref fI))) (hfI : Looks (model prog w) h (typeOf (.ref fI)) (.type "function"))
    (hq : ∀ h' e, Heap.MadeExcOf h h' e (.ref C) rest →
      wpAny (model prog w) A (call (.ref fI) (.ref e :: rest)) (fun r s' => r = .none ∧ Q (.done (.ret (.ref e))) s') E ⟨h', g, d, t, os⟩) (hrest : rest.length ≤ sizeLine) :
    wpAny (model prog w) A (Builtin.«type.__call__» ⟨.ref C :: rest, []⟩) Q E ⟨h, g, d, t, os⟩ := by
  have F := PySem.F.excBase_Exception
  repeat (first | with_reducible refine wpAny_loadPart_at hC ?_ | with_reducible refine wpAny_madeBy_exc hC ?_ | wp_step)
  refine codeAny_call_builtin_code (Code.quiet_builtin _ F.quiet) (own_new_check T hC ?_)
  refine own_new T hC ?_ hrest
  show wpAny _ _ _ _ _ _
  have up : ∀ b o, h.get? b = some o → ((h.push { cls := .type "tuple", data := .seq rest.toArray }).push { cls := .ref C, data := .fields #[.ref h.objs.size, .none, .none, .none, .bool false, .none] }).get? b = some o :=
    fun b o e => Heap.get?_push_of_some _ (Heap.get?_push_of_some _ e)
  have hC₁ := up _ _ hC
  have hget : ((h.push { cls := .type "tuple", data := .seq rest.toArray }).push
      { cls := .ref C, data := .fields #[.ref h.objs.size, .none, .none, .none, .bool false, .none] }).get? (h.objs.size + 1) = some
      { cls := .ref C, data := .fields #[.ref h.objs.size, .none, .none, .none, .bool false, .none] } := by heap_get
  have hcC : (Value.ref C :: bm).contains (.ref C) = true := by simp
  unfold isInstance
  repeat (first | with_reducible refine wpAny_loadPart_at hget ?_ | (with_reducible refine wpAny_isSubtype_exc hC₁ ?_; rw [hcC]) | wp_step)
  show wpAny _ _ (typeLookup (.ref C) _) _ _ _
  refine (hi.keeps up).here ?_
  refine wpAny_holding (wpAny_bind ?_)
  unfold bindSpecial
  refine wpAny_bind ((hfI.keeps up).here ?_)
  rw [if_pos (by decide)]
  refine wpAny_pure (wpAny_bind (wpAny_mono (hq _ (h.objs.size + 1) ⟨up, Heap.get?_none_of_le (Nat.le_succ _), h.objs.size, hget, Heap.get?_none_of_le (Nat.le_refl _), ?_⟩) (fun r s' hr => ?_) fun _ _ x => x))
  · exact Heap.get?_push_of_some _ (Heap.get?_push_at rfl rfl)
  · obtain ⟨rfl, hQ⟩ := hr
    wp_walk
    exact hQ

/-- making an object of an own exception class whose __init__ is a def of the text's -/
theorem own_make (T : Tail C bm) {rest : List Value} {fI : Addr} {Q : Value → Shared → Prop} (hC : h.get? C = some (excClassObj nm q C N bs bm hdct sn sub ab col dd k0 k1 k2 k3 k5 "Exception.__new__"))
    (hi : Looks (model prog w) h (typeLookup (.ref C) "__init__") (some (.ref fI))) (hfI : Looks (model prog w) h (typeOf (.ref fI)) (.type "function"))
    (hq : ∀ h' e, Heap.MadeExcOf h h' e (.ref C) rest →
      wpAny (model prog w) (A.under (.builtin "type.__call__" ⟨.ref C :: rest, []⟩)) (call (.ref fI) (.ref e :: rest)) (fun r s' => r = .none ∧ Q (.ref e) s') E ⟨h', g, d, t, os⟩) (hrest : rest.length ≤ sizeLine) :
    wpAny (model prog w) A (call (.ref C) rest) Q E ⟨h, g, d, t, os⟩ := by
  have f1 := tc_lookup
  have f2 := tc_bind (.ref C)
  have hT : (⟨h, g, d, t, os⟩ : Shared).TypeIs (.ref C) "type" := ⟨_, hC, rfl⟩
  refine wpAny_call (codeAny_of_tree ?_)
  show wpAny _ _ (callAny (.ref C) _) _ _ _
  repeat (any_goals (first | assumption | with_reducible refine wpAny_loadPart_at hC ?_ | wp_step))
  refine ⟨rfl, ?_⟩
  refine codeAny_call_builtin_at (Code.quiet_builtin _ (by decide +kernel)) entry_typeCall (wpAny_check_type_call_sub hC (own_type_call T hC hi hfI (fun h' e hm => ?_) hrest))
  exact hq h' e hm

theorem own_init_check (T : Tail C bm) {M : Model} {e : Addr} {oe : Obj} {rest : List Value} {Q : Unit → Shared → Prop} (hC : h.get? C = some (excClassObj nm q C N bs bm hdct sn sub ab col dd k0 k1 k2 k3 k5 "Exception.__new__"))
    (he : h.get? e = some oe) (hcls : oe.cls = .ref C) (hq : Q () ⟨h, g, d, t, os⟩) : wpAny M A (checkBuiltinCall "Exception.__init__" ⟨.ref e :: rest, []⟩) Q E ⟨h, g, d, t, os⟩ := by
  have F := PySem.F.excBase_Exception
  have hB := T.B
  have hshort := F.noStar
  simp only [checkBuiltinCall, F.initKind, F.initSplit, F.initRow]
  repeat (first | (with_reducible refine wpAny_loadPart_at he ?_; rw [hcls]) | with_reducible refine wpAny_loadPart_at hC ?_ | (with_reducible refine wpAny_isSubtype_exc hC ?_; rw [hB]) | wp_step)
  refine wpAny_onRaise ?_
  rw [show ∀ (a b : String) (n : Nat), Bind.check ⟨.positional, "*", "Exception", .self, [⟨"args", .varPos, false⟩]⟩ a b n (List.map (fun x => x.fst) ({ pos := Value.ref e :: rest } : Args).kw) = pure () from
    fun a b n => check_star_args _ _ _ _ _ _]
  exact wpAny_pure hq

abbrev excO (C : Addr) (dd : Option Addr) (t : Addr) : Obj := { cls := .ref C, dict := dd, data := .fields #[.ref t, .none, .none, .none, .bool false, .none] }
abbrev tupO (l : List Value) : Obj := { cls := .type "tuple", data := .seq l.toArray }

theorem own_init (T : Tail C bm) {e t0 : Addr} {de : Option Addr} {v : Value} {Q : Value → Shared → Prop} (hC : h.get? C = some (excClassObj nm q C N bs bm hdct sn sub ab col dd k0 k1 k2 k3 k5 "Exception.__new__"))
    (he : h.get? e = some (excO C de t0)) (hq : Q .none ⟨(h.push (tupO [v])).update e (Obj.mapFields (·.setIfInBounds 0 (.ref h.objs.size))), g, d, t, os⟩) :
    wpAny (model prog w) A (call (.builtin "Exception.__init__") [.ref e, v]) Q E ⟨h, g, d, t, os⟩ := by
  have F := PySem.F.excBase_Exception
  refine wpAny_call (codeAny_call_builtin F.init.plain F.initEntry (own_init_check T hC he rfl ?_))
  have he₁ := Heap.get?_push_of_some (tupO [v]) he
  unfold Builtin.«BaseException.__init__»
  wp_walk
  trace_state
  exact hq
end
end Mine
end
section
set_option maxRecDepth 100000
open Builtin Builtin.ObjectAttr
namespace Mine
theorem refuse_exc (self : Value) : refuseLoop self "__setattr__" [.type "Exception", .type "BaseException", .type "object"] = pure () := by
  kernel_rfl
section
variable {prog : Program} {w : World} {A : Around} {E : Value → Shared → Prop} {s : Shared} {K : Frag} {e t0 C P : Addr} {h₀ : Heap} {L : Addr} {m : Str → Option Value} {news : List (Addr × Obj)}

theorem own_store {cd : ClassData} {name : Str} {v : Value} {Q : Unit → Shared → Prop} (F : Fr h₀ L s.heap m) (X₀ : K.In h₀) (N : News h₀ L s.heap ((e, excO C none t0) :: news)) (hne : ∀ p ∈ news, p.1 ≠ e)
    (hs : findIn K (.ref C) "__setattr__" = some (some (.builtin "object.__setattr__"))) (hc : clsIn K C = some cd) (hm : cd.mro = [.ref C, .ref P, .type "Exception", .type "BaseException", .type "object"])
    (hd : cd.hasDict = true) (ha : findIn K (.ref C) name = some none)
    (h : ∀ d1 o1 h' tk, Fr h₀ L h' m → News h₀ L h' ((e, excO C (some d1) t0) :: (d1, o1) :: news) → Q () { s with heap := h', toks := tk }) :
    wpAny (model prog w) A (setAttr (.ref e) name v) Q E s := by
  have X := X₀.keeps F.keep
  have he := (N _ (.head _)).1
  have I : W.InstAt s.heap e (excO C none t0) C none := ⟨he, rfl, rfl, trivial⟩
  refine set_plain X I hs ?_
  have SF := PySem.F.store_object
  have mr : Looks (model prog w) s.heap (mroOf (.ref C)) cd.mro := (looks_clsIn X hc).andThen .now
  have sub : Looks (model prog w) s.heap (isInstance (.ref e) (.type "object")) true := I.type.andThen (looks_mroIn X (by
    unfold mroIn; rw [hc, Option.bind_some, hm, if_neg (by simp)]
    simp))
  obtain ⟨hp, g, d, tk, os⟩ := s
  refine codeAny_call_builtin SF.slot.plain SF.entry (@check_slot (model prog w) _ _ _ "object.__setattr__" "object" "__setattr__" (.ref e) [.str name _, v] [] _ SF.kind SF.split sub (SF.args (.ref e) (.str name _) v) ?_)
  rw [osa_eq, refuse_eq]
  refine wpAny_bind (wpAny_bind (I.type.at (wpAny_bind (mr.at ?_))))
  rw [hm, refuseLoop_ref, refuseLoop_ref, refuse_exc]
  refine wpAny_pure (wpAny_bind (I.type.at (wpAny_bind ((looks_findIn X ha).at ?_))))
  refine wpAny_bind (wpAny_pure ?_)
  dsimp only
  unfold storeInOwnDict
  refine wpAny_bind (wpAny_of_eq (a := ()) rfl ?_)
  rw [if_neg (by simp)]
  refine wpAny_bind ?_
  show wpAny _ _ (instanceDict e true) _ _ _
  unfold instanceDict
  refine wpAny_bind (wpAny_loadPart_at he ?_)
  dsimp only
  refine wpAny_bind ((looks_clsIn X hc).at ?_)
  rw [hd]
  rw [if_neg (by decide), if_neg (by show ¬ (!true || !true) = true; decide)]
  refine wpAny_bind (wpAny_alloc ?_)
  have N1 := N.push F emptyDict
  have F1 := F.push emptyDict
  have hDe : hp.objs.size ≠ e := Nat.ne_of_gt (Heap.lt_size he)
  obtain ⟨F2, N2⟩ := news_upd (pre := [(hp.objs.size, emptyDict)]) (d := e) (o := excO C none t0) (o' := excO C (some hp.objs.size) t0) (f := fun o => { o with dict := some hp.objs.size }) F1 N1
    (fun p hp => by rw [List.mem_singleton.mp hp]; exact hDe) hne rfl rfl
  refine wpAny_bind (wpAny_update (N1 _ (.tail _ (.head _))).1 ?_)
  refine wpAny_pure (a := some hp.objs.size) ?_
  dsimp only
  unfold storeInDict newKeyGuard
  refine wpAny_bind (wpAny_pure (wpAny_bind ?_))
  unfold nsSet
  have D2 := (N2 _ (.head _)).1
  refine wpAny_bind (wpAny_bind (wpAny_askSetting (wpAny_pure (wpAny_bind (wpAny_mkText (wpAny_bind (wpAny_loadPart D2 ?_)))))))
  dsimp only
  rw [aRefKeyMayBeTheName_at]
  rw [if_neg (by simp)]
  generalize hk : (if name.cps.isEmpty = true then 0 else reduceHash _) = hsh
  have e3 : Obj.putName name hsh (.str name (tk + 1)) v emptyDict = dictOf [⟨hsh, .str name (tk + 1), v⟩] 1 := putName_dict name hsh (.str name (tk + 1)) v [] 0
  obtain ⟨F3, N3⟩ := news_upd (pre := []) (d := hp.objs.size) (o := emptyDict) (o' := dictOf [⟨hsh, .str name (tk + 1), v⟩] 1) (f := Obj.putName name hsh (.str name (tk + 1)) v) F2 N2
    (fun p hp => nomatch hp) (fun p hq => by
      rcases List.mem_cons.mp hq with rfl | hq
      · exact hDe.symm
      · exact Nat.ne_of_lt (Heap.lt_size (N p (.tail _ hq)).1)) e3 rfl
  refine wpAny_updatePart D2 ?_
  refine wpAny_bind (wpAny_lookBehind (N3 _ (.head _)).1 rfl ?_)
  refine wpAny_pure ?_
  exact h _ _ _ _ F3 fun p hp => by
    refine N3 p ?_
    rcases List.mem_cons.mp hp with rfl | hp
    · exact .tail _ (.head _)
    · rcases List.mem_cons.mp hp with rfl | hp
      · exact .head _
      · exact .tail _ (.tail _ hp)

theorem own_initK {bm : List Value} {nm q : Str} {N' : Addr} {bs : List Value} {hdct : Bool} {sn : List Str} {sub : List Value} {ab : Bool} {col : Option Bool} {dd : Option Addr} {k0 k1 k2 k3 k5 : Option Value} {de : Option Addr} {v : Value} {Q : Value → Shared → Prop}
    (F : Fr h₀ L s.heap m) (X₀ : K.In h₀) (N : News h₀ L s.heap ((e, excO C de t0) :: news)) (hne : ∀ p ∈ news, p.1 ≠ e)
    (hl : K.lookup C = some (excClassObj nm q C N' bs bm hdct sn sub ab col dd k0 k1 k2 k3 k5 "Exception.__new__")) (T : Tail C bm)
    (h : ∀ (t1 : Addr) h', t1 ≠ e → (∀ p ∈ news, p.1 ≠ t1) → Fr h₀ L h' m → News h₀ L h' ((e, excO C de t1) :: (t1, tupO [v]) :: news) → Q .none { s with heap := h' }) :
    wpAny (model prog w) A (call (.builtin "Exception.__init__") [.ref e, v]) Q E s := by
  have X := X₀.keeps F.keep
  have he := (N _ (.head _)).1
  obtain ⟨hp, g, d, tk, os⟩ := s
  refine own_init T (X _ _ hl) he ?_
  have N1 := N.push F (tupO [v])
  have F1 := F.push (tupO [v])
  have hDe : hp.objs.size ≠ e := Nat.ne_of_gt (Heap.lt_size he)
  obtain ⟨F2, N2⟩ := news_upd (pre := [(hp.objs.size, tupO [v])]) (d := e) (o := excO C de t0) (o' := excO C de hp.objs.size) (f := Obj.mapFields (·.setIfInBounds 0 (.ref hp.objs.size))) F1 N1
    (fun p hp => by rw [List.mem_singleton.mp hp]; exact hDe) hne rfl rfl
  exact h _ _ hDe (fun p hp => Nat.ne_of_lt (Heap.lt_size (N p (.tail _ hp)).1)) F2 fun p hp => by
    refine N2 p ?_
    rcases List.mem_cons.mp hp with rfl | hp
    · exact .tail _ (.head _)
    · rcases List.mem_cons.mp hp with rfl | hp
      · exact .head _
      · exact .tail _ (.tail _ hp)
end
end Mine
end
section
set_option maxRecDepth 100000
namespace Mine
section
variable {M : Model} {A : Around} {E : Value → Shared → Prop} {s' : Shared} {base g : Heap} {outer : List Env} {L e t C : Addr} {m : Str → Option Value} {env : Env} {Q : Unit → Shared → Prop} {news : List (Addr × Obj)} {dd : Option Addr} {vs : List Value}
theorem leave_first (K : Below A base outer g) (F : Fr g L s'.heap m) (N : News g L s'.heap ((e, excO C dd t) :: (t, tupO vs) :: news)) (hne : ∀ p ∈ news, p.1 ≠ e ∧ p.1 ≠ t) (hf : env.frame = some L) (hk : env.scope.kind = .function)
    (hQ : ∀ h', RaisedS base g outer e (.ref C) t vs news h' → RaisedK base outer e (.ref C) t vs news h' → g.UpToSlots h' → Q () { s' with heap := h' }) :
    wpAny M (A.deeper env) (leaving env (.ref e)) Q E s' := by
  have he := N _ (.head _)
  have ht := N _ (.tail _ (.head _))
  have gL := kts_self F
  have bn : ∀ {b : Addr}, g.get? b = none → base.get? b = none := fun q => fresh_of_stays K.stays q
  have hns : ∃ o es ep, s'.heap.get? L = some o ∧ o.data = .dict es ep := by
    obtain ⟨oL, es, ep, h1, h2, _⟩ := F.ns
    exact ⟨oL, es, ep, h1, h2⟩
  obtain ⟨oL, es, ep, hL, hLd⟩ := hns
  have fr : s'.heap.FunFrames base (env :: outer) := ⟨by rw [hk]; decide, ⟨L, oL, hf, bn gL, hL, fun ws q => by rw [hLd] at q; cases q⟩, K.frames.of_keeps fun b o q _ => ⟨o, F.keep b o q, rfl⟩⟩
  have inF : ∀ b, b ∈ outer.filterMap (·.frame) → ∃ o, g.get? b = some o := fun b hb => by
    obtain ⟨_, o, ho, _⟩ := K.frames.mem hb
    exact ⟨o, ho⟩
  have nF : ∀ b, g.get? b = none → b ∉ outer.filterMap (·.frame) := fun b q hm => by
    obtain ⟨o, ho⟩ := inF b hm
    rw [q] at ho; cases ho
  have off : ∀ b o, g.get? b = some o → b ≠ e ∧ b ≠ t ∧ b ≠ L := fun b o q =>
    have h1 : g.get? e = none := he.2.2
    have h2 : g.get? t = none := ht.2.2
    ⟨(fun z => by rw [z, h1] at q; cases q), (fun z => by rw [z, h2] at q; cases q), (fun z => by rw [z, gL] at q; cases q)⟩
  have st : base.StaysIn (hideAll s'.heap (e :: t :: L :: outer.filterMap (·.frame))) := fun b o q => by
    have gq := K.stays b o q
    obtain ⟨n1, n2, n3⟩ := off b o gq
    refine hideAll_get _ (F.keep b o gq) fun hm => ?_
    rcases List.mem_cons.mp hm with z | hm
    · exact n1 z
    rcases List.mem_cons.mp hm with z | hm
    · exact n2 z
    rcases List.mem_cons.mp hm with z | hm
    · exact n3 z
    · rw [(K.frames.mem hm).1] at q; cases q
  have sg : ∀ b o, g.get? b = some o → b ∉ outer.filterMap (·.frame) → (hideAll s'.heap (e :: t :: L :: outer.filterMap (·.frame))).get? b = some o := fun b o gq nm => by
    obtain ⟨n1, n2, n3⟩ := off b o gq
    refine hideAll_get _ (F.keep b o gq) fun hm => ?_
    rcases List.mem_cons.mp hm with z | hm
    · exact n1 z
    rcases List.mem_cons.mp hm with z | hm
    · exact n2 z
    rcases List.mem_cons.mp hm with z | hm
    · exact n3 z
    · exact nm hm
  have hl : ∀ q ∈ news, (hideAll s'.heap (e :: t :: L :: outer.filterMap (·.frame))).get? q.1 = some q.2 ∧ g.get? q.1 = none ∧ base.get? q.1 = none := fun q hq => by
    have Nq := N q (.tail _ (.tail _ hq))
    refine ⟨hideAll_get _ Nq.1 fun hm => ?_, Nq.2.2, bn Nq.2.2⟩
    rcases List.mem_cons.mp hm with z | hm
    · exact (hne q hq).1 z
    rcases List.mem_cons.mp hm with z | hm
    · exact (hne q hq).2 z
    rcases List.mem_cons.mp hm with z | hm
    · exact Nq.2.1 z
    · exact nF _ Nq.2.2 hm
  have hin : ∀ en ∈ (env :: outer), ∀ b, en.frame = some b → b ∈ e :: t :: L :: outer.filterMap (·.frame) := fun en hen b hb => by
    rcases List.mem_cons.mp hen with rfl | hen
    · rw [hf] at hb; cases hb; exact .tail _ (.tail _ (.head _))
    · exact .tail _ (.tail _ (.tail _ (List.mem_filterMap.mpr ⟨en, hen, hb⟩)))
  refine wpAny_leaving_firstW (a0 := .ref t) (Around.frames_deeper K.stack) (funFrames_hide fr hin) hf he.1 (fun b o q => of_hideAll _ q) (hideAll_none _ (.head _)) rfl rfl rfl fun h' hL' => ?_
  obtain ⟨k1, ⟨_, _, k2⟩, k3, k4⟩ := hL'
  have R : RaisedS base g outer e (.ref C) t vs news h' := ⟨⟨_, st, sg, hl, ⟨k1, hideAll_none _ (.head _), k2, k3⟩, hideAll_none _ (.tail _ (.head _))⟩, Heap.TupAt.of_slots ⟨_, _, ht.1, rfl, rfl⟩ k4⟩
  exact hQ h' R R.toK ((Heap.UpToSlots.of_keeps F.keep).trans k4)
end

section
variable {M : Model} {A : Around} {E : Value → Shared → Prop} {s : Shared} {env : Env}
/-- what a raised expression must give: a new object of an own exception class -/
def RaisableO (E : Value → Shared → Prop) (v : Value) (s₁ : Shared) : Prop :=
  ∃ e C ob vs nm q N bs bm hdct sn sub ab col dd k0 k1 k2 k3 k5 newId, v = .ref e ∧ s₁.heap.get? e = some ob ∧ ob.cls = .ref C ∧ ob.data = .fields vs ∧ vs[1]? = some .none ∧
    s₁.heap.get? C = some (excClassObj nm q C N bs bm hdct sn sub ab col dd k0 k1 k2 k3 k5 newId) ∧ (Value.ref C :: bm).contains (.type "BaseException") = true ∧ E (.ref e) s₁
theorem raise_own {x : Expr} {pos : Pos} {Q : Flow → Shared → Prop} (hh : A.handled = none) (h : wpAny M A (eval x env) (RaisableO E) E s) : wpAny M A (exec (.Raise (some x) none pos) env) Q E s := by
  show wpAny M A (do standAt pos; raiseStmt env (some (do let v ← eval x env; standAt pos; pure v)) none) Q E s
  refine wpAny_bind (wpAny_standAt ?_)
  unfold raiseStmt
  dsimp only
  refine wpAny_bind (wpAny_bind (wpAny_mono h (fun v s₁ h₁ => wpAny_bind (wpAny_standAt (wpAny_pure ?_))) fun _ _ x => x))
  obtain ⟨e, C, ob, vs, nm, q, N, bs, bm, hdct, sn, sub, ab, col, dd, k0, k1, k2, k3, k5, newId, rfl, he, hcls, hd, h1, hC, hB, hE⟩ := h₁
  obtain ⟨oc, od, odata, osl⟩ := ob
  dsimp only at hcls hd
  subst hcls hd
  obtain ⟨hp, g, d, tk, os⟩ := s₁
  refine wpAny_bind (wpAny_pure ?_)
  dsimp only
  repeat (first | with_reducible refine wpAny_loadPart_at he ?_ | with_reducible refine wpAny_loadPart_at hC ?_ | (with_reducible refine wpAny_isSubtype_exc hC ?_; rw [hB]) | wp_step)
  rw [h1]
  refine wpAny_pure ?_
  rw [if_neg (by decide)]
  exact wpAny_pure (wpAny_raiseNew_none hh hE)
end
end Mine
end
section
set_option maxRecDepth 100000
open Builtin Builtin.Bytes
namespace Mine
theorem slot_join : Slot "bytes" "join" "bytes.join" :=
  .of (owner := "bytes") (n := "join") (by rw [typeLookup_type, builtinLookup_eq_fast]; kernel_rfl) (by decide +kernel) (by decide +kernel) (by decide +kernel)
    (by first | exact .inl (by decide +kernel) | exact .inr (by decide +kernel)) (by rw [isSubtype_type]; kernel_rfl)
theorem type_join : typeOf (.builtin "bytes.join") = pure (.type "method_descriptor") := by show builtinType _ = _; rw [builtinType_eq_fast]; kernel_rfl
theorem entry_join : entryFor table "bytes.join" = some Builtin.«bytes.join» := entryFor_of_tree (by kernel_rfl)
theorem args_join (a b : Value) : argsOk "bytes.join" ⟨[a, b], []⟩ := by
  unfold argsOk; rw [signature?_of (id := "bytes.join") (n := ['n', 'i', 'o', 'j']) (o := ['s', 'e', 't', 'y', 'b']) (by kernel_rfl) FB.owner_bytes]; kernel_rfl
theorem look_buffer : typeLookup (.type "bytes") "__buffer__" = pure (some (.builtin "bytes.__buffer__")) := by rw [typeLookup_type, builtinLookup_eq_fast]; kernel_rfl
section
variable {prog : Program} {w : World} {A : Around} {E : Value → Shared → Prop} {s : Shared}
theorem join_method {M : Model} {b : Array UInt8} {t : Tok} {pl : Sem Bool} {Q : Value × List Value → Shared → Prop} (h : Q (.builtin "bytes.join", [.bytes b t]) s) : wpAny M A (getMethod (.bytes b t) "join" pl) Q E s := by
  exact KBd.method_of (.bytes b t) (typeIs_bytes _ _ _) slot_join type_join (fun _ e => nomatch e) h

theorem spec_buffer (b : Array UInt8) (t : Tok) : specialOf (.bytes b t) "__buffer__" = pure (some (.builtin "bytes.__buffer__")) := by
  show typeLookup (.type "bytes") "__buffer__" = _
  exact look_buffer
theorem own_buffer (b : Array UInt8) (t : Tok) : slotIsOwn (.bytes b t) "__buffer__" = pure true := by
  unfold slotIsOwn
  rw [spec_buffer]
  show (if (!"bytes.__buffer__".endsWith ("." ++ "__buffer__")) = true then pure false else isSubtype (.type "bytes") (.type ("bytes.__buffer__".dropRight ("__buffer__".length + 1)))) = pure true
  rw [if_neg (by decide +kernel), show "bytes.__buffer__".dropRight ("__buffer__".length + 1) = "bytes" from by decide +kernel, isSubtype_type]
  kernel_rfl
theorem look_release : typeLookup (.type "bytes") "__release_buffer__" = pure none := by rw [typeLookup_type, builtinLookup_eq_fast]; kernel_rfl
theorem no_release (b : Array UInt8) (t : Tok) : ownRelease (.bytes b t) = pure false := by
  unfold ownRelease slotIsOwn
  rw [show specialOf (.bytes b t) "__release_buffer__" = pure none from look_release]
  rfl
theorem buffer_eq (id : String) (b : Array UInt8) (t : Tok) (full : Bool) : buffer? id (.bytes b t) full = pure (some b) := by
  unfold buffer?
  rw [spec_buffer, own_buffer, no_release]
  rfl
theorem take_eq (id : String) (b : Array UInt8) (t : Tok) : takeBufferQuiet? id (.bytes b t) 0 = pure (some (b, none)) := by
  unfold takeBufferQuiet? takeBuffer?
  rw [spec_buffer, own_buffer, buffer_eq]
  rfl

theorem join_none {D : Addr} {t : Tok} {Q : Value → Shared → Prop} (hl : s.heap.IsList D #[]) (h : ∀ t' k, Q (.bytes #[] t') { s with toks := k }) :
    wpAny (model prog w) A (call (.builtin "bytes.join") [.bytes #[] t, .ref D]) Q E s := by
  refine wpAny_call_entry slot_join (typeIs_bytes _ _ _) entry_join ?_ (args_join _ _)
  obtain ⟨o, ho, hc, n, hd⟩ := hl
  obtain ⟨oc, od, odt, osl⟩ := o
  dsimp only at hc hd
  subst hc hd
  obtain ⟨hp, g, d, tk, os⟩ := s
  unfold Builtin.«bytes.join» joinM
  repeat (first | (rw [Std.Legacy.Range.forIn_eq_forIn_range']; rw [show List.range' ([:(#[] : Array Value).size] : Std.Legacy.Range).start ([:(#[] : Array Value).size] : Std.Legacy.Range).size ([:(#[] : Array Value).size] : Std.Legacy.Range).step = [] from rfl, List.forIn_nil]) | with_reducible refine wpAny_loadPart_at ho ?_ | wp_step)
  exact ⟨_, rfl, h _ _⟩

theorem join_one {D : Addr} {b : Array UInt8} {t tb : Tok} {Q : Value → Shared → Prop} (hl : s.heap.IsList D #[.bytes b tb]) (h : Q (.bytes b tb) s) :
    wpAny (model prog w) A (call (.builtin "bytes.join") [.bytes #[] t, .ref D]) Q E s := by
  refine wpAny_call_entry slot_join (typeIs_bytes _ _ _) entry_join ?_ (args_join _ _)
  obtain ⟨o, ho, hc, n, hd⟩ := hl
  obtain ⟨oc, od, odt, osl⟩ := o
  dsimp only at hc hd
  subst hc hd
  obtain ⟨hp, g, d, tk, os⟩ := s
  unfold Builtin.«bytes.join» joinM
  repeat (first | with_reducible refine wpAny_loadPart_at ho ?_ | wp_step)
  exact ⟨_, rfl, h⟩

theorem joined_two {b c : Array UInt8} {l : List (Array UInt8)} (e : l = [b, c]) : joined #[] l = b ++ c := by
  subst e
  simp [joined]
set_option maxHeartbeats 0 in
theorem join_two {D : Addr} {b c : Array UInt8} {t tb tc : Tok} {Q : Value → Shared → Prop} (hl : s.heap.IsList D #[.bytes b tb, .bytes c tc]) (hz : b.size + c.size ≤ 16777216) (h : ∀ t' k, Q (.bytes (b ++ c) t') { s with toks := k }) :
    wpAny (model prog w) A (call (.builtin "bytes.join") [.bytes #[] t, .ref D]) Q E s := by
  refine wpAny_call_entry slot_join (typeIs_bytes _ _ _) entry_join ?_ (args_join _ _)
  obtain ⟨o, ho, hc, n, hd⟩ := hl
  obtain ⟨oc, od, odt, osl⟩ := o
  dsimp only at hc hd
  subst hc hd
  obtain ⟨hp, g, d, tk, os⟩ := s
  unfold Builtin.«bytes.join» joinM
  repeat (any_goals (first | assumption | (refine wpAny_bind (wpAny_holding (wpAny_of_eq (take_eq _ _ _) ?_))) | (rw [Std.Legacy.Range.forIn_eq_forIn_range']; generalize hr : List.range' _ _ _ = r; obtain rfl : r = [0, 1] := by (rw [← hr]; simp [Std.Legacy.Range.size, List.range'])) | rw [List.forIn_cons] | rw [List.forIn_nil] | with_reducible refine wpAny_loadPart_at ho ?_ | wp_step))
  rw [if_neg (by
    simp only [Array.push, tooLong, List.concat_eq_append, List.nil_append]
    simp [sizeLine_eq, tooLong]
    omega)]
  repeat (any_goals (first | assumption | wp_step))
  rw [joined_two (b := b) (c := c) (by rfl), if_neg (by rw [Array.size_append, sizeLine_eq]; omega)]
  repeat (any_goals (first | assumption | wp_step))
  exact ⟨_, rfl, h _ _⟩
end
end Mine
end
section
namespace Mine
/-- what the turns of a comprehension gather: the values, and the tuples laid for them -/
def Gath (G : Nat → Value → List (Addr × Obj) → Prop) : Nat → List Value → List (Addr × Obj) → Prop
  | 0, ys, nw => ys = [] ∧ nw = []
  | i + 1, ys, nw => ∃ ys' y n' nw', ys = ys' ++ [y] ∧ nw = n' ++ nw' ∧ Gath G i ys' nw' ∧ G i y n'
/-- a tuple's object, as a turn lays it -/
def Tp (o : Obj) : Prop := ∃ its k, o.cls = .type "tuple" ∧ o.data = .seq its k
section
variable {prog : Program} {w : World} {A : Around} {E : Value → Shared → Prop} {s : Shared} {h₀ : Heap} {L : Addr} {m : Str → Option Value} {env : Env}

theorem fr_wr {h h' : Heap} {wr : List Addr} (F : Fr h₀ L h m) (hk : ∀ b o, b ∉ wr → h.get? b = some o → h'.get? b = some o) (hL : L ∉ wr) (h0 : ∀ b ∈ wr, h₀.get? b = none) : Fr h₀ L h' m :=
  ⟨F.ns.at' fun o e => hk L o hL e, fun b o e => hk b o (fun hm => by rw [h0 b hm] at e; cases e) (F.keep b o e), F.above⟩
theorem news_wr {h h' : Heap} {wr : List Addr} {news : List (Addr × Obj)} (N : News h₀ L h news) (hk : ∀ b o, b ∉ wr → h.get? b = some o → h'.get? b = some o) (off : ∀ p ∈ news, p.1 ∉ wr) : News h₀ L h' news :=
  fun p hp => ⟨hk _ _ (off p hp) (N p hp).1, (N p hp).2⟩

theorem written {h : Heap} : ∀ {fp : List Addr}, (∀ b ∈ fp, ∃ o, h.get? b = some o) → ∃ fl : List (Addr × Obj), (∀ p ∈ fl, p.1 ∈ fp ∧ h.get? p.1 = some p.2) ∧ ∀ b ∈ fp, ∃ o, (b, o) ∈ fl
  | [], _ => ⟨[], fun _ h => (nomatch h), fun _ h => nomatch h⟩
  | b :: fp, hall => by
    obtain ⟨fl, h1, h2⟩ := written fun b hb => hall b (List.mem_cons_of_mem _ hb)
    obtain ⟨o, e⟩ := hall b List.mem_cons_self
    refine ⟨(b, o) :: fl, fun p hp => ?_, fun c hc => ?_⟩
    · rcases List.mem_cons.mp hp with rfl | hp
      · exact ⟨List.mem_cons_self, e⟩
      · exact ⟨List.mem_cons_of_mem _ (h1 p hp).1, (h1 p hp).2⟩
    · rcases List.mem_cons.mp hc with rfl | hc
      · exact ⟨o, List.mem_cons_self⟩
      · obtain ⟨o', r⟩ := h2 c hc
        exact ⟨o', List.mem_cons_of_mem _ r⟩

/-- where a turn of a pair comprehension ends -/
def TurnEnd (h₀ : Heap) (L : Addr) (m : Str → Option Value) (s : Shared) (C : Addr) (oC : Obj) (led : List (Addr × Obj)) (G : Value → List (Addr × Obj) → Prop) (y : Value) (s' : Shared) : Prop :=
  ∃ h' tk' nw, s' = { s with heap := h', toks := tk' } ∧ Fr h₀ L h' m ∧ News h₀ L h' (nw ++ (C, oC) :: led) ∧ (∀ p ∈ nw, Tp p.2) ∧ G y nw
theorem TurnEnd.intro {C : Addr} {oC : Obj} {led : List (Addr × Obj)} {G : Value → List (Addr × Obj) → Prop} {y : Value} {h' : Heap} {tk' : Nat} (nw : List (Addr × Obj)) (F : Fr h₀ L h' m) (N : News h₀ L h' (nw ++ (C, oC) :: led)) (T : ∀ p ∈ nw, Tp p.2) (g : G y nw) :
    TurnEnd h₀ L m s C oC led G y { s with heap := h', toks := tk' } := ⟨h', tk', nw, rfl, F, N, T, g⟩
/-- one turn of a pair comprehension, over any ledger -/
def Turn (prog : Program) (w : World) (A : Around) (h₀ : Heap) (L : Addr) (m : Str → Option Value) (env : Env) (elt : Expr) (x x₂ : Str) (scope : Scope) (cl : List (Str × Addr)) (s : Shared) (news : List (Addr × Obj))
    (G : Value → List (Addr × Obj) → Prop) (v₁ v₂ : Value) : Prop :=
  ∀ C oC m₂ h tk led (E' : Value → Shared → Prop), LCg.NsObj oC m₂ → m₂ x = some v₁ → m₂ x₂ = some v₂ → Fr h₀ L h m → News h₀ L h ((C, oC) :: led) → (∀ p ∈ news, p ∈ led) →
    wpAny (model prog w) A (eval elt (compEnvC scope cl C env)) (TurnEnd h₀ L m s C oC led G) E' { s with heap := h, toks := tk }

theorem block_pairs {elt iter : Expr} {x x₂ : Str} {px px₂ tp : Pos} {tk} {scope : Scope} {cl : List (Str × Addr)} {pos : Pos} {s₂ : Shared} {I : Addr} {fp wr : List Addr} {n : Nat} {Pt : Nat → Array Value → Prop} {St : Nat → Heap → Prop} {Mid : Nat → Addr → Heap → Prop} {news : List (Addr × Obj)}
    {G : Nat → Value → List (Addr × Obj) → Prop} {RR : Value → Addr → Result → Shared → Prop}
    (W : WalksU prog w A I fp wr n Pt St Mid) (hsz : n ≤ sizeLine)
    (hIo : ∀ i h, St i h → ∀ b ∈ fp, ∃ o, h.get? b = some o) (hwc : ∀ i h, St i h → ∀ b ∈ wr, ∃ o, h.get? b = some o ∧ o.cls ≠ .type "tuple")
    (hcell : ∀ y ∈ scope.names, y.2 ≠ .cell) (hkind : scope.kind = .function) (hx : scope.names.lookup x = some .local) (hx₂ : scope.names.lookup x₂ = some .local) (hxx : x ≠ x₂) (hh : A.handled = none)
    (hst : St 0 s₂.heap) (hfp : ∀ b ∈ fp, b < s₂.heap.objs.size) (hf₀ : ∀ b ∈ fp, h₀.get? b = none ∧ b ≠ L)
    (hPt : ∀ i vals, Pt i vals → ∃ v₁ v₂, vals = #[v₁, v₂] ∧ Turn prog w A h₀ L m env elt x x₂ scope cl s₂ news (G i) v₁ v₂)
    (F : Fr h₀ L s₂.heap m) (N : News h₀ L s₂.heap news) (off : ∀ p ∈ news, p.1 ∉ wr)
    (hRR : ∀ D C h tk m' ys outs, Fr h₀ L h m → News h₀ L h ((D, LCg.lst ys) :: (outs ++ news)) → h.Ns C m' → h₀.get? C = none → C ≠ L → (∀ p ∈ (D, LCg.lst ys) :: (outs ++ news), p.1 ≠ C) → Gath G n ys outs → RR (.ref D) C (.ok .next) { s₂ with heap := h, toks := tk }) :
    wpAny (model prog w) A (newList []) (fun acc s₃ => wpAny (model prog w) A (newFunctionEnv scope env.globals cl [] env.qual none .none (some env)) (fun cenv s₄ =>
      codeAny (model prog w) A (.compStart (.ListComp elt [⟨.Tuple [.Name x px, .Name x₂ px₂] tk tp, iter, [], 0⟩] scope pos) 0 (.ref I) acc { cenv with scope := relabel scope env }) (RR acc cenv.locals) s₄) E s₃) E s₂ := by
  refine wpAny_newObj_type (wpAny_newFunctionEnv hcell (by intro y hy; simp at hy) (fun h₁ hns₁ hsb₁ => ?_) hkind)
  dsimp only at hns₁ hsb₁ ⊢
  generalize hH2 : s₂.heap.push { cls := .type "list", dict := none, data := .seq ([] : List Value).toArray } = H2 at hns₁ hsb₁ ⊢
  have hC : H2.objs.size = s₂.heap.objs.size + 1 := by rw [← hH2, Heap.size_push]
  generalize hCC : H2.objs.size = C at hns₁ hsb₁ hC ⊢
  generalize hDD : s₂.heap.objs.size = D at hC
  have hDC : D ≠ C := by rw [hC]; exact Nat.ne_of_lt (Nat.lt_succ_self _)
  have below : ∀ b, b < D → b ≠ C ∧ b ≠ D := fun b hb => ⟨by rw [hC]; exact Nat.ne_of_lt (Nat.lt_succ_of_lt hb), Nat.ne_of_lt hb⟩
  have ltD : ∀ b o, s₂.heap.get? b = some o → b < D := fun b o e => hDD ▸ Heap.lt_size e
  have hDf : D ∉ fp := fun hm => Nat.lt_irrefl D (by have z := hfp D hm; rwa [hDD] at z)
  have hCf : C ∉ fp := fun hm => (below C (by have z := hfp C hm; rwa [hDD] at z)).1 rfl
  have hDw : D ∉ wr := fun hm => hDf (W.sub _ hm)
  have hCw : C ∉ wr := fun hm => hCf (W.sub _ hm)
  have old : ∀ b o, s₂.heap.get? b = some o → h₁.get? b = some o := fun b o e => hsb₁.extBut b o (below b (ltD b o e)).1 (Heap.get?_push_of_some _ (hH2 ▸ Heap.get?_push_of_some _ e))
  have hacc : h₁.get? D = some (LCg.lst []) := hsb₁.extBut _ _ hDC (Heap.get?_push_of_some _ (hH2 ▸ hDD ▸ Heap.get?_push_size _ rfl))
  have hst₁ : St 0 h₁ := W.frame _ _ _ hst fun b _ o e => old b o e
  have fresh₀ : ∀ a, D ≤ a → h₀.get? a = none := fun a ha => by
    cases e : h₀.get? a with
    | none => rfl
    | some o' => exact absurd (ltD _ _ (F.keep a o' e)) (Nat.not_lt.mpr ha)
  have hD₀ : h₀.get? D = none := fresh₀ _ (Nat.le_refl _)
  have hC₀ : h₀.get? C = none := fresh₀ _ (by rw [hC]; exact Nat.le_succ _)
  have hLlt : L < D := hDD ▸ F.ns.lt
  have hDL : D ≠ L := Ne.symm (below L hLlt).2
  have hCL : C ≠ L := Ne.symm (below L hLlt).1
  have hLw : L ∉ wr := fun hm => (hf₀ L (W.sub _ hm)).2 rfl
  have hw₀ : ∀ b ∈ wr, h₀.get? b = none := fun b hm => (hf₀ b (W.sub _ hm)).1
  have offC : ∀ p ∈ news, p.1 ≠ C := fun p hp => (below _ (ltD _ _ (N p hp).1)).1
  have offD : ∀ p ∈ news, p.1 ≠ D := fun p hp => (below _ (ltD _ _ (N p hp).1)).2
  -- a tuple laid by a turn lies at none of the written places
  have outC : ∀ {h : Heap} {m'} {led : List (Addr × Obj)}, h.Ns C m' → News h₀ L h led → ∀ p ∈ led, Tp p.2 → p.1 ≠ C := by
    intro h m' led hn N p hp ⟨its, k, hc, hd⟩ q
    obtain ⟨o, es, ep, e, hd', _⟩ := hn
    have z := (N p hp).1
    rw [q, e] at z
    cases z
    rw [hd] at hd'; cases hd'
  have outW : ∀ {i} {h : Heap} {led : List (Addr × Obj)}, St i h → News h₀ L h led → ∀ p ∈ led, Tp p.2 → p.1 ∉ wr := by
    intro i h led st N p hp ⟨its, k, hc, hd⟩ q
    obtain ⟨o, e, hne⟩ := hwc i h st _ q
    have z := (N p hp).1
    rw [e] at z
    cases z
    exact hne hc
  have outD : ∀ {h : Heap} {led : List (Addr × Obj)} {ys : List Value}, h.get? D = some (LCg.lst ys) → News h₀ L h led → ∀ p ∈ led, Tp p.2 → p.1 ≠ D := by
    intro h led ys hD N p hp ⟨its, k, hc, hd⟩ q
    have z := (N p hp).1
    rw [q, hD] at z
    rw [← Option.some.inj z] at hc
    exact absurd hc (by simp [LCg.lst])
  have loop : ∀ s₃ : Shared, s₃ = { s₂ with heap := h₁, toks := s₂.toks + ([] : List (Str × Value)).length } →
      codeAny (model prog w) A (.compLoop (.ListComp elt [⟨.Tuple [.Name x px, .Name x₂ px₂] tk tp, iter, [], 0⟩] scope pos) 0 (.ref I) (.ref D) (compEnvC scope cl C env))
        (RR (.ref D) C) s₃ := by
    rintro s₃ rfl
    refine LCp.codeAny_compLoop_pair
      (fun k s' => ∃ h' tk i ys m' outs, s' = { s₂ with heap := h', toks := tk } ∧ i ≤ n ∧ k = n + 1 - i ∧ ys.length = i ∧ St i h' ∧ Fr h₀ L h' m ∧ h'.Ns C m' ∧ News h₀ L h' ((D, LCg.lst ys) :: (outs ++ news)) ∧
        (∀ p ∈ outs, Tp p.2) ∧ Gath G i ys outs) ?_ (n + 1)
      ⟨h₁, _, 0, [], _, [], rfl, Nat.zero_le _, rfl, rfl, hst₁, F.keeps old, hns₁, fun p hp => ?_, (fun _ h => nomatch h), ⟨rfl, rfl⟩⟩
    · rintro k s' ⟨h', tk, i, ys, m', outs, rfl, hi, rfl, hyl, hst', F', hn', N', T', G'⟩
      have hDh : h'.get? D = some (LCg.lst ys) := (N' _ List.mem_cons_self).1
      have Nr : News h₀ L h' (outs ++ news) := fun p hp => N' p (List.mem_cons_of_mem _ hp)
      have No : News h₀ L h' outs := fun p hp => Nr p (List.mem_append_left _ hp)
      have offw : ∀ p ∈ (D, LCg.lst ys) :: (outs ++ news), p.1 ∉ wr := fun p hp => by
        rcases List.mem_cons.mp hp with rfl | hp
        · exact hDw
        · rcases List.mem_append.mp hp with hp | hp
          · exact outW hst' Nr p (List.mem_append_left _ hp) (T' p hp)
          · exact off p hp
      have offc : ∀ p ∈ (D, LCg.lst ys) :: (outs ++ news), p.1 ≠ C := fun p hp => by
        rcases List.mem_cons.mp hp with rfl | hp
        · exact hDC
        · rcases List.mem_append.mp hp with hp | hp
          · exact outC hn' Nr p (List.mem_append_left _ hp) (T' p hp)
          · exact offC p hp
      by_cases hlt : i < n
      · refine W.item i _ _ _ hlt hst' fun T vals h₂ tk₂ hPv hT hMid hk₂ => ?_
        obtain ⟨v₁, v₂, rfl, turn⟩ := hPt i vals hPv
        have hTw : T ∉ wr := W.apart _ _ _ hMid
        refine W.go _ _ _ i T _ _ _ hMid fun h₄ hst₄ hk₄ => ?_
        have hk24 : ∀ b o, b ∉ wr → h'.get? b = some o → h₄.get? b = some o := fun b o hb e => hk₄ b o hb (hk₂ b o hb e)
        have ht : IsTup h₄ T #[v₁, v₂] := by obtain ⟨o, e, r⟩ := hT; exact ⟨o, hk₄ _ _ hTw e, r⟩
        have N₄ := news_wr N' hk24 offw
        refine assign_Tuple_tuple hh ht rfl rfl fun h₅ he => ?_
        have he' : ∀ b o, h₄.get? b = some o → h₅.get? b = some o := fun b o e => he b o (Nat.ne_of_lt (Heap.lt_size e)) e
        refine assignInOrder_cons (wpAny_assign_Name (wpAny_storeName_local (lookup_relabel_local hx) ((hn'.at' fun o e => hk24 _ o hCw e).at' fun o e => he' _ o e) (fun h₆ hn₆ hs₆ => ?_) (by simp [compEnvC, relabel, hkind])))
        refine assignInOrder_cons (wpAny_assign_Name (wpAny_storeName_local (lookup_relabel_local hx₂) hn₆ (fun h₃ hn₃ hs₃ => ?_) (by simp [compEnvC, relabel, hkind])))
        refine assignInOrder_nil ?_
        have old3 : ∀ b o, b ≠ C → h₄.get? b = some o → h₃.get? b = some o := fun b o hb e => hs₃.extBut b o hb (hs₆.extBut b o hb (he' b o e))
        have hst₃ : St (i + 1) h₃ := W.frame _ _ _ hst₄ fun b hb o e => old3 b o (fun q => hCf (by rw [← q]; exact hb)) e
        obtain ⟨oC, heC, hoC⟩ := LCg.ns_obj hn₃
        have F₃ : Fr h₀ L h₃ m := (((fr_wr F' hk24 hLw hw₀).keeps he').change hs₆ hCL hC₀).change hs₃ hCL hC₀
        -- the footprint, written
        obtain ⟨fl, hfl, hfm⟩ : ∃ fl : List (Addr × Obj), (∀ p ∈ fl, p.1 ∈ fp ∧ h₃.get? p.1 = some p.2) ∧ ∀ b ∈ fp, ∃ o, (b, o) ∈ fl := by
          exact written (hIo _ _ hst₃)
        have N₃ : News h₀ L h₃ ((C, oC) :: (fl ++ (D, LCg.lst ys) :: (outs ++ news))) := fun p hp => by
          rcases List.mem_cons.mp hp with rfl | hp
          · exact ⟨heC, hCL, hC₀⟩
          · rcases List.mem_append.mp hp with hp | hp
            · exact ⟨(hfl p hp).2, (hf₀ _ (hfl p hp).1).2, (hf₀ _ (hfl p hp).1).1⟩
            · exact ⟨old3 _ _ (offc p hp) (N₄ p hp).1, (N₄ p hp).2⟩
        refine wpAny_mono (turn C oC _ h₃ _ _ _ hoC (by simp [hxx]) (by simp) F₃ N₃ (fun p hp => List.mem_append_right _ (List.mem_cons_of_mem _ (List.mem_append_right _ hp)))) (fun y s₄ h₅' => ?_) fun _ _ e => e
        obtain ⟨h₇, tk₇, nw, rfl, F₇, N₇, T₇, G₇⟩ := h₅'
        have inL : ∀ p, p ∈ (C, oC) :: (fl ++ (D, LCg.lst ys) :: (outs ++ news)) → p ∈ nw ++ (C, oC) :: (fl ++ (D, LCg.lst ys) :: (outs ++ news)) := fun p hp => List.mem_append_right _ hp
        have zC := (N₇ (C, oC) (inL _ List.mem_cons_self)).1
        have zD := (N₇ (D, LCg.lst ys) (inL _ (List.mem_cons_of_mem _ (List.mem_append_right _ List.mem_cons_self)))).1
        have hst₇ : St (i + 1) h₇ := W.frame _ _ _ hst₃ fun b hb o e => by
          obtain ⟨o', r⟩ := hfm b hb
          have z := (hfl _ r).2
          rw [e] at z; cases z
          exact (N₇ _ (inL _ (List.mem_cons_of_mem _ (List.mem_append_left _ r)))).1
        refine append_at (hsz := by show ys.toArray.size ≤ sizeLine; rw [List.size_toArray, hyl]; exact Nat.le_trans hi hsz) zD fun h₈ hs₈ hD₈ => ?_
        have N₇' : News h₀ L h₇ (nw ++ outs ++ news) := fun p hp => by
          refine N₇ p ?_
          rcases List.mem_append.mp hp with hp | hp
          · rcases List.mem_append.mp hp with hp | hp
            · exact List.mem_append_left _ hp
            · exact inL _ (List.mem_cons_of_mem _ (List.mem_append_right _ (List.mem_cons_of_mem _ (List.mem_append_left _ hp))))
          · exact inL _ (List.mem_cons_of_mem _ (List.mem_append_right _ (List.mem_cons_of_mem _ (List.mem_append_right _ hp))))
        have T₈ : ∀ p ∈ nw ++ outs, Tp p.2 := fun p hp => by
          rcases List.mem_append.mp hp with hp | hp
          · exact T₇ p hp
          · exact T' p hp
        refine ⟨n + 1 - (i + 1), by omega, h₈, tk₇, i + 1, ys ++ [y], _, nw ++ outs, rfl, hlt, rfl, by rw [List.length_append, List.length_singleton, hyl], W.frame _ _ _ hst₇ fun b hb o e => hs₈.extBut b o (fun q => hDf (q ▸ hb)) e, F₇.change hs₈ hDL hD₀,
          (hoC.ns zC).sameBut hs₈ (Ne.symm hDC), fun p hp => ?_, T₈, ⟨ys, y, nw, outs, rfl, rfl, G', G₇⟩⟩
        rcases List.mem_cons.mp hp with rfl | hp
        · exact ⟨hD₈.trans (congrArg some (LCg.lst_snoc ys y)), hDL, hD₀⟩
        · refine ⟨hs₈.extBut _ _ ?_ (N₇' p hp).1, (N₇' p hp).2⟩
          rcases List.mem_append.mp hp with hq | hq
          · exact outD zD N₇' p hp (T₈ p hq)
          · exact offD p hq
      · obtain rfl : i = n := Nat.le_antisymm hi (Nat.not_lt.mp hlt)
        refine W.done _ _ _ hst' fun h₂ tk₂ hk₂ => ?_
        exact hRR _ _ h₂ tk₂ _ ys outs (fr_wr F' hk₂ hLw hw₀) (news_wr N' hk₂ offw) (hn'.at' fun o e => hk₂ _ o hCw e) hC₀ hCL offc G'
    · rcases List.mem_cons.mp hp with rfl | hp
      · exact ⟨hacc, hDL, hD₀⟩
      · exact ⟨old _ _ (N p hp).1, (N p hp).2⟩
  have l := loop _ rfl
  exact codeAny_compStart_list l (W.self 0 _ _ _ hst₁ l)
end
end Mine
end
section
namespace Mine
section
variable {prog : Program} {w : World} {A : Around} {E : Value → Shared → Prop} {s : Shared}
/-- the inner iterator of an enumeration over a tuple -/
theorem next_tup {it t : Addr} {i : Nat} {items} {x : Value} {Q : Value → Shared → Prop} (hit : s.heap.IsTupleIter it t i) (ht : s.heap.IsTuple t items) (hx : items[i]? = some x)
    (hQ : ∀ h', h'.IsTupleIter it t (i + 1) → Heap.SameBut it s.heap h' → Q x { s with heap := h' }) : wpAny (model prog w) A (Builtin.SmallTypes.nextOf (.ref it)) Q E s := by
  obtain ⟨o, ho, hc, hd⟩ := id hit
  obtain ⟨ol, hol, _, nl, hdl⟩ := ht
  unfold Builtin.SmallTypes.nextOf
  refine wpAny_bind (wpAny_callSpecial?_slot (name := Str.ofString "__next__") hit.typeIs F.slot_tuple_iterator_next
    (wpAny_call_entry F.slot_tuple_iterator_next hit.typeIs F.entry_tuple_iterator_next ?_ (F.args_tuple_iterator_next_1 _)))
  show wpAny _ _ (field (.ref it) 0 >>= _) _ _ s
  refine wpAny_bind (wpAny_field ho hd (x := .ref t) rfl ?_)
  show wpAny _ _ (if (Value.ref t == Value.none) = true then _ else _) _ _ s
  rw [if_neg (show ¬ ((Value.ref t == Value.none) = true) from Bool.false_ne_true)]
  refine wpAny_bind (wpAny_field ho hd (x := .int i 0) rfl ?_)
  refine wpAny_bind (wpAny_seqItems hol hdl ?_)
  simp only [Int.toNat_natCast, hx]
  refine wpAny_bind (wpAny_setField ho hd (by simp) (wpAny_pure ⟨x, rfl, wpAny_pure (hQ _ ?_ (Heap.SameBut.update ..))⟩))
  exact ⟨_, Heap.get?_update_self _ ho (Obj.isFreed_of_fields (Obj.data_mapFields hd _)), (Obj.cls_mapFields ..).trans hc, by
    rw [Obj.data_mapFields hd]; simp [rawInt]⟩
theorem next_tup_end {it t : Addr} {i : Nat} {items} {Q : Value → Shared → Prop} (hh : A.handled = none) (hit : s.heap.IsTupleIter it t i) (ht : s.heap.IsTuple t items) (hx : items[i]? = none)
    (hE : ∀ h' e, Heap.ExtBut it s.heap h' → (∃ o, h'.get? e = some o ∧ o.cls = .type "StopIteration") → E (.ref e) { s with heap := h' }) :
    wpAny (model prog w) A (Builtin.SmallTypes.nextOf (.ref it)) Q E s := by
  obtain ⟨o, ho, hc, hd⟩ := id hit
  obtain ⟨ol, hol, _, nl, hdl⟩ := ht
  unfold Builtin.SmallTypes.nextOf
  refine wpAny_bind (wpAny_callSpecial?_slot (name := Str.ofString "__next__") hit.typeIs F.slot_tuple_iterator_next
    (wpAny_call_entry F.slot_tuple_iterator_next hit.typeIs F.entry_tuple_iterator_next ?_ (F.args_tuple_iterator_next_1 _)))
  show wpAny _ _ (field (.ref it) 0 >>= _) _ _ s
  refine wpAny_bind (wpAny_field ho hd (x := .ref t) rfl ?_)
  show wpAny _ _ (if (Value.ref t == Value.none) = true then _ else _) _ _ s
  rw [if_neg (show ¬ ((Value.ref t == Value.none) = true) from Bool.false_ne_true)]
  refine wpAny_bind (wpAny_field ho hd (x := .int i 0) rfl ?_)
  refine wpAny_bind (wpAny_seqItems hol hdl ?_)
  simp only [Int.toNat_natCast, hx]
  refine wpAny_bind (wpAny_rule (wpAny_bind (wpAny_setField ho hd (by simp) ?_)))
  show wpAny _ _ (newExc (.type "StopIteration") [] >>= _) _ _ _
  refine wpAny_bind ?_
  simp only [newExc, newTuple]
  refine wpAny_bind (wpAny_newObj_type ?_ (by size_fits))
  refine wpAny_bind (m := firstArgMember _ _) (wpAny_of_eq (a := Value.none) (by first | rfl | (simp only [firstArgMember]; rfl)) ?_)
  refine wpAny_newObj_type ?_ (by size_fits)
  simp only [raiseNew]
  refine wpAny_bind (wpAny_handled ?_)
  first | rw [show A.in1.handled = none from hh] | rw [hh]
  refine wpAny_bind (wpAny_pure (wpAny_throw ?_))
  exact hE _ _ (((Heap.SameBut.update ..).extBut.push _).push _) ⟨_, Heap.get?_push_size _ rfl, rfl⟩
end
end Mine
end
section
open AutoSeq1 (wpAny_loadPart')
namespace Mine
section
variable {prog : Program} {w : World} {A : Around} {E : Value → Shared → Prop} {s : Shared}
/-- one step of an enumeration over a tuple: the pair is laid, and held by the enumeration until it is let go -/
theorem enum_step {e it l : Addr} {i : Nat} {items : Array Value} {x old : Value} {Q : Value → Shared → Prop}
    (he : IsEnum s.heap e it i old) (hit : s.heap.IsTupleIter it l i) (hl : s.heap.IsTuple l items) (hx : items[i]? = some x) (hne : e ≠ it)
    (hQ : ∀ h', IsEnumOut h' e it ((i : Int) + 1) x s.heap.objs.size → h'.IsTupleIter it l (i + 1) →
      h'.get? s.heap.objs.size = some { cls := .type "tuple", data := .seq #[.int i s.toks, x] } →
      (∀ b o, b ≠ e → b ≠ it → s.heap.get? b = some o → h'.get? b = some o) → Q (.ref s.heap.objs.size) { s with heap := h', toks := s.toks + 1 }) :
    wpAny (model prog w) A (Builtin.«enumerate.__next__» ⟨[.ref e], []⟩) (fun fin s' => ∃ v, fin = .done (.ret v) ∧ Q v s') E s := by
  obtain ⟨hp, g, d, tk, os⟩ := s
  have hel : e < hp.objs.size := Heap.lt_size he
  have hen : hp.objs.size ≠ e := Nat.ne_of_gt hel
  show wpAny _ _ (field (.ref e) 2 >>= _) _ _ _
  refine wpAny_bind (wpAny_field he rfl (x := .ref it) rfl (wpAny_bind (next_tup hit hl hx fun h₁ hit₁ hs₁ => ?_)))
  replace hs₁ : Heap.SameBut it hp h₁ := hs₁
  have he₁ : IsEnum h₁ e it i old := (hs₁.2 e hne).trans he
  refine wpAny_bind (wpAny_field he₁ rfl (x := rawInt i) rfl ?_)
  refine wpAny_bind (wpAny_field he₁ rfl (x := .none) rfl ?_)
  show wpAny _ _ (mkInt i >>= _) _ _ ⟨h₁, g, d, tk, os⟩
  refine wpAny_bind (wpAny_mkInt ?_)
  show wpAny _ _ (setField (.ref e) 3 (rawInt ((i : Int) + 1)) >>= _) _ _ ⟨h₁, g, d, tk + 1, os⟩
  refine wpAny_bind (wpAny_setField_rec he₁ (by simp) fun h₂ he₂ hs₂ => ?_)
  replace hs₂ : Heap.SameBut e h₁ h₂ := hs₂
  replace he₂ : IsEnum h₂ e it ((i : Int) + 1) old := he₂
  refine wpAny_bind (wpAny_setField_rec he₂ (by simp) fun h₃ he₃ hs₃ => ?_)
  replace hs₃ : Heap.SameBut e h₂ h₃ := hs₃
  replace he₃ : IsEnum h₃ e it ((i : Int) + 1) old := he₃
  have hsz : h₃.objs.size = hp.objs.size := by rw [hs₃.1, hs₂.1, hs₁.1]
  have hk₃ : ∀ b o, b ≠ e → b ≠ it → hp.get? b = some o → h₃.get? b = some o := fun b o hbe hbi q => hs₃.extBut b o hbe (hs₂.extBut b o hbe (hs₁.extBut b o hbi q))
  have hit₃ : h₃.IsTupleIter it l (i + 1) := (hit₁.extBut hs₂.extBut (Ne.symm hne)).extBut hs₃.extBut (Ne.symm hne)
  clear hs₁ hs₂ hs₃ he₁ he₂ hit₁ he hit
  show wpAny _ _ (newTuple [.int i tk, x] >>= _) _ _ ⟨h₃, g, d, tk + 1, os⟩
  refine wpAny_bind (wpAny_newTuple ?_)
  have up : ∀ b o, h₃.get? b = some o → (h₃.push { cls := .type "tuple", data := .seq #[.int i tk, x] }).get? b = some o := fun b o q => Heap.get?_push_of_some _ q
  have ht₄ := Heap.get?_push_size h₃ (o := { cls := .type "tuple", data := .seq #[.int i tk, x] }) rfl
  have he₄ := up _ _ he₃
  have hit₄ := Heap.IsTupleIter.at hit₃ fun o => up it o
  have hk₄ : ∀ b o, b ≠ e → b ≠ it → hp.get? b = some o → _ := fun b o hbe hbi q => up b o (hk₃ b o hbe hbi q)
  show wpAny _ _ (Builtin.SmallTypes.ownedTupleIsFree (.ref e) >>= _) _ _ ⟨h₃.push { cls := .type "tuple", data := .seq #[.int i tk, x] }, g, d, tk + 1, os⟩
  generalize h₃.push { cls := .type "tuple", data := .seq #[.int i tk, x] } = h₄ at ht₄ he₄ hit₄ hk₄ ⊢
  rw [hsz] at ht₄ ⊢
  unfold Builtin.SmallTypes.ownedTupleIsFree Builtin.SmallTypes.ownedTupleHandOut
  refine wpAny_bind (wpAny_bind (wpAny_field he₄ rfl (x := .none) rfl (wpAny_pure ?_)))
  simp only [if_true]
  refine wpAny_bind (wpAny_rule (wpAny_bind (wpAny_field he₄ rfl (x := old) rfl ?_)))
  refine wpAny_bind (wpAny_setField_rec he₄ (by simp) fun h₅ he₅ hs₅ => ?_)
  replace hs₅ : Heap.SameBut e h₄ h₅ := hs₅
  replace he₅ : IsEnum h₅ e it ((i : Int) + 1) x := he₅
  refine wpAny_bind (wpAny_bind (wpAny_setField_rec he₅ (by simp) fun h₆ he₆ hs₆ => ?_))
  replace hs₆ : Heap.SameBut e h₅ h₆ := hs₆
  replace he₆ : IsEnumOut h₆ e it ((i : Int) + 1) x hp.objs.size := he₆
  refine wpAny_setField_rec he₆ (by simp) fun h₇ he₇ hs₇ => ?_
  replace hs₇ : Heap.SameBut e h₆ h₇ := hs₇
  have all : ∀ b o, b ≠ e → h₄.get? b = some o → h₇.get? b = some o := fun b o hb q => hs₇.extBut b o hb (hs₆.extBut b o hb (hs₅.extBut b o hb q))
  exact wpAny_bind (wpAny_letGo (wpAny_pure ⟨_, rfl, hQ h₇ he₇ (hit₄.at fun o => all it o (Ne.symm hne)) (all _ _ hen ht₄) fun b o hbe hbi q => all b o hbe (hk₄ b o hbe hbi q)⟩))

theorem enum_next {e it l : Addr} {i : Nat} {items : Array Value} {x old : Value} {Q : Option Value → Shared → Prop}
    (he : IsEnum s.heap e it i old) (hit : s.heap.IsTupleIter it l i) (hl : s.heap.IsTuple l items) (hx : items[i]? = some x) (hne : e ≠ it)
    (hQ : ∀ h', IsEnumOut h' e it ((i : Int) + 1) x s.heap.objs.size → h'.IsTupleIter it l (i + 1) →
      h'.get? s.heap.objs.size = some { cls := .type "tuple", data := .seq #[.int i s.toks, x] } →
      (∀ b o, b ≠ e → b ≠ it → s.heap.get? b = some o → h'.get? b = some o) → Q (some (.ref s.heap.objs.size)) { s with heap := h', toks := s.toks + 1 }) :
    wpAny (model prog w) A (pyNext (.ref e)) Q E s := by
  have hT : s.TypeIs (.ref e) "enumerate" := ⟨_, he, rfl⟩
  unfold pyNext
  exact wpAny_bind (wpAny_attempt (wpAny_callSpecial?_slot (name := Str.ofString "__next__") hT F.slot_enumerate_next
    (wpAny_call_entry F.slot_enumerate_next hT F.entry_enumerate_next (enum_step he hit hl hx hne fun h' a b c k => wpAny_pure (hQ h' a b c k)) (F.args_enumerate_next_1 _))))

theorem enum_done {e it l : Addr} {i : Nat} {items : Array Value} {old : Value} {Q : Option Value → Shared → Prop} (hh : A.handled = none)
    (he : IsEnum s.heap e it i old) (hit : s.heap.IsTupleIter it l i) (hl : s.heap.IsTuple l items) (hx : items[i]? = none)
    (hQ : ∀ h', Heap.ExtBut it s.heap h' → Q none { s with heap := h' }) : wpAny (model prog w) A (pyNext (.ref e)) Q E s := by
  have hT : s.TypeIs (.ref e) "enumerate" := ⟨_, he, rfl⟩
  unfold pyNext
  refine wpAny_bind (wpAny_attempt (wpAny_callSpecial?_slot (name := Str.ofString "__next__") hT F.slot_enumerate_next
    (wpAny_call_entry F.slot_enumerate_next hT F.entry_enumerate_next ?_ (F.args_enumerate_next_1 _))))
  show wpAny _ _ (field (.ref e) 2 >>= _) _ _ _
  refine wpAny_bind (wpAny_field he rfl (x := .ref it) rfl ?_)
  refine wpAny_bind (next_tup_end hh hit hl hx fun h' x he' hx' => ?_)
  obtain ⟨o, ho, hc⟩ := hx'
  exact wpAny_bind (wpAny_isInstance (T := "StopIteration") (b := true) ⟨o, ho, hc⟩ isSubtype_stop (wpAny_pure (hQ _ he')))

theorem walks_enum (hh : A.handled = none) (e it l : Addr) (hei : e ≠ it) (hle : l ≠ e) (hli : l ≠ it) (items : Array Value) :
    WalksU prog w A e [e, it, l] [e, it] items.size
      (fun i vals => ∃ t x, items[i]? = some x ∧ vals = #[.int i t, x])
      (fun i h => (∃ old, IsEnum h e it i old) ∧ h.IsTupleIter it l i ∧ h.IsTuple l items)
      (fun i T h => (∃ x, IsEnumOut h e it ((i : Int) + 1) x T) ∧ h.IsTupleIter it l (i + 1) ∧ h.IsTuple l items ∧ T ≠ e ∧ T ≠ it) where
  sub := fun b hb => by
    rcases List.mem_cons.mp hb with rfl | hb
    · exact List.mem_cons_self ..
    · exact List.mem_cons_of_mem _ (List.mem_cons.mpr (.inl (List.mem_singleton.mp hb)))
  frame := fun i h h' hst hk => ⟨hst.1.imp fun old he => hk e (by simp) _ he, hst.2.1.at fun o x => hk it (by simp) o x, hst.2.2.at fun o x => hk l (by simp) o x⟩
  item := fun i s Q E hi hst hQ => by
    obtain ⟨⟨old, he⟩, hit, hl⟩ := hst
    have hx : items[i]? = some items[i] := Array.getElem?_eq_getElem hi
    have helt : e < s.heap.objs.size := Heap.lt_size he
    have hilt : it < s.heap.objs.size := by obtain ⟨_, x, _⟩ := hit; exact Heap.lt_size x
    refine enum_next he hit hl hx hei fun h' ho hit' hT hk => ?_
    exact hQ s.heap.objs.size #[.int i s.toks, items[i]] h' (s.toks + 1) ⟨_, _, hx, rfl⟩ ⟨_, hT, rfl, _, rfl⟩
      ⟨⟨_, ho⟩, hit', hl.at fun o x => hk l o hle hli x, Nat.ne_of_gt helt, Nat.ne_of_gt hilt⟩
      fun b o hb x => hk b o (fun q => hb (by simp [q])) (fun q => hb (by simp [q])) x
  go := fun elts k pos i T s Q E hm hQ => by
    obtain ⟨⟨x, ho⟩, hit, hl, hTe, hTi⟩ := hm
    refine wpAny_letOwnedTupleGo_enum ho fun h' he' hs' => hQ h' ⟨⟨x, by simpa using he'⟩, hit.at fun o y => (hs'.2 it hei.symm).trans y, hl.at fun o y => (hs'.2 l hle).trans y⟩ fun b o hb y => ?_
    exact (hs'.2 b fun q => hb (by simp [q])).trans y
  apart := fun i T h hm hT => by
    rcases List.mem_cons.mp hT with q | hT
    · exact hm.2.2.2.1 q
    · exact hm.2.2.2.2 (List.mem_singleton.mp hT)
  done := fun s Q E hst hQ => by
    obtain ⟨⟨old, he⟩, hit, hl⟩ := hst
    exact enum_done hh he hit hl (Array.getElem?_eq_none (Nat.le_refl _)) fun h' hx => hQ h' s.toks fun b o hb y => hx b o (fun q => hb (by simp [q])) y
  self := fun i s Q E hst hQ => by
    obtain ⟨⟨old, he⟩, _, _⟩ := hst
    exact wpAny_pyIter_enum he hQ

theorem enum_new (l : Addr) (items : Array Value) (n : Nat) (dct : Option Addr) (sl : Array (Option Value)) :
    Meets (Builtin.«enumerate.__new__» ⟨[.type "enumerate", .ref l], []⟩) (fun _ R s => s.heap.get? l = some { cls := .type "tuple", dict := dct, data := .seq items n, slots := sl } ∧
      R (.ok (.ret (.ref (s.heap.push { cls := .type "tuple_iterator", data := .fields #[.ref l, .int 0 0] }).objs.size)))
        { s with heap := (s.heap.push { cls := .type "tuple_iterator", data := .fields #[.ref l, .int 0 0] }).push { cls := .type "enumerate", data := .fields #[.none, .bool false, .ref s.heap.objs.size, rawInt 0, .none, .none] } }) :=
  .of_wp fun prog w A R s h => by
    obtain ⟨hp, g, d, tk, os⟩ := s; obtain ⟨hl, h⟩ := h
    have hsub := sub_enumerate
    have hL : Heap.IsTuple (Shared.heap ⟨hp, g, d, tk, os⟩) l items := ⟨_, hl, rfl, n, rfl⟩
    wp_walk using wpAny_loadPart' hl
    refine wpAny_stack_any fun st => wpAny_pure ?_
    split
    · rename_i c _ _ _ _ _
      cases (c == Value.type "enumerate") <;>
      · wp_walk using wpAny_loadPart' hl, wpAny_pyIter_tuple hL
        exact ⟨_, rfl, h⟩
    · wp_walk using wpAny_loadPart' hl, wpAny_pyIter_tuple hL
      exact ⟨_, rfl, h⟩
end
end Mine
end
section
namespace Mine
abbrev enumO (it : Addr) (i : Int) (old : Value) : Obj := { cls := .type "enumerate", dict := none, data := .fields #[.none, .bool false, .ref it, rawInt i, .none, old], slots := #[] }
abbrev titO (t : Addr) (i : Nat) : Obj := { cls := .type "tuple_iterator", data := .fields #[.ref t, .int i 0] }
section
variable {prog : Program} {w : World} {A : Around} {E : Value → Shared → Prop} {s : Shared} {h₀ : Heap} {L : Addr} {m : Str → Option Value} {env : Env} {news : List (Addr × Obj)}
/-- enumerate over a tuple of the ledger -/
theorem call_enum {ax : Addr} {its : Array Value} {k : Nat} {Q : Value → Shared → Prop} (Fm : Fr h₀ L s.heap m) (N : News h₀ L s.heap news) (hm : (ax, ({ cls := .type "tuple", data := .seq its k } : Obj)) ∈ news)
    (h : ∀ e it h', Fr h₀ L h' m → News h₀ L h' ((e, enumO it 0 .none) :: (it, titO ax 0) :: news) → (∀ p ∈ news, p.1 ∉ [e, it]) → e ≠ it → Q (.ref e) { s with heap := h' }) :
    wpAny (model prog w) A (call (.type "enumerate") [.ref ax]) Q E s := by
  have hz : (s.heap.push { cls := .type "tuple_iterator", data := .fields #[.ref ax, .int 0 0] }).objs.size = s.heap.objs.size + 1 := Heap.size_push ..
  have he := Heap.get?_push_size (s.heap.push { cls := .type "tuple_iterator", data := .fields #[.ref ax, .int 0 0] }) (o := enumO s.heap.objs.size 0 .none) rfl
  refine callType_new F.called_enumerate (by decide) (F.typeCall_enumerate_1 _) (F.newCall_enumerate_1 _) (fun obj => F.args_object_init_2 obj _) F.entry_enumerate_new
    (enum_new ax its k none #[]) ⟨(N _ hm).1, ?_⟩
  refine ⟨⟨_, he, rfl⟩, ?_⟩
  refine h _ s.heap.objs.size _ ((Fm.push _).push _) ?_ ?_ (by rw [hz]; exact Nat.ne_of_gt (Nat.lt_succ_self _))
  · exact News.push (Fm.push _) (News.push Fm N _) _
  · intro p hp hq
    have lt := Heap.lt_size (N p hp).1
    rw [hz] at hq
    rcases List.mem_cons.mp hq with q | q
    · rw [q] at lt; exact absurd lt (Nat.not_lt.mpr (Nat.le_succ _))
    · rw [List.mem_singleton.mp q] at lt; exact Nat.lt_irrefl _ lt

/-- what is asked of an enumeration that a pair comprehension walks -/
def SrcE (prog : Program) (w : World) (A : Around) (h₀ : Heap) (L : Addr) (m : Str → Option Value) (env : Env) (elt : Expr) (x x₂ : Str) (scope : Scope) (cl : List (Str × Addr)) (Q : Value → Shared → Prop) (xv : Value) (s₁ : Shared) : Prop :=
  ∃ (e it ax : Addr) (its : Array Value) (k : Nat) (news : List (Addr × Obj)) (G : Nat → Value → List (Addr × Obj) → Prop), xv = .ref e ∧ A.handled = none ∧ Fr h₀ L s₁.heap m ∧ News h₀ L s₁.heap ((e, enumO it 0 .none) :: (it, titO ax 0) :: news) ∧
    (ax, ({ cls := .type "tuple", data := .seq its k } : Obj)) ∈ news ∧ (∀ p ∈ news, p.1 ∉ [e, it]) ∧ e ≠ it ∧ its.size ≤ sizeLine ∧
    (∀ i v t, its[i]? = some v → Turn prog w A h₀ L m env elt x x₂ scope cl s₁ news (G i) (.int i t) v) ∧
    ∀ D ys outs h tk, Fr h₀ L h m → News h₀ L h ((D, LCg.lst ys) :: (outs ++ news)) → Gath G its.size ys outs → Q (.ref D) { s₁ with heap := h, toks := tk }

theorem SrcE.intro {elt : Expr} {x x₂ : Str} {scope : Scope} {cl : List (Str × Addr)} {Q : Value → Shared → Prop} {s₁ : Shared} {e it ax : Addr} {its : Array Value} {k : Nat} (G : Nat → Value → List (Addr × Obj) → Prop)
    (hh : A.handled = none) (F : Fr h₀ L s₁.heap m) (N : News h₀ L s₁.heap ((e, enumO it 0 .none) :: (it, titO ax 0) :: news)) (hm : (ax, ({ cls := .type "tuple", data := .seq its k } : Obj)) ∈ news) (off : ∀ p ∈ news, p.1 ∉ [e, it]) (ne : e ≠ it) (hz : its.size ≤ sizeLine)
    (T : ∀ i v t, its[i]? = some v → Turn prog w A h₀ L m env elt x x₂ scope cl s₁ news (G i) (.int i t) v)
    (R : ∀ D ys outs h tk, Fr h₀ L h m → News h₀ L h ((D, LCg.lst ys) :: (outs ++ news)) → Gath G its.size ys outs → Q (.ref D) { s₁ with heap := h, toks := tk }) :
    SrcE prog w A h₀ L m env elt x x₂ scope cl Q (.ref e) s₁ := ⟨e, it, ax, its, k, news, G, rfl, hh, F, N, hm, off, ne, hz, T, R⟩
theorem comp_enum {elt iter : Expr} {x x₂ : Str} {px px₂ tp : Pos} {tk} {scope : Scope} {cl : List (Str × Addr)} {pos : Pos} {Q : Value → Shared → Prop} (F₀ : Fr h₀ L s.heap m)
    (hclos : closureFor scope env = pure cl) (hcell : ∀ y ∈ scope.names, y.2 ≠ .cell) (hkind : scope.kind = .function)
    (hnames : ∀ y ∈ scope.names, y.2 = .local → scope.names.lookup y.1 = some .local) (hx : scope.names.lookup x = some .local) (hx₂ : scope.names.lookup x₂ = some .local) (hxx : x ≠ x₂)
    (h : wpAny (model prog w) A (eval iter env) (SrcE prog w A h₀ L m env elt x x₂ scope cl Q) E s)
    (hs : ∀ x, foldedSetIterable iter env x = pure x := by intro _; rfl) :
    wpAny (model prog w) A (eval (.ListComp elt [⟨.Tuple [.Name x px, .Name x₂ px₂] tk tp, iter, [], 0⟩] scope pos) env) Q E s := by
  rw [eval_ListComp]
  refine wpAny_comprehension_free (use := none) rfl hs hclos hkind hnames (wpAny_mono h (fun xv s₁ h₁ => ?_) fun _ _ e => e)
  obtain ⟨e, it, ax, its, k, news, G, rfl, hh, F, N, hm, off, hei, hsz, T, R⟩ := h₁
  have Ne := N _ List.mem_cons_self
  have Ni := N _ (List.mem_cons_of_mem _ List.mem_cons_self)
  have Na := N _ (List.mem_cons_of_mem _ (List.mem_cons_of_mem _ hm))
  have oa := off _ hm
  have hle : ax ≠ e := fun q => oa (by rw [q]; exact List.mem_cons_self)
  have hli : ax ≠ it := fun q => oa (by rw [q]; exact List.mem_cons_of_mem _ List.mem_cons_self)
  refine wpAny_pyIter_enum Ne.1 ?_
  refine block_pairs (G := G) (walks_enum hh e it ax hei hle hli its) hsz (fun i h st b hb => ?_) (fun i h st b hb => ?_) hcell hkind hx hx₂ hxx hh ⟨⟨_, Ne.1⟩, ⟨_, Ni.1, rfl, rfl⟩, ⟨_, Na.1, rfl, k, rfl⟩⟩ (fun b hb => ?_) (fun b hb => ?_)
    (fun i vals hP => ?_) F (fun p hp => N p (List.mem_cons_of_mem _ (List.mem_cons_of_mem _ hp))) off ?_
  · obtain ⟨⟨old, he⟩, ⟨o₁, e₁, _⟩, ⟨o₂, e₂, _⟩⟩ := st
    rcases List.mem_cons.mp hb with rfl | hb
    · exact ⟨_, he⟩
    · rcases List.mem_cons.mp hb with rfl | hb
      · exact ⟨_, e₁⟩
      · rw [List.mem_singleton.mp hb]; exact ⟨_, e₂⟩
  · obtain ⟨⟨old, he⟩, ⟨o₁, e₁, c₁, _⟩, _⟩ := st
    rcases List.mem_cons.mp hb with rfl | hb
    · exact ⟨_, he, by simp⟩
    · rw [List.mem_singleton.mp hb]; exact ⟨_, e₁, by rw [c₁]; simp⟩
  · rcases List.mem_cons.mp hb with rfl | hb
    · exact Heap.lt_size Ne.1
    · rcases List.mem_cons.mp hb with rfl | hb
      · exact Heap.lt_size Ni.1
      · rw [List.mem_singleton.mp hb]; exact Heap.lt_size Na.1
  · rcases List.mem_cons.mp hb with rfl | hb
    · exact ⟨Ne.2.2, Ne.2.1⟩
    · rcases List.mem_cons.mp hb with rfl | hb
      · exact ⟨Ni.2.2, Ni.2.1⟩
      · rw [List.mem_singleton.mp hb]; exact ⟨Na.2.2, Na.2.1⟩
  · obtain ⟨t, v, hv, rfl⟩ := hP
    exact ⟨_, _, rfl, T i v t hv⟩
  · intro D C h' tk' m' ys outs F' N' hn hC₀ hCL offC G'
    exact ⟨m', hn, fun h'' hs'' => R D ys outs h'' tk' (F'.change hs'' hCL hC₀) (fun p hp => ⟨hs''.extBut _ _ (offC p hp) (N' p hp).1, (N' p hp).2⟩) G'⟩
end
end Mine
end
section
namespace Mine
section
variable {prog : Program} {w : World} {A : Around} {E : Value → Shared → Prop} {s : Shared} {h₀ : Heap} {L : Addr} {m : Str → Option Value} {env : Env} {news : List (Addr × Obj)}
/-- a tuple of tuples, walked one by one -/
theorem walks_tups (hh : A.handled = none) (I ax : Addr) (hne : ax ≠ I) (items : Array Value) (Ts : Nat → Addr) (vals : Nat → Array Value)
    (hit : ∀ j, j < items.size → items[j]? = some (.ref (Ts j))) (hTI : ∀ j, j < items.size → Ts j ≠ I) :
    WalksU prog w A I (I :: ax :: (List.range items.size).map Ts) [I] items.size (fun j v => j < items.size ∧ v = vals j)
      (fun j h => h.IsTupleIter I ax j ∧ h.IsTuple ax items ∧ ∀ k, k < items.size → h.IsTuple (Ts k) (vals k))
      (fun j T h => (j < items.size ∧ T = Ts j) ∧ h.IsTupleIter I ax (j + 1) ∧ h.IsTuple ax items ∧ ∀ k, k < items.size → h.IsTuple (Ts k) (vals k)) where
  sub := fun b hb => by rw [List.mem_singleton.mp hb]; exact List.mem_cons_self
  frame := fun _ _ _ st hk => ⟨st.1.at fun o e => hk I (by simp) o e, st.2.1.at fun o e => hk ax (by simp) o e,
    fun k hk' => (st.2.2 k hk').at fun o e => hk (Ts k) (List.mem_cons_of_mem _ (List.mem_cons_of_mem _ (List.mem_map.mpr ⟨k, List.mem_range.mpr hk', rfl⟩))) o e⟩
  item := fun i s Q E hi st hQ => by
    refine wpAny_pyNext_tuple_item st.1 st.2.1 (x := .ref (Ts i)) (hit i hi) fun h' hit' hs' => ?_
    have tup : ∀ k, k < items.size → h'.IsTuple (Ts k) (vals k) := fun k hk' => (st.2.2 k hk').extBut hs'.extBut (hTI k hk')
    exact hQ (Ts i) (vals i) h' s.toks ⟨hi, rfl⟩ (tup i hi) ⟨⟨hi, rfl⟩, hit', st.2.1.extBut hs'.extBut hne, tup⟩ fun b o hb e => hs'.extBut b o (fun h => hb (by simp [h])) e
  go := fun _ _ _ _ _ s Q _ hm hQ => letGo_tupleiter hm.2.1 (hQ s.heap hm.2 fun _ _ _ e => e)
  apart := fun j T _ hm hmem => hTI j hm.1.1 (hm.1.2 ▸ List.mem_singleton.mp hmem)
  done := fun s Q E st hQ => wpAny_pyNext_tuple_end hh st.1 st.2.1 (by simp) fun h' he' => hQ h' s.toks fun b o hb e => he' b o (fun h => hb (by simp [h])) e
  self := fun _ _ _ _ st hQ => wpAny_pyIter_tupleiter st.1 hQ

/-- what is asked of a tuple of pairs that a comprehension walks -/
def SrcP (prog : Program) (w : World) (A : Around) (h₀ : Heap) (L : Addr) (m : Str → Option Value) (env : Env) (elt : Expr) (x x₂ : Str) (scope : Scope) (cl : List (Str × Addr)) (Q : Value → Shared → Prop) (xv : Value) (s₁ : Shared) : Prop :=
  ∃ (ax : Addr) (its : Array Value) (k : Nat) (news : List (Addr × Obj)) (Ts : Nat → Addr) (v₁ v₂ : Nat → Value) (G : Nat → Value → List (Addr × Obj) → Prop), xv = .ref ax ∧ A.handled = none ∧ Fr h₀ L s₁.heap m ∧ News h₀ L s₁.heap news ∧
    (ax, ({ cls := .type "tuple", data := .seq its k } : Obj)) ∈ news ∧ (∀ j, j < its.size → its[j]? = some (.ref (Ts j)) ∧ ∃ n, (Ts j, ({ cls := .type "tuple", data := .seq #[v₁ j, v₂ j] n } : Obj)) ∈ news) ∧ its.size ≤ sizeLine ∧
    (∀ s₂ : Shared, (∃ h, s₂ = { s₁ with heap := h }) → (∀ j, j < its.size → Turn prog w A h₀ L m env elt x x₂ scope cl s₂ news (G j) (v₁ j) (v₂ j)) ∧
    ∀ D ys outs h tk, Fr h₀ L h m → News h₀ L h ((D, LCg.lst ys) :: (outs ++ news)) → Gath G its.size ys outs → Q (.ref D) { s₂ with heap := h, toks := tk })

theorem comp_pairs {elt iter : Expr} {x x₂ : Str} {px px₂ tp : Pos} {tk} {scope : Scope} {cl : List (Str × Addr)} {pos : Pos} {Q : Value → Shared → Prop} (F₀ : Fr h₀ L s.heap m)
    (hclos : closureFor scope env = pure cl) (hcell : ∀ y ∈ scope.names, y.2 ≠ .cell) (hkind : scope.kind = .function)
    (hnames : ∀ y ∈ scope.names, y.2 = .local → scope.names.lookup y.1 = some .local) (hx : scope.names.lookup x = some .local) (hx₂ : scope.names.lookup x₂ = some .local) (hxx : x ≠ x₂)
    (h : wpAny (model prog w) A (eval iter env) (SrcP prog w A h₀ L m env elt x x₂ scope cl Q) E s)
    (hs : ∀ x, foldedSetIterable iter env x = pure x := by intro _; rfl) :
    wpAny (model prog w) A (eval (.ListComp elt [⟨.Tuple [.Name x px, .Name x₂ px₂] tk tp, iter, [], 0⟩] scope pos) env) Q E s := by
  rw [eval_ListComp]
  refine wpAny_comprehension_free (use := none) rfl hs hclos hkind hnames (wpAny_mono h (fun xv s₁ h₁ => ?_) fun _ _ e => e)
  obtain ⟨ax, its, k, news, Ts, v₁, v₂, G, rfl, hh, F, N, hm, hT, hsz, R⟩ := h₁
  have Na := N _ hm
  refine wpAny_pyIter_tuple (t := ax) (items := its) ⟨_, Na.1, rfl, k, rfl⟩ ?_
  obtain ⟨T, R⟩ := R { s₁ with heap := s₁.heap.push { cls := .type "tuple_iterator", data := .fields #[.ref ax, .int 0 0] } } ⟨_, rfl⟩
  have up : ∀ b o, s₁.heap.get? b = some o → (s₁.heap.push { cls := .type "tuple_iterator", data := .fields #[.ref ax, .int 0 0] }).get? b = some o := fun b o e => Heap.get?_push_of_some _ e
  have lt : ∀ p ∈ news, p.1 < s₁.heap.objs.size := fun p hp => Heap.lt_size (N p hp).1
  refine block_pairs (G := G) (walks_tups hh s₁.heap.objs.size ax (Nat.ne_of_lt (lt _ hm)) its Ts (fun j => #[v₁ j, v₂ j]) (fun j hj => (hT j hj).1) (fun j hj => by obtain ⟨-, n, q⟩ := hT j hj; exact Nat.ne_of_lt (lt _ q))) hsz
    (fun i h st b hb => ?_) (fun i h st b hb => ?_) hcell hkind hx hx₂ hxx hh ⟨⟨_, Heap.get?_push_size _ rfl, rfl, rfl⟩, ⟨_, up _ _ Na.1, rfl, k, rfl⟩, fun j hj => ?_⟩ (fun b hb => ?_) (fun b hb => ?_)
    (fun i vals hP => ⟨_, _, hP.2, T i hP.1⟩) (F.keeps up) (N.grown up) (fun p hp q => ?_) ?_
  · obtain ⟨⟨o₁, e₁, _⟩, ⟨o₂, e₂, _⟩, ht⟩ := st
    rcases List.mem_cons.mp hb with rfl | hb
    · exact ⟨_, e₁⟩
    · rcases List.mem_cons.mp hb with rfl | hb
      · exact ⟨_, e₂⟩
      · obtain ⟨j, hj, rfl⟩ := List.mem_map.mp hb
        obtain ⟨o, e, _⟩ := ht j (List.mem_range.mp hj)
        exact ⟨o, e⟩
  · obtain ⟨⟨o₁, e₁, c₁, _⟩, _⟩ := st
    rw [List.mem_singleton.mp hb]
    exact ⟨_, e₁, by rw [c₁]; simp⟩
  · obtain ⟨-, n, q⟩ := hT j hj
    exact ⟨_, up _ _ (N _ q).1, rfl, n, rfl⟩
  · show b < (s₁.heap.push _).objs.size
    rw [Heap.size_push]
    rcases List.mem_cons.mp hb with rfl | hb
    · exact Nat.lt_succ_self _
    · rcases List.mem_cons.mp hb with rfl | hb
      · exact Nat.lt_succ_of_lt (lt _ hm)
      · obtain ⟨j, hj, rfl⟩ := List.mem_map.mp hb
        obtain ⟨-, n, q⟩ := hT j (List.mem_range.mp hj)
        exact Nat.lt_succ_of_lt (lt _ q)
  · rcases List.mem_cons.mp hb with rfl | hb
    · exact ⟨next_is_new F, (Nat.ne_of_lt F.ns.lt).symm⟩
    · rcases List.mem_cons.mp hb with rfl | hb
      · exact ⟨Na.2.2, Na.2.1⟩
      · obtain ⟨j, hj, rfl⟩ := List.mem_map.mp hb
        obtain ⟨-, n, q⟩ := hT j (List.mem_range.mp hj)
        exact ⟨(N _ q).2.2, (N _ q).2.1⟩
  · have z := lt p hp
    rw [List.mem_singleton.mp q] at z
    exact Nat.lt_irrefl _ z
  · intro D C h' tk' m' ys outs F' N' hn hC₀ hCL offC G'
    exact ⟨m', hn, fun h'' hs'' => R D ys outs h'' tk' (F'.change hs'' hCL hC₀) (fun p hp => ⟨hs''.extBut _ _ (offC p hp) (N' p hp).1, (N' p hp).2⟩) G'⟩
end
end Mine
end
section
namespace Mine
noncomputable section
section
variable {vw : Program} {w : World} {loose : List Str} {mean : ExcName → Option Value} {mg mb : Str → Option Value} {dp un : Nat} {gd : Option (List Code)} {cn : Str} {cs : Scope} {a : Addr} {ccd : Value} {cl : List (Str × Addr)} {outer : List Env} {A₀ : Around} {base h₀ : Heap} {L : Addr} {m : Str → Option Value} {s : Shared} {Q : Value → Shared → Prop} {E : Value → Shared → Prop} {news : List (Addr × Obj)}

local macro_rules | `(tactic| k_upd) => `(tactic| exact Upd.head (List.forall_mem_cons.mpr ⟨Ne.symm (by assumption), by assumption⟩))
set_option maxRecDepth 100000 in
set_option maxHeartbeats 0 in
theorem c_pick {pre post : List (Addr × Obj)} {pd l : Addr} {i tot many : Int} {t1 t2 t3 : Tok} {nl nn : Nat} {vs : List Value} {ns : List Int}
    (B : Below A₀ base outer h₀) (F : Fr h₀ L s.heap m) (X : (hd.heap_1 w.params).In h₀) (N : News h₀ L s.heap ((pd, W.listOf #[.ref l, .int i t1, .int tot t2] nn) :: (l, W.listOf vs.toArray nl) :: post)) (T : Top vw loose mean mg mb h₀) (hk : cs.kind = .function)
    (hi : IntsAre vs ns) (hl : ns.length ≤ 10) (h0 : 0 ≤ i) (h1 : i ≤ 10) (ht0 : 0 ≤ tot) (ht1 : tot < 997) (hm0 : 0 < many) (hm1 : many ≤ 6)
    (hne : pd ≠ l) (hpost : ∀ p ∈ post, p.1 ≠ pd)
    (hdp : dp + 1 < recursionLimit) (hun : un + 8 < cLine)
    (hret : ∀ (r : Int) (t t1' : Tok) (h' : Heap) (tk' : Nat), 0 ≤ r → r < many → Fr h₀ L h' m → News h₀ L h' ((pd, W.listOf #[.ref l, .int (i + 1) t1', .int tot t2] nn) :: (l, W.listOf vs.toArray nl) :: post) → Q (.int r t) { s with heap := h', toks := tk' }) :
    wpAny (model PySem.Challenge.rw_rh0217_02.row.prog w) (ktrTop dp un gd cn cs L a ccd cl outer) (call (.ref 776) [.ref pd, .int many t3]) Q E s := by
  refine wpAny_call ?_
  k_dflt cell_enter
  (repeat' (first | (k_unfold; (try dsimp only)) | (lge_end; wrow_closeG) | walk1 | (dsimp only; first | walk1) | (leave1; try dsimp only) | wrow_closeG))
  all_goals exact hret _ _ _ _ _ (fmod_lo _ (by assumption)) (fmod_hi _ (by assumption)) (by k_asm) (by k_asm)
end
end
end Mine
end
section
namespace Mine
noncomputable section
theorem sub_13 {α : Type} {x y z : α} {l : List α} : ∀ p ∈ x :: z :: l, p ∈ x :: y :: z :: l := fun p hp => by
  rcases List.mem_cons.mp hp with rfl | hp
  · exact .head _
  · exact .tail _ (.tail _ hp)
theorem tail164 : Tail 164 [.ref 151, .type "Exception", .type "BaseException", .type "object"] := ⟨by decide +kernel, by decide +kernel, by decide +kernel, by decide +kernel⟩
section
variable {vw : Program} {w : World} {loose : List Str} {mean : ExcName → Option Value} {mg mb : Str → Option Value} {dp un : Nat} {gd : Option (List Code)} {cn : Str} {cs : Scope} {a : Addr} {ccd : Value} {cl : List (Str × Addr)} {outer : List Env} {A₀ : Around} {base h₀ : Heap} {L : Addr} {m : Str → Option Value} {s : Shared} {Q : Value → Shared → Prop} {E : Value → Shared → Prop} {news : List (Addr × Obj)}

set_option maxRecDepth 100000 in
set_option maxHeartbeats 0 in
theorem c_init {e t0 : Addr} {x : Str} {tx : Tok}
    (B : Below A₀ base outer h₀) (F : Fr h₀ L s.heap m) (X : (hd.heap_1 w.params).In h₀) (N : News h₀ L s.heap ((e, excO 164 none t0) :: news)) (T : Top vw loose mean mg mb h₀) (hk : cs.kind = .function)
    (hne : ∀ p ∈ news, p.1 ≠ e)
    (hdp : dp + 3 < recursionLimit) (hun : un + 12 < cLine)
    (hret : ∀ (t1 d1 : Addr) (h' : Heap) (tk' : Nat), (∀ p ∈ news, p.1 ≠ t1) → Fr h₀ L h' m → News h₀ L h' ((e, excO 164 (some d1) t1) :: (t1, tupO [.str x tx]) :: news) → Q .none { s with heap := h', toks := tk' }) :
    wpAny (model PySem.Challenge.rw_rh0217_02.row.prog w) (ktrTop dp un gd cn cs L a ccd cl outer) (call (.ref 148) [.ref e, .str x tx]) Q E s := by
  refine wpAny_call ?_
  k_dflt cell_enter
  (repeat' (first | (k_unfold; (try dsimp only)) | (lge_end; wrow_closeG) | (first | ((with_reducible show wpAny _ _ (setAttr (Value.ref _) _ _) _ _ _); (k_here; k_dflt (refine' own_store (by k_asm) (by k_asm) (by k_asm) (by exact List.forall_mem_cons.mpr ⟨by assumption, by assumption⟩) (by k_is) (by k_is) (by rfl) (by rfl) (by k_is) ?_; k_whole); intro d'q o'q h'q tk'q F'q N'q)) | ((with_reducible show wpAny _ _ (call (Value.builtin "Exception.__init__") _ _) _ _ _); (k_here; k_dflt (refine' own_initK (by k_asm) (by k_asm) (by k_asm) (by assumption) (by k_is) tail164 ?_; k_whole); intro t'q h'q ne'q nt'q F'q N'q)) | ((with_reducible show wpAny _ _ (getMethod (Value.type "Exception") _ _) _ _ _); (k_here; k_dflt (refine' method_type (by k_asm) (by k_asm) (by exact rfl) (by decide +kernel) (by k_is) (by rfl) ?_; k_whole)))) | walk1 | (dsimp only; first | walk1 | (first | ((with_reducible show wpAny _ _ (setAttr (Value.ref _) _ _) _ _ _); (k_here; k_dflt (refine' own_store (by k_asm) (by k_asm) (by k_asm) (by exact List.forall_mem_cons.mpr ⟨by assumption, by assumption⟩) (by k_is) (by k_is) (by rfl) (by rfl) (by k_is) ?_; k_whole); intro d'q o'q h'q tk'q F'q N'q)) | ((with_reducible show wpAny _ _ (call (Value.builtin "Exception.__init__") _ _) _ _ _); (k_here; k_dflt (refine' own_initK (by k_asm) (by k_asm) (by k_asm) (by assumption) (by k_is) tail164 ?_; k_whole); intro t'q h'q ne'q nt'q F'q N'q)) | ((with_reducible show wpAny _ _ (getMethod (Value.type "Exception") _ _) _ _ _); (k_here; k_dflt (refine' method_type (by k_asm) (by k_asm) (by exact rfl) (by decide +kernel) (by k_is) (by rfl) ?_; k_whole))))) | (leave1; try dsimp only) | wrow_closeG))
  all_goals exact hret _ _ _ _ (by assumption) (by k_asm) (cb_drop (by assumption) sub_13)
end
end
end Mine
end
section
namespace Mine
noncomputable section
theorem raisableO_K {K : Frag} {E : Value → Shared → Prop} {s₁ : Shared} {h₀ : Heap} {L e t C : Addr} {m : Str → Option Value} {dd : Option Addr} {rest : List (Addr × Obj)} {nm q : Str} {N' : Addr} {bs bm : List Value} {hdct : Bool} {sn : List Str} {sub : List Value} {ab : Bool} {col : Option Bool} {dd' : Option Addr} {k0 k1 k2 k3 k5 : Option Value} {newId : String}
    (F : Fr h₀ L s₁.heap m) (X₀ : K.In h₀) (N : News h₀ L s₁.heap ((e, excO C dd t) :: rest)) (hl : K.lookup C = some (excClassObj nm q C N' bs bm hdct sn sub ab col dd' k0 k1 k2 k3 k5 newId)) (T : Tail C bm) (h : E (.ref e) s₁) : RaisableO E (.ref e) s₁ :=
  ⟨e, C, _, _, nm, q, N', bs, bm, hdct, sn, sub, ab, col, dd', k0, k1, k2, k3, k5, newId, rfl, (N _ (.head _)).1, rfl, rfl, rfl, X₀.keeps F.keep _ _ hl, T.Z, h⟩
theorem raisedS_sub {base G : Heap} {l : List Env} {e t : Addr} {cls : Value} {vs : List Value} {news news' : List (Addr × Obj)} {h : Heap} (R : RaisedS base G l e cls t vs news h) (k : ∀ p ∈ news', p ∈ news) : RaisedS base G l e cls t vs news' h :=
  let ⟨⟨B, a, b, c, d, f⟩, x⟩ := R
  ⟨⟨B, a, b, (fun q hq => c q (k q hq)), d, f⟩, x⟩
section
variable {vw : Program} {w : World} {loose : List Str} {mean : ExcName → Option Value} {mg mb : Str → Option Value} {dp un : Nat} {gd : Option (List Code)} {cn : Str} {cs : Scope} {a : Addr} {ccd : Value} {cl : List (Str × Addr)} {outer : List Env} {A₀ : Around} {base h₀ : Heap} {L : Addr} {m : Str → Option Value} {s : Shared} {Q : Value → Shared → Prop} {E : Value → Shared → Prop} {news : List (Addr × Obj)}

set_option maxRecDepth 100000 in
set_option maxHeartbeats 0 in
theorem c_err {x : Str} {tx : Tok}
    (B : Below A₀ base outer h₀) (F : Fr h₀ L s.heap m) (X : (hd.heap_1 w.params).In h₀) (N : News h₀ L s.heap news) (T : Top vw loose mean mg mb h₀) (hk : cs.kind = .function)
    (hdp : dp + 10 < recursionLimit) (hun : un + 30 < cLine)
    (hret : ∀ (e t1 d1 : Addr) (h' : Heap) (tk' : Nat), (∀ p ∈ news, p.1 ≠ e ∧ p.1 ≠ t1) → Fr h₀ L h' m → News h₀ L h' ((e, excO 164 (some d1) t1) :: (t1, tupO [.str x tx]) :: news) → Q (.ref e) { s with heap := h', toks := tk' }) :
    wpAny (model PySem.Challenge.rw_rh0217_02.row.prog w) (ktrTop dp un gd cn cs L a ccd cl outer) (call (.ref 164) [.str x tx]) Q E s := by
  have XX := X.keeps F.keep
  obtain ⟨hp, g, d, tk, os⟩ := s
  k_dflt (refine' own_make (C := 164) tail164 (XX _ _ ?hl) (looks_findIn XX ?hi) (looks_typeIn XX ?hf) ?hq ?hz; (case hl => k_is); (case hi => k_is); (case hf => k_is); (case hz => (rw [sizeLine_eq]; exact Nat.le_of_ble_eq_true rfl)))
  intro h' e hm
  obtain ⟨t0, he, htn, ht⟩ := hm.there
  have F' := F.keeps hm.keeps
  have hen : h₀.get? e = none := kts_none F.keep hm.new
  have N' : News h₀ L h' ((e, excO 164 none t0) :: news) := News.more F' (News.grown N hm.keeps) he (fun es n q => nomatch q) hen
  have hne : ∀ p ∈ news, p.1 ≠ e := fun p hp z => by
    have := (N p hp).1
    rw [z] at this
    have hnew := hm.new
    dsimp only at this
    rw [hnew] at this
    cases this
  k_dflt (refine' c_init (un := _) (dp := _) (gd := _) B F' X N' T hk hne ?hd ?hu ?hr)
  case hr =>
    intro t1 d1 h2 tk2 hnt F2 N2
    exact ⟨rfl, hret e t1 d1 h2 tk2 (fun p hp => ⟨hne p hp, hnt p hp⟩) F2 N2⟩
  case hd => show dp + 1 + 3 < recursionLimit; omega
  case hu => show un + 1 + 12 < cLine; omega

end
end
end Mine
end
section
namespace Mine
noncomputable section
local macro_rules | `(tactic| kba_in) => `(tactic| (refine Mine.in_oct ?_; repeat (first | exact Mine.all_nil | refine Mine.all_cons ⟨_, rfl⟩ ?_)))
local macro_rules | `(tactic| walk_at "own0") => `(tactic| ((with_reducible show wpAny _ _ (leaving _ (Value.ref _)) _ _ _); (k_here; first | (k_dflt (refine' leave_first ?K ?F ?N ?ne ?hf ?hk ?_; (case N | K | F | ne => assumption); (case hf | hk => exact rfl); k_whole); intro h'q S'q R'q U'q; (try dsimp only at S'q R'q U'q ⊢)) | (k_dflt (refine' leave_onS ?k1 ?k2 ?k3 ?k4 ?_; (case k3 | k2 | k1 | k4 => assumption); k_whole); intro h'q S'q R'q U'q; (try dsimp only at S'q R'q U'q ⊢)))))
section
variable {vw : Program} {w : World} {loose : List Str} {mean : ExcName → Option Value} {mg mb : Str → Option Value} {dp un : Nat} {gd : Option (List Code)} {cn : Str} {cs : Scope} {a : Addr} {ccd : Value} {cl : List (Str × Addr)} {outer : List Env} {A₀ : Around} {base h₀ : Heap} {L : Addr} {m : Str → Option Value} {s : Shared} {Q : Value → Shared → Prop} {E : Value → Shared → Prop} {news : List (Addr × Obj)}
set_option maxRecDepth 100000 in
set_option maxHeartbeats 0 in
theorem c_u8 {n : Int} {t1 : Tok}
    (B : Below A₀ base outer h₀) (F : Fr h₀ L s.heap m) (X : (hd.heap_1 w.params).In h₀) (N : News h₀ L s.heap news) (T : Top vw loose mean mg mb h₀) (hk : cs.kind = .function)
    (h0 : 0 ≤ n) (h1 : n ≤ 255)
    (hdp : dp + 20 < recursionLimit) (hun : un + 50 < cLine)
    (hret : ∀ (t : Tok) (h' : Heap) (tk' : Nat), Fr h₀ L h' m → News h₀ L h' news → Q (.bytes (Mine.oct1 n) t) { s with heap := h', toks := tk' }) :
    wpAny (model PySem.Challenge.rw_rh0217_02.row.prog w) (ktrTop dp un gd cn cs L a ccd cl outer) (call (.ref 197) [.int n t1]) Q E s := by
  have hq : (n.fdiv (2 ^ (8 * 1 : Int).toNat) != 0) = false := by
    have : n.fdiv 256 = 0 := by rw [Int.fdiv_eq_ediv_of_nonneg _ (by decide)]; omega
    show (n.fdiv 256 != 0) = false
    rw [this]; rfl
  refine wpAny_call ?_
  k_dflt cell_enter
  (repeat' (first | (k_unfold; (try dsimp only)) | (lge_end; wrow_closeG) | (first | ((with_reducible show LCg.CompEnd _ _ _ _ _ _ _ _ _ _ _ _ _ _); (k_here; k_dflt (refine LCg.CompEnd.intro (by assumption) (by assumption) _ (fun _ h => h) (by first | assumption | (simp only [LCg.Off3, and_true]; assumption)) True.intro ?_))) | ((with_reducible show Mine.SrcS _ _ _ _ _ _ _ _ _ _ _ _ _ _); (k_here; k_dflt (refine Mine.SrcS.intro (by rfl) (by k_asm) (by k_asm) (by assumption) (by decide) (by rfl) (by first | size_fits | exact Nat.le_of_ble_eq_true rfl) ?_; intro g'q; lcg_lit))) | (k_here; (with_reducible show wpAny _ _ (eval (Expr.ListComp _ [⟨Expr.Name _ _, Expr.Call (Expr.Name _ _) [_, _, _] _ _, [], 0⟩] _ _) _) _ _ _); k_dflt (refine Mine.comp_steps (F₀ := by k_asm) (by rfl) (by decide) (by rfl) (by decide) (by rfl) ?_)) | ((with_reducible show @ite _ _ _ _ _); (with_reducible refine Mine.ite_ff ?_))) | walk1 | (dsimp only; first | walk1 | (first | ((with_reducible show LCg.CompEnd _ _ _ _ _ _ _ _ _ _ _ _ _ _); (k_here; k_dflt (refine LCg.CompEnd.intro (by assumption) (by assumption) _ (fun _ h => h) (by first | assumption | (simp only [LCg.Off3, and_true]; assumption)) True.intro ?_))) | ((with_reducible show Mine.SrcS _ _ _ _ _ _ _ _ _ _ _ _ _ _); (k_here; k_dflt (refine Mine.SrcS.intro (by rfl) (by k_asm) (by k_asm) (by assumption) (by decide) (by rfl) (by first | size_fits | exact Nat.le_of_ble_eq_true rfl) ?_; intro g'q; lcg_lit))) | (k_here; (with_reducible show wpAny _ _ (eval (Expr.ListComp _ [⟨Expr.Name _ _, Expr.Call (Expr.Name _ _) [_, _, _] _ _, [], 0⟩] _ _) _) _ _ _); k_dflt (refine Mine.comp_steps (F₀ := by k_asm) (by rfl) (by decide) (by rfl) (by decide) (by rfl) ?_)) | ((with_reducible show @ite _ _ _ _ _); (with_reducible refine Mine.ite_ff ?_)))) | (leave1; try dsimp only) | wrow_closeG))
  all_goals (rw [Mine.oct1_eq])
  all_goals exact hret _ _ _ (by k_asm) (by first | k_asm | (refine' cb_drop ?N ?hs; (case N => assumption); (case hs => (intro p hp; repeat (first | exact hp | apply List.mem_cons_of_mem)))))

set_option maxRecDepth 100000 in
set_option maxHeartbeats 0 in
theorem c_u16 {n : Int} {t1 : Tok}
    (B : Below A₀ base outer h₀) (F : Fr h₀ L s.heap m) (X : (hd.heap_1 w.params).In h₀) (N : News h₀ L s.heap news) (T : Top vw loose mean mg mb h₀) (hk : cs.kind = .function)
    (h0 : 0 ≤ n) (h1 : n ≤ 65535)
    (hdp : dp + 20 < recursionLimit) (hun : un + 50 < cLine)
    (hret : ∀ (t : Tok) (h' : Heap) (tk' : Nat), Fr h₀ L h' m → News h₀ L h' news → Q (.bytes (Mine.oct2 n) t) { s with heap := h', toks := tk' }) :
    wpAny (model PySem.Challenge.rw_rh0217_02.row.prog w) (ktrTop dp un gd cn cs L a ccd cl outer) (call (.ref 204) [.int n t1]) Q E s := by
  have hq : (n.fdiv (2 ^ (8 * 2 : Int).toNat) != 0) = false := by
    have : n.fdiv 65536 = 0 := by rw [Int.fdiv_eq_ediv_of_nonneg _ (by decide)]; omega
    show (n.fdiv 65536 != 0) = false
    rw [this]; rfl
  refine wpAny_call ?_
  k_dflt cell_enter
  (repeat' (first | (k_unfold; (try dsimp only)) | (lge_end; wrow_closeG) | (first | ((with_reducible show LCg.CompEnd _ _ _ _ _ _ _ _ _ _ _ _ _ _); (k_here; k_dflt (refine LCg.CompEnd.intro (by assumption) (by assumption) _ (fun _ h => h) (by first | assumption | (simp only [LCg.Off3, and_true]; assumption)) True.intro ?_))) | ((with_reducible show Mine.SrcS _ _ _ _ _ _ _ _ _ _ _ _ _ _); (k_here; k_dflt (refine Mine.SrcS.intro (by rfl) (by k_asm) (by k_asm) (by assumption) (by decide) (by rfl) (by first | size_fits | exact Nat.le_of_ble_eq_true rfl) ?_; intro g'q; lcg_lit))) | (k_here; (with_reducible show wpAny _ _ (eval (Expr.ListComp _ [⟨Expr.Name _ _, Expr.Call (Expr.Name _ _) [_, _, _] _ _, [], 0⟩] _ _) _) _ _ _); k_dflt (refine Mine.comp_steps (F₀ := by k_asm) (by rfl) (by decide) (by rfl) (by decide) (by rfl) ?_)) | ((with_reducible show @ite _ _ _ _ _); (with_reducible refine Mine.ite_ff ?_))) | walk1 | (dsimp only; first | walk1 | (first | ((with_reducible show LCg.CompEnd _ _ _ _ _ _ _ _ _ _ _ _ _ _); (k_here; k_dflt (refine LCg.CompEnd.intro (by assumption) (by assumption) _ (fun _ h => h) (by first | assumption | (simp only [LCg.Off3, and_true]; assumption)) True.intro ?_))) | ((with_reducible show Mine.SrcS _ _ _ _ _ _ _ _ _ _ _ _ _ _); (k_here; k_dflt (refine Mine.SrcS.intro (by rfl) (by k_asm) (by k_asm) (by assumption) (by decide) (by rfl) (by first | size_fits | exact Nat.le_of_ble_eq_true rfl) ?_; intro g'q; lcg_lit))) | (k_here; (with_reducible show wpAny _ _ (eval (Expr.ListComp _ [⟨Expr.Name _ _, Expr.Call (Expr.Name _ _) [_, _, _] _ _, [], 0⟩] _ _) _) _ _ _); k_dflt (refine Mine.comp_steps (F₀ := by k_asm) (by rfl) (by decide) (by rfl) (by decide) (by rfl) ?_)) | ((with_reducible show @ite _ _ _ _ _); (with_reducible refine Mine.ite_ff ?_)))) | (leave1; try dsimp only) | wrow_closeG))
  all_goals (rw [Mine.oct2_eq])
  all_goals exact hret _ _ _ (by k_asm) (by first | k_asm | (refine' cb_drop ?N ?hs; (case N => assumption); (case hs => (intro p hp; repeat (first | exact hp | apply List.mem_cons_of_mem)))))

set_option maxRecDepth 100000 in
set_option maxHeartbeats 0 in
theorem c_u32 {n : Int} {t1 : Tok}
    (B : Below A₀ base outer h₀) (F : Fr h₀ L s.heap m) (X : (hd.heap_1 w.params).In h₀) (N : News h₀ L s.heap news) (T : Top vw loose mean mg mb h₀) (hk : cs.kind = .function)
    (h0 : 0 ≤ n) (h1 : n ≤ 4294967295)
    (hdp : dp + 20 < recursionLimit) (hun : un + 50 < cLine)
    (hret : ∀ (t : Tok) (h' : Heap) (tk' : Nat), Fr h₀ L h' m → News h₀ L h' news → Q (.bytes (Mine.oct4 n) t) { s with heap := h', toks := tk' }) :
    wpAny (model PySem.Challenge.rw_rh0217_02.row.prog w) (ktrTop dp un gd cn cs L a ccd cl outer) (call (.ref 211) [.int n t1]) Q E s := by
  have hq : (n.fdiv (2 ^ (8 * 4 : Int).toNat) != 0) = false := by
    have : n.fdiv 4294967296 = 0 := by rw [Int.fdiv_eq_ediv_of_nonneg _ (by decide)]; omega
    show (n.fdiv 4294967296 != 0) = false
    rw [this]; rfl
  refine wpAny_call ?_
  k_dflt cell_enter
  (repeat' (first | (k_unfold; (try dsimp only)) | (lge_end; wrow_closeG) | (first | ((with_reducible show LCg.CompEnd _ _ _ _ _ _ _ _ _ _ _ _ _ _); (k_here; k_dflt (refine LCg.CompEnd.intro (by assumption) (by assumption) _ (fun _ h => h) (by first | assumption | (simp only [LCg.Off3, and_true]; assumption)) True.intro ?_))) | ((with_reducible show Mine.SrcS _ _ _ _ _ _ _ _ _ _ _ _ _ _); (k_here; k_dflt (refine Mine.SrcS.intro (by rfl) (by k_asm) (by k_asm) (by assumption) (by decide) (by rfl) (by first | size_fits | exact Nat.le_of_ble_eq_true rfl) ?_; intro g'q; lcg_lit))) | (k_here; (with_reducible show wpAny _ _ (eval (Expr.ListComp _ [⟨Expr.Name _ _, Expr.Call (Expr.Name _ _) [_, _, _] _ _, [], 0⟩] _ _) _) _ _ _); k_dflt (refine Mine.comp_steps (F₀ := by k_asm) (by rfl) (by decide) (by rfl) (by decide) (by rfl) ?_)) | ((with_reducible show @ite _ _ _ _ _); (with_reducible refine Mine.ite_ff ?_))) | walk1 | (dsimp only; first | walk1 | (first | ((with_reducible show LCg.CompEnd _ _ _ _ _ _ _ _ _ _ _ _ _ _); (k_here; k_dflt (refine LCg.CompEnd.intro (by assumption) (by assumption) _ (fun _ h => h) (by first | assumption | (simp only [LCg.Off3, and_true]; assumption)) True.intro ?_))) | ((with_reducible show Mine.SrcS _ _ _ _ _ _ _ _ _ _ _ _ _ _); (k_here; k_dflt (refine Mine.SrcS.intro (by rfl) (by k_asm) (by k_asm) (by assumption) (by decide) (by rfl) (by first | size_fits | exact Nat.le_of_ble_eq_true rfl) ?_; intro g'q; lcg_lit))) | (k_here; (with_reducible show wpAny _ _ (eval (Expr.ListComp _ [⟨Expr.Name _ _, Expr.Call (Expr.Name _ _) [_, _, _] _ _, [], 0⟩] _ _) _) _ _ _); k_dflt (refine Mine.comp_steps (F₀ := by k_asm) (by rfl) (by decide) (by rfl) (by decide) (by rfl) ?_)) | ((with_reducible show @ite _ _ _ _ _); (with_reducible refine Mine.ite_ff ?_)))) | (leave1; try dsimp only) | wrow_closeG))
  all_goals (rw [Mine.oct4_eq])
  all_goals exact hret _ _ _ (by k_asm) (by first | k_asm | (refine' cb_drop ?N ?hs; (case N => assumption); (case hs => (intro p hp; repeat (first | exact hp | apply List.mem_cons_of_mem)))))

set_option maxRecDepth 100000 in
set_option maxHeartbeats 0 in
theorem c_u16_bad {n : Int} {t1 : Tok}
    (B : Below A₀ base outer h₀) (F : Fr h₀ L s.heap m) (X : (hd.heap_1 w.params).In h₀) (N : News h₀ L s.heap news) (T : Top vw loose mean mg mb h₀) (hk : cs.kind = .function)
    (h1 : 65535 < n)
    (hdp : dp + 20 < recursionLimit) (hun : un + 50 < cLine)
    (hE : ∀ (e t : Addr) (vs : List Value) (g₂ h' : Heap) (tk' : Nat), Fr h₀ L g₂ m → RaisedS base g₂ (envX cn cs L a ccd cl :: outer) e (.ref 164) t vs news h' → g₂.UpToSlots h' → E (.ref e) { s with heap := h', toks := tk' }) :
    wpAny (model PySem.Challenge.rw_rh0217_02.row.prog w) (ktrTop dp un gd cn cs L a ccd cl outer) (call (.ref 204) [.int n t1]) Q E s := by
  have h0 : 0 ≤ n := by omega
  have hq : (n.fdiv (2 ^ (8 * 2 : Int).toNat) != 0) = true := by
    have : n.fdiv 65536 ≠ 0 := by rw [Int.fdiv_eq_ediv_of_nonneg _ (by decide)]; omega
    show (n.fdiv 65536 != 0) = true
    simpa using this
  refine wpAny_call ?_
  k_dflt cell_enter
  (repeat' (first | (k_unfold; (try dsimp only)) | (lge_end; wrow_closeG) | (first | ((with_reducible show wpAny _ _ (leaving _ (Value.ref _)) _ _ _); walk_at "own0") | ((with_reducible show Mine.RaisableO _ _ _); (k_here; k_dflt (refine' raisableO_K (by k_asm) (by k_asm) (by k_asm) (by k_is) tail164 ?_; k_whole); dsimp only)) | (k_here; (with_reducible show wpAny _ _ (exec (Stmt.Raise (some (Expr.Call (Expr.Name _ _) (_ :: _) [] _)) none _) _) _ _ _); refine raise_own rfl ?_) | (k_here; k_dflt ((with_reducible show wpAny _ _ (call (Value.ref 164) _) _ _ _); (refine' Mine.c_err (by k_asm) (by k_asm) (by k_asm) (by k_asm) (by k_asm) (by first | exact rfl | assumption) (by ktr_room) (by ktr_units) ?_); intro e'q t'q d'q h'q tk'q ne'q F'q N'q))) | walk1 | (dsimp only; first | walk1 | (first | ((with_reducible show wpAny _ _ (leaving _ (Value.ref _)) _ _ _); walk_at "own0") | ((with_reducible show Mine.RaisableO _ _ _); (k_here; k_dflt (refine' raisableO_K (by k_asm) (by k_asm) (by k_asm) (by k_is) tail164 ?_; k_whole); dsimp only)) | (k_here; (with_reducible show wpAny _ _ (exec (Stmt.Raise (some (Expr.Call (Expr.Name _ _) (_ :: _) [] _)) none _) _) _ _ _); refine raise_own rfl ?_) | (k_here; k_dflt ((with_reducible show wpAny _ _ (call (Value.ref 164) _) _ _ _); (refine' Mine.c_err (by k_asm) (by k_asm) (by k_asm) (by k_asm) (by k_asm) (by first | exact rfl | assumption) (by ktr_room) (by ktr_units) ?_); intro e'q t'q d'q h'q tk'q ne'q F'q N'q)))) | (leave1; try dsimp only) | wrow_closeG))
  all_goals (refine' hE _ _ _ _ _ _ ?fa (raisedS_sub ?fb ?fc) ?fd; (case fb => assumption); (case fa => assumption); (case fd => assumption); (case fc => (intro p hp; repeat (first | exact hp | apply List.mem_cons_of_mem))))

set_option maxRecDepth 100000 in
set_option maxHeartbeats 0 in
theorem c_u32_bad {n : Int} {t1 : Tok}
    (B : Below A₀ base outer h₀) (F : Fr h₀ L s.heap m) (X : (hd.heap_1 w.params).In h₀) (N : News h₀ L s.heap news) (T : Top vw loose mean mg mb h₀) (hk : cs.kind = .function)
    (h1 : 4294967295 < n)
    (hdp : dp + 20 < recursionLimit) (hun : un + 50 < cLine)
    (hE : ∀ (e t : Addr) (vs : List Value) (g₂ h' : Heap) (tk' : Nat), Fr h₀ L g₂ m → RaisedS base g₂ (envX cn cs L a ccd cl :: outer) e (.ref 164) t vs news h' → g₂.UpToSlots h' → E (.ref e) { s with heap := h', toks := tk' }) :
    wpAny (model PySem.Challenge.rw_rh0217_02.row.prog w) (ktrTop dp un gd cn cs L a ccd cl outer) (call (.ref 211) [.int n t1]) Q E s := by
  have h0 : 0 ≤ n := by omega
  have hq : (n.fdiv (2 ^ (8 * 4 : Int).toNat) != 0) = true := by
    have : n.fdiv 4294967296 ≠ 0 := by rw [Int.fdiv_eq_ediv_of_nonneg _ (by decide)]; omega
    show (n.fdiv 4294967296 != 0) = true
    simpa using this
  refine wpAny_call ?_
  k_dflt cell_enter
  (repeat' (first | (k_unfold; (try dsimp only)) | (lge_end; wrow_closeG) | (first | ((with_reducible show wpAny _ _ (leaving _ (Value.ref _)) _ _ _); walk_at "own0") | ((with_reducible show Mine.RaisableO _ _ _); (k_here; k_dflt (refine' raisableO_K (by k_asm) (by k_asm) (by k_asm) (by k_is) tail164 ?_; k_whole); dsimp only)) | (k_here; (with_reducible show wpAny _ _ (exec (Stmt.Raise (some (Expr.Call (Expr.Name _ _) (_ :: _) [] _)) none _) _) _ _ _); refine raise_own rfl ?_) | (k_here; k_dflt ((with_reducible show wpAny _ _ (call (Value.ref 164) _) _ _ _); (refine' Mine.c_err (by k_asm) (by k_asm) (by k_asm) (by k_asm) (by k_asm) (by first | exact rfl | assumption) (by ktr_room) (by ktr_units) ?_); intro e'q t'q d'q h'q tk'q ne'q F'q N'q))) | walk1 | (dsimp only; first | walk1 | (first | ((with_reducible show wpAny _ _ (leaving _ (Value.ref _)) _ _ _); walk_at "own0") | ((with_reducible show Mine.RaisableO _ _ _); (k_here; k_dflt (refine' raisableO_K (by k_asm) (by k_asm) (by k_asm) (by k_is) tail164 ?_; k_whole); dsimp only)) | (k_here; (with_reducible show wpAny _ _ (exec (Stmt.Raise (some (Expr.Call (Expr.Name _ _) (_ :: _) [] _)) none _) _) _ _ _); refine raise_own rfl ?_) | (k_here; k_dflt ((with_reducible show wpAny _ _ (call (Value.ref 164) _) _ _ _); (refine' Mine.c_err (by k_asm) (by k_asm) (by k_asm) (by k_asm) (by k_asm) (by first | exact rfl | assumption) (by ktr_room) (by ktr_units) ?_); intro e'q t'q d'q h'q tk'q ne'q F'q N'q)))) | (leave1; try dsimp only) | wrow_closeG))
  all_goals (refine' hE _ _ _ _ _ _ ?fa (raisedS_sub ?fb ?fc) ?fd; (case fb => assumption); (case fa => assumption); (case fd => assumption); (case fc => (intro p hp; repeat (first | exact hp | apply List.mem_cons_of_mem))))

end
end
end Mine
end
section
namespace Mine
noncomputable section
theorem oct1_size (n : Int) : (oct1 n).size = 1 := byteArr_size _
theorem oct2_size (n : Int) : (oct2 n).size = 2 := byteArr_size _
theorem oct4_size (n : Int) : (oct4 n).size = 4 := byteArr_size _
/-- one capability's octets -/
def capB (code : Int) (b : Array UInt8) : Array UInt8 := oct1 code ++ oct1 b.size ++ b
theorem capB_size (code : Int) (b : Array UInt8) : (capB code b).size = b.size + 2 := by
  simp only [capB, Array.size_append, oct1_size]; omega
abbrev capO (code : Int) (tc : Tok) (b : Array UInt8) (tb : Tok) (n : Nat) : Obj := { cls := .type "tuple", data := .seq #[.int code tc, .bytes b tb] n }
section
variable {vw : Program} {w : World} {loose : List Str} {mean : ExcName → Option Value} {mg mb : Str → Option Value} {dp un : Nat} {gd : Option (List Code)} {cn : Str} {cs : Scope} {a : Addr} {ccd : Value} {cl : List (Str × Addr)} {outer : List Env} {A₀ : Around} {base h₀ : Heap} {L : Addr} {m : Str → Option Value} {s : Shared} {Q : Value → Shared → Prop} {E : Value → Shared → Prop} {news : List (Addr × Obj)}

set_option maxRecDepth 100000 in
set_option maxHeartbeats 0 in
theorem c_cap {ca : Addr} {code : Int} {tc tb : Tok} {b : Array UInt8} {n : Nat}
    (B : Below A₀ base outer h₀) (F : Fr h₀ L s.heap m) (X : (hd.heap_1 w.params).In h₀) (N : News h₀ L s.heap news) (T : Top vw loose mean mg mb h₀) (hk : cs.kind = .function)
    (hm : (ca, capO code tc b tb n) ∈ news) (h0 : 0 ≤ code) (h1 : code ≤ 255) (hz : b.size ≤ 253)
    (hdp : dp + 30 < recursionLimit) (hun : un + 80 < cLine)
    (hret : ∀ (t : Tok) (h' : Heap) (tk' : Nat), Fr h₀ L h' m → News h₀ L h' news → Q (.bytes (capB code b) t) { s with heap := h', toks := tk' }) :
    wpAny (model PySem.Challenge.rw_rh0217_02.row.prog w) (ktrTop dp un gd cn cs L a ccd cl outer) (call (.ref 260) [.ref ca]) Q E s := by
  refine wpAny_call ?_
  k_dflt cell_enter
  (repeat' (first | (k_unfold; (try dsimp only)) | (lge_end; wrow_closeG) | (first | (k_here; (with_reducible show wpAny _ _ (binaryOp Operator.Add (Value.bytes _ _) (Value.bytes _ _)) _ _ _); refine KBy.add_bytes (by (simp only [Array.size_append, oct1_size, oct2_size, oct4_size]; walk_at "om")) ?_; intro t'q k'q) | (k_here; (with_reducible show wpAny _ _ (call (Value.builtin "len") [Value.bytes _ _]) _ _ _); (refine len_bytes (by walk_at "om") ?_)) | (k_here; k_dflt ((with_reducible show wpAny _ _ (call (Value.ref 197) _) _ _ _); (refine' Mine.c_u8 (by k_asm) (by k_asm) (by k_asm) (by k_asm) (by k_asm) (by first | exact rfl | assumption) (by walk_at "om") (by walk_at "om") (by ktr_room) (by ktr_units) ?_); intro t'q h'q tk'q F'q N'q))) | walk1 | (dsimp only; first | walk1 | (first | (k_here; (with_reducible show wpAny _ _ (binaryOp Operator.Add (Value.bytes _ _) (Value.bytes _ _)) _ _ _); refine KBy.add_bytes (by (simp only [Array.size_append, oct1_size, oct2_size, oct4_size]; walk_at "om")) ?_; intro t'q k'q) | (k_here; (with_reducible show wpAny _ _ (call (Value.builtin "len") [Value.bytes _ _]) _ _ _); (refine len_bytes (by walk_at "om") ?_)) | (k_here; k_dflt ((with_reducible show wpAny _ _ (call (Value.ref 197) _) _ _ _); (refine' Mine.c_u8 (by k_asm) (by k_asm) (by k_asm) (by k_asm) (by k_asm) (by first | exact rfl | assumption) (by walk_at "om") (by walk_at "om") (by ktr_room) (by ktr_units) ?_); intro t'q h'q tk'q F'q N'q)))) | (leave1; try dsimp only) | wrow_closeG))
  all_goals (change Q (.bytes (capB code b) _) _; exact hret _ _ _ (by k_asm) (by k_asm))
end
end
end Mine
end
section
namespace Mine
noncomputable section
abbrev tupN (l : List Value) (n : Nat) : Obj := { cls := .type "tuple", data := .seq l.toArray n }
/-- the octets of an open's parameters, of the octets of its capabilities -/
def parB (lot : Array UInt8) : Array UInt8 := if lot.size = 0 then #[] else byteArr [2, (lot.size : Int)] ++ lot
/-- a tuple of none, one, two capabilities stands in the ledger; their octets are lot -/
inductive Caps (ca : Addr) (news : List (Addr × Obj)) : Array UInt8 → Prop
  | none {n : Nat} (h : (ca, tupN [] n) ∈ news) : Caps ca news #[]
  | one {c1 : Addr} {code : Int} {tc tb : Tok} {b : Array UInt8} {n n1 : Nat} (h : (ca, tupN [.ref c1] n) ∈ news) (h1 : (c1, capO code tc b tb n1) ∈ news) (a0 : 0 ≤ code) (a1 : code ≤ 255) (z : b.size ≤ 253) : Caps ca news (capB code b)
  | two {c1 c2 : Addr} {code code' : Int} {tc tb tc' tb' : Tok} {b b' : Array UInt8} {n n1 n2 : Nat} (h : (ca, tupN [.ref c1, .ref c2] n) ∈ news) (h1 : (c1, capO code tc b tb n1) ∈ news) (h2 : (c2, capO code' tc' b' tb' n2) ∈ news)
      (a0 : 0 ≤ code) (a1 : code ≤ 255) (z : b.size ≤ 253) (b0 : 0 ≤ code') (b1 : code' ≤ 255) (z' : b'.size ≤ 253) : Caps ca news (capB code b ++ capB code' b')
theorem capI (code : Int) (b : Array UInt8) : ((capB code b).size : Int) = b.size + 2 := by rw [capB_size]; rfl
theorem capII (code code' : Int) (b b' : Array UInt8) : ((capB code b ++ capB code' b').size : Int) = b.size + b'.size + 4 := by rw [Array.size_append, capB_size, capB_size]; omega
section
variable {prog : Program} {w : World} {A : Around} {E : Value → Shared → Prop} {s : Shared}
theorem len_as {b : Array UInt8} {t : Tok} {k : Int} {Q : Value → Shared → Prop} (e : (b.size : Int) = k) (hfit : k ≤ 1099511627776) (h : Q (.int k (s.toks + 1)) { s with toks := s.toks + 1 + 1 }) : wpAny (model prog w) A (call (.builtin "len") [.bytes b t]) Q E s := by
  subst e
  exact len_bytes (by omega) h
theorem eq_empty {b : Array UInt8} {t u : Tok} {Q : Value → Shared → Prop} (e : 0 < b.size) (h : Q (.bool false) s) : wpAny (model prog w) A (compareOp .Eq (.bytes b t) (.bytes #[] u)) Q E s := by
  refine eq_bytes ?_
  have : (b.toList == (#[] : Array UInt8).toList) = false := by
    obtain ⟨l⟩ := b
    cases l with
    | nil => simp at e
    | cons x r => rfl
  rw [this]; exact h
theorem eq_none {t u : Tok} {Q : Value → Shared → Prop} (h : Q (.bool true) s) : wpAny (model prog w) A (compareOp .Eq (.bytes #[] t) (.bytes #[] u)) Q E s := eq_bytes h
end
theorem in_two {a b : Int} (h : 0 ≤ a ∧ a < 256) (k : 0 ≤ b ∧ b < 256) : KBa.In [a, b] := fun n hn => by
  rcases List.mem_cons.mp hn with rfl | hn
  · exact h
  · rw [List.mem_singleton.mp hn]; exact k
theorem parB_none : parB #[] = #[] := rfl
theorem parB_some {lot : Array UInt8} {k : Int} (e : (lot.size : Int) = k) (h : 0 < k) : parB lot = byteArr [2, k] ++ lot := by
  subst e
  rw [parB, if_neg (by omega)]
local macro_rules | `(tactic| kba_in) => `(tactic| (refine in_two ⟨?_, ?_⟩ ⟨?_, ?_⟩ <;> walk_at "om"))
section
variable {vw : Program} {w : World} {loose : List Str} {mean : ExcName → Option Value} {mg mb : Str → Option Value} {dp un : Nat} {gd : Option (List Code)} {cn : Str} {cs : Scope} {a : Addr} {ccd : Value} {cl : List (Str × Addr)} {outer : List Env} {A₀ : Around} {base h₀ : Heap} {L : Addr} {m : Str → Option Value} {s : Shared} {Q : Value → Shared → Prop} {E : Value → Shared → Prop} {news : List (Addr × Obj)}

theorem pre_news {h : Heap} {p : Addr × Obj} (N : News h₀ L h news) (hm : p ∈ news) : News h₀ L h (p :: news) := fun q hq => by
  rcases List.mem_cons.mp hq with rfl | hq
  · exact N _ hm
  · exact N _ hq
set_option maxRecDepth 100000 in
set_option maxHeartbeats 0 in
theorem c_params {ca : Addr} {lot : Array UInt8}
    (B : Below A₀ base outer h₀) (F : Fr h₀ L s.heap m) (X : (hd.heap_1 w.params).In h₀) (N : News h₀ L s.heap news) (T : Top vw loose mean mg mb h₀) (hk : cs.kind = .function)
    (hc : Caps ca news lot) (hz : lot.size ≤ 253)
    (hdp : dp + 40 < recursionLimit) (hun : un + 100 < cLine)
    (hret : ∀ (t : Tok) (h' : Heap) (tk' : Nat), Fr h₀ L h' m → News h₀ L h' news → Q (.bytes (parB lot) t) { s with heap := h', toks := tk' }) :
    wpAny (model PySem.Challenge.rw_rh0217_02.row.prog w) (ktrTop dp un gd cn cs L a ccd cl outer) (call (.ref 265) [.ref ca]) Q E s := by
  cases hc with
  | none h =>
    have N1 := pre_news N h
    clear N
    refine wpAny_call ?_
    k_dflt cell_enter
    (repeat' (first | (k_unfold; (try dsimp only)) | (lge_end; wrow_closeG) | (first | (k_here; (with_reducible show wpAny _ _ (binaryOp Operator.Add (Value.bytes _ _) (Value.bytes _ _)) _ _ _); refine KBy.add_bytes (by (simp only [Array.size_append, capB_size, oct1_size, oct2_size, oct4_size, byteArr_size, List.length_cons, List.length_nil]; walk_at "om")) ?_; intro t'q k'q) | (k_here; (with_reducible show wpAny _ _ (compareOp CmpOp.Eq (Value.bytes _ _) (Value.bytes _ _)) _ _ _); first | (with_reducible refine eq_none ?_) | (refine eq_empty (by (simp only [Array.size_append, capB_size]; walk_at "om")) ?_)) | (k_here; (with_reducible show wpAny _ _ (call (Value.builtin "len") [Value.bytes _ _]) _ _ _); first | (with_reducible refine len_as (capI _ _) (by walk_at "om") ?_) | (with_reducible refine len_as (capII _ _ _ _) (by walk_at "om") ?_) | (refine len_as (k := 0) rfl (by decide) ?_)) | ((with_reducible show LCg.CompEnd _ _ _ _ _ _ _ _ _ _ _ _ _ _); (k_here; k_dflt (refine LCg.CompEnd.intro (by assumption) (by assumption) _ (fun _ h => h) (by first | assumption | (simp only [LCg.Off3, and_true]; assumption)) (by first | exact True.intro | k_mem) ?_))) | ((with_reducible show Mine.SrcT _ _ _ _ _ _ _ _ _ _ _ _ _ _); (k_here; k_dflt (refine Mine.SrcT.intro (by rfl) (by k_asm) (by k_asm) (by k_mem) (by first | size_fits | exact Nat.le_of_ble_eq_true rfl) ?_; intro g'q; lcg_lit))) | (k_here; (with_reducible show wpAny _ _ (eval (Expr.ListComp _ [⟨Expr.Name _ _, Expr.Name _ _, [], 0⟩] _ _) _) _ _ _); k_dflt (refine Mine.comp_tuple (F₀ := by k_asm) (by rfl) (by decide) (by rfl) (by decide) (by rfl) ?_)) | ((with_reducible show wpAny _ _ (call (Value.builtin "bytes.join") _ _) _ _ _); (k_here; k_dflt (first | (refine' join_one (by is_list) ?_; k_whole) | (refine' join_none (by is_list) ?_; k_whole; intro t'q k'q) | (refine' join_two (by is_list) (by (simp only [capB_size]; walk_at "om")) ?_; k_whole; intro t'q k'q)))) | ((with_reducible show wpAny _ _ (getMethod (Value.bytes _ _) _ _) _ _ _); (k_here; refine join_method ?_)) | (k_here; k_dflt ((with_reducible show wpAny _ _ (call (Value.ref 260) _) _ _ _); (refine' Mine.c_cap (by k_asm) (by k_asm) (by k_asm) (by k_asm) (by k_asm) (by first | exact rfl | assumption) (by k_mem) (by walk_at "om") (by walk_at "om") (by walk_at "om") (by ktr_room) (by ktr_units) ?_); intro t'q h'q tk'q F'q N'q)) | ((with_reducible show @ite _ _ _ _ _); (with_reducible refine Mine.ite_ff ?_))) | walk1 | (dsimp only; first | walk1 | (first | (k_here; (with_reducible show wpAny _ _ (binaryOp Operator.Add (Value.bytes _ _) (Value.bytes _ _)) _ _ _); refine KBy.add_bytes (by (simp only [Array.size_append, capB_size, oct1_size, oct2_size, oct4_size, byteArr_size, List.length_cons, List.length_nil]; walk_at "om")) ?_; intro t'q k'q) | (k_here; (with_reducible show wpAny _ _ (compareOp CmpOp.Eq (Value.bytes _ _) (Value.bytes _ _)) _ _ _); first | (with_reducible refine eq_none ?_) | (refine eq_empty (by (simp only [Array.size_append, capB_size]; walk_at "om")) ?_)) | (k_here; (with_reducible show wpAny _ _ (call (Value.builtin "len") [Value.bytes _ _]) _ _ _); first | (with_reducible refine len_as (capI _ _) (by walk_at "om") ?_) | (with_reducible refine len_as (capII _ _ _ _) (by walk_at "om") ?_) | (refine len_as (k := 0) rfl (by decide) ?_)) | ((with_reducible show LCg.CompEnd _ _ _ _ _ _ _ _ _ _ _ _ _ _); (k_here; k_dflt (refine LCg.CompEnd.intro (by assumption) (by assumption) _ (fun _ h => h) (by first | assumption | (simp only [LCg.Off3, and_true]; assumption)) (by first | exact True.intro | k_mem) ?_))) | ((with_reducible show Mine.SrcT _ _ _ _ _ _ _ _ _ _ _ _ _ _); (k_here; k_dflt (refine Mine.SrcT.intro (by rfl) (by k_asm) (by k_asm) (by k_mem) (by first | size_fits | exact Nat.le_of_ble_eq_true rfl) ?_; intro g'q; lcg_lit))) | (k_here; (with_reducible show wpAny _ _ (eval (Expr.ListComp _ [⟨Expr.Name _ _, Expr.Name _ _, [], 0⟩] _ _) _) _ _ _); k_dflt (refine Mine.comp_tuple (F₀ := by k_asm) (by rfl) (by decide) (by rfl) (by decide) (by rfl) ?_)) | ((with_reducible show wpAny _ _ (call (Value.builtin "bytes.join") _ _) _ _ _); (k_here; k_dflt (first | (refine' join_one (by is_list) ?_; k_whole) | (refine' join_none (by is_list) ?_; k_whole; intro t'q k'q) | (refine' join_two (by is_list) (by (simp only [capB_size]; walk_at "om")) ?_; k_whole; intro t'q k'q)))) | ((with_reducible show wpAny _ _ (getMethod (Value.bytes _ _) _ _) _ _ _); (k_here; refine join_method ?_)) | (k_here; k_dflt ((with_reducible show wpAny _ _ (call (Value.ref 260) _) _ _ _); (refine' Mine.c_cap (by k_asm) (by k_asm) (by k_asm) (by k_asm) (by k_asm) (by first | exact rfl | assumption) (by k_mem) (by walk_at "om") (by walk_at "om") (by walk_at "om") (by ktr_room) (by ktr_units) ?_); intro t'q h'q tk'q F'q N'q)) | ((with_reducible show @ite _ _ _ _ _); (with_reducible refine Mine.ite_ff ?_)))) | (leave1; try dsimp only) | wrow_closeG))
    all_goals exact hret _ _ _ (by k_asm) (by first | k_asm | (refine' cb_drop ?N ?hs; (case N => assumption); (case hs => (intro p hp; repeat (first | exact hp | apply List.mem_cons_of_mem)))))
  | one h h1 a0 a1 z =>
    have N1 := pre_news (pre_news N h1) (.tail _ h)
    clear N
    rw [capB_size] at hz
    refine wpAny_call ?_
    k_dflt cell_enter
    rw [parB_some (capI _ _) (by omega)] at hret
    (repeat' (first | (k_unfold; (try dsimp only)) | (lge_end; wrow_closeG) | (first | (k_here; (with_reducible show wpAny _ _ (binaryOp Operator.Add (Value.bytes _ _) (Value.bytes _ _)) _ _ _); refine KBy.add_bytes (by (simp only [Array.size_append, capB_size, oct1_size, oct2_size, oct4_size, byteArr_size, List.length_cons, List.length_nil]; walk_at "om")) ?_; intro t'q k'q) | (k_here; (with_reducible show wpAny _ _ (compareOp CmpOp.Eq (Value.bytes _ _) (Value.bytes _ _)) _ _ _); first | (with_reducible refine eq_none ?_) | (refine eq_empty (by (simp only [Array.size_append, capB_size]; walk_at "om")) ?_)) | (k_here; (with_reducible show wpAny _ _ (call (Value.builtin "len") [Value.bytes _ _]) _ _ _); first | (with_reducible refine len_as (capI _ _) (by walk_at "om") ?_) | (with_reducible refine len_as (capII _ _ _ _) (by walk_at "om") ?_) | (refine len_as (k := 0) rfl (by decide) ?_)) | ((with_reducible show LCg.CompEnd _ _ _ _ _ _ _ _ _ _ _ _ _ _); (k_here; k_dflt (refine LCg.CompEnd.intro (by assumption) (by assumption) _ (fun _ h => h) (by first | assumption | (simp only [LCg.Off3, and_true]; assumption)) (by first | exact True.intro | k_mem) ?_))) | ((with_reducible show Mine.SrcT _ _ _ _ _ _ _ _ _ _ _ _ _ _); (k_here; k_dflt (refine Mine.SrcT.intro (by rfl) (by k_asm) (by k_asm) (by k_mem) (by first | size_fits | exact Nat.le_of_ble_eq_true rfl) ?_; intro g'q; lcg_lit))) | (k_here; (with_reducible show wpAny _ _ (eval (Expr.ListComp _ [⟨Expr.Name _ _, Expr.Name _ _, [], 0⟩] _ _) _) _ _ _); k_dflt (refine Mine.comp_tuple (F₀ := by k_asm) (by rfl) (by decide) (by rfl) (by decide) (by rfl) ?_)) | ((with_reducible show wpAny _ _ (call (Value.builtin "bytes.join") _ _) _ _ _); (k_here; k_dflt (first | (refine' join_one (by is_list) ?_; k_whole) | (refine' join_none (by is_list) ?_; k_whole; intro t'q k'q) | (refine' join_two (by is_list) (by (simp only [capB_size]; walk_at "om")) ?_; k_whole; intro t'q k'q)))) | ((with_reducible show wpAny _ _ (getMethod (Value.bytes _ _) _ _) _ _ _); (k_here; refine join_method ?_)) | (k_here; k_dflt ((with_reducible show wpAny _ _ (call (Value.ref 260) _) _ _ _); (refine' Mine.c_cap (by k_asm) (by k_asm) (by k_asm) (by k_asm) (by k_asm) (by first | exact rfl | assumption) (by k_mem) (by walk_at "om") (by walk_at "om") (by walk_at "om") (by ktr_room) (by ktr_units) ?_); intro t'q h'q tk'q F'q N'q)) | ((with_reducible show @ite _ _ _ _ _); (with_reducible refine Mine.ite_ff ?_))) | walk1 | (dsimp only; first | walk1 | (first | (k_here; (with_reducible show wpAny _ _ (binaryOp Operator.Add (Value.bytes _ _) (Value.bytes _ _)) _ _ _); refine KBy.add_bytes (by (simp only [Array.size_append, capB_size, oct1_size, oct2_size, oct4_size, byteArr_size, List.length_cons, List.length_nil]; walk_at "om")) ?_; intro t'q k'q) | (k_here; (with_reducible show wpAny _ _ (compareOp CmpOp.Eq (Value.bytes _ _) (Value.bytes _ _)) _ _ _); first | (with_reducible refine eq_none ?_) | (refine eq_empty (by (simp only [Array.size_append, capB_size]; walk_at "om")) ?_)) | (k_here; (with_reducible show wpAny _ _ (call (Value.builtin "len") [Value.bytes _ _]) _ _ _); first | (with_reducible refine len_as (capI _ _) (by walk_at "om") ?_) | (with_reducible refine len_as (capII _ _ _ _) (by walk_at "om") ?_) | (refine len_as (k := 0) rfl (by decide) ?_)) | ((with_reducible show LCg.CompEnd _ _ _ _ _ _ _ _ _ _ _ _ _ _); (k_here; k_dflt (refine LCg.CompEnd.intro (by assumption) (by assumption) _ (fun _ h => h) (by first | assumption | (simp only [LCg.Off3, and_true]; assumption)) (by first | exact True.intro | k_mem) ?_))) | ((with_reducible show Mine.SrcT _ _ _ _ _ _ _ _ _ _ _ _ _ _); (k_here; k_dflt (refine Mine.SrcT.intro (by rfl) (by k_asm) (by k_asm) (by k_mem) (by first | size_fits | exact Nat.le_of_ble_eq_true rfl) ?_; intro g'q; lcg_lit))) | (k_here; (with_reducible show wpAny _ _ (eval (Expr.ListComp _ [⟨Expr.Name _ _, Expr.Name _ _, [], 0⟩] _ _) _) _ _ _); k_dflt (refine Mine.comp_tuple (F₀ := by k_asm) (by rfl) (by decide) (by rfl) (by decide) (by rfl) ?_)) | ((with_reducible show wpAny _ _ (call (Value.builtin "bytes.join") _ _) _ _ _); (k_here; k_dflt (first | (refine' join_one (by is_list) ?_; k_whole) | (refine' join_none (by is_list) ?_; k_whole; intro t'q k'q) | (refine' join_two (by is_list) (by (simp only [capB_size]; walk_at "om")) ?_; k_whole; intro t'q k'q)))) | ((with_reducible show wpAny _ _ (getMethod (Value.bytes _ _) _ _) _ _ _); (k_here; refine join_method ?_)) | (k_here; k_dflt ((with_reducible show wpAny _ _ (call (Value.ref 260) _) _ _ _); (refine' Mine.c_cap (by k_asm) (by k_asm) (by k_asm) (by k_asm) (by k_asm) (by first | exact rfl | assumption) (by k_mem) (by walk_at "om") (by walk_at "om") (by walk_at "om") (by ktr_room) (by ktr_units) ?_); intro t'q h'q tk'q F'q N'q)) | ((with_reducible show @ite _ _ _ _ _); (with_reducible refine Mine.ite_ff ?_)))) | (leave1; try dsimp only) | wrow_closeG))
    all_goals exact hret _ _ _ (by k_asm) (by first | k_asm | (refine' cb_drop ?N ?hs; (case N => assumption); (case hs => (intro p hp; repeat (first | exact hp | apply List.mem_cons_of_mem)))))
  | two h h1 h2 a0 a1 z b0 b1 z' =>
    have N1 := pre_news (pre_news (pre_news N h2) (.tail _ h1)) (.tail _ (.tail _ h))
    clear N
    rw [Array.size_append, capB_size, capB_size] at hz
    refine wpAny_call ?_
    k_dflt cell_enter
    rw [parB_some (capII _ _ _ _) (by omega)] at hret
    (repeat' (first | (k_unfold; (try dsimp only)) | (lge_end; wrow_closeG) | (first | (k_here; (with_reducible show wpAny _ _ (binaryOp Operator.Add (Value.bytes _ _) (Value.bytes _ _)) _ _ _); refine KBy.add_bytes (by (simp only [Array.size_append, capB_size, oct1_size, oct2_size, oct4_size, byteArr_size, List.length_cons, List.length_nil]; walk_at "om")) ?_; intro t'q k'q) | (k_here; (with_reducible show wpAny _ _ (compareOp CmpOp.Eq (Value.bytes _ _) (Value.bytes _ _)) _ _ _); first | (with_reducible refine eq_none ?_) | (refine eq_empty (by (simp only [Array.size_append, capB_size]; walk_at "om")) ?_)) | (k_here; (with_reducible show wpAny _ _ (call (Value.builtin "len") [Value.bytes _ _]) _ _ _); first | (with_reducible refine len_as (capI _ _) (by walk_at "om") ?_) | (with_reducible refine len_as (capII _ _ _ _) (by walk_at "om") ?_) | (refine len_as (k := 0) rfl (by decide) ?_)) | ((with_reducible show LCg.CompEnd _ _ _ _ _ _ _ _ _ _ _ _ _ _); (k_here; k_dflt (refine LCg.CompEnd.intro (by assumption) (by assumption) _ (fun _ h => h) (by first | assumption | (simp only [LCg.Off3, and_true]; assumption)) (by first | exact True.intro | k_mem) ?_))) | ((with_reducible show Mine.SrcT _ _ _ _ _ _ _ _ _ _ _ _ _ _); (k_here; k_dflt (refine Mine.SrcT.intro (by rfl) (by k_asm) (by k_asm) (by k_mem) (by first | size_fits | exact Nat.le_of_ble_eq_true rfl) ?_; intro g'q; lcg_lit))) | (k_here; (with_reducible show wpAny _ _ (eval (Expr.ListComp _ [⟨Expr.Name _ _, Expr.Name _ _, [], 0⟩] _ _) _) _ _ _); k_dflt (refine Mine.comp_tuple (F₀ := by k_asm) (by rfl) (by decide) (by rfl) (by decide) (by rfl) ?_)) | ((with_reducible show wpAny _ _ (call (Value.builtin "bytes.join") _ _) _ _ _); (k_here; k_dflt (first | (refine' join_one (by is_list) ?_; k_whole) | (refine' join_none (by is_list) ?_; k_whole; intro t'q k'q) | (refine' join_two (by is_list) (by (simp only [capB_size]; walk_at "om")) ?_; k_whole; intro t'q k'q)))) | ((with_reducible show wpAny _ _ (getMethod (Value.bytes _ _) _ _) _ _ _); (k_here; refine join_method ?_)) | (k_here; k_dflt ((with_reducible show wpAny _ _ (call (Value.ref 260) _) _ _ _); (refine' Mine.c_cap (by k_asm) (by k_asm) (by k_asm) (by k_asm) (by k_asm) (by first | exact rfl | assumption) (by k_mem) (by walk_at "om") (by walk_at "om") (by walk_at "om") (by ktr_room) (by ktr_units) ?_); intro t'q h'q tk'q F'q N'q)) | ((with_reducible show @ite _ _ _ _ _); (with_reducible refine Mine.ite_ff ?_))) | walk1 | (dsimp only; first | walk1 | (first | (k_here; (with_reducible show wpAny _ _ (binaryOp Operator.Add (Value.bytes _ _) (Value.bytes _ _)) _ _ _); refine KBy.add_bytes (by (simp only [Array.size_append, capB_size, oct1_size, oct2_size, oct4_size, byteArr_size, List.length_cons, List.length_nil]; walk_at "om")) ?_; intro t'q k'q) | (k_here; (with_reducible show wpAny _ _ (compareOp CmpOp.Eq (Value.bytes _ _) (Value.bytes _ _)) _ _ _); first | (with_reducible refine eq_none ?_) | (refine eq_empty (by (simp only [Array.size_append, capB_size]; walk_at "om")) ?_)) | (k_here; (with_reducible show wpAny _ _ (call (Value.builtin "len") [Value.bytes _ _]) _ _ _); first | (with_reducible refine len_as (capI _ _) (by walk_at "om") ?_) | (with_reducible refine len_as (capII _ _ _ _) (by walk_at "om") ?_) | (refine len_as (k := 0) rfl (by decide) ?_)) | ((with_reducible show LCg.CompEnd _ _ _ _ _ _ _ _ _ _ _ _ _ _); (k_here; k_dflt (refine LCg.CompEnd.intro (by assumption) (by assumption) _ (fun _ h => h) (by first | assumption | (simp only [LCg.Off3, and_true]; assumption)) (by first | exact True.intro | k_mem) ?_))) | ((with_reducible show Mine.SrcT _ _ _ _ _ _ _ _ _ _ _ _ _ _); (k_here; k_dflt (refine Mine.SrcT.intro (by rfl) (by k_asm) (by k_asm) (by k_mem) (by first | size_fits | exact Nat.le_of_ble_eq_true rfl) ?_; intro g'q; lcg_lit))) | (k_here; (with_reducible show wpAny _ _ (eval (Expr.ListComp _ [⟨Expr.Name _ _, Expr.Name _ _, [], 0⟩] _ _) _) _ _ _); k_dflt (refine Mine.comp_tuple (F₀ := by k_asm) (by rfl) (by decide) (by rfl) (by decide) (by rfl) ?_)) | ((with_reducible show wpAny _ _ (call (Value.builtin "bytes.join") _ _) _ _ _); (k_here; k_dflt (first | (refine' join_one (by is_list) ?_; k_whole) | (refine' join_none (by is_list) ?_; k_whole; intro t'q k'q) | (refine' join_two (by is_list) (by (simp only [capB_size]; walk_at "om")) ?_; k_whole; intro t'q k'q)))) | ((with_reducible show wpAny _ _ (getMethod (Value.bytes _ _) _ _) _ _ _); (k_here; refine join_method ?_)) | (k_here; k_dflt ((with_reducible show wpAny _ _ (call (Value.ref 260) _) _ _ _); (refine' Mine.c_cap (by k_asm) (by k_asm) (by k_asm) (by k_asm) (by k_asm) (by first | exact rfl | assumption) (by k_mem) (by walk_at "om") (by walk_at "om") (by walk_at "om") (by ktr_room) (by ktr_units) ?_); intro t'q h'q tk'q F'q N'q)) | ((with_reducible show @ite _ _ _ _ _); (with_reducible refine Mine.ite_ff ?_)))) | (leave1; try dsimp only) | wrow_closeG))
    all_goals exact hret _ _ _ (by k_asm) (by first | k_asm | (refine' cb_drop ?N ?hs; (case N => assumption); (case hs => (intro p hp; repeat (first | exact hp | apply List.mem_cons_of_mem)))))
local macro_rules | `(tactic| walk_at "own0") => `(tactic| ((with_reducible show wpAny _ _ (leaving _ (Value.ref _)) _ _ _); (k_here; first | (k_dflt (refine' leave_first ?K ?F ?N ?ne ?hf ?hk ?_; (case N | K | F | ne => assumption); (case hf | hk => exact rfl); k_whole); intro h'q S'q R'q U'q; (try dsimp only at S'q R'q U'q ⊢)) | (k_dflt (refine' leave_onS ?k1 ?k2 ?k3 ?k4 ?_; (case k3 | k2 | k1 | k4 => assumption); k_whole); intro h'q S'q R'q U'q; (try dsimp only at S'q R'q U'q ⊢)))))
set_option maxRecDepth 100000 in
set_option maxHeartbeats 0 in
theorem c_params_bad {ca : Addr} {lot : Array UInt8}
    (B : Below A₀ base outer h₀) (F : Fr h₀ L s.heap m) (X : (hd.heap_1 w.params).In h₀) (N : News h₀ L s.heap news) (T : Top vw loose mean mg mb h₀) (hk : cs.kind = .function)
    (hc : Caps ca news lot) (hz : 253 < lot.size)
    (hdp : dp + 40 < recursionLimit) (hun : un + 100 < cLine)
    (hE : ∀ (e t : Addr) (vs : List Value) (g₂ h' : Heap) (tk' : Nat), Fr h₀ L g₂ m → RaisedS base g₂ (envX cn cs L a ccd cl :: outer) e (.ref 164) t vs news h' → g₂.UpToSlots h' → E (.ref e) { s with heap := h', toks := tk' }) :
    wpAny (model PySem.Challenge.rw_rh0217_02.row.prog w) (ktrTop dp un gd cn cs L a ccd cl outer) (call (.ref 265) [.ref ca]) Q E s := by
  cases hc with
  | none h => exact absurd hz (by decide)
  | one h h1 a0 a1 z =>
    have N1 := pre_news (pre_news N h1) (.tail _ h)
    clear N
    rw [capB_size] at hz
    refine wpAny_call ?_
    k_dflt cell_enter
    (repeat' (first | (k_unfold; (try dsimp only)) | (lge_end; wrow_closeG) | (first | ((with_reducible show wpAny _ _ (leaving _ (Value.ref _)) _ _ _); walk_at "own0") | ((with_reducible show Mine.RaisableO _ _ _); (k_here; k_dflt (refine' raisableO_K (by k_asm) (by k_asm) (by k_asm) (by k_is) tail164 ?_; k_whole); dsimp only)) | (k_here; (with_reducible show wpAny _ _ (exec (Stmt.Raise (some (Expr.Call (Expr.Name _ _) (_ :: _) [] _)) none _) _) _ _ _); refine raise_own rfl ?_) | (k_here; (with_reducible show wpAny _ _ (call (Value.builtin "len") [Value.bytes _ _]) _ _ _); first | (with_reducible refine len_as (capI _ _) (by walk_at "om") ?_) | (with_reducible refine len_as (capII _ _ _ _) (by walk_at "om") ?_) | (refine len_as (k := 0) rfl (by decide) ?_)) | ((with_reducible show LCg.CompEnd _ _ _ _ _ _ _ _ _ _ _ _ _ _); (k_here; k_dflt (refine LCg.CompEnd.intro (by assumption) (by assumption) _ (fun _ h => h) (by first | assumption | (simp only [LCg.Off3, and_true]; assumption)) (by first | exact True.intro | k_mem) ?_))) | ((with_reducible show Mine.SrcT _ _ _ _ _ _ _ _ _ _ _ _ _ _); (k_here; k_dflt (refine Mine.SrcT.intro (by rfl) (by k_asm) (by k_asm) (by k_mem) (by first | size_fits | exact Nat.le_of_ble_eq_true rfl) ?_; intro g'q; lcg_lit))) | (k_here; (with_reducible show wpAny _ _ (eval (Expr.ListComp _ [⟨Expr.Name _ _, Expr.Name _ _, [], 0⟩] _ _) _) _ _ _); k_dflt (refine Mine.comp_tuple (F₀ := by k_asm) (by rfl) (by decide) (by rfl) (by decide) (by rfl) ?_)) | ((with_reducible show wpAny _ _ (call (Value.builtin "bytes.join") _ _) _ _ _); (k_here; k_dflt (first | (refine' join_one (by is_list) ?_; k_whole) | (refine' join_none (by is_list) ?_; k_whole; intro t'q k'q) | (refine' join_two (by is_list) (by (simp only [capB_size]; walk_at "om")) ?_; k_whole; intro t'q k'q)))) | ((with_reducible show wpAny _ _ (getMethod (Value.bytes _ _) _ _) _ _ _); (k_here; refine join_method ?_)) | (k_here; k_dflt ((with_reducible show wpAny _ _ (call (Value.ref 260) _) _ _ _); (refine' Mine.c_cap (by k_asm) (by k_asm) (by k_asm) (by k_asm) (by k_asm) (by first | exact rfl | assumption) (by k_mem) (by walk_at "om") (by walk_at "om") (by walk_at "om") (by ktr_room) (by ktr_units) ?_); intro t'q h'q tk'q F'q N'q)) | (k_here; k_dflt ((with_reducible show wpAny _ _ (call (Value.ref 164) _) _ _ _); (refine' Mine.c_err (by k_asm) (by k_asm) (by k_asm) (by k_asm) (by k_asm) (by first | exact rfl | assumption) (by ktr_room) (by ktr_units) ?_); intro e'q t'q d'q h'q tk'q ne'q F'q N'q))) | walk1 | (dsimp only; first | walk1 | (first | ((with_reducible show wpAny _ _ (leaving _ (Value.ref _)) _ _ _); walk_at "own0") | ((with_reducible show Mine.RaisableO _ _ _); (k_here; k_dflt (refine' raisableO_K (by k_asm) (by k_asm) (by k_asm) (by k_is) tail164 ?_; k_whole); dsimp only)) | (k_here; (with_reducible show wpAny _ _ (exec (Stmt.Raise (some (Expr.Call (Expr.Name _ _) (_ :: _) [] _)) none _) _) _ _ _); refine raise_own rfl ?_) | (k_here; (with_reducible show wpAny _ _ (call (Value.builtin "len") [Value.bytes _ _]) _ _ _); first | (with_reducible refine len_as (capI _ _) (by walk_at "om") ?_) | (with_reducible refine len_as (capII _ _ _ _) (by walk_at "om") ?_) | (refine len_as (k := 0) rfl (by decide) ?_)) | ((with_reducible show LCg.CompEnd _ _ _ _ _ _ _ _ _ _ _ _ _ _); (k_here; k_dflt (refine LCg.CompEnd.intro (by assumption) (by assumption) _ (fun _ h => h) (by first | assumption | (simp only [LCg.Off3, and_true]; assumption)) (by first | exact True.intro | k_mem) ?_))) | ((with_reducible show Mine.SrcT _ _ _ _ _ _ _ _ _ _ _ _ _ _); (k_here; k_dflt (refine Mine.SrcT.intro (by rfl) (by k_asm) (by k_asm) (by k_mem) (by first | size_fits | exact Nat.le_of_ble_eq_true rfl) ?_; intro g'q; lcg_lit))) | (k_here; (with_reducible show wpAny _ _ (eval (Expr.ListComp _ [⟨Expr.Name _ _, Expr.Name _ _, [], 0⟩] _ _) _) _ _ _); k_dflt (refine Mine.comp_tuple (F₀ := by k_asm) (by rfl) (by decide) (by rfl) (by decide) (by rfl) ?_)) | ((with_reducible show wpAny _ _ (call (Value.builtin "bytes.join") _ _) _ _ _); (k_here; k_dflt (first | (refine' join_one (by is_list) ?_; k_whole) | (refine' join_none (by is_list) ?_; k_whole; intro t'q k'q) | (refine' join_two (by is_list) (by (simp only [capB_size]; walk_at "om")) ?_; k_whole; intro t'q k'q)))) | ((with_reducible show wpAny _ _ (getMethod (Value.bytes _ _) _ _) _ _ _); (k_here; refine join_method ?_)) | (k_here; k_dflt ((with_reducible show wpAny _ _ (call (Value.ref 260) _) _ _ _); (refine' Mine.c_cap (by k_asm) (by k_asm) (by k_asm) (by k_asm) (by k_asm) (by first | exact rfl | assumption) (by k_mem) (by walk_at "om") (by walk_at "om") (by walk_at "om") (by ktr_room) (by ktr_units) ?_); intro t'q h'q tk'q F'q N'q)) | (k_here; k_dflt ((with_reducible show wpAny _ _ (call (Value.ref 164) _) _ _ _); (refine' Mine.c_err (by k_asm) (by k_asm) (by k_asm) (by k_asm) (by k_asm) (by first | exact rfl | assumption) (by ktr_room) (by ktr_units) ?_); intro e'q t'q d'q h'q tk'q ne'q F'q N'q)))) | (leave1; try dsimp only) | wrow_closeG))
    all_goals (refine' hE _ _ _ _ _ _ ?fa (raisedS_sub ?fb ?fc) ?fd; (case fb => assumption); (case fa => assumption); (case fd => assumption); (case fc => (intro p hp; repeat (first | exact hp | apply List.mem_cons_of_mem))))
  | two h h1 h2 a0 a1 z b0 b1 z' =>
    have N1 := pre_news (pre_news (pre_news N h2) (.tail _ h1)) (.tail _ (.tail _ h))
    clear N
    rw [Array.size_append, capB_size, capB_size] at hz
    refine wpAny_call ?_
    k_dflt cell_enter
    (repeat' (first | (k_unfold; (try dsimp only)) | (lge_end; wrow_closeG) | (first | ((with_reducible show wpAny _ _ (leaving _ (Value.ref _)) _ _ _); walk_at "own0") | ((with_reducible show Mine.RaisableO _ _ _); (k_here; k_dflt (refine' raisableO_K (by k_asm) (by k_asm) (by k_asm) (by k_is) tail164 ?_; k_whole); dsimp only)) | (k_here; (with_reducible show wpAny _ _ (exec (Stmt.Raise (some (Expr.Call (Expr.Name _ _) (_ :: _) [] _)) none _) _) _ _ _); refine raise_own rfl ?_) | (k_here; (with_reducible show wpAny _ _ (call (Value.builtin "len") [Value.bytes _ _]) _ _ _); first | (with_reducible refine len_as (capI _ _) (by walk_at "om") ?_) | (with_reducible refine len_as (capII _ _ _ _) (by walk_at "om") ?_) | (refine len_as (k := 0) rfl (by decide) ?_)) | ((with_reducible show LCg.CompEnd _ _ _ _ _ _ _ _ _ _ _ _ _ _); (k_here; k_dflt (refine LCg.CompEnd.intro (by assumption) (by assumption) _ (fun _ h => h) (by first | assumption | (simp only [LCg.Off3, and_true]; assumption)) (by first | exact True.intro | k_mem) ?_))) | ((with_reducible show Mine.SrcT _ _ _ _ _ _ _ _ _ _ _ _ _ _); (k_here; k_dflt (refine Mine.SrcT.intro (by rfl) (by k_asm) (by k_asm) (by k_mem) (by first | size_fits | exact Nat.le_of_ble_eq_true rfl) ?_; intro g'q; lcg_lit))) | (k_here; (with_reducible show wpAny _ _ (eval (Expr.ListComp _ [⟨Expr.Name _ _, Expr.Name _ _, [], 0⟩] _ _) _) _ _ _); k_dflt (refine Mine.comp_tuple (F₀ := by k_asm) (by rfl) (by decide) (by rfl) (by decide) (by rfl) ?_)) | ((with_reducible show wpAny _ _ (call (Value.builtin "bytes.join") _ _) _ _ _); (k_here; k_dflt (first | (refine' join_one (by is_list) ?_; k_whole) | (refine' join_none (by is_list) ?_; k_whole; intro t'q k'q) | (refine' join_two (by is_list) (by (simp only [capB_size]; walk_at "om")) ?_; k_whole; intro t'q k'q)))) | ((with_reducible show wpAny _ _ (getMethod (Value.bytes _ _) _ _) _ _ _); (k_here; refine join_method ?_)) | (k_here; k_dflt ((with_reducible show wpAny _ _ (call (Value.ref 260) _) _ _ _); (refine' Mine.c_cap (by k_asm) (by k_asm) (by k_asm) (by k_asm) (by k_asm) (by first | exact rfl | assumption) (by k_mem) (by walk_at "om") (by walk_at "om") (by walk_at "om") (by ktr_room) (by ktr_units) ?_); intro t'q h'q tk'q F'q N'q)) | (k_here; k_dflt ((with_reducible show wpAny _ _ (call (Value.ref 164) _) _ _ _); (refine' Mine.c_err (by k_asm) (by k_asm) (by k_asm) (by k_asm) (by k_asm) (by first | exact rfl | assumption) (by ktr_room) (by ktr_units) ?_); intro e'q t'q d'q h'q tk'q ne'q F'q N'q))) | walk1 | (dsimp only; first | walk1 | (first | ((with_reducible show wpAny _ _ (leaving _ (Value.ref _)) _ _ _); walk_at "own0") | ((with_reducible show Mine.RaisableO _ _ _); (k_here; k_dflt (refine' raisableO_K (by k_asm) (by k_asm) (by k_asm) (by k_is) tail164 ?_; k_whole); dsimp only)) | (k_here; (with_reducible show wpAny _ _ (exec (Stmt.Raise (some (Expr.Call (Expr.Name _ _) (_ :: _) [] _)) none _) _) _ _ _); refine raise_own rfl ?_) | (k_here; (with_reducible show wpAny _ _ (call (Value.builtin "len") [Value.bytes _ _]) _ _ _); first | (with_reducible refine len_as (capI _ _) (by walk_at "om") ?_) | (with_reducible refine len_as (capII _ _ _ _) (by walk_at "om") ?_) | (refine len_as (k := 0) rfl (by decide) ?_)) | ((with_reducible show LCg.CompEnd _ _ _ _ _ _ _ _ _ _ _ _ _ _); (k_here; k_dflt (refine LCg.CompEnd.intro (by assumption) (by assumption) _ (fun _ h => h) (by first | assumption | (simp only [LCg.Off3, and_true]; assumption)) (by first | exact True.intro | k_mem) ?_))) | ((with_reducible show Mine.SrcT _ _ _ _ _ _ _ _ _ _ _ _ _ _); (k_here; k_dflt (refine Mine.SrcT.intro (by rfl) (by k_asm) (by k_asm) (by k_mem) (by first | size_fits | exact Nat.le_of_ble_eq_true rfl) ?_; intro g'q; lcg_lit))) | (k_here; (with_reducible show wpAny _ _ (eval (Expr.ListComp _ [⟨Expr.Name _ _, Expr.Name _ _, [], 0⟩] _ _) _) _ _ _); k_dflt (refine Mine.comp_tuple (F₀ := by k_asm) (by rfl) (by decide) (by rfl) (by decide) (by rfl) ?_)) | ((with_reducible show wpAny _ _ (call (Value.builtin "bytes.join") _ _) _ _ _); (k_here; k_dflt (first | (refine' join_one (by is_list) ?_; k_whole) | (refine' join_none (by is_list) ?_; k_whole; intro t'q k'q) | (refine' join_two (by is_list) (by (simp only [capB_size]; walk_at "om")) ?_; k_whole; intro t'q k'q)))) | ((with_reducible show wpAny _ _ (getMethod (Value.bytes _ _) _ _) _ _ _); (k_here; refine join_method ?_)) | (k_here; k_dflt ((with_reducible show wpAny _ _ (call (Value.ref 260) _) _ _ _); (refine' Mine.c_cap (by k_asm) (by k_asm) (by k_asm) (by k_asm) (by k_asm) (by first | exact rfl | assumption) (by k_mem) (by walk_at "om") (by walk_at "om") (by walk_at "om") (by ktr_room) (by ktr_units) ?_); intro t'q h'q tk'q F'q N'q)) | (k_here; k_dflt ((with_reducible show wpAny _ _ (call (Value.ref 164) _) _ _ _); (refine' Mine.c_err (by k_asm) (by k_asm) (by k_asm) (by k_asm) (by k_asm) (by first | exact rfl | assumption) (by ktr_room) (by ktr_units) ?_); intro e'q t'q d'q h'q tk'q ne'q F'q N'q)))) | (leave1; try dsimp only) | wrow_closeG))
    all_goals (refine' hE _ _ _ _ _ _ ?fa (raisedS_sub ?fb ?fc) ?fd; (case fb => assumption); (case fa => assumption); (case fd => assumption); (case fc => (intro p hp; repeat (first | exact hp | apply List.mem_cons_of_mem))))
end
end
end Mine
end
section
namespace Mine
noncomputable section
theorem parB_size (lot : Array UInt8) (h : lot.size ≤ 253) : (parB lot).size ≤ 255 := by
  unfold parB
  split
  · exact Nat.zero_le _
  · rw [Array.size_append, byteArr_size]
    show 2 + lot.size ≤ 255
    omega
theorem parB_256 (lot : Array UInt8) (h : lot.size ≤ 253) : ((parB lot).size : Int) % 256 = (parB lot).size := by
  have := parB_size lot h
  omega
/-- the octets of an open -/
def bodyB (n hold own : Int) (lot : Array UInt8) : Array UInt8 := oct1 4 ++ oct2 n ++ oct2 hold ++ oct4 own ++ byteArr [((parB lot).size : Int)] ++ parB lot
theorem bodyI (n hold own : Int) (lot : Array UInt8) : ((bodyB n hold own lot).size : Int) = (parB lot).size + 10 := by
  simp only [bodyB, Array.size_append, oct1_size, oct2_size, oct4_size, byteArr_size, List.length_cons, List.length_nil]; omega
def markB : Array UInt8 := #[255, 255, 255, 255, 255, 255, 255, 255, 255, 255, 255, 255, 255, 255, 255, 255]
theorem markB_size : markB.size = 16 := rfl
def wholeB (n hold own : Int) (lot : Array UInt8) : Array UInt8 := markB ++ oct2 (19 + ((parB lot).size + 10)) ++ byteArr [1] ++ bodyB n hold own lot
theorem in_one {a : Int} (h : 0 ≤ a ∧ a < 256) : KBa.In [a] := fun n hn => by
  rw [List.mem_singleton.mp hn]; exact h
local macro_rules | `(tactic| kba_in) => `(tactic| (refine in_one ⟨?_, ?_⟩ <;> walk_at "om"))
section
variable {vw : Program} {w : World} {loose : List Str} {mean : ExcName → Option Value} {mg mb : Str → Option Value} {dp un : Nat} {gd : Option (List Code)} {cn : Str} {cs : Scope} {a : Addr} {ccd : Value} {cl : List (Str × Addr)} {outer : List Env} {A₀ : Around} {base h₀ : Heap} {L : Addr} {m : Str → Option Value} {s : Shared} {Q : Value → Shared → Prop} {E : Value → Shared → Prop} {news : List (Addr × Obj)}

set_option maxRecDepth 100000 in
set_option maxHeartbeats 0 in
theorem c_open {ma ca : Addr} {lot : Array UInt8} {n hold own : Int} {t1 t2 t3 t4 t5 : Tok} {k : Nat}
    (B : Below A₀ base outer h₀) (F : Fr h₀ L s.heap m) (X : (hd.heap_1 w.params).In h₀) (N : News h₀ L s.heap news) (T : Top vw loose mean mg mb h₀) (hk : cs.kind = .function)
    (hm : (ma, tupN [.str "open" t1, .int 4 t2, .int n t3, .int hold t4, .int own t5, .ref ca] k) ∈ news)
    (hc : Caps ca news lot) (hz : lot.size ≤ 253) (n0 : 0 ≤ n) (n1 : n ≤ 65535) (p0 : 0 ≤ hold) (p1 : hold ≤ 65535) (o0 : 0 ≤ own) (o1 : own ≤ 4294967295)
    (hdp : dp + 60 < recursionLimit) (hun : un + 150 < cLine)
    (hret : ∀ (t : Tok) (h' : Heap) (tk' : Nat), Fr h₀ L h' m → News h₀ L h' news → Q (.bytes (bodyB n hold own lot) t) { s with heap := h', toks := tk' }) :
    wpAny (model PySem.Challenge.rw_rh0217_02.row.prog w) (ktrTop dp un gd cn cs L a ccd cl outer) (call (.ref 272) [.ref ma]) Q E s := by
  have hp := parB_size lot hz
  refine wpAny_call ?_
  k_dflt cell_enter
  (repeat' (first | (k_unfold; (try dsimp only)) | (lge_end; wrow_closeG) | (first | (k_here; (with_reducible show wpAny _ _ (binaryOp Operator.Add (Value.bytes _ _) (Value.bytes _ _)) _ _ _); refine KBy.add_bytes (by (simp only [Array.size_append, List.size_toArray, bodyB, markB_size, oct1_size, oct2_size, oct4_size, byteArr_size, List.length_cons, List.length_nil]; walk_at "om")) ?_; intro t'q k'q) | (k_here; (with_reducible show wpAny _ _ (call (Value.builtin "len") [Value.bytes _ _]) _ _ _); first | (with_reducible refine len_as (bodyI _ _ _ _) (by walk_at "om") ?_) | (refine len_bytes (by walk_at "om") ?_)) | (k_here; k_dflt ((with_reducible show wpAny _ _ (call (Value.ref 265) _) _ _ _); (refine' Mine.c_params (by k_asm) (by k_asm) (by k_asm) (by k_asm) (by k_asm) (by first | exact rfl | assumption) (by assumption) (by walk_at "om") (by ktr_room) (by ktr_units) ?_); intro t'q h'q tk'q F'q N'q)) | (k_here; k_dflt ((with_reducible show wpAny _ _ (call (Value.ref 197) _) _ _ _); (refine' Mine.c_u8 (by k_asm) (by k_asm) (by k_asm) (by k_asm) (by k_asm) (by first | exact rfl | assumption) (by walk_at "om") (by walk_at "om") (by ktr_room) (by ktr_units) ?_); intro t'q h'q tk'q F'q N'q)) | (k_here; k_dflt ((with_reducible show wpAny _ _ (call (Value.ref 204) _) _ _ _); (refine' Mine.c_u16 (by k_asm) (by k_asm) (by k_asm) (by k_asm) (by k_asm) (by first | exact rfl | assumption) (by walk_at "om") (by walk_at "om") (by ktr_room) (by ktr_units) ?_); intro t'q h'q tk'q F'q N'q)) | (k_here; k_dflt ((with_reducible show wpAny _ _ (call (Value.ref 211) _) _ _ _); (refine' Mine.c_u32 (by k_asm) (by k_asm) (by k_asm) (by k_asm) (by k_asm) (by first | exact rfl | assumption) (by walk_at "om") (by walk_at "om") (by ktr_room) (by ktr_units) ?_); intro t'q h'q tk'q F'q N'q))) | walk1 | (dsimp only; first | walk1 | (first | (k_here; (with_reducible show wpAny _ _ (binaryOp Operator.Add (Value.bytes _ _) (Value.bytes _ _)) _ _ _); refine KBy.add_bytes (by (simp only [Array.size_append, List.size_toArray, bodyB, markB_size, oct1_size, oct2_size, oct4_size, byteArr_size, List.length_cons, List.length_nil]; walk_at "om")) ?_; intro t'q k'q) | (k_here; (with_reducible show wpAny _ _ (call (Value.builtin "len") [Value.bytes _ _]) _ _ _); first | (with_reducible refine len_as (bodyI _ _ _ _) (by walk_at "om") ?_) | (refine len_bytes (by walk_at "om") ?_)) | (k_here; k_dflt ((with_reducible show wpAny _ _ (call (Value.ref 265) _) _ _ _); (refine' Mine.c_params (by k_asm) (by k_asm) (by k_asm) (by k_asm) (by k_asm) (by first | exact rfl | assumption) (by assumption) (by walk_at "om") (by ktr_room) (by ktr_units) ?_); intro t'q h'q tk'q F'q N'q)) | (k_here; k_dflt ((with_reducible show wpAny _ _ (call (Value.ref 197) _) _ _ _); (refine' Mine.c_u8 (by k_asm) (by k_asm) (by k_asm) (by k_asm) (by k_asm) (by first | exact rfl | assumption) (by walk_at "om") (by walk_at "om") (by ktr_room) (by ktr_units) ?_); intro t'q h'q tk'q F'q N'q)) | (k_here; k_dflt ((with_reducible show wpAny _ _ (call (Value.ref 204) _) _ _ _); (refine' Mine.c_u16 (by k_asm) (by k_asm) (by k_asm) (by k_asm) (by k_asm) (by first | exact rfl | assumption) (by walk_at "om") (by walk_at "om") (by ktr_room) (by ktr_units) ?_); intro t'q h'q tk'q F'q N'q)) | (k_here; k_dflt ((with_reducible show wpAny _ _ (call (Value.ref 211) _) _ _ _); (refine' Mine.c_u32 (by k_asm) (by k_asm) (by k_asm) (by k_asm) (by k_asm) (by first | exact rfl | assumption) (by walk_at "om") (by walk_at "om") (by ktr_room) (by ktr_units) ?_); intro t'q h'q tk'q F'q N'q)))) | (leave1; try dsimp only) | wrow_closeG))
  all_goals (change Q (.bytes (bodyB n hold own lot) _) _; exact hret _ _ _ (by k_asm) (by first | k_asm | (refine' cb_drop ?N ?hs; (case N => assumption); (case hs => (intro p hp; repeat (first | exact hp | apply List.mem_cons_of_mem))))))

set_option maxRecDepth 100000 in
set_option maxHeartbeats 0 in
theorem c_message {ma ca : Addr} {lot : Array UInt8} {n hold own : Int} {t1 t2 t3 t4 t5 : Tok} {k : Nat}
    (B : Below A₀ base outer h₀) (F : Fr h₀ L s.heap m) (X : (hd.heap_1 w.params).In h₀) (N : News h₀ L s.heap news) (T : Top vw loose mean mg mb h₀) (hk : cs.kind = .function)
    (hm : (ma, tupN [.str "open" t1, .int 4 t2, .int n t3, .int hold t4, .int own t5, .ref ca] k) ∈ news)
    (hc : Caps ca news lot) (hz : lot.size ≤ 253) (n0 : 0 ≤ n) (n1 : n ≤ 65535) (p0 : 0 ≤ hold) (p1 : hold ≤ 65535) (o0 : 0 ≤ own) (o1 : own ≤ 4294967295)
    (hdp : dp + 80 < recursionLimit) (hun : un + 200 < cLine)
    (hret : ∀ (t : Tok) (h' : Heap) (tk' : Nat), Fr h₀ L h' m → News h₀ L h' news → Q (.bytes (wholeB n hold own lot) t) { s with heap := h', toks := tk' }) :
    wpAny (model PySem.Challenge.rw_rh0217_02.row.prog w) (ktrTop dp un gd cn cs L a ccd cl outer) (call (.ref 715) [.ref ma]) Q E s := by
  have hp := parB_size lot hz
  refine wpAny_call ?_
  k_dflt cell_enter
  (repeat' (first | (k_unfold; (try dsimp only)) | (lge_end; wrow_closeG) | (first | (k_here; k_dflt ((with_reducible show wpAny _ _ (call (Value.ref 272) _) _ _ _); (refine' Mine.c_open (by k_asm) (by k_asm) (by k_asm) (by k_asm) (by k_asm) (by first | exact rfl | assumption) (by k_mem) (by assumption) (by walk_at "om") (by walk_at "om") (by walk_at "om") (by walk_at "om") (by walk_at "om") (by walk_at "om") (by walk_at "om") (by ktr_room) (by ktr_units) ?_); intro t'q h'q tk'q F'q N'q)) | (k_here; (with_reducible show wpAny _ _ (binaryOp Operator.Add (Value.bytes _ _) (Value.bytes _ _)) _ _ _); refine KBy.add_bytes (by (simp only [Array.size_append, List.size_toArray, bodyB, markB_size, oct1_size, oct2_size, oct4_size, byteArr_size, List.length_cons, List.length_nil]; walk_at "om")) ?_; intro t'q k'q) | (k_here; (with_reducible show wpAny _ _ (call (Value.builtin "len") [Value.bytes _ _]) _ _ _); first | (with_reducible refine len_as (bodyI _ _ _ _) (by walk_at "om") ?_) | (refine len_bytes (by walk_at "om") ?_)) | (k_here; k_dflt ((with_reducible show wpAny _ _ (call (Value.ref 204) _) _ _ _); (refine' Mine.c_u16 (by k_asm) (by k_asm) (by k_asm) (by k_asm) (by k_asm) (by first | exact rfl | assumption) (by walk_at "om") (by walk_at "om") (by ktr_room) (by ktr_units) ?_); intro t'q h'q tk'q F'q N'q))) | walk1 | (dsimp only; first | walk1 | (first | (k_here; k_dflt ((with_reducible show wpAny _ _ (call (Value.ref 272) _) _ _ _); (refine' Mine.c_open (by k_asm) (by k_asm) (by k_asm) (by k_asm) (by k_asm) (by first | exact rfl | assumption) (by k_mem) (by assumption) (by walk_at "om") (by walk_at "om") (by walk_at "om") (by walk_at "om") (by walk_at "om") (by walk_at "om") (by walk_at "om") (by ktr_room) (by ktr_units) ?_); intro t'q h'q tk'q F'q N'q)) | (k_here; (with_reducible show wpAny _ _ (binaryOp Operator.Add (Value.bytes _ _) (Value.bytes _ _)) _ _ _); refine KBy.add_bytes (by (simp only [Array.size_append, List.size_toArray, bodyB, markB_size, oct1_size, oct2_size, oct4_size, byteArr_size, List.length_cons, List.length_nil]; walk_at "om")) ?_; intro t'q k'q) | (k_here; (with_reducible show wpAny _ _ (call (Value.builtin "len") [Value.bytes _ _]) _ _ _); first | (with_reducible refine len_as (bodyI _ _ _ _) (by walk_at "om") ?_) | (refine len_bytes (by walk_at "om") ?_)) | (k_here; k_dflt ((with_reducible show wpAny _ _ (call (Value.ref 204) _) _ _ _); (refine' Mine.c_u16 (by k_asm) (by k_asm) (by k_asm) (by k_asm) (by k_asm) (by first | exact rfl | assumption) (by walk_at "om") (by walk_at "om") (by ktr_room) (by ktr_units) ?_); intro t'q h'q tk'q F'q N'q)))) | (leave1; try dsimp only) | wrow_closeG))
  all_goals (change Q (.bytes (wholeB n hold own lot) _) _; exact hret _ _ _ (by k_asm) (by first | k_asm | (refine' cb_drop ?N ?hs; (case N => assumption); (case hs => (intro p hp; repeat (first | exact hp | apply List.mem_cons_of_mem))))))
end
end
end Mine
end
section
namespace Mine
noncomputable section
local macro_rules | `(tactic| kba_in) => `(tactic| (refine in_one ⟨?_, ?_⟩ <;> walk_at "om"))
local macro_rules | `(tactic| walk_at "own0") => `(tactic| ((with_reducible show wpAny _ _ (leaving _ (Value.ref _)) _ _ _); (k_here; first | (k_dflt (refine' leave_first ?K ?F ?N ?ne ?hf ?hk ?_; (case N | K | F | ne => assumption); (case hf | hk => exact rfl); k_whole); intro h'q S'q R'q U'q; (try dsimp only at S'q R'q U'q ⊢)) | (k_dflt (refine' leave_onS ?k1 ?k2 ?k3 ?k4 ?_; (case k3 | k2 | k1 | k4 => assumption); k_whole); intro h'q S'q R'q U'q; (try dsimp only at S'q R'q U'q ⊢)))))
section
variable {vw : Program} {w : World} {loose : List Str} {mean : ExcName → Option Value} {mg mb : Str → Option Value} {dp un : Nat} {gd : Option (List Code)} {cn : Str} {cs : Scope} {a : Addr} {ccd : Value} {cl : List (Str × Addr)} {outer : List Env} {A₀ : Around} {base h₀ : Heap} {L : Addr} {m : Str → Option Value} {s : Shared} {Q : Value → Shared → Prop} {E : Value → Shared → Prop} {news : List (Addr × Obj)}

set_option maxRecDepth 100000 in
set_option maxHeartbeats 0 in
theorem c_open_bad {ma ca : Addr} {lot : Array UInt8} {n hold own : Int} {t1 t2 t3 t4 t5 : Tok} {k : Nat}
    (B : Below A₀ base outer h₀) (F : Fr h₀ L s.heap m) (X : (hd.heap_1 w.params).In h₀) (N : News h₀ L s.heap news) (T : Top vw loose mean mg mb h₀) (hk : cs.kind = .function)
    (hm : (ma, tupN [.str "open" t1, .int 4 t2, .int n t3, .int hold t4, .int own t5, .ref ca] k) ∈ news)
    (hc : Caps ca news lot) (n0 : 0 ≤ n) (p0 : 0 ≤ hold) (o0 : 0 ≤ own) (bad : 253 < lot.size ∨ 65535 < n ∨ 65535 < hold ∨ 4294967295 < own)
    (hdp : dp + 60 < recursionLimit) (hun : un + 150 < cLine)
    (hE : ∀ (e t : Addr) (vs : List Value) (g₂ h' : Heap) (tk' : Nat), Fr h₀ L g₂ m → RaisedS base g₂ (envX cn cs L a ccd cl :: outer) e (.ref 164) t vs news h' → g₂.UpToSlots h' → E (.ref e) { s with heap := h', toks := tk' }) :
    wpAny (model PySem.Challenge.rw_rh0217_02.row.prog w) (ktrTop dp un gd cn cs L a ccd cl outer) (call (.ref 272) [.ref ma]) Q E s := by
  by_cases z : 253 < lot.size
  · refine wpAny_call ?_
    k_dflt cell_enter
    clear bad
    (repeat' (first | (k_unfold; (try dsimp only)) | (lge_end; wrow_closeG) | (first | ((with_reducible show wpAny _ _ (leaving _ (Value.ref _)) _ _ _); walk_at "own0") | (k_here; (with_reducible show wpAny _ _ (binaryOp Operator.Add (Value.bytes _ _) (Value.bytes _ _)) _ _ _); refine KBy.add_bytes (by (simp only [Array.size_append, List.size_toArray, bodyB, markB_size, oct1_size, oct2_size, oct4_size, byteArr_size, List.length_cons, List.length_nil]; walk_at "om")) ?_; intro t'q k'q) | (k_here; k_dflt ((with_reducible show wpAny _ _ (call (Value.ref 265) _) _ _ _); (refine' Mine.c_params_bad (by k_asm) (by k_asm) (by k_asm) (by k_asm) (by k_asm) (by first | exact rfl | assumption) (by assumption) (by walk_at "om") (by ktr_room) (by ktr_units) ?_); intro e'q t'q vs'q g'q h'q tk'q F'q R'q U'q; (try dsimp only))) | (k_here; k_dflt ((with_reducible show wpAny _ _ (call (Value.ref 265) _) _ _ _); (refine' Mine.c_params (by k_asm) (by k_asm) (by k_asm) (by k_asm) (by k_asm) (by first | exact rfl | assumption) (by assumption) (by walk_at "om") (by ktr_room) (by ktr_units) ?_); intro t'q h'q tk'q F'q N'q)) | (k_here; k_dflt ((with_reducible show wpAny _ _ (call (Value.ref 197) _) _ _ _); (refine' Mine.c_u8 (by k_asm) (by k_asm) (by k_asm) (by k_asm) (by k_asm) (by first | exact rfl | assumption) (by walk_at "om") (by walk_at "om") (by ktr_room) (by ktr_units) ?_); intro t'q h'q tk'q F'q N'q)) | (k_here; k_dflt ((with_reducible show wpAny _ _ (call (Value.ref 204) _) _ _ _); (refine' Mine.c_u16_bad (by k_asm) (by k_asm) (by k_asm) (by k_asm) (by k_asm) (by first | exact rfl | assumption) (by walk_at "om") (by ktr_room) (by ktr_units) ?_); intro e'q t'q vs'q g'q h'q tk'q F'q R'q U'q; (try dsimp only))) | (k_here; k_dflt ((with_reducible show wpAny _ _ (call (Value.ref 204) _) _ _ _); (refine' Mine.c_u16 (by k_asm) (by k_asm) (by k_asm) (by k_asm) (by k_asm) (by first | exact rfl | assumption) (by walk_at "om") (by walk_at "om") (by ktr_room) (by ktr_units) ?_); intro t'q h'q tk'q F'q N'q)) | (k_here; k_dflt ((with_reducible show wpAny _ _ (call (Value.ref 211) _) _ _ _); (refine' Mine.c_u32_bad (by k_asm) (by k_asm) (by k_asm) (by k_asm) (by k_asm) (by first | exact rfl | assumption) (by walk_at "om") (by ktr_room) (by ktr_units) ?_); intro e'q t'q vs'q g'q h'q tk'q F'q R'q U'q; (try dsimp only)))) | walk1 | (dsimp only; first | walk1 | (first | ((with_reducible show wpAny _ _ (leaving _ (Value.ref _)) _ _ _); walk_at "own0") | (k_here; (with_reducible show wpAny _ _ (binaryOp Operator.Add (Value.bytes _ _) (Value.bytes _ _)) _ _ _); refine KBy.add_bytes (by (simp only [Array.size_append, List.size_toArray, bodyB, markB_size, oct1_size, oct2_size, oct4_size, byteArr_size, List.length_cons, List.length_nil]; walk_at "om")) ?_; intro t'q k'q) | (k_here; k_dflt ((with_reducible show wpAny _ _ (call (Value.ref 265) _) _ _ _); (refine' Mine.c_params_bad (by k_asm) (by k_asm) (by k_asm) (by k_asm) (by k_asm) (by first | exact rfl | assumption) (by assumption) (by walk_at "om") (by ktr_room) (by ktr_units) ?_); intro e'q t'q vs'q g'q h'q tk'q F'q R'q U'q; (try dsimp only))) | (k_here; k_dflt ((with_reducible show wpAny _ _ (call (Value.ref 265) _) _ _ _); (refine' Mine.c_params (by k_asm) (by k_asm) (by k_asm) (by k_asm) (by k_asm) (by first | exact rfl | assumption) (by assumption) (by walk_at "om") (by ktr_room) (by ktr_units) ?_); intro t'q h'q tk'q F'q N'q)) | (k_here; k_dflt ((with_reducible show wpAny _ _ (call (Value.ref 197) _) _ _ _); (refine' Mine.c_u8 (by k_asm) (by k_asm) (by k_asm) (by k_asm) (by k_asm) (by first | exact rfl | assumption) (by walk_at "om") (by walk_at "om") (by ktr_room) (by ktr_units) ?_); intro t'q h'q tk'q F'q N'q)) | (k_here; k_dflt ((with_reducible show wpAny _ _ (call (Value.ref 204) _) _ _ _); (refine' Mine.c_u16_bad (by k_asm) (by k_asm) (by k_asm) (by k_asm) (by k_asm) (by first | exact rfl | assumption) (by walk_at "om") (by ktr_room) (by ktr_units) ?_); intro e'q t'q vs'q g'q h'q tk'q F'q R'q U'q; (try dsimp only))) | (k_here; k_dflt ((with_reducible show wpAny _ _ (call (Value.ref 204) _) _ _ _); (refine' Mine.c_u16 (by k_asm) (by k_asm) (by k_asm) (by k_asm) (by k_asm) (by first | exact rfl | assumption) (by walk_at "om") (by walk_at "om") (by ktr_room) (by ktr_units) ?_); intro t'q h'q tk'q F'q N'q)) | (k_here; k_dflt ((with_reducible show wpAny _ _ (call (Value.ref 211) _) _ _ _); (refine' Mine.c_u32_bad (by k_asm) (by k_asm) (by k_asm) (by k_asm) (by k_asm) (by first | exact rfl | assumption) (by walk_at "om") (by ktr_room) (by ktr_units) ?_); intro e'q t'q vs'q g'q h'q tk'q F'q R'q U'q; (try dsimp only))))) | (leave1; try dsimp only) | wrow_closeG))
    all_goals (refine' hE _ _ _ _ _ _ ?fa (raisedS_sub ?fb ?fc) ?fd; (case fb => assumption); (case fa => assumption); (case fd => assumption); (case fc => (intro p hp; repeat (first | exact hp | apply List.mem_cons_of_mem))))
  have hz : lot.size ≤ 253 := by omega
  have hp := parB_size lot hz
  have bad' : 65535 < n ∨ 65535 < hold ∨ 4294967295 < own := by omega
  clear bad z
  by_cases n1 : 65535 < n
  · clear bad'
    refine wpAny_call ?_
    k_dflt cell_enter
    (repeat' (first | (k_unfold; (try dsimp only)) | (lge_end; wrow_closeG) | (first | ((with_reducible show wpAny _ _ (leaving _ (Value.ref _)) _ _ _); walk_at "own0") | (k_here; (with_reducible show wpAny _ _ (binaryOp Operator.Add (Value.bytes _ _) (Value.bytes _ _)) _ _ _); refine KBy.add_bytes (by (simp only [Array.size_append, List.size_toArray, bodyB, markB_size, oct1_size, oct2_size, oct4_size, byteArr_size, List.length_cons, List.length_nil]; walk_at "om")) ?_; intro t'q k'q) | (k_here; k_dflt ((with_reducible show wpAny _ _ (call (Value.ref 265) _) _ _ _); (refine' Mine.c_params_bad (by k_asm) (by k_asm) (by k_asm) (by k_asm) (by k_asm) (by first | exact rfl | assumption) (by assumption) (by walk_at "om") (by ktr_room) (by ktr_units) ?_); intro e'q t'q vs'q g'q h'q tk'q F'q R'q U'q; (try dsimp only))) | (k_here; k_dflt ((with_reducible show wpAny _ _ (call (Value.ref 265) _) _ _ _); (refine' Mine.c_params (by k_asm) (by k_asm) (by k_asm) (by k_asm) (by k_asm) (by first | exact rfl | assumption) (by assumption) (by walk_at "om") (by ktr_room) (by ktr_units) ?_); intro t'q h'q tk'q F'q N'q)) | (k_here; k_dflt ((with_reducible show wpAny _ _ (call (Value.ref 197) _) _ _ _); (refine' Mine.c_u8 (by k_asm) (by k_asm) (by k_asm) (by k_asm) (by k_asm) (by first | exact rfl | assumption) (by walk_at "om") (by walk_at "om") (by ktr_room) (by ktr_units) ?_); intro t'q h'q tk'q F'q N'q)) | (k_here; k_dflt ((with_reducible show wpAny _ _ (call (Value.ref 204) _) _ _ _); (refine' Mine.c_u16_bad (by k_asm) (by k_asm) (by k_asm) (by k_asm) (by k_asm) (by first | exact rfl | assumption) (by walk_at "om") (by ktr_room) (by ktr_units) ?_); intro e'q t'q vs'q g'q h'q tk'q F'q R'q U'q; (try dsimp only))) | (k_here; k_dflt ((with_reducible show wpAny _ _ (call (Value.ref 204) _) _ _ _); (refine' Mine.c_u16 (by k_asm) (by k_asm) (by k_asm) (by k_asm) (by k_asm) (by first | exact rfl | assumption) (by walk_at "om") (by walk_at "om") (by ktr_room) (by ktr_units) ?_); intro t'q h'q tk'q F'q N'q)) | (k_here; k_dflt ((with_reducible show wpAny _ _ (call (Value.ref 211) _) _ _ _); (refine' Mine.c_u32_bad (by k_asm) (by k_asm) (by k_asm) (by k_asm) (by k_asm) (by first | exact rfl | assumption) (by walk_at "om") (by ktr_room) (by ktr_units) ?_); intro e'q t'q vs'q g'q h'q tk'q F'q R'q U'q; (try dsimp only)))) | walk1 | (dsimp only; first | walk1 | (first | ((with_reducible show wpAny _ _ (leaving _ (Value.ref _)) _ _ _); walk_at "own0") | (k_here; (with_reducible show wpAny _ _ (binaryOp Operator.Add (Value.bytes _ _) (Value.bytes _ _)) _ _ _); refine KBy.add_bytes (by (simp only [Array.size_append, List.size_toArray, bodyB, markB_size, oct1_size, oct2_size, oct4_size, byteArr_size, List.length_cons, List.length_nil]; walk_at "om")) ?_; intro t'q k'q) | (k_here; k_dflt ((with_reducible show wpAny _ _ (call (Value.ref 265) _) _ _ _); (refine' Mine.c_params_bad (by k_asm) (by k_asm) (by k_asm) (by k_asm) (by k_asm) (by first | exact rfl | assumption) (by assumption) (by walk_at "om") (by ktr_room) (by ktr_units) ?_); intro e'q t'q vs'q g'q h'q tk'q F'q R'q U'q; (try dsimp only))) | (k_here; k_dflt ((with_reducible show wpAny _ _ (call (Value.ref 265) _) _ _ _); (refine' Mine.c_params (by k_asm) (by k_asm) (by k_asm) (by k_asm) (by k_asm) (by first | exact rfl | assumption) (by assumption) (by walk_at "om") (by ktr_room) (by ktr_units) ?_); intro t'q h'q tk'q F'q N'q)) | (k_here; k_dflt ((with_reducible show wpAny _ _ (call (Value.ref 197) _) _ _ _); (refine' Mine.c_u8 (by k_asm) (by k_asm) (by k_asm) (by k_asm) (by k_asm) (by first | exact rfl | assumption) (by walk_at "om") (by walk_at "om") (by ktr_room) (by ktr_units) ?_); intro t'q h'q tk'q F'q N'q)) | (k_here; k_dflt ((with_reducible show wpAny _ _ (call (Value.ref 204) _) _ _ _); (refine' Mine.c_u16_bad (by k_asm) (by k_asm) (by k_asm) (by k_asm) (by k_asm) (by first | exact rfl | assumption) (by walk_at "om") (by ktr_room) (by ktr_units) ?_); intro e'q t'q vs'q g'q h'q tk'q F'q R'q U'q; (try dsimp only))) | (k_here; k_dflt ((with_reducible show wpAny _ _ (call (Value.ref 204) _) _ _ _); (refine' Mine.c_u16 (by k_asm) (by k_asm) (by k_asm) (by k_asm) (by k_asm) (by first | exact rfl | assumption) (by walk_at "om") (by walk_at "om") (by ktr_room) (by ktr_units) ?_); intro t'q h'q tk'q F'q N'q)) | (k_here; k_dflt ((with_reducible show wpAny _ _ (call (Value.ref 211) _) _ _ _); (refine' Mine.c_u32_bad (by k_asm) (by k_asm) (by k_asm) (by k_asm) (by k_asm) (by first | exact rfl | assumption) (by walk_at "om") (by ktr_room) (by ktr_units) ?_); intro e'q t'q vs'q g'q h'q tk'q F'q R'q U'q; (try dsimp only))))) | (leave1; try dsimp only) | wrow_closeG))
    all_goals (refine' hE _ _ _ _ _ _ ?fa (raisedS_sub ?fb ?fc) ?fd; (case fb => assumption); (case fa => assumption); (case fd => assumption); (case fc => (intro p hp; repeat (first | exact hp | apply List.mem_cons_of_mem))))
  have n2 : n ≤ 65535 := by omega
  clear n1
  by_cases p1 : 65535 < hold
  · clear bad'
    refine wpAny_call ?_
    k_dflt cell_enter
    (repeat' (first | (k_unfold; (try dsimp only)) | (lge_end; wrow_closeG) | (first | ((with_reducible show wpAny _ _ (leaving _ (Value.ref _)) _ _ _); walk_at "own0") | (k_here; (with_reducible show wpAny _ _ (binaryOp Operator.Add (Value.bytes _ _) (Value.bytes _ _)) _ _ _); refine KBy.add_bytes (by (simp only [Array.size_append, List.size_toArray, bodyB, markB_size, oct1_size, oct2_size, oct4_size, byteArr_size, List.length_cons, List.length_nil]; walk_at "om")) ?_; intro t'q k'q) | (k_here; k_dflt ((with_reducible show wpAny _ _ (call (Value.ref 265) _) _ _ _); (refine' Mine.c_params_bad (by k_asm) (by k_asm) (by k_asm) (by k_asm) (by k_asm) (by first | exact rfl | assumption) (by assumption) (by walk_at "om") (by ktr_room) (by ktr_units) ?_); intro e'q t'q vs'q g'q h'q tk'q F'q R'q U'q; (try dsimp only))) | (k_here; k_dflt ((with_reducible show wpAny _ _ (call (Value.ref 265) _) _ _ _); (refine' Mine.c_params (by k_asm) (by k_asm) (by k_asm) (by k_asm) (by k_asm) (by first | exact rfl | assumption) (by assumption) (by walk_at "om") (by ktr_room) (by ktr_units) ?_); intro t'q h'q tk'q F'q N'q)) | (k_here; k_dflt ((with_reducible show wpAny _ _ (call (Value.ref 197) _) _ _ _); (refine' Mine.c_u8 (by k_asm) (by k_asm) (by k_asm) (by k_asm) (by k_asm) (by first | exact rfl | assumption) (by walk_at "om") (by walk_at "om") (by ktr_room) (by ktr_units) ?_); intro t'q h'q tk'q F'q N'q)) | (k_here; k_dflt ((with_reducible show wpAny _ _ (call (Value.ref 204) _) _ _ _); (refine' Mine.c_u16_bad (by k_asm) (by k_asm) (by k_asm) (by k_asm) (by k_asm) (by first | exact rfl | assumption) (by walk_at "om") (by ktr_room) (by ktr_units) ?_); intro e'q t'q vs'q g'q h'q tk'q F'q R'q U'q; (try dsimp only))) | (k_here; k_dflt ((with_reducible show wpAny _ _ (call (Value.ref 204) _) _ _ _); (refine' Mine.c_u16 (by k_asm) (by k_asm) (by k_asm) (by k_asm) (by k_asm) (by first | exact rfl | assumption) (by walk_at "om") (by walk_at "om") (by ktr_room) (by ktr_units) ?_); intro t'q h'q tk'q F'q N'q)) | (k_here; k_dflt ((with_reducible show wpAny _ _ (call (Value.ref 211) _) _ _ _); (refine' Mine.c_u32_bad (by k_asm) (by k_asm) (by k_asm) (by k_asm) (by k_asm) (by first | exact rfl | assumption) (by walk_at "om") (by ktr_room) (by ktr_units) ?_); intro e'q t'q vs'q g'q h'q tk'q F'q R'q U'q; (try dsimp only)))) | walk1 | (dsimp only; first | walk1 | (first | ((with_reducible show wpAny _ _ (leaving _ (Value.ref _)) _ _ _); walk_at "own0") | (k_here; (with_reducible show wpAny _ _ (binaryOp Operator.Add (Value.bytes _ _) (Value.bytes _ _)) _ _ _); refine KBy.add_bytes (by (simp only [Array.size_append, List.size_toArray, bodyB, markB_size, oct1_size, oct2_size, oct4_size, byteArr_size, List.length_cons, List.length_nil]; walk_at "om")) ?_; intro t'q k'q) | (k_here; k_dflt ((with_reducible show wpAny _ _ (call (Value.ref 265) _) _ _ _); (refine' Mine.c_params_bad (by k_asm) (by k_asm) (by k_asm) (by k_asm) (by k_asm) (by first | exact rfl | assumption) (by assumption) (by walk_at "om") (by ktr_room) (by ktr_units) ?_); intro e'q t'q vs'q g'q h'q tk'q F'q R'q U'q; (try dsimp only))) | (k_here; k_dflt ((with_reducible show wpAny _ _ (call (Value.ref 265) _) _ _ _); (refine' Mine.c_params (by k_asm) (by k_asm) (by k_asm) (by k_asm) (by k_asm) (by first | exact rfl | assumption) (by assumption) (by walk_at "om") (by ktr_room) (by ktr_units) ?_); intro t'q h'q tk'q F'q N'q)) | (k_here; k_dflt ((with_reducible show wpAny _ _ (call (Value.ref 197) _) _ _ _); (refine' Mine.c_u8 (by k_asm) (by k_asm) (by k_asm) (by k_asm) (by k_asm) (by first | exact rfl | assumption) (by walk_at "om") (by walk_at "om") (by ktr_room) (by ktr_units) ?_); intro t'q h'q tk'q F'q N'q)) | (k_here; k_dflt ((with_reducible show wpAny _ _ (call (Value.ref 204) _) _ _ _); (refine' Mine.c_u16_bad (by k_asm) (by k_asm) (by k_asm) (by k_asm) (by k_asm) (by first | exact rfl | assumption) (by walk_at "om") (by ktr_room) (by ktr_units) ?_); intro e'q t'q vs'q g'q h'q tk'q F'q R'q U'q; (try dsimp only))) | (k_here; k_dflt ((with_reducible show wpAny _ _ (call (Value.ref 204) _) _ _ _); (refine' Mine.c_u16 (by k_asm) (by k_asm) (by k_asm) (by k_asm) (by k_asm) (by first | exact rfl | assumption) (by walk_at "om") (by walk_at "om") (by ktr_room) (by ktr_units) ?_); intro t'q h'q tk'q F'q N'q)) | (k_here; k_dflt ((with_reducible show wpAny _ _ (call (Value.ref 211) _) _ _ _); (refine' Mine.c_u32_bad (by k_asm) (by k_asm) (by k_asm) (by k_asm) (by k_asm) (by first | exact rfl | assumption) (by walk_at "om") (by ktr_room) (by ktr_units) ?_); intro e'q t'q vs'q g'q h'q tk'q F'q R'q U'q; (try dsimp only))))) | (leave1; try dsimp only) | wrow_closeG))
    all_goals (refine' hE _ _ _ _ _ _ ?fa (raisedS_sub ?fb ?fc) ?fd; (case fb => assumption); (case fa => assumption); (case fd => assumption); (case fc => (intro p hp; repeat (first | exact hp | apply List.mem_cons_of_mem))))
  have p2 : hold ≤ 65535 := by omega
  have o1 : 4294967295 < own := by omega
  clear bad' p1
  refine wpAny_call ?_
  k_dflt cell_enter
  (repeat' (first | (k_unfold; (try dsimp only)) | (lge_end; wrow_closeG) | (first | ((with_reducible show wpAny _ _ (leaving _ (Value.ref _)) _ _ _); walk_at "own0") | (k_here; (with_reducible show wpAny _ _ (binaryOp Operator.Add (Value.bytes _ _) (Value.bytes _ _)) _ _ _); refine KBy.add_bytes (by (simp only [Array.size_append, List.size_toArray, bodyB, markB_size, oct1_size, oct2_size, oct4_size, byteArr_size, List.length_cons, List.length_nil]; walk_at "om")) ?_; intro t'q k'q) | (k_here; k_dflt ((with_reducible show wpAny _ _ (call (Value.ref 265) _) _ _ _); (refine' Mine.c_params_bad (by k_asm) (by k_asm) (by k_asm) (by k_asm) (by k_asm) (by first | exact rfl | assumption) (by assumption) (by walk_at "om") (by ktr_room) (by ktr_units) ?_); intro e'q t'q vs'q g'q h'q tk'q F'q R'q U'q; (try dsimp only))) | (k_here; k_dflt ((with_reducible show wpAny _ _ (call (Value.ref 265) _) _ _ _); (refine' Mine.c_params (by k_asm) (by k_asm) (by k_asm) (by k_asm) (by k_asm) (by first | exact rfl | assumption) (by assumption) (by walk_at "om") (by ktr_room) (by ktr_units) ?_); intro t'q h'q tk'q F'q N'q)) | (k_here; k_dflt ((with_reducible show wpAny _ _ (call (Value.ref 197) _) _ _ _); (refine' Mine.c_u8 (by k_asm) (by k_asm) (by k_asm) (by k_asm) (by k_asm) (by first | exact rfl | assumption) (by walk_at "om") (by walk_at "om") (by ktr_room) (by ktr_units) ?_); intro t'q h'q tk'q F'q N'q)) | (k_here; k_dflt ((with_reducible show wpAny _ _ (call (Value.ref 204) _) _ _ _); (refine' Mine.c_u16_bad (by k_asm) (by k_asm) (by k_asm) (by k_asm) (by k_asm) (by first | exact rfl | assumption) (by walk_at "om") (by ktr_room) (by ktr_units) ?_); intro e'q t'q vs'q g'q h'q tk'q F'q R'q U'q; (try dsimp only))) | (k_here; k_dflt ((with_reducible show wpAny _ _ (call (Value.ref 204) _) _ _ _); (refine' Mine.c_u16 (by k_asm) (by k_asm) (by k_asm) (by k_asm) (by k_asm) (by first | exact rfl | assumption) (by walk_at "om") (by walk_at "om") (by ktr_room) (by ktr_units) ?_); intro t'q h'q tk'q F'q N'q)) | (k_here; k_dflt ((with_reducible show wpAny _ _ (call (Value.ref 211) _) _ _ _); (refine' Mine.c_u32_bad (by k_asm) (by k_asm) (by k_asm) (by k_asm) (by k_asm) (by first | exact rfl | assumption) (by walk_at "om") (by ktr_room) (by ktr_units) ?_); intro e'q t'q vs'q g'q h'q tk'q F'q R'q U'q; (try dsimp only)))) | walk1 | (dsimp only; first | walk1 | (first | ((with_reducible show wpAny _ _ (leaving _ (Value.ref _)) _ _ _); walk_at "own0") | (k_here; (with_reducible show wpAny _ _ (binaryOp Operator.Add (Value.bytes _ _) (Value.bytes _ _)) _ _ _); refine KBy.add_bytes (by (simp only [Array.size_append, List.size_toArray, bodyB, markB_size, oct1_size, oct2_size, oct4_size, byteArr_size, List.length_cons, List.length_nil]; walk_at "om")) ?_; intro t'q k'q) | (k_here; k_dflt ((with_reducible show wpAny _ _ (call (Value.ref 265) _) _ _ _); (refine' Mine.c_params_bad (by k_asm) (by k_asm) (by k_asm) (by k_asm) (by k_asm) (by first | exact rfl | assumption) (by assumption) (by walk_at "om") (by ktr_room) (by ktr_units) ?_); intro e'q t'q vs'q g'q h'q tk'q F'q R'q U'q; (try dsimp only))) | (k_here; k_dflt ((with_reducible show wpAny _ _ (call (Value.ref 265) _) _ _ _); (refine' Mine.c_params (by k_asm) (by k_asm) (by k_asm) (by k_asm) (by k_asm) (by first | exact rfl | assumption) (by assumption) (by walk_at "om") (by ktr_room) (by ktr_units) ?_); intro t'q h'q tk'q F'q N'q)) | (k_here; k_dflt ((with_reducible show wpAny _ _ (call (Value.ref 197) _) _ _ _); (refine' Mine.c_u8 (by k_asm) (by k_asm) (by k_asm) (by k_asm) (by k_asm) (by first | exact rfl | assumption) (by walk_at "om") (by walk_at "om") (by ktr_room) (by ktr_units) ?_); intro t'q h'q tk'q F'q N'q)) | (k_here; k_dflt ((with_reducible show wpAny _ _ (call (Value.ref 204) _) _ _ _); (refine' Mine.c_u16_bad (by k_asm) (by k_asm) (by k_asm) (by k_asm) (by k_asm) (by first | exact rfl | assumption) (by walk_at "om") (by ktr_room) (by ktr_units) ?_); intro e'q t'q vs'q g'q h'q tk'q F'q R'q U'q; (try dsimp only))) | (k_here; k_dflt ((with_reducible show wpAny _ _ (call (Value.ref 204) _) _ _ _); (refine' Mine.c_u16 (by k_asm) (by k_asm) (by k_asm) (by k_asm) (by k_asm) (by first | exact rfl | assumption) (by walk_at "om") (by walk_at "om") (by ktr_room) (by ktr_units) ?_); intro t'q h'q tk'q F'q N'q)) | (k_here; k_dflt ((with_reducible show wpAny _ _ (call (Value.ref 211) _) _ _ _); (refine' Mine.c_u32_bad (by k_asm) (by k_asm) (by k_asm) (by k_asm) (by k_asm) (by first | exact rfl | assumption) (by walk_at "om") (by ktr_room) (by ktr_units) ?_); intro e'q t'q vs'q g'q h'q tk'q F'q R'q U'q; (try dsimp only))))) | (leave1; try dsimp only) | wrow_closeG))
  all_goals (refine' hE _ _ _ _ _ _ ?fa (raisedS_sub ?fb ?fc) ?fd; (case fb => assumption); (case fa => assumption); (case fd => assumption); (case fc => (intro p hp; repeat (first | exact hp | apply List.mem_cons_of_mem))))

set_option maxRecDepth 100000 in
set_option maxHeartbeats 0 in
theorem c_message_bad {ma ca : Addr} {lot : Array UInt8} {n hold own : Int} {t1 t2 t3 t4 t5 : Tok} {k : Nat}
    (B : Below A₀ base outer h₀) (F : Fr h₀ L s.heap m) (X : (hd.heap_1 w.params).In h₀) (N : News h₀ L s.heap news) (T : Top vw loose mean mg mb h₀) (hk : cs.kind = .function)
    (hm : (ma, tupN [.str "open" t1, .int 4 t2, .int n t3, .int hold t4, .int own t5, .ref ca] k) ∈ news)
    (hc : Caps ca news lot) (n0 : 0 ≤ n) (p0 : 0 ≤ hold) (o0 : 0 ≤ own) (bad : 253 < lot.size ∨ 65535 < n ∨ 65535 < hold ∨ 4294967295 < own)
    (hdp : dp + 80 < recursionLimit) (hun : un + 200 < cLine)
    (hE : ∀ (e t : Addr) (vs : List Value) (g₂ h' : Heap) (tk' : Nat), Fr h₀ L g₂ m → RaisedS base g₂ (envX cn cs L a ccd cl :: outer) e (.ref 164) t vs news h' → g₂.UpToSlots h' → E (.ref e) { s with heap := h', toks := tk' }) :
    wpAny (model PySem.Challenge.rw_rh0217_02.row.prog w) (ktrTop dp un gd cn cs L a ccd cl outer) (call (.ref 715) [.ref ma]) Q E s := by
  refine wpAny_call ?_
  k_dflt cell_enter
  (repeat' (first | (k_unfold; (try dsimp only)) | (lge_end; wrow_closeG) | (first | (k_here; k_dflt ((with_reducible show wpAny _ _ (call (Value.ref 272) _) _ _ _); (refine' Mine.c_open_bad (by k_asm) (by k_asm) (by k_asm) (by k_asm) (by k_asm) (by first | exact rfl | assumption) (by k_mem) (by assumption) (by walk_at "om") (by walk_at "om") (by walk_at "om") (by assumption) (by ktr_room) (by ktr_units) ?_); intro e'q t'q vs'q g'q h'q tk'q F'q R'q U'q; (try dsimp only))) | ((with_reducible show wpAny _ _ (leaving _ (Value.ref _)) _ _ _); walk_at "own0")) | walk1 | (dsimp only; first | walk1 | (first | (k_here; k_dflt ((with_reducible show wpAny _ _ (call (Value.ref 272) _) _ _ _); (refine' Mine.c_open_bad (by k_asm) (by k_asm) (by k_asm) (by k_asm) (by k_asm) (by first | exact rfl | assumption) (by k_mem) (by assumption) (by walk_at "om") (by walk_at "om") (by walk_at "om") (by assumption) (by ktr_room) (by ktr_units) ?_); intro e'q t'q vs'q g'q h'q tk'q F'q R'q U'q; (try dsimp only))) | ((with_reducible show wpAny _ _ (leaving _ (Value.ref _)) _ _ _); walk_at "own0"))) | (leave1; try dsimp only) | wrow_closeG))
  all_goals (refine' hE _ _ _ _ _ _ ?fa (raisedS_sub ?fb ?fc) ?fd; (case fb => assumption); (case fa => assumption); (case fd => assumption); (case fc => (intro p hp; repeat (first | exact hp | apply List.mem_cons_of_mem))))
end
end
end Mine
end
section
namespace Mine
noncomputable section
abbrev penO (l : Addr) (i tot : Int) (t1 t2 : Tok) (n : Nat) : Obj := W.listOf #[.ref l, .int i t1, .int tot t2] n
/-- a place where the walk stands still -/
def Halt (P : Prop) : Prop := P
theorem Halt.mk {P : Prop} (h : Halt P) : P := h
theorem Halt.go {P : Prop} (h : P) : Halt P := h
theorem p32 : (2 : Int) ^ Int.toNat 32 = 4294967296 := by decide
section
variable {prog : Program} {w : World} {A : Around} {E : Value → Shared → Prop} {s : Shared}
theorem item_of {value slice : PySem.Expr} {l : Addr} {vs : List Value} {k : Int} {u : Tok} {P : Value → Prop} {Q : Value → Shared → Prop} (hl : s.heap.IsList l vs.toArray) (h0 : 0 ≤ k) (h1 : k < vs.length) (hz : vs.length ≤ 100) (hP : ∀ v ∈ vs, P v) (h : ∀ v, P v → Q v s)
    (hs : subscripted slice false (.ref l) (.int k u) = operate [.ref l, .int k u] (getItem (.ref l) (.int k u)) := by with_unfolding_all rfl) :
    wpAny (model prog w) A (subscriptTail value slice (.ref l) (.int k u)) Q E s := by
  have hx : vs[k.toNat]? = some (vs[k.toNat]'(by omega)) := List.getElem?_eq_getElem _
  exact tail_any hl.typeIs slot_list_getitem.lookup (wpAny_getItem_list hl h0 (by omega) (by rw [List.getElem?_toArray]; exact hx) (h _ (hP _ (List.getElem_mem _)))) hs
theorem item_ints {value slice : PySem.Expr} {l : Addr} {vs : List Value} {ns : List Int} {k : Int} {u : Tok} {Q : Value → Shared → Prop} (hl : s.heap.IsList l vs.toArray) (hi : IntsAre vs ns) (h0 : 0 ≤ k) (h1 : k < ns.length) (hz : ns.length ≤ 100) (h : ∀ n t, n ∈ ns → Q (.int n t) s)
    (hs : subscripted slice false (.ref l) (.int k u) = operate [.ref l, .int k u] (getItem (.ref l) (.int k u)) := by with_unfolding_all rfl) :
    wpAny (model prog w) A (subscriptTail value slice (.ref l) (.int k u)) Q E s := by
  have hL := hi.length
  refine item_of (P := fun v => ∃ n t, v = .int n t ∧ n ∈ ns) hl h0 (by omega) (by omega) ?_ (fun v hv => by obtain ⟨n, t, rfl, hn⟩ := hv; exact h n t hn) hs
  clear hl h1 hz h hL
  induction hi with
  | nil => exact fun v hv => nomatch hv
  | cons n t r ih =>
    intro v hv
    rcases List.mem_cons.mp hv with rfl | hv
    · exact ⟨_, _, rfl, .head _⟩
    · obtain ⟨n', t', e, hn⟩ := ih v hv
      exact ⟨n', t', e, .tail _ hn⟩
end
section
variable {vw : Program} {w : World} {loose : List Str} {mean : ExcName → Option Value} {mg mb : Str → Option Value} {dp un : Nat} {gd : Option (List Code)} {cn : Str} {cs : Scope} {a : Addr} {ccd : Value} {cl : List (Str × Addr)} {outer : List Env} {A₀ : Around} {base h₀ : Heap} {L : Addr} {m : Str → Option Value} {s : Shared} {Q : Value → Shared → Prop} {E : Value → Shared → Prop} {news : List (Addr × Obj)}
theorem c_pick2 {news' : Tok → List (Addr × Obj)} {pd l : Addr} {i tot many : Int} {t1 t2 t3 : Tok} {nl nn : Nat} {vs : List Value} {ns : List Int}
    (B : Below A₀ base outer h₀) (F : Fr h₀ L s.heap m) (X : (hd.heap_1 w.params).In h₀) (N : News h₀ L s.heap news) (T : Top vw loose mean mg mb h₀) (hk : cs.kind = .function)
    (hm : (l, W.listOf vs.toArray nl) ∈ news) (U : ∀ t, Upd pd (penO l i tot t1 t2 nn) (penO l (i + 1) tot t t2 nn) news (news' t)) (hne : pd ≠ l)
    (hi : IntsAre vs ns) (hl : ns.length ≤ 10) (h0 : 0 ≤ i) (h1 : i ≤ 10) (ht0 : 0 ≤ tot) (ht1 : tot < 997) (hm0 : 0 < many) (hm1 : many ≤ 6)
    (hdp : dp + 1 < recursionLimit) (hun : un + 8 < cLine)
    (hret : ∀ (r : Int) (t t1' : Tok) (h' : Heap) (tk' : Nat), 0 ≤ r → r < many → Fr h₀ L h' m → News h₀ L h' (news' t1') → Q (.int r t) { s with heap := h', toks := tk' }) :
    wpAny (model PySem.Challenge.rw_rh0217_02.row.prog w) (ktrTop dp un gd cn cs L a ccd cl outer) (call (.ref 776) [.ref pd, .int many t3]) Q E s := by
  obtain ⟨pre, post, rfl, -, a1, a2⟩ := (U 0).split
  have hn : ∀ t, news' t = pre ++ (pd, penO l (i + 1) tot t t2 nn) :: post := fun t => by
    obtain ⟨pre', post', e1, e2, b1, b2⟩ := (U t).split
    rw [e2]
    have key : ∀ (p p' : List (Addr × Obj)) (q q' : List (Addr × Obj)) (o : Obj), p ++ (pd, o) :: q = p' ++ (pd, o) :: q' → (∀ x ∈ p, x.1 ≠ pd) → (∀ x ∈ p', x.1 ≠ pd) → p = p' ∧ q = q' := by
      intro p
      induction p with
      | nil =>
        intro p' q q' o e _ c
        cases p' with
        | nil => exact ⟨rfl, (List.cons.inj e).2⟩
        | cons x r =>
          have := (List.cons.inj e).1
          exact absurd (by rw [← this]) (c x (.head _))
      | cons x r ih =>
        intro p' q q' o e b c
        cases p' with
        | nil => exact absurd (by rw [(List.cons.inj e).1]) (b x (.head _))
        | cons x' r' =>
          obtain ⟨e1, e2⟩ := List.cons.inj e
          obtain ⟨f1, f2⟩ := ih r' q q' o e2 (fun y hy => b y (.tail _ hy)) (fun y hy => c y (.tail _ hy))
          exact ⟨by rw [e1, f1], f2⟩
    obtain ⟨f1, f2⟩ := key _ _ _ _ _ e1 a1 b1
    rw [f1, f2]
  have mem : ∀ p ∈ (pd, penO l i tot t1 t2 nn) :: (l, W.listOf vs.toArray nl) :: (pre ++ post), p ∈ pre ++ (pd, penO l i tot t1 t2 nn) :: post := fun p hp => by
    rcases List.mem_cons.mp hp with rfl | hp
    · exact List.mem_append_right _ (.head _)
    · rcases List.mem_cons.mp hp with rfl | hp
      · exact hm
      · rcases List.mem_append.mp hp with hp | hp
        · exact List.mem_append_left _ hp
        · exact List.mem_append_right _ (.tail _ hp)
  refine c_pick (pre := []) (post := pre ++ post) B F X (cb_drop N mem) T hk hi hl h0 h1 ht0 ht1 hm0 hm1 hne (fun p hp => ?_) hdp hun (fun r t t1' h' tk' r0 r1 F' N' => hret r t t1' h' tk' r0 r1 F' ?_)
  · rcases List.mem_append.mp hp with hp | hp
    · exact a1 p hp
    · exact a2 p hp
  · rw [hn]
    refine cb_drop N' fun p hp => ?_
    rcases List.mem_append.mp hp with hp | hp
    · exact .tail _ (.tail _ (List.mem_append_left _ hp))
    · rcases List.mem_cons.mp hp with rfl | hp
      · exact .head _
      · exact .tail _ (.tail _ (List.mem_append_right _ hp))
end
end
end Mine
end
section
namespace Mine
local macro_rules | `(tactic| k_all) => `(tactic| assumption)
noncomputable section
theorem updF_to {d : Addr} {o : Obj} {l : List (Addr × Obj)} {g : Obj → List (Addr × Obj)} (U : UpdF d o l g) (o' : Obj) : Upd d o o' l (g o') := by
  induction U with
  | head h => exact .head h
  | tail h _ ih => exact .tail h ih
theorem upd_front {d : Addr} {o : Obj} {l : List (Addr × Obj)} {g : Obj → List (Addr × Obj)} (U : UpdF d o l g) : ∃ rest, (∀ p ∈ (d, o) :: rest, p ∈ l) ∧ (∀ p ∈ rest, p.1 ≠ d) ∧ ∀ o', ∀ p ∈ g o', p ∈ (d, o') :: rest := by
  obtain ⟨pre, post, rfl, hg, a, b⟩ := U.split
  refine ⟨pre ++ post, fun p hp => ?_, fun p hp => ?_, fun o' p hp => ?_⟩
  · rcases List.mem_cons.mp hp with rfl | hp
    · exact List.mem_append_right _ List.mem_cons_self
    · rcases List.mem_append.mp hp with hp | hp
      · exact List.mem_append_left _ hp
      · exact List.mem_append_right _ (List.mem_cons_of_mem _ hp)
  · rcases List.mem_append.mp hp with hp | hp
    · exact a p hp
    · exact b p hp
  · rw [hg] at hp
    rcases List.mem_append.mp hp with hp | hp
    · exact List.mem_cons_of_mem _ (List.mem_append_left _ hp)
    · rcases List.mem_cons.mp hp with rfl | hp
      · exact List.mem_cons_self
      · exact List.mem_cons_of_mem _ (List.mem_append_right _ hp)
theorem memc {α : Type} {a b c : α} {l l' : List α} (ha : a ∈ l') (hb : b ∈ l') (hc : ∀ p ∈ c :: l, p ∈ l') : ∀ p ∈ a :: b :: c :: l, p ∈ l' := fun p hp => by
  rcases List.mem_cons.mp hp with rfl | hp
  · exact ha
  · rcases List.mem_cons.mp hp with rfl | hp
    · exact hb
    · exact hc p hp
/-- a session's fields -/
abbrev sessO (w : World) (ga wi ti wl ul tl : Addr) (opening : Array UInt8) (state : String) (left out : Array UInt8) (hold tries : Int) (k0 k1 k2 k3 k4 k5 k6 k7 k8 k9 k10 k11 k12 ko ks kl kx kh kt : Tok) (c : Nat) : Obj :=
  dictOf [⟨PyData.keyHash w.params (Str.ofString "config"), .str (Str.ofString "config") k0, .ref ga⟩,
    ⟨PyData.keyHash w.params (Str.ofString "wire"), .str (Str.ofString "wire") k1, .ref wi⟩,
    ⟨PyData.keyHash w.params (Str.ofString "opening"), .str (Str.ofString "opening") k2, .bytes opening ko⟩,
    ⟨PyData.keyHash w.params (Str.ofString "state"), .str (Str.ofString "state") k3, .str (Str.ofString state) ks⟩,
    ⟨PyData.keyHash w.params (Str.ofString "timers"), .str (Str.ofString "timers") k4, .ref ti⟩,
    ⟨PyData.keyHash w.params (Str.ofString "left"), .str (Str.ofString "left") k5, .bytes left kl⟩,
    ⟨PyData.keyHash w.params (Str.ofString "out"), .str (Str.ofString "out") k6, .bytes out kx⟩,
    ⟨PyData.keyHash w.params (Str.ofString "wishes"), .str (Str.ofString "wishes") k7, .ref wl⟩,
    ⟨PyData.keyHash w.params (Str.ofString "updates"), .str (Str.ofString "updates") k8, .ref ul⟩,
    ⟨PyData.keyHash w.params (Str.ofString "told"), .str (Str.ofString "told") k9, .ref tl⟩,
    ⟨PyData.keyHash w.params (Str.ofString "peer"), .str (Str.ofString "peer") k10, .none⟩,
    ⟨PyData.keyHash w.params (Str.ofString "hold"), .str (Str.ofString "hold") k11, .int hold kh⟩,
    ⟨PyData.keyHash w.params (Str.ofString "tries"), .str (Str.ofString "tries") k12, .int tries kt⟩] c
/-- the config's pairs, as the law writes them -/
abbrev cfgL (n own hold : Int) (ca wa : Addr) (u0 u1 u2 u3 u4 u5 u6 u7 : Tok) : List (Str × Value) :=
  [("as", .int n u0), ("id", .int own u1), ("hold", .int hold u2), ("caps", .ref ca), ("retry", .int 20 u3), ("delay", .int 0 u4), ("large_hold", .int 240 u5), ("idle_hold", .int 60 u6), ("without_open", .bool false), ("damp", .bool false), ("peer_as", .int 7 u7), ("is_internal", .bool false), ("is_confed", .bool false), ("wanted_caps", .ref wa)]
abbrev endsO (w : World) (de : Addr) (ke : Tok) : Obj := dictOf [⟨PyData.keyHash w.params (Str.ofString "ends"), .str (Str.ofString "ends") ke, .ref de⟩] 1
section
variable {prog : Program} {w : World} {A : Around} {s : Shared} {Q : Value → Shared → Prop} {E : Value → Shared → Prop}
theorem in_top_strs (b : Bool) {t : Addr} {items : Array Value} {ys : List Str} {x : Str} {u : Tok} (ht : IsTup s.heap t items) (hi : StrsAre items.toList ys) (hb : ys.any (· == x) = b)
    (h : Q (.bool b) s) : wpAny (model prog w) A (compareOp .In (.str x u) (.ref t)) Q E s := by
  subst hb
  exact in_tuple_strs ht hi h
end
theorem pop_miss {prog : Program} {w : World} {K : Type} [DecidableEq K] {knd : KeyKind prog w K} {A : Around} {E : Value → Shared → Prop} {s : Shared} {h₀ : Heap} {L d : Addr} {news : List (Addr × Obj)} {o : Obj} {kvs : List (K × Value)} {k : K} {key dflt : Value} {Q : Value → Shared → Prop}
    (N : News h₀ L s.heap news) (hp : (d, o) ∈ news) (hd : o.IsDictOf knd kvs) (lo : (d == sysModules) = false) (hkey : knd.is k key = true) (hpart : (keyPart key).isSome = true) (hargs : argsOk "dict.pop" ⟨[.ref d, key, dflt], []⟩)
    (hl : valueAt kvs k = none) (h : Q dflt { s with toks := s.toks + 1 }) : wpAny (model prog w) A (call (.builtin "dict.pop") [.ref d, key, dflt]) Q E s :=
  have hD := kda_dict N hp hd
  call_meetsIn PySem.F.slot_dict_pop hD.typeIs PySem.F.entry_dict_pop hargs (PySem.meets_dict_pop_default knd d hkey lo hpart dflt) ⟨kvs, hD, hl, h⟩
section
variable {vw : Program} {w : World} {loose : List Str} {mean : ExcName → Option Value} {mg mb : Str → Option Value} {dp un : Nat} {gd : Option (List Code)} {cn : Str} {cs : Scope} {a : Addr} {ccd : Value} {cl : List (Str × Addr)} {outer : List Env} {A₀ : Around} {base h₀ : Heap} {L : Addr} {m : Str → Option Value} {s : Shared} {Q : Value → Shared → Prop} {E : Value → Shared → Prop} {news : List (Addr × Obj)}
set_option maxRecDepth 100000 in
set_option maxHeartbeats 0 in
theorem f_stop_miss {ti dt de : Addr} {ode : Obj} {es : List (Str × Value)} {nm : Str} {ke t1 : Tok}
    (B : Below A₀ base outer h₀) (F : Fr h₀ L s.heap m) (X : (hd.heap_1 w.params).In h₀) (N : News h₀ L s.heap ((ti, instObj 355 dt) :: (dt, endsO w de ke) :: (de, ode) :: news)) (T : Top vw loose mean mg mb h₀) (hk : cs.kind = .function)
    (lod : (de == sysModules) = false) (hde : ode.IsDictOf (PySem.strKind PySem.Challenge.rw_rh0217_02.row.prog w) es) (hl : valueAt es nm = none)
    (hdp : dp + 10 < recursionLimit) (hun : un + 40 < cLine)
    (hret : ∀ (h' : Heap) (tk' : Nat), Fr h₀ L h' m → News h₀ L h' ((ti, instObj 355 dt) :: (dt, endsO w de ke) :: (de, ode) :: news) → Q .none { s with heap := h', toks := tk' }) :
    wpAny (model PySem.Challenge.rw_rh0217_02.row.prog w) (ktrTop dp un gd cn cs L a ccd cl outer) (call (.ref 326) [.ref ti, .str nm t1]) Q E s := by
  refine wpAny_call ?_
  k_dflt cell_enter
  (repeat' (first | (k_unfold; (try dsimp only)) | (k_end; kc_close) | (first | (k_here; (with_reducible show wpAny _ _ (call (Value.builtin "dict.pop") [Value.ref _, Value.str _ _, Value.none]) _ _ _); k_dflt (first | refine pop_miss (knd := PySem.strKind _ _) (by k_asm) (by k_mem) (by assumption) (by assumption) (strKind_is _ _ _ _) (by rfl) (PySem.F.args_dict_pop_3 _ _ _) (by first | rfl | assumption) ?_ | (refine' kob_pop (knd := PySem.strKind _ _) (more := [_]) (by k_asm) (by k_asm) (by k_updF) (by k_asm) (strKind_is _ _ _ _) (.inr ⟨_, rfl⟩) (by rfl) (PySem.F.args_dict_pop_3 _ _ _) (by first | rfl | assumption) (by first | kob_size | (rw [sizeLine_eq]; walk_at "om")) ?_; intro h'q o'q F'q N'q hd'q; (try kob_lit); (try dsimp only at N'q))))) | walk1 | (dsimp only; first | walk1 | (first | (k_here; (with_reducible show wpAny _ _ (call (Value.builtin "dict.pop") [Value.ref _, Value.str _ _, Value.none]) _ _ _); k_dflt (first | refine pop_miss (knd := PySem.strKind _ _) (by k_asm) (by k_mem) (by assumption) (by assumption) (strKind_is _ _ _ _) (by rfl) (PySem.F.args_dict_pop_3 _ _ _) (by first | rfl | assumption) ?_ | (refine' kob_pop (knd := PySem.strKind _ _) (more := [_]) (by k_asm) (by k_asm) (by k_updF) (by k_asm) (strKind_is _ _ _ _) (.inr ⟨_, rfl⟩) (by rfl) (PySem.F.args_dict_pop_3 _ _ _) (by first | rfl | assumption) (by first | kob_size | (rw [sizeLine_eq]; walk_at "om")) ?_; intro h'q o'q F'q N'q hd'q; (try kob_lit); (try dsimp only at N'q)))))) | (leave1; try dsimp only)))
  all_goals (refine' hret _ _  ?hF ?hN; (case hN => first | k_asm | (refine' cb_drop ?N0 ?hs0; (case N0 => assumption); (case hs0 => (repeat (first | exact List.forall_mem_nil _ | (refine' List.forall_mem_cons.mpr ⟨?_, ?_⟩; (k_mem)) | (intro p hp; repeat (first | exact hp | apply List.mem_cons_of_mem))))))); (case hF => k_asm))
theorem c_stop_miss {ti dt de : Addr} {ode : Obj} {es : List (Str × Value)} {nm : Str} {ke t1 : Tok}
    (B : Below A₀ base outer h₀) (F : Fr h₀ L s.heap m) (X : (hd.heap_1 w.params).In h₀) (N : News h₀ L s.heap news) (T : Top vw loose mean mg mb h₀) (hk : cs.kind = .function)
    (m1 : (ti, instObj 355 dt) ∈ news) (m2 : (dt, endsO w de ke) ∈ news) (m3 : (de, ode) ∈ news) (lod : (de == sysModules) = false) (hde : ode.IsDictOf (PySem.strKind PySem.Challenge.rw_rh0217_02.row.prog w) es) (hl : valueAt es nm = none)
    (hdp : dp + 10 < recursionLimit) (hun : un + 40 < cLine)
    (hret : ∀ (h' : Heap) (tk' : Nat), Fr h₀ L h' m → News h₀ L h' news → Q .none { s with heap := h', toks := tk' }) :
    wpAny (model PySem.Challenge.rw_rh0217_02.row.prog w) (ktrTop dp un gd cn cs L a ccd cl outer) (call (.ref 326) [.ref ti, .str nm t1]) Q E s :=
  f_stop_miss B F X (cb_drop N (memc m1 m2 (fun p hp => by rcases List.mem_cons.mp hp with rfl | hp; exact m3; exact hp))) T hk lod hde hl hdp hun fun h' tk' F' N' => hret h' tk' F' (cb_drop N' fun p hp => List.mem_cons_of_mem _ (List.mem_cons_of_mem _ (List.mem_cons_of_mem _ hp)))
set_option maxRecDepth 100000 in
set_option maxHeartbeats 0 in
theorem f_runs {ti dt de : Addr} {ode : Obj} {es : List (Str × Value)} {nm : Str} {ke t1 : Tok}
    (B : Below A₀ base outer h₀) (F : Fr h₀ L s.heap m) (X : (hd.heap_1 w.params).In h₀) (N : News h₀ L s.heap ((ti, instObj 355 dt) :: (dt, endsO w de ke) :: (de, ode) :: news)) (T : Top vw loose mean mg mb h₀) (hk : cs.kind = .function)
    (lod : (de == sysModules) = false) (hde : ode.IsDictOf (PySem.strKind PySem.Challenge.rw_rh0217_02.row.prog w) es) (hl : valueAt es nm = none)
    (hdp : dp + 10 < recursionLimit) (hun : un + 40 < cLine)
    (hret : ∀ (h' : Heap) (tk' : Nat), Fr h₀ L h' m → News h₀ L h' ((ti, instObj 355 dt) :: (dt, endsO w de ke) :: (de, ode) :: news) → Q (.bool false) { s with heap := h', toks := tk' }) :
    wpAny (model PySem.Challenge.rw_rh0217_02.row.prog w) (ktrTop dp un gd cn cs L a ccd cl outer) (call (.ref 333) [.ref ti, .str nm t1]) Q E s := by
  refine wpAny_call ?_
  k_dflt cell_enter
  (repeat' (first | (k_unfold; (try dsimp only)) | (k_end; kc_close) | (first | (k_here; (with_reducible show wpAny _ _ (compareOp CmpOp.In (Value.str _ _) (Value.ref _)) _ _ _); k_dflt (refine kda_in (knd := PySem.strKind _ _) (by k_asm) (by k_mem) (by assumption) (by assumption) (strKind_is _ _ _ _) false (by first | rfl | (rw [(by assumption : valueAt _ _ = none)]; rfl)) ?_))) | walk1 | (dsimp only; first | walk1 | (first | (k_here; (with_reducible show wpAny _ _ (compareOp CmpOp.In (Value.str _ _) (Value.ref _)) _ _ _); k_dflt (refine kda_in (knd := PySem.strKind _ _) (by k_asm) (by k_mem) (by assumption) (by assumption) (strKind_is _ _ _ _) false (by first | rfl | (rw [(by assumption : valueAt _ _ = none)]; rfl)) ?_)))) | (leave1; try dsimp only)))
  all_goals (refine' hret _ _  ?hF ?hN; (case hN => first | k_asm | (refine' cb_drop ?N0 ?hs0; (case N0 => assumption); (case hs0 => (repeat (first | exact List.forall_mem_nil _ | (refine' List.forall_mem_cons.mpr ⟨?_, ?_⟩; (k_mem)) | (intro p hp; repeat (first | exact hp | apply List.mem_cons_of_mem))))))); (case hF => k_asm))
theorem c_runs {ti dt de : Addr} {ode : Obj} {es : List (Str × Value)} {nm : Str} {ke t1 : Tok}
    (B : Below A₀ base outer h₀) (F : Fr h₀ L s.heap m) (X : (hd.heap_1 w.params).In h₀) (N : News h₀ L s.heap news) (T : Top vw loose mean mg mb h₀) (hk : cs.kind = .function)
    (m1 : (ti, instObj 355 dt) ∈ news) (m2 : (dt, endsO w de ke) ∈ news) (m3 : (de, ode) ∈ news) (lod : (de == sysModules) = false) (hde : ode.IsDictOf (PySem.strKind PySem.Challenge.rw_rh0217_02.row.prog w) es) (hl : valueAt es nm = none)
    (hdp : dp + 10 < recursionLimit) (hun : un + 40 < cLine)
    (hret : ∀ (h' : Heap) (tk' : Nat), Fr h₀ L h' m → News h₀ L h' news → Q (.bool false) { s with heap := h', toks := tk' }) :
    wpAny (model PySem.Challenge.rw_rh0217_02.row.prog w) (ktrTop dp un gd cn cs L a ccd cl outer) (call (.ref 333) [.ref ti, .str nm t1]) Q E s :=
  f_runs B F X (cb_drop N (memc m1 m2 (fun p hp => by rcases List.mem_cons.mp hp with rfl | hp; exact m3; exact hp))) T hk lod hde hl hdp hun fun h' tk' F' N' => hret h' tk' F' (cb_drop N' fun p hp => List.mem_cons_of_mem _ (List.mem_cons_of_mem _ (List.mem_cons_of_mem _ hp)))
set_option maxRecDepth 100000 in
set_option maxHeartbeats 0 in
theorem f_stop_there {ti dt de : Addr} {ode : Obj} {es : List (Str × Value)} {nm : Str} {v : Value} {ke t1 : Tok}
    (B : Below A₀ base outer h₀) (F : Fr h₀ L s.heap m) (X : (hd.heap_1 w.params).In h₀) (N : News h₀ L s.heap ((ti, instObj 355 dt) :: (dt, endsO w de ke) :: (de, ode) :: news)) (T : Top vw loose mean mg mb h₀) (hk : cs.kind = .function)
    (l4 : dt < ti) (l5 : ti < de) (hne : ∀ p ∈ news, p.1 ≠ de) (lod : (de == sysModules) = false) (hde : ode.IsDictOf (PySem.strKind PySem.Challenge.rw_rh0217_02.row.prog w) es) (hl : valueAt es nm = some v) (hz : es.length ≤ 100)
    (hdp : dp + 10 < recursionLimit) (hun : un + 40 < cLine)
    (hret : ∀ (ode' : Obj) (h' : Heap) (tk' : Nat), ode'.IsDictOf (PySem.strKind PySem.Challenge.rw_rh0217_02.row.prog w) (without es nm) → Fr h₀ L h' m → News h₀ L h' ((ti, instObj 355 dt) :: (dt, endsO w de ke) :: (de, ode') :: news) → Q .none { s with heap := h', toks := tk' }) :
    wpAny (model PySem.Challenge.rw_rh0217_02.row.prog w) (ktrTop dp un gd cn cs L a ccd cl outer) (call (.ref 326) [.ref ti, .str nm t1]) Q E s := by
  k_lt2 l4
  k_lt2 l5
  refine wpAny_call ?_
  k_dflt cell_enter
  (repeat' (first | (k_unfold; (try dsimp only)) | (k_end; kc_close) | (first | (k_here; (with_reducible show wpAny _ _ (call (Value.builtin "dict.pop") [Value.ref _, Value.str _ _, Value.none]) _ _ _); k_dflt (first | refine pop_miss (knd := PySem.strKind _ _) (by k_asm) (by k_mem) (by assumption) (by assumption) (strKind_is _ _ _ _) (by rfl) (PySem.F.args_dict_pop_3 _ _ _) (by first | rfl | assumption) ?_ | (refine' kob_pop (knd := PySem.strKind _ _) (more := [_]) (by k_asm) (by k_asm) (by k_updF) (by k_asm) (strKind_is _ _ _ _) (.inr ⟨_, rfl⟩) (by rfl) (PySem.F.args_dict_pop_3 _ _ _) (by first | rfl | assumption) (by first | kob_size | (rw [sizeLine_eq]; walk_at "om")) ?_; intro h'q o'q F'q N'q hd'q; (try kob_lit); (try dsimp only at N'q))))) | walk1 | (dsimp only; first | walk1 | (first | (k_here; (with_reducible show wpAny _ _ (call (Value.builtin "dict.pop") [Value.ref _, Value.str _ _, Value.none]) _ _ _); k_dflt (first | refine pop_miss (knd := PySem.strKind _ _) (by k_asm) (by k_mem) (by assumption) (by assumption) (strKind_is _ _ _ _) (by rfl) (PySem.F.args_dict_pop_3 _ _ _) (by first | rfl | assumption) ?_ | (refine' kob_pop (knd := PySem.strKind _ _) (more := [_]) (by k_asm) (by k_asm) (by k_updF) (by k_asm) (strKind_is _ _ _ _) (.inr ⟨_, rfl⟩) (by rfl) (PySem.F.args_dict_pop_3 _ _ _) (by first | rfl | assumption) (by first | kob_size | (rw [sizeLine_eq]; walk_at "om")) ?_; intro h'q o'q F'q N'q hd'q; (try kob_lit); (try dsimp only at N'q)))))) | (leave1; try dsimp only)))
  all_goals (refine' hret _ _ _ ?p0  ?hF ?hN; (case hN => first | k_asm | (refine' cb_drop ?N0 ?hs0; (case N0 => assumption); (case hs0 => (repeat (first | exact List.forall_mem_nil _ | (refine' List.forall_mem_cons.mpr ⟨?_, ?_⟩; (k_mem)) | (intro p hp; repeat (first | exact hp | apply List.mem_cons_of_mem))))))); (case hF => k_asm); (case p0 => first | assumption | (refine ltN ?_; first | (with_reducible assumption) | omega)))
theorem c_stop_there {g : Obj → List (Addr × Obj)} {ti dt de : Addr} {ode : Obj} {es : List (Str × Value)} {nm : Str} {v : Value} {ke t1 : Tok}
    (B : Below A₀ base outer h₀) (F : Fr h₀ L s.heap m) (X : (hd.heap_1 w.params).In h₀) (N : News h₀ L s.heap news) (T : Top vw loose mean mg mb h₀) (hk : cs.kind = .function)
    (m1 : (ti, instObj 355 dt) ∈ news) (m2 : (dt, endsO w de ke) ∈ news) (U : UpdF de ode news g) (l4 : dt < ti) (l5 : ti < de) (lod : (de == sysModules) = false) (hde : ode.IsDictOf (PySem.strKind PySem.Challenge.rw_rh0217_02.row.prog w) es) (hl : valueAt es nm = some v) (hz : es.length ≤ 100)
    (hdp : dp + 10 < recursionLimit) (hun : un + 40 < cLine)
    (hret : ∀ (ode' : Obj) (h' : Heap) (tk' : Nat), ode'.IsDictOf (PySem.strKind PySem.Challenge.rw_rh0217_02.row.prog w) (without es nm) → Fr h₀ L h' m → News h₀ L h' (g ode') → Q .none { s with heap := h', toks := tk' }) :
    wpAny (model PySem.Challenge.rw_rh0217_02.row.prog w) (ktrTop dp un gd cn cs L a ccd cl outer) (call (.ref 326) [.ref ti, .str nm t1]) Q E s := by
  obtain ⟨rest, i1, i2, i3⟩ := upd_front U
  exact f_stop_there B F X (cb_drop N (memc m1 m2 i1)) T hk l4 l5 i2 lod hde hl hz hdp hun fun ode' h' tk' hd' F' N' => hret ode' h' tk' hd' F' (cb_drop N' fun p hp => List.mem_cons_of_mem _ (List.mem_cons_of_mem _ (i3 ode' p hp)))
set_option maxRecDepth 100000 in
set_option maxHeartbeats 0 in
theorem f_begin {ti dt de : Addr} {ode : Obj} {es : List (Str × Value)} {nm : Str} {v : Int} {ke t1 t2 : Tok}
    (B : Below A₀ base outer h₀) (F : Fr h₀ L s.heap m) (X : (hd.heap_1 w.params).In h₀) (N : News h₀ L s.heap ((ti, instObj 355 dt) :: (dt, endsO w de ke) :: (de, ode) :: news)) (T : Top vw loose mean mg mb h₀) (hk : cs.kind = .function)
    (l4 : dt < ti) (l5 : ti < de) (hne : ∀ p ∈ news, p.1 ≠ de) (lod : (de == sysModules) = false) (hde : ode.IsDictOf (PySem.strKind PySem.Challenge.rw_rh0217_02.row.prog w) es) (hz : es.length ≤ 100)
    (hdp : dp + 10 < recursionLimit) (hun : un + 40 < cLine)
    (hret : ∀ (ode' : Obj) (h' : Heap) (tk' : Nat), ode'.IsDictOf (PySem.strKind PySem.Challenge.rw_rh0217_02.row.prog w) (stored es nm (.int v t2)) → Fr h₀ L h' m → News h₀ L h' ((ti, instObj 355 dt) :: (dt, endsO w de ke) :: (de, ode') :: news) → Q .none { s with heap := h', toks := tk' }) :
    wpAny (model PySem.Challenge.rw_rh0217_02.row.prog w) (ktrTop dp un gd cn cs L a ccd cl outer) (call (.ref 319) [.ref ti, .str nm t1, .int v t2]) Q E s := by
  k_lt2 l4
  k_lt2 l5
  refine wpAny_call ?_
  k_dflt cell_enter
  (repeat' (first | (k_unfold; (try dsimp only)) | (k_end; kc_close) | (first | (k_here; (with_reducible show wpAny _ _ (setItem (Value.ref _) (Value.str _ _) (Value.int _ _)) _ _ _); k_dflt (refine' kda_set (knd := PySem.strKind _ _) (by k_asm) (by k_asm) (by k_updF) (by k_asm) (strKind_is _ _ _ _) (by (rw [sizeLine_eq]; walk_at "om")) ?_); intro h'q o'q F'q N'q hd'q; (try dsimp only at N'q))) | walk1 | (dsimp only; first | walk1 | (first | (k_here; (with_reducible show wpAny _ _ (setItem (Value.ref _) (Value.str _ _) (Value.int _ _)) _ _ _); k_dflt (refine' kda_set (knd := PySem.strKind _ _) (by k_asm) (by k_asm) (by k_updF) (by k_asm) (strKind_is _ _ _ _) (by (rw [sizeLine_eq]; walk_at "om")) ?_); intro h'q o'q F'q N'q hd'q; (try dsimp only at N'q)))) | (leave1; try dsimp only)))
  all_goals (refine' hret _ _ _ ?p0  ?hF ?hN; (case hN => first | k_asm | (refine' cb_drop ?N0 ?hs0; (case N0 => assumption); (case hs0 => (repeat (first | exact List.forall_mem_nil _ | (refine' List.forall_mem_cons.mpr ⟨?_, ?_⟩; (k_mem)) | (intro p hp; repeat (first | exact hp | apply List.mem_cons_of_mem))))))); (case hF => k_asm); (case p0 => first | assumption | (refine ltN ?_; first | (with_reducible assumption) | omega)))
theorem c_begin {g : Obj → List (Addr × Obj)} {ti dt de : Addr} {ode : Obj} {es : List (Str × Value)} {nm : Str} {v : Int} {ke t1 t2 : Tok}
    (B : Below A₀ base outer h₀) (F : Fr h₀ L s.heap m) (X : (hd.heap_1 w.params).In h₀) (N : News h₀ L s.heap news) (T : Top vw loose mean mg mb h₀) (hk : cs.kind = .function)
    (m1 : (ti, instObj 355 dt) ∈ news) (m2 : (dt, endsO w de ke) ∈ news) (U : UpdF de ode news g) (l4 : dt < ti) (l5 : ti < de) (lod : (de == sysModules) = false) (hde : ode.IsDictOf (PySem.strKind PySem.Challenge.rw_rh0217_02.row.prog w) es) (hz : es.length ≤ 100)
    (hdp : dp + 10 < recursionLimit) (hun : un + 40 < cLine)
    (hret : ∀ (ode' : Obj) (h' : Heap) (tk' : Nat), ode'.IsDictOf (PySem.strKind PySem.Challenge.rw_rh0217_02.row.prog w) (stored es nm (.int v t2)) → Fr h₀ L h' m → News h₀ L h' (g ode') → Q .none { s with heap := h', toks := tk' }) :
    wpAny (model PySem.Challenge.rw_rh0217_02.row.prog w) (ktrTop dp un gd cn cs L a ccd cl outer) (call (.ref 319) [.ref ti, .str nm t1, .int v t2]) Q E s := by
  obtain ⟨rest, i1, i2, i3⟩ := upd_front U
  exact f_begin B F X (cb_drop N (memc m1 m2 i1)) T hk l4 l5 i2 lod hde hz hdp hun fun ode' h' tk' hd' F' N' => hret ode' h' tk' hd' F' (cb_drop N' fun p hp => List.mem_cons_of_mem _ (List.mem_cons_of_mem _ (i3 ode' p hp)))
end
end
end Mine
end
section
namespace Mine
noncomputable section
theorem Caps.mono {ca : Addr} {news news' : List (Addr × Obj)} {lot : Array UInt8} (h : Caps ca news lot) (k : ∀ p ∈ news, p ∈ news') : Caps ca news' lot := by
  cases h with
  | none h => exact .none (k _ h)
  | one h h1 a0 a1 z => exact .one (k _ h) (k _ h1) a0 a1 z
  | two h h1 h2 a0 a1 z b0 b1 z' => exact .two (k _ h) (k _ h1) (k _ h2) a0 a1 z b0 b1 z'
def JoinB (h₀ : Heap) (L : Addr) (m : Str → Option Value) (news : List (Addr × Obj)) (s : Shared) (b : Bool) (b' : Bool) (s' : Shared) : Prop := b' = b ∧ ∃ h tk, s' = { s with heap := h, toks := tk } ∧ Fr h₀ L h m ∧ News h₀ L h news
theorem JoinB.intro {h₀ : Heap} {L : Addr} {m : Str → Option Value} {news : List (Addr × Obj)} {s : Shared} {b b' : Bool} {h : Heap} {tk : Nat} (e : b' = b) (F : Fr h₀ L h m) (N : News h₀ L h news) : JoinB h₀ L m news s b b' { s with heap := h, toks := tk } := ⟨e, h, tk, rfl, F, N⟩
theorem join_test {M : Model} {A : Around} {E : Value → Shared → Prop} {s : Shared} {h₀ : Heap} {L : Addr} {m : Str → Option Value} {news : List (Addr × Obj)} {c : Sem Bool} {Q : Bool → Shared → Prop} (b : Bool) (_F : Fr h₀ L s.heap m) (_N : News h₀ L s.heap news)
    (h1 : wpAny M A c (JoinB h₀ L m news s b) E s) (h2 : ∀ h tk, Fr h₀ L h m → News h₀ L h news → Q b { s with heap := h, toks := tk }) : wpAny M A c Q E s :=
  wpAny_mono h1 (fun b' s' hj => by obtain ⟨rfl, h, tk, rfl, F, N⟩ := hj; exact h2 h tk F N) fun _ _ x => x
theorem min3 {prog : Program} {w : World} {A : Around} {E : Value → Shared → Prop} {s : Shared} {h₀ : Heap} {L : Addr} {m : Str → Option Value} {news : List (Addr × Obj)} {t u x : Tok} {Q : Value → Shared → Prop} (hh : A.handled = none) (F : Fr h₀ L s.heap m) (N : News h₀ L s.heap news)
    (h : ∀ h' tk, Fr h₀ L h' m → News h₀ L h' news → Q (.int 20 t) { s with heap := h', toks := tk }) : wpAny (model prog w) A (call (.builtin "min") [.int 20 t, .int 60 u, .int 240 x]) Q E s :=
  min_three_ints hh fun h' tk hk => by
    have := h h' tk (F.keeps hk) (N.grown hk)
    simpa using this
theorem note_len (a b : Int) : (((oct1 a ++ oct1 b ++ #[]).size : Nat) : Int) = 2 := by simp [oct1_size]
/-- the config's pairs -/
def cfg (n own hold : Int) (ca wa : Addr) (u : Fin 8 → Tok) : List (Str × Value) :=
  [("as", .int n (u 0)), ("id", .int own (u 1)), ("hold", .int hold (u 2)), ("caps", .ref ca), ("retry", .int 20 (u 3)), ("delay", .int 0 (u 4)), ("large_hold", .int 240 (u 5)), ("idle_hold", .int 60 (u 6)),
   ("without_open", .bool false), ("damp", .bool false), ("peer_as", .int 7 (u 7)), ("is_internal", .bool false), ("is_confed", .bool false), ("wanted_caps", .ref wa)]
local macro_rules | `(tactic| kba_in) => `(tactic| (refine in_one ⟨?_, ?_⟩ <;> walk_at "om"))
section
variable {vw : Program} {w : World} {loose : List Str} {mean : ExcName → Option Value} {mg mb : Str → Option Value} {dp un : Nat} {gd : Option (List Code)} {cn : Str} {cs : Scope} {a : Addr} {ccd : Value} {A₀ : Around} {base h₀ : Heap} {L : Addr} {m : Str → Option Value} {s : Shared} {Q : Value → Shared → Prop} {E : Value → Shared → Prop} {news : List (Addr × Obj)}

local macro_rules | `(tactic| walk_at "own0") => `(tactic| ((with_reducible show wpAny _ _ (leaving _ (Value.ref _)) _ _ _); (k_here; first | (k_dflt (refine' leave_first ?K ?F ?N ?ne ?hf ?hk ?_; (case N | K | F | ne => assumption); (case hf | hk => exact rfl); k_whole); intro h'q S'q R'q U'q; (try dsimp only at S'q R'q U'q ⊢)) | (k_dflt (refine' leave_onS ?k1 ?k2 ?k3 ?k4 ?_; (case k3 | k2 | k1 | k4 => assumption); k_whole); intro h'q S'q R'q U'q; (try dsimp only at S'q R'q U'q ⊢)))))
set_option maxRecDepth 100000 in
set_option maxHeartbeats 0 in
theorem c_made_all {ga ca wa : Addr} {lot : Array UInt8} {n hold own : Int} {u : Fin 8 → Tok} {o : Obj}
    (B : Below A₀ base [] h₀) (F : Fr h₀ L s.heap m) (X : (hd.heap_1 w.params).In h₀) (N : News h₀ L s.heap ((ga, o) :: (wa, tupN [] 0) :: news)) (T : Top vw loose mean mg mb h₀) (XB : (hd.heap_1 w.params).In base) (TB : Top vw loose mean mg mb base) (hk : cs.kind = .function)
    (lo : (ga == sysModules) = false) (hd : o.IsDictOf (PySem.strKind PySem.Challenge.rw_rh0217_02.row.prog w) (cfg n own hold ca wa u))
    (hc : Caps ca ((ga, o) :: (wa, tupN [] 0) :: news) lot) (n0 : 0 ≤ n) (ph : 0 ≤ hold) (o0 : 0 ≤ own) (hsel : Halt ((0 < hold ∧ hold < 3) ∨ (hold = 0 ∨ 3 ≤ hold) ∧ Halt ((253 < lot.size ∨ 65535 < n ∨ 65535 < hold ∨ 4294967295 < own) ∨ lot.size ≤ 253 ∧ n ≤ 65535 ∧ hold ≤ 65535 ∧ own ≤ 4294967295)))
    (hdp : dp + 120 < recursionLimit) (hun : un + 300 < cLine)
    (hbad : Halt ((0 < hold ∧ hold < 3) ∨ 253 < lot.size ∨ 65535 < n ∨ 65535 < hold ∨ 4294967295 < own) → ∀ (h' : Heap) (tk' : Nat), Fr h₀ L h' m → News h₀ L h' ((ga, o) :: (wa, tupN [] 0) :: news) → Q .none { s with heap := h', toks := tk' })
    (hret : Halt ((hold = 0 ∨ 3 ≤ hold) ∧ lot.size ≤ 253 ∧ n ≤ 65535 ∧ hold ≤ 65535 ∧ own ≤ 4294967295) → ∀ (sa ds wi ti dt de wl ul tl : Addr) (ode : Obj) (k0 k1 k2 k3 k4 k5 k6 k7 k8 k9 k10 k11 k12 ko ks kl kx kh kt ke : Tok) (h' : Heap) (tk' : Nat),
      ga < ds → ds < sa → sa < dt → dt < ti → ti < de → de < wl → wl < ul → ul < tl →
      (de == sysModules) = false → ode.IsDictOf (PySem.strKind PySem.Challenge.rw_rh0217_02.row.prog w) [] →
      Fr h₀ L h' m → News h₀ L h' ((sa, instObj 482 ds) :: (ds, sessO w ga wi ti wl ul tl (wholeB n hold own lot) "idle" #[] #[] 0 0 k0 k1 k2 k3 k4 k5 k6 k7 k8 k9 k10 k11 k12 ko ks kl kx kh kt 13) :: (ti, instObj 355 dt) :: (dt, dictOf [⟨PyData.keyHash w.params (Str.ofString "ends"), .str (Str.ofString "ends") ke, .ref de⟩] 1) :: (de, ode) :: (wl, W.listOf #[] 0) :: (ul, W.listOf #[] 0) :: (tl, W.listOf #[] 0) :: (ga, o) :: news) → Q (.ref sa) { s with heap := h', toks := tk' }) :
    wpAny (model PySem.Challenge.rw_rh0217_02.row.prog w) (ktrTop dp un gd cn cs L a ccd [] []) (call (.ref 783) [.ref ga]) Q E s := by
  unfold cfg at hd
  refine wpAny_call ?_
  k_dflt (refine' code_defS0 ?k1 ?k2 ?k3 ?k4 ?k5 ?kA ?k6 ?k7 ?k8 ?k9 ?kB ?_ ?cK ?c2 ?c3 ?c4 ?c5; (case kA => exact rfl); (case k2 => k_asm); (case k1 => k_asm); (case k3 => k_asm); (case k4 => k_asm); (case k5 => k_asm); (case k6 => k_is); (case k7 => k_is); (case k8 => ktr_room); (case k9 => first | exact binds_K (by k_in) rfl (by k_is) rfl rfl rfl | exact BindsTo.of_eq rfl); (case kB => exact locs rfl); (case cK => assumption); (case c2 => exact rfl); (case c3 => exact rfl); (case c4 => exact rfl); (case c5 => decide); k_whole; intro g' L' h' FG' F' N' B' X' T' D'; (try dsimp only); (try k_lift B'); (try k_fold))
  (repeat' (first | (k_unfold; (try dsimp only)) | (lge_end; wrow_closeG) | (first | ((with_reducible show wpAny _ _ (isTrue (Expr.BoolOp BoolOp.And [Expr.Compare _ [CmpOp.NotEq] _ _, Expr.Compare _ [CmpOp.Lt] _ _] _) _ _) _ _ _); refine Halt.mk ?_) | (k_here; (with_reducible show wpAny _ _ (callWith _ (Value.ref 355) _ (backTo _ (starEach [] _)) []) _ _ _); k_dflt (refine' callWith_K0 (by exact Frag.In.keeps (by k_asm) (Fr.keep (by k_asm))) (by k_is) ?_; k_whole)) | ((with_reducible show ∀ (h : Heap) (tk : Nat), Fr _ _ h _ → News _ _ h _ → _); intro h'q tk'q F'q N'q) | ((with_reducible show Mine.JoinB _ _ _ _ _ _ _ _); (k_here; k_dflt (refine' JoinB.intro (by rfl) (by k_asm) (by k_asm)))) | (k_here; (with_reducible show wpAny _ _ (isTrue (Expr.BoolOp BoolOp.And [Expr.Compare _ [CmpOp.NotEq] _ _, Expr.Compare _ [CmpOp.Lt] _ _] _) _ _) _ _ _); k_dflt (refine' join_test false (by k_asm) (by k_asm) ?_ ?_); walk1) | (k_here; (with_reducible show wpAny _ _ (call (Value.builtin _) [Value.int _ _, Value.int _ _, Value.int _ _]) _ _ _); k_dflt (refine' min3 (by exact rfl) (by k_asm) (by k_asm) ?_); intro h'q tk'q F'q N'q) | (k_here; (with_reducible show wpAny _ _ (binaryOp Operator.Add (Value.bytes _ _) (Value.bytes _ _)) _ _ _); refine KBy.add_bytes (by (simp only [Array.size_append, List.size_toArray, oct1_size, oct2_size, oct4_size, byteArr_size, List.length_cons, List.length_nil]; walk_at "om")) ?_; intro t'q k'q) | (k_here; (with_reducible show wpAny _ _ (call (Value.builtin "len") [Value.bytes _ _]) _ _ _); (refine len_as (note_len _ _) (by decide) ?_)) | ((with_reducible show Mine.SrcT _ _ _ _ _ _ _ _ _ _ _ _ _ _); (k_here; k_dflt (refine Mine.SrcT.intro (by rfl) (by k_asm) (by k_asm) (by k_mem) (by first | size_fits | exact Nat.le_of_ble_eq_true rfl) ?_; intro g'q; lcg_lit))) | (k_here; (with_reducible show wpAny _ _ (eval (Expr.ListComp _ [⟨Expr.Name _ _, Expr.Subscript _ _ _, [], 0⟩] _ _) _) _ _ _); k_dflt (refine Mine.comp_tuple (F₀ := by k_asm) (by rfl) (by decide) (by rfl) (by decide) (by rfl) ?_)) | ((with_reducible show wpAny _ _ (call (Value.builtin "bytes.join") _ _) _ _ _); (k_here; k_dflt (first | (refine' join_none (by is_list) ?_; k_whole; intro t'q k'q)))) | (k_here; k_dflt ((with_reducible show wpAny _ _ (call (Value.ref 715) _) _ _ _); (refine' Mine.c_message (by k_asm) (by k_asm) (by k_asm) (by k_asm) (by k_asm) (by first | exact rfl | assumption) (by k_mem) (by exact Caps.mono (by assumption) (by intro p hp; repeat (first | exact hp | apply List.mem_cons_of_mem)); first | done | fail) (by walk_at "om") (by walk_at "om") (by walk_at "om") (by walk_at "om") (by walk_at "om") (by walk_at "om") (by walk_at "om") (by ktr_room) (by ktr_units) ?_); intro t'q h'q tk'q F'q N'q)) | ((with_reducible show wpAny _ _ (getMethod (Value.bytes _ _) _ _) _ _ _); (k_here; refine join_method ?_)) | (k_here; k_dflt ((with_reducible show wpAny _ _ (call (Value.ref 197) _) _ _ _); (refine' Mine.c_u8 (by k_asm) (by k_asm) (by k_asm) (by k_asm) (by k_asm) (by first | exact rfl | assumption) (by walk_at "om") (by walk_at "om") (by ktr_room) (by ktr_units) ?_); intro t'q h'q tk'q F'q N'q)) | (k_here; k_dflt ((with_reducible show wpAny _ _ (call (Value.ref 204) _) _ _ _); (refine' Mine.c_u16 (by k_asm) (by k_asm) (by k_asm) (by k_asm) (by k_asm) (by first | exact rfl | assumption) (by walk_at "om") (by walk_at "om") (by ktr_room) (by ktr_units) ?_); intro t'q h'q tk'q F'q N'q)) | ((with_reducible show @ite _ _ _ _ _); (with_reducible refine Mine.ite_ff ?_))) | walk1 | (dsimp only; first | walk1 | (first | ((with_reducible show wpAny _ _ (isTrue (Expr.BoolOp BoolOp.And [Expr.Compare _ [CmpOp.NotEq] _ _, Expr.Compare _ [CmpOp.Lt] _ _] _) _ _) _ _ _); refine Halt.mk ?_) | (k_here; (with_reducible show wpAny _ _ (callWith _ (Value.ref 355) _ (backTo _ (starEach [] _)) []) _ _ _); k_dflt (refine' callWith_K0 (by exact Frag.In.keeps (by k_asm) (Fr.keep (by k_asm))) (by k_is) ?_; k_whole)) | ((with_reducible show ∀ (h : Heap) (tk : Nat), Fr _ _ h _ → News _ _ h _ → _); intro h'q tk'q F'q N'q) | ((with_reducible show Mine.JoinB _ _ _ _ _ _ _ _); (k_here; k_dflt (refine' JoinB.intro (by rfl) (by k_asm) (by k_asm)))) | (k_here; (with_reducible show wpAny _ _ (isTrue (Expr.BoolOp BoolOp.And [Expr.Compare _ [CmpOp.NotEq] _ _, Expr.Compare _ [CmpOp.Lt] _ _] _) _ _) _ _ _); k_dflt (refine' join_test false (by k_asm) (by k_asm) ?_ ?_); walk1) | (k_here; (with_reducible show wpAny _ _ (call (Value.builtin _) [Value.int _ _, Value.int _ _, Value.int _ _]) _ _ _); k_dflt (refine' min3 (by exact rfl) (by k_asm) (by k_asm) ?_); intro h'q tk'q F'q N'q) | (k_here; (with_reducible show wpAny _ _ (binaryOp Operator.Add (Value.bytes _ _) (Value.bytes _ _)) _ _ _); refine KBy.add_bytes (by (simp only [Array.size_append, List.size_toArray, oct1_size, oct2_size, oct4_size, byteArr_size, List.length_cons, List.length_nil]; walk_at "om")) ?_; intro t'q k'q) | (k_here; (with_reducible show wpAny _ _ (call (Value.builtin "len") [Value.bytes _ _]) _ _ _); (refine len_as (note_len _ _) (by decide) ?_)) | ((with_reducible show Mine.SrcT _ _ _ _ _ _ _ _ _ _ _ _ _ _); (k_here; k_dflt (refine Mine.SrcT.intro (by rfl) (by k_asm) (by k_asm) (by k_mem) (by first | size_fits | exact Nat.le_of_ble_eq_true rfl) ?_; intro g'q; lcg_lit))) | (k_here; (with_reducible show wpAny _ _ (eval (Expr.ListComp _ [⟨Expr.Name _ _, Expr.Subscript _ _ _, [], 0⟩] _ _) _) _ _ _); k_dflt (refine Mine.comp_tuple (F₀ := by k_asm) (by rfl) (by decide) (by rfl) (by decide) (by rfl) ?_)) | ((with_reducible show wpAny _ _ (call (Value.builtin "bytes.join") _ _) _ _ _); (k_here; k_dflt (first | (refine' join_none (by is_list) ?_; k_whole; intro t'q k'q)))) | (k_here; k_dflt ((with_reducible show wpAny _ _ (call (Value.ref 715) _) _ _ _); (refine' Mine.c_message (by k_asm) (by k_asm) (by k_asm) (by k_asm) (by k_asm) (by first | exact rfl | assumption) (by k_mem) (by exact Caps.mono (by assumption) (by intro p hp; repeat (first | exact hp | apply List.mem_cons_of_mem)); first | done | fail) (by walk_at "om") (by walk_at "om") (by walk_at "om") (by walk_at "om") (by walk_at "om") (by walk_at "om") (by walk_at "om") (by ktr_room) (by ktr_units) ?_); intro t'q h'q tk'q F'q N'q)) | ((with_reducible show wpAny _ _ (getMethod (Value.bytes _ _) _ _) _ _ _); (k_here; refine join_method ?_)) | (k_here; k_dflt ((with_reducible show wpAny _ _ (call (Value.ref 197) _) _ _ _); (refine' Mine.c_u8 (by k_asm) (by k_asm) (by k_asm) (by k_asm) (by k_asm) (by first | exact rfl | assumption) (by walk_at "om") (by walk_at "om") (by ktr_room) (by ktr_units) ?_); intro t'q h'q tk'q F'q N'q)) | (k_here; k_dflt ((with_reducible show wpAny _ _ (call (Value.ref 204) _) _ _ _); (refine' Mine.c_u16 (by k_asm) (by k_asm) (by k_asm) (by k_asm) (by k_asm) (by first | exact rfl | assumption) (by walk_at "om") (by walk_at "om") (by ktr_room) (by ktr_units) ?_); intro t'q h'q tk'q F'q N'q)) | ((with_reducible show @ite _ _ _ _ _); (with_reducible refine Mine.ite_ff ?_)))) | (leave1; try dsimp only) | wrow_closeG))
  refine Halt.go ?_
  rcases hsel with ⟨p2, p3⟩ | ⟨p0, hsel⟩
  · clear hret
    (repeat' (first | (k_unfold; (try dsimp only)) | (lge_end; wrow_closeG) | (first | (k_here; (with_reducible show wpAny _ _ (call (Value.ref 715) _) _ _ _); exfalso; walk_at "om") | (k_here; (with_reducible show InitBack _ _ (Except.error _) _); dsimp only [InitBack]) | ((with_reducible show wpAny _ _ (leaving _ (Value.ref _)) _ _ _); walk_at "own0") | ((with_reducible show Mine.RaisableO _ _ _); (k_here; k_dflt (refine' raisableO_K (by k_asm) (by k_asm) (by k_asm) (by k_is) tail164 ?_; k_whole); dsimp only)) | (k_here; (with_reducible show wpAny _ _ (exec (Stmt.Raise (some (Expr.Call (Expr.Name _ _) (_ :: _) [] _)) none _) _) _ _ _); refine raise_own rfl ?_) | (k_here; (with_reducible show wpAny _ _ (call (Value.builtin _) [Value.int _ _, Value.int _ _, Value.int _ _]) _ _ _); k_dflt (refine' min3 (by exact rfl) (by k_asm) (by k_asm) ?_); intro h'q tk'q F'q N'q) | (k_here; (with_reducible show wpAny _ _ (binaryOp Operator.Add (Value.bytes _ _) (Value.bytes _ _)) _ _ _); refine KBy.add_bytes (by (simp only [Array.size_append, List.size_toArray, oct1_size, oct2_size, oct4_size, byteArr_size, List.length_cons, List.length_nil]; walk_at "om")) ?_; intro t'q k'q) | (k_here; (with_reducible show wpAny _ _ (call (Value.builtin "len") [Value.bytes _ _]) _ _ _); (refine len_as (note_len _ _) (by decide) ?_)) | ((with_reducible show Mine.SrcT _ _ _ _ _ _ _ _ _ _ _ _ _ _); (k_here; k_dflt (refine Mine.SrcT.intro (by rfl) (by k_asm) (by k_asm) (by k_mem) (by first | size_fits | exact Nat.le_of_ble_eq_true rfl) ?_; intro g'q; lcg_lit))) | (k_here; (with_reducible show wpAny _ _ (eval (Expr.ListComp _ [⟨Expr.Name _ _, Expr.Subscript _ _ _, [], 0⟩] _ _) _) _ _ _); k_dflt (refine Mine.comp_tuple (F₀ := by k_asm) (by rfl) (by decide) (by rfl) (by decide) (by rfl) ?_)) | ((with_reducible show wpAny _ _ (call (Value.builtin "bytes.join") _ _) _ _ _); (k_here; k_dflt (first | (refine' join_none (by is_list) ?_; k_whole; intro t'q k'q)))) | ((with_reducible show wpAny _ _ (getMethod (Value.bytes _ _) _ _) _ _ _); (k_here; refine join_method ?_)) | (k_here; k_dflt ((with_reducible show wpAny _ _ (call (Value.ref 197) _) _ _ _); (refine' Mine.c_u8 (by k_asm) (by k_asm) (by k_asm) (by k_asm) (by k_asm) (by first | exact rfl | assumption) (by walk_at "om") (by walk_at "om") (by ktr_room) (by ktr_units) ?_); intro t'q h'q tk'q F'q N'q)) | (k_here; k_dflt ((with_reducible show wpAny _ _ (call (Value.ref 204) _) _ _ _); (refine' Mine.c_u16 (by k_asm) (by k_asm) (by k_asm) (by k_asm) (by k_asm) (by first | exact rfl | assumption) (by walk_at "om") (by walk_at "om") (by ktr_room) (by ktr_units) ?_); intro t'q h'q tk'q F'q N'q)) | (k_here; k_dflt ((with_reducible show wpAny _ _ (call (Value.ref 164) _) _ _ _); (refine' Mine.c_err (by k_asm) (by k_asm) (by k_asm) (by k_asm) (by k_asm) (by first | exact rfl | assumption) (by ktr_room) (by ktr_units) ?_); intro e'q t'q d'q h'q tk'q ne'q F'q N'q)) | ((with_reducible show @ite _ _ _ _ _); (with_reducible refine Mine.ite_ff ?_))) | walk1 | (dsimp only; first | walk1 | (first | (k_here; (with_reducible show wpAny _ _ (call (Value.ref 715) _) _ _ _); exfalso; walk_at "om") | (k_here; (with_reducible show InitBack _ _ (Except.error _) _); dsimp only [InitBack]) | ((with_reducible show wpAny _ _ (leaving _ (Value.ref _)) _ _ _); walk_at "own0") | ((with_reducible show Mine.RaisableO _ _ _); (k_here; k_dflt (refine' raisableO_K (by k_asm) (by k_asm) (by k_asm) (by k_is) tail164 ?_; k_whole); dsimp only)) | (k_here; (with_reducible show wpAny _ _ (exec (Stmt.Raise (some (Expr.Call (Expr.Name _ _) (_ :: _) [] _)) none _) _) _ _ _); refine raise_own rfl ?_) | (k_here; (with_reducible show wpAny _ _ (call (Value.builtin _) [Value.int _ _, Value.int _ _, Value.int _ _]) _ _ _); k_dflt (refine' min3 (by exact rfl) (by k_asm) (by k_asm) ?_); intro h'q tk'q F'q N'q) | (k_here; (with_reducible show wpAny _ _ (binaryOp Operator.Add (Value.bytes _ _) (Value.bytes _ _)) _ _ _); refine KBy.add_bytes (by (simp only [Array.size_append, List.size_toArray, oct1_size, oct2_size, oct4_size, byteArr_size, List.length_cons, List.length_nil]; walk_at "om")) ?_; intro t'q k'q) | (k_here; (with_reducible show wpAny _ _ (call (Value.builtin "len") [Value.bytes _ _]) _ _ _); (refine len_as (note_len _ _) (by decide) ?_)) | ((with_reducible show Mine.SrcT _ _ _ _ _ _ _ _ _ _ _ _ _ _); (k_here; k_dflt (refine Mine.SrcT.intro (by rfl) (by k_asm) (by k_asm) (by k_mem) (by first | size_fits | exact Nat.le_of_ble_eq_true rfl) ?_; intro g'q; lcg_lit))) | (k_here; (with_reducible show wpAny _ _ (eval (Expr.ListComp _ [⟨Expr.Name _ _, Expr.Subscript _ _ _, [], 0⟩] _ _) _) _ _ _); k_dflt (refine Mine.comp_tuple (F₀ := by k_asm) (by rfl) (by decide) (by rfl) (by decide) (by rfl) ?_)) | ((with_reducible show wpAny _ _ (call (Value.builtin "bytes.join") _ _) _ _ _); (k_here; k_dflt (first | (refine' join_none (by is_list) ?_; k_whole; intro t'q k'q)))) | ((with_reducible show wpAny _ _ (getMethod (Value.bytes _ _) _ _) _ _ _); (k_here; refine join_method ?_)) | (k_here; k_dflt ((with_reducible show wpAny _ _ (call (Value.ref 197) _) _ _ _); (refine' Mine.c_u8 (by k_asm) (by k_asm) (by k_asm) (by k_asm) (by k_asm) (by first | exact rfl | assumption) (by walk_at "om") (by walk_at "om") (by ktr_room) (by ktr_units) ?_); intro t'q h'q tk'q F'q N'q)) | (k_here; k_dflt ((with_reducible show wpAny _ _ (call (Value.ref 204) _) _ _ _); (refine' Mine.c_u16 (by k_asm) (by k_asm) (by k_asm) (by k_asm) (by k_asm) (by first | exact rfl | assumption) (by walk_at "om") (by walk_at "om") (by ktr_room) (by ktr_units) ?_); intro t'q h'q tk'q F'q N'q)) | (k_here; k_dflt ((with_reducible show wpAny _ _ (call (Value.ref 164) _) _ _ _); (refine' Mine.c_err (by k_asm) (by k_asm) (by k_asm) (by k_asm) (by k_asm) (by first | exact rfl | assumption) (by ktr_room) (by ktr_units) ?_); intro e'q t'q d'q h'q tk'q ne'q F'q N'q)) | ((with_reducible show @ite _ _ _ _ _); (with_reducible refine Mine.ite_ff ?_)))) | (leave1; try dsimp only) | wrow_closeG))
    all_goals (refine' hbad (Or.inl ⟨p2, p3⟩) _ _ ?hF ?hN; (case hF => k_asm); (case hN => (first | k_asm | (refine' cb_drop ?N ?hs; (case N => assumption); (case hs => (intro p hp; repeat (first | exact hp | apply List.mem_cons_of_mem)))))))
  ·
    (repeat' (first | (k_unfold; (try dsimp only)) | (lge_end; wrow_closeG) | (first | ((with_reducible show wpAny _ _ (call (Value.ref 715) _) _ _ _); refine Halt.mk ?_) | (k_here; (with_reducible show wpAny _ _ (callWith _ (Value.ref 355) _ (backTo _ (starEach [] _)) []) _ _ _); k_dflt (refine' callWith_K0 (by exact Frag.In.keeps (by k_asm) (Fr.keep (by k_asm))) (by k_is) ?_; k_whole)) | ((with_reducible show ∀ (h : Heap) (tk : Nat), Fr _ _ h _ → News _ _ h _ → _); intro h'q tk'q F'q N'q) | ((with_reducible show Mine.JoinB _ _ _ _ _ _ _ _); (k_here; k_dflt (refine' JoinB.intro (by rfl) (by k_asm) (by k_asm)))) | (k_here; (with_reducible show wpAny _ _ (isTrue (Expr.BoolOp BoolOp.And [Expr.Compare _ [CmpOp.NotEq] _ _, Expr.Compare _ [CmpOp.Lt] _ _] _) _ _) _ _ _); k_dflt (refine' join_test false (by k_asm) (by k_asm) ?_ ?_); walk1) | (k_here; (with_reducible show wpAny _ _ (call (Value.builtin _) [Value.int _ _, Value.int _ _, Value.int _ _]) _ _ _); k_dflt (refine' min3 (by exact rfl) (by k_asm) (by k_asm) ?_); intro h'q tk'q F'q N'q) | (k_here; (with_reducible show wpAny _ _ (binaryOp Operator.Add (Value.bytes _ _) (Value.bytes _ _)) _ _ _); refine KBy.add_bytes (by (simp only [Array.size_append, List.size_toArray, oct1_size, oct2_size, oct4_size, byteArr_size, List.length_cons, List.length_nil]; walk_at "om")) ?_; intro t'q k'q) | (k_here; (with_reducible show wpAny _ _ (call (Value.builtin "len") [Value.bytes _ _]) _ _ _); (refine len_as (note_len _ _) (by decide) ?_)) | ((with_reducible show Mine.SrcT _ _ _ _ _ _ _ _ _ _ _ _ _ _); (k_here; k_dflt (refine Mine.SrcT.intro (by rfl) (by k_asm) (by k_asm) (by k_mem) (by first | size_fits | exact Nat.le_of_ble_eq_true rfl) ?_; intro g'q; lcg_lit))) | (k_here; (with_reducible show wpAny _ _ (eval (Expr.ListComp _ [⟨Expr.Name _ _, Expr.Subscript _ _ _, [], 0⟩] _ _) _) _ _ _); k_dflt (refine Mine.comp_tuple (F₀ := by k_asm) (by rfl) (by decide) (by rfl) (by decide) (by rfl) ?_)) | ((with_reducible show wpAny _ _ (call (Value.builtin "bytes.join") _ _) _ _ _); (k_here; k_dflt (first | (refine' join_none (by is_list) ?_; k_whole; intro t'q k'q)))) | (k_here; k_dflt ((with_reducible show wpAny _ _ (call (Value.ref 715) _) _ _ _); (refine' Mine.c_message (by k_asm) (by k_asm) (by k_asm) (by k_asm) (by k_asm) (by first | exact rfl | assumption) (by k_mem) (by exact Caps.mono (by assumption) (by intro p hp; repeat (first | exact hp | apply List.mem_cons_of_mem)); first | done | fail) (by walk_at "om") (by walk_at "om") (by walk_at "om") (by walk_at "om") (by walk_at "om") (by walk_at "om") (by walk_at "om") (by ktr_room) (by ktr_units) ?_); intro t'q h'q tk'q F'q N'q)) | ((with_reducible show wpAny _ _ (getMethod (Value.bytes _ _) _ _) _ _ _); (k_here; refine join_method ?_)) | (k_here; k_dflt ((with_reducible show wpAny _ _ (call (Value.ref 197) _) _ _ _); (refine' Mine.c_u8 (by k_asm) (by k_asm) (by k_asm) (by k_asm) (by k_asm) (by first | exact rfl | assumption) (by walk_at "om") (by walk_at "om") (by ktr_room) (by ktr_units) ?_); intro t'q h'q tk'q F'q N'q)) | (k_here; k_dflt ((with_reducible show wpAny _ _ (call (Value.ref 204) _) _ _ _); (refine' Mine.c_u16 (by k_asm) (by k_asm) (by k_asm) (by k_asm) (by k_asm) (by first | exact rfl | assumption) (by walk_at "om") (by walk_at "om") (by ktr_room) (by ktr_units) ?_); intro t'q h'q tk'q F'q N'q)) | ((with_reducible show @ite _ _ _ _ _); (with_reducible refine Mine.ite_ff ?_))) | walk1 | (dsimp only; first | walk1 | (first | ((with_reducible show wpAny _ _ (call (Value.ref 715) _) _ _ _); refine Halt.mk ?_) | (k_here; (with_reducible show wpAny _ _ (callWith _ (Value.ref 355) _ (backTo _ (starEach [] _)) []) _ _ _); k_dflt (refine' callWith_K0 (by exact Frag.In.keeps (by k_asm) (Fr.keep (by k_asm))) (by k_is) ?_; k_whole)) | ((with_reducible show ∀ (h : Heap) (tk : Nat), Fr _ _ h _ → News _ _ h _ → _); intro h'q tk'q F'q N'q) | ((with_reducible show Mine.JoinB _ _ _ _ _ _ _ _); (k_here; k_dflt (refine' JoinB.intro (by rfl) (by k_asm) (by k_asm)))) | (k_here; (with_reducible show wpAny _ _ (isTrue (Expr.BoolOp BoolOp.And [Expr.Compare _ [CmpOp.NotEq] _ _, Expr.Compare _ [CmpOp.Lt] _ _] _) _ _) _ _ _); k_dflt (refine' join_test false (by k_asm) (by k_asm) ?_ ?_); walk1) | (k_here; (with_reducible show wpAny _ _ (call (Value.builtin _) [Value.int _ _, Value.int _ _, Value.int _ _]) _ _ _); k_dflt (refine' min3 (by exact rfl) (by k_asm) (by k_asm) ?_); intro h'q tk'q F'q N'q) | (k_here; (with_reducible show wpAny _ _ (binaryOp Operator.Add (Value.bytes _ _) (Value.bytes _ _)) _ _ _); refine KBy.add_bytes (by (simp only [Array.size_append, List.size_toArray, oct1_size, oct2_size, oct4_size, byteArr_size, List.length_cons, List.length_nil]; walk_at "om")) ?_; intro t'q k'q) | (k_here; (with_reducible show wpAny _ _ (call (Value.builtin "len") [Value.bytes _ _]) _ _ _); (refine len_as (note_len _ _) (by decide) ?_)) | ((with_reducible show Mine.SrcT _ _ _ _ _ _ _ _ _ _ _ _ _ _); (k_here; k_dflt (refine Mine.SrcT.intro (by rfl) (by k_asm) (by k_asm) (by k_mem) (by first | size_fits | exact Nat.le_of_ble_eq_true rfl) ?_; intro g'q; lcg_lit))) | (k_here; (with_reducible show wpAny _ _ (eval (Expr.ListComp _ [⟨Expr.Name _ _, Expr.Subscript _ _ _, [], 0⟩] _ _) _) _ _ _); k_dflt (refine Mine.comp_tuple (F₀ := by k_asm) (by rfl) (by decide) (by rfl) (by decide) (by rfl) ?_)) | ((with_reducible show wpAny _ _ (call (Value.builtin "bytes.join") _ _) _ _ _); (k_here; k_dflt (first | (refine' join_none (by is_list) ?_; k_whole; intro t'q k'q)))) | (k_here; k_dflt ((with_reducible show wpAny _ _ (call (Value.ref 715) _) _ _ _); (refine' Mine.c_message (by k_asm) (by k_asm) (by k_asm) (by k_asm) (by k_asm) (by first | exact rfl | assumption) (by k_mem) (by exact Caps.mono (by assumption) (by intro p hp; repeat (first | exact hp | apply List.mem_cons_of_mem)); first | done | fail) (by walk_at "om") (by walk_at "om") (by walk_at "om") (by walk_at "om") (by walk_at "om") (by walk_at "om") (by walk_at "om") (by ktr_room) (by ktr_units) ?_); intro t'q h'q tk'q F'q N'q)) | ((with_reducible show wpAny _ _ (getMethod (Value.bytes _ _) _ _) _ _ _); (k_here; refine join_method ?_)) | (k_here; k_dflt ((with_reducible show wpAny _ _ (call (Value.ref 197) _) _ _ _); (refine' Mine.c_u8 (by k_asm) (by k_asm) (by k_asm) (by k_asm) (by k_asm) (by first | exact rfl | assumption) (by walk_at "om") (by walk_at "om") (by ktr_room) (by ktr_units) ?_); intro t'q h'q tk'q F'q N'q)) | (k_here; k_dflt ((with_reducible show wpAny _ _ (call (Value.ref 204) _) _ _ _); (refine' Mine.c_u16 (by k_asm) (by k_asm) (by k_asm) (by k_asm) (by k_asm) (by first | exact rfl | assumption) (by walk_at "om") (by walk_at "om") (by ktr_room) (by ktr_units) ?_); intro t'q h'q tk'q F'q N'q)) | ((with_reducible show @ite _ _ _ _ _); (with_reducible refine Mine.ite_ff ?_)))) | (leave1; try dsimp only) | wrow_closeG))
    refine Halt.go ?_
    rcases hsel with bad' | ⟨hz, n1, p1, o1⟩
    · clear hret
      (repeat' (first | (k_unfold; (try dsimp only)) | (lge_end; wrow_closeG) | (first | (k_here; (with_reducible show InitBack _ _ (Except.error _) _); dsimp only [InitBack]) | ((with_reducible show wpAny _ _ (leaving _ (Value.ref _)) _ _ _); walk_at "own0") | ((with_reducible show ∀ (h : Heap) (tk : Nat), Fr _ _ h _ → News _ _ h _ → _); intro h'q tk'q F'q N'q) | ((with_reducible show Mine.JoinB _ _ _ _ _ _ _ _); (k_here; k_dflt (refine' JoinB.intro (by rfl) (by k_asm) (by k_asm)))) | (k_here; (with_reducible show wpAny _ _ (isTrue (Expr.BoolOp BoolOp.And [Expr.Compare _ [CmpOp.NotEq] _ _, Expr.Compare _ [CmpOp.Lt] _ _] _) _ _) _ _ _); k_dflt (refine' join_test false (by k_asm) (by k_asm) ?_ ?_); walk1) | (k_here; (with_reducible show wpAny _ _ (call (Value.builtin _) [Value.int _ _, Value.int _ _, Value.int _ _]) _ _ _); k_dflt (refine' min3 (by exact rfl) (by k_asm) (by k_asm) ?_); intro h'q tk'q F'q N'q) | (k_here; (with_reducible show wpAny _ _ (binaryOp Operator.Add (Value.bytes _ _) (Value.bytes _ _)) _ _ _); refine KBy.add_bytes (by (simp only [Array.size_append, List.size_toArray, oct1_size, oct2_size, oct4_size, byteArr_size, List.length_cons, List.length_nil]; walk_at "om")) ?_; intro t'q k'q) | (k_here; (with_reducible show wpAny _ _ (call (Value.builtin "len") [Value.bytes _ _]) _ _ _); (refine len_as (note_len _ _) (by decide) ?_)) | ((with_reducible show Mine.SrcT _ _ _ _ _ _ _ _ _ _ _ _ _ _); (k_here; k_dflt (refine Mine.SrcT.intro (by rfl) (by k_asm) (by k_asm) (by k_mem) (by first | size_fits | exact Nat.le_of_ble_eq_true rfl) ?_; intro g'q; lcg_lit))) | (k_here; (with_reducible show wpAny _ _ (eval (Expr.ListComp _ [⟨Expr.Name _ _, Expr.Subscript _ _ _, [], 0⟩] _ _) _) _ _ _); k_dflt (refine Mine.comp_tuple (F₀ := by k_asm) (by rfl) (by decide) (by rfl) (by decide) (by rfl) ?_)) | ((with_reducible show wpAny _ _ (call (Value.builtin "bytes.join") _ _) _ _ _); (k_here; k_dflt (first | (refine' join_none (by is_list) ?_; k_whole; intro t'q k'q)))) | (k_here; k_dflt ((with_reducible show wpAny _ _ (call (Value.ref 715) _) _ _ _); (refine' Mine.c_message_bad (by k_asm) (by k_asm) (by k_asm) (by k_asm) (by k_asm) (by first | exact rfl | assumption) (by k_mem) (by exact Caps.mono (by assumption) (by intro p hp; repeat (first | exact hp | apply List.mem_cons_of_mem)); first | done | fail) (by walk_at "om") (by walk_at "om") (by walk_at "om") (by walk_at "om") (by ktr_room) (by ktr_units) ?_); intro e'q t'q vs'q g'q h'q tk'q F'q R'q U'q; (try dsimp only))) | ((with_reducible show wpAny _ _ (getMethod (Value.bytes _ _) _ _) _ _ _); (k_here; refine join_method ?_)) | (k_here; k_dflt ((with_reducible show wpAny _ _ (call (Value.ref 197) _) _ _ _); (refine' Mine.c_u8 (by k_asm) (by k_asm) (by k_asm) (by k_asm) (by k_asm) (by first | exact rfl | assumption) (by walk_at "om") (by walk_at "om") (by ktr_room) (by ktr_units) ?_); intro t'q h'q tk'q F'q N'q)) | (k_here; k_dflt ((with_reducible show wpAny _ _ (call (Value.ref 204) _) _ _ _); (refine' Mine.c_u16 (by k_asm) (by k_asm) (by k_asm) (by k_asm) (by k_asm) (by first | exact rfl | assumption) (by walk_at "om") (by walk_at "om") (by ktr_room) (by ktr_units) ?_); intro t'q h'q tk'q F'q N'q)) | ((with_reducible show @ite _ _ _ _ _); (with_reducible refine Mine.ite_ff ?_))) | walk1 | (dsimp only; first | walk1 | (first | (k_here; (with_reducible show InitBack _ _ (Except.error _) _); dsimp only [InitBack]) | ((with_reducible show wpAny _ _ (leaving _ (Value.ref _)) _ _ _); walk_at "own0") | ((with_reducible show ∀ (h : Heap) (tk : Nat), Fr _ _ h _ → News _ _ h _ → _); intro h'q tk'q F'q N'q) | ((with_reducible show Mine.JoinB _ _ _ _ _ _ _ _); (k_here; k_dflt (refine' JoinB.intro (by rfl) (by k_asm) (by k_asm)))) | (k_here; (with_reducible show wpAny _ _ (isTrue (Expr.BoolOp BoolOp.And [Expr.Compare _ [CmpOp.NotEq] _ _, Expr.Compare _ [CmpOp.Lt] _ _] _) _ _) _ _ _); k_dflt (refine' join_test false (by k_asm) (by k_asm) ?_ ?_); walk1) | (k_here; (with_reducible show wpAny _ _ (call (Value.builtin _) [Value.int _ _, Value.int _ _, Value.int _ _]) _ _ _); k_dflt (refine' min3 (by exact rfl) (by k_asm) (by k_asm) ?_); intro h'q tk'q F'q N'q) | (k_here; (with_reducible show wpAny _ _ (binaryOp Operator.Add (Value.bytes _ _) (Value.bytes _ _)) _ _ _); refine KBy.add_bytes (by (simp only [Array.size_append, List.size_toArray, oct1_size, oct2_size, oct4_size, byteArr_size, List.length_cons, List.length_nil]; walk_at "om")) ?_; intro t'q k'q) | (k_here; (with_reducible show wpAny _ _ (call (Value.builtin "len") [Value.bytes _ _]) _ _ _); (refine len_as (note_len _ _) (by decide) ?_)) | ((with_reducible show Mine.SrcT _ _ _ _ _ _ _ _ _ _ _ _ _ _); (k_here; k_dflt (refine Mine.SrcT.intro (by rfl) (by k_asm) (by k_asm) (by k_mem) (by first | size_fits | exact Nat.le_of_ble_eq_true rfl) ?_; intro g'q; lcg_lit))) | (k_here; (with_reducible show wpAny _ _ (eval (Expr.ListComp _ [⟨Expr.Name _ _, Expr.Subscript _ _ _, [], 0⟩] _ _) _) _ _ _); k_dflt (refine Mine.comp_tuple (F₀ := by k_asm) (by rfl) (by decide) (by rfl) (by decide) (by rfl) ?_)) | ((with_reducible show wpAny _ _ (call (Value.builtin "bytes.join") _ _) _ _ _); (k_here; k_dflt (first | (refine' join_none (by is_list) ?_; k_whole; intro t'q k'q)))) | (k_here; k_dflt ((with_reducible show wpAny _ _ (call (Value.ref 715) _) _ _ _); (refine' Mine.c_message_bad (by k_asm) (by k_asm) (by k_asm) (by k_asm) (by k_asm) (by first | exact rfl | assumption) (by k_mem) (by exact Caps.mono (by assumption) (by intro p hp; repeat (first | exact hp | apply List.mem_cons_of_mem)); first | done | fail) (by walk_at "om") (by walk_at "om") (by walk_at "om") (by walk_at "om") (by ktr_room) (by ktr_units) ?_); intro e'q t'q vs'q g'q h'q tk'q F'q R'q U'q; (try dsimp only))) | ((with_reducible show wpAny _ _ (getMethod (Value.bytes _ _) _ _) _ _ _); (k_here; refine join_method ?_)) | (k_here; k_dflt ((with_reducible show wpAny _ _ (call (Value.ref 197) _) _ _ _); (refine' Mine.c_u8 (by k_asm) (by k_asm) (by k_asm) (by k_asm) (by k_asm) (by first | exact rfl | assumption) (by walk_at "om") (by walk_at "om") (by ktr_room) (by ktr_units) ?_); intro t'q h'q tk'q F'q N'q)) | (k_here; k_dflt ((with_reducible show wpAny _ _ (call (Value.ref 204) _) _ _ _); (refine' Mine.c_u16 (by k_asm) (by k_asm) (by k_asm) (by k_asm) (by k_asm) (by first | exact rfl | assumption) (by walk_at "om") (by walk_at "om") (by ktr_room) (by ktr_units) ?_); intro t'q h'q tk'q F'q N'q)) | ((with_reducible show @ite _ _ _ _ _); (with_reducible refine Mine.ite_ff ?_)))) | (leave1; try dsimp only) | wrow_closeG))
      all_goals (refine' hbad (Or.inr bad') _ _ ?hF ?hN; (case hF => k_asm); (case hN => (first | k_asm | (refine' cb_drop ?N ?hs; (case N => assumption); (case hs => (intro p hp; repeat (first | exact hp | apply List.mem_cons_of_mem)))))))
    · clear hbad
      (repeat' (first | (k_unfold; (try dsimp only)) | (lge_end; wrow_closeG) | (first | (k_here; (with_reducible show wpAny _ _ (callWith _ (Value.ref 355) _ (backTo _ (starEach [] _)) []) _ _ _); k_dflt (refine' callWith_K0 (by exact Frag.In.keeps (by k_asm) (Fr.keep (by k_asm))) (by k_is) ?_; k_whole)) | ((with_reducible show ∀ (h : Heap) (tk : Nat), Fr _ _ h _ → News _ _ h _ → _); intro h'q tk'q F'q N'q) | ((with_reducible show Mine.JoinB _ _ _ _ _ _ _ _); (k_here; k_dflt (refine' JoinB.intro (by rfl) (by k_asm) (by k_asm)))) | (k_here; (with_reducible show wpAny _ _ (isTrue (Expr.BoolOp BoolOp.And [Expr.Compare _ [CmpOp.NotEq] _ _, Expr.Compare _ [CmpOp.Lt] _ _] _) _ _) _ _ _); k_dflt (refine' join_test false (by k_asm) (by k_asm) ?_ ?_); walk1) | (k_here; (with_reducible show wpAny _ _ (call (Value.builtin _) [Value.int _ _, Value.int _ _, Value.int _ _]) _ _ _); k_dflt (refine' min3 (by exact rfl) (by k_asm) (by k_asm) ?_); intro h'q tk'q F'q N'q) | (k_here; (with_reducible show wpAny _ _ (binaryOp Operator.Add (Value.bytes _ _) (Value.bytes _ _)) _ _ _); refine KBy.add_bytes (by (simp only [Array.size_append, List.size_toArray, oct1_size, oct2_size, oct4_size, byteArr_size, List.length_cons, List.length_nil]; walk_at "om")) ?_; intro t'q k'q) | (k_here; (with_reducible show wpAny _ _ (call (Value.builtin "len") [Value.bytes _ _]) _ _ _); (refine len_as (note_len _ _) (by decide) ?_)) | ((with_reducible show Mine.SrcT _ _ _ _ _ _ _ _ _ _ _ _ _ _); (k_here; k_dflt (refine Mine.SrcT.intro (by rfl) (by k_asm) (by k_asm) (by k_mem) (by first | size_fits | exact Nat.le_of_ble_eq_true rfl) ?_; intro g'q; lcg_lit))) | (k_here; (with_reducible show wpAny _ _ (eval (Expr.ListComp _ [⟨Expr.Name _ _, Expr.Subscript _ _ _, [], 0⟩] _ _) _) _ _ _); k_dflt (refine Mine.comp_tuple (F₀ := by k_asm) (by rfl) (by decide) (by rfl) (by decide) (by rfl) ?_)) | ((with_reducible show wpAny _ _ (call (Value.builtin "bytes.join") _ _) _ _ _); (k_here; k_dflt (first | (refine' join_none (by is_list) ?_; k_whole; intro t'q k'q)))) | (k_here; k_dflt ((with_reducible show wpAny _ _ (call (Value.ref 715) _) _ _ _); (refine' Mine.c_message (by k_asm) (by k_asm) (by k_asm) (by k_asm) (by k_asm) (by first | exact rfl | assumption) (by k_mem) (by exact Caps.mono (by assumption) (by intro p hp; repeat (first | exact hp | apply List.mem_cons_of_mem)); first | done | fail) (by walk_at "om") (by walk_at "om") (by walk_at "om") (by walk_at "om") (by walk_at "om") (by walk_at "om") (by walk_at "om") (by ktr_room) (by ktr_units) ?_); intro t'q h'q tk'q F'q N'q)) | ((with_reducible show wpAny _ _ (getMethod (Value.bytes _ _) _ _) _ _ _); (k_here; refine join_method ?_)) | (k_here; k_dflt ((with_reducible show wpAny _ _ (call (Value.ref 197) _) _ _ _); (refine' Mine.c_u8 (by k_asm) (by k_asm) (by k_asm) (by k_asm) (by k_asm) (by first | exact rfl | assumption) (by walk_at "om") (by walk_at "om") (by ktr_room) (by ktr_units) ?_); intro t'q h'q tk'q F'q N'q)) | (k_here; k_dflt ((with_reducible show wpAny _ _ (call (Value.ref 204) _) _ _ _); (refine' Mine.c_u16 (by k_asm) (by k_asm) (by k_asm) (by k_asm) (by k_asm) (by first | exact rfl | assumption) (by walk_at "om") (by walk_at "om") (by ktr_room) (by ktr_units) ?_); intro t'q h'q tk'q F'q N'q)) | ((with_reducible show @ite _ _ _ _ _); (with_reducible refine Mine.ite_ff ?_))) | walk1 | (dsimp only; first | walk1 | (first | (k_here; (with_reducible show wpAny _ _ (callWith _ (Value.ref 355) _ (backTo _ (starEach [] _)) []) _ _ _); k_dflt (refine' callWith_K0 (by exact Frag.In.keeps (by k_asm) (Fr.keep (by k_asm))) (by k_is) ?_; k_whole)) | ((with_reducible show ∀ (h : Heap) (tk : Nat), Fr _ _ h _ → News _ _ h _ → _); intro h'q tk'q F'q N'q) | ((with_reducible show Mine.JoinB _ _ _ _ _ _ _ _); (k_here; k_dflt (refine' JoinB.intro (by rfl) (by k_asm) (by k_asm)))) | (k_here; (with_reducible show wpAny _ _ (isTrue (Expr.BoolOp BoolOp.And [Expr.Compare _ [CmpOp.NotEq] _ _, Expr.Compare _ [CmpOp.Lt] _ _] _) _ _) _ _ _); k_dflt (refine' join_test false (by k_asm) (by k_asm) ?_ ?_); walk1) | (k_here; (with_reducible show wpAny _ _ (call (Value.builtin _) [Value.int _ _, Value.int _ _, Value.int _ _]) _ _ _); k_dflt (refine' min3 (by exact rfl) (by k_asm) (by k_asm) ?_); intro h'q tk'q F'q N'q) | (k_here; (with_reducible show wpAny _ _ (binaryOp Operator.Add (Value.bytes _ _) (Value.bytes _ _)) _ _ _); refine KBy.add_bytes (by (simp only [Array.size_append, List.size_toArray, oct1_size, oct2_size, oct4_size, byteArr_size, List.length_cons, List.length_nil]; walk_at "om")) ?_; intro t'q k'q) | (k_here; (with_reducible show wpAny _ _ (call (Value.builtin "len") [Value.bytes _ _]) _ _ _); (refine len_as (note_len _ _) (by decide) ?_)) | ((with_reducible show Mine.SrcT _ _ _ _ _ _ _ _ _ _ _ _ _ _); (k_here; k_dflt (refine Mine.SrcT.intro (by rfl) (by k_asm) (by k_asm) (by k_mem) (by first | size_fits | exact Nat.le_of_ble_eq_true rfl) ?_; intro g'q; lcg_lit))) | (k_here; (with_reducible show wpAny _ _ (eval (Expr.ListComp _ [⟨Expr.Name _ _, Expr.Subscript _ _ _, [], 0⟩] _ _) _) _ _ _); k_dflt (refine Mine.comp_tuple (F₀ := by k_asm) (by rfl) (by decide) (by rfl) (by decide) (by rfl) ?_)) | ((with_reducible show wpAny _ _ (call (Value.builtin "bytes.join") _ _) _ _ _); (k_here; k_dflt (first | (refine' join_none (by is_list) ?_; k_whole; intro t'q k'q)))) | (k_here; k_dflt ((with_reducible show wpAny _ _ (call (Value.ref 715) _) _ _ _); (refine' Mine.c_message (by k_asm) (by k_asm) (by k_asm) (by k_asm) (by k_asm) (by first | exact rfl | assumption) (by k_mem) (by exact Caps.mono (by assumption) (by intro p hp; repeat (first | exact hp | apply List.mem_cons_of_mem)); first | done | fail) (by walk_at "om") (by walk_at "om") (by walk_at "om") (by walk_at "om") (by walk_at "om") (by walk_at "om") (by walk_at "om") (by ktr_room) (by ktr_units) ?_); intro t'q h'q tk'q F'q N'q)) | ((with_reducible show wpAny _ _ (getMethod (Value.bytes _ _) _ _) _ _ _); (k_here; refine join_method ?_)) | (k_here; k_dflt ((with_reducible show wpAny _ _ (call (Value.ref 197) _) _ _ _); (refine' Mine.c_u8 (by k_asm) (by k_asm) (by k_asm) (by k_asm) (by k_asm) (by first | exact rfl | assumption) (by walk_at "om") (by walk_at "om") (by ktr_room) (by ktr_units) ?_); intro t'q h'q tk'q F'q N'q)) | (k_here; k_dflt ((with_reducible show wpAny _ _ (call (Value.ref 204) _) _ _ _); (refine' Mine.c_u16 (by k_asm) (by k_asm) (by k_asm) (by k_asm) (by k_asm) (by first | exact rfl | assumption) (by walk_at "om") (by walk_at "om") (by ktr_room) (by ktr_units) ?_); intro t'q h'q tk'q F'q N'q)) | ((with_reducible show @ite _ _ _ _ _); (with_reducible refine Mine.ite_ff ?_)))) | (leave1; try dsimp only) | wrow_closeG))
      all_goals (refine' hret ⟨p0, hz, n1, p1, o1⟩ _ _ _ _ _ _ _ _ _ _ _ _ _ _ _ _ _ _ _ _ _ _ _ _ _ _ _ _ _ _ _ _ ?q1 ?q2 ?q3 ?q4 ?q5 ?q6 ?q7 ?q8 ?q9 ?qa ?hF ?hN; (case hN => (refine' cb_drop ?N ?hs; (case N => assumption); (case hs => (repeat (first | (refine' List.forall_mem_cons.mpr ⟨?_, ?_⟩; (k_mem)) | (intro p hp; repeat (first | exact hp | apply List.mem_cons_of_mem))))))); (case hF => k_asm); (case q1 => (refine ltN ?_; first | (with_reducible assumption) | omega)); (case q2 => (refine ltN ?_; first | (with_reducible assumption) | omega)); (case q3 => (refine ltN ?_; first | (with_reducible assumption) | omega)); (case q4 => (refine ltN ?_; first | (with_reducible assumption) | omega)); (case q5 => (refine ltN ?_; first | (with_reducible assumption) | omega)); (case q6 => (refine ltN ?_; first | (with_reducible assumption) | omega)); (case q7 => (refine ltN ?_; first | (with_reducible assumption) | omega)); (case q8 => (refine ltN ?_; first | (with_reducible assumption) | omega)); (case q9 => assumption); (case qa => assumption))
theorem c_made_good {ga ca wa : Addr} {lot : Array UInt8} {n hold own : Int} {u : Fin 8 → Tok} {o : Obj}
    (B : Below A₀ base [] h₀) (F : Fr h₀ L s.heap m) (X : (hd.heap_1 w.params).In h₀) (N : News h₀ L s.heap ((ga, o) :: (wa, tupN [] 0) :: news)) (T : Top vw loose mean mg mb h₀) (XB : (hd.heap_1 w.params).In base) (TB : Top vw loose mean mg mb base) (hk : cs.kind = .function)
    (lo : (ga == sysModules) = false) (hd : o.IsDictOf (PySem.strKind PySem.Challenge.rw_rh0217_02.row.prog w) (cfg n own hold ca wa u))
    (hc : Caps ca ((ga, o) :: (wa, tupN [] 0) :: news) lot) (hz : lot.size ≤ 253) (n0 : 0 ≤ n) (n1 : n ≤ 65535) (p0 : hold = 0 ∨ 3 ≤ hold) (p1 : hold ≤ 65535) (o0 : 0 ≤ own) (o1 : own ≤ 4294967295)
    (hdp : dp + 120 < recursionLimit) (hun : un + 300 < cLine)
    (hret : ∀ (sa ds wi ti dt de wl ul tl : Addr) (ode : Obj) (k0 k1 k2 k3 k4 k5 k6 k7 k8 k9 k10 k11 k12 ko ks kl kx kh kt ke : Tok) (h' : Heap) (tk' : Nat),
      ga < ds → ds < sa → sa < dt → dt < ti → ti < de → de < wl → wl < ul → ul < tl →
      (de == sysModules) = false → ode.IsDictOf (PySem.strKind PySem.Challenge.rw_rh0217_02.row.prog w) [] →
      Fr h₀ L h' m → News h₀ L h' ((sa, instObj 482 ds) :: (ds, sessO w ga wi ti wl ul tl (wholeB n hold own lot) "idle" #[] #[] 0 0 k0 k1 k2 k3 k4 k5 k6 k7 k8 k9 k10 k11 k12 ko ks kl kx kh kt 13) :: (ti, instObj 355 dt) :: (dt, dictOf [⟨PyData.keyHash w.params (Str.ofString "ends"), .str (Str.ofString "ends") ke, .ref de⟩] 1) :: (de, ode) :: (wl, W.listOf #[] 0) :: (ul, W.listOf #[] 0) :: (tl, W.listOf #[] 0) :: (ga, o) :: news) → Q (.ref sa) { s with heap := h', toks := tk' }) :
    wpAny (model PySem.Challenge.rw_rh0217_02.row.prog w) (ktrTop dp un gd cn cs L a ccd [] []) (call (.ref 783) [.ref ga]) Q E s := by
  exact c_made_all B F X N T XB TB hk lo hd hc n0 (by omega) o0 (Or.inr ⟨p0, Or.inr ⟨hz, n1, p1, o1⟩⟩) hdp hun (fun hb => by have hb : (0 < hold ∧ hold < 3) ∨ 253 < lot.size ∨ 65535 < n ∨ 65535 < hold ∨ 4294967295 < own := hb; omega) (fun _ => hret)
end
local macro_rules | `(tactic| walk_at "own0") => `(tactic| ((with_reducible show wpAny _ _ (leaving _ (Value.ref _)) _ _ _); (k_here; first | (k_dflt (refine' leave_first ?K ?F ?N ?ne ?hf ?hk ?_; (case N | K | F | ne => assumption); (case hf | hk => exact rfl); k_whole); intro h'q S'q R'q U'q; (try dsimp only at S'q R'q U'q ⊢)) | (k_dflt (refine' leave_onS ?k1 ?k2 ?k3 ?k4 ?_; (case k3 | k2 | k1 | k4 => assumption); k_whole); intro h'q S'q R'q U'q; (try dsimp only at S'q R'q U'q ⊢)))))
section
variable {vw : Program} {w : World} {loose : List Str} {mean : ExcName → Option Value} {mg mb : Str → Option Value} {dp un : Nat} {gd : Option (List Code)} {cn : Str} {cs : Scope} {a : Addr} {ccd : Value} {A₀ : Around} {base h₀ : Heap} {L : Addr} {m : Str → Option Value} {s : Shared} {Q : Value → Shared → Prop} {E : Value → Shared → Prop} {news : List (Addr × Obj)}

theorem c_made_bad1 {ga ca wa : Addr} {lot : Array UInt8} {n hold own : Int} {u : Fin 8 → Tok} {o : Obj}
    (B : Below A₀ base [] h₀) (F : Fr h₀ L s.heap m) (X : (hd.heap_1 w.params).In h₀) (N : News h₀ L s.heap ((ga, o) :: (wa, tupN [] 0) :: news)) (T : Top vw loose mean mg mb h₀) (XB : (hd.heap_1 w.params).In base) (TB : Top vw loose mean mg mb base) (hk : cs.kind = .function)
    (lo : (ga == sysModules) = false) (hd : o.IsDictOf (PySem.strKind PySem.Challenge.rw_rh0217_02.row.prog w) (cfg n own hold ca wa u))
    (hc : Caps ca ((ga, o) :: (wa, tupN [] 0) :: news) lot) (n0 : 0 ≤ n) (p0 : 0 ≤ hold) (o0 : 0 ≤ own)
    (p2 : 0 < hold) (p3 : hold < 3)
    (hdp : dp + 120 < recursionLimit) (hun : un + 300 < cLine)
    (hret : ∀ (h' : Heap) (tk' : Nat), Fr h₀ L h' m → News h₀ L h' ((ga, o) :: (wa, tupN [] 0) :: news) → Q .none { s with heap := h', toks := tk' }) :
    wpAny (model PySem.Challenge.rw_rh0217_02.row.prog w) (ktrTop dp un gd cn cs L a ccd [] []) (call (.ref 783) [.ref ga]) Q E s := by
  exact c_made_all B F X N T XB TB hk lo hd hc n0 p0 o0 (Or.inl ⟨p2, p3⟩) hdp hun (fun _ => hret) (fun hg => by have hg : (hold = 0 ∨ 3 ≤ hold) ∧ lot.size ≤ 253 ∧ n ≤ 65535 ∧ hold ≤ 65535 ∧ own ≤ 4294967295 := hg; omega)
end
section
variable {vw : Program} {w : World} {loose : List Str} {mean : ExcName → Option Value} {mg mb : Str → Option Value} {dp un : Nat} {gd : Option (List Code)} {cn : Str} {cs : Scope} {a : Addr} {ccd : Value} {A₀ : Around} {base h₀ : Heap} {L : Addr} {m : Str → Option Value} {s : Shared} {Q : Value → Shared → Prop} {E : Value → Shared → Prop} {news : List (Addr × Obj)}

theorem c_made_bad2 {ga ca wa : Addr} {lot : Array UInt8} {n hold own : Int} {u : Fin 8 → Tok} {o : Obj}
    (B : Below A₀ base [] h₀) (F : Fr h₀ L s.heap m) (X : (hd.heap_1 w.params).In h₀) (N : News h₀ L s.heap ((ga, o) :: (wa, tupN [] 0) :: news)) (T : Top vw loose mean mg mb h₀) (XB : (hd.heap_1 w.params).In base) (TB : Top vw loose mean mg mb base) (hk : cs.kind = .function)
    (lo : (ga == sysModules) = false) (hd : o.IsDictOf (PySem.strKind PySem.Challenge.rw_rh0217_02.row.prog w) (cfg n own hold ca wa u))
    (hc : Caps ca ((ga, o) :: (wa, tupN [] 0) :: news) lot) (n0 : 0 ≤ n) (p0 : 0 ≤ hold) (o0 : 0 ≤ own)
    (p2 : hold = 0 ∨ 3 ≤ hold) (bad' : 253 < lot.size ∨ 65535 < n ∨ 65535 < hold ∨ 4294967295 < own)
    (hdp : dp + 120 < recursionLimit) (hun : un + 300 < cLine)
    (hret : ∀ (h' : Heap) (tk' : Nat), Fr h₀ L h' m → News h₀ L h' ((ga, o) :: (wa, tupN [] 0) :: news) → Q .none { s with heap := h', toks := tk' }) :
    wpAny (model PySem.Challenge.rw_rh0217_02.row.prog w) (ktrTop dp un gd cn cs L a ccd [] []) (call (.ref 783) [.ref ga]) Q E s := by
  exact c_made_all B F X N T XB TB hk lo hd hc n0 p0 o0 (Or.inr ⟨p2, Or.inl bad'⟩) hdp hun (fun _ => hret) (fun hg => by have hg : (hold = 0 ∨ 3 ≤ hold) ∧ lot.size ≤ 253 ∧ n ≤ 65535 ∧ hold ≤ 65535 ∧ own ≤ 4294967295 := hg; omega)
end
end
end Mine
end
section
namespace Mine
noncomputable section
/-- the sizes that the law picks from: at most two, each up to 252 -/
def Sz (its : Array Value) : Prop := its.size ≤ 2 ∧ ∀ (i : Nat) v, its[i]? = some v → ∃ z t, v = .int z t ∧ 0 ≤ z ∧ z ≤ 252
theorem Sz.nil : Sz #[] := ⟨by decide, fun i v h => by simp at h⟩
theorem Sz.one {z : Int} {t : Tok} (h : 0 ≤ z ∧ z ≤ 252) : Sz #[.int z t] := ⟨Nat.le_of_ble_eq_true rfl, fun i v e => by
  match i, e with
  | 0, e => exact ⟨z, t, (Option.some.inj e).symm, h.1, h.2⟩⟩
theorem Sz.two {z z' : Int} {t t' : Tok} (h : 0 ≤ z ∧ z ≤ 252) (h' : 0 ≤ z' ∧ z' ≤ 252) : Sz #[.int z t, .int z' t'] := ⟨Nat.le_of_ble_eq_true rfl, fun i v e => by
  match i, e with
  | 0, e => exact ⟨z, t, (Option.some.inj e).symm, h.1, h.2⟩
  | 1, e => exact ⟨z', t', (Option.some.inj e).symm, h'.1, h'.2⟩⟩
def SzP (led : List (Addr × Obj)) (v : Value) : Prop := ∃ a its k, v = .ref a ∧ (a, ({ cls := .type "tuple", data := .seq its k } : Obj)) ∈ led ∧ Sz its
def CapG (i : Nat) (y : Value) (nw : List (Addr × Obj)) : Prop := ∃ a t1 t2 b k, y = .ref a ∧ nw = [(a, capO (64 + (i : Int)) t1 b t2 k)] ∧ b.size ≤ 253
theorem gath_len {G : Nat → Value → List (Addr × Obj) → Prop} : ∀ {n : Nat} {ys : List Value} {nw : List (Addr × Obj)}, Gath G n ys nw → ys.length = n
  | 0, _, _, h => by rw [h.1]; rfl
  | n + 1, _, _, h => by
    obtain ⟨ys', y, n', nw', rfl, -, g, -⟩ := h
    rw [List.length_append, gath_len g]; rfl
theorem gath_caps {n : Nat} {ys : List Value} {outs : List (Addr × Obj)} {ca : Addr} {k : Nat} (hn : n ≤ 2) (g : Gath CapG n ys outs) {rest : List (Addr × Obj)} (hm : (ca, tupN ys k) ∈ rest) (hs : ∀ p ∈ outs, p ∈ rest) : ∃ lot, Caps ca rest lot := by
  have hh : n = 0 ∨ n = 1 ∨ n = 2 := by omega
  rcases hh with rfl | rfl | rfl
  · rw [g.1] at hm
    exact ⟨_, Caps.none hm⟩
  · obtain ⟨ys', y, n', nw', rfl, rfl, ⟨rfl, rfl⟩, a, t1, t2, b, k1, rfl, rfl, hb⟩ := g
    rw [List.nil_append] at hm
    have h1 := hs (a, capO (64 + ((0 : Nat) : Int)) t1 b t2 k1) (by simp)
    exact ⟨_, Caps.one hm h1 (by omega) (by omega) hb⟩
  · obtain ⟨ys', y, n', nw', rfl, rfl, ⟨ys₂, y₂, n₂, nw₂, rfl, rfl, ⟨rfl, rfl⟩, a₂, s1, s2, b₂, k2, rfl, rfl, hb₂⟩, a, t1, t2, b, k1, rfl, rfl, hb⟩ := g
    rw [List.nil_append, List.singleton_append] at hm
    have h2 := hs (a₂, capO (64 + ((0 : Nat) : Int)) s1 b₂ s2 k2) (by simp)
    have h1 := hs (a, capO (64 + ((0 + 1 : Nat) : Int)) t1 b t2 k1) (by simp)
    exact ⟨_, Caps.two hm h2 h1 (by omega) (by omega) hb₂ (by omega) (by omega) hb⟩
section
variable {prog : Program} {w : World} {A : Around} {E : Value → Shared → Prop} {s : Shared} {h₀ : Heap} {L : Addr} {m : Str → Option Value} {news : List (Addr × Obj)}
theorem item_sizes {value slice : PySem.Expr} {l : Addr} {vs : List Value} {k : Int} {u : Tok} {Q : Value → Shared → Prop} (N : News h₀ L s.heap news) (hl : s.heap.IsList l vs.toArray) (h0 : 0 ≤ k) (h1 : k < vs.length) (hz : vs.length ≤ 100) (hP : ∀ v ∈ vs, SzP news v)
    (h : ∀ a its n, News h₀ L s.heap ((a, ({ cls := .type "tuple", data := .seq its n } : Obj)) :: news) → Sz its → Q (.ref a) s)
    (hs : subscripted slice false (.ref l) (.int k u) = operate [.ref l, .int k u] (getItem (.ref l) (.int k u)) := by with_unfolding_all rfl) :
    wpAny (model prog w) A (subscriptTail value slice (.ref l) (.int k u)) Q E s :=
  item_of hl h0 h1 hz hP (fun v hv => by
    obtain ⟨a, its, n, rfl, hm, z⟩ := hv
    exact h a its n (fun p hp => by
      rcases List.mem_cons.mp hp with rfl | hp
      · exact N _ hm
      · exact N _ hp) z) hs
theorem in_rep {c : Int} (h0 : 0 ≤ c) (h1 : c < 256) (k : Nat) : KBa.In (List.replicate k [c]).flatten := by
  rw [krep_flat]
  intro n hn
  rw [List.eq_of_mem_replicate hn]
  exact ⟨h0, h1⟩
theorem rep_size (c z : Int) (h0 : 0 ≤ z) (h1 : z ≤ 252) : (byteArr (List.replicate z.toNat [c]).flatten).size ≤ 253 := by
  rw [byteArr_size, KM.len_rep, List.length_singleton]
  omega
theorem srcE_caps {env : Env} {elt : Expr} {x x₂ : Str} {scope : Scope} {cl : List (Str × Addr)} {Q : Value → Shared → Prop} {e it ax : Addr} {its : Array Value} {k : Nat}
    (hh : A.handled = none) (F : Fr h₀ L s.heap m) (N : News h₀ L s.heap ((e, enumO it 0 .none) :: (it, titO ax 0) :: news)) (hm : (ax, ({ cls := .type "tuple", data := .seq its k } : Obj)) ∈ news) (off : ∀ p ∈ news, p.1 ∉ [e, it]) (ne : e ≠ it) (hz : Sz its)
    (T : ∀ (i : Nat) z t t', i < 2 → 0 ≤ z → z ≤ 252 → ∀ C oC m₂ h tk led (E' : Value → Shared → Prop), LCg.NsObj oC m₂ → m₂ x = some (.int i t) → m₂ x₂ = some (.int z t') → Fr h₀ L h m → News h₀ L h ((C, oC) :: led) → (∀ p ∈ news, p ∈ led) →
      wpAny (model prog w) A (eval elt (compEnvC scope cl C env)) (TurnEnd h₀ L m s C oC led (CapG i)) E' { s with heap := h, toks := tk })
    (R : ∀ D ys outs h tk, Fr h₀ L h m → News h₀ L h ((D, LCg.lst ys) :: (outs ++ news)) → Gath CapG its.size ys outs → its.size ≤ 2 → Q (.ref D) { s with heap := h, toks := tk }) :
    SrcE prog w A h₀ L m env elt x x₂ scope cl Q (.ref e) s := by
  refine SrcE.intro CapG hh F N hm off ne (Nat.le_trans hz.1 (by decide)) (fun i v t hv => ?_) (fun D ys outs h tk F' N' G' => R D ys outs h tk F' N' G' hz.1)
  obtain ⟨z, t', rfl, z0, z1⟩ := hz.2 i v hv
  have hi : i < its.size := (Array.getElem?_eq_some_iff.mp hv).1
  exact T i z t t' (Nat.lt_of_lt_of_le hi hz.1) z0 z1
theorem TurnEnd.one {C a : Addr} {oC : Obj} {led all : List (Addr × Obj)} {h' : Heap} {tk' : Nat} {i : Nat} {t1 t2 : Tok} {b : Array UInt8} {k : Nat} (F : Fr h₀ L h' m) (N : News h₀ L h' all) (m1 : (a, capO (64 + (i : Int)) t1 b t2 k) ∈ all) (m2 : (C, oC) ∈ all) (m3 : ∀ p ∈ led, p ∈ all) (hb : b.size ≤ 253) :
    TurnEnd h₀ L m s C oC led (CapG i) (.ref a) { s with heap := h', toks := tk' } := by
  refine TurnEnd.intro [(a, capO (64 + (i : Int)) t1 b t2 k)] F (fun p hp => N p ?_) (fun p hp => ?_) ⟨a, t1, t2, b, k, rfl, rfl, hb⟩
  · rcases List.mem_cons.mp hp with rfl | hp
    · exact m1
    · rcases List.mem_cons.mp hp with rfl | hp
      · exact m2
      · exact m3 p hp
  · rw [List.mem_singleton.mp hp]
    exact ⟨_, _, rfl, rfl⟩
theorem caps_tuple {D : Addr} {ys : List Value} {outs : List (Addr × Obj)} {n : Nat} {Q : Value → Shared → Prop} (F : Fr h₀ L s.heap m) (N : News h₀ L s.heap ((D, LCg.lst ys) :: (outs ++ news))) (G : Gath CapG n ys outs) (hn : n ≤ 2)
    (h : ∀ ca lot h' rest, Fr h₀ L h' m → News h₀ L h' rest → Caps ca rest lot → Q (.ref ca) { s with heap := h' }) : wpAny (model prog w) A (call (.type "tuple") [.ref D]) Q E s := by
  have hl : s.heap.IsList D ys.toArray := ⟨_, (N _ List.mem_cons_self).1, rfl, _, rfl⟩
  refine kde_tupleOf (zs := ys) F N hl (by rw [List.size_toArray, gath_len G]; omega) rfl fun ca h' F' N' _ => ?_
  obtain ⟨lot, hc⟩ := gath_caps (ca := ca) hn G (rest := (ca, ({ cls := .type "tuple", data := .seq ys.toArray } : Obj)) :: (D, LCg.lst ys) :: (outs ++ news)) List.mem_cons_self (fun p hp => List.mem_cons_of_mem _ (List.mem_cons_of_mem _ (List.mem_append_left _ hp)))
  exact h ca lot h' _ F' N' hc
end
end
end Mine
end
section
namespace Mine
noncomputable section
/-- a list of none, one, two bytes; what they come to, joined -/
def JoinL (ys : List Value) (lot : Array UInt8) : Prop :=
  (ys = [] ∧ lot = #[]) ∨ (∃ b t, ys = [.bytes b t] ∧ lot = b) ∨ ∃ b c t t', ys = [.bytes b t, .bytes c t'] ∧ lot = b ++ c ∧ b.size + c.size ≤ 16777216
def LotG (code : Int) (b : Array UInt8) (y : Value) (nw : List (Addr × Obj)) : Prop := nw = [] ∧ ∃ t, y = .bytes (capB code b) t
section
variable {prog : Program} {w : World} {A : Around} {E : Value → Shared → Prop} {s : Shared} {h₀ : Heap} {L : Addr} {m : Str → Option Value} {news : List (Addr × Obj)}
theorem join_lot {D : Addr} {ys : List Value} {lot : Array UInt8} {t : Tok} {Q : Value → Shared → Prop} (N : News h₀ L s.heap news) (hm : (D, LCg.lst ys) ∈ news) (J : JoinL ys lot) (h : ∀ t' k, Q (.bytes lot t') { s with toks := k }) :
    wpAny (model prog w) A (call (.builtin "bytes.join") [.bytes #[] t, .ref D]) Q E s := by
  have hl : s.heap.IsList D ys.toArray := ⟨_, (N _ hm).1, rfl, _, rfl⟩
  rcases J with ⟨rfl, rfl⟩ | ⟨b, tb, rfl, rfl⟩ | ⟨b, c, tb, tc, rfl, rfl, hz⟩
  · exact join_none hl h
  · exact join_one hl (h tb s.toks)
  · exact join_two hl hz h
theorem srcP_caps {env : Env} {elt : Expr} {x x₂ : Str} {scope : Scope} {cl : List (Str × Addr)} {Q : Value → Shared → Prop} {ca : Addr} {lot : Array UInt8}
    (hh : A.handled = none) (F : Fr h₀ L s.heap m) (N : News h₀ L s.heap news) (hc : Caps ca news lot)
    (T : ∀ code tc b tb, 0 ≤ code → code ≤ 255 → b.size ≤ 253 → ∀ g C oC m₂ h tk led (E' : Value → Shared → Prop), LCg.NsObj oC m₂ → m₂ x = some (.int code tc) → m₂ x₂ = some (.bytes b tb) → Fr h₀ L h m → News h₀ L h ((C, oC) :: led) → (∀ p ∈ news, p ∈ led) →
      wpAny (model prog w) A (eval elt (compEnvC scope cl C env)) (TurnEnd h₀ L m { s with heap := g } C oC led (LotG code b)) E' { s with heap := h, toks := tk })
    (R : ∀ D ys h tk, Fr h₀ L h m → News h₀ L h ((D, LCg.lst ys) :: news) → JoinL ys lot → Q (.ref D) { s with heap := h, toks := tk }) :
    SrcP prog w A h₀ L m env elt x x₂ scope cl Q (.ref ca) s := by
  cases hc with
  | none hm =>
    refine ⟨ca, _, _, news, fun _ => 0, fun _ => .none, fun _ => .none, fun _ _ _ => False, rfl, hh, F, N, hm, fun j hj => absurd hj (Nat.not_lt_zero _), Nat.zero_le _, ?_⟩
    rintro _ ⟨g, rfl⟩
    refine ⟨fun j hj => absurd hj (Nat.not_lt_zero _), fun D ys outs h tk F' N' G => ?_⟩
    obtain ⟨rfl, rfl⟩ : ys = [] ∧ outs = [] := G
    exact R D [] h tk F' N' (.inl ⟨rfl, rfl⟩)
  | @one c1 code tc tb b n n1 hm h1 a0 a1 z =>
    refine ⟨ca, #[.ref c1], n, news, fun _ => c1, fun _ => .int code tc, fun _ => .bytes b tb, fun _ => LotG code b, rfl, hh, F, N, hm, fun j hj => ?_, Nat.le_of_ble_eq_true rfl, ?_⟩
    · obtain rfl : j = 0 := Nat.lt_one_iff.mp hj
      exact ⟨rfl, n1, h1⟩
    rintro _ ⟨g, rfl⟩
    refine ⟨fun j hj => T code tc b tb a0 a1 z g, fun D ys outs h tk F' N' G => ?_⟩
    obtain ⟨ys', y, n', nw', rfl, rfl, ⟨rfl, rfl⟩, rfl, t, rfl⟩ : Gath (fun _ => LotG code b) 1 ys outs := G
    exact R D _ h tk F' N' (.inr (.inl ⟨_, t, rfl, rfl⟩))
  | @two c1 c2 code code' tc tb tc' tb' b b' n n1 n2 hm h1 h2 a0 a1 z b0 b1 z' =>
    refine ⟨ca, #[.ref c1, .ref c2], n, news, fun j => if j = 0 then c1 else c2, fun j => if j = 0 then .int code tc else .int code' tc', fun j => if j = 0 then .bytes b tb else .bytes b' tb', fun j => if j = 0 then LotG code b else LotG code' b', rfl, hh, F, N, hm, fun j hj => ?_, Nat.le_of_ble_eq_true rfl, ?_⟩
    · have : j = 0 ∨ j = 1 := by have : j < 2 := hj; omega
      rcases this with rfl | rfl
      · exact ⟨rfl, n1, h1⟩
      · exact ⟨rfl, n2, h2⟩
    rintro _ ⟨g, rfl⟩
    refine ⟨fun j hj => ?_, fun D ys outs h tk F' N' G => ?_⟩
    · have : j = 0 ∨ j = 1 := by have : j < 2 := hj; omega
      rcases this with rfl | rfl
      · exact T code tc b tb a0 a1 z g
      · exact T code' tc' b' tb' b0 b1 z' g
    · obtain ⟨ys', y, n', nw', rfl, rfl, ⟨ys₂, y₂, n₂, nw₂, rfl, rfl, ⟨rfl, rfl⟩, rfl, t₂, rfl⟩, rfl, t, rfl⟩ : Gath (fun j => if j = 0 then LotG code b else LotG code' b') 2 ys outs := G
      exact R D _ h tk F' N' (.inr (.inr ⟨_, _, t₂, t, rfl, rfl, by simp only [capB_size]; omega⟩))
theorem TurnEnd.lot {C : Addr} {oC : Obj} {led all : List (Addr × Obj)} {h' : Heap} {tk' : Nat} {code : Int} {b r : Array UInt8} {t : Tok} (F : Fr h₀ L h' m) (N : News h₀ L h' all) (m2 : (C, oC) ∈ all) (m3 : ∀ p ∈ led, p ∈ all) (e : r = capB code b) :
    TurnEnd h₀ L m s C oC led (LotG code b) (.bytes r t) { s with heap := h', toks := tk' } := by
  subst e
  refine TurnEnd.intro [] F (fun p hp => N p ?_) (fun p hp => nomatch hp) ⟨rfl, t, rfl⟩
  rcases List.mem_cons.mp hp with rfl | hp
  · exact m2
  · exact m3 p hp
end
end
end Mine
end
section
namespace Mine
noncomputable section
section
variable {vw : Program} {w : World} {loose : List Str} {mean : ExcName → Option Value} {mg mb : Str → Option Value} {dp un : Nat} {gd : Option (List Code)} {cn : Str} {cs : Scope} {a : Addr} {ccd : Value} {A₀ : Around} {base h₀ : Heap} {L : Addr} {m : Str → Option Value} {s : Shared} {Q : Value → Shared → Prop} {E : Value → Shared → Prop} {news : List (Addr × Obj)}
def toks8 (u0 u1 u2 u3 u4 u5 u6 u7 : Tok) (i : Fin 8) : Tok := [u0, u1, u2, u3, u4, u5, u6, u7].getD i.val 0
theorem c_made_bad {ga ca wa : Addr} {lot : Array UInt8} {n hold own : Int} {u0 u1 u2 u3 u4 u5 u6 u7 : Tok} {o : Obj}
    (B : Below A₀ base [] h₀) (F : Fr h₀ L s.heap m) (X : (hd.heap_1 w.params).In h₀) (N : News h₀ L s.heap ((wa, tupN [] 0) :: (ga, o) :: news)) (T : Top vw loose mean mg mb h₀) (XB : (hd.heap_1 w.params).In base) (TB : Top vw loose mean mg mb base) (hk : cs.kind = .function)
    (lo : (ga == sysModules) = false)
    (hd : o.IsDictOf (PySem.strKind PySem.Challenge.rw_rh0217_02.row.prog w) [("as", .int n u0), ("id", .int own u1), ("hold", .int hold u2), ("caps", .ref ca), ("retry", .int 20 u3), ("delay", .int 0 u4), ("large_hold", .int 240 u5), ("idle_hold", .int 60 u6), ("without_open", .bool false), ("damp", .bool false), ("peer_as", .int 7 u7), ("is_internal", .bool false), ("is_confed", .bool false), ("wanted_caps", .ref wa)])
    (hc : Caps ca news lot) (n0 : 0 ≤ n) (p0 : 0 ≤ hold) (o0 : 0 ≤ own)
    (bad : (0 < hold ∧ hold < 3) ∨ 253 < lot.size ∨ 65535 < n ∨ 65535 < hold ∨ 4294967295 < own)
    (hdp : dp + 120 < recursionLimit) (hun : un + 300 < cLine)
    (hret : ∀ (h' : Heap) (tk' : Nat), Fr h₀ L h' m → News h₀ L h' ((wa, tupN [] 0) :: (ga, o) :: news) → Q .none { s with heap := h', toks := tk' }) :
    wpAny (model PySem.Challenge.rw_rh0217_02.row.prog w) (ktrTop dp un gd cn cs L a ccd [] []) (call (.ref 783) [.ref ga]) Q E s := by
  have sw : ∀ {x y : Addr × Obj} {l : List (Addr × Obj)}, ∀ p ∈ x :: y :: l, p ∈ y :: x :: l := fun p hp => by
    rcases List.mem_cons.mp hp with rfl | hp
    · exact List.mem_cons_of_mem _ List.mem_cons_self
    · rcases List.mem_cons.mp hp with rfl | hp
      · exact List.mem_cons_self
      · exact List.mem_cons_of_mem _ (List.mem_cons_of_mem _ hp)
  have N' := cb_drop N sw
  have hc' : Caps ca ((ga, o) :: (wa, tupN [] 0) :: news) lot := Caps.mono hc fun p hp => List.mem_cons_of_mem _ (List.mem_cons_of_mem _ hp)
  have hd' : o.IsDictOf (PySem.strKind PySem.Challenge.rw_rh0217_02.row.prog w) (cfg n own hold ca wa (toks8 u0 u1 u2 u3 u4 u5 u6 u7)) := hd
  by_cases p1 : 0 < hold ∧ hold < 3
  · exact c_made_bad1 B F X N' T XB TB hk lo hd' hc' n0 p0 o0 p1.1 p1.2 hdp hun fun h' tk' F' N' => hret h' tk' F' (cb_drop N' sw)
  · exact c_made_bad2 B F X N' T XB TB hk lo hd' hc' n0 p0 o0 (by omega) (by omega) hdp hun fun h' tk' F' N' => hret h' tk' F' (cb_drop N' sw)
end
end
end Mine
end
section
namespace Mine
noncomputable section
section
variable {vw : Program} {w : World} {loose : List Str} {mean : ExcName → Option Value} {mg mb : Str → Option Value} {dp un : Nat} {gd : Option (List Code)} {cn : Str} {cs : Scope} {a : Addr} {ccd : Value} {A₀ : Around} {base h₀ : Heap} {L : Addr} {m : Str → Option Value} {s : Shared} {Q : Value → Shared → Prop} {E : Value → Shared → Prop} {news : List (Addr × Obj)}
theorem c_made_ok {ga ca wa : Addr} {lot : Array UInt8} {n hold own : Int} {u0 u1 u2 u3 u4 u5 u6 u7 : Tok} {o : Obj}
    (B : Below A₀ base [] h₀) (F : Fr h₀ L s.heap m) (X : (hd.heap_1 w.params).In h₀) (N : News h₀ L s.heap ((wa, tupN [] 0) :: (ga, o) :: news)) (T : Top vw loose mean mg mb h₀) (XB : (hd.heap_1 w.params).In base) (TB : Top vw loose mean mg mb base) (hk : cs.kind = .function)
    (lo : (ga == sysModules) = false)
    (hd : o.IsDictOf (PySem.strKind PySem.Challenge.rw_rh0217_02.row.prog w) [("as", .int n u0), ("id", .int own u1), ("hold", .int hold u2), ("caps", .ref ca), ("retry", .int 20 u3), ("delay", .int 0 u4), ("large_hold", .int 240 u5), ("idle_hold", .int 60 u6), ("without_open", .bool false), ("damp", .bool false), ("peer_as", .int 7 u7), ("is_internal", .bool false), ("is_confed", .bool false), ("wanted_caps", .ref wa)])
    (hc : Caps ca news lot) (n0 : 0 ≤ n) (p0 : 0 ≤ hold) (o0 : 0 ≤ own)
    (good : ¬ ((0 < hold ∧ hold < 3) ∨ 253 < lot.size ∨ 65535 < n ∨ 65535 < hold ∨ 4294967295 < own))
    (hdp : dp + 120 < recursionLimit) (hun : un + 300 < cLine)
    (hret : ∀ (sa ds wi ti dt de wl ul tl : Addr) (ode : Obj) (k0 k1 k2 k3 k4 k5 k6 k7 k8 k9 k10 k11 k12 ko ks kl kx kh kt ke : Tok) (h' : Heap) (tk' : Nat),
      ga < ds → ds < sa → sa < dt → dt < ti → ti < de → de < wl → wl < ul → ul < tl →
      (de == sysModules) = false → ode.IsDictOf (PySem.strKind PySem.Challenge.rw_rh0217_02.row.prog w) [] →
      Fr h₀ L h' m → News h₀ L h' ((sa, instObj 482 ds) :: (ds, sessO w ga wi ti wl ul tl (wholeB n hold own lot) "idle" #[] #[] 0 0 k0 k1 k2 k3 k4 k5 k6 k7 k8 k9 k10 k11 k12 ko ks kl kx kh kt 13) :: (ti, instObj 355 dt) :: (dt, dictOf [⟨PyData.keyHash w.params (Str.ofString "ends"), .str (Str.ofString "ends") ke, .ref de⟩] 1) :: (de, ode) :: (wl, W.listOf #[] 0) :: (ul, W.listOf #[] 0) :: (tl, W.listOf #[] 0) :: (ga, o) :: news) → Q (.ref sa) { s with heap := h', toks := tk' }) :
    wpAny (model PySem.Challenge.rw_rh0217_02.row.prog w) (ktrTop dp un gd cn cs L a ccd [] []) (call (.ref 783) [.ref ga]) Q E s := by
  have sw : ∀ {x y : Addr × Obj} {l : List (Addr × Obj)}, ∀ p ∈ x :: y :: l, p ∈ y :: x :: l := fun p hp => by
    rcases List.mem_cons.mp hp with rfl | hp
    · exact List.mem_cons_of_mem _ List.mem_cons_self
    · rcases List.mem_cons.mp hp with rfl | hp
      · exact List.mem_cons_self
      · exact List.mem_cons_of_mem _ (List.mem_cons_of_mem _ hp)
  have N' := cb_drop N sw
  have hc' : Caps ca ((ga, o) :: (wa, tupN [] 0) :: news) lot := Caps.mono hc fun p hp => List.mem_cons_of_mem _ (List.mem_cons_of_mem _ hp)
  have hd' : o.IsDictOf (PySem.strKind PySem.Challenge.rw_rh0217_02.row.prog w) (cfg n own hold ca wa (toks8 u0 u1 u2 u3 u4 u5 u6 u7)) := hd
  exact c_made_good B F X N' T XB TB hk lo hd' hc' (by omega) n0 (by omega) (by omega) (by omega) o0 (by omega) hdp hun hret
end
end
end Mine
end
section
namespace Mine
noncomputable section
abbrev factL (kh : Tok) (fa : Addr) : List (Str × Value) := [("delay_open", .bool false), ("delay_running", .bool false), ("without_open", .bool false), ("damp", .bool false), ("hold", .int 0 kh), ("fault", .ref fa)]
theorem allLt_mem {d : Nat} : ∀ {l : List (Addr × Obj)}, AllLt d l → ∀ p ∈ l, p.1 < d
  | [], _, _, h => nomatch h
  | _ :: _, x, p, h => by
    rcases List.mem_cons.mp h with rfl | h
    · exact x.1
    · exact allLt_mem x.2 p h
theorem ite_no {p : Prop} [Decidable p] {P Q : Prop} (h : ¬ p) (hq : Q) : (if decide p = true then P else Q) := by
  rw [if_neg (by simpa using h)]
  exact hq
section
variable {vw : Program} {w : World} {loose : List Str} {mean : ExcName → Option Value} {mg mb : Str → Option Value} {dp un : Nat} {gd : Option (List Code)} {cn : Str} {cs : Scope} {a : Addr} {ccd : Value} {cl : List (Str × Addr)} {outer : List Env} {A₀ : Around} {base h₀ : Heap} {L : Addr} {m : Str → Option Value} {s : Shared} {Q : Value → Shared → Prop} {E : Value → Shared → Prop} {news : List (Addr × Obj)}
set_option maxRecDepth 100000 in
set_option maxHeartbeats 0 in
theorem f_facts {sa ds ga wi ti dt de wl ul tl fa ca wa : Addr} {ode o : Obj} {opening left out : Array UInt8} {state : String} {n own hold tries : Int} {u0 u1 u2 u3 u4 u5 u6 u7 k0 k1 k2 k3 k4 k5 k6 k7 k8 k9 k10 k11 k12 ko ks kl kx kh kt ke : Tok} {es : List (Str × Value)}
    (B : Below A₀ base outer h₀) (F : Fr h₀ L s.heap m) (X : (hd.heap_1 w.params).In h₀) (N : News h₀ L s.heap ((sa, instObj 482 ds) :: (ds, sessO w ga wi ti wl ul tl opening state left out 0 tries k0 k1 k2 k3 k4 k5 k6 k7 k8 k9 k10 k11 k12 ko ks kl kx kh kt 13) :: (ti, instObj 355 dt) :: (dt, endsO w de ke) :: (de, ode) :: (ga, o) :: news)) (T : Top vw loose mean mg mb h₀) (hk : cs.kind = .function)
    (lo : (ga == sysModules) = false) (lod : (de == sysModules) = false) (hd : o.IsDictOf (PySem.strKind PySem.Challenge.rw_rh0217_02.row.prog w) (cfgL n own hold ca wa u0 u1 u2 u3 u4 u5 u6 u7)) (hde : ode.IsDictOf (PySem.strKind PySem.Challenge.rw_rh0217_02.row.prog w) es) (hl : valueAt es ("delay" : Str) = none)
    (hdp : dp + 40 < recursionLimit) (hun : un + 120 < cLine)
    (hret : ∀ (fd : Addr) (od : Obj) (h' : Heap) (tk' : Nat), (∀ p ∈ (sa, instObj 482 ds) :: (ds, sessO w ga wi ti wl ul tl opening state left out 0 tries k0 k1 k2 k3 k4 k5 k6 k7 k8 k9 k10 k11 k12 ko ks kl kx kh kt 13) :: (ti, instObj 355 dt) :: (dt, endsO w de ke) :: (de, ode) :: (ga, o) :: news, p.1 < fd) → (fd == sysModules) = false → od.IsDictOf (PySem.strKind PySem.Challenge.rw_rh0217_02.row.prog w) (factL kh fa) → Fr h₀ L h' m → News h₀ L h' ((fd, od) :: (sa, instObj 482 ds) :: (ds, sessO w ga wi ti wl ul tl opening state left out 0 tries k0 k1 k2 k3 k4 k5 k6 k7 k8 k9 k10 k11 k12 ko ks kl kx kh kt 13) :: (ti, instObj 355 dt) :: (dt, endsO w de ke) :: (de, ode) :: (ga, o) :: news) → Q (.ref fd) { s with heap := h', toks := tk' }) :
    wpAny (model PySem.Challenge.rw_rh0217_02.row.prog w) (ktrTop dp un gd cn cs L a ccd cl outer) (call (.ref 388) [.ref sa, .ref fa]) Q E s := by
  refine wpAny_call ?_
  k_dflt cell_enter
  (repeat' (first | (k_unfold; (try dsimp only)) | (k_end; kc_close) | (first | (k_here; k_dflt ((with_reducible show wpAny _ _ (call (Value.ref 333) _) _ _ _); (refine' Mine.c_runs (by k_asm) (by k_asm) (by k_asm) (by k_asm) (by k_asm) (by first | exact rfl | assumption) (by k_mem) (by k_mem) (by k_mem) (by assumption) (by assumption) (by assumption) (by ktr_room) (by ktr_units) ?_); intro h'q tk'q F'q N'q))) | walk1 | (dsimp only; first | walk1 | (first | (k_here; k_dflt ((with_reducible show wpAny _ _ (call (Value.ref 333) _) _ _ _); (refine' Mine.c_runs (by k_asm) (by k_asm) (by k_asm) (by k_asm) (by k_asm) (by first | exact rfl | assumption) (by k_mem) (by k_mem) (by k_mem) (by assumption) (by assumption) (by assumption) (by ktr_room) (by ktr_units) ?_); intro h'q tk'q F'q N'q)))) | (leave1; try dsimp only)))
  all_goals (refine' hret _ _ _ _ ?p0 ?p1 ?p2  ?hF ?hN; (case hN => first | k_asm | (refine' cb_drop ?N0 ?hs0; (case N0 => assumption); (case hs0 => (repeat (first | exact List.forall_mem_nil _ | (refine' List.forall_mem_cons.mpr ⟨?_, ?_⟩; (k_mem)) | (intro p hp; repeat (first | exact hp | apply List.mem_cons_of_mem))))))); (case hF => k_asm); (case p0 => first | assumption | (repeat (first | (with_reducible assumption) | exact List.forall_mem_nil _ | exact allLt_mem (by with_reducible assumption) | refine List.forall_mem_cons.mpr ⟨by (first | with_reducible assumption | (dsimp only; with_reducible assumption)), ?_⟩))); (case p1 => first | assumption | (refine ltN ?_; first | (with_reducible assumption) | omega)); (case p2 => first | assumption | (refine ltN ?_; first | (with_reducible assumption) | omega)))
theorem c_facts {sa ds ga wi ti dt de wl ul tl fa ca wa : Addr} {ode o : Obj} {opening left out : Array UInt8} {state : String} {n own hold tries : Int} {u0 u1 u2 u3 u4 u5 u6 u7 k0 k1 k2 k3 k4 k5 k6 k7 k8 k9 k10 k11 k12 ko ks kl kx kh kt ke : Tok} {es : List (Str × Value)}
    (B : Below A₀ base outer h₀) (F : Fr h₀ L s.heap m) (X : (hd.heap_1 w.params).In h₀) (N : News h₀ L s.heap news) (T : Top vw loose mean mg mb h₀) (hk : cs.kind = .function)
    (m1 : (sa, instObj 482 ds) ∈ news) (m2 : (ds, sessO w ga wi ti wl ul tl opening state left out 0 tries k0 k1 k2 k3 k4 k5 k6 k7 k8 k9 k10 k11 k12 ko ks kl kx kh kt 13) ∈ news) (m3 : (ti, instObj 355 dt) ∈ news) (m4 : (dt, endsO w de ke) ∈ news) (m5 : (de, ode) ∈ news) (m6 : (ga, o) ∈ news) (lo : (ga == sysModules) = false) (lod : (de == sysModules) = false) (hd : o.IsDictOf (PySem.strKind PySem.Challenge.rw_rh0217_02.row.prog w) (cfgL n own hold ca wa u0 u1 u2 u3 u4 u5 u6 u7)) (hde : ode.IsDictOf (PySem.strKind PySem.Challenge.rw_rh0217_02.row.prog w) es) (hl : valueAt es ("delay" : Str) = none)
    (hdp : dp + 40 < recursionLimit) (hun : un + 120 < cLine)
    (hret : ∀ (fd : Addr) (od : Obj) (h' : Heap) (tk' : Nat), (∀ p ∈ news, p.1 < fd) → (fd == sysModules) = false → od.IsDictOf (PySem.strKind PySem.Challenge.rw_rh0217_02.row.prog w) (factL kh fa) → Fr h₀ L h' m → News h₀ L h' ((fd, od) :: news) → Q (.ref fd) { s with heap := h', toks := tk' }) :
    wpAny (model PySem.Challenge.rw_rh0217_02.row.prog w) (ktrTop dp un gd cn cs L a ccd cl outer) (call (.ref 388) [.ref sa, .ref fa]) Q E s :=
  f_facts B F X (cb_drop N (memc m1 m2 (memc m3 m4 (fun p hp => by rcases List.mem_cons.mp hp with rfl | hp; exact m5; rcases List.mem_cons.mp hp with rfl | hp; exact m6; exact hp)))) T hk lo lod hd hde hl hdp hun fun fd od h' tk' l1 lo' hd' F' N' => hret fd od h' tk' (fun p hp => l1 p (List.mem_cons_of_mem _ (List.mem_cons_of_mem _ (List.mem_cons_of_mem _ (List.mem_cons_of_mem _ (List.mem_cons_of_mem _ (List.mem_cons_of_mem _ hp))))))) lo' hd' F' (cb_drop N' fun p hp => by rcases List.mem_cons.mp hp with rfl | hp; exact List.mem_cons_self; exact List.mem_cons_of_mem _ (List.mem_cons_of_mem _ (List.mem_cons_of_mem _ (List.mem_cons_of_mem _ (List.mem_cons_of_mem _ (List.mem_cons_of_mem _ (List.mem_cons_of_mem _ hp)))))))
set_option maxRecDepth 100000 in
set_option maxHeartbeats 0 in
theorem c_next1 {fd : Addr} {ks t1 : Tok}
    (B : Below A₀ base outer h₀) (F : Fr h₀ L s.heap m) (X : (hd.heap_1 w.params).In h₀) (N : News h₀ L s.heap (news)) (T : Top vw loose mean mg mb h₀) (hk : cs.kind = .function)
    
    (hdp : dp + 60 < recursionLimit) (hun : un + 160 < cLine)
    (hret : ∀ (c1 c2 c3 c4 D1 D : Addr) (q0 q1 q2 q3 q4 q5 q6 : Tok) (h' : Heap) (tk' : Nat), (∀ p ∈ news, p.1 < c1) → c1 < c2 → c2 < c3 → c3 < c4 → c4 < D1 → D1 < D → Fr h₀ L h' m → News h₀ L h' ((D, tupN [.str (Str.ofString "connect") q0, .ref D1] 0) :: (D1, tupN [.ref c1, .ref c2, .ref c3, .ref c4] 0) :: (c1, tupN [.str (Str.ofString "count") q1, .str (Str.ofString "none") q2] 0) :: (c2, tupN [.str (Str.ofString "set") q3, .str (Str.ofString "retry") q4] 0) :: (c3, tupN [.str (Str.ofString "connect") q5] 0) :: (c4, tupN [.str (Str.ofString "listen") q6] 0) :: news) → Q (.ref D) { s with heap := h', toks := tk' }) :
    wpAny (model PySem.Challenge.rw_rh0217_02.row.prog w) (ktrTop dp un gd cn cs L a ccd cl outer) (call (.ref 134) [.str (Str.ofString "idle") ks, .str (Str.ofString "start") t1, .ref fd]) Q E s := by
  refine wpAny_call ?_
  k_dflt cell_enter
  (repeat' (first | (k_unfold; (try dsimp only)) | (k_end; kc_close) | (first | (k_here; (with_reducible show wpAny _ _ (compareOp CmpOp.In (Value.str _ _) (Value.ref _)) _ _ _); first | (with_unfolding_all refine' in_top_strs true (by first | exact kun_topT (by k_asm) (by k_asm) (by k_is) | exact News.isTup (by k_asm) (by k_mem)) (by kde_strs) (by decide) ?_; k_whole) | (with_unfolding_all refine' in_top_strs false (by first | exact kun_topT (by k_asm) (by k_asm) (by k_is) | exact News.isTup (by k_asm) (by k_mem)) (by kde_strs) (by decide) ?_; k_whole))) | walk1 | (dsimp only; first | walk1 | (first | (k_here; (with_reducible show wpAny _ _ (compareOp CmpOp.In (Value.str _ _) (Value.ref _)) _ _ _); first | (with_unfolding_all refine' in_top_strs true (by first | exact kun_topT (by k_asm) (by k_asm) (by k_is) | exact News.isTup (by k_asm) (by k_mem)) (by kde_strs) (by decide) ?_; k_whole) | (with_unfolding_all refine' in_top_strs false (by first | exact kun_topT (by k_asm) (by k_asm) (by k_is) | exact News.isTup (by k_asm) (by k_mem)) (by kde_strs) (by decide) ?_; k_whole)))) | (leave1; try dsimp only)))
  all_goals (refine' hret _ _ _ _ _ _ _ _ _ _ _ _ _ _ _ ?p0 ?p1 ?p2 ?p3 ?p4 ?p5  ?hF ?hN; (case hN => first | k_asm | (refine' cb_drop ?N0 ?hs0; (case N0 => assumption); (case hs0 => (repeat (first | exact List.forall_mem_nil _ | (refine' List.forall_mem_cons.mpr ⟨?_, ?_⟩; (k_mem)) | (intro p hp; repeat (first | exact hp | apply List.mem_cons_of_mem))))))); (case hF => k_asm); (case p0 => first | assumption | (repeat (first | (with_reducible assumption) | exact List.forall_mem_nil _ | exact allLt_mem (by with_reducible assumption) | refine List.forall_mem_cons.mpr ⟨by (first | with_reducible assumption | (dsimp only; with_reducible assumption)), ?_⟩))); (case p1 => first | assumption | (refine ltN ?_; first | (with_reducible assumption) | omega)); (case p2 => first | assumption | (refine ltN ?_; first | (with_reducible assumption) | omega)); (case p3 => first | assumption | (refine ltN ?_; first | (with_reducible assumption) | omega)); (case p4 => first | assumption | (refine ltN ?_; first | (with_reducible assumption) | omega)); (case p5 => first | assumption | (refine ltN ?_; first | (with_reducible assumption) | omega)))
set_option maxRecDepth 100000 in
set_option maxHeartbeats 0 in
theorem c_next2 {fd fa : Addr} {od : Obj} {ks kh t1 : Tok}
    (B : Below A₀ base outer h₀) (F : Fr h₀ L s.heap m) (X : (hd.heap_1 w.params).In h₀) (N : News h₀ L s.heap ((fd, od) :: news)) (T : Top vw loose mean mg mb h₀) (hk : cs.kind = .function)
    (hd : od.IsDictOf (PySem.strKind PySem.Challenge.rw_rh0217_02.row.prog w) (factL kh fa))
    (hdp : dp + 60 < recursionLimit) (hun : un + 160 < cLine)
    (hret : ∀ (c1 c2 c3 c4 D1 D : Addr) (q0 q1 q2 q3 q4 q5 q6 q7 q8 : Tok) (h' : Heap) (tk' : Nat), (∀ p ∈ (fd, od) :: news, p.1 < c1) → c1 < c2 → c2 < c3 → c3 < c4 → c4 < D1 → D1 < D → Fr h₀ L h' m → News h₀ L h' ((D, tupN [.str (Str.ofString "open_sent") q0, .ref D1] 0) :: (D1, tupN [.ref c1, .ref c2, .ref c3, .ref c4] 0) :: (c1, tupN [.str (Str.ofString "clear") q1, .str (Str.ofString "retry") q2] 0) :: (c2, tupN [.str (Str.ofString "clear") q3, .str (Str.ofString "delay") q4] 0) :: (c3, tupN [.str (Str.ofString "send") q5, .str (Str.ofString "open") q6] 0) :: (c4, tupN [.str (Str.ofString "set") q7, .str (Str.ofString "hold_large") q8] 0) :: (fd, od) :: news) → Q (.ref D) { s with heap := h', toks := tk' }) :
    wpAny (model PySem.Challenge.rw_rh0217_02.row.prog w) (ktrTop dp un gd cn cs L a ccd cl outer) (call (.ref 134) [.str (Str.ofString "connect") ks, .str (Str.ofString "connected") t1, .ref fd]) Q E s := by
  refine wpAny_call ?_
  k_dflt cell_enter
  (repeat' (first | (k_unfold; (try dsimp only)) | (k_end; kc_close) | (first | (k_here; (with_reducible show wpAny _ _ (compareOp CmpOp.In (Value.str _ _) (Value.ref _)) _ _ _); first | (with_unfolding_all refine' in_top_strs true (by first | exact kun_topT (by k_asm) (by k_asm) (by k_is) | exact News.isTup (by k_asm) (by k_mem)) (by kde_strs) (by decide) ?_; k_whole) | (with_unfolding_all refine' in_top_strs false (by first | exact kun_topT (by k_asm) (by k_asm) (by k_is) | exact News.isTup (by k_asm) (by k_mem)) (by kde_strs) (by decide) ?_; k_whole)) | ((with_reducible show @ite _ _ _ _ _); (with_reducible refine Mine.ite_ff ?_))) | walk1 | (dsimp only; first | walk1 | (first | (k_here; (with_reducible show wpAny _ _ (compareOp CmpOp.In (Value.str _ _) (Value.ref _)) _ _ _); first | (with_unfolding_all refine' in_top_strs true (by first | exact kun_topT (by k_asm) (by k_asm) (by k_is) | exact News.isTup (by k_asm) (by k_mem)) (by kde_strs) (by decide) ?_; k_whole) | (with_unfolding_all refine' in_top_strs false (by first | exact kun_topT (by k_asm) (by k_asm) (by k_is) | exact News.isTup (by k_asm) (by k_mem)) (by kde_strs) (by decide) ?_; k_whole)) | ((with_reducible show @ite _ _ _ _ _); (with_reducible refine Mine.ite_ff ?_)))) | (leave1; try dsimp only)))
  all_goals (refine' hret _ _ _ _ _ _ _ _ _ _ _ _ _ _ _ _ _ ?p0 ?p1 ?p2 ?p3 ?p4 ?p5  ?hF ?hN; (case hN => first | k_asm | (refine' cb_drop ?N0 ?hs0; (case N0 => assumption); (case hs0 => (repeat (first | exact List.forall_mem_nil _ | (refine' List.forall_mem_cons.mpr ⟨?_, ?_⟩; (k_mem)) | (intro p hp; repeat (first | exact hp | apply List.mem_cons_of_mem))))))); (case hF => k_asm); (case p0 => first | assumption | (repeat (first | (with_reducible assumption) | exact List.forall_mem_nil _ | exact allLt_mem (by with_reducible assumption) | refine List.forall_mem_cons.mpr ⟨by (first | with_reducible assumption | (dsimp only; with_reducible assumption)), ?_⟩))); (case p1 => first | assumption | (refine ltN ?_; first | (with_reducible assumption) | omega)); (case p2 => first | assumption | (refine ltN ?_; first | (with_reducible assumption) | omega)); (case p3 => first | assumption | (refine ltN ?_; first | (with_reducible assumption) | omega)); (case p4 => first | assumption | (refine ltN ?_; first | (with_reducible assumption) | omega)); (case p5 => first | assumption | (refine ltN ?_; first | (with_reducible assumption) | omega)))
end
end
end Mine
end
section
namespace Mine
local macro_rules | `(tactic| k_all) => `(tactic| assumption)
noncomputable section
theorem mem1 {α : Type} {a : α} {l l' : List α} (ha : a ∈ l') (h : ∀ p ∈ l, p ∈ l') : ∀ p ∈ a :: l, p ∈ l' := List.forall_mem_cons.mpr ⟨ha, h⟩
section
variable {vw : Program} {w : World} {loose : List Str} {mean : ExcName → Option Value} {mg mb : Str → Option Value} {dp un : Nat} {gd : Option (List Code)} {cn : Str} {cs : Scope} {a : Addr} {ccd : Value} {cl : List (Str × Addr)} {outer : List Env} {A₀ : Around} {base h₀ : Heap} {L : Addr} {m : Str → Option Value} {s : Shared} {Q : Value → Shared → Prop} {E : Value → Shared → Prop} {news : List (Addr × Obj)}
set_option maxRecDepth 100000 in
set_option maxHeartbeats 0 in
theorem f_act_count {sa ds ga wi ti wl ul tl ai : Addr} {opening left out : Array UInt8} {state : String} {tries : Int} {k0 k1 k2 k3 k4 k5 k6 k7 k8 k9 k10 k11 k12 ko ks kl kx kh kt t1 q1 q2 : Tok} 
    (B : Below A₀ base outer h₀) (F : Fr h₀ L s.heap m) (X : (hd.heap_1 w.params).In h₀) (N : News h₀ L s.heap ((sa, instObj 482 ds) :: (ai, tupN [.str (Str.ofString "count") q1, .str (Str.ofString "none") q2] 0) :: (ds, sessO w ga wi ti wl ul tl opening state left out 0 tries k0 k1 k2 k3 k4 k5 k6 k7 k8 k9 k10 k11 k12 ko ks kl kx kh kt 13) :: news)) (T : Top vw loose mean mg mb h₀) (hk : cs.kind = .function)
    (l2 : ds < sa) (l8 : ds < ai) (hne : ∀ p ∈ news, p.1 ≠ ds) 
    (hdp : dp + 30 < recursionLimit) (hun : un + 100 < cLine)
    (hret : ∀ (kt' : Tok) (h' : Heap) (tk' : Nat), Fr h₀ L h' m → News h₀ L h' ((sa, instObj 482 ds) :: (ai, tupN [.str (Str.ofString "count") q1, .str (Str.ofString "none") q2] 0) :: (ds, sessO w ga wi ti wl ul tl opening state left out 0 0 k0 k1 k2 k3 k4 k5 k6 k7 k8 k9 k10 k11 k12 ko ks kl kx kh kt' 13) :: news) → Q .none { s with heap := h', toks := tk' }) :
    wpAny (model PySem.Challenge.rw_rh0217_02.row.prog w) (ktrTop dp un gd cn cs L a ccd cl outer) (call (.ref 402) [.ref sa, .ref ai, .int 0 t1]) Q E s := by
  k_lt2 l2
  k_lt2 l8
  refine wpAny_call ?_
  k_dflt cell_enter
  (repeat' (first | (k_unfold; (try dsimp only)) | (k_end; kc_close) | (first | (k_here; (with_reducible show wpAny _ _ (compareOp CmpOp.In (Value.str _ _) (Value.ref _)) _ _ _); first | (with_unfolding_all refine' in_top_strs true (by first | exact kun_topT (by k_asm) (by k_asm) (by k_is) | exact News.isTup (by k_asm) (by k_mem)) (by kde_strs) (by decide) ?_; k_whole) | (with_unfolding_all refine' in_top_strs false (by first | exact kun_topT (by k_asm) (by k_asm) (by k_is) | exact News.isTup (by k_asm) (by k_mem)) (by kde_strs) (by decide) ?_; k_whole)) | ((with_reducible show @ite _ _ _ _ _); (with_reducible refine Mine.ite_ff ?_))) | walk1 | (dsimp only; first | walk1 | (first | (k_here; (with_reducible show wpAny _ _ (compareOp CmpOp.In (Value.str _ _) (Value.ref _)) _ _ _); first | (with_unfolding_all refine' in_top_strs true (by first | exact kun_topT (by k_asm) (by k_asm) (by k_is) | exact News.isTup (by k_asm) (by k_mem)) (by kde_strs) (by decide) ?_; k_whole) | (with_unfolding_all refine' in_top_strs false (by first | exact kun_topT (by k_asm) (by k_asm) (by k_is) | exact News.isTup (by k_asm) (by k_mem)) (by kde_strs) (by decide) ?_; k_whole)) | ((with_reducible show @ite _ _ _ _ _); (with_reducible refine Mine.ite_ff ?_)))) | (leave1; try dsimp only)))
  all_goals (refine' hret _ _ _  ?hF ?hN; (case hN => first | k_asm | (refine' cb_drop ?N0 ?hs0; (case N0 => assumption); (case hs0 => (repeat (first | exact List.forall_mem_nil _ | (refine' List.forall_mem_cons.mpr ⟨?_, ?_⟩; (k_mem)) | (intro p hp; repeat (first | exact hp | apply List.mem_cons_of_mem))))))); (case hF => k_asm))
theorem c_act_count {g : Obj → List (Addr × Obj)} {sa ds ga wi ti wl ul tl ai : Addr} {opening left out : Array UInt8} {state : String} {tries : Int} {k0 k1 k2 k3 k4 k5 k6 k7 k8 k9 k10 k11 k12 ko ks kl kx kh kt t1 q1 q2 : Tok} 
    (B : Below A₀ base outer h₀) (F : Fr h₀ L s.heap m) (X : (hd.heap_1 w.params).In h₀) (N : News h₀ L s.heap news) (T : Top vw loose mean mg mb h₀) (hk : cs.kind = .function)
    (m1 : (sa, instObj 482 ds) ∈ news) (m2 : (ai, tupN [.str (Str.ofString "count") q1, .str (Str.ofString "none") q2] 0) ∈ news) (U : UpdF ds (sessO w ga wi ti wl ul tl opening state left out 0 tries k0 k1 k2 k3 k4 k5 k6 k7 k8 k9 k10 k11 k12 ko ks kl kx kh kt 13) news g) (l2 : ds < sa) (l8 : ds < ai) 
    (hdp : dp + 30 < recursionLimit) (hun : un + 100 < cLine)
    (hret : ∀ (kt' : Tok) (h' : Heap) (tk' : Nat), Fr h₀ L h' m → News h₀ L h' (g (sessO w ga wi ti wl ul tl opening state left out 0 0 k0 k1 k2 k3 k4 k5 k6 k7 k8 k9 k10 k11 k12 ko ks kl kx kh kt' 13)) → Q .none { s with heap := h', toks := tk' }) :
    wpAny (model PySem.Challenge.rw_rh0217_02.row.prog w) (ktrTop dp un gd cn cs L a ccd cl outer) (call (.ref 402) [.ref sa, .ref ai, .int 0 t1]) Q E s := by
  obtain ⟨rest, i1, i2, i3⟩ := upd_front U
  exact f_act_count B F X (cb_drop N (mem1 m1 (mem1 m2 i1))) T hk l2 l8 i2  hdp hun fun kt' h' tk' F' N' => hret kt' h' tk' F' (cb_drop N' fun p hp => (List.mem_cons_of_mem _ (List.mem_cons_of_mem _ (i3 _ p hp))))
set_option maxRecDepth 100000 in
set_option maxHeartbeats 0 in
theorem f_act_send {sa ds ga wi ti wl ul tl ai : Addr} {opening left out : Array UInt8} {state : String} {tries : Int} {k0 k1 k2 k3 k4 k5 k6 k7 k8 k9 k10 k11 k12 ko ks kl kx kh kt t1 q1 q2 : Tok} 
    (B : Below A₀ base outer h₀) (F : Fr h₀ L s.heap m) (X : (hd.heap_1 w.params).In h₀) (N : News h₀ L s.heap ((sa, instObj 482 ds) :: (ai, tupN [.str (Str.ofString "send") q1, .str (Str.ofString "open") q2] 0) :: (ds, sessO w ga wi ti wl ul tl opening state left out 0 tries k0 k1 k2 k3 k4 k5 k6 k7 k8 k9 k10 k11 k12 ko ks kl kx kh kt 13) :: news)) (T : Top vw loose mean mg mb h₀) (hk : cs.kind = .function)
    (l2 : ds < sa) (l8 : ds < ai) (hne : ∀ p ∈ news, p.1 ≠ ds) (hz : out.size + opening.size ≤ 8192) 
    (hdp : dp + 30 < recursionLimit) (hun : un + 100 < cLine)
    (hret : ∀ (kx' : Tok) (h' : Heap) (tk' : Nat), Fr h₀ L h' m → News h₀ L h' ((sa, instObj 482 ds) :: (ai, tupN [.str (Str.ofString "send") q1, .str (Str.ofString "open") q2] 0) :: (ds, sessO w ga wi ti wl ul tl opening state left (out ++ opening) 0 tries k0 k1 k2 k3 k4 k5 k6 k7 k8 k9 k10 k11 k12 ko ks kl kx' kh kt 13) :: news) → Q .none { s with heap := h', toks := tk' }) :
    wpAny (model PySem.Challenge.rw_rh0217_02.row.prog w) (ktrTop dp un gd cn cs L a ccd cl outer) (call (.ref 402) [.ref sa, .ref ai, .int 0 t1]) Q E s := by
  k_lt2 l2
  k_lt2 l8
  refine wpAny_call ?_
  k_dflt cell_enter
  (repeat' (first | (k_unfold; (try dsimp only)) | (k_end; kc_close) | (first | (k_here; (with_reducible show wpAny _ _ (binaryOp Operator.Add (Value.bytes _ _) (Value.bytes _ _)) _ _ _); refine KBy.add_bytes (by first | walk_at "om" | (simp only [Array.size_append, List.size_toArray, List.length_nil]; walk_at "om")) ?_; intro t'q k'q) | (k_here; (with_reducible show wpAny _ _ (compareOp CmpOp.In (Value.str _ _) (Value.ref _)) _ _ _); first | (with_unfolding_all refine' in_top_strs true (by first | exact kun_topT (by k_asm) (by k_asm) (by k_is) | exact News.isTup (by k_asm) (by k_mem)) (by kde_strs) (by decide) ?_; k_whole) | (with_unfolding_all refine' in_top_strs false (by first | exact kun_topT (by k_asm) (by k_asm) (by k_is) | exact News.isTup (by k_asm) (by k_mem)) (by kde_strs) (by decide) ?_; k_whole)) | ((with_reducible show @ite _ _ _ _ _); (with_reducible refine Mine.ite_ff ?_))) | walk1 | (dsimp only; first | walk1 | (first | (k_here; (with_reducible show wpAny _ _ (binaryOp Operator.Add (Value.bytes _ _) (Value.bytes _ _)) _ _ _); refine KBy.add_bytes (by first | walk_at "om" | (simp only [Array.size_append, List.size_toArray, List.length_nil]; walk_at "om")) ?_; intro t'q k'q) | (k_here; (with_reducible show wpAny _ _ (compareOp CmpOp.In (Value.str _ _) (Value.ref _)) _ _ _); first | (with_unfolding_all refine' in_top_strs true (by first | exact kun_topT (by k_asm) (by k_asm) (by k_is) | exact News.isTup (by k_asm) (by k_mem)) (by kde_strs) (by decide) ?_; k_whole) | (with_unfolding_all refine' in_top_strs false (by first | exact kun_topT (by k_asm) (by k_asm) (by k_is) | exact News.isTup (by k_asm) (by k_mem)) (by kde_strs) (by decide) ?_; k_whole)) | ((with_reducible show @ite _ _ _ _ _); (with_reducible refine Mine.ite_ff ?_)))) | (leave1; try dsimp only)))
  all_goals (refine' hret _ _ _  ?hF ?hN; (case hN => first | k_asm | (refine' cb_drop ?N0 ?hs0; (case N0 => assumption); (case hs0 => (repeat (first | exact List.forall_mem_nil _ | (refine' List.forall_mem_cons.mpr ⟨?_, ?_⟩; (k_mem)) | (intro p hp; repeat (first | exact hp | apply List.mem_cons_of_mem))))))); (case hF => k_asm))
theorem c_act_send {g : Obj → List (Addr × Obj)} {sa ds ga wi ti wl ul tl ai : Addr} {opening left out : Array UInt8} {state : String} {tries : Int} {k0 k1 k2 k3 k4 k5 k6 k7 k8 k9 k10 k11 k12 ko ks kl kx kh kt t1 q1 q2 : Tok} 
    (B : Below A₀ base outer h₀) (F : Fr h₀ L s.heap m) (X : (hd.heap_1 w.params).In h₀) (N : News h₀ L s.heap news) (T : Top vw loose mean mg mb h₀) (hk : cs.kind = .function)
    (m1 : (sa, instObj 482 ds) ∈ news) (m2 : (ai, tupN [.str (Str.ofString "send") q1, .str (Str.ofString "open") q2] 0) ∈ news) (U : UpdF ds (sessO w ga wi ti wl ul tl opening state left out 0 tries k0 k1 k2 k3 k4 k5 k6 k7 k8 k9 k10 k11 k12 ko ks kl kx kh kt 13) news g) (l2 : ds < sa) (l8 : ds < ai) (hz : out.size + opening.size ≤ 8192) 
    (hdp : dp + 30 < recursionLimit) (hun : un + 100 < cLine)
    (hret : ∀ (kx' : Tok) (h' : Heap) (tk' : Nat), Fr h₀ L h' m → News h₀ L h' (g (sessO w ga wi ti wl ul tl opening state left (out ++ opening) 0 tries k0 k1 k2 k3 k4 k5 k6 k7 k8 k9 k10 k11 k12 ko ks kl kx' kh kt 13)) → Q .none { s with heap := h', toks := tk' }) :
    wpAny (model PySem.Challenge.rw_rh0217_02.row.prog w) (ktrTop dp un gd cn cs L a ccd cl outer) (call (.ref 402) [.ref sa, .ref ai, .int 0 t1]) Q E s := by
  obtain ⟨rest, i1, i2, i3⟩ := upd_front U
  exact f_act_send B F X (cb_drop N (mem1 m1 (mem1 m2 i1))) T hk l2 l8 i2 hz hdp hun fun kx' h' tk' F' N' => hret kx' h' tk' F' (cb_drop N' fun p hp => (List.mem_cons_of_mem _ (List.mem_cons_of_mem _ (i3 _ p hp))))
set_option maxRecDepth 100000 in
set_option maxHeartbeats 0 in
theorem f_act_connect {sa ds ga wi ti wl ul tl ai : Addr} {opening left out : Array UInt8} {state : String} {tries : Int} {k0 k1 k2 k3 k4 k5 k6 k7 k8 k9 k10 k11 k12 ko ks kl kx kh kt t1 q1 : Tok} {its : Array Value} {n : Nat} 
    (B : Below A₀ base outer h₀) (F : Fr h₀ L s.heap m) (X : (hd.heap_1 w.params).In h₀) (N : News h₀ L s.heap ((sa, instObj 482 ds) :: (ds, sessO w ga wi ti wl ul tl opening state left out 0 tries k0 k1 k2 k3 k4 k5 k6 k7 k8 k9 k10 k11 k12 ko ks kl kx kh kt 13) :: (ai, tupN [.str (Str.ofString "connect") q1] 0) :: (wl, W.listOf its n) :: news)) (T : Top vw loose mean mg mb h₀) (hk : cs.kind = .function)
    (l2 : ds < sa) (l6 : sa < wl) (l8 : wl < ai) (hne : ∀ p ∈ news, p.1 ≠ wl) (hz : its.size ≤ 100) 
    (hdp : dp + 30 < recursionLimit) (hun : un + 100 < cLine)
    (hret : ∀ (h' : Heap) (tk' : Nat), Fr h₀ L h' m → News h₀ L h' ((sa, instObj 482 ds) :: (ds, sessO w ga wi ti wl ul tl opening state left out 0 tries k0 k1 k2 k3 k4 k5 k6 k7 k8 k9 k10 k11 k12 ko ks kl kx kh kt 13) :: (ai, tupN [.str (Str.ofString "connect") q1] 0) :: (wl, W.listOf (its.push (.str (Str.ofString "connect") q1)) (n + 1)) :: news) → Q .none { s with heap := h', toks := tk' }) :
    wpAny (model PySem.Challenge.rw_rh0217_02.row.prog w) (ktrTop dp un gd cn cs L a ccd cl outer) (call (.ref 402) [.ref sa, .ref ai, .int 0 t1]) Q E s := by
  k_lt2 l2
  k_lt2 l6
  k_lt2 l8
  refine wpAny_call ?_
  k_dflt cell_enter
  (repeat' (first | (k_unfold; (try dsimp only)) | (k_end; kc_close) | (first | (k_here; (with_reducible show wpAny _ _ (compareOp CmpOp.In (Value.str _ _) (Value.ref _)) _ _ _); first | (with_unfolding_all refine' in_top_strs true (by first | exact kun_topT (by k_asm) (by k_asm) (by k_is) | exact News.isTup (by k_asm) (by k_mem)) (by kde_strs) (by decide) ?_; k_whole) | (with_unfolding_all refine' in_top_strs false (by first | exact kun_topT (by k_asm) (by k_asm) (by k_is) | exact News.isTup (by k_asm) (by k_mem)) (by kde_strs) (by decide) ?_; k_whole))) | walk1 | (dsimp only; first | walk1 | (first | (k_here; (with_reducible show wpAny _ _ (compareOp CmpOp.In (Value.str _ _) (Value.ref _)) _ _ _); first | (with_unfolding_all refine' in_top_strs true (by first | exact kun_topT (by k_asm) (by k_asm) (by k_is) | exact News.isTup (by k_asm) (by k_mem)) (by kde_strs) (by decide) ?_; k_whole) | (with_unfolding_all refine' in_top_strs false (by first | exact kun_topT (by k_asm) (by k_asm) (by k_is) | exact News.isTup (by k_asm) (by k_mem)) (by kde_strs) (by decide) ?_; k_whole)))) | (leave1; try dsimp only)))
  all_goals (refine' hret _ _  ?hF ?hN; (case hN => first | k_asm | (refine' cb_drop ?N0 ?hs0; (case N0 => assumption); (case hs0 => (repeat (first | exact List.forall_mem_nil _ | (refine' List.forall_mem_cons.mpr ⟨?_, ?_⟩; (k_mem)) | (intro p hp; repeat (first | exact hp | apply List.mem_cons_of_mem))))))); (case hF => k_asm))
theorem c_act_connect {g : Obj → List (Addr × Obj)} {sa ds ga wi ti wl ul tl ai : Addr} {opening left out : Array UInt8} {state : String} {tries : Int} {k0 k1 k2 k3 k4 k5 k6 k7 k8 k9 k10 k11 k12 ko ks kl kx kh kt t1 q1 : Tok} {its : Array Value} {n : Nat} 
    (B : Below A₀ base outer h₀) (F : Fr h₀ L s.heap m) (X : (hd.heap_1 w.params).In h₀) (N : News h₀ L s.heap news) (T : Top vw loose mean mg mb h₀) (hk : cs.kind = .function)
    (m1 : (sa, instObj 482 ds) ∈ news) (m2 : (ds, sessO w ga wi ti wl ul tl opening state left out 0 tries k0 k1 k2 k3 k4 k5 k6 k7 k8 k9 k10 k11 k12 ko ks kl kx kh kt 13) ∈ news) (m3 : (ai, tupN [.str (Str.ofString "connect") q1] 0) ∈ news) (U : UpdF wl (W.listOf its n) news g) (l2 : ds < sa) (l6 : sa < wl) (l8 : wl < ai) (hz : its.size ≤ 100) 
    (hdp : dp + 30 < recursionLimit) (hun : un + 100 < cLine)
    (hret : ∀ (h' : Heap) (tk' : Nat), Fr h₀ L h' m → News h₀ L h' (g (W.listOf (its.push (.str (Str.ofString "connect") q1)) (n + 1))) → Q .none { s with heap := h', toks := tk' }) :
    wpAny (model PySem.Challenge.rw_rh0217_02.row.prog w) (ktrTop dp un gd cn cs L a ccd cl outer) (call (.ref 402) [.ref sa, .ref ai, .int 0 t1]) Q E s := by
  obtain ⟨rest, i1, i2, i3⟩ := upd_front U
  exact f_act_connect B F X (cb_drop N (mem1 m1 (mem1 m2 (mem1 m3 i1)))) T hk l2 l6 l8 i2 hz hdp hun fun h' tk' F' N' => hret h' tk' F' (cb_drop N' fun p hp => (List.mem_cons_of_mem _ (List.mem_cons_of_mem _ (List.mem_cons_of_mem _ (i3 _ p hp)))))
set_option maxRecDepth 100000 in
set_option maxHeartbeats 0 in
theorem f_act_listen {sa ds ga wi ti wl ul tl ai : Addr} {opening left out : Array UInt8} {state : String} {tries : Int} {k0 k1 k2 k3 k4 k5 k6 k7 k8 k9 k10 k11 k12 ko ks kl kx kh kt t1 q1 : Tok} {its : Array Value} {n : Nat} 
    (B : Below A₀ base outer h₀) (F : Fr h₀ L s.heap m) (X : (hd.heap_1 w.params).In h₀) (N : News h₀ L s.heap ((sa, instObj 482 ds) :: (ds, sessO w ga wi ti wl ul tl opening state left out 0 tries k0 k1 k2 k3 k4 k5 k6 k7 k8 k9 k10 k11 k12 ko ks kl kx kh kt 13) :: (ai, tupN [.str (Str.ofString "listen") q1] 0) :: (wl, W.listOf its n) :: news)) (T : Top vw loose mean mg mb h₀) (hk : cs.kind = .function)
    (l2 : ds < sa) (l6 : sa < wl) (l8 : wl < ai) (hne : ∀ p ∈ news, p.1 ≠ wl) (hz : its.size ≤ 100) 
    (hdp : dp + 30 < recursionLimit) (hun : un + 100 < cLine)
    (hret : ∀ (h' : Heap) (tk' : Nat), Fr h₀ L h' m → News h₀ L h' ((sa, instObj 482 ds) :: (ds, sessO w ga wi ti wl ul tl opening state left out 0 tries k0 k1 k2 k3 k4 k5 k6 k7 k8 k9 k10 k11 k12 ko ks kl kx kh kt 13) :: (ai, tupN [.str (Str.ofString "listen") q1] 0) :: (wl, W.listOf (its.push (.str (Str.ofString "listen") q1)) (n + 1)) :: news) → Q .none { s with heap := h', toks := tk' }) :
    wpAny (model PySem.Challenge.rw_rh0217_02.row.prog w) (ktrTop dp un gd cn cs L a ccd cl outer) (call (.ref 402) [.ref sa, .ref ai, .int 0 t1]) Q E s := by
  k_lt2 l2
  k_lt2 l6
  k_lt2 l8
  refine wpAny_call ?_
  k_dflt cell_enter
  (repeat' (first | (k_unfold; (try dsimp only)) | (k_end; kc_close) | (first | (k_here; (with_reducible show wpAny _ _ (compareOp CmpOp.In (Value.str _ _) (Value.ref _)) _ _ _); first | (with_unfolding_all refine' in_top_strs true (by first | exact kun_topT (by k_asm) (by k_asm) (by k_is) | exact News.isTup (by k_asm) (by k_mem)) (by kde_strs) (by decide) ?_; k_whole) | (with_unfolding_all refine' in_top_strs false (by first | exact kun_topT (by k_asm) (by k_asm) (by k_is) | exact News.isTup (by k_asm) (by k_mem)) (by kde_strs) (by decide) ?_; k_whole))) | walk1 | (dsimp only; first | walk1 | (first | (k_here; (with_reducible show wpAny _ _ (compareOp CmpOp.In (Value.str _ _) (Value.ref _)) _ _ _); first | (with_unfolding_all refine' in_top_strs true (by first | exact kun_topT (by k_asm) (by k_asm) (by k_is) | exact News.isTup (by k_asm) (by k_mem)) (by kde_strs) (by decide) ?_; k_whole) | (with_unfolding_all refine' in_top_strs false (by first | exact kun_topT (by k_asm) (by k_asm) (by k_is) | exact News.isTup (by k_asm) (by k_mem)) (by kde_strs) (by decide) ?_; k_whole)))) | (leave1; try dsimp only)))
  all_goals (refine' hret _ _  ?hF ?hN; (case hN => first | k_asm | (refine' cb_drop ?N0 ?hs0; (case N0 => assumption); (case hs0 => (repeat (first | exact List.forall_mem_nil _ | (refine' List.forall_mem_cons.mpr ⟨?_, ?_⟩; (k_mem)) | (intro p hp; repeat (first | exact hp | apply List.mem_cons_of_mem))))))); (case hF => k_asm))
theorem c_act_listen {g : Obj → List (Addr × Obj)} {sa ds ga wi ti wl ul tl ai : Addr} {opening left out : Array UInt8} {state : String} {tries : Int} {k0 k1 k2 k3 k4 k5 k6 k7 k8 k9 k10 k11 k12 ko ks kl kx kh kt t1 q1 : Tok} {its : Array Value} {n : Nat} 
    (B : Below A₀ base outer h₀) (F : Fr h₀ L s.heap m) (X : (hd.heap_1 w.params).In h₀) (N : News h₀ L s.heap news) (T : Top vw loose mean mg mb h₀) (hk : cs.kind = .function)
    (m1 : (sa, instObj 482 ds) ∈ news) (m2 : (ds, sessO w ga wi ti wl ul tl opening state left out 0 tries k0 k1 k2 k3 k4 k5 k6 k7 k8 k9 k10 k11 k12 ko ks kl kx kh kt 13) ∈ news) (m3 : (ai, tupN [.str (Str.ofString "listen") q1] 0) ∈ news) (U : UpdF wl (W.listOf its n) news g) (l2 : ds < sa) (l6 : sa < wl) (l8 : wl < ai) (hz : its.size ≤ 100) 
    (hdp : dp + 30 < recursionLimit) (hun : un + 100 < cLine)
    (hret : ∀ (h' : Heap) (tk' : Nat), Fr h₀ L h' m → News h₀ L h' (g (W.listOf (its.push (.str (Str.ofString "listen") q1)) (n + 1))) → Q .none { s with heap := h', toks := tk' }) :
    wpAny (model PySem.Challenge.rw_rh0217_02.row.prog w) (ktrTop dp un gd cn cs L a ccd cl outer) (call (.ref 402) [.ref sa, .ref ai, .int 0 t1]) Q E s := by
  obtain ⟨rest, i1, i2, i3⟩ := upd_front U
  exact f_act_listen B F X (cb_drop N (mem1 m1 (mem1 m2 (mem1 m3 i1)))) T hk l2 l6 l8 i2 hz hdp hun fun h' tk' F' N' => hret h' tk' F' (cb_drop N' fun p hp => (List.mem_cons_of_mem _ (List.mem_cons_of_mem _ (List.mem_cons_of_mem _ (i3 _ p hp)))))
set_option maxRecDepth 100000 in
set_option maxHeartbeats 0 in
theorem f_act_retry {sa ds ga wi ti wl ul tl ai : Addr} {opening left out : Array UInt8} {state : String} {tries : Int} {k0 k1 k2 k3 k4 k5 k6 k7 k8 k9 k10 k11 k12 ko ks kl kx kh kt t1 q1 q2 : Tok} {dt de ca wa : Addr} {ode o : Obj} {n own hold : Int} {u0 u1 u2 u3 u4 u5 u6 u7 ke : Tok} {es : List (Str × Value)} 
    (B : Below A₀ base outer h₀) (F : Fr h₀ L s.heap m) (X : (hd.heap_1 w.params).In h₀) (N : News h₀ L s.heap ((sa, instObj 482 ds) :: (ds, sessO w ga wi ti wl ul tl opening state left out 0 tries k0 k1 k2 k3 k4 k5 k6 k7 k8 k9 k10 k11 k12 ko ks kl kx kh kt 13) :: (ti, instObj 355 dt) :: (dt, endsO w de ke) :: (ga, o) :: (ai, tupN [.str (Str.ofString "set") q1, .str (Str.ofString "retry") q2] 0) :: (de, ode) :: news)) (T : Top vw loose mean mg mb h₀) (hk : cs.kind = .function)
    (l1 : ga < ds) (l2 : ds < sa) (l3 : sa < dt) (l4 : dt < ti) (l5 : ti < de) (l8 : de < ai) (hne : ∀ p ∈ news, p.1 ≠ de) (lod : (de == sysModules) = false) (hde : ode.IsDictOf (PySem.strKind PySem.Challenge.rw_rh0217_02.row.prog w) es) (lo : (ga == sysModules) = false) (hd : o.IsDictOf (PySem.strKind PySem.Challenge.rw_rh0217_02.row.prog w) (cfgL n own hold ca wa u0 u1 u2 u3 u4 u5 u6 u7)) (hz : es.length ≤ 100) 
    (hdp : dp + 60 < recursionLimit) (hun : un + 160 < cLine)
    (hret : ∀ (ode' : Obj) (t20 : Tok) (h' : Heap) (tk' : Nat), ode'.IsDictOf (PySem.strKind PySem.Challenge.rw_rh0217_02.row.prog w) (stored es "retry" (.int 20 t20)) → Fr h₀ L h' m → News h₀ L h' ((sa, instObj 482 ds) :: (ds, sessO w ga wi ti wl ul tl opening state left out 0 tries k0 k1 k2 k3 k4 k5 k6 k7 k8 k9 k10 k11 k12 ko ks kl kx kh kt 13) :: (ti, instObj 355 dt) :: (dt, endsO w de ke) :: (ga, o) :: (ai, tupN [.str (Str.ofString "set") q1, .str (Str.ofString "retry") q2] 0) :: (de, ode') :: news) → Q .none { s with heap := h', toks := tk' }) :
    wpAny (model PySem.Challenge.rw_rh0217_02.row.prog w) (ktrTop dp un gd cn cs L a ccd cl outer) (call (.ref 402) [.ref sa, .ref ai, .int 0 t1]) Q E s := by
  k_lt2 l1
  k_lt2 l2
  k_lt2 l3
  k_lt2 l4
  k_lt2 l5
  k_lt2 l8
  refine wpAny_call ?_
  k_dflt cell_enter
  (repeat' (first | (k_unfold; (try dsimp only)) | (k_end; kc_close) | (first | (k_here; k_dflt ((with_reducible show wpAny _ _ (call (Value.ref 319) _) _ _ _); (refine' Mine.c_begin (by k_asm) (by k_asm) (by k_asm) (by k_asm) (by k_asm) (by first | exact rfl | assumption) (by k_mem) (by k_mem) (by k_updF) (by (refine ltN ?_; first | (with_reducible assumption) | walk_at "om")) (by (refine ltN ?_; first | (with_reducible assumption) | walk_at "om")) (by assumption) (by assumption) (by first | assumption | exact Nat.le_of_ble_eq_true rfl) (by ktr_room) (by ktr_units) ?_); intro ode'q h'q tk'q hd'q F'q N'q; (try dsimp only at N'q))) | (k_here; (with_reducible show wpAny _ _ (compareOp CmpOp.In (Value.str _ _) (Value.ref _)) _ _ _); first | (with_unfolding_all refine' in_top_strs true (by first | exact kun_topT (by k_asm) (by k_asm) (by k_is) | exact News.isTup (by k_asm) (by k_mem)) (by kde_strs) (by decide) ?_; k_whole) | (with_unfolding_all refine' in_top_strs false (by first | exact kun_topT (by k_asm) (by k_asm) (by k_is) | exact News.isTup (by k_asm) (by k_mem)) (by kde_strs) (by decide) ?_; k_whole)) | ((with_reducible show @ite _ _ _ _ _); (with_reducible refine Mine.ite_ff ?_))) | walk1 | (dsimp only; first | walk1 | (first | (k_here; k_dflt ((with_reducible show wpAny _ _ (call (Value.ref 319) _) _ _ _); (refine' Mine.c_begin (by k_asm) (by k_asm) (by k_asm) (by k_asm) (by k_asm) (by first | exact rfl | assumption) (by k_mem) (by k_mem) (by k_updF) (by (refine ltN ?_; first | (with_reducible assumption) | walk_at "om")) (by (refine ltN ?_; first | (with_reducible assumption) | walk_at "om")) (by assumption) (by assumption) (by first | assumption | exact Nat.le_of_ble_eq_true rfl) (by ktr_room) (by ktr_units) ?_); intro ode'q h'q tk'q hd'q F'q N'q; (try dsimp only at N'q))) | (k_here; (with_reducible show wpAny _ _ (compareOp CmpOp.In (Value.str _ _) (Value.ref _)) _ _ _); first | (with_unfolding_all refine' in_top_strs true (by first | exact kun_topT (by k_asm) (by k_asm) (by k_is) | exact News.isTup (by k_asm) (by k_mem)) (by kde_strs) (by decide) ?_; k_whole) | (with_unfolding_all refine' in_top_strs false (by first | exact kun_topT (by k_asm) (by k_asm) (by k_is) | exact News.isTup (by k_asm) (by k_mem)) (by kde_strs) (by decide) ?_; k_whole)) | ((with_reducible show @ite _ _ _ _ _); (with_reducible refine Mine.ite_ff ?_)))) | (leave1; try dsimp only)))
  all_goals (refine' hret _ _ _ _ ?p0  ?hF ?hN; (case hN => first | k_asm | (refine' cb_drop ?N0 ?hs0; (case N0 => assumption); (case hs0 => (repeat (first | exact List.forall_mem_nil _ | (refine' List.forall_mem_cons.mpr ⟨?_, ?_⟩; (k_mem)) | (intro p hp; repeat (first | exact hp | apply List.mem_cons_of_mem))))))); (case hF => k_asm); (case p0 => first | assumption | (refine ltN ?_; first | (with_reducible assumption) | omega)))
theorem c_act_retry {g : Obj → List (Addr × Obj)} {sa ds ga wi ti wl ul tl ai : Addr} {opening left out : Array UInt8} {state : String} {tries : Int} {k0 k1 k2 k3 k4 k5 k6 k7 k8 k9 k10 k11 k12 ko ks kl kx kh kt t1 q1 q2 : Tok} {dt de ca wa : Addr} {ode o : Obj} {n own hold : Int} {u0 u1 u2 u3 u4 u5 u6 u7 ke : Tok} {es : List (Str × Value)} 
    (B : Below A₀ base outer h₀) (F : Fr h₀ L s.heap m) (X : (hd.heap_1 w.params).In h₀) (N : News h₀ L s.heap news) (T : Top vw loose mean mg mb h₀) (hk : cs.kind = .function)
    (m1 : (sa, instObj 482 ds) ∈ news) (m2 : (ds, sessO w ga wi ti wl ul tl opening state left out 0 tries k0 k1 k2 k3 k4 k5 k6 k7 k8 k9 k10 k11 k12 ko ks kl kx kh kt 13) ∈ news) (m3 : (ti, instObj 355 dt) ∈ news) (m4 : (dt, endsO w de ke) ∈ news) (m5 : (ga, o) ∈ news) (m6 : (ai, tupN [.str (Str.ofString "set") q1, .str (Str.ofString "retry") q2] 0) ∈ news) (U : UpdF de (ode) news g) (l1 : ga < ds) (l2 : ds < sa) (l3 : sa < dt) (l4 : dt < ti) (l5 : ti < de) (l8 : de < ai) (lod : (de == sysModules) = false) (hde : ode.IsDictOf (PySem.strKind PySem.Challenge.rw_rh0217_02.row.prog w) es) (lo : (ga == sysModules) = false) (hd : o.IsDictOf (PySem.strKind PySem.Challenge.rw_rh0217_02.row.prog w) (cfgL n own hold ca wa u0 u1 u2 u3 u4 u5 u6 u7)) (hz : es.length ≤ 100) 
    (hdp : dp + 60 < recursionLimit) (hun : un + 160 < cLine)
    (hret : ∀ (ode' : Obj) (t20 : Tok) (h' : Heap) (tk' : Nat), ode'.IsDictOf (PySem.strKind PySem.Challenge.rw_rh0217_02.row.prog w) (stored es "retry" (.int 20 t20)) → Fr h₀ L h' m → News h₀ L h' (g (ode')) → Q .none { s with heap := h', toks := tk' }) :
    wpAny (model PySem.Challenge.rw_rh0217_02.row.prog w) (ktrTop dp un gd cn cs L a ccd cl outer) (call (.ref 402) [.ref sa, .ref ai, .int 0 t1]) Q E s := by
  obtain ⟨rest, i1, i2, i3⟩ := upd_front U
  exact f_act_retry B F X (cb_drop N (mem1 m1 (mem1 m2 (mem1 m3 (mem1 m4 (mem1 m5 (mem1 m6 i1))))))) T hk l1 l2 l3 l4 l5 l8 i2 lod hde lo hd hz hdp hun fun ode' t20 h' tk' e0 F' N' => hret ode' t20 h' tk' e0 F' (cb_drop N' fun p hp => (List.mem_cons_of_mem _ (List.mem_cons_of_mem _ (List.mem_cons_of_mem _ (List.mem_cons_of_mem _ (List.mem_cons_of_mem _ (List.mem_cons_of_mem _ (i3 _ p hp))))))))
set_option maxRecDepth 100000 in
set_option maxHeartbeats 0 in
theorem f_act_hold {sa ds ga wi ti wl ul tl ai : Addr} {opening left out : Array UInt8} {state : String} {tries : Int} {k0 k1 k2 k3 k4 k5 k6 k7 k8 k9 k10 k11 k12 ko ks kl kx kh kt t1 q1 q2 : Tok} {dt de ca wa : Addr} {ode o : Obj} {n own hold : Int} {u0 u1 u2 u3 u4 u5 u6 u7 ke : Tok} {es : List (Str × Value)} 
    (B : Below A₀ base outer h₀) (F : Fr h₀ L s.heap m) (X : (hd.heap_1 w.params).In h₀) (N : News h₀ L s.heap ((sa, instObj 482 ds) :: (ds, sessO w ga wi ti wl ul tl opening state left out 0 tries k0 k1 k2 k3 k4 k5 k6 k7 k8 k9 k10 k11 k12 ko ks kl kx kh kt 13) :: (ti, instObj 355 dt) :: (dt, endsO w de ke) :: (ga, o) :: (ai, tupN [.str (Str.ofString "set") q1, .str (Str.ofString "hold_large") q2] 0) :: (de, ode) :: news)) (T : Top vw loose mean mg mb h₀) (hk : cs.kind = .function)
    (l1 : ga < ds) (l2 : ds < sa) (l3 : sa < dt) (l4 : dt < ti) (l5 : ti < de) (l8 : de < ai) (hne : ∀ p ∈ news, p.1 ≠ de) (lod : (de == sysModules) = false) (hde : ode.IsDictOf (PySem.strKind PySem.Challenge.rw_rh0217_02.row.prog w) es) (lo : (ga == sysModules) = false) (hd : o.IsDictOf (PySem.strKind PySem.Challenge.rw_rh0217_02.row.prog w) (cfgL n own hold ca wa u0 u1 u2 u3 u4 u5 u6 u7)) (hz : es.length ≤ 100) 
    (hdp : dp + 60 < recursionLimit) (hun : un + 160 < cLine)
    (hret : ∀ (ode' : Obj) (h' : Heap) (tk' : Nat), Fr h₀ L h' m → News h₀ L h' ((sa, instObj 482 ds) :: (ds, sessO w ga wi ti wl ul tl opening state left out 0 tries k0 k1 k2 k3 k4 k5 k6 k7 k8 k9 k10 k11 k12 ko ks kl kx kh kt 13) :: (ti, instObj 355 dt) :: (dt, endsO w de ke) :: (ga, o) :: (ai, tupN [.str (Str.ofString "set") q1, .str (Str.ofString "hold_large") q2] 0) :: (de, ode') :: news) → Q .none { s with heap := h', toks := tk' }) :
    wpAny (model PySem.Challenge.rw_rh0217_02.row.prog w) (ktrTop dp un gd cn cs L a ccd cl outer) (call (.ref 402) [.ref sa, .ref ai, .int 0 t1]) Q E s := by
  k_lt2 l1
  k_lt2 l2
  k_lt2 l3
  k_lt2 l4
  k_lt2 l5
  k_lt2 l8
  refine wpAny_call ?_
  k_dflt cell_enter
  (repeat' (first | (k_unfold; (try dsimp only)) | (k_end; kc_close) | (first | (k_here; k_dflt ((with_reducible show wpAny _ _ (call (Value.ref 319) _) _ _ _); (refine' Mine.c_begin (by k_asm) (by k_asm) (by k_asm) (by k_asm) (by k_asm) (by first | exact rfl | assumption) (by k_mem) (by k_mem) (by k_updF) (by (refine ltN ?_; first | (with_reducible assumption) | walk_at "om")) (by (refine ltN ?_; first | (with_reducible assumption) | walk_at "om")) (by assumption) (by assumption) (by first | assumption | exact Nat.le_of_ble_eq_true rfl) (by ktr_room) (by ktr_units) ?_); intro ode'q h'q tk'q hd'q F'q N'q; (try dsimp only at N'q))) | (k_here; (with_reducible show wpAny _ _ (compareOp CmpOp.In (Value.str _ _) (Value.ref _)) _ _ _); first | (with_unfolding_all refine' in_top_strs true (by first | exact kun_topT (by k_asm) (by k_asm) (by k_is) | exact News.isTup (by k_asm) (by k_mem)) (by kde_strs) (by decide) ?_; k_whole) | (with_unfolding_all refine' in_top_strs false (by first | exact kun_topT (by k_asm) (by k_asm) (by k_is) | exact News.isTup (by k_asm) (by k_mem)) (by kde_strs) (by decide) ?_; k_whole)) | ((with_reducible show @ite _ _ _ _ _); (with_reducible refine Mine.ite_ff ?_))) | walk1 | (dsimp only; first | walk1 | (first | (k_here; k_dflt ((with_reducible show wpAny _ _ (call (Value.ref 319) _) _ _ _); (refine' Mine.c_begin (by k_asm) (by k_asm) (by k_asm) (by k_asm) (by k_asm) (by first | exact rfl | assumption) (by k_mem) (by k_mem) (by k_updF) (by (refine ltN ?_; first | (with_reducible assumption) | walk_at "om")) (by (refine ltN ?_; first | (with_reducible assumption) | walk_at "om")) (by assumption) (by assumption) (by first | assumption | exact Nat.le_of_ble_eq_true rfl) (by ktr_room) (by ktr_units) ?_); intro ode'q h'q tk'q hd'q F'q N'q; (try dsimp only at N'q))) | (k_here; (with_reducible show wpAny _ _ (compareOp CmpOp.In (Value.str _ _) (Value.ref _)) _ _ _); first | (with_unfolding_all refine' in_top_strs true (by first | exact kun_topT (by k_asm) (by k_asm) (by k_is) | exact News.isTup (by k_asm) (by k_mem)) (by kde_strs) (by decide) ?_; k_whole) | (with_unfolding_all refine' in_top_strs false (by first | exact kun_topT (by k_asm) (by k_asm) (by k_is) | exact News.isTup (by k_asm) (by k_mem)) (by kde_strs) (by decide) ?_; k_whole)) | ((with_reducible show @ite _ _ _ _ _); (with_reducible refine Mine.ite_ff ?_)))) | (leave1; try dsimp only)))
  all_goals (refine' hret _ _ _  ?hF ?hN; (case hN => first | k_asm | (refine' cb_drop ?N0 ?hs0; (case N0 => assumption); (case hs0 => (repeat (first | exact List.forall_mem_nil _ | (refine' List.forall_mem_cons.mpr ⟨?_, ?_⟩; (k_mem)) | (intro p hp; repeat (first | exact hp | apply List.mem_cons_of_mem))))))); (case hF => k_asm))
theorem c_act_hold {g : Obj → List (Addr × Obj)} {sa ds ga wi ti wl ul tl ai : Addr} {opening left out : Array UInt8} {state : String} {tries : Int} {k0 k1 k2 k3 k4 k5 k6 k7 k8 k9 k10 k11 k12 ko ks kl kx kh kt t1 q1 q2 : Tok} {dt de ca wa : Addr} {ode o : Obj} {n own hold : Int} {u0 u1 u2 u3 u4 u5 u6 u7 ke : Tok} {es : List (Str × Value)} 
    (B : Below A₀ base outer h₀) (F : Fr h₀ L s.heap m) (X : (hd.heap_1 w.params).In h₀) (N : News h₀ L s.heap news) (T : Top vw loose mean mg mb h₀) (hk : cs.kind = .function)
    (m1 : (sa, instObj 482 ds) ∈ news) (m2 : (ds, sessO w ga wi ti wl ul tl opening state left out 0 tries k0 k1 k2 k3 k4 k5 k6 k7 k8 k9 k10 k11 k12 ko ks kl kx kh kt 13) ∈ news) (m3 : (ti, instObj 355 dt) ∈ news) (m4 : (dt, endsO w de ke) ∈ news) (m5 : (ga, o) ∈ news) (m6 : (ai, tupN [.str (Str.ofString "set") q1, .str (Str.ofString "hold_large") q2] 0) ∈ news) (U : UpdF de (ode) news g) (l1 : ga < ds) (l2 : ds < sa) (l3 : sa < dt) (l4 : dt < ti) (l5 : ti < de) (l8 : de < ai) (lod : (de == sysModules) = false) (hde : ode.IsDictOf (PySem.strKind PySem.Challenge.rw_rh0217_02.row.prog w) es) (lo : (ga == sysModules) = false) (hd : o.IsDictOf (PySem.strKind PySem.Challenge.rw_rh0217_02.row.prog w) (cfgL n own hold ca wa u0 u1 u2 u3 u4 u5 u6 u7)) (hz : es.length ≤ 100) 
    (hdp : dp + 60 < recursionLimit) (hun : un + 160 < cLine)
    (hret : ∀ (ode' : Obj) (h' : Heap) (tk' : Nat), Fr h₀ L h' m → News h₀ L h' (g (ode')) → Q .none { s with heap := h', toks := tk' }) :
    wpAny (model PySem.Challenge.rw_rh0217_02.row.prog w) (ktrTop dp un gd cn cs L a ccd cl outer) (call (.ref 402) [.ref sa, .ref ai, .int 0 t1]) Q E s := by
  obtain ⟨rest, i1, i2, i3⟩ := upd_front U
  exact f_act_hold B F X (cb_drop N (mem1 m1 (mem1 m2 (mem1 m3 (mem1 m4 (mem1 m5 (mem1 m6 i1))))))) T hk l1 l2 l3 l4 l5 l8 i2 lod hde lo hd hz hdp hun fun ode' h' tk' F' N' => hret ode' h' tk' F' (cb_drop N' fun p hp => (List.mem_cons_of_mem _ (List.mem_cons_of_mem _ (List.mem_cons_of_mem _ (List.mem_cons_of_mem _ (List.mem_cons_of_mem _ (List.mem_cons_of_mem _ (i3 _ p hp))))))))
set_option maxRecDepth 100000 in
set_option maxHeartbeats 0 in
theorem f_act_clear_retry {sa ds ga wi ti wl ul tl ai : Addr} {opening left out : Array UInt8} {state : String} {tries : Int} {k0 k1 k2 k3 k4 k5 k6 k7 k8 k9 k10 k11 k12 ko ks kl kx kh kt t1 q1 q2 : Tok} {dt de : Addr} {ode : Obj} {ke : Tok} {es : List (Str × Value)} {v : Value} 
    (B : Below A₀ base outer h₀) (F : Fr h₀ L s.heap m) (X : (hd.heap_1 w.params).In h₀) (N : News h₀ L s.heap ((sa, instObj 482 ds) :: (ds, sessO w ga wi ti wl ul tl opening state left out 0 tries k0 k1 k2 k3 k4 k5 k6 k7 k8 k9 k10 k11 k12 ko ks kl kx kh kt 13) :: (ti, instObj 355 dt) :: (dt, endsO w de ke) :: (ai, tupN [.str (Str.ofString "clear") q1, .str (Str.ofString "retry") q2] 0) :: (de, ode) :: news)) (T : Top vw loose mean mg mb h₀) (hk : cs.kind = .function)
    (l2 : ds < sa) (l3 : sa < dt) (l4 : dt < ti) (l5 : ti < de) (l8 : de < ai) (hne : ∀ p ∈ news, p.1 ≠ de) (lod : (de == sysModules) = false) (hde : ode.IsDictOf (PySem.strKind PySem.Challenge.rw_rh0217_02.row.prog w) es) (hl : valueAt es ("retry" : Str) = some v) (hz : es.length ≤ 100) 
    (hdp : dp + 60 < recursionLimit) (hun : un + 160 < cLine)
    (hret : ∀ (ode' : Obj) (h' : Heap) (tk' : Nat), ode'.IsDictOf (PySem.strKind PySem.Challenge.rw_rh0217_02.row.prog w) (without es "retry") → Fr h₀ L h' m → News h₀ L h' ((sa, instObj 482 ds) :: (ds, sessO w ga wi ti wl ul tl opening state left out 0 tries k0 k1 k2 k3 k4 k5 k6 k7 k8 k9 k10 k11 k12 ko ks kl kx kh kt 13) :: (ti, instObj 355 dt) :: (dt, endsO w de ke) :: (ai, tupN [.str (Str.ofString "clear") q1, .str (Str.ofString "retry") q2] 0) :: (de, ode') :: news) → Q .none { s with heap := h', toks := tk' }) :
    wpAny (model PySem.Challenge.rw_rh0217_02.row.prog w) (ktrTop dp un gd cn cs L a ccd cl outer) (call (.ref 402) [.ref sa, .ref ai, .int 0 t1]) Q E s := by
  k_lt2 l2
  k_lt2 l3
  k_lt2 l4
  k_lt2 l5
  k_lt2 l8
  refine wpAny_call ?_
  k_dflt cell_enter
  (repeat' (first | (k_unfold; (try dsimp only)) | (k_end; kc_close) | (first | (k_here; k_dflt ((with_reducible show wpAny _ _ (call (Value.ref 326) _) _ _ _); (refine' Mine.c_stop_there (by k_asm) (by k_asm) (by k_asm) (by k_asm) (by k_asm) (by first | exact rfl | assumption) (by k_mem) (by k_mem) (by k_updF) (by (refine ltN ?_; first | (with_reducible assumption) | walk_at "om")) (by (refine ltN ?_; first | (with_reducible assumption) | walk_at "om")) (by assumption) (by assumption) (by first | rfl | assumption) (by first | assumption | exact Nat.le_of_ble_eq_true rfl) (by ktr_room) (by ktr_units) ?_); intro ode'q h'q tk'q hd'q F'q N'q; (try dsimp only at N'q))) | (k_here; (with_reducible show wpAny _ _ (compareOp CmpOp.In (Value.str _ _) (Value.ref _)) _ _ _); first | (with_unfolding_all refine' in_top_strs true (by first | exact kun_topT (by k_asm) (by k_asm) (by k_is) | exact News.isTup (by k_asm) (by k_mem)) (by kde_strs) (by decide) ?_; k_whole) | (with_unfolding_all refine' in_top_strs false (by first | exact kun_topT (by k_asm) (by k_asm) (by k_is) | exact News.isTup (by k_asm) (by k_mem)) (by kde_strs) (by decide) ?_; k_whole)) | ((with_reducible show @ite _ _ _ _ _); (with_reducible refine Mine.ite_ff ?_))) | walk1 | (dsimp only; first | walk1 | (first | (k_here; k_dflt ((with_reducible show wpAny _ _ (call (Value.ref 326) _) _ _ _); (refine' Mine.c_stop_there (by k_asm) (by k_asm) (by k_asm) (by k_asm) (by k_asm) (by first | exact rfl | assumption) (by k_mem) (by k_mem) (by k_updF) (by (refine ltN ?_; first | (with_reducible assumption) | walk_at "om")) (by (refine ltN ?_; first | (with_reducible assumption) | walk_at "om")) (by assumption) (by assumption) (by first | rfl | assumption) (by first | assumption | exact Nat.le_of_ble_eq_true rfl) (by ktr_room) (by ktr_units) ?_); intro ode'q h'q tk'q hd'q F'q N'q; (try dsimp only at N'q))) | (k_here; (with_reducible show wpAny _ _ (compareOp CmpOp.In (Value.str _ _) (Value.ref _)) _ _ _); first | (with_unfolding_all refine' in_top_strs true (by first | exact kun_topT (by k_asm) (by k_asm) (by k_is) | exact News.isTup (by k_asm) (by k_mem)) (by kde_strs) (by decide) ?_; k_whole) | (with_unfolding_all refine' in_top_strs false (by first | exact kun_topT (by k_asm) (by k_asm) (by k_is) | exact News.isTup (by k_asm) (by k_mem)) (by kde_strs) (by decide) ?_; k_whole)) | ((with_reducible show @ite _ _ _ _ _); (with_reducible refine Mine.ite_ff ?_)))) | (leave1; try dsimp only)))
  all_goals (refine' hret _ _ _ ?p0  ?hF ?hN; (case hN => first | k_asm | (refine' cb_drop ?N0 ?hs0; (case N0 => assumption); (case hs0 => (repeat (first | exact List.forall_mem_nil _ | (refine' List.forall_mem_cons.mpr ⟨?_, ?_⟩; (k_mem)) | (intro p hp; repeat (first | exact hp | apply List.mem_cons_of_mem))))))); (case hF => k_asm); (case p0 => first | assumption | (refine ltN ?_; first | (with_reducible assumption) | omega)))
theorem c_act_clear_retry {g : Obj → List (Addr × Obj)} {sa ds ga wi ti wl ul tl ai : Addr} {opening left out : Array UInt8} {state : String} {tries : Int} {k0 k1 k2 k3 k4 k5 k6 k7 k8 k9 k10 k11 k12 ko ks kl kx kh kt t1 q1 q2 : Tok} {dt de : Addr} {ode : Obj} {ke : Tok} {es : List (Str × Value)} {v : Value} 
    (B : Below A₀ base outer h₀) (F : Fr h₀ L s.heap m) (X : (hd.heap_1 w.params).In h₀) (N : News h₀ L s.heap news) (T : Top vw loose mean mg mb h₀) (hk : cs.kind = .function)
    (m1 : (sa, instObj 482 ds) ∈ news) (m2 : (ds, sessO w ga wi ti wl ul tl opening state left out 0 tries k0 k1 k2 k3 k4 k5 k6 k7 k8 k9 k10 k11 k12 ko ks kl kx kh kt 13) ∈ news) (m3 : (ti, instObj 355 dt) ∈ news) (m4 : (dt, endsO w de ke) ∈ news) (m5 : (ai, tupN [.str (Str.ofString "clear") q1, .str (Str.ofString "retry") q2] 0) ∈ news) (U : UpdF de (ode) news g) (l2 : ds < sa) (l3 : sa < dt) (l4 : dt < ti) (l5 : ti < de) (l8 : de < ai) (lod : (de == sysModules) = false) (hde : ode.IsDictOf (PySem.strKind PySem.Challenge.rw_rh0217_02.row.prog w) es) (hl : valueAt es ("retry" : Str) = some v) (hz : es.length ≤ 100) 
    (hdp : dp + 60 < recursionLimit) (hun : un + 160 < cLine)
    (hret : ∀ (ode' : Obj) (h' : Heap) (tk' : Nat), ode'.IsDictOf (PySem.strKind PySem.Challenge.rw_rh0217_02.row.prog w) (without es "retry") → Fr h₀ L h' m → News h₀ L h' (g (ode')) → Q .none { s with heap := h', toks := tk' }) :
    wpAny (model PySem.Challenge.rw_rh0217_02.row.prog w) (ktrTop dp un gd cn cs L a ccd cl outer) (call (.ref 402) [.ref sa, .ref ai, .int 0 t1]) Q E s := by
  obtain ⟨rest, i1, i2, i3⟩ := upd_front U
  exact f_act_clear_retry B F X (cb_drop N (mem1 m1 (mem1 m2 (mem1 m3 (mem1 m4 (mem1 m5 i1)))))) T hk l2 l3 l4 l5 l8 i2 lod hde hl hz hdp hun fun ode' h' tk' e0 F' N' => hret ode' h' tk' e0 F' (cb_drop N' fun p hp => (List.mem_cons_of_mem _ (List.mem_cons_of_mem _ (List.mem_cons_of_mem _ (List.mem_cons_of_mem _ (List.mem_cons_of_mem _ (i3 _ p hp)))))))
set_option maxRecDepth 100000 in
set_option maxHeartbeats 0 in
theorem f_act_clear_delay {sa ds ga wi ti wl ul tl ai : Addr} {opening left out : Array UInt8} {state : String} {tries : Int} {k0 k1 k2 k3 k4 k5 k6 k7 k8 k9 k10 k11 k12 ko ks kl kx kh kt t1 q1 q2 : Tok} {dt de : Addr} {ode : Obj} {ke : Tok} {es : List (Str × Value)} 
    (B : Below A₀ base outer h₀) (F : Fr h₀ L s.heap m) (X : (hd.heap_1 w.params).In h₀) (N : News h₀ L s.heap ((sa, instObj 482 ds) :: (ds, sessO w ga wi ti wl ul tl opening state left out 0 tries k0 k1 k2 k3 k4 k5 k6 k7 k8 k9 k10 k11 k12 ko ks kl kx kh kt 13) :: (ti, instObj 355 dt) :: (dt, endsO w de ke) :: (ai, tupN [.str (Str.ofString "clear") q1, .str (Str.ofString "delay") q2] 0) :: (de, ode) :: news)) (T : Top vw loose mean mg mb h₀) (hk : cs.kind = .function)
    (l2 : ds < sa) (l3 : sa < dt) (l4 : dt < ti) (l5 : ti < de) (l8 : de < ai) (hne : ∀ p ∈ news, p.1 ≠ de) (lod : (de == sysModules) = false) (hde : ode.IsDictOf (PySem.strKind PySem.Challenge.rw_rh0217_02.row.prog w) es) (hl : valueAt es ("delay" : Str) = none) 
    (hdp : dp + 60 < recursionLimit) (hun : un + 160 < cLine)
    (hret : ∀ (h' : Heap) (tk' : Nat), Fr h₀ L h' m → News h₀ L h' ((sa, instObj 482 ds) :: (ds, sessO w ga wi ti wl ul tl opening state left out 0 tries k0 k1 k2 k3 k4 k5 k6 k7 k8 k9 k10 k11 k12 ko ks kl kx kh kt 13) :: (ti, instObj 355 dt) :: (dt, endsO w de ke) :: (ai, tupN [.str (Str.ofString "clear") q1, .str (Str.ofString "delay") q2] 0) :: (de, ode) :: news) → Q .none { s with heap := h', toks := tk' }) :
    wpAny (model PySem.Challenge.rw_rh0217_02.row.prog w) (ktrTop dp un gd cn cs L a ccd cl outer) (call (.ref 402) [.ref sa, .ref ai, .int 0 t1]) Q E s := by
  k_lt2 l2
  k_lt2 l3
  k_lt2 l4
  k_lt2 l5
  k_lt2 l8
  refine wpAny_call ?_
  k_dflt cell_enter
  (repeat' (first | (k_unfold; (try dsimp only)) | (k_end; kc_close) | (first | (k_here; k_dflt ((with_reducible show wpAny _ _ (call (Value.ref 326) _) _ _ _); (refine' Mine.c_stop_miss (by k_asm) (by k_asm) (by k_asm) (by k_asm) (by k_asm) (by first | exact rfl | assumption) (by k_mem) (by k_mem) (by k_mem) (by assumption) (by assumption) (by first | rfl | assumption) (by ktr_room) (by ktr_units) ?_); intro h'q tk'q F'q N'q)) | (k_here; (with_reducible show wpAny _ _ (compareOp CmpOp.In (Value.str _ _) (Value.ref _)) _ _ _); first | (with_unfolding_all refine' in_top_strs true (by first | exact kun_topT (by k_asm) (by k_asm) (by k_is) | exact News.isTup (by k_asm) (by k_mem)) (by kde_strs) (by decide) ?_; k_whole) | (with_unfolding_all refine' in_top_strs false (by first | exact kun_topT (by k_asm) (by k_asm) (by k_is) | exact News.isTup (by k_asm) (by k_mem)) (by kde_strs) (by decide) ?_; k_whole)) | ((with_reducible show @ite _ _ _ _ _); (with_reducible refine Mine.ite_ff ?_))) | walk1 | (dsimp only; first | walk1 | (first | (k_here; k_dflt ((with_reducible show wpAny _ _ (call (Value.ref 326) _) _ _ _); (refine' Mine.c_stop_miss (by k_asm) (by k_asm) (by k_asm) (by k_asm) (by k_asm) (by first | exact rfl | assumption) (by k_mem) (by k_mem) (by k_mem) (by assumption) (by assumption) (by first | rfl | assumption) (by ktr_room) (by ktr_units) ?_); intro h'q tk'q F'q N'q)) | (k_here; (with_reducible show wpAny _ _ (compareOp CmpOp.In (Value.str _ _) (Value.ref _)) _ _ _); first | (with_unfolding_all refine' in_top_strs true (by first | exact kun_topT (by k_asm) (by k_asm) (by k_is) | exact News.isTup (by k_asm) (by k_mem)) (by kde_strs) (by decide) ?_; k_whole) | (with_unfolding_all refine' in_top_strs false (by first | exact kun_topT (by k_asm) (by k_asm) (by k_is) | exact News.isTup (by k_asm) (by k_mem)) (by kde_strs) (by decide) ?_; k_whole)) | ((with_reducible show @ite _ _ _ _ _); (with_reducible refine Mine.ite_ff ?_)))) | (leave1; try dsimp only)))
  all_goals (refine' hret _ _  ?hF ?hN; (case hN => first | k_asm | (refine' cb_drop ?N0 ?hs0; (case N0 => assumption); (case hs0 => (repeat (first | exact List.forall_mem_nil _ | (refine' List.forall_mem_cons.mpr ⟨?_, ?_⟩; (k_mem)) | (intro p hp; repeat (first | exact hp | apply List.mem_cons_of_mem))))))); (case hF => k_asm))
theorem c_act_clear_delay {g : Obj → List (Addr × Obj)} {sa ds ga wi ti wl ul tl ai : Addr} {opening left out : Array UInt8} {state : String} {tries : Int} {k0 k1 k2 k3 k4 k5 k6 k7 k8 k9 k10 k11 k12 ko ks kl kx kh kt t1 q1 q2 : Tok} {dt de : Addr} {ode : Obj} {ke : Tok} {es : List (Str × Value)} 
    (B : Below A₀ base outer h₀) (F : Fr h₀ L s.heap m) (X : (hd.heap_1 w.params).In h₀) (N : News h₀ L s.heap news) (T : Top vw loose mean mg mb h₀) (hk : cs.kind = .function)
    (m1 : (sa, instObj 482 ds) ∈ news) (m2 : (ds, sessO w ga wi ti wl ul tl opening state left out 0 tries k0 k1 k2 k3 k4 k5 k6 k7 k8 k9 k10 k11 k12 ko ks kl kx kh kt 13) ∈ news) (m3 : (ti, instObj 355 dt) ∈ news) (m4 : (dt, endsO w de ke) ∈ news) (m5 : (ai, tupN [.str (Str.ofString "clear") q1, .str (Str.ofString "delay") q2] 0) ∈ news) (U : UpdF de (ode) news g) (l2 : ds < sa) (l3 : sa < dt) (l4 : dt < ti) (l5 : ti < de) (l8 : de < ai) (lod : (de == sysModules) = false) (hde : ode.IsDictOf (PySem.strKind PySem.Challenge.rw_rh0217_02.row.prog w) es) (hl : valueAt es ("delay" : Str) = none) 
    (hdp : dp + 60 < recursionLimit) (hun : un + 160 < cLine)
    (hret : ∀ (h' : Heap) (tk' : Nat), Fr h₀ L h' m → News h₀ L h' (g (ode)) → Q .none { s with heap := h', toks := tk' }) :
    wpAny (model PySem.Challenge.rw_rh0217_02.row.prog w) (ktrTop dp un gd cn cs L a ccd cl outer) (call (.ref 402) [.ref sa, .ref ai, .int 0 t1]) Q E s := by
  obtain ⟨rest, i1, i2, i3⟩ := upd_front U
  exact f_act_clear_delay B F X (cb_drop N (mem1 m1 (mem1 m2 (mem1 m3 (mem1 m4 (mem1 m5 i1)))))) T hk l2 l3 l4 l5 l8 i2 lod hde hl hdp hun fun h' tk' F' N' => hret h' tk' F' (cb_drop N' fun p hp => (List.mem_cons_of_mem _ (List.mem_cons_of_mem _ (List.mem_cons_of_mem _ (List.mem_cons_of_mem _ (List.mem_cons_of_mem _ (i3 _ p hp)))))))
end
end
end Mine
end
section
namespace Mine
noncomputable section
section
variable {vw : Program} {w : World} {loose : List Str} {mean : ExcName → Option Value} {mg mb : Str → Option Value} {dp un : Nat} {gd : Option (List Code)} {cn : Str} {cs : Scope} {a : Addr} {ccd : Value} {cl : List (Str × Addr)} {outer : List Env} {A₀ : Around} {base h₀ : Heap} {L : Addr} {m : Str → Option Value} {s : Shared} {Q : Value → Shared → Prop} {E : Value → Shared → Prop} {news : List (Addr × Obj)}
set_option maxRecDepth 100000 in
set_option maxHeartbeats 0 in
theorem c_happen1 {sa ds ga wi ti dt de wl ul tl fa ca wa : Addr} {ode o : Obj} {opening : Array UInt8} {n own hold : Int} {u0 u1 u2 u3 u4 u5 u6 u7 k0 k1 k2 k3 k4 k5 k6 k7 k8 k9 k10 k11 k12 ko ks kl kx kh kt ke f0 f1 f2 t1 t2 : Tok} {kf : Nat}
    (B : Below A₀ base outer h₀) (F : Fr h₀ L s.heap m) (X : (hd.heap_1 w.params).In h₀) (N : News h₀ L s.heap [(sa, instObj 482 ds), (ds, sessO w ga wi ti wl ul tl opening "idle" #[] #[] 0 0 k0 k1 k2 k3 k4 k5 k6 k7 k8 k9 k10 k11 k12 ko ks kl kx kh kt 13), (ti, instObj 355 dt), (dt, endsO w de ke), (de, ode), (wl, W.listOf #[] 0), (ga, o), (fa, tupN [.int 0 f0, .int 0 f1, .bytes #[] f2] kf)])
    (T : Top vw loose mean mg mb h₀) (hk : cs.kind = .function)
    (l1 : ga < ds) (l2 : ds < sa) (l3 : sa < dt) (l4 : dt < ti) (l5 : ti < de) (l6 : de < wl) (l7 : wl < fa)
    (lo : (ga == sysModules) = false) (lod : (de == sysModules) = false)
    (hd : o.IsDictOf (PySem.strKind PySem.Challenge.rw_rh0217_02.row.prog w) (cfgL n own hold ca wa u0 u1 u2 u3 u4 u5 u6 u7))
    (hde : ode.IsDictOf (PySem.strKind PySem.Challenge.rw_rh0217_02.row.prog w) [])
    (hdp : dp + 100 < recursionLimit) (hun : un + 300 < cLine)
    (hret : ∀ (ode' : Obj) (ks' kt' t20 : Tok) (h' : Heap) (tk' : Nat), ode'.IsDictOf (PySem.strKind PySem.Challenge.rw_rh0217_02.row.prog w) [("retry", .int 20 t20)] → Fr h₀ L h' m →
      News h₀ L h' [(sa, instObj 482 ds), (ds, sessO w ga wi ti wl ul tl opening "connect" #[] #[] 0 0 k0 k1 k2 k3 k4 k5 k6 k7 k8 k9 k10 k11 k12 ko ks' kl kx kh kt' 13), (ti, instObj 355 dt), (dt, endsO w de ke), (de, ode'), (ga, o)] → Q .none { s with heap := h', toks := tk' }) :
    wpAny (model PySem.Challenge.rw_rh0217_02.row.prog w) (ktrTop dp un gd cn cs L a ccd cl outer) (call (.ref 395) [.ref sa, .str "start" t1, .int 0 t2, .ref fa]) Q E s := by
  k_lt2 l1
  k_lt2 l2
  k_lt2 l3
  k_lt2 l4
  k_lt2 l5
  k_lt2 l6
  k_lt2 l7
  refine wpAny_call ?_
  k_dflt cell_enter
  (repeat' (first | (k_unfold; (try dsimp only)) | (k_end; kc_close) | (first | (k_here; k_dflt ((with_reducible show wpAny _ _ (call (Value.ref 402) _) _ _ _); (refine' Mine.c_act_count (by k_asm) (by k_asm) (by k_asm) (by k_asm) (by k_asm) (by first | exact rfl | assumption) (by k_mem) (by k_mem) (by k_updF) (by (refine ltN ?_; first | (with_reducible assumption) | walk_at "om")) (by (refine ltN ?_; first | (with_reducible assumption) | walk_at "om")) (by ktr_room) (by ktr_units) ?_); intro kt'q h'q tk'q F'q N'q; (try dsimp only at N'q))) | (k_here; k_dflt ((with_reducible show wpAny _ _ (call (Value.ref 402) _) _ _ _); (refine' Mine.c_act_retry (by k_asm) (by k_asm) (by k_asm) (by k_asm) (by k_asm) (by first | exact rfl | assumption) (by k_mem) (by k_mem) (by k_mem) (by k_mem) (by k_mem) (by k_mem) (by k_updF) (by (refine ltN ?_; first | (with_reducible assumption) | walk_at "om")) (by (refine ltN ?_; first | (with_reducible assumption) | walk_at "om")) (by (refine ltN ?_; first | (with_reducible assumption) | walk_at "om")) (by (refine ltN ?_; first | (with_reducible assumption) | walk_at "om")) (by (refine ltN ?_; first | (with_reducible assumption) | walk_at "om")) (by (refine ltN ?_; first | (with_reducible assumption) | walk_at "om")) (by assumption) (by assumption) (by assumption) (by assumption) (by exact Nat.le_of_ble_eq_true rfl) (by ktr_room) (by ktr_units) ?_); intro ode'q t20'q h'q tk'q hd'q F'q N'q; (try dsimp only at N'q))) | (k_here; k_dflt ((with_reducible show wpAny _ _ (call (Value.ref 402) _) _ _ _); (refine' Mine.c_act_connect (by k_asm) (by k_asm) (by k_asm) (by k_asm) (by k_asm) (by first | exact rfl | assumption) (by k_mem) (by k_mem) (by k_mem) (by k_updF) (by (refine ltN ?_; first | (with_reducible assumption) | walk_at "om")) (by (refine ltN ?_; first | (with_reducible assumption) | walk_at "om")) (by (refine ltN ?_; first | (with_reducible assumption) | walk_at "om")) (by exact Nat.le_of_ble_eq_true rfl) (by ktr_room) (by ktr_units) ?_); intro h'q tk'q F'q N'q; (try dsimp only at N'q))) | (k_here; k_dflt ((with_reducible show wpAny _ _ (call (Value.ref 402) _) _ _ _); (refine' Mine.c_act_listen (by k_asm) (by k_asm) (by k_asm) (by k_asm) (by k_asm) (by first | exact rfl | assumption) (by k_mem) (by k_mem) (by k_mem) (by k_updF) (by (refine ltN ?_; first | (with_reducible assumption) | walk_at "om")) (by (refine ltN ?_; first | (with_reducible assumption) | walk_at "om")) (by (refine ltN ?_; first | (with_reducible assumption) | walk_at "om")) (by exact Nat.le_of_ble_eq_true rfl) (by ktr_room) (by ktr_units) ?_); intro h'q tk'q F'q N'q; (try dsimp only at N'q))) | (k_here; k_dflt ((with_reducible show wpAny _ _ (call (Value.ref 388) _) _ _ _); (refine' Mine.c_facts (by k_asm) (by k_asm) (by k_asm) (by k_asm) (by k_asm) (by first | exact rfl | assumption) (by k_mem) (by k_mem) (by k_mem) (by k_mem) (by k_mem) (by k_mem) (by assumption) (by assumption) (by assumption) (by assumption) (by rfl) (by ktr_room) (by ktr_units) ?_); intro fd'q od'q h'q tk'q l1 lo'q hd'q F'q N'q; (try k_lt l1))) | (k_here; k_dflt ((with_reducible show wpAny _ _ (call (Value.ref 134) [_, Value.str (Str.ofString "start") _, _]) _ _ _); (refine' Mine.c_next1 (by k_asm) (by k_asm) (by k_asm) (by k_asm) (by k_asm) (by first | exact rfl | assumption) (by ktr_room) (by ktr_units) ?_); intro a1'q a2'q a3'q a4'q d1'q d2'q q0'q q1'q q2'q q3'q q4'q q5'q q6'q h'q tk'q l1 l2 l3 l4 l5 l6 F'q N'q; (try k_lt l1); (k_lt2 l2); (k_lt2 l3); (k_lt2 l4); (k_lt2 l5); (k_lt2 l6))) | (k_here; k_dflt ((with_reducible show wpAny _ _ (call (Value.ref 326) _) _ _ _); (refine' Mine.c_stop_miss (by k_asm) (by k_asm) (by k_asm) (by k_asm) (by k_asm) (by first | exact rfl | assumption) (by k_mem) (by k_mem) (by k_mem) (by assumption) (by assumption) (by first | rfl | assumption) (by ktr_room) (by ktr_units) ?_); intro h'q tk'q F'q N'q)) | ((with_reducible show @ite _ _ _ _ _); (with_reducible refine Mine.ite_ff ?_))) | walk1 | (dsimp only; first | walk1 | (first | (k_here; k_dflt ((with_reducible show wpAny _ _ (call (Value.ref 402) _) _ _ _); (refine' Mine.c_act_count (by k_asm) (by k_asm) (by k_asm) (by k_asm) (by k_asm) (by first | exact rfl | assumption) (by k_mem) (by k_mem) (by k_updF) (by (refine ltN ?_; first | (with_reducible assumption) | walk_at "om")) (by (refine ltN ?_; first | (with_reducible assumption) | walk_at "om")) (by ktr_room) (by ktr_units) ?_); intro kt'q h'q tk'q F'q N'q; (try dsimp only at N'q))) | (k_here; k_dflt ((with_reducible show wpAny _ _ (call (Value.ref 402) _) _ _ _); (refine' Mine.c_act_retry (by k_asm) (by k_asm) (by k_asm) (by k_asm) (by k_asm) (by first | exact rfl | assumption) (by k_mem) (by k_mem) (by k_mem) (by k_mem) (by k_mem) (by k_mem) (by k_updF) (by (refine ltN ?_; first | (with_reducible assumption) | walk_at "om")) (by (refine ltN ?_; first | (with_reducible assumption) | walk_at "om")) (by (refine ltN ?_; first | (with_reducible assumption) | walk_at "om")) (by (refine ltN ?_; first | (with_reducible assumption) | walk_at "om")) (by (refine ltN ?_; first | (with_reducible assumption) | walk_at "om")) (by (refine ltN ?_; first | (with_reducible assumption) | walk_at "om")) (by assumption) (by assumption) (by assumption) (by assumption) (by exact Nat.le_of_ble_eq_true rfl) (by ktr_room) (by ktr_units) ?_); intro ode'q t20'q h'q tk'q hd'q F'q N'q; (try dsimp only at N'q))) | (k_here; k_dflt ((with_reducible show wpAny _ _ (call (Value.ref 402) _) _ _ _); (refine' Mine.c_act_connect (by k_asm) (by k_asm) (by k_asm) (by k_asm) (by k_asm) (by first | exact rfl | assumption) (by k_mem) (by k_mem) (by k_mem) (by k_updF) (by (refine ltN ?_; first | (with_reducible assumption) | walk_at "om")) (by (refine ltN ?_; first | (with_reducible assumption) | walk_at "om")) (by (refine ltN ?_; first | (with_reducible assumption) | walk_at "om")) (by exact Nat.le_of_ble_eq_true rfl) (by ktr_room) (by ktr_units) ?_); intro h'q tk'q F'q N'q; (try dsimp only at N'q))) | (k_here; k_dflt ((with_reducible show wpAny _ _ (call (Value.ref 402) _) _ _ _); (refine' Mine.c_act_listen (by k_asm) (by k_asm) (by k_asm) (by k_asm) (by k_asm) (by first | exact rfl | assumption) (by k_mem) (by k_mem) (by k_mem) (by k_updF) (by (refine ltN ?_; first | (with_reducible assumption) | walk_at "om")) (by (refine ltN ?_; first | (with_reducible assumption) | walk_at "om")) (by (refine ltN ?_; first | (with_reducible assumption) | walk_at "om")) (by exact Nat.le_of_ble_eq_true rfl) (by ktr_room) (by ktr_units) ?_); intro h'q tk'q F'q N'q; (try dsimp only at N'q))) | (k_here; k_dflt ((with_reducible show wpAny _ _ (call (Value.ref 388) _) _ _ _); (refine' Mine.c_facts (by k_asm) (by k_asm) (by k_asm) (by k_asm) (by k_asm) (by first | exact rfl | assumption) (by k_mem) (by k_mem) (by k_mem) (by k_mem) (by k_mem) (by k_mem) (by assumption) (by assumption) (by assumption) (by assumption) (by rfl) (by ktr_room) (by ktr_units) ?_); intro fd'q od'q h'q tk'q l1 lo'q hd'q F'q N'q; (try k_lt l1))) | (k_here; k_dflt ((with_reducible show wpAny _ _ (call (Value.ref 134) [_, Value.str (Str.ofString "start") _, _]) _ _ _); (refine' Mine.c_next1 (by k_asm) (by k_asm) (by k_asm) (by k_asm) (by k_asm) (by first | exact rfl | assumption) (by ktr_room) (by ktr_units) ?_); intro a1'q a2'q a3'q a4'q d1'q d2'q q0'q q1'q q2'q q3'q q4'q q5'q q6'q h'q tk'q l1 l2 l3 l4 l5 l6 F'q N'q; (try k_lt l1); (k_lt2 l2); (k_lt2 l3); (k_lt2 l4); (k_lt2 l5); (k_lt2 l6))) | (k_here; k_dflt ((with_reducible show wpAny _ _ (call (Value.ref 326) _) _ _ _); (refine' Mine.c_stop_miss (by k_asm) (by k_asm) (by k_asm) (by k_asm) (by k_asm) (by first | exact rfl | assumption) (by k_mem) (by k_mem) (by k_mem) (by assumption) (by assumption) (by first | rfl | assumption) (by ktr_room) (by ktr_units) ?_); intro h'q tk'q F'q N'q)) | ((with_reducible show @ite _ _ _ _ _); (with_reducible refine Mine.ite_ff ?_)))) | (leave1; try dsimp only)))
  all_goals (refine' hret _ _ _ _ _ _ ?hD ?hF ?hN; (case hN => (refine' cb_drop ?N0 ?hs0; (case N0 => assumption); (case hs0 => (repeat (first | exact List.forall_mem_nil _ | (refine' List.forall_mem_cons.mpr ⟨?_, ?_⟩; (k_mem))))))); (case hF => k_asm); (case hD => assumption))
set_option maxRecDepth 100000 in
set_option maxHeartbeats 0 in
theorem c_happen2 {sa ds ga wi ti dt de wl ul tl fa ca wa : Addr} {ode o : Obj} {opening : Array UInt8} {n own hold : Int} {u0 u1 u2 u3 u4 u5 u6 u7 k0 k1 k2 k3 k4 k5 k6 k7 k8 k9 k10 k11 k12 ko ks kl kx kh kt ke f0 f1 f2 t1 t2 t20 : Tok} {kf : Nat}
    (B : Below A₀ base outer h₀) (F : Fr h₀ L s.heap m) (X : (hd.heap_1 w.params).In h₀) (N : News h₀ L s.heap [(sa, instObj 482 ds), (ds, sessO w ga wi ti wl ul tl opening "connect" #[] #[] 0 0 k0 k1 k2 k3 k4 k5 k6 k7 k8 k9 k10 k11 k12 ko ks kl kx kh kt 13), (ti, instObj 355 dt), (dt, endsO w de ke), (de, ode), (ga, o), (fa, tupN [.int 0 f0, .int 0 f1, .bytes #[] f2] kf)])
    (T : Top vw loose mean mg mb h₀) (hk : cs.kind = .function)
    (l1 : ga < ds) (l2 : ds < sa) (l3 : sa < dt) (l4 : dt < ti) (l5 : ti < de) (l7 : de < fa)
    (lo : (ga == sysModules) = false) (lod : (de == sysModules) = false)
    (hd : o.IsDictOf (PySem.strKind PySem.Challenge.rw_rh0217_02.row.prog w) (cfgL n own hold ca wa u0 u1 u2 u3 u4 u5 u6 u7))
    (hde : ode.IsDictOf (PySem.strKind PySem.Challenge.rw_rh0217_02.row.prog w) [("retry", .int 20 t20)])
    (hz : opening.size ≤ 4096)
    (hdp : dp + 100 < recursionLimit) (hun : un + 300 < cLine)
    (hret : ∀ (ks' kt' kl' kx' : Tok) (h' : Heap) (tk' : Nat), Fr h₀ L h' m →
      News h₀ L h' [(sa, instObj 482 ds), (ds, sessO w ga wi ti wl ul tl opening "open_sent" #[] (#[] ++ opening) 0 0 k0 k1 k2 k3 k4 k5 k6 k7 k8 k9 k10 k11 k12 ko ks' kl' kx' kh kt' 13)] → Q .none { s with heap := h', toks := tk' }) :
    wpAny (model PySem.Challenge.rw_rh0217_02.row.prog w) (ktrTop dp un gd cn cs L a ccd cl outer) (call (.ref 395) [.ref sa, .str "connected" t1, .int 0 t2, .ref fa]) Q E s := by
  k_lt2 l1
  k_lt2 l2
  k_lt2 l3
  k_lt2 l4
  k_lt2 l5
  k_lt2 l7
  refine wpAny_call ?_
  k_dflt cell_enter
  (repeat' (first | (k_unfold; (try dsimp only)) | (k_end; kc_close) | (first | (k_here; k_dflt ((with_reducible show wpAny _ _ (call (Value.ref 402) _) _ _ _); (refine' Mine.c_act_clear_retry (by k_asm) (by k_asm) (by k_asm) (by k_asm) (by k_asm) (by first | exact rfl | assumption) (by k_mem) (by k_mem) (by k_mem) (by k_mem) (by k_mem) (by k_updF) (by (refine ltN ?_; first | (with_reducible assumption) | walk_at "om")) (by (refine ltN ?_; first | (with_reducible assumption) | walk_at "om")) (by (refine ltN ?_; first | (with_reducible assumption) | walk_at "om")) (by (refine ltN ?_; first | (with_reducible assumption) | walk_at "om")) (by (refine ltN ?_; first | (with_reducible assumption) | walk_at "om")) (by assumption) (by assumption) (by rfl) (by exact Nat.le_of_ble_eq_true rfl) (by ktr_room) (by ktr_units) ?_); intro ode'q h'q tk'q hd'q F'q N'q; (try dsimp only at N'q))) | (k_here; k_dflt ((with_reducible show wpAny _ _ (call (Value.ref 402) _) _ _ _); (refine' Mine.c_act_clear_delay (by k_asm) (by k_asm) (by k_asm) (by k_asm) (by k_asm) (by first | exact rfl | assumption) (by k_mem) (by k_mem) (by k_mem) (by k_mem) (by k_mem) (by k_updF) (by (refine ltN ?_; first | (with_reducible assumption) | walk_at "om")) (by (refine ltN ?_; first | (with_reducible assumption) | walk_at "om")) (by (refine ltN ?_; first | (with_reducible assumption) | walk_at "om")) (by (refine ltN ?_; first | (with_reducible assumption) | walk_at "om")) (by (refine ltN ?_; first | (with_reducible assumption) | walk_at "om")) (by assumption) (by assumption) (by rfl) (by ktr_room) (by ktr_units) ?_); intro h'q tk'q F'q N'q; (try dsimp only at N'q))) | (k_here; k_dflt ((with_reducible show wpAny _ _ (call (Value.ref 402) _) _ _ _); (refine' Mine.c_act_send (by k_asm) (by k_asm) (by k_asm) (by k_asm) (by k_asm) (by first | exact rfl | assumption) (by k_mem) (by k_mem) (by k_updF) (by (refine ltN ?_; first | (with_reducible assumption) | walk_at "om")) (by (refine ltN ?_; first | (with_reducible assumption) | walk_at "om")) (by (simp only [List.size_toArray, List.length_nil]; walk_at "om")) (by ktr_room) (by ktr_units) ?_); intro kx'q h'q tk'q F'q N'q; (try dsimp only at N'q))) | (k_here; k_dflt ((with_reducible show wpAny _ _ (call (Value.ref 402) _) _ _ _); (refine' Mine.c_act_hold (by k_asm) (by k_asm) (by k_asm) (by k_asm) (by k_asm) (by first | exact rfl | assumption) (by k_mem) (by k_mem) (by k_mem) (by k_mem) (by k_mem) (by k_mem) (by k_updF) (by (refine ltN ?_; first | (with_reducible assumption) | walk_at "om")) (by (refine ltN ?_; first | (with_reducible assumption) | walk_at "om")) (by (refine ltN ?_; first | (with_reducible assumption) | walk_at "om")) (by (refine ltN ?_; first | (with_reducible assumption) | walk_at "om")) (by (refine ltN ?_; first | (with_reducible assumption) | walk_at "om")) (by (refine ltN ?_; first | (with_reducible assumption) | walk_at "om")) (by assumption) (by assumption) (by assumption) (by assumption) (by exact Nat.le_of_ble_eq_true rfl) (by ktr_room) (by ktr_units) ?_); intro ode'q h'q tk'q F'q N'q; (try dsimp only at N'q))) | (k_here; k_dflt ((with_reducible show wpAny _ _ (call (Value.ref 388) _) _ _ _); (refine' Mine.c_facts (by k_asm) (by k_asm) (by k_asm) (by k_asm) (by k_asm) (by first | exact rfl | assumption) (by k_mem) (by k_mem) (by k_mem) (by k_mem) (by k_mem) (by k_mem) (by assumption) (by assumption) (by assumption) (by assumption) (by rfl) (by ktr_room) (by ktr_units) ?_); intro fd'q od'q h'q tk'q l1 lo'q hd'q F'q N'q; (try k_lt l1))) | (k_here; k_dflt ((with_reducible show wpAny _ _ (call (Value.ref 134) [_, Value.str (Str.ofString "connected") _, _]) _ _ _); (refine' Mine.c_next2 (by k_asm) (by k_asm) (by k_asm) (by k_asm) (by k_asm) (by first | exact rfl | assumption) (by assumption) (by ktr_room) (by ktr_units) ?_); intro a1'q a2'q a3'q a4'q d1'q d2'q q0'q q1'q q2'q q3'q q4'q q5'q q6'q q7'q q8'q h'q tk'q l1 l2 l3 l4 l5 l6 F'q N'q; (try k_lt l1); (k_lt2 l2); (k_lt2 l3); (k_lt2 l4); (k_lt2 l5); (k_lt2 l6))) | (k_here; k_dflt ((with_reducible show wpAny _ _ (call (Value.ref 326) _) _ _ _); (refine' Mine.c_stop_miss (by k_asm) (by k_asm) (by k_asm) (by k_asm) (by k_asm) (by first | exact rfl | assumption) (by k_mem) (by k_mem) (by k_mem) (by assumption) (by assumption) (by first | rfl | assumption) (by ktr_room) (by ktr_units) ?_); intro h'q tk'q F'q N'q)) | (k_here; (with_reducible show wpAny _ _ (compareOp CmpOp.In (Value.str _ _) (Value.ref _)) _ _ _); first | (with_unfolding_all refine' in_top_strs true (by first | exact kun_topT (by k_asm) (by k_asm) (by k_is) | exact News.isTup (by k_asm) (by k_mem)) (by kde_strs) (by decide) ?_; k_whole) | (with_unfolding_all refine' in_top_strs false (by first | exact kun_topT (by k_asm) (by k_asm) (by k_is) | exact News.isTup (by k_asm) (by k_mem)) (by kde_strs) (by decide) ?_; k_whole)) | ((with_reducible show @ite _ _ _ _ _); (with_reducible refine Mine.ite_ff ?_))) | walk1 | (dsimp only; first | walk1 | (first | (k_here; k_dflt ((with_reducible show wpAny _ _ (call (Value.ref 402) _) _ _ _); (refine' Mine.c_act_clear_retry (by k_asm) (by k_asm) (by k_asm) (by k_asm) (by k_asm) (by first | exact rfl | assumption) (by k_mem) (by k_mem) (by k_mem) (by k_mem) (by k_mem) (by k_updF) (by (refine ltN ?_; first | (with_reducible assumption) | walk_at "om")) (by (refine ltN ?_; first | (with_reducible assumption) | walk_at "om")) (by (refine ltN ?_; first | (with_reducible assumption) | walk_at "om")) (by (refine ltN ?_; first | (with_reducible assumption) | walk_at "om")) (by (refine ltN ?_; first | (with_reducible assumption) | walk_at "om")) (by assumption) (by assumption) (by rfl) (by exact Nat.le_of_ble_eq_true rfl) (by ktr_room) (by ktr_units) ?_); intro ode'q h'q tk'q hd'q F'q N'q; (try dsimp only at N'q))) | (k_here; k_dflt ((with_reducible show wpAny _ _ (call (Value.ref 402) _) _ _ _); (refine' Mine.c_act_clear_delay (by k_asm) (by k_asm) (by k_asm) (by k_asm) (by k_asm) (by first | exact rfl | assumption) (by k_mem) (by k_mem) (by k_mem) (by k_mem) (by k_mem) (by k_updF) (by (refine ltN ?_; first | (with_reducible assumption) | walk_at "om")) (by (refine ltN ?_; first | (with_reducible assumption) | walk_at "om")) (by (refine ltN ?_; first | (with_reducible assumption) | walk_at "om")) (by (refine ltN ?_; first | (with_reducible assumption) | walk_at "om")) (by (refine ltN ?_; first | (with_reducible assumption) | walk_at "om")) (by assumption) (by assumption) (by rfl) (by ktr_room) (by ktr_units) ?_); intro h'q tk'q F'q N'q; (try dsimp only at N'q))) | (k_here; k_dflt ((with_reducible show wpAny _ _ (call (Value.ref 402) _) _ _ _); (refine' Mine.c_act_send (by k_asm) (by k_asm) (by k_asm) (by k_asm) (by k_asm) (by first | exact rfl | assumption) (by k_mem) (by k_mem) (by k_updF) (by (refine ltN ?_; first | (with_reducible assumption) | walk_at "om")) (by (refine ltN ?_; first | (with_reducible assumption) | walk_at "om")) (by (simp only [List.size_toArray, List.length_nil]; walk_at "om")) (by ktr_room) (by ktr_units) ?_); intro kx'q h'q tk'q F'q N'q; (try dsimp only at N'q))) | (k_here; k_dflt ((with_reducible show wpAny _ _ (call (Value.ref 402) _) _ _ _); (refine' Mine.c_act_hold (by k_asm) (by k_asm) (by k_asm) (by k_asm) (by k_asm) (by first | exact rfl | assumption) (by k_mem) (by k_mem) (by k_mem) (by k_mem) (by k_mem) (by k_mem) (by k_updF) (by (refine ltN ?_; first | (with_reducible assumption) | walk_at "om")) (by (refine ltN ?_; first | (with_reducible assumption) | walk_at "om")) (by (refine ltN ?_; first | (with_reducible assumption) | walk_at "om")) (by (refine ltN ?_; first | (with_reducible assumption) | walk_at "om")) (by (refine ltN ?_; first | (with_reducible assumption) | walk_at "om")) (by (refine ltN ?_; first | (with_reducible assumption) | walk_at "om")) (by assumption) (by assumption) (by assumption) (by assumption) (by exact Nat.le_of_ble_eq_true rfl) (by ktr_room) (by ktr_units) ?_); intro ode'q h'q tk'q F'q N'q; (try dsimp only at N'q))) | (k_here; k_dflt ((with_reducible show wpAny _ _ (call (Value.ref 388) _) _ _ _); (refine' Mine.c_facts (by k_asm) (by k_asm) (by k_asm) (by k_asm) (by k_asm) (by first | exact rfl | assumption) (by k_mem) (by k_mem) (by k_mem) (by k_mem) (by k_mem) (by k_mem) (by assumption) (by assumption) (by assumption) (by assumption) (by rfl) (by ktr_room) (by ktr_units) ?_); intro fd'q od'q h'q tk'q l1 lo'q hd'q F'q N'q; (try k_lt l1))) | (k_here; k_dflt ((with_reducible show wpAny _ _ (call (Value.ref 134) [_, Value.str (Str.ofString "connected") _, _]) _ _ _); (refine' Mine.c_next2 (by k_asm) (by k_asm) (by k_asm) (by k_asm) (by k_asm) (by first | exact rfl | assumption) (by assumption) (by ktr_room) (by ktr_units) ?_); intro a1'q a2'q a3'q a4'q d1'q d2'q q0'q q1'q q2'q q3'q q4'q q5'q q6'q q7'q q8'q h'q tk'q l1 l2 l3 l4 l5 l6 F'q N'q; (try k_lt l1); (k_lt2 l2); (k_lt2 l3); (k_lt2 l4); (k_lt2 l5); (k_lt2 l6))) | (k_here; k_dflt ((with_reducible show wpAny _ _ (call (Value.ref 326) _) _ _ _); (refine' Mine.c_stop_miss (by k_asm) (by k_asm) (by k_asm) (by k_asm) (by k_asm) (by first | exact rfl | assumption) (by k_mem) (by k_mem) (by k_mem) (by assumption) (by assumption) (by first | rfl | assumption) (by ktr_room) (by ktr_units) ?_); intro h'q tk'q F'q N'q)) | (k_here; (with_reducible show wpAny _ _ (compareOp CmpOp.In (Value.str _ _) (Value.ref _)) _ _ _); first | (with_unfolding_all refine' in_top_strs true (by first | exact kun_topT (by k_asm) (by k_asm) (by k_is) | exact News.isTup (by k_asm) (by k_mem)) (by kde_strs) (by decide) ?_; k_whole) | (with_unfolding_all refine' in_top_strs false (by first | exact kun_topT (by k_asm) (by k_asm) (by k_is) | exact News.isTup (by k_asm) (by k_mem)) (by kde_strs) (by decide) ?_; k_whole)) | ((with_reducible show @ite _ _ _ _ _); (with_reducible refine Mine.ite_ff ?_)))) | (leave1; try dsimp only)))
  all_goals (refine' hret _ _ _ _ _ _ ?hF ?hN; (case hN => (refine' cb_drop ?N0 ?hs0; (case N0 => assumption); (case hs0 => (repeat (first | exact List.forall_mem_nil _ | (refine' List.forall_mem_cons.mpr ⟨?_, ?_⟩; (k_mem))))))); (case hF => k_asm))
end
end
end Mine
end
section
namespace Mine
noncomputable section
theorem fm (n : Int) {k : Int} (h : 0 ≤ k) : n.fmod k = n % k := Int.fmod_eq_emod_of_nonneg n h
theorem law2 (n : Int) : #[((n.fdiv 256).fmod 256).toNat.toUInt8, (n.fmod 256).toNat.toUInt8] = oct2 n := by
  rw [fd n (by decide), fm _ (by decide), fm _ (by decide)]; rfl
theorem law4 (n : Int) : #[((((n.fdiv 256).fdiv 256).fdiv 256).fmod 256).toNat.toUInt8, (((n.fdiv 256).fdiv 256).fmod 256).toNat.toUInt8, ((n.fdiv 256).fmod 256).toNat.toUInt8, (n.fmod 256).toNat.toUInt8] = oct4 n := by
  have e1 : n / 256 / 256 = n / 65536 := by omega
  have e2 : n / 65536 / 256 = n / 16777216 := by omega
  rw [fd n (by decide), fd _ (by decide), fd _ (by decide), fm _ (by decide), fm _ (by decide), fm _ (by decide), fm _ (by decide), e1, e2]; rfl
theorem UnrEnd.top {h₀ : Heap} {L I D : Addr} {it o : Obj} {q : Addr × Obj} {rest : (Str → Option Value) → List (Addr × Obj) → Prop} {s₁ : Shared} {h' : Heap} {tk : Nat} {m' : Str → Option Value} {tail news : List (Addr × Obj)} (F : Fr h₀ L h' m') (N : News h₀ L h' ((D, o) :: q :: (I, it) :: tail))
    (hs : ∀ p ∈ news, p ∈ tail) (hlt : AllLt I news) (hne : D ≠ I) (r : rest m' ((D, o) :: news)) : UnrEnd h₀ L s₁ I it rest { s₁ with heap := h', toks := tk } := by
  refine UnrEnd.intro F N ((D, o) :: news) (fun p hp => ?_) (fun p hp => ?_) r
  · rcases List.mem_cons.mp hp with rfl | hp
    · exact .tail _ (.tail _ (.head _))
    · rcases List.mem_cons.mp hp with rfl | hp
      · exact .head _
      · exact .tail _ (.tail _ (.tail _ (hs p hp)))
  · rcases List.mem_cons.mp hp with rfl | hp
    · exact hne
    · exact Nat.ne_of_lt (allLt_mem hlt p hp)
local macro_rules | `(tactic| walk_at "own1") => `(tactic| ((with_reducible show PySem.W.UnrEnd _ _ _ _ _ _ _); (k_here; k_dflt (refine' UnrEnd.top ?F ?N ?hs ?hlt ?hne ?_; (case N | F => assumption); (case hlt => first | (with_reducible assumption) | exact And.right (by assumption)); (case hs => (intro p hp; repeat (first | exact hp | apply List.mem_cons_of_mem))); (case hne => k_ne)))))
section
variable {vw : Program} {w : World} {loose : List Str} {mean : ExcName → Option Value} {mg mb : Str → Option Value} {dp un : Nat} {gd : Option (List Code)} {cn : Str} {cs : Scope} {a : Addr} {ccd : Value} {cl : List (Str × Addr)} {outer : List Env} {A₀ : Around} {base h₀ : Heap} {L : Addr} {m : Str → Option Value} {s : Shared} {Q : Value → Shared → Prop} {E : Value → Shared → Prop} {news : List (Addr × Obj)}
set_option maxRecDepth 100000 in
set_option maxHeartbeats 0 in
theorem c_oct2 {n : Int} {t1 t2 : Tok}
    (B : Below A₀ base outer h₀) (F : Fr h₀ L s.heap m) (X : (hd.heap_1 w.params).In h₀) (N : News h₀ L s.heap news) (T : Top vw loose mean mg mb h₀) (hk : cs.kind = .function)
    (h0 : 0 ≤ n) (h1 : n ≤ 65535)
    (hdp : dp + 20 < recursionLimit) (hun : un + 50 < cLine)
    (hret : ∀ (t : Tok) (h' : Heap) (tk' : Nat), Fr h₀ L h' m → News h₀ L h' news → Q (.bytes (oct2 n) t) { s with heap := h', toks := tk' }) :
    wpAny (model PySem.Challenge.rw_rh0217_02.row.prog w) (ktrTop dp un gd cn cs L a ccd cl outer) (call (.ref 790) [.int n t1, .int 2 t2]) Q E s := by
  refine wpAny_call ?_
  k_dflt cell_enter
  (repeat' (first | (k_unfold; (try dsimp only)) | (lge_end; wrow_closeG) | (first | ((with_reducible show PySem.W.UnrEnd _ _ _ _ _ _ _); walk_at "own1")) | walk1 | (dsimp only; first | walk1 | (first | ((with_reducible show PySem.W.UnrEnd _ _ _ _ _ _ _); walk_at "own1"))) | (leave1; try dsimp only) | wrow_closeG))
  all_goals (rw [law2])
  all_goals exact hret _ _ _ (by k_asm) (by first | k_asm | (refine' cb_drop ?N ?hs; (case N => assumption); (case hs => (intro p hp; repeat (first | exact hp | apply List.mem_cons_of_mem)))))
set_option maxRecDepth 100000 in
set_option maxHeartbeats 0 in
theorem c_oct4 {n : Int} {t1 t2 : Tok}
    (B : Below A₀ base outer h₀) (F : Fr h₀ L s.heap m) (X : (hd.heap_1 w.params).In h₀) (N : News h₀ L s.heap news) (T : Top vw loose mean mg mb h₀) (hk : cs.kind = .function)
    (h0 : 0 ≤ n) (h1 : n ≤ 4294967295)
    (hdp : dp + 20 < recursionLimit) (hun : un + 50 < cLine)
    (hret : ∀ (t : Tok) (h' : Heap) (tk' : Nat), Fr h₀ L h' m → News h₀ L h' news → Q (.bytes (oct4 n) t) { s with heap := h', toks := tk' }) :
    wpAny (model PySem.Challenge.rw_rh0217_02.row.prog w) (ktrTop dp un gd cn cs L a ccd cl outer) (call (.ref 790) [.int n t1, .int 4 t2]) Q E s := by
  refine wpAny_call ?_
  k_dflt cell_enter
  (repeat' (first | (k_unfold; (try dsimp only)) | (lge_end; wrow_closeG) | (first | ((with_reducible show PySem.W.UnrEnd _ _ _ _ _ _ _); walk_at "own1")) | walk1 | (dsimp only; first | walk1 | (first | ((with_reducible show PySem.W.UnrEnd _ _ _ _ _ _ _); walk_at "own1"))) | (leave1; try dsimp only) | wrow_closeG))
  all_goals (rw [law4])
  all_goals exact hret _ _ _ (by k_asm) (by first | k_asm | (refine' cb_drop ?N ?hs; (case N => assumption); (case hs => (intro p hp; repeat (first | exact hp | apply List.mem_cons_of_mem)))))
end
end
end Mine
end
section
namespace Mine
noncomputable section
section
variable {vw : Program} {w : World} {loose : List Str} {mean : ExcName → Option Value} {mg mb : Str → Option Value} {dp un : Nat} {gd : Option (List Code)} {cn : Str} {cs : Scope} {a : Addr} {ccd : Value} {cl : List (Str × Addr)} {outer : List Env} {A₀ : Around} {base h₀ : Heap} {L : Addr} {m : Str → Option Value} {s : Shared} {Q : Value → Shared → Prop} {E : Value → Shared → Prop} {news : List (Addr × Obj)}
set_option maxRecDepth 100000 in
set_option maxHeartbeats 0 in
theorem c_take {sa ds ga wi ti wl ul tl : Addr} {opening out : Array UInt8} {k0 k1 k2 k3 k4 k5 k6 k7 k8 k9 k10 k11 k12 ko ks kl kx kh kt : Tok}
    (B : Below A₀ base outer h₀) (F : Fr h₀ L s.heap m) (X : (hd.heap_1 w.params).In h₀) (N : News h₀ L s.heap [(sa, instObj 482 ds), (ds, sessO w ga wi ti wl ul tl opening "open_sent" #[] out 0 0 k0 k1 k2 k3 k4 k5 k6 k7 k8 k9 k10 k11 k12 ko ks kl kx kh kt 13)])
    (T : Top vw loose mean mg mb h₀) (hk : cs.kind = .function)
    (l2 : ds < sa)
    (hdp : dp + 20 < recursionLimit) (hun : un + 50 < cLine)
    (hret : ∀ (kx' : Tok) (h' : Heap) (tk' : Nat), Fr h₀ L h' m →
      News h₀ L h' [(sa, instObj 482 ds), (ds, sessO w ga wi ti wl ul tl opening "open_sent" #[] #[] 0 0 k0 k1 k2 k3 k4 k5 k6 k7 k8 k9 k10 k11 k12 ko ks kl kx' kh kt 13)] → Q (.bytes out kx) { s with heap := h', toks := tk' }) :
    wpAny (model PySem.Challenge.rw_rh0217_02.row.prog w) (ktrTop dp un gd cn cs L a ccd cl outer) (call (.ref 430) [.ref sa]) Q E s := by
  k_lt2 l2
  refine wpAny_call ?_
  k_dflt cell_enter
  (repeat' (first | (k_unfold; (try dsimp only)) | (k_end; kc_close) | walk1 | (dsimp only; first | walk1) | (leave1; try dsimp only)))
  all_goals (refine' hret _ _ _ ?hF ?hN; (case hN => (refine' cb_drop ?N0 ?hs0; (case N0 => assumption); (case hs0 => (repeat (first | exact List.forall_mem_nil _ | (refine' List.forall_mem_cons.mpr ⟨?_, ?_⟩; (k_mem))))))); (case hF => k_asm))
end
end
end Mine
end
section
namespace Mine
theorem cap_eq {code : Int} {b : Array UInt8} (h0 : 0 ≤ code) (h1 : code ≤ 255) (hb : b.size ≤ 253) : byteArr [code, (b.size : Int)] ++ b = capB code b := by
  have e1 : code % 256 = code := Int.emod_eq_of_lt h0 (by omega)
  have e2 : (b.size : Int) % 256 = b.size := Int.emod_eq_of_lt (by omega) (by omega)
  unfold capB oct1
  rw [e1, e2]
  rfl
theorem Caps.size {ca : Addr} {news : List (Addr × Obj)} {lot : Array UInt8} (h : Caps ca news lot) : lot.size ≤ 510 := by
  cases h with
  | none => exact Nat.zero_le _
  | one _ _ _ _ z => rw [capB_size]; omega
  | two _ _ _ _ _ z _ _ z' => rw [Array.size_append, capB_size, capB_size]; omega
theorem eq_lot {prog : Program} {w : World} {A : Around} {E : Value → Shared → Prop} {s : Shared} {b : Array UInt8} {t u : Tok} {Q : Value → Shared → Prop} (h1 : b.size = 0 → Q (.bool true) s) (h2 : 0 < b.size → Q (.bool false) s) : wpAny (model prog w) A (compareOp .Eq (.bytes b t) (.bytes #[] u)) Q E s := by
  by_cases h : b.size = 0
  · have e : b = #[] := Array.eq_empty_of_size_eq_zero h
    have h1' := h1 h
    clear h1 h2 h
    subst e
    exact eq_none h1'
  · exact eq_empty (by omega) (h2 (by omega))
theorem wholeB_size {n hold own : Int} {lot : Array UInt8} (h : lot.size ≤ 253) : (wholeB n hold own lot).size ≤ 4096 := by
  have := parB_size lot h
  simp only [wholeB, bodyB, Array.size_append, markB_size, oct1_size, oct2_size, oct4_size, byteArr_size, List.length_cons, List.length_nil]
  omega
theorem eq_whole {prog : Program} {w : World} {A : Around} {E : Value → Shared → Prop} {s : Shared} {b c : Array UInt8} {t u : Tok} {Q : Value → Shared → Prop} (e : b = c) (h : Q (.bool true) s) : wpAny (model prog w) A (compareOp .Eq (.bytes b t) (.bytes c u)) Q E s := by
  subst e
  refine eq_bytes ?_
  rw [beq_self_eq_true]
  exact h
theorem parB_zero {lot : Array UInt8} (h : lot.size = 0) : parB lot = #[] := by rw [parB, if_pos h]
theorem parB_pos {lot : Array UInt8} (h : 0 < lot.size) : parB lot = byteArr [2, (lot.size : Int)] ++ lot := by rw [parB, if_neg (by omega)]
theorem whole_law {n hold own : Int} {lot par : Array UInt8} (hp : parB lot = par) : #[] ++ wholeB n hold own lot =
    byteArr (List.replicate (Int.toNat 16) [255]).flatten ++ oct2 (19 + ((byteArr [4] ++ oct2 n ++ oct2 hold ++ oct4 own ++ byteArr [(par.size : Int)] ++ par).size : Int)) ++ byteArr [1] ++ (byteArr [4] ++ oct2 n ++ oct2 hold ++ oct4 own ++ byteArr [(par.size : Int)] ++ par) := by
  subst hp
  have hs : (19 + ((byteArr [4] ++ oct2 n ++ oct2 hold ++ oct4 own ++ byteArr [((parB lot).size : Int)] ++ parB lot).size : Int)) = 19 + ((parB lot).size + 10) := by
    simp only [Array.size_append, oct2_size, oct4_size, byteArr_size, List.length_cons, List.length_nil]; omega
  have hm : byteArr (List.replicate (Int.toNat 16) [255]).flatten = markB := rfl
  have h4 : byteArr [4] = oct1 4 := rfl
  rw [hs, hm, h4, Array.empty_append]
  rfl
theorem split_bad {prog : Program} {w : World} {o : Obj} {ca wa : Addr} {rest : List (Addr × Obj)} {lot : Array UInt8} {n hold own : Int} {u0 u1 u2 u3 u4 u5 u6 u7 : Tok} {G : Prop} (hc : Caps ca rest lot)
    (hd : o.IsDictOf (PySem.strKind prog w) [("as", .int n u0), ("id", .int own u1), ("hold", .int hold u2), ("caps", .ref ca), ("retry", .int 20 u3), ("delay", .int 0 u4), ("large_hold", .int 240 u5), ("idle_hold", .int 60 u6), ("without_open", .bool false), ("damp", .bool false), ("peer_as", .int 7 u7), ("is_internal", .bool false), ("is_confed", .bool false), ("wanted_caps", .ref wa)])
    (h1 : lot.size ≤ 510 → ((0 < hold ∧ hold < 3) ∨ 253 < lot.size ∨ 65535 < n ∨ 65535 < hold ∨ 4294967295 < own) → G)
    (h2 : lot.size ≤ 253 → n ≤ 65535 → hold ≤ 65535 → (hold < 1 ∨ 2 < hold) → own ≤ 4294967295 → G) : G := by
  by_cases b : (0 < hold ∧ hold < 3) ∨ 253 < lot.size ∨ 65535 < n ∨ 65535 < hold ∨ 4294967295 < own
  · exact h1 hc.size b
  · exact h2 (by omega) (by omega) (by omega) (by omega) (by omega)
def JoinV (h₀ : Heap) (L : Addr) (m : Str → Option Value) (news : List (Addr × Obj)) (s : Shared) (lot : Array UInt8) (v : Value) (s' : Shared) : Prop := ∃ t h tk, v = .bytes (parB lot) t ∧ s' = { s with heap := h, toks := tk } ∧ Fr h₀ L h m ∧ News h₀ L h news
theorem JoinV.intro {h₀ : Heap} {L : Addr} {m : Str → Option Value} {news : List (Addr × Obj)} {s : Shared} {lot b : Array UInt8} {t : Tok} {h : Heap} {tk : Nat} (e : parB lot = b) (F : Fr h₀ L h m) (N : News h₀ L h news) : JoinV h₀ L m news s lot (.bytes b t) { s with heap := h, toks := tk } := ⟨t, h, tk, by rw [e], rfl, F, N⟩
theorem join_val {M : Model} {A : Around} {E : Value → Shared → Prop} {s : Shared} {h₀ : Heap} {L : Addr} {m : Str → Option Value} {news : List (Addr × Obj)} {c : Sem Value} {Q : Value → Shared → Prop} {lot : Array UInt8} (z : lot.size ≤ 253) (_F : Fr h₀ L s.heap m) (_N : News h₀ L s.heap news)
    (h1 : wpAny M A c (JoinV h₀ L m news s lot) E s) (h2 : ∀ t h tk, Fr h₀ L h m → News h₀ L h news → (parB lot).size ≤ 255 → Q (.bytes (parB lot) t) { s with heap := h, toks := tk }) : wpAny M A c Q E s :=
  wpAny_mono h1 (fun v' s' hj => by obtain ⟨t, h, tk, rfl, rfl, F, N⟩ := hj; exact h2 t h tk F N (parB_size lot z)) fun _ _ x => x
local macro_rules | `(tactic| walk_at "own2") => `(tactic| (k_here; (with_reducible show wpAny _ _ (call (Value.ref 776) _) _ _ _); k_dflt (refine' c_pick2 ?B ?F ?X ?N ?T ?hk ?m ?U ?ne ?i ?l ?h0 ?h1 ?h2 ?h3 ?h4 ?h5 ?hd ?hu ?_; (case B | F | X | N | T => k_asm); (case hk => first | exact rfl | assumption); (case U => (intro t; k_upd)); (case m => k_mem); (case ne => k_ne); (case i => assumption); (case l | h0 | h1 => walk_at "om"); (case h2 => first | walk_at "om" | exact fmod_lo _ (by decide)); (case h3 => first | walk_at "om" | exact fmod_hi _ (by decide)); (case h4 | h5 => walk_at "om"); (case hd => ktr_room); (case hu => ktr_units)); intro r'q t'q t1'q h'q tk'q r0'q r1'q F'q N'q; (try dsimp only at N'q)))
local macro_rules | `(tactic| walk_at "own3") => `(tactic| ((with_reducible show wpAny _ _ (eval (Expr.Dict _ _ _) _) _ _ _); (k_here; k_dflt (refine' kdn_str ?q ?F ?N ?b ?a ?l ?e ?n ?_; (case q => rfl); (case F => k_asm); (case N => first | k_asm | exact News.nil); (case b => exact Top.nolimit (by k_asm)); (case a | l => rfl); (case e => exact List.cons_ne_nil _ _); (case n => exact Nat.le_of_ble_eq_true rfl)); intro d'q h'q o'q F'q N'q l1 lo'q hd'q; (try k_lt l1))))
local macro_rules | `(tactic| kba_in) => `(tactic| (exact in_rep (by walk_at "om") (by walk_at "om") _))
local macro_rules | `(tactic| kba_in) => `(tactic| (refine in_two ⟨?_, ?_⟩ ⟨?_, ?_⟩ <;> (first | walk_at "om" | ((simp only [Array.size_append, List.size_toArray, oct1_size, oct2_size, oct4_size, byteArr_size, List.length_cons, List.length_nil]); walk_at "om"))))
local macro_rules | `(tactic| kba_in) => `(tactic| (refine in_one ⟨?_, ?_⟩ <;> (first | walk_at "om" | ((simp only [Array.size_append, List.size_toArray, oct1_size, oct2_size, oct4_size, byteArr_size, List.length_cons, List.length_nil]); walk_at "om"))))
set_option maxRecDepth 100000 in
set_option maxHeartbeats 0 in
theorem law_walk : Walk := by
  intro loose lv d hrec
  cases hrec
  w_strict (k_go0; (all_goals try k_fold))
  (try k_fold)
  (repeat' (first | (k_unfold; (try dsimp only)) | (lge_end; wrow_closeG) | (first | (k_here; (with_reducible show wpAny _ _ (callWith _ (Value.ref 430) _ (backTo _ (starEach [] _)) []) _ _ _); k_dflt (refine' callWith_K0 (by exact Frag.In.keeps (by k_asm) (Fr.keep (by k_asm))) (by k_is) ?_; k_whole)) | (k_here; (with_reducible show wpAny _ _ (compareOp CmpOp.Eq (Value.bytes _ _) (Value.bytes #[] _)) _ _ _); refine eq_lot ?_ ?_ <;> intro z0'q) | (k_here; (with_reducible show wpAny _ _ (compareOp CmpOp.Eq (Value.bytes _ _) (Value.bytes _ _)) _ _ _); refine eq_whole (by exact whole_law rfl) ?_) | (k_here; (with_reducible show wpAny _ _ (call (Value.builtin "len") [Value.bytes _ _]) _ _ _); (refine len_bytes (by (first | walk_at "om" | ((simp only [Array.size_append, List.size_toArray, oct1_size, oct2_size, oct4_size, byteArr_size, List.length_cons, List.length_nil]; walk_at "om")))) ?_)) | (k_here; (with_reducible show wpAny _ _ (binaryOp Operator.Add (Value.bytes _ _) (Value.bytes _ _)) _ _ _); refine KBy.add_bytes (by (simp only [Array.size_append, List.size_toArray, oct1_size, oct2_size, oct4_size, byteArr_size, List.length_cons, List.length_nil]; walk_at "om")) ?_; intro t'q k'q) | ((with_reducible show wpAny _ _ (call (Value.builtin "bytes.join") _ _) _ _ _); (k_here; k_dflt (refine' join_lot (by k_asm) (by k_mem) (by assumption) ?_; k_whole); intro t'q k'q)) | ((with_reducible show Mine.TurnEnd _ _ _ _ _ _ _ _ _ _); (k_here; k_dflt (refine' TurnEnd.lot (by k_asm) (by k_asm) (by k_mem) (by (intro p hp; repeat (first | exact hp | apply List.mem_cons_of_mem)); first | done | fail) (by exact cap_eq (by assumption) (by assumption) (by assumption))))) | ((with_reducible show Mine.SrcP _ _ _ _ _ _ _ _ _ _ _ _ _ _ _); (k_here; k_dflt (refine' srcP_caps (by rfl) (by k_asm) (by k_asm) (by exact Caps.mono (by assumption) (by intro p hp; repeat (first | exact hp | apply List.mem_cons_of_mem)); first | done | fail) ?_ ?_); (intro code'q tc'q b'q tb'q hq0'q hq1'q hb'q g'q C'q oC'q m'q h'q tk'q led'q E'q hC'q hx'q hy'q F'q N'q sub'q); rotate_left; intro D'q ys'q h'q tk'q F'q N'q J'q; rotate_left)) | (k_here; (with_reducible show wpAny _ _ (eval (Expr.ListComp _ [⟨Expr.Tuple [_, _] _ _, Expr.Name _ _, [], 0⟩] _ _) _) _ _ _); k_dflt (refine Mine.comp_pairs (F₀ := by k_asm) (by with_unfolding_all rfl) (by decide) (by rfl) (by decide) (by rfl) (by rfl) (by decide) ?_)) | (k_here; (with_reducible show wpAny _ _ (call (Value.type _) [Value.ref _]) _ _ _); k_dflt (refine' caps_tuple (by k_asm) (by k_asm) (by assumption) (by assumption) ?_; k_whole); intro ca'q lot'q h'q rest'q F'q N'q hc'q) | ((with_reducible show Mine.TurnEnd _ _ _ _ _ _ _ _ _ _); (k_here; k_dflt (refine' TurnEnd.one (by k_asm) (by k_asm) (by k_mem) (by k_mem) (by (intro p hp; repeat (first | exact hp | apply List.mem_cons_of_mem)); first | done | fail) (by exact rep_size _ _ (by assumption) (by assumption))))) | ((with_reducible show Mine.SrcE _ _ _ _ _ _ _ _ _ _ _ _ _ _ _); (k_here; k_dflt (refine' srcE_caps (by rfl) (by k_asm) (by k_asm) (by k_mem) (by assumption) (by assumption) (by assumption) ?_ ?_); (first | (intro i'q z'q t'q t2'q hi'q hz0'q hz1'q C'q oC'q m'q h'q tk'q led'q E'q hC'q hx'q hy'q F'q N'q sub'q) | (intro D'q ys'q outs'q h'q tk'q F'q N'q G'q hn'q)); rotate_left; intro D'q ys'q outs'q h'q tk'q F'q N'q G'q hn'q; rotate_left)) | ((with_reducible show wpAny _ _ (call (Value.type "enumerate") _ _) _ _ _); (k_here; k_dflt (refine' call_enum (by k_asm) (by k_asm) (by k_mem) ?_; k_whole); intro e'q it'q h'q F'q N'q off'q ne'q)) | (k_here; (with_reducible show wpAny _ _ (eval (Expr.ListComp _ [⟨Expr.Tuple [_, _] _ _, Expr.Call _ _ _ _, [], 0⟩] _ _) _) _ _ _); k_dflt (refine Mine.comp_enum (F₀ := by k_asm) (by with_unfolding_all rfl) (by decide) (by rfl) (by decide) (by rfl) (by rfl) (by decide) ?_)) | ((with_reducible show wpAny _ _ (eval (Expr.Dict _ _ _) _) _ _ _); walk_at "own3") | (k_here; (with_reducible show wpAny _ _ (execs (Stmt.Assign [Expr.Name (Str.ofString "session") _] _ _ :: _) _) _ _ _); refine Halt.mk ?_) | (k_here; (with_reducible show wpAny _ _ (subscriptTail _ _ (Value.ref _) (Value.int _ _)) _ _ _); k_dflt (refine' item_sizes (vs := [_, _, _, _, _, _]) (by k_asm) (by is_list) (by assumption) (by assumption) (by exact Nat.le_of_ble_eq_true rfl) (by (repeat (first | exact List.forall_mem_nil _ | (refine List.forall_mem_cons.mpr ⟨⟨_, _, _, rfl, by k_mem, by first | exact Sz.nil | exact Sz.one (by decide) | exact Sz.two (by decide) (by decide)⟩, ?_⟩))); first | done | fail) ?_; k_whole); intro sa'q its'q n'q N'q hz'q) | (k_here; (with_reducible show wpAny _ _ (execs (Stmt.Assign [Expr.Name (Str.ofString "sizes") _] _ _ :: _) _) _ _ _); refine Halt.mk ?_) | (k_here; (with_reducible show wpAny _ _ (subscriptTail _ _ (Value.ref _) (Value.int _ _)) _ _ _); k_dflt (refine' item_ints (by is_list) (by l_intsW) (by assumption) (by assumption) (by decide) ?_; k_whole); intro n'q t'q hn'q; (try simp only [List.mem_cons, List.not_mem_nil, or_false, p32] at hn'q); (first | (have hb'q : 0 ≤ n'q ∧ n'q ≠ 1 ∧ n'q ≤ 4294967296 := (by walk_at "om")) | (have hb'q : 0 ≤ n'q := (by walk_at "om"))); clear hn'q) | walk_at "own2" | ((with_reducible show Mine.JoinV _ _ _ _ _ _ _ _); (k_here; k_dflt (refine' JoinV.intro (by first | exact parB_zero (by assumption) | exact parB_pos (by assumption)) (by k_asm) (by first | k_asm | (refine' cb_drop (by assumption) (by (intro p hp; repeat (first | exact hp | apply List.mem_cons_of_mem)); first | done | fail)); first | done | fail)))) | (k_here; (with_reducible show wpAny _ _ (eval (Expr.IfExp _ _ _ _) _) _ _ _); k_dflt (refine' join_val (by assumption) (by k_asm) (by k_asm) ?_ ?_); rotate_left; intro t'q h'q tk'q F'q N'q z'q; rotate_left; walk1) | (k_here; k_dflt ((with_reducible show wpAny _ _ (call (Value.ref 430) _) _ _ _); (refine' Mine.c_take (by k_asm) (by k_asm) (by k_asm) (by (refine' cb_drop (by assumption) (by (repeat (first | exact List.forall_mem_nil _ | (refine' List.forall_mem_cons.mpr ⟨?_, ?_⟩; (k_mem)))); first | done | fail)); first | done | fail) (by k_asm) (by first | exact rfl | assumption) (by (refine ltN ?_; first | (with_reducible assumption) | walk_at "om")) (by ktr_room) (by ktr_units) ?_); intro kx'q h'q tk'q F'q N'q)) | (k_here; k_dflt ((with_reducible show wpAny _ _ (call (Value.ref 790) [_, Value.int 2 _]) _ _ _); (refine' Mine.c_oct2 (by k_asm) (by k_asm) (by k_asm) (by k_asm) (by k_asm) (by first | exact rfl | assumption) (by (first | walk_at "om" | ((simp only [Array.size_append, List.size_toArray, oct1_size, oct2_size, oct4_size, byteArr_size, List.length_cons, List.length_nil]); walk_at "om"))) (by (first | walk_at "om" | ((simp only [Array.size_append, List.size_toArray, oct1_size, oct2_size, oct4_size, byteArr_size, List.length_cons, List.length_nil]); walk_at "om"))) (by ktr_room) (by ktr_units) ?_); intro t'q h'q tk'q F'q N'q)) | (k_here; k_dflt ((with_reducible show wpAny _ _ (call (Value.ref 790) [_, Value.int 4 _]) _ _ _); (refine' Mine.c_oct4 (by k_asm) (by k_asm) (by k_asm) (by k_asm) (by k_asm) (by first | exact rfl | assumption) (by (first | walk_at "om" | ((simp only [Array.size_append, List.size_toArray, oct1_size, oct2_size, oct4_size, byteArr_size, List.length_cons, List.length_nil]); walk_at "om"))) (by (first | walk_at "om" | ((simp only [Array.size_append, List.size_toArray, oct1_size, oct2_size, oct4_size, byteArr_size, List.length_cons, List.length_nil]); walk_at "om"))) (by ktr_room) (by ktr_units) ?_); intro t'q h'q tk'q F'q N'q)) | (k_here; k_dflt ((with_reducible show wpAny _ _ (call (Value.ref 395) [_, Value.str (Str.ofString "start") _, _, _]) _ _ _); (refine' Mine.c_happen1 (by k_asm) (by k_asm) (by k_asm) (by (refine' cb_drop (by assumption) (by (repeat (first | exact List.forall_mem_nil _ | (refine' List.forall_mem_cons.mpr ⟨?_, ?_⟩; (k_mem)))); first | done | fail)); first | done | fail) (by k_asm) (by first | exact rfl | assumption) (by (refine ltN ?_; first | (with_reducible assumption) | walk_at "om")) (by (refine ltN ?_; first | (with_reducible assumption) | walk_at "om")) (by (refine ltN ?_; first | (with_reducible assumption) | walk_at "om")) (by (refine ltN ?_; first | (with_reducible assumption) | walk_at "om")) (by (refine ltN ?_; first | (with_reducible assumption) | walk_at "om")) (by (refine ltN ?_; first | (with_reducible assumption) | walk_at "om")) (by (refine ltN ?_; first | (with_reducible assumption) | walk_at "om")) (by assumption) (by assumption) (by assumption) (by assumption) (by ktr_room) (by ktr_units) ?_); intro ode'q ks'q kt'q t20'q h'q tk'q hD'q F'q N'q)) | (k_here; k_dflt ((with_reducible show wpAny _ _ (call (Value.ref 395) [_, Value.str (Str.ofString "connected") _, _, _]) _ _ _); (refine' Mine.c_happen2 (by k_asm) (by k_asm) (by k_asm) (by (refine' cb_drop (by assumption) (by (repeat (first | exact List.forall_mem_nil _ | (refine' List.forall_mem_cons.mpr ⟨?_, ?_⟩; (k_mem)))); first | done | fail)); first | done | fail) (by k_asm) (by first | exact rfl | assumption) (by (refine ltN ?_; first | (with_reducible assumption) | walk_at "om")) (by (refine ltN ?_; first | (with_reducible assumption) | walk_at "om")) (by (refine ltN ?_; first | (with_reducible assumption) | walk_at "om")) (by (refine ltN ?_; first | (with_reducible assumption) | walk_at "om")) (by (refine ltN ?_; first | (with_reducible assumption) | walk_at "om")) (by (refine ltN ?_; first | (with_reducible assumption) | walk_at "om")) (by assumption) (by assumption) (by assumption) (by assumption) (by exact wholeB_size (by assumption)) (by ktr_room) (by ktr_units) ?_); intro ks'q kt'q kl'q kx'q h'q tk'q F'q N'q)) | (k_here; k_dflt ((with_reducible show wpAny _ _ (call (Value.ref 783) _) _ _ _); (refine' Mine.c_made_ok (by k_asm) (by k_asm) (by k_asm) (by k_asm) (by k_asm) (by k_asm) (by k_asm) (by first | exact rfl | assumption) (by assumption) (by assumption) (by assumption) (by walk_at "om") (by walk_at "om") (by walk_at "om") (by walk_at "om") (by ktr_room) (by ktr_units) ?_); intro sa'q ds'q wi'q ti'q dt'q de'q wl'q ul'q tl'q ode'q k0'q k1'q k2'q k3'q k4'q k5'q k6'q k7'q k8'q k9'q k10'q k11'q k12'q ko'q ks'q kl'q kx'q kh'q kt'q ke'q h'q tk'q l1'q l2'q l3'q l4'q l5'q l6'q l7'q l8'q lo'q hs'q F'q N'q; (k_lt2 l1'q); (k_lt2 l2'q); (k_lt2 l3'q); (k_lt2 l4'q); (k_lt2 l5'q); (k_lt2 l6'q); (k_lt2 l7'q); (k_lt2 l8'q))) | (k_here; k_dflt ((with_reducible show wpAny _ _ (call (Value.ref 783) _) _ _ _); (refine' Mine.c_made_bad (by k_asm) (by k_asm) (by k_asm) (by k_asm) (by k_asm) (by k_asm) (by k_asm) (by first | exact rfl | assumption) (by assumption) (by assumption) (by assumption) (by walk_at "om") (by walk_at "om") (by walk_at "om") (by assumption) (by ktr_room) (by ktr_units) ?_); intro h'q tk'q F'q N'q)) | ((with_reducible show wpAny _ _ (getMethod (Value.bytes _ _) _ _) _ _ _); (k_here; refine join_method ?_))) | walk1 | (dsimp only; first | walk1 | (first | (k_here; (with_reducible show wpAny _ _ (callWith _ (Value.ref 430) _ (backTo _ (starEach [] _)) []) _ _ _); k_dflt (refine' callWith_K0 (by exact Frag.In.keeps (by k_asm) (Fr.keep (by k_asm))) (by k_is) ?_; k_whole)) | (k_here; (with_reducible show wpAny _ _ (compareOp CmpOp.Eq (Value.bytes _ _) (Value.bytes #[] _)) _ _ _); refine eq_lot ?_ ?_ <;> intro z0'q) | (k_here; (with_reducible show wpAny _ _ (compareOp CmpOp.Eq (Value.bytes _ _) (Value.bytes _ _)) _ _ _); refine eq_whole (by exact whole_law rfl) ?_) | (k_here; (with_reducible show wpAny _ _ (call (Value.builtin "len") [Value.bytes _ _]) _ _ _); (refine len_bytes (by (first | walk_at "om" | ((simp only [Array.size_append, List.size_toArray, oct1_size, oct2_size, oct4_size, byteArr_size, List.length_cons, List.length_nil]; walk_at "om")))) ?_)) | (k_here; (with_reducible show wpAny _ _ (binaryOp Operator.Add (Value.bytes _ _) (Value.bytes _ _)) _ _ _); refine KBy.add_bytes (by (simp only [Array.size_append, List.size_toArray, oct1_size, oct2_size, oct4_size, byteArr_size, List.length_cons, List.length_nil]; walk_at "om")) ?_; intro t'q k'q) | ((with_reducible show wpAny _ _ (call (Value.builtin "bytes.join") _ _) _ _ _); (k_here; k_dflt (refine' join_lot (by k_asm) (by k_mem) (by assumption) ?_; k_whole); intro t'q k'q)) | ((with_reducible show Mine.TurnEnd _ _ _ _ _ _ _ _ _ _); (k_here; k_dflt (refine' TurnEnd.lot (by k_asm) (by k_asm) (by k_mem) (by (intro p hp; repeat (first | exact hp | apply List.mem_cons_of_mem)); first | done | fail) (by exact cap_eq (by assumption) (by assumption) (by assumption))))) | ((with_reducible show Mine.SrcP _ _ _ _ _ _ _ _ _ _ _ _ _ _ _); (k_here; k_dflt (refine' srcP_caps (by rfl) (by k_asm) (by k_asm) (by exact Caps.mono (by assumption) (by intro p hp; repeat (first | exact hp | apply List.mem_cons_of_mem)); first | done | fail) ?_ ?_); (intro code'q tc'q b'q tb'q hq0'q hq1'q hb'q g'q C'q oC'q m'q h'q tk'q led'q E'q hC'q hx'q hy'q F'q N'q sub'q); rotate_left; intro D'q ys'q h'q tk'q F'q N'q J'q; rotate_left)) | (k_here; (with_reducible show wpAny _ _ (eval (Expr.ListComp _ [⟨Expr.Tuple [_, _] _ _, Expr.Name _ _, [], 0⟩] _ _) _) _ _ _); k_dflt (refine Mine.comp_pairs (F₀ := by k_asm) (by with_unfolding_all rfl) (by decide) (by rfl) (by decide) (by rfl) (by rfl) (by decide) ?_)) | (k_here; (with_reducible show wpAny _ _ (call (Value.type _) [Value.ref _]) _ _ _); k_dflt (refine' caps_tuple (by k_asm) (by k_asm) (by assumption) (by assumption) ?_; k_whole); intro ca'q lot'q h'q rest'q F'q N'q hc'q) | ((with_reducible show Mine.TurnEnd _ _ _ _ _ _ _ _ _ _); (k_here; k_dflt (refine' TurnEnd.one (by k_asm) (by k_asm) (by k_mem) (by k_mem) (by (intro p hp; repeat (first | exact hp | apply List.mem_cons_of_mem)); first | done | fail) (by exact rep_size _ _ (by assumption) (by assumption))))) | ((with_reducible show Mine.SrcE _ _ _ _ _ _ _ _ _ _ _ _ _ _ _); (k_here; k_dflt (refine' srcE_caps (by rfl) (by k_asm) (by k_asm) (by k_mem) (by assumption) (by assumption) (by assumption) ?_ ?_); (first | (intro i'q z'q t'q t2'q hi'q hz0'q hz1'q C'q oC'q m'q h'q tk'q led'q E'q hC'q hx'q hy'q F'q N'q sub'q) | (intro D'q ys'q outs'q h'q tk'q F'q N'q G'q hn'q)); rotate_left; intro D'q ys'q outs'q h'q tk'q F'q N'q G'q hn'q; rotate_left)) | ((with_reducible show wpAny _ _ (call (Value.type "enumerate") _ _) _ _ _); (k_here; k_dflt (refine' call_enum (by k_asm) (by k_asm) (by k_mem) ?_; k_whole); intro e'q it'q h'q F'q N'q off'q ne'q)) | (k_here; (with_reducible show wpAny _ _ (eval (Expr.ListComp _ [⟨Expr.Tuple [_, _] _ _, Expr.Call _ _ _ _, [], 0⟩] _ _) _) _ _ _); k_dflt (refine Mine.comp_enum (F₀ := by k_asm) (by with_unfolding_all rfl) (by decide) (by rfl) (by decide) (by rfl) (by rfl) (by decide) ?_)) | ((with_reducible show wpAny _ _ (eval (Expr.Dict _ _ _) _) _ _ _); walk_at "own3") | (k_here; (with_reducible show wpAny _ _ (execs (Stmt.Assign [Expr.Name (Str.ofString "session") _] _ _ :: _) _) _ _ _); refine Halt.mk ?_) | (k_here; (with_reducible show wpAny _ _ (subscriptTail _ _ (Value.ref _) (Value.int _ _)) _ _ _); k_dflt (refine' item_sizes (vs := [_, _, _, _, _, _]) (by k_asm) (by is_list) (by assumption) (by assumption) (by exact Nat.le_of_ble_eq_true rfl) (by (repeat (first | exact List.forall_mem_nil _ | (refine List.forall_mem_cons.mpr ⟨⟨_, _, _, rfl, by k_mem, by first | exact Sz.nil | exact Sz.one (by decide) | exact Sz.two (by decide) (by decide)⟩, ?_⟩))); first | done | fail) ?_; k_whole); intro sa'q its'q n'q N'q hz'q) | (k_here; (with_reducible show wpAny _ _ (execs (Stmt.Assign [Expr.Name (Str.ofString "sizes") _] _ _ :: _) _) _ _ _); refine Halt.mk ?_) | (k_here; (with_reducible show wpAny _ _ (subscriptTail _ _ (Value.ref _) (Value.int _ _)) _ _ _); k_dflt (refine' item_ints (by is_list) (by l_intsW) (by assumption) (by assumption) (by decide) ?_; k_whole); intro n'q t'q hn'q; (try simp only [List.mem_cons, List.not_mem_nil, or_false, p32] at hn'q); (first | (have hb'q : 0 ≤ n'q ∧ n'q ≠ 1 ∧ n'q ≤ 4294967296 := (by walk_at "om")) | (have hb'q : 0 ≤ n'q := (by walk_at "om"))); clear hn'q) | walk_at "own2" | ((with_reducible show Mine.JoinV _ _ _ _ _ _ _ _); (k_here; k_dflt (refine' JoinV.intro (by first | exact parB_zero (by assumption) | exact parB_pos (by assumption)) (by k_asm) (by first | k_asm | (refine' cb_drop (by assumption) (by (intro p hp; repeat (first | exact hp | apply List.mem_cons_of_mem)); first | done | fail)); first | done | fail)))) | (k_here; (with_reducible show wpAny _ _ (eval (Expr.IfExp _ _ _ _) _) _ _ _); k_dflt (refine' join_val (by assumption) (by k_asm) (by k_asm) ?_ ?_); rotate_left; intro t'q h'q tk'q F'q N'q z'q; rotate_left; walk1) | (k_here; k_dflt ((with_reducible show wpAny _ _ (call (Value.ref 430) _) _ _ _); (refine' Mine.c_take (by k_asm) (by k_asm) (by k_asm) (by (refine' cb_drop (by assumption) (by (repeat (first | exact List.forall_mem_nil _ | (refine' List.forall_mem_cons.mpr ⟨?_, ?_⟩; (k_mem)))); first | done | fail)); first | done | fail) (by k_asm) (by first | exact rfl | assumption) (by (refine ltN ?_; first | (with_reducible assumption) | walk_at "om")) (by ktr_room) (by ktr_units) ?_); intro kx'q h'q tk'q F'q N'q)) | (k_here; k_dflt ((with_reducible show wpAny _ _ (call (Value.ref 790) [_, Value.int 2 _]) _ _ _); (refine' Mine.c_oct2 (by k_asm) (by k_asm) (by k_asm) (by k_asm) (by k_asm) (by first | exact rfl | assumption) (by (first | walk_at "om" | ((simp only [Array.size_append, List.size_toArray, oct1_size, oct2_size, oct4_size, byteArr_size, List.length_cons, List.length_nil]); walk_at "om"))) (by (first | walk_at "om" | ((simp only [Array.size_append, List.size_toArray, oct1_size, oct2_size, oct4_size, byteArr_size, List.length_cons, List.length_nil]); walk_at "om"))) (by ktr_room) (by ktr_units) ?_); intro t'q h'q tk'q F'q N'q)) | (k_here; k_dflt ((with_reducible show wpAny _ _ (call (Value.ref 790) [_, Value.int 4 _]) _ _ _); (refine' Mine.c_oct4 (by k_asm) (by k_asm) (by k_asm) (by k_asm) (by k_asm) (by first | exact rfl | assumption) (by (first | walk_at "om" | ((simp only [Array.size_append, List.size_toArray, oct1_size, oct2_size, oct4_size, byteArr_size, List.length_cons, List.length_nil]); walk_at "om"))) (by (first | walk_at "om" | ((simp only [Array.size_append, List.size_toArray, oct1_size, oct2_size, oct4_size, byteArr_size, List.length_cons, List.length_nil]); walk_at "om"))) (by ktr_room) (by ktr_units) ?_); intro t'q h'q tk'q F'q N'q)) | (k_here; k_dflt ((with_reducible show wpAny _ _ (call (Value.ref 395) [_, Value.str (Str.ofString "start") _, _, _]) _ _ _); (refine' Mine.c_happen1 (by k_asm) (by k_asm) (by k_asm) (by (refine' cb_drop (by assumption) (by (repeat (first | exact List.forall_mem_nil _ | (refine' List.forall_mem_cons.mpr ⟨?_, ?_⟩; (k_mem)))); first | done | fail)); first | done | fail) (by k_asm) (by first | exact rfl | assumption) (by (refine ltN ?_; first | (with_reducible assumption) | walk_at "om")) (by (refine ltN ?_; first | (with_reducible assumption) | walk_at "om")) (by (refine ltN ?_; first | (with_reducible assumption) | walk_at "om")) (by (refine ltN ?_; first | (with_reducible assumption) | walk_at "om")) (by (refine ltN ?_; first | (with_reducible assumption) | walk_at "om")) (by (refine ltN ?_; first | (with_reducible assumption) | walk_at "om")) (by (refine ltN ?_; first | (with_reducible assumption) | walk_at "om")) (by assumption) (by assumption) (by assumption) (by assumption) (by ktr_room) (by ktr_units) ?_); intro ode'q ks'q kt'q t20'q h'q tk'q hD'q F'q N'q)) | (k_here; k_dflt ((with_reducible show wpAny _ _ (call (Value.ref 395) [_, Value.str (Str.ofString "connected") _, _, _]) _ _ _); (refine' Mine.c_happen2 (by k_asm) (by k_asm) (by k_asm) (by (refine' cb_drop (by assumption) (by (repeat (first | exact List.forall_mem_nil _ | (refine' List.forall_mem_cons.mpr ⟨?_, ?_⟩; (k_mem)))); first | done | fail)); first | done | fail) (by k_asm) (by first | exact rfl | assumption) (by (refine ltN ?_; first | (with_reducible assumption) | walk_at "om")) (by (refine ltN ?_; first | (with_reducible assumption) | walk_at "om")) (by (refine ltN ?_; first | (with_reducible assumption) | walk_at "om")) (by (refine ltN ?_; first | (with_reducible assumption) | walk_at "om")) (by (refine ltN ?_; first | (with_reducible assumption) | walk_at "om")) (by (refine ltN ?_; first | (with_reducible assumption) | walk_at "om")) (by assumption) (by assumption) (by assumption) (by assumption) (by exact wholeB_size (by assumption)) (by ktr_room) (by ktr_units) ?_); intro ks'q kt'q kl'q kx'q h'q tk'q F'q N'q)) | (k_here; k_dflt ((with_reducible show wpAny _ _ (call (Value.ref 783) _) _ _ _); (refine' Mine.c_made_ok (by k_asm) (by k_asm) (by k_asm) (by k_asm) (by k_asm) (by k_asm) (by k_asm) (by first | exact rfl | assumption) (by assumption) (by assumption) (by assumption) (by walk_at "om") (by walk_at "om") (by walk_at "om") (by walk_at "om") (by ktr_room) (by ktr_units) ?_); intro sa'q ds'q wi'q ti'q dt'q de'q wl'q ul'q tl'q ode'q k0'q k1'q k2'q k3'q k4'q k5'q k6'q k7'q k8'q k9'q k10'q k11'q k12'q ko'q ks'q kl'q kx'q kh'q kt'q ke'q h'q tk'q l1'q l2'q l3'q l4'q l5'q l6'q l7'q l8'q lo'q hs'q F'q N'q; (k_lt2 l1'q); (k_lt2 l2'q); (k_lt2 l3'q); (k_lt2 l4'q); (k_lt2 l5'q); (k_lt2 l6'q); (k_lt2 l7'q); (k_lt2 l8'q))) | (k_here; k_dflt ((with_reducible show wpAny _ _ (call (Value.ref 783) _) _ _ _); (refine' Mine.c_made_bad (by k_asm) (by k_asm) (by k_asm) (by k_asm) (by k_asm) (by k_asm) (by k_asm) (by first | exact rfl | assumption) (by assumption) (by assumption) (by assumption) (by walk_at "om") (by walk_at "om") (by walk_at "om") (by assumption) (by ktr_room) (by ktr_units) ?_); intro h'q tk'q F'q N'q)) | ((with_reducible show wpAny _ _ (getMethod (Value.bytes _ _) _ _) _ _ _); (k_here; refine join_method ?_)))) | (leave1; try dsimp only) | wrow_closeG))
  refine Halt.go ?_
  (try k_fold)
  refine wpAny_execs_cons ?_
  (repeat' (first | (k_unfold; (try dsimp only)) | (lge_end; wrow_closeG) | (first | (k_here; (with_reducible show wpAny _ _ (callWith _ (Value.ref 430) _ (backTo _ (starEach [] _)) []) _ _ _); k_dflt (refine' callWith_K0 (by exact Frag.In.keeps (by k_asm) (Fr.keep (by k_asm))) (by k_is) ?_; k_whole)) | (k_here; (with_reducible show wpAny _ _ (compareOp CmpOp.Eq (Value.bytes _ _) (Value.bytes #[] _)) _ _ _); refine eq_lot ?_ ?_ <;> intro z0'q) | (k_here; (with_reducible show wpAny _ _ (compareOp CmpOp.Eq (Value.bytes _ _) (Value.bytes _ _)) _ _ _); refine eq_whole (by exact whole_law rfl) ?_) | (k_here; (with_reducible show wpAny _ _ (call (Value.builtin "len") [Value.bytes _ _]) _ _ _); (refine len_bytes (by (first | walk_at "om" | ((simp only [Array.size_append, List.size_toArray, oct1_size, oct2_size, oct4_size, byteArr_size, List.length_cons, List.length_nil]; walk_at "om")))) ?_)) | (k_here; (with_reducible show wpAny _ _ (binaryOp Operator.Add (Value.bytes _ _) (Value.bytes _ _)) _ _ _); refine KBy.add_bytes (by (simp only [Array.size_append, List.size_toArray, oct1_size, oct2_size, oct4_size, byteArr_size, List.length_cons, List.length_nil]; walk_at "om")) ?_; intro t'q k'q) | ((with_reducible show wpAny _ _ (call (Value.builtin "bytes.join") _ _) _ _ _); (k_here; k_dflt (refine' join_lot (by k_asm) (by k_mem) (by assumption) ?_; k_whole); intro t'q k'q)) | ((with_reducible show Mine.TurnEnd _ _ _ _ _ _ _ _ _ _); (k_here; k_dflt (refine' TurnEnd.lot (by k_asm) (by k_asm) (by k_mem) (by (intro p hp; repeat (first | exact hp | apply List.mem_cons_of_mem)); first | done | fail) (by exact cap_eq (by assumption) (by assumption) (by assumption))))) | ((with_reducible show Mine.SrcP _ _ _ _ _ _ _ _ _ _ _ _ _ _ _); (k_here; k_dflt (refine' srcP_caps (by rfl) (by k_asm) (by k_asm) (by exact Caps.mono (by assumption) (by intro p hp; repeat (first | exact hp | apply List.mem_cons_of_mem)); first | done | fail) ?_ ?_); (intro code'q tc'q b'q tb'q hq0'q hq1'q hb'q g'q C'q oC'q m'q h'q tk'q led'q E'q hC'q hx'q hy'q F'q N'q sub'q); rotate_left; intro D'q ys'q h'q tk'q F'q N'q J'q; rotate_left)) | (k_here; (with_reducible show wpAny _ _ (eval (Expr.ListComp _ [⟨Expr.Tuple [_, _] _ _, Expr.Name _ _, [], 0⟩] _ _) _) _ _ _); k_dflt (refine Mine.comp_pairs (F₀ := by k_asm) (by with_unfolding_all rfl) (by decide) (by rfl) (by decide) (by rfl) (by rfl) (by decide) ?_)) | (k_here; (with_reducible show wpAny _ _ (call (Value.type _) [Value.ref _]) _ _ _); k_dflt (refine' caps_tuple (by k_asm) (by k_asm) (by assumption) (by assumption) ?_; k_whole); intro ca'q lot'q h'q rest'q F'q N'q hc'q) | ((with_reducible show Mine.TurnEnd _ _ _ _ _ _ _ _ _ _); (k_here; k_dflt (refine' TurnEnd.one (by k_asm) (by k_asm) (by k_mem) (by k_mem) (by (intro p hp; repeat (first | exact hp | apply List.mem_cons_of_mem)); first | done | fail) (by exact rep_size _ _ (by assumption) (by assumption))))) | ((with_reducible show Mine.SrcE _ _ _ _ _ _ _ _ _ _ _ _ _ _ _); (k_here; k_dflt (refine' srcE_caps (by rfl) (by k_asm) (by k_asm) (by k_mem) (by assumption) (by assumption) (by assumption) ?_ ?_); (first | (intro i'q z'q t'q t2'q hi'q hz0'q hz1'q C'q oC'q m'q h'q tk'q led'q E'q hC'q hx'q hy'q F'q N'q sub'q) | (intro D'q ys'q outs'q h'q tk'q F'q N'q G'q hn'q)); rotate_left; intro D'q ys'q outs'q h'q tk'q F'q N'q G'q hn'q; rotate_left)) | ((with_reducible show wpAny _ _ (call (Value.type "enumerate") _ _) _ _ _); (k_here; k_dflt (refine' call_enum (by k_asm) (by k_asm) (by k_mem) ?_; k_whole); intro e'q it'q h'q F'q N'q off'q ne'q)) | (k_here; (with_reducible show wpAny _ _ (eval (Expr.ListComp _ [⟨Expr.Tuple [_, _] _ _, Expr.Call _ _ _ _, [], 0⟩] _ _) _) _ _ _); k_dflt (refine Mine.comp_enum (F₀ := by k_asm) (by with_unfolding_all rfl) (by decide) (by rfl) (by decide) (by rfl) (by rfl) (by decide) ?_)) | ((with_reducible show wpAny _ _ (eval (Expr.Dict _ _ _) _) _ _ _); walk_at "own3") | (k_here; (with_reducible show wpAny _ _ (execs (Stmt.Assign [Expr.Name (Str.ofString "session") _] _ _ :: _) _) _ _ _); refine Halt.mk ?_) | (k_here; (with_reducible show wpAny _ _ (subscriptTail _ _ (Value.ref _) (Value.int _ _)) _ _ _); k_dflt (refine' item_sizes (vs := [_, _, _, _, _, _]) (by k_asm) (by is_list) (by assumption) (by assumption) (by exact Nat.le_of_ble_eq_true rfl) (by (repeat (first | exact List.forall_mem_nil _ | (refine List.forall_mem_cons.mpr ⟨⟨_, _, _, rfl, by k_mem, by first | exact Sz.nil | exact Sz.one (by decide) | exact Sz.two (by decide) (by decide)⟩, ?_⟩))); first | done | fail) ?_; k_whole); intro sa'q its'q n'q N'q hz'q) | (k_here; (with_reducible show wpAny _ _ (execs (Stmt.Assign [Expr.Name (Str.ofString "sizes") _] _ _ :: _) _) _ _ _); refine Halt.mk ?_) | (k_here; (with_reducible show wpAny _ _ (subscriptTail _ _ (Value.ref _) (Value.int _ _)) _ _ _); k_dflt (refine' item_ints (by is_list) (by l_intsW) (by assumption) (by assumption) (by decide) ?_; k_whole); intro n'q t'q hn'q; (try simp only [List.mem_cons, List.not_mem_nil, or_false, p32] at hn'q); (first | (have hb'q : 0 ≤ n'q ∧ n'q ≠ 1 ∧ n'q ≤ 4294967296 := (by walk_at "om")) | (have hb'q : 0 ≤ n'q := (by walk_at "om"))); clear hn'q) | walk_at "own2" | ((with_reducible show Mine.JoinV _ _ _ _ _ _ _ _); (k_here; k_dflt (refine' JoinV.intro (by first | exact parB_zero (by assumption) | exact parB_pos (by assumption)) (by k_asm) (by first | k_asm | (refine' cb_drop (by assumption) (by (intro p hp; repeat (first | exact hp | apply List.mem_cons_of_mem)); first | done | fail)); first | done | fail)))) | (k_here; (with_reducible show wpAny _ _ (eval (Expr.IfExp _ _ _ _) _) _ _ _); k_dflt (refine' join_val (by assumption) (by k_asm) (by k_asm) ?_ ?_); rotate_left; intro t'q h'q tk'q F'q N'q z'q; rotate_left; walk1) | (k_here; k_dflt ((with_reducible show wpAny _ _ (call (Value.ref 430) _) _ _ _); (refine' Mine.c_take (by k_asm) (by k_asm) (by k_asm) (by (refine' cb_drop (by assumption) (by (repeat (first | exact List.forall_mem_nil _ | (refine' List.forall_mem_cons.mpr ⟨?_, ?_⟩; (k_mem)))); first | done | fail)); first | done | fail) (by k_asm) (by first | exact rfl | assumption) (by (refine ltN ?_; first | (with_reducible assumption) | walk_at "om")) (by ktr_room) (by ktr_units) ?_); intro kx'q h'q tk'q F'q N'q)) | (k_here; k_dflt ((with_reducible show wpAny _ _ (call (Value.ref 790) [_, Value.int 2 _]) _ _ _); (refine' Mine.c_oct2 (by k_asm) (by k_asm) (by k_asm) (by k_asm) (by k_asm) (by first | exact rfl | assumption) (by (first | walk_at "om" | ((simp only [Array.size_append, List.size_toArray, oct1_size, oct2_size, oct4_size, byteArr_size, List.length_cons, List.length_nil]); walk_at "om"))) (by (first | walk_at "om" | ((simp only [Array.size_append, List.size_toArray, oct1_size, oct2_size, oct4_size, byteArr_size, List.length_cons, List.length_nil]); walk_at "om"))) (by ktr_room) (by ktr_units) ?_); intro t'q h'q tk'q F'q N'q)) | (k_here; k_dflt ((with_reducible show wpAny _ _ (call (Value.ref 790) [_, Value.int 4 _]) _ _ _); (refine' Mine.c_oct4 (by k_asm) (by k_asm) (by k_asm) (by k_asm) (by k_asm) (by first | exact rfl | assumption) (by (first | walk_at "om" | ((simp only [Array.size_append, List.size_toArray, oct1_size, oct2_size, oct4_size, byteArr_size, List.length_cons, List.length_nil]); walk_at "om"))) (by (first | walk_at "om" | ((simp only [Array.size_append, List.size_toArray, oct1_size, oct2_size, oct4_size, byteArr_size, List.length_cons, List.length_nil]); walk_at "om"))) (by ktr_room) (by ktr_units) ?_); intro t'q h'q tk'q F'q N'q)) | (k_here; k_dflt ((with_reducible show wpAny _ _ (call (Value.ref 395) [_, Value.str (Str.ofString "start") _, _, _]) _ _ _); (refine' Mine.c_happen1 (by k_asm) (by k_asm) (by k_asm) (by (refine' cb_drop (by assumption) (by (repeat (first | exact List.forall_mem_nil _ | (refine' List.forall_mem_cons.mpr ⟨?_, ?_⟩; (k_mem)))); first | done | fail)); first | done | fail) (by k_asm) (by first | exact rfl | assumption) (by (refine ltN ?_; first | (with_reducible assumption) | walk_at "om")) (by (refine ltN ?_; first | (with_reducible assumption) | walk_at "om")) (by (refine ltN ?_; first | (with_reducible assumption) | walk_at "om")) (by (refine ltN ?_; first | (with_reducible assumption) | walk_at "om")) (by (refine ltN ?_; first | (with_reducible assumption) | walk_at "om")) (by (refine ltN ?_; first | (with_reducible assumption) | walk_at "om")) (by (refine ltN ?_; first | (with_reducible assumption) | walk_at "om")) (by assumption) (by assumption) (by assumption) (by assumption) (by ktr_room) (by ktr_units) ?_); intro ode'q ks'q kt'q t20'q h'q tk'q hD'q F'q N'q)) | (k_here; k_dflt ((with_reducible show wpAny _ _ (call (Value.ref 395) [_, Value.str (Str.ofString "connected") _, _, _]) _ _ _); (refine' Mine.c_happen2 (by k_asm) (by k_asm) (by k_asm) (by (refine' cb_drop (by assumption) (by (repeat (first | exact List.forall_mem_nil _ | (refine' List.forall_mem_cons.mpr ⟨?_, ?_⟩; (k_mem)))); first | done | fail)); first | done | fail) (by k_asm) (by first | exact rfl | assumption) (by (refine ltN ?_; first | (with_reducible assumption) | walk_at "om")) (by (refine ltN ?_; first | (with_reducible assumption) | walk_at "om")) (by (refine ltN ?_; first | (with_reducible assumption) | walk_at "om")) (by (refine ltN ?_; first | (with_reducible assumption) | walk_at "om")) (by (refine ltN ?_; first | (with_reducible assumption) | walk_at "om")) (by (refine ltN ?_; first | (with_reducible assumption) | walk_at "om")) (by assumption) (by assumption) (by assumption) (by assumption) (by exact wholeB_size (by assumption)) (by ktr_room) (by ktr_units) ?_); intro ks'q kt'q kl'q kx'q h'q tk'q F'q N'q)) | (k_here; k_dflt ((with_reducible show wpAny _ _ (call (Value.ref 783) _) _ _ _); (refine' Mine.c_made_ok (by k_asm) (by k_asm) (by k_asm) (by k_asm) (by k_asm) (by k_asm) (by k_asm) (by first | exact rfl | assumption) (by assumption) (by assumption) (by assumption) (by walk_at "om") (by walk_at "om") (by walk_at "om") (by walk_at "om") (by ktr_room) (by ktr_units) ?_); intro sa'q ds'q wi'q ti'q dt'q de'q wl'q ul'q tl'q ode'q k0'q k1'q k2'q k3'q k4'q k5'q k6'q k7'q k8'q k9'q k10'q k11'q k12'q ko'q ks'q kl'q kx'q kh'q kt'q ke'q h'q tk'q l1'q l2'q l3'q l4'q l5'q l6'q l7'q l8'q lo'q hs'q F'q N'q; (k_lt2 l1'q); (k_lt2 l2'q); (k_lt2 l3'q); (k_lt2 l4'q); (k_lt2 l5'q); (k_lt2 l6'q); (k_lt2 l7'q); (k_lt2 l8'q))) | (k_here; k_dflt ((with_reducible show wpAny _ _ (call (Value.ref 783) _) _ _ _); (refine' Mine.c_made_bad (by k_asm) (by k_asm) (by k_asm) (by k_asm) (by k_asm) (by k_asm) (by k_asm) (by first | exact rfl | assumption) (by assumption) (by assumption) (by assumption) (by walk_at "om") (by walk_at "om") (by walk_at "om") (by assumption) (by ktr_room) (by ktr_units) ?_); intro h'q tk'q F'q N'q)) | ((with_reducible show wpAny _ _ (getMethod (Value.bytes _ _) _ _) _ _ _); (k_here; refine join_method ?_))) | walk1 | (dsimp only; first | walk1 | (first | (k_here; (with_reducible show wpAny _ _ (callWith _ (Value.ref 430) _ (backTo _ (starEach [] _)) []) _ _ _); k_dflt (refine' callWith_K0 (by exact Frag.In.keeps (by k_asm) (Fr.keep (by k_asm))) (by k_is) ?_; k_whole)) | (k_here; (with_reducible show wpAny _ _ (compareOp CmpOp.Eq (Value.bytes _ _) (Value.bytes #[] _)) _ _ _); refine eq_lot ?_ ?_ <;> intro z0'q) | (k_here; (with_reducible show wpAny _ _ (compareOp CmpOp.Eq (Value.bytes _ _) (Value.bytes _ _)) _ _ _); refine eq_whole (by exact whole_law rfl) ?_) | (k_here; (with_reducible show wpAny _ _ (call (Value.builtin "len") [Value.bytes _ _]) _ _ _); (refine len_bytes (by (first | walk_at "om" | ((simp only [Array.size_append, List.size_toArray, oct1_size, oct2_size, oct4_size, byteArr_size, List.length_cons, List.length_nil]; walk_at "om")))) ?_)) | (k_here; (with_reducible show wpAny _ _ (binaryOp Operator.Add (Value.bytes _ _) (Value.bytes _ _)) _ _ _); refine KBy.add_bytes (by (simp only [Array.size_append, List.size_toArray, oct1_size, oct2_size, oct4_size, byteArr_size, List.length_cons, List.length_nil]; walk_at "om")) ?_; intro t'q k'q) | ((with_reducible show wpAny _ _ (call (Value.builtin "bytes.join") _ _) _ _ _); (k_here; k_dflt (refine' join_lot (by k_asm) (by k_mem) (by assumption) ?_; k_whole); intro t'q k'q)) | ((with_reducible show Mine.TurnEnd _ _ _ _ _ _ _ _ _ _); (k_here; k_dflt (refine' TurnEnd.lot (by k_asm) (by k_asm) (by k_mem) (by (intro p hp; repeat (first | exact hp | apply List.mem_cons_of_mem)); first | done | fail) (by exact cap_eq (by assumption) (by assumption) (by assumption))))) | ((with_reducible show Mine.SrcP _ _ _ _ _ _ _ _ _ _ _ _ _ _ _); (k_here; k_dflt (refine' srcP_caps (by rfl) (by k_asm) (by k_asm) (by exact Caps.mono (by assumption) (by intro p hp; repeat (first | exact hp | apply List.mem_cons_of_mem)); first | done | fail) ?_ ?_); (intro code'q tc'q b'q tb'q hq0'q hq1'q hb'q g'q C'q oC'q m'q h'q tk'q led'q E'q hC'q hx'q hy'q F'q N'q sub'q); rotate_left; intro D'q ys'q h'q tk'q F'q N'q J'q; rotate_left)) | (k_here; (with_reducible show wpAny _ _ (eval (Expr.ListComp _ [⟨Expr.Tuple [_, _] _ _, Expr.Name _ _, [], 0⟩] _ _) _) _ _ _); k_dflt (refine Mine.comp_pairs (F₀ := by k_asm) (by with_unfolding_all rfl) (by decide) (by rfl) (by decide) (by rfl) (by rfl) (by decide) ?_)) | (k_here; (with_reducible show wpAny _ _ (call (Value.type _) [Value.ref _]) _ _ _); k_dflt (refine' caps_tuple (by k_asm) (by k_asm) (by assumption) (by assumption) ?_; k_whole); intro ca'q lot'q h'q rest'q F'q N'q hc'q) | ((with_reducible show Mine.TurnEnd _ _ _ _ _ _ _ _ _ _); (k_here; k_dflt (refine' TurnEnd.one (by k_asm) (by k_asm) (by k_mem) (by k_mem) (by (intro p hp; repeat (first | exact hp | apply List.mem_cons_of_mem)); first | done | fail) (by exact rep_size _ _ (by assumption) (by assumption))))) | ((with_reducible show Mine.SrcE _ _ _ _ _ _ _ _ _ _ _ _ _ _ _); (k_here; k_dflt (refine' srcE_caps (by rfl) (by k_asm) (by k_asm) (by k_mem) (by assumption) (by assumption) (by assumption) ?_ ?_); (first | (intro i'q z'q t'q t2'q hi'q hz0'q hz1'q C'q oC'q m'q h'q tk'q led'q E'q hC'q hx'q hy'q F'q N'q sub'q) | (intro D'q ys'q outs'q h'q tk'q F'q N'q G'q hn'q)); rotate_left; intro D'q ys'q outs'q h'q tk'q F'q N'q G'q hn'q; rotate_left)) | ((with_reducible show wpAny _ _ (call (Value.type "enumerate") _ _) _ _ _); (k_here; k_dflt (refine' call_enum (by k_asm) (by k_asm) (by k_mem) ?_; k_whole); intro e'q it'q h'q F'q N'q off'q ne'q)) | (k_here; (with_reducible show wpAny _ _ (eval (Expr.ListComp _ [⟨Expr.Tuple [_, _] _ _, Expr.Call _ _ _ _, [], 0⟩] _ _) _) _ _ _); k_dflt (refine Mine.comp_enum (F₀ := by k_asm) (by with_unfolding_all rfl) (by decide) (by rfl) (by decide) (by rfl) (by rfl) (by decide) ?_)) | ((with_reducible show wpAny _ _ (eval (Expr.Dict _ _ _) _) _ _ _); walk_at "own3") | (k_here; (with_reducible show wpAny _ _ (execs (Stmt.Assign [Expr.Name (Str.ofString "session") _] _ _ :: _) _) _ _ _); refine Halt.mk ?_) | (k_here; (with_reducible show wpAny _ _ (subscriptTail _ _ (Value.ref _) (Value.int _ _)) _ _ _); k_dflt (refine' item_sizes (vs := [_, _, _, _, _, _]) (by k_asm) (by is_list) (by assumption) (by assumption) (by exact Nat.le_of_ble_eq_true rfl) (by (repeat (first | exact List.forall_mem_nil _ | (refine List.forall_mem_cons.mpr ⟨⟨_, _, _, rfl, by k_mem, by first | exact Sz.nil | exact Sz.one (by decide) | exact Sz.two (by decide) (by decide)⟩, ?_⟩))); first | done | fail) ?_; k_whole); intro sa'q its'q n'q N'q hz'q) | (k_here; (with_reducible show wpAny _ _ (execs (Stmt.Assign [Expr.Name (Str.ofString "sizes") _] _ _ :: _) _) _ _ _); refine Halt.mk ?_) | (k_here; (with_reducible show wpAny _ _ (subscriptTail _ _ (Value.ref _) (Value.int _ _)) _ _ _); k_dflt (refine' item_ints (by is_list) (by l_intsW) (by assumption) (by assumption) (by decide) ?_; k_whole); intro n'q t'q hn'q; (try simp only [List.mem_cons, List.not_mem_nil, or_false, p32] at hn'q); (first | (have hb'q : 0 ≤ n'q ∧ n'q ≠ 1 ∧ n'q ≤ 4294967296 := (by walk_at "om")) | (have hb'q : 0 ≤ n'q := (by walk_at "om"))); clear hn'q) | walk_at "own2" | ((with_reducible show Mine.JoinV _ _ _ _ _ _ _ _); (k_here; k_dflt (refine' JoinV.intro (by first | exact parB_zero (by assumption) | exact parB_pos (by assumption)) (by k_asm) (by first | k_asm | (refine' cb_drop (by assumption) (by (intro p hp; repeat (first | exact hp | apply List.mem_cons_of_mem)); first | done | fail)); first | done | fail)))) | (k_here; (with_reducible show wpAny _ _ (eval (Expr.IfExp _ _ _ _) _) _ _ _); k_dflt (refine' join_val (by assumption) (by k_asm) (by k_asm) ?_ ?_); rotate_left; intro t'q h'q tk'q F'q N'q z'q; rotate_left; walk1) | (k_here; k_dflt ((with_reducible show wpAny _ _ (call (Value.ref 430) _) _ _ _); (refine' Mine.c_take (by k_asm) (by k_asm) (by k_asm) (by (refine' cb_drop (by assumption) (by (repeat (first | exact List.forall_mem_nil _ | (refine' List.forall_mem_cons.mpr ⟨?_, ?_⟩; (k_mem)))); first | done | fail)); first | done | fail) (by k_asm) (by first | exact rfl | assumption) (by (refine ltN ?_; first | (with_reducible assumption) | walk_at "om")) (by ktr_room) (by ktr_units) ?_); intro kx'q h'q tk'q F'q N'q)) | (k_here; k_dflt ((with_reducible show wpAny _ _ (call (Value.ref 790) [_, Value.int 2 _]) _ _ _); (refine' Mine.c_oct2 (by k_asm) (by k_asm) (by k_asm) (by k_asm) (by k_asm) (by first | exact rfl | assumption) (by (first | walk_at "om" | ((simp only [Array.size_append, List.size_toArray, oct1_size, oct2_size, oct4_size, byteArr_size, List.length_cons, List.length_nil]); walk_at "om"))) (by (first | walk_at "om" | ((simp only [Array.size_append, List.size_toArray, oct1_size, oct2_size, oct4_size, byteArr_size, List.length_cons, List.length_nil]); walk_at "om"))) (by ktr_room) (by ktr_units) ?_); intro t'q h'q tk'q F'q N'q)) | (k_here; k_dflt ((with_reducible show wpAny _ _ (call (Value.ref 790) [_, Value.int 4 _]) _ _ _); (refine' Mine.c_oct4 (by k_asm) (by k_asm) (by k_asm) (by k_asm) (by k_asm) (by first | exact rfl | assumption) (by (first | walk_at "om" | ((simp only [Array.size_append, List.size_toArray, oct1_size, oct2_size, oct4_size, byteArr_size, List.length_cons, List.length_nil]); walk_at "om"))) (by (first | walk_at "om" | ((simp only [Array.size_append, List.size_toArray, oct1_size, oct2_size, oct4_size, byteArr_size, List.length_cons, List.length_nil]); walk_at "om"))) (by ktr_room) (by ktr_units) ?_); intro t'q h'q tk'q F'q N'q)) | (k_here; k_dflt ((with_reducible show wpAny _ _ (call (Value.ref 395) [_, Value.str (Str.ofString "start") _, _, _]) _ _ _); (refine' Mine.c_happen1 (by k_asm) (by k_asm) (by k_asm) (by (refine' cb_drop (by assumption) (by (repeat (first | exact List.forall_mem_nil _ | (refine' List.forall_mem_cons.mpr ⟨?_, ?_⟩; (k_mem)))); first | done | fail)); first | done | fail) (by k_asm) (by first | exact rfl | assumption) (by (refine ltN ?_; first | (with_reducible assumption) | walk_at "om")) (by (refine ltN ?_; first | (with_reducible assumption) | walk_at "om")) (by (refine ltN ?_; first | (with_reducible assumption) | walk_at "om")) (by (refine ltN ?_; first | (with_reducible assumption) | walk_at "om")) (by (refine ltN ?_; first | (with_reducible assumption) | walk_at "om")) (by (refine ltN ?_; first | (with_reducible assumption) | walk_at "om")) (by (refine ltN ?_; first | (with_reducible assumption) | walk_at "om")) (by assumption) (by assumption) (by assumption) (by assumption) (by ktr_room) (by ktr_units) ?_); intro ode'q ks'q kt'q t20'q h'q tk'q hD'q F'q N'q)) | (k_here; k_dflt ((with_reducible show wpAny _ _ (call (Value.ref 395) [_, Value.str (Str.ofString "connected") _, _, _]) _ _ _); (refine' Mine.c_happen2 (by k_asm) (by k_asm) (by k_asm) (by (refine' cb_drop (by assumption) (by (repeat (first | exact List.forall_mem_nil _ | (refine' List.forall_mem_cons.mpr ⟨?_, ?_⟩; (k_mem)))); first | done | fail)); first | done | fail) (by k_asm) (by first | exact rfl | assumption) (by (refine ltN ?_; first | (with_reducible assumption) | walk_at "om")) (by (refine ltN ?_; first | (with_reducible assumption) | walk_at "om")) (by (refine ltN ?_; first | (with_reducible assumption) | walk_at "om")) (by (refine ltN ?_; first | (with_reducible assumption) | walk_at "om")) (by (refine ltN ?_; first | (with_reducible assumption) | walk_at "om")) (by (refine ltN ?_; first | (with_reducible assumption) | walk_at "om")) (by assumption) (by assumption) (by assumption) (by assumption) (by exact wholeB_size (by assumption)) (by ktr_room) (by ktr_units) ?_); intro ks'q kt'q kl'q kx'q h'q tk'q F'q N'q)) | (k_here; k_dflt ((with_reducible show wpAny _ _ (call (Value.ref 783) _) _ _ _); (refine' Mine.c_made_ok (by k_asm) (by k_asm) (by k_asm) (by k_asm) (by k_asm) (by k_asm) (by k_asm) (by first | exact rfl | assumption) (by assumption) (by assumption) (by assumption) (by walk_at "om") (by walk_at "om") (by walk_at "om") (by walk_at "om") (by ktr_room) (by ktr_units) ?_); intro sa'q ds'q wi'q ti'q dt'q de'q wl'q ul'q tl'q ode'q k0'q k1'q k2'q k3'q k4'q k5'q k6'q k7'q k8'q k9'q k10'q k11'q k12'q ko'q ks'q kl'q kx'q kh'q kt'q ke'q h'q tk'q l1'q l2'q l3'q l4'q l5'q l6'q l7'q l8'q lo'q hs'q F'q N'q; (k_lt2 l1'q); (k_lt2 l2'q); (k_lt2 l3'q); (k_lt2 l4'q); (k_lt2 l5'q); (k_lt2 l6'q); (k_lt2 l7'q); (k_lt2 l8'q))) | (k_here; k_dflt ((with_reducible show wpAny _ _ (call (Value.ref 783) _) _ _ _); (refine' Mine.c_made_bad (by k_asm) (by k_asm) (by k_asm) (by k_asm) (by k_asm) (by k_asm) (by k_asm) (by first | exact rfl | assumption) (by assumption) (by assumption) (by assumption) (by walk_at "om") (by walk_at "om") (by walk_at "om") (by assumption) (by ktr_room) (by ktr_units) ?_); intro h'q tk'q F'q N'q)) | ((with_reducible show wpAny _ _ (getMethod (Value.bytes _ _) _ _) _ _ _); (k_here; refine join_method ?_)))) | (leave1; try dsimp only) | wrow_closeG))
  refine Halt.go ?_
  refine wpAny_execs_cons ?_
  k_dflt (refine' split_bad ?h1 ?h2 ?_ ?_; (case h1 => assumption); (case h2 => assumption))
  · intro lz' bad'
    (repeat' (first | (k_unfold; (try dsimp only)) | (k_end; kc_close) | (first | (k_here; (with_reducible show wpAny _ _ (callWith _ (Value.ref 430) _ (backTo _ (starEach [] _)) []) _ _ _); k_dflt (refine' callWith_K0 (by exact Frag.In.keeps (by k_asm) (Fr.keep (by k_asm))) (by k_is) ?_; k_whole)) | (k_here; (with_reducible show wpAny _ _ (compareOp CmpOp.Eq (Value.bytes _ _) (Value.bytes #[] _)) _ _ _); refine eq_lot ?_ ?_ <;> intro z0'q) | (k_here; (with_reducible show wpAny _ _ (compareOp CmpOp.Eq (Value.bytes _ _) (Value.bytes _ _)) _ _ _); refine eq_whole (by exact whole_law rfl) ?_) | (k_here; (with_reducible show wpAny _ _ (call (Value.builtin "len") [Value.bytes _ _]) _ _ _); (refine len_bytes (by (first | walk_at "om" | ((simp only [Array.size_append, List.size_toArray, oct1_size, oct2_size, oct4_size, byteArr_size, List.length_cons, List.length_nil]; walk_at "om")))) ?_)) | (k_here; (with_reducible show wpAny _ _ (binaryOp Operator.Add (Value.bytes _ _) (Value.bytes _ _)) _ _ _); refine KBy.add_bytes (by (simp only [Array.size_append, List.size_toArray, oct1_size, oct2_size, oct4_size, byteArr_size, List.length_cons, List.length_nil]; walk_at "om")) ?_; intro t'q k'q) | ((with_reducible show wpAny _ _ (call (Value.builtin "bytes.join") _ _) _ _ _); (k_here; k_dflt (refine' join_lot (by k_asm) (by k_mem) (by assumption) ?_; k_whole); intro t'q k'q)) | ((with_reducible show Mine.TurnEnd _ _ _ _ _ _ _ _ _ _); (k_here; k_dflt (refine' TurnEnd.lot (by k_asm) (by k_asm) (by k_mem) (by (intro p hp; repeat (first | exact hp | apply List.mem_cons_of_mem)); first | done | fail) (by exact cap_eq (by assumption) (by assumption) (by assumption))))) | ((with_reducible show Mine.SrcP _ _ _ _ _ _ _ _ _ _ _ _ _ _ _); (k_here; k_dflt (refine' srcP_caps (by rfl) (by k_asm) (by k_asm) (by exact Caps.mono (by assumption) (by intro p hp; repeat (first | exact hp | apply List.mem_cons_of_mem)); first | done | fail) ?_ ?_); (intro code'q tc'q b'q tb'q hq0'q hq1'q hb'q g'q C'q oC'q m'q h'q tk'q led'q E'q hC'q hx'q hy'q F'q N'q sub'q); rotate_left; intro D'q ys'q h'q tk'q F'q N'q J'q; rotate_left)) | (k_here; (with_reducible show wpAny _ _ (eval (Expr.ListComp _ [⟨Expr.Tuple [_, _] _ _, Expr.Name _ _, [], 0⟩] _ _) _) _ _ _); k_dflt (refine Mine.comp_pairs (F₀ := by k_asm) (by with_unfolding_all rfl) (by decide) (by rfl) (by decide) (by rfl) (by rfl) (by decide) ?_)) | (k_here; (with_reducible show wpAny _ _ (call (Value.type _) [Value.ref _]) _ _ _); k_dflt (refine' caps_tuple (by k_asm) (by k_asm) (by assumption) (by assumption) ?_; k_whole); intro ca'q lot'q h'q rest'q F'q N'q hc'q) | ((with_reducible show Mine.TurnEnd _ _ _ _ _ _ _ _ _ _); (k_here; k_dflt (refine' TurnEnd.one (by k_asm) (by k_asm) (by k_mem) (by k_mem) (by (intro p hp; repeat (first | exact hp | apply List.mem_cons_of_mem)); first | done | fail) (by exact rep_size _ _ (by assumption) (by assumption))))) | ((with_reducible show Mine.SrcE _ _ _ _ _ _ _ _ _ _ _ _ _ _ _); (k_here; k_dflt (refine' srcE_caps (by rfl) (by k_asm) (by k_asm) (by k_mem) (by assumption) (by assumption) (by assumption) ?_ ?_); (first | (intro i'q z'q t'q t2'q hi'q hz0'q hz1'q C'q oC'q m'q h'q tk'q led'q E'q hC'q hx'q hy'q F'q N'q sub'q) | (intro D'q ys'q outs'q h'q tk'q F'q N'q G'q hn'q)); rotate_left; intro D'q ys'q outs'q h'q tk'q F'q N'q G'q hn'q; rotate_left)) | ((with_reducible show wpAny _ _ (call (Value.type "enumerate") _ _) _ _ _); (k_here; k_dflt (refine' call_enum (by k_asm) (by k_asm) (by k_mem) ?_; k_whole); intro e'q it'q h'q F'q N'q off'q ne'q)) | (k_here; (with_reducible show wpAny _ _ (eval (Expr.ListComp _ [⟨Expr.Tuple [_, _] _ _, Expr.Call _ _ _ _, [], 0⟩] _ _) _) _ _ _); k_dflt (refine Mine.comp_enum (F₀ := by k_asm) (by with_unfolding_all rfl) (by decide) (by rfl) (by decide) (by rfl) (by rfl) (by decide) ?_)) | ((with_reducible show wpAny _ _ (eval (Expr.Dict _ _ _) _) _ _ _); walk_at "own3") | (k_here; (with_reducible show wpAny _ _ (execs (Stmt.Assign [Expr.Name (Str.ofString "session") _] _ _ :: _) _) _ _ _); refine Halt.mk ?_) | (k_here; (with_reducible show wpAny _ _ (subscriptTail _ _ (Value.ref _) (Value.int _ _)) _ _ _); k_dflt (refine' item_sizes (vs := [_, _, _, _, _, _]) (by k_asm) (by is_list) (by assumption) (by assumption) (by exact Nat.le_of_ble_eq_true rfl) (by (repeat (first | exact List.forall_mem_nil _ | (refine List.forall_mem_cons.mpr ⟨⟨_, _, _, rfl, by k_mem, by first | exact Sz.nil | exact Sz.one (by decide) | exact Sz.two (by decide) (by decide)⟩, ?_⟩))); first | done | fail) ?_; k_whole); intro sa'q its'q n'q N'q hz'q) | (k_here; (with_reducible show wpAny _ _ (execs (Stmt.Assign [Expr.Name (Str.ofString "sizes") _] _ _ :: _) _) _ _ _); refine Halt.mk ?_) | (k_here; (with_reducible show wpAny _ _ (subscriptTail _ _ (Value.ref _) (Value.int _ _)) _ _ _); k_dflt (refine' item_ints (by is_list) (by l_intsW) (by assumption) (by assumption) (by decide) ?_; k_whole); intro n'q t'q hn'q; (try simp only [List.mem_cons, List.not_mem_nil, or_false, p32] at hn'q); (first | (have hb'q : 0 ≤ n'q ∧ n'q ≠ 1 ∧ n'q ≤ 4294967296 := (by walk_at "om")) | (have hb'q : 0 ≤ n'q := (by walk_at "om"))); clear hn'q) | walk_at "own2" | ((with_reducible show Mine.JoinV _ _ _ _ _ _ _ _); (k_here; k_dflt (refine' JoinV.intro (by first | exact parB_zero (by assumption) | exact parB_pos (by assumption)) (by k_asm) (by first | k_asm | (refine' cb_drop (by assumption) (by (intro p hp; repeat (first | exact hp | apply List.mem_cons_of_mem)); first | done | fail)); first | done | fail)))) | (k_here; (with_reducible show wpAny _ _ (eval (Expr.IfExp _ _ _ _) _) _ _ _); k_dflt (refine' join_val (by assumption) (by k_asm) (by k_asm) ?_ ?_); rotate_left; intro t'q h'q tk'q F'q N'q z'q; rotate_left; walk1) | (k_here; k_dflt ((with_reducible show wpAny _ _ (call (Value.ref 430) _) _ _ _); (refine' Mine.c_take (by k_asm) (by k_asm) (by k_asm) (by (refine' cb_drop (by assumption) (by (repeat (first | exact List.forall_mem_nil _ | (refine' List.forall_mem_cons.mpr ⟨?_, ?_⟩; (k_mem)))); first | done | fail)); first | done | fail) (by k_asm) (by first | exact rfl | assumption) (by (refine ltN ?_; first | (with_reducible assumption) | walk_at "om")) (by ktr_room) (by ktr_units) ?_); intro kx'q h'q tk'q F'q N'q)) | (k_here; k_dflt ((with_reducible show wpAny _ _ (call (Value.ref 790) [_, Value.int 2 _]) _ _ _); (refine' Mine.c_oct2 (by k_asm) (by k_asm) (by k_asm) (by k_asm) (by k_asm) (by first | exact rfl | assumption) (by (first | walk_at "om" | ((simp only [Array.size_append, List.size_toArray, oct1_size, oct2_size, oct4_size, byteArr_size, List.length_cons, List.length_nil]); walk_at "om"))) (by (first | walk_at "om" | ((simp only [Array.size_append, List.size_toArray, oct1_size, oct2_size, oct4_size, byteArr_size, List.length_cons, List.length_nil]); walk_at "om"))) (by ktr_room) (by ktr_units) ?_); intro t'q h'q tk'q F'q N'q)) | (k_here; k_dflt ((with_reducible show wpAny _ _ (call (Value.ref 790) [_, Value.int 4 _]) _ _ _); (refine' Mine.c_oct4 (by k_asm) (by k_asm) (by k_asm) (by k_asm) (by k_asm) (by first | exact rfl | assumption) (by (first | walk_at "om" | ((simp only [Array.size_append, List.size_toArray, oct1_size, oct2_size, oct4_size, byteArr_size, List.length_cons, List.length_nil]); walk_at "om"))) (by (first | walk_at "om" | ((simp only [Array.size_append, List.size_toArray, oct1_size, oct2_size, oct4_size, byteArr_size, List.length_cons, List.length_nil]); walk_at "om"))) (by ktr_room) (by ktr_units) ?_); intro t'q h'q tk'q F'q N'q)) | (k_here; k_dflt ((with_reducible show wpAny _ _ (call (Value.ref 395) [_, Value.str (Str.ofString "start") _, _, _]) _ _ _); (refine' Mine.c_happen1 (by k_asm) (by k_asm) (by k_asm) (by (refine' cb_drop (by assumption) (by (repeat (first | exact List.forall_mem_nil _ | (refine' List.forall_mem_cons.mpr ⟨?_, ?_⟩; (k_mem)))); first | done | fail)); first | done | fail) (by k_asm) (by first | exact rfl | assumption) (by (refine ltN ?_; first | (with_reducible assumption) | walk_at "om")) (by (refine ltN ?_; first | (with_reducible assumption) | walk_at "om")) (by (refine ltN ?_; first | (with_reducible assumption) | walk_at "om")) (by (refine ltN ?_; first | (with_reducible assumption) | walk_at "om")) (by (refine ltN ?_; first | (with_reducible assumption) | walk_at "om")) (by (refine ltN ?_; first | (with_reducible assumption) | walk_at "om")) (by (refine ltN ?_; first | (with_reducible assumption) | walk_at "om")) (by assumption) (by assumption) (by assumption) (by assumption) (by ktr_room) (by ktr_units) ?_); intro ode'q ks'q kt'q t20'q h'q tk'q hD'q F'q N'q)) | (k_here; k_dflt ((with_reducible show wpAny _ _ (call (Value.ref 395) [_, Value.str (Str.ofString "connected") _, _, _]) _ _ _); (refine' Mine.c_happen2 (by k_asm) (by k_asm) (by k_asm) (by (refine' cb_drop (by assumption) (by (repeat (first | exact List.forall_mem_nil _ | (refine' List.forall_mem_cons.mpr ⟨?_, ?_⟩; (k_mem)))); first | done | fail)); first | done | fail) (by k_asm) (by first | exact rfl | assumption) (by (refine ltN ?_; first | (with_reducible assumption) | walk_at "om")) (by (refine ltN ?_; first | (with_reducible assumption) | walk_at "om")) (by (refine ltN ?_; first | (with_reducible assumption) | walk_at "om")) (by (refine ltN ?_; first | (with_reducible assumption) | walk_at "om")) (by (refine ltN ?_; first | (with_reducible assumption) | walk_at "om")) (by (refine ltN ?_; first | (with_reducible assumption) | walk_at "om")) (by assumption) (by assumption) (by assumption) (by assumption) (by exact wholeB_size (by assumption)) (by ktr_room) (by ktr_units) ?_); intro ks'q kt'q kl'q kx'q h'q tk'q F'q N'q)) | (k_here; k_dflt ((with_reducible show wpAny _ _ (call (Value.ref 783) _) _ _ _); (refine' Mine.c_made_ok (by k_asm) (by k_asm) (by k_asm) (by k_asm) (by k_asm) (by k_asm) (by k_asm) (by first | exact rfl | assumption) (by assumption) (by assumption) (by assumption) (by walk_at "om") (by walk_at "om") (by walk_at "om") (by walk_at "om") (by ktr_room) (by ktr_units) ?_); intro sa'q ds'q wi'q ti'q dt'q de'q wl'q ul'q tl'q ode'q k0'q k1'q k2'q k3'q k4'q k5'q k6'q k7'q k8'q k9'q k10'q k11'q k12'q ko'q ks'q kl'q kx'q kh'q kt'q ke'q h'q tk'q l1'q l2'q l3'q l4'q l5'q l6'q l7'q l8'q lo'q hs'q F'q N'q; (k_lt2 l1'q); (k_lt2 l2'q); (k_lt2 l3'q); (k_lt2 l4'q); (k_lt2 l5'q); (k_lt2 l6'q); (k_lt2 l7'q); (k_lt2 l8'q))) | (k_here; k_dflt ((with_reducible show wpAny _ _ (call (Value.ref 783) _) _ _ _); (refine' Mine.c_made_bad (by k_asm) (by k_asm) (by k_asm) (by k_asm) (by k_asm) (by k_asm) (by k_asm) (by first | exact rfl | assumption) (by assumption) (by assumption) (by assumption) (by walk_at "om") (by walk_at "om") (by walk_at "om") (by assumption) (by ktr_room) (by ktr_units) ?_); intro h'q tk'q F'q N'q)) | ((with_reducible show wpAny _ _ (getMethod (Value.bytes _ _) _ _) _ _ _); (k_here; refine join_method ?_))) | walk1 | (dsimp only; first | walk1 | (first | (k_here; (with_reducible show wpAny _ _ (callWith _ (Value.ref 430) _ (backTo _ (starEach [] _)) []) _ _ _); k_dflt (refine' callWith_K0 (by exact Frag.In.keeps (by k_asm) (Fr.keep (by k_asm))) (by k_is) ?_; k_whole)) | (k_here; (with_reducible show wpAny _ _ (compareOp CmpOp.Eq (Value.bytes _ _) (Value.bytes #[] _)) _ _ _); refine eq_lot ?_ ?_ <;> intro z0'q) | (k_here; (with_reducible show wpAny _ _ (compareOp CmpOp.Eq (Value.bytes _ _) (Value.bytes _ _)) _ _ _); refine eq_whole (by exact whole_law rfl) ?_) | (k_here; (with_reducible show wpAny _ _ (call (Value.builtin "len") [Value.bytes _ _]) _ _ _); (refine len_bytes (by (first | walk_at "om" | ((simp only [Array.size_append, List.size_toArray, oct1_size, oct2_size, oct4_size, byteArr_size, List.length_cons, List.length_nil]; walk_at "om")))) ?_)) | (k_here; (with_reducible show wpAny _ _ (binaryOp Operator.Add (Value.bytes _ _) (Value.bytes _ _)) _ _ _); refine KBy.add_bytes (by (simp only [Array.size_append, List.size_toArray, oct1_size, oct2_size, oct4_size, byteArr_size, List.length_cons, List.length_nil]; walk_at "om")) ?_; intro t'q k'q) | ((with_reducible show wpAny _ _ (call (Value.builtin "bytes.join") _ _) _ _ _); (k_here; k_dflt (refine' join_lot (by k_asm) (by k_mem) (by assumption) ?_; k_whole); intro t'q k'q)) | ((with_reducible show Mine.TurnEnd _ _ _ _ _ _ _ _ _ _); (k_here; k_dflt (refine' TurnEnd.lot (by k_asm) (by k_asm) (by k_mem) (by (intro p hp; repeat (first | exact hp | apply List.mem_cons_of_mem)); first | done | fail) (by exact cap_eq (by assumption) (by assumption) (by assumption))))) | ((with_reducible show Mine.SrcP _ _ _ _ _ _ _ _ _ _ _ _ _ _ _); (k_here; k_dflt (refine' srcP_caps (by rfl) (by k_asm) (by k_asm) (by exact Caps.mono (by assumption) (by intro p hp; repeat (first | exact hp | apply List.mem_cons_of_mem)); first | done | fail) ?_ ?_); (intro code'q tc'q b'q tb'q hq0'q hq1'q hb'q g'q C'q oC'q m'q h'q tk'q led'q E'q hC'q hx'q hy'q F'q N'q sub'q); rotate_left; intro D'q ys'q h'q tk'q F'q N'q J'q; rotate_left)) | (k_here; (with_reducible show wpAny _ _ (eval (Expr.ListComp _ [⟨Expr.Tuple [_, _] _ _, Expr.Name _ _, [], 0⟩] _ _) _) _ _ _); k_dflt (refine Mine.comp_pairs (F₀ := by k_asm) (by with_unfolding_all rfl) (by decide) (by rfl) (by decide) (by rfl) (by rfl) (by decide) ?_)) | (k_here; (with_reducible show wpAny _ _ (call (Value.type _) [Value.ref _]) _ _ _); k_dflt (refine' caps_tuple (by k_asm) (by k_asm) (by assumption) (by assumption) ?_; k_whole); intro ca'q lot'q h'q rest'q F'q N'q hc'q) | ((with_reducible show Mine.TurnEnd _ _ _ _ _ _ _ _ _ _); (k_here; k_dflt (refine' TurnEnd.one (by k_asm) (by k_asm) (by k_mem) (by k_mem) (by (intro p hp; repeat (first | exact hp | apply List.mem_cons_of_mem)); first | done | fail) (by exact rep_size _ _ (by assumption) (by assumption))))) | ((with_reducible show Mine.SrcE _ _ _ _ _ _ _ _ _ _ _ _ _ _ _); (k_here; k_dflt (refine' srcE_caps (by rfl) (by k_asm) (by k_asm) (by k_mem) (by assumption) (by assumption) (by assumption) ?_ ?_); (first | (intro i'q z'q t'q t2'q hi'q hz0'q hz1'q C'q oC'q m'q h'q tk'q led'q E'q hC'q hx'q hy'q F'q N'q sub'q) | (intro D'q ys'q outs'q h'q tk'q F'q N'q G'q hn'q)); rotate_left; intro D'q ys'q outs'q h'q tk'q F'q N'q G'q hn'q; rotate_left)) | ((with_reducible show wpAny _ _ (call (Value.type "enumerate") _ _) _ _ _); (k_here; k_dflt (refine' call_enum (by k_asm) (by k_asm) (by k_mem) ?_; k_whole); intro e'q it'q h'q F'q N'q off'q ne'q)) | (k_here; (with_reducible show wpAny _ _ (eval (Expr.ListComp _ [⟨Expr.Tuple [_, _] _ _, Expr.Call _ _ _ _, [], 0⟩] _ _) _) _ _ _); k_dflt (refine Mine.comp_enum (F₀ := by k_asm) (by with_unfolding_all rfl) (by decide) (by rfl) (by decide) (by rfl) (by rfl) (by decide) ?_)) | ((with_reducible show wpAny _ _ (eval (Expr.Dict _ _ _) _) _ _ _); walk_at "own3") | (k_here; (with_reducible show wpAny _ _ (execs (Stmt.Assign [Expr.Name (Str.ofString "session") _] _ _ :: _) _) _ _ _); refine Halt.mk ?_) | (k_here; (with_reducible show wpAny _ _ (subscriptTail _ _ (Value.ref _) (Value.int _ _)) _ _ _); k_dflt (refine' item_sizes (vs := [_, _, _, _, _, _]) (by k_asm) (by is_list) (by assumption) (by assumption) (by exact Nat.le_of_ble_eq_true rfl) (by (repeat (first | exact List.forall_mem_nil _ | (refine List.forall_mem_cons.mpr ⟨⟨_, _, _, rfl, by k_mem, by first | exact Sz.nil | exact Sz.one (by decide) | exact Sz.two (by decide) (by decide)⟩, ?_⟩))); first | done | fail) ?_; k_whole); intro sa'q its'q n'q N'q hz'q) | (k_here; (with_reducible show wpAny _ _ (execs (Stmt.Assign [Expr.Name (Str.ofString "sizes") _] _ _ :: _) _) _ _ _); refine Halt.mk ?_) | (k_here; (with_reducible show wpAny _ _ (subscriptTail _ _ (Value.ref _) (Value.int _ _)) _ _ _); k_dflt (refine' item_ints (by is_list) (by l_intsW) (by assumption) (by assumption) (by decide) ?_; k_whole); intro n'q t'q hn'q; (try simp only [List.mem_cons, List.not_mem_nil, or_false, p32] at hn'q); (first | (have hb'q : 0 ≤ n'q ∧ n'q ≠ 1 ∧ n'q ≤ 4294967296 := (by walk_at "om")) | (have hb'q : 0 ≤ n'q := (by walk_at "om"))); clear hn'q) | walk_at "own2" | ((with_reducible show Mine.JoinV _ _ _ _ _ _ _ _); (k_here; k_dflt (refine' JoinV.intro (by first | exact parB_zero (by assumption) | exact parB_pos (by assumption)) (by k_asm) (by first | k_asm | (refine' cb_drop (by assumption) (by (intro p hp; repeat (first | exact hp | apply List.mem_cons_of_mem)); first | done | fail)); first | done | fail)))) | (k_here; (with_reducible show wpAny _ _ (eval (Expr.IfExp _ _ _ _) _) _ _ _); k_dflt (refine' join_val (by assumption) (by k_asm) (by k_asm) ?_ ?_); rotate_left; intro t'q h'q tk'q F'q N'q z'q; rotate_left; walk1) | (k_here; k_dflt ((with_reducible show wpAny _ _ (call (Value.ref 430) _) _ _ _); (refine' Mine.c_take (by k_asm) (by k_asm) (by k_asm) (by (refine' cb_drop (by assumption) (by (repeat (first | exact List.forall_mem_nil _ | (refine' List.forall_mem_cons.mpr ⟨?_, ?_⟩; (k_mem)))); first | done | fail)); first | done | fail) (by k_asm) (by first | exact rfl | assumption) (by (refine ltN ?_; first | (with_reducible assumption) | walk_at "om")) (by ktr_room) (by ktr_units) ?_); intro kx'q h'q tk'q F'q N'q)) | (k_here; k_dflt ((with_reducible show wpAny _ _ (call (Value.ref 790) [_, Value.int 2 _]) _ _ _); (refine' Mine.c_oct2 (by k_asm) (by k_asm) (by k_asm) (by k_asm) (by k_asm) (by first | exact rfl | assumption) (by (first | walk_at "om" | ((simp only [Array.size_append, List.size_toArray, oct1_size, oct2_size, oct4_size, byteArr_size, List.length_cons, List.length_nil]); walk_at "om"))) (by (first | walk_at "om" | ((simp only [Array.size_append, List.size_toArray, oct1_size, oct2_size, oct4_size, byteArr_size, List.length_cons, List.length_nil]); walk_at "om"))) (by ktr_room) (by ktr_units) ?_); intro t'q h'q tk'q F'q N'q)) | (k_here; k_dflt ((with_reducible show wpAny _ _ (call (Value.ref 790) [_, Value.int 4 _]) _ _ _); (refine' Mine.c_oct4 (by k_asm) (by k_asm) (by k_asm) (by k_asm) (by k_asm) (by first | exact rfl | assumption) (by (first | walk_at "om" | ((simp only [Array.size_append, List.size_toArray, oct1_size, oct2_size, oct4_size, byteArr_size, List.length_cons, List.length_nil]); walk_at "om"))) (by (first | walk_at "om" | ((simp only [Array.size_append, List.size_toArray, oct1_size, oct2_size, oct4_size, byteArr_size, List.length_cons, List.length_nil]); walk_at "om"))) (by ktr_room) (by ktr_units) ?_); intro t'q h'q tk'q F'q N'q)) | (k_here; k_dflt ((with_reducible show wpAny _ _ (call (Value.ref 395) [_, Value.str (Str.ofString "start") _, _, _]) _ _ _); (refine' Mine.c_happen1 (by k_asm) (by k_asm) (by k_asm) (by (refine' cb_drop (by assumption) (by (repeat (first | exact List.forall_mem_nil _ | (refine' List.forall_mem_cons.mpr ⟨?_, ?_⟩; (k_mem)))); first | done | fail)); first | done | fail) (by k_asm) (by first | exact rfl | assumption) (by (refine ltN ?_; first | (with_reducible assumption) | walk_at "om")) (by (refine ltN ?_; first | (with_reducible assumption) | walk_at "om")) (by (refine ltN ?_; first | (with_reducible assumption) | walk_at "om")) (by (refine ltN ?_; first | (with_reducible assumption) | walk_at "om")) (by (refine ltN ?_; first | (with_reducible assumption) | walk_at "om")) (by (refine ltN ?_; first | (with_reducible assumption) | walk_at "om")) (by (refine ltN ?_; first | (with_reducible assumption) | walk_at "om")) (by assumption) (by assumption) (by assumption) (by assumption) (by ktr_room) (by ktr_units) ?_); intro ode'q ks'q kt'q t20'q h'q tk'q hD'q F'q N'q)) | (k_here; k_dflt ((with_reducible show wpAny _ _ (call (Value.ref 395) [_, Value.str (Str.ofString "connected") _, _, _]) _ _ _); (refine' Mine.c_happen2 (by k_asm) (by k_asm) (by k_asm) (by (refine' cb_drop (by assumption) (by (repeat (first | exact List.forall_mem_nil _ | (refine' List.forall_mem_cons.mpr ⟨?_, ?_⟩; (k_mem)))); first | done | fail)); first | done | fail) (by k_asm) (by first | exact rfl | assumption) (by (refine ltN ?_; first | (with_reducible assumption) | walk_at "om")) (by (refine ltN ?_; first | (with_reducible assumption) | walk_at "om")) (by (refine ltN ?_; first | (with_reducible assumption) | walk_at "om")) (by (refine ltN ?_; first | (with_reducible assumption) | walk_at "om")) (by (refine ltN ?_; first | (with_reducible assumption) | walk_at "om")) (by (refine ltN ?_; first | (with_reducible assumption) | walk_at "om")) (by assumption) (by assumption) (by assumption) (by assumption) (by exact wholeB_size (by assumption)) (by ktr_room) (by ktr_units) ?_); intro ks'q kt'q kl'q kx'q h'q tk'q F'q N'q)) | (k_here; k_dflt ((with_reducible show wpAny _ _ (call (Value.ref 783) _) _ _ _); (refine' Mine.c_made_ok (by k_asm) (by k_asm) (by k_asm) (by k_asm) (by k_asm) (by k_asm) (by k_asm) (by first | exact rfl | assumption) (by assumption) (by assumption) (by assumption) (by walk_at "om") (by walk_at "om") (by walk_at "om") (by walk_at "om") (by ktr_room) (by ktr_units) ?_); intro sa'q ds'q wi'q ti'q dt'q de'q wl'q ul'q tl'q ode'q k0'q k1'q k2'q k3'q k4'q k5'q k6'q k7'q k8'q k9'q k10'q k11'q k12'q ko'q ks'q kl'q kx'q kh'q kt'q ke'q h'q tk'q l1'q l2'q l3'q l4'q l5'q l6'q l7'q l8'q lo'q hs'q F'q N'q; (k_lt2 l1'q); (k_lt2 l2'q); (k_lt2 l3'q); (k_lt2 l4'q); (k_lt2 l5'q); (k_lt2 l6'q); (k_lt2 l7'q); (k_lt2 l8'q))) | (k_here; k_dflt ((with_reducible show wpAny _ _ (call (Value.ref 783) _) _ _ _); (refine' Mine.c_made_bad (by k_asm) (by k_asm) (by k_asm) (by k_asm) (by k_asm) (by k_asm) (by k_asm) (by first | exact rfl | assumption) (by assumption) (by assumption) (by assumption) (by walk_at "om") (by walk_at "om") (by walk_at "om") (by assumption) (by ktr_room) (by ktr_units) ?_); intro h'q tk'q F'q N'q)) | ((with_reducible show wpAny _ _ (getMethod (Value.bytes _ _) _ _) _ _ _); (k_here; refine join_method ?_)))) | (leave1; try dsimp only)))
  · intro lz' g1' g2' g3' g4'
    (repeat' (first | (k_unfold; (try dsimp only)) | (k_end; kc_close) | (first | (k_here; (with_reducible show wpAny _ _ (callWith _ (Value.ref 430) _ (backTo _ (starEach [] _)) []) _ _ _); k_dflt (refine' callWith_K0 (by exact Frag.In.keeps (by k_asm) (Fr.keep (by k_asm))) (by k_is) ?_; k_whole)) | (k_here; (with_reducible show wpAny _ _ (compareOp CmpOp.Eq (Value.bytes _ _) (Value.bytes #[] _)) _ _ _); refine eq_lot ?_ ?_ <;> intro z0'q) | (k_here; (with_reducible show wpAny _ _ (compareOp CmpOp.Eq (Value.bytes _ _) (Value.bytes _ _)) _ _ _); refine eq_whole (by exact whole_law rfl) ?_) | (k_here; (with_reducible show wpAny _ _ (call (Value.builtin "len") [Value.bytes _ _]) _ _ _); (refine len_bytes (by (first | walk_at "om" | ((simp only [Array.size_append, List.size_toArray, oct1_size, oct2_size, oct4_size, byteArr_size, List.length_cons, List.length_nil]; walk_at "om")))) ?_)) | (k_here; (with_reducible show wpAny _ _ (binaryOp Operator.Add (Value.bytes _ _) (Value.bytes _ _)) _ _ _); refine KBy.add_bytes (by (simp only [Array.size_append, List.size_toArray, oct1_size, oct2_size, oct4_size, byteArr_size, List.length_cons, List.length_nil]; walk_at "om")) ?_; intro t'q k'q) | ((with_reducible show wpAny _ _ (call (Value.builtin "bytes.join") _ _) _ _ _); (k_here; k_dflt (refine' join_lot (by k_asm) (by k_mem) (by assumption) ?_; k_whole); intro t'q k'q)) | ((with_reducible show Mine.TurnEnd _ _ _ _ _ _ _ _ _ _); (k_here; k_dflt (refine' TurnEnd.lot (by k_asm) (by k_asm) (by k_mem) (by (intro p hp; repeat (first | exact hp | apply List.mem_cons_of_mem)); first | done | fail) (by exact cap_eq (by assumption) (by assumption) (by assumption))))) | ((with_reducible show Mine.SrcP _ _ _ _ _ _ _ _ _ _ _ _ _ _ _); (k_here; k_dflt (refine' srcP_caps (by rfl) (by k_asm) (by k_asm) (by exact Caps.mono (by assumption) (by intro p hp; repeat (first | exact hp | apply List.mem_cons_of_mem)); first | done | fail) ?_ ?_); (intro code'q tc'q b'q tb'q hq0'q hq1'q hb'q g'q C'q oC'q m'q h'q tk'q led'q E'q hC'q hx'q hy'q F'q N'q sub'q); rotate_left; intro D'q ys'q h'q tk'q F'q N'q J'q; rotate_left)) | (k_here; (with_reducible show wpAny _ _ (eval (Expr.ListComp _ [⟨Expr.Tuple [_, _] _ _, Expr.Name _ _, [], 0⟩] _ _) _) _ _ _); k_dflt (refine Mine.comp_pairs (F₀ := by k_asm) (by with_unfolding_all rfl) (by decide) (by rfl) (by decide) (by rfl) (by rfl) (by decide) ?_)) | (k_here; (with_reducible show wpAny _ _ (call (Value.type _) [Value.ref _]) _ _ _); k_dflt (refine' caps_tuple (by k_asm) (by k_asm) (by assumption) (by assumption) ?_; k_whole); intro ca'q lot'q h'q rest'q F'q N'q hc'q) | ((with_reducible show Mine.TurnEnd _ _ _ _ _ _ _ _ _ _); (k_here; k_dflt (refine' TurnEnd.one (by k_asm) (by k_asm) (by k_mem) (by k_mem) (by (intro p hp; repeat (first | exact hp | apply List.mem_cons_of_mem)); first | done | fail) (by exact rep_size _ _ (by assumption) (by assumption))))) | ((with_reducible show Mine.SrcE _ _ _ _ _ _ _ _ _ _ _ _ _ _ _); (k_here; k_dflt (refine' srcE_caps (by rfl) (by k_asm) (by k_asm) (by k_mem) (by assumption) (by assumption) (by assumption) ?_ ?_); (first | (intro i'q z'q t'q t2'q hi'q hz0'q hz1'q C'q oC'q m'q h'q tk'q led'q E'q hC'q hx'q hy'q F'q N'q sub'q) | (intro D'q ys'q outs'q h'q tk'q F'q N'q G'q hn'q)); rotate_left; intro D'q ys'q outs'q h'q tk'q F'q N'q G'q hn'q; rotate_left)) | ((with_reducible show wpAny _ _ (call (Value.type "enumerate") _ _) _ _ _); (k_here; k_dflt (refine' call_enum (by k_asm) (by k_asm) (by k_mem) ?_; k_whole); intro e'q it'q h'q F'q N'q off'q ne'q)) | (k_here; (with_reducible show wpAny _ _ (eval (Expr.ListComp _ [⟨Expr.Tuple [_, _] _ _, Expr.Call _ _ _ _, [], 0⟩] _ _) _) _ _ _); k_dflt (refine Mine.comp_enum (F₀ := by k_asm) (by with_unfolding_all rfl) (by decide) (by rfl) (by decide) (by rfl) (by rfl) (by decide) ?_)) | ((with_reducible show wpAny _ _ (eval (Expr.Dict _ _ _) _) _ _ _); walk_at "own3") | (k_here; (with_reducible show wpAny _ _ (execs (Stmt.Assign [Expr.Name (Str.ofString "session") _] _ _ :: _) _) _ _ _); refine Halt.mk ?_) | (k_here; (with_reducible show wpAny _ _ (subscriptTail _ _ (Value.ref _) (Value.int _ _)) _ _ _); k_dflt (refine' item_sizes (vs := [_, _, _, _, _, _]) (by k_asm) (by is_list) (by assumption) (by assumption) (by exact Nat.le_of_ble_eq_true rfl) (by (repeat (first | exact List.forall_mem_nil _ | (refine List.forall_mem_cons.mpr ⟨⟨_, _, _, rfl, by k_mem, by first | exact Sz.nil | exact Sz.one (by decide) | exact Sz.two (by decide) (by decide)⟩, ?_⟩))); first | done | fail) ?_; k_whole); intro sa'q its'q n'q N'q hz'q) | (k_here; (with_reducible show wpAny _ _ (execs (Stmt.Assign [Expr.Name (Str.ofString "sizes") _] _ _ :: _) _) _ _ _); refine Halt.mk ?_) | (k_here; (with_reducible show wpAny _ _ (subscriptTail _ _ (Value.ref _) (Value.int _ _)) _ _ _); k_dflt (refine' item_ints (by is_list) (by l_intsW) (by assumption) (by assumption) (by decide) ?_; k_whole); intro n'q t'q hn'q; (try simp only [List.mem_cons, List.not_mem_nil, or_false, p32] at hn'q); (first | (have hb'q : 0 ≤ n'q ∧ n'q ≠ 1 ∧ n'q ≤ 4294967296 := (by walk_at "om")) | (have hb'q : 0 ≤ n'q := (by walk_at "om"))); clear hn'q) | walk_at "own2" | ((with_reducible show Mine.JoinV _ _ _ _ _ _ _ _); (k_here; k_dflt (refine' JoinV.intro (by first | exact parB_zero (by assumption) | exact parB_pos (by assumption)) (by k_asm) (by first | k_asm | (refine' cb_drop (by assumption) (by (intro p hp; repeat (first | exact hp | apply List.mem_cons_of_mem)); first | done | fail)); first | done | fail)))) | (k_here; (with_reducible show wpAny _ _ (eval (Expr.IfExp _ _ _ _) _) _ _ _); k_dflt (refine' join_val (by assumption) (by k_asm) (by k_asm) ?_ ?_); rotate_left; intro t'q h'q tk'q F'q N'q z'q; rotate_left; walk1) | (k_here; k_dflt ((with_reducible show wpAny _ _ (call (Value.ref 430) _) _ _ _); (refine' Mine.c_take (by k_asm) (by k_asm) (by k_asm) (by (refine' cb_drop (by assumption) (by (repeat (first | exact List.forall_mem_nil _ | (refine' List.forall_mem_cons.mpr ⟨?_, ?_⟩; (k_mem)))); first | done | fail)); first | done | fail) (by k_asm) (by first | exact rfl | assumption) (by (refine ltN ?_; first | (with_reducible assumption) | walk_at "om")) (by ktr_room) (by ktr_units) ?_); intro kx'q h'q tk'q F'q N'q)) | (k_here; k_dflt ((with_reducible show wpAny _ _ (call (Value.ref 790) [_, Value.int 2 _]) _ _ _); (refine' Mine.c_oct2 (by k_asm) (by k_asm) (by k_asm) (by k_asm) (by k_asm) (by first | exact rfl | assumption) (by (first | walk_at "om" | ((simp only [Array.size_append, List.size_toArray, oct1_size, oct2_size, oct4_size, byteArr_size, List.length_cons, List.length_nil]); walk_at "om"))) (by (first | walk_at "om" | ((simp only [Array.size_append, List.size_toArray, oct1_size, oct2_size, oct4_size, byteArr_size, List.length_cons, List.length_nil]); walk_at "om"))) (by ktr_room) (by ktr_units) ?_); intro t'q h'q tk'q F'q N'q)) | (k_here; k_dflt ((with_reducible show wpAny _ _ (call (Value.ref 790) [_, Value.int 4 _]) _ _ _); (refine' Mine.c_oct4 (by k_asm) (by k_asm) (by k_asm) (by k_asm) (by k_asm) (by first | exact rfl | assumption) (by (first | walk_at "om" | ((simp only [Array.size_append, List.size_toArray, oct1_size, oct2_size, oct4_size, byteArr_size, List.length_cons, List.length_nil]); walk_at "om"))) (by (first | walk_at "om" | ((simp only [Array.size_append, List.size_toArray, oct1_size, oct2_size, oct4_size, byteArr_size, List.length_cons, List.length_nil]); walk_at "om"))) (by ktr_room) (by ktr_units) ?_); intro t'q h'q tk'q F'q N'q)) | (k_here; k_dflt ((with_reducible show wpAny _ _ (call (Value.ref 395) [_, Value.str (Str.ofString "start") _, _, _]) _ _ _); (refine' Mine.c_happen1 (by k_asm) (by k_asm) (by k_asm) (by (refine' cb_drop (by assumption) (by (repeat (first | exact List.forall_mem_nil _ | (refine' List.forall_mem_cons.mpr ⟨?_, ?_⟩; (k_mem)))); first | done | fail)); first | done | fail) (by k_asm) (by first | exact rfl | assumption) (by (refine ltN ?_; first | (with_reducible assumption) | walk_at "om")) (by (refine ltN ?_; first | (with_reducible assumption) | walk_at "om")) (by (refine ltN ?_; first | (with_reducible assumption) | walk_at "om")) (by (refine ltN ?_; first | (with_reducible assumption) | walk_at "om")) (by (refine ltN ?_; first | (with_reducible assumption) | walk_at "om")) (by (refine ltN ?_; first | (with_reducible assumption) | walk_at "om")) (by (refine ltN ?_; first | (with_reducible assumption) | walk_at "om")) (by assumption) (by assumption) (by assumption) (by assumption) (by ktr_room) (by ktr_units) ?_); intro ode'q ks'q kt'q t20'q h'q tk'q hD'q F'q N'q)) | (k_here; k_dflt ((with_reducible show wpAny _ _ (call (Value.ref 395) [_, Value.str (Str.ofString "connected") _, _, _]) _ _ _); (refine' Mine.c_happen2 (by k_asm) (by k_asm) (by k_asm) (by (refine' cb_drop (by assumption) (by (repeat (first | exact List.forall_mem_nil _ | (refine' List.forall_mem_cons.mpr ⟨?_, ?_⟩; (k_mem)))); first | done | fail)); first | done | fail) (by k_asm) (by first | exact rfl | assumption) (by (refine ltN ?_; first | (with_reducible assumption) | walk_at "om")) (by (refine ltN ?_; first | (with_reducible assumption) | walk_at "om")) (by (refine ltN ?_; first | (with_reducible assumption) | walk_at "om")) (by (refine ltN ?_; first | (with_reducible assumption) | walk_at "om")) (by (refine ltN ?_; first | (with_reducible assumption) | walk_at "om")) (by (refine ltN ?_; first | (with_reducible assumption) | walk_at "om")) (by assumption) (by assumption) (by assumption) (by assumption) (by exact wholeB_size (by assumption)) (by ktr_room) (by ktr_units) ?_); intro ks'q kt'q kl'q kx'q h'q tk'q F'q N'q)) | (k_here; k_dflt ((with_reducible show wpAny _ _ (call (Value.ref 783) _) _ _ _); (refine' Mine.c_made_ok (by k_asm) (by k_asm) (by k_asm) (by k_asm) (by k_asm) (by k_asm) (by k_asm) (by first | exact rfl | assumption) (by assumption) (by assumption) (by assumption) (by walk_at "om") (by walk_at "om") (by walk_at "om") (by walk_at "om") (by ktr_room) (by ktr_units) ?_); intro sa'q ds'q wi'q ti'q dt'q de'q wl'q ul'q tl'q ode'q k0'q k1'q k2'q k3'q k4'q k5'q k6'q k7'q k8'q k9'q k10'q k11'q k12'q ko'q ks'q kl'q kx'q kh'q kt'q ke'q h'q tk'q l1'q l2'q l3'q l4'q l5'q l6'q l7'q l8'q lo'q hs'q F'q N'q; (k_lt2 l1'q); (k_lt2 l2'q); (k_lt2 l3'q); (k_lt2 l4'q); (k_lt2 l5'q); (k_lt2 l6'q); (k_lt2 l7'q); (k_lt2 l8'q))) | (k_here; k_dflt ((with_reducible show wpAny _ _ (call (Value.ref 783) _) _ _ _); (refine' Mine.c_made_bad (by k_asm) (by k_asm) (by k_asm) (by k_asm) (by k_asm) (by k_asm) (by k_asm) (by first | exact rfl | assumption) (by assumption) (by assumption) (by assumption) (by walk_at "om") (by walk_at "om") (by walk_at "om") (by assumption) (by ktr_room) (by ktr_units) ?_); intro h'q tk'q F'q N'q)) | ((with_reducible show wpAny _ _ (getMethod (Value.bytes _ _) _ _) _ _ _); (k_here; refine join_method ?_))) | walk1 | (dsimp only; first | walk1 | (first | (k_here; (with_reducible show wpAny _ _ (callWith _ (Value.ref 430) _ (backTo _ (starEach [] _)) []) _ _ _); k_dflt (refine' callWith_K0 (by exact Frag.In.keeps (by k_asm) (Fr.keep (by k_asm))) (by k_is) ?_; k_whole)) | (k_here; (with_reducible show wpAny _ _ (compareOp CmpOp.Eq (Value.bytes _ _) (Value.bytes #[] _)) _ _ _); refine eq_lot ?_ ?_ <;> intro z0'q) | (k_here; (with_reducible show wpAny _ _ (compareOp CmpOp.Eq (Value.bytes _ _) (Value.bytes _ _)) _ _ _); refine eq_whole (by exact whole_law rfl) ?_) | (k_here; (with_reducible show wpAny _ _ (call (Value.builtin "len") [Value.bytes _ _]) _ _ _); (refine len_bytes (by (first | walk_at "om" | ((simp only [Array.size_append, List.size_toArray, oct1_size, oct2_size, oct4_size, byteArr_size, List.length_cons, List.length_nil]; walk_at "om")))) ?_)) | (k_here; (with_reducible show wpAny _ _ (binaryOp Operator.Add (Value.bytes _ _) (Value.bytes _ _)) _ _ _); refine KBy.add_bytes (by (simp only [Array.size_append, List.size_toArray, oct1_size, oct2_size, oct4_size, byteArr_size, List.length_cons, List.length_nil]; walk_at "om")) ?_; intro t'q k'q) | ((with_reducible show wpAny _ _ (call (Value.builtin "bytes.join") _ _) _ _ _); (k_here; k_dflt (refine' join_lot (by k_asm) (by k_mem) (by assumption) ?_; k_whole); intro t'q k'q)) | ((with_reducible show Mine.TurnEnd _ _ _ _ _ _ _ _ _ _); (k_here; k_dflt (refine' TurnEnd.lot (by k_asm) (by k_asm) (by k_mem) (by (intro p hp; repeat (first | exact hp | apply List.mem_cons_of_mem)); first | done | fail) (by exact cap_eq (by assumption) (by assumption) (by assumption))))) | ((with_reducible show Mine.SrcP _ _ _ _ _ _ _ _ _ _ _ _ _ _ _); (k_here; k_dflt (refine' srcP_caps (by rfl) (by k_asm) (by k_asm) (by exact Caps.mono (by assumption) (by intro p hp; repeat (first | exact hp | apply List.mem_cons_of_mem)); first | done | fail) ?_ ?_); (intro code'q tc'q b'q tb'q hq0'q hq1'q hb'q g'q C'q oC'q m'q h'q tk'q led'q E'q hC'q hx'q hy'q F'q N'q sub'q); rotate_left; intro D'q ys'q h'q tk'q F'q N'q J'q; rotate_left)) | (k_here; (with_reducible show wpAny _ _ (eval (Expr.ListComp _ [⟨Expr.Tuple [_, _] _ _, Expr.Name _ _, [], 0⟩] _ _) _) _ _ _); k_dflt (refine Mine.comp_pairs (F₀ := by k_asm) (by with_unfolding_all rfl) (by decide) (by rfl) (by decide) (by rfl) (by rfl) (by decide) ?_)) | (k_here; (with_reducible show wpAny _ _ (call (Value.type _) [Value.ref _]) _ _ _); k_dflt (refine' caps_tuple (by k_asm) (by k_asm) (by assumption) (by assumption) ?_; k_whole); intro ca'q lot'q h'q rest'q F'q N'q hc'q) | ((with_reducible show Mine.TurnEnd _ _ _ _ _ _ _ _ _ _); (k_here; k_dflt (refine' TurnEnd.one (by k_asm) (by k_asm) (by k_mem) (by k_mem) (by (intro p hp; repeat (first | exact hp | apply List.mem_cons_of_mem)); first | done | fail) (by exact rep_size _ _ (by assumption) (by assumption))))) | ((with_reducible show Mine.SrcE _ _ _ _ _ _ _ _ _ _ _ _ _ _ _); (k_here; k_dflt (refine' srcE_caps (by rfl) (by k_asm) (by k_asm) (by k_mem) (by assumption) (by assumption) (by assumption) ?_ ?_); (first | (intro i'q z'q t'q t2'q hi'q hz0'q hz1'q C'q oC'q m'q h'q tk'q led'q E'q hC'q hx'q hy'q F'q N'q sub'q) | (intro D'q ys'q outs'q h'q tk'q F'q N'q G'q hn'q)); rotate_left; intro D'q ys'q outs'q h'q tk'q F'q N'q G'q hn'q; rotate_left)) | ((with_reducible show wpAny _ _ (call (Value.type "enumerate") _ _) _ _ _); (k_here; k_dflt (refine' call_enum (by k_asm) (by k_asm) (by k_mem) ?_; k_whole); intro e'q it'q h'q F'q N'q off'q ne'q)) | (k_here; (with_reducible show wpAny _ _ (eval (Expr.ListComp _ [⟨Expr.Tuple [_, _] _ _, Expr.Call _ _ _ _, [], 0⟩] _ _) _) _ _ _); k_dflt (refine Mine.comp_enum (F₀ := by k_asm) (by with_unfolding_all rfl) (by decide) (by rfl) (by decide) (by rfl) (by rfl) (by decide) ?_)) | ((with_reducible show wpAny _ _ (eval (Expr.Dict _ _ _) _) _ _ _); walk_at "own3") | (k_here; (with_reducible show wpAny _ _ (execs (Stmt.Assign [Expr.Name (Str.ofString "session") _] _ _ :: _) _) _ _ _); refine Halt.mk ?_) | (k_here; (with_reducible show wpAny _ _ (subscriptTail _ _ (Value.ref _) (Value.int _ _)) _ _ _); k_dflt (refine' item_sizes (vs := [_, _, _, _, _, _]) (by k_asm) (by is_list) (by assumption) (by assumption) (by exact Nat.le_of_ble_eq_true rfl) (by (repeat (first | exact List.forall_mem_nil _ | (refine List.forall_mem_cons.mpr ⟨⟨_, _, _, rfl, by k_mem, by first | exact Sz.nil | exact Sz.one (by decide) | exact Sz.two (by decide) (by decide)⟩, ?_⟩))); first | done | fail) ?_; k_whole); intro sa'q its'q n'q N'q hz'q) | (k_here; (with_reducible show wpAny _ _ (execs (Stmt.Assign [Expr.Name (Str.ofString "sizes") _] _ _ :: _) _) _ _ _); refine Halt.mk ?_) | (k_here; (with_reducible show wpAny _ _ (subscriptTail _ _ (Value.ref _) (Value.int _ _)) _ _ _); k_dflt (refine' item_ints (by is_list) (by l_intsW) (by assumption) (by assumption) (by decide) ?_; k_whole); intro n'q t'q hn'q; (try simp only [List.mem_cons, List.not_mem_nil, or_false, p32] at hn'q); (first | (have hb'q : 0 ≤ n'q ∧ n'q ≠ 1 ∧ n'q ≤ 4294967296 := (by walk_at "om")) | (have hb'q : 0 ≤ n'q := (by walk_at "om"))); clear hn'q) | walk_at "own2" | ((with_reducible show Mine.JoinV _ _ _ _ _ _ _ _); (k_here; k_dflt (refine' JoinV.intro (by first | exact parB_zero (by assumption) | exact parB_pos (by assumption)) (by k_asm) (by first | k_asm | (refine' cb_drop (by assumption) (by (intro p hp; repeat (first | exact hp | apply List.mem_cons_of_mem)); first | done | fail)); first | done | fail)))) | (k_here; (with_reducible show wpAny _ _ (eval (Expr.IfExp _ _ _ _) _) _ _ _); k_dflt (refine' join_val (by assumption) (by k_asm) (by k_asm) ?_ ?_); rotate_left; intro t'q h'q tk'q F'q N'q z'q; rotate_left; walk1) | (k_here; k_dflt ((with_reducible show wpAny _ _ (call (Value.ref 430) _) _ _ _); (refine' Mine.c_take (by k_asm) (by k_asm) (by k_asm) (by (refine' cb_drop (by assumption) (by (repeat (first | exact List.forall_mem_nil _ | (refine' List.forall_mem_cons.mpr ⟨?_, ?_⟩; (k_mem)))); first | done | fail)); first | done | fail) (by k_asm) (by first | exact rfl | assumption) (by (refine ltN ?_; first | (with_reducible assumption) | walk_at "om")) (by ktr_room) (by ktr_units) ?_); intro kx'q h'q tk'q F'q N'q)) | (k_here; k_dflt ((with_reducible show wpAny _ _ (call (Value.ref 790) [_, Value.int 2 _]) _ _ _); (refine' Mine.c_oct2 (by k_asm) (by k_asm) (by k_asm) (by k_asm) (by k_asm) (by first | exact rfl | assumption) (by (first | walk_at "om" | ((simp only [Array.size_append, List.size_toArray, oct1_size, oct2_size, oct4_size, byteArr_size, List.length_cons, List.length_nil]); walk_at "om"))) (by (first | walk_at "om" | ((simp only [Array.size_append, List.size_toArray, oct1_size, oct2_size, oct4_size, byteArr_size, List.length_cons, List.length_nil]); walk_at "om"))) (by ktr_room) (by ktr_units) ?_); intro t'q h'q tk'q F'q N'q)) | (k_here; k_dflt ((with_reducible show wpAny _ _ (call (Value.ref 790) [_, Value.int 4 _]) _ _ _); (refine' Mine.c_oct4 (by k_asm) (by k_asm) (by k_asm) (by k_asm) (by k_asm) (by first | exact rfl | assumption) (by (first | walk_at "om" | ((simp only [Array.size_append, List.size_toArray, oct1_size, oct2_size, oct4_size, byteArr_size, List.length_cons, List.length_nil]); walk_at "om"))) (by (first | walk_at "om" | ((simp only [Array.size_append, List.size_toArray, oct1_size, oct2_size, oct4_size, byteArr_size, List.length_cons, List.length_nil]); walk_at "om"))) (by ktr_room) (by ktr_units) ?_); intro t'q h'q tk'q F'q N'q)) | (k_here; k_dflt ((with_reducible show wpAny _ _ (call (Value.ref 395) [_, Value.str (Str.ofString "start") _, _, _]) _ _ _); (refine' Mine.c_happen1 (by k_asm) (by k_asm) (by k_asm) (by (refine' cb_drop (by assumption) (by (repeat (first | exact List.forall_mem_nil _ | (refine' List.forall_mem_cons.mpr ⟨?_, ?_⟩; (k_mem)))); first | done | fail)); first | done | fail) (by k_asm) (by first | exact rfl | assumption) (by (refine ltN ?_; first | (with_reducible assumption) | walk_at "om")) (by (refine ltN ?_; first | (with_reducible assumption) | walk_at "om")) (by (refine ltN ?_; first | (with_reducible assumption) | walk_at "om")) (by (refine ltN ?_; first | (with_reducible assumption) | walk_at "om")) (by (refine ltN ?_; first | (with_reducible assumption) | walk_at "om")) (by (refine ltN ?_; first | (with_reducible assumption) | walk_at "om")) (by (refine ltN ?_; first | (with_reducible assumption) | walk_at "om")) (by assumption) (by assumption) (by assumption) (by assumption) (by ktr_room) (by ktr_units) ?_); intro ode'q ks'q kt'q t20'q h'q tk'q hD'q F'q N'q)) | (k_here; k_dflt ((with_reducible show wpAny _ _ (call (Value.ref 395) [_, Value.str (Str.ofString "connected") _, _, _]) _ _ _); (refine' Mine.c_happen2 (by k_asm) (by k_asm) (by k_asm) (by (refine' cb_drop (by assumption) (by (repeat (first | exact List.forall_mem_nil _ | (refine' List.forall_mem_cons.mpr ⟨?_, ?_⟩; (k_mem)))); first | done | fail)); first | done | fail) (by k_asm) (by first | exact rfl | assumption) (by (refine ltN ?_; first | (with_reducible assumption) | walk_at "om")) (by (refine ltN ?_; first | (with_reducible assumption) | walk_at "om")) (by (refine ltN ?_; first | (with_reducible assumption) | walk_at "om")) (by (refine ltN ?_; first | (with_reducible assumption) | walk_at "om")) (by (refine ltN ?_; first | (with_reducible assumption) | walk_at "om")) (by (refine ltN ?_; first | (with_reducible assumption) | walk_at "om")) (by assumption) (by assumption) (by assumption) (by assumption) (by exact wholeB_size (by assumption)) (by ktr_room) (by ktr_units) ?_); intro ks'q kt'q kl'q kx'q h'q tk'q F'q N'q)) | (k_here; k_dflt ((with_reducible show wpAny _ _ (call (Value.ref 783) _) _ _ _); (refine' Mine.c_made_ok (by k_asm) (by k_asm) (by k_asm) (by k_asm) (by k_asm) (by k_asm) (by k_asm) (by first | exact rfl | assumption) (by assumption) (by assumption) (by assumption) (by walk_at "om") (by walk_at "om") (by walk_at "om") (by walk_at "om") (by ktr_room) (by ktr_units) ?_); intro sa'q ds'q wi'q ti'q dt'q de'q wl'q ul'q tl'q ode'q k0'q k1'q k2'q k3'q k4'q k5'q k6'q k7'q k8'q k9'q k10'q k11'q k12'q ko'q ks'q kl'q kx'q kh'q kt'q ke'q h'q tk'q l1'q l2'q l3'q l4'q l5'q l6'q l7'q l8'q lo'q hs'q F'q N'q; (k_lt2 l1'q); (k_lt2 l2'q); (k_lt2 l3'q); (k_lt2 l4'q); (k_lt2 l5'q); (k_lt2 l6'q); (k_lt2 l7'q); (k_lt2 l8'q))) | (k_here; k_dflt ((with_reducible show wpAny _ _ (call (Value.ref 783) _) _ _ _); (refine' Mine.c_made_bad (by k_asm) (by k_asm) (by k_asm) (by k_asm) (by k_asm) (by k_asm) (by k_asm) (by first | exact rfl | assumption) (by assumption) (by assumption) (by assumption) (by walk_at "om") (by walk_at "om") (by walk_at "om") (by assumption) (by ktr_room) (by ktr_units) ?_); intro h'q tk'q F'q N'q)) | ((with_reducible show wpAny _ _ (getMethod (Value.bytes _ _) _ _) _ _ _); (k_here; refine join_method ?_)))) | (leave1; try dsimp only)))
end Mine
end
theorem PySem.Challenge.cw_rh0217_02_holds : PySem.Challenge.rw_rh0217_02.Holds := by
  exact Mine.law_holds Mine.law_walk
