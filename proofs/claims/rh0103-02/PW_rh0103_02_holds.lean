import PyProof.Rows.All
import Wide.All
import OpenK.AllK
import Wide.FinOn
import KE.KSliceW
import KE.KDeep
import Lean
import PySem.Challenge.RW_rh0103_02
set_option Elab.async false
namespace PySem.W.Fast
def tw12813236842856870187:=Nat
def tw10352308551163946355:=Nat
def tw16432479971616331241:=Nat
def tw16145008321745377990:=Nat
def tw3424931102881643321:=Nat
def tw18345786424863182364:=Nat
def tw4630116404320636979:=Nat
def tw5529568453561195837:=Nat
def tw9594665118957945026:=Nat
def tw8753696776887207221:=Nat
def tw460243522976405022:=Nat
def tw5701610774189311196:=Nat
def tw4658958612460137192:=Nat
def tw9787396351842916947:=Nat
def tw9407582987413476825:=Nat
def tw8224813933742928703:=Nat
def tw10500077913531017323:=Nat
def tw13559156169165276386:=Nat
def tw4681523508651956083:=Nat
def tw15894407043143930727:=Nat
def tw14126943448341045398:=Nat
def tw607167704815816724:=Nat
def tw11306939235166856333:=Nat
def tw7469732015759309437:=Nat
def tw5715658561523051193:=Nat
def tw2951486255847992690:=Nat
def tw17000155066101142889:=Nat
def tw7232422423428716515:=Nat
def tw878741703135273975:=Nat
def tw10833955939284561965:=Nat
def tw4090926877573551719:=Nat
def tw11796506867022685745:=Nat
def tw5832503352825792928:=Nat
def tw8253183596043897158:=Nat
def tw3577408171920636059:=Nat
def tw4921902886906138986:=Nat
def tw18037247880685951323:=Nat
def tw4039474712603431140:=Nat
def tw11495947367809530248:=Nat
def tw17804436615005485693:=Nat
def tw14821650378409806113:=Nat
def tw8047484207015712433:=Nat
def tw7081425507203772304:=Nat
def tw3315324234476444515:=Nat
def tw2711585505577850959:=Nat
def tw17101871299007795629:=Nat
def tw3778451253796500701:=Nat
def tw5032809538720368765:=Nat
def tw10323183001455561277:=Nat
def tw7670514497116975361:=Nat
def tw8732485361984058174:=Nat
def tw2759451637364818457:=Nat
def tw13252181687094117063:=Nat
def tw1370275717833778536:=Nat
def tw16494616584097029746:=Nat
def tw9821368406582625841:=Nat
def tw7323676302269181137:=Nat
def tw6214688769961185500:=Nat
def tw4936483359421988267:=Nat
def tw219737044198020058:=Nat
def tw10919533547850550483:=Nat
def tw11788150170368784547:=Nat
def tw9011979029575296479:=Nat
def tw11310463157757771331:=Nat
def tw7392212959928792091:=Nat
def tw6135381517318000843:=Nat
def tw8693227569615203950:=Nat
def tw9396933662098498411:=Nat
def tw11566699232636054958:=Nat
def tw5823794197072137003:=Nat
def tw716658179208862652:=Nat
def tw721709456127091705:=Nat
def tw9800571698397750058:=Nat
def tw5268983451555188008:=Nat
def tw12809422525583811893:=Nat
def tw17954736447514056666:=Nat
def tw4679858250743294509:=Nat
def tw9763268239775435451:=Nat
def tw6245536207120538393:=Nat
def tw15919542637913265678:=Nat
def tw8555734327229750603:=Nat
def tw14537914154153760125:=Nat
def tw3856783459128436802:=Nat
def tw2447775223705975068:=Nat
def tw6993175162768986339:=Nat
def tw14214133299417103183:=Nat
def tw11957962974430299695:=Nat
def tw4292500188555128830:=Nat
def tw2039238271031011813:=Nat
def tw7140130562030077042:=Nat
def tw15323854079317868165:=Nat
def tw13002492023102617099:=Nat
def tw17341736924252097559:=Nat
def tw14305139224198610471:=Nat
def tw11985326045990495214:=Nat
def tw9413167413068371254:=Nat
def tw6004533443673955352:=Nat
def tw10010936943081839664:=Nat
def tw3891137856419664920:=Nat
def tw12726346659333912481:=Nat
def tw1772237422875290029:=Nat
def tw10887116778572429059:=Nat
def tw6122645084068987007:=Nat
def tw13912434898499826684:=Nat
def tw13678640442995254988:=Nat
def tw7397068168572129948:=Nat
def tw10670733350059645105:=Nat
def tw930746551332336609:=Nat
def tw16189536214700107852:=Nat
def tw662354867322794072:=Nat
def tw1291980286583624508:=Nat
def tw667198328695590252:=Nat
def tw916427462477926122:=Nat
def tw8719427161674164953:=Nat
def tw14333388528381170442:=Nat
def tw16487347958798203451:=Nat
def tw15766043655864335149:=Nat
def tw7496433998918960881:=Nat
def tw11108263761283441063:=Nat
def tw8708707556590381134:=Nat
def tw7299951869573292228:=Nat
def tw12233582284571471492:=Nat
def tw8376441433122354887:=Nat
def tw15468230090516036684:=Nat
def tw9467589175468403638:=Nat
def tw3766158894648301139:=Nat
def tw7783732958741208154:=Nat
def tw8098380416015320538:=Nat
def tw10317580896714288900:=Nat
def tw14023627001141898710:=Nat
def tw7365555872484859036:=Nat
def tw9136488742655976645:=Nat
def tw618205885557783147:=Nat
def tw16792545251062261874:=Nat
def tw12371321757623732685:=Nat
def tw15278061642289888581:=Nat
def tw3820604794100220378:=Nat
def tw5396446701170858492:=Nat
def tw12450158673883907302:=Nat
def tw17954471519018878134:=Nat
def tw11317593695737139937:=Nat
def tw7788680626742099145:=Nat
def tw9931943479562821362:=Nat
def tw724751600484774222:=Nat
def tw13180171748994924942:=Nat
def tw13900631225919944168:=Nat
def tw3764465048917985505:=Nat
def tw6967401301877209104:=Nat
def tw18220123701641295943:=Nat
def tw11013792430000457035:=Nat
def tw6587116730350146372:=Nat
def tw7581816359482902497:=Nat
def tw16049961110935095269:=Nat
def tw7299303143086499733:=Nat
def tw10379131730601215995:=Nat
def tw14420389602138693270:=Nat
def tw17765544955259793912:=Nat
def tw12268644228514654432:=Nat
def tw9281714027785469542:=Nat
def tw4434333111790514575:=Nat
def tw3282434896037501709:=Nat
def tw13896205201685373497:=Nat
def tw9674257727999782656:=Nat
def tw4966893808263662355:=Nat
def tw10073347824450446311:=Nat
def tw10314498396905981064:=Nat
def tw13580328829973926956:=Nat
def tw17520869792638436183:=Nat
def tw16241802466949684156:=Nat
def tw14097648870716263351:=Nat
def tw11045753479409362605:=Nat
def tw14386061602966655976:=Nat
def tw3976722010076183465:=Nat
def tw5068434257544371817:=Nat
def tw7650934615059315214:=Nat
def tw13141144453892091621:=Nat
def tw17888162413812561239:=Nat
def tw8656719876789144132:=Nat
def tw1145845241644347369:=Nat
def tw1537898542681612871:=Nat
def tw16916688483869632129:=Nat
def tw16741492637210864865:=Nat
def tw15823609455315575823:=Nat
def tw2354101950205528012:=Nat
def tw1092655722715705105:=Nat
def tw3355348695024010778:=Nat
def tw4525517667737911620:=Nat
def tw12611609854453135530:=Nat
def tw470574548607681690:=Nat
def tw14896874001708588922:=Nat
def tw7276740287692124622:=Nat
def tw3560238982266916124:=Nat
def tw2599325451414397859:=Nat
def tw6580340599500149305:=Nat
def tw10795322020468737591:=Nat
def tw5518745428033880147:=Nat
def tw15880737140895825463:=Nat
def tw18350638575300117064:=Nat
def tw11277716924127702174:=Nat
def tw7098571738820278039:=Nat
def tw9219426015542480343:=Nat
def tw12022618010286034681:=Nat
def tw3209381107111851631:=Nat
def tw1708024556718086227:=Nat
def tw14223099787259518943:=Nat
def tw10029231156530900338:=Nat
def tw4407734736301137906:=Nat
def tw6380047634161181297:=Nat
def tw1107438419126420414:=Nat
def tw11817470609975844035:=Nat
def tw3325841961599345399:=Nat
def tw9787463984185863102:=Nat
def tw11161088081135249708:=Nat
def tw10572350714630814037:=Nat
def tw383695940523520267:=Nat
def tw6654550962395885724:=Nat
def tw17394056326795013819:=Nat
def tw136631920214876835:=Nat
def tw4319705520415482375:=Nat
def tw8075568018651887793:=Nat
def tw16697116713213952808:=Nat
def tw2401699919119007470:=Nat
def tw15742981410569661332:=Nat
def tw11825729669827539873:=Nat
def tw15066959818950650227:=Nat
def tw11166942722945506595:=Nat
def tw7269565832213808900:=Nat
def tw14837249469386935497:=Nat
def tw14108194823987119177:=Nat
def tw11838138170533393997:=Nat
def tw16180582048198870337:=Nat
def tw17274371674624000324:=Nat
def tw4575980220486274672:=Nat
def tw1962928258387122110:=Nat
def tw13215998728584607739:=Nat
def tw11939915149646268982:=Nat
def tw1419416864934026935:=Nat
def tw7619357645376055252:=Nat
def tw3094477031063562474:=Nat
def tw16349804527192203551:=Nat
def tw13981391230805400906:=Nat
def tw17244072584429378644:=Nat
def tw13314330512976039754:=Nat
def tw6711915476519705758:=Nat
def tw1620339239838986703:=Nat
def tw4549333791460862111:=Nat
def tw14311459727803291754:=Nat
def tw10939839348159177617:=Nat
def tw1702518465993881591:=Nat
def tw2902314222560053993:=Nat
def tw9626621113073979434:=Nat
def tw3436264866546951355:=Nat
def tw16869277618539721502:=Nat
def tw3470799630455053000:=Nat
def tw947438040082793914:=Nat
def tw7504490480230193789:=Nat
def tw9564595351457756722:=Nat
def tw13776390136698705113:=Nat
def tw12866136484021002089:=Nat
def tw16018607276475445134:=Nat
def tw503676674663206642:=Nat
def tw12945968074294007009:=Nat
def tw1869930749605803152:=Nat
def tw5111356299099525756:=Nat
def tw6363645014702824404:=Nat
def tw8359286648393180516:=Nat
def tw15041003319150489328:=Nat
def tw14530364306720264245:=Nat
def tw9501820088010722379:=Nat
def tw18101931140130867144:=Nat
def tw15263041282635125899:=Nat
def tw11994158751524154303:=Nat
def tw16223305294053301992:=Nat
def tw8989982439271903415:=Nat
def tw8579058602437062094:=Nat
def tw17827458813498177553:=Nat
def tw12734952128020822468:=Nat
def tw5189142188285759775:=Nat
def tw9151444980202551346:=Nat
def tw11270796479367742343:=Nat
def tw16979880578912567463:=Nat
def tw2334299552400917057:=Nat
def tw17537794083376710389:=Nat
def tw1139862187096482527:=Nat
def tw13317431791736044220:=Nat
def tw17476080006546285661:=Nat
def tw1402947280878808549:=Nat
def tw17071476683966804577:=Nat
def tw6742233586724650170:=Nat
def tw2664551874359636763:=Nat
def tw9948023125614773506:=Nat
def tw2611137233208623240:=Nat
def tw13606957523739123596:=Nat
def tw6059929106960060952:=Nat
def tw3619232141914619222:=Nat
def tw5732905514179830355:=Nat
def tw5357591511691535388:=Nat
def tw4075660801711882420:=Nat
def tw11277413387252134812:=Nat
def tw6722154040420286063:=Nat
def tw2718901123391026995:=Nat
def tw4933834842325187142:=Nat
def tw16414604833108395602:=Nat
def tw389472881494512206:=Nat
def tw4172830789200971933:=Nat
def tw8017206721242287953:=Nat
def tw8596489363040539036:=Nat
def tw13925586954763233925:=Nat
def tw11863081143760314161:=Nat
def tw15542691292777871779:=Nat
def tw6817277305950994716:=Nat
def tw8603108125212654177:=Nat
def tw10508251915553800215:=Nat
def tw3054133010854851324:=Nat
def tw13512673800721320934:=Nat
def tw11625766737575182897:=Nat
def tw14971970265804392439:=Nat
def tw12832477231654346042:=Nat
def tw14323765505736481980:=Nat
def tw17517737089405305841:=Nat
def tw3152983702415266003:=Nat
def tw17183712847048597117:=Nat
def tw8032284361305108907:=Nat
def tw16180483070735683940:=Nat
def tw15542503528162795033:=Nat
def tw10015664371746657536:=Nat
def tw5345256250457102556:=Nat
def tw347637069881736656:=Nat
def tw6426273055680023932:=Nat
def tw3972328310683599613:=Nat
def tw5135500740108067664:=Nat
def tw16531745337717519161:=Nat
def tw9537544019596298400:=Nat
def tw12821735335276811757:=Nat
def tw558745408833754511:=Nat
def tw15663404670287596823:=Nat
def tw17000458434675057986:=Nat
def tw13471461260053382970:=Nat
def tw13016732220969518872:=Nat
def tw3865406201487662470:=Nat
def tw17352973434858128600:=Nat
def tw4527066259768149269:=Nat
def tw17828083071136270317:=Nat
def tw17057272898397164401:=Nat
def tw12224578244612797663:=Nat
def tw13254397897704925713:=Nat
def tw13036272033356848781:=Nat
def tw10045867985992453528:=Nat
def tw1706496860858754268:=Nat
def tw13725850141900786883:=Nat
def tw17842620306162639686:=Nat
def tw6051871713109981301:=Nat
def tw2315820567201803617:=Nat
def tw14209830616999942402:=Nat
def tw16548257151911338427:=Nat
def tw8400853705098224536:=Nat
def tw9413021647563260571:=Nat
def tw4797165386629745026:=Nat
def tw441327347791068078:=Nat
def tw1886563365779066154:=Nat
def tw325292655437039998:=Nat
def tw9529234661008812162:=Nat
def tw7499937903120025604:=Nat
def tw387338674003428930:=Nat
def tw8703263022893421829:=Nat
def tw1184552218554016812:=Nat
def tw12635297910168745909:=Nat
def tw7198390536060210744:=Nat
def tw5862295025349918931:=Nat
def tw17561685609155626696:=Nat
def tw13833065179229638619:=Nat
def tw10007627690174824804:=Nat
def tw17532718790514356516:=Nat
def tw16417370028952169744:=Nat
def tw3953757239420563355:=Nat
def tw17100903815162463580:=Nat
def tw9504726810853072989:=Nat
def tw6090905460779295987:=Nat
def tw11420187438672877268:=Nat
def tw1638017585896720355:=Nat
def tw5706481520468235054:=Nat
def tw5697894365363955025:=Nat
def tw9315938663221665524:=Nat
def tw11036193050239951465:=Nat
def tw1333364371103165705:=Nat
def tw1763209079605825380:=Nat
def tw11892598404827812706:=Nat
def tw11186114360453789277:=Nat
def tw17988542015724977305:=Nat
def tw5152784196030571298:=Nat
def tw757081541053455785:=Nat
def tw15900120412870309639:=Nat
def tw6550987210724342151:=Nat
def tw1377046205977697930:=Nat
def tw12177639751122801600:=Nat
def tw15450981722951097364:=Nat
def tw16846860572762119324:=Nat
def tw12647630874787467225:=Nat
def tw2378363196638174374:=Nat
def tw17964007177503468958:=Nat
def tw3039592710220408265:=Nat
def tw6148621092414575339:=Nat
def tw4405960384096086239:=Nat
def tw14112274594779413971:=Nat
def tw5902227825499142635:=Nat
def tw5271184336429133520:=Nat
def tw15490439104401381959:=Nat
def tw18416463498863911781:=Nat
def tw17975652961387846372:=Nat
def tw10942035263794033107:=Nat
def tw11452132507678324671:=Nat
def tw10205541121877940668:=Nat
def tw1829445100760108279:=Nat
def tw15562837088269578035:=Nat
def tw8488268690174267210:=Nat
def tw16817318245366136608:=Nat
def tw1574873078441994576:=Nat
def tw15806122291839087668:=Nat
def tw3698559305507148144:=Nat
def tw16643379632663270332:=Nat
def tw900395245841561262:=Nat
def tw11333186260410459676:=Nat
def tw17730428716208468724:=Nat
def tw17344680358763864322:=Nat
def tw12488000419048109807:=Nat
def tw6019396324639902685:=Nat
def tw9376109419431680627:=Nat
def tw15376083050721069600:=Nat
def tw6213141578215901147:=Nat
def tw9305782018832362445:=Nat
def tw11462045893675790159:=Nat
def tw18211773271919218964:=Nat
def tw14168537005229113720:=Nat
def tw1055568401681811165:=Nat
def tw17164873540382356111:=Nat
def tw17111948838632640456:=Nat
def tw11543547407058413889:=Nat
def tw10470071008263537045:=Nat
def tw14778209649434054790:=Nat
def tw13640514254501968386:=Nat
def tw16874561944515371726:=Nat
def tw12850107946570832962:=Nat
def tw2968979199505139716:=Nat
def tw6792406925840432001:=Nat
def tw11729385059970357855:=Nat
def tw3807570752742699580:=Nat
def tw13607416678640721797:=Nat
def tw2001226814458364393:=Nat
def tw4278798014809849964:=Nat
def tw18263319221461684349:=Nat
def tw12945451867199242903:=Nat
def tw1041845030581493396:=Nat
def tw12182807814244774211:=Nat
def tw9908251947323293946:=Nat
def tw17846936440860909165:=Nat
def tw11707433790658880453:=Nat
def tw897004024141790227:=Nat
def tw16413963553889246368:=Nat
def tw7581352650102555174:=Nat
def tw3442601649717412197:=Nat
def tw912392155897948271:=Nat
def tw10948738476641704880:=Nat
def tw17503288770812694035:=Nat
def tw7987952416473584550:=Nat
def tw7035115661146626270:=Nat
def tw11682084944484805031:=Nat
def tw7275051467321613617:=Nat
def tw5882768191206486792:=Nat
def tw8450942572126056277:=Nat
def tw6448080314894763839:=Nat
def tw17532440430192770315:=Nat
def tw10706342367453228570:=Nat
def tw18340240734955500558:=Nat
def tw4302124980754421698:=Nat
def tw17807336471464407845:=Nat
def tw12659028871203227004:=Nat
def tw10042830170769951172:=Nat
def tw12329403913580668285:=Nat
def tw14326252917377295143:=Nat
def tw8956626466110686224:=Nat
def tw17554001833073541016:=Nat
def tw17497748084772794779:=Nat
def tw1631149150583789468:=Nat
def tw14186486079044719983:=Nat
def tw18350330562280901221:=Nat
def tw17774800907425398282:=Nat
def tw9458956999447867950:=Nat
def tw282004115355043989:=Nat
def tw2408619945344806742:=Nat
def tw11853533878840232495:=Nat
def tw1735497430108182060:=Nat
def tw17913803186225011329:=Nat
def tw11740888236361828772:=Nat
def tw2460228577881660442:=Nat
def tw13642483538084851733:=Nat
def tw18273839248471157720:=Nat
def tw16437185098154296904:=Nat
def tw12392613427281201732:=Nat
def tw14834023430324568649:=Nat
def tw973662469405803806:=Nat
def tw392140993173905013:=Nat
def tw5349121933718820234:=Nat
def tw1617757218408452269:=Nat
def tw10487160056961263569:=Nat
def tw1258717718454355964:=Nat
def tw10938465397075749097:=Nat
def tw8796240567053077481:=Nat
def tw11130039905162102590:=Nat
def tw1204117194425446250:=Nat
def tw3131671291697673992:=Nat
def tw15560853006256673968:=Nat
def tw15168306246750427876:=Nat
def tw2627984346626558326:=Nat
def tw15423634916342008072:=Nat
def tw15079194523842364033:=Nat
def tw6789855027759293466:=Nat
def tw14973007898608030118:=Nat
def tw16339471991904476338:=Nat
def tw3362959441861295915:=Nat
def tw1218959903707654005:=Nat
def tw2862820112641550484:=Nat
def tw7892128664451923741:=Nat
def tw18126140380344562322:=Nat
def tw2193789692954389824:=Nat
def tw16296994325663420285:=Nat
def tw9673203406766833760:=Nat
def tw2283851925072248500:=Nat
def tw16176465441171805009:=Nat
def tw1414301608579184545:=Nat
def tw6589095468515690095:=Nat
def tw682011567655089306:=Nat
def tw932993149863042379:=Nat
def tw4748654258956052638:=Nat
def tw17279654841073493023:=Nat
def tw11636919720809706868:=Nat
def tw15007238320947547705:=Nat
def tw13236226663087606529:=Nat
def tw17018628822417861297:=Nat
def tw151948405760981731:=Nat
def tw7094674258960923220:=Nat
def tw6662432510661729299:=Nat
def tw183835017167291270:=Nat
def tw9023360108960004914:=Nat
def tw15560500314895047343:=Nat
def tw9862997608875712007:=Nat
def tw2922074901204462755:=Nat
def tw8206430501311747189:=Nat
def tw17024950926791866790:=Nat
def tw608726401823008365:=Nat
def tw5976474108018559520:=Nat
def tw11518781747449614426:=Nat
def tw13759679279233594173:=Nat
def tw15902184279288820625:=Nat
def tw8727135674562949291:=Nat
def tw17001327861769816259:=Nat
def tw7745614565497352828:=Nat
def tw16413264400604254196:=Nat
def tw1749818173716722547:=Nat
def tw1355338860687761863:=Nat
def tw17730448691065144110:=Nat
def tw6714822604882049554:=Nat
def tw8860024209350480642:=Nat
def tw16406328271908756883:=Nat
def tw15034313371233782410:=Nat
def tw8424611434330503625:=Nat
def tw8537084889766193716:=Nat
def tw17026713947507217902:=Nat
def tw16599498637624409450:=Nat
def tw7802139600951554647:=Nat
def tw3118938333895590913:=Nat
def tw9265879793445154701:=Nat
def tw4904739604578439355:=Nat
def tw11964429278604863157:=Nat
def tw8459811325457737761:=Nat
def tw16439824349840649037:=Nat
def tw12825359941727978080:=Nat
def tw12290603225136948437:=Nat
def tw8119918657739134586:=Nat
def tw117213463901210413:=Nat
def tw17300597898927385350:=Nat
def tw7585139358526817783:=Nat
def tw12393455550290869266:=Nat
def tw13615603153576403970:=Nat
def tw18056578402003937789:=Nat
def tw14553827428707814869:=Nat
def tw15980859228951719591:=Nat
def tw16644606511662114574:=Nat
def tw11707371222683016368:=Nat
def tw9979284746773624096:=Nat
def tw704327219915372674:=Nat
def tw13809362725867891129:=Nat
def tw18410474027866654770:=Nat
def tw8902219603052485911:=Nat
def tw7401281599722004195:=Nat
def tw15195428891847259777:=Nat
def tw2670528217467546775:=Nat
def tw5770868932273138760:=Nat
def tw13871001218405608335:=Nat
def tw6929956602132211858:=Nat
def tw11790162104776037713:=Nat
def tw5200128776193632040:=Nat
def tw8595292554425487202:=Nat
def tw14714103240675001986:=Nat
def tw2948108419219029167:=Nat
def tw2958062672499776758:=Nat
def tw5565278806992967083:=Nat
def tw7286323032743288035:=Nat
def tw5978237884098788730:=Nat
def tw9951705424602377420:=Nat
def tw14979626087600564940:=Nat
def tw9300948228871686676:=Nat
def tw3264259588550801142:=Nat
def tw1156252341971683116:=Nat
def tw16350708796919097252:=Nat
def tw7483462131439158144:=Nat
def tw3386650904741475044:=Nat
def tw4011157648589011858:=Nat
def tw5923252988546675246:=Nat
def tw12017898878966707257:=Nat
def tw18163708392712065173:=Nat
def tw10528696920762540405:=Nat
def tw4775785305629353868:=Nat
def tw14433975572909055671:=Nat
def tw10227693086864044499:=Nat
def tw5076957145309523181:=Nat
def tw17899373020297197333:=Nat
def tw6489507552545477252:=Nat
def tw9759809726879904816:=Nat
def tw6179359751918216688:=Nat
end PySem.W.Fast
open PySem PySem.W PySem.Calls PyProof.Rows
set_option maxHeartbeats 4000000
set_option maxRecDepth 100000
set_option linter.all false
set_option genSizeOf false
set_option genInjectivity false
set_option genSizeOfSpec false
set_option compiler.extract_closed false
set_option linter.unusedVariables false
set_option tactic.hygienic false
namespace Mine
set_option tactic.hygienic true in
set_option maxHeartbeats 8000000 in
open_top hd for PySem.Challenge.rw_rh0103_02
section
theorem de{α:Type u0}{a b:α}{l:List α}(h:a∈b::l):a=b∨a∈l:=List.mem_cons.mp h
theorem fG{α:Type u0}{a b:α}(h:a∈[b]):a=b:=List.mem_singleton.mp h
theorem fi{α:Type u0}{a:α}{l:List α}:(a::l).length=l.length+1:=rfl
theorem d6{n m k:Nat}(h:n<=m)(g:m<=k):n<=k:=Nat.le_trans h g
theorem jx:¬false=true:=Bool.false_ne_true
theorem cm{n m:Nat}(h:Nat.ble n m=true):n<=m:=Nat.le_of_ble_eq_true h
abbrev lX:=Nat.Internal.Linear.Expr
abbrev lC:=Nat.Internal.Linear.Context
noncomputable def lA:=Nat.Internal.Linear.Expr.add
noncomputable def lM:=Nat.Internal.Linear.Expr.mulL
noncomputable def lS:=Nat.Internal.Linear.Expr.mulR
noncomputable def lV:=Nat.Internal.Linear.Expr.var
noncomputable def lN:=Nat.Internal.Linear.Expr.num
noncomputable def aw:=lV 0
noncomputable def aG:=lV 1
noncomputable def bu:=lV 2
noncomputable def ei:=lV 3
noncomputable def tx:=lV 4
noncomputable def Fv:=lV 5
noncomputable def Oa:=lV 6
noncomputable def Tw:=lV 7
noncomputable def gi:=lN 0
noncomputable def aL:=lN 1
noncomputable def ny:=lN 2
noncomputable def Fw:=lN 3
noncomputable def PJ:=lN 4
noncomputable def AF:=lN 5
noncomputable def Eu:=lN 6
noncomputable def ty:=lN 7
noncomputable def zm:=lN 8
noncomputable def Tz:=lN 9
noncomputable def e7(a:Nat):lC:=.leaf a
noncomputable def dU(a b:Nat):lC:=.branch 1 (.leaf a) (.leaf b)
noncomputable def eD(a b c:Nat):lC:=.branch 1 (.leaf a) (.branch 2 (.leaf b) (.leaf c))
noncomputable def kQ(a b c d:Nat):lC:=.branch 2 (.branch 1 (.leaf a) (.leaf b)) (.branch 3 (.leaf c) (.leaf d))
noncomputable def Et(a b c d e f:Nat):lC:=.branch 2 (.branch 1 (.leaf a) (.leaf b)) (.branch 4 (.branch 3 (.leaf c) (.leaf d)) (.branch 5 (.leaf e) (.leaf f)))
noncomputable def Ty(a b c d e f g i:Nat):lC:=.branch 4 (.branch 2 (.branch 1 (.leaf a) (.leaf b)) (.branch 3 (.leaf c) (.leaf d))) (.branch 6 (.branch 5 (.leaf e) (.leaf f)) (.branch 7 (.leaf g) (.leaf i)))
noncomputable def lB(e:Bool)(l r:lX):Bool:=(Nat.Internal.Linear.ExprCnstr.mk e l r).toNormPoly.isValid
theorem lT:true=true:=rfl
theorem iM(c:lC)(l r:lX)(v:lB false l r=true):l.denote c<=r.denote c:=of_eq_true (Nat.Internal.Linear.ExprCnstr.eq_true_of_isValid c ⟨false,l,r⟩ v)
theorem vt(c:lC)(l r:lX)(v:lB true l r=true):l.denote c=r.denote c:=of_eq_true (Nat.Internal.Linear.ExprCnstr.eq_true_of_isValid c ⟨true,l,r⟩ v)
theorem cR(c:lC)(k m l r:lX)(v:lB false (lA l m) (lA r k)=true)(h:k.denote c<=m.denote c):l.denote c<=r.denote c:=Nat.le_of_add_le_add_right (d6 (iM c (lA l m) (lA r k) v) (Nat.add_le_add_left h _))
theorem eE(c:lC)(i j k m l r:lX)(v:lB false (lA l (lA j m)) (lA r (lA i k))=true)(g:i.denote c<=j.denote c)(h:k.denote c<=m.denote c):l.denote c<=r.denote c:=cR c (lA i k) (lA j m) l r v (Nat.add_le_add g h)
theorem pw(c:lC)(a b i j k m l r:lX)(v:lB false (lA l (lA b (lA j m))) (lA r (lA a (lA i k)))=true)(f:a.denote c<=b.denote c)(g:i.denote c<=j.denote c)(h:k.denote c<=m.denote c):l.denote c<=r.denote c:=eE c a b (lA i k) (lA j m) l r v f (Nat.add_le_add g h)
theorem Ew(c:lC)(s t a b i j k m l r:lX)(v:lB false (lA l (lA t (lA b (lA j m)))) (lA r (lA s (lA a (lA i k))))=true)(e:s.denote c<=t.denote c)(f:a.denote c<=b.denote c)(g:i.denote c<=j.denote c)(h:k.denote c<=m.denote c):l.denote c<=r.denote c:=pw c s t a b (lA i k) (lA j m) l r v e f (Nat.add_le_add g h)
theorem VZ(c:lC)(p q s t a b i j k m l r:lX)(v:lB false (lA l (lA q (lA t (lA b (lA j m))))) (lA r (lA p (lA s (lA a (lA i k)))))=true)(d:p.denote c<=q.denote c)(e:s.denote c<=t.denote c)(f:a.denote c<=b.denote c)(g:i.denote c<=j.denote c)(h:k.denote c<=m.denote c):l.denote c<=r.denote c:=Ew c p q s t a b (lA i k) (lA j m) l r v d e f (Nat.add_le_add g h)
theorem Ex(c:lC)(k m l r:lX)(v:lB true (lA l m) (lA r k)=true)(h:k.denote c=m.denote c):l.denote c=r.denote c:=Nat.add_right_cancel (m:=m.denote c) ((vt c (lA l m) (lA r k) v).trans (congrArg (Nat.add _) h))
theorem PK(c:lC)(i j k m l r:lX)(v:lB true (lA l (lA j m)) (lA r (lA i k))=true)(g:i.denote c=j.denote c)(h:k.denote c=m.denote c):l.denote c=r.denote c:=Ex c (lA i k) (lA j m) l r v ((congrArg (fun x=>Nat.add x _) g).trans (congrArg (Nat.add _) h))
variable{a b c d e f g i j k l m n:Nat}
theorem UC:a<=1000->a<=16777216:=fun h=>cR (e7 a) aw (lN 1000) aw (lN 16777216) lT h
theorem Yj:a<=900->b<=a+1->b<=1000:=fun ha hb=>eE (dU a b) aw (lN 900) aG (lA aw aL) aG (lN 1000) lT ha hb
theorem Sa:a+(b+1)<c->a<c:=fun h=>cR (eD a b c) (lA (lA aw (lA aG aL)) aL) bu (lA aw aL) bu lT h
theorem Ot:a+(b+1)<c->a+1+b<c:=fun h=>cR (eD a b c) (lA (lA aw (lA aG aL)) aL) bu (lA (lA (lA aw aL) aG) aL) bu lT h
theorem RF:a+8*(b+1)<c->a+3+8*b<c:=fun h=>cR (eD a b c) (lA (lA aw (lM 8 (lA aG aL))) aL) bu (lA (lA (lA aw Fw) (lM 8 aG)) aL) bu lT h
theorem Yi:a+8*(b+1)<c->a+1+8*b<c:=fun h=>cR (eD a b c) (lA (lA aw (lM 8 (lA aG aL))) aL) bu (lA (lA (lA aw aL) (lM 8 aG)) aL) bu lT h
theorem Yh:a=b->0+b=a:=fun h=>Ex (dU b a) aw aG (lA gi aw) aG lT h.symm
theorem UB:a+b=c->a<c->b-1<b:=fun ha hb=>Nat.le_of_eq (Nat.sub_add_cancel (eE (eD c a b) aw (lA aG bu) (lA aG aL) aw aL bu lT (Nat.le_of_eq ha.symm) hb))
theorem UA:a+b=c->a<c->a+1+(b-1)=c:=fun ha hb=>PK (kQ a b c (b-1)) (lA aw aG) bu (lA ei aL) aG (lA (lA aw aL) ei) bu lT ha (Nat.sub_add_cancel (eE (eD c a b) aw (lA aG bu) (lA aG aL) aw aL bu lT (Nat.le_of_eq ha.symm) hb))
theorem Nx:a=b->¬(c<b)->a<=c:=fun ha hb=>eE (eD a b c) aw aG aG bu aw bu lT (Nat.le_of_eq ha) (Nat.le_of_not_lt hb)
theorem Np:a=b->c+d=a->c<=b:=fun ha hb=>eE (kQ a b c d) aw aG (lA bu ei) aw bu aG lT (Nat.le_of_eq ha) (Nat.le_of_eq hb)
theorem Sn{a b:Int}:(0:Int)<=a->a<b->(-b)<=a:=fun h g=>Int.le_trans (Int.neg_nonpos_of_nonneg (Int.le_trans h (Int.le_of_lt g))) h
theorem Fa{a:Int}:(0:Int)<=a->(((Int.toNat a):Nat):Int)=a:=Int.toNat_of_nonneg
theorem M7{a:Int}:(0:Int)<=a->¬(a<(0:Int)):=Int.not_lt.mpr
theorem Sm{b:Nat}{a:Int}:(Int.toNat a)<b->a<((b:Nat):Int):=fun h=>Int.lt_of_le_of_lt (Int.self_le_toNat a) (Int.ofNat_lt.mpr h)
theorem Sl:a+b+c+d+e+f+g+i=a+(b+(c+(d+(e+(f+(g+(i+0))))))):=vt (Ty a b c d e f g i) (lA (lA (lA (lA (lA (lA (lA aw aG) bu) ei) tx) Fv) Oa) Tw) (lA aw (lA aG (lA bu (lA ei (lA tx (lA Fv (lA Oa (lA Tw gi)))))))) lT
theorem Sk:1+a=a+1:=vt (e7 a) (lA aL aw) (lA aw aL) lT
theorem Sj:1<=a->1<=b+a:=fun h=>cR (dU a b) aL aw aL (lA aG aw) lT h
theorem Si:1<=a->b+(a-1)=b+a-1:=fun h=>PK (kQ (a-1) a b ((b+a)-1)) (lA aw aL) aG (lA bu aG) (lA ei aL) (lA bu aw) ei lT (Nat.sub_add_cancel h) (Nat.sub_add_cancel (cR (dU a b) aL aw aL (lA aG aw) lT h)).symm
theorem Sh:a<=b-1->0<b->1+a<=b:=fun ha hb=>eE (eD a (b-1) b) aw aG (lA aG aL) bu (lA aL aw) bu lT ha (Nat.le_of_eq (Nat.sub_add_cancel (cR (e7 b) (lA gi aL) aw aL aw lT hb)))
theorem E9:a<=8->100<b->a<b:=fun ha hb=>eE (dU a b) aw zm (lA (lN 100) aL) aG (lA aw aL) aG lT ha hb
theorem Sg:a<=8->100<b->a+1<b:=fun ha hb=>eE (dU a b) aw zm (lA (lN 100) aL) aG (lA (lA aw aL) aL) aG lT ha hb
theorem Sf:a+b<=c->d<a->a-1+(b+1)<=c:=fun ha hb=>eE (kQ a b c (a-1)) (lA aw aG) bu (lA ei aL) aw (lA ei (lA aG aL)) bu lT ha (Nat.le_of_eq (Nat.sub_add_cancel (cR (dU d a) (lA aw aL) aG aL aG lT hb)))
theorem Se:a<b->b<=b-1->False:=fun ha hb=>Nat.not_succ_le_zero 0 (eE (dU b (b-1)) aw aG (lA aG aL) aw aL gi lT hb (Nat.le_of_eq (Nat.sub_add_cancel (cR (dU a b) (lA aw aL) aG aL aG lT ha))))
theorem Sd:a<=8->a-1<=8:=fun h=>eE (dU a (a-1)) aw zm aG aw aG zm lT h (Nat.sub_le a 1)
theorem Sc:a<b->a-1<b:=fun h=>eE (eD a b (a-1)) (lA aw aL) aG bu aw (lA bu aL) aG lT h (Nat.sub_le a 1)
theorem E8:a<=16000000->a<=16777216:=fun h=>cR (e7 a) aw (lN 16000000) aw (lN 16777216) lT h
theorem Lg{a:Nat}:¬(((a:Nat):Int)<(0:Int)):=mt (@Int.ofNat_lt a 0).mp (Nat.not_lt_of_le (iM (e7 a) gi aw lT))
theorem Sb{a b:Nat}:a<b->((((b:Nat):Int)-(1:Int))-((a:Nat):Int))=((((b-1)-a):Nat):Int):=fun h=>((Int.ofNat_sub (Nat.le_sub_one_of_lt h)).trans (congrArg (·-(a:Int)) (Int.ofNat_sub (Nat.lt_of_le_of_lt (Nat.zero_le a) h)))).symm
theorem KM{a b:Nat}:((((a:Nat):Int)-(1:Int))-((b:Nat):Int))=((((a-1)-b):Nat):Int)->a-1-b<a:=by lia
theorem R9{a b:Nat}:((((a:Nat):Int)-(1:Int))-((b:Nat):Int))=((((a-1)-b):Nat):Int)->(((((a-1)-b):Nat):Int)-(1:Int))=((((a:Nat):Int)-(1:Int))-(((b+1):Nat):Int)):=fun h=>(congrArg (·-(1:Int)) h.symm).trans (Int.sub_sub _ _ _)
theorem RZ{a:Nat}:((((a:Nat):Int)-(1:Int))-((a:Nat):Int))=(-(1:Int)):=(Int.sub_sub a 1 a).trans ((congrArg ((a:Int)-·) (Int.add_comm 1 a)).trans ((Int.sub_sub a a 1).symm.trans (congrArg (·-(1:Int)) (Int.sub_self a))))
theorem RY{a:Nat}:¬(((a:Nat):Int)<((((a:Nat):Int)-(1:Int))+(1:Int))):=fun h=>Int.lt_irrefl _ (Int.lt_of_lt_of_le h (Int.le_of_eq (Int.sub_add_cancel _ 1)))
theorem RX{a:Nat}:((a:Nat):Int)<=(16000000:Int)->((a:Nat):Int)<(9223372036854775808:Int):=fun h=>(@Int.ofNat_lt a 9223372036854775808).mpr (cR (e7 a) aw (lN 16000000) (lA aw aL) (lN 9223372036854775808) lT ((@Int.ofNat_le a 16000000).mp h))
theorem RV{a:Nat}:¬(((((a:Nat):Int)-(1:Int))+(1:Int))<(0:Int)):=fun h=>Int.not_lt.mpr (Int.natCast_nonneg a) (Int.lt_of_le_of_lt (Int.le_of_eq (Int.sub_add_cancel _ 1).symm) h)
theorem RU{a:Nat}:((a:Nat):Int)<=(16000000:Int)->¬((Int.toNat ((((a:Nat):Int)-(1:Int))+(1:Int)))>16777216):=fun h=>Nat.not_lt.mpr (Int.toNat_le.mpr (Int.le_trans (Int.le_of_eq (Int.sub_add_cancel _ 1)) (Int.le_trans h (by decide))))
theorem RT:a<=a+1+1+1:=iM (e7 a) aw (lA (lA (lA aw aL) aL) aL) lT
theorem RS:a-b=0->b<=a->b=a:=fun ha hb=>PK (eD (a-b) b a) gi aw (lA aw aG) bu aG bu lT ha.symm (Nat.sub_add_cancel hb)
theorem RQ:a-b=c+1->b<a:=fun h=>Nat.lt_of_sub_eq_succ h
theorem RP:a=b->c<b->(d+(min c a))=(d+c):=fun ha hb=>Ex (eD (min c a) c d) aw aG (lA bu aw) (lA bu aG) lT (Nat.min_eq_left (eE (eD b a c) aw aG (lA bu aL) aw bu aG lT (Nat.le_of_eq ha.symm) hb))
theorem RO:a-b=c+1->a-(b+1)=c:=fun h=>(Nat.sub_succ a b).trans (congrArg Nat.pred h)
theorem RN:a+b<=16000000->c<b->a+c<=16777216:=fun ha hb=>eE (eD a b c) (lA aw aG) (lN 16000000) (lA bu aL) aG (lA aw bu) (lN 16777216) lT ha hb
theorem RM:a+b<=16000000->c<b->a+c+1<=16777216+1:=fun ha hb=>eE (eD a b c) (lA aw aG) (lN 16000000) (lA bu aL) aG (lA (lA aw bu) aL) (lA (lN 16777216) aL) lT ha hb
theorem RL:a<=16000000->a+1<=16777216+1:=fun h=>cR (e7 a) aw (lN 16000000) (lA aw aL) (lA (lN 16777216) aL) lT h
theorem RK:a<=16000000->a+1<=16777216:=fun h=>cR (e7 a) aw (lN 16000000) (lA aw aL) (lN 16777216) lT h
theorem RJ:a+b<=16000000->c=b->d=a->d+c<=16000000:=fun ha hb hc=>pw (kQ a b c d) (lA aw aG) (lN 16000000) bu aG ei aw (lA ei bu) (lN 16000000) lT ha (Nat.le_of_eq hb) (Nat.le_of_eq hc)
theorem RI{a b:Nat}:a+b<=16000000->((b:Nat):Int)<=(16000000:Int):=fun h=>(@Int.ofNat_le b 16000000).mpr (cR (dU a b) (lA aw aG) (lN 16000000) aG (lN 16000000) lT h)
theorem RH:a<=16000000->b=a->b<=16000000:=fun ha hb=>eE (dU a b) aw (lN 16000000) aG aw aG (lN 16000000) lT ha (Nat.le_of_eq hb)
theorem RG:a+8*(b+8)<c->a+64<c:=fun h=>cR (eD a b c) (lA (lA aw (lM 8 (lA aG zm))) aL) bu (lA (lA aw (lN 64)) aL) bu lT h
theorem RE:a<64->a<=16777216:=fun h=>cR (e7 a) (lA aw aL) (lN 64) aw (lN 16777216) lT h
theorem RD:a<=b->(min a b)=a:=fun h=>Nat.min_eq_left h
theorem RC{a b:Nat}:a<=b->b<=16000000->((a:Nat):Int)<(9223372036854775808:Int):=fun ha hb=>(@Int.ofNat_lt a 9223372036854775808).mpr (eE (dU a b) aw aG aG (lN 16000000) (lA aw aL) (lN 9223372036854775808) lT ha hb)
theorem B9:a+8*(b+1)<c->a+1<c:=fun h=>cR (eD a b c) (lA (lA aw (lM 8 (lA aG aL))) aL) bu (lA (lA aw aL) aL) bu lT h
theorem Rz:a<=1000000->b<a->b<=16777216:=fun ha hb=>eE (dU a b) aw (lN 1000000) (lA aG aL) aw aG (lN 16777216) lT ha hb
theorem Ry{a:Int}:a<=(1000000:Int)->(Int.toNat a)<=1000000:=Int.toNat_le.mpr
theorem Rx:a+(b+100)<c->a+100<c:=fun h=>cR (eD a b c) (lA (lA aw (lA aG (lN 100))) aL) bu (lA (lA aw (lN 100)) aL) bu lT h
theorem Rv:a<=4->b+8*(c+8)<d->((b+1)+(min e a))<d:=fun ha hb=>pw (Et a b c d (min e a) (min e a)) aw PJ (lA (lA aG (lM 8 (lA bu zm))) aL) ei tx aw (lA (lA (lA aG aL) tx) aL) ei lT ha hb (Nat.min_le_right e a)
theorem Ru:a+b<=100000->a<=16777216:=fun h=>cR (dU a b) (lA aw aG) (lN 100000) aw (lN 16777216) lT h
theorem Rt:a+b<=100000->16777216<a+b->False:=fun ha hb=>Nat.not_succ_le_zero 0 (eE (dU a b) (lA aw aG) (lN 100000) (lA (lN 16777216) aL) (lA aw aG) aL gi lT ha hb)
theorem KG:a+8*(b+9)<c->a+1+64<c:=fun h=>cR (eD a b c) (lA (lA aw (lM 8 (lA aG Tz))) aL) bu (lA (lA (lA aw aL) (lN 64)) aL) bu lT h
theorem KE{a:Nat}:¬((1:Int)<(((a:Nat):Int)+(1:Int)))->(0:Int)=((a:Nat):Int):=fun h=>(@Int.ofNat_inj 0 a).mpr (Nat.le_antisymm (iM (e7 a) gi aw lT) (cR (e7 a) (lA aw aL) aL aw gi lT (Nat.le_of_not_lt (mt (@Int.ofNat_lt 1 (a+1)).mpr h))))
theorem KD{a:Nat}:((((a:Nat):Int)+(1:Int))-(1:Int))=((a:Nat):Int):=Int.add_sub_cancel _ _
theorem KC{a:Nat}:((1:Int)+(((a:Nat):Int)*(1:Int)))=(((a:Nat):Int)+(1:Int)):=(@Int.ofNat_inj (1+(a*1)) (a+1)).mpr (vt (e7 a) (lA aL (lS aw 1)) (lA aw aL) lT)
theorem Rs:a+8*b<c->a<c:=fun h=>cR (eD a b c) (lA (lA aw (lM 8 aG)) aL) bu (lA aw aL) bu lT h
theorem ax{α:Type}{a:α}{r:Prop}(h:(none:Option α)=some a):r:=nomatch h
theorem bg{α:Type}{a:α}{r:Prop}(h:some a=none):r:=nomatch h
theorem bv{α:Type u0}{a:α}{r:Prop}(h:a∈([]:List α)):r:=nomatch h
theorem dH{r:Prop}(h:true=false):r:=nomatch h
theorem bI{r:Prop}(h:false=true):r:=nomatch h
def aR:Lean.Syntax:=Lean.Unhygienic.run `(Lean.Parser.Tactic.tacticSeq|rfl)
def aD:Lean.Syntax:=Lean.Unhygienic.run `(Lean.Parser.Tactic.tacticSeq|decide)
def aI:Lean.Syntax:=Lean.Unhygienic.run `(Lean.Parser.Tactic.tacticSeq|intro _;rfl)
def aJ:Lean.Syntax:=Lean.Unhygienic.run `(Lean.Parser.Tactic.tacticSeq|intro _ _;rfl)
def aH:Lean.Syntax:=Lean.Unhygienic.run `(Lean.Parser.Tactic.tacticSeq|intro h;first|rfl|cases h)
def aU:Lean.Syntax:=Lean.Unhygienic.run `(Lean.Parser.Tactic.tacticSeq|with_unfolding_all rfl)
def aS:Lean.Syntax:=Lean.Unhygienic.run `(Lean.Parser.Tactic.tacticSeq|intros;rfl)
def aC:Lean.Syntax:=Lean.Unhygienic.run `(Lean.Parser.Tactic.tacticSeq|intro h;cases h)
def aV:Lean.Syntax:=Lean.Unhygienic.run `(Lean.Parser.Tactic.tacticSeq|intro _;with_unfolding_all rfl)
theorem bh{p0 p1:Prop}{r:Prop}(h:p0/\p1)(f:p0->p1->r):r:=f h.1 h.2
theorem aY{df:Sort u0}{p0:df->Prop}{r:Prop}(h:∃x0,p0 x0)(f:∀x0,p0 x0->r):r:=Exists.elim h fun x0 q0=>f x0 q0
theorem ci{p0 p1 p2:Prop}{r:Prop}(h:p0/\p1/\p2)(f:p0->p1->p2->r):r:=f h.1 h.2.1 h.2.2
theorem Kj{df:Sort u0}{p0:Prop}{p1:df->Prop}{r:Prop}(h:p0/\∃x0,p1 x0)(f:p0->∀x0,p1 x0->r):r:=aY h.2 fun x0 q0=>f h.1 x0 q0
theorem aA{df:Sort u0}{p0 p1:df->Prop}{r:Prop}(h:∃x0,p0 x0/\p1 x0)(f:∀x0,p0 x0->p1 x0->r):r:=aY h fun x0 q0=>f x0 q0.1 q0.2
theorem sQ{df:Sort u0}{fe:Sort u1}{p0:df->fe->Prop}{r:Prop}(h:∃x0,∃x1,p0 x0 x1)(f:∀x0,∀x1,p0 x0 x1->r):r:=aY h fun x0 q0=>aY q0 fun x1 q1=>f x0 x1 q1
theorem gU{p0 p1 p2 p3:Prop}{r:Prop}(h:p0/\p1/\p2/\p3)(f:p0->p1->p2->p3->r):r:=f h.1 h.2.1 h.2.2.1 h.2.2.2
theorem aN{df:Sort u0}{p0 p1 p2:df->Prop}{r:Prop}(h:∃x0,p0 x0/\p1 x0/\p2 x0)(f:∀x0,p0 x0->p1 x0->p2 x0->r):r:=aY h fun x0 q0=>f x0 q0.1 q0.2.1 q0.2.2
theorem bi{df:Sort u0}{fe:Sort u1}{p0 p1:df->fe->Prop}{r:Prop}(h:∃x0,∃x1,p0 x0 x1/\p1 x0 x1)(f:∀x0,∀x1,p0 x0 x1->p1 x0 x1->r):r:=aY h fun x0 q0=>aY q0 fun x1 q1=>f x0 x1 q1.1 q1.2
theorem jM{df:Sort u0}{fe:Sort u1}{jB:Sort u2}{p0:df->fe->jB->Prop}{r:Prop}(h:∃x0,∃x1,∃x2,p0 x0 x1 x2)(f:∀x0,∀x1,∀x2,p0 x0 x1 x2->r):r:=aY h fun x0 q0=>aY q0 fun x1 q1=>aY q1 fun x2 q2=>f x0 x1 x2 q2
theorem EU{p0 p1 p2 p3 p4:Prop}{r:Prop}(h:p0/\p1/\p2/\p3/\p4)(f:p0->p1->p2->p3->p4->r):r:=f h.1 h.2.1 h.2.2.1 h.2.2.2.1 h.2.2.2.2
theorem ET{df:Sort u0}{fe:Sort u1}{p0:Prop}{p1 p2:df->fe->Prop}{r:Prop}(h:p0/\∃x0,∃x1,p1 x0 x1/\p2 x0 x1)(f:p0->∀x0,∀x1,p1 x0 x1->p2 x0 x1->r):r:=aY h.2 fun x0 q0=>aY q0 fun x1 q1=>f h.1 x0 x1 q1.1 q1.2
theorem iA{df:Sort u0}{p0 p1 p2 p3:df->Prop}{r:Prop}(h:∃x0,p0 x0/\p1 x0/\p2 x0/\p3 x0)(f:∀x0,p0 x0->p1 x0->p2 x0->p3 x0->r):r:=aY h fun x0 q0=>f x0 q0.1 q0.2.1 q0.2.2.1 q0.2.2.2
theorem zN{df:Sort u0}{fe:Sort u1}{p0:df->Prop}{p1 p2:df->fe->Prop}{r:Prop}(h:∃x0,p0 x0/\∃x1,p1 x0 x1/\p2 x0 x1)(f:∀x0,p0 x0->∀x1,p1 x0 x1->p2 x0 x1->r):r:=aY h fun x0 q0=>aY q0.2 fun x1 q1=>f x0 q0.1 x1 q1.1 q1.2
theorem aE{df:Sort u0}{fe:Sort u1}{p0 p1 p2:df->fe->Prop}{r:Prop}(h:∃x0,∃x1,p0 x0 x1/\p1 x0 x1/\p2 x0 x1)(f:∀x0,∀x1,p0 x0 x1->p1 x0 x1->p2 x0 x1->r):r:=aY h fun x0 q0=>aY q0 fun x1 q1=>f x0 x1 q1.1 q1.2.1 q1.2.2
theorem ux{df:Sort u0}{fe:Sort u1}{jB:Sort u2}{p0 p1:df->fe->jB->Prop}{r:Prop}(h:∃x0,∃x1,∃x2,p0 x0 x1 x2/\p1 x0 x1 x2)(f:∀x0,∀x1,∀x2,p0 x0 x1 x2->p1 x0 x1 x2->r):r:=aY h fun x0 q0=>aY q0 fun x1 q1=>aY q1 fun x2 q2=>f x0 x1 x2 q2.1 q2.2
theorem dF{df:Sort u0}{p0 p1 p2 p3 p4:df->Prop}{r:Prop}(h:∃x0,p0 x0/\p1 x0/\p2 x0/\p3 x0/\p4 x0)(f:∀x0,p0 x0->p1 x0->p2 x0->p3 x0->p4 x0->r):r:=aY h fun x0 q0=>f x0 q0.1 q0.2.1 q0.2.2.1 q0.2.2.2.1 q0.2.2.2.2
theorem vH{df:Sort u0}{fe:Sort u1}{p0:df->Prop}{p1 p2 p3:df->fe->Prop}{r:Prop}(h:∃x0,p0 x0/\∃x1,p1 x0 x1/\p2 x0 x1/\p3 x0 x1)(f:∀x0,p0 x0->∀x1,p1 x0 x1->p2 x0 x1->p3 x0 x1->r):r:=aY h fun x0 q0=>aY q0.2 fun x1 q1=>f x0 q0.1 x1 q1.1 q1.2.1 q1.2.2
theorem el{df:Sort u0}{fe:Sort u1}{p0 p1 p2 p3:df->fe->Prop}{r:Prop}(h:∃x0,∃x1,p0 x0 x1/\p1 x0 x1/\p2 x0 x1/\p3 x0 x1)(f:∀x0,∀x1,p0 x0 x1->p1 x0 x1->p2 x0 x1->p3 x0 x1->r):r:=aY h fun x0 q0=>aY q0 fun x1 q1=>f x0 x1 q1.1 q1.2.1 q1.2.2.1 q1.2.2.2
theorem qY{df:Sort u0}{fe:Sort u1}{jB:Sort u2}{p0 p1 p2:df->fe->jB->Prop}{r:Prop}(h:∃x0,∃x1,∃x2,p0 x0 x1 x2/\p1 x0 x1 x2/\p2 x0 x1 x2)(f:∀x0,∀x1,∀x2,p0 x0 x1 x2->p1 x0 x1 x2->p2 x0 x1 x2->r):r:=aY h fun x0 q0=>aY q0 fun x1 q1=>aY q1 fun x2 q2=>f x0 x1 x2 q2.1 q2.2.1 q2.2.2
theorem qX{df:Sort u0}{fe:Sort u1}{jB:Sort u2}{vY:Sort u3}{AK:Sort u4}{p0:df->fe->jB->vY->AK->Prop}{r:Prop}(h:∃x0,∃x1,∃x2,∃x3,∃x4,p0 x0 x1 x2 x3 x4)(f:∀x0,∀x1,∀x2,∀x3,∀x4,p0 x0 x1 x2 x3 x4->r):r:=aY h fun x0 q0=>aY q0 fun x1 q1=>aY q1 fun x2 q2=>aY q2 fun x3 q3=>aY q3 fun x4 q4=>f x0 x1 x2 x3 x4 q4
theorem eP{p0 p1 p2 p3 p4 p5 p6:Prop}{r:Prop}(h:p0/\p1/\p2/\p3/\p4/\p5/\p6)(f:p0->p1->p2->p3->p4->p5->p6->r):r:=f h.1 h.2.1 h.2.2.1 h.2.2.2.1 h.2.2.2.2.1 h.2.2.2.2.2.1 h.2.2.2.2.2.2
theorem oX{df:Sort u0}{fe:Sort u1}{p0 p1 p2 p3 p4:df->fe->Prop}{r:Prop}(h:∃x0,∃x1,p0 x0 x1/\p1 x0 x1/\p2 x0 x1/\p3 x0 x1/\p4 x0 x1)(f:∀x0,∀x1,p0 x0 x1->p1 x0 x1->p2 x0 x1->p3 x0 x1->p4 x0 x1->r):r:=aY h fun x0 q0=>aY q0 fun x1 q1=>f x0 x1 q1.1 q1.2.1 q1.2.2.1 q1.2.2.2.1 q1.2.2.2.2
theorem cQ{df:Sort u0}{fe:Sort u1}{jB:Sort u2}{p0 p1 p2 p3:df->fe->jB->Prop}{r:Prop}(h:∃x0,∃x1,∃x2,p0 x0 x1 x2/\p1 x0 x1 x2/\p2 x0 x1 x2/\p3 x0 x1 x2)(f:∀x0,∀x1,∀x2,p0 x0 x1 x2->p1 x0 x1 x2->p2 x0 x1 x2->p3 x0 x1 x2->r):r:=aY h fun x0 q0=>aY q0 fun x1 q1=>aY q1 fun x2 q2=>f x0 x1 x2 q2.1 q2.2.1 q2.2.2.1 q2.2.2.2
theorem zM{df:Sort u0}{fe:Sort u1}{jB:Sort u2}{vY:Sort u3}{AK:Sort u4}{FJ:Sort u5}{p0:df->fe->jB->vY->AK->FJ->Prop}{r:Prop}(h:∃x0,∃x1,∃x2,∃x3,∃x4,∃x5,p0 x0 x1 x2 x3 x4 x5)(f:∀x0,∀x1,∀x2,∀x3,∀x4,∀x5,p0 x0 x1 x2 x3 x4 x5->r):r:=aY h fun x0 q0=>aY q0 fun x1 q1=>aY q1 fun x2 q2=>aY q2 fun x3 q3=>aY q3 fun x4 q4=>aY q4 fun x5 q5=>f x0 x1 x2 x3 x4 x5 q5
theorem jy{df:Sort u0}{fe:Sort u1}{jB:Sort u2}{p0:Prop}{p1 p2 p3 p4:df->fe->jB->Prop}{r:Prop}(h:p0/\∃x0,∃x1,∃x2,p1 x0 x1 x2/\p2 x0 x1 x2/\p3 x0 x1 x2/\p4 x0 x1 x2)(f:p0->∀x0,∀x1,∀x2,p1 x0 x1 x2->p2 x0 x1 x2->p3 x0 x1 x2->p4 x0 x1 x2->r):r:=aY h.2 fun x0 q0=>aY q0 fun x1 q1=>aY q1 fun x2 q2=>f h.1 x0 x1 x2 q2.1 q2.2.1 q2.2.2.1 q2.2.2.2
theorem qd{df:Sort u0}{fe:Sort u1}{jB:Sort u2}{p0 p1 p2 p3 p4:df->fe->jB->Prop}{r:Prop}(h:∃x0,∃x1,∃x2,p0 x0 x1 x2/\p1 x0 x1 x2/\p2 x0 x1 x2/\p3 x0 x1 x2/\p4 x0 x1 x2)(f:∀x0,∀x1,∀x2,p0 x0 x1 x2->p1 x0 x1 x2->p2 x0 x1 x2->p3 x0 x1 x2->p4 x0 x1 x2->r):r:=aY h fun x0 q0=>aY q0 fun x1 q1=>aY q1 fun x2 q2=>f x0 x1 x2 q2.1 q2.2.1 q2.2.2.1 q2.2.2.2.1 q2.2.2.2.2
theorem uy{df:Sort u0}{fe:Sort u1}{jB:Sort u2}{p0:Prop}{p1 p2 p3 p4 p5:df->fe->jB->Prop}{r:Prop}(h:p0/\∃x0,∃x1,∃x2,p1 x0 x1 x2/\p2 x0 x1 x2/\p3 x0 x1 x2/\p4 x0 x1 x2/\p5 x0 x1 x2)(f:p0->∀x0,∀x1,∀x2,p1 x0 x1 x2->p2 x0 x1 x2->p3 x0 x1 x2->p4 x0 x1 x2->p5 x0 x1 x2->r):r:=aY h.2 fun x0 q0=>aY q0 fun x1 q1=>aY q1 fun x2 q2=>f h.1 x0 x1 x2 q2.1 q2.2.1 q2.2.2.1 q2.2.2.2.1 q2.2.2.2.2
theorem iz{df:Sort u0}{fe:Sort u1}{jB:Sort u2}{p0 p1 p2 p3 p4 p5:df->fe->jB->Prop}{r:Prop}(h:∃x0,∃x1,∃x2,p0 x0 x1 x2/\p1 x0 x1 x2/\p2 x0 x1 x2/\p3 x0 x1 x2/\p4 x0 x1 x2/\p5 x0 x1 x2)(f:∀x0,∀x1,∀x2,p0 x0 x1 x2->p1 x0 x1 x2->p2 x0 x1 x2->p3 x0 x1 x2->p4 x0 x1 x2->p5 x0 x1 x2->r):r:=aY h fun x0 q0=>aY q0 fun x1 q1=>aY q1 fun x2 q2=>f x0 x1 x2 q2.1 q2.2.1 q2.2.2.1 q2.2.2.2.1 q2.2.2.2.2.1 q2.2.2.2.2.2
theorem e9{df:Sort u0}{fe:Sort u1}{jB:Sort u2}{vY:Sort u3}{p0 p1 p2 p3 p4:df->fe->jB->vY->Prop}{r:Prop}(h:∃x0,∃x1,∃x2,∃x3,p0 x0 x1 x2 x3/\p1 x0 x1 x2 x3/\p2 x0 x1 x2 x3/\p3 x0 x1 x2 x3/\p4 x0 x1 x2 x3)(f:∀x0,∀x1,∀x2,∀x3,p0 x0 x1 x2 x3->p1 x0 x1 x2 x3->p2 x0 x1 x2 x3->p3 x0 x1 x2 x3->p4 x0 x1 x2 x3->r):r:=aY h fun x0 q0=>aY q0 fun x1 q1=>aY q1 fun x2 q2=>aY q2 fun x3 q3=>f x0 x1 x2 x3 q3.1 q3.2.1 q3.2.2.1 q3.2.2.2.1 q3.2.2.2.2
theorem uw{df:Sort u0}{fe:Sort u1}{jB:Sort u2}{vY:Sort u3}{AK:Sort u4}{FJ:Sort u5}{OB:Sort u6}{OA:Sort u7}{p0:df->fe->jB->vY->AK->FJ->OB->OA->Prop}{r:Prop}(h:∃x0,∃x1,∃x2,∃x3,∃x4,∃x5,∃x6,∃x7,p0 x0 x1 x2 x3 x4 x5 x6 x7)(f:∀x0,∀x1,∀x2,∀x3,∀x4,∀x5,∀x6,∀x7,p0 x0 x1 x2 x3 x4 x5 x6 x7->r):r:=aY h fun x0 q0=>aY q0 fun x1 q1=>aY q1 fun x2 q2=>aY q2 fun x3 q3=>aY q3 fun x4 q4=>aY q4 fun x5 q5=>aY q5 fun x6 q6=>aY q6 fun x7 q7=>f x0 x1 x2 x3 x4 x5 x6 x7 q7
theorem pG{p0 p1 p2 p3 p4 p5 p6 p7 p8 p9 yH yG:Prop}{r:Prop}(h:p0/\p1/\p2/\p3/\p4/\p5/\p6/\p7/\p8/\p9/\yH/\yG)(f:p0->p1->p2->p3->p4->p5->p6->p7->p8->p9->yH->yG->r):r:=f h.1 h.2.1 h.2.2.1 h.2.2.2.1 h.2.2.2.2.1 h.2.2.2.2.2.1 h.2.2.2.2.2.2.1 h.2.2.2.2.2.2.2.1 h.2.2.2.2.2.2.2.2.1 h.2.2.2.2.2.2.2.2.2.1 h.2.2.2.2.2.2.2.2.2.2.1 h.2.2.2.2.2.2.2.2.2.2.2
theorem pF{df:Sort u0}{fe:Sort u1}{jB:Sort u2}{vY:Sort u3}{AK:Sort u4}{FJ:Sort u5}{OB:Sort u6}{OA:Sort u7}{UJ:Sort u8}{UI:Sort u9}{OC:Sort YD}{p0:df->fe->jB->vY->AK->FJ->OB->OA->UJ->UI->OC->Prop}{r:Prop}(h:∃x0,∃x1,∃x2,∃x3,∃x4,∃x5,∃x6,∃x7,∃x8,∃x9,∃He,p0 x0 x1 x2 x3 x4 x5 x6 x7 x8 x9 He)(f:∀x0,∀x1,∀x2,∀x3,∀x4,∀x5,∀x6,∀x7,∀x8,∀x9,∀He,p0 x0 x1 x2 x3 x4 x5 x6 x7 x8 x9 He->r):r:=aY h fun x0 q0=>aY q0 fun x1 q1=>aY q1 fun x2 q2=>aY q2 fun x3 q3=>aY q3 fun x4 q4=>aY q4 fun x5 q5=>aY q5 fun x6 q6=>aY q6 fun x7 q7=>aY q7 fun x8 q8=>aY q8 fun x9 q9=>aY q9 fun He Pa=>f x0 x1 x2 x3 x4 x5 x6 x7 x8 x9 He Pa
theorem j0{p0 p1 p2 p3 p4 p5 p6 p7 p8 p9 yH yG CG Im Il S8 SZ:Prop}{r:Prop}(h:p0/\p1/\p2/\p3/\p4/\p5/\p6/\p7/\p8/\p9/\yH/\yG/\CG/\Im/\Il/\S8/\SZ)(f:p0->p1->p2->p3->p4->p5->p6->p7->p8->p9->yH->yG->CG->Im->Il->S8->SZ->r):r:=f h.1 h.2.1 h.2.2.1 h.2.2.2.1 h.2.2.2.2.1 h.2.2.2.2.2.1 h.2.2.2.2.2.2.1 h.2.2.2.2.2.2.2.1 h.2.2.2.2.2.2.2.2.1 h.2.2.2.2.2.2.2.2.2.1 h.2.2.2.2.2.2.2.2.2.2.1 h.2.2.2.2.2.2.2.2.2.2.2.1 h.2.2.2.2.2.2.2.2.2.2.2.2.1 h.2.2.2.2.2.2.2.2.2.2.2.2.2.1 h.2.2.2.2.2.2.2.2.2.2.2.2.2.2.1 h.2.2.2.2.2.2.2.2.2.2.2.2.2.2.2.1 h.2.2.2.2.2.2.2.2.2.2.2.2.2.2.2.2
structure Gl where
 prog:Program
 w:World
 K:Frag
 p:Program
 loose:List Str
 ub:ExcName->Option Value
 mg:Str->Option Value
 mb:Str->Option Value
set_option genInjectivity true in
inductive AV where
 |none
 |bool (b:Bool)
 |int (i:Int)
 |str (s:Str)
 |tup (xs:List AV)
 |ref (a:Addr)
 |raw (v:Value)
 deriving Inhabited
noncomputable abbrev dy:=List (Addr×Obj)
noncomputable abbrev aK(vs:List Value):Obj:={ cls:=.type "tuple",data:=.seq vs.toArray }
mutual
def VR(ae:dy):AV->Value->Prop
 |.none,v=>v=.none
 |.bool b,v=>v=.bool b
 |.int i,v=>∃t,v=.int i t
 |.str x,v=>∃t,v=.str x t
 |.ref a,v=>v=.ref a
 |.raw x,v=>v=x
 |.tup xs,v=>∃a vs,v=.ref a/\(a,aK vs)∈ae/\dw ae xs vs
def dw(ae:dy):List AV->List Value->Prop
 |[],vs=>vs=[]
 |x::xs,vs=>∃v r,vs=v::r/\VR ae x v/\dw ae xs r
end
def PR{κ:Type}(ae:dy):List (κ×AV)->List (κ×Value)->Prop
 |[],l=>l=[]
 |(k,a)::r,l=>∃v l',l=(k,v)::l'/\VR ae a v/\PR ae r l'
def rx(ae:dy):List (Str×AV)->List DictEntry->Prop
 |[],l=>l=[]
 |(k,a)::r,l=>∃e l' t,l=e::l'/\e.key=.str k t/\VR ae a e.val/\rx ae r l'
set_option genInjectivity true in
inductive Atom where
 |i (n:Int)
 |s (x:Str)
 deriving DecidableEq,Inhabited
noncomputable def Atom.av:Atom->AV
 |.i n=>.int n
 |.s x=>.str x
noncomputable def Atom.is:Atom->Value->Bool
 |.i n,v=>Value.isInt n v
 |.s x,v=>Value.isStrOf x v
theorem jR{a:Atom}{v:Value}(h:a.is v=true):(∃n t,a=.i n/\v=.int n t)∨∃x t,a=.s x/\v=.str x t:=by
 cases a with
 |i n=>(refine aY (Value.isInt_shape h) fun t ak=>?_;(clear h;subst ak));exact .inl ⟨n,t,rfl,rfl⟩
 |s x=>(refine aY (Value.isStrOf_shape h) fun t ak=>?_;(clear h;subst ak));exact .inr ⟨x,t,rfl,rfl⟩
theorem o7{prog:Program}{w:World}{A:Around}{E:Value->Shared->Prop}{s:Shared}{n:Int}{x:Str}{t u:Tok}{Q:Bool->Shared->Prop}(h:Q false s):wpAny (model prog w) A (eqBool (.int n t) (.str x u)) Q E s:=by
 unfold eqBool
 try with_reducible refine wpAny_holding ?_
 rw[if_neg (by exact jx)]
 exact wpAny_bind (EqMixed.eq_int_str (wpAny_truthy_bool h))
theorem o6{prog:Program}{w:World}{A:Around}{E:Value->Shared->Prop}{s:Shared}{n:Int}{x:Str}{t u:Tok}{Q:Bool->Shared->Prop}(h:Q false s):wpAny (model prog w) A (eqBool (.str x u) (.int n t)) Q E s:=by
 unfold eqBool
 try with_reducible refine wpAny_holding ?_
 rw[if_neg (by exact jx)]
 exact wpAny_bind (EqMixed.eq_str_int (wpAny_truthy_bool h))
noncomputable def ti(prog:Program)(w:World):KeyKind prog w Atom where
 is:=Atom.is
 hash:=fun|.i n=>hashInt n|.s x=>hashStr w x
 inj:=fun v a b ha hb=>by
  rcases jR ha with⟨n,t,rfl,rfl⟩|⟨x,t,rfl,rfl⟩<;>rcases jR hb with⟨m,u,rfl,e⟩|⟨y,u,rfl,e⟩<;>cases e<;>rfl
 byValue:=fun k v h=>by rcases jR h with⟨n,t,rfl,rfl⟩|⟨x,t,rfl,rfl⟩<;>rfl
 pyHash:=fun hv h=>by
  rcases jR hv with⟨n,t,rfl,rfl⟩|⟨x,t,rfl,rfl⟩
  ·exact wpAny_pyHash_int h
  ·exact wpAny_pyHash_str h
 eqBool:=fun ha hb h=>by
  rcases jR ha with⟨n,t,rfl,rfl⟩|⟨x,t,rfl,rfl⟩<;>rcases jR hb with⟨m,u,rfl,rfl⟩|⟨y,u,rfl,rfl⟩
  ·refine wpAny_eqBool_int ?_
   have:(n==m)=decide (Atom.i n=Atom.i m):=by by_cases q:n=m<;>simp[q]
   rw[this];exact h
  ·exact o7 (by simpa using h)
  ·exact o6 (by simpa using h)
  ·exact wpAny_eqBool_str (by simpa using h)
 «strs»:=fun k x t v h=>by
  rcases jR h with⟨n,u,rfl,e⟩|⟨y,u,rfl,e⟩
  ·cases e
  ·cases e;cases v<;>rfl
noncomputable abbrev tK(G:Gl):HeapKind G.prog G.w (List Atom):=tupleKind (ti G.prog G.w)
def lx(ae:dy):List (List Atom×AV)->List (List Atom×Addr×Value)->Prop
 |[],xs=>xs=[]
 |(k,a)::r,xs=>∃t v lH vs,xs=(k,t,v)::lH/\(t,aK vs)∈ae/\dw ae (k.map Atom.av) vs/\VR ae a v/\lx ae r lH
noncomputable abbrev oh(t:Addr)(n:Int):Obj:={ cls:=.type "reversed",data:=.fields #[.ref t,rawInt n] }
inductive AO where
 |list (xs:List AV)
 |bX (es:List (List Atom×AV))
 |wm (xs:List AV)
 |yo (l:Addr) (n:Nat)
 |ni
 |aB (es:List (Int×AV))
 |bq (es:List (Str×AV))
 |fH (S:Int->Bool)
 |inst (C dx:Addr)
 |attrs (es:List (Str×AV))
 |cell (v:AV)
 |dv
 |range (n:Int)
 |ro (o:AO) (ob:Obj)
noncomputable def AO.wM:AO->Bool
 |.aB _=>true
 |.bq _=>true
 |.bX _=>true
 |.ro o _=>o.wM
 |_=>false
noncomputable def AO.view:AO->AO
 |.ro o _=>o
 |o=>o
noncomputable def th(b:Bool):Nat:=if b then 1 else 0
noncomputable def uC(S:Int->Bool):Nat:=th (S 0)+th (S 1)+th (S 2)+th (S 3)+th (S 4)+th (S 5)+th (S 6)+th (S 7)
def OR(G:Gl)(ae:dy):AO->Obj->Prop
 |.list xs,o=>∃vs n,o=listOf vs.toArray n/\dw ae xs vs
 |.bX es,o=>o.ExactDict/\∃CX ep xs,o.data=.dict CX ep/\CX.toList=xs.map (entryOfKey (tK G))/\(xs.map (·.1)).Nodup/\lx ae es xs
 |.wm xs,o=>∃t vs,o=oh t ((xs.length:Int)-1)/\(t,aK vs)∈ae/\dw ae xs vs
 |.yo l n,o=>o=revObj l ((n:Int)-1)
 |.ni,o=>(o.cls==.type "tuple")=false
 |.aB es,o=>∃kvs,o.IsDictOf (intKind G.prog G.w) kvs/\PR ae es kvs
 |.bq es,o=>∃kvs,o.IsDictOf (strKind G.prog G.w) kvs/\PR ae es kvs
 |.fH S,o=>o.SetObjOf (intKind G.prog G.w) S (uC S)/\∀k,S k=true->0<=k/\k<8
 |.inst C dx,o=>o=instObj C dx
 |.attrs es,o=>∃l n,o=dictOf l n/\rx ae es l
 |.cell a,o=>∃v,o.data=.cell (some v)/\VR ae a v
 |.dv,o=>o.data=.cell none
 |.range n,o=>∃t u v,o={ cls:=.type "range",dict:=none,data:=.fields #[.int 0 t,.int n u,.int 1 v],slots:=#[] }
 |.ro x ob,o=>o=ob/\OR G ae x ob
theorem OR.view{G:Gl}{ae:dy}{o:AO}{ob:Obj}(h:OR G ae o ob):OR G ae o.view ob:=by
 cases o with
 |ro x kj=>(refine bh (h) ?_;clear h;intro ak h;subst ak);exact h
 |_=>exact h
noncomputable abbrev ah:=Addr->Option AO
abbrev AQ:=AV->ah->Prop
noncomputable def ah.put(H:ah)(a:Addr)(o:AO):ah:=fun b=>if b=a then some o else H b
@[simp] theorem al(H:ah)(a o):(H.put a o) a=some o:=by exact if_pos rfl
theorem aj(H:ah){a b:Addr}(o)(h:b≠a):(H.put a o) b=H b:=by exact if_neg ‹_›
def aO(H H':ah)(ae am:dy):Prop:=∀p∈ae,H p.1=none->p∈am/\H' p.1=none
theorem aO.rfl{H:ah}{ae:dy}:aO H H ae ae:=fun _ hp h=>⟨hp,h⟩
theorem aO.trans{H H' pr:ah}{ae am yU:dy}(a:aO H H' ae am)(b:aO H' pr am yU):aO H pr ae yU:=
 fun p hp h=>have z:=a p hp h;b p z.1 z.2
structure St(G:Gl)(h₀:Heap)(L:Addr)(mm:Str->Option Value)(H:ah)(ae:dy)(h:Heap):Prop where
 fr:Fr h₀ L h mm
 nw:News h₀ L h ae
 nd:(ae.map (·.1)).Nodup
 hr:∀a o,H a=some o->∃ob,(a,ob)∈ae/\OR G ae o ob
 lo:∀a o,H a=some o->o.wM=true->(a==sysModules)=false
theorem dK{ae:dy}(nd:(ae.map (·.1)).Nodup){a:Addr}{o o':Obj}(h:(a,o)∈ae)(h':(a,o')∈ae):o=o':=by
 induction ae with
 |nil=>cases h
 |cons x r ih=>
  rw[List.map_cons,List.nodup_cons]at nd
  rcases de h with h|h
  ·clear ih;rcases de h' with h'|h'
   ·rw[←h]at h';cases h';rfl
   ·rw[←h]at nd;exact absurd (List.mem_map_of_mem (f:=(·.1)) h') nd.1
  ·rcases de h' with h'|h'
   ·rw[←h']at nd;exact absurd (List.mem_map_of_mem (f:=(·.1)) h) nd.1
   ·exact ih nd.2 h h'
theorem gj{ob:Obj}(h:(ob.cls==.type "tuple")=false):∀vs,ob≠aK vs:=fun vs e=>by subst e;simp at h
theorem OR.El{G:Gl}{ae:dy}{o:AO}{ob:Obj}(h:OR G ae o ob):∀vs,ob≠aK vs:=by
 induction o with
 |range n=>(refine jM (h) fun t u v ak=>?_;clear h;subst ak);exact gj rfl
 |bX es=>(refine bh (h) fun ak _=>?_;clear h;refine bh (ak) fun e _=>?_;clear ak);exact gj (by rw[e];rfl)
 |wm xs=>(refine bi (h) fun t vs ak _=>?_;clear h;subst ak);exact gj rfl
 |yo l n=>have:ob=revObj l ((n:Int)-1):=h;subst this;exact gj rfl
 |ni=>exact gj h
 |ro x kj ih=>(refine bh (h) ?_;clear h;intro ak h;subst ak);exact ih h
 |list xs=>(refine bi (h) fun vs n ak _=>?_;clear h;subst ak);exact gj rfl
 |aB es=>(refine aA (h) fun kvs ak _=>?_;clear h;refine bi (ak) fun _ _ cu _=>?_;clear ak;refine bh (cu) fun e _=>?_;clear cu);exact gj (by rw[e];rfl)
 |bq es=>(refine aA (h) fun kvs ak _=>?_;clear h;refine bi (ak) fun _ _ cu _=>?_;clear ak;refine bh (cu) fun e _=>?_;clear cu);exact gj (by rw[e];rfl)
 |fH S=>
  have:=h.1.1.1
  exact gj (by rw[this];rfl)
 |inst C dx=>have:ob=instObj C dx:=h;subst this;exact gj rfl
 |attrs es=>(refine bi (h) fun l n ak _=>?_;clear h;subst ak);exact gj rfl
 |cell a=>
  refine aA (h) fun v e _=>?_;clear h
  intro vs z
  subst z
  cases e
 |dv=>
  have e:ob.data=.cell none:=h
  intro vs z
  clear h;subst z
  cases e
variable{G:Gl}{h₀:Heap}{L:Addr}{mm:Str->Option Value}{H H':ah}{ae am:dy}{h:Heap}
theorem St.iq(S:St G h₀ L mm H ae h){a:Addr}{vs:List Value}(hm:(a,aK vs)∈ae):H a=none:=by
 cases e:H a with
 |none=>rfl
 |some o=>
  refine aA (S.hr a o e) fun ob h1 h2=>?_
  have:=dK S.nd hm h1
  clear h1 e hm a;subst this
  exact(h2.El _ rfl).elim
mutual
theorem VR.sub{ae am:dy}(k:∀a vs,(a,aK vs)∈ae->(a,aK vs)∈am):∀ {a:AV} {v:Value},VR ae a v->VR am a v
 |.none,_,h=>h
 |.bool _,_,h=>h
 |.int _,_,h=>h
 |.str _,_,h=>h
 |.ref _,_,h=>h
 |.raw _,_,h=>h
 |.tup xs,_,h=>by
  refine aE (h) fun a vs ak hm hv=>?_;clear h;subst ak
  exact⟨a,vs,rfl,k _ _ hm,dw.sub k hv⟩
theorem dw.sub{ae am:dy}(k:∀a vs,(a,aK vs)∈ae->(a,aK vs)∈am):∀ {xs:List AV} {vs:List Value},dw ae xs vs->dw am xs vs
 |[],_,h=>h
 |x::xs,_,h=>by
  refine aE (h) fun v r ak h1 h2=>?_;clear h;subst ak
  exact⟨v,r,rfl,VR.sub k h1,dw.sub k h2⟩
end
theorem St.sub(S:St G h₀ L mm H ae h)(k:aO H H' ae am):∀a vs,(a,aK vs)∈ae->(a,aK vs)∈am:=
 fun _ _ hm=>(k _ hm (S.iq hm)).1
theorem St.vr(S:St G h₀ L mm H ae h)(k:aO H H' ae am){a:AV}{v:Value}(x:VR ae a v):VR am a v:=x.sub (S.sub k)
theorem St.SM(S:St G h₀ L mm H ae h)(k:aO H H' ae am){a:List AV}{v:List Value}(x:dw ae a v):dw am a v:=x.sub (S.sub k)
theorem PR.sub{κ:Type}(k:∀a vs,(a,aK vs)∈ae->(a,aK vs)∈am):∀ {es:List (κ×AV)} {l:List (κ×Value)},PR ae es l->PR am es l:=by
 intro zz
 induction zz with
 |nil=>
  intro _ h
  exact h
 |cons qx qs ih=>
  obtain⟨_,_⟩:=qx
  intro _ h
  refine aE (h) fun v l' ak h1 h2=>?_;clear h;subst ak
  exact⟨v,l',rfl,h1.sub k,ih h2⟩
theorem rx.sub(k:∀a vs,(a,aK vs)∈ae->(a,aK vs)∈am):∀ {es:List (Str×AV)} {l:List DictEntry},rx ae es l->rx am es l:=by
 intro zz
 induction zz with
 |nil=>
  intro _ h
  exact h
 |cons qx qs ih=>
  obtain⟨_,_⟩:=qx
  intro _ h
  refine cQ (h) fun e l' t ak h0 h1 h2=>?_;clear h;subst ak
  exact⟨e,l',t,rfl,h0,h1.sub k,ih h2⟩
theorem lx.sub(k:∀a vs,(a,aK vs)∈ae->(a,aK vs)∈am):∀ {es:List (List Atom×AV)} {l:List (List Atom×Addr×Value)},lx ae es l->lx am es l:=by
 intro zz
 induction zz with
 |nil=>
  intro _ h
  exact h
 |cons qx qs ih=>
  obtain⟨_,_⟩:=qx
  intro _ h
  refine e9 (h) fun t v lH vs ak h0 h1 h2 h3=>?_;clear h;subst ak
  exact⟨t,v,lH,vs,rfl,k _ _ h0,h1.sub k,h2.sub k,ih h3⟩
theorem OR.sub(k:∀a vs,(a,aK vs)∈ae->(a,aK vs)∈am){o:AO}{ob:Obj}(h:OR G ae o ob):OR G am o ob:=by
 induction o generalizing ob with
 |list _=>obtain⟨vs,n,e,h⟩:=h;exact⟨vs,n,e,h.sub k⟩
 |aB _=>obtain⟨kvs,e,h⟩:=h;exact⟨kvs,e,h.sub k⟩
 |bq _=>obtain⟨kvs,e,h⟩:=h;exact⟨kvs,e,h.sub k⟩
 |attrs _=>obtain⟨l,n,e,h⟩:=h;exact⟨l,n,e,h.sub k⟩
 |cell _=>obtain⟨v,e,h⟩:=h;exact⟨v,e,h.sub k⟩
 |bX _=>obtain⟨e,CX,ep,xs,h1,h2,h3,h4⟩:=h;exact⟨e,CX,ep,xs,h1,h2,h3,h4.sub k⟩
 |wm _=>obtain⟨t,vs,e,h1,h2⟩:=h;exact⟨t,vs,e,k _ _ h1,h2.sub k⟩
 |ro _ _ ih=>exact⟨h.1,ih h.2⟩
 |_=>exact h
noncomputable abbrev bP:=List (Str×AV)
def LR(ae:dy)(m:bP)(mm:Str->Option Value):Prop:=∀x a,m.lookup x=some a->∃v,mm x=some v/\VR ae a v
structure Cx where
 A₀:Around
 A:Around
 base:Heap
 h₀:Heap
 outer:List Env
 L:Addr
 cn:Str
 cs:Scope
 a:Addr
 Uu:Value
 cl:List (Str×Addr)
noncomputable abbrev Cx.env(c:Cx):Env:=envX c.cn c.cs c.L c.a c.Uu c.cl
structure Cx.Ok(G:Gl)(D:Nat)(c:Cx):Prop where
 below:Below c.A₀ c.base c.outer c.h₀
 qL:G.K.In c.h₀
 top:Top G.p G.loose G.ub G.mg G.mb c.h₀
 frames:c.A.frames=some (c.env::c.outer)
 kind:c.cs.kind=.function
 depth:c.A.depth+D<recursionLimit
 units:c.A.units+8*D<cLine
 handled:c.A.handled=none
inductive Fl where
 |next|brk|cont
 |ret (a:AV)
def FR(ae:dy):Fl->Flow->Prop
 |.next,f=>f=.next
 |.brk,f=>f=.brk
 |.cont,f=>f=.cont
 |.ret a,f=>∃v,f=.ret v/\VR ae a v
structure WE(G:Gl)(D:Nat)(cs:Scope)(cl:List (Str×Addr))(e:Expr)(m:bP)(H:ah)(Q:AV->ah->Prop):Prop where
 go:∀c:Cx,c.cs=cs->c.cl=cl->c.Ok G D->∀mm ae s,St G c.h₀ c.L mm H ae s.heap->LR ae m mm->∀ (Q':Value->Shared->Prop) E,
  (∀v a H' am h' tk,St G c.h₀ c.L mm H' am h'->aO H H' ae am->VR am a v->Q a H'->Q' v { s with heap:=h',toks:=tk })->
  wpAny (model G.prog G.w) c.A (eval e c.env) Q' E s
structure WT(G:Gl)(D:Nat)(cs:Scope)(cl:List (Str×Addr))(e:Expr)(m:bP)(H:ah)(Q:Bool->ah->Prop):Prop where
 go:∀c:Cx,c.cs=cs->c.cl=cl->c.Ok G D->∀mm ae s,St G c.h₀ c.L mm H ae s.heap->LR ae m mm->∀ (Q':Bool->Shared->Prop) E,
  (∀b H' am h' tk,St G c.h₀ c.L mm H' am h'->aO H H' ae am->Q b H'->Q' b { s with heap:=h',toks:=tk })->
  wpAny (model G.prog G.w) c.A (isTrue e c.env (eval e c.env)) Q' E s
structure WS(G:Gl)(D:Nat)(cs:Scope)(cl:List (Str×Addr))(ss:List Stmt)(m:bP)(H:ah)(Q:Fl->bP->ah->Prop):Prop where
 go:∀c:Cx,c.cs=cs->c.cl=cl->c.Ok G D->∀mm ae s,St G c.h₀ c.L mm H ae s.heap->LR ae m mm->∀ (Q':Flow->Shared->Prop) E,
  (∀f fl m' eZ H' am h' tk,St G c.h₀ c.L eZ H' am h'->LR am m' eZ->aO H H' ae am->FR am fl f->Q fl m' H'->Q' f { s with heap:=h',toks:=tk })->
  wpAny (model G.prog G.w) c.A (execs ss c.env) Q' E s
structure W1(G:Gl)(D:Nat)(cs:Scope)(cl:List (Str×Addr))(st:Stmt)(m:bP)(H:ah)(Q:Fl->bP->ah->Prop):Prop where
 go:∀c:Cx,c.cs=cs->c.cl=cl->c.Ok G D->∀mm ae s,St G c.h₀ c.L mm H ae s.heap->LR ae m mm->∀ (Q':Flow->Shared->Prop) E,
  (∀f fl m' eZ H' am h' tk,St G c.h₀ c.L eZ H' am h'->LR am m' eZ->aO H H' ae am->FR am fl f->Q fl m' H'->Q' f { s with heap:=h',toks:=tk })->
  wpAny (model G.prog G.w) c.A (exec st c.env) Q' E s
structure WC(G:Gl)(D:Nat)(f:Value)(args:List AV)(H:ah)(Q:AV->ah->Prop):Prop where
 go:∀c:Cx,c.Ok G D->∀mm ae s,St G c.h₀ c.L mm H ae s.heap->∀vals,dw ae args vals->∀ (R:Result->Shared->Prop),
  (∀v a H' am h' tk,St G c.h₀ c.L mm H' am h'->aO H H' ae am->VR am a v->Q a H'->R (.ok (.ret v)) { s with heap:=h',toks:=tk })->
  codeAny (model G.prog G.w) c.A (.call f ⟨vals,[]⟩) R s
variable{D:Nat}{cs:Scope}{cl:List (Str×Addr)}{m:bP}
theorem WE.mono{e:Expr}{Q Q':AV->ah->Prop}(h:WE G D cs cl e m H Q)(k:∀a H,Q a H->Q' a H):WE G D cs cl e m H Q':=
 ⟨fun c h1 h2 ok mm ae s S lr rq E c'=>h.go c h1 h2 ok mm ae s S lr rq E fun v a H' am h' tk a1 a2 a3 a4=>c' v a H' am h' tk a1 a2 a3 (k _ _ a4)⟩
theorem WS.mono{e:List Stmt}{Q Q':Fl->bP->ah->Prop}(h:WS G D cs cl e m H Q)(k:∀f m H,Q f m H->Q' f m H):WS G D cs cl e m H Q':=
 ⟨fun c h1 h2 ok mm ae s S lr rq E c'=>h.go c h1 h2 ok mm ae s S lr rq E fun f fl m' eZ H' am h' tk a1 a2 a3 a4 a5=>c' f fl m' eZ H' am h' tk a1 a2 a3 a4 (k _ _ _ a5)⟩
theorem WC.mono{f:Value}{args:List AV}{Q Q':AV->ah->Prop}(h:WC G D f args H Q)(k:∀a H,Q a H->Q' a H):WC G D f args H Q':=
 ⟨fun c ok mm ae s S vals hv R c'=>h.go c ok mm ae s S vals hv R fun v a H' am h' tk a1 a2 a3 a4=>c' v a H' am h' tk a1 a2 a3 (k _ _ a4)⟩
theorem LR.keep{h₀:Heap}{L:Addr}{mm:Str->Option Value}{H':ah}{ae am:dy}{h:Heap}(S:St G h₀ L mm H ae h)(k:aO H H' ae am){m:bP}(lr:LR ae m mm):LR am m mm:=
 fun x a e=>let ⟨v,hv,r⟩:=lr x a e;⟨v,hv,S.vr k r⟩
theorem Cx.Ok.tr{c:Cx}(ok:c.Ok G D):TopRead G.p G.loose G.mg G.mb c.h₀:=⟨ok.top.g,ok.top.b,ok.top.nolimit,ok.top.builtins,ok.top.free⟩
theorem WE.name{x:Str}{pos:Pos}{a:AV}{Q:AQ}(hv:m.lookup x=some a)(h:Q a H)
 (hx:autoParam (cs.names.lookup x=some .local) aR) (hd:autoParam ((x==("__debug__":Str))=false) aD):WE G D cs cl (.Name x pos) m H Q where
 go:=fun c h1 h2 ok mm ae s S lr Q' E k=>by
  subst h1
  refine aA (lr x a hv) fun v e1 e2=>?_
  exact nameX_L S.fr e1 (k v a H ae s.heap s.toks S aO.rfl e2 h) ok.kind hx hd
theorem WE.vF{x:Str}{pos:Pos}{v:Value}{a:AV}{Q:AQ}(e:nsIn G.K mainGlobals x=some (some v))(ha:∀ae,VR ae a v)(h:Q a H)
 (hx:autoParam (cs.names.lookup x=some .globalImplicit) aR) (hd:autoParam ((x==("__debug__":Str))=false) aD):WE G D cs cl (.Name x pos) m H Q where
 go:=fun c h1 h2 ok mm ae s S lr Q' E k=>by
  subst h1
  exact nameX_K S.fr ok.qL ok.tr e (k v a H ae s.heap s.toks S aO.rfl (ha _) h) ok.kind hx hd
theorem rD{x:Str}{pos:Pos}{v:Value}{Q:AQ}(e:nsIn G.K mainGlobals x=some none)(hv:bootBuiltins x=some v)(hn:x≠"__name__")(h:Q (.raw v) H)
 (hx:autoParam (cs.names.lookup x=some .globalImplicit) aR) (hd:autoParam ((x==("__debug__":Str))=false) aD):WE G D cs cl (.Name x pos) m H Q where
 go:=fun c h1 h2 ok mm ae s S lr Q' E k=>by
  subst h1
  exact nameX_B S.fr ok.qL ok.tr e hv hn (k v (.raw v) H ae s.heap s.toks S aO.rfl rfl h) ok.kind hx hd
theorem WE.int{i:Int}{n:Nat}{pos:Pos}{Q:AQ}(h:Q (.int i) H):WE G D cs cl (.Constant (.int i) n pos) m H Q where
 go:=fun c h1 h2 ok mm ae s S lr Q' E k=>wpAny_Constant_int (k _ (.int i) H ae s.heap _ S aO.rfl ⟨_,rfl⟩ h)
theorem aW(ae:dy)(x:AV)(xs:List AV)(vs:List Value):dw ae (x::xs) vs↔∃v r,vs=v::r/\VR ae x v/\dw ae xs r:=Iff.rfl
theorem bC(ae:dy)(vs:List Value):dw ae [] vs↔vs=[]:=Iff.rfl
theorem ee(ae:dy)(xs:List AV)(v:Value):VR ae (.tup xs) v↔∃a vs,v=.ref a/\(a,aK vs)∈ae/\dw ae xs vs:=Iff.rfl
noncomputable def cN(e:Expr):Bool:=!(Nat.beq e.ctorIdx 22)
noncomputable def Q3(e:Expr):Option Const:=@Expr.casesOn (fun _=>Option Const) e (fun _ _ _=>none) (fun _ _ _=>none) (fun _ _ _ _=>none) (fun _ _ _=>none) (fun _ _ _ _=>none) (fun _ _ _ _=>none) (fun _ _ _=>none) (fun _ _ _=>none) (fun _ _ _ _=>none) (fun _ _ _ _=>none) (fun _ _ _ _ _=>none) (fun _ _ _ _=>none) (fun _ _=>none) (fun _ _=>none) (fun _ _=>none) (fun _ _ _ _=>none) (fun _ _ _ _=>none) (fun _ _ _ _=>none) (fun _ _=>none) (fun c _ _=>some c) (fun _ _ _=>none) (fun _ _ _=>none) (fun _ _=>none) (fun _ _=>none) (fun _ _=>none) (fun _ _ _=>none) (fun _ _ _ _=>none)
theorem z0{e:Expr}{c:Const}(h:Q3 e=some c):∃n p,e=.Constant c n p:=by
 cases e<;>first|exact Option.some.inj h▸⟨_,_,rfl⟩|exact ax h
theorem cC{e:Expr}{au:List Expr}{env:Env}(h:cN e=true):starEach (e::au) env=(false,eval e env)::starEach au env:=by
 cases e<;>first|rfl|(exact bI h)
@[reducible] noncomputable def Fn(a:AV)(Q:List AV->ah->Prop):List AV->ah->Prop:=fun as H=>Q (a::as) H
@[reducible] noncomputable def Vl(W:ah->(List AV->ah->Prop)->Prop)(Q:List AV->ah->Prop):AV->ah->Prop:=fun a H=>W H (Fn a Q)
@[reducible] noncomputable def Ia(Q:AV->ah->Prop):List AV->ah->Prop:=fun as H=>Q (.tup as) H
@[reducible] noncomputable def OY(Q:AV->ah->Prop):List AV->ah->Prop:=fun as H=>∀l,H l=none->Q (.ref l) (H.put l (.list as))
@[reducible] noncomputable def NU(G:Gl)(D:Nat)(f:Value)(Q:AV->ah->Prop):List AV->ah->Prop:=fun as H=>WC G D f as H Q
@[reducible] noncomputable def kf(G:Gl)(D:Nat)(cs:Scope)(cl:List (Str×Addr)):List Expr->bP->ah->(List AV->ah->Prop)->Prop
 |[],_,H,Q=>Q [] H
 |e::es,m,H,Q=>WE G D cs cl e m H (Vl (kf G D cs cl es m) Q)
theorem kf.go{m:bP}:∀ {es:List Expr} {H:ah} {Q:List AV->ah->Prop},(es.all cN)=true->kf G D cs cl es m H Q->∀c:Cx,c.cs=cs->c.cl=cl->c.Ok G D->∀ {mm ae s} (pos:Pos),St G c.h₀ c.L mm H ae s.heap->LR ae m mm->∀ (Q':List Value->Shared->Prop) E,
 (∀v a H' am h' tk,St G c.h₀ c.L mm H' am h'->aO H H' ae am->dw am a v->v.length=es.length->Q a H'->Q' v { s with heap:=h',toks:=tk })->
 wpAny (model G.prog G.w) c.A (spliced (backTo pos (starEach es c.env))) Q' E s:=by
 intro zz
 induction zz with
 |nil=>
  intro H Q _ w c h1 h2 ok mm ae s pos S lr Q' E k
  exact wpAny_items_nil (k [] [] H ae s.heap s.toks S aO.rfl rfl rfl w)
 |cons e es ih=>
  intro H Q hp w c h1 h2 ok mm ae s pos S lr Q' E k
  rw[List.all_cons,Bool.and_eq_true]at hp
  refine wpAny_items_cons ?_ (cC hp.1)
  refine WE.go w c h1 h2 ok mm ae s S lr _ E fun v a H1 n1 h' tk S1 K1 V1 w1=>?_
  refine ih hp.2 w1 c h1 h2 ok (s:={ s with heap:=h',toks:=tk }) pos S1 (LR.keep S K1 lr) _ E fun vs as H2 n2 h2 gI S2 K2 V2 len q=>?_
  exact k (v::vs) (a::as) _ _ _ _ S2 (K1.trans K2) (by show dw n2 (a::as) (v::vs);exact(aW ..).mpr ⟨v,vs,rfl,S1.vr K2 V1,V2⟩) (by simp[len]) q
theorem dw.length{ae:dy}:∀ {xs:List AV} {vs:List Value},dw ae xs vs->vs.length=xs.length:=by
 intro zz
 induction zz with
 |nil=>
  intro _ h
  rw[show _=[]from h];rfl
 |cons _ qs ih=>
  intro _ h
  (refine aE (h) fun v r ak _ h2=>?_;clear h;subst ak);simp[ih h2]
theorem St.off{h₀ L mm ae h}(S:St G h₀ L mm H ae h){d:Addr}(hd:∀p∈ae,p.1≠d):H d=none:=by
 cases e:H d with
 |none=>rfl
 |some o=>(refine aA (S.hr d o e) fun ob h1 _=>?_);exact absurd rfl (hd _ h1)
theorem dJ{ae:dy}{p:Addr×Obj}:∀a vs,(a,aK vs)∈ae->(a,aK vs)∈p::ae:=fun _ _ h=>.tail _ h
theorem St.push{h₀ L mm ae h h' eZ}(S:St G h₀ L mm H ae h){d:Addr}{ob:Obj}(F:Fr h₀ L h' eZ)(N:News h₀ L h' ((d,ob)::ae))(hd:∀p∈ae,p.1≠d):
 St G h₀ L eZ H ((d,ob)::ae) h'/\aO H H ae ((d,ob)::ae):=by
 refine⟨⟨F,N,?_,fun a o e=>?_,S.lo⟩,fun p hp h=>⟨.tail _ hp,h⟩⟩
 ·rw[List.map_cons,List.nodup_cons]
  refine⟨fun hm=>?_,S.nd⟩
  refine aA (List.mem_map.mp hm) fun p hp e=>?_
  exact hd p hp e
 ·refine aA (S.hr a o e) fun kj h1 h2=>?_
  exact⟨kj,.tail _ h1,h2.sub dJ⟩
theorem St.eJ{h₀ L mm ae h h' eZ}(S:St G h₀ L mm H ae h){d:Addr}{ob:Obj}{o:AO}(F:Fr h₀ L h' eZ)(N:News h₀ L h' ((d,ob)::ae))(hd:∀p∈ae,p.1≠d)(ho:OR G ae o ob)(iQ:autoParam (o.wM=true->(d==sysModules)=false) aC):
 St G h₀ L eZ (H.put d o) ((d,ob)::ae) h'/\aO H (H.put d o) ae ((d,ob)::ae):=by
 refine bh (S.push F N hd) fun S' K'=>?_
 refine⟨⟨S'.fr,S'.nw,S'.nd,fun a o' e=>?_,fun a o' e i=>?_⟩,fun p hp h=>⟨.tail _ hp,by rw[aj _ _ (hd p hp)];exact h⟩⟩
 ·by_cases ha:a=d
  ·clear K' S' iQ hd N F S eZ h' L h₀;subst ha
   rw[al]at e
   cases e
   exact⟨ob,.head _,ho.sub dJ⟩
  ·rw[aj _ _ ha]at e
   exact S'.hr a o' e
 ·by_cases ha:a=d
  ·clear K' S' ho hd N F ob S eZ h' ae L h₀;subst ha
   rw[al]at e
   cases e
   exact iQ i
  ·rw[aj _ _ ha]at e
   exact S'.lo a o' e i
theorem aq{h₀ L h}{ae:dy}(N:News h₀ L h ae):∀p∈ae,p.1≠h.objs.size:=News.apart N
theorem gu{ae:dy}{d:Addr}(h:∀p∈ae,p.1<d):∀p∈ae,p.1≠d:=fun p hp=>Nat.ne_of_lt (h p hp)
theorem WE.tuple{es:List Expr}{n:Nat}{pos:Pos}{Q:AQ}(h:kf G D cs cl es m H (Ia Q))(hp:autoParam ((es.all cN)=true) aR)(hz:autoParam (es.length<=1000) aD):
 WE G D cs cl (.Tuple es n pos) m H Q where
 go:=fun c h1 h2 ok mm ae s S lr Q' E k=>by
  refine Tuple_ (kf.go hp h c h1 h2 ok pos S lr _ E fun v a H' n' h' tk S1 K1 V1 len q=>?_)
  refine newTuple_N (s:={ s with heap:=h',toks:=tk }) S1.fr S1.nw (fun jK F N=>?_) (by rw[len,sizeLine_eq];(exact d6 ‹_› (cm rfl)))
  refine bh (S1.push F N (aq S1.nw)) fun S2 K2=>?_
  exact k _ _ _ _ _ _ S2 (K1.trans K2) ((ee ..).mpr ⟨_,v,rfl,.head _,V1.sub dJ⟩) q
noncomputable def AV.ok:AV->Bool
 |.raw _=>false
 |_=>true
theorem qb{ae:dy}:∀ {a:AV} {v:Value},a.ok=true->VR ae a v->handedIn v=true
 |.none,_,_,h=>by rw[show _=Value.none from h];rfl
 |.bool b,_,_,h=>by rw[show _=Value.bool b from h];rfl
 |.int i,_,_,h=>by(refine aY (h) fun t ak=>?_;clear h;subst ak);rfl
 |.str i,_,_,h=>by(refine aY (h) fun t ak=>?_;clear h;subst ak);rfl
 |.ref i,_,_,h=>by rw[show _=Value.ref i from h];rfl
 |.tup i,_,_,h=>by(refine bi (h) fun a vs ak _=>?_;clear h;subst ak);rfl
 |.raw _,_,e,_=>by exact bI e
theorem lG(ae:dy)(l:List DictEntry):rx ae [] l↔l=[]:=Iff.rfl
theorem ij(ae:dy)(k:Str)(a:AV)(r:List (Str×AV))(l:List DictEntry):rx ae ((k,a)::r) l↔∃e l' t,l=e::l'/\e.key=.str k t/\VR ae a e.val/\rx ae r l':=Iff.rfl
theorem oK{k name:Str}{t:Tok}:Value.isStr (.str k t) name=(k==name):=rfl
theorem rx.mn{ae:dy}{name:Str}{a:AV}:∀ {as:List (Str×AV)} {l:List DictEntry},rx ae as l->as.lookup name=some a->∃v,getL name l=some (some v)/\VR ae a v:=by
 intro zz
 induction zz with
 |nil=>
  intro l h e
  exact ax e
 |cons qx r ih=>
  obtain⟨k,b⟩:=qx
  intro l h e
  rw[ij]at h
  refine cQ (h) fun en l' t ak hk hv h2=>?_;clear h;subst ak
  unfold getL
  rw[List.find?_cons,hk,oK]
  rw[List.lookup_cons]at e
  by_cases q:name=k
  ·clear hk t;subst q
   simp only[beq_self_eq_true]at e⊢
   cases e
   exact⟨_,rfl,hv⟩
  ·have q1:(name==k)=false:=by simpa using q
   have q2:(k==name)=false:=by simpa using fun x=>q x.symm
   simp only[q1]at e
   simp only[q2]
   refine aA (ih h2 e) fun v a1 a2=>?_
   unfold getL at a1
   have hr:(en::l').any (·.refKey)=l'.any (·.refKey):=by
    rw[List.any_cons];unfold DictEntry.refKey;rw[hk];rfl
   rw[hr]
   exact⟨v,a1,a2⟩
theorem rx.qc{ae:dy}{name:Str}:∀ {as:List (Str×AV)} {l:List DictEntry},rx ae as l->as.lookup name=none->getL name l=some none:=by
 intro zz
 induction zz with
 |nil=>
  intro l h e
  rw[lG]at h;subst h;rfl
 |cons qx r ih=>
  obtain⟨k,b⟩:=qx
  intro l h e
  rw[ij]at h
  refine cQ (h) fun en l' t ak hk hv h2=>?_;clear h;subst ak
  unfold getL
  rw[List.find?_cons,hk,oK]
  rw[List.lookup_cons]at e
  by_cases q:name=k
  ·clear hk t;subst q
   simp only[beq_self_eq_true]at e
   exact bg e
  ·have q1:(name==k)=false:=by simpa using q
   have q2:(k==name)=false:=by simpa using fun x=>q x.symm
   simp only[q1]at e
   simp only[q2]
   have a1:=ih h2 e
   unfold getL at a1
   have hr:(en::l').any (·.refKey)=l'.any (·.refKey):=by
    rw[List.any_cons];unfold DictEntry.refKey;rw[hk];rfl
   rw[hr]
   exact a1
noncomputable def kJ(name:Str)(a:AV):List (Str×AV)->List (Str×AV)
 |[]=>[(name,a)]
 |(k,b)::r=>if k=name then(k,a)::r else(k,b)::kJ name a r
theorem yx(n k:Str)(a b:AV)(r):kJ n a ((k,b)::r)=if k=n then(k,a)::r else(k,b)::kJ n a r:=rfl
theorem rx.put{ae:dy}{name:Str}{a:AV}{hs:Int}{t:Tok}{v:Value}(hv:VR ae a v):∀ {as:List (Str×AV)} {l:List DictEntry},rx ae as l->rx ae (kJ name a as) (putL name hs (.str name t) v l):=by
 intro zz
 induction zz with
 |nil=>
  intro l h
  rw[lG]at h;subst h
  exact⟨_,[],t,rfl,rfl,hv,(lG ..).mpr rfl⟩
 |cons qx r ih=>
  obtain⟨k,b⟩:=qx
  intro l h
  rw[ij]at h
  refine cQ (h) fun en l' t' ak hk hb h2=>?_;clear h;subst ak
  rw[yx,putL,hk,oK]
  by_cases q:k=name
  ·clear ih;subst q
   rw[if_pos rfl,if_pos (by exact if_pos rfl),ij]
   exact⟨_,l',t',rfl,rfl,hv,h2⟩
  ·rw[if_neg q,if_neg (by simpa using q),ij]
   exact⟨en,_,t',rfl,hk,hb,ih h2⟩
theorem rx.length{ae:dy}:∀ {as:List (Str×AV)} {l:List DictEntry},rx ae as l->l.length=as.length:=by
 intro zz
 induction zz with
 |nil=>
  intro l h
  rw[lG]at h;subst h;rfl
 |cons qx r ih=>
  obtain⟨k,b⟩:=qx
  intro l h
  rw[ij]at h;(refine cQ (h) fun e l' t ak _ _ h2=>?_;clear h;subst ak);exact congrArg Nat.succ (ih h2)
theorem r4(name:Str)(a:AV):∀as:List (Str×AV),(kJ name a as).length<=as.length+1:=by
 intro zz
 induction zz with
 |nil=>
  exact Nat.le_refl _
 |cons qx r ih=>
  obtain⟨k,b⟩:=qx
  rw[yx]
  by_cases q:k=name
  ·rw[if_pos q];exact Nat.le_succ _
  ·rw[if_neg q];exact Nat.succ_le_succ ih
theorem fO:∀ {ae:dy} {d:Addr} {o:Obj} (o':Obj),(ae.map (·.1)).Nodup->(d,o)∈ae->∃am,Upd d o o' ae am/\(am.map (·.1))=ae.map (·.1)/\(∀p∈ae,p.1≠d->p∈am)/\(d,o')∈am/\(∀p∈am,p.1≠d->p∈ae):=by
 intro zz
 induction zz with
 |nil=>
  intro _ _ _ _ h
  exact bv h
 |cons x r ih=>
  intro d o o' nd h
  rw[List.map_cons,List.nodup_cons]at nd
  by_cases q:x.1=d
  ·have hx:x=(d,o):=by
    rcases de h with h|h
    ·exact h.symm
    ·exact absurd (q▸List.mem_map_of_mem (f:=(·.1)) h) nd.1
   clear q h;subst hx
   refine⟨(d,o')::r,.head fun p hp e=>nd.1 (e▸List.mem_map_of_mem (f:=(·.1)) hp),rfl,fun p hp e=>?_,.head _,fun p hp e=>?_⟩
   ·rcases de hp with rfl|hp
    ·exact absurd rfl e
    ·exact .tail _ hp
   ·rcases de hp with rfl|hp
    ·exact absurd rfl e
    ·exact .tail _ hp
  ·have h':(d,o)∈r:=by
    clear nd;rcases de h with h|h
    ·subst h;exact absurd rfl q
    ·exact h
   refine dF (ih o' nd.2 h') fun n' a b c e f=>?_
   refine⟨x::n',.tail q a,by rw[List.map_cons,b];rfl,fun p hp z=>?_,.tail _ e,fun p hp z=>?_⟩
   ·clear a h' q h nd o;rcases de hp with rfl|hp
    ·exact .head _
    ·exact .tail _ (c p hp z)
   ·clear a h' q h nd o;rcases de hp with rfl|hp
    ·exact .head _
    ·exact .tail _ (f p hp z)
theorem kw:∀ {ae:dy} {d:Addr} {o:Obj},(ae.map (·.1)).Nodup->(d,o)∈ae->∃g:Obj->dy,UpdF d o ae g/\∀o',((g o').map (·.1))=ae.map (·.1)/\(∀p∈ae,p.1≠d->p∈g o')/\(d,o')∈g o'/\(∀p∈g o',p.1≠d->p∈ae):=by
 intro zz
 induction zz with
 |nil=>
  intro _ _ _ h
  exact bv h
 |cons x r ih=>
  intro d o nd h
  rw[List.map_cons,List.nodup_cons]at nd
  by_cases q:x.1=d
  ·have hx:x=(d,o):=by
    rcases de h with h|h
    ·exact h.symm
    ·exact absurd (q▸List.mem_map_of_mem (f:=(·.1)) h) nd.1
   clear q h;subst hx
   refine⟨fun o'=>(d,o')::r,.head fun p hp e=>nd.1 (e▸List.mem_map_of_mem (f:=(·.1)) hp),fun o'=>⟨rfl,fun p hp e=>?_,.head _,fun p hp e=>?_⟩⟩
   ·rcases de hp with rfl|hp
    ·exact absurd rfl e
    ·exact .tail _ hp
   ·rcases de hp with rfl|hp
    ·exact absurd rfl e
    ·exact .tail _ hp
  ·have h':(d,o)∈r:=by
    clear nd;rcases de h with h|h
    ·subst h;exact absurd rfl q
    ·exact h
   refine aA (ih nd.2 h') fun g a z=>?_
   refine⟨fun o'=>x::g o',.tail q a,fun o'=>?_⟩
   refine gU (z o') fun b c e f=>?_
   refine⟨by rw[List.map_cons,b];rfl,fun p hp z=>?_,.tail _ e,fun p hp z=>?_⟩
   ·clear a h' q h nd o;rcases de hp with rfl|hp
    ·exact .head _
    ·exact .tail _ (c p hp z)
   ·clear a h' q h nd o;rcases de hp with rfl|hp
    ·exact .head _
    ·exact .tail _ (f p hp z)
theorem St.upd{h':Heap}{eZ:Str->Option Value}(S:St G h₀ L mm H ae h){d:Addr}{o:AO}{ob kj:Obj}{o':AO}{am:dy}(hd:H d=some o)(hm:(d,ob)∈ae)(F:Fr h₀ L h' eZ)(N:News h₀ L h' am)
 (hk:(am.map (·.1))=ae.map (·.1)) (h1:∀p∈ae,p.1≠d->p∈am) (h2:(d,kj)∈am) (ho:OR G ae o' kj) (iQ:autoParam (o'.wM=true->o.wM=true) aH):
 St G h₀ L eZ (H.put d o') am h'/\aO H (H.put d o') ae am/\(∀a vs,(a,aK vs)∈ae->(a,aK vs)∈am):=by
 have sub:∀a vs,(a,aK vs)∈ae->(a,aK vs)∈am:=fun a vs hm=>h1 _ hm fun e=>by
  have:=S.iq hm
  dsimp only at e
  rw[e,hd]at this
  exact bg this
 refine⟨⟨F,N,hk▸S.nd,fun a x e=>?_,fun a x e i=>?_⟩,fun p hp e=>?_,sub⟩
 ·by_cases q:a=d
  ·clear iQ h1 hm hd ob o;subst q
   rw[al]at e
   cases e
   exact⟨kj,h2,ho.sub sub⟩
  ·rw[aj _ _ q]at e
   refine aA (S.hr a x e) fun b h3 h4=>?_
   exact⟨b,h1 _ h3 q,h4.sub sub⟩
 ·by_cases q:a=d
  ·clear sub ho h2 h1 hk N hm am kj ob;subst q
   rw[al]at e
   cases e
   exact S.lo a o hd (iQ i)
  ·rw[aj _ _ q]at e
   exact S.lo a x e i
 ·have q:p.1≠d:=fun z=>by rw[z,hd]at e;(exact bg e)
  exact⟨h1 p hp q,by rw[aj _ _ q];exact e⟩
theorem St.get(S:St G h₀ L mm H ae h){a:Addr}{o:AO}(e:H a=some o):∃ob,(a,ob)∈ae/\OR G ae o ob/\h.get? a=some ob:=
 let ⟨ob,h1,h2⟩:=S.hr a o e;⟨ob,h1,h2,(S.nw _ h1).1⟩
theorem WE.str{x:Str}{k:Nat}{pos:Pos}{Q:AQ}(h:Q (.str x) H):WE G D cs cl (.Constant (.str x) k pos) m H Q where
 go:=fun c h1 h2 ok mm ae s S lr Q' E k=>wpAny_Constant_str (k _ (.str x) H ae s.heap _ S aO.rfl ⟨_,rfl⟩ h)
theorem nO{x:Bool}{k:Nat}{pos:Pos}{Q:AQ}(h:Q (.bool x) H):WE G D cs cl (.Constant (.bool x) k pos) m H Q where
 go:=fun c h1 h2 ok mm ae s S lr Q' E k=>wpAny_Constant_bool (k _ (.bool x) H ae s.heap s.toks S aO.rfl rfl h)
theorem rF{k:Nat}{pos:Pos}{Q:AQ}(h:Q .none H):WE G D cs cl (.Constant .none k pos) m H Q where
 go:=fun c h1 h2 ok mm ae s S lr Q' E k=>wpAny_Constant_none (k _ .none H ae s.heap s.toks S aO.rfl rfl h)
theorem WE.list{es:List Expr}{pos:Pos}{Q:AQ}(h:kf G D cs cl es m H (OY Q))(hp:autoParam ((es.all cN)=true) aR)(hz:autoParam (es.length<=1000) aD):
 WE G D cs cl (.List es pos) m H Q where
 go:=fun c h1 h2 ok mm ae s S lr Q' E k=>by
  refine List_ (kf.go hp h c h1 h2 ok pos S lr _ E fun v a H' n' h' tk S1 K1 V1 len q=>?_)
  refine newList_K (s:={ s with heap:=h',toks:=tk }) S1.fr S1.nw (fun l jK F N lt=>?_) (by rw[len,sizeLine_eq];exact UC hz)
  refine bh (S1.eJ (o:=.list a) F N (gu lt) ⟨v,0,rfl,V1⟩) fun S2 K2=>?_
  exact k (.ref l) (.ref l) _ _ _ _ S2 (K1.trans K2) rfl (q l (S1.off (gu lt)))
noncomputable def cj(K:Frag)(C:Addr)(name:Str):Bool:=plainGet K C name&&hasDictIn K C&&(findIn K (.ref C) name==some none)
structure rB(G:Gl)(name:Str)(a:AV)(H':ah)(Q:AV->ah->Prop):Prop where
 go:∃x C dx as b,a=.ref x/\H' x=some (.inst C dx)/\H' dx=some (.attrs as)/\as.lookup name=some b/\b.ok=true/\cj G.K C name=true/\Q b H'
theorem rB.of{G:Gl}{name:Str}{x C dx:Addr}{as:List (Str×AV)}{b:AV}{H:ah}{Q:AQ}(h1:H x=some (.inst C dx))(h2:H dx=some (.attrs as))(h3:as.lookup name=some b)(h4:b.ok=true)(h5:cj G.K C name=true)(q:Q b H):rB G name (.ref x) H Q:=⟨x,C,dx,as,b,rfl,h1,h2,h3,h4,h5,q⟩
@[reducible] noncomputable def Vo(G:Gl)(name:Str)(Q:AV->ah->Prop):AV->ah->Prop:=fun a H=>rB G name a H Q
theorem dA{e:Expr}{name:Str}{pos:Pos}{Q:AQ}(h:WE G D cs cl e m H (Vo G name Q))
 (he:autoParam (∀env:Env,eval (.Attribute e name pos) env=(do
  let o←eval e env
  standAt pos.atName
  let r←holding [o] (getAttr o name true)
  letTemporaryGo e o r
  pure r)) aV):WE G D cs cl (.Attribute e name pos) m H Q where
 go:=fun c h1 h2 ok mm ae s S lr Q' E k=>by
  refine Attribute_any_ (h.go c h1 h2 ok mm ae s S lr _ E fun v a H' n' h' tk S1 K1 V1 q=>?_) (he _)
  obtain⟨x,C,dx,as,b,rfl,hx,hd,hl,hb,hi,q⟩:=q
  have:v=.ref x:=V1
  clear V1;subst this
  refine aN (S1.get hx) fun ox x1 x2 x3=>?_
  have:ox=instObj C dx:=x2
  clear x2 x1;subst this
  refine aN (S1.get hd) fun od d1 ak d3=>?_;refine bi (ak) fun es n cu d4=>?_;clear ak;(clear d1;subst cu)
  refine aA (d4.mn hl) fun v' e1 e2=>?_
  simp only[cj,Bool.and_eq_true,beq_iff_eq]at hi
  refine get_own (s:={ s with heap:=h',toks:=tk }) S1.fr ok.qL (es:=es) (n:=n) ⟨x3,rfl,rfl,d3⟩ hi.1.1 hi.1.2 hi.2 rfl e1 (qb hb e2) ?_
  exact k v' b H' n' h' _ S1 K1 e2 q
noncomputable def cv(K:Frag)(C:Addr)(name:Str)(f:Addr):Bool:=plainGet K C name&&(findIn K (.ref C) name==some (some (.ref f)))&&isFn K (.ref f)&&keepIn K (.ref f)
theorem nB{c:Cx}(ok:c.Ok G D){mm ae h}(S:St G c.h₀ c.L mm H ae h):G.K.In h:=ok.qL.keeps S.fr.keep
theorem ie{pos:Pos}{env:Env}:∀ {es:List Expr},(es.all cN)=true->(backTo pos (starEach es env)).any (·.1)=false:=by
 intro zz
 induction zz with
 |nil=>
  intro _
  exact rfl
 |cons e es ih=>
  intro h
  rw[List.all_cons,Bool.and_eq_true]at h
  rw[cC h.1]
  exact ih h.2
theorem mO{c:Cx}(h1:c.cs=cs)(h2:c.cl=cl)(ok:c.Ok G D){mm ae s}(S:St G c.h₀ c.L mm H ae s.heap)(lr:LR ae m mm){args:List Expr}{pos:Pos}{f:Addr}{first:List Value}{fs:List AV}{Q:AQ}(hp:(args.all cN)=true)
 (hk:keepIn G.K (.ref f)=true) (hf:dw ae fs first) (h:kf G D cs cl args m H fun as H'=>WC G D (.ref f) (fs++as) H' Q) (Q':Value->Shared->Prop) (E:Value->Shared->Prop)
 (k:∀v a H' am h' tk,St G c.h₀ c.L mm H' am h'->aO H H' ae am->VR am a v->Q a H'->Q' v { s with heap:=h',toks:=tk }):
 wpAny (model G.prog G.w) c.A (callWith pos (.ref f) first (backTo pos (starEach args c.env)) []) Q' E s:=by
 have app:∀ {n:dy} {xs ys:List AV} {vs ws:List Value},dw n xs vs->dw n ys ws->dw n (xs++ys) (vs++ws):=by
  intro n xs
  induction xs with
  |nil=>intro ys vs ws a b;rw[bC]at a;subst a;exact b
  |cons x xs ih=>
   intro ys vs ws a b
   rw[aW]at a
   refine aE (a) fun v r ak a1 a2=>?_;clear a;subst ak
   exact(aW ..).mpr ⟨v,r++ws,rfl,a1,ih a2 b⟩
 have fin:∀ (vs:List Value) (as:List AV) (H':ah) n' h' tk,St G c.h₀ c.L mm H' n' h'->aO H H' ae n'->dw n' as vs->WC G D (.ref f) (fs++as) H' Q->wpAny (model G.prog G.w) c.A (call (.ref f) (first++vs)) Q' E { s with heap:=h',toks:=tk }:=by
  intro vs as H' n' h' tk S1 K1 V1 w
  refine wpAny_call (w.go c ok mm n' _ S1 (first++vs) (app (S.SM K1 hf) V1) _ fun v a pr sg jK gg S2 K2 V2 q=>?_)
  exact k v a pr sg jK gg S2 (K1.trans K2) V2 q
 cases args with
 |nil=>exact callWith_K0 (nB ok S) hk (fin [] [] H ae s.heap s.toks S aO.rfl ((bC ..).mpr rfl) h)
 |cons e es=>
  refine callWith_K ok.qL hk (kf.go hp h c h1 h2 ok pos S lr _ E fun vs as H' n' h' tk S1 K1 V1 len w=>?_) (cC (by rw[List.all_cons,Bool.and_eq_true]at hp;exact hp.1)) (ie (by rw[List.all_cons,Bool.and_eq_true]at hp;exact hp.2))
  exact⟨nB ok S1,fin vs as H' n' h' tk S1 K1 V1 w⟩
theorem WE.cp{x:Str}{xp pos:Pos}{args:List Expr}{f:Addr}{Q:AQ}(hn:nsIn G.K mainGlobals x=some (some (.ref f)))(hk:keepIn G.K (.ref f)=true)
 (h:kf G D cs cl args m H (NU G D (.ref f) Q)) (hp:autoParam ((args.all cN)=true) aR) (hx:autoParam (cs.names.lookup x=some .globalImplicit) aR) (hd:autoParam ((x==("__debug__":Str))=false) aD):
 WE G D cs cl (.Call (.Name x xp) args [] pos) m H Q where
 go:=fun c h1 h2 ok mm ae s S lr Q' E k=>by
  refine Call_ ((WE.vF (a:=.ref f) hn (fun _=>rfl) (h:=(⟨rfl,rfl⟩:AV.ref f=AV.ref f/\H=H)) hx hd:WE G D cs cl (.Name x xp) m H fun a H'=>a=AV.ref f/\H'=H).go c h1 h2 ok mm ae s S lr _ E fun v a H' n' h' tk S1 K1 V1 q=>?_) (by rfl)
  refine bh (q) fun ak cu=>?_;clear q;subst ak;subst cu
  have:v=.ref f:=V1
  clear V1;subst this
  exact mO (s:={ s with heap:=h',toks:=tk }) h1 h2 ok S1 (LR.keep S K1 lr) (fs:=[]) hp hk ((bC ..).mpr rfl) h _ _ fun v a pr sg jK gg S2 K2 V2 q=>k v a pr sg jK gg S2 (K1.trans K2) V2 q
structure NR(G:Gl)(D:Nat)(cs:Scope)(cl:List (Str×Addr))(m:bP)(name:Str)(args:List Expr)(a:AV)(H1:ah)(Q:AV->ah->Prop):Prop where
 go:∃x C dx as f,a=.ref x/\H1 x=some (.inst C dx)/\H1 dx=some (.attrs as)/\as.lookup name=none/\cv G.K C name f=true/\kf G D cs cl args m H1 (Fn (.ref x) (NU G D (.ref f) Q))
theorem NR.of{name:Str}{args:List Expr}{x C dx f:Addr}{as:List (Str×AV)}{Q:AQ}(h1:H x=some (.inst C dx))(h2:H dx=some (.attrs as))(h3:as.lookup name=none)(h4:cv G.K C name f=true)(q:kf G D cs cl args m H (Fn (.ref x) (NU G D (.ref f) Q))):NR G D cs cl m name args (.ref x) H Q:=⟨x,C,dx,as,f,rfl,h1,h2,h3,h4,q⟩
@[reducible] noncomputable def Vm(G:Gl)(D:Nat)(cs:Scope)(cl:List (Str×Addr))(m:bP)(name:Str)(args:List Expr)(Q:AV->ah->Prop):AV->ah->Prop:=fun a H=>NR G D cs cl m name args a H Q
theorem qm{o:Expr}{name:Str}{apos pos:Pos}{args:List Expr}{Q:AQ}
 (h:WE G D cs cl o m H (Vm G D cs cl m name args Q))
 (hp:autoParam ((args.all cN)=true) aR) {pl:Env->Sem Bool}
 (he:autoParam (∀env:Env,eval (.Call (.Attribute o name apos) args [] pos) env=(do
  let ov←eval o env
  standAt apos.atName
  let (f,first)←holding [ov] (getMethod ov name (pl env))
  callWith pos f first (backTo pos (starEach args env)) [])) aI):
 WE G D cs cl (.Call (.Attribute o name apos) args [] pos) m H Q where
 go:=fun c h1 h2 ok mm ae s S lr Q' E k=>by
  refine MethodCall_ (h.go c h1 h2 ok mm ae s S lr _ E fun v a H' n' h' tk S1 K1 V1 q=>?_) (he _)
  obtain⟨x,C,dx,as,f,rfl,hx,hd,hl,hm,q⟩:=q
  have:v=.ref x:=V1
  clear V1;subst this
  refine aN (S1.get hx) fun ox x1 x2 x3=>?_
  have:ox=instObj C dx:=x2
  clear x2 x1;subst this
  refine aN (S1.get hd) fun od d1 ak d3=>?_;refine bi (ak) fun es n cu d4=>?_;clear ak;(clear d1;subst cu)
  simp only[cv,Bool.and_eq_true,beq_iff_eq]at hm
  refine method_inst (s:={ s with heap:=h',toks:=tk }) S1.fr ok.qL (es:=es) (n:=n) ⟨x3,rfl,rfl,d3⟩ hm.1.1.1 hm.1.1.2 hm.1.2 (d4.qc hl) ?_
  exact mO (s:={ s with heap:=h',toks:=tk }) h1 h2 ok S1 (LR.keep S K1 lr) (fs:=[.ref x]) hp hm.2 ((aW ..).mpr ⟨_,[],rfl,rfl,(bC ..).mpr rfl⟩) q _ _ fun v a pr sg jK gg S2 K2 V2 q=>k v a pr sg jK gg S2 (K1.trans K2) V2 q
structure tu(G:Gl)(D:Nat)(a:AV)(H:ah)(Q:Bool->ah->Prop):Prop where
 go:∀c:Cx,c.Ok G D->∀mm ae s,St G c.h₀ c.L mm H ae s.heap->∀v,VR ae a v->∀ (Q':Bool->Shared->Prop) E,
  (∀b H' am h' tk,St G c.h₀ c.L mm H' am h'->aO H H' ae am->Q b H'->Q' b { s with heap:=h',toks:=tk })->
  wpAny (model G.prog G.w) c.A (truthy v) Q' E s
structure cS(G:Gl)(D:Nat)(op:CmpOp)(a b:AV)(H:ah)(Q:Bool->ah->Prop):Prop where
 go:∀c:Cx,c.Ok G D->∀mm ae s,St G c.h₀ c.L mm H ae s.heap->∀va vb,VR ae a va->VR ae b vb->∀ (Q':Value->Shared->Prop) E,
  (∀b H' am h' tk,St G c.h₀ c.L mm H' am h'->aO H H' ae am->Q b H'->Q' (.bool b) { s with heap:=h',toks:=tk })->
  wpAny (model G.prog G.w) c.A (compareOp op va vb) Q' E s
structure np(G:Gl)(D:Nat)(op:Operator)(Qb:Bool)(a b:AV)(H:ah)(Q:AV->ah->Prop):Prop where
 go:∀c:Cx,c.Ok G D->∀mm ae s,St G c.h₀ c.L mm H ae s.heap->∀va vb,VR ae a va->VR ae b vb->∀ (Q':Value->Shared->Prop) E,
  (∀v x H' am h' tk,St G c.h₀ c.L mm H' am h'->aO H H' ae am->VR am x v->Q x H'->Q' v { s with heap:=h',toks:=tk })->
  wpAny (model G.prog G.w) c.A (if Qb then inplaceOp op va vb else binaryOp op va vb) Q' E s
theorem tu.bool{b:Bool}{Q:Bool->ah->Prop}(h:Q b H):tu G D (.bool b) H Q where
 go:=fun c ok mm ae s S v hv Q' E k=>by
  rw[show v=.bool b from hv]
  exact wpAny_truthy_bool (k b H ae s.heap s.toks S aO.rfl h)
theorem tu.int{i:Int}{Q:Bool->ah->Prop}(h:Q (i !=0) H):tu G D (.int i) H Q where
 go:=fun c ok mm ae s S v hv Q' E k=>by
  refine aY (hv) fun t ak=>?_;clear hv;subst ak
  exact PyProof.Rows.truthy_int (k _ H ae s.heap s.toks S aO.rfl h)
variable{a b:Int}{Q:Bool->ah->Prop}
theorem tH(h:Q (a==b) H):cS G D .Eq (.int a) (.int b) H Q where
 go:=fun c ok mm ae s S va vb ha hb Q' E k=>by
  (refine aY (ha) fun t ak=>?_;clear ha;subst ak);(refine aY (hb) fun u ak=>?_;clear hb;subst ak)
  exact PyProof.Rows.eq_int (k _ H ae s.heap s.toks S aO.rfl h)
theorem Cq(h:Q (a !=b) H):cS G D .NotEq (.int a) (.int b) H Q where
 go:=fun c ok mm ae s S va vb ha hb Q' E k=>by
  (refine aY (ha) fun t ak=>?_;clear ha;subst ak);(refine aY (hb) fun u ak=>?_;clear hb;subst ak)
  exact PyProof.Rows.ne_int (k _ H ae s.heap s.toks S aO.rfl h)
theorem xB(h:Q (decide (a<b)) H):cS G D .Lt (.int a) (.int b) H Q where
 go:=fun c ok mm ae s S va vb ha hb Q' E k=>by
  (refine aY (ha) fun t ak=>?_;clear ha;subst ak);(refine aY (hb) fun u ak=>?_;clear hb;subst ak)
  exact PyProof.Rows.lt_int (k _ H ae s.heap s.toks S aO.rfl h)
theorem xG(h:Q (decide (b<a)) H):cS G D .Gt (.int a) (.int b) H Q where
 go:=fun c ok mm ae s S va vb ha hb Q' E k=>by
  (refine aY (ha) fun t ak=>?_;clear ha;subst ak);(refine aY (hb) fun u ak=>?_;clear hb;subst ak)
  exact PyProof.Rows.gt_int (k _ H ae s.heap s.toks S aO.rfl h)
theorem tE(h:Q (decide (b<=a)) H):cS G D .GtE (.int a) (.int b) H Q where
 go:=fun c ok mm ae s S va vb ha hb Q' E k=>by
  (refine aY (ha) fun t ak=>?_;clear ha;subst ak);(refine aY (hb) fun u ak=>?_;clear hb;subst ak)
  exact PyProof.Rows.ge_int (k _ H ae s.heap s.toks S aO.rfl h)
theorem eW{a b:Str}(h:Q (a==b) H):cS G D .Eq (.str a) (.str b) H Q where
 go:=fun c ok mm ae s S va vb ha hb Q' E k=>by
  (refine aY (ha) fun t ak=>?_;clear ha;subst ak);(refine aY (hb) fun u ak=>?_;clear hb;subst ak)
  exact PyProof.Rows.eq_str (k _ H ae s.heap s.toks S aO.rfl h)
theorem fJ{a b:Str}{x:Bool}(e:(a==b)=x)(h:Q x H):cS G D .Eq (.str a) (.str b) H Q:=eW (by rw[e];exact h)
theorem pK{a b:Int}{x:Bool}(e:(a==b)=x)(h:Q x H):cS G D .Eq (.int a) (.int b) H Q:=tH (by rw[e];exact h)
theorem Ch{a b:Int}{x:Bool}(e:decide (b<a)=x)(h:Q x H):cS G D .Gt (.int a) (.int b) H Q:=xG (by rw[e];exact h)
theorem ql{a b:Int}{x:Bool}(e:decide (b<=a)=x)(h:Q x H):cS G D .GtE (.int a) (.int b) H Q:=tE (by rw[e];exact h)
theorem DZ{a b:Int}{x:Bool}(e:decide (a<b)=x)(h:Q x H):cS G D .Lt (.int a) (.int b) H Q:=xB (by rw[e];exact h)
variable{Q:AQ}
theorem np.add(h:Q (.int (a+b)) H):np G D .Add false (.int a) (.int b) H Q where
 go:=fun c ok mm ae s S va vb ha hb Q' E k=>by
  (refine aY (ha) fun t ak=>?_;clear ha;subst ak);(refine aY (hb) fun u ak=>?_;clear hb;subst ak)
  exact PyProof.Rows.add_int (k _ _ H ae s.heap _ S aO.rfl (by exact⟨_,rfl⟩) h)
theorem np.sub(h:Q (.int (a-b)) H):np G D .Sub false (.int a) (.int b) H Q where
 go:=fun c ok mm ae s S va vb ha hb Q' E k=>by
  (refine aY (ha) fun t ak=>?_;clear ha;subst ak);(refine aY (hb) fun u ak=>?_;clear hb;subst ak)
  exact PyProof.Rows.sub_int (k _ _ H ae s.heap _ S aO.rfl (by exact⟨_,rfl⟩) h)
theorem xA(hb:b≠0)(h:Q (.int (a.fmod b)) H):np G D .Mod false (.int a) (.int b) H Q where
 go:=fun c ok mm ae s S va vb ha J3 Q' E k=>by
  (refine aY (ha) fun t ak=>?_;clear ha;subst ak);(refine aY (J3) fun u ak=>?_;clear J3;subst ak)
  exact PyProof.Rows.mod_int hb (k _ _ H ae s.heap _ S aO.rfl (by exact⟨_,rfl⟩) h)
theorem Gf(h:Q (.int (a+b)) H):np G D .Add true (.int a) (.int b) H Q where
 go:=fun c ok mm ae s S va vb ha hb Q' E k=>by
  (refine aY (ha) fun t ak=>?_;clear ha;subst ak);(refine aY (hb) fun u ak=>?_;clear hb;subst ak)
  exact PyProof.Rows.iadd_int (k _ _ H ae s.heap _ S aO.rfl (by exact⟨_,rfl⟩) h)
theorem GS(h:Q (.int (a-b)) H):np G D .Sub true (.int a) (.int b) H Q where
 go:=fun c ok mm ae s S va vb ha hb Q' E k=>by
  (refine aY (ha) fun t ak=>?_;clear ha;subst ak);(refine aY (hb) fun u ak=>?_;clear hb;subst ak)
  exact PyProof.Rows.isub_int (k _ _ H ae s.heap _ S aO.rfl (by exact⟨_,rfl⟩) h)
@[reducible] noncomputable def SS(G:Gl)(D:Nat)(op:Operator)(i:Bool)(a:AV)(Q:AV->ah->Prop):AV->ah->Prop:=fun b H=>np G D op i a b H Q
@[reducible] noncomputable def Vr(G:Gl)(D:Nat)(cs:Scope)(cl:List (Str×Addr))(r:Expr)(m:bP)(op:Operator)(Q:AV->ah->Prop):AV->ah->Prop:=fun a H=>WE G D cs cl r m H (SS G D op false a Q)
@[reducible] noncomputable def Vp(G:Gl)(D:Nat)(op:CmpOp)(a:AV)(Q:Bool->ah->Prop):AV->ah->Prop:=fun b H=>cS G D op a b H Q
@[reducible] noncomputable def SV(G:Gl)(D:Nat)(cs:Scope)(cl:List (Str×Addr))(r:Expr)(m:bP)(op:CmpOp)(Q:Bool->ah->Prop):AV->ah->Prop:=fun a H=>WE G D cs cl r m H (Vp G D op a Q)
@[reducible] noncomputable def Vn(Q:AV->ah->Prop):Bool->ah->Prop:=fun x H=>Q (.bool x) H
@[reducible] noncomputable def Vc(G:Gl)(D:Nat)(Q:Bool->ah->Prop):AV->ah->Prop:=fun a H=>tu G D a H Q
@[reducible] noncomputable def OX(Q:Bool->ah->Prop):Bool->ah->Prop
 |true,H=>Q false H
 |false,H=>Q true H
@[reducible] noncomputable def O0(W:ah->(Bool->ah->Prop)->Prop)(Q:Bool->ah->Prop):Bool->ah->Prop
 |true,H=>W H Q
 |false,H=>Q false H
@[reducible] noncomputable def Vg(W:ah->(Bool->ah->Prop)->Prop)(Q:Bool->ah->Prop):Bool->ah->Prop
 |false,H=>W H Q
 |true,H=>Q true H
@[reducible] noncomputable def Vj(G:Gl)(D:Nat)(cs:Scope)(cl:List (Str×Addr))(a b:Expr)(m:bP)(Q:AV->ah->Prop):Bool->ah->Prop
 |true,H=>WE G D cs cl a m H Q
 |false,H=>WE G D cs cl b m H Q
@[reducible] noncomputable def OZ(G:Gl)(D:Nat)(cs:Scope)(cl:List (Str×Addr))(a b:List Stmt)(m:bP)(Q:Fl->bP->ah->Prop):Bool->ah->Prop
 |true,H=>WS G D cs cl a m H Q
 |false,H=>WS G D cs cl b m H Q
@[reducible] noncomputable def Vh(m:bP)(Q:Fl->bP->ah->Prop):ah->Prop:=fun H=>Q .next m H
@[reducible] noncomputable def Vk(m:bP)(Q:Fl->bP->ah->Prop):AV->ah->Prop:=fun _ H=>Q .next m H
@[reducible] noncomputable def Vf(m:bP)(Q:Fl->bP->ah->Prop):AV->ah->Prop:=fun a H=>Q (.ret a) m H
@[reducible] noncomputable def SR(x:Str)(m:bP)(Q:Fl->bP->ah->Prop):AV->ah->Prop:=fun a H=>Q .next ((x,a)::m) H
theorem iU{l r:Expr}{op:Operator}{pos:Pos}{Q:AQ}(h:WE G D cs cl l m H (Vr G D cs cl r m op Q)):WE G D cs cl (.BinOp l op r pos) m H Q where
 go:=fun c h1 h2 ok mm ae s S lr Q' E k=>by
  refine wpAny_BinOp (h.go c h1 h2 ok mm ae s S lr _ E fun va a H1 n1 cP tk S1 K1 V1 w=>?_)
  refine w.go c h1 h2 ok mm n1 _ S1 (LR.keep S K1 lr) _ E fun vb b H2 n2 gw gI S2 K2 V2 w2=>?_
  exact w2.go c ok mm n2 _ S2 va vb (S1.vr K2 V1) V2 _ E fun v x H3 n3 h3 pA S3 K3 V3 q=>k v x H3 n3 h3 pA S3 ((K1.trans K2).trans K3) V3 q
theorem WE.neg{e:Expr}{pos:Pos}{Q:AQ}(h:WE G D cs cl e m H fun a H1=>∃i,a=.int i/\Q (.int (-i)) H1):WE G D cs cl (.UnaryOp .USub e pos) m H Q where
 go:=fun c h1 h2 ok mm ae s S lr Q' E k=>by
  refine PySem.wpAny_UnaryOp (h.go c h1 h2 ok mm ae s S lr _ E fun va a H1 n1 cP tk S1 K1 V1 w=>?_)
  refine aA (w) ?_;clear w;intro i ak w;subst ak
  refine aY (V1) fun t ak=>?_;clear V1;subst ak
  exact PyProof.Rows.neg_int (k _ (.int (-i)) H1 n1 cP _ S1 K1 (by exact⟨_,rfl⟩) w)
theorem WE.cmp{l r:Expr}{op:CmpOp}{pos:Pos}{Q:AQ}(h:WE G D cs cl l m H (SV G D cs cl r m op (Vn Q)))
 (hm:autoParam (behindInMarks op r=false) aU):WE G D cs cl (.Compare l [op] [r] pos) m H Q where
 go:=fun c h1 h2 ok mm ae s S lr Q' E k=>by
  refine wpAny_Compare1 (h.go c h1 h2 ok mm ae s S lr _ E fun va a H1 n1 cP tk S1 K1 V1 w=>?_) hm
  refine w.go c h1 h2 ok mm n1 _ S1 (LR.keep S K1 lr) _ E fun vb b H2 n2 gw gI S2 K2 V2 w2=>?_
  exact w2.go c ok mm n2 _ S2 va vb (S1.vr K2 V1) V2 _ E fun x H3 n3 h3 pA S3 K3 q=>k _ (.bool x) H3 n3 h3 pA S3 ((K1.trans K2).trans K3) rfl q
theorem WT.cmp{l r:Expr}{op:CmpOp}{pos:Pos}{Q:Bool->ah->Prop}(h:WE G D cs cl l m H (SV G D cs cl r m op Q))
 (hm:autoParam (behindInMarks op r=false) aU):WT G D cs cl (.Compare l [op] [r] pos) m H Q where
 go:=fun c h1 h2 ok mm ae s S lr Q' E k=>by
  refine wpAny_isTrue_Compare1 (h.go c h1 h2 ok mm ae s S lr _ E fun va a H1 n1 cP tk S1 K1 V1 w=>?_) hm
  refine w.go c h1 h2 ok mm n1 _ S1 (LR.keep S K1 lr) _ E fun vb b H2 n2 gw gI S2 K2 V2 w2=>?_
  exact w2.go c ok mm n2 _ S2 va vb (S1.vr K2 V1) V2 _ E fun x H3 n3 h3 pA S3 K3 q=>wpAny_truthy_bool (k x H3 n3 h3 pA S3 ((K1.trans K2).trans K3) q)
theorem WT.val{e:Expr}{Q:Bool->ah->Prop}(h:WE G D cs cl e m H (Vc G D Q))
 (he:autoParam (∀ (env:Env) (whole:Sem Value),isTrue e env whole=(do let v←whole;standAt e.pos;holding [v] (truthy v))) aS):WT G D cs cl e m H Q where
 go:=fun c h1 h2 ok mm ae s S lr Q' E k=>by
  refine wpAny_isTrue_value (h.go c h1 h2 ok mm ae s S lr _ E fun va a H1 n1 cP tk S1 K1 V1 w=>?_) (he _ _)
  exact w.go c ok mm n1 _ S1 va V1 _ E fun b H3 n3 h3 pA S3 K3 q=>k b H3 n3 h3 pA S3 (K1.trans K3) q
theorem Gp{e:Expr}{pos:Pos}{Q:Bool->ah->Prop}(h:WT G D cs cl e m H (OX Q)):WT G D cs cl (.UnaryOp .Not e pos) m H Q where
 go:=fun c h1 h2 ok mm ae s S lr Q' E k=>wpAny_isTrue_Not (h.go c h1 h2 ok mm ae s S lr _ E fun b H1 n1 cP tk S1 K1 w=>k _ H1 n1 cP tk S1 K1 (by cases b<;>exact w))
@[reducible] noncomputable def Av(G:Gl)(D:Nat)(cs:Scope)(cl:List (Str×Addr)):List Expr->bP->ah->(Bool->ah->Prop)->Prop
 |[],_,H,Q=>Q true H
 |e::es,m,H,Q=>WT G D cs cl e m H (O0 (Av G D cs cl es m) Q)
@[reducible] noncomputable def NH(G:Gl)(D:Nat)(cs:Scope)(cl:List (Str×Addr)):List Expr->bP->ah->(Bool->ah->Prop)->Prop
 |[],_,H,Q=>Q false H
 |e::es,m,H,Q=>WT G D cs cl e m H (Vg (NH G D cs cl es m) Q)
theorem Av.go{c:Cx}(h1:c.cs=cs)(h2:c.cl=cl)(ok:c.Ok G D){mm:Str->Option Value}:∀ {es:List Expr} {H:ah} {Q:Bool->ah->Prop},Av G D cs cl es m H Q->∀ {ae s},St G c.h₀ c.L mm H ae s.heap->LR ae m mm->∀ (Q':Bool->Shared->Prop) E,
 (∀b H' am h' tk,St G c.h₀ c.L mm H' am h'->aO H H' ae am->Q b H'->Q' b { s with heap:=h',toks:=tk })->wpAny (model G.prog G.w) c.A (allTrue .And es c.env) Q' E s:=by
 intro zz
 induction zz with
 |nil=>
  intro H Q w ae s S lr Q' E k
  exact wpAny_allTrue_And_nil (k true H ae s.heap s.toks S aO.rfl w)
 |cons e es ih=>
  intro H Q w ae s S lr Q' E k
  refine wpAny_allTrue_And_cons (WT.go w c h1 h2 ok mm ae s S lr _ E fun b H1 n1 cP tk S1 K1 w1=>?_)
  cases b with
  |false=>exact k false H1 n1 cP tk S1 K1 w1
  |true=>exact ih (s:={ s with heap:=cP,toks:=tk }) w1 S1 (LR.keep S K1 lr) _ E fun b H2 n2 gw gI S2 K2 q=>k b H2 n2 gw gI S2 (K1.trans K2) q
theorem NH.go{c:Cx}(h1:c.cs=cs)(h2:c.cl=cl)(ok:c.Ok G D){mm:Str->Option Value}:∀ {es:List Expr} {H:ah} {Q:Bool->ah->Prop},NH G D cs cl es m H Q->∀ {ae s},St G c.h₀ c.L mm H ae s.heap->LR ae m mm->∀ (Q':Bool->Shared->Prop) E,
 (∀b H' am h' tk,St G c.h₀ c.L mm H' am h'->aO H H' ae am->Q b H'->Q' b { s with heap:=h',toks:=tk })->wpAny (model G.prog G.w) c.A (allTrue .Or es c.env) Q' E s:=by
 intro zz
 induction zz with
 |nil=>
  intro H Q w ae s S lr Q' E k
  exact wpAny_allTrue_Or_nil (k false H ae s.heap s.toks S aO.rfl w)
 |cons e es ih=>
  intro H Q w ae s S lr Q' E k
  refine wpAny_allTrue_Or_cons (WT.go w c h1 h2 ok mm ae s S lr _ E fun b H1 n1 cP tk S1 K1 w1=>?_)
  cases b with
  |true=>exact k true H1 n1 cP tk S1 K1 w1
  |false=>exact ih (s:={ s with heap:=cP,toks:=tk }) w1 S1 (LR.keep S K1 lr) _ E fun b H2 n2 gw gI S2 K2 q=>k b H2 n2 gw gI S2 (K1.trans K2) q
theorem my{es:List Expr}{pos:Pos}{Q:Bool->ah->Prop}(h:Av G D cs cl es m H Q):WT G D cs cl (.BoolOp .And es pos) m H Q where
 go:=fun c h1 h2 ok mm ae s S lr Q' E k=>wpAny_isTrue_BoolOp (Av.go h1 h2 ok h S lr Q' E k)
theorem WT.or{es:List Expr}{pos:Pos}{Q:Bool->ah->Prop}(h:NH G D cs cl es m H Q):WT G D cs cl (.BoolOp .Or es pos) m H Q where
 go:=fun c h1 h2 ok mm ae s S lr Q' E k=>wpAny_isTrue_BoolOp (NH.go h1 h2 ok h S lr Q' E k)
theorem lJ{t a b:Expr}{pos:Pos}{Q:AQ}(h:WT G D cs cl t m H (Vj G D cs cl a b m Q)):WE G D cs cl (.IfExp t a b pos) m H Q where
 go:=fun c h1 h2 ok mm ae s S lr Q' E k=>by
  refine PySem.wpAny_IfExp (h.go c h1 h2 ok mm ae s S lr _ E fun x H1 n1 cP tk S1 K1 w=>?_)
  cases x with
  |true=>exact w.go c h1 h2 ok mm n1 _ S1 (LR.keep S K1 lr) _ E fun v a H2 n2 gw gI S2 K2 V2 q=>k v a H2 n2 gw gI S2 (K1.trans K2) V2 q
  |false=>exact w.go c h1 h2 ok mm n1 _ S1 (LR.keep S K1 lr) _ E fun v a H2 n2 gw gI S2 K2 V2 q=>k v a H2 n2 gw gI S2 (K1.trans K2) V2 q
@[reducible] noncomputable def OS(G:Gl)(D:Nat)(cs:Scope)(cl:List (Str×Addr))(au:List Stmt)(Q:Fl->bP->ah->Prop):Fl->bP->ah->Prop
 |.next,m,H=>WS G D cs cl au m H Q
 |.brk,m,H=>Q .brk m H
 |.cont,m,H=>Q .cont m H
 |.ret a,m,H=>Q (.ret a) m H
theorem WS.nil{Q:Fl->bP->ah->Prop}(h:Q .next m H):WS G D cs cl [] m H Q where
 go:=fun c h1 h2 ok mm ae s S lr Q' E k=>wpAny_execs_nil (k .next .next m mm H ae s.heap s.toks S lr aO.rfl rfl h)
theorem WS.cons{st:Stmt}{au:List Stmt}{Q:Fl->bP->ah->Prop}(h:W1 G D cs cl st m H (OS G D cs cl au Q)):WS G D cs cl (st::au) m H Q where
 go:=fun c h1 h2 ok mm ae s S lr Q' E k=>by
  refine wpAny_execs_cons (h.go c h1 h2 ok mm ae s S lr _ E fun f fl m' eZ H' n' h' tk S1 wG K1 F1 w=>?_)
  cases fl with
  |next=>
   rw[show f=.next from F1]
   exact WS.go w c h1 h2 ok eZ n' _ S1 wG _ E fun f fl m2 Eo H2 n2 h2 gI S2 CL K2 F2 q=>k f fl m2 Eo H2 n2 h2 gI S2 CL (K1.trans K2) F2 q
  |brk=>rw[show f=.brk from F1];exact k .brk .brk m' eZ H' n' h' tk S1 wG K1 rfl w
  |cont=>rw[show f=.cont from F1];exact k .cont .cont m' eZ H' n' h' tk S1 wG K1 rfl w
  |ret a=>
   refine aA (F1) fun v ak hv=>?_;clear F1;subst ak
   exact k (.ret v) (.ret a) m' eZ H' n' h' tk S1 wG K1 ⟨v,rfl,hv⟩ w
theorem nf{c:Cx}(ok:c.Ok G D):interactive c.env=false:=by
 unfold interactive
 rw[show c.env.scope.kind=ScopeKind.function from ok.kind]
 rfl
theorem W1.expr{e:Expr}{pos:Pos}{Q:Fl->bP->ah->Prop}(h:WE G D cs cl e m H (Vk m Q))
 (hs:autoParam (∀env:Env,swapsWith e none pos.line env=pure false) aI):W1 G D cs cl (.Expr e pos) m H Q where
 go:=fun c h1 h2 ok mm ae s S lr Q' E k=>by
  refine wpAny_Expr_any (h.go c h1 h2 ok mm ae s S lr _ E fun v a H1 n1 h' tk S1 K1 V1 w=>?_) (nf ok) (hs _)
  exact k .next .next m mm H1 n1 h' tk S1 (LR.keep S K1 lr) K1 rfl w
theorem W1.ret{e:Expr}{pos:Pos}{Q:Fl->bP->ah->Prop}(h:WE G D cs cl e m H (Vf m Q)):W1 G D cs cl (.Return (some e) pos) m H Q where
 go:=fun c h1 h2 ok mm ae s S lr Q' E k=>by
  refine wpAny_Return_some (h.go c h1 h2 ok mm ae s S lr _ E fun v a H1 n1 h' tk S1 K1 V1 w=>?_)
  exact k (.ret v) (.ret a) m mm H1 n1 h' tk S1 (LR.keep S K1 lr) K1 ⟨v,rfl,V1⟩ w
theorem xH{pos:Pos}{Q:Fl->bP->ah->Prop}(h:Q (.ret .none) m H):W1 G D cs cl (.Return none pos) m H Q where
 go:=fun c h1 h2 ok mm ae s S lr Q' E k=>wpAny_Return_none (k (.ret .none) (.ret .none) m mm H ae s.heap s.toks S lr aO.rfl ⟨_,rfl,rfl⟩ h)
theorem W1.cont{pos:Pos}{Q:Fl->bP->ah->Prop}(h:Q .cont m H):W1 G D cs cl (.Continue pos) m H Q where
 go:=fun c h1 h2 ok mm ae s S lr Q' E k=>PySem.wpAny_Continue (k .cont .cont m mm H ae s.heap s.toks S lr aO.rfl rfl h)
theorem DN{pos:Pos}{Q:Fl->bP->ah->Prop}(h:Q .next m H):W1 G D cs cl (.Pass pos) m H Q where
 go:=fun c h1 h2 ok mm ae s S lr Q' E k=>wpAny_Pass (k .next .next m mm H ae s.heap s.toks S lr aO.rfl rfl h)
theorem cT{t:Expr}{a b:List Stmt}{pos:Pos}{Q:Fl->bP->ah->Prop}(h:WT G D cs cl t m H (OZ G D cs cl a b m Q)):W1 G D cs cl (.If t a b pos) m H Q where
 go:=fun c h1 h2 ok mm ae s S lr Q' E k=>by
  refine wpAny_If (h.go c h1 h2 ok mm ae s S lr _ E fun x H1 n1 cP tk S1 K1 w=>?_)
  cases x with
  |true=>exact w.go c h1 h2 ok mm n1 _ S1 (LR.keep S K1 lr) _ E fun f fl m2 Eo H2 n2 h2 gI S2 CL K2 F2 q=>k f fl m2 Eo H2 n2 h2 gI S2 CL (K1.trans K2) F2 q
  |false=>exact w.go c h1 h2 ok mm n1 _ S1 (LR.keep S K1 lr) _ E fun f fl m2 Eo H2 n2 h2 gI S2 CL K2 F2 q=>k f fl m2 Eo H2 n2 h2 gI S2 CL (K1.trans K2) F2 q
theorem St.store{h₀ L mm ae h h' eZ}(S:St G h₀ L mm H ae h)(F:Fr h₀ L h' eZ)(N:News h₀ L h' ae):St G h₀ L eZ H ae h':=⟨F,N,S.nd,S.hr,S.lo⟩
theorem LR.put{ae:dy}{m:bP}{mm:Str->Option Value}(lr:LR ae m mm){x:Str}{a:AV}{v:Value}(h:VR ae a v):LR ae ((x,a)::m) (fun y=>if y=x then some v else mm y):=by
 intro y b e
 rw[List.lookup_cons]at e
 by_cases q:y=x
 ·subst q
  simp only[beq_self_eq_true]at e
  cases e
  exact⟨v,by exact if_pos rfl,h⟩
 ·have q1:(y==x)=false:=by simpa using q
  simp only[q1]at e
  refine aA (lr y b e) fun w e1 e2=>?_
  exact⟨w,by simp[q,e1],e2⟩
theorem W1.assign{x:Str}{xp:Pos}{e:Expr}{pos:Pos}{Q:Fl->bP->ah->Prop}(h:WE G D cs cl e m H (SR x m Q))
 (hx:autoParam (cs.names.lookup x=some .local) aR) (hs:autoParam (∀env:Env,swapsWith e (some (.Name x xp)) pos.line env=pure false) aI):W1 G D cs cl (.Assign [.Name x xp] e pos) m H Q where
 go:=fun c h1 h2 ok mm ae s S lr Q' E k=>by
  subst h1
  refine wpAny_Assign_Name (h.go c rfl h2 ok mm ae s S lr _ E fun v a H1 n1 h' tk S1 K1 V1 w=>?_) (hs _)
  refine storeX_L (s:={ s with heap:=h',toks:=tk }) S1.fr S1.nw (fun jK F N=>?_) ok.kind hx
  exact k .next .next _ _ H1 n1 jK _ (S1.store F N) ((LR.keep S K1 lr).put V1) K1 rfl w
theorem FK{x:Str}{xp:Pos}{e:Expr}{op:Operator}{a:AV}{pos:Pos}{Q:Fl->bP->ah->Prop}(hv:m.lookup x=some a)(h:WE G D cs cl e m H (SS G D op true a (SR x m Q)))
 (hx:autoParam (cs.names.lookup x=some .local) aR):W1 G D cs cl (.AugAssign (.Name x xp) op e pos) m H Q where
 go:=fun c h1 h2 ok mm ae s S lr Q' E k=>by
  subst h1
  refine aA (lr x a hv) fun v0 e1 e2=>?_
  refine wpAny_AugAssign_Name (wpAny_loadName_local ok.kind hx S.fr.ns e1 ?_)
  refine h.go c rfl h2 ok mm ae s S lr _ E fun v b H1 n1 h' tk S1 K1 V1 w=>?_
  refine w.go c ok mm n1 _ S1 v0 v (S.vr K1 e2) V1 _ E fun r x' H2 n2 gw gI S2 K2 V2 q=>?_
  refine storeX_L (s:={ s with heap:=gw,toks:=gI }) S2.fr S2.nw (fun jK F N=>?_) ok.kind hx
  exact k .next .next _ _ H2 n2 jK _ (S2.store F N) ((LR.keep S (K1.trans K2) lr).put V2) (K1.trans K2) rfl q
noncomputable def cJ(K:Frag)(C:Addr)(name:Str):Bool:=(findIn K (.ref C) "__setattr__"==some (some (.builtin "object.__setattr__")))&&plainOver K C&&(takerIn K C name==some none)&&hasDictIn K C
theorem rx.sL{ae:dy}{name:Str}{as:List (Str×AV)}{l:List DictEntry}(h:rx ae as l):(getL name l).isSome=true:=by
 cases e:as.lookup name with
 |none=>rw[h.qc e];rfl
 |some a=>(refine aA (h.mn e) fun v e1 _=>?_);rw[e1];rfl
theorem oe{c:Cx}(ok:c.Ok G D){mm ae s}(S:St G c.h₀ c.L mm H ae s.heap){x C dx:Addr}{as:List (Str×AV)}{name:Str}{a:AV}{v:Value}(hx:H x=some (.inst C dx))(hd:H dx=some (.attrs as))(hs:cJ G.K C name=true)(hv:VR ae a v)
 (hz:as.length<=900) (Q':Unit->Shared->Prop) (E:Value->Shared->Prop)
 (k:∀am h' tk,St G c.h₀ c.L mm (H.put dx (.attrs (kJ name a as))) am h'->aO H (H.put dx (.attrs (kJ name a as))) ae am->Q' () { s with heap:=h',toks:=tk }):
 wpAny (model G.prog G.w) c.A (setAttr (.ref x) name v) Q' E s:=by
 refine aN (S.get hx) fun ox x1 x2 x3=>?_
 have:ox=instObj C dx:=x2
 clear x2 x1;subst this
 refine aN (S.get hd) fun od d1 ak d3=>?_;refine bi (ak) fun es n cu d4=>?_;clear ak;subst cu
 simp only[cJ,Bool.and_eq_true,beq_iff_eq]at hs
 have d5:=d4.put (hs:=PyData.keyHash G.w.params name) (t:=s.toks+1) hv (name:=name)
 refine dF (fO (dictOf (putL name (PyData.keyHash G.w.params name) (.str name (s.toks+1)) v es) (putN name es n)) S.nd d1) fun n' U hk u1 u2 _=>?_
 refine set_dict S.fr ok.qL S.nw (es:=es) (n:=n) ⟨x3,rfl,rfl,d3⟩ rfl hs.1.1.1 hs.1.1.2 hs.1.2 hs.2 d4.sL rfl U (by rw[d5.length];have:=r4 name a as;exact Yj hz this) fun h' F N=>?_
 refine ci (S.upd (o':=.attrs (kJ name a as)) hd d1 F N hk u1 u2 ⟨_,_,rfl,d5⟩) fun S' K' _=>?_
 exact k n' h' _ S' K'
structure FE(G:Gl)(name:Str)(a b:AV)(H2:ah)(Q:ah->Prop):Prop where
 go:∃x C dx as,b=.ref x/\H2 x=some (.inst C dx)/\H2 dx=some (.attrs as)/\cJ G.K C name=true/\as.length<=900/\Q (H2.put dx (.attrs (kJ name a as)))
theorem FE.of{G:Gl}{name:Str}{a:AV}{x C dx:Addr}{as:List (Str×AV)}{H:ah}{Q:ah->Prop}(h1:H x=some (.inst C dx))(h2:H dx=some (.attrs as))(h3:cJ G.K C name=true)(h4:as.length<=900)(q:Q (H.put dx (.attrs (kJ name a as)))):FE G name a (.ref x) H Q:=⟨x,C,dx,as,rfl,h1,h2,h3,h4,q⟩
@[reducible] noncomputable def Vd(G:Gl)(name:Str)(a:AV)(Q:ah->Prop):AV->ah->Prop:=fun b H=>FE G name a b H Q
@[reducible] noncomputable def Ve(G:Gl)(D:Nat)(cs:Scope)(cl:List (Str×Addr))(o:Expr)(m:bP)(name:Str)(Q:ah->Prop):AV->ah->Prop:=fun a H=>WE G D cs cl o m H (Vd G name a Q)
theorem jH{o e:Expr}{name:Str}{ap pos:Pos}{Q:Fl->bP->ah->Prop}
 (h:WE G D cs cl e m H (Ve G D cs cl o m name (Vh m Q)))
 (hs:autoParam (∀env:Env,swapsWith e (some (.Attribute o name ap)) pos.line env=pure false) aI):W1 G D cs cl (.Assign [.Attribute o name ap] e pos) m H Q where
 go:=fun c h1 h2 ok mm ae s S lr Q' E k=>by
  refine plainObj_wpAny_Assign_Attribute (h.go c h1 h2 ok mm ae s S lr _ E fun va a H1 n1 cP tk S1 K1 V1 w=>?_) (hs _)
  refine w.go c h1 h2 ok mm n1 _ S1 (LR.keep S K1 lr) _ E fun vb b H2 n2 gw gI S2 K2 V2 w2=>?_
  obtain⟨x,C,dx,as,rfl,hx,hd,hs,hz,q⟩:=w2
  have:vb=.ref x:=V2
  clear V2;subst this
  exact oe (s:={ s with heap:=gw,toks:=gI }) ok S2 hx hd hs (S1.vr K2 V1) hz _ E fun n3 h3 pA S3 K3=>k .next .next m mm _ n3 h3 pA S3 (LR.keep S ((K1.trans K2).trans K3) lr) ((K1.trans K2).trans K3) rfl q
@[reducible] noncomputable def pZ(L:bP->ah->Prop)(Q:Fl->bP->ah->Prop):Fl->bP->ah->Prop
 |.next,m,H=>L m H
 |.cont,m,H=>L m H
 |.brk,_,_=>False
 |.ret a,m,H=>Q (.ret a) m H
@[reducible] noncomputable def fT(G:Gl)(D:Nat)(cs:Scope)(cl:List (Str×Addr))(t:Expr)(body:List Stmt)(Q:Fl->bP->ah->Prop):Nat->bP->ah->Prop
 |0,_,_=>False
 |n+1,m,H=>WT G D cs cl t m H fun b H1=>match b with
  |true=>WS G D cs cl body m H1 (pZ (fT G D cs cl t body Q n) Q)
  |false=>Q .next m H1
theorem d7{t:Expr}{body:List Stmt}{pos:Pos}{Q:Fl->bP->ah->Prop}(h:∃n,fT G D cs cl t body Q n m H):W1 G D cs cl (.While t body [] pos) m H Q where
 go:=fun c h1 h2 ok mm ae s S lr Q' E k=>by
  refine aY (h) ?_;clear h;intro n h
  refine wpAny_While ?_
  refine codeAny_whileLoop (fun n s'=>∃m' eZ H' n' h' tk,s'={ s with heap:=h',toks:=tk }/\St G c.h₀ c.L eZ H' n' h'/\LR n' m' eZ/\aO H H' ae n'/\fT G D cs cl t body Q n m' H') (fun n s' I=>?_) n ⟨m,mm,H,ae,s.heap,s.toks,rfl,S,lr,aO.rfl,h⟩
  refine zM (I) fun m1 Fu H1 n1 cP Fk Hc=>?_;clear I;refine EU (Hc) fun ak S1 wG K1 w=>?_;clear Hc;subst ak
  cases n with
  |zero=>exact w.elim
  |succ n=>
   refine WT.go w c h1 h2 ok Fu n1 _ S1 wG _ _ fun b H2 n2 gw gI S2 K2 w2=>?_
   cases b with
   |true=>
    refine WS.go w2 c h1 h2 ok Fu n2 _ S2 (LR.keep S1 K2 wG) _ _ fun f fl m3 Pm H3 n3 h3 pA S3 pu K3 F3 w3=>?_
    have KK:=(K1.trans K2).trans K3
    cases fl with
    |next=>rw[show f=.next from F3];exact⟨n,Nat.lt_succ_self _,m3,Pm,H3,n3,h3,pA,rfl,S3,pu,KK,w3⟩
    |cont=>rw[show f=.cont from F3];exact⟨n,Nat.lt_succ_self _,m3,Pm,H3,n3,h3,pA,rfl,S3,pu,KK,w3⟩
    |brk=>exact w3.elim
    |ret a=>(refine aA (F3) fun v ak hv=>?_;clear F3;subst ak);exact k (.ret v) (.ret a) m3 Pm H3 n3 h3 pA S3 pu KK ⟨v,rfl,hv⟩ w3
   |false=>exact wpAny_execs_nil (k .next .next m1 Fu H2 n2 gw gI S2 (LR.keep S1 K2 wG) (K1.trans K2) rfl w2)
theorem WS.weak{ss:List Stmt}{m':bP}{Q:Fl->bP->ah->Prop}(k:∀x a,m'.lookup x=some a->m.lookup x=some a)(h:WS G D cs cl ss m' H Q):WS G D cs cl ss m H Q where
 go:=fun c h1 h2 ok mm ae s S lr Q' E q=>h.go c h1 h2 ok mm ae s S (fun x a e=>lr x a (k x a e)) Q' E q
noncomputable def lU:Fl->AV
 |.ret a=>a
 |_=>.none
noncomputable def nH(f:Flow):Value:=match f with|.ret v=>v|_=>.none
theorem FR.val{ae:dy}{af:Fl}{f:Flow}(h:FR ae af f):VR ae (lU af) (nH f):=by
 cases af with
 |next=>rw[show f=.next from h];rfl
 |brk=>rw[show f=.brk from h];rfl
 |cont=>rw[show f=.cont from h];rfl
 |ret a=>(refine aA (h) fun v ak hv=>?_;clear h;subst ak);exact hv
theorem jX{ns:List Str}{as:List AV}{vs:List Value}{ae:dy}(h:dw ae as vs):∀ (pre:bP) (prev:List (Str×Value)),(∀x a,pre.lookup x=some a->∃v,prev.lookup x=some v/\VR ae a v)->
 ∀x a,((ns.zip as).reverse++pre).lookup x=some a->∃v,((ns.zip vs).reverse++prev).lookup x=some v/\VR ae a v:=by
 induction ns generalizing as vs with
 |nil=>intro pre prev k x a e;exact k x a e
 |cons n ns ih=>
  intro pre prev k x a e
  cases as with
  |nil=>rw[bC]at h;subst h;exact k x a e
  |cons a0 as=>
   rw[aW]at h
   refine aE (h) fun v0 r ak h1 h2=>?_;clear h;subst ak
   have e':((ns.zip as).reverse++((n,a0)::pre)).lookup x=some a:=by simpa[List.zip_cons_cons]using e
   have:=ih h2 ((n,a0)::pre) ((n,v0)::prev) (fun y b q=>by
    rw[List.lookup_cons]at q⊢
    by_cases z:y=n
    ·(clear e' h2 e as;subst z);simp only[beq_self_eq_true]at q⊢;cases q;exact⟨v0,rfl,h1⟩
    ·have z1:(y==n)=false:=by simpa using z
     simp only[z1]at q⊢
     exact k y b q) x a e'
   simpa[List.zip_cons_cons]using this
theorem DS{f:Addr}{oc:Value}{od:Option Addr}{AD:Array (Option Value)}{name qual:Str}{params:Arguments}{body:List Stmt}{scope:Scope}{dV kV doc pm pz ct:Value}{an:Option Addr}{ns:List Str}{args:List AV}{Q:AQ}
 (ho:G.K.lookup f=some ⟨oc,od,.func (fnOf name qual params body scope dV kV doc pm an pz ct),AD⟩) (J0:codeIn G.K pz qual=true)
 (jf:∀vals:List Value,vals.length=ns.length->bindArgs (fnOf name qual params body scope dV kV doc pm an pz ct) ⟨vals,[]⟩=pure (ns.zip vals))
 (zB:∀y∈ns,scope.names.lookup y=some .local) (cU:∀x∈scope.names,x.2≠.cell) (EM:scope.isCoroutine=false) (uo:scope.isGenerator=false) (hk:scope.kind=.function) (hlen:args.length=ns.length)
 (h:WS G D scope [] body (ns.zip args).reverse H fun fl _ H'=>Q (lU fl) H'):WC G (D+1) (.ref f) args H Q where
 go:=fun c ok mm ae s S vals hv R k=>by
  have lv:vals.length=ns.length:=hv.length.trans hlen
  refine PySem.W.code_def ok.below S.fr ok.qL S.nw ok.top ok.frames rfl ok.kind ho J0 (by have:=ok.depth;exact Sa this) (BindsTo.of_eq (jf vals lv)) (fun y hy=>zB y.1 (List.of_mem_zip hy).1) (fun g L' gQ FG F' N' B' X' T'=>?_) EM uo hk cU
  have S':St G g L' (fun y=>(ns.zip vals).reverse.lookup y) H ae gQ:=⟨F',N',S.nd,S.hr,S.lo⟩
  have Bc:Cx.Ok G D ⟨c.A,c.A.deeper (envOf qual scope L' f pz),c.base,g,c.env::c.outer,L',qual,scope,f,pz,[]⟩:={
   below:=B'
   qL:=X'
   top:=T'
   frames:=Around.frames_deeper ok.frames
   kind:=hk
   depth:=by have:=ok.depth;rw[depth_deeper];exact Ot this
   units:=by have:=ok.units;rw[units_deeper];exact RF this
   handled:=ok.handled }
  refine h.go _ rfl rfl Bc _ ae { s with heap:=gQ,toks:=s.toks+(ns.zip vals).length } S' (fun x a e=>?_) _ _ fun fl af m' eZ H' n' h' tk S1 wG K1 F1 q=>?_
  ·have:=jX (ns:=ns) hv [] [] (fun _ _ e=>ax e) x a (by simpa using e)
   simpa using this
  ·refine leaveK_ S1.fr S1.nw fun FF NN=>?_
   have V:VR n' (lU af) (nH fl):=FR.val F1
   exact k _ (lU af) H' n' h' tk ⟨FF,NN,S1.nd,S1.hr,S1.lo⟩ K1 V q
theorem pM{C fI:Addr}{args:List AV}{Q:AQ}(hm:makesIn G.K C=true)(hi:findIn G.K (.ref C) "__init__"=some (some (.ref fI)))(hf:isFn G.K (.ref fI)=true)
 (h:∀x dx,H x=none->H dx=none->x≠dx->WC G D (.ref fI) (.ref x::args) ((H.put dx (.attrs [])).put x (.inst C dx)) fun r H'=>r=.none/\Q (.ref x) H'):WC G (D+1) (.ref C) args H Q where
 go:=fun c ok mm ae s S vals hv R k=>by
  refine PySem.W.make_K S.fr S.nw (nB ok S) hm hi (beq_iff_eq.mp hf) fun x dx h' F N lt Tr=>?_
  have nx:∀p∈ae,p.1≠x:=fun p hp=>Nat.ne_of_lt (Nat.lt_trans (lt p hp) Tr)
  have nd:=gu lt
  have eG:x≠dx:=Nat.ne_of_gt Tr
  have N1:News c.h₀ c.L h' ((dx,emptyDict)::ae):=fun p hp=>N p (.tail _ hp)
  refine bh (S.eJ (o:=.attrs []) F N1 nd ⟨[],0,rfl,(lG ..).mpr rfl⟩) fun S1 K1=>?_
  have VD:∀p∈(dx,emptyDict)::ae,p.1≠x:=fun p hp=>by
   rcases de hp with rfl|hp
   ·exact fun e=>eG e.symm
   ·exact nx p hp
  refine bh (S1.eJ (o:=.inst C dx) F N VD rfl) fun S2 K2=>?_
  have Bc:Cx.Ok G D { c with A:=c.A.under (.builtin "type.__call__" ⟨.ref C::vals,[]⟩) }:={
   below:=ok.below
   qL:=ok.qL
   top:=ok.top
   frames:=ok.frames
   kind:=ok.kind
   depth:=by have:=ok.depth;show(c.A.under _).depth+D<_;rw[depth_under_make];exact Ot this
   units:=by have:=ok.units;show(c.A.under _).units+8*D<_;rw[units_under_make];exact Yi this
   handled:=ok.handled }
  refine(h x dx (S.off nx) (S.off nd) eG).go _ Bc mm _ { s with heap:=h' } S2 (.ref x::vals) ((aW ..).mpr ⟨_,vals,rfl,rfl,hv.sub fun a vs hm=>.tail _ (.tail _ hm)⟩) _ fun v a H' n' jK tk S3 K3 V3 q=>?_
  refine bh (q) ?_;clear q;intro ak q;subst ak
  exact⟨V3,k (.ref x) (.ref x) H' n' jK tk S3 ((K1.trans K2).trans K3) rfl q⟩
@[reducible] noncomputable def cA:Option (Addr×AO)->ah->Prop
 |none,_=>True
 |some (l,o),H=>H l=some o
@[reducible] noncomputable def dS(G:Gl)(D:Nat)(cs:Scope)(cl:List (Str×Addr))(x:Str)(body:List Stmt)(kp:Option (Addr×AO))(Q:Fl->bP->ah->Prop):List AV->bP->ah->Prop
 |[],m,H=>Q .next m H
 |a::as,m,H=>WS G D cs cl body ((x,a)::m) H (pZ (fun m' H'=>cA kp H'/\dS G D cs cl x body kp Q as m' H') Q)
theorem Fr.kept{h₀ h h':Heap}{L I:Addr}{mm:Str->Option Value}(F:Fr h₀ L h mm)(k:∀b o,b≠I->h.get? b=some o->h'.get? b=some o)(hI:L≠I)(h0:h₀.get? I=none):Fr h₀ L h' mm:=by
 obtain⟨⟨oL,es,ep,hL,r⟩,kk,ab⟩:=F
 exact⟨⟨oL,es,ep,k _ _ hI hL,r⟩,fun b o e=>k b o (fun z=>by rw[z,h0]at e;(exact ax e)) (kk b o e),ab⟩
theorem St.turn{h₀ L mm ae h h'}(S:St G h₀ L mm H ae h){I:Addr}{o o':Obj}(hm:(I,o)∈ae)(hH:H I=none)(hc:(o.cls==.type "tuple")=false)(ho:h'.get? I=some o')(k:∀b o,b≠I->h.get? b=some o->h'.get? b=some o):
 ∃am,St G h₀ L mm H am h'/\(I,o')∈am/\(∀p∈ae,p.1≠I->p∈am)/\(∀a vs,(a,aK vs)∈ae->(a,aK vs)∈am):=by
 refine dF (fO o' S.nd hm) fun am U hk u1 u2 u3=>?_
 have z:=S.nw _ hm
 have sub:∀a vs,(a,aK vs)∈ae->(a,aK vs)∈am:=fun a vs q=>u1 _ q fun e=>by
  dsimp only at e
  clear z u3 u2 u1 hk U am k ho hH o' h';subst e
  have:=dK S.nd q hm
  clear hm q a S h L h₀;subst this
  simp at hc
 refine⟨am,⟨Fr.kept S.fr k (Ne.symm z.2.1) z.2.2,fun p hp=>?_,hk▸S.nd,fun a x e=>?_,S.lo⟩,u2,u1,sub⟩
 ·by_cases q:p.1=I
  ·have:p=(I,o'):=by
    clear z u3 u1 U k ho hc hH hm o h';obtain⟨a,b⟩:=p
    dsimp only at q
    subst q
    rw[dK (hk▸S.nd) hp u2]
   clear q hp sub u3 u2 u1 hk U am;subst this
   exact⟨ho,z.2⟩
  ·have y:=S.nw p (u3 p hp q)
   exact⟨k _ _ q y.1,y.2⟩
 ·refine aA (S.hr a x e) fun ob h1 h2=>?_
  have:a≠I:=fun q=>by rw[q,hH]at e;(exact ax e)
  exact⟨ob,u1 _ h1 this,h2.sub sub⟩
theorem St.forget{h₀ L mm ae h h'}(S:St G h₀ L mm H ae h){I:Addr}{o:Obj}(hm:(I,o)∈ae)(hH:H I=none)(hc:(o.cls==.type "tuple")=false)(k:∀b o,b≠I->h.get? b=some o->h'.get? b=some o):
 ∃am,St G h₀ L mm H am h'/\(∀p∈ae,p.1≠I->p∈am)/\(∀a vs,(a,aK vs)∈ae->(a,aK vs)∈am):=by
 have z:=S.nw _ hm
 have mem:∀p∈ae,p.1≠I->p∈ae.filter fun p=>!decide (p.1=I):=fun p hp q=>List.mem_filter.mpr ⟨hp,by simpa using q⟩
 have sub:∀a vs,(a,aK vs)∈ae->(a,aK vs)∈ae.filter fun p=>!decide (p.1=I):=fun a vs q=>mem _ q fun e=>by
  dsimp only at e
  clear mem z k hH h';subst e
  have:=dK S.nd q hm
  clear hm q a S h L h₀;subst this
  simp at hc
 refine⟨ae.filter fun p=>!decide (p.1=I),⟨Fr.kept S.fr k (Ne.symm z.2.1) z.2.2,fun p hp=>?_,?_,fun a x e=>?_,S.lo⟩,mem,sub⟩
 ·refine bh (List.mem_filter.mp hp) fun hp q=>?_
  have q:p.1≠I:=by simpa using q
  have y:=S.nw p hp
  exact⟨k _ _ q y.1,y.2⟩
 ·exact List.Nodup.sublist (List.filter_sublist.map _) S.nd
 ·refine aA (S.hr a x e) fun ob h1 h2=>?_
  have:a≠I:=fun q=>by rw[q,hH]at e;(exact ax e)
  exact⟨ob,mem _ h1 this,h2.sub sub⟩
def NM(G:Gl)(D:Nat)(cs:Scope)(cl:List (Str×Addr))(x:Str)(body:List Stmt)(kp:Option (Addr×AO))(Q:Fl->bP->ah->Prop)(c:Cx)(I:Addr)(fp:List Addr)(SI:Nat->Heap->Prop)(items:List AV)(news₀:dy)(H:ah)(s:Shared)(j:Nat)(s':Shared):Prop:=
 ∃i m' eZ H' n' h' tk oi,i+j=items.length/\s'={ s with heap:=h',toks:=tk }/\St G c.h₀ c.L eZ H' n' h'/\LR n' m' eZ/\(I,oi)∈n'/\H' I=none/\SI i h'/\
  (∀p∈news₀,p.1≠I->H p.1=none->p∈n'/\H' p.1=none)/\(∀a vs,(a,aK vs)∈news₀->(a,aK vs)∈n')/\(∀b∈fp,b=I∨∃ob,(b,ob)∈n'/\b≠I/\((H' b=none)∨∃o,kp=some (b,.ro o ob)))/\
  cA kp H'/\dS G D cs cl x body kp Q (items.drop i) m' H'
theorem wX{prog:Program}{w:World}{A:Around}{R:Result->Shared->Prop}{x:Str}{px:Pos}{body:List Stmt}{it:Value}{env:Env}(J:Nat->Shared->Prop)
 (turn:∀ (P1:Option Value->Shared->Prop) (P2:Shared->Prop) (P3:Flow->Shared->Prop) (E:Value->Shared->Prop) (n:Nat),(∀s,R (.ok .next) s->P1 none s)->(∀v s,wpAny (model prog w) A (assign (.Name x px) env v) (fun _=>P2) E s->P1 (some v) s)->
  (∀s,wpAny (model prog w) A (execs body env) P3 E s->P2 s)->(∀m s f,m<n->J m s->f=.next∨f=.cont->P3 f s)->(∀v s,R (.ok (.ret v)) s->P3 (.ret v) s)->∀s,J n s->wpAny (model prog w) A (pyNext it) P1 E s)
 (n:Nat) {s:Shared} (h:J n s):codeAny (model prog w) A (.forLoop (.Name x px) it body [] env) R s:=
 codeAny_forLoop_any J (fun n s hI=>turn _ _ _ _ n (fun _ h=>wpAny_execs_nil h) (fun v s h=>by exact wpAny_pure (a:=()) h) (fun _ h=>h) (fun m s f a b o=>Or.elim o (fun z=>by rw[z];exact⟨m,a,b⟩) (fun z=>by rw[z];exact⟨m,a,b⟩)) (fun _ _ h=>h) s hI) n h
theorem oV{x:Str}{px:Pos}{body:List Stmt}{kp:Option (Addr×AO)}{Q:Fl->bP->ah->Prop}{c:Cx}(h1:c.cs=cs)(h2:c.cl=cl)(ok:c.Ok G D){I:Addr}{fp:List Addr}{n:Nat}{P:Nat->Value->Prop}{SI:Nat->Heap->Prop}
 (W:Walks G.prog G.w c.A I fp [I] n P SI) (hx:cs.names.lookup x=some .local) (sG:∀i h,SI i h->∃o,h.get? I=some o/\(o.cls==.type "tuple")=false) {items:List AV} (hn:items.length=n)
 {y4 news₀ s} (Sr:St G c.h₀ c.L y4 H news₀ s.heap) {oI:Obj} (hI:(I,oI)∈news₀) (EO:H I=none) (CK:LR news₀ m y4) (s0:SI 0 s.heap)
 (hP:∀i v a,P i v->items[i]?=some a->VR news₀ a v) (BE:∀b∈fp,b=I∨∃ob,(b,ob)∈news₀/\b≠I/\((H b=none)∨∃o,kp=some (b,.ro o ob)))
 (w:cA kp H/\dS G D cs cl x body kp Q items m H) (Q':Flow->Shared->Prop) (E:Value->Shared->Prop)
 (k:∀f fl m' eZ H' am h' tk,St G c.h₀ c.L eZ H' am h'->LR am m' eZ->(∀p∈news₀,p.1≠I->H p.1=none->p∈am/\H' p.1=none)->FR am fl f->(fl=.next->cA kp H')->Q fl m' H'->Q' f { s with heap:=h',toks:=tk }):
 codeAny (model G.prog G.w) c.A (.forLoop (.Name x px) (.ref I) body [] c.env) (fun r s'=>match r with|.ok f=>Q' f s'|.error e=>cameBackBy (model G.prog G.w) c.A c.env E e s') s:=by
 refine wX (NM G D cs cl x body kp Q c I fp SI items news₀ H s) (fun P1 P2 P3 E j t1 t2 t3 t4 t5 s' J=>?_) n
  ⟨0,m,y4,H,news₀,s.heap,s.toks,oI,by exact Yh hn,rfl,Sr,CK,hI,EO,s0,fun p hp _ q=>⟨hp,q⟩,fun _ _ q=>q,BE,w.1,w.2⟩
 refine uw (J) fun i m1 Fu H1 n1 cP Fk oi GY=>?_;clear J;refine pG (GY) fun EJ e0 S1 wG I1 Fh si kk tt fk Xc w1=>?_;clear GY
 rw[e0]
 clear e0 CK BE w s0
 refine aA (sG _ _ si) fun oc JG BG=>?_
 replace BG:(oi.cls==.type "tuple")=false:=(show oi=oc from Option.some.inj ((S1.nw _ I1).1.symm.trans JG))▸BG
 clear JG
 have Ts:∀n2,(∀a vs,(a,aK vs)∈n1->(a,aK vs)∈n2)->LR n2 m1 Fu:=fun n2 sub y b e=>let ⟨v',e1,e2⟩:=wG y b e;⟨v',e1,e2.sub sub⟩
 by_cases iP:i<n
 ·have hi:i<items.length:=hn.symm▸iP
  rw[List.drop_eq_getElem_cons hi]at w1
  refine W.item i _ _ _ iP si fun v gw gI pv Hv qP=>t2 _ _ ?_
  clear t1 t2
  replace qP:∀b o,b≠I->cP.get? b=some o->gw.get? b=some o:=fun b o hb e=>qP b o (fun z=>hb (fG z)) e
  refine aA (sG _ _ Hv) fun o2 kr QK=>?_
  refine iA (S1.turn I1 Fh BG kr qP) fun n2 S2 I2 u1 lO=>?_
  refine wpAny_bind (m:=standAt px) (wpAny_standAt (wpAny_bindName ?_))
  refine storeX_L (s:={ s with heap:=gw,toks:=gI }) S2.fr S2.nw (fun h3 F N=>t3 _ ?_) ok.kind (h1.symm▸hx)
  clear t3
  refine WS.go w1 c h1 h2 ok _ n2 { s with heap:=h3,toks:=gI+1 } (S2.store F N) ((Ts _ lO).put ((hP i v _ pv (List.getElem?_eq_getElem hi)).sub fun b vs q=>lO _ _ (tt _ _ q))) _ _ fun f fl m4 Tj H4 n4 h4 AB S4 Tu K4 F4 q=>?_
  have TC:∀p∈news₀,p.1≠I->H p.1=none->p∈n4/\H4 p.1=none:=fun p hp vz e=>have a:=kk p hp vz e;K4 p (u1 p a.1 vz) a.2
  have next:(f=.next∨f=.cont)->(cA kp H4/\dS G D cs cl x body kp Q (items.drop (i+1)) m4 H4)->P3 f { s with heap:=h4,toks:=AB }:=by
   intro hf q
   have I4:=K4 _ I2 Fh
   have pin:∀b∈fp,b=I∨∃ob,(b,ob)∈n1/\(b,ob)∈n4/\b≠I/\((H4 b=none)∨∃o,kp=some (b,.ro o ob)):=fun b hb=>by
    rcases fk b hb with e|⟨ob,m1,ne,e⟩
    ·exact .inl e
    ·refine .inr ⟨ob,m1,?_⟩
     rcases e with e|⟨o,e⟩
     ·have z:=K4 _ (u1 _ m1 ne) e
      exact⟨z.1,ne,.inl z.2⟩
     ·have kq:=q.1
      rw[e]at kq
      refine aA (S4.hr b _ kq) fun kj b1 b2=>?_
      exact⟨b2.1▸b1,ne,.inr ⟨o,e⟩⟩
   refine t4 (j-1) _ f (by exact UB EJ hi) ⟨i+1,m4,Tj,H4,n4,h4,AB,o2,by exact UA EJ hi,rfl,S4,Tu,I4.1,I4.2,?_,TC,fun a vs q=>((S2.store F N).sub K4) _ _ (lO _ _ (tt _ _ q)),fun b hb=>(pin b hb).imp id fun ⟨ob,_,a,b,c⟩=>⟨ob,a,b,c⟩,q.1,q.2⟩ hf
   refine W.frame (i+1) gw h4 Hv fun b hb o e=>?_
   rcases pin b hb with z|⟨ob,m1,m4,ne,_⟩
   ·have e:gw.get? I=some o:=z▸e
    rw[z,Option.some.inj (e.symm.trans kr)]
    exact(S4.nw _ I4.1).1
   ·rw[Option.some.inj (e.symm.trans (S2.nw _ (u1 _ m1 ne)).1)]
    exact(S4.nw _ m4).1
  cases fl with
  |next=>exact next (.inl F4) q
  |cont=>exact next (.inr F4) q
  |brk=>exact q.elim
  |ret a=>
   refine aA (F4) fun v e hv=>?_;clear F4
   rw[e]
   exact t5 _ _ (k (.ret v) (.ret a) m4 Tj H4 n4 h4 AB S4 Tu TC ⟨v,rfl,hv⟩ (fun e=>nomatch e) q)
 ·have hi:items.drop i=[]:=List.drop_eq_nil_of_le (by exact Nx hn iP)
  rw[hi]at w1
  refine W.done _ _ _ (Nat.le_antisymm (by exact Np hn EJ) (Nat.le_of_not_lt iP)▸si) fun gw gI qP=>t1 _ ?_
  replace qP:∀b o,b≠I->cP.get? b=some o->gw.get? b=some o:=fun b o hb e=>qP b o (fun z=>hb (fG z)) e
  refine aN (S1.forget I1 Fh BG qP) fun n2 S2 u1 lO=>?_
  exact k .next .next m1 Fu H1 n2 gw gI S2 (Ts _ lO) (fun p hp vz e=>have z:=kk p hp vz e;⟨u1 p z.1 vz,z.2⟩) rfl (fun _=>Xc) w1
theorem dw.get{ae:dy}:∀ {xs:List AV} {vs:List Value},dw ae xs vs->∀ {i:Nat} {v:Value} {a:AV},vs[i]?=some v->xs[i]?=some a->VR ae a v:=by
 intro zz
 induction zz with
 |nil=>
  intro _ _ i v a _ e
  simp at e
 |cons x xs ih=>
  intro _ h i v a e1 e2
  rw[aW]at h
  refine aE (h) fun v0 r ak h1 h2=>?_;clear h;subst ak
  cases i with
  |zero=>simp at e1 e2;subst e1 e2;exact h1
  |succ i=>simp at e1 e2;exact ih h2 e1 e2
theorem jG{x:Str}{px pos:Pos}{iter:Expr}{body:List Stmt}{Q:Fl->bP->ah->Prop}(h:WE G D cs cl iter m H fun a H1=>∃xs,a=.tup xs/\dS G D cs cl x body none Q xs m H1)
 (hx:autoParam (cs.names.lookup x=some .local) aR) (hs:autoParam (∀ (env:Env) (x:Value),foldedSetIterable iter env x=pure x) aJ):W1 G D cs cl (.For (.Name x px) iter body [] pos) m H Q where
 go:=fun c h1 h2 ok mm ae s S lr Q' E k=>by
  refine PySem.wpAny_For (h.go c h1 h2 ok mm ae s S lr _ E fun v a H1 n1 cP tk S1 K1 V1 w=>?_) (hs _)
  refine aA (w) ?_;clear w;intro xs ak w;subst ak
  refine aE ((ee ..).mp V1) fun t vs ak hm hv=>?_;(clear V1;subst ak)
  have ht:cP.IsTuple t vs.toArray:=⟨_,(S1.nw _ hm).1,rfl,0,rfl⟩
  refine wpAny_pyIter_tuple (s:={ s with heap:=cP,toks:=tk }) ht ?_
  have eG:t≠cP.objs.size:=aq S1.nw _ hm
  (refine bh (S1.push (d:=cP.objs.size) (ob:={ cls:=.type "tuple_iterator",data:=.fields #[.ref t,.int 0 0] }) (S1.fr.push _) (S1.nw.push S1.fr _) (aq S1.nw)) fun S2 K2=>?_)
  refine oV h1 h2 ok (Walks.tuple ok.handled cP.objs.size t eG vs.toArray) hx (fun i h hh=>by obtain⟨o,a,b,_⟩:=hh.1;exact⟨o,a,by rw[b];rfl⟩) (items:=xs) (by rw[List.size_toArray,hv.length]) (s:={ s with heap:=cP.push { cls:=.type "tuple_iterator",data:=.fields #[.ref t,.int 0 0] },toks:=tk }) S2 (.head _) (S1.off (aq S1.nw)) (LR.keep S1 K2 (LR.keep S K1 lr))
   ⟨⟨_,Heap.get?_push_size _ rfl,rfl,rfl⟩,_,Heap.get?_push_of_some _ (S1.nw _ hm).1,rfl,0,rfl⟩ (fun i v a e1 e2=>(hv.sub dJ).get (by simpa using e1) e2) (fun b hb=>?_) (kp:=none) ⟨trivial,w⟩ Q' E fun f fl m' eZ H' n' h' gg S3 pu kk F3 _ q=>?_
  ·clear K2 S2 ht hv w xs;rcases de hb with rfl|hb
   ·exact .inl rfl
   ·have:b=t:=by simpa using hb
    subst this
    exact .inr ⟨_,.tail _ hm,eG,.inl (S1.iq hm)⟩
  ·refine k f fl m' eZ H' n' h' gg S3 pu (fun p hp e=>?_) F3 q
   refine bh (K1 p hp e) fun a1 a2=>?_
   exact kk p (.tail _ a1) (aq S1.nw p a1) a2
@[reducible] noncomputable def qo(l:Addr)(o:AO)(Q:Fl->bP->ah->Prop):Fl->bP->ah->Prop
 |.next,m,H=>Q .next m (H.put l o)
 |.brk,m,H=>Q .brk m H
 |.cont,m,H=>Q .cont m H
 |.ret a,m,H=>Q (.ret a) m H
theorem St.freeze{h₀ L mm ae h}(S:St G h₀ L mm H ae h){l:Addr}{o:AO}{ob:Obj}(hl:H l=some o)(hm:(l,ob)∈ae):St G h₀ L mm (H.put l (.ro o ob)) ae h:=⟨S.fr,S.nw,S.nd,fun a x e=>by
 by_cases q:a=l
 ·subst q
  rw[al]at e
  cases e
  refine aA (S.hr a o hl) fun kj h1 h2=>?_
  have:=dK S.nd hm h1
  subst this
  exact⟨ob,h1,rfl,h2⟩
 ·rw[aj _ _ q]at e
  exact S.hr a x e,fun a x e i=>by
 by_cases q:a=l
 ·clear hm;subst q
  rw[al]at e
  cases e
  exact S.lo a o hl i
 ·rw[aj _ _ q]at e
  exact S.lo a x e i⟩
theorem St.qo{h₀ L mm ae h}(S:St G h₀ L mm H ae h){l:Addr}{o:AO}{ob:Obj}(hl:H l=some (.ro o ob)):St G h₀ L mm (H.put l o) ae h:=⟨S.fr,S.nw,S.nd,fun a x e=>by
 by_cases q:a=l
 ·subst q
  rw[al]at e
  cases e
  refine aA (S.hr a _ hl) fun kj h1 h2=>?_
  refine bh (h2) ?_;clear h2;intro ak h2;(clear hl;subst ak)
  exact⟨kj,h1,h2⟩
 ·rw[aj _ _ q]at e
  exact S.hr a x e,fun a x e i=>by
 by_cases q:a=l
 ·subst q
  rw[al]at e
  cases e
  exact S.lo a _ hl i
 ·rw[aj _ _ q]at e
  exact S.lo a x e i⟩
theorem aO.freeze{l:Addr}{o o':AO}{ae:dy}(hl:H l=some o'):aO H (H.put l o) ae ae:=fun p hp e=>⟨hp,by
 have:p.1≠l:=fun z=>by rw[z,hl]at e;(exact bg e)
 rw[aj _ _ this];exact e⟩
theorem mA{x:Str}{px pos:Pos}{iter:Expr}{body:List Stmt}{Q:Fl->bP->ah->Prop}(h:WE G D cs cl iter m H fun a H1=>∃l xs,a=.ref l/\H1 l=some (.list xs)/\∀ob,dS G D cs cl x body (some (l,.ro (.list xs) ob)) (qo l (.list xs) Q) xs m (H1.put l (.ro (.list xs) ob)))
 (hx:autoParam (cs.names.lookup x=some .local) aR) (hs:autoParam (∀ (env:Env) (x:Value),foldedSetIterable iter env x=pure x) aJ):W1 G D cs cl (.For (.Name x px) iter body [] pos) m H Q where
 go:=fun c h1 h2 ok mm ae s S lr Q' E k=>by
  refine PySem.wpAny_For (h.go c h1 h2 ok mm ae s S lr _ E fun v a H1 n1 cP tk S1 K1 V1 w=>?_) (hs _)
  refine aE (w) ?_;clear w;intro l xs ak hl w;subst ak
  have:v=.ref l:=V1
  clear V1;subst this
  refine aN (S1.get hl) fun ob hm ak hg=>?_;refine bi (ak) fun vs ep cu hv=>?_;clear ak;subst cu
  have hL:cP.IsList l vs.toArray:=⟨_,hg,rfl,ep,rfl⟩
  refine wpAny_pyIter_list (s:={ s with heap:=cP,toks:=tk }) hL ?_
  have eG:l≠cP.objs.size:=aq S1.nw _ hm
  have SF:=S1.freeze hl hm
  (refine bh (SF.push (d:=cP.objs.size) (ob:={ cls:=.type "list_iterator",data:=.fields #[.ref l,.int 0 0] }) (S1.fr.push _) (S1.nw.push S1.fr _) (aq S1.nw)) fun S2 K2=>?_)
  have KF:aO H1 (H1.put l (.ro (.list xs) (listOf vs.toArray ep))) n1 n1:=aO.freeze hl
  refine oV h1 h2 ok (Walks.list ok.handled cP.objs.size l eG vs.toArray) hx (fun i h hh=>by obtain⟨o,a,b,_⟩:=hh.1;exact⟨o,a,by rw[b];rfl⟩) (items:=xs) (by rw[List.size_toArray,hv.length]) (s:={ s with heap:=cP.push { cls:=.type "list_iterator",data:=.fields #[.ref l,.int 0 0] },toks:=tk }) S2 (.head _) (SF.off (aq S1.nw)) (LR.keep S (K1.trans (KF.trans K2)) lr)
   ⟨⟨_,Heap.get?_push_size _ rfl,rfl,rfl⟩,_,Heap.get?_push_of_some _ hg,rfl,ep,rfl⟩ (fun i v a e1 e2=>(hv.sub dJ).get (by simpa using e1) e2) (fun b hb=>?_) (kp:=some (l,.ro (.list xs) (listOf vs.toArray ep))) ⟨al ..,w _⟩ Q' E fun f fl m' eZ H' n' h' gg S3 pu kk F3 kp q=>?_
  ·clear KF K2 S2 SF hL hg hl S1 k lr S mm ok h2 h1 c;rcases de hb with rfl|hb
   ·exact .inl rfl
   ·have:b=l:=by simpa using hb
    clear hx h;subst this
    exact .inr ⟨_,.tail _ hm,eG,.inr ⟨_,rfl⟩⟩
  ·have tz:aO H H' ae n':=fun p hp e=>by
    refine bh ((K1.trans KF) p hp e) fun a1 a2=>?_
    exact kk p (.tail _ a1) (aq S1.nw p a1) a2
   cases fl with
   |next=>
    have kl:H' l=some (.ro (.list xs) (listOf vs.toArray ep)):=kp rfl
    exact k f .next m' eZ _ n' h' gg (S3.qo kl) pu (tz.trans (aO.freeze kl)) F3 q
   |brk=>exact k f .brk m' eZ H' n' h' gg S3 pu tz F3 q
   |cont=>exact k f .cont m' eZ H' n' h' gg S3 pu tz F3 q
   |ret a=>exact k f (.ret a) m' eZ H' n' h' gg S3 pu tz F3 q
theorem g8{κ:Type}(ae:dy)(l:List (κ×Value)):PR ae [] l↔l=[]:=Iff.rfl
theorem fA{κ:Type}(ae:dy)(k:κ)(a:AV)(r:List (κ×AV))(l:List (κ×Value)):PR ae ((k,a)::r) l↔∃v l',l=(k,v)::l'/\VR ae a v/\PR ae r l':=Iff.rfl
theorem PR.length{κ:Type}{ae:dy}:∀ {es:List (κ×AV)} {l:List (κ×Value)},PR ae es l->l.length=es.length:=by
 intro zz
 induction zz with
 |nil=>
  intro l h
  rw[g8]at h;subst h;rfl
 |cons qx r ih=>
  obtain⟨k,a⟩:=qx
  intro l h
  rw[fA]at h;(refine aE (h) fun v l' ak _ h2=>?_;clear h;subst ak);exact congrArg Nat.succ (ih h2)
theorem PR.keys{κ:Type}{ae:dy}:∀ {es:List (κ×AV)} {l:List (κ×Value)},PR ae es l->l.map (·.1)=es.map (·.1):=by
 intro zz
 induction zz with
 |nil=>
  intro l h
  rw[g8]at h;subst h;rfl
 |cons qx r ih=>
  obtain⟨k,a⟩:=qx
  intro l h
  rw[fA]at h;(refine aE (h) fun v l' ak _ h2=>?_;clear h;subst ak);exact congrArg (List.cons k) (ih h2)
theorem qf{prog:Program}{w:World}{K:Type}[DecidableEq K]{knd:KeyKind prog w K}{o:Obj}{kvs:List (K×Value)}(h:o.IsDictOf knd kvs):∃ep,∀ (hp:Heap) (a:Addr),hp.get? a=some o->hp.DictAt knd a kvs ep:=
 by obtain⟨es,ep,a,b,c,d,e⟩:=h;exact⟨ep,fun hp ad ho=>⟨o,es,ho,a,b,c,d,e⟩⟩
theorem xQ{x:Str}{px pos:Pos}{iter:Expr}{body:List Stmt}{Q:Fl->bP->ah->Prop}(h:WE G D cs cl iter m H fun a H1=>∃l es,a=.ref l/\H1 l=some (.aB es)/\∀ob,dS G D cs cl x body (some (l,.ro (.aB es) ob)) (qo l (.aB es) Q) (es.map fun p=>.int p.1) m (H1.put l (.ro (.aB es) ob)))
 (hx:autoParam (cs.names.lookup x=some .local) aR) (hs:autoParam (∀ (env:Env) (x:Value),foldedSetIterable iter env x=pure x) aJ):W1 G D cs cl (.For (.Name x px) iter body [] pos) m H Q where
 go:=fun c h1 h2 ok mm ae s S lr Q' E k=>by
  refine PySem.wpAny_For (h.go c h1 h2 ok mm ae s S lr _ E fun v a H1 n1 cP tk S1 K1 V1 w=>?_) (hs _)
  refine aE (w) ?_;clear w;intro l es ak hl w;subst ak
  have:v=.ref l:=V1
  clear V1;subst this
  refine aN (S1.get hl) fun ob hm ak hg=>?_;refine aA (ak) fun kvs hd hv=>?_;clear ak
  refine aY (qf hd) fun ep J4=>?_
  refine wpAny_pyIter_dict (s:={ s with heap:=cP,toks:=tk }) (S1.lo l _ hl rfl) (J4 _ _ hg) ?_
  have eG:l≠cP.objs.size:=aq S1.nw _ hm
  have SF:=S1.freeze hl hm
  (refine bh (SF.push (d:=cP.objs.size) (ob:={ cls:=.type "dict_keyiterator",data:=.fields #[.ref l,.int 0 0,.int kvs.length 0,.int ep 0] }) (S1.fr.push _) (S1.nw.push S1.fr _) (aq S1.nw)) fun S2 K2=>?_)
  have KF:aO H1 (H1.put l (.ro (.aB es) ob)) n1 n1:=aO.freeze hl
  refine oV h1 h2 ok (Walks.dictKeys (knd:=intKind G.prog G.w) ok.handled cP.objs.size l eG kvs ep) hx (fun i h hh=>by obtain⟨o,a,b,_⟩:=hh.1;exact⟨o,a,by rw[b];rfl⟩) (items:=es.map fun p=>.int p.1) (by rw[List.length_map,hv.length]) (s:={ s with heap:=cP.push { cls:=.type "dict_keyiterator",data:=.fields #[.ref l,.int 0 0,.int kvs.length 0,.int ep 0] },toks:=tk }) S2 (.head _) (SF.off (aq S1.nw)) (LR.keep S (K1.trans (KF.trans K2)) lr)
   ⟨⟨_,Heap.get?_push_size _ rfl,rfl,rfl⟩,J4 _ _ (Heap.get?_push_of_some _ hg)⟩ (fun i v a e1 e2=>?_) (fun b hb=>?_) (kp:=some (l,.ro (.aB es) ob)) ⟨al ..,w _⟩ Q' E fun f fl m' eZ H' n' h' gg S3 pu kk F3 kp q=>?_
  ·refine bi (e1) fun k x e3 e4=>?_;clear e1
   have ek:=hv.keys
   have:(kvs.map (·.1))[i]?=(es.map (·.1))[i]?:=by rw[ek]
   rw[List.getElem?_map,e3]at this
   rw[List.getElem?_map]at e2 this
   cases q:es[i]? with
   |none=>rw[q]at e2;(exact ax e2)
   |some p=>
    rw[q]at e2 this
    cases e2
    have:k=p.1:=by simpa using this
    clear q e3;subst this
    refine aY (Value.isInt_shape e4) fun t ak=>?_;(clear e4;subst ak)
    exact⟨t,rfl⟩
  ·clear KF K2 S2 SF hg hl S1 k lr S mm ok h2 h1 c;rcases de hb with rfl|hb
   ·exact .inl rfl
   ·have:b=l:=by simpa using hb
    clear J4 hd hx h;subst this
    exact .inr ⟨_,.tail _ hm,eG,.inr ⟨_,rfl⟩⟩
  ·have tz:aO H H' ae n':=fun p hp e=>by
    refine bh ((K1.trans KF) p hp e) fun a1 a2=>?_
    exact kk p (.tail _ a1) (aq S1.nw p a1) a2
   cases fl with
   |next=>
    have kl:H' l=some (.ro (.aB es) ob):=kp rfl
    exact k f .next m' eZ _ n' h' gg (S3.qo kl) pu (tz.trans (aO.freeze kl)) F3 q
   |brk=>exact k f .brk m' eZ H' n' h' gg S3 pu tz F3 q
   |cont=>exact k f .cont m' eZ H' n' h' gg S3 pu tz F3 q
   |ret a=>exact k f (.ret a) m' eZ H' n' h' gg S3 pu tz F3 q
noncomputable def nS(n:Int):List AV:=(List.range n.toNat).map fun (i:Nat)=>AV.int (Int.ofNat i)
theorem rangeSize_one{n:Int}(h:0<=n):Builtin.Range.rangeSize 0 n 1=n:=by
 unfold Builtin.Range.rangeSize
 simp only[Int.ediv_one]
 split<;>(try split)<;>(first|((simp +arith only;done))|lia)
theorem xU{x:Str}{px pos:Pos}{iter:Expr}{body:List Stmt}{Q:Fl->bP->ah->Prop}(h:WE G D cs cl iter m H fun a H1=>∃l n,a=.ref l/\H1 l=some (.range n)/\0<=n/\n<2 ^ 62/\∀ob,dS G D cs cl x body (some (l,.ro (.range n) ob)) (qo l (.range n) Q) (nS n) m (H1.put l (.ro (.range n) ob)))
 (hx:autoParam (cs.names.lookup x=some .local) aR) (hs:autoParam (∀ (env:Env) (x:Value),foldedSetIterable iter env x=pure x) aJ):W1 G D cs cl (.For (.Name x px) iter body [] pos) m H Q where
 go:=fun c h1 h2 ok mm ae s S lr Q' E k=>by
  refine PySem.wpAny_For (h.go c h1 h2 ok mm ae s S lr _ E fun v a H1 n1 cP tk S1 K1 V1 w=>?_) (hs _)
  refine oX (w) ?_;clear w;intro l n ak hl hz hb w;subst ak
  have:v=.ref l:=V1
  clear V1;subst this
  refine aN (S1.get hl) fun ob hm ak hg=>?_;refine jM (ak) fun t u v cu=>?_;clear ak;subst cu
  refine wpAny_pyIter_range (s:={ s with heap:=cP,toks:=tk }) (a:=0) (b:=n) (c:=1) hg (small_one (by exact Int.natCast_nonneg _) (by exact Int.natCast_nonneg _) (by exact Sn hz hb) hb) ?_
  rw[rangeSize_one hz]
  have eG:l≠cP.objs.size:=aq S1.nw _ hm
  have SF:=S1.freeze hl hm
  (refine bh (SF.push (d:=cP.objs.size) (ob:={ cls:=.type "range_iterator",data:=.fields #[rawInt 0,rawInt n,rawInt 1] }) (S1.fr.push _) (S1.nw.push S1.fr _) (aq S1.nw)) fun S2 K2=>?_)
  have KF:aO H1 (H1.put l (.ro (.range n) { cls:=.type "range",dict:=none,data:=.fields #[.int 0 t,.int n u,.int 1 v],slots:=#[] })) n1 n1:=aO.freeze hl
  have hN:((n.toNat:Nat):Int)=n:=by exact Fa hz
  refine oV h1 h2 ok (Walks.range ok.handled cP.objs.size 0 1 n.toNat) hx (fun i h hh=>⟨_,hh,rfl⟩) (items:=nS n) (by simp[nS]) (s:={ s with heap:=cP.push { cls:=.type "range_iterator",data:=.fields #[rawInt 0,rawInt n,rawInt 1] },toks:=tk }) S2 (.head _) (SF.off (aq S1.nw)) (LR.keep S (K1.trans (KF.trans K2)) lr)
   (by show Heap.get? _ _=_;rw[Heap.get?_push_size _ rfl];simp[hN]) (fun i v a e1 e2=>?_) (fun b hb=>?_) (kp:=some (l,.ro (.range n) { cls:=.type "range",dict:=none,data:=.fields #[.int 0 t,.int n u,.int 1 v],slots:=#[] })) ⟨al ..,w _⟩ Q' E fun f fl m' eZ H' n' h' gg S3 pu kk F3 kp q=>?_
  ·refine aY (e1) fun t ak=>?_;clear e1;subst ak
   unfold nS at e2
   rw[List.getElem?_map]at e2
   cases q:(List.range n.toNat)[i]? with
   |none=>rw[q]at e2;(exact ax e2)
   |some p=>
    rw[q]at e2
    cases e2
    have:p=i:=by
     rw[List.getElem?_eq_some_iff]at q
     refine aY (q) fun q1 q2=>?_;clear q
     simpa using q2.symm
    clear q;subst this
    exact⟨t,by simp⟩
  ·exact .inl (by simpa using hb)
  ·have tz:aO H H' ae n':=fun p hp e=>by
    refine bh ((K1.trans KF) p hp e) fun a1 a2=>?_
    exact kk p (.tail _ a1) (aq S1.nw p a1) a2
   cases fl with
   |next=>
    have kl:H' l=some (.ro (.range n) { cls:=.type "range",dict:=none,data:=.fields #[.int 0 t,.int n u,.int 1 v],slots:=#[] }):=kp rfl
    exact k f .next m' eZ _ n' h' gg (S3.qo kl) pu (tz.trans (aO.freeze kl)) F3 q
   |brk=>exact k f .brk m' eZ H' n' h' gg S3 pu tz F3 q
   |cont=>exact k f .cont m' eZ H' n' h' gg S3 pu tz F3 q
   |ret a=>exact k f (.ret a) m' eZ H' n' h' gg S3 pu tz F3 q
structure WB(G:Gl)(D:Nat)(f:Value)(args:List AV)(H:ah)(Q:AV->ah->Prop):Prop where
 go:∀c:Cx,c.Ok G D->∀mm ae s,St G c.h₀ c.L mm H ae s.heap->∀vals,dw ae args vals->∀ (Q':Value->Shared->Prop) E,
  (∀v a H' am h' tk,St G c.h₀ c.L mm H' am h'->aO H H' ae am->VR am a v->Q a H'->Q' v { s with heap:=h',toks:=tk })->
  wpAny (model G.prog G.w) c.A (call f vals) Q' E s
@[reducible] noncomputable def NV(G:Gl)(D:Nat)(f:Value)(Q:AV->ah->Prop):List AV->ah->Prop:=fun as H=>WB G D f as H Q
theorem dw.app{n:dy}:∀ {xs ys:List AV} {vs ws:List Value},dw n xs vs->dw n ys ws->dw n (xs++ys) (vs++ws):=by
 intro zz
 induction zz with
 |nil=>
  intro ys vs ws a b
  rw[bC]at a;subst a;exact b
 |cons x xs ih=>
  intro ys vs ws a b
  rw[aW]at a
  refine aE (a) fun v r ak a1 a2=>?_;clear a;subst ak
  exact(aW ..).mpr ⟨v,r++ws,rfl,a1,ih a2 b⟩
theorem td{c:Cx}(h1:c.cs=cs)(h2:c.cl=cl)(ok:c.Ok G D){mm ae s}(S:St G c.h₀ c.L mm H ae s.heap)(lr:LR ae m mm){args:List Expr}{pos:Pos}{id:String}{first:List Value}{fs:List AV}{Q:AQ}(hp:(args.all cN)=true)
 (hf:dw ae fs first) (h:kf G D cs cl args m H fun as H'=>WB G D (.builtin id) (fs++as) H' Q) (Q':Value->Shared->Prop) (E:Value->Shared->Prop)
 (k:∀v a H' am h' tk,St G c.h₀ c.L mm H' am h'->aO H H' ae am->VR am a v->Q a H'->Q' v { s with heap:=h',toks:=tk }):
 wpAny (model G.prog G.w) c.A (callWith pos (.builtin id) first (backTo pos (starEach args c.env)) []) Q' E s:=by
 refine PySem.Calls.callWith_builtin (ie hp) ?_
 cases args with
 |nil=>
  refine evalArgs_nil3 ?_
  exact WB.go h c ok mm ae s S _ (hf.app ((bC ..).mpr rfl)) Q' E k
 |cons e es=>
  have ko:=hp
  rw[List.all_cons,Bool.and_eq_true]at ko
  have fin:=kf.go hp h c h1 h2 ok pos S lr (fun vs s'=>wpAny (model G.prog G.w) c.A (call (.builtin id) (first++vs)) Q' E s') E fun vs as H' n' h' tk S1 K1 V1 len w=>
   w.go c ok mm n' _ S1 (first++vs) ((S.SM K1 hf).app V1) Q' E fun v a pr sg jK gg S2 K2 V2 q=>k v a pr sg jK gg S2 (K1.trans K2) V2 q
  rw[cC ko.1]at fin⊢
  exact evalArgs_plain fin
theorem zZ{c:Cx}(h1:c.cs=cs)(h2:c.cl=cl)(ok:c.Ok G D){mm ae s}(S:St G c.h₀ c.L mm H ae s.heap)(lr:LR ae m mm){args:List Expr}{pos:Pos}{T:String}{Q:AQ}(hp:(args.all cN)=true)
 (h:kf G D cs cl args m H fun as H'=>WB G D (.type T) as H' Q) (Q':Value->Shared->Prop) (E:Value->Shared->Prop)
 (k:∀v a H' am h' tk,St G c.h₀ c.L mm H' am h'->aO H H' ae am->VR am a v->Q a H'->Q' v { s with heap:=h',toks:=tk }):
 wpAny (model G.prog G.w) c.A (callWith pos (.type T) [] (backTo pos (starEach args c.env)) []) Q' E s:=by
 cases args with
 |nil=>exact PyProof.Rows.callWith_type0 (WB.go h c ok mm ae s S _ ((bC ..).mpr rfl) Q' E k)
 |cons e es=>
  have ko:=hp
  rw[List.all_cons,Bool.and_eq_true]at ko
  refine PyProof.Rows.callWith_type1 (kf.go hp h c h1 h2 ok pos S lr _ E fun vs as H' n' h' tk S1 K1 V1 len w=>?_) (cC ko.1) (ie ko.2)
  exact w.go c ok mm n' _ S1 vs V1 Q' E fun v a pr sg jK gg S2 K2 V2 q=>k v a pr sg jK gg S2 (K1.trans K2) V2 q
theorem jQ{x:Str}{xp pos:Pos}{args:List Expr}{id:String}{Q:AQ}(e:nsIn G.K mainGlobals x=some none)(hv:bootBuiltins x=some (.builtin id))(hn:x≠"__name__")
 (h:kf G D cs cl args m H (NV G D (.builtin id) Q)) (hp:autoParam ((args.all cN)=true) aR) (hx:autoParam (cs.names.lookup x=some .globalImplicit) aR) (hd:autoParam ((x==("__debug__":Str))=false) aD):
 WE G D cs cl (.Call (.Name x xp) args [] pos) m H Q where
 go:=fun c h1 h2 ok mm ae s S lr Q' E k=>by
  refine Call_ ((rD e hv hn (h:=(⟨rfl,rfl⟩:AV.raw (.builtin id)=AV.raw (.builtin id)/\H=H)) hx hd:WE G D cs cl (.Name x xp) m H fun a H'=>a=AV.raw (.builtin id)/\H'=H).go c h1 h2 ok mm ae s S lr _ E fun v a H' n' h' tk S1 K1 V1 q=>?_) (by rfl)
  refine bh (q) fun ak cu=>?_;clear q;subst ak;subst cu
  have:v=.builtin id:=V1
  clear V1;subst this
  exact td (s:={ s with heap:=h',toks:=tk }) h1 h2 ok S1 (LR.keep S K1 lr) (fs:=[]) hp ((bC ..).mpr rfl) h _ _ fun v a pr sg jK gg S2 K2 V2 q=>k v a pr sg jK gg S2 (K1.trans K2) V2 q
theorem ft{x:Str}{xp pos:Pos}{args:List Expr}{T:String}{Q:AQ}(e:nsIn G.K mainGlobals x=some none)(hv:bootBuiltins x=some (.type T))(hn:x≠"__name__")
 (h:kf G D cs cl args m H (NV G D (.type T) Q)) (hp:autoParam ((args.all cN)=true) aR) (hx:autoParam (cs.names.lookup x=some .globalImplicit) aR) (hd:autoParam ((x==("__debug__":Str))=false) aD):
 WE G D cs cl (.Call (.Name x xp) args [] pos) m H Q where
 go:=fun c h1 h2 ok mm ae s S lr Q' E k=>by
  refine Call_ ((rD e hv hn (h:=(⟨rfl,rfl⟩:AV.raw (.type T)=AV.raw (.type T)/\H=H)) hx hd:WE G D cs cl (.Name x xp) m H fun a H'=>a=AV.raw (.type T)/\H'=H).go c h1 h2 ok mm ae s S lr _ E fun v a H' n' h' tk S1 K1 V1 q=>?_) (by rfl)
  refine bh (q) fun ak cu=>?_;clear q;subst ak;subst cu
  have:v=.type T:=V1
  clear V1;subst this
  exact zZ (s:={ s with heap:=h',toks:=tk }) h1 h2 ok S1 (LR.keep S K1 lr) hp h _ _ fun v a pr sg jK gg S2 K2 V2 q=>k v a pr sg jK gg S2 (K1.trans K2) V2 q
noncomputable def vg:AO->Str->Option String
 |.list _,x=>if x="append" then some "list.append" else if x="pop" then some "list.pop" else if x="insert" then some "list.insert" else if x="extend" then some "list.extend" else none
 |.aB _,x=>if x="get" then some "dict.get" else none
 |.bq _,x=>if x="get" then some "dict.get" else none
 |.bX _,x=>if x="get" then some "dict.get" else none
 |.fH _,x=>if x="add" then some "set.add" else if x="discard" then some "set.discard" else none
 |_,_=>none
theorem qz{x a:Str}{b id:String}{r:Option String}{P:Prop}(h:(if x=a then some b else r)=some id)(k1:x=a->b=id->P)(k2:r=some id->P):P:=by
 by_cases q:x=a
 ·rw[if_pos q]at h;exact k1 q (Option.some.inj h)
 ·rw[if_neg q]at h;exact k2 h
theorem sm{c:Cx}(ok:c.Ok G D){mm ae s}(S:St G c.h₀ c.L mm H ae s.heap){l:Addr}{o:AO}{name:Str}{id:String}(hl:H l=some o)(hm:vg o name=some id){pl:Sem Bool}(Q':Value×List Value->Shared->Prop)(E:Value->Shared->Prop)
 (k:Q' (.builtin id,[.ref l]) s):wpAny (model G.prog G.w) c.A (getMethod (.ref l) name pl) Q' E s:=by
 refine aN (S.get hl) fun ob h1 h2 h3=>?_
 clear hl;cases o with
 |list xs=>
  refine bi (h2) fun vs n ak _=>?_;clear h2;(clear h3;subst ak)
  refine qz hm (fun e z=>?_) fun hm=>?_
  ·(clear hm;subst e z);exact listMethod_K S.nw h1 PySem.F.slot_list_append PySem.F.type_list_append k
  refine qz hm (fun e z=>?_) fun hm=>?_
  ·subst e z;exact listMethod_K S.nw h1 PySem.F.slot_list_pop PySem.F.type_list_pop k
  refine qz hm (fun e z=>?_) fun hm=>?_
  ·subst e z;exact listMethod_K S.nw h1 PySem.F.slot_list_insert PySem.F.type_list_insert k
  refine qz hm (fun e z=>?_) fun hm=>?_
  ·subst e z;exact listMethod_K S.nw h1 PySem.F.slot_list_extend PySem.F.type_list_extend k
  ·exact ax hm
 |aB es=>
  refine aA (h2) fun kvs hd _=>?_;clear h2
  refine qz hm (fun e z=>?_) fun hm=>ax hm
  (clear hm;subst e z);exact kdg_method S.nw h1 hd k
 |bq es=>
  refine aA (h2) fun kvs hd _=>?_;clear h2
  refine qz hm (fun e z=>?_) fun hm=>ax hm
  (clear hm;subst e z);exact kdg_method S.nw h1 hd k
 |bX es=>
  refine qz hm (fun e z=>?_) fun hm=>ax hm
  clear hm;subst e z
  exact getMethod_builtin ⟨_,h3,h2.1.1⟩ PySem.F.plainAttrs_dict PySem.F.slot_dict_get PySem.F.type_dict_get (fun a e=>by cases e;exact⟨_,h3,h2.1.2.1⟩) k
 |fH T=>
  have hc:=h2.1.1
  refine qz hm (fun e z=>?_) fun hm=>?_
  ·clear h2 hm T;subst e z
   exact getMethod_builtin ⟨_,h3,hc.1⟩ PySem.F.plainAttrs_set PySem.F.slot_set_add PySem.F.type_set_add (fun a e=>by cases e;exact⟨_,h3,hc.2.1⟩) k
  refine qz hm (fun e z=>?_) fun hm=>ax hm
  subst e z
  exact getMethod_builtin ⟨_,h3,hc.1⟩ PySem.F.plainAttrs_set PySem.F.slot_set_discard PySem.F.type_set_discard (fun a e=>by cases e;exact⟨_,h3,hc.2.1⟩) k
 |_=>(exact ax hm)
structure ru(G:Gl)(D:Nat)(cs:Scope)(cl:List (Str×Addr))(m:bP)(name:Str)(args:List Expr)(a:AV)(H1:ah)(Q:AV->ah->Prop):Prop where
 go:∃l ob id,a=.ref l/\H1 l=some ob/\vg ob name=some id/\kf G D cs cl args m H1 (Fn (.ref l) (NV G D (.builtin id) Q))
theorem ru.of{name:Str}{args:List Expr}{l:Addr}{ob:AO}{id:String}{Q:AQ}(h1:H l=some ob)(h2:vg ob name=some id)(q:kf G D cs cl args m H (Fn (.ref l) (NV G D (.builtin id) Q))):ru G D cs cl m name args (.ref l) H Q:=⟨l,ob,id,rfl,h1,h2,q⟩
@[reducible] noncomputable def Vi(G:Gl)(D:Nat)(cs:Scope)(cl:List (Str×Addr))(m:bP)(name:Str)(args:List Expr)(Q:AV->ah->Prop):AV->ah->Prop:=fun a H=>ru G D cs cl m name args a H Q
theorem WE.cW{o:Expr}{name:Str}{apos pos:Pos}{args:List Expr}{Q:AQ}
 (h:WE G D cs cl o m H (Vi G D cs cl m name args Q))
 (hp:autoParam ((args.all cN)=true) aR) {pl:Env->Sem Bool}
 (he:autoParam (∀env:Env,eval (.Call (.Attribute o name apos) args [] pos) env=(do
  let ov←eval o env
  standAt apos.atName
  let (f,first)←holding [ov] (getMethod ov name (pl env))
  callWith pos f first (backTo pos (starEach args env)) [])) aI):
 WE G D cs cl (.Call (.Attribute o name apos) args [] pos) m H Q where
 go:=fun c h1 h2 ok mm ae s S lr Q' E k=>by
  refine MethodCall_ (h.go c h1 h2 ok mm ae s S lr _ E fun v a H' n' h' tk S1 K1 V1 q=>?_) (he _)
  obtain⟨l,ob,id,rfl,hl,hm,q⟩:=q
  have:v=.ref l:=V1
  clear V1;subst this
  refine sm (s:={ s with heap:=h',toks:=tk }) ok S1 hl hm _ _ ?_
  exact td (s:={ s with heap:=h',toks:=tk }) h1 h2 ok S1 (LR.keep S K1 lr) (fs:=[.ref l]) hp ((aW ..).mpr ⟨_,[],rfl,rfl,(bC ..).mpr rfl⟩) q _ _ fun v a pr sg jK gg S2 K2 V2 q=>k v a pr sg jK gg S2 (K1.trans K2) V2 q
theorem hM{ae:dy}{a:AV}{vals:List Value}(h:dw ae [a] vals):∃v,vals=[v]/\VR ae a v:=by
 refine aE ((aW ..).mp h) fun v r ak h1 h2=>?_;(clear h;subst ak)
 rw[(bC ..).mp h2];exact⟨v,rfl,h1⟩
theorem jI{ae:dy}{a b:AV}{vals:List Value}(h:dw ae [a,b] vals):∃v w,vals=[v,w]/\VR ae a v/\VR ae b w:=by
 refine aE ((aW ..).mp h) fun v r ak h1 h2=>?_;(clear h;subst ak)
 refine aA (hM h2) fun w ak h3=>?_;(clear h2;subst ak)
 exact⟨v,w,rfl,h1,h3⟩
theorem vn{ae:dy}{a b d:AV}{vals:List Value}(h:dw ae [a,b,d] vals):∃v w x,vals=[v,w,x]/\VR ae a v/\VR ae b w/\VR ae d x:=by
 refine aE ((aW ..).mp h) fun v r ak h1 h2=>?_;(clear h;subst ak)
 refine aE (jI h2) fun w x ak h3 h4=>?_;(clear h2;subst ak)
 exact⟨v,w,x,rfl,h1,h3,h4⟩
theorem dw.push{ae:dy}{xs:List AV}{vs:List Value}(h:dw ae xs vs){a:AV}{v:Value}(hv:VR ae a v):dw ae (xs++[a]) (vs++[v]):=h.app ((aW ..).mpr ⟨v,[],rfl,hv,(bC ..).mpr rfl⟩)
theorem dG{l:Addr}{xs:List AV}{a:AV}{Q:AQ}(hl:H l=some (.list xs))(hz:xs.length<=16000000)(h:Q .none (H.put l (.list (xs++[a])))):WB G D (.builtin "list.append") [.ref l,a] H Q where
 go:=fun c ok mm ae s S vals hv Q' E k=>by
  refine aE (jI hv) fun v w ak h1 h2=>?_;(clear hv;subst ak)
  have:v=.ref l:=h1
  clear h1;subst this
  refine aN (S.get hl) fun ob hm ak hg=>?_;refine bi (ak) fun vs n cu eF=>?_;clear ak;(clear hg;subst cu)
  refine dF (fO (listOf (vs.toArray.push w) (n+1)) S.nd hm) fun n' U hk u1 u2 _=>?_
  refine append_K S.fr S.nw U (fun h' F N=>?_) (by rw[List.size_toArray,eF.length,sizeLine_eq];(exact d6 ‹_› (cm rfl)))
  refine ci (S.upd (o':=.list (xs++[a])) hl hm F N hk u1 u2 ⟨vs++[w],n+1,by simp,eF.push h2⟩) fun S' K' _=>?_
  exact k .none .none _ n' h' _ S' K' rfl h
theorem dw.last{ae:dy}:∀ {xs:List AV} {a:AV} {vs:List Value},dw ae (xs++[a]) vs->∃us u,vs=us++[u]/\dw ae xs us/\VR ae a u:=by
 intro zz
 induction zz with
 |nil=>
  intro a vs h
  (refine aA (hM h) fun v ak h1=>?_;(clear h;subst ak));exact⟨[],v,rfl,(bC ..).mpr rfl,h1⟩
 |cons x xs ih=>
  intro a vs h
  refine aE ((aW ..).mp h) fun v r ak h1 h2=>?_;(clear h;subst ak)
  refine aE (ih h2) fun us u ak h3 h4=>?_;(clear h2;subst ak)
  exact⟨v::us,u,rfl,(aW ..).mpr ⟨v,us,rfl,h1,h3⟩,h4⟩
theorem sy:∀ (us:List Value) (u:Value),kl_last (us++[u])=some (us,u):=by
 intro zz
 induction zz with
 |nil=>
  intro u
  exact rfl
 |cons v us ih=>
  intro u
  cases hq:us++[u]with
  |nil=>(clear ih;cases us)<;>cases hq
  |cons y r=>
   show kl_last (v::(us++[u]))=_
   rw[hq]
   have:=ih u
   rw[hq]at this
   show(match kl_last (y::r)with|some (p,y)=>some (v::p,y)|none=>some ([],v))=_
   rw[this]
theorem WB.pop{l:Addr}{xs:List AV}{a:AV}{Q:AQ}(hl:H l=some (.list (xs++[a])))(hz:xs.length<=16000000)(h:Q a (H.put l (.list xs))):WB G D (.builtin "list.pop") [.ref l] H Q where
 go:=fun c ok mm ae s S vals hv Q' E k=>by
  refine aA (hM hv) fun v ak h1=>?_;(clear hv;subst ak)
  have:v=.ref l:=h1
  clear h1;subst this
  refine aN (S.get hl) fun ob hm ak hg=>?_;refine bi (ak) fun vs n cu eF=>?_;clear ak;(clear hg;subst cu)
  refine aE (eF.last) fun us u ak h3 h4=>?_;(clear eF;subst ak)
  refine dF (fO (listOf us.toArray (n+1)) S.nd hm) fun n' U hk u1 u2 _=>?_
  refine kl_pop (p:=us) (y:=u) S.fr S.nw (by simpa using sy us u) U (by simp[h3.length,sizeLine_eq];(exact d6 ‹_› (cm rfl))) (fun h' F N=>?_)
  refine ci (S.upd (o':=.list xs) hl hm F N hk u1 u2 ⟨us,n+1,rfl,h3⟩) fun S' K' sb=>?_
  exact k u a _ n' h' _ S' K' (h4.sub sb) h
theorem lK{l:Addr}{o:AO}{xs:List AV}{Q:AQ}(hl:H l=some o)(ho:o.view=.list xs)(hz:xs.length<=16000000)(h:Q (.int xs.length) H):WB G D (.builtin "len") [.ref l] H Q where
 go:=fun c ok mm ae s S vals hv Q' E k=>by
  refine aA (hM hv) fun v ak h1=>?_;(clear hv;subst ak)
  have:v=.ref l:=h1
  clear h1;subst this
  refine aN (S.get hl) fun ob hm kr hg=>?_
  have hZ:=kr.view
  rw[ho]at hZ
  refine bi (hZ) fun vs n ak eF=>?_;clear hZ;(clear kr hm ho hl o;subst ak)
  refine PyProof.Rows.len_list ⟨_,hg,rfl,n,rfl⟩ (by rw[List.size_toArray,eF.length];lia) ?_
  rw[List.size_toArray,eF.length]
  exact k _ (.int xs.length) H ae s.heap _ S aO.rfl ⟨_,rfl⟩ h
theorem ku{xs:List AV}{Q:AQ}(hz:xs.length<=16000000)(h:Q (.int xs.length) H):WB G D (.builtin "len") [.tup xs] H Q where
 go:=fun c ok mm ae s S vals hv Q' E k=>by
  refine aA (hM hv) fun v ak h1=>?_;(clear hv;subst ak)
  refine aE ((ee ..).mp h1) fun t vs ak hm eF=>?_;(clear h1;subst ak)
  refine PyProof.Rows.len_tuple ⟨_,(S.nw _ hm).1,rfl,0,rfl⟩ (by rw[List.size_toArray,eF.length];lia) ?_
  rw[List.size_toArray,eF.length]
  exact k _ (.int xs.length) H ae s.heap _ S aO.rfl ⟨_,rfl⟩ h
noncomputable def uX(e:Expr):Bool:=!(Nat.beq e.ctorIdx 26)
theorem pN{sl:Expr}{o i:Value}(h:uX sl=true):subscripted sl false o i=operate [o,i] (getItem o i):=by
 cases sl<;>first|rfl|(exact bI h)
structure WI(G:Gl)(D:Nat)(a i:AV)(H:ah)(Q:AV->ah->Prop):Prop where
 go:∀c:Cx,c.Ok G D->∀mm ae s,St G c.h₀ c.L mm H ae s.heap->∀va vi,VR ae a va->VR ae i vi->∀ (Q':Value->Shared->Prop) E,
  (∀v x H' am h' tk,St G c.h₀ c.L mm H' am h'->aO H H' ae am->VR am x v->Q x H'->Q' v { s with heap:=h',toks:=tk })->
  wpAny (model G.prog G.w) c.A (getItem va vi) Q' E s/\∃T id,s.TypeIs va T/\typeLookup (.type T) "__getitem__"=pure (some (.builtin id))
@[reducible] noncomputable def Vq(G:Gl)(D:Nat)(a:AV)(Q:AV->ah->Prop):AV->ah->Prop:=fun b H=>WI G D a b H Q
@[reducible] noncomputable def Vs(G:Gl)(D:Nat)(cs:Scope)(cl:List (Str×Addr))(i:Expr)(m:bP)(Q:AV->ah->Prop):AV->ah->Prop:=fun a H=>WE G D cs cl i m H (Vq G D a Q)
theorem WE.item{e i:Expr}{pos:Pos}{Q:AQ}(h:WE G D cs cl e m H (Vs G D cs cl i m Q))(hi:autoParam (uX i=true) aR):WE G D cs cl (.Subscript e i pos) m H Q where
 go:=fun c h1 h2 ok mm ae s S lr Q' E k=>by
  refine Subscript_ (h.go c h1 h2 ok mm ae s S lr _ E fun va a H1 n1 cP tk S1 K1 V1 w=>?_)
  refine w.go c h1 h2 ok mm n1 _ S1 (LR.keep S K1 lr) _ E fun vb b H2 n2 gw gI S2 K2 V2 w2=>?_
  refine ET (w2.go c ok mm n2 { s with heap:=gw,toks:=gI } S2 va vb (S1.vr K2 V1) V2 Q' E fun v x H3 n3 h3 pA S3 K3 V3 q=>k v x H3 n3 h3 pA S3 ((K1.trans K2).trans K3) V3 q) fun z T id hT hl=>?_
  exact tail_any hT hl z (pN hi)
theorem dw.at{ae:dy}:∀ {xs:List AV} {vs:List Value},dw ae xs vs->∀ {i:Nat} {a:AV},xs[i]?=some a->∃v,vs[i]?=some v/\VR ae a v:=by
 intro zz
 induction zz with
 |nil=>
  intro _ _ i a e
  simp at e
 |cons x xs ih=>
  intro _ h i a e
  refine aE ((aW ..).mp h) fun v0 r ak h1 h2=>?_;(clear h;subst ak)
  cases i with
  |zero=>cases e;exact⟨v0,rfl,h1⟩
  |succ i=>exact ih h2 e
theorem gA{i:Int}{n:Nat}(h0:0<=i)(h:i.toNat<n):seqIndex? i n=some i.toNat:=by
 unfold seqIndex?
 have h1:¬i<0:=by exact M7 h0
 have h2:i<(n:Int):=by exact Sm h
 simp[h1,h0,h2]
theorem WI.tup{xs:List AV}{i:Int}{a:AV}{Q:AQ}(h0:0<=i)(hx:xs[i.toNat]?=some a)(hz:xs.length<=16000000)(h:Q a H):WI G D (.tup xs) (.int i) H Q where
 go:=fun c ok mm ae s S va vi ha hi Q' E k=>by
  refine aE ((ee ..).mp ha) fun t vs ak hm eF=>?_;(clear ha;subst ak)
  refine aY (hi) fun u ak=>?_;clear hi;subst ak
  refine aA (eF.at hx) fun v hv hr=>?_
  have hT:IsTup s.heap t vs.toArray:=⟨_,(S.nw _ hm).1,rfl,0,rfl⟩
  have iP:i.toNat<xs.length:=by
   rw[List.getElem?_eq_some_iff]at hx
   exact hx.1
  refine⟨PyProof.Rows.getItem_tuple (k:=i) (u:=u) hT (by lia) (by lia) (j:=i.toNat) (by rw[List.size_toArray,eF.length];exact gA h0 iP) (by simpa using hv) (k v a H ae s.heap s.toks S aO.rfl hr h),"tuple","tuple.__getitem__",⟨_,(S.nw _ hm).1,rfl⟩,PySem.F.slot_tuple_getitem.lookup⟩
theorem WI.list{l:Addr}{o:AO}{xs:List AV}{i:Int}{a:AV}{Q:AQ}(hl:H l=some o)(ho:o.view=.list xs)(h0:0<=i)(hx:xs[i.toNat]?=some a)(hz:xs.length<=16000000)(h:Q a H):WI G D (.ref l) (.int i) H Q where
 go:=fun c ok mm ae s S va vi ha hi Q' E k=>by
  have:va=.ref l:=ha
  clear ha;subst this
  refine aY (hi) fun u ak=>?_;clear hi;subst ak
  refine aN (S.get hl) fun ob hm kr hg=>?_
  have hZ:=kr.view
  rw[ho]at hZ
  refine bi (hZ) fun vs n ak eF=>?_;clear hZ;(clear kr hm ho hl o;subst ak)
  refine aA (eF.at hx) fun v hv hr=>?_
  have iP:i.toNat<xs.length:=by
   rw[List.getElem?_eq_some_iff]at hx
   exact hx.1
  exact⟨PySem.wpAny_getItem_list ⟨_,hg,rfl,n,rfl⟩ h0 (by lia) (by simpa using hv) (k v a H ae s.heap s.toks S aO.rfl hr h),"list","list.__getitem__",⟨_,hg,rfl⟩,PySem.F.slot_list_getitem.lookup⟩
theorem PR.at{κ:Type}[DecidableEq κ]{ae:dy}{k:κ}{a:AV}:∀ {es:List (κ×AV)} {l:List (κ×Value)},PR ae es l->es.lookup k=some a->∃v,valueAt l k=some v/\VR ae a v:=by
 intro zz
 induction zz with
 |nil=>
  intro l h e
  exact ax e
 |cons qx r ih=>
  obtain⟨q,b⟩:=qx
  intro l h e
  refine aE ((fA ..).mp h) fun v l' ak h1 h2=>?_;(clear h;subst ak)
  rw[List.lookup_cons]at e
  by_cases z:k=q
  ·subst z
   simp only[beq_self_eq_true]at e
   cases e
   exact⟨v,by simp[valueAt],h1⟩
  ·have z1:(k==q)=false:=by simpa using z
   simp only[z1]at e
   refine aA (ih h2 e) fun v' e1 e2=>?_
   refine⟨v',?_,e2⟩
   unfold valueAt at e1⊢
   rw[List.find?_cons_of_neg (by simpa using fun x=>z x.symm)]
   exact e1
theorem PR.none{κ:Type}[DecidableEq κ]{ae:dy}{k:κ}:∀ {es:List (κ×AV)} {l:List (κ×Value)},PR ae es l->es.lookup k=none->valueAt l k=none:=by
 intro zz
 induction zz with
 |nil=>
  intro l h e
  rw[(g8 ..).mp h];rfl
 |cons qx r ih=>
  obtain⟨q,b⟩:=qx
  intro l h e
  refine aE ((fA ..).mp h) fun v l' ak h1 h2=>?_;(clear h;subst ak)
  rw[List.lookup_cons]at e
  by_cases z:k=q
  ·clear h2 h1 ih ae;subst z
   simp only[beq_self_eq_true]at e
   exact bg e
  ·have z1:(k==q)=false:=by simpa using z
   simp only[z1]at e
   have:=ih h2 e
   unfold valueAt at this⊢
   rw[List.find?_cons_of_neg (by simpa using fun x=>z x.symm)]
   exact this
theorem WI.aB{l:Addr}{o:AO}{es:List (Int×AV)}{i:Int}{a:AV}{Q:AQ}(hl:H l=some o)(ho:o.view=.aB es)(hx:es.lookup i=some a)(h:Q a H):WI G D (.ref l) (.int i) H Q where
 go:=fun c ok mm ae s S va vi ha hi Q' E k=>by
  have:va=.ref l:=ha
  clear ha;subst this
  refine aY (hi) fun u ak=>?_;clear hi;subst ak
  refine aN (S.get hl) fun ob hm kr hg=>?_
  have hZ:=kr.view
  rw[ho]at hZ
  refine aA (hZ) fun kvs hd hr=>?_;clear hZ
  refine aA (hr.at hx) fun v hv Qo=>?_
  have EH:=(kda_dict S.nw hm hd).mapOf
  have hT:s.heap.get? l=some ob:=hg
  exact⟨PySem.wpAny_getItem_of (intKind_is _ _ _ _) EH hv (k v a H ae s.heap _ S aO.rfl Qo h),"dict","dict.__getitem__",EH.typeIs,PySem.F.slot_dict_getitem.lookup⟩
theorem WI.bq{l:Addr}{o:AO}{es:List (Str×AV)}{i:Str}{a:AV}{Q:AQ}(hl:H l=some o)(ho:o.view=.bq es)(hx:es.lookup i=some a)(h:Q a H):WI G D (.ref l) (.str i) H Q where
 go:=fun c ok mm ae s S va vi ha hi Q' E k=>by
  have:va=.ref l:=ha
  clear ha;subst this
  refine aY (hi) fun u ak=>?_;clear hi;subst ak
  refine aN (S.get hl) fun ob hm kr hg=>?_
  have hZ:=kr.view
  rw[ho]at hZ
  refine aA (hZ) fun kvs hd hr=>?_;clear hZ
  refine aA (hr.at hx) fun v hv Qo=>?_
  have EH:=(kda_dict S.nw hm hd).mapOf
  exact⟨PySem.wpAny_getItem_of (strKind_is _ _ _ _) EH hv (k v a H ae s.heap _ S aO.rfl Qo h),"dict","dict.__getitem__",EH.typeIs,PySem.F.slot_dict_getitem.lookup⟩
noncomputable def kW(S:Int->Bool):List Int->Nat
 |[]=>0
 |k::r=>th (S k)+kW S r
noncomputable def o9:List Int:=[0,1,2,3,4,5,6,7]
theorem E1(S:Int->Bool):kW S []=0:=rfl
theorem j7(S:Int->Bool)(k r):kW S (k::r)=th (S k)+kW S r:=rfl
theorem ph(S:Int->Bool):uC S=kW S o9:=by simp only[uC,j7,E1,o9];exact Sl
theorem zU{S:Int->Bool}{k:Int}:∀ {l:List Int},l.Nodup->kW (fun x=>S x||decide (x=k)) l=if k∈l/\S k=false then kW S l+1 else kW S l:=by
 intro zz
 induction zz with
 |nil=>
  intro _
  (rfl)
 |cons x r ih=>
  intro h
  rw[List.nodup_cons]at h
  rw[j7,j7,ih h.2]
  by_cases q:x=k
  ·clear ih;subst q
   have:¬(x∈r/\S x=false):=fun z=>h.1 z.1
   rw[if_neg this]
   cases hs:S x<;>simp[th];exact Sk
  ·have q':¬k=x:=fun z=>q z.symm
   simp[q,q']
   split<;>(rfl)
set_option tactic.hygienic true in
theorem zV{S:Int->Bool}{k:Int}:∀ {l:List Int},l.Nodup->kW (fun x=>S x&&!decide (x=k)) l=if k∈l/\S k=true then kW S l-1 else kW S l:=by
 intro zz
 induction zz with
 |nil=>
  intro _
  (rfl)
 |cons x r ih=>
  intro h
  rw[List.nodup_cons]at h
  rw[j7,j7,ih h.2]
  by_cases q:x=k
  ·clear ih;subst q
   have:¬(x∈r/\S x=true):=fun z=>h.1 z.1
   rw[if_neg this]
   cases hs:S x<;>simp[th]
  ·have q':¬k=x:=fun z=>q z.symm
   simp[q,q']
   split
   ·rename_i z
    have:1<=kW S r:=by
     have:∀l:List Int,k∈l->1<=kW S l:=by
      intro l
      induction l with
      |nil=>intro h;cases h
      |cons y l ih=>
       intro h
       rw[j7]
       rcases de h with rfl|h
       ·rw[z.2];simp[th]
       ·have:=ih h;exact Sj this
     exact this r z.1
    exact Si this
   ·rfl
theorem jj:o9.Nodup:=by decide
theorem pY{k:Int}(h:0<=k/\k<8):k∈o9:=by
 obtain⟨n,rfl⟩:=Int.eq_ofNat_of_zero_le h.1
 exact(by decide:∀n:Fin 8,((n.val:Nat):Int)∈o9) ⟨n,Int.ofNat_lt.mp h.2⟩
theorem xd(S:Int->Bool):∀ (l ks:List Int),l.Nodup->(∀k∈l,S k=true->k∈ks)->kW S l<=ks.length:=by
 intro zz
 induction zz with
 |nil=>
  intro ks _ _
  exact Nat.zero_le _
 |cons x r ih=>
  intro ks nd h
  rw[List.nodup_cons]at nd
  rw[j7]
  cases hs:S x with
  |false=>
   have:=ih ks nd.2 (fun k hk=>h k (.tail _ hk))
   simpa[th]using this
  |true=>
   have hx:=h x (.head _) hs
   have:=ih (ks.erase x) nd.2 (fun k hk hS=>by
    have ne:k≠x:=fun z=>nd.1 (z▸hk)
    exact(List.mem_erase_of_ne ne).mpr (h k (.tail _ hk) hS))
   rw[List.length_erase_of_mem hx]at this
   have:0<ks.length:=List.length_pos_of_mem hx
   simp[th];exact Sh ‹_› this
noncomputable def qN(S:Int->Bool)(k:Int):Int->Bool:=fun x=>S x||decide (x=k)
noncomputable def pd(S:Int->Bool)(k:Int):Int->Bool:=fun x=>S x&&!decide (x=k)
theorem BX{S:Int->Bool}{k:Int}(h:0<=k/\k<8):uC (qN S k)=if S k then uC S else uC S+1:=by
 rw[ph,ph]
 unfold qN
 rw[zU jj]
 have:=pY h
 cases hs:S k<;>simp[this]
theorem BZ{S:Int->Bool}{k:Int}(h:0<=k/\k<8):uC (pd S k)=if S k then uC S-1 else uC S:=by
 rw[ph,ph]
 unfold pd
 rw[zV jj]
 have:=pY h
 cases hs:S k<;>simp[this]
theorem jp(b:Bool):th b<=1:=by cases b<;>(first|exact cm rfl|exact Nat.zero_le _|simp[th])
theorem pg(S:Int->Bool):uC S<=8:=by
 unfold uC
 exact Nat.add_le_add (Nat.add_le_add (Nat.add_le_add (Nat.add_le_add (Nat.add_le_add (Nat.add_le_add (Nat.add_le_add (jp _) (jp _)) (jp _)) (jp _)) (jp _)) (jp _)) (jp _)) (jp _)
theorem uR:(100:Nat)<scanBound:=by decide
theorem Cj{l:Addr}{S:Int->Bool}{i:Int}{Q:Bool->ah->Prop}(hl:H l=some (.fH S))(h:Q (S i) H):cS G D .In (.int i) (.ref l) H Q where
 go:=fun c ok mm ae s St va vb ha hb Q' E k=>by
  have:vb=.ref l:=hb
  clear hb;subst this
  refine aY (ha) fun t ak=>?_;clear ha;subst ak
  refine aN (St.get hl) fun ob hm ho hg=>?_
  refine aA (kw St.nd hm) fun g U _=>?_
  exact kse_in St.nw U ho.1 (by have:=pg S;have:=uR;exact E9 ‹_› this) (intKind_is _ _ _ _) rfl (k _ H ae s.heap _ St aO.rfl h)
theorem D2{l:Addr}{S:Int->Bool}{i:Int}{Q:Bool->ah->Prop}(hl:H l=some (.fH S))(h:Q (!S i) H):cS G D .NotIn (.int i) (.ref l) H Q where
 go:=fun c ok mm ae s St va vb ha hb Q' E k=>by
  have:vb=.ref l:=hb
  clear hb;subst this
  refine aY (ha) fun t ak=>?_;clear ha;subst ak
  refine aN (St.get hl) fun ob hm ho hg=>?_
  refine aA (kw St.nd hm) fun g U _=>?_
  exact kse_notin St.nw U ho.1 (by have:=pg S;have:=uR;exact E9 ‹_› this) (intKind_is _ _ _ _) rfl (k _ H ae s.heap _ St aO.rfl h)
theorem xK{l:Addr}{S:Int->Bool}{i:Int}{Q:AQ}(hl:H l=some (.fH S))(h0:0<=i/\i<8)(h:Q .none (H.put l (.fH (qN S i)))):WB G D (.builtin "set.add") [.ref l,.int i] H Q where
 go:=fun c ok mm ae s St vals hv Q' E k=>by
  refine aE (jI hv) fun v w ak h1 h2=>?_;(clear hv;subst ak)
  have:v=.ref l:=h1
  clear h1;subst this
  refine aY (h2) fun t ak=>?_;clear h2;subst ak
  refine aN (St.get hl) fun ob hm ho hg=>?_
  refine aA (kw St.nd hm) fun g U z=>?_
  refine kse_add St.fr St.nw U ho.1 (by have:=pg S;have:=uR;exact Sg ‹_› this) (intKind_is _ _ _ _) rfl fun h' U6 F N TL=>?_
  refine gU (z U6) fun hk u1 u2 _=>?_
  clear t;obtain⟨S',K',_⟩:=St.upd (o':=.fH (qN S i)) hl hm F N hk u1 u2 ⟨by rw[BX h0];exact TL,fun x hx=>by
   simp only[qN,Bool.or_eq_true,decide_eq_true_eq]at hx
   clear TL k St h hl Q;rcases hx with hx|rfl
   ·exact ho.2 x hx
   ·exact h0⟩
  exact k .none .none _ _ h' _ S' K' rfl h
theorem qM{prog:Program}{w:World}:∀ {l:List (Int×Value)},ElemsOf (intKind prog w) l->∃ks:List Int,ks.length=l.length/\(∀ (j:Nat) (e:Int×Value),l[j]?=some e->∃k,ks[j]?=some k/\(intKind prog w).is k e.2=true):=by
 intro zz
 induction zz with
 |nil=>
  intro _
  exact⟨[],rfl,fun j e h=>by simp at h⟩
 |cons x r ih=>
  intro h
  refine aA (ih h.tail) fun ks h1 h2=>?_
  refine bh (h.head) fun ak _=>?_;refine aA (ak) fun k hk _=>?_;clear ak
  refine⟨k::ks,by simp[h1],fun j e q=>?_⟩
  cases j with
  |zero=>simp at q;subst q;exact⟨k,rfl,hk⟩
  |succ j=>simp at q;simpa using h2 j e q
theorem je{prog:Program}{w:World}{a b:Int}{v:Value}(h:(intKind prog w).is a v=true)(h':(intKind prog w).is b v=true):a=b:=(intKind prog w).inj v a b h h'
theorem jh{α:Type}(xs:Array α)(i:Nat):(SetTable.eraseAt xs i).toList=xs.toList.eraseIdx i:=by
 unfold SetTable.eraseAt
 rw[Array.toList_append,Array.toList_extract,Array.toList_extract,List.eraseIdx_eq_take_drop_succ]
 simp only[List.extract_eq_take_drop,List.drop_zero,Nat.sub_zero]
 congr 1
 exact List.take_of_length_le (by simp)
theorem wY{t:SetTable}{n i:Nat}(h:t.fits n=true)(hi:i<n):(t.drop i).fits (n-1)=true:=by
 obtain⟨h1,h2⟩:t.place.size=n/\t.place.size+t.dummies.size<=t.mask:=by
  unfold SetTable.fits SetTable.fill at h
  rw[Bool.and_eq_true]at h
  exact⟨beq_iff_eq.mp h.1,of_decide_eq_true h.2⟩
 clear h;subst h1
 have e0:t.place[i]?=some t.place[i]:=by simp[hi]
 have e:t.drop i={ t with place:=SetTable.eraseAt t.place i,dummies:=SetTable.insertAt t.dummies (SetTable.below t.dummies t.place[i]) t.place[i] }:=by
  unfold SetTable.drop
  rw[e0]
 rw[e]
 have e1:(SetTable.eraseAt t.place i).size=t.place.size-1:=by
  rw[←Array.length_toList,jh,List.length_eraseIdx];(exact if_pos ‹_›)
 have e2:∀p x,(SetTable.insertAt t.dummies p x).size=t.dummies.size+1:=fun p x=>by
  have:=(SetTable.insertAt_perm t.dummies p x).length_eq
  simpa using this
 unfold SetTable.fits SetTable.fill
 rw[Bool.and_eq_true]
 refine⟨beq_iff_eq.mpr e1,decide_eq_true ?_⟩
 dsimp only
 rw[e1,e2]
 exact Sf h2 hi
theorem xa{prog:Program}{w:World}{es:Array (Int×Value)}{S:Int->Bool}{i:Int}{j:Nat}(FB:ElemsOf (intKind prog w) es.toList)(ia:∀y,S y=true↔∃e∈es.toList,(intKind prog w).is y e.2=true)(hn:es.size=uC S)(hj:j<es.toList.length)(EF:(intKind prog w).is i es.toList[j].2=true):
 ElemsOf (intKind prog w) (SetTable.eraseAt es j).toList/\(∀y,pd S i y=true↔∃e∈(SetTable.eraseAt es j).toList,(intKind prog w).is y e.2=true)/\(SetTable.eraseAt es j).size=es.size-1:=by
 rw[←Array.length_toList,←Array.length_toList,jh]
 rw[←Array.length_toList]at hn
 generalize es.toList=l at *
 refine⟨fun x hx=>FB x (List.mem_of_mem_eraseIdx hx),fun y=>?_,List.length_eraseIdx_of_lt hj⟩
 have uniq:∀e∈l.eraseIdx j,(intKind prog w).is i e.2=true->False:=by
  intro e he q
  refine aA (qM (prog:=prog) (w:=w) (l:=l.eraseIdx j) (fun x hx=>FB x (List.mem_of_mem_eraseIdx hx))) fun ks k1 k2=>?_
  have all:∀y∈o9,S y=true->y∈ks:=by
   intro y _ hy
   refine aA ((ia y).mp hy) fun e' EL ko=>?_
   have:∃Q0∈l.eraseIdx j,(intKind prog w).is y Q0.2=true:=by
    clear k2 k1 ks;obtain⟨n,zA,vA⟩:=List.getElem_of_mem EL
    by_cases z:n=j
    ·subst z
     rw[vA]at EF
     exact⟨e,he,je EF ko▸q⟩
    ·exact⟨e',List.mem_eraseIdx_iff_getElem.mpr ⟨n,zA,z,vA⟩,ko⟩
   refine aA (this) fun Q0 h1 h2=>?_;clear this
   obtain⟨n,zA,vA⟩:=List.getElem_of_mem h1
   refine aA (k2 n Q0 (by rw[List.getElem?_eq_getElem zA,vA])) fun kk a1 a2=>?_
   exact je a2 h2▸List.mem_of_getElem? a1
  have:=xd S o9 ks jj all
  rw[←ph,←hn,k1,List.length_eraseIdx_of_lt hj]at this
  exact Se hj this
 unfold pd
 rw[Bool.and_eq_true,ia y]
 constructor
 ·intro ak;refine bh (ak) fun cu eG=>?_;clear ak;refine aA (cu) fun e he hp=>?_;clear cu
  clear uniq;obtain⟨n,zA,vA⟩:=List.getElem_of_mem he
  refine⟨e,List.mem_eraseIdx_iff_getElem.mpr ⟨n,zA,fun z=>?_,vA⟩,hp⟩
  subst z
  rw[vA]at EF
  rw[je hp EF]at eG
  simp at eG
 ·intro ak;refine aA (ak) fun e he hp=>?_;clear ak
  refine⟨⟨e,List.mem_of_mem_eraseIdx he,hp⟩,?_⟩
  cases q:decide (y=i)with
  |false=>rfl
  |true=>exact(uniq e he (of_decide_eq_true q▸hp)).elim
theorem Upd.NY{h₀ h h':Heap}{L l:Addr}{ob kj:Obj}{ae n':dy}(nw:News h₀ L h ae)(U:Upd l ob kj ae n')(sb:Heap.SameBut l h h')(hg:h'.get? l=some kj):News h₀ L h' n':=by
 have:=nw.replace sb hg
 refine el (U.split) fun pre post e1 e2 a1 b1=>?_
 clear sb U nw h;subst e1 e2
 intro p hp
 refine this p ?_
 rcases List.mem_append.mp hp with hp|hp
 ·exact List.mem_map.mpr ⟨p,List.mem_append_left _ hp,by rw[if_neg (a1 p hp)]⟩
 ·rcases de hp with rfl|hp
  ·exact List.mem_map.mpr ⟨(l,ob),List.mem_append_right _ (.head _),by exact if_pos rfl⟩
  ·exact List.mem_map.mpr ⟨p,List.mem_append_right _ (.tail _ hp),by rw[if_neg (b1 p hp)]⟩
set_option tactic.hygienic true in
theorem yu{l:Addr}{o:AO}(hl:H l=some o):H.put l o=H:=by
 funext x
 unfold ah.put
 split
 ·rename_i q;rw[q,hl]
 ·rfl
theorem BW{S:Int->Bool}{i:Int}(h:S i=false):pd S i=S:=by
 funext x
 unfold pd
 by_cases q:x=i
 ·rw[q,h];rfl
 ·simp[q]
theorem WB.setDiscard{l:Addr}{S:Int->Bool}{i:Int}{Q:AQ}(hl:H l=some (.fH S))(h0:0<=i/\i<8)(h:Q .none (H.put l (.fH (pd S i)))):WB G D (.builtin "set.discard") [.ref l,.int i] H Q where
 go:=fun c ok mm ae s St vals hv Q' E k=>by
  refine aE (jI hv) fun v w ak h1 h2=>?_;(clear hv;subst ak)
  have:v=.ref l:=h1
  clear h1;subst this
  refine aY (h2) fun t ak=>?_;clear h2;subst ak
  refine aN (St.get hl) fun ob hm ho hg=>?_
  refine bh (ho) fun ak Qy=>?_;clear ho;refine uy (ak) fun hex es ep tb hd FB ia hn hf=>?_;clear ak
  have JA:es.size<scanBound:=by rw[hn];have:=pg S;have:=uR;exact E9 ‹_› this
  refine wpAny_call_entry PySem.F.slot_set_discard ⟨_,hg,hex.1⟩ PySem.F.entry_set_discard ?_ (PySem.F.args_set_discard_2 _ _)
  unfold Builtin.«set.discard» Builtin.Frozenset.oneOther
  simp only[List.isEmpty_nil,bind_assoc]
  unfold Builtin.Frozenset.addrOf Builtin.Frozenset.withSetAsKey PySem.setDiscard
  refine wpAny_bind (wpAny_pure ?_)
  try dsimp only
  refine wpAny_bind (wpAny_pure ?_)
  try dsimp only
  refine wpAny_bind (PySem.wpAny_tryCatch (wpAny_holding (wpAny_bind ((intKind G.prog G.w).pyHash (intKind_is _ _ _ _) ?_))))
  unfold setDiscardHashed setFind setFindIn
  refine wpAny_bind (wpAny_bind (wpAny_setState_of (s:={ s with toks:=s.toks+1 }) hg hd hf ?_))
  dsimp only
  rw[byScan_of rfl JA FB]
  simp only[↓reduceIte]
  refine wpAny_bind (wpAny_rule (wpAny_bind (wpAny_setScan_of (s:={ s with toks:=s.toks+1 }) (intKind_is _ _ _ _) hg hd hf FB ?_)))
  cases hr:List.findIdx? (fun e=>(intKind G.prog G.w).is i e.2) es.toList with
  |none=>
   dsimp only
   have QO:S i=false:=by
    rw[←Bool.not_eq_true,ia i]
    intro ak;refine aA (ak) fun e he Xv=>?_;clear ak
    have:=List.findIdx?_eq_none_iff.mp hr e he
    rw[Xv]at this;exact Bool.noConfusion this
   refine wpAny_pure (wpAny_pure ?_)
   refine wpAny_pure ⟨_,rfl,?_⟩
   rw[BW QO,yu hl]at h
   exact k .none .none H ae s.heap _ St aO.rfl rfl h
  |some j=>
   dsimp only
   refine aA (List.findIdx?_eq_some_iff_getElem.mp hr) fun hj EF _=>?_
   have QO:S i=true:=(ia i).mpr ⟨es.toList[j],List.getElem_mem hj,EF⟩
   refine ci (xa FB ia hn hj EF) fun JU CR Bq=>?_
   have JQ:j<es.size:=Array.length_toList▸hj
   have QG:=wY hf JQ
   rw[←Bq]at QG
   clear hr ia
   refine wpAny_pure ?_
   refine wpAny_bind (wpAny_setState_of (s:={ s with toks:=s.toks+1 }) hg hd hf ?_)
   dsimp only
   rw[Nat.zero_add]
   have hle:(SetTable.eraseAt es j).size<=8:=by rw[Bq,hn];have:=pg S;exact Sd this
   refine wpAny_bind (wpAny_storeSet_of (s:={ s with toks:=s.toks+1 }) hg hd ?_ (d6 hle (by rw[sizeLine_eq];decide)))
   refine bh (SetOf_store (knd:=intKind G.prog G.w) (h:=s.heap) hg hex hd JU CR (by rw[Bq];exact Sc JA) QG) ?_;intro EK _
   refine wpAny_bind (wpAny_point ?_)
   refine wpAny_pure ?_
   refine wpAny_pure ⟨_,rfl,?_⟩
   have z:=St.nw _ hm
   refine dF (fO { ob with data:=.set (SetTable.eraseAt es j) (ep+1) (tb.drop j) } St.nd hm) fun n' U hk u1 u2 _=>?_
   have sb:Heap.SameBut l s.heap (s.heap.update l (Obj.putSet (SetTable.eraseAt es j) (tb.drop j))):=Heap.SameBut.update ..
   obtain⟨S',K',_⟩:=St.upd (o':=.fH (pd S i)) hl hm (St.fr.change sb z.2.1 z.2.2) (Upd.NY St.nw U sb EK) hk u1 u2 ⟨⟨hex,_,_,_,rfl,JU,CR,by rw[Bq,BZ h0,QO,hn];rfl,QG⟩,fun x hx=>Qy x ((Bool.and_eq_true_iff.mp hx).1)⟩
   exact k .none .none _ n' _ _ S' K' rfl h
theorem Gw{Q:AQ}(h:∀l,H l=none->Q (.ref l) (H.put l (.fH fun _=>false))):WB G D (.type "set") [] H Q where
 go:=fun c ok mm ae s St vals hv Q' E k=>by
  rw[(bC ..).mp hv]
  refine kse_new St.fr St.nw fun d h' led F N lt hi hs=>?_
  refine bh (St.eJ (o:=.fH fun _=>false) F N (gu lt) ⟨hi,fun x hx=>bI hx⟩) fun S2 K2=>?_
  exact k (.ref d) (.ref d) _ _ _ _ S2 K2 rfl (h d (St.off (gu lt)))
theorem DK{l:Addr}{o:AO}{es:List (Int×AV)}{i:Int}{Q:Bool->ah->Prop}(hl:H l=some o)(ho:o.view=.aB es)(hd:o.wM=true)(h:Q (!(es.lookup i).isSome) H):cS G D .NotIn (.int i) (.ref l) H Q where
 go:=fun c ok mm ae s St va vb ha hb Q' E k=>by
  have:vb=.ref l:=hb
  clear hb;subst this
  refine aY (ha) fun t ak=>?_;clear ha;subst ak
  refine aN (St.get hl) fun ob hm kr hg=>?_
  have hZ:=kr.view
  rw[ho]at hZ
  refine aA (hZ) fun kvs hd2 hr=>?_;clear hZ
  refine kdg_notin St.nw hm hd2 (St.lo l _ hl hd) (intKind_is _ _ _ _) (es.lookup i).isSome ?_ (k _ H ae s.heap _ St aO.rfl h)
  cases e:es.lookup i with
  |none=>rw[hr.none e];rfl
  |some a=>(refine aA (hr.at e) fun v e1 _=>?_);rw[e1];rfl
theorem uN{l:Addr}{o:AO}{es:List (Int×AV)}{i:Int}{d:AV}{Q:AQ}(hl:H l=some o)(ho:o.view=.aB es)(hd:o.wM=true)(h:Q ((es.lookup i).getD d) H):WB G D (.builtin "dict.get") [.ref l,.int i,d] H Q where
 go:=fun c ok mm ae s St vals hv Q' E k=>by
  refine cQ (vn hv) fun v w x ak h1 h2 h3=>?_;(clear hv;subst ak)
  have:v=.ref l:=h1
  clear h1;subst this
  refine aY (h2) fun t ak=>?_;clear h2;subst ak
  refine aN (St.get hl) fun ob hm kr hg=>?_
  have hZ:=kr.view
  rw[ho]at hZ
  refine aA (hZ) fun kvs hd2 hr=>?_;clear hZ
  refine kdg_get2 St.nw hm hd2 (St.lo l _ hl hd) (intKind_is _ _ _ _) _ rfl (k _ ((es.lookup i).getD d) H ae s.heap _ St aO.rfl ?_ h)
  cases e:es.lookup i with
  |none=>rw[hr.none e];exact h3
  |some a=>(refine aA (hr.at e) fun v e1 e2=>?_);rw[e1];exact e2
theorem DW{l:Addr}{o:AO}{es:List (Str×AV)}{i:Str}{d:AV}{Q:AQ}(hl:H l=some o)(ho:o.view=.bq es)(hd:o.wM=true)(h:Q ((es.lookup i).getD d) H):WB G D (.builtin "dict.get") [.ref l,.str i,d] H Q where
 go:=fun c ok mm ae s St vals hv Q' E k=>by
  refine cQ (vn hv) fun v w x ak h1 h2 h3=>?_;(clear hv;subst ak)
  have:v=.ref l:=h1
  clear h1;subst this
  refine aY (h2) fun t ak=>?_;clear h2;subst ak
  refine aN (St.get hl) fun ob hm kr hg=>?_
  have hZ:=kr.view
  rw[ho]at hZ
  refine aA (hZ) fun kvs hd2 hr=>?_;clear hZ
  refine kdg_get2 St.nw hm hd2 (St.lo l _ hl hd) (strKind_is _ _ _ _) _ rfl (k _ ((es.lookup i).getD d) H ae s.heap _ St aO.rfl ?_ h)
  cases e:es.lookup i with
  |none=>rw[hr.none e];exact h3
  |some a=>(refine aA (hr.at e) fun v e1 e2=>?_);rw[e1];exact e2
theorem nN{pos:Pos}{Q:AQ}(h:∀l,H l=none->Q (.ref l) (H.put l (.aB []))):WE G D cs cl (.Dict [] [] pos) m H Q where
 go:=fun c h1 h2 ok mm ae s St lr Q' E k=>by
  refine newDict_K St.fr St.nw ok.top.nolimit fun d h' o F N lt lo _ _ hi _=>?_
  refine bh (St.eJ (o:=.aB []) F N (gu lt) ⟨[],hi,(g8 ..).mpr rfl⟩ (fun _=>lo)) fun S2 K2=>?_
  exact k (.ref d) (.ref d) _ _ _ _ S2 K2 rfl (h d (St.off (gu lt)))
theorem D8{pos:Pos}{Q:AQ}(h:∀l,H l=none->Q (.ref l) (H.put l (.bq []))):WE G D cs cl (.Dict [] [] pos) m H Q where
 go:=fun c h1 h2 ok mm ae s St lr Q' E k=>by
  refine newDict_K St.fr St.nw ok.top.nolimit fun d h' o F N lt lo hs _ _ _=>?_
  refine bh (St.eJ (o:=.bq []) F N (gu lt) ⟨[],hs,(g8 ..).mpr rfl⟩ (fun _=>lo)) fun S2 K2=>?_
  exact k (.ref d) (.ref d) _ _ _ _ S2 K2 rfl (h d (St.off (gu lt)))
noncomputable def bZ{κ:Type}[DecidableEq κ](k:κ)(a:AV):List (κ×AV)->List (κ×AV)
 |[]=>[(k,a)]
 |(q,b)::r=>if q=k then(q,a)::r else(q,b)::bZ k a r
theorem yw{κ:Type}[DecidableEq κ](k:κ)(a:AV):bZ k a []=[(k,a)]:=rfl
theorem gJ{κ:Type}[DecidableEq κ](k q:κ)(a b:AV)(r):bZ k a ((q,b)::r)=if q=k then(q,a)::r else(q,b)::bZ k a r:=rfl
theorem lW{κ:Type}[DecidableEq κ](k:κ)(a:AV):∀ (es:List (κ×AV)),k∉es.map (·.1)->bZ k a es=es++[(k,a)]:=by
 intro zz
 induction zz with
 |nil=>
  intro _
  exact rfl
 |cons qx r ih=>
  obtain⟨q,b⟩:=qx
  intro h
  rw[List.map_cons,List.mem_cons,not_or]at h
  rw[gJ,if_neg fun z=>h.1 z.symm,ih h.2];rfl
theorem PR.map{κ:Type}[DecidableEq κ]{ae:dy}{k:κ}{a:AV}{v:Value}(hv:VR ae a v):∀ {es:List (κ×AV)} {l:List (κ×Value)},PR ae es l->(l.map (·.1)).Nodup->k∈l.map (·.1)->PR ae (bZ k a es) (l.map fun kv=>if kv.1=k then(kv.1,v)else kv):=by
 intro zz
 induction zz with
 |nil=>
  intro l h _ e
  rw[(g8 ..).mp h]at e;cases e
 |cons qx r ih=>
  obtain⟨q,b⟩:=qx
  intro l h nd e
  refine aE ((fA ..).mp h) fun w l' ak h1 h2=>?_;(clear h;subst ak)
  rw[List.map_cons,List.nodup_cons]at nd
  rw[gJ,List.map_cons]
  by_cases z:q=k
  ·clear e ih;subst z
   rw[if_pos rfl,if_pos rfl]
   refine(fA ..).mpr ⟨v,_,rfl,hv,?_⟩
   have:l'.map (fun kv=>if kv.1=q then(kv.1,v)else kv)=l':=by
    conv=>rhs;rw[←List.map_id l']
    refine List.map_congr_left fun kv QD=>?_
    have ne:kv.1≠q:=fun z=>nd.1 (by rw[←z];exact List.mem_map_of_mem (f:=(·.1)) QD)
    rw[if_neg ne];rfl
   rw[this];exact h2
  ·rw[if_neg z,if_neg (by simpa using z)]
   refine(fA ..).mpr ⟨w,_,rfl,h1,ih h2 nd.2 ?_⟩
   rw[List.map_cons,List.mem_cons]at e
   exact e.resolve_left fun x=>z x.symm
theorem PR.snoc{κ:Type}{ae:dy}{k:κ}{a:AV}{v:Value}(hv:VR ae a v):∀ {es:List (κ×AV)} {l:List (κ×Value)},PR ae es l->PR ae (es++[(k,a)]) (l++[(k,v)]):=by
 intro zz
 induction zz with
 |nil=>
  intro l h
  rw[(g8 ..).mp h];exact(fA ..).mpr ⟨v,[],rfl,hv,(g8 ..).mpr rfl⟩
 |cons qx r ih=>
  obtain⟨q,b⟩:=qx
  intro l h
  refine aE ((fA ..).mp h) fun w l' ak h1 h2=>?_;(clear h;subst ak)
  exact(fA ..).mpr ⟨w,_,rfl,h1,ih h2⟩
set_option tactic.hygienic true in
theorem PR.stored{κ:Type}[DecidableEq κ]{ae:dy}{k:κ}{a:AV}{v:Value}(hv:VR ae a v){es:List (κ×AV)}{l:List (κ×Value)}(h:PR ae es l)(nd:(l.map (·.1)).Nodup):PR ae (bZ k a es) (stored l k v):=by
 unfold PySem.stored
 split
 ·rename_i q
  refine h.map hv nd ?_
  refine aA (List.any_eq_true.mp q) fun x hx e=>?_
  exact List.mem_map.mpr ⟨x,hx,by simpa using e⟩
 ·rename_i q
  rw[lW]
  ·exact h.snoc hv
  ·rw[←h.keys]
   intro z
   refine aA (List.mem_map.mp z) fun x hx e=>?_
   exact q (List.any_eq_true.mpr ⟨x,hx,by simpa using e⟩)
structure gG(G:Gl)(D:Nat)(a i v:AV)(H:ah)(Q:ah->Prop):Prop where
 go:∀c:Cx,c.Ok G D->∀mm ae s,St G c.h₀ c.L mm H ae s.heap->∀va vi vv,VR ae a va->VR ae i vi->VR ae v vv->∀ (Q':Unit->Shared->Prop) E,
  (∀H' am h' tk,St G c.h₀ c.L mm H' am h'->aO H H' ae am->Q H'->Q' () { s with heap:=h',toks:=tk })->
  wpAny (model G.prog G.w) c.A (setItem va vi vv) Q' E s
theorem vI{prog:Program}{w:World}{K:Type}[DecidableEq K]{knd:KeyKind prog w K}{o:Obj}{kvs:List (K×Value)}(h:o.IsDictOf knd kvs):(kvs.map (·.1)).Nodup:=by
 obtain⟨_,_,_,_,_,_,e⟩:=h;exact e
theorem gG.aB{l:Addr}{es:List (Int×AV)}{i:Int}{a:AV}{Q:ah->Prop}(hl:H l=some (.aB es))(hz:es.length<=16000000)(h:Q (H.put l (.aB (bZ i a es)))):gG G D (.ref l) (.int i) a H Q where
 go:=fun c ok mm ae s S va vi vv ha hi hv Q' E k=>by
  have:va=.ref l:=ha
  clear ha;subst this
  refine aY (hi) fun t ak=>?_;clear hi;subst ak
  refine aN (S.get hl) fun ob hm ak hg=>?_;refine aA (ak) fun kvs hd hr=>?_;clear ak
  refine aA (kw S.nd hm) fun g U z=>?_
  refine kda_set S.fr S.nw U hd (intKind_is _ _ _ _) (by rw[hr.length,sizeLine_eq];(exact d6 ‹_› (cm rfl))) fun h' o' F N xw=>?_
  refine gU (z o') fun hk u1 u2 _=>?_
  have nd:=vI hd
  refine ci (S.upd (o':=.aB (bZ i a es)) hl hm F N hk u1 u2 ⟨_,xw,hr.stored hv nd⟩) fun S' K' _=>?_
  exact k _ _ h' _ S' K' h
theorem gG.bq{l:Addr}{es:List (Str×AV)}{i:Str}{a:AV}{Q:ah->Prop}(hl:H l=some (.bq es))(hz:es.length<=16000000)(h:Q (H.put l (.bq (bZ i a es)))):gG G D (.ref l) (.str i) a H Q where
 go:=fun c ok mm ae s S va vi vv ha hi hv Q' E k=>by
  have:va=.ref l:=ha
  clear ha;subst this
  refine aY (hi) fun t ak=>?_;clear hi;subst ak
  refine aN (S.get hl) fun ob hm ak hg=>?_;refine aA (ak) fun kvs hd hr=>?_;clear ak
  refine aA (kw S.nd hm) fun g U z=>?_
  refine kda_set S.fr S.nw U hd (strKind_is _ _ _ _) (by rw[hr.length,sizeLine_eq];(exact d6 ‹_› (cm rfl))) fun h' o' F N xw=>?_
  refine gU (z o') fun hk u1 u2 _=>?_
  have nd:=vI hd
  refine ci (S.upd (o':=.bq (bZ i a es)) hl hm F N hk u1 u2 ⟨_,xw,hr.stored hv nd⟩) fun S' K' _=>?_
  exact k _ _ h' _ S' K' h
theorem dw.set{ae:dy}{a:AV}{v:Value}(hv:VR ae a v):∀ {xs:List AV} {vs:List Value} {i:Nat},dw ae xs vs->dw ae (xs.set i a) (vs.set i v):=by
 intro zz
 induction zz with
 |nil=>
  intro vs i h
  rw[(bC ..).mp h];exact(bC ..).mpr rfl
 |cons x xs ih=>
  intro vs i h
  refine aE ((aW ..).mp h) fun w r ak h1 h2=>?_;(clear h;subst ak)
  cases i with
  |zero=>exact(aW ..).mpr ⟨v,r,rfl,hv,h2⟩
  |succ i=>exact(aW ..).mpr ⟨w,_,rfl,h1,ih h2⟩
theorem gG.list{l:Addr}{xs:List AV}{i:Int}{a:AV}{Q:ah->Prop}(hl:H l=some (.list xs))(h0:0<=i)(hi:i<xs.length)(hz:xs.length<=16000000)(h:Q (H.put l (.list (xs.set i.toNat a)))):gG G D (.ref l) (.int i) a H Q where
 go:=fun c ok mm ae s S va vi vv ha Ol hv Q' E k=>by
  have:va=.ref l:=ha
  clear ha;subst this
  refine aY (Ol) fun t ak=>?_;clear Ol;subst ak
  refine aN (S.get hl) fun ob hm ak hg=>?_;refine bi (ak) fun vs n cu eF=>?_;clear ak;(clear hg;subst cu)
  refine dF (fO (listOf (vs.set i.toNat vv).toArray n) S.nd hm) fun n' U hk u1 u2 _=>?_
  refine el (U.split) fun pre post ak cu a1 b1=>?_;(clear U;subst ak);subst cu
  have z:=S.nw (l,listOf vs.toArray n) hm
  refine ki_setAt z.1 h0 (by lia) (by rw[List.size_toArray,eF.length];exact hi) ?_
  have N':=ki_turn (h:=s.heap) (fun x=>x.setIfInBounds i.toNat vv) (its':=(vs.set i.toNat vv).toArray) (n':=n) S.nw a1 b1 (by apply Array.toList_inj.mp;simp) (by simp)
  refine ci (S.upd (o':=.list (xs.set i.toNat a)) hl hm (S.fr.change (Heap.SameBut.update ..) z.2.1 z.2.2) N' hk u1 u2 ⟨_,n,rfl,eF.set hv⟩) fun S' K' _=>?_
  exact k _ _ _ _ S' K' h
theorem gH{e o i:Expr}{sp pos:Pos}{Q:Fl->bP->ah->Prop}
 (h:WE G D cs cl e m H fun v H1=>WE G D cs cl o m H1 fun a H2=>WE G D cs cl i m H2 fun b H3=>gG G D a b v H3 fun H4=>Q .next m H4)
 (hs:autoParam (∀env:Env,swapsWith e (some (.Subscript o i sp)) pos.line env=pure false) aI):W1 G D cs cl (.Assign [.Subscript o i sp] e pos) m H Q where
 go:=fun c h1 h2 ok mm ae s S lr Q' E k=>by
  refine wpAny_Assign_Subscript (h.go c h1 h2 ok mm ae s S lr _ E fun vv v H1 n1 cP Fk S1 K1 V1 w1=>?_) (hs _)
  refine w1.go c h1 h2 ok mm n1 _ S1 (LR.keep S K1 lr) _ E fun va a H2 n2 gw gI S2 K2 V2 w2=>?_
  refine w2.go c h1 h2 ok mm n2 _ S2 (LR.keep S (K1.trans K2) lr) _ E fun vi b H3 n3 QS pA S3 K3 V3 w3=>?_
  refine w3.go c ok mm n3 _ S3 va vi vv (S2.vr K3 V2) V3 (S1.vr (K2.trans K3) V1) _ E fun H4 n4 h4 AB S4 K4 q=>?_
  have K:=((K1.trans K2).trans K3).trans K4
  exact k .next .next m mm H4 n4 h4 AB S4 (LR.keep S K lr) K rfl q
theorem tu.list{l:Addr}{o:AO}{xs:List AV}{Q:Bool->ah->Prop}(hl:H l=some o)(ho:o.view=.list xs)(hz:xs.length<=16000000)(h:Q (decide (xs.length≠0)) H):tu G D (.ref l) H Q where
 go:=fun c ok mm ae s S v hv Q' E k=>by
  have:v=.ref l:=hv
  clear hv;subst this
  refine aN (S.get hl) fun ob hm kr hg=>?_
  have hZ:=kr.view
  rw[ho]at hZ
  refine bi (hZ) fun vs n ak eF=>?_;clear hZ;(clear kr hm ho hl o;subst ak)
  refine wpAny_truthy_list ⟨_,hg,rfl,n,rfl⟩ (by rw[List.size_toArray,eF.length];lia) ?_
  have:(!vs.toArray.isEmpty)=decide (xs.length≠0):=by
   rw[←eF.length]
   (clear hg eF n k S ae ok h hz xs;cases vs)<;>(rfl)
  rw[this]
  exact k _ H ae s.heap _ S aO.rfl h
theorem vW{ae:dy}{a b:AV}{v:Value}(h:VR ae (.tup [a,b]) v):∃t va vb,v=.ref t/\(t,aK [va,vb])∈ae/\VR ae a va/\VR ae b vb:=by
 refine aE ((ee ..).mp h) fun t vs ak h1 h2=>?_;(clear h;subst ak)
 refine aE ((aW ..).mp h2) fun va r ak h3 h4=>?_;(clear h2;subst ak)
 refine aE ((aW ..).mp h4) fun vb r' ak h5 h6=>?_;(clear h4;subst ak)
 cases (bC ..).mp h6
 exact⟨t,va,vb,rfl,h1,h3,h5⟩
theorem Cm{x y:Str}{xp yp tp:Pos}{n:Nat}{e:Expr}{pos:Pos}{Q:Fl->bP->ah->Prop}(h:WE G D cs cl e m H fun a H'=>∃u v,a=.tup [u,v]/\Q .next ((y,v)::(x,u)::m) H')
 (hx:autoParam (cs.names.lookup x=some .local) aR) (hy:autoParam (cs.names.lookup y=some .local) aR)
 (hs:autoParam (∀env:Env,swapsWithSole [.Tuple [.Name x xp,.Name y yp] n tp] e pos.line env=pure false) aI)
 (hw:autoParam (∀env:Env,swappedStores [.Tuple [.Name x xp,.Name y yp] n tp] e env=pure none) aI):
 W1 G D cs cl (.Assign [.Tuple [.Name x xp,.Name y yp] n tp] e pos) m H Q where
 go:=fun c h1 h2 ok mm ae s S lr Q' E k=>by
  subst h1
  refine Assign_Tuple (h.go c rfl h2 ok mm ae s S lr _ E fun va a H1 n1 h' tk S1 K1 V1 w=>?_) (hs _) (hw _)
  refine bi (w) ?_;clear w;intro u v ak w;subst ak
  refine cQ (vW V1) fun t vu vv ak t1 t2 t3=>?_;(clear V1;subst ak)
  refine unpackN_ (s:={ s with heap:=h',toks:=tk }) S1.fr S1.nw (S1.nw.isTup t1) ok.handled rfl rfl fun h2 F2 N2=>?_
  refine wpAny_bind (wpAny_holding (assign_Name (storeX_L (s:={ s with heap:=h2,toks:=tk }) F2 N2 (fun h3 F3 N3=>?_) ok.kind hx)))
  refine wpAny_bind (wpAny_holding (assign_Name (storeX_L (s:={ s with heap:=h3,toks:=tk+1 }) F3 N3 (fun h4 F4 N4=>?_) ok.kind hy)))
  exact wpAny_pure (k .next .next _ _ H1 n1 h4 _ ((S1.store F4 N4)) (((LR.keep S K1 lr).put t2).put t3) K1 rfl w)
theorem Gv{xs:List AV}{Q:AQ}(hz:xs.length<=16000000)(h:∀l,H l=none->Q (.ref l) (H.put l (.list xs))):WB G D (.type "list") [.tup xs] H Q where
 go:=fun c ok mm ae s S vals hv Q' E k=>by
  refine aA (hM hv) fun v ak h1=>?_;(clear hv;subst ak)
  refine aE ((ee ..).mp h1) fun t vs ak hm eF=>?_;(clear h1;subst ak)
  refine kup_listOfT (its2:=vs.toArray) (zs:=vs) S.fr S.nw hm (by simp) (fun d c' h' F N lt=>?_) (by simp only[eF.length,sizeLine_eq];exact E8 hz)
  refine bh (S.eJ (o:=.list xs) F N (gu lt) ⟨vs,c',rfl,eF⟩) fun S2 K2=>?_
  exact k (.ref d) (.ref d) _ _ _ _ S2 K2 rfl (h d (S.off (gu lt)))
theorem dw.ints{ae:dy}:∀ {ns:List Int} {vs:List Value},dw ae (ns.map AV.int) vs->IntsAre vs ns:=by
 intro zz
 induction zz with
 |nil=>
  intro vs h
  rw[(bC ..).mp h];exact .nil
 |cons n ns ih=>
  intro vs h
  refine aE ((aW ..).mp h) fun v r ak h1 h2=>?_;(clear h;subst ak)
  refine aY (h1) fun t ak=>?_;clear h1;subst ak
  exact .cons _ _ (ih h2)
theorem oj:Manifest.owners.lookup (String.ofList ['d','e','s','r','e','v','e','r'].reverse)=some Manifest.sig_reversed:=by kernel_rfl
theorem fZ:Slot "reversed" "__next__" "reversed.__next__":=
 .of (owner:="reversed") (n:="__next__") (by rw[typeLookup_type,builtinLookup_eq_fast];kernel_rfl) (by decide +kernel) (by decide +kernel) (by decide +kernel)
  (by first|exact .inl (by decide +kernel)|exact .inr (by decide +kernel)) (by rw[isSubtype_type];kernel_rfl)
theorem kI:entryFor table "reversed.__next__"=some Builtin.«reversed.__next__»:=entryFor_of_tree (by kernel_rfl)
theorem mE(a:Value):argsOk "reversed.__next__" ⟨[a],[]⟩:=by
 unfold argsOk;rw[signature?_of (id:="reversed.__next__") (n:=['_','_','t','x','e','n','_','_']) (o:=['d','e','s','r','e','v','e','r']) (by kernel_rfl) oj];kernel_rfl
theorem mD:Slot "reversed" "__iter__" "reversed.__iter__":=
 .of (owner:="reversed") (n:="__iter__") (by rw[typeLookup_type,builtinLookup_eq_fast];kernel_rfl) (by decide +kernel) (by decide +kernel) (by decide +kernel)
  (by first|exact .inl (by decide +kernel)|exact .inr (by decide +kernel)) (by rw[isSubtype_type];kernel_rfl)
theorem rU(a:Value):argsOk "reversed.__iter__" ⟨[a],[]⟩:=by
 unfold argsOk;rw[signature?_of (id:="reversed.__iter__") (n:=['_','_','r','e','t','i','_','_']) (o:=['d','e','s','r','e','v','e','r']) (by kernel_rfl) oj];kernel_rfl
theorem qv:entryFor table "reversed.__iter__"=some Builtin.«dict_keyiterator.__iter__»:=
 entryFor_alias (id':="dict_keyiterator.__iter__") (by kernel_rfl) (by first|rfl|decide +kernel|(unfold String.splitOn;simp +decide [String.splitOnAux])) (by decide +kernel) (by kernel_rfl)
theorem iW:Slot "reversed" "__length_hint__" "reversed.__length_hint__":=
 .of (owner:="reversed") (n:="__length_hint__") (by rw[typeLookup_type,builtinLookup_eq_fast];kernel_rfl) (by decide +kernel) (by decide +kernel) (by decide +kernel)
  (by first|exact .inl (by decide +kernel)|exact .inr (by decide +kernel)) (by rw[isSubtype_type];kernel_rfl)
theorem qw:entryFor table "reversed.__length_hint__"=some Builtin.«reversed.__length_hint__»:=entryFor_of_tree (by kernel_rfl)
theorem rV(a:Value):argsOk "reversed.__length_hint__" ⟨[a],[]⟩:=by
 unfold argsOk;rw[signature?_of (id:="reversed.__length_hint__") (n:=['_','_','t','n','i','h','_','h','t','g','n','e','l','_','_']) (o:=['d','e','s','r','e','v','e','r']) (by kernel_rfl) oj];kernel_rfl
theorem yn:typeLookup (.type "reversed") "__len__"=pure none:=by rw[typeLookup_type,builtinLookup_eq_fast];kernel_rfl
theorem zf:typeLookup (.type "list_reverseiterator") "__len__"=pure none:=by rw[typeLookup_type,builtinLookup_eq_fast];kernel_rfl
theorem sw:Slot "list_reverseiterator" "__length_hint__" "list_reverseiterator.__length_hint__":=
 .of (owner:="list_reverseiterator") (n:="__length_hint__") (by rw[typeLookup_type,builtinLookup_eq_fast];kernel_rfl) (by decide +kernel) (by decide +kernel) (by decide +kernel)
  (by first|exact .inl (by decide +kernel)|exact .inr (by decide +kernel)) (by rw[isSubtype_type];kernel_rfl)
theorem xZ:typeLookup (.type "tuple") "__reversed__"=pure none:=by rw[typeLookup_type,builtinLookup_eq_fast];kernel_rfl
theorem tR:isSubtype (.type "tuple") (.type "dict")=pure false:=by rw[isSubtype_type];kernel_rfl
theorem pO:isSubtype (.type "reversed") (.type "reversed")=pure true:=by rw[isSubtype_type];kernel_rfl
theorem wb:isSubtype (.type "list_reverseiterator") (.type "list_reverseiterator")=pure true:=by rw[isSubtype_type];kernel_rfl
theorem j8:TypeCalled "reversed" "reversed.__new__" "object.__init__":=
 ⟨by decide +kernel,F.create_reversed,⟨_,_,F.mro_reversed⟩,F.made_reversed,F.plain_reversed_new,pO,
  .of (owner:="object") (n:="__init__") (by rw[typeLookup_type,builtinLookup_eq_fast];kernel_rfl) (by decide +kernel) (by decide +kernel) (by decide +kernel)
   (by first|exact .inl (by decide +kernel)|exact .inr (by decide +kernel)) (by rw[isSubtype_type];kernel_rfl)⟩
variable{prog:Program}{w:World}{A:Around}{E:Value->Shared->Prop}{s:Shared}
theorem pI{t:Addr}{items:Array Value}{Q₁:Value->Shared->Prop}(ht:IsTup s.heap t items)(hz:(items.size:Int)<2 ^ 63)
 (h:∀tk,Q₁ (.ref s.heap.objs.size) { s with heap:=s.heap.push (oh t ((items.size:Int)-1)),toks:=tk }):
 codeAny (model prog w) A (.call (.builtin "reversed.__new__") ⟨[.type "reversed",.ref t],[]⟩) (wants Q₁ E) s:=by
 refine codeAny_of_tree ?_
 show wpAny _ A.in1 (do checkBuiltinCall "reversed.__new__" ⟨[.type "reversed",.ref t],[]⟩;again (.builtin "reversed.__new__" ⟨[.type "reversed",.ref t],[]⟩)) _ _ s
 refine wpAny_bind (wpAny_of_eq (F.newCall_reversed_1 _) (wpAny_pure ⟨plainId_quiet F.plain_reversed_new _,codeAny_builtin F.entry_reversed_new ?_⟩))
 rw[Around.under_plainId F.plain_reversed_new _]
 unfold Builtin.«reversed.__new__»
 refine wpAny_bind (wpAny_of_eq (newClass_reversed _) ?_)
 try dsimp only
 refine wpAny_bind (wpAny_of_eq (a:=()) (by first|rfl|kernel_rfl) ?_)
 refine wpAny_bind (wpAny_of_eq (a:=()) (by first|rfl|kernel_rfl) ?_)
 try dsimp only
 refine wpAny_bind (wpAny_specialOf ht.typeIs xZ ?_)
 try dsimp only
 refine wpAny_bind (wpAny_bind (wpAny_isInstance ht.typeIs tR ?_))
 show wpAny _ _ (specialOf (.ref t) "__getitem__" >>= _) _ _ _
 refine wpAny_bind (wpAny_specialOf ht.typeIs PySem.F.slot_tuple_getitem.lookup ?_)
 try dsimp only
 rw[if_pos (by decide +kernel)]
 refine wpAny_pure ?_
 rw[if_neg (by exact jx)]
 refine wpAny_bind (PyProof.Rows.len_tuple ht hz ?_)
 refine wpAny_bind (wpAny_pure ?_)
 dsimp only
 show wpAny _ _ (newObj (.type "reversed") (.fields #[.ref t,rawInt ((items.size:Int)-1)]) >>= _) _ _ _
 refine wpAny_bind (wpAny_newObj_type ?_)
 exact wpAny_pure (h _)
theorem xl{t:Addr}{items:Array Value}{Q:Value->Shared->Prop}(ht:IsTup s.heap t items)(hz:(items.size:Int)<2 ^ 63)
 (h:∀tk,Q (.ref s.heap.objs.size) { s with heap:=s.heap.push (oh t ((items.size:Int)-1)),toks:=tk }):wpAny (model prog w) A (call (.type "reversed") [.ref t]) Q E s:=by
 refine callType_codes (Q₁:=fun obj tQ=>obj=.ref s.heap.objs.size/\∃tk,tQ={ s with heap:=s.heap.push (oh t ((items.size:Int)-1)),toks:=tk }) j8 (F.typeCall_reversed_1 _) F.entry_object_init (pI ht hz fun tk=>⟨rfl,tk,rfl⟩) ?_
 intro obj;intro tQ;intro ak;refine Kj (ak) fun cu tk nP=>?_;clear ak;subst cu;subst nP
 have hT:Shared.TypeIs { s with heap:=s.heap.push (oh t ((items.size:Int)-1)),toks:=tk } (.ref s.heap.objs.size) "reversed":=⟨_,Heap.get?_push_size _ rfl,rfl⟩
 exact⟨hT,F.args_object_init_2 _ _,object_init_meets j8.init.lookup j8.made (by decide) _ _ _ _ _ ⟨hT,rfl,h _⟩⟩
def fU(h:Heap)(a t:Addr)(i:Int):Prop:=∃o,h.get? a=some o/\o.cls=.type "reversed"/\o.data=.fields #[.ref t,rawInt i]
theorem fU.typeIs{a t:Addr}{i:Int}(x:fU s.heap a t i):s.TypeIs (.ref a) "reversed":=let ⟨o,ho,hc,_⟩:=x;⟨o,ho,hc⟩
theorem fU.at{h h':Heap}{a t:Addr}{i:Int}(x:fU h a t i)(e:∀o,h.get? a=some o->h'.get? a=some o):fU h' a t i:=let ⟨o,ho,r⟩:=x;⟨o,e _ ho,r⟩
theorem wk{it t:Addr}{i:Nat}{items:Array Value}{x:Value}{Q:Option Value->Shared->Prop}(hit:fU s.heap it t (i:Int))(ht:IsTup s.heap t items)(hz:(items.size:Int)<2 ^ 62)(hx:items[i]?=some x)
 (hQ:∀h' tk,fU h' it t ((i:Int)-1)->Heap.SameBut it s.heap h'->Q (some x) { s with heap:=h',toks:=tk }):wpAny (model prog w) A (pyNext (.ref it)) Q E s:=by
 refine aN (id hit) fun o ho hc hd=>?_
 have hi:i<items.size:=(Array.getElem?_eq_some_iff.mp hx).1
 unfold pyNext
 refine wpAny_bind (wpAny_attempt (wpAny_callSpecial?_slot (name:=Str.ofString "__next__") hit.typeIs fZ
  (wpAny_call_entry fZ hit.typeIs kI ?_ (mE _))))
 unfold Builtin.«reversed.__next__»
 refine wpAny_bind (wpAny_of_eq (a:=(Value.ref it,[])) rfl ?_)
 try dsimp only
 refine wpAny_bind (wpAny_field ho hd (x:=.ref t) rfl ?_)
 refine wpAny_bind (wpAny_field ho hd (x:=rawInt (i:Int)) rfl ?_)
 show wpAny _ _ (if(i:Int)<0 then _ else _) _ _ s
 rw[if_neg (by exact Lg)]
 refine wpAny_bind (wpAny_specialOf ht.typeIs PySem.F.slot_tuple_getitem.lookup ?_)
 rw[if_neg (by exact jx)]
 refine wpAny_bind (wpAny_bind (wpAny_fresh (wpAny_pure ?_)))
 refine wpAny_bind (wpAny_attempt (PyProof.Rows.getItem_tuple (x:=x) (k:=(i:Int)) ⟨_,(ht.choose_spec).1,(ht.choose_spec).2.1,(ht.choose_spec).2.2⟩ (by exact Int.natCast_nonneg _) (by lia) (gA (by exact Int.natCast_nonneg _) (by simpa using hi)) (by simpa using hx) ?_))
 dsimp only
 refine wpAny_bind (wpAny_field ho hd (x:=rawInt (i:Int)) rfl ?_)
 dsimp only[rawInt]
 refine wpAny_bind (wpAny_setField ho hd (by exact cm rfl) ?_)
 refine wpAny_pure ⟨x,rfl,wpAny_pure (hQ _ _ ?_ (Heap.SameBut.update ..))⟩
 exact⟨_,Heap.get?_update_self _ ho (Obj.isFreed_of_fields (Obj.data_mapFields hd _)),(Obj.cls_mapFields ..).trans hc,by
  rw[Obj.data_mapFields hd];(rfl)⟩
theorem ym{it t:Addr}{Q:Option Value->Shared->Prop}(hh:A.handled=none)(hit:fU s.heap it t (-1))
 (hQ:∀h',Heap.ExtBut it s.heap h'->Q none { s with heap:=h' }):wpAny (model prog w) A (pyNext (.ref it)) Q E s:=by
 refine aN (id hit) fun o ho hc hd=>?_
 unfold pyNext
 refine wpAny_bind (wpAny_attempt (wpAny_callSpecial?_slot (name:=Str.ofString "__next__") hit.typeIs fZ
  (wpAny_call_entry fZ hit.typeIs kI ?_ (mE _))))
 unfold Builtin.«reversed.__next__»
 refine wpAny_bind (wpAny_of_eq (a:=(Value.ref it,[])) rfl ?_)
 try dsimp only
 refine wpAny_bind (wpAny_field ho hd (x:=.ref t) rfl ?_)
 refine wpAny_bind (wpAny_field ho hd (x:=rawInt (-1)) rfl ?_)
 show wpAny _ _ (if(-1:Int)<0 then _ else _) _ _ s
 rw[if_pos (by decide)]
 refine wpAny_bind (wpAny_rule ?_)
 refine wpAny_bind ?_
 refine wpAny_bind (m:=setField (.ref it) 1 (rawInt (-1))) (wpAny_setField ho hd (by exact cm rfl) ?_)
 have kr:=Heap.get?_update_self (h:=s.heap) (Obj.mapFields (·.setIfInBounds 1 (rawInt (-1)))) ho (Obj.isFreed_of_fields (Obj.data_mapFields hd _))
 have hd2:=Obj.data_mapFields (f:=(·.setIfInBounds 1 (rawInt (-1)))) hd
 refine wpAny_setField (a:=it) (i:=0) (x:=.none) kr hd2 (by exact cm rfl) ?_
 first
 |show wpAny _ _ (newExc (.type "StopIteration") [] >>= _) _ _ _
 |(refine wpAny_bind ?_;show wpAny _ _ (newExc (.type "StopIteration") [] >>= _) _ _ _)
 refine wpAny_bind ?_
 simp only[newExc,newTuple]
 refine wpAny_bind (wpAny_newObj_type ?_ (by size_fits))
 refine wpAny_bind (m:=firstArgMember _ _) (wpAny_of_eq (a:=Value.none) (by first|rfl|(simp only[firstArgMember];rfl)) ?_)
 refine wpAny_newObj_type ?_ (by size_fits)
 unfold raiseNew
 refine wpAny_bind (wpAny_handled ?_)
 first|rw[show A.in1.handled=none from hh]|rw[hh]
 refine wpAny_bind (wpAny_pure (wpAny_throw ?_))
 refine wpAny_bind (wpAny_isInstance (T:="StopIteration") (b:=true) ⟨_,Heap.get?_push_size _ rfl,rfl⟩ isSubtype_stop ?_)
 exact wpAny_pure (hQ _ fun b o hb e=>Heap.get?_push_of_some _ (Heap.get?_push_of_some _ ((Heap.get?_update_other _ _ (Ne.symm hb)).trans ((Heap.get?_update_other _ _ (Ne.symm hb)).trans e))))
theorem wl{it t:Addr}{i:Int}{Q:Value->Shared->Prop}(hit:fU s.heap it t i)(h:Q (.ref it) s):wpAny (model prog w) A (pyIter (.ref it)) Q E s:=by
 refine wpAny_pyIter_slot hit.typeIs mD (wpAny_call_entry mD hit.typeIs qv ?_ (rU _))
 show wpAny _ _ (ret (.ref it)) _ _ s
 exact wpAny_pure ⟨_,rfl,"reversed",_,hit.typeIs,fZ.lookup,h⟩
theorem v1{prog:Program}{w:World}{A:Around}(hh:A.handled=none)(I t:Addr)(eG:t≠I)(items:Array Value)(hz:(items.size:Int)<2 ^ 62):
 Walks prog w A I [I,t] [I] items.size (fun i v=>items[items.size-1-i]?=some v) (fun i h=>i<=items.size/\fU h I t ((items.size:Int)-1-(i:Int))/\IsTup h t items) where
 sub:=fun b hb=>by simp at hb;simp[hb]
 frame:=fun _ _ _ x hk=>⟨x.1,x.2.1.at fun o e=>hk I (by exact List.mem_cons_self) o e,let ⟨o,ho,r⟩:=x.2.2;⟨o,hk t (by exact .tail _ (.head _)) o ho,r⟩⟩
 item:=fun i s Q E hi x hQ=>by
  have e:(items.size:Int)-1-(i:Int)=((items.size-1-i:Nat):Int):=by exact Sb hi
  have hit:=x.2.1
  rw[e]at hit
  have hx:items[items.size-1-i]?=some (items[items.size-1-i]'(by exact KM e)):=Array.getElem?_eq_getElem (by exact KM e)
  refine wk hit x.2.2 hz hx fun h' tk JR JE=>?_
  have e2:((items.size-1-i:Nat):Int)-1=(items.size:Int)-1-((i+1:Nat):Int):=by exact R9 e
  rw[e2]at JR
  exact hQ _ h' tk hx ⟨hi,JR,let ⟨o,ho,r⟩:=x.2.2;⟨o,(JE.2 t eG).trans ho,r⟩⟩ fun b o hb eo=>JE.extBut b o (fun h=>hb (by simp[h])) eo
 done:=fun s Q E x hQ=>by
  have e:(items.size:Int)-1-(items.size:Int)=-1:=by exact RZ
  have hit:=x.2.1
  rw[e]at hit
  exact ym hh hit fun h' EL=>hQ h' s.toks fun b o hb eo=>EL b o (fun h=>hb (by simp[h])) eo
 self:=fun _ _ _ _ x hQ=>wl x.2.1 hQ
theorem yk:splitId "reversed.__length_hint__"=some ("reversed","__length_hint__"):=by first|rfl|decide +kernel|(unfold splitId String.splitOn;simp +decide [String.splitOnAux])
theorem yl:splitId "list_reverseiterator.__length_hint__"=some ("list_reverseiterator","__length_hint__"):=by first|rfl|decide +kernel|(unfold splitId String.splitOn;simp +decide [String.splitOnAux])
theorem im{α:Type}{M:Model}{A:Around}{b:Bool}{x y:Sem α}{Q:α->Shared->Prop}{E:Value->Shared->Prop}{s:Shared}(h:b=false)(k:wpAny M A y Q E s):wpAny M A (if b=true then x else y) Q E s:=by rw[if_neg (by rw[h];exact jx)];exact k
theorem AM{α:Type}{M:Model}{A:Around}{b:Bool}{x y:Sem α}{Q:α->Shared->Prop}{E:Value->Shared->Prop}{s:Shared}(h:b=true)(k:wpAny M A x Q E s):wpAny M A (if b=true then x else y) Q E s:=by rw[if_pos h];exact k
theorem wQ{I t:Addr}{items:Array Value}{Q:Bool->Shared->Prop}(hit:fU s.heap I t ((items.size:Int)-1))(ht:IsTup s.heap t items)(hz:(items.size:Int)<=16000000)(h:∀b tk,s.toks<=tk->Q b { s with toks:=tk }):
 wpAny (model prog w) A (Builtin.List.listLengthHint (.ref I)) Q E s:=by
 refine aN (id hit) fun o ho hc hd=>?_
 unfold Builtin.List.listLengthHint
 refine wpAny_bind (wpAny_specialOf hit.typeIs yn ?_)
 show wpAny _ A (specialOf (Value.ref I) (Str.ofString "__length_hint__") >>= _) _ _ _
 refine wpAny_bind (wpAny_specialOf hit.typeIs iW.lookup ?_)
 dsimp only
 rw[yk]
 dsimp only
 refine wpAny_bind (wpAny_isInstance hit.typeIs pO ?_)
 refine im rfl ?_
 refine im (by decide +kernel) ?_
 refine wpAny_bind (wpAny_rule ?_)
 refine wpAny_bind (wpAny_of_eq (iW.bind _) ?_)
 dsimp only
 refine wpAny_bind (wpAny_attempt (wpAny_call_entry iW hit.typeIs qw ?_ (rV _)))
 unfold Builtin.«reversed.__length_hint__»
 refine wpAny_bind (wpAny_of_eq (a:=Value.ref I) rfl ?_)
 refine wpAny_bind (wpAny_field ho hd (x:=.ref t) rfl ?_)
 refine im (by rfl) ?_
 refine wpAny_bind (PyProof.Rows.len_tuple ht (by lia) ?_)
 refine wpAny_bind (wpAny_pure ?_)
 dsimp only
 refine wpAny_bind (wpAny_field ho hd (x:=rawInt ((items.size:Int)-1)) rfl ?_)
 dsimp only[rawInt]
 rw[if_neg (by exact RY)]
 refine wpAny_ret_mkInt ?_
 dsimp only
 refine wpAny_bind (wpAny_pure ?_)
 dsimp only
 refine im (by simp[Builtin.List.listFitsIndex];exact RX hz) ?_
 rw[if_neg (by exact RV)]
 refine im (by simp only[Builtin.List.listTooLong,sizeLine_eq,decide_eq_false_iff_not];exact RU hz) ?_
 exact wpAny_pure (h _ _ (by exact RT))
theorem wR{I l:Addr}{i:Int}{Q:Bool->Shared->Prop}(hit:s.heap.IsRevIter I l i)(h:Q false s):wpAny (model prog w) A (Builtin.List.listLengthHint (.ref I)) Q E s:=by
 unfold Builtin.List.listLengthHint
 refine wpAny_bind (wpAny_specialOf hit.typeIs zf ?_)
 show wpAny _ A (specialOf (Value.ref I) (Str.ofString "__length_hint__") >>= _) _ _ _
 refine wpAny_bind (wpAny_specialOf hit.typeIs sw.lookup ?_)
 dsimp only
 rw[yl]
 dsimp only
 refine wpAny_bind (wpAny_isInstance hit.typeIs wb ?_)
 refine im rfl ?_
 refine AM (by decide +kernel) ?_
 exact im (by rfl) (wpAny_pure h)
theorem xX{α:Type}{M:Model}{A:Around}{b:Bool}{x y:Sem α}{Q:α->Shared->Prop}{E:Value->Shared->Prop}{s:Shared}(h:wpAny M A x Q E s)(k:wpAny M A y Q E s):wpAny M A (if b=true then x else y) Q E s:=by cases b;exact k;exact h
variable{R:Result->Shared->Prop}{I:Addr}{fp:List Addr}{P:Nat->Value->Prop}{SI:Nat->Heap->Prop}
theorem BS(W:Walks prog w A.in1 I fp [I] n P SI){S:Addr}(AI:S∉fp){its base:List Value}(hP:∀i v,i<n->P i v->its[i]?=some v)(hn:its.length=n)(hz:base.length+n<=16000000)(res:Value):
 ∀ (k i:Nat) (s:Shared) (acc:Array Value) (c:Nat),n-i=k->i<=n->SI i s.heap->s.heap.get? S=some (listOf acc c)->acc.toList=base++its.take i->
 (∀h' tk c',(∀b o,b≠S->b≠I->s.heap.get? b=some o->h'.get? b=some o)->h'.get? S=some (listOf (base++its).toArray c')->R (.ok (.ret res)) { s with heap:=h',toks:=tk })->
 codeAny (model prog w) A (.builtin "list.extend.loop" ⟨[.ref S,.ref I,res],[]⟩) R s:=by
 have QP:S≠I:=fun e=>AI (W.sub _ (by simp[e]))
 intro k
 induction k with
 |zero=>
  intro i s acc c hk hi kn hS BK hR
  have XK:i=n:=by exact RS hk hi
  clear hi hk hz hP;subst XK
  refine codeAny_builtin F.entry_extend_loop ?_
  rw[Around.under_plainId F.plain_extend_loop _]
  show wpAny _ A.in1 (pyNext (.ref I) >>= _) _ _ s
  refine wpAny_bind (W.done s _ _ kn fun h' tk hm=>?_)
  refine wpAny_pure (hR h' tk c (fun b o h1 h2 e=>hm b o (by simpa using h2) e) ?_)
  have e:acc=(base++its).toArray:=by
   apply Array.toList_inj.mp
   rw[BK,←hn,List.take_length]
  rw[←e]
  exact hm S _ (by simpa using QP) hS
 |succ k ih=>
  intro i s acc c hk hi kn hS BK hR
  have iP:i<n:=by exact RQ hk
  have JA:acc.size=base.length+i:=by
   rw[←Array.length_toList,BK,List.length_append,List.length_take];exact RP hn iP
  refine codeAny_builtin F.entry_extend_loop ?_
  rw[Around.under_plainId F.plain_extend_loop _]
  show wpAny _ A.in1 (pyNext (.ref I) >>= _) _ _ s
  refine wpAny_bind (W.item i s _ _ iP kn fun v h' tk XV Qn hm=>?_)
  have Ud:h'.get? S=some (listOf acc c):=hm S _ (by simpa using QP) hS
  show wpAny _ A.in1 (updateSeq S (·.push v) >>= _) _ _ _
  refine wpAny_bind ?_
  refine wpAny_updateSeq (s:={ s with heap:=h',toks:=tk }) Ud rfl (wpAny_pure ⟨plainId_quiet F.plain_extend_loop _,ih (i+1) _ (acc.push v) _ (by exact RO hk) iP (W.frame _ _ _ Qn fun b hb o e=>?_) (Heap.get?_update_self _ Ud rfl) ?_ fun jK gg c' k2 QQ=>?_⟩)
   (by rw[JA,sizeLine_eq];exact RN hz iP) (by show(acc.push v).size<=sizeLine+1;rw[Array.size_push,JA,sizeLine_eq];exact RM hz iP)
  ·exact(Heap.get?_update_other _ _ (fun h:S=b=>AI (by rw[h];exact hb))).trans e
  ·rw[Array.toList_push,BK,List.append_assoc,List.take_succ,hP i v iP XV];rfl
  ·refine hR jK gg c' (fun b o h1 h2 e=>?_) QQ
   exact k2 b o h1 h2 ((Heap.get?_update_other _ _ (Ne.symm h1)).trans (hm b o (by simpa using h2) e))
theorem oW{s:Shared}{T:String}(W:Walks prog w A.in1 I fp [I] n P SI)(hT:s.TypeIs (.ref I) T)(t1:(Value.type T==Value.type "list")=false)(t2:(Value.type T==Value.type "tuple")=false)
 {S:Addr} (AI:S∉fp) {its base:List Value} (hP:∀i v,i<n->P i v->its[i]?=some v) (hn:its.length=n) (hz:base.length+n<=16000000) (res:Value) (kn:SI 0 s.heap) (c:Nat) (hS:s.heap.get? S=some (listOf base.toArray c))
 (hint:∀ (Q:Bool->Shared->Prop) E,(∀b tk,Q b { s with toks:=tk })->wpAny (model prog w) A.in1 (Builtin.List.listLengthHint (.ref I)) Q E s)
 (hR:∀h' tk c',(∀b o,b≠S->b≠I->s.heap.get? b=some o->h'.get? b=some o)->h'.get? S=some (listOf (base++its).toArray c')->R (.ok (.ret res)) { s with heap:=h',toks:=tk }):
 wpAny (model prog w) A.in1 (Builtin.List.listExtendWith (.ref S) (.ref I) res)
  (fun fin s'=>match fin with|.done f=>R (.ok f) s'|.again c'=>c'.quiet=true/\codeAny (model prog w) A c' R s') (fun e s'=>R (.error e) s') s:=by
 have QP:S≠I:=fun e=>AI (W.sub _ (by simp[e]))
 unfold Builtin.List.listExtendWith
 refine wpAny_bind (wpAny_typeOf hT ?_)
 have h1:Builtin.List.listSameRef (.ref S) (.ref I)=false:=by exact decide_eq_false ‹_›
 simp only[h1,t1,t2,Bool.or_false,Bool.false_eq_true,if_false]
 refine wpAny_bind (W.self 0 _ _ _ kn ?_)
 refine wpAny_bind (wpAny_holding (hint _ _ fun b tk=>?_))
 have fin:∀ (h1:Heap) c',(∀b o,b≠S->s.heap.get? b=some o->h1.get? b=some o)->h1.get? S=some (listOf base.toArray c')->wpAny (model prog w) A.in1 (again (.builtin "list.extend.loop" ⟨[.ref S,.ref I,res],[]⟩)) (fun fin s'=>match fin with|.done f=>R (.ok f) s'|.again c'=>c'.quiet=true/\codeAny (model prog w) A c' R s') (fun e s'=>R (.error e) s') { s with heap:=h1,toks:=tk }:=by
  intro h1 c' k XU
  refine wpAny_pure ⟨plainId_quiet F.plain_extend_loop _,BS W AI hP hn hz res n 0 _ _ _ (Nat.sub_zero n) (Nat.zero_le _) (W.frame 0 _ _ kn fun b hb o e=>k b o (fun z=>AI (z▸hb)) e) XU (by simp) fun h' gg Yf k2 XT=>?_⟩
  exact hR h' gg Yf (fun b o b1 b2 e=>k2 b o b1 b2 (k b o b1 e)) XT
 have Hk:wpAny (model prog w) A.in1 (rule "list.extend.makes-room" >>= fun _=>Builtin.List.listTouch (.ref S) >>= fun _=>
  again (.builtin "list.extend.loop" ⟨[.ref S,.ref I,res],[]⟩)) (fun fin s'=>match fin with|.done f=>R (.ok f) s'|.again c'=>c'.quiet=true/\codeAny (model prog w) A c' R s') (fun e s'=>R (.error e) s') { s with toks:=tk }:=by
  refine wpAny_bind (wpAny_rule ?_)
  refine wpAny_bind ?_
  show wpAny _ A.in1 (updateSeq S (·.push .none) >>= fun _=>updateSeq S (·.pop)) _ _ _
  have hb:base.toArray.size<=16000000:=by simp;(exact d6 (Nat.le_add_right _ _) ‹_›)
  refine wpAny_bind (wpAny_updateSeq hS rfl ?_ (by rw[sizeLine_eq];(exact d6 ‹_› (cm rfl))) (by show(base.toArray.push Value.none).size<=_;rw[Array.size_push,sizeLine_eq];exact RL hb))
  have vC:=Heap.get?_update_self (Obj.mapSeq (·.push Value.none)) hS rfl
  refine wpAny_updateSeq vC rfl ?_ (by show(base.toArray.push Value.none).size<=_;rw[Array.size_push,sizeLine_eq];exact RK hb) (by show((base.toArray.push Value.none).pop).size<=_;rw[Array.size_pop,Array.size_push,sizeLine_eq];(exact d6 ‹_› (cm rfl)))
  have J5:=Heap.get?_update_self (Obj.mapSeq (·.pop)) vC rfl
  refine fin _ (c+1+1) (fun b o hb e=>(Heap.get?_update_other _ _ (Ne.symm hb)).trans ((Heap.get?_update_other _ _ (Ne.symm hb)).trans e)) ?_
  rw[J5]
  simp[Obj.mapSeq,PySem.W.listOf]
 exact xX Hk (fin _ c (fun b o hb e=>e) hS)
theorem tc{E:Value->Shared->Prop}{s:Shared}{T:String}(W:Walks prog w A.in1 I fp [I] n P SI)(hT:s.TypeIs (.ref I) T)(t1:(Value.type T==Value.type "list")=false)(t2:(Value.type T==Value.type "tuple")=false)
 {S:Addr} (AI:S∉fp) {its base:List Value} (hP:∀i v,i<n->P i v->its[i]?=some v) (hn:its.length=n) (hz:base.length+n<=16000000) (kn:SI 0 s.heap) (c:Nat) (hS:s.heap.get? S=some (listOf base.toArray c))
 (hint:∀ (Q:Bool->Shared->Prop) E,(∀b tk,Q b { s with toks:=tk })->wpAny (model prog w) A.in1 (Builtin.List.listLengthHint (.ref I)) Q E s) {Q:Value->Shared->Prop}
 (hQ:∀h' tk c',(∀b o,b≠S->b≠I->s.heap.get? b=some o->h'.get? b=some o)->h'.get? S=some (listOf (base++its).toArray c')->Q .none { s with heap:=h',toks:=tk }):
 wpAny (model prog w) A (call (.builtin "list.extend") [.ref S,.ref I]) Q E s:=by
 refine call_meetsIn (S:=fun A' R s'=>(A'=A/\s'=s)/\∀h' tk c',(∀b o,b≠S->b≠I->s.heap.get? b=some o->h'.get? b=some o)->h'.get? S=some (listOf (base++its).toArray c')->R (.ok (.ret .none)) { s with heap:=h',toks:=tk }) PySem.F.slot_list_extend ⟨_,hS,rfl⟩ PySem.F.entry_list_extend (PySem.F.args_list_extend_2 _ _) ?_ ⟨⟨rfl,rfl⟩,fun h' tk c' a b=>hQ h' tk c' a b⟩
 intro A';intro R;intro s';intro ak;refine bh (ak) fun cu hR=>?_;clear ak;refine bh (cu) fun nP UK=>?_;clear cu;(clear hQ Q;subst nP);subst UK
 show wpAny _ _ (Builtin.List.listExtendWith (.ref S) (.ref I) .none) _ _ _
 exact oW W hT t1 t2 AI hP hn hz .none kn c hS hint fun h' tk c' a b=>hR h' tk c' a b
theorem ta{E:Value->Shared->Prop}{s:Shared}{T:String}(W:Walks prog w A.in1.in1 I fp [I] n P SI)(hT:s.TypeIs (.ref I) T)(t1:(Value.type T==Value.type "list")=false)(t2:(Value.type T==Value.type "tuple")=false)
 (BE:∀b∈fp,b<s.heap.objs.size) {its:List Value} (hP:∀i v,i<n->P i v->its[i]?=some v) (hn:its.length=n) (hz:n<=16000000) (kn:SI 0 s.heap)
 (hint:∀ (h1:Heap) (Q:Bool->Shared->Prop) E,SI 0 h1->(∀b o,s.heap.get? b=some o->h1.get? b=some o)->(∀b tk,Q b { s with heap:=h1,toks:=tk })->wpAny (model prog w) A.in1.in1 (Builtin.List.listLengthHint (.ref I)) Q E { s with heap:=h1 }) {Q:Value->Shared->Prop}
 (hQ:∀h' tk c',(∀b o,b≠s.heap.objs.size->b≠I->s.heap.get? b=some o->h'.get? b=some o)->h'.get? s.heap.objs.size=some (listOf its.toArray c')->Q (.ref s.heap.objs.size) { s with heap:=h',toks:=tk }):
 wpAny (model prog w) A (call (.type "list") [.ref I]) Q E s:=by
 have AI:s.heap.objs.size∉fp:=fun hm=>Nat.lt_irrefl _ (BE _ hm)
 refine callType_codes (Q₁:=fun obj tQ=>obj=.ref s.heap.objs.size/\tQ={ s with heap:=s.heap.push { cls:=.type "list",data:=.seq #[] } }) F.called_list (F.typeCall_list_1 _) F.entry_list_init
  (code_list_new _ ⟨rfl,rfl⟩) fun obj tQ gQ=>?_
 refine bh (gQ) fun ak cu=>?_;clear gQ;subst ak;subst cu
 have hS:(s.heap.push { cls:=.type "list",data:=.seq #[] }).get? s.heap.objs.size=some { cls:=.type "list",data:=.seq #[] }:=Heap.get?_push_size _ rfl
 refine⟨⟨_,hS,rfl⟩,F.args_list_init_2 _ _,?_⟩
 show wpAny _ A.in1.in1 (do let old←Builtin.List.listItems (.ref s.heap.objs.size);Builtin.List.listUpdate (.ref s.heap.objs.size) (fun _=>#[]);letGo old.toList.reverse;Builtin.List.listExtendWith (.ref s.heap.objs.size) (.ref I) .none) _ _ _
 refine wpAny_bind ?_
 unfold Builtin.List.listItems
 refine wpAny_bind (wpAny_seqItems hS rfl (wpAny_pure ?_))
 show wpAny _ A.in1.in1 (updateSeq s.heap.objs.size (fun _=>#[]) >>= fun _=>letGo (#[]:Array Value).toList.reverse >>= fun _=>Builtin.List.listExtendWith (.ref s.heap.objs.size) (.ref I) .none) _ _ _
 refine wpAny_bind (wpAny_updateSeq hS rfl ?_)
 have vC:=Heap.get?_update_self (Obj.mapSeq (fun _=>(#[]:Array Value))) hS rfl
 have S9:∀b o,b≠s.heap.objs.size->s.heap.get? b=some o->((s.heap.push { cls:=.type "list",data:=.seq #[] }).update s.heap.objs.size (Obj.mapSeq (fun _=>(#[]:Array Value)))).get? b=some o:=
  fun b o hb e=>(Heap.get?_update_other _ _ (Ne.symm hb)).trans (Heap.get?_push_of_some _ e)
 have all:∀b o,s.heap.get? b=some o->((s.heap.push { cls:=.type "list",data:=.seq #[] }).update s.heap.objs.size (Obj.mapSeq (fun _=>(#[]:Array Value)))).get? b=some o:=
  fun b o e=>S9 b o (fun z=>Nat.ne_of_lt (Heap.lt_size e) z) e
 refine wpAny_bind (wpAny_letGo ?_)
 have JD:SI 0 ((s.heap.push { cls:=.type "list",data:=.seq #[] }).update s.heap.objs.size (Obj.mapSeq (fun _=>(#[]:Array Value)))):=W.frame 0 _ _ kn fun b hb o e=>all b o e
 refine aA (hT) fun oT Xz XR=>?_;clear hT
 refine oW (T:=T) (base:=[]) W ⟨oT,all _ _ Xz,XR⟩ t1 t2 AI hP hn (by simpa using hz) .none JD _ vC (fun Q E k=>hint _ Q E JD all k) fun h' tk c' a b=>?_
 exact⟨rfl,hQ h' tk c' (fun b' o h1 h2 e=>a b' o h1 h2 (S9 b' o h1 e)) b⟩
noncomputable def ah.del(H:ah)(a:Addr):ah:=fun b=>if b=a then none else H b
theorem GA{xs:List AV}{Q:AQ}(hz:xs.length<=16000000)(h:∀I,H I=none->Q (.ref I) (H.put I (.wm xs))):WB G D (.type "reversed") [.tup xs] H Q where
 go:=fun c ok mm ae s S vals hv Q' E k=>by
  refine aA (hM hv) fun v ak h1=>?_;(clear hv;subst ak)
  refine aE ((ee ..).mp h1) fun t vs ak hm eF=>?_;(clear h1;subst ak)
  refine xl (items:=vs.toArray) ⟨_,(S.nw _ hm).1,rfl,0,rfl⟩ (by rw[List.size_toArray,eF.length];lia) fun tk=>?_
  refine bh (S.eJ (d:=s.heap.objs.size) (ob:=oh t ((vs.toArray.size:Int)-1)) (o:=.wm xs) (S.fr.push _) (S.nw.push S.fr _) (aq S.nw) ⟨t,vs,by rw[List.size_toArray,eF.length],hm,eF⟩) fun S2 K2=>?_
  exact k (.ref _) (.ref _) _ _ _ _ S2 K2 rfl (h _ (S.off (aq S.nw)))
theorem D7{l:Addr}{xs:List AV}{Q:AQ}(hl:H l=some (.list xs))(h:∀I,H I=none->Q (.ref I) (H.put I (.yo l xs.length))):WB G D (.type "reversed") [.ref l] H Q where
 go:=fun c ok mm ae s S vals hv Q' E k=>by
  refine aA (hM hv) fun v ak h1=>?_;(clear hv;subst ak)
  have:v=.ref l:=h1
  clear h1;subst this
  refine aN (S.get hl) fun ob hm ak hg=>?_;refine bi (ak) fun vs n cu eF=>?_;clear ak;(clear hg;subst cu)
  refine call_reversed_list (S.nw.isList hm) ?_
  refine bh (S.eJ (d:=s.heap.objs.size) (ob:=revObj l ((vs.toArray.size:Int)-1)) (o:=.yo l xs.length) (S.fr.push _) (S.nw.push S.fr _) (aq S.nw) (by show _=revObj l _;rw[List.size_toArray,eF.length])) ?_;intro S2 K2
  exact k (.ref _) (.ref _) _ _ _ _ S2 K2 rfl (h _ (S.off (aq S.nw)))
theorem FO{h₀ h h':Heap}{L d I:Addr}{mm:Str->Option Value}(F:Fr h₀ L h mm)(k:∀b o,b≠d->b≠I->h.get? b=some o->h'.get? b=some o)(hd:L≠d)(hI:L≠I)(d0:h₀.get? d=none)(h0:h₀.get? I=none):Fr h₀ L h' mm:=by
 obtain⟨⟨oL,es,ep,hL,r⟩,kk,ab⟩:=F
 exact⟨⟨oL,es,ep,k _ _ hd hI hL,r⟩,fun b o e=>k b o (fun z=>by rw[z,d0]at e;(exact ax e)) (fun z=>by rw[z,h0]at e;(exact ax e)) (kk b o e),ab⟩
theorem xD(H:ah){a b:Addr}(h:b≠a):H.del a b=H b:=by exact if_neg ‹_›
theorem xN(H:ah)(a:Addr):H.del a a=none:=by exact if_pos rfl
theorem St.vK{h₀ h h':Heap}{L:Addr}{mm:Str->Option Value}{ae:dy}(S:St G h₀ L mm H ae h){d I:Addr}{o o':AO}{ob kj oI:Obj}(hd:H d=some o)(hm:(d,ob)∈ae)(hI:(I,oI)∈ae)(Qw:(oI.cls==.type "tuple")=false)(eG:d≠I)(EO:H I≠none)(hg:h'.get? d=some kj)
 (k:∀b x,b≠d->b≠I->h.get? b=some x->h'.get? b=some x) (ho:∀am,(∀a vs,(a,aK vs)∈ae->(a,aK vs)∈am)->OR G am o' kj) (iQ:autoParam (o'.wM=true->o.wM=true) aH):
 ∃am,St G h₀ L mm ((H.put d o').del I) am h'/\aO H ((H.put d o').del I) ae am/\(∀a vs,(a,aK vs)∈ae->(a,aK vs)∈am):=by
 refine dF (fO kj S.nd hm) fun n1 U hk u1 u2 u3=>?_
 have zI:=S.nw _ hI
 have zd:=S.nw _ hm
 have mem:∀p∈n1,p.1≠I->p∈n1.filter fun p=>!decide (p.1=I):=fun p hp q=>List.mem_filter.mpr ⟨hp,by simpa using q⟩
 have sub:∀a vs,(a,aK vs)∈ae->(a,aK vs)∈n1.filter fun p=>!decide (p.1=I):=fun a vs q=>by
  have nI:a≠I:=fun e=>by
   clear mem zd zI u3 u2 u1 hk U n1 k hg EO eG hm hd d h';subst e
   have:=dK S.nd q hI
   clear hI q a S L h h₀;subst this
   simp at Qw
  have nd:a≠d:=fun e=>by
   have:=S.iq q
   rw[e,hd]at this
   exact bg this
  exact mem _ (u1 _ q nd) nI
 refine⟨n1.filter fun p=>!decide (p.1=I),⟨FO S.fr k (Ne.symm zd.2.1) (Ne.symm zI.2.1) zd.2.2 zI.2.2,fun p hp=>?_,?_,fun a x e=>?_,fun a x e i=>?_⟩,fun p hp e=>?_,sub⟩
 ·refine bh (List.mem_filter.mp hp) fun hp q=>?_
  have q:p.1≠I:=by simpa using q
  by_cases z:p.1=d
  ·have:p=(d,kj):=by
    clear zd u3 u1 U iQ k hg eG hm hd ob o h';obtain⟨a,b⟩:=p
    dsimp only at z
    subst z
    rw[dK (hk▸S.nd) hp u2]
   clear z;subst this
   exact⟨hg,zd.2⟩
  ·have y:=S.nw p (u3 p hp z)
   exact⟨k _ _ z q y.1,y.2⟩
 ·exact List.Nodup.sublist (List.filter_sublist.map _) (hk▸S.nd)
 ·have q:a≠I:=fun q=>by rw[q,xN]at e;(exact ax e)
  rw[xD _ q]at e
  by_cases z:a=d
  ·clear zd zI u3 u1 U iQ k hg eG hm hd ob o S L h' h h₀;subst z
   rw[al]at e
   cases e
   exact⟨kj,mem _ u2 q,ho _ sub⟩
  ·rw[aj _ _ z]at e
   refine aA (S.hr a x e) fun b h3 h4=>?_
   exact⟨b,mem _ (u1 _ h3 z) q,h4.sub sub⟩
 ·have q:a≠I:=fun q=>by rw[q,xN]at e;(exact ax e)
  rw[xD _ q]at e
  by_cases z:a=d
  ·clear sub mem zd u3 u2 u1 hk U n1 ho k hg eG hm kj ob h';subst z
   rw[al]at e
   cases e
   exact S.lo a o hd (iQ i)
  ·rw[aj _ _ z]at e
   exact S.lo a x e i
 ·have z:p.1≠d:=fun z=>by rw[z,hd]at e;(exact bg e)
  by_cases q:p.1=I
  ·exact absurd (q▸e) EO
  ·exact⟨mem p (u1 p hp z) q,by rw[xD _ q,aj _ _ z];exact e⟩
theorem dw.reverse{ae:dy}:∀ {xs:List AV} {vs:List Value},dw ae xs vs->dw ae xs.reverse vs.reverse:=by
 intro zz
 induction zz with
 |nil=>
  intro _ h
  rw[(bC ..).mp h];exact(bC ..).mpr rfl
 |cons x xs ih=>
  intro _ h
  refine aE ((aW ..).mp h) fun v r ak h1 h2=>?_;(clear h;subst ak)
  rw[List.reverse_cons,List.reverse_cons]
  exact(ih h2).push h1
theorem uU{vs:List Value}(i:Nat)(v:Value)(h:vs.toArray[vs.toArray.size-1-i]?=some v)(hi:i<vs.length):vs.reverse[i]?=some v:=by
 rw[List.getElem?_reverse hi]
 simpa using h
theorem Gd{l I:Addr}{ys xs:List AV}{Q:AQ}(hl:H l=some (.list ys))(hI:H I=some (.wm xs))(hz:ys.length+xs.length<=16000000)(h:Q .none ((H.put l (.list (ys++xs.reverse))).del I)):WB G D (.builtin "list.extend") [.ref l,.ref I] H Q where
 go:=fun c ok mm ae s S vals hv Q' E k=>by
  refine aE (jI hv) fun v w ak h1 h2=>?_;(clear hv;subst ak)
  have:v=.ref l:=h1
  clear h1;subst this
  have:w=.ref I:=h2
  clear h2;subst this
  refine aN (S.get hl) fun ob hm ak hg=>?_;refine bi (ak) fun vs n cu eF=>?_;clear ak;subst cu
  refine aN (S.get hI) fun oI JH ak Om=>?_;refine aE (ak) fun t us cu ht Jx=>?_;clear ak;subst cu
  have eG:l≠I:=fun z=>by rw[z,hI]at hl;cases hl
  have Xq:t≠I:=fun z=>by have:=S.iq ht;rw[z,hI]at this;(exact bg this)
  have Xp:t≠l:=fun z=>by have:=S.iq ht;rw[z,hl]at this;(exact bg this)
  have Bn:=Jx.length
  have Bm:=eF.length
  have AG:vs.length+us.length<=16000000:=by exact RJ hz Bn Bm
  have sz:us.toArray.size=us.length:=by(rfl)
  have Qw:((oh t ((xs.length:Int)-1)).cls==.type "tuple")=false:=rfl
  have W:=v1 (prog:=G.prog) (w:=G.w) (A:=c.A.in1) ok.handled I t Xq us.toArray (by rw[sz];lia)
  have hit:fU s.heap I t ((us.toArray.size:Int)-1):=⟨_,Om,rfl,by rw[sz,Bn]⟩
  have Jy:IsTup s.heap t us.toArray:=⟨_,(S.nw _ ht).1,rfl,0,rfl⟩
  have kn:0<=us.toArray.size/\fU s.heap I t ((us.toArray.size:Int)-1-((0:Nat):Int))/\IsTup s.heap t us.toArray:=⟨Nat.zero_le _,by simpa using hit,Jy⟩
  refine tc (base:=vs) (its:=us.reverse) (n:=us.toArray.size) W hit.typeIs (by decide) (by decide) (fun z=>?_) (fun i v hi e=>uU i v e (by rw[sz]at hi;exact hi)) (by rw[List.length_reverse,sz]) (by rw[sz];exact AG) kn n hg (fun Q E q=>wQ hit Jy (by rw[sz];exact RI AG) fun b tk _=>q b tk) fun h' tk c' k1 k2=>?_
  ·rcases de z with z|z
   ·exact eG z
   ·exact Xp (fG z).symm
  ·refine aN (S.vK (o':=.list (ys++xs.reverse)) hl hm JH Qw eG (by rw[hI];simp) k2 k1 fun n2 sb=>⟨vs++us.reverse,c',rfl,(eF.sub sb).app (dw.reverse (Jx.sub sb))⟩) ?_;intro n' S' K' sub
   exact k .none .none _ n' h' tk S' K' rfl h
theorem D6{l I:Addr}{xs:List AV}{Q:AQ}(hl:H l=some (.list xs))(hI:H I=some (.yo l xs.length))(hz:xs.length<=16000000)(h:∀d,H d=none->d≠I->Q (.ref d) ((H.put d (.list xs.reverse)).del I)):WB G D (.type "list") [.ref I] H Q where
 go:=fun c ok mm ae s S vals hv Q' E k=>by
  refine aA (hM hv) fun v ak h1=>?_;(clear hv;subst ak)
  have:v=.ref I:=h1
  clear h1;subst this
  refine aN (S.get hl) fun ob hm ak hg=>?_;refine bi (ak) fun vs n cu eF=>?_;clear ak;subst cu
  refine aN (S.get hI) fun oI JH TQ Om=>?_
  have:oI=revObj l ((xs.length:Int)-1):=TQ
  clear TQ;subst this
  have eG:l≠I:=fun z=>by rw[z,hI]at hl;cases hl
  have Bm:=eF.length
  have sz:vs.toArray.size=vs.length:=by(rfl)
  have W:=Walks.listRev (prog:=G.prog) (w:=G.w) (A:=c.A.in1.in1) ok.handled I l eG vs.toArray
  have hit:s.heap.IsRevIter I l ((vs.toArray.size:Int)-1):=⟨_,Om,rfl,by rw[sz,Bm];rfl⟩
  have JJ:s.heap.IsList l vs.toArray:=S.nw.isList hm
  have d1:∀p∈ae,p.1≠s.heap.objs.size:=aq S.nw
  refine ta (its:=vs.reverse) (n:=vs.toArray.size) W hit.typeIs (by decide) (by decide) (fun b hb=>?_) (fun i v hi e=>uU i v e (by rw[sz]at hi;exact hi)) (by rw[List.length_reverse,sz]) (by rw[sz];exact RH hz Bm) ⟨Nat.zero_le _,by simpa using hit,JJ⟩
   (fun h1 Q E st keep q=>wR (s:={ s with heap:=h1 }) st.2.1 (q false s.toks)) fun h' tk c' k1 k2=>?_
  ·clear hit W eG JH k S ok c h hI hl Q;rcases de hb with rfl|hb
   ·exact Heap.lt_size Om
   ·rw[fG hb];exact Heap.lt_size hg
  ·refine bh (S.eJ (d:=s.heap.objs.size) (ob:=listOf #[] 0) (o:=.list []) (S.fr.push _) (S.nw.push S.fr _) d1 ⟨[],0,rfl,(bC ..).mpr rfl⟩) fun S1 K1=>?_
   have nI:s.heap.objs.size≠I:=fun z=>d1 _ JH z.symm
   obtain⟨n',S',K',sub⟩:=S1.vK (h':=h') (o':=.list xs.reverse) (al _ _ _) (.head _) (.tail _ JH) rfl nI (by rw[aj _ _ (Ne.symm nI),hI];simp) k2 (fun b x b1 b2 e=>k1 b x b1 b2 (by
    rcases Heap.get?_push_cases e with⟨z,_⟩|z
    ·exact absurd z b1
    ·exact z)) fun n2 sb=>⟨vs.reverse,c',rfl,dw.reverse (eF.sub fun a us q=>sb a us (.tail _ q))⟩
   have e:(H.put s.heap.objs.size (.list [])).put s.heap.objs.size (.list xs.reverse)=H.put s.heap.objs.size (.list xs.reverse):=by funext a;simp only[ah.put];split<;>rfl
   rw[e]at S' K'
   refine k (.ref _) (.ref _) _ n' h' tk S' ?_ rfl (h _ (S.off d1) nI)
   intro p hp e
   have nd:=d1 p hp
   exact K' p (.tail _ hp) (by rw[aj _ _ nd];exact e)
set_option tactic.hygienic true in
theorem sV{H:ah}{I l:Addr}{o o':AO}(h:H I=none)(hl:l≠I):((H.put I o).put l o').del I=H.put l o':=by
 funext a;unfold ah.del ah.put;split
 ·rename_i e;subst e;rw[if_neg (Ne.symm hl),h]
 ·rfl
theorem Gs{x:Str}{e:Expr}{p1 p2 p3 p4 p5 p6:Pos}{l:Addr}{Q:Fl->bP->ah->Prop}(hn:nsIn G.K mainGlobals "reversed"=some none)(hm:m.lookup x=some (.ref l))(hl:∃ys,H l=some (.list ys))
 (h:WE G D cs cl e m H fun a H1=>∃xs ys,a=.tup xs/\H1 l=some (.list ys)/\ys.length+xs.length<=16000000/\Q .next m (H1.put l (.list (ys++xs.reverse))))
 (hp:autoParam (cN e=true) aR) (hx:autoParam (cs.names.lookup x=some .local) aR) (hr:autoParam (cs.names.lookup ("reversed":Str)=some .globalImplicit) aR) (hd:autoParam ((x==("__debug__":Str))=false) aD) {pl:Env->Sem Bool}
 (he:autoParam (∀env:Env,eval (.Call (.Attribute (.Name x p1) ("extend":Str) p2) [.Call (.Name ("reversed":Str) p3) [e] [] p4] [] p5) env=(do
  let ov←eval (.Name x p1) env
  standAt p2.atName
  let (f,first)←holding [ov] (getMethod ov ("extend":Str) (pl env))
  callWith p5 f first (backTo p5 (starEach [.Call (.Name ("reversed":Str) p3) [e] [] p4] env)) [])) aI):
 W1 G D cs cl (.Expr (.Call (.Attribute (.Name x p1) ("extend":Str) p2) [.Call (.Name ("reversed":Str) p3) [e] [] p4] [] p5) p6) m H Q:=by
 refine aY (hl) fun YA nG=>?_;clear hl
 refine W1.expr (WE.cW (he:=he) (WE.name hm ⟨l,_,"list.extend",rfl,nG,rfl,ft (T:="reversed") hn (by kernel_rfl) (by decide) (h.mono fun a H1 q=>?_) (by simp[hp]) hr⟩ hx hd))
 refine el (q) ?_;clear q;intro xs ys ak h1 h2 q;subst ak
 refine GA (by exact d6 (Nat.le_add_left _ _) ‹_›) fun I hI=>?_
 have eG:l≠I:=fun z=>by rw[z,hI]at h1;(exact ax h1)
 refine Gd (l:=l) ((aj _ _ eG).trans h1) (al _ _ _) h2 ?_
 rw[sV hI eG]
 exact q
theorem WE.listRev{e:Expr}{p1 p2 p3 p4:Pos}{Q:AQ}(hn:nsIn G.K mainGlobals "reversed"=some none)(vA:nsIn G.K mainGlobals "list"=some none)
 (h:WE G D cs cl e m H fun a H1=>∃l xs,a=.ref l/\H1 l=some (.list xs)/\xs.length<=16000000/\∀d,H1 d=none->Q (.ref d) (H1.put d (.list xs.reverse)))
 (hp:autoParam (cN e=true) aR) (hr:autoParam (cs.names.lookup ("reversed":Str)=some .globalImplicit) aR) (Br:autoParam (cs.names.lookup ("list":Str)=some .globalImplicit) aR):
 WE G D cs cl (.Call (.Name ("list":Str) p1) [.Call (.Name ("reversed":Str) p2) [e] [] p3] [] p4) m H Q:=by
 refine ft (T:="list") vA (by kernel_rfl) (by decide) (ft (T:="reversed") hn (by kernel_rfl) (by decide) (h.mono fun a H1 q=>?_) (by simp[hp]) hr) rfl Br
 refine el (q) ?_;clear q;intro l xs ak h1 h2 q;subst ak
 refine D7 h1 fun I hI=>?_
 have eG:l≠I:=fun z=>by rw[z,hI]at h1;(exact ax h1)
 refine D6 (l:=l) (xs:=xs) ((aj _ _ eG).trans h1) (al _ _ _) h2 fun d hd TY=>?_
 rw[sV hI TY]
 exact q d ((aj _ _ TY).symm.trans hd)
mutual
def DA(H:ah):PyData->AV->Prop
 |.none,a=>a=.none
 |.bool b,a=>a=.bool b
 |.int i,a=>a=.int i
 |.str s,a=>a=.str s
 |.tuple ds,a=>∃as,a=.tup as/\xz H ds as
 |.list ds,a=>∃l o as,a=.ref l/\H l=some o/\o.view=.list as/\xz H ds as
 |.dict _,_=>False
def xz(H:ah):List PyData->List AV->Prop
 |[],as=>as=[]
 |d::ds,as=>∃a r,as=a::r/\DA H d a/\xz H ds r
end
mutual
theorem DA.reads(S:St G h₀ L mm H ae h):∀ {d:PyData} {a:AV} {v:Value},DA H d a->VR ae a v->∃as,Reads h v d as
 |.none,a,v,hd,hv=>by obtain rfl:=hd;obtain rfl:=hv;exact⟨_,.none⟩
 |.bool b,a,v,hd,hv=>by obtain rfl:=hd;obtain rfl:=hv;exact⟨_,.bool b⟩
 |.int i,a,v,hd,hv=>by obtain rfl:=hd;(refine aY (hv) fun t ak=>?_;clear hv;subst ak);exact⟨_,.int i t⟩
 |.str i,a,v,hd,hv=>by obtain rfl:=hd;(refine aY (hv) fun t ak=>?_;clear hv;subst ak);exact⟨_,.str i t⟩
 |.tuple ds,a,v,hd,hv=>by
  refine aA (hd) fun as ak h1=>?_;clear hd;subst ak
  refine aE ((ee ..).mp hv) fun t vs ak hm eF=>?_;subst ak
  refine aY (xz.reads S h1 eF) fun rs hr=>?_
  exact⟨_,.tuple (vs:=vs.toArray) (n:=0) (S.nw _ hm).1 rfl rfl (by simpa using hr)⟩
 |.list ds,a,v,hd,hv=>by
  refine cQ (hd) fun l o as ak hl ho h1=>?_;clear hd;subst ak
  have:v=.ref l:=hv
  subst this
  refine aN (S.get hl) fun ob hm kr hg=>?_
  have hZ:=kr.view
  rw[ho]at hZ
  refine bi (hZ) fun vs n ak eF=>?_;clear hZ;subst ak
  refine aY (xz.reads S h1 eF) fun rs hr=>?_
  exact⟨_,.list (vs:=vs.toArray) (n:=n) hg rfl rfl (by simpa using hr)⟩
 |.dict _,a,v,hd,hv=>by exact hd.elim
theorem xz.reads(S:St G h₀ L mm H ae h):∀ {ds:List PyData} {as:List AV} {vs:List Value},xz H ds as->dw ae as vs->∃rs,ReadsAll h vs ds rs
 |[],as,vs,hd,hv=>by obtain rfl:=hd;rw[bC]at hv;subst hv;exact⟨_,.nil⟩
 |d::ds,as,vs,hd,hv=>by
  refine aE (hd) fun a r ak h1 h2=>?_;clear hd;subst ak
  refine aE ((aW ..).mp hv) fun v w ak h3 h4=>?_;subst ak
  refine aY (DA.reads S h1 h3) fun x hx=>?_
  refine aY (xz.reads S h2 h4) fun y hy=>?_
  exact⟨_,.cons hx hy⟩
end
variable{a b:AV}{da db:PyData}{Q:Bool->ah->Prop}
theorem DF(ha:DA H da a)(hb:DA H db b)(sa:SeqAt.shaped da=true)(sb:SeqAt.shaped db=true)(h:Q (!PyData.eqv da db) H):cS G (D+8) .NotEq a b H Q where
 go:=fun c ok mm ae s S va vb OL OK Q' E k=>by
  refine aY (ha.reads S OL) fun _ ra=>?_
  refine aY (hb.reads S OK) fun _ rb=>?_
  exact ne_dataH ra rb sa sb (by have:=ok.units;exact RG this) (k _ H ae s.heap s.toks S aO.rfl h)
mutual
theorem kU:∀d:PyData,d.canLay0=true->PyData.eqv d d=true
 |.none,_=>by simp[PyData.eqv]
 |.bool b,_=>by exact if_pos rfl
 |.int b,_=>by exact if_pos rfl
 |.str b,_=>by exact if_pos rfl
 |.tuple ds,h=>by rw[PyData.eqv];exact ji ds (by simpa[PyData.canLay0]using h)
 |.list ds,h=>by rw[PyData.eqv];exact ji ds (by simpa[PyData.canLay0]using h)
 |.dict _,h=>by simp[PyData.canLay0]at h
theorem ji:∀ds:List PyData,PyData.canLayAll0 ds=true->PyData.eqvAll ds ds=true
 |[],_=>by simp[PyData.eqvAll]
 |d::ds,h=>by
  have h:d.canLay0=true/\PyData.canLayAll0 ds=true:=by simpa[PyData.canLayAll0]using h
  rw[PyData.eqvAll,kU d h.1,ji ds h.2];rfl
end
theorem Gg{ae:dy}{vs:List Value}{ns:List Int}(h:IntsAre vs ns):dw ae (ns.map AV.int) vs:=by
 induction h with
 |nil=>exact(bC ..).mpr rfl
 |cons a t h ih=>exact(aW ..).mpr ⟨_,_,rfl,⟨t,rfl⟩,ih⟩
theorem um{vs:List Value}:∀ {ns:List Int},vs.length=ns.length->(∀ (j:Nat) (v:Value) (n:Int),vs[j]?=some v->ns[j]?=some n->∃t,v=.int n t)->IntsAre vs ns:=by
 induction vs with
 |nil=>
  intro ns h _
  rw[List.eq_nil_of_length_eq_zero h.symm];exact .nil
 |cons v vs ih=>
  intro ns h k
  cases ns with
  |nil=>exact absurd h (Nat.succ_ne_zero _)
  |cons n ns=>
   obtain⟨t,e⟩:=k 0 v n rfl rfl
   rw[e];exact .cons n t (ih (Nat.succ.inj h) fun j=>k (j+1))
theorem D9{l:Addr}{es:List (Int×AV)}{Q:AQ}(hl:H l=some (.aB es))(Ug:es.length<64)
 (h:∀ (d:Addr) (ns:List Int),H d=none->ns.Perm (es.map (·.1))->ns.Pairwise (·<=·)->Q (.ref d) (H.put d (.list (ns.map AV.int)))):WB G D (.builtin "sorted") [.ref l] H Q where
 go:=fun c ok mm ae s S vals hv Q' E k=>by
  refine aA (hM hv) fun v ak h1=>?_;(clear hv;subst ak)
  have:v=.ref l:=h1
  clear h1;subst this
  refine aN (S.get hl) fun ob hm ak hg=>?_;refine aA (ak) fun kvs hd hr=>?_;clear ak
  have lo:=S.lo l _ hl rfl
  refine aY (qf hd) fun ep J4=>?_
  have hlen:kvs.length=es.length:=hr.length
  refine kdu_sorted (kdl_dict (knd:=intKind G.prog G.w) (kvs:=kvs) (ep:=ep) lo) ok.handled S.fr S.nw (J4 _ _ hg) (by rw[hlen,sizeLine_eq];exact RE Ug) fun B h' tk vs F' N' l1 TS EA=>?_
  have hI:IntsAre vs (es.map (·.1)):=um (by rw[TS,hlen,List.length_map]) fun j v n a b=>by
   refine bi (EA j v a) fun k' x e1 e2=>?_
   have:(kvs.map (·.1))[j]?=some k':=by rw[List.getElem?_map,e1];rfl
   rw[hr.keys,b]at this
   clear e1 x;cases this
   exact Value.isInt_shape e2
  have hB:=N' _ (.head _)
  refine wpAny_call_entry PyProof.Rows.slot_list_sort ⟨_,hB.1,rfl⟩ PyProof.Rows.entry_list_sort (list_sort_tree (s:={ s with heap:=h',toks:=tk }) (n:=0) (vs:=vs) hB.1 hI (by rw[TS,hlen];exact Ug) fun out Td XY hp hP=>⟨.none,rfl,?_⟩) (PyProof.Rows.args_list_sort _)
  refine aY (sortedHeap_at (h:=h') (a:=B) (vs:=vs) (n:=0) (out:=out) hB.1) fun e' EL=>?_
  have old:∀b o,b≠B->h'.get? b=some o->(sortedHeap h' B vs out).get? b=some o:=fun b o hb e=>(sortedHeap_old hb (Heap.lt_size e)).trans e
  have F2:Fr c.h₀ c.L (sortedHeap h' B vs out) mm:=Fr.kept F' old (Ne.symm hB.2.1) hB.2.2
  have N2:News c.h₀ c.L (sortedHeap h' B vs out) ((B,listOf out e')::ae):=fun p hp=>by
   rcases de hp with rfl|hp
   ·exact⟨EL,hB.2⟩
   ·have:=N' p (.tail _ hp)
    exact⟨old _ _ (Nat.ne_of_lt (l1 p hp)) this.1,this.2⟩
  refine bh (S.eJ (o:=.list (Td.map AV.int)) F2 N2 (gu l1) ⟨out.toList,e',by(rfl),Gg XY⟩) fun S2 K2=>?_
  exact k (.ref B) (.ref B) _ _ _ _ S2 K2 rfl (h B Td (S.off (gu l1)) hp hP)
theorem dw.take{ae:dy}:∀ {xs:List AV} {vs:List Value} (n:Nat),dw ae xs vs->dw ae (xs.take n) (vs.take n)
 |[],vs,n,h=>by rw[(bC ..).mp h];simp[bC]
 |x::xs,vs,0,h=>by(rfl)
 |x::xs,vs,n+1,h=>by
  refine aE ((aW ..).mp h) fun v r ak h1 h2=>?_;subst ak
  exact(aW ..).mpr ⟨v,_,rfl,h1,h2.take n⟩
theorem dw.drop{ae:dy}:∀ {xs:List AV} {vs:List Value} (n:Nat),dw ae xs vs->dw ae (xs.drop n) (vs.drop n)
 |[],vs,n,h=>by rw[(bC ..).mp h];simp[bC]
 |x::xs,vs,0,h=>h
 |x::xs,vs,n+1,h=>by
  refine aE ((aW ..).mp h) fun v r ak h1 h2=>?_;subst ak
  exact h2.drop n
theorem xL{l:Addr}{xs:List AV}{i:Nat}{a:AV}{Q:AQ}(hl:H l=some (.list xs))(hi:i<=xs.length)(hz:xs.length<=16000000)(h:Q .none (H.put l (.list (xs.take i++a::xs.drop i)))):WB G D (.builtin "list.insert") [.ref l,.int i,a] H Q where
 go:=fun c ok mm ae s S vals hv Q' E k=>by
  refine cQ (vn hv) fun v w x ak h1 h2 h3=>?_;(clear hv;subst ak)
  have:v=.ref l:=h1
  clear h1;subst this
  refine aY (h2) fun t ak=>?_;clear h2;subst ak
  refine aN (S.get hl) fun ob hm ak hg=>?_;refine bi (ak) fun vs n cu eF=>?_;clear ak;(clear hg;subst cu)
  have e:kl_ins vs (i:Int) x=vs.take i++x::vs.drop i:=by
   unfold kl_ins
   have h0:¬(i:Int)<0:=by exact Lg
   have h1:min i vs.length=i:=by rw[eF.length];exact RD hi
   simp[h0,h1]
  refine dF (fO (listOf (vs.take i++x::vs.drop i).toArray (n+1)) S.nd hm) fun n' U hk u1 u2 _=>?_
  refine kl_insert (its:=vs.toArray) S.fr S.nw (by simp[Builtin.List.listFitsIndex];exact RC hi hz) e U (by rw[show vs.toArray.toList=vs from rfl,eF.length,sizeLine_eq];exact E8 hz) (fun h' F N=>?_)
  refine ci (S.upd (o':=.list (xs.take i++a::xs.drop i)) hl hm F N hk u1 u2 ⟨_,n+1,rfl,(eF.take i).app ((aW ..).mpr ⟨x,_,rfl,h3,eF.drop i⟩)⟩) fun S' K' _=>?_
  exact k .none .none _ n' h' _ S' K' rfl h
theorem WB.range{n:Int}{Q:AQ}(h:∀l,H l=none->Q (.ref l) (H.put l (.range n))):WB G D (.type "range") [.int n] H Q where
 go:=fun c ok mm ae s S vals hv Q' E k=>by
  refine aA (hM hv) fun v ak h1=>?_;(clear hv;subst ak)
  refine aY (h1) fun t ak=>?_;clear h1;subst ak
  refine call_range_1 ?_
  (refine bh (S.eJ (d:=s.heap.objs.size) (ob:={ cls:=.type "range",data:=.fields #[.int 0 s.toks,.int n t,.int 1 (s.toks+1)] }) (o:=.range n) (S.fr.push _) (S.nw.push S.fr _) (aq S.nw) ⟨_,_,_,rfl⟩) fun S2 K2=>?_)
  exact k (.ref _) (.ref _) _ _ _ _ S2 K2 rfl (h _ (S.off (aq S.nw)))
theorem xJ{x y:Str}{Q:AQ}(hz:x.length+y.length<=1000000)(h:Q (.str (x++y)) H):np G D .Add false (.str x) (.str y) H Q where
 go:=fun c ok mm ae s S va vb ha hb Q' E k=>by
  (refine aY (ha) fun t ak=>?_;clear ha;subst ak);(refine aY (hb) fun u ak=>?_;clear hb;subst ak)
  exact PyProof.Rows.add_str (fun t' tk=>k _ _ H ae s.heap tk S aO.rfl (by exact⟨_,rfl⟩) h) (by rw[sizeLine_eq];(exact d6 ‹_› (cm rfl)))
theorem Gr{o e:Expr}{name:Str}{op:Operator}{tp pos:Pos}{Q:Fl->bP->ah->Prop}
 (h:WE G D cs cl o m H fun a H1=>∃x C dx as b,a=.ref x/\H1 x=some (.inst C dx)/\H1 dx=some (.attrs as)/\as.lookup name=some b/\b.ok=true/\cj G.K C name=true/\
  WE G D cs cl e m H1 fun v H2=>np G D op true b v H2 fun r H3=>∃uI,H3 x=some (.inst C dx)/\H3 dx=some (.attrs uI)/\cJ G.K C name=true/\uI.length<=900/\Q .next m (H3.put dx (.attrs (kJ name r uI)))):
 W1 G D cs cl (.AugAssign (.Attribute o name tp) op e pos) m H Q where
 go:=fun c h1 h2 ok mm ae s S lr Q' E k=>by
  refine wpAny_AugAssign_AttributeAny (h.go c h1 h2 ok mm ae s S lr _ E fun va a H1 n1 cP Fk S1 K1 V1 q=>?_)
  refine qX (q) fun x C dx as b GX=>?_;clear q;refine eP (GX) fun ak hx hd hl hb hi q=>?_;clear GX;subst ak
  have:va=.ref x:=V1
  clear V1;subst this
  refine aN (S1.get hx) fun ox x1 x2 x3=>?_
  have:ox=instObj C dx:=x2
  clear x2 x1;subst this
  refine aN (S1.get hd) fun od d1 ak d3=>?_;refine bi (ak) fun es n cu d4=>?_;clear ak;(clear d1;subst cu)
  refine aA (d4.mn hl) fun v' e1 e2=>?_
  simp only[cj,Bool.and_eq_true,beq_iff_eq]at hi
  refine get_own (s:={ s with heap:=cP,toks:=Fk }) S1.fr ok.qL (es:=es) (n:=n) ⟨x3,rfl,rfl,d3⟩ hi.1.1 hi.1.2 hi.2 rfl e1 (qb hb e2) ?_
  refine q.go c h1 h2 ok mm n1 _ S1 (LR.keep S K1 lr) _ E fun vv v H2 n2 gw gI S2 K2 V2 w2=>?_
  refine w2.go c ok mm n2 _ S2 v' vv (S1.vr K2 e2) V2 _ E fun vr r H3 n3 QS pA S3 K3 V3 q=>?_
  refine dF (q) ?_;clear q;intro uI Xm QI hs hz q
  refine oe (s:={ s with heap:=QS,toks:=pA }) ok S3 Xm QI hs V3 hz _ E fun n4 h4 AB S4 K4=>?_
  have K:=((K1.trans K2).trans K3).trans K4
  exact k .next .next m mm _ n4 h4 AB S4 (LR.keep S K lr) K rfl q
theorem FV{o i e:Expr}{op:Operator}{tp pos:Pos}{Q:Fl->bP->ah->Prop}
 (h:WE G D cs cl o m H fun a H1=>WE G D cs cl i m H1 fun j H2=>WI G D a j H2 fun old H3=>WE G D cs cl e m H3 fun v H4=>np G D op true old v H4 fun r H5=>gG G D a j r H5 fun H6=>Q .next m H6)
 (hi:autoParam (∀ov iv new,augStore i ov iv new=(do holding [new,ov,iv] (setItem ov iv new);release [new,ov,iv] [];pure .next)) aS):
 W1 G D cs cl (.AugAssign (.Subscript o i tp) op e pos) m H Q where
 go:=fun c h1 h2 ok mm ae s S lr Q' E k=>by
  refine wpAny_AugAssign_SubscriptAny (h.go c h1 h2 ok mm ae s S lr _ E fun va a H1 n1 cP Fk S1 K1 V1 w1=>?_) hi
  refine w1.go c h1 h2 ok mm n1 _ S1 (LR.keep S K1 lr) _ E fun vi j H2 n2 gw gI S2 K2 V2 w2=>?_
  refine(w2.go c ok mm n2 { s with heap:=gw,toks:=gI } S2 va vi (S1.vr K2 V1) V2 _ E fun vo old H3 n3 QS pA S3 K3 V3 w3=>?_).1
  refine w3.go c h1 h2 ok mm n3 _ S3 (LR.keep S ((K1.trans K2).trans K3) lr) _ E fun vv v H4 n4 Y1 AB S4 K4 V4 w4=>?_
  refine w4.go c ok mm n4 _ S4 vo vv (S3.vr K4 V3) V4 _ E fun vr r H5 n5 Y0 YE S5 K5 V5 w5=>?_
  refine w5.go c ok mm n5 _ S5 va vi vr (S1.vr (((K2.trans K3).trans K4).trans K5) V1) (S2.vr ((K3.trans K4).trans K5) V2) V5 _ E fun H6 n6 h6 U5 S6 K6 q=>?_
  have K:=((((K1.trans K2).trans K3).trans K4).trans K5).trans K6
  exact k .next .next m mm H6 n6 h6 U5 S6 (LR.keep S K lr) K rfl q
section
variable{prog:Program}{w:World}{K:Type}[DecidableEq K]{knd:HeapKind prog w K}{A:Around}{E:Value->Shared->Prop}{s:Shared}
theorem mB{key:Value}(hv:carriedByValue key=true){stored:List Value}{Q:Bool->Shared->Prop}
 (kn:∀v∈stored,∃k' b,v=.ref b/\knd.is s.heap k' b) (h:Q false s):wpAny (model prog w) A (tableMayTell key stored) Q E s:=by
 unfold tableMayTell
 split
 ·exact wpAny_pure h
 ·rw[eqIsQuiet_byValue 8 hv]
  refine wpAny_bind (wpAny_pure ?_)
  simp only[Bool.not_true,Bool.false_eq_true,if_false]
  refine wpAny_bind ?_
  refine wpAny_forIn_list _ (fun au r s'=>s'=s/\r=(none,())/\∀v∈au,∃k' b,v=.ref b/\knd.is s.heap k' b) _ ?_ ?_ _ _ ⟨rfl,rfl,kn⟩
  ·intro x;intro au;intro r;intro s';intro ak;refine ci (ak) fun cu nP hr=>?_;clear ak;(clear h kn;subst cu);subst nP
   refine bi (hr x List.mem_cons_self) fun k' b ak hb=>?_;subst ak
   refine wpAny_bind (knd.quiet hb ?_)
   simp only[Bool.not_true,Bool.false_eq_true,if_false]
   exact wpAny_pure ⟨rfl,rfl,fun v hv=>hr v (List.mem_cons_of_mem _ hv)⟩
  ·intro r;intro s';intro ak;refine ci (ak) fun cu nP _=>?_;clear ak;(clear kn;subst cu);subst nP
   exact wpAny_pure h
theorem cX{α:Type}{b:Prop}[Decidable b]{p q:Sem α}{Q:α->Shared->Prop}(h:¬b)(k:wpAny (model prog w) A q Q E s):wpAny (model prog w) A (if b then p else q) Q E s:=by rw[if_neg h];exact k
theorem vZ{α:Type}{b:Prop}[Decidable b]{p q:Sem α}{Q:α->Shared->Prop}(h:b)(k:wpAny (model prog w) A p Q E s):wpAny (model prog w) A (if b then p else q) Q E s:=by rw[if_pos h];exact k
theorem qn{α:Type}{b:Prop}[Decidable b]{p q:Sem α}{Q:α->Shared->Prop}(h1:b->wpAny (model prog w) A p Q E s)(h0:¬b->wpAny (model prog w) A q Q E s):wpAny (model prog w) A (if b then p else q) Q E s:=by
 by_cases h:b
 ·exact vZ h (h1 h)
 ·exact cX h (h0 h)
theorem o8{es:Array DictEntry}{xs:List (K×Addr×Value)}(he:es.toList=xs.map (entryOfKey knd)){i:Nat}{e:DictEntry}(h:es[i]?=some e):∃x∈xs,e=entryOfKey knd x:=by
 have:e∈xs.map (entryOfKey knd):=he▸Array.mem_toList_iff.mpr (Array.mem_of_getElem? h)
 exact Exists.elim (List.mem_map.mp this) fun x h=>⟨x,h.1,h.2.symm⟩
theorem nX{es:Array DictEntry}{xs:List (K×Addr×Value)}(he:es.toList=xs.map (entryOfKey knd))(rz:∀x∈xs,knd.is s.heap x.1 x.2.1)(l:List Nat):
 ∀v∈l.filterMap (fun i=>es[i]?.map (·.key)),∃k' b,v=.ref b/\knd.is s.heap k' b:=by
 intro v hv
 refine aA (List.mem_filterMap.mp hv) fun i _ hi=>?_
 refine aA (Option.map_eq_some_iff.mp hi) fun e h1 h2=>?_
 refine aA (o8 he h1) fun x hx h3=>?_
 exact⟨x.1,x.2.1,by rw[←h2,h3];rfl,rz x hx⟩
theorem mC{es:Array DictEntry}{l:List Nat}{key:Value}(kn:∀v∈l.filterMap (fun i=>es[i]?.map (·.key)),∃k' b,v=.ref b/\knd.is s.heap k' b)
 (hc:(key::l.filterMap (fun i=>es[i]?.map (·.key))).all carriedByValue=true):∀i∈l,es[i]?=none:=fun i hi=>by
 cases q:es[i]? with
 |none=>rfl
 |some e=>
  have hm:e.key∈l.filterMap (fun i=>es[i]?.map (·.key)):=List.mem_filterMap.mpr ⟨i,hi,by rw[q];rfl⟩
  have h1:=List.all_eq_true.mp hc e.key (List.mem_cons_of_mem _ hm)
  refine bi (kn _ hm) fun k' b e1 _=>?_
  rw[e1]at h1
  exact bI h1
theorem pQ{l:List Value}{key:Value}(hk:∀b,(Value.ref b==key)=false)(kn:∀v∈l,∃k' b,v=.ref b/\knd.is s.heap k' b):¬(l==[key])=true:=by
 cases l with
 |nil=>exact fun h=>bI h
 |cons v r=>
  refine bi (kn v (.head _)) fun _ b e _=>?_
  intro h
  have:=(Bool.and_eq_true_iff.mp (show(v==key&&r==[])=true from h)).1
  rw[e,hk]at this
  exact bI this
theorem wZ{d:Addr}{o:Obj}{es ep}{xs:List (K×Addr×Value)}{key:Value}{h:Int}{Q:Option Nat->Shared->Prop}(BB:(∃n t,key=.int n t)∨(∃n t,key=.str n t))(eG:xs≠[])
 (ho:s.heap.get? d=some o) (hd:o.data=.dict es ep) (he:es.toList=xs.map (entryOfKey knd)) (rz:∀x∈xs,knd.is s.heap x.1 x.2.1)
 (heq:∀x∈xs,∀ (Q:Bool->Shared->Prop) E,Q false s->wpAny (model prog w) A (eqBool (.ref x.2.1) key) Q E s) (hQ:Q none s):
 wpAny (model prog w) A (dictFind d key h) Q E s:=by
 have kn:=nX (s:=s) he rz (placesWithHash es.size (fun i=>es[i]?.map (·.hash)) h)
 have BJ:¬(es.all fun e=>isExactStrKey e.key)=true:=by
  rw[←Array.all_toList,he]
  clear hQ rz he hd ho BB;cases xs with
  |nil=>exact absurd rfl eG
  |cons x r=>exact jx
 have CU:∀b,(Value.ref b==key)=false:=fun b=>by(clear hQ rz he ho;rcases BB with⟨n,t,rfl⟩|⟨n,t,rfl⟩)<;>rfl
 have JZ:carriedByValue key=true:=by(clear hQ rz he ho;rcases BB with⟨n,t,rfl⟩|⟨n,t,rfl⟩)<;>rfl
 have Bs:=fun hc=>mC (key:=key) kn hc
 have EG:=pQ CU kn
 have hq:=fun (Q:Bool->Shared->Prop) (h:Q false s)=>mB (w:=w) (A:=A) (E:=E) JZ kn h
 clear kn CU JZ eG
 unfold dictFind
 try with_reducible refine wpAny_holding ?_
 refine wpAny_bind (wpAny_dictEntries ho hd ?_)
 (clear rz;rcases BB with⟨n,t,rfl⟩|⟨n,t,rfl⟩)<;>dsimp only<;>(try refine cX BJ ?_)<;>clear BJ
 all_goals
  refine qn (fun hc=>?_) (fun hc=>?_)
  ·replace Bs:=Bs hc
   clear EG heq hq hc
   unfold dictWalkPlain
   refine wpAny_bind ?_
   refine wpAny_forIn_list _ (fun au r s'=>s'=s/\r=(none,())/\∀i∈au,es[i]?=none) _ ?_ ?_ _ _ ⟨rfl,rfl,Bs⟩
   ·intro i;intro au;intro r;intro s';intro ak;refine ci (ak) fun cu nP hr=>?_;clear ak;(clear hQ he hd ho xs o;subst cu);subst nP
    rw[hr i (.head _)]
    exact wpAny_pure ⟨rfl,rfl,fun j hj=>hr j (.tail _ hj)⟩
   ·intro r;intro s';intro ak;refine ci (ak) fun cu nP _=>?_;clear ak;(clear he hd ho xs o d;subst cu);subst nP
    exact wpAny_pure hQ
  ·clear Bs hc
   refine cX EG ?_
   refine wpAny_bind (hq _ ?_)
   refine cX jx ?_
   refine wpAny_bind ?_
   refine wpAny_forIn_list _ (fun au b s'=>s'=s/\b=(none,none)) _ ?_ ?_ _ _ ⟨rfl,rfl⟩
   ·intro i;intro au;intro b;intro s';intro ak;refine bh (ak) fun cu nP=>?_;clear ak;(clear hq hQ;subst cu);subst nP
    cases JV:es[i]? with
    |none=>exact wpAny_pure ⟨rfl,rfl⟩
    |some e=>
     dsimp only
     refine qn (fun _=>?_) (fun _=>wpAny_pure ⟨rfl,rfl⟩)
     refine aA (o8 he JV) fun x hx ak=>?_;(clear JV;subst ak)
     refine wpAny_bind (wpAny_dictEpoch ho hd (wpAny_bind (heq x hx _ _ (wpAny_bind (wpAny_dictEpoch ho hd ?_)))))
     refine cX (by simp) (cX jx (wpAny_bind (wpAny_rule ?_)))
     exact cX jx (wpAny_pure ⟨rfl,rfl⟩)
   ·intro b;intro s';intro ak;refine bh (ak) fun cu nP=>?_;clear ak;(clear hq EG heq t n he hd ho o d;subst cu);subst nP
    exact wpAny_pure hQ
end
theorem iG(l):lx ae [] l↔l=[]:=Iff.rfl
theorem fz(k a r xs):lx ae ((k,a)::r) xs↔∃t v lH vs,xs=(k,t,v)::lH/\(t,aK vs)∈ae/\dw ae (k.map Atom.av) vs/\VR ae a v/\lx ae r lH:=Iff.rfl
theorem zw:∀ {k:List Atom} {vs:List Value},dw ae (k.map Atom.av) vs->ItemsAre (ti G.prog G.w) k vs:=by
 intro zz
 induction zz with
 |nil=>
  intro vs h
  rw[(bC ..).mp h];exact .nil
 |cons a k ih=>
  intro vs h
  refine aE ((aW ..).mp h) fun v r ak h1 h2=>?_;(clear h;subst ak)
  refine .cons ?_ (ih h2)
  clear h2 r ih k;cases a with
  |i n=>(refine aY (h1) fun t ak=>?_;clear h1;subst ak);show Value.isInt n (.int n t)=true;(exact if_pos rfl)
  |s x=>(refine aY (h1) fun t ak=>?_;clear h1;subst ak);show Value.isStrOf x (.str x t)=true;(exact if_pos rfl)
theorem oD(N:News h₀ L h ae){k:List Atom}{t:Addr}{vs:List Value}(hm:(t,aK vs)∈ae)(hv:dw ae (k.map Atom.av) vs):(tK G).is h k t:=⟨aK vs,vs.toArray,0,(N _ hm).1,rfl,rfl,by simpa using zw hv⟩
theorem lx.is(N:News h₀ L h ae):∀ {es:List (List Atom×AV)} {xs},lx ae es xs->∀x∈xs,(tK G).is h x.1 x.2.1:=by
 intro zz
 induction zz with
 |nil=>
  intro xs hr x hx
  rw[(iG _).mp hr]at hx;cases hx
 |cons qx r ih=>
  obtain⟨k,a⟩:=qx
  intro xs hr x hx
  refine e9 ((fz ..).mp hr) fun t v lH vs ak h1 h2 h3 h4=>?_;(clear h3 hr a;subst ak)
  rcases de hx with rfl|hx
  ·exact oD N h1 h2
  ·exact ih h4 x hx
theorem lx.has:∀ {es:List (List Atom×AV)} {xs},lx ae es xs->∀ {k a},es.lookup k=some a->∃p,atKey xs k=some p/\VR ae a p.2:=by
 intro zz
 induction zz with
 |nil=>
  intro xs hr k a e
  exact ax e
 |cons qx r ih=>
  obtain⟨q,b⟩:=qx
  intro xs hr k a e
  refine e9 ((fz ..).mp hr) fun t v lH vs ak h1 h2 h3 h4=>?_;(clear h2 h1 vs hr;subst ak)
  rw[List.lookup_cons]at e
  by_cases z:k=q
  ·subst z
   simp only[beq_self_eq_true]at e
   cases e
   exact⟨(t,v),by simp[atKey],h3⟩
  ·have z1:(k==q)=false:=by simpa using z
   simp only[z1]at e
   refine aA (ih h4 e) fun p e1 e2=>?_
   refine⟨p,?_,e2⟩
   unfold atKey at e1⊢
   rw[List.find?_cons_of_neg (by simpa using fun y=>z y.symm)]
   exact e1
theorem lx.miss:∀ {es:List (List Atom×AV)} {xs},lx ae es xs->∀ {k},es.lookup k=none->atKey xs k=none:=by
 intro zz
 induction zz with
 |nil=>
  intro xs hr k e
  rw[(iG _).mp hr];rfl
 |cons qx r ih=>
  obtain⟨q,b⟩:=qx
  intro xs hr k e
  refine e9 ((fz ..).mp hr) fun t v lH vs ak h1 h2 h3 h4=>?_;(clear h2 h1 vs hr;subst ak)
  rw[List.lookup_cons]at e
  by_cases z:k=q
  ·(clear h4 h3 ih;subst z);simp only[beq_self_eq_true]at e;(exact bg e)
  ·have z1:(k==q)=false:=by simpa using z
   simp only[z1]at e
   have:=ih h4 e
   unfold atKey at this⊢
   rw[List.find?_cons_of_neg (by simpa using fun y=>z y.symm)]
   exact this
theorem lx.length:∀ {es:List (List Atom×AV)} {xs},lx ae es xs->xs.length=es.length:=by
 intro zz
 induction zz with
 |nil=>
  intro xs hr
  rw[(iG _).mp hr];rfl
 |cons qx r ih=>
  obtain⟨q,b⟩:=qx
  intro xs hr
  (refine e9 ((fz ..).mp hr) fun t v lH vs ak h1 h2 h3 h4=>?_;(clear hr;subst ak));simp[ih h4]
theorem lx.dictOf(S:St G h₀ L mm H ae h){l:Addr}{es:List (List Atom×AV)}(hl:H l=some (.bX es)):∃ob xs,(l,ob)∈ae/\h.DictOfH (tK G) l xs/\lx ae es xs:=by
 refine aN (S.get hl) fun ob hm ak hg=>?_;refine jy (ak) fun he CX ep xs h1 h2 h3 h4=>?_;clear ak
 exact⟨ob,xs,hm,⟨ob,CX,ep,hg,he,h1,h2,h4.is S.nw,h3⟩,h4⟩
theorem lx.put{k:List Atom}{a:AV}{t:Addr}{v:Value}{vs:List Value}(hm:(t,aK vs)∈ae)(hk:dw ae (k.map Atom.av) vs)(hv:VR ae a v):∀ {es:List (List Atom×AV)} {xs},lx ae es xs->(xs.map (·.1)).Nodup->lx ae (bZ k a es) (storedH xs k t v):=by
 intro zz
 induction zz with
 |nil=>
  intro xs hr _
  rw[(iG _).mp hr]
  exact(fz ..).mpr ⟨t,v,[],vs,rfl,hm,hk,hv,(iG _).mpr rfl⟩
 |cons qx r ih=>
  clear hk hm vs;obtain⟨q,b⟩:=qx
  intro xs hr nd
  refine e9 ((fz ..).mp hr) fun u w lH us ak h1 h2 h3 h4=>?_;(clear hr;subst ak)
  rw[List.map_cons,List.nodup_cons]at nd
  rw[gJ]
  by_cases z:q=k
  ·clear ih;subst z
   rw[if_pos rfl,storedH_old (p:=(u,w)) (by simp[atKey]),List.map_cons,map_putAt_of_not_mem _ _ _ nd.1]
   exact(fz ..).mpr ⟨u,v,lH,us,by simp[putAt],h1,h2,hv,h4⟩
  ·rw[if_neg z]
   have ih:=ih h4 nd.2
   have e:storedH ((q,u,w)::lH) k t v=(q,u,w)::storedH lH k t v:=by
    have e1:atKey ((q,u,w)::lH) k=atKey lH k:=by
     unfold atKey
     rw[List.find?_cons_of_neg (by simpa using z)]
    unfold storedH
    rw[e1]
    split
    ·rw[List.map_cons,putAt,if_neg z]
    ·rfl
   rw[e]
   exact(fz ..).mpr ⟨u,w,_,us,rfl,h1,h2,h3,ih⟩
theorem tC{pos:Pos}{Q:AQ}(h:∀l,H l=none->Q (.ref l) (H.put l (.bX []))):WE G D cs cl (.Dict [] [] pos) m H Q where
 go:=fun c h1 h2 ok mm ae s St lr Q' E k=>by
  refine newDict_K St.fr St.nw ok.top.nolimit fun d h' o F N lt lo hs _ _ _=>?_
  have JE:o.IsDictOf (strKind G.prog G.w) []:=hs
  refine oX (JE) fun es ep hc QH _ hp _=>?_;clear JE
  have he:es.toList=[]:=List.length_eq_zero_iff.mp hp.length
  refine bh (St.eJ (o:=.bX []) F N (gu lt) ⟨hc,es,ep,[],QH,he,List.nodup_nil,(iG _).mpr rfl⟩ (fun _=>lo)) fun S2 K2=>?_
  exact k (.ref d) (.ref d) _ _ _ _ S2 K2 rfl (h d (St.off (gu lt)))
theorem xS{l:Addr}{es:List (List Atom×AV)}{k:List Atom}{d:AV}{Q:AQ}(hl:H l=some (.bX es))(h:Q ((es.lookup k).getD d) H):WB G (D+1) (.builtin "dict.get") [.ref l,.tup (k.map Atom.av),d] H Q where
 go:=fun c ok mm ae s S vals hv Q' E kk=>by
  refine cQ (vn hv) fun v w x ak h1 h2 h3=>?_;(clear hv;subst ak)
  have:v=.ref l:=h1
  clear h1;subst this
  refine aE ((ee ..).mp h2) fun t vs ak hm eF=>?_;(clear h2;subst ak)
  refine aE (lx.dictOf S hl) fun ob xs Bt hD hT=>?_
  refine call_meetsIn PySem.F.slot_dict_get hD.typeIs PySem.F.entry_dict_get (PySem.F.args_dict_get_3 _ _ _) (meetsH_dict_get_default (tK G) l t (S.lo l _ hl rfl) x) ⟨tupleKind_room_in1 (by have:=ok.units;exact B9 this),k,xs,oD S.nw hm eF,hD,?_⟩
  cases e:es.lookup k with
  |some a=>
   refine aA (hT.has e) fun p e1 e2=>?_
   rw[e]at h
   rw[e1]
   exact kk _ a H ae s.heap _ S aO.rfl e2 h
  |none=>
   rw[e]at h
   rw[hT.miss e]
   exact kk _ d H ae s.heap _ S aO.rfl h3 h
theorem gG.bX{l:Addr}{es:List (List Atom×AV)}{k:List Atom}{a:AV}{Q:ah->Prop}(hl:H l=some (.bX es))(hz:es.length<=16000000)(h:Q (H.put l (.bX (bZ k a es)))):gG G (D+1) (.ref l) (.tup (k.map Atom.av)) a H Q where
 go:=fun c ok mm ae s S va vi vv ha hi hv Q' E kk=>by
  have:va=.ref l:=ha
  clear ha;subst this
  refine aE ((ee ..).mp hi) fun t vs ak hm eF=>?_;(clear hi;subst ak)
  refine aE (lx.dictOf S hl) fun ob xs Bt hD hT=>?_
  refine wpAny_setItem_heap (knd:=tK G) (xs:=xs) (tupleKind_room_in1 (by have:=ok.units;exact B9 this)) (oD S.nw hm eF) hD (fun h' Uf hs=>?_) (by rw[hT.length,sizeLine_eq];(exact d6 ‹_› (cm rfl)))
  refine iz (Uf) fun o' Ya Yc XA XS xw EL _ XD=>?_;clear Uf
  refine dF (fO o' S.nd Bt) fun n' U hk u1 u2 _=>?_
  refine iz (hD) fun o0 QZ Y5 YX J2 TZ YY _ XC=>?_;clear hD
  have z:=S.nw _ Bt
  have N:News c.h₀ c.L h' n':=by
   have:=S.nw.replace hs XA
   refine el (U.split) fun pre post e1 e2 a1 b1=>?_
   clear u2 u1 hk U hT Bt eF hm vs kk Q' hv S mm h hz hl Q a es;subst e1 e2
   intro p hp
   refine this p ?_
   rcases List.mem_append.mp hp with hp|hp
   ·exact List.mem_map.mpr ⟨p,List.mem_append_left _ hp,by rw[if_neg (a1 p hp)]⟩
   ·rcases de hp with rfl|hp
    ·exact List.mem_map.mpr ⟨(l,ob),List.mem_append_right _ (.head _),by exact if_pos rfl⟩
    ·exact List.mem_map.mpr ⟨p,List.mem_append_right _ (.tail _ hp),by rw[if_neg (b1 p hp)]⟩
  refine ci (S.upd (o':=.bX (bZ k a es)) hl Bt (S.fr.change hs z.2.1 z.2.2) N hk u1 u2 ⟨XS,Ya,Yc,storedH xs k t vv,xw,EL,XD,hT.put hm eF hv XC⟩) fun S' K' sub=>?_
  exact kk _ n' h' _ S' K' h
theorem rg{prog:Program}{w:World}{A:Around}{E:Value->Shared->Prop}{s:Shared}{K:Type}[DecidableEq K]{knd:HeapKind prog w K}{d:Addr}{xs:List (K×Addr×Value)}{key:Value}{Q:Option Value->Shared->Prop}(BB:(∃n t,key=.int n t)∨(∃n t,key=.str n t))(eG:xs≠[])(hD:s.heap.DictOfH knd d xs)
 (heq:∀x∈xs,∀ (s':Shared),s'.heap=s.heap->∀ (Q:Bool->Shared->Prop) E,Q false s'->wpAny (model prog w) A (eqBool (.ref x.2.1) key) Q E s') (hQ:∀tk,Q none { s with toks:=tk }):wpAny (model prog w) A (dictGet d key) Q E s:=by
 refine iz (hD) fun o es ep ho _ hd he rz hn=>?_;clear hD
 unfold dictGet
 try with_reducible refine wpAny_holding ?_
 have hf:∀h,wpAny (model prog w) A (dictFind d key h >>= fun __do_lift=>match __do_lift with
  |some i=>do
   let __do_lift←dictEntries d (keyPart key)
   pure (Option.map (fun x=>x.val) __do_lift[i]?)
  |none=>pure none) Q E { s with toks:=s.toks+1 }:=fun h=>by
  refine wpAny_bind (wZ (s:={ s with toks:=s.toks+1 }) BB eG ho hd he rz (fun x hx Q E q=>heq x hx { s with toks:=s.toks+1 } rfl Q E q) ?_)
  exact wpAny_pure (hQ _)
 clear hn rz he heq eG xs;rcases BB with⟨n,t,rfl⟩|⟨n,t,rfl⟩
 ·exact wpAny_bind (wpAny_pyHash_int (hf _))
 ·exact wpAny_bind (wpAny_pyHash_str (hf _))
noncomputable def Atom.dat:Atom->PyData
 |.i n=>.int n
 |.s x=>.str x
theorem mF{h₀ h:Heap}{L:Addr}{mm:Str->Option Value}{ae:dy}(S:St G h₀ L mm H ae h):∀ {k:List Atom} {vs:List Value},dw ae (k.map Atom.av) vs->∃rs,ReadsAll h vs (k.map Atom.dat) rs:=by
 intro zz
 induction zz with
 |nil=>
  intro vs hv
  rw[(bC ..).mp hv];exact⟨_,.nil⟩
 |cons a k ih=>
  intro vs hv
  refine aE ((aW ..).mp hv) fun v r ak h1 h2=>?_;(clear hv;subst ak)
  refine aY (ih h2) fun rs hr=>?_
  cases a with
  |i n=>(refine aY (h1) fun t ak=>?_;clear h1;(clear h2 ih S ae;subst ak));exact⟨_,.cons (.int n t) hr⟩
  |s x=>(refine aY (h1) fun t ak=>?_;clear h1;(clear h2 ih S ae;subst ak));exact⟨_,.cons (.str x t) hr⟩
theorem o5{h₀:Heap}{L:Addr}{mm:Str->Option Value}{ae:dy}{A:Around}{s:Shared}(S:St G h₀ L mm H ae s.heap){t:Addr}{vs:List Value}{k:List Atom}(hm:(t,aK vs)∈ae)(hv:dw ae (k.map Atom.av) vs)(hs:SeqAt.shaped (.tuple (k.map Atom.dat))=true){key:Value}{dk:PyData}(hr:Reads s.heap key dk [])(TM:SeqAt.shaped dk=true)(hb:(Value.ref t==key)=false)
 (TX:PyData.eqv (.tuple (k.map Atom.dat)) dk=false) (BB:(∃n t,key=.int n t)∨(∃n t,key=.str n t)) (hu:A.units+64<cLine) {Q:Bool->Shared->Prop} {E:Value->Shared->Prop} (q:Q false s):wpAny (model G.prog G.w) A (eqBool (.ref t) key) Q E s:=by
 refine aY (mF S hv) fun rs Qq=>?_
 have ra:Reads s.heap (.ref t) (.tuple (k.map Atom.dat)) rs:=.tuple (vs:=vs.toArray) (n:=0) (S.nw _ hm).1 rfl rfl (by simpa using Qq)
 unfold eqBool
 try with_reducible refine wpAny_holding ?_
 rw[if_neg (by rw[hb];exact jx)]
 have main:wpAny (model G.prog G.w) A (richCompare .Eq (.ref t) key >>= fun r=>truthOfDropped r) Q E s:=by
  refine wpAny_bind ?_
  have:=eq_dataH (prog:=G.prog) (w:=G.w) (A:=A) (E:=E) (s:=s) (Q:=fun v s'=>wpAny (model G.prog G.w) A (truthOfDropped v) Q E s') ra hr hs TM hu (by rw[TX];exact wpAny_truthy_bool q)
  exact this
 clear TX hb TM hr dk;rcases BB with⟨n,u,rfl⟩|⟨n,u,rfl⟩
 ·exact main
 ·exact main
theorem lx.keys{ae:dy}:∀ {es:List (List Atom×AV)} {xs},lx ae es xs->∀x∈xs,∃p∈es,∃vs,p.1=x.1/\(x.2.1,aK vs)∈ae/\dw ae (p.1.map Atom.av) vs:=by
 intro zz
 induction zz with
 |nil=>
  intro xs hr x hx
  rw[(iG _).mp hr]at hx;cases hx
 |cons qx r ih=>
  obtain⟨k,a⟩:=qx
  intro xs hr x hx
  refine e9 ((fz ..).mp hr) fun t v lH vs ak h1 h2 h3 h4=>?_;(clear hr;subst ak)
  rcases de hx with rfl|hx
  ·exact⟨(k,a),.head _,vs,rfl,h1,h2⟩
  ·refine aA (ih h4 x hx) fun p hp q=>?_
   exact⟨p,.tail _ hp,q⟩
def tv(C:Addr)(x:Str)(a:AV)(H:ah)(ae:dy)(h:Heap):Prop:=H C=none/\∃oC nm v,(C,oC)∈ae/\h.Ns C nm/\nm x=some v/\VR ae a v
structure CE(G:Gl)(D:Nat)(fs:Scope)(g6:List (Str×Addr))(sc:Scope)(bcl:List (Str×Addr))(x:Str)(a:AV)(e:Expr)(H:ah)(Q:AV->ah->Prop):Prop where
 go:∀c:Cx,c.cs=fs->c.cl=g6->c.Ok G D->∀mm ae s C,St G c.h₀ c.L mm H ae s.heap->tv C x a H ae s.heap->∀ (Q':Value->Shared->Prop) E,
  (∀v r H' am h' tk,St G c.h₀ c.L mm H' am h'->aO H H' ae am->VR am r v->Q r H'->Q' v { s with heap:=h',toks:=tk })->
  wpAny (model G.prog G.w) c.A (eval e (compEnvC sc bcl C c.env)) Q' E s
theorem CE.mono{G:Gl}{D:Nat}{fs:Scope}{g6:List (Str×Addr)}{sc:Scope}{bcl:List (Str×Addr)}{x:Str}{a:AV}{e:Expr}{H:ah}{Q Q':AV->ah->Prop}(h:CE G D fs g6 sc bcl x a e H Q)(k:∀a H,Q a H->Q' a H):CE G D fs g6 sc bcl x a e H Q':=
 ⟨fun c h1 h2 ok mm ae s C S b rq E c'=>h.go c h1 h2 ok mm ae s C S b rq E fun v a H' am h' tk a1 a2 a3 a4=>c' v a H' am h' tk a1 a2 a3 (k _ _ a4)⟩
@[reducible] noncomputable def fB(G:Gl)(D:Nat)(fs:Scope)(g6:List (Str×Addr))(sc:Scope)(bcl:List (Str×Addr))(x:Str)(elt:Expr)(kp:Option (Addr×AO))(Q:List AV->ah->Prop):List AV->List AV->ah->Prop
 |[],acc,H=>cA kp H/\Q acc H
 |a::as,acc,H=>cA kp H/\CE G D fs g6 sc bcl x a elt H fun r H'=>fB G D fs g6 sc bcl x elt kp Q as (acc++[r]) H'
theorem tv.keep{G:Gl}{h₀ h h':Heap}{L C:Addr}{mm:Str->Option Value}{x:Str}{a:AV}{H H':ah}{ae am:dy}(S:St G h₀ L mm H ae h)(S':St G h₀ L mm H' am h')(K:aO H H' ae am)(b:tv C x a H ae h):tv C x a H' am h':=by
 refine jy (b) fun b1 oC nm v b2 b3 b4 b5=>?_;clear b
 refine bh (K _ b2 b1) fun k1 k2=>?_
 refine⟨k2,oC,nm,v,k1,?_,b4,S.vr K b5⟩
 refine ux (b3) fun o es ep e1 e2=>?_;clear b3
 have:=(S.nw _ b2).1
 have:o=oC:=Option.some.inj (e1.symm.trans this)
 clear k2 b5 b2 K S ae;subst this
 exact⟨o,es,ep,(S'.nw _ k1).1,e2⟩
variable{fs:Scope}{g6:List (Str×Addr)}{sc:Scope}{bcl:List (Str×Addr)}{x:Str}{elt:Expr}
structure CompI(G:Gl)(D:Nat)(fs:Scope)(g6:List (Str×Addr))(sc:Scope)(bcl:List (Str×Addr))(x:Str)(elt:Expr)(kp:Option (Addr×AO))(Q:List AV->ah->Prop)(c:Cx)(I Da C:Addr)(fp:List Addr)(SI:Nat->Heap->Prop)(items:List AV)(news₀:dy)(H:ah)(mm:Str->Option Value)(s:Shared)(j:Nat)(s':Shared):Prop where
 go:∃i acc mw nD H' n' h' tk oI oC nm,i+j=items.length/\s'={ s with heap:=h',toks:=tk }/\St G c.h₀ c.L mm H' n' h'/\(I,oI)∈n'/\H' I=none/\SI i h'/\(Da,listOf (List.toArray mw) nD)∈n'/\H' Da=none/\dw n' acc mw/\mw.length=i/\(C,oC)∈n'/\H' C=none/\h'.Ns C nm/\
  (∀p∈news₀,p.1≠I->H p.1=none->p∈n'/\H' p.1=none)/\(∀a vs,(a,aK vs)∈news₀->(a,aK vs)∈n')/\(∀b∈fp,b=I∨∃ob,(b,ob)∈n'/\b≠I/\((H' b=none)∨∃o,kp=some (b,.ro o ob)))/\
  fB G D fs g6 sc bcl x elt kp Q (items.drop i) acc H'
theorem fB.kp{kp:Option (Addr×AO)}{Q:List AV->ah->Prop}{as acc:List AV}{H:ah}(w:fB G D fs g6 sc bcl x elt kp Q as acc H):cA kp H:=by cases as<;>exact w.1
theorem md{h:Heap}{C:Addr}{nm:Str->Option Value}{o:Obj}(n:h.Ns C nm)(e:h.get? C=some o):∀vs,o≠aK vs:=by
 intro vs z
 refine qY (n) fun o' es ep e1 e2 _=>?_;clear n
 rw[e]at e1
 cases e1
 clear e C h;subst z
 cases e2
theorem St.Ct{h₀ L mm ae h h'}(S:St G h₀ L mm H ae h){I:Addr}{o o':Obj}(hm:(I,o)∈ae)(hH:H I=none)(hc:∀vs,o≠aK vs)(ho:h'.get? I=some o')(k:∀b o,b≠I->h.get? b=some o->h'.get? b=some o):
 ∃am,St G h₀ L mm H am h'/\(I,o')∈am/\(∀p∈ae,p.1≠I->p∈am)/\(∀a vs,(a,aK vs)∈ae->(a,aK vs)∈am):=by
 refine dF (fO o' S.nd hm) fun am U hk u1 u2 u3=>?_
 have z:=S.nw _ hm
 have sub:∀a vs,(a,aK vs)∈ae->(a,aK vs)∈am:=fun a vs q=>u1 _ q fun e=>by
  dsimp only at e
  clear z u3 u2 u1 hk U am k ho hH o' h';subst e
  exact hc _ (dK S.nd hm q)
 refine⟨am,⟨Fr.kept S.fr k (Ne.symm z.2.1) z.2.2,fun p hp=>?_,hk▸S.nd,fun a x e=>?_,S.lo⟩,u2,u1,sub⟩
 ·by_cases q:p.1=I
  ·have:p=(I,o'):=by
    clear z u3 u1 U k ho hc hH hm o h';obtain⟨a,b⟩:=p
    dsimp only at q
    subst q
    rw[dK (hk▸S.nd) hp u2]
   clear q hp sub u3 u2 u1 hk U am;subst this
   exact⟨ho,z.2⟩
  ·have y:=S.nw p (u3 p hp q)
   exact⟨k _ _ q y.1,y.2⟩
 ·refine aA (S.hr a x e) fun ob h1 h2=>?_
  have:a≠I:=fun q=>by rw[q,hH]at e;(exact ax e)
  exact⟨ob,u1 _ h1 this,h2.sub sub⟩
theorem St.vG{h₀ L mm ae h h'}(S:St G h₀ L mm H ae h){I:Addr}{o:Obj}(hm:(I,o)∈ae)(hH:H I=none)(hc:∀vs,o≠aK vs)(k:∀b o,b≠I->h.get? b=some o->h'.get? b=some o):
 ∃am,St G h₀ L mm H am h'/\(∀p∈ae,p.1≠I->p∈am)/\(∀a vs,(a,aK vs)∈ae->(a,aK vs)∈am):=by
 have z:=S.nw _ hm
 have mem:∀p∈ae,p.1≠I->p∈ae.filter fun p=>!decide (p.1=I):=fun p hp q=>List.mem_filter.mpr ⟨hp,by simpa using q⟩
 have sub:∀a vs,(a,aK vs)∈ae->(a,aK vs)∈ae.filter fun p=>!decide (p.1=I):=fun a vs q=>mem _ q fun e=>by
  dsimp only at e
  clear mem z k hH h';subst e
  exact hc _ (dK S.nd hm q)
 refine⟨ae.filter fun p=>!decide (p.1=I),⟨Fr.kept S.fr k (Ne.symm z.2.1) z.2.2,fun p hp=>?_,?_,fun a x e=>?_,S.lo⟩,mem,sub⟩
 ·refine bh (List.mem_filter.mp hp) fun hp q=>?_
  have q:p.1≠I:=by simpa using q
  have y:=S.nw p hp
  exact⟨k _ _ q y.1,y.2⟩
 ·exact List.Nodup.sublist (List.filter_sublist.map _) S.nd
 ·refine aA (S.hr a x e) fun ob h1 h2=>?_
  have:a≠I:=fun q=>by rw[q,hH]at e;(exact ax e)
  exact⟨ob,mem _ h1 this,h2.sub sub⟩
theorem uA{prog:Program}{w:World}{A:Around}{R:Result->Shared->Prop}{elt iter target:Expr}{scope:Scope}{pos:Pos}{it acc:Value}{env:Env}(J:Nat->Shared->Prop)(ht:∀v,letOwnedTupleGo target it v=pure ())
 (turn:∀ (P1:Option Value->Shared->Prop) (P2:Shared->Prop) (P3:Value->Shared->Prop) (P4:Shared->Prop) (E:Value->Shared->Prop) (n:Nat),(∀s,R (.ok .next) s->P1 none s)->(∀v s,wpAny (model prog w) A (assign target env v) (fun _=>P2) E s->P1 (some v) s)->
  (∀s,wpAny (model prog w) A (eval elt env) P3 E s->P2 s)->(∀v s,wpAny (model prog w) A (call (.builtin "list.append") [acc,v]) (fun _=>P4) E s->P3 v s)->(∀m s,m<n->J m s->P4 s)->∀s,J n s->wpAny (model prog w) A (pyNext it) P1 E s)
 (n:Nat) {s:Shared} (h:J n s):codeAny (model prog w) A (.compLoop (.ListComp elt [⟨target,iter,[],0⟩] scope pos) 0 it acc env) R s:=
 codeAny_compLoop_list J (fun n s hI=>turn _ _ _ _ _ n (fun _ h=>h) (fun _ _ h=>h) (fun _ h=>h) (fun _ _ h=>h) (fun m s a b=>⟨m,a,b⟩) s hI) n h ht
theorem sX{px:Pos}{iter:Expr}{pos:Pos}{kp:Option (Addr×AO)}{Q:List AV->ah->Prop}{c:Cx}(h1:c.cs=fs)(h2:c.cl=g6)(ok:c.Ok G D){I Da C:Addr}{fp:List Addr}{n:Nat}{P:Nat->Value->Prop}{SI:Nat->Heap->Prop}
 (W:Walks G.prog G.w c.A I fp [I] n P SI) (sG:∀i h,SI i h->∃o,h.get? I=some o/\(o.cls==.type "tuple")=false) (hx:sc.names.lookup x=some .local) (fj:sc.kind=.function) {items:List AV} (hn:items.length=n) (hz:n<=1000000)
 (Kq:I≠C) (Q1:I≠Da) (Ut:Da≠C) (fC:C∉fp) (fD:Da∉fp)
 {mm news₀ s} (ww:∀p∈news₀,p.1≠C/\p.1≠Da) (hP:∀i v a,P i v->items[i]?=some a->VR news₀ a v) {R:Result->Shared->Prop}
 (k:∀acc mw nD H' am h' tk oC nm,St G c.h₀ c.L mm H' am h'->(Da,listOf (List.toArray mw) nD)∈am->H' Da=none->dw am acc mw->(C,oC)∈am->H' C=none->h'.Ns C nm->(∀p∈news₀,p.1≠I->H p.1=none->p∈am/\H' p.1=none)->(∀a vs,(a,aK vs)∈news₀->(a,aK vs)∈am)->cA kp H'->Q acc H'->R (.ok .next) { s with heap:=h',toks:=tk }):
 ∀j s',CompI G D fs g6 sc bcl x elt kp Q c I Da C fp SI items news₀ H mm s j s'->codeAny (model G.prog G.w) c.A (.compLoop (.ListComp elt [⟨.Name x px,iter,[],0⟩] sc pos) 0 (.ref I) (.ref Da) (compEnvC sc bcl C c.env)) R s':=by
 intro j s' J
 refine uA (CompI G D fs g6 sc bcl x elt kp Q c I Da C fp SI items news₀ H mm s) (fun _=>rfl) (fun P1 P2 P3 P4 E j t1 t2 t3 t4 t5 s' J=>?_) j J
 refine pF (J.go) fun i acc mw nD H1 n1 cP Fk oI oC nm GW=>?_;refine j0 (GW) fun EJ e0 S1 I1 Fh si D1 UD V1 hlen C1 Ov Tc kk tt fk w1=>?_;clear GW
 rw[e0]
 clear e0 J
 refine aA (sG _ _ si) fun oc JG BG=>?_
 replace BG:(oI.cls==.type "tuple")=false:=(show oI=oc from Option.some.inj ((S1.nw _ I1).1.symm.trans JG))▸BG
 clear JG
 by_cases iP:i<n
 ·refine W.item i _ _ _ iP si fun v gw gI pv Hv qP=>t2 _ _ ?_
  clear t1 t2 k
  replace qP:∀b o,b≠I->cP.get? b=some o->gw.get? b=some o:=fun b o hb e=>qP b o (fun z=>hb (fG z)) e
  refine aA (sG _ _ Hv) fun o2 kr QK=>?_
  refine iA (S1.turn I1 Fh BG kr qP) fun n2 S2 I2 u1 lO=>?_
  have Tb:gw.Ns C nm:=Tc.at' fun o e=>qP C o Kq.symm e
  have C2:=u1 _ C1 Kq.symm
  refine wpAny_assign_Name (wpAny_storeName_local (lookup_relabel_local hx) Tb (fun h3 tw U7=>t3 _ ?_) (by simp[compEnvC,relabel,fj]))
  clear t3
  refine qY (id tw) fun Pg X9 Yb Yd Ye U9=>?_
  refine iA (S2.Ct C2 Ov (md Tb (S2.nw _ C2).1) Yd (fun b o hb e=>U7.extBut b o hb e)) fun n3 S3 C3 u3 rK=>?_
  have hi:i<items.length:=hn.symm▸iP
  have w1:cA kp H1/\CE G D fs g6 sc bcl x items[i] elt H1 fun r H'=>fB G D fs g6 sc bcl x elt kp Q (items.drop (i+1)) (acc++[r]) H':=by
   rw[List.drop_eq_getElem_cons hi]at w1
   exact w1
  refine w1.2.go c h1 h2 ok mm n3 { s with heap:=h3,toks:=gI+1 } C S3 ⟨Ov,Pg,_,v,C3,tw,if_pos rfl,((hP i v _ pv (List.getElem?_eq_getElem hi)).sub fun b vs q=>lO _ _ (tt _ _ q)).sub rK⟩ _ _ fun v4 r H4 n4 h4 AB S4 K4 V4 w4=>t4 _ _ ?_
  clear t4
  have I4:=K4 _ (u3 _ I2 Kq) Fh
  have D4:=K4 _ (u3 _ (u1 _ D1 Q1.symm) Ut) UD
  have C4:=K4 _ C3 Ov
  refine dF (fO (listOf ((List.toArray mw).push v4) (nD+1)) S4.nd D4.1) fun n5 U XJ u5 U4 _=>?_
  refine append_K S4.fr S4.nw U (fun h5 F5 N5=>?_) (by rw[List.size_toArray,hlen,sizeLine_eq];exact Rz hz iP)
  have A3:∀a vs,(a,aK vs)∈n4->(a,aK vs)∈n5:=fun a vs q=>u5 _ q fun z=>(gj (ob:=listOf (List.toArray mw) nD) rfl) vs (dK S4.nd D4.1 ((show a=Da from z)▸q))
  have S5:St G c.h₀ c.L mm H4 n5 h5:=⟨F5,N5,XJ▸S4.nd,fun a o e=>Exists.elim (S4.hr a o e) fun ob q=>⟨ob,u5 _ q.1 (fun z=>nomatch (((show a=Da from z)▸e).symm.trans D4.2)),q.2.sub A3⟩,S4.lo⟩
  have C5:=u5 _ C4.1 Ut.symm
  have I5:=u5 _ I4.1 Q1
  have sub:∀a vs,(a,aK vs)∈n1->(a,aK vs)∈n5:=fun a vs q=>A3 _ _ ((S3.sub K4) _ _ (rK _ _ (lO _ _ q)))
  have mv:∀p∈n1,p.1≠I->p.1≠C->p.1≠Da->H1 p.1=none->p∈n5/\H4 p.1=none:=fun p m nI nC nD e=>have z:=K4 p (u3 p (u1 p m nI) nC) e;⟨u5 p z.1 nD,z.2⟩
  have pin:∀b∈fp,b=I∨∃ob,(b,ob)∈n1/\(b,ob)∈n5/\b≠I/\((H4 b=none)∨∃o,kp=some (b,.ro o ob)):=fun b hb=>by
   rcases fk b hb with e|⟨ob,m1,ne,e⟩
   ·exact .inl e
   ·refine .inr ⟨ob,m1,?_⟩
    rcases e with e|⟨o,e⟩
    ·have z:=mv _ m1 ne (fun z=>fC (z▸hb)) (fun z=>fD (z▸hb)) e
     exact⟨z.1,ne,.inl z.2⟩
    ·have Ob:=fB.kp w4
     rw[e]at Ob
     refine aA (S4.hr b _ Ob) fun kj b1 b2=>?_
     exact⟨u5 _ (b2.1▸b1) (fun z=>fD (z▸hb)),ne,.inr ⟨o,e⟩⟩
  refine t5 (j-1) _ (by exact UB EJ hi) ⟨i+1,acc++[r],mw++[v4],nD+1,H4,n5,h5,AB,o2,Pg,_,by exact UA EJ hi,rfl,S5,I5,I4.2,?_,by simpa using U4,D4.2,dw.push ((((V1.sub lO).sub rK).sub (S3.sub K4)).sub A3) (V4.sub A3),by rw[List.length_append,hlen];rfl,C5,C4.2,⟨Pg,X9,Yb,(S5.nw _ C5).1,Ye,U9⟩,fun p hp vz e=>have q:=kk p hp vz e;mv p q.1 vz (ww p hp).1 (ww p hp).2 q.2,fun a vs q=>sub _ _ (tt _ _ q),fun b hb=>(pin b hb).imp id fun ⟨ob,_,a,b,c⟩=>⟨ob,a,b,c⟩,w4⟩
  refine W.frame (i+1) gw h5 Hv fun b hb o e=>?_
  rcases pin b hb with z|⟨ob,m1,m5,ne,_⟩
  ·have e:gw.get? I=some o:=z▸e
   rw[z,Option.some.inj (e.symm.trans kr)]
   exact(S5.nw _ I5).1
  ·rw[Option.some.inj (e.symm.trans (S2.nw _ (u1 _ m1 ne)).1)]
   exact(S5.nw _ m5).1
 ·have hi:items.drop i=[]:=List.drop_eq_nil_of_le (by exact Nx hn iP)
  rw[hi]at w1
  refine W.done _ _ _ (Nat.le_antisymm (by exact Np hn EJ) (Nat.le_of_not_lt iP)▸si) fun gw gI qP=>t1 _ ?_
  replace qP:∀b o,b≠I->cP.get? b=some o->gw.get? b=some o:=fun b o hb e=>qP b o (fun z=>hb (fG z)) e
  refine aN (S1.forget I1 Fh BG qP) fun n2 S2 u1 lO=>?_
  exact k acc mw nD H1 n2 gw gI oC nm S2 (u1 _ D1 Q1.symm) UD (V1.sub lO) (u1 _ C1 Kq.symm) Ov (Tc.at' fun o e=>qP C o Kq.symm e) (fun p hp vz e=>have z:=kk p hp vz e;⟨u1 p z.1 vz,z.2⟩) (fun a vs q=>lO _ _ (tt _ _ q)) w1.1 w1.2
theorem jz{px:Pos}{iter:Expr}{pos:Pos}{kp:Option (Addr×AO)}{Q:List AV->ah->Prop}{c:Cx}(h1:c.cs=fs)(h2:c.cl=g6)(ok:c.Ok G D){I:Addr}{fp:List Addr}{n:Nat}{P:Nat->Value->Prop}{SI:Nat->Heap->Prop}
 (W:Walks G.prog G.w c.A I fp [I] n P SI) (sG:∀i h,SI i h->∃o,h.get? I=some o/\(o.cls==.type "tuple")=false) (hx:sc.names.lookup x=some .local) (fj:sc.kind=.function) (cU:∀y∈sc.names,y.2≠.cell) {items:List AV} (hn:items.length=n) (hz:n<=1000000)
 {mm ae s} (S:St G c.h₀ c.L mm H ae s.heap) {oI:Obj} (hI:(I,oI)∈ae) (EO:H I=none) (s0:SI 0 s.heap) (hP:∀i v a,P i v->items[i]?=some a->VR ae a v)
 (BE:∀b∈fp,b=I∨∃ob,(b,ob)∈ae/\b≠I/\((H b=none)∨∃o,kp=some (b,.ro o ob))) (w:fB G D fs g6 sc bcl x elt kp Q items [] H) (E:Value->Shared->Prop) (RR:Value->Addr->Result->Shared->Prop)
 (k:∀d C acc H' am h' tk oC nm,d≠C->St G c.h₀ c.L mm (H'.put d (.list acc)) am h'->H' d=none->(C,oC)∈am->(H'.put d (.list acc)) C=none->h'.Ns C nm->(∀p∈ae,p.1≠I->H p.1=none->p.1≠C/\p∈am/\(H'.put d (.list acc)) p.1=none)->cA kp H'->Q acc H'->RR (.ref d) C (.ok .next) { s with heap:=h',toks:=tk }):
 wpAny (model G.prog G.w) c.A (newList []) (fun acc nc=>wpAny (model G.prog G.w) c.A (newFunctionEnv sc c.env.globals bcl [] c.env.qual none .none (some c.env)) (fun zW Ec=>
  codeAny (model G.prog G.w) c.A (.compStart (.ListComp elt [⟨.Name x px,iter,[],0⟩] sc pos) 0 (.ref I) acc { zW with scope:=relabel sc c.env }) (RR acc zW.locals) Ec) E nc) E s:=by
 refine bh (S.push (d:=s.heap.objs.size) (ob:=listOf #[] 0) (S.fr.push _) (S.nw.push S.fr _) (aq S.nw)) fun S1 K1=>?_
 refine wpAny_newObj_type (wpAny_newFunctionEnv cU (by intro y hy;simp at hy) (fun gQ oO oN=>?_) fj)
 dsimp only at oO oN⊢
 have e0:s.heap.push { cls:=.type "list",dict:=none,data:=.seq ([]:List Value).toArray }=s.heap.push (listOf #[] 0):=rfl
 rw[e0]at oO oN⊢
 generalize XZ:s.heap.push (listOf #[] 0)=H2 at oO oN S1⊢
 have dI:I≠s.heap.objs.size:=aq S.nw _ hI
 have Op:I≠H2.objs.size:=aq S1.nw _ (.tail _ hI)
 have Oq:s.heap.objs.size≠H2.objs.size:=aq S1.nw _ (.head _)
 have HD:H s.heap.objs.size=none:=S.off (aq S.nw)
 have HC:H H2.objs.size=none:=S1.off (aq S1.nw)
 (refine bh (S1.push (d:=H2.objs.size) (ob:={ cls:=.type "dict",data:=.dict #[] }) (S1.fr.push _) (S1.nw.push S1.fr _) (aq S1.nw)) fun S2 K2=>?_)
 refine qY (id oO) fun oC Y3 Y4 eC dC rC=>?_
 (refine iA (S2.Ct (I:=H2.objs.size) (.head _) HC (by intro vs z;exact absurd (congrArg (fun o:Obj=>o.cls==Value.type "tuple") z) (by exact jx)) eC (fun b o hb e=>oN.extBut b o hb e)) ?_;intro n3 S3 C3 u3 rK)
 have I3:=u3 _ (.tail _ (.tail _ hI)) Op
 have D3:=u3 _ (.tail _ (.head _)) Oq
 have Cv:SI 0 gQ:=by
  refine W.frame 0 _ _ s0 fun b hb o e=>?_
  have:b≠H2.objs.size/\b≠s.heap.objs.size:=by
   clear D3 I3 rK u3 C3 S3 n3 k RR w hP s0 EO hI oI hz hn sG W SI P n Q;rcases BE b hb with rfl|⟨ob,m1,_⟩
   ·exact⟨Op,dI⟩
   ·exact⟨aq S1.nw _ (.tail _ m1),aq S.nw _ m1⟩
  exact oN.extBut b o this.1 (Heap.get?_push_of_some _ (XZ▸Heap.get?_push_of_some _ e))
 have sub:∀a vs,(a,aK vs)∈ae->(a,aK vs)∈n3:=fun a vs q=>rK _ _ (.tail _ (.tail _ q))
 have loop:codeAny (model G.prog G.w) c.A (.compLoop (.ListComp elt [⟨.Name x px,iter,[],0⟩] sc pos) 0 (.ref I) (.ref s.heap.objs.size) (compEnvC sc bcl H2.objs.size c.env)) (RR (.ref s.heap.objs.size) H2.objs.size) { s with heap:=gQ,toks:=s.toks+([]:List (Str×Value)).length }:=by
  refine sX (s:=s) (H:=H) (news₀:=ae) h1 h2 ok W sG hx fj hn hz Op dI Oq ?_ ?_ (fun p hp=>⟨aq S1.nw _ (.tail _ hp),aq S.nw _ hp⟩) hP (fun acc mw nD H' am h' tk VC nm S4 D4 Ys V4 C4 Yt NZ kk tt Ob q=>?_) items.length _
   ⟨0,[],[],0,H,n3,gQ,_,oI,oC,_,by simp,rfl,S3,I3,EO,Cv,D3,HD,(bC ..).mpr rfl,rfl,C3,HC,oO,fun p hp vz e=>⟨u3 _ (.tail _ (.tail _ hp)) (aq S1.nw _ (.tail _ hp)),e⟩,sub,fun b hb=>?_,by simpa using w⟩
  ·intro hm
   rcases BE _ hm with z|⟨ob,m1,_⟩
   ·exact Op z.symm
   ·exact aq S1.nw _ (.tail _ m1) rfl
  ·intro hm
   rcases BE _ hm with z|⟨ob,m1,_⟩
   ·exact dI z.symm
   ·exact aq S.nw _ m1 rfl
  ·have S6:St G c.h₀ c.L mm (H'.put s.heap.objs.size (.list acc)) am h':=⟨S4.fr,S4.nw,S4.nd,fun a o e=>by
    by_cases z:a=s.heap.objs.size
    ·subst z;rw[al]at e;cases e;exact⟨_,D4,mw,nD,rfl,V4⟩
    ·rw[aj _ _ z]at e;exact S4.hr a o e,fun a o e i=>by
    by_cases z:a=s.heap.objs.size
    ·subst z;rw[al]at e;cases e;(exact bI i)
    ·rw[aj _ _ z]at e;exact S4.lo a o e i⟩
   refine k _ _ acc H' am h' tk VC nm Oq S6 Ys C4 ((aj _ _ Oq.symm).trans Yt) NZ (fun p hp vz e=>?_) Ob q
   refine bh (kk p hp vz e) fun q1 q2=>?_
   exact⟨aq S1.nw _ (.tail _ hp),q1,by rw[aj _ _ (aq S.nw _ hp)];exact q2⟩
  ·rcases BE b hb with e|⟨ob,m1,ne,e⟩
   ·exact .inl e
   ·exact .inr ⟨ob,u3 _ (.tail _ (.tail _ m1)) (aq S1.nw _ (.tail _ m1)),ne,e⟩
 exact codeAny_compStart_list loop (W.self 0 _ _ _ Cv loop)
theorem f6{H:ah}{a b:Addr}{o p:AO}(n:a≠b):(H.put a o).put b p=(H.put b p).put a o:=by
 funext y
 by_cases h1:y=b
 ·subst h1;rw[al,aj _ _ n.symm,al]
 ·rw[aj _ _ h1]
  by_cases h2:y=a
  ·(clear n;subst h2);rw[al,al]
  ·rw[aj _ _ h2,aj _ _ h2,aj _ _ h1]
def fV(G:Gl)(D:Nat)(cs:Scope)(cl:List (Str×Addr))(sc:Scope)(bcl:List (Str×Addr))(x:Str)(elt iter:Expr)(m:bP)(H:ah)(Q:AV->ah->Prop):Prop:=
 ∀ (c:Cx),c.cs=cs->c.cl=cl->c.Ok G D->∀mm ae s,St G c.h₀ c.L mm H ae s.heap->LR ae m mm->∀ (px pos:Pos) (E:Value->Shared->Prop) (RR:Value->Addr->Result->Shared->Prop),
  (∀d C H' am h' tk oC nm,d≠C->St G c.h₀ c.L mm H' am h'->(C,oC)∈am->H' C=none->h'.Ns C nm->(∀p∈ae,H p.1=none->p.1≠C/\p∈am/\H' p.1=none)->Q (.ref d) H'->RR (.ref d) C (.ok .next) { s with heap:=h',toks:=tk })->
  wpAny (model G.prog G.w) c.A (eval iter c.env) (fun xv tQ=>wpAny (model G.prog G.w) c.A (pyIter xv) (fun it ON=>wpAny (model G.prog G.w) c.A (newList []) (fun acc nc=>wpAny (model G.prog G.w) c.A (newFunctionEnv sc c.env.globals bcl [] c.env.qual none .none (some c.env)) (fun zW Ec=>
   codeAny (model G.prog G.w) c.A (.compStart (.ListComp elt [⟨.Name x px,iter,[],0⟩] sc pos) 0 it acc { zW with scope:=relabel sc c.env }) (RR acc zW.locals) Ec) E nc) E ON) E tQ) E s
theorem fV.tup{iter:Expr}{Q:AQ}(hx:sc.names.lookup x=some .local)(fj:sc.kind=.function)(cU:∀y∈sc.names,y.2≠.cell)
 (h:WE G D cs cl iter m H fun a H1=>∃xs,a=.tup xs/\xs.length<=1000000/\fB G D cs cl sc bcl x elt none (fun acc H2=>∀d,H2 d=none->Q (.ref d) (H2.put d (.list acc))) xs [] H1):fV G D cs cl sc bcl x elt iter m H Q:=by
 intro c h1 h2 ok mm ae s S lr px pos E RR k
 refine h.go c h1 h2 ok mm ae s S lr _ E fun v a H1 n1 cP tk S1 K1 V1 w=>?_
 refine aN (w) ?_;clear w;intro xs ak hz w;subst ak
 refine aE ((ee ..).mp V1) fun t vs ak hm hv=>?_;(clear V1;subst ak)
 have ht:cP.IsTuple t vs.toArray:=⟨_,(S1.nw _ hm).1,rfl,0,rfl⟩
 refine wpAny_pyIter_tuple (s:={ s with heap:=cP,toks:=tk }) ht ?_
 have eG:t≠cP.objs.size:=aq S1.nw _ hm
 (refine bh (S1.push (d:=cP.objs.size) (ob:={ cls:=.type "tuple_iterator",data:=.fields #[.ref t,.int 0 0] }) (S1.fr.push _) (S1.nw.push S1.fr _) (aq S1.nw)) fun S2 K2=>?_)
 refine jz h1 h2 ok (Walks.tuple ok.handled cP.objs.size t eG vs.toArray) (fun i h hh=>let ⟨o,a,b,_⟩:=hh.1;⟨o,a,by rw[b];rfl⟩) hx fj cU (items:=xs) (by rw[List.size_toArray,hv.length]) (by rw[List.size_toArray,hv.length];exact hz) (s:={ s with heap:=cP.push { cls:=.type "tuple_iterator",data:=.fields #[.ref t,.int 0 0] },toks:=tk }) S2 (.head _) (S1.off (aq S1.nw))
  ⟨⟨_,Heap.get?_push_size _ rfl,rfl,rfl⟩,_,Heap.get?_push_of_some _ (S1.nw _ hm).1,rfl,0,rfl⟩ (fun i v a e1 e2=>(hv.sub dJ).get (by simpa using e1) e2) (fun b hb=>?_) (kp:=none) w E RR fun d C acc H' n' h' gg oC nm BF S3 HD C3 HC tw kk _ q=>?_
 ·clear K2 S2 ht hv w hz xs;rcases de hb with rfl|hb
  ·exact .inl rfl
  ·have:b=t:=by simpa using hb
   subst this
   exact .inr ⟨_,.tail _ hm,eG,.inl (S1.iq hm)⟩
 ·refine k d C _ n' h' gg oC nm BF S3 C3 HC tw (fun p hp e=>?_) (q d HD)
  refine bh (K1 p hp e) fun a1 a2=>?_
  exact kk p (.tail _ a1) (aq S1.nw p a1) a2
theorem fV.range{iter:Expr}{Q:AQ}(hx:sc.names.lookup x=some .local)(fj:sc.kind=.function)(cU:∀y∈sc.names,y.2≠.cell)
 (h:WE G D cs cl iter m H fun a H1=>∃l n,a=.ref l/\H1 l=some (.range n)/\0<=n/\n<=1000000/\∀ob,fB G D cs cl sc bcl x elt (some (l,.ro (.range n) ob)) (fun acc H2=>∀d,(H2.put l (.range n)) d=none->Q (.ref d) ((H2.put l (.range n)).put d (.list acc))) (nS n) [] (H1.put l (.ro (.range n) ob))):fV G D cs cl sc bcl x elt iter m H Q:=by
 intro c h1 h2 ok mm ae s S lr px pos E RR k
 refine h.go c h1 h2 ok mm ae s S lr _ E fun v a H1 n1 cP tk S1 K1 V1 w=>?_
 refine oX (w) ?_;clear w;intro l n ak hl hz hb w;subst ak
 have:v=.ref l:=V1
 clear V1;subst this
 refine aN (S1.get hl) fun ob hm ak hg=>?_;refine jM (ak) fun t u v cu=>?_;clear ak;subst cu
 refine wpAny_pyIter_range (s:={ s with heap:=cP,toks:=tk }) (a:=0) (b:=n) (c:=1) hg (small_one (by lia) (by lia) (by lia) (by lia)) ?_
 rw[rangeSize_one hz]
 have eG:l≠cP.objs.size:=aq S1.nw _ hm
 have SF:=S1.freeze hl hm
 (refine bh (SF.push (d:=cP.objs.size) (ob:={ cls:=.type "range_iterator",data:=.fields #[rawInt 0,rawInt n,rawInt 1] }) (S1.fr.push _) (S1.nw.push S1.fr _) (aq S1.nw)) fun S2 K2=>?_)
 have KF:aO H1 (H1.put l (.ro (.range n) { cls:=.type "range",dict:=none,data:=.fields #[.int 0 t,.int n u,.int 1 v],slots:=#[] })) n1 n1:=aO.freeze hl
 have hN:((n.toNat:Nat):Int)=n:=by exact Fa hz
 refine jz h1 h2 ok (Walks.range ok.handled cP.objs.size 0 1 n.toNat) (fun i h hh=>⟨_,hh,rfl⟩) hx fj cU (items:=nS n) (by simp[nS]) (by exact Ry hb) (s:={ s with heap:=cP.push { cls:=.type "range_iterator",data:=.fields #[rawInt 0,rawInt n,rawInt 1] },toks:=tk }) S2 (.head _) (SF.off (aq S1.nw))
  (by show Heap.get? _ _=_;rw[Heap.get?_push_size _ rfl];simp[hN]) (fun i v a e1 e2=>?_) (fun b hb=>.inl (by simpa using hb)) (kp:=some (l,.ro (.range n) { cls:=.type "range",dict:=none,data:=.fields #[.int 0 t,.int n u,.int 1 v],slots:=#[] })) (w _) E RR fun d C acc H' n' h' gg oC nm BF S3 HD C3 HC tw kk kp q=>?_
 ·refine aY (e1) fun t ak=>?_;clear e1;subst ak
  unfold nS at e2
  rw[List.getElem?_map]at e2
  cases q:(List.range n.toNat)[i]? with
  |none=>rw[q]at e2;(exact ax e2)
  |some p=>
   rw[q]at e2
   cases e2
   have:p=i:=by
    rw[List.getElem?_eq_some_iff]at q
    refine aY (q) fun q1 q2=>?_;clear q
    simpa using q2.symm
   clear q;subst this
   exact⟨t,by simp⟩
 ·have kl:H' l=some (.ro (.range n) { cls:=.type "range",dict:=none,data:=.fields #[.int 0 t,.int n u,.int 1 v],slots:=#[] }):=kp
  have dl:d≠l:=fun z=>by rw[z,kl]at HD;(exact bg HD)
  have CN:(H'.put d (.list acc)) l=some (.ro (.range n) { cls:=.type "range",dict:=none,data:=.fields #[.int 0 t,.int n u,.int 1 v],slots:=#[] }):=(aj _ _ dl.symm).trans kl
  have Q2:C≠l:=fun z=>by rw[z,CN]at HC;(exact bg HC)
  have S4:=S3.qo CN
  rw[f6 dl]at S4
  refine k d C _ n' h' gg oC nm BF S4 C3 ?_ tw (fun p hp e=>?_) (q d ((aj _ _ dl).trans HD))
  ·rw[←f6 dl,aj _ _ Q2];exact HC
  ·refine bh ((K1.trans KF) p hp e) fun a1 a2=>?_
   refine ci (kk p (.tail _ a1) (aq S1.nw p a1) a2) fun b1 b2 b3=>?_
   refine⟨b1,b2,?_⟩
   have:p.1≠l:=fun z=>by rw[z,CN]at b3;(exact bg b3)
   rw[←f6 dl,aj _ _ this];exact b3
theorem rE{iter:Expr}{px pos:Pos}{Q:AQ}(eN:∀c:Cx,c.cs=cs->c.cl=cl->closureFor sc c.env=pure bcl)(fj:sc.kind=.function)(dj:∀x∈sc.names,x.2=.local->sc.names.lookup x.1=some .local)
 (h:fV G D cs cl sc bcl x elt iter m H Q) (hs:autoParam (∀ (env:Env) (x:Value),foldedSetIterable iter env x=pure x) aJ):WE G D cs cl (.ListComp elt [⟨.Name x px,iter,[],0⟩] sc pos) m H Q where
 go:=fun c h1 h2 ok mm ae s S lr Q' E k=>by
  rw[eval_ListComp]
  refine wpAny_comprehension_free (use:=none) rfl (hs _) (eN c h1 h2) fj dj (h c h1 h2 ok mm ae s S lr px pos E (fun acc C=>compPost (model G.prog G.w) c.A E none Q' acc C) fun d C H' n' h' tk oC nm BF S3 C3 HC tw kk q=>?_)
  refine⟨nm,tw,fun jK sb=>?_⟩
  refine aN (S3.vG C3 HC (md tw (S3.nw _ C3).1) (fun b o hb e=>sb.extBut b o hb e)) fun n4 S4 u4 Hn=>?_
  exact k _ (.ref d) _ n4 jK tk S4 (fun p hp e=>have z:=kk p hp e;⟨u4 p z.2.1 z.1,z.2.2⟩) rfl q
theorem xT{y:Str}{py:Pos}{iter:Expr}{px pos Hr:Pos}{Q:Fl->bP->ah->Prop}(JC:∀c:Cx,c.cs=cs->c.cl=cl->swapsWith (.ListComp elt [⟨.Name x px,iter,[],0⟩] sc pos) (some (.Name y py)) Hr.line c.env=pure true)
 (eN:∀c:Cx,c.cs=cs->c.cl=cl->closureFor sc c.env=pure bcl) (fj:sc.kind=.function) (dj:∀x∈sc.names,x.2=.local->sc.names.lookup x.1=some .local)
 (h:fV G D cs cl sc bcl x elt iter m H fun a H'=>Q .next ((y,a)::m) H') (hy:autoParam (cs.names.lookup y=some .local) aR) (hs:autoParam (∀ (env:Env) (x:Value),foldedSetIterable iter env x=pure x) aJ):W1 G D cs cl (.Assign [.Name y py] (.ListComp elt [⟨.Name x px,iter,[],0⟩] sc pos) Hr) m H Q where
 go:=fun c h1 h2 ok mm ae s S lr Q' E k=>by
  have Qh:c.cs.names.lookup y=some .local:=by rw[h1];exact hy
  rw[exec_Assign_Name_used _ _ _ _ (JC c h1 h2)]
  refine wpAny_bind (wpAny_standAt (wpAny_bind ?_))
  show wpAny _ c.A (do let _←comprehension (.ListComp elt [⟨.Name x px,iter,[],0⟩] sc pos) sc c.env _ (newList []) false (eval iter c.env) (some (_root_.PySem.assign (.Name y py) c.env))) _ _ s
  refine wpAny_bind (wpAny_mono (wpAny_comprehension_free (use:=some (_root_.PySem.assign (.Name y py) c.env)) (Q:=fun _ s'=>Q' .next s') rfl (hs _) (eN c h1 h2) fj dj
   (h c h1 h2 ok mm ae s S lr px pos E (fun acc C=>compPost (model G.prog G.w) c.A E (some (_root_.PySem.assign (.Name y py) c.env)) (fun _ s'=>Q' .next s') acc C) fun d C H' n' h' tk oC nm BF S3 C3 HC tw kk q=>?_)) (fun _ s' hq=>wpAny_pure (wpAny_pure hq)) fun _ _ e=>e)
  show wpAny _ c.A (_root_.PySem.assign (.Name y py) c.env (.ref d)) _ _ _
  refine wpAny_assign_Name (storeX_L (s:={ s with heap:=h',toks:=tk }) S3.fr S3.nw (fun h2 F N=>?_) ok.kind Qh)
  have S4:=S3.store F N
  have NZ:h2.Ns C nm:=by
   refine ux (tw) fun o' es ep e1 e2=>?_;clear tw
   have:o'=oC:=Option.some.inj (e1.symm.trans (S3.nw _ C3).1)
   subst this
   exact⟨o',es,ep,(N _ C3).1,e2⟩
  refine⟨nm,NZ,fun jK sb=>?_⟩
  refine aN (S4.vG C3 HC (md NZ (N _ C3).1) (fun b o hb e=>sb.extBut b o hb e)) fun n4 S5 u4 Hn=>?_
  have K:aO H H' ae n4:=fun p hp e=>have z:=kk p hp e;⟨u4 p z.2.1 z.1,z.2.2⟩
  exact k .next .next _ _ H' n4 jK _ S5 ((LR.keep S K lr).put (a:=.ref d) rfl) K rfl q
theorem St.change{h₀ h h':Heap}{L:Addr}{mm:Str->Option Value}{ae:dy}(S:St G h₀ L mm H ae h){d:Addr}{o o':AO}{ob kj:Obj}(hd:H d=some o)(hm:(d,ob)∈ae)(hg:h'.get? d=some kj)
 (k:∀b x,b≠d->h.get? b=some x->h'.get? b=some x) (ho:OR G ae o' kj) (iQ:autoParam (o'.wM=true->o.wM=true) aH):
 ∃am,St G h₀ L mm (H.put d o') am h'/\aO H (H.put d o') ae am/\(∀a vs,(a,aK vs)∈ae->(a,aK vs)∈am):=by
 refine dF (fO kj S.nd hm) fun n1 U hk u1 u2 u3=>?_
 have zd:=S.nw _ hm
 refine⟨n1,S.upd hd hm (Fr.kept S.fr k (Ne.symm zd.2.1) zd.2.2) (fun p hp=>?_) hk u1 u2 ho iQ⟩
 by_cases z:p.1=d
 ·have:p=(d,kj):=by
   clear zd u3 u1 U iQ k hg hm hd ob o h';obtain⟨a,b⟩:=p
   dsimp only at z
   subst z
   rw[dK (hk▸S.nd) hp u2]
  clear z hp u3 u2 u1 hk U n1;subst this
  exact⟨hg,zd.2⟩
 ·have y:=S.nw p (u3 p hp z)
  exact⟨k _ _ z y.1,y.2⟩
theorem iV{x:Str}{pos:Pos}{a:AV}{ca:Addr}{Q:AQ}(hc:cl.lookup x=some ca)(hl:H ca=some (.cell a))(h:Q a H)
 (hx:autoParam (cs.names.lookup x=some .cell) aR) (hd:autoParam ((x==("__debug__":Str))=false) aD):WE G D cs cl (.Name x pos) m H Q where
 go:=fun c h1 h2 ok mm ae s S lr Q' E k=>by
  subst h1 h2
  refine zN (S.hr _ _ hl) fun ob hm v e hv=>?_
  exact nameX_C S.nw hc hm e (k v a H ae s.heap s.toks S aO.rfl hv h) ok.kind hx hd
noncomputable def Ez:AO->Bool
 |.cell _=>true
 |.dv=>true
 |_=>false
theorem OD{x:Str}{xp:Pos}{e:Expr}{pos:Pos}{ca:Addr}{Q:Fl->bP->ah->Prop}(hc:cl.lookup x=some ca)(h:WE G D cs cl e m H fun a H'=>∃o,H' ca=some o/\Ez o=true/\Q .next m (H'.put ca (.cell a)))
 (hx:autoParam (cs.names.lookup x=some .cell) aR) (hs:autoParam (∀env:Env,swapsWith e (some (.Name x xp)) pos.line env=pure false) aI):W1 G D cs cl (.Assign [.Name x xp] e pos) m H Q where
 go:=fun c h1 h2 ok mm ae s S lr Q' E k=>by
  subst h1 h2
  refine wpAny_Assign_Name (h.go c rfl rfl ok mm ae s S lr _ E fun v a H1 n1 h' tk S1 K1 V1 w=>?_) (hs _)
  refine aN (w) ?_;clear w;intro o hl hi w
  refine aN (S1.get hl) fun ob hm xr hg=>?_
  have Oe:∃Hg,ob.data=.cell Hg:=by
   clear hl;cases o with
   |cell b=>(refine aA (xr) fun v0 e0 _=>?_;clear xr);exact⟨_,e0⟩
   |dv=>exact⟨_,xr⟩
   |_=>(exact bI hi)
  refine aY (Oe) ?_;clear Oe;intro Hg Oe
  refine wpAny_storeName_cell (s:={ s with heap:=h',toks:=tk }) ok.kind hx hc ⟨ob,hg,Oe⟩ fun h2 hv Xt=>?_
  refine aA (hv) fun o2 g2 d2=>?_;clear hv
  refine aN (S1.change (o':=.cell a) hl hm g2 (fun b x hb e=>Xt.extBut b x hb e) ⟨v,d2,V1⟩) fun n2 S2 K2 lO=>?_
  exact k .next .next _ _ _ n2 h2 _ S2 (LR.keep S (K1.trans K2) lr) (K1.trans K2) rfl w
theorem mP{kd:Str->Option NameKind}:∀ (bs:List (Str×Value)) (qD:Str->Option Value) (x:Str),kd x=some .local->(bindL kd bs qD) x=((bs.reverse.lookup x).or (qD x)):=by
 intro zz
 induction zz with
 |nil=>
  intro qD x _
  simp[bindL]
 |cons qx r ih=>
  obtain⟨n,v⟩:=qx
  intro qD x h
  rw[bindL,ih _ x h,List.reverse_cons]
  have app:∀ (l:List (Str×Value)) (n:Str) (v:Value),(l++[(n,v)]).lookup x=(l.lookup x).or (if x=n then some v else none):=by
   intro l n v
   induction l with
   |nil=>
    by_cases q:x=n
    ·subst q;simp
    ·have:(x==n)=false:=by simpa using q
     simp[List.lookup_cons,this,q]
   |cons y r ih=>
    obtain⟨a,b⟩:=y
    rw[List.cons_append,List.lookup_cons,List.lookup_cons]
    cases x==a<;>(first|assumption|simp[ih])
  rw[app]
  by_cases q:x=n
  ·subst q
   rw[if_pos h,if_pos rfl,if_pos rfl]
   cases List.lookup x r.reverse<;>rfl
  ·rw[if_neg q]
   by_cases hn:kd n=some .local
   ·rw[if_pos hn]
    simp only[q,↓reduceIte]
    cases List.lookup x r.reverse<;>rfl
   ·rw[if_neg hn]
    cases List.lookup x r.reverse<;>rfl
theorem ke{kd:Str->Option NameKind}:∀ (bs:List (Str×Value)) (qD:Str->Option Value) (x:Str),kd x≠some .local->(bindC kd bs qD) x=((bs.reverse.lookup x).or (qD x)):=by
 intro zz
 induction zz with
 |nil=>
  intro qD x _
  simp[bindC]
 |cons qx r ih=>
  obtain⟨n,v⟩:=qx
  intro qD x h
  rw[bindC,ih _ x h,List.reverse_cons]
  have app:∀ (l:List (Str×Value)) (n:Str) (v:Value),(l++[(n,v)]).lookup x=(l.lookup x).or (if x=n then some v else none):=by
   intro l n v
   induction l with
   |nil=>
    by_cases q:x=n
    ·subst q;simp
    ·have:(x==n)=false:=by simpa using q
     simp[List.lookup_cons,this,q]
   |cons y r ih=>
    obtain⟨a,b⟩:=y
    rw[List.cons_append,List.lookup_cons,List.lookup_cons]
    cases x==a<;>(first|assumption|simp[ih])
  rw[app]
  by_cases q:x=n
  ·subst q
   rw[if_neg h,if_pos rfl,if_pos rfl]
   cases List.lookup x r.reverse<;>rfl
  ·rw[if_neg q]
   by_cases hn:kd n=some .local
   ·rw[if_pos hn]
    cases List.lookup x r.reverse<;>rfl
   ·rw[if_neg hn]
    simp only[q,↓reduceIte]
    cases List.lookup x r.reverse<;>rfl
theorem g5{α:Type}{x:Str}{a:α}:∀ {l:List (Str×α)},l.lookup x=some a->(x,a)∈l
 |(y,b)::r,h=>by
  rw[List.lookup_cons]at h
  by_cases q:x=y
  ·subst q
   simp only[beq_self_eq_true]at h
   cases h
   exact .head _
  ·have:(x==y)=false:=by simpa using q
   simp only[this]at h
   exact .tail _ (g5 h)
theorem iJ{z:Str}{α β:Type}{ns:List Str}:∀ {as:List α} {bs:List β} (pa:List (Str×α)) (pb:List (Str×β)),as.length=bs.length->(pa.lookup z=none->pb.lookup z=none)->((ns.zip as).reverse++pa).lookup z=none->((ns.zip bs).reverse++pb).lookup z=none:=by
 induction ns with
 |nil=>exact fun _ _ _ h e=>h e
 |cons n ns ih=>
  intro as bs pa pb l h e
  cases as with
  |nil=>rw[List.eq_nil_of_length_eq_zero l.symm];exact h e
  |cons a as=>
   cases bs with
   |nil=>exact absurd l (Nat.succ_ne_zero _)
   |cons b bs=>
    rw[List.zip_cons_cons,List.reverse_cons,List.append_assoc]at e⊢
    refine ih ((n,a)::pa) ((n,b)::pb) (Nat.succ.inj l) (fun q=>?_) e
    rw[List.lookup_cons]at q⊢
    cases w:z==n with
    |true=>rw[w]at q;exact bg q
    |false=>rw[w]at q;exact h q
noncomputable def jA:Option AV->AO
 |some a=>.cell a
 |none=>.dv
theorem D0{f:Addr}{oc:Value}{od:Option Addr}{AD:Array (Option Value)}{name qual:Str}{params:Arguments}{body:List Stmt}{scope:Scope}{dV kV doc pm pz ct:Value}{an:Option Addr}{ns:List Str}{args:List AV}{z:Str}{m':bP}{Q:AQ}
 (ho:G.K.lookup f=some ⟨oc,od,.func (fnOf name qual params body scope dV kV doc pm an pz ct),AD⟩) (J0:codeIn G.K pz qual=true)
 (jf:∀vals:List Value,vals.length=ns.length->bindArgs (fnOf name qual params body scope dV kV doc pm an pz ct) ⟨vals,[]⟩=pure (ns.zip vals))
 (zB:∀y∈ns,(scope.names.lookup y==some .local||scope.names.lookup y==some .cell)=true) (zC:∀n,cellsFrom n scope.names []=[(z,n)]) (hz:scope.names.lookup z=some .cell) (EM:scope.isCoroutine=false) (uo:scope.isGenerator=false) (hk:scope.kind=.function) (hlen:args.length=ns.length)
 (hm:∀y∈m',(ns.zip args).reverse.lookup y.1=some y.2/\scope.names.lookup y.1=some .local)
 (h:∀ca,H ca=none->WS G D scope [(z,ca)] body m' (H.put ca (jA ((ns.zip args).reverse.lookup z))) fun fl _ H'=>Q (lU fl) H'):WC G (D+1) (.ref f) args H Q where
 go:=fun c ok mm ae s S vals hv R k=>by
  have lv:vals.length=ns.length:=hv.length.trans hlen
  refine PySem.W.code_defC ok.below S.fr ok.qL S.nw ok.top ok.frames rfl ok.kind ho J0 (by have:=ok.depth;exact Sa this) (BindsTo.of_eq (jf vals lv)) (List.all_eq_true.mpr fun y hy=>zB y.1 (List.of_mem_zip hy).1) (by rw[zC];exact List.nodup_cons.mpr ⟨List.not_mem_nil,List.nodup_nil⟩) (fun g L' gQ tk cells FG F' N' CA B' X' T' lt=>?_) EM uo hk
  rw[zC]at CA
  refine aA (CA.one) fun Pf ak hd=>?_;(clear CA;subst ak)
  have N0:News g L' gQ ae:=fun p hp=>N' p (.tail _ hp)
  have S0:St G g L' _ H ae gQ:=⟨F',N0,S.nd,S.hr,S.lo⟩
  have JT:∀p∈ae,p.1≠L'+1:=fun p hp=>Nat.ne_of_lt (Nat.lt_succ_of_lt (lt p hp))
  have look:∀x a,(ns.zip args).reverse.lookup x=some a->∃v,(ns.zip vals).reverse.lookup x=some v/\VR ae a v:=fun x a e=>by
   have:=jX (ns:=ns) hv [] [] (fun _ _ e=>ax e) x a (by simpa using e)
   simpa using this
  have kz:(envOfC qual scope L' f pz).kindOf z≠some .local:=by
   show scope.names.lookup z≠_
   rw[hz]
   intro q
   cases q
  rw[ke _ _ _ kz]at hd
  have Xw:OR G ae (jA ((ns.zip args).reverse.lookup z)) Pf:=by
   cases e:(ns.zip args).reverse.lookup z with
   |some a=>
    refine aA (look z a e) fun v e1 e2=>?_
    exact⟨v,by rw[hd,e1];rfl,e2⟩
   |none=>
    have:(ns.zip vals).reverse.lookup z=none:=by
     have:=iJ (ns:=ns) (as:=args) (bs:=vals) (z:=z) [] [] hv.length.symm (fun _=>rfl) (by simpa using e)
     simpa using this
    show Pf.data=.cell none
    rw[hd,this]
    rfl
  refine bh (S0.eJ F' N' JT Xw (by intro z;cases q:(ns.zip args).reverse.lookup _<;>rw[q]at z<;>(exact bI z))) ?_;intro S1 K1
  have Bc:Cx.Ok G D ⟨c.A,c.A.deeper (envOfC qual scope L' f pz),c.base,g,c.env::c.outer,L',qual,scope,f,pz,cellsFrom (L'+1) scope.names []⟩:={
   below:=B'
   qL:=X'
   top:=T'
   frames:=Around.frames_deeper ok.frames
   kind:=hk
   depth:=by have:=ok.depth;rw[depth_deeper];exact Ot this
   units:=by have:=ok.units;rw[units_deeper];exact RF this
   handled:=ok.handled }
  refine(h (L'+1) (S0.off JT)).go _ rfl (zC _) Bc _ _ { s with heap:=gQ,toks:=tk } S1 (fun x a e=>?_) _ _ fun fl af VQ eZ H' n' h' gg S2 CL K2 F2 q=>?_
  ·refine bh (hm _ (g5 e)) fun e1 e2=>?_
   refine aA (look _ _ e1) fun v e3 e4=>?_
   refine⟨v,?_,e4.sub dJ⟩
   rw[mP _ _ _ (show(envOfC qual scope L' f pz).kindOf x=some .local from e2),e3]
   rfl
  ·refine leaveK_ S2.fr S2.nw fun FF NN=>?_
   have V:VR n' (lU af) (nH fl):=FR.val F2
   exact k _ (lU af) H' n' h' gg ⟨FF,NN,S2.nd,S2.hr,S2.lo⟩ (K1.trans K2) V q
theorem jF{env:Env}(hk:env.scope.kind=.function):∀ {names:List (Str×NameKind)} {x:Str},names.lookup x=some .free->env.kindOf x=some .cell->
 (names.map fun (n,k)=>if(k==NameKind.free&&env.scope.kind==.function&&env.kindOf n==some .cell)then(n,NameKind.cell)else(n,k)).lookup x=some .cell:=by
 intro zz
 induction zz with
 |nil=>
  intro _ h _
  simp at h
 |cons qx r ih=>
  obtain⟨n,k⟩:=qx
  intro x h hc
  have ih:=@ih x
  show List.lookup x ((if(k==NameKind.free&&env.scope.kind==.function&&env.kindOf n==some .cell)=true then(n,NameKind.cell)else(n,k))::_)=_
  cases hx:x==n with
  |true=>
   have:x=n:=by simpa using hx
   subst this
   simp only[List.lookup_cons,hx]at h
   cases h
   simp[List.lookup_cons,hk,hc]
  |false=>
   simp only[List.lookup_cons,hx]at h
   by_cases q:(k==NameKind.free&&env.scope.kind==.function&&env.kindOf n==some .cell)=true
   ·rw[if_pos q];simp only[List.lookup_cons,hx];exact ih h hc
   ·rw[if_neg q];simp only[List.lookup_cons,hx];exact ih h hc
theorem jE{env:Env}:∀ {names:List (Str×NameKind)} {x:Str},names.lookup x=some .globalImplicit->
 (names.map fun (n,k)=>if(k==NameKind.free&&env.scope.kind==.function&&env.kindOf n==some .cell)then(n,NameKind.cell)else(n,k)).lookup x=some .globalImplicit:=by
 intro zz
 induction zz with
 |nil=>
  intro _ h
  simp at h
 |cons qx r ih=>
  obtain⟨n,k⟩:=qx
  intro x h
  have ih:=@ih x
  show List.lookup x ((if(k==NameKind.free&&env.scope.kind==.function&&env.kindOf n==some .cell)=true then(n,NameKind.cell)else(n,k))::_)=_
  cases hx:x==n with
  |true=>
   simp only[List.lookup_cons,hx]at h
   cases h
   simp[List.lookup_cons,hx]
  |false=>
   simp only[List.lookup_cons,hx]at h
   by_cases q:(k==NameKind.free&&env.scope.kind==.function&&env.kindOf n==some .cell)=true
   ·rw[if_pos q];simp only[List.lookup_cons,hx];exact ih h
   ·rw[if_neg q];simp only[List.lookup_cons,hx];exact ih h
theorem CE.name{pos:Pos}{Q:AQ}(h:Q a H)(hx:autoParam (sc.names.lookup x=some .local) aR)(hk:autoParam (sc.kind=.function) aR)(hd:autoParam ((x==("__debug__":Str))=false) aD):CE G D fs g6 sc bcl x a (.Name x pos) H Q where
 go:=fun c h1 h2 ok mm ae s C S b Q' E k=>by
  refine jy (b) fun b1 oC nm v b2 b3 b4 b5=>?_;clear b
  exact wpAny_Name (wpAny_loadName_local (env:=compEnvC sc bcl C c.env) hk (lookup_relabel_local hx) b3 b4 (k v a H ae s.heap s.toks S aO.rfl b5 h)) hd
theorem CE.cell{y:Str}{pos:Pos}{r:AV}{ca:Addr}{Q:AQ}(hc:bcl.lookup y=some ca)(hl:H ca=some (.cell r))(h:Q r H)(hx:autoParam (sc.names.lookup y=some .free) aR)(hf:autoParam (fs.names.lookup y=some .cell) aR)(hk:autoParam (sc.kind=.function) aR)(hd:autoParam ((y==("__debug__":Str))=false) aD):
 CE G D fs g6 sc bcl x a (.Name y pos) H Q where
 go:=fun c h1 h2 ok mm ae s C S b Q' E k=>by
  subst h1 h2
  refine zN (S.hr _ _ hl) fun ob hm v e hv=>?_
  exact wpAny_Name (wpAny_loadName_cell (env:=compEnvC sc bcl C c.env) hk (jF ok.kind hx hf) hc ⟨ob,(S.nw _ hm).1,e⟩ (k v r H ae s.heap s.toks S aO.rfl hv h)) hd
theorem CE.vF{y:Str}{pos:Pos}{v:Value}{r:AV}{Q:AQ}(e:nsIn G.K mainGlobals y=some (some v))(ha:∀ae,VR ae r v)(h:Q r H)
 (hx:autoParam (sc.names.lookup y=some .globalImplicit) aR) (hk:autoParam (sc.kind=.function) aR) (hd:autoParam ((y==("__debug__":Str))=false) aD):CE G D fs g6 sc bcl x a (.Name y pos) H Q where
 go:=fun c h1 h2 ok mm ae s C S b Q' E k=>by
  subst h1 h2
  exact Name_function_global (env:=compEnvC sc bcl C c.env) hk (jE hx) (loadGlobal_global (env:=compEnvC sc bcl C c.env) (ok.tr.g.keeps S.fr.keep) (mg_of ok.qL ok.tr.g e) (k v r H ae s.heap s.toks S aO.rfl (ha _) h)) hd
theorem CE.int{n:Int}{j:Nat}{pos:Pos}{Q:AQ}(h:Q (.int n) H):CE G D fs g6 sc bcl x a (.Constant (.int n) j pos) H Q where
 go:=fun c h1 h2 ok mm ae s C S b Q' E k=>wpAny_Constant_int (k _ (.int n) H ae s.heap _ S aO.rfl ⟨_,rfl⟩ h)
@[reducible] noncomputable def Ce(G:Gl)(D:Nat)(fs:Scope)(g6:List (Str×Addr))(sc:Scope)(bcl:List (Str×Addr))(x:Str)(a:AV):List Expr->ah->(List AV->ah->Prop)->Prop
 |[],H,Q=>Q [] H
 |e::es,H,Q=>CE G D fs g6 sc bcl x a e H fun r H1=>Ce G D fs g6 sc bcl x a es H1 fun as H2=>Q (r::as) H2
theorem Ce.go:∀ {es:List Expr} {H:ah} {Q:List AV->ah->Prop},(es.all cN)=true->Ce G D fs g6 sc bcl x a es H Q->∀c:Cx,c.cs=fs->c.cl=g6->c.Ok G D->∀ {mm ae s} (C:Addr) (pos:Pos),St G c.h₀ c.L mm H ae s.heap->tv C x a H ae s.heap->∀ (Q':List Value->Shared->Prop) E,
 (∀v r H' am h' tk,St G c.h₀ c.L mm H' am h'->aO H H' ae am->dw am r v->v.length=es.length->Q r H'->Q' v { s with heap:=h',toks:=tk })->
 wpAny (model G.prog G.w) c.A (spliced (backTo pos (starEach es (compEnvC sc bcl C c.env)))) Q' E s:=by
 intro zz
 induction zz with
 |nil=>
  intro H Q _ w c h1 h2 ok mm ae s C pos S b Q' E k
  exact wpAny_items_nil (k [] [] H ae s.heap s.toks S aO.rfl rfl rfl w)
 |cons e es ih=>
  intro H Q hp w c h1 h2 ok mm ae s C pos S b Q' E k
  rw[List.all_cons,Bool.and_eq_true]at hp
  refine wpAny_items_cons ?_ (cC hp.1)
  refine CE.go w c h1 h2 ok mm ae s C S b _ E fun v r H1 n1 h' tk S1 K1 V1 w1=>?_
  refine ih hp.2 w1 c h1 h2 ok (s:={ s with heap:=h',toks:=tk }) C pos S1 (tv.keep S S1 K1 b) _ E fun vs as H2 n2 h2 gI S2 K2 V2 len q=>?_
  exact k (v::vs) (r::as) _ _ _ _ S2 (K1.trans K2) ((aW ..).mpr ⟨v,vs,rfl,S1.vr K2 V1,V2⟩) (by simp[len]) q
theorem CE.cp{y:Str}{yp pos:Pos}{args:List Expr}{f:Addr}{Q:AQ}(hn:nsIn G.K mainGlobals y=some (some (.ref f)))(XI:keepIn G.K (.ref f)=true)
 (h:Ce G D fs g6 sc bcl x a args H fun as H'=>WC G D (.ref f) as H' Q) (eG:autoParam (args.isEmpty=false) aR) (hp:autoParam ((args.all cN)=true) aR) (hx:autoParam (sc.names.lookup y=some .globalImplicit) aR) (hk:autoParam (sc.kind=.function) aR) (hd:autoParam ((y==("__debug__":Str))=false) aD):
 CE G D fs g6 sc bcl x a (.Call (.Name y yp) args [] pos) H Q where
 go:=fun c h1 h2 ok mm ae s C S b Q' E k=>by
  refine Call_ ((CE.vF (a:=a) (x:=x) (r:=.ref f) hn (fun _=>rfl) (h:=(⟨rfl,rfl⟩:AV.ref f=AV.ref f/\H=H)) hx hk hd:CE G D fs g6 sc bcl x a (.Name y yp) H fun r H'=>r=AV.ref f/\H'=H).go c h1 h2 ok mm ae s C S b _ E fun v r H' n' h' tk S1 K1 V1 q=>?_) (by rfl)
  refine bh (q) fun ak cu=>?_;clear q;subst ak;subst cu
  have:v=.ref f:=V1
  clear V1;subst this
  cases args with
  |nil=>(exact dH eG)
  |cons e es=>
   refine callWith_K ok.qL XI (Ce.go hp h c h1 h2 ok (s:={ s with heap:=h',toks:=tk }) C pos S1 (tv.keep S S1 K1 b) _ E fun vs as H2 n2 gw gI S2 K2 V2 len w=>?_) (cC (by rw[List.all_cons,Bool.and_eq_true]at hp;exact hp.1)) (ie (by rw[List.all_cons,Bool.and_eq_true]at hp;exact hp.2))
   refine⟨nB ok S2,wpAny_call (w.go c ok mm n2 _ S2 vs V2 _ fun v2 r2 H3 n3 h3 pA S3 K3 V3 q=>?_)⟩
   exact k v2 r2 H3 n3 h3 pA S3 (K1.trans (K2.trans K3)) V3 q
theorem CE.cW{o:Expr}{name:Str}{apos pos:Pos}{args:List Expr}{Q:AQ}
 (h:CE G D fs g6 sc bcl x a o H fun r H1=>∃l ob id,r=.ref l/\H1 l=some ob/\vg ob name=some id/\Ce G D fs g6 sc bcl x a args H1 fun as H'=>WB G D (.builtin id) (.ref l::as) H' Q)
 (eG:autoParam (args.isEmpty=false) aR) (hp:autoParam ((args.all cN)=true) aR) {pl:Env->Sem Bool}
 (he:autoParam (∀env:Env,eval (.Call (.Attribute o name apos) args [] pos) env=(do
  let ov←eval o env
  standAt apos.atName
  let (f,first)←holding [ov] (getMethod ov name (pl env))
  callWith pos f first (backTo pos (starEach args env)) [])) aI):
 CE G D fs g6 sc bcl x a (.Call (.Attribute o name apos) args [] pos) H Q where
 go:=fun c h1 h2 ok mm ae s C S b Q' E k=>by
  refine MethodCall_ (h.go c h1 h2 ok mm ae s C S b _ E fun v r H' n' h' tk S1 K1 V1 q=>?_) (he _)
  refine cQ (q) ?_;clear q;intro l ob id ak hl hm q;(clear he h apos o;subst ak)
  have:v=.ref l:=V1
  clear V1;subst this
  refine sm (s:={ s with heap:=h',toks:=tk }) ok S1 hl hm _ _ ?_
  refine PySem.Calls.callWith_builtin (ie hp) ?_
  clear pl;cases args with
  |nil=>(exact dH eG)
  |cons e es=>
   have ko:=hp
   rw[List.all_cons,Bool.and_eq_true]at ko
   have fin:=Ce.go hp q c h1 h2 ok (s:={ s with heap:=h',toks:=tk }) C pos S1 (tv.keep S S1 K1 b) (fun vs s'=>wpAny (model G.prog G.w) c.A (call (.builtin id) ([.ref l]++vs)) Q' E s') E fun vs as H2 n2 gw gI S2 K2 V2 len w=>
    w.go c ok mm n2 { s with heap:=gw,toks:=gI } S2 ([.ref l]++vs) ((aW ..).mpr ⟨_,vs,rfl,rfl,V2⟩) Q' E fun v2 r2 pr sg jK gg S3 K3 V3 q=>k v2 r2 pr sg jK gg S3 (K1.trans (K2.trans K3)) V3 q
   rw[cC ko.1]at fin⊢
   exact evalArgs_plain fin
variable{a b:Int}{Q:AQ}
theorem WE.fdiv{l r:Expr}{pos:Pos}(himp:importsNone G.p=true)(Jz:G.prog.given.tree=none)(h:WE G (D+100) cs cl l m H fun a H1=>WE G (D+100) cs cl r m H1 fun b H2=>∃i j,a=.int i/\b=.int j/\j≠0/\Q (.int (i.fdiv j)) H2)
 (uo:autoParam (cs.isGenerator=false) aR) (EM:autoParam (cs.isCoroutine=false) aR):WE G (D+100) cs cl (.BinOp l .FloorDiv r pos) m H Q where
 go:=fun c h1 h2 ok mm ae s S lr Q' E k=>by
  refine wpAny_BinOp (h.go c h1 h2 ok mm ae s S lr _ E fun va a H1 n1 cP tk S1 K1 V1 w=>?_)
  refine w.go c h1 h2 ok mm n1 _ S1 (LR.keep S K1 lr) _ E fun vb b H2 n2 gw gI S2 K2 V2 w2=>?_
  refine el (w2) fun i j ak cu hj q=>?_;clear w2;(clear w lr h2 h r;subst ak);subst cu
  refine aY (V1) fun t ak=>?_;clear V1;subst ak
  refine aY (V2) fun u ak=>?_;clear V2;subst ak
  have hl:gw.NoLimit:=ok.top.nolimit.keeps S2.fr.keep
  have hs:gw.NoSeer:=(ok.top.seer himp).keeps S2.fr.keep
  refine PyProof.Rows.floordiv_int hj (k _ _ H2 n2 gw _ S2 (K1.trans K2) (by exact⟨_,rfl⟩) q) (.inr (PySem.PylongRoom.of hl (by have:=ok.depth;show _+100<_;exact Rx this) (PySem.SeerAt.of hs Jz ok.frames (by show c.cs.isGenerator=false;rw[h1];exact uo) (by show c.cs.isCoroutine=false;rw[h1];exact EM) rfl rfl)))
theorem Gz(h:Q (.int (10 ^ 20)) H):np G D .Pow false (.int 10) (.int 20) H Q where
 go:=fun c ok mm ae s S va vb ha J3 Q' E k=>by
  (refine aY (ha) fun t ak=>?_;clear ha;subst ak);(refine aY (J3) fun u ak=>?_;clear J3;subst ak)
  exact PyProof.Rows.pow_int_small (by decide) (by decide) (by decide) (k _ _ H ae s.heap _ S aO.rfl (by exact⟨_,rfl⟩) h)
theorem AL{l:Addr}{xs:List AV}(hl:H l=some (.list xs))(hz:xs.length<=16384)(h:Q (.tup xs) H):WB G D (.type "tuple") [.ref l] H Q where
 go:=fun c ok mm ae s S vals hv Q' E k=>by
  refine aA (hM hv) fun v ak h1=>?_;(clear hv;subst ak)
  have:v=.ref l:=h1
  clear h1;subst this
  refine aN (S.get hl) fun o1 m1 ak g1=>?_;refine bi (ak) fun vs n cu hv=>?_;clear ak;(clear m1;subst cu)
  refine kde_tupleOf S.fr S.nw ⟨_,g1,rfl,n,rfl⟩ (by rw[List.size_toArray,hv.length];exact hz) rfl (fun d h' F N lt=>?_)
  have hd:∀p∈ae,p.1≠d:=gu lt
  refine bh (S.push F N hd) fun S2 K2=>?_
  exact k (.ref d) (.tup xs) H _ h' s.toks S2 K2 ((ee ..).mpr ⟨d,vs,rfl,.head _,hv.sub dJ⟩) h
theorem A8(vs:List Value){u:Int}(h:0<=u):kms_pick vs none (some u)=vs.take u.toNat:=by
 have e:kms_hi (some u) vs.length=min u.toNat vs.length:=by
  show(if u<0 then _ else _)=_
  rw[if_neg (by exact M7 h)]
 rw[kms_pick,e,show kms_lo none vs.length=0 from rfl,List.drop_zero,Nat.sub_zero,Nat.min_def]
 split
 ·rfl
 ·rw[List.take_of_length_le (Nat.le_refl _),List.take_of_length_le (by exact Nat.le_of_not_le ‹_›)]
theorem fB.rule{fs:Scope}{g6:List (Str×Addr)}{sc:Scope}{bcl:List (Str×Addr)}{x:Str}{elt:Expr}{α:Type}{f:α->AV}{kp:Option (Addr×AO)}{Q:List AV->ah->Prop}(I:List α->List AV->ah->Prop)
 (step:∀a au acc H,I (a::au) acc H->cA kp H->CE G D fs g6 sc bcl x (f a) elt H fun r H'=>cA kp H'/\I au (acc++[r]) H') (fin:∀acc H,I [] acc H->cA kp H->Q acc H):
 ∀ (as:List α) {acc:List AV} {H:ah},cA kp H->I as acc H->fB G D fs g6 sc bcl x elt kp Q (as.map f) acc H:=by
 intro zz
 induction zz with
 |nil=>
  intro acc H k h
  exact⟨k,fin acc H h k⟩
 |cons a as ih=>
  intro acc H k h
  exact⟨k,(step a as acc H h k).mono fun r H' q=>ih q.1 q.2⟩
theorem FT{e u:Expr}{p pos:Pos}{l:Addr}{vs:List Value}{ns:List Int}(hk:∀h:Heap,G.K.In h->h.IsList l vs.toArray)(hi:IntsAre vs ns)(hz:ns.length<=1000000)
 (h:WE G D cs cl e m H fun v H1=>v=.ref l/\WE G D cs cl u m H1 fun w H2=>∃i,w=.int i/\0<=i/\∀d,H2 d=none->Q (.ref d) (H2.put d (.list ((ns.take i.toNat).map AV.int))))
 (ht:autoParam (∀o r,letTemporaryGo e o r=pure ()) aJ):WE G D cs cl (.Subscript e (.Slice none (some u) none p) pos) m H Q where
 go:=fun c h1 h2 ok mm ae s S lr Q' E k=>by
  have hlen:vs.length=ns.length:=hi.length
  refine wpAny_Subscript_list_slice (h.go c h1 h2 ok mm ae s S lr _ E fun va a H1 n1 cP tk S1 K1 V1 w=>?_) ht
  refine bh (w) ?_;clear w;intro ak w;subst ak
  rw[evalPart_none,evalPart_some]
  refine wpAny_pure (w.go c h1 h2 ok mm n1 _ S1 (LR.keep S K1 lr) _ E fun vb b H2 n2 gw gI S2 K2 V2 w2=>?_)
  refine aN (w2) fun i ak h0 q=>?_;clear w2;subst ak
  refine aY (V2) fun t ak=>?_;clear V2;subst ak
  have:va=.ref l:=V1
  clear V1;subst this
  have g1:gw.IsList l vs.toArray:=hk _ (Frag.In.keeps ok.qL S2.fr.keep)
  refine⟨l,vs.toArray,none,some i,rfl,g1,by rw[List.size_toArray,hlen,sizeLine_eq];(exact d6 ‹_› (cm rfl)),IsPart.none,.int ..,?_⟩
  (refine bh (S2.push (d:=gw.objs.size) (ob:={ cls:=.type "slice",data:=.fields #[.none,.int i t,.none] }) (S2.fr.push _) (S2.nw.push S2.fr _) (aq S2.nw)) fun S3 K3=>?_)
  have F4:=S3.fr.push ({ cls:=.type "list",data:=.seq (slicePick vs.toArray none (some i) none) }:Obj)
  have N4:=S3.nw.push S3.fr ({ cls:=.type "list",data:=.seq (slicePick vs.toArray none (some i) none) }:Obj)
  rw[Heap.size_push]at N4
  have hd:∀p∈((gw.objs.size,({ cls:=.type "slice",data:=.fields #[.none,.int i t,.none] }:Obj))::n2),p.1≠gw.objs.size+1:=by
   have:=aq S3.nw
   rw[Heap.size_push]at this
   exact this
  have vi:∀ {vs:List Value} {ns:List Int},IntsAre vs ns->∀ae,dw ae (ns.map AV.int) vs:=fun h ae=>by
   induction h with
   |nil=>exact(bC ..).mpr rfl
   |cons n t _ ih=>exact(aW ..).mpr ⟨_,_,rfl,⟨_,rfl⟩,ih⟩
  refine bh (S3.eJ (o:=.list ((ns.take i.toNat).map AV.int)) F4 N4 hd ⟨vs.take i.toNat,0,by rw[kms_pick_eq,A8 _ h0],by rw[List.map_take];exact(vi hi _).take _⟩) ?_;intro S4 K4
  exact k (.ref _) (.ref _) _ _ _ _ S4 (((K1.trans K2).trans K3).trans K4) rfl (q _ (S3.off hd))
theorem OR.OW{K':Frag}{ae:dy}{o:AO}{ob:Obj}(h:OR { G with K:=K' } ae o ob):OR G ae o ob:=by
 induction o generalizing ob with
 |ro _ _ ih=>exact⟨h.1,ih h.2⟩
 |bX _=>
  refine jy (h) fun h1 CX ep xs h2 h3 h4 h5=>?_;clear h
  exact⟨h1,CX,ep,xs,h2,h3,h4,h5⟩
 |_=>exact h
theorem St.OW{K':Frag}{h₀ h:Heap}{L:Addr}{mm:Str->Option Value}{ae:dy}(S:St { G with K:=K' } h₀ L mm H ae h):St G h₀ L mm H ae h:=
 ⟨S.fr,S.nw,S.nd,fun a o q=>by(refine aA (S.hr a o q) fun ob z1 z2=>?_);exact⟨ob,z1,z2.OW⟩,S.lo⟩
theorem dw.strs{ae:dy}:∀ {ns:List Str} {vs:List Value},dw ae (ns.map AV.str) vs->StrsAre vs ns:=by
 intro zz
 induction zz with
 |nil=>
  intro vs h
  rw[(bC ..).mp h];exact .nil
 |cons n ns ih=>
  intro vs h
  refine aE ((aW ..).mp h) fun v r ak h1 h2=>?_;(clear h;subst ak)
  refine aY (h1) fun t ak=>?_;clear h1;subst ak
  exact .cons _ _ (ih h2)
theorem Cn{l:Addr}{ns:List Str}{i:Str}{Q:Bool->ah->Prop}(hl:H l=some (.list (ns.map AV.str)))(h:Q (ns.any (·==i)) H):cS G D .In (.str i) (.ref l) H Q where
 go:=fun c ok mm ae s St va vb ha hb Q' E k=>by
  have:vb=.ref l:=hb
  clear hb;subst this
  refine aY (ha) fun t ak=>?_;clear ha;subst ak
  refine aN (St.get hl) fun ob hm ak hg=>?_;refine bi (ak) fun vs n cu eF=>?_;clear ak;(clear hg;subst cu)
  exact in_list_strs (St.nw.isList hm) eF.strs (k _ H ae s.heap _ St aO.rfl h)
theorem DQ{l:Addr}{ns:List Int}{i:Int}{Q:Bool->ah->Prop}(hl:H l=some (.list (ns.map AV.int)))(h:Q (!ns.any (·==i)) H):cS G D .NotIn (.int i) (.ref l) H Q where
 go:=fun c ok mm ae s St va vb ha hb Q' E k=>by
  have:vb=.ref l:=hb
  clear hb;subst this
  refine aY (ha) fun t ak=>?_;clear ha;subst ak
  refine aN (St.get hl) fun ob hm ak hg=>?_;refine bi (ak) fun vs n cu eF=>?_;clear ak;(clear hg;subst cu)
  exact notin_list_ints (St.nw.isList hm) eF.ints (k _ H ae s.heap _ St aO.rfl h)
theorem GB{a b:Bool}{Q:Bool->ah->Prop}(h:Q (a==b) H):cS G D .Eq (.bool a) (.bool b) H Q where
 go:=fun c ok mm ae s St va vb ha hb Q' E k=>by
  have:va=.bool a:=ha
  clear ha;subst this
  have:vb=.bool b:=hb
  clear hb;subst this
  exact PyProof.Rows.eq_bool (k _ H ae s.heap s.toks St aO.rfl h)
theorem Gc{l:Addr}{Q:Bool->ah->Prop}(h:Q false H):cS G D .Is (.ref l) .none H Q where
 go:=fun c ok mm ae s St va vb ha hb Q' E k=>by
  have:va=.ref l:=ha
  clear ha;subst this
  have:vb=.none:=hb
  clear hb;subst this
  exact PyProof.Rows.is_none_ne (fun z=>nomatch z) (k _ H ae s.heap s.toks St aO.rfl h)
theorem pL{l:Addr}{a:AV}{xs:List PyData}{d:PyData}{Q:Bool->ah->Prop}(hl:DA H (.list xs) (.ref l))(ha:DA H d a)(hx:PyData.canLayAll0 xs=true)(hd:d.canLay0=true)(hz:d.depth<=4)(h:Q (xs.any fun y=>PyData.eqv y d) H):cS G (D+8) .In a (.ref l) H Q where
 go:=fun c ok mm ae s S va vb OL OK Q' E k=>by
  refine aY (ha.reads S OL) fun _ ra=>?_
  refine aY (hl.reads S OK) fun _ rl=>?_
  exact PySem.SeqAt.in_list_reads rl ra hx hd (by have:=ok.units;have:=Nat.min_le_right (PyData.depthAll xs) d.depth;exact Rv hz ‹_›) (k _ H ae s.heap s.toks S aO.rfl h)
theorem Gx{l:Addr}{o:AO}{es:List (Str×AV)}{i:Str}{Q:Bool->ah->Prop}(hl:H l=some o)(ho:o.view=.bq es)(hd:o.wM=true)(h:Q (es.lookup i).isSome H):cS G D .In (.str i) (.ref l) H Q where
 go:=fun c ok mm ae s St va vb ha hb Q' E k=>by
  have:vb=.ref l:=hb
  clear hb;subst this
  refine aY (ha) fun t ak=>?_;clear ha;subst ak
  refine aN (St.get hl) fun ob hm kr hg=>?_
  have hZ:=kr.view
  rw[ho]at hZ
  refine aA (hZ) fun kvs hd2 hr=>?_;clear hZ
  refine kda_in St.nw hm hd2 (St.lo l _ hl hd) (strKind_is _ _ _ _) (es.lookup i).isSome ?_ (k _ H ae s.heap _ St aO.rfl h)
  cases e:es.lookup i with
  |none=>rw[hr.none e];rfl
  |some a=>(refine aA (hr.at e) fun v e1 _=>?_);rw[e1];rfl
theorem D5{x:Str}{i c:Nat}{Q:AQ}(hx:x.cps[i]?=some c)(hz:i<1000000)(h:Q (.str ⟨#[c]⟩) H):WI G D (.str x) (.int (i:Int)) H Q where
 go:=fun cx ok mm ae s S va vi ha hi Q' E k=>by
  refine aY (ha) fun t ak=>?_;clear ha;subst ak
  refine aY (hi) fun u ak=>?_;clear hi;subst ak
  refine⟨?_,"str","str.__getitem__",rfl,PySem.F.slot_str_getitem.lookup⟩
  have iP:i<x.length:=by
   rw[Array.getElem?_eq_some_iff]at hx
   exact hx.1
  exact PySem.P.getItem_str (c:=c) (by rw[decide_eq_false (by lia),decide_eq_false (by lia)];rfl) (by rw[gA (Int.natCast_nonneg i) (by simpa using iP)];simpa using hx) (k _ _ H ae s.heap _ S aO.rfl (by exact⟨_,rfl⟩) h)
theorem np.mulL{l:Addr}{xs:List AV}{n:Int}{Q:AQ}(hl:H l=some (.list xs))(h1:xs.length=1)(h0:0<=n)(hn:n<=1000)(h:∀d,H d=none->Q (.ref d) (H.put d (.list (List.replicate n.toNat xs).flatten))):np G D .Mult false (.ref l) (.int n) H Q where
 go:=fun c ok mm ae s S va vb ha hb Q' E k=>by
  have:va=.ref l:=ha
  clear ha;subst this
  refine aY (hb) fun u ak=>?_;clear hb;subst ak
  refine aN (S.get hl) fun o1 m1 ak g1=>?_;refine bi (ak) fun vs nn cu hv=>?_;clear ak;(clear m1;subst cu)
  have BA:vs.length=1:=hv.length.trans h1
  refine PyProof.Rows.mul_list S.fr S.nw g1 (by lia) (by lia) (by rw[List.size_toArray,BA];lia) (fun h' F N=>?_)
  have e0:vs.toArray.isEmpty=false:=by
   clear N F h' g1 hv nn k S ae ok c h hn h0 h1 hl n xs;cases vs with
   |nil=>cases BA
   |cons v r=>rfl
  rw[e0,if_neg jx]at N
  have app:∀ (k:Nat) (acc:List Value) (as:List AV),dw ae as acc->dw ae (as++(List.replicate k xs).flatten) ((List.replicate k vs.toArray).foldl (fun x1 x2=>x1++x2) acc.toArray).toList:=fun k=>by
   induction k with
   |zero=>intro acc as q;simpa using q
   |succ k ih=>
    intro acc as q
    rw[List.replicate_succ,List.replicate_succ,List.foldl_cons,List.flatten_cons,←List.append_assoc]
    have:=ih (acc++vs) (as++xs) (q.app hv)
    simpa using this
  have q:=app n.toNat [] [] ((bC ..).mpr rfl)
  refine bh (S.eJ (o:=.list (List.replicate n.toNat xs).flatten) F N (aq S.nw) ⟨((List.replicate n.toNat vs.toArray).foldl (fun x1 x2=>x1++x2) #[]).toList,0,by rw[Array.toArray_toList],by simpa using q⟩) fun S2 K2=>?_
  exact k (.ref _) (.ref _) _ _ _ _ S2 K2 rfl (h _ (S.off (aq S.nw)))
theorem GC{l r:Addr}{xs ys:List AV}{Q:AQ}(hl:H l=some (.list xs))(hr:H r=some (.list ys))(eG:ys.length≠0)(hz:xs.length+ys.length<=100000)(h:Q .none (H.put l (.list (xs++ys)))):WB G D (.builtin "list.extend") [.ref l,.ref r] H Q where
 go:=fun c ok mm ae s S vals hv Q' E k=>by
  refine aE (jI hv) fun v w ak h1 h2=>?_;(clear hv;subst ak)
  have:v=.ref l:=h1
  clear h1;subst this
  have:w=.ref r:=h2
  clear h2;subst this
  refine aN (S.get hl) fun o1 m1 ak g1=>?_;refine bi (ak) fun vs n cu eF=>?_;clear ak;(clear g1;subst cu)
  refine aN (S.get hr) fun o2 m2 ak g2=>?_;refine bi (ak) fun ws n2 cu TF=>?_;clear ak;(clear g2;subst cu)
  have l1:=eF.length
  have l2:=TF.length
  refine dF (fO (listOf (vs++ws).toArray (n+1)) S.nd m1) fun n' U hk u1 u2 _=>?_
  refine kl_extend (l:=vs++ws) S.fr S.nw m2 rfl (by rw[show ws.toArray.toList=ws from rfl,l2];exact eG) U (fun z=>?_) (by show vs.length<=_;rw[l1,sizeLine_eq];exact Ru hz) (by rw[List.size_toArray,List.size_toArray,l1,l2,sizeLine_eq];(exact d6 ‹_› (cm rfl))) (fun h' F N=>?_)
  ·rw[Bool.and_eq_true]at z
   have:=z.2
   rw[List.size_toArray,List.size_toArray,l1,l2]at this
   simp[Builtin.List.listTooLong,sizeLine]at this
   exact Rt hz this
  ·refine ci (S.upd (o':=.list (xs++ys)) hl m1 F N hk u1 u2 ⟨_,n+1,rfl,eF.app TF⟩) fun S' K' _=>?_
   exact k .none .none _ n' h' _ S' K' rfl h
theorem FP{xs:List AV}{Q:AQ}(h:Q (.bool true) H):WB G D (.builtin "isinstance") [.tup xs,.raw (.type "tuple")] H Q where
 go:=fun c ok mm ae s S vals hv Q' E k=>by
  refine aE (jI hv) fun v w ak h1 h2=>?_;(clear hv;subst ak)
  have:w=.type "tuple":=h2
  clear h2;subst this
  refine aE ((ee ..).mp h1) fun t vs ak hm eF=>?_;(clear eF h1 xs;subst ak)
  exact PyProof.Rows.call_isinstance_yes (Tx:="tuple") ⟨_,(S.nw _ hm).1,rfl⟩ F.isi_meta_tuple F.sub_tuple_tuple (k (.bool true) (.bool true) H ae s.heap _ S aO.rfl rfl h)
theorem Gb{i:Int}{Q:AQ}(h:Q (.bool false) H):WB G D (.builtin "isinstance") [.int i,.raw (.type "tuple")] H Q where
 go:=fun c ok mm ae s S vals hv Q' E k=>by
  refine aE (jI hv) fun v w ak h1 h2=>?_;(clear hv;subst ak)
  have:w=.type "tuple":=h2
  clear h2;subst this
  refine aY (h1) fun t ak=>?_;clear h1;subst ak
  exact PySem.IsiPair.int_tuple (k (.bool false) (.bool false) H ae s.heap _ S aO.rfl rfl h)
theorem Eb{Q:AQ}(h:Q (.bool false) H):WB G D (.builtin "isinstance") [.none,.raw (.type "tuple")] H Q where
 go:=fun c ok mm ae s S vals hv Q' E k=>by
  refine aE (jI hv) fun v w ak h1 h2=>?_;(clear hv;subst ak)
  have:w=.type "tuple":=h2
  clear h2;subst this
  have:v=.none:=h1
  clear h1;subst this
  exact PySem.IsiPair.NoneType_tuple (k (.bool false) (.bool false) H ae s.heap _ S aO.rfl rfl h)
theorem WI.bX{l:Addr}{es:List (List Atom×AV)}{k:List Atom}{a:AV}{Q:AQ}(hl:H l=some (.bX es))(he:es.lookup k=some a)(h:Q a H):WI G (D+1) (.ref l) (.tup (k.map Atom.av)) H Q where
 go:=fun c ok mm ae s S va vi ha hi Q' E kk=>by
  have:va=.ref l:=ha
  clear ha;subst this
  refine aE ((ee ..).mp hi) fun t vs ak hm eF=>?_;(clear hi;subst ak)
  refine aE (lx.dictOf S hl) fun ob xs Bt hD hT=>?_
  refine aA (hT.has he) fun p e1 e2=>?_
  exact⟨wpAny_getItem_heap (knd:=tK G) (tupleKind_room_in1 (by have:=ok.units;exact B9 this)) (oD S.nw hm eF) hD e1 (kk _ a H ae s.heap _ S aO.rfl e2 h),"dict","dict.__getitem__",hD.typeIs,PySem.F.slot_dict_getitem.lookup⟩
theorem DX{l:Addr}{es:List (List Atom×AV)}{k:List Atom}{Q:Bool->ah->Prop}(hl:H l=some (.bX es))(h:Q (es.lookup k).isSome H):cS G (D+1) .In (.tup (k.map Atom.av)) (.ref l) H Q where
 go:=fun c ok mm ae s S va vb ha hb Q' E kk=>by
  have:vb=.ref l:=hb
  clear hb;subst this
  refine aE ((ee ..).mp ha) fun t vs ak hm eF=>?_;(clear ha;subst ak)
  refine aE (lx.dictOf S hl) fun ob xs Bt hD hT=>?_
  refine PySem.wpAny_in_heap (knd:=tK G) (tupleKind_room_in1 (by have:=ok.units;exact B9 this)) (oD S.nw hm eF) (S.lo l _ hl rfl) hD ?_
  cases e:es.lookup k with
  |some a=>
   refine aA (hT.has e) fun p e1 e2=>?_
   rw[e]at h
   rw[e1]
   exact kk _ H ae s.heap _ S aO.rfl h
  |none=>
   rw[e]at h
   rw[hT.miss e]
   exact kk _ H ae s.heap _ S aO.rfl h
theorem rZ{prog:Program}{w:World}{A:Around}{E:Value->Shared->Prop}{s:Shared}{Q:Int->Shared->Prop}(h:∀i tk,Q i { s with toks:=tk }):wpAny (model prog w) A (pyHash .none) Q E s:=by
 have hT:s.TypeIs .none "NoneType":=rfl
 unfold pyHash
 have hv:[Value.none].any Value.onHeap=false:=rfl
 refine wpAny_bind ?_
 rw[cRoomFor,if_neg (by rw[hv];exact jx)];refine wpAny_pure ?_
 refine wpAny_bind (wpAny_specialOf hT PySem.F.slot_NoneType_hash.lookup ?_)
 show wpAny _ _ (if(some (Value.builtin "NoneType.__hash__")==some Value.none)=true then _ else _) Q E s
 rw[if_neg (by rw[beq_builtin_none];exact jx)]
 refine wpAny_bind (wpAny_specialOf hT PySem.F.slot_NoneType_hash.lookup ?_)
 show wpAny _ _ (callSpecialIfBoundUnlessNone? .none "__hash__" _ >>= _) Q E s
 refine wpAny_bind (wpAny_callSpecialIfBoundUnlessNone?_slot hT PySem.F.slot_NoneType_hash
  (wpAny_call_entry PySem.F.slot_NoneType_hash hT PySem.F.entry_NoneType_hash
   (show wpAny _ _ (do ret (←mkInt 0xFCA86420)) _ _ s from wpAny_ret_mkInt ?_) (PySem.F.args_NoneType_hash_1 _)))
 show wpAny _ _ (if(decide (-(2:Int) ^ 63<=0xFCA86420)&&decide ((0xFCA86420:Int)<2 ^ 63))=true then _ else _) Q E _
 rw[if_pos (by decide)]
 exact wpAny_pure (h _ _)
section
variable{prog:Program}{w:World}{K:Type}[DecidableEq K]{knd:HeapKind prog w K}{A:Around}{E:Value->Shared->Prop}{s:Shared}
theorem uv{d:Addr}{o:Obj}{es ep}{xs:List (K×Addr×Value)}{h:Int}{Q:Option Nat->Shared->Prop}
 (ho:s.heap.get? d=some o) (hd:o.data=.dict es ep) (he:es.toList=xs.map (entryOfKey knd)) (rz:∀x∈xs,knd.is s.heap x.1 x.2.1)
 (heq:∀x∈xs,∀ (Q:Bool->Shared->Prop) E,Q false s->wpAny (model prog w) A (eqBool (.ref x.2.1) .none) Q E s) (hQ:Q none s):
 wpAny (model prog w) A (dictFind d .none h) Q E s:=by
 have kn:=nX (s:=s) he rz (placesWithHash es.size (fun i=>es[i]?.map (·.hash)) h)
 have CU:∀b,(Value.ref b==Value.none)=false:=fun b=>rfl
 have JZ:carriedByValue .none=true:=rfl
 have Bs:=fun hc=>mC (key:=.none) kn hc
 have EG:=pQ CU kn
 have hq:=fun (Q:Bool->Shared->Prop) (h:Q false s)=>mB (w:=w) (A:=A) (E:=E) JZ kn h
 clear kn CU JZ
 unfold dictFind
 try with_reducible refine wpAny_holding ?_
 refine wpAny_bind (wpAny_dictEntries ho hd ?_)
 dsimp only
 refine qn (fun hc=>?_) (fun hc=>?_)
 ·replace Bs:=Bs hc
  clear EG heq hq hc
  unfold dictWalkPlain
  refine wpAny_bind ?_
  refine wpAny_forIn_list _ (fun au r s'=>s'=s/\r=(none,())/\∀i∈au,es[i]?=none) _ ?_ ?_ _ _ ⟨rfl,rfl,Bs⟩
  ·intro i;intro au;intro r;intro s';intro ak;refine ci (ak) fun cu nP hr=>?_;clear ak;(clear hQ rz he hd ho xs o;subst cu);subst nP
   rw[hr i (.head _)]
   exact wpAny_pure ⟨rfl,rfl,fun j hj=>hr j (.tail _ hj)⟩
  ·intro r;intro s';intro ak;refine ci (ak) fun cu nP _=>?_;clear ak;(clear rz he hd ho xs o d;subst cu);subst nP
   exact wpAny_pure hQ
 ·clear Bs hc
  refine cX EG ?_
  refine wpAny_bind (hq _ ?_)
  refine cX jx ?_
  refine wpAny_bind ?_
  refine wpAny_forIn_list _ (fun au b s'=>s'=s/\b=(none,none)) _ ?_ ?_ _ _ ⟨rfl,rfl⟩
  ·intro i;intro au;intro b;intro s';intro ak;refine bh (ak) fun cu nP=>?_;clear ak;(clear hq hQ rz;subst cu);subst nP
   cases JV:es[i]? with
   |none=>exact wpAny_pure ⟨rfl,rfl⟩
   |some e=>
    dsimp only
    refine qn (fun _=>?_) (fun _=>wpAny_pure ⟨rfl,rfl⟩)
    refine aA (o8 he JV) fun x hx ak=>?_;(clear JV;subst ak)
    refine wpAny_bind (wpAny_dictEpoch ho hd (wpAny_bind (heq x hx _ _ (wpAny_bind (wpAny_dictEpoch ho hd ?_)))))
    refine cX (by simp) (cX jx (wpAny_bind (wpAny_rule ?_)))
    exact cX jx (wpAny_pure ⟨rfl,rfl⟩)
  ·intro b;intro s';intro ak;refine bh (ak) fun cu nP=>?_;clear ak;(clear hq EG heq rz he hd ho h xs es o d;subst cu);subst nP
   exact wpAny_pure hQ
theorem pH{d:Addr}{xs:List (K×Addr×Value)}{Q:Option Value->Shared->Prop}(hD:s.heap.DictOfH knd d xs)
 (heq:∀x∈xs,∀ (s':Shared),s'.heap=s.heap->∀ (Q:Bool->Shared->Prop) E,Q false s'->wpAny (model prog w) A (eqBool (.ref x.2.1) .none) Q E s') (hQ:∀tk,Q none { s with toks:=tk }):wpAny (model prog w) A (dictGet d .none) Q E s:=by
 refine iz (hD) fun o es ep ho _ hd he rz hn=>?_;clear hD
 unfold dictGet
 try with_reducible refine wpAny_holding ?_
 refine wpAny_bind (rZ fun h tk=>?_)
 refine wpAny_bind (uv (s:={ s with toks:=tk }) ho hd he rz (fun x hx Q E q=>heq x hx { s with toks:=tk } rfl Q E q) ?_)
 exact wpAny_pure (hQ _)
theorem sD{d:Addr}{key:Value}{o:Obj}{Q:Value->Shared->Prop}(hT:s.TypeIs (.ref d) "dict")(hd:(d==sysModules)=false)
 (hg:∀ (Q:Option Value->Shared->Prop) E,(∀tk,Q none { s with toks:=tk })->wpAny (model prog w) A.in1 (dictGet d key) Q E s) (h:∀tk,Q (.bool false) { s with toks:=tk }):wpAny (model prog w) A (compareOp .In key (.ref d)) Q E s:=by
 show wpAny _ _ (do return .bool (←contains (.ref d) key)) Q E s
 refine wpAny_bind ?_
 unfold contains
 try with_reducible refine wpAny_holding ?_
 refine wpAny_bind (wpAny_specialOf hT PySem.slot_dict_contains.lookup ?_)
 show wpAny _ _ (if(some (Value.builtin "dict.__contains__")==some Value.none)=true then _ else _) _ E s
 rw[if_neg (by rw[beq_builtin_none];exact jx)]
 refine wpAny_bind (wpAny_callSpecialUnlessNone?_slot (name:=Str.ofString "__contains__") hT PySem.slot_dict_contains
  (wpAny_call_entry PySem.slot_dict_contains hT PySem.entry_dict_contains ?_ (PySem.args_dict_contains _ _)))
 show wpAny _ _ (dictGet d key >>= _) _ _ s
 refine wpAny_bind (hg _ _ fun tk=>?_)
 show wpAny _ _ (Builtin.Dict.pendingKey? d key >>= _) _ _ _
 exact wpAny_bind (wpAny_pendingKey_other hd (wpAny_pure ⟨_,rfl,wpAny_truthy_bool (wpAny_pure (h tk))⟩))
end
theorem nj{h₀:Heap}{L:Addr}{mm:Str->Option Value}{ae:dy}{A:Around}{s:Shared}(S:St G h₀ L mm H ae s.heap){t:Addr}{vs:List Value}{k:List Atom}(hm:(t,aK vs)∈ae)(hv:dw ae (k.map Atom.av) vs)(hs:SeqAt.shaped (.tuple (k.map Atom.dat))=true)
 (hu:A.units+64<cLine) {Q:Bool->Shared->Prop} {E:Value->Shared->Prop} (q:Q false s):wpAny (model G.prog G.w) A (eqBool (.ref t) .none) Q E s:=by
 refine aY (mF S hv) fun rs Qq=>?_
 have ra:Reads s.heap (.ref t) (.tuple (k.map Atom.dat)) rs:=.tuple (vs:=vs.toArray) (n:=0) (S.nw _ hm).1 rfl rfl (by simpa using Qq)
 unfold eqBool
 try with_reducible refine wpAny_holding ?_
 rw[if_neg (by rw[show(Value.ref t==Value.none)=false from rfl];exact jx)]
 show wpAny (model G.prog G.w) A (richCompare .Eq (.ref t) .none >>= fun r=>truthOfDropped r) Q E s
 refine wpAny_bind ?_
 have:=eq_dataH (prog:=G.prog) (w:=G.w) (A:=A) (E:=E) (s:=s) (Q:=fun v s'=>wpAny (model G.prog G.w) A (truthOfDropped v) Q E s') ra .none hs (by(rfl)) hu (by rw[show PyData.eqv (.tuple (k.map Atom.dat)) .none=false by simp[PyData.eqv]];exact wpAny_truthy_bool q)
 exact this
theorem GK{l:Addr}{es:List (List Atom×AV)}{Q:Bool->ah->Prop}(hl:H l=some (.bX es))(hs:∀p∈es,SeqAt.shaped (.tuple (p.1.map Atom.dat))=true)(h:Q false H):cS G (D+9) .In .none (.ref l) H Q where
 go:=fun c ok mm ae s S va vb ha hb Q' E kk=>by
  have:vb=.ref l:=hb
  clear hb;subst this
  have:va=.none:=ha
  clear ha;subst this
  refine aE (lx.dictOf S hl) fun ob xs Bt hD hT=>?_
  refine sD (o:=ob) hD.typeIs (S.lo l _ hl rfl) (fun Q E q=>pH hD (fun y hy OU EC Q E q=>?_) q) fun tk=>kk _ H ae s.heap tk S aO.rfl h
  refine vH (hT.keys y hy) fun p hp vs e1 e2 e3=>?_
  have Ss:St G c.h₀ c.L mm H ae OU.heap:=by rw[EC];exact S
  refine nj Ss e2 e3 (hs p hp) ?_ q
  have:=ok.units
  show c.A.units+1+64<cLine
  exact KG this
theorem Gh{l:Addr}{es:List (List Atom×AV)}{i:Int}{Q:Bool->ah->Prop}(hl:H l=some (.bX es))(eG:es≠[])(hs:∀p∈es,SeqAt.shaped (.tuple (p.1.map Atom.dat))=true)(h:Q false H):cS G (D+9) .In (.int i) (.ref l) H Q where
 go:=fun c ok mm ae s S va vb ha hb Q' E kk=>by
  have:vb=.ref l:=hb
  clear hb;subst this
  refine aY (ha) fun t ak=>?_;clear ha;subst ak
  refine aE (lx.dictOf S hl) fun ob xs Bt hD hT=>?_
  have Qi:xs≠[]:=fun z=>by have:=hT.length;rw[z]at this;exact eG (List.length_eq_zero_iff.mp this.symm)
  refine sD (o:=ob) hD.typeIs (S.lo l _ hl rfl) (fun Q E q=>rg (.inl ⟨_,_,rfl⟩) Qi hD (fun y hy OU EC Q E q=>?_) q) fun tk=>kk _ H ae s.heap tk S aO.rfl h
  refine vH (hT.keys y hy) fun p hp vs e1 e2 e3=>?_
  have Ss:St G c.h₀ c.L mm H ae OU.heap:=by rw[EC];exact S
  refine o5 Ss e2 e3 (hs p hp) (dk:=.int i) (.int i t) (by(rfl)) rfl (by simp[PyData.eqv]) (.inl ⟨_,_,rfl⟩) ?_ q
  have:=ok.units
  show c.A.units+1+64<cLine
  exact KG this
noncomputable def fv(a b:Int)(t u v:Tok):Obj:={ cls:=.type "range",dict:=none,data:=.fields #[.int a t,.int b u,.int 1 v],slots:=#[] }
noncomputable def mH(n:Nat):List AV:=(List.range n).map fun (i:Nat)=>AV.int ((i:Int)+1)
theorem Ci{a b:Int}{Q:AQ}(h:∀l t u v,H l=none->Q (.ref l) (H.put l (.ro .ni (fv a b t u v)))):WB G D (.type "range") [.int a,.int b] H Q where
 go:=fun c ok mm ae s S vals hv Q' E k=>by
  refine aE (jI hv) fun v w ak h1 h2=>?_;(clear hv;subst ak)
  refine aY (h1) fun t ak=>?_;clear h1;subst ak
  refine aY (h2) fun u ak=>?_;clear h2;subst ak
  refine call_range_2 ?_
  refine bh (S.eJ (d:=s.heap.objs.size) (ob:=fv a b t u s.toks) (o:=.ro .ni (fv a b t u s.toks)) (S.fr.push _) (S.nw.push S.fr _) (aq S.nw) ⟨rfl,rfl⟩) fun S2 K2=>?_
  exact k (.ref _) (.ref _) _ _ _ _ S2 K2 rfl (h _ _ _ _ (S.off (aq S.nw)))
theorem St.ro{h₀ h:Heap}{L:Addr}{mm:Str->Option Value}{ae:dy}(S:St G h₀ L mm H ae h){l:Addr}{o:AO}{ob:Obj}(hl:H l=some (.ro o ob)):(l,ob)∈ae/\h.get? l=some ob:=by
 refine aN (S.get hl) fun kj hm ak hg=>?_;refine bh (ak) fun cu _=>?_;clear ak;(clear hl S;subst cu)
 exact⟨hm,hg⟩
theorem GH{iter:Expr}{Q:AQ}(hx:sc.names.lookup x=some .local)(fj:sc.kind=.function)(cU:∀y∈sc.names,y.2≠.cell)
 (h:WE G D cs cl iter m H fun a H1=>∃l t u v,∃n:Nat,a=.ref l/\H1 l=some (.ro .ni (fv 1 ((n:Int)+1) t u v))/\n<=1000000/\fB G D cs cl sc bcl x elt none (fun acc H2=>∀d,H2 d=none->Q (.ref d) (H2.put d (.list acc))) (mH n) [] H1):fV G D cs cl sc bcl x elt iter m H Q:=by
 intro c h1 h2 ok mm ae s S lr px pos E RR k
 refine h.go c h1 h2 ok mm ae s S lr _ E fun v a H1 n1 cP tk S1 K1 V1 w=>?_
 refine qX (w) fun l t u vv n GV=>?_;clear w;refine gU (GV) fun ak hl hz w=>?_;clear GV;subst ak
 have:v=.ref l:=V1
 clear V1;subst this
 refine bh (S1.ro hl) fun hm hg=>?_
 refine wpAny_pyIter_range (s:={ s with heap:=cP,toks:=tk }) (a:=1) (b:=(n:Int)+1) (c:=1) hg (small_one (by lia) (by lia) (by lia) (by lia)) ?_
 have e1:Builtin.Range.rangeSize 1 ((n:Int)+1) 1=(n:Int):=by
  rw[PySem.rangeSize_one]
  split<;>(first|exact KE ‹_›|exact KD)
 rw[e1]
 have eG:l≠cP.objs.size:=aq S1.nw _ hm
 (refine bh (S1.push (d:=cP.objs.size) (ob:={ cls:=.type "range_iterator",data:=.fields #[rawInt 1,rawInt n,rawInt 1] }) (S1.fr.push _) (S1.nw.push S1.fr _) (aq S1.nw)) fun S2 K2=>?_)
 refine jz h1 h2 ok (Walks.range ok.handled cP.objs.size 1 1 n) (fun i h hh=>⟨_,hh,rfl⟩) hx fj cU (items:=mH n) (by simp[mH]) (by lia) (s:={ s with heap:=cP.push { cls:=.type "range_iterator",data:=.fields #[rawInt 1,rawInt n,rawInt 1] },toks:=tk }) S2 (.head _) (S1.off (aq S1.nw))
  (by show Heap.get? _ _=_;rw[Heap.get?_push_size _ rfl];simp) (fun i v a e1 e2=>?_) (fun b hb=>.inl (by simpa using hb)) (kp:=none) w E RR fun d C acc H' n' h' gg oC nm BF S3 HD C3 HC tw kk _ q=>?_
 ·refine aY (e1) fun t ak=>?_;clear e1;subst ak
  unfold mH at e2
  rw[List.getElem?_map]at e2
  cases q:(List.range n)[i]? with
  |none=>rw[q]at e2;(exact ax e2)
  |some p=>
   rw[q]at e2
   cases e2
   have:p=i:=by
    rw[List.getElem?_eq_some_iff]at q
    refine aY (q) fun q1 q2=>?_;clear q
    simpa using q2.symm
   clear q;subst this
   exact⟨t,by rw[show(1:Int)+(p:Int)*1=(p:Int)+1 by exact KC]⟩
 ·refine k d C _ n' h' gg oC nm BF S3 C3 HC tw (fun p hp e=>?_) (q d HD)
  refine bh (K1 p hp e) fun a1 a2=>?_
  exact kk p (.tail _ a1) (aq S1.nw p a1) a2
theorem FM{px pos:Pos}{iter:Expr}{body:List Stmt}{Q:Fl->bP->ah->Prop}(h:WE G D cs cl iter m H fun a H1=>∃l t u v,∃n:Nat,a=.ref l/\H1 l=some (.ro .ni (fv 1 ((n:Int)+1) t u v))/\n<=1000000/\dS G D cs cl x body none Q (mH n) m H1)
 (hx:autoParam (cs.names.lookup x=some .local) aR) (hs:autoParam (∀ (env:Env) (x:Value),foldedSetIterable iter env x=pure x) aJ):W1 G D cs cl (.For (.Name x px) iter body [] pos) m H Q where
 go:=fun c h1 h2 ok mm ae s S lr Q' E k=>by
  refine PySem.wpAny_For (h.go c h1 h2 ok mm ae s S lr _ E fun v a H1 n1 cP tk S1 K1 V1 w=>?_) (hs _)
  refine qX (w) fun l t u vv n GU=>?_;clear w;refine gU (GU) fun ak hl hz w=>?_;clear GU;subst ak
  have:v=.ref l:=V1
  clear V1;subst this
  refine bh (S1.ro hl) fun hm hg=>?_
  refine wpAny_pyIter_range (s:={ s with heap:=cP,toks:=tk }) (a:=1) (b:=(n:Int)+1) (c:=1) hg (small_one (by lia) (by lia) (by lia) (by lia)) ?_
  have e1:Builtin.Range.rangeSize 1 ((n:Int)+1) 1=(n:Int):=by
   rw[PySem.rangeSize_one]
   split<;>(first|exact KE ‹_›|exact KD)
  rw[e1]
  (refine bh (S1.push (d:=cP.objs.size) (ob:={ cls:=.type "range_iterator",data:=.fields #[rawInt 1,rawInt n,rawInt 1] }) (S1.fr.push _) (S1.nw.push S1.fr _) (aq S1.nw)) fun S2 K2=>?_)
  refine oV h1 h2 ok (Walks.range ok.handled cP.objs.size 1 1 n) hx (fun i h hh=>⟨_,hh,rfl⟩) (items:=mH n) (by simp[mH]) (s:={ s with heap:=cP.push { cls:=.type "range_iterator",data:=.fields #[rawInt 1,rawInt n,rawInt 1] },toks:=tk }) S2 (.head _) (S1.off (aq S1.nw)) (LR.keep S (K1.trans K2) lr)
   (by show Heap.get? _ _=_;rw[Heap.get?_push_size _ rfl];(rfl)) (fun i v a e1 e2=>?_) (fun b hb=>.inl (by simpa using hb)) (kp:=none) ⟨trivial,w⟩ Q' E fun f fl m' eZ H' n' h' gg S3 pu kk F3 kp q=>?_
  ·refine aY (e1) fun t ak=>?_;clear e1;subst ak
   unfold mH at e2
   rw[List.getElem?_map]at e2
   cases q:(List.range n)[i]? with
   |none=>rw[q]at e2;(exact ax e2)
   |some p=>
    rw[q]at e2
    cases e2
    have:p=i:=by
     rw[List.getElem?_eq_some_iff]at q
     refine aY (q) fun q1 q2=>?_;clear q
     simpa using q2.symm
    clear q;subst this
    exact⟨t,by rw[show(1:Int)+(p:Int)*1=(p:Int)+1 by exact KC]⟩
  ·have tz:aO H H' ae n':=fun p hp e=>by
    refine bh (K1 p hp e) fun a1 a2=>?_
    exact kk p (.tail _ a1) (aq S1.nw p a1) a2
   exact k f fl m' eZ H' n' h' gg S3 pu tz F3 q
theorem uM{e:Expr}{j:Int}{k0:Nat}{p0 p pos:Pos}{Q:AQ}(h:WE G D cs cl e m H fun v H1=>∃w,v=.str w/\w.length<=1000/\Q (.str (Txt.slice w none (some j))) H1)
 (ht:autoParam (∀o r,letTemporaryGo e o r=pure ()) aJ):WE G D cs cl (.Subscript e (.Slice none (some (.Constant (.int j) k0 p0)) none p) pos) m H Q where
 go:=fun c h1 h2 ok mm ae s S lr Q' E k=>by
  refine wpAny_Subscript_Slice (T:="str") PySem.F.slot_str_getitem.lookup (h.go c h1 h2 ok mm ae s S lr _ E fun va a H1 n1 cP tk S1 K1 V1 w=>?_) ht
  refine aN (w) ?_;clear w;intro w ak hz q;subst ak
  refine aY (V1) fun t ak=>?_;clear V1;subst ak
  refine wpAny_Slice ?_
  rw[evalPart_none,evalPart_some]
  refine wpAny_pure (wpAny_Constant_int ?_)
  refine wpAny_pure ⟨rfl,?_⟩
  (refine bh (S1.push (d:=cP.objs.size) (ob:={ cls:=.type "slice",data:=.fields #[.none,.int j tk,.none] }) (S1.fr.push _) (S1.nw.push S1.fr _) (aq S1.nw)) fun S2 K2=>?_)
  exact PySem.wpAny_getItem_str_slice (l:=none) (u:=some (j,tk)) (st:=none) ⟨_,Heap.get?_push_size _ rfl,rfl,rfl⟩ rfl
   (PySem.post_val_or_str ⟨d6 (Txt.slice_le w none (some j)) (by rw[sizeLine_eq];(exact d6 ‹_› (cm rfl))),fun t' kk=>k _ _ H1 _ _ kk S2 (K1.trans K2) (by exact⟨t',rfl⟩) q⟩)
noncomputable def U8:Const->Option Str
 |.str x=>some x
 |_=>none
noncomputable def uk(k:Option Expr):Option Str:=(k.bind Q3).bind U8
theorem wK{k:Option Expr}{x:Str}(h:uk k=some x):∃n p,k=some (.Constant (.str x) n p):=by
 obtain⟨c,q,r⟩:=Option.bind_eq_some_iff.mp h
 obtain⟨e,u,v⟩:=Option.bind_eq_some_iff.mp q
 obtain⟨n,p,w⟩:=z0 v
 rw[u,w]
 cases c<;>first|exact Option.some.inj r▸⟨n,p,rfl⟩|exact ax r
theorem yF{pos:Pos}:∀ {ks:List (Option Expr)} {xs:List Str} {es:List Expr} {H:ah} {Q:List AV->ah->Prop},ks.map uk=xs.map some->ks.length=es.length->kf G D cs cl es m H Q->∀c:Cx,c.cs=cs->c.cl=cl->c.Ok G D->∀ {mm ae s},St G c.h₀ c.L mm H ae s.heap->LR ae m mm->∀ (Q':List (Value×Value)->Shared->Prop) E,
 (∀vs as H' am h' tk,St G c.h₀ c.L mm H' am h'->aO H H' ae am->allStrKeys vs=true->(strPairs vs).map (·.1)=xs->PR am (xs.zip as) (strPairs vs)->Q as H'->Q' vs { s with heap:=h',toks:=tk })->
 wpAny (model G.prog G.w) c.A (evalPairs (pairTrees ks es c.env pos)) Q' E s:=by
 intro ks
 induction ks with
 |nil=>
  intro xs es H Q hk hl w c h1 h2 ok mm ae s S lr Q' E k
  cases es with
  |cons e r=>cases hl
  |nil=>
   cases xs with
   |cons x r=>cases hk
   |nil=>exact pairTrees_nil_walk (k [] [] H ae s.heap s.toks S aO.rfl rfl rfl rfl w)
 |cons k0 ks ih=>
  intro xs es H Q hk hl w c h1 h2 ok mm ae s S lr Q' E k
  cases es with
  |nil=>cases hl
  |cons e r=>
   cases xs with
   |nil=>cases hk
   |cons x xs=>
    rw[List.map_cons,List.map_cons,List.cons.injEq]at hk
    refine sQ (wK hk.1) fun n p ak=>?_;subst ak
    refine pairTrees_cons_walk (wpAny_Constant_str ?_)
    refine WE.go w c h1 h2 ok mm ae { s with toks:=s.toks+1 } S lr _ E fun v a H1 n1 h' tk S1 K1 V1 w1=>?_
    refine ih hk.2 (by simpa using hl) w1 c h1 h2 ok (s:={ s with heap:=h',toks:=tk }) S1 (LR.keep S K1 lr) _ E fun vs as H2 n2 h2 gI S2 K2 z1 z2 z3 q=>?_
    exact k _ (a::as) _ _ _ _ S2 (K1.trans K2) z1 (by show x::_=_;rw[z2]) ((fA ..).mpr ⟨v,_,rfl,S1.vr K2 V1,z3⟩) q
theorem Cl{keys:List (Option Expr)}{values:List Expr}{xs:List Str}{pos:Pos}{Q:AQ}(hk:keys.map uk=xs.map some)(hl:keys.length=values.length)(h0:keys≠[])(hz:keys.length<=15)(BJ:keys.all (·.isSome)=true)(hn:xs.Nodup)
 (h:∀d,H d=none->kf G D cs cl values m (H.put d (.bq [])) fun as H'=>H' d=some (.bq [])/\Q (.ref d) (H'.put d (.bq (xs.zip as)))):WE G D cs cl (.Dict keys values pos) m H Q where
 go:=fun c h1 h2 ok mm ae s S lr Q' E k=>by
  have TZ:H s.heap.objs.size=none:=S.off (aq S.nw)
  have lo:(s.heap.objs.size==sysModules)=false:=S.fr.notModules (modules_low ok.top.nolimit)
  have new:=Heap.DictOf.new (knd:=strKind G.prog G.w) s.heap
  refine aA (Heap.dictOf_iff.mp new) fun o ho Xx=>?_
  have eo:o={ cls:=.type "dict",data:=.dict #[] }:=Option.some.inj (ho.symm.trans (Heap.get?_push_size _ rfl))
  clear ho;subst eo
  (refine bh (S.eJ (d:=s.heap.objs.size) (ob:={ cls:=.type "dict",data:=.dict #[] }) (o:=.bq []) (S.fr.push _) (S.nw.push S.fr _) (aq S.nw) ⟨[],Xx,(g8 ..).mpr rfl⟩ (fun _=>lo)) fun S1 K1=>?_)
  refine wpAny_Dict_walk (knd:=strKind G.prog G.w) BJ hl h0 hz (yF hk hl (h _ TZ) c h1 h2 ok (s:={ s with heap:=s.heap.push { cls:=.type "dict",data:=.dict #[] } }) S1 (LR.keep S K1 lr) _ E fun vs as H' n' h' tk S2 K2 z1 z2 z3 q=>?_)
  refine aN (S2.get q.1) fun ob hm ak hg=>?_;refine aA (ak) fun kvs QD JF=>?_;clear ak
  have:kvs=[]:=(g8 ..).mp JF
  clear JF;subst this
  refine display_done_str z1 (z2▸hn) (Heap.dictOf_iff.mpr ⟨ob,hg,QD⟩) fun h3 hD hs=>?_
  refine aA (Heap.dictOf_iff.mp hD) fun o3 hZ QI=>?_
  refine aN (S2.change (o':=.bq (xs.zip as)) q.1 hm hZ (fun b x hb e=>hs.extBut b x hb e) ⟨_,QI,z3⟩) fun n3 S3 K3 _=>?_
  exact k (.ref _) (.ref _) _ n3 h3 _ S3 ((K1.trans K2).trans K3) rfl q.2
theorem Gq{x y:Str}{xp yp tp:Pos}{n:Nat}{e:Expr}{pos:Pos}{ca cb:Addr}{Q:Fl->bP->ah->Prop}(qR:cl.lookup x=some ca)(CV:cl.lookup y=some cb)(eG:ca≠cb)
 (h:WE G D cs cl e m H fun a H'=>∃u v,a=.tup [u,v]/\H' ca=some .dv/\H' cb=some .dv/\Q .next m ((H'.put ca (.cell u)).put cb (.cell v)))
 (hx:autoParam (cs.names.lookup x=some .cell) aR) (hy:autoParam (cs.names.lookup y=some .cell) aR)
 (hs:autoParam (∀env:Env,swapsWithSole [.Tuple [.Name x xp,.Name y yp] n tp] e pos.line env=pure false) aI)
 (hw:∀c:Cx,c.cs=cs->swappedStores [.Tuple [.Name x xp,.Name y yp] n tp] e c.env=pure none:=by intro c h;cases c;cases h;rfl):
 W1 G D cs cl (.Assign [.Tuple [.Name x xp,.Name y yp] n tp] e pos) m H Q where
 go:=fun c h1 h2 ok mm ae s S lr Q' E k=>by
  have Qk:=hw c h1
  clear hw;subst h1 h2
  refine Assign_Tuple (h.go c rfl rfl ok mm ae s S lr _ E fun va a H1 n1 h' tk S1 K1 V1 w=>?_) (hs _) Qk
  refine el (w) ?_;clear w;intro u v ak l1 l2 w;subst ak
  refine cQ (vW V1) fun t vu vv ak t1 t2 t3=>?_;(clear V1;subst ak)
  refine unpackN_ (s:={ s with heap:=h',toks:=tk }) S1.fr S1.nw (S1.nw.isTup t1) ok.handled rfl rfl fun h2 F2 N2=>?_
  have S2:St G c.h₀ c.L mm H1 n1 h2:=⟨F2,N2,S1.nd,S1.hr,S1.lo⟩
  refine aN (S2.get l1) fun oa ma Xy ga=>?_
  refine wpAny_bind (wpAny_holding (PyProof.Rows.assign_Name (wpAny_storeName_cell (env:=c.env) (s:={ s with heap:=h2,toks:=tk }) ok.kind hx qR ⟨oa,ga,Xy⟩ fun h3 hv Xs=>?_)))
  refine aA (hv) fun o3 g3 d3=>?_;clear hv
  refine aN (S2.change (o':=.cell u) l1 ma g3 (fun b x hb e=>Xs.extBut b x hb e) ⟨vu,d3,t2⟩) fun n3 S3 K3 rK=>?_
  refine aN (S3.get (show(H1.put ca (.cell u)) cb=some .dv from(aj _ _ eG.symm).trans l2)) fun ob mb xr gb=>?_
  refine wpAny_bind (wpAny_holding (PyProof.Rows.assign_Name (wpAny_storeName_cell (env:=c.env) (s:={ s with heap:=h3,toks:=tk }) ok.kind hy CV ⟨ob,gb,xr⟩ fun h4 TI Xr=>?_)))
  refine aA (TI) fun o4 g4 d4=>?_;clear TI
  refine aN (S3.change (o':=.cell v) ((aj _ _ eG.symm).trans l2) mb g4 (fun b x hb e=>Xr.extBut b x hb e) ⟨vv,d4,t3.sub rK⟩) fun n4 S4 K4 Hn=>?_
  have K:=(K1.trans K3).trans K4
  exact wpAny_pure (k .next .next _ _ _ n4 h4 _ S4 (LR.keep S K lr) K rfl w)
theorem Gy{f:Addr}{oc:Value}{od:Option Addr}{AD:Array (Option Value)}{name qual:Str}{params:Arguments}{body:List Stmt}{scope:Scope}{dV kV doc pm pz ct:Value}{an:Option Addr}{ns:List Str}{args:List AV}{z y:Str}{m':bP}{Q:AQ}
 (ho:G.K.lookup f=some ⟨oc,od,.func (fnOf name qual params body scope dV kV doc pm an pz ct),AD⟩) (J0:codeIn G.K pz qual=true)
 (jf:∀vals:List Value,vals.length=ns.length->bindArgs (fnOf name qual params body scope dV kV doc pm an pz ct) ⟨vals,[]⟩=pure (ns.zip vals))
 (zB:∀y∈ns,(scope.names.lookup y==some .local||scope.names.lookup y==some .cell)=true) (zC:∀n,cellsFrom n scope.names []=[(y,n+1),(z,n)]) (Qg:y≠z) (hz:scope.names.lookup z=some .cell) (hy:scope.names.lookup y=some .cell) (EM:scope.isCoroutine=false) (uo:scope.isGenerator=false) (hk:scope.kind=.function) (hlen:args.length=ns.length)
 (hu:(ns.zip args).reverse.lookup z=none/\(ns.zip args).reverse.lookup y=none)
 (hm:∀y∈m',(ns.zip args).reverse.lookup y.1=some y.2/\scope.names.lookup y.1=some .local)
 (h:∀ca cb,H ca=none->H cb=none->ca≠cb->WS G D scope [(y,cb),(z,ca)] body m' ((H.put ca .dv).put cb .dv) fun fl _ H'=>Q (lU fl) H'):WC G (D+1) (.ref f) args H Q where
 go:=fun c ok mm ae s S vals hv R k=>by
  have lv:vals.length=ns.length:=hv.length.trans hlen
  refine PySem.W.code_defC ok.below S.fr ok.qL S.nw ok.top ok.frames rfl ok.kind ho J0 (by have:=ok.depth;exact Sa this) (BindsTo.of_eq (jf vals lv)) (List.all_eq_true.mpr fun y hy=>zB y.1 (List.of_mem_zip hy).1) (by rw[zC];exact List.nodup_cons.mpr ⟨by simpa using Qg,List.nodup_cons.mpr ⟨List.not_mem_nil,List.nodup_nil⟩⟩) (fun g L' gQ tk cells FG F' N' CA B' X' T' lt=>?_) EM uo hk
  rw[zC]at CA
  refine aE (CA.two) fun Pf Ta ak wT hd2=>?_;(clear CA;subst ak)
  have N1:News g L' gQ ((L'+1,Ta)::ae):=fun p hp=>N' p (.tail _ hp)
  have N0:News g L' gQ ae:=fun p hp=>N1 p (.tail _ hp)
  have S0:St G g L' _ H ae gQ:=⟨F',N0,S.nd,S.hr,S.lo⟩
  have JT:∀p∈ae,p.1≠L'+1:=fun p hp=>Nat.ne_of_lt (Nat.lt_succ_of_lt (lt p hp))
  have look:∀x a,(ns.zip args).reverse.lookup x=some a->∃v,(ns.zip vals).reverse.lookup x=some v/\VR ae a v:=fun x a e=>by
   have:=jX (ns:=ns) hv [] [] (fun _ _ e=>ax e) x a (by simpa using e)
   simpa using this
  have CI:∀z,(ns.zip args).reverse.lookup z=none->(ns.zip vals).reverse.lookup z=none:=fun z e=>by
   have:=iJ (ns:=ns) (as:=args) (bs:=vals) (z:=z) [] [] hv.length.symm (fun _=>rfl) (by simpa using e)
   simpa using this
  have kz:(envOfC qual scope L' f pz).kindOf z≠some .local:=by
   show scope.names.lookup z≠_
   rw[hz]
   intro q
   cases q
  have ky:(envOfC qual scope L' f pz).kindOf y≠some .local:=by
   show scope.names.lookup y≠_
   rw[hy]
   intro q
   cases q
  rw[ke _ _ _ ky,CI _ hu.2]at wT
  rw[ke _ _ _ kz,CI _ hu.1]at hd2
  refine bh (S0.eJ (o:=.dv) F' N1 JT hd2 (by intro z;(exact bI z))) ?_;intro S1 K1
  have JS:∀p∈((L'+1,Ta)::ae),p.1≠L'+1+1:=fun p hp=>by
   rcases de hp with rfl|hp
   ·exact Nat.ne_of_lt (Nat.lt_succ_self _)
   ·exact Nat.ne_of_lt (Nat.lt_succ_of_lt (Nat.lt_succ_of_lt (lt p hp)))
  refine bh (S1.eJ (o:=.dv) F' N' JS wT (by intro z;(exact bI z))) ?_;intro S2 K2
  have Bc:Cx.Ok G D ⟨c.A,c.A.deeper (envOfC qual scope L' f pz),c.base,g,c.env::c.outer,L',qual,scope,f,pz,cellsFrom (L'+1) scope.names []⟩:={
   below:=B'
   qL:=X'
   top:=T'
   frames:=Around.frames_deeper ok.frames
   kind:=hk
   depth:=by have:=ok.depth;rw[depth_deeper];exact Ot this
   units:=by have:=ok.units;rw[units_deeper];exact RF this
   handled:=ok.handled }
  refine(h (L'+1) (L'+1+1) (S0.off JT) (S0.off fun p hp=>JS p (.tail _ hp)) (Nat.ne_of_lt (Nat.lt_succ_self _))).go _ rfl (zC _) Bc _ _ { s with heap:=gQ,toks:=tk } S2 (fun x a e=>?_) _ _ fun fl af VQ eZ H' n' h' gg S3 CL K3 F2 q=>?_
  ·refine bh (hm _ (g5 e)) fun e1 e2=>?_
   refine aA (look _ _ e1) fun v e3 e4=>?_
   refine⟨v,?_,(e4.sub dJ).sub dJ⟩
   rw[mP _ _ _ (show(envOfC qual scope L' f pz).kindOf x=some .local from e2),e3]
   rfl
  ·refine leaveK_ S3.fr S3.nw fun FF NN=>?_
   have V:VR n' (lU af) (nH fl):=FR.val F2
   exact k _ (lU af) H' n' h' gg ⟨FF,NN,S3.nd,S3.hr,S3.lo⟩ ((K1.trans K2).trans K3) V q
theorem yv{H:ah}{a:Addr}{o:AO}(h:H a=some o):H.put a o=H:=by
 funext b
 by_cases z:b=a
 ·rw[z,al,h]
 ·exact aj _ _ z
theorem v3{o:AO}{xs:List AV}(h:o.view=.list xs):o=.list xs∨∃ob,o=.ro (.list xs) ob:=by
 cases o with
 |ro x ob=>exact .inr ⟨ob,by rw[show x=.list xs from h]⟩
 |list ys=>exact .inl h
 |_=>cases h
theorem DY{iter:Expr}{Q:AQ}(hx:sc.names.lookup x=some .local)(fj:sc.kind=.function)(cU:∀y∈sc.names,y.2≠.cell)
 (h:WE G D cs cl iter m H fun a H1=>∃l o xs,a=.ref l/\H1 l=some o/\o.view=.list xs/\xs.length<=1000000/\∀ob,fB G D cs cl sc bcl x elt (some (l,.ro (.list xs) ob)) (fun acc H2=>∀d,(H2.put l o) d=none->Q (.ref d) ((H2.put l o).put d (.list acc))) xs [] (H1.put l (.ro (.list xs) ob))):fV G D cs cl sc bcl x elt iter m H Q:=by
 intro c h1 h2 ok mm ae s S lr px pos E RR k
 refine h.go c h1 h2 ok mm ae s S lr _ E fun v a H1 n1 cP tk S1 K1 V1 w=>?_
 refine qd (w) ?_;clear w;intro l o xs ak hl ho hz w;subst ak
 have:v=.ref l:=V1
 clear V1;subst this
 refine aN (S1.get hl) fun ob hm xr hg=>?_
 have hv:=xr.view
 rw[ho]at hv
 refine bi (hv) ?_;clear hv;intro vs ep ak hv;subst ak
 have hL:cP.IsList l vs.toArray:=⟨_,hg,rfl,ep,rfl⟩
 refine wpAny_pyIter_list (s:={ s with heap:=cP,toks:=tk }) hL ?_
 have eG:l≠cP.objs.size:=aq S1.nw _ hm
 have eo:o=.list xs∨o=.ro (.list xs) (listOf vs.toArray ep):=(v3 ho).imp id fun ⟨kj,e⟩=>by
  clear ho hl;subst e
  exact congrArg _ xr.1.symm
 have SF:St G c.h₀ c.L mm (H1.put l (.ro (.list xs) (listOf vs.toArray ep))) n1 cP:=by
  clear xr ho;rcases eo with rfl|rfl
  ·exact S1.freeze hl hm
  ·rw[yv hl];exact S1
 (refine bh (SF.push (d:=cP.objs.size) (ob:={ cls:=.type "list_iterator",data:=.fields #[.ref l,.int 0 0] }) (S1.fr.push _) (S1.nw.push S1.fr _) (aq S1.nw)) fun S2 K2=>?_)
 have KF:aO H1 (H1.put l (.ro (.list xs) (listOf vs.toArray ep))) n1 n1:=aO.freeze hl
 refine jz h1 h2 ok (Walks.list ok.handled cP.objs.size l eG vs.toArray) (fun i h hh=>let ⟨o,a,b,_⟩:=hh.1;⟨o,a,by rw[b];rfl⟩) hx fj cU (items:=xs) (by rw[List.size_toArray,hv.length]) (by rw[List.size_toArray,hv.length];exact hz) (s:={ s with heap:=cP.push { cls:=.type "list_iterator",data:=.fields #[.ref l,.int 0 0] },toks:=tk }) S2 (.head _) (SF.off (aq S1.nw))
  ⟨⟨_,Heap.get?_push_size _ rfl,rfl,rfl⟩,_,Heap.get?_push_of_some _ hg,rfl,ep,rfl⟩ (fun i v a e1 e2=>(hv.sub dJ).get (by simpa using e1) e2) (fun b hb=>?_) (kp:=some (l,.ro (.list xs) (listOf vs.toArray ep))) (w _) E RR fun d C acc H' n' h' gg oC nm BF S3 HD C3 HC tw kk kp q=>?_
 ·clear KF K2 S2 SF hL hg hl S1 k lr S mm ok h2 h1 c;rcases de hb with rfl|hb
  ·exact .inl rfl
  ·have:b=l:=by simpa using hb
   clear h cU fj hx;subst this
   exact .inr ⟨_,.tail _ hm,eG,.inr ⟨_,rfl⟩⟩
 ·have kl:H' l=some (.ro (.list xs) (listOf vs.toArray ep)):=kp
  have dl:d≠l:=fun z=>by rw[z,kl]at HD;(exact bg HD)
  have CN:(H'.put d (.list acc)) l=some (.ro (.list xs) (listOf vs.toArray ep)):=(aj _ _ dl.symm).trans kl
  have Q2:C≠l:=fun z=>by rw[z,CN]at HC;(exact bg HC)
  have S4:St G c.h₀ c.L mm ((H'.put d (.list acc)).put l o) n' h':=by
   clear q xr ho hl;rcases eo with rfl|rfl
   ·exact S3.qo CN
   ·rw[yv CN];exact S3
  rw[f6 dl]at S4
  refine k d C _ n' h' gg oC nm BF S4 C3 ?_ tw (fun p hp e=>?_) (q d ((aj _ _ dl).trans HD))
  ·rw[←f6 dl,aj _ _ Q2];exact HC
  ·refine bh ((K1.trans KF) p hp e) fun a1 a2=>?_
   refine ci (kk p (.tail _ a1) (aq S1.nw p a1) a2) fun b1 b2 b3=>?_
   refine⟨b1,b2,?_⟩
   have:p.1≠l:=fun z=>by rw[z,CN]at b3;(exact bg b3)
   rw[←f6 dl,aj _ _ this];exact b3
variable{a:AV}
theorem CE.str{y:Str}{j:Nat}{pos:Pos}(h:Q (.str y) H):CE G D fs g6 sc bcl x a (.Constant (.str y) j pos) H Q where
 go:=fun c h1 h2 ok mm ae s C S b Q' E k=>wpAny_Constant_str (k _ (.str y) H ae s.heap _ S aO.rfl ⟨_,rfl⟩ h)
theorem FN{i:Int}{j:Nat}{p pos:Pos}(h:Q (.int (-i)) H):CE G D fs g6 sc bcl x a (.UnaryOp .USub (.Constant (.int i) j p) pos) H Q where
 go:=fun c h1 h2 ok mm ae s C S b Q' E k=>PySem.wpAny_UnaryOp (wpAny_Constant_int (PyProof.Rows.neg_int (k _ (.int (-i)) H ae s.heap _ S aO.rfl ⟨_,rfl⟩ h)))
theorem CE.tuple{es:List Expr}{n:Nat}{pos:Pos}(h:Ce G D fs g6 sc bcl x a es H (Ia Q))(hp:autoParam ((es.all cN)=true) aR)(hz:autoParam (es.length<=1000) aD):CE G D fs g6 sc bcl x a (.Tuple es n pos) H Q where
 go:=fun c h1 h2 ok mm ae s C S b Q' E k=>by
  refine Tuple_ (Ce.go hp h c h1 h2 ok C pos S b _ E fun v r H' n' h' tk S1 K1 V1 len q=>?_)
  refine newTuple_N (s:={ s with heap:=h',toks:=tk }) S1.fr S1.nw (fun jK F N=>?_) (by rw[len,sizeLine_eq];exact UC hz)
  refine bh (S1.push F N (aq S1.nw)) fun S2 K2=>?_
  exact k _ _ _ _ _ _ S2 (K1.trans K2) ((ee ..).mpr ⟨_,v,rfl,.head _,V1.sub dJ⟩) q
theorem DI{l:Addr}{es:List (Int×AV)}(hl:H l=some (.aB es))(hz:es.length<=16000000)(h:Q (.int es.length) H):WB G D (.builtin "len") [.ref l] H Q where
 go:=fun c ok mm ae s S vals hv Q' E k=>by
  refine aA (hM hv) fun v ak h1=>?_;(clear hv;subst ak)
  have:v=.ref l:=h1
  clear h1;subst this
  refine aN (S.get hl) fun ob hm ak hg=>?_;refine aA (ak) fun kvs hd2 hr=>?_;clear ak
  refine kda_len S.nw hm hd2 (S.lo l _ hl rfl) (by rw[hr.length];exact E8 hz) ?_
  exact k _ (.int es.length) H ae s.heap _ S aO.rfl ⟨_,by rw[hr.length]⟩ h
theorem DV{l r:Addr}{xs:List AV}{Q:Bool->ah->Prop}(hl:H l=some (.list xs))(hr:H r=some (.list []))(h:Q xs.isEmpty H):cS G D .Eq (.ref l) (.ref r) H Q where
 go:=fun c ok mm ae s S va vb ha hb Q' E k=>by
  have:va=.ref l:=ha
  clear ha;subst this
  have:vb=.ref r:=hb
  clear hb;subst this
  refine aN (S.get hl) fun o1 m1 ak g1=>?_;refine bi (ak) fun vs n cu hv=>?_;clear ak;(clear m1 hl;subst cu)
  refine aN (S.get hr) fun o2 m2 ak g2=>?_;refine bi (ak) fun ws n2 cu hw=>?_;clear ak;(clear m2;subst cu)
  have:ws=[]:=(bC ..).mp hw
  clear hw;subst this
  have hu:c.A.units<cLine:=by have:=ok.units;exact Rs this
  cases xs with
  |nil=>
   have:vs=[]:=(bC ..).mp hv
   clear hv;subst this
   exact PySem.SeqAt.eq_listAt (e:=fun _=>true) ⟨_,g1,rfl,n,rfl⟩ ⟨_,g2,rfl,n2,rfl⟩ rfl hu (fun j h1=>absurd h1 (Nat.not_lt_zero _)) (k _ H ae s.heap s.toks S aO.rfl h)
  |cons x r=>
   refine bi ((aW ..).mp hv) fun v q ak _=>?_;(clear hv;subst ak)
   exact PySem.SeqAt.eq_list_lengthsAt ⟨_,g1,rfl,n,rfl⟩ ⟨_,g2,rfl,n2,rfl⟩ (by(rfl)) hu (k _ H ae s.heap s.toks S aO.rfl h)
noncomputable def A2(y:Str):Option Value->Bool
 |some (.str w _)=>w==y
 |_=>false
noncomputable def Hl(y:Str):Option Obj->Bool
 |some o=>(match o.data with
  |.seq arr _=>A2 y arr[0]?
  |_=>false)
 |none=>false
noncomputable def Cu(h:Heap)(y:Str):Value->Bool
 |.ref t=>Hl y (h.get? t)
 |_=>false
theorem DU{sc:Scope}{x y z:Str}{zp p1 p2 p3 p4 p5 p6 px pos:Pos}{j1 j2:Nat}{l:Addr}{xs:List AV}{Q:AQ}(eN:∀c:Cx,c.cs=cs->c.cl=cl->closureFor sc c.env=pure [])(cU:∀y∈sc.names,y.2≠.cell)(dj:∀x∈sc.names,x.2=.local->sc.names.lookup x.1=some .local)
 (hz:m.lookup z=some (.ref l)) (hl:H l=some (.list xs)) (hn:xs.length<=1000) (Qi:∀a∈xs,∃w r,a=.tup (.str w::r)/\r.length<=1000) (h:∀d ys,H d=none->Q (.ref d) (H.put d (.list ys)))
 (fj:autoParam (sc.kind=.function) aR) (hx:autoParam (sc.names.lookup x=some .local) aR) (Oc:autoParam (cs.names.lookup z=some .local) aR) (hd:autoParam ((x==("__debug__":Str))=false) aD) (XQ:autoParam ((z==("__debug__":Str))=false) aD) (hs:autoParam (∀ (env:Env) (x:Value),foldedSetIterable (.Name z zp) env x=pure x) aJ) (hm:autoParam (behindInMarks .Eq (.Constant (.str y) j2 p5)=false) aU):
 WE G D cs cl (.ListComp (.Name x p1) [⟨.Name x px,.Name z zp,[.Compare (.Subscript (.Name x p2) (.Constant (.int 0) j1 p3) p4) [.Eq] [.Constant (.str y) j2 p5] p6],0⟩] sc pos) m H Q where
 go:=fun c h1 h2 ok mm ae s S lr Q' E k=>by
  refine aN (S.get hl) fun ob ia ak hg=>?_;refine bi (ak) fun vs ep cu hv=>?_;clear ak;subst cu
  have eG:l≠s.heap.objs.size:=aq S.nw _ ia
  have hlen:=hv.length
  subst h1
  refine aA (lr z _ hz) fun zv e1 e2=>?_
  have:zv=.ref l:=e2
  clear e2;subst this
  refine wpAny_ListComp_free (Cu s.heap y) (fun _ _=>True) (eN c rfl h2) cU fj dj hx (nameX_L S.fr e1 ?_ ok.kind Oc XQ) (hs _)
  refine wpAny_pyIter_list ⟨_,hg,rfl,ep,rfl⟩ ?_
  have kp:∀ {b:Addr} {o:Obj},s.heap.get? b=some o->(s.heap.push { cls:=.type "list_iterator",data:=.fields #[.ref l,.int 0 0] }).get? b=some o:=fun q=>Heap.get?_push_of_some _ q
  have nI:∀ {b:Addr} {o:Obj},s.heap.get? b=some o->b≠s.heap.objs.size:=fun q=>Nat.ne_of_lt (Heap.lt_size q)
  have loc:∀ {C:Addr} {nc:Shared} {y3:Str->Option Value} {v:Value} {p:Pos} {Q:Value->Shared->Prop} {E:Value->Shared->Prop},nc.heap.Ns C y3->y3 x=some v->Q v nc->wpAny (model G.prog G.w) c.A (eval (.Name x p) (compEnvC sc [] C c.env)) Q E nc:=fun {C nc y3 v p Q E} ns mx q=>
   wpAny_Name (wpAny_loadName_local (env:=compEnvC sc [] C c.env) fj (lookup_relabel_local hx) ns mx q) hd
  refine⟨s.heap.objs.size,[s.heap.objs.size,l],[s.heap.objs.size],vs.toArray.size,_,_,rfl,Walks.list ok.handled s.heap.objs.size l eG vs.toArray,by rw[List.size_toArray,hlen,sizeLine_eq];(exact d6 ‹_› (cm rfl)),⟨⟨_,Heap.get?_push_size _ rfl,rfl,rfl⟩,_,kp hg,rfl,ep,rfl⟩,fun b hb=>?_,⟨fun C i v nc y3 E' hC EA ns mx hk ht=>?_,fun C i v nc y3 E' hC EA hp ns mx hk ht=>loc ns mx ⟨trivial,_,_,rfl,fun _ _ e=>e⟩⟩,fun d h' tk ys YC xw hL Ue _ _ _ hk=>?_⟩
  ·show b<(s.heap.push _).objs.size
   rw[Heap.size_push]
   rcases de hb with rfl|hb
   ·exact Nat.lt_succ_self _
   ·rw[fG hb]
    exact Nat.lt_succ_of_lt (Heap.lt_size hg)
  ·refine wpAny_tests_one ?_
   have EA:vs[i]?=some v:=by simpa using EA
   have hi:i<xs.length:=by rw[←hlen];exact(List.getElem?_eq_some_iff.mp EA).1
   refine aA (hv.at (List.getElem?_eq_getElem hi)) fun u hu Qp=>?_
   rw[EA]at hu
   cases hu
   refine bi (Qi _ (List.getElem_mem hi)) fun w r ea YV=>?_
   rw[ea]at Qp
   refine aE ((ee ..).mp Qp) fun t us ak EH Jx=>?_;(clear ea Qp;subst ak)
   refine aE ((aW ..).mp Jx) fun f OM ak hf Bn=>?_;(clear Jx;subst ak)
   refine aY (hf) fun tk ak=>?_;clear hf;subst ak
   have Qm:s.heap.get? t=some (aK (.str w tk::OM)):=(S.nw _ EH).1
   have TJ:nc.heap.get? t=some (aK (.str w tk::OM)):=hk t _ (by simpa using nI Qm) (kp Qm)
   have lz:=Bn.length
   have eT:Cu s.heap y (.ref t)=(w==y):=by
    exact congrArg (Hl y) Qm
   rw[eT]
   refine wpAny_isTrue_Compare1 (Subscript_ (loc ns mx (wpAny_Constant_int ?_))) hm
   have hT:IsTup nc.heap t (List.toArray (Value.str w tk::OM)):=⟨_,TJ,rfl,0,rfl⟩
   refine tail_any ⟨_,TJ,rfl⟩ PySem.F.slot_tuple_getitem.lookup (PyProof.Rows.getItem_tuple (k:=0) hT (by decide) (by decide) (j:=0) (by rw[List.size_toArray];exact gA (by decide) (Nat.succ_pos _)) rfl ?_) (pN (by rfl))
   exact wpAny_Constant_str (PyProof.Rows.eq_str (wpAny_truthy_bool ⟨rfl,_,_,rfl,fun _ _ e=>e⟩))
  ·have keep:∀b o,s.heap.get? b=some o->h'.get? b=some o:=fun b o q=>hk b o (by simpa using nI q) (kp q)
   refine aY (Ue) fun n xr=>?_;clear Ue
   have dn:∀p∈ae,p.1≠d:=fun p hp z=>by
    have q:=kp (S.nw p hp).1
    rw[z]at q
    rw[q]at xw
    exact bg xw
   have d0:c.h₀.get? d=none:=by
    cases q:c.h₀.get? d with
    |none=>rfl
    |some o=>rw[kp (S.fr.keep d o q)]at xw;(exact bg xw)
   have dL:d≠c.L:=fun z=>by
    refine ux (S.fr.ns) fun o _ _ e _=>?_
    rw[z,kp e]at xw
    exact bg xw
   have N2:News c.h₀ c.L h' ((d,listOf ys n)::ae):=fun p hp=>by
    rcases de hp with rfl|hp
    ·exact⟨xr,dL,d0⟩
    ·have z:=S.nw p hp
     exact⟨keep _ _ z.1,z.2⟩
   have V2:∀zs:List Value,dw ae (zs.map AV.raw) zs:=fun zs=>by
    induction zs with
    |nil=>exact(bC ..).mpr rfl
    |cons v r ih=>exact(aW ..).mpr ⟨v,r,rfl,rfl,ih⟩
   refine bh (S.eJ (o:=.list (ys.toList.map AV.raw)) (S.fr.keeps keep) N2 dn ⟨ys.toList,n,by rw[Array.toArray_toList],V2 _⟩) fun S2 K2=>?_
   exact k (.ref d) (.ref d) _ _ h' tk S2 K2 rfl (h d _ (S.off dn))
end
theorem lF:false=false:=rfl
theorem iT{a b:AO}{r:Prop}(h:a=b)(n:Nat.beq a.ctorIdx b.ctorIdx=false):r:=by
 subst h;rw[Nat.beq_refl]at n;exact dH n
theorem sW{α:Type u0}{a:α}{l:List α}{r:Prop}(h:a::l=[]):r:=nomatch h
variable{a b c d e f g i j k l m n:Nat}
theorem Rr{a:Int}:(((0:Int)<=a)/\(a<(8:Int)))->(Int.toNat a)<8:=fun h=>(Int.toNat_lt h.1).mpr h.2
theorem Rq{a:Nat}:a<8->((0:Int)<=((a:Nat):Int))/\(((a:Nat):Int)<(8:Int)):=fun h=>⟨((@Int.ofNat_le 0 a).mpr (iM (e7 a) gi aw lT)),((@Int.ofNat_lt a 8).mpr h)⟩
theorem Rp{a b:Nat}:((a:Nat):Int)=((b:Nat):Int)->a=b:=fun h=>(@Int.ofNat_inj a b).mp h
theorem KB{a:Int}:(((0:Int)<=a)/\(a<(8:Int)))->a=(max a (0:Int)):=fun h=>(Int.max_eq_left h.1).symm
theorem Ro:a<=b->c+b<=15000000->c+a<=15000000:=fun ha hb=>eE (eD a b c) aw aG (lA bu aG) (lN 15000000) (lA bu aw) (lN 15000000) lT ha hb
theorem Rn:a+(b+1)<=15000000->a+1+b<=15000000:=fun h=>cR (dU a b) (lA aw (lA aG aL)) (lN 15000000) (lA (lA aw aL) aG) (lN 15000000) lT h
theorem Rm:a+(b+1)<=15000000->a<=16000000:=fun h=>cR (dU a b) (lA aw (lA aG aL)) (lN 15000000) aw (lN 16000000) lT h
theorem Ad:a<=1000->b<=a->b<=16000000:=fun ha hb=>eE (dU a b) aw (lN 1000) aG aw aG (lN 16000000) lT ha hb
theorem Rl:a+(b+1)<=c->d<=a+1->d+b<=c:=fun ha hb=>eE (kQ a b c d) (lA aw (lA aG aL)) bu ei (lA aw aL) (lA ei aG) bu lT ha hb
theorem B8:a+2*b+1<=a+2*b+1:=iM (dU a b) (lA (lA aw (lM 2 aG)) aL) (lA (lA aw (lM 2 aG)) aL) lT
theorem B7:a+2*b+1<=a+2*b+2:=iM (dU a b) (lA (lA aw (lM 2 aG)) aL) (lA (lA aw (lM 2 aG)) ny) lT
theorem uJ:a<=a+1:=iM (e7 a) aw (lA aw aL) lT
theorem Rk:a<=1000->b+0<=a->b=c+d->c<=1000:=fun ha hb hc=>pw (kQ a b c d) aw (lN 1000) (lA aG gi) aw (lA bu ei) aG bu (lN 1000) lT ha hb (Nat.le_of_eq hc.symm)
theorem Rj:a<=1000->b+0<=a->b=c+d->d<=1000:=fun ha hb hc=>pw (kQ a b c d) aw (lN 1000) (lA aG gi) aw (lA bu ei) aG ei (lN 1000) lT ha hb (Nat.le_of_eq hc.symm)
theorem Ri:(0:Int)<((0:Nat):Int)->False:=fun h=>Nat.not_succ_le_zero 0 (cR (e7 0) (lA gi aL) gi aL gi lT ((@Int.ofNat_lt 0 0).mp h))
theorem E7{a:Nat}:¬((0:Int)<(((a+1):Nat):Int))->False:=fun h=>Nat.not_succ_le_zero 0 (cR (e7 a) (lA aw aL) gi aL gi lT (Nat.le_of_not_lt (mt (@Int.ofNat_lt 0 (a+1)).mpr h)))
theorem KA:a+(b+c)=a+b+c:=vt (eD a b c) (lA aw (lA aG bu)) (lA (lA aw aG) bu) lT
theorem Kz:a<=b->1<=c->a+1<=c+b:=fun ha hb=>eE (eD a b c) aw aG aL bu (lA aw aL) (lA bu aG) lT ha hb
theorem B6:a<=b->a<=c+b:=fun h=>cR (eD a b c) aw aG aw (lA bu aG) lT h
theorem E6:a<=2->b+6*c+2*a+1<=b+6*c+5:=fun h=>eE (eD a b c) aw ny aw ny (lA (lA (lA aG (lM 6 bu)) (lM 2 aw)) aL) (lA (lA aG (lM 6 bu)) AF) lT h h
theorem Rh:a+b<=c+1->c<=1000->d<=b->d<=1000000:=fun ha hb hc=>pw (kQ a b c d) (lA aw aG) (lA bu aL) bu (lN 1000) ei aG ei (lN 1000000) lT ha hb hc
theorem Rg:a+b<=c+1->d+1=a->e<=d->e+b<=c:=fun ha hb hc=>pw (Et a b c d e e) (lA aw aG) (lA bu aL) (lA ei aL) aw tx ei (lA tx aG) bu lT ha (Nat.le_of_eq hb) hc
theorem Ky:a<=b->c+1<=a->b=b-1+1:=fun ha hb=>(Nat.sub_add_cancel (eE (eD a b c) aw aG (lA bu aL) aw aL aG lT ha hb)).symm
theorem Rf:a+1<=b->c+1<=1000->b<=c+1->a<=1000:=fun ha hb hc=>pw (eD a b c) (lA aw aL) aG (lA bu aL) (lN 1000) aG (lA bu aL) aw (lN 1000) lT ha hb hc
theorem Ab:a+1<=1000->a<=1000:=fun h=>cR (e7 a) (lA aw aL) (lN 1000) aw (lN 1000) lT h
theorem Kx:a<=a+5:=iM (e7 a) aw (lA aw AF) lT
theorem Re:a+1+1<=1000->a<=998:=fun h=>cR (e7 a) (lA (lA aw aL) aL) (lN 1000) aw (lN 998) lT h
theorem Rd:2*a+(b+c)=2*a+b+c:=vt (eD a b c) (lA (lM 2 aw) (lA aG bu)) (lA (lA (lM 2 aw) aG) bu) lT
theorem Rc:1+(a+b)=1+a+b:=vt (dU a b) (lA aL (lA aw aG)) (lA (lA aL aw) aG) lT
theorem Rb:a<=b->1<=c->a+1<=2*c+b:=fun ha hb=>eE (eD a b c) aw aG aL bu (lA aw aL) (lA (lM 2 bu) aG) lT ha hb
theorem Ra:a<=b->a+1<=1+b:=fun h=>cR (dU a b) aw aG (lA aw aL) (lA aL aG) lT h
theorem Q9:a+b<=c->d+b=c->a<=d:=fun ha hb=>eE (kQ a b c d) (lA aw aG) bu bu (lA ei aG) aw ei lT ha (Nat.le_of_eq hb.symm)
theorem Q8:a+1<=b->c+(d+1)<=800->b<=d+1->a<=1000:=fun ha hb hc=>pw (kQ a b c d) (lA aw aL) aG (lA bu (lA ei aL)) (lN 800) aG (lA ei aL) aw (lN 1000) lT ha hb hc
theorem Q7:a+6*b+5+1<=a+6*(b+1):=iM (dU a b) (lA (lA (lA aw (lM 6 aG)) AF) aL) (lA aw (lM 6 (lA aG aL))) lT
theorem Q6:a<=1000->a+(0+1)<=1000000:=fun h=>cR (e7 a) aw (lN 1000) (lA aw (lA gi aL)) (lN 1000000) lT h
theorem Nw:a+6*b<=a+6*b+5+1:=iM (dU a b) (lA aw (lM 6 aG)) (lA (lA (lA aw (lM 6 aG)) AF) aL) lT
theorem Nv:2*a+b<=c+1->d+2<=2*a->d+(1+b)<=c:=fun ha hb=>eE (kQ a b c d) (lA (lM 2 aw) aG) (lA bu aL) (lA ei ny) (lM 2 aw) (lA ei (lA aL aG)) bu lT ha hb
theorem Nu:a+b-b+1=a+1:=Ex (eD ((a+b)-b) b a) (lA aw aG) (lA bu aG) (lA aw aL) (lA bu aL) lT (Nat.sub_add_cancel (iM (dU b a) aw (lA aG aw) lT))
theorem Nt:a+(b+1)<=800->a<=1000:=fun h=>cR (dU a b) (lA aw (lA aG aL)) (lN 800) aw (lN 1000) lT h
theorem kZ:a<=1000->a<=16000000:=fun h=>cR (e7 a) aw (lN 1000) aw (lN 16000000) lT h
theorem DE:a+(b+1)<=800->a-c+1+b<=800:=fun h=>eE (eD a b (a-c)) (lA aw (lA aG aL)) (lN 800) bu aw (lA (lA bu aL) aG) (lN 800) lT h (Nat.sub_le a c)
theorem DD{a:Nat}:¬((((a+1):Nat):Int)=(0:Int)):=fun e1=>(Nat.not_succ_le_zero 0 (cR (e7 a) (lA aw aL) gi aL gi lT (Nat.le_of_eq ((@Int.ofNat_inj (a+1) 0).mp e1))))
theorem Nr:a+(b+1)<=800->c=a-d->c<=1000:=fun ha hb=>pw (kQ a b c (a-d)) (lA aw (lA aG aL)) (lN 800) bu ei ei aw bu (lN 1000) lT ha (Nat.le_of_eq hb) (Nat.sub_le a d)
theorem mQ:1+a<=b+1->a<=b:=fun h=>cR (dU a b) (lA aL aw) (lA aG aL) aw aG lT h
theorem Nq:a<=a+6*0:=iM (e7 a) aw (lA aw (lM 6 gi)) lT
theorem No:a<=a+6*(b+1):=iM (dU a b) aw (lA aw (lM 6 (lA aG aL))) lT
theorem Nn:a<=400->2*a<=800:=fun h=>eE (e7 a) aw (lN 400) aw (lN 400) (lM 2 aw) (lN 800) lT h h
theorem Nm:a+6*(2*b)<=a+12*b:=iM (dU a b) (lA aw (lM 6 (lM 2 aG))) (lA aw (lM 12 aG)) lT
theorem Aq:a+12*b+11+1<=a+12*(1+b):=iM (dU a b) (lA (lA (lA aw (lM 12 aG)) (lN 11)) aL) (lA aw (lM 12 (lA aL aG))) lT
theorem DC:a+12*b<=a+12*b+11:=iM (dU a b) (lA aw (lM 12 aG)) (lA (lA aw (lM 12 aG)) (lN 11)) lT
theorem DB:a+12*b+12*c<=a+12*(c+b):=iM (eD a b c) (lA (lA aw (lM 12 aG)) (lM 12 bu)) (lA aw (lM 12 (lA bu aG))) lT
theorem Nl:a+12*b<=a+12*b:=iM (dU a b) (lA aw (lM 12 aG)) (lA aw (lM 12 aG)) lT
theorem Nk:a<=1000->b+(c+1)<=a->b<=16000000:=fun ha hb=>eE (eD a b c) aw (lN 1000) (lA aG (lA bu aL)) aw aG (lN 16000000) lT ha hb
theorem Ap:a+(b+1)<=c->a+1+b<=c:=fun h=>cR (eD a b c) (lA aw (lA aG aL)) bu (lA (lA aw aL) aG) bu lT h
theorem Dz:a<=100000->b<=c->d+c<=a->e<=b->e<=16000000:=fun ha hb hc hd=>Ew (Et a b c d e e) aw (lN 100000) aG bu (lA ei bu) aw tx aG tx (lN 16000000) lT ha hb hc hd
theorem Dy:a+b<=c->1<=a->c=c-1+1:=fun ha hb=>(Nat.sub_add_cancel (eE (eD a b c) (lA aw aG) bu aL aw aL bu lT ha hb)).symm
theorem Dx:a<=100000->b+1<=c+d->e+(f+1)<=a->c+d<=f+1->b<=16000000:=fun ha hb hc hd=>Ew (Et a b c d e f) aw (lN 100000) (lA aG aL) (lA bu ei) (lA tx (lA Fv aL)) aw (lA bu ei) (lA Fv aL) aG (lN 16000000) lT ha hb hc hd
theorem Dw:a<=100000->b+(c+1)<=a->b<=16000000:=fun ha hb=>eE (eD a b c) aw (lN 100000) (lA aG (lA bu aL)) aw aG (lN 16000000) lT ha hb
theorem Dv:a<=100000->b+1<=c+d->e+(f+1)<=a->c+d<=f+1->g<=2->b+g<=16000000:=fun ha hb hc hd he=>VZ (Ty a b c d e f g g) aw (lN 100000) (lA aG aL) (lA bu ei) (lA tx (lA Fv aL)) aw (lA bu ei) (lA Fv aL) Oa ny (lA aG Oa) (lN 16000000) lT ha hb hc hd he
theorem qj:a+(b+1)<=c->a+b<=c:=fun h=>cR (eD a b c) (lA aw (lA aG aL)) bu (lA aw aG) bu lT h
theorem Du:a+b<=c+1->d+1=a->d+b<=c:=fun ha hb=>eE (kQ a b c d) (lA aw aG) (lA bu aL) (lA ei aL) aw (lA ei aG) bu lT ha (Nat.le_of_eq hb)
theorem Nj:a<=100000->b<=c->c+(d+1)<=a->b<=16000000:=fun ha hb hc=>pw (kQ a b c d) aw (lN 100000) aG bu (lA bu (lA ei aL)) aw aG (lN 16000000) lT ha hb hc
theorem Ao:a<=b->c<=a+1->c<=b+1:=fun ha hb=>eE (eD a b c) aw aG bu (lA aw aL) bu (lA aG aL) lT ha hb
theorem Ni:a<=b+1->a+c<=b+(c+1):=fun h=>cR (eD a b c) aw (lA aG aL) (lA aw bu) (lA aG (lA bu aL)) lT h
theorem Nh:a<a+b+1:=iM (dU a b) (lA aw aL) (lA (lA aw aG) aL) lT
theorem Ng:a+12*b<=a+(16*b+2):=iM (dU a b) (lA aw (lM 12 aG)) (lA aw (lA (lM 16 aG) ny)) lT
theorem Nf:a+1+12*b<=a+(16*b+2):=iM (dU a b) (lA (lA aw aL) (lM 12 aG)) (lA aw (lA (lM 16 aG) ny)) lT
theorem Nd:a+b+2+6*c<=a+6*c+b+2:=iM (eD a b c) (lA (lA (lA aw aG) ny) (lM 6 bu)) (lA (lA (lA aw (lM 6 bu)) aG) ny) lT
theorem Nc:a+b+2+6*c+6*d<=a+b+2+6*(d+c):=iM (kQ a b c d) (lA (lA (lA (lA aw aG) ny) (lM 6 bu)) (lM 6 ei)) (lA (lA (lA aw aG) ny) (lM 6 (lA ei bu))) lT
theorem An:a<=a:=iM (e7 a) aw aw lT
theorem Nb:a+b+1=c->a<c:=fun h=>cR (eD a b c) (lA (lA aw aG) aL) bu (lA aw aL) bu lT (Nat.le_of_eq h)
theorem Na{a b c:Nat}:a+b+1=c->((a:Nat):Int)<(((c:Nat):Int)-(1:Int))->b=b-1+1:=fun e h=>(Nat.sub_add_cancel (Nat.pos_of_ne_zero fun z=>absurd ((@Int.ofNat_lt (a+1) c).mp (Int.add_lt_of_lt_sub_right h)) (by rw[←e,z];exact Nat.lt_irrefl _))).symm
theorem Dt:a+(b+1)+1=c->a+1<c:=fun h=>cR (eD a b c) (lA (lA aw (lA aG aL)) aL) bu (lA (lA aw aL) aL) bu lT (Nat.le_of_eq h)
theorem M9:a+b+2+1+c<=a+(c+1+b)+2:=iM (eD a b c) (lA (lA (lA (lA aw aG) ny) aL) bu) (lA (lA aw (lA (lA bu aL) aG)) ny) lT
theorem M8:a=b->c+(d+1)+1=b->c<a:=fun ha hb=>eE (kQ b a c d) aw aG (lA (lA bu (lA ei aL)) aL) aw (lA bu aL) aG lT (Nat.le_of_eq ha.symm) (Nat.le_of_eq hb)
theorem M6:a<=1000->b=a->b<=16000000:=fun ha hb=>eE (dU a b) aw (lN 1000) aG aw aG (lN 16000000) lT ha (Nat.le_of_eq hb)
theorem M5:a+(b+1)+1=c->a+1+b+1=c:=fun h=>Ex (eD a b c) (lA (lA aw (lA aG aL)) aL) bu (lA (lA (lA aw aL) aG) aL) bu lT h
theorem M4{a b:Nat}:a<b->¬(((a:Nat):Int)<(((b:Nat):Int)-(1:Int)))->(((b:Nat):Int)-(1:Int))=((a:Nat):Int):=fun h g=>Int.le_antisymm (Int.not_lt.mp g) (Int.le_sub_one_of_lt (Int.ofNat_lt.mpr h))
theorem M3{a b:Nat}:(((a:Nat):Int)-(1:Int))=((b:Nat):Int)->a<=b+1:=fun h=>Int.ofNat_le.mp (Int.le_of_eq ((Int.sub_add_cancel (a:Int) 1).symm.trans (congrArg (·+(1:Int)) h)))
theorem M2:a+2+b<=a+(b+1+c)+2:=iM (eD a b c) (lA (lA aw ny) aG) (lA (lA aw (lA (lA aG aL) bu)) ny) lT
theorem M1:0<a->0+(a-1)+1=a:=fun h=>Ex (dU (a-1) a) (lA aw aL) aG (lA (lA gi aw) aL) aG lT (Nat.sub_add_cancel (cR (e7 a) (lA gi aL) aw aL aw lT h))
theorem M0:6*a+b<=6000000->8000000+6*a+b+3<=15000000:=fun h=>cR (dU a b) (lA (lM 6 aw) aG) (lN 6000000) (lA (lA (lA (lN 8000000) (lM 6 aw)) aG) Fw) (lN 15000000) lT h
theorem MZ:a<=b-1->0<b->a+1<=b:=fun ha hb=>eE (eD a (b-1) b) aw aG (lA aG aL) bu (lA aw aL) bu lT ha (Nat.le_of_eq (Nat.sub_add_cancel (cR (e7 b) (lA gi aL) aw aL aw lT hb)))
theorem MY:a<=100->a+4<=1000000:=fun h=>cR (e7 a) aw (lN 100) (lA aw PJ) (lN 1000000) lT h
theorem MX:a<=400->a<=100000:=fun h=>cR (e7 a) aw (lN 400) aw (lN 100000) lT h
theorem MW:a<=100->a+7<=1000000:=fun h=>cR (e7 a) aw (lN 100) (lA aw ty) (lN 1000000) lT h
theorem MV:a<=8->a<64:=fun h=>cR (e7 a) aw zm (lA aw aL) (lN 64) lT h
theorem MU:a+(b+1)<=8->(((min c a)+((a-c)+1))+b)<=8:=fun h=>d6 (Nat.le_of_eq (congrArg (·+b) ((Nat.add_assoc _ _ 1).symm.trans (congrArg (·+1) (Nat.add_comm _ _ |>.trans (Nat.sub_add_min_cancel a c |> (Nat.min_comm c a▸·))))))) (d6 (Nat.le_of_eq (Nat.add_right_comm a 1 b)) h)
theorem MT{a:Nat}:(0:Int)<((a:Nat):Int)->a=a-1+1:=fun h=>(Nat.sub_add_cancel (cR (e7 a) (lA gi aL) aw aL aw lT ((@Int.ofNat_lt 0 a).mp h))).symm
theorem MS{a:Nat}:(0:Int)<=((((a+1):Nat):Int)-(1:Int)):=Int.le_trans (Int.natCast_nonneg a) (Int.le_of_eq (Int.add_sub_cancel (a:Int) 1).symm)
theorem MR{a:Nat}:(Int.toNat ((((a+1):Nat):Int)-(1:Int)))=a:=congrArg Int.toNat (Int.add_sub_cancel (a:Int) 1)
theorem Am:a+(b+1)<=8->a<=16000000:=fun h=>cR (dU a b) (lA aw (lA aG aL)) zm aw (lN 16000000) lT h
theorem MQ{a:Nat}:((((a+1):Nat):Int)-(1:Int))=((a:Nat):Int):=Int.add_sub_cancel (a:Int) 1
theorem MP{a:Nat}:¬((0:Int)<((a:Nat):Int))->a=0:=fun h=>Nat.le_antisymm (Nat.le_of_not_lt (mt (@Int.ofNat_lt 0 a).mpr h)) (iM (e7 a) gi aw lT)
theorem MO:a<=b+c->c<=d+1->a<=b+1+d:=fun ha hb=>eE (kQ a b c d) aw (lA aG bu) bu (lA ei aL) aw (lA (lA aG aL) ei) lT ha hb
theorem MN:4<=100:=iM (e7 0) PJ (lN 100) lT
theorem MM{a b:Nat}:0=a-(b+1)->(((b:Nat):Int)+(1:Int))<((a:Nat):Int)->False:=fun ha hb=>Nat.not_succ_le_zero 0 (pw (eD (a-(b+1)) b a) aw gi (lA (lA aG aL) aL) bu bu (lA aw (lA aG aL)) aL gi lT (Nat.le_of_eq ha.symm) ((@Int.ofNat_lt (b+1) a).mp hb) (Nat.le_of_eq (Nat.sub_add_cancel (cR (dU b a) (lA (lA aw aL) aL) aG (lA aw aL) aG lT ((@Int.ofNat_lt (b+1) a).mp hb))).symm))
theorem ML{a b:Nat}:¬((((a:Nat):Int)+(1:Int))<((b:Nat):Int))->b<=a+1:=fun h=>Nat.le_of_not_lt (mt (@Int.ofNat_lt (a+1) b).mpr h)
theorem vU:a<=8->a<=16000000:=fun h=>cR (e7 a) aw zm aw (lN 16000000) lT h
theorem MJ:a<=1000->b<a->b<=16000000:=fun ha hb=>eE (dU a b) aw (lN 1000) (lA aG aL) aw aG (lN 16000000) lT ha hb
theorem MH:0+a=a:=vt (e7 a) (lA gi aw) aw lT
theorem MG{a b:Nat}:((a:Nat):Int)<((b:Nat):Int)->a<b:=fun h=>(@Int.ofNat_lt a b).mp h
theorem MF:a+b=c->a<c->b=b-1+1:=fun ha hb=>(Nat.sub_add_cancel (eE (eD c a b) aw (lA aG bu) (lA aG aL) aw aL bu lT (Nat.le_of_eq ha.symm) hb)).symm
theorem ME:a+(b+1)=c->a+1+b=c:=fun h=>Ex (eD a b c) (lA aw (lA aG aL)) bu (lA (lA aw aL) aG) bu lT h
theorem Ds:a+1+b=a+(b+1):=vt (dU a b) (lA (lA aw aL) aG) (lA aw (lA aG aL)) lT
theorem MD{a b:Nat}:¬(((a:Nat):Int)<((b:Nat):Int))->¬(a<b):=fun h=>Nat.not_lt_of_le (Nat.le_of_not_lt (mt (@Int.ofNat_lt a b).mpr h))
theorem MC:a<=b->c<=a->c<=b:=fun ha hb=>eE (eD a b c) aw aG bu aw bu aG lT ha hb
theorem vT:a<=b->a<=b+1:=fun h=>cR (dU a b) aw aG aw (lA aG aL) lT h
theorem MB:a<=b->a<=b:=fun h=>h
theorem MA:a<=900->a+1<=1000:=fun h=>cR (e7 a) aw (lN 900) (lA aw aL) (lN 1000) lT h
theorem Mz:a+(b+1)<=29->a<=1000:=fun h=>cR (dU a b) (lA aw (lA aG aL)) (lN 29) aw (lN 1000) lT h
theorem My:a+(b+1)<=29->a+1+b<=29:=fun h=>cR (dU a b) (lA aw (lA aG aL)) (lN 29) (lA (lA aw aL) aG) (lN 29) lT h
theorem Mx:a+2*(b+1)<=93->a<=900:=fun h=>cR (dU a b) (lA aw (lM 2 (lA aG aL))) (lN 93) aw (lN 900) lT h
theorem Mw:a+2*(b+1)<=93->a+2+2*b<=93:=fun h=>cR (dU a b) (lA aw (lM 2 (lA aG aL))) (lN 93) (lA (lA aw ny) (lM 2 aG)) (lN 93) lT h
theorem Mv{a b:Nat}:¬(((a:Nat):Int)<=((b:Nat):Int))->b<a:=fun h=>Nat.lt_of_not_le (mt (@Int.ofNat_le a b).mpr h)
theorem Dr:a<=60->a<=16000000:=fun h=>cR (e7 a) aw (lN 60) aw (lN 16000000) lT h
theorem Dq{a b:Int}:(0:Int)<=a->a<b->b≠(0:Int):=fun h g=>Int.ne_of_gt (Int.lt_of_le_of_lt h g)
theorem Dp{a:Int}:a<(5:Int)->(Int.toNat a)<8:=fun h=>Nat.lt_of_le_of_lt (Int.toNat_le.mpr (Int.le_of_lt h)) (cm rfl)
theorem Mu{a:Int}:a<(5:Int)->(Int.toNat a)<5:=fun h=>Nat.lt_succ_of_le (Int.toNat_le.mpr (Int.le_of_lt_add_one h))
theorem Mt:a<=b->a+1<=2*b+1:=fun h=>cR (dU a b) aw aG (lA aw aL) (lA (lM 2 aG) aL) lT h
theorem Dn{a:Int}:(0:Int)<=a->a<(2:Int)->(a=(0:Int))∨(a=(1:Int)):=fun h g=>(Int.lt_or_eq_of_le (show a<=1 from Int.le_of_lt_add_one g)).elim (fun k=>.inl (Int.le_antisymm (Int.le_of_lt_add_one k) h)) .inr
theorem vS:a<=b->c<=b->a+c+1<=2*b+1:=fun ha hb=>eE (eD a b c) aw aG bu aG (lA (lA aw bu) aL) (lA (lM 2 aG) aL) lT ha hb
theorem Ms:a+b<=900->a<=1000:=fun h=>cR (dU a b) (lA aw aG) (lN 900) aw (lN 1000) lT h
theorem Mr:a+(b+c+1)<=900->a+b<=900:=fun h=>cR (eD a b c) (lA aw (lA (lA aG bu) aL)) (lN 900) (lA aw aG) (lN 900) lT h
theorem Mq:a+(b+c+1)<=900->d<=a+e->e<=b->d+c<=900:=fun ha hb hc=>pw (Et a b c d e e) (lA aw (lA (lA aG bu) aL)) (lN 900) ei (lA aw tx) tx aG (lA ei bu) (lN 900) lT ha hb hc
theorem vR:1<=a->¬(a<=0):=fun h=>Nat.not_le_of_gt (cR (e7 a) aL aw (lA gi aL) aw lT h)
theorem Mp:a<=7*b->c<=7->d<=c->d+a<=7*(b+1):=fun ha hb hc=>pw (kQ a b c d) aw (lM 7 aG) bu ty ei bu (lA ei aw) (lM 7 (lA aG aL)) lT ha hb hc
theorem Mo:a<=7->b+7<=900->b+a<=900:=fun ha hb=>eE (dU a b) aw ty (lA aG ty) (lN 900) (lA aG aw) (lN 900) lT ha hb
theorem Mn:a<=3->0+7*a<=21:=fun h=>cR (e7 a) (lM 7 aw) (lM 7 Fw) (lA gi (lM 7 aw)) (lN 21) lT (Nat.mul_le_mul_left 7 h)
theorem Mm:a+7*(b+1)<=21->a+7<=900:=fun h=>cR (dU a b) (lA aw (lM 7 (lA aG aL))) (lN 21) (lA aw ty) (lN 900) lT h
theorem Ml:a+7*(b+1)<=21->c<=a+d->d<=e->e<=7->c+7*b<=21:=fun ha hb hc hd=>Ew (Et a b c d e e) (lA aw (lM 7 (lA aG aL))) (lN 21) bu (lA aw ei) ei tx tx ty (lA bu (lM 7 aG)) (lN 21) lT ha hb hc hd
theorem Mj:a<=6->b<=21->b+14*a<=105:=fun ha hb=>eE (dU b a) aw (lN 21) (lM 14 aG) (lM 14 Eu) (lA aw (lM 14 aG)) (lN 105) lT hb (Nat.mul_le_mul_left 14 ha)
theorem Mi:a+14*(b+1)<=105->c<=a+14->c+14*b<=105:=fun ha hb=>eE (eD a b c) (lA aw (lM 14 (lA aG aL))) (lN 105) bu (lA aw (lN 14)) (lA bu (lM 14 aG)) (lN 105) lT ha hb
theorem Mh:a<=2->b<=c+d->d<=7*a->b<=c+14:=fun ha hb hc=>pw (kQ b c d a) aw (lA aG bu) bu (lM 7 ei) (lM 7 ei) (lM 7 ny) aw (lA aG (lN 14)) lT hb hc (Nat.mul_le_mul_left 7 ha)
theorem Al:a+14*(b+1)<=105->a<=1000:=fun h=>cR (dU a b) (lA aw (lM 14 (lA aG aL))) (lN 105) aw (lN 1000) lT h
theorem Ak:a+1<=a+14:=iM (e7 a) (lA aw aL) (lA aw (lN 14)) lT
theorem Dm:a+14*(b+1)<=105->c<=2->a+7*c<=200:=fun ha hb=>eE (eD a b c) (lA aw (lM 14 (lA aG aL))) (lN 105) (lM 49 bu) (lM 49 ny) (lA aw (lM 7 bu)) (lN 200) lT ha (Nat.mul_le_mul_left 49 hb)
theorem Dl:a+7*(b+1)<=200->a+7<=900:=fun h=>cR (dU a b) (lA aw (lM 7 (lA aG aL))) (lN 200) (lA aw ty) (lN 900) lT h
theorem Dk:a+7*(b+1)<=200->c<=a+d->d<=e->e<=7->c+7*b<=200:=fun ha hb hc hd=>Ew (Et a b c d e e) (lA aw (lM 7 (lA aG aL))) (lN 200) bu (lA aw ei) ei tx tx ty (lA bu (lM 7 aG)) (lN 200) lT ha hb hc hd
theorem Mg{a:Nat}:((a:Nat):Int)=(1:Int)->a=1:=fun h=>(@Int.ofNat_inj a 1).mp h
theorem Mf{a:Nat}:((a:Nat):Int)≠(1:Int)->¬(a=1):=fun h=>fun e1=>(Nat.not_succ_le_zero 0 (eE (e7 a) aL aw (lA aw aL) aL aL gi lT (Nat.le_of_eq e1.symm) (Nat.lt_of_le_of_ne (Nat.le_of_eq e1) (mt (@Int.ofNat_inj a 1).mpr h))))
theorem Me:a<=6->b<=c->a=c+(d+1)->b<=6:=fun ha hb hc=>pw (kQ a b c d) aw Eu aG bu (lA bu (lA ei aL)) aw aG Eu lT ha hb (Nat.le_of_eq hc.symm)
theorem tn:a<=6->a<=16000000:=fun h=>cR (e7 a) aw Eu aw (lN 16000000) lT h
theorem Aj{a:Nat}:(1:Int)<((a:Nat):Int)->1<a:=fun h=>(@Int.ofNat_lt 1 a).mp h
theorem Ai{a:Nat}:¬((1:Int)<((a:Nat):Int))->¬(1<a):=fun h=>Nat.not_lt_of_le (Nat.le_of_not_lt (mt (@Int.ofNat_lt 1 a).mpr h))
theorem Md:a<=15000000->((b<=a)/\((c<=a)/\((d<=a)/\(e<=a))))->e<=16000000:=fun ha hb=>eE (dU a e) aw (lN 15000000) aG aw aG (lN 16000000) lT ha hb.2.2.2
theorem Mc:a<=15000000->((b<=a)/\((c<=a)/\((d<=a)/\(e<=a))))->c<=16000000:=fun ha hb=>eE (dU a c) aw (lN 15000000) aG aw aG (lN 16000000) lT ha hb.2.1
theorem Mb:a<=15000000->((b<=a)/\((c<=a)/\((d<=a)/\(e<=a))))->b<=16000000:=fun ha hb=>eE (dU a b) aw (lN 15000000) aG aw aG (lN 16000000) lT ha hb.1
theorem Ma:a<=15000000->((b<=a)/\((c<=a)/\((d<=a)/\(e<=a))))->d<=16000000:=fun ha hb=>eE (dU a d) aw (lN 15000000) aG aw aG (lN 16000000) lT ha hb.2.2.1
theorem Dj:a<=9->a+1<=16000000:=fun h=>cR (e7 a) aw Tz (lA aw aL) (lN 16000000) lT h
theorem L7:a<=1000->b<=1000->a+b<=100000:=fun ha hb=>eE (dU a b) aw (lN 1000) aG (lN 1000) (lA aw aG) (lN 100000) lT ha hb
theorem L6{a:Nat}:(0:Int)<(((a+1):Nat):Int):=(@Int.ofNat_lt 0 (a+1)).mpr (iM (e7 a) (lA gi aL) (lA aw aL) lT)
theorem vQ:a<=100->a<=1000:=fun h=>cR (e7 a) aw (lN 100) aw (lN 1000) lT h
theorem L5:a<=7000000->0+2*a<=15000000:=fun h=>eE (e7 a) aw (lN 7000000) aw (lN 7000000) (lA gi (lM 2 aw)) (lN 15000000) lT h h
theorem L4{a:Nat}:(1:Int)<((((a+1)+1):Nat):Int):=(@Int.ofNat_lt 1 ((a+1)+1)).mpr (iM (e7 a) (lA aL aL) (lA (lA aw aL) aL) lT)
theorem L3:a+2*(b+1)<=15000000->c<=a->c<=16000000:=fun ha hb=>eE (eD a b c) (lA aw (lM 2 (lA aG aL))) (lN 15000000) bu aw bu (lN 16000000) lT ha hb
theorem L1:a+2*(b+1)<=15000000->a+2+2*b<=15000000:=fun h=>cR (dU a b) (lA aw (lM 2 (lA aG aL))) (lN 15000000) (lA (lA aw ny) (lM 2 aG)) (lN 15000000) lT h
theorem L0:a+2*(b+1)<=15000000->a+1<=15000000:=fun h=>cR (dU a b) (lA aw (lM 2 (lA aG aL))) (lN 15000000) (lA aw aL) (lN 15000000) lT h
theorem Ah{a:Int}:(7:Int)<=a->(7:Int)<=(a+(1:Int)):=fun h=>Int.le_of_lt (Int.lt_add_one_of_le h)
theorem vP{a b:Int}:(a+(1:Int))<=b->a<=b:=Int.le_of_lt
theorem LZ{a:Nat}:¬((0:Int)<((a:Nat):Int))->((a:Nat):Int)=((0:Nat):Int):=fun h=>(@Int.ofNat_inj a 0).mpr (Nat.le_antisymm (Nat.le_of_not_lt (mt (@Int.ofNat_lt 0 a).mpr h)) (iM (e7 a) gi aw lT))
theorem Ag{a:Int}:a<=(a+(1:Int)):=Int.le_of_lt (Int.lt_add_one_of_le (Int.le_refl a))
theorem vO{a:Int}:a<(a+(1:Int)):=Int.lt_add_one_of_le (Int.le_refl a)
theorem LY{a b c:Int}:a<b->b<=c->a=c->False:=fun h g e=>Int.lt_irrefl a (Int.lt_of_lt_of_le h (e.symm▸g))
theorem Di:a+b+c<=50->a<=100:=fun h=>cR (eD a b c) (lA (lA aw aG) bu) (lN 50) aw (lN 100) lT h
theorem Dh:a+(b+1)<=50->a+1+b<=50:=fun h=>cR (dU a b) (lA aw (lA aG aL)) (lN 50) (lA (lA aw aL) aG) (lN 50) lT h
theorem Dg:a+b+(c+1)<=50->a+(b+1)+c<=50:=fun h=>cR (eD a b c) (lA (lA aw aG) (lA bu aL)) (lN 50) (lA (lA aw (lA aG aL)) bu) (lN 50) lT h
theorem Df:a+(b+1)<=50->0+b<=50:=fun h=>cR (dU a b) (lA aw (lA aG aL)) (lN 50) (lA gi aG) (lN 50) lT h
theorem De:a+b+(c+1)<=50->a<=100:=fun h=>cR (eD a b c) (lA (lA aw aG) (lA bu aL)) (lN 50) aw (lN 100) lT h
theorem Dd:a+b+(c+1)<=50->b<=100:=fun h=>cR (eD a b c) (lA (lA aw aG) (lA bu aL)) (lN 50) aG (lN 100) lT h
theorem Dc:a+b+(c+1)<=50->a+b<=100:=fun h=>cR (eD a b c) (lA (lA aw aG) (lA bu aL)) (lN 50) (lA aw aG) (lN 100) lT h
theorem Db:a+b+(c+1)<=50->a+b+1+0+c<=50:=fun h=>cR (eD a b c) (lA (lA aw aG) (lA bu aL)) (lN 50) (lA (lA (lA (lA aw aG) aL) gi) bu) (lN 50) lT h
theorem LX{a b c:Int}:a<b->b<=c->c=a->False:=fun h g e=>Int.lt_irrefl a (Int.lt_of_lt_of_le h (e▸g))
theorem LV:a<=2->0+a<=50:=fun h=>cR (e7 a) aw ny (lA gi aw) (lN 50) lT h
theorem LU:a<=2->0+0+a<=50:=fun h=>cR (e7 a) aw ny (lA (lA gi gi) aw) (lN 50) lT h
theorem LS{a b c:Int}:a<=b->c<a->b=c->False:=fun h g e=>Int.lt_irrefl c (Int.lt_of_lt_of_le g (e▸h))
theorem LQ{a b c d:Int}:a<b->b<=c->c=d->d≠a:=fun h g e q=>Int.lt_irrefl a (Int.lt_of_lt_of_le h (q▸e▸g))
theorem C9{a b c:Int}:a<=b->b=c->a<=c:=fun h e=>e▸h
theorem LP{a b c:Int}:a=b->c=a->c=b:=fun h e=>e.trans h
theorem qi:a<=b+1->c<a->c<=b:=fun ha hb=>eE (eD a b c) aw (lA aG aL) (lA bu aL) aw bu aG lT ha hb
theorem LO:a+b<=b+a:=iM (dU a b) (lA aw aG) (lA aG aw) lT
theorem LN:a<=40->0+a<=50:=fun h=>cR (e7 a) aw (lN 40) (lA gi aw) (lN 50) lT h
theorem LM:a<=40->0+0+a<=50:=fun h=>cR (e7 a) aw (lN 40) (lA (lA gi gi) aw) (lN 50) lT h
theorem LL:a+2*(b+c)<=d->a+2*c+2*b<=d:=fun h=>cR (kQ a b c d) (lA aw (lM 2 (lA aG bu))) ei (lA (lA aw (lM 2 bu)) (lM 2 aG)) ei lT h
theorem LK:a+2*b<=c->d+1<=b->c=c-1+1:=fun ha hb=>(Nat.sub_add_cancel (eE (kQ a b c d) (lA aw (lM 2 aG)) bu (lA ei aL) aG aL bu lT ha hb)).symm
theorem LJ:a+1<=b->c+2*b<=d+1->c+1+2*a<=d:=fun ha hb=>pw (kQ a b c d) (lA aw aL) aG (lA aw aL) aG (lA bu (lM 2 aG)) (lA ei aL) (lA (lA bu aL) (lM 2 aw)) ei lT ha ha hb
theorem LI:a+1<=b->b=b-1+1:=fun h=>(Nat.sub_add_cancel (cR (dU a b) (lA aw aL) aG aL aG lT h)).symm
theorem LH{a b:Int}:a<=b->a<=(b+(1:Int)):=fun h=>Int.le_of_lt (Int.lt_add_one_of_le h)
theorem LG:0+2*a<=2*a:=iM (e7 a) (lA gi (lM 2 aw)) (lM 2 aw) lT
theorem LF:a<=2->a<=40:=fun h=>cR (e7 a) aw ny aw (lN 40) lT h
theorem LD:1<=a->a=a-1+1:=fun h=>(Nat.sub_add_cancel h).symm
theorem LC:a=b+1->c<=d->d+1=a->c<=b:=fun ha hb hc=>pw (kQ a b c d) aw (lA aG aL) bu ei (lA ei aL) aw bu aG lT (Nat.le_of_eq ha) hb (Nat.le_of_eq hc)
theorem C8{a:Nat}:((a:Nat):Int)<(((a:Nat):Int)+(1:Int)):=(@Int.ofNat_lt a (a+1)).mpr (iM (e7 a) (lA aw aL) (lA aw aL) lT)
theorem LB{a:Nat}{b:Int}:(((a+1):Nat):Int)<b->b≠(((a:Nat):Int)+(1:Int)):=fun h=>Int.ne_of_gt h
theorem LA{a:Nat}{b:Int}:(((a+1):Nat):Int)<b->((a:Nat):Int)<b:=fun h=>Int.lt_trans (Int.lt_add_one_of_le (Int.le_refl (a:Int))) h
theorem Lz{b:Nat}{a:Int}:a<=((b:Nat):Int)->a<=(((b+1):Nat):Int):=fun h=>Int.le_of_lt (Int.lt_add_one_of_le h)
theorem Ly{b:Nat}{a:Int}:a<=((b:Nat):Int)->a≠(((b:Nat):Int)+(1:Int)):=fun h=>Int.ne_of_lt (Int.lt_add_one_of_le h)
theorem Lx{a:Nat}:(((a:Nat):Int)+(1:Int))<=(((a+1):Nat):Int):=(@Int.ofNat_le (a+1) (a+1)).mpr (iM (e7 a) (lA aw aL) (lA aw aL) lT)
theorem Lw{a b:Nat}:(((((a+1):Nat):Int)+(1:Int))+((b:Nat):Int))=((((a:Nat):Int)+(1:Int))+(((b+1):Nat):Int)):=(@Int.ofNat_inj (((a+1)+1)+b) ((a+1)+(b+1))).mpr (vt (dU a b) (lA (lA (lA aw aL) aL) aG) (lA (lA aw aL) (lA aG aL)) lT)
theorem Lv:a=1->¬(1<a):=fun h=>Nat.not_lt_of_le (Nat.le_of_eq h)
theorem Lu:¬(a=1)->1<=a->1<a:=fun ha hb=>Nat.lt_of_le_of_ne hb (Ne.symm ha)
theorem Af:5<=a->a<5->False:=fun ha hb=>Nat.not_succ_le_zero 0 (eE (e7 a) AF aw (lA aw aL) AF aL gi lT ha hb)
theorem Ls{a:Nat}:((((0:Nat):Int)+(1:Int))+((a:Nat):Int))=(((a:Nat):Int)+(1:Int)):=(@Int.ofNat_inj ((0+1)+a) (a+1)).mpr (vt (e7 a) (lA (lA gi aL) aw) (lA aw aL) lT)
theorem Lr{a b c:Nat}:((a:Nat):Int)<(5:Int)->b<a->c<=1+b->c<=16000000:=fun ha hb hc=>pw (eD a b c) (lA aw aL) AF (lA aG aL) aw bu (lA aL aG) bu (lN 16000000) lT ((@Int.ofNat_lt a 5).mp ha) hb hc
theorem Lq:a<=1+b->c<=a+1->c<=1+(b+1):=fun ha hb=>eE (eD a b c) aw (lA aL aG) bu (lA aw aL) bu (lA aL (lA aG aL)) lT ha hb
theorem Lp{a b c d:Nat}:((a:Nat):Int)<(5:Int)->b<a->c<=1+b->d<=c->d<=8:=fun ha hb hc hd=>Ew (kQ a b c d) (lA aw aL) AF (lA aG aL) aw bu (lA aL aG) ei bu ei zm lT ((@Int.ofNat_lt a 5).mp ha) hb hc hd
theorem Lo{a b c:Nat}:((a:Nat):Int)<(5:Int)->b<a->c<=1+b->c<=1000:=fun ha hb hc=>pw (eD a b c) (lA aw aL) AF (lA aG aL) aw bu (lA aL aG) bu (lN 1000) lT ((@Int.ofNat_lt a 5).mp ha) hb hc
theorem Ln{a b:Nat}:((a:Nat):Int)<(5:Int)->b<=1+a->b<=6:=fun ha hb=>eE (dU a b) (lA aw aL) AF aG (lA aL aw) aG Eu lT ((@Int.ofNat_lt a 5).mp ha) hb
theorem Lm{a:Int}:(0:Int)<=a->¬((-(1:Int))=a):=fun h e=>by rw[←e]at h;exact absurd h (by decide)
theorem Ll:a+1<=b->a<=b:=fun h=>cR (dU a b) (lA aw aL) aG aw aG lT h
theorem Lk:a<b+1->¬(a=b)->a<b:=fun ha hb=>Nat.lt_of_le_of_ne (cR (dU a b) (lA aw aL) (lA aG aL) aw aG lT ha) hb
theorem Lj{a b:Int}:(a+(1:Int))<b->a<b:=fun h=>Int.lt_trans (Int.lt_add_one_of_le (Int.le_refl a)) h
theorem C7{b c:Nat}{a:Int}:((a+((b:Nat):Int))+((c:Nat):Int))=(a+(((b+c):Nat):Int)):=Int.add_assoc _ _ _
theorem Li:a+b+c=a+(b+c):=vt (eD a b c) (lA (lA aw aG) bu) (lA aw (lA aG bu)) lT
theorem Lh:0+a+b=a+b:=vt (dU a b) (lA (lA gi aw) aG) (lA aw aG) lT
theorem Lf{a b:Nat}:(((0:Int)+((a:Nat):Int))+((b:Nat):Int))=(((a+b):Nat):Int):=(@Int.ofNat_inj ((0+a)+b) (a+b)).mpr (vt (dU a b) (lA (lA gi aw) aG) (lA aw aG) lT)
theorem Ld{a:Int}:¬(((0:Int)<=a)/\(a<((0:Nat):Int))):=fun h=>Int.not_lt.mpr h.1 h.2
theorem Lc{b:Nat}{a:Int}:a=((b:Nat):Int)->((0:Int)<=a)/\(a<(((b+1):Nat):Int)):=fun e=>e▸⟨Int.natCast_nonneg b,Int.lt_add_one_of_le (Int.le_refl _)⟩
theorem Lb{b:Nat}{a:Int}:(((0:Int)<=a)/\(a<((b:Nat):Int)))->((0:Int)<=a)/\(a<(((b+1):Nat):Int)):=fun h=>⟨h.1,Int.lt_trans h.2 (Int.lt_add_one_of_le (Int.le_refl _))⟩
theorem La{b:Nat}{a:Int}:¬(a=((b:Nat):Int))->(¬(((0:Int)<=a)/\(a<((b:Nat):Int))))->¬(((0:Int)<=a)/\(a<(((b+1):Nat):Int))):=fun h g k=>g ⟨k.1,Int.lt_iff_le_and_ne.mpr ⟨Int.le_of_lt_add_one k.2,h⟩⟩
theorem K8{a:Int}:(-(1:Int))=a->(((0:Int)<=a)/\(a<(8:Int)))->False:=fun e h=>by rw[←e]at h;exact absurd h.1 (by decide)
theorem K7{a:Int}:(7:Int)<=a->¬(((0:Int)<=a)/\(a<((7:Nat):Int))):=fun h g=>Int.not_lt.mpr h g.2
theorem KZ{a:Nat}:¬(a=1)->¬(((a:Nat):Int)=(1:Int)):=fun h=>fun e1=>(Nat.not_succ_le_zero 0 (eE (e7 a) aL aw (lA aw aL) aL aL gi lT (Nat.le_of_eq ((@Int.ofNat_inj a 1).mp e1).symm) (Nat.lt_of_le_of_ne (Nat.le_of_eq ((@Int.ofNat_inj a 1).mp e1)) h)))
theorem KY:0<a->1<=b+a:=fun h=>cR (dU a b) (lA gi aL) aw aL (lA aG aw) lT h
theorem KW:a<=7*b->c<=7->c+a<=7*(b+1):=fun ha hb=>eE (eD a b c) aw (lM 7 aG) bu ty (lA bu aw) (lM 7 (lA aG aL)) lT ha hb
theorem KV:a<=227*b->c<=2->d<=7*c->16*d+2+1+a<=227*(b+1):=fun ha hb hc=>pw (kQ a b c d) aw (lM 227 aG) (lM 112 bu) (lM 112 ny) (lM 16 ei) (lM 16 (lM 7 bu)) (lA (lA (lA (lM 16 ei) ny) aL) aw) (lM 227 (lA aG aL)) lT ha (Nat.mul_le_mul_left 112 hb) (Nat.mul_le_mul_left 16 hc)
theorem KU:a<=3->b<=6->c<=7*a->d<=227*b->6*c+d<=6000000:=fun ha hb hc hd=>Ew (kQ d b a c) aw (lM 227 aG) (lM 227 bu) (lM 227 Fw) (lM 227 aG) (lM 227 Eu) (lM 6 ei) (lM 6 (lM 7 bu)) (lA (lM 6 ei) aw) (lN 6000000) lT hd (Nat.mul_le_mul_left 227 ha) (Nat.mul_le_mul_left 227 hb) (Nat.mul_le_mul_left 6 hc)
theorem KT{a:Int}:(0:Int)<=a->(0:Int)<=((2:Int)+a):=fun h=>Int.add_nonneg (by decide) h
theorem KS{a:Int}:a<(2:Int)->((2:Int)+a)<=(1000000:Int):=fun h=>Int.le_trans (Int.add_le_add_left (Int.le_of_lt h) 2) (by decide)
theorem KR{a:Int}:a<(2:Int)->(Int.toNat ((2:Int)+a))<=3:=fun h=>Int.toNat_le.mpr (show(2:Int)+a<=2+1 from Int.add_le_add_left (show a<=1 from Int.le_of_lt_add_one h) 2)
theorem KQ:a+(b+1)<=3->a+(0+1)+b<=3:=fun h=>cR (dU a b) (lA aw (lA aG aL)) Fw (lA (lA aw (lA gi aL)) aG) Fw lT h
theorem Ae:a<=7->a<=400:=fun h=>cR (e7 a) aw ty aw (lN 400) lT h
theorem KP:a<7->b<=a->b<=16000000:=fun ha hb=>eE (dU a b) (lA aw aL) ty aG aw aG (lN 16000000) lT ha hb
theorem KO:a<=8->b+(c+1)<=7+a->b<=16000000:=fun ha hb=>eE (eD a b c) aw zm (lA aG (lA bu aL)) (lA ty aw) aG (lN 16000000) lT ha hb
theorem KN:a+(b+1)<=7+c->d<=a+1->d+b<=7+c:=fun ha hb=>eE (kQ a b c d) (lA aw (lA aG aL)) (lA ty bu) ei (lA aw aL) (lA ei aG) (lA ty bu) lT ha hb
theorem KL:a<=6->a<=1000:=fun h=>cR (e7 a) aw Eu aw (lN 1000) lT h
theorem KJ{a:Nat}:(0:Int)<=((((a:Nat):Int)+(1:Int))-(1:Int)):=Int.le_trans (Int.natCast_nonneg a) (Int.le_of_eq (Int.add_sub_cancel (a:Int) 1).symm)
theorem KI{a:Nat}:(Int.toNat ((((a:Nat):Int)+(1:Int))-(1:Int)))=a:=congrArg Int.toNat (Int.add_sub_cancel (a:Int) 1)
theorem KH:a<=7->b<=2*a->b<=64:=fun ha hb=>pw (dU a b) aw ty aw ty aG (lM 2 aw) aG (lN 64) lT ha ha hb
theorem sU{df:Sort u0}{p0:Prop}{p1 p2:df->Prop}{r:Prop}(h:p0/\∃x0,p1 x0/\p2 x0)(f:p0->∀x0,p1 x0->p2 x0->r):r:=aY h.2 fun x0 q0=>f h.1 x0 q0.1 q0.2
theorem Ki{df:Sort u0}{fe:Sort u1}{p0:Prop}{p1:df->fe->Prop}{r:Prop}(h:p0/\∃x0,∃x1,p1 x0 x1)(f:p0->∀x0,∀x1,p1 x0 x1->r):r:=aY h.2 fun x0 q0=>aY q0 fun x1 q1=>f h.1 x0 x1 q1
theorem zO{df:Sort u0}{p0 p1:Prop}{p2 p3:df->Prop}{r:Prop}(h:p0/\p1/\∃x0,p2 x0/\p3 x0)(f:p0->p1->∀x0,p2 x0->p3 x0->r):r:=aY h.2.2 fun x0 q0=>f h.1 h.2.1 x0 q0.1 q0.2
theorem uz{df:Sort u0}{p0:Prop}{p1 p2 p3:df->Prop}{r:Prop}(h:p0/\∃x0,p1 x0/\p2 x0/\p3 x0)(f:p0->∀x0,p1 x0->p2 x0->p3 x0->r):r:=aY h.2 fun x0 q0=>f h.1 x0 q0.1 q0.2.1 q0.2.2
theorem rf{p0 p1 p2 p3 p4 p5:Prop}{r:Prop}(h:p0/\p1/\p2/\p3/\p4/\p5)(f:p0->p1->p2->p3->p4->p5->r):r:=f h.1 h.2.1 h.2.2.1 h.2.2.2.1 h.2.2.2.2.1 h.2.2.2.2.2
theorem eV{df:Sort u0}{p0 p1:Prop}{p2 p3 p4:df->Prop}{r:Prop}(h:p0/\p1/\∃x0,p2 x0/\p3 x0/\p4 x0)(f:p0->p1->∀x0,p2 x0->p3 x0->p4 x0->r):r:=aY h.2.2 fun x0 q0=>f h.1 h.2.1 x0 q0.1 q0.2.1 q0.2.2
theorem qZ{df:Sort u0}{fe:Sort u1}{p0:Prop}{p1 p2 p3:df->fe->Prop}{r:Prop}(h:p0/\∃x0,∃x1,p1 x0 x1/\p2 x0 x1/\p3 x0 x1)(f:p0->∀x0,∀x1,p1 x0 x1->p2 x0 x1->p3 x0 x1->r):r:=aY h.2 fun x0 q0=>aY q0 fun x1 q1=>f h.1 x0 x1 q1.1 q1.2.1 q1.2.2
theorem BU{df:Sort u0}{fe:Sort u1}{jB:Sort u2}{p0:Prop}{p1 p2:df->fe->jB->Prop}{r:Prop}(h:p0/\∃x0,∃x1,∃x2,p1 x0 x1 x2/\p2 x0 x1 x2)(f:p0->∀x0,∀x1,∀x2,p1 x0 x1 x2->p2 x0 x1 x2->r):r:=aY h.2 fun x0 q0=>aY q0 fun x1 q1=>aY q1 fun x2 q2=>f h.1 x0 x1 x2 q2.1 q2.2
theorem oY{df:Sort u0}{fe:Sort u1}{p0:Prop}{p1 p2 p3 p4:df->fe->Prop}{r:Prop}(h:p0/\∃x0,∃x1,p1 x0 x1/\p2 x0 x1/\p3 x0 x1/\p4 x0 x1)(f:p0->∀x0,∀x1,p1 x0 x1->p2 x0 x1->p3 x0 x1->p4 x0 x1->r):r:=aY h.2 fun x0 q0=>aY q0 fun x1 q1=>f h.1 x0 x1 q1.1 q1.2.1 q1.2.2.1 q1.2.2.2
theorem sR{df:Sort u0}{fe:Sort u1}{jB:Sort u2}{p0:Prop}{p1 p2 p3:df->fe->jB->Prop}{r:Prop}(h:p0/\∃x0,∃x1,∃x2,p1 x0 x1 x2/\p2 x0 x1 x2/\p3 x0 x1 x2)(f:p0->∀x0,∀x1,∀x2,p1 x0 x1 x2->p2 x0 x1 x2->p3 x0 x1 x2->r):r:=aY h.2 fun x0 q0=>aY q0 fun x1 q1=>aY q1 fun x2 q2=>f h.1 x0 x1 x2 q2.1 q2.2.1 q2.2.2
theorem eO{df:Sort u0}{p0 p1 p2 p3 p4 p5:df->Prop}{r:Prop}(h:∃x0,p0 x0/\p1 x0/\p2 x0/\p3 x0/\p4 x0/\p5 x0)(f:∀x0,p0 x0->p1 x0->p2 x0->p3 x0->p4 x0->p5 x0->r):r:=aY h fun x0 q0=>f x0 q0.1 q0.2.1 q0.2.2.1 q0.2.2.2.1 q0.2.2.2.2.1 q0.2.2.2.2.2
theorem w9{p0 p1 p2 p3 p4 p5 p6 p7:Prop}{r:Prop}(h:p0/\p1/\p2/\p3/\p4/\p5/\p6/\p7)(f:p0->p1->p2->p3->p4->p5->p6->p7->r):r:=f h.1 h.2.1 h.2.2.1 h.2.2.2.1 h.2.2.2.2.1 h.2.2.2.2.2.1 h.2.2.2.2.2.2.1 h.2.2.2.2.2.2.2
theorem w8{df:Sort u0}{fe:Sort u1}{p0:Prop}{p1 p2 p3 p4 p5:df->fe->Prop}{r:Prop}(h:p0/\∃x0,∃x1,p1 x0 x1/\p2 x0 x1/\p3 x0 x1/\p4 x0 x1/\p5 x0 x1)(f:p0->∀x0,∀x1,p1 x0 x1->p2 x0 x1->p3 x0 x1->p4 x0 x1->p5 x0 x1->r):r:=aY h.2 fun x0 q0=>aY q0 fun x1 q1=>f h.1 x0 x1 q1.1 q1.2.1 q1.2.2.1 q1.2.2.2.1 q1.2.2.2.2
theorem qe{df:Sort u0}{fe:Sort u1}{p0 p1:df->Prop}{p2 p3 p4 p5:df->fe->Prop}{r:Prop}(h:∃x0,p0 x0/\p1 x0/\∃x1,p2 x0 x1/\p3 x0 x1/\p4 x0 x1/\p5 x0 x1)(f:∀x0,p0 x0->p1 x0->∀x1,p2 x0 x1->p3 x0 x1->p4 x0 x1->p5 x0 x1->r):r:=aY h fun x0 q0=>aY q0.2.2 fun x1 q1=>f x0 q0.1 q0.2.1 x1 q1.1 q1.2.1 q1.2.2.1 q1.2.2.2
theorem fm{df:Sort u0}{fe:Sort u1}{p0 p1 p2 p3 p4 p5:df->fe->Prop}{r:Prop}(h:∃x0,∃x1,p0 x0 x1/\p1 x0 x1/\p2 x0 x1/\p3 x0 x1/\p4 x0 x1/\p5 x0 x1)(f:∀x0,∀x1,p0 x0 x1->p1 x0 x1->p2 x0 x1->p3 x0 x1->p4 x0 x1->p5 x0 x1->r):r:=aY h fun x0 q0=>aY q0 fun x1 q1=>f x0 x1 q1.1 q1.2.1 q1.2.2.1 q1.2.2.2.1 q1.2.2.2.2.1 q1.2.2.2.2.2
theorem fS{p0 p1 p2 p3 p4 p5 p6 p7 p8:Prop}{r:Prop}(h:p0/\p1/\p2/\p3/\p4/\p5/\p6/\p7/\p8)(f:p0->p1->p2->p3->p4->p5->p6->p7->p8->r):r:=f h.1 h.2.1 h.2.2.1 h.2.2.2.1 h.2.2.2.2.1 h.2.2.2.2.2.1 h.2.2.2.2.2.2.1 h.2.2.2.2.2.2.2.1 h.2.2.2.2.2.2.2.2
theorem mM{p0 p1 p2 p3 p4 p5 p6 p7 p8 p9:Prop}{r:Prop}(h:p0/\p1/\p2/\p3/\p4/\p5/\p6/\p7/\p8/\p9)(f:p0->p1->p2->p3->p4->p5->p6->p7->p8->p9->r):r:=f h.1 h.2.1 h.2.2.1 h.2.2.2.1 h.2.2.2.2.1 h.2.2.2.2.2.1 h.2.2.2.2.2.2.1 h.2.2.2.2.2.2.2.1 h.2.2.2.2.2.2.2.2.1 h.2.2.2.2.2.2.2.2.2
theorem mL{df:Sort u0}{fe:Sort u1}{jB:Sort u2}{vY:Sort u3}{p0:Prop}{p1 p2:df->fe->Prop}{p3 p4 p5:df->fe->jB->vY->Prop}{r:Prop}(h:p0/\∃x0,∃x1,p1 x0 x1/\p2 x0 x1/\∃x2,∃x3,p3 x0 x1 x2 x3/\p4 x0 x1 x2 x3/\p5 x0 x1 x2 x3)(f:p0->∀x0,∀x1,p1 x0 x1->p2 x0 x1->∀x2,∀x3,p3 x0 x1 x2 x3->p4 x0 x1 x2 x3->p5 x0 x1 x2 x3->r):r:=aY h.2 fun x0 q0=>aY q0 fun x1 q1=>aY q1.2.2 fun x2 q2=>aY q2 fun x3 q3=>f h.1 x0 x1 q1.1 q1.2.1 x2 x3 q3.1 q3.2.1 q3.2.2
theorem f9{df:Sort u0}{fe:Sort u1}{jB:Sort u2}{vY:Sort u3}{AK:Sort u4}{p0 p1 p2 p3 p4:df->fe->jB->vY->AK->Prop}{r:Prop}(h:∃x0,∃x1,∃x2,∃x3,∃x4,p0 x0 x1 x2 x3 x4/\p1 x0 x1 x2 x3 x4/\p2 x0 x1 x2 x3 x4/\p3 x0 x1 x2 x3 x4/\p4 x0 x1 x2 x3 x4)(f:∀x0,∀x1,∀x2,∀x3,∀x4,p0 x0 x1 x2 x3 x4->p1 x0 x1 x2 x3 x4->p2 x0 x1 x2 x3 x4->p3 x0 x1 x2 x3 x4->p4 x0 x1 x2 x3 x4->r):r:=aY h fun x0 q0=>aY q0 fun x1 q1=>aY q1 fun x2 q2=>aY q2 fun x3 q3=>aY q3 fun x4 q4=>f x0 x1 x2 x3 x4 q4.1 q4.2.1 q4.2.2.1 q4.2.2.2.1 q4.2.2.2.2
theorem oZ{p0 p1 p2 p3 p4 p5 p6 p7 p8 p9 yH yG CG:Prop}{r:Prop}(h:p0/\p1/\p2/\p3/\p4/\p5/\p6/\p7/\p8/\p9/\yH/\yG/\CG)(f:p0->p1->p2->p3->p4->p5->p6->p7->p8->p9->yH->yG->CG->r):r:=f h.1 h.2.1 h.2.2.1 h.2.2.2.1 h.2.2.2.2.1 h.2.2.2.2.2.1 h.2.2.2.2.2.2.1 h.2.2.2.2.2.2.2.1 h.2.2.2.2.2.2.2.2.1 h.2.2.2.2.2.2.2.2.2.1 h.2.2.2.2.2.2.2.2.2.2.1 h.2.2.2.2.2.2.2.2.2.2.2.1 h.2.2.2.2.2.2.2.2.2.2.2.2
theorem et{p0 p1 p2 p3 p4 p5 p6 p7 p8 p9 yH yG CG Im Il:Prop}{r:Prop}(h:p0/\p1/\p2/\p3/\p4/\p5/\p6/\p7/\p8/\p9/\yH/\yG/\CG/\Im/\Il)(f:p0->p1->p2->p3->p4->p5->p6->p7->p8->p9->yH->yG->CG->Im->Il->r):r:=f h.1 h.2.1 h.2.2.1 h.2.2.2.1 h.2.2.2.2.1 h.2.2.2.2.2.1 h.2.2.2.2.2.2.1 h.2.2.2.2.2.2.2.1 h.2.2.2.2.2.2.2.2.1 h.2.2.2.2.2.2.2.2.2.1 h.2.2.2.2.2.2.2.2.2.2.1 h.2.2.2.2.2.2.2.2.2.2.2.1 h.2.2.2.2.2.2.2.2.2.2.2.2.1 h.2.2.2.2.2.2.2.2.2.2.2.2.2.1 h.2.2.2.2.2.2.2.2.2.2.2.2.2.2
theorem YP:True:=by
 k_with"as"=>(with_reducible assumption)
 trivial
structure Ev where
 w:World
 ub:ExcName->Option Value
 mg:Str->Option Value
 mb:Str->Option Value
variable{e:Ev}
noncomputable def KK(p:Params):Frag:=hd.heap_39 p
noncomputable def Ev.G(e:Ev):Gl:={ prog:=PySem.Challenge.rw_rh0103_02.row.prog,w:=e.w,K:=KK e.w.params,p:=hd.view_39,loose:=looseW hd.view_39 [],ub:=e.ub,mg:=e.mg,mb:=e.mb }
noncomputable def Uo:Data->Option FuncData
 |.func fd=>some fd
 |_=>none
noncomputable def zG(K:Frag)(f:Addr):Option FuncData:=(K.lookup f).bind fun o=>Uo o.data
noncomputable def jL(p:Params)(f:Addr):FuncData:=(zG (KK p) f).getD default
noncomputable def iI:FuncBody->List Stmt
 |.stmts b=>b
 |_=>[]
noncomputable def yQ(K:Frag)(fd:FuncData):Bool:=(match fd.body with|.stmts _=>true|_=>false)&&fd.globals==mainGlobals&&fd.closure.isEmpty&&fd.builtins==builtinsNs&&codeIn K fd.code fd.qualname&&!fd.scope.isCoroutine&&!fd.scope.isGenerator&&fd.scope.kind==.function
noncomputable def Pe(K:Frag)(fd:FuncData)(ns:List Str):Bool:=yQ K fd&&(ns.all fun y=>fd.scope.names.lookup y==some .local)&&(fd.scope.names.all fun x=>x.2!=.cell)
noncomputable def Un(fd:FuncData):FuncData:=fnOf fd.name fd.qualname fd.params (iI fd.body) fd.scope fd.defaults fd.kwdefaults fd.doc fd.pyModule fd.annotations fd.code fd.closureTuple
theorem E0{α β γ δ ε:Type}(F:α->β->γ->δ->ε){a a':α}{b b':β}{c c':γ}{d d':δ}(h1:a=a')(h2:b=b')(h3:c=c')(h4:d=d'):F a b c d=F a' b' c' d':=by rw[h1,h2,h3,h4]
theorem Jn{bd:FuncBody}(h:(match bd with|.stmts _=>true|_=>false)=true):bd=.stmts (iI bd):=by
 cases bd with
 |stmts b=>rfl
 |expr _=>exact(jx h).elim
theorem ER{fd:FuncData}(h1:fd.body=.stmts (iI fd.body))(h2:fd.globals=mainGlobals)(h3:fd.closure=[])(h4:fd.builtins=builtinsNs):fd=Un fd:=
 E0 (fun bd g c b=>FuncData.mk fd.name fd.qualname fd.params bd fd.scope g c fd.defaults fd.kwdefaults fd.doc fd.pyModule fd.annotations fd.code fd.closureTuple b) h1 h2 h3 h4
theorem mu{a b:Bool}(h:(a&&b)=true):a=true/\b=true:=by cases a<;>cases b<;>first|exact⟨rfl,rfl⟩|cases h
theorem Kt{a:Bool}(h:(!a)=true):a=false:=by cases a<;>first|rfl|cases h
theorem os{K:Frag}{fd:FuncData}(h:yQ K fd=true):fd=Un fd/\codeIn K fd.code fd.qualname=true/\fd.scope.isCoroutine=false/\fd.scope.isGenerator=false/\fd.scope.kind=.function:=by
 obtain⟨h,h8⟩:=mu h
 obtain⟨h,h7⟩:=mu h
 obtain⟨h,h6⟩:=mu h
 obtain⟨h,h5⟩:=mu h
 obtain⟨h,h4⟩:=mu h
 obtain⟨h,h3⟩:=mu h
 obtain⟨h1,h2⟩:=mu h
 exact⟨ER (Jn h1) (eq_of_beq h2) (List.isEmpty_iff.mp h3) (eq_of_beq h4),h5,Kt h6,Kt h7,eq_of_beq h8⟩
theorem ES{d:Data}{fd:FuncData}(h:Uo d=some fd):d=.func fd:=by
 cases d<;>first|exact congrArg _ (Option.some.inj h)|exact ax h
theorem qU{K:Frag}{f:Addr}{fd Uq:FuncData}(h:zG K f=some fd)(e:fd=Uq):∃oc od AD,K.lookup f=some ⟨oc,od,.func Uq,AD⟩:=by
 subst e
 obtain⟨o,hl,hd⟩:=Option.bind_eq_some_iff.mp h
 exact⟨o.cls,o.dict,o.slots,hl.trans (congrArg (fun x=>some (Obj.mk o.cls o.dict x o.slots)) (ES hd))⟩
theorem bj{D:Nat}{H:ah}{f:Addr}{ns:List Str}{args:List AV}{Q:AQ}(hf:zG (KK e.w.params) f=some (jL e.w.params f))(qO:Pe (KK e.w.params) (jL e.w.params f) ns=true)(hlen:args.length=ns.length)
 (jf:∀vals:List Value,vals.length=ns.length->bindArgs (jL e.w.params f) ⟨vals,[]⟩=pure (ns.zip vals))
 (h:WS e.G D (jL e.w.params f).scope [] (iI (jL e.w.params f).body) (ns.zip args).reverse H fun fl _ H'=>Q (lU fl) H'):WC e.G (D+1) (.ref f) args H Q:=by
 obtain⟨qO,h7⟩:=mu qO
 obtain⟨qO,h6⟩:=mu qO
 obtain⟨q,h5,h8,h9,J6⟩:=os qO
 obtain⟨oc,od,AD,hl⟩:=qU hf q
 exact DS hl h5 (fun vals lv=>(congrArg (fun x=>bindArgs x ⟨vals,[]⟩) q).symm.trans (jf vals lv)) (fun y hy=>eq_of_beq (List.all_eq_true.mp h6 y hy)) (fun x hx=>bne_iff_ne.mp (List.all_eq_true.mp h7 x hx)) h8 h9 J6 hlen h
noncomputable abbrev V8:=Fin 8
noncomputable def vi(k:V8):Int:=(k.val:Int)
set_option genInjectivity true in
inductive Tm where
 |v (k:V8)
 |a (n:Int)
 |i (n:Int)
 |s1 (t:Tm)
 |s2 (f:Bool) (t u:Tm)
noncomputable def Tm.cH:Tm->Bool
 |.s1 _=>true
 |.s2 _ _ _=>true
 |_=>false
theorem rj:∀k,Tm.cH (.v k)=false:=fun _=>rfl
theorem rp:∀n,Tm.cH (.a n)=false:=fun _=>rfl
theorem rn:∀n,Tm.cH (.i n)=false:=fun _=>rfl
theorem po:∀t,Tm.cH (.s1 t)=true:=fun _=>rfl
theorem pn:∀f t u,Tm.cH (.s2 f t u)=true:=fun _ _ _=>rfl
noncomputable def Tm.tA:Tm->Bool
 |.v _=>true
 |_=>false
theorem Cb:∀k,Tm.tA (.v k)=true:=fun _=>rfl
theorem Cd:∀n,Tm.tA (.a n)=false:=fun _=>rfl
theorem Cc:∀n,Tm.tA (.i n)=false:=fun _=>rfl
theorem Ax:∀t,Tm.tA (.s1 t)=false:=fun _=>rfl
theorem Aw:∀f t u,Tm.tA (.s2 f t u)=false:=fun _ _ _=>rfl
noncomputable def Tm.args:Tm->List Tm
 |.s1 t=>[t]
 |.s2 _ t u=>[t,u]
 |_=>[]
theorem eR:∀k,Tm.args (.v k)=[]:=fun _=>rfl
theorem eU:∀n,Tm.args (.a n)=[]:=fun _=>rfl
theorem eS:∀n,Tm.args (.i n)=[]:=fun _=>rfl
theorem dX:∀t,Tm.args (.s1 t)=[t]:=fun _=>rfl
theorem dW:∀f t u,Tm.args (.s2 f t u)=[t,u]:=fun _ _ _=>rfl
noncomputable def Tm.fn:Tm->Int
 |.s1 _=>12
 |.s2 false _ _=>0
 |.s2 true _ _=>14
 |_=>0
noncomputable def Tm.size:Tm->Nat
 |.s1 t=>t.size+1
 |.s2 _ t u=>t.size+u.size+1
 |_=>1
theorem bL:∀k,Tm.size (.v k)=1:=fun _=>rfl
theorem bN:∀n,Tm.size (.a n)=1:=fun _=>rfl
theorem bM:∀n,Tm.size (.i n)=1:=fun _=>rfl
theorem bE:∀t,Tm.size (.s1 t)=t.size+1:=fun _=>rfl
theorem bD:∀f t u,Tm.size (.s2 f t u)=t.size+u.size+1:=fun _ _ _=>rfl
noncomputable def sS(x:String):AV:=.str (Str.ofString x)
noncomputable def Tm.av:Tm->AV
 |.v k=>.tup [sS "v",.int (vi k)]
 |.a n=>.tup [sS "a",.int n]
 |.i n=>.tup [sS "i",.int n]
 |.s1 t=>.tup [sS "s",.int 12,.tup [t.av]]
 |.s2 false t u=>.tup [sS "s",.int 0,.tup [t.av,u.av]]
 |.s2 true t u=>.tup [sS "s",.int 14,.tup [t.av,u.av]]
noncomputable def Tm.occs:Tm->List V8
 |.v k=>[k]
 |.s1 t=>t.occs
 |.s2 _ t u=>t.occs++u.occs
 |_=>[]
theorem dP:∀k,Tm.occs (.v k)=[k]:=fun _=>rfl
theorem dR:∀n,Tm.occs (.a n)=[]:=fun _=>rfl
theorem dQ:∀n,Tm.occs (.i n)=[]:=fun _=>rfl
theorem c8:∀t,Tm.occs (.s1 t)=t.occs:=fun _=>rfl
theorem cZ:∀f t u,Tm.occs (.s2 f t u)=t.occs++u.occs:=fun _ _ _=>rfl
noncomputable def d9:List V8->List V8->List V8
 |_,[]=>[]
 |seen,k::r=>if k∈seen then d9 seen r else k::d9 (k::seen) r
theorem jg:∀s,d9 s []=[]:=fun _=>rfl
theorem fy:∀s k r,d9 s (k::r)=if k∈s then d9 s r else k::d9 (k::s) r:=fun _ _ _=>rfl
noncomputable def Tm.vars(t:Tm):List V8:=d9 [] t.occs
inductive Part where
 |t (n:Int)
 |y (n:Int)
 |a (n:Int)
 |c (k n:Int)
 |num (i:Int)
noncomputable def Part.av:Part->AV
 |.t n=>.tup [sS "t",.int n]
 |.y n=>.tup [sS "y",.int n]
 |.a n=>.tup [sS "a",.int n]
 |.c k n=>.tup [.int k,.int n]
 |.num i=>.int i
noncomputable abbrev Row:=String×List Part
noncomputable def Row.av(r:Row):AV:=.tup (sS r.1::r.2.map Part.av)
inductive Kind where
 |void|perm|rI
 deriving DecidableEq
structure aX where
 pc:V8->Bool
 kind:V8->Kind
 slot:V8->Int
 AU:V8->Bool
 last:V8->Int
 fh:Bool
 size:Int
 live:List Int
structure CS where
 code:List Row
 seen:V8->Bool
 loc:V8->Bool
 next:Int
noncomputable def nA(S:V8->Bool)(k:V8):V8->Bool:=fun x=>S x||decide (x=k)
noncomputable def del(S:V8->Bool)(k:V8):V8->Bool:=fun x=>S x&&!decide (x=k)
noncomputable def CS.emit(st:CS)(w:String)(ps:List Part):CS:={ st with code:=st.code++[(w,ps)] }
noncomputable def CS.pt(st:CS)(k:V8):CS:={ st with seen:=nA st.seen k }
noncomputable def CS.gk(st:CS)(k:V8):CS:={ st with loc:=nA st.loc k }
noncomputable def CS.pe(st:CS)(k:V8):CS:={ st with loc:=del st.loc k }
noncomputable def CS.tick(st:CS):CS:={ st with next:=st.next+1 }
noncomputable def aX.place(P:aX)(k:V8):Part:=if P.kind k=.perm then .y (P.slot k)else .t (vi k)
noncomputable def aX.void(P:aX)(k:V8):Bool:=decide (P.kind k=.void)
noncomputable def aX.perm(P:aX)(k:V8):Bool:=decide (P.kind k=.perm)
noncomputable def Tm.cell:Tm->Part
 |.a n=>.c 4 n
 |.i n=>.c 5 n
 |_=>.c 5 0
theorem NI:∀k,Tm.cell (.v k)=.c 5 0:=fun _=>rfl
theorem NK:∀n,Tm.cell (.a n)=.c 4 n:=fun _=>rfl
theorem NJ:∀n,Tm.cell (.i n)=.c 5 n:=fun _=>rfl
theorem FD:∀t,Tm.cell (.s1 t)=.c 5 0:=fun _=>rfl
theorem FC:∀f t u,Tm.cell (.s2 f t u)=.c 5 0:=fun _ _ _=>rfl
noncomputable def isVoid(P:aX):Tm->Bool
 |.v k=>P.void k
 |_=>false
theorem jb:∀P k,isVoid P (.v k)=P.void k:=fun _ _=>rfl
theorem jd:∀P n,isVoid P (.a n)=false:=fun _ _=>rfl
theorem jc:∀P n,isVoid P (.i n)=false:=fun _ _=>rfl
theorem hX:∀P t,isVoid P (.s1 t)=false:=fun _ _=>rfl
theorem hU:∀P f t u,isVoid P (.s2 f t u)=false:=fun _ _ _ _=>rfl
noncomputable def co(w:String)(aM:Int)(st:CS):CS:=if 0<aM then st.emit w [.num aM]else st
noncomputable def qu(aM:Int):Int:=if 0<aM then 0 else aM
noncomputable def pD(P:aX)(k:V8)(st:CS):CS:=
 if st.seen k then(if st.loc k then st.emit "unify_local_value" [P.place k]else st.emit "unify_value" [P.place k])
 else(st.pt k).emit "unify_variable" [P.place k]
noncomputable def eB(P:aX)(arg:Tm)(nested:List (Tm×Part))(st:CS):List (Tm×Part)×CS:=
 match arg with
 |.v k=>(nested,pD P k st)
 |.a n=>(nested,st.emit "unify_constant" [.c 4 n])
 |.i n=>(nested,st.emit "unify_constant" [.c 5 n])
 |t=>(nested++[(t,.t st.next)],st.tick.emit "unify_variable" [.t st.next])
theorem ud:∀P k ns st,eB P (.v k) ns st=(ns,pD P k st):=fun _ _ _ _=>rfl
theorem uf:∀P n ns st,eB P (.a n) ns st=(ns,st.emit "unify_constant" [.c 4 n]):=fun _ _ _ _=>rfl
theorem ue:∀P n ns st,eB P (.i n) ns st=(ns,st.emit "unify_constant" [.c 5 n]):=fun _ _ _ _=>rfl
theorem qJ:∀P t ns st,eB P (.s1 t) ns st=(ns++[(.s1 t,.t st.next)],st.tick.emit "unify_variable" [.t st.next]):=fun _ _ _ _=>rfl
theorem qI:∀P f t u ns st,eB P (.s2 f t u) ns st=(ns++[(.s2 f t u,.t st.next)],st.tick.emit "unify_variable" [.t st.next]):=fun _ _ _ _ _ _=>rfl
noncomputable def bQ(P:aX):List Tm->Int->List (Tm×Part)->CS->List (Tm×Part)×CS
 |[],aM,nested,st=>(nested,co "unify_void" aM st)
 |arg::au,aM,nested,st=>
  if isVoid P arg then bQ P au (aM+1) nested st
  else let r:=eB P arg nested (co "unify_void" aM st);bQ P au (qu aM) r.1 r.2
noncomputable def aZ(st:CS)(w:String)(t:Tm)(reg:Part):CS:=if t.fn=0 then st.emit (w++"_list") [reg]else st.emit (w++"_structure") [.num t.fn,reg]
noncomputable def e6(P:aX):Nat->List (Tm×Part)->CS->CS
 |0,_,st=>st
 |_+1,[],st=>st
 |n+1,(t,reg)::ws,st=>let r:=bQ P t.args 0 [] (aZ st "get" t reg);e6 P n (r.1++ws) r.2
theorem IC:∀P n t reg ws st,e6 P (n+1) ((t,reg)::ws) st=e6 P n ((bQ P t.args 0 [] (aZ st "get" t reg)).1++ws) (bQ P t.args 0 [] (aZ st "get" t reg)).2:=fun _ _ _ _ _ _=>rfl
noncomputable def fR(P:aX)(t:Tm)(reg:Part)(st:CS):CS:=e6 P t.size [(t,reg)] st
noncomputable def cE(P:aX)(t:Tm)(src:Part)(st:CS):CS:=
 match t with
 |.v k=>if P.void k then st else if st.seen k then st.emit "get_value" [P.place k,src]else((st.pt k).gk k).emit "get_variable" [P.place k,src]
 |.a n=>st.emit "get_constant" [.c 4 n,src]
 |.i n=>st.emit "get_constant" [.c 5 n,src]
 |t=>fR P t src st
theorem mi:∀P k src st,cE P (.v k) src st=if P.void k then st else if st.seen k then st.emit "get_value" [P.place k,src]else((st.pt k).gk k).emit "get_variable" [P.place k,src]:=fun _ _ _ _=>rfl
theorem ml:∀P n src st,cE P (.a n) src st=st.emit "get_constant" [.c 4 n,src]:=fun _ _ _ _=>rfl
theorem mj:∀P n src st,cE P (.i n) src st=st.emit "get_constant" [.c 5 n,src]:=fun _ _ _ _=>rfl
theorem jZ:∀P t src st,cE P (.s1 t) src st=fR P (.s1 t) src st:=fun _ _ _ _=>rfl
theorem jY:∀P f t u src st,cE P (.s2 f t u) src st=fR P (.s2 f t u) src st:=fun _ _ _ _ _ _=>rfl
noncomputable def gY(P:aX)(k:V8)(st:CS):CS:=
 if st.seen k then(if st.loc k then(if P.perm k then st.emit "set_local_value" [P.place k]else(st.emit "set_local_value" [P.place k]).pe k)else st.emit "set_value" [P.place k])
 else(st.pt k).emit "set_variable" [P.place k]
set_option genInjectivity true in
inductive Piece where
 |tm (t:Tm)
 |reg (n:Int)
noncomputable def Piece.av:Piece->AV
 |.tm t=>t.av
 |.reg n=>(Part.t n).av
noncomputable def Piece.isVoid(P:aX):Piece->Bool
 |.tm t=>Mine.isVoid P t
 |.reg _=>false
theorem fW:∀P t,Piece.isVoid P (.tm t)=Mine.isVoid P t:=fun _ _=>rfl
theorem fX:∀P n,Piece.isVoid P (.reg n)=false:=fun _ _=>rfl
noncomputable def eY(P:aX)(p:Piece)(st:CS):CS:=
 match p with
 |.reg n=>st.emit "set_value" [.t n]
 |.tm (.v k)=>gY P k st
 |.tm (.a n)=>st.emit "set_constant" [.c 4 n]
 |.tm (.i n)=>st.emit "set_constant" [.c 5 n]
 |.tm _=>st
theorem kF:∀P n st,eY P (.reg n) st=st.emit "set_value" [.t n]:=fun _ _ _=>rfl
theorem kE:∀P k st,eY P (.tm (.v k)) st=gY P k st:=fun _ _ _=>rfl
theorem kH:∀P n st,eY P (.tm (.a n)) st=st.emit "set_constant" [.c 4 n]:=fun _ _ _=>rfl
theorem kG:∀P n st,eY P (.tm (.i n)) st=st.emit "set_constant" [.c 5 n]:=fun _ _ _=>rfl
theorem jt:∀P t st,eY P (.tm (.s1 t)) st=st:=fun _ _ _=>rfl
theorem js:∀P f t u st,eY P (.tm (.s2 f t u)) st=st:=fun _ _ _ _ _=>rfl
noncomputable def bm(P:aX):List Piece->Int->CS->CS
 |[],aM,st=>co "set_void" aM st
 |p::au,aM,st=>if p.isVoid P then bm P au (aM+1) st else bm P au (qu aM) (eY P p (co "set_void" aM st))
noncomputable def bG:Tm->List Tm
 |.s1 t=>if t.cH then[t]else[]
 |.s2 _ t u=>(if u.cH then[u]else[])++(if t.cH then[t]else[])
 |_=>[]
theorem bp:∀t,bG (.s1 t)=if t.cH then[t]else[]:=fun _=>rfl
theorem bn:∀f t u,bG (.s2 f t u)=(if u.cH then[u]else[])++(if t.cH then[t]else[]):=fun _ _ _=>rfl
theorem bz:∀k,bG (.v k)=[]:=fun _=>rfl
theorem bB:∀k,bG (.a k)=[]:=fun _=>rfl
theorem bA:∀k,bG (.i k)=[]:=fun _=>rfl
noncomputable def aQ(t:Tm)(cq:List Int):Piece×List Int:=
 if t.cH then(match cq with|b::r=>(.reg b,r)|[]=>(.tm t,[]))else(.tm t,cq)
noncomputable def be:Tm->List Int->List Piece×List Int
 |.s1 t,cq=>let r:=aQ t cq;([r.1],r.2)
 |.s2 _ t u,cq=>let r:=aQ t cq;let q:=aQ u r.2;([r.1,q.1],q.2)
 |_,cq=>([],cq)
theorem bU:∀t b,be (.s1 t) b=([(aQ t b).1],(aQ t b).2):=fun _ _=>rfl
theorem bT:∀f t u b,be (.s2 f t u) b=([(aQ t b).1,(aQ u (aQ t b).2).1],(aQ u (aQ t b).2).2):=fun _ _ _ _=>rfl
theorem cf:∀k b,be (.v k) b=([],b):=fun _ _=>rfl
theorem ch:∀k b,be (.a k) b=([],b):=fun _ _=>rfl
theorem cg:∀k b,be (.i k) b=([],b):=fun _ _=>rfl
noncomputable def fo(P:aX)(target:Part):Nat->List (Bool×Tm)->List Int->CS->CS
 |0,_,_,st=>st
 |_+1,[],_,st=>st
 |n+1,(false,t)::ws,cq,st=>fo P target n ((bG t).map (fun x=>(false,x))++(true,t)::ws) cq st
 |n+1,(true,t)::ws,cq,st=>
  let r:=be t cq
  match ws with
  |[]=>fo P target n [] (0::r.2) (bm P r.1 0 (aZ st "put" t target))
  |w::ws=>fo P target n (w::ws) (st.next::r.2) (bm P r.1 0 (aZ st.tick "put" t (.t st.next)))
noncomputable def gV(P:aX)(t:Tm)(target:Part)(st:CS):CS:=fo P target (2*t.size) [(false,t)] [] st
noncomputable def oU(P:aX)(k:V8)(st:CS):Int×CS:=if P.perm k then(st.next,st.tick)else(vi k,st)
noncomputable def tX(P:aX)(k:V8)(r:Int)(st:CS):CS:=if P.perm k then(st.pt k).emit "get_variable" [P.place k,.t r]else st.pt k
noncomputable def sx(P:aX)(k:V8)(r:Int)(st:CS):CS:=if st.loc k then st.emit "put_unsafe_value" [P.place k,.t r]else st.emit "put_value" [P.place k,.t r]
noncomputable def Cw(P:aX)(k:V8)(st:CS):Int×CS:=if P.perm k then(st.next,sx P k st.next st.tick)else(vi k,st)
noncomputable def mf(P:aX)(k:V8)(st:CS):CS:=if P.void k then st else let r:=oU P k st;tX P k r.1 (r.2.emit "put_void" [.t r.1])
noncomputable def As(P:aX)(k old:V8)(st:CS):CS:=
 if P.void k then st
 else if P.perm old then(let r:=oU P k st;tX P k r.1 (sx P old r.1 r.2))
 else
  let cY:=if st.loc old then st.gk k else st
  if P.perm k then(cY.pt k).emit "get_variable" [P.place k,P.place old]else(cY.pt k).emit "put_value" [P.place old,P.place k]
noncomputable def v6(P:aX)(j k:V8)(st:CS):CS:=
 if st.seen j&&st.seen k then
  if j=k then st
  else if P.perm j then(let r:=Cw P k st;r.2.emit "get_value" [P.place j,.t r.1])
  else st.emit "get_value" [P.place k,P.place j]
 else if st.seen j then As P k j st
 else if st.seen k then As P j k st
 else
  let cY:=mf P k st
  if j=k then cY else if cY.seen k then As P j k cY else mf P j cY
noncomputable def Fj(P:aX)(k:V8)(t:Tm)(st:CS):CS:=
 match t with
 |.v j=>v6 P k j st
 |t=>
  let cY:=if !st.seen k&&decide (k∈t.occs)then mf P k st else st
  if cY.seen k then
   let r:=Cw P k cY
   if t.cH then fR P t (.t r.1) r.2 else r.2.emit "get_constant" [t.cell,.t r.1]
  else if P.void k then(if t.cH then gV P t (.t cY.next) cY.tick else cY)
  else
   let r:=oU P k cY
   tX P k r.1 (if t.cH then gV P t (.t r.1) r.2 else r.2.emit "put_constant" [t.cell,.t r.1])
noncomputable def v7(P:aX)(l r:Tm)(st:CS):CS:=st
inductive Goal where
 |call (f:Int) (as:List Tm)
 |builtin (f:Int) (as:List Tm)
 |unify (l r:Tm)
 |cut
 |level (k:V8)
 |mark (k:V8)
 |eA (k:V8)
noncomputable def Goal.av:Goal->AV
 |.call f as=>.tup [sS "call",.int f,.tup (as.map Tm.av)]
 |.builtin f as=>.tup [sS "builtin",.int f,.tup (as.map Tm.av)]
 |.unify l r=>.tup [sS "unify",l.av,r.av]
 |.cut=>.tup [sS "cut"]
 |.level k=>.tup [sS "level",.int (vi k)]
 |.mark k=>.tup [sS "mark",.int (vi k)]
 |.eA k=>.tup [sS "cutto",.int (vi k)]
noncomputable def dD(P:aX)(k:V8)(target:Part)(leaving:Int)(st:CS):CS:=
 if P.void k then st.emit "put_void" [target]
 else if st.seen k then
  if P.AU k&&decide (0<=leaving)&&decide (P.last k=leaving)then st.emit "put_unsafe_value" [P.place k,target]else st.emit "put_value" [P.place k,target]
 else if P.perm k then((st.pt k).gk k).emit "put_variable" [P.place k,target]else(st.pt k).emit "put_variable" [P.place k,target]
noncomputable def cB(P:aX)(t:Tm)(target:Part)(leaving:Int)(st:CS):CS:=
 match t with
 |.v k=>dD P k target leaving st
 |.a n=>st.emit "put_constant" [.c 4 n,target]
 |.i n=>st.emit "put_constant" [.c 5 n,target]
 |t=>gV P t target st
noncomputable def cc(P:aX)(leaving:Int):List Tm->Int->CS->CS
 |[],_,st=>st
 |t::r,n,st=>cc P leaving r (n+1) (cB P t (.a (n+1)) leaving st)
noncomputable def cy(P:aX)(w:String)(k:V8)(st:CS):CS:=if P.void k then st else(st.pt k).emit w [P.place k]
noncomputable def gS(P:aX)(g:Goal)(index:Int)(st:CS):CS:=
 match g with
 |.call _ as=>cc P index as 0 st
 |.builtin f as=>(cc P (-1) as 0 st).emit "builtin" [.num f]
 |.unify l r=>v7 P l r st
 |.cut=>st.emit "neck_cut" []
 |.level k=>cy P "get_level" k st
 |.mark k=>cy P "mark" k st
 |.eA k=>cy P "cut_to" k st
noncomputable def dM(P:aX):List Tm->Int->CS->CS
 |[],_,st=>st
 |t::r,n,st=>dM P r (n+1) (cE P t (.a (n+1)) st)
noncomputable def d8(P:aX):List Goal->Nat->CS->CS
 |[],_,st=>(if P.fh then st.emit "deallocate" []else st).emit "proceed" []
 |[g],n,st=>
  let cY:=gS P g n st
  let pB:=if P.fh then cY.emit "deallocate" []else cY
  (match g with|.call f _=>pB.emit "execute" [.num f]|_=>pB.emit "proceed" [])
 |g::r,n,st=>
  let cY:=gS P g n st
  d8 P r (n+1) (match g with|.call f _=>cY.emit "call" [.num f,.num (P.live.getD n 0)]|_=>cY)
theorem sI:∀P n st,d8 P [] n st=(if P.fh then st.emit "deallocate" []else st).emit "proceed" []:=fun _ _ _=>rfl
noncomputable def CS.start(count:Int):CS:=⟨[],fun _=>false,fun _=>false,count⟩
noncomputable def gC(P:aX)(count:Int)(ai:List Tm)(ag:List Goal):List Row:=
 let Hq:=if P.fh then(CS.start count).emit "allocate" [.num P.size]else CS.start count
 (d8 P ag 0 (dM P ai 0 Hq)).code
theorem bR{α:Type}{l:List α}{n:Nat}(h:l.length=n+1):∃x r,l=x::r/\r.length=n:=by
 cases l with
 |nil=>cases h
 |cons x r=>exact⟨x,r,rfl,Nat.succ.inj h⟩
theorem gx{fd:FuncData}{a:Str}(h:∀x,bindArgs fd ⟨[x],[]⟩=pure [(a,x)]):∀vals:List Value,vals.length=[a].length->bindArgs fd ⟨vals,[]⟩=pure ([a].zip vals):=by
 intro vals h0
 refine bi (bR h0) fun x r ak h1=>?_;(clear h0;subst ak)
 rw[List.eq_nil_of_length_eq_zero h1]
 exact h x
theorem fL{fd:FuncData}{a b:Str}(h:∀x y,bindArgs fd ⟨[x,y],[]⟩=pure [(a,x),(b,y)]):∀vals:List Value,vals.length=[a,b].length->bindArgs fd ⟨vals,[]⟩=pure ([a,b].zip vals):=by
 intro vals h0
 refine bi (bR h0) fun x r ak h1=>?_;(clear h0;subst ak)
 refine bi (bR h1) fun y r ak h2=>?_;(clear h1;subst ak)
 rw[List.eq_nil_of_length_eq_zero h2]
 exact h x y
theorem gW{fd:FuncData}{a b c:Str}(h:∀x y z,bindArgs fd ⟨[x,y,z],[]⟩=pure [(a,x),(b,y),(c,z)]):∀vals:List Value,vals.length=[a,b,c].length->bindArgs fd ⟨vals,[]⟩=pure ([a,b,c].zip vals):=by
 intro vals h0
 refine bi (bR h0) fun x r ak h1=>?_;(clear h0;subst ak)
 refine bi (bR h1) fun y r ak h2=>?_;(clear h1;subst ak)
 refine bi (bR h2) fun z r ak h3=>?_;(clear h2;subst ak)
 rw[List.eq_nil_of_length_eq_zero h3]
 exact h x y z
theorem Ku{fd:FuncData}{a b c d:Str}(h:∀x y z u,bindArgs fd ⟨[x,y,z,u],[]⟩=pure [(a,x),(b,y),(c,z),(d,u)]):∀vals:List Value,vals.length=[a,b,c,d].length->bindArgs fd ⟨vals,[]⟩=pure ([a,b,c,d].zip vals):=by
 intro vals h0
 refine bi (bR h0) fun x r ak h1=>?_;(clear h0;subst ak)
 refine bi (bR h1) fun y r ak h2=>?_;(clear h1;subst ak)
 refine bi (bR h2) fun z r ak h3=>?_;(clear h2;subst ak)
 refine bi (bR h3) fun u r ak h4=>?_;(clear h3;subst ak)
 rw[List.eq_nil_of_length_eq_zero h4]
 exact h x y z u
theorem C6{fd:FuncData}{a b c d f:Str}(h:∀x y z u v,bindArgs fd ⟨[x,y,z,u,v],[]⟩=pure [(a,x),(b,y),(c,z),(d,u),(f,v)]):∀vals:List Value,vals.length=[a,b,c,d,f].length->bindArgs fd ⟨vals,[]⟩=pure ([a,b,c,d,f].zip vals):=by
 intro vals h0
 refine bi (bR h0) fun x r ak h1=>?_;(clear h0;subst ak)
 refine bi (bR h1) fun y r ak h2=>?_;(clear h1;subst ak)
 refine bi (bR h2) fun z r ak h3=>?_;(clear h2;subst ak)
 refine bi (bR h3) fun u r ak h4=>?_;(clear h3;subst ak)
 refine bi (bR h4) fun v r ak h5=>?_;(clear h4;subst ak)
 rw[List.eq_nil_of_length_eq_zero h5]
 exact h x y z u v
theorem C0{fd:FuncData}{a b c d f g:Str}(h:∀x y z u v w,bindArgs fd ⟨[x,y,z,u,v,w],[]⟩=pure [(a,x),(b,y),(c,z),(d,u),(f,v),(g,w)]):∀vals:List Value,vals.length=[a,b,c,d,f,g].length->bindArgs fd ⟨vals,[]⟩=pure ([a,b,c,d,f,g].zip vals):=by
 intro vals h0
 refine bi (bR h0) fun x r ak h1=>?_;(clear h0;subst ak)
 refine bi (bR h1) fun y r ak h2=>?_;(clear h1;subst ak)
 refine bi (bR h2) fun z r ak h3=>?_;(clear h2;subst ak)
 refine bi (bR h3) fun u r ak h4=>?_;(clear h3;subst ak)
 refine bi (bR h4) fun v r ak h5=>?_;(clear h4;subst ak)
 refine bi (bR h5) fun w r ak h6=>?_;(clear h5;subst ak)
 rw[List.eq_nil_of_length_eq_zero h6]
 exact h x y z u v w
noncomputable def tM(S:V8->Bool):Int->Bool:=fun i=>if h:0<=i/\i<8 then S ⟨i.toNat,by exact Rr h⟩else false
theorem hA(k:V8):0<=vi k/\vi k<8:=by unfold vi;have:=k.isLt;exact Rq this
theorem gh{j k:V8}(h:vi j=vi k):j=k:=by unfold vi at h;exact Fin.ext (by exact Rp h)
theorem tL(S:V8->Bool)(k:V8):tM S (vi k)=S k:=by
 unfold tM
 rw[dif_pos (hA k)]
 congr 1
theorem uP(S:V8->Bool)(k:V8):qN (tM S) (vi k)=tM (nA S k):=by
 funext x
 unfold qN tM nA
 by_cases h:0<=x/\x<8
 ·simp only[dif_pos h]
  congr 1
  apply decide_eq_decide.mpr
  constructor
  ·intro e;subst e;apply Fin.ext;unfold vi;simp
  ·intro e;subst e;unfold vi;simp;exact KB h
 ·simp only[dif_neg h]
  have:x≠vi k:=fun e=>h (e▸hA k)
  exact decide_eq_false ‹_›
theorem AX(S:V8->Bool)(k:V8):pd (tM S) (vi k)=tM (del S k):=by
 funext x
 unfold pd tM del
 by_cases h:0<=x/\x<8
 ·simp only[dif_pos h]
  congr 2
  apply decide_eq_decide.mpr
  constructor
  ·intro e;subst e;apply Fin.ext;unfold vi;simp
  ·intro e;subst e;unfold vi;simp;exact KB h
 ·simp only[dif_neg h]
  have:x≠vi k:=fun e=>h (e▸hA k)
  (rfl)
noncomputable def hO:Kind->Str
 |.void=>"void"
 |.perm=>"perm"
 |.rI=>"temp"
structure AJ where
 self:Addr
 d:Addr
 lc:Addr
 ls:Addr
 ll:Addr
 fE:Addr
 wL:Addr
noncomputable abbrev AJ.mods(c:AJ):List Addr:=[c.d,c.lc,c.ls,c.ll]
structure Fg(B:ah)(ik:Addr)(P:aX)(k:V8):Prop where
 go:∃dk as,B ik=some (.inst 478 dk)/\B dk=some (.attrs as)/\as.lookup ("kind":Str)=some (.str (hO (P.kind k)))/\as.lookup ("slot":Str)=some (.int (P.slot k))/\as.lookup ("unsafe":Str)=some (.bool (P.AU k))/\as.lookup ("last_goal":Str)=some (.int (P.last k))
structure rr(B:ah)(lp:Addr)(P:aX):Prop where
 go:∃dp li il xq infos,B lp=some (.inst 534 dp)/\B dp=some (.attrs [("infos",.ref li),("chunks",il),("needs_env",.bool P.fh),("env_size",.int P.size),("live_after",.ref xq)])/\B li=some (.aB infos)/\B xq=some (.list (P.live.map AV.int))/\
  ∀k,P.pc k=true->∃ik,infos.lookup (vi k)=some (.ref ik)/\Fg B ik P k
def ao(ms:List Addr)(H H':ah):Prop:=∀a o,H a=some o->a∉ms->H' a=some o
theorem ao.refl{ms:List Addr}{H:ah}:ao ms H H:=fun _ _ h _=>h
theorem ao.trans{ms:List Addr}{H H' pr:ah}(a:ao ms H H')(b:ao ms H' pr):ao ms H pr:=fun x o h n=>b x o (a x o h n) n
theorem ao.put{ms:List Addr}{H:ah}{a:Addr}{o:AO}(h:a∈ms):ao ms H (H.put a o):=fun x o' e n=>(aj H o (fun z=>by rw[z]at n;exact n h)).trans e
theorem ao.new{ms:List Addr}{H:ah}{a:Addr}{o:AO}(h:H a=none):ao ms H (H.put a o):=fun x o' e n=>(aj H o (fun z=>by rw[z,h]at e;(exact ax e))).trans e
structure az(c:AJ)(B:ah)(P:aX)(st:CS)(b:Nat)(H:ah):Prop where
 self:H c.self=some (.inst 417 c.d)
 d:H c.d=some (.attrs [("kernel",.ref c.wL),("plan",.ref c.fE),("code",.ref c.lc),("seen",.ref c.ls),("local",.ref c.ll),("next_temporary",.int st.next)])
 lc:H c.lc=some (.list (st.code.map Row.av))
 ls:H c.ls=some (.fH (tM st.seen))
 ll:H c.ll=some (.fH (tM st.loc))
 fit:st.code.length+b<=15000000
 base:∀a o,B a=some o->H a=some o/\a∉c.mods
 fE:rr B c.fE P
 sep:c.ls≠c.ll
theorem az.weak{c B P st b b' H}(C:az c B P st b H)(h:b'<=b):az c B P st b' H:={ C with fit:=by have:=C.fit;exact Ro h this }
theorem ay{H:ah}{a b:Addr}{o o':AO}(ha:H a=some o)(hb:H b=some o')(h:o≠o'):a≠b:=fun e=>by subst e;rw[ha]at hb;exact h (Option.some.inj hb)
theorem az.gB{c B P st b H H'}(C:az c B P st b H){ms:List Addr}(F:ao ms H H')(h:∀a∈ms,a∉c.self::c.mods/\B a=none):az c B P st b H':=by
 have q:∀x∈c.self::c.mods,x∉ms:=fun x hx hm=>(h x hm).1 hx
 exact⟨F _ _ C.self (q _ (.head _)),F _ _ C.d (q _ (.tail _ (.head _))),F _ _ C.lc (q _ (.tail _ (.tail _ (.head _)))),F _ _ C.ls (q _ (.tail _ (.tail _ (.tail _ (.head _))))),F _ _ C.ll (q _ (.tail _ (.tail _ (.tail _ (.tail _ (.head _)))))),C.fit,
  fun a o e=>⟨F _ _ (C.base a o e).1 (fun hm=>by rw[(h a hm).2]at e;(exact ax e)),(C.base a o e).2⟩,C.fE,C.sep⟩
variable{c:AJ}{B:ah}{P:aX}{st:CS}{H:ah}
theorem az.ne1(C:az c B P st b H):c.lc≠c.d/\c.ls≠c.d/\c.ll≠c.d/\c.self≠c.d/\c.lc≠c.ls/\c.lc≠c.ll/\c.self≠c.lc/\c.self≠c.ls/\c.self≠c.ll:=
 ⟨ay C.lc C.d (by simp),ay C.ls C.d (by simp),ay C.ll C.d (by simp),ay C.self C.d (by simp),ay C.lc C.ls (by simp),ay C.lc C.ll (by simp),ay C.self C.lc (by simp),ay C.self C.ls (by simp),ay C.self C.ll (by simp)⟩
theorem az.emit(C:az c B P st (b+1) H)(w:String)(ps:List Part):az c B P (st.emit w ps) b (H.put c.lc (.list (st.code.map Row.av++[Row.av (w,ps)]))):=by
 refine fS (C.ne1) fun n1 n2 n3 n4 n5 n6 n7 n8 n9=>?_
 exact⟨(aj _ _ n7).trans C.self,(aj _ _ n1.symm).trans C.d,by simp[CS.emit],(aj _ _ n5.symm).trans C.ls,(aj _ _ n6.symm).trans C.ll,by have:=C.fit;simp[CS.emit];exact Rn this,
  fun a o e=>⟨(aj _ _ fun z=>(C.base a o e).2 (by rw[z];(exact .tail _ (.head _)))).trans (C.base a o e).1,(C.base a o e).2⟩,C.fE,C.sep⟩
theorem az.pt(C:az c B P st b H)(k:V8):az c B P (st.pt k) b (H.put c.ls (.fH (qN (tM st.seen) (vi k)))):=by
 refine fS (C.ne1) fun n1 n2 n3 n4 n5 n6 n7 n8 n9=>?_
 exact⟨(aj _ _ n8).trans C.self,(aj _ _ n2.symm).trans C.d,(aj _ _ n5).trans C.lc,by rw[al,uP];rfl,(aj _ _ C.sep.symm).trans C.ll,C.fit,
  fun a o e=>⟨(aj _ _ fun z=>(C.base a o e).2 (by rw[z];simp)).trans (C.base a o e).1,(C.base a o e).2⟩,C.fE,C.sep⟩
theorem az.gk(C:az c B P st b H)(k:V8):az c B P (st.gk k) b (H.put c.ll (.fH (qN (tM st.loc) (vi k)))):=by
 refine fS (C.ne1) fun n1 n2 n3 n4 n5 n6 n7 n8 n9=>?_
 exact⟨(aj _ _ n9).trans C.self,(aj _ _ n3.symm).trans C.d,(aj _ _ n6).trans C.lc,(aj _ _ C.sep).trans C.ls,by rw[al,uP];rfl,C.fit,
  fun a o e=>⟨(aj _ _ fun z=>(C.base a o e).2 (by rw[z];simp)).trans (C.base a o e).1,(C.base a o e).2⟩,C.fE,C.sep⟩
theorem az.pe(C:az c B P st b H)(k:V8):az c B P (st.pe k) b (H.put c.ll (.fH (pd (tM st.loc) (vi k)))):=by
 refine fS (C.ne1) fun n1 n2 n3 n4 n5 n6 n7 n8 n9=>?_
 exact⟨(aj _ _ n9).trans C.self,(aj _ _ n3.symm).trans C.d,(aj _ _ n6).trans C.lc,(aj _ _ C.sep).trans C.ls,by rw[al,AX];rfl,C.fit,
  fun a o e=>⟨(aj _ _ fun z=>(C.base a o e).2 (by rw[z];simp)).trans (C.base a o e).1,(C.base a o e).2⟩,C.fE,C.sep⟩
theorem az.tick(C:az c B P st b H):az c B P st.tick b (H.put c.d (.attrs (kJ "next_temporary" (.int (st.next+1)) [("kernel",.ref c.wL),("plan",.ref c.fE),("code",.ref c.lc),("seen",.ref c.ls),("local",.ref c.ll),("next_temporary",.int st.next)]))):=by
 refine fS (C.ne1) fun n1 n2 n3 n4 n5 n6 n7 n8 n9=>?_
 exact⟨(aj _ _ n4).trans C.self,by rw[al];rfl,(aj _ _ n1).trans C.lc,(aj _ _ n2).trans C.ls,(aj _ _ n3).trans C.ll,C.fit,
  fun a o e=>⟨(aj _ _ fun z=>(C.base a o e).2 (by rw[z];(exact List.mem_cons_self))).trans (C.base a o e).1,(C.base a o e).2⟩,C.fE,C.sep⟩
theorem DL{G:Gl}{D:Nat}{cs mN:Scope}{cl:List (Str×Addr)}{ss SO:List Stmt}{m m':bP}{H:ah}{Q:Fl->bP->ah->Prop}(h1:cs=mN)(h2:ss=SO)(h3:m=m')(h:WS G D mN cl SO m' H Q):WS G D cs cl ss m H Q:=by subst h1;subst h2;subst h3;exact h
theorem YR:True:=by
 k_with"norm_m"=>(first|((focus(refine' DL ?_ ?_ ?_ ?_;rotate_right 4;(· conv=>lhs;whnf);(· conv=>lhs;whnf);(· conv=>lhs;simp only[List.zip_cons_cons,List.zip_nil_left,List.reverse_cons,List.reverse_nil,List.nil_append,List.cons_append]))))|fail)
 k_with"w1"=>(first|(first|with_reducible refine WS.cons ?_|with_reducible refine WS.nil ?_|refine W1.expr ?_|refine W1.ret ?_|with_reducible refine xH ?_|with_reducible refine W1.cont ?_|with_reducible refine cT ?_|refine W1.assign ?_|refine WE.name rfl ?_|with_reducible refine WE.str ?_|with_reducible refine WE.int ?_|with_reducible refine nO ?_|with_reducible refine rF ?_|refine WE.tuple ?_|refine WE.list ?_|(refine dA ?_)|(focus(refine' rB.of (x:=_) (C:=_) (dx:=_) (as:=_) (b:=_) ?_ ?_ ?_ ?_ ?_ ?_;rotate_right 6;(· (first|with_reducible assumption|with_reducible exact az.self ‹_›|with_reducible exact az.d ‹_›|with_reducible exact az.lc ‹_›|with_reducible exact az.ls ‹_›|with_reducible exact az.ll ‹_›|with_reducible exact al _ _ _));(· (first|with_reducible assumption|with_reducible exact az.self ‹_›|with_reducible exact az.d ‹_›|with_reducible exact az.lc ‹_›|with_reducible exact az.ls ‹_›|with_reducible exact az.ll ‹_›|with_reducible exact al _ _ _));(· (first|with_reducible assumption|exact rfl));(· exact rfl);(· kernel_rfl)))|refine WE.item ?_|(refine WI.tup (by decide) rfl (cm rfl) ?_)|refine WT.cmp ?_|with_reducible refine Gp ?_|with_reducible refine my ?_|with_reducible refine WT.or ?_|with_reducible refine tH ?_|with_reducible refine xG ?_|with_reducible refine tE ?_|with_reducible refine xB ?_|with_reducible refine Cq ?_|refine fJ (x:=true) (by kernel_rfl!) ?_|refine fJ (x:=false) (by kernel_rfl!) ?_|with_reducible refine eW ?_|with_reducible refine tu.bool ?_|with_reducible refine tu.int ?_)|fail)
 trivial
theorem iB{D:Nat}{c B P st b H}(C:az c B P st (b+1) H)(w:String)(ps:List Part){Q:AQ}(h:∀H',az c B P (st.emit w ps) b H'->ao c.mods H H'->Q .none H'):WC e.G (D+1) (.ref 175) [.ref c.self,.tup (sS w::ps.map Part.av)] H Q:=by
 refine bj (ns:=["self","instruction"]) (by kernel_rfl) (by kernel_rfl) rfl (fL (by intro x y;kernel_rfl)) ?_
 k_extra"norm_m"
 k_extra"w1";k_extra"w1"
 refine WE.cW ?_
 ·k_extra"w1";k_extra"w1";k_extra"w1"
  refine ru.of C.lc rfl ?_
  k_extra"w1"
  refine dG C.lc (by have:=C.fit;simp;exact Rm this) ?_
  k_extra"w1"
  exact h _ (C.emit w ps) (ao.put (by exact .tail _ (.head _)))
variable{D:Nat}{cs:Scope}{cl:List (Str×Addr)}{m:bP}
theorem Ea(C:az c B P st b H){k:V8}{Q:Bool->ah->Prop}(h1:st.seen k=true->Q true H)(h2:st.seen k=false->Q false H):cS e.G D .In (.int (vi k)) (.ref c.ls) H Q:=Cj C.ls (by
 rw[tL]
 cases hs:st.seen k with
 |true=>exact h1 hs
 |false=>exact h2 hs)
theorem Gm(C:az c B P st b H){k:V8}{Q:Bool->ah->Prop}(h1:st.seen k=true->Q false H)(h2:st.seen k=false->Q true H):cS e.G D .NotIn (.int (vi k)) (.ref c.ls) H Q:=D2 C.ls (by
 rw[tL]
 cases hs:st.seen k with
 |true=>exact h1 hs
 |false=>exact h2 hs)
theorem Ga(C:az c B P st b H){k:V8}{Q:Bool->ah->Prop}(h1:st.loc k=true->Q true H)(h2:st.loc k=false->Q false H):cS e.G D .In (.int (vi k)) (.ref c.ll) H Q:=Cj C.ll (by
 rw[tL]
 cases hs:st.loc k with
 |true=>exact h1 hs
 |false=>exact h2 hs)
theorem GF{name:Str}{p1 p2 pos:Pos}{args:List Expr}{f:Addr}{Q:AQ}(C:az c B P st b H)(hm:m.lookup ("self":Str)=some (.ref c.self))(hn:([("kernel",.ref c.wL),("plan",.ref c.fE),("code",.ref c.lc),("seen",.ref c.ls),("local",.ref c.ll),("next_temporary",.int st.next)]:List (Str×AV)).lookup name=none)
 (hf:cv e.G.K 417 name f=true) (h:kf e.G D cs cl args m H (Fn (.ref c.self) (NU e.G D (.ref f) Q))) (hp:autoParam ((args.all cN)=true) aR) (hx:autoParam (cs.names.lookup ("self":Str)=some .local) aR) {pl:Env->Sem Bool}
 (he:autoParam (∀env:Env,eval (.Call (.Attribute (.Name ("self":Str) p1) name p2) args [] pos) env=(do
  let ov←eval (.Name ("self":Str) p1) env
  standAt p2.atName
  let (f,first)←holding [ov] (getMethod ov name (pl env))
  callWith pos f first (backTo pos (starEach args env)) [])) aI):WE e.G D cs cl (.Call (.Attribute (.Name ("self":Str) p1) name p2) args [] pos) m H Q:=
 qm (he:=he) (WE.name hm ⟨_,_,_,_,f,rfl,C.self,C.d,hn,hf,h⟩ hx) hp
theorem GG(C:az c B P st b H){p1 p2 p3 p4 p5 p6:Pos}{x:Str}{k:V8}{Q:Fl->bP->ah->Prop}(hm:m.lookup ("self":Str)=some (.ref c.self))(hx:m.lookup x=some (.int (vi k)))(h:∀H',az c B P (st.pt k) b H'->ao c.mods H H'->Q .next m H')
 (hs:autoParam (cs.names.lookup ("self":Str)=some .local) aR) (JB:autoParam (cs.names.lookup x=some .local) aR) (hd:autoParam ((x==("__debug__":Str))=false) aD) {pl:Env->Sem Bool}
 (he:autoParam (∀env:Env,eval (.Call (.Attribute (.Attribute (.Name ("self":Str) p1) ("seen":Str) p2) ("add":Str) p3) [.Name x p4] [] p5) env=(do
  let ov←eval (.Attribute (.Name ("self":Str) p1) ("seen":Str) p2) env
  standAt p3.atName
  let (f,first)←holding [ov] (getMethod ov ("add":Str) (pl env))
  callWith p5 f first (backTo p5 (starEach [.Name x p4] env)) [])) aI):
 W1 e.G D cs cl (.Expr (.Call (.Attribute (.Attribute (.Name ("self":Str) p1) ("seen":Str) p2) ("add":Str) p3) [.Name x p4] [] p5) p6) m H Q:=by
 refine W1.expr (WE.cW (he:=he) (dA (WE.name hm ⟨_,_,_,_,_,rfl,C.self,C.d,rfl,rfl,by kernel_rfl,_,_,_,rfl,C.ls,rfl,WE.name hx (xK C.ls (hA k) ?_) JB hd⟩ hs)))
 exact h _ (C.pt k) (ao.put (by simp))
theorem GN(C:az c B P st b H){p1 p2 p3 p4 p5 p6:Pos}{x:Str}{k:V8}{Q:Fl->bP->ah->Prop}(hm:m.lookup ("self":Str)=some (.ref c.self))(hx:m.lookup x=some (.int (vi k)))(h:∀H',az c B P (st.gk k) b H'->ao c.mods H H'->Q .next m H')
 (hs:autoParam (cs.names.lookup ("self":Str)=some .local) aR) (JB:autoParam (cs.names.lookup x=some .local) aR) (hd:autoParam ((x==("__debug__":Str))=false) aD) {pl:Env->Sem Bool}
 (he:autoParam (∀env:Env,eval (.Call (.Attribute (.Attribute (.Name ("self":Str) p1) ("local":Str) p2) ("add":Str) p3) [.Name x p4] [] p5) env=(do
  let ov←eval (.Attribute (.Name ("self":Str) p1) ("local":Str) p2) env
  standAt p3.atName
  let (f,first)←holding [ov] (getMethod ov ("add":Str) (pl env))
  callWith p5 f first (backTo p5 (starEach [.Name x p4] env)) [])) aI):
 W1 e.G D cs cl (.Expr (.Call (.Attribute (.Attribute (.Name ("self":Str) p1) ("local":Str) p2) ("add":Str) p3) [.Name x p4] [] p5) p6) m H Q:=by
 refine W1.expr (WE.cW (he:=he) (dA (WE.name hm ⟨_,_,_,_,_,rfl,C.self,C.d,rfl,rfl,by kernel_rfl,_,_,_,rfl,C.ll,rfl,WE.name hx (xK C.ll (hA k) ?_) JB hd⟩ hs)))
 exact h _ (C.gk k) (ao.put (by simp))
theorem DM(C:az c B P st b H){p1 p2 p3 p4 p5 p6:Pos}{x:Str}{k:V8}{Q:Fl->bP->ah->Prop}(hm:m.lookup ("self":Str)=some (.ref c.self))(hx:m.lookup x=some (.int (vi k)))(h:∀H',az c B P (st.pe k) b H'->ao c.mods H H'->Q .next m H')
 (hs:autoParam (cs.names.lookup ("self":Str)=some .local) aR) (JB:autoParam (cs.names.lookup x=some .local) aR) (hd:autoParam ((x==("__debug__":Str))=false) aD) {pl:Env->Sem Bool}
 (he:autoParam (∀env:Env,eval (.Call (.Attribute (.Attribute (.Name ("self":Str) p1) ("local":Str) p2) ("discard":Str) p3) [.Name x p4] [] p5) env=(do
  let ov←eval (.Attribute (.Name ("self":Str) p1) ("local":Str) p2) env
  standAt p3.atName
  let (f,first)←holding [ov] (getMethod ov ("discard":Str) (pl env))
  callWith p5 f first (backTo p5 (starEach [.Name x p4] env)) [])) aI):
 W1 e.G D cs cl (.Expr (.Call (.Attribute (.Attribute (.Name ("self":Str) p1) ("local":Str) p2) ("discard":Str) p3) [.Name x p4] [] p5) p6) m H Q:=by
 refine W1.expr (WE.cW (he:=he) (dA (WE.name hm ⟨_,_,_,_,_,rfl,C.self,C.d,rfl,rfl,by kernel_rfl,_,_,_,rfl,C.ll,rfl,WE.name hx (WB.setDiscard C.ll (hA k) ?_) JB hd⟩ hs)))
 exact h _ (C.pe k) (ao.put (by simp))
theorem AP(C:az c B P st b H)(k:V8)(hk:P.pc k=true){Q:AQ}(h:Q (.bool (P.void k)) H):WC e.G (D+1) (.ref 189) [.ref c.self,.int (vi k)] H Q:=by
 refine f9 (C.fE.go) fun dp li il xq infos p1 p2 p3 p4 p5=>?_
 refine aA (p5 k hk) fun ik q1 ak=>?_;obtain⟨dk,as,i1,i2,i3,i4,i5,i6⟩:=ak
 have NX:=(C.base _ _ p1).1
 have NW:=(C.base _ _ p2).1
 have Eg:=(C.base _ _ p3).1
 have Qf:=(C.base _ _ i1).1
 have Qe:=(C.base _ _ i2).1
 refine bj (ns:=["self","k"]) (by kernel_rfl) (by kernel_rfl) rfl (fL (by intro x y;kernel_rfl)) ?_
 k_extra"norm_m"
 k_extra"w1";k_extra"w1"
 refine WE.cmp ?_
 (repeat k_extra"w1")
 refine WI.aB Eg rfl q1 ?_
 k_extra"w1";k_extra"w1"
 refine eW ?_
 have:(hO (P.kind k)==Str.ofString "void")=P.void k:=by
  unfold aX.void hO
  cases P.kind k<;>decide +kernel
 rw[this]
 exact h
theorem A9(C:az c B P st b H)(k:V8)(hk:P.pc k=true){Q:AQ}(h:Q (.bool (P.perm k)) H):WC e.G (D+1) (.ref 196) [.ref c.self,.int (vi k)] H Q:=by
 refine f9 (C.fE.go) fun dp li il xq infos p1 p2 p3 p4 p5=>?_
 refine aA (p5 k hk) fun ik q1 ak=>?_;obtain⟨dk,as,i1,i2,i3,i4,i5,i6⟩:=ak
 have NX:=(C.base _ _ p1).1
 have NW:=(C.base _ _ p2).1
 have Eg:=(C.base _ _ p3).1
 have Qf:=(C.base _ _ i1).1
 have Qe:=(C.base _ _ i2).1
 refine bj (ns:=["self","k"]) (by kernel_rfl) (by kernel_rfl) rfl (fL (by intro x y;kernel_rfl)) ?_
 k_extra"norm_m"
 k_extra"w1";k_extra"w1"
 refine WE.cmp ?_
 (repeat k_extra"w1")
 refine WI.aB Eg rfl q1 ?_
 k_extra"w1";k_extra"w1"
 refine eW ?_
 have:(hO (P.kind k)==Str.ofString "perm")=P.perm k:=by
  unfold aX.perm hO
  cases P.kind k<;>decide +kernel
 rw[this]
 exact h
theorem yz(C:az c B P st b H)(k:V8)(hk:P.pc k=true){Q:AQ}(h:Q (P.place k).av H):WC e.G (D+1) (.ref 203) [.ref c.self,.int (vi k)] H Q:=by
 refine f9 (C.fE.go) fun dp li il xq infos p1 p2 p3 p4 p5=>?_
 refine aA (p5 k hk) fun ik q1 ak=>?_;obtain⟨dk,as,i1,i2,i3,i4,i5,i6⟩:=ak
 have NX:=(C.base _ _ p1).1
 have NW:=(C.base _ _ p2).1
 have Eg:=(C.base _ _ p3).1
 have Qf:=(C.base _ _ i1).1
 have Qe:=(C.base _ _ i2).1
 refine bj (ns:=["self","k"]) (by kernel_rfl) (by kernel_rfl) rfl (fL (by intro x y;kernel_rfl)) ?_
 k_extra"norm_m"
 (repeat k_extra"w1")
 refine WI.aB Eg rfl q1 ?_
 (repeat k_extra"w1")
 unfold aX.place at h
 cases hq:P.kind k with
 |perm=>
  rw[hq]at h
  rw[show(hO Kind.perm==Str.ofString "perm")=true from by decide +kernel]
  (repeat k_extra"w1")
  exact h
 |void=>
  rw[hq]at h
  rw[show(hO Kind.void==Str.ofString "perm")=false from by decide +kernel]
  (repeat k_extra"w1")
  exact h
 |rI=>
  rw[hq]at h
  rw[show(hO Kind.rI==Str.ofString "perm")=false from by decide +kernel]
  (repeat k_extra"w1")
  exact h
theorem t7(C:az c B P st b H){Q:AQ}(h:∀H',az c B P st.tick b H'->ao c.mods H H'->Q (Part.t st.next).av H'):WC e.G (D+1) (.ref 182) [.ref c.self] H Q:=by
 refine bj (ns:=["self"]) (by kernel_rfl) (by kernel_rfl) rfl (gx (by intro x;kernel_rfl)) ?_
 k_extra"norm_m"
 (repeat k_extra"w1")
 refine jH (iU ?_)
 (repeat k_extra"w1")
 refine np.add ?_
 refine WE.name rfl ?_
 refine'⟨_,_,_,_,rfl,C.self,C.d,?a1,?a2,?_⟩
 case a1=>kernel_rfl
 case a2=>exact cm rfl
 (repeat k_extra"w1")
 exact h _ C.tick (ao.put (by exact List.mem_cons_self))
theorem VE{α:Type}{a:α}{r:Prop}(h:(none:Option α)=some a):r:=nomatch h
noncomputable def Hh:Value->Option Int
 |.int i _=>some i
 |_=>none
theorem AS{v:Value}{i:Int}(h:Hh v=some i):∃t,v=.int i t:=by
 cases v<;>first|exact Option.some.inj h▸⟨_,rfl⟩|exact VE h
noncomputable def kR(K:Frag)(x:Str):Option Int:=(nsIn K mainGlobals x).bind fun v=>v.bind Hh
noncomputable def jJ(f:Expr->Option AV):List Expr->Option (List AV)
 |[]=>some []
 |e::es=>match f e with
  |some a=>(match jJ f es with|some as=>some (a::as)|none=>none)
  |none=>none
noncomputable def vJ:Const->Option AV
 |.int i=>some (.int i)
 |.str x=>some (.str x)
 |.bool b=>some (.bool b)
 |.none=>some .none
 |_=>none
noncomputable def Iu:Const->Option Nat
 |.int i=>(match Nat.ble 0 0,i with|_,.ofNat k=>some k|_,_=>none)
 |_=>none
noncomputable def zj(e:Expr):Option Nat:=(Q3 e).bind Iu
noncomputable def Hi:Option AV->Option (List AV)
 |some (.tup xs)=>some xs
 |_=>none
noncomputable def eu(cs:Scope)(m:bP):Nat->Expr->Option AV
 |0,_=>none
 |n+1,e=>@Expr.casesOn (fun _=>Option AV) e (fun _ _ _=>none) (fun _ _ _=>none) (fun _ _ _ _=>none) (fun _ _ _=>none) (fun _ _ _ _=>none) (fun _ _ _ _=>none) (fun _ _ _=>none) (fun _ _ _=>none) (fun _ _ _ _=>none) (fun _ _ _ _=>none) (fun _ _ _ _ _=>none) (fun _ _ _ _=>none) (fun _ _=>none) (fun _ _=>none) (fun _ _=>none) (fun _ _ _ _=>none) (fun _ _ _ _=>none) (fun _ _ _ _=>none) (fun _ _=>none) (fun c _ _=>vJ c) (fun _ _ _=>none) (fun e i _=>(zj i).bind fun k=>(Hi (eu cs m n e)).bind fun xs=>if Nat.ble xs.length 1000=true then xs[k]? else none) (fun _ _=>none) (fun x _=>if cs.names.lookup x=some .local then(if(x==("__debug__":Str))=false then m.lookup x else none)else none) (fun _ _=>none) (fun es _ _=>if(es.all cN&&Nat.ble es.length 1000)=true then(jJ (eu cs m n) es).map AV.tup else none) (fun _ _ _ _=>none)
variable{G:Gl}
theorem zi{i:Expr}{k:Nat}(h:zj i=some k):∃n p,i=.Constant (.int (k:Int)) n p:=by
 obtain⟨c,u,h⟩:=Option.bind_eq_some_iff.mp h
 obtain⟨n,p,w⟩:=z0 u
 rw[w]
 cases c with
 |int z=>cases z<;>first|exact Option.some.inj h▸⟨n,p,rfl⟩|exact ax h
 |_=>exact ax h
theorem zS{c:Const}{a:AV}(h:vJ c=some a){n:Nat}{p:Pos}{H:ah}{Q:AQ}(q:Q a H):WE G D cs cl (.Constant c n p) m H Q:=by
 cases c<;>(first|exact ax h|cases h)
 ·exact rF q
 ·exact nO q
 ·exact WE.int q
 ·exact WE.str q
set_option tactic.hygienic true in
theorem ja:∀ (n:Nat) (e:Expr) (a:AV),eu cs m n e=some a->∀ (H:ah) (Q:AV->ah->Prop),Q a H->WE G D cs cl e m H Q:=by
 intro zz
 induction zz with
 |zero=>
  intro _ _ h _ _ _
  exact ax h
 |succ n ih=>
  intro e a h H Q q
  have IH:=ih
  cases e<;>try(first|exact ax h|cases h)
  case Name x p=>
   change(if _ then(if _ then _ else _)else _)=_ at h
   by_cases h1:cs.names.lookup x=some .local
   ·rw[if_pos h1]at h
    by_cases h2:(x==("__debug__":Str))=false
    ·rw[if_pos h2]at h
     exact WE.name h q h1 h2
    ·rw[if_neg h2]at h;(exact ax h)
   ·rw[if_neg h1]at h;(exact ax h)
  case Constant c k p=>exact zS h q
  case Tuple es k p=>
   change(if _ then _ else _)=_ at h
   by_cases h1:(es.all cN&&Nat.ble es.length 1000)=true
   ·rw[if_pos h1]at h
    rw[Bool.and_eq_true]at h1
    refine aA (Option.map_eq_some_iff.mp h) fun as hl ak=>?_;subst ak
    refine WE.tuple ?_ h1.1 (cm h1.2)
    have key:∀ (es:List Expr) (as:List AV),jJ (eu cs m n) es=some as->∀ (H:ah) (Q:List AV->ah->Prop),Q as H->kf G D cs cl es m H Q:=fun es=>by
     induction es with
     |nil=>intro as h H Q q;cases h;exact q
     |cons e es ih=>
      intro as h H Q q
      change(match eu cs m n e with|some a=>(match jJ (eu cs m n) es with|some as=>some (a::as)|none=>none)|none=>none)=some as at h
      cases ha:eu cs m n e with
      |none=>rw[ha]at h;(exact ax h)
      |some a=>
       rw[ha]at h
       cases hs:jJ (eu cs m n) es with
       |none=>rw[hs]at h;(exact ax h)
       |some uI=>rw[hs]at h;cases h;exact IH e a ha H _ (ih uI hs H _ q)
    exact key es as hl H _ q
   ·rw[if_neg h1]at h;(exact ax h)
  case Subscript e' i p=>
   change(zj i).bind _=_ at h
   refine aA (Option.bind_eq_some_iff.mp h) fun k hk h8=>?_
   refine aA (Option.bind_eq_some_iff.mp h8) fun xs hx h9=>?_
   clear h h8
   refine sQ (zi hk) fun n' p' ak=>?_;(clear hk;subst ak)
   have Qj:eu cs m n e'=some (.tup xs):=by
    cases hy:eu cs m n e' with
    |none=>rw[hy]at hx;(exact ax hx)
    |some y=>rw[hy]at hx;cases y<;>(first|exact ax hx|(clear hy;cases hx));rfl
   by_cases h1:Nat.ble xs.length 1000=true
   ·rw[if_pos h1]at h9
    refine WE.item ?_ rfl
    exact IH e' _ Qj H _ (WE.int (WI.tup (Int.natCast_nonneg k) h9 (d6 (cm h1) (by decide)) q))
   ·rw[if_neg h1]at h9;(exact ax h9)
theorem zl(n:Nat):∀ (es:List Expr) (as:List AV),jJ (eu cs m n) es=some as->∀ (H:ah) (Q:List AV->ah->Prop),Q as H->kf G D cs cl es m H Q:=by
 intro zz
 induction zz with
 |nil=>
  intro as h H Q q
  cases h;exact q
 |cons e es ih=>
  intro as h H Q q
  change(match eu cs m n e with|some a=>(match jJ (eu cs m n) es with|some as=>some (a::as)|none=>none)|none=>none)=some as at h
  cases ha:eu cs m n e with
  |none=>rw[ha]at h;(exact ax h)
  |some a=>
   rw[ha]at h
   cases hs:jJ (eu cs m n) es with
   |none=>rw[hs]at h;(exact ax h)
   |some uI=>rw[hs]at h;cases h;exact ja n e a ha H _ (ih uI hs H _ q)
theorem WE.leaf{H:ah}{e:Expr}{a:AV}{Q:AQ}(h:eu cs m 9 e=some a)(q:Q a H):WE G D cs cl e m H Q:=ja 9 e a h H Q q
theorem kf.leaf{H:ah}{es:List Expr}{as:List AV}{Q:List AV->ah->Prop}(h:jJ (eu cs m 9) es=some as)(q:Q as H):kf G D cs cl es m H Q:=zl 9 es as h H Q q
theorem WT.leaf{H:ah}{l r:Expr}{op:CmpOp}{pos:Pos}{a b:AV}{Q:Bool->ah->Prop}(h1:eu cs m 9 l=some a)(h2:eu cs m 9 r=some b)(q:cS G D op a b H Q)(hm:autoParam (behindInMarks op r=false) aU):WT G D cs cl (.Compare l [op] [r] pos) m H Q:=
 WT.cmp (ja 9 l a h1 H _ (ja 9 r b h2 H _ q)) hm
theorem FZ{H:ah}{e:Expr}{pos:Pos}{a:AV}{Q:Fl->bP->ah->Prop}(h:eu cs m 9 e=some a)(q:Q (.ret a) m H):W1 G D cs cl (.Return (some e) pos) m H Q:=W1.ret (ja 9 e a h H _ q)
variable{Q:AQ}{R:Bool->ah->Prop}{F:Fl->bP->ah->Prop}
theorem fY{x:Str}{pos:Pos}{i:Int}(hi:kR G.K x=some i)(h:Q (.int i) H)
 (hx:autoParam (cs.names.lookup x=some .globalImplicit) aR) (hd:autoParam ((x==("__debug__":Str))=false) aD):WE G D cs cl (.Name x pos) m H Q:=by
 obtain⟨o,hq,h1⟩:=Option.bind_eq_some_iff.mp hi
 obtain⟨v,q,h2⟩:=Option.bind_eq_some_iff.mp h1
 obtain⟨t,z⟩:=AS h2
 rw[q,z]at hq
 exact WE.vF (a:=.int i) hq (fun _=>⟨_,rfl⟩) h hx hd
theorem g1{e:Stmt}(h:W1 G D cs cl e m H F):W1 G D cs cl e m H F:=h
variable{Q:Bool->ah->Prop}{a b:Int}
theorem xF(h1:a=b->Q true H)(h2:a≠b->Q false H):cS G D .Eq (.int a) (.int b) H Q:=tH (by
 by_cases h:a=b
 ·rw[show(a==b)=true from by simpa using h];exact h1 h
 ·rw[show(a==b)=false from by simpa using h];exact h2 h)
theorem FX(h1:a≠b->Q true H)(h2:a=b->Q false H):cS G D .NotEq (.int a) (.int b) H Q:=Cq (by
 by_cases h:a=b
 ·rw[show(a !=b)=false from by simpa using h];exact h2 h
 ·rw[show(a !=b)=true from by simpa using h];exact h1 h)
theorem xP(h1:b<a->Q true H)(h2:¬b<a->Q false H):cS G D .Gt (.int a) (.int b) H Q:=xG (by
 by_cases h:b<a
 ·rw[show decide (b<a)=true from by simpa using h];exact h1 h
 ·rw[show decide (b<a)=false from by simpa using h];exact h2 h)
theorem Gj(h1:b<=a->Q true H)(h2:¬b<=a->Q false H):cS G D .GtE (.int a) (.int b) H Q:=tE (by
 by_cases h:b<=a
 ·rw[show decide (b<=a)=true from by simpa using h];exact h1 h
 ·rw[show decide (b<=a)=false from by simpa using h];exact h2 h)
theorem Cg(h1:a<b->Q true H)(h2:¬a<b->Q false H):cS G D .Lt (.int a) (.int b) H Q:=xB (by
 by_cases h:a<b
 ·rw[show decide (a<b)=true from by simpa using h];exact h1 h
 ·rw[show decide (a<b)=false from by simpa using h];exact h2 h)
theorem W1.mono{G:Gl}{D:Nat}{cs:Scope}{cl:List (Str×Addr)}{m:bP}{H:ah}{e:Stmt}{Q Q':Fl->bP->ah->Prop}(h:W1 G D cs cl e m H Q)(k:∀f m H,Q f m H->Q' f m H):W1 G D cs cl e m H Q':=
 ⟨fun c h1 h2 ok mm ae s S lr rq E c'=>h.go c h1 h2 ok mm ae s S lr rq E fun f fl m' eZ H' am h' tk a1 a2 a3 a4 a5=>c' f fl m' eZ H' am h' tk a1 a2 a3 a4 (k _ _ _ a5)⟩
theorem WS.seq{G:Gl}{D:Nat}{cs:Scope}{cl:List (Str×Addr)}{m:bP}{H:ah}{st:Stmt}{au:List Stmt}{F:Fl->bP->ah->Prop}(R:bP->ah->Prop)(h1:W1 G D cs cl st m H fun fl m' H'=>fl=.next/\R m' H')(h2:∀m' H',R m' H'->WS G D cs cl au m' H' F):WS G D cs cl (st::au) m H F:=
 WS.cons (h1.mono fun fl m' H' q=>by(refine bh (q) ?_;clear q;intro ak q;subst ak);exact h2 m' H' q)
theorem WT.weak{G:Gl}{D:Nat}{cs:Scope}{cl:List (Str×Addr)}{m m':bP}{H:ah}{e:Expr}{Q:Bool->ah->Prop}(k:∀x a,m'.lookup x=some a->m.lookup x=some a)(h:WT G D cs cl e m' H Q):WT G D cs cl e m H Q where
 go:=fun c h1 h2 ok mm ae s S lr Q' E k'=>h.go c h1 h2 ok mm ae s S (fun x a e=>lr x a (k x a e)) Q' E k'
theorem YQ:True:=by
 k_with"hfr"=>(first|((first|with_reducible assumption|with_reducible exact az.self ‹_›|with_reducible exact az.d ‹_›|with_reducible exact az.lc ‹_›|with_reducible exact az.ls ‹_›|with_reducible exact az.ll ‹_›|with_reducible exact al _ _ _))|fail)
 k_with"wn"=>(first|((focus(refine' fY ?_ ?_;rotate_right 2;(· k_extra"wf"))))|fail)
 k_with"wk"=>(first|((focus(refine' WE.cp ?_ ?_ ?_;rotate_right 3;(· k_extra"wf");(· k_extra"wf"))))|fail)
 k_with"wq"=>(first|(first|(focus(refine fJ (x:=true) ?_ ?_;rotate_right 2;(· kernel_rfl!)))|(focus(refine fJ (x:=false) ?_ ?_;rotate_right 2;(· kernel_rfl!)))|(focus(refine pK (x:=true) ?_ ?_;rotate_right 2;(· kernel_rfl!)))|(focus(refine pK (x:=false) ?_ ?_;rotate_right 2;(· kernel_rfl!)))|(with_reducible refine xF ?_ ?_)<;>intro _|(with_reducible refine xP ?_ ?_)<;>intro _|(with_reducible refine Gj ?_ ?_)<;>intro _|(with_reducible refine Cg ?_ ?_)<;>intro _|(with_reducible refine FX ?_ ?_)<;>intro _|with_reducible refine eW ?_|(focus(refine' Ea ?_ ?_ ?_;rotate_right 3;(· k_extra"as");all_goals intro _))|(focus(refine' Gm ?_ ?_ ?_;rotate_right 3;(· k_extra"as");all_goals intro _))|(focus(refine' Ga ?_ ?_ ?_;rotate_right 3;(· k_extra"as");all_goals intro _)))|fail)
 k_with"wi"=>(first|((refine WI.tup (by decide) rfl (cm rfl) ?_))|fail)
 k_with"wx"=>(first|(fail)|fail)
 k_with"we"=>(first|(first|((guard_target =~ WE _ _ _ _ (.Name _ _) _ _ _);first|refine' WE.leaf (a:=_) rfl ?_|k_extra"wn")|((guard_target =~ WE _ _ _ _ (.Tuple _ _ _) _ _ _);refine' WE.leaf (a:=_) rfl ?_)|((guard_target =~ WE _ _ _ _ (.Subscript _ (.Constant _ _ _) _) _ _ _);refine' WE.leaf (a:=_) rfl ?_)|((guard_target =~ WE _ _ _ _ (.Constant _ _ _) _ _ _);first|with_reducible refine WE.str ?_|with_reducible refine WE.int ?_|with_reducible refine nO ?_|with_reducible refine rF ?_)|(focus((guard_target =~ WE _ _ _ _ (.Call (.Attribute (.Name ("self":Str) _) _ _) _ [] _) _ _ _);refine' GF ?_ rfl rfl ?_ ?_;rotate_right 3;(· k_extra"as");(· k_extra"wf")))|((guard_target =~ WE _ _ _ _ (.Call (.Attribute _ _ _) _ [] _) _ _ _);refine WE.cW ?_)|((guard_target =~ WE _ _ _ _ (.Call (.Name _ _) _ [] _) _ _ _);k_extra"wk")|refine WE.tuple ?_|refine dA ?_|refine WE.item ?_|refine WE.list ?_|with_reducible refine iU ?_|refine WE.cmp ?_|with_reducible refine lJ ?_|with_reducible refine WE.neg ?_)|fail)
 k_with"wz"=>(first|(first|((guard_target =~ W1 _ _ _ _ (.Expr (.Call (.Attribute (.Attribute _ _ _) _ _) _ [] _) _) _ _ _);first|(focus(refine' GG ?_ rfl rfl ?_;rotate_right 2;(· k_extra"as");intro _ _ _))|(focus(refine' GN ?_ rfl rfl ?_;rotate_right 2;(· k_extra"as");intro _ _ _))|(focus(refine' DM ?_ rfl rfl ?_;rotate_right 2;(· k_extra"as");intro _ _ _)))|((guard_target =~ W1 _ _ _ _ (.Expr _ _) _ _ _);refine W1.expr ?_)|(focus(refine' FZ (a:=_) ?_ ?_;rotate_right 2;(· exact rfl)))|refine W1.ret ?_|with_reducible refine xH ?_|with_reducible refine W1.cont ?_|with_reducible refine DN ?_|with_reducible refine cT ?_|refine W1.assign ?_|refine FK rfl ?_)|fail)
 k_with"w2"=>(first|(first|(focus(with_reducible refine' kf.leaf (as:=_) ?_ ?_;rotate_right 2;(· exact rfl)))|((guard_target =~ WE _ _ _ _ _ _ _ _);k_extra"we")|refine WS.cons ?_|refine WS.nil ?_|((guard_target =~ W1 _ _ _ _ _ _ _ _);k_extra"wz")|((guard_target =~ WC _ _ _ _ _ _);k_extra"wc")|((guard_target =~ WT _ _ _ _ _ _ _ _);first|(focus(refine' WT.leaf (a:=_) (b:=_) ?_ ?_ ?_;rotate_right 3;(· exact rfl);(· exact rfl)))|refine WT.cmp ?_|with_reducible refine Gp ?_|with_reducible refine my ?_|with_reducible refine WT.or ?_|refine WT.val ?_)|((guard_target =~ cS _ _ _ _ _ _ _);k_extra"wq")|((guard_target =~ WI _ _ _ _ _ _);k_extra"wi")|((guard_target =~ tu _ _ _ _ _);first|with_reducible refine tu.bool ?_|with_reducible refine tu.int ?_)|((guard_target =~ WB _ _ _ _ _ _);k_extra"wb")|((guard_target =~ np _ _ _ _ _ _ _ _);first|with_reducible refine Gf ?_|with_reducible refine GS ?_|with_reducible refine np.add ?_|with_reducible refine np.sub ?_)|(focus(refine' ru.of (l:=_) (ob:=_) (id:=_) ?_ ?_ ?_;rotate_right 3;(· k_extra"hfr");(· exact rfl)))|(focus(refine' rB.of (x:=_) (C:=_) (dx:=_) (as:=_) (b:=_) ?_ ?_ ?_ ?_ ?_ ?_;rotate_right 6;(· k_extra"hfr");(· k_extra"hfr");(· (first|with_reducible assumption|exact rfl));(· exact rfl);(· k_extra"wf")))|k_extra"wx")|fail)
 k_with"wg"=>(first|(repeat' k_extra"w2")|fail)
 trivial
variable{b:Nat}
variable{w:String}{Q:AQ}
theorem Km(C:az c B P st (b+1) H)(h:∀H',az c B P (st.emit w []) b H'->ao c.mods H H'->Q .none H'):WC e.G (D+1) (.ref 175) [.ref c.self,.tup [sS w]] H Q:=iB C w [] h
theorem Kl{p:Part}(C:az c B P st (b+1) H)(h:∀H',az c B P (st.emit w [p]) b H'->ao c.mods H H'->Q .none H'):WC e.G (D+1) (.ref 175) [.ref c.self,.tup [sS w,p.av]] H Q:=iB C w [p] h
theorem EX{p:Int}(C:az c B P st (b+1) H)(h:∀H',az c B P (st.emit w [.num p]) b H'->ao c.mods H H'->Q .none H'):WC e.G (D+1) (.ref 175) [.ref c.self,.tup [sS w,.int p]] H Q:=iB C w [.num p] h
theorem Kk{p q:Part}(C:az c B P st (b+1) H)(h:∀H',az c B P (st.emit w [p,q]) b H'->ao c.mods H H'->Q .none H'):WC e.G (D+1) (.ref 175) [.ref c.self,.tup [sS w,p.av,q.av]] H Q:=iB C w [p,q] h
theorem EV{p:Int}{q:Part}(C:az c B P st (b+1) H)(h:∀H',az c B P (st.emit w [.num p,q]) b H'->ao c.mods H H'->Q .none H'):WC e.G (D+1) (.ref 175) [.ref c.self,.tup [sS w,.int p,q.av]] H Q:=iB C w [.num p,q] h
theorem BV{p q:Int}(C:az c B P st (b+1) H)(h:∀H',az c B P (st.emit w [.num p,.num q]) b H'->ao c.mods H H'->Q .none H'):WC e.G (D+1) (.ref 175) [.ref c.self,.tup [sS w,.int p,.int q]] H Q:=iB C w [.num p,.num q] h
theorem xY(C:az c B P st b H)(k:V8)(hk:P.pc k=true){Q:AQ}(h1:P.void k=true->Q (.bool true) H)(h2:P.void k=false->Q (.bool false) H):WC e.G (D+1) (.ref 189) [.ref c.self,.int (vi k)] H Q:=AP C k hk (by
 cases h:P.void k with
 |true=>exact h1 h
 |false=>exact h2 h)
theorem yB(C:az c B P st b H)(k:V8)(hk:P.pc k=true){Q:AQ}(h1:P.perm k=true->Q (.bool true) H)(h2:P.perm k=false->Q (.bool false) H):WC e.G (D+1) (.ref 196) [.ref c.self,.int (vi k)] H Q:=A9 C k hk (by
 cases h:P.perm k with
 |true=>exact h1 h
 |false=>exact h2 h)
theorem ao.sub{ms Ti:List Addr}{H H':ah}(F:ao ms H H')(h:∀a∈ms,a∈Ti):ao Ti H H':=fun a o e n=>F a o e fun z=>n (h a z)
theorem Xb:True:=by
 k_with"fr"=>(first|(first|with_reducible exact ao.refl|(refine ao.sub (by with_reducible assumption) ?_;(first|(intro _ h;exact h)|(intro _ h;exact .tail _ h)|(intro _ h;exact .tail _ (.tail _ h))|(intro _ h;exact y9 (.inl (fG h)))|(intro _ h;exact .tail _ (y9 (.inl (fG h))))|(intro a h;simp only[AJ.mods,List.mem_cons,List.not_mem_nil,or_false]at h⊢;first|(focus(simp only[h,eq_self,true_or,or_true];done))|(rcases h with h|h<;>simp only[h,eq_self,true_or,or_true]))))|(refine ao.trans (ao.sub (by with_reducible assumption) ?_) ?_;(first|(intro _ h;exact h)|(intro _ h;exact .tail _ h)|(intro _ h;exact .tail _ (.tail _ h))|(intro _ h;exact y9 (.inl (fG h)))|(intro _ h;exact .tail _ (y9 (.inl (fG h))))|(intro a h;simp only[AJ.mods,List.mem_cons,List.not_mem_nil,or_false]at h⊢;first|(focus(simp only[h,eq_self,true_or,or_true];done))|(rcases h with h|h<;>simp only[h,eq_self,true_or,or_true])));k_extra"fr"))|fail)
 trivial
theorem sP:kR e.G.K ("CON":Str)=some 4:=by kernel_rfl
theorem w0:kR e.G.K ("INT":Str)=some 5:=by kernel_rfl
theorem Kh:kR e.G.K ("F_DOT":Str)=some 0:=by kernel_rfl
theorem PC:cv e.G.K 417 ("place":Str) 203=true:=by kernel_rfl
theorem PG:cv e.G.K 417 ("emit":Str) 175=true:=by kernel_rfl
theorem PE:cv e.G.K 417 ("is_void":Str) 189=true:=by kernel_rfl
theorem PD:cv e.G.K 417 ("is_permanent":Str) 196=true:=by kernel_rfl
theorem PF:cv e.G.K 417 ("new_temporary":Str) 182=true:=by kernel_rfl
theorem a1:cj e.G.K 417 ("kernel":Str)=true:=by kernel_rfl
theorem a2:cj e.G.K 417 ("plan":Str)=true:=by kernel_rfl
theorem a3:cj e.G.K 417 ("code":Str)=true:=by kernel_rfl
theorem a4:cj e.G.K 417 ("seen":Str)=true:=by kernel_rfl
theorem a5:cj e.G.K 417 ("local":Str)=true:=by kernel_rfl
theorem a6:cj e.G.K 417 ("next_temporary":Str)=true:=by kernel_rfl
theorem Xa:True:=by
 k_with"wf"=>(first|(with_reducible first|exact PG|exact PC|exact PE|exact PD|exact PF|exact sP|exact w0|exact Kh|exact a3|exact a4|exact a5|exact a6|exact a2|exact a1)|fail)
 trivial
theorem W9:True:=by
 k_with"wc"=>(first|(first|(focus(refine' yz ?_ _ ?_ ?_;rotate_right 3;(· k_extra"as");(· k_extra"as")))|(focus(refine' xY ?_ _ ?_ ?_ ?_;rotate_right 4;(· k_extra"as");(· k_extra"as");all_goals intro _))|(focus(refine' yB ?_ _ ?_ ?_ ?_;rotate_right 4;(· k_extra"as");(· k_extra"as");all_goals intro _))|(focus(refine' t7 ?_ ?_;rotate_right 2;(· k_extra"as");intro _ _ _))|(focus(refine' Kl ?_ ?_;rotate_right 2;(· k_extra"as");intro _ _ _))|(focus(refine' Kk ?_ ?_;rotate_right 2;(· k_extra"as");intro _ _ _))|(focus(refine' EX ?_ ?_;rotate_right 2;(· k_extra"as");intro _ _ _))|(focus(refine' EV ?_ ?_;rotate_right 2;(· k_extra"as");intro _ _ _))|(focus(refine' BV ?_ ?_;rotate_right 2;(· k_extra"as");intro _ _ _))|(focus(refine' Km ?_ ?_;rotate_right 2;(· k_extra"as");intro _ _ _)))|fail)
 trivial
theorem s9{n:Int}{Q:AQ}(h:Q (Part.c 4 n).av H):WC e.G (D+1) (.ref 154) [(Tm.a n).av] H Q:=by
 refine bj (ns:=["term"]) (by kernel_rfl) (by kernel_rfl) rfl (gx (by intro x;kernel_rfl)) ?_
 k_extra"norm_m"
 k_extra"wg"
 exact h
theorem s8{n:Int}{Q:AQ}(h:Q (Part.c 5 n).av H):WC e.G (D+1) (.ref 154) [(Tm.i n).av] H Q:=by
 refine bj (ns:=["term"]) (by kernel_rfl) (by kernel_rfl) rfl (gx (by intro x;kernel_rfl)) ?_
 k_extra"norm_m"
 k_extra"wg"
 exact h
theorem Bh(C:az c B P st (b+1) H)(k:V8)(hk:P.pc k=true){Q:AQ}(h:∀H',az c B P (pD P k st) b H'->ao c.mods H H'->Q .none H'):WC e.G (D+3) (.ref 245) [.ref c.self,.int (vi k)] H Q:=by
 refine bj (ns:=["self","k"]) (by kernel_rfl) (by kernel_rfl) rfl (fL (by intro x y;kernel_rfl)) ?_
 k_extra"norm_m"
 k_extra"wg"
 all_goals exact h _ (by simp only[pD, *,↓reduceIte,Bool.false_eq_true]) (by k_extra"fr")
theorem dS.rule{α:Type}{f:α->AV}{x:Str}{body:List Stmt}{kp:Option (Addr×AO)}{Q:Fl->bP->ah->Prop}(I:List α->bP->ah->Prop)
 (step:∀a au m H,I (a::au) m H->cA kp H->WS G D cs cl body ((x,f a)::m) H (pZ (fun m' H'=>cA kp H'/\I au m' H') Q)) (fin:∀m H,I [] m H->cA kp H->Q .next m H):
 ∀ (xs:List α) {m:bP} {H:ah},cA kp H->I xs m H->dS G D cs cl x body kp Q (xs.map f) m H:=by
 intro zz
 induction zz with
 |nil=>
  intro m H kh h
  exact fin m H h kh
 |cons a xs ih=>
  intro m H kh h
  exact(step a xs m H h kh).mono fun fl m' H' q=>by
   cases fl with
   |next=>exact⟨q.1,ih q.1 q.2⟩
   |cont=>exact⟨q.1,ih q.1 q.2⟩
   |brk=>exact q
   |ret a=>exact q
theorem fT.rule{t:Expr}{body:List Stmt}{Q:Fl->bP->ah->Prop}(I:Nat->bP->ah->Prop)
 (step:∀n m H,I n m H->WT G D cs cl t m H fun b H1=>match b with|true=>∃n',n=n'+1/\WS G D cs cl body m H1 (pZ (I n') Q)|false=>Q .next m H1):
 ∀ (n:Nat) {m:bP} {H:ah},I n m H->fT G D cs cl t body Q (n+1) m H:=by
 intro zz
 induction zz with
 |zero=>
  intro m H h
  exact⟨fun c h1 h2 ok mm ae s S lr Q' E k=>(step 0 m H h).go c h1 h2 ok mm ae s S lr Q' E fun b H' n' h' tk S1 K1 w=>k b H' n' h' tk S1 K1 (by
   cases b with
   |true=>(refine aA (w) fun n' e _=>?_;clear w);lia
   |false=>exact w)⟩
 |succ n ih=>
  intro m H h
  exact⟨fun c h1 h2 ok mm ae s S lr Q' E k=>(step (n+1) m H h).go c h1 h2 ok mm ae s S lr Q' E fun b H' n' h' tk S1 K1 w=>k b H' n' h' tk S1 K1 (by
   clear K1 S1 k Q' lr S s ae mm ok h2 h1 c h H;cases b with
   |true=>
    refine aA (w) ?_;clear w;intro n' e w
    have:n'=n:=by exact(Nat.succ.inj ‹_›).symm
    clear e;subst this
    exact w.mono fun fl m' H' q=>by
     cases fl with
     |next=>exact ih q
     |cont=>exact ih q
     |brk=>exact q
     |ret a=>exact q
   |false=>exact w)⟩
def Sub(m' m:bP):Prop:=∀x a,m'.lookup x=some a->m.lookup x=some a
theorem Sub.nil{m:bP}:Sub [] m:=fun _ _ h=>ax h
theorem Sub.cons{m m':bP}{k:Str}{v:AV}(h:m.lookup k=some v)(r:Sub m' m):Sub ((k,v)::m') m:=fun x a e=>by
 rw[List.lookup_cons]at e
 by_cases q:x=k
 ·subst q;simp only[beq_self_eq_true]at e;cases e;exact h
 ·have q1:(x==k)=false:=by simpa using q
  simp only[q1]at e
  exact r x a e
theorem ao.out{ms:List Addr}{H H':ah}{a:Addr}{o:AO}(F:ao ms H H')(h:H a=some o)(n:a∉ms):H' a=some o:=F a o h n
theorem ao.drop{ms:List Addr}{H H':ah}{a:Addr}(h:H a=none)(F:ao (a::ms) H H'):ao ms H H':=fun x o e n=>F x o e (by
 rw[List.mem_cons,not_or]
 exact⟨fun z=>(by rw[z,h]at e;(exact ax e)),n⟩)
structure Off(c:AJ)(B:ah)(l:Addr):Prop where
 self:l≠c.self
 mods:l∉c.mods
 base:B l=none
theorem az.off{c B P st b H}(C:az c B P st b H){l:Addr}(h:H l=none):Off c B l:=by
 have ne:∀ {a o},H a=some o->l≠a:=fun e z=>by rw[z,e]at h;(exact bg h)
 refine⟨ne C.self,?_,?_⟩
 ·simp only[List.mem_cons,List.not_mem_nil,or_false,not_or]
  exact⟨ne C.d,ne C.lc,ne C.ls,ne C.ll⟩
 ·cases e:B l with
  |none=>rfl
  |some o=>rw[(C.base l o e).1]at h;(exact bg h)
theorem az.pC{c B P st b H}(C:az c B P st b H){l:Addr}{o:AO}(h:Off c B l):az c B P st b (H.put l o):=
 C.gB (ms:=[l]) (ao.put (by exact List.mem_cons_self)) fun a ha=>by
  have:a=l:=by simpa using ha
  clear ha;subst this
  exact⟨by simp only[List.mem_cons,not_or];exact⟨h.self,by simpa using h.mods⟩,h.base⟩
noncomputable def Tm.tag:Tm->Str
 |.v _=>"v"
 |.a _=>"a"
 |.i _=>"i"
 |.s1 _=>"s"
 |.s2 _ _ _=>"s"
theorem GD{t:Tm}{Q:AQ}(h:Q (.str t.tag) H):WI G D t.av (.int 0) H Q:=by
 cases t with
 |s2 f a b=>cases f<;>exact WI.tup (by decide) rfl (cm rfl) h
 |_=>exact WI.tup (by decide) rfl (cm rfl) h
theorem tF{t:Tm}{Q:Bool->ah->Prop}(h1:t.cH=true->Q true H)(h2:t.cH=false->Q false H):cS G D .Eq (.str t.tag) (.str ("s":Str)) H Q:=by
 cases t with
 |s1 a=>exact fJ (x:=true) (by kernel_rfl) (h1 rfl)
 |s2 f a b=>exact fJ (x:=true) (by kernel_rfl) (h1 rfl)
 |v k=>exact fJ (x:=false) (by kernel_rfl) (h2 rfl)
 |a k=>exact fJ (x:=false) (by kernel_rfl) (h2 rfl)
 |i k=>exact fJ (x:=false) (by kernel_rfl) (h2 rfl)
theorem cS.A2{t:Tm}{Q:Bool->ah->Prop}(h1:t.tA=true->Q true H)(h2:t.tA=false->Q false H):cS G D .Eq (.str t.tag) (.str ("v":Str)) H Q:=by
 cases t with
 |s1 a=>exact fJ (x:=false) (by kernel_rfl) (h2 rfl)
 |s2 f a b=>exact fJ (x:=false) (by kernel_rfl) (h2 rfl)
 |v k=>exact fJ (x:=true) (by kernel_rfl) (h1 rfl)
 |a k=>exact fJ (x:=false) (by kernel_rfl) (h2 rfl)
 |i k=>exact fJ (x:=false) (by kernel_rfl) (h2 rfl)
noncomputable def iu(x:Tm×Part):AV:=.tup [x.1.av,x.2.av]
def dq(P:aX)(t:Tm):Prop:=∀k∈t.occs,P.pc k=true
theorem W8:True:=by
 k_with"hfr"=>(first|(first|(first|with_reducible assumption|with_reducible exact az.self ‹_›|with_reducible exact az.d ‹_›|with_reducible exact az.lc ‹_›|with_reducible exact az.ls ‹_›|with_reducible exact az.ll ‹_›|with_reducible exact al _ _ _)|(refine ao.out (by with_reducible assumption) ?_ ?_<;>first|with_reducible assumption|(first|with_reducible assumption|with_reducible exact az.self ‹_›|with_reducible exact az.d ‹_›|with_reducible exact az.lc ‹_›|with_reducible exact az.ls ‹_›|with_reducible exact az.ll ‹_›|with_reducible exact al _ _ _)|(refine ao.out (by with_reducible assumption) ?_ ?_<;>first|with_reducible assumption|(first|with_reducible assumption|with_reducible exact az.self ‹_›|with_reducible exact az.d ‹_›|with_reducible exact az.lc ‹_›|with_reducible exact az.ls ‹_›|with_reducible exact az.ll ‹_›|with_reducible exact al _ _ _)|(refine ao.out (by with_reducible assumption) ?_ ?_<;>first|with_reducible assumption|(first|with_reducible assumption|with_reducible exact az.self ‹_›|with_reducible exact az.d ‹_›|with_reducible exact az.lc ‹_›|with_reducible exact az.ls ‹_›|with_reducible exact az.ll ‹_›|with_reducible exact al _ _ _)))))|fail)
 trivial
theorem FW{l:Addr}{xs:List AV}{a:AV}{Q:AQ}(C:az c B P st b H)(ol:Off c B l)(hl:H l=some (.list xs))(hz:xs.length<=16000000)(h:∀H',az c B P st b H'->H' l=some (.list (xs++[a]))->ao [l] H H'->Q .none H'):
 WB e.G D (.builtin "list.append") [.ref l,a] H Q:=dG hl hz (h _ (C.pC ol) (al ..) (ao.put (by exact List.mem_cons_self)))
theorem FQ{l:Addr}{xs:List AV}{a:AV}{Q:AQ}(C:az c B P st b H)(ol:Off c B l)(hl:H l=some (.list (xs++[a])))(hz:xs.length<=16000000)(h:∀H',az c B P st b H'->H' l=some (.list xs)->ao [l] H H'->Q a H'):
 WB e.G D (.builtin "list.pop") [.ref l] H Q:=WB.pop hl hz (h _ (C.pC ol) (al ..) (ao.put (by exact List.mem_cons_self)))
theorem Py:cv e.G.K 417 ("match_variable":Str) 245=true:=by kernel_rfl
theorem Jf:nsIn e.G.K mainGlobals ("constant_cell":Str)=some (some (.ref 154)):=by kernel_rfl
theorem P7:keepIn e.G.K (.ref 154)=true:=by kernel_rfl
theorem pj:nsIn e.G.K mainGlobals ("len":Str)=some none:=by kernel_rfl
theorem jn:bootBuiltins ("len":Str)=some (.builtin "len"):=by kernel_rfl
theorem W7:True:=by
 k_with"wf"=>(first|(with_reducible first|exact Py|exact Jf|exact P7)|fail)
 trivial
theorem W6:True:=by
 k_with"wk"=>(first|((refine' jQ pj jn (by decide) ?_))|fail)
 trivial
theorem W5:True:=by
 k_with"wb"=>(first|(first|(focus(refine' FW ?_ ?_ ?_ ?_ ?_;rotate_right 5;(· k_extra"as");(· k_extra"as");(· k_extra"hfr");(· (first|exact cm rfl|(simp only[List.length_map,List.length_append,List.length_reverse,fi,List.length_nil];(first|exact d6 ‹_› (cm rfl)|lia))|(first|exact d6 ‹_› (cm rfl)|lia)));intro _ _ _ _))|(focus(refine' lK ?_ ?_ ?_ ?_;rotate_right 4;(· k_extra"hfr");(· exact rfl);(· (first|exact cm rfl|(simp only[List.length_map,List.length_append,List.length_reverse,fi,List.length_nil];(first|exact d6 ‹_› (cm rfl)|lia))|exact Ad hn t2)))))|fail)
 trivial
theorem W4:True:=by
 k_with"wb"=>(first|((focus(refine' FQ ?_ ?_ ?_ ?_ ?_;rotate_right 5;(· k_extra"as");(· k_extra"as");(· k_extra"hfr");(· (first|exact cm rfl|(simp only[List.length_map,List.length_append,List.length_reverse,fi,List.length_nil];(first|exact d6 ‹_› (cm rfl)|lia))|lia));intro _ _ _ _)))|fail)
 trivial
theorem W3:True:=by
 k_with"wc"=>(first|(first|(refine s9 ?_)|(refine s8 ?_)|(focus(refine' Bh ?_ _ ?_ ?_;rotate_right 3;(· k_extra"as");(· k_extra"as");intro _ _ _)))|fail)
 trivial
theorem DJ{t:Tm}{Q:Bool->ah->Prop}(hs:t.tA=false)(h:Q false H):cS G D .Eq (.str t.tag) (.str ("v":Str)) H Q:=cS.A2 (fun z=>by rw[hs]at z;(exact bI z)) (fun _=>h)
theorem Ey{t:Tm}(h:t.tA=true):∃j,t=.v j:=by cases t<;>first|exact⟨_,rfl⟩|exact absurd h jx
theorem zX{D:Nat}{H:ah}{t:Tm}(hv:t.tA=false)(hs:t.cH=false){Q:AQ}(h:Q t.cell.av H):WC e.G (D+1) (.ref 154) [t.av] H Q:=by
 cases t with
 |a n=>exact s9 h
 |i n=>exact s8 h
 |v j=>exact dH hv
 |s1 u=>exact dH hs
 |s2 f u v=>exact dH hs
theorem zx{P:aX}{t:Tm}(hv:t.tA=false):isVoid P t=false:=by cases t<;>first|rfl|((exact dH hv);done)
theorem Ep{P:aX}{t:Tm}(hs:t.cH=true)(ns:List (Tm×Part))(st:CS):eB P t ns st=(ns++[(t,.t st.next)],st.tick.emit "unify_variable" [.t st.next]):=by cases t<;>first|rfl|((exact bI hs);done)
theorem Er{P:aX}{t:Tm}(hv:t.tA=false)(hs:t.cH=false)(ns:List (Tm×Part))(st:CS):eB P t ns st=(ns,st.emit "unify_constant" [t.cell]):=by cases t<;>first|rfl|((first|exact dH hs|cases hs);done)|((exact dH hv);done)
theorem W2:True:=by
 k_with"wi"=>(first|(first|(refine WI.tup (by decide) rfl (cm rfl) ?_)|(refine GD ?_))|fail)
 trivial
theorem W0:True:=by
 k_with"wq"=>(first|(first|(focus(refine' DJ ?_ ?_;rotate_right 2;(· k_extra"as")))|((with_reducible refine tF ?_ ?_)<;>intro _)|((with_reducible refine cS.A2 ?_ ?_)<;>intro _))|fail)
 trivial
theorem WZ:True:=by
 k_with"wc"=>(first|((focus(refine' zX ?_ ?_ ?_;rotate_right 3;(· k_extra"as");(· k_extra"as"))))|fail)
 trivial
theorem nF{k:V8}(h:dq P (.v k)):P.pc k=true:=h k (by exact List.mem_cons_self)
structure MI(c:AJ)(B:ah)(P:aX)(args:List Tm)(Ho:CS)(b:Nat)(Sv:ah)(wa:AV)(ln:Addr)(au:List Tm)(m:bP)(H:ah):Prop where
 go:∃aM nested st,m.lookup ("self":Str)=some (.ref c.self)/\m.lookup ("waiting":Str)=some wa/\m.lookup ("nested":Str)=some (.ref ln)/\m.lookup ("voids":Str)=some (.int aM)/\
  az c B P st (b+2*au.length+1) H/\H ln=some (.list (nested.map iu))/\nested.length+au.length<=args.length/\ao (ln::c.mods) Sv H/\bQ P au aM nested st=bQ P args 0 [] Ho/\∀t∈au,dq P t
theorem ze(as:List Tm)(hd:∀t∈as,dq P t)(C:az c B P st (b+2*as.length+1) H)(hz:as.length<=1000){lw:Addr}{W:List AV}(hw:H lw=some (.list W))(hW:W.length<=1000000)(ow:Off c B lw){Q:AQ}
 (h:∀H',az c B P (bQ P as 0 [] st).2 b H'->H' lw=some (.list (W++(bQ P as 0 [] st).1.reverse.map iu))->ao (lw::c.mods) H H'->Q .none H'):WC e.G (D+4) (.ref 238) [.ref c.self,.tup (as.map Tm.av),.ref lw] H Q:=by
 refine bj (ns:=["self","args","waiting"]) (by kernel_rfl) (by kernel_rfl) rfl (gW (by intro x y z;kernel_rfl)) ?_
 k_extra"norm_m"
 k_extra"wg"
 intro ln JI
 k_extra"wg"
 refine jG ?_
 k_extra"wg"
 refine⟨_,rfl,?_⟩
 have ol:=C.off JI
 have Jw:lw≠ln:=fun z=>by rw[z,JI]at hw;(exact ax hw)
 refine dS.rule (MI c B P as st b (H.put ln (.list [])) (.ref lw) ln) (fun t au m1 H1 I kp=>?_) (fun m1 H1 I kp=>?_) as trivial ?_
 ·refine jM (I.go) fun aM nested cY Hc=>?_;refine mM (Hc) fun i1 i2 i3 i4 C1 hl i6 F1 i7 i8=>?_;clear Hc
  refine WS.weak (m':=[("arg",t.av),("self",.ref c.self),("waiting",.ref lw),("nested",.ref ln),("voids",.int aM)]) (Sub.cons rfl (Sub.cons i1 (Sub.cons i2 (Sub.cons i3 (Sub.cons i4 Sub.nil))))) ?_
  replace C1:az c B P cY (b+2*au.length+1+1+1) H1:=C1.weak (by simp only[fi];(exact Nat.le_refl _))
  simp only[fi]at i6
  have nl:=ol.mods
  have i9:∀t∈au,dq P t:=fun t ht=>i8 t (.tail _ ht)
  have JX:dq P t:=i8 t (.head _)
  clear i8 I hw C
  have step:∀ip kO st' m' H',(∃b',az c B P st' b' H'/\b+2*au.length+1<=b')->H' ln=some (.list (kO.map iu))->ao (ln::c.mods) H1 H'->bQ P au ip kO st'=bQ P (t::au) aM nested cY->kO.length<=nested.length+1->List.lookup ("self":Str) m'=some (.ref c.self)->m'.lookup ("waiting":Str)=some (.ref lw)->m'.lookup ("nested":Str)=some (.ref ln)->m'.lookup ("voids":Str)=some (.int ip)->
   cA none H'/\MI c B P as st b (H.put ln (.list [])) (.ref lw) ln au m' H':=
   fun ip kO st' m' H' a5 a6 a8 a9 a7 a1 a2 a3 a4=>⟨trivial,⟨ip,kO,st',a1,a2,a3,a4,a5.elim fun b' q=>q.1.weak q.2,a6,by exact Rl i6 a7,F1.trans a8,a9.trans i7,i9⟩⟩
  by_cases hv:t.tA=true
  ·refine aY (Ey hv) fun k ak=>?_;(clear hv i7;subst ak)
   have hk:=nF JX
   k_extra"wg"
   all_goals (refine step _ _ _ _ _ ⟨_,by k_extra"as",by(first|((simp +arith;done))|exact Nat.le_refl _|lia)⟩ (by k_extra"hfr") (by k_extra"fr") (by simp only[bQ,ud,uf,ue,qJ,qI,jb,jd,jc,hX,hU,co,qu,Bool.false_eq_true,↓reduceIte, *]) (by(first|exact Nat.le_add_right _ _|lia)) rfl rfl rfl rfl)
  ·replace hv:=eq_false_of_ne_true hv
   have TH:=zx (P:=P) hv
   k_extra"wg"
   all_goals first
    |(have hm:=Ep (P:=P) (show t.cH=true by assumption);refine step _ (nested++[(t,_)]) _ _ _ ⟨_,by k_extra"as",by(first|exact B8|exact B7)⟩ (by rw[List.map_append];assumption) (by k_extra"fr") (by simp only[bQ,TH,hm,co,qu,Bool.false_eq_true,↓reduceIte, *]) (by simp) rfl rfl rfl rfl)
    |(have hm:=Er (P:=P) hv (show t.cH=false by assumption);refine step _ _ _ _ _ ⟨_,by k_extra"as",by(first|exact B8|exact B7)⟩ (by k_extra"hfr") (by k_extra"fr") (by simp only[bQ,TH,hm,co,qu,Bool.false_eq_true,↓reduceIte, *]) (by exact uJ) rfl rfl rfl rfl)
 ·refine jM (I.go) fun aM nested cY GY=>?_;refine mM (GY) fun i1 i2 i3 i4 C1 hl i6 F1 i7 i8=>?_;clear GY
  refine WS.weak (m':=[("self",.ref c.self),("waiting",.ref lw),("nested",.ref ln),("voids",.int aM)]) (Sub.cons i1 (Sub.cons i2 (Sub.cons i3 (Sub.cons i4 Sub.nil)))) ?_
  have Xo:H1 lw=some (.list W):=F1.out (aj _ _ Jw |>.trans hw) (by rw[List.mem_cons,not_or];exact⟨Jw,ow.mods⟩)
  have F2:ao c.mods H (H.put ln (.list [])):=ao.new JI
  clear hw C i8 I
  simp only[List.length_nil]at i6
  have nl:=ol.mods
  have nw:=ow.mods
  have zA:lw∉[ln]:=fun z=>Jw (fG z)
  have vA:ln∉[lw]:=fun z=>Jw (fG z).symm
  refine WS.seq (fun m' H'=>m'.lookup ("waiting":Str)=some (.ref lw)/\m'.lookup ("nested":Str)=some (.ref ln)/\az c B P (bQ P as 0 [] st).2 b H'/\nested=(bQ P as 0 [] st).1/\H' ln=some (.list (nested.map iu))/\H' lw=some (.list W)/\ao c.mods H1 H') ?_ ?_
  ·rw[←i7]
   k_extra"wg"
   all_goals exact⟨rfl,rfl,rfl,by simp only[bQ,co,↓reduceIte, *]<;>exact az.weak (by k_extra"as") (by simp),by(rfl),by k_extra"hfr",by k_extra"hfr",by k_extra"fr"⟩
  ·intro m2;intro H2;intro ak;refine eP (ak) fun j1 j2 C2 j3 j4 j5 F3=>?_;clear ak
   generalize (bQ P as 0 [] st).2=pB at *
   generalize (bQ P as 0 [] st).1=YI at *
   subst j3
   refine WS.cons (d7 ⟨nested.length+1,fT.rule (fun n m' H'=>∃au moved,au.length=n/\nested=au++moved/\m'.lookup ("waiting":Str)=some (.ref lw)/\m'.lookup ("nested":Str)=some (.ref ln)/\az c B P pB b H'/\H' ln=some (.list (au.map iu))/\H' lw=some (.list (W++moved.reverse.map iu))/\ao (ln::lw::c.mods) H1 H') ?_ nested.length ⟨nested,[],rfl,by simp,j1,j2,C2,j4,by simpa using j5,F3.sub (by(first|(intro _ h;exact h)|(intro _ h;exact .tail _ h)|(intro _ h;exact .tail _ (.tail _ h))|(intro _ h;exact y9 (.inl (fG h)))|(intro _ h;exact .tail _ (y9 (.inl (fG h))))|(intro a h;simp only[AJ.mods,List.mem_cons,List.not_mem_nil,or_false]at h⊢;first|(focus(simp only[h,eq_self,true_or,or_true];done))|(rcases h with h|h<;>simp only[h,eq_self,true_or,or_true]))))⟩⟩)
   intro n;intro m3;intro H3;intro ak;refine sQ (ak) fun au moved GX=>?_;clear ak;refine w9 (GX) fun e1 e2 l1 l2 C3 h1 h2 F4=>?_;clear GX
   have Qt:au.length<=1000:=by have:=congrArg List.length e2;simp at this;exact Rk hz i6 this
   have Br:moved.length<=1000:=by have:=congrArg List.length e2;simp at this;exact Rj hz i6 this
   refine WT.weak (m':=[("waiting",.ref lw),("nested",.ref ln)]) (Sub.cons l1 (Sub.cons l2 Sub.nil)) ?_
   clear C1 C2 hl j4 j5 Xo
   k_extra"wg"
   ·have:au≠[]:=fun z=>by(clear Br Qt F4 h2 h1 C3 l2 e2 e1 moved H3 n h j2 vA zA nl F2 i7 F1 i6 i3 nested Jw ol JI ln;subst z);simp only[List.map_nil,List.length_nil]at *;exact Ri a
    refine sQ ((⟨au.dropLast,au.getLast this,(List.dropLast_concat_getLast this).symm⟩:∃r x,au=r++[x])) fun f0 x ak=>?_;(clear this a;subst ak)
    have YW:f0.length<=1000:=by simp only[List.length_append]at Qt;(exact Nat.le_of_lt ‹_›)
    refine⟨f0.length,by rw[←e1];(exact List.length_append),?_⟩
    refine WS.weak (m':=[("waiting",.ref lw),("nested",.ref ln)]) (Sub.cons l1 (Sub.cons l2 Sub.nil)) ?_
    rw[List.map_append,List.map_cons,List.map_nil]at h1
    k_extra"wg"
    refine⟨f0,x::moved,rfl,by simp[e2],rfl,rfl,by k_extra"as",by k_extra"hfr",?_,by k_extra"fr"⟩
    simp only[List.reverse_cons,List.map_append,List.map_cons,List.map_nil,←List.append_assoc]
    assumption
   ·have:au=[]:=by cases au with
     |nil=>rfl
     |cons _ _=>exfalso;simp only[List.length_map,fi]at *;exact E7 a
    clear a Qt h1 e1 n;subst this
    refine h _ C3 (by rw[h2,e2];(rfl)) (ao.drop JI ?_)
    k_extra"fr"
 ·exact⟨0,[],st,rfl,rfl,rfl,rfl,C.pC ol,al _ _ _,by simp,ao.refl,rfl,hd⟩
noncomputable def xn:List (Tm×Part)->Nat
 |[]=>0
 |x::r=>x.1.size+xn r
theorem nQ:xn []=0:=rfl
theorem nR:∀x r,xn (x::r)=x.1.size+xn r:=fun _ _=>rfl
noncomputable def kA:List Tm->Nat
 |[]=>0
 |x::r=>x.size+kA r
theorem eH:kA []=0:=rfl
theorem eI:∀x r,kA (x::r)=x.size+kA r:=fun _ _=>rfl
theorem tI:∀ (a b:List (Tm×Part)),xn (a++b)=xn a+xn b:=by
 intro zz
 induction zz with
 |nil=>
  intro b
  simp[nQ,nR]
 |cons x a ih=>
  intro b
  simp only[List.cons_append,nQ,nR,ih b];exact KA
theorem bW(t:Tm):1<=t.size:=by cases t<;>(first|exact cm rfl|simp[bL,bN,bM,bE,bD])
theorem vp:∀ (a:List (Tm×Part)),a.length<=xn a:=by
 intro zz
 induction zz with
 |nil=>
  exact Nat.zero_le _
 |cons x a ih=>
  have:=ih;have:=bW x.1;simp only[fi,nQ,nR];exact Kz ‹_› this
theorem nT(t:Tm)(h:t.cH=true):kA t.args+1=t.size:=by cases t<;>simp_all [rj,rp,rn,po,pn,eR,eU,eS,dX,dW,eH,eI,bL,bN,bM,bE,bD]
theorem qH(P:aX):∀ (as:List Tm) (v:Int) (ns:List (Tm×Part)) (st:CS),∃l,(bQ P as v ns st).1=ns++l/\(∀x∈l,x.1.cH=true/\x.1∈as)/\xn l<=kA as:=by
 intro zz
 induction zz with
 |nil=>
  intro v ns st
  exact⟨[],by simp[bQ],(fun _ m=>nomatch m),by exact Nat.zero_le _⟩
 |cons t r ih=>
  intro v ns st
  unfold bQ
  split
  ·refine aN (ih (v+1) ns st) fun l h1 h2 h3=>?_
   exact⟨l,h1,fun x hx=>⟨(h2 x hx).1,.tail _ (h2 x hx).2⟩,by simp only[eH,eI];exact B6 h3⟩
  ·cases t with
   |v k=>
    (refine aN (ih (qu v) (eB P (.v k) ns (co "unify_void" v st)).1 (eB P (.v k) ns (co "unify_void" v st)).2) fun l h1 h2 h3=>?_)
    exact⟨l,h1,fun x hx=>⟨(h2 x hx).1,.tail _ (h2 x hx).2⟩,by simp only[eH,eI];exact B6 h3⟩
   |a k=>
    (refine aN (ih (qu v) (eB P (.a k) ns (co "unify_void" v st)).1 (eB P (.a k) ns (co "unify_void" v st)).2) fun l h1 h2 h3=>?_)
    exact⟨l,h1,fun x hx=>⟨(h2 x hx).1,.tail _ (h2 x hx).2⟩,by simp only[eH,eI];exact B6 h3⟩
   |i k=>
    (refine aN (ih (qu v) (eB P (.i k) ns (co "unify_void" v st)).1 (eB P (.i k) ns (co "unify_void" v st)).2) fun l h1 h2 h3=>?_)
    exact⟨l,h1,fun x hx=>⟨(h2 x hx).1,.tail _ (h2 x hx).2⟩,by simp only[eH,eI];exact B6 h3⟩
   |s1 u=>
    (refine aN (ih (qu v) (eB P (.s1 u) ns (co "unify_void" v st)).1 (eB P (.s1 u) ns (co "unify_void" v st)).2) fun l h1 h2 h3=>?_)
    refine⟨_::l,h1.trans (List.append_assoc ns [_] l),fun x hx=>?_,by simp only[eH,eI,nQ,nR];(exact Nat.add_le_add_left ‹_› _)⟩
    rcases de hx with rfl|hx
    ·exact⟨rfl,.head _⟩
    ·exact⟨(h2 x hx).1,.tail _ (h2 x hx).2⟩
   |s2 f u w=>
    (refine aN (ih (qu v) (eB P (.s2 f u w) ns (co "unify_void" v st)).1 (eB P (.s2 f u w) ns (co "unify_void" v st)).2) fun l h1 h2 h3=>?_)
    refine⟨_::l,h1.trans (List.append_assoc ns [_] l),fun x hx=>?_,by simp only[eH,eI,nQ,nR];(exact Nat.add_le_add_left ‹_› _)⟩
    rcases de hx with rfl|hx
    ·exact⟨rfl,.head _⟩
    ·exact⟨(h2 x hx).1,.tail _ (h2 x hx).2⟩
theorem di{P:aX}{t u:Tm}(h:dq P t)(m:u∈t.args):dq P u:=by
 cases t with
 |s1 a=>simp only[eR,eU,eS,dX,dW,List.mem_singleton]at m;subst m;exact fun k hk=>h k hk
 |s2 f a b=>
  simp only[eR,eU,eS,dX,dW,List.mem_cons,List.not_mem_nil,or_false]at m
  rcases m with rfl|rfl
  ·exact fun k hk=>h k (List.mem_append_left _ hk)
  ·exact fun k hk=>h k (List.mem_append_right _ hk)
 |_=>simp[eR,eU,eS,dX,dW]at m
theorem yP{st:CS}{u:Tm}{r:Part}:aZ st "get" (.s1 u) r=st.emit "get_structure" [.num 12,r]:=rfl
theorem yO{st:CS}{u v:Tm}{r:Part}:aZ st "get" (.s2 false u v) r=st.emit "get_list" [r]:=rfl
theorem yN{st:CS}{u v:Tm}{r:Part}:aZ st "get" (.s2 true u v) r=st.emit "get_structure" [.num 14,r]:=rfl
theorem Pz:cv e.G.K 417 ("match_arguments":Str) 238=true:=by kernel_rfl
theorem WY:True:=by
 k_with"wf"=>(first|(with_reducible exact Pz)|fail)
 trivial
theorem WX:True:=by
 k_with"wx"=>(first|((refine Cm ?_))|fail)
 trivial
theorem vh{Q:AQ}{lw:Addr}{ws:List (Tm×Part)}{n:Nat}{t:Tm}{reg:Part}{st':CS}
 (ow:Off c B lw) (hd:∀x∈(t,reg)::ws,x.1.cH=true/\dq P x.1) (hs:xn ((t,reg)::ws)<=n+1) (hn:n<=1000)
 (C:az c B P (aZ st' "get" t reg) (b+6*n+5) H) (hw:H lw=some (.list (ws.reverse.map iu)))
 (h:∀Cs cY H',e6 P (n+1) ((t,reg)::ws) st'=e6 P n Cs cY->(∀x∈Cs,x.1.cH=true/\dq P x.1)->xn Cs<=n->az c B P cY (b+6*n) H'->H' lw=some (.list (Cs.reverse.map iu))->ao (lw::c.mods) H H'->Q .none H'):WC e.G (D+4) (.ref 238) [.ref c.self,.tup (t.args.map Tm.av),.ref lw] H Q:=by
 have ht:=hd _ (.head _)
 have ha:t.args.length<=2:=by(clear ht h hw C hn hs hd ow st' reg n ws lw Q;cases t)<;>(first|exact cm rfl|exact Nat.zero_le _|simp[eR,eU,eS,dX,dW])
 have hl:=vp ws
 have hz:=nT t ht.1
 simp only[nQ,nR]at hs
 refine ze (b:=b+6*n) t.args (fun u hu=>di ht.2 hu) (C.weak (by exact E6 ha)) (by exact d6 ‹_› (cm rfl)) hw (by simp;exact Rh hs hn hl) ow fun H' C' Qk F=>?_
 (refine aN (qH P t.args 0 [] (aZ st' "get" t reg)) fun l e1 e2 e3=>?_)
 refine h ((bQ P t.args 0 [] (aZ st' "get" t reg)).1++ws) _ H' rfl (fun x hx=>?_) ?_ C' (by rw[Qk];simp) F
 ·rcases List.mem_append.mp hx with hx|hx
  ·rw[e1,List.nil_append]at hx
   exact⟨(e2 x hx).1,di ht.2 (e2 x hx).2⟩
  ·exact hd x (.tail _ hx)
 ·rw[tI,e1,List.nil_append]
  exact Rg hs hz e3
theorem za(t:Tm)(hs:t.cH=true)(hd:dq P t)(hz:t.size<=1000)(reg:Part)(C:az c B P st (b+6*t.size) H){Q:AQ}
 (h:∀H',az c B P (fR P t reg st) b H'->ao c.mods H H'->Q .none H'):WC e.G (D+5) (.ref 231) [.ref c.self,t.av,reg.av] H Q:=by
 refine bj (ns:=["self","term","source"]) (by kernel_rfl) (by kernel_rfl) rfl (gW (by intro x y z;kernel_rfl)) ?_
 k_extra"norm_m"
 k_extra"wg"
 intro lw vB
 k_extra"wg"
 have ow:=C.off vB
 refine d7 ⟨t.size+1,fT.rule (fun n m' H'=>∃ws st',m'.lookup ("self":Str)=some (.ref c.self)/\m'.lookup ("waiting":Str)=some (.ref lw)/\e6 P n ws st'=fR P t reg st/\(∀x∈ws,x.1.cH=true/\dq P x.1)/\xn ws<=n/\n<=1000/\az c B P st' (b+6*n) H'/\H' lw=some (.list (ws.reverse.map iu))/\ao (lw::c.mods) H H') ?_ t.size ?_⟩
 ·intro n;intro m1;intro H1;intro ak;refine sQ (ak) fun ws cY GW=>?_;clear ak;refine fS (GW) fun l1 l2 e1 wT vy hn C1 hw F1=>?_;clear GW
  have hl:=vp ws
  refine WT.weak (m':=[("self",.ref c.self),("waiting",.ref lw)]) (Sub.cons l1 (Sub.cons l2 Sub.nil)) ?_
  clear C
  k_extra"wg"
  ·obtain⟨x,ws,rfl⟩:∃x r,ws=x::r:=by
    clear hl F1 hw C1 hn vy wT e1 l2 cY H1 n ow vB lw h reg hz hd hs t;cases ws with
    |nil=>exfalso;simp at *
    |cons x r=>exact⟨x,r,rfl⟩
   refine aY ((⟨n-1,by simp only[fi]at hl;exact Ky vy hl⟩:∃k,n=k+1)) ?_;intro n ak;(clear a;subst ak)
   refine⟨n,rfl,?_⟩
   refine WS.weak (m':=[("self",.ref c.self),("waiting",.ref lw)]) (Sub.cons l1 (Sub.cons l2 Sub.nil)) ?_
   rw[List.reverse_cons,List.map_append,List.map_cons,List.map_nil]at hw
   have JN:ws.length<=1000:=by simp only[fi]at hl;exact Rf hl hn vy
   clear hl;obtain⟨t1,HZ⟩:=x
   replace C1:az c B P cY (b+6*n+5+1) H1:=C1.weak (by exact Nat.le_refl _)
   have ht:=(wT _ (.head _)).1
   have nw:=ow.mods
   k_extra"wg"
   refine⟨_,_,rfl,?_⟩
   cases t1 with
   |s1 u=>
    k_extra"wg"
    refine vh (t:=.s1 u) (reg:=HZ) (st':=cY) (b:=b) ow wT vy (by exact Nat.le_of_lt ‹_›) (by(first|rw[yP]|rw[yO]|rw[yN]);assumption) (by k_extra"hfr") ?_
    intro Cs pB H2 f1 f2 f3 C2 f4 F2
    k_extra"wg"
    exact⟨Cs,pB,rfl,rfl,f1.symm.trans e1,f2,f3,by exact Ab hn,C2,f4,by k_extra"fr"⟩
   |s2 f u w=>
    (clear ht;cases f)<;>k_extra"wg"
    all_goals
     refine vh (t:=.s2 _ u w) (reg:=HZ) (st':=cY) (b:=b) ow wT vy (by exact Ab hn) (by(first|rw[yP]|rw[yO]|rw[yN]);assumption) (by k_extra"hfr") ?_
     intro Cs pB H2 f1 f2 f3 C2 f4 F2
     k_extra"wg"
     exact⟨Cs,pB,rfl,rfl,f1.symm.trans e1,f2,f3,by exact Ab hn,C2,f4,by k_extra"fr"⟩
   |_=>(exact bI ht)
  ·obtain rfl:ws=[]:=by
    cases ws with
    |nil=>rfl
    |cons x r=>exfalso;simp only[List.length_map,List.length_reverse,fi]at *;exact E7 a
   refine h _ ?_ (ao.drop vB F1)
   rw[←e1]
   (clear e1;cases n)<;>exact C1.weak (by(first|exact Nat.le_add_right _ _|exact Nat.le_refl _|lia))
 ·refine⟨[(t,reg)],st,rfl,rfl,rfl,fun x hx=>?_,by simp[nQ,nR],hz,C.pC ow,al _ _ _,ao.new vB⟩
  cases fG hx
  exact⟨hs,hd⟩
theorem PA:cv e.G.K 417 ("match":Str) 231=true:=by kernel_rfl
theorem WW:True:=by
 k_with"wf"=>(first|(with_reducible exact PA)|fail)
 trivial
theorem WV:True:=by
 k_with"wc"=>(first|((focus(refine' za _ ?_ ?_ ?_ _ ?_ ?_;rotate_right 5;(· first|rfl|k_extra"as");(· k_extra"as");(· k_extra"as");(· k_extra"as");intro _ _ _)))|fail)
 trivial
theorem ur(t:Tm)(hd:dq P t)(hz:t.size<=1000)(src:Part)(C:az c B P st (b+6*t.size) H){Q:AQ}
 (h:∀H',az c B P (cE P t src st) b H'->ao c.mods H H'->Q .none H'):WC e.G (D+6) (.ref 224) [.ref c.self,t.av,src.av] H Q:=by
 refine bj (ns:=["self","term","source"]) (by kernel_rfl) (by kernel_rfl) rfl (gW (by intro x y z;kernel_rfl)) ?_
 k_extra"norm_m"
 have hp:=bW t
 cases t with
 |v k=>
  have hk:=nF hd
  replace C:az c B P st (b+5+1) H:=C
  k_extra"wg"
  all_goals refine h _ (az.weak (b:=b+5) ?_ (by(first|exact Nat.le_add_right _ _|lia))) (by k_extra"fr")
  all_goals (simp only[mi,ml,mj,jZ,jY, *,↓reduceIte,Bool.false_eq_true]<;>first|assumption|exact C.weak (by exact Nat.le_add_right _ _))
 |a k=>
  replace C:az c B P st (b+5+1) H:=C
  k_extra"wg"
  all_goals refine h _ (az.weak (b:=b+5) ?_ (by exact Kx)) (by k_extra"fr")
  all_goals (simp only[mi,ml,mj,jZ,jY, *,↓reduceIte,Bool.false_eq_true]<;>first|assumption|exact C.weak (by lia))
 |i k=>
  replace C:az c B P st (b+5+1) H:=C
  k_extra"wg"
  all_goals refine h _ (az.weak (b:=b+5) ?_ (by exact Kx)) (by k_extra"fr")
  all_goals (simp only[mi,ml,mj,jZ,jY, *,↓reduceIte,Bool.false_eq_true]<;>first|assumption|exact C.weak (by lia))
 |s1 u=>
  k_extra"wg"
  exact h _ ‹_› (by k_extra"fr")
 |s2 f u w=>
  cases f<;>k_extra"wg"
  all_goals exact h _ ‹_› (by k_extra"fr")
theorem wf(C:az c B P st (b+1) H)(k:V8)(hk:P.pc k=true){Q:AQ}(h:∀H',az c B P (gY P k st) b H'->ao c.mods H H'->Q .none H'):WC e.G (D+3) (.ref 292) [.ref c.self,.int (vi k)] H Q:=by
 refine bj (ns:=["self","k"]) (by kernel_rfl) (by kernel_rfl) rfl (fL (by intro x y;kernel_rfl)) ?_
 k_extra"norm_m"
 k_extra"wg"
 all_goals exact h _ (by simp only[gY, *,↓reduceIte,Bool.false_eq_true]) (by k_extra"fr")
theorem Pt:cv e.G.K 417 ("set_variable":Str) 292=true:=by kernel_rfl
theorem WU:True:=by
 k_with"wf"=>(first|(with_reducible exact Pt)|fail)
 trivial
theorem WQ:True:=by
 k_with"wc"=>(first|((focus(refine' wf ?_ _ ?_ ?_;rotate_right 3;(· k_extra"as");(· k_extra"as");intro _ _ _)))|fail)
 trivial
def jv(P:aX):Piece->Prop
 |.tm t=>t.cH=false/\dq P t
 |.reg _=>True
theorem og(ps:List Piece)(qO:∀p∈ps,jv P p)(C:az c B P st (b+2*ps.length+1) H){l:Addr}(hl:H l=some (.list (ps.map Piece.av)))(ol:Off c B l){Q:AQ}
 (h:∀H',az c B P (bm P ps 0 st) b H'->ao (l::c.mods) H H'->Q .none H'):WC e.G (D+4) (.ref 285) [.ref c.self,.ref l] H Q:=by
 refine bj (ns:=["self","pieces"]) (by kernel_rfl) (by kernel_rfl) rfl (fL (by intro x y;kernel_rfl)) ?_
 k_extra"norm_m"
 k_extra"wg"
 refine mA ?_
 k_extra"wg"
 refine⟨l,_,rfl,hl,fun ob=>?_⟩
 refine dS.rule (fun au m' H'=>∃aM st',m'.lookup ("self":Str)=some (.ref c.self)/\m'.lookup ("voids":Str)=some (.int aM)/\az c B P st' (b+2*au.length+1) H'/\ao (l::c.mods) H H'/\bm P au aM st'=bm P ps 0 st/\∀p∈au,jv P p) (fun p au m1 H1 I kp=>?_) (fun m1 H1 I kp=>?_) ps (al _ _ _) ⟨0,st,rfl,rfl,C.pC ol,ao.put (by exact List.mem_cons_self),rfl,qO⟩
 ·refine fm (I) fun aM cY i1 i2 C1 F1 i3 i4=>?_;clear I
  refine WS.weak (m':=[("piece",p.av),("self",.ref c.self),("voids",.int aM)]) (Sub.cons rfl (Sub.cons i1 (Sub.cons i2 Sub.nil))) ?_
  replace C1:az c B P cY (b+2*au.length+1+1+1) H1:=C1.weak (by simp only[fi];(exact Nat.le_refl _))
  have nl:=ol.mods
  have i5:∀p∈au,jv P p:=fun t ht=>i4 t (.tail _ ht)
  have hp:=i4 p (.head _)
  clear i4 C
  have step:∀ (ip:Int) (st':CS) (m':bP) (H':ah),(∃b',az c B P st' b' H'/\b+2*au.length+1<=b')->H' l=some (.ro (.list (ps.map Piece.av)) ob)->ao (l::c.mods) H H'->bm P au ip st'=bm P (p::au) aM cY->List.lookup ("self":Str) m'=some (.ref c.self)->m'.lookup ("voids":Str)=some (.int ip)->
   cA (some (l,.ro (.list (ps.map Piece.av)) ob)) H'/\∃aM st',m'.lookup ("self":Str)=some (.ref c.self)/\m'.lookup ("voids":Str)=some (.int aM)/\az c B P st' (b+2*au.length+1) H'/\ao (l::c.mods) H H'/\bm P au aM st'=bm P ps 0 st/\∀p∈au,jv P p:=
   fun ip st' m' H' a5 a6 a8 a9 a1 a4=>⟨a6,ip,st',a1,a4,a5.elim fun b' q=>q.1.weak q.2,a8,a9.trans i3,i5⟩
  have ui:H1 l=some (.ro (.list (ps.map Piece.av)) ob):=kp
  cases p with
  |reg n=>
   refine WS.weak (m':=[("piece",(Part.t n).av),("self",.ref c.self),("voids",.int aM)]) (fun x a h=>h) ?_
   k_extra"wg"
   all_goals (refine step _ _ _ _ ⟨_,by k_extra"as",by(first|((simp +arith;done))|exact Nat.le_refl _|lia)⟩ (by k_extra"hfr") (by k_extra"fr") (by simp only[bm,kF,kE,kH,kG,jt,js,fW,fX,jb,jd,jc,hX,hU,co,qu,Bool.false_eq_true,↓reduceIte, *]) rfl rfl)
  |tm t=>
   cases t with
   |v k=>
    have hk:=nF hp.2
    k_extra"wg"
    all_goals (refine step _ _ _ _ ⟨_,by k_extra"as",by(first|((simp +arith;done))|lia)⟩ (by k_extra"hfr") (by k_extra"fr") (by simp only[bm,kF,kE,kH,kG,jt,js,fW,fX,jb,jd,jc,hX,hU,co,qu,Bool.false_eq_true,↓reduceIte, *]) rfl rfl)
   |a k=>
    k_extra"wg"
    all_goals (refine step _ _ _ _ ⟨_,by k_extra"as",by(first|exact B8|exact B7)⟩ (by k_extra"hfr") (by k_extra"fr") (by simp only[bm,kF,kE,kH,kG,jt,js,fW,fX,jb,jd,jc,hX,hU,co,qu,Bool.false_eq_true,↓reduceIte, *]) rfl rfl)
   |i k=>
    k_extra"wg"
    all_goals (refine step _ _ _ _ ⟨_,by k_extra"as",by(first|exact B8|exact B7)⟩ (by k_extra"hfr") (by k_extra"fr") (by simp only[bm,kF,kE,kH,kG,jt,js,fW,fX,jb,jd,jc,hX,hU,co,qu,Bool.false_eq_true,↓reduceIte, *]) rfl rfl)
   |_=>cases hp.1
 ·refine fm (I) fun aM cY i1 i2 C1 F1 i3 i4=>?_;clear I
  have nl:=ol.mods
  have ui:H1 l=some (.ro (.list (ps.map Piece.av)) ob):=kp
  replace C1:az c B P cY (b+1) (H1.put l (.list (ps.map Piece.av))):=(C1.weak (by simp)).pC ol
  refine WS.weak (m':=[("self",.ref c.self),("voids",.int aM)]) (Sub.cons i1 (Sub.cons i2 Sub.nil)) ?_
  have F2:ao (l::c.mods) H1 (H1.put l (.list (ps.map Piece.av))):=ao.put (by exact List.mem_cons_self)
  clear C
  rw[←i3]at h
  k_extra"wg"
  all_goals (refine h _ (az.weak (b:=_) (by simp only[bm,co, *,↓reduceIte]<;>k_extra"as") (by(first|exact Nat.le_add_right _ _|exact Nat.le_refl _|lia))) (by k_extra"fr"))
theorem Cf{a:AV}{Q:AQ}(h:Q (.int 1) H):WB G D (.builtin "len") [.tup [a]] H Q:=ku (cm rfl) h
theorem Co{a b:AV}{Q:AQ}(h:Q (.int 2) H):WB G D (.builtin "len") [.tup [a,b]] H Q:=ku (cm rfl) h
theorem FY{t:Tm}{Q:Bool->ah->Prop}(hs:t.cH=true)(h:Q true H):cS G D .Eq (.str t.tag) (.str ("s":Str)) H Q:=tF (fun _=>h) (fun z=>by rw[hs]at z;(exact dH z))
theorem GM{t:Tm}{Q:Bool->ah->Prop}(hs:t.cH=false)(h:Q false H):cS G D .Eq (.str t.tag) (.str ("s":Str)) H Q:=tF (fun z=>by rw[hs]at z;(exact bI z)) (fun _=>h)
noncomputable def jS(x:Bool×Tm):AV:=.tup [.bool x.1,x.2.av]
noncomputable def yq(n:Int):AV:=(Part.t n).av
noncomputable def tN(x:Tm):Bool×Tm:=(false,x)
theorem CZ:nsIn e.G.K mainGlobals ("list":Str)=some none:=by kernel_rfl
theorem E3:bootBuiltins ("list":Str)=some (.type "list"):=by kernel_rfl
theorem WP:True:=by
 k_with"wk"=>(first|((refine' ft CZ E3 (by decide) ?_))|fail)
 trivial
theorem WO:True:=by
 k_with"wb"=>(first|(first|(with_reducible refine Cf ?_)|(with_reducible refine Co ?_)|(refine Cf ?_)|(refine Co ?_))|fail)
 trivial
theorem WN:True:=by
 k_with"wq"=>(first|(first|(focus(refine' FY ?_ ?_;rotate_right 2;(· k_extra"as")))|(focus(refine' GM ?_ ?_;rotate_right 2;(· k_extra"as"))))|fail)
 trivial
theorem WM:True:=by
 k_with"wq"=>(first|(first|(focus(refine ql (x:=true) ?_ ?_;rotate_right 2;(· kernel_rfl!)))|(focus(refine ql (x:=false) ?_ ?_;rotate_right 2;(· kernel_rfl!))))|fail)
 trivial
theorem AN(t:Tm)(hs:t.cH=true)(C:az c B P st b H){lw:Addr}{W:List AV}(hw:H lw=some (.list W))(hW:W.length<=1000000)(ow:Off c B lw){Q:AQ}
 (h:∀H',az c B P st b H'->H' lw=some (.list (W++((bG t).map tN).reverse.map jS))->ao [lw] H H'->Q .none H'):WC e.G (D+1) (.ref 271) [.ref c.self,.tup (t.args.map Tm.av),.ref lw] H Q:=by
 refine bj (ns:=["self","args","work"]) (by kernel_rfl) (by kernel_rfl) rfl (gW (by intro x y z;kernel_rfl)) ?_
 k_extra"norm_m"
 cases t with
 |s1 u=>
  cases hu:u.cH
  all_goals
   refine WS.weak (m':=[("work",.ref lw),("args",.tup [u.av]),("self",.ref c.self)]) (fun x a h=>h) ?_
   k_extra"wg"
   refine d7 ⟨1,?_⟩
   k_extra"wg"
  all_goals exact h _ (by k_extra"as") (by simp only[bp,bn,bz,bB,bA,hu,↓reduceIte,Bool.false_eq_true,List.map_nil,List.reverse_nil,List.append_nil,List.nil_append,List.map_cons,List.reverse_cons,List.append_assoc,List.cons_append]at *;first|assumption) (by k_extra"fr")
 |s2 f u v=>
  cases hu:u.cH<;>cases hv:v.cH
  all_goals
   refine WS.weak (m':=[("work",.ref lw),("args",.tup [u.av,v.av]),("self",.ref c.self)]) (fun x a h=>h) ?_
   k_extra"wg"
   refine d7 ⟨2,?_⟩
   k_extra"wg"
  all_goals exact h _ (by k_extra"as") (by simp only[bp,bn,bz,bB,bA,hu,hv,↓reduceIte,Bool.false_eq_true,List.map_nil,List.reverse_nil,List.append_nil,List.nil_append,List.map_cons,List.reverse_cons,List.append_assoc,List.cons_append]at *;first|assumption) (by k_extra"fr")
 |_=>(exact bI hs)
theorem pJ{xs:List AV}{lb:Addr}{o:AO}{Q:AQ}(C:az c B P st b H)(hb:H lb=some o)(hz:xs.length<=16000000)(h:∀l H',H l=none->Off c B l->az c B P st b H'->H' l=some (.list xs)->H' lb=some o->ao [lb] H H'->l∉[lb]->lb∉[l]->Q (.ref l) H'):WB e.G D (.type "list") [.tup xs] H Q:=
 Gv hz fun l hl=>by
  have ne:lb≠l:=fun z=>by rw[z,hl]at hb;(exact ax hb)
  exact h l _ hl (C.off hl) (C.pC (C.off hl)) (al _ _ _) ((aj _ _ ne).trans hb) (ao.new hl) (fun z=>ne (fG z).symm) (fun z=>ne (fG z))
theorem GR{l:Addr}{xs:List AV}{i:Int}{a:AV}{Q:ah->Prop}(C:az c B P st b H)(ol:Off c B l)(hl:H l=some (.list xs))(h0:0<=i)(hi:i<xs.length)(hz:xs.length<=16000000)(h:∀H',az c B P st b H'->H' l=some (.list (xs.set i.toNat a))->ao [l] H H'->Q H'):gG e.G D (.ref l) (.int i) a H Q:=
 gG.list hl h0 hi hz (h _ (C.pC ol) (al _ _ _) (ao.put (by exact List.mem_cons_self)))
noncomputable def dZ(t:Tm):Nat:=(bG t).length
theorem WL:True:=by
 k_with"wz"=>(first|((refine gH ?_))|fail)
 trivial
theorem WK:True:=by
 k_with"wx"=>(first|(first|(focus(refine' GR ?_ ?_ ?_ ?_ ?_ ?_ ?_;rotate_right 7;(· k_extra"as");(· k_extra"as");(· k_extra"hfr");(· exact of_decide_eq_true rfl);(· exact of_decide_eq_true rfl);(· exact cm rfl);intro _ _ _ _))|(refine Cm ?_))|fail)
 trivial
theorem AZ(t:Tm)(hs:t.cH=true)(C:az c B P st b H){lb:Addr}{L:List Int}(hb:H lb=some (.list (L.reverse.map yq)))(hL:L.length<=1000)(hn:dZ t<=L.length)(ob:Off c B lb){Q:AQ}
 (h:∀lp H',H lp=none->Off c B lp->az c B P st b H'->H' lp=some (.list ((be t L).1.map Piece.av))->H' lb=some (.list ((be t L).2.reverse.map yq))->ao [lb] H H'->Q (.ref lp) H'):WC e.G (D+1) (.ref 278) [.ref c.self,.tup (t.args.map Tm.av),.ref lb] H Q:=by
 refine bj (ns:=["self","args","built"]) (by kernel_rfl) (by kernel_rfl) rfl (gW (by intro x y z;kernel_rfl)) ?_
 k_extra"norm_m"
 cases t with
 |s1 u=>
  cases hu:u.cH
  ·refine WS.weak (m':=[("built",.ref lb),("args",.tup [u.av]),("self",.ref c.self)]) (fun x a h=>h) ?_
   k_extra"wg"
   refine pJ C hb (cm rfl) ?_
   intro lp H1 k1 k2 C1 k3 k4 k5 k6 k7
   k_extra"wg"
   refine d7 ⟨1,?_⟩
   k_extra"wg"
   exact h lp _ k1 k2 (by k_extra"as") (by simp only[bU,bT,cf,ch,cg,aQ,hu,↓reduceIte,Bool.false_eq_true];assumption) (by simp only[bU,bT,cf,ch,cg,aQ,hu,↓reduceIte,Bool.false_eq_true];k_extra"hfr") (by k_extra"fr")
  ·obtain⟨x,r,rfl⟩:∃x r,L=x::r:=by
    clear hL;cases L with
    |nil=>simp[dZ,bp,bn,bz,bB,bA,hu]at hn
    |cons x r=>exact⟨x,r,rfl⟩
   rw[List.reverse_cons,List.map_append,List.map_cons,List.map_nil]at hb
   have hr:r.length<=1000:=by simp only[fi]at hL;(exact Nat.le_of_lt ‹_›)
   refine WS.weak (m':=[("built",.ref lb),("args",.tup [u.av]),("self",.ref c.self)]) (fun x a h=>h) ?_
   k_extra"wg"
   refine pJ C hb (cm rfl) ?_
   intro lp H1 k1 k2 C1 k3 k4 k5 k6 k7
   clear hb C
   k_extra"wg"
   refine d7 ⟨1,?_⟩
   k_extra"wg"
   exact h lp _ k1 k2 (by k_extra"as") (by simp only[bU,bT,cf,ch,cg,aQ,hu,↓reduceIte,Bool.false_eq_true];assumption) (by simp only[bU,bT,cf,ch,cg,aQ,hu,↓reduceIte,Bool.false_eq_true];k_extra"hfr") (ao.drop k1 (by k_extra"fr"))
 |s2 f u v=>
  cases hu:u.cH<;>cases hv:v.cH
  ·refine WS.weak (m':=[("built",.ref lb),("args",.tup [u.av,v.av]),("self",.ref c.self)]) (fun x a h=>h) ?_
   k_extra"wg"
   refine pJ C hb (cm rfl) ?_
   intro lp H1 k1 k2 C1 k3 k4 k5 k6 k7
   clear hb C
   k_extra"wg"
   refine d7 ⟨2,?_⟩
   k_extra"wg"
   exact h lp _ k1 k2 (by k_extra"as") (by simp only[bU,bT,cf,ch,cg,aQ,hu,hv,↓reduceIte,Bool.false_eq_true];assumption) (by simp only[bU,bT,cf,ch,cg,aQ,hu,hv,↓reduceIte,Bool.false_eq_true];k_extra"hfr") (ao.drop k1 (by k_extra"fr"))
  ·obtain⟨x,r,rfl⟩:∃x r,L=x::r:=by
    clear hL;cases L with
    |nil=>simp[dZ,bp,bn,bz,bB,bA,hu,hv]at hn
    |cons x r=>exact⟨x,r,rfl⟩
   rw[List.reverse_cons,List.map_append,List.map_cons,List.map_nil]at hb
   have hr:r.length<=1000:=by simp only[fi]at hL;exact Ab hL
   refine WS.weak (m':=[("built",.ref lb),("args",.tup [u.av,v.av]),("self",.ref c.self)]) (fun x a h=>h) ?_
   k_extra"wg"
   refine pJ C hb (cm rfl) ?_
   intro lp H1 k1 k2 C1 k3 k4 k5 k6 k7
   clear hb C
   k_extra"wg"
   refine d7 ⟨2,?_⟩
   k_extra"wg"
   exact h lp _ k1 k2 (by k_extra"as") (by simp only[bU,bT,cf,ch,cg,aQ,hu,hv,↓reduceIte,Bool.false_eq_true];assumption) (by simp only[bU,bT,cf,ch,cg,aQ,hu,hv,↓reduceIte,Bool.false_eq_true];k_extra"hfr") (ao.drop k1 (by k_extra"fr"))
  ·obtain⟨x,r,rfl⟩:∃x r,L=x::r:=by
    clear hL;cases L with
    |nil=>simp[dZ,bp,bn,bz,bB,bA,hu,hv]at hn
    |cons x r=>exact⟨x,r,rfl⟩
   rw[List.reverse_cons,List.map_append,List.map_cons,List.map_nil]at hb
   have hr:r.length<=1000:=by simp only[fi]at hL;exact Ab hL
   refine WS.weak (m':=[("built",.ref lb),("args",.tup [u.av,v.av]),("self",.ref c.self)]) (fun x a h=>h) ?_
   k_extra"wg"
   refine pJ C hb (cm rfl) ?_
   intro lp H1 k1 k2 C1 k3 k4 k5 k6 k7
   clear hb C
   k_extra"wg"
   refine d7 ⟨2,?_⟩
   k_extra"wg"
   exact h lp _ k1 k2 (by k_extra"as") (by simp only[bU,bT,cf,ch,cg,aQ,hu,hv,↓reduceIte,Bool.false_eq_true];assumption) (by simp only[bU,bT,cf,ch,cg,aQ,hu,hv,↓reduceIte,Bool.false_eq_true];k_extra"hfr") (ao.drop k1 (by k_extra"fr"))
  ·obtain⟨x,y,r,rfl⟩:∃x y r,L=x::y::r:=by
    clear hL;cases L with
    |nil=>simp[dZ,bp,bn,bz,bB,bA,hu,hv]at hn
    |cons x r=>clear ob;cases r with
     |nil=>simp[dZ,bp,bn,bz,bB,bA,hu,hv]at hn
     |cons y r=>exact⟨x,y,r,rfl⟩
   rw[List.reverse_cons,List.map_append,List.map_cons,List.map_nil,List.reverse_cons,List.map_append,List.map_cons,List.map_nil]at hb
   have hr:r.length<=998:=by simp only[fi]at hL;exact Re hL
   refine WS.weak (m':=[("built",.ref lb),("args",.tup [u.av,v.av]),("self",.ref c.self)]) (fun x a h=>h) ?_
   k_extra"wg"
   refine pJ C hb (cm rfl) ?_
   intro lp H1 k1 k2 C1 k3 k4 k5 k6 k7
   clear hb C
   k_extra"wg"
   refine d7 ⟨2,?_⟩
   k_extra"wg"
   exact h lp _ k1 k2 (by k_extra"as") (by simp only[bU,bT,cf,ch,cg,aQ,hu,hv,↓reduceIte,Bool.false_eq_true];assumption) (by simp only[bU,bT,cf,ch,cg,aQ,hu,hv,↓reduceIte,Bool.false_eq_true];k_extra"hfr") (ao.drop k1 (by k_extra"fr"))
 |_=>(exact bI hs)
noncomputable def xm:List (Bool×Tm)->Nat
 |[]=>0
 |(false,t)::r=>2*t.size+xm r
 |(true,_)::r=>1+xm r
theorem jO:xm []=0:=rfl
theorem jP:∀t r,xm ((false,t)::r)=2*t.size+xm r:=fun _ _=>rfl
theorem jN:∀t r,xm ((true,t)::r)=1+xm r:=fun _ _=>rfl
def Fo:List (Bool×Tm)->Nat->Prop
 |[],_=>True
 |(false,_)::r,k=>Fo r (k+1)
 |(true,t)::r,k=>dZ t<=k/\Fo r (k-dZ t+1)
theorem kc:∀ (a b:List (Bool×Tm)),xm (a++b)=xm a+xm b
 |[],b=>by simp[jO,jP,jN]
 |(false,t)::a,b=>by simp only[List.cons_append,jO,jP,jN,kc a b];exact Rd
 |(true,t)::a,b=>by simp only[List.cons_append,jO,jP,jN,kc a b];exact Rc
theorem qK:∀ (a:List (Bool×Tm)),a.length<=xm a
 |[]=>Nat.zero_le _
 |(false,t)::a=>by have:=qK a;have:=bW t;simp only[fi,jO,jP,jN];exact Rb ‹_› this
 |(true,t)::a=>by have:=qK a;simp only[fi,jO,jP,jN];exact Ra this
theorem yR(ws:List (Bool×Tm)):∀ (l:List Tm) (k:Nat),Fo (l.map tN++ws) k↔Fo ws (k+l.length):=by
 intro zz
 induction zz with
 |nil=>
  intro k
  exact Iff.rfl
 |cons t l ih=>
  intro k
  show Fo (l.map tN++ws) (k+1)↔_
  rw[ih (k+1),fi,Nat.add_assoc,Nat.add_comm 1]
theorem uD(t:Tm)(h:t.cH=true):xm ((bG t).map tN)+2<=2*t.size:=by
 cases t with
 |s1 u=>have:=bW u;cases hu:u.cH<;>simp[bp,bn,bz,bB,bA,hu,jO,jP,jN,tN,bL,bN,bM,bE,bD]<;>(first|exact Nat.le_add_left _ _|exact Nat.le_refl _|lia)
 |s2 f u v=>have:=bW u;have:=bW v;cases hu:u.cH<;>cases hv:v.cH<;>simp[bp,bn,bz,bB,bA,hu,hv,jO,jP,jN,tN,bL,bN,bM,bE,bD]<;>(first|((simp +arith only;done))|exact Nat.le_add_left _ _|lia)
 |_=>(exact bI h)
theorem wx{P:aX}{t u:Tm}(h:dq P t)(m:u∈bG t):u.cH=true/\dq P u:=by
 cases t with
 |s1 a=>
  cases ha:a.cH<;>simp[bp,bn,bz,bB,bA,ha]at m
  subst m
  exact⟨ha,di h (.head _)⟩
 |s2 f a b=>
  cases ha:a.cH<;>cases hb:b.cH<;>simp[bp,bn,bz,bB,bA,ha,hb]at m
  ·subst m;exact⟨hb,di h (.tail _ (.head _))⟩
  ·subst m;exact⟨ha,di h (.head _)⟩
  ·rcases m with rfl|rfl
   ·exact⟨hb,di h (.tail _ (.head _))⟩
   ·exact⟨ha,di h (.head _)⟩
 |_=>simp[bp,bn,bz,bB,bA]at m
theorem yf{P:aX}{t:Tm}{L:List Int}(h:dq P t)(hn:cond t.cH 1 0<=L.length):jv P (aQ t L).1/\(aQ t L).2.length+cond t.cH 1 0=L.length:=by
 unfold aQ
 cases hs:t.cH with
 |false=>exact⟨⟨hs,h⟩,rfl⟩
 |true=>
  cases L with
  |nil=>rw[hs]at hn;exact absurd hn (by decide)
  |cons x r=>exact⟨trivial,rfl⟩
theorem yW(a:Tm):dZ (.s1 a)=cond a.cH 1 0:=by
 show(if a.cH then[a]else[]).length=_
 cases a.cH<;>rfl
theorem yV(f:Bool)(a b:Tm):dZ (.s2 f a b)=cond b.cH 1 0+cond a.cH 1 0:=by
 show((if b.cH then[b]else[])++(if a.cH then[a]else[])).length=_
 cases b.cH<;>cases a.cH<;>rfl
theorem rJ{P:aX}{t:Tm}{L:List Int}(h:dq P t)(hn:dZ t<=L.length):(∀p∈(be t L).1,jv P p)/\(be t L).1.length<=2/\(be t L).2.length=L.length-dZ t:=by
 cases t with
 |s1 a=>
  rw[yW]at hn⊢
  obtain⟨p1,p2⟩:=yf (di h (.head _)) hn
  exact⟨fun p m=>by cases fG m;exact p1,Nat.le_succ 1,Nat.eq_sub_of_add_eq p2⟩
 |s2 f a b=>
  rw[yV]at hn⊢
  obtain⟨p1,p2⟩:=yf (L:=L) (di h (.head _)) (d6 (Nat.le_add_left _ _) hn)
  obtain⟨q1,q2⟩:=yf (L:=(aQ a L).2) (di h (.tail _ (.head _))) (by exact Q9 hn p2)
  refine⟨fun p m=>?_,Nat.le_refl 2,Nat.eq_sub_of_add_eq ?_⟩
  ·rcases de m with rfl|m
   ·exact p1
   ·cases fG m;exact q1
  ·rw[←Nat.add_assoc,←p2,←q2];rfl
 |_=>exact⟨fun _ m=>(bv m),Nat.zero_le _,rfl⟩
theorem yM{st:CS}{t:Tm}{r:Part}(h:t.fn=0):aZ st "put" t r=st.emit "put_list" [r]:=by unfold aZ;rw[if_pos h];rfl
theorem yL{st:CS}{t:Tm}{r:Part}(h:¬t.fn=0):aZ st "put" t r=st.emit "put_structure" [.num t.fn,r]:=by unfold aZ;rw[if_neg h];rfl
theorem GJ{t:Tm}{Q:AQ}(hs:t.cH=true)(h:Q (.int t.fn) H):WI G D t.av (.int 1) H Q:=by
 cases t with
 |s1 a=>exact WI.tup (by decide) rfl (cm rfl) h
 |s2 f a b=>(clear hs;cases f)<;>exact WI.tup (by decide) rfl (cm rfl) h
 |_=>(exact bI hs)
theorem GP{t:Tm}{Q:AQ}(hs:t.cH=true)(h:Q (.tup (t.args.map Tm.av)) H):WI G D t.av (.int 2) H Q:=by
 cases t with
 |s1 a=>exact WI.tup (by decide) rfl (cm rfl) h
 |s2 f a b=>(clear hs;cases f)<;>exact WI.tup (by decide) rfl (cm rfl) h
 |_=>(exact bI hs)
theorem Pw:cv e.G.K 417 ("wait_for_nested":Str) 271=true:=by kernel_rfl
theorem Pv:cv e.G.K 417 ("take_nested":Str) 278=true:=by kernel_rfl
theorem Pu:cv e.G.K 417 ("set_arguments":Str) 285=true:=by kernel_rfl
theorem WJ:True:=by
 k_with"wf"=>(first|(with_reducible first|exact Pw|exact Pv|exact Pu)|fail)
 trivial
theorem WH:True:=by
 k_with"wi"=>(first|(first|(focus(refine' GJ ?_ ?_;rotate_right 2;(· k_extra"as")))|(focus(refine' GP ?_ ?_;rotate_right 2;(· k_extra"as"))))|fail)
 trivial
theorem WG:True:=by
 k_with"hfr"=>(first|(first|(first|with_reducible assumption|with_reducible exact az.self ‹_›|with_reducible exact az.d ‹_›|with_reducible exact az.lc ‹_›|with_reducible exact az.ls ‹_›|with_reducible exact az.ll ‹_›|with_reducible exact al _ _ _)|(refine ao.out (by with_reducible assumption) ?_ ?_<;>first|with_reducible assumption|(first|with_reducible assumption|with_reducible exact az.self ‹_›|with_reducible exact az.d ‹_›|with_reducible exact az.lc ‹_›|with_reducible exact az.ls ‹_›|with_reducible exact az.ll ‹_›|with_reducible exact al _ _ _)|k_extra"hfr"))|fail)
 trivial
set_option tactic.hygienic true in
theorem z6(t:Tm)(hs:t.cH=true)(hd:dq P t)(hz:t.size<=400)(target:Part)(C:az c B P st (b+12*t.size) H){Q:AQ}
 (h:∀H',az c B P (gV P t target st) b H'->ao c.mods H H'->Q .none H'):WC e.G (D+5) (.ref 264) [.ref c.self,t.av,target.av] H Q:=by
 refine bj (ns:=["self","term","target"]) (by kernel_rfl) (by kernel_rfl) rfl (gW (by intro x y z;kernel_rfl)) ?_
 k_extra"norm_m"
 k_extra"wg"
 intro lw vB
 have ow:=C.off vB
 have C2:az c B P st (b+12*t.size) (H.put lw (.list [jS (false,t)])):=C.pC ow
 k_extra"wg"
 intro lb xu
 have ob:=C2.off xu
 have Iq:lw≠lb:=fun z=>by(clear ob ow h;subst z);rw[al]at xu;(exact bg xu)
 have JM:H lb=none:=by rw[aj _ _ Iq.symm]at xu;exact xu
 have n1:lw∉[lb]:=fun z=>Iq (fG z)
 have n2:lb∉[lw]:=fun z=>Iq (fG z).symm
 have n3:=ow.mods
 have n4:=ob.mods
 k_extra"wg"
 refine d7 ⟨2*t.size+1,fT.rule (fun n m' H'=>∃ws L st',m'.lookup ("self":Str)=some (.ref c.self)/\m'.lookup ("target":Str)=some target.av/\m'.lookup ("work":Str)=some (.ref lw)/\m'.lookup ("built":Str)=some (.ref lb)/\
  fo P target n ws L st'=gV P t target st/\(∀x∈ws,x.2.cH=true/\dq P x.2)/\xm ws<=n/\L.length+n<=800/\Fo ws L.length/\az c B P st' (b+6*n) H'/\H' lw=some (.list (ws.reverse.map jS))/\(ws≠[]->H' lb=some (.list (L.reverse.map yq)))/\ao (lw::lb::c.mods) H H') ?_ (2*t.size) ?_⟩
 ·intro n;intro m1;intro H1;intro ak;refine jM (ak) fun ws L cY GV=>?_;clear ak;refine oZ (GV) fun l1 l2 l3 l4 e1 wT vy hn Pd C1 hw hb F1=>?_;clear GV
  have hl:=qK ws
  refine WT.weak (m':=[("self",.ref c.self),("target",target.av),("work",.ref lw),("built",.ref lb)]) (Sub.cons l1 (Sub.cons l2 (Sub.cons l3 (Sub.cons l4 Sub.nil)))) ?_
  clear C C2
  k_extra"wg"
  ·obtain⟨x,ws,rfl⟩:∃x r,ws=x::r:=by
    clear hl F1 hb hw C1 hn vy wT e1 l4 l3 l2 cY H1 n n4 n3 n2 n1 JM Iq ob xu lb ow vB lw h target hz hd hs t;cases ws with
    |nil=>exfalso;simp at *
    |cons x r=>exact⟨x,r,rfl⟩
   refine aY ((⟨n-1,by simp only[fi]at hl;exact Ky vy hl⟩:∃k,n=k+1)) ?_;intro n ak;subst ak
   refine⟨n,rfl,?_⟩
   refine WS.weak (m':=[("self",.ref c.self),("target",target.av),("work",.ref lw),("built",.ref lb)]) (Sub.cons l1 (Sub.cons l2 (Sub.cons l3 (Sub.cons l4 Sub.nil)))) ?_
   rw[List.reverse_cons,List.map_append,List.map_cons,List.map_nil]at hw
   have JN:ws.length<=1000:=by simp only[fi]at hl;exact Q8 hl hn vy
   replace hb:=hb (by simp)
   clear hl;obtain⟨r,t1⟩:=x
   have ht:=(wT _ (.head _)).1
   have Ql:=(wT _ (.head _)).2
   replace C1:az c B P cY (b+6*n+5+1) H1:=C1.weak (by exact Q7)
   cases r with
   |false=>
    k_extra"wg"
    refine⟨.bool false,t1.av,rfl,?_⟩
    k_extra"wg"
    refine AN t1 ht (by k_extra"as") (by k_extra"hfr") (by(first|exact cm rfl|(simp only[List.length_map,List.length_append,List.length_reverse,fi,List.length_nil];exact Q6 JN)|lia)) ow ?_
    intro H2 C2 Xn F2
    k_extra"wg"
    refine⟨(bG t1).map tN++(true,t1)::ws,L,cY,rfl,rfl,rfl,rfl,e1,fun x hx=>?_,?_,by exact Nat.le_of_lt ‹_›,(yR _ _ _).mpr ⟨?_,?_⟩,C2.weak (by exact Nw),?_,fun _=>by k_extra"hfr",by k_extra"fr"⟩
    ·rcases List.mem_append.mp hx with hx|hx
     ·refine aA (List.mem_map.mp hx) fun u hu ak=>?_;subst ak
      exact wx Ql hu
     ·rcases de hx with rfl|hx
      ·exact⟨ht,Ql⟩
      ·exact wT x (.tail _ hx)
    ·rw[kc]
     have:=uD t1 ht
     simp only[jO,jP,jN]at vy⊢
     exact Nv vy this
    ·show(bG t1).length<=_
     exact Nat.le_add_left _ _
    ·have:L.length+(bG t1).length-dZ t1+1=L.length+1:=by unfold dZ;exact Nu
     rw[this]
     exact Pd
    ·rw[Xn]
     simp[jS]
   |true=>
    refine bh (Pd) fun o1 o2=>?_;clear Pd
    refine ci (rJ (P:=P) (t:=t1) (L:=L) Ql o1) fun p1 p2 p3=>?_
    k_extra"wg"
    rename_i Hp Cp wp Fp
    refine⟨.bool true,t1.av,rfl,?_⟩
    k_extra"wg"
    refine AZ t1 ht (by k_extra"as") (by k_extra"hfr") (by exact Nt hn) o1 ob ?_
    intro lp H2 k1 k2 C2 k3 k4 F2
    have n5:lb∉lp::c.mods:=by
     rw[List.mem_cons,not_or]
     refine⟨fun z=>?_,n4⟩
     have:=ao.out Fp hb n2
     rw[z,k1]at this
     exact ax this
    have n6:lw∉lp::c.mods:=by
     rw[List.mem_cons,not_or]
     refine⟨fun z=>?_,n3⟩
     have:=k1
     rw[←z,wp]at this
     exact bg this
    have n7:=k2.mods
    have Bw:H1 lp=none:=by
     cases q:H1 lp with
     |none=>rfl
     |some o=>
      by_cases z:lp=lw
      ·exact absurd (z▸List.mem_cons_self) n6
      ·rw[ao.out Fp q (fun y=>z (fG y))]at k1
       exact bg k1
    k_extra"wg"
    have hh:H2 lw=some (.list (ws.reverse.map jS)):=by k_extra"hfr"
    refine lK hh rfl (by(first|exact cm rfl|(simp only[List.length_map,List.length_append,List.length_reverse,fi,List.length_nil];exact kZ JN)|lia)) ?_
    cases ws with
    |nil=>
     replace e1:fo P target n [] (0::(be t1 L).2) (bm P (be t1 L).1 0 (aZ cY "put" t1 target))=gV P t target st:=by
      rw[←e1];(clear vy e1 C2 hn;cases n)<;>rfl
     k_extra"wg"
     all_goals
      refine og (b:=b+6*n) _ p1 (az.weak (by k_extra"as") (by exact E6 p2)) (l:=lp) (by k_extra"hfr") k2 ?_
      intro H3 C3 F3
      first|rw[yM ‹_›]at e1|rw[yL ‹_›]at e1
      k_extra"wg"
      refine⟨[],_,_,rfl,rfl,rfl,rfl,e1,(fun _ h=>bv h),Nat.zero_le _,?_,trivial,by k_extra"as",by k_extra"hfr",(fun z=>absurd rfl z),F1.trans (ao.drop Bw (by k_extra"fr"))⟩
      simp only[fi,p3]
      exact DE hn
    |cons w ws=>
     replace e1:fo P target n (w::ws) (cY.next::(be t1 L).2) (bm P (be t1 L).1 0 (aZ cY.tick "put" t1 (.t cY.next)))=gV P t target st:=e1
     k_extra"wg"
     ·exact absurd (by assumption:((List.map jS (w::ws).reverse).length:Int)=0) (by simp only[List.length_map,List.length_reverse,fi];exact DD)
     ·exact absurd (by assumption:((List.map jS (w::ws).reverse).length:Int)=0) (by simp only[List.length_map,List.length_reverse,fi];exact DD)
     all_goals
      refine og (b:=b+6*n) _ p1 (az.weak (by k_extra"as") (by exact E6 p2)) (l:=lp) (by k_extra"hfr") k2 ?_
      intro H3 C3 F3
      first|rw[yM ‹_›]at e1|rw[yL ‹_›]at e1
      have TR:(be t1 L).2.length<=1000:=by exact Nr hn p3
      k_extra"wg"
      refine⟨w::ws,_,_,rfl,rfl,rfl,rfl,e1,(fun x hx=>wT x (.tail _ hx)),?_,?_,?_,by k_extra"as",by k_extra"hfr",(fun _=>?_),F1.trans (ao.drop Bw (by k_extra"fr"))⟩
      ·simp only[jO,jP,jN]at vy⊢;exact mQ vy
      ·simp only[fi,p3];exact DE hn
      ·rw[fi,p3];exact o2
      ·rw[List.reverse_cons,List.map_append,List.map_cons,List.map_nil];assumption
  ·obtain rfl:ws=[]:=by
    cases ws with
    |nil=>rfl
    |cons x r=>exfalso;simp only[List.length_map,List.length_reverse,fi]at *;exact E7 ‹_›
   refine h _ ?_ (ao.drop JM (ao.drop vB (by k_extra"fr")))
   rw[←e1]
   (clear e1;cases n)<;>exact C1.weak (by(first|exact Nq|exact No))
 ·refine⟨[(false,t)],[],st,rfl,rfl,rfl,rfl,rfl,fun x hx=>?_,by simp[jO,jP,jN],by simp;exact Nn hz,trivial,(C2.pC ob).weak (by exact Nm),(aj _ _ Iq).trans (al _ _ _),fun _=>al _ _ _,((ao.put (by exact List.mem_cons_self)).trans (ao.put (by exact .tail _ (.head _))))⟩
  cases fG hx
  exact⟨hs,hd⟩
theorem mc(C:az c B P st (b+1) H)(w:String)(k:V8)(hk:P.pc k=true){Q:AQ}(h:∀H',az c B P (cy P w k st) b H'->ao c.mods H H'->Q .none H'):WC e.G (D+2) (.ref 400) [.ref c.self,sS w,.int (vi k)] H Q:=by
 refine bj (ns:=["self","name","k"]) (by kernel_rfl) (by kernel_rfl) rfl (gW (by intro x y z;kernel_rfl)) ?_
 k_extra"norm_m"
 k_extra"wg"
 all_goals exact h _ (by simp only[cy, *,↓reduceIte,Bool.false_eq_true]<;>exact az.weak (by k_extra"as") (by exact uJ)) (by k_extra"fr")
theorem b1:cj e.G.K 478 ("kind":Str)=true:=by kernel_rfl
theorem b2:cj e.G.K 478 ("unsafe":Str)=true:=by kernel_rfl
theorem b3:cj e.G.K 478 ("last_goal":Str)=true:=by kernel_rfl
theorem b4:cj e.G.K 534 ("infos":Str)=true:=by kernel_rfl
theorem b5:cj e.G.K 478 ("slot":Str)=true:=by kernel_rfl
theorem WF:True:=by
 k_with"wf"=>(first|(with_reducible first|exact b1|exact b2|exact b3|exact b4|exact b5)|fail)
 trivial
theorem ug(C:az c B P st (b+1) H)(k:V8)(hk:P.pc k=true)(target:Part)(leaving:Int){Q:AQ}(h:∀H',az c B P (dD P k target leaving st) b H'->ao c.mods H H'->Q .none H'):WC e.G (D+2) (.ref 393) [.ref c.self,.int (vi k),target.av,.int leaving] H Q:=by
 refine f9 (C.fE.go) fun dp li il xq infos p1 p2 p3 p4 p5=>?_
 refine aA (p5 k hk) fun ik q1 ak=>?_;obtain⟨dk,as,i1,i2,i3,i4,i5,i6⟩:=ak
 have NX:=(C.base _ _ p1).1
 have NW:=(C.base _ _ p2).1
 have Eg:=(C.base _ _ p3).1
 have Qf:=(C.base _ _ i1).1
 have Qe:=(C.base _ _ i2).1
 have n1:=(C.base _ _ i1).2
 have n2:=(C.base _ _ i2).2
 clear i1 i2 p1 p2 p3 p4
 refine bj (ns:=["self","k","target","leaving"]) (by kernel_rfl) (by kernel_rfl) rfl (Ku (by intro x y z u;kernel_rfl)) ?_
 k_extra"norm_m"
 cases hq:P.kind k<;>cases hu:P.AU k<;>rw[hq]at i3<;>rw[hu]at i5
 all_goals
  k_extra"wg"
  refine WI.aB Eg rfl q1 ?_
  k_extra"wg"
 all_goals exact h _ (by simp only[dD,aX.void,aX.perm,hq,hu, *,↓reduceIte,Bool.false_eq_true,decide_true,decide_false,Bool.true_and,Bool.false_and,Bool.and_true,Bool.and_false,reduceCtorEq]<;>exact az.weak (by k_extra"as") (by lia)) (by k_extra"fr")
theorem EW{w:String}{Q:AQ}{p:Part}{n:Int}(C:az c B P st (b+1) H)(h:∀H',az c B P (st.emit w [p,.a n]) b H'->ao c.mods H H'->Q .none H'):WC e.G (D+1) (.ref 175) [.ref c.self,.tup [sS w,p.av,.tup [sS "a",.int n]]] H Q:=iB C w [p,.a n] h
theorem Pr:cv e.G.K 417 ("load_variable":Str) 393=true:=by kernel_rfl
theorem Px:cv e.G.K 417 ("build":Str) 264=true:=by kernel_rfl
theorem WD:True:=by
 k_with"wf"=>(first|(with_reducible first|exact Pr|exact Px)|fail)
 trivial
theorem WA:True:=by
 k_with"wc"=>(first|(first|(focus(refine' EW ?_ ?_;rotate_right 2;(· k_extra"as");intro _ _ _))|(focus(refine' ug ?_ _ ?_ (.a _) _ ?_;rotate_right 3;(· k_extra"as");(· k_extra"as");intro _ _ _))|(focus(refine' z6 _ ?_ ?_ ?_ (.a _) ?_ ?_;rotate_right 5;(· first|rfl|k_extra"as");(· k_extra"as");(· k_extra"as");(· k_extra"as");intro _ _ _)))|fail)
 trivial
theorem mI(ts:List Tm)(hd:∀t∈ts,dq P t/\t.size<=400)(leaving:Int)(C:az c B P st (b+12*kA ts) H){Q:AQ}(h:∀H',az c B P (cc P leaving ts 0 st) b H'->ao c.mods H H'->Q .none H'):
 WC e.G (D+6) (.ref 386) [.ref c.self,.tup (ts.map Tm.av),.int leaving] H Q:=by
 refine bj (ns:=["self","args","leaving"]) (by kernel_rfl) (by kernel_rfl) rfl (gW (by intro x y z;kernel_rfl)) ?_
 k_extra"norm_m"
 k_extra"wg"
 refine jG ?_
 k_extra"wg"
 refine⟨_,rfl,?_⟩
 refine dS.rule (fun au m' H'=>∃ (n:Int) (st':CS),m'.lookup ("self":Str)=some (.ref c.self)/\m'.lookup ("number":Str)=some (.int n)/\m'.lookup ("leaving":Str)=some (.int leaving)/\az c B P st' (b+12*kA au) H'/\ao c.mods H H'/\cc P leaving au n st'=cc P leaving ts 0 st/\∀t∈au,dq P t/\t.size<=400) (fun t au m1 H1 I kp=>?_) (fun m1 H1 I kp=>?_) ts trivial ⟨0,st,rfl,rfl,rfl,C,ao.refl,rfl,hd⟩
 ·refine sQ (I) fun n cY GU=>?_;clear I;refine eP (GU) fun i1 i2 i3 C1 F1 e1 i4=>?_;clear GU
  refine WS.weak (m':=[("arg",t.av),("self",.ref c.self),("number",.int n),("leaving",.int leaving)]) (Sub.cons rfl (Sub.cons i1 (Sub.cons i2 (Sub.cons i3 Sub.nil)))) ?_
  have i5:∀t∈au,dq P t/\t.size<=400:=fun t ht=>i4 t (.tail _ ht)
  refine bh (i4 t (.head _)) fun JX Xi=>?_
  have hp:=bW t
  clear i4 C
  have step:∀ (st':CS) (m':bP) (H':ah),(∃b',az c B P st' b' H'/\b+12*kA au<=b')->ao c.mods H H'->cc P leaving au (n+1) st'=cc P leaving (t::au) n cY->m'.lookup ("self":Str)=some (.ref c.self)->m'.lookup ("number":Str)=some (.int (n+1))->m'.lookup ("leaving":Str)=some (.int leaving)->
   cA none H'/\∃ (n:Int) (st':CS),m'.lookup ("self":Str)=some (.ref c.self)/\m'.lookup ("number":Str)=some (.int n)/\m'.lookup ("leaving":Str)=some (.int leaving)/\az c B P st' (b+12*kA au) H'/\ao c.mods H H'/\cc P leaving au n st'=cc P leaving ts 0 st/\∀t∈au,dq P t/\t.size<=400:=
   fun st' m' H' a5 a8 a9 a1 a2 a3=>⟨trivial,n+1,st',a1,a2,a3,a5.elim fun b' q=>q.1.weak q.2,a8,a9.trans e1,i5⟩
  cases t with
  |v k=>
   have hk:=nF JX
   replace C1:az c B P cY (b+12*kA au+11+1) H1:=C1.weak (by simp only[eH,eI,bL,bN,bM,bE,bD];exact Aq)
   k_extra"wg"
   all_goals (refine step _ _ _ ⟨_,by assumption,by exact Nat.le_add_right _ _⟩ (by k_extra"fr") rfl rfl rfl rfl)
  |a k=>
   replace C1:az c B P cY (b+12*kA au+11+1) H1:=C1.weak (by simp only[eH,eI,bL,bN,bM,bE,bD];exact Aq)
   k_extra"wg"
   all_goals (refine step _ _ _ ⟨_,by assumption,by exact DC⟩ (by k_extra"fr") rfl rfl rfl rfl)
  |i k=>
   replace C1:az c B P cY (b+12*kA au+11+1) H1:=C1.weak (by simp only[eH,eI,bL,bN,bM,bE,bD];exact Aq)
   k_extra"wg"
   all_goals (refine step _ _ _ ⟨_,by assumption,by exact DC⟩ (by k_extra"fr") rfl rfl rfl rfl)
  |s1 u=>
   replace C1:az c B P cY (b+12*kA au+12*(Tm.s1 u).size) H1:=C1.weak (by simp only[eH,eI];exact DB)
   k_extra"wg"
   all_goals (refine step _ _ _ ⟨_,by assumption,by exact Nat.le_refl _⟩ (by k_extra"fr") rfl rfl rfl rfl)
  |s2 f u w=>
   replace C1:az c B P cY (b+12*kA au+12*(Tm.s2 f u w).size) H1:=C1.weak (by simp only[eH,eI];exact DB)
   cases f<;>k_extra"wg"
   all_goals (refine step _ _ _ ⟨_,by assumption,by exact Nl⟩ (by k_extra"fr") rfl rfl rfl rfl)
 ·refine sQ (I) fun n cY SB=>?_;clear I;refine eP (SB) fun i1 i2 i3 C1 F1 e1 i4=>?_;clear SB
  k_extra"wg"
  exact h _ (e1▸C1.weak (by exact Nat.le_refl _)) F1
theorem a7:cj e.G.K 443 ("count":Str)=true:=by kernel_rfl
theorem wi{n:Str}(h:n="kernel"∨n="plan"∨n="code"∨n="seen"∨n="local"∨n="next_temporary"):cJ e.G.K 417 n=true:=by
 rcases h with rfl|rfl|rfl|rfl|rfl|rfl<;>kernel_rfl
theorem IA:makesIn e.G.K 417=true:=by kernel_rfl
theorem Js:findIn e.G.K (.ref 417) "__init__"=some (some (.ref 168)):=by kernel_rfl
theorem Kd:isFn e.G.K (.ref 168)=true:=by kernel_rfl
structure lD(B:ah)(x dx:Addr)(as:List (Str×AV))(H:ah):Prop where
 i:H x=some (.inst 417 dx)
 d:H dx=some (.attrs as)
 base:∀a o,B a=some o->H a=some o
 bx:B x=none
 bd:B dx=none
 ne:x≠dx
theorem lD.put{B x dx as H}(I:lD B x dx as H)(uI:List (Str×AV)):lD B x dx uI (H.put dx (.attrs uI)):=
 ⟨(aj _ _ I.ne).trans I.i,al _ _ _,fun a o h=>(aj _ _ (fun z=>by rw[z,I.bd]at h;(exact ax h))).trans (I.base a o h),I.bx,I.bd,I.ne⟩
theorem lD.new{B x dx as H}(I:lD B x dx as H){l:Addr}{o:AO}(h:H l=none):lD B x dx as (H.put l o)/\B l=none/\l≠x/\l≠dx:=
 have n1:l≠x:=fun z=>by rw[z,I.i]at h;(exact bg h)
 have n2:l≠dx:=fun z=>by rw[z,I.d]at h;(exact bg h)
 have n3:B l=none:=by
  cases q:B l with
  |none=>rfl
  |some o=>rw[I.base l o q]at h;(exact bg h)
 ⟨⟨(aj _ _ n1.symm).trans I.i,(aj _ _ n2.symm).trans I.d,fun a o h=>(aj _ _ (fun z=>by rw[z,n3]at h;(exact ax h))).trans (I.base a o h),I.bx,I.bd,I.ne⟩,n3,n1,n2⟩
theorem wg{B x dx as H}{name:Str}{a:AV}{Q:ah->Prop}(I:lD B x dx as H)(hs:cJ e.G.K 417 name=true)(hz:as.length<=900)(h:∀H',lD B x dx (kJ name a as) H'->ao [dx] H H'->Q H'):FE e.G name a (.ref x) H Q:=FE.of I.i I.d hs hz (h _ (I.put _) (ao.put (by exact List.mem_cons_self)))
theorem Kr:nsIn e.G.K mainGlobals ("set":Str)=some none:=by kernel_rfl
theorem CY:bootBuiltins ("set":Str)=some (.type "set"):=by kernel_rfl
theorem qB{H H':ah}{a dx:Addr}{o:AO}(F:ao [dx] H H')(h:H a=some o)(n:a≠dx):H' a=some o:=F a o h fun z=>n (fG z)
theorem t8{lk lp dk:Addr}{fa aa ga:AV}{count:Int}(hk:H lk=some (.inst 443 dk))(TV:H dk=some (.attrs [("functor",fa),("args",aa),("goals",ga),("count",.int count)]))(hp:rr H lp P){Q:AQ}
 (h:∀c H',c.wL=lk->c.fE=lp->az c H P (CS.start count) 15000000 H'->ao [] H H'->Q (.ref c.self) H'):WC e.G (D+2) (.ref 417) [.ref lk,.ref lp] H Q:=by
 refine pM IA Js Kd fun x dx hx lI ne=>?_
 have I0:lD H x dx [] ((H.put dx (.attrs [])).put x (.inst 417 dx)):=⟨al ..,(aj _ _ ne.symm).trans (al ..),fun a o q=>by
  have n1:a≠x:=fun z=>by rw[z,hx]at q;(exact ax q)
  have n2:a≠dx:=fun z=>by rw[z,lI]at q;(exact ax q)
  rw[aj _ _ n1,aj _ _ n2];exact q,hx,lI,ne⟩
 generalize ((H.put dx (.attrs [])).put x (.inst 417 dx))=H0 at I0⊢
 refine bj (ns:=["self","kernel","plan"]) (by kernel_rfl) (by kernel_rfl) rfl (gW (by intro x y z;kernel_rfl)) ?_
 k_extra"norm_m"
 refine WS.cons (jH (WE.name rfl (WE.name rfl (wg I0 (wi (by simp)) (cm (by kernel_rfl)) ?_))))
 intro H1 I1 F1
 refine WS.cons (jH (WE.name rfl (WE.name rfl (wg I1 (wi (by simp)) (cm (by kernel_rfl)) ?_))))
 intro H2 I2 F2
 refine WS.cons (jH (WE.list ?_))
 intro lc kt
 refine gU (I2.new kt (o:=.list [])) fun I3 k1 k2 k3=>?_
 have g1:(H2.put lc (.list [])) lc=some (.list []):=al ..
 refine WE.name rfl (wg I3 (wi (by simp)) (cm (by kernel_rfl)) ?_)
 intro H3 I4 F3
 replace g1:=qB F3 g1 k3
 refine WS.cons (jH (ft Kr CY (by decide) (Gw ?_)))
 intro ls Bv
 have d1:lc≠ls:=fun z=>by rw[z,Bv]at g1;(exact ax g1)
 refine gU (I4.new Bv (o:=.fH fun _=>false)) fun I5 k4 k5 k6=>?_
 have g2:(H3.put ls (.fH fun _=>false)) ls=some (.fH fun _=>false):=al ..
 replace g1:=(aj H3 (.fH fun _=>false) d1).trans g1
 refine WE.name rfl (wg I5 (wi (by(decide))) (cm (by kernel_rfl)) ?_)
 intro H4 I6 F4
 replace g1:=qB F4 g1 k3
 replace g2:=qB F4 g2 k6
 refine WS.cons (jH (ft Kr CY (by decide) (Gw ?_)))
 intro ll Oi
 have d2:lc≠ll:=fun z=>by rw[z,Oi]at g1;(exact ax g1)
 have d3:ls≠ll:=fun z=>by rw[z,Oi]at g2;(exact ax g2)
 refine gU (I6.new Oi (o:=.fH fun _=>false)) fun I7 k7 k8 k9=>?_
 have g3:(H4.put ll (.fH fun _=>false)) ll=some (.fH fun _=>false):=al ..
 replace g1:=(aj H4 (.fH fun _=>false) d2).trans g1
 replace g2:=(aj H4 (.fH fun _=>false) d3).trans g2
 refine WE.name rfl (wg I7 (wi (by(decide))) (cm (by kernel_rfl)) ?_)
 intro H5 I8 F5
 replace g1:=qB F5 g1 k3
 replace g2:=qB F5 g2 k6
 replace g3:=qB F5 g3 k9
 refine WS.cons (jH (dA (WE.name rfl (rB.of (I8.base _ _ hk) (I8.base _ _ TV) rfl rfl a7 (WE.name rfl (wg I8 (wi (by(decide))) (cm (by kernel_rfl)) ?_))))))
 intro H6 I9 F6
 replace g1:=qB F6 g1 k3
 replace g2:=qB F6 g2 k6
 replace g3:=qB F6 g3 k9
 refine WS.nil ⟨rfl,h ⟨x,dx,lc,ls,ll,lp,lk⟩ H6 rfl rfl ⟨I9.i,I9.d,g1,?_,?_,(by simp[CS.start]),fun a o q=>⟨I9.base a o q,?_⟩,hp,d3⟩ fun a o q _=>I9.base a o q⟩
 ·rw[g2];congr 2;funext i;simp[tM,CS.start]
 ·rw[g3];congr 2;funext i;simp[tM,CS.start]
 ·intro z
  simp only[List.mem_cons,List.not_mem_nil,or_false]at z
  clear g3 g2 g1 F6 I9 H6 F5 I8 k9 k8 I7 d3 d2 Oi F4 I6 k6 k5 I5 d1 Bv F3 I4 k3 k2 I3 kt F2 I2 F1 I1 H1 I0 ne h TV count;rcases z with rfl|rfl|rfl|rfl
  ·rw[lI]at q;(exact ax q)
  ·rw[k1]at q;(exact ax q)
  ·rw[k4]at q;(exact ax q)
  ·rw[k7]at q;(exact ax q)
noncomputable def Goal.isCall:Goal->Bool
 |.call _ _=>true
 |_=>false
noncomputable def cF:List Goal->Int->List Int
 |[],_=>[]
 |g::r,n=>n::cF r (if g.isCall then n+1 else n)
theorem mo:∀n,cF [] n=[]:=fun _=>rfl
theorem mq:∀g r n,cF (g::r) n=n::cF r (if g.isCall then n+1 else n):=fun _ _ _=>rfl
noncomputable def Goal.tag:Goal->Str
 |.call _ _=>"call"
 |.builtin _ _=>"builtin"
 |.unify _ _=>"unify"
 |.cut=>"cut"
 |.level _=>"level"
 |.mark _=>"mark"
 |.eA _=>"cutto"
theorem FU{g:Goal}{Q:AQ}(h:Q (.str g.tag) H):WI G D g.av (.int 0) H Q:=by
 cases g<;>exact WI.tup (by decide) rfl (cm rfl) h
theorem DP{g:Goal}{Q:Bool->ah->Prop}(h1:g.isCall=true->Q true H)(h2:g.isCall=false->Q false H):cS G D .Eq (.str g.tag) (.str ("call":Str)) H Q:=by
 cases g with
 |call f as=>exact fJ (x:=true) (by kernel_rfl) (h1 rfl)
 |_=>exact fJ (x:=false) (by kernel_rfl) (h2 rfl)
theorem Wz:True:=by
 k_with"wi"=>(first|((refine FU ?_))|fail)
 trivial
theorem Wy:True:=by
 k_with"wq"=>(first|(((with_reducible refine DP ?_ ?_)<;>intro _))|fail)
 trivial
theorem xi(gs:List Goal)(hz:gs.length<=1000){lg:Addr}(hg:H lg=some (.list (gs.map Goal.av))){Q:AQ}(h:∀l H',H l=none->H' l=some (.list ((cF gs 0).map AV.int))->ao [] H H'->Q (.ref l) H'):WC e.G (D+1) (.ref 545) [.ref lg] H Q:=by
 refine bj (ns:=["goals"]) (by kernel_rfl) (by kernel_rfl) rfl (gx (by intro x;kernel_rfl)) ?_
 k_extra"norm_m"
 k_extra"wg"
 intro lc kt
 k_extra"wg"
 refine mA ?_
 k_extra"wg"
 have ne:lg≠lc:=fun z=>by rw[z,kt]at hg;(exact ax hg)
 refine⟨lg,_,rfl,(aj _ _ ne).trans hg,fun ob=>?_⟩
 refine dS.rule (fun au m' H'=>∃ (n:Int) (done:List Int),m'.lookup ("chunks":Str)=some (.ref lc)/\m'.lookup ("chunk":Str)=some (.int n)/\H' lc=some (.list (done.map AV.int))/\done.length+au.length<=gs.length/\done++cF au n=cF gs 0/\∀a o,H a=some o->a≠lg->H' a=some o) (fun g au m1 H1 I kp=>?_) (fun m1 H1 I kp=>?_) gs (al _ _ _) ⟨0,[],rfl,rfl,(aj _ _ ne.symm).trans (al _ _ _),by simp,by simp,fun a o q n=>(aj _ _ n).trans ((aj _ _ (fun z=>by rw[z,kt]at q;(exact ax q))).trans q)⟩
 ·refine fm (I) fun n done i1 i2 i3 i4 i5 i6=>?_;clear I
  have ui:H1 lg=some (.ro (.list (gs.map Goal.av)) ob):=kp
  refine WS.weak (m':=[("goal",g.av),("chunks",.ref lc),("chunk",.int n)]) (Sub.cons rfl (Sub.cons i1 (Sub.cons i2 Sub.nil))) ?_
  simp only[fi]at i4
  k_extra"wg"
  refine dG i3 (by simp;exact Nk hz i4) ?_
  k_extra"wg"
  all_goals
   refine⟨(aj _ _ ne).trans ui,_,done++[n],rfl,rfl,by rw[al,List.map_append];rfl,by simp;exact Ap i4,?_,fun a o q n'=>(aj _ _ (fun z=>by rw[z,kt]at q;(exact ax q))).trans (i6 a o q n')⟩
   rw[←i5]
   simp only[mo,mq, *,↓reduceIte,Bool.false_eq_true,List.append_assoc,List.cons_append,List.nil_append]
 ·refine fm (I) fun n done i1 i2 i3 i4 i5 i6=>?_;clear I
  refine WS.weak (m':=[("chunks",.ref lc),("chunk",.int n)]) (Sub.cons i1 (Sub.cons i2 Sub.nil)) ?_
  k_extra"wg"
  simp only[mo,mq,List.append_nil]at i5
  refine h lc _ kt ?_ ?_
  ·rw[aj _ _ ne.symm,i3,i5]
  ·intro a o q _
   by_cases z:a=lg
   ·(clear i6 i3 i1 kp ob ne kt lc;subst z);rw[al];rw[hg]at q;exact q
   ·exact(aj _ _ z).trans (i6 a o q z)
noncomputable def Goal.bV:Goal->List Tm
 |.call _ as=>as
 |.builtin _ as=>as
 |.unify l r=>[l,r]
 |_=>[]
theorem mX:∀f as,Goal.bV (.call f as)=as:=fun _ _=>rfl
theorem mY:∀f as,Goal.bV (.builtin f as)=as:=fun _ _=>rfl
theorem mT:∀l r,Goal.bV (.unify l r)=[l,r]:=fun _ _=>rfl
theorem mU:Goal.bV .cut=[]:=rfl
theorem mW:∀k,Goal.bV (.level k)=[]:=fun _=>rfl
theorem mV:∀k,Goal.bV (.mark k)=[]:=fun _=>rfl
theorem mS:∀k,Goal.bV (.eA k)=[]:=fun _=>rfl
noncomputable def Goal.special:Goal->Int
 |.level k=>vi k
 |.mark k=>vi k
 |.eA k=>vi k
 |_=>-1
theorem Wx:True:=by
 k_with"wi"=>(first|((refine WI.tup (by decide) rfl (cm rfl) ?_))|fail)
 trivial
theorem qS(g:Goal){Q:AQ}(h:Q (.tup (g.bV.map Tm.av)) H):WC e.G (D+1) (.ref 454) [g.av] H Q:=by
 refine bj (ns:=["goal"]) (by kernel_rfl) (by kernel_rfl) rfl (gx (by intro x;kernel_rfl)) ?_
 k_extra"norm_m"
 cases g<;>k_extra"wg"<;>exact h
theorem oP(g:Goal){Q:AQ}(h:Q (.int g.special) H):WC e.G (D+1) (.ref 461) [g.av] H Q:=by
 refine bj (ns:=["goal"]) (by kernel_rfl) (by kernel_rfl) rfl (gx (by intro x;kernel_rfl)) ?_
 k_extra"norm_m"
 cases g<;>k_extra"wg"<;>first|exact h|exact⟨_,rfl,h⟩
theorem qV:∀ (l s s':List V8),(∀x,x∈s↔x∈s')->d9 s l=d9 s' l:=by
 intro zz
 induction zz with
 |nil=>
  intro _ _ _
  exact rfl
 |cons k r ih=>
  intro s s' h
  simp only[fy]
  by_cases q:k∈s
  ·rw[if_pos q,if_pos ((h k).mp q),ih s s' h]
  ·rw[if_neg q,if_neg (fun z=>q ((h k).mpr z)),ih (k::s) (k::s') (fun x=>by simp[h x])]
theorem sO(k:V8)(s l:List V8):d9 (k::s) l=d9 (s++[k]) l:=qV l _ _ (fun x=>by simp[or_comm])
theorem lZ(t:Tm)(h:t.cH=true):t.args.flatMap Tm.occs=t.occs:=by cases t<;>simp[rj,rp,rn,po,pn,eR,eU,eS,dX,dW,dP,dR,dQ,c8,cZ]at h⊢
where Ik (k:V8) (n:Int):List (V8×Int)->List (V8×Int)
 |[]=>[(k,n)]
 |(j,m)::r=>if j=k then(j,n)::r else(j,m)::Ik k n r
theorem fg{κ:Type}[DecidableEq κ](k j:κ)(a:AV):∀ (es:List (κ×AV)),(bZ k a es).lookup j=if j=k then some a else es.lookup j:=by
 intro zz
 induction zz with
 |nil=>
  rw[yw,List.lookup_cons]
  by_cases h:j=k
  ·simp[h]
  ·have:(j==k)=false:=by simpa using h
   simp[this,h]
 |cons qx r ih=>
  obtain⟨q,b⟩:=qx
  rw[gJ]
  by_cases z:q=k
  ·clear ih;subst z
   rw[if_pos rfl,List.lookup_cons,List.lookup_cons]
   by_cases h:j=q
   ·simp[h]
   ·have:(j==q)=false:=by simpa using h
    simp[this,h]
  ·rw[if_neg z,List.lookup_cons,List.lookup_cons,ih]
   by_cases h:j=q
   ·subst h;simp[z]
   ·have:(j==q)=false:=by simpa using h
    simp[this]
theorem iX{κ:Type}[DecidableEq κ](k:κ)(a:AV):∀ (es:List (κ×AV)),(bZ k a es).length<=es.length+1:=by
 intro zz
 induction zz with
 |nil=>
  exact Nat.le_refl _
 |cons qx r ih=>
  obtain⟨q,b⟩:=qx
  rw[gJ]
  by_cases z:q=k
  ·rw[if_pos z];exact Nat.le_succ _
  ·rw[if_neg z];exact Nat.succ_le_succ ih
theorem Ks:nsIn e.G.K mainGlobals ("reversed":Str)=some none:=by kernel_rfl
theorem Jh:nsIn e.G.K mainGlobals ("variables_of":Str)=some (some (.ref 140)):=by kernel_rfl
theorem P8:keepIn e.G.K (.ref 140)=true:=by kernel_rfl
theorem Ww:True:=by
 k_with"wf"=>(first|(with_reducible first|exact Jh|exact P8)|fail)
 trivial
theorem nU:∀ (a b:List Tm),kA (a++b)=kA a+kA b:=by
 intro zz
 induction zz with
 |nil=>
  intro b
  simp[eH,eI]
 |cons t a ih=>
  intro b
  simp only[List.cons_append,eH,eI,ih b];exact KA
theorem uO:∀ (a:List Tm),a.length<=kA a:=by
 intro zz
 induction zz with
 |nil=>
  exact Nat.le_refl _
 |cons t a ih=>
  have:=ih;have:=bW t
  simp only[fi,eH,eI];exact Kz ‹_› this
theorem Tm.zY(t:Tm):(∃k,t=.v k)∨t.cH=true∨∃n,t=.a n∨t=.i n:=by cases t<;>simp[rj,rp,rn,po,pn]
theorem X3{x:Str}{e:Expr}{p1 p2 p3 p4 p5 p6:Pos}{cs:Scope}{cl:List (Str×Addr)}{m:bP}{F:Fl->bP->ah->Prop}(h:W1 G D cs cl (.Expr (.Call (.Attribute (.Name x p1) ("extend":Str) p2) [.Call (.Name ("reversed":Str) p3) [e] [] p4] [] p5) p6) m H F):W1 G D cs cl (.Expr (.Call (.Attribute (.Name x p1) ("extend":Str) p2) [.Call (.Name ("reversed":Str) p3) [e] [] p4] [] p5) p6) m H F:=h
theorem Gi{l:Addr}{es:List (Int×AV)}{i:Int}{Q:Bool->ah->Prop}(hl:H l=some (.aB es))(h:Q (!(es.lookup i).isSome) H):cS G D .NotIn (.int i) (.ref l) H Q:=DK hl rfl rfl h
theorem Wv:True:=by
 k_with"hp"=>(first|(focus((repeat(first|with_reducible assumption|with_reducible exact al _ _ _|refine(aj _ _ (by(first|assumption|exact Ne.symm ‹_›))).trans ?_|exact al _ _ _));done))|fail)
 k_with"hfr"=>(first|(k_extra"hp")|fail)
 k_with"wq"=>(first|((focus(refine' Gi ?_ ?_;rotate_right 2;(· k_extra"hp"))))|fail)
 k_with"wz"=>(first|(((with_reducible refine X3 ?_);(focus(refine' Gs Ks rfl ⟨_,?_⟩ ?_;rotate_right 2;(· k_extra"hp")))))|fail)
 trivial
theorem oJ{t:Tm}(h:t.cH=true):t.tA=false:=by cases t<;>first|rfl|(exact bI h)
theorem IM(k:V8):∀ (res:List V8),((res.map fun k=>(vi k,AV.bool true)).lookup (vi k)).isSome=decide (k∈res):=by
 intro zz
 induction zz with
 |nil=>
  (rfl)
 |cons j r ih=>
  rw[List.map_cons,List.lookup_cons]
  by_cases h:k=j
  ·subst h;simp
  ·have:(vi k==vi j)=false:=by simpa using fun z=>h (gh z)
   simp only[this,ih,List.mem_cons,h,false_or]
theorem Pb(k:V8):∀ (res:List V8),k∉res->bZ (vi k) (AV.bool true) (res.map fun k=>(vi k,AV.bool true))=(res++[k]).map fun k=>(vi k,AV.bool true):=fun res h=>by
 rw[lW]
 ·simp
 ·intro z
  rw[List.map_map]at z
  refine aA (List.mem_map.mp z) fun j hj e=>?_
  exact h (gh e▸hj)
structure Sq(t:Tm)(H:ah)(ls lr lt:Addr)(n:Nat)(m:bP)(H':ah):Prop where
 go:∃ (au:List Tm) (res:List V8),H' lt=some (.list (au.reverse.map Tm.av))/\H' ls=some (.aB (res.map fun k=>(vi k,.bool true)))/\H' lr=some (.list (res.map fun k=>.int (vi k)))/\kA au<=n/\res.length+n<=t.size/\res++d9 res (au.flatMap Tm.occs)=t.vars
 s:m.lookup ("seen":Str)=some (.ref ls)
 r:m.lookup ("result":Str)=some (.ref lr)
 t:m.lookup ("todo":Str)=some (.ref lt)
 fr:∀a o,H a=some o->H' a=some o
theorem v5(t:Tm)(hz:t.size<=100000){l0:Addr}(nG:H l0=some (.list [t.av])){Q:AQ}(h:∀l H',H l=none->H' l=some (.list (t.vars.map fun k=>.int (vi k)))->ao [] H H'->Q (.ref l) H'):WC e.G (D+1) (.ref 140) [.ref l0] H Q:=by
 refine bj (ns:=["terms"]) (by kernel_rfl) (by kernel_rfl) rfl (gx (by intro x;kernel_rfl)) ?_
 k_extra"norm_m"
 refine WS.cons (W1.assign (nN fun ls hs=>?_))
 refine WS.cons (W1.assign (WE.list fun lr hr=>?_))
 have n1:lr≠ls:=fun z=>by(clear hs;subst z);simp at hr
 have n2:l0≠ls:=fun z=>by(clear n1 hr lr;subst z);rw[hs]at nG;(exact ax nG)
 have n3:l0≠lr:=fun z=>by(clear n1;subst z);rw[aj _ _ n2,nG]at hr;(exact bg hr)
 refine WS.cons (W1.assign (WE.listRev Ks CZ (WE.name rfl ⟨l0,[t.av],rfl,by k_extra"hp",cm rfl,fun lt ht=>?_⟩)))
 have n4:lt≠ls:=fun z=>by(clear n3 n2 hr hs nG l0;subst z);simp[ah.put,n1.symm]at ht
 have n5:lt≠lr:=fun z=>by(clear n3 n2 n1 hr nG l0;subst z);simp at ht
 have n6:l0≠lt:=fun z=>by(clear n5 n4;subst z);simp[ah.put,n2,n3,nG]at ht
 have f1:H ls=none:=hs
 have f2:H lr=none:=by rw[aj _ _ n1]at hr;exact hr
 have f3:H lt=none:=by rw[aj _ _ n5,aj _ _ n4]at ht;exact ht
 have out:∀ {a:Addr} {o:AO},H a=some o->a≠ls/\a≠lr/\a≠lt:=fun q=>⟨fun z=>(by rw[z,f1]at q;(exact ax q)),fun z=>(by rw[z,f2]at q;(exact ax q)),fun z=>(by rw[z,f3]at q;(exact ax q))⟩
 refine WS.cons (d7 ⟨t.size+1,fT.rule (Sq t H ls lr lt) ?_ t.size ?_⟩)
 ·rintro n m1 H1 ⟨⟨au,res,h1,h2,h3,hn,hr,hv⟩,i1,i2,i3,fr⟩
  have hl:=uO au
  refine WT.weak (m':=[("seen",.ref ls),("result",.ref lr),("todo",.ref lt)]) (Sub.cons i1 (Sub.cons i2 (Sub.cons i3 Sub.nil))) ?_
  refine WT.val (WE.name rfl (tu.list h1 rfl (by simp;exact Dz hz hn hr hl) ?_))
  cases au with
  |nil=>
   refine WS.weak (m':=[("result",.ref lr)]) (Sub.cons i2 Sub.nil) ?_
   k_extra"wg"
   refine h lr H1 f2 ?_ (fun a o q _=>fr a o q)
   rw[h3,←hv]
   simp[jg,fy]
  |cons u au=>
   have su:=bW u
   simp only[eH,eI]at hn hl
   refine aY ((⟨n-1,by exact Dy hn su⟩:∃k,n=k+1)) fun n ak=>?_;(clear su;subst ak)
   rw[show decide ((List.map Tm.av (u::au).reverse).length≠0)=true from by simp]
   refine⟨n,rfl,?_⟩
   refine WS.weak (m':=[("seen",.ref ls),("result",.ref lr),("todo",.ref lt)]) (Sub.cons i1 (Sub.cons i2 (Sub.cons i3 Sub.nil))) ?_
   rw[List.reverse_cons,List.map_append,List.map_cons,List.map_nil]at h1
   k_extra"wg"
   refine WB.pop h1 (by simp only[fi,List.length_map,List.length_reverse]at *;exact Dx hz hl hr hn) ?_
   have g1:H1.put lt (.list (au.reverse.map Tm.av)) lt=some (.list (au.reverse.map Tm.av)):=al _ _ _
   rcases u.zY with⟨k,rfl⟩|hs|⟨k,rfl|rfl⟩
   ·k_extra"wg"
    rw[IM]
    by_cases hk:k∈res
    ·rw[show(!decide (k∈res))=false from by simp[hk]]
     k_extra"wg"
     exact⟨⟨au,res,g1,by k_extra"hp",by k_extra"hp",by simp only[bL,bN,bM,bE,bD]at hn;exact mQ hn,by exact Nat.le_of_lt ‹_›,by simpa[dP,dR,dQ,c8,cZ,jg,fy,hk]using hv⟩,rfl,rfl,rfl,fun a o q=>(aj _ _ (out q).2.2).trans (fr a o q)⟩
    ·rw[show(!decide (k∈res))=true from by simp[hk]]
     refine WS.cons (gH ?_)
     k_extra"wg"
     refine gG.aB (es:=res.map fun k=>(vi k,.bool true)) (by k_extra"hp") (by simp;exact Dw hz hr) ?_
     k_extra"wg"
     refine dG (xs:=res.map fun k=>.int (vi k)) (by k_extra"hp") (by simp;exact Dw hz hr) ?_
     k_extra"wg"
     refine⟨⟨au,res++[k],by k_extra"hp",?_,?_,by simp only[bL,bN,bM,bE,bD]at hn;exact mQ hn,by simp;exact Ap hr,?_⟩,rfl,rfl,rfl,fun a o q=>?_⟩
     ·rw[←Pb k res hk];k_extra"hp"
     ·rw[List.map_append,List.map_cons,List.map_nil];k_extra"hp"
     ·rw[←sO,List.append_assoc]
      simpa[dP,dR,dQ,c8,cZ,jg,fy,hk]using hv
     ·refine ci (out q) fun a1 a2 a3=>?_
      have:=fr a o q
      k_extra"hp"
   ·have hV:=oJ hs
    k_extra"wg"
    have a2:u.args.length<=2:=by(clear hV g1 hn hl hv h3 h2 fr i3 out f3 n6 n5 n4 ht;cases u)<;>(first|exact cm rfl|exact Nat.zero_le _|simp[eR,eU,eS,dX,dW])
    refine⟨u.args.map Tm.av,au.reverse.map Tm.av,rfl,by k_extra"hp",by simp only[fi,List.length_map,List.length_reverse]at *;exact Dv hz hl hr hn a2,?_⟩
    k_extra"wg"
    refine⟨⟨u.args++au,res,?_,by k_extra"hp",by k_extra"hp",?_,by exact qj hr,?_⟩,rfl,rfl,rfl,fun a o q=>?_⟩
    ·rw[List.reverse_append,List.map_append,←List.map_reverse];k_extra"hp"
    ·rw[nU];have:=nT u hs;exact Du hn this
    ·rw[List.flatMap_append,lZ u hs];simpa using hv
    ·refine ci (out q) fun a1 a2 a3=>?_
     have:=fr a o q
     k_extra"hp"
   ·k_extra"wg"
    exact⟨⟨au,res,g1,by k_extra"hp",by k_extra"hp",by simp only[bL,bN,bM,bE,bD]at hn;exact mQ hn,by exact qj hr,by simpa[dP,dR,dQ,c8,cZ]using hv⟩,rfl,rfl,rfl,fun a o q=>(aj _ _ (out q).2.2).trans (fr a o q)⟩
   ·k_extra"wg"
    exact⟨⟨au,res,g1,by k_extra"hp",by k_extra"hp",by simp only[bL,bN,bM,bE,bD]at hn;exact mQ hn,by exact qj hr,by simpa[dP,dR,dQ,c8,cZ]using hv⟩,rfl,rfl,rfl,fun a o q=>(aj _ _ (out q).2.2).trans (fr a o q)⟩
 ·refine⟨⟨[t],[],by k_extra"hp",by k_extra"hp",by k_extra"hp",by simp[eH,eI],by simp,by simp[Tm.vars]⟩,rfl,rfl,rfl,fun a o q=>?_⟩
  refine ci (out q) fun a1 a2 a3=>?_
  k_extra"hp"
theorem AR(t:Tm)(hz:t.size<=100000){Q:AQ}(h:∀l H',H l=none->H' l=some (.list (t.vars.map fun k=>.int (vi k)))->ao [] H H'->Q (.ref l) H'):WC e.G (D+2) (.ref 133) [t.av] H Q:=by
 refine bj (ns:=["term"]) (by kernel_rfl) (by kernel_rfl) rfl (gx (by intro x;kernel_rfl)) ?_
 k_extra"norm_m"
 k_extra"wg"
 intro l0 nG
 refine v5 t hz (al _ _ _) fun l H' hl hv F=>?_
 k_extra"wg"
 have n1:l≠l0:=fun z=>by(clear F hv H' nG;subst z);simp at hl
 exact h l H' ((aj _ _ n1).symm.trans hl) hv (fun a o q _=>F a o ((aj _ _ (fun z=>by rw[z,nG]at q;(exact ax q))).trans q) (by(assumption)))
structure Su(t:Tm)(H:ah)(lc lt:Addr)(n:Nat)(m:bP)(H':ah):Prop where
 go:∃ (au:List Tm) (done:List V8) (es:List (Int×AV)),H' lt=some (.list (au.reverse.map Tm.av))/\H' lc=some (.aB es)/\(∀k,es.lookup (vi k)=if k∈done then some (.int (done.count k))else none)/\es.length<=done.length/\kA au<=n/\done.length+n<=t.size/\done++au.flatMap Tm.occs=t.occs
 s:m.lookup ("counts":Str)=some (.ref lc)
 t:m.lookup ("todo":Str)=some (.ref lt)
 fr:∀a o,H a=some o->H' a=some o
theorem Gn{G:Gl}{D:Nat}{H:ah}{l:Addr}{es:List (Int×AV)}{i:Int}{d:AV}{Q:AQ}(hl:H l=some (.aB es))(h:Q ((es.lookup i).getD d) H):WB G D (.builtin "dict.get") [.ref l,.int i,d] H Q:=uN hl rfl rfl h
theorem Bd(t:Tm)(hz:t.size<=100000){Q:AQ}(h:∀l H' es,H l=none->H' l=some (.aB es)->(∀k,k∈t.occs->es.lookup (vi k)=some (.int (t.occs.count k)))->ao [] H H'->Q (.ref l) H'):WC e.G (D+1) (.ref 147) [t.av] H Q:=by
 refine bj (ns:=["term"]) (by kernel_rfl) (by kernel_rfl) rfl (gx (by intro x;kernel_rfl)) ?_
 k_extra"norm_m"
 refine WS.cons (W1.assign (nN fun lc hc=>?_))
 k_extra"wg"
 intro lt ht
 k_extra"wg"
 have n1:lt≠lc:=fun z=>by subst z;simp at ht
 have f1:H lc=none:=hc
 have f3:H lt=none:=by rw[aj _ _ n1]at ht;exact ht
 have out:∀ {a:Addr} {o:AO},H a=some o->a≠lc/\a≠lt:=fun q=>⟨fun z=>(by rw[z,f1]at q;(exact ax q)),fun z=>(by rw[z,f3]at q;(exact ax q))⟩
 refine d7 ⟨t.size+1,fT.rule (Su t H lc lt) ?_ t.size ?_⟩
 ·rintro n m1 H1 ⟨⟨au,dn,es,h1,h2,h3,h4,hn,hr,hv⟩,i1,i2,fr⟩
  have hl:=uO au
  refine WT.weak (m':=[("counts",.ref lc),("todo",.ref lt)]) (Sub.cons i1 (Sub.cons i2 Sub.nil)) ?_
  refine WT.val (WE.name rfl (tu.list h1 rfl (by simp;exact Dz hz hn hr hl) ?_))
  cases au with
  |nil=>
   refine WS.weak (m':=[("counts",.ref lc)]) (Sub.cons i1 Sub.nil) ?_
   k_extra"wg"
   refine h lc H1 es f1 h2 (fun k hk=>?_) (fun a o q _=>fr a o q)
   have:dn=t.occs:=by simpa using hv
   rw[h3 k,this,if_pos hk]
  |cons u au=>
   have su:=bW u
   simp only[eH,eI]at hn hl
   refine aY ((⟨n-1,by exact Dy hn su⟩:∃k,n=k+1)) fun n ak=>?_;subst ak
   rw[show decide ((List.map Tm.av (u::au).reverse).length≠0)=true from by simp]
   refine⟨n,rfl,?_⟩
   refine WS.weak (m':=[("counts",.ref lc),("todo",.ref lt)]) (Sub.cons i1 (Sub.cons i2 Sub.nil)) ?_
   rw[List.reverse_cons,List.map_append,List.map_cons,List.map_nil]at h1
   k_extra"wg"
   refine WB.pop h1 (by simp only[fi,List.length_map,List.length_reverse]at *;exact Dx hz hl hr hn) ?_
   have g1:H1.put lt (.list (au.reverse.map Tm.av)) lt=some (.list (au.reverse.map Tm.av)):=al _ _ _
   rcases u.zY with⟨k,rfl⟩|hs|⟨k,rfl|rfl⟩
   ·refine WS.cons (cT ?_)
    k_extra"wg"
    k_extra"wg"
    refine Gn (es:=es) (by k_extra"hp") ?_
    rw[h3 k,show(if k∈dn then some (AV.int (dn.count k))else none).getD (.int 0)=.int (dn.count k)from by
     by_cases q:k∈dn
     ·rw[if_pos q];rfl
     ·rw[if_neg q,List.count_eq_zero_of_not_mem q];rfl]
    k_extra"wg"
    refine gG.aB (es:=es) (by k_extra"hp") (by exact Nj hz h4 hr) ?_
    k_extra"wg"
    refine⟨⟨au,dn++[k],_,by k_extra"hp",al _ _ _,fun j=>?_,?_,by simp only[bL,bN,bM,bE,bD]at hn;exact mQ hn,by simp;exact Ap hr,by simpa[dP,dR,dQ,c8,cZ]using hv⟩,rfl,rfl,fun a o q=>?_⟩
    ·rw[fg,h3 j]
     by_cases q:j=k
     ·subst q
      simp
     ·have q':¬vi j=vi k:=fun z=>q (gh z)
      simp[q,q',List.count_append,List.count_cons,Ne.symm q]
    ·have:=iX (vi k) (.int ((dn.count k:Int)+1)) es
     simp;exact Ao h4 this
    ·refine bh (out q) fun a1 a2=>?_
     have:=fr a o q
     k_extra"hp"
   ·have hV:=oJ hs
    k_extra"wg"
    have a2:u.args.length<=2:=by cases u<;>(first|exact cm rfl|exact Nat.zero_le _|simp[eR,eU,eS,dX,dW])
    refine⟨u.args.map Tm.av,au.reverse.map Tm.av,rfl,by k_extra"hp",by simp only[fi,List.length_map,List.length_reverse]at *;exact Dv hz hl hr hn a2,?_⟩
    k_extra"wg"
    refine⟨⟨u.args++au,dn,es,?_,by k_extra"hp",h3,h4,?_,by exact qj hr,?_⟩,rfl,rfl,fun a o q=>?_⟩
    ·rw[List.reverse_append,List.map_append,←List.map_reverse];k_extra"hp"
    ·rw[nU];have:=nT u hs;exact Du hn this
    ·rw[List.flatMap_append,lZ u hs];simpa using hv
    ·refine bh (out q) fun a1 a2=>?_
     have:=fr a o q
     k_extra"hp"
   ·k_extra"wg"
    exact⟨⟨au,dn,es,g1,by k_extra"hp",h3,h4,by simp only[bL,bN,bM,bE,bD]at hn;exact mQ hn,by exact qj hr,by simpa[dP,dR,dQ,c8,cZ]using hv⟩,rfl,rfl,fun a o q=>(aj _ _ (out q).2).trans (fr a o q)⟩
   ·k_extra"wg"
    exact⟨⟨au,dn,es,g1,by k_extra"hp",h3,h4,by simp only[bL,bN,bM,bE,bD]at hn;exact mQ hn,by exact qj hr,by simpa[dP,dR,dQ,c8,cZ]using hv⟩,rfl,rfl,fun a o q=>(aj _ _ (out q).2).trans (fr a o q)⟩
 ·refine⟨⟨[t],[],[],by k_extra"hp",by k_extra"hp",fun k=>by(rfl),by exact Nat.zero_le _,by simp[eH,eI],by simp,by simp⟩,rfl,rfl,fun a o q=>?_⟩
  refine bh (out q) fun a1 a3=>?_
  k_extra"hp"
noncomputable def Goal.plain:Goal->Bool
 |.unify _ _=>false
 |_=>true
noncomputable abbrev bF:=List (Int×Nat)
noncomputable def bF.es(cs:bF):List (Int×AV):=cs.map fun p=>(p.1,.int (p.2:Int))
noncomputable def cG(cs:bF)(k:Int):Nat:=(cs.lookup k).getD 0
noncomputable def j9(k:Int):bF->bF
 |[]=>[(k,1)]
 |(j,n)::r=>if j=k then(j,n+1)::r else(j,n)::j9 k r
noncomputable def gc(ks:List V8)(cs:bF):bF:=ks.foldl (fun cs k=>j9 (vi k) cs) cs
theorem kX(a b:List V8)(cs:bF):gc (a++b) cs=gc b (gc a cs):=List.foldl_append
theorem bF.look(k:Int):∀cs:bF,(bF.es cs).lookup k=(cs.lookup k).map fun n=>.int (n:Int):=by
 intro cs
 induction cs with
 |nil=>rfl
 |cons x r ih=>
  obtain⟨j,n⟩:=x
  show List.lookup k ((j,AV.int n)::bF.es r)=(List.lookup k ((j,n)::r)).map _
  rw[List.lookup_cons,List.lookup_cons]
  cases k==j with
  |true=>rfl
  |false=>exact ih
theorem bF.getD(cs:bF)(k:Int):((bF.es cs).lookup k).getD (.int 0)=.int (cG cs k:Int):=by
 rw[bF.look]
 unfold cG
 cases cs.lookup k<;>rfl
theorem B2(k:Int):∀cs:bF,bZ k (.int ((cG cs k:Int)+1)) (bF.es cs)=bF.es (j9 k cs):=by
 intro cs
 induction cs with
 |nil=>rfl
 |cons x r ih=>
  obtain⟨j,n⟩:=x
  show bZ k _ ((j,AV.int n)::bF.es r)=_
  rw[gJ]
  by_cases h:j=k
  ·rw[if_pos h]
   have e:cG ((j,n)::r) k=n:=by unfold cG;rw[List.lookup_cons,h,beq_self_eq_true];rfl
   rw[e,show j9 k ((j,n)::r)=(j,n+1)::r from if_pos h]
   rfl
  ·rw[if_neg h]
   have e:cG ((j,n)::r) k=cG r k:=by
    unfold cG
    rw[List.lookup_cons,show(k==j)=false from beq_false_of_ne fun z=>h z.symm]
   rw[e,ih,show j9 k ((j,n)::r)=(j,n)::j9 k r from if_neg h]
   rfl
theorem kY(k:Int):∀cs:bF,(j9 k cs).length<=cs.length+1:=by
 intro cs
 induction cs with
 |nil=>exact Nat.le_refl _
 |cons x r ih=>
  obtain⟨j,n⟩:=x
  show(if j=k then(j,n+1)::r else(j,n)::j9 k r).length<=_
  split
  ·exact Nat.le_succ _
  ·exact Nat.succ_le_succ ih
theorem ic(ks:List V8):∀cs:bF,(gc ks cs).length<=cs.length+ks.length:=by
 induction ks with
 |nil=>exact fun _=>Nat.le_refl _
 |cons k r ih=>
  intro cs
  refine d6 (ih (j9 (vi k) cs)) ?_
  have:=kY (vi k) cs
  rw[fi]
  exact Ni this
theorem gX{t u:Tm}(h:u∈t.args):u.size<t.size:=by
 cases t with
 |s1 w=>
  rcases de h with rfl|h
  ·exact Nat.lt_succ_self _
  ·exact bv h
 |s2 f w z=>
  rcases de h with rfl|h
  ·show u.size<u.size+z.size+1;exact Nh
  ·rcases de h with rfl|h
   ·show u.size<w.size+u.size+1;(exact Nat.le_add_left _ _)
   ·exact bv h
 |_=>exact bv h
noncomputable def Goal.nums:Goal->List V8
 |.call _ as=>as.flatMap Tm.occs
 |.builtin _ as=>as.flatMap Tm.occs
 |.level k=>[k]
 |.mark k=>[k]
 |.eA k=>[k]
 |.cut=>[]
 |.unify _ _=>[]
noncomputable def gR(ai:List Tm)(cs:bF):bF:=ai.foldl (fun cs t=>gc t.occs cs) cs
noncomputable def oQ(ag:List Goal)(cs:bF):bF:=ag.foldl (fun cs g=>gc g.nums cs) cs
noncomputable def dN(ai:List Tm)(ag:List Goal):bF:=oQ ag (gR ai [])
theorem gM:∀ (as:List Tm) (cs:bF),gR as cs=gc (as.flatMap Tm.occs) cs:=by
 intro as
 induction as with
 |nil=>exact fun _=>rfl
 |cons t r ih=>
  intro cs
  show gR r (gc t.occs cs)=_
  rw[ih,List.flatMap_cons,kX]
structure ki(B:ah)(lk:Addr)(ai:List Tm)(ag:List Goal)(count:Int):Prop where
 go:∃dk lg,B lk=some (.inst 443 dk)/\B dk=some (.attrs [("functor",.int 24),("args",.tup (ai.map Tm.av)),("goals",.ref lg),("count",.int count)])/\B lg=some (.list (ag.map Goal.av))
noncomputable def gb(g:Goal):Nat:=16*kA g.bV+2
def QV(P:aX)(g:Goal):Prop:=(∀t∈g.bV,dq P t/\t.size<=400)/\(0<=g.special->∀k:V8,g.special=vi k->P.pc k=true)
theorem Ps:cv e.G.K 417 ("load_arguments":Str) 386=true:=by kernel_rfl
theorem Pq:cv e.G.K 417 ("number_goal":Str) 400=true:=by kernel_rfl
theorem a8:cj e.G.K 443 ("goals":Str)=true:=by kernel_rfl
theorem a9:cj e.G.K 443 ("args":Str)=true:=by kernel_rfl
theorem Wu:True:=by
 k_with"wf"=>(first|(with_reducible first|exact Ps|exact Pq|exact a8|exact a9)|fail)
 trivial
theorem vD(g:Goal)(i:Nat){ai:List Tm}{ag:List Goal}{count:Int}(K:ki B c.wL ai ag count)(hi:ag[i]?=some g)(hz:ag.length<=1000)(hg:QV P g)(Fx:g.plain=true)(C:az c B P st (b+gb g) H){Q:AQ}
 (h:∀H',az c B P (gS P g i st) b H'->ao c.mods H H'->Q .none H'):WC e.G (D+10) (.ref 407) [.ref c.self,.int i] H Q:=by
 refine aE (K.go) fun dk lg k1 k2 k3=>?_
 have Jk:=(C.base _ _ k1).1
 have Je:=(C.base _ _ k2).1
 have zr:=(C.base _ _ k3).1
 refine bj (ns:=["self","index"]) (by kernel_rfl) (by kernel_rfl) rfl (fL (by intro x y;kernel_rfl)) ?_
 k_extra"norm_m"
 have hx:(ag.map Goal.av)[(i:Int).toNat]?=some g.av:=by simp[hi]
 have AG:(ag.map Goal.av).length<=16000000:=by simp;(exact d6 ‹_› (cm rfl))
 clear k1 k2 k3
 refine WS.cons (W1.assign (WE.item (dA (dA (WE.name rfl ?_)))))
 refine rB.of C.self C.d rfl rfl (by k_extra"wf") ?_
 refine rB.of Jk Je rfl rfl (by k_extra"wf") ?_
 refine WE.name rfl (WI.list zr rfl (Int.natCast_nonneg i) hx AG ?_)
 cases g with
 |call f as=>
  k_extra"wg"
  refine mI as (fun t ht=>hg.1 t ht) i (b:=b) (C.weak (by simp only[gb,mX,mY,mT,mU,mW,mV,mS];exact Ng)) fun H2 C2 F2=>?_
  k_extra"wg"
  exact h _ C2 (by k_extra"fr")
 |builtin f as=>
  k_extra"wg"
  refine⟨_,rfl,?_⟩
  k_extra"wg"
  refine mI as (fun t ht=>hg.1 t ht) (-1) (b:=b+1) (C.weak (by simp only[gb,mX,mY,mT,mU,mW,mV,mS];exact Nf)) fun H2 C2 F2=>?_
  k_extra"wg"
  exact h _ ‹_› (by k_extra"fr")
 |unify l r=>exact bI Fx
 |cut=>
  replace C:az c B P st (b+1+1) H:=C
  k_extra"wg"
  exact h _ (az.weak (b:=b+1) ‹_› (by exact uJ)) (by k_extra"fr")
 |level k=>
  have hk:=hg.2 (hA k).1 k rfl
  replace C:az c B P st (b+1+1) H:=C
  k_extra"wg"
  refine mc C "get_level" k hk fun H2 C2 F2=>?_
  k_extra"wg"
  exact h _ (az.weak (b:=b+1) ‹_› (by exact uJ)) (by k_extra"fr")
 |mark k=>
  have hk:=hg.2 (hA k).1 k rfl
  replace C:az c B P st (b+1+1) H:=C
  k_extra"wg"
  refine mc C "mark" k hk fun H2 C2 F2=>?_
  k_extra"wg"
  exact h _ (az.weak (b:=b+1) ‹_› (by exact uJ)) (by k_extra"fr")
 |eA k=>
  have hk:=hg.2 (hA k).1 k rfl
  replace C:az c B P st (b+1+1) H:=C
  k_extra"wg"
  refine mc C "cut_to" k hk fun H2 C2 F2=>?_
  k_extra"wg"
  exact h _ (az.weak (b:=b+1) ‹_› (by exact uJ)) (by k_extra"fr")
noncomputable def gz:List Goal->Nat
 |[]=>0
 |g::r=>gb g+1+gz r
theorem BM:gz []=0:=rfl
theorem BN:∀x r,gz (x::r)=gb x+1+gz r:=fun _ _=>rfl
theorem PB:cv e.G.K 417 ("head_argument":Str) 224=true:=by kernel_rfl
theorem Po:cv e.G.K 417 ("goal":Str) 407=true:=by kernel_rfl
theorem b6:cj e.G.K 534 ("needs_env":Str)=true:=by kernel_rfl
theorem b7:cj e.G.K 534 ("env_size":Str)=true:=by kernel_rfl
theorem b8:cj e.G.K 534 ("live_after":Str)=true:=by kernel_rfl
theorem Wt:True:=by
 k_with"wf"=>(first|(with_reducible first|exact PB|exact Po|exact b6|exact b7|exact b8)|fail)
 trivial
noncomputable def CM(P:aX)(g:Goal)(i:Int)(st:CS):CS:=
 let cY:=gS P g i st
 let pB:=if P.fh then cY.emit "deallocate" []else cY
 (match g with|.call f _=>pB.emit "execute" [.num f]|_=>pB.emit "proceed" [])
noncomputable def yT(P:aX)(g:Goal)(n:Nat)(st:CS):CS:=
 let cY:=gS P g n st
 (match g with|.call f _=>cY.emit "call" [.num f,.num (P.live.getD n 0)]|_=>cY)
theorem ut(P:aX)(g:Goal)(n:Nat)(st:CS):d8 P [g] n st=CM P g n st:=rfl
theorem sJ(P:aX)(g h:Goal)(r:List Goal)(n:Nat)(st:CS):d8 P (g::h::r) n st=d8 P (h::r) (n+1) (yT P g n st):=rfl
theorem Bf{P:aX}{g:Goal}{n:Nat}{st:CS}(h:g.isCall=false):yT P g n st=gS P g n st:=by cases g<;>first|rfl|(exact dH h)
theorem vq{P:aX}{g:Goal}{i:Int}{st:CS}(h:g.isCall=false):CM P g i st=(if P.fh then(gS P g i st).emit "deallocate" []else gS P g i st).emit "proceed" []:=by cases g<;>first|rfl|(exact dH h)
structure UG(c:AJ)(B:ah)(P:aX)(ag:List Goal)(lg:Addr)(b:Nat)(H:ah)(goal:CS)(n:Nat)(m:bP)(H':ah):Prop where
 go:∃ (i:Nat) (st':CS),i+n+1=ag.length/\d8 P (ag.drop i) i st'=goal/\az c B P st' (b+gz (ag.drop i)+2) H'/\m.lookup ("index":Str)=some (.int i)
 s:m.lookup ("self":Str)=some (.ref c.self)
 p:m.lookup ("plan":Str)=some (.ref c.fE)
 g:m.lookup ("goals":Str)=some (.ref lg)
 l:m.lookup ("last":Str)=some (.int ((ag.length:Int)-1))
 fr:ao c.mods H H'
theorem tG{b':Nat}(C:az c B P st b H)(h:b'<=b):st.code.length+b'<=15000000:=d6 (Nat.add_le_add_left h _) C.fit
theorem YO:True:=by
 k_with"sb"=>((repeat(refine Sub.cons rfl ?_));exact Sub.nil)
 trivial
set_option tactic.hygienic true in
theorem xh{ai:List Tm}{ag:List Goal}{count:Int}(K:ki B c.wL ai ag count)(hz:ag.length<=1000)(hh:∀t∈ai,dq P t/\t.size<=400)(hg:∀g∈ag,QV P g)(Fx:∀g∈ag,g.plain=true)(hl:P.live.length=ag.length)
 (C:az c B P (CS.start count) (b+6*kA ai+gz ag+3) H) {Q:AQ}
 (h:∀H',(gC P count ai ag).length+b<=15000000->H' c.lc=some (.list ((gC P count ai ag).map Row.av))->ao c.mods H H'->Q (.ref c.lc) H'):WC e.G (D+11) (.ref 414) [.ref c.self] H Q:=by
 refine aE (K.go) fun dk lg k1 k2 k3=>?_
 refine f9 (C.fE.go) fun dp li il xq infos p1 p2 p3 p4 p5=>?_
 have Jk:=(C.base _ _ k1).1
 have Je:=(C.base _ _ k2).1
 have zr:=(C.base _ _ k3).1
 have NX:=(C.base _ _ p1).1
 have NW:=(C.base _ _ p2).1
 have YF:=(C.base _ _ p4).1
 refine bj (ns:=["self"]) (by kernel_rfl) (by kernel_rfl) rfl (gx (by intro x;kernel_rfl)) ?_
 k_extra"norm_m"
 refine WS.cons (W1.assign (dA (WE.name rfl (rB.of C.self C.d rfl rfl (by k_extra"wf") ?_))))
 refine WS.cons (W1.assign (dA (dA (WE.name rfl (rB.of C.self C.d rfl rfl (by k_extra"wf") (rB.of Jk Je rfl rfl (by k_extra"wf") ?_))))))
 refine WS.seq (fun m1 H1=>Sub [("goals",.ref lg),("plan",.ref c.fE),("self",.ref c.self)] m1/\ao c.mods H H1/\∃Hq,az c B P Hq (b+6*kA ai+gz ag+2) H1/\(d8 P ag 0 (dM P ai 0 Hq)).code=gC P count ai ag) ?_ ?_
 ·cases hn:P.fh
  all_goals
   k_extra"wg"
   rw[hn]
   k_extra"wg"
   refine⟨rfl,fun x a e=>e,by k_extra"fr",_,az.weak (by k_extra"as") (by(first|((simp +arith;done))|exact Nat.le_refl _|lia)),by simp only[gC,hn,↓reduceIte,Bool.false_eq_true]⟩
 ·intro m1;intro H1;intro ak;refine zO (ak) fun l1 F1 cY C1 e1=>?_;clear ak
  refine WS.weak l1 ?_
  clear C l1
  have Xg:=(C1.base _ _ k1).1
  have Xe:=(C1.base _ _ k2).1
  refine WS.cons (W1.assign (WE.int ?_))
  refine WS.seq (fun m2 H2=>Sub [("goals",.ref lg),("plan",.ref c.fE),("self",.ref c.self)] m2/\ao c.mods H H2/\∃pB,az c B P pB (b+gz ag+2) H2/\(d8 P ag 0 pB).code=gC P count ai ag) ?_ ?_
  ·refine jG (dA (dA (WE.name rfl (rB.of C1.self C1.d rfl rfl (by k_extra"wf") (rB.of Xg Xe rfl rfl (by k_extra"wf") ?_)))))
   refine⟨_,rfl,?_⟩
   refine dS.rule (fun au m' H'=>∃ (n:Int) (st':CS),Sub [("goals",.ref lg),("plan",.ref c.fE),("self",.ref c.self)] m'/\m'.lookup ("number":Str)=some (.int n)/\az c B P st' (b+gz ag+2+6*kA au) H'/\ao c.mods H H'/\(d8 P ag 0 (dM P au n st')).code=gC P count ai ag/\∀t∈au,dq P t/\t.size<=400) (fun t au m1 H1 I kp=>?_) (fun m1 H1 I kp=>?_) ai trivial ⟨0,cY,by k_extra"sb",rfl,C1.weak (by exact Nd),F1,e1,hh⟩
   ·refine fm (I) fun n cY i1 i2 C1 F1 e1 i4=>?_;clear I
    refine WS.weak (m':=[("arg",t.av),("goals",.ref lg),("plan",.ref c.fE),("self",.ref c.self),("number",.int n)]) (Sub.cons rfl (Sub.cons (i1 _ _ rfl) (Sub.cons (i1 _ _ rfl) (Sub.cons (i1 _ _ rfl) (Sub.cons i2 Sub.nil))))) ?_
    have i5:∀t∈au,dq P t/\t.size<=400:=fun t ht=>i4 t (.tail _ ht)
    refine bh (i4 t (.head _)) fun JX Xi=>?_
    k_extra"wg"
    refine ur t JX (by exact d6 ‹_› (cm rfl)) (.a (n+1)) (b:=b+gz ag+2+6*kA au) (C1.weak (by simp only[eH,eI];exact Nc)) fun H2 C2 F2=>?_
    k_extra"wg"
    exact⟨trivial,n+1,_,by k_extra"sb",rfl,C2,by k_extra"fr",e1,i5⟩
   ·refine fm (I) fun n cY i1 i2 C1 F1 e1 i4=>?_;clear I
    exact⟨rfl,i1,F1,cY,C1.weak (by exact Nat.le_refl _),e1⟩
  ·intro m2;intro H2;intro ak;refine zO (ak) fun l2 F2 pB C2 e2=>?_;clear ak
   refine WS.weak l2 ?_
   clear C1 e1 F1 l2
   have P0:=(C2.base _ _ k3).1
   have SX:=(C2.base _ _ p4).1
   have xW:∀ {D:Nat} {H:ah} {Q:AQ},H lg=some (.list (ag.map Goal.av))->Q (.int ag.length) H->WB e.G D (.builtin "len") [.ref lg] H Q:=fun hh q=>lK hh rfl (by simp;exact kZ hz) (by rw[List.length_map];exact q)
   refine WS.cons (W1.assign (iU (jQ pj jn (by decide) (WE.name rfl (xW P0 (WE.int (np.sub ?_)))))))
   refine WS.cons (W1.assign (WE.int ?_))
   cases QF:ag with
   |nil=>
    subst QF
    refine WS.cons (d7 ⟨1,WT.cmp (WE.name rfl (WE.name rfl (DZ (x:=false) (by decide) ?_)))⟩)
    replace C2:az c B P pB (b+1+1) H2:=C2.weak (by simp only[BM,BN];(exact Nat.le_refl _))
    cases hn:P.fh
    all_goals
     rw[hn]at p2
     have YH:=(C2.base _ _ p1).1
     have YG:=(C2.base _ _ p2).1
     k_extra"wg"
     refine h _ ?_ ?_ (by k_extra"fr")
     ·rw[←e2]
      simp only[sI,hn,↓reduceIte,Bool.false_eq_true]
      exact tG ‹_› (by(first|exact uJ|exact An))
     ·rw[←e2]
      simp only[sI,hn,↓reduceIte,Bool.false_eq_true]
      exact az.lc ‹_›
   |cons g0 Y2=>
   rw[←QF]
   have EE:0<ag.length:=by rw[QF];simp
   refine WS.cons (d7 ⟨ag.length-1+1,fT.rule (UG c B P ag lg b H (d8 P ag 0 pB)) ?_ (ag.length-1) ?_⟩)
   ·rintro n m1 H1 ⟨⟨i,Cv,e3,e4,C3,l5⟩,l1,l2,l3,l4,F3⟩
    have lt:i<ag.length:=by exact Nb e3
    have hd:ag.drop i=ag[i]::ag.drop (i+1):=List.drop_eq_getElem_cons lt
    have AH:ag[i]?=some ag[i]:=List.getElem?_eq_getElem lt
    have gm:ag[i]∈ag:=List.getElem_mem lt
    generalize ag[i]=g at hd AH gm
    have YS:=(C3.base _ _ k3).1
    refine WT.weak (m':=[("index",.int i),("last",.int ((ag.length:Int)-1)),("goals",.ref lg),("plan",.ref c.fE),("self",.ref c.self)]) (Sub.cons l5 (Sub.cons l4 (Sub.cons l3 (Sub.cons l2 (Sub.cons l1 Sub.nil))))) ?_
    refine WT.cmp (WE.name rfl (WE.name rfl (Cg (fun iP=>?_) (fun XM=>?_))))
    ·refine aY ((⟨n-1,by exact Na e3 iP⟩:∃k,n=k+1)) fun n ak=>?_;subst ak
     refine⟨n,rfl,?_⟩
     refine WS.weak (m':=[("index",.int i),("last",.int ((ag.length:Int)-1)),("goals",.ref lg),("plan",.ref c.fE),("self",.ref c.self)]) (Sub.cons l5 (Sub.cons l4 (Sub.cons l3 (Sub.cons l2 (Sub.cons l1 Sub.nil))))) ?_
     refine sQ ((⟨ag[i+1]'(by exact Dt e3),_,List.drop_eq_getElem_cons (by exact Dt e3)⟩:∃g2 r2,ag.drop (i+1)=g2::r2)) fun g2 r2 hd2=>?_
     rw[hd,hd2,sJ,←hd2]at e4
     rw[hd]at C3
     clear C2 P0 SX F2
     k_extra"wg"
     refine vD g i K AH hz (hg g gm) (Fx g gm) (b:=b+gz (ag.drop (i+1))+2+1) (C3.weak (by simp only[BM,BN];exact M9)) fun H4 C4 F4=>?_
     have PZ:=(C4.base _ _ k3).1
     have SY:=(C4.base _ _ p1).1
     have Pc:=(C4.base _ _ p2).1
     have VB:=(C4.base _ _ p4).1
     have hx:(ag.map Goal.av)[(i:Int).toNat]?=some g.av:=by simp[AH]
     have AG:(ag.map Goal.av).length<=16000000:=by simp;exact kZ hz
     have XF:(P.live.map AV.int)[(i:Int).toNat]?=some (.int (P.live.getD i 0)):=by
      have:i<P.live.length:=by exact M8 hl e3
      simp[List.getD,this]
     have XE:(P.live.map AV.int).length<=16000000:=by simp;exact M6 hz hl
     have Hf:∀ {D:Nat} {Q:AQ},Q g.av H4->WI e.G D (.ref lg) (.int i) H4 Q:=fun q=>WI.list PZ rfl (Int.natCast_nonneg i) hx AG q
     have fin:∀ (m':bP) (H':ah),az c B P (yT P g i Cv) (b+gz (ag.drop (i+1))+2) H'->ao c.mods H H'->m'.lookup ("index":Str)=some (.int ((i:Int)+1))->m'.lookup ("self":Str)=some (.ref c.self)->m'.lookup ("plan":Str)=some (.ref c.fE)->m'.lookup ("goals":Str)=some (.ref lg)->m'.lookup ("last":Str)=some (.int ((ag.length:Int)-1))->
      UG c B P ag lg b H (d8 P ag 0 pB) n m' H':=fun m' H' a1 a2 a3 a4 a5 a6 a7=>⟨⟨i+1,_,by exact M5 e3,e4,a1,by rw[a3];rfl⟩,a4,a5,a6,a7,a2⟩
     k_extra"wg"
     refine Hf ?_
     k_extra"wg"
     ·rename_i hc
      obtain⟨f,as,rfl⟩:∃f as,g=.call f as:=by cases g<;>first|exact⟨_,_,rfl⟩|(exact bI hc)
      k_extra"wg"
      refine Hf ?_
      k_extra"wg"
      refine WI.list VB rfl (Int.natCast_nonneg i) XF XE ?_
      k_extra"wg"
      exact fin _ _ ‹_› (by k_extra"fr") rfl rfl rfl rfl rfl
     ·rename_i hc
      rw[Bf hc]at fin
      exact fin _ _ (az.weak C4 (by exact Nat.le_add_right _ _)) (by k_extra"fr") rfl rfl rfl rfl rfl
    ·have e5:((ag.length:Int)-1)=(i:Int):=by exact M4 lt XM
     rw[e5]at l4
     have hd2:ag.drop (i+1)=[]:=List.drop_of_length_le (by exact M3 e5)
     rw[hd,hd2,ut]at e4
     rw[hd]at C3
     refine WS.weak (m':=[("last",.int i),("goals",.ref lg),("plan",.ref c.fE),("self",.ref c.self)]) (Sub.cons l4 (Sub.cons l3 (Sub.cons l2 (Sub.cons l1 Sub.nil)))) ?_
     have i0:(0:Int)<=i:=Int.natCast_nonneg i
     have hx:(ag.map Goal.av)[(i:Int).toNat]?=some g.av:=by simp[AH]
     have AG:(ag.map Goal.av).length<=16000000:=by simp;exact kZ hz
     rw[←e4]at e2
     clear C2 P0 SX F2
     refine WS.seq (fun m4 H4=>Sub [("last",.int i),("goals",.ref lg),("plan",.ref c.fE),("self",.ref c.self)] m4/\az c B P (gS P g i Cv) (b+2) H4/\ao c.mods H H4) ?_ ?_
     ·k_extra"wg"
      ·refine vD g i K AH hz (hg g gm) (Fx g gm) (b:=b+2) (C3.weak (by simp only[BM,BN];exact M2)) fun H4 C4 F4=>?_
       k_extra"wg"
       exact⟨rfl,fun x a e=>e,C4,by k_extra"fr"⟩
     ·intro m4;intro H4;intro ak;refine ci (ak) fun l6 C4 F4=>?_;clear ak
      refine WS.weak l6 ?_
      have PZ:=(C4.base _ _ k3).1
      have SY:=(C4.base _ _ p1).1
      have Pc:=(C4.base _ _ p2).1
      clear C3 l6
      refine WS.seq (fun m4 H4=>Sub [("last",.int i),("goals",.ref lg),("plan",.ref c.fE),("self",.ref c.self)] m4/\az c B P (if P.fh then(gS P g i Cv).emit "deallocate" []else gS P g i Cv) (b+1) H4/\ao c.mods H H4) ?_ ?_
      ·replace C4:az c B P (gS P g i Cv) (b+1+1) H4:=C4
       cases hn:P.fh
       all_goals
        rw[hn]at Pc
        k_extra"wg"
        refine⟨rfl,fun x a e=>e,by simp only[↓reduceIte,Bool.false_eq_true];exact az.weak ‹_› (by(first|exact Nat.le_add_right _ _|exact Nat.le_refl _|lia)),by k_extra"fr"⟩
      ·intro m5;intro H5;intro ak;refine ci (ak) fun l7 C5 F5=>?_;clear ak
       refine WS.weak l7 ?_
       have TD:=(C5.base _ _ k3).1
       clear C4 l7 PZ SY Pc
       have Hf:∀ {D:Nat} {Q:AQ} {H:ah},H lg=some (.list (ag.map Goal.av))->Q g.av H->WI e.G D (.ref lg) (.int i) H Q:=fun q h=>WI.list q rfl (Int.natCast_nonneg i) hx AG h
       k_extra"wg"
       ·refine Hf TD ?_
        k_extra"wg"
        ·rename_i hc
         obtain⟨f,as,rfl⟩:∃f as,g=.call f as:=by cases g<;>first|exact⟨_,_,rfl⟩|(exact bI hc)
         k_extra"wg"
         refine Hf TD ?_
         k_extra"wg"
         refine h _ ?_ ?_ (by k_extra"fr")
         ·rw[←e2]
          exact tG ‹_› (by exact An)
         ·rw[←e2]
          exact az.lc ‹_›
        ·refine h _ ?_ ?_ (by k_extra"fr")
         ·rw[←e2,vq ‹g.isCall=false›]
          exact tG ‹_› (by exact An)
         ·rw[←e2,vq ‹g.isCall=false›]
          exact az.lc ‹_›
   ·exact⟨⟨0,pB,by exact M1 EE,by(rfl),C2.weak (by simp),rfl⟩,rfl,rfl,rfl,rfl,F2⟩
theorem Jd:nsIn e.G.K mainGlobals ("CodeMaker":Str)=some (some (.ref 417)):=by kernel_rfl
theorem PY:keepIn e.G.K (.ref 417)=true:=by kernel_rfl
theorem Pn:cv e.G.K 417 ("clause":Str) 414=true:=by kernel_rfl
theorem Ws:True:=by
 k_with"wf"=>(first|(with_reducible first|exact Jd|exact PY|exact Pn)|fail)
 trivial
theorem tq{lk lp:Addr}{a:AV}{ai:List Tm}{ag:List Goal}{count:Int}(hp:rr H lp P)(K:ki H lk ai ag count)(hz:ag.length<=1000)(hh:∀t∈ai,dq P t/\t.size<=400)(hg:∀g∈ag,QV P g)(Fx:∀g∈ag,g.plain=true)(hl:P.live.length=ag.length)
 (hb:6*kA ai+gz ag<=6000000) {Q:AQ} (h:∀l H',H l=none->(gC P count ai ag).length<=7000000->H' l=some (.list ((gC P count ai ag).map Row.av))->ao [] H H'->Q (.ref l) H'):WC e.G (D+13) (.ref 426) [a,.ref lk,.ref lp] H Q:=by
 refine bj (ns:=["symbols","kernel","plan"]) (by kernel_rfl) (by kernel_rfl) rfl (gW (by intro x y z;kernel_rfl)) ?_
 k_extra"norm_m"
 refine aE (K.go) fun dk lg k1 k2 k3=>?_
 refine WS.cons (W1.ret (qm ?_))
 k_extra"wg"
 refine t8 k1 k2 hp fun c H1 e1 e2 C F1=>?_
 clear K hp;subst e1 e2
 have fresh:∀a∈c.mods,H a=none:=fun a ha=>by
  cases q:H a with
  |none=>rfl
  |some o=>exact absurd ha (C.base a o q).2
 refine⟨_,_,_,_,414,rfl,C.self,C.d,rfl,by k_extra"wf",?_⟩
 refine xh (b:=8000000) ⟨dk,lg,k1,k2,k3⟩ hz hh hg Fx hl (C.weak (by exact M0 hb)) fun H2 z2 h2 F2=>?_
 k_extra"wg"
 exact h c.lc H2 (fresh _ (by exact .tail _ (.head _))) (Nat.le_of_add_le_add_right z2) h2 (ao.drop (fresh c.ll (by simp)) (ao.drop (fresh c.ls (by simp)) (ao.drop (fresh c.lc (by exact .tail _ (.head _))) (ao.drop (fresh c.d (by exact List.mem_cons_self)) ((F1.sub (fun _ h=>bv h)).trans (F2.sub (fun a ha=>by simp at ha⊢;rcases ha with h|h|h|h<;>simp[h])))))))
structure Rec where
 k:V8
 kind:Kind
 slot:Int
 first:Str
 AU:Bool
 last:Int
 count:Int
 fc:Int
 lc:Int
noncomputable def Rec.attrs(r:Rec):List (Str×AV):=[("var",.int (vi r.k)),("kind",.str (hO r.kind)),("slot",.int r.slot),("first",.str r.first),("unsafe",.bool r.AU),("last_goal",.int r.last),("count",.int r.count),("first_chunk",.int r.fc),("last_chunk",.int r.lc)]
noncomputable def Rec.new(k:V8)(first:Str):Rec:=⟨k,.rI,0,first,false,-1,0,0,0⟩
noncomputable def jU(k:V8)(f:Rec->Rec)(rs:List Rec):List Rec:=rs.map fun r=>if r.k=k then f r else r
noncomputable def bS(k:V8)(rs:List Rec):Bool:=rs.any fun r=>decide (r.k=k)
noncomputable def Rec.met(goal chunk count:Int)(r:Rec):Rec:={ r with count:=r.count+count,last:=goal,lc:=chunk }
noncomputable def c9(k:V8)(first:Str)(goal chunk count:Int)(rs:List Rec):List Rec:=
 jU k (Rec.met goal chunk count) (if bS k rs then rs else rs++[{ Rec.new k first with fc:=chunk }])
noncomputable def cV(place:Str)(goal chunk:Int)(t:Tm):List V8->List Rec->List Rec
 |[],rs=>rs
 |k::r,rs=>cV place goal chunk t r (c9 k (place++"_struct") goal chunk (t.occs.count k) rs)
theorem y7:∀p g c t rs,cV p g c t [] rs=rs:=fun _ _ _ _ _=>rfl
theorem y8:∀p g c t k r rs,cV p g c t (k::r) rs=cV p g c t r (c9 k (p++"_struct") g c (t.occs.count k) rs):=fun _ _ _ _ _ _ _=>rfl
noncomputable def cM(place:Str)(goal chunk:Int):List Tm->List Rec->List Rec
 |[],rs=>rs
 |t::r,rs=>cM place goal chunk r (match t with|.v k=>c9 k (place++"_arg") goal chunk 1 rs|t=>cV place goal chunk t t.vars rs)
theorem yb:∀p g c rs,cM p g c [] rs=rs:=fun _ _ _ _=>rfl
theorem f7{k:V8}{f:Rec->Rec}(hf:∀r,(f r).k=r.k)(rs:List Rec):(jU k f rs).map (·.k)=rs.map (·.k):=by
 unfold jU
 rw[List.map_map]
 refine List.map_congr_left fun r _=>?_
 show(if r.k=k then f r else r).k=r.k
 split
 ·exact hf r
 ·rfl
theorem wv:∀ (l ks:List V8),l.Nodup->(∀x∈l,x∈ks)->l.length<=ks.length:=by
 intro zz
 induction zz with
 |nil=>
  intro _ _ _
  exact Nat.zero_le _
 |cons x r ih=>
  intro ks nd h
  rw[List.nodup_cons]at nd
  have hx:=h x (.head _)
  have:=ih (ks.erase x) nd.2 (fun k hk=>(List.mem_erase_of_ne (fun z=>nd.1 (by rw[←z];exact hk))).mpr (h k (.tail _ hk)))
  rw[List.length_erase_of_mem hx]at this
  have:0<ks.length:=List.length_pos_of_mem hx
  simp only[fi]
  exact MZ ‹_› this
theorem Em{l:List V8}(nd:l.Nodup):l.length<=8:=by
 have:=wv l [0,1,2,3,4,5,6,7] nd (fun x _=>(show ∀x:V8,x∈([0,1,2,3,4,5,6,7]:List V8) by decide) x)
 simpa using this
structure cz(B:ah)(li:Addr)(ad:V8->Addr×Addr)(rs:List Rec)(H:ah):Prop where
 base:∀a o,B a=some o->H a=some o
 fl:B li=none
 fr:∀r∈rs,B (ad r.k).1=none/\B (ad r.k).2=none
 li:H li=some (.aB (rs.map fun r=>(vi r.k,.ref (ad r.k).1)))
 rc:∀r∈rs,H (ad r.k).1=some (.inst 478 (ad r.k).2)/\H (ad r.k).2=some (.attrs r.attrs)
 nd:(rs.map (·.k)).Nodup
 inj:∀r∈rs,∀r'∈rs,(ad r.k).2=(ad r'.k).2->r.k=r'.k
theorem eh{ad:V8->Addr×Addr}:∀ {rs:List Rec} {k:V8},(∃r∈rs,r.k=k)->(rs.map fun r=>(vi r.k,AV.ref (ad r.k).1)).lookup (vi k)=some (.ref (ad k).1):=by
 intro zz
 induction zz with
 |nil=>
  intro k h
  (refine aA (h) ?_;clear h;intro r h _);cases h
 |cons r rs ih=>
  intro k h
  rw[List.map_cons,List.lookup_cons]
  by_cases q:k=r.k
  ·subst q;simp
  ·have:(vi k==vi r.k)=false:=by simpa using fun z=>q (gh z)
   simp only[this]
   refine aA (h) fun r' h1 h2=>?_;clear h
   clear this;rcases de h1 with rfl|h1
   ·exact absurd h2.symm q
   ·exact ih ⟨r',h1,h2⟩
theorem wH{ad:V8->Addr×Addr}:∀ {rs:List Rec} {k:V8},(∀r∈rs,r.k≠k)->(rs.map fun r=>(vi r.k,AV.ref (ad r.k).1)).lookup (vi k)=none:=by
 intro zz
 induction zz with
 |nil=>
  intro k h
  exact rfl
 |cons r rs ih=>
  intro k h
  rw[List.map_cons,List.lookup_cons]
  have:(vi k==vi r.k)=false:=by simpa using fun z=>h r (.head _) (gh z).symm
  simp only[this]
  exact ih fun r' h'=>h r' (.tail _ h')
theorem bK{k:V8}{rs:List Rec}:bS k rs=true↔∃r∈rs,r.k=k:=by simp[bS]
theorem Bj{ad:V8->Addr×Addr}{rs:List Rec}{k:V8}:((rs.map fun r=>(vi r.k,AV.ref (ad r.k).1)).lookup (vi k)).isSome=bS k rs:=by
 cases h:bS k rs with
 |true=>rw[eh (bK.mp h)];rfl
 |false=>rw[wH (fun r hr e=>by rw[bK.mpr ⟨r,hr,e⟩]at h;(exact dH h))];rfl
variable{li:Addr}{ad:V8->Addr×Addr}{rs:List Rec}
theorem cz.len(R:cz B li ad rs H):rs.length<=8:=by have:=Em R.nd;simpa using this
theorem cz.uniq(R:cz B li ad rs H){r r':Rec}(h:r∈rs)(h':r'∈rs)(e:r.k=r'.k):r=r':=by
 have nd:=R.nd
 clear R
 induction rs with
 |nil=>cases h
 |cons x l ih=>
  rw[List.map_cons,List.nodup_cons]at nd
  rcases de h with h|h
  ·rcases de h' with h'|h'
   ·rw[h,h']
   ·exact absurd (List.mem_map.mpr ⟨r',h',by rw[←e,h]⟩) nd.1
  ·rcases de h' with h'|h'
   ·exact absurd (List.mem_map.mpr ⟨r,h,by rw[e,h']⟩) nd.1
   ·exact ih h h' nd.2
theorem cz.jV(R:cz B li ad rs H){H':ah}(b:∀a o,B a=some o->H' a=some o)(k:∀a o,H a=some o->(a=li∨∃r∈rs,a=(ad r.k).1∨a=(ad r.k).2)->H' a=some o):cz B li ad rs H':=
 ⟨b,R.fl,R.fr,k _ _ R.li (.inl rfl),fun r hr=>⟨k _ _ (R.rc r hr).1 (.inr ⟨r,hr,.inl rfl⟩),k _ _ (R.rc r hr).2 (.inr ⟨r,hr,.inr rfl⟩)⟩,R.nd,R.inj⟩
theorem cz.upd(R:cz B li ad rs H){r:Rec}(hr:r∈rs){f:Rec->Rec}(hf:∀r,(f r).k=r.k):cz B li ad (jU r.k f rs) (H.put (ad r.k).2 (.attrs (f r).attrs)):=by
 have ne:∀ {a o},H a=some o->o≠.attrs r.attrs->a≠(ad r.k).2:=fun h1 h2 z=>by
  rw[z,(R.rc r hr).2]at h1
  exact h2 (Option.some.inj h1).symm
 have mem:∀x∈jU r.k f rs,∃y∈rs,x.k=y.k/\(y.k=r.k/\x=f y∨y.k≠r.k/\x=y):=fun x hx=>by
  refine aA (List.mem_map.mp hx) fun y hy ak=>?_;(clear hx;subst ak)
  refine⟨y,hy,?_⟩
  by_cases q:y.k=r.k
  ·rw[if_pos q];exact⟨hf y,.inl ⟨q,rfl⟩⟩
  ·rw[if_neg q];exact⟨rfl,.inr ⟨q,rfl⟩⟩
 refine⟨fun a o h=>?_,R.fl,fun x hx=>?_,?_,fun x hx=>?_,by rw[f7 hf];exact R.nd,fun x hx y hy e=>?_⟩
 ·rw[aj _ _ (fun z=>by rw[z,(R.fr r hr).2]at h;(exact ax h))];exact R.base a o h
 ·refine aN (mem x hx) fun y hy e _=>?_
  rw[e];exact R.fr y hy
 ·rw[aj _ _ (ne R.li (by simp)),R.li]
  unfold jU
  rw[List.map_map]
  congr 2
  refine List.map_congr_left fun y _=>?_
  show _=(vi (if y.k=r.k then f y else y).k,AV.ref (ad (if y.k=r.k then f y else y).k).1)
  split
  ·rw[hf y]
  ·rfl
 ·refine aN (mem x hx) fun y hy e h=>?_
  rw[e]
  refine⟨(aj _ _ (ne (R.rc y hy).1 (by simp))).trans (R.rc y hy).1,?_⟩
  clear e hx mem ne;rcases h with⟨h1,rfl⟩|⟨h1,rfl⟩
  ·have:y=r:=R.uniq hy hr h1
   clear h1 hy hr R;subst this
   exact al _ _ _
  ·rw[aj _ _ (fun z=>h1 (R.inj _ hy _ hr z))]
   exact(R.rc _ hy).2
 ·refine aN (mem x hx) fun x' Qj e1 _=>?_
  refine aN (mem y hy) fun y' Qh e2 _=>?_
  rw[e1,e2]at e⊢
  exact R.inj x' Qj y' Qh e
theorem cz.add(R:cz B li ad rs H){r:Rec}(hk:bS r.k rs=false){x dx:Addr}{H':ah}(hx:H x=none)(lI:H dx=none)(ix:H' x=some (.inst 478 dx))(idx:H' dx=some (.attrs r.attrs))(ot:∀a,a≠x->a≠dx->H' a=H a):
 cz B li (fun j=>if j=r.k then(x,dx)else ad j) (rs++[r]) (H'.put li (.aB ((rs.map fun r=>(vi r.k,.ref (ad r.k).1))++[(vi r.k,.ref x)]))):=by
 have nk:∀y∈rs,y.k≠r.k:=fun y hy e=>by rw[bK.mpr ⟨y,hy,e⟩]at hk;(exact dH hk)
 have off:∀ {a o},H a=some o->a≠x/\a≠dx:=fun h=>⟨fun z=>(by rw[z,hx]at h;(exact ax h)),fun z=>(by rw[z,lI]at h;(exact ax h))⟩
 have old:∀ {a o},H a=some o->H' a=some o:=fun h=>by rw[ot _ (off h).1 (off h).2];exact h
 have nl:∀ {a o},H' a=some o->o≠.aB (rs.map fun r=>(vi r.k,.ref (ad r.k).1))->a≠li:=fun h1 h2 z=>by
  rw[z,old R.li]at h1
  exact h2 (Option.some.inj h1).symm
 have Bx:B x=none:=by
  cases q:B x with
  |none=>rfl
  |some o=>rw[R.base x o q]at hx;(exact bg hx)
 have UH:B dx=none:=by
  cases q:B dx with
  |none=>rfl
  |some o=>rw[R.base dx o q]at lI;(exact bg lI)
 refine⟨fun a o h=>?_,R.fl,fun y hy=>?_,?_,fun y hy=>?_,?_,fun y hy z hz e=>?_⟩
 ·rw[aj _ _ (fun z=>by rw[z,R.fl]at h;(exact ax h))];exact old (R.base a o h)
 ·rcases List.mem_append.mp hy with hy|hy
  ·(try dsimp only);rw[if_neg (nk y hy)];exact R.fr y hy
  ·cases fG hy;(try dsimp only);rw[if_pos rfl];exact⟨Bx,UH⟩
 ·rw[al,List.map_append,List.map_cons,List.map_nil,if_pos rfl]
  congr 3
  refine List.map_congr_left fun y hy=>?_
  rw[if_neg (nk y hy)]
 ·rcases List.mem_append.mp hy with hy|hy
  ·try dsimp only
   rw[if_neg (nk y hy)]
   have a1:=old (R.rc y hy).1
   have a2:=old (R.rc y hy).2
   exact⟨(aj _ _ (nl a1 (by simp))).trans a1,(aj _ _ (nl a2 (by simp))).trans a2⟩
  ·cases fG hy
   try dsimp only
   rw[if_pos rfl]
   exact⟨(aj _ _ (nl ix (by simp))).trans ix,(aj _ _ (nl idx (by simp))).trans idx⟩
 ·rw[List.map_append,List.nodup_append]
  refine⟨R.nd,by simp,fun a ha b hb=>?_⟩
  refine aA (List.mem_map.mp ha) fun y hy ak=>?_;(clear ha;subst ak)
  cases fG hb
  exact nk y hy
 ·rcases List.mem_append.mp hy with hy|hy<;>rcases List.mem_append.mp hz with hz|hz
  ·(try dsimp only at e);rw[if_neg (nk y hy),if_neg (nk z hz)]at e;exact R.inj y hy z hz e
  ·cases fG hz
   (try dsimp only at e);rw[if_neg (nk y hy),if_pos rfl]at e
   exact absurd e (off (R.rc y hy).2).2
  ·cases fG hy
   (try dsimp only at e);rw[if_neg (nk z hz),if_pos rfl]at e
   exact absurd e.symm (off (R.rc z hz).2).2
  ·(clear e UH Bx nl off ot idx ix lI hx dx x R;cases fG hy);cases fG hz;rfl
theorem HN:cJ e.G.K 478 ("var":Str)=true:=by kernel_rfl
theorem HM:cJ e.G.K 478 ("kind":Str)=true:=by kernel_rfl
theorem HK:cJ e.G.K 478 ("slot":Str)=true:=by kernel_rfl
theorem HJ:cJ e.G.K 478 ("first":Str)=true:=by kernel_rfl
theorem HI:cJ e.G.K 478 ("unsafe":Str)=true:=by kernel_rfl
theorem HH:cJ e.G.K 478 ("last_goal":Str)=true:=by kernel_rfl
theorem HG:cJ e.G.K 478 ("count":Str)=true:=by kernel_rfl
theorem HF:cJ e.G.K 478 ("first_chunk":Str)=true:=by kernel_rfl
theorem HE:cJ e.G.K 478 ("last_chunk":Str)=true:=by kernel_rfl
theorem NA:cj e.G.K 478 ("count":Str)=true:=by kernel_rfl
theorem Nz:cj e.G.K 478 ("first_chunk":Str)=true:=by kernel_rfl
theorem Ny:cj e.G.K 478 ("last_chunk":Str)=true:=by kernel_rfl
theorem NB:cj e.G.K 478 ("first":Str)=true:=by kernel_rfl
theorem Sp:cj e.G.K 576 ("infos":Str)=true:=by kernel_rfl
theorem OT:cJ e.G.K 576 ("infos":Str)=true:=by kernel_rfl
theorem Iy:makesIn e.G.K 478=true:=by kernel_rfl
theorem Jq:findIn e.G.K (.ref 478) "__init__"=some (some (.ref 475)):=by kernel_rfl
theorem Kb:isFn e.G.K (.ref 475)=true:=by kernel_rfl
theorem IY:nsIn e.G.K mainGlobals ("VarInfo":Str)=some (some (.ref 478)):=by kernel_rfl
theorem PT:keepIn e.G.K (.ref 478)=true:=by kernel_rfl
theorem IG:cv e.G.K 576 ("meet":Str) 566=true:=by kernel_rfl
theorem IE:cv e.G.K 576 ("terms":Str) 573=true:=by kernel_rfl
theorem CP:nsIn e.G.K mainGlobals ("occurrences":Str)=some (some (.ref 147)):=by kernel_rfl
theorem Jg:keepIn e.G.K (.ref 147)=true:=by kernel_rfl
theorem Wr:True:=by
 k_with"wf"=>(first|(with_reducible first|exact HN|exact HM|exact HK|exact HJ|exact HI|exact HH|exact HG|exact HF|exact HE|exact NA|exact Nz|exact Ny|exact NB|exact Sp|exact OT|exact IY|exact PT|exact CP|exact Jg)|fail)
 trivial
theorem Wq:True:=by
 k_with"wz"=>(first|(first|(refine jH ?_)|(refine Gr ?_))|fail)
 trivial
theorem Wp:True:=by
 k_with"wx"=>(first|((focus(refine' FE.of (x:=_) (C:=_) (dx:=_) (as:=_) ?_ ?_ ?_ ?_ ?_;rotate_right 5;(· k_extra"hfr");(· k_extra"hfr");(· k_extra"wf");(· exact cm rfl))))|fail)
 trivial
theorem QW{H:ah}{x C dx:Addr}{as:List (Str×AV)}{name:Str}{K:Frag}{P:List (Str×AV)->Prop}(a1:H x=some (.inst C dx))(a2:H dx=some (.attrs as))(a3:cJ K C name=true)(a4:as.length<=900)(h:P as):
 ∃uI,H x=some (.inst C dx)/\H dx=some (.attrs uI)/\cJ K C name=true/\uI.length<=900/\P uI:=⟨as,a1,a2,a3,a4,h⟩
theorem Wo:True:=by
 k_with"wx"=>(first|((focus(refine'⟨_,_,_,_,_,rfl,?_,?_,?_,?_,?_,?_⟩;rotate_right 6;(· k_extra"hfr");(· k_extra"hfr");(· (first|with_reducible assumption|exact rfl));(· exact rfl);(· k_extra"wf"))))|fail)
 trivial
theorem Wn:True:=by
 k_with"wx"=>(first|((focus(refine' QW ?_ ?_ ?_ ?_ ?_;rotate_right 5;(· k_extra"hfr");(· k_extra"hfr");(· k_extra"wf");(· exact cm rfl))))|fail)
 trivial
theorem wA(k:V8)(first:Str){Q:AQ}(h:∀x dx H',H x=none->H dx=none->H' x=some (.inst 478 dx)->H' dx=some (.attrs (Rec.new k first).attrs)->(∀a,a≠x->a≠dx->H' a=H a)->Q (.ref x) H'):WC e.G (D+2) (.ref 478) [.int (vi k),.str first] H Q:=by
 refine pM Iy Jq Kb fun x dx hx lI ne=>?_
 refine bj (ns:=["self","k","first"]) (by kernel_rfl) (by kernel_rfl) rfl (gW (by intro x y z;kernel_rfl)) ?_
 k_extra"norm_m"
 k_extra"wg"
 refine⟨_,rfl,?_⟩
 k_extra"wg"
 refine⟨rfl,h x dx _ hx lI (by k_extra"hp") (by k_extra"hp") fun a n1 n2=>?_⟩
 simp only[ah.put,n1,n2,↓reduceIte]
structure dr(B:ah)(su sd li:Addr)(ad:V8->Addr×Addr)(rs:List Rec)(H:ah):Prop where
 R:cz B li ad rs H
 hu:H su=some (.inst 576 sd)
 hs:H sd=some (.attrs [("infos",.ref li)])
 fb:B su=none/\B sd=none
 ns:∀r∈rs,(ad r.k).2≠sd
theorem dr.upd{B su sd li ad rs H}(S:dr B su sd li ad rs H){r:Rec}(hr:r∈rs){f:Rec->Rec}(hf:∀r,(f r).k=r.k):dr B su sd li ad (jU r.k f rs) (H.put (ad r.k).2 (.attrs (f r).attrs)):=by
 have n1:su≠(ad r.k).2:=fun z=>by have:=S.hu;rw[z,(S.R.rc r hr).2]at this;cases this
 refine⟨S.R.upd hr hf,(aj _ _ n1).trans S.hu,(aj _ _ (S.ns r hr).symm).trans S.hs,S.fb,fun x hx=>?_⟩
 refine aA (List.mem_map.mp hx) fun y hy ak=>?_;(clear hx;subst ak)
 split
 ·rw[hf];exact S.ns y hy
 ·exact S.ns y hy
theorem uV{ad:V8->Addr×Addr}{rs:List Rec}{k:V8}{x:Addr}(h:bS k rs=false):bZ (vi k) (AV.ref x) (rs.map fun r=>(vi r.k,AV.ref (ad r.k).1))=(rs.map fun r=>(vi r.k,AV.ref (ad r.k).1))++[(vi k,.ref x)]:=by
 rw[lW]
 intro z
 rw[List.map_map]at z
 refine aA (List.mem_map.mp z) fun r hr e=>?_
 rw[bK.mpr ⟨r,hr,gh e⟩]at h
 exact dH h
theorem dr.add{B su sd li ad rs H}(S:dr B su sd li ad rs H){r:Rec}(hk:bS r.k rs=false){x dx:Addr}{H':ah}(hx:H x=none)(lI:H dx=none)(ix:H' x=some (.inst 478 dx))(idx:H' dx=some (.attrs r.attrs))(ot:∀a,a≠x->a≠dx->H' a=H a):
 dr B su sd li (fun j=>if j=r.k then(x,dx)else ad j) (rs++[r]) (H'.put li (.aB ((rs.map fun r=>(vi r.k,.ref (ad r.k).1))++[(vi r.k,.ref x)]))):=by
 have off:∀ {a o},H a=some o->a≠x/\a≠dx:=fun h=>⟨fun z=>(by rw[z,hx]at h;(exact ax h)),fun z=>(by rw[z,lI]at h;(exact ax h))⟩
 have n1:su≠li:=ay S.hu S.R.li (by simp)
 have n2:sd≠li:=ay S.hs S.R.li (by simp)
 refine⟨S.R.add hk hx lI ix idx ot,(aj _ _ n1).trans ((ot _ (off S.hu).1 (off S.hu).2).trans S.hu),(aj _ _ n2).trans ((ot _ (off S.hs).1 (off S.hs).2).trans S.hs),S.fb,fun y hy=>?_⟩
 rcases List.mem_append.mp hy with hy|hy
 ·by_cases q:y.k=r.k
  ·rw[if_pos q];exact(off S.hs).2.symm
  ·rw[if_neg q];exact S.ns y hy
 ·cases fG hy
  rw[if_pos rfl];exact(off S.hs).2.symm
theorem Bb{k:V8}{rs:List Rec}{r:Rec}(h:bS k rs=false)(hr:r.k=k)(f:Rec->Rec):jU k f (rs++[r])=rs++[f r]:=by
 unfold jU
 rw[List.map_append,List.map_cons,List.map_nil,if_pos hr]
 congr 1
 conv=>rhs;rw[←List.map_id rs]
 refine List.map_congr_left fun y hy=>?_
 rw[if_neg (fun z=>by rw[bK.mpr ⟨y,hy,z⟩]at h;(exact dH h))];rfl
theorem qG{B su sd li ad rs}(S:dr B su sd li ad rs H)(k:V8)(first:Str)(goal chunk count:Int){Q:AQ}(h:∀Fc H',dr B su sd li Fc (c9 k first goal chunk count rs) H'->Q .none H'):WC e.G (D+3) (.ref 566) [.ref su,.int (vi k),.str first,.int goal,.int chunk,.int count] H Q:=by
 refine bj (ns:=["self","k","first","goal","chunk","count"]) (by kernel_rfl) (by kernel_rfl) rfl (C0 (by intro x y z u v w;kernel_rfl)) ?_
 k_extra"norm_m"
 refine WS.seq (fun m1 H1=>Sub [("self",.ref su),("k",.int (vi k)),("goal",.int goal),("chunk",.int chunk),("count",.int count)] m1/\∃Au,dr B su sd li Au (if bS k rs then rs else rs++[{ Rec.new k first with fc:=chunk }]) H1) ?_ ?_
 ·have h1:=S.hu
  have h2:=S.hs
  have h3:=S.R.li
  k_extra"wg"
  rw[Bj]
  cases hk:bS k rs with
  |true=>
   k_extra"wg"
   exact⟨rfl,by k_extra"sb",ad,by simpa using S⟩
  |false=>
   k_extra"wg"
   refine wA k first fun x dx H1 hx lI ix idx ot=>?_
   have off:∀ {a o},H a=some o->H1 a=some o:=fun {a o} h=>by rw[ot a (fun z=>by rw[z,hx]at h;(exact ax h)) (fun z=>by rw[z,lI]at h;(exact ax h))];exact h
   have g1:=off h1
   have g2:=off h2
   have g3:=off h3
   have S2:=S.add (r:=Rec.new k first) hk hx lI ix idx ot
   clear h1 h2 h3
   k_extra"wg"
   refine gG.aB g3 (by have:=S.R.len;simp;(exact d6 ‹_› (cm rfl))) ?_
   rw[uV hk]
   have d1:=S2.hu
   have d2:=S2.hs
   have d3:=S2.R.li
   have hm:Rec.new k first∈rs++[Rec.new k first]:=by simp
   refine bh (S2.R.rc _ hm) fun r1 r2=>?_
   have S3:=S2.upd hm (f:=fun r=>{ r with fc:=chunk }) (fun _=>rfl)
   rw[show(Rec.new k first).k=k from rfl]at S3 r1 r2 d3
   rw[Bb hk (show(Rec.new k first).k=k from rfl)]at S3
   rw[if_pos rfl]at r1 r2 S3
   have VW:(rs.map (fun r:Rec=>(vi r.k,AV.ref (ad r.k).1))++[(vi k,AV.ref x)]).lookup (vi k)=some (.ref x):=by
    rw[←uV hk,fg,if_pos rfl]
   have d4:=al H1 li (.aB (rs.map (fun r=>(vi r.k,AV.ref (ad r.k).1))++[(vi k,.ref x)]))
   change dr B su sd li (fun j=>if j=k then(x,dx)else ad j) _ ((H1.put li (.aB (rs.map (fun r=>(vi r.k,AV.ref (ad r.k).1))++[(vi k,.ref x)]))).put dx _)at S3
   change H1.put li (.aB (rs.map (fun r=>(vi r.k,AV.ref (ad r.k).1))++[(vi k,.ref x)])) x=some (.inst 478 dx)at r1
   change H1.put li (.aB (rs.map (fun r=>(vi r.k,AV.ref (ad r.k).1))++[(vi k,.ref x)])) dx=some (.attrs (Rec.new k first).attrs)at r2
   change H1.put li (.aB (rs.map (fun r=>(vi r.k,AV.ref (ad r.k).1))++[(vi k,.ref x)])) su=_ at d1
   change H1.put li (.aB (rs.map (fun r=>(vi r.k,AV.ref (ad r.k).1))++[(vi k,.ref x)])) sd=_ at d2
   clear d3 g1 g2 g3 S2
   generalize (H1.put li (.aB (rs.map (fun r=>(vi r.k,AV.ref (ad r.k).1))++[(vi k,.ref x)])))=H2 at *
   k_extra"wg"
   refine WI.aB d4 rfl VW ?_
   k_extra"wg"
   exact⟨rfl,by k_extra"sb",_,S3⟩
 ·intro m1;intro H1;intro ak;refine Kj (ak) fun l1 Au S1=>?_;clear ak
  refine WS.weak l1 ?_
  clear S l1
  obtain⟨r,hr,Xu⟩:∃r∈(if bS k rs then rs else rs++[{ Rec.new k first with fc:=chunk }]),r.k=k:=by
   cases hk:bS k rs with
   |true=>simpa using bK.mp hk
   |false=>exact⟨{ Rec.new k first with fc:=chunk },by simp,rfl⟩
  have em:c9 k first goal chunk count rs=jU k (Rec.met goal chunk count) (if bS k rs then rs else rs++[{ Rec.new k first with fc:=chunk }]):=rfl
  rw[em]at h
  generalize (if bS k rs then rs else rs++[{ Rec.new k first with fc:=chunk }])=uT at *
  subst Xu
  have d1:=S1.hu
  have d2:=S1.hs
  have d3:=S1.R.li
  refine bh (S1.R.rc _ hr) fun r1 r2=>?_
  have lk:=eh (ad:=Au) ⟨r,hr,rfl⟩
  have S3:=S1.upd hr (f:=Rec.met goal chunk count) (fun _=>rfl)
  have r5:∀ {H:ah} {a:Addr} {o o':AO},(H.put a o).put a o'=H.put a o':=fun {H a o o'}=>by funext b;simp only[ah.put];split<;>rfl
  have n1:(Au r.k).1≠(Au r.k).2:=ay r1 r2 (by simp)
  k_extra"wg"
  refine WI.aB d3 rfl lk ?_
  k_extra"wg"
  rw[r5,r5]
  exact h _ _ S3
theorem ua{k:V8}:∀ (l s:List V8),k∈d9 s l↔k∈l/\k∉s:=by
 intro zz
 induction zz with
 |nil=>
  intro s
  simp[jg,fy]
 |cons j r ih=>
  intro s
  simp only[fy]
  by_cases q:j∈s
  ·rw[if_pos q,ih s]
   constructor
   ·(intro ak;refine bh (ak) fun a b=>?_;clear ak);exact⟨.tail _ a,b⟩
   ·intro ak;refine bh (ak) fun a b=>?_;clear ak
    rcases de a with rfl|a
    ·exact absurd q b
    ·exact⟨a,b⟩
  ·rw[if_neg q,List.mem_cons,ih (j::s)]
   constructor
   ·rintro(rfl|⟨a,b⟩)
    ·exact⟨.head _,q⟩
    ·exact⟨.tail _ a,fun z=>b (.tail _ z)⟩
   ·intro ak;refine bh (ak) fun a b=>?_;clear ak
    by_cases z:k=j
    ·exact .inl z
    ·rcases de a with y|a
     ·exact .inl y
     ·exact .inr ⟨a,fun y=>by rcases de y with y|y;exact z y;exact b y⟩
theorem y5{k:V8}(t:Tm):k∈t.vars↔k∈t.occs:=by unfold Tm.vars;rw[ua];simp
theorem CQ:nsIn e.G.K mainGlobals ("variables":Str)=some (some (.ref 133)):=by kernel_rfl
theorem Ji:keepIn e.G.K (.ref 133)=true:=by kernel_rfl
theorem Wm:True:=by
 k_with"wf"=>(first|(with_reducible first|exact CQ|exact Ji)|fail)
 trivial
variable{su sd:Addr}
theorem dr.jV(S:dr B su sd li ad rs H){B' H':ah}(b:∀a o,B' a=some o->H' a=some o)(nb:∀a,B' a=none∨(a≠su/\a≠sd/\a≠li/\∀r∈rs,a≠(ad r.k).1/\a≠(ad r.k).2))(k:∀a o,H a=some o->(a=su∨a=sd∨a=li∨∃r∈rs,a=(ad r.k).1∨a=(ad r.k).2)->H' a=some o):dr B' su sd li ad rs H':=by
 have n:∀a,(a=su∨a=sd∨a=li∨∃r∈rs,a=(ad r.k).1∨a=(ad r.k).2)->B' a=none:=fun a h=>by
  rcases nb a with q|⟨q1,q2,q3,q4⟩
  ·exact q
  ·rcases h with h|h|h|⟨r,hr,h|h⟩
   ·exact absurd h q1
   ·exact absurd h q2
   ·exact absurd h q3
   ·exact absurd h (q4 r hr).1
   ·exact absurd h (q4 r hr).2
 exact⟨⟨b,n _ (.inr (.inr (.inl rfl))),fun r hr=>⟨n _ (.inr (.inr (.inr ⟨r,hr,.inl rfl⟩))),n _ (.inr (.inr (.inr ⟨r,hr,.inr rfl⟩)))⟩,k _ _ S.R.li (.inr (.inr (.inl rfl))),fun r hr=>⟨k _ _ (S.R.rc r hr).1 (.inr (.inr (.inr ⟨r,hr,.inl rfl⟩))),k _ _ (S.R.rc r hr).2 (.inr (.inr (.inr ⟨r,hr,.inr rfl⟩)))⟩,S.R.nd,S.R.inj⟩,
  k _ _ S.hu (.inl rfl),k _ _ S.hs (.inr (.inl rfl)),⟨n _ (.inl rfl),n _ (.inr (.inl rfl))⟩,S.ns⟩
theorem dr.own(S:dr B su sd li ad rs H){a:Addr}{o:AO}(h:B a=some o):a≠su/\a≠sd/\a≠li/\∀r∈rs,a≠(ad r.k).1/\a≠(ad r.k).2:=
 ⟨fun z=>(by rw[z,S.fb.1]at h;(exact ax h)),fun z=>(by rw[z,S.fb.2]at h;(exact ax h)),fun z=>(by rw[z,S.R.fl]at h;(exact ax h)),fun r hr=>⟨fun z=>(by rw[z,(S.R.fr r hr).1]at h;(exact ax h)),fun z=>(by rw[z,(S.R.fr r hr).2]at h;(exact ax h))⟩⟩
theorem dr.off(S:dr B su sd li ad rs H){a:Addr}(h:H a=none):a≠su/\a≠sd/\a≠li/\∀r∈rs,a≠(ad r.k).1/\a≠(ad r.k).2:=
 ⟨fun z=>(by rw[z,S.hu]at h;(exact bg h)),fun z=>(by rw[z,S.hs]at h;(exact bg h)),fun z=>(by rw[z,S.R.li]at h;(exact bg h)),fun r hr=>⟨fun z=>(by rw[z,(S.R.rc r hr).1]at h;(exact bg h)),fun z=>(by rw[z,(S.R.rc r hr).2]at h;(exact bg h))⟩⟩
theorem dr.ext(S:dr B su sd li ad rs H){l:Addr}{o:AO}{H':ah}(h0:H l=none)(F:ao [] H H')(h1:H' l=some o):dr (B.put l o) su sd li ad rs H':=
 S.jV (fun a x q=>by
  by_cases z:a=l
  ·(clear F h0 S;subst z);rw[al]at q;cases q;exact h1
  ·rw[aj _ _ z]at q;exact F a x (S.R.base a x q) (by exact fun h=>bv h))
  (fun a=>by
   by_cases z:a=l
   ·(clear h1 F H';subst z);exact .inr (S.off h0)
   ·rw[aj _ _ z]
    cases q:B a with
    |none=>exact .inl rfl
    |some x=>exact .inr (S.own q)) (fun a x q _=>F a x q (by exact fun h=>bv h))
theorem dr.close{l:Addr}{o:AO}(S:dr (B.put l o) su sd li ad rs H)(hB:B l=none)(o':AO):dr B su sd li ad rs (H.put l o'):=by
 have q:=S.own (al B l o)
 refine S.jV (fun a x z=>?_) (fun a=>?_) fun a x z h=>?_
 ·have ne:a≠l:=fun y=>by rw[y,hB]at z;(exact ax z)
  rw[aj _ _ ne]
  exact S.R.base a x ((aj _ _ ne).trans z)
 ·cases z:B a with
  |none=>exact .inl rfl
  |some x=>
   have ne:a≠l:=fun y=>by rw[y,hB]at z;(exact ax z)
   exact .inr (S.own ((aj _ _ ne).trans z))
 ·rw[aj _ _ (fun y=>?_)]
  ·exact z
  ·clear z hB S o;subst y
   rcases h with h|h|h|⟨r,hr,h|h⟩
   ·exact q.1 h
   ·exact q.2.1 h
   ·exact q.2.2.1 h
   ·exact(q.2.2.2 r hr).1 h
   ·exact(q.2.2.2 r hr).2 h
theorem dr.less{l:Addr}{o:AO}(S:dr (B.put l o) su sd li ad rs H)(hB:B l=none):dr B su sd li ad rs H:=by
 have e:∀ {a x},B a=some x->(B.put l o) a=some x:=fun {a x} z=>(aj _ _ (fun y=>by rw[y,hB]at z;(exact ax z))).trans z
 exact S.jV (fun a x z=>S.R.base a x (e z)) (fun a=>by
  cases z:B a with
  |none=>exact .inl rfl
  |some x=>exact .inr (S.own (e z))) fun a x z _=>z
theorem dr.re{l:Addr}{o:AO}(S:dr (B.put l o) su sd li ad rs H)(o':AO):dr (B.put l o') su sd li ad rs (H.put l o'):=by
 have q:=S.own (al B l o)
 refine S.jV (fun a x z=>?_) (fun a=>?_) fun a x z h=>?_
 ·by_cases y:a=l
  ·(clear q S o;subst y);rw[al]at z⊢;exact z
  ·rw[aj _ _ y]at z⊢
   exact S.R.base a x ((aj _ _ y).trans z)
 ·by_cases y:a=l
  ·(clear S o;subst y);exact .inr q
  ·rw[aj _ _ y]
   cases z:B a with
   |none=>exact .inl rfl
   |some x=>exact .inr (S.own ((aj _ _ y).trans z))
 ·rw[aj _ _ (fun y=>?_)]
  ·exact z
  ·clear z S o;subst y
   rcases h with h|h|h|⟨r,hr,h|h⟩
   ·exact q.1 h
   ·exact q.2.1 h
   ·exact q.2.2.1 h
   ·exact(q.2.2.2 r hr).1 h
   ·exact(q.2.2.2 r hr).2 h
theorem Wl:True:=by
 k_with"wf"=>(first|(with_reducible first|exact IG|exact IE)|fail)
 trivial
theorem Wk:True:=by
 k_with"we"=>(first|((focus((guard_target =~ WE _ _ _ _ (.Call (.Attribute (.Name ("self":Str) _) _ _) _ [] _) _ _ _);refine' qm (WE.name rfl (NR.of (x:=_) (C:=_) (dx:=_) (f:=_) (as:=_) ?_ ?_ ?_ ?_ ?_));rotate_right 5;(· k_extra"hfr");(· k_extra"hfr");(· (first|with_reducible assumption|exact rfl));(· k_extra"wf"))))|fail)
 trivial
theorem Wj:True:=by
 k_with"wk"=>(first|(first|(refine' WE.cp CQ Ji ?_)|(refine' WE.cp CP Jg ?_))|fail)
 trivial
noncomputable def Tm.met(place:Str)(goal chunk:Int)(t:Tm)(rs:List Rec):List Rec:=match t with
 |.v k=>c9 k (place++"_arg") goal chunk 1 rs
 |t=>cV place goal chunk t t.vars rs
theorem Gu{place:Str}{goal chunk:Int}{t:Tm}{rs:List Rec}(h:t.tA=false):t.met place goal chunk rs=cV place goal chunk t t.vars rs:=by cases t<;>first|rfl|(exact dH h)
theorem rH(place:Str)(goal chunk:Int)(t:Tm)(r:List Tm)(rs:List Rec):cM place goal chunk (t::r) rs=cM place goal chunk r (t.met place goal chunk rs):=by cases t<;>rfl
theorem Tm.E2(t:Tm):(∃k,t=.v k)∨t.tA=false:=by cases t<;>simp[Cb,Cd,Cc,Ax,Aw]
theorem Q5:(Str.ofString "_arg").length=4:=by decide +kernel
theorem A4:(Str.ofString "_struct").length=7:=by decide +kernel
theorem rG{B su sd li ad rs}(S:dr B su sd li ad rs H)(ts:List Tm)(hz:∀t∈ts,t.size<=400)(place:Str)(hp:place.length<=100)(goal chunk:Int){Q:AQ}(h:∀Fc H',dr B su sd li Fc (cM place goal chunk ts rs) H'->Q .none H'):
 WC e.G (D+4) (.ref 573) [.ref su,.tup (ts.map Tm.av),.str place,.int goal,.int chunk] H Q:=by
 refine bj (ns:=["self","terms","place","goal","chunk"]) (by kernel_rfl) (by kernel_rfl) rfl (C6 (by intro x y z u v;kernel_rfl)) ?_
 k_extra"norm_m"
 k_extra"wg"
 refine jG (WE.name rfl ⟨_,rfl,?_⟩)
 refine dS.rule (fun au m' H'=>∃xo Fc,Sub [("self",.ref su),("place",.str place),("goal",.int goal),("chunk",.int chunk)] m'/\dr B su sd li Fc xo H'/\cM place goal chunk au xo=cM place goal chunk ts rs/\∀t∈au,t.size<=400) (fun t au m1 H1 I kp=>?_) (fun m1 H1 I kp=>?_) ts trivial ⟨rs,ad,by k_extra"sb",S,rfl,hz⟩
 ·refine el (I) fun uT Au i1 S1 e1 z1=>?_;clear I
  refine WS.weak (m':=[("term",t.av),("self",.ref su),("place",.str place),("goal",.int goal),("chunk",.int chunk)]) (Sub.cons rfl (Sub.cons (i1 _ _ rfl) (Sub.cons (i1 _ _ rfl) (Sub.cons (i1 _ _ rfl) (Sub.cons (i1 _ _ rfl) Sub.nil))))) ?_
  rw[rH]at e1
  have d1:=S1.hu
  have d2:=S1.hs
  have zt:=z1 t (.head _)
  have z2:∀t∈au,t.size<=400:=fun t ht=>z1 t (.tail _ ht)
  clear z1;rcases t.E2 with⟨k,rfl⟩|hV
  ·k_extra"wg"
   refine xJ (by rw[Q5];exact MY hp) ?_
   k_extra"wg"
   refine qG S1 k (place++"_arg") goal chunk 1 fun Ou H2 S2=>?_
   k_extra"wg"
   exact⟨trivial,_,Ou,by k_extra"sb",S2,e1,z2⟩
  ·rw[Gu hV]at e1
   k_extra"wg"
   refine Bd t (by exact d6 ‹_› (cm rfl)) fun lc H2 es kt h2 XP F2=>?_
   have S2:=S1.ext kt F2 h2
   have BL:B lc=none:=by
    cases q:B lc with
    |none=>rfl
    |some o=>rw[S1.R.base _ _ q]at kt;(exact bg kt)
   clear S1 d1 d2
   have d1:=S2.hu
   have d2:=S2.hs
   k_extra"wg"
   refine mA ?_
   k_extra"wg"
   refine AR t (by exact MX zt) fun lv H3 xt h3 F3=>?_
   have S3:=S2.ext xt F3 h3
   have Sy:(B.put lc (.aB es)) lv=none:=by
    cases q:(B.put lc (.aB es)) lv with
    |none=>rfl
    |some o=>rw[S2.R.base _ _ q]at xt;(exact bg xt)
   refine⟨lv,_,rfl,h3,fun ob=>?_⟩
   have eG:lc≠lv:=fun z=>by rw[←z,al]at Sy;(exact bg Sy)
   have S4:=S3.re (.ro (.list (t.vars.map fun k=>.int (vi k))) ob)
   clear S2 S3
   refine dS.rule (f:=fun k=>AV.int (vi k)) (fun f0 m' H'=>∃xo Fc,Sub [("self",.ref su),("place",.str place),("goal",.int goal),("chunk",.int chunk),("counts",.ref lc),("term",t.av)] m'/\dr ((B.put lc (.aB es)).put lv (.ro (.list (t.vars.map fun k=>.int (vi k))) ob)) su sd li Fc xo H'/\cV place goal chunk t f0 xo=cV place goal chunk t t.vars uT/\∀k∈f0,k∈t.occs) (fun k f0 m2 H4 I kp=>?_) (fun m2 H4 I kp=>?_) t.vars (al _ _ _) ⟨uT,Au,by k_extra"sb",S4,rfl,fun k hk=>(y5 t).mp hk⟩
   ·refine el (I) fun SQ Ou i2 S5 e2 oc=>?_;clear I
    refine WS.weak (m':=[("k",.int (vi k)),("self",.ref su),("place",.str place),("goal",.int goal),("chunk",.int chunk),("counts",.ref lc),("term",t.av)]) (Sub.cons rfl (Sub.cons (i2 _ _ rfl) (Sub.cons (i2 _ _ rfl) (Sub.cons (i2 _ _ rfl) (Sub.cons (i2 _ _ rfl) (Sub.cons (i2 _ _ rfl) (Sub.cons (i2 _ _ rfl) Sub.nil))))))) ?_
    have d1:=S5.hu
    have d2:=S5.hs
    have d3:H4 lc=some (.aB es):=S5.R.base _ _ ((aj _ _ eG).trans (al _ _ _))
    k_extra"wg"
    refine xJ (by rw[A4];exact MW hp) ?_
    k_extra"wg"
    refine WI.aB d3 rfl (XP k (oc k (.head _))) ?_
    k_extra"wg"
    refine qG S5 k (place++"_struct") goal chunk (t.occs.count k) fun Yl H5 S6=>?_
    k_extra"wg"
    exact⟨S6.R.base _ _ (al _ _ _),_,Yl,by k_extra"sb",S6,e2,fun j hj=>oc j (.tail _ hj)⟩
   ·refine el (I) fun SQ Ou i2 S5 e2 oc=>?_;clear I
    have S6:=(S5.close Sy (.list (t.vars.map fun k=>.int (vi k)))).less BL
    k_extra"wg"
    exact⟨trivial,_,Ou,Sub.cons (i2 _ _ rfl) (Sub.cons (i2 _ _ rfl) (Sub.cons (i2 _ _ rfl) (Sub.cons (i2 _ _ rfl) Sub.nil))),S6,by rw[show SQ=cV place goal chunk t t.vars uT from e2];exact e1,z2⟩
 ·refine el (I) fun uT Au i1 S1 e1 z1=>?_;clear I
  refine WS.nil ?_
  exact h Au H1 (e1▸S1)
noncomputable def aP(rs:List Rec)(k:V8):Rec:=(rs.find? fun r=>decide (r.k=k)).getD (Rec.new k "")
noncomputable def iy(r:Rec):Kind:=if r.count=1 then .void else if r.fc<r.lc then .perm else .rI
noncomputable def Ca:List V8:=[0,1,2,3,4,5,6,7]
noncomputable def gL(rs:List Rec):List V8:=Ca.filter fun k=>bS k rs
noncomputable def jo(f:V8->Int)(l:Int)(aF:List V8):Nat->Nat
 |0=>0
 |n+1=>if f (aF.getD n 0)<l then jo f l aF n else n+1
noncomputable def hY(aF:List V8)(n:Nat)(k:V8):List V8:=aF.take n++k::aF.drop n
noncomputable def cD(rs:List Rec)(aF:List V8)(k:V8):List V8:=
 if(aP rs k).kind=.perm then hY aF (jo (fun j=>(aP rs j).last) (aP rs k).last aF aF.length) k else aF
noncomputable def dY(rs:List Rec)(ks:List V8)(aF:List V8):List V8:=ks.foldl (cD rs) aF
noncomputable def eK(f:V8->Int)(i:Int):List V8->Nat
 |[]=>0
 |k::r=>if i<f k then eK f i r+1 else 0
theorem vl:∀f i,eK f i []=0:=fun _ _=>rfl
theorem vm:∀f i k r,eK f i (k::r)=if i<f k then eK f i r+1 else 0:=fun _ _ _ _=>rfl
noncomputable def fN(n:Int)(r:Rec):Rec:={ r with slot:=n,AU:=r.first==("goal_arg":Str) }
noncomputable def fu:List V8->Int->List Rec->List Rec
 |[],_,rs=>rs
 |k::r,n,rs=>fu r (n+1) (jU k (fN (n+1)) rs)
theorem Hs:∀n rs,fu [] n rs=rs:=fun _ _=>rfl
theorem Ht:∀k r n rs,fu (k::r) n rs=fu r (n+1) (jU k (fN (n+1)) rs):=fun _ _ _ _=>rfl
noncomputable def cw(g:Goal)(i chunk:Int)(rs:List Rec):List Rec:=match g with
 |.level k=>c9 k "special" i chunk 1 rs
 |.mark k=>c9 k "special" i chunk 1 rs
 |.eA k=>c9 k "special" i chunk 1 rs
 |_=>rs
noncomputable def dt:List Goal->Int->Int->List Rec->List Rec
 |[],_,_,rs=>rs
 |g::r,i,chunk,rs=>dt r (i+1) (if g.isCall then chunk+1 else chunk) (cM "goal" i chunk g.bV (cw g i chunk rs))
theorem v8:∀i c rs,dt [] i c rs=rs:=fun _ _ _=>rfl
theorem v9:∀g r i c rs,dt (g::r) i c rs=dt r (i+1) (if g.isCall then c+1 else c) (cM "goal" i c g.bV (cw g i c rs)):=fun _ _ _ _ _=>rfl
noncomputable def cr:List Goal->Bool
 |[]=>false
 |[_]=>false
 |g::r=>g.isCall||cr r
theorem yZ:cr []=false:=rfl
theorem yY:∀g,cr [g]=false:=fun _=>rfl
theorem y0:∀g h r,cr (g::h::r)=(g.isCall||cr (h::r)):=fun _ _ _=>rfl
noncomputable def gZ(ai:List Tm)(ag:List Goal):List Rec:=dt ag 0 0 (cM "head" (-1) 0 ai [])
noncomputable def fM(r:Rec):Rec:={ r with kind:=iy r }
noncomputable def fx:List V8->List Rec->List Rec
 |[],rs=>rs
 |k::r,rs=>fx r (jU k fM rs)
theorem IP:∀rs,fx [] rs=rs:=fun _=>rfl
theorem IQ:∀k r rs,fx (k::r) rs=fx r (jU k fM rs):=fun _ _ _=>rfl
noncomputable def dB(ai:List Tm)(ag:List Goal):List Rec:=fx ((gZ ai ag).map (·.k)) (gZ ai ag)
noncomputable def bO(ai:List Tm)(ag:List Goal):List V8:=dY (dB ai ag) (gL (dB ai ag)) []
noncomputable def cL(ai:List Tm)(ag:List Goal):List Rec:=fu (bO ai ag) 0 (dB ai ag)
noncomputable def fw(ai:List Tm)(ag:List Goal):aX:=
 let rs:=cL ai ag
 let ord:=bO ai ag
 { pc:=fun k=>bS k rs,kind:=fun k=>(aP rs k).kind,slot:=fun k=>(aP rs k).slot,AU:=fun k=>(aP rs k).AU,last:=fun k=>(aP rs k).last,
   fh:=cr ag,size:=ord.length,live:=(List.range ag.length).map fun (i:Nat)=>((eK (fun k=>(aP rs k).last) (i:Int) ord:Nat):Int) }
theorem du{rs:List Rec}{k:V8}(h:bS k rs=true):aP rs k∈rs/\(aP rs k).k=k:=by
 refine aA (bK.mp h) fun r hr e=>?_
 unfold aP
 cases q:rs.find? fun r=>decide (r.k=k)with
 |none=>exact absurd e (by simpa using List.find?_eq_none.mp q r hr)
 |some x=>
  have h1:=List.mem_of_find?_eq_some q
  have h2:=List.find?_some q
  exact⟨h1,by simpa using h2⟩
theorem f8{k j:V8}{f:Rec->Rec}(hf:∀r,(f r).k=r.k)(rs:List Rec):bS j (jU k f rs)=bS j rs:=by
 unfold bS jU
 rw[List.any_map]
 congr 1
 funext r
 show decide ((if r.k=k then f r else r).k=j)=_
 split
 ·rw[hf]
 ·rfl
theorem gF{k j:V8}{f:Rec->Rec}(hf:∀r,(f r).k=r.k):∀ (rs:List Rec),bS j rs=true->aP (jU k f rs) j=if j=k then f (aP rs j)else aP rs j:=by
 intro zz
 induction zz with
 |nil=>
  intro h
  simp[bS]at h
 |cons r rs ih=>
  intro h
  unfold aP jU
  rw[List.map_cons,List.find?_cons,List.find?_cons]
  have e1:(if r.k=k then f r else r).k=r.k:=by split;exact hf r;rfl
  rw[e1]
  by_cases q:r.k=j
  ·rw[decide_eq_true q]
   dsimp only[Option.getD_some]
   rw[q]
  ·rw[decide_eq_false q]
   dsimp only
   have h':bS j rs=true:=by
    rw[bK]at h⊢
    refine aA (h) fun x hx e=>?_;clear h
    clear e1 ih hf f k;rcases de hx with rfl|hx
    ·exact absurd e q
    ·exact⟨x,hx,e⟩
   exact ih h'
theorem wJ(r:Rec){ik dk:Addr}(h1:H ik=some (.inst 478 dk))(h2:H dk=some (.attrs r.attrs)){Q:AQ}(h:Q (.str (hO (iy r))) H):WC e.G (D+1) (.ref 587) [.ref ik] H Q:=by
 refine bj (ns:=["info"]) (by kernel_rfl) (by kernel_rfl) rfl (gx (by intro x;kernel_rfl)) ?_
 k_extra"norm_m"
 k_extra"wg"
 all_goals
  unfold iy at h
  simp only[*,↓reduceIte]at h
  exact h
theorem B3:nsIn e.G.K mainGlobals ("sorted":Str)=some none:=by kernel_rfl
theorem z7:bootBuiltins ("sorted":Str)=some (.builtin "sorted"):=by kernel_rfl
theorem Wi:True:=by
 k_with"wk"=>(first|((refine' jQ B3 z7 (by decide) ?_))|fail)
 trivial
theorem y6:∀k:V8,k∈Ca:=by decide
theorem sB{rs:List Rec}(nd:(rs.map (·.k)).Nodup){ns:List Int}{ad:V8->Addr×Addr}(hp:ns.Perm ((rs.map fun r=>(vi r.k,AV.ref (ad r.k).1)).map (·.1)))(hs:ns.Pairwise (·<=·)):ns=(gL rs).map vi:=by
 refine lks_uniq (hp.trans ?_) hs ?_
 ·rw[List.map_map]
  have e:(rs.map ((fun x=>x.1) ∘ fun r=>(vi r.k,AV.ref (ad r.k).1)))=(rs.map (·.k)).map vi:=by rw[List.map_map];rfl
  rw[e]
  refine List.Perm.map _ ((List.perm_ext_iff_of_nodup nd ?_).mpr fun k=>?_)
  ·exact List.Nodup.sublist List.filter_sublist (by decide)
  ·unfold gL
   rw[List.mem_filter,bK,List.mem_map]
   constructor
   ·intro ak;refine aA (ak) fun r hr cu=>?_;clear ak;subst cu
    exact⟨y6 _,r,hr,rfl⟩
   ·intro ak;refine sU (ak) fun _ r hr cu=>?_;clear ak;subst cu
    exact⟨r,hr,rfl⟩
 ·rw[List.pairwise_map]
  refine List.Pairwise.sublist List.filter_sublist ?_
  decide
structure Fe(rs:List Rec)(li lo:Addr)(lk:Addr)(ob:Obj)(H:ah)(ks:List V8)(m:bP)(H':ah):Prop where
 go:∃aF,H' lo=some (.list (aF.map fun k=>.int (vi k)))/\dY rs ks aF=dY rs (gL rs) []/\(∀k∈aF,bS k rs=true)/\aF.length+ks.length<=8
 ks:∀k∈ks,bS k rs=true
 i:m.lookup ("infos":Str)=some (.ref li)
 o:m.lookup ("order":Str)=some (.ref lo)
 fr:∀a o,H a=some o->H' a=some o
 k:H' lk=some (.ro (.list ((gL rs).map fun k=>.int (vi k))) ob)
theorem qr{B:ah}{li ad rs}(R:cz B li ad rs H){Q:AQ}(h:∀lo H',H lo=none->H' lo=some (.list ((dY rs (gL rs) []).map fun k=>.int (vi k)))->ao [] H H'->Q (.ref lo) H'):WC e.G (D+1) (.ref 594) [.ref li] H Q:=by
 refine bj (ns:=["infos"]) (by kernel_rfl) (by kernel_rfl) rfl (gx (by intro x;kernel_rfl)) ?_
 k_extra"norm_m"
 k_extra"wg"
 intro lo iQ
 k_extra"wg"
 refine mA ?_
 k_extra"wg"
 have n1:li≠lo:=fun z=>by subst z;rw[R.li]at iQ;(exact bg iQ)
 have Fz:(H.put lo (.list [])) li=some (.aB (rs.map fun r=>(vi r.k,.ref (ad r.k).1))):=(aj _ _ n1).trans R.li
 refine D9 Fz (by have:=R.len;simp;exact MV this) fun lk ns wO hp hs=>?_
 have XB:=sB R.nd hp hs
 clear Fz n1;subst XB
 clear hp hs
 have n2:lk≠lo:=fun z=>by(clear iQ h R rs ad li;subst z);simp at wO
 have sE:H lk=none:=by rw[aj _ _ n2]at wO;exact wO
 rw[List.map_map]
 refine⟨lk,_,rfl,al _ _ _,fun ob=>?_⟩
 have out:∀ {a:Addr} {o:AO},H a=some o->a≠lo/\a≠lk:=fun q=>⟨fun z=>(by rw[z,iQ]at q;(exact ax q)),fun z=>(by rw[z,sE]at q;(exact ax q))⟩
 refine dS.rule (f:=fun k=>AV.int (vi k)) (fun ks m' H'=>Fe rs li lo lk ob H ks m' H') (fun k ks m1 H1 I kp=>?_) (fun m1 H1 I kp=>?_) (gL rs) (al _ _ _) ?_
 ·obtain⟨⟨aF,h1,h2,h3,h4⟩,hk,i1,i2,fr,ik⟩:=I
  refine WS.weak (m':=[("k",.int (vi k)),("infos",.ref li),("order",.ref lo)]) (Sub.cons rfl (Sub.cons i1 (Sub.cons i2 Sub.nil))) ?_
  have Oj:=hk k (.head _)
  refine bh (du Oj) fun rm rk=>?_
  refine bh (R.rc _ rm) fun r1 r2=>?_
  rw[rk]at r1 r2
  have Vb:=fr _ _ r1
  have Va:=fr _ _ r2
  have PH:=fr _ _ R.li
  have VX:=eh (ad:=ad) (bK.mp Oj)
  k_extra"wg"
  refine WI.aB PH rfl VX ?_
  k_extra"wg"
  have e2:dY rs (k::ks) aF=dY rs ks (cD rs aF k):=rfl
  rw[e2]at h2
  simp only[fi]at h4
  have QE:∀k∈ks,bS k rs=true:=fun j hj=>hk j (.tail _ hj)
  have skip:(aP rs k).kind≠.perm->Fe rs li lo lk ob H ks [("info",.ref (ad k).1),("k",.int (vi k)),("infos",.ref li),("order",.ref lo)] H1:=fun hn=>by
   unfold cD at h2
   rw[if_neg hn]at h2
   exact⟨⟨aF,h1,h2,h3,by exact Nat.le_of_lt ‹_›⟩,QE,rfl,rfl,fr,ik⟩
  cases hq:(aP rs k).kind with
  |void=>
   rw[show(hO Kind.void==Str.ofString "perm")=false from by decide +kernel]
   k_extra"wg"
   exact⟨kp,skip (by rw[hq];decide)⟩
  |rI=>
   rw[show(hO Kind.rI==Str.ofString "perm")=false from by decide +kernel]
   k_extra"wg"
   exact⟨kp,skip (by rw[hq];decide)⟩
  |perm=>
   rw[show(hO Kind.perm==Str.ofString "perm")=true from by decide +kernel]
   unfold cD at h2
   rw[if_pos hq]at h2
   clear skip
   k_extra"wg"
   rw[List.length_map]
   have fin:∀n,n<=aF.length->jo (fun j=>(aP rs j).last) (aP rs k).last aF aF.length=n->∀m':bP,m'.lookup ("infos":Str)=some (.ref li)->m'.lookup ("order":Str)=some (.ref lo)->
    (H1.put lo (.list ((aF.map fun k=>AV.int (vi k)).take n++.int (vi k)::(aF.map fun k=>AV.int (vi k)).drop n))) lk=some (.ro (.list ((gL rs).map fun k=>.int (vi k))) ob)/\Fe rs li lo lk ob H ks m' (H1.put lo (.list ((aF.map fun k=>AV.int (vi k)).take n++.int (vi k)::(aF.map fun k=>AV.int (vi k)).drop n))):=fun n hn e m' a1 a2=>by
    rw[e]at h2
    have kk:(H1.put lo (.list ((aF.map fun k=>AV.int (vi k)).take n++.int (vi k)::(aF.map fun k=>AV.int (vi k)).drop n))) lk=some (.ro (.list ((gL rs).map fun k=>.int (vi k))) ob):=(aj _ _ n2).trans ik
    refine⟨kk,⟨⟨hY aF n k,?_,h2,fun j hj=>?_,?_⟩,QE,a1,a2,fun a o q=>(aj _ _ (out q).1).trans (fr a o q),kk⟩⟩
    ·rw[al]
     simp[hY,List.map_take,List.map_drop]
    ·unfold hY at hj
     clear kk a2 hq QE e2 PH Va Vb h4 h2 h1 ik fr i2 kp H1 out ob sE n2 wO lk iQ lo h R;rcases List.mem_append.mp hj with hj|hj
     ·exact h3 j (List.mem_of_mem_take hj)
     ·rcases de hj with rfl|hj
      ·exact Oj
      ·exact h3 j (List.mem_of_mem_drop hj)
    ·simp only[hY,List.length_append,fi,List.length_take,List.length_drop]
     exact MU h4
   refine d7 ⟨aF.length+1,fT.rule (fun n m' H'=>H'=H1/\n<=aF.length/\Sub [("info",.ref (ad k).1),("k",.int (vi k)),("infos",.ref li),("order",.ref lo),("at",.int n)] m'/\jo (fun j=>(aP rs j).last) (aP rs k).last aF n=jo (fun j=>(aP rs j).last) (aP rs k).last aF aF.length) ?_ aF.length ⟨rfl,Nat.le_refl _,by k_extra"sb",rfl⟩⟩
   intro n;intro m2;intro H2;intro ak;refine gU (ak) fun cu hn i5 hb=>?_;clear ak;(clear ik kp;subst cu)
   refine WT.weak i5 ?_
   k_extra"wg"
   ·refine aY ((⟨n-1,by exact MT a⟩:∃j,n=j+1)) fun n ak=>?_;(clear a;subst ak)
    have iP:n<aF.length:=by(assumption)
    have XN:aF.getD n 0=aF[n]:=by simp[List.getD,iP]
    have ia:aF[n]∈aF:=List.getElem_mem iP
    have hj:=h3 _ ia
    refine bh (du hj) fun jm jk=>?_
    refine bh (R.rc _ jm) fun j1 j2=>?_
    rw[jk]at j1 j2
    have YU:=fr _ _ j1
    have YT:=fr _ _ j2
    have lj:=eh (ad:=ad) (bK.mp hj)
    have Uc:jo (fun j=>(aP rs j).last) (aP rs k).last aF (n+1)=if(aP rs aF[n]).last<(aP rs k).last then jo (fun j=>(aP rs j).last) (aP rs k).last aF n else n+1:=by rw[←XN];rfl
    refine WI.list h1 rfl (by exact MS) (a:=.int (vi aF[n])) (by
     rw[show(((n+1:Nat):Int)-1).toNat=n from by exact MR]
     simp[iP]) (by simp;exact Am h4) ?_
    refine WI.aB PH rfl lj ?_
    k_extra"wg"
    ·refine⟨n,rfl,?_⟩
     refine WS.weak i5 ?_
     k_extra"wg"
     refine⟨rfl,by exact Nat.le_of_lt ‹_›,?_,?_⟩
     ·rw[show(((n+1:Nat):Int)-1)=(n:Int)from by exact MQ]
      exact Sub.cons rfl (by k_extra"sb")
     ·rw[←hb,Uc,if_pos ‹_›]
    ·refine WE.name (i5 _ _ rfl) ⟨lo,_,_,rfl,h1,rfl,WE.name (i5 _ _ rfl) (WE.name (i5 _ _ rfl) (xL h1 (by simp;(assumption)) (by simp;exact Am h4) ?_))⟩
     k_extra"wg"
     rw[Uc,if_neg ‹_›]at hb
     exact fin (n+1) hn hb.symm _ (i5 _ _ rfl) (i5 _ _ rfl)
   ·obtain rfl:n=0:=by exact MP a
    refine WE.name (i5 _ _ rfl) ⟨lo,_,_,rfl,h1,rfl,WE.name (i5 _ _ rfl) (WE.name (i5 _ _ rfl) (xL h1 (by exact Nat.zero_le _) (by simp;exact Am h4) ?_))⟩
    k_extra"wg"
    exact fin 0 (Nat.zero_le _) hb.symm _ (i5 _ _ rfl) (i5 _ _ rfl)
 ·obtain⟨⟨aF,h1,h2,h3,h4⟩,hk,i1,i2,fr,ik⟩:=I
  refine WS.weak (m':=[("order",.ref lo)]) (Sub.cons i2 Sub.nil) ?_
  k_extra"wg"
  have e3:dY rs [] aF=aF:=rfl
  rw[e3]at h2
  refine h lo _ iQ ?_ (fun a o q _=>(aj _ _ (out q).2).trans (fr a o q))
  rw[aj _ _ n2.symm,h1,h2]
 ·refine⟨⟨[],by k_extra"hp",rfl,(fun _ h=>bv h),?_⟩,fun k hk=>?_,rfl,rfl,fun a o q=>?_,al _ _ _⟩
  ·have:(gL rs).length<=8:=List.length_filter_le _ _
   simpa using this
  ·exact(List.mem_filter.mp hk).2
  ·refine bh (out q) fun a1 a2=>?_
   k_extra"hp"
theorem dS.range{x:Str}{body:List Stmt}{kp:Option (Addr×AO)}{Q:Fl->bP->ah->Prop}(N:Nat)(I:Nat->bP->ah->Prop)
 (step:∀i m H,i<N->I i m H->cA kp H->WS G D cs cl body ((x,.int i)::m) H (pZ (fun m' H'=>cA kp H'/\I (i+1) m' H') Q)) (fin:∀m H,I N m H->cA kp H->Q .next m H) {m:bP} {H:ah} (kh:cA kp H) (h:I 0 m H):
 dS G D cs cl x body kp Q (nS N) m H:=by
 have e:nS (N:Int)=(List.range' 0 N).map fun (i:Nat)=>AV.int (i:Int):=by
  unfold nS
  rw[List.range_eq_range']
  rfl
 have key:∀k i m H,i+k=N->I i m H->cA kp H->dS G D cs cl x body kp Q ((List.range' i k).map fun (i:Nat)=>AV.int (i:Int)) m H:=by
  intro k
  induction k with
  |zero=>intro i m H e h kp;exact fin m H (e▸h) kp
  |succ k ih=>
   intro i m H e h kp
   have e2:i+1+k=N:=by rw[←e,Nat.add_assoc,Nat.add_comm 1]
   refine(step i m H (by rw[←e];exact Nat.lt_add_of_pos_right (Nat.succ_pos _)) h kp).mono fun fl m' H' q=>?_
   cases fl with
   |next=>exact⟨q.1,ih (i+1) m' H' e2 q.2 q.1⟩
   |cont=>exact⟨q.1,ih (i+1) m' H' e2 q.2 q.1⟩
   |brk=>exact q
   |ret a=>exact q
 rw[e]
 exact key N 0 m H (Nat.zero_add N) h kh
theorem Iw:makesIn e.G.K 576=true:=by kernel_rfl
theorem Jo:findIn e.G.K (.ref 576) "__init__"=some (some (.ref 559)):=by kernel_rfl
theorem J9:isFn e.G.K (.ref 559)=true:=by kernel_rfl
theorem Ix:makesIn e.G.K 534=true:=by kernel_rfl
theorem Jp:findIn e.G.K (.ref 534) "__init__"=some (some (.ref 496)):=by kernel_rfl
theorem Ka:isFn e.G.K (.ref 496)=true:=by kernel_rfl
theorem HA:cJ e.G.K 534 ("infos":Str)=true:=by kernel_rfl
theorem Hz:cJ e.G.K 534 ("chunks":Str)=true:=by kernel_rfl
theorem Hy:cJ e.G.K 534 ("needs_env":Str)=true:=by kernel_rfl
theorem Hx:cJ e.G.K 534 ("env_size":Str)=true:=by kernel_rfl
theorem Hw:cJ e.G.K 534 ("live_after":Str)=true:=by kernel_rfl
theorem IX:nsIn e.G.K mainGlobals ("ClausePlan":Str)=some (some (.ref 534)):=by kernel_rfl
theorem PS:keepIn e.G.K (.ref 534)=true:=by kernel_rfl
theorem IV:nsIn e.G.K mainGlobals ("Survey":Str)=some (some (.ref 576)):=by kernel_rfl
theorem PO:keepIn e.G.K (.ref 576)=true:=by kernel_rfl
theorem IW:nsIn e.G.K mainGlobals ("chunk_numbers":Str)=some (some (.ref 545)):=by kernel_rfl
theorem PQ:keepIn e.G.K (.ref 545)=true:=by kernel_rfl
theorem Ja:nsIn e.G.K mainGlobals ("goal_terms":Str)=some (some (.ref 454)):=by kernel_rfl
theorem PV:keepIn e.G.K (.ref 454)=true:=by kernel_rfl
theorem IZ:nsIn e.G.K mainGlobals ("goal_special":Str)=some (some (.ref 461)):=by kernel_rfl
theorem PU:keepIn e.G.K (.ref 461)=true:=by kernel_rfl
theorem IU:nsIn e.G.K mainGlobals ("kind_of":Str)=some (some (.ref 587)):=by kernel_rfl
theorem PN:keepIn e.G.K (.ref 587)=true:=by kernel_rfl
theorem IT:nsIn e.G.K mainGlobals ("slot_order":Str)=some (some (.ref 594)):=by kernel_rfl
theorem PM:keepIn e.G.K (.ref 594)=true:=by kernel_rfl
theorem iE:nsIn e.G.K mainGlobals ("range":Str)=some none:=by kernel_rfl
theorem gD:bootBuiltins ("range":Str)=some (.type "range"):=by kernel_rfl
theorem Wh:True:=by
 k_with"wf"=>(first|(with_reducible first|exact HA|exact Hz|exact Hy|exact Hx|exact Hw)|fail)
 trivial
theorem Wg:True:=by
 k_with"wk"=>(first|(first|(refine' WE.cp IX PS ?_)|(refine' WE.cp IV PO ?_)|(refine' WE.cp IW PQ ?_)|(refine' WE.cp Ja PV ?_)|(refine' WE.cp IZ PU ?_)|(refine' WE.cp IU PN ?_)|(refine' WE.cp IT PM ?_)|(refine' ft iE gD (by decide) ?_))|fail)
 trivial
theorem sj{Q:AQ}(h:∀su sd li H',dr H su sd li (fun _=>(0,0)) [] H'->ao [] H H'->Q (.ref su) H'):WC e.G (D+2) (.ref 576) [] H Q:=by
 refine pM Iw Jo J9 fun x dx hx lI ne=>?_
 refine bj (ns:=["self"]) (by kernel_rfl) (by kernel_rfl) rfl (gx (by intro x;kernel_rfl)) ?_
 k_extra"norm_m"
 refine WS.cons (jH (nN fun li Fz=>?_))
 have n1:li≠x:=fun z=>by(clear ne hx;subst z);simp at Fz
 have n2:li≠dx:=fun z=>by(clear ne lI;subst z);simp[ah.put,n1]at Fz
 have JK:H li=none:=by simpa[ah.put,n1,n2]using Fz
 have out:∀ {a:Addr} {o:AO},H a=some o->a≠x/\a≠dx/\a≠li:=fun q=>⟨fun z=>(by rw[z,hx]at q;(exact ax q)),fun z=>(by rw[z,lI]at q;(exact ax q)),fun z=>(by rw[z,JK]at q;(exact ax q))⟩
 k_extra"wg"
 have old:∀a o,H a=some o->(((((H.put dx (.attrs [])).put x (.inst 576 dx)).put li (.aB [])).put dx (.attrs (kJ "infos" (.ref li) []))) a)=some o:=fun a o q=>by
  refine ci (out q) fun a1 a2 a3=>?_
  k_extra"hp"
 refine⟨rfl,h x dx li _ ⟨⟨old,JK,(fun r hr=>(bv hr)),by k_extra"hp",(fun r hr=>(bv hr)),List.nodup_nil,(fun r hr=>(bv hr))⟩,by k_extra"hp",by k_extra"hp",⟨hx,lI⟩,(fun r hr=>(bv hr))⟩ fun a o q _=>old a o q⟩
theorem wy(a1 a2 a3 a4 a5:AV){Q:AQ}(h:∀x dx H',H x=none->H dx=none->H' x=some (.inst 534 dx)->H' dx=some (.attrs [("infos",a1),("chunks",a2),("needs_env",a3),("env_size",a4),("live_after",a5)])->ao [] H H'->Q (.ref x) H'):WC e.G (D+2) (.ref 534) [a1,a2,a3,a4,a5] H Q:=by
 refine pM Ix Jp Ka fun x dx hx lI ne=>?_
 refine bj (ns:=["self","infos","chunks","needs_env","env_size","live_after"]) (by kernel_rfl) (by kernel_rfl) rfl (C0 (by intro x y z u v w;kernel_rfl)) ?_
 k_extra"norm_m"
 have out:∀ {a:Addr} {o:AO},H a=some o->a≠x/\a≠dx:=fun q=>⟨fun z=>(by rw[z,hx]at q;(exact ax q)),fun z=>(by rw[z,lI]at q;(exact ax q))⟩
 k_extra"wg"
 refine⟨rfl,h x dx _ hx lI (by k_extra"hp") (by k_extra"hp") fun a o q _=>?_⟩
 refine bh (out q) fun b1 b2=>?_
 k_extra"hp"
theorem sZ:∀ (gs:List Goal) (n:Int),(cF gs n).length=gs.length:=by
 intro zz
 induction zz with
 |nil=>
  intro _
  exact rfl
 |cons g r ih=>
  intro n
  simp[mo,mq,ih]
theorem sf(g:Goal)(r:List Goal):cr (g::r)=if r=[]then false else(g.isCall||cr r):=by cases r<;>rfl
structure NS(B:ah)(lg il su sd li:Addr)(ag:List Goal)(goal:List Rec)(i:Nat)(m:bP)(H':ah):Prop where
 go:∃rs ad c nb,dr B su sd li ad rs H'/\dt (ag.drop i) i c rs=goal/\(cF ag 0).drop i=cF (ag.drop i) c/\m.lookup ("needs_env":Str)=some (.bool nb)/\(nb||cr (ag.drop i))=cr ag
 s:Sub [("goals",.ref lg),("chunks",.ref il),("survey",.ref su)] m
theorem wB{aF:List V8}{n:Nat}{k j:V8}(h:j∈hY aF n k):j=k∨j∈aF:=by
 unfold hY at h
 rcases List.mem_append.mp h with h|h
 ·exact .inr (List.mem_of_mem_take h)
 ·rcases de h with h|h
  ·exact .inl h
  ·exact .inr (List.mem_of_mem_drop h)
theorem wI(aF:List V8)(n:Nat)(k:V8):(hY aF n k).length=aF.length+1:=by
 rw[hY,List.length_append,fi,←Nat.add_assoc,←List.length_append,List.take_append_drop]
theorem t9{rs:List Rec}{j:V8}:∀ {ks aF:List V8},j∈dY rs ks aF->j∈ks∨j∈aF:=by
 intro zz
 induction zz with
 |nil=>
  intro aF h
  exact .inr h
 |cons k ks ih=>
  intro aF h
  rcases ih h with h|h
  ·exact .inl (.tail _ h)
  ·unfold cD at h
   split at h
   ·rcases wB h with h|h
    ·exact .inl (h▸.head _)
    ·exact .inr h
   ·exact .inr h
theorem uh{rs:List Rec}:∀ (ks aF:List V8),(dY rs ks aF).length<=ks.length+aF.length:=by
 intro zz
 induction zz with
 |nil=>
  intro aF
  simp[dY]
 |cons k ks ih=>
  intro aF
  have:=ih (cD rs aF k)
  have h2:(cD rs aF k).length<=aF.length+1:=by
   unfold cD;split
   ·rw[wI];exact Nat.le_refl _
   ·exact Nat.le_add_right _ _
  show(dY rs ks (cD rs aF k)).length<=_
  simp only[fi];exact MO this h2
theorem r8{ai:List Tm}{ag:List Goal}{k:V8}(h:k∈bO ai ag):bS k (dB ai ag)=true:=by
 rcases t9 h with h|h
 ·exact(List.mem_filter.mp h).2
 ·cases h
theorem yJ(ai:List Tm)(ag:List Goal):(bO ai ag).length<=8:=by
 have:=uh (rs:=dB ai ag) (gL (dB ai ag)) []
 have h2:(gL (dB ai ag)).length<=8:=List.length_filter_le _ _
 show(dY _ _ _).length<=8
 simp at this;(exact d6 ‹_› ‹_›)
theorem rO:∀ (ks:List V8) (n:Int) (rs:List Rec),(fu ks n rs).map (·.k)=rs.map (·.k):=by
 intro zz
 induction zz with
 |nil=>
  intro _ _
  exact rfl
 |cons k ks ih=>
  intro n rs
  show(fu ks (n+1) (jU k (fN (n+1)) rs)).map (·.k)=_
  rw[ih,f7 (f:=fN (n+1)) (fun _=>rfl)]
theorem qa{k:V8}{rs xo:List Rec}(h:rs.map (·.k)=xo.map (·.k)):bS k rs=bS k xo:=by
 rw[Bool.eq_iff_iff,bK,bK]
 have e:∀l:List Rec,(∃r∈l,r.k=k)↔k∈l.map (·.k):=fun l=>by simp[List.mem_map]
 rw[e,e,h]
theorem r5{H:ah}{a:Addr}{o o':AO}:(H.put a o).put a o'=H.put a o':=by funext b;simp only[ah.put];split<;>rfl
structure Yq(B:ah)(lg il li lo lr:Addr)(ad:V8->Addr×Addr)(ai:List Tm)(ag:List Goal)(ob:Obj)(nb:Bool)(i:Nat)(m:bP)(H':ah):Prop where
 go:∃rs,cz B li ad rs H'/\fu ((bO ai ag).drop i) i rs=cL ai ag/\rs.map (·.k)=(dB ai ag).map (·.k)
 o:H' lo=some (.list ((bO ai ag).map fun k=>.int (vi k)))
 r:H' lr=some (.ro (.range (bO ai ag).length) ob)
 s:Sub [("goals",.ref lg),("chunks",.ref il),("infos",.ref li),("needs_env",.bool nb),("order",.ref lo)] m
set_option tactic.hygienic true in
theorem A5{H:ah}{a b:Addr}{x y:AO}(h:a≠b):(H.put a x).put b y=(H.put b y).put a x:=by
 funext c;simp only[ah.put]
 by_cases q1:c=b
 ·rw[if_pos q1];split
  ·rename_i q2;exact absurd (q2.symm.trans q1) h
  ·rfl
 ·rw[if_neg q1];split<;>rfl
structure Yr(B:ah)(lg il li:Addr)(ad:V8->Addr×Addr)(Fm:List Rec)(ob:Obj)(nb:Bool)(ks:List Rec)(m:bP)(H':ah):Prop where
 go:∃rs,cz B li ad rs (H'.put li (.aB (Fm.map fun r=>(vi r.k,.ref (ad r.k).1))))/\H' li=some (.ro (.aB (Fm.map fun r=>(vi r.k,.ref (ad r.k).1))) ob)/\fx (ks.map (·.k)) rs=fx (Fm.map (·.k)) Fm/\rs.map (·.k)=Fm.map (·.k)
 ks:∀r∈ks,r∈Fm
 s:Sub [("goals",.ref lg),("chunks",.ref il),("infos",.ref li),("needs_env",.bool nb)] m
theorem cz.held{B:ah}{li:Addr}{ad:V8->Addr×Addr}{rs:List Rec}{H:ah}{o:AO}(R:cz B li ad rs (H.put li o)){r:Rec}(hr:r∈rs):H (ad r.k).1=some (.inst 478 (ad r.k).2)/\H (ad r.k).2=some (.attrs r.attrs)/\(ad r.k).2≠li:=by
 refine bh (R.rc r hr) fun h1 h2=>?_
 have hl:=R.li
 have n1:(ad r.k).1≠li:=ay h1 hl (by simp)
 have n2:(ad r.k).2≠li:=ay h2 hl (by simp)
 exact⟨(aj _ _ n1).symm.trans h1,(aj _ _ n2).symm.trans h2,n2⟩
theorem cz.less{B B':ah}{li:Addr}{ad:V8->Addr×Addr}{rs:List Rec}{H:ah}(R:cz B' li ad rs H)(F:ao [] B B'):cz B li ad rs H:=by
 have n:∀ {a},B' a=none->B a=none:=fun {a} h=>by
  cases q:B a with
  |none=>rfl
  |some o=>rw[F a o q (by exact fun h=>bv h)]at h;(exact bg h)
 exact⟨fun a o q=>R.base a o (F a o q (by exact fun h=>bv h)),n R.fl,fun r hr=>⟨n (R.fr r hr).1,n (R.fr r hr).2⟩,R.li,R.rc,R.nd,R.inj⟩
theorem xW{l:Addr}{α:Type}{f:α->AV}{xs:List α}{Q:AQ}{G:Gl}(hl:H l=some (.list (xs.map f)))(hz:xs.length<=16000000)(q:Q (.int xs.length) H):WB G D (.builtin "len") [.ref l] H Q:=lK hl rfl (by simpa using hz) (by rw[List.length_map];exact q)
theorem EP{G:Gl}{cs:Scope}{cl:List (Str×Addr)}{m:bP}{Q:AQ}{n:Str}{p p1 p2:Pos}{as:List Expr}(h:WE G D cs cl (.Call (.Attribute (.Name ("survey":Str) p1) n p2) as [] p) m H Q):WE G D cs cl (.Call (.Attribute (.Name ("survey":Str) p1) n p2) as [] p) m H Q:=h
theorem Wf:True:=by
 k_with"we"=>(first|((focus((with_reducible refine EP ?_);refine' qm (WE.name rfl (NR.of (x:=_) (C:=_) (dx:=_) (f:=_) (as:=_) ?_ ?_ ?_ ?_ ?_));rotate_right 5;(· k_extra"hfr");(· k_extra"hfr");(· (first|with_reducible assumption|exact rfl));(· k_extra"wf"))))|fail)
 trivial
theorem JW:(Str.ofString "head").length=4:=by decide +kernel
theorem J7:(Str.ofString "goal").length=4:=by decide +kernel
theorem sY{lk:Addr}{ai:List Tm}{ag:List Goal}{count:Int}(K:ki H lk ai ag count)(hz:ag.length<=1000)(hh:∀t∈ai,t.size<=400)(hg:∀g∈ag,∀t∈g.bV,t.size<=400){Q:AQ}
 (h:∀lp dp li il xq ad H',H' lp=some (.inst 534 dp)->H' dp=some (.attrs [("infos",.ref li),("chunks",.ref il),("needs_env",.bool (fw ai ag).fh),("env_size",.int (fw ai ag).size),("live_after",.ref xq)])->cz H li ad (cL ai ag) H'->H' xq=some (.list ((fw ai ag).live.map AV.int))->ao [] H H'->Q (.ref lp) H'):
 WC e.G (D+6) (.ref 601) [.ref lk] H Q:=by
 refine aE (K.go) fun dk lg k1 k2 k3=>?_
 refine bj (ns:=["kernel"]) (by kernel_rfl) (by kernel_rfl) rfl (gx (by intro x;kernel_rfl)) ?_
 k_extra"norm_m"
 k_extra"wg"
 refine xi ag hz k3 fun il H1 JL h1 F1=>?_
 k_extra"wg"
 refine sj fun su sd li H2 S2 F2=>?_
 have Jk:=F2 _ _ (F1 _ _ k1 (by exact fun h=>bv h)) (by exact fun h=>bv h)
 have Je:=F2 _ _ (F1 _ _ k2 (by exact fun h=>bv h)) (by exact fun h=>bv h)
 have d1:=S2.hu
 have d2:=S2.hs
 k_extra"wg"
 refine⟨_,rfl,?_⟩
 k_extra"wg"
 refine rG S2 ai hh "head" (by rw[JW];(exact Nat.le_add_left _ _)) (-1) 0 fun Au H3 S3=>?_
 have b1:∀a o,H1 a=some o->H3 a=some o:=S3.R.base
 have zr:=b1 _ _ (F1 _ _ k3 (by exact fun h=>bv h))
 have cP:=b1 _ _ h1
 clear d1 d2 Jk Je S2 F2
 refine WS.cons (W1.assign (nO ?_))
 refine WS.seq (fun m4 H4=>∃qk,dr H1 su sd li qk (gZ ai ag) H4/\Sub [("goals",.ref lg),("chunks",.ref il),("survey",.ref su),("needs_env",.bool (cr ag))] m4) ?_ ?_
 ·refine xU (ft iE gD (by decide) (jQ pj jn (by decide) (WE.name rfl (xW zr (by exact kZ hz) (WB.range fun lr g9=>⟨lr,ag.length,rfl,al _ _ _,Int.natCast_nonneg _,by lia,fun ob=>?_⟩)))))
  have S4:=(S3.ext (o:=.range ag.length) g9 (ao.new g9) (al _ _ _)).re (.ro (.range ag.length) ob)
  have Bl:H1 lr=none:=by
   cases q:H1 lr with
   |none=>rfl
   |some o=>rw[b1 _ _ q]at g9;(exact bg g9)
  have n1:lg≠lr:=fun z=>by rw[z,g9]at zr;(exact ax zr)
  have n2:il≠lr:=fun z=>by rw[z,g9]at cP;(exact ax cP)
  have g1:(H1.put lr (.ro (.range ag.length) ob)) lg=some (.list (ag.map Goal.av)):=(aj _ _ n1).trans (F1 _ _ k3 (by exact fun h=>bv h))
  have g2:(H1.put lr (.ro (.range ag.length) ob)) il=some (.list ((cF ag 0).map AV.int)):=(aj _ _ n2).trans h1
  refine dS.range ag.length (NS (H1.put lr (.ro (.range ag.length) ob)) lg il su sd li ag (gZ ai ag)) (fun i m5 H5 hi I kp=>?_) (fun m5 H5 I kp=>?_) (al _ _ _) ⟨⟨_,Au,0,false,S4,rfl,rfl,rfl,rfl⟩,by k_extra"sb"⟩
  ·obtain⟨⟨rs,So,c,nb,S5,e1,e2,i1,e3⟩,i2⟩:=I
   refine WS.weak (m':=[("at",.int i),("goals",.ref lg),("chunks",.ref il),("survey",.ref su),("needs_env",.bool nb)]) (Sub.cons rfl (Sub.cons (i2 _ _ rfl) (Sub.cons (i2 _ _ rfl) (Sub.cons (i2 _ _ rfl) (Sub.cons i1 Sub.nil))))) ?_
   have hd:ag.drop i=ag[i]::ag.drop (i+1):=List.drop_eq_getElem_cons hi
   have AH:ag[i]?=some ag[i]:=List.getElem?_eq_getElem hi
   have gm:ag[i]∈ag:=List.getElem_mem hi
   generalize ag[i]=g at hd AH gm
   rw[hd]at e1 e2 e3
   have hx:(ag.map Goal.av)[(i:Int).toNat]?=some g.av:=by simp[AH]
   have AG:(ag.map Goal.av).length<=16000000:=by simp;exact kZ hz
   have T6:((cF ag 0).map AV.int).length<=16000000:=by rw[List.length_map,sZ];exact kZ hz
   have J2:(cF ag 0)[i]?=some c:=by
    have:((cF ag 0).drop i)[0]?=some c:=by rw[e2];rfl
    simpa using this
   have T7:((cF ag 0).map AV.int)[(i:Int).toNat]?=some (.int c):=by simp[J2]
   have e4:(cF ag 0).drop (i+1)=cF (ag.drop (i+1)) (if g.isCall then c+1 else c):=by
    have:(cF ag 0).drop (i+1)=((cF ag 0).drop i).drop 1:=by rw[List.drop_drop]
    rw[this,e2];rfl
   have e5:dt (ag.drop (i+1)) (i+1:Nat) (if g.isCall then c+1 else c) (cM "goal" i c g.bV (cw g i c rs))=gZ ai ag:=by rw[←e1];rfl
   have l1:∀ {H' ad rs},dr (H1.put lr (.ro (.range ag.length) ob)) su sd li ad rs H'->H' lg=some (.list (ag.map Goal.av)):=fun S=>S.R.base _ _ g1
   have l2:∀ {H' ad rs},dr (H1.put lr (.ro (.range ag.length) ob)) su sd li ad rs H'->H' il=some (.list ((cF ag 0).map AV.int)):=fun S=>S.R.base _ _ g2
   clear S3 S4 zr cP kp
   have q1:=l1 S5
   have q2:=l2 S5
   k_extra"wg"
   refine WI.list q1 rfl (Int.natCast_nonneg i) hx AG ?_
   k_extra"wg"
   refine oP g ?_
   refine WS.seq (fun m6 H6=>∃vV,dr (H1.put lr (.ro (.range ag.length) ob)) su sd li vV (cw g i c rs) H6/\Sub [("goal",g.av),("at",.int i),("goals",.ref lg),("chunks",.ref il),("survey",.ref su),("needs_env",.bool nb)] m6) ?_ ?_
   ·have d1:=S5.hu
    have d2:=S5.hs
    have sp:∀ (k:V8),g.special=vi k->cw g i c rs=c9 k "special" i c 1 rs->WC e.G (D+5) (.ref 566) [.ref su,.int g.special,.str ("special":Str),.int i,.int c,.int 1] H5 fun a H'=>∃vV,dr (H1.put lr (.ro (.range ag.length) ob)) su sd li vV (cw g i c rs) H':=fun k a1 a2=>by
     rw[a1,a2]
     exact qG S5 k "special" i c 1 fun vV H6 S6=>⟨vV,S6⟩
    have fin:∀ (m':bP) vV H',dr (H1.put lr (.ro (.range ag.length) ob)) su sd li vV (cw g i c rs) H'->Sub [("goal",g.av),("at",.int i),("goals",.ref lg),("chunks",.ref il),("survey",.ref su),("needs_env",.bool nb)] m'->Fl.next=Fl.next/\∃vV,dr (H1.put lr (.ro (.range ag.length) ob)) su sd li vV (cw g i c rs) H'/\Sub [("goal",g.av),("at",.int i),("goals",.ref lg),("chunks",.ref il),("survey",.ref su),("needs_env",.bool nb)] m':=fun m' vV H' a b=>⟨rfl,vV,a,b⟩
    by_cases hs:0<=g.special
    ·(clear e5 e4 hx gm AH hd e2 e1 k2 h hh K ai;obtain⟨k,a1,a2⟩:∃k,g.special=vi k/\cw g i c rs=c9 k "special" i c 1 rs:=by
       (clear fin sp q2 q1 l2 l1 i1 i2 g2 g1 n2 n1 Bl g9 b1 F1 h1 JL il k3 lg;cases g)<;>first|exact⟨_,rfl,rfl⟩|exact absurd hs (by decide)|(exfalso;simp[Goal.special]at hs))
     refine cT (WT.cmp (WE.name rfl (WE.int (ql (x:=true) (by simpa using hs) ?_))))
     k_extra"wg"
     refine WI.list q2 rfl (Int.natCast_nonneg i) T7 T6 ?_
     k_extra"wg"
     refine(sp k a1 a2).mono fun a H' ⟨vV,S6⟩=>?_
     k_extra"wg"
     exact fin _ vV H' S6 (by k_extra"sb")
    ·have a2:cw g i c rs=rs:=by
      (clear fin sp q2 q1 l2 l1 e5 e4 hx gm AH hd i1 e2 e1 i2 g2 g1 n2 n1 Bl g9 b1 F1 h1 JL il k3 k2 lg h hh K ai;cases g)<;>first|rfl|(exfalso;exact hs (hA _).1)
     refine cT (WT.cmp (WE.name rfl (WE.int (ql (x:=false) (by simpa using hs) ?_))))
     k_extra"wg"
     exact fin _ So H5 (by rw[a2];exact S5) (by k_extra"sb")
   ·intro m6;intro H6;intro ak;refine aA (ak) fun vV S6 i6=>?_;clear ak
    refine WS.weak i6 ?_
    have d1:=S6.hu
    have d2:=S6.hs
    have q2:=l2 S6
    clear S5
    k_extra"wg"
    refine qS g ?_
    k_extra"wg"
    refine WI.list q2 rfl (Int.natCast_nonneg i) T7 T6 ?_
    k_extra"wg"
    refine rG S6 g.bV (hg g gm) "goal" (by rw[J7];exact MN) i c fun Yk H7 S7=>?_
    have q3:=l1 S7
    clear S6 d1 d2
    have fin:∀ (m':bP) N8,m'.lookup ("needs_env":Str)=some (.bool N8)->(N8||cr (ag.drop (i+1)))=cr ag->Sub [("goals",.ref lg),("chunks",.ref il),("survey",.ref su)] m'->
     cA (some (lr,(AO.range ag.length).ro ob)) H7/\NS (H1.put lr (.ro (.range ag.length) ob)) lg il su sd li ag (gZ ai ag) (i+1) m' H7:=fun m' N8 a1 a2 a3=>⟨S7.R.base _ _ (al _ _ _),⟨⟨_,Yk,_,N8,S7,e5,e4,a1,a2⟩,a3⟩⟩
    rw[sf]at e3
    have hlen:(ag.drop (i+1)).length=ag.length-(i+1):=List.length_drop
    have c1:g.isCall=true->(i:Int)+1<((ag.map Goal.av).length:Int)->(true||cr (ag.drop (i+1)))=cr ag:=fun a1 a2=>by
     rw[List.length_map]at a2
     rw[←e3,if_neg (fun z=>by rw[z]at hlen;simp at hlen;exact MM hlen a2),a1]
     simp
    have c2:¬(i:Int)+1<((ag.map Goal.av).length:Int)->(nb||cr (ag.drop (i+1)))=cr ag:=fun a2=>by
     rw[List.length_map]at a2
     have zy:ag.drop (i+1)=[]:=List.drop_of_length_le (by exact ML a2)
     rw[←e3,zy,if_pos rfl]
     (rfl)
    have c3:g.isCall=false->(nb||cr (ag.drop (i+1)))=cr ag:=fun a1=>by
     rw[←e3,a1]
     by_cases zy:ag.drop (i+1)=[]
     ·rw[if_pos zy,zy];(rfl)
     ·rw[if_neg zy];(rfl)
    clear e3
    k_extra"wg"
    all_goals first
     |exact fin _ true rfl (c1 ‹_› ‹_›) (by k_extra"sb")
     |exact fin _ nb rfl (c2 ‹_›) (by k_extra"sb")
     |exact fin _ nb rfl (c3 ‹_›) (by k_extra"sb")
  ·obtain⟨⟨rs,So,c,nb,S5,e1,e2,i1,e3⟩,i2⟩:=I
   have hd:ag.drop ag.length=[]:=List.drop_length ..
   rw[hd]at e1 e3
   refine⟨rfl,So,?_,Sub.cons (i2 _ _ rfl) (Sub.cons (i2 _ _ rfl) (Sub.cons (i2 _ _ rfl) (Sub.cons ?_ Sub.nil)))⟩
   ·rw[show rs=gZ ai ag from e1]at S5
    exact S5.close Bl _
   ·rw[i1,←e3];simp[yZ,yY,y0]
 ·intro m4;intro H4;intro ak;refine aA (ak) fun qk S4 i4=>?_;clear ak
  refine WS.weak i4 ?_
  have d1:=S4.hu
  have d2:=S4.hs
  refine WS.cons (W1.assign (dA (WE.name rfl (rB.of d1 d2 rfl rfl (by k_extra"wf") ?_))))
  have R4:=S4.R
  clear S3 S4 d1 d2 i4 zr cP
  refine WS.seq (fun m5 H5=>cz H1 li qk (dB ai ag) H5/\Sub [("goals",.ref lg),("chunks",.ref il),("infos",.ref li),("needs_env",.bool (cr ag))] m5) ?_ ?_
  ·refine xQ (WE.name rfl ⟨li,_,rfl,R4.li,fun ob=>?_⟩)
   rw[List.map_map]
   refine dS.rule (f:=fun r:Rec=>AV.int (vi r.k)) (Yr H1 lg il li qk (gZ ai ag) ob (cr ag)) (fun r ks m5 H5 I kp=>?_) (fun m5 H5 I kp=>?_) (gZ ai ag) (al _ _ _) ⟨⟨gZ ai ag,?_,al _ _ _,rfl,rfl⟩,(fun r hr=>hr),by k_extra"sb"⟩
   ·obtain⟨⟨rs,R5,hl,e1,e2⟩,e3,i5⟩:=I
    have ED:=e3 r (.head _)
    have hk:bS r.k rs=true:=by
     rw[bK]
     have:r.k∈rs.map (·.k):=by rw[e2];exact List.mem_map.mpr ⟨r,ED,rfl⟩
     refine aA (List.mem_map.mp this) fun x hx e=>?_
     exact⟨x,hx,e⟩
    refine bh (du hk) fun rm rk=>?_
    refine ci (R5.held rm) fun f1 f2 f3=>?_
    have up:=R5.upd rm (f:=fM) (fun _=>rfl)
    rw[rk]at f1 f2 f3 up
    have lk:=eh (ad:=qk) (rs:=gZ ai ag) ⟨r,ED,rfl⟩
    refine WS.weak (m':=[("k",.int (vi r.k)),("goals",.ref lg),("chunks",.ref il),("infos",.ref li),("needs_env",.bool (cr ag))]) (Sub.cons rfl (Sub.cons (i5 _ _ rfl) (Sub.cons (i5 _ _ rfl) (Sub.cons (i5 _ _ rfl) (Sub.cons (i5 _ _ rfl) Sub.nil))))) ?_
    k_extra"wg"
    refine WI.aB hl rfl lk ?_
    k_extra"wg"
    refine wJ (aP rs r.k) f1 f2 ?_
    k_extra"wg"
    refine WI.aB hl rfl lk ?_
    k_extra"wg"
    refine⟨(aj _ _ f3.symm).trans kp,⟨jU r.k fM rs,?_,(aj _ _ f3.symm).trans hl,e1,by rw[f7 (f:=fM) (fun _=>rfl)];exact e2⟩,fun x hx=>e3 x (.tail _ hx),by k_extra"sb"⟩
    rw[A5 f3]
    exact up
   ·obtain⟨⟨rs,R5,hl,e1,e2⟩,e3,i5⟩:=I
    refine⟨rfl,?_,i5⟩
    have:rs=dB ai ag:=e1
    clear e2 e1;subst this
    exact R5
   ·have:(H4.put li (.ro (.aB ((gZ ai ag).map fun r=>(vi r.k,.ref (qk r.k).1))) ob)).put li (.aB ((gZ ai ag).map fun r=>(vi r.k,.ref (qk r.k).1)))=H4:=by
     funext a
     by_cases q:a=li
     ·subst q;rw[al,R4.li]
     ·rw[aj _ _ q,aj _ _ q]
    rw[this]
    exact R4
  ·intro m5;intro H5;intro ak;refine bh (ak) fun R5 i5=>?_;clear ak
   refine WS.weak i5 ?_
   clear R4 i5
   k_extra"wg"
   refine qr R5 fun lo H6 iQ h6 F6=>?_
   have R6:cz H1 li qk (dB ai ag) H6:=R5.jV (fun a o q=>F6 a o (R5.base a o q) (by exact fun h=>bv h)) (fun a o q _=>F6 a o q (by exact fun h=>bv h))
   change H6 lo=some (.list ((bO ai ag).map fun k=>.int (vi k)))at h6
   have Bo:H1 lo=none:=by
    cases q:H1 lo with
    |none=>rfl
    |some o=>rw[R5.base _ _ q]at iQ;(exact bg iQ)
   have VF:lo≠li/\∀r∈dB ai ag,lo≠(qk r.k).1/\lo≠(qk r.k).2:=⟨fun z=>(by rw[z,R5.li]at iQ;(exact bg iQ)),fun r hr=>⟨fun z=>(by rw[z,(R5.rc r hr).1]at iQ;(exact bg iQ)),fun z=>(by rw[z,(R5.rc r hr).2]at iQ;(exact bg iQ))⟩⟩
   clear R5
   have zo:=yJ ai ag
   refine WS.seq (fun m7 H7=>cz H1 li qk (cL ai ag) H7/\H7 lo=some (.list ((bO ai ag).map fun k=>.int (vi k)))/\Sub [("goals",.ref lg),("chunks",.ref il),("infos",.ref li),("needs_env",.bool (cr ag)),("order",.ref lo)] m7) ?_ ?_
   ·refine xU (ft iE gD (by decide) (jQ pj jn (by decide) (WE.name rfl (xW h6 (by exact d6 ‹_› (cm rfl)) (WB.range fun lr g9=>⟨lr,(bO ai ag).length,rfl,al _ _ _,Int.natCast_nonneg _,by lia,fun ob=>?_⟩)))))
    rw[r5]
    have vf:∀ {a o},H6 a=some o->a≠lr:=fun h z=>by rw[z,g9]at h;(exact ax h)
    have Yz:H1 lr=none:=by
     cases q:H1 lr with
     |none=>rfl
     |some o=>rw[R6.base _ _ q]at g9;(exact bg g9)
    have R7:cz H1 li qk (dB ai ag) (H6.put lr (.ro (.range (bO ai ag).length) ob)):=R6.jV (fun a o q=>(aj _ _ (vf (R6.base a o q))).trans (R6.base a o q)) (fun a o q _=>(aj _ _ (vf q)).trans q)
    refine dS.range (bO ai ag).length (Yq H1 lg il li lo lr qk ai ag ob (cr ag)) (fun i m8 H8 hi I kp=>?_) (fun m8 H8 I kp=>?_) (al _ _ _) ⟨⟨_,R7,rfl,rfl⟩,(aj _ _ (vf h6)).trans h6,al _ _ _,by k_extra"sb"⟩
    ·obtain⟨⟨rs,R8,e1,e2⟩,ho,hr,i8⟩:=I
     have hd:(bO ai ag).drop i=(bO ai ag)[i]::(bO ai ag).drop (i+1):=List.drop_eq_getElem_cons hi
     have hx:((bO ai ag).map fun k=>AV.int (vi k))[(i:Int).toNat]?=some (.int (vi (bO ai ag)[i])):=by simp[hi]
     have ia:(bO ai ag)[i]∈bO ai ag:=List.getElem_mem hi
     have hk:bS (bO ai ag)[i] rs=true:=by rw[qa e2];exact r8 ia
     rw[hd]at e1
     generalize (bO ai ag)[i]=k at hd hx ia hk e1
     refine bh (du hk) fun rm rk=>?_
     refine bh (R8.rc _ rm) fun f1 f2=>?_
     have up:=R8.upd rm (f:=fN ((i:Int)+1)) (fun _=>rfl)
     rw[rk]at f1 f2 up
     have lk:=eh (ad:=qk) (bK.mp hk)
     have VY:=R8.li
     have n1:lo≠(qk k).2:=ay ho f2 (by simp)
     have n2:lr≠(qk k).2:=ay hr f2 (by simp)
     have n3:(qk k).1≠(qk k).2:=ay f1 f2 (by simp)
     refine WS.weak (m':=[("at",.int i),("goals",.ref lg),("chunks",.ref il),("infos",.ref li),("needs_env",.bool (cr ag)),("order",.ref lo)]) (Sub.cons rfl (Sub.cons (i8 _ _ rfl) (Sub.cons (i8 _ _ rfl) (Sub.cons (i8 _ _ rfl) (Sub.cons (i8 _ _ rfl) (Sub.cons (i8 _ _ rfl) Sub.nil)))))) ?_
     k_extra"wg"
     refine WI.list ho rfl (Int.natCast_nonneg i) hx (by simp;exact vU zo) ?_
     refine WI.aB VY rfl lk ?_
     k_extra"wg"
     rw[r5]
     refine⟨(aj _ _ n2).trans kp,⟨jU k (fN ((i:Int)+1)) rs,up,e1,by rw[f7 (f:=fN ((i:Int)+1)) (fun _=>rfl)];exact e2⟩,(aj _ _ n1).trans ho,(aj _ _ n2).trans hr,by k_extra"sb"⟩
    ·obtain⟨⟨rs,R8,e1,e2⟩,ho,hr,i8⟩:=I
     have hd:(bO ai ag).drop (bO ai ag).length=[]:=List.drop_length ..
     rw[hd]at e1
     have:rs=cL ai ag:=e1
     clear hd e2 e1;subst this
     have n1:∀ {a o},H8 a=some o->o≠.ro (.range (bO ai ag).length) ob->a≠lr:=fun h1 h2 z=>by rw[z,hr]at h1;exact h2 (Option.some.inj h1).symm
     refine⟨rfl,R8.jV (fun a o q=>?_) (fun a o q w=>?_),?_,i8⟩
     ·exact(aj _ _ (fun z=>by rw[z,Yz]at q;(exact ax q))).trans (R8.base a o q)
     ·refine(aj _ _ (fun z=>?_)).trans q
      rw[z,hr]at q
      cases q
      rcases w with w|⟨r,TP,w|w⟩
      ·rw[←z,w,R8.li]at hr;cases hr
      ·rw[←z,w,(R8.rc r TP).1]at hr;cases hr
      ·rw[←z,w,(R8.rc r TP).2]at hr;cases hr
     ·exact(aj _ _ (n1 ho (by simp))).trans ho
   ·intro m7;intro H7;intro ak;refine ci (ak) fun R7 h7 i7=>?_;clear ak
    refine WS.weak i7 ?_
    clear R6 h6 F6 iQ VF i7
    have zr:=R7.base _ _ (F1 _ _ k3 (by exact fun h=>bv h))
    refine WS.cons (W1.assign (WE.list fun lv xt=>?_))
    have Pi:∀ {a o},H7 a=some o->a≠lv:=fun h z=>by rw[z,xt]at h;(exact ax h)
    have BH:∀k∈bO ai ag,bS k (cL ai ag)=true:=fun k hk=>by
     exact(qa (rO (bO ai ag) 0 (dB ai ag))).trans (r8 hk)
    refine WS.seq (fun m9 H9=>H9 lv=some (.list ((fw ai ag).live.map AV.int))/\(∀a o,H7 a=some o->H9 a=some o)/\Sub [("chunks",.ref il),("infos",.ref li),("needs_env",.bool (cr ag)),("order",.ref lo),("live_after",.ref lv)] m9) ?_ ?_
    ·refine xU (ft iE gD (by decide) (jQ pj jn (by decide) (WE.name rfl (xW ((aj _ _ (Pi zr)).trans zr) (by exact kZ hz) (WB.range fun lr g9=>⟨lr,ag.length,rfl,al _ _ _,Int.natCast_nonneg _,by lia,fun ob=>?_⟩)))))
     rw[r5]
     have Ph:lv≠lr:=fun z=>by rw[←z,al]at g9;(exact bg g9)
     have Qx:H7 lr=none:=by rw[aj _ _ Ph.symm]at g9;exact g9
     have vf:∀ {a o},H7 a=some o->a≠lr:=fun h z=>by rw[z,Qx]at h;(exact ax h)
     have old:∀ {a o} (x:AO),H7 a=some o->(((H7.put lv (.list [])).put lr (.ro (.range ag.length) ob)).put lv x) a=some o:=fun {a o} x q=>by
      have a1:=Pi q
      have a2:=vf q
      k_extra"hp"
     refine dS.range ag.length (fun i m' H'=>H'=((H7.put lv (.list [])).put lr (.ro (.range ag.length) ob)).put lv (.list (((List.range i).map fun (i:Nat)=>((eK (fun k=>(aP (cL ai ag) k).last) (i:Int) (bO ai ag):Nat):Int)).map AV.int))/\Sub [("chunks",.ref il),("infos",.ref li),("needs_env",.bool (cr ag)),("order",.ref lo),("live_after",.ref lv)] m') (fun i m8 H8 hi I kp=>?_) (fun m8 H8 I kp=>?_) (al _ _ _) ⟨?_,by k_extra"sb"⟩
     ·refine bh (I) fun e8 i8=>?_;clear I
      clear kp;subst e8
      have Fy:=old (.list (((List.range i).map fun (i:Nat)=>((eK (fun k=>(aP (cL ai ag) k).last) (i:Int) (bO ai ag):Nat):Int)).map AV.int)) h7
      have Qz:=old (.list (((List.range i).map fun (i:Nat)=>((eK (fun k=>(aP (cL ai ag) k).last) (i:Int) (bO ai ag):Nat):Int)).map AV.int)) R7.li
      have Qs:∀k∈bO ai ag,_:=fun k hk=>old (.list (((List.range i).map fun (i:Nat)=>((eK (fun k=>(aP (cL ai ag) k).last) (i:Int) (bO ai ag):Nat):Int)).map AV.int)) (R7.rc _ (du (BH k hk)).1).1
      have Qr:∀k∈bO ai ag,_:=fun k hk=>old (.list (((List.range i).map fun (i:Nat)=>((eK (fun k=>(aP (cL ai ag) k).last) (i:Int) (bO ai ag):Nat):Int)).map AV.int)) (R7.rc _ (du (BH k hk)).1).2
      have Bu:(((H7.put lv (.list [])).put lr (.ro (.range ag.length) ob)).put lv (.list (((List.range i).map fun (i:Nat)=>((eK (fun k=>(aP (cL ai ag) k).last) (i:Int) (bO ai ag):Nat):Int)).map AV.int))) lv=_:=al _ _ _
      refine WS.weak (m':=[("at",.int i),("chunks",.ref il),("infos",.ref li),("needs_env",.bool (cr ag)),("order",.ref lo),("live_after",.ref lv)]) (Sub.cons rfl (Sub.cons (i8 _ _ rfl) (Sub.cons (i8 _ _ rfl) (Sub.cons (i8 _ _ rfl) (Sub.cons (i8 _ _ rfl) (Sub.cons (i8 _ _ rfl) Sub.nil)))))) ?_
      have CW:∀n,n=eK (fun k=>(aP (cL ai ag) k).last) (i:Int) (bO ai ag)->((((H7.put lv (.list [])).put lr (.ro (.range ag.length) ob)).put lv (.list (((List.range i).map fun (i:Nat)=>((eK (fun k=>(aP (cL ai ag) k).last) (i:Int) (bO ai ag):Nat):Int)).map AV.int))).put lv (.list (((List.range i).map fun (i:Nat)=>((eK (fun k=>(aP (cL ai ag) k).last) (i:Int) (bO ai ag):Nat):Int)).map AV.int++[.int (n:Int)])))=((H7.put lv (.list [])).put lr (.ro (.range ag.length) ob)).put lv (.list (((List.range (i+1)).map fun (i:Nat)=>((eK (fun k=>(aP (cL ai ag) k).last) (i:Int) (bO ai ag):Nat):Int)).map AV.int)):=fun n e=>by
       rw[r5,List.range_succ,e];simp
      have CU:(((H7.put lv (.list [])).put lr (.ro (.range ag.length) ob)).put lv (.list (((List.range (i+1)).map fun (i:Nat)=>((eK (fun k=>(aP (cL ai ag) k).last) (i:Int) (bO ai ag):Nat):Int)).map AV.int))) lr=some (.ro (.range ag.length) ob):=by k_extra"hp"
      have Oc:((((List.range i).map fun (i:Nat)=>((eK (fun k=>(aP (cL ai ag) k).last) (i:Int) (bO ai ag):Nat):Int)).map AV.int)).length<=16000000:=by simp;exact MJ hz hi
      generalize (((List.range i).map fun (i:Nat)=>((eK (fun k=>(aP (cL ai ag) k).last) (i:Int) (bO ai ag):Nat):Int)).map AV.int)=L8 at *
      generalize (((H7.put lv (.list [])).put lr (.ro (.range ag.length) ob)).put lv (.list L8))=H8 at *
      refine WS.cons (W1.assign (WE.int ?_))
      refine WS.cons (d7 ⟨(bO ai ag).length+1,fT.rule (fun n m' H'=>∃j,j+n=(bO ai ag).length/\H'=H8/\Sub [("at",.int i),("chunks",.ref il),("infos",.ref li),("needs_env",.bool (cr ag)),("order",.ref lo),("live_after",.ref lv),("live",.int (j:Int))] m'/\j+eK (fun k=>(aP (cL ai ag) k).last) (i:Int) ((bO ai ag).drop j)=eK (fun k=>(aP (cL ai ag) k).last) (i:Int) (bO ai ag)) ?_ (bO ai ag).length ⟨0,by exact MH,rfl,by k_extra"sb",by simp⟩⟩)
      intro n;intro m9;intro H9;intro ak;refine iA (ak) fun j hj cu i9 FA=>?_;clear ak;subst cu
      refine WT.weak i9 ?_
      k_extra"wg"
      ·have JP:j<(bO ai ag).length:=by
        have:(j:Int)<(((bO ai ag).map fun k=>AV.int (vi k)).length:Int):=by assumption
        rw[List.length_map]at this;exact MG this
       refine aY ((⟨n-1,by exact MF hj JP⟩:∃k,n=k+1)) fun n ak=>?_;subst ak
       have hd:(bO ai ag).drop j=(bO ai ag)[j]::(bO ai ag).drop (j+1):=List.drop_eq_getElem_cons JP
       have hx:((bO ai ag).map fun k=>AV.int (vi k))[(j:Int).toNat]?=some (.int (vi (bO ai ag)[j])):=by simp[JP]
       have ia:(bO ai ag)[j]∈bO ai ag:=List.getElem_mem JP
       rw[hd]at FA
       generalize (bO ai ag)[j]=k at hd hx ia FA
       refine bh (du (BH k ia)) fun km kk=>?_
       have c1:=Qs k ia
       have c2:=Qr k ia
       rw[kk]at c1 c2
       have lk:=eh (ad:=qk) (bK.mp (BH k ia))
       refine WI.list Fy rfl (Int.natCast_nonneg j) hx (by simp;exact vU zo) ?_
       refine WI.aB Qz rfl lk ?_
       k_extra"wg"
       ·refine⟨n,rfl,?_⟩
        refine WS.weak i9 ?_
        k_extra"wg"
        refine⟨j+1,by exact ME hj,rfl,by k_extra"sb",?_⟩
        rw[←FA]
        simp only[vl,vm]
        rw[if_pos ‹_›]
        exact Ds
       ·refine WE.name (i9 _ _ rfl) ⟨lv,_,_,rfl,Bu,rfl,WE.name (i9 _ _ rfl) (dG Bu Oc ?_)⟩
        k_extra"wg"
        have ej:j=eK (fun k=>(aP (cL ai ag) k).last) (i:Int) (bO ai ag):=by
         rw[←FA]
         simp only[vl,vm]
         rw[if_neg ‹_›];rfl
        rw[CW j ej]
        exact⟨CU,rfl,Sub.cons (i9 _ _ rfl) (Sub.cons (i9 _ _ rfl) (Sub.cons (i9 _ _ rfl) (Sub.cons (i9 _ _ rfl) (Sub.cons (i9 _ _ rfl) Sub.nil))))⟩
      ·have JP:¬j<(bO ai ag).length:=by
        have:¬(j:Int)<(((bO ai ag).map fun k=>AV.int (vi k)).length:Int):=by assumption
        rw[List.length_map]at this;exact MD this
       have hd:(bO ai ag).drop j=[]:=List.drop_of_length_le (by exact Nat.le_of_not_lt ‹_›)
       refine WE.name (i9 _ _ rfl) ⟨lv,_,_,rfl,Bu,rfl,WE.name (i9 _ _ rfl) (dG Bu Oc ?_)⟩
       k_extra"wg"
       rw[hd]at FA
       rw[CW j (by rw[←FA];rfl)]
       exact⟨CU,rfl,Sub.cons (i9 _ _ rfl) (Sub.cons (i9 _ _ rfl) (Sub.cons (i9 _ _ rfl) (Sub.cons (i9 _ _ rfl) (Sub.cons (i9 _ _ rfl) Sub.nil))))⟩
     ·refine bh (I) fun e8 i8=>?_;clear I
      clear kp;subst e8
      refine⟨rfl,?_,fun a o q=>?_,i8⟩
      ·rw[aj _ _ Ph,al];rfl
      ·have a2:=vf q
       exact(aj _ _ a2).trans (old _ q)
     ·funext a
      by_cases q:a=lv
      ·(clear old g9 Pi xt;subst q);rw[al,aj _ _ Ph,al];rfl
      ·rw[aj _ _ q]
    ·intro m9;intro H9;intro ak;refine ci (ak) fun h9 k9 i9=>?_;clear ak
     refine WS.weak i9 ?_
     have YZ:=k9 _ _ h7
     k_extra"wg"
     refine wy _ _ _ _ _ fun x dx UE hx lI e1 e2 xy=>?_
     k_extra"wg"
     rw[List.length_map]at e2
     refine h x dx li il lv qk UE e1 e2 ?_ (xy _ _ h9 (by exact fun h=>bv h)) fun a o q _=>xy _ _ (k9 _ _ (R7.base _ _ (F1 _ _ q (by(assumption))))) (by(assumption))
     exact(R7.jV (fun a o q=>xy _ _ (k9 _ _ (R7.base _ _ q)) (by exact fun h=>bv h)) (fun a o q _=>xy _ _ (k9 _ _ q) (by exact fun h=>bv h))).less F1
structure g7(B:ah)(x dx lt la lf lg:Addr)(n:Nat)(H:ah):Prop where
 base:∀a o,B a=some o->H a=some o
 fb:B lt=none/\B la=none/\B lf=none/\B lg=none
 hx:H x=some (.inst 122 dx)
 hd:H dx=some (.attrs [("texts",.ref lt),("atom_numbers",.ref la),("functors",.ref lf),("functor_numbers",.ref lg)])
 t:∃xs,H lt=some (.list xs)/\xs.length<=n
 a:∃es,H la=some (.bq es)/\es.length<=n/\∀p∈es,∃i,p.2=.int i
 f:∃xs,H lf=some (.list xs)/\xs.length<=n
 g:∃es,H lg=some (.bX es)/\es.length<=n/\∀p∈es,∃i,p.2=.int i
 ne:lt≠lf
theorem sq{κ:Type}[DecidableEq κ]{k:κ}{a:AV}:∀ {es:List (κ×AV)} {p:κ×AV},p∈bZ k a es->p.2=a∨p∈es:=by
 intro zz
 induction zz with
 |nil=>
  intro p h
  cases fG h;exact .inl rfl
 |cons qx r ih=>
  obtain⟨q,b⟩:=qx
  intro p h
  rw[gJ]at h
  split at h
  ·rcases de h with rfl|h
   ·exact .inl rfl
   ·exact .inr (.tail _ h)
  ·rcases de h with rfl|h
   ·exact .inr (.head _)
   ·exact(ih h).imp id fun z=>.tail _ z
theorem oz{κ:Type}[BEq κ]{es:List (κ×AV)}(h:∀p∈es,∃i,p.2=AV.int i)(k:κ):∃i,(es.lookup k).getD (.int (-1))=.int i:=by
 cases q:es.lookup k with
 |none=>exact⟨-1,rfl⟩
 |some a=>
  have:∃p∈es,p.2=a:=by
   clear h
   induction es with
   |nil=>(exact ax q)
   |cons x r ih=>
    obtain⟨j,b⟩:=x
    rw[List.lookup_cons]at q
    cases z:k==j with
    |true=>
     simp only[z]at q
     cases q
     exact⟨_,.head _,rfl⟩
    |false=>
     simp only[z]at q
     refine aA (ih q) fun p h1 h2=>?_
     exact⟨p,.tail _ h1,h2⟩
  refine aA (this) fun p h1 h2=>?_;clear this
  refine aY (h p h1) fun i hi=>?_
  exact⟨i,by rw[←h2,hi];rfl⟩
theorem g7.le{B x dx lt la lf lg n m H}(S:g7 B x dx lt la lf lg n H)(h:n<=m):g7 B x dx lt la lf lg m H:=by
 refine aA (S.t) fun xs t1 t2=>?_
 refine aN (S.a) fun es a1 a2 a3=>?_
 refine aA (S.f) fun ys f1 f2=>?_
 refine aN (S.g) fun gs g1 g2 g3=>?_
 exact⟨S.base,S.fb,S.hx,S.hd,⟨xs,t1,by exact d6 ‹_› ‹_›⟩,⟨es,a1,by exact d6 ‹_› ‹_›,a3⟩,⟨ys,f1,by exact MC h f2⟩,⟨gs,g1,by exact d6 ‹_› ‹_›,g3⟩,S.ne⟩
theorem nk{H:ah}{a b:Addr}{o o':AO}(h1:H a=some o)(h2:H b=some o')(h:o≠o'):a≠b:=fun z=>by
 rw[z,h2]at h1
 exact h (Option.some.inj h1).symm
theorem g7.N7{B x dx lt la lf lg n H}(S:g7 B x dx lt la lf lg n H):x≠dx/\x≠lt/\x≠la/\x≠lf/\x≠lg/\dx≠lt/\dx≠la/\dx≠lf/\dx≠lg/\lt≠la/\lt≠lf/\lt≠lg/\la≠lf/\la≠lg/\lf≠lg:=by
 refine aA (S.t) fun xs t1 t2=>?_
 refine aN (S.a) fun es a1 a2 a3=>?_
 refine aA (S.f) fun ys f1 f2=>?_
 refine aN (S.g) fun gs g1 g2 g3=>?_
 exact⟨nk S.hx S.hd (by intro z;cases z),nk S.hx t1 (by intro z;cases z),nk S.hx a1 (by intro z;cases z),nk S.hx f1 (by intro z;cases z),nk S.hx g1 (by intro z;cases z),nk S.hd t1 (by intro z;cases z),nk S.hd a1 (by intro z;cases z),nk S.hd f1 (by intro z;cases z),nk S.hd g1 (by intro z;cases z),nk t1 a1 (by intro z;cases z),S.ne,nk t1 g1 (by intro z;cases z),nk a1 f1 (by intro z;cases z),nk a1 g1 (by intro z;cases z),nk f1 g1 (by intro z;cases z)⟩
theorem g7.OQ{B x dx lt la lf lg n H}(S:g7 B x dx lt la lf lg n H){xs:List AV}{es:List (Str×AV)}{a:AV}{k:Str}{i:Int}(t2:xs.length<=n)(a2:es.length<=n)(a3:∀p∈es,∃i,p.2=AV.int i)(t1:H lt=some (.list xs))(a1:H la=some (.bq es)):g7 B x dx lt la lf lg (n+1) ((H.put lt (.list (xs++[a]))).put la (.bq (bZ k (.int i) es))):=by
 refine aA (S.f) fun ys f1 f2=>?_
 refine aN (S.g) fun gs g1 g2 g3=>?_
 have hx:=S.hx
 have hd:=S.hd
 have ne:=S.ne
 have fb:=S.fb
 refine et (S.N7) fun m1 m2 m3 m4 m5 m6 m7 m8 m9 Tq Tp Tn Tl N9 Tk=>?_
 refine⟨fun b o q=>?_,S.fb,by k_extra"hp",by k_extra"hp",⟨xs++[a],by k_extra"hp",by simp;(assumption)⟩,⟨_,al _ _ _,?_,fun p hp=>?_⟩,⟨ys,by k_extra"hp",by exact Nat.le_succ_of_le ‹_›⟩,⟨gs,by k_extra"hp",by exact Nat.le_succ_of_le ‹_›,g3⟩,ne⟩
 ·have n1:b≠lt:=fun z=>by rw[z,fb.1]at q;(exact ax q)
  have n2:b≠la:=fun z=>by rw[z,fb.2.1]at q;(exact ax q)
  exact(aj _ _ n2).trans ((aj _ _ n1).trans (S.base b o q))
 ·have:=iX k (.int i) es
  exact Ao a2 this
 ·rcases sq hp with z|z
  ·exact⟨i,z⟩
  ·exact a3 p z
theorem g7.OP{B x dx lt la lf lg n H}(S:g7 B x dx lt la lf lg n H){xs:List AV}{es:List (List Atom×AV)}{a:AV}{k:List Atom}{i:Int}(t2:xs.length<=n)(a2:es.length<=n)(a3:∀p∈es,∃i,p.2=AV.int i)(t1:H lf=some (.list xs))(a1:H lg=some (.bX es)):g7 B x dx lt la lf lg (n+1) ((H.put lf (.list (xs++[a]))).put lg (.bX (bZ k (.int i) es))):=by
 refine aA (S.t) fun ys f1 f2=>?_
 refine aN (S.a) fun gs g1 g2 g3=>?_
 have hx:=S.hx
 have hd:=S.hd
 have ne:=S.ne
 have fb:=S.fb
 refine et (S.N7) fun m1 m2 m3 m4 m5 m6 m7 m8 m9 Tq Tp Tn Tl N9 Tk=>?_
 refine⟨fun b o q=>?_,S.fb,by k_extra"hp",by k_extra"hp",⟨ys,by k_extra"hp",by exact vT f2⟩,⟨gs,by k_extra"hp",by exact Nat.le_succ_of_le ‹_›,g3⟩,⟨xs++[a],by k_extra"hp",by simp;exact MB t2⟩,⟨_,al _ _ _,?_,fun p hp=>?_⟩,ne⟩
 ·have n1:b≠lf:=fun z=>by rw[z,fb.2.2.1]at q;(exact ax q)
  have n2:b≠lg:=fun z=>by rw[z,fb.2.2.2]at q;(exact ax q)
  exact(aj _ _ n2).trans ((aj _ _ n1).trans (S.base b o q))
 ·have:=iX k (.int i) es
  exact Ao a2 this
 ·rcases sq hp with z|z
  ·exact⟨i,z⟩
  ·exact a3 p z
variable{x dx lt la lf lg:Addr}
theorem NG:cj e.G.K 122 ("texts":Str)=true:=by kernel_rfl
theorem NF:cj e.G.K 122 ("atom_numbers":Str)=true:=by kernel_rfl
theorem ND:cj e.G.K 122 ("functors":Str)=true:=by kernel_rfl
theorem NC:cj e.G.K 122 ("functor_numbers":Str)=true:=by kernel_rfl
theorem HV:cJ e.G.K 122 ("texts":Str)=true:=by kernel_rfl
theorem HU:cJ e.G.K 122 ("atom_numbers":Str)=true:=by kernel_rfl
theorem HT:cJ e.G.K 122 ("functors":Str)=true:=by kernel_rfl
theorem HS:cJ e.G.K 122 ("functor_numbers":Str)=true:=by kernel_rfl
theorem IK:cv e.G.K 122 ("atom":Str) 56=true:=by kernel_rfl
theorem IJ:cv e.G.K 122 ("functor":Str) 70=true:=by kernel_rfl
theorem II:cv e.G.K 122 ("func":Str) 77=true:=by kernel_rfl
theorem IB:makesIn e.G.K 122=true:=by kernel_rfl
theorem Jt:findIn e.G.K (.ref 122) "__init__"=some (some (.ref 49)):=by kernel_rfl
theorem QX:isFn e.G.K (.ref 49)=true:=by kernel_rfl
theorem P6:nsIn e.G.K mainGlobals ("fixed_atoms":Str)=some (some (.ref 28)):=by kernel_rfl
theorem Xf:keepIn e.G.K (.ref 28)=true:=by kernel_rfl
theorem P5:nsIn e.G.K mainGlobals ("fixed_functors":Str)=some (some (.ref 35)):=by kernel_rfl
theorem Xd:keepIn e.G.K (.ref 35)=true:=by kernel_rfl
theorem We:True:=by
 k_with"wf"=>(first|(with_reducible first|exact NG|exact NF|exact ND|exact NC|exact HV|exact HU|exact HT|exact HS|exact IK|exact IJ|exact II)|fail)
 trivial
theorem vM(S:g7 B x dx lt la lf lg n H)(hn:n<=1000)(text:Str){Q:AQ}(h:∀i H',g7 B x dx lt la lf lg (n+1) H'->Q (.int i) H'):WC e.G (D+1) (.ref 56) [.ref x,.str text] H Q:=by
 refine aA (S.t) fun xs t1 t2=>?_
 refine aN (S.a) fun es a1 a2 a3=>?_
 refine aY (oz a3 text) fun i hi=>?_
 refine et (S.N7) fun n1 n2 n3 n4 n5 n6 n7 n8 n9 VO VN VM VL VK VJ=>?_
 have hx:=S.hx
 have hd:=S.hd
 refine bj (ns:=["self","text"]) (by kernel_rfl) (by kernel_rfl) rfl (fL (by intro x y;kernel_rfl)) ?_
 k_extra"norm_m"
 k_extra"wg"
 refine⟨_,rfl,?_⟩
 k_extra"wg"
 refine DW (es:=es) (by k_extra"hp") rfl rfl ?_
 rw[show -(1:Int)=-1 from rfl]at *
 rw[hi]
 k_extra"wg"
 ·k_extra"wg"
  exact h i H (S.le (Nat.le_succ n))
 ·k_extra"wg"
  refine dG (xs:=xs) (by k_extra"hp") (by exact Ad hn t2) ?_
  k_extra"wg"
  refine gG.bq (es:=es) (by k_extra"hp") (by exact Ad hn a2) ?_
  k_extra"wg"
  refine h _ _ (S.OQ t2 a2 a3 t1 a1)
theorem uu(S:g7 B x dx lt la lf lg n H)(hn:n<=1000)(at_:Int)(ar:Int){Q:AQ}(h:∀i H',g7 B x dx lt la lf lg (n+1) H'->Q (.int i) H'):WC e.G (D+2) (.ref 70) [.ref x,.int at_,.int ar] H Q:=by
 refine aA (S.f) fun xs t1 t2=>?_
 refine aN (S.g) fun es a1 a2 a3=>?_
 refine aY (oz a3 [Atom.i at_,Atom.i ar]) fun i hi=>?_
 refine et (S.N7) fun n1 n2 n3 n4 n5 n6 n7 n8 n9 VO VN VM VL VK VJ=>?_
 have hx:=S.hx
 have hd:=S.hd
 refine bj (ns:=["self","atom","arity"]) (by kernel_rfl) (by kernel_rfl) rfl (gW (by intro x y z;kernel_rfl)) ?_
 k_extra"norm_m"
 k_extra"wg"
 refine⟨_,rfl,?_⟩
 k_extra"wg"
 refine xS (k:=[Atom.i at_,Atom.i ar]) (es:=es) (by k_extra"hp") ?_
 rw[show -(1:Int)=-1 from rfl]at *
 rw[hi]
 k_extra"wg"
 ·k_extra"wg"
  exact h i H (S.le (Nat.le_succ n))
 ·k_extra"wg"
  refine dG (xs:=xs) (by k_extra"hp") (by exact Ad hn t2) ?_
  k_extra"wg"
  refine gG.bX (k:=[Atom.i at_,Atom.i ar]) (es:=es) (by k_extra"hp") (by exact Ad hn a2) ?_
  k_extra"wg"
  refine h _ _ (S.OP t2 a2 a3 t1 a1)
theorem BP(S:g7 B x dx lt la lf lg n H)(hn:n<=900)(text:Str)(ar:Int){Q:AQ}(h:∀i H',g7 B x dx lt la lf lg (n+2) H'->Q (.int i) H'):WC e.G (D+3) (.ref 77) [.ref x,.str text,.int ar] H Q:=by
 have hx:=S.hx
 have hd:=S.hd
 refine bj (ns:=["self","text","arity"]) (by kernel_rfl) (by kernel_rfl) rfl (gW (by intro x y z;kernel_rfl)) ?_
 k_extra"norm_m"
 k_extra"wg"
 refine vM S (by exact d6 ‹_› (cm rfl)) text fun i H1 S1=>?_
 k_extra"wg"
 refine uu S1 (by exact MA hn) i ar fun j H2 S2=>?_
 k_extra"wg"
 exact h _ _ S2
theorem ck{H:ah}{a b:Addr}{o:AO}(h:(H.put b o) a=none):a≠b/\H a=none:=by
 have n:a≠b:=fun z=>by rw[z,al]at h;(exact bg h)
 exact⟨n,(aj _ _ n).symm.trans h⟩
theorem Kf{Q:AQ}(h:Q (.tup ((["[]",".","{}","-","+","*","/",",","|",";","->","\\+",":-","?-","-->","!","true","fail","false","call","=","^","error","","end_of_file","system","$VAR","catch","throw"]:List Str).map fun s=>AV.str s)) H):WC e.G (D+1) (.ref 28) [] H Q:=by
 refine bj (ns:=[]) (by kernel_rfl) (by kernel_rfl) rfl (fun vals hv=>by cases vals with|nil=>kernel_rfl|cons _ _=>cases hv) ?_
 k_extra"norm_m"
 k_extra"wg"
 exact h
noncomputable def Up:List (Str×Int):=[(".",2),(",",2),(";",2),("->",2),("\\+",1),(":-",2),(":-",1),("?-",1),("-->",2),("{}",1),("=",2),("^",2),("-",1),("-",2),("+",2),("/",2),("error",2),("$VAR",1),("catch",3),("throw",1),("!",0),("true",0),("fail",0),("false",0),("call",1),("call",2),("call",3),("call",4),("call",5),("call",6),("call",7),("call",8)]
theorem Ke{Q:AQ}(h:Q (.tup (Up.map fun p=>AV.tup [.str p.1,.int p.2])) H):WC e.G (D+1) (.ref 35) [] H Q:=by
 refine bj (ns:=[]) (by kernel_rfl) (by kernel_rfl) rfl (fun vals hv=>by cases vals with|nil=>kernel_rfl|cons _ _=>cases hv) ?_
 k_extra"norm_m"
 k_extra"wg"
 exact h
theorem yh{B:ah}{x dx lt la lf lg:Addr}{G:Gl}{D:Nat}{cs:Scope}{cl:List (Str×Addr)}{st:Stmt}{m:bP}{H:ah}{Q:Fl->bP->ah->Prop}(S:g7 B x dx lt la lf lg 0 H)(h:∀H0,g7 B x dx lt la lf lg 0 H0->W1 G D cs cl st m H0 Q):W1 G D cs cl st m H Q:=h H S
theorem qE{Q:AQ}(h:∀x H',ao [] H H'->Q (.ref x) H'):WC e.G (D+6) (.ref 122) [] H Q:=by
 refine pM IB Jt QX fun x dx hx lI ne=>?_
 refine bj (ns:=["self"]) (by kernel_rfl) (by kernel_rfl) rfl (gx (by intro x;kernel_rfl)) ?_
 k_extra"norm_m"
 have nx:=ne.symm
 refine WS.cons (jH (WE.list ?_))
 k_extra"wg"
 intro lt iP
 refine bh (ck iP) fun m1 q1=>?_
 refine bh (ck q1) fun m2 q2=>?_
 k_extra"wg"
 refine D8 fun la Bz=>?_
 refine bh (ck Bz) fun m3 q3=>?_
 refine bh (ck q3) fun m4 q4=>?_
 refine bh (ck q4) fun m5 q5=>?_
 refine bh (ck q5) fun m6 q6=>?_
 k_extra"wg"
 intro lf XG
 refine bh (ck XG) fun m7 q7=>?_
 refine bh (ck q7) fun m8 q8=>?_
 refine bh (ck q8) fun m9 q9=>?_
 refine bh (ck q9) fun Tq Pa=>?_
 refine bh (ck Pa) fun Tp VA=>?_
 refine bh (ck VA) fun Tn SW=>?_
 k_extra"wg"
 refine tC fun lg EI=>?_
 refine bh (ck EI) fun Tl Vz=>?_
 refine bh (ck Vz) fun N9 Vy=>?_
 refine bh (ck Vy) fun Tk Vx=>?_
 refine bh (ck Vx) fun YN Vw=>?_
 refine bh (ck Vw) fun YM Vv=>?_
 refine bh (ck Vv) fun YL Vu=>?_
 refine bh (ck Vu) fun YK Vt=>?_
 refine bh (ck Vt) fun YJ SU=>?_
 k_extra"wg"
 refine yh (B:=H) (x:=x) (dx:=dx) (lt:=lt) (la:=la) (lf:=lf) (lg:=lg) ⟨fun a o q=>?_,⟨q2,q6,SW,SU⟩,by k_extra"hp",al _ _ _,⟨[],by k_extra"hp",Nat.le_refl _⟩,⟨[],by k_extra"hp",Nat.le_refl _,fun p hp=>bv hp⟩,⟨[],by k_extra"hp",Nat.le_refl _⟩,⟨[],by k_extra"hp",Nat.le_refl _,fun p hp=>bv hp⟩,by(first|assumption|exact Ne.symm ‹_›)⟩ fun H0 S0=>?_
 ·have b1:a≠x:=fun z=>by rw[z,hx]at q;(exact ax q)
  have b2:a≠dx:=fun z=>by rw[z,lI]at q;(exact ax q)
  have b3:a≠lt:=fun z=>by rw[z,q2]at q;(exact ax q)
  have b4:a≠la:=fun z=>by rw[z,q6]at q;(exact ax q)
  have b5:a≠lf:=fun z=>by rw[z,SW]at q;(exact ax q)
  have b6:a≠lg:=fun z=>by rw[z,SU]at q;(exact ax q)
  k_extra"hp"
 refine jG (WE.cp P6 Xf (Kf ⟨_,rfl,?_⟩))
 refine dS.rule (f:=fun t:Str=>AV.str t) (fun au m' H'=>∃n,Sub [("self",.ref x)] m'/\g7 H x dx lt la lf lg n H'/\n+au.length<=29) (fun t au m1 H1 I kp=>?_) (fun m1 H1 I kp=>?_) _ trivial ⟨0,fun _ _ z=>z,S0,Nat.le_refl _⟩
 ·refine aN (I) fun n i1 S1 z=>?_;clear I
  refine WS.weak (m':=[("text",.str t),("self",.ref x)]) (Sub.cons rfl (Sub.cons (i1 _ _ rfl) Sub.nil)) ?_
  have hx:=S1.hx
  have hd:=S1.hd
  simp only[fi]at z
  k_extra"wg"
  refine vM S1 (by exact Mz z) t fun i H2 S2=>?_
  k_extra"wg"
  exact⟨trivial,n+1,Sub.cons rfl Sub.nil,S2,by exact My z⟩
 ·refine aN (I) fun n i1 S1 z=>?_;clear I
  simp only[List.length_nil]at z
  refine WS.weak (m':=[("self",.ref x)]) i1 ?_
  k_extra"norm_m"
  refine WS.cons (jG (WE.cp P5 Xd (Ke ⟨_,rfl,?_⟩)))
  refine dS.rule (f:=fun p:Str×Int=>AV.tup [.str p.1,.int p.2]) (fun au m' H'=>∃n,Sub [("self",.ref x)] m'/\g7 H x dx lt la lf lg n H'/\n+2*au.length<=93) (fun t au m1 H1 I kp=>?_) (fun m1 H1 I kp=>?_) _ trivial ⟨n,fun _ _ z=>z,S1,by rw[show Up.length=32 from rfl];(exact Nat.add_le_add_right ‹_› _)⟩
  ·refine aN (I) fun n i1 S1 z=>?_;clear I
   refine WS.weak (m':=[("row",.tup [.str t.1,.int t.2]),("self",.ref x)]) (Sub.cons rfl (Sub.cons (i1 _ _ rfl) Sub.nil)) ?_
   have hx:=S1.hx
   have hd:=S1.hd
   simp only[fi]at z
   k_extra"wg"
   refine BP S1 (by exact Mx z) t.1 t.2 fun i H2 S2=>?_
   k_extra"wg"
   exact⟨trivial,n+2,Sub.cons rfl Sub.nil,S2,by exact Mw z⟩
  ·refine aN (I) fun n i1 S1 z=>?_;clear I
   refine WS.weak (m':=[("self",.ref x)]) i1 ?_
   k_extra"norm_m"
   k_extra"wg"
   exact⟨rfl,h x H1 fun a o q _=>S1.base a o q⟩
structure gf(lt l0:Addr)(H:ah):Prop where
 ne:lt≠l0
 t:∃ (xs:List Int) (i:Nat) (j:Int),H lt=some (.list [.ref l0,.int i,.int j])/\H l0=some (.list (xs.map AV.int))/\xs.length<=60/\i<=60
theorem Uk{G:Gl}{D:Nat}{H:ah}{l:Addr}{i:Int}{Q:AQ}{xs:List AV}{a:AV}(hl:H l=some (.list xs))(h0:0<=i)(hx:xs[i.toNat]?=some a)(hz:xs.length<=16000000)(h:Q a H):WI G D (.ref l) (.int i) H Q:=WI.list hl rfl h0 hx hz h
theorem X4{G:Gl}{D:Nat}{H:ah}{l:Addr}{i:Int}{Q:AQ}(h:WI G D (.ref l) (.int i) H Q):WI G D (.ref l) (.int i) H Q:=h
theorem QU{G:Gl}{D:Nat}{H:ah}{l:Addr}{i:Int}{v:AV}{Q:ah->Prop}(h:gG G D (.ref l) (.int i) v H Q):gG G D (.ref l) (.int i) v H Q:=h
theorem J8{G:Gl}{D:Nat}{cs:Scope}{cl:List (Str×Addr)}{m:bP}{H:ah}{o i e:Expr}{op:Operator}{tp pos:Pos}{Q:Fl->bP->ah->Prop}(h:W1 G D cs cl (.AugAssign (.Subscript o i tp) op e pos) m H Q):W1 G D cs cl (.AugAssign (.Subscript o i tp) op e pos) m H Q:=h
theorem Wd:True:=by
 k_with"wi"=>(first|(((with_reducible refine X4 ?_);(focus(refine' Uk ?_ (by decide) ?_ ?_ ?_;rotate_right 4;(· k_extra"hfr");(· rfl);(· exact cm rfl)))))|fail)
 trivial
theorem OI{G:Gl}{D:Nat}{H:ah}{l:Addr}{a b c v:AV}{Q:ah->Prop}(hl:H l=some (.list [a,b,c]))(h:Q (H.put l (.list [a,v,c]))):gG G D (.ref l) (.int 1) v H Q:=gG.list hl (by decide) (by simp) (by exact cm rfl) h
theorem OH{G:Gl}{D:Nat}{H:ah}{l:Addr}{a b c v:AV}{Q:ah->Prop}(hl:H l=some (.list [a,b,c]))(h:Q (H.put l (.list [a,b,v]))):gG G D (.ref l) (.int 2) v H Q:=gG.list hl (by decide) (by simp) (by exact cm rfl) h
theorem X6{n:Int}{P:Int->Prop}(h:P n):∃i,AV.int n=AV.int i/\P i:=⟨n,rfl,h⟩
theorem Wc:True:=by
 k_with"wx"=>(first|(first|((with_reducible refine QU ?_);first|(focus(refine' OI ?_ ?_;rotate_right 2;(· k_extra"hfr")))|(focus(refine' OH ?_ ?_;rotate_right 2;(· k_extra"hfr"))))|(with_reducible refine X6 ?_))|fail)
 trivial
theorem X5{G:Gl}{D:Nat}{cs:Scope}{cl:List (Str×Addr)}{m:bP}{H:ah}{Q:AQ}{l r:Expr}{pos:Pos}(h:WE G D cs cl (.BinOp l .FloorDiv r pos) m H Q):WE G D cs cl (.BinOp l .FloorDiv r pos) m H Q:=h
theorem Wb:True:=by
 k_with"wz"=>(first|(((with_reducible refine J8 ?_);refine FV ?_))|fail)
 trivial
theorem oH:nsIn e.G.K mainGlobals ("_law_digit":Str)=some (some (.ref 608)):=by kernel_rfl
theorem ul:keepIn e.G.K (.ref 608)=true:=by kernel_rfl
theorem Qc:importsNone e.G.p=true:=by kernel_rfl
theorem Hj:e.G.prog.given.tree=none:=by kernel_rfl
theorem Wa:True:=by
 k_with"we"=>(first|(((with_reducible refine X5 ?_);refine WE.fdiv Qc Hj ?_))|fail)
 trivial
theorem eb{lt l0:Addr}(T:gf lt l0 H)(limit:Int)(hl:0<limit){Q:AQ}(h:∀d H',0<=d->d<limit->gf lt l0 H'->ao [lt,l0] H H'->Q (.int d) H'):WC e.G (D+101) (.ref 608) [.ref lt,.int limit] H Q:=by
 obtain⟨ne,xs,i,j,t1,t2,t3,t4⟩:=T
 have nr:=ne.symm
 refine bj (ns:=["tape","limit"]) (by kernel_rfl) (by kernel_rfl) rfl (fL (by intro x y;kernel_rfl)) ?_
 k_extra"norm_m"
 k_extra"wg"
 ·k_extra"wg"
  exact h 0 H (by exact Int.natCast_nonneg _) hl ⟨ne,xs,i,j,t1,t2,t3,t4⟩ ao.refl
 have iP:i<xs.length:=by
  simp only[List.length_map]at *
  exact Mv a
 have Oo:0<=xs[i].fmod limit:=Int.fmod_nonneg_of_pos _ hl
 have On:xs[i].fmod limit<limit:=Int.fmod_lt_of_pos _ hl
 have mv:∀ {H':ah} {k:Int},H' lt=some (.list [.ref l0,.int (i+1),.int k])->H' l0=some (.list (xs.map AV.int))->ao [lt,l0] H H'->Q (.int (xs[i].fmod limit)) H':=fun {H' k} h1 h2 F=>h _ H' Oo On ⟨ne,xs,i+1,k,h1,h2,t3,by exact Nat.lt_of_lt_of_le ‹_› ‹_›⟩ F
 refine Uk (xs:=xs.map AV.int) (a:=.int xs[i]) t2 (Int.natCast_nonneg i) (by simp[iP]) (by simp;exact Dr t3) ?_
 k_extra"wg"
 refine xA (by exact Dq Oo On) ?_
 k_extra"wg"
 refine⟨_,_,rfl,rfl,by exact Dq Oo On,?_⟩
 k_extra"wg"
 all_goals (try k_extra"wg")
 all_goals (try k_extra"wg")
 all_goals (try k_extra"wg")
 all_goals (try exact mv (al _ _ _) (by k_extra"hp") ((ao.put (by(first|exact List.mem_cons_self|simp))).trans ((ao.put (by(first|exact .tail _ (.head _)|exact List.mem_cons_self|simp))).trans (ao.put (by exact List.mem_cons_self)))))
 refine gG.list (xs:=xs.map AV.int) (by k_extra"hp") (Int.natCast_nonneg i) (by simp;(assumption)) (by simp;exact Dr t3) ?_
 k_extra"wg"
 refine h _ _ Oo On ⟨ne,xs.set i (xs[i].fdiv limit),i,j+1,by k_extra"hp",?_,by simpa using t3,t4⟩ ((ao.put (by exact List.mem_cons_self)).trans (ao.put (by exact .tail _ (.head _))))
 rw[al,List.map_set,Int.toNat_natCast]
theorem sC:nsIn e.G.K mainGlobals ("_law_term":Str)=some (some (.ref 615)):=by kernel_rfl
theorem zq:keepIn e.G.K (.ref 615)=true:=by kernel_rfl
theorem X8:kR e.G.K ("F_MINUS1":Str)=some 12:=by kernel_rfl
theorem Kg:kR e.G.K ("F_PLUS":Str)=some 14:=by kernel_rfl
theorem zJ:kR e.G.K ("F_MINUS":Str)=some 13:=by kernel_rfl
theorem zL:kR e.G.K ("F_CALL1":Str)=some 24:=by kernel_rfl
theorem zK:kR e.G.K ("F_CALL2":Str)=some 25:=by kernel_rfl
theorem V9:True:=by
 k_with"wf"=>(first|(with_reducible first|exact X8|exact Kg|exact zJ|exact zL|exact zK|exact oH|exact ul|exact sC|exact zq)|fail)
 trivial
theorem V7:True:=by
 k_with"wk"=>(first|((focus(refine' WE.cp ?_ ?_ ?_;rotate_right 3;(· with_reducible first|exact oH|exact sC);(· with_reducible first|exact ul|exact zq))))|fail)
 trivial
theorem gf.grow{lt l0:Addr}{H H':ah}(T:gf lt l0 H)(F:∀a o,H a=some o->a=lt∨a=l0->H' a=some o):gf lt l0 H':=by
 obtain⟨ne,xs,i,j,t1,t2,t3⟩:=T
 exact⟨ne,xs,i,j,F _ _ t1 (.inl rfl),F _ _ t2 (.inr rfl),t3⟩
theorem gf.new{lt l0:Addr}{H:ah}(T:gf lt l0 H){l:Addr}(hl:H l=none)(o:AO):gf lt l0 (H.put l o)/\l∉[lt,l0]:=by
 have g:gf lt l0 (H.put l o):=T.grow fun a o' e _=>by
  have n:a≠l:=fun z=>by
   rw[z,hl]at e
   exact ax e
  exact(aj _ _ n).trans e
 refine⟨g,fun z=>?_⟩
 clear g o;obtain⟨ne,xs,i,j,t1,t2,t3⟩:=T
 clear ne;rcases de z with rfl|z
 ·rw[t1]at hl;(exact bg hl)
 ·clear t3 t1 j i;rcases de z with rfl|z
  ·rw[t2]at hl;(exact bg hl)
  ·cases z
def Tm.low(n:Nat)(t:Tm):Prop:=∀k∈t.occs,k.val<n
def pq(e:Ev)(n:Nat)(deep:Int)(z:Nat):Prop:=∀ (lt l0:Addr) (H:ah) (Q:AV->ah->Prop),gf lt l0 H->(∀ (t:Tm) H',t.size<=z->t.low 5->gf lt l0 H'->ao [lt,l0] H H'->Q t.av H')->WC e.G n (.ref 615) [.ref lt,.int deep] H Q
theorem lL(deep:Int)(z:Nat)(IH:0<deep->pq e (D+102) (deep-1) z):pq e (D+103) deep (2*z+1):=by
 intro lt l0 H Q T h
 refine bj (ns:=["tape","deep"]) (by kernel_rfl) (by kernel_rfl) rfl (fL (by intro x y;kernel_rfl)) ?_
 k_extra"norm_m"
 k_extra"wg"
 refine eb T 6 (by decide) fun d H1 d0 d1 T1 F1=>?_
 have BQ:∀ {H2:ah} {n:Int},0<=n->n<5->gf lt l0 H2->ao [lt,l0] H1 H2->Q (.tup [sS "v",.int n]) H2:=fun {H2 n} n0 n1 T2 F2=>by
  have z:=h (.v ⟨n.toNat,by exact Dp n1⟩) H2 (by simp[bL,bN,bM,bE,bD]) (fun k hk=>by simp only[dP,dR,dQ,c8,cZ,List.mem_singleton]at hk;subst hk;show n.toNat<5;exact Mu n1) T2 (F1.trans F2)
  have:vi ⟨n.toNat,by exact Dp n1⟩=n:=by show((n.toNat:Nat):Int)=n;exact Fa n0
  change Q (.tup [sS "v",.int (vi _)]) H2 at z
  rw[this]at z
  exact z
 k_extra"wg"
 ·k_extra"wg"
  refine eb T1 4 (by decide) fun n H2 n0 n1 T2 F2=>?_
  k_extra"wg"
  exact h (.a n) H2 (by simp[bL,bN,bM,bE,bD]) (fun k hk=>by simp[dP,dR,dQ,c8,cZ]at hk) T2 (F1.trans F2)
 k_extra"wg"
 ·k_extra"wg"
  refine Gz ?_
  k_extra"wg"
  refine eb T1 (10 ^ 20) (by decide) fun n H2 n0 n1 T2 F2=>?_
  k_extra"wg"
  exact h (.i (n-5)) H2 (by simp[bL,bN,bM,bE,bD]) (fun k hk=>by simp[dP,dR,dQ,c8,cZ]at hk) T2 (F1.trans F2)
 k_extra"wg"
 all_goals (try k_extra"wg")
 ·refine IH ‹_› _ _ _ _ T1 fun t H2 z2 o2 T2 F2=>?_
  k_extra"wg"
  exact h (.s1 t) H2 (by simp only[bL,bN,bM,bE,bD];exact Mt z2) o2 T2 (F1.trans F2)
 ·refine IH ‹_› _ _ _ _ T1 fun t H2 z2 o2 T2 F2=>?_
  k_extra"wg"
  refine IH ‹_› _ _ _ _ T2 fun u H3 z3 o3 T3 F3=>?_
  k_extra"wg"
  intro l hl
  refine bh (T3.new hl (.list [.int 0,.int 14])) fun T4 nl=>?_
  k_extra"wg"
  refine eb T4 2 (by decide) fun b H5 b0 b1 T5 F5=>?_
  have XH:H5 l=some (.list [.int 0,.int 14]):=F5 _ _ (al _ _ _) nl
  have F6:ao [lt,l0] H H5:=F1.trans (F2.trans (F3.trans ((ao.new hl).trans F5)))
  rcases(show b=0∨b=1 by exact Dn b0 b1)with rfl|rfl
  ·k_extra"wg"
   exact h (.s2 false t u) H5 (by simp only[bL,bN,bM,bE,bD];exact vS z2 z3) (fun k hk=>(List.mem_append.mp hk).elim (o2 k) (o3 k)) T5 F6
  ·k_extra"wg"
   exact h (.s2 true t u) H5 (by simp only[bL,bN,bM,bE,bD];exact vS z2 z3) (fun k hk=>(List.mem_append.mp hk).elim (o2 k) (o3 k)) T5 F6
 ·refine eb T1 5 (by decide) fun n H2 n0 n1 T2 F2=>?_
  k_extra"wg"
  exact BQ n0 n1 T2 F2
 ·refine eb T1 5 (by decide) fun n H2 n0 n1 T2 F2=>?_
  k_extra"wg"
  exact BQ n0 n1 T2 F2
 ·refine IH ‹_› _ _ _ _ T1 fun t H2 z2 o2 T2 F2=>?_
  k_extra"wg"
  refine IH ‹_› _ _ _ _ T2 fun u H3 z3 o3 T3 F3=>?_
  k_extra"wg"
  intro l hl
  refine bh (T3.new hl (.list [.int 0,.int 14])) fun T4 nl=>?_
  k_extra"wg"
  refine eb T4 2 (by decide) fun b H5 b0 b1 T5 F5=>?_
  have XH:H5 l=some (.list [.int 0,.int 14]):=F5 _ _ (al _ _ _) nl
  have F6:ao [lt,l0] H H5:=F1.trans (F2.trans (F3.trans ((ao.new hl).trans F5)))
  rcases(show b=0∨b=1 by exact Dn b0 b1)with rfl|rfl
  ·k_extra"wg"
   exact h (.s2 false t u) H5 (by simp only[bL,bN,bM,bE,bD];exact vS z2 z3) (fun k hk=>(List.mem_append.mp hk).elim (o2 k) (o3 k)) T5 F6
  ·k_extra"wg"
   exact h (.s2 true t u) H5 (by simp only[bL,bN,bM,bE,bD];exact vS z2 z3) (fun k hk=>(List.mem_append.mp hk).elim (o2 k) (o3 k)) T5 F6
 ·refine eb T1 5 (by decide) fun n H2 n0 n1 T2 F2=>?_
  k_extra"wg"
  exact BQ n0 n1 T2 F2
 ·refine eb T1 5 (by decide) fun n H2 n0 n1 T2 F2=>?_
  k_extra"wg"
  exact BQ n0 n1 T2 F2
theorem yc:pq e (D+105) 2 7:=by
 have h0:pq e (D+103) 0 1:=lL (D:=D) 0 0 (fun z=>absurd z (by decide))
 have h1:pq e (D+104) 1 3:=lL (D:=D+1) 1 1 (fun _=>h0)
 have h2:=lL (e:=e) (D:=D+2) 2 3 (fun _=>h1)
 exact h2
theorem HR:cJ e.G.K 443 ("functor":Str)=true:=by kernel_rfl
theorem HQ:cJ e.G.K 443 ("args":Str)=true:=by kernel_rfl
theorem HP:cJ e.G.K 443 ("goals":Str)=true:=by kernel_rfl
theorem HO:cJ e.G.K 443 ("count":Str)=true:=by kernel_rfl
theorem Iz:makesIn e.G.K 443=true:=by kernel_rfl
theorem Jr:findIn e.G.K (.ref 443) "__init__"=some (some (.ref 440)):=by kernel_rfl
theorem Kc:isFn e.G.K (.ref 440)=true:=by kernel_rfl
theorem Jb:nsIn e.G.K mainGlobals ("KernelClause":Str)=some (some (.ref 443)):=by kernel_rfl
theorem PW:keepIn e.G.K (.ref 443)=true:=by kernel_rfl
theorem V6:True:=by
 k_with"wf"=>(first|(with_reducible first|exact HR|exact HQ|exact HP|exact HO)|fail)
 trivial
theorem wz{lg:Addr}{ai:List Tm}{ag:List Goal}(hg:H lg=some (.list (ag.map Goal.av)))(n:Int){Q:AQ}(h:∀lk H',H lk=none->ki H' lk ai ag n->ao [] H H'->Q (.ref lk) H'):WC e.G (D+2) (.ref 443) [.int 24,.tup (ai.map Tm.av),.ref lg,.int n] H Q:=by
 refine pM Iz Jr Kc fun x dx hx lI ne=>?_
 refine bj (ns:=["self","functor","args","goals","count"]) (by kernel_rfl) (by kernel_rfl) rfl (C6 (by intro x y z u v;kernel_rfl)) ?_
 k_extra"norm_m"
 have out:∀ {a:Addr} {o:AO},H a=some o->a≠x/\a≠dx:=fun q=>⟨fun z=>(by rw[z,hx]at q;(exact ax q)),fun z=>(by rw[z,lI]at q;(exact ax q))⟩
 refine bh (out hg) fun g1 g2=>?_
 k_extra"wg"
 refine⟨rfl,h x _ hx ⟨dx,lg,by k_extra"hp",by k_extra"hp",by k_extra"hp"⟩ fun a o q _=>?_⟩
 refine bh (out q) fun b1 b2=>?_
 k_extra"hp"
theorem Ii:nsIn e.G.K mainGlobals ("_law_number":Str)=some (some (.ref 627)):=by kernel_rfl
theorem O8:keepIn e.G.K (.ref 627)=true:=by kernel_rfl
theorem Ih:nsIn e.G.K mainGlobals ("_law_number_term":Str)=some (some (.ref 634)):=by kernel_rfl
theorem O7:keepIn e.G.K (.ref 634)=true:=by kernel_rfl
theorem V0:True:=by
 k_with"wf"=>(first|(with_reducible first|exact Ii|exact O8|exact Ih|exact O7)|fail)
 trivial
theorem jw{lc:Addr}{cs:bF}(k:Int)(hc:H lc=some (.aB cs.es))(hz:cs.length<=1000){Q:AQ}
 (h:∀H',H' lc=some (.aB (j9 k cs).es)->ao [lc] H H'->Q .none H'):WC e.G (D+1) (.ref 627) [.ref lc,.int k] H Q:=by
 refine bj (ns:=["counts","k"]) (by kernel_rfl) (by kernel_rfl) rfl (fL (by intro x y;kernel_rfl)) ?_
 k_extra"norm_m"
 k_extra"wg"
 refine uN hc rfl rfl ?_
 rw[bF.getD]
 k_extra"wg"
 refine gG.aB hc (by show(cs.map _).length<=_;rw[List.length_map];exact d6 hz (by decide)) ?_
 rw[B2]
 k_extra"wg"
 exact h _ (al _ _ _) (ao.put (by exact List.mem_cons_self))
def Az(e:Ev)(N:Nat)(t:Tm):Prop:=∀ (lc:Addr) (cs:bF) (H:ah) (Q:AV->ah->Prop),H lc=some (.aB cs.es)->cs.length+t.size<=900->(∀H',H' lc=some (.aB (gc t.occs cs).es)->ao [lc] H H'->Q .none H')->WC e.G N (.ref 634) [.ref lc,t.av] H Q
theorem iZ(t:Tm):t.occs.length<=t.size:=by
 induction t with
 |v k=>exact Nat.le_refl _
 |a n=>exact Nat.zero_le _
 |i n=>exact Nat.zero_le _
 |s1 u ih=>exact Nat.le_succ_of_le ih
 |s2 f u w Jv Ju=>
  show(u.occs++w.occs).length<=_
  rw[List.length_append]
  exact Nat.le_succ_of_le (Nat.add_le_add Jv Ju)
theorem yS(t:Tm)(IH:∀u∈t.args,Az e (D+1) u):Az e (D+2) t:=by
 intro lc cs H Q hc hl h
 refine bj (ns:=["counts","part"]) (by kernel_rfl) (by kernel_rfl) rfl (fL (by intro x y;kernel_rfl)) ?_
 k_extra"norm_m"
 cases t with
 |v k=>
  k_extra"wg"
  refine jw (vi k) hc (by exact Ms hl) fun H1 h1 F1=>?_
  k_extra"wg"
  exact h _ h1 F1
 |a n=>
  k_extra"wg"
  exact h _ hc ao.refl
 |i n=>
  k_extra"wg"
  exact h _ hc ao.refl
 |s1 u=>
  have BA:cs.length+u.size<=900:=Nat.le_of_succ_le hl
  k_extra"wg"
  refine jG ?_
  k_extra"wg"
  refine⟨_,rfl,?_⟩
  change WS _ _ _ _ _ _ _ _
  k_extra"wg"
  refine IH u (.head _) lc cs _ _ hc BA fun H1 h1 F1=>?_
  k_extra"wg"
  refine⟨trivial,?_⟩
  k_extra"wg"
  exact h _ h1 F1
 |s2 f u w=>
  have nG:cs.length+(u.size+w.size+1)<=900:=hl
  have BA:cs.length+u.size<=900:=by exact Mr nG
  have JN:(gc u.occs cs).length+w.size<=900:=by have:=ic u.occs cs;have:=iZ u;exact Mq nG ‹_› this
  have e2:(Tm.s2 f u w).av=.tup [sS "s",.int (Tm.fn (.s2 f u w)),.tup [u.av,w.av]]:=by(clear h hl IH;cases f)<;>rfl
  rw[e2]
  generalize Tm.fn (.s2 f u w)=q
  k_extra"wg"
  refine jG ?_
  k_extra"wg"
  refine⟨_,rfl,?_⟩
  change WS _ _ _ _ _ _ _ _
  k_extra"wg"
  refine IH u (.head _) lc cs _ _ hc BA fun H1 h1 F1=>?_
  k_extra"wg"
  refine⟨trivial,?_⟩
  change WS _ _ _ _ _ _ _ _
  k_extra"wg"
  refine IH w (.tail _ (.head _)) lc _ _ _ h1 JN fun H2 h2 F2=>?_
  k_extra"wg"
  refine⟨trivial,?_⟩
  k_extra"wg"
  exact h _ (by rw[show(Tm.s2 f u w).occs=u.occs++w.occs from rfl,kX];exact h2) (F1.trans F2)
theorem Be:∀ (n:Nat) (t:Tm),t.size<=n->Az e (D+n+1) t:=by
 intro n
 induction n with
 |zero=>intro t h;have:=bW t;exact absurd h (by exact vR this)
 |succ n ih=>exact fun t h=>yS (D:=D+n) t fun u hu=>ih u (Nat.le_of_lt_succ (Nat.lt_of_lt_of_le (gX hu) h))
theorem zH:∀ (as:List Tm),(∀t∈as,t.size<=7)->(as.flatMap Tm.occs).length<=7*as.length:=by
 intro as
 induction as with
 |nil=>exact fun _=>Nat.le_refl _
 |cons t r ih=>
  intro h
  have:=ih fun x hx=>h x (.tail _ hx)
  have:=h t (.head _)
  have:=iZ t
  rw[List.flatMap_cons,List.length_append,fi]
  exact Mp ‹_› ‹_› this
theorem ao.re{ms:List Addr}{H H':ah}{l:Addr}{o:AO}(hl:H l=some o)(F:ao (l::ms) H H'):ao ms H (H'.put l o):=fun a o' q n=>by
 by_cases z:a=l
 ·rw[z]at q⊢
  rw[al]
  exact hl.symm.trans q
 ·exact(aj _ _ z).trans (F a o' q (by rw[List.mem_cons,not_or];exact⟨z,n⟩))
theorem t6{t:Tm}(hz:t.size<=7){lc:Addr}{cs:bF}(hc:H lc=some (.aB cs.es))(hl:cs.length+7<=900){Q:AQ}(h:∀H',H' lc=some (.aB (gc t.occs cs).es)->ao [lc] H H'->Q .none H'):WC e.G (D+8) (.ref 634) [.ref lc,t.av] H Q:=
 Be 7 t hz lc cs H Q hc (by exact Mo hz hl) h
theorem xe{lh lg:Addr}{ai:List Tm}{ag:List Goal}(hh:H lh=some (.list (ai.map Tm.av)))(hg:H lg=some (.list (ag.map Goal.av)))(zh:∀t∈ai,t.size<=7)(zg:∀g∈ag,g.plain=true/\g.bV.length<=2/\∀t∈g.bV,t.size<=7)
 (nh:ai.length<=3) (ng:ag.length<=6) {Q:AQ} (h:∀lc H',H lc=none->H' lc=some (.aB (dN ai ag).es)->ao [] H H'->Q (.ref lc) H'):WC e.G (D+9) (.ref 641) [.ref lh,.ref lg] H Q:=by
 refine bj (ns:=["heads","goals_"]) (by kernel_rfl) (by kernel_rfl) rfl (fL (by intro x y;kernel_rfl)) ?_
 k_extra"norm_m"
 refine WS.cons (W1.assign (nN fun lc kt=>?_))
 have N6:lh≠lc:=fun z=>by rw[z,kt]at hh;(exact ax hh)
 have En:lg≠lc:=fun z=>by rw[z,kt]at hg;(exact ax hg)
 have TW:(H.put lc (.aB [])) lh=some (.list (ai.map Tm.av)):=(aj _ _ N6).trans hh
 have XO:(H.put lc (.aB [])) lg=some (.list (ag.map Goal.av)):=(aj _ _ En).trans hg
 have QL:(H.put lc (.aB [])) lc=some (.aB (bF.es [])):=al _ _ _
 have F1:ao [] H (H.put lc (.aB [])):=ao.new kt
 generalize H.put lc (.aB [])=H1 at *
 refine WS.seq (fun m2 H2=>Sub [("goals_",.ref lg),("counts",.ref lc)] m2/\H2 lc=some (.aB (gR ai []).es)/\(gR ai []).length<=21/\ao [lc] H1 H2) ?_ ?_
 ·refine mA (WE.name rfl ⟨lh,_,rfl,TW,fun ob=>?_⟩)
  refine dS.rule (fun au m' H'=>∃cs,Sub [("goals_",.ref lg),("counts",.ref lc)] m'/\H' lc=some (.aB (bF.es cs))/\gR au cs=gR ai []/\cs.length+7*au.length<=21/\(∀t∈au,t.size<=7)/\ao [lh,lc] H1 H') (fun t au m2 H2 I kp=>?_) (fun m2 H2 I kp=>?_) ai (al _ _ _) ⟨[],Sub.cons rfl (Sub.cons rfl Sub.nil),(aj _ _ N6.symm).trans QL,rfl,by rw[List.length_nil];exact Mn nh,zh,ao.put (by exact List.mem_cons_self)⟩
  ·refine eO (I) fun cs i1 i2 i3 i4 i5 i6=>?_;clear I
   have ui:H2 lh=some (.ro (.list (ai.map Tm.av)) ob):=kp
   rw[fi]at i4
   refine WS.weak (m':=[("part",t.av),("goals_",.ref lg),("counts",.ref lc)]) (Sub.cons rfl (Sub.cons (i1 _ _ rfl) (Sub.cons (i1 _ _ rfl) Sub.nil))) ?_
   k_extra"wg"
   refine t6 (i5 t (.head _)) i2 (by exact Mm i4) fun H3 h3 F3=>?_
   k_extra"wg"
   have z1:=ic t.occs cs
   have z2:=iZ t
   have z3:=i5 t (.head _)
   exact⟨F3 _ _ ui (by simpa using N6),_,Sub.cons rfl (Sub.cons rfl Sub.nil),h3,i3,by exact Ml i4 z1 z2 z3,fun t ht=>i5 t (.tail _ ht),i6.trans (F3.sub (by simp))⟩
  ·refine eO (I) fun cs i1 i2 i3 i4 i5 i6=>?_;clear I
   refine⟨rfl,i1,?_,?_,ao.re TW i6⟩
   ·rw[←i3];exact(aj _ _ N6.symm).trans i2
   ·rw[←i3];exact d6 (Nat.le_add_right _ _) i4
 ·intro m2;intro H2;intro ak;refine gU (ak) fun i1 i2 i3 F2=>?_;clear ak
  refine WS.weak (m':=[("goals_",.ref lg),("counts",.ref lc)]) i1 ?_
  have EK:H2 lg=some (.list (ag.map Goal.av)):=F2 _ _ XO (by simpa using En)
  refine WS.seq (fun m3 H3=>Sub [("counts",.ref lc)] m3/\H3 lc=some (.aB (dN ai ag).es)/\ao [lc] H1 H3) ?_ ?_
  ·refine mA (WE.name rfl ⟨lg,_,rfl,EK,fun ob=>?_⟩)
   refine dS.rule (fun au m' H'=>∃cs,Sub [("counts",.ref lc)] m'/\H' lc=some (.aB (bF.es cs))/\oQ au cs=dN ai ag/\cs.length+14*au.length<=105/\(∀g∈au,g.plain=true/\g.bV.length<=2/\∀t∈g.bV,t.size<=7)/\ao [lg,lc] H2 H') (fun g au m3 H3 I kp=>?_) (fun m3 H3 I kp=>?_) ag (al _ _ _) ⟨gR ai [],Sub.cons rfl Sub.nil,(aj _ _ En.symm).trans i2,rfl,by exact Mj ng i3,zg,ao.put (by exact List.mem_cons_self)⟩
   ·refine eO (I) fun cs j1 j2 j3 j4 j5 j6=>?_;clear I
    have ui:H3 lg=some (.ro (.list (ag.map Goal.av)) ob):=kp
    rw[fi]at j4
    refine ci (j5 g (.head _)) fun gp gl gt=>?_
    have Xh:∀g∈au,g.plain=true/\g.bV.length<=2/\∀t∈g.bV,t.size<=7:=fun x hx=>j5 x (.tail _ hx)
    clear j5 kp
    have step:∀ (mN:bF) (m':bP) (H':ah),H' lc=some (.aB mN.es)->mN=gc g.nums cs->mN.length<=cs.length+14->ao [lc] H3 H'->List.lookup ("counts":Str) m'=some (.ref lc)->
     cA (some (lg,.ro (.list (ag.map Goal.av)) ob)) H'/\∃cs,Sub [("counts",.ref lc)] m'/\H' lc=some (.aB (bF.es cs))/\oQ au cs=dN ai ag/\cs.length+14*au.length<=105/\(∀g∈au,g.plain=true/\g.bV.length<=2/\∀t∈g.bV,t.size<=7)/\ao [lg,lc] H2 H':=
     fun mN m' H' a1 a2 a3 a4 a5=>⟨a4 _ _ ui (by simpa using En),mN,Sub.cons a5 Sub.nil,a1,by rw[a2];exact j3,by exact Mi j4 a3,Xh,j6.trans (a4.sub (by simp))⟩
    refine WS.weak (m':=[("goal_",g.av),("counts",.ref lc)]) (Sub.cons rfl (Sub.cons (j1 _ _ rfl) Sub.nil)) ?_
    have arg:∀ (as:List Tm),as.length<=2->(∀t∈as,t.size<=7)->(gc (as.flatMap Tm.occs) cs).length<=cs.length+14:=fun as a1 a2=>by
     have:=ic (as.flatMap Tm.occs) cs
     have:=zH as a2
     exact Mh a1 ‹_› this
    cases g with
    |unify l r=>exact bI gp
    |cut=>
     k_extra"wg"
     exact step cs _ _ j2 rfl (Nat.le_add_right _ _) ao.refl rfl
    |level k=>
     k_extra"wg"
     refine jw (vi k) j2 (by exact Al j4) fun H4 h4 F4=>?_
     k_extra"wg"
     exact step _ _ _ h4 rfl (d6 (kY _ _) (by exact Ak)) F4 rfl
    |mark k=>
     k_extra"wg"
     refine jw (vi k) j2 (by exact Al j4) fun H4 h4 F4=>?_
     k_extra"wg"
     exact step _ _ _ h4 rfl (d6 (kY _ _) (by exact Ak)) F4 rfl
    |eA k=>
     k_extra"wg"
     refine jw (vi k) j2 (by exact Al j4) fun H4 h4 F4=>?_
     k_extra"wg"
     exact step _ _ _ h4 rfl (d6 (kY _ _) (by exact Ak)) F4 rfl
    |call f as=>
     have gl:as.length<=2:=gl
     have ab:=arg as gl gt
     rw[show(Goal.call f as).av=.tup [sS "call",.int f,.tup (as.map Tm.av)]from rfl]
     k_extra"wg"
     refine ku (cm rfl) ?_
     k_extra"wg"
     refine jG ?_
     k_extra"wg"
     refine⟨_,rfl,?_⟩
     refine dS.rule (fun f0 m' H'=>∃mN,List.lookup ("counts":Str) m'=some (.ref lc)/\H' lc=some (.aB (bF.es mN))/\gR f0 mN=gR as cs/\mN.length+7*f0.length<=200/\(∀t∈f0,t.size<=7)/\ao [lc] H3 H') (fun t f0 m4 H4 I _=>?_) (fun m4 H4 I _=>?_) as trivial ⟨cs,rfl,j2,rfl,by exact Dm j4 gl,gt,ao.refl⟩
     ·refine eO (I) fun mN u1 u2 u3 u4 u5 u6=>?_;clear I
      rw[fi]at u4
      refine WS.weak (m':=[("part",t.av),("counts",.ref lc)]) (Sub.cons rfl (Sub.cons u1 Sub.nil)) ?_
      k_extra"wg"
      refine t6 (u5 t (.head _)) u2 (by exact Dl u4) fun H5 h5 F5=>?_
      k_extra"wg"
      have z1:=ic t.occs mN
      have z2:=iZ t
      have z3:=u5 t (.head _)
      exact⟨trivial,_,rfl,h5,u3,by exact Dk u4 z1 z2 z3,fun t ht=>u5 t (.tail _ ht),u6.trans F5⟩
     ·refine eO (I) fun mN u1 u2 u3 u4 u5 u6=>?_;clear I
      k_extra"wg"
      exact step mN _ _ u2 (u3.trans (gM as cs)) (by rw[show mN=_ from u3.trans (gM as cs)];exact ab) u6 u1
    |builtin f as=>
     have gl:as.length<=2:=gl
     have ab:=arg as gl gt
     rw[show(Goal.builtin f as).av=.tup [sS "builtin",.int f,.tup (as.map Tm.av)]from rfl]
     k_extra"wg"
     refine ku (cm rfl) ?_
     k_extra"wg"
     refine jG ?_
     k_extra"wg"
     refine⟨_,rfl,?_⟩
     refine dS.rule (fun f0 m' H'=>∃mN,List.lookup ("counts":Str) m'=some (.ref lc)/\H' lc=some (.aB (bF.es mN))/\gR f0 mN=gR as cs/\mN.length+7*f0.length<=200/\(∀t∈f0,t.size<=7)/\ao [lc] H3 H') (fun t f0 m4 H4 I _=>?_) (fun m4 H4 I _=>?_) as trivial ⟨cs,rfl,j2,rfl,by exact Dm j4 gl,gt,ao.refl⟩
     ·refine eO (I) fun mN u1 u2 u3 u4 u5 u6=>?_;clear I
      rw[fi]at u4
      refine WS.weak (m':=[("part",t.av),("counts",.ref lc)]) (Sub.cons rfl (Sub.cons u1 Sub.nil)) ?_
      k_extra"wg"
      refine t6 (u5 t (.head _)) u2 (by exact Dl u4) fun H5 h5 F5=>?_
      k_extra"wg"
      have z1:=ic t.occs mN
      have z2:=iZ t
      have z3:=u5 t (.head _)
      exact⟨trivial,_,rfl,h5,u3,by exact Dk u4 z1 z2 z3,fun t ht=>u5 t (.tail _ ht),u6.trans F5⟩
     ·refine eO (I) fun mN u1 u2 u3 u4 u5 u6=>?_;clear I
      k_extra"wg"
      exact step mN _ _ u2 (u3.trans (gM as cs)) (by rw[show mN=_ from u3.trans (gM as cs)];exact ab) u6 u1
   ·refine eO (I) fun cs j1 j2 j3 j4 j5 j6=>?_;clear I
    have:cs=dN ai ag:=j3
    clear j4 j3;subst this
    exact⟨rfl,j1,(aj _ _ En.symm).trans j2,F2.trans (ao.re EK j6)⟩
  ·intro m3;intro H3;intro ak;refine ci (ak) fun j1 j2 F3=>?_;clear ak
   refine WS.weak (m':=[("counts",.ref lc)]) j1 ?_
   k_extra"wg"
   exact h lc _ kt j2 (ao.drop kt (by
    intro a o q n
    exact F3 a o (F1 a o q (by simp)) n))
noncomputable def CH(K:Frag)(fd:FuncData)(ns:List Str)(z:Str):Bool:=yQ K fd&&(ns.all fun y=>fd.scope.names.lookup y==some .local||fd.scope.names.lookup y==some .cell)&&(fd.scope.names.lookup z==some .cell)
theorem tD{D:Nat}{H:ah}{f:Addr}{ns:List Str}{args:List AV}{z:Str}{m':bP}{Q:AQ}(hf:zG (KK e.w.params) f=some (jL e.w.params f))(qO:CH (KK e.w.params) (jL e.w.params f) ns z=true)(hlen:args.length=ns.length)
 (jf:∀vals:List Value,vals.length=ns.length->bindArgs (jL e.w.params f) ⟨vals,[]⟩=pure (ns.zip vals))
 (zC:∀n,cellsFrom n (jL e.w.params f).scope.names []=[(z,n)])
 (hm:∀y∈m',(ns.zip args).reverse.lookup y.1=some y.2/\(jL e.w.params f).scope.names.lookup y.1=some .local)
 (h:∀ca,H ca=none->WS e.G D (jL e.w.params f).scope [(z,ca)] (iI (jL e.w.params f).body) m' (H.put ca (jA ((ns.zip args).reverse.lookup z))) fun fl _ H'=>Q (lU fl) H'):WC e.G (D+1) (.ref f) args H Q:=by
 obtain⟨qO,h7⟩:=mu qO
 obtain⟨qO,h6⟩:=mu qO
 obtain⟨q,h5,h8,h9,J6⟩:=os qO
 obtain⟨oc,od,AD,hl⟩:=qU hf q
 exact D0 hl h5 (fun vals lv=>(congrArg (fun x=>bindArgs x ⟨vals,[]⟩) q).symm.trans (jf vals lv)) (fun y hy=>List.all_eq_true.mp h6 y hy) zC (eq_of_beq h7) h8 h9 J6 hlen hm h
theorem ka:nsIn e.G.K mainGlobals ("tuple":Str)=some none:=by kernel_rfl
theorem iC:bootBuiltins ("tuple":Str)=some (.type "tuple"):=by kernel_rfl
theorem WS.last{G:Gl}{D:Nat}{H:ah}{cs:Scope}{cl:List (Str×Addr)}{m:bP}{st:Stmt}{Q:Fl->bP->ah->Prop}(h:W1 G D cs cl st m H Q):WS G D cs cl [st] m H Q:=
 WS.cons (h.mono fun fl m H q=>by
  cases fl with
  |next=>exact WS.nil q
  |_=>exact q)
inductive BT where
 |v (i:Int)
 |a (n:Int)
 |i (n:Int)
 |s (f:Int) (xs:List BT)
noncomputable def ce(cs:bF):Tm->BT
 |.v k=>.v (if cG cs (vi k)=1 then -1 else vi k)
 |.a n=>.a n
 |.i n=>.i n
 |.s1 t=>.s 12 [ce cs t]
 |.s2 f t u=>.s (Tm.fn (.s2 f t u)) [ce cs t,ce cs u]
mutual
noncomputable def BT.av:BT->AV
 |.v k=>.tup [sS "v",.int k]
 |.a n=>.tup [sS "a",.int n]
 |.i n=>.tup [sS "i",.int n]
 |.s f xs=>.tup [sS "s",.int f,.tup (iH xs)]
noncomputable def iH:List BT->List AV
 |[]=>[]
 |x::r=>BT.av x::iH r
end
def L2{α β:Type}(R:α->β->Prop):List α->List β->Prop
 |[],ys=>ys=[]
 |x::r,ys=>∃y zs,ys=y::zs/\R x y/\L2 R r zs
theorem L2.mono{α β:Type}{R R':α->β->Prop}(k:∀x y,R x y->R' x y):∀ {xs:List α} {ys:List β},L2 R xs ys->L2 R' xs ys:=by
 intro xs
 induction xs with
 |nil=>exact fun h=>h
 |cons x r ih=>
  intro ys h
  refine aE (h) fun y zs e a b=>?_;clear h
  exact⟨y,zs,e,k _ _ a,ih b⟩
theorem L2.len{α β:Type}{R:α->β->Prop}:∀ {xs:List α} {ys:List β},L2 R xs ys->xs.length=ys.length:=by
 intro xs
 induction xs with
 |nil=>intro ys h;cases (show ys=[]from h);rfl
 |cons x r ih=>
  intro ys h
  refine aE (h) fun y zs e a b=>?_;clear h
  rw[e]
  exact congrArg Nat.succ (ih b)
theorem L2.snoc{α β:Type}{R:α->β->Prop}{x:α}{y:β}(h:R x y):∀ {xs:List α} {ys:List β},L2 R xs ys->L2 R (xs++[x]) (ys++[y]):=by
 intro xs
 induction xs with
 |nil=>intro ys q;cases (show ys=[]from q);exact⟨y,[],rfl,h,rfl⟩
 |cons x r ih=>
  intro ys q
  refine aE (q) fun z zs e a b=>?_;clear q
  exact⟨z,zs++[y],by rw[e];rfl,a,ih b⟩
theorem xO:∀ (a b:List BT),iH (a++b)=iH a++iH b:=by
 intro a
 induction a with
 |nil=>exact fun _=>rfl
 |cons x r ih=>exact fun b=>congrArg (List.cons _) (ih b)
theorem GQ:∀ (a:List BT),(iH a).length=a.length:=by
 intro a
 induction a with
 |nil=>rfl
 |cons x r ih=>exact congrArg Nat.succ ih
noncomputable def made(f:Int)(l:Addr):AV:=.tup [sS "s",.int f,.ref l]
noncomputable def kx(k:Int):AV:=.tup [sS "v",.int k]
noncomputable def dz(m:Int):List Atom:=[.s "t",.i m]
def cK(bx:List (List Atom×AV))(L:Addr->Option (List AV)):Nat->AV->BT->Prop
 |0,_,_=>False
 |_+1,p,.v k=>p=kx k
 |_+1,p,.a k=>p=.tup [sS "a",.int k]
 |_+1,p,.i k=>p=.tup [sS "i",.int k]
 |n+1,p,.s f qh=>∃l xs,(p=made f l∨∃m,p=.tup [sS "t",.int m]/\bx.lookup (dz m)=some (made f l))/\qh.length<=1000/\L l=some xs/\L2 (cK bx L n) xs qh
theorem cK.jV{bx Uv:List (List Atom×AV)}{L L':Addr->Option (List AV)}(kb:∀m p,bx.lookup (dz m)=some p->Uv.lookup (dz m)=some p)(kl:∀l xs,L l=some xs->L' l=some xs):∀ {n:Nat} {p:AV} {bt:BT},cK bx L n p bt->cK Uv L' n p bt:=by
 intro n
 induction n with
 |zero=>exact fun h=>h.elim
 |succ n ih=>
  intro p bt h
  cases bt with
  |s f qh=>
   refine el (h) fun l xs a c d e=>?_;clear h
   exact⟨l,xs,a.imp id fun ⟨m,a1,a2⟩=>⟨m,a1,kb _ _ a2⟩,c,kl l xs d,e.mono fun x y q=>ih q⟩
  |_=>exact h
inductive TG where
 |t (b:Bool) (f:Int) (qh:List BT)
 |n (x:Str) (k:Int)
 |c
noncomputable def SN(b:Bool):Str:=cond b "builtin" "call"
def lq(off:Addr->Prop)(H:ah):AV->TG->Prop
 |v,.t b f qh=>∃l,v=.tup [.str (SN b),.int f,.ref l]/\off l/\H l=some (.list (iH qh))
 |v,.n x k=>v=.tup [.str x,.int k]
 |v,.c=>v=.tup [sS "cut"]
theorem lq.jV{off Ip:Addr->Prop}{H H':ah}(F:∀l xs,H l=some (.list xs)->off l->Ip l/\H' l=some (.list xs)){v:AV}{g:TG}(d:lq off H v g):lq Ip H' v g:=by
 cases g with
 |t b f qh=>
  refine aN (d) fun l e n hl=>?_;clear d
  refine bh (F _ _ hl n) fun a b=>?_
  exact⟨l,e,a,b⟩
 |_=>exact d
structure RB where
 ai:List (Int×AV)
 given:List (Int×AV)
 bH:List (List Atom×AV)
 ag:List TG
 L:Addr->Option (List AV)
 fK:Addr
 met:List Part
noncomputable def RB.push(rb:RB)(ys:List AV):RB:={ rb with L:=fun l=>if l=rb.fK then(rb.L l).map (·++ys)else rb.L l }
noncomputable def RB.told(rb:RB)(g:TG):RB:={ rb with ag:=rb.ag++[g] }
noncomputable def RB.open(rb:RB)(l:Addr):RB:={ rb with L:=fun x=>if x=l then some []else rb.L x,fK:=l }
noncomputable def RB.mt(rb:RB)(met:List Part):RB:={ rb with met:=met }
inductive Oz where
 |tell|fK (g:Bool)|void|app|r3|put|get|skip
noncomputable def yd:List Str:=["call","execute","builtin"]
noncomputable def vd:List Str:=["get_list","put_list","get_structure","put_structure"]
noncomputable def gq:List Str:=["get_variable","unify_variable","put_variable","set_variable","get_level","mark"]
noncomputable def gr:List (Str×AV):=[("get_level",.str "level"),("mark",.str "mark"),("cut_to",.str "cutto")]
noncomputable def kS(ws:List Str)(w:Str):Bool:=ws.any (·==w)
noncomputable def qW(w:Str):Str:=⟨#[w.cps.getD 0 0]⟩
noncomputable def cls(w:Str):Oz:=
 cond (kS yd w) .tell (cond (kS vd w) (.fK (qW w=="g")) (cond (w=="unify_void"||w=="set_void") .void
  (cond (Txt.slice w none (some 6)=="unify_"||Txt.slice w none (some 4)=="set_") .app (cond (w=="put_void") .r3 (cond (Txt.slice w none (some 4)=="put_") .put (cond (Txt.slice w none (some 4)=="get_") .get .skip))))))
noncomputable def Part.dat:Part->PyData
 |.t n=>.tuple [.str "t",.int n]
 |.y n=>.tuple [.str "y",.int n]
 |.a n=>.tuple [.str "a",.int n]
 |.c k n=>.tuple [.int k,.int n]
 |.num i=>.int i
noncomputable def Part.key:Part->Option (List Atom)
 |.t n=>some [.s "t",.i n]
 |.y n=>some [.s "y",.i n]
 |.a n=>some [.s "a",.i n]
 |.c k n=>some [.i k,.i n]
 |.num _=>none
noncomputable def kL(es:List (List Atom×AV))(p:Part):Option AV:=p.key.bind fun k=>es.lookup k
noncomputable def me(met:List Part)(p:Part):Bool:=(met.map Part.dat).any fun y=>PyData.eqv y p.dat
noncomputable def nJ:Part->AV
 |.c k n=>if k=4 then .tup [sS "a",.int n]else .tup [sS "i",.int n]
 |p=>p.av
def oq:Part->Prop
 |.c k _=>k=4∨k=5
 |_=>True
def CC(es:List (List Atom×AV))(row:Row)(met:List Part)(K:AV->List Part->Prop):Prop:=match row.2 with
 |[]=>K .none met
 |p::_=>match kL es p with
  |some a=>(kS gq (Str.ofString row.1)==me met p)=false/\K (.tup [sS "v",a]) (met++[p])
  |none=>oq p/\K (nJ p) met
def nZ(g:Bool)(f:Int)(r:Part)(rb:RB)(K:RB->Prop):Prop:=∀l,rb.L l=none->match r with
 |.t m=>K { rb.open l with bH:=bZ (dz m) (made f l) rb.bH }
 |.a i=>K (cond g { rb.open l with ai:=bZ i (made f l) rb.ai } { rb.open l with given:=bZ i (made f l) rb.given })
 |_=>False
def CB(ys:List AV)(rb:RB)(K:RB->Prop):Prop:=∃xs,rb.L rb.fK=some xs/\xs.length<=1000/\ys.length<=1000/\K (rb.push ys)
def yj(W:Str)(ps:List Part)(part:AV)(rb:RB)(K:RB->Prop):Oz->Prop
 |.tell=>rb.given.length<=1000/\∃f r qh,ps=.num f::r/\L2 (fun (i:Nat) bt=>cK rb.bH rb.L 9 ((rb.given.lookup ((i:Int)+1)).getD (kx (-2))) bt) (List.range rb.given.length) qh/\K { rb.told (.t (W=="builtin") f qh)with given:=[] }
 |.fK g=>match ps with
  |[r]=>nZ g 0 r rb K
  |[.num f,r]=>nZ g f r rb K
  |_=>False
 |.void=>∃n:Nat,ps=[.num n]/\0<n/\CB (List.replicate n (kx (-1))) rb K
 |.app=>CB [part] rb K
 |.r3=>∃i,ps=[.a i]/\K { rb with given:=bZ i (kx (-1)) rb.given }
 |.put=>∃q i,ps=[q,.a i]/\K { rb with given:=bZ i part rb.given }
 |.get=>∃q i,ps=[q,.a i]/\K { rb with ai:=bZ i part rb.ai }
 |.skip=>K rb
def rL(row:Row)(part:AV)(rb:RB)(K:RB->Prop):Prop:=yj (Str.ofString row.1) row.2 part rb K (cls (Str.ofString row.1))
def sK(row:Row)(part:AV)(rb:RB)(K:RB->Prop):Prop:=
 cond (gr.lookup (Str.ofString row.1)).isSome (∃x k,gr.lookup (Str.ofString row.1)=some (.str x)/\part=kx k/\K (rb.told (.n x k)))
  (cond (Str.ofString row.1=="neck_cut") (K (rb.told .c)) ((Str.ofString row.1).length<=1000/\rL row part rb K))
def rT(es:List (List Atom×AV))(row:Row)(rb:RB)(K:RB->Prop):Prop:=row.2.length<=9/\CC es row rb.met fun part met=>sK row part (rb.mt met) K
def f5(es:List (List Atom×AV)):List Row->RB->(RB->Prop)->Prop
 |[],rb,K=>K rb
 |row::r,rb,K=>rT es row rb fun rb'=>f5 es r rb' K
noncomputable def yr(l:Addr):RB:={ ai:=[],given:=[],bH:=[],ag:=[],L:=fun x=>if x=l then some []else none,fK:=l,met:=[] }
noncomputable def na(cs:bF):Goal->TG
 |.call f as=>.t false f (as.map (ce cs))
 |.builtin f as=>.t true f (as.map (ce cs))
 |.level k=>.n "level" (vi k)
 |.mark k=>.n "mark" (vi k)
 |.eA k=>.n "cutto" (vi k)
 |_=>.c
noncomputable def vw(cs:bF):Goal->Bool
 |.level k=>decide (1<cG cs (vi k))
 |.mark k=>decide (1<cG cs (vi k))
 |.eA k=>decide (1<cG cs (vi k))
 |_=>true
noncomputable def ib(cs:bF)(ag:List Goal):List Goal:=ag.filter (vw cs)
theorem pT:nsIn e.G.K mainGlobals ("_law_blanked":Str)=some (some (.ref 646)):=by kernel_rfl
theorem wo:keepIn e.G.K (.ref 646)=true:=by kernel_rfl
def rv(e:Ev)(N:Nat)(lc:Addr)(cs:bF)(t:Tm):Prop:=∀ (H:ah) (Q:AV->ah->Prop),H lc=some (.aB cs.es)->(∀H',ao [] H H'->Q (ce cs t).av H')->WC e.G N (.ref 646) [t.av,.ref lc] H Q
theorem uF(lc:Addr)(cs:bF)(t:Tm)(hk:∀k∈t.occs,(cs.lookup (vi k)).isSome=true)(IH:∀u∈t.args,rv e D lc cs u):rv e (D+1) lc cs t:=by
 intro H Q T h
 refine tD (ns:=["part","counts"]) (z:="counts") (m':=[("part",t.av)]) (by kernel_rfl) (by kernel_rfl) rfl (fL (by intro x y;kernel_rfl)) (by intro n;kernel_rfl) (fun y hy=>?_) fun ca qR=>?_
 ·cases fG hy
  exact⟨rfl,by kernel_rfl⟩
 k_extra"norm_m"
 have F0:ao [] H (H.put ca (.cell (.ref lc))):=ao.new qR
 have T0:=F0 _ _ T (by exact fun h=>bv h)
 have ec:jA (([("part":Str),("counts":Str)].zip [t.av,AV.ref lc]).reverse.lookup ("counts":Str))=.cell (.ref lc):=rfl
 rw[ec]
 cases t with
 |v k=>
  have hk:=hk k (.head _)
  refine aY (Option.isSome_iff_exists.mp hk) fun n hn=>?_
  have hl:(bF.es cs).lookup (vi k)=some (.int (n:Int)):=by rw[bF.look,hn];rfl
  have hb:cG cs (vi k)=n:=by unfold cG;rw[hn];rfl
  k_extra"wg"
  refine iV rfl (al _ _ _) ?_
  k_extra"wg"
  refine WI.aB T0 rfl hl ?_
  k_extra"wg"
  ·have e1:(ce cs (.v k)).av=.tup [sS "v",.int (-1)]:=by
    show BT.av (.v (if cG cs (vi k)=1 then -1 else vi k))=_
    rw[if_pos (by rw[hb];exact Mg a)]
    rfl
   rw[e1]at h
   exact h _ F0
  ·have e1:(ce cs (.v k)).av=(Tm.v k).av:=by
    show BT.av (.v (if cG cs (vi k)=1 then -1 else vi k))=_
    rw[if_neg (by rw[hb];exact Mf a)]
    rfl
   rw[e1]at h
   exact h _ F0
 |a n=>
  k_extra"wg"
  exact h _ F0
 |i n=>
  k_extra"wg"
  exact h _ F0
 |s1 u=>
  k_extra"wg"
  refine ft ka iC (by decide) ?_
  refine rE (bcl:=[("counts",ca)]) ?eN rfl ?dj (fV.tup rfl rfl ?cU ?_)
  case eN=>
   intro c h1 h2
   obtain⟨_,_,_,_,_,_,_,_,_,_,_⟩:=c
   dsimp only at h1 h2
   subst h1 h2
   rfl
  case dj=>decide +kernel
  case cU=>decide +kernel
  refine WE.item (WE.name rfl (WE.int (WI.tup (by decide) rfl (cm rfl) ⟨_,rfl,by exact cm rfl,trivial,?_⟩)))
  refine CE.cp pT wo (CE.name (CE.cell rfl (al _ _ _) ?_))
  refine IH u (.head _) _ _ T0 fun H1 F1=>?_
  refine⟨trivial,fun d hd=>?_⟩
  refine AL (al _ _ _) (by exact cm rfl) ?_
  k_extra"wg"
  exact h _ (F0.trans (F1.trans (ao.new hd)))
 |s2 f u w=>
  have e2:(Tm.s2 f u w).av=.tup [sS "s",.int (Tm.fn (.s2 f u w)),.tup [u.av,w.av]]:=by(clear h IH hk;cases f)<;>rfl
  have e3:(ce cs (.s2 f u w)).av=.tup [sS "s",.int (Tm.fn (.s2 f u w)),.tup [(ce cs u).av,(ce cs w).av]]:=rfl
  rw[e2]
  rw[e3]at h
  generalize Tm.fn (.s2 f u w)=q at *
  k_extra"wg"
  refine ft ka iC (by decide) ?_
  refine rE (bcl:=[("counts",ca)]) ?eN rfl ?dj (fV.tup rfl rfl ?cU ?_)
  case eN=>
   intro c h1 h2
   obtain⟨_,_,_,_,_,_,_,_,_,_,_⟩:=c
   dsimp only at h1 h2
   subst h1 h2
   rfl
  case dj=>decide +kernel
  case cU=>decide +kernel
  refine WE.item (WE.name rfl (WE.int (WI.tup (by decide) rfl (cm rfl) ⟨_,rfl,by exact cm rfl,trivial,?_⟩)))
  refine CE.cp pT wo (CE.name (CE.cell rfl (al _ _ _) ?_))
  refine IH u (.head _) _ _ T0 fun H1 F1=>?_
  have QL:H1 ca=some (.cell (.ref lc)):=F1 _ _ (al _ _ _) (by exact fun h=>bv h)
  refine⟨trivial,CE.cp pT wo (CE.name (CE.cell rfl QL ?_))⟩
  refine IH w (.tail _ (.head _)) _ _ (F1 _ _ T0 (by exact fun h=>bv h)) fun H2 F2=>?_
  refine⟨trivial,fun d hd=>?_⟩
  refine AL (al _ _ _) (by exact cm rfl) ?_
  k_extra"wg"
  exact h _ (F0.trans (F1.trans (F2.trans (ao.new hd))))
theorem mr(lc:Addr)(cs:bF):∀ (n:Nat) (t:Tm),t.size<=n->(∀k∈t.occs,(cs.lookup (vi k)).isSome=true)->rv e (D+n) lc cs t:=by
 intro n
 induction n with
 |zero=>intro t h;have:=bW t;exact absurd h (by exact vR this)
 |succ n ih=>
  intro t h hk
  refine uF (D:=D+n) lc cs t hk fun u hu=>ih u (Nat.le_of_lt_succ (Nat.lt_of_lt_of_le (gX hu) h)) fun k q=>hk k ?_
  clear hk h ih n cs;cases t with
  |s1 w=>
   rcases de hu with rfl|hu
   ·exact q
   ·exact bv hu
  |s2 f w z=>
   show k∈w.occs++z.occs
   rcases de hu with rfl|hu
   ·exact List.mem_append_left _ q
   ·rcases de hu with rfl|hu
    ·exact List.mem_append_right _ q
    ·exact bv hu
  |_=>exact bv hu
def jq(cs:bF)(ld:Addr)(H:ah)(gs:List Goal)(xs:List AV):Prop:=L2 (lq (fun l=>l≠ld) H) xs (gs.map (na cs))
theorem jq.jV{cs:bF}{ld:Addr}{H H':ah}(F:∀l xs,H l=some (.list xs)->l≠ld->H' l=some (.list xs)){gs:List Goal}{xs:List AV}(d:jq cs ld H gs xs):jq cs ld H' gs xs:=L2.mono (fun _ _ q=>q.jV fun l xs h n=>⟨n,F l xs h n⟩) d
theorem jq.gB{cs:bF}{ld:Addr}{H H':ah}(F:ao [ld] H H'){gs:List Goal}{xs:List AV}(d:jq cs ld H gs xs):jq cs ld H' gs xs:=d.jV fun l xs h n=>F l _ h (by simpa using n)
theorem jq.snoc{cs:bF}{ld:Addr}{H:ah}{g:Goal}{v:AV}(d:lq (fun l=>l≠ld) H v (na cs g)){gs:List Goal}{xs:List AV}(h:jq cs ld H gs xs):jq cs ld H (gs++[g]) (xs++[v]):=by
 unfold jq
 rw[List.map_append]
 exact L2.snoc d h
theorem xI(cs:bF):∀as:List Tm,iH (as.map (ce cs))=(as.map (ce cs)).map BT.av:=by
 intro as
 induction as with
 |nil=>rfl
 |cons x r ih=>exact congrArg (List.cons _) ih
theorem Ie:nsIn e.G.K mainGlobals ("_law_due_goals":Str)=some (some (.ref 651)):=by kernel_rfl
theorem O5:keepIn e.G.K (.ref 651)=true:=by kernel_rfl
theorem EY{lg lc:Addr}{cs:bF}{ag:List Goal}(hg:H lg=some (.list (ag.map Goal.av)))(hc:H lc=some (.aB cs.es))(zg:∀g∈ag,g.plain=true/\g.bV.length<=2/\(∀t∈g.bV,t.size<=7)/\∀k∈g.nums,(cs.lookup (vi k)).isSome=true)
 (ng:ag.length<=6) {Q:AQ} (h:∀ld xs H',H ld=none->H' ld=some (.list xs)->jq cs ld H' (ib cs ag) xs->ao [] H H'->Q (.ref ld) H'):WC e.G (D+9) (.ref 651) [.ref lg,.ref lc] H Q:=by
 refine tD (ns:=["goals_","counts"]) (z:="counts") (m':=[("goals_",.ref lg)]) (by kernel_rfl) (by kernel_rfl) rfl (fL (by intro x y;kernel_rfl)) (by intro n;kernel_rfl) (fun y hy=>?_) fun ca qR=>?_
 ·cases fG hy
  exact⟨rfl,by kernel_rfl⟩
 k_extra"norm_m"
 have ec:jA (([("goals_":Str),("counts":Str)].zip [AV.ref lg,AV.ref lc]).reverse.lookup ("counts":Str))=.cell (.ref lc):=rfl
 rw[ec]
 k_extra"wg"
 intro ld CT
 have Pk:ca≠ld:=fun z=>by rw[z,al]at CT;(exact bg CT)
 have wP:H ld=none:=by rw[aj _ _ Pk.symm]at CT;exact CT
 have F1:ao [] H ((H.put ca (.cell (.ref lc))).put ld (.list [])):=(ao.new qR).trans (ao.new CT)
 have QJ:((H.put ca (.cell (.ref lc))).put ld (.list [])) ca=some (.cell (.ref lc)):=(aj _ _ Pk).trans (al _ _ _)
 have QB:((H.put ca (.cell (.ref lc))).put ld (.list [])) ld=some (.list []):=al _ _ _
 have EK:=F1 _ _ hg (by simp)
 have QK:=F1 _ _ hc (by simp)
 have Pl:lg≠ld:=fun z=>by rw[z,wP]at hg;(exact ax hg)
 have VI:lc≠ld:=fun z=>by rw[z,wP]at hc;(exact ax hc)
 have VG:lc≠lg:=fun z=>by rw[z,hg]at hc;cases hc
 have En:ca≠lg:=fun z=>by rw[z,hg]at qR;(exact bg qR)
 generalize (H.put ca (.cell (.ref lc))).put ld (.list [])=H2 at *
 refine WS.seq (fun m3 H3=>Sub [("due",.ref ld)] m3/\∃xs,H3 ld=some (.list xs)/\jq cs ld H3 (ib cs ag) xs/\ao [ld] H2 H3) ?_ ?_
 ·refine mA (WE.name rfl ⟨lg,_,rfl,EK,fun ob=>?_⟩)
  refine dS.rule (fun au m' H'=>∃done xs,Sub [("due",.ref ld)] m'/\ag=done++au/\H' ld=some (.list xs)/\jq cs ld H' (ib cs done) xs/\xs.length<=done.length/\ao [lg,ld] H2 H') (fun g au m3 H3 I kp=>?_) (fun m3 H3 I kp=>?_) ag (al _ _ _) ⟨[],[],Sub.cons rfl Sub.nil,rfl,(aj _ _ Pl.symm).trans QB,rfl,Nat.le_refl _,ao.put (by exact List.mem_cons_self)⟩
  ·refine fm (I) fun done xs j1 j2 j3 j4 j5 j6=>?_;clear I
   have ui:H3 lg=some (.ro (.list (ag.map Goal.av)) ob):=kp
   refine gU (zg g (by rw[j2];simp)) ?_;intro gp ga gt gn
   have J1:H3 lc=some (.aB cs.es):=j6 _ _ QK (by simp[VG,VI])
   have zD:H3 ca=some (.cell (.ref lc)):=j6 _ _ QJ (by simp[En,Pk])
   have jl:xs.length<=6:=by have:=congrArg List.length j2;rw[List.length_append]at this;exact Me ng j5 this
   have step:∀ (lH:List AV) (m':bP) (H':ah),H' ld=some (.list lH)->jq cs ld H' (ib cs (done++[g])) lH->lH.length<=xs.length+1->ao [ld] H3 H'->List.lookup ("due":Str) m'=some (.ref ld)->
    cA (some (lg,.ro (.list (ag.map Goal.av)) ob)) H'/\∃done xs,Sub [("due",.ref ld)] m'/\ag=done++au/\H' ld=some (.list xs)/\jq cs ld H' (ib cs done) xs/\xs.length<=done.length/\ao [lg,ld] H2 H':=
    fun lH m' H' a1 a2 a3 a4 a5=>⟨a4 _ _ ui (by simpa using Pl),done++[g],lH,Sub.cons a5 Sub.nil,by rw[j2,List.append_assoc];rfl,a1,a2,by rw[List.length_append];exact d6 a3 (Nat.succ_le_succ j5),j6.trans (a4.sub (by simp))⟩
   have add:∀ (H4:ah) (v:AV) (m':bP),vw cs g=true->lq (fun l=>l≠ld) (H4.put ld (.list (xs++[v]))) v (na cs g)->ao [ld] H3 H4->List.lookup ("due":Str) m'=some (.ref ld)->_:=fun H4 v m' kg d F a5=>
    step (xs++[v]) m' (H4.put ld (.list (xs++[v]))) (al _ _ _) (by unfold ib;rw[List.filter_append,List.filter_cons_of_pos kg];exact jq.snoc d (jq.gB (F.trans (ao.put (by exact List.mem_cons_self))) j4)) (by rw[List.length_append];exact Nat.le_refl _) (F.trans (ao.put (by exact List.mem_cons_self))) a5
   have skip:∀ (m':bP),vw cs g=false->List.lookup ("due":Str) m'=some (.ref ld)->_:=fun m' kg a5=>
    step xs m' H3 j3 (by unfold ib;rw[List.filter_append,List.filter_cons_of_neg (by rw[kg];exact jx),List.filter_nil,List.append_nil];exact j4) (Nat.le_succ _) ao.refl a5
   clear step
   refine WS.weak (m':=[("goal_",g.av),("due",.ref ld)]) (Sub.cons rfl (Sub.cons (j1 _ _ rfl) Sub.nil)) ?_
   cases g with
   |unify l r=>exact bI gp
   |cut=>
    k_extra"wg"
    refine dG j3 (by exact d6 ‹_› (cm rfl)) ?_
    k_extra"wg"
    exact add H3 _ _ rfl rfl ao.refl rfl
   |level k=>
    refine aY (Option.isSome_iff_exists.mp (gn k (.head _))) fun n hn=>?_
    have hl:(bF.es cs).lookup (vi k)=some (.int (n:Int)):=by rw[bF.look,hn];rfl
    have hb:cG cs (vi k)=n:=by unfold cG;rw[hn];rfl
    k_extra"wg"
    refine iV rfl zD ?_
    k_extra"wg"
    refine WI.aB J1 rfl hl ?_
    k_extra"wg"
    ·refine dG j3 (by exact tn jl) ?_
     k_extra"wg"
     exact add H3 _ _ (decide_eq_true (by rw[hb];exact Aj a)) rfl ao.refl rfl
    ·exact skip _ (decide_eq_false (by rw[hb];exact Ai a)) rfl
   |mark k=>
    refine aY (Option.isSome_iff_exists.mp (gn k (.head _))) fun n hn=>?_
    have hl:(bF.es cs).lookup (vi k)=some (.int (n:Int)):=by rw[bF.look,hn];rfl
    have hb:cG cs (vi k)=n:=by unfold cG;rw[hn];rfl
    k_extra"wg"
    refine iV rfl zD ?_
    k_extra"wg"
    refine WI.aB J1 rfl hl ?_
    k_extra"wg"
    ·refine dG j3 (by exact tn jl) ?_
     k_extra"wg"
     exact add H3 _ _ (decide_eq_true (by rw[hb];exact Aj a)) rfl ao.refl rfl
    ·exact skip _ (decide_eq_false (by rw[hb];exact Ai a)) rfl
   |eA k=>
    refine aY (Option.isSome_iff_exists.mp (gn k (.head _))) fun n hn=>?_
    have hl:(bF.es cs).lookup (vi k)=some (.int (n:Int)):=by rw[bF.look,hn];rfl
    have hb:cG cs (vi k)=n:=by unfold cG;rw[hn];rfl
    k_extra"wg"
    refine iV rfl zD ?_
    k_extra"wg"
    refine WI.aB J1 rfl hl ?_
    k_extra"wg"
    ·refine dG j3 (by exact tn jl) ?_
     k_extra"wg"
     exact add H3 _ _ (decide_eq_true (by rw[hb];exact Aj a)) rfl ao.refl rfl
    ·exact skip _ (decide_eq_false (by rw[hb];exact Ai a)) rfl
   |call f as=>
    rw[show(Goal.call f as).av=.tup [sS "call",.int f,.tup (as.map Tm.av)]from rfl]
    k_extra"wg"
    refine ku (cm rfl) ?_
    k_extra"wg"
    refine rE (bcl:=[("counts",ca)]) ?eN rfl ?dj (fV.tup rfl rfl ?cU ?_)
    case eN=>
     intro c h1 h2
     obtain⟨_,_,_,_,_,_,_,_,_,_,_⟩:=c
     dsimp only at h1 h2
     subst h1 h2
     rfl
    case dj=>decide +kernel
    case cU=>decide +kernel
    refine WE.item (WE.name rfl (WE.int (WI.tup (by decide) rfl (cm rfl) ⟨_,rfl,by simp;exact d6 ga (by decide),?_⟩)))
    refine fB.rule (f:=Tm.av) (fun au acc H=>ao [] H3 H/\∃zQ,as=zQ++au/\acc=(zQ.map (ce cs)).map BT.av) (fun t au acc H4 I _=>?_) (fun acc H4 I _=>?_) as trivial ⟨ao.refl,[],rfl,rfl⟩
    ·refine sU (I) fun F4 zQ e1 e2=>?_;clear I
     have tm:t∈as:=by rw[e1];simp
     refine CE.cp pT wo (CE.name (CE.cell rfl (F4 _ _ zD (by simp)) ?_))
     refine mr (D:=D+1) lc cs 7 t (gt t tm) (fun k hk=>gn k (List.mem_flatMap.mpr ⟨t,tm,hk⟩)) _ _ (F4 _ _ J1 (by simp)) fun H5 F5=>?_
     exact⟨trivial,F4.trans F5,zQ++[t],by rw[e1,List.append_assoc];rfl,by rw[e2,List.map_append,List.map_append];rfl⟩
    ·refine sU (I) fun F4 zQ e1 e2=>?_;clear I
     rw[List.append_nil]at e1
     rw[←e1]at e2
     intro la Bz
     have h4:=F4 _ _ j3 (by simp)
     have n:la≠ld:=fun z=>by rw[z,h4]at Bz;(exact bg Bz)
     refine dG ((aj _ _ n.symm).trans h4) (by exact tn jl) ?_
     k_extra"wg"
     exact add (H4.put la (.list acc)) _ _ rfl ⟨la,rfl,n,(aj _ _ n).trans ((al _ _ _).trans (by rw[e2,xI]))⟩ ((F4.trans (ao.new Bz)).sub (fun _ h=>bv h)) rfl
   |builtin f as=>
    rw[show(Goal.builtin f as).av=.tup [sS "builtin",.int f,.tup (as.map Tm.av)]from rfl]
    k_extra"wg"
    refine ku (cm rfl) ?_
    k_extra"wg"
    refine rE (bcl:=[("counts",ca)]) ?eN rfl ?dj (fV.tup rfl rfl ?cU ?_)
    case eN=>
     intro c h1 h2
     obtain⟨_,_,_,_,_,_,_,_,_,_,_⟩:=c
     dsimp only at h1 h2
     subst h1 h2
     rfl
    case dj=>decide +kernel
    case cU=>decide +kernel
    refine WE.item (WE.name rfl (WE.int (WI.tup (by decide) rfl (cm rfl) ⟨_,rfl,by simp;exact d6 ga (by decide),?_⟩)))
    refine fB.rule (f:=Tm.av) (fun au acc H=>ao [] H3 H/\∃zQ,as=zQ++au/\acc=(zQ.map (ce cs)).map BT.av) (fun t au acc H4 I _=>?_) (fun acc H4 I _=>?_) as trivial ⟨ao.refl,[],rfl,rfl⟩
    ·refine sU (I) fun F4 zQ e1 e2=>?_;clear I
     have tm:t∈as:=by rw[e1];simp
     refine CE.cp pT wo (CE.name (CE.cell rfl (F4 _ _ zD (by simp)) ?_))
     refine mr (D:=D+1) lc cs 7 t (gt t tm) (fun k hk=>gn k (List.mem_flatMap.mpr ⟨t,tm,hk⟩)) _ _ (F4 _ _ J1 (by simp)) fun H5 F5=>?_
     exact⟨trivial,F4.trans F5,zQ++[t],by rw[e1,List.append_assoc];rfl,by rw[e2,List.map_append,List.map_append];rfl⟩
    ·refine sU (I) fun F4 zQ e1 e2=>?_;clear I
     rw[List.append_nil]at e1
     rw[←e1]at e2
     intro la Bz
     have h4:=F4 _ _ j3 (by simp)
     have n:la≠ld:=fun z=>by rw[z,h4]at Bz;(exact bg Bz)
     refine dG ((aj _ _ n.symm).trans h4) (by exact tn jl) ?_
     k_extra"wg"
     exact add (H4.put la (.list acc)) _ _ rfl ⟨la,rfl,n,(aj _ _ n).trans ((al _ _ _).trans (by rw[e2,xI]))⟩ ((F4.trans (ao.new Bz)).sub (fun _ h=>bv h)) rfl
  ·refine fm (I) fun done xs j1 j2 j3 j4 j5 j6=>?_;clear I
   rw[List.append_nil]at j2
   rw[←j2]at j4
   have ui:H3 lg=some (.ro (.list (ag.map Goal.av)) ob):=kp
   exact⟨rfl,j1,xs,(aj _ _ Pl.symm).trans j3,j4.jV fun l ys q _=>(aj _ _ (fun z=>by rw[z,ui]at q;cases q)).trans q,ao.re EK j6⟩
 ·intro m3;intro H3;intro ak;refine uz (ak) fun j1 xs j2 j3 F3=>?_;clear ak
  refine WS.weak (m':=[("due",.ref ld)]) j1 ?_
  k_extra"wg"
  exact h ld xs _ wP j2 j3 (ao.drop wP fun a o q n=>F3 a o (F1 a o q (by simp)) n)
theorem OE{G:Gl}{D:Nat}{fs:Scope}{g6:List (Str×Addr)}{sc:Scope}{bcl:List (Str×Addr)}{x:Str}{elt:Expr}{kp:Option (Addr×AO)}{Q:List AV->ah->Prop}(I:List AV->List AV->ah->Prop)
 (step:∀a au acc H,I (a::au) acc H->cA kp H->CE G D fs g6 sc bcl x a elt H fun r H'=>cA kp H'/\I au (acc++[r]) H') (fin:∀acc H,I [] acc H->cA kp H->Q acc H) (as:List AV) {acc:List AV} {H:ah} (k:cA kp H) (h:I as acc H):fB G D fs g6 sc bcl x elt kp Q as acc H:=by
 have:=fB.rule (f:=fun a:AV=>a) I step fin as k h
 rwa [List.map_id']at this
theorem yt:nsIn e.G.K mainGlobals ("_law_opened":Str)=some (some (.ref 656)):=by kernel_rfl
theorem Ef:keepIn e.G.K (.ref 656)=true:=by kernel_rfl
def uL(e:Ev)(N:Nat)(lb:Addr)(bx:List (List Atom×AV))(L:Addr->Option (List AV))(n:Nat):Prop:=∀ (H:ah) (p:AV) (bt:BT) (Q:AV->ah->Prop),H lb=some (.bX bx)->(∀l xs,L l=some xs->∃o,H l=some o/\o.view=.list xs)->cK bx L n p bt->(∀H',ao [] H H'->Q bt.av H')->WC e.G N (.ref 656) [.ref lb,p] H Q
theorem wt(lb:Addr)(bx:List (List Atom×AV))(L:Addr->Option (List AV))(n:Nat)(IH:uL e (D+1) lb bx L n):uL e (D+2) lb bx L (n+1):=by
 intro H p bt Q hb hL O h
 refine tD (ns:=["boxes","part"]) (z:="boxes") (m':=[("part",p)]) (by kernel_rfl) (by kernel_rfl) rfl (fL (by intro x y;kernel_rfl)) (by intro n;kernel_rfl) (fun y hy=>?_) fun ca qR=>?_
 ·cases fG hy
  exact⟨rfl,by kernel_rfl⟩
 k_extra"norm_m"
 have ec:jA (([("boxes":Str),("part":Str)].zip [AV.ref lb,p]).reverse.lookup ("boxes":Str))=.cell (.ref lb):=rfl
 rw[ec]
 have F0:ao [] H (H.put ca (.cell (.ref lb))):=ao.new qR
 have QM:=F0 _ _ hb (by exact fun h=>bv h)
 cases bt with
 |v k=>
  rw[show p=.tup [sS "v",.int k]from O]
  k_extra"wg"
  exact h _ F0
 |a k=>
  rw[show p=.tup [sS "a",.int k]from O]
  k_extra"wg"
  exact h _ F0
 |i k=>
  rw[show p=.tup [sS "i",.int k]from O]
  k_extra"wg"
  exact h _ F0
 |s f qh=>
  refine el (O) fun l xs hp hz hl hx=>?_;clear O
  refine aA (hL l xs hl) fun o ho Qv=>?_
  have nG:=F0 _ _ ho (by exact fun h=>bv h)
  have Ft:ca≠l:=fun z=>by rw[z,ho]at qR;(exact bg qR)
  have EN:(H.put ca (.cell (.ref lb))) ca=some (.cell (.ref lb)):=al _ _ _
  have Tf:lb≠l:=fun z=>by rw[z,ho]at hb;(clear EN Ft nG QM F0 qR ca;cases hb);cases Qv
  have XX:∀l xs,L l=some xs->∃o,(H.put ca (.cell (.ref lb))) l=some o/\o.view=.list xs:=fun l xs q=>by
   refine aA (hL l xs q) fun o a b=>?_
   exact⟨o,F0 _ _ a (by exact fun h=>bv h),b⟩
  unfold made dz at hp
  clear ho;rcases hp with hp|⟨m,hp,hm⟩
  all_goals
   rw[hp]
   k_extra"wg"
   try
    refine iV rfl EN ?_
    k_extra"wg"
    refine xS (D:=D) (k:=[.s "t",.i m]) QM ?_
    rw[hm]
    k_extra"wg"
   refine ft ka iC (by decide) ?_
   refine rE (bcl:=[("boxes",ca)]) ?eN rfl ?dj (DY rfl rfl ?cU ?_)
   case eN=>
    intro c h1 h2
    obtain⟨_,_,_,_,_,_,_,_,_,_,_⟩:=c
    dsimp only at h1 h2
    subst h1 h2
    rfl
   case dj=>decide +kernel
   case cU=>decide +kernel
   k_extra"wg"
   refine⟨l,o,xs,rfl,nG,Qv,by rw[hx.len];exact d6 hz (by decide),fun ob=>?_⟩
   generalize H.put ca (.cell (.ref lb))=H1 at *
   refine OE (fun au acc H2=>ao [] (H1.put l (.ro (.list xs) ob)) H2/\∃bd br,qh=bd++br/\acc=iH bd/\L2 (cK bx L n) au br) (fun a au acc H2 I kp=>?_) (fun acc H2 I kp=>?_) xs (al _ _ _) ⟨ao.refl,[],qh,rfl,rfl,hx⟩
   ·refine mL (I) fun F2 bd br e1 e2 y zs e3 ha hr=>?_;clear I
    have g2:∀ {a o},H1 a=some o->a≠l->H2 a=some o:=fun q z=>F2 _ _ ((aj _ _ z).trans q) (by exact fun h=>bv h)
    have XW:∀l xs,L l=some xs->∃o,H2 l=some o/\o.view=.list xs:=fun l' lH q=>by
     refine aA (XX l' lH q) fun o' a b=>?_
     by_cases z:l'=l
     ·clear b g2 F2 hp Tf Ft nG Qv o;subst z
      rw[hl]at q
      cases q
      exact⟨_,kp,rfl⟩
     ·exact⟨o',g2 a z,b⟩
    refine CE.cp yt Ef (CE.cell rfl (g2 EN Ft) (CE.name ?_))
    refine IH _ a y _ (g2 QM Tf) XW ha fun H3 F3=>?_
    exact⟨F3 _ _ kp (by exact fun h=>bv h),F2.trans F3,bd++[y],zs,by rw[e1,e3,List.append_assoc];rfl,by rw[e2,xO];rfl,hr⟩
   ·refine qZ (I) fun F2 bd br e1 e2 hr=>?_;clear I
    rw[show br=[]from hr,List.append_nil]at e1
    rw[←e1]at e2
    intro d hd
    have F3:ao [] H1 (H2.put l o):=ao.re nG ((ao.put (by exact List.mem_cons_self)).trans (F2.sub (fun _ h=>bv h)))
    refine AL (al _ _ _) (by rw[e2,GQ];exact d6 hz (by decide)) ?_
    k_extra"wg"
    rw[e2]
    exact h _ (F0.trans (F3.trans (ao.new hd)))
theorem r9(lb:Addr)(bx:List (List Atom×AV))(L:Addr->Option (List AV)):∀n,uL e (D+n+1) lb bx L n:=by
 intro n
 induction n with
 |zero=>exact fun _ _ _ _ _ _ O _=>O.elim
 |succ n ih=>exact wt (D:=D+n) lb bx L n ih
theorem DT{D:Nat}{H:ah}{f:Addr}{ns:List Str}{args:List AV}{z y:Str}{m':bP}{Q:AQ}(hf:zG (KK e.w.params) f=some (jL e.w.params f))(qO:CH (KK e.w.params) (jL e.w.params f) ns z=true)(hlen:args.length=ns.length)
 (jf:∀vals:List Value,vals.length=ns.length->bindArgs (jL e.w.params f) ⟨vals,[]⟩=pure (ns.zip vals))
 (zC:∀n,cellsFrom n (jL e.w.params f).scope.names []=[(y,n+1),(z,n)]) (Qg:y≠z) (hy:(jL e.w.params f).scope.names.lookup y=some .cell) (hu:(ns.zip args).reverse.lookup z=none/\(ns.zip args).reverse.lookup y=none)
 (hm:∀y∈m',(ns.zip args).reverse.lookup y.1=some y.2/\(jL e.w.params f).scope.names.lookup y.1=some .local)
 (h:∀ca cb,H ca=none->H cb=none->ca≠cb->WS e.G D (jL e.w.params f).scope [(y,cb),(z,ca)] (iI (jL e.w.params f).body) m' ((H.put ca .dv).put cb .dv) fun fl _ H'=>Q (lU fl) H'):WC e.G (D+1) (.ref f) args H Q:=by
 obtain⟨qO,h7⟩:=mu qO
 obtain⟨qO,h6⟩:=mu qO
 obtain⟨q,h5,h8,h9,J6⟩:=os qO
 obtain⟨oc,od,AD,hl⟩:=qU hf q
 exact Gy hl h5 (fun vals lv=>(congrArg (fun x=>bindArgs x ⟨vals,[]⟩) q).symm.trans (jf vals lv)) (fun y hy=>List.all_eq_true.mp h6 y hy) zC Qg (eq_of_beq h7) hy h8 h9 J6 hlen hu hm h
structure RA where
 s:Addr
 h:Addr
 b:Addr
 g:Addr
 m:Addr
noncomputable def rM(a:RA)(gv l:Addr):List (Str×AV):=[("heads",.ref a.h),("given",.ref gv),("boxes",.ref a.b),("goals",.ref a.g),("open",.ref l)]
structure bJ(a:RA)(B:ah)(gv:Addr)(rb:RB)(n:Nat)(H:ah):Prop where
 s:H a.s=some (.bq (rM a gv rb.fK))
 h:H a.h=some (.aB rb.ai)
 v:H gv=some (.aB rb.given)
 b:H a.b=some (.bX rb.bH)
 g:∃xs,H a.g=some (.list xs)/\L2 (lq (fun l=>rb.L l=none/\l≠a.g/\l≠a.m) H) xs rb.ag
 m:H a.m=some (.list (rb.met.map Part.av))
 L:∀l xs,rb.L l=some xs->H l=some (.list xs)/\l≠a.g/\l≠a.m
 o:∃xs,rb.L rb.fK=some xs
 ne:a.h≠gv/\a.g≠a.m
 base:∀x o,B x=some o->H x=some o/\x∉[a.s,a.h,gv,a.b,a.g,a.m]/\rb.L x=none
 sz:rb.ai.length<=n/\rb.given.length<=n/\rb.bH.length<=n/\rb.ag.length<=n
 mz:rb.met.length<=n
theorem ao.get{H H':ah}(F:ao [] H H'){x:Addr}{o:AO}(h:H x=some o):H' x=some o:=F x o h (fun z=>bv z)
variable{a:RA}{gv:Addr}{rb:RB}{H':ah}
theorem bJ.gB(R:bJ a B gv rb n H)(F:ao [] H H'):bJ a B gv rb n H':=by
 refine aA (R.g) fun xs g1 g2=>?_
 exact⟨F.get R.s,F.get R.h,F.get R.v,F.get R.b,⟨xs,F.get g1,g2.mono fun _ _ q=>q.jV fun l xs a b=>⟨b,F.get a⟩⟩,F.get R.m,fun l xs q=>⟨F.get (R.L l xs q).1,(R.L l xs q).2⟩,R.o,R.ne,fun x o q=>⟨F.get (R.base x o q).1,(R.base x o q).2⟩,R.sz,R.mz⟩
theorem iY{κ:Type}[DecidableEq κ](k:κ)(v:AV):∀es:List (κ×AV),(bZ k v es).length<=es.length+1:=by
 intro es
 induction es with
 |nil=>exact Nat.le_refl _
 |cons x r ih=>
  obtain⟨q,b⟩:=x
  rw[gJ]
  split
  ·exact Nat.le_succ _
  ·exact Nat.succ_le_succ ih
theorem bJ.Uj(R:bJ a B gv rb n H){x:Addr}{o:AO}(hx:H x=some o)(ho:∀ys,o≠.list ys):x≠a.g/\x≠a.m/\∀l xs,rb.L l=some xs->l≠x:=by
 refine aA (R.g) fun xs g1 _=>?_
 exact⟨ay hx g1 (ho _),ay hx R.m (ho _),fun l xs q=>(ay hx (R.L l xs q).1 (ho _)).symm⟩
theorem bJ.pl(R:bJ a B gv rb n H){x:Addr}{o o':AO}(hx:H x=some o)(ho:∀ys,o≠.list ys)(hm:x∈[a.s,a.h,gv,a.b,a.g,a.m]){gv':Addr}{rb':RB}(eL:rb'.L=rb.L)(eo:∃xs,rb'.L rb'.fK=some xs)(em:rb'.met=rb.met)(eg:rb'.ag=rb.ag)
 (h1:(H.put x o') a.s=some (.bq (rM a gv' rb'.fK))) (h2:(H.put x o') a.h=some (.aB rb'.ai)) (h3:(H.put x o') gv'=some (.aB rb'.given)) (h4:(H.put x o') a.b=some (.bX rb'.bH)) (hg:a.h≠gv'/\∀x o,B x=some o->x≠gv')
 (sz:rb'.ai.length<=n+1/\rb'.given.length<=n+1/\rb'.bH.length<=n+1):bJ a B gv' rb' (n+1) (H.put x o'):=by
 refine ci (R.Uj hx ho) fun k1 k2 k3=>?_
 refine aA (R.g) fun xs g1 g2=>?_
 refine⟨h1,h2,h3,h4,⟨xs,(aj _ _ k1.symm).trans g1,?_⟩,em▸(aj _ _ k2.symm).trans R.m,fun l xs q=>?_,eo,⟨hg.1,R.ne.2⟩,fun y p q=>?_,⟨sz.1,sz.2.1,sz.2.2,eg▸Nat.le_succ_of_le R.sz.2.2.2⟩,em▸Nat.le_succ_of_le R.mz⟩
 ·rw[eg]
  exact g2.mono fun _ _ q=>q.jV fun l xs c d=>⟨eL▸d,(aj _ _ (ay hx c (ho _)).symm).trans c⟩
 ·rw[eL]at q
  exact⟨(aj _ _ (k3 l xs q)).trans (R.L l xs q).1,(R.L l xs q).2⟩
 ·refine ci (R.base y p q) fun b1 b2 b3=>?_
  refine⟨(aj _ _ fun z=>b2 (by rw[z];exact hm)).trans b1,fun z=>b2 ?_,eL▸b3⟩
  have:=hg.2 y p q
  simp only[List.mem_cons,List.not_mem_nil,or_false]at z⊢
  rcases z with z|z|z|z|z|z
  ·exact .inl z
  ·exact .inr (.inl z)
  ·exact absurd z this
  ·exact .inr (.inr (.inr (.inl z)))
  ·exact .inr (.inr (.inr (.inr (.inl z))))
  ·exact .inr (.inr (.inr (.inr (.inr z))))
theorem bJ.given(R:bJ a B gv rb n H)(i:Int)(p:AV):bJ a B gv { rb with given:=bZ i p rb.given } (n+1) (H.put gv (.aB (bZ i p rb.given))):=
 R.pl R.v (fun _ z=>iT z lF) (by simp) rfl R.o rfl rfl ((aj _ _ (ay R.s R.v (fun z=>iT z lF))).trans R.s) ((aj _ _ R.ne.1).trans R.h) (al _ _ _) ((aj _ _ (ay R.b R.v (fun z=>iT z lF))).trans R.b)
  ⟨R.ne.1,fun x o q z=>(R.base x o q).2.1 (by simp[z])⟩ ⟨Nat.le_succ_of_le R.sz.1,d6 (iY _ _ _) (Nat.succ_le_succ R.sz.2.1),Nat.le_succ_of_le R.sz.2.2.1⟩
theorem bJ.ai(R:bJ a B gv rb n H)(i:Int)(p:AV):bJ a B gv { rb with ai:=bZ i p rb.ai } (n+1) (H.put a.h (.aB (bZ i p rb.ai))):=
 R.pl R.h (fun _ z=>iT z lF) (by exact .tail _ (.head _)) rfl R.o rfl rfl ((aj _ _ (ay R.s R.h (fun z=>iT z lF))).trans R.s) (al _ _ _) ((aj _ _ R.ne.1.symm).trans R.v) ((aj _ _ (ay R.b R.h (fun z=>iT z lF))).trans R.b)
  ⟨R.ne.1,fun x o q z=>(R.base x o q).2.1 (by simp[z])⟩ ⟨d6 (iY _ _ _) (Nat.succ_le_succ R.sz.1),Nat.le_succ_of_le R.sz.2.1,Nat.le_succ_of_le R.sz.2.2.1⟩
theorem bJ.bH(R:bJ a B gv rb n H)(k:List Atom)(p:AV):bJ a B gv { rb with bH:=bZ k p rb.bH } (n+1) (H.put a.b (.bX (bZ k p rb.bH))):=
 R.pl R.b (fun _ z=>iT z lF) (by simp) rfl R.o rfl rfl ((aj _ _ (ay R.s R.b (fun z=>iT z lF))).trans R.s) ((aj _ _ (ay R.h R.b (fun z=>iT z lF))).trans R.h) ((aj _ _ (ay R.v R.b (fun z=>iT z lF))).trans R.v) (al _ _ _)
  ⟨R.ne.1,fun x o q z=>(R.base x o q).2.1 (by simp[z])⟩ ⟨Nat.le_succ_of_le R.sz.1,Nat.le_succ_of_le R.sz.2.1,d6 (iY _ _ _) (Nat.succ_le_succ R.sz.2.2.1)⟩
theorem bJ.clear(R:bJ a B gv rb n H){d:Addr}(hd:H d=some (.aB []))(h1:a.h≠d)(h2:∀x o,B x=some o->x≠d):bJ a B d { rb with given:=[] } n (H.put a.s (.bq (rM a d rb.fK))):=
 have Z:=R.pl (gv':=d) (rb':={ rb with given:=[] }) R.s (fun _ z=>iT z lF) (by exact List.mem_cons_self) rfl R.o rfl rfl (al _ _ _) ((aj _ _ (ay R.h R.s (fun z=>iT z lF))).trans R.h) ((aj _ _ (ay hd R.s (fun z=>iT z lF))).trans hd) ((aj _ _ (ay R.b R.s (fun z=>iT z lF))).trans R.b)
  ⟨h1,h2⟩ ⟨Nat.le_succ_of_le R.sz.1,Nat.zero_le _,Nat.le_succ_of_le R.sz.2.2.1⟩
 { Z with sz:=⟨R.sz.1,Nat.zero_le _,R.sz.2.2⟩,mz:=R.mz }
theorem bJ.open(R:bJ a B gv rb n H){l:Addr}(hl:H l=none):bJ a B gv (rb.open l) n ((H.put l (.list [])).put a.s (.bq (rM a gv l))):=by
 have nl:∀ {x o},H x=some o->x≠l:=fun q z=>by rw[z,hl]at q;(exact ax q)
 have F:=R.gB (ao.new (o:=.list []) hl)
 refine ci (F.Uj F.s (fun _ z=>iT z lF)) fun k1 k2 k3=>?_
 refine aA (F.g) fun xs g1 g2=>?_
 have up:∀y,y≠l->(rb.open l).L y=rb.L y:=fun y z=>if_neg z
 have g0:=R.g
 refine aA (g0) fun YB X7 _=>?_;clear g0
 refine⟨al _ _ _,(aj _ _ (ay F.h F.s (fun z=>iT z lF))).trans F.h,(aj _ _ (ay F.v F.s (fun z=>iT z lF))).trans F.v,(aj _ _ (ay F.b F.s (fun z=>iT z lF))).trans F.b,
  ⟨xs,(aj _ _ k1.symm).trans g1,?_⟩,(aj _ _ k2.symm).trans F.m,fun y ys q=>?_,⟨[],if_pos rfl⟩,R.ne,fun y p q=>?_,R.sz,R.mz⟩
 ·refine aA (R.g) fun lH Um Ul=>?_
  have e1:lH=xs:=by rw[aj _ _ (nl Um),Um]at g1;(clear Ul;cases g1);rfl
  clear g2 g1;subst e1
  exact Ul.mono fun _ _ q=>q.jV fun y ys c d=>⟨⟨(up y (nl c)).trans d.1,d.2⟩,(aj _ _ (ay c R.s (fun z=>iT z lF))).trans ((aj _ _ (nl c)).trans c)⟩
 ·by_cases z:y=l
  ·clear up g2 g1 xs F hl;subst z
   rw[show(rb.open y).L y=some []from if_pos rfl]at q
   cases q
   exact⟨(aj _ _ (nl R.s).symm).trans (al _ _ _),(nl X7).symm,(nl R.m).symm⟩
  ·rw[up y z]at q
   exact⟨(aj _ _ (k3 y ys q)).trans (F.L y ys q).1,(R.L y ys q).2⟩
 ·refine ci (R.base y p q) fun b1 b2 b3=>?_
  exact⟨(aj _ _ fun z=>b2 (by simp[z])).trans ((aj _ _ (nl b1)).trans b1),b2,(up y (nl b1)).trans b3⟩
theorem bJ.push(R:bJ a B gv rb n H){xs:List AV}(ho:rb.L rb.fK=some xs)(ys:List AV):bJ a B gv (rb.push ys) n (H.put rb.fK (.list (xs++ys))):=by
 refine ci (R.L _ _ ho) fun l1 l2 l3=>?_
 have up:∀y,y≠rb.fK->(rb.push ys).L y=rb.L y:=fun y z=>if_neg z
 have e0:(rb.push ys).L rb.fK=some (xs++ys):=by
  show(if rb.fK=rb.fK then(rb.L rb.fK).map (·++ys)else _)=_
  rw[if_pos rfl,ho]
  rfl
 refine aA (R.g) fun gs g1 g2=>?_
 have mv:∀y zs,H y=some (.list zs)->rb.L y=none/\y≠a.g/\y≠a.m->((rb.push ys).L y=none/\y≠a.g/\y≠a.m)/\(H.put rb.fK (.list (xs++ys))) y=some (.list zs):=fun y zs c d=>by
  have z:y≠rb.fK:=fun z=>by rw[z,ho]at d;exact bg d.1
  exact⟨⟨(up y z).trans d.1,d.2⟩,(aj _ _ z).trans c⟩
 refine⟨(aj _ _ (ay R.s l1 (fun z=>iT z lF))).trans R.s,(aj _ _ (ay R.h l1 (fun z=>iT z lF))).trans R.h,(aj _ _ (ay R.v l1 (fun z=>iT z lF))).trans R.v,(aj _ _ (ay R.b l1 (fun z=>iT z lF))).trans R.b,
  ⟨gs,(aj _ _ l2.symm).trans g1,g2.mono fun _ _ q=>q.jV mv⟩,(aj _ _ l3.symm).trans R.m,fun y zs q=>?_,⟨_,e0⟩,R.ne,fun y p q=>?_,R.sz,R.mz⟩
 ·by_cases z:y=rb.fK
  ·subst z
   rw[e0]at q
   cases q
   exact⟨al _ _ _,l2,l3⟩
  ·rw[up y z]at q
   exact⟨(aj _ _ z).trans (R.L y zs q).1,(R.L y zs q).2⟩
 ·refine ci (R.base y p q) fun b1 b2 b3=>?_
  have z:y≠rb.fK:=fun z=>by rw[z,ho]at b3;(exact bg b3)
  exact⟨(aj _ _ z).trans b1,b2,(up y z).trans b3⟩
theorem bJ.more(R:bJ a B gv rb n H):bJ a B gv rb (n+1) H:={ R with sz:=⟨Nat.le_succ_of_le R.sz.1,Nat.le_succ_of_le R.sz.2.1,Nat.le_succ_of_le R.sz.2.2.1,Nat.le_succ_of_le R.sz.2.2.2⟩,mz:=Nat.le_succ_of_le R.mz }
theorem bJ.told(R:bJ a B gv rb n H){xs:List AV}{v0:AV}{g:TG}(hx:H a.g=some (.list xs))(hv:lq (fun l=>rb.L l=none/\l≠a.g/\l≠a.m) H v0 g):bJ a B gv (rb.told g) (n+1) (H.put a.g (.list (xs++[v0]))):=by
 refine aA (R.g) fun gs g1 g2=>?_
 rw[g1]at hx
 cases hx
 have mv:∀ {v g},lq (fun l=>rb.L l=none/\l≠a.g/\l≠a.m) H v g->lq (fun l=>rb.L l=none/\l≠a.g/\l≠a.m) (H.put a.g (.list (xs++[v0]))) v g:=fun q=>q.jV fun y zs c d=>⟨d,(aj _ _ d.2.1).trans c⟩
 refine⟨(aj _ _ (ay R.s g1 (fun z=>iT z lF))).trans R.s,(aj _ _ (ay R.h g1 (fun z=>iT z lF))).trans R.h,(aj _ _ (ay R.v g1 (fun z=>iT z lF))).trans R.v,(aj _ _ (ay R.b g1 (fun z=>iT z lF))).trans R.b,
  ⟨_,al _ _ _,L2.snoc (mv hv) (g2.mono fun _ _ q=>q.jV fun y zs c d=>⟨d,(aj _ _ d.2.1).trans c⟩)⟩,(aj _ _ R.ne.2.symm).trans R.m,fun y zs q=>⟨(aj _ _ (R.L y zs q).2.1).trans (R.L y zs q).1,(R.L y zs q).2⟩,R.o,R.ne,fun y p q=>?_,
  ⟨Nat.le_succ_of_le R.sz.1,Nat.le_succ_of_le R.sz.2.1,Nat.le_succ_of_le R.sz.2.2.1,by show(rb.ag++[g]).length<=_;rw[List.length_append];exact Nat.succ_le_succ R.sz.2.2.2⟩,Nat.le_succ_of_le R.mz⟩
 refine ci (R.base y p q) fun b1 b2 b3=>?_
 exact⟨(aj _ _ fun z=>b2 (by simp[z])).trans b1,b2,b3⟩
theorem bJ.ww(R:bJ a B gv rb n H){x:Addr}(hx:H x=none):x∉[a.s,a.h,gv,a.b,a.g,a.m]/\rb.L x=none:=by
 refine aA (R.g) fun xs g1 _=>?_
 have no:∀ {y o},H y=some o->x≠y:=fun q z=>by rw[z,q]at hx;(exact bg hx)
 refine⟨fun z=>?_,?_⟩
 ·simp only[List.mem_cons,List.not_mem_nil,or_false]at z
  rcases z with z|z|z|z|z|z
  ·exact no R.s z
  ·exact no R.h z
  ·exact no R.v z
  ·exact no R.b z
  ·exact no g1 z
  ·exact no R.m z
 ·cases q:rb.L x with
  |none=>rfl
  |some ys=>exact absurd rfl (no (R.L x ys q).1)
theorem bJ.less{B':ah}(R:bJ a B' gv rb n H)(k:∀x o,B x=some o->B' x=some o):bJ a B gv rb n H:={ R with base:=fun x o q=>R.base x o (k x o q) }
theorem bJ.meets(R:bJ a B gv rb n H)(p:Part):bJ a B gv { rb with met:=rb.met++[p] } (n+1) (H.put a.m (.list (rb.met.map Part.av++[p.av]))):=by
 refine aA (R.g) fun gs g1 g2=>?_
 refine⟨(aj _ _ (ay R.s R.m (fun z=>iT z lF))).trans R.s,(aj _ _ (ay R.h R.m (fun z=>iT z lF))).trans R.h,(aj _ _ (ay R.v R.m (fun z=>iT z lF))).trans R.v,(aj _ _ (ay R.b R.m (fun z=>iT z lF))).trans R.b,
  ⟨gs,(aj _ _ R.ne.2).trans g1,g2.mono fun _ _ q=>q.jV fun y zs c d=>⟨d,(aj _ _ d.2.2).trans c⟩⟩,by rw[al];show _=some (AO.list ((rb.met++[p]).map Part.av));rw[List.map_append];rfl,fun y zs q=>⟨(aj _ _ (R.L y zs q).2.2).trans (R.L y zs q).1,(R.L y zs q).2⟩,R.o,R.ne,fun y p q=>?_,
  ⟨Nat.le_succ_of_le R.sz.1,Nat.le_succ_of_le R.sz.2.1,Nat.le_succ_of_le R.sz.2.2.1,Nat.le_succ_of_le R.sz.2.2.2⟩,by show(rb.met++[p]).length<=_;rw[List.length_append];exact Nat.succ_le_succ R.mz⟩
 refine ci (R.base y p q) fun b1 b2 b3=>?_
 exact⟨(aj _ _ fun z=>b2 (by simp[z])).trans b1,b2,b3⟩
theorem bJ.rebase{lc:Addr}{o1 o2:AO}(R:bJ a (B.put lc o1) gv rb n H)(h1:∀ys,o1≠.list ys)(h2:B lc=some o2):bJ a B gv rb n (H.put lc o2):=by
 refine ci (R.base lc o1 (al _ _ _)) fun k1 k2 k3=>?_
 simp only[List.mem_cons,List.not_mem_nil,or_false,not_or]at k2
 refine rf (k2) fun n1 n2 n3 n4 n5 n6=>?_;clear k2
 refine aA (R.g) fun gs g1 g2=>?_
 refine⟨(aj _ _ (Ne.symm n1)).trans R.s,(aj _ _ (Ne.symm n2)).trans R.h,(aj _ _ (Ne.symm n3)).trans R.v,(aj _ _ (Ne.symm n4)).trans R.b,
  ⟨gs,(aj _ _ (Ne.symm n5)).trans g1,g2.mono fun _ _ q=>q.jV fun y zs c d=>⟨d,(aj _ _ (ay k1 c (h1 _)).symm).trans c⟩⟩,(aj _ _ (Ne.symm n6)).trans R.m,fun y zs q=>⟨(aj _ _ (fun z=>by rw[z,k3]at q;(exact ax q))).trans (R.L y zs q).1,(R.L y zs q).2⟩,R.o,R.ne,fun y p q=>?_,R.sz,R.mz⟩
 by_cases z:y=lc
 ·clear k1 h1 R o1;subst z
  rw[h2]at q
  cases q
  exact⟨al _ _ _,by simp only[List.mem_cons,List.not_mem_nil,or_false,not_or];exact⟨n1,n2,n3,n4,n5,n6⟩,k3⟩
 ·refine ci (R.base y p ((aj _ _ z).trans q)) fun b1 b2 b3=>?_
  exact⟨(aj _ _ z).trans b1,b2,b3⟩
theorem Ic:nsIn e.G.K mainGlobals ("_law_row":Str)=some (some (.ref 661)):=by kernel_rfl
theorem O4:keepIn e.G.K (.ref 661)=true:=by kernel_rfl
theorem xR{G:Gl}{D:Nat}{H:ah}{cs:Scope}{cl:List (Str×Addr)}{m:bP}{x:Str}{xp lp pos:Pos}{es:List Expr}{W:Str}(ns:List Str){Q:Bool->ah->Prop}(hx:eu cs m 9 (.Name x xp)=some (.str W))(he:jJ (eu cs m 9) es=some (ns.map AV.str))(h:∀H',ao [] H H'->Q (kS ns W) H')
 (hp:autoParam ((es.all cN)=true) aR) (hz:autoParam (es.length<=1000) aD) (hm:autoParam (behindInMarks .In (.List es lp)=false) aU):WT G D cs cl (.Compare (.Name x xp) [.In] [.List es lp] pos) m H Q:=
 WT.cmp (WE.leaf hx (WE.list (kf.leaf he fun l hl=>Cn (al _ _ _) (h _ (ao.new hl))) hp hz)) hm
theorem xM{G:Gl}{D:Nat}{H:ah}{cs:Scope}{cl:List (Str×Addr)}{m:bP}{t u:Expr}{pos:Pos}{b1 b2:Bool}{Q:Bool->ah->Prop}(h1:∀Q,Q b1 H->WT G D cs cl t m H Q)(h2:∀Q,Q b2 H->WT G D cs cl u m H Q)(q:Q (b1||b2) H):WT G D cs cl (.BoolOp .Or [t,u] pos) m H Q:=
 WT.or (h1 _ (by
  clear h1 t;cases b1 with
  |true=>exact q
  |false=>exact h2 _ (by(clear h2 u;cases b2)<;>exact q)))
theorem WB.told{v:AV}{g:TG}{Q:AQ}(R:bJ a B gv rb n H)(hn:n<=15000000)(hv:lq (fun l=>rb.L l=none/\l≠a.g/\l≠a.m) H v g)(k:∀H',bJ a B gv (rb.told g) (n+1) H'->Q .none H'):WB G D (.builtin "list.append") [.ref a.g,v] H Q:=by
 refine aA (R.g) fun xs g1 g2=>?_
 exact dG g1 (by rw[g2.len];have:=R.sz;exact Md hn this) (k _ (R.told g1 hv))
theorem OG{v:AV}{Q:AQ}{xs:List AV}(R:bJ a B gv rb n H)(ho:rb.L rb.fK=some xs)(hz:xs.length<=1000)(k:∀H',bJ a B gv (rb.push [v]) (n+1) H'->Q .none H'):WB G D (.builtin "list.append") [.ref rb.fK,v] H Q:=
 dG (R.L _ _ ho).1 (d6 hz (by decide)) (k _ (R.push ho [v]).more)
theorem gG.given{i:Int}{p:AV}{Q:ah->Prop}(R:bJ a B gv rb n H)(hn:n<=15000000)(k:∀H',bJ a B gv { rb with given:=bZ i p rb.given } (n+1) H'->Q H'):gG G D (.ref gv) (.int i) p H Q:=
 gG.aB R.v (by have:=R.sz;exact Mc hn this) (k _ (R.given i p))
theorem gG.ai{i:Int}{p:AV}{Q:ah->Prop}(R:bJ a B gv rb n H)(hn:n<=15000000)(k:∀H',bJ a B gv { rb with ai:=bZ i p rb.ai } (n+1) H'->Q H'):gG G D (.ref a.h) (.int i) p H Q:=
 gG.aB R.h (by have:=R.sz;exact Mb hn this) (k _ (R.ai i p))
theorem FS{m:Int}{p:AV}{Q:ah->Prop}(R:bJ a B gv rb n H)(hn:n<=15000000)(k:∀H',bJ a B gv { rb with bH:=bZ (dz m) p rb.bH } (n+1) H'->Q H'):gG G (D+1) (.ref a.b) (.tup [sS "t",.int m]) p H Q:=
 gG.bX (k:=dz m) R.b (by have:=R.sz;exact Ma hn this) (k _ (R.bH _ p))
theorem gG.clear{d:Addr}{Q:ah->Prop}(R:bJ a B gv rb n H)(hd:H d=none)(k:∀H',bJ a B d { rb with given:=[] } n H'->Q H'):gG G D (.ref a.s) (.str ("given":Str)) (.ref d) (H.put d (.aB [])) Q:=by
 have R2:=R.gB (ao.new (o:=.aB []) hd)
 refine gG.bq R2.s (cm rfl) (k _ ?_)
 exact R2.clear (al _ _ _) (fun z=>by rw[←z,R.h]at hd;(exact bg hd)) (fun x o q z=>by rw[←z,(R.base x o q).1]at hd;(exact bg hd))
theorem gG.open{l:Addr}{Q:ah->Prop}(R:bJ a B gv rb n H)(hl:H l=none)(k:∀H',bJ a B gv (rb.open l) n H'->Q H'):gG G D (.ref a.s) (.str ("open":Str)) (.ref l) (H.put l (.list [])) Q:=
 gG.bq (R.gB (ao.new (o:=.list []) hl)).s (cm rfl) (k _ (R.open hl))
theorem Ck{G:Gl}{D:Nat}{H:ah}{cs:Scope}{cl:List (Str×Addr)}{m:bP}{t:Expr}{x y:Str}{j k:Nat}{p1 p2 pos:Pos}{b:Bool}{Q:AQ}(h:∀Q,Q b H->WT G D cs cl t m H Q)(q:Q (.str (cond b x y)) H):WE G D cs cl (.IfExp t (.Constant (.str x) j p1) (.Constant (.str y) k p2) pos) m H Q:=
 lJ (h _ (by(clear h t;cases b)<;>exact WE.str q))
theorem wr{g:Bool}{w:Str}{ps:List Part}{part:AV}{rb:RB}{K:RB->Prop}(h:yj w ps part rb K (.fK g)):∃f r,(f=0/\ps=[r]∨ps=[.num f,r])/\nZ g f r rb K:=by
 cases ps with
 |nil=>exact False.elim h
 |cons p ps=>
  cases ps with
  |nil=>exact⟨0,p,.inl ⟨rfl,rfl⟩,h⟩
  |cons r ps=>
   cases p with
   |num f=>
    cases ps with
    |nil=>exact⟨f,r,.inr rfl,h⟩
    |cons _ _=>exact False.elim h
   |_=>cases ps<;>exact False.elim h
theorem tS{g:Bool}{f:Int}{r:Part}{rb:RB}{K:RB->Prop}{l:Addr}(h:nZ g f r rb K)(hl:rb.L l=none):(∃m,r=.t m/\K { rb.open l with bH:=bZ (dz m) (made f l) rb.bH })∨∃i,r=.a i/\K (cond g { rb.open l with ai:=bZ i (made f l) rb.ai } { rb.open l with given:=bZ i (made f l) rb.given }):=by
 have h:=h l hl
 cases r with
 |t m=>exact .inl ⟨m,rfl,h⟩
 |a i=>exact .inr ⟨i,rfl,h⟩
 |_=>exact h.elim
theorem yK{W:Str}(h:kS vd W=true):∃c,W.cps[0]?=some c:=by
 unfold kS at h
 obtain⟨x,hx,e0⟩:=List.any_eq_true.mp h
 rw[←eq_of_beq e0]
 clear e0 h W;rcases de hx with rfl|hx
 ·exact⟨_,rfl⟩
 rcases de hx with rfl|hx
 ·exact⟨_,rfl⟩
 rcases de hx with rfl|hx
 ·exact⟨_,rfl⟩
 rcases de hx with rfl|hx
 ·exact⟨_,rfl⟩
 ·exact bv hx
theorem Ee{a:RA}{B:ah}{gv:Addr}{rb:RB}{n:Nat}{row:Row}{part:AV}{K:RB->Prop}(R:bJ a B gv rb n H)(hn:n<=15000000)(hw:(Str.ofString row.1).length<=1000)(hp:row.2.length<=9)(hK:rL row part rb K){Q:AQ}
 (h:∀gv' rb' H',bJ a B gv' rb' (n+1) H'->K rb'->Q .none H'):WC e.G (D+12) (.ref 661) [.ref a.s,row.av,part] H Q:=by
 refine DT (ns:=["state","row","part"]) (z:="boxes") (y:="given") (m':=[("state",.ref a.s),("row",row.av),("part",part)]) (by kernel_rfl) (by kernel_rfl) rfl (gW (by intro x y z;kernel_rfl)) (by intro n;kernel_rfl) (by decide) (by kernel_rfl) ⟨rfl,rfl⟩ (fun y hy=>?_) fun ca cb qR CV Iv=>?_
 ·rcases de hy with rfl|hy
  ·exact⟨rfl,by kernel_rfl⟩
  ·rcases de hy with rfl|hy
   ·exact⟨rfl,by kernel_rfl⟩
   ·rcases de hy with rfl|hy
    ·exact⟨rfl,by kernel_rfl⟩
    ·exact bv hy
 k_extra"norm_m"
 obtain⟨w,ps⟩:=row
 unfold rL at hK
 dsimp only at hK hw hp
 have ko:(AV.str (Str.ofString w)::ps.map Part.av).length<=16000000:=by rw[fi,List.length_map];exact Dj hp
 rw[show Row.av (w,ps)=.tup (.str (Str.ofString w)::ps.map Part.av)from rfl]
 generalize Str.ofString w=W at *
 have F0:ao [] H ((((H.put ca .dv).put cb .dv).put ca (.cell (.ref a.b))).put cb (.cell (.ref gv))):=fun x o q _=>by
  have n1:x≠ca:=fun z=>by rw[z,qR]at q;cases q
  have n2:x≠cb:=fun z=>by rw[z,CV]at q;cases q
  rw[aj _ _ n2,aj _ _ n1,aj _ _ n2,aj _ _ n1,q]
 have Fs:ao [] H ((H.put ca .dv).put cb .dv):=fun x o q _=>by
  have n1:x≠ca:=fun z=>by rw[z,qR]at q;cases q
  have n2:x≠cb:=fun z=>by rw[z,CV]at q;cases q
  rw[aj _ _ n2,aj _ _ n1,q]
 refine WS.cons (W1.assign (WE.item (WE.name rfl (WE.int (WI.tup (by decide) rfl ko ?_)))))
 refine WS.cons (Gq rfl rfl Iv (WE.tuple ?_))
 refine WE.item (WE.name rfl (WE.str (WI.bq (Fs.get R.s) rfl rfl ?_)))
 refine WE.item (WE.name rfl (WE.str (WI.bq (Fs.get R.s) rfl rfl ?_)))
 refine⟨_,_,rfl,(aj _ _ Iv).trans (al _ _ _),al _ _ _,?_⟩
 have Ft:=R.ww qR
 have Th:=R.ww CV
 have hb:∀x o,((B.put ca (.cell (.ref a.b))).put cb (.cell (.ref gv))) x=some o->((((H.put ca .dv).put cb .dv).put ca (.cell (.ref a.b))).put cb (.cell (.ref gv))) x=some o/\x∉[a.s,a.h,gv,a.b,a.g,a.m]/\rb.L x=none:=fun x o q=>by
  by_cases z:x=cb
  ·clear Iv;subst z
   rw[al]at q⊢
   exact⟨q,Th⟩
  ·rw[aj _ _ z]at q⊢
   by_cases z2:x=ca
   ·clear Iv;subst z2
    rw[al]at q⊢
    exact⟨q,Ft⟩
   ·rw[aj _ _ z2]at q⊢
    rw[aj _ _ z,aj _ _ z2]
    exact R.base x o q
 have R1:bJ a ((B.put ca (.cell (.ref a.b))).put cb (.cell (.ref gv))) gv rb n ((((H.put ca .dv).put cb .dv).put ca (.cell (.ref a.b))).put cb (.cell (.ref gv))):={ R.gB F0 with base:=hb }
 clear hb
 have hB:∀x o,B x=some o->((B.put ca (.cell (.ref a.b))).put cb (.cell (.ref gv))) x=some o:=fun x o q=>by
  rw[aj _ _ (fun z=>by rw[←z,(R.base x o q).1]at CV;cases CV),aj _ _ (fun z=>by rw[←z,(R.base x o q).1]at qR;cases qR),q]
 have ba:((B.put ca (.cell (.ref a.b))).put cb (.cell (.ref gv))) ca=some (.cell (.ref a.b)):=(aj _ _ Iv).trans (al _ _ _)
 have bb:((B.put ca (.cell (.ref a.b))).put cb (.cell (.ref gv))) cb=some (.cell (.ref gv)):=al _ _ _
 replace h:∀gv' rb' H',bJ a ((B.put ca (.cell (.ref a.b))).put cb (.cell (.ref gv))) gv' rb' (n+1) H'->K rb'->Q .none H':=fun gv' rb' H' z=>h gv' rb' H' (z.less hB)
 generalize (B.put ca (.cell (.ref a.b))).put cb (.cell (.ref gv))=B1 at *
 generalize (((H.put ca .dv).put cb .dv).put ca (.cell (.ref a.b))).put cb (.cell (.ref gv))=H1 at *
 clear R Fs F0 qR CV Ft Th hB
 refine WS.last (cT (xR yd rfl rfl fun H2 F2=>?_))
 replace R1:=R1.gB F2
 clear F2
 clear hp;cases h1:kS yd W
 ·refine WS.last (cT (xR vd rfl rfl fun H2 F2=>?_))
  replace R1:=R1.gB F2
  clear F2
  cases h2:kS vd W
  ·refine WS.last (cT (xM (fun Q q=>WT.leaf rfl rfl (eW q)) (fun Q q=>WT.leaf rfl rfl (eW q)) ?_))
   (clear ko;cases h3:(W==("unify_void":Str)||W==("set_void":Str)))
   ·refine WS.last (cT (xM (b1:=Txt.slice W none (some 6)==("unify_":Str)) (b2:=Txt.slice W none (some 4)==("set_":Str)) (fun Q q=>WT.cmp (uM (WE.name rfl ⟨W,rfl,hw,WE.str (eW q)⟩))) (fun Q q=>WT.cmp (uM (WE.name rfl ⟨W,rfl,hw,WE.str (eW q)⟩))) ?_))
    cases h4:(Txt.slice W none (some 6)==("unify_":Str)||Txt.slice W none (some 4)==("set_":Str))
    ·refine WS.last (cT (WT.leaf rfl rfl (eW ?_)))
     cases h5:(W==("put_void":Str))
     ·refine WS.last (cT (WT.cmp (uM (WE.name rfl ⟨W,rfl,hw,WE.str (eW ?_)⟩))))
      cases h6:(Txt.slice W none (some 4)==("put_":Str))
      ·refine WS.last (cT (WT.cmp (uM (WE.name rfl ⟨W,rfl,hw,WE.str (eW ?_)⟩))))
       cases h7:(Txt.slice W none (some 4)==("get_":Str))
       ·rw[show cls W=.skip by unfold cls;rw[h1,h2,h3,h4,h5,h6,h7];rfl]at hK
        exact WS.nil (h gv _ _ R1.more hK)
       ·rw[show cls W=.get by unfold cls;rw[h1,h2,h3,h4,h5,h6,h7];rfl]at hK
        refine bi (hK) fun q i ak hk=>?_;clear hK;subst ak
        exact WS.last (gH (WE.name rfl (WE.item (WE.name rfl (WE.str (WI.bq R1.s rfl rfl (WE.leaf rfl (gG.ai R1 hn fun H2 R2=>h gv _ _ R2 hk))))))))
      ·rw[show cls W=.put by unfold cls;rw[h1,h2,h3,h4,h5,h6];rfl]at hK
       refine bi (hK) fun q i ak hk=>?_;clear hK;subst ak
       exact WS.last (gH (WE.name rfl (iV rfl (R1.base _ _ bb).1 (WE.leaf rfl (gG.given R1 hn fun H2 R2=>h gv _ _ R2 hk)))))
     ·rw[show cls W=.r3 by unfold cls;rw[h1,h2,h3,h4,h5];rfl]at hK
      refine aA (hK) fun i ak hk=>?_;clear hK;subst ak
      exact WS.last (gH (WE.tuple (WE.str (WE.neg (WE.int ⟨_,rfl,iV rfl (R1.base _ _ bb).1 (WE.leaf rfl (gG.given R1 hn fun H2 R2=>h gv _ _ R2 hk))⟩)))))
    ·rw[show cls W=.app by unfold cls;rw[h1,h2,h3,h4];rfl]at hK
     refine iA (hK) fun xs ho hz _ hk=>?_;clear hK
     exact WS.last (W1.expr (WE.cW (WE.item (WE.name rfl (WE.str (WI.bq R1.s rfl rfl (ru.of (R1.L _ _ ho).1 rfl (WE.name rfl (OG R1 ho hz fun H2 R2=>h gv _ _ R2 hk)))))))))
   ·rw[show cls W=.void by unfold cls;rw[h1,h2,h3];rfl]at hK
    refine qe (hK) fun k ak Oj xs ho hz TE hk=>?_;clear hK;subst ak
    refine WS.last (W1.expr (WE.cW (WE.item (WE.name rfl (WE.str (WI.bq R1.s rfl rfl (ru.of (R1.L _ _ ho).1 rfl ?_)))))))
    refine iU (WE.list (WE.tuple (WE.str (WE.neg (WE.int ⟨_,rfl,fun l3 TR=>WE.leaf rfl ?_⟩)))))
    replace R1:=R1.gB (ao.new (o:=.list [.tup [.str ("v":Str),.int (-1)]]) TR)
    refine np.mulL (al _ _ _) rfl (Int.natCast_nonneg _) (by rw[List.length_replicate]at TE;lia) fun d hd=>?_
    replace R1:=R1.gB (ao.new (o:=.list (List.replicate (k:Int).toNat [.tup [.str ("v":Str),.int (-1)]]).flatten) hd)
    have e1:(List.replicate (k:Int).toNat [.tup [.str ("v":Str),.int (-1)]]).flatten=List.replicate k (kx (-1)):=by simp[kx,sS]
    refine GC (R1.L _ _ ho).1 (al _ _ _) (by rw[e1,List.length_replicate];lia) (by rw[e1];exact L7 hz TE) ?_
    rw[e1]at R1⊢
    exact(h gv _ _ (R1.push ho (List.replicate k (kx (-1)))).more hk)
  ·rw[show cls W=.fK (qW W=="g") by unfold cls;rw[h1,h2];rfl]at hK
   obtain⟨c0,J2⟩:=yK h2
   have ef:qW W=⟨#[c0]⟩:=by unfold qW;rw[Array.getD_eq_getD_getElem?,J2];rfl
   rw[ef]at hK
   obtain⟨f,r,hs,hK⟩:=wr (w:="") (part:=.none) hK
   refine WS.seq (fun m' H'=>H'=H2/\Sub [("spot",r.av),("word",.str W),("state",.ref a.s),("row",.tup (.str W::ps.map Part.av))] m') ?_ ?_
   ·refine W1.assign (WE.item (WE.name rfl (iU (jQ pj jn (by decide) (WE.name rfl (ku ko (WE.int (np.sub ?_))))))))
    clear ef h2 h1;rcases hs with⟨rfl,rfl⟩|rfl
    ·exact WI.tup (show(0:Int)<=1 by decide) rfl ko ⟨rfl,rfl,by k_extra"sb"⟩
    ·exact WI.tup (show(0:Int)<=2 by decide) rfl ko ⟨rfl,rfl,by k_extra"sb"⟩
   ·intro m3;intro H3;intro ak;refine bh (ak) fun cu i3=>?_;clear ak;(clear ef h2 h1;subst cu)
    refine WS.weak i3 ?_
    refine WS.cons (gH (WE.list fun l hl=>WE.name rfl (WE.str (gG.open R1 hl fun H4 R4=>?_))))
    replace hK:=tS hK (R1.ww hl).2
    refine WS.seq (fun m' H'=>H'=H4/\Sub [("made",made f l),("spot",r.av),("word",.str W),("state",.ref a.s)] m') ?_ ?_
    ·refine W1.assign (WE.tuple (WE.str (lJ (WT.cmp (jQ pj jn (by decide) (WE.name rfl (ku ko (WE.int ?_))))))))
     clear i3 m3;rcases hs with⟨rfl,rfl⟩|rfl
     ·exact pK (x:=true) rfl (fY (i:=0) (by k_extra"wf") (WE.item (WE.name rfl (WE.str (WI.bq R4.s rfl rfl ⟨rfl,rfl,by k_extra"sb"⟩)))))
     ·exact pK (x:=false) rfl (WE.item (WE.name rfl (WE.int (WI.tup (by decide) rfl ko (WE.item (WE.name rfl (WE.str (WI.bq R4.s rfl rfl ⟨rfl,rfl,by k_extra"sb"⟩))))))))
    ·intro m5;intro H5;intro ak;refine bh (ak) fun cu i5=>?_;clear ak;(clear i3 m3 hs;subst cu)
     refine WS.weak i5 ?_
     clear i5 m5;rcases hK with⟨m,rfl,hK⟩|⟨i,rfl,hK⟩
     ·exact WS.last (cT (WT.leaf rfl rfl (fJ (x:=true) (by kernel_rfl!) (WS.last (gH (WE.name rfl (iV rfl (R4.base _ _ ba).1 (WE.name rfl (FS (D:=D+10) R4 hn fun H6 R6=>h gv _ _ R6 hK)))))))))
     ·refine WS.last (cT (WT.leaf rfl rfl (fJ (x:=false) (by kernel_rfl!) (WS.last (gH (WE.name rfl (WE.item (WE.name rfl (Ck (b:=⟨#[c0]⟩==("g":Str)) (fun Q q=>WT.cmp (WE.item (WE.name rfl (WE.int (D5 (i:=0) J2 (by decide) (WE.str (eW q))))))) ?_)))))))))
      cases hg:((⟨#[c0]⟩:Str)==("g":Str))
      ·rw[hg]at hK
       exact WI.bq R4.s rfl rfl (WE.leaf rfl (gG.given R4 hn fun H6 R6=>h gv _ _ R6 hK))
      ·rw[hg]at hK
       exact WI.bq R4.s rfl rfl (WE.leaf rfl (gG.ai R4 hn fun H6 R6=>h gv _ _ R6 hK))
 ·rw[show cls W=.tell by unfold cls;rw[h1];rfl]at hK
  refine sR (hK) fun hz f r qh ak ho hk=>?_;clear hK;subst ak
  refine WS.cons (xT (bcl:=[("given",cb),("boxes",ca)]) ?JC ?eN rfl ?dj (GH rfl rfl ?cU ?_))
  case eN=>
   intro c h1 h2
   obtain⟨_,_,_,_,_,_,_,_,_,_,_⟩:=c
   dsimp only at h1 h2
   subst h1 h2
   rfl
  case JC=>
   intro c h1 h2
   obtain⟨_,_,_,_,_,_,_,_,_,_,_⟩:=c
   dsimp only at h1 h2
   subst h1 h2
   rfl
  case dj=>decide +kernel
  case cU=>decide +kernel
  refine ft iE gD (by decide) (WE.int (iU (jQ pj jn (by decide) (iV rfl (R1.base _ _ bb).1 (DI R1.v (by have:=R1.sz;exact kZ hz) (WE.int (np.add ?_)))))))
  refine Ci fun lr t u v g9=>⟨lr,t,u,v,rb.given.length,rfl,al _ _ _,by lia,?_⟩
  replace R1:=R1.gB (ao.new (o:=.ro .ni (fv 1 ((rb.given.length:Int)+1) t u v)) g9)
  generalize H2.put lr (.ro .ni (fv 1 ((rb.given.length:Int)+1) t u v))=H3 at *
  refine fB.rule (f:=fun (i:Nat)=>AV.int ((i:Int)+1)) (fun au acc H=>ao [] H3 H/\∃bd br,qh=bd++br/\acc=iH bd/\L2 (fun (i:Nat) bt=>cK rb.bH rb.L 9 ((rb.given.lookup ((i:Int)+1)).getD (kx (-2))) bt) au br) (fun i au acc H I kp=>?_) (fun acc H I kp=>?_) (List.range rb.given.length) trivial ⟨ao.refl,[],qh,rfl,rfl,ho⟩
  ·refine mL (I) fun F bd br e1 e2 y zs e3 hy hr=>?_;clear I
   have R4:=R1.gB F
   refine CE.cp yt Ef (CE.cell rfl (R4.base _ _ ba).1 (CE.cW (CE.cell rfl (R4.base _ _ bb).1 ⟨gv,_,_,rfl,R4.v,rfl,CE.name (CE.tuple (CE.str (FN ?_)))⟩)))
   refine uN R4.v rfl rfl ?_
   refine r9 (D:=D+1) a.b rb.bH rb.L 9 _ _ y _ R4.b (fun l xs q=>⟨_,(R4.L l xs q).1,rfl⟩) hy fun H5 F5=>?_
   exact⟨trivial,F.trans F5,bd++[y],zs,by rw[e1,e3,List.append_assoc];rfl,by rw[e2,xO];rfl,hr⟩
  ·refine qZ (I) fun F bd br e1 e2 hr=>?_;clear I
   rw[show br=[]from hr,List.append_nil]at e1
   rw[←e1]at e2
   intro lh tB
   have R3:=R1.gB F
   have nL:rb.L lh=none:=by
    cases q:rb.L lh with
    |none=>rfl
    |some ys=>rw[(R3.L lh ys q).1]at tB;cases tB
   refine aA (R3.g) fun gs g1 g2=>?_
   have n1:lh≠a.g:=fun z=>by rw[z,g1]at tB;cases tB
   have n2:lh≠a.m:=fun z=>by rw[z,R3.m]at tB;cases tB
   have XL:(H.put lh (.list acc)) lh=some (.list (iH qh)):=by rw[al,e2]
   replace R1:=R3.gB (ao.new (o:=.list acc) tB)
   replace g1:=(aj _ (.list acc) n1.symm).trans g1
   generalize H.put lh (.list acc)=H4 at *
   refine WS.cons (W1.expr (WE.cW (WE.item (WE.name rfl (WE.str (WI.bq R1.s rfl rfl (ru.of g1 rfl ?_)))))))
   refine WE.tuple (Ck (fun Q q=>WT.leaf rfl rfl (eW q)) (WE.item (WE.name rfl (WE.int (WI.tup (by decide) rfl ko (WE.leaf rfl ?_))))))
   refine WB.told R1 hn (g:=.t (W=="builtin") f qh) ⟨lh,rfl,⟨nL,n1,n2⟩,XL⟩ fun H5 R5=>?_
   exact WS.last (gH (nN fun d hd=>WE.name rfl (WE.str (gG.clear R5 hd fun H6 R6=>h d _ _ R6 hk))))
variable{es:List (List Atom×AV)}
theorem oS{row:Row}{part:AV}{rb:RB}{K K':RB->Prop}(k:∀rb,K rb->K' rb)(h:sK row part rb K):sK row part rb K':=by
 unfold sK at h⊢
 revert h
 cases (gr.lookup (Str.ofString row.1)).isSome with
 |true=>
  intro ak;refine aE (ak) fun x n a b c=>?_;clear ak
  exact⟨x,n,a,b,k _ c⟩
 |false=>
  cases (Str.ofString row.1==("neck_cut":Str))with
  |true=>exact k _
  |false=>
   intro ak;refine bh (ak) fun hl h=>?_;clear ak
   refine⟨hl,?_⟩
   unfold rL at h⊢
   revert h
   have sp:∀g f r,nZ g f r rb K->nZ g f r rb K':=fun g f r h l hl=>by
    have:=h l hl
    clear h;cases r with
    |t m=>exact k _ this
    |a i=>exact k _ this
    |_=>exact this.elim
   cases cls (Str.ofString row.1)with
   |tell=>
    intro ak;refine sR (ak) fun a f r qh b c d=>?_;clear ak
    exact⟨a,f,r,qh,b,c,k _ d⟩
   |fK g=>
    intro h
    clear hl;obtain⟨w,ps⟩:=row
    rcases ps with _|⟨p,_|⟨r,_|⟨_,_⟩⟩⟩
    ·exact h.elim
    ·exact sp _ _ _ h
    ·cases p with
     |num f=>exact sp _ _ _ h
     |_=>exact h.elim
    ·cases p<;>exact h.elim
   |void=>
    intro ak;refine qe (ak) fun n a b xs c d f g=>?_;clear ak
    exact⟨n,a,b,xs,c,d,f,k _ g⟩
   |app=>
    intro ak;refine iA (ak) fun xs c d f g=>?_;clear ak
    exact⟨xs,c,d,f,k _ g⟩
   |r3=>(intro ak;refine aA (ak) fun i a b=>?_;clear ak);exact⟨i,a,k _ b⟩
   |put=>(intro ak;refine bi (ak) fun q i a b=>?_;clear ak);exact⟨q,i,a,k _ b⟩
   |get=>(intro ak;refine bi (ak) fun q i a b=>?_;clear ak);exact⟨q,i,a,k _ b⟩
   |skip=>exact k _
theorem pS{row:Row}{rb:RB}{K K':RB->Prop}(k:∀rb,K rb->K' rb)(h:rT es row rb K):rT es row rb K':=by
 refine⟨h.1,?_⟩
 have h:=h.2
 unfold CC at h⊢
 split at h
 ·exact oS k h
 ·split at h
  ·exact⟨h.1,oS k h.2⟩
  ·exact⟨h.1,oS k h.2⟩
theorem jT:∀ {rows:List Row} {rb:RB} {K K':RB->Prop},(∀rb,K rb->K' rb)->f5 es rows rb K->f5 es rows rb K':=by
 intro rows
 induction rows with
 |nil=>exact fun k h=>k _ h
 |cons row r ih=>exact fun k h=>pS (fun rb' h'=>ih k h') h
theorem wn(b:List Row):∀ {a:List Row} {rb:RB} {K:RB->Prop},f5 es a rb (fun rb'=>f5 es b rb' K)->f5 es (a++b) rb K:=by
 intro a
 induction a with
 |nil=>exact fun h=>h
 |cons row r ih=>exact fun h=>pS (fun rb' h'=>ih h') h
structure iL(w:String)(c:Oz):Prop where
 a:(gr.lookup (Str.ofString w)).isSome=false
 b:(Str.ofString w==("neck_cut":Str))=false
 z:Nat.ble (Str.ofString w).length 1000=true
 c:cls (Str.ofString w)=c
theorem dE{w:String}{c:Oz}{ps:List Part}{part:AV}{rb:RB}{K:RB->Prop}(o:iL w c)(h:yj (Str.ofString w) ps part rb K c):sK (w,ps) part rb K:=by
 unfold sK rL
 rw[o.a,o.b,o.c]
 exact⟨cm o.z,h⟩
theorem U3:iL ("get"++"_list") (.fK true):=by exact⟨by kernel_rfl,by kernel_rfl,by kernel_rfl,by kernel_rfl⟩
theorem U2:iL ("get"++"_structure") (.fK true):=by exact⟨by kernel_rfl,by kernel_rfl,by kernel_rfl,by kernel_rfl⟩
theorem U1:iL ("put"++"_list") (.fK false):=by exact⟨by kernel_rfl,by kernel_rfl,by kernel_rfl,by kernel_rfl⟩
theorem U0:iL ("put"++"_structure") (.fK false):=by exact⟨by kernel_rfl,by kernel_rfl,by kernel_rfl,by kernel_rfl⟩
theorem SL:iL "unify_void" .void:=by exact⟨by kernel_rfl,by kernel_rfl,by kernel_rfl,by kernel_rfl⟩
theorem SK:iL "set_void" .void:=by exact⟨by kernel_rfl,by kernel_rfl,by kernel_rfl,by kernel_rfl⟩
theorem OJ:iL "unify_variable" .app:=by exact⟨by kernel_rfl,by kernel_rfl,by kernel_rfl,by kernel_rfl⟩
theorem UZ:iL "unify_value" .app:=by exact⟨by kernel_rfl,by kernel_rfl,by kernel_rfl,by kernel_rfl⟩
theorem UY:iL "unify_local_value" .app:=by exact⟨by kernel_rfl,by kernel_rfl,by kernel_rfl,by kernel_rfl⟩
theorem SJ:iL "unify_constant" .app:=by exact⟨by kernel_rfl,by kernel_rfl,by kernel_rfl,by kernel_rfl⟩
theorem UX:iL "set_variable" .app:=by exact⟨by kernel_rfl,by kernel_rfl,by kernel_rfl,by kernel_rfl⟩
theorem SH:iL "set_value" .app:=by exact⟨by kernel_rfl,by kernel_rfl,by kernel_rfl,by kernel_rfl⟩
theorem SG:iL "set_local_value" .app:=by exact⟨by kernel_rfl,by kernel_rfl,by kernel_rfl,by kernel_rfl⟩
theorem SE:iL "set_constant" .app:=by exact⟨by kernel_rfl,by kernel_rfl,by kernel_rfl,by kernel_rfl⟩
theorem UW:iL "put_void" .r3:=by exact⟨by kernel_rfl,by kernel_rfl,by kernel_rfl,by kernel_rfl⟩
theorem UV:iL "put_variable" .put:=by exact⟨by kernel_rfl,by kernel_rfl,by kernel_rfl,by kernel_rfl⟩
theorem UU:iL "put_value" .put:=by exact⟨by kernel_rfl,by kernel_rfl,by kernel_rfl,by kernel_rfl⟩
theorem UT:iL "put_unsafe_value" .put:=by exact⟨by kernel_rfl,by kernel_rfl,by kernel_rfl,by kernel_rfl⟩
theorem SD:iL "put_constant" .put:=by exact⟨by kernel_rfl,by kernel_rfl,by kernel_rfl,by kernel_rfl⟩
theorem US:iL "get_variable" .get:=by exact⟨by kernel_rfl,by kernel_rfl,by kernel_rfl,by kernel_rfl⟩
theorem UR:iL "get_value" .get:=by exact⟨by kernel_rfl,by kernel_rfl,by kernel_rfl,by kernel_rfl⟩
theorem SC:iL "get_constant" .get:=by exact⟨by kernel_rfl,by kernel_rfl,by kernel_rfl,by kernel_rfl⟩
theorem UQ:iL "call" .tell:=by exact⟨by kernel_rfl,by kernel_rfl,by kernel_rfl,by kernel_rfl⟩
theorem UP:iL "execute" .tell:=by exact⟨by kernel_rfl,by kernel_rfl,by kernel_rfl,by kernel_rfl⟩
theorem UO:iL "builtin" .tell:=by exact⟨by kernel_rfl,by kernel_rfl,by kernel_rfl,by kernel_rfl⟩
theorem UN:iL "allocate" .skip:=by exact⟨by kernel_rfl,by kernel_rfl,by kernel_rfl,by kernel_rfl⟩
theorem UM:iL "deallocate" .skip:=by exact⟨by kernel_rfl,by kernel_rfl,by kernel_rfl,by kernel_rfl⟩
theorem UL:iL "proceed" .skip:=by exact⟨by kernel_rfl,by kernel_rfl,by kernel_rfl,by kernel_rfl⟩
theorem Part.lay(p:Part):p.dat.canLay0=true/\p.dat.depth<=4:=by
 cases p with
 |num i=>exact⟨by kernel_rfl,by exact Nat.zero_le _⟩
 |_=>exact⟨by kernel_rfl,by exact cm rfl⟩
structure dd(es:List (List Atom×AV))(P:aX)(cs:bF)(dm:V8->Prop):Prop where
 own:∀k,dm k->P.void k=false->kL es (P.place k)=some (.int (vi k))
 NT:∀m,7<=m->kL es (.t m)=none
 arg:∀m,kL es (.a m)=none
 con:∀c m,kL es (.c c m)=none
 void:∀k,dm k->P.void k=decide (cG cs (vi k)=1)
structure Sync(P:aX)(dm:V8->Prop)(seen:V8->Bool)(next:Int)(rb:RB):Prop where
 met:∀k,dm k->P.void k=false->me rb.met (P.place k)=seen k
 nx:7<=next
 fr:∀m,next<=m->rb.bH.lookup (dz m)=none
def WR(es:List (List Atom×AV))(r0:RB)(st:CS)(K:RB->Prop):Prop:=f5 es st.code r0 K
def opens(rb:RB):Prop:=∃xs,rb.L rb.fK=some xs/\xs.length<=100
noncomputable def vb:AV:=kx (-1)
noncomputable def iR(cs:bF)(k:V8):AV:=kx (if cG cs (vi k)=1 then -1 else vi k)
theorem r6(P:aX)(k:V8):(∃n,P.place k=.t n)∨∃n,P.place k=.y n:=by
 unfold aX.place
 split
 ·exact .inr ⟨_,rfl⟩
 ·exact .inl ⟨_,rfl⟩
theorem nK{a b:Str}{m n:Int}(h:PyData.eqv (.tuple [.str a,.int m]) (.tuple [.str b,.int n])=true):a=b/\m=n:=by
 simpa[PyData.eqv,PyData.eqvAll]using h
theorem oM{S:V8->Bool}{k:V8}(h:S k=true):nA S k=S:=by
 funext x
 unfold nA
 by_cases z:x=k
 ·rw[z,h];rfl
 ·rw[decide_eq_false z,Bool.or_false]
variable{cs:bF}{dm:V8->Prop}{r0:RB}{K:RB->Prop}
theorem xb(O:dd es P cs dm){j k:V8}(hj:dm j)(hk:dm k)(vj:P.void j=false)(vk:P.void k=false):PyData.eqv (P.place j).dat (P.place k).dat=decide (k=j):=by
 by_cases z:k=j
 ·rw[z,decide_eq_true rfl]
  exact kU _ (Part.lay _).1
 ·rw[decide_eq_false z]
  refine Bool.eq_false_iff.mpr fun h=>z ?_
  have e:P.place j=P.place k:=by
   rcases r6 P j with⟨m,a⟩|⟨m,a⟩<;>rcases r6 P k with⟨n,b⟩|⟨n,b⟩<;>rw[a,b]at h⊢
   ·rw[(nK h).2]
   ·exact absurd (nK h).1 (by decide)
   ·exact absurd (nK h).1 (by decide)
   ·rw[(nK h).2]
  have a:=O.own j hj vj
  rw[e,O.own k hk vk]at a
  exact gh (AV.int.inj (Option.some.inj a))
theorem sn(met:List Part)(p q:Part):me (met++[p]) q=(me met q||PyData.eqv p.dat q.dat):=by
 unfold me
 rw[List.map_append,List.any_append]
 simp
theorem WR.mono{K':RB->Prop}(h:WR es r0 st K)(k:∀rb,K rb->K' rb):WR es r0 st K':=jT k h
theorem WR.emit{w:String}{ps:List Part}(h:WR es r0 st fun rb=>rT es (w,ps) rb K):WR es r0 (st.emit w ps) K:=wn [(w,ps)] (jT (fun _ h=>h) h)
theorem Sync.put{seen:V8->Bool}{next:Int}{rb:RB}(S:Sync P dm seen next rb)(O:dd es P cs dm){k:V8}(hk:dm k)(hv:P.void k=false):Sync P dm (nA seen k) next (rb.mt (rb.met++[P.place k])):=
 ⟨fun j hj vj=>by rw[show(rb.mt (rb.met++[P.place k])).met=rb.met++[P.place k]from rfl,sn,S.met j hj vj,xb O hk hj hv vj];rfl,S.nx,S.fr⟩
theorem wj(O:dd es P cs dm){seen:V8->Bool}{next:Int}{rb:RB}{k:V8}(S:Sync P dm seen next rb)(hk:dm k)(hv:P.void k=false){w:String}{r:List Part}(hr:r.length<=8)(hw:kS gq (Str.ofString w)=!seen k)
 (h:Sync P dm (nA seen k) next (rb.mt (rb.met++[P.place k]))->sK (w,P.place k::r) (kx (vi k)) (rb.mt (rb.met++[P.place k])) K):rT es (w,P.place k::r) rb K:=by
 refine⟨Nat.succ_le_succ hr,?_⟩
 show(match kL es (P.place k)with|some a=>_|none=>_)
 rw[O.own k hk hv]
 exact⟨by rw[hw,S.met k hk hv];cases seen k<;>rfl,h (S.put O hk hv)⟩
theorem lR{w:String}{p:Part}{r:List Part}{rb:RB}(hr:r.length<=8)(hp:kL es p=none)(ho:oq p)(h:sK (w,p::r) (nJ p) rb K):rT es (w,p::r) rb K:=by
 refine⟨Nat.succ_le_succ hr,?_⟩
 show(match kL es p with|some a=>_|none=>_)
 rw[hp]
 exact⟨ho,h⟩
theorem HW{w:String}{rb:RB}(h:sK (w,[]) .none rb K):rT es (w,[]) rb K:=⟨Nat.zero_le _,h⟩
theorem nu(i:Int):kL es (.num i)=none:=rfl
theorem yy(rb:RB):rb.push []=rb:=by
 have e:(rb.push []).L=rb.L:=by
  funext l
  show(if l=rb.fK then(rb.L l).map (·++[])else rb.L l)=_
  split
  ·cases rb.L l<;>(first|rfl|simp)
  ·rfl
 calc rb.push []={ rb with L:=(rb.push []).L }:=rfl
  _=rb:=by rw[e]
theorem ju(rb:RB)(a b:List AV):(rb.push a).push b=rb.push (a++b):=by
 have e:((rb.push a).push b).L=(rb.push (a++b)).L:=by
  funext l
  show(if l=rb.fK then((if l=rb.fK then(rb.L l).map (·++a)else rb.L l)).map (·++b)else(if l=rb.fK then(rb.L l).map (·++a)else rb.L l))=if l=rb.fK then(rb.L l).map (·++(a++b))else rb.L l
  split
  ·cases rb.L l<;>simp
  ·rfl
 calc (rb.push a).push b={ rb.push (a++b)with L:=((rb.push a).push b).L }:=rfl
  _=rb.push (a++b):=by rw[e]
theorem fQ{rb:RB}{xs ys:List AV}(h:rb.L rb.fK=some xs):(rb.push ys).L (rb.push ys).fK=some (xs++ys):=by
 show(if rb.fK=rb.fK then(rb.L rb.fK).map (·++ys)else _)=_
 rw[if_pos rfl,h]
 rfl
theorem kT{w:String}(hw:iL w .void)(n:Nat)(h:WR es r0 st fun rb=>(∃xs,rb.L rb.fK=some xs/\xs.length<=100)/\n<=100/\K (rb.push (List.replicate n vb))):WR es r0 (co w n st) K:=by
 unfold co
 cases n with
 |zero=>exact h.mono fun rb q=>by have:=q.2.2;rwa [List.replicate_zero,yy]at this
 |succ n=>
  rw[if_pos (by exact L6)]
  refine WR.emit (h.mono fun rb q=>lR (Nat.zero_le _) (nu _) trivial (dE hw ?_))
  refine ci (q) fun ak c d=>?_;clear q;refine aA (ak) fun xs a b=>?_;clear ak
  exact⟨n+1,rfl,Nat.succ_pos _,xs,a,by exact d6 ‹_› (cm rfl),by rw[List.length_replicate];(exact Nat.lt_of_lt_of_le ‹_› (cm rfl)),d⟩
theorem dc(w:String)(n:Int)(st:CS):(co w n st).seen=st.seen/\(co w n st).next=st.next:=by
 unfold co
 split<;>exact⟨rfl,rfl⟩
theorem uK(O:dd es P cs dm){k:V8}(hk:dm k)(hv:P.void k=false){w:String}(hw:iL w .app)(Od:kS gq (Str.ofString w)=!st.seen k)
 (h:WR es r0 st fun rb=>Sync P dm st.seen st.next rb/\(∃xs,rb.L rb.fK=some xs/\xs.length<=100)/\∀met,Sync P dm (nA st.seen k) st.next ((rb.push [iR cs k]).mt met)->K ((rb.push [iR cs k]).mt met)):WR es r0 (st.emit w [P.place k]) K:=by
 refine WR.emit (h.mono fun rb q=>?_)
 refine ci (q) fun S ak c=>?_;clear q;refine aA (ak) fun xs a b=>?_;clear ak
 refine wj O S hk hv (Nat.zero_le _) Od fun S'=>dE hw ⟨xs,a,by exact vQ b,cm rfl,?_⟩
 have e:iR cs k=kx (vi k):=by
  have:=O.void k hk
  rw[hv]at this
  unfold iR
  rw[if_neg (of_decide_eq_false this.symm)]
 rw[←e]
 exact c _ ⟨S'.met,S'.nx,S'.fr⟩
theorem Ar{p:Part}{y:AV}{w:String}(hw:iL w .app)(hp:kL es p=none)(ho:oq p)(hy:nJ p=y)(h:WR es r0 st fun rb=>(∃xs,rb.L rb.fK=some xs/\xs.length<=100)/\K (rb.push [y])):WR es r0 (st.emit w [p]) K:=by
 refine WR.emit (h.mono fun rb q=>lR (Nat.zero_le _) hp ho (dE hw ?_))
 refine bh (q) fun ak c=>?_;clear q;refine aA (ak) fun xs a b=>?_;clear ak
 exact⟨xs,a,by exact vQ b,cm rfl,by rw[hy];exact c⟩
theorem Gk{p:Part}{k:List Atom}(h:p.key=some k):p.av=.tup (k.map Atom.av):=by cases p<;>(first|exact ax h|cases h)<;>rfl
theorem Part.da(H:ah)(p:Part):DA H p.dat p.av:=by cases p<;>first|exact rfl|exact⟨_,rfl,_,_,rfl,rfl,_,_,rfl,rfl,rfl⟩
theorem DR(H:ah):∀ps:List Part,xz H (ps.map Part.dat) (ps.map Part.av):=by
 intro ps
 induction ps with
 |nil=>exact rfl
 |cons p r ih=>exact⟨_,_,rfl,p.da H,ih⟩
theorem DH(ps:List Part):PyData.canLayAll0 (ps.map Part.dat)=true:=by
 induction ps with
 |nil=>rfl
 |cons p r ih=>
  show(p.dat.canLay0&&PyData.canLayAll0 (r.map Part.dat))=true
  rw[p.lay.1,ih]
  rfl
noncomputable def CD(ps:List Part):AV:=match ps with
 |[]=>.none
 |p::_=>p.av
theorem Ib:nsIn e.G.K mainGlobals ("_law_read_back":Str)=some (some (.ref 668)):=by kernel_rfl
theorem O3:keepIn e.G.K (.ref 668)=true:=by kernel_rfl
theorem E4:nsIn e.G.K mainGlobals ("isinstance":Str)=some none:=by kernel_rfl
theorem z8:bootBuiltins ("isinstance":Str)=some (.builtin "isinstance"):=by kernel_rfl
theorem bf{H:ah}{a b:Addr}{o:AO}(h:(H.put a o) b=none):b≠a/\H b=none:=by
 have n:b≠a:=fun z=>by rw[z,al]at h;(exact bg h)
 exact⟨n,(aj _ _ n).symm.trans h⟩
theorem bJ.start{H:ah}{lc ls lh lv lb lg lp lw jW lm:Addr}{o1 o2 oc:AO}(kt:H lc=some oc)(Bv:H ls=none)(tB:(H.put ls (.bq [])) lh=none)(xt:((H.put ls (.bq [])).put lh (.aB [])) lv=none)(xu:(((H.put ls (.bq [])).put lh (.aB [])).put lv (.aB [])) lb=none)
 (EI:((((H.put ls (.bq [])).put lh (.aB [])).put lv (.aB [])).put lb (.bX [])) lg=none) (Bw:(((((H.put ls (.bq [])).put lh (.aB [])).put lv (.aB [])).put lb (.bX [])).put lg (.list [])) lp=none) {Ha:ah}
 (ea:Ha=((((((H.put ls (.bq [])).put lh (.aB [])).put lv (.aB [])).put lb (.bX [])).put lg (.list [])).put lp (.list [])).put ls (.bq (rM ⟨ls,lh,lb,lg,lm⟩ lv lp))) (vB:Ha lw=none) (wN:(Ha.put lw o1) jW=none) (un:(((Ha.put lw o1).put jW (.bq [])).put jW o2) lm=none):
 ((((Ha.put lw o1).put jW (.bq [])).put jW o2).put lm (.list [])) lc=some oc/\(∀o3,bJ ⟨ls,lh,lb,lg,lm⟩ (((H.put lw o1).put jW o2).put lc o3) lv (yr lp) 0 (((((Ha.put lw o1).put jW (.bq [])).put jW o2).put lm (.list [])).put lc o3))/\((H.put lw o1).put jW o2) lc=some oc/\(∀x o,H x=some o->((H.put lw o1).put jW o2) x=some o)/\
  lw≠lc/\jW≠lc/\lw≠jW:=by
 refine bh (bf tB) fun a1 b1=>?_
 refine bh (bf xt) fun a2 b2=>?_
 refine bh (bf b2) fun a3 b3=>?_
 refine bh (bf xu) fun a4 b4=>?_
 refine bh (bf b4) fun a5 b5=>?_
 refine bh (bf b5) fun a6 b6=>?_
 refine bh (bf EI) fun a7 b7=>?_
 refine bh (bf b7) fun a8 b8=>?_
 refine bh (bf b8) fun a9 b9=>?_
 refine bh (bf b9) fun Y7 Q4=>?_
 refine bh (bf Bw) fun Yp Uz=>?_
 refine bh (bf Uz) fun Yo Uy=>?_
 refine bh (bf Uy) fun Yn Ux=>?_
 refine bh (bf Ux) fun Ym Uw=>?_
 refine bh (bf Uw) fun Y6 Os=>?_
 have all:∀ {x},Ha x=none->x≠ls/\x≠lh/\x≠lv/\x≠lb/\x≠lg/\x≠lp/\H x=none:=fun {x} q=>by
  rw[ea]at q
  refine bh (bf q) fun c0 q=>?_
  refine bh (bf q) fun c1 q=>?_
  refine bh (bf q) fun c2 q=>?_
  refine bh (bf q) fun c3 q=>?_
  refine bh (bf q) fun c4 q=>?_
  refine bh (bf q) fun c5 q=>?_
  refine bh (bf q) fun _ q=>?_
  exact⟨c0,c5,c4,c3,c2,c1,q⟩
 refine eP (all vB) fun w1 w2 w3 w4 w5 w6 w7=>?_
 refine bh (bf wN) fun s0 SP=>?_
 refine eP (all SP) fun s1 s2 s3 s4 s5 s6 s7=>?_
 refine bh (bf un) fun m0 IL=>?_
 refine bh (bf IL) fun _ IL=>?_
 refine bh (bf IL) fun VP IL=>?_
 refine eP (all IL) fun m1 m2 m3 m4 m5 m6 m7=>?_
 have old:∀ {x o y},H x=some o->H y=none->x≠y:=fun q1 q2 z=>by rw[z,q2]at q1;(exact ax q1)
 have l1:=old kt Bv
 have l2:=old kt b1
 have l3:=old kt b3
 have l4:=old kt b6
 have l5:=old kt Q4
 have l6:=old kt Os
 have l7:=old kt w7
 have l8:=old kt s7
 have l9:=old kt m7
 have keep:∀ {x o},H x=some o->Ha x=some o:=fun {x o} q=>by
  rw[ea]
  have:=old q Bv
  have:=old q b1
  have:=old q b3
  have:=old q b6
  have:=old q Q4
  have:=old q Os
  k_extra"hp"
 have k0:=keep kt
 refine⟨by k_extra"hp",fun o3=>⟨?_,?_,?_,?_,⟨[],?_,rfl⟩,aj _ _ l9.symm |>.trans (al _ _ _),fun l xs q=>?_,⟨[],if_pos rfl⟩,⟨a2.symm,m5.symm⟩,fun x o q=>?_,⟨Nat.le_refl _,Nat.le_refl _,Nat.le_refl _,Nat.le_refl _⟩,Nat.le_refl _⟩,?_,fun x o q=>?_,l7.symm,l8.symm,s0.symm⟩
 ·rw[ea];k_extra"hp"
 ·rw[ea];k_extra"hp"
 ·rw[ea];k_extra"hp"
 ·rw[ea];k_extra"hp"
 ·rw[ea];k_extra"hp"
 ·have z:l=lp:=by
   by_cases z:l=lp
   ·exact z
   ·rw[show(yr lp).L l=none from if_neg z]at q;(exact ax q)
  clear all Os Uw Ym Ux Yn Uy Yo Uz Bw;subst z
  rw[show(yr l).L l=some []from if_pos rfl]at q
  cases q
  exact⟨by rw[ea];k_extra"hp",Yp,m6.symm⟩
 ·have fin:∀ {x},x≠ls->x≠lh->x≠lv->x≠lb->x≠lg->x≠lm->x≠lp->x∉[ls,lh,lv,lb,lg,lm]/\(yr lp).L x=none:=fun c1 c2 c3 c4 c5 c6 c7=>⟨by simp[c1,c2,c3,c4,c5,c6],if_neg c7⟩
  by_cases z:x=lc
  ·clear k0 l8 l7 kt oc;subst z
   rw[al]at q⊢
   exact⟨q,fin l1 l2 l3 l4 l5 l9 l6⟩
  rw[aj _ _ z]at q⊢
  by_cases z2:x=jW
  ·clear l8 s7 SP s0 un wN;subst z2
   rw[al]at q
   exact⟨q▸(by k_extra"hp"),fin s1 s2 s3 s4 s5 m0.symm s6⟩
  rw[aj _ _ z2]at q
  by_cases z3:x=lw
  ·clear l7 s0 w7 un wN vB;subst z3
   rw[al]at q
   exact⟨q▸(by k_extra"hp"),fin w1 w2 w3 w4 w5 VP.symm w6⟩
  rw[aj _ _ z3]at q
  have z4:=old q m7
  have:=keep q
  exact⟨by k_extra"hp",fin (old q Bv) (old q b1) (old q b3) (old q b6) (old q Q4) z4 (old q Os)⟩
 ·k_extra"hp"
 ·have:=old q s7
  have:=old q w7
  k_extra"hp"
noncomputable def Cy(lo lw jW:Addr)(a:RA):bP:=[("state",.ref a.s),("writers",.ref lw),("specials",.ref jW),("met",.ref a.m),("owner",.ref lo)]
theorem xC{x:Str}{a b:AV}{m:bP}:Sub ((x,a)::m) ((x,a)::(x,b)::m):=fun y c q=>by
 rw[List.lookup_cons]at q⊢
 cases z:(y==x)with
 |true=>rw[z]at q;exact q
 |false=>rw[z]at q;show List.lookup y ((x,b)::m)=_;rw[List.lookup_cons,z];exact q
theorem rY{lc lo:Addr}{code:List Row}{es:List (List Atom×AV)}(hc:H lc=some (.list (code.map Row.av)))(ho:H lo=some (.bX es))(eG:es≠[])(hs:∀p∈es,SeqAt.shaped (.tuple (p.1.map Atom.dat))=true)(hz:code.length<=7000000)
 {K:RB->Prop} (hK:∀l,f5 es code (yr l) K) {Q:AQ} (h:∀a gv rb n H',bJ a H gv rb n H'->K rb->Q (.ref a.s) H'):WC e.G (D+13) (.ref 668) [.ref lc,.ref lo] H Q:=by
 refine bj (ns:=["code","owner"]) (by kernel_rfl) (by kernel_rfl) rfl (fL (by intro x y;kernel_rfl)) ?_
 k_extra"norm_m"
 refine WS.cons (W1.assign (Cl (xs:=["heads","given","boxes","goals","open"]) rfl rfl (by simp) (cm rfl) rfl (by decide +kernel) fun ls Bv=>?_))
 refine nN fun lh tB=>nN fun lv xt=>tC fun lb xu=>WE.list fun lg EI=>WE.list fun lp Bw=>?_
 refine⟨(ao.new Bw).get ((ao.new EI).get ((ao.new xu).get ((ao.new xt).get ((ao.new tB).get (al _ _ _))))),?_⟩
 refine WS.cons (W1.assign (WE.list (kf.leaf rfl fun lw vB=>?_)))
 refine WS.cons (W1.assign (Cl (xs:=["get_level","mark","cut_to"]) rfl rfl (by simp) (cm rfl) rfl (by decide +kernel) fun jW wN=>kf.leaf rfl ⟨al _ _ _,?_⟩))
 refine WS.cons (W1.assign (WE.list fun lm un=>?_))
 refine eP (bJ.start (o1:=.list (gq.map AV.str)) (o2:=.bq gr) hc Bv tB xt xu EI Bw rfl vB wN un) fun Ua R0 bc bk Tg It NY=>?_
 refine WS.seq (fun m' H'=>m'.lookup ("state":Str)=some (.ref ls)/\∃gv rb n,bJ ⟨ls,lh,lb,lg,lm⟩ H gv rb n H'/\K rb) ?_ ?_
 ·refine mA (WE.name rfl ⟨lc,_,rfl,Ua,fun ob=>?_⟩)
  replace R0:=R0 (.ro (.list (code.map Row.av)) ob)
  have bw:((((H.put lw (.list (gq.map AV.str))).put jW (.bq gr)).put lc (.ro (.list (code.map Row.av)) ob)) lw)=some (.list (gq.map AV.str)):=(aj _ _ Tg).trans ((aj _ _ NY).trans (al _ _ _))
  have bs:((((H.put lw (.list (gq.map AV.str))).put jW (.bq gr)).put lc (.ro (.list (code.map Row.av)) ob)) jW)=some (.bq gr):=(aj _ _ It).trans (al _ _ _)
  have bo:((((H.put lw (.list (gq.map AV.str))).put jW (.bq gr)).put lc (.ro (.list (code.map Row.av)) ob)) lo)=some (.bX es):=(aj _ _ (ay ho hc (fun z=>iT z lF))).trans (bk _ _ ho)
  have bl:∀ {gv rb n H'},bJ ⟨ls,lh,lb,lg,lm⟩ (((H.put lw (.list (gq.map AV.str))).put jW (.bq gr)).put lc (.ro (.list (code.map Row.av)) ob)) gv rb n H'->bJ ⟨ls,lh,lb,lg,lm⟩ H gv rb n (H'.put lc (.list (code.map Row.av))):=fun R=>(R.rebase (fun _ z=>iT z lF) bc).less bk
  have Yg:((((H.put lw (.list (gq.map AV.str))).put jW (.bq gr)).put lc (.ro (.list (code.map Row.av)) ob)) lc)=some (.ro (.list (code.map Row.av)) ob):=al _ _ _
  generalize ((H.put lw (.list (gq.map AV.str))).put jW (.bq gr)).put lc (.ro (.list (code.map Row.av)) ob)=B at *
  refine dS.rule (fun au m' H'=>∃gv rb n,n+2*au.length<=15000000/\f5 es au rb K/\bJ ⟨ls,lh,lb,lg,lm⟩ B gv rb n H'/\Sub (Cy lo lw jW ⟨ls,lh,lb,lg,lm⟩) m') (fun row au m2 H2 I kp=>?_) (fun m2 H2 I kp=>?_) code (al _ _ _) ⟨lv,yr lp,0,by exact L5 hz,hK lp,R0,by k_extra"sb"⟩
  ·refine cQ (I) fun gv rb n i1 ak R i4=>?_;clear I;refine bh (ak) fun Qd i2=>?_;clear ak
   rw[fi]at i1
   clear tB xt xu EI Bw vB wN un Ua R0 bc bk Tg NY It
   refine WS.weak (m':=("row",row.av)::Cy lo lw jW ⟨ls,lh,lb,lg,lm⟩) (fun x a q=>?_) ?_
   ·rw[List.lookup_cons]at q⊢
    cases z:(x==("row":Str))with
    |true=>rw[z]at q;exact q
    |false=>rw[z]at q;exact i4 x a q
   clear kp;obtain⟨w,ps⟩:=row
   rw[show Row.av (w,ps)=.tup (.str (Str.ofString w)::ps.map Part.av)from rfl]
   have ko:(AV.str (Str.ofString w)::ps.map Part.av).length<=16000000:=by rw[fi,List.length_map];dsimp only at Qd;exact Dj Qd
   refine WS.seq (fun m' H'=>H'=H2/\Sub (("part",CD ps)::("row",.tup (.str (Str.ofString w)::ps.map Part.av))::Cy lo lw jW ⟨ls,lh,lb,lg,lm⟩) m') ?_ ?_
   ·refine W1.assign (lJ (WT.cmp (jQ pj jn (by decide) (WE.name rfl (ku ko (WE.int ?_))))))
    cases ps with
    |nil=>exact Ch (x:=false) rfl (rF ⟨rfl,rfl,fun x a q=>q⟩)
    |cons p r=>exact Ch (x:=true) (decide_eq_true (by rw[fi,List.length_map,fi];exact L4)) (WE.item (WE.name rfl (WE.int (WI.tup (by decide) rfl ko ⟨rfl,rfl,fun x a q=>q⟩))))
   ·intro m3;intro H3;intro ak;refine bh (ak) fun cu i5=>?_;clear ak;subst cu
    refine WS.weak i5 ?_
    clear i4 i5
    refine WS.seq (fun m' H'=>∃met part,bJ ⟨ls,lh,lb,lg,lm⟩ B gv (rb.mt met) (n+1) H'/\sK (w,ps) part (rb.mt met) (fun rb'=>f5 es au rb' K)/\Sub (("part",part)::("row",.tup (.str (Str.ofString w)::ps.map Part.av))::Cy lo lw jW ⟨ls,lh,lb,lg,lm⟩) m') ?_ ?_
    ·have iQ:=(R.base _ _ bo).1
     have same:∀ {H4 part},bJ ⟨ls,lh,lb,lg,lm⟩ B gv rb n H4->sK (w,ps) part rb (fun rb'=>f5 es au rb' K)->∃met CF,bJ ⟨ls,lh,lb,lg,lm⟩ B gv (rb.mt met) (n+1) H4/\sK (w,ps) CF (rb.mt met) (fun rb'=>f5 es au rb' K)/\Sub (("part",CF)::("row",.tup (.str (Str.ofString w)::ps.map Part.av))::Cy lo lw jW ⟨ls,lh,lb,lg,lm⟩) (("part",part)::("row",.tup (.str (Str.ofString w)::ps.map Part.av))::Cy lo lw jW ⟨ls,lh,lb,lg,lm⟩):=
      fun {H4 part} R4 g=>⟨rb.met,part,R4.more,g,fun x a q=>q⟩
     cases ps with
     |nil=>
      refine cT (WT.leaf rfl rfl (GK (D:=D+3) iQ hs (WS.last (cT (my (WT.val (jQ E4 z8 (by decide) (WE.name rfl (rD ka iC (by decide) (Eb (tu.bool ?_)))))))))))
      exact WS.nil ⟨rfl,same R i2⟩
     |cons p r=>
      cases hk:p.key with
      |none=>
       clear ko;obtain⟨i,rfl⟩:∃i,p=.num i:=by(clear same;cases p)<;>first|exact⟨_,rfl⟩|(exact bg hk)
       refine cT (WT.leaf (a:=.int i) rfl rfl (Gh (D:=D+3) iQ eG hs (WS.last (cT (my (WT.val (jQ E4 z8 (by decide) (WE.leaf (a:=.int i) rfl (rD ka iC (by decide) (Gb (tu.bool ?_)))))))))))
       exact WS.nil ⟨rfl,same (part:=.int i) R i2.2⟩
      |some k=>
       have ea:=Gk hk
       have eo:kL es p=es.lookup k:=by unfold kL;rw[hk];rfl
       replace i2:(match kL es p with|some a=>(kS gq (Str.ofString w)==me rb.met p)=false/\sK (w,p::r) (.tup [sS "v",a]) (rb.mt (rb.met++[p])) (fun rb'=>f5 es au rb' K)|none=>oq p/\sK (w,p::r) (nJ p) rb (fun rb'=>f5 es au rb' K)):=i2
       rw[eo]at i2
       refine cT (WT.cmp (WE.name rfl (WE.name rfl ?_)))
       rw[show CD (p::r)=.tup (k.map Atom.av)from ea]
       refine DX (D:=D+11) iQ ?_
       cases hl:es.lookup k with
       |some a=>
        rw[hl]at i2
        refine bh (i2) fun j1 j2=>?_;clear i2
        refine WS.cons (cT (WT.cmp (WE.cmp (WE.item (WE.name rfl (WE.int (WI.tup (by decide) rfl ko (WE.name rfl (Cn (R.base _ _ bw).1 ?_)))))))))
        refine WE.cmp (WE.name rfl (WE.name rfl ?_))
        refine pL (D:=D+4) (xs:=rb.met.map Part.dat) (d:=p.dat) ⟨lm,_,_,rfl,R.m,rfl,DR _ rb.met⟩ (ea▸p.da H3) (DH _) p.lay.1 p.lay.2 ?_
        refine GB ?_
        rw[show(gq.any (·==Str.ofString w)==((rb.met.map Part.dat).any fun y=>PyData.eqv y p.dat))=false from j1]
        refine WS.nil (WS.cons (W1.expr (WE.cW (WE.name rfl (ru.of R.m rfl (WE.name rfl (dG R.m (by rw[List.length_map];have:=R.mz;exact L3 i1 this) ?_)))))))
        have R5:=R.meets p
        rw[ea]at R5
        generalize H3.put lm (.list (rb.met.map Part.av++[.tup (k.map Atom.av)]))=H5 at *
        refine WS.cons (W1.assign (WE.tuple (WE.str (WE.item (WE.name rfl (WE.name rfl (WI.bX (D:=D+11) (R5.base _ _ bo).1 hl ?_)))))))
        exact WS.nil ⟨rfl,rb.met++[p],_,R5,j2,xC⟩
       |none=>
        rw[hl]at i2
        refine bh (i2) fun j1 j2=>?_;clear i2
        refine WS.last (cT (my (WT.val (jQ E4 z8 (by decide) (WE.name rfl (rD ka iC (by decide) (FP (tu.bool ?_))))))))
        clear hl eo ea ko;cases p with
        |num i=>(exact ax hk)
        |c c n=>
         clear same;cases hk
         rcases j1 with rfl|rfl
         ·refine WT.cmp (WE.leaf (a:=.int 4) rfl (WE.list (fY (i:=4) sP (fY (i:=5) w0 fun l hl=>?_))))
          refine pL (D:=D+4) (xs:=[.int 4,.int 5]) (d:=.int 4) ⟨l,_,_,rfl,al _ _ _,rfl,_,_,rfl,rfl,_,_,rfl,rfl,rfl⟩ rfl (by kernel_rfl) (by kernel_rfl) (by exact Nat.zero_le _) ?_
          rw[show(([.int 4,.int 5]:List PyData).any fun y=>PyData.eqv y (.int 4))=true by(rfl)]
          refine WS.last (W1.assign (WE.tuple (lJ (WT.cmp (WE.leaf (a:=.int 4) rfl (fY (i:=4) sP (pK (x:=true) rfl (WE.str (WE.leaf rfl ?_)))))))))
          exact⟨rfl,rb.met,_,(R.gB (ao.new hl)).more,j2,xC⟩
         ·refine WT.cmp (WE.leaf (a:=.int 5) rfl (WE.list (fY (i:=4) sP (fY (i:=5) w0 fun l hl=>?_))))
          refine pL (D:=D+4) (xs:=[.int 4,.int 5]) (d:=.int 5) ⟨l,_,_,rfl,al _ _ _,rfl,_,_,rfl,rfl,_,_,rfl,rfl,rfl⟩ rfl (by kernel_rfl) (by kernel_rfl) (by exact Nat.zero_le _) ?_
          rw[show(([.int 4,.int 5]:List PyData).any fun y=>PyData.eqv y (.int 5))=true by(rfl)]
          refine WS.last (W1.assign (WE.tuple (lJ (WT.cmp (WE.leaf (a:=.int 5) rfl (fY (i:=4) sP (pK (x:=false) rfl (WE.str (WE.leaf rfl ?_)))))))))
          exact⟨rfl,rb.met,_,(R.gB (ao.new hl)).more,j2,xC⟩
        |t n=>
         cases hk
         refine WT.cmp (WE.leaf (a:=.str ("t":Str)) rfl (WE.list (fY (i:=4) sP (fY (i:=5) w0 fun l hl=>?_))))
         refine pL (D:=D+4) (xs:=[.int 4,.int 5]) (d:=.str "t") ⟨l,_,_,rfl,al _ _ _,rfl,_,_,rfl,rfl,_,_,rfl,rfl,rfl⟩ rfl (by kernel_rfl) (by kernel_rfl) (by exact Nat.zero_le _) ?_
         rw[show(([.int 4,.int 5]:List PyData).any fun y=>PyData.eqv y (.str "t"))=false by(rfl)]
         exact WS.nil ⟨rfl,same (R.gB (ao.new hl)) j2⟩
        |y n=>
         cases hk
         refine WT.cmp (WE.leaf (a:=.str ("y":Str)) rfl (WE.list (fY (i:=4) sP (fY (i:=5) w0 fun l hl=>?_))))
         refine pL (D:=D+4) (xs:=[.int 4,.int 5]) (d:=.str "y") ⟨l,_,_,rfl,al _ _ _,rfl,_,_,rfl,rfl,_,_,rfl,rfl,rfl⟩ rfl (by kernel_rfl) (by kernel_rfl) (by exact Nat.zero_le _) ?_
         rw[show(([.int 4,.int 5]:List PyData).any fun y=>PyData.eqv y (.str "y"))=false by(rfl)]
         exact WS.nil ⟨rfl,same (R.gB (ao.new hl)) j2⟩
        |a n=>
         cases hk
         refine WT.cmp (WE.leaf (a:=.str ("a":Str)) rfl (WE.list (fY (i:=4) sP (fY (i:=5) w0 fun l hl=>?_))))
         refine pL (D:=D+4) (xs:=[.int 4,.int 5]) (d:=.str "a") ⟨l,_,_,rfl,al _ _ _,rfl,_,_,rfl,rfl,_,_,rfl,rfl,rfl⟩ rfl (by kernel_rfl) (by kernel_rfl) (by exact Nat.zero_le _) ?_
         rw[show(([.int 4,.int 5]:List PyData).any fun y=>PyData.eqv y (.str "a"))=false by(rfl)]
         exact WS.nil ⟨rfl,same (R.gB (ao.new hl)) j2⟩
    ·intro m4;intro H4;intro ak;refine aE (ak) fun met part R4 i6 i7=>?_;clear ak
     refine WS.weak i7 ?_
     have TK:=(R4.base _ _ bs).1
     have fin:∀ {gv' rb' H'},bJ ⟨ls,lh,lb,lg,lm⟩ B gv' rb' (n+2) H'->f5 es au rb' K->pZ (fun m' H'=>cA (some (lc,.ro (.list (code.map Row.av)) ob)) H'/\∃gv rb n,n+2*au.length<=15000000/\f5 es au rb K/\bJ ⟨ls,lh,lb,lg,lm⟩ B gv rb n H'/\Sub (Cy lo lw jW ⟨ls,lh,lb,lg,lm⟩) m') (fun fl m' H'=>fl=.next/\m'.lookup ("state":Str)=some (.ref ls)/\∃gv rb n,bJ ⟨ls,lh,lb,lg,lm⟩ H gv rb n H'/\K rb) .next (("part",part)::("row",.tup (.str (Str.ofString w)::ps.map Part.av))::Cy lo lw jW ⟨ls,lh,lb,lg,lm⟩) H':=fun {gv' rb' H'} R' k'=>⟨(R'.base _ _ Yg).1,gv',rb',n+2,by exact L1 i1,k',R',by k_extra"sb"⟩
     have hn:n+1<=15000000:=by exact L0 i1
     unfold sK at i6
     refine WS.last (cT (WT.cmp (WE.item (WE.name rfl (WE.int (WI.tup (by decide) rfl ko (WE.name rfl (Gx TK rfl rfl ?_))))))))
     clear i7 m4;cases hq:(gr.lookup (Str.ofString w)).isSome with
     |true=>
      rw[hq]at i6
      refine aE (i6) fun x k hl ak hk=>?_;clear i6;subst ak
      refine aA (R4.g) fun gs g1 _=>?_
      refine WS.last (W1.expr (WE.cW (WE.item (WE.name rfl (WE.str (WI.bq R4.s rfl rfl (ru.of g1 rfl ?_)))))))
      refine WE.tuple (WE.item (WE.name rfl (WE.item (WE.name rfl (WE.int (WI.tup (by decide) rfl ko ?_))))))
      refine WI.bq TK rfl hl (WE.leaf rfl ?_)
      exact WB.told R4 hn (g:=.n x k) rfl fun H5 R5=>fin R5 hk
     |false=>
      rw[hq]at i6
      refine WS.last (cT (WT.cmp (WE.item (WE.name rfl (WE.int (WI.tup (by decide) rfl ko (WE.str (eW ?_))))))))
      cases vA:(Str.ofString w==("neck_cut":Str))with
      |true=>
       rw[vA]at i6
       refine aA (R4.g) fun gs g1 _=>?_
       refine WS.last (W1.expr (WE.cW (WE.item (WE.name rfl (WE.str (WI.bq R4.s rfl rfl (ru.of g1 rfl ?_)))))))
       refine WE.tuple (WE.str ?_)
       exact WB.told R4 hn (g:=.c) rfl fun H5 R5=>fin R5 i6
      |false=>
       rw[vA]at i6
       refine WS.last (W1.expr (WE.cp Ic O4 (WE.name rfl (WE.name rfl (WE.name rfl ?_)))))
       exact Ee (D:=D) (row:=(w,ps)) R4 hn i6.1 Qd i6.2 fun gv' rb' H5 R5 k5=>fin R5 k5
  ·refine cQ (I) fun gv rb n i1 i2 R i4=>?_;clear I
   exact⟨rfl,i4 _ _ rfl,gv,rb,n,bl R,i2⟩
 ·intro m';intro H';intro ak;refine BU (ak) fun i1 gv rb n R hk=>?_;clear ak
  refine WS.weak (m':=[("state",.ref ls)]) (Sub.cons i1 Sub.nil) ?_
  exact WS.cons (W1.ret (WE.name rfl (h ⟨ls,lh,lb,lg,lm⟩ gv rb n H' R hk)))
theorem iw(P:aX)(a:Tm)(r:List Tm)(v:Int)(ns:List (Tm×Part))(st:CS):bQ P (a::r) v ns st=if isVoid P a then bQ P r (v+1) ns st else bQ P r (qu v) (eB P a ns (co "unify_void" v st)).1 (eB P a ns (co "unify_void" v st)).2:=rfl
theorem gy(P:aX)(a:Piece)(r:List Piece)(v:Int)(st:CS):bm P (a::r) v st=if a.isVoid P then bm P r (v+1) st else bm P r (qu v) (eY P a (co "set_void" v st)):=rfl
def mR(dm:V8->Prop)(t:Tm):Prop:=∀k∈t.occs,dm k
def ry(cs:bF)(nest:List (Tm×Part))(y:AV)(t:Tm):Prop:=match t with
 |.v k=>y=iR cs k
 |.a n=>y=.tup [sS "a",.int n]
 |.i n=>y=.tup [sS "i",.int n]
 |t=>∃m,y=.tup [sS "t",.int m]/\(t,Part.t m)∈nest
theorem ry.mono{cs:bF}{n n':List (Tm×Part)}(k:∀x∈n,x∈n'){y:AV}{t:Tm}(h:ry cs n y t):ry cs n' y t:=by
 cases t with
 |s1 u=>(refine aA (h) fun m a b=>?_;clear h);exact⟨m,a,k _ b⟩
 |s2 f u w=>(refine aA (h) fun m a b=>?_;clear h);exact⟨m,a,k _ b⟩
 |_=>exact h
structure NL(a b:Int)(args:List Tm)(new:List (Tm×Part)):Prop where
 le:a<=b
 mem:∀x∈new,x.1∈args/\x.1.cH=true/\∃m,x.2=.t m/\a<=m/\m<b
 ne:new.Pairwise fun x y=>x.2≠y.2
 sz:(new.map (·.1.size)).sum<=(args.map Tm.size).sum
theorem nv(k:V8):(pD P k st).seen=nA st.seen k/\(pD P k st).next=st.next:=by
 unfold pD
 by_cases h:st.seen k=true
 ·rw[if_pos h,oM h]
  split<;>exact⟨rfl,rfl⟩
 ·rw[if_neg h];exact⟨rfl,rfl⟩
theorem Bg(O:dd es P cs dm){k:V8}(hk:dm k)(hv:P.void k=false)
 (h:WR es r0 st fun rb=>Sync P dm st.seen st.next rb/\(∃xs,rb.L rb.fK=some xs/\xs.length<=100)/\∀met,Sync P dm (nA st.seen k) st.next ((rb.push [iR cs k]).mt met)->K ((rb.push [iR cs k]).mt met)):WR es r0 (pD P k st) K:=by
 unfold pD
 by_cases hs:st.seen k=true
 ·rw[if_pos hs]
  split
  ·exact uK O hk hv UY (by rw[hs];kernel_rfl) h
  ·exact uK O hk hv UZ (by rw[hs];kernel_rfl) h
 ·rw[if_neg hs]
  exact uK (st:=st) O hk hv OJ (by rw[Bool.eq_false_iff.mpr hs];kernel_rfl) h
theorem Bi(O:dd es P cs dm){arg:Tm}{nested:List (Tm×Part)}(ht:mR dm arg)(hv:isVoid P arg=false)
 (h:WR es r0 st fun rb=>Sync P dm st.seen st.next rb/\(∃xs,rb.L rb.fK=some xs/\xs.length<=100)/\∀y met,ry cs (eB P arg nested st).1 y arg->Sync P dm (eB P arg nested st).2.seen (eB P arg nested st).2.next ((rb.push [y]).mt met)->K ((rb.push [y]).mt met)):WR es r0 (eB P arg nested st).2 K:=by
 cases arg with
 |v k=>exact Bg O (ht k (.head _)) hv (h.mono fun rb q=>⟨q.1,q.2.1,fun met S=>q.2.2 _ met rfl (by rw[show(eB P (.v k) nested st).2=pD P k st from rfl,(nv k).1,(nv k).2];exact S)⟩)
 |a n=>exact Ar SJ (O.con _ _) (.inl rfl) rfl (h.mono fun rb q=>⟨q.2.1,q.2.2 _ rb.met rfl ⟨q.1.met,q.1.nx,q.1.fr⟩⟩)
 |i n=>exact Ar SJ (O.con _ _) (.inr rfl) rfl (h.mono fun rb q=>⟨q.2.1,q.2.2 _ rb.met rfl ⟨q.1.met,q.1.nx,q.1.fr⟩⟩)
 |s1 u=>
  refine WR.emit (st:=st) (w:="unify_variable") (ps:=[.t st.next]) (h.mono fun rb q=>lR (Nat.zero_le _) (O.NT _ q.1.nx) trivial (dE OJ ?_))
  refine ci (q) fun S ak c=>?_;clear q;refine aA (ak) fun xs a b=>?_;clear ak
  exact⟨xs,a,by exact vQ b,cm rfl,c _ rb.met ⟨_,rfl,by simp[ud,uf,ue,qJ,qI]⟩ ⟨S.met,by show 7<=st.next+1;have:=S.nx;exact Ah this,fun m hm=>S.fr m (by have:st.next+1<=m:=hm;exact vP this)⟩⟩
 |s2 f u w=>
  refine WR.emit (st:=st) (w:="unify_variable") (ps:=[.t st.next]) (h.mono fun rb q=>lR (Nat.zero_le _) (O.NT _ q.1.nx) trivial (dE OJ ?_))
  refine ci (q) fun S ak c=>?_;clear q;refine aA (ak) fun xs a b=>?_;clear ak
  exact⟨xs,a,by exact vQ b,cm rfl,c _ rb.met ⟨_,rfl,by simp[ud,uf,ue,qJ,qI]⟩ ⟨S.met,by show 7<=st.next+1;have:=S.nx;exact Ah this,fun m hm=>S.fr m (by have:st.next+1<=m:=hm;exact vP this)⟩⟩
theorem uS(n:Nat):qu (n:Int)=((0:Nat):Int):=by
 unfold qu
 split
 ·rfl
 ·exact LZ ‹_›
theorem wF(arg:Tm)(nested:List (Tm×Part))(st:CS):∃new,(eB P arg nested st).1=nested++new/\NL st.next (eB P arg nested st).2.next [arg] new:=by
 cases arg with
 |v k=>exact⟨[],(List.append_nil _).symm,Int.le_of_eq (nv k).2.symm,(fun x h=>bv h),.nil,Nat.zero_le _⟩
 |a n=>exact⟨[],(List.append_nil _).symm,Int.le_refl _,(fun x h=>bv h),.nil,Nat.zero_le _⟩
 |i n=>exact⟨[],(List.append_nil _).symm,Int.le_refl _,(fun x h=>bv h),.nil,Nat.zero_le _⟩
 |s1 u=>exact⟨[(.s1 u,.t st.next)],rfl,by show st.next<=st.next+1;exact Ag,fun x h=>by cases fG h;exact⟨.head _,rfl,_,rfl,Int.le_refl _,by show st.next<st.next+1;exact vO⟩,List.pairwise_singleton _ _,Nat.le_refl _⟩
 |s2 f u w=>exact⟨[(.s2 f u w,.t st.next)],rfl,by show st.next<=st.next+1;exact Ag,fun x h=>by cases fG h;exact⟨.head _,rfl,_,rfl,Int.le_refl _,by show st.next<st.next+1;exact vO⟩,List.pairwise_singleton _ _,Nat.le_refl _⟩
theorem gK:∀ (args:List Tm) (aM:Int) (nested:List (Tm×Part)) (st:CS),∃new,(bQ P args aM nested st).1=nested++new/\NL st.next (bQ P args aM nested st).2.next args new:=by
 intro args
 induction args with
 |nil=>intro aM nested st;exact⟨[],(List.append_nil _).symm,Int.le_of_eq (dc _ _ _).2.symm,(fun x h=>bv h),.nil,Nat.zero_le _⟩
 |cons arg au ih=>
  intro aM nested st
  rw[iw]
  split
  ·refine aA (ih (aM+1) nested st) fun new e N=>?_
   exact⟨new,e,N.le,fun x h=>have q:=N.mem x h;⟨.tail _ q.1,q.2⟩,N.ne,d6 N.sz (Nat.le_add_left _ _)⟩
  ·have fs:=(dc "unify_void" aM st).2
   (refine aA (wF (P:=P) arg nested (co "unify_void" aM st)) fun n1 e1 N1=>?_)
   generalize eB P arg nested (co "unify_void" aM st)=r at *
   refine aA (ih (qu aM) r.1 r.2) fun n2 e2 N2=>?_
   rw[fs]at N1
   refine⟨n1++n2,by rw[e2,e1,List.append_assoc],Int.le_trans N1.le N2.le,fun x h=>?_,?_,?_⟩
   ·rcases List.mem_append.mp h with h|h
    ·refine eV (N1.mem x h) fun a b m c d f=>?_
     exact⟨fG a▸.head _,b,m,c,d,Int.lt_of_lt_of_le f N2.le⟩
    ·refine eV (N2.mem x h) fun a b m c d f=>?_
     exact⟨.tail _ a,b,m,c,Int.le_trans N1.le d,f⟩
   ·refine List.pairwise_append.mpr ⟨N1.ne,N2.ne,fun x hx y hy z=>?_⟩
    refine eV (N1.mem x hx) fun _ _ m c d f=>?_
    refine eV (N2.mem y hy) fun _ _ m' c' d' f'=>?_
    rw[c,c']at z
    injection z
    exact LY f d' n_eq
   ·rw[List.map_append,List.sum_append,List.map_cons,List.sum_cons]
    exact Nat.add_le_add (by have:=N1.sz;simpa using this) N2.sz
theorem zb(O:dd es P cs dm):∀ (args:List Tm) (aM:Nat) (nested:List (Tm×Part)) {st:CS} {K:RB->Prop},aM+args.length<=50->(∀t∈args,mR dm t)->
 (WR es r0 st fun rb=>Sync P dm st.seen st.next rb/\(∃xs,rb.L rb.fK=some xs/\xs.length+aM+args.length<=50)/\∀ys met,L2 (ry cs (bQ P args aM nested st).1) ys args->
  Sync P dm (bQ P args aM nested st).2.seen (bQ P args aM nested st).2.next ((rb.push (List.replicate aM vb++ys)).mt met)->K ((rb.push (List.replicate aM vb++ys)).mt met))->WR es r0 (bQ P args aM nested st).2 K:=by
 intro args
 induction args with
 |nil=>
  intro aM nested st K hz ht h
  refine kT SL aM (h.mono fun rb q=>?_)
  refine ci (q) fun S ak c=>?_;clear q;refine aA (ak) fun xs a b=>?_;clear ak
  have:=c [] rb.met rfl (by
   rw[show(bQ P [] (aM:Int) nested st).2=co "unify_void" aM st from rfl,(dc _ _ _).1,(dc _ _ _).2]
   exact⟨S.met,S.nx,S.fr⟩)
  rw[List.append_nil]at this
  exact⟨⟨xs,a,by exact Di b⟩,by exact d6 ‹_› (cm rfl),this⟩
 |cons arg au ih=>
  intro aM nested st K hz ht h
  rw[fi]at hz
  have Bp:∀t∈au,mR dm t:=fun t q=>ht t (.tail _ q)
  cases hv:isVoid P arg with
  |true=>
   have e:bQ P (arg::au) aM nested st=bQ P au ((aM+1:Nat):Int) nested st:=by rw[iw,if_pos hv];rfl
   rw[e]at h⊢
   have ev:ry cs (bQ P au ((aM+1:Nat):Int) nested st).1 vb arg:=by
    clear h K ih;cases arg with
    |v k=>
     show vb=iR cs k
     have:=O.void k (ht _ (.head _) k (.head _))
     rw[show P.void k=true from hv]at this
     unfold iR vb
     rw[if_pos (of_decide_eq_true this.symm)]
    |_=>(exact bI hv)
   refine ih (aM+1) nested (by exact Dh hz) Bp (h.mono fun rb q=>?_)
   refine ci (q) fun S ak c=>?_;clear q;refine aA (ak) fun xs a b=>?_;clear ak
   refine⟨S,⟨xs,a,by rw[fi]at b;exact Dg b⟩,fun ys met q S'=>?_⟩
   have:=c (vb::ys) met ⟨arg,au,rfl,ev,q⟩
   rw[List.replicate_succ',List.append_assoc]at S'⊢
   exact this S'
  |false=>
   have fs:=dc "unify_void" (aM:Int) st
   have e:bQ P (arg::au) aM nested st=bQ P au ((0:Nat):Int) (eB P arg nested (co "unify_void" aM st)).1 (eB P arg nested (co "unify_void" aM st)).2:=by rw[iw,if_neg (by rw[hv];exact jx),←uS aM]
   rw[e]at h⊢
   (refine aA (gK (P:=P) au ((0:Nat):Int) (eB P arg nested (co "unify_void" aM st)).1 (eB P arg nested (co "unify_void" aM st)).2) fun new en N=>?_)
   refine ih 0 _ (by exact Df hz) Bp (Bi O (ht _ (.head _)) hv (kT SL aM (h.mono fun rb q=>?_)))
   refine ci (q) fun S ak c=>?_;clear q;refine aA (ak) fun xs a b=>?_;clear ak
   rw[fi]at b
   refine⟨⟨xs,a,by exact De b⟩,by exact Dd b,by rw[fs.1,fs.2];exact⟨S.met,S.nx,S.fr⟩,⟨_,fQ a,by rw[List.length_append,List.length_replicate];exact Dc b⟩,fun y met r S1=>⟨S1,⟨_,fQ (rb:=rb.push (List.replicate aM vb)) (fQ a),by rw[List.length_append,List.length_append,List.length_replicate,List.length_singleton];exact Db b⟩,fun ys qF q S2=>?_⟩⟩
   have:=c (y::ys) qF ⟨arg,au,rfl,r.mono (fun x hx=>by rw[en];exact List.mem_append_left _ hx),q⟩
   have ep:((((rb.push (List.replicate aM vb)).push [y]).mt met).push (List.replicate 0 vb++ys)).mt qF=(rb.push (List.replicate aM vb++y::ys)).mt qF:=by
    show(((rb.push (List.replicate aM vb)).push [y]).push ys).mt qF=_
    rw[ju,ju]
    rfl
   rw[ep]at S2⊢
   exact this S2
structure Ext(rb rb':RB):Prop where
 bx:∀m p,rb.bH.lookup (dz m)=some p->rb'.bH.lookup (dz m)=some p
 L:∀l xs,rb.L l=some xs->rb'.L l=some xs
 h:rb'.ai=rb.ai
 g:rb'.given=rb.given
 t:rb'.ag=rb.ag
theorem Ext.refl(rb:RB):Ext rb rb:=⟨fun _ _ h=>h,fun _ _ h=>h,rfl,rfl,rfl⟩
theorem Ext.trans{a b c:RB}(x:Ext a b)(y:Ext b c):Ext a c:=⟨fun m p h=>y.bx m p (x.bx m p h),fun l xs h=>y.L l xs (x.L l xs h),y.h.trans x.h,y.g.trans x.g,y.t.trans x.t⟩
theorem Ext.opens{rb rb':RB}(x:Ext rb rb'){n:Nat}{p:AV}{bt:BT}(h:cK rb.bH rb.L n p bt):cK rb'.bH rb'.L n p bt:=h.jV x.bx x.L
noncomputable def RB.jC(g:Bool)(f:Int)(r:Part)(l:Addr)(rb:RB):RB:=match r with
 |.t m=>{ rb.open l with bH:=bZ (dz m) (made f l) rb.bH }
 |.a i=>cond g { rb.open l with ai:=bZ i (made f l) rb.ai } { rb.open l with given:=bZ i (made f l) rb.given }
 |_=>rb
def xx(next:Int)(r:Part):Prop:=(∃i,r=.a i)∨∃m,r=.t m/\7<=m/\m<next
theorem nV{m n:Int}(h:dz m=dz n):m=n:=by
 injection h with _ h
 injection h with h
 injection h
theorem dT(k j:List Atom)(v:AV):∀es:List (List Atom×AV),(bZ k v es).lookup j=if j=k then some v else es.lookup j:=by
 intro es
 induction es with
 |nil=>
  rw[yw,List.lookup_cons]
  by_cases z:j=k
  ·rw[z,beq_self_eq_true,if_pos rfl]
  ·rw[beq_false_of_ne z,if_neg z]
 |cons x r ih=>
  obtain⟨q,b⟩:=x
  rw[gJ]
  by_cases y:q=k
  ·rw[if_pos y,List.lookup_cons,List.lookup_cons]
   by_cases z:j=k
   ·rw[z,y,beq_self_eq_true,if_pos rfl]
   ·rw[y,beq_false_of_ne z,if_neg z]
  ·rw[if_neg y,List.lookup_cons,List.lookup_cons,ih]
   by_cases z:j=q
   ·subst z
    rw[beq_self_eq_true]
    exact(if_neg y).symm
   ·rw[beq_false_of_ne z]
theorem gd(t:Tm):t.args.length<=2:=by cases t<;>first|exact Nat.zero_le _|exact Nat.le_refl _|exact Nat.le_succ _
theorem tj{t:Tm}(h:t.cH=true):(t.args.map Tm.size).sum+1=t.size:=by(clear h;cases t)<;>first|rfl|cases h
theorem fq{t u:Tm}(h:u∈t.args):∀k∈u.occs,k∈t.occs:=by
 intro k hk
 have:t.cH=true:=by cases t<;>first|rfl|exact bv h
 rw[←lZ t this]
 exact List.mem_flatMap.mpr ⟨u,h,hk⟩
theorem nM{cs:bF}{t:Tm}(h:t.cH=true):ce cs t=.s t.fn (t.args.map (ce cs)):=by cases t<;>first|rfl|(exact bI h)
theorem L2.map{α β γ:Type}{R:α->β->Prop}{R':α->γ->Prop}{f:β->γ}:∀ {xs:List α} {ys:List β},L2 R xs ys->(∀x y,y∈ys->R x y->R' x (f y))->L2 R' xs (ys.map f):=by
 intro xs
 induction xs with
 |nil=>intro ys h k;(clear k;cases (show ys=[]from h));rfl
 |cons x r ih=>
  intro ys h k
  refine aE (h) fun y zs ak a b=>?_;clear h;subst ak
  exact⟨f y,zs.map f,rfl,k x y (.head _) a,ih b fun x y q=>k x y (.tail _ q)⟩
theorem ry.opens{nest:List (Tm×Part)}{y:AV}{u:Tm}{N:Nat}{bx:List (List Atom×AV)}{L:Addr->Option (List AV)}(h:ry cs nest y u)(hN:u.size<=N)(hc:∀m,(u,Part.t m)∈nest->cK bx L N (.tup [sS "t",.int m]) (ce cs u)):cK bx L N y (ce cs u):=by
 cases N with
 |zero=>have:=bW u;lia
 |succ N=>
  clear hN;cases u with
  |s1 v=>(refine aA (h) fun m a b=>?_;clear h);rw[a];exact hc m b
  |s2 f v w=>(refine aA (h) fun m a b=>?_;clear h);rw[a];exact hc m b
  |_=>exact h
theorem xx.ok{next:Int}(O:dd es P cs dm){r:Part}(h:xx next r):kL es r=none/\oq r/\∀ {g f} {rb:RB} {K:RB->Prop},(∀l,rb.L l=none->K (rb.jC g f r l))->nZ g f r rb K:=by
 rcases h with⟨i,rfl⟩|⟨m,rfl,h,_⟩
 ·exact⟨O.arg i,trivial,fun k=>k⟩
 ·exact⟨O.NT m h,trivial,fun k=>k⟩
set_option tactic.hygienic true in
theorem oo(O:dd es P cs dm){w:String}{g:Bool}(h1:iL (w++"_list") (.fK g))(h2:iL (w++"_structure") (.fK g)){t:Tm}{r:Part}{next:Int}(hr:xx next r)(h:WR es r0 st fun rb=>∀l,rb.L l=none->K (rb.jC g t.fn r l)):WR es r0 (aZ st w t r) K:=by
 refine ci (hr.ok O) fun a b c=>?_
 unfold aZ
 split
 ·rename_i e
  exact WR.emit (h.mono fun rb q=>lR (Nat.zero_le _) a b (dE h1 (by rw[e]at q;exact c q)))
 ·exact WR.emit (h.mono fun rb q=>lR (cm rfl) (nu _) trivial (dE h2 (c q)))
theorem cO(st:CS)(w:String)(t:Tm)(r:Part):(aZ st w t r).seen=st.seen/\(aZ st w t r).next=st.next:=by
 unfold aZ
 split<;>exact⟨rfl,rfl⟩
theorem tU{g:Bool}{f:Int}{r:Part}{next:Int}(hr:xx next r)(l:Addr)(rb:RB):(rb.jC g f r l).L=(rb.open l).L/\(rb.jC g f r l).fK=l/\(rb.jC g f r l).ag=rb.ag/\(rb.jC g f r l).met=rb.met:=by
 rcases hr with⟨i,rfl⟩|⟨m,rfl,_⟩
 ·cases g<;>exact⟨rfl,rfl,rfl,rfl⟩
 ·exact⟨rfl,rfl,rfl,rfl⟩
theorem pR{g:Bool}{f:Int}{r:Part}{seen:V8->Bool}{next:Int}(hr:xx next r){l:Addr}{rb:RB}(S:Sync P dm seen next rb):Sync P dm seen next (rb.jC g f r l):=by
 rcases hr with⟨i,rfl⟩|⟨m,rfl,_,hm⟩
 ·cases g<;>exact⟨S.met,S.nx,S.fr⟩
 ·refine⟨S.met,S.nx,fun n hn=>?_⟩
  show(bZ (dz m) (made f l) rb.bH).lookup (dz n)=none
  rw[dT,if_neg fun z=>by have:=nV z;exact LX hm hn this]
  exact S.fr n hn
theorem rN{g:Bool}{f:Int}{m:Int}{l:Addr}{rb:RB}{ys:List AV}{met:List Part}(hl:rb.L l=none)(hm:rb.bH.lookup (dz m)=none):Ext rb (((rb.jC g f (.t m) l).push ys).mt met):=by
 refine⟨fun n p q=>?_,fun x xs q=>?_,rfl,rfl,rfl⟩
 ·show(bZ (dz m) (made f l) rb.bH).lookup (dz n)=some p
  rw[dT,if_neg fun z=>by rw[z,hm]at q;(exact ax q)]
  exact q
 ·have z:x≠l:=fun z=>by rw[z,hl]at q;(exact ax q)
  show(if x=l then _ else(if x=l then some []else rb.L x))=_
  rw[if_neg z,if_neg z]
  exact q
theorem kB{g:Bool}{f:Int}{r:Part}{next:Int}(hr:xx next r)(l:Addr)(rb:RB)(ys:List AV)(met:List Part):(((rb.jC g f r l).push ys).mt met).L l=some ys:=by
 refine ci (tU (g:=g) (f:=f) hr l rb) fun a b _=>?_
 show(if l=(rb.jC g f r l).fK then((rb.jC g f r l).L l).map (·++ys)else _)=_
 rw[a,b,if_pos rfl]
 show Option.map _ (if l=l then some []else _)=_
 rw[if_pos rfl]
 rfl
theorem ve(O:dd es P cs dm){t:Tm}{r:Part}(ht:mR dm t)(hr:xx st.next r)
 (h:WR es r0 st fun rb=>Sync P dm st.seen st.next rb/\∀l ys met,rb.L l=none->L2 (ry cs (bQ P t.args 0 [] (aZ st "get" t r)).1) ys t.args->Sync P dm (bQ P t.args 0 [] (aZ st "get" t r)).2.seen (bQ P t.args 0 [] (aZ st "get" t r)).2.next (((rb.jC true t.fn r l).push ys).mt met)->K (((rb.jC true t.fn r l).push ys).mt met)):
 WR es r0 (bQ P t.args 0 [] (aZ st "get" t r)).2 K:=by
 refine zb O t.args 0 [] (by have:=gd t;exact LV this) (fun u hu k hk=>ht k (fq hu k hk)) (oo O U3 U2 hr (h.mono fun rb q l hl=>?_))
 refine bh (q) fun S c=>?_;clear q
 refine ci (tU (g:=true) (f:=t.fn) hr l rb) fun a b _=>?_
 rw[(cO st "get" t r).1,(cO st "get" t r).2]
 refine⟨pR hr S,⟨[],?_,by have:=gd t;rw[List.length_nil];exact LU this⟩,fun ys met q S'=>c l ys met hl q S'⟩
 rw[a,b]
 exact if_pos rfl
theorem wD(O:dd es P cs dm):∀ (n:Nat) (ws:List (Tm×Part)) {st:CS} {K:RB->Prop},(ws.map (·.1.size)).sum<=n->7<=st.next->(∀x∈ws,x.1.cH=true/\mR dm x.1/\∃m,x.2=.t m/\7<=m/\m<st.next)->ws.Pairwise (fun x y=>x.2≠y.2)->
 (WR es r0 st fun rb=>Sync P dm st.seen st.next rb/\(∀x∈ws,∀m,x.2=.t m->rb.bH.lookup (dz m)=none)/\∀rb',Sync P dm (e6 P n ws st).seen (e6 P n ws st).next rb'->Ext rb rb'->
  (∀x∈ws,∀m,x.2=.t m->∀N,x.1.size<=N->cK rb'.bH rb'.L N (.tup [sS "t",.int m]) (ce cs x.1))->K rb')->WR es r0 (e6 P n ws st) K:=by
 intro n
 induction n with
 |zero=>
  intro ws st K hz hn hw hp h
  clear hp hw;cases ws with
  |nil=>exact h.mono fun rb q=>q.2.2 rb q.1 (Ext.refl _) fun x hx=>bv hx
  |cons x r=>rw[List.map_cons,List.sum_cons]at hz;have:=bW x.1;lia
 |succ n ih=>
  intro ws st K hz hn hw hp h
  cases ws with
  |nil=>exact h.mono fun rb q=>q.2.2 rb q.1 (Ext.refl _) fun x hx=>bv hx
  |cons x ws=>
   obtain⟨t,reg⟩:=x
   refine eV (hw _ (.head _)) fun hs ht m0 ak m1 m2=>?_;subst ak
   have hr:xx st.next (.t m0):=.inr ⟨m0,rfl,m1,m2⟩
   rw[List.pairwise_cons]at hp
   rw[List.map_cons,List.sum_cons]at hz
   (refine aA (gK (P:=P) t.args 0 [] (aZ st "get" t (.t m0))) fun new en N=>?_)
   rw[(cO st "get" t (.t m0)).2,List.nil_append]at *
   have eM:e6 P (n+1) ((t,.t m0)::ws) st=e6 P n ((bQ P t.args 0 [] (aZ st "get" t (.t m0))).1++ws) (bQ P t.args 0 [] (aZ st "get" t (.t m0))).2:=rfl
   rw[eM,en]at h⊢
   have HY:∀x∈ws,∃m,x.2=.t m/\m<st.next/\m≠m0:=fun x hx=>by
    refine eV (hw x (.tail _ hx)) fun _ _ m a _ b=>?_
    exact⟨m,a,b,fun z=>hp.1 x hx (by rw[a,z])⟩
   refine ih (new++ws) (by rw[List.map_append,List.sum_append];have:=N.sz;have:=tj hs;dsimp only at hz;lia) (Int.le_trans hn N.le) (fun x hx=>?_) (List.pairwise_append.mpr ⟨N.ne,hp.2,fun x hx y hy z=>?_⟩) (ve O ht hr (h.mono fun rb q=>?_))
   ·rcases List.mem_append.mp hx with hx|hx
    ·refine eV (N.mem x hx) fun a b m c d f=>?_
     exact⟨b,fun k hk=>ht k (fq a k hk),m,c,Int.le_trans hn d,f⟩
    ·refine eV (hw x (.tail _ hx)) fun a b m c d f=>?_
     exact⟨a,b,m,c,d,Int.lt_of_lt_of_le f N.le⟩
   ·refine eV (N.mem x hx) fun _ _ m c d _=>?_
    refine aN (HY y hy) fun m' c' d' _=>?_
    rw[c,c']at z
    injection z
    exact LS d d' n_eq
   ·refine ci (q) fun S U k=>?_;clear q
    refine⟨S,fun l ys met hl hy S2=>⟨S2,fun x hx m e=>?_,fun rb' S' X Og=>?_⟩⟩
    ·have nm:m≠m0/\rb.bH.lookup (dz m)=none:=by
      rcases List.mem_append.mp hx with hx|hx
      ·refine eV (N.mem x hx) fun _ _ m' c d _=>?_
       rw[c]at e
       injection e with e
       exact⟨by exact LQ m2 d e,S.fr m (by exact C9 d e)⟩
      ·refine aN (HY x hx) fun m' c' d' f'=>?_
       refine⟨fun z=>f' ?_,U x (.tail _ hx) m e⟩
       rw[c']at e
       injection e with e
       exact LP z e
     show(bZ (dz m0) (made t.fn l) rb.bH).lookup (dz m)=none
     rw[dT,if_neg fun z=>nm.1 (nV z)]
     exact nm.2
    ·refine k rb' S' ((rN hl (U _ (.head _) m0 rfl)).trans X) fun x hx m e N' hN=>?_
     rcases de hx with rfl|hx
     ·injection e with e
      subst e
      cases N' with
      |zero=>have:=bW t;exact absurd hN (by dsimp only;exact vR this)
      |succ N'=>
       rw[nM hs]
       refine⟨l,ys,.inr ⟨m0,rfl,X.bx m0 _ ?_⟩,by rw[List.length_map];exact d6 (gd t) (by decide),X.L l ys (kB hr l rb ys met),hy.map fun y u hu a=>?_⟩
       ·show(bZ (dz m0) (made t.fn l) rb.bH).lookup (dz m0)=_
        rw[dT,if_pos rfl]
       ·have z:u.size<=N':=by have:=gX hu;dsimp only at hN;exact qi hN this
        rw[en]at a
        exact a.opens z fun m hm=>Og (u,.t m) (List.mem_append_left _ hm) m rfl N' z
     ·exact Og x (List.mem_append_right _ hx) m e N' hN
def Ay(dm:V8->Prop):Piece->Prop
 |.reg b=>7<=b
 |.tm t=>t.cH=false/\mR dm t
def Fd(cs:bF)(y:AV):Piece->Prop
 |.reg b=>y=.tup [sS "t",.int b]
 |.tm (.v k)=>y=iR cs k
 |.tm (.a n)=>y=.tup [sS "a",.int n]
 |.tm (.i n)=>y=.tup [sS "i",.int n]
 |.tm _=>False
def BR(cs:bF)(rb:RB)(b:Int)(u:Tm):Prop:=∀N,u.size<=N->cK rb.bH rb.L N (.tup [sS "t",.int b]) (ce cs u)
noncomputable def pV:List Tm->List Int->List Piece
 |[],_=>[]
 |a::r,cI=>if a.cH then(match cI with|b::q=>.reg b::pV r q|[]=>.tm a::pV r [])else .tm a::pV r cI
theorem yC{u:Tm}{r:List Tm}{b:Int}{q:List Int}(h:u.cH=true):pV (u::r) (b::q)=.reg b::pV r q:=if_pos h
theorem yE{u:Tm}{r:List Tm}{q:List Int}(h:u.cH=false):pV (u::r) q=.tm u::pV r q:=if_neg (by rw[h];exact jx)
theorem L2.imp{α β:Type}{R R':α->β->Prop}:∀ {xs:List α} {ys:List β},L2 R xs ys->(∀x y,y∈ys->R x y->R' x y)->L2 R' xs ys:=by
 intro xs ys h k
 have:=h.map (f:=id) k
 rwa [List.map_id]at this
theorem jr(k:V8):(gY P k st).seen=nA st.seen k/\(gY P k st).next=st.next:=by
 unfold gY
 by_cases h:st.seen k=true
 ·rw[if_pos h,oM h]
  split
  ·split<;>exact⟨rfl,rfl⟩
  ·exact⟨rfl,rfl⟩
 ·rw[if_neg h];exact⟨rfl,rfl⟩
theorem we(O:dd es P cs dm){k:V8}(hk:dm k)(hv:P.void k=false)
 (h:WR es r0 st fun rb=>Sync P dm st.seen st.next rb/\(∃xs,rb.L rb.fK=some xs/\xs.length<=100)/\∀met,Sync P dm (nA st.seen k) st.next ((rb.push [iR cs k]).mt met)->K ((rb.push [iR cs k]).mt met)):WR es r0 (gY P k st) K:=by
 unfold gY
 by_cases hs:st.seen k=true
 ·rw[if_pos hs]
  split
  ·split
   ·exact uK O hk hv SG (by rw[hs];kernel_rfl) h
   ·exact uK (st:=st) O hk hv SG (by rw[hs];kernel_rfl) h
  ·exact uK O hk hv SH (by rw[hs];kernel_rfl) h
 ·rw[if_neg hs]
  exact uK (st:=st) O hk hv UX (by rw[Bool.eq_false_iff.mpr hs];kernel_rfl) h
theorem wh(O:dd es P cs dm){p:Piece}(hp:Ay dm p)(hv:p.isVoid P=false)
 (h:WR es r0 st fun rb=>Sync P dm st.seen st.next rb/\(∃xs,rb.L rb.fK=some xs/\xs.length<=100)/\∀y met,Fd cs y p->Sync P dm (eY P p st).seen (eY P p st).next ((rb.push [y]).mt met)->K ((rb.push [y]).mt met)):WR es r0 (eY P p st) K:=by
 cases p with
 |reg b=>exact Ar SH (O.NT _ hp) trivial rfl (h.mono fun rb q=>⟨q.2.1,q.2.2 _ rb.met rfl ⟨q.1.met,q.1.nx,q.1.fr⟩⟩)
 |tm t=>
  cases t with
  |v k=>exact we O (hp.2 k (.head _)) hv (h.mono fun rb q=>⟨q.1,q.2.1,fun met S=>q.2.2 _ met rfl (by rw[show eY P (.tm (.v k)) st=gY P k st from rfl,(jr k).1,(jr k).2];exact S)⟩)
  |a n=>exact Ar SE (O.con _ _) (.inl rfl) rfl (h.mono fun rb q=>⟨q.2.1,q.2.2 _ rb.met rfl ⟨q.1.met,q.1.nx,q.1.fr⟩⟩)
  |i n=>exact Ar SE (O.con _ _) (.inr rfl) rfl (h.mono fun rb q=>⟨q.2.1,q.2.2 _ rb.met rfl ⟨q.1.met,q.1.nx,q.1.fr⟩⟩)
  |s1 u=>exact dH hp.1
  |s2 f u w=>exact dH hp.1
theorem tY(O:dd es P cs dm):∀ (ps:List Piece) (aM:Nat) {st:CS} {K:RB->Prop},aM+ps.length<=50->(∀p∈ps,Ay dm p)->
 (WR es r0 st fun rb=>Sync P dm st.seen st.next rb/\(∃xs,rb.L rb.fK=some xs/\xs.length+aM+ps.length<=50)/\∀ys met,L2 (Fd cs) ys ps->
  Sync P dm (bm P ps aM st).seen (bm P ps aM st).next ((rb.push (List.replicate aM vb++ys)).mt met)->K ((rb.push (List.replicate aM vb++ys)).mt met))->WR es r0 (bm P ps aM st) K:=by
 intro ps
 induction ps with
 |nil=>
  intro aM st K hz ht h
  refine kT SK aM (h.mono fun rb q=>?_)
  refine ci (q) fun S ak c=>?_;clear q;refine aA (ak) fun xs a b=>?_;clear ak
  have:=c [] rb.met rfl (by
   rw[show bm P [] (aM:Int) st=co "set_void" aM st from rfl,(dc _ _ _).1,(dc _ _ _).2]
   exact⟨S.met,S.nx,S.fr⟩)
  rw[List.append_nil]at this
  exact⟨⟨xs,a,by exact Di b⟩,by exact d6 ‹_› (cm rfl),this⟩
 |cons p au ih=>
  intro aM st K hz ht h
  rw[fi]at hz
  have Bp:∀t∈au,Ay dm t:=fun t q=>ht t (.tail _ q)
  cases hv:p.isVoid P with
  |true=>
   have e:bm P (p::au) aM st=bm P au ((aM+1:Nat):Int) st:=by rw[gy,if_pos hv];rfl
   rw[e]at h⊢
   have ev:Fd cs vb p:=by
    have hp:=ht p (.head _)
    clear Bp ht hz ih;cases p with
    |reg b=>(exact bI hv)
    |tm t=>
     cases t with
     |v k=>
      show vb=iR cs k
      have:=O.void k (hp.2 k (.head _))
      rw[show P.void k=true from hv]at this
      unfold iR vb
      rw[if_pos (of_decide_eq_true this.symm)]
     |_=>(exact bI hv)
   refine ih (aM+1) (by exact Dh hz) Bp (h.mono fun rb q=>?_)
   refine ci (q) fun S ak c=>?_;clear q;refine aA (ak) fun xs a b=>?_;clear ak
   refine⟨S,⟨xs,a,by rw[fi]at b;exact Dg b⟩,fun ys met q S'=>?_⟩
   have:=c (vb::ys) met ⟨p,au,rfl,ev,q⟩
   rw[List.replicate_succ',List.append_assoc]at S'⊢
   exact this S'
  |false=>
   have fs:=dc "set_void" (aM:Int) st
   have e:bm P (p::au) aM st=bm P au ((0:Nat):Int) (eY P p (co "set_void" aM st)):=by rw[gy,if_neg (by rw[hv];exact jx),←uS aM]
   rw[e]at h⊢
   refine ih 0 (by exact Df hz) Bp (wh O (ht _ (.head _)) hv (kT SK aM (h.mono fun rb q=>?_)))
   refine ci (q) fun S ak c=>?_;clear q;refine aA (ak) fun xs a b=>?_;clear ak
   rw[fi]at b
   refine⟨⟨xs,a,by exact De b⟩,by exact Dd b,by rw[fs.1,fs.2];exact⟨S.met,S.nx,S.fr⟩,⟨_,fQ a,by rw[List.length_append,List.length_replicate];exact Dc b⟩,fun y met r S1=>⟨S1,⟨_,fQ (rb:=rb.push (List.replicate aM vb)) (fQ a),by rw[List.length_append,List.length_append,List.length_replicate,List.length_singleton];exact Db b⟩,fun ys qF q S2=>?_⟩⟩
   have:=c (y::ys) qF ⟨p,au,rfl,r,q⟩
   have ep:((((rb.push (List.replicate aM vb)).push [y]).mt met).push (List.replicate 0 vb++ys)).mt qF=(rb.push (List.replicate aM vb++y::ys)).mt qF:=by
    show(((rb.push (List.replicate aM vb)).push [y]).push ys).mt qF=_
    rw[ju,ju]
    rfl
   rw[ep]at S2⊢
   exact this S2
theorem A0{t:Tm}{b:Int}{q:List Int}(h:t.cH=true):aQ t (b::q)=(.reg b,q):=if_pos h
theorem A1{t:Tm}{q:List Int}(h:t.cH=false):aQ t q=(.tm t,q):=if_neg (by rw[h];exact jx)
theorem qq{u:Tm}{r:List Tm}{cI au:List Int}(h:cI.length=((u::r).filter Tm.cH).length):∃p q,aQ u (cI++au)=(p,q++au)/\q.length=(r.filter Tm.cH).length/\pV (u::r) cI=p::pV r q:=by
 cases hu:u.cH with
 |false=>
  rw[List.filter_cons_of_neg (by rw[hu];exact jx)]at h
  exact⟨_,cI,A1 hu,h,yE hu⟩
 |true=>
  rw[List.filter_cons_of_pos hu]at h
  obtain⟨b,q,rfl,h2⟩:=bR h
  exact⟨_,q,A0 hu,h2,yC hu⟩
theorem ye{t:Tm}(cI au:List Int)(h:cI.length=(t.args.filter Tm.cH).length):be t (cI++au)=(pV t.args cI,au)∨t.cH=false:=by
 cases t with
 |s1 u=>
  obtain⟨p,q,e1,h2,e2⟩:=qq (au:=au) h
  cases List.eq_nil_of_length_eq_zero h2
  show(let r:=aQ u (cI++au);([r.1],r.2))=(pV [u] cI,au)∨_
  rw[e1,e2]
  exact .inl rfl
 |s2 f u w=>
  obtain⟨p,q,e1,h2,e2⟩:=qq (au:=au) h
  obtain⟨p',q',e3,h4,e4⟩:=qq (au:=au) h2
  cases List.eq_nil_of_length_eq_zero h4
  show(let r:=aQ u (cI++au);let q:=aQ w r.2;([r.1,q.1],q.2))=(pV [u,w] cI,au)∨_
  dsimp only
  rw[e1,e3,e2,e4]
  exact .inl rfl
 |_=>exact .inr rfl
theorem ou(t:Tm):bG t=(t.args.filter Tm.cH).reverse:=by
 cases t with
 |s1 u=>cases hu:u.cH<;>simp[bp,bn,bz,bB,bA,eR,eU,eS,dX,dW,hu]
 |s2 f u w=>cases hu:u.cH<;>cases hw:w.cH<;>simp[bp,bn,bz,bB,bA,eR,eU,eS,dX,dW,hu,hw]
 |_=>rfl
theorem pU{rb:RB}{N:Nat}:∀ {args:List Tm} {cI:List Int} {ys:List AV},L2 (BR cs rb) cI (args.filter Tm.cH)->L2 (Fd cs) ys (pV args cI)->(∀u∈args,u.size<=N)->L2 (cK rb.bH rb.L N) ys (args.map (ce cs)):=by
 intro args
 induction args with
 |nil=>
  intro cI ys _ h _
  cases ys with
  |nil=>rfl
  |cons y r=>(refine bi (h) fun _ _ e _=>?_;clear h);cases e
 |cons u r ih=>
  intro cI ys hr hy hN
  have hu:u.size<=N:=hN u (.head _)
  have QR:∀u∈r,u.size<=N:=fun x hx=>hN x (.tail _ hx)
  clear hN;cases hs:u.cH with
  |true=>
   rw[List.filter_cons_of_pos hs]at hr
   cases cI with
   |nil=>exact sW (show u::_=[]from hr)
   |cons b q=>
    rw[yC hs]at hy
    refine aE (hr) fun z zs e h1 h2=>?_;clear hr
    injection e with e1 e2
    subst e1 e2
    obtain⟨rfl,Xj⟩|⟨y,Fi,rfl,Xl,Xk⟩:(ys=[]/\False)∨∃y Fi,ys=y::Fi/\Fd cs y (.reg b)/\L2 (Fd cs) Fi (pV r q):=by
     cases ys with
     |nil=>exact sW (show Piece.reg b::_=[]from hy)
     |cons y Fi=>
      refine aE (hy) fun p ps e h3 h4=>?_;clear hy
      injection e with e1 e2
      subst e1 e2
      exact .inr ⟨y,Fi,rfl,h3,h4⟩
    ·exact Xj.elim
    ·refine⟨_,_,rfl,?_,ih h2 Xk QR⟩
     rw[show y=_ from Xl]
     exact h1 N hu
  |false=>
   rw[List.filter_cons_of_neg (by rw[hs];exact jx)]at hr
   rw[yE hs]at hy
   cases ys with
   |nil=>exact sW (show Piece.tm u::_=[]from hy)
   |cons y Fi=>
    refine aE (hy) fun p ps e h3 h4=>?_;clear hy
    injection e with e1 e2
    subst e1 e2
    refine⟨_,_,rfl,?_,ih hr h4 QR⟩
    clear h4 QR hr ih r;cases N with
    |zero=>have:=bW u;lia
    |succ N=>
     clear hu;cases u with
     |s1 v=>(exact dH hs)
     |s2 f v w=>(exact dH hs)
     |_=>exact h3
theorem B5(P:aX)(tg:Part)(n:Nat)(t:Tm)(L:List Int)(st:CS):fo P tg (n+1) [(true,t)] L st=fo P tg n [] (0::(be t L).2) (bm P (be t L).1 0 (aZ st "put" t tg)):=rfl
theorem B4(P:aX)(tg:Part)(n:Nat)(t:Tm)(w:Bool×Tm)(ws:List (Bool×Tm))(L:List Int)(st:CS):fo P tg (n+1) ((true,t)::w::ws) L st=fo P tg n (w::ws) (st.next::(be t L).2) (bm P (be t L).1 0 (aZ st.tick "put" t (.t st.next))):=rfl
structure ii(rb rb':RB):Prop where
 bx:∀m p,rb.bH.lookup (dz m)=some p->rb'.bH.lookup (dz m)=some p
 L:∀l xs,rb.L l=some xs->rb'.L l=some xs
 t:rb'.ag=rb.ag
theorem Ext.grow{a b:RB}(x:Ext a b):ii a b:=⟨x.bx,x.L,x.t⟩
theorem ii.refl(a:RB):ii a a:=(Ext.refl a).grow
theorem ii.trans{a b c:RB}(x:ii a b)(y:ii b c):ii a c:=⟨fun m p h=>y.bx m p (x.bx m p h),fun l xs h=>y.L l xs (x.L l xs h),y.t.trans x.t⟩
theorem ii.opens{rb rb':RB}(x:ii rb rb'){n:Nat}{p:AV}{bt:BT}(h:cK rb.bH rb.L n p bt):cK rb'.bH rb'.L n p bt:=h.jV x.bx x.L
theorem nY{g:Bool}{f i:Int}{l:Addr}{rb:RB}{ys:List AV}{met:List Part}(hl:rb.L l=none):ii rb (((rb.jC g f (.a i) l).push ys).mt met):=by
 have X:∀x xs,rb.L x=some xs->(if x=l then(if x=l then some []else rb.L x).map (·++ys)else(if x=l then some []else rb.L x))=some xs:=fun x xs q=>by
  have z:x≠l:=fun z=>by rw[z,hl]at q;(exact ax q)
  rw[if_neg z,if_neg z]
  exact q
 cases g<;>exact⟨fun _ _ q=>q,X,rfl⟩
theorem yX{t:Tm}(h:t.cH=true):((bG t).map Tm.size).sum+1<=t.size:=by
 cases t with
 |s1 u=>cases hu:u.cH<;>simp[bp,bn,bz,bB,bA,hu,bL,bN,bM,bE,bD]<;>lia
 |s2 f u w=>cases hu:u.cH<;>cases hw:w.cH<;>simp[bp,bn,bz,bB,bA,hu,hw,bL,bN,bM,bE,bD]<;>exact LO
 |_=>(exact bI h)
theorem oy{t u:Tm}(h:u∈bG t):u∈t.args/\u.cH=true:=by
 rw[ou,List.mem_reverse,List.mem_filter]at h
 exact h
theorem rR(p:Piece)(st:CS):(eY P p st).next=st.next:=by
 cases p with
 |reg b=>rfl
 |tm t=>
  cases t with
  |v k=>exact(jr k).2
  |_=>rfl
theorem kD:∀ (ps:List Piece) (v:Int) (st:CS),(bm P ps v st).next=st.next:=by
 intro ps
 induction ps with
 |nil=>exact fun v st=>(dc _ _ _).2
 |cons p r ih=>
  intro v st
  rw[gy]
  split
  ·exact ih _ _
  ·rw[ih,rR,(dc _ _ _).2]
theorem yD:∀ {args:List Tm} {cI:List Int},cI.length=(args.filter Tm.cH).length->(∀b∈cI,7<=b)->(∀u∈args,mR dm u)->(∀p∈pV args cI,Ay dm p)/\(pV args cI).length=args.length:=by
 intro args
 induction args with
 |nil=>exact fun _ _ _=>⟨(fun p h=>bv h),rfl⟩
 |cons u r ih=>
  intro cI hl hb ht
  have Bp:∀u∈r,mR dm u:=fun x hx=>ht x (.tail _ hx)
  cases hs:u.cH with
  |true=>
   rw[List.filter_cons_of_pos hs]at hl
   refine bi (bR hl) fun b q ak h2=>?_;(clear hl;subst ak)
   rw[yC hs]
   refine bh (ih h2 (fun x hx=>hb x (.tail _ hx)) Bp) fun a c=>?_
   exact⟨fun p hq=>by
    rcases de hq with rfl|hq
    ·exact hb b (.head _)
    ·exact a p hq,congrArg Nat.succ c⟩
  |false=>
   rw[List.filter_cons_of_neg (by rw[hs];exact jx)]at hl
   rw[yE hs]
   refine bh (ih hl hb Bp) fun a c=>?_
   exact⟨fun p hq=>by
    rcases de hq with rfl|hq
    ·exact⟨hs,ht u (.head _)⟩
    ·exact a p hq,congrArg Nat.succ c⟩
theorem on(O:dd es P cs dm){t:Tm}{r:Part}{ps:List Piece}(hp:∀p∈ps,Ay dm p)(hz:ps.length<=40)(hr:xx st.next r)
 (h:WR es r0 st fun rb=>Sync P dm st.seen st.next rb/\∀l ys met,rb.L l=none->L2 (Fd cs) ys ps->Sync P dm (bm P ps 0 (aZ st "put" t r)).seen (bm P ps 0 (aZ st "put" t r)).next (((rb.jC false t.fn r l).push ys).mt met)->K (((rb.jC false t.fn r l).push ys).mt met)):
 WR es r0 (bm P ps 0 (aZ st "put" t r)) K:=by
 refine tY O ps 0 (by exact LN hz) hp (oo O U1 U0 hr (h.mono fun rb q l hl=>?_))
 refine bh (q) fun S c=>?_;clear q
 refine ci (tU (g:=false) (f:=t.fn) hr l rb) fun a b _=>?_
 rw[(cO st "put" t r).1,(cO st "put" t r).2]
 refine⟨pR hr S,⟨[],?_,by rw[List.length_nil];exact LM hz⟩,fun ys met q S'=>c l ys met hl q S'⟩
 rw[a,b]
 exact if_pos rfl
def BD(es:List (List Atom×AV))(P:aX)(cs:bF)(dm:V8->Prop)(r0:RB)(tg:Part)(t:Tm):Prop:=∀ (n N:Nat) (ws:List (Bool×Tm)) (cq:List Int) (st:CS),ws≠[]->7<=st.next->n+2*t.size<=N->
 ∃n' r st',fo P tg N ((false,t)::ws) cq st=fo P tg n' ws (r::cq) st'/\n<=n'/\7<=r/\st.next<=st'.next/\
  ∀K,(WR es r0 st fun rb=>Sync P dm st.seen st.next rb/\∀rb',Sync P dm st'.seen st'.next rb'->Ext rb rb'->BR cs rb' r t->K rb')->WR es r0 st' K
theorem Ir{tg:Part}:∀ (us:List Tm),(∀u∈us,BD es P cs dm r0 tg u)->∀ (n N:Nat) (ws:List (Bool×Tm)) (cq:List Int) (st:CS),ws≠[]->7<=st.next->n+2*(us.map Tm.size).sum<=N->
 ∃n' cI st',fo P tg N (us.map (fun x=>(false,x))++ws) cq st=fo P tg n' ws (cI++cq) st'/\n<=n'/\cI.length=us.length/\(∀b∈cI,7<=b)/\st.next<=st'.next/\
  ∀K,(WR es r0 st fun rb=>Sync P dm st.seen st.next rb/\∀rb',Sync P dm st'.seen st'.next rb'->Ext rb rb'->L2 (BR cs rb') cI us.reverse->K rb')->WR es r0 st' K:=by
 intro us
 induction us with
 |nil=>
  intro _ n N ws cq st hw hn hN
  exact⟨N,[],st,rfl,by rw[List.map_nil,List.sum_nil]at hN;(assumption),rfl,fun b h=>(bv h),Int.le_refl _,fun K h=>h.mono fun rb q=>q.2 rb q.1 (Ext.refl _) rfl⟩
 |cons u us ih=>
  intro hu n N ws cq st hw hn hN
  rw[List.map_cons,List.sum_cons]at hN
  refine qd (hu u (.head _) (n+2*(us.map Tm.size).sum) N (us.map (fun x=>(false,x))++ws) cq st (fun z=>hw (List.append_eq_nil_iff.mp z).2) hn (by exact LL hN)) fun n1 r cY e1 l1 r1 s1 k1=>?_
  refine jM (ih (fun x hx=>hu x (.tail _ hx)) n n1 ws (r::cq) cY hw (Int.le_trans hn s1) l1) fun n2 cI pB SA=>?_;refine rf (SA) fun e2 l2 g2 r2 s2 k2=>?_;clear SA
  refine⟨n2,cI++[r],pB,?_,l2,by rw[List.length_append,g2];rfl,fun b hb=>?_,Int.le_trans s1 s2,fun K h=>k2 K (k1 _ (h.mono fun rb q=>⟨q.1,fun rb' S' X hr=>⟨S',fun A7 S2 X2 Br=>?_⟩⟩))⟩
  ·show fo P tg N ((false,u)::(us.map (fun x=>(false,x))++ws)) cq st=_
   rw[e1,e2,List.append_assoc]
   rfl
  ·rcases List.mem_append.mp hb with hb|hb
   ·exact r2 b hb
   ·rw[fG hb];exact r1
  ·refine q.2 A7 S2 (X.trans X2) ?_
   rw[List.reverse_cons]
   exact L2.snoc (fun N hN=>X2.opens (hr N hN)) Br
theorem se(tg:Part){t:Tm}(hs:t.cH=true)(hd:∀u∈bG t,BD es P cs dm r0 tg u)(n N:Nat)(ws:List (Bool×Tm))(cq:List Int)(st:CS)(hn:7<=st.next)(hN:n+2*t.size<=N):
 ∃n' cI st',fo P tg N ((false,t)::ws) cq st=fo P tg (n'+1) ((true,t)::ws) (cI++cq) st'/\n<=n'/\be t (cI++cq)=(pV t.args cI,cq)/\cI.length=(t.args.filter Tm.cH).length/\(∀b∈cI,7<=b)/\st.next<=st'.next/\
  ∀K,(WR es r0 st fun rb=>Sync P dm st.seen st.next rb/\∀rb',Sync P dm st'.seen st'.next rb'->Ext rb rb'->L2 (BR cs rb') cI (t.args.filter Tm.cH)->K rb')->WR es r0 st' K:=by
 have z:=yX hs
 refine aY ((⟨N-1,by exact LK hN z⟩:∃k,N=k+1)) fun N' ak=>?_;subst ak
 refine jM (Ir (bG t) hd (n+1) N' ((true,t)::ws) cq st (fun z=>sW z) hn (by exact LJ z hN)) fun n1 cI cY Sz=>?_;refine rf (Sz) fun e1 l1 g1 r1 s1 k1=>?_;clear Sz
 refine aY ((⟨n1-1,by exact LI l1⟩:∃k,n1=k+1)) fun n2 ak=>?_;subst ak
 have g2:cI.length=(t.args.filter Tm.cH).length:=by rw[g1,ou,List.length_reverse]
 refine⟨n2,cI,cY,e1,by exact Nat.le_of_succ_le_succ ‹_›,(ye cI cq g2).resolve_right (by rw[hs];exact fun h=>dH h),g2,r1,s1,fun K h=>k1 K (h.mono fun rb q=>⟨q.1,fun rb' S X hr=>q.2 rb' S X ?_⟩)⟩
 rw[ou,List.reverse_reverse]at hr
 exact hr
theorem E5(O:dd es P cs dm)(tg:Part):∀ (m:Nat) (t:Tm),t.size<=m->t.cH=true->mR dm t->BD es P cs dm r0 tg t:=by
 intro m
 induction m with
 |zero=>intro t h;have:=bW t;exact absurd h (by exact vR this)
 |succ m ih=>
  intro t hm hs ht n N ws cq st hw hn hN
  refine jM (se tg hs (fun u hu=>have q:=oy hu;ih u (by have:=gX q.1;exact qi hm this) q.2 fun k hk=>ht k (fq q.1 k hk)) n N ws cq st hn hN) ?_;intro n1 cI cY Hb;refine eP (Hb) fun e1 l1 tk g1 r1 s1 k1=>?_;clear Hb
  have zA:=Int.le_trans hn s1
  refine bh (yD (dm:=dm) g1 r1 fun u hu k hk=>ht k (fq hu k hk)) fun p1 p2=>?_
  have hr:xx cY.tick.next (.t cY.next):=.inr ⟨cY.next,rfl,zA,by show cY.next<cY.next+1;exact vO⟩
  have hx:(bm P (pV t.args cI) 0 (aZ cY.tick "put" t (.t cY.next))).next=cY.next+1:=by rw[kD,(cO _ _ _ _).2];rfl
  cases ws with
  |nil=>exact absurd rfl hw
  |cons w ws=>
   refine⟨n1,cY.next,bm P (pV t.args cI) 0 (aZ cY.tick "put" t (.t cY.next)),?_,l1,zA,by rw[hx];exact LH s1,fun K h=>on (st:=cY.tick) O p1 (by rw[p2];have:=gd t;(exact d6 ‹_› (cm rfl))) hr (k1 _ (h.mono fun rb q=>⟨q.1,fun rb' S X Br=>⟨⟨S.met,by show 7<=cY.next+1;exact Ah zA,fun m hm=>S.fr m (by have:cY.next+1<=m:=hm;exact vP this)⟩,fun l ys met hl hy S2=>?_⟩⟩))⟩
   ·rw[e1,B4,tk]
   ·have X2:=rN (g:=false) (f:=t.fn) (ys:=ys) (met:=met) hl (S.fr cY.next (Int.le_refl _))
    refine q.2 _ S2 (X.trans X2) fun N hN=>?_
    cases N with
    |zero=>have:=bW t;lia
    |succ N=>
     rw[nM hs]
     refine⟨l,ys,.inr ⟨cY.next,rfl,?_⟩,by rw[List.length_map];exact d6 (gd t) (by decide),kB hr l rb' ys met,?_⟩
     ·show(bZ (dz cY.next) (made t.fn l) rb'.bH).lookup (dz cY.next)=_
      rw[dT,if_pos rfl]
     ·exact(pU Br hy fun u hu=>by have:=gX hu;exact qi hN this).imp fun _ _ _ z=>X2.opens z
theorem Aa(tg:Part)(n:Nat)(cq:List Int)(st:CS):fo P tg n [] cq st=st:=by cases n<;>rfl
theorem te(O:dd es P cs dm){t:Tm}{i:Int}(hs:t.cH=true)(ht:mR dm t)(hn:7<=st.next)
 (h:WR es r0 st fun rb=>Sync P dm st.seen st.next rb/\∀rb' p,Sync P dm (gV P t (.a i) st).seen (gV P t (.a i) st).next rb'->ii rb rb'->rb'.ai=rb.ai->rb'.given=bZ i p rb.given->(∀N,t.size<=N->cK rb'.bH rb'.L N p (ce cs t))->K rb'):
 WR es r0 (gV P t (.a i) st) K/\st.next<=(gV P t (.a i) st).next:=by
 refine jM (se (es:=es) (P:=P) (cs:=cs) (dm:=dm) (r0:=r0) (.a i) hs (fun u hu=>have q:=oy hu;E5 O (.a i) _ u (Nat.le_refl _) q.2 fun k hk=>ht k (fq q.1 k hk)) 0 (2*t.size) [] [] st hn (by exact LG)) ?_;intro n1 cI cY GZ;refine eP (GZ) fun e1 l1 tk g1 r1 s1 k1=>?_;clear GZ
 refine bh (yD (dm:=dm) g1 r1 fun u hu k hk=>ht k (fq hu k hk)) fun p1 p2=>?_
 have hr:xx cY.next (.a i):=.inl ⟨i,rfl⟩
 have e:gV P t (.a i) st=bm P (pV t.args cI) 0 (aZ cY "put" t (.a i)):=by
  unfold gV
  rw[e1,B5,tk]
  exact Aa _ _ _ _
 rw[e]at h⊢
 refine⟨on O p1 (by rw[p2];have:=gd t;exact LF this) hr (k1 _ (h.mono fun rb q=>⟨q.1,fun rb' S X Br=>⟨S,fun l ys met hl hy S2=>?_⟩⟩)),by rw[kD,(cO _ _ _ _).2];exact s1⟩
 have X2:=nY (g:=false) (f:=t.fn) (i:=i) (ys:=ys) (met:=met) hl
 refine q.2 _ (made t.fn l) S2 (X.grow.trans X2) X.h (congrArg (bZ i (made t.fn l)) X.g) fun N hN=>?_
 cases N with
 |zero=>have:=bW t;lia
 |succ N=>
  rw[nM hs]
  exact⟨l,ys,.inl rfl,by rw[List.length_map];exact d6 (gd t) (by decide),kB hr l rb' ys met,(pU Br hy fun u hu=>by have:=gX hu;exact qi hN this).imp fun _ _ _ z=>X2.opens z⟩
variable{k:V8}
theorem mh{S:V8->Bool}{j:V8}(h:k≠j):nA S j k=S k:=by
 unfold nA
 rw[decide_eq_false h,Bool.or_false]
theorem wE{arg:Tm}(h:k∉arg.occs)(nested:List (Tm×Part))(st:CS):(eB P arg nested st).2.seen k=st.seen k:=by
 cases arg with
 |v j=>exact(congrFun (nv j).1 k).trans (mh fun z=>h (by rw[z];exact .head _))
 |_=>rfl
theorem uc:∀ (args:List Tm) (v:Int) (nested:List (Tm×Part)) (st:CS),(∀u∈args,k∉u.occs)->(bQ P args v nested st).2.seen k=st.seen k:=by
 intro args
 induction args with
 |nil=>exact fun v nested st _=>congrFun (dc _ _ _).1 k
 |cons u r ih=>
  intro v nested st h
  have h':∀u∈r,k∉u.occs:=fun x hx=>h x (.tail _ hx)
  rw[iw]
  split
  ·exact ih _ _ _ h'
  ·exact(ih _ _ _ h').trans ((wE (h u (.head _)) _ _).trans (congrFun (dc _ _ _).1 k))
theorem kN{t u:Tm}(h:k∉t.occs)(hu:u∈t.args):k∉u.occs:=fun z=>h (fq hu k z)
theorem sv:∀ (n:Nat) (ws:List (Tm×Part)) (st:CS),(∀x∈ws,k∉x.1.occs)->(e6 P n ws st).seen k=st.seen k:=by
 intro n
 induction n with
 |zero=>exact fun _ _ _=>rfl
 |succ n ih=>
  intro ws st h
  cases ws with
  |nil=>rfl
  |cons x ws=>
   obtain⟨t,r⟩:=x
   have ht:k∉t.occs:=h _ (.head _)
   (refine aA (gK (P:=P) t.args 0 [] (aZ st "get" t r)) fun new en N=>?_)
   refine(ih _ _ fun x hx=>?_).trans ((uc t.args 0 [] _ fun u hu=>kN ht hu).trans (congrFun (cO st "get" t r).1 k))
   rw[en]at hx
   rcases List.mem_append.mp hx with hx|hx
   ·exact kN ht (N.mem x hx).1
   ·exact h x (.tail _ hx)
theorem rQ{p:Piece}(h:∀u,p=.tm u->k∉u.occs)(st:CS):(eY P p st).seen k=st.seen k:=by
 cases p with
 |reg b=>rfl
 |tm t=>
  cases t with
  |v j=>exact(congrFun (jr j).1 k).trans (mh fun z=>h _ rfl (by rw[z];exact .head _))
  |_=>rfl
theorem qt:∀ (ps:List Piece) (v:Int) (st:CS),(∀p∈ps,∀u,p=.tm u->k∉u.occs)->(bm P ps v st).seen k=st.seen k:=by
 intro ps
 induction ps with
 |nil=>exact fun v st _=>congrFun (dc _ _ _).1 k
 |cons p r ih=>
  intro v st h
  have h':∀p∈r,∀u,p=.tm u->k∉u.occs:=fun x hx=>h x (.tail _ hx)
  rw[gy]
  split
  ·exact ih _ _ h'
  ·exact(ih _ _ h').trans ((rQ (h p (.head _)) _).trans (congrFun (dc _ _ _).1 k))
theorem nW{t u:Tm}{b:List Int}(h:(aQ t b).1=.tm u):u=t:=by
 unfold aQ at h
 split at h
 ·cases b with
  |nil=>exact(Piece.tm.inj h).symm
  |cons x r=>cases h
 ·exact(Piece.tm.inj h).symm
theorem yg{t u:Tm}{b:List Int}(h:Piece.tm u∈(be t b).1):u∈t.args:=by
 cases t with
 |s1 v=>
  rw[fG h |> Eq.symm |> nW]
  exact .head _
 |s2 f v w=>
  rcases de h with h|h
  ·rw[nW h.symm];exact .head _
  ·rw[nW (fG h).symm];exact .tail _ (.head _)
 |_=>exact bv h
theorem uH(tg:Part):∀ (n:Nat) (ws:List (Bool×Tm)) (cq:List Int) (st:CS),(∀x∈ws,k∉x.2.occs)->(fo P tg n ws cq st).seen k=st.seen k:=by
 intro n
 induction n with
 |zero=>exact fun _ _ _ _=>rfl
 |succ n ih=>
  intro ws cq st h
  cases ws with
  |nil=>rfl
  |cons x ws=>
   obtain⟨b,t⟩:=x
   have ht:k∉t.occs:=h _ (.head _)
   have sp:∀ (st:CS) r,(bm P (be t cq).1 0 (aZ st "put" t r)).seen k=st.seen k:=fun st r=>(qt _ 0 _ fun p hp u e=>kN ht (yg (e▸hp))).trans (congrFun (cO st "put" t r).1 k)
   cases b with
   |false=>
    refine ih _ _ _ fun x hx=>?_
    rcases List.mem_append.mp hx with hx|hx
    ·refine aA (List.mem_map.mp hx) fun u hu ak=>?_;subst ak
     exact kN ht (oy hu).1
    ·rcases de hx with rfl|hx
     ·exact ht
     ·exact h x (.tail _ hx)
   |true=>
    cases ws with
    |nil=>exact(ih [] (0::(be t cq).2) _ (fun x hx=>absurd hx List.not_mem_nil)).trans (sp st tg)
    |cons w ws=>exact(ih (w::ws) (st.next::(be t cq).2) _ (fun x hx=>h x (.tail _ hx))).trans (sp st.tick _)
theorem qQ{t:Tm}(h:k∉t.occs)(r:Part)(st:CS):(cE P t r st).seen k=st.seen k:=by
 have m:∀t:Tm,k∉t.occs->(fR P t r st).seen k=st.seen k:=fun t h=>sv _ _ _ fun x hx=>by cases fG hx;exact h
 cases t with
 |v j=>
  show(if P.void j=true then st else if st.seen j=true then st.emit "get_value" [P.place j,r]else((st.pt j).gk j).emit "get_variable" [P.place j,r]).seen k=_
  split
  ·rfl
  ·split
   ·rfl
   ·exact mh fun z=>h (by rw[z];exact .head _)
 |s1 u=>exact m _ h
 |s2 f u w=>exact m _ h
 |_=>rfl
theorem pE:∀ (ts:List Tm) (n:Int) (st:CS),(∀t∈ts,k∉t.occs)->(dM P ts n st).seen k=st.seen k:=by
 intro ts
 induction ts with
 |nil=>exact fun _ _ _=>rfl
 |cons t r ih=>exact fun n st h=>(ih _ _ fun x hx=>h x (.tail _ hx)).trans (qQ (h t (.head _)) _ _)
theorem kP{t:Tm}(h:k∉t.occs)(r:Part)(lv:Int)(st:CS):(cB P t r lv st).seen k=st.seen k:=by
 have m:∀t:Tm,k∉t.occs->(gV P t r st).seen k=st.seen k:=fun t h=>uH _ _ _ _ _ fun x hx=>by cases fG hx;exact h
 cases t with
 |v j=>
  have n:k≠j:=fun z=>h (by rw[z];exact .head _)
  show(dD P j r lv st).seen k=_
  unfold dD
  split
  ·rfl
  ·split
   ·split<;>rfl
   ·split<;>exact mh n
 |s1 u=>exact m _ h
 |s2 f u w=>exact m _ h
 |_=>rfl
theorem rh(O:dd es P cs dm){k:V8}(hk:dm k)(hv:P.void k=false):iR cs k=kx (vi k):=by
 have:=O.void k hk
 rw[hv]at this
 unfold iR
 rw[if_neg (of_decide_eq_false this.symm)]
theorem z5(O:dd es P cs dm){k:V8}(hk:dm k)(hv:P.void k=true):iR cs k=vb:=by
 have:=O.void k hk
 rw[hv]at this
 unfold iR
 rw[if_pos (of_decide_eq_true this.symm)]
 rfl
theorem qC{bx:List (List Atom×AV)}{L:Addr->Option (List AV)}{t:Tm}{p:AV}(h:∀N,cK bx L (N+1) p (ce cs t)):∀N,t.size<=N->cK bx L N p (ce cs t):=by
 intro N hN
 cases N with
 |zero=>have:=bW t;lia
 |succ N=>exact h N
theorem uq(O:dd es P cs dm){t:Tm}{i:Int}(ht:mR dm t)(hn:7<=st.next)
 (h:WR es r0 st fun rb=>Sync P dm st.seen st.next rb/\rb.ai.lookup i=none/\∀rb',Sync P dm (cE P t (.a i) st).seen (cE P t (.a i) st).next rb'->ii rb rb'->rb'.given=rb.given->(∀j,j≠i->rb'.ai.lookup j=rb.ai.lookup j)->
  (∀N,t.size<=N->cK rb'.bH rb'.L N ((rb'.ai.lookup i).getD vb) (ce cs t))->K rb'):WR es r0 (cE P t (.a i) st) K/\st.next<=(cE P t (.a i) st).next:=by
 have put:∀ (rb:RB) (met:List Part) (p:AV),(∀rb',Sync P dm (cE P t (.a i) st).seen (cE P t (.a i) st).next rb'->ii rb rb'->rb'.given=rb.given->(∀j,j≠i->rb'.ai.lookup j=rb.ai.lookup j)->(∀N,t.size<=N->cK rb'.bH rb'.L N ((rb'.ai.lookup i).getD vb) (ce cs t))->K rb')->
  Sync P dm (cE P t (.a i) st).seen (cE P t (.a i) st).next (rb.mt met)->(∀bx L N,cK bx L (N+1) p (ce cs t))->K { rb.mt met with ai:=bZ i p (rb.mt met).ai }:=fun rb met p k S o=>
  k _ ⟨S.met,S.nx,S.fr⟩ ⟨fun _ _ h=>h,fun _ _ h=>h,rfl⟩ rfl (fun j hj=>(fg i j p rb.ai).trans (if_neg hj)) (by
   rw[show(({ rb.mt met with ai:=bZ i p (rb.mt met).ai }:RB).ai.lookup i)=some p from(fg i i p rb.ai).trans (if_pos rfl)]
   exact qC fun N=>o _ _ N)
 have cmp:∀ {t:Tm},mR dm t->t.cH=true->(WR es r0 st fun rb=>Sync P dm st.seen st.next rb/\rb.ai.lookup i=none/\∀rb',Sync P dm (fR P t (.a i) st).seen (fR P t (.a i) st).next rb'->ii rb rb'->rb'.given=rb.given->(∀j,j≠i->rb'.ai.lookup j=rb.ai.lookup j)->
  (∀N,t.size<=N->cK rb'.bH rb'.L N ((rb'.ai.lookup i).getD vb) (ce cs t))->K rb')->WR es r0 (fR P t (.a i) st) K/\st.next<=(fR P t (.a i) st).next:=fun {t} ht hs h=>by
  refine aY ((⟨t.size-1,by have:=bW t;exact LD this⟩:∃m,t.size=m+1)) ?_;intro m hm
  have hr:xx st.next (.a i):=.inl ⟨i,rfl⟩
  (refine aA (gK (P:=P) t.args 0 [] (aZ st "get" t (.a i))) fun new en N=>?_)
  rw[(cO st "get" t (.a i)).2,List.nil_append]at *
  have eM:fR P t (.a i) st=e6 P m ((bQ P t.args 0 [] (aZ st "get" t (.a i))).1++[]) (bQ P t.args 0 [] (aZ st "get" t (.a i))).2:=by unfold fR;rw[hm];rfl
  rw[eM,en,List.append_nil]at h⊢
  refine⟨wD O m new (by have:=N.sz;have:=tj hs;exact LC hm ‹_› this) (Int.le_trans hn N.le) (fun x hx=>?_) N.ne (ve O ht hr (h.mono fun rb q=>?_)),?_⟩
  ·refine eV (N.mem x hx) fun a b n c d f=>?_
   exact⟨b,fun k hk=>ht k (fq a k hk),n,c,Int.le_trans hn d,f⟩
  ·refine ci (q) fun S U k=>?_;clear q
   refine⟨S,fun l ys met hl hy S2=>⟨S2,fun x hx m' e=>?_,fun rb' S' X Og=>?_⟩⟩
   ·refine eV (N.mem x hx) fun _ _ n c d _=>?_
    rw[c]at e
    injection e with e
    exact S.fr m' (by exact C9 d e)
   ·have e1:rb'.ai=bZ i (made t.fn l) rb.ai:=X.h
    refine k rb' S' ((nY hl).trans X.grow) X.g (fun j hj=>by rw[e1,fg,if_neg hj]) ?_
    rw[e1,fg,if_pos rfl]
    intro N' hN
    cases N' with
    |zero=>have:=bW t;lia
    |succ N'=>
     rw[nM hs]
     refine⟨l,ys,.inl rfl,by rw[List.length_map];exact d6 (gd t) (by decide),X.L l ys (kB hr l rb ys met),hy.map fun y u hu a=>?_⟩
     rw[en]at a
     exact a.opens (by have:=gX hu;exact qi hN this) fun n hn=>Og (u,.t n) hn n rfl N' (by have:=gX hu;dsimp only;exact qi hN this)
  ·have mono:∀ (n:Nat) (ws:List (Tm×Part)) (st:CS),st.next<=(e6 P n ws st).next:=fun n=>by
    induction n with
    |zero=>exact fun _ _=>Int.le_refl _
    |succ n ih=>
     intro ws st
     cases ws with
     |nil=>exact Int.le_refl _
     |cons x ws=>
      (refine aA (gK (P:=P) x.1.args 0 [] (aZ st "get" x.1 x.2)) fun _ _ N=>?_)
      refine Int.le_trans ?_ (ih _ _)
      have:=N.le
      rwa [(cO _ _ _ _).2]at this
   exact Int.le_trans N.le (mono _ _ _)
 cases t with
 |v k=>
  have hk:=ht k (.head _)
  cases hv:P.void k with
  |true=>
   have e:cE P (.v k) (.a i) st=st:=if_pos hv
   rw[e]at h⊢
   refine⟨h.mono fun rb q=>q.2.2 rb q.1 (ii.refl rb) rfl (fun _ _=>rfl) ?_,Int.le_refl _⟩
   rw[q.2.1]
   exact qC fun N=>(z5 O hk hv).symm
  |false=>
   have e:cE P (.v k) (.a i) st=if st.seen k then st.emit "get_value" [P.place k,.a i]else((st.pt k).gk k).emit "get_variable" [P.place k,.a i]:=if_neg (by rw[hv];exact jx)
   by_cases hs:st.seen k=true
   ·rw[if_pos hs]at e
    rw[e]at h put⊢
    refine⟨WR.emit (h.mono fun rb q=>wj O q.1 hk hv (cm rfl) (by rw[hs];kernel_rfl) fun S=>dE UR ⟨_,_,rfl,put rb _ _ q.2.2 (by rw[oM hs]at S;exact S) fun _ _ _=>(rh O hk hv).symm⟩),Int.le_refl _⟩
   ·rw[if_neg hs]at e
    rw[e]at h put⊢
    refine⟨WR.emit (st:=st) (h.mono fun rb q=>wj O q.1 hk hv (cm rfl) (by rw[Bool.eq_false_iff.mpr hs];kernel_rfl) fun S=>dE US ⟨_,_,rfl,put rb _ _ q.2.2 S fun _ _ _=>(rh O hk hv).symm⟩),Int.le_refl _⟩
 |a n=>exact⟨WR.emit (h.mono fun rb q=>lR (cm rfl) (O.con _ _) (.inl rfl) (dE SC ⟨_,_,rfl,put rb rb.met _ q.2.2 q.1 fun _ _ _=>rfl⟩)),Int.le_refl _⟩
 |i n=>exact⟨WR.emit (h.mono fun rb q=>lR (cm rfl) (O.con _ _) (.inr rfl) (dE SC ⟨_,_,rfl,put rb rb.met _ q.2.2 q.1 fun _ _ _=>rfl⟩)),Int.le_refl _⟩
 |s1 u=>exact cmp ht rfl h
 |s2 f u w=>exact cmp ht rfl h
theorem sF(O:dd es P cs dm):∀ (ts:List Tm) (n:Nat) {st:CS} {K:RB->Prop},(∀t∈ts,mR dm t)->7<=st.next->
 (WR es r0 st fun rb=>Sync P dm st.seen st.next rb/\(∀j:Int,(n:Int)<j->rb.ai.lookup j=none)/\∀rb',Sync P dm (dM P ts n st).seen (dM P ts n st).next rb'->ii rb rb'->rb'.given=rb.given->(∀j:Int,j<=n->rb'.ai.lookup j=rb.ai.lookup j)->
  (∀ (i:Nat) t,ts[i]?=some t->∀N,t.size<=N->cK rb'.bH rb'.L N ((rb'.ai.lookup ((n:Int)+1+i)).getD vb) (ce cs t))->K rb')->WR es r0 (dM P ts n st) K/\st.next<=(dM P ts n st).next:=by
 intro ts
 induction ts with
 |nil=>exact fun n st K _ _ h=>⟨h.mono fun rb q=>q.2.2 rb q.1 (ii.refl rb) rfl (fun _ _=>rfl) fun i t e=>(ax e),Int.le_refl _⟩
 |cons t r ih=>
  intro n st K ht hn h
  have e:dM P (t::r) n st=dM P r ((n+1:Nat):Int) (cE P t (.a ((n:Int)+1)) st):=rfl
  rw[e]at h⊢
  have key:=fun K'=>uq (es:=es) (r0:=r0) (K:=K') (i:=(n:Int)+1) O (ht t (.head _)) hn
  have nx:st.next<=(cE P t (.a ((n:Int)+1)) st).next:=(key (fun _=>True) (h.mono fun rb q=>⟨q.1,q.2.1 _ (by exact C8),fun _ _ _ _ _ _=>trivial⟩)).2
  refine(fun two:_/\_=>⟨two.1,Int.le_trans nx two.2⟩) (ih (n+1) (K:=K) (fun x hx=>ht x (.tail _ hx)) (Int.le_trans hn nx) (key _ (h.mono fun rb q=>⟨q.1,q.2.1 _ (by exact C8),fun Cz S1 G1 g1 o1 p1=>⟨S1,fun j hj=>(o1 j (by exact LB hj)).trans (q.2.1 j (by exact LA hj)),fun A7 S2 G2 g2 o2 p2=>q.2.2 A7 S2 (G1.trans G2) (g2.trans g1) (fun j hj=>(o2 j (by exact Lz hj)).trans (o1 j (by exact Ly hj))) fun i u hu N hN=>?_⟩⟩)).1)
  ·cases i with
   |zero=>
    cases hu
    rw[show(n:Int)+1+((0:Nat):Int)=(n:Int)+1 by(rfl),o2 _ (by exact Lx)]
    exact G2.opens (p1 N hN)
   |succ i=>
    have:=p2 i u hu N hN
    rwa [show((n+1:Nat):Int)+1+(i:Int)=(n:Int)+1+((i+1:Nat):Int) by exact Lw]at this
theorem oA(O:dd es P cs dm){t:Tm}{i lv:Int}(ht:mR dm t)(hn:7<=st.next)
 (h:WR es r0 st fun rb=>Sync P dm st.seen st.next rb/\∀rb' p,Sync P dm (cB P t (.a i) lv st).seen (cB P t (.a i) lv st).next rb'->ii rb rb'->rb'.ai=rb.ai->rb'.given=bZ i p rb.given->(∀N,t.size<=N->cK rb'.bH rb'.L N p (ce cs t))->K rb'):
 WR es r0 (cB P t (.a i) lv st) K/\st.next<=(cB P t (.a i) lv st).next:=by
 have put:∀ (rb:RB) (met:List Part) (p:AV),(∀rb' p,Sync P dm (cB P t (.a i) lv st).seen (cB P t (.a i) lv st).next rb'->ii rb rb'->rb'.ai=rb.ai->rb'.given=bZ i p rb.given->(∀N,t.size<=N->cK rb'.bH rb'.L N p (ce cs t))->K rb')->
  Sync P dm (cB P t (.a i) lv st).seen (cB P t (.a i) lv st).next (rb.mt met)->(∀bx L N,cK bx L (N+1) p (ce cs t))->K { rb.mt met with given:=bZ i p (rb.mt met).given }:=fun rb met p k S o=>
  k _ p ⟨S.met,S.nx,S.fr⟩ ⟨fun _ _ h=>h,fun _ _ h=>h,rfl⟩ rfl rfl (qC fun N=>o _ _ N)
 cases t with
 |v k=>
  have hk:=ht k (.head _)
  change WR es r0 (dD P k (.a i) lv st) K/\st.next<=(dD P k (.a i) lv st).next
  have nx:st.next<=(dD P k (.a i) lv st).next:=by
   unfold dD
   split
   ·exact Int.le_refl _
   ·split
    ·split<;>exact Int.le_refl _
    ·split<;>exact Int.le_refl _
  refine⟨?_,nx⟩
  cases hv:P.void k with
  |true=>
   have e:dD P k (.a i) lv st=st.emit "put_void" [.a i]:=if_pos hv
   rw[show cB P (.v k) (.a i) lv st=_ from e]at h put
   rw[e]
   exact WR.emit (h.mono fun rb q=>lR (Nat.zero_le _) (O.arg _) trivial (dE UW ⟨_,rfl,put rb rb.met _ q.2 q.1 fun _ _ _=>(z5 O hk hv).symm⟩))
  |false=>
   have e:dD P k (.a i) lv st=if st.seen k then(if P.AU k&&decide (0<=lv)&&decide (P.last k=lv)then st.emit "put_unsafe_value" [P.place k,.a i]else st.emit "put_value" [P.place k,.a i])else if P.perm k then((st.pt k).gk k).emit "put_variable" [P.place k,.a i]else(st.pt k).emit "put_variable" [P.place k,.a i]:=if_neg (by rw[hv];exact jx)
   by_cases hs:st.seen k=true
   ·rw[if_pos hs]at e
    have go:∀ {w:String},iL w .put->kS gq (Str.ofString w)=false->dD P k (.a i) lv st=st.emit w [P.place k,.a i]->WR es r0 (dD P k (.a i) lv st) K:=fun {w} o hw e=>by
     rw[show cB P (.v k) (.a i) lv st=_ from e]at h put
     rw[e]
     exact WR.emit (h.mono fun rb q=>wj O q.1 hk hv (cm rfl) (by rw[hs];exact hw) fun S=>dE o ⟨_,_,rfl,put rb _ _ q.2 (by rw[oM hs]at S;exact S) fun _ _ _=>(rh O hk hv).symm⟩)
    split at e
    ·exact go UT (by kernel_rfl) e
    ·exact go UU (by kernel_rfl) e
   ·rw[if_neg hs]at e
    have go:∀ {st':CS},st'.code=st.code->st'.seen=nA st.seen k->st'.next=st.next->dD P k (.a i) lv st=st'.emit "put_variable" [P.place k,.a i]->WR es r0 (dD P k (.a i) lv st) K:=fun {st'} c1 c2 c3 e=>by
     rw[show cB P (.v k) (.a i) lv st=_ from e]at h put
     rw[e]
     refine WR.emit (st:=st') ?_
     unfold WR at h⊢
     rw[c1]
     exact jT (fun rb q=>wj O q.1 hk hv (cm rfl) (by rw[Bool.eq_false_iff.mpr hs];kernel_rfl) fun S=>dE UV ⟨_,_,rfl,put rb _ _ q.2 (by show Sync P dm st'.seen st'.next _;rw[c2,c3];exact S) fun _ _ _=>(rh O hk hv).symm⟩) h
    split at e
    ·exact go (st':=(st.pt k).gk k) rfl rfl rfl e
    ·exact go (st':=st.pt k) rfl rfl rfl e
 |a n=>exact⟨WR.emit (h.mono fun rb q=>lR (cm rfl) (O.con _ _) (.inl rfl) (dE SD ⟨_,_,rfl,put rb rb.met _ q.2 q.1 fun _ _ _=>rfl⟩)),Int.le_refl _⟩
 |i n=>exact⟨WR.emit (h.mono fun rb q=>lR (cm rfl) (O.con _ _) (.inr rfl) (dE SD ⟨_,_,rfl,put rb rb.met _ q.2 q.1 fun _ _ _=>rfl⟩)),Int.le_refl _⟩
 |s1 u=>exact te O rfl ht hn h
 |s2 f u w=>exact te O rfl ht hn h
theorem EZ{cs:bF}{g:Goal}{x:Str}{k:V8}(hk:vw cs g=decide (1<cG cs (vi k)))(ht:na cs g=.n x (vi k)):(ib cs [g]).map (na cs)=if 1<cG cs (vi k)then[.n x (vi k)]else[]:=by
 unfold ib
 by_cases z:1<cG cs (vi k)
 ·rw[if_pos z,List.filter_cons_of_pos (by rw[hk];exact decide_eq_true z)]
  exact congrArg (fun t=>[t]) ht
 ·rw[if_neg z,List.filter_cons_of_neg (by rw[hk,decide_eq_false z];exact jx)]
  rfl
def gP(dm:V8->Prop):(V8->Bool)->List Goal->Prop
 |_,[]=>True
 |kept,g::r=>match g with
  |.call _ as=>(∃t u,as=[t,u]/\(mR dm t/\t.size<=8)/\(mR dm u/\u.size<=8))/\gP dm kept r
  |.builtin _ as=>(∃t u,as=[t,u]/\(mR dm t/\t.size<=8)/\(mR dm u/\u.size<=8))/\gP dm kept r
  |.unify _ _=>False
  |.cut=>gP dm kept r
  |.level k=>(dm k/\5<=k.val/\kept k=false)/\gP dm (nA kept k) r
  |.mark k=>(dm k/\5<=k.val/\kept k=false)/\gP dm (nA kept k) r
  |.eA k=>(dm k/\5<=k.val/\kept k=true)/\gP dm kept r
def FI(t:Tm):Prop:=∀k∈t.occs,k.val<5
structure Go(rb rb':RB):Prop where
 bx:∀m p,rb.bH.lookup (dz m)=some p->rb'.bH.lookup (dz m)=some p
 L:∀l xs,rb.L l=some xs->rb'.L l=some xs
 h:rb'.ai=rb.ai
theorem Go.refl(a:RB):Go a a:=⟨fun _ _ h=>h,fun _ _ h=>h,rfl⟩
theorem Go.trans{a b c:RB}(x:Go a b)(y:Go b c):Go a c:=⟨fun m p h=>y.bx m p (x.bx m p h),fun l xs h=>y.L l xs (x.L l xs h),y.h.trans x.h⟩
theorem Go.opens{rb rb':RB}(x:Go rb rb'){n:Nat}{p:AV}{bt:BT}(h:cK rb.bH rb.L n p bt):cK rb'.bH rb'.L n p bt:=h.jV x.bx x.L
def ly(es:List (List Atom×AV))(r0:RB)(D:CS->CS):Prop:=∀st,(D st).seen=st.seen/\(D st).next=st.next/\∀K,WR es r0 st K->WR es r0 (D st) K
theorem nq:ly es r0 fun st=>st:=fun st=>⟨rfl,rfl,fun K h=>h⟩
theorem lQ{w:String}(hw:iL w .skip){ps:List Part}(hp:ps=[]∨∃i,ps=[.num i]):ly es r0 fun st=>st.emit w ps:=fun st=>⟨rfl,rfl,fun K h=>WR.emit (h.mono fun rb q=>by
 rcases hp with rfl|⟨i,rfl⟩
 ·exact HW (dE hw q)
 ·exact lR (Nat.zero_le _) (nu _) trivial (dE hw q))⟩
theorem uQ{b:Bool}{D:CS->CS}(h:ly es r0 D):ly es r0 fun st=>if b then D st else st:=fun st=>by
 cases b
 ·exact nq st
 ·exact h st
theorem wd{D E:CS->CS}(h:ly es r0 D)(h2:ly es r0 E):ly es r0 fun st=>E (D st):=fun st=>⟨(h2 _).1.trans (h st).1,(h2 _).2.1.trans (h st).2.1,fun K q=>(h2 _).2.2 K ((h st).2.2 K q)⟩
theorem vN(O:dd es P cs dm){t u:Tm}{lv:Int}{w:String}{b:Bool}{f:Int}{ps:List Part}{D:CS->CS}(hD:ly es r0 D)(hw:iL w .tell)(hb:(Str.ofString w==("builtin":Str))=b)(Qu:ps.length<=5)(ht:mR dm t/\t.size<=8)(hu:mR dm u/\u.size<=8)(hn:7<=st.next)
 (h:WR es r0 st fun rb=>Sync P dm st.seen st.next rb/\rb.given=[]/\∀rb',Sync P dm (cc P lv [t,u] 0 st).seen (cc P lv [t,u] 0 st).next rb'->Go rb rb'->rb'.given=[]->rb'.ag=rb.ag++[.t b f [ce cs t,ce cs u]]->K rb'):
 WR es r0 ((D (cc P lv [t,u] 0 st)).emit w (.num f::ps)) K/\st.next<=(cc P lv [t,u] 0 st).next:=by
 have e:cc P lv [t,u] 0 st=cB P u (.a 2) lv (cB P t (.a 1) lv st):=rfl
 rw[e]at h⊢
 have k1:=fun K'=>oA (es:=es) (r0:=r0) (K:=K') (i:=1) (lv:=lv) O ht.1 hn
 have n1:=(k1 (fun _=>True) (h.mono fun rb q=>⟨q.1,fun _ _ _ _ _ _ _=>trivial⟩)).2
 have k2:=fun K'=>oA (es:=es) (r0:=r0) (K:=K') (i:=2) (lv:=lv) O hu.1 (Int.le_trans hn n1)
 have main:=k2 _ (k1 (fun Cz=>Sync P dm (cB P t (.a 1) lv st).seen (cB P t (.a 1) lv st).next Cz/\∀rb' p,Sync P dm (cB P u (.a 2) lv (cB P t (.a 1) lv st)).seen (cB P u (.a 2) lv (cB P t (.a 1) lv st)).next rb'->ii Cz rb'->rb'.ai=Cz.ai->rb'.given=bZ 2 p Cz.given->(∀N,u.size<=N->cK rb'.bH rb'.L N p (ce cs u))->rT es (w,.num f::ps) rb' K) (h.mono fun rb q=>⟨q.1,fun Cz p1 S1 G1 h1 g1 o1=>⟨S1,fun A7 p2 S2 G2 h2 g2 o2=>?_⟩⟩)).1
 ·exact⟨WR.emit ((hD _).2.2 _ main.1),Int.le_trans n1 main.2⟩
 ·have eg:A7.given=[(1,p1),(2,p2)]:=by rw[g2,g1,q.2.1];rfl
  refine lR (d6 Qu (by decide)) (nu _) trivial (dE hw ⟨by rw[eg];exact cm rfl,f,ps,[ce cs t,ce cs u],rfl,?_,?_⟩)
  ·rw[eg]
   exact⟨_,_,rfl,G2.opens (o1 9 (by lia)),_,_,rfl,o2 9 (by lia),rfl⟩
  ·rw[hb]
   refine q.2.2 _ ⟨S2.met,S2.nx,S2.fr⟩ ⟨fun m p z=>G2.bx m p (G1.bx m p z),fun l xs z=>G2.L l xs (G1.L l xs z),h2.trans h1⟩ rfl ?_
   show A7.ag++_=_
   rw[G2.t,G1.t]
theorem Ek(O:dd es P cs dm)(pos:∀k,dm k->1<=cG cs (vi k)){k:V8}(hk:dm k){w:String}{x:Str}(hl:gr.lookup (Str.ofString w)=some (.str x))(hw:P.void k=false->kS gq (Str.ofString w)=!st.seen k)
 (h:WR es r0 st fun rb=>Sync P dm st.seen st.next rb/\rb.given=[]/\∀rb',Sync P dm (cy P w k st).seen (cy P w k st).next rb'->Go rb rb'->rb'.given=[]->rb'.ag=rb.ag++(if 1<cG cs (vi k)then[.n x (vi k)]else[])->K rb'):
 WR es r0 (cy P w k st) K/\(cy P w k st).next=st.next/\(cy P w k st).seen=if P.void k then st.seen else nA st.seen k:=by
 have hv:=O.void k hk
 unfold cy at h⊢
 cases hc:P.void k with
 |true=>
  rw[hc,if_pos rfl]at h
  rw[hc]at hv
  have:=of_decide_eq_true hv.symm
  refine⟨h.mono fun rb q=>q.2.2 rb q.1 (Go.refl rb) q.2.1 ?_,rfl,rfl⟩
  rw[if_neg (by exact Lv this),List.append_nil]
 |false=>
  rw[hc,if_neg jx]at h
  rw[hc]at hv
  have n1:=of_decide_eq_false hv.symm
  have:=pos k hk
  refine⟨WR.emit (st:=st.pt k) (h.mono fun rb q=>wj O q.1 hk hc (Nat.zero_le _) (hw hc) fun S=>?_),rfl,rfl⟩
  unfold sK
  rw[hl]
  refine⟨x,vi k,rfl,rfl,q.2.2 _ ⟨S.met,S.nx,S.fr⟩ ⟨fun _ _ h=>h,fun _ _ h=>h,rfl⟩ q.2.1 ?_⟩
  rw[if_pos (by exact Lu n1 this)]
  rfl
noncomputable def vE(P:aX)(w:String)(ps:List Part)(D E:CS->CS)(n:Int)(st:CS):Goal->CS
 |.call f as=>(D (gS P (.call f as) n st)).emit w (.num f::ps)
 |g=>E (gS P g n st)
noncomputable def mJ(g:Goal)(kept:V8->Bool):V8->Bool:=match g with
 |.level k=>nA kept k
 |.mark k=>nA kept k
 |_=>kept
def Sw(es:List (List Atom×AV))(r0:RB)(P:aX)(dm:V8->Prop)(cs:bF)(g:Goal)(st st':CS)(K:RB->Prop):Prop:=
 WR es r0 st fun rb=>Sync P dm st.seen st.next rb/\rb.given=[]/\∀rb',Sync P dm st'.seen st'.next rb'->Go rb rb'->rb'.given=[]->rb'.ag=rb.ag++(ib cs [g]).map (na cs)->K rb'
def NO(es:List (List Atom×AV))(r0:RB)(P:aX)(dm:V8->Prop)(g:Goal)(kept:V8->Bool)(r:List Goal)(st':CS)(K:RB->Prop):Prop:=
 WR es r0 st' K/\gP dm (mJ g kept) r/\(∀k:V8,5<=k.val->st'.seen k=(mJ g kept k&&!P.void k))/\7<=st'.next
theorem qT(O:dd es P cs dm)(pos:∀k,dm k->1<=cG cs (vi k)){g:Goal}{r:List Goal}{E:CS->CS}{kept:V8->Bool}{w:String}{x:Str}{k:V8}(hE:ly es r0 E)(sk:∀k:V8,5<=k.val->st.seen k=(kept k&&!P.void k))(hn:7<=st.next)
 (hk:dm k) (h5:5<=k.val) (hl:gr.lookup (Str.ofString w)=some (.str x)) (Od:kS gq (Str.ofString w)=!kept k) (ed:(ib cs [g]).map (na cs)=if 1<cG cs (vi k)then[.n x (vi k)]else[]) (ek:mJ g kept=nA kept k) (hg:gP dm (mJ g kept) r)
 (h:Sw es r0 P dm cs g st (E (cy P w k st)) K):NO es r0 P dm g kept r (E (cy P w k st)) K:=by
 unfold Sw at h
 rw[ed]at h
 obtain⟨a,b,c⟩:=Ek (w:=w) O pos hk hl (fun hc=>by rw[Od,sk k h5,hc,Bool.not_false,Bool.and_true]) (h.mono fun rb q=>⟨q.1,q.2.1,fun rb' S=>q.2.2 rb' (by rw[(hE _).1,(hE _).2.1];exact S)⟩)
 refine⟨(hE _).2.2 K a,hg,fun j hj=>?_,by rw[(hE _).2.1,b];exact hn⟩
 rw[(hE _).1,c,ek]
 by_cases z:j=k
 ·clear c b a h hg ek ed Od hl hk hE x w E g pos O;subst z
  unfold nA
  rw[decide_eq_true rfl,Bool.or_true,Bool.true_and]
  cases hc:P.void j with
  |true=>rw[if_pos rfl,sk j h5,hc,Bool.not_true,Bool.and_false]
  |false=>
   rw[if_neg jx,Bool.not_false]
   show(st.seen j||decide (j=j))=true
   rw[decide_eq_true rfl,Bool.or_true]
 ·rw[mh z]
  cases P.void k with
  |true=>exact sk j hj
  |false=>exact(mh z).trans (sk j hj)
theorem sH(O:dd es P cs dm)(pos:∀k,dm k->1<=cG cs (vi k)){g:Goal}{r:List Goal}{n:Int}{w:String}{ps:List Part}{D E:CS->CS}{kept:V8->Bool}(hD:ly es r0 D)(hE:ly es r0 E)(hw:iL w .tell)(hb:(Str.ofString w==("builtin":Str))=false)(Qu:ps.length<=5)
 (hg:gP dm kept (g::r)) (low:∀t∈g.bV,FI t) (sk:∀k:V8,5<=k.val->st.seen k=(kept k&&!P.void k)) (hn:7<=st.next)
 (h:Sw es r0 P dm cs g st (vE P w ps D E n st g) K):NO es r0 P dm g kept r (vE P w ps D E n st g) K:=by
 have two:∀ {t u:Tm} {lv:Int},FI t->FI u->∀k:V8,5<=k.val->(cc P lv [t,u] 0 st).seen k=(kept k&&!P.void k):=fun {t u lv} lt lu k hk=>by
  rw[←sk k hk]
  exact(kP (fun z=>by have:=lu k z;exact Af hk this) _ _ _).trans (kP (fun z=>by have:=lt k z;exact Af hk this) _ _ _)
 cases g with
 |call f as=>
  refine bh (hg) fun ak hr=>?_;clear hg;refine aE (ak) fun t u cu ht hu=>?_;clear ak;subst cu
  obtain⟨a,b⟩:=vN (lv:=n) O hD hw hb Qu ht hu hn (h.mono fun rb q=>⟨q.1,q.2.1,fun rb' S=>q.2.2 rb' (by
   show Sync P dm (D (cc P n [t,u] 0 st)).seen (D (cc P n [t,u] 0 st)).next rb'
   rw[(hD _).1,(hD _).2.1]
   exact S)⟩)
  exact⟨a,hr,fun k hk=>(congrFun (hD _).1 k).trans (two (low t (.head _)) (low u (.tail _ (.head _))) k hk),Int.le_trans hn (Int.le_trans b (Int.le_of_eq (hD _).2.1.symm))⟩
 |builtin f as=>
  refine bh (hg) fun ak hr=>?_;clear hg;refine aE (ak) fun t u cu ht hu=>?_;clear ak;subst cu
  obtain⟨e1,e2,e3⟩:=hE ((cc P (-1) [t,u] 0 st).emit "builtin" [.num f])
  obtain⟨a,b⟩:=vN (lv:=-1) (D:=fun st=>st) (ps:=[]) (w:="builtin") (b:=true) O nq UO (by kernel_rfl) (Nat.zero_le _) ht hu hn (h.mono fun rb q=>⟨q.1,q.2.1,fun rb' S=>q.2.2 rb' (by
   show Sync P dm (E ((cc P (-1) [t,u] 0 st).emit "builtin" [.num f])).seen (E ((cc P (-1) [t,u] 0 st).emit "builtin" [.num f])).next rb'
   rw[e1,e2]
   exact S)⟩)
  exact⟨e3 K a,hr,fun k hk=>(congrFun e1 k).trans (two (low t (.head _)) (low u (.tail _ (.head _))) k hk),Int.le_trans hn (Int.le_trans b (Int.le_of_eq e2.symm))⟩
 |unify l r=>exact hg.elim
 |cut=>
  obtain⟨e1,e2,e3⟩:=hE (st.emit "neck_cut" [])
  refine⟨e3 K (WR.emit (h.mono fun rb q=>HW ?_)),hg,fun k hk=>(congrFun e1 k).trans (sk k hk),Int.le_trans hn (Int.le_of_eq e2.symm)⟩
  unfold sK
  rw[show(gr.lookup (Str.ofString "neck_cut")).isSome=false by kernel_rfl,show(Str.ofString "neck_cut"==("neck_cut":Str))=true by kernel_rfl]
  refine q.2.2 _ ?_ ⟨fun _ _ h=>h,fun _ _ h=>h,rfl⟩ q.2.1 rfl
  show Sync P dm (E (st.emit "neck_cut" [])).seen (E (st.emit "neck_cut" [])).next _
  rw[e1,e2]
  exact⟨q.1.met,q.1.nx,q.1.fr⟩
 |level k=>exact qT (g:=.level k) (x:="level") O pos hE sk hn hg.1.1 hg.1.2.1 (by kernel_rfl) (by rw[hg.1.2.2];kernel_rfl) (EZ rfl rfl) rfl hg.2 h
 |mark k=>exact qT (g:=.mark k) (x:="mark") O pos hE sk hn hg.1.1 hg.1.2.1 (by kernel_rfl) (by rw[hg.1.2.2];kernel_rfl) (EZ rfl rfl) rfl hg.2 h
 |eA k=>exact qT (g:=.eA k) (x:="cutto") O pos hE sk hn hg.1.1 hg.1.2.1 (by kernel_rfl) (by rw[hg.1.2.2];kernel_rfl) (EZ rfl rfl) (oM hg.1.2.2).symm hg.2 h
theorem zP(cs:bF)(g:Goal)(r:List Goal):ib cs (g::r)=ib cs [g]++ib cs r:=by
 show List.filter _ ([g]++r)=_
 rw[List.filter_append]
 rfl
theorem zE(O:dd es P cs dm)(pos:∀k,dm k->1<=cG cs (vi k)):∀ (gs:List Goal) (n:Nat) (kept:V8->Bool) {st:CS} {K:RB->Prop},gP dm kept gs->(∀g∈gs,∀t∈g.bV,FI t)->(∀k:V8,5<=k.val->st.seen k=(kept k&&!P.void k))->7<=st.next->
 (WR es r0 st fun rb=>Sync P dm st.seen st.next rb/\rb.given=[]/\∀rb',Go rb rb'->rb'.ag=rb.ag++(ib cs gs).map (na cs)->K rb')->WR es r0 (d8 P gs n st) K:=by
 intro gs
 have JY:ly es r0 fun st=>if P.fh then st.emit "deallocate" []else st:=uQ (lQ UM (.inl rfl))
 have JF:ly es r0 fun st=>(if P.fh then st.emit "deallocate" []else st).emit "proceed" []:=wd JY (lQ UL (.inl rfl))
 induction gs with
 |nil=>
  intro n kept st K _ _ _ _ h
  exact(JF st).2.2 K (h.mono fun rb q=>q.2.2 rb (Go.refl rb) (List.append_nil _).symm)
 |cons g r ih=>
  intro n kept st K hg low sk hn h
  cases r with
  |nil=>
   have e:d8 P [g] n st=vE P "execute" [] (fun st=>if P.fh then st.emit "deallocate" []else st) (fun st=>(if P.fh then st.emit "deallocate" []else st).emit "proceed" []) n st g:=by(clear h low hg;cases g)<;>rfl
   rw[e]
   exact(sH O pos JY JF UP (by kernel_rfl) (Nat.zero_le _) hg (low g (.head _)) sk hn (h.mono fun rb q=>⟨q.1,q.2.1,fun rb' _ G _ eg=>q.2.2 rb' G eg⟩)).1
  |cons g2 r2=>
   have e:d8 P (g::g2::r2) n st=d8 P (g2::r2) (n+1) (vE P "call" [.num (P.live.getD n 0)] (fun st=>st) (fun st=>st) n st g):=by(clear h low hg;cases g)<;>rfl
   rw[e]
   have key:=fun K'=>sH (es:=es) (r0:=r0) (K:=K') (n:=(n:Int)) (w:="call") (ps:=[.num (P.live.getD n 0)]) O pos nq nq UQ (by kernel_rfl) (cm rfl) hg (low g (.head _)) sk hn
   refine gU (key (fun _=>True) (h.mono fun rb q=>⟨q.1,q.2.1,fun _ _ _ _ _=>trivial⟩)) fun _ a b c=>?_
   refine ih (n+1) _ a (fun x hx=>low x (.tail _ hx)) b c (key _ (h.mono fun rb q=>⟨q.1,q.2.1,fun Cz S1 G1 g1 e1=>⟨S1,g1,fun A7 G2 e2=>q.2.2 A7 (G1.trans G2) ?_⟩⟩)).1
   rw[e2,e1,zP cs g (g2::r2),List.map_append,List.append_assoc]
theorem xg(O:dd es P cs dm)(pos:∀k,dm k->1<=cG cs (vi k)){ai:List Tm}{ag:List Goal}(hh:∀t∈ai,mR dm t/\t.size<=8/\FI t)(hg:gP dm (fun _=>false) ag)(low:∀g∈ag,∀t∈g.bV,FI t)(l:Addr):
 f5 es (gC P 7 ai ag) (yr l) fun rb=>rb.ag=(ib cs ag).map (na cs)/\∀ (i:Nat) t,ai[i]?=some t->cK rb.bH rb.L 9 ((rb.ai.lookup ((i:Int)+1)).getD vb) (ce cs t):=by
 have sA:ly es (yr l) fun st=>if P.fh then st.emit "allocate" [.num P.size]else st:=uQ (lQ UN (.inr ⟨_,rfl⟩))
 have S0:Sync P dm (CS.start 7).seen (CS.start 7).next (yr l):=⟨fun _ _ _=>rfl,Int.le_refl _,fun _ _=>rfl⟩
 show WR es (yr l) (d8 P ag ((0:Nat):Int).toNat (dM P ai ((0:Nat):Int) ((fun st=>if P.fh then st.emit "allocate" [.num P.size]else st) (CS.start 7)))) _
 refine ci (sA (CS.start 7)) fun a1 a2 a3=>?_
 generalize (fun st:CS=>if P.fh then st.emit "allocate" [.num P.size]else st) (CS.start 7)=Hq at *
 have key:=fun K'=>sF (es:=es) (r0:=yr l) (K:=K') O ai 0 (fun t ht=>(hh t ht).1) (by rw[a2];exact Int.le_refl _)
 have nx:=(key (fun _=>True) (a3 _ (show _/\_ from⟨by rw[a1,a2];exact S0,fun _ _=>rfl,fun _ _ _ _ _ _=>trivial⟩))).2
 refine zE O pos ag 0 (fun _=>false) hg low (fun k hk=>?_) (Int.le_trans (by rw[a2];exact Int.le_refl _) nx) (key _ (a3 _ (show _/\_ from⟨by rw[a1,a2];exact S0,fun _ _=>rfl,fun Cz S1 G1 g1 o1 p1=>⟨S1,g1,fun A7 G2 e2=>⟨?_,fun i t ht=>?_⟩⟩⟩))).1
 ·rw[pE _ _ _ fun t ht z=>by have:=(hh t ht).2.2 k z;exact Af hk this,a1]
  rfl
 ·rw[e2,G1.t]
  rfl
 ·rw[G2.h]
  have:=G2.opens (p1 i t ht 9 (by have:=(hh t (List.mem_of_getElem? ht)).2.1;(exact Nat.le_succ_of_le ‹_›)))
  rwa [show((0:Nat):Int)+1+(i:Int)=(i:Int)+1 by exact Ls]at this
structure DG(g:Goal):Prop where
 pl:g.plain=true
 ln:g.bV.length<=2
 tm:∀t∈g.bV,t.size<=7/\t.low 5
 lo:∀k∈g.nums,k.val<7
def tt:V8->Prop:=fun _=>True
noncomputable def oG(kept:V8->Bool)(gs:List Goal):V8->Bool:=gs.foldl (fun k g=>mJ g k) kept
theorem gP.snoc{g:Goal}:∀ {gs:List Goal} {kept:V8->Bool},gP tt kept gs->gP tt (oG kept gs) [g]->gP tt kept (gs++[g]):=by
 intro gs
 induction gs with
 |nil=>exact fun _ h=>h
 |cons x r ih=>
  intro kept h q
  cases x with
  |unify _ _=>exact h.elim
  |cut=>exact ih h q
  |_=>exact⟨h.1,ih h.2 q⟩
theorem oE(kept:V8->Bool)(gs:List Goal)(g:Goal):oG kept (gs++[g])=mJ g (oG kept gs):=by
 unfold oG
 rw[List.foldl_append]
 rfl
structure GI(lm lk lt l0:Addr)(gs:List Goal)(ks:List V8)(H:ah):Prop where
 m:H lm=some (.list (gs.map Goal.av))
 k:H lk=some (.list ((ks.map vi).map AV.int))
 T:gf lt l0 H
 ne:lm≠lk
 off:lm∉[lt,l0]/\lk∉[lt,l0]
 dg:∀g∈gs,DG g
 ok:gP tt (fun _=>false) gs
 kp:∀k,oG (fun _=>false) gs k=decide (k∈ks)
 hi:∀k∈ks,5<=k.val/\k.val<7
 zk:ks.length<=9
theorem zR(H:ah):∀ns:List Int,xz H (ns.map PyData.int) (ns.map AV.int):=by
 intro ns
 induction ns with
 |nil=>exact rfl
 |cons n r ih=>exact⟨_,_,rfl,rfl,ih⟩
theorem rP(ns:List Int):SeqAt.shaped (.list (ns.map PyData.int))=true:=by
 have key:PyData.canLayAll0 (ns.map PyData.int)=true/\PyData.depthAll (ns.map PyData.int)<=1:=by
  induction ns with
  |nil=>exact⟨rfl,by exact Nat.zero_le _⟩
  |cons n r ih=>exact⟨by show(PyData.canLay0 (.int n)&&PyData.canLayAll0 (r.map PyData.int))=true;rw[ih.1];rfl,by simp only[List.map_cons,PyData.depthAll,PyData.depth];have:=ih.2;(assumption)⟩
 simp only[SeqAt.shaped,PyData.canLay0,PyData.depth,key.1,Bool.true_and,decide_eq_true_iff]
 lia
theorem Fb(k:V8)(ks:List V8):(ks.map vi).any (·==vi k)=decide (k∈ks):=by
 rw[Bool.eq_iff_iff,List.any_eq_true,decide_eq_true_iff]
 constructor
 ·intro ak;refine aA (ak) fun x hx e=>?_;clear ak
  refine aA (List.mem_map.mp hx) fun j hj ak=>?_;(clear hx;subst ak)
  exact gh (eq_of_beq e)▸hj
 ·exact fun h=>⟨vi k,List.mem_map.mpr ⟨k,h,rfl⟩,beq_self_eq_true _⟩
variable{lm lk l0:Addr}{gs:List Goal}{ks:List V8}
theorem GI.jV(G:GI lm lk lt l0 gs ks H)(T:gf lt l0 H')(F:ao [lt,l0] H H'):GI lm lk lt l0 gs ks H':={ G with m:=F _ _ G.m G.off.1,k:=F _ _ G.k G.off.2,T:=T }
theorem GI.new(G:GI lm lk lt l0 gs ks H){l:Addr}(hl:H l=none)(o:AO):GI lm lk lt l0 gs ks (H.put l o):=G.jV (G.T.new hl o).1 (ao.new hl)
theorem gf.off{l:Addr}{o:AO}(T:gf lt l0 H)(hl:l∉[lt,l0]):gf lt l0 (H.put l o):=T.grow fun a o' q z=>(aj _ _ fun y=>hl (by rw[←y];simpa using z)).trans q
theorem GI.add(G:GI lm lk lt l0 gs ks H){g:Goal}(dg:DG g)(ok:gP tt (fun k=>decide (k∈ks)) [g])(hk:mJ g (fun k=>decide (k∈ks))=fun k=>decide (k∈ks)):GI lm lk lt l0 (gs++[g]) ks (H.put lm (.list (gs.map Goal.av++[g.av]))):=by
 have e:oG (fun _=>false) gs=fun k=>decide (k∈ks):=funext G.kp
 exact{ G with
  m:=by rw[al,List.map_append];rfl
  k:=(aj _ _ G.ne.symm).trans G.k
  T:=G.T.off G.off.1
  dg:=fun x hx=>(List.mem_append.mp hx).elim (G.dg x) fun hx=>by rw[fG hx];exact dg
  ok:=G.ok.snoc (by rw[e];exact ok)
  kp:=fun k=>by rw[oE,e,hk] }
theorem GI.keep(G:GI lm lk lt l0 gs ks H){g:Goal}{k:V8}(dg:DG g)(ok:gP tt (fun k=>decide (k∈ks)) [g])(hk:mJ g (fun k=>decide (k∈ks))=nA (fun k=>decide (k∈ks)) k)(h5:5<=k.val/\k.val<7)(hz:ks.length<=8):GI lm lk lt l0 (gs++[g]) (ks++[k]) ((H.put lm (.list (gs.map Goal.av++[g.av]))).put lk (.list ((ks.map vi).map AV.int++[.int (vi k)]))):=by
 have e:oG (fun _=>false) gs=fun k=>decide (k∈ks):=funext G.kp
 exact{ G with
  m:=by rw[aj _ _ G.ne,al,List.map_append];rfl
  k:=by rw[al,List.map_append,List.map_append];rfl
  T:=(G.T.off G.off.1).off G.off.2
  dg:=fun x hx=>(List.mem_append.mp hx).elim (G.dg x) fun hx=>by rw[fG hx];exact dg
  ok:=G.ok.snoc (by rw[e];exact ok)
  kp:=fun j=>by rw[oE,e,hk];show(decide (j∈ks)||decide (j=k))=decide (j∈ks++[k]);simp
  hi:=fun x hx=>(List.mem_append.mp hx).elim (G.hi x) fun hx=>by rw[fG hx];exact h5
  zk:=by rw[List.length_append];exact Nat.succ_le_succ hz }
theorem WT.mono{G:Gl}{D:Nat}{cs:Scope}{cl:List (Str×Addr)}{m:bP}{H:ah}{e:Expr}{Q Q':Bool->ah->Prop}(h:WT G D cs cl e m H Q)(k:∀b H,Q b H->Q' b H):WT G D cs cl e m H Q':=
 ⟨fun c h1 h2 ok mm ae s S lr rq E c'=>h.go c h1 h2 ok mm ae s S lr rq E fun b H' am h' tk a1 a2 a3=>c' b H' am h' tk a1 a2 (k _ _ a3)⟩
theorem Ij:nsIn e.G.K mainGlobals ("_law_goals":Str)=some (some (.ref 620)):=by kernel_rfl
theorem O9:keepIn e.G.K (.ref 620)=true:=by kernel_rfl
theorem wU{lt l0:Addr}(T:gf lt l0 H){Q:AQ}(h:∀lm gs H',H lm=none->H' lm=some (.list (gs.map Goal.av))->(∀g∈gs,DG g)->gP tt (fun _=>false) gs->gs.length<=6->gf lt l0 H'->ao [lt,l0] H H'->Q (.ref lm) H'):WC e.G (D+107) (.ref 620) [.ref lt] H Q:=by
 refine bj (ns:=["tape"]) (by kernel_rfl) (by kernel_rfl) rfl (gx (by intro x;kernel_rfl)) ?_
 k_extra"norm_m"
 refine WS.cons (W1.assign (WE.list fun lm un=>WS.cons (W1.assign (WE.list fun lk wO=>?_))))
 refine bh (T.new un (.list [])) fun T1 o1=>?_
 refine bh (T1.new wO (.list [])) fun T2 o2=>?_
 have Fq:lk≠lm:=fun z=>by rw[z,al]at wO;(exact bg wO)
 have sE:H lk=none:=(aj _ _ Fq).symm.trans wO
 have G0:GI lm lk lt l0 [] [] ((H.put lm (.list [])).put lk (.list [])):=⟨(aj _ _ Fq.symm).trans (al _ _ _),al _ _ _,T2,Fq.symm,⟨o1,o2⟩,(fun _ h=>bv h),trivial,(fun _=>rfl),(fun _ h=>bv h),Nat.zero_le _⟩
 have F0:ao [] H ((H.put lm (.list [])).put lk (.list [])):=(ao.new un).trans (ao.new wO)
 generalize (H.put lm (.list [])).put lk (.list [])=H0 at *
 clear T1 T2 T wO
 have dig:∀ {D:Nat} {gs:List Goal} {ks:List V8} {HB H1:ah} (G:GI lm lk lt l0 gs ks H1) (F:ao [lm,lk,lt,l0] HB H1) (n:Int) (hn:0<n) {Q:AQ},(∀ (d:Nat) H2,(d:Int)<n->GI lm lk lt l0 gs ks H2->ao [lm,lk,lt,l0] HB H2->Q (.int d) H2)->WC e.G (D+101) (.ref 608) [.ref lt,.int n] H1 Q:=fun {D gs ks HB H1} G F n hn {Q} k=>
  eb G.T n hn fun d H2 d0 d1 T2 F2=>by
   refine aY (Int.eq_ofNat_of_zero_le d0) fun d ak=>?_;(clear d0;subst ak)
   exact k d H2 d1 (G.jV T2 F2) (F.trans (F2.sub (by simp)))
 have AE:lm∈[lm,lk,lt,l0]:=.head _
 have Bk:lk∈[lm,lk,lt,l0]:=.tail _ (.head _)
 refine WS.seq (fun m' H'=>Sub [("kept",.ref lk),("made",.ref lm),("tape",.ref lt)] m'/\∃gs ks,GI lm lk lt l0 gs ks H'/\gs.length<=1/\ks.length<=gs.length/\ao [lm,lk,lt,l0] H0 H') ?_ ?_
 ·refine cT (WT.cmp (WE.cp oH ul (WE.name rfl (WE.int (dig G0 ao.refl 2 (by decide) fun d H1 d1 G1 F1=>WE.int (xF (fun _=>?_) (fun _=>?_)))))))
  ·refine WS.cons (W1.expr (WE.cW (WE.name rfl (ru.of G1.m rfl (WE.leaf rfl (dG G1.m (Nat.zero_le _) ?_))))))
   have n1:(H1.put lm (.list (([]:List Goal).map Goal.av++[(Goal.level 5).av]))) lk=some (.list ((([]:List V8).map vi).map AV.int)):=(aj _ _ G1.ne.symm).trans G1.k
   refine WS.cons (W1.expr (WE.cW (WE.name rfl (ru.of n1 rfl (WE.int (dG n1 (Nat.zero_le _) ?_))))))
   exact WS.nil ⟨rfl,fun x a q=>q,_,_,G1.keep (g:=.level 5) (k:=5) ⟨rfl,Nat.zero_le _,(fun _ h=>bv h),fun k hk=>by rw[fG hk];decide⟩ ⟨⟨trivial,Nat.le_refl _,rfl⟩,trivial⟩ rfl ⟨Nat.le_refl _,by decide⟩ (Nat.zero_le _),Nat.le_refl _,Nat.le_refl _,F1.trans ((ao.put AE).trans (ao.put Bk))⟩
  ·exact WS.nil ⟨rfl,fun x a q=>q,[],[],G1,Nat.zero_le _,Nat.le_refl _,F1⟩
 ·intro m1;intro H1;intro ak;refine oY (ak) fun i1 Uh TA G1 z1 z2 F1=>?_;clear ak
  refine WS.weak i1 ?_
  refine WS.seq (fun m' H'=>Sub [("made",.ref lm)] m'/\∃gs ks,GI lm lk lt l0 gs ks H'/\gs.length<=6/\ao [lm,lk,lt,l0] H0 H') ?_ ?_
  ·refine xU (ft iE gD (by decide) (WE.cp oH ul (WE.name rfl (WE.int (dig G1 F1 5 (by decide) fun d H2 d1 G2 F2=>WB.range fun lr g9=>⟨lr,(d:Int),rfl,al _ _ _,Int.natCast_nonneg _,by lia,fun ob=>?_⟩)))))
   rw[r5]
   have GL:=G2.new g9 (.ro (.range d) ob)
   have nl:=(G2.T.new g9 (.ro (.range d) ob)).2
   have n1:lr∉[lm,lk,lt,l0]:=fun z=>by
    clear GL ob F2 d1 d F1 G1 i1 H1 m1 Bk AE dig F0 G0 sE Fq o2 o1 un h;rcases de z with rfl|z
    ·rw[G2.m]at g9;(exact bg g9)
    ·rcases de z with rfl|z
     ·rw[G2.k]at g9;(exact bg g9)
     ·exact nl z
   have FL:ao [lm,lk,lt,l0] H0 (H2.put lr (.ro (.range d) ob)):=F2.trans (ao.new g9)
   have ED:(H2.put lr (.ro (.range d) ob)) lr=some (.ro (.range d) ob):=al _ _ _
   have nr:H0 lr=none:=by
    cases q:H0 lr with
    |none=>rfl
    |some o=>rw[F2 _ _ q n1]at g9;(exact bg g9)
   generalize H2.put lr (.ro (.range d) ob)=HL at *
   refine dS.range d (fun i m' H'=>Sub [("kept",.ref lk),("made",.ref lm),("tape",.ref lt)] m'/\∃gs ks,GI lm lk lt l0 gs ks H'/\gs.length<=1+i/\ks.length<=gs.length/\ao [lm,lk,lt,l0] HL H') (fun i m3 H3 hi I kp=>?_) (fun m3 H3 I kp=>?_) ED ⟨fun x a q=>q,Uh,TA,GL,z1,z2,ao.refl⟩
   ·refine oY (I) fun i3 gs ks G3 z3 z4 F3=>?_;clear I
    refine WS.weak (m':=[("kept",.ref lk),("made",.ref lm),("tape",.ref lt)]) (Sub.cons (i3 _ _ rfl) (Sub.cons (i3 _ _ rfl) (Sub.cons (i3 _ _ rfl) Sub.nil))) ?_
    refine WS.cons (W1.assign (WE.cp oH ul (WE.name rfl (WE.int (dig G3 F3 6 (by decide) fun w H4 w1 G4 F4=>?_)))))
    have zg:gs.length<=16000000:=by exact Lr d1 hi z3
    have fin:∀ {QT TB m' H'},GI lm lk lt l0 QT TB H'->QT.length<=gs.length+1->TB.length<=QT.length->ao [lm,lk,lt,l0] HL H'->Sub [("kept",.ref lk),("made",.ref lm),("tape",.ref lt)] m'->cA (some (lr,.ro (.range d) ob)) H'/\Sub [("kept",.ref lk),("made",.ref lm),("tape",.ref lt)] m'/\∃gs ks,GI lm lk lt l0 gs ks H'/\gs.length<=1+(i+1)/\ks.length<=gs.length/\ao [lm,lk,lt,l0] HL H':=fun a1 a2 a3 a4 a5=>⟨a4 _ _ ED n1,a5,_,_,a1,by exact Lq z3 a2,a3,a4⟩
    have zk:ks.length<=8:=by exact Lp d1 hi z3 z4
    refine WS.last (cT (WT.mono (Q:=fun b H'=>GI lm lk lt l0 gs ks H'/\ao [lm,lk,lt,l0] HL H'/\(b=true->ks≠[])) ?_ ?_))
    ·refine my (WT.leaf rfl rfl (xF (fun _=>?_) (fun _=>⟨G4,F4,fun z=>bI z⟩)))
     refine WT.cmp (WE.name rfl (WE.list fun l hl=>?_))
     have G5:=G4.new hl (.list [])
     have F5:ao [lm,lk,lt,l0] HL (H4.put l (.list [])):=F4.trans (ao.new hl)
     have ev:(!PyData.eqv (.list ((ks.map vi).map PyData.int)) (.list []))=decide (ks≠[]):=by(clear F5 G5 hl l zk fin zg F4 G4 H4 F3 z4 z3 G3 gs i3 kp H3 nr FL n1 nl GL F2 G2 F1 G1 i1 Bk AE dig F0 G0 sE Fq o2 o1 lk un lm h l0 lt;cases ks)<;>(rfl)
     refine DF (D:=D+98) (da:=.list ((ks.map vi).map PyData.int)) (db:=.list []) ⟨lk,_,_,rfl,G5.k,rfl,?_⟩ ⟨l,_,_,rfl,al _ _ _,rfl,rfl⟩ ?_ (by kernel_rfl) ?_
     ·exact zR _ _
     ·exact rP _
     ·rw[ev]
      by_cases z:ks≠[]
      ·rw[decide_eq_true z]
       exact⟨G5,F5,fun _=>z⟩
      ·rw[decide_eq_false z]
       exact⟨G5,F5,fun y=>bI y⟩
    intro b;intro H5;intro ak;refine ci (ak) fun G5 F5 hb=>?_;clear ak
    cases b with
    |true=>
     have eG:=hb rfl
     have EE:0<ks.length:=List.length_pos_iff.mpr eG
     refine WS.last (W1.expr (WE.cW (WE.name rfl (ru.of G5.m rfl (WE.tuple (WE.str ?_))))))
     refine WE.item (WE.name rfl (iU (WE.cp oH ul (WE.name rfl (WE.int ?_)))))
     refine dig G5 F5 2 (by decide) fun j H6 j1 G6 F6=>?_
     refine jQ pj jn (by decide) (WE.name rfl (lK G6.k rfl (by simp;(exact d6 ‹_› (cm rfl))) (xA (by simp;(assumption)) ?_)))
     have ez:(((ks.map vi).map AV.int).length:Int)=(ks.length:Int):=by simp
     have ej:(j:Int).fmod (ks.length:Int)=((j % ks.length:Nat):Int):=by rw[Int.fmod_eq_emod_of_nonneg _ (Int.natCast_nonneg _)];rfl
     have lt:=Nat.mod_lt j EE
     rw[ez,ej]
     generalize j % ks.length=i0 at lt
     refine WI.list (a:=.int (vi ks[i0])) G6.k rfl (Int.natCast_nonneg _) (by simp[lt]) (by simp;exact vU zk) ?_
     refine dG G6.m (by simp;(assumption)) ?_
     have mem:ks[i0]∈ks:=List.getElem_mem lt
     exact fin (G6.add (g:=.eA ks[i0]) ⟨rfl,Nat.zero_le _,(fun _ h=>bv h),fun k hk=>by rw[fG hk];exact(G6.hi _ mem).2⟩ ⟨⟨trivial,(G6.hi _ mem).1,decide_eq_true mem⟩,trivial⟩ rfl) (by simp) (by simp;(exact Nat.le_succ_of_le ‹_›)) (F6.trans (ao.put AE)) (by k_extra"sb")
    |false=>
     refine WS.last (cT (WT.mono (Q:=fun b H'=>GI lm lk lt l0 gs ks H'/\ao [lm,lk,lt,l0] HL H'/\(b=true->(6:V8)∉ks)) ?_ ?_))
     ·refine my (WT.leaf rfl rfl (xF (fun _=>?_) (fun _=>⟨G5,F5,fun z=>bI z⟩)))
      refine WT.cmp (WE.int (WE.name rfl (DQ (ns:=ks.map vi) (i:=vi 6) G5.k ?_)))
      rw[Fb]
      cases hd:decide ((6:V8)∈ks)
      ·exact⟨G5,F5,fun _=>of_decide_eq_false hd⟩
      ·exact⟨G5,F5,fun z=>bI z⟩
     intro b;intro H6;intro ak;refine ci (ak) fun G6 F6 h6=>?_;clear ak
     cases b with
     |true=>
      refine WS.cons (W1.expr (WE.cW (WE.name rfl (ru.of G6.m rfl (WE.leaf rfl (dG G6.m (by simp;(assumption)) ?_))))))
      have n2:(H6.put lm (.list (gs.map Goal.av++[(Goal.mark 6).av]))) lk=some (.list ((ks.map vi).map AV.int)):=(aj _ _ G6.ne.symm).trans G6.k
      refine WS.cons (W1.expr (WE.cW (WE.name rfl (ru.of n2 rfl (WE.int (dG n2 (by simp;exact vU zk) ?_))))))
      exact WS.nil (fin (G6.keep (g:=.mark 6) (k:=6) ⟨rfl,Nat.zero_le _,(fun _ h=>bv h),fun k hk=>by rw[fG hk];decide⟩ ⟨⟨trivial,cm rfl,decide_eq_false (h6 rfl)⟩,trivial⟩ rfl ⟨by decide,by decide⟩ zk) (by simp) (by simp;(assumption)) (F6.trans ((ao.put AE).trans (ao.put Bk))) (Sub.cons rfl (Sub.cons rfl (Sub.cons rfl Sub.nil))))
     |false=>
      refine WS.last (cT (WT.mono (Q:=fun b H'=>GI lm lk lt l0 gs ks H'/\ao [lm,lk,lt,l0] HL H') ?_ ?_))
      ·refine my (WT.leaf rfl rfl (xF (fun _=>?_) (fun _=>⟨G6,F6⟩)))
       refine WT.cmp (DU ?eN ?cU ?dj rfl G6.m (by simp;exact Lo d1 hi z3) (fun a ha=>?_) fun d ys hd=>WE.list fun l hl=>?_)
       case eN=>
        intro c h1 h2
        obtain⟨_,_,_,_,_,_,_,_,_,_,_⟩:=c
        dsimp only at h1 h2
        subst h1 h2
        rfl
       case cU=>decide +kernel
       case dj=>decide +kernel
       ·refine aA (List.mem_map.mp ha) fun g hg ak=>?_;(clear hg ha;subst ak)
        (clear G6 G5 fin zg G4 z4 z3 G3 gs;cases g)<;>exact⟨_,_,rfl,cm rfl⟩
       ·have n3:d≠l:=fun z=>by rw[←z,al]at hl;(exact bg hl)
        refine DV ((aj _ _ n3).trans (al _ _ _)) (al _ _ _) ?_
        cases ys.isEmpty<;>exact⟨(G6.new hd _).new hl _,F6.trans ((ao.new hd).trans (ao.new hl))⟩
      intro b;intro H7;intro ak;refine bh (ak) fun G7 F7=>?_;clear ak
      cases b with
      |true=>
       refine WS.last (W1.expr (WE.cW (WE.name rfl (ru.of G7.m rfl (WE.leaf rfl (dG G7.m (by simp;(assumption)) ?_))))))
       exact fin (G7.add (g:=.cut) ⟨rfl,Nat.zero_le _,(fun _ h=>bv h),(fun _ h=>bv h)⟩ trivial rfl) (by simp) (by simp;exact vT z4) (F7.trans (ao.put AE)) (by k_extra"sb")
      |false=>
       refine WS.cons (W1.assign (WE.cp sC zq (WE.name rfl (WE.int (yc (D:=D+1) _ _ _ _ G7.T fun t H8 zt VT T8 F8=>?_)))))
       have G8:=G7.jV T8 F8
       refine WS.cons (W1.assign (WE.cp sC zq (WE.name rfl (WE.int (yc (D:=D+1) _ _ _ _ G8.T fun u H9 zu VS T9 F9=>?_)))))
       have G9:=G8.jV T9 F9
       have UF:ao [lm,lk,lt,l0] HL H9:=F7.trans ((F8.sub (by simp)).trans (F9.sub (by simp)))
       refine WS.last (W1.expr (WE.cW (WE.name rfl (ru.of G9.m rfl (WE.item (WE.list (WE.tuple (WE.str ?_))))))))
       refine fY zK (WE.tuple (WE.name rfl (WE.name rfl (WE.tuple (WE.str (fY zJ (WE.tuple (WE.name rfl (WE.name rfl fun l hl=>?_)))))))))
       refine iU (WE.name rfl (WE.int (xA (by decide) ?_)))
       have ew:(w:Int).fmod 2=((w % 2:Nat):Int):=by rw[Int.fmod_eq_emod_of_nonneg _ (by decide)];rfl
       have NP:=G9.new hl (.list [(Goal.call 25 [t,u]).av,(Goal.builtin 13 [t,u]).av])
       have xy:ao [lm,lk,lt,l0] HL (H9.put l (.list [(Goal.call 25 [t,u]).av,(Goal.builtin 13 [t,u]).av])):=UF.trans (ao.new hl)
       have tm:∀x∈[t,u],x.size<=7/\x.low 5:=fun x hx=>by
        clear xy NP hl l UF G9 F9 T9 H9 G8 F8 T8 F7 G7 F6 G6 F5 G5 fin zg F4 G4 F3 z4 z3 G3 gs i3 kp hi nr ED FL n1 nl GL ob g9 lr F2 G2 d1 H2 d F1 G1 i1 Bk AE dig F0 G0 sE Fq o2 o1 lk un lm h l0 lt;rcases de hx with rfl|hx
        ·exact⟨zt,VT⟩
        ·rw[fG hx];exact⟨zu,VS⟩
       have tk:∀x∈[t,u],mR tt x/\x.size<=8:=fun x hx=>⟨fun _ _=>trivial,Nat.le_succ_of_le (tm x hx).1⟩
       have lo:∀k∈[t,u].flatMap Tm.occs,k.val<7:=fun k hk=>by
        refine aA (List.mem_flatMap.mp hk) fun x hx hk=>?_
        exact Nat.lt_trans ((tm x hx).2 k hk) (by decide)
       rw[ew]
       rcases Nat.mod_two_eq_zero_or_one w with e0|e0
       ·rw[e0]
        refine WI.list (a:=(Goal.call 25 [t,u]).av) (al _ _ _) rfl (by decide) rfl (cm rfl) (dG NP.m (by simp;(assumption)) ?_)
        exact fin (NP.add (g:=.call 25 [t,u]) ⟨rfl,Nat.le_refl _,tm,lo⟩ ⟨⟨t,u,rfl,tk t (.head _),tk u (.tail _ (.head _))⟩,trivial⟩ rfl) (by simp) (by simp;exact vT z4) (xy.trans (ao.put AE)) (by k_extra"sb")
       ·rw[e0]
        refine WI.list (a:=(Goal.builtin 13 [t,u]).av) (al _ _ _) rfl (by decide) rfl (cm rfl) (dG NP.m (by simp;(assumption)) ?_)
        exact fin (NP.add (g:=.builtin 13 [t,u]) ⟨rfl,Nat.le_refl _,tm,lo⟩ ⟨⟨t,u,rfl,tk t (.head _),tk u (.tail _ (.head _))⟩,trivial⟩ rfl) (by simp) (by simp;exact vT z4) (xy.trans (ao.put AE)) (by k_extra"sb")
   ·refine oY (I) fun i3 gs ks G3 z3 z4 F3=>?_;clear I
    have ui:H3 lr=some (.ro (.range d) ob):=kp
    refine⟨rfl,Sub.cons (i3 _ _ rfl) Sub.nil,gs,ks,?_,by exact Ln d1 z3,fun a o q n=>?_⟩
    ·have T3:=G3.T
     exact{ G3 with m:=(aj _ _ (ay G3.m ui (fun z=>iT z lF))).trans G3.m,k:=(aj _ _ (ay G3.k ui (fun z=>iT z lF))).trans G3.k,T:=T3.grow fun a o q z=>(aj _ _ fun y=>n1 (by rw[←y];(clear y q T3 ui F3 z4 z3 G3 ks gs i3 kp H3 m3 nr ED FL n1 nl GL ob g9 lr F2 G2 d1 H2 d F1 z2 z1 G1 TA Uh i1 H1 m1 Bk AE dig F0 G0 sE o2 o1 un h Q;rcases z with rfl|rfl)<;>simp)).trans q }
    ·exact(aj _ _ fun z=>by rw[z,nr]at q;(exact ax q)).trans (F3 a o (FL a o q n) n)
  ·intro m3;intro H3;intro ak;refine qZ (ak) fun i3 gs ks G3 z3 F3=>?_;clear ak
   refine WS.weak i3 ?_
   refine WS.cons (W1.ret (WE.name rfl (h lm gs H3 un G3.m G3.dg G3.ok z3 G3.T ?_)))
   exact ao.drop un (ao.drop sE (fun a o q n=>F3 a o (F0 a o q (fun z=>bv z)) (by simpa[or_comm,or_assoc,or_left_comm]using n)))
variable{P':aX}{p:V8->V8}{f f':Part->AV}{st':CS}
noncomputable def tP(pl:Str)(g c:Int)(t:Tm)(rs:List Rec):List Rec:=match t with|.v k=>c9 k (pl++"_arg") g c 1 rs|t=>cV pl g c t t.vars rs
theorem qp(pl:Str)(g c:Int)(t:Tm)(ts:List Tm)(rs:List Rec):cM pl g c (t::ts) rs=cM pl g c ts (tP pl g c t rs):=by cases t<;>rfl
theorem kM{C:Rec->Prop}{k:V8}{f:Rec->Rec}(hf:∀r,C r->C (f r)){rs:List Rec}(h:∀r∈rs,C r):∀r∈jU k f rs,C r:=fun r hr=>by
 refine aA (List.mem_map.mp hr) fun x hx ak=>?_;(clear hr;subst ak)
 split
 ·exact hf _ (h x hx)
 ·exact h x hx
structure ig(Kp:V8->Prop)(rs:List Rec):Prop where
 nd:(rs.map (·.k)).Nodup
 z:∀r∈rs,r.slot=0/\r.kind=.rI
 kp:∀r∈rs,Kp r.k
theorem ig.meet{Kp:V8->Prop}{rs:List Rec}(R:ig Kp rs)(k:V8)(fs:Str)(g c n:Int)(hk:Kp k):ig Kp (c9 k fs g c n rs)/\∀j,bS j (c9 k fs g c n rs)=(bS j rs||decide (j=k)):=by
 unfold c9
 cases q:bS k rs with
 |true=>
  rw[if_pos rfl]
  refine⟨⟨by rw[f7 (f:=Rec.met g c n) (fun _=>rfl)];exact R.nd,kM (f:=Rec.met g c n) (fun r h=>h) R.z,kM (f:=Rec.met g c n) (C:=fun r=>Kp r.k) (fun r h=>h) R.kp⟩,fun j=>?_⟩
  rw[f8 (f:=Rec.met g c n) (fun _=>rfl)]
  by_cases z:j=k
  ·(clear hk R Kp;subst z);simp[q]
  ·simp[z]
 |false=>
  rw[if_neg (by decide)]
  have nk:∀y∈rs,y.k≠k:=fun y hy e=>by rw[bK.mpr ⟨y,hy,e⟩]at q;(exact dH q)
  refine⟨⟨?_,kM (f:=Rec.met g c n) (fun r h=>h) fun r hr=>?_,kM (f:=Rec.met g c n) (C:=fun r=>Kp r.k) (fun r h=>h) fun r hr=>?_⟩,fun j=>?_⟩
  ·rw[f7 (f:=Rec.met g c n) (fun _=>rfl),List.map_append,List.nodup_append]
   refine⟨R.nd,by simp,fun a ha b hb=>?_⟩
   refine aA (List.mem_map.mp ha) fun y hy ak=>?_;(clear ha;subst ak)
   cases fG hb
   exact nk y hy
  ·rcases List.mem_append.mp hr with hr|hr
   ·exact R.z r hr
   ·cases fG hr;exact⟨rfl,rfl⟩
  ·rcases List.mem_append.mp hr with hr|hr
   ·exact R.kp r hr
   ·cases fG hr;exact hk
  ·rw[f8 (f:=Rec.met g c n) (fun _=>rfl)]
   unfold bS
   rw[List.any_append]
   show(_||(decide (k=j)||false))=_
   rw[Bool.or_false]
   congr 1
   exact decide_eq_decide.mpr ⟨Eq.symm,Eq.symm⟩
theorem ig.meets{Kp:V8->Prop}(pl:Str)(g c:Int)(t:Tm):∀ (vs:List V8) {rs:List Rec},ig Kp rs->(∀k∈vs,Kp k)->ig Kp (cV pl g c t vs rs)/\∀j,bS j (cV pl g c t vs rs)=(bS j rs||decide (j∈vs)):=by
 intro zz
 induction zz with
 |nil=>
  intro rs R _
  exact⟨R,fun j=>by simp[y7,y8]⟩
 |cons k vs ih=>
  intro rs R h
  (refine bh (R.meet k (pl++"_struct") g c (t.occs.count k) (h k (.head _))) fun R1 e1=>?_)
  refine bh (ih R1 (fun j hj=>h j (.tail _ hj))) fun R2 e2=>?_
  refine⟨R2,fun j=>?_⟩
  rw[show cV pl g c t (k::vs) rs=cV pl g c t vs (c9 k (pl++"_struct") g c (t.occs.count k) rs)from rfl,e2,e1]
  simp[Bool.or_assoc]
theorem sr:∀ (l s:List V8) (k:V8),k∈d9 s l↔k∈l/\k∉s:=by
 intro zz
 induction zz with
 |nil=>
  intro s k
  simp[jg,fy]
 |cons j l ih=>
  intro s k
  rw[fy]
  by_cases q:j∈s
  ·rw[if_pos q,ih s k,List.mem_cons]
   refine⟨fun h=>⟨.inr h.1,h.2⟩,fun h=>⟨?_,h.2⟩⟩
   rcases h.1 with rfl|h1
   ·exact absurd q h.2
   ·exact h1
  ·rw[if_neg q,List.mem_cons,ih (j::s) k,List.mem_cons,List.mem_cons]
   by_cases z:k=j
   ·subst z;simp[q]
   ·simp[z]
theorem pX(t:Tm)(k:V8):k∈t.vars↔k∈t.occs:=by unfold Tm.vars;rw[sr];simp
theorem ig.bV{Kp:V8->Prop}(pl:Str)(g c:Int):∀ (ts:List Tm) {rs:List Rec},ig Kp rs->(∀t∈ts,∀k∈t.occs,Kp k)->ig Kp (cM pl g c ts rs)/\∀j,bS j (cM pl g c ts rs)=(bS j rs||decide (∃t∈ts,j∈t.occs)):=by
 intro zz
 induction zz with
 |nil=>
  intro rs R _
  exact⟨R,fun j=>by simp[yb]⟩
 |cons t ts ih=>
  intro rs R h
  have one:∃uT,tP pl g c t rs=uT/\ig Kp uT/\∀j,bS j uT=(bS j rs||decide (j∈t.occs)):=by
   have hk:=h t (.head _)
   have key:∀u:Tm,(∀k∈u.occs,Kp k)->∃uT,cV pl g c u u.vars rs=uT/\ig Kp uT/\∀j,bS j uT=(bS j rs||decide (j∈u.occs)):=fun u hu=>by
    refine bh (ig.meets pl g c u u.vars R (fun k hk=>hu k ((pX u k).mp hk))) fun a b=>?_
    exact⟨_,rfl,a,fun j=>by rw[b j];congr 1;exact decide_eq_decide.mpr (pX u j)⟩
   clear h ih ts;cases t with
   |v k=>
    (refine bh (R.meet k (pl++"_arg") g c 1 (hk k (by exact List.mem_cons_self))) fun a b=>?_)
    exact⟨_,rfl,a,fun j=>by rw[show tP pl g c (.v k) rs=c9 k (pl++"_arg") g c 1 rs from rfl,b j];simp[dP,dR,dQ,c8,cZ]⟩
   |a n=>exact key _ hk
   |i n=>exact key _ hk
   |s1 u=>exact key _ hk
   |s2 b u w=>exact key _ hk
  refine aN (one) fun uT e0 R1 e1=>?_;clear one
  refine bh (ih R1 (fun u hu=>h u (.tail _ hu))) fun R2 e2=>?_
  rw[qp,e0]
  refine⟨R2,fun j=>?_⟩
  rw[e2,e1]
  simp[Bool.or_assoc]
theorem ig.special{Kp:V8->Prop}(g:Goal)(i c:Int){rs:List Rec}(R:ig Kp rs)(h:∀k,g.special=vi k->Kp k):ig Kp (cw g i c rs)/\∀j,bS j (cw g i c rs)=(bS j rs||decide (g.special=vi j)):=by
 have no:∀j:V8,decide ((-1:Int)=vi j)=false:=fun j=>by have:=(hA j).1;exact decide_eq_false (by exact Lm this)
 have yes:∀k j:V8,decide (j=k)=decide (vi k=vi j):=fun k j=>decide_eq_decide.mpr ⟨fun h=>by rw[h],fun h=>(gh h).symm⟩
 cases g with
 |level k=>(refine bh (R.meet k "special" i c 1 (h k rfl)) fun a b=>?_);exact⟨a,fun j=>by rw[show cw (.level k) i c rs=c9 k "special" i c 1 rs from rfl,b j,yes];rfl⟩
 |mark k=>(refine bh (R.meet k "special" i c 1 (h k rfl)) fun a b=>?_);exact⟨a,fun j=>by rw[show cw (.mark k) i c rs=c9 k "special" i c 1 rs from rfl,b j,yes];rfl⟩
 |eA k=>(refine bh (R.meet k "special" i c 1 (h k rfl)) fun a b=>?_);exact⟨a,fun j=>by rw[show cw (.eA k) i c rs=c9 k "special" i c 1 rs from rfl,b j,yes];rfl⟩
 |_=>exact⟨R,fun j=>by show bS j rs=(bS j rs||decide ((-1:Int)=vi j));rw[no,Bool.or_false]⟩
def sN(g:Goal)(j:V8):Prop:=g.special=vi j∨∃t∈g.bV,j∈t.occs
theorem ig.Ed{Kp:V8->Prop}:∀ (gs:List Goal) (i c:Int) {rs:List Rec},ig Kp rs->(∀g∈gs,∀k,sN g k->Kp k)->ig Kp (dt gs i c rs)/\∀j,bS j (dt gs i c rs)=true↔(bS j rs=true∨∃g∈gs,sN g j):=by
 intro zz
 induction zz with
 |nil=>
  intro i c rs R _
  exact⟨R,fun j=>by simp[v8,v9]⟩
 |cons g gs ih=>
  intro i c rs R h
  refine bh (R.special g i c (fun k hk=>h g (.head _) k (.inl hk))) fun R1 e1=>?_
  (refine bh (R1.bV "goal" i c g.bV (fun t ht k hk=>h g (.head _) k (.inr ⟨t,ht,hk⟩))) fun R2 e2=>?_)
  refine bh (ih (i+1) (if g.isCall then c+1 else c) R2 (fun x hx=>h x (.tail _ hx))) fun R3 e3=>?_
  refine⟨R3,fun j=>?_⟩
  rw[show dt (g::gs) i c rs=dt gs (i+1) (if g.isCall then c+1 else c) (cM "goal" i c g.bV (cw g i c rs))from rfl,e3 j,e2,e1]
  simp only[Bool.or_eq_true,decide_eq_true_eq,List.mem_cons,exists_eq_or_imp,sN,or_assoc]
theorem rS(Kp:V8->Prop)(ai:List Tm)(ag:List Goal)(hh:∀t∈ai,∀k∈t.occs,Kp k)(hg:∀g∈ag,∀k,sN g k->Kp k):ig Kp (gZ ai ag)/\∀j,bS j (gZ ai ag)=true↔((∃t∈ai,j∈t.occs)∨∃g∈ag,sN g j):=by
 have R0:ig Kp []:=⟨by simp,(fun r hr=>bv hr),(fun r hr=>bv hr)⟩
 (refine bh (R0.bV "head" (-1) 0 ai hh) fun R1 e1=>?_)
 refine bh (R1.Ed ag 0 0 hg) fun R2 e2=>?_
 refine⟨R2,fun j=>?_⟩
 rw[show gZ ai ag=dt ag 0 0 (cM "head" (-1) 0 ai [])from rfl,e2 j,e1]
 simp[bS]
theorem uG(F:V8->Int)(l:Int)(aF:List V8):∀n,n<=aF.length->∃b,jo F l aF n=b/\b<=n/\(∀i,b<=i->i<n->F (aF.getD i 0)<l)/\(b=0∨¬F (aF.getD (b-1) 0)<l):=by
 intro zz
 induction zz with
 |zero=>
  intro _
  exact⟨0,rfl,Nat.le_refl _,fun i h1 h2=>absurd h2 (by exact Nat.not_lt.mpr ‹_›),.inl rfl⟩
 |succ n ih=>
  intro hn
  unfold jo
  by_cases q:F (aF.getD n 0)<l
  ·rw[if_pos q]
   refine iA (ih (by exact Ll hn)) fun b e h1 h2 h3=>?_
   refine⟨b,e,by exact Nat.le_succ_of_le ‹_›,fun i a1 a2=>?_,h3⟩
   by_cases z:i=n
   ·(clear a2 a1 h3 h2 h1 e b hn ih;subst z);exact q
   ·exact h2 i a1 (by exact Lk a2 z)
  ·rw[if_neg q]
   exact⟨n+1,rfl,Nat.le_refl _,fun i a1 a2=>absurd a2 (by exact Nat.not_lt.mpr ‹_›),.inr q⟩
theorem tV(F:V8->Int)(k:V8)(aF:List V8)(h:aF.Pairwise fun a b=>F b<=F a):(hY aF (jo F (F k) aF aF.length) k).Pairwise fun a b=>F b<=F a:=by
 refine iA (uG F (F k) aF aF.length (Nat.le_refl _)) fun b e h1 h2 h3=>?_
 rw[e]
 unfold hY
 have hs:=h
 rw[←List.take_append_drop b aF,List.pairwise_append]at h
 refine ci (h) fun s1 s2 s3=>?_;clear h
 have lo:∀x∈aF.drop b,F x<=F k:=fun x hx=>by
  obtain⟨i,hi,rfl⟩:=List.mem_iff_getElem.mp hx
  rw[List.length_drop]at hi
  have Ub:=Nat.add_lt_of_lt_sub' hi
  have:=h2 (b+i) (Nat.le_add_right _ _) Ub
  rw[List.getD_eq_getElem?_getD,List.getElem?_eq_getElem Ub]at this
  rw[List.getElem_drop]
  exact Int.le_of_lt this
 have Ol:∀x∈aF.take b,F k<=F x:=fun x hx=>by
  obtain⟨i,hi,rfl⟩:=List.mem_iff_getElem.mp hx
  rw[List.length_take,Nat.lt_min]at hi
  clear hx;rcases h3 with z|h3
  ·exact absurd (z▸hi.1) (Nat.not_lt_zero _)
  have hb:b-1<aF.length:=Nat.lt_of_lt_of_le (Nat.sub_one_lt (fun z=>Nat.not_lt_zero _ (z▸hi.1))) h1
  rw[List.getD_eq_getElem?_getD,List.getElem?_eq_getElem hb]at h3
  rw[List.getElem_take]
  have h4:F aF[b-1]<=F aF[i]:=by
   by_cases z:i=b-1
   ·subst z;exact Int.le_refl _
   ·exact List.pairwise_iff_getElem.mp hs i (b-1) hi.2 hb (Nat.lt_of_le_of_ne (Nat.le_sub_one_of_lt hi.1) z)
  exact Int.le_trans (Int.not_lt.mp h3) h4
 rw[List.pairwise_append]
 exact⟨s1,List.pairwise_cons.mpr ⟨lo,s2⟩,fun x hx y hy=>by
  clear lo h3 h2 e;rcases de hy with rfl|hy
  ·exact Ol x hx
  ·exact s3 x hx y hy⟩
theorem yA(aF:List V8)(n:Nat)(k:V8):(hY aF n k).Perm (k::aF):=by
 unfold hY
 have:=List.perm_middle (a:=k) (l₁:=aF.take n) (l₂:=aF.drop n)
 rwa [List.take_append_drop]at this
structure vX(rs:List Rec)(aF:List V8):Prop where
 nd:aF.Nodup
 so:aF.Pairwise fun a b=>(aP rs b).last<=(aP rs a).last
set_option tactic.hygienic true in
theorem wq(rs:List Rec):∀ (ks aF:List V8),ks.Nodup->(∀k∈ks,k∉aF)->vX rs aF->vX rs (dY rs ks aF)/\∀j,j∈dY rs ks aF↔(j∈aF∨(j∈ks/\(aP rs j).kind=.perm)):=by
 intro zz
 induction zz with
 |nil=>
  intro aF _ _ O
  exact⟨O,fun j=>by simp[dY]⟩
 |cons k ks ih=>
  intro aF nd hd O
  rw[List.nodup_cons]at nd
  have O1:vX rs (cD rs aF k)/\∀j,j∈cD rs aF k↔(j∈aF∨(j=k/\(aP rs k).kind=.perm)):=by
   unfold cD
   split
   ·rename_i q
    have P:=yA aF (jo (fun j=>(aP rs j).last) (aP rs k).last aF aF.length) k
    refine⟨⟨P.nodup_iff.mpr (List.nodup_cons.mpr ⟨hd k (.head _),O.nd⟩),tV (fun j=>(aP rs j).last) k aF O.so⟩,fun j=>?_⟩
    rw[P.mem_iff,List.mem_cons]
    simp[q,or_comm]
   ·rename_i q
    exact⟨O,fun j=>by simp[q]⟩
  refine bh (O1) ?_;clear O1;intro O1 e1
  obtain⟨O2,e2⟩:=ih (cD rs aF k) nd.2 (fun x hx h=>by
   clear O1;rcases(e1 x).mp h with h|⟨h,_⟩
   ·exact hd x (.tail _ hx) h
   ·(clear e1 hd;subst h);exact nd.1 hx) O1
  refine⟨O2,fun j=>?_⟩
  rw[show dY rs (k::ks) aF=dY rs ks (cD rs aF k)from rfl,e2,e1,List.mem_cons]
  constructor
  ·clear e2 O2 e1 O1 hd nd;rintro((h|⟨rfl,h⟩)|⟨h,h'⟩)
   ·exact .inl h
   ·exact .inr ⟨.inl rfl,h⟩
   ·exact .inr ⟨.inr h,h'⟩
  ·clear e2 O2 e1 O1 hd nd;rintro(h|⟨rfl|h,h'⟩)
   ·exact .inl (.inl h)
   ·exact .inl (.inr ⟨rfl,h'⟩)
   ·exact .inr ⟨h,h'⟩
theorem wC(k:V8):k∈Ca:=(show ∀x:V8,x∈Ca by decide) k
theorem fP{rs:List Rec}{k:V8}(h:bS k rs=false):aP rs k=Rec.new k "":=by
 unfold aP
 rw[List.find?_eq_none.mpr (fun r hr e=>by rw[bK.mpr ⟨r,hr,by simpa using e⟩]at h;(exact dH h))]
 rfl
theorem vc(ai:List Tm)(ag:List Goal):vX (dB ai ag) (bO ai ag)/\∀j,j∈bO ai ag↔(aP (dB ai ag) j).kind=.perm:=by
 have VH:(gL (dB ai ag)).Nodup:=List.Nodup.sublist List.filter_sublist (by decide)
 refine bh (wq (dB ai ag) (gL (dB ai ag)) [] VH (fun k _ h=>bv h) ⟨by simp,by simp⟩) fun O e=>?_
 refine⟨O,fun j=>?_⟩
 rw[show bO ai ag=dY (dB ai ag) (gL (dB ai ag)) []from rfl,e]
 refine⟨fun h=>?_,fun h=>.inr ⟨?_,h⟩⟩
 ·rcases h with h|⟨_,h⟩
  ·cases h
  ·exact h
 ·refine List.mem_filter.mpr ⟨wC j,?_⟩
  cases q:bS j (dB ai ag)with
  |true=>rfl
  |false=>rw[fP q]at h;cases h
noncomputable def eX:List V8->Int->V8->Int
 |[],n,_=>n
 |j::r,n,k=>if j=k then n+1 else eX r (n+1) k
theorem Hu:∀n k,eX [] n k=n:=fun _ _=>rfl
theorem hF:∀j r n k,eX (j::r) n k=if j=k then n+1 else eX r (n+1) k:=fun _ _ _ _=>rfl
theorem wc:∀ (ks:List V8) (n:Int) (k:V8),n<=eX ks n k:=by
 intro zz
 induction zz with
 |nil=>
  intro n k
  exact Int.le_refl _
 |cons j r ih=>
  intro n k
  rw[hF]
  split
  ·exact Ag
  ·have:=ih (n+1) k;exact vP this
set_option tactic.hygienic true in
theorem lP:∀ (ks:List V8) (n:Int) (k:V8),k∈ks->n<eX ks n k:=by
 intro zz
 induction zz with
 |nil=>
  intro n k h
  exact bv h
 |cons x r ih=>
  intro n k h
  rw[hF]
  split
  ·exact vO
  ·rename_i q
   have BC:k∈r:=by rcases de h with h|h;exact absurd h.symm q;exact h
   have:=ih (n+1) k BC;exact Lj this
theorem tW:∀ (ks:List V8) (n:Int) (j k:V8),j∈ks->k∈ks->eX ks n j=eX ks n k->j=k:=by
 intro zz
 induction zz with
 |nil=>
  intro n j k h _ _
  exact bv h
 |cons x r ih=>
  intro n j k hj hk e
  rw[hF,hF]at e
  by_cases q:x=j
  ·by_cases q':x=k
   ·rw[←q,q']
   ·rw[if_pos q,if_neg q']at e
    have:=wc r (n+1) k
    have BC:k∈r:=by rcases de hk with h|h;exact absurd h.symm q';exact h
    have h2:n+1<eX r (n+1) k:=lP r (n+1) k BC
    lia
  ·by_cases q':x=k
   ·rw[if_neg q,if_pos q']at e
    have JQ:j∈r:=by rcases de hj with h|h;exact absurd h.symm q;exact h
    have h2:n+1<eX r (n+1) j:=lP r (n+1) j JQ
    lia
   ·rw[if_neg q,if_neg q']at e
    have BC:k∈r:=by rcases de hk with h|h;exact absurd h.symm q';exact h
    have JQ:j∈r:=by rcases de hj with h|h;exact absurd h.symm q;exact h
    exact ih (n+1) j k JQ BC e
theorem ir{k j:V8}{f:Rec->Rec}(hf:∀r,(f r).k=r.k)(n:j≠k)(rs:List Rec):aP (jU k f rs) j=aP rs j:=by
 cases q:bS j rs with
 |true=>rw[gF hf rs q,if_neg n]
 |false=>rw[fP q,fP (by rw[f8 hf];exact q)]
theorem rX:∀ (ks:List V8) (n:Int) (rs:List Rec) (k:V8),ks.Nodup->(∀j∈ks,bS j rs=true)->aP (fu ks n rs) k=if k∈ks then fN (eX ks n k) (aP rs k)else aP rs k:=by
 intro zz
 induction zz with
 |nil=>
  intro n rs k _ _
  (rfl)
 |cons x ks ih=>
  intro n rs k nd h
  rw[List.nodup_cons]at nd
  have hf:∀r,(fN (n+1) r).k=r.k:=fun _=>rfl
  rw[show fu (x::ks) n rs=fu ks (n+1) (jU x (fN (n+1)) rs)from rfl,ih (n+1) _ k nd.2 (fun j hj=>by rw[f8 hf];exact h j (.tail _ hj))]
  by_cases q:k=x
  ·subst q
   rw[if_neg nd.1,if_pos (.head _),gF hf rs (h k (.head _)),if_pos rfl,hF,if_pos rfl]
  ·rw[ir hf q]
   by_cases z:k∈ks
   ·rw[if_pos z,if_pos (.tail _ z),hF,if_neg (fun y=>q y.symm)]
   ·rw[if_neg z,if_neg (fun y=>by rcases de y with y|y;exact q y;exact z y)]
theorem uj{Kp:V8->Prop}:∀ (ks:List V8) {rs:List Rec},(rs.map (·.k)).Nodup->(∀r∈rs,r.slot=0/\Kp r.k)->((fx ks rs).map (·.k)=rs.map (·.k))/\∀r∈fx ks rs,r.slot=0/\Kp r.k:=by
 intro zz
 induction zz with
 |nil=>
  intro rs nd h
  exact⟨rfl,h⟩
 |cons k ks ih=>
  intro rs nd h
  have e:(jU k fM rs).map (·.k)=rs.map (·.k):=f7 (f:=fM) (fun _=>rfl) rs
  refine bh (ih (rs:=jU k fM rs) (by rw[e];exact nd) (kM (f:=fM) (C:=fun r=>r.slot=0/\Kp r.k) (fun r h=>h) h)) ?_;intro a b
  exact⟨a.trans e,b⟩
theorem t0{rs:List Rec}(nd:(rs.map (·.k)).Nodup){r:Rec}(hr:r∈rs):aP rs r.k=r:=by
 have hk:bS r.k rs=true:=bK.mpr ⟨r,hr,rfl⟩
 refine bh (du hk) fun h1 h2=>?_
 clear hk
 revert h1 h2
 generalize aP rs r.k=x
 intro h1 h2
 induction rs with
 |nil=>cases hr
 |cons y l ih=>
  rw[List.map_cons,List.nodup_cons]at nd
  rcases de h1 with h|h
  ·rcases de hr with h'|h'
   ·rw[h,h']
   ·exact absurd (List.mem_map.mpr ⟨r,h',by rw[←h2,h]⟩) nd.1
  ·rcases de hr with h'|h'
   ·exact absurd (List.mem_map.mpr ⟨x,h,by rw[h2,h']⟩) nd.1
   ·exact ih nd.2 h' h
structure NQ(Kp:V8->Prop)(ai:List Tm)(ag:List Goal):Prop where
 nd:((cL ai ag).map (·.k)).Nodup
 kp:∀r∈cL ai ag,Kp r.k
 has:∀j,bS j (cL ai ag)=true↔((∃t∈ai,j∈t.occs)∨∃g∈ag,sN g j)
 at2:∀k,aP (cL ai ag) k=if(aP (dB ai ag) k).kind=.perm then fN (eX (bO ai ag) 0 k) (aP (dB ai ag) k)else aP (dB ai ag) k
 z:∀k,(aP (dB ai ag) k).slot=0
theorem QY{Kp:V8->Prop}{ai:List Tm}{ag:List Goal}(hh:∀t∈ai,∀k∈t.occs,Kp k)(hg:∀g∈ag,∀k,sN g k->Kp k):NQ Kp ai ag:=by
 refine bh (rS Kp ai ag hh hg) fun R e=>?_
 refine bh (uj (Kp:=Kp) ((gZ ai ag).map (·.k)) R.nd (fun r hr=>⟨(R.z r hr).1,R.kp r hr⟩)) fun k1 k2=>?_
 change(dB ai ag).map (·.k)=_ at k1
 change ∀r∈dB ai ag,_ at k2
 have e2:(cL ai ag).map (·.k)=(dB ai ag).map (·.k):=kC (bO ai ag) 0 _
 refine bh (vc ai ag) fun O eo=>?_
 have hs:∀j∈bO ai ag,bS j (dB ai ag)=true:=fun j hj=>by
  cases q:bS j (dB ai ag)with
  |true=>rfl
  |false=>rw[eo,fP q]at hj;cases hj
 have hk:∀ {rs xo:List Rec},rs.map (·.k)=xo.map (·.k)->∀j,bS j rs=bS j xo:=fun {rs xo} h j=>by
  rw[Bool.eq_iff_iff,bK,bK]
  have e:∀l:List Rec,(∃r∈l,r.k=j)↔j∈l.map (·.k):=fun l=>by simp[List.mem_map]
  rw[e,e,h]
 refine⟨by rw[e2,k1];exact R.nd,fun r hr=>?_,fun j=>?_,fun k=>?_,fun k=>?_⟩
 ·have:r.k∈(dB ai ag).map (·.k):=by rw[←e2];exact List.mem_map.mpr ⟨r,hr,rfl⟩
  refine aA (List.mem_map.mp this) fun x hx ex=>?_
  rw[←ex];exact(k2 x hx).2
 ·rw[hk (e2.trans k1) j,e]
 ·rw[show cL ai ag=fu (bO ai ag) 0 (dB ai ag)from rfl,rX _ 0 _ k O.nd hs]
  by_cases q:k∈bO ai ag
  ·rw[if_pos q,if_pos ((eo k).mp q)]
  ·rw[if_neg q,if_neg (fun z=>q ((eo k).mpr z))]
 ·cases q:bS k (dB ai ag)with
  |true=>exact(k2 _ (du q).1).1
  |false=>rw[fP q];rfl
where kC:∀ (ks:List V8) (n:Int) (rs:List Rec),(fu ks n rs).map (·.k)=rs.map (·.k)
 |[],_,_=>rfl
 |k::ks,n,rs=>by
  show(fu ks (n+1) (jU k (fN (n+1)) rs)).map (·.k)=_
  rw[kC ks,f7 (f:=fN (n+1)) (fun _=>rfl)]
theorem vx{p q:Prop}[Decidable p][Decidable q]{a b:Int}(h:p↔q):(if p then a else b)=if q then a else b:=by
 by_cases z:p
 ·rw[if_pos z,if_pos (h.mp z)]
 ·rw[if_neg z,if_neg fun y=>z (h.mpr y)]
theorem xj(k j:V8)(cs:bF):cG (j9 (vi k) cs) (vi j)=cG cs (vi j)+if j=k then 1 else 0:=by
 induction cs with
 |nil=>
  show(List.lookup (vi j) [(vi k,1)]).getD 0=0+_
  by_cases q:j=k
  ·rw[q,if_pos rfl,List.lookup_cons,beq_self_eq_true];rfl
  ·rw[if_neg q,List.lookup_cons,beq_false_of_ne fun z=>q (gh z)];rfl
 |cons x r ih=>
  obtain⟨i,n⟩:=x
  unfold cG at ih⊢
  by_cases h:i=vi k
  ·rw[show j9 (vi k) ((i,n)::r)=(i,n+1)::r from if_pos h,List.lookup_cons,List.lookup_cons]
   by_cases q:j=k
   ·rw[q,h,if_pos rfl,beq_self_eq_true];rfl
   ·rw[h,if_neg q,beq_false_of_ne fun z=>q (gh z)];rfl
  ·rw[show j9 (vi k) ((i,n)::r)=(i,n)::j9 (vi k) r from if_neg h,List.lookup_cons,List.lookup_cons]
   cases z:vi j==i with
   |true=>rw[if_neg fun y=>h (by rw[←eq_of_beq z,y])];rfl
   |false=>exact ih
theorem pi(j:V8):∀ (ks:List V8) (cs:bF),cG (gc ks cs) (vi j)=cG cs (vi j)+ks.count j:=by
 intro ks
 induction ks with
 |nil=>exact fun _=>rfl
 |cons k r ih=>
  intro cs
  rw[show gc (k::r) cs=gc r (j9 (vi k) cs)from rfl,ih,xj,List.count_cons]
  by_cases q:j=k
  ·rw[if_pos q,q,beq_self_eq_true];simp;exact Ds
  ·rw[if_neg q,beq_false_of_ne (Ne.symm q)];(rfl)
noncomputable def gN(rs:List Rec)(j:V8):Int:=(aP rs j).count
theorem om(x:Rec)(j:V8)(rs:List Rec)(h:bS x.k rs=false):aP (rs++[x]) j=if j=x.k then x else aP rs j:=by
 unfold aP
 rw[List.find?_append]
 by_cases q:j=x.k
 ·rw[if_pos q,q,List.find?_eq_none.mpr (fun r hr e=>by rw[bK.mpr ⟨r,hr,by simpa using e⟩]at h;(exact dH h))]
  simp
 ·rw[if_neg q]
  cases (rs.find? fun r=>decide (r.k=j))with
  |some y=>rfl
  |none=>
   simp
   rw[if_neg fun z=>q (Eq.symm z)]
   rfl
theorem pf(k j:V8)(fs:Str)(g c n:Int)(rs:List Rec):gN (c9 k fs g c n rs) j=gN rs j+if j=k then n else 0:=by
 have hf:∀r,(Rec.met g c n r).k=r.k:=fun _=>rfl
 unfold gN
 cases hk:bS k rs with
 |true=>
  rw[show c9 k fs g c n rs=jU k (Rec.met g c n) rs by unfold c9;rw[hk];rfl]
  by_cases q:j=k
  ·rw[q,gF hf rs hk,if_pos rfl,if_pos rfl];rfl
  ·rw[ir hf q,if_neg q,Int.add_zero]
 |false=>
  refine aN ((⟨{ Rec.new k fs with fc:=c },rfl,rfl,by unfold c9;rw[hk];rfl⟩:∃x:Rec,x.k=k/\x.count=0/\c9 k fs g c n rs=jU k (Rec.met g c n) (rs++[x]))) ?_;intro x xk xc e
  rw[e]
  have BC:=hk
  rw[←xk]at BC
  by_cases q:j=k
  ·rw[q,gF hf _ (bK.mpr ⟨x,List.mem_append_right _ (.head _),xk⟩),if_pos rfl,if_pos rfl,om _ _ _ BC,if_pos xk.symm,fP hk]
   show x.count+n=0+n
   rw[xc]
  ·rw[ir hf q,if_neg q,Int.add_zero,om _ _ _ BC,if_neg fun z=>q (z.trans xk)]
theorem xf(pl:Str)(g c:Int)(t:Tm)(j:V8):∀ (l s:List V8) (rs:List Rec),gN (cV pl g c t (d9 s l) rs) j=gN rs j+if j∈l/\j∉s then(t.occs.count j:Int)else 0:=by
 intro l
 induction l with
 |nil=>
  intro s rs
  rw[if_neg fun h=>nomatch h.1]
  exact(Int.add_zero _).symm
 |cons k r ih=>
  intro s rs
  rw[fy]
  by_cases q:k∈s
  ·rw[if_pos q,ih]
   congr 1
   refine vx ⟨fun h=>⟨.tail _ h.1,h.2⟩,fun h=>⟨?_,h.2⟩⟩
   rcases de h.1 with z|z
   ·exact absurd (z▸q) h.2
   ·exact z
  ·rw[if_neg q]
   show gN (cV pl g c t (d9 (k::s) r) (c9 k _ g c _ rs)) j=_
   rw[ih,pf,Int.add_assoc]
   congr 1
   by_cases z:j=k
   ·subst z
    rw[if_pos rfl,if_neg fun h=>h.2 (.head _),if_pos ⟨.head _,q⟩,Int.add_zero]
   ·rw[if_neg z,Int.zero_add]
    refine vx ⟨fun h=>⟨.tail _ h.1,fun y=>h.2 (.tail _ y)⟩,fun h=>⟨(de h.1).resolve_left z,fun y=>(de y).elim z h.2⟩⟩
theorem qg(pl:Str)(g c:Int)(j:V8):∀ (ts:List Tm) (rs:List Rec),gN (cM pl g c ts rs) j=gN rs j+((ts.flatMap Tm.occs).count j:Int):=by
 intro ts
 induction ts with
 |nil=>intro rs;exact(Int.add_zero _).symm
 |cons t r ih=>
  intro rs
  have go:∀t:Tm,gN (cV pl g c t t.vars rs) j=gN rs j+(t.occs.count j:Int):=fun t=>by
   show gN (cV pl g c t (d9 [] t.occs) rs) j=_
   rw[xf]
   by_cases z:j∈t.occs
   ·rw[if_pos ⟨z,List.not_mem_nil⟩]
   ·rw[if_neg fun h=>z h.1,List.count_eq_zero.mpr z];rfl
  rw[show cM pl g c (t::r) rs=cM pl g c r (match t with|.v k=>c9 k (pl++"_arg") g c 1 rs|t=>cV pl g c t t.vars rs)from rfl,ih,List.flatMap_cons,List.count_append]
  have e:gN (match t with|.v k=>c9 k (pl++"_arg") g c 1 rs|t=>cV pl g c t t.vars rs) j=gN rs j+(t.occs.count j:Int):=by
   cases t with
   |v k=>
    refine(pf k j _ g c 1 rs).trans ?_
    show _=gN rs j+(List.count j [k]:Int)
    rw[List.count_singleton]
    by_cases z:j=k
    ·rw[if_pos z,z,beq_self_eq_true];rfl
    ·rw[if_neg z,beq_false_of_ne (Ne.symm z)];rfl
   |a n=>exact go (.a n)
   |i n=>exact go (.i n)
   |s1 u=>exact go (.s1 u)
   |s2 f u w=>exact go (.s2 f u w)
  rw[e]
  exact C7
theorem zT(g:Goal)(hp:g.plain=true)(i c:Int)(j:V8)(rs:List Rec):gN (cM "goal" i c g.bV (cw g i c rs)) j=gN rs j+(g.nums.count j:Int):=by
 rw[qg]
 have one:∀k:V8,gN (c9 k "special" i c 1 rs) j+(([]:List Tm).flatMap Tm.occs).count j=gN rs j+(List.count j [k]:Int):=fun k=>by
  rw[pf,List.count_singleton,show(([]:List Tm).flatMap Tm.occs).count j=0 from rfl]
  by_cases z:j=k
  ·rw[if_pos z,z,beq_self_eq_true];exact Int.add_zero _
  ·rw[if_neg z,beq_false_of_ne (Ne.symm z)];exact Int.add_zero _
 cases g with
 |unify l r=>(exact bI hp)
 |level k=>exact one k
 |mark k=>exact one k
 |eA k=>exact one k
 |_=>rfl
theorem uB(j:V8):∀ (gs:List Goal),(∀g∈gs,g.plain=true)->∀ (i c:Int) (rs:List Rec),gN (dt gs i c rs) j=gN rs j+((gs.flatMap Goal.nums).count j:Int):=by
 intro gs
 induction gs with
 |nil=>intro _ i c rs;exact(Int.add_zero _).symm
 |cons g r ih=>
  intro hp i c rs
  rw[show dt (g::r) i c rs=dt r (i+1) (if g.isCall then c+1 else c) (cM "goal" i c g.bV (cw g i c rs))from rfl,ih (fun x hx=>hp x (.tail _ hx)),zT g (hp g (.head _)),List.flatMap_cons,List.count_append]
  exact C7
theorem wS(j:V8):∀ (ai:List Tm) (cs:bF),cG (gR ai cs) (vi j)=cG cs (vi j)+(ai.flatMap Tm.occs).count j:=by
 intro ai cs
 rw[gM,pi]
theorem wV(j:V8):∀ (gs:List Goal) (cs:bF),cG (oQ gs cs) (vi j)=cG cs (vi j)+(gs.flatMap Goal.nums).count j:=by
 intro gs
 induction gs with
 |nil=>exact fun _=>rfl
 |cons g r ih=>
  intro cs
  rw[show oQ (g::r) cs=oQ r (gc g.nums cs)from rfl,ih,pi,List.flatMap_cons,List.count_append]
  exact Li
theorem B0(ai:List Tm)(ag:List Goal)(hp:∀g∈ag,g.plain=true)(j:V8):gN (gZ ai ag) j=(cG (dN ai ag) (vi j):Int)/\cG (dN ai ag) (vi j)=(ai.flatMap Tm.occs).count j+(ag.flatMap Goal.nums).count j:=by
 have e:cG (dN ai ag) (vi j)=(ai.flatMap Tm.occs).count j+(ag.flatMap Goal.nums).count j:=by
  show cG (oQ ag (gR ai [])) (vi j)=_
  rw[wV,wS]
  show 0+_+_=_
  exact Lh
 refine⟨?_,e⟩
 rw[e]
 show gN (dt ag 0 0 (cM "head" (-1) 0 ai [])) j=_
 rw[uB j ag hp,qg]
 show(0:Int)+_+_=_
 exact Lf
noncomputable def mZ(n:Int):List Atom:=[.s "y",.i n]
noncomputable def kK(es:List (List Atom×AV))(r:Rec):List (List Atom×AV):=if 0<r.slot then bZ (mZ r.slot) (.int (vi r.k)) es else es
noncomputable def hG:Nat->List (List Atom×AV)
 |0=>[]
 |n+1=>bZ (dz n) (.int n) (hG n)
noncomputable def jD(rs:List Rec):List (List Atom×AV):=rs.foldl kK (hG 7)
theorem xV{m n:Int}(h:mZ m=mZ n):m=n:=by
 injection h with _ h
 injection h with h
 injection h
theorem uY(i:Int):∀n:Nat,(hG n).lookup (dz i)=if 0<=i/\i<n then some (.int i)else none:=by
 intro n
 induction n with
 |zero=>rw[if_neg (by exact Ld)];rfl
 |succ n ih=>
  rw[hG,dT,ih]
  by_cases q:i=n
  ·rw[if_pos (by rw[q]),if_pos (by exact Lc q),q]
  ·rw[if_neg fun z=>q (nV z)]
   by_cases c:0<=i/\i<n
   ·rw[if_pos c,if_pos (by exact Lb c)]
   ·rw[if_neg c,if_neg (by exact La q c)]
theorem uZ{k:List Atom}(h:∀n,k≠dz n):∀n:Nat,(hG n).lookup k=none:=by
 intro n
 induction n with
 |zero=>rfl
 |succ n ih=>rw[hG,dT,if_neg (h _),ih]
theorem qA{k:List Atom}(h:∀n,k≠mZ n):∀ (rs:List Rec) (es:List (List Atom×AV)),(rs.foldl kK es).lookup k=es.lookup k:=by
 intro rs
 induction rs with
 |nil=>exact fun _=>rfl
 |cons r rs ih=>
  intro es
  rw[List.foldl_cons,ih]
  unfold kK
  split
  ·rw[dT,if_neg (h _)]
  ·rfl
set_option tactic.hygienic true in
theorem Ei(n:Int)(k:V8):∀ (rs:List Rec) (es:List (List Atom×AV)),(∀r∈rs,0<r.slot->r.slot=n->r.k=k)->(es.lookup (mZ n)=some (.int (vi k))∨∃r∈rs,0<r.slot/\r.slot=n)->(rs.foldl kK es).lookup (mZ n)=some (.int (vi k)):=by
 intro rs
 induction rs with
 |nil=>
  intro es _ h
  rcases h with h|⟨r,hr,_⟩
  ·exact h
  ·cases hr
 |cons r rs ih=>
  intro es h h'
  rw[List.foldl_cons]
  refine ih _ (fun x hx=>h x (.tail _ hx)) ?_
  unfold kK
  by_cases q:0<r.slot/\r.slot=n
  ·left
   rw[if_pos q.1,dT,if_pos (by rw[q.2]),h r (.head _) q.1 q.2]
  ·clear h;rcases h' with h'|⟨x,hx,h1,h2⟩
   ·left
    split
    ·rename_i q1
     rw[dT,if_neg (fun z=>q ⟨q1,(xV z).symm⟩)]
     exact h'
    ·exact h'
   ·rcases de hx with rfl|hx
    ·exact absurd ⟨h1,h2⟩ q
    ·exact .inr ⟨x,hx,h1,h2⟩
theorem Cr(m n:Int):mZ m≠dz n:=fun z=>by injection z with z _;injection z with z;exact absurd z (by decide)
theorem Kw(m n:Int):([.s "a",.i m]:List Atom)≠dz n:=fun z=>by injection z with z _;injection z with z;exact absurd z (by decide)
theorem Kv(m n:Int):([.s "a",.i m]:List Atom)≠mZ n:=fun z=>by injection z with z _;injection z with z;exact absurd z (by decide)
theorem Jm(c m n:Int):([.i c,.i m]:List Atom)≠dz n:=fun z=>by injection z with z _;cases z
theorem Jl(c m n:Int):([.i c,.i m]:List Atom)≠mZ n:=fun z=>by injection z with z _;cases z
theorem zn{k:V8}:∀ (ks:List V8) {rs:List Rec},bS k rs=true->k∈ks->(aP (fx ks rs) k).kind=iy (aP rs k):=by
 intro ks
 have OO:∀ (ks:List V8) {rs:List Rec},bS k rs=true->(aP rs k).kind=iy (aP rs k)->(aP (fx ks rs) k).kind=iy (aP rs k):=fun ks=>by
  induction ks with
  |nil=>exact fun _ h=>h
  |cons j ks ih=>
   intro rs hk h
   show(aP (fx ks (jU j fM rs)) k).kind=_
   have hf:∀r,(fM r).k=r.k:=fun _=>rfl
   have e:=gF (k:=j) hf rs hk
   by_cases q:k=j
   ·rw[if_pos q]at e
    rw[ih (by rw[f8 hf];exact hk) (by rw[e];rfl),e]
    rfl
   ·rw[if_neg q]at e
    rw[ih (by rw[f8 hf];exact hk) (by rw[e];exact h),e]
 induction ks with
 |nil=>exact fun _ h=>bv h
 |cons j ks ih=>
  intro rs hk h
  have hf:∀r,(fM r).k=r.k:=fun _=>rfl
  show(aP (fx ks (jU j fM rs)) k).kind=_
  have e:=gF (k:=j) hf rs hk
  by_cases q:k=j
  ·rw[if_pos q]at e
   rw[OO ks (by rw[f8 hf];exact hk) (by rw[e];rfl),e]
   rfl
  ·rw[if_neg q]at e
   rw[ih (by rw[f8 hf];exact hk) ((de h).resolve_left q),e]
theorem hJ{g:Goal}(hp:g.plain=true)(j:V8):sN g j↔j∈g.nums:=by
 have neg:∀t:List Tm,((-1:Int)=vi j∨∃x∈t,j∈x.occs)↔j∈t.flatMap Tm.occs:=fun t=>by
  rw[List.mem_flatMap]
  exact⟨fun h=>h.resolve_left fun z=>by have:=hA j;exact K8 z this,.inr⟩
 have one:∀k:V8,(vi k=vi j∨∃x∈([]:List Tm),j∈x.occs)↔j∈[k]:=fun k=>by
  rw[List.mem_singleton]
  exact⟨fun h=>h.elim (fun z=>(gh z).symm) (fun ⟨_,h,_⟩=>bv h),fun h=>.inl (by rw[h])⟩
 cases g with
 |unify l r=>(exact bI hp)
 |call f as=>exact neg as
 |builtin f as=>exact neg as
 |cut=>exact neg []
 |level k=>exact one k
 |mark k=>exact one k
 |eA k=>exact one k
set_option tactic.hygienic true in
theorem Eh{ai:List Tm}{ag:List Goal}(hh:∀t∈ai,∀k∈t.occs,k.val<7)(hg:∀g∈ag,g.plain=true/\∀k∈g.nums,k.val<7):
 dd (jD (cL ai ag)) (fw ai ag) (dN ai ag) (fun k=>(fw ai ag).pc k=true)/\(∀k,(fw ai ag).pc k=true->1<=cG (dN ai ag) (vi k))/\(∀t∈ai,∀k∈t.occs,(fw ai ag).pc k=true)/\∀g∈ag,∀k∈g.nums,(fw ai ag).pc k=true:=by
 have F:NQ (fun k=>k.val<7) ai ag:=QY hh fun g iK k hk=>(hg g iK).2 k ((hJ (hg g iK).1 k).mp hk)
 refine bh (vc ai ag) fun O eo=>?_
 have BI:∀k,(fw ai ag).pc k=true↔((∃t∈ai,k∈t.occs)∨∃g∈ag,k∈g.nums):=fun k=>by
  refine(F.has k).trans ⟨fun h=>h.imp id fun ⟨g,h1,h2⟩=>⟨g,h1,(hJ (hg g h1).1 k).mp h2⟩,fun h=>h.imp id fun ⟨g,h1,h2⟩=>⟨g,h1,(hJ (hg g h1).1 k).mpr h2⟩⟩
 have VV:∀k,(fw ai ag).pc k=true->k.val<7:=fun k h=>by
  rcases(BI k).mp h with⟨t,h1,h2⟩|⟨g,h1,h2⟩
  ·exact hh t h1 k h2
  ·exact(hg g h1).2 k h2
 have uC:=B0 ai ag fun g h=>(hg g h).1
 have CO:∀k,(fw ai ag).kind k=(aP (dB ai ag) k).kind:=fun k=>by
  show(aP (cL ai ag) k).kind=_
  rw[F.at2 k]
  split<;>rfl
 have QN:∀k,(fw ai ag).pc k=true->bS k (gZ ai ag)=true:=fun k h=>by
  refine bh (rS (fun k=>k.val<7) ai ag hh fun g iK k hk=>(hg g iK).2 k ((hJ (hg g iK).1 k).mp hk)) fun _ e=>?_
  exact(e k).mpr ((F.has k).mp h)
 refine⟨⟨fun k hk hv=>?_,fun m hm=>?_,fun m=>?_,fun c m=>?_,fun k hk=>?_⟩,fun k hk=>?_,fun t ht k hk=>(BI k).mpr (.inl ⟨t,ht,hk⟩),fun g iK k hk=>(BI k).mpr (.inr ⟨g,iK,hk⟩)⟩
 ·unfold aX.place
  split
  ·rename_i hp
   show(jD (cL ai ag)).lookup (mZ ((fw ai ag).slot k))=_
   have JO:(aP (dB ai ag) k).kind=.perm:=by rw[←CO];exact hp
   have TU:=(eo k).mpr JO
   have e2:=F.at2 k
   rw[if_pos JO]at e2
   have es:(aP (cL ai ag) k).slot=eX (bO ai ag) 0 k:=by rw[e2];rfl
   have pos:0<eX (bO ai ag) 0 k:=lP (bO ai ag) 0 k TU
   refine bh (du (show bS k (cL ai ag)=true from hk)) fun m1 m2=>?_
   refine Ei _ k _ _ (fun r hr h1 h2=>?_) (.inr ⟨_,m1,by rw[es];exact pos,rfl⟩)
   have er:=t0 F.nd hr
   have e3:=F.at2 r.k
   rw[er]at e3
   by_cases q:(aP (dB ai ag) r.k).kind=.perm
   ·rw[if_pos q]at e3
    have e4:r.slot=eX (bO ai ag) 0 r.k:=congrArg Rec.slot e3
    refine tW (bO ai ag) 0 _ _ ((eo _).mpr q) TU ?_
    rw[←e4,h2]
    exact es
   ·rw[if_neg q]at e3
    have e4:r.slot=(aP (dB ai ag) r.k).slot:=congrArg Rec.slot e3
    rw[e4,F.z r.k]at h1
    cases h1
  ·show(jD (cL ai ag)).lookup (dz (vi k))=_
   unfold jD
   rw[qA fun n z=>Cr n _ z.symm,uY,if_pos]
   exact⟨(hA k).1,Int.ofNat_lt.mpr (VV k hk)⟩
 ·show(jD (cL ai ag)).lookup (dz m)=none
  unfold jD
  rw[qA fun n z=>Cr n _ z.symm,uY,if_neg (by exact K7 hm)]
 ·show(jD (cL ai ag)).lookup [.s "a",.i m]=none
  unfold jD
  rw[qA fun n=>Kv m n,uZ fun n=>Kw m n]
 ·show(jD (cL ai ag)).lookup [.i c,.i m]=none
  unfold jD
  rw[qA fun n=>Jl c m n,uZ fun n=>Jm c m n]
 ·show decide ((fw ai ag).kind k=.void)=_
  have hm:=QN k hk
  rw[CO,show dB ai ag=fx ((gZ ai ag).map (·.k)) (gZ ai ag)from rfl,zn _ hm (by(refine aA (bK.mp hm) fun r hr e=>?_);exact List.mem_map.mpr ⟨r,hr,e⟩)]
  have c1:=(uC k).1
  unfold gN at c1
  refine decide_eq_decide.mpr ?_
  unfold iy
  rw[c1]
  by_cases z:cG (dN ai ag) (vi k)=1
  ·rw[if_pos (by rw[z];rfl)]
   exact⟨fun _=>z,fun _=>rfl⟩
  ·rw[if_neg (by exact KZ z)]
   refine⟨fun h=>?_,fun h=>absurd h z⟩
   split at h<;>cases h
 ·rw[(uC k).2]
  rcases(BI k).mp hk with⟨t,h1,h2⟩|⟨g,h1,h2⟩
  ·have:0<(ai.flatMap Tm.occs).count k:=List.count_pos_iff.mpr (List.mem_flatMap.mpr ⟨t,h1,h2⟩)
   exact d6 ‹_› (Nat.le_add_right _ _)
  ·have:0<(ag.flatMap Goal.nums).count k:=List.count_pos_iff.mpr (List.mem_flatMap.mpr ⟨g,h1,h2⟩)
   exact KY this
noncomputable def pk(cs:bF):Tm->PyData
 |.v k=>.tuple [.str "v",.int (if cG cs (vi k)=1 then -1 else vi k)]
 |.a n=>.tuple [.str "a",.int n]
 |.i n=>.tuple [.str "i",.int n]
 |.s1 t=>.tuple [.str "s",.int 12,.tuple [pk cs t]]
 |.s2 f t u=>.tuple [.str "s",.int (Tm.fn (.s2 f t u)),.tuple [pk cs t,pk cs u]]
noncomputable def wW(cs:bF):Goal->PyData
 |.call f as=>.tuple [.str "call",.int f,.list (as.map (pk cs))]
 |.builtin f as=>.tuple [.str "builtin",.int f,.list (as.map (pk cs))]
 |.level k=>.tuple [.str "level",.int (vi k)]
 |.mark k=>.tuple [.str "mark",.int (vi k)]
 |.eA k=>.tuple [.str "cutto",.int (vi k)]
 |_=>.tuple [.str "cut"]
theorem ri(cs:bF)(H:ah)(t:Tm):DA H (pk cs t) (ce cs t).av:=by
 induction t with
 |s1 t ih=>exact⟨_,rfl,_,_,rfl,rfl,_,_,rfl,rfl,_,_,rfl,⟨_,rfl,_,_,rfl,ih,rfl⟩,rfl⟩
 |s2 f t u Jv Ju=>exact⟨_,rfl,_,_,rfl,rfl,_,_,rfl,rfl,_,_,rfl,⟨_,rfl,_,_,rfl,Jv,_,_,rfl,Ju,rfl⟩,rfl⟩
 |_=>exact⟨_,rfl,_,_,rfl,rfl,_,_,rfl,rfl,rfl⟩
def rA(d:PyData)(n:Nat):Prop:=d.canLay0=true/\d.depth<=n
def rt(ds:List PyData)(n:Nat):Prop:=PyData.canLayAll0 ds=true/\PyData.depthAll ds<=n
theorem rt.nil{n:Nat}:rt [] n:=⟨rfl,Nat.zero_le _⟩
theorem rt.cons{d:PyData}{ds:List PyData}{n:Nat}(h:rA d n)(k:rt ds n):rt (d::ds) n:=⟨by rw[PyData.canLayAll0,h.1,k.1];rfl,Nat.max_le.mpr ⟨h.2,k.2⟩⟩
theorem rA.tuple{ds:List PyData}{n:Nat}(h:rt ds n):rA (.tuple ds) (n+1):=⟨by rw[PyData.canLay0];exact h.1,by rw[PyData.depth];exact Nat.succ_le_succ h.2⟩
theorem rA.list{ds:List PyData}{n:Nat}(h:rt ds n):rA (.list ds) (n+1):=⟨by rw[PyData.canLay0];exact h.1,by rw[PyData.depth];exact Nat.succ_le_succ h.2⟩
theorem rA.int{i:Int}{n:Nat}:rA (.int i) n:=⟨rfl,Nat.zero_le _⟩
theorem rA.str{s:Str}{n:Nat}(h:PyData.strOk s=true):rA (.str s) n:=⟨h,Nat.zero_le _⟩
theorem rA.mono{d:PyData}{m n:Nat}(h:rA d m)(k:m<=n):rA d n:=⟨h.1,d6 h.2 k⟩
theorem rA.pair{s:Str}{i:Int}{n:Nat}(h:PyData.strOk s=true):rA (.tuple [.str s,.int i]) (n+1):=.tuple (.cons (.str h) (.cons .int .nil))
theorem rA.AW{s:Str}{i:Int}{d:PyData}{n:Nat}(h:PyData.strOk s=true)(k:rA d n):rA (.tuple [.str s,.int i,d]) (n+1):=.tuple (.cons (.str h) (.cons .int (.cons k .nil)))
theorem vL(cs:bF)(t:Tm):rA (pk cs t) (2*t.size):=by
 induction t with
 |s1 t ih=>exact .AW (by kernel_rfl) (.tuple (.cons ih .nil))
 |s2 f t u Jv Ju=>exact .AW (by kernel_rfl) (.tuple (.cons (Jv.mono (Nat.mul_le_mul_left 2 (Nat.le_add_right _ _))) (.cons (Ju.mono (Nat.mul_le_mul_left 2 (Nat.le_add_left _ _))) .nil)))
 |_=>exact .pair (by kernel_rfl)
theorem z9(cs:bF)(H:ah):∀as:List Tm,xz H (as.map (pk cs)) (iH (as.map (ce cs))):=by
 intro as
 induction as with
 |nil=>exact rfl
 |cons t r ih=>exact⟨_,_,rfl,ri cs H t,ih⟩
theorem tf(cs:bF){n:Nat}:∀as:List Tm,(∀t∈as,t.size<=n)->rt (as.map (pk cs)) (2*n):=by
 intro as
 induction as with
 |nil=>exact fun _=>.nil
 |cons t r ih=>exact fun h=>.cons ((vL cs t).mono (Nat.mul_le_mul_left 2 (h t (.head _)))) (ih fun x hx=>h x (.tail _ hx))
theorem BO(cs:bF){off:Addr->Prop}{H:ah}{v:AV}{g:Goal}(h:lq off H v (na cs g)):DA H (wW cs g) v:=by
 have tl:∀ {b f} {as:List Tm},lq off H v (.t b f (as.map (ce cs)))->DA H (.tuple [.str (SN b),.int f,.list (as.map (pk cs))]) v:=fun {b f as} h=>by
  refine aN (h) fun l e _ hl=>?_;clear h
  exact⟨_,e,_,_,rfl,rfl,_,_,rfl,rfl,_,_,rfl,⟨l,_,_,rfl,hl,rfl,z9 cs H as⟩,rfl⟩
 cases g with
 |call f as=>exact tl h
 |builtin f as=>exact tl h
 |unify l r=>exact⟨_,h,_,_,rfl,rfl,rfl⟩
 |cut=>exact⟨_,h,_,_,rfl,rfl,rfl⟩
 |_=>exact⟨_,h,_,_,rfl,rfl,_,_,rfl,rfl,rfl⟩
theorem sM(cs:bF){off:Addr->Prop}{H:ah}:∀ {gs:List Goal} {xs:List AV},L2 (lq off H) xs (gs.map (na cs))->xz H (gs.map (wW cs)) xs:=by
 intro gs
 induction gs with
 |nil=>
  intro xs h
  cases xs with
  |nil=>exact rfl
  |cons x r=>(refine bi (h) fun _ _ e _=>?_;clear h);cases e
 |cons g r ih=>
  intro xs h
  cases xs with
  |nil=>exact sW (show na cs g::_=[]from h)
  |cons x r=>
   refine aE (h) fun y zs e a b=>?_;clear h
   injection e with e1 e2
   subst e1 e2
   exact⟨_,_,rfl,BO cs a,ih b⟩
theorem zF(cs:bF):∀gs:List Goal,(∀g∈gs,∀t∈g.bV,t.size<=7)->rt (gs.map (wW cs)) 16:=by
 intro gs
 induction gs with
 |nil=>exact fun _=>.nil
 |cons g r ih=>
  intro h
  refine .cons ?_ (ih fun x hx=>h x (.tail _ hx))
  have hg:=h g (.head _)
  clear h ih r;cases g with
  |call f as=>exact .AW (by kernel_rfl) (.list (tf cs as hg))
  |builtin f as=>exact .AW (by kernel_rfl) (.list (tf cs as hg))
  |unify l r=>exact .tuple (.cons (.str (by kernel_rfl)) .nil)
  |cut=>exact .tuple (.cons (.str (by kernel_rfl)) .nil)
  |_=>exact .pair (by kernel_rfl)
theorem yi(s:String):PyData.strOk (Str.ofString s)=true:=by
 rw[Str.ofString_eq_toList]
 unfold PyData.strOk
 simp only[List.all_toArray,List.all_eq_true,List.mem_map,decide_eq_true_eq]
 intro x;intro ak;refine aA (ak) fun c _ cu=>?_;clear ak;subst cu
 have:=c.valid
 rcases this with h|h
 ·exact Nat.lt_trans h (by decide)
 ·exact h.2
theorem uW(k:List Atom)(a:AV)(es:List (List Atom×AV)):bZ k a es≠[]:=by
 cases es with
 |nil=>exact List.cons_ne_nil _ _
 |cons x r=>obtain⟨q,b⟩:=x;rw[gJ];split<;>exact List.cons_ne_nil _ _
theorem mG{k:List Atom}(a:AV)(hk:SeqAt.shaped (.tuple (k.map Atom.dat))=true):∀ {es:List (List Atom×AV)},(∀q∈es,SeqAt.shaped (.tuple (q.1.map Atom.dat))=true)->∀q∈bZ k a es,SeqAt.shaped (.tuple (q.1.map Atom.dat))=true:=by
 intro zz
 induction zz with
 |nil=>
  intro _ q hq
  cases fG hq;exact hk
 |cons qx r ih=>
  obtain⟨j,b⟩:=qx
  intro h q hq
  rw[gJ]at hq
  split at hq
  ·rcases de hq with rfl|hq
   ·exact h (j,b) (.head _)
   ·exact h q (.tail _ hq)
  ·rcases de hq with rfl|hq
   ·exact h (j,b) (.head _)
   ·exact ih (fun q hq=>h q (.tail _ hq)) q hq
theorem oB(s:String)(n:Int):SeqAt.shaped (.tuple ([Atom.s (Str.ofString s),Atom.i n].map Atom.dat))=true:=by
 have:=yi s
 simp[SeqAt.shaped,Atom.dat,PyData.canLay0,PyData.canLayAll0,PyData.depth,PyData.depthAll,this]
theorem gP.up{dm:V8->Prop}:∀ {gs:List Goal} {kept:V8->Bool},(∀g∈gs,∀k∈g.nums,dm k)->gP (fun _=>True) kept gs->gP dm kept gs:=by
 intro gs
 induction gs with
 |nil=>exact fun _ _=>trivial
 |cons g r ih=>
  intro kept hd h
  have hr:∀g∈r,∀k∈g.nums,dm k:=fun x hx=>hd x (.tail _ hx)
  have hg:=hd g (.head _)
  have two:∀ {as:List Tm},(∀k∈as.flatMap Tm.occs,dm k)->(∃t u,as=[t,u]/\(mR (fun _=>True) t/\t.size<=8)/\(mR (fun _=>True) u/\u.size<=8))->∃t u,as=[t,u]/\(mR dm t/\t.size<=8)/\(mR dm u/\u.size<=8):=fun hk ⟨t,u,e,a,b⟩=>
   ⟨t,u,e,⟨fun k h=>hk k (by rw[e];exact List.mem_append_left _ h),a.2⟩,⟨fun k h=>hk k (by rw[e];exact List.mem_append_right _ (List.mem_append_left _ h)),b.2⟩⟩
  clear hd;cases g with
  |unify l r=>exact h.elim
  |cut=>exact ih hr h
  |call f as=>exact⟨two hg h.1,ih hr h.2⟩
  |builtin f as=>exact⟨two hg h.1,ih hr h.2⟩
  |level k=>exact⟨⟨hg k (.head _),h.1.2⟩,ih hr h.2⟩
  |mark k=>exact⟨⟨hg k (.head _),h.1.2⟩,ih hr h.2⟩
  |eA k=>exact⟨⟨hg k (.head _),h.1.2⟩,ih hr h.2⟩
theorem Jj:nsIn e.G.K mainGlobals ("Symbols":Str)=some (some (.ref 122)):=by kernel_rfl
theorem Qa:keepIn e.G.K (.ref 122)=true:=by kernel_rfl
theorem IR:nsIn e.G.K mainGlobals ("classify":Str)=some (some (.ref 601)):=by kernel_rfl
theorem PL:keepIn e.G.K (.ref 601)=true:=by kernel_rfl
theorem Jc:nsIn e.G.K mainGlobals ("abstract_code":Str)=some (some (.ref 426)):=by kernel_rfl
theorem PX:keepIn e.G.K (.ref 426)=true:=by kernel_rfl
theorem Ig:nsIn e.G.K mainGlobals ("_law_counts":Str)=some (some (.ref 641)):=by kernel_rfl
theorem O6:keepIn e.G.K (.ref 641)=true:=by kernel_rfl
theorem gf.keep{lt l0:Addr}{H H':ah}(T:gf lt l0 H)(F:ao [] H H'):gf lt l0 H':=T.grow fun a o q _=>F a o q (by exact fun h=>bv h)
theorem gf.Ej{lt l0 a:Addr}{H:ah}{o:AO}(T:gf lt l0 H)(q:H a=some o)(z:∀xs,o≠.list xs):a∉[lt,l0]:=fun y=>by
 obtain⟨ne,xs,i,j,t1,t2,_⟩:=T
 simp only[List.mem_cons,List.not_mem_nil,or_false]at y
 clear ne;rcases y with rfl|rfl
 ·rw[t1]at q;exact z _ (Option.some.inj q).symm
 ·rw[t2]at q;exact z _ (Option.some.inj q).symm
structure AA(ca lt l0:Addr)(H:ah):Prop where
 a:H ca=some (.cell (.ref lt))
 T:gf lt l0 H
theorem AA.move{ca lt l0:Addr}{H H':ah}(L:AA ca lt l0 H)(T:gf lt l0 H')(F:ao [lt,l0] H H'):AA ca lt l0 H':=⟨F _ _ L.a (L.T.Ej L.a fun _ z=>iT z lF),T⟩
theorem AA.keep{ca lt l0:Addr}{H H':ah}(L:AA ca lt l0 H)(F:ao [] H H'):AA ca lt l0 H':=⟨F _ _ L.a (by exact fun h=>bv h),L.T.keep F⟩
theorem qy{H:ah}{a:Addr}{o o':AO}:(H.put a o).put a o'=H.put a o':=by
 funext x
 by_cases q:x=a
 ·rw[q,al,al]
 ·rw[aj _ _ q,aj _ _ q,aj _ _ q]
theorem Ba(rs:List Rec):jD rs≠[]:=by
 have:∀ (rs:List Rec) (es:List (List Atom×AV)),es≠[]->rs.foldl kK es≠[]:=fun rs=>by
  induction rs with
  |nil=>exact fun _ h=>h
  |cons r rs ih=>
   intro es h
   refine ih _ ?_
   unfold kK
   split
   ·exact uW _ _ _
   ·exact h
 exact this rs _ (uW _ _ _)
theorem r7(rs:List Rec):∀q∈jD rs,SeqAt.shaped (.tuple (q.1.map Atom.dat))=true:=by
 have h1:∀ (rs:List Rec) (es:List (List Atom×AV)),(∀q∈es,SeqAt.shaped (.tuple (q.1.map Atom.dat))=true)->∀q∈rs.foldl kK es,SeqAt.shaped (.tuple (q.1.map Atom.dat))=true:=fun rs=>by
  induction rs with
  |nil=>exact fun _ h=>h
  |cons r rs ih=>
   intro es h
   refine ih _ ?_
   unfold kK
   split
   ·exact mG _ (oB "y" _) h
   ·exact h
 have h2:∀n:Nat,∀q∈hG n,SeqAt.shaped (.tuple (q.1.map Atom.dat))=true:=fun n=>by
  induction n with
  |zero=>exact fun _ h=>bv h
  |succ n ih=>exact mG _ (oB "t" _) ih
 exact h1 rs _ (h2 7)
theorem ya:∀l:List Tm,(∀t∈l,t.size<=7)->kA l<=7*l.length:=by
 intro l
 induction l with
 |nil=>exact fun _=>Nat.le_refl _
 |cons t r ih=>
  intro h
  have:=ih fun x hx=>h x (.tail _ hx)
  have:=h t (.head _)
  simp only[eH,eI,fi]
  exact KW ‹_› this
theorem Hm{ai:List Tm}{ag:List Goal}(z1:ai.length<=3)(zg:ag.length<=6)(hh:∀t∈ai,t.size<=7)(hg:∀g∈ag,g.bV.length<=2/\∀t∈g.bV,t.size<=7):6*kA ai+gz ag<=6000000:=by
 have h1:=ya ai hh
 have h2:∀gs:List Goal,(∀g∈gs,g.bV.length<=2/\∀t∈g.bV,t.size<=7)->gz gs<=227*gs.length:=fun gs=>by
  induction gs with
  |nil=>exact fun _=>Nat.le_refl _
  |cons g r ih=>
   intro h
   have:=ih fun x hx=>h x (.tail _ hx)
   refine bh (h g (.head _)) fun a b=>?_
   have:=ya g.bV b
   simp only[BM,BN,gb,fi]
   exact KV ‹_› a this
 have:=h2 ag hg
 exact KU z1 zg h1 this
theorem pW:∀n,(hG n).length<=n:=by
 intro n
 induction n with
 |zero=>exact Nat.le_refl _
 |succ n ih=>exact d6 (iY _ _ _) (Nat.succ_le_succ ih)
theorem yI(es:List (List Atom×AV))(r:Rec):(kK es r).length<=es.length+1:=by
 unfold kK
 split
 ·exact iY _ _ _
 ·exact Nat.le_succ _
noncomputable def CJ(nm lh lg lc lk lp lo:Addr):bP:=[("owner",.ref lo),("plan",.ref lp),("clause_",.ref lk),("counts",.ref lc),("goals_",.ref lg),("heads",.ref lh),("names",.ref nm)]
theorem xE{x:Str}{a:AV}{m m':bP}(h:Sub m m'):Sub ((x,a)::m) ((x,a)::m'):=fun y c q=>by
 rw[List.lookup_cons]at q⊢
 cases z:(y==x)with
 |true=>rw[z]at q;exact q
 |false=>rw[z]at q;exact h y c q
theorem Es{ca lt l0:Addr}(L:AA ca lt l0 H){m:bP}{Q:Fl->bP->ah->Prop}(h:∀m' H',Q (.ret (.bool true)) m' H'):
 WS e.G (D+110) (jL e.w.params 673).scope [("tape",ca)] (iI (jL e.w.params 673).body).tail m H Q:=by
 k_extra"norm_m"
 refine WS.cons (W1.assign (WE.cp Jj Qa (qE (D:=D+104) fun nm H1 F1=>?_)))
 replace L:=L.keep F1
 clear F1
 refine WS.seq (fun m' H'=>AA ca lt l0 H'/\∃ (lh:Addr) (ts:List Tm),H' lh=some (.list (ts.map Tm.av))/\ts.length<=3/\(∀t∈ts,t.size<=7/\t.low 5)/\lh∉[lt,l0]/\Sub [("heads",.ref lh),("names",.ref nm)] m') ?_ ?_
 ·refine xT (bcl:=[("tape",ca)]) ?JC ?eN rfl ?dj (fV.range rfl rfl ?cU ?_)
  case eN=>
   intro c h1 h2
   obtain⟨_,_,_,_,_,_,_,_,_,_,_⟩:=c
   dsimp only at h1 h2
   subst h1 h2
   rfl
  case JC=>
   intro c h1 h2
   obtain⟨_,_,_,_,_,_,_,_,_,_,_⟩:=c
   dsimp only at h1 h2
   subst h1 h2
   rfl
  case dj=>decide +kernel
  case cU=>decide +kernel
  refine ft iE gD (by decide) (iU (WE.int (WE.cp oH ul (iV rfl L.a (WE.int ?_)))))
  refine eb (D:=D+9) L.T 2 (by decide) fun Ko H3 d0 d1 T3 F3=>np.add ?_
  replace L:=L.move T3 F3
  clear F3
  refine WB.range fun lr g9=>⟨lr,2+Ko,rfl,al _ _ _,by exact KT d0,by exact KS d1,fun ob=>?_⟩
  rw[qy]
  have hn:(List.range (2+Ko).toNat).length<=3:=by rw[List.length_range];exact KR d1
  refine fB.rule (f:=fun i:Nat=>AV.int (Int.ofNat i)) (fun au acc H=>AA ca lt l0 H/\∃ts:List Tm,acc=ts.map Tm.av/\ts.length+au.length<=3/\∀t∈ts,t.size<=7/\t.low 5) (fun i au acc H I kp=>?_) (fun acc H I kp=>?_) (List.range (2+Ko).toNat) (al _ _ _) ⟨L.keep (ao.new g9),[],rfl,by simpa using hn,fun t ht=>bv ht⟩
  ·refine uz (I) fun L ts ak z1 z2=>?_;clear I;subst ak
   refine CE.cp sC zq (CE.cell rfl L.a (CE.int (yc (D:=D+5) lt l0 H _ L.T fun t H' y1 y2 T' F'=>⟨F' _ _ kp (L.T.Ej kp (by simp)),L.move T' F',ts++[t],by simp,by simp only[List.length_append,fi,List.length_nil]at *;exact KQ z1,fun x hx=>?_⟩)))
   rcases List.mem_append.mp hx with hx|hx
   ·exact z2 x hx
   ·cases fG hx;exact⟨y1,y2⟩
  ·refine uz (I) fun L ts ak z1 z2=>?_;clear I;subst ak
   refine fun d hd=>⟨rfl,?_,d,ts,al _ _ _,by simpa using z1,z2,?_,Sub.cons rfl (Sub.cons rfl Sub.nil)⟩
   all_goals have o1:∀ {a o},H a=some o->(∀x y,o≠.ro x y)->(H.put lr (.range (2+Ko))) a=some o:=fun q z=>(aj _ _ (fun y=>by rw[y,kp]at q;exact z _ _ (Option.some.inj q).symm)).trans q
   all_goals have L9:AA ca lt l0 (H.put lr (.range (2+Ko))):=⟨o1 L.a (by simp),L.T.grow fun a o q z=>(aj _ _ (fun y=>L.T.Ej kp (by simp) (by rw[←y];simpa using z))).trans q⟩
   ·exact L9.keep (ao.new hd)
   ·exact(L9.T.new hd (.list [])).2
 intro m3;intro H3;intro ak;refine w8 (ak) fun L lh ts tB z1 z2 Te i3=>?_;clear ak
 refine WS.weak i3 ?_
 clear i3
 refine WS.cons (W1.assign (WE.cp Ij O9 (iV rfl L.a (wU (D:=D+3) L.T fun lg gs H4 QA hg dg Ui zg T4 F4=>?_))))
 have hh:=F4 _ _ tB Te
 clear QA L T4 F4 tB Te
 refine WS.cons (W1.assign (WE.cp Ig O6 (WE.name rfl (WE.name rfl (xe (D:=D+101) hh hg (fun t ht=>(z2 t ht).1) (fun g iK=>⟨(dg g iK).pl,(dg g iK).ln,fun t ht=>((dg g iK).tm t ht).1⟩) z1 (by(assumption)) fun lc H5 QC hc F5=>?_)))))
 replace hh:=F5 _ _ hh (by exact fun h=>bv h)
 replace hg:=F5 _ _ hg (by exact fun h=>bv h)
 clear QC F5
 refine WS.cons (W1.assign (WE.cp Jb PW (fY zL (ft ka iC (by decide) (WE.name rfl (AL hh (by rw[List.length_map];(exact d6 ‹_› (cm rfl))) (WE.name rfl (WE.int (wz (D:=D+108) hg 7 fun lk H6 wO K F6=>?_)))))))))
 replace hh:=F6 _ _ hh (by exact fun h=>bv h)
 replace hg:=F6 _ _ hg (by exact fun h=>bv h)
 replace hc:=F6 _ _ hc (by exact fun h=>bv h)
 clear wO F6
 refine WS.cons (W1.assign (WE.cp IR PL (WE.name rfl (sY (D:=D+104) K (by exact d6 ‹_› (cm rfl)) (fun t ht=>by have:=(z2 t ht).1;(exact d6 ‹_› (cm rfl))) (fun g iK t ht=>by have:=((dg g iK).tm t ht).1;exact Ae this) fun lp dp li il xq ad H7 p1 p2 R p3 F7=>?_))))
 replace hh:=F7 _ _ hh (by exact fun h=>bv h)
 replace hg:=F7 _ _ hg (by exact fun h=>bv h)
 replace hc:=F7 _ _ hc (by exact fun h=>bv h)
 replace K:ki H7 lk ts gs 7:=by
  refine aE (K.go) fun dk PI k1 k2 k3=>?_
  exact⟨dk,PI,F7 _ _ k1 (by exact fun h=>bv h),F7 _ _ k2 (by exact fun h=>bv h),F7 _ _ k3 (by exact fun h=>bv h)⟩
 have A6:=R.li
 have OV:=R.rc
 have HX:=R.len
 clear R F7
 refine WS.cons (W1.assign (tC fun lo iQ=>?_))
 refine WS.seq (fun m' H'=>ao [] H7 H'/\H' lo=some (.bX (hG 7))/\Sub (CJ nm lh lg lc lk lp lo) m') ?_ ?_
 ·refine xU (ft iE gD (by decide) (WE.int (WB.range fun lr g9=>⟨lr,7,rfl,al _ _ _,by decide,by decide,fun ob=>?_⟩)))
  rw[qy]
  have vf:lr≠lo:=fun z=>by rw[z,al]at g9;(exact bg g9)
  have X0:H7 lr=none:=(aj _ _ vf).symm.trans g9
  refine dS.range 7 (fun i m' H'=>H'=((H7.put lo (.bX (hG i))).put lr (.ro (.range 7) ob))/\Sub (CJ nm lh lg lc lk lp lo) m') (fun i m8 H8 hi I kp=>?_) (fun m8 H8 I kp=>?_) (al _ _ _) ⟨rfl,fun x a q=>q⟩
  ·refine bh (I) fun ak i8=>?_;clear I;(clear kp;subst ak)
   refine WS.weak (m':=("k",.int i)::CJ nm lh lg lc lk lp lo) (xE i8) ?_
   have q8:((H7.put lo (.bX (hG i))).put lr (.ro (.range 7) ob)) lo=some (.bX (hG i)):=(aj _ _ vf.symm).trans (al _ _ _)
   refine WS.last (gH (WE.name rfl (WE.name rfl (WE.tuple (WE.str (WE.name rfl (gG.bX (D:=D+109) (k:=dz i) q8 (by have:=pW i;exact KP hi this) ?_)))))))
   refine⟨(aj _ _ vf).trans (al _ _ _),?_,fun x a q=>?_⟩
   ·rw[f6 vf.symm,qy,f6 vf]
    rfl
   ·rw[List.lookup_cons]
    cases z:(x==("k":Str))with
    |false=>exact q
    |true=>rw[eq_of_beq z]at q;(exact ax q)
  ·refine bh (I) fun ak i8=>?_;clear I;(clear kp;subst ak)
   refine⟨rfl,fun x o q _=>?_,?_,i8⟩
   ·have n1:x≠lr:=fun z=>by rw[z,X0]at q;(exact ax q)
    have n2:x≠lo:=fun z=>by rw[z,iQ]at q;(exact ax q)
    rw[aj _ _ n1,aj _ _ n1,aj _ _ n2,q]
   ·rw[aj _ _ vf.symm,aj _ _ vf.symm,al]
 intro m8;intro H8;intro ak;refine ci (ak) fun F8 Fy i8=>?_;clear ak
 refine WS.weak i8 ?_
 clear i8
 have wu:∀ {x o},H7 x=some o->H8 x=some o:=fun q=>F8 _ _ q (by exact fun h=>bv h)
 refine WS.seq (fun m' H'=>ao [] H7 H'/\H' lo=some (.bX (jD (cL ts gs)))/\Sub (CJ nm lh lg lc lk lp lo) m') ?_ ?_
 ·refine xQ (dA (WE.name rfl ⟨lp,534,dp,_,_,rfl,wu p1,wu p2,rfl,rfl,by kernel_rfl,li,_,rfl,wu A6,fun ob=>?_⟩))
  rw[List.map_map]
  have Pj:lo≠li:=fun z=>by rw[z,wu A6]at Fy;cases Fy
  refine dS.rule (f:=fun r:Rec=>AV.int (vi r.k)) (fun au m' H'=>∃es,H' lo=some (.bX es)/\au.foldl kK es=jD (cL ts gs)/\es.length+au.length<=7+(cL ts gs).length/\(∀r∈au,r∈cL ts gs)/\(∀x o,H7 x=some o->x≠li->H' x=some o)/\Sub (CJ nm lh lg lc lk lp lo) m') (fun r au m9 H9 I kp=>?_) (fun m9 H9 I kp=>?_) (cL ts gs) (al _ _ _)
   ⟨hG 7,(aj _ _ Pj).trans Fy,rfl,by have:=pW 7;(exact Nat.add_le_add_right ‹_› _),fun r hr=>hr,fun x o q z=>(aj _ _ z).trans (wu q),fun x a q=>q⟩
  ·refine eO (I) fun es Oh e1 e2 e3 b9 i9=>?_;clear I
   have hr:=e3 r (.head _)
   refine bh (OV r hr) fun r1 r2=>?_
   have u1:=b9 _ _ p1 (fun z=>by rw[z,A6]at p1;cases p1)
   have u2:=b9 _ _ p2 (fun z=>by rw[z,A6]at p2;cases p2)
   have u3:=b9 _ _ r1 (fun z=>by rw[z,A6]at r1;cases r1)
   have u4:=b9 _ _ r2 (fun z=>by rw[z,A6]at r2;cases r2)
   have Tv:=eh (ad:=ad) (rs:=cL ts gs) ⟨r,hr,rfl⟩
   rw[List.foldl_cons]at e1
   rw[fi]at e2
   have BA:=yI es r
   have Us:∀x∈au,x∈cL ts gs:=fun x hx=>e3 x (.tail _ hx)
   refine WS.weak (m':=("k",.int (vi r.k))::CJ nm lh lg lc lk lp lo) (xE i9) ?_
   have sub:Sub (CJ nm lh lg lc lk lp lo) (("k",AV.int (vi r.k))::CJ nm lh lg lc lk lp lo):=fun x a q=>by
    rw[List.lookup_cons]
    cases z:(x==("k":Str))with
    |false=>exact q
    |true=>rw[eq_of_beq z]at q;(exact ax q)
   refine WS.last (cT (WT.cmp (dA (WE.item (dA (WE.name rfl (rB.of u1 u2 rfl rfl (by kernel_rfl) (WE.name rfl ?_))))))))
   refine WI.aB kp rfl Tv (rB.of u3 u4 (b:=.int r.slot) rfl rfl (by kernel_rfl) (WE.int (xP (fun hs=>?_) (fun hs=>?_))))
   ·refine WS.last (gH (WE.name rfl (WE.name rfl (WE.tuple (WE.str (dA (WE.item (dA (WE.name rfl (rB.of u1 u2 rfl rfl (by kernel_rfl) (WE.name rfl ?_)))))))))))
    refine WI.aB kp rfl Tv (rB.of u3 u4 (b:=.int r.slot) rfl rfl (by kernel_rfl) ?_)
    refine gG.bX (D:=D+109) (k:=mZ r.slot) Oh (by exact KO HX e2) ?_
    have ey:kK es r=bZ (mZ r.slot) (.int (vi r.k)) es:=if_pos hs
    rw[ey]at e1 BA
    exact⟨(aj _ _ Pj.symm).trans kp,_,al _ _ _,e1,by exact KN e2 BA,Us,fun x o q z=>(aj _ _ fun y=>by rw[y,iQ]at q;(exact ax q)).trans (b9 x o q z),sub⟩
   ·have ey:kK es r=es:=if_neg hs
    rw[ey]at e1
    exact WS.nil ⟨kp,es,Oh,e1,by exact Nat.le_of_lt ‹_›,Us,b9,sub⟩
  ·refine eO (I) fun es Oh e1 e2 e3 b9 i9=>?_;clear I
   have e1:es=jD (cL ts gs):=e1
   refine⟨rfl,fun x o q _=>?_,(aj _ _ Pj).trans (by rw[Oh,e1]),i9⟩
   by_cases z:x=li
   ·rw[z,al,←A6,←z,q]
   ·exact(aj _ _ z).trans (b9 x o q z)
 intro m9;intro H9;intro ak;refine ci (ak) fun F9 ho i9=>?_;clear ak
 refine WS.weak i9 ?_
 clear i9 F8 wu Fy m8 H8
 have lY:∀ {x o},H7 x=some o->H9 x=some o:=fun q=>F9 _ _ q (by exact fun h=>bv h)
 refine gU (Eh (ai:=ts) (ag:=gs) (fun t ht k hk=>Nat.lt_trans ((z2 t ht).2 k hk) (by decide)) (fun g iK=>⟨(dg g iK).pl,(dg g iK).lo⟩)) fun O pos dh Kn=>?_
 have QZ:jD (cL ts gs)≠[]:=Ba _
 have Ur:=r7 (cL ts gs)
 have has:∀g∈gs,∀t∈g.bV,∀k∈t.occs,(fw ts gs).pc k=true:=fun g iK t ht k hk=>Kn g iK k ((hJ (dg g iK).pl k).mp (.inr ⟨t,ht,hk⟩))
 have P9:rr H9 lp (fw ts gs):=⟨dp,li,_,xq,_,lY p1,lY p2,lY A6,lY p3,fun k hk=>by
  refine bh (du (show bS k (cL ts gs)=true from hk)) fun m1 m2=>?_
  refine bh (OV _ m1) fun q1 q2=>?_
  rw[m2]at q1 q2
  exact⟨(ad k).1,eh ⟨_,m1,m2⟩,⟨(ad k).2,_,lY q1,lY q2,rfl,rfl,rfl,rfl⟩⟩⟩
 have K9:ki H9 lk ts gs 7:=by
  refine aE (K.go) fun dk PI k1 k2 k3=>?_
  exact⟨dk,PI,lY k1,lY k2,lY k3⟩
 have rd:=xg O pos (ai:=ts) (ag:=gs) (fun t ht=>⟨dh t ht,Nat.le_succ_of_le (z2 t ht).1,(z2 t ht).2⟩) (gP.up Kn Ui) (fun g iK t ht=>((dg g iK).tm t ht).2)
 replace hh:=lY hh
 replace hg:=lY hg
 replace hc:=lY hc
 clear K OV A6 HX p1 p2 p3 F9 lY O iQ H7
 refine WS.cons (W1.assign (WE.cp Ib O3 (WE.cp Jc PX (WE.name rfl (WE.name rfl (WE.name rfl ?_))))))
 refine tq (D:=D+97) P9 K9 (by exact KL zg) (fun t ht=>⟨dh t ht,by have:=(z2 t ht).1;exact Ae this⟩) (fun g iK=>⟨fun t ht=>⟨has g iK t ht,by have:=((dg g iK).tm t ht).1;exact Ae this⟩,fun _ k e=>Kn g iK k ((hJ (dg g iK).pl k).mp (.inl e))⟩) (fun g iK=>(dg g iK).pl) (by simp[fw]) (Hm z1 zg (fun t ht=>(z2 t ht).1) fun g iK=>⟨(dg g iK).ln,fun t ht=>((dg g iK).tm t ht).1⟩) fun l UE nG zc hl xy=>WE.name rfl ?_
 refine rY (D:=D+97) hl (xy _ _ ho (by exact fun h=>bv h)) QZ Ur zc rd fun a gv rb n Yx R hk=>?_
 have Oy:∀ {x o},H9 x=some o->Yx x=some o:=fun q=>(R.base _ _ (xy _ _ q (by exact fun h=>bv h))).1
 replace hh:=Oy hh
 replace hg:=Oy hg
 replace hc:=Oy hc
 clear P9 K9 rd Oy xy nG zc hl QZ Ur has ho H9
 have Bk:∀k,(fw ts gs).pc k=true->((dN ts gs).lookup (vi k)).isSome=true:=fun k hk=>by
  have:=pos k hk
  unfold cG at this
  cases q:(dN ts gs).lookup (vi k)with
  |some _=>rfl
  |none=>rw[q]at this;cases this
 refine bh (hk) fun JO qP=>?_;clear hk
 have ng:gs.length<=6:=zg
 refine WS.cons (cT (WT.or (WT.cmp (WE.name rfl (rF (Gc ?_))))))
 refine WT.cmp (WE.item (WE.name rfl (WE.str (WI.bq R.s rfl rfl (WE.cp Ie O5 (WE.name rfl (WE.name rfl ?_)))))))
 refine EY (D:=D+101) hg hc (fun g iK=>⟨(dg g iK).pl,(dg g iK).ln,fun t ht=>((dg g iK).tm t ht).1,fun k hk=>Bk k (Kn g iK k hk)⟩) ng fun ld xs Yw wP CT JY Ox=>?_
 replace R:=R.gB Ox
 replace hh:=Ox _ _ hh (by exact fun h=>bv h)
 replace hc:=Ox _ _ hc (by exact fun h=>bv h)
 refine aA (R.g) fun X1 g1 g2=>?_
 rw[JO]at g2
 refine bh (zF (dN ts gs) (ib (dN ts gs) gs) fun g iK t ht=>((dg g (List.mem_filter.mp iK).1).tm t ht).1) fun y1 y2=>?_
 have sh:SeqAt.shaped (.list ((ib (dN ts gs) gs).map (wW (dN ts gs))))=true:=by
  simp only[SeqAt.shaped,PyData.canLay0,PyData.depth,y1,Bool.true_and,decide_eq_true_iff]
  lia
 refine DF (D:=D+102) (da:=.list ((ib (dN ts gs) gs).map (wW (dN ts gs)))) (db:=.list ((ib (dN ts gs) gs).map (wW (dN ts gs)))) ⟨a.g,_,X1,rfl,g1,rfl,sM _ g2⟩ ⟨ld,_,xs,rfl,CT,rfl,sM _ JY⟩ sh sh ?_
 rw[kU _ (by simp only[PyData.canLay0];exact y1)]
 refine WS.nil ?_
 clear g1 g2 wP CT JY Ox y1 y2 sh JO hg pos Kn Ui dg
 have nz:(ts.map Tm.av).length<=16000000:=by rw[List.length_map];(exact d6 ‹_› (cm rfl))
 refine WS.seq (fun m' H'=>True) ?_ fun m' H' _=>WS.cons (W1.ret (nO (h _ _)))
 refine FM (ft iE gD (by decide) (WE.int (iU (jQ pj jn (by decide) (WE.name rfl (lK hh rfl nz (WE.int (np.add ?_))))))))
 refine Ci fun lr t u v g9=>⟨lr,t,u,v,(ts.map Tm.av).length,rfl,al _ _ _,by rw[List.length_map];(exact d6 ‹_› (cm rfl)),?_⟩
 replace R:=R.gB (ao.new (o:=.ro .ni (fv 1 (((ts.map Tm.av).length:Int)+1) t u v)) g9)
 replace hh:=(ao.new (o:=.ro .ni (fv 1 (((ts.map Tm.av).length:Int)+1) t u v)) g9).get hh
 replace hc:=(ao.new (o:=.ro .ni (fv 1 (((ts.map Tm.av).length:Int)+1) t u v)) g9).get hc
 generalize Yw.put lr (.ro .ni (fv 1 (((ts.map Tm.av).length:Int)+1) t u v))=Yv at *
 refine dS.rule (f:=fun (i:Nat)=>AV.int ((i:Int)+1)) (fun au m' H'=>ao [] Yv H'/\(∀i∈au,i<ts.length)/\Sub [("state",.ref a.s),("counts",.ref lc),("heads",.ref lh)] m') (fun i au N9 Yu I kp=>?_) (fun N9 Yu I kp=>⟨rfl,trivial⟩) (List.range (ts.map Tm.av).length) trivial ⟨ao.refl,fun i hi=>by rw[List.mem_range,List.length_map]at hi;exact hi,by k_extra"sb"⟩
 refine ci (I) fun Ow i1 i2=>?_;clear I
 refine WS.weak (xE i2) ?_
 have lt:=i1 i (.head _)
 have FH:=R.gB Ow
 have op:=qP i ts[i] (List.getElem?_eq_getElem lt)
 refine bh (z2 ts[i] (List.getElem_mem lt)) fun s7 l5=>?_
 refine WS.cons (W1.assign (WE.cp yt Ef (WE.item (WE.name rfl (WE.str (WI.bq FH.s rfl rfl ?_))))))
 refine WE.cW (WE.item (WE.name rfl (WE.str (WI.bq FH.s rfl rfl (ru.of FH.h rfl (WE.name rfl (WE.tuple (WE.str (WE.neg (WE.int ⟨_,rfl,uN FH.h rfl rfl ?_⟩))))))))))
 refine r9 (D:=D+100) a.b rb.bH rb.L 9 _ _ (ce (dN ts gs) ts[i]) _ FH.b (fun l xs q=>⟨_,(FH.L l xs q).1,rfl⟩) op fun Y9 Sx=>?_
 refine WS.last (cT (WT.cmp (WE.name rfl (WE.cp pT wo (WE.item (WE.name rfl (iU (WE.name rfl (WE.int (np.sub ?_))))))))))
 refine WI.list (a:=(ts[i]).av) (Sx.get (Ow.get hh)) rfl (by exact KJ) (by rw[show((i:Int)+1-1).toNat=i by exact KI];simp[lt]) nz (WE.name rfl ?_)
 refine mr (D:=D+103) lc (dN ts gs) 7 ts[i] s7 (fun k hk=>Bk k (dh ts[i] (List.getElem_mem lt) k hk)) _ _ (Sx.get (Ow.get hc)) fun Y8 Yy=>?_
 refine bh (vL (dN ts gs) ts[i]) fun b1 b2=>?_
 have sb:SeqAt.shaped (pk (dN ts gs) ts[i])=true:=by
  simp only[SeqAt.shaped,b1,Bool.true_and,decide_eq_true_iff]
  exact KH s7 b2
 refine DF (D:=D+102) (ri _ _ _) (ri _ _ _) sb sb ?_
 rw[kU _ b1]
 exact WS.nil ⟨trivial,Ow.trans (Sx.trans Yy),fun j hj=>i1 j (.tail _ hj),by k_extra"sb"⟩
noncomputable def tJ(L:Addr):ah:=fun a=>if a=L+1 then some .dv else none
theorem AY{K':Frag}{L sc:Addr}{vs:List Value}{ns:List Int}(hk:∀h:Heap,Frag.In K' h->h.IsList sc vs.toArray)(hi:IntsAre vs ns)(hz:ns.length<=63):
 W1 { e.G with K:=K' } 110 (jL e.w.params 673).scope [("tape",L+1)] ((iI (jL e.w.params 673).body).headD default) [("script",.ref sc)] (tJ L) fun fl m' H'=>fl=.next/\∃lt l0,AA (L+1) lt l0 H':=by
 (conv=>arg 3;whnf)
 (conv=>arg 5;whnf)
 (conv=>arg 6;simp only[List.zip_cons_cons,List.zip_nil_left,List.reverse_cons,List.reverse_nil,List.nil_append,List.cons_append])
 refine OD rfl (WE.list ?_)
 refine FT hk hi (by exact d6 ‹_› (cm rfl)) (WE.name rfl ⟨rfl,WE.int ⟨60,rfl,by decide,fun l0 nG=>WE.int (WE.int fun lt iP=>?_)⟩⟩)
 have n0:l0≠L+1:=fun z=>by rw[z]at nG;simp[tJ]at nG
 have nt:lt≠L+1/\lt≠l0:=by
  refine⟨fun z=>?_,fun z=>?_⟩
  ·rw[z,aj _ _ n0.symm]at iP;simp[tJ]at iP
  ·rw[z,al]at iP;(exact bg iP)
 have c1:(((tJ L).put l0 (.list ((ns.take (60:Int).toNat).map AV.int))).put lt (.list [.ref l0,.int 0,.int 0])) (L+1)=some .dv:=by
  rw[aj _ _ nt.1.symm,aj _ _ n0.symm];(exact if_pos rfl)
 refine⟨.dv,c1,rfl,rfl,lt,l0,⟨al _ _ _,⟨nt.2,ns.take 60,0,0,?_,?_,?_,by decide⟩⟩⟩
 ·rw[aj _ _ nt.1,al];rfl
 ·rw[aj _ _ n0,aj _ _ nt.2.symm,al];rfl
 ·rw[List.length_take];lia
theorem uE:iI (jL e.w.params 673).body=(iI (jL e.w.params 673).body).headD default::(iI (jL e.w.params 673).body).tail:=by kernel_rfl
theorem tZ:(jL e.w.params 673).scope.kind=.function:=by kernel_rfl
set_option tactic.hygienic true in
theorem lawTop{w:World}{h gQ:Heap}{ub:ExcName->Option Value}{mg mb:Str->Option Value}{fa:Addr}{cd:Value}{L:Addr}{mm:Str->Option Value}{o1:Obj}{sc:Addr}{vs:List Value}{ns:List Int}{body:List Stmt}{scope:Scope}{nm:Str}
 {Q:Flow->Shared->Prop} {E:Value->Shared->Prop} {s:Shared}
 (K0:Below callerA h [] h) (KX:(hd.heap_39 w.params).In h) (T:Top hd.view_39 (looseW hd.view_39 []) ub mg mb h) (F:Fr h L gQ mm) (N:News h L gQ [(L+1,o1)]) (c1:o1.data=.cell none)
 (hm:mm ("script":Str)=some (.ref sc)) (TN:h.IsList sc vs.toArray) (hi:IntsAre vs ns) (hz:ns.length<=63) (hs:s.heap=gQ)
 (hb:body=iI (jL w.params 673).body) (EB:scope=(jL w.params 673).scope) (hn:nm="law") (he:cellsFrom (L+1) scope.names []=[(("tape":Str),L+1)])
 (k:∀h' eZ tk,Fr h L h' eZ->Q (.ret (.bool true)) { s with heap:=h',toks:=tk }):
 wpAny (model PySem.Challenge.rw_rh0103_02.row.prog w) (callerA.deeper (envOfC nm scope L fa cd)) (execs body (envOfC nm scope L fa cd)) Q E s:=by
 subst hb EB hn
 unfold envOfC
 rw[he]
 let e:Ev:=⟨w,ub,mg,mb⟩
 refine aN (TN) fun ob g1 g2 g3=>?_;clear TN
 let c:Cx:={ A₀:=callerA,A:=callerA.deeper (envX "law" (jL w.params 673).scope L fa cd [("tape",L+1)]),base:=h,h₀:=h,outer:=[],L:=L,cn:="law",cs:=(jL w.params 673).scope,a:=fa,Uu:=cd,cl:=[("tape",L+1)] }
 have ok:c.Ok e.G 110:=⟨K0,KX,T,rfl,tZ (e:=e),cm rfl,cm rfl,rfl⟩
 have Bc:c.Ok { e.G with K:=(sc,ob)::KK w.params } 110:=⟨ok.below,fun a o q=>by
  rw[List.lookup_cons]at q
  by_cases z:a=sc
  ·clear hm F mm;subst z
   simp only[beq_self_eq_true]at q
   cases q
   exact g1
  ·have:(a==sc)=false:=by simpa using z
   simp only[this]at q
   exact KX a o q,ok.top,ok.frames,ok.kind,ok.depth,ok.units,ok.handled⟩
 have S0:St { e.G with K:=(sc,ob)::KK w.params } h L mm (tJ L) [(L+1,o1)] s.heap:=by
  rw[hs]
  refine⟨F,N,by simp,fun a o q=>?_,fun a o q z=>?_⟩
  ·unfold tJ at q
   split at q
   ·rename_i y;subst y;cases q;exact⟨o1,by exact List.mem_cons_self,c1⟩
   ·exact ax q
  ·unfold tJ at q
   split at q
   ·cases q;(exact bI z)
   ·exact ax q
 have VU:LR [(L+1,o1)] [(("script":Str),AV.ref sc)] mm:=fun x a q=>by
  rw[List.lookup_cons]at q
  by_cases z:x=("script":Str)
  ·subst z
   simp only[beq_self_eq_true]at q
   cases q
   exact⟨_,hm,rfl⟩
  ·have:(x==("script":Str))=false:=by simpa using z
   simp only[this]at q
   exact ax q
 rw[uE (e:=e)]
 show wpAny _ c.A (execs _ c.env) Q E s
 refine wpAny_execs_cons ((AY (e:=e) (L:=L) (K':=(sc,ob)::KK w.params) (fun h' hK=>⟨ob,hK sc ob (by simp),g2,g3⟩) hi hz).go c rfl rfl Bc mm _ s S0 VU _ E fun f fl m' eZ H' n' h' tk S1 wG K1 F1 q=>?_)
 refine Ki (q) fun ak lt l0 LW=>?_;clear q;subst ak
 rw[show f=.next from F1]
 refine(Es (e:=e) (D:=0) LW (m:=m') (Q:=fun fl _ _=>fl=.ret (.bool true)) (fun _ _=>rfl)).go c rfl rfl ok eZ n' _ S1.OW wG Q E fun f fl m2 Eo H2 n2 h2 gI S2 CL K2 F2 q=>?_
 subst q
 refine aA (F2) fun v ak hv=>?_;clear F2;subst ak
 subst hv
 exact k h2 Eo gI S2.fr

end Mine
set_option tactic.hygienic true in
set_option maxHeartbeats 8000000 in
theorem PySem.Challenge.cw_rh0103_02_holds : PySem.Challenge.rw_rh0103_02.Holds := by
  exact Mine.hd (by
    k_go0
    refine Mine.lawTop (by assumption) (by assumption) (by assumption) (by assumption) (by assumption) (Eq.trans (by assumption) ?_) ?_ (by assumption) (by assumption) ?_ rfl ?_ ?_ ?_ ?_ ?_
    · kernel_rfl
    · rfl
    · lia
    · kernel_rfl
    · kernel_rfl
    · kernel_rfl
    · kernel_rfl
    · intro h' mm' tk F'
      refine goodW_bool F' (by assumption) (raisesW_false ?_) ?_
      · wrow_none_raised
      · wrow_post)
