import PyProof.Rows.All
import Wide.All
import OpenK.AllK
import Wide.FinOn
import KE.KSliceW
import KE.KDeep
import Lean
import PySem.Challenge.RW_rh0103_01
set_option Elab.async false
namespace PySem.W.Fast
theorem tw2711585505577850959:True:=⟨⟩
theorem tw7232422423428716515:True:=⟨⟩
theorem tw6004533443673955352:True:=⟨⟩
theorem tw17517737089405305841:True:=⟨⟩
theorem tw9674257727999782656:True:=⟨⟩
theorem tw219737044198020058:True:=⟨⟩
theorem tw9011979029575296479:True:=⟨⟩
theorem tw9787396351842916947:True:=⟨⟩
theorem tw17827458813498177553:True:=⟨⟩
theorem tw1291980286583624508:True:=⟨⟩
theorem tw2718901123391026995:True:=⟨⟩
theorem tw2001226814458364393:True:=⟨⟩
theorem tw1258717718454355964:True:=⟨⟩
theorem tw15560500314895047343:True:=⟨⟩
theorem tw16145008321745377990:True:=⟨⟩
theorem tw282004115355043989:True:=⟨⟩
theorem tw17244072584429378644:True:=⟨⟩
theorem tw13640514254501968386:True:=⟨⟩
theorem tw3856783459128436802:True:=⟨⟩
theorem tw17804436615005485693:True:=⟨⟩
theorem tw15079194523842364033:True:=⟨⟩
theorem tw10379131730601215995:True:=⟨⟩
theorem tw13896205201685373497:True:=⟨⟩
theorem tw4172830789200971933:True:=⟨⟩
theorem tw7275051467321613617:True:=⟨⟩
theorem tw17846936440860909165:True:=⟨⟩
theorem tw973662469405803806:True:=⟨⟩
theorem tw10528696920762540405:True:=⟨⟩
theorem tw12233582284571471492:True:=⟨⟩
theorem tw17352973434858128600:True:=⟨⟩
theorem tw17730448691065144110:True:=⟨⟩
theorem tw6135381517318000843:True:=⟨⟩
theorem tw3619232141914619222:True:=⟨⟩
theorem tw10015664371746657536:True:=⟨⟩
theorem tw1829445100760108279:True:=⟨⟩
theorem tw1184552218554016812:True:=⟨⟩
theorem tw9376109419431680627:True:=⟨⟩
theorem tw2759451637364818457:True:=⟨⟩
theorem tw3766158894648301139:True:=⟨⟩
theorem tw1355338860687761863:True:=⟨⟩
theorem tw757081541053455785:True:=⟨⟩
theorem tw682011567655089306:True:=⟨⟩
theorem tw16413264400604254196:True:=⟨⟩
theorem tw13471461260053382970:True:=⟨⟩
theorem tw2948108419219029167:True:=⟨⟩
theorem tw11306939235166856333:True:=⟨⟩
theorem tw4011157648589011858:True:=⟨⟩
theorem tw13180171748994924942:True:=⟨⟩
theorem tw1145845241644347369:True:=⟨⟩
theorem tw12268644228514654432:True:=⟨⟩
theorem tw460243522976405022:True:=⟨⟩
theorem tw4407734736301137906:True:=⟨⟩
theorem tw4434333111790514575:True:=⟨⟩
theorem tw5978237884098788730:True:=⟨⟩
theorem tw704327219915372674:True:=⟨⟩
theorem tw9787463984185863102:True:=⟨⟩
theorem tw18350330562280901221:True:=⟨⟩
theorem tw10010936943081839664:True:=⟨⟩
theorem tw3315324234476444515:True:=⟨⟩
theorem tw18273839248471157720:True:=⟨⟩
theorem tw12821735335276811757:True:=⟨⟩
theorem tw7619357645376055252:True:=⟨⟩
theorem tw14896874001708588922:True:=⟨⟩
theorem tw151948405760981731:True:=⟨⟩
theorem tw9759809726879904816:True:=⟨⟩
theorem tw5732905514179830355:True:=⟨⟩
theorem tw7035115661146626270:True:=⟨⟩
theorem tw13859949528989539954:True:=⟨⟩
theorem tw607167704815816724:True:=⟨⟩
theorem tw14311459727803291754:True:=⟨⟩
theorem tw13607416678640721797:True:=⟨⟩
theorem tw11277716924127702174:True:=⟨⟩
theorem tw13215998728584607739:True:=⟨⟩
theorem tw2968979199505139716:True:=⟨⟩
theorem tw3054133010854851324:True:=⟨⟩
theorem tw5715658561523051193:True:=⟨⟩
theorem tw16741492637210864865:True:=⟨⟩
theorem tw4278798014809849964:True:=⟨⟩
theorem tw11130039905162102590:True:=⟨⟩
theorem tw18101931140130867144:True:=⟨⟩
theorem tw2193789692954389824:True:=⟨⟩
theorem tw10073347824450446311:True:=⟨⟩
theorem tw15007238320947547705:True:=⟨⟩
theorem tw7585139358526817783:True:=⟨⟩
theorem tw15168306246750427876:True:=⟨⟩
theorem tw1617757218408452269:True:=⟨⟩
theorem tw15560853006256673968:True:=⟨⟩
theorem tw12647630874787467225:True:=⟨⟩
theorem tw14386061602966655976:True:=⟨⟩
theorem tw3891137856419664920:True:=⟨⟩
theorem tw17101871299007795629:True:=⟨⟩
theorem tw16643379632663270332:True:=⟨⟩
theorem tw4658958612460137192:True:=⟨⟩
theorem tw8708707556590381134:True:=⟨⟩
theorem tw5271184336429133520:True:=⟨⟩
theorem tw17964007177503468958:True:=⟨⟩
theorem tw16413963553889246368:True:=⟨⟩
theorem tw6587116730350146372:True:=⟨⟩
theorem tw3355348695024010778:True:=⟨⟩
theorem tw16494616584097029746:True:=⟨⟩
theorem tw7299951869573292228:True:=⟨⟩
theorem tw17888162413812561239:True:=⟨⟩
theorem tw14537914154153760125:True:=⟨⟩
theorem tw5882768191206486792:True:=⟨⟩
theorem tw14108194823987119177:True:=⟨⟩
theorem tw3577408171920636059:True:=⟨⟩
theorem tw912392155897948271:True:=⟨⟩
theorem tw17164873540382356111:True:=⟨⟩
theorem tw17071476683966804577:True:=⟨⟩
theorem tw17344680358763864322:True:=⟨⟩
theorem tw5152784196030571298:True:=⟨⟩
theorem tw8902219603052485911:True:=⟨⟩
theorem tw16180582048198870337:True:=⟨⟩
theorem tw15806122291839087668:True:=⟨⟩
theorem tw9979284746773624096:True:=⟨⟩
theorem tw14126943448341045398:True:=⟨⟩
theorem tw10939839348159177617:True:=⟨⟩
theorem tw6589095468515690095:True:=⟨⟩
theorem tw11270796479367742343:True:=⟨⟩
theorem tw3820604794100220378:True:=⟨⟩
theorem tw10948738476641704880:True:=⟨⟩
theorem tw17975652961387846372:True:=⟨⟩
theorem tw8032284361305108907:True:=⟨⟩
theorem tw15278061642289888581:True:=⟨⟩
theorem tw3698559305507148144:True:=⟨⟩
theorem tw4405960384096086239:True:=⟨⟩
theorem tw17274371674624000324:True:=⟨⟩
theorem tw5357591511691535388:True:=⟨⟩
theorem tw4527066259768149269:True:=⟨⟩
theorem tw8224813933742928703:True:=⟨⟩
theorem tw7081425507203772304:True:=⟨⟩
theorem tw1055568401681811165:True:=⟨⟩
theorem tw14333388528381170442:True:=⟨⟩
theorem tw11853533878840232495:True:=⟨⟩
theorem tw12825359941727978080:True:=⟨⟩
theorem tw17899373020297197333:True:=⟨⟩
theorem tw10045867985992453528:True:=⟨⟩
theorem tw3362959441861295915:True:=⟨⟩
theorem tw11166942722945506595:True:=⟨⟩
theorem tw1370275717833778536:True:=⟨⟩
theorem tw8579058602437062094:True:=⟨⟩
theorem tw12393455550290869266:True:=⟨⟩
theorem tw9413021647563260571:True:=⟨⟩
theorem tw5068434257544371817:True:=⟨⟩
theorem tw16406328271908756883:True:=⟨⟩
theorem tw17111948838632640456:True:=⟨⟩
theorem tw4319705520415482375:True:=⟨⟩
theorem tw16817318245366136608:True:=⟨⟩
theorem tw16548257151911338427:True:=⟨⟩
theorem tw6489507552545477252:True:=⟨⟩
theorem tw13580328829973926956:True:=⟨⟩
theorem tw1735497430108182060:True:=⟨⟩
theorem tw6711915476519705758:True:=⟨⟩
theorem tw15900120412870309639:True:=⟨⟩
theorem tw10007627690174824804:True:=⟨⟩
theorem tw4292500188555128830:True:=⟨⟩
theorem tw1749818173716722547:True:=⟨⟩
theorem tw5823794197072137003:True:=⟨⟩
theorem tw2315820567201803617:True:=⟨⟩
theorem tw16531745337717519161:True:=⟨⟩
theorem tw7496433998918960881:True:=⟨⟩
theorem tw15902184279288820625:True:=⟨⟩
theorem tw13912434898499826684:True:=⟨⟩
theorem tw14834023430324568649:True:=⟨⟩
theorem tw11740888236361828772:True:=⟨⟩
theorem tw13016732220969518872:True:=⟨⟩
theorem tw17807336471464407845:True:=⟨⟩
theorem tw1139862187096482527:True:=⟨⟩
theorem tw5076957145309523181:True:=⟨⟩
theorem tw17394056326795013819:True:=⟨⟩
theorem tw15263041282635125899:True:=⟨⟩
theorem tw14778209649434054790:True:=⟨⟩
theorem tw12659028871203227004:True:=⟨⟩
theorem tw9931943479562821362:True:=⟨⟩
theorem tw136631920214876835:True:=⟨⟩
theorem tw2378363196638174374:True:=⟨⟩
theorem tw13317431791736044220:True:=⟨⟩
theorem tw12290603225136948437:True:=⟨⟩
theorem tw389472881494512206:True:=⟨⟩
theorem tw6122645084068987007:True:=⟨⟩
theorem tw15041003319150489328:True:=⟨⟩
theorem tw15562837088269578035:True:=⟨⟩
theorem tw1537898542681612871:True:=⟨⟩
theorem tw14209830616999942402:True:=⟨⟩
theorem tw15880737140895825463:True:=⟨⟩
theorem tw14714103240675001986:True:=⟨⟩
theorem tw1041845030581493396:True:=⟨⟩
theorem tw8860024209350480642:True:=⟨⟩
theorem tw8719427161674164953:True:=⟨⟩
theorem tw7581816359482902497:True:=⟨⟩
theorem tw947438040082793914:True:=⟨⟩
theorem tw9594665118957945026:True:=⟨⟩
theorem tw1708024556718086227:True:=⟨⟩
theorem tw3778451253796500701:True:=⟨⟩
theorem tw12017898878966707257:True:=⟨⟩
theorem tw7397068168572129948:True:=⟨⟩
theorem tw17476080006546285661:True:=⟨⟩
theorem tw11333186260410459676:True:=⟨⟩
theorem tw15423634916342008072:True:=⟨⟩
theorem tw16869277618539721502:True:=⟨⟩
theorem tw9501820088010722379:True:=⟨⟩
theorem tw3282434896037501709:True:=⟨⟩
theorem tw2627984346626558326:True:=⟨⟩
theorem tw13670895902755119475:True:=⟨⟩
theorem tw183835017167291270:True:=⟨⟩
theorem tw7198390536060210744:True:=⟨⟩
theorem tw4075660801711882420:True:=⟨⟩
theorem tw5565278806992967083:True:=⟨⟩
theorem tw15823609455315575823:True:=⟨⟩
theorem tw6426273055680023932:True:=⟨⟩
theorem tw2460228577881660442:True:=⟨⟩
theorem tw5189142188285759775:True:=⟨⟩
theorem tw16350708796919097252:True:=⟨⟩
theorem tw724751600484774222:True:=⟨⟩
theorem tw16487347958798203451:True:=⟨⟩
theorem tw2283851925072248500:True:=⟨⟩
theorem tw17954471519018878134:True:=⟨⟩
theorem tw4302124980754421698:True:=⟨⟩
theorem tw11518781747449614426:True:=⟨⟩
theorem tw6179359751918216688:True:=⟨⟩
theorem tw6789855027759293466:True:=⟨⟩
theorem tw9458956999447867950:True:=⟨⟩
theorem tw5529568453561195837:True:=⟨⟩
theorem tw12734952128020822468:True:=⟨⟩
theorem tw12182807814244774211:True:=⟨⟩
theorem tw667198328695590252:True:=⟨⟩
theorem tw7094674258960923220:True:=⟨⟩
theorem tw13314330512976039754:True:=⟨⟩
theorem tw17803129079492736432:True:=⟨⟩
theorem tw8796240567053077481:True:=⟨⟩
theorem tw4966893808263662355:True:=⟨⟩
theorem tw10919533547850550483:True:=⟨⟩
theorem tw1574873078441994576:True:=⟨⟩
theorem tw11817470609975844035:True:=⟨⟩
theorem tw8450942572126056277:True:=⟨⟩
theorem tw17000155066101142889:True:=⟨⟩
theorem tw2354101950205528012:True:=⟨⟩
theorem tw16439824349840649037:True:=⟨⟩
theorem tw2334299552400917057:True:=⟨⟩
theorem tw16339471991904476338:True:=⟨⟩
theorem tw14323765505736481980:True:=⟨⟩
theorem tw15490439104401381959:True:=⟨⟩
theorem tw10887116778572429059:True:=⟨⟩
theorem tw1419416864934026935:True:=⟨⟩
theorem tw6742233586724650170:True:=⟨⟩
theorem tw9300948228871686676:True:=⟨⟩
theorem tw10323183001455561277:True:=⟨⟩
theorem tw3424931102881643321:True:=⟨⟩
theorem tw9219426015542480343:True:=⟨⟩
theorem tw1631149150583789468:True:=⟨⟩
theorem tw5349121933718820234:True:=⟨⟩
theorem tw9136488742655976645:True:=⟨⟩
theorem tw15919542637913265678:True:=⟨⟩
theorem tw15980859228951719591:True:=⟨⟩
theorem tw17532440430192770315:True:=⟨⟩
theorem tw2670528217467546775:True:=⟨⟩
theorem tw916427462477926122:True:=⟨⟩
theorem tw11825729669827539873:True:=⟨⟩
theorem tw11964429278604863157:True:=⟨⟩
theorem tw2611137233208623240:True:=⟨⟩
theorem tw15773981995205291829:True:=⟨⟩
theorem tw8206430501311747189:True:=⟨⟩
theorem tw1402947280878808549:True:=⟨⟩
theorem tw16296994325663420285:True:=⟨⟩
theorem tw3976722010076183465:True:=⟨⟩
theorem tw13833065179229638619:True:=⟨⟩
theorem tw16599498637624409450:True:=⟨⟩
theorem tw6722154040420286063:True:=⟨⟩
theorem tw17988542015724977305:True:=⟨⟩
theorem tw9504726810853072989:True:=⟨⟩
theorem tw16846860572762119324:True:=⟨⟩
theorem tw18410474027866654770:True:=⟨⟩
theorem tw3972328310683599613:True:=⟨⟩
theorem tw5396446701170858492:True:=⟨⟩
theorem tw4936483359421988267:True:=⟨⟩
theorem tw9763268239775435451:True:=⟨⟩
theorem tw14168537005229113720:True:=⟨⟩
theorem tw7392212959928792091:True:=⟨⟩
theorem tw5697894365363955025:True:=⟨⟩
theorem tw8693227569615203950:True:=⟨⟩
theorem tw3442601649717412197:True:=⟨⟩
theorem tw8956626466110686224:True:=⟨⟩
theorem tw2902314222560053993:True:=⟨⟩
theorem tw14821650378409806113:True:=⟨⟩
theorem tw8753696776887207221:True:=⟨⟩
theorem tw932993149863042379:True:=⟨⟩
theorem tw6580340599500149305:True:=⟨⟩
theorem tw3264259588550801142:True:=⟨⟩
theorem tw11462045893675790159:True:=⟨⟩
theorem tw18263319221461684349:True:=⟨⟩
theorem tw6380047634161181297:True:=⟨⟩
theorem tw13678640442995254988:True:=⟨⟩
theorem tw16417370028952169744:True:=⟨⟩
theorem tw11543547407058413889:True:=⟨⟩
theorem tw13925586954763233925:True:=⟨⟩
theorem tw1886563365779066154:True:=⟨⟩
theorem tw11161088081135249708:True:=⟨⟩
theorem tw1702518465993881591:True:=⟨⟩
theorem tw4549333791460862111:True:=⟨⟩
theorem tw6019396324639902685:True:=⟨⟩
theorem tw13790547943244063326:True:=⟨⟩
theorem tw2401699919119007470:True:=⟨⟩
theorem tw8253183596043897158:True:=⟨⟩
theorem tw5862295025349918931:True:=⟨⟩
theorem tw6363645014702824404:True:=⟨⟩
theorem tw14973007898608030118:True:=⟨⟩
theorem tw8075568018651887793:True:=⟨⟩
theorem tw17001327861769816259:True:=⟨⟩
theorem tw9537544019596298400:True:=⟨⟩
theorem tw14433975572909055671:True:=⟨⟩
theorem tw5268983451555188008:True:=⟨⟩
theorem tw14971970265804392439:True:=⟨⟩
theorem tw3094477031063562474:True:=⟨⟩
theorem tw17100903815162463580:True:=⟨⟩
theorem tw15066959818950650227:True:=⟨⟩
theorem tw14214133299417103183:True:=⟨⟩
theorem tw4090926877573551719:True:=⟨⟩
theorem tw9577309144901391297:True:=⟨⟩
theorem tw15542691292777871779:True:=⟨⟩
theorem tw12813236842856870187:True:=⟨⟩
theorem tw1156252341971683116:True:=⟨⟩
theorem tw7987952416473584550:True:=⟨⟩
theorem tw12832477231654346042:True:=⟨⟩
theorem tw7140130562030077042:True:=⟨⟩
theorem tw9151444980202551346:True:=⟨⟩
theorem tw16018607276475445134:True:=⟨⟩
theorem tw15034313371233782410:True:=⟨⟩
theorem tw3152983702415266003:True:=⟨⟩
theorem tw3436264866546951355:True:=⟨⟩
theorem tw10942035263794033107:True:=⟨⟩
theorem tw1706496860858754268:True:=⟨⟩
theorem tw11108263761283441063:True:=⟨⟩
theorem tw2862820112641550484:True:=⟨⟩
theorem tw9396933662098498411:True:=⟨⟩
theorem tw12488000419048109807:True:=⟨⟩
theorem tw13254397897704925713:True:=⟨⟩
theorem tw7269565832213808900:True:=⟨⟩
theorem tw13776390136698705113:True:=⟨⟩
theorem tw11625766737575182897:True:=⟨⟩
theorem tw6550987210724342151:True:=⟨⟩
theorem tw11186114360453789277:True:=⟨⟩
theorem tw900395245841561262:True:=⟨⟩
theorem tw11788150170368784547:True:=⟨⟩
theorem tw4921902886906138986:True:=⟨⟩
theorem tw716658179208862652:True:=⟨⟩
theorem tw7098571738820278039:True:=⟨⟩
theorem tw14305139224198610471:True:=⟨⟩
theorem tw3209381107111851631:True:=⟨⟩
theorem tw12945451867199242903:True:=⟨⟩
theorem tw8098380416015320538:True:=⟨⟩
theorem tw11790162104776037713:True:=⟨⟩
theorem tw16874561944515371726:True:=⟨⟩
theorem tw7401281599722004195:True:=⟨⟩
theorem tw11310463157757771331:True:=⟨⟩
theorem tw4525517667737911620:True:=⟨⟩
theorem tw9265879793445154701:True:=⟨⟩
theorem tw15195428891847259777:True:=⟨⟩
theorem tw17026713947507217902:True:=⟨⟩
theorem tw12224578244612797663:True:=⟨⟩
theorem tw16697116713213952808:True:=⟨⟩
theorem tw608726401823008365:True:=⟨⟩
theorem tw6148621092414575339:True:=⟨⟩
theorem tw5345256250457102556:True:=⟨⟩
theorem tw878741703135273975:True:=⟨⟩
theorem tw5770868932273138760:True:=⟨⟩
theorem tw1962928258387122110:True:=⟨⟩
theorem tw16241802466949684156:True:=⟨⟩
theorem tw9023360108960004914:True:=⟨⟩
theorem tw9315938663221665524:True:=⟨⟩
theorem tw6059929106960060952:True:=⟨⟩
theorem tw4904739604578439355:True:=⟨⟩
theorem tw1333364371103165705:True:=⟨⟩
theorem tw1204117194425446250:True:=⟨⟩
theorem tw9673203406766833760:True:=⟨⟩
theorem tw6662432510661729299:True:=⟨⟩
theorem tw2922074901204462755:True:=⟨⟩
theorem tw13642483538084851733:True:=⟨⟩
theorem tw15663404670287596823:True:=⟨⟩
theorem tw8603108125212654177:True:=⟨⟩
theorem tw11994158751524154303:True:=⟨⟩
theorem tw17300597898927385350:True:=⟨⟩
theorem tw13615603153576403970:True:=⟨⟩
theorem tw4039474712603431140:True:=⟨⟩
theorem tw1218959903707654005:True:=⟨⟩
theorem tw17554001833073541016:True:=⟨⟩
theorem tw11863081143760314161:True:=⟨⟩
theorem tw11838138170533393997:True:=⟨⟩
theorem tw7483462131439158144:True:=⟨⟩
theorem tw10205541121877940668:True:=⟨⟩
theorem tw7299303143086499733:True:=⟨⟩
theorem tw16432479971616331241:True:=⟨⟩
theorem tw7365555872484859036:True:=⟨⟩
theorem tw12809422525583811893:True:=⟨⟩
theorem tw16916688483869632129:True:=⟨⟩
theorem tw17828083071136270317:True:=⟨⟩
theorem tw10042830170769951172:True:=⟨⟩
theorem tw8703263022893421829:True:=⟨⟩
theorem tw8017206721242287953:True:=⟨⟩
theorem tw3325841961599345399:True:=⟨⟩
theorem tw1620339239838986703:True:=⟨⟩
theorem tw12945968074294007009:True:=⟨⟩
theorem tw14553827428707814869:True:=⟨⟩
theorem tw3039592710220408265:True:=⟨⟩
theorem tw4575980220486274672:True:=⟨⟩
theorem tw558745408833754511:True:=⟨⟩
theorem tw7581352650102555174:True:=⟨⟩
theorem tw17532718790514356516:True:=⟨⟩
theorem tw10833955939284561965:True:=⟨⟩
theorem tw15323854079317868165:True:=⟨⟩
theorem tw14837249469386935497:True:=⟨⟩
theorem tw13141144453892091621:True:=⟨⟩
theorem tw9948023125614773506:True:=⟨⟩
theorem tw4933834842325187142:True:=⟨⟩
theorem tw10938465397075749097:True:=⟨⟩
theorem tw721709456127091705:True:=⟨⟩
theorem tw3118938333895590913:True:=⟨⟩
theorem tw11682084944484805031:True:=⟨⟩
theorem tw17730428716208468724:True:=⟨⟩
theorem tw1414301608579184545:True:=⟨⟩
theorem tw14223099787259518943:True:=⟨⟩
theorem tw17018628822417861297:True:=⟨⟩
theorem tw5706481520468235054:True:=⟨⟩
theorem tw8595292554425487202:True:=⟨⟩
theorem tw11985326045990495214:True:=⟨⟩
theorem tw12177639751122801600:True:=⟨⟩
theorem tw11796506867022685745:True:=⟨⟩
theorem tw6929956602132211858:True:=⟨⟩
theorem tw18126140380344562322:True:=⟨⟩
theorem tw16979880578912567463:True:=⟨⟩
theorem tw13236226663087606529:True:=⟨⟩
theorem tw17057272898397164401:True:=⟨⟩
theorem tw325292655437039998:True:=⟨⟩
theorem tw7783732958741208154:True:=⟨⟩
theorem tw12392613427281201732:True:=⟨⟩
theorem tw8555734327229750603:True:=⟨⟩
theorem tw392140993173905013:True:=⟨⟩
theorem tw7504490480230193789:True:=⟨⟩
theorem tw18056578402003937789:True:=⟨⟩
theorem tw10352308551163946355:True:=⟨⟩
theorem tw7286323032743288035:True:=⟨⟩
theorem tw10029231156530900338:True:=⟨⟩
theorem tw8119918657739134586:True:=⟨⟩
theorem tw8488268690174267210:True:=⟨⟩
theorem tw18416463498863911781:True:=⟨⟩
theorem tw11636919720809706868:True:=⟨⟩
theorem tw12371321757623732685:True:=⟨⟩
theorem tw11892598404827812706:True:=⟨⟩
theorem tw8047484207015712433:True:=⟨⟩
theorem tw383695940523520267:True:=⟨⟩
theorem tw8537084889766193716:True:=⟨⟩
theorem tw17497748084772794779:True:=⟨⟩
theorem tw12726346659333912481:True:=⟨⟩
theorem tw3131671291697673992:True:=⟨⟩
theorem tw662354867322794072:True:=⟨⟩
theorem tw15376083050721069600:True:=⟨⟩
theorem tw8359286648393180516:True:=⟨⟩
theorem tw12635297910168745909:True:=⟨⟩
theorem tw18340240734955500558:True:=⟨⟩
theorem tw2958062672499776758:True:=⟨⟩
theorem tw13809362725867891129:True:=⟨⟩
theorem tw13871001218405608335:True:=⟨⟩
theorem tw13002492023102617099:True:=⟨⟩
theorem tw1763209079605825380:True:=⟨⟩
theorem tw8459811325457737761:True:=⟨⟩
theorem tw16437185098154296904:True:=⟨⟩
theorem tw13559156169165276386:True:=⟨⟩
theorem tw6967401301877209104:True:=⟨⟩
theorem tw3386650904741475044:True:=⟨⟩
theorem tw2951486255847992690:True:=⟨⟩
theorem tw11707371222683016368:True:=⟨⟩
theorem tw12850107946570832962:True:=⟨⟩
theorem tw7892128664451923741:True:=⟨⟩
theorem tw2664551874359636763:True:=⟨⟩
theorem tw347637069881736656:True:=⟨⟩
theorem tw7469732015759309437:True:=⟨⟩
theorem tw1638017585896720355:True:=⟨⟩
theorem tw8400853705098224536:True:=⟨⟩
theorem tw4681523508651956083:True:=⟨⟩
theorem tw13252181687094117063:True:=⟨⟩
theorem tw18220123701641295943:True:=⟨⟩
theorem tw10487160056961263569:True:=⟨⟩
theorem tw9951705424602377420:True:=⟨⟩
theorem tw845909240378763026:True:=⟨⟩
theorem tw17765544955259793912:True:=⟨⟩
theorem tw11957962974430299695:True:=⟨⟩
theorem tw2039238271031011813:True:=⟨⟩
theorem tw13759679279233594173:True:=⟨⟩
theorem tw10706342367453228570:True:=⟨⟩
theorem tw6448080314894763839:True:=⟨⟩
theorem tw2447775223705975068:True:=⟨⟩
theorem tw1869930749605803152:True:=⟨⟩
theorem tw11495947367809530248:True:=⟨⟩
theorem tw4679858250743294509:True:=⟨⟩
theorem tw15542503528162795033:True:=⟨⟩
theorem tw12329403913580668285:True:=⟨⟩
theorem tw11707433790658880453:True:=⟨⟩
theorem tw441327347791068078:True:=⟨⟩
theorem tw9908251947323293946:True:=⟨⟩
theorem tw5032809538720368765:True:=⟨⟩
theorem tw18345786424863182364:True:=⟨⟩
theorem tw9407582987413476825:True:=⟨⟩
theorem tw6792406925840432001:True:=⟨⟩
theorem tw10670733350059645105:True:=⟨⟩
theorem tw7276740287692124622:True:=⟨⟩
theorem tw17520869792638436183:True:=⟨⟩
theorem tw10314498396905981064:True:=⟨⟩
theorem tw9626621113073979434:True:=⟨⟩
theorem tw1092655722715705105:True:=⟨⟩
theorem tw4630116404320636979:True:=⟨⟩
theorem tw16644606511662114574:True:=⟨⟩
theorem tw15766043655864335149:True:=⟨⟩
theorem tw14420389602138693270:True:=⟨⟩
theorem tw10795322020468737591:True:=⟨⟩
theorem tw6213141578215901147:True:=⟨⟩
theorem tw5701610774189311196:True:=⟨⟩
theorem tw11317593695737139937:True:=⟨⟩
theorem tw6817277305950994716:True:=⟨⟩
theorem tw17774800907425398282:True:=⟨⟩
theorem tw8596489363040539036:True:=⟨⟩
theorem tw17913803186225011329:True:=⟨⟩
theorem tw6090905460779295987:True:=⟨⟩
theorem tw11420187438672877268:True:=⟨⟩
theorem tw12866136484021002089:True:=⟨⟩
theorem tw5111356299099525756:True:=⟨⟩
theorem tw9821368406582625841:True:=⟨⟩
theorem tw14112274594779413971:True:=⟨⟩
theorem tw11939915149646268982:True:=⟨⟩
theorem tw11013792430000457035:True:=⟨⟩
theorem tw5832503352825792928:True:=⟨⟩
theorem tw5518745428033880147:True:=⟨⟩
theorem tw4748654258956052638:True:=⟨⟩
theorem tw7745614565497352828:True:=⟨⟩
theorem tw17537794083376710389:True:=⟨⟩
theorem tw8727135674562949291:True:=⟨⟩
theorem tw4797165386629745026:True:=⟨⟩
theorem tw16189536214700107852:True:=⟨⟩
theorem tw12022618010286034681:True:=⟨⟩
theorem tw2599325451414397859:True:=⟨⟩
theorem tw14979626087600564940:True:=⟨⟩
theorem tw13606957523739123596:True:=⟨⟩
theorem tw470574548607681690:True:=⟨⟩
theorem tw11452132507678324671:True:=⟨⟩
theorem tw2408619945344806742:True:=⟨⟩
theorem tw3560238982266916124:True:=⟨⟩
theorem tw8424611434330503625:True:=⟨⟩
theorem tw13900631225919944168:True:=⟨⟩
theorem tw16223305294053301992:True:=⟨⟩
theorem tw14023627001141898710:True:=⟨⟩
theorem tw9862997608875712007:True:=⟨⟩
theorem tw8376441433122354887:True:=⟨⟩
theorem tw12611609854453135530:True:=⟨⟩
theorem tw15894407043143930727:True:=⟨⟩
theorem tw18350638575300117064:True:=⟨⟩
theorem tw16942504070071679284:True:=⟨⟩
theorem tw17561685609155626696:True:=⟨⟩
theorem tw5976474108018559520:True:=⟨⟩
theorem tw11729385059970357855:True:=⟨⟩
theorem tw13036272033356848781:True:=⟨⟩
theorem tw13981391230805400906:True:=⟨⟩
theorem tw930746551332336609:True:=⟨⟩
theorem tw10227693086864044499:True:=⟨⟩
theorem tw14326252917377295143:True:=⟨⟩
theorem tw6654550962395885724:True:=⟨⟩
theorem tw6245536207120538393:True:=⟨⟩
theorem tw16414604833108395602:True:=⟨⟩
theorem tw3470799630455053000:True:=⟨⟩
theorem tw16349804527192203551:True:=⟨⟩
theorem tw15450981722951097364:True:=⟨⟩
theorem tw7788680626742099145:True:=⟨⟩
theorem tw5200128776193632040:True:=⟨⟩
theorem tw12450158673883907302:True:=⟨⟩
theorem tw1377046205977697930:True:=⟨⟩
theorem tw9564595351457756722:True:=⟨⟩
theorem tw7323676302269181137:True:=⟨⟩
theorem tw9305782018832362445:True:=⟨⟩
theorem tw387338674003428930:True:=⟨⟩
theorem tw17000458434675057986:True:=⟨⟩
theorem tw5135500740108067664:True:=⟨⟩
theorem tw16792545251062261874:True:=⟨⟩
theorem tw17024950926791866790:True:=⟨⟩
theorem tw1772237422875290029:True:=⟨⟩
theorem tw7650934615059315214:True:=⟨⟩
theorem tw16049961110935095269:True:=⟨⟩
theorem tw7802139600951554647:True:=⟨⟩
theorem tw10500077913531017323:True:=⟨⟩
theorem tw9529234661008812162:True:=⟨⟩
theorem tw18211773271919218964:True:=⟨⟩
theorem tw9467589175468403638:True:=⟨⟩
theorem tw10508251915553800215:True:=⟨⟩
theorem tw17341736924252097559:True:=⟨⟩
theorem tw10470071008263537045:True:=⟨⟩
theorem tw117213463901210413:True:=⟨⟩
theorem tw15742981410569661332:True:=⟨⟩
theorem tw4775785305629353868:True:=⟨⟩
theorem tw10317580896714288900:True:=⟨⟩
theorem tw14530364306720264245:True:=⟨⟩
theorem tw5902227825499142635:True:=⟨⟩
theorem tw8989982439271903415:True:=⟨⟩
theorem tw3764465048917985505:True:=⟨⟩
theorem tw17279654841073493023:True:=⟨⟩
theorem tw9413167413068371254:True:=⟨⟩
theorem tw9800571698397750058:True:=⟨⟩
theorem tw11566699232636054958:True:=⟨⟩
theorem tw6714822604882049554:True:=⟨⟩
theorem tw16176465441171805009:True:=⟨⟩
theorem tw13512673800721320934:True:=⟨⟩
end PySem.W.Fast
open PySem PySem.W PySem.Calls PyProof.Rows
set_option maxHeartbeats 4000000
set_option maxRecDepth 100000
set_option linter.all false
set_option genSizeOf false
set_option genSizeOfSpec false
set_option compiler.extract_closed false
set_option linter.unusedVariables false
set_option tactic.hygienic false
namespace Mine
set_option tactic.hygienic true in
set_option maxHeartbeats 8000000 in
open_top hd for PySem.Challenge.rw_rh0103_01
theorem noneE {α : Type} {a : α} {r : Prop} (h : (none : Option α) = some a) : r := nomatch h
theorem someE {α : Type} {a : α} {r : Prop} (h : some a = none) : r := nomatch h
theorem trueE {r : Prop} (h : true = false) : r := nomatch h
theorem falseE {r : Prop} (h : false = true) : r := nomatch h
theorem exA  {p0 : Prop} {p1 : Prop} {r : Prop} (h : p0 ∧ p1) (f : p0 → p1 → r) : r := f (h.1) (h.2)
theorem exE {α0 : Sort u0} {p0 : α0 → Prop} {r : Prop} (h : ∃ x0, p0 x0) (f : ∀ x0, p0 x0 → r) : r := Exists.elim (h) fun x0 q0 => f x0 (q0)
theorem exAA  {p0 : Prop} {p1 : Prop} {p2 : Prop} {r : Prop} (h : p0 ∧ p1 ∧ p2) (f : p0 → p1 → p2 → r) : r := f (h.1) (h.2.1) (h.2.2)
theorem exAE {α0 : Sort u0} {p0 : Prop} {p1 : α0 → Prop} {r : Prop} (h : p0 ∧ ∃ x0, p1 x0) (f : p0 → ∀ x0, p1 x0 → r) : r := Exists.elim (h.2) fun x0 q0 => f (h.1) x0 (q0)
theorem exEA {α0 : Sort u0} {p0 : α0 → Prop} {p1 : α0 → Prop} {r : Prop} (h : ∃ x0, p0 x0 ∧ p1 x0) (f : ∀ x0, p0 x0 → p1 x0 → r) : r := Exists.elim (h) fun x0 q0 => f x0 (q0.1) (q0.2)
theorem exAAA  {p0 : Prop} {p1 : Prop} {p2 : Prop} {p3 : Prop} {r : Prop} (h : p0 ∧ p1 ∧ p2 ∧ p3) (f : p0 → p1 → p2 → p3 → r) : r := f (h.1) (h.2.1) (h.2.2.1) (h.2.2.2)
theorem exEAA {α0 : Sort u0} {p0 : α0 → Prop} {p1 : α0 → Prop} {p2 : α0 → Prop} {r : Prop} (h : ∃ x0, p0 x0 ∧ p1 x0 ∧ p2 x0) (f : ∀ x0, p0 x0 → p1 x0 → p2 x0 → r) : r := Exists.elim (h) fun x0 q0 => f x0 (q0.1) (q0.2.1) (q0.2.2)
theorem exEEA {α0 : Sort u0} {α1 : Sort u1} {p0 : α0 → α1 → Prop} {p1 : α0 → α1 → Prop} {r : Prop} (h : ∃ x0, ∃ x1, p0 x0 x1 ∧ p1 x0 x1) (f : ∀ x0, ∀ x1, p0 x0 x1 → p1 x0 x1 → r) : r := Exists.elim (h) fun x0 q0 => Exists.elim (q0) fun x1 q1 => f x0 x1 (q1.1) (q1.2)
theorem exEEE {α0 : Sort u0} {α1 : Sort u1} {α2 : Sort u2} {p0 : α0 → α1 → α2 → Prop} {r : Prop} (h : ∃ x0, ∃ x1, ∃ x2, p0 x0 x1 x2) (f : ∀ x0, ∀ x1, ∀ x2, p0 x0 x1 x2 → r) : r := Exists.elim (h) fun x0 q0 => Exists.elim (q0) fun x1 q1 => Exists.elim (q1) fun x2 q2 => f x0 x1 x2 (q2)
theorem exAAAA  {p0 : Prop} {p1 : Prop} {p2 : Prop} {p3 : Prop} {p4 : Prop} {r : Prop} (h : p0 ∧ p1 ∧ p2 ∧ p3 ∧ p4) (f : p0 → p1 → p2 → p3 → p4 → r) : r := f (h.1) (h.2.1) (h.2.2.1) (h.2.2.2.1) (h.2.2.2.2)
theorem exAEEA {α0 : Sort u0} {α1 : Sort u1} {p0 : Prop} {p1 : α0 → α1 → Prop} {p2 : α0 → α1 → Prop} {r : Prop} (h : p0 ∧ ∃ x0, ∃ x1, p1 x0 x1 ∧ p2 x0 x1) (f : p0 → ∀ x0, ∀ x1, p1 x0 x1 → p2 x0 x1 → r) : r := Exists.elim (h.2) fun x0 q0 => Exists.elim (q0) fun x1 q1 => f (h.1) x0 x1 (q1.1) (q1.2)
theorem exEAAA {α0 : Sort u0} {p0 : α0 → Prop} {p1 : α0 → Prop} {p2 : α0 → Prop} {p3 : α0 → Prop} {r : Prop} (h : ∃ x0, p0 x0 ∧ p1 x0 ∧ p2 x0 ∧ p3 x0) (f : ∀ x0, p0 x0 → p1 x0 → p2 x0 → p3 x0 → r) : r := Exists.elim (h) fun x0 q0 => f x0 (q0.1) (q0.2.1) (q0.2.2.1) (q0.2.2.2)
theorem exEAEA {α0 : Sort u0} {α1 : Sort u1} {p0 : α0 → Prop} {p1 : α0 → α1 → Prop} {p2 : α0 → α1 → Prop} {r : Prop} (h : ∃ x0, p0 x0 ∧ ∃ x1, p1 x0 x1 ∧ p2 x0 x1) (f : ∀ x0, p0 x0 → ∀ x1, p1 x0 x1 → p2 x0 x1 → r) : r := Exists.elim (h) fun x0 q0 => Exists.elim (q0.2) fun x1 q1 => f x0 (q0.1) x1 (q1.1) (q1.2)
theorem exEEAA {α0 : Sort u0} {α1 : Sort u1} {p0 : α0 → α1 → Prop} {p1 : α0 → α1 → Prop} {p2 : α0 → α1 → Prop} {r : Prop} (h : ∃ x0, ∃ x1, p0 x0 x1 ∧ p1 x0 x1 ∧ p2 x0 x1) (f : ∀ x0, ∀ x1, p0 x0 x1 → p1 x0 x1 → p2 x0 x1 → r) : r := Exists.elim (h) fun x0 q0 => Exists.elim (q0) fun x1 q1 => f x0 x1 (q1.1) (q1.2.1) (q1.2.2)
theorem exEEEA {α0 : Sort u0} {α1 : Sort u1} {α2 : Sort u2} {p0 : α0 → α1 → α2 → Prop} {p1 : α0 → α1 → α2 → Prop} {r : Prop} (h : ∃ x0, ∃ x1, ∃ x2, p0 x0 x1 x2 ∧ p1 x0 x1 x2) (f : ∀ x0, ∀ x1, ∀ x2, p0 x0 x1 x2 → p1 x0 x1 x2 → r) : r := Exists.elim (h) fun x0 q0 => Exists.elim (q0) fun x1 q1 => Exists.elim (q1) fun x2 q2 => f x0 x1 x2 (q2.1) (q2.2)
theorem exAAAAA  {p0 : Prop} {p1 : Prop} {p2 : Prop} {p3 : Prop} {p4 : Prop} {p5 : Prop} {r : Prop} (h : p0 ∧ p1 ∧ p2 ∧ p3 ∧ p4 ∧ p5) (f : p0 → p1 → p2 → p3 → p4 → p5 → r) : r := f (h.1) (h.2.1) (h.2.2.1) (h.2.2.2.1) (h.2.2.2.2.1) (h.2.2.2.2.2)
theorem exEAAAA {α0 : Sort u0} {p0 : α0 → Prop} {p1 : α0 → Prop} {p2 : α0 → Prop} {p3 : α0 → Prop} {p4 : α0 → Prop} {r : Prop} (h : ∃ x0, p0 x0 ∧ p1 x0 ∧ p2 x0 ∧ p3 x0 ∧ p4 x0) (f : ∀ x0, p0 x0 → p1 x0 → p2 x0 → p3 x0 → p4 x0 → r) : r := Exists.elim (h) fun x0 q0 => f x0 (q0.1) (q0.2.1) (q0.2.2.1) (q0.2.2.2.1) (q0.2.2.2.2)
theorem exEAEAA {α0 : Sort u0} {α1 : Sort u1} {p0 : α0 → Prop} {p1 : α0 → α1 → Prop} {p2 : α0 → α1 → Prop} {p3 : α0 → α1 → Prop} {r : Prop} (h : ∃ x0, p0 x0 ∧ ∃ x1, p1 x0 x1 ∧ p2 x0 x1 ∧ p3 x0 x1) (f : ∀ x0, p0 x0 → ∀ x1, p1 x0 x1 → p2 x0 x1 → p3 x0 x1 → r) : r := Exists.elim (h) fun x0 q0 => Exists.elim (q0.2) fun x1 q1 => f x0 (q0.1) x1 (q1.1) (q1.2.1) (q1.2.2)
theorem exEEAAA {α0 : Sort u0} {α1 : Sort u1} {p0 : α0 → α1 → Prop} {p1 : α0 → α1 → Prop} {p2 : α0 → α1 → Prop} {p3 : α0 → α1 → Prop} {r : Prop} (h : ∃ x0, ∃ x1, p0 x0 x1 ∧ p1 x0 x1 ∧ p2 x0 x1 ∧ p3 x0 x1) (f : ∀ x0, ∀ x1, p0 x0 x1 → p1 x0 x1 → p2 x0 x1 → p3 x0 x1 → r) : r := Exists.elim (h) fun x0 q0 => Exists.elim (q0) fun x1 q1 => f x0 x1 (q1.1) (q1.2.1) (q1.2.2.1) (q1.2.2.2)
theorem exEEEAA {α0 : Sort u0} {α1 : Sort u1} {α2 : Sort u2} {p0 : α0 → α1 → α2 → Prop} {p1 : α0 → α1 → α2 → Prop} {p2 : α0 → α1 → α2 → Prop} {r : Prop} (h : ∃ x0, ∃ x1, ∃ x2, p0 x0 x1 x2 ∧ p1 x0 x1 x2 ∧ p2 x0 x1 x2) (f : ∀ x0, ∀ x1, ∀ x2, p0 x0 x1 x2 → p1 x0 x1 x2 → p2 x0 x1 x2 → r) : r := Exists.elim (h) fun x0 q0 => Exists.elim (q0) fun x1 q1 => Exists.elim (q1) fun x2 q2 => f x0 x1 x2 (q2.1) (q2.2.1) (q2.2.2)
theorem exEEEEE {α0 : Sort u0} {α1 : Sort u1} {α2 : Sort u2} {α3 : Sort u3} {α4 : Sort u4} {p0 : α0 → α1 → α2 → α3 → α4 → Prop} {r : Prop} (h : ∃ x0, ∃ x1, ∃ x2, ∃ x3, ∃ x4, p0 x0 x1 x2 x3 x4) (f : ∀ x0, ∀ x1, ∀ x2, ∀ x3, ∀ x4, p0 x0 x1 x2 x3 x4 → r) : r := Exists.elim (h) fun x0 q0 => Exists.elim (q0) fun x1 q1 => Exists.elim (q1) fun x2 q2 => Exists.elim (q2) fun x3 q3 => Exists.elim (q3) fun x4 q4 => f x0 x1 x2 x3 x4 (q4)
theorem exAAAAAA  {p0 : Prop} {p1 : Prop} {p2 : Prop} {p3 : Prop} {p4 : Prop} {p5 : Prop} {p6 : Prop} {r : Prop} (h : p0 ∧ p1 ∧ p2 ∧ p3 ∧ p4 ∧ p5 ∧ p6) (f : p0 → p1 → p2 → p3 → p4 → p5 → p6 → r) : r := f (h.1) (h.2.1) (h.2.2.1) (h.2.2.2.1) (h.2.2.2.2.1) (h.2.2.2.2.2.1) (h.2.2.2.2.2.2)
theorem exEEAAAA {α0 : Sort u0} {α1 : Sort u1} {p0 : α0 → α1 → Prop} {p1 : α0 → α1 → Prop} {p2 : α0 → α1 → Prop} {p3 : α0 → α1 → Prop} {p4 : α0 → α1 → Prop} {r : Prop} (h : ∃ x0, ∃ x1, p0 x0 x1 ∧ p1 x0 x1 ∧ p2 x0 x1 ∧ p3 x0 x1 ∧ p4 x0 x1) (f : ∀ x0, ∀ x1, p0 x0 x1 → p1 x0 x1 → p2 x0 x1 → p3 x0 x1 → p4 x0 x1 → r) : r := Exists.elim (h) fun x0 q0 => Exists.elim (q0) fun x1 q1 => f x0 x1 (q1.1) (q1.2.1) (q1.2.2.1) (q1.2.2.2.1) (q1.2.2.2.2)
theorem exEEEAAA {α0 : Sort u0} {α1 : Sort u1} {α2 : Sort u2} {p0 : α0 → α1 → α2 → Prop} {p1 : α0 → α1 → α2 → Prop} {p2 : α0 → α1 → α2 → Prop} {p3 : α0 → α1 → α2 → Prop} {r : Prop} (h : ∃ x0, ∃ x1, ∃ x2, p0 x0 x1 x2 ∧ p1 x0 x1 x2 ∧ p2 x0 x1 x2 ∧ p3 x0 x1 x2) (f : ∀ x0, ∀ x1, ∀ x2, p0 x0 x1 x2 → p1 x0 x1 x2 → p2 x0 x1 x2 → p3 x0 x1 x2 → r) : r := Exists.elim (h) fun x0 q0 => Exists.elim (q0) fun x1 q1 => Exists.elim (q1) fun x2 q2 => f x0 x1 x2 (q2.1) (q2.2.1) (q2.2.2.1) (q2.2.2.2)
theorem exEEEEEE {α0 : Sort u0} {α1 : Sort u1} {α2 : Sort u2} {α3 : Sort u3} {α4 : Sort u4} {α5 : Sort u5} {p0 : α0 → α1 → α2 → α3 → α4 → α5 → Prop} {r : Prop} (h : ∃ x0, ∃ x1, ∃ x2, ∃ x3, ∃ x4, ∃ x5, p0 x0 x1 x2 x3 x4 x5) (f : ∀ x0, ∀ x1, ∀ x2, ∀ x3, ∀ x4, ∀ x5, p0 x0 x1 x2 x3 x4 x5 → r) : r := Exists.elim (h) fun x0 q0 => Exists.elim (q0) fun x1 q1 => Exists.elim (q1) fun x2 q2 => Exists.elim (q2) fun x3 q3 => Exists.elim (q3) fun x4 q4 => Exists.elim (q4) fun x5 q5 => f x0 x1 x2 x3 x4 x5 (q5)
theorem exAEEEAAA {α0 : Sort u0} {α1 : Sort u1} {α2 : Sort u2} {p0 : Prop} {p1 : α0 → α1 → α2 → Prop} {p2 : α0 → α1 → α2 → Prop} {p3 : α0 → α1 → α2 → Prop} {p4 : α0 → α1 → α2 → Prop} {r : Prop} (h : p0 ∧ ∃ x0, ∃ x1, ∃ x2, p1 x0 x1 x2 ∧ p2 x0 x1 x2 ∧ p3 x0 x1 x2 ∧ p4 x0 x1 x2) (f : p0 → ∀ x0, ∀ x1, ∀ x2, p1 x0 x1 x2 → p2 x0 x1 x2 → p3 x0 x1 x2 → p4 x0 x1 x2 → r) : r := Exists.elim (h.2) fun x0 q0 => Exists.elim (q0) fun x1 q1 => Exists.elim (q1) fun x2 q2 => f (h.1) x0 x1 x2 (q2.1) (q2.2.1) (q2.2.2.1) (q2.2.2.2)
theorem exAEEEAAAA {α0 : Sort u0} {α1 : Sort u1} {α2 : Sort u2} {p0 : Prop} {p1 : α0 → α1 → α2 → Prop} {p2 : α0 → α1 → α2 → Prop} {p3 : α0 → α1 → α2 → Prop} {p4 : α0 → α1 → α2 → Prop} {p5 : α0 → α1 → α2 → Prop} {r : Prop} (h : p0 ∧ ∃ x0, ∃ x1, ∃ x2, p1 x0 x1 x2 ∧ p2 x0 x1 x2 ∧ p3 x0 x1 x2 ∧ p4 x0 x1 x2 ∧ p5 x0 x1 x2) (f : p0 → ∀ x0, ∀ x1, ∀ x2, p1 x0 x1 x2 → p2 x0 x1 x2 → p3 x0 x1 x2 → p4 x0 x1 x2 → p5 x0 x1 x2 → r) : r := Exists.elim (h.2) fun x0 q0 => Exists.elim (q0) fun x1 q1 => Exists.elim (q1) fun x2 q2 => f (h.1) x0 x1 x2 (q2.1) (q2.2.1) (q2.2.2.1) (q2.2.2.2.1) (q2.2.2.2.2)
theorem exEEEEAAAA {α0 : Sort u0} {α1 : Sort u1} {α2 : Sort u2} {α3 : Sort u3} {p0 : α0 → α1 → α2 → α3 → Prop} {p1 : α0 → α1 → α2 → α3 → Prop} {p2 : α0 → α1 → α2 → α3 → Prop} {p3 : α0 → α1 → α2 → α3 → Prop} {p4 : α0 → α1 → α2 → α3 → Prop} {r : Prop} (h : ∃ x0, ∃ x1, ∃ x2, ∃ x3, p0 x0 x1 x2 x3 ∧ p1 x0 x1 x2 x3 ∧ p2 x0 x1 x2 x3 ∧ p3 x0 x1 x2 x3 ∧ p4 x0 x1 x2 x3) (f : ∀ x0, ∀ x1, ∀ x2, ∀ x3, p0 x0 x1 x2 x3 → p1 x0 x1 x2 x3 → p2 x0 x1 x2 x3 → p3 x0 x1 x2 x3 → p4 x0 x1 x2 x3 → r) : r := Exists.elim (h) fun x0 q0 => Exists.elim (q0) fun x1 q1 => Exists.elim (q1) fun x2 q2 => Exists.elim (q2) fun x3 q3 => f x0 x1 x2 x3 (q3.1) (q3.2.1) (q3.2.2.1) (q3.2.2.2.1) (q3.2.2.2.2)
theorem exEEEEEEEE {α0 : Sort u0} {α1 : Sort u1} {α2 : Sort u2} {α3 : Sort u3} {α4 : Sort u4} {α5 : Sort u5} {α6 : Sort u6} {α7 : Sort u7} {p0 : α0 → α1 → α2 → α3 → α4 → α5 → α6 → α7 → Prop} {r : Prop} (h : ∃ x0, ∃ x1, ∃ x2, ∃ x3, ∃ x4, ∃ x5, ∃ x6, ∃ x7, p0 x0 x1 x2 x3 x4 x5 x6 x7) (f : ∀ x0, ∀ x1, ∀ x2, ∀ x3, ∀ x4, ∀ x5, ∀ x6, ∀ x7, p0 x0 x1 x2 x3 x4 x5 x6 x7 → r) : r := Exists.elim (h) fun x0 q0 => Exists.elim (q0) fun x1 q1 => Exists.elim (q1) fun x2 q2 => Exists.elim (q2) fun x3 q3 => Exists.elim (q3) fun x4 q4 => Exists.elim (q4) fun x5 q5 => Exists.elim (q5) fun x6 q6 => Exists.elim (q6) fun x7 q7 => f x0 x1 x2 x3 x4 x5 x6 x7 (q7)
theorem exAAAAAAAAAAA  {p0 : Prop} {p1 : Prop} {p2 : Prop} {p3 : Prop} {p4 : Prop} {p5 : Prop} {p6 : Prop} {p7 : Prop} {p8 : Prop} {p9 : Prop} {p10 : Prop} {p11 : Prop} {r : Prop} (h : p0 ∧ p1 ∧ p2 ∧ p3 ∧ p4 ∧ p5 ∧ p6 ∧ p7 ∧ p8 ∧ p9 ∧ p10 ∧ p11) (f : p0 → p1 → p2 → p3 → p4 → p5 → p6 → p7 → p8 → p9 → p10 → p11 → r) : r := f (h.1) (h.2.1) (h.2.2.1) (h.2.2.2.1) (h.2.2.2.2.1) (h.2.2.2.2.2.1) (h.2.2.2.2.2.2.1) (h.2.2.2.2.2.2.2.1) (h.2.2.2.2.2.2.2.2.1) (h.2.2.2.2.2.2.2.2.2.1) (h.2.2.2.2.2.2.2.2.2.2.1) (h.2.2.2.2.2.2.2.2.2.2.2)
theorem exEEEEEEEEEEE {α0 : Sort u0} {α1 : Sort u1} {α2 : Sort u2} {α3 : Sort u3} {α4 : Sort u4} {α5 : Sort u5} {α6 : Sort u6} {α7 : Sort u7} {α8 : Sort u8} {α9 : Sort u9} {α10 : Sort u10} {p0 : α0 → α1 → α2 → α3 → α4 → α5 → α6 → α7 → α8 → α9 → α10 → Prop} {r : Prop} (h : ∃ x0, ∃ x1, ∃ x2, ∃ x3, ∃ x4, ∃ x5, ∃ x6, ∃ x7, ∃ x8, ∃ x9, ∃ x10, p0 x0 x1 x2 x3 x4 x5 x6 x7 x8 x9 x10) (f : ∀ x0, ∀ x1, ∀ x2, ∀ x3, ∀ x4, ∀ x5, ∀ x6, ∀ x7, ∀ x8, ∀ x9, ∀ x10, p0 x0 x1 x2 x3 x4 x5 x6 x7 x8 x9 x10 → r) : r := Exists.elim (h) fun x0 q0 => Exists.elim (q0) fun x1 q1 => Exists.elim (q1) fun x2 q2 => Exists.elim (q2) fun x3 q3 => Exists.elim (q3) fun x4 q4 => Exists.elim (q4) fun x5 q5 => Exists.elim (q5) fun x6 q6 => Exists.elim (q6) fun x7 q7 => Exists.elim (q7) fun x8 q8 => Exists.elim (q8) fun x9 q9 => Exists.elim (q9) fun x10 q10 => f x0 x1 x2 x3 x4 x5 x6 x7 x8 x9 x10 (q10)
theorem exAAAAAAAAAAAAAAAA  {p0 : Prop} {p1 : Prop} {p2 : Prop} {p3 : Prop} {p4 : Prop} {p5 : Prop} {p6 : Prop} {p7 : Prop} {p8 : Prop} {p9 : Prop} {p10 : Prop} {p11 : Prop} {p12 : Prop} {p13 : Prop} {p14 : Prop} {p15 : Prop} {p16 : Prop} {r : Prop} (h : p0 ∧ p1 ∧ p2 ∧ p3 ∧ p4 ∧ p5 ∧ p6 ∧ p7 ∧ p8 ∧ p9 ∧ p10 ∧ p11 ∧ p12 ∧ p13 ∧ p14 ∧ p15 ∧ p16) (f : p0 → p1 → p2 → p3 → p4 → p5 → p6 → p7 → p8 → p9 → p10 → p11 → p12 → p13 → p14 → p15 → p16 → r) : r := f (h.1) (h.2.1) (h.2.2.1) (h.2.2.2.1) (h.2.2.2.2.1) (h.2.2.2.2.2.1) (h.2.2.2.2.2.2.1) (h.2.2.2.2.2.2.2.1) (h.2.2.2.2.2.2.2.2.1) (h.2.2.2.2.2.2.2.2.2.1) (h.2.2.2.2.2.2.2.2.2.2.1) (h.2.2.2.2.2.2.2.2.2.2.2.1) (h.2.2.2.2.2.2.2.2.2.2.2.2.1) (h.2.2.2.2.2.2.2.2.2.2.2.2.2.1) (h.2.2.2.2.2.2.2.2.2.2.2.2.2.2.1) (h.2.2.2.2.2.2.2.2.2.2.2.2.2.2.2.1) (h.2.2.2.2.2.2.2.2.2.2.2.2.2.2.2.2)
structure Gl where
 prog : Program
 w : World
 K : Frag
 p : Program
 loose : List Str
 mean : ExcName → Option Value
 mg : Str → Option Value
 mb : Str → Option Value
inductive AV where
 | none
 | bool (b : Bool)
 | int (i : Int)
 | str (s : Str)
 | tup (xs : List AV)
 | ref (a : Addr)
 | raw (v : Value)
 deriving Inhabited
noncomputable abbrev Led := List (Addr × Obj)
noncomputable abbrev tupObj (vs : List Value) : Obj := { cls := .type "tuple", data := .seq vs.toArray }
mutual
noncomputable def VR (news : Led) : AV → Value → Prop
 | .none, v => v = .none
 | .bool b, v => v = .bool b
 | .int i, v => ∃ t, v = .int i t
 | .str x, v => ∃ t, v = .str x t
 | .ref a, v => v = .ref a
 | .raw x, v => v = x
 | .tup xs, v => ∃ a vs, v = .ref a ∧ (a, tupObj vs) ∈ news ∧ VRs news xs vs
noncomputable def VRs (news : Led) : List AV → List Value → Prop
 | [], vs => vs = []
 | x :: xs, vs => ∃ v r, vs = v :: r ∧ VR news x v ∧ VRs news xs r
end
noncomputable def PR {κ : Type} (news : Led) : List (κ × AV) → List (κ × Value) → Prop
 | [], l => l = []
 | (k, a) :: r, l => ∃ v l', l = (k, v) :: l' ∧ VR news a v ∧ PR news r l'
noncomputable def AtR (news : Led) : List (Str × AV) → List DictEntry → Prop
 | [], l => l = []
 | (k, a) :: r, l => ∃ e l' t, l = e :: l' ∧ e.key = .str k t ∧ VR news a e.val ∧ AtR news r l'
inductive Atom where
 | i (n : Int)
 | s (x : Str)
 deriving DecidableEq, Inhabited
noncomputable def Atom.av : Atom → AV
 | .i n => .int n
 | .s x => .str x
noncomputable def Atom.is : Atom → Value → Bool
 | .i n, v => Value.isInt n v
 | .s x, v => Value.isStrOf x v
theorem Atom.shape {a : Atom} {v : Value} (h : a.is v = true) : (∃ n t, a = .i n ∧ v = .int n t) ∨ ∃ x t, a = .s x ∧ v = .str x t := by
 cases a with
 | i n => (refine exE (Value.isInt_shape h) fun t zq0 => ?_; rcases zq0 with rfl); exact .inl ⟨n, t, rfl, rfl⟩
 | s x => (refine exE (Value.isStrOf_shape h) fun t zq0 => ?_; rcases zq0 with rfl); exact .inr ⟨x, t, rfl, rfl⟩
theorem eqBool_int_str {prog : Program} {w : World} {A : Around} {E : Value → Shared → Prop} {s : Shared} {n : Int} {x : Str} {t u : Tok} {Q : Bool → Shared → Prop} (h : Q false s) : wpAny (model prog w) A (eqBool (.int n t) (.str x u)) Q E s := by
 unfold eqBool
 try with_reducible refine wpAny_holding ?_
 rw [if_neg (by (exact Bool.false_ne_true))]
 exact wpAny_bind (EqMixed.eq_int_str (wpAny_truthy_bool h))
theorem eqBool_str_int {prog : Program} {w : World} {A : Around} {E : Value → Shared → Prop} {s : Shared} {n : Int} {x : Str} {t u : Tok} {Q : Bool → Shared → Prop} (h : Q false s) : wpAny (model prog w) A (eqBool (.str x u) (.int n t)) Q E s := by
 unfold eqBool
 try with_reducible refine wpAny_holding ?_
 rw [if_neg (by (exact Bool.false_ne_true))]
 exact wpAny_bind (EqMixed.eq_str_int (wpAny_truthy_bool h))
noncomputable def atomKind (prog : Program) (w : World) : KeyKind prog w Atom where
 is := Atom.is
 hash := fun | .i n => hashInt n | .s x => hashStr w x
 inj := fun v a b ha hb => by
   rcases Atom.shape ha with ⟨n, t, rfl, rfl⟩ | ⟨x, t, rfl, rfl⟩ <;> rcases Atom.shape hb with ⟨m, u, rfl, e⟩ | ⟨y, u, rfl, e⟩ <;> cases e <;> rfl
 byValue := fun k v h => by rcases Atom.shape h with ⟨n, t, rfl, rfl⟩ | ⟨x, t, rfl, rfl⟩ <;> rfl
 pyHash := fun hv h => by
   rcases Atom.shape hv with ⟨n, t, rfl, rfl⟩ | ⟨x, t, rfl, rfl⟩
   · exact wpAny_pyHash_int h
   · exact wpAny_pyHash_str h
 eqBool := fun ha hb h => by
   rcases Atom.shape ha with ⟨n, t, rfl, rfl⟩ | ⟨x, t, rfl, rfl⟩ <;> rcases Atom.shape hb with ⟨m, u, rfl, rfl⟩ | ⟨y, u, rfl, rfl⟩
   · refine wpAny_eqBool_int ?_
     have : (n == m) = decide (Atom.i n = Atom.i m) := by by_cases q : n = m <;> simp [q]
     rw [this]; exact h
   · exact eqBool_int_str (by simpa using h)
   · exact eqBool_str_int (by simpa using h)
   · exact wpAny_eqBool_str (by simpa using h)
 «strs» := fun k x t v h => by
   rcases Atom.shape h with ⟨n, u, rfl, e⟩ | ⟨y, u, rfl, e⟩
   · cases e
   · cases e; cases v <;> rfl
noncomputable abbrev tK (G : Gl) : HeapKind G.prog G.w (List Atom) := tupleKind (atomKind G.prog G.w)
noncomputable def TKR (news : Led) : List (List Atom × AV) → List (List Atom × Addr × Value) → Prop
 | [], xs => xs = []
 | (k, a) :: r, xs => ∃ t v xs' vs, xs = (k, t, v) :: xs' ∧ (t, tupObj vs) ∈ news ∧ VRs news (k.map Atom.av) vs ∧ VR news a v ∧ TKR news r xs'
noncomputable abbrev revTO (t : Addr) (n : Int) : Obj := { cls := .type "reversed", data := .fields #[.ref t, rawInt n] }
inductive AO where
 | list (xs : List AV)
 | tdict (es : List (List Atom × AV))
 | revT (xs : List AV)
 | revL (l : Addr) (n : Nat)
 | junk
 | idict (es : List (Int × AV))
 | sdict (es : List (Str × AV))
 | iset (S : Int → Bool)
 | inst (C dx : Addr)
 | attrs (es : List (Str × AV))
 | cell (v : AV)
 | cell0
 | range (n : Int)
 | ro (o : AO) (ob : Obj)
noncomputable def AO.isD : AO → Bool
 | .idict _ => true
 | .sdict _ => true
 | .tdict _ => true
 | .ro o _ => o.isD
 | _ => false
noncomputable def AO.view : AO → AO
 | .ro o _ => o
 | o => o
noncomputable def b2n (b : Bool) : Nat := if b then 1 else 0
noncomputable def cnt (S : Int → Bool) : Nat := b2n (S 0) + b2n (S 1) + b2n (S 2) + b2n (S 3) + b2n (S 4) + b2n (S 5) + b2n (S 6) + b2n (S 7)
noncomputable def OR (G : Gl) (news : Led) : AO → Obj → Prop
 | .list xs, o => ∃ vs n, o = listOf vs.toArray n ∧ VRs news xs vs
 | .tdict es, o => o.ExactDict ∧ ∃ eds ep xs, o.data = .dict eds ep ∧ eds.toList = xs.map (entryOfKey (tK G)) ∧ (xs.map (·.1)).Nodup ∧ TKR news es xs
 | .revT xs, o => ∃ t vs, o = revTO t ((xs.length : Int) - 1) ∧ (t, tupObj vs) ∈ news ∧ VRs news xs vs
 | .revL l n, o => o = revObj l ((n : Int) - 1)
 | .junk, o => (o.cls == .type "tuple") = false
 | .idict es, o => ∃ kvs, o.IsDictOf (intKind G.prog G.w) kvs ∧ PR news es kvs
 | .sdict es, o => ∃ kvs, o.IsDictOf (strKind G.prog G.w) kvs ∧ PR news es kvs
 | .iset S, o => o.SetObjOf (intKind G.prog G.w) S (cnt S) ∧ ∀ k, S k = true → 0 ≤ k ∧ k < 8
 | .inst C dx, o => o = instObj C dx
 | .attrs es, o => ∃ l n, o = dictOf l n ∧ AtR news es l
 | .cell a, o => ∃ v, o.data = .cell (some v) ∧ VR news a v
 | .cell0, o => o.data = .cell none
 | .range n, o => ∃ t u v, o = { cls := .type "range", dict := none, data := .fields #[.int 0 t, .int n u, .int 1 v], slots := #[] }
 | .ro x ob, o => o = ob ∧ OR G news x ob
theorem OR.view {G : Gl} {news : Led} {o : AO} {ob : Obj} (h : OR G news o ob) : OR G news o.view ob := by
 cases o with
 | ro x ob' => (refine exA (h) ?_; clear h; intro zq0 h; rcases zq0 with rfl); exact h
 | _ => exact h
noncomputable abbrev AHeap := Addr → Option AO
abbrev AQ := AV → AHeap → Prop
noncomputable def AHeap.put (H : AHeap) (a : Addr) (o : AO) : AHeap := fun b => if b = a then some o else H b
@[simp] theorem AHeap.put_self (H : AHeap) (a o) : (H.put a o) a = some o := by (exact if_pos rfl)
theorem AHeap.put_ne (H : AHeap) {a b : Addr} (o) (h : b ≠ a) : (H.put a o) b = H b := by (exact if_neg (by assumption))
noncomputable def Keep (H H' : AHeap) (news news' : Led) : Prop := ∀ p ∈ news, H p.1 = none → p ∈ news' ∧ H' p.1 = none
theorem Keep.rfl {H : AHeap} {news : Led} : Keep H H news news := fun _ hp h => ⟨hp, h⟩
theorem Keep.trans {H H' H'' : AHeap} {news news' news'' : Led} (a : Keep H H' news news') (b : Keep H' H'' news' news'') : Keep H H'' news news'' :=
 fun p hp h => have z := a p hp h; b p z.1 z.2
structure St (G : Gl) (h₀ : Heap) (L : Addr) (mm : Str → Option Value) (H : AHeap) (news : Led) (h : Heap) : Prop where
 fr : Fr h₀ L h mm
 nw : News h₀ L h news
 nd : (news.map (·.1)).Nodup
 hr : ∀ a o, H a = some o → ∃ ob, (a, ob) ∈ news ∧ OR G news o ob
 lo : ∀ a o, H a = some o → o.isD = true → (a == sysModules) = false
theorem nodup_eq {news : Led} (nd : (news.map (·.1)).Nodup) {a : Addr} {o o' : Obj} (h : (a, o) ∈ news) (h' : (a, o') ∈ news) : o = o' := by
 induction news with
 | nil => cases h
 | cons x r ih =>
   rw [List.map_cons, List.nodup_cons] at nd
   rcases List.mem_cons.mp h with h | h
   · rcases List.mem_cons.mp h' with h' | h'
     · rw [← h] at h'; cases h'; rfl
     · rw [← h] at nd; exact absurd (List.mem_map_of_mem (f := (·.1)) h') nd.1
   · rcases List.mem_cons.mp h' with h' | h'
     · rw [← h'] at nd; exact absurd (List.mem_map_of_mem (f := (·.1)) h) nd.1
     · exact ih nd.2 h h'
theorem clsTup {ob : Obj} (h : (ob.cls == .type "tuple") = false) : ∀ vs, ob ≠ tupObj vs := fun vs e => by subst e; simp at h
theorem OR.notTup {G : Gl} {news : Led} {o : AO} {ob : Obj} (h : OR G news o ob) : ∀ vs, ob ≠ tupObj vs := by
 induction o with
 | range n => (refine exEEE (h) fun t u v zq0 => ?_; clear h; rcases zq0 with rfl); exact clsTup rfl
 | tdict es => (refine exA (h) fun zq0 _ => ?_; clear h; refine exA (zq0) fun e _ => ?_; clear zq0); exact clsTup (by rw [e]; rfl)
 | revT xs => (refine exEEA (h) fun t vs zq0 _ => ?_; clear h; rcases zq0 with rfl); exact clsTup rfl
 | revL l n => have : ob = revObj l ((n : Int) - 1) := h; subst this; exact clsTup rfl
 | junk => exact clsTup h
 | ro x ob' ih => (refine exA (h) ?_; clear h; intro zq0 h; rcases zq0 with rfl); exact ih h
 | list xs => (refine exEEA (h) fun vs n zq0 _ => ?_; clear h; rcases zq0 with rfl); exact clsTup rfl
 | idict es => (refine exEA (h) fun kvs zq0 _ => ?_; clear h; refine exEEA (zq0) fun _ _ zq1 _ => ?_; clear zq0; refine exA (zq1) fun e _ => ?_; clear zq1); exact clsTup (by rw [e]; rfl)
 | sdict es => (refine exEA (h) fun kvs zq0 _ => ?_; clear h; refine exEEA (zq0) fun _ _ zq1 _ => ?_; clear zq0; refine exA (zq1) fun e _ => ?_; clear zq1); exact clsTup (by rw [e]; rfl)
 | iset S =>
   have := h.1.1.1
   exact clsTup (by rw [this]; rfl)
 | inst C dx => have : ob = instObj C dx := h; subst this; exact clsTup rfl
 | attrs es => (refine exEEA (h) fun l n zq0 _ => ?_; clear h; rcases zq0 with rfl); exact clsTup rfl
 | cell a =>
   (refine exEA (h) fun v e _ => ?_; clear h)
   intro vs z
   subst z
   cases e
 | cell0 =>
   have e : ob.data = .cell none := h
   intro vs z
   subst z
   cases e
section
variable {G : Gl} {h₀ : Heap} {L : Addr} {mm : Str → Option Value} {H H' : AHeap} {news news' : Led} {h : Heap}
theorem St.tupFree (S : St G h₀ L mm H news h) {a : Addr} {vs : List Value} (hm : (a, tupObj vs) ∈ news) : H a = none := by
 cases e : H a with
 | none => rfl
 | some o =>
   (refine exEA (S.hr a o e) fun ob h1 h2 => ?_)
   have := nodup_eq S.nd hm h1
   subst this
   exact (h2.notTup _ rfl).elim
mutual
theorem VR.sub {news news' : Led} (k : ∀ a vs, (a, tupObj vs) ∈ news → (a, tupObj vs) ∈ news') : ∀ {a : AV} {v : Value}, VR news a v → VR news' a v
 | .none, _, h => h
 | .bool _, _, h => h
 | .int _, _, h => h
 | .str _, _, h => h
 | .ref _, _, h => h
 | .raw _, _, h => h
 | .tup xs, _, h => by
   (refine exEEAA (h) fun a vs zq0 hm hv => ?_; clear h; rcases zq0 with rfl)
   exact ⟨a, vs, rfl, k _ _ hm, VRs.sub k hv⟩
theorem VRs.sub {news news' : Led} (k : ∀ a vs, (a, tupObj vs) ∈ news → (a, tupObj vs) ∈ news') : ∀ {xs : List AV} {vs : List Value}, VRs news xs vs → VRs news' xs vs
 | [], _, h => h
 | x :: xs, _, h => by
   (refine exEEAA (h) fun v r zq0 h1 h2 => ?_; clear h; rcases zq0 with rfl)
   exact ⟨v, r, rfl, VR.sub k h1, VRs.sub k h2⟩
end
theorem St.sub (S : St G h₀ L mm H news h) (k : Keep H H' news news') : ∀ a vs, (a, tupObj vs) ∈ news → (a, tupObj vs) ∈ news' :=
 fun _ _ hm => (k _ hm (S.tupFree hm)).1
theorem St.vr (S : St G h₀ L mm H news h) (k : Keep H H' news news') {a : AV} {v : Value} (x : VR news a v) : VR news' a v := x.sub (S.sub k)
theorem St.vrs (S : St G h₀ L mm H news h) (k : Keep H H' news news') {a : List AV} {v : List Value} (x : VRs news a v) : VRs news' a v := x.sub (S.sub k)
theorem PR.sub {κ : Type} (k : ∀ a vs, (a, tupObj vs) ∈ news → (a, tupObj vs) ∈ news') : ∀ {es : List (κ × AV)} {l : List (κ × Value)}, PR news es l → PR news' es l := by
 intro zz
 induction zz with
 | nil =>
   intro _ h
   exact h
 | cons qx qs ih =>
   obtain ⟨_, _⟩ := qx
   intro _ h
   (refine exEEAA (h) fun v l' zq0 h1 h2 => ?_; clear h; rcases zq0 with rfl)
   exact ⟨v, l', rfl, h1.sub k, ih h2⟩
theorem AtR.sub (k : ∀ a vs, (a, tupObj vs) ∈ news → (a, tupObj vs) ∈ news') : ∀ {es : List (Str × AV)} {l : List DictEntry}, AtR news es l → AtR news' es l := by
 intro zz
 induction zz with
 | nil =>
   intro _ h
   exact h
 | cons qx qs ih =>
   obtain ⟨_, _⟩ := qx
   intro _ h
   (refine exEEEAAA (h) fun e l' t zq0 h0 h1 h2 => ?_; clear h; rcases zq0 with rfl)
   exact ⟨e, l', t, rfl, h0, h1.sub k, ih h2⟩
theorem TKR.sub (k : ∀ a vs, (a, tupObj vs) ∈ news → (a, tupObj vs) ∈ news') : ∀ {es : List (List Atom × AV)} {l : List (List Atom × Addr × Value)}, TKR news es l → TKR news' es l := by
 intro zz
 induction zz with
 | nil =>
   intro _ h
   exact h
 | cons qx qs ih =>
   obtain ⟨_, _⟩ := qx
   intro _ h
   (refine exEEEEAAAA (h) fun t v xs' vs zq0 h0 h1 h2 h3 => ?_; clear h; rcases zq0 with rfl)
   exact ⟨t, v, xs', vs, rfl, k _ _ h0, h1.sub k, h2.sub k, ih h3⟩
theorem OR.sub (k : ∀ a vs, (a, tupObj vs) ∈ news → (a, tupObj vs) ∈ news') : ∀ {o : AO} {ob : Obj}, OR G news o ob → OR G news' o ob
 | .list _, _, ⟨vs, n, e, h⟩ => ⟨vs, n, e, h.sub k⟩
 | .idict _, _, ⟨kvs, e, h⟩ => ⟨kvs, e, h.sub k⟩
 | .sdict _, _, ⟨kvs, e, h⟩ => ⟨kvs, e, h.sub k⟩
 | .iset _, _, h => h
 | .inst _ _, _, h => h
 | .attrs _, _, ⟨l, n, e, h⟩ => ⟨l, n, e, h.sub k⟩
 | .cell _, _, ⟨v, e, h⟩ => ⟨v, e, h.sub k⟩
 | .cell0, _, h => h
 | .range _, _, h => h
 | .tdict _, _, ⟨e, eds, ep, xs, h1, h2, h3, h4⟩ => ⟨e, eds, ep, xs, h1, h2, h3, h4.sub k⟩
 | .revT _, _, ⟨t, vs, e, h1, h2⟩ => ⟨t, vs, e, k _ _ h1, h2.sub k⟩
 | .revL _ _, _, h => h
 | .junk, _, h => h
 | .ro _ _, _, ⟨e, h⟩ => ⟨e, OR.sub k h⟩
end
noncomputable abbrev Loc := List (Str × AV)
noncomputable def LR (news : Led) (m : Loc) (mm : Str → Option Value) : Prop := ∀ x a, m.lookup x = some a → ∃ v, mm x = some v ∧ VR news a v
structure Cx where
 A₀ : Around
 A : Around
 base : Heap
 h₀ : Heap
 outer : List Env
 L : Addr
 cn : Str
 cs : Scope
 a : Addr
 ccd : Value
 cl : List (Str × Addr)
noncomputable abbrev Cx.env (c : Cx) : Env := envX c.cn c.cs c.L c.a c.ccd c.cl
structure Cx.Ok (G : Gl) (D : Nat) (c : Cx) : Prop where
 below : Below c.A₀ c.base c.outer c.h₀
 kin : G.K.In c.h₀
 top : Top G.p G.loose G.mean G.mg G.mb c.h₀
 frames : c.A.frames = some (c.env :: c.outer)
 kind : c.cs.kind = .function
 depth : c.A.depth + D < recursionLimit
 units : c.A.units + 8 * D < cLine
 handled : c.A.handled = none
inductive Fl where
 | next | brk | cont
 | ret (a : AV)
noncomputable def FR (news : Led) : Fl → Flow → Prop
 | .next, f => f = .next
 | .brk, f => f = .brk
 | .cont, f => f = .cont
 | .ret a, f => ∃ v, f = .ret v ∧ VR news a v
structure WE (G : Gl) (D : Nat) (cs : Scope) (cl : List (Str × Addr)) (e : Expr) (m : Loc) (H : AHeap) (Q : AV → AHeap → Prop) : Prop where
 go : ∀ c : Cx, c.cs = cs → c.cl = cl → c.Ok G D → ∀ mm news s, St G c.h₀ c.L mm H news s.heap → LR news m mm → ∀ (Q' : Value → Shared → Prop) E,
   (∀ v a H' news' h' tk, St G c.h₀ c.L mm H' news' h' → Keep H H' news news' → VR news' a v → Q a H' → Q' v { s with heap := h', toks := tk }) →
   wpAny (model G.prog G.w) c.A (eval e c.env) Q' E s
structure WT (G : Gl) (D : Nat) (cs : Scope) (cl : List (Str × Addr)) (e : Expr) (m : Loc) (H : AHeap) (Q : Bool → AHeap → Prop) : Prop where
 go : ∀ c : Cx, c.cs = cs → c.cl = cl → c.Ok G D → ∀ mm news s, St G c.h₀ c.L mm H news s.heap → LR news m mm → ∀ (Q' : Bool → Shared → Prop) E,
   (∀ b H' news' h' tk, St G c.h₀ c.L mm H' news' h' → Keep H H' news news' → Q b H' → Q' b { s with heap := h', toks := tk }) →
   wpAny (model G.prog G.w) c.A (isTrue e c.env (eval e c.env)) Q' E s
structure WS (G : Gl) (D : Nat) (cs : Scope) (cl : List (Str × Addr)) (ss : List Stmt) (m : Loc) (H : AHeap) (Q : Fl → Loc → AHeap → Prop) : Prop where
 go : ∀ c : Cx, c.cs = cs → c.cl = cl → c.Ok G D → ∀ mm news s, St G c.h₀ c.L mm H news s.heap → LR news m mm → ∀ (Q' : Flow → Shared → Prop) E,
   (∀ f fl m' mm' H' news' h' tk, St G c.h₀ c.L mm' H' news' h' → LR news' m' mm' → Keep H H' news news' → FR news' fl f → Q fl m' H' → Q' f { s with heap := h', toks := tk }) →
   wpAny (model G.prog G.w) c.A (execs ss c.env) Q' E s
structure W1 (G : Gl) (D : Nat) (cs : Scope) (cl : List (Str × Addr)) (st : Stmt) (m : Loc) (H : AHeap) (Q : Fl → Loc → AHeap → Prop) : Prop where
 go : ∀ c : Cx, c.cs = cs → c.cl = cl → c.Ok G D → ∀ mm news s, St G c.h₀ c.L mm H news s.heap → LR news m mm → ∀ (Q' : Flow → Shared → Prop) E,
   (∀ f fl m' mm' H' news' h' tk, St G c.h₀ c.L mm' H' news' h' → LR news' m' mm' → Keep H H' news news' → FR news' fl f → Q fl m' H' → Q' f { s with heap := h', toks := tk }) →
   wpAny (model G.prog G.w) c.A (exec st c.env) Q' E s
structure WC (G : Gl) (D : Nat) (f : Value) (args : List AV) (H : AHeap) (Q : AV → AHeap → Prop) : Prop where
 go : ∀ c : Cx, c.Ok G D → ∀ mm news s, St G c.h₀ c.L mm H news s.heap → ∀ vals, VRs news args vals → ∀ (R : Result → Shared → Prop),
   (∀ v a H' news' h' tk, St G c.h₀ c.L mm H' news' h' → Keep H H' news news' → VR news' a v → Q a H' → R (.ok (.ret v)) { s with heap := h', toks := tk }) →
   codeAny (model G.prog G.w) c.A (.call f ⟨vals, []⟩) R s
section
variable {G : Gl} {D : Nat} {cs : Scope} {cl : List (Str × Addr)} {m : Loc} {H : AHeap}
theorem WE.mono {e : Expr} {Q Q' : AV → AHeap → Prop} (h : WE G D cs cl e m H Q) (k : ∀ a H, Q a H → Q' a H) : WE G D cs cl e m H Q' :=
 ⟨fun c h1 h2 ok mm news s S lr Q₀ E c' => h.go c h1 h2 ok mm news s S lr Q₀ E fun v a H' news' h' tk a1 a2 a3 a4 => c' v a H' news' h' tk a1 a2 a3 (k _ _ a4)⟩
theorem WS.mono {e : List Stmt} {Q Q' : Fl → Loc → AHeap → Prop} (h : WS G D cs cl e m H Q) (k : ∀ f m H, Q f m H → Q' f m H) : WS G D cs cl e m H Q' :=
 ⟨fun c h1 h2 ok mm news s S lr Q₀ E c' => h.go c h1 h2 ok mm news s S lr Q₀ E fun f fl m' mm' H' news' h' tk a1 a2 a3 a4 a5 => c' f fl m' mm' H' news' h' tk a1 a2 a3 a4 (k _ _ _ a5)⟩
theorem WC.mono {f : Value} {args : List AV} {Q Q' : AV → AHeap → Prop} (h : WC G D f args H Q) (k : ∀ a H, Q a H → Q' a H) : WC G D f args H Q' :=
 ⟨fun c ok mm news s S vals hv R c' => h.go c ok mm news s S vals hv R fun v a H' news' h' tk a1 a2 a3 a4 => c' v a H' news' h' tk a1 a2 a3 (k _ _ a4)⟩
theorem LR.keep {h₀ : Heap} {L : Addr} {mm : Str → Option Value} {H' : AHeap} {news news' : Led} {h : Heap} (S : St G h₀ L mm H news h) (k : Keep H H' news news') {m : Loc} (lr : LR news m mm) : LR news' m mm :=
 fun x a e => let ⟨v, hv, r⟩ := lr x a e; ⟨v, hv, S.vr k r⟩
theorem Cx.Ok.tr {c : Cx} (ok : c.Ok G D) : TopRead G.p G.loose G.mg G.mb c.h₀ := ⟨ok.top.g, ok.top.b, ok.top.nolimit, ok.top.builtins, ok.top.free⟩
theorem WE.name {x : Str} {pos : Pos} {a : AV} {Q : AQ} (hv : m.lookup x = some a) (h : Q a H)
   (hx : cs.names.lookup x = some .local := by rfl) (hd : (x == ("__debug__" : Str)) = false := by decide) : WE G D cs cl (.Name x pos) m H Q where
 go := fun c h1 h2 ok mm news s S lr Q' E k => by
   subst h1
   (refine exEA (lr x a hv) fun v e1 e2 => ?_)
   exact nameX_L S.fr e1 (k v a H news s.heap s.toks S Keep.rfl e2 h) ok.kind hx hd
theorem WE.gname {x : Str} {pos : Pos} {v : Value} {a : AV} {Q : AQ} (e : nsIn G.K mainGlobals x = some (some v)) (ha : ∀ news, VR news a v) (h : Q a H)
   (hx : cs.names.lookup x = some .globalImplicit := by rfl) (hd : (x == ("__debug__" : Str)) = false := by decide) : WE G D cs cl (.Name x pos) m H Q where
 go := fun c h1 h2 ok mm news s S lr Q' E k => by
   subst h1
   exact nameX_K S.fr ok.kin ok.tr e (k v a H news s.heap s.toks S Keep.rfl (ha _) h) ok.kind hx hd
theorem WE.bname {x : Str} {pos : Pos} {v : Value} {Q : AQ} (e : nsIn G.K mainGlobals x = some none) (hv : bootBuiltins x = some v) (hn : x ≠ "__name__") (h : Q (.raw v) H)
   (hx : cs.names.lookup x = some .globalImplicit := by rfl) (hd : (x == ("__debug__" : Str)) = false := by decide) : WE G D cs cl (.Name x pos) m H Q where
 go := fun c h1 h2 ok mm news s S lr Q' E k => by
   subst h1
   exact nameX_B S.fr ok.kin ok.tr e hv hn (k v (.raw v) H news s.heap s.toks S Keep.rfl rfl h) ok.kind hx hd
theorem WE.int {i : Int} {n : Nat} {pos : Pos} {Q : AQ} (h : Q (.int i) H) : WE G D cs cl (.Constant (.int i) n pos) m H Q where
 go := fun c h1 h2 ok mm news s S lr Q' E k => wpAny_Constant_int (k _ (.int i) H news s.heap _ S Keep.rfl ⟨_, rfl⟩ h)
end
theorem VRs_cons (news : Led) (x : AV) (xs : List AV) (vs : List Value) : VRs news (x :: xs) vs ↔ ∃ v r, vs = v :: r ∧ VR news x v ∧ VRs news xs r := Iff.rfl
theorem VRs_nil (news : Led) (vs : List Value) : VRs news [] vs ↔ vs = [] := Iff.rfl
theorem VR_tup (news : Led) (xs : List AV) (v : Value) : VR news (.tup xs) v ↔ ∃ a vs, v = .ref a ∧ (a, tupObj vs) ∈ news ∧ VRs news xs vs := Iff.rfl
section
variable {G : Gl} {D : Nat} {cs : Scope} {cl : List (Str × Addr)} {m : Loc} {H : AHeap}
noncomputable def plainE : Expr → Bool
 | .Starred .. => false
 | _ => true
theorem starEach_plain {e : Expr} {rest : List Expr} {env : Env} (h : plainE e = true) : starEach (e :: rest) env = (false, eval e env) :: starEach rest env := by
 cases e <;> first | rfl | (exact falseE h)
@[reducible] noncomputable def qCs (a : AV) (Q : List AV → AHeap → Prop) : List AV → AHeap → Prop := fun as H => Q (a :: as) H
@[reducible] noncomputable def qEs (W : AHeap → (List AV → AHeap → Prop) → Prop) (Q : List AV → AHeap → Prop) : AV → AHeap → Prop := fun a H => W H (qCs a Q)
@[reducible] noncomputable def qTup (Q : AV → AHeap → Prop) : List AV → AHeap → Prop := fun as H => Q (.tup as) H
@[reducible] noncomputable def qLst (Q : AV → AHeap → Prop) : List AV → AHeap → Prop := fun as H => ∀ l, H l = none → Q (.ref l) (H.put l (.list as))
@[reducible] noncomputable def qCK (G : Gl) (D : Nat) (f : Value) (Q : AV → AHeap → Prop) : List AV → AHeap → Prop := fun as H => WC G D f as H Q
@[reducible] noncomputable def WEs (G : Gl) (D : Nat) (cs : Scope) (cl : List (Str × Addr)) : List Expr → Loc → AHeap → (List AV → AHeap → Prop) → Prop
 | [], _, H, Q => Q [] H
 | e :: es, m, H, Q => WE G D cs cl e m H (qEs (WEs G D cs cl es m) Q)
theorem WEs.go {m : Loc} : ∀ {es : List Expr} {H : AHeap} {Q : List AV → AHeap → Prop}, (es.all plainE) = true → WEs G D cs cl es m H Q → ∀ c : Cx, c.cs = cs → c.cl = cl → c.Ok G D → ∀ {mm news s} (pos : Pos), St G c.h₀ c.L mm H news s.heap → LR news m mm → ∀ (Q' : List Value → Shared → Prop) E,
   (∀ v a H' news' h' tk, St G c.h₀ c.L mm H' news' h' → Keep H H' news news' → VRs news' a v → v.length = es.length → Q a H' → Q' v { s with heap := h', toks := tk }) →
   wpAny (model G.prog G.w) c.A (spliced (backTo pos (starEach es c.env))) Q' E s := by
 intro zz
 induction zz with
 | nil =>
   intro H Q _ w c h1 h2 ok mm news s pos S lr Q' E k
   exact wpAny_items_nil (k [] [] H news s.heap s.toks S Keep.rfl rfl rfl w)
 | cons e es ih =>
   intro H Q hp w c h1 h2 ok mm news s pos S lr Q' E k
   rw [List.all_cons, Bool.and_eq_true] at hp
   refine wpAny_items_cons ?_ (starEach_plain hp.1)
   refine WE.go w c h1 h2 ok mm news s S lr _ E fun v a H1 n1 h' tk S1 K1 V1 w1 => ?_
   refine ih hp.2 w1 c h1 h2 ok (s := { s with heap := h', toks := tk }) pos S1 (LR.keep S K1 lr) _ E fun vs as H2 n2 h2 tk2 S2 K2 V2 len q => ?_
   exact k (v :: vs) (a :: as) _ _ _ _ S2 (K1.trans K2) (by show VRs n2 (a :: as) (v :: vs); exact (VRs_cons ..).mpr ⟨v, vs, rfl, S1.vr K2 V1, V2⟩) (by simp [len]) q
theorem VRs.length {news : Led} : ∀ {xs : List AV} {vs : List Value}, VRs news xs vs → vs.length = xs.length := by
 intro zz
 induction zz with
 | nil =>
   intro _ h
   rw [show _ = [] from h]; rfl
 | cons _ qs ih =>
   intro _ h
   (refine exEEAA (h) fun v r zq0 _ h2 => ?_; clear h; rcases zq0 with rfl); simp [ih h2]
theorem St.off {h₀ L mm news h} (S : St G h₀ L mm H news h) {d : Addr} (hd : ∀ p ∈ news, p.1 ≠ d) : H d = none := by
 cases e : H d with
 | none => rfl
 | some o => (refine exEA (S.hr d o e) fun ob h1 _ => ?_); exact absurd rfl (hd _ h1)
theorem sub_cons {news : Led} {p : Addr × Obj} : ∀ a vs, (a, tupObj vs) ∈ news → (a, tupObj vs) ∈ p :: news := fun _ _ h => .tail _ h
theorem St.push {h₀ L mm news h h' mm'} (S : St G h₀ L mm H news h) {d : Addr} {ob : Obj} (F : Fr h₀ L h' mm') (N : News h₀ L h' ((d, ob) :: news)) (hd : ∀ p ∈ news, p.1 ≠ d) :
   St G h₀ L mm' H ((d, ob) :: news) h' ∧ Keep H H news ((d, ob) :: news) := by
 refine ⟨⟨F, N, ?_, fun a o e => ?_, S.lo⟩, fun p hp h => ⟨.tail _ hp, h⟩⟩
 · rw [List.map_cons, List.nodup_cons]
   refine ⟨fun hm => ?_, S.nd⟩
   (refine exEA (List.mem_map.mp hm) fun p hp e => ?_)
   exact hd p hp e
 · (refine exEA (S.hr a o e) fun ob' h1 h2 => ?_)
   exact ⟨ob', .tail _ h1, h2.sub sub_cons⟩
theorem St.pushO {h₀ L mm news h h' mm'} (S : St G h₀ L mm H news h) {d : Addr} {ob : Obj} {o : AO} (F : Fr h₀ L h' mm') (N : News h₀ L h' ((d, ob) :: news)) (hd : ∀ p ∈ news, p.1 ≠ d) (ho : OR G news o ob) (hlo : o.isD = true → (d == sysModules) = false := by intro h; cases h) :
   St G h₀ L mm' (H.put d o) ((d, ob) :: news) h' ∧ Keep H (H.put d o) news ((d, ob) :: news) := by
 (refine exA (S.push F N hd) fun S' K' => ?_)
 refine ⟨⟨S'.fr, S'.nw, S'.nd, fun a o' e => ?_, fun a o' e i => ?_⟩, fun p hp h => ⟨.tail _ hp, by rw [AHeap.put_ne _ _ (hd p hp)]; exact h⟩⟩
 · by_cases ha : a = d
   · subst ha
     rw [AHeap.put_self] at e
     cases e
     exact ⟨ob, .head _, ho.sub sub_cons⟩
   · rw [AHeap.put_ne _ _ ha] at e
     exact S'.hr a o' e
 · by_cases ha : a = d
   · subst ha
     rw [AHeap.put_self] at e
     cases e
     exact hlo i
   · rw [AHeap.put_ne _ _ ha] at e
     exact S'.lo a o' e i
theorem fresh_size {h₀ L h} {news : Led} (N : News h₀ L h news) : ∀ p ∈ news, p.1 ≠ h.objs.size := News.apart N
theorem lt_ne {news : Led} {d : Addr} (h : ∀ p ∈ news, p.1 < d) : ∀ p ∈ news, p.1 ≠ d := fun p hp => Nat.ne_of_lt (h p hp)
theorem WE.tuple {es : List Expr} {n : Nat} {pos : Pos} {Q : AQ} (h : WEs G D cs cl es m H (qTup Q)) (hp : (es.all plainE) = true := by rfl) (hz : es.length ≤ 1000 := by decide) :
   WE G D cs cl (.Tuple es n pos) m H Q where
 go := fun c h1 h2 ok mm news s S lr Q' E k => by
   refine Tuple_ (WEs.go hp h c h1 h2 ok pos S lr _ E fun v a H' n' h' tk S1 K1 V1 len q => ?_)
   refine newTuple_N (s := { s with heap := h', toks := tk }) S1.fr S1.nw (fun h'' F N => ?_) (by rw [len, sizeLine_eq]; (exact Nat.le_trans (by assumption) (Nat.le_of_ble_eq_true rfl)))
   (refine exA (S1.push F N (fresh_size S1.nw)) fun S2 K2 => ?_)
   exact k _ _ _ _ _ _ S2 (K1.trans K2) ((VR_tup ..).mpr ⟨_, v, rfl, .head _, V1.sub sub_cons⟩) q
end
noncomputable def AV.ok : AV → Bool
 | .raw _ => false
 | _ => true
theorem handed_ok {news : Led} : ∀ {a : AV} {v : Value}, a.ok = true → VR news a v → handedIn v = true
 | .none, _, _, h => by rw [show _ = Value.none from h]; rfl
 | .bool b, _, _, h => by rw [show _ = Value.bool b from h]; rfl
 | .int i, _, _, h => by (refine exE (h) fun t zq0 => ?_; clear h; rcases zq0 with rfl); rfl
 | .str i, _, _, h => by (refine exE (h) fun t zq0 => ?_; clear h; rcases zq0 with rfl); rfl
 | .ref i, _, _, h => by rw [show _ = Value.ref i from h]; rfl
 | .tup i, _, _, h => by (refine exEEA (h) fun a vs zq0 _ => ?_; clear h; rcases zq0 with rfl); rfl
 | .raw _, _, e, _ => by (exact falseE e)
theorem AtR_nil (news : Led) (l : List DictEntry) : AtR news [] l ↔ l = [] := Iff.rfl
theorem AtR_cons (news : Led) (k : Str) (a : AV) (r : List (Str × AV)) (l : List DictEntry) : AtR news ((k, a) :: r) l ↔ ∃ e l' t, l = e :: l' ∧ e.key = .str k t ∧ VR news a e.val ∧ AtR news r l' := Iff.rfl
theorem isStr_eq {k name : Str} {t : Tok} : Value.isStr (.str k t) name = (k == name) := rfl
theorem AtR.getL_some {news : Led} {name : Str} {a : AV} : ∀ {as : List (Str × AV)} {l : List DictEntry}, AtR news as l → as.lookup name = some a → ∃ v, getL name l = some (some v) ∧ VR news a v := by
 intro zz
 induction zz with
 | nil =>
   intro l h e
   (exact noneE e)
 | cons qx r ih =>
   obtain ⟨k, b⟩ := qx
   intro l h e
   rw [AtR_cons] at h
   (refine exEEEAAA (h) fun en l' t zq0 hk hv h2 => ?_; clear h; rcases zq0 with rfl)
   unfold getL
   rw [List.find?_cons, hk, isStr_eq]
   rw [List.lookup_cons] at e
   by_cases q : name = k
   · subst q
     simp only [beq_self_eq_true] at e ⊢
     cases e
     exact ⟨_, rfl, hv⟩
   · have q1 : (name == k) = false := by simpa using q
     have q2 : (k == name) = false := by simpa using fun x => q x.symm
     simp only [q1] at e
     simp only [q2]
     (refine exEA (ih h2 e) fun v a1 a2 => ?_)
     unfold getL at a1
     have hr : (en :: l').any (·.refKey) = l'.any (·.refKey) := by
       rw [List.any_cons]; unfold DictEntry.refKey; rw [hk]; rfl
     rw [hr]
     exact ⟨v, a1, a2⟩
theorem AtR.getL_none {news : Led} {name : Str} : ∀ {as : List (Str × AV)} {l : List DictEntry}, AtR news as l → as.lookup name = none → getL name l = some none := by
 intro zz
 induction zz with
 | nil =>
   intro l h e
   rw [AtR_nil] at h; subst h; rfl
 | cons qx r ih =>
   obtain ⟨k, b⟩ := qx
   intro l h e
   rw [AtR_cons] at h
   (refine exEEEAAA (h) fun en l' t zq0 hk hv h2 => ?_; clear h; rcases zq0 with rfl)
   unfold getL
   rw [List.find?_cons, hk, isStr_eq]
   rw [List.lookup_cons] at e
   by_cases q : name = k
   · subst q
     simp only [beq_self_eq_true] at e
     (exact someE e)
   · have q1 : (name == k) = false := by simpa using q
     have q2 : (k == name) = false := by simpa using fun x => q x.symm
     simp only [q1] at e
     simp only [q2]
     have a1 := ih h2 e
     unfold getL at a1
     have hr : (en :: l').any (·.refKey) = l'.any (·.refKey) := by
       rw [List.any_cons]; unfold DictEntry.refKey; rw [hk]; rfl
     rw [hr]
     exact a1
noncomputable def putA (name : Str) (a : AV) : List (Str × AV) → List (Str × AV)
 | [] => [(name, a)]
 | (k, b) :: r => if k = name then (k, a) :: r else (k, b) :: putA name a r
theorem putA_c (n k : Str) (a b : AV) (r) : putA n a ((k, b) :: r) = if k = n then (k, a) :: r else (k, b) :: putA n a r := rfl
theorem AtR.put {news : Led} {name : Str} {a : AV} {hs : Int} {t : Tok} {v : Value} (hv : VR news a v) : ∀ {as : List (Str × AV)} {l : List DictEntry}, AtR news as l → AtR news (putA name a as) (putL name hs (.str name t) v l) := by
 intro zz
 induction zz with
 | nil =>
   intro l h
   rw [AtR_nil] at h; subst h
   exact ⟨_, [], t, rfl, rfl, hv, (AtR_nil ..).mpr rfl⟩
 | cons qx r ih =>
   obtain ⟨k, b⟩ := qx
   intro l h
   rw [AtR_cons] at h
   (refine exEEEAAA (h) fun en l' t' zq0 hk hb h2 => ?_; clear h; rcases zq0 with rfl)
   rw [putA_c, putL, hk, isStr_eq]
   by_cases q : k = name
   · subst q
     rw [if_pos rfl, if_pos (by (exact if_pos rfl)), AtR_cons]
     exact ⟨_, l', t', rfl, rfl, hv, h2⟩
   · rw [if_neg q, if_neg (by simpa using q), AtR_cons]
     exact ⟨en, _, t', rfl, hk, hb, ih h2⟩
theorem AtR.length {news : Led} : ∀ {as : List (Str × AV)} {l : List DictEntry}, AtR news as l → l.length = as.length := by
 intro zz
 induction zz with
 | nil =>
   intro l h
   rw [AtR_nil] at h; subst h; rfl
 | cons qx r ih =>
   obtain ⟨k, b⟩ := qx
   intro l h
   rw [AtR_cons] at h; (refine exEEEAAA (h) fun e l' t zq0 _ _ h2 => ?_; clear h; rcases zq0 with rfl); exact congrArg Nat.succ (ih h2)
theorem putA_length (name : Str) (a : AV) : ∀ as : List (Str × AV), (putA name a as).length ≤ as.length + 1 := by
 intro zz
 induction zz with
 | nil =>
   exact Nat.le_refl _
 | cons qx r ih =>
   obtain ⟨k, b⟩ := qx
   rw [putA_c]
   by_cases q : k = name
   · rw [if_pos q]; exact Nat.le_succ _
   · rw [if_neg q]; exact Nat.succ_le_succ ih
section
variable {G : Gl} {h₀ : Heap} {L : Addr} {mm : Str → Option Value} {H : AHeap} {news : Led} {h : Heap}
theorem upd_of : ∀ {news : Led} {d : Addr} {o : Obj} (o' : Obj), (news.map (·.1)).Nodup → (d, o) ∈ news → ∃ news', Upd d o o' news news' ∧ (news'.map (·.1)) = news.map (·.1) ∧ (∀ p ∈ news, p.1 ≠ d → p ∈ news') ∧ (d, o') ∈ news' ∧ (∀ p ∈ news', p.1 ≠ d → p ∈ news) := by
 intro zz
 induction zz with
 | nil =>
   intro _ _ _ _ h
   exact nomatch h
 | cons x r ih =>
   intro d o o' nd h
   rw [List.map_cons, List.nodup_cons] at nd
   by_cases q : x.1 = d
   · have hx : x = (d, o) := by
       rcases List.mem_cons.mp h with h | h
       · exact h.symm
       · exact absurd (q ▸ List.mem_map_of_mem (f := (·.1)) h) nd.1
     subst hx
     refine ⟨(d, o') :: r, .head fun p hp e => nd.1 (e ▸ List.mem_map_of_mem (f := (·.1)) hp), rfl, fun p hp e => ?_, .head _, fun p hp e => ?_⟩
     · rcases List.mem_cons.mp hp with rfl | hp
       · exact absurd rfl e
       · exact .tail _ hp
     · rcases List.mem_cons.mp hp with rfl | hp
       · exact absurd rfl e
       · exact .tail _ hp
   · have h' : (d, o) ∈ r := by
       rcases List.mem_cons.mp h with h | h
       · subst h; exact absurd rfl q
       · exact h
     (refine exEAAAA (ih o' nd.2 h') fun n' a b c e f => ?_)
     refine ⟨x :: n', .tail q a, by rw [List.map_cons, b]; rfl, fun p hp z => ?_, .tail _ e, fun p hp z => ?_⟩
     · rcases List.mem_cons.mp hp with rfl | hp
       · exact .head _
       · exact .tail _ (c p hp z)
     · rcases List.mem_cons.mp hp with rfl | hp
       · exact .head _
       · exact .tail _ (f p hp z)
theorem updF_of : ∀ {news : Led} {d : Addr} {o : Obj}, (news.map (·.1)).Nodup → (d, o) ∈ news → ∃ g : Obj → Led, UpdF d o news g ∧ ∀ o', ((g o').map (·.1)) = news.map (·.1) ∧ (∀ p ∈ news, p.1 ≠ d → p ∈ g o') ∧ (d, o') ∈ g o' ∧ (∀ p ∈ g o', p.1 ≠ d → p ∈ news) := by
 intro zz
 induction zz with
 | nil =>
   intro _ _ _ h
   exact nomatch h
 | cons x r ih =>
   intro d o nd h
   rw [List.map_cons, List.nodup_cons] at nd
   by_cases q : x.1 = d
   · have hx : x = (d, o) := by
       rcases List.mem_cons.mp h with h | h
       · exact h.symm
       · exact absurd (q ▸ List.mem_map_of_mem (f := (·.1)) h) nd.1
     subst hx
     refine ⟨fun o' => (d, o') :: r, .head fun p hp e => nd.1 (e ▸ List.mem_map_of_mem (f := (·.1)) hp), fun o' => ⟨rfl, fun p hp e => ?_, .head _, fun p hp e => ?_⟩⟩
     · rcases List.mem_cons.mp hp with rfl | hp
       · exact absurd rfl e
       · exact .tail _ hp
     · rcases List.mem_cons.mp hp with rfl | hp
       · exact absurd rfl e
       · exact .tail _ hp
   · have h' : (d, o) ∈ r := by
       rcases List.mem_cons.mp h with h | h
       · subst h; exact absurd rfl q
       · exact h
     (refine exEA (ih nd.2 h') fun g a z => ?_)
     refine ⟨fun o' => x :: g o', .tail q a, fun o' => ?_⟩
     (refine exAAA (z o') fun b c e f => ?_)
     refine ⟨by rw [List.map_cons, b]; rfl, fun p hp z => ?_, .tail _ e, fun p hp z => ?_⟩
     · rcases List.mem_cons.mp hp with rfl | hp
       · exact .head _
       · exact .tail _ (c p hp z)
     · rcases List.mem_cons.mp hp with rfl | hp
       · exact .head _
       · exact .tail _ (f p hp z)
theorem St.upd {h' : Heap} {mm' : Str → Option Value} (S : St G h₀ L mm H news h) {d : Addr} {o : AO} {ob ob' : Obj} {o' : AO} {news' : Led} (hd : H d = some o) (hm : (d, ob) ∈ news) (F : Fr h₀ L h' mm') (N : News h₀ L h' news')
   (hk : (news'.map (·.1)) = news.map (·.1)) (h1 : ∀ p ∈ news, p.1 ≠ d → p ∈ news') (h2 : (d, ob') ∈ news') (ho : OR G news o' ob') (hlo : o'.isD = true → o.isD = true := by intro h; first | rfl | cases h) :
   St G h₀ L mm' (H.put d o') news' h' ∧ Keep H (H.put d o') news news' ∧ (∀ a vs, (a, tupObj vs) ∈ news → (a, tupObj vs) ∈ news') := by
 have sub : ∀ a vs, (a, tupObj vs) ∈ news → (a, tupObj vs) ∈ news' := fun a vs hm => h1 _ hm fun e => by
   have := S.tupFree hm
   dsimp only at e
   rw [e, hd] at this
   (exact someE this)
 refine ⟨⟨F, N, hk ▸ S.nd, fun a x e => ?_, fun a x e i => ?_⟩, fun p hp e => ?_, sub⟩
 · by_cases q : a = d
   · subst q
     rw [AHeap.put_self] at e
     cases e
     exact ⟨ob', h2, ho.sub sub⟩
   · rw [AHeap.put_ne _ _ q] at e
     (refine exEA (S.hr a x e) fun b h3 h4 => ?_)
     exact ⟨b, h1 _ h3 q, h4.sub sub⟩
 · by_cases q : a = d
   · subst q
     rw [AHeap.put_self] at e
     cases e
     exact S.lo a o hd (hlo i)
   · rw [AHeap.put_ne _ _ q] at e
     exact S.lo a x e i
 · have q : p.1 ≠ d := fun z => by rw [z, hd] at e; (exact someE e)
   exact ⟨h1 p hp q, by rw [AHeap.put_ne _ _ q]; exact e⟩
theorem St.get (S : St G h₀ L mm H news h) {a : Addr} {o : AO} (e : H a = some o) : ∃ ob, (a, ob) ∈ news ∧ OR G news o ob ∧ h.get? a = some ob :=
 let ⟨ob, h1, h2⟩ := S.hr a o e; ⟨ob, h1, h2, (S.nw _ h1).1⟩
end
section
variable {G : Gl} {D : Nat} {cs : Scope} {cl : List (Str × Addr)} {m : Loc} {H : AHeap}
theorem WE.str {x : Str} {k : Nat} {pos : Pos} {Q : AQ} (h : Q (.str x) H) : WE G D cs cl (.Constant (.str x) k pos) m H Q where
 go := fun c h1 h2 ok mm news s S lr Q' E k => wpAny_Constant_str (k _ (.str x) H news s.heap _ S Keep.rfl ⟨_, rfl⟩ h)
theorem WE.boolc {x : Bool} {k : Nat} {pos : Pos} {Q : AQ} (h : Q (.bool x) H) : WE G D cs cl (.Constant (.bool x) k pos) m H Q where
 go := fun c h1 h2 ok mm news s S lr Q' E k => wpAny_Constant_bool (k _ (.bool x) H news s.heap s.toks S Keep.rfl rfl h)
theorem WE.nonec {k : Nat} {pos : Pos} {Q : AQ} (h : Q .none H) : WE G D cs cl (.Constant .none k pos) m H Q where
 go := fun c h1 h2 ok mm news s S lr Q' E k => wpAny_Constant_none (k _ .none H news s.heap s.toks S Keep.rfl rfl h)
theorem WE.list {es : List Expr} {pos : Pos} {Q : AQ} (h : WEs G D cs cl es m H (qLst Q)) (hp : (es.all plainE) = true := by rfl) (hz : es.length ≤ 1000 := by decide) :
   WE G D cs cl (.List es pos) m H Q where
 go := fun c h1 h2 ok mm news s S lr Q' E k => by
   refine List_ (WEs.go hp h c h1 h2 ok pos S lr _ E fun v a H' n' h' tk S1 K1 V1 len q => ?_)
   refine newList_K (s := { s with heap := h', toks := tk }) S1.fr S1.nw (fun l h'' F N lt => ?_) (by rw [len, sizeLine_eq]; lia)
   (refine exA (S1.pushO (o := .list a) F N (lt_ne lt) ⟨v, 0, rfl, V1⟩) fun S2 K2 => ?_)
   exact k (.ref l) (.ref l) _ _ _ _ S2 (K1.trans K2) rfl (q l (S1.off (lt_ne lt)))
noncomputable def attrIn (K : Frag) (C : Addr) (name : Str) : Bool := plainGet K C name && hasDictIn K C && (findIn K (.ref C) name == some none)
structure AtP (G : Gl) (name : Str) (a : AV) (H' : AHeap) (Q : AV → AHeap → Prop) : Prop where
 go : ∃ x C dx as b, a = .ref x ∧ H' x = some (.inst C dx) ∧ H' dx = some (.attrs as) ∧ as.lookup name = some b ∧ b.ok = true ∧ attrIn G.K C name = true ∧ Q b H'
theorem AtP.of {G : Gl} {name : Str} {x C dx : Addr} {as : List (Str × AV)} {b : AV} {H : AHeap} {Q : AQ} (h1 : H x = some (.inst C dx)) (h2 : H dx = some (.attrs as)) (h3 : as.lookup name = some b) (h4 : b.ok = true) (h5 : attrIn G.K C name = true) (q : Q b H) : AtP G name (.ref x) H Q := ⟨x, C, dx, as, b, rfl, h1, h2, h3, h4, h5, q⟩
@[reducible] noncomputable def qAt (G : Gl) (name : Str) (Q : AV → AHeap → Prop) : AV → AHeap → Prop := fun a H => AtP G name a H Q
theorem WE.attr {e : Expr} {name : Str} {pos : Pos} {Q : AQ} (h : WE G D cs cl e m H (qAt G name Q))
   (he : ∀ env : Env, eval (.Attribute e name pos) env = (do
     let o ← eval e env
     standAt pos.atName
     let r ← holding [o] (getAttr o name true)
     letTemporaryGo e o r
     pure r) := by intro _; with_unfolding_all rfl) : WE G D cs cl (.Attribute e name pos) m H Q where
 go := fun c h1 h2 ok mm news s S lr Q' E k => by
   refine Attribute_any_ (h.go c h1 h2 ok mm news s S lr _ E fun v a H' n' h' tk S1 K1 V1 q => ?_) (he _)
   obtain ⟨x, C, dx, as, b, rfl, hx, hd, hl, hb, hi, q⟩ := q
   have : v = .ref x := V1
   subst this
   (refine exEAA (S1.get hx) fun ox x1 x2 x3 => ?_)
   have : ox = instObj C dx := x2
   subst this
   (refine exEAA (S1.get hd) fun od d1 zq0 d3 => ?_; refine exEEA (zq0) fun es n zq1 d4 => ?_; clear zq0; rcases zq1 with rfl)
   (refine exEA (d4.getL_some hl) fun v' e1 e2 => ?_)
   simp only [attrIn, Bool.and_eq_true, beq_iff_eq] at hi
   refine get_own (s := { s with heap := h', toks := tk }) S1.fr ok.kin (es := es) (n := n) ⟨x3, rfl, rfl, d3⟩ hi.1.1 hi.1.2 hi.2 rfl e1 (handed_ok hb e2) ?_
   exact k v' b H' n' h' _ S1 K1 e2 q
noncomputable def methIn (K : Frag) (C : Addr) (name : Str) (f : Addr) : Bool := plainGet K C name && (findIn K (.ref C) name == some (some (.ref f))) && isFn K (.ref f) && keepIn K (.ref f)
theorem in_heap {c : Cx} (ok : c.Ok G D) {mm news h} (S : St G c.h₀ c.L mm H news h) : G.K.In h := ok.kin.keeps S.fr.keep
theorem any_plain {pos : Pos} {env : Env} : ∀ {es : List Expr}, (es.all plainE) = true → (backTo pos (starEach es env)).any (·.1) = false := by
 intro zz
 induction zz with
 | nil =>
   intro _
   exact rfl
 | cons e es ih =>
   intro h
   rw [List.all_cons, Bool.and_eq_true] at h
   rw [starEach_plain h.1]
   exact ih h.2
theorem callWith_go {c : Cx} (h1 : c.cs = cs) (h2 : c.cl = cl) (ok : c.Ok G D) {mm news s} (S : St G c.h₀ c.L mm H news s.heap) (lr : LR news m mm) {args : List Expr} {pos : Pos} {f : Addr} {first : List Value} {fs : List AV} {Q : AQ} (hp : (args.all plainE) = true)
   (hk : keepIn G.K (.ref f) = true) (hf : VRs news fs first) (h : WEs G D cs cl args m H fun as H' => WC G D (.ref f) (fs ++ as) H' Q) (Q' : Value → Shared → Prop) (E : Value → Shared → Prop)
   (k : ∀ v a H' news' h' tk, St G c.h₀ c.L mm H' news' h' → Keep H H' news news' → VR news' a v → Q a H' → Q' v { s with heap := h', toks := tk }) :
   wpAny (model G.prog G.w) c.A (callWith pos (.ref f) first (backTo pos (starEach args c.env)) []) Q' E s := by
 have app : ∀ {n : Led} {xs ys : List AV} {vs ws : List Value}, VRs n xs vs → VRs n ys ws → VRs n (xs ++ ys) (vs ++ ws) := by
   intro n xs
   induction xs with
   | nil => intro ys vs ws a b; rw [VRs_nil] at a; subst a; exact b
   | cons x xs ih =>
     intro ys vs ws a b
     rw [VRs_cons] at a
     (refine exEEAA (a) fun v r zq0 a1 a2 => ?_; clear a; rcases zq0 with rfl)
     exact (VRs_cons ..).mpr ⟨v, r ++ ws, rfl, a1, ih a2 b⟩
 have fin : ∀ (vs : List Value) (as : List AV) (H' : AHeap) n' h' tk, St G c.h₀ c.L mm H' n' h' → Keep H H' news n' → VRs n' as vs → WC G D (.ref f) (fs ++ as) H' Q → wpAny (model G.prog G.w) c.A (call (.ref f) (first ++ vs)) Q' E { s with heap := h', toks := tk } := by
   intro vs as H' n' h' tk S1 K1 V1 w
   refine wpAny_call (w.go c ok mm n' _ S1 (first ++ vs) (app (S.vrs K1 hf) V1) _ fun v a H'' n'' h'' tk' S2 K2 V2 q => ?_)
   exact k v a H'' n'' h'' tk' S2 (K1.trans K2) V2 q
 cases args with
 | nil => exact callWith_K0 (in_heap ok S) hk (fin [] [] H news s.heap s.toks S Keep.rfl ((VRs_nil ..).mpr rfl) h)
 | cons e es =>
   refine callWith_K ok.kin hk (WEs.go hp h c h1 h2 ok pos S lr _ E fun vs as H' n' h' tk S1 K1 V1 len w => ?_) (starEach_plain (by rw [List.all_cons, Bool.and_eq_true] at hp; exact hp.1)) (any_plain (by rw [List.all_cons, Bool.and_eq_true] at hp; exact hp.2))
   exact ⟨in_heap ok S1, fin vs as H' n' h' tk S1 K1 V1 w⟩
theorem WE.callK {x : Str} {xp pos : Pos} {args : List Expr} {f : Addr} {Q : AQ} (hn : nsIn G.K mainGlobals x = some (some (.ref f))) (hk : keepIn G.K (.ref f) = true)
   (h : WEs G D cs cl args m H (qCK G D (.ref f) Q)) (hp : (args.all plainE) = true := by rfl) (hx : cs.names.lookup x = some .globalImplicit := by rfl) (hd : (x == ("__debug__" : Str)) = false := by decide) :
   WE G D cs cl (.Call (.Name x xp) args [] pos) m H Q where
 go := fun c h1 h2 ok mm news s S lr Q' E k => by
   refine Call_ ((WE.gname (a := .ref f) hn (fun _ => rfl) (h := (⟨rfl, rfl⟩ : AV.ref f = AV.ref f ∧ H = H)) hx hd : WE G D cs cl (.Name x xp) m H fun a H' => a = AV.ref f ∧ H' = H).go c h1 h2 ok mm news s S lr _ E fun v a H' n' h' tk S1 K1 V1 q => ?_) (by rfl)
   (refine exA (q) fun zq0 zq1 => ?_; clear q; rcases zq0 with rfl; rcases zq1 with rfl)
   have : v = .ref f := V1
   subst this
   exact callWith_go (s := { s with heap := h', toks := tk }) h1 h2 ok S1 (LR.keep S K1 lr) (fs := []) hp hk ((VRs_nil ..).mpr rfl) h _ _ fun v a H'' n'' h'' tk' S2 K2 V2 q => k v a H'' n'' h'' tk' S2 (K1.trans K2) V2 q
structure CmP (G : Gl) (D : Nat) (cs : Scope) (cl : List (Str × Addr)) (m : Loc) (name : Str) (args : List Expr) (a : AV) (H1 : AHeap) (Q : AV → AHeap → Prop) : Prop where
 go : ∃ x C dx as f, a = .ref x ∧ H1 x = some (.inst C dx) ∧ H1 dx = some (.attrs as) ∧ as.lookup name = none ∧ methIn G.K C name f = true ∧ WEs G D cs cl args m H1 (qCs (.ref x) (qCK G D (.ref f) Q))
theorem CmP.of {name : Str} {args : List Expr} {x C dx f : Addr} {as : List (Str × AV)} {Q : AQ} (h1 : H x = some (.inst C dx)) (h2 : H dx = some (.attrs as)) (h3 : as.lookup name = none) (h4 : methIn G.K C name f = true) (q : WEs G D cs cl args m H (qCs (.ref x) (qCK G D (.ref f) Q))) : CmP G D cs cl m name args (.ref x) H Q := ⟨x, C, dx, as, f, rfl, h1, h2, h3, h4, q⟩
@[reducible] noncomputable def qCm (G : Gl) (D : Nat) (cs : Scope) (cl : List (Str × Addr)) (m : Loc) (name : Str) (args : List Expr) (Q : AV → AHeap → Prop) : AV → AHeap → Prop := fun a H => CmP G D cs cl m name args a H Q
theorem WE.callM {o : Expr} {name : Str} {apos pos : Pos} {args : List Expr} {Q : AQ}
   (h : WE G D cs cl o m H (qCm G D cs cl m name args Q))
   (hp : (args.all plainE) = true := by rfl) {pl : Env → Sem Bool}
   (he : ∀ env : Env, eval (.Call (.Attribute o name apos) args [] pos) env = (do
     let ov ← eval o env
     standAt apos.atName
     let (f, first) ← holding [ov] (getMethod ov name (pl env))
     callWith pos f first (backTo pos (starEach args env)) []) := by intro _; rfl) :
   WE G D cs cl (.Call (.Attribute o name apos) args [] pos) m H Q where
 go := fun c h1 h2 ok mm news s S lr Q' E k => by
   refine MethodCall_ (h.go c h1 h2 ok mm news s S lr _ E fun v a H' n' h' tk S1 K1 V1 q => ?_) (he _)
   obtain ⟨x, C, dx, as, f, rfl, hx, hd, hl, hm, q⟩ := q
   have : v = .ref x := V1
   subst this
   (refine exEAA (S1.get hx) fun ox x1 x2 x3 => ?_)
   have : ox = instObj C dx := x2
   subst this
   (refine exEAA (S1.get hd) fun od d1 zq0 d3 => ?_; refine exEEA (zq0) fun es n zq1 d4 => ?_; clear zq0; rcases zq1 with rfl)
   simp only [methIn, Bool.and_eq_true, beq_iff_eq] at hm
   refine method_inst (s := { s with heap := h', toks := tk }) S1.fr ok.kin (es := es) (n := n) ⟨x3, rfl, rfl, d3⟩ hm.1.1.1 hm.1.1.2 hm.1.2 (d4.getL_none hl) ?_
   exact callWith_go (s := { s with heap := h', toks := tk }) h1 h2 ok S1 (LR.keep S K1 lr) (fs := [.ref x]) hp hm.2 ((VRs_cons ..).mpr ⟨_, [], rfl, rfl, (VRs_nil ..).mpr rfl⟩) q _ _ fun v a H'' n'' h'' tk' S2 K2 V2 q => k v a H'' n'' h'' tk' S2 (K1.trans K2) V2 q
end
section
variable {G : Gl} {D : Nat} {cs : Scope} {cl : List (Str × Addr)} {m : Loc} {H : AHeap}
structure WTr (G : Gl) (D : Nat) (a : AV) (H : AHeap) (Q : Bool → AHeap → Prop) : Prop where
 go : ∀ c : Cx, c.Ok G D → ∀ mm news s, St G c.h₀ c.L mm H news s.heap → ∀ v, VR news a v → ∀ (Q' : Bool → Shared → Prop) E,
   (∀ b H' news' h' tk, St G c.h₀ c.L mm H' news' h' → Keep H H' news news' → Q b H' → Q' b { s with heap := h', toks := tk }) →
   wpAny (model G.prog G.w) c.A (truthy v) Q' E s
structure WCmp (G : Gl) (D : Nat) (op : CmpOp) (a b : AV) (H : AHeap) (Q : Bool → AHeap → Prop) : Prop where
 go : ∀ c : Cx, c.Ok G D → ∀ mm news s, St G c.h₀ c.L mm H news s.heap → ∀ va vb, VR news a va → VR news b vb → ∀ (Q' : Value → Shared → Prop) E,
   (∀ b H' news' h' tk, St G c.h₀ c.L mm H' news' h' → Keep H H' news news' → Q b H' → Q' (.bool b) { s with heap := h', toks := tk }) →
   wpAny (model G.prog G.w) c.A (compareOp op va vb) Q' E s
structure WOp (G : Gl) (D : Nat) (op : Operator) (inpl : Bool) (a b : AV) (H : AHeap) (Q : AV → AHeap → Prop) : Prop where
 go : ∀ c : Cx, c.Ok G D → ∀ mm news s, St G c.h₀ c.L mm H news s.heap → ∀ va vb, VR news a va → VR news b vb → ∀ (Q' : Value → Shared → Prop) E,
   (∀ v x H' news' h' tk, St G c.h₀ c.L mm H' news' h' → Keep H H' news news' → VR news' x v → Q x H' → Q' v { s with heap := h', toks := tk }) →
   wpAny (model G.prog G.w) c.A (if inpl then inplaceOp op va vb else binaryOp op va vb) Q' E s
theorem WTr.bool {b : Bool} {Q : Bool → AHeap → Prop} (h : Q b H) : WTr G D (.bool b) H Q where
 go := fun c ok mm news s S v hv Q' E k => by
   rw [show v = .bool b from hv]
   exact wpAny_truthy_bool (k b H news s.heap s.toks S Keep.rfl h)
section
variable {a b : Int} {Q : Bool → AHeap → Prop}
theorem WCmp.eqI (h : Q (a == b) H) : WCmp G D .Eq (.int a) (.int b) H Q where
 go := fun c ok mm news s S va vb ha hb Q' E k => by
   (refine exE (ha) fun t zq0 => ?_; clear ha; rcases zq0 with rfl); (refine exE (hb) fun u zq0 => ?_; clear hb; rcases zq0 with rfl)
   exact PyProof.Rows.eq_int (k _ H news s.heap s.toks S Keep.rfl h)
theorem WCmp.neI (h : Q (a != b) H) : WCmp G D .NotEq (.int a) (.int b) H Q where
 go := fun c ok mm news s S va vb ha hb Q' E k => by
   (refine exE (ha) fun t zq0 => ?_; clear ha; rcases zq0 with rfl); (refine exE (hb) fun u zq0 => ?_; clear hb; rcases zq0 with rfl)
   exact PyProof.Rows.ne_int (k _ H news s.heap s.toks S Keep.rfl h)
theorem WCmp.ltI (h : Q (decide (a < b)) H) : WCmp G D .Lt (.int a) (.int b) H Q where
 go := fun c ok mm news s S va vb ha hb Q' E k => by
   (refine exE (ha) fun t zq0 => ?_; clear ha; rcases zq0 with rfl); (refine exE (hb) fun u zq0 => ?_; clear hb; rcases zq0 with rfl)
   exact PyProof.Rows.lt_int (k _ H news s.heap s.toks S Keep.rfl h)
theorem WCmp.gtI (h : Q (decide (b < a)) H) : WCmp G D .Gt (.int a) (.int b) H Q where
 go := fun c ok mm news s S va vb ha hb Q' E k => by
   (refine exE (ha) fun t zq0 => ?_; clear ha; rcases zq0 with rfl); (refine exE (hb) fun u zq0 => ?_; clear hb; rcases zq0 with rfl)
   exact PyProof.Rows.gt_int (k _ H news s.heap s.toks S Keep.rfl h)
theorem WCmp.geI (h : Q (decide (b ≤ a)) H) : WCmp G D .GtE (.int a) (.int b) H Q where
 go := fun c ok mm news s S va vb ha hb Q' E k => by
   (refine exE (ha) fun t zq0 => ?_; clear ha; rcases zq0 with rfl); (refine exE (hb) fun u zq0 => ?_; clear hb; rcases zq0 with rfl)
   exact PyProof.Rows.ge_int (k _ H news s.heap s.toks S Keep.rfl h)
theorem WCmp.eqS {a b : Str} (h : Q (a == b) H) : WCmp G D .Eq (.str a) (.str b) H Q where
 go := fun c ok mm news s S va vb ha hb Q' E k => by
   (refine exE (ha) fun t zq0 => ?_; clear ha; rcases zq0 with rfl); (refine exE (hb) fun u zq0 => ?_; clear hb; rcases zq0 with rfl)
   exact PyProof.Rows.eq_str (k _ H news s.heap s.toks S Keep.rfl h)
theorem WCmp.eqS_is {a b : Str} {x : Bool} (e : (a == b) = x) (h : Q x H) : WCmp G D .Eq (.str a) (.str b) H Q := WCmp.eqS (by rw [e]; exact h)
theorem WCmp.eqI_is {a b : Int} {x : Bool} (e : (a == b) = x) (h : Q x H) : WCmp G D .Eq (.int a) (.int b) H Q := WCmp.eqI (by rw [e]; exact h)
theorem WCmp.geI_is {a b : Int} {x : Bool} (e : decide (b ≤ a) = x) (h : Q x H) : WCmp G D .GtE (.int a) (.int b) H Q := WCmp.geI (by rw [e]; exact h)
theorem WCmp.ltI_is {a b : Int} {x : Bool} (e : decide (a < b) = x) (h : Q x H) : WCmp G D .Lt (.int a) (.int b) H Q := WCmp.ltI (by rw [e]; exact h)
theorem WCmp.neS {a b : Str} (h : Q (a != b) H) : WCmp G D .NotEq (.str a) (.str b) H Q where
 go := fun c ok mm news s S va vb ha hb Q' E k => by
   (refine exE (ha) fun t zq0 => ?_; clear ha; rcases zq0 with rfl); (refine exE (hb) fun u zq0 => ?_; clear hb; rcases zq0 with rfl)
   exact PyProof.Rows.ne_str (k _ H news s.heap s.toks S Keep.rfl h)
end
section
variable {a b : Int} {Q : AQ}
theorem WOp.add (h : Q (.int (a + b)) H) : WOp G D .Add false (.int a) (.int b) H Q where
 go := fun c ok mm news s S va vb ha hb Q' E k => by
   (refine exE (ha) fun t zq0 => ?_; clear ha; rcases zq0 with rfl); (refine exE (hb) fun u zq0 => ?_; clear hb; rcases zq0 with rfl)
   exact PyProof.Rows.add_int (k _ _ H news s.heap _ S Keep.rfl (by exact ⟨_, rfl⟩) h)
theorem WOp.sub (h : Q (.int (a - b)) H) : WOp G D .Sub false (.int a) (.int b) H Q where
 go := fun c ok mm news s S va vb ha hb Q' E k => by
   (refine exE (ha) fun t zq0 => ?_; clear ha; rcases zq0 with rfl); (refine exE (hb) fun u zq0 => ?_; clear hb; rcases zq0 with rfl)
   exact PyProof.Rows.sub_int (k _ _ H news s.heap _ S Keep.rfl (by exact ⟨_, rfl⟩) h)
theorem WOp.mod (hb : b ≠ 0) (h : Q (.int (a.fmod b)) H) : WOp G D .Mod false (.int a) (.int b) H Q where
 go := fun c ok mm news s S va vb ha hb' Q' E k => by
   (refine exE (ha) fun t zq0 => ?_; clear ha; rcases zq0 with rfl); (refine exE (hb') fun u zq0 => ?_; clear hb'; rcases zq0 with rfl)
   exact PyProof.Rows.mod_int hb (k _ _ H news s.heap _ S Keep.rfl (by exact ⟨_, rfl⟩) h)
theorem WOp.iadd (h : Q (.int (a + b)) H) : WOp G D .Add true (.int a) (.int b) H Q where
 go := fun c ok mm news s S va vb ha hb Q' E k => by
   (refine exE (ha) fun t zq0 => ?_; clear ha; rcases zq0 with rfl); (refine exE (hb) fun u zq0 => ?_; clear hb; rcases zq0 with rfl)
   exact PyProof.Rows.iadd_int (k _ _ H news s.heap _ S Keep.rfl (by exact ⟨_, rfl⟩) h)
theorem WOp.isub (h : Q (.int (a - b)) H) : WOp G D .Sub true (.int a) (.int b) H Q where
 go := fun c ok mm news s S va vb ha hb Q' E k => by
   (refine exE (ha) fun t zq0 => ?_; clear ha; rcases zq0 with rfl); (refine exE (hb) fun u zq0 => ?_; clear hb; rcases zq0 with rfl)
   exact PyProof.Rows.isub_int (k _ _ H news s.heap _ S Keep.rfl (by exact ⟨_, rfl⟩) h)
end
@[reducible] noncomputable def q2O (G : Gl) (D : Nat) (op : Operator) (i : Bool) (a : AV) (Q : AV → AHeap → Prop) : AV → AHeap → Prop := fun b H => WOp G D op i a b H Q
@[reducible] noncomputable def q1O (G : Gl) (D : Nat) (cs : Scope) (cl : List (Str × Addr)) (r : Expr) (m : Loc) (op : Operator) (Q : AV → AHeap → Prop) : AV → AHeap → Prop := fun a H => WE G D cs cl r m H (q2O G D op false a Q)
@[reducible] noncomputable def q2K (G : Gl) (D : Nat) (op : CmpOp) (a : AV) (Q : Bool → AHeap → Prop) : AV → AHeap → Prop := fun b H => WCmp G D op a b H Q
@[reducible] noncomputable def q1K (G : Gl) (D : Nat) (cs : Scope) (cl : List (Str × Addr)) (r : Expr) (m : Loc) (op : CmpOp) (Q : Bool → AHeap → Prop) : AV → AHeap → Prop := fun a H => WE G D cs cl r m H (q2K G D op a Q)
@[reducible] noncomputable def qBl (Q : AV → AHeap → Prop) : Bool → AHeap → Prop := fun x H => Q (.bool x) H
@[reducible] noncomputable def qTr (G : Gl) (D : Nat) (Q : Bool → AHeap → Prop) : AV → AHeap → Prop := fun a H => WTr G D a H Q
@[reducible] noncomputable def qNot (Q : Bool → AHeap → Prop) : Bool → AHeap → Prop
 | true, H => Q false H
 | false, H => Q true H
@[reducible] noncomputable def qAnd (W : AHeap → (Bool → AHeap → Prop) → Prop) (Q : Bool → AHeap → Prop) : Bool → AHeap → Prop
 | true, H => W H Q
 | false, H => Q false H
@[reducible] noncomputable def qOr (W : AHeap → (Bool → AHeap → Prop) → Prop) (Q : Bool → AHeap → Prop) : Bool → AHeap → Prop
 | false, H => W H Q
 | true, H => Q true H
@[reducible] noncomputable def qIf (G : Gl) (D : Nat) (cs : Scope) (cl : List (Str × Addr)) (a b : Expr) (m : Loc) (Q : AV → AHeap → Prop) : Bool → AHeap → Prop
 | true, H => WE G D cs cl a m H Q
 | false, H => WE G D cs cl b m H Q
@[reducible] noncomputable def qIte (G : Gl) (D : Nat) (cs : Scope) (cl : List (Str × Addr)) (a b : List Stmt) (m : Loc) (Q : Fl → Loc → AHeap → Prop) : Bool → AHeap → Prop
 | true, H => WS G D cs cl a m H Q
 | false, H => WS G D cs cl b m H Q
@[reducible] noncomputable def qNx (m : Loc) (Q : Fl → Loc → AHeap → Prop) : AHeap → Prop := fun H => Q .next m H
@[reducible] noncomputable def qEx (m : Loc) (Q : Fl → Loc → AHeap → Prop) : AV → AHeap → Prop := fun _ H => Q .next m H
@[reducible] noncomputable def qRe (m : Loc) (Q : Fl → Loc → AHeap → Prop) : AV → AHeap → Prop := fun a H => Q (.ret a) m H
@[reducible] noncomputable def qAs (x : Str) (m : Loc) (Q : Fl → Loc → AHeap → Prop) : AV → AHeap → Prop := fun a H => Q .next ((x, a) :: m) H
theorem WE.binop {l r : Expr} {op : Operator} {pos : Pos} {Q : AQ} (h : WE G D cs cl l m H (q1O G D cs cl r m op Q)) : WE G D cs cl (.BinOp l op r pos) m H Q where
 go := fun c h1 h2 ok mm news s S lr Q' E k => by
   refine wpAny_BinOp (h.go c h1 h2 ok mm news s S lr _ E fun va a H1 n1 h1' tk S1 K1 V1 w => ?_)
   refine w.go c h1 h2 ok mm n1 _ S1 (LR.keep S K1 lr) _ E fun vb b H2 n2 h2' tk2 S2 K2 V2 w2 => ?_
   exact w2.go c ok mm n2 _ S2 va vb (S1.vr K2 V1) V2 _ E fun v x H3 n3 h3 tk3 S3 K3 V3 q => k v x H3 n3 h3 tk3 S3 ((K1.trans K2).trans K3) V3 q
theorem WE.neg {e : Expr} {pos : Pos} {Q : AQ} (h : WE G D cs cl e m H fun a H1 => ∃ i, a = .int i ∧ Q (.int (-i)) H1) : WE G D cs cl (.UnaryOp .USub e pos) m H Q where
 go := fun c h1 h2 ok mm news s S lr Q' E k => by
   refine PySem.wpAny_UnaryOp (h.go c h1 h2 ok mm news s S lr _ E fun va a H1 n1 h1' tk S1 K1 V1 w => ?_)
   (refine exEA (w) ?_; clear w; intro i zq0 w; rcases zq0 with rfl)
   (refine exE (V1) fun t zq0 => ?_; clear V1; rcases zq0 with rfl)
   exact PyProof.Rows.neg_int (k _ (.int (-i)) H1 n1 h1' _ S1 K1 (by exact ⟨_, rfl⟩) w)
theorem WE.cmp {l r : Expr} {op : CmpOp} {pos : Pos} {Q : AQ} (h : WE G D cs cl l m H (q1K G D cs cl r m op (qBl Q)))
   (hm : behindInMarks op r = false := by with_unfolding_all rfl) : WE G D cs cl (.Compare l [op] [r] pos) m H Q where
 go := fun c h1 h2 ok mm news s S lr Q' E k => by
   refine wpAny_Compare1 (h.go c h1 h2 ok mm news s S lr _ E fun va a H1 n1 h1' tk S1 K1 V1 w => ?_) hm
   refine w.go c h1 h2 ok mm n1 _ S1 (LR.keep S K1 lr) _ E fun vb b H2 n2 h2' tk2 S2 K2 V2 w2 => ?_
   exact w2.go c ok mm n2 _ S2 va vb (S1.vr K2 V1) V2 _ E fun x H3 n3 h3 tk3 S3 K3 q => k _ (.bool x) H3 n3 h3 tk3 S3 ((K1.trans K2).trans K3) rfl q
theorem WT.cmp {l r : Expr} {op : CmpOp} {pos : Pos} {Q : Bool → AHeap → Prop} (h : WE G D cs cl l m H (q1K G D cs cl r m op Q))
   (hm : behindInMarks op r = false := by with_unfolding_all rfl) : WT G D cs cl (.Compare l [op] [r] pos) m H Q where
 go := fun c h1 h2 ok mm news s S lr Q' E k => by
   refine wpAny_isTrue_Compare1 (h.go c h1 h2 ok mm news s S lr _ E fun va a H1 n1 h1' tk S1 K1 V1 w => ?_) hm
   refine w.go c h1 h2 ok mm n1 _ S1 (LR.keep S K1 lr) _ E fun vb b H2 n2 h2' tk2 S2 K2 V2 w2 => ?_
   exact w2.go c ok mm n2 _ S2 va vb (S1.vr K2 V1) V2 _ E fun x H3 n3 h3 tk3 S3 K3 q => wpAny_truthy_bool (k x H3 n3 h3 tk3 S3 ((K1.trans K2).trans K3) q)
theorem WT.val {e : Expr} {Q : Bool → AHeap → Prop} (h : WE G D cs cl e m H (qTr G D Q))
   (he : ∀ (env : Env) (whole : Sem Value), isTrue e env whole = (do let v ← whole; standAt e.pos; holding [v] (truthy v)) := by intros; rfl) : WT G D cs cl e m H Q where
 go := fun c h1 h2 ok mm news s S lr Q' E k => by
   refine wpAny_isTrue_value (h.go c h1 h2 ok mm news s S lr _ E fun va a H1 n1 h1' tk S1 K1 V1 w => ?_) (he _ _)
   exact w.go c ok mm n1 _ S1 va V1 _ E fun b H3 n3 h3 tk3 S3 K3 q => k b H3 n3 h3 tk3 S3 (K1.trans K3) q
theorem WT.not {e : Expr} {pos : Pos} {Q : Bool → AHeap → Prop} (h : WT G D cs cl e m H (qNot Q)) : WT G D cs cl (.UnaryOp .Not e pos) m H Q where
 go := fun c h1 h2 ok mm news s S lr Q' E k => wpAny_isTrue_Not (h.go c h1 h2 ok mm news s S lr _ E fun b H1 n1 h1' tk S1 K1 w => k _ H1 n1 h1' tk S1 K1 (by cases b <;> exact w))
@[reducible] noncomputable def WAnd (G : Gl) (D : Nat) (cs : Scope) (cl : List (Str × Addr)) : List Expr → Loc → AHeap → (Bool → AHeap → Prop) → Prop
 | [], _, H, Q => Q true H
 | e :: es, m, H, Q => WT G D cs cl e m H (qAnd (WAnd G D cs cl es m) Q)
@[reducible] noncomputable def WOr (G : Gl) (D : Nat) (cs : Scope) (cl : List (Str × Addr)) : List Expr → Loc → AHeap → (Bool → AHeap → Prop) → Prop
 | [], _, H, Q => Q false H
 | e :: es, m, H, Q => WT G D cs cl e m H (qOr (WOr G D cs cl es m) Q)
theorem WAnd.go {c : Cx} (h1 : c.cs = cs) (h2 : c.cl = cl) (ok : c.Ok G D) {mm : Str → Option Value} : ∀ {es : List Expr} {H : AHeap} {Q : Bool → AHeap → Prop}, WAnd G D cs cl es m H Q → ∀ {news s}, St G c.h₀ c.L mm H news s.heap → LR news m mm → ∀ (Q' : Bool → Shared → Prop) E,
   (∀ b H' news' h' tk, St G c.h₀ c.L mm H' news' h' → Keep H H' news news' → Q b H' → Q' b { s with heap := h', toks := tk }) → wpAny (model G.prog G.w) c.A (allTrue .And es c.env) Q' E s := by
 intro zz
 induction zz with
 | nil =>
   intro H Q w news s S lr Q' E k
   exact wpAny_allTrue_And_nil (k true H news s.heap s.toks S Keep.rfl w)
 | cons e es ih =>
   intro H Q w news s S lr Q' E k
   refine wpAny_allTrue_And_cons (WT.go w c h1 h2 ok mm news s S lr _ E fun b H1 n1 h1' tk S1 K1 w1 => ?_)
   cases b with
   | false => exact k false H1 n1 h1' tk S1 K1 w1
   | true => exact ih (s := { s with heap := h1', toks := tk }) w1 S1 (LR.keep S K1 lr) _ E fun b H2 n2 h2' tk2 S2 K2 q => k b H2 n2 h2' tk2 S2 (K1.trans K2) q
theorem WOr.go {c : Cx} (h1 : c.cs = cs) (h2 : c.cl = cl) (ok : c.Ok G D) {mm : Str → Option Value} : ∀ {es : List Expr} {H : AHeap} {Q : Bool → AHeap → Prop}, WOr G D cs cl es m H Q → ∀ {news s}, St G c.h₀ c.L mm H news s.heap → LR news m mm → ∀ (Q' : Bool → Shared → Prop) E,
   (∀ b H' news' h' tk, St G c.h₀ c.L mm H' news' h' → Keep H H' news news' → Q b H' → Q' b { s with heap := h', toks := tk }) → wpAny (model G.prog G.w) c.A (allTrue .Or es c.env) Q' E s := by
 intro zz
 induction zz with
 | nil =>
   intro H Q w news s S lr Q' E k
   exact wpAny_allTrue_Or_nil (k false H news s.heap s.toks S Keep.rfl w)
 | cons e es ih =>
   intro H Q w news s S lr Q' E k
   refine wpAny_allTrue_Or_cons (WT.go w c h1 h2 ok mm news s S lr _ E fun b H1 n1 h1' tk S1 K1 w1 => ?_)
   cases b with
   | true => exact k true H1 n1 h1' tk S1 K1 w1
   | false => exact ih (s := { s with heap := h1', toks := tk }) w1 S1 (LR.keep S K1 lr) _ E fun b H2 n2 h2' tk2 S2 K2 q => k b H2 n2 h2' tk2 S2 (K1.trans K2) q
theorem WT.and {es : List Expr} {pos : Pos} {Q : Bool → AHeap → Prop} (h : WAnd G D cs cl es m H Q) : WT G D cs cl (.BoolOp .And es pos) m H Q where
 go := fun c h1 h2 ok mm news s S lr Q' E k => wpAny_isTrue_BoolOp (WAnd.go h1 h2 ok h S lr Q' E k)
theorem WT.or {es : List Expr} {pos : Pos} {Q : Bool → AHeap → Prop} (h : WOr G D cs cl es m H Q) : WT G D cs cl (.BoolOp .Or es pos) m H Q where
 go := fun c h1 h2 ok mm news s S lr Q' E k => wpAny_isTrue_BoolOp (WOr.go h1 h2 ok h S lr Q' E k)
theorem WE.ifexp {t a b : Expr} {pos : Pos} {Q : AQ} (h : WT G D cs cl t m H (qIf G D cs cl a b m Q)) : WE G D cs cl (.IfExp t a b pos) m H Q where
 go := fun c h1 h2 ok mm news s S lr Q' E k => by
   refine PySem.wpAny_IfExp (h.go c h1 h2 ok mm news s S lr _ E fun x H1 n1 h1' tk S1 K1 w => ?_)
   cases x with
   | true => exact w.go c h1 h2 ok mm n1 _ S1 (LR.keep S K1 lr) _ E fun v a H2 n2 h2' tk2 S2 K2 V2 q => k v a H2 n2 h2' tk2 S2 (K1.trans K2) V2 q
   | false => exact w.go c h1 h2 ok mm n1 _ S1 (LR.keep S K1 lr) _ E fun v a H2 n2 h2' tk2 S2 K2 V2 q => k v a H2 n2 h2' tk2 S2 (K1.trans K2) V2 q
@[reducible] noncomputable def seqQ (G : Gl) (D : Nat) (cs : Scope) (cl : List (Str × Addr)) (rest : List Stmt) (Q : Fl → Loc → AHeap → Prop) : Fl → Loc → AHeap → Prop
 | .next, m, H => WS G D cs cl rest m H Q
 | .brk, m, H => Q .brk m H
 | .cont, m, H => Q .cont m H
 | .ret a, m, H => Q (.ret a) m H
theorem WS.nil {Q : Fl → Loc → AHeap → Prop} (h : Q .next m H) : WS G D cs cl [] m H Q where
 go := fun c h1 h2 ok mm news s S lr Q' E k => wpAny_execs_nil (k .next .next m mm H news s.heap s.toks S lr Keep.rfl rfl h)
theorem WS.cons {st : Stmt} {rest : List Stmt} {Q : Fl → Loc → AHeap → Prop} (h : W1 G D cs cl st m H (seqQ G D cs cl rest Q)) : WS G D cs cl (st :: rest) m H Q where
 go := fun c h1 h2 ok mm news s S lr Q' E k => by
   refine wpAny_execs_cons (h.go c h1 h2 ok mm news s S lr _ E fun f fl m' mm' H' n' h' tk S1 lr1 K1 F1 w => ?_)
   cases fl with
   | next =>
     rw [show f = .next from F1]
     exact WS.go w c h1 h2 ok mm' n' _ S1 lr1 _ E fun f fl m2 mm2 H2 n2 h2 tk2 S2 lr2 K2 F2 q => k f fl m2 mm2 H2 n2 h2 tk2 S2 lr2 (K1.trans K2) F2 q
   | brk => rw [show f = .brk from F1]; exact k .brk .brk m' mm' H' n' h' tk S1 lr1 K1 rfl w
   | cont => rw [show f = .cont from F1]; exact k .cont .cont m' mm' H' n' h' tk S1 lr1 K1 rfl w
   | ret a =>
     (refine exEA (F1) fun v zq0 hv => ?_; clear F1; rcases zq0 with rfl)
     exact k (.ret v) (.ret a) m' mm' H' n' h' tk S1 lr1 K1 ⟨v, rfl, hv⟩ w
theorem not_interactive {c : Cx} (ok : c.Ok G D) : interactive c.env = false := by
 unfold interactive
 rw [show c.env.scope.kind = ScopeKind.function from ok.kind]
 rfl
theorem W1.expr {e : Expr} {pos : Pos} {Q : Fl → Loc → AHeap → Prop} (h : WE G D cs cl e m H (qEx m Q))
   (hs : ∀ env : Env, swapsWith e none pos.line env = pure false := by intro _; rfl) : W1 G D cs cl (.Expr e pos) m H Q where
 go := fun c h1 h2 ok mm news s S lr Q' E k => by
   refine wpAny_Expr_any (h.go c h1 h2 ok mm news s S lr _ E fun v a H1 n1 h' tk S1 K1 V1 w => ?_) (not_interactive ok) (hs _)
   exact k .next .next m mm H1 n1 h' tk S1 (LR.keep S K1 lr) K1 rfl w
theorem W1.ret {e : Expr} {pos : Pos} {Q : Fl → Loc → AHeap → Prop} (h : WE G D cs cl e m H (qRe m Q)) : W1 G D cs cl (.Return (some e) pos) m H Q where
 go := fun c h1 h2 ok mm news s S lr Q' E k => by
   refine wpAny_Return_some (h.go c h1 h2 ok mm news s S lr _ E fun v a H1 n1 h' tk S1 K1 V1 w => ?_)
   exact k (.ret v) (.ret a) m mm H1 n1 h' tk S1 (LR.keep S K1 lr) K1 ⟨v, rfl, V1⟩ w
theorem W1.ret0 {pos : Pos} {Q : Fl → Loc → AHeap → Prop} (h : Q (.ret .none) m H) : W1 G D cs cl (.Return none pos) m H Q where
 go := fun c h1 h2 ok mm news s S lr Q' E k => wpAny_Return_none (k (.ret .none) (.ret .none) m mm H news s.heap s.toks S lr Keep.rfl ⟨_, rfl, rfl⟩ h)
theorem W1.cont {pos : Pos} {Q : Fl → Loc → AHeap → Prop} (h : Q .cont m H) : W1 G D cs cl (.Continue pos) m H Q where
 go := fun c h1 h2 ok mm news s S lr Q' E k => PySem.wpAny_Continue (k .cont .cont m mm H news s.heap s.toks S lr Keep.rfl rfl h)
theorem W1.ite {t : Expr} {a b : List Stmt} {pos : Pos} {Q : Fl → Loc → AHeap → Prop} (h : WT G D cs cl t m H (qIte G D cs cl a b m Q)) : W1 G D cs cl (.If t a b pos) m H Q where
 go := fun c h1 h2 ok mm news s S lr Q' E k => by
   refine wpAny_If (h.go c h1 h2 ok mm news s S lr _ E fun x H1 n1 h1' tk S1 K1 w => ?_)
   cases x with
   | true => exact w.go c h1 h2 ok mm n1 _ S1 (LR.keep S K1 lr) _ E fun f fl m2 mm2 H2 n2 h2 tk2 S2 lr2 K2 F2 q => k f fl m2 mm2 H2 n2 h2 tk2 S2 lr2 (K1.trans K2) F2 q
   | false => exact w.go c h1 h2 ok mm n1 _ S1 (LR.keep S K1 lr) _ E fun f fl m2 mm2 H2 n2 h2 tk2 S2 lr2 K2 F2 q => k f fl m2 mm2 H2 n2 h2 tk2 S2 lr2 (K1.trans K2) F2 q
theorem St.store {h₀ L mm news h h' mm'} (S : St G h₀ L mm H news h) (F : Fr h₀ L h' mm') (N : News h₀ L h' news) : St G h₀ L mm' H news h' := ⟨F, N, S.nd, S.hr, S.lo⟩
theorem LR.put {news : Led} {m : Loc} {mm : Str → Option Value} (lr : LR news m mm) {x : Str} {a : AV} {v : Value} (h : VR news a v) : LR news ((x, a) :: m) (fun y => if y = x then some v else mm y) := by
 intro y b e
 rw [List.lookup_cons] at e
 by_cases q : y = x
 · subst q
   simp only [beq_self_eq_true] at e
   cases e
   exact ⟨v, by (exact if_pos rfl), h⟩
 · have q1 : (y == x) = false := by simpa using q
   simp only [q1] at e
   (refine exEA (lr y b e) fun w e1 e2 => ?_)
   exact ⟨w, by simp [q, e1], e2⟩
theorem W1.assign {x : Str} {xp : Pos} {e : Expr} {pos : Pos} {Q : Fl → Loc → AHeap → Prop} (h : WE G D cs cl e m H (qAs x m Q))
   (hx : cs.names.lookup x = some .local := by rfl) (hs : ∀ env : Env, swapsWith e (some (.Name x xp)) pos.line env = pure false := by intro _; rfl) : W1 G D cs cl (.Assign [.Name x xp] e pos) m H Q where
 go := fun c h1 h2 ok mm news s S lr Q' E k => by
   subst h1
   refine wpAny_Assign_Name (h.go c rfl h2 ok mm news s S lr _ E fun v a H1 n1 h' tk S1 K1 V1 w => ?_) (hs _)
   refine storeX_L (s := { s with heap := h', toks := tk }) S1.fr S1.nw (fun h'' F N => ?_) ok.kind hx
   exact k .next .next _ _ H1 n1 h'' _ (S1.store F N) ((LR.keep S K1 lr).put V1) K1 rfl w
theorem W1.aug {x : Str} {xp : Pos} {e : Expr} {op : Operator} {a : AV} {pos : Pos} {Q : Fl → Loc → AHeap → Prop} (hv : m.lookup x = some a) (h : WE G D cs cl e m H (q2O G D op true a (qAs x m Q)))
   (hx : cs.names.lookup x = some .local := by rfl) : W1 G D cs cl (.AugAssign (.Name x xp) op e pos) m H Q where
 go := fun c h1 h2 ok mm news s S lr Q' E k => by
   subst h1
   (refine exEA (lr x a hv) fun v0 e1 e2 => ?_)
   refine wpAny_AugAssign_Name (wpAny_loadName_local ok.kind hx S.fr.ns e1 ?_)
   refine h.go c rfl h2 ok mm news s S lr _ E fun v b H1 n1 h' tk S1 K1 V1 w => ?_
   refine w.go c ok mm n1 _ S1 v0 v (S.vr K1 e2) V1 _ E fun r x' H2 n2 h2' tk2 S2 K2 V2 q => ?_
   refine storeX_L (s := { s with heap := h2', toks := tk2 }) S2.fr S2.nw (fun h'' F N => ?_) ok.kind hx
   exact k .next .next _ _ H2 n2 h'' _ (S2.store F N) ((LR.keep S (K1.trans K2) lr).put V2) (K1.trans K2) rfl q
noncomputable def setIn (K : Frag) (C : Addr) (name : Str) : Bool := (findIn K (.ref C) "__setattr__" == some (some (.builtin "object.__setattr__"))) && plainOver K C && (takerIn K C name == some none) && hasDictIn K C
theorem AtR.getL_isSome {news : Led} {name : Str} {as : List (Str × AV)} {l : List DictEntry} (h : AtR news as l) : (getL name l).isSome = true := by
 cases e : as.lookup name with
 | none => rw [h.getL_none e]; rfl
 | some a => (refine exEA (h.getL_some e) fun v e1 _ => ?_); rw [e1]; rfl
theorem setAttr_go {c : Cx} (ok : c.Ok G D) {mm news s} (S : St G c.h₀ c.L mm H news s.heap) {x C dx : Addr} {as : List (Str × AV)} {name : Str} {a : AV} {v : Value} (hx : H x = some (.inst C dx)) (hd : H dx = some (.attrs as)) (hs : setIn G.K C name = true) (hv : VR news a v)
   (hz : as.length ≤ 900) (Q' : Unit → Shared → Prop) (E : Value → Shared → Prop)
   (k : ∀ news' h' tk, St G c.h₀ c.L mm (H.put dx (.attrs (putA name a as))) news' h' → Keep H (H.put dx (.attrs (putA name a as))) news news' → Q' () { s with heap := h', toks := tk }) :
   wpAny (model G.prog G.w) c.A (setAttr (.ref x) name v) Q' E s := by
 (refine exEAA (S.get hx) fun ox x1 x2 x3 => ?_)
 have : ox = instObj C dx := x2
 subst this
 (refine exEAA (S.get hd) fun od d1 zq0 d3 => ?_; refine exEEA (zq0) fun es n zq1 d4 => ?_; clear zq0; rcases zq1 with rfl)
 simp only [setIn, Bool.and_eq_true, beq_iff_eq] at hs
 have d5 := d4.put (hs := PyData.keyHash G.w.params name) (t := s.toks + 1) hv (name := name)
 (refine exEAAAA (upd_of (dictOf (putL name (PyData.keyHash G.w.params name) (.str name (s.toks + 1)) v es) (putN name es n)) S.nd d1) fun n' U hk u1 u2 _ => ?_)
 refine set_dict S.fr ok.kin S.nw (es := es) (n := n) ⟨x3, rfl, rfl, d3⟩ rfl hs.1.1.1 hs.1.1.2 hs.1.2 hs.2 d4.getL_isSome rfl U (by rw [d5.length]; have := putA_length name a as; lia) fun h' F N => ?_
 (refine exAA (S.upd (o' := .attrs (putA name a as)) hd d1 F N hk u1 u2 ⟨_, _, rfl, d5⟩) fun S' K' _ => ?_)
 exact k n' h' _ S' K'
structure SaP (G : Gl) (name : Str) (a b : AV) (H2 : AHeap) (Q : AHeap → Prop) : Prop where
 go : ∃ x C dx as, b = .ref x ∧ H2 x = some (.inst C dx) ∧ H2 dx = some (.attrs as) ∧ setIn G.K C name = true ∧ as.length ≤ 900 ∧ Q (H2.put dx (.attrs (putA name a as)))
theorem SaP.of {G : Gl} {name : Str} {a : AV} {x C dx : Addr} {as : List (Str × AV)} {H : AHeap} {Q : AHeap → Prop} (h1 : H x = some (.inst C dx)) (h2 : H dx = some (.attrs as)) (h3 : setIn G.K C name = true) (h4 : as.length ≤ 900) (q : Q (H.put dx (.attrs (putA name a as)))) : SaP G name a (.ref x) H Q := ⟨x, C, dx, as, rfl, h1, h2, h3, h4, q⟩
@[reducible] noncomputable def qS2 (G : Gl) (name : Str) (a : AV) (Q : AHeap → Prop) : AV → AHeap → Prop := fun b H => SaP G name a b H Q
@[reducible] noncomputable def qS1 (G : Gl) (D : Nat) (cs : Scope) (cl : List (Str × Addr)) (o : Expr) (m : Loc) (name : Str) (Q : AHeap → Prop) : AV → AHeap → Prop := fun a H => WE G D cs cl o m H (qS2 G name a Q)
theorem W1.assignAttr {o e : Expr} {name : Str} {ap pos : Pos} {Q : Fl → Loc → AHeap → Prop}
   (h : WE G D cs cl e m H (qS1 G D cs cl o m name (qNx m Q)))
   (hs : ∀ env : Env, swapsWith e (some (.Attribute o name ap)) pos.line env = pure false := by intro _; rfl) : W1 G D cs cl (.Assign [.Attribute o name ap] e pos) m H Q where
 go := fun c h1 h2 ok mm news s S lr Q' E k => by
   refine plainObj_wpAny_Assign_Attribute (h.go c h1 h2 ok mm news s S lr _ E fun va a H1 n1 h1' tk S1 K1 V1 w => ?_) (hs _)
   refine w.go c h1 h2 ok mm n1 _ S1 (LR.keep S K1 lr) _ E fun vb b H2 n2 h2' tk2 S2 K2 V2 w2 => ?_
   obtain ⟨x, C, dx, as, rfl, hx, hd, hs, hz, q⟩ := w2
   have : vb = .ref x := V2
   subst this
   exact setAttr_go (s := { s with heap := h2', toks := tk2 }) ok S2 hx hd hs (S1.vr K2 V1) hz _ E fun n3 h3 tk3 S3 K3 => k .next .next m mm _ n3 h3 tk3 S3 (LR.keep S ((K1.trans K2).trans K3) lr) ((K1.trans K2).trans K3) rfl q
@[reducible] noncomputable def loopQ (L : Loc → AHeap → Prop) (Q : Fl → Loc → AHeap → Prop) : Fl → Loc → AHeap → Prop
 | .next, m, H => L m H
 | .cont, m, H => L m H
 | .brk, _, _ => False
 | .ret a, m, H => Q (.ret a) m H
@[reducible] noncomputable def WhileN (G : Gl) (D : Nat) (cs : Scope) (cl : List (Str × Addr)) (t : Expr) (body : List Stmt) (Q : Fl → Loc → AHeap → Prop) : Nat → Loc → AHeap → Prop
 | 0, _, _ => False
 | n + 1, m, H => WT G D cs cl t m H fun b H1 => match b with
   | true => WS G D cs cl body m H1 (loopQ (WhileN G D cs cl t body Q n) Q)
   | false => Q .next m H1
theorem W1.while {t : Expr} {body : List Stmt} {pos : Pos} {Q : Fl → Loc → AHeap → Prop} (h : ∃ n, WhileN G D cs cl t body Q n m H) : W1 G D cs cl (.While t body [] pos) m H Q where
 go := fun c h1 h2 ok mm news s S lr Q' E k => by
   (refine exE (h) ?_; clear h; intro n h)
   refine wpAny_While ?_
   refine codeAny_whileLoop (fun n s' => ∃ m' mm' H' n' h' tk, s' = { s with heap := h', toks := tk } ∧ St G c.h₀ c.L mm' H' n' h' ∧ LR n' m' mm' ∧ Keep H H' news n' ∧ WhileN G D cs cl t body Q n m' H') (fun n s' I => ?_) n ⟨m, mm, H, news, s.heap, s.toks, rfl, S, lr, Keep.rfl, h⟩
   (refine exEEEEEE (I) fun m1 mm1 H1 n1 h1' tk1 zs1 => ?_; clear I; refine exAAAA (zs1) fun zq0 S1 lr1 K1 w => ?_; clear zs1; rcases zq0 with rfl)
   cases n with
   | zero => exact w.elim
   | succ n =>
     refine WT.go w c h1 h2 ok mm1 n1 _ S1 lr1 _ _ fun b H2 n2 h2' tk2 S2 K2 w2 => ?_
     cases b with
     | true =>
       refine WS.go w2 c h1 h2 ok mm1 n2 _ S2 (LR.keep S1 K2 lr1) _ _ fun f fl m3 mm3 H3 n3 h3 tk3 S3 lr3 K3 F3 w3 => ?_
       have KK := (K1.trans K2).trans K3
       cases fl with
       | next => rw [show f = .next from F3]; exact ⟨n, Nat.lt_succ_self _, m3, mm3, H3, n3, h3, tk3, rfl, S3, lr3, KK, w3⟩
       | cont => rw [show f = .cont from F3]; exact ⟨n, Nat.lt_succ_self _, m3, mm3, H3, n3, h3, tk3, rfl, S3, lr3, KK, w3⟩
       | brk => exact w3.elim
       | ret a => (refine exEA (F3) fun v zq0 hv => ?_; clear F3; rcases zq0 with rfl); exact k (.ret v) (.ret a) m3 mm3 H3 n3 h3 tk3 S3 lr3 KK ⟨v, rfl, hv⟩ w3
     | false => exact wpAny_execs_nil (k .next .next m1 mm1 H2 n2 h2' tk2 S2 (LR.keep S1 K2 lr1) (K1.trans K2) rfl w2)
theorem WS.weak {ss : List Stmt} {m' : Loc} {Q : Fl → Loc → AHeap → Prop} (k : ∀ x a, m'.lookup x = some a → m.lookup x = some a) (h : WS G D cs cl ss m' H Q) : WS G D cs cl ss m H Q where
 go := fun c h1 h2 ok mm news s S lr Q' E q => h.go c h1 h2 ok mm news s S (fun x a e => lr x a (k x a e)) Q' E q
noncomputable def retA : Fl → AV
 | .ret a => a
 | _ => .none
noncomputable def flowVal (f : Flow) : Value := match f with | .ret v => v | _ => .none
theorem FR.val {news : Led} {af : Fl} {f : Flow} (h : FR news af f) : VR news (retA af) (flowVal f) := by
 cases af with
 | next => rw [show f = .next from h]; rfl
 | brk => rw [show f = .brk from h]; rfl
 | cont => rw [show f = .cont from h]; rfl
 | ret a => (refine exEA (h) fun v zq0 hv => ?_; clear h; rcases zq0 with rfl); exact hv
theorem lookup_zip {ns : List Str} {as : List AV} {vs : List Value} {news : Led} (h : VRs news as vs) : ∀ (pre : Loc) (prev : List (Str × Value)), (∀ x a, pre.lookup x = some a → ∃ v, prev.lookup x = some v ∧ VR news a v) →
   ∀ x a, ((ns.zip as).reverse ++ pre).lookup x = some a → ∃ v, ((ns.zip vs).reverse ++ prev).lookup x = some v ∧ VR news a v := by
 induction ns generalizing as vs with
 | nil => intro pre prev k x a e; exact k x a e
 | cons n ns ih =>
   intro pre prev k x a e
   cases as with
   | nil => rw [VRs_nil] at h; subst h; exact k x a e
   | cons a0 as =>
     rw [VRs_cons] at h
     (refine exEEAA (h) fun v0 r zq0 h1 h2 => ?_; clear h; rcases zq0 with rfl)
     have e' : ((ns.zip as).reverse ++ ((n, a0) :: pre)).lookup x = some a := by simpa [List.zip_cons_cons] using e
     have := ih h2 ((n, a0) :: pre) ((n, v0) :: prev) (fun y b q => by
       rw [List.lookup_cons] at q ⊢
       by_cases z : y = n
       · subst z; simp only [beq_self_eq_true] at q ⊢; cases q; exact ⟨v0, rfl, h1⟩
       · have z1 : (y == n) = false := by simpa using z
         simp only [z1] at q ⊢
         exact k y b q) x a e'
     simpa [List.zip_cons_cons] using this
theorem WC.enter {f : Addr} {oc : Value} {od : Option Addr} {osl : Array (Option Value)} {name qual : Str} {params : Arguments} {body : List Stmt} {scope : Scope} {dV kV doc pm cdv ct : Value} {an : Option Addr} {ns : List Str} {args : List AV} {Q : AQ}
   (ho : G.K.lookup f = some ⟨oc, od, .func (fnOf name qual params body scope dV kV doc pm an cdv ct), osl⟩) (hcd : codeIn G.K cdv qual = true)
   (hbind : ∀ vals : List Value, vals.length = ns.length → bindArgs (fnOf name qual params body scope dV kV doc pm an cdv ct) ⟨vals, []⟩ = pure (ns.zip vals))
   (hloc : ∀ y ∈ ns, scope.names.lookup y = some .local) (hcell : ∀ x ∈ scope.names, x.2 ≠ .cell) (hco : scope.isCoroutine = false) (hgen : scope.isGenerator = false) (hk : scope.kind = .function) (hlen : args.length = ns.length)
   (h : WS G D scope [] body (ns.zip args).reverse H fun fl _ H' => Q (retA fl) H') : WC G (D + 1) (.ref f) args H Q where
 go := fun c ok mm news s S vals hv R k => by
   have lv : vals.length = ns.length := hv.length.trans hlen
   refine PySem.W.code_def ok.below S.fr ok.kin S.nw ok.top ok.frames rfl ok.kind ho hcd (by have := ok.depth; lia) (BindsTo.of_eq (hbind vals lv)) (fun y hy => hloc y.1 (List.of_mem_zip hy).1) (fun g L' h₁ FG F' N' B' X' T' => ?_) hco hgen hk hcell
   have S' : St G g L' (fun y => (ns.zip vals).reverse.lookup y) H news h₁ := ⟨F', N', S.nd, S.hr, S.lo⟩
   have ok' : Cx.Ok G D ⟨c.A, c.A.deeper (envOf qual scope L' f cdv), c.base, g, c.env :: c.outer, L', qual, scope, f, cdv, []⟩ := {
     below := B'
     kin := X'
     top := T'
     frames := Around.frames_deeper ok.frames
     kind := hk
     depth := by have := ok.depth; rw [depth_deeper]; lia
     units := by have := ok.units; rw [units_deeper]; lia
     handled := ok.handled }
   refine h.go _ rfl rfl ok' _ news { s with heap := h₁, toks := s.toks + (ns.zip vals).length } S' (fun x a e => ?_) _ _ fun fl af m' mm' H' n' h' tk S1 lr1 K1 F1 q => ?_
   · have := lookup_zip (ns := ns) hv [] [] (fun _ _ e => nomatch e) x a (by simpa using e)
     simpa using this
   · refine leaveK_ S1.fr S1.nw fun FF NN => ?_
     have V : VR n' (retA af) (flowVal fl) := FR.val F1
     exact k _ (retA af) H' n' h' tk ⟨FF, NN, S1.nd, S1.hr, S1.lo⟩ K1 V q
theorem WC.make {C fI : Addr} {args : List AV} {Q : AQ} (hm : makesIn G.K C = true) (hi : findIn G.K (.ref C) "__init__" = some (some (.ref fI))) (hf : isFn G.K (.ref fI) = true)
   (h : ∀ x dx, H x = none → H dx = none → x ≠ dx → WC G D (.ref fI) (.ref x :: args) ((H.put dx (.attrs [])).put x (.inst C dx)) fun r H' => r = .none ∧ Q (.ref x) H') : WC G (D + 1) (.ref C) args H Q where
 go := fun c ok mm news s S vals hv R k => by
   refine PySem.W.make_K S.fr S.nw (in_heap ok S) hm hi (beq_iff_eq.mp hf) fun x dx h' F N lt ltx => ?_
   have nx : ∀ p ∈ news, p.1 ≠ x := fun p hp => Nat.ne_of_lt (Nat.lt_trans (lt p hp) ltx)
   have nd := lt_ne lt
   have hne : x ≠ dx := Nat.ne_of_gt ltx
   have N1 : News c.h₀ c.L h' ((dx, emptyDict) :: news) := fun p hp => N p (.tail _ hp)
   (refine exA (S.pushO (o := .attrs []) F N1 nd ⟨[], 0, rfl, (AtR_nil ..).mpr rfl⟩) fun S1 K1 => ?_)
   have nx1 : ∀ p ∈ (dx, emptyDict) :: news, p.1 ≠ x := fun p hp => by
     rcases List.mem_cons.mp hp with rfl | hp
     · exact fun e => hne e.symm
     · exact nx p hp
   (refine exA (S1.pushO (o := .inst C dx) F N nx1 rfl) fun S2 K2 => ?_)
   have ok' : Cx.Ok G D { c with A := c.A.under (.builtin "type.__call__" ⟨.ref C :: vals, []⟩) } := {
     below := ok.below
     kin := ok.kin
     top := ok.top
     frames := ok.frames
     kind := ok.kind
     depth := by have := ok.depth; show (c.A.under _).depth + D < _; rw [depth_under_make]; lia
     units := by have := ok.units; show (c.A.under _).units + 8 * D < _; rw [units_under_make]; lia
     handled := ok.handled }
   refine (h x dx (S.off nx) (S.off nd) hne).go _ ok' mm _ { s with heap := h' } S2 (.ref x :: vals) ((VRs_cons ..).mpr ⟨_, vals, rfl, rfl, hv.sub fun a vs hm => .tail _ (.tail _ hm)⟩) _ fun v a H' n' h'' tk S3 K3 V3 q => ?_
   (refine exA (q) ?_; clear q; intro zq0 q; rcases zq0 with rfl)
   exact ⟨V3, k (.ref x) (.ref x) H' n' h'' tk S3 ((K1.trans K2).trans K3) rfl q⟩
end
section
variable {G : Gl} {D : Nat} {cs : Scope} {cl : List (Str × Addr)} {m : Loc} {H : AHeap}
@[reducible] noncomputable def keepP : Option (Addr × AO) → AHeap → Prop
 | none, _ => True
 | some (l, o), H => H l = some o
@[reducible] noncomputable def ForN (G : Gl) (D : Nat) (cs : Scope) (cl : List (Str × Addr)) (x : Str) (body : List Stmt) (kp : Option (Addr × AO)) (Q : Fl → Loc → AHeap → Prop) : List AV → Loc → AHeap → Prop
 | [], m, H => Q .next m H
 | a :: as, m, H => WS G D cs cl body ((x, a) :: m) H (loopQ (fun m' H' => keepP kp H' ∧ ForN G D cs cl x body kp Q as m' H') Q)
theorem Fr.kept {h₀ h h' : Heap} {L I : Addr} {mm : Str → Option Value} (F : Fr h₀ L h mm) (k : ∀ b o, b ≠ I → h.get? b = some o → h'.get? b = some o) (hI : L ≠ I) (h0 : h₀.get? I = none) : Fr h₀ L h' mm := by
 obtain ⟨⟨oL, es, ep, hL, r⟩, kk, ab⟩ := F
 exact ⟨⟨oL, es, ep, k _ _ hI hL, r⟩, fun b o e => k b o (fun z => by rw [z, h0] at e; (exact noneE e)) (kk b o e), ab⟩
theorem St.turn {h₀ L mm news h h'} (S : St G h₀ L mm H news h) {I : Addr} {o o' : Obj} (hm : (I, o) ∈ news) (hH : H I = none) (hc : (o.cls == .type "tuple") = false) (ho : h'.get? I = some o') (k : ∀ b o, b ≠ I → h.get? b = some o → h'.get? b = some o) :
   ∃ news', St G h₀ L mm H news' h' ∧ (I, o') ∈ news' ∧ (∀ p ∈ news, p.1 ≠ I → p ∈ news') ∧ (∀ a vs, (a, tupObj vs) ∈ news → (a, tupObj vs) ∈ news') := by
 (refine exEAAAA (upd_of o' S.nd hm) fun news' U hk u1 u2 u3 => ?_)
 have z := S.nw _ hm
 have sub : ∀ a vs, (a, tupObj vs) ∈ news → (a, tupObj vs) ∈ news' := fun a vs q => u1 _ q fun e => by
   dsimp only at e
   subst e
   have := nodup_eq S.nd q hm
   subst this
   simp at hc
 refine ⟨news', ⟨Fr.kept S.fr k (Ne.symm z.2.1) z.2.2, fun p hp => ?_, hk ▸ S.nd, fun a x e => ?_, S.lo⟩, u2, u1, sub⟩
 · by_cases q : p.1 = I
   · have : p = (I, o') := by
       obtain ⟨a, b⟩ := p
       dsimp only at q
       subst q
       rw [nodup_eq (hk ▸ S.nd) hp u2]
     subst this
     exact ⟨ho, z.2⟩
   · have y := S.nw p (u3 p hp q)
     exact ⟨k _ _ q y.1, y.2⟩
 · (refine exEA (S.hr a x e) fun ob h1 h2 => ?_)
   have : a ≠ I := fun q => by rw [q, hH] at e; (exact noneE e)
   exact ⟨ob, u1 _ h1 this, h2.sub sub⟩
theorem St.forget {h₀ L mm news h h'} (S : St G h₀ L mm H news h) {I : Addr} {o : Obj} (hm : (I, o) ∈ news) (hH : H I = none) (hc : (o.cls == .type "tuple") = false) (k : ∀ b o, b ≠ I → h.get? b = some o → h'.get? b = some o) :
   ∃ news', St G h₀ L mm H news' h' ∧ (∀ p ∈ news, p.1 ≠ I → p ∈ news') ∧ (∀ a vs, (a, tupObj vs) ∈ news → (a, tupObj vs) ∈ news') := by
 have z := S.nw _ hm
 have mem : ∀ p ∈ news, p.1 ≠ I → p ∈ news.filter fun p => !decide (p.1 = I) := fun p hp q => List.mem_filter.mpr ⟨hp, by simpa using q⟩
 have sub : ∀ a vs, (a, tupObj vs) ∈ news → (a, tupObj vs) ∈ news.filter fun p => !decide (p.1 = I) := fun a vs q => mem _ q fun e => by
   dsimp only at e
   subst e
   have := nodup_eq S.nd q hm
   subst this
   simp at hc
 refine ⟨news.filter fun p => !decide (p.1 = I), ⟨Fr.kept S.fr k (Ne.symm z.2.1) z.2.2, fun p hp => ?_, ?_, fun a x e => ?_, S.lo⟩, mem, sub⟩
 · (refine exA (List.mem_filter.mp hp) fun hp q => ?_)
   have q : p.1 ≠ I := by simpa using q
   have y := S.nw p hp
   exact ⟨k _ _ q y.1, y.2⟩
 · exact List.Nodup.sublist (List.filter_sublist.map _) S.nd
 · (refine exEA (S.hr a x e) fun ob h1 h2 => ?_)
   have : a ≠ I := fun q => by rw [q, hH] at e; (exact noneE e)
   exact ⟨ob, mem _ h1 this, h2.sub sub⟩
noncomputable def LoopI (G : Gl) (D : Nat) (cs : Scope) (cl : List (Str × Addr)) (x : Str) (body : List Stmt) (kp : Option (Addr × AO)) (Q : Fl → Loc → AHeap → Prop) (c : Cx) (I : Addr) (fp : List Addr) (SI : Nat → Heap → Prop) (items : List AV) (news₀ : Led) (H : AHeap) (s : Shared) (j : Nat) (s' : Shared) : Prop :=
 ∃ i m' mm' H' n' h' tk oi, i + j = items.length ∧ s' = { s with heap := h', toks := tk } ∧ St G c.h₀ c.L mm' H' n' h' ∧ LR n' m' mm' ∧ (I, oi) ∈ n' ∧ H' I = none ∧ SI i h' ∧
   (∀ p ∈ news₀, p.1 ≠ I → H p.1 = none → p ∈ n' ∧ H' p.1 = none) ∧ (∀ a vs, (a, tupObj vs) ∈ news₀ → (a, tupObj vs) ∈ n') ∧ (∀ b ∈ fp, b = I ∨ ∃ ob, (b, ob) ∈ n' ∧ b ≠ I ∧ ((H' b = none) ∨ ∃ o, kp = some (b, .ro o ob))) ∧
   keepP kp H' ∧ ForN G D cs cl x body kp Q (items.drop i) m' H'
theorem for_turns {prog : Program} {w : World} {A : Around} {R : Result → Shared → Prop} {x : Str} {px : Pos} {body : List Stmt} {it : Value} {env : Env} (J : Nat → Shared → Prop)
   (turn : ∀ (P1 : Option Value → Shared → Prop) (P2 : Shared → Prop) (P3 : Flow → Shared → Prop) (E : Value → Shared → Prop) (n : Nat), (∀ s, R (.ok .next) s → P1 none s) → (∀ v s, wpAny (model prog w) A (assign (.Name x px) env v) (fun _ => P2) E s → P1 (some v) s) →
     (∀ s, wpAny (model prog w) A (execs body env) P3 E s → P2 s) → (∀ m s f, m < n → J m s → f = .next ∨ f = .cont → P3 f s) → (∀ v s, R (.ok (.ret v)) s → P3 (.ret v) s) → ∀ s, J n s → wpAny (model prog w) A (pyNext it) P1 E s)
   (n : Nat) {s : Shared} (h : J n s) : codeAny (model prog w) A (.forLoop (.Name x px) it body [] env) R s :=
 codeAny_forLoop_any J (fun n s hI => turn _ _ _ _ n (fun _ h => wpAny_execs_nil h) (fun v s h => by exact wpAny_pure (a := ()) h) (fun _ h => h) (fun m s f a b o => Or.elim o (fun z => by rw [z]; exact ⟨m, a, b⟩) (fun z => by rw [z]; exact ⟨m, a, b⟩)) (fun _ _ h => h) s hI) n h
theorem for_go {x : Str} {px : Pos} {body : List Stmt} {kp : Option (Addr × AO)} {Q : Fl → Loc → AHeap → Prop} {c : Cx} (h1 : c.cs = cs) (h2 : c.cl = cl) (ok : c.Ok G D) {I : Addr} {fp : List Addr} {n : Nat} {P : Nat → Value → Prop} {SI : Nat → Heap → Prop}
   (W : Walks G.prog G.w c.A I fp [I] n P SI) (hx : cs.names.lookup x = some .local) (hcls : ∀ i h, SI i h → ∃ o, h.get? I = some o ∧ (o.cls == .type "tuple") = false) {items : List AV} (hn : items.length = n)
   {mm₀ news₀ s} (S₀ : St G c.h₀ c.L mm₀ H news₀ s.heap) {oI : Obj} (hI : (I, oI) ∈ news₀) (hHI : H I = none) (lr₀ : LR news₀ m mm₀) (s0 : SI 0 s.heap)
   (hP : ∀ i v a, P i v → items[i]? = some a → VR news₀ a v) (hfp : ∀ b ∈ fp, b = I ∨ ∃ ob, (b, ob) ∈ news₀ ∧ b ≠ I ∧ ((H b = none) ∨ ∃ o, kp = some (b, .ro o ob)))
   (w : keepP kp H ∧ ForN G D cs cl x body kp Q items m H) (Q' : Flow → Shared → Prop) (E : Value → Shared → Prop)
   (k : ∀ f fl m' mm' H' news' h' tk, St G c.h₀ c.L mm' H' news' h' → LR news' m' mm' → (∀ p ∈ news₀, p.1 ≠ I → H p.1 = none → p ∈ news' ∧ H' p.1 = none) → FR news' fl f → (fl = .next → keepP kp H') → Q fl m' H' → Q' f { s with heap := h', toks := tk }) :
   codeAny (model G.prog G.w) c.A (.forLoop (.Name x px) (.ref I) body [] c.env) (fun r s' => match r with | .ok f => Q' f s' | .error e => cameBackBy (model G.prog G.w) c.A c.env E e s') s := by
 refine for_turns (LoopI G D cs cl x body kp Q c I fp SI items news₀ H s) (fun P1 P2 P3 E j t1 t2 t3 t4 t5 s' J => ?_) n
   ⟨0, m, mm₀, H, news₀, s.heap, s.toks, oI, by lia, rfl, S₀, lr₀, hI, hHI, s0, fun p hp _ q => ⟨hp, q⟩, fun _ _ q => q, hfp, w.1, w.2⟩
 (refine exEEEEEEEE (J) fun i m1 mm1 H1 n1 h1' tk1 oi zs2 => ?_; clear J; refine exAAAAAAAAAAA (zs2) fun hij e0 S1 lr1 I1 HI1 si kk tt fk kp1 w1 => ?_; clear zs2)
 rw [e0]
 clear e0 lr₀ hfp w s0
 (refine exEA (hcls _ _ si) fun oc hoc hcc => ?_)
 replace hcc : (oi.cls == .type "tuple") = false := (show oi = oc from Option.some.inj ((S1.nw _ I1).1.symm.trans hoc)) ▸ hcc
 clear hoc
 have lrs : ∀ n2, (∀ a vs, (a, tupObj vs) ∈ n1 → (a, tupObj vs) ∈ n2) → LR n2 m1 mm1 := fun n2 sub y b e => let ⟨v', e1, e2⟩ := lr1 y b e; ⟨v', e1, e2.sub sub⟩
 by_cases hlt : i < n
 · have hi : i < items.length := hn.symm ▸ hlt
   rw [List.drop_eq_getElem_cons hi] at w1
   refine W.item i _ _ _ hlt si fun v h2' tk2 pv si2 hk2 => t2 _ _ ?_
   clear t1 t2
   replace hk2 : ∀ b o, b ≠ I → h1'.get? b = some o → h2'.get? b = some o := fun b o hb e => hk2 b o (fun z => hb (List.mem_singleton.mp z)) e
   (refine exEA (hcls _ _ si2) fun o2 ho2 hc2 => ?_)
   (refine exEAAA (S1.turn I1 HI1 hcc ho2 hk2) fun n2 S2 I2 u1 sub2 => ?_)
   refine wpAny_bind (m := standAt px) (wpAny_standAt (wpAny_bindName ?_))
   refine storeX_L (s := { s with heap := h2', toks := tk2 }) S2.fr S2.nw (fun h3 F N => t3 _ ?_) ok.kind (h1.symm ▸ hx)
   clear t3
   refine WS.go w1 c h1 h2 ok _ n2 { s with heap := h3, toks := tk2 + 1 } (S2.store F N) ((lrs _ sub2).put ((hP i v _ pv (List.getElem?_eq_getElem hi)).sub fun b vs q => sub2 _ _ (tt _ _ q))) _ _ fun f fl m4 mm4 H4 n4 h4 tk4 S4 lr4 K4 F4 q => ?_
   have kk4 : ∀ p ∈ news₀, p.1 ≠ I → H p.1 = none → p ∈ n4 ∧ H4 p.1 = none := fun p hp hpI e => have a := kk p hp hpI e; K4 p (u1 p a.1 hpI) a.2
   have next : (f = .next ∨ f = .cont) → (keepP kp H4 ∧ ForN G D cs cl x body kp Q (items.drop (i + 1)) m4 H4) → P3 f { s with heap := h4, toks := tk4 } := by
     intro hf q
     have I4 := K4 _ I2 HI1
     have pin : ∀ b ∈ fp, b = I ∨ ∃ ob, (b, ob) ∈ n1 ∧ (b, ob) ∈ n4 ∧ b ≠ I ∧ ((H4 b = none) ∨ ∃ o, kp = some (b, .ro o ob)) := fun b hb => by
       rcases fk b hb with e | ⟨ob, m1, ne, e⟩
       · exact .inl e
       · refine .inr ⟨ob, m1, ?_⟩
         rcases e with e | ⟨o, e⟩
         · have z := K4 _ (u1 _ m1 ne) e
           exact ⟨z.1, ne, .inl z.2⟩
         · have kq := q.1
           rw [e] at kq
           (refine exEA (S4.hr b _ kq) fun ob' b1 b2 => ?_)
           exact ⟨b2.1 ▸ b1, ne, .inr ⟨o, e⟩⟩
     refine t4 (j - 1) _ f (by lia) ⟨i + 1, m4, mm4, H4, n4, h4, tk4, o2, by lia, rfl, S4, lr4, I4.1, I4.2, ?_, kk4, fun a vs q => ((S2.store F N).sub K4) _ _ (sub2 _ _ (tt _ _ q)), fun b hb => (pin b hb).imp id fun ⟨ob, _, a, b, c⟩ => ⟨ob, a, b, c⟩, q.1, q.2⟩ hf
     refine W.frame (i + 1) h2' h4 si2 fun b hb o e => ?_
     rcases pin b hb with z | ⟨ob, m1, m4, ne, _⟩
     · have e : h2'.get? I = some o := z ▸ e
       rw [z, Option.some.inj (e.symm.trans ho2)]
       exact (S4.nw _ I4.1).1
     · rw [Option.some.inj (e.symm.trans (S2.nw _ (u1 _ m1 ne)).1)]
       exact (S4.nw _ m4).1
   cases fl with
   | next => exact next (.inl F4) q
   | cont => exact next (.inr F4) q
   | brk => exact q.elim
   | ret a =>
     (refine exEA (F4) fun v e hv => ?_; clear F4)
     rw [e]
     exact t5 _ _ (k (.ret v) (.ret a) m4 mm4 H4 n4 h4 tk4 S4 lr4 kk4 ⟨v, rfl, hv⟩ (fun e => nomatch e) q)
 · have hi : items.drop i = [] := List.drop_eq_nil_of_le (by lia)
   rw [hi] at w1
   refine W.done _ _ _ (Nat.le_antisymm (by lia) (Nat.le_of_not_lt hlt) ▸ si) fun h2' tk2 hk2 => t1 _ ?_
   replace hk2 : ∀ b o, b ≠ I → h1'.get? b = some o → h2'.get? b = some o := fun b o hb e => hk2 b o (fun z => hb (List.mem_singleton.mp z)) e
   (refine exEAA (S1.forget I1 HI1 hcc hk2) fun n2 S2 u1 sub2 => ?_)
   exact k .next .next m1 mm1 H1 n2 h2' tk2 S2 (lrs _ sub2) (fun p hp hpI e => have z := kk p hp hpI e; ⟨u1 p z.1 hpI, z.2⟩) rfl (fun _ => kp1) w1
theorem VRs.get {news : Led} : ∀ {xs : List AV} {vs : List Value}, VRs news xs vs → ∀ {i : Nat} {v : Value} {a : AV}, vs[i]? = some v → xs[i]? = some a → VR news a v := by
 intro zz
 induction zz with
 | nil =>
   intro _ _ i v a _ e
   simp at e
 | cons x xs ih =>
   intro _ h i v a e1 e2
   rw [VRs_cons] at h
   (refine exEEAA (h) fun v0 r zq0 h1 h2 => ?_; clear h; rcases zq0 with rfl)
   cases i with
   | zero => simp at e1 e2; subst e1 e2; exact h1
   | succ i => simp at e1 e2; exact ih h2 e1 e2
theorem W1.forTup {x : Str} {px pos : Pos} {iter : Expr} {body : List Stmt} {Q : Fl → Loc → AHeap → Prop} (h : WE G D cs cl iter m H fun a H1 => ∃ xs, a = .tup xs ∧ ForN G D cs cl x body none Q xs m H1)
   (hx : cs.names.lookup x = some .local := by rfl) (hs : ∀ (env : Env) (x : Value), foldedSetIterable iter env x = pure x := by intro _ _; rfl) : W1 G D cs cl (.For (.Name x px) iter body [] pos) m H Q where
 go := fun c h1 h2 ok mm news s S lr Q' E k => by
   refine PySem.wpAny_For (h.go c h1 h2 ok mm news s S lr _ E fun v a H1 n1 h1' tk S1 K1 V1 w => ?_) (hs _)
   (refine exEA (w) ?_; clear w; intro xs zq0 w; rcases zq0 with rfl)
   (refine exEEAA ((VR_tup ..).mp V1) fun t vs zq0 hm hv => ?_; rcases zq0 with rfl)
   have ht : h1'.IsTuple t vs.toArray := ⟨_, (S1.nw _ hm).1, rfl, 0, rfl⟩
   refine wpAny_pyIter_tuple (s := { s with heap := h1', toks := tk }) ht ?_
   have hne : t ≠ h1'.objs.size := fresh_size S1.nw _ hm
   (refine exA (S1.push (d := h1'.objs.size) (ob := { cls := .type "tuple_iterator", data := .fields #[.ref t, .int 0 0] }) (S1.fr.push _) (S1.nw.push S1.fr _) (fresh_size S1.nw)) fun S2 K2 => ?_)
   refine for_go h1 h2 ok (Walks.tuple ok.handled h1'.objs.size t hne vs.toArray) hx (fun i h hh => let ⟨o, a, b, _⟩ := hh.1; ⟨o, a, by rw [b]; rfl⟩) (items := xs) (by rw [List.size_toArray, hv.length]) (s := { s with heap := h1'.push { cls := .type "tuple_iterator", data := .fields #[.ref t, .int 0 0] }, toks := tk }) S2 (.head _) (S1.off (fresh_size S1.nw)) (LR.keep S1 K2 (LR.keep S K1 lr))
     ⟨⟨_, Heap.get?_push_size _ rfl, rfl, rfl⟩, _, Heap.get?_push_of_some _ (S1.nw _ hm).1, rfl, 0, rfl⟩ (fun i v a e1 e2 => (hv.sub sub_cons).get (by simpa using e1) e2) (fun b hb => ?_) (kp := none) ⟨trivial, w⟩ Q' E fun f fl m' mm' H' n' h' tk' S3 lr3 kk F3 _ q => ?_
   · rcases List.mem_cons.mp hb with rfl | hb
     · exact .inl rfl
     · have : b = t := by simpa using hb
       subst this
       exact .inr ⟨_, .tail _ hm, hne, .inl (S1.tupFree hm)⟩
   · refine k f fl m' mm' H' n' h' tk' S3 lr3 (fun p hp e => ?_) F3 q
     (refine exA (K1 p hp e) fun a1 a2 => ?_)
     exact kk p (.tail _ a1) (fresh_size S1.nw p a1) a2
@[reducible] noncomputable def thaw (l : Addr) (o : AO) (Q : Fl → Loc → AHeap → Prop) : Fl → Loc → AHeap → Prop
 | .next, m, H => Q .next m (H.put l o)
 | .brk, m, H => Q .brk m H
 | .cont, m, H => Q .cont m H
 | .ret a, m, H => Q (.ret a) m H
theorem St.freeze {h₀ L mm news h} (S : St G h₀ L mm H news h) {l : Addr} {o : AO} {ob : Obj} (hl : H l = some o) (hm : (l, ob) ∈ news) : St G h₀ L mm (H.put l (.ro o ob)) news h := ⟨S.fr, S.nw, S.nd, fun a x e => by
 by_cases q : a = l
 · subst q
   rw [AHeap.put_self] at e
   cases e
   (refine exEA (S.hr a o hl) fun ob' h1 h2 => ?_)
   have := nodup_eq S.nd hm h1
   subst this
   exact ⟨ob, h1, rfl, h2⟩
 · rw [AHeap.put_ne _ _ q] at e
   exact S.hr a x e, fun a x e i => by
 by_cases q : a = l
 · subst q
   rw [AHeap.put_self] at e
   cases e
   exact S.lo a o hl i
 · rw [AHeap.put_ne _ _ q] at e
   exact S.lo a x e i⟩
theorem St.thaw {h₀ L mm news h} (S : St G h₀ L mm H news h) {l : Addr} {o : AO} {ob : Obj} (hl : H l = some (.ro o ob)) : St G h₀ L mm (H.put l o) news h := ⟨S.fr, S.nw, S.nd, fun a x e => by
 by_cases q : a = l
 · subst q
   rw [AHeap.put_self] at e
   cases e
   (refine exEA (S.hr a _ hl) fun ob' h1 h2 => ?_)
   (refine exA (h2) ?_; clear h2; intro zq0 h2; rcases zq0 with rfl)
   exact ⟨ob', h1, h2⟩
 · rw [AHeap.put_ne _ _ q] at e
   exact S.hr a x e, fun a x e i => by
 by_cases q : a = l
 · subst q
   rw [AHeap.put_self] at e
   cases e
   exact S.lo a _ hl i
 · rw [AHeap.put_ne _ _ q] at e
   exact S.lo a x e i⟩
theorem Keep.freeze {l : Addr} {o o' : AO} {news : Led} (hl : H l = some o') : Keep H (H.put l o) news news := fun p hp e => ⟨hp, by
 have : p.1 ≠ l := fun z => by rw [z, hl] at e; (exact someE e)
 rw [AHeap.put_ne _ _ this]; exact e⟩
theorem W1.forList {x : Str} {px pos : Pos} {iter : Expr} {body : List Stmt} {Q : Fl → Loc → AHeap → Prop} (h : WE G D cs cl iter m H fun a H1 => ∃ l xs, a = .ref l ∧ H1 l = some (.list xs) ∧ ∀ ob, ForN G D cs cl x body (some (l, .ro (.list xs) ob)) (thaw l (.list xs) Q) xs m (H1.put l (.ro (.list xs) ob)))
   (hx : cs.names.lookup x = some .local := by rfl) (hs : ∀ (env : Env) (x : Value), foldedSetIterable iter env x = pure x := by intro _ _; rfl) : W1 G D cs cl (.For (.Name x px) iter body [] pos) m H Q where
 go := fun c h1 h2 ok mm news s S lr Q' E k => by
   refine PySem.wpAny_For (h.go c h1 h2 ok mm news s S lr _ E fun v a H1 n1 h1' tk S1 K1 V1 w => ?_) (hs _)
   (refine exEEAA (w) ?_; clear w; intro l xs zq0 hl w; rcases zq0 with rfl)
   have : v = .ref l := V1
   subst this
   (refine exEAA (S1.get hl) fun ob hm zq0 hg => ?_; refine exEEA (zq0) fun vs ep zq1 hv => ?_; clear zq0; rcases zq1 with rfl)
   have hL : h1'.IsList l vs.toArray := ⟨_, hg, rfl, ep, rfl⟩
   refine wpAny_pyIter_list (s := { s with heap := h1', toks := tk }) hL ?_
   have hne : l ≠ h1'.objs.size := fresh_size S1.nw _ hm
   have SF := S1.freeze hl hm
   (refine exA (SF.push (d := h1'.objs.size) (ob := { cls := .type "list_iterator", data := .fields #[.ref l, .int 0 0] }) (S1.fr.push _) (S1.nw.push S1.fr _) (fresh_size S1.nw)) fun S2 K2 => ?_)
   have KF : Keep H1 (H1.put l (.ro (.list xs) (listOf vs.toArray ep))) n1 n1 := Keep.freeze hl
   refine for_go h1 h2 ok (Walks.list ok.handled h1'.objs.size l hne vs.toArray) hx (fun i h hh => let ⟨o, a, b, _⟩ := hh.1; ⟨o, a, by rw [b]; rfl⟩) (items := xs) (by rw [List.size_toArray, hv.length]) (s := { s with heap := h1'.push { cls := .type "list_iterator", data := .fields #[.ref l, .int 0 0] }, toks := tk }) S2 (.head _) (SF.off (fresh_size S1.nw)) (LR.keep S (K1.trans (KF.trans K2)) lr)
     ⟨⟨_, Heap.get?_push_size _ rfl, rfl, rfl⟩, _, Heap.get?_push_of_some _ hg, rfl, ep, rfl⟩ (fun i v a e1 e2 => (hv.sub sub_cons).get (by simpa using e1) e2) (fun b hb => ?_) (kp := some (l, .ro (.list xs) (listOf vs.toArray ep))) ⟨AHeap.put_self .., w _⟩ Q' E fun f fl m' mm' H' n' h' tk' S3 lr3 kk F3 kp q => ?_
   · rcases List.mem_cons.mp hb with rfl | hb
     · exact .inl rfl
     · have : b = l := by simpa using hb
       subst this
       exact .inr ⟨_, .tail _ hm, hne, .inr ⟨_, rfl⟩⟩
   · have kk2 : Keep H H' news n' := fun p hp e => by
       (refine exA ((K1.trans KF) p hp e) fun a1 a2 => ?_)
       exact kk p (.tail _ a1) (fresh_size S1.nw p a1) a2
     cases fl with
     | next =>
       have kl : H' l = some (.ro (.list xs) (listOf vs.toArray ep)) := kp rfl
       exact k f .next m' mm' _ n' h' tk' (S3.thaw kl) lr3 (kk2.trans (Keep.freeze kl)) F3 q
     | brk => exact k f .brk m' mm' H' n' h' tk' S3 lr3 kk2 F3 q
     | cont => exact k f .cont m' mm' H' n' h' tk' S3 lr3 kk2 F3 q
     | ret a => exact k f (.ret a) m' mm' H' n' h' tk' S3 lr3 kk2 F3 q
theorem PR_nil {κ : Type} (news : Led) (l : List (κ × Value)) : PR news [] l ↔ l = [] := Iff.rfl
theorem PR_cons {κ : Type} (news : Led) (k : κ) (a : AV) (r : List (κ × AV)) (l : List (κ × Value)) : PR news ((k, a) :: r) l ↔ ∃ v l', l = (k, v) :: l' ∧ VR news a v ∧ PR news r l' := Iff.rfl
theorem PR.length {κ : Type} {news : Led} : ∀ {es : List (κ × AV)} {l : List (κ × Value)}, PR news es l → l.length = es.length := by
 intro zz
 induction zz with
 | nil =>
   intro l h
   rw [PR_nil] at h; subst h; rfl
 | cons qx r ih =>
   obtain ⟨k, a⟩ := qx
   intro l h
   rw [PR_cons] at h; (refine exEEAA (h) fun v l' zq0 _ h2 => ?_; clear h; rcases zq0 with rfl); exact congrArg Nat.succ (ih h2)
theorem PR.keys {κ : Type} {news : Led} : ∀ {es : List (κ × AV)} {l : List (κ × Value)}, PR news es l → l.map (·.1) = es.map (·.1) := by
 intro zz
 induction zz with
 | nil =>
   intro l h
   rw [PR_nil] at h; subst h; rfl
 | cons qx r ih =>
   obtain ⟨k, a⟩ := qx
   intro l h
   rw [PR_cons] at h; (refine exEEAA (h) fun v l' zq0 _ h2 => ?_; clear h; rcases zq0 with rfl); exact congrArg (List.cons k) (ih h2)
theorem dictAt_of {prog : Program} {w : World} {K : Type} [DecidableEq K] {knd : KeyKind prog w K} {o : Obj} {kvs : List (K × Value)} (h : o.IsDictOf knd kvs) : ∃ ep, ∀ (hp : Heap) (a : Addr), hp.get? a = some o → hp.DictAt knd a kvs ep :=
 let ⟨es, ep, a, b, c, d, e⟩ := h; ⟨ep, fun hp ad ho => ⟨o, es, ho, a, b, c, d, e⟩⟩
theorem W1.forDict {x : Str} {px pos : Pos} {iter : Expr} {body : List Stmt} {Q : Fl → Loc → AHeap → Prop} (h : WE G D cs cl iter m H fun a H1 => ∃ l es, a = .ref l ∧ H1 l = some (.idict es) ∧ ∀ ob, ForN G D cs cl x body (some (l, .ro (.idict es) ob)) (thaw l (.idict es) Q) (es.map fun p => .int p.1) m (H1.put l (.ro (.idict es) ob)))
   (hx : cs.names.lookup x = some .local := by rfl) (hs : ∀ (env : Env) (x : Value), foldedSetIterable iter env x = pure x := by intro _ _; rfl) : W1 G D cs cl (.For (.Name x px) iter body [] pos) m H Q where
 go := fun c h1 h2 ok mm news s S lr Q' E k => by
   refine PySem.wpAny_For (h.go c h1 h2 ok mm news s S lr _ E fun v a H1 n1 h1' tk S1 K1 V1 w => ?_) (hs _)
   (refine exEEAA (w) ?_; clear w; intro l es zq0 hl w; rcases zq0 with rfl)
   have : v = .ref l := V1
   subst this
   (refine exEAA (S1.get hl) fun ob hm zq0 hg => ?_; refine exEA (zq0) fun kvs hd hv => ?_; clear zq0)
   (refine exE (dictAt_of hd) fun ep hat => ?_)
   refine wpAny_pyIter_dict (s := { s with heap := h1', toks := tk }) (S1.lo l _ hl rfl) (hat _ _ hg) ?_
   have hne : l ≠ h1'.objs.size := fresh_size S1.nw _ hm
   have SF := S1.freeze hl hm
   (refine exA (SF.push (d := h1'.objs.size) (ob := { cls := .type "dict_keyiterator", data := .fields #[.ref l, .int 0 0, .int kvs.length 0, .int ep 0] }) (S1.fr.push _) (S1.nw.push S1.fr _) (fresh_size S1.nw)) fun S2 K2 => ?_)
   have KF : Keep H1 (H1.put l (.ro (.idict es) ob)) n1 n1 := Keep.freeze hl
   refine for_go h1 h2 ok (Walks.dictKeys (knd := intKind G.prog G.w) ok.handled h1'.objs.size l hne kvs ep) hx (fun i h hh => let ⟨o, a, b, _⟩ := hh.1; ⟨o, a, by rw [b]; rfl⟩) (items := es.map fun p => .int p.1) (by rw [List.length_map, hv.length]) (s := { s with heap := h1'.push { cls := .type "dict_keyiterator", data := .fields #[.ref l, .int 0 0, .int kvs.length 0, .int ep 0] }, toks := tk }) S2 (.head _) (SF.off (fresh_size S1.nw)) (LR.keep S (K1.trans (KF.trans K2)) lr)
     ⟨⟨_, Heap.get?_push_size _ rfl, rfl, rfl⟩, hat _ _ (Heap.get?_push_of_some _ hg)⟩ (fun i v a e1 e2 => ?_) (fun b hb => ?_) (kp := some (l, .ro (.idict es) ob)) ⟨AHeap.put_self .., w _⟩ Q' E fun f fl m' mm' H' n' h' tk' S3 lr3 kk F3 kp q => ?_
   · (refine exEEA (e1) fun k x e3 e4 => ?_; clear e1)
     have ek := hv.keys
     have : (kvs.map (·.1))[i]? = (es.map (·.1))[i]? := by rw [ek]
     rw [List.getElem?_map, e3] at this
     rw [List.getElem?_map] at e2 this
     cases q : es[i]? with
     | none => rw [q] at e2; (exact noneE e2)
     | some p =>
       rw [q] at e2 this
       cases e2
       have : k = p.1 := by simpa using this
       subst this
       (refine exE (Value.isInt_shape e4) fun t zq0 => ?_; rcases zq0 with rfl)
       exact ⟨t, rfl⟩
   · rcases List.mem_cons.mp hb with rfl | hb
     · exact .inl rfl
     · have : b = l := by simpa using hb
       subst this
       exact .inr ⟨_, .tail _ hm, hne, .inr ⟨_, rfl⟩⟩
   · have kk2 : Keep H H' news n' := fun p hp e => by
       (refine exA ((K1.trans KF) p hp e) fun a1 a2 => ?_)
       exact kk p (.tail _ a1) (fresh_size S1.nw p a1) a2
     cases fl with
     | next =>
       have kl : H' l = some (.ro (.idict es) ob) := kp rfl
       exact k f .next m' mm' _ n' h' tk' (S3.thaw kl) lr3 (kk2.trans (Keep.freeze kl)) F3 q
     | brk => exact k f .brk m' mm' H' n' h' tk' S3 lr3 kk2 F3 q
     | cont => exact k f .cont m' mm' H' n' h' tk' S3 lr3 kk2 F3 q
     | ret a => exact k f (.ret a) m' mm' H' n' h' tk' S3 lr3 kk2 F3 q
noncomputable def upTo (n : Int) : List AV := (List.range n.toNat).map fun (i : Nat) => AV.int (Int.ofNat i)
theorem rangeSize_one {n : Int} (h : 0 ≤ n) : Builtin.Range.rangeSize 0 n 1 = n := by
 unfold Builtin.Range.rangeSize
 simp only [Int.ediv_one]
 split <;> (try split) <;> (first | ((simp +arith only; done)) | lia)
theorem W1.forRange {x : Str} {px pos : Pos} {iter : Expr} {body : List Stmt} {Q : Fl → Loc → AHeap → Prop} (h : WE G D cs cl iter m H fun a H1 => ∃ l n, a = .ref l ∧ H1 l = some (.range n) ∧ 0 ≤ n ∧ n < 2 ^ 62 ∧ ∀ ob, ForN G D cs cl x body (some (l, .ro (.range n) ob)) (thaw l (.range n) Q) (upTo n) m (H1.put l (.ro (.range n) ob)))
   (hx : cs.names.lookup x = some .local := by rfl) (hs : ∀ (env : Env) (x : Value), foldedSetIterable iter env x = pure x := by intro _ _; rfl) : W1 G D cs cl (.For (.Name x px) iter body [] pos) m H Q where
 go := fun c h1 h2 ok mm news s S lr Q' E k => by
   refine PySem.wpAny_For (h.go c h1 h2 ok mm news s S lr _ E fun v a H1 n1 h1' tk S1 K1 V1 w => ?_) (hs _)
   (refine exEEAAAA (w) ?_; clear w; intro l n zq0 hl hz hb w; rcases zq0 with rfl)
   have : v = .ref l := V1
   subst this
   (refine exEAA (S1.get hl) fun ob hm zq0 hg => ?_; refine exEEE (zq0) fun t u v zq1 => ?_; clear zq0; rcases zq1 with rfl)
   refine wpAny_pyIter_range (s := { s with heap := h1', toks := tk }) (a := 0) (b := n) (c := 1) hg (small_one (by (exact Int.natCast_nonneg _)) (by (exact Int.natCast_nonneg _)) (by lia) hb) ?_
   rw [rangeSize_one hz]
   have hne : l ≠ h1'.objs.size := fresh_size S1.nw _ hm
   have SF := S1.freeze hl hm
   (refine exA (SF.push (d := h1'.objs.size) (ob := { cls := .type "range_iterator", data := .fields #[rawInt 0, rawInt n, rawInt 1] }) (S1.fr.push _) (S1.nw.push S1.fr _) (fresh_size S1.nw)) fun S2 K2 => ?_)
   have KF : Keep H1 (H1.put l (.ro (.range n) { cls := .type "range", dict := none, data := .fields #[.int 0 t, .int n u, .int 1 v], slots := #[] })) n1 n1 := Keep.freeze hl
   have hN : ((n.toNat : Nat) : Int) = n := by lia
   refine for_go h1 h2 ok (Walks.range ok.handled h1'.objs.size 0 1 n.toNat) hx (fun i h hh => ⟨_, hh, rfl⟩) (items := upTo n) (by simp [upTo]) (s := { s with heap := h1'.push { cls := .type "range_iterator", data := .fields #[rawInt 0, rawInt n, rawInt 1] }, toks := tk }) S2 (.head _) (SF.off (fresh_size S1.nw)) (LR.keep S (K1.trans (KF.trans K2)) lr)
     (by show Heap.get? _ _ = _; rw [Heap.get?_push_size _ rfl]; simp [hN]) (fun i v a e1 e2 => ?_) (fun b hb => ?_) (kp := some (l, .ro (.range n) { cls := .type "range", dict := none, data := .fields #[.int 0 t, .int n u, .int 1 v], slots := #[] })) ⟨AHeap.put_self .., w _⟩ Q' E fun f fl m' mm' H' n' h' tk' S3 lr3 kk F3 kp q => ?_
   · (refine exE (e1) fun t zq0 => ?_; clear e1; rcases zq0 with rfl)
     unfold upTo at e2
     rw [List.getElem?_map] at e2
     cases q : (List.range n.toNat)[i]? with
     | none => rw [q] at e2; (exact noneE e2)
     | some p =>
       rw [q] at e2
       cases e2
       have : p = i := by
         rw [List.getElem?_eq_some_iff] at q
         (refine exE (q) fun q1 q2 => ?_; clear q)
         simpa using q2.symm
       subst this
       exact ⟨t, by simp⟩
   · exact .inl (by simpa using hb)
   · have kk2 : Keep H H' news n' := fun p hp e => by
       (refine exA ((K1.trans KF) p hp e) fun a1 a2 => ?_)
       exact kk p (.tail _ a1) (fresh_size S1.nw p a1) a2
     cases fl with
     | next =>
       have kl : H' l = some (.ro (.range n) { cls := .type "range", dict := none, data := .fields #[.int 0 t, .int n u, .int 1 v], slots := #[] }) := kp rfl
       exact k f .next m' mm' _ n' h' tk' (S3.thaw kl) lr3 (kk2.trans (Keep.freeze kl)) F3 q
     | brk => exact k f .brk m' mm' H' n' h' tk' S3 lr3 kk2 F3 q
     | cont => exact k f .cont m' mm' H' n' h' tk' S3 lr3 kk2 F3 q
     | ret a => exact k f (.ret a) m' mm' H' n' h' tk' S3 lr3 kk2 F3 q
end
section
variable {G : Gl} {D : Nat} {cs : Scope} {cl : List (Str × Addr)} {m : Loc} {H : AHeap}
structure WB (G : Gl) (D : Nat) (f : Value) (args : List AV) (H : AHeap) (Q : AV → AHeap → Prop) : Prop where
 go : ∀ c : Cx, c.Ok G D → ∀ mm news s, St G c.h₀ c.L mm H news s.heap → ∀ vals, VRs news args vals → ∀ (Q' : Value → Shared → Prop) E,
   (∀ v a H' news' h' tk, St G c.h₀ c.L mm H' news' h' → Keep H H' news news' → VR news' a v → Q a H' → Q' v { s with heap := h', toks := tk }) →
   wpAny (model G.prog G.w) c.A (call f vals) Q' E s
@[reducible] noncomputable def qCB (G : Gl) (D : Nat) (f : Value) (Q : AV → AHeap → Prop) : List AV → AHeap → Prop := fun as H => WB G D f as H Q
theorem VRs.app {n : Led} : ∀ {xs ys : List AV} {vs ws : List Value}, VRs n xs vs → VRs n ys ws → VRs n (xs ++ ys) (vs ++ ws) := by
 intro zz
 induction zz with
 | nil =>
   intro ys vs ws a b
   rw [VRs_nil] at a; subst a; exact b
 | cons x xs ih =>
   intro ys vs ws a b
   rw [VRs_cons] at a
   (refine exEEAA (a) fun v r zq0 a1 a2 => ?_; clear a; rcases zq0 with rfl)
   exact (VRs_cons ..).mpr ⟨v, r ++ ws, rfl, a1, ih a2 b⟩
theorem callB_go {c : Cx} (h1 : c.cs = cs) (h2 : c.cl = cl) (ok : c.Ok G D) {mm news s} (S : St G c.h₀ c.L mm H news s.heap) (lr : LR news m mm) {args : List Expr} {pos : Pos} {id : String} {first : List Value} {fs : List AV} {Q : AQ} (hp : (args.all plainE) = true)
   (hf : VRs news fs first) (h : WEs G D cs cl args m H fun as H' => WB G D (.builtin id) (fs ++ as) H' Q) (Q' : Value → Shared → Prop) (E : Value → Shared → Prop)
   (k : ∀ v a H' news' h' tk, St G c.h₀ c.L mm H' news' h' → Keep H H' news news' → VR news' a v → Q a H' → Q' v { s with heap := h', toks := tk }) :
   wpAny (model G.prog G.w) c.A (callWith pos (.builtin id) first (backTo pos (starEach args c.env)) []) Q' E s := by
 refine PySem.Calls.callWith_builtin (any_plain hp) ?_
 cases args with
 | nil =>
   refine evalArgs_nil3 ?_
   exact WB.go h c ok mm news s S _ (hf.app ((VRs_nil ..).mpr rfl)) Q' E k
 | cons e es =>
   have hp' := hp
   rw [List.all_cons, Bool.and_eq_true] at hp'
   have fin := WEs.go hp h c h1 h2 ok pos S lr (fun vs s' => wpAny (model G.prog G.w) c.A (call (.builtin id) (first ++ vs)) Q' E s') E fun vs as H' n' h' tk S1 K1 V1 len w =>
     w.go c ok mm n' _ S1 (first ++ vs) ((S.vrs K1 hf).app V1) Q' E fun v a H'' n'' h'' tk' S2 K2 V2 q => k v a H'' n'' h'' tk' S2 (K1.trans K2) V2 q
   rw [starEach_plain hp'.1] at fin ⊢
   exact evalArgs_plain fin
theorem callT_go {c : Cx} (h1 : c.cs = cs) (h2 : c.cl = cl) (ok : c.Ok G D) {mm news s} (S : St G c.h₀ c.L mm H news s.heap) (lr : LR news m mm) {args : List Expr} {pos : Pos} {T : String} {Q : AQ} (hp : (args.all plainE) = true)
   (h : WEs G D cs cl args m H fun as H' => WB G D (.type T) as H' Q) (Q' : Value → Shared → Prop) (E : Value → Shared → Prop)
   (k : ∀ v a H' news' h' tk, St G c.h₀ c.L mm H' news' h' → Keep H H' news news' → VR news' a v → Q a H' → Q' v { s with heap := h', toks := tk }) :
   wpAny (model G.prog G.w) c.A (callWith pos (.type T) [] (backTo pos (starEach args c.env)) []) Q' E s := by
 cases args with
 | nil => exact PyProof.Rows.callWith_type0 (WB.go h c ok mm news s S _ ((VRs_nil ..).mpr rfl) Q' E k)
 | cons e es =>
   have hp' := hp
   rw [List.all_cons, Bool.and_eq_true] at hp'
   refine PyProof.Rows.callWith_type1 (WEs.go hp h c h1 h2 ok pos S lr _ E fun vs as H' n' h' tk S1 K1 V1 len w => ?_) (starEach_plain hp'.1) (any_plain hp'.2)
   exact w.go c ok mm n' _ S1 vs V1 Q' E fun v a H'' n'' h'' tk' S2 K2 V2 q => k v a H'' n'' h'' tk' S2 (K1.trans K2) V2 q
theorem WE.callB {x : Str} {xp pos : Pos} {args : List Expr} {id : String} {Q : AQ} (e : nsIn G.K mainGlobals x = some none) (hv : bootBuiltins x = some (.builtin id)) (hn : x ≠ "__name__")
   (h : WEs G D cs cl args m H (qCB G D (.builtin id) Q)) (hp : (args.all plainE) = true := by rfl) (hx : cs.names.lookup x = some .globalImplicit := by rfl) (hd : (x == ("__debug__" : Str)) = false := by decide) :
   WE G D cs cl (.Call (.Name x xp) args [] pos) m H Q where
 go := fun c h1 h2 ok mm news s S lr Q' E k => by
   refine Call_ ((WE.bname e hv hn (h := (⟨rfl, rfl⟩ : AV.raw (.builtin id) = AV.raw (.builtin id) ∧ H = H)) hx hd : WE G D cs cl (.Name x xp) m H fun a H' => a = AV.raw (.builtin id) ∧ H' = H).go c h1 h2 ok mm news s S lr _ E fun v a H' n' h' tk S1 K1 V1 q => ?_) (by rfl)
   (refine exA (q) fun zq0 zq1 => ?_; clear q; rcases zq0 with rfl; rcases zq1 with rfl)
   have : v = .builtin id := V1
   subst this
   exact callB_go (s := { s with heap := h', toks := tk }) h1 h2 ok S1 (LR.keep S K1 lr) (fs := []) hp ((VRs_nil ..).mpr rfl) h _ _ fun v a H'' n'' h'' tk' S2 K2 V2 q => k v a H'' n'' h'' tk' S2 (K1.trans K2) V2 q
theorem WE.callT {x : Str} {xp pos : Pos} {args : List Expr} {T : String} {Q : AQ} (e : nsIn G.K mainGlobals x = some none) (hv : bootBuiltins x = some (.type T)) (hn : x ≠ "__name__")
   (h : WEs G D cs cl args m H (qCB G D (.type T) Q)) (hp : (args.all plainE) = true := by rfl) (hx : cs.names.lookup x = some .globalImplicit := by rfl) (hd : (x == ("__debug__" : Str)) = false := by decide) :
   WE G D cs cl (.Call (.Name x xp) args [] pos) m H Q where
 go := fun c h1 h2 ok mm news s S lr Q' E k => by
   refine Call_ ((WE.bname e hv hn (h := (⟨rfl, rfl⟩ : AV.raw (.type T) = AV.raw (.type T) ∧ H = H)) hx hd : WE G D cs cl (.Name x xp) m H fun a H' => a = AV.raw (.type T) ∧ H' = H).go c h1 h2 ok mm news s S lr _ E fun v a H' n' h' tk S1 K1 V1 q => ?_) (by rfl)
   (refine exA (q) fun zq0 zq1 => ?_; clear q; rcases zq0 with rfl; rcases zq1 with rfl)
   have : v = .type T := V1
   subst this
   exact callT_go (s := { s with heap := h', toks := tk }) h1 h2 ok S1 (LR.keep S K1 lr) hp h _ _ fun v a H'' n'' h'' tk' S2 K2 V2 q => k v a H'' n'' h'' tk' S2 (K1.trans K2) V2 q
noncomputable def methB : AO → Str → Option String
 | .list _, x => if x = "append" then some "list.append" else if x = "pop" then some "list.pop" else if x = "insert" then some "list.insert" else if x = "extend" then some "list.extend" else none
 | .idict _, x => if x = "get" then some "dict.get" else none
 | .sdict _, x => if x = "get" then some "dict.get" else none
 | .tdict _, x => if x = "get" then some "dict.get" else none
 | .iset _, x => if x = "add" then some "set.add" else if x = "discard" then some "set.discard" else none
 | _, _ => none
theorem pick {x a : Str} {b id : String} {r : Option String} {P : Prop} (h : (if x = a then some b else r) = some id) (k1 : x = a → b = id → P) (k2 : r = some id → P) : P := by
 by_cases q : x = a
 · rw [if_pos q] at h; exact k1 q (Option.some.inj h)
 · rw [if_neg q] at h; exact k2 h
theorem methB_go {c : Cx} (ok : c.Ok G D) {mm news s} (S : St G c.h₀ c.L mm H news s.heap) {l : Addr} {o : AO} {name : Str} {id : String} (hl : H l = some o) (hm : methB o name = some id) {pl : Sem Bool} (Q' : Value × List Value → Shared → Prop) (E : Value → Shared → Prop)
   (k : Q' (.builtin id, [.ref l]) s) : wpAny (model G.prog G.w) c.A (getMethod (.ref l) name pl) Q' E s := by
 (refine exEAA (S.get hl) fun ob h1 h2 h3 => ?_)
 cases o with
 | list xs =>
   (refine exEEA (h2) fun vs n zq0 _ => ?_; clear h2; rcases zq0 with rfl)
   refine pick hm (fun e z => ?_) fun hm => ?_
   · subst e z; exact listMethod_K S.nw h1 PySem.F.slot_list_append PySem.F.type_list_append k
   refine pick hm (fun e z => ?_) fun hm => ?_
   · subst e z; exact listMethod_K S.nw h1 PySem.F.slot_list_pop PySem.F.type_list_pop k
   refine pick hm (fun e z => ?_) fun hm => ?_
   · subst e z; exact listMethod_K S.nw h1 PySem.F.slot_list_insert PySem.F.type_list_insert k
   refine pick hm (fun e z => ?_) fun hm => ?_
   · subst e z; exact listMethod_K S.nw h1 PySem.F.slot_list_extend PySem.F.type_list_extend k
   · exact nomatch hm
 | idict es =>
   (refine exEA (h2) fun kvs hd _ => ?_; clear h2)
   refine pick hm (fun e z => ?_) fun hm => nomatch hm
   subst e z; exact kdg_method S.nw h1 hd k
 | sdict es =>
   (refine exEA (h2) fun kvs hd _ => ?_; clear h2)
   refine pick hm (fun e z => ?_) fun hm => nomatch hm
   subst e z; exact kdg_method S.nw h1 hd k
 | tdict es =>
   refine pick hm (fun e z => ?_) fun hm => nomatch hm
   subst e z
   exact getMethod_builtin ⟨_, h3, h2.1.1⟩ PySem.F.plainAttrs_dict PySem.F.slot_dict_get PySem.F.type_dict_get (fun a e => by cases e; exact ⟨_, h3, h2.1.2.1⟩) k
 | iset T =>
   have hc := h2.1.1
   refine pick hm (fun e z => ?_) fun hm => ?_
   · subst e z
     exact getMethod_builtin ⟨_, h3, hc.1⟩ PySem.F.plainAttrs_set PySem.F.slot_set_add PySem.F.type_set_add (fun a e => by cases e; exact ⟨_, h3, hc.2.1⟩) k
   refine pick hm (fun e z => ?_) fun hm => nomatch hm
   subst e z
   exact getMethod_builtin ⟨_, h3, hc.1⟩ PySem.F.plainAttrs_set PySem.F.slot_set_discard PySem.F.type_set_discard (fun a e => by cases e; exact ⟨_, h3, hc.2.1⟩) k
 | _ => (exact noneE hm)
structure MbP (G : Gl) (D : Nat) (cs : Scope) (cl : List (Str × Addr)) (m : Loc) (name : Str) (args : List Expr) (a : AV) (H1 : AHeap) (Q : AV → AHeap → Prop) : Prop where
 go : ∃ l ob id, a = .ref l ∧ H1 l = some ob ∧ methB ob name = some id ∧ WEs G D cs cl args m H1 (qCs (.ref l) (qCB G D (.builtin id) Q))
theorem MbP.of {name : Str} {args : List Expr} {l : Addr} {ob : AO} {id : String} {Q : AQ} (h1 : H l = some ob) (h2 : methB ob name = some id) (q : WEs G D cs cl args m H (qCs (.ref l) (qCB G D (.builtin id) Q))) : MbP G D cs cl m name args (.ref l) H Q := ⟨l, ob, id, rfl, h1, h2, q⟩
@[reducible] noncomputable def qMb (G : Gl) (D : Nat) (cs : Scope) (cl : List (Str × Addr)) (m : Loc) (name : Str) (args : List Expr) (Q : AV → AHeap → Prop) : AV → AHeap → Prop := fun a H => MbP G D cs cl m name args a H Q
theorem WE.callBm {o : Expr} {name : Str} {apos pos : Pos} {args : List Expr} {Q : AQ}
   (h : WE G D cs cl o m H (qMb G D cs cl m name args Q))
   (hp : (args.all plainE) = true := by rfl) {pl : Env → Sem Bool}
   (he : ∀ env : Env, eval (.Call (.Attribute o name apos) args [] pos) env = (do
     let ov ← eval o env
     standAt apos.atName
     let (f, first) ← holding [ov] (getMethod ov name (pl env))
     callWith pos f first (backTo pos (starEach args env)) []) := by intro _; rfl) :
   WE G D cs cl (.Call (.Attribute o name apos) args [] pos) m H Q where
 go := fun c h1 h2 ok mm news s S lr Q' E k => by
   refine MethodCall_ (h.go c h1 h2 ok mm news s S lr _ E fun v a H' n' h' tk S1 K1 V1 q => ?_) (he _)
   obtain ⟨l, ob, id, rfl, hl, hm, q⟩ := q
   have : v = .ref l := V1
   subst this
   refine methB_go (s := { s with heap := h', toks := tk }) ok S1 hl hm _ _ ?_
   exact callB_go (s := { s with heap := h', toks := tk }) h1 h2 ok S1 (LR.keep S K1 lr) (fs := [.ref l]) hp ((VRs_cons ..).mpr ⟨_, [], rfl, rfl, (VRs_nil ..).mpr rfl⟩) q _ _ fun v a H'' n'' h'' tk' S2 K2 V2 q => k v a H'' n'' h'' tk' S2 (K1.trans K2) V2 q
theorem list1 {news : Led} {a : AV} {vals : List Value} (h : VRs news [a] vals) : ∃ v, vals = [v] ∧ VR news a v := by
 (refine exEEAA ((VRs_cons ..).mp h) fun v r zq0 h1 h2 => ?_; rcases zq0 with rfl)
 rw [(VRs_nil ..).mp h2]; exact ⟨v, rfl, h1⟩
theorem list2 {news : Led} {a b : AV} {vals : List Value} (h : VRs news [a, b] vals) : ∃ v w, vals = [v, w] ∧ VR news a v ∧ VR news b w := by
 (refine exEEAA ((VRs_cons ..).mp h) fun v r zq0 h1 h2 => ?_; rcases zq0 with rfl)
 (refine exEA (list1 h2) fun w zq0 h3 => ?_; rcases zq0 with rfl)
 exact ⟨v, w, rfl, h1, h3⟩
theorem list3 {news : Led} {a b d : AV} {vals : List Value} (h : VRs news [a, b, d] vals) : ∃ v w x, vals = [v, w, x] ∧ VR news a v ∧ VR news b w ∧ VR news d x := by
 (refine exEEAA ((VRs_cons ..).mp h) fun v r zq0 h1 h2 => ?_; rcases zq0 with rfl)
 (refine exEEAA (list2 h2) fun w x zq0 h3 h4 => ?_; rcases zq0 with rfl)
 exact ⟨v, w, x, rfl, h1, h3, h4⟩
theorem VRs.push {news : Led} {xs : List AV} {vs : List Value} (h : VRs news xs vs) {a : AV} {v : Value} (hv : VR news a v) : VRs news (xs ++ [a]) (vs ++ [v]) := h.app ((VRs_cons ..).mpr ⟨v, [], rfl, hv, (VRs_nil ..).mpr rfl⟩)
theorem WB.append {l : Addr} {xs : List AV} {a : AV} {Q : AQ} (hl : H l = some (.list xs)) (hz : xs.length ≤ 16000000) (h : Q .none (H.put l (.list (xs ++ [a])))) : WB G D (.builtin "list.append") [.ref l, a] H Q where
 go := fun c ok mm news s S vals hv Q' E k => by
   (refine exEEAA (list2 hv) fun v w zq0 h1 h2 => ?_; rcases zq0 with rfl)
   have : v = .ref l := h1
   subst this
   (refine exEAA (S.get hl) fun ob hm zq0 hg => ?_; refine exEEA (zq0) fun vs n zq1 hvs => ?_; clear zq0; rcases zq1 with rfl)
   (refine exEAAAA (upd_of (listOf (vs.toArray.push w) (n + 1)) S.nd hm) fun n' U hk u1 u2 _ => ?_)
   refine append_K S.fr S.nw U (fun h' F N => ?_) (by rw [List.size_toArray, hvs.length, sizeLine_eq]; (exact Nat.le_trans (by assumption) (Nat.le_of_ble_eq_true rfl)))
   (refine exAA (S.upd (o' := .list (xs ++ [a])) hl hm F N hk u1 u2 ⟨vs ++ [w], n + 1, by simp, hvs.push h2⟩) fun S' K' _ => ?_)
   exact k .none .none _ n' h' _ S' K' rfl h
theorem VRs.last {news : Led} : ∀ {xs : List AV} {a : AV} {vs : List Value}, VRs news (xs ++ [a]) vs → ∃ us u, vs = us ++ [u] ∧ VRs news xs us ∧ VR news a u := by
 intro zz
 induction zz with
 | nil =>
   intro a vs h
   (refine exEA (list1 h) fun v zq0 h1 => ?_; rcases zq0 with rfl); exact ⟨[], v, rfl, (VRs_nil ..).mpr rfl, h1⟩
 | cons x xs ih =>
   intro a vs h
   (refine exEEAA ((VRs_cons ..).mp h) fun v r zq0 h1 h2 => ?_; rcases zq0 with rfl)
   (refine exEEAA (ih h2) fun us u zq0 h3 h4 => ?_; rcases zq0 with rfl)
   exact ⟨v :: us, u, rfl, (VRs_cons ..).mpr ⟨v, us, rfl, h1, h3⟩, h4⟩
theorem kl_last_app : ∀ (us : List Value) (u : Value), kl_last (us ++ [u]) = some (us, u) := by
 intro zz
 induction zz with
 | nil =>
   intro u
   exact rfl
 | cons v us ih =>
   intro u
   cases hq : us ++ [u] with
   | nil => cases us <;> cases hq
   | cons y r =>
     show kl_last (v :: (us ++ [u])) = _
     rw [hq]
     have := ih u
     rw [hq] at this
     show (match kl_last (y :: r) with | some (p, y) => some (v :: p, y) | none => some ([], v)) = _
     rw [this]
theorem WB.pop {l : Addr} {xs : List AV} {a : AV} {Q : AQ} (hl : H l = some (.list (xs ++ [a]))) (hz : xs.length ≤ 16000000) (h : Q a (H.put l (.list xs))) : WB G D (.builtin "list.pop") [.ref l] H Q where
 go := fun c ok mm news s S vals hv Q' E k => by
   (refine exEA (list1 hv) fun v zq0 h1 => ?_; rcases zq0 with rfl)
   have : v = .ref l := h1
   subst this
   (refine exEAA (S.get hl) fun ob hm zq0 hg => ?_; refine exEEA (zq0) fun vs n zq1 hvs => ?_; clear zq0; rcases zq1 with rfl)
   (refine exEEAA (hvs.last) fun us u zq0 h3 h4 => ?_; rcases zq0 with rfl)
   (refine exEAAAA (upd_of (listOf us.toArray (n + 1)) S.nd hm) fun n' U hk u1 u2 _ => ?_)
   refine kl_pop (p := us) (y := u) S.fr S.nw (by simpa using kl_last_app us u) U (by simp [h3.length, sizeLine_eq]; (exact Nat.le_trans (by assumption) (Nat.le_of_ble_eq_true rfl))) (fun h' F N => ?_)
   (refine exAA (S.upd (o' := .list xs) hl hm F N hk u1 u2 ⟨us, n + 1, rfl, h3⟩) fun S' K' sb => ?_)
   exact k u a _ n' h' _ S' K' (h4.sub sb) h
theorem WB.lenL {l : Addr} {o : AO} {xs : List AV} {Q : AQ} (hl : H l = some o) (ho : o.view = .list xs) (hz : xs.length ≤ 16000000) (h : Q (.int xs.length) H) : WB G D (.builtin "len") [.ref l] H Q where
 go := fun c ok mm news s S vals hv Q' E k => by
   (refine exEA (list1 hv) fun v zq0 h1 => ?_; rcases zq0 with rfl)
   have : v = .ref l := h1
   subst this
   (refine exEAA (S.get hl) fun ob hm ho2 hg => ?_)
   have ho3 := ho2.view
   rw [ho] at ho3
   (refine exEEA (ho3) fun vs n zq0 hvs => ?_; clear ho3; rcases zq0 with rfl)
   refine PyProof.Rows.len_list ⟨_, hg, rfl, n, rfl⟩ (by rw [List.size_toArray, hvs.length]; lia) ?_
   rw [List.size_toArray, hvs.length]
   exact k _ (.int xs.length) H news s.heap _ S Keep.rfl ⟨_, rfl⟩ h
theorem WB.lenT {xs : List AV} {Q : AQ} (hz : xs.length ≤ 16000000) (h : Q (.int xs.length) H) : WB G D (.builtin "len") [.tup xs] H Q where
 go := fun c ok mm news s S vals hv Q' E k => by
   (refine exEA (list1 hv) fun v zq0 h1 => ?_; rcases zq0 with rfl)
   (refine exEEAA ((VR_tup ..).mp h1) fun t vs zq0 hm hvs => ?_; rcases zq0 with rfl)
   refine PyProof.Rows.len_tuple ⟨_, (S.nw _ hm).1, rfl, 0, rfl⟩ (by rw [List.size_toArray, hvs.length]; lia) ?_
   rw [List.size_toArray, hvs.length]
   exact k _ (.int xs.length) H news s.heap _ S Keep.rfl ⟨_, rfl⟩ h
noncomputable def plainIx : Expr → Bool
 | .Slice .. => false
 | _ => true
theorem sub_plain {sl : Expr} {o i : Value} (h : plainIx sl = true) : subscripted sl false o i = operate [o, i] (getItem o i) := by
 cases sl <;> first | rfl | (exact falseE h)
structure WI (G : Gl) (D : Nat) (a i : AV) (H : AHeap) (Q : AV → AHeap → Prop) : Prop where
 go : ∀ c : Cx, c.Ok G D → ∀ mm news s, St G c.h₀ c.L mm H news s.heap → ∀ va vi, VR news a va → VR news i vi → ∀ (Q' : Value → Shared → Prop) E,
   (∀ v x H' news' h' tk, St G c.h₀ c.L mm H' news' h' → Keep H H' news news' → VR news' x v → Q x H' → Q' v { s with heap := h', toks := tk }) →
   wpAny (model G.prog G.w) c.A (getItem va vi) Q' E s ∧ ∃ T id, s.TypeIs va T ∧ typeLookup (.type T) "__getitem__" = pure (some (.builtin id))
@[reducible] noncomputable def q2I (G : Gl) (D : Nat) (a : AV) (Q : AV → AHeap → Prop) : AV → AHeap → Prop := fun b H => WI G D a b H Q
@[reducible] noncomputable def q1I (G : Gl) (D : Nat) (cs : Scope) (cl : List (Str × Addr)) (i : Expr) (m : Loc) (Q : AV → AHeap → Prop) : AV → AHeap → Prop := fun a H => WE G D cs cl i m H (q2I G D a Q)
theorem WE.item {e i : Expr} {pos : Pos} {Q : AQ} (h : WE G D cs cl e m H (q1I G D cs cl i m Q)) (hi : plainIx i = true := by rfl) : WE G D cs cl (.Subscript e i pos) m H Q where
 go := fun c h1 h2 ok mm news s S lr Q' E k => by
   refine Subscript_ (h.go c h1 h2 ok mm news s S lr _ E fun va a H1 n1 h1' tk S1 K1 V1 w => ?_)
   refine w.go c h1 h2 ok mm n1 _ S1 (LR.keep S K1 lr) _ E fun vb b H2 n2 h2' tk2 S2 K2 V2 w2 => ?_
   (refine exAEEA (w2.go c ok mm n2 { s with heap := h2', toks := tk2 } S2 va vb (S1.vr K2 V1) V2 Q' E fun v x H3 n3 h3 tk3 S3 K3 V3 q => k v x H3 n3 h3 tk3 S3 ((K1.trans K2).trans K3) V3 q) fun z T id hT hl => ?_)
   exact tail_any hT hl z (sub_plain hi)
theorem VRs.at {news : Led} : ∀ {xs : List AV} {vs : List Value}, VRs news xs vs → ∀ {i : Nat} {a : AV}, xs[i]? = some a → ∃ v, vs[i]? = some v ∧ VR news a v := by
 intro zz
 induction zz with
 | nil =>
   intro _ _ i a e
   simp at e
 | cons x xs ih =>
   intro _ h i a e
   (refine exEEAA ((VRs_cons ..).mp h) fun v0 r zq0 h1 h2 => ?_; rcases zq0 with rfl)
   cases i with
   | zero => cases e; exact ⟨v0, rfl, h1⟩
   | succ i => exact ih h2 e
theorem seqIndex_nat {i : Int} {n : Nat} (h0 : 0 ≤ i) (h : i.toNat < n) : seqIndex? i n = some i.toNat := by
 unfold seqIndex?
 have h1 : ¬ i < 0 := by lia
 have h2 : i < (n : Int) := by lia
 simp [h1, h0, h2]
theorem WI.tup {xs : List AV} {i : Int} {a : AV} {Q : AQ} (h0 : 0 ≤ i) (hx : xs[i.toNat]? = some a) (hz : xs.length ≤ 16000000) (h : Q a H) : WI G D (.tup xs) (.int i) H Q where
 go := fun c ok mm news s S va vi ha hi Q' E k => by
   (refine exEEAA ((VR_tup ..).mp ha) fun t vs zq0 hm hvs => ?_; rcases zq0 with rfl)
   (refine exE (hi) fun u zq0 => ?_; clear hi; rcases zq0 with rfl)
   (refine exEA (hvs.at hx) fun v hv hr => ?_)
   have hT : IsTup s.heap t vs.toArray := ⟨_, (S.nw _ hm).1, rfl, 0, rfl⟩
   have hlt : i.toNat < xs.length := by
     rw [List.getElem?_eq_some_iff] at hx
     exact hx.1
   refine ⟨PyProof.Rows.getItem_tuple (k := i) (u := u) hT (by lia) (by lia) (j := i.toNat) (by rw [List.size_toArray, hvs.length]; exact seqIndex_nat h0 hlt) (by simpa using hv) (k v a H news s.heap s.toks S Keep.rfl hr h), "tuple", "tuple.__getitem__", ⟨_, (S.nw _ hm).1, rfl⟩, PySem.F.slot_tuple_getitem.lookup⟩
theorem WI.list {l : Addr} {o : AO} {xs : List AV} {i : Int} {a : AV} {Q : AQ} (hl : H l = some o) (ho : o.view = .list xs) (h0 : 0 ≤ i) (hx : xs[i.toNat]? = some a) (hz : xs.length ≤ 16000000) (h : Q a H) : WI G D (.ref l) (.int i) H Q where
 go := fun c ok mm news s S va vi ha hi Q' E k => by
   have : va = .ref l := ha
   subst this
   (refine exE (hi) fun u zq0 => ?_; clear hi; rcases zq0 with rfl)
   (refine exEAA (S.get hl) fun ob hm ho2 hg => ?_)
   have ho3 := ho2.view
   rw [ho] at ho3
   (refine exEEA (ho3) fun vs n zq0 hvs => ?_; clear ho3; rcases zq0 with rfl)
   (refine exEA (hvs.at hx) fun v hv hr => ?_)
   have hlt : i.toNat < xs.length := by
     rw [List.getElem?_eq_some_iff] at hx
     exact hx.1
   exact ⟨PySem.wpAny_getItem_list ⟨_, hg, rfl, n, rfl⟩ h0 (by lia) (by simpa using hv) (k v a H news s.heap s.toks S Keep.rfl hr h), "list", "list.__getitem__", ⟨_, hg, rfl⟩, PySem.F.slot_list_getitem.lookup⟩
theorem PR.at {κ : Type} [DecidableEq κ] {news : Led} {k : κ} {a : AV} : ∀ {es : List (κ × AV)} {l : List (κ × Value)}, PR news es l → es.lookup k = some a → ∃ v, valueAt l k = some v ∧ VR news a v := by
 intro zz
 induction zz with
 | nil =>
   intro l h e
   (exact noneE e)
 | cons qx r ih =>
   obtain ⟨q, b⟩ := qx
   intro l h e
   (refine exEEAA ((PR_cons ..).mp h) fun v l' zq0 h1 h2 => ?_; rcases zq0 with rfl)
   rw [List.lookup_cons] at e
   by_cases z : k = q
   · subst z
     simp only [beq_self_eq_true] at e
     cases e
     exact ⟨v, by simp [valueAt], h1⟩
   · have z1 : (k == q) = false := by simpa using z
     simp only [z1] at e
     (refine exEA (ih h2 e) fun v' e1 e2 => ?_)
     refine ⟨v', ?_, e2⟩
     unfold valueAt at e1 ⊢
     rw [List.find?_cons_of_neg (by simpa using fun x => z x.symm)]
     exact e1
theorem PR.none {κ : Type} [DecidableEq κ] {news : Led} {k : κ} : ∀ {es : List (κ × AV)} {l : List (κ × Value)}, PR news es l → es.lookup k = none → valueAt l k = none := by
 intro zz
 induction zz with
 | nil =>
   intro l h e
   rw [(PR_nil ..).mp h]; rfl
 | cons qx r ih =>
   obtain ⟨q, b⟩ := qx
   intro l h e
   (refine exEEAA ((PR_cons ..).mp h) fun v l' zq0 h1 h2 => ?_; rcases zq0 with rfl)
   rw [List.lookup_cons] at e
   by_cases z : k = q
   · subst z
     simp only [beq_self_eq_true] at e
     (exact someE e)
   · have z1 : (k == q) = false := by simpa using z
     simp only [z1] at e
     have := ih h2 e
     unfold valueAt at this ⊢
     rw [List.find?_cons_of_neg (by simpa using fun x => z x.symm)]
     exact this
theorem WI.idict {l : Addr} {o : AO} {es : List (Int × AV)} {i : Int} {a : AV} {Q : AQ} (hl : H l = some o) (ho : o.view = .idict es) (hx : es.lookup i = some a) (h : Q a H) : WI G D (.ref l) (.int i) H Q where
 go := fun c ok mm news s S va vi ha hi Q' E k => by
   have : va = .ref l := ha
   subst this
   (refine exE (hi) fun u zq0 => ?_; clear hi; rcases zq0 with rfl)
   (refine exEAA (S.get hl) fun ob hm ho2 hg => ?_)
   have ho3 := ho2.view
   rw [ho] at ho3
   (refine exEA (ho3) fun kvs hd hr => ?_; clear ho3)
   (refine exEA (hr.at hx) fun v hv hrv => ?_)
   have hm2 := (kda_dict S.nw hm hd).mapOf
   have hT : s.heap.get? l = some ob := hg
   exact ⟨PySem.wpAny_getItem_of (intKind_is _ _ _ _) hm2 hv (k v a H news s.heap _ S Keep.rfl hrv h), "dict", "dict.__getitem__", hm2.typeIs, PySem.F.slot_dict_getitem.lookup⟩
end
noncomputable def cntL (S : Int → Bool) : List Int → Nat
 | [] => 0
 | k :: r => b2n (S k) + cntL S r
noncomputable def eight : List Int := [0, 1, 2, 3, 4, 5, 6, 7]
theorem cntL_n (S : Int → Bool) : cntL S [] = 0 := rfl
theorem cntL_c (S : Int → Bool) (k r) : cntL S (k :: r) = b2n (S k) + cntL S r := rfl
theorem cnt_eq (S : Int → Bool) : cnt S = cntL S eight := by simp only [cnt, cntL_c, cntL_n, eight]; ((simp +arith; done))
theorem cntL_ins {S : Int → Bool} {k : Int} : ∀ {l : List Int}, l.Nodup → cntL (fun x => S x || decide (x = k)) l = if k ∈ l ∧ S k = false then cntL S l + 1 else cntL S l := by
 intro zz
 induction zz with
 | nil =>
   intro _
   (rfl)
 | cons x r ih =>
   intro h
   rw [List.nodup_cons] at h
   rw [cntL_c, cntL_c, ih h.2]
   by_cases q : x = k
   · subst q
     have : ¬ (x ∈ r ∧ S x = false) := fun z => h.1 z.1
     rw [if_neg this]
     cases hs : S x <;> simp [b2n]; ((simp +arith only; done))
   · have q' : ¬ k = x := fun z => q z.symm
     simp [q, q']
     split <;> (rfl)
set_option tactic.hygienic true in
theorem cntL_del {S : Int → Bool} {k : Int} : ∀ {l : List Int}, l.Nodup → cntL (fun x => S x && !decide (x = k)) l = if k ∈ l ∧ S k = true then cntL S l - 1 else cntL S l := by
 intro zz
 induction zz with
 | nil =>
   intro _
   (rfl)
 | cons x r ih =>
   intro h
   rw [List.nodup_cons] at h
   rw [cntL_c, cntL_c, ih h.2]
   by_cases q : x = k
   · subst q
     have : ¬ (x ∈ r ∧ S x = true) := fun z => h.1 z.1
     rw [if_neg this]
     cases hs : S x <;> simp [b2n]
   · have q' : ¬ k = x := fun z => q z.symm
     simp [q, q']
     split
     · rename_i z
       have : 1 ≤ cntL S r := by
         have : ∀ l : List Int, k ∈ l → 1 ≤ cntL S l := by
           intro l
           induction l with
           | nil => intro h; cases h
           | cons y l ih =>
             intro h
             rw [cntL_c]
             rcases List.mem_cons.mp h with rfl | h
             · rw [z.2]; simp [b2n]
             · have := ih h; lia
         exact this r z.1
       lia
     · rfl
theorem eight_nodup : eight.Nodup := by decide
theorem mem_eight {k : Int} : k ∈ eight ↔ 0 ≤ k ∧ k < 8 := by
 unfold eight
 simp only [List.mem_cons, List.not_mem_nil, or_false]
 lia
theorem elems_len (S : Int → Bool) : ∀ (l ks : List Int), l.Nodup → (∀ k ∈ l, S k = true → k ∈ ks) → cntL S l ≤ ks.length := by
 intro zz
 induction zz with
 | nil =>
   intro ks _ _
   exact Nat.zero_le _
 | cons x r ih =>
   intro ks nd h
   rw [List.nodup_cons] at nd
   rw [cntL_c]
   cases hs : S x with
   | false =>
     have := ih ks nd.2 (fun k hk => h k (.tail _ hk))
     simpa [b2n] using this
   | true =>
     have hx := h x (.head _) hs
     have := ih (ks.erase x) nd.2 (fun k hk hS => by
       have ne : k ≠ x := fun z => nd.1 (z ▸ hk)
       exact (List.mem_erase_of_ne ne).mpr (h k (.tail _ hk) hS))
     rw [List.length_erase_of_mem hx] at this
     have : 0 < ks.length := List.length_pos_of_mem hx
     simp [b2n]; lia
section
variable {G : Gl} {D : Nat} {cs : Scope} {cl : List (Str × Addr)} {m : Loc} {H : AHeap}
noncomputable def insS (S : Int → Bool) (k : Int) : Int → Bool := fun x => S x || decide (x = k)
noncomputable def delS (S : Int → Bool) (k : Int) : Int → Bool := fun x => S x && !decide (x = k)
theorem cnt_ins {S : Int → Bool} {k : Int} (h : 0 ≤ k ∧ k < 8) : cnt (insS S k) = if S k then cnt S else cnt S + 1 := by
 rw [cnt_eq, cnt_eq]
 unfold insS
 rw [cntL_ins eight_nodup]
 have := mem_eight.mpr h
 cases hs : S k <;> simp [this]
theorem cnt_del {S : Int → Bool} {k : Int} (h : 0 ≤ k ∧ k < 8) : cnt (delS S k) = if S k then cnt S - 1 else cnt S := by
 rw [cnt_eq, cnt_eq]
 unfold delS
 rw [cntL_del eight_nodup]
 have := mem_eight.mpr h
 cases hs : S k <;> simp [this]
theorem b2n_le (b : Bool) : b2n b ≤ 1 := by cases b <;> (first | exact Nat.le_of_ble_eq_true rfl | exact Nat.zero_le _ | simp [b2n])
theorem cnt_le (S : Int → Bool) : cnt S ≤ 8 := by
 unfold cnt
 have := b2n_le (S 0); have := b2n_le (S 1); have := b2n_le (S 2); have := b2n_le (S 3); have := b2n_le (S 4); have := b2n_le (S 5); have := b2n_le (S 6); have := b2n_le (S 7)
 lia
theorem scan8 : (100 : Nat) < scanBound := by decide
theorem WCmp.inSet {l : Addr} {S : Int → Bool} {i : Int} {Q : Bool → AHeap → Prop} (hl : H l = some (.iset S)) (h : Q (S i) H) : WCmp G D .In (.int i) (.ref l) H Q where
 go := fun c ok mm news s St va vb ha hb Q' E k => by
   have : vb = .ref l := hb
   subst this
   (refine exE (ha) fun t zq0 => ?_; clear ha; rcases zq0 with rfl)
   (refine exEAA (St.get hl) fun ob hm ho hg => ?_)
   (refine exEA (updF_of St.nd hm) fun g U _ => ?_)
   exact kse_in St.nw U ho.1 (by have := cnt_le S; have := scan8; lia) (intKind_is _ _ _ _) rfl (k _ H news s.heap _ St Keep.rfl h)
theorem WCmp.notInSet {l : Addr} {S : Int → Bool} {i : Int} {Q : Bool → AHeap → Prop} (hl : H l = some (.iset S)) (h : Q (!S i) H) : WCmp G D .NotIn (.int i) (.ref l) H Q where
 go := fun c ok mm news s St va vb ha hb Q' E k => by
   have : vb = .ref l := hb
   subst this
   (refine exE (ha) fun t zq0 => ?_; clear ha; rcases zq0 with rfl)
   (refine exEAA (St.get hl) fun ob hm ho hg => ?_)
   (refine exEA (updF_of St.nd hm) fun g U _ => ?_)
   exact kse_notin St.nw U ho.1 (by have := cnt_le S; have := scan8; lia) (intKind_is _ _ _ _) rfl (k _ H news s.heap _ St Keep.rfl h)
theorem WB.setAdd {l : Addr} {S : Int → Bool} {i : Int} {Q : AQ} (hl : H l = some (.iset S)) (h0 : 0 ≤ i ∧ i < 8) (h : Q .none (H.put l (.iset (insS S i)))) : WB G D (.builtin "set.add") [.ref l, .int i] H Q where
 go := fun c ok mm news s St vals hv Q' E k => by
   (refine exEEAA (list2 hv) fun v w zq0 h1 h2 => ?_; rcases zq0 with rfl)
   have : v = .ref l := h1
   subst this
   (refine exE (h2) fun t zq0 => ?_; clear h2; rcases zq0 with rfl)
   (refine exEAA (St.get hl) fun ob hm ho hg => ?_)
   (refine exEA (updF_of St.nd hm) fun g U z => ?_)
   refine kse_add St.fr St.nw U ho.1 (by have := cnt_le S; have := scan8; lia) (intKind_is _ _ _ _) rfl fun h' so' F N hso => ?_
   (refine exAAA (z so') fun hk u1 u2 _ => ?_)
   (refine exAA (St.upd (o' := .iset (insS S i)) hl hm F N hk u1 u2 ⟨by rw [cnt_ins h0]; exact hso, fun x hx => by
     simp only [insS, Bool.or_eq_true, decide_eq_true_eq] at hx
     rcases hx with hx | rfl
     · exact ho.2 x hx
     · exact h0⟩) ?_; intro S' K' _)
   exact k .none .none _ _ h' _ S' K' rfl h
theorem keysOf_elems {prog : Program} {w : World} : ∀ {l : List (Int × Value)}, ElemsOf (intKind prog w) l → ∃ ks : List Int, ks.length = l.length ∧ (∀ (j : Nat) (e : Int × Value), l[j]? = some e → ∃ k, ks[j]? = some k ∧ (intKind prog w).is k e.2 = true) := by
 intro zz
 induction zz with
 | nil =>
   intro _
   exact ⟨[], rfl, fun j e h => by simp at h⟩
 | cons x r ih =>
   intro h
   (refine exEA (ih h.tail) fun ks h1 h2 => ?_)
   (refine exA (h.head) fun zq0 _ => ?_; refine exEA (zq0) fun k hk _ => ?_; clear zq0)
   refine ⟨k :: ks, by simp [h1], fun j e q => ?_⟩
   cases j with
   | zero => simp at q; subst q; exact ⟨k, rfl, hk⟩
   | succ j => simp at q; simpa using h2 j e q
theorem intKind_inj {prog : Program} {w : World} {a b : Int} {v : Value} (h : (intKind prog w).is a v = true) (h' : (intKind prog w).is b v = true) : a = b := (intKind prog w).inj v a b h h'
theorem eraseAt_toList {α : Type} (xs : Array α) (i : Nat) : (SetTable.eraseAt xs i).toList = xs.toList.eraseIdx i := by
 unfold SetTable.eraseAt
 rw [Array.toList_append, Array.toList_extract, Array.toList_extract, List.eraseIdx_eq_take_drop_succ]
 simp only [List.extract_eq_take_drop, List.drop_zero, Nat.sub_zero]
 congr 1
 exact List.take_of_length_le (by simp)
theorem fits_drop {t : SetTable} {n i : Nat} (h : t.fits n = true) (hi : i < n) : (t.drop i).fits (n - 1) = true := by
 obtain ⟨h1, h2⟩ : t.place.size = n ∧ t.place.size + t.dummies.size ≤ t.mask := by
   unfold SetTable.fits SetTable.fill at h
   rw [Bool.and_eq_true] at h
   exact ⟨beq_iff_eq.mp h.1, of_decide_eq_true h.2⟩
 subst h1
 have e0 : t.place[i]? = some t.place[i] := by simp [hi]
 have e : t.drop i = { t with place := SetTable.eraseAt t.place i, dummies := SetTable.insertAt t.dummies (SetTable.below t.dummies t.place[i]) t.place[i] } := by
   unfold SetTable.drop
   rw [e0]
 rw [e]
 have e1 : (SetTable.eraseAt t.place i).size = t.place.size - 1 := by
   rw [← Array.length_toList, eraseAt_toList, List.length_eraseIdx]; (exact if_pos (by assumption))
 have e2 : ∀ p x, (SetTable.insertAt t.dummies p x).size = t.dummies.size + 1 := fun p x => by
   have := (SetTable.insertAt_perm t.dummies p x).length_eq
   simpa using this
 unfold SetTable.fits SetTable.fill
 rw [Bool.and_eq_true]
 refine ⟨beq_iff_eq.mpr e1, decide_eq_true ?_⟩
 dsimp only
 rw [e1, e2]
 lia
theorem erase_set {prog : Program} {w : World} {es : Array (Int × Value)} {S : Int → Bool} {i : Int} {j : Nat} (hel : ElemsOf (intKind prog w) es.toList) (hmem : ∀ y, S y = true ↔ ∃ e ∈ es.toList, (intKind prog w).is y e.2 = true) (hn : es.size = cnt S) (hj : j < es.toList.length) (hpj : (intKind prog w).is i es.toList[j].2 = true) :
   ElemsOf (intKind prog w) (SetTable.eraseAt es j).toList ∧ (∀ y, delS S i y = true ↔ ∃ e ∈ (SetTable.eraseAt es j).toList, (intKind prog w).is y e.2 = true) ∧ (SetTable.eraseAt es j).size = es.size - 1 := by
 rw [← Array.length_toList, ← Array.length_toList, eraseAt_toList]
 rw [← Array.length_toList] at hn
 generalize es.toList = l at *
 refine ⟨fun x hx => hel x (List.mem_of_mem_eraseIdx hx), fun y => ?_, List.length_eraseIdx_of_lt hj⟩
 have uniq : ∀ e ∈ l.eraseIdx j, (intKind prog w).is i e.2 = true → False := by
   intro e he q
   (refine exEA (keysOf_elems (prog := prog) (w := w) (l := l.eraseIdx j) (fun x hx => hel x (List.mem_of_mem_eraseIdx hx))) fun ks k1 k2 => ?_)
   have all : ∀ y ∈ eight, S y = true → y ∈ ks := by
     intro y _ hy
     (refine exEA ((hmem y).mp hy) fun e' he' hp' => ?_)
     have : ∃ e'' ∈ l.eraseIdx j, (intKind prog w).is y e''.2 = true := by
       obtain ⟨n, hn1, hn2⟩ := List.getElem_of_mem he'
       by_cases z : n = j
       · subst z
         rw [hn2] at hpj
         exact ⟨e, he, intKind_inj hpj hp' ▸ q⟩
       · exact ⟨e', List.mem_eraseIdx_iff_getElem.mpr ⟨n, hn1, z, hn2⟩, hp'⟩
     (refine exEA (this) fun e'' h1 h2 => ?_; clear this)
     obtain ⟨n, hn1, hn2⟩ := List.getElem_of_mem h1
     (refine exEA (k2 n e'' (by rw [List.getElem?_eq_getElem hn1, hn2])) fun kk a1 a2 => ?_)
     exact intKind_inj a2 h2 ▸ List.mem_of_getElem? a1
   have := elems_len S eight ks eight_nodup all
   rw [← cnt_eq, ← hn, k1, List.length_eraseIdx_of_lt hj] at this
   lia
 unfold delS
 rw [Bool.and_eq_true, hmem y]
 constructor
 · (intro zq0; refine exA (zq0) fun zq1 hne => ?_; clear zq0; refine exEA (zq1) fun e he hp => ?_; clear zq1)
   obtain ⟨n, hn1, hn2⟩ := List.getElem_of_mem he
   refine ⟨e, List.mem_eraseIdx_iff_getElem.mpr ⟨n, hn1, fun z => ?_, hn2⟩, hp⟩
   subst z
   rw [hn2] at hpj
   rw [intKind_inj hp hpj] at hne
   simp at hne
 · (intro zq0; refine exEA (zq0) fun e he hp => ?_; clear zq0)
   refine ⟨⟨e, List.mem_of_mem_eraseIdx he, hp⟩, ?_⟩
   cases q : decide (y = i) with
   | false => rfl
   | true => exact (uniq e he (of_decide_eq_true q ▸ hp)).elim
theorem Upd.news {h₀ h h' : Heap} {L l : Addr} {ob ob' : Obj} {news n' : Led} (nw : News h₀ L h news) (U : Upd l ob ob' news n') (sb : Heap.SameBut l h h') (hg : h'.get? l = some ob') : News h₀ L h' n' := by
 have := nw.replace sb hg
 (refine exEEAAA (U.split) fun pre post e1 e2 a1 b1 => ?_)
 subst e1 e2
 intro p hp
 refine this p ?_
 rcases List.mem_append.mp hp with hp | hp
 · exact List.mem_map.mpr ⟨p, List.mem_append_left _ hp, by rw [if_neg (a1 p hp)]⟩
 · rcases List.mem_cons.mp hp with rfl | hp
   · exact List.mem_map.mpr ⟨(l, ob), List.mem_append_right _ (.head _), by (exact if_pos rfl)⟩
   · exact List.mem_map.mpr ⟨p, List.mem_append_right _ (.tail _ hp), by rw [if_neg (b1 p hp)]⟩
set_option tactic.hygienic true in
theorem put_idem {l : Addr} {o : AO} (hl : H l = some o) : H.put l o = H := by
 funext x
 unfold AHeap.put
 split
 · rename_i q; rw [q, hl]
 · rfl
theorem delS_no {S : Int → Bool} {i : Int} (h : S i = false) : delS S i = S := by
 funext x
 unfold delS
 by_cases q : x = i
 · rw [q, h]; rfl
 · simp [q]
theorem WB.setDiscard {l : Addr} {S : Int → Bool} {i : Int} {Q : AQ} (hl : H l = some (.iset S)) (h0 : 0 ≤ i ∧ i < 8) (h : Q .none (H.put l (.iset (delS S i)))) : WB G D (.builtin "set.discard") [.ref l, .int i] H Q where
 go := fun c ok mm news s St vals hv Q' E k => by
   (refine exEEAA (list2 hv) fun v w zq0 h1 h2 => ?_; rcases zq0 with rfl)
   have : v = .ref l := h1
   subst this
   (refine exE (h2) fun t zq0 => ?_; clear h2; rcases zq0 with rfl)
   (refine exEAA (St.get hl) fun ob hm ho hg => ?_)
   (refine exA (ho) fun zq0 hlow => ?_; clear ho; refine exAEEEAAAA (zq0) fun hex es ep tb hd hel hmem hn hf => ?_; clear zq0)
   have hsz : es.size < scanBound := by rw [hn]; have := cnt_le S; have := scan8; lia
   refine wpAny_call_entry PySem.F.slot_set_discard ⟨_, hg, hex.1⟩ PySem.F.entry_set_discard ?_ (PySem.F.args_set_discard_2 _ _)
   unfold Builtin.«set.discard» Builtin.Frozenset.oneOther
   simp only [List.isEmpty_nil, bind_assoc]
   unfold Builtin.Frozenset.addrOf Builtin.Frozenset.withSetAsKey PySem.setDiscard
   refine wpAny_bind (wpAny_pure ?_)
   try dsimp only
   refine wpAny_bind (wpAny_pure ?_)
   try dsimp only
   refine wpAny_bind (PySem.wpAny_tryCatch (wpAny_holding (wpAny_bind ((intKind G.prog G.w).pyHash (intKind_is _ _ _ _) ?_))))
   unfold setDiscardHashed setFind setFindIn
   refine wpAny_bind (wpAny_bind (wpAny_setState_of (s := { s with toks := s.toks + 1 }) hg hd hf ?_))
   dsimp only
   rw [byScan_of rfl hsz hel]
   simp only [↓reduceIte]
   refine wpAny_bind (wpAny_rule (wpAny_bind (wpAny_setScan_of (s := { s with toks := s.toks + 1 }) (intKind_is _ _ _ _) hg hd hf hel ?_)))
   cases hr : List.findIdx? (fun e => (intKind G.prog G.w).is i e.2) es.toList with
   | none =>
     dsimp only
     have hSi : S i = false := by
       rw [← Bool.not_eq_true, hmem i]
       (intro zq0; refine exEA (zq0) fun e he hpe => ?_; clear zq0)
       have := List.findIdx?_eq_none_iff.mp hr e he
       rw [hpe] at this; exact Bool.noConfusion this
     refine wpAny_pure (wpAny_pure ?_)
     refine wpAny_pure ⟨_, rfl, ?_⟩
     rw [delS_no hSi, put_idem hl] at h
     exact k .none .none H news s.heap _ St Keep.rfl rfl h
   | some j =>
     dsimp only
     (refine exEA (List.findIdx?_eq_some_iff_getElem.mp hr) fun hj hpj _ => ?_)
     have hSi : S i = true := (hmem i).mpr ⟨es.toList[j], List.getElem_mem hj, hpj⟩
     (refine exAA (erase_set hel hmem hn hj hpj) fun hel' hmem' hsz' => ?_)
     have hj' : j < es.size := Array.length_toList ▸ hj
     have hft := fits_drop hf hj'
     rw [← hsz'] at hft
     clear hr hmem
     refine wpAny_pure ?_
     refine wpAny_bind (wpAny_setState_of (s := { s with toks := s.toks + 1 }) hg hd hf ?_)
     dsimp only
     rw [Nat.zero_add]
     have hle : (SetTable.eraseAt es j).size ≤ 8 := by rw [hsz', hn]; have := cnt_le S; lia
     refine wpAny_bind (wpAny_storeSet_of (s := { s with toks := s.toks + 1 }) hg hd ?_ (Nat.le_trans hle (by rw [sizeLine_eq]; decide)))
     (refine exA (SetOf_store (knd := intKind G.prog G.w) (h := s.heap) hg hex hd hel' hmem' (by rw [hsz']; lia) hft) ?_; intro hg2 _)
     refine wpAny_bind (wpAny_point ?_)
     refine wpAny_pure ?_
     refine wpAny_pure ⟨_, rfl, ?_⟩
     have z := St.nw _ hm
     (refine exEAAAA (upd_of { ob with data := .set (SetTable.eraseAt es j) (ep + 1) (tb.drop j) } St.nd hm) fun n' U hk u1 u2 _ => ?_)
     have sb : Heap.SameBut l s.heap (s.heap.update l (Obj.putSet (SetTable.eraseAt es j) (tb.drop j))) := Heap.SameBut.update ..
     (refine exAA (St.upd (o' := .iset (delS S i)) hl hm (St.fr.change sb z.2.1 z.2.2) (Upd.news St.nw U sb hg2) hk u1 u2 ⟨⟨hex, _, _, _, rfl, hel', hmem', by rw [hsz', cnt_del h0, hSi, hn]; rfl, hft⟩, fun x hx => hlow x ((Bool.and_eq_true_iff.mp hx).1)⟩) ?_; intro S' K' _)
     exact k .none .none _ n' _ _ S' K' rfl h
theorem WB.newSet {Q : AQ} (h : ∀ l, H l = none → Q (.ref l) (H.put l (.iset fun _ => false))) : WB G D (.type "set") [] H Q where
 go := fun c ok mm news s St vals hv Q' E k => by
   rw [(VRs_nil ..).mp hv]
   refine kse_new St.fr St.nw fun d h' led F N lt hi hs => ?_
   (refine exA (St.pushO (o := .iset fun _ => false) F N (lt_ne lt) ⟨hi, fun x hx => nomatch hx⟩) fun S2 K2 => ?_)
   exact k (.ref d) (.ref d) _ _ _ _ S2 K2 rfl (h d (St.off (lt_ne lt)))
theorem WCmp.notInDict {l : Addr} {o : AO} {es : List (Int × AV)} {i : Int} {Q : Bool → AHeap → Prop} (hl : H l = some o) (ho : o.view = .idict es) (hd : o.isD = true) (h : Q (!(es.lookup i).isSome) H) : WCmp G D .NotIn (.int i) (.ref l) H Q where
 go := fun c ok mm news s St va vb ha hb Q' E k => by
   have : vb = .ref l := hb
   subst this
   (refine exE (ha) fun t zq0 => ?_; clear ha; rcases zq0 with rfl)
   (refine exEAA (St.get hl) fun ob hm ho2 hg => ?_)
   have ho3 := ho2.view
   rw [ho] at ho3
   (refine exEA (ho3) fun kvs hd2 hr => ?_; clear ho3)
   refine kdg_notin St.nw hm hd2 (St.lo l _ hl hd) (intKind_is _ _ _ _) (es.lookup i).isSome ?_ (k _ H news s.heap _ St Keep.rfl h)
   cases e : es.lookup i with
   | none => rw [hr.none e]; rfl
   | some a => (refine exEA (hr.at e) fun v e1 _ => ?_); rw [e1]; rfl
theorem WB.getI {l : Addr} {o : AO} {es : List (Int × AV)} {i : Int} {d : AV} {Q : AQ} (hl : H l = some o) (ho : o.view = .idict es) (hd : o.isD = true) (h : Q ((es.lookup i).getD d) H) : WB G D (.builtin "dict.get") [.ref l, .int i, d] H Q where
 go := fun c ok mm news s St vals hv Q' E k => by
   (refine exEEEAAA (list3 hv) fun v w x zq0 h1 h2 h3 => ?_; rcases zq0 with rfl)
   have : v = .ref l := h1
   subst this
   (refine exE (h2) fun t zq0 => ?_; clear h2; rcases zq0 with rfl)
   (refine exEAA (St.get hl) fun ob hm ho2 hg => ?_)
   have ho3 := ho2.view
   rw [ho] at ho3
   (refine exEA (ho3) fun kvs hd2 hr => ?_; clear ho3)
   refine kdg_get2 St.nw hm hd2 (St.lo l _ hl hd) (intKind_is _ _ _ _) _ rfl (k _ ((es.lookup i).getD d) H news s.heap _ St Keep.rfl ?_ h)
   cases e : es.lookup i with
   | none => rw [hr.none e]; exact h3
   | some a => (refine exEA (hr.at e) fun v e1 e2 => ?_); rw [e1]; exact e2
theorem WB.getS {l : Addr} {o : AO} {es : List (Str × AV)} {i : Str} {d : AV} {Q : AQ} (hl : H l = some o) (ho : o.view = .sdict es) (hd : o.isD = true) (h : Q ((es.lookup i).getD d) H) : WB G D (.builtin "dict.get") [.ref l, .str i, d] H Q where
 go := fun c ok mm news s St vals hv Q' E k => by
   (refine exEEEAAA (list3 hv) fun v w x zq0 h1 h2 h3 => ?_; rcases zq0 with rfl)
   have : v = .ref l := h1
   subst this
   (refine exE (h2) fun t zq0 => ?_; clear h2; rcases zq0 with rfl)
   (refine exEAA (St.get hl) fun ob hm ho2 hg => ?_)
   have ho3 := ho2.view
   rw [ho] at ho3
   (refine exEA (ho3) fun kvs hd2 hr => ?_; clear ho3)
   refine kdg_get2 St.nw hm hd2 (St.lo l _ hl hd) (strKind_is _ _ _ _) _ rfl (k _ ((es.lookup i).getD d) H news s.heap _ St Keep.rfl ?_ h)
   cases e : es.lookup i with
   | none => rw [hr.none e]; exact h3
   | some a => (refine exEA (hr.at e) fun v e1 e2 => ?_); rw [e1]; exact e2
theorem WE.dict0I {pos : Pos} {Q : AQ} (h : ∀ l, H l = none → Q (.ref l) (H.put l (.idict []))) : WE G D cs cl (.Dict [] [] pos) m H Q where
 go := fun c h1 h2 ok mm news s St lr Q' E k => by
   refine newDict_K St.fr St.nw ok.top.nolimit fun d h' o F N lt lo _ _ hi _ => ?_
   (refine exA (St.pushO (o := .idict []) F N (lt_ne lt) ⟨[], hi, (PR_nil ..).mpr rfl⟩ (fun _ => lo)) fun S2 K2 => ?_)
   exact k (.ref d) (.ref d) _ _ _ _ S2 K2 rfl (h d (St.off (lt_ne lt)))
theorem WE.dict0S {pos : Pos} {Q : AQ} (h : ∀ l, H l = none → Q (.ref l) (H.put l (.sdict []))) : WE G D cs cl (.Dict [] [] pos) m H Q where
 go := fun c h1 h2 ok mm news s St lr Q' E k => by
   refine newDict_K St.fr St.nw ok.top.nolimit fun d h' o F N lt lo hs _ _ _ => ?_
   (refine exA (St.pushO (o := .sdict []) F N (lt_ne lt) ⟨[], hs, (PR_nil ..).mpr rfl⟩ (fun _ => lo)) fun S2 K2 => ?_)
   exact k (.ref d) (.ref d) _ _ _ _ S2 K2 rfl (h d (St.off (lt_ne lt)))
noncomputable def putD {κ : Type} [DecidableEq κ] (k : κ) (a : AV) : List (κ × AV) → List (κ × AV)
 | [] => [(k, a)]
 | (q, b) :: r => if q = k then (q, a) :: r else (q, b) :: putD k a r
theorem putD_n {κ : Type} [DecidableEq κ] (k : κ) (a : AV) : putD k a [] = [(k, a)] := rfl
theorem putD_c {κ : Type} [DecidableEq κ] (k q : κ) (a b : AV) (r) : putD k a ((q, b) :: r) = if q = k then (q, a) :: r else (q, b) :: putD k a r := rfl
theorem putD_keys {κ : Type} [DecidableEq κ] (k : κ) (a : AV) : ∀ (es : List (κ × AV)), k ∉ es.map (·.1) → putD k a es = es ++ [(k, a)] := by
 intro zz
 induction zz with
 | nil =>
   intro _
   exact rfl
 | cons qx r ih =>
   obtain ⟨q, b⟩ := qx
   intro h
   rw [List.map_cons, List.mem_cons, not_or] at h
   rw [putD_c, if_neg fun z => h.1 z.symm, ih h.2]; rfl
theorem PR.map {κ : Type} [DecidableEq κ] {news : Led} {k : κ} {a : AV} {v : Value} (hv : VR news a v) : ∀ {es : List (κ × AV)} {l : List (κ × Value)}, PR news es l → (l.map (·.1)).Nodup → k ∈ l.map (·.1) → PR news (putD k a es) (l.map fun kv => if kv.1 = k then (kv.1, v) else kv) := by
 intro zz
 induction zz with
 | nil =>
   intro l h _ e
   rw [(PR_nil ..).mp h] at e; cases e
 | cons qx r ih =>
   obtain ⟨q, b⟩ := qx
   intro l h nd e
   (refine exEEAA ((PR_cons ..).mp h) fun w l' zq0 h1 h2 => ?_; rcases zq0 with rfl)
   rw [List.map_cons, List.nodup_cons] at nd
   rw [putD_c, List.map_cons]
   by_cases z : q = k
   · subst z
     rw [if_pos rfl, if_pos rfl]
     refine (PR_cons ..).mpr ⟨v, _, rfl, hv, ?_⟩
     have : l'.map (fun kv => if kv.1 = q then (kv.1, v) else kv) = l' := by
       conv => rhs; rw [← List.map_id l']
       refine List.map_congr_left fun kv hkv => ?_
       have ne : kv.1 ≠ q := fun z => nd.1 (by rw [← z]; exact List.mem_map_of_mem (f := (·.1)) hkv)
       rw [if_neg ne]; rfl
     rw [this]; exact h2
   · rw [if_neg z, if_neg (by simpa using z)]
     refine (PR_cons ..).mpr ⟨w, _, rfl, h1, ih h2 nd.2 ?_⟩
     rw [List.map_cons, List.mem_cons] at e
     exact e.resolve_left fun x => z x.symm
theorem PR.snoc {κ : Type} {news : Led} {k : κ} {a : AV} {v : Value} (hv : VR news a v) : ∀ {es : List (κ × AV)} {l : List (κ × Value)}, PR news es l → PR news (es ++ [(k, a)]) (l ++ [(k, v)]) := by
 intro zz
 induction zz with
 | nil =>
   intro l h
   rw [(PR_nil ..).mp h]; exact (PR_cons ..).mpr ⟨v, [], rfl, hv, (PR_nil ..).mpr rfl⟩
 | cons qx r ih =>
   obtain ⟨q, b⟩ := qx
   intro l h
   (refine exEEAA ((PR_cons ..).mp h) fun w l' zq0 h1 h2 => ?_; rcases zq0 with rfl)
   exact (PR_cons ..).mpr ⟨w, _, rfl, h1, ih h2⟩
set_option tactic.hygienic true in
theorem PR.stored {κ : Type} [DecidableEq κ] {news : Led} {k : κ} {a : AV} {v : Value} (hv : VR news a v) {es : List (κ × AV)} {l : List (κ × Value)} (h : PR news es l) (nd : (l.map (·.1)).Nodup) : PR news (putD k a es) (stored l k v) := by
 unfold PySem.stored
 split
 · rename_i q
   refine h.map hv nd ?_
   (refine exEA (List.any_eq_true.mp q) fun x hx e => ?_)
   exact List.mem_map.mpr ⟨x, hx, by simpa using e⟩
 · rename_i q
   rw [putD_keys]
   · exact h.snoc hv
   · rw [← h.keys]
     intro z
     (refine exEA (List.mem_map.mp z) fun x hx e => ?_)
     exact q (List.any_eq_true.mpr ⟨x, hx, by simpa using e⟩)
structure WSt (G : Gl) (D : Nat) (a i v : AV) (H : AHeap) (Q : AHeap → Prop) : Prop where
 go : ∀ c : Cx, c.Ok G D → ∀ mm news s, St G c.h₀ c.L mm H news s.heap → ∀ va vi vv, VR news a va → VR news i vi → VR news v vv → ∀ (Q' : Unit → Shared → Prop) E,
   (∀ H' news' h' tk, St G c.h₀ c.L mm H' news' h' → Keep H H' news news' → Q H' → Q' () { s with heap := h', toks := tk }) →
   wpAny (model G.prog G.w) c.A (setItem va vi vv) Q' E s
theorem WSt.idict {l : Addr} {es : List (Int × AV)} {i : Int} {a : AV} {Q : AHeap → Prop} (hl : H l = some (.idict es)) (hz : es.length ≤ 16000000) (h : Q (H.put l (.idict (putD i a es)))) : WSt G D (.ref l) (.int i) a H Q where
 go := fun c ok mm news s S va vi vv ha hi hv Q' E k => by
   have : va = .ref l := ha
   subst this
   (refine exE (hi) fun t zq0 => ?_; clear hi; rcases zq0 with rfl)
   (refine exEAA (S.get hl) fun ob hm zq0 hg => ?_; refine exEA (zq0) fun kvs hd hr => ?_; clear zq0)
   (refine exEA (updF_of S.nd hm) fun g U z => ?_)
   refine kda_set S.fr S.nw U hd (intKind_is _ _ _ _) (by rw [hr.length, sizeLine_eq]; (exact Nat.le_trans (by assumption) (Nat.le_of_ble_eq_true rfl))) fun h' o' F N hd' => ?_
   (refine exAAA (z o') fun hk u1 u2 _ => ?_)
   have nd : (kvs.map (·.1)).Nodup := let ⟨_, _, _, _, _, _, e⟩ := hd; e
   (refine exAA (S.upd (o' := .idict (putD i a es)) hl hm F N hk u1 u2 ⟨_, hd', hr.stored hv nd⟩) fun S' K' _ => ?_)
   exact k _ _ h' _ S' K' h
theorem WSt.sdict {l : Addr} {es : List (Str × AV)} {i : Str} {a : AV} {Q : AHeap → Prop} (hl : H l = some (.sdict es)) (hz : es.length ≤ 16000000) (h : Q (H.put l (.sdict (putD i a es)))) : WSt G D (.ref l) (.str i) a H Q where
 go := fun c ok mm news s S va vi vv ha hi hv Q' E k => by
   have : va = .ref l := ha
   subst this
   (refine exE (hi) fun t zq0 => ?_; clear hi; rcases zq0 with rfl)
   (refine exEAA (S.get hl) fun ob hm zq0 hg => ?_; refine exEA (zq0) fun kvs hd hr => ?_; clear zq0)
   (refine exEA (updF_of S.nd hm) fun g U z => ?_)
   refine kda_set S.fr S.nw U hd (strKind_is _ _ _ _) (by rw [hr.length, sizeLine_eq]; (exact Nat.le_trans (by assumption) (Nat.le_of_ble_eq_true rfl))) fun h' o' F N hd' => ?_
   (refine exAAA (z o') fun hk u1 u2 _ => ?_)
   have nd : (kvs.map (·.1)).Nodup := let ⟨_, _, _, _, _, _, e⟩ := hd; e
   (refine exAA (S.upd (o' := .sdict (putD i a es)) hl hm F N hk u1 u2 ⟨_, hd', hr.stored hv nd⟩) fun S' K' _ => ?_)
   exact k _ _ h' _ S' K' h
theorem VRs.set {news : Led} {a : AV} {v : Value} (hv : VR news a v) : ∀ {xs : List AV} {vs : List Value} {i : Nat}, VRs news xs vs → VRs news (xs.set i a) (vs.set i v) := by
 intro zz
 induction zz with
 | nil =>
   intro vs i h
   rw [(VRs_nil ..).mp h]; exact (VRs_nil ..).mpr rfl
 | cons x xs ih =>
   intro vs i h
   (refine exEEAA ((VRs_cons ..).mp h) fun w r zq0 h1 h2 => ?_; rcases zq0 with rfl)
   cases i with
   | zero => exact (VRs_cons ..).mpr ⟨v, r, rfl, hv, h2⟩
   | succ i => exact (VRs_cons ..).mpr ⟨w, _, rfl, h1, ih h2⟩
theorem WSt.list {l : Addr} {xs : List AV} {i : Int} {a : AV} {Q : AHeap → Prop} (hl : H l = some (.list xs)) (h0 : 0 ≤ i) (hi : i < xs.length) (hz : xs.length ≤ 16000000) (h : Q (H.put l (.list (xs.set i.toNat a)))) : WSt G D (.ref l) (.int i) a H Q where
 go := fun c ok mm news s S va vi vv ha hi' hv Q' E k => by
   have : va = .ref l := ha
   subst this
   (refine exE (hi') fun t zq0 => ?_; clear hi'; rcases zq0 with rfl)
   (refine exEAA (S.get hl) fun ob hm zq0 hg => ?_; refine exEEA (zq0) fun vs n zq1 hvs => ?_; clear zq0; rcases zq1 with rfl)
   (refine exEAAAA (upd_of (listOf (vs.set i.toNat vv).toArray n) S.nd hm) fun n' U hk u1 u2 _ => ?_)
   (refine exEEAAA (U.split) fun pre post zq0 zq1 a1 b1 => ?_; rcases zq0 with rfl; rcases zq1 with rfl)
   have z := S.nw (l, listOf vs.toArray n) hm
   refine ki_setAt z.1 h0 (by lia) (by rw [List.size_toArray, hvs.length]; exact hi) ?_
   have N' := ki_turn (h := s.heap) (fun x => x.setIfInBounds i.toNat vv) (its' := (vs.set i.toNat vv).toArray) (n' := n) S.nw a1 b1 (by apply Array.toList_inj.mp; simp) (by simp)
   (refine exAA (S.upd (o' := .list (xs.set i.toNat a)) hl hm (S.fr.change (Heap.SameBut.update ..) z.2.1 z.2.2) N' hk u1 u2 ⟨_, n, rfl, hvs.set hv⟩) fun S' K' _ => ?_)
   exact k _ _ _ _ S' K' h
theorem W1.assignItem {e o i : Expr} {sp pos : Pos} {Q : Fl → Loc → AHeap → Prop}
   (h : WE G D cs cl e m H fun v H1 => WE G D cs cl o m H1 fun a H2 => WE G D cs cl i m H2 fun b H3 => WSt G D a b v H3 fun H4 => Q .next m H4)
   (hs : ∀ env : Env, swapsWith e (some (.Subscript o i sp)) pos.line env = pure false := by intro _; rfl) : W1 G D cs cl (.Assign [.Subscript o i sp] e pos) m H Q where
 go := fun c h1 h2 ok mm news s S lr Q' E k => by
   refine wpAny_Assign_Subscript (h.go c h1 h2 ok mm news s S lr _ E fun vv v H1 n1 h1' tk1 S1 K1 V1 w1 => ?_) (hs _)
   refine w1.go c h1 h2 ok mm n1 _ S1 (LR.keep S K1 lr) _ E fun va a H2 n2 h2' tk2 S2 K2 V2 w2 => ?_
   refine w2.go c h1 h2 ok mm n2 _ S2 (LR.keep S (K1.trans K2) lr) _ E fun vi b H3 n3 h3' tk3 S3 K3 V3 w3 => ?_
   refine w3.go c ok mm n3 _ S3 va vi vv (S2.vr K3 V2) V3 (S1.vr (K2.trans K3) V1) _ E fun H4 n4 h4 tk4 S4 K4 q => ?_
   have K := ((K1.trans K2).trans K3).trans K4
   exact k .next .next m mm H4 n4 h4 tk4 S4 (LR.keep S K lr) K rfl q
theorem WTr.list {l : Addr} {o : AO} {xs : List AV} {Q : Bool → AHeap → Prop} (hl : H l = some o) (ho : o.view = .list xs) (hz : xs.length ≤ 16000000) (h : Q (decide (xs.length ≠ 0)) H) : WTr G D (.ref l) H Q where
 go := fun c ok mm news s S v hv Q' E k => by
   have : v = .ref l := hv
   subst this
   (refine exEAA (S.get hl) fun ob hm ho2 hg => ?_)
   have ho3 := ho2.view
   rw [ho] at ho3
   (refine exEEA (ho3) fun vs n zq0 hvs => ?_; clear ho3; rcases zq0 with rfl)
   refine wpAny_truthy_list ⟨_, hg, rfl, n, rfl⟩ (by rw [List.size_toArray, hvs.length]; lia) ?_
   have : (!vs.toArray.isEmpty) = decide (xs.length ≠ 0) := by
     rw [← hvs.length]
     cases vs <;> (rfl)
   rw [this]
   exact k _ H news s.heap _ S Keep.rfl h
end
section
variable {G : Gl} {D : Nat} {cs : Scope} {cl : List (Str × Addr)} {m : Loc} {H : AHeap}
theorem VR_tup2 {news : Led} {a b : AV} {v : Value} (h : VR news (.tup [a, b]) v) : ∃ t va vb, v = .ref t ∧ (t, tupObj [va, vb]) ∈ news ∧ VR news a va ∧ VR news b vb := by
 (refine exEEAA ((VR_tup ..).mp h) fun t vs zq0 h1 h2 => ?_; rcases zq0 with rfl)
 (refine exEEAA ((VRs_cons ..).mp h2) fun va r zq0 h3 h4 => ?_; rcases zq0 with rfl)
 (refine exEEAA ((VRs_cons ..).mp h4) fun vb r' zq0 h5 h6 => ?_; rcases zq0 with rfl)
 cases (VRs_nil ..).mp h6
 exact ⟨t, va, vb, rfl, h1, h3, h5⟩
theorem W1.assign2 {x y : Str} {xp yp tp : Pos} {n : Nat} {e : Expr} {pos : Pos} {Q : Fl → Loc → AHeap → Prop} (h : WE G D cs cl e m H fun a H' => ∃ u v, a = .tup [u, v] ∧ Q .next ((y, v) :: (x, u) :: m) H')
   (hx : cs.names.lookup x = some .local := by rfl) (hy : cs.names.lookup y = some .local := by rfl)
   (hs : ∀ env : Env, swapsWithSole [.Tuple [.Name x xp, .Name y yp] n tp] e pos.line env = pure false := by intro _; rfl)
   (hw : ∀ env : Env, swappedStores [.Tuple [.Name x xp, .Name y yp] n tp] e env = pure none := by intro _; rfl) :
   W1 G D cs cl (.Assign [.Tuple [.Name x xp, .Name y yp] n tp] e pos) m H Q where
 go := fun c h1 h2 ok mm news s S lr Q' E k => by
   subst h1
   refine Assign_Tuple (h.go c rfl h2 ok mm news s S lr _ E fun va a H1 n1 h' tk S1 K1 V1 w => ?_) (hs _) (hw _)
   (refine exEEA (w) ?_; clear w; intro u v zq0 w; rcases zq0 with rfl)
   (refine exEEEAAA (VR_tup2 V1) fun t vu vv zq0 t1 t2 t3 => ?_; rcases zq0 with rfl)
   refine unpackN_ (s := { s with heap := h', toks := tk }) S1.fr S1.nw (S1.nw.isTup t1) ok.handled rfl rfl fun h2 F2 N2 => ?_
   refine wpAny_bind (wpAny_holding (assign_Name (storeX_L (s := { s with heap := h2, toks := tk }) F2 N2 (fun h3 F3 N3 => ?_) ok.kind hx)))
   refine wpAny_bind (wpAny_holding (assign_Name (storeX_L (s := { s with heap := h3, toks := tk + 1 }) F3 N3 (fun h4 F4 N4 => ?_) ok.kind hy)))
   exact wpAny_pure (k .next .next _ _ H1 n1 h4 _ ((S1.store F4 N4)) (((LR.keep S K1 lr).put t2).put t3) K1 rfl w)
theorem W1.swap2 {x y : Str} {xp yp tp : Pos} {n : Nat} {e : Expr} {pos : Pos} {Q : Fl → Loc → AHeap → Prop} (h : WE G D cs cl e m H fun a H' => ∃ u v, a = .tup [u, v] ∧ Q .next ((x, u) :: (y, v) :: m) H')
   (hx : cs.names.lookup x = some .local := by rfl) (hy : cs.names.lookup y = some .local := by rfl)
   (hs : ∀ env : Env, swapsWithSole [.Tuple [.Name x xp, .Name y yp] n tp] e pos.line env = pure false := by intro _; rfl)
   (hw : ∀ c : Cx, c.cs = cs → swappedStores [.Tuple [.Name x xp, .Name y yp] n tp] e c.env = pure (some [x, y]) := by intro c h; cases c; cases h; rfl) :
   W1 G D cs cl (.Assign [.Tuple [.Name x xp, .Name y yp] n tp] e pos) m H Q where
 go := fun c h1 h2 ok mm news s S lr Q' E k => by
   have hw' := hw c h1
   subst h1
   refine Assign_Tuple_swapped (names := [x, y]) (h.go c rfl h2 ok mm news s S lr _ E fun va a H1 n1 h' tk S1 K1 V1 w => ?_) (hs _) hw'
   (refine exEEA (w) ?_; clear w; intro u v zq0 w; rcases zq0 with rfl)
   (refine exEEEAAA (VR_tup2 V1) fun t vu vv zq0 t1 t2 t3 => ?_; rcases zq0 with rfl)
   refine unpackItemsN_ (s := { s with heap := h', toks := tk }) S1.fr S1.nw (S1.nw.isTup t1) ok.handled rfl fun h2 F2 N2 => ?_
   refine wpAny_bind (wpAny_holding (bindName_ (storeX_L (s := { s with heap := h2, toks := tk }) F2 N2 (fun h3 F3 N3 => ?_) ok.kind hy)))
   refine wpAny_bind (wpAny_holding (bindName_ (storeX_L (s := { s with heap := h3, toks := tk + 1 }) F3 N3 (fun h4 F4 N4 => ?_) ok.kind hx)))
   exact wpAny_pure (k .next .next _ _ H1 n1 h4 _ ((S1.store F4 N4)) (((LR.keep S K1 lr).put t3).put t2) K1 rfl w)
theorem WB.listT {xs : List AV} {Q : AQ} (hz : xs.length ≤ 16000000) (h : ∀ l, H l = none → Q (.ref l) (H.put l (.list xs))) : WB G D (.type "list") [.tup xs] H Q where
 go := fun c ok mm news s S vals hv Q' E k => by
   (refine exEA (list1 hv) fun v zq0 h1 => ?_; rcases zq0 with rfl)
   (refine exEEAA ((VR_tup ..).mp h1) fun t vs zq0 hm hvs => ?_; rcases zq0 with rfl)
   refine kup_listOfT (its2 := vs.toArray) (zs := vs) S.fr S.nw hm (by simp) (fun d c' h' F N lt => ?_) (by simp only [hvs.length, sizeLine_eq]; lia)
   (refine exA (S.pushO (o := .list xs) F N (lt_ne lt) ⟨vs, c', rfl, hvs⟩) fun S2 K2 => ?_)
   exact k (.ref d) (.ref d) _ _ _ _ S2 K2 rfl (h d (S.off (lt_ne lt)))
end
section
variable {G : Gl} {D : Nat} {cs : Scope} {cl : List (Str × Addr)} {m : Loc} {H : AHeap}
theorem VRs.ints {news : Led} : ∀ {ns : List Int} {vs : List Value}, VRs news (ns.map AV.int) vs → IntsAre vs ns := by
 intro zz
 induction zz with
 | nil =>
   intro vs h
   rw [(VRs_nil ..).mp h]; exact .nil
 | cons n ns ih =>
   intro vs h
   (refine exEEAA ((VRs_cons ..).mp h) fun v r zq0 h1 h2 => ?_; rcases zq0 with rfl)
   (refine exE (h1) fun t zq0 => ?_; clear h1; rcases zq0 with rfl)
   exact .cons _ _ (ih h2)
theorem WCmp.inList {l : Addr} {ns : List Int} {i : Int} {Q : Bool → AHeap → Prop} (hl : H l = some (.list (ns.map AV.int))) (h : Q (ns.any (· == i)) H) : WCmp G D .In (.int i) (.ref l) H Q where
 go := fun c ok mm news s St va vb ha hb Q' E k => by
   have : vb = .ref l := hb
   subst this
   (refine exE (ha) fun t zq0 => ?_; clear ha; rcases zq0 with rfl)
   (refine exEAA (St.get hl) fun ob hm zq0 hg => ?_; refine exEEA (zq0) fun vs n zq1 hvs => ?_; clear zq0; rcases zq1 with rfl)
   exact in_list_ints (St.nw.isList hm) hvs.ints (k _ H news s.heap _ St Keep.rfl h)
end
theorem revOwner : Manifest.owners.lookup (String.ofList ['d', 'e', 's', 'r', 'e', 'v', 'e', 'r'].reverse) = some Manifest.sig_reversed := by kernel_rfl
theorem revSlotNext : Slot "reversed" "__next__" "reversed.__next__" :=
 .of (owner := "reversed") (n := "__next__") (by rw [typeLookup_type, builtinLookup_eq_fast]; kernel_rfl) (by decide +kernel) (by decide +kernel) (by decide +kernel)
   (by first | exact .inl (by decide +kernel) | exact .inr (by decide +kernel)) (by rw [isSubtype_type]; kernel_rfl)
theorem revEntryNext : entryFor table "reversed.__next__" = some Builtin.«reversed.__next__» := entryFor_of_tree (by kernel_rfl)
theorem revArgsNext (a : Value) : argsOk "reversed.__next__" ⟨[a], []⟩ := by
 unfold argsOk; rw [signature?_of (id := "reversed.__next__") (n := ['_', '_', 't', 'x', 'e', 'n', '_', '_']) (o := ['d', 'e', 's', 'r', 'e', 'v', 'e', 'r']) (by kernel_rfl) revOwner]; kernel_rfl
theorem revSlotIter : Slot "reversed" "__iter__" "reversed.__iter__" :=
 .of (owner := "reversed") (n := "__iter__") (by rw [typeLookup_type, builtinLookup_eq_fast]; kernel_rfl) (by decide +kernel) (by decide +kernel) (by decide +kernel)
   (by first | exact .inl (by decide +kernel) | exact .inr (by decide +kernel)) (by rw [isSubtype_type]; kernel_rfl)
theorem revArgsIter (a : Value) : argsOk "reversed.__iter__" ⟨[a], []⟩ := by
 unfold argsOk; rw [signature?_of (id := "reversed.__iter__") (n := ['_', '_', 'r', 'e', 't', 'i', '_', '_']) (o := ['d', 'e', 's', 'r', 'e', 'v', 'e', 'r']) (by kernel_rfl) revOwner]; kernel_rfl
theorem revEntryIter : entryFor table "reversed.__iter__" = some Builtin.«dict_keyiterator.__iter__» :=
 entryFor_alias (id' := "dict_keyiterator.__iter__") (by kernel_rfl) (by first | rfl | decide +kernel | (unfold String.splitOn; simp +decide [String.splitOnAux])) (by decide +kernel) (by kernel_rfl)
theorem revSlotHint : Slot "reversed" "__length_hint__" "reversed.__length_hint__" :=
 .of (owner := "reversed") (n := "__length_hint__") (by rw [typeLookup_type, builtinLookup_eq_fast]; kernel_rfl) (by decide +kernel) (by decide +kernel) (by decide +kernel)
   (by first | exact .inl (by decide +kernel) | exact .inr (by decide +kernel)) (by rw [isSubtype_type]; kernel_rfl)
theorem revEntryHint : entryFor table "reversed.__length_hint__" = some Builtin.«reversed.__length_hint__» := entryFor_of_tree (by kernel_rfl)
theorem revArgsHint (a : Value) : argsOk "reversed.__length_hint__" ⟨[a], []⟩ := by
 unfold argsOk; rw [signature?_of (id := "reversed.__length_hint__") (n := ['_', '_', 't', 'n', 'i', 'h', '_', 'h', 't', 'g', 'n', 'e', 'l', '_', '_']) (o := ['d', 'e', 's', 'r', 'e', 'v', 'e', 'r']) (by kernel_rfl) revOwner]; kernel_rfl
theorem revNoLen : typeLookup (.type "reversed") "__len__" = pure none := by rw [typeLookup_type, builtinLookup_eq_fast]; kernel_rfl
theorem lriNoLen : typeLookup (.type "list_reverseiterator") "__len__" = pure none := by rw [typeLookup_type, builtinLookup_eq_fast]; kernel_rfl
theorem lriSlotHint : Slot "list_reverseiterator" "__length_hint__" "list_reverseiterator.__length_hint__" :=
 .of (owner := "list_reverseiterator") (n := "__length_hint__") (by rw [typeLookup_type, builtinLookup_eq_fast]; kernel_rfl) (by decide +kernel) (by decide +kernel) (by decide +kernel)
   (by first | exact .inl (by decide +kernel) | exact .inr (by decide +kernel)) (by rw [isSubtype_type]; kernel_rfl)
theorem tupNoRev : typeLookup (.type "tuple") "__reversed__" = pure none := by rw [typeLookup_type, builtinLookup_eq_fast]; kernel_rfl
theorem subTupDict : isSubtype (.type "tuple") (.type "dict") = pure false := by rw [isSubtype_type]; kernel_rfl
theorem subRevRev : isSubtype (.type "reversed") (.type "reversed") = pure true := by rw [isSubtype_type]; kernel_rfl
theorem subLriLri : isSubtype (.type "list_reverseiterator") (.type "list_reverseiterator") = pure true := by rw [isSubtype_type]; kernel_rfl
theorem called_rev : TypeCalled "reversed" "reversed.__new__" "object.__init__" :=
 ⟨by decide +kernel, F.create_reversed, ⟨_, _, F.mro_reversed⟩, F.made_reversed, F.plain_reversed_new, subRevRev,
  .of (owner := "object") (n := "__init__") (by rw [typeLookup_type, builtinLookup_eq_fast]; kernel_rfl) (by decide +kernel) (by decide +kernel) (by decide +kernel)
   (by first | exact .inl (by decide +kernel) | exact .inr (by decide +kernel)) (by rw [isSubtype_type]; kernel_rfl)⟩
section
variable {prog : Program} {w : World} {A : Around} {E : Value → Shared → Prop} {s : Shared}
theorem code_revT_new {t : Addr} {items : Array Value} {Q₁ : Value → Shared → Prop} (ht : IsTup s.heap t items) (hz : (items.size : Int) < 2 ^ 63)
   (h : ∀ tk, Q₁ (.ref s.heap.objs.size) { s with heap := s.heap.push (revTO t ((items.size : Int) - 1)), toks := tk }) :
   codeAny (model prog w) A (.call (.builtin "reversed.__new__") ⟨[.type "reversed", .ref t], []⟩) (wants Q₁ E) s := by
 refine codeAny_of_tree ?_
 show wpAny _ A.in1 (do checkBuiltinCall "reversed.__new__" ⟨[.type "reversed", .ref t], []⟩; again (.builtin "reversed.__new__" ⟨[.type "reversed", .ref t], []⟩)) _ _ s
 refine wpAny_bind (wpAny_of_eq (F.newCall_reversed_1 _) (wpAny_pure ⟨plainId_quiet F.plain_reversed_new _, codeAny_builtin F.entry_reversed_new ?_⟩))
 rw [Around.under_plainId F.plain_reversed_new _]
 unfold Builtin.«reversed.__new__»
 refine wpAny_bind (wpAny_of_eq (newClass_reversed _) ?_)
 try dsimp only
 refine wpAny_bind (wpAny_of_eq (a := ()) (by first | rfl | kernel_rfl) ?_)
 refine wpAny_bind (wpAny_of_eq (a := ()) (by first | rfl | kernel_rfl) ?_)
 try dsimp only
 refine wpAny_bind (wpAny_specialOf ht.typeIs tupNoRev ?_)
 try dsimp only
 refine wpAny_bind (wpAny_bind (wpAny_isInstance ht.typeIs subTupDict ?_))
 show wpAny _ _ (specialOf (.ref t) "__getitem__" >>= _) _ _ _
 refine wpAny_bind (wpAny_specialOf ht.typeIs PySem.F.slot_tuple_getitem.lookup ?_)
 try dsimp only
 rw [if_pos (by decide +kernel)]
 refine wpAny_pure ?_
 rw [if_neg (by (exact Bool.false_ne_true))]
 refine wpAny_bind (PyProof.Rows.len_tuple ht hz ?_)
 refine wpAny_bind (wpAny_pure ?_)
 dsimp only
 show wpAny _ _ (newObj (.type "reversed") (.fields #[.ref t, rawInt ((items.size : Int) - 1)]) >>= _) _ _ _
 refine wpAny_bind (wpAny_newObj_type ?_)
 exact wpAny_pure (h _)
theorem call_revT {t : Addr} {items : Array Value} {Q : Value → Shared → Prop} (ht : IsTup s.heap t items) (hz : (items.size : Int) < 2 ^ 63)
   (h : ∀ tk, Q (.ref s.heap.objs.size) { s with heap := s.heap.push (revTO t ((items.size : Int) - 1)), toks := tk }) : wpAny (model prog w) A (call (.type "reversed") [.ref t]) Q E s := by
 refine callType_codes (Q₁ := fun obj s₁ => obj = .ref s.heap.objs.size ∧ ∃ tk, s₁ = { s with heap := s.heap.push (revTO t ((items.size : Int) - 1)), toks := tk }) called_rev (F.typeCall_reversed_1 _) F.entry_object_init (code_revT_new ht hz fun tk => ⟨rfl, tk, rfl⟩) ?_
 (intro obj; intro s₁; intro zq0; refine exAE (zq0) fun zq1 tk zq2 => ?_; clear zq0; rcases zq1 with rfl; rcases zq2 with rfl)
 have hT : Shared.TypeIs { s with heap := s.heap.push (revTO t ((items.size : Int) - 1)), toks := tk } (.ref s.heap.objs.size) "reversed" := ⟨_, Heap.get?_push_size _ rfl, rfl⟩
 exact ⟨hT, F.args_object_init_2 _ _, object_init_meets called_rev.init.lookup called_rev.made (by decide) _ _ _ _ _ ⟨hT, rfl, h _⟩⟩
end
section
variable {prog : Program} {w : World} {A : Around} {E : Value → Shared → Prop} {s : Shared}
noncomputable def IsRevT (h : Heap) (a t : Addr) (i : Int) : Prop := ∃ o, h.get? a = some o ∧ o.cls = .type "reversed" ∧ o.data = .fields #[.ref t, rawInt i]
theorem IsRevT.typeIs {a t : Addr} {i : Int} (x : IsRevT s.heap a t i) : s.TypeIs (.ref a) "reversed" := let ⟨o, ho, hc, _⟩ := x; ⟨o, ho, hc⟩
theorem IsRevT.at {h h' : Heap} {a t : Addr} {i : Int} (x : IsRevT h a t i) (e : ∀ o, h.get? a = some o → h'.get? a = some o) : IsRevT h' a t i := let ⟨o, ho, r⟩ := x; ⟨o, e _ ho, r⟩
theorem revT_next {it t : Addr} {i : Nat} {items : Array Value} {x : Value} {Q : Option Value → Shared → Prop} (hit : IsRevT s.heap it t (i : Int)) (ht : IsTup s.heap t items) (hz : (items.size : Int) < 2 ^ 62) (hx : items[i]? = some x)
   (hQ : ∀ h' tk, IsRevT h' it t ((i : Int) - 1) → Heap.SameBut it s.heap h' → Q (some x) { s with heap := h', toks := tk }) : wpAny (model prog w) A (pyNext (.ref it)) Q E s := by
 (refine exEAA (id hit) fun o ho hc hd => ?_)
 have hi : i < items.size := (Array.getElem?_eq_some_iff.mp hx).1
 unfold pyNext
 refine wpAny_bind (wpAny_attempt (wpAny_callSpecial?_slot (name := Str.ofString "__next__") hit.typeIs revSlotNext
   (wpAny_call_entry revSlotNext hit.typeIs revEntryNext ?_ (revArgsNext _))))
 unfold Builtin.«reversed.__next__»
 refine wpAny_bind (wpAny_of_eq (a := (Value.ref it, [])) rfl ?_)
 try dsimp only
 refine wpAny_bind (wpAny_field ho hd (x := .ref t) rfl ?_)
 refine wpAny_bind (wpAny_field ho hd (x := rawInt (i : Int)) rfl ?_)
 show wpAny _ _ (if (i : Int) < 0 then _ else _) _ _ s
 rw [if_neg (by lia)]
 refine wpAny_bind (wpAny_specialOf ht.typeIs PySem.F.slot_tuple_getitem.lookup ?_)
 rw [if_neg (by (exact Bool.false_ne_true))]
 refine wpAny_bind (wpAny_bind (wpAny_fresh (wpAny_pure ?_)))
 refine wpAny_bind (wpAny_attempt (PyProof.Rows.getItem_tuple (x := x) (k := (i : Int)) ⟨_, (ht.choose_spec).1, (ht.choose_spec).2.1, (ht.choose_spec).2.2⟩ (by (exact Int.natCast_nonneg _)) (by lia) (seqIndex_nat (by (exact Int.natCast_nonneg _)) (by simpa using hi)) (by simpa using hx) ?_))
 dsimp only
 refine wpAny_bind (wpAny_field ho hd (x := rawInt (i : Int)) rfl ?_)
 dsimp only [rawInt]
 refine wpAny_bind (wpAny_setField ho hd (by (exact Nat.le_of_ble_eq_true rfl)) ?_)
 refine wpAny_pure ⟨x, rfl, wpAny_pure (hQ _ _ ?_ (Heap.SameBut.update ..))⟩
 exact ⟨_, Heap.get?_update_self _ ho (Obj.isFreed_of_fields (Obj.data_mapFields hd _)), (Obj.cls_mapFields ..).trans hc, by
   rw [Obj.data_mapFields hd]; (rfl)⟩
theorem revT_end {it t : Addr} {Q : Option Value → Shared → Prop} (hh : A.handled = none) (hit : IsRevT s.heap it t (-1))
   (hQ : ∀ h', Heap.ExtBut it s.heap h' → Q none { s with heap := h' }) : wpAny (model prog w) A (pyNext (.ref it)) Q E s := by
 (refine exEAA (id hit) fun o ho hc hd => ?_)
 unfold pyNext
 refine wpAny_bind (wpAny_attempt (wpAny_callSpecial?_slot (name := Str.ofString "__next__") hit.typeIs revSlotNext
   (wpAny_call_entry revSlotNext hit.typeIs revEntryNext ?_ (revArgsNext _))))
 unfold Builtin.«reversed.__next__»
 refine wpAny_bind (wpAny_of_eq (a := (Value.ref it, [])) rfl ?_)
 try dsimp only
 refine wpAny_bind (wpAny_field ho hd (x := .ref t) rfl ?_)
 refine wpAny_bind (wpAny_field ho hd (x := rawInt (-1)) rfl ?_)
 show wpAny _ _ (if (-1 : Int) < 0 then _ else _) _ _ s
 rw [if_pos (by decide)]
 refine wpAny_bind (wpAny_rule ?_)
 refine wpAny_bind ?_
 refine wpAny_bind (m := setField (.ref it) 1 (rawInt (-1))) (wpAny_setField ho hd (by (exact Nat.le_of_ble_eq_true rfl)) ?_)
 have ho2 := Heap.get?_update_self (h := s.heap) (Obj.mapFields (·.setIfInBounds 1 (rawInt (-1)))) ho (Obj.isFreed_of_fields (Obj.data_mapFields hd _))
 have hd2 := Obj.data_mapFields (f := (·.setIfInBounds 1 (rawInt (-1)))) hd
 refine wpAny_setField (a := it) (i := 0) (x := .none) ho2 hd2 (by (exact Nat.le_of_ble_eq_true rfl)) ?_
 first
 | show wpAny _ _ (newExc (.type "StopIteration") [] >>= _) _ _ _
 | (refine wpAny_bind ?_; show wpAny _ _ (newExc (.type "StopIteration") [] >>= _) _ _ _)
 refine wpAny_bind ?_
 simp only [newExc, newTuple]
 refine wpAny_bind (wpAny_newObj_type ?_ (by size_fits))
 refine wpAny_bind (m := firstArgMember _ _) (wpAny_of_eq (a := Value.none) (by first | rfl | (simp only [firstArgMember]; rfl)) ?_)
 refine wpAny_newObj_type ?_ (by size_fits)
 simp only [raiseNew]
 refine wpAny_bind (wpAny_handled ?_)
 first | rw [show A.in1.handled = none from hh] | rw [hh]
 refine wpAny_bind (wpAny_pure (wpAny_throw ?_))
 refine wpAny_bind (wpAny_isInstance (T := "StopIteration") (b := true) ⟨_, Heap.get?_push_size _ rfl, rfl⟩ isSubtype_stop ?_)
 exact wpAny_pure (hQ _ fun b o hb e => Heap.get?_push_of_some _ (Heap.get?_push_of_some _ ((Heap.get?_update_other _ _ (Ne.symm hb)).trans ((Heap.get?_update_other _ _ (Ne.symm hb)).trans e))))
theorem revT_iter {it t : Addr} {i : Int} {Q : Value → Shared → Prop} (hit : IsRevT s.heap it t i) (h : Q (.ref it) s) : wpAny (model prog w) A (pyIter (.ref it)) Q E s := by
 refine wpAny_pyIter_slot hit.typeIs revSlotIter (wpAny_call_entry revSlotIter hit.typeIs revEntryIter ?_ (revArgsIter _))
 show wpAny _ _ (ret (.ref it)) _ _ s
 exact wpAny_pure ⟨_, rfl, "reversed", _, hit.typeIs, revSlotNext.lookup, h⟩
end
theorem walksRevT {prog : Program} {w : World} {A : Around} (hh : A.handled = none) (I t : Addr) (hne : t ≠ I) (items : Array Value) (hz : (items.size : Int) < 2 ^ 62) :
   Walks prog w A I [I, t] [I] items.size (fun i v => items[items.size - 1 - i]? = some v) (fun i h => i ≤ items.size ∧ IsRevT h I t ((items.size : Int) - 1 - (i : Int)) ∧ IsTup h t items) where
 sub := fun b hb => by simp at hb; simp [hb]
 frame := fun _ _ _ x hk => ⟨x.1, x.2.1.at fun o e => hk I (by (exact List.mem_cons_self)) o e, let ⟨o, ho, r⟩ := x.2.2; ⟨o, hk t (by (exact .tail _ (.head _))) o ho, r⟩⟩
 item := fun i s Q E hi x hQ => by
   have e : (items.size : Int) - 1 - (i : Int) = ((items.size - 1 - i : Nat) : Int) := by lia
   have hit := x.2.1
   rw [e] at hit
   have hx : items[items.size - 1 - i]? = some (items[items.size - 1 - i]'(by (omega))) := Array.getElem?_eq_getElem (by lia)
   refine revT_next hit x.2.2 hz hx fun h' tk hit' hs' => ?_
   have e2 : ((items.size - 1 - i : Nat) : Int) - 1 = (items.size : Int) - 1 - ((i + 1 : Nat) : Int) := by lia
   rw [e2] at hit'
   exact hQ _ h' tk hx ⟨hi, hit', let ⟨o, ho, r⟩ := x.2.2; ⟨o, (hs'.2 t hne).trans ho, r⟩⟩ fun b o hb eo => hs'.extBut b o (fun h => hb (by simp [h])) eo
 done := fun s Q E x hQ => by
   have e : (items.size : Int) - 1 - (items.size : Int) = -1 := by ((simp +arith only; done))
   have hit := x.2.1
   rw [e] at hit
   exact revT_end hh hit fun h' he' => hQ h' s.toks fun b o hb eo => he' b o (fun h => hb (by simp [h])) eo
 self := fun _ _ _ _ x hQ => revT_iter x.2.1 hQ
theorem splitRev : splitId "reversed.__length_hint__" = some ("reversed", "__length_hint__") := by first | rfl | decide +kernel | (unfold splitId String.splitOn; simp +decide [String.splitOnAux])
theorem splitLri : splitId "list_reverseiterator.__length_hint__" = some ("list_reverseiterator", "__length_hint__") := by first | rfl | decide +kernel | (unfold splitId String.splitOn; simp +decide [String.splitOnAux])
theorem wite_ff {α : Type} {M : Model} {A : Around} {b : Bool} {x y : Sem α} {Q : α → Shared → Prop} {E : Value → Shared → Prop} {s : Shared} (h : b = false) (k : wpAny M A y Q E s) : wpAny M A (if b = true then x else y) Q E s := by rw [if_neg (by rw [h]; exact Bool.false_ne_true)]; exact k
theorem wite_tt {α : Type} {M : Model} {A : Around} {b : Bool} {x y : Sem α} {Q : α → Shared → Prop} {E : Value → Shared → Prop} {s : Shared} (h : b = true) (k : wpAny M A x Q E s) : wpAny M A (if b = true then x else y) Q E s := by rw [if_pos h]; exact k
section
variable {prog : Program} {w : World} {A : Around} {E : Value → Shared → Prop} {s : Shared}
theorem hint_revT {I t : Addr} {items : Array Value} {Q : Bool → Shared → Prop} (hit : IsRevT s.heap I t ((items.size : Int) - 1)) (ht : IsTup s.heap t items) (hz : (items.size : Int) ≤ 16000000) (h : ∀ b tk, s.toks ≤ tk → Q b { s with toks := tk }) :
   wpAny (model prog w) A (Builtin.List.listLengthHint (.ref I)) Q E s := by
 (refine exEAA (id hit) fun o ho hc hd => ?_)
 unfold Builtin.List.listLengthHint
 refine wpAny_bind (wpAny_specialOf hit.typeIs revNoLen ?_)
 show wpAny _ A (specialOf (Value.ref I) (Str.ofString "__length_hint__") >>= _) _ _ _
 refine wpAny_bind (wpAny_specialOf hit.typeIs revSlotHint.lookup ?_)
 dsimp only
 rw [splitRev]
 dsimp only
 refine wpAny_bind (wpAny_isInstance hit.typeIs subRevRev ?_)
 refine wite_ff rfl ?_
 refine wite_ff (by decide +kernel) ?_
 refine wpAny_bind (wpAny_rule ?_)
 refine wpAny_bind (wpAny_of_eq (revSlotHint.bind _) ?_)
 dsimp only
 refine wpAny_bind (wpAny_attempt (wpAny_call_entry revSlotHint hit.typeIs revEntryHint ?_ (revArgsHint _)))
 unfold Builtin.«reversed.__length_hint__»
 refine wpAny_bind (wpAny_of_eq (a := Value.ref I) rfl ?_)
 refine wpAny_bind (wpAny_field ho hd (x := .ref t) rfl ?_)
 refine wite_ff (by rfl) ?_
 refine wpAny_bind (PyProof.Rows.len_tuple ht (by lia) ?_)
 refine wpAny_bind (wpAny_pure ?_)
 dsimp only
 refine wpAny_bind (wpAny_field ho hd (x := rawInt ((items.size : Int) - 1)) rfl ?_)
 dsimp only [rawInt]
 rw [if_neg (by ((simp +arith; done)))]
 refine wpAny_ret_mkInt ?_
 dsimp only
 refine wpAny_bind (wpAny_pure ?_)
 dsimp only
 refine wite_ff (by simp [Builtin.List.listFitsIndex]; lia) ?_
 rw [if_neg (by ((simp +arith; done)))]
 refine wite_ff (by simp only [Builtin.List.listTooLong, sizeLine_eq, decide_eq_false_iff_not]; lia) ?_
 exact wpAny_pure (h _ _ (by ((simp +arith only; done))))
theorem hint_revL {I l : Addr} {i : Int} {Q : Bool → Shared → Prop} (hit : s.heap.IsRevIter I l i) (h : Q false s) : wpAny (model prog w) A (Builtin.List.listLengthHint (.ref I)) Q E s := by
 unfold Builtin.List.listLengthHint
 refine wpAny_bind (wpAny_specialOf hit.typeIs lriNoLen ?_)
 show wpAny _ A (specialOf (Value.ref I) (Str.ofString "__length_hint__") >>= _) _ _ _
 refine wpAny_bind (wpAny_specialOf hit.typeIs lriSlotHint.lookup ?_)
 dsimp only
 rw [splitLri]
 dsimp only
 refine wpAny_bind (wpAny_isInstance hit.typeIs subLriLri ?_)
 refine wite_ff rfl ?_
 refine wite_tt (by decide +kernel) ?_
 exact wite_ff (by rfl) (wpAny_pure h)
end
theorem wite_any {α : Type} {M : Model} {A : Around} {b : Bool} {x y : Sem α} {Q : α → Shared → Prop} {E : Value → Shared → Prop} {s : Shared} (h : wpAny M A x Q E s) (k : wpAny M A y Q E s) : wpAny M A (if b = true then x else y) Q E s := by cases b; exact k; exact h
section
variable {prog : Program} {w : World} {A : Around} {R : Result → Shared → Prop} {I : Addr} {fp : List Addr} {n : Nat} {P : Nat → Value → Prop} {SI : Nat → Heap → Prop}
theorem extLoop (W : Walks prog w A.in1 I fp [I] n P SI) {S : Addr} (hSf : S ∉ fp) {its base : List Value} (hP : ∀ i v, i < n → P i v → its[i]? = some v) (hn : its.length = n) (hz : base.length + n ≤ 16000000) (res : Value) :
   ∀ (k i : Nat) (s : Shared) (acc : Array Value) (c : Nat), n - i = k → i ≤ n → SI i s.heap → s.heap.get? S = some (listOf acc c) → acc.toList = base ++ its.take i →
   (∀ h' tk c', (∀ b o, b ≠ S → b ≠ I → s.heap.get? b = some o → h'.get? b = some o) → h'.get? S = some (listOf (base ++ its).toArray c') → R (.ok (.ret res)) { s with heap := h', toks := tk }) →
   codeAny (model prog w) A (.builtin "list.extend.loop" ⟨[.ref S, .ref I, res], []⟩) R s := by
 have hSI : S ≠ I := fun e => hSf (W.sub _ (by simp [e]))
 intro k
 induction k with
 | zero =>
   intro i s acc c hk hi hst hS hacc hR
   have hin : i = n := by lia
   subst hin
   refine codeAny_builtin F.entry_extend_loop ?_
   rw [Around.under_plainId F.plain_extend_loop _]
   show wpAny _ A.in1 (pyNext (.ref I) >>= _) _ _ s
   refine wpAny_bind (W.done s _ _ hst fun h' tk hm => ?_)
   refine wpAny_pure (hR h' tk c (fun b o h1 h2 e => hm b o (by simpa using h2) e) ?_)
   have e : acc = (base ++ its).toArray := by
     apply Array.toList_inj.mp
     rw [hacc, ← hn, List.take_length]
   rw [← e]
   exact hm S _ (by simpa using hSI) hS
 | succ k ih =>
   intro i s acc c hk hi hst hS hacc hR
   have hlt : i < n := by lia
   have hsz : acc.size = base.length + i := by
     rw [← Array.length_toList, hacc, List.length_append, List.length_take]; lia
   refine codeAny_builtin F.entry_extend_loop ?_
   rw [Around.under_plainId F.plain_extend_loop _]
   show wpAny _ A.in1 (pyNext (.ref I) >>= _) _ _ s
   refine wpAny_bind (W.item i s _ _ hlt hst fun v h' tk hPv hst' hm => ?_)
   have hS' : h'.get? S = some (listOf acc c) := hm S _ (by simpa using hSI) hS
   show wpAny _ A.in1 (updateSeq S (·.push v) >>= _) _ _ _
   refine wpAny_bind ?_
   refine wpAny_updateSeq (s := { s with heap := h', toks := tk }) hS' rfl (wpAny_pure ⟨plainId_quiet F.plain_extend_loop _, ih (i + 1) _ (acc.push v) _ (by lia) hlt (W.frame _ _ _ hst' fun b hb o e => ?_) (Heap.get?_update_self _ hS' rfl) ?_ fun h'' tk' c' k2 hS'' => ?_⟩)
     (by rw [hsz, sizeLine_eq]; lia) (by show (acc.push v).size ≤ sizeLine + 1; rw [Array.size_push, hsz, sizeLine_eq]; lia)
   · exact (Heap.get?_update_other _ _ (fun h : S = b => hSf (by rw [h]; exact hb))).trans e
   · rw [Array.toList_push, hacc, List.append_assoc, List.take_succ, hP i v hlt hPv]; rfl
   · refine hR h'' tk' c' (fun b o h1 h2 e => ?_) hS''
     exact k2 b o h1 h2 ((Heap.get?_update_other _ _ (Ne.symm h1)).trans (hm b o (by simpa using h2) e))
theorem extendWith {s : Shared} {T : String} (W : Walks prog w A.in1 I fp [I] n P SI) (hT : s.TypeIs (.ref I) T) (t1 : (Value.type T == Value.type "list") = false) (t2 : (Value.type T == Value.type "tuple") = false)
   {S : Addr} (hSf : S ∉ fp) {its base : List Value} (hP : ∀ i v, i < n → P i v → its[i]? = some v) (hn : its.length = n) (hz : base.length + n ≤ 16000000) (res : Value) (hst : SI 0 s.heap) (c : Nat) (hS : s.heap.get? S = some (listOf base.toArray c))
   (hint : ∀ (Q : Bool → Shared → Prop) E, (∀ b tk, Q b { s with toks := tk }) → wpAny (model prog w) A.in1 (Builtin.List.listLengthHint (.ref I)) Q E s)
   (hR : ∀ h' tk c', (∀ b o, b ≠ S → b ≠ I → s.heap.get? b = some o → h'.get? b = some o) → h'.get? S = some (listOf (base ++ its).toArray c') → R (.ok (.ret res)) { s with heap := h', toks := tk }) :
   wpAny (model prog w) A.in1 (Builtin.List.listExtendWith (.ref S) (.ref I) res)
     (fun fin s' => match fin with | .done f => R (.ok f) s' | .again c' => c'.quiet = true ∧ codeAny (model prog w) A c' R s') (fun e s' => R (.error e) s') s := by
 have hSI : S ≠ I := fun e => hSf (W.sub _ (by simp [e]))
 unfold Builtin.List.listExtendWith
 refine wpAny_bind (wpAny_typeOf hT ?_)
 have h1 : Builtin.List.listSameRef (.ref S) (.ref I) = false := by (exact decide_eq_false (by assumption))
 simp only [h1, t1, t2, Bool.or_false, Bool.false_eq_true, if_false]
 refine wpAny_bind (W.self 0 _ _ _ hst ?_)
 refine wpAny_bind (wpAny_holding (hint _ _ fun b tk => ?_))
 have fin : ∀ (h1 : Heap) c', (∀ b o, b ≠ S → s.heap.get? b = some o → h1.get? b = some o) → h1.get? S = some (listOf base.toArray c') → wpAny (model prog w) A.in1 (again (.builtin "list.extend.loop" ⟨[.ref S, .ref I, res], []⟩)) (fun fin s' => match fin with | .done f => R (.ok f) s' | .again c' => c'.quiet = true ∧ codeAny (model prog w) A c' R s') (fun e s' => R (.error e) s') { s with heap := h1, toks := tk } := by
   intro h1 c' k hS1
   refine wpAny_pure ⟨plainId_quiet F.plain_extend_loop _, extLoop W hSf hP hn hz res n 0 _ _ _ (Nat.sub_zero n) (Nat.zero_le _) (W.frame 0 _ _ hst fun b hb o e => k b o (fun z => hSf (z ▸ hb)) e) hS1 (by simp) fun h' tk' c'' k2 hS2 => ?_⟩
   exact hR h' tk' c'' (fun b o b1 b2 e => k2 b o b1 b2 (k b o b1 e)) hS2
 have touch : wpAny (model prog w) A.in1 (rule "list.extend.makes-room" >>= fun _ => Builtin.List.listTouch (.ref S) >>= fun _ =>
   again (.builtin "list.extend.loop" ⟨[.ref S, .ref I, res], []⟩)) (fun fin s' => match fin with | .done f => R (.ok f) s' | .again c' => c'.quiet = true ∧ codeAny (model prog w) A c' R s') (fun e s' => R (.error e) s') { s with toks := tk } := by
   refine wpAny_bind (wpAny_rule ?_)
   refine wpAny_bind ?_
   show wpAny _ A.in1 (updateSeq S (·.push .none) >>= fun _ => updateSeq S (·.pop)) _ _ _
   have hb : base.toArray.size ≤ 16000000 := by simp; (exact Nat.le_trans (Nat.le_add_right _ _) (by assumption))
   refine wpAny_bind (wpAny_updateSeq hS rfl ?_ (by rw [sizeLine_eq]; (exact Nat.le_trans (by assumption) (Nat.le_of_ble_eq_true rfl))) (by show (base.toArray.push Value.none).size ≤ _; rw [Array.size_push, sizeLine_eq]; lia))
   have hS₂ := Heap.get?_update_self (Obj.mapSeq (·.push Value.none)) hS rfl
   refine wpAny_updateSeq hS₂ rfl ?_ (by show (base.toArray.push Value.none).size ≤ _; rw [Array.size_push, sizeLine_eq]; lia) (by show ((base.toArray.push Value.none).pop).size ≤ _; rw [Array.size_pop, Array.size_push, sizeLine_eq]; (exact Nat.le_trans (by assumption) (Nat.le_of_ble_eq_true rfl)))
   have hS₃ := Heap.get?_update_self (Obj.mapSeq (·.pop)) hS₂ rfl
   refine fin _ (c + 1 + 1) (fun b o hb e => (Heap.get?_update_other _ _ (Ne.symm hb)).trans ((Heap.get?_update_other _ _ (Ne.symm hb)).trans e)) ?_
   rw [hS₃]
   simp [Obj.mapSeq, PySem.W.listOf]
 exact wite_any touch (fin _ c (fun b o hb e => e) hS)
theorem call_extend {E : Value → Shared → Prop} {s : Shared} {T : String} (W : Walks prog w A.in1 I fp [I] n P SI) (hT : s.TypeIs (.ref I) T) (t1 : (Value.type T == Value.type "list") = false) (t2 : (Value.type T == Value.type "tuple") = false)
   {S : Addr} (hSf : S ∉ fp) {its base : List Value} (hP : ∀ i v, i < n → P i v → its[i]? = some v) (hn : its.length = n) (hz : base.length + n ≤ 16000000) (hst : SI 0 s.heap) (c : Nat) (hS : s.heap.get? S = some (listOf base.toArray c))
   (hint : ∀ (Q : Bool → Shared → Prop) E, (∀ b tk, Q b { s with toks := tk }) → wpAny (model prog w) A.in1 (Builtin.List.listLengthHint (.ref I)) Q E s) {Q : Value → Shared → Prop}
   (hQ : ∀ h' tk c', (∀ b o, b ≠ S → b ≠ I → s.heap.get? b = some o → h'.get? b = some o) → h'.get? S = some (listOf (base ++ its).toArray c') → Q .none { s with heap := h', toks := tk }) :
   wpAny (model prog w) A (call (.builtin "list.extend") [.ref S, .ref I]) Q E s := by
 refine call_meetsIn (S := fun A' R s' => (A' = A ∧ s' = s) ∧ ∀ h' tk c', (∀ b o, b ≠ S → b ≠ I → s.heap.get? b = some o → h'.get? b = some o) → h'.get? S = some (listOf (base ++ its).toArray c') → R (.ok (.ret .none)) { s with heap := h', toks := tk }) PySem.F.slot_list_extend ⟨_, hS, rfl⟩ PySem.F.entry_list_extend (PySem.F.args_list_extend_2 _ _) ?_ ⟨⟨rfl, rfl⟩, fun h' tk c' a b => hQ h' tk c' a b⟩
 (intro A'; intro R; intro s'; intro zq0; refine exA (zq0) fun zq1 hR => ?_; clear zq0; refine exA (zq1) fun zq2 zq3 => ?_; clear zq1; rcases zq2 with rfl; rcases zq3 with rfl)
 show wpAny _ _ (Builtin.List.listExtendWith (.ref S) (.ref I) .none) _ _ _
 exact extendWith W hT t1 t2 hSf hP hn hz .none hst c hS hint fun h' tk c' a b => hR h' tk c' a b
theorem call_listOf {E : Value → Shared → Prop} {s : Shared} {T : String} (W : Walks prog w A.in1.in1 I fp [I] n P SI) (hT : s.TypeIs (.ref I) T) (t1 : (Value.type T == Value.type "list") = false) (t2 : (Value.type T == Value.type "tuple") = false)
   (hfp : ∀ b ∈ fp, b < s.heap.objs.size) {its : List Value} (hP : ∀ i v, i < n → P i v → its[i]? = some v) (hn : its.length = n) (hz : n ≤ 16000000) (hst : SI 0 s.heap)
   (hint : ∀ (h1 : Heap) (Q : Bool → Shared → Prop) E, SI 0 h1 → (∀ b o, s.heap.get? b = some o → h1.get? b = some o) → (∀ b tk, Q b { s with heap := h1, toks := tk }) → wpAny (model prog w) A.in1.in1 (Builtin.List.listLengthHint (.ref I)) Q E { s with heap := h1 }) {Q : Value → Shared → Prop}
   (hQ : ∀ h' tk c', (∀ b o, b ≠ s.heap.objs.size → b ≠ I → s.heap.get? b = some o → h'.get? b = some o) → h'.get? s.heap.objs.size = some (listOf its.toArray c') → Q (.ref s.heap.objs.size) { s with heap := h', toks := tk }) :
   wpAny (model prog w) A (call (.type "list") [.ref I]) Q E s := by
 have hSf : s.heap.objs.size ∉ fp := fun hm => Nat.lt_irrefl _ (hfp _ hm)
 refine callType_codes (Q₁ := fun obj s₁ => obj = .ref s.heap.objs.size ∧ s₁ = { s with heap := s.heap.push { cls := .type "list", data := .seq #[] } }) F.called_list (F.typeCall_list_1 _) F.entry_list_init
   (code_list_new _ ⟨rfl, rfl⟩) fun obj s₁ h₁ => ?_
 (refine exA (h₁) fun zq0 zq1 => ?_; clear h₁; rcases zq0 with rfl; rcases zq1 with rfl)
 have hS : (s.heap.push { cls := .type "list", data := .seq #[] }).get? s.heap.objs.size = some { cls := .type "list", data := .seq #[] } := Heap.get?_push_size _ rfl
 refine ⟨⟨_, hS, rfl⟩, F.args_list_init_2 _ _, ?_⟩
 show wpAny _ A.in1.in1 (do let old ← Builtin.List.listItems (.ref s.heap.objs.size); Builtin.List.listUpdate (.ref s.heap.objs.size) (fun _ => #[]); letGo old.toList.reverse; Builtin.List.listExtendWith (.ref s.heap.objs.size) (.ref I) .none) _ _ _
 refine wpAny_bind ?_
 unfold Builtin.List.listItems
 refine wpAny_bind (wpAny_seqItems hS rfl (wpAny_pure ?_))
 show wpAny _ A.in1.in1 (updateSeq s.heap.objs.size (fun _ => #[]) >>= fun _ => letGo (#[] : Array Value).toList.reverse >>= fun _ => Builtin.List.listExtendWith (.ref s.heap.objs.size) (.ref I) .none) _ _ _
 refine wpAny_bind (wpAny_updateSeq hS rfl ?_)
 have hS₂ := Heap.get?_update_self (Obj.mapSeq (fun _ => (#[] : Array Value))) hS rfl
 have oth : ∀ b o, b ≠ s.heap.objs.size → s.heap.get? b = some o → ((s.heap.push { cls := .type "list", data := .seq #[] }).update s.heap.objs.size (Obj.mapSeq (fun _ => (#[] : Array Value)))).get? b = some o :=
   fun b o hb e => (Heap.get?_update_other _ _ (Ne.symm hb)).trans (Heap.get?_push_of_some _ e)
 have all : ∀ b o, s.heap.get? b = some o → ((s.heap.push { cls := .type "list", data := .seq #[] }).update s.heap.objs.size (Obj.mapSeq (fun _ => (#[] : Array Value)))).get? b = some o :=
   fun b o e => oth b o (fun z => Nat.ne_of_lt (Heap.lt_size e) z) e
 refine wpAny_bind (wpAny_letGo ?_)
 have hst2 : SI 0 ((s.heap.push { cls := .type "list", data := .seq #[] }).update s.heap.objs.size (Obj.mapSeq (fun _ => (#[] : Array Value)))) := W.frame 0 _ _ hst fun b hb o e => all b o e
 (refine exEA (hT) fun oT hoT hcT => ?_; clear hT)
 refine extendWith (T := T) (base := []) W ⟨oT, all _ _ hoT, hcT⟩ t1 t2 hSf hP hn (by simpa using hz) .none hst2 _ hS₂ (fun Q E k => hint _ Q E hst2 all k) fun h' tk c' a b => ?_
 exact ⟨rfl, hQ h' tk c' (fun b' o h1 h2 e => a b' o h1 h2 (oth b' o h1 e)) b⟩
end
noncomputable def AHeap.del (H : AHeap) (a : Addr) : AHeap := fun b => if b = a then none else H b
section
variable {G : Gl} {D : Nat} {cs : Scope} {cl : List (Str × Addr)} {m : Loc} {H : AHeap}
theorem WB.reversedT {xs : List AV} {Q : AQ} (hz : xs.length ≤ 16000000) (h : ∀ I, H I = none → Q (.ref I) (H.put I (.revT xs))) : WB G D (.type "reversed") [.tup xs] H Q where
 go := fun c ok mm news s S vals hv Q' E k => by
   (refine exEA (list1 hv) fun v zq0 h1 => ?_; rcases zq0 with rfl)
   (refine exEEAA ((VR_tup ..).mp h1) fun t vs zq0 hm hvs => ?_; rcases zq0 with rfl)
   refine call_revT (items := vs.toArray) ⟨_, (S.nw _ hm).1, rfl, 0, rfl⟩ (by rw [List.size_toArray, hvs.length]; lia) fun tk => ?_
   (refine exA (S.pushO (d := s.heap.objs.size) (ob := revTO t ((vs.toArray.size : Int) - 1)) (o := .revT xs) (S.fr.push _) (S.nw.push S.fr _) (fresh_size S.nw) ⟨t, vs, by rw [List.size_toArray, hvs.length], hm, hvs⟩) fun S2 K2 => ?_)
   exact k (.ref _) (.ref _) _ _ _ _ S2 K2 rfl (h _ (S.off (fresh_size S.nw)))
theorem WB.reversedL {l : Addr} {xs : List AV} {Q : AQ} (hl : H l = some (.list xs)) (h : ∀ I, H I = none → Q (.ref I) (H.put I (.revL l xs.length))) : WB G D (.type "reversed") [.ref l] H Q where
 go := fun c ok mm news s S vals hv Q' E k => by
   (refine exEA (list1 hv) fun v zq0 h1 => ?_; rcases zq0 with rfl)
   have : v = .ref l := h1
   subst this
   (refine exEAA (S.get hl) fun ob hm zq0 hg => ?_; refine exEEA (zq0) fun vs n zq1 hvs => ?_; clear zq0; rcases zq1 with rfl)
   refine call_reversed_list (S.nw.isList hm) ?_
   (refine exA (S.pushO (d := s.heap.objs.size) (ob := revObj l ((vs.toArray.size : Int) - 1)) (o := .revL l xs.length) (S.fr.push _) (S.nw.push S.fr _) (fresh_size S.nw) (by show _ = revObj l _; rw [List.size_toArray, hvs.length])) ?_; intro S2 K2)
   exact k (.ref _) (.ref _) _ _ _ _ S2 K2 rfl (h _ (S.off (fresh_size S.nw)))
end
section
variable {G : Gl} {D : Nat} {cs : Scope} {cl : List (Str × Addr)} {m : Loc} {H : AHeap}
theorem Fr.kept2 {h₀ h h' : Heap} {L d I : Addr} {mm : Str → Option Value} (F : Fr h₀ L h mm) (k : ∀ b o, b ≠ d → b ≠ I → h.get? b = some o → h'.get? b = some o) (hd : L ≠ d) (hI : L ≠ I) (d0 : h₀.get? d = none) (h0 : h₀.get? I = none) : Fr h₀ L h' mm := by
 obtain ⟨⟨oL, es, ep, hL, r⟩, kk, ab⟩ := F
 exact ⟨⟨oL, es, ep, k _ _ hd hI hL, r⟩, fun b o e => k b o (fun z => by rw [z, d0] at e; (exact noneE e)) (fun z => by rw [z, h0] at e; (exact noneE e)) (kk b o e), ab⟩
theorem AHeap.del_ne (H : AHeap) {a b : Addr} (h : b ≠ a) : H.del a b = H b := by (exact if_neg (by assumption))
theorem AHeap.del_self (H : AHeap) (a : Addr) : H.del a a = none := by (exact if_pos rfl)
theorem St.change2 {h₀ h h' : Heap} {L : Addr} {mm : Str → Option Value} {news : Led} (S : St G h₀ L mm H news h) {d I : Addr} {o o' : AO} {ob ob' oI : Obj} (hd : H d = some o) (hm : (d, ob) ∈ news) (hI : (I, oI) ∈ news) (hnt : (oI.cls == .type "tuple") = false) (hne : d ≠ I) (hHI : H I ≠ none) (hg : h'.get? d = some ob')
   (k : ∀ b x, b ≠ d → b ≠ I → h.get? b = some x → h'.get? b = some x) (ho : ∀ news', (∀ a vs, (a, tupObj vs) ∈ news → (a, tupObj vs) ∈ news') → OR G news' o' ob') (hlo : o'.isD = true → o.isD = true := by intro h; first | rfl | cases h) :
   ∃ news', St G h₀ L mm ((H.put d o').del I) news' h' ∧ Keep H ((H.put d o').del I) news news' ∧ (∀ a vs, (a, tupObj vs) ∈ news → (a, tupObj vs) ∈ news') := by
 (refine exEAAAA (upd_of ob' S.nd hm) fun n1 U hk u1 u2 u3 => ?_)
 have zI := S.nw _ hI
 have zd := S.nw _ hm
 have mem : ∀ p ∈ n1, p.1 ≠ I → p ∈ n1.filter fun p => !decide (p.1 = I) := fun p hp q => List.mem_filter.mpr ⟨hp, by simpa using q⟩
 have sub : ∀ a vs, (a, tupObj vs) ∈ news → (a, tupObj vs) ∈ n1.filter fun p => !decide (p.1 = I) := fun a vs q => by
   have nI : a ≠ I := fun e => by
     subst e
     have := nodup_eq S.nd q hI
     subst this
     simp at hnt
   have nd : a ≠ d := fun e => by
     have := S.tupFree q
     rw [e, hd] at this
     (exact someE this)
   exact mem _ (u1 _ q nd) nI
 refine ⟨n1.filter fun p => !decide (p.1 = I), ⟨Fr.kept2 S.fr k (Ne.symm zd.2.1) (Ne.symm zI.2.1) zd.2.2 zI.2.2, fun p hp => ?_, ?_, fun a x e => ?_, fun a x e i => ?_⟩, fun p hp e => ?_, sub⟩
 · (refine exA (List.mem_filter.mp hp) fun hp q => ?_)
   have q : p.1 ≠ I := by simpa using q
   by_cases z : p.1 = d
   · have : p = (d, ob') := by
       obtain ⟨a, b⟩ := p
       dsimp only at z
       subst z
       rw [nodup_eq (hk ▸ S.nd) hp u2]
     subst this
     exact ⟨hg, zd.2⟩
   · have y := S.nw p (u3 p hp z)
     exact ⟨k _ _ z q y.1, y.2⟩
 · exact List.Nodup.sublist (List.filter_sublist.map _) (hk ▸ S.nd)
 · have q : a ≠ I := fun q => by rw [q, AHeap.del_self] at e; (exact noneE e)
   rw [AHeap.del_ne _ q] at e
   by_cases z : a = d
   · subst z
     rw [AHeap.put_self] at e
     cases e
     exact ⟨ob', mem _ u2 q, ho _ sub⟩
   · rw [AHeap.put_ne _ _ z] at e
     (refine exEA (S.hr a x e) fun b h3 h4 => ?_)
     exact ⟨b, mem _ (u1 _ h3 z) q, h4.sub sub⟩
 · have q : a ≠ I := fun q => by rw [q, AHeap.del_self] at e; (exact noneE e)
   rw [AHeap.del_ne _ q] at e
   by_cases z : a = d
   · subst z
     rw [AHeap.put_self] at e
     cases e
     exact S.lo a o hd (hlo i)
   · rw [AHeap.put_ne _ _ z] at e
     exact S.lo a x e i
 · have z : p.1 ≠ d := fun z => by rw [z, hd] at e; (exact someE e)
   by_cases q : p.1 = I
   · exact absurd (q ▸ e) hHI
   · exact ⟨mem p (u1 p hp z) q, by rw [AHeap.del_ne _ q, AHeap.put_ne _ _ z]; exact e⟩
theorem VRs.reverse {news : Led} : ∀ {xs : List AV} {vs : List Value}, VRs news xs vs → VRs news xs.reverse vs.reverse := by
 intro zz
 induction zz with
 | nil =>
   intro _ h
   rw [(VRs_nil ..).mp h]; exact (VRs_nil ..).mpr rfl
 | cons x xs ih =>
   intro _ h
   (refine exEEAA ((VRs_cons ..).mp h) fun v r zq0 h1 h2 => ?_; rcases zq0 with rfl)
   rw [List.reverse_cons, List.reverse_cons]
   exact (ih h2).push h1
theorem rev_get {vs : List Value} (i : Nat) (v : Value) (h : vs.toArray[vs.toArray.size - 1 - i]? = some v) (hi : i < vs.length) : vs.reverse[i]? = some v := by
 rw [List.getElem?_reverse hi]
 simpa using h
theorem WB.extendRevT {l I : Addr} {ys xs : List AV} {Q : AQ} (hl : H l = some (.list ys)) (hI : H I = some (.revT xs)) (hz : ys.length + xs.length ≤ 16000000) (h : Q .none ((H.put l (.list (ys ++ xs.reverse))).del I)) : WB G D (.builtin "list.extend") [.ref l, .ref I] H Q where
 go := fun c ok mm news s S vals hv Q' E k => by
   (refine exEEAA (list2 hv) fun v w zq0 h1 h2 => ?_; rcases zq0 with rfl)
   have : v = .ref l := h1
   subst this
   have : w = .ref I := h2
   subst this
   (refine exEAA (S.get hl) fun ob hm zq0 hg => ?_; refine exEEA (zq0) fun vs n zq1 hvs => ?_; clear zq0; rcases zq1 with rfl)
   (refine exEAA (S.get hI) fun oI hmI zq0 hgI => ?_; refine exEEAA (zq0) fun t us zq1 ht hus => ?_; clear zq0; rcases zq1 with rfl)
   have hne : l ≠ I := fun z => by rw [z, hI] at hl; cases hl
   have htI : t ≠ I := fun z => by have := S.tupFree ht; rw [z, hI] at this; (exact someE this)
   have htl : t ≠ l := fun z => by have := S.tupFree ht; rw [z, hl] at this; (exact someE this)
   have hus' := hus.length
   have hvs' := hvs.length
   have hz' : vs.length + us.length ≤ 16000000 := by lia
   have sz : us.toArray.size = us.length := by (rfl)
   have hnt : ((revTO t ((xs.length : Int) - 1)).cls == .type "tuple") = false := rfl
   have W := walksRevT (prog := G.prog) (w := G.w) (A := c.A.in1) ok.handled I t htI us.toArray (by rw [sz]; lia)
   have hit : IsRevT s.heap I t ((us.toArray.size : Int) - 1) := ⟨_, hgI, rfl, by rw [sz, hus']⟩
   have htup : IsTup s.heap t us.toArray := ⟨_, (S.nw _ ht).1, rfl, 0, rfl⟩
   have hst : 0 ≤ us.toArray.size ∧ IsRevT s.heap I t ((us.toArray.size : Int) - 1 - ((0 : Nat) : Int)) ∧ IsTup s.heap t us.toArray := ⟨Nat.zero_le _, by simpa using hit, htup⟩
   refine call_extend (base := vs) (its := us.reverse) (n := us.toArray.size) W hit.typeIs (by decide) (by decide) (fun z => ?_) (fun i v hi e => rev_get i v e (by rw [sz] at hi; exact hi)) (by rw [List.length_reverse, sz]) (by rw [sz]; exact hz') hst n hg (fun Q E q => hint_revT hit htup (by rw [sz]; lia) fun b tk _ => q b tk) fun h' tk c' k1 k2 => ?_
   · rcases List.mem_cons.mp z with z | z
     · exact hne z
     · exact htl (List.mem_singleton.mp z).symm
   · (refine exEAA (S.change2 (o' := .list (ys ++ xs.reverse)) hl hm hmI hnt hne (by rw [hI]; simp) k2 k1 fun n2 sb => ⟨vs ++ us.reverse, c', rfl, (hvs.sub sb).app (VRs.reverse (hus.sub sb))⟩) ?_; intro n' S' K' sub)
     exact k .none .none _ n' h' tk S' K' rfl h
theorem WB.listRevL {l I : Addr} {xs : List AV} {Q : AQ} (hl : H l = some (.list xs)) (hI : H I = some (.revL l xs.length)) (hz : xs.length ≤ 16000000) (h : ∀ d, H d = none → d ≠ I → Q (.ref d) ((H.put d (.list xs.reverse)).del I)) : WB G D (.type "list") [.ref I] H Q where
 go := fun c ok mm news s S vals hv Q' E k => by
   (refine exEA (list1 hv) fun v zq0 h1 => ?_; rcases zq0 with rfl)
   have : v = .ref I := h1
   subst this
   (refine exEAA (S.get hl) fun ob hm zq0 hg => ?_; refine exEEA (zq0) fun vs n zq1 hvs => ?_; clear zq0; rcases zq1 with rfl)
   (refine exEAA (S.get hI) fun oI hmI hoI hgI => ?_)
   have : oI = revObj l ((xs.length : Int) - 1) := hoI
   subst this
   have hne : l ≠ I := fun z => by rw [z, hI] at hl; cases hl
   have hvs' := hvs.length
   have sz : vs.toArray.size = vs.length := by (rfl)
   have W := Walks.listRev (prog := G.prog) (w := G.w) (A := c.A.in1.in1) ok.handled I l hne vs.toArray
   have hit : s.heap.IsRevIter I l ((vs.toArray.size : Int) - 1) := ⟨_, hgI, rfl, by rw [sz, hvs']; rfl⟩
   have hlist : s.heap.IsList l vs.toArray := S.nw.isList hm
   have d1 : ∀ p ∈ news, p.1 ≠ s.heap.objs.size := fresh_size S.nw
   refine call_listOf (its := vs.reverse) (n := vs.toArray.size) W hit.typeIs (by decide) (by decide) (fun b hb => ?_) (fun i v hi e => rev_get i v e (by rw [sz] at hi; exact hi)) (by rw [List.length_reverse, sz]) (by rw [sz]; lia) ⟨Nat.zero_le _, by simpa using hit, hlist⟩
     (fun h1 Q E st keep q => hint_revL (s := { s with heap := h1 }) st.2.1 (q false s.toks)) fun h' tk c' k1 k2 => ?_
   · rcases List.mem_cons.mp hb with rfl | hb
     · exact Heap.lt_size hgI
     · rw [List.mem_singleton.mp hb]; exact Heap.lt_size hg
   · (refine exA (S.pushO (d := s.heap.objs.size) (ob := listOf #[] 0) (o := .list []) (S.fr.push _) (S.nw.push S.fr _) d1 ⟨[], 0, rfl, (VRs_nil ..).mpr rfl⟩) fun S1 K1 => ?_)
     have nI : s.heap.objs.size ≠ I := fun z => d1 _ hmI z.symm
     (refine exEAA (S1.change2 (h' := h') (o' := .list xs.reverse) (AHeap.put_self _ _ _) (.head _) (.tail _ hmI) rfl nI (by rw [AHeap.put_ne _ _ (Ne.symm nI), hI]; simp) k2 (fun b x b1 b2 e => k1 b x b1 b2 (by
       rcases Heap.get?_push_cases e with ⟨z, _⟩ | z
       · exact absurd z b1
       · exact z)) fun n2 sb => ⟨vs.reverse, c', rfl, VRs.reverse (hvs.sub fun a us q => sb a us (.tail _ q))⟩) ?_; intro n' S' K' sub)
     have e : (H.put s.heap.objs.size (.list [])).put s.heap.objs.size (.list xs.reverse) = H.put s.heap.objs.size (.list xs.reverse) := by funext a; simp only [AHeap.put]; split <;> rfl
     rw [e] at S' K'
     refine k (.ref _) (.ref _) _ n' h' tk S' ?_ rfl (h _ (S.off d1) nI)
     intro p hp e
     have nd := d1 p hp
     exact K' p (.tail _ hp) (by rw [AHeap.put_ne _ _ nd]; exact e)
set_option tactic.hygienic true in
theorem del_put2 {H : AHeap} {I l : Addr} {o o' : AO} (h : H I = none) (hl : l ≠ I) : ((H.put I o).put l o').del I = H.put l o' := by
 funext a; unfold AHeap.del AHeap.put; split
 · rename_i e; subst e; rw [if_neg (Ne.symm hl), h]
 · rfl
theorem W1.extRev {x : Str} {e : Expr} {p1 p2 p3 p4 p5 p6 : Pos} {l : Addr} {Q : Fl → Loc → AHeap → Prop} (hn : nsIn G.K mainGlobals "reversed" = some none) (hm : m.lookup x = some (.ref l)) (hl : ∃ ys, H l = some (.list ys))
   (h : WE G D cs cl e m H fun a H1 => ∃ xs ys, a = .tup xs ∧ H1 l = some (.list ys) ∧ ys.length + xs.length ≤ 16000000 ∧ Q .next m (H1.put l (.list (ys ++ xs.reverse))))
   (hp : plainE e = true := by rfl) (hx : cs.names.lookup x = some .local := by rfl) (hr : cs.names.lookup ("reversed" : Str) = some .globalImplicit := by rfl) (hd : (x == ("__debug__" : Str)) = false := by decide) {pl : Env → Sem Bool}
   (he : ∀ env : Env, eval (.Call (.Attribute (.Name x p1) ("extend" : Str) p2) [.Call (.Name ("reversed" : Str) p3) [e] [] p4] [] p5) env = (do
     let ov ← eval (.Name x p1) env
     standAt p2.atName
     let (f, first) ← holding [ov] (getMethod ov ("extend" : Str) (pl env))
     callWith p5 f first (backTo p5 (starEach [.Call (.Name ("reversed" : Str) p3) [e] [] p4] env)) []) := by intro _; rfl) :
   W1 G D cs cl (.Expr (.Call (.Attribute (.Name x p1) ("extend" : Str) p2) [.Call (.Name ("reversed" : Str) p3) [e] [] p4] [] p5) p6) m H Q := by
 (refine exE (hl) fun ys0 hl0 => ?_; clear hl)
 refine W1.expr (WE.callBm (he := he) (WE.name hm ⟨l, _, "list.extend", rfl, hl0, rfl, WE.callT (T := "reversed") hn (by kernel_rfl) (by decide) (h.mono fun a H1 q => ?_) (by simp [hp]) hr⟩ hx hd))
 (refine exEEAAA (q) ?_; clear q; intro xs ys zq0 h1 h2 q; rcases zq0 with rfl)
 refine WB.reversedT (by (exact Nat.le_trans (Nat.le_add_left _ _) (by assumption))) fun I hI => ?_
 have hne : l ≠ I := fun z => by rw [z, hI] at h1; (exact noneE h1)
 refine WB.extendRevT (l := l) ((AHeap.put_ne _ _ hne).trans h1) (AHeap.put_self _ _ _) h2 ?_
 rw [del_put2 hI hne]
 exact q
theorem WE.listRev {e : Expr} {p1 p2 p3 p4 : Pos} {Q : AQ} (hn : nsIn G.K mainGlobals "reversed" = some none) (hn2 : nsIn G.K mainGlobals "list" = some none)
   (h : WE G D cs cl e m H fun a H1 => ∃ l xs, a = .ref l ∧ H1 l = some (.list xs) ∧ xs.length ≤ 16000000 ∧ ∀ d, H1 d = none → Q (.ref d) (H1.put d (.list xs.reverse)))
   (hp : plainE e = true := by rfl) (hr : cs.names.lookup ("reversed" : Str) = some .globalImplicit := by rfl) (hr2 : cs.names.lookup ("list" : Str) = some .globalImplicit := by rfl) :
   WE G D cs cl (.Call (.Name ("list" : Str) p1) [.Call (.Name ("reversed" : Str) p2) [e] [] p3] [] p4) m H Q := by
 refine WE.callT (T := "list") hn2 (by kernel_rfl) (by decide) (WE.callT (T := "reversed") hn (by kernel_rfl) (by decide) (h.mono fun a H1 q => ?_) (by simp [hp]) hr) rfl hr2
 (refine exEEAAA (q) ?_; clear q; intro l xs zq0 h1 h2 q; rcases zq0 with rfl)
 refine WB.reversedL h1 fun I hI => ?_
 have hne : l ≠ I := fun z => by rw [z, hI] at h1; (exact noneE h1)
 refine WB.listRevL (l := l) (xs := xs) ((AHeap.put_ne _ _ hne).trans h1) (AHeap.put_self _ _ _) h2 fun d hd hdI => ?_
 rw [del_put2 hI hdI]
 exact q d ((AHeap.put_ne _ _ hdI).symm.trans hd)
end
mutual
noncomputable def DA (H : AHeap) : PyData → AV → Prop
 | .none, a => a = .none
 | .bool b, a => a = .bool b
 | .int i, a => a = .int i
 | .str s, a => a = .str s
 | .tuple ds, a => ∃ as, a = .tup as ∧ DAs H ds as
 | .list ds, a => ∃ l o as, a = .ref l ∧ H l = some o ∧ o.view = .list as ∧ DAs H ds as
 | .dict _, _ => False
noncomputable def DAs (H : AHeap) : List PyData → List AV → Prop
 | [], as => as = []
 | d :: ds, as => ∃ a r, as = a :: r ∧ DA H d a ∧ DAs H ds r
end
section
variable {G : Gl} {h₀ h : Heap} {L : Addr} {mm : Str → Option Value} {H : AHeap} {news : Led}
mutual
theorem DA.reads (S : St G h₀ L mm H news h) : ∀ {d : PyData} {a : AV} {v : Value}, DA H d a → VR news a v → ∃ as, Reads h v d as
 | .none, a, v, hd, hv => by obtain rfl := hd; obtain rfl := hv; exact ⟨_, .none⟩
 | .bool b, a, v, hd, hv => by obtain rfl := hd; obtain rfl := hv; exact ⟨_, .bool b⟩
 | .int i, a, v, hd, hv => by obtain rfl := hd; (refine exE (hv) fun t zq0 => ?_; clear hv; rcases zq0 with rfl); exact ⟨_, .int i t⟩
 | .str i, a, v, hd, hv => by obtain rfl := hd; (refine exE (hv) fun t zq0 => ?_; clear hv; rcases zq0 with rfl); exact ⟨_, .str i t⟩
 | .tuple ds, a, v, hd, hv => by
   (refine exEA (hd) fun as zq0 h1 => ?_; clear hd; rcases zq0 with rfl)
   (refine exEEAA ((VR_tup ..).mp hv) fun t vs zq0 hm hvs => ?_; rcases zq0 with rfl)
   (refine exE (DAs.reads S h1 hvs) fun rs hr => ?_)
   exact ⟨_, .tuple (vs := vs.toArray) (n := 0) (S.nw _ hm).1 rfl rfl (by simpa using hr)⟩
 | .list ds, a, v, hd, hv => by
   (refine exEEEAAA (hd) fun l o as zq0 hl ho h1 => ?_; clear hd; rcases zq0 with rfl)
   have : v = .ref l := hv
   subst this
   (refine exEAA (S.get hl) fun ob hm ho2 hg => ?_)
   have ho3 := ho2.view
   rw [ho] at ho3
   (refine exEEA (ho3) fun vs n zq0 hvs => ?_; clear ho3; rcases zq0 with rfl)
   (refine exE (DAs.reads S h1 hvs) fun rs hr => ?_)
   exact ⟨_, .list (vs := vs.toArray) (n := n) hg rfl rfl (by simpa using hr)⟩
 | .dict _, a, v, hd, hv => by exact hd.elim
theorem DAs.reads (S : St G h₀ L mm H news h) : ∀ {ds : List PyData} {as : List AV} {vs : List Value}, DAs H ds as → VRs news as vs → ∃ rs, ReadsAll h vs ds rs
 | [], as, vs, hd, hv => by obtain rfl := hd; rw [VRs_nil] at hv; subst hv; exact ⟨_, .nil⟩
 | d :: ds, as, vs, hd, hv => by
   (refine exEEAA (hd) fun a r zq0 h1 h2 => ?_; clear hd; rcases zq0 with rfl)
   (refine exEEAA ((VRs_cons ..).mp hv) fun v w zq0 h3 h4 => ?_; rcases zq0 with rfl)
   (refine exE (DA.reads S h1 h3) fun x hx => ?_)
   (refine exE (DAs.reads S h2 h4) fun y hy => ?_)
   exact ⟨_, .cons hx hy⟩
end
end
section
variable {G : Gl} {D : Nat} {H : AHeap} {a b : AV} {da db : PyData} {Q : Bool → AHeap → Prop}
theorem WCmp.eqD (ha : DA H da a) (hb : DA H db b) (sa : SeqAt.shaped da = true) (sb : SeqAt.shaped db = true) (h : Q (PyData.eqv da db) H) : WCmp G (D + 8) .Eq a b H Q where
 go := fun c ok mm news s S va vb va' vb' Q' E k => by
   (refine exE (ha.reads S va') fun _ ra => ?_)
   (refine exE (hb.reads S vb') fun _ rb => ?_)
   exact eq_dataH ra rb sa sb (by have := ok.units; lia) (k _ H news s.heap s.toks S Keep.rfl h)
theorem WCmp.neD (ha : DA H da a) (hb : DA H db b) (sa : SeqAt.shaped da = true) (sb : SeqAt.shaped db = true) (h : Q (!PyData.eqv da db) H) : WCmp G (D + 8) .NotEq a b H Q where
 go := fun c ok mm news s S va vb va' vb' Q' E k => by
   (refine exE (ha.reads S va') fun _ ra => ?_)
   (refine exE (hb.reads S vb') fun _ rb => ?_)
   exact ne_dataH ra rb sa sb (by have := ok.units; lia) (k _ H news s.heap s.toks S Keep.rfl h)
end
mutual
theorem eqv_refl : ∀ d : PyData, d.canLay0 = true → PyData.eqv d d = true
 | .none, _ => by simp [PyData.eqv]
 | .bool b, _ => by (exact if_pos rfl)
 | .int b, _ => by (exact if_pos rfl)
 | .str b, _ => by (exact if_pos rfl)
 | .tuple ds, h => by rw [PyData.eqv]; exact eqvAll_refl ds (by simpa [PyData.canLay0] using h)
 | .list ds, h => by rw [PyData.eqv]; exact eqvAll_refl ds (by simpa [PyData.canLay0] using h)
 | .dict _, h => by simp [PyData.canLay0] at h
theorem eqvAll_refl : ∀ ds : List PyData, PyData.canLayAll0 ds = true → PyData.eqvAll ds ds = true
 | [], _ => by simp [PyData.eqvAll]
 | d :: ds, h => by
   have h : d.canLay0 = true ∧ PyData.canLayAll0 ds = true := by simpa [PyData.canLayAll0] using h
   rw [PyData.eqvAll, eqv_refl d h.1, eqvAll_refl ds h.2]; rfl
end
theorem VRs.of_ints {news : Led} : ∀ {vs : List Value} {ns : List Int}, IntsAre vs ns → VRs news (ns.map AV.int) vs
 | _, _, .nil => (VRs_nil ..).mpr rfl
 | _, _, .cons a t h => (VRs_cons ..).mpr ⟨_, _, rfl, ⟨t, rfl⟩, VRs.of_ints h⟩
theorem intsAre_of : ∀ {vs : List Value} {ns : List Int}, vs.length = ns.length → (∀ (j : Nat) (v : Value) (n : Int), vs[j]? = some v → ns[j]? = some n → ∃ t, v = .int n t) → IntsAre vs ns
 | [], [], _, _ => .nil
 | [], _ :: _, h, _ => by cases h
 | _ :: _, [], h, _ => by cases h
 | v :: vs, n :: ns, h, k => by
   (refine exE (k 0 v n rfl rfl) fun t zq0 => ?_; rcases zq0 with rfl)
   exact .cons n t (intsAre_of (by simpa using h) fun j v' n' a b => k (j + 1) v' n' (by simpa using a) (by simpa using b))
section
variable {G : Gl} {D : Nat} {cs : Scope} {cl : List (Str × Addr)} {m : Loc} {H : AHeap}
theorem WB.sortedD {l : Addr} {es : List (Int × AV)} {Q : AQ} (hl : H l = some (.idict es)) (h64 : es.length < 64)
   (h : ∀ (d : Addr) (ns : List Int), H d = none → ns.Perm (es.map (·.1)) → ns.Pairwise (· ≤ ·) → Q (.ref d) (H.put d (.list (ns.map AV.int)))) : WB G D (.builtin "sorted") [.ref l] H Q where
 go := fun c ok mm news s S vals hv Q' E k => by
   (refine exEA (list1 hv) fun v zq0 h1 => ?_; rcases zq0 with rfl)
   have : v = .ref l := h1
   subst this
   (refine exEAA (S.get hl) fun ob hm zq0 hg => ?_; refine exEA (zq0) fun kvs hd hr => ?_; clear zq0)
   have lo := S.lo l _ hl rfl
   (refine exE (dictAt_of hd) fun ep hat => ?_)
   have hlen : kvs.length = es.length := hr.length
   refine kdu_sorted (kdl_dict (knd := intKind G.prog G.w) (kvs := kvs) (ep := ep) lo) ok.handled S.fr S.nw (hat _ _ hg) (by rw [hlen, sizeLine_eq]; lia) fun B h' tk vs F' N' l1 hl' hv' => ?_
   have hI : IntsAre vs (es.map (·.1)) := intsAre_of (by rw [hl', hlen, List.length_map]) fun j v n a b => by
     (refine exEEA (hv' j v a) fun k' x e1 e2 => ?_)
     have : (kvs.map (·.1))[j]? = some k' := by rw [List.getElem?_map, e1]; rfl
     rw [hr.keys, b] at this
     cases this
     exact Value.isInt_shape e2
   have hB := N' _ (.head _)
   refine wpAny_call_entry PyProof.Rows.slot_list_sort ⟨_, hB.1, rfl⟩ PyProof.Rows.entry_list_sort (list_sort_tree (s := { s with heap := h', toks := tk }) (n := 0) (vs := vs) hB.1 hI (by rw [hl', hlen]; exact h64) fun out ns' hI' hp hP => ⟨.none, rfl, ?_⟩) (PyProof.Rows.args_list_sort _)
   (refine exE (sortedHeap_at (h := h') (a := B) (vs := vs) (n := 0) (out := out) hB.1) fun e' he' => ?_)
   have old : ∀ b o, b ≠ B → h'.get? b = some o → (sortedHeap h' B vs out).get? b = some o := fun b o hb e => (sortedHeap_old hb (Heap.lt_size e)).trans e
   have F2 : Fr c.h₀ c.L (sortedHeap h' B vs out) mm := Fr.kept F' old (Ne.symm hB.2.1) hB.2.2
   have N2 : News c.h₀ c.L (sortedHeap h' B vs out) ((B, listOf out e') :: news) := fun p hp => by
     rcases List.mem_cons.mp hp with rfl | hp
     · exact ⟨he', hB.2⟩
     · have := N' p (.tail _ hp)
       exact ⟨old _ _ (Nat.ne_of_lt (l1 p hp)) this.1, this.2⟩
   (refine exA (S.pushO (o := .list (ns'.map AV.int)) F2 N2 (lt_ne l1) ⟨out.toList, e', by (rfl), VRs.of_ints hI'⟩) fun S2 K2 => ?_)
   exact k (.ref B) (.ref B) _ _ _ _ S2 K2 rfl (h B ns' (S.off (lt_ne l1)) hp hP)
theorem VRs.take {news : Led} : ∀ {xs : List AV} {vs : List Value} (n : Nat), VRs news xs vs → VRs news (xs.take n) (vs.take n)
 | [], vs, n, h => by rw [(VRs_nil ..).mp h]; simp [VRs_nil]
 | x :: xs, vs, 0, h => by (rfl)
 | x :: xs, vs, n + 1, h => by
   (refine exEEAA ((VRs_cons ..).mp h) fun v r zq0 h1 h2 => ?_; rcases zq0 with rfl)
   exact (VRs_cons ..).mpr ⟨v, _, rfl, h1, h2.take n⟩
theorem VRs.drop {news : Led} : ∀ {xs : List AV} {vs : List Value} (n : Nat), VRs news xs vs → VRs news (xs.drop n) (vs.drop n)
 | [], vs, n, h => by rw [(VRs_nil ..).mp h]; simp [VRs_nil]
 | x :: xs, vs, 0, h => h
 | x :: xs, vs, n + 1, h => by
   (refine exEEAA ((VRs_cons ..).mp h) fun v r zq0 h1 h2 => ?_; rcases zq0 with rfl)
   exact h2.drop n
theorem WB.insert {l : Addr} {xs : List AV} {i : Nat} {a : AV} {Q : AQ} (hl : H l = some (.list xs)) (hi : i ≤ xs.length) (hz : xs.length ≤ 16000000) (h : Q .none (H.put l (.list (xs.take i ++ a :: xs.drop i)))) : WB G D (.builtin "list.insert") [.ref l, .int i, a] H Q where
 go := fun c ok mm news s S vals hv Q' E k => by
   (refine exEEEAAA (list3 hv) fun v w x zq0 h1 h2 h3 => ?_; rcases zq0 with rfl)
   have : v = .ref l := h1
   subst this
   (refine exE (h2) fun t zq0 => ?_; clear h2; rcases zq0 with rfl)
   (refine exEAA (S.get hl) fun ob hm zq0 hg => ?_; refine exEEA (zq0) fun vs n zq1 hvs => ?_; clear zq0; rcases zq1 with rfl)
   have e : kl_ins vs (i : Int) x = vs.take i ++ x :: vs.drop i := by
     unfold kl_ins
     have h0 : ¬ (i : Int) < 0 := by lia
     have h1 : min i vs.length = i := by rw [hvs.length]; lia
     simp [h0, h1]
   (refine exEAAAA (upd_of (listOf (vs.take i ++ x :: vs.drop i).toArray (n + 1)) S.nd hm) fun n' U hk u1 u2 _ => ?_)
   refine kl_insert (its := vs.toArray) S.fr S.nw (by simp [Builtin.List.listFitsIndex]; lia) e U (by rw [show vs.toArray.toList = vs from rfl, hvs.length, sizeLine_eq]; lia) (fun h' F N => ?_)
   (refine exAA (S.upd (o' := .list (xs.take i ++ a :: xs.drop i)) hl hm F N hk u1 u2 ⟨_, n + 1, rfl, (hvs.take i).app ((VRs_cons ..).mpr ⟨x, _, rfl, h3, hvs.drop i⟩)⟩) fun S' K' _ => ?_)
   exact k .none .none _ n' h' _ S' K' rfl h
theorem WB.range {n : Int} {Q : AQ} (h : ∀ l, H l = none → Q (.ref l) (H.put l (.range n))) : WB G D (.type "range") [.int n] H Q where
 go := fun c ok mm news s S vals hv Q' E k => by
   (refine exEA (list1 hv) fun v zq0 h1 => ?_; rcases zq0 with rfl)
   (refine exE (h1) fun t zq0 => ?_; clear h1; rcases zq0 with rfl)
   refine call_range_1 ?_
   (refine exA (S.pushO (d := s.heap.objs.size) (ob := { cls := .type "range", data := .fields #[.int 0 s.toks, .int n t, .int 1 (s.toks + 1)] }) (o := .range n) (S.fr.push _) (S.nw.push S.fr _) (fresh_size S.nw) ⟨_, _, _, rfl⟩) fun S2 K2 => ?_)
   exact k (.ref _) (.ref _) _ _ _ _ S2 K2 rfl (h _ (S.off (fresh_size S.nw)))
theorem WOp.addS {x y : Str} {Q : AQ} (hz : x.length + y.length ≤ 1000000) (h : Q (.str (x ++ y)) H) : WOp G D .Add false (.str x) (.str y) H Q where
 go := fun c ok mm news s S va vb ha hb Q' E k => by
   (refine exE (ha) fun t zq0 => ?_; clear ha; rcases zq0 with rfl); (refine exE (hb) fun u zq0 => ?_; clear hb; rcases zq0 with rfl)
   exact PyProof.Rows.add_str (fun t' tk => k _ _ H news s.heap tk S Keep.rfl (by exact ⟨_, rfl⟩) h) (by rw [sizeLine_eq]; (exact Nat.le_trans (by assumption) (Nat.le_of_ble_eq_true rfl)))
theorem W1.augAttr {o e : Expr} {name : Str} {op : Operator} {tp pos : Pos} {Q : Fl → Loc → AHeap → Prop}
   (h : WE G D cs cl o m H fun a H1 => ∃ x C dx as b, a = .ref x ∧ H1 x = some (.inst C dx) ∧ H1 dx = some (.attrs as) ∧ as.lookup name = some b ∧ b.ok = true ∧ attrIn G.K C name = true ∧
     WE G D cs cl e m H1 fun v H2 => WOp G D op true b v H2 fun r H3 => ∃ as', H3 x = some (.inst C dx) ∧ H3 dx = some (.attrs as') ∧ setIn G.K C name = true ∧ as'.length ≤ 900 ∧ Q .next m (H3.put dx (.attrs (putA name r as')))) :
   W1 G D cs cl (.AugAssign (.Attribute o name tp) op e pos) m H Q where
 go := fun c h1 h2 ok mm news s S lr Q' E k => by
   refine wpAny_AugAssign_AttributeAny (h.go c h1 h2 ok mm news s S lr _ E fun va a H1 n1 h1' tk1 S1 K1 V1 q => ?_)
   (refine exEEEEE (q) fun x C dx as b zs3 => ?_; clear q; refine exAAAAAA (zs3) fun zq0 hx hd hl hb hi q => ?_; clear zs3; rcases zq0 with rfl)
   have : va = .ref x := V1
   subst this
   (refine exEAA (S1.get hx) fun ox x1 x2 x3 => ?_)
   have : ox = instObj C dx := x2
   subst this
   (refine exEAA (S1.get hd) fun od d1 zq0 d3 => ?_; refine exEEA (zq0) fun es n zq1 d4 => ?_; clear zq0; rcases zq1 with rfl)
   (refine exEA (d4.getL_some hl) fun v' e1 e2 => ?_)
   simp only [attrIn, Bool.and_eq_true, beq_iff_eq] at hi
   refine get_own (s := { s with heap := h1', toks := tk1 }) S1.fr ok.kin (es := es) (n := n) ⟨x3, rfl, rfl, d3⟩ hi.1.1 hi.1.2 hi.2 rfl e1 (handed_ok hb e2) ?_
   refine q.go c h1 h2 ok mm n1 _ S1 (LR.keep S K1 lr) _ E fun vv v H2 n2 h2' tk2 S2 K2 V2 w2 => ?_
   refine w2.go c ok mm n2 _ S2 v' vv (S1.vr K2 e2) V2 _ E fun vr r H3 n3 h3' tk3 S3 K3 V3 q => ?_
   (refine exEAAAA (q) ?_; clear q; intro as' hx3 hd3 hs hz q)
   refine setAttr_go (s := { s with heap := h3', toks := tk3 }) ok S3 hx3 hd3 hs V3 hz _ E fun n4 h4 tk4 S4 K4 => ?_
   have K := ((K1.trans K2).trans K3).trans K4
   exact k .next .next m mm _ n4 h4 tk4 S4 (LR.keep S K lr) K rfl q
theorem W1.augItem {o i e : Expr} {op : Operator} {tp pos : Pos} {Q : Fl → Loc → AHeap → Prop}
   (h : WE G D cs cl o m H fun a H1 => WE G D cs cl i m H1 fun j H2 => WI G D a j H2 fun old H3 => WE G D cs cl e m H3 fun v H4 => WOp G D op true old v H4 fun r H5 => WSt G D a j r H5 fun H6 => Q .next m H6)
   (hi : ∀ ov iv new, augStore i ov iv new = (do holding [new, ov, iv] (setItem ov iv new); release [new, ov, iv] []; pure .next) := by intros; rfl) :
   W1 G D cs cl (.AugAssign (.Subscript o i tp) op e pos) m H Q where
 go := fun c h1 h2 ok mm news s S lr Q' E k => by
   refine wpAny_AugAssign_SubscriptAny (h.go c h1 h2 ok mm news s S lr _ E fun va a H1 n1 h1' tk1 S1 K1 V1 w1 => ?_) hi
   refine w1.go c h1 h2 ok mm n1 _ S1 (LR.keep S K1 lr) _ E fun vi j H2 n2 h2' tk2 S2 K2 V2 w2 => ?_
   refine (w2.go c ok mm n2 { s with heap := h2', toks := tk2 } S2 va vi (S1.vr K2 V1) V2 _ E fun vo old H3 n3 h3' tk3 S3 K3 V3 w3 => ?_).1
   refine w3.go c h1 h2 ok mm n3 _ S3 (LR.keep S ((K1.trans K2).trans K3) lr) _ E fun vv v H4 n4 h4' tk4 S4 K4 V4 w4 => ?_
   refine w4.go c ok mm n4 _ S4 vo vv (S3.vr K4 V3) V4 _ E fun vr r H5 n5 h5' tk5 S5 K5 V5 w5 => ?_
   refine w5.go c ok mm n5 _ S5 va vi vr (S1.vr (((K2.trans K3).trans K4).trans K5) V1) (S2.vr ((K3.trans K4).trans K5) V2) V5 _ E fun H6 n6 h6 tk6 S6 K6 q => ?_
   have K := ((((K1.trans K2).trans K3).trans K4).trans K5).trans K6
   exact k .next .next m mm H6 n6 h6 tk6 S6 (LR.keep S K lr) K rfl q
end
section
variable {prog : Program} {w : World} {K : Type} [DecidableEq K] {knd : HeapKind prog w K} {A : Around} {E : Value → Shared → Prop} {s : Shared}
theorem tells_quiet {key : Value} (hv : carriedByValue key = true) {stored : List Value} {Q : Bool → Shared → Prop}
   (hst : ∀ v ∈ stored, ∃ k' b, v = .ref b ∧ knd.is s.heap k' b) (h : Q false s) : wpAny (model prog w) A (tableMayTell key stored) Q E s := by
 unfold tableMayTell
 split
 · exact wpAny_pure h
 · rw [eqIsQuiet_byValue 8 hv]
   refine wpAny_bind (wpAny_pure ?_)
   simp only [Bool.not_true, Bool.false_eq_true, if_false]
   refine wpAny_bind ?_
   refine wpAny_forIn_list _ (fun rest r s' => s' = s ∧ r = (none, ()) ∧ ∀ v ∈ rest, ∃ k' b, v = .ref b ∧ knd.is s.heap k' b) _ ?_ ?_ _ _ ⟨rfl, rfl, hst⟩
   · (intro x; intro rest; intro r; intro s'; intro zq0; refine exAA (zq0) fun zq1 zq2 hr => ?_; clear zq0; rcases zq1 with rfl; rcases zq2 with rfl)
     (refine exEEA (hr x List.mem_cons_self) fun k' b zq0 hb => ?_; rcases zq0 with rfl)
     refine wpAny_bind (knd.quiet hb ?_)
     simp only [Bool.not_true, Bool.false_eq_true, if_false]
     exact wpAny_pure ⟨rfl, rfl, fun v hv => hr v (List.mem_cons_of_mem _ hv)⟩
   · (intro r; intro s'; intro zq0; refine exAA (zq0) fun zq1 zq2 _ => ?_; clear zq0; rcases zq1 with rfl; rcases zq2 with rfl)
     exact wpAny_pure h
theorem wp_if_neg {α : Type} {b : Prop} [Decidable b] {p q : Sem α} {Q : α → Shared → Prop} (h : ¬ b) (k : wpAny (model prog w) A q Q E s) : wpAny (model prog w) A (if b then p else q) Q E s := by rw [if_neg h]; exact k
theorem wp_if_pos {α : Type} {b : Prop} [Decidable b] {p q : Sem α} {Q : α → Shared → Prop} (h : b) (k : wpAny (model prog w) A p Q E s) : wpAny (model prog w) A (if b then p else q) Q E s := by rw [if_pos h]; exact k
theorem wp_ite {α : Type} {b : Prop} [Decidable b] {p q : Sem α} {Q : α → Shared → Prop} (h1 : b → wpAny (model prog w) A p Q E s) (h0 : ¬ b → wpAny (model prog w) A q Q E s) : wpAny (model prog w) A (if b then p else q) Q E s := by
 by_cases h : b
 · exact wp_if_pos h (h1 h)
 · exact wp_if_neg h (h0 h)
theorem entry_of {es : Array DictEntry} {xs : List (K × Addr × Value)} (he : es.toList = xs.map (entryOfKey knd)) {i : Nat} {e : DictEntry} (h : es[i]? = some e) : ∃ x ∈ xs, e = entryOfKey knd x := by
 have : e ∈ xs.map (entryOfKey knd) := he ▸ Array.mem_toList_iff.mpr (Array.mem_of_getElem? h)
 exact Exists.elim (List.mem_map.mp this) fun x h => ⟨x, h.1, h.2.symm⟩
theorem stored_ref {es : Array DictEntry} {xs : List (K × Addr × Value)} (he : es.toList = xs.map (entryOfKey knd)) (his : ∀ x ∈ xs, knd.is s.heap x.1 x.2.1) (l : List Nat) :
   ∀ v ∈ l.filterMap (fun i => es[i]?.map (·.key)), ∃ k' b, v = .ref b ∧ knd.is s.heap k' b := by
 intro v hv
 (refine exEA (List.mem_filterMap.mp hv) fun i _ hi => ?_)
 (refine exEA (Option.map_eq_some_iff.mp hi) fun e h1 h2 => ?_)
 (refine exEA (entry_of he h1) fun x hx h3 => ?_)
 exact ⟨x.1, x.2.1, by rw [← h2, h3]; rfl, his x hx⟩
theorem stored_none {es : Array DictEntry} {l : List Nat} {key : Value} (hst : ∀ v ∈ l.filterMap (fun i => es[i]?.map (·.key)), ∃ k' b, v = .ref b ∧ knd.is s.heap k' b)
   (hc : (key :: l.filterMap (fun i => es[i]?.map (·.key))).all carriedByValue = true) : ∀ i ∈ l, es[i]? = none := fun i hi => by
 cases q : es[i]? with
 | none => rfl
 | some e =>
   have hm : e.key ∈ l.filterMap (fun i => es[i]?.map (·.key)) := List.mem_filterMap.mpr ⟨i, hi, by rw [q]; rfl⟩
   have h1 := List.all_eq_true.mp hc e.key (List.mem_cons_of_mem _ hm)
   (refine exEEA (hst _ hm) fun k' b e1 _ => ?_)
   rw [e1] at h1
   (exact falseE h1)
theorem stored_ne {l : List Value} {key : Value} (hk : ∀ b, (Value.ref b == key) = false) (hst : ∀ v ∈ l, ∃ k' b, v = .ref b ∧ knd.is s.heap k' b) : ¬ (l == [key]) = true := by
 cases l with
 | nil => exact fun h => nomatch h
 | cons v r =>
   (refine exEEA (hst v (.head _)) fun _ b e _ => ?_)
   intro h
   have := (Bool.and_eq_true_iff.mp (show (v == key && r == []) = true from h)).1
   rw [e, hk] at this
   (exact falseE this)
theorem find_miss {d : Addr} {o : Obj} {es ep} {xs : List (K × Addr × Value)} {key : Value} {h : Int} {Q : Option Nat → Shared → Prop} (hk3 : (∃ n t, key = .int n t) ∨ (∃ n t, key = .str n t)) (hne : xs ≠ [])
   (ho : s.heap.get? d = some o) (hd : o.data = .dict es ep) (he : es.toList = xs.map (entryOfKey knd)) (his : ∀ x ∈ xs, knd.is s.heap x.1 x.2.1)
   (heq : ∀ x ∈ xs, ∀ (Q : Bool → Shared → Prop) E, Q false s → wpAny (model prog w) A (eqBool (.ref x.2.1) key) Q E s) (hQ : Q none s) :
   wpAny (model prog w) A (dictFind d key h) Q E s := by
 have hst := stored_ref (s := s) he his (placesWithHash es.size (fun i => es[i]?.map (·.hash)) h)
 have hall : ¬ (es.all fun e => isExactStrKey e.key) = true := by
   rw [← Array.all_toList, he]
   cases xs with
   | nil => exact absurd rfl hne
   | cons x r => exact Bool.false_ne_true
 have hkr : ∀ b, (Value.ref b == key) = false := fun b => by rcases hk3 with ⟨n, t, rfl⟩ | ⟨n, t, rfl⟩ <;> rfl
 have hcv : carriedByValue key = true := by rcases hk3 with ⟨n, t, rfl⟩ | ⟨n, t, rfl⟩ <;> rfl
 have hno := fun hc => stored_none (key := key) hst hc
 have hon := stored_ne hkr hst
 have hq := fun (Q : Bool → Shared → Prop) (h : Q false s) => tells_quiet (w := w) (A := A) (E := E) hcv hst h
 clear hst hkr hcv hne
 unfold dictFind
 try with_reducible refine wpAny_holding ?_
 refine wpAny_bind (wpAny_dictEntries ho hd ?_)
 rcases hk3 with ⟨n, t, rfl⟩ | ⟨n, t, rfl⟩ <;> dsimp only <;> (try refine wp_if_neg hall ?_) <;> clear hall
 all_goals
   refine wp_ite (fun hc => ?_) (fun hc => ?_)
   · replace hno := hno hc
     clear hon heq hq hc
     unfold dictWalkPlain
     refine wpAny_bind ?_
     refine wpAny_forIn_list _ (fun rest r s' => s' = s ∧ r = (none, ()) ∧ ∀ i ∈ rest, es[i]? = none) _ ?_ ?_ _ _ ⟨rfl, rfl, hno⟩
     · (intro i; intro rest; intro r; intro s'; intro zq0; refine exAA (zq0) fun zq1 zq2 hr => ?_; clear zq0; rcases zq1 with rfl; rcases zq2 with rfl)
       rw [hr i (.head _)]
       exact wpAny_pure ⟨rfl, rfl, fun j hj => hr j (.tail _ hj)⟩
     · (intro r; intro s'; intro zq0; refine exAA (zq0) fun zq1 zq2 _ => ?_; clear zq0; rcases zq1 with rfl; rcases zq2 with rfl)
       exact wpAny_pure hQ
   · clear hno hc
     refine wp_if_neg hon ?_
     refine wpAny_bind (hq _ ?_)
     refine wp_if_neg Bool.false_ne_true ?_
     refine wpAny_bind ?_
     refine wpAny_forIn_list _ (fun rest b s' => s' = s ∧ b = (none, none)) _ ?_ ?_ _ _ ⟨rfl, rfl⟩
     · (intro i; intro rest; intro b; intro s'; intro zq0; refine exA (zq0) fun zq1 zq2 => ?_; clear zq0; rcases zq1 with rfl; rcases zq2 with rfl)
       cases hei : es[i]? with
       | none => exact wpAny_pure ⟨rfl, rfl⟩
       | some e =>
         dsimp only
         refine wp_ite (fun _ => ?_) (fun _ => wpAny_pure ⟨rfl, rfl⟩)
         (refine exEA (entry_of he hei) fun x hx zq0 => ?_; rcases zq0 with rfl)
         refine wpAny_bind (wpAny_dictEpoch ho hd (wpAny_bind (heq x hx _ _ (wpAny_bind (wpAny_dictEpoch ho hd ?_)))))
         refine wp_if_neg (by simp) (wp_if_neg Bool.false_ne_true (wpAny_bind (wpAny_rule ?_)))
         exact wp_if_neg Bool.false_ne_true (wpAny_pure ⟨rfl, rfl⟩)
     · (intro b; intro s'; intro zq0; refine exA (zq0) fun zq1 zq2 => ?_; clear zq0; rcases zq1 with rfl; rcases zq2 with rfl)
       exact wpAny_pure hQ
end
section
variable {G : Gl} {h₀ h : Heap} {L : Addr} {mm : Str → Option Value} {H : AHeap} {news : Led}
theorem TKR_nil (l) : TKR news [] l ↔ l = [] := Iff.rfl
theorem TKR_cons (k a r xs) : TKR news ((k, a) :: r) xs ↔ ∃ t v xs' vs, xs = (k, t, v) :: xs' ∧ (t, tupObj vs) ∈ news ∧ VRs news (k.map Atom.av) vs ∧ VR news a v ∧ TKR news r xs' := Iff.rfl
theorem items_of : ∀ {k : List Atom} {vs : List Value}, VRs news (k.map Atom.av) vs → ItemsAre (atomKind G.prog G.w) k vs := by
 intro zz
 induction zz with
 | nil =>
   intro vs h
   rw [(VRs_nil ..).mp h]; exact .nil
 | cons a k ih =>
   intro vs h
   (refine exEEAA ((VRs_cons ..).mp h) fun v r zq0 h1 h2 => ?_; rcases zq0 with rfl)
   refine .cons ?_ (ih h2)
   cases a with
   | i n => (refine exE (h1) fun t zq0 => ?_; clear h1; rcases zq0 with rfl); show Value.isInt n (.int n t) = true; (exact if_pos rfl)
   | s x => (refine exE (h1) fun t zq0 => ?_; clear h1; rcases zq0 with rfl); show Value.isStrOf x (.str x t) = true; (exact if_pos rfl)
theorem key_is (N : News h₀ L h news) {k : List Atom} {t : Addr} {vs : List Value} (hm : (t, tupObj vs) ∈ news) (hv : VRs news (k.map Atom.av) vs) : (tK G).is h k t := ⟨tupObj vs, vs.toArray, 0, (N _ hm).1, rfl, rfl, by simpa using items_of hv⟩
theorem TKR.is (N : News h₀ L h news) : ∀ {es : List (List Atom × AV)} {xs}, TKR news es xs → ∀ x ∈ xs, (tK G).is h x.1 x.2.1 := by
 intro zz
 induction zz with
 | nil =>
   intro xs hr x hx
   rw [(TKR_nil _).mp hr] at hx; cases hx
 | cons qx r ih =>
   obtain ⟨k, a⟩ := qx
   intro xs hr x hx
   (refine exEEEEAAAA ((TKR_cons ..).mp hr) fun t v xs' vs zq0 h1 h2 h3 h4 => ?_; rcases zq0 with rfl)
   rcases List.mem_cons.mp hx with rfl | hx
   · exact key_is N h1 h2
   · exact ih h4 x hx
theorem TKR.has : ∀ {es : List (List Atom × AV)} {xs}, TKR news es xs → ∀ {k a}, es.lookup k = some a → ∃ p, atKey xs k = some p ∧ VR news a p.2 := by
 intro zz
 induction zz with
 | nil =>
   intro xs hr k a e
   (exact noneE e)
 | cons qx r ih =>
   obtain ⟨q, b⟩ := qx
   intro xs hr k a e
   (refine exEEEEAAAA ((TKR_cons ..).mp hr) fun t v xs' vs zq0 h1 h2 h3 h4 => ?_; rcases zq0 with rfl)
   rw [List.lookup_cons] at e
   by_cases z : k = q
   · subst z
     simp only [beq_self_eq_true] at e
     cases e
     exact ⟨(t, v), by simp [atKey], h3⟩
   · have z1 : (k == q) = false := by simpa using z
     simp only [z1] at e
     (refine exEA (ih h4 e) fun p e1 e2 => ?_)
     refine ⟨p, ?_, e2⟩
     unfold atKey at e1 ⊢
     rw [List.find?_cons_of_neg (by simpa using fun y => z y.symm)]
     exact e1
theorem TKR.miss : ∀ {es : List (List Atom × AV)} {xs}, TKR news es xs → ∀ {k}, es.lookup k = none → atKey xs k = none := by
 intro zz
 induction zz with
 | nil =>
   intro xs hr k e
   rw [(TKR_nil _).mp hr]; rfl
 | cons qx r ih =>
   obtain ⟨q, b⟩ := qx
   intro xs hr k e
   (refine exEEEEAAAA ((TKR_cons ..).mp hr) fun t v xs' vs zq0 h1 h2 h3 h4 => ?_; rcases zq0 with rfl)
   rw [List.lookup_cons] at e
   by_cases z : k = q
   · subst z; simp only [beq_self_eq_true] at e; (exact someE e)
   · have z1 : (k == q) = false := by simpa using z
     simp only [z1] at e
     have := ih h4 e
     unfold atKey at this ⊢
     rw [List.find?_cons_of_neg (by simpa using fun y => z y.symm)]
     exact this
theorem TKR.length : ∀ {es : List (List Atom × AV)} {xs}, TKR news es xs → xs.length = es.length := by
 intro zz
 induction zz with
 | nil =>
   intro xs hr
   rw [(TKR_nil _).mp hr]; rfl
 | cons qx r ih =>
   obtain ⟨q, b⟩ := qx
   intro xs hr
   (refine exEEEEAAAA ((TKR_cons ..).mp hr) fun t v xs' vs zq0 h1 h2 h3 h4 => ?_; rcases zq0 with rfl); simp [ih h4]
theorem TKR.dictOf (S : St G h₀ L mm H news h) {l : Addr} {es : List (List Atom × AV)} (hl : H l = some (.tdict es)) : ∃ ob xs, (l, ob) ∈ news ∧ h.DictOfH (tK G) l xs ∧ TKR news es xs := by
 (refine exEAA (S.get hl) fun ob hm zq0 hg => ?_; refine exAEEEAAA (zq0) fun he eds ep xs h1 h2 h3 h4 => ?_; clear zq0)
 exact ⟨ob, xs, hm, ⟨ob, eds, ep, hg, he, h1, h2, h4.is S.nw, h3⟩, h4⟩
theorem TKR.put {k : List Atom} {a : AV} {t : Addr} {v : Value} {vs : List Value} (hm : (t, tupObj vs) ∈ news) (hk : VRs news (k.map Atom.av) vs) (hv : VR news a v) : ∀ {es : List (List Atom × AV)} {xs}, TKR news es xs → (xs.map (·.1)).Nodup → TKR news (putD k a es) (storedH xs k t v) := by
 intro zz
 induction zz with
 | nil =>
   intro xs hr _
   rw [(TKR_nil _).mp hr]
   exact (TKR_cons ..).mpr ⟨t, v, [], vs, rfl, hm, hk, hv, (TKR_nil _).mpr rfl⟩
 | cons qx r ih =>
   obtain ⟨q, b⟩ := qx
   intro xs hr nd
   (refine exEEEEAAAA ((TKR_cons ..).mp hr) fun u w xs' us zq0 h1 h2 h3 h4 => ?_; rcases zq0 with rfl)
   rw [List.map_cons, List.nodup_cons] at nd
   rw [putD_c]
   by_cases z : q = k
   · subst z
     rw [if_pos rfl, storedH_old (p := (u, w)) (by simp [atKey]), List.map_cons, map_putAt_of_not_mem _ _ _ nd.1]
     exact (TKR_cons ..).mpr ⟨u, v, xs', us, by simp [putAt], h1, h2, hv, h4⟩
   · rw [if_neg z]
     have ih := ih h4 nd.2
     have e : storedH ((q, u, w) :: xs') k t v = (q, u, w) :: storedH xs' k t v := by
       have e1 : atKey ((q, u, w) :: xs') k = atKey xs' k := by
         unfold atKey
         rw [List.find?_cons_of_neg (by simpa using z)]
       unfold storedH
       rw [e1]
       split
       · rw [List.map_cons, putAt, if_neg z]
       · rfl
     rw [e]
     exact (TKR_cons ..).mpr ⟨u, w, _, us, rfl, h1, h2, h3, ih⟩
end
section
variable {G : Gl} {D : Nat} {cs : Scope} {cl : List (Str × Addr)} {m : Loc} {H : AHeap}
theorem WE.dict0T {pos : Pos} {Q : AQ} (h : ∀ l, H l = none → Q (.ref l) (H.put l (.tdict []))) : WE G D cs cl (.Dict [] [] pos) m H Q where
 go := fun c h1 h2 ok mm news s St lr Q' E k => by
   refine newDict_K St.fr St.nw ok.top.nolimit fun d h' o F N lt lo hs _ _ _ => ?_
   have hs' : o.IsDictOf (strKind G.prog G.w) [] := hs
   (refine exEEAAAA (hs') fun es ep hc hdat _ hp _ => ?_; clear hs')
   have he : es.toList = [] := List.length_eq_zero_iff.mp hp.length
   (refine exA (St.pushO (o := .tdict []) F N (lt_ne lt) ⟨hc, es, ep, [], hdat, he, List.nodup_nil, (TKR_nil _).mpr rfl⟩ (fun _ => lo)) fun S2 K2 => ?_)
   exact k (.ref d) (.ref d) _ _ _ _ S2 K2 rfl (h d (St.off (lt_ne lt)))
theorem WB.getT {l : Addr} {es : List (List Atom × AV)} {k : List Atom} {d : AV} {Q : AQ} (hl : H l = some (.tdict es)) (h : Q ((es.lookup k).getD d) H) : WB G (D + 1) (.builtin "dict.get") [.ref l, .tup (k.map Atom.av), d] H Q where
 go := fun c ok mm news s S vals hv Q' E kk => by
   (refine exEEEAAA (list3 hv) fun v w x zq0 h1 h2 h3 => ?_; rcases zq0 with rfl)
   have : v = .ref l := h1
   subst this
   (refine exEEAA ((VR_tup ..).mp h2) fun t vs zq0 hm hvs => ?_; rcases zq0 with rfl)
   (refine exEEAA (TKR.dictOf S hl) fun ob xs hmd hD hT => ?_)
   refine call_meetsIn PySem.F.slot_dict_get hD.typeIs PySem.F.entry_dict_get (PySem.F.args_dict_get_3 _ _ _) (meetsH_dict_get_default (tK G) l t (S.lo l _ hl rfl) x) ⟨tupleKind_room_in1 (by have := ok.units; lia), k, xs, key_is S.nw hm hvs, hD, ?_⟩
   cases e : es.lookup k with
   | some a =>
     (refine exEA (hT.has e) fun p e1 e2 => ?_)
     rw [e] at h
     rw [e1]
     exact kk _ a H news s.heap _ S Keep.rfl e2 h
   | none =>
     rw [e] at h
     rw [hT.miss e]
     exact kk _ d H news s.heap _ S Keep.rfl h3 h
theorem WSt.tdict {l : Addr} {es : List (List Atom × AV)} {k : List Atom} {a : AV} {Q : AHeap → Prop} (hl : H l = some (.tdict es)) (hz : es.length ≤ 16000000) (h : Q (H.put l (.tdict (putD k a es)))) : WSt G (D + 1) (.ref l) (.tup (k.map Atom.av)) a H Q where
 go := fun c ok mm news s S va vi vv ha hi hv Q' E kk => by
   have : va = .ref l := ha
   subst this
   (refine exEEAA ((VR_tup ..).mp hi) fun t vs zq0 hm hvs => ?_; rcases zq0 with rfl)
   (refine exEEAA (TKR.dictOf S hl) fun ob xs hmd hD hT => ?_)
   refine wpAny_setItem_heap (knd := tK G) (xs := xs) (tupleKind_room_in1 (by have := ok.units; lia)) (key_is S.nw hm hvs) hD (fun h' hD' hs => ?_) (by rw [hT.length, sizeLine_eq]; (exact Nat.le_trans (by assumption) (Nat.le_of_ble_eq_true rfl)))
   (refine exEEE (hD') fun o' es' ep' zs4 => ?_; clear hD'; refine exAAAAA (zs4) fun ho' hc' hd' he' _ hn' => ?_; clear zs4)
   (refine exEAAAA (upd_of o' S.nd hmd) fun n' U hk u1 u2 _ => ?_)
   (refine exEEE (hD) fun o0 es0 ep0 zs5 => ?_; clear hD; refine exAAAAA (zs5) fun ho0 hc0 hd0 he0 _ hn0 => ?_; clear zs5)
   have z := S.nw _ hmd
   have N : News c.h₀ c.L h' n' := by
     have := S.nw.replace hs ho'
     (refine exEEAAA (U.split) fun pre post e1 e2 a1 b1 => ?_)
     subst e1 e2
     intro p hp
     refine this p ?_
     rcases List.mem_append.mp hp with hp | hp
     · exact List.mem_map.mpr ⟨p, List.mem_append_left _ hp, by rw [if_neg (a1 p hp)]⟩
     · rcases List.mem_cons.mp hp with rfl | hp
       · exact List.mem_map.mpr ⟨(l, ob), List.mem_append_right _ (.head _), by (exact if_pos rfl)⟩
       · exact List.mem_map.mpr ⟨p, List.mem_append_right _ (.tail _ hp), by rw [if_neg (b1 p hp)]⟩
   (refine exAA (S.upd (o' := .tdict (putD k a es)) hl hmd (S.fr.change hs z.2.1 z.2.2) N hk u1 u2 ⟨hc', es', ep', storedH xs k t vv, hd', he', hn', hT.put hm hvs hv hn0⟩) fun S' K' sub => ?_)
   exact kk _ n' h' _ S' K' h
theorem dictGet_miss {prog : Program} {w : World} {A : Around} {E : Value → Shared → Prop} {s : Shared} {K : Type} [DecidableEq K] {knd : HeapKind prog w K} {d : Addr} {xs : List (K × Addr × Value)} {key : Value} {Q : Option Value → Shared → Prop} (hk3 : (∃ n t, key = .int n t) ∨ (∃ n t, key = .str n t)) (hne : xs ≠ []) (hD : s.heap.DictOfH knd d xs)
   (heq : ∀ x ∈ xs, ∀ (s' : Shared), s'.heap = s.heap → ∀ (Q : Bool → Shared → Prop) E, Q false s' → wpAny (model prog w) A (eqBool (.ref x.2.1) key) Q E s') (hQ : ∀ tk, Q none { s with toks := tk }) : wpAny (model prog w) A (dictGet d key) Q E s := by
 (refine exEEE (hD) fun o es ep zs6 => ?_; clear hD; refine exAAAAA (zs6) fun ho _ hd he his hn => ?_; clear zs6)
 unfold dictGet
 try with_reducible refine wpAny_holding ?_
 have hf : ∀ h, wpAny (model prog w) A (dictFind d key h >>= fun __do_lift => match __do_lift with
   | some i => do
     let __do_lift ← dictEntries d (keyPart key)
     pure (Option.map (fun x => x.val) __do_lift[i]?)
   | none => pure none) Q E { s with toks := s.toks + 1 } := fun h => by
   refine wpAny_bind (find_miss (s := { s with toks := s.toks + 1 }) hk3 hne ho hd he his (fun x hx Q E q => heq x hx { s with toks := s.toks + 1 } rfl Q E q) ?_)
   exact wpAny_pure (hQ _)
 rcases hk3 with ⟨n, t, rfl⟩ | ⟨n, t, rfl⟩
 · exact wpAny_bind (wpAny_pyHash_int (hf _))
 · exact wpAny_bind (wpAny_pyHash_str (hf _))
noncomputable def Atom.dat : Atom → PyData
 | .i n => .int n
 | .s x => .str x
theorem reads_atoms {h₀ h : Heap} {L : Addr} {mm : Str → Option Value} {news : Led} (S : St G h₀ L mm H news h) : ∀ {k : List Atom} {vs : List Value}, VRs news (k.map Atom.av) vs → ∃ rs, ReadsAll h vs (k.map Atom.dat) rs := by
 intro zz
 induction zz with
 | nil =>
   intro vs hv
   rw [(VRs_nil ..).mp hv]; exact ⟨_, .nil⟩
 | cons a k ih =>
   intro vs hv
   (refine exEEAA ((VRs_cons ..).mp hv) fun v r zq0 h1 h2 => ?_; rcases zq0 with rfl)
   (refine exE (ih h2) fun rs hr => ?_)
   cases a with
   | i n => (refine exE (h1) fun t zq0 => ?_; clear h1; rcases zq0 with rfl); exact ⟨_, .cons (.int n t) hr⟩
   | s x => (refine exE (h1) fun t zq0 => ?_; clear h1; rcases zq0 with rfl); exact ⟨_, .cons (.str x t) hr⟩
theorem eqBool_tup_val {h₀ : Heap} {L : Addr} {mm : Str → Option Value} {news : Led} {A : Around} {s : Shared} (S : St G h₀ L mm H news s.heap) {t : Addr} {vs : List Value} {k : List Atom} (hm : (t, tupObj vs) ∈ news) (hv : VRs news (k.map Atom.av) vs) (hs : SeqAt.shaped (.tuple (k.map Atom.dat)) = true) {key : Value} {dk : PyData} (hr : Reads s.heap key dk []) (hsk : SeqAt.shaped dk = true) (hb : (Value.ref t == key) = false)
   (hdk : PyData.eqv (.tuple (k.map Atom.dat)) dk = false) (hk3 : (∃ n t, key = .int n t) ∨ (∃ n t, key = .str n t)) (hu : A.units + 64 < cLine) {Q : Bool → Shared → Prop} {E : Value → Shared → Prop} (q : Q false s) : wpAny (model G.prog G.w) A (eqBool (.ref t) key) Q E s := by
 (refine exE (reads_atoms S hv) fun rs hrs => ?_)
 have ra : Reads s.heap (.ref t) (.tuple (k.map Atom.dat)) rs := .tuple (vs := vs.toArray) (n := 0) (S.nw _ hm).1 rfl rfl (by simpa using hrs)
 unfold eqBool
 try with_reducible refine wpAny_holding ?_
 rw [if_neg (by rw [hb]; exact Bool.false_ne_true)]
 have main : wpAny (model G.prog G.w) A (richCompare .Eq (.ref t) key >>= fun r => truthOfDropped r) Q E s := by
   refine wpAny_bind ?_
   have := eq_dataH (prog := G.prog) (w := G.w) (A := A) (E := E) (s := s) (Q := fun v s' => wpAny (model G.prog G.w) A (truthOfDropped v) Q E s') ra hr hs hsk hu (by rw [hdk]; exact wpAny_truthy_bool q)
   exact this
 rcases hk3 with ⟨n, u, rfl⟩ | ⟨n, u, rfl⟩
 · exact main
 · exact main
theorem TKR.keys {news : Led} : ∀ {es : List (List Atom × AV)} {xs}, TKR news es xs → ∀ x ∈ xs, ∃ p ∈ es, ∃ vs, p.1 = x.1 ∧ (x.2.1, tupObj vs) ∈ news ∧ VRs news (p.1.map Atom.av) vs := by
 intro zz
 induction zz with
 | nil =>
   intro xs hr x hx
   rw [(TKR_nil _).mp hr] at hx; cases hx
 | cons qx r ih =>
   obtain ⟨k, a⟩ := qx
   intro xs hr x hx
   (refine exEEEEAAAA ((TKR_cons ..).mp hr) fun t v xs' vs zq0 h1 h2 h3 h4 => ?_; rcases zq0 with rfl)
   rcases List.mem_cons.mp hx with rfl | hx
   · exact ⟨(k, a), .head _, vs, rfl, h1, h2⟩
   · (refine exEA (ih h4 x hx) fun p hp q => ?_)
     exact ⟨p, .tail _ hp, q⟩
theorem get_miss {c : Cx} (ok : c.Ok G (D + 9)) {mm news s} (S : St G c.h₀ c.L mm H news s.heap) {l : Addr} {es : List (List Atom × AV)} {key x : Value} {dk : PyData} (hl : H l = some (.tdict es)) (hne : es ≠ []) (hs : ∀ p ∈ es, SeqAt.shaped (.tuple (p.1.map Atom.dat)) = true)
   (hk3 : (∃ n t, key = .int n t) ∨ (∃ n t, key = .str n t)) (hr : ∀ h, Reads h key dk []) (hsk : SeqAt.shaped dk = true) (hdk : ∀ ds, PyData.eqv (.tuple ds) dk = false) {Q' : Value → Shared → Prop} {E : Value → Shared → Prop} (k : ∀ tk, Q' x { s with toks := tk }) :
   wpAny (model G.prog G.w) c.A (call (.builtin "dict.get") [.ref l, key, x]) Q' E s := by
 (refine exEEAA (TKR.dictOf S hl) fun ob xs hmd hD hT => ?_)
 have hxs : xs ≠ [] := fun z => by have := hT.length; rw [z] at this; exact hne (List.length_eq_zero_iff.mp this.symm)
 refine call_meetsIn (S := fun A' R s' => (A' = c.A ∧ s' = s) ∧ ∀ tk, R (.ok (.ret x)) { s with toks := tk }) PySem.F.slot_dict_get hD.typeIs PySem.F.entry_dict_get (PySem.F.args_dict_get_3 _ _ _) (MeetsIn.of_wp ?_) ⟨⟨rfl, rfl⟩, fun tk => k tk⟩
 (intro A'; intro R; intro s'; intro zq0; refine exA (zq0) fun zq1 hR => ?_; clear zq0; refine exA (zq1) fun zq2 zq3 => ?_; clear zq1; rcases zq2 with rfl; rcases zq3 with rfl)
 show wpAny _ _ (dictGet l key >>= _) _ _ _
 refine wpAny_bind (dictGet_miss hk3 hxs hD (fun y hy s'' hs'' Q E q => ?_) fun tk => ?_)
 · (refine exEAEAA (hT.keys y hy) fun p hp vs e1 e2 e3 => ?_)
   have S'' : St G c.h₀ c.L mm H news s''.heap := by rw [hs'']; exact S
   refine eqBool_tup_val S'' e2 e3 (hs p hp) (hr _) hsk ?_ (hdk _) hk3 ?_ q
   · rcases hk3 with ⟨n, u, rfl⟩ | ⟨n, u, rfl⟩ <;> rfl
   · have := ok.units
     show c.A.units + 1 + 64 < cLine
     lia
 · dsimp only
   show wpAny _ _ (Builtin.Dict.missed l key >>= _) _ _ _
   exact wpAny_bind (wpAny_missed_other (S.lo l _ hl rfl) (wpAny_pure ⟨x, rfl, hR tk⟩))
theorem WB.getTi {l : Addr} {es : List (List Atom × AV)} {i : Int} {d : AV} {Q : AQ} (hl : H l = some (.tdict es)) (hne : es ≠ []) (hs : ∀ p ∈ es, SeqAt.shaped (.tuple (p.1.map Atom.dat)) = true) (h : Q d H) : WB G (D + 9) (.builtin "dict.get") [.ref l, .int i, d] H Q where
 go := fun c ok mm news s S vals hv Q' E kk => by
   (refine exEEEAAA (list3 hv) fun v w x zq0 h1 h2 h3 => ?_; rcases zq0 with rfl)
   have : v = .ref l := h1
   subst this
   (refine exE (h2) fun t zq0 => ?_; clear h2; rcases zq0 with rfl)
   exact get_miss ok S hl hne hs (dk := .int i) (.inl ⟨_, _, rfl⟩) (fun h => .int i t) (by (rfl)) (fun ds => by simp [PyData.eqv]) fun tk => kk x d H news s.heap tk S Keep.rfl h3 h
theorem WB.getTs {l : Addr} {es : List (List Atom × AV)} {i : Str} {d : AV} {Q : AQ} (hl : H l = some (.tdict es)) (hne : es ≠ []) (hs : ∀ p ∈ es, SeqAt.shaped (.tuple (p.1.map Atom.dat)) = true) (hi : SeqAt.shaped (.str i) = true) (h : Q d H) : WB G (D + 9) (.builtin "dict.get") [.ref l, .str i, d] H Q where
 go := fun c ok mm news s S vals hv Q' E kk => by
   (refine exEEEAAA (list3 hv) fun v w x zq0 h1 h2 h3 => ?_; rcases zq0 with rfl)
   have : v = .ref l := h1
   subst this
   (refine exE (h2) fun t zq0 => ?_; clear h2; rcases zq0 with rfl)
   exact get_miss ok S hl hne hs (dk := .str i) (.inr ⟨_, _, rfl⟩) (fun h => .str i t) hi (fun ds => by simp [PyData.eqv]) fun tk => kk x d H news s.heap tk S Keep.rfl h3 h
end
noncomputable def InBk (C : Addr) (x : Str) (a : AV) (H : AHeap) (news : Led) (h : Heap) : Prop := H C = none ∧ ∃ oC nm v, (C, oC) ∈ news ∧ h.Ns C nm ∧ nm x = some v ∧ VR news a v
structure CE (G : Gl) (D : Nat) (fs : Scope) (fcl : List (Str × Addr)) (sc : Scope) (bcl : List (Str × Addr)) (x : Str) (a : AV) (e : Expr) (H : AHeap) (Q : AV → AHeap → Prop) : Prop where
 go : ∀ c : Cx, c.cs = fs → c.cl = fcl → c.Ok G D → ∀ mm news s C, St G c.h₀ c.L mm H news s.heap → InBk C x a H news s.heap → ∀ (Q' : Value → Shared → Prop) E,
   (∀ v r H' news' h' tk, St G c.h₀ c.L mm H' news' h' → Keep H H' news news' → VR news' r v → Q r H' → Q' v { s with heap := h', toks := tk }) →
   wpAny (model G.prog G.w) c.A (eval e (compEnvC sc bcl C c.env)) Q' E s
theorem CE.mono {G : Gl} {D : Nat} {fs : Scope} {fcl : List (Str × Addr)} {sc : Scope} {bcl : List (Str × Addr)} {x : Str} {a : AV} {e : Expr} {H : AHeap} {Q Q' : AV → AHeap → Prop} (h : CE G D fs fcl sc bcl x a e H Q) (k : ∀ a H, Q a H → Q' a H) : CE G D fs fcl sc bcl x a e H Q' :=
 ⟨fun c h1 h2 ok mm news s C S b Q₀ E c' => h.go c h1 h2 ok mm news s C S b Q₀ E fun v a H' news' h' tk a1 a2 a3 a4 => c' v a H' news' h' tk a1 a2 a3 (k _ _ a4)⟩
@[reducible] noncomputable def CompN (G : Gl) (D : Nat) (fs : Scope) (fcl : List (Str × Addr)) (sc : Scope) (bcl : List (Str × Addr)) (x : Str) (elt : Expr) (kp : Option (Addr × AO)) (Q : List AV → AHeap → Prop) : List AV → List AV → AHeap → Prop
 | [], acc, H => keepP kp H ∧ Q acc H
 | a :: as, acc, H => keepP kp H ∧ CE G D fs fcl sc bcl x a elt H fun r H' => CompN G D fs fcl sc bcl x elt kp Q as (acc ++ [r]) H'
theorem InBk.keep {G : Gl} {h₀ h h' : Heap} {L C : Addr} {mm : Str → Option Value} {x : Str} {a : AV} {H H' : AHeap} {news news' : Led} (S : St G h₀ L mm H news h) (S' : St G h₀ L mm H' news' h') (K : Keep H H' news news') (b : InBk C x a H news h) : InBk C x a H' news' h' := by
 (refine exAEEEAAA (b) fun b1 oC nm v b2 b3 b4 b5 => ?_; clear b)
 (refine exA (K _ b2 b1) fun k1 k2 => ?_)
 refine ⟨k2, oC, nm, v, k1, ?_, b4, S.vr K b5⟩
 (refine exEEEA (b3) fun o es ep e1 e2 => ?_; clear b3)
 have := (S.nw _ b2).1
 have : o = oC := Option.some.inj (e1.symm.trans this)
 subst this
 exact ⟨o, es, ep, (S'.nw _ k1).1, e2⟩
section
variable {G : Gl} {D : Nat} {fs : Scope} {fcl : List (Str × Addr)} {sc : Scope} {bcl : List (Str × Addr)} {x : Str} {elt : Expr} {H : AHeap}
structure CompI (G : Gl) (D : Nat) (fs : Scope) (fcl : List (Str × Addr)) (sc : Scope) (bcl : List (Str × Addr)) (x : Str) (elt : Expr) (kp : Option (Addr × AO)) (Q : List AV → AHeap → Prop) (c : Cx) (I Da C : Addr) (fp : List Addr) (SI : Nat → Heap → Prop) (items : List AV) (news₀ : Led) (H : AHeap) (mm : Str → Option Value) (s : Shared) (j : Nat) (s' : Shared) : Prop where
 go : ∃ i acc accV nD H' n' h' tk oI oC nm, i + j = items.length ∧ s' = { s with heap := h', toks := tk } ∧ St G c.h₀ c.L mm H' n' h' ∧ (I, oI) ∈ n' ∧ H' I = none ∧ SI i h' ∧ (Da, listOf (List.toArray accV) nD) ∈ n' ∧ H' Da = none ∧ VRs n' acc accV ∧ accV.length = i ∧ (C, oC) ∈ n' ∧ H' C = none ∧ h'.Ns C nm ∧
   (∀ p ∈ news₀, p.1 ≠ I → H p.1 = none → p ∈ n' ∧ H' p.1 = none) ∧ (∀ a vs, (a, tupObj vs) ∈ news₀ → (a, tupObj vs) ∈ n') ∧ (∀ b ∈ fp, b = I ∨ ∃ ob, (b, ob) ∈ n' ∧ b ≠ I ∧ ((H' b = none) ∨ ∃ o, kp = some (b, .ro o ob))) ∧
   CompN G D fs fcl sc bcl x elt kp Q (items.drop i) acc H'
theorem CompN.kp {kp : Option (Addr × AO)} {Q : List AV → AHeap → Prop} {as acc : List AV} {H : AHeap} (w : CompN G D fs fcl sc bcl x elt kp Q as acc H) : keepP kp H := by cases as <;> exact w.1
theorem ns_notTup {h : Heap} {C : Addr} {nm : Str → Option Value} {o : Obj} (n : h.Ns C nm) (e : h.get? C = some o) : ∀ vs, o ≠ tupObj vs := by
 intro vs z
 (refine exEEEAA (n) fun o' es ep e1 e2 _ => ?_; clear n)
 rw [e] at e1
 cases e1
 subst z
 cases e2
theorem St.turn2 {h₀ L mm news h h'} (S : St G h₀ L mm H news h) {I : Addr} {o o' : Obj} (hm : (I, o) ∈ news) (hH : H I = none) (hc : ∀ vs, o ≠ tupObj vs) (ho : h'.get? I = some o') (k : ∀ b o, b ≠ I → h.get? b = some o → h'.get? b = some o) :
   ∃ news', St G h₀ L mm H news' h' ∧ (I, o') ∈ news' ∧ (∀ p ∈ news, p.1 ≠ I → p ∈ news') ∧ (∀ a vs, (a, tupObj vs) ∈ news → (a, tupObj vs) ∈ news') := by
 (refine exEAAAA (upd_of o' S.nd hm) fun news' U hk u1 u2 u3 => ?_)
 have z := S.nw _ hm
 have sub : ∀ a vs, (a, tupObj vs) ∈ news → (a, tupObj vs) ∈ news' := fun a vs q => u1 _ q fun e => by
   dsimp only at e
   subst e
   exact hc _ (nodup_eq S.nd hm q)
 refine ⟨news', ⟨Fr.kept S.fr k (Ne.symm z.2.1) z.2.2, fun p hp => ?_, hk ▸ S.nd, fun a x e => ?_, S.lo⟩, u2, u1, sub⟩
 · by_cases q : p.1 = I
   · have : p = (I, o') := by
       obtain ⟨a, b⟩ := p
       dsimp only at q
       subst q
       rw [nodup_eq (hk ▸ S.nd) hp u2]
     subst this
     exact ⟨ho, z.2⟩
   · have y := S.nw p (u3 p hp q)
     exact ⟨k _ _ q y.1, y.2⟩
 · (refine exEA (S.hr a x e) fun ob h1 h2 => ?_)
   have : a ≠ I := fun q => by rw [q, hH] at e; (exact noneE e)
   exact ⟨ob, u1 _ h1 this, h2.sub sub⟩
theorem St.forget2 {h₀ L mm news h h'} (S : St G h₀ L mm H news h) {I : Addr} {o : Obj} (hm : (I, o) ∈ news) (hH : H I = none) (hc : ∀ vs, o ≠ tupObj vs) (k : ∀ b o, b ≠ I → h.get? b = some o → h'.get? b = some o) :
   ∃ news', St G h₀ L mm H news' h' ∧ (∀ p ∈ news, p.1 ≠ I → p ∈ news') ∧ (∀ a vs, (a, tupObj vs) ∈ news → (a, tupObj vs) ∈ news') := by
 have z := S.nw _ hm
 have mem : ∀ p ∈ news, p.1 ≠ I → p ∈ news.filter fun p => !decide (p.1 = I) := fun p hp q => List.mem_filter.mpr ⟨hp, by simpa using q⟩
 have sub : ∀ a vs, (a, tupObj vs) ∈ news → (a, tupObj vs) ∈ news.filter fun p => !decide (p.1 = I) := fun a vs q => mem _ q fun e => by
   dsimp only at e
   subst e
   exact hc _ (nodup_eq S.nd hm q)
 refine ⟨news.filter fun p => !decide (p.1 = I), ⟨Fr.kept S.fr k (Ne.symm z.2.1) z.2.2, fun p hp => ?_, ?_, fun a x e => ?_, S.lo⟩, mem, sub⟩
 · (refine exA (List.mem_filter.mp hp) fun hp q => ?_)
   have q : p.1 ≠ I := by simpa using q
   have y := S.nw p hp
   exact ⟨k _ _ q y.1, y.2⟩
 · exact List.Nodup.sublist (List.filter_sublist.map _) S.nd
 · (refine exEA (S.hr a x e) fun ob h1 h2 => ?_)
   have : a ≠ I := fun q => by rw [q, hH] at e; (exact noneE e)
   exact ⟨ob, mem _ h1 this, h2.sub sub⟩
theorem comp_turns {prog : Program} {w : World} {A : Around} {R : Result → Shared → Prop} {elt iter target : Expr} {scope : Scope} {pos : Pos} {it acc : Value} {env : Env} (J : Nat → Shared → Prop) (ht : ∀ v, letOwnedTupleGo target it v = pure ())
   (turn : ∀ (P1 : Option Value → Shared → Prop) (P2 : Shared → Prop) (P3 : Value → Shared → Prop) (P4 : Shared → Prop) (E : Value → Shared → Prop) (n : Nat), (∀ s, R (.ok .next) s → P1 none s) → (∀ v s, wpAny (model prog w) A (assign target env v) (fun _ => P2) E s → P1 (some v) s) →
     (∀ s, wpAny (model prog w) A (eval elt env) P3 E s → P2 s) → (∀ v s, wpAny (model prog w) A (call (.builtin "list.append") [acc, v]) (fun _ => P4) E s → P3 v s) → (∀ m s, m < n → J m s → P4 s) → ∀ s, J n s → wpAny (model prog w) A (pyNext it) P1 E s)
   (n : Nat) {s : Shared} (h : J n s) : codeAny (model prog w) A (.compLoop (.ListComp elt [⟨target, iter, [], 0⟩] scope pos) 0 it acc env) R s :=
 codeAny_compLoop_list J (fun n s hI => turn _ _ _ _ _ n (fun _ h => h) (fun _ _ h => h) (fun _ h => h) (fun _ _ h => h) (fun m s a b => ⟨m, a, b⟩) s hI) n h ht
theorem compLoop_go {px : Pos} {iter : Expr} {pos : Pos} {kp : Option (Addr × AO)} {Q : List AV → AHeap → Prop} {c : Cx} (h1 : c.cs = fs) (h2 : c.cl = fcl) (ok : c.Ok G D) {I Da C : Addr} {fp : List Addr} {n : Nat} {P : Nat → Value → Prop} {SI : Nat → Heap → Prop}
   (W : Walks G.prog G.w c.A I fp [I] n P SI) (hcls : ∀ i h, SI i h → ∃ o, h.get? I = some o ∧ (o.cls == .type "tuple") = false) (hx : sc.names.lookup x = some .local) (hkind : sc.kind = .function) {items : List AV} (hn : items.length = n) (hz : n ≤ 1000000)
   (dIC : I ≠ C) (dID : I ≠ Da) (dDC : Da ≠ C) (fC : C ∉ fp) (fD : Da ∉ fp)
   {mm news₀ s} (new0 : ∀ p ∈ news₀, p.1 ≠ C ∧ p.1 ≠ Da) (hP : ∀ i v a, P i v → items[i]? = some a → VR news₀ a v) {R : Result → Shared → Prop}
   (k : ∀ acc accV nD H' news' h' tk oC nm, St G c.h₀ c.L mm H' news' h' → (Da, listOf (List.toArray accV) nD) ∈ news' → H' Da = none → VRs news' acc accV → (C, oC) ∈ news' → H' C = none → h'.Ns C nm → (∀ p ∈ news₀, p.1 ≠ I → H p.1 = none → p ∈ news' ∧ H' p.1 = none) → (∀ a vs, (a, tupObj vs) ∈ news₀ → (a, tupObj vs) ∈ news') → keepP kp H' → Q acc H' → R (.ok .next) { s with heap := h', toks := tk }) :
   ∀ j s', CompI G D fs fcl sc bcl x elt kp Q c I Da C fp SI items news₀ H mm s j s' → codeAny (model G.prog G.w) c.A (.compLoop (.ListComp elt [⟨.Name x px, iter, [], 0⟩] sc pos) 0 (.ref I) (.ref Da) (compEnvC sc bcl C c.env)) R s' := by
 intro j s' J
 refine comp_turns (CompI G D fs fcl sc bcl x elt kp Q c I Da C fp SI items news₀ H mm s) (fun _ => rfl) (fun P1 P2 P3 P4 E j t1 t2 t3 t4 t5 s' J => ?_) j J
 (refine exEEEEEEEEEEE (J.go) fun i acc accV nD H1 n1 h1' tk1 oI oC nm zs7 => ?_; refine exAAAAAAAAAAAAAAAA (zs7) fun hij e0 S1 I1 HI1 si D1 HD1 V1 hlen C1 HC1 ns1 kk tt fk w1 => ?_; clear zs7)
 rw [e0]
 clear e0 J
 (refine exEA (hcls _ _ si) fun oc hoc hcc => ?_)
 replace hcc : (oI.cls == .type "tuple") = false := (show oI = oc from Option.some.inj ((S1.nw _ I1).1.symm.trans hoc)) ▸ hcc
 clear hoc
 by_cases hlt : i < n
 · refine W.item i _ _ _ hlt si fun v h2' tk2 pv si2 hk2 => t2 _ _ ?_
   clear t1 t2 k
   replace hk2 : ∀ b o, b ≠ I → h1'.get? b = some o → h2'.get? b = some o := fun b o hb e => hk2 b o (fun z => hb (List.mem_singleton.mp z)) e
   (refine exEA (hcls _ _ si2) fun o2 ho2 hc2 => ?_)
   (refine exEAAA (S1.turn I1 HI1 hcc ho2 hk2) fun n2 S2 I2 u1 sub2 => ?_)
   have ns2 : h2'.Ns C nm := ns1.at' fun o e => hk2 C o dIC.symm e
   have C2 := u1 _ C1 dIC.symm
   refine wpAny_assign_Name (wpAny_storeName_local (lookup_relabel_local hx) ns2 (fun h3 ns3 sb3 => t3 _ ?_) (by simp [compEnvC, relabel, hkind]))
   clear t3
   (refine exEEEAA (id ns3) fun oC3 es3 ep3 eC3 dC3 rC3 => ?_)
   (refine exEAAA (S2.turn2 C2 HC1 (ns_notTup ns2 (S2.nw _ C2).1) eC3 (fun b o hb e => sb3.extBut b o hb e)) fun n3 S3 C3 u3 sub3 => ?_)
   have hi : i < items.length := hn.symm ▸ hlt
   have w1 : keepP kp H1 ∧ CE G D fs fcl sc bcl x items[i] elt H1 fun r H' => CompN G D fs fcl sc bcl x elt kp Q (items.drop (i + 1)) (acc ++ [r]) H' := by
     rw [List.drop_eq_getElem_cons hi] at w1
     exact w1
   refine w1.2.go c h1 h2 ok mm n3 { s with heap := h3, toks := tk2 + 1 } C S3 ⟨HC1, oC3, _, v, C3, ns3, if_pos rfl, ((hP i v _ pv (List.getElem?_eq_getElem hi)).sub fun b vs q => sub2 _ _ (tt _ _ q)).sub sub3⟩ _ _ fun v4 r H4 n4 h4 tk4 S4 K4 V4 w4 => t4 _ _ ?_
   clear t4
   have I4 := K4 _ (u3 _ I2 dIC) HI1
   have D4 := K4 _ (u3 _ (u1 _ D1 dID.symm) dDC) HD1
   have C4 := K4 _ C3 HC1
   (refine exEAAAA (upd_of (listOf ((List.toArray accV).push v4) (nD + 1)) S4.nd D4.1) fun n5 U hk5 u5 u52 _ => ?_)
   refine append_K S4.fr S4.nw U (fun h5 F5 N5 => ?_) (by rw [List.size_toArray, hlen, sizeLine_eq]; lia)
   have sub5 : ∀ a vs, (a, tupObj vs) ∈ n4 → (a, tupObj vs) ∈ n5 := fun a vs q => u5 _ q fun z => (clsTup (ob := listOf (List.toArray accV) nD) rfl) vs (nodup_eq S4.nd D4.1 ((show a = Da from z) ▸ q))
   have S5 : St G c.h₀ c.L mm H4 n5 h5 := ⟨F5, N5, hk5 ▸ S4.nd, fun a o e => Exists.elim (S4.hr a o e) fun ob q => ⟨ob, u5 _ q.1 (fun z => nomatch (((show a = Da from z) ▸ e).symm.trans D4.2)), q.2.sub sub5⟩, S4.lo⟩
   have C5 := u5 _ C4.1 dDC.symm
   have I5 := u5 _ I4.1 dID
   have sub : ∀ a vs, (a, tupObj vs) ∈ n1 → (a, tupObj vs) ∈ n5 := fun a vs q => sub5 _ _ ((S3.sub K4) _ _ (sub3 _ _ (sub2 _ _ q)))
   have mv : ∀ p ∈ n1, p.1 ≠ I → p.1 ≠ C → p.1 ≠ Da → H1 p.1 = none → p ∈ n5 ∧ H4 p.1 = none := fun p m nI nC nD e => have z := K4 p (u3 p (u1 p m nI) nC) e; ⟨u5 p z.1 nD, z.2⟩
   have pin : ∀ b ∈ fp, b = I ∨ ∃ ob, (b, ob) ∈ n1 ∧ (b, ob) ∈ n5 ∧ b ≠ I ∧ ((H4 b = none) ∨ ∃ o, kp = some (b, .ro o ob)) := fun b hb => by
     rcases fk b hb with e | ⟨ob, m1, ne, e⟩
     · exact .inl e
     · refine .inr ⟨ob, m1, ?_⟩
       rcases e with e | ⟨o, e⟩
       · have z := mv _ m1 ne (fun z => fC (z ▸ hb)) (fun z => fD (z ▸ hb)) e
         exact ⟨z.1, ne, .inl z.2⟩
       · have kp4 := CompN.kp w4
         rw [e] at kp4
         (refine exEA (S4.hr b _ kp4) fun ob' b1 b2 => ?_)
         exact ⟨u5 _ (b2.1 ▸ b1) (fun z => fD (z ▸ hb)), ne, .inr ⟨o, e⟩⟩
   refine t5 (j - 1) _ (by lia) ⟨i + 1, acc ++ [r], accV ++ [v4], nD + 1, H4, n5, h5, tk4, o2, oC3, _, by lia, rfl, S5, I5, I4.2, ?_, by simpa using u52, D4.2, VRs.push ((((V1.sub sub2).sub sub3).sub (S3.sub K4)).sub sub5) (V4.sub sub5), by rw [List.length_append, hlen]; rfl, C5, C4.2, ⟨oC3, es3, ep3, (S5.nw _ C5).1, dC3, rC3⟩, fun p hp hpI e => have q := kk p hp hpI e; mv p q.1 hpI (new0 p hp).1 (new0 p hp).2 q.2, fun a vs q => sub _ _ (tt _ _ q), fun b hb => (pin b hb).imp id fun ⟨ob, _, a, b, c⟩ => ⟨ob, a, b, c⟩, w4⟩
   refine W.frame (i + 1) h2' h5 si2 fun b hb o e => ?_
   rcases pin b hb with z | ⟨ob, m1, m5, ne, _⟩
   · have e : h2'.get? I = some o := z ▸ e
     rw [z, Option.some.inj (e.symm.trans ho2)]
     exact (S5.nw _ I5).1
   · rw [Option.some.inj (e.symm.trans (S2.nw _ (u1 _ m1 ne)).1)]
     exact (S5.nw _ m5).1
 · have hi : items.drop i = [] := List.drop_eq_nil_of_le (by lia)
   rw [hi] at w1
   refine W.done _ _ _ (Nat.le_antisymm (by lia) (Nat.le_of_not_lt hlt) ▸ si) fun h2' tk2 hk2 => t1 _ ?_
   replace hk2 : ∀ b o, b ≠ I → h1'.get? b = some o → h2'.get? b = some o := fun b o hb e => hk2 b o (fun z => hb (List.mem_singleton.mp z)) e
   (refine exEAA (S1.forget I1 HI1 hcc hk2) fun n2 S2 u1 sub2 => ?_)
   exact k acc accV nD H1 n2 h2' tk2 oC nm S2 (u1 _ D1 dID.symm) HD1 (V1.sub sub2) (u1 _ C1 dIC.symm) HC1 (ns1.at' fun o e => hk2 C o dIC.symm e) (fun p hp hpI e => have z := kk p hp hpI e; ⟨u1 p z.1 hpI, z.2⟩) (fun a vs q => sub2 _ _ (tt _ _ q)) w1.1 w1.2
theorem comp_tail {px : Pos} {iter : Expr} {pos : Pos} {kp : Option (Addr × AO)} {Q : List AV → AHeap → Prop} {c : Cx} (h1 : c.cs = fs) (h2 : c.cl = fcl) (ok : c.Ok G D) {I : Addr} {fp : List Addr} {n : Nat} {P : Nat → Value → Prop} {SI : Nat → Heap → Prop}
   (W : Walks G.prog G.w c.A I fp [I] n P SI) (hcls : ∀ i h, SI i h → ∃ o, h.get? I = some o ∧ (o.cls == .type "tuple") = false) (hx : sc.names.lookup x = some .local) (hkind : sc.kind = .function) (hcell : ∀ y ∈ sc.names, y.2 ≠ .cell) {items : List AV} (hn : items.length = n) (hz : n ≤ 1000000)
   {mm news s} (S : St G c.h₀ c.L mm H news s.heap) {oI : Obj} (hI : (I, oI) ∈ news) (hHI : H I = none) (s0 : SI 0 s.heap) (hP : ∀ i v a, P i v → items[i]? = some a → VR news a v)
   (hfp : ∀ b ∈ fp, b = I ∨ ∃ ob, (b, ob) ∈ news ∧ b ≠ I ∧ ((H b = none) ∨ ∃ o, kp = some (b, .ro o ob))) (w : CompN G D fs fcl sc bcl x elt kp Q items [] H) (E : Value → Shared → Prop) (RR : Value → Addr → Result → Shared → Prop)
   (k : ∀ d C acc H' news' h' tk oC nm, d ≠ C → St G c.h₀ c.L mm (H'.put d (.list acc)) news' h' → H' d = none → (C, oC) ∈ news' → (H'.put d (.list acc)) C = none → h'.Ns C nm → (∀ p ∈ news, p.1 ≠ I → H p.1 = none → p.1 ≠ C ∧ p ∈ news' ∧ (H'.put d (.list acc)) p.1 = none) → keepP kp H' → Q acc H' → RR (.ref d) C (.ok .next) { s with heap := h', toks := tk }) :
   wpAny (model G.prog G.w) c.A (newList []) (fun acc s₃ => wpAny (model G.prog G.w) c.A (newFunctionEnv sc c.env.globals bcl [] c.env.qual none .none (some c.env)) (fun cenv s₄ =>
     codeAny (model G.prog G.w) c.A (.compStart (.ListComp elt [⟨.Name x px, iter, [], 0⟩] sc pos) 0 (.ref I) acc { cenv with scope := relabel sc c.env }) (RR acc cenv.locals) s₄) E s₃) E s := by
 (refine exA (S.push (d := s.heap.objs.size) (ob := listOf #[] 0) (S.fr.push _) (S.nw.push S.fr _) (fresh_size S.nw)) fun S1 K1 => ?_)
 refine wpAny_newObj_type (wpAny_newFunctionEnv hcell (by intro y hy; simp at hy) (fun h₁ hns₁ hsb₁ => ?_) hkind)
 dsimp only at hns₁ hsb₁ ⊢
 have e0 : s.heap.push { cls := .type "list", dict := none, data := .seq ([] : List Value).toArray } = s.heap.push (listOf #[] 0) := rfl
 rw [e0] at hns₁ hsb₁ ⊢
 generalize hH2 : s.heap.push (listOf #[] 0) = H2 at hns₁ hsb₁ S1 ⊢
 have dI : I ≠ s.heap.objs.size := fresh_size S.nw _ hI
 have dI2 : I ≠ H2.objs.size := fresh_size S1.nw _ (.tail _ hI)
 have dD2 : s.heap.objs.size ≠ H2.objs.size := fresh_size S1.nw _ (.head _)
 have HD : H s.heap.objs.size = none := S.off (fresh_size S.nw)
 have HC : H H2.objs.size = none := S1.off (fresh_size S1.nw)
 (refine exA (S1.push (d := H2.objs.size) (ob := { cls := .type "dict", data := .dict #[] }) (S1.fr.push _) (S1.nw.push S1.fr _) (fresh_size S1.nw)) fun S2 K2 => ?_)
 (refine exEEEAA (id hns₁) fun oC esC epC eC dC rC => ?_)
 (refine exEAAA (S2.turn2 (I := H2.objs.size) (.head _) HC (by intro vs z; exact absurd (congrArg (fun o : Obj => o.cls == Value.type "tuple") z) (by (exact Bool.false_ne_true))) eC (fun b o hb e => hsb₁.extBut b o hb e)) ?_; intro n3 S3 C3 u3 sub3)
 have I3 := u3 _ (.tail _ (.tail _ hI)) dI2
 have D3 := u3 _ (.tail _ (.head _)) dD2
 have st3 : SI 0 h₁ := by
   refine W.frame 0 _ _ s0 fun b hb o e => ?_
   have : b ≠ H2.objs.size ∧ b ≠ s.heap.objs.size := by
     rcases hfp b hb with rfl | ⟨ob, m1, _⟩
     · exact ⟨dI2, dI⟩
     · exact ⟨fresh_size S1.nw _ (.tail _ m1), fresh_size S.nw _ m1⟩
   exact hsb₁.extBut b o this.1 (Heap.get?_push_of_some _ (hH2 ▸ Heap.get?_push_of_some _ e))
 have sub : ∀ a vs, (a, tupObj vs) ∈ news → (a, tupObj vs) ∈ n3 := fun a vs q => sub3 _ _ (.tail _ (.tail _ q))
 have loop : codeAny (model G.prog G.w) c.A (.compLoop (.ListComp elt [⟨.Name x px, iter, [], 0⟩] sc pos) 0 (.ref I) (.ref s.heap.objs.size) (compEnvC sc bcl H2.objs.size c.env)) (RR (.ref s.heap.objs.size) H2.objs.size) { s with heap := h₁, toks := s.toks + ([] : List (Str × Value)).length } := by
   refine compLoop_go (s := s) (H := H) (news₀ := news) h1 h2 ok W hcls hx hkind hn hz dI2 dI dD2 ?_ ?_ (fun p hp => ⟨fresh_size S1.nw _ (.tail _ hp), fresh_size S.nw _ hp⟩) hP (fun acc accV nD H' news' h' tk oC' nm S4 D4 HD4 V4 C4 HC4 ns4 kk tt kp4 q => ?_) items.length _
     ⟨0, [], [], 0, H, n3, h₁, _, oI, oC, _, by simp, rfl, S3, I3, hHI, st3, D3, HD, (VRs_nil ..).mpr rfl, rfl, C3, HC, hns₁, fun p hp hpI e => ⟨u3 _ (.tail _ (.tail _ hp)) (fresh_size S1.nw _ (.tail _ hp)), e⟩, sub, fun b hb => ?_, by simpa using w⟩
   · intro hm
     rcases hfp _ hm with z | ⟨ob, m1, _⟩
     · exact dI2 z.symm
     · exact fresh_size S1.nw _ (.tail _ m1) rfl
   · intro hm
     rcases hfp _ hm with z | ⟨ob, m1, _⟩
     · exact dI z.symm
     · exact fresh_size S.nw _ m1 rfl
   · have S6 : St G c.h₀ c.L mm (H'.put s.heap.objs.size (.list acc)) news' h' := ⟨S4.fr, S4.nw, S4.nd, fun a o e => by
       by_cases z : a = s.heap.objs.size
       · subst z; rw [AHeap.put_self] at e; cases e; exact ⟨_, D4, accV, nD, rfl, V4⟩
       · rw [AHeap.put_ne _ _ z] at e; exact S4.hr a o e, fun a o e i => by
       by_cases z : a = s.heap.objs.size
       · subst z; rw [AHeap.put_self] at e; cases e; (exact falseE i)
       · rw [AHeap.put_ne _ _ z] at e; exact S4.lo a o e i⟩
     refine k _ _ acc H' news' h' tk oC' nm dD2 S6 HD4 C4 ((AHeap.put_ne _ _ dD2.symm).trans HC4) ns4 (fun p hp hpI e => ?_) kp4 q
     (refine exA (kk p hp hpI e) fun q1 q2 => ?_)
     exact ⟨fresh_size S1.nw _ (.tail _ hp), q1, by rw [AHeap.put_ne _ _ (fresh_size S.nw _ hp)]; exact q2⟩
   · rcases hfp b hb with e | ⟨ob, m1, ne, e⟩
     · exact .inl e
     · exact .inr ⟨ob, u3 _ (.tail _ (.tail _ m1)) (fresh_size S1.nw _ (.tail _ m1)), ne, e⟩
 exact codeAny_compStart_list loop (W.self 0 _ _ _ st3 loop)
end
section
variable {G : Gl} {D : Nat} {cs : Scope} {cl : List (Str × Addr)} {sc : Scope} {bcl : List (Str × Addr)} {x : Str} {elt : Expr} {m : Loc} {H : AHeap}
theorem put_comm {H : AHeap} {a b : Addr} {o p : AO} (n : a ≠ b) : (H.put a o).put b p = (H.put b p).put a o := by
 funext y
 by_cases h1 : y = b
 · subst h1; rw [AHeap.put_self, AHeap.put_ne _ _ n.symm, AHeap.put_self]
 · rw [AHeap.put_ne _ _ h1]
   by_cases h2 : y = a
   · subst h2; rw [AHeap.put_self, AHeap.put_self]
   · rw [AHeap.put_ne _ _ h2, AHeap.put_ne _ _ h2, AHeap.put_ne _ _ h1]
noncomputable def CompGo (G : Gl) (D : Nat) (cs : Scope) (cl : List (Str × Addr)) (sc : Scope) (bcl : List (Str × Addr)) (x : Str) (elt iter : Expr) (m : Loc) (H : AHeap) (Q : AV → AHeap → Prop) : Prop :=
 ∀ (c : Cx), c.cs = cs → c.cl = cl → c.Ok G D → ∀ mm news s, St G c.h₀ c.L mm H news s.heap → LR news m mm → ∀ (px pos : Pos) (E : Value → Shared → Prop) (RR : Value → Addr → Result → Shared → Prop),
   (∀ d C H' news' h' tk oC nm, d ≠ C → St G c.h₀ c.L mm H' news' h' → (C, oC) ∈ news' → H' C = none → h'.Ns C nm → (∀ p ∈ news, H p.1 = none → p.1 ≠ C ∧ p ∈ news' ∧ H' p.1 = none) → Q (.ref d) H' → RR (.ref d) C (.ok .next) { s with heap := h', toks := tk }) →
   wpAny (model G.prog G.w) c.A (eval iter c.env) (fun xv s₁ => wpAny (model G.prog G.w) c.A (pyIter xv) (fun it s₂ => wpAny (model G.prog G.w) c.A (newList []) (fun acc s₃ => wpAny (model G.prog G.w) c.A (newFunctionEnv sc c.env.globals bcl [] c.env.qual none .none (some c.env)) (fun cenv s₄ =>
     codeAny (model G.prog G.w) c.A (.compStart (.ListComp elt [⟨.Name x px, iter, [], 0⟩] sc pos) 0 it acc { cenv with scope := relabel sc c.env }) (RR acc cenv.locals) s₄) E s₃) E s₂) E s₁) E s
theorem CompGo.tup {iter : Expr} {Q : AQ} (hx : sc.names.lookup x = some .local) (hkind : sc.kind = .function) (hcell : ∀ y ∈ sc.names, y.2 ≠ .cell)
   (h : WE G D cs cl iter m H fun a H1 => ∃ xs, a = .tup xs ∧ xs.length ≤ 1000000 ∧ CompN G D cs cl sc bcl x elt none (fun acc H2 => ∀ d, H2 d = none → Q (.ref d) (H2.put d (.list acc))) xs [] H1) : CompGo G D cs cl sc bcl x elt iter m H Q := by
 intro c h1 h2 ok mm news s S lr px pos E RR k
 refine h.go c h1 h2 ok mm news s S lr _ E fun v a H1 n1 h1' tk S1 K1 V1 w => ?_
 (refine exEAA (w) ?_; clear w; intro xs zq0 hz w; rcases zq0 with rfl)
 (refine exEEAA ((VR_tup ..).mp V1) fun t vs zq0 hm hv => ?_; rcases zq0 with rfl)
 have ht : h1'.IsTuple t vs.toArray := ⟨_, (S1.nw _ hm).1, rfl, 0, rfl⟩
 refine wpAny_pyIter_tuple (s := { s with heap := h1', toks := tk }) ht ?_
 have hne : t ≠ h1'.objs.size := fresh_size S1.nw _ hm
 (refine exA (S1.push (d := h1'.objs.size) (ob := { cls := .type "tuple_iterator", data := .fields #[.ref t, .int 0 0] }) (S1.fr.push _) (S1.nw.push S1.fr _) (fresh_size S1.nw)) fun S2 K2 => ?_)
 refine comp_tail h1 h2 ok (Walks.tuple ok.handled h1'.objs.size t hne vs.toArray) (fun i h hh => let ⟨o, a, b, _⟩ := hh.1; ⟨o, a, by rw [b]; rfl⟩) hx hkind hcell (items := xs) (by rw [List.size_toArray, hv.length]) (by rw [List.size_toArray, hv.length]; exact hz) (s := { s with heap := h1'.push { cls := .type "tuple_iterator", data := .fields #[.ref t, .int 0 0] }, toks := tk }) S2 (.head _) (S1.off (fresh_size S1.nw))
   ⟨⟨_, Heap.get?_push_size _ rfl, rfl, rfl⟩, _, Heap.get?_push_of_some _ (S1.nw _ hm).1, rfl, 0, rfl⟩ (fun i v a e1 e2 => (hv.sub sub_cons).get (by simpa using e1) e2) (fun b hb => ?_) (kp := none) w E RR fun d C acc H' n' h' tk' oC nm hdC S3 HD C3 HC ns3 kk _ q => ?_
 · rcases List.mem_cons.mp hb with rfl | hb
   · exact .inl rfl
   · have : b = t := by simpa using hb
     subst this
     exact .inr ⟨_, .tail _ hm, hne, .inl (S1.tupFree hm)⟩
 · refine k d C _ n' h' tk' oC nm hdC S3 C3 HC ns3 (fun p hp e => ?_) (q d HD)
   (refine exA (K1 p hp e) fun a1 a2 => ?_)
   exact kk p (.tail _ a1) (fresh_size S1.nw p a1) a2
theorem CompGo.list {iter : Expr} {Q : AQ} (hx : sc.names.lookup x = some .local) (hkind : sc.kind = .function) (hcell : ∀ y ∈ sc.names, y.2 ≠ .cell)
   (h : WE G D cs cl iter m H fun a H1 => ∃ l xs, a = .ref l ∧ H1 l = some (.list xs) ∧ xs.length ≤ 1000000 ∧ ∀ ob, CompN G D cs cl sc bcl x elt (some (l, .ro (.list xs) ob)) (fun acc H2 => ∀ d, (H2.put l (.list xs)) d = none → Q (.ref d) ((H2.put l (.list xs)).put d (.list acc))) xs [] (H1.put l (.ro (.list xs) ob))) : CompGo G D cs cl sc bcl x elt iter m H Q := by
 intro c h1 h2 ok mm news s S lr px pos E RR k
 refine h.go c h1 h2 ok mm news s S lr _ E fun v a H1 n1 h1' tk S1 K1 V1 w => ?_
 (refine exEEAAA (w) ?_; clear w; intro l xs zq0 hl hz w; rcases zq0 with rfl)
 have : v = .ref l := V1
 subst this
 (refine exEAA (S1.get hl) fun ob hm zq0 hg => ?_; refine exEEA (zq0) fun vs ep zq1 hv => ?_; clear zq0; rcases zq1 with rfl)
 have hL : h1'.IsList l vs.toArray := ⟨_, hg, rfl, ep, rfl⟩
 refine wpAny_pyIter_list (s := { s with heap := h1', toks := tk }) hL ?_
 have hne : l ≠ h1'.objs.size := fresh_size S1.nw _ hm
 have SF := S1.freeze hl hm
 (refine exA (SF.push (d := h1'.objs.size) (ob := { cls := .type "list_iterator", data := .fields #[.ref l, .int 0 0] }) (S1.fr.push _) (S1.nw.push S1.fr _) (fresh_size S1.nw)) fun S2 K2 => ?_)
 have KF : Keep H1 (H1.put l (.ro (.list xs) (listOf vs.toArray ep))) n1 n1 := Keep.freeze hl
 refine comp_tail h1 h2 ok (Walks.list ok.handled h1'.objs.size l hne vs.toArray) (fun i h hh => let ⟨o, a, b, _⟩ := hh.1; ⟨o, a, by rw [b]; rfl⟩) hx hkind hcell (items := xs) (by rw [List.size_toArray, hv.length]) (by rw [List.size_toArray, hv.length]; exact hz) (s := { s with heap := h1'.push { cls := .type "list_iterator", data := .fields #[.ref l, .int 0 0] }, toks := tk }) S2 (.head _) (SF.off (fresh_size S1.nw))
   ⟨⟨_, Heap.get?_push_size _ rfl, rfl, rfl⟩, _, Heap.get?_push_of_some _ hg, rfl, ep, rfl⟩ (fun i v a e1 e2 => (hv.sub sub_cons).get (by simpa using e1) e2) (fun b hb => ?_) (kp := some (l, .ro (.list xs) (listOf vs.toArray ep))) (w _) E RR fun d C acc H' n' h' tk' oC nm hdC S3 HD C3 HC ns3 kk kp q => ?_
 · rcases List.mem_cons.mp hb with rfl | hb
   · exact .inl rfl
   · have : b = l := by simpa using hb
     subst this
     exact .inr ⟨_, .tail _ hm, hne, .inr ⟨_, rfl⟩⟩
 · have kl : H' l = some (.ro (.list xs) (listOf vs.toArray ep)) := kp
   have dl : d ≠ l := fun z => by rw [z, kl] at HD; (exact someE HD)
   have kl' : (H'.put d (.list acc)) l = some (.ro (.list xs) (listOf vs.toArray ep)) := (AHeap.put_ne _ _ dl.symm).trans kl
   have cl' : C ≠ l := fun z => by rw [z, kl'] at HC; (exact someE HC)
   have S4 := S3.thaw kl'
   rw [put_comm dl] at S4
   refine k d C _ n' h' tk' oC nm hdC S4 C3 ?_ ns3 (fun p hp e => ?_) (q d ((AHeap.put_ne _ _ dl).trans HD))
   · rw [← put_comm dl, AHeap.put_ne _ _ cl']; exact HC
   · (refine exA ((K1.trans KF) p hp e) fun a1 a2 => ?_)
     (refine exAA (kk p (.tail _ a1) (fresh_size S1.nw p a1) a2) fun b1 b2 b3 => ?_)
     refine ⟨b1, b2, ?_⟩
     have : p.1 ≠ l := fun z => by rw [z, kl'] at b3; (exact someE b3)
     rw [← put_comm dl, AHeap.put_ne _ _ this]; exact b3
theorem CompGo.range {iter : Expr} {Q : AQ} (hx : sc.names.lookup x = some .local) (hkind : sc.kind = .function) (hcell : ∀ y ∈ sc.names, y.2 ≠ .cell)
   (h : WE G D cs cl iter m H fun a H1 => ∃ l n, a = .ref l ∧ H1 l = some (.range n) ∧ 0 ≤ n ∧ n ≤ 1000000 ∧ ∀ ob, CompN G D cs cl sc bcl x elt (some (l, .ro (.range n) ob)) (fun acc H2 => ∀ d, (H2.put l (.range n)) d = none → Q (.ref d) ((H2.put l (.range n)).put d (.list acc))) (upTo n) [] (H1.put l (.ro (.range n) ob))) : CompGo G D cs cl sc bcl x elt iter m H Q := by
 intro c h1 h2 ok mm news s S lr px pos E RR k
 refine h.go c h1 h2 ok mm news s S lr _ E fun v a H1 n1 h1' tk S1 K1 V1 w => ?_
 (refine exEEAAAA (w) ?_; clear w; intro l n zq0 hl hz hb w; rcases zq0 with rfl)
 have : v = .ref l := V1
 subst this
 (refine exEAA (S1.get hl) fun ob hm zq0 hg => ?_; refine exEEE (zq0) fun t u v zq1 => ?_; clear zq0; rcases zq1 with rfl)
 refine wpAny_pyIter_range (s := { s with heap := h1', toks := tk }) (a := 0) (b := n) (c := 1) hg (small_one (by lia) (by lia) (by lia) (by lia)) ?_
 rw [rangeSize_one hz]
 have hne : l ≠ h1'.objs.size := fresh_size S1.nw _ hm
 have SF := S1.freeze hl hm
 (refine exA (SF.push (d := h1'.objs.size) (ob := { cls := .type "range_iterator", data := .fields #[rawInt 0, rawInt n, rawInt 1] }) (S1.fr.push _) (S1.nw.push S1.fr _) (fresh_size S1.nw)) fun S2 K2 => ?_)
 have KF : Keep H1 (H1.put l (.ro (.range n) { cls := .type "range", dict := none, data := .fields #[.int 0 t, .int n u, .int 1 v], slots := #[] })) n1 n1 := Keep.freeze hl
 have hN : ((n.toNat : Nat) : Int) = n := by lia
 refine comp_tail h1 h2 ok (Walks.range ok.handled h1'.objs.size 0 1 n.toNat) (fun i h hh => ⟨_, hh, rfl⟩) hx hkind hcell (items := upTo n) (by simp [upTo]) (by lia) (s := { s with heap := h1'.push { cls := .type "range_iterator", data := .fields #[rawInt 0, rawInt n, rawInt 1] }, toks := tk }) S2 (.head _) (SF.off (fresh_size S1.nw))
   (by show Heap.get? _ _ = _; rw [Heap.get?_push_size _ rfl]; simp [hN]) (fun i v a e1 e2 => ?_) (fun b hb => .inl (by simpa using hb)) (kp := some (l, .ro (.range n) { cls := .type "range", dict := none, data := .fields #[.int 0 t, .int n u, .int 1 v], slots := #[] })) (w _) E RR fun d C acc H' n' h' tk' oC nm hdC S3 HD C3 HC ns3 kk kp q => ?_
 · (refine exE (e1) fun t zq0 => ?_; clear e1; rcases zq0 with rfl)
   unfold upTo at e2
   rw [List.getElem?_map] at e2
   cases q : (List.range n.toNat)[i]? with
   | none => rw [q] at e2; (exact noneE e2)
   | some p =>
     rw [q] at e2
     cases e2
     have : p = i := by
       rw [List.getElem?_eq_some_iff] at q
       (refine exE (q) fun q1 q2 => ?_; clear q)
       simpa using q2.symm
     subst this
     exact ⟨t, by simp⟩
 · have kl : H' l = some (.ro (.range n) { cls := .type "range", dict := none, data := .fields #[.int 0 t, .int n u, .int 1 v], slots := #[] }) := kp
   have dl : d ≠ l := fun z => by rw [z, kl] at HD; (exact someE HD)
   have kl' : (H'.put d (.list acc)) l = some (.ro (.range n) { cls := .type "range", dict := none, data := .fields #[.int 0 t, .int n u, .int 1 v], slots := #[] }) := (AHeap.put_ne _ _ dl.symm).trans kl
   have cl' : C ≠ l := fun z => by rw [z, kl'] at HC; (exact someE HC)
   have S4 := S3.thaw kl'
   rw [put_comm dl] at S4
   refine k d C _ n' h' tk' oC nm hdC S4 C3 ?_ ns3 (fun p hp e => ?_) (q d ((AHeap.put_ne _ _ dl).trans HD))
   · rw [← put_comm dl, AHeap.put_ne _ _ cl']; exact HC
   · (refine exA ((K1.trans KF) p hp e) fun a1 a2 => ?_)
     (refine exAA (kk p (.tail _ a1) (fresh_size S1.nw p a1) a2) fun b1 b2 b3 => ?_)
     refine ⟨b1, b2, ?_⟩
     have : p.1 ≠ l := fun z => by rw [z, kl'] at b3; (exact someE b3)
     rw [← put_comm dl, AHeap.put_ne _ _ this]; exact b3
theorem WE.comp {iter : Expr} {px pos : Pos} {Q : AQ} (hclos : ∀ c : Cx, c.cs = cs → c.cl = cl → closureFor sc c.env = pure bcl) (hkind : sc.kind = .function) (hnames : ∀ x ∈ sc.names, x.2 = .local → sc.names.lookup x.1 = some .local)
   (h : CompGo G D cs cl sc bcl x elt iter m H Q) (hs : ∀ (env : Env) (x : Value), foldedSetIterable iter env x = pure x := by intro _ _; rfl) : WE G D cs cl (.ListComp elt [⟨.Name x px, iter, [], 0⟩] sc pos) m H Q where
 go := fun c h1 h2 ok mm news s S lr Q' E k => by
   rw [eval_ListComp]
   refine wpAny_comprehension_free (use := none) rfl (hs _) (hclos c h1 h2) hkind hnames (h c h1 h2 ok mm news s S lr px pos E (fun acc C => compPost (model G.prog G.w) c.A E none Q' acc C) fun d C H' n' h' tk oC nm hdC S3 C3 HC ns3 kk q => ?_)
   refine ⟨nm, ns3, fun h'' sb => ?_⟩
   (refine exEAA (S3.forget2 C3 HC (ns_notTup ns3 (S3.nw _ C3).1) (fun b o hb e => sb.extBut b o hb e)) fun n4 S4 u4 sub4 => ?_)
   exact k _ (.ref d) _ n4 h'' tk S4 (fun p hp e => have z := kk p hp e; ⟨u4 p z.2.1 z.1, z.2.2⟩) rfl q
theorem W1.assignComp {y : Str} {py : Pos} {iter : Expr} {px pos spos : Pos} {Q : Fl → Loc → AHeap → Prop} (hsw : ∀ c : Cx, c.cs = cs → c.cl = cl → swapsWith (.ListComp elt [⟨.Name x px, iter, [], 0⟩] sc pos) (some (.Name y py)) spos.line c.env = pure true)
   (hclos : ∀ c : Cx, c.cs = cs → c.cl = cl → closureFor sc c.env = pure bcl) (hkind : sc.kind = .function) (hnames : ∀ x ∈ sc.names, x.2 = .local → sc.names.lookup x.1 = some .local)
   (h : CompGo G D cs cl sc bcl x elt iter m H fun a H' => Q .next ((y, a) :: m) H') (hy : cs.names.lookup y = some .local := by rfl) (hs : ∀ (env : Env) (x : Value), foldedSetIterable iter env x = pure x := by intro _ _; rfl) : W1 G D cs cl (.Assign [.Name y py] (.ListComp elt [⟨.Name x px, iter, [], 0⟩] sc pos) spos) m H Q where
 go := fun c h1 h2 ok mm news s S lr Q' E k => by
   have hy' : c.cs.names.lookup y = some .local := by rw [h1]; exact hy
   rw [exec_Assign_Name_used _ _ _ _ (hsw c h1 h2)]
   refine wpAny_bind (wpAny_standAt (wpAny_bind ?_))
   show wpAny _ c.A (do let _ ← comprehension (.ListComp elt [⟨.Name x px, iter, [], 0⟩] sc pos) sc c.env _ (newList []) false (eval iter c.env) (some (_root_.PySem.assign (.Name y py) c.env))) _ _ s
   refine wpAny_bind (wpAny_mono (wpAny_comprehension_free (use := some (_root_.PySem.assign (.Name y py) c.env)) (Q := fun _ s' => Q' .next s') rfl (hs _) (hclos c h1 h2) hkind hnames
     (h c h1 h2 ok mm news s S lr px pos E (fun acc C => compPost (model G.prog G.w) c.A E (some (_root_.PySem.assign (.Name y py) c.env)) (fun _ s' => Q' .next s') acc C) fun d C H' n' h' tk oC nm hdC S3 C3 HC ns3 kk q => ?_)) (fun _ s' hq => wpAny_pure (wpAny_pure hq)) fun _ _ e => e)
   show wpAny _ c.A (_root_.PySem.assign (.Name y py) c.env (.ref d)) _ _ _
   refine wpAny_assign_Name (storeX_L (s := { s with heap := h', toks := tk }) S3.fr S3.nw (fun h2 F N => ?_) ok.kind hy')
   have S4 := S3.store F N
   have ns4 : h2.Ns C nm := by
     (refine exEEEA (ns3) fun o' es ep e1 e2 => ?_; clear ns3)
     have : o' = oC := Option.some.inj (e1.symm.trans (S3.nw _ C3).1)
     subst this
     exact ⟨o', es, ep, (N _ C3).1, e2⟩
   refine ⟨nm, ns4, fun h'' sb => ?_⟩
   (refine exEAA (S4.forget2 C3 HC (ns_notTup ns4 (N _ C3).1) (fun b o hb e => sb.extBut b o hb e)) fun n4 S5 u4 sub4 => ?_)
   have K : Keep H H' news n4 := fun p hp e => have z := kk p hp e; ⟨u4 p z.2.1 z.1, z.2.2⟩
   exact k .next .next _ _ H' n4 h'' _ S5 ((LR.keep S K lr).put (a := .ref d) rfl) K rfl q
end
section
variable {G : Gl} {D : Nat} {cs : Scope} {cl : List (Str × Addr)} {m : Loc} {H : AHeap}
theorem St.change {h₀ h h' : Heap} {L : Addr} {mm : Str → Option Value} {news : Led} (S : St G h₀ L mm H news h) {d : Addr} {o o' : AO} {ob ob' : Obj} (hd : H d = some o) (hm : (d, ob) ∈ news) (hg : h'.get? d = some ob')
   (k : ∀ b x, b ≠ d → h.get? b = some x → h'.get? b = some x) (ho : OR G news o' ob') (hlo : o'.isD = true → o.isD = true := by intro h; first | rfl | cases h) :
   ∃ news', St G h₀ L mm (H.put d o') news' h' ∧ Keep H (H.put d o') news news' ∧ (∀ a vs, (a, tupObj vs) ∈ news → (a, tupObj vs) ∈ news') := by
 (refine exEAAAA (upd_of ob' S.nd hm) fun n1 U hk u1 u2 u3 => ?_)
 have zd := S.nw _ hm
 refine ⟨n1, S.upd hd hm (Fr.kept S.fr k (Ne.symm zd.2.1) zd.2.2) (fun p hp => ?_) hk u1 u2 ho hlo⟩
 by_cases z : p.1 = d
 · have : p = (d, ob') := by
     obtain ⟨a, b⟩ := p
     dsimp only at z
     subst z
     rw [nodup_eq (hk ▸ S.nd) hp u2]
   subst this
   exact ⟨hg, zd.2⟩
 · have y := S.nw p (u3 p hp z)
   exact ⟨k _ _ z y.1, y.2⟩
theorem WE.cname {x : Str} {pos : Pos} {a : AV} {ca : Addr} {Q : AQ} (hc : cl.lookup x = some ca) (hl : H ca = some (.cell a)) (h : Q a H)
   (hx : cs.names.lookup x = some .cell := by rfl) (hd : (x == ("__debug__" : Str)) = false := by decide) : WE G D cs cl (.Name x pos) m H Q where
 go := fun c h1 h2 ok mm news s S lr Q' E k => by
   subst h1 h2
   (refine exEAEA (S.hr _ _ hl) fun ob hm v e hv => ?_)
   exact nameX_C S.nw hc hm e (k v a H news s.heap s.toks S Keep.rfl hv h) ok.kind hx hd
noncomputable def isCell : AO → Bool
 | .cell _ => true
 | .cell0 => true
 | _ => false
theorem W1.assignCell {x : Str} {xp : Pos} {e : Expr} {pos : Pos} {ca : Addr} {Q : Fl → Loc → AHeap → Prop} (hc : cl.lookup x = some ca) (h : WE G D cs cl e m H fun a H' => ∃ o, H' ca = some o ∧ isCell o = true ∧ Q .next m (H'.put ca (.cell a)))
   (hx : cs.names.lookup x = some .cell := by rfl) (hs : ∀ env : Env, swapsWith e (some (.Name x xp)) pos.line env = pure false := by intro _; rfl) : W1 G D cs cl (.Assign [.Name x xp] e pos) m H Q where
 go := fun c h1 h2 ok mm news s S lr Q' E k => by
   subst h1 h2
   refine wpAny_Assign_Name (h.go c rfl rfl ok mm news s S lr _ E fun v a H1 n1 h' tk S1 K1 V1 w => ?_) (hs _)
   (refine exEAA (w) ?_; clear w; intro o hl hi w)
   (refine exEAA (S1.get hl) fun ob hm hob hg => ?_)
   have hv0 : ∃ v₀, ob.data = .cell v₀ := by
     cases o with
     | cell b => (refine exEA (hob) fun v0 e0 _ => ?_; clear hob); exact ⟨_, e0⟩
     | cell0 => exact ⟨_, hob⟩
     | _ => (exact falseE hi)
   (refine exE (hv0) ?_; clear hv0; intro v₀ hv0)
   refine wpAny_storeName_cell (s := { s with heap := h', toks := tk }) ok.kind hx hc ⟨ob, hg, hv0⟩ fun h2 hv hs2 => ?_
   (refine exEA (hv) fun o2 g2 d2 => ?_; clear hv)
   (refine exEAA (S1.change (o' := .cell a) hl hm g2 (fun b x hb e => hs2.extBut b x hb e) ⟨v, d2, V1⟩) fun n2 S2 K2 sub2 => ?_)
   exact k .next .next _ _ _ n2 h2 _ S2 (LR.keep S (K1.trans K2) lr) (K1.trans K2) rfl w
theorem bindL_local {kd : Str → Option NameKind} : ∀ (bs : List (Str × Value)) (m₀ : Str → Option Value) (x : Str), kd x = some .local → (bindL kd bs m₀) x = ((bs.reverse.lookup x).or (m₀ x)) := by
 intro zz
 induction zz with
 | nil =>
   intro m₀ x _
   simp [bindL]
 | cons qx r ih =>
   obtain ⟨n, v⟩ := qx
   intro m₀ x h
   rw [bindL, ih _ x h, List.reverse_cons]
   have app : ∀ (l : List (Str × Value)) (n : Str) (v : Value), (l ++ [(n, v)]).lookup x = (l.lookup x).or (if x = n then some v else none) := by
     intro l n v
     induction l with
     | nil =>
       by_cases q : x = n
       · subst q; simp
       · have : (x == n) = false := by simpa using q
         simp [List.lookup_cons, this, q]
     | cons y r ih =>
       obtain ⟨a, b⟩ := y
       rw [List.cons_append, List.lookup_cons, List.lookup_cons]
       cases x == a <;> (first | assumption | simp [ih])
   rw [app]
   by_cases q : x = n
   · subst q
     rw [if_pos h, if_pos rfl, if_pos rfl]
     cases List.lookup x r.reverse <;> rfl
   · rw [if_neg q]
     by_cases hn : kd n = some .local
     · rw [if_pos hn]
       simp only [q, ↓reduceIte]
       cases List.lookup x r.reverse <;> rfl
     · rw [if_neg hn]
       cases List.lookup x r.reverse <;> rfl
theorem bindC_cell {kd : Str → Option NameKind} : ∀ (bs : List (Str × Value)) (m₀ : Str → Option Value) (x : Str), kd x ≠ some .local → (bindC kd bs m₀) x = ((bs.reverse.lookup x).or (m₀ x)) := by
 intro zz
 induction zz with
 | nil =>
   intro m₀ x _
   simp [bindC]
 | cons qx r ih =>
   obtain ⟨n, v⟩ := qx
   intro m₀ x h
   rw [bindC, ih _ x h, List.reverse_cons]
   have app : ∀ (l : List (Str × Value)) (n : Str) (v : Value), (l ++ [(n, v)]).lookup x = (l.lookup x).or (if x = n then some v else none) := by
     intro l n v
     induction l with
     | nil =>
       by_cases q : x = n
       · subst q; simp
       · have : (x == n) = false := by simpa using q
         simp [List.lookup_cons, this, q]
     | cons y r ih =>
       obtain ⟨a, b⟩ := y
       rw [List.cons_append, List.lookup_cons, List.lookup_cons]
       cases x == a <;> (first | assumption | simp [ih])
   rw [app]
   by_cases q : x = n
   · subst q
     rw [if_neg h, if_pos rfl, if_pos rfl]
     cases List.lookup x r.reverse <;> rfl
   · rw [if_neg q]
     by_cases hn : kd n = some .local
     · rw [if_pos hn]
       cases List.lookup x r.reverse <;> rfl
     · rw [if_neg hn]
       simp only [q, ↓reduceIte]
       cases List.lookup x r.reverse <;> rfl
theorem mem_of_lookup {α : Type} {x : Str} {a : α} : ∀ {l : List (Str × α)}, l.lookup x = some a → (x, a) ∈ l
 | (y, b) :: r, h => by
   rw [List.lookup_cons] at h
   by_cases q : x = y
   · subst q
     simp only [beq_self_eq_true] at h
     cases h
     exact .head _
   · have : (x == y) = false := by simpa using q
     simp only [this] at h
     exact .tail _ (mem_of_lookup h)
theorem lookup_none_zip {z : Str} {α β : Type} : ∀ {ns : List Str} {as : List α} {bs : List β} (pa : List (Str × α)) (pb : List (Str × β)), as.length = bs.length → (pa.lookup z = none → pb.lookup z = none) → ((ns.zip as).reverse ++ pa).lookup z = none → ((ns.zip bs).reverse ++ pb).lookup z = none
 | [], as, bs, pa, pb, _, h, e => by simpa using h (by simpa using e)
 | n :: ns, [], [], pa, pb, _, h, e => by simpa using h (by simpa using e)
 | n :: ns, [], _ :: _, _, _, l, _, _ => by simp at l
 | n :: ns, _ :: _, [], _, _, l, _, _ => by simp at l
 | n :: ns, a :: as, b :: bs, pa, pb, l, h, e => by
   rw [List.zip_cons_cons, List.reverse_cons, List.append_assoc] at e ⊢
   refine lookup_none_zip ([(n, a)] ++ pa) ([(n, b)] ++ pb) (by simpa using l) (fun q => ?_) e
   rw [List.singleton_append, List.lookup_cons] at q ⊢
   cases w : z == n with
   | true => simp [w] at q
   | false =>
     simp only [w] at q ⊢
     exact h q
noncomputable def cellOf1 : Option AV → AO
 | some a => .cell a
 | none => .cell0
theorem WC.enterC1 {f : Addr} {oc : Value} {od : Option Addr} {osl : Array (Option Value)} {name qual : Str} {params : Arguments} {body : List Stmt} {scope : Scope} {dV kV doc pm cdv ct : Value} {an : Option Addr} {ns : List Str} {args : List AV} {z : Str} {m' : Loc} {Q : AQ}
   (ho : G.K.lookup f = some ⟨oc, od, .func (fnOf name qual params body scope dV kV doc pm an cdv ct), osl⟩) (hcd : codeIn G.K cdv qual = true)
   (hbind : ∀ vals : List Value, vals.length = ns.length → bindArgs (fnOf name qual params body scope dV kV doc pm an cdv ct) ⟨vals, []⟩ = pure (ns.zip vals))
   (hloc : ∀ y ∈ ns, (scope.names.lookup y == some .local || scope.names.lookup y == some .cell) = true) (hcf : ∀ n, cellsFrom n scope.names [] = [(z, n)]) (hz : scope.names.lookup z = some .cell) (hco : scope.isCoroutine = false) (hgen : scope.isGenerator = false) (hk : scope.kind = .function) (hlen : args.length = ns.length)
   (hm : ∀ y ∈ m', (ns.zip args).reverse.lookup y.1 = some y.2 ∧ scope.names.lookup y.1 = some .local)
   (h : ∀ ca, H ca = none → WS G D scope [(z, ca)] body m' (H.put ca (cellOf1 ((ns.zip args).reverse.lookup z))) fun fl _ H' => Q (retA fl) H') : WC G (D + 1) (.ref f) args H Q where
 go := fun c ok mm news s S vals hv R k => by
   have lv : vals.length = ns.length := hv.length.trans hlen
   refine PySem.W.code_defC ok.below S.fr ok.kin S.nw ok.top ok.frames rfl ok.kind ho hcd (by have := ok.depth; lia) (BindsTo.of_eq (hbind vals lv)) (List.all_eq_true.mpr fun y hy => hloc y.1 (List.of_mem_zip hy).1) (by rw [hcf]; exact List.nodup_cons.mpr ⟨List.not_mem_nil, List.nodup_nil⟩) (fun g L' h₁ tk cells FG F' N' CA B' X' T' lt => ?_) hco hgen hk
   rw [hcf] at CA
   (refine exEA (CA.one) fun oc1 zq0 hd => ?_; rcases zq0 with rfl)
   have N0 : News g L' h₁ news := fun p hp => N' p (.tail _ hp)
   have S0 : St G g L' _ H news h₁ := ⟨F', N0, S.nd, S.hr, S.lo⟩
   have hfr : ∀ p ∈ news, p.1 ≠ L' + 1 := fun p hp => Nat.ne_of_lt (Nat.lt_succ_of_lt (lt p hp))
   have look : ∀ x a, (ns.zip args).reverse.lookup x = some a → ∃ v, (ns.zip vals).reverse.lookup x = some v ∧ VR news a v := fun x a e => by
     have := lookup_zip (ns := ns) hv [] [] (fun _ _ e => nomatch e) x a (by simpa using e)
     simpa using this
   have kz : (envOfC qual scope L' f cdv).kindOf z ≠ some .local := by
     show scope.names.lookup z ≠ _
     rw [hz]
     intro q
     cases q
   rw [bindC_cell _ _ _ kz] at hd
   have hor : OR G news (cellOf1 ((ns.zip args).reverse.lookup z)) oc1 := by
     cases e : (ns.zip args).reverse.lookup z with
     | some a =>
       (refine exEA (look z a e) fun v e1 e2 => ?_)
       exact ⟨v, by rw [hd, e1]; rfl, e2⟩
     | none =>
       have : (ns.zip vals).reverse.lookup z = none := by
         have := lookup_none_zip (ns := ns) (as := args) (bs := vals) (z := z) [] [] hv.length.symm (fun _ => rfl) (by simpa using e)
         simpa using this
       show oc1.data = .cell none
       rw [hd, this]
       rfl
   (refine exA (S0.pushO F' N' hfr hor (by intro z; cases q : (ns.zip args).reverse.lookup _ <;> rw [q] at z <;> (exact falseE z))) ?_; intro S1 K1)
   have ok' : Cx.Ok G D ⟨c.A, c.A.deeper (envOfC qual scope L' f cdv), c.base, g, c.env :: c.outer, L', qual, scope, f, cdv, cellsFrom (L' + 1) scope.names []⟩ := {
     below := B'
     kin := X'
     top := T'
     frames := Around.frames_deeper ok.frames
     kind := hk
     depth := by have := ok.depth; rw [depth_deeper]; lia
     units := by have := ok.units; rw [units_deeper]; lia
     handled := ok.handled }
   refine (h (L' + 1) (S0.off hfr)).go _ rfl (hcf _) ok' _ _ { s with heap := h₁, toks := tk } S1 (fun x a e => ?_) _ _ fun fl af m'' mm' H' n' h' tk' S2 lr2 K2 F2 q => ?_
   · (refine exA (hm _ (mem_of_lookup e)) fun e1 e2 => ?_)
     (refine exEA (look _ _ e1) fun v e3 e4 => ?_)
     refine ⟨v, ?_, e4.sub sub_cons⟩
     rw [bindL_local _ _ _ (show (envOfC qual scope L' f cdv).kindOf x = some .local from e2), e3]
     rfl
   · refine leaveK_ S2.fr S2.nw fun FF NN => ?_
     have V : VR n' (retA af) (flowVal fl) := FR.val F2
     exact k _ (retA af) H' n' h' tk' ⟨FF, NN, S2.nd, S2.hr, S2.lo⟩ (K1.trans K2) V q
end
section
variable {G : Gl} {D : Nat} {fs : Scope} {fcl : List (Str × Addr)} {sc : Scope} {bcl : List (Str × Addr)} {x : Str} {a : AV} {H : AHeap}
theorem lookup_relabel_free {env : Env} (hk : env.scope.kind = .function) : ∀ {names : List (Str × NameKind)} {x : Str}, names.lookup x = some .free → env.kindOf x = some .cell →
   (names.map fun (n, k) => if (k == NameKind.free && env.scope.kind == .function && env.kindOf n == some .cell) then (n, NameKind.cell) else (n, k)).lookup x = some .cell := by
 intro zz
 induction zz with
 | nil =>
   intro _ h _
   simp at h
 | cons qx r ih =>
   obtain ⟨n, k⟩ := qx
   intro x h hc
   have ih := @ih x
   show List.lookup x ((if (k == NameKind.free && env.scope.kind == .function && env.kindOf n == some .cell) = true then (n, NameKind.cell) else (n, k)) :: _) = _
   cases hx : x == n with
   | true =>
     have : x = n := by simpa using hx
     subst this
     simp only [List.lookup_cons, hx] at h
     cases h
     simp [List.lookup_cons, hk, hc]
   | false =>
     simp only [List.lookup_cons, hx] at h
     by_cases q : (k == NameKind.free && env.scope.kind == .function && env.kindOf n == some .cell) = true
     · rw [if_pos q]; simp only [List.lookup_cons, hx]; exact ih h hc
     · rw [if_neg q]; simp only [List.lookup_cons, hx]; exact ih h hc
theorem lookup_relabel_glob {env : Env} : ∀ {names : List (Str × NameKind)} {x : Str}, names.lookup x = some .globalImplicit →
   (names.map fun (n, k) => if (k == NameKind.free && env.scope.kind == .function && env.kindOf n == some .cell) then (n, NameKind.cell) else (n, k)).lookup x = some .globalImplicit := by
 intro zz
 induction zz with
 | nil =>
   intro _ h
   simp at h
 | cons qx r ih =>
   obtain ⟨n, k⟩ := qx
   intro x h
   have ih := @ih x
   show List.lookup x ((if (k == NameKind.free && env.scope.kind == .function && env.kindOf n == some .cell) = true then (n, NameKind.cell) else (n, k)) :: _) = _
   cases hx : x == n with
   | true =>
     simp only [List.lookup_cons, hx] at h
     cases h
     simp [List.lookup_cons, hx]
   | false =>
     simp only [List.lookup_cons, hx] at h
     by_cases q : (k == NameKind.free && env.scope.kind == .function && env.kindOf n == some .cell) = true
     · rw [if_pos q]; simp only [List.lookup_cons, hx]; exact ih h
     · rw [if_neg q]; simp only [List.lookup_cons, hx]; exact ih h
theorem CE.name {pos : Pos} {Q : AQ} (h : Q a H) (hx : sc.names.lookup x = some .local := by rfl) (hk : sc.kind = .function := by rfl) (hd : (x == ("__debug__" : Str)) = false := by decide) : CE G D fs fcl sc bcl x a (.Name x pos) H Q where
 go := fun c h1 h2 ok mm news s C S b Q' E k => by
   (refine exAEEEAAA (b) fun b1 oC nm v b2 b3 b4 b5 => ?_; clear b)
   exact wpAny_Name (wpAny_loadName_local (env := compEnvC sc bcl C c.env) hk (lookup_relabel_local hx) b3 b4 (k v a H news s.heap s.toks S Keep.rfl b5 h)) hd
theorem CE.cell {y : Str} {pos : Pos} {r : AV} {ca : Addr} {Q : AQ} (hc : bcl.lookup y = some ca) (hl : H ca = some (.cell r)) (h : Q r H) (hx : sc.names.lookup y = some .free := by rfl) (hf : fs.names.lookup y = some .cell := by rfl) (hk : sc.kind = .function := by rfl) (hd : (y == ("__debug__" : Str)) = false := by decide) :
   CE G D fs fcl sc bcl x a (.Name y pos) H Q where
 go := fun c h1 h2 ok mm news s C S b Q' E k => by
   subst h1 h2
   (refine exEAEA (S.hr _ _ hl) fun ob hm v e hv => ?_)
   exact wpAny_Name (wpAny_loadName_cell (env := compEnvC sc bcl C c.env) hk (lookup_relabel_free ok.kind hx hf) hc ⟨ob, (S.nw _ hm).1, e⟩ (k v r H news s.heap s.toks S Keep.rfl hv h)) hd
theorem CE.gname {y : Str} {pos : Pos} {v : Value} {r : AV} {Q : AQ} (e : nsIn G.K mainGlobals y = some (some v)) (ha : ∀ news, VR news r v) (h : Q r H)
   (hx : sc.names.lookup y = some .globalImplicit := by rfl) (hk : sc.kind = .function := by rfl) (hd : (y == ("__debug__" : Str)) = false := by decide) : CE G D fs fcl sc bcl x a (.Name y pos) H Q where
 go := fun c h1 h2 ok mm news s C S b Q' E k => by
   subst h1 h2
   exact Name_function_global (env := compEnvC sc bcl C c.env) hk (lookup_relabel_glob hx) (loadGlobal_global (env := compEnvC sc bcl C c.env) (ok.tr.g.keeps S.fr.keep) (mg_of ok.kin ok.tr.g e) (k v r H news s.heap s.toks S Keep.rfl (ha _) h)) hd
theorem CE.int {n : Int} {j : Nat} {pos : Pos} {Q : AQ} (h : Q (.int n) H) : CE G D fs fcl sc bcl x a (.Constant (.int n) j pos) H Q where
 go := fun c h1 h2 ok mm news s C S b Q' E k => wpAny_Constant_int (k _ (.int n) H news s.heap _ S Keep.rfl ⟨_, rfl⟩ h)
@[reducible] noncomputable def CEs (G : Gl) (D : Nat) (fs : Scope) (fcl : List (Str × Addr)) (sc : Scope) (bcl : List (Str × Addr)) (x : Str) (a : AV) : List Expr → AHeap → (List AV → AHeap → Prop) → Prop
 | [], H, Q => Q [] H
 | e :: es, H, Q => CE G D fs fcl sc bcl x a e H fun r H1 => CEs G D fs fcl sc bcl x a es H1 fun as H2 => Q (r :: as) H2
theorem CEs.go : ∀ {es : List Expr} {H : AHeap} {Q : List AV → AHeap → Prop}, (es.all plainE) = true → CEs G D fs fcl sc bcl x a es H Q → ∀ c : Cx, c.cs = fs → c.cl = fcl → c.Ok G D → ∀ {mm news s} (C : Addr) (pos : Pos), St G c.h₀ c.L mm H news s.heap → InBk C x a H news s.heap → ∀ (Q' : List Value → Shared → Prop) E,
   (∀ v r H' news' h' tk, St G c.h₀ c.L mm H' news' h' → Keep H H' news news' → VRs news' r v → v.length = es.length → Q r H' → Q' v { s with heap := h', toks := tk }) →
   wpAny (model G.prog G.w) c.A (spliced (backTo pos (starEach es (compEnvC sc bcl C c.env)))) Q' E s := by
 intro zz
 induction zz with
 | nil =>
   intro H Q _ w c h1 h2 ok mm news s C pos S b Q' E k
   exact wpAny_items_nil (k [] [] H news s.heap s.toks S Keep.rfl rfl rfl w)
 | cons e es ih =>
   intro H Q hp w c h1 h2 ok mm news s C pos S b Q' E k
   rw [List.all_cons, Bool.and_eq_true] at hp
   refine wpAny_items_cons ?_ (starEach_plain hp.1)
   refine CE.go w c h1 h2 ok mm news s C S b _ E fun v r H1 n1 h' tk S1 K1 V1 w1 => ?_
   refine ih hp.2 w1 c h1 h2 ok (s := { s with heap := h', toks := tk }) C pos S1 (InBk.keep S S1 K1 b) _ E fun vs as H2 n2 h2 tk2 S2 K2 V2 len q => ?_
   exact k (v :: vs) (r :: as) _ _ _ _ S2 (K1.trans K2) ((VRs_cons ..).mpr ⟨v, vs, rfl, S1.vr K2 V1, V2⟩) (by simp [len]) q
theorem CE.callK {y : Str} {yp pos : Pos} {args : List Expr} {f : Addr} {Q : AQ} (hn : nsIn G.K mainGlobals y = some (some (.ref f))) (hkp : keepIn G.K (.ref f) = true)
   (h : CEs G D fs fcl sc bcl x a args H fun as H' => WC G D (.ref f) as H' Q) (hne : args.isEmpty = false := by rfl) (hp : (args.all plainE) = true := by rfl) (hx : sc.names.lookup y = some .globalImplicit := by rfl) (hk : sc.kind = .function := by rfl) (hd : (y == ("__debug__" : Str)) = false := by decide) :
   CE G D fs fcl sc bcl x a (.Call (.Name y yp) args [] pos) H Q where
 go := fun c h1 h2 ok mm news s C S b Q' E k => by
   refine Call_ ((CE.gname (a := a) (x := x) (r := .ref f) hn (fun _ => rfl) (h := (⟨rfl, rfl⟩ : AV.ref f = AV.ref f ∧ H = H)) hx hk hd : CE G D fs fcl sc bcl x a (.Name y yp) H fun r H' => r = AV.ref f ∧ H' = H).go c h1 h2 ok mm news s C S b _ E fun v r H' n' h' tk S1 K1 V1 q => ?_) (by rfl)
   (refine exA (q) fun zq0 zq1 => ?_; clear q; rcases zq0 with rfl; rcases zq1 with rfl)
   have : v = .ref f := V1
   subst this
   cases args with
   | nil => (exact trueE hne)
   | cons e es =>
     refine callWith_K ok.kin hkp (CEs.go hp h c h1 h2 ok (s := { s with heap := h', toks := tk }) C pos S1 (InBk.keep S S1 K1 b) _ E fun vs as H2 n2 h2' tk2 S2 K2 V2 len w => ?_) (starEach_plain (by rw [List.all_cons, Bool.and_eq_true] at hp; exact hp.1)) (any_plain (by rw [List.all_cons, Bool.and_eq_true] at hp; exact hp.2))
     refine ⟨in_heap ok S2, wpAny_call (w.go c ok mm n2 _ S2 vs V2 _ fun v2 r2 H3 n3 h3 tk3 S3 K3 V3 q => ?_)⟩
     exact k v2 r2 H3 n3 h3 tk3 S3 (K1.trans (K2.trans K3)) V3 q
theorem CE.callBm {o : Expr} {name : Str} {apos pos : Pos} {args : List Expr} {Q : AQ}
   (h : CE G D fs fcl sc bcl x a o H fun r H1 => ∃ l ob id, r = .ref l ∧ H1 l = some ob ∧ methB ob name = some id ∧ CEs G D fs fcl sc bcl x a args H1 fun as H' => WB G D (.builtin id) (.ref l :: as) H' Q)
   (hne : args.isEmpty = false := by rfl) (hp : (args.all plainE) = true := by rfl) {pl : Env → Sem Bool}
   (he : ∀ env : Env, eval (.Call (.Attribute o name apos) args [] pos) env = (do
     let ov ← eval o env
     standAt apos.atName
     let (f, first) ← holding [ov] (getMethod ov name (pl env))
     callWith pos f first (backTo pos (starEach args env)) []) := by intro _; rfl) :
   CE G D fs fcl sc bcl x a (.Call (.Attribute o name apos) args [] pos) H Q where
 go := fun c h1 h2 ok mm news s C S b Q' E k => by
   refine MethodCall_ (h.go c h1 h2 ok mm news s C S b _ E fun v r H' n' h' tk S1 K1 V1 q => ?_) (he _)
   (refine exEEEAAA (q) ?_; clear q; intro l ob id zq0 hl hm q; rcases zq0 with rfl)
   have : v = .ref l := V1
   subst this
   refine methB_go (s := { s with heap := h', toks := tk }) ok S1 hl hm _ _ ?_
   refine PySem.Calls.callWith_builtin (any_plain hp) ?_
   cases args with
   | nil => (exact trueE hne)
   | cons e es =>
     have hp' := hp
     rw [List.all_cons, Bool.and_eq_true] at hp'
     have fin := CEs.go hp q c h1 h2 ok (s := { s with heap := h', toks := tk }) C pos S1 (InBk.keep S S1 K1 b) (fun vs s' => wpAny (model G.prog G.w) c.A (call (.builtin id) ([.ref l] ++ vs)) Q' E s') E fun vs as H2 n2 h2' tk2 S2 K2 V2 len w =>
       w.go c ok mm n2 { s with heap := h2', toks := tk2 } S2 ([.ref l] ++ vs) ((VRs_cons ..).mpr ⟨_, vs, rfl, rfl, V2⟩) Q' E fun v2 r2 H'' n'' h'' tk' S3 K3 V3 q => k v2 r2 H'' n'' h'' tk' S3 (K1.trans (K2.trans K3)) V3 q
     rw [starEach_plain hp'.1] at fin ⊢
     exact evalArgs_plain fin
end
section
variable {G : Gl} {D : Nat} {cs : Scope} {cl : List (Str × Addr)} {m : Loc} {H : AHeap} {a b : Int} {Q : AQ}
theorem WE.fdiv {l r : Expr} {pos : Pos} (himp : importsNone G.p = true) (htree : G.prog.given.tree = none) (h : WE G (D + 100) cs cl l m H fun a H1 => WE G (D + 100) cs cl r m H1 fun b H2 => ∃ i j, a = .int i ∧ b = .int j ∧ j ≠ 0 ∧ Q (.int (i.fdiv j)) H2)
   (hgen : cs.isGenerator = false := by rfl) (hco : cs.isCoroutine = false := by rfl) : WE G (D + 100) cs cl (.BinOp l .FloorDiv r pos) m H Q where
 go := fun c h1 h2 ok mm news s S lr Q' E k => by
   refine wpAny_BinOp (h.go c h1 h2 ok mm news s S lr _ E fun va a H1 n1 h1' tk S1 K1 V1 w => ?_)
   refine w.go c h1 h2 ok mm n1 _ S1 (LR.keep S K1 lr) _ E fun vb b H2 n2 h2' tk2 S2 K2 V2 w2 => ?_
   (refine exEEAAA (w2) fun i j zq0 zq1 hj q => ?_; clear w2; rcases zq0 with rfl; rcases zq1 with rfl)
   (refine exE (V1) fun t zq0 => ?_; clear V1; rcases zq0 with rfl)
   (refine exE (V2) fun u zq0 => ?_; clear V2; rcases zq0 with rfl)
   have hl : h2'.NoLimit := ok.top.nolimit.keeps S2.fr.keep
   have hs : h2'.NoSeer := (ok.top.seer himp).keeps S2.fr.keep
   refine PyProof.Rows.floordiv_int hj (k _ _ H2 n2 h2' _ S2 (K1.trans K2) (by exact ⟨_, rfl⟩) q) (.inr (PySem.PylongRoom.of hl (by have := ok.depth; show _ + 100 < _; lia) (PySem.SeerAt.of hs htree ok.frames (by show c.cs.isGenerator = false; rw [h1]; exact hgen) (by show c.cs.isCoroutine = false; rw [h1]; exact hco) rfl rfl)))
theorem WOp.pow20 (h : Q (.int (10 ^ 20)) H) : WOp G D .Pow false (.int 10) (.int 20) H Q where
 go := fun c ok mm news s S va vb ha hb' Q' E k => by
   (refine exE (ha) fun t zq0 => ?_; clear ha; rcases zq0 with rfl); (refine exE (hb') fun u zq0 => ?_; clear hb'; rcases zq0 with rfl)
   exact PyProof.Rows.pow_int_small (by decide) (by decide) (by decide) (k _ _ H news s.heap _ S Keep.rfl (by exact ⟨_, rfl⟩) h)
theorem WOp.addL {l r : Addr} {xs ys : List AV} (hl : H l = some (.list xs)) (hr : H r = some (.list ys)) (hz : xs.length + ys.length ≤ 1000000) (h : ∀ d, H d = none → Q (.ref d) (H.put d (.list (xs ++ ys)))) : WOp G D .Add false (.ref l) (.ref r) H Q where
 go := fun c ok mm news s S va vb ha hb Q' E k => by
   have : va = .ref l := ha
   subst this
   have : vb = .ref r := hb
   subst this
   (refine exEAA (S.get hl) fun o1 m1 zq0 g1 => ?_; refine exEEA (zq0) fun vs n zq1 hv => ?_; clear zq0; rcases zq1 with rfl)
   (refine exEAA (S.get hr) fun o2 m2 zq0 g2 => ?_; refine exEEA (zq0) fun ws n2 zq1 hw => ?_; clear zq0; rcases zq1 with rfl)
   refine PyProof.Rows.add_lists S.fr S.nw ⟨_, g1, rfl, n, rfl⟩ ⟨_, g2, rfl, n2, rfl⟩ (fun h' F N => ?_) (by rw [hv.length, hw.length, sizeLine_eq]; (exact Nat.le_trans (by assumption) (Nat.le_of_ble_eq_true rfl)))
   (refine exA (S.pushO (o := .list (xs ++ ys)) F N (fresh_size S.nw) ⟨_, 0, rfl, hv.app hw⟩) fun S2 K2 => ?_)
   exact k (.ref _) (.ref _) _ _ _ _ S2 K2 rfl (h _ (S.off (fresh_size S.nw)))
theorem WB.tupleL {l : Addr} {xs : List AV} (hl : H l = some (.list xs)) (hz : xs.length ≤ 16384) (h : Q (.tup xs) H) : WB G D (.type "tuple") [.ref l] H Q where
 go := fun c ok mm news s S vals hv Q' E k => by
   (refine exEA (list1 hv) fun v zq0 h1 => ?_; rcases zq0 with rfl)
   have : v = .ref l := h1
   subst this
   (refine exEAA (S.get hl) fun o1 m1 zq0 g1 => ?_; refine exEEA (zq0) fun vs n zq1 hv => ?_; clear zq0; rcases zq1 with rfl)
   refine kde_tupleOf S.fr S.nw ⟨_, g1, rfl, n, rfl⟩ (by rw [List.size_toArray, hv.length]; exact hz) rfl (fun d h' F N lt => ?_)
   have hd : ∀ p ∈ news, p.1 ≠ d := lt_ne lt
   (refine exA (S.push F N hd) fun S2 K2 => ?_)
   exact k (.ref d) (.tup xs) H _ h' s.toks S2 K2 ((VR_tup ..).mpr ⟨d, vs, rfl, .head _, hv.sub sub_cons⟩) h
theorem pick_to (vs : List Value) {u : Int} (h : 0 ≤ u) : kms_pick vs none (some u) = vs.take u.toNat := by
 have e : kms_hi (some u) vs.length = min u.toNat vs.length := by
   show (if u < 0 then _ else _) = _
   rw [if_neg (by lia)]
 rw [kms_pick, e, show kms_lo none vs.length = 0 from rfl, List.drop_zero, Nat.sub_zero, Nat.min_def]
 split
 · rfl
 · rw [List.take_of_length_le (Nat.le_refl _), List.take_of_length_le (by (exact Nat.le_of_not_le (by assumption)))]
theorem pick_from (vs : List Value) {u : Int} (h : 0 ≤ u) : kms_pick vs (some u) none = vs.drop u.toNat := by
 have e : kms_lo (some u) vs.length = min u.toNat vs.length := by
   show (if u < 0 then _ else _) = _
   rw [if_neg (by lia)]
 rw [kms_pick, e, show kms_hi none vs.length = vs.length from rfl, Nat.min_def]
 split
 · rw [List.take_of_length_le (by rw [List.length_drop]; (exact Nat.le_refl _))]
 · rw [List.drop_of_length_le (Nat.le_refl _), List.drop_of_length_le (by lia), List.take_nil]
theorem WE.sliceTo {e u : Expr} {p pos : Pos} (h : WE G D cs cl e m H fun v H1 => ∃ l, v = .ref l ∧ WE G D cs cl u m H1 fun w H2 => ∃ i xs, w = .int i ∧ 0 ≤ i ∧ H2 l = some (.list xs) ∧ xs.length ≤ 1000000 ∧ ∀ d, H2 d = none → Q (.ref d) (H2.put d (.list (xs.take i.toNat))))
   (ht : ∀ o r, letTemporaryGo e o r = pure () := by intro _ _; rfl) : WE G D cs cl (.Subscript e (.Slice none (some u) none p) pos) m H Q where
 go := fun c h1 h2 ok mm news s S lr Q' E k => by
   refine wpAny_Subscript_list_slice (h.go c h1 h2 ok mm news s S lr _ E fun va a H1 n1 h1' tk S1 K1 V1 w => ?_) ht
   (refine exEA (w) ?_; clear w; intro l zq0 w; rcases zq0 with rfl)
   rw [evalPart_none, evalPart_some]
   refine wpAny_pure (w.go c h1 h2 ok mm n1 _ S1 (LR.keep S K1 lr) _ E fun vb b H2 n2 h2' tk2 S2 K2 V2 w2 => ?_)
   (refine exEEAAAA (w2) fun i xs zq0 h0 hl hz q => ?_; clear w2; rcases zq0 with rfl)
   (refine exE (V2) fun t zq0 => ?_; clear V2; rcases zq0 with rfl)
   have : va = .ref l := V1
   subst this
   (refine exEAA (S2.get hl) fun o1 m1 zq0 g1 => ?_; refine exEEA (zq0) fun vs n zq1 hv => ?_; clear zq0; rcases zq1 with rfl)
   refine ⟨l, vs.toArray, none, some i, rfl, ⟨_, g1, rfl, n, rfl⟩, by rw [List.size_toArray, hv.length, sizeLine_eq]; (exact Nat.le_trans (by assumption) (Nat.le_of_ble_eq_true rfl)), IsPart.none, .int .., ?_⟩
   (refine exA (S2.push (d := h2'.objs.size) (ob := { cls := .type "slice", data := .fields #[.none, .int i t, .none] }) (S2.fr.push _) (S2.nw.push S2.fr _) (fresh_size S2.nw)) fun S3 K3 => ?_)
   have F4 := S3.fr.push ({ cls := .type "list", data := .seq (slicePick vs.toArray none (some i) none) } : Obj)
   have N4 := S3.nw.push S3.fr ({ cls := .type "list", data := .seq (slicePick vs.toArray none (some i) none) } : Obj)
   rw [Heap.size_push] at N4
   have hd : ∀ p ∈ ((h2'.objs.size, ({ cls := .type "slice", data := .fields #[.none, .int i t, .none] } : Obj)) :: n2), p.1 ≠ h2'.objs.size + 1 := by
     have := fresh_size S3.nw
     rw [Heap.size_push] at this
     exact this
   (refine exA (S3.pushO (o := .list (xs.take i.toNat)) F4 N4 hd ⟨vs.take i.toNat, 0, by rw [kms_pick_eq, pick_to _ h0], (hv.sub sub_cons).take _⟩) fun S4 K4 => ?_)
   exact k (.ref _) (.ref _) _ _ _ _ S4 (((K1.trans K2).trans K3).trans K4) rfl (q _ (S3.off hd))
theorem WE.sliceFrom {e u : Expr} {p pos : Pos} (h : WE G D cs cl e m H fun v H1 => ∃ l, v = .ref l ∧ WE G D cs cl u m H1 fun w H2 => ∃ i xs, w = .int i ∧ 0 ≤ i ∧ H2 l = some (.list xs) ∧ xs.length ≤ 1000000 ∧ ∀ d, H2 d = none → Q (.ref d) (H2.put d (.list (xs.drop i.toNat))))
   (ht : ∀ o r, letTemporaryGo e o r = pure () := by intro _ _; rfl) : WE G D cs cl (.Subscript e (.Slice (some u) none none p) pos) m H Q where
 go := fun c h1 h2 ok mm news s S lr Q' E k => by
   refine wpAny_Subscript_list_slice (h.go c h1 h2 ok mm news s S lr _ E fun va a H1 n1 h1' tk S1 K1 V1 w => ?_) ht
   (refine exEA (w) ?_; clear w; intro l zq0 w; rcases zq0 with rfl)
   rw [evalPart_some]
   refine w.go c h1 h2 ok mm n1 _ S1 (LR.keep S K1 lr) _ E fun vb b H2 n2 h2' tk2 S2 K2 V2 w2 => ?_
   rw [evalPart_none]
   refine wpAny_pure ?_
   (refine exEEAAAA (w2) fun i xs zq0 h0 hl hz q => ?_; clear w2; rcases zq0 with rfl)
   (refine exE (V2) fun t zq0 => ?_; clear V2; rcases zq0 with rfl)
   have : va = .ref l := V1
   subst this
   (refine exEAA (S2.get hl) fun o1 m1 zq0 g1 => ?_; refine exEEA (zq0) fun vs n zq1 hv => ?_; clear zq0; rcases zq1 with rfl)
   refine ⟨l, vs.toArray, some i, none, rfl, ⟨_, g1, rfl, n, rfl⟩, by rw [List.size_toArray, hv.length, sizeLine_eq]; lia, .int .., IsPart.none, ?_⟩
   (refine exA (S2.push (d := h2'.objs.size) (ob := { cls := .type "slice", data := .fields #[.int i t, .none, .none] }) (S2.fr.push _) (S2.nw.push S2.fr _) (fresh_size S2.nw)) fun S3 K3 => ?_)
   have F4 := S3.fr.push ({ cls := .type "list", data := .seq (slicePick vs.toArray (some i) none none) } : Obj)
   have N4 := S3.nw.push S3.fr ({ cls := .type "list", data := .seq (slicePick vs.toArray (some i) none none) } : Obj)
   rw [Heap.size_push] at N4
   have hd : ∀ p ∈ ((h2'.objs.size, ({ cls := .type "slice", data := .fields #[.int i t, .none, .none] } : Obj)) :: n2), p.1 ≠ h2'.objs.size + 1 := by
     have := fresh_size S3.nw
     rw [Heap.size_push] at this
     exact this
   (refine exA (S3.pushO (o := .list (xs.drop i.toNat)) F4 N4 hd ⟨vs.drop i.toNat, 0, by rw [kms_pick_eq, pick_from _ h0], (hv.sub sub_cons).drop _⟩) fun S4 K4 => ?_)
   exact k (.ref _) (.ref _) _ _ _ _ S4 (((K1.trans K2).trans K3).trans K4) rfl (q _ (S3.off hd))
end
section
variable {G : Gl} {D : Nat} {H : AHeap} {cs : Scope} {cl : List (Str × Addr)} {m : Loc}
theorem CompN.rule {fs : Scope} {fcl : List (Str × Addr)} {sc : Scope} {bcl : List (Str × Addr)} {x : Str} {elt : Expr} {α : Type} {f : α → AV} {kp : Option (Addr × AO)} {Q : List AV → AHeap → Prop} (I : List α → List AV → AHeap → Prop)
   (step : ∀ a rest acc H, I (a :: rest) acc H → keepP kp H → CE G D fs fcl sc bcl x (f a) elt H fun r H' => keepP kp H' ∧ I rest (acc ++ [r]) H') (fin : ∀ acc H, I [] acc H → keepP kp H → Q acc H) :
   ∀ (as : List α) {acc : List AV} {H : AHeap}, keepP kp H → I as acc H → CompN G D fs fcl sc bcl x elt kp Q (as.map f) acc H := by
 intro zz
 induction zz with
 | nil =>
   intro acc H k h
   exact ⟨k, fin acc H h k⟩
 | cons a as ih =>
   intro acc H k h
   exact ⟨k, (step a as acc H h k).mono fun r H' q => ih q.1 q.2⟩
theorem WE.sliceK {e u : Expr} {p pos : Pos} {l : Addr} {vs : List Value} {ns : List Int} (hk : ∀ h : Heap, G.K.In h → h.IsList l vs.toArray) (hi : IntsAre vs ns) (hz : ns.length ≤ 1000000)
   (h : WE G D cs cl e m H fun v H1 => v = .ref l ∧ WE G D cs cl u m H1 fun w H2 => ∃ i, w = .int i ∧ 0 ≤ i ∧ ∀ d, H2 d = none → Q (.ref d) (H2.put d (.list ((ns.take i.toNat).map AV.int))))
   (ht : ∀ o r, letTemporaryGo e o r = pure () := by intro _ _; rfl) : WE G D cs cl (.Subscript e (.Slice none (some u) none p) pos) m H Q where
 go := fun c h1 h2 ok mm news s S lr Q' E k => by
   have hlen : vs.length = ns.length := hi.length
   refine wpAny_Subscript_list_slice (h.go c h1 h2 ok mm news s S lr _ E fun va a H1 n1 h1' tk S1 K1 V1 w => ?_) ht
   (refine exA (w) ?_; clear w; intro zq0 w; rcases zq0 with rfl)
   rw [evalPart_none, evalPart_some]
   refine wpAny_pure (w.go c h1 h2 ok mm n1 _ S1 (LR.keep S K1 lr) _ E fun vb b H2 n2 h2' tk2 S2 K2 V2 w2 => ?_)
   (refine exEAA (w2) fun i zq0 h0 q => ?_; clear w2; rcases zq0 with rfl)
   (refine exE (V2) fun t zq0 => ?_; clear V2; rcases zq0 with rfl)
   have : va = .ref l := V1
   subst this
   have g1 : h2'.IsList l vs.toArray := hk _ (Frag.In.keeps ok.kin S2.fr.keep)
   refine ⟨l, vs.toArray, none, some i, rfl, g1, by rw [List.size_toArray, hlen, sizeLine_eq]; (exact Nat.le_trans (by assumption) (Nat.le_of_ble_eq_true rfl)), IsPart.none, .int .., ?_⟩
   (refine exA (S2.push (d := h2'.objs.size) (ob := { cls := .type "slice", data := .fields #[.none, .int i t, .none] }) (S2.fr.push _) (S2.nw.push S2.fr _) (fresh_size S2.nw)) fun S3 K3 => ?_)
   have F4 := S3.fr.push ({ cls := .type "list", data := .seq (slicePick vs.toArray none (some i) none) } : Obj)
   have N4 := S3.nw.push S3.fr ({ cls := .type "list", data := .seq (slicePick vs.toArray none (some i) none) } : Obj)
   rw [Heap.size_push] at N4
   have hd : ∀ p ∈ ((h2'.objs.size, ({ cls := .type "slice", data := .fields #[.none, .int i t, .none] } : Obj)) :: n2), p.1 ≠ h2'.objs.size + 1 := by
     have := fresh_size S3.nw
     rw [Heap.size_push] at this
     exact this
   have vi : ∀ {vs : List Value} {ns : List Int}, IntsAre vs ns → ∀ news, VRs news (ns.map AV.int) vs := fun h news => by
     induction h with
     | nil => exact (VRs_nil ..).mpr rfl
     | cons n t _ ih => exact (VRs_cons ..).mpr ⟨_, _, rfl, ⟨_, rfl⟩, ih⟩
   (refine exA (S3.pushO (o := .list ((ns.take i.toNat).map AV.int)) F4 N4 hd ⟨vs.take i.toNat, 0, by rw [kms_pick_eq, pick_to _ h0], by rw [List.map_take]; exact (vi hi _).take _⟩) ?_; intro S4 K4)
   exact k (.ref _) (.ref _) _ _ _ _ S4 (((K1.trans K2).trans K3).trans K4) rfl (q _ (S3.off hd))
theorem OR.reK {K' : Frag} {news : Led} : ∀ {o : AO} {ob : Obj}, OR { G with K := K' } news o ob → OR G news o ob
 | .ro x ob', ob, h => ⟨h.1, OR.reK h.2⟩
 | .list _, _, h => h
 | .tdict _, _, h => by
   (refine exAEEEAAA (h) fun h1 eds ep xs h2 h3 h4 h5 => ?_; clear h)
   exact ⟨h1, eds, ep, xs, h2, h3, h4, h5⟩
 | .revT _, _, h => h
 | .revL _ _, _, h => h
 | .junk, _, h => h
 | .idict _, _, h => h
 | .sdict _, _, h => h
 | .iset _, _, h => h
 | .inst _ _, _, h => h
 | .attrs _, _, h => h
 | .cell _, _, h => h
 | .cell0, _, h => h
 | .range _, _, h => h
theorem St.reK {K' : Frag} {h₀ h : Heap} {L : Addr} {mm : Str → Option Value} {news : Led} (S : St { G with K := K' } h₀ L mm H news h) : St G h₀ L mm H news h :=
 ⟨S.fr, S.nw, S.nd, fun a o q => by (refine exEA (S.hr a o q) fun ob z1 z2 => ?_); exact ⟨ob, z1, z2.reK⟩, S.lo⟩
end
theorem exEE {α0 : Sort u0} {α1 : Sort u1} {p0 : α0 → α1 → Prop} {r : Prop} (h : ∃ x0, ∃ x1, p0 x0 x1) (f : ∀ x0, ∀ x1, p0 x0 x1 → r) : r := Exists.elim (h) fun x0 q0 => Exists.elim (q0) fun x1 q1 => f x0 x1 (q1)
theorem exAEA {α0 : Sort u0} {p0 : Prop} {p1 : α0 → Prop} {p2 : α0 → Prop} {r : Prop} (h : p0 ∧ ∃ x0, p1 x0 ∧ p2 x0) (f : p0 → ∀ x0, p1 x0 → p2 x0 → r) : r := Exists.elim (h.2) fun x0 q0 => f (h.1) x0 (q0.1) (q0.2)
theorem exAEE {α0 : Sort u0} {α1 : Sort u1} {p0 : Prop} {p1 : α0 → α1 → Prop} {r : Prop} (h : p0 ∧ ∃ x0, ∃ x1, p1 x0 x1) (f : p0 → ∀ x0, ∀ x1, p1 x0 x1 → r) : r := Exists.elim (h.2) fun x0 q0 => Exists.elim (q0) fun x1 q1 => f (h.1) x0 x1 (q1)
theorem exAAEA {α0 : Sort u0} {p0 : Prop} {p1 : Prop} {p2 : α0 → Prop} {p3 : α0 → Prop} {r : Prop} (h : p0 ∧ p1 ∧ ∃ x0, p2 x0 ∧ p3 x0) (f : p0 → p1 → ∀ x0, p2 x0 → p3 x0 → r) : r := Exists.elim (h.2.2) fun x0 q0 => f (h.1) (h.2.1) x0 (q0.1) (q0.2)
theorem exAEAA {α0 : Sort u0} {p0 : Prop} {p1 : α0 → Prop} {p2 : α0 → Prop} {p3 : α0 → Prop} {r : Prop} (h : p0 ∧ ∃ x0, p1 x0 ∧ p2 x0 ∧ p3 x0) (f : p0 → ∀ x0, p1 x0 → p2 x0 → p3 x0 → r) : r := Exists.elim (h.2) fun x0 q0 => f (h.1) x0 (q0.1) (q0.2.1) (q0.2.2)
theorem exAEAAA {α0 : Sort u0} {p0 : Prop} {p1 : α0 → Prop} {p2 : α0 → Prop} {p3 : α0 → Prop} {p4 : α0 → Prop} {r : Prop} (h : p0 ∧ ∃ x0, p1 x0 ∧ p2 x0 ∧ p3 x0 ∧ p4 x0) (f : p0 → ∀ x0, p1 x0 → p2 x0 → p3 x0 → p4 x0 → r) : r := Exists.elim (h.2) fun x0 q0 => f (h.1) x0 (q0.1) (q0.2.1) (q0.2.2.1) (q0.2.2.2)
theorem exAAAAAAA  {p0 : Prop} {p1 : Prop} {p2 : Prop} {p3 : Prop} {p4 : Prop} {p5 : Prop} {p6 : Prop} {p7 : Prop} {r : Prop} (h : p0 ∧ p1 ∧ p2 ∧ p3 ∧ p4 ∧ p5 ∧ p6 ∧ p7) (f : p0 → p1 → p2 → p3 → p4 → p5 → p6 → p7 → r) : r := f (h.1) (h.2.1) (h.2.2.1) (h.2.2.2.1) (h.2.2.2.2.1) (h.2.2.2.2.2.1) (h.2.2.2.2.2.2.1) (h.2.2.2.2.2.2.2)
theorem exAEEAAAA {α0 : Sort u0} {α1 : Sort u1} {p0 : Prop} {p1 : α0 → α1 → Prop} {p2 : α0 → α1 → Prop} {p3 : α0 → α1 → Prop} {p4 : α0 → α1 → Prop} {p5 : α0 → α1 → Prop} {r : Prop} (h : p0 ∧ ∃ x0, ∃ x1, p1 x0 x1 ∧ p2 x0 x1 ∧ p3 x0 x1 ∧ p4 x0 x1 ∧ p5 x0 x1) (f : p0 → ∀ x0, ∀ x1, p1 x0 x1 → p2 x0 x1 → p3 x0 x1 → p4 x0 x1 → p5 x0 x1 → r) : r := Exists.elim (h.2) fun x0 q0 => Exists.elim (q0) fun x1 q1 => f (h.1) x0 x1 (q1.1) (q1.2.1) (q1.2.2.1) (q1.2.2.2.1) (q1.2.2.2.2)
theorem exEEAAAAA {α0 : Sort u0} {α1 : Sort u1} {p0 : α0 → α1 → Prop} {p1 : α0 → α1 → Prop} {p2 : α0 → α1 → Prop} {p3 : α0 → α1 → Prop} {p4 : α0 → α1 → Prop} {p5 : α0 → α1 → Prop} {r : Prop} (h : ∃ x0, ∃ x1, p0 x0 x1 ∧ p1 x0 x1 ∧ p2 x0 x1 ∧ p3 x0 x1 ∧ p4 x0 x1 ∧ p5 x0 x1) (f : ∀ x0, ∀ x1, p0 x0 x1 → p1 x0 x1 → p2 x0 x1 → p3 x0 x1 → p4 x0 x1 → p5 x0 x1 → r) : r := Exists.elim (h) fun x0 q0 => Exists.elim (q0) fun x1 q1 => f x0 x1 (q1.1) (q1.2.1) (q1.2.2.1) (q1.2.2.2.1) (q1.2.2.2.2.1) (q1.2.2.2.2.2)
theorem exAAAAAAAA  {p0 : Prop} {p1 : Prop} {p2 : Prop} {p3 : Prop} {p4 : Prop} {p5 : Prop} {p6 : Prop} {p7 : Prop} {p8 : Prop} {r : Prop} (h : p0 ∧ p1 ∧ p2 ∧ p3 ∧ p4 ∧ p5 ∧ p6 ∧ p7 ∧ p8) (f : p0 → p1 → p2 → p3 → p4 → p5 → p6 → p7 → p8 → r) : r := f (h.1) (h.2.1) (h.2.2.1) (h.2.2.2.1) (h.2.2.2.2.1) (h.2.2.2.2.2.1) (h.2.2.2.2.2.2.1) (h.2.2.2.2.2.2.2.1) (h.2.2.2.2.2.2.2.2)
theorem exAAAAAAAAA  {p0 : Prop} {p1 : Prop} {p2 : Prop} {p3 : Prop} {p4 : Prop} {p5 : Prop} {p6 : Prop} {p7 : Prop} {p8 : Prop} {p9 : Prop} {r : Prop} (h : p0 ∧ p1 ∧ p2 ∧ p3 ∧ p4 ∧ p5 ∧ p6 ∧ p7 ∧ p8 ∧ p9) (f : p0 → p1 → p2 → p3 → p4 → p5 → p6 → p7 → p8 → p9 → r) : r := f (h.1) (h.2.1) (h.2.2.1) (h.2.2.2.1) (h.2.2.2.2.1) (h.2.2.2.2.2.1) (h.2.2.2.2.2.2.1) (h.2.2.2.2.2.2.2.1) (h.2.2.2.2.2.2.2.2.1) (h.2.2.2.2.2.2.2.2.2)
theorem exEEEEEAAAA {α0 : Sort u0} {α1 : Sort u1} {α2 : Sort u2} {α3 : Sort u3} {α4 : Sort u4} {p0 : α0 → α1 → α2 → α3 → α4 → Prop} {p1 : α0 → α1 → α2 → α3 → α4 → Prop} {p2 : α0 → α1 → α2 → α3 → α4 → Prop} {p3 : α0 → α1 → α2 → α3 → α4 → Prop} {p4 : α0 → α1 → α2 → α3 → α4 → Prop} {r : Prop} (h : ∃ x0, ∃ x1, ∃ x2, ∃ x3, ∃ x4, p0 x0 x1 x2 x3 x4 ∧ p1 x0 x1 x2 x3 x4 ∧ p2 x0 x1 x2 x3 x4 ∧ p3 x0 x1 x2 x3 x4 ∧ p4 x0 x1 x2 x3 x4) (f : ∀ x0, ∀ x1, ∀ x2, ∀ x3, ∀ x4, p0 x0 x1 x2 x3 x4 → p1 x0 x1 x2 x3 x4 → p2 x0 x1 x2 x3 x4 → p3 x0 x1 x2 x3 x4 → p4 x0 x1 x2 x3 x4 → r) : r := Exists.elim (h) fun x0 q0 => Exists.elim (q0) fun x1 q1 => Exists.elim (q1) fun x2 q2 => Exists.elim (q2) fun x3 q3 => Exists.elim (q3) fun x4 q4 => f x0 x1 x2 x3 x4 (q4.1) (q4.2.1) (q4.2.2.1) (q4.2.2.2.1) (q4.2.2.2.2)
theorem exAAAAAAAAAAAA  {p0 : Prop} {p1 : Prop} {p2 : Prop} {p3 : Prop} {p4 : Prop} {p5 : Prop} {p6 : Prop} {p7 : Prop} {p8 : Prop} {p9 : Prop} {p10 : Prop} {p11 : Prop} {p12 : Prop} {r : Prop} (h : p0 ∧ p1 ∧ p2 ∧ p3 ∧ p4 ∧ p5 ∧ p6 ∧ p7 ∧ p8 ∧ p9 ∧ p10 ∧ p11 ∧ p12) (f : p0 → p1 → p2 → p3 → p4 → p5 → p6 → p7 → p8 → p9 → p10 → p11 → p12 → r) : r := f (h.1) (h.2.1) (h.2.2.1) (h.2.2.2.1) (h.2.2.2.2.1) (h.2.2.2.2.2.1) (h.2.2.2.2.2.2.1) (h.2.2.2.2.2.2.2.1) (h.2.2.2.2.2.2.2.2.1) (h.2.2.2.2.2.2.2.2.2.1) (h.2.2.2.2.2.2.2.2.2.2.1) (h.2.2.2.2.2.2.2.2.2.2.2.1) (h.2.2.2.2.2.2.2.2.2.2.2.2)
theorem exAAAAAAAAAAAAAA  {p0 : Prop} {p1 : Prop} {p2 : Prop} {p3 : Prop} {p4 : Prop} {p5 : Prop} {p6 : Prop} {p7 : Prop} {p8 : Prop} {p9 : Prop} {p10 : Prop} {p11 : Prop} {p12 : Prop} {p13 : Prop} {p14 : Prop} {r : Prop} (h : p0 ∧ p1 ∧ p2 ∧ p3 ∧ p4 ∧ p5 ∧ p6 ∧ p7 ∧ p8 ∧ p9 ∧ p10 ∧ p11 ∧ p12 ∧ p13 ∧ p14) (f : p0 → p1 → p2 → p3 → p4 → p5 → p6 → p7 → p8 → p9 → p10 → p11 → p12 → p13 → p14 → r) : r := f (h.1) (h.2.1) (h.2.2.1) (h.2.2.2.1) (h.2.2.2.2.1) (h.2.2.2.2.2.1) (h.2.2.2.2.2.2.1) (h.2.2.2.2.2.2.2.1) (h.2.2.2.2.2.2.2.2.1) (h.2.2.2.2.2.2.2.2.2.1) (h.2.2.2.2.2.2.2.2.2.2.1) (h.2.2.2.2.2.2.2.2.2.2.2.1) (h.2.2.2.2.2.2.2.2.2.2.2.2.1) (h.2.2.2.2.2.2.2.2.2.2.2.2.2.1) (h.2.2.2.2.2.2.2.2.2.2.2.2.2.2)
theorem kwA : True := by
 k_with "as" => (with_reducible assumption)
 trivial
structure Ev where
 w : World
 mean : ExcName → Option Value
 mg : Str → Option Value
 mb : Str → Option Value
variable {e : Ev}
noncomputable def KK (p : Params) : Frag := hd.heap_39 p
noncomputable def Ev.G (e : Ev) : Gl := { prog := PySem.Challenge.rw_rh0103_01.row.prog, w := e.w, K := KK e.w.params, p := hd.view_39, loose := looseW hd.view_39 [], mean := e.mean, mg := e.mg, mb := e.mb }
noncomputable def fnAt (K : Frag) (f : Addr) : Option FuncData := match K.lookup f with
 | some ⟨_, _, .func fd, _⟩ => some fd
 | _ => none
noncomputable def fdv (p : Params) (f : Addr) : FuncData := (fnAt (KK p) f).getD default
noncomputable def stsOf : FuncBody → List Stmt
 | .stmts b => b
 | _ => []
noncomputable def okFd (K : Frag) (fd : FuncData) (ns : List Str) : Bool := (match fd.body with | .stmts _ => true | _ => false) && fd.globals == mainGlobals && fd.closure.isEmpty && fd.builtins == builtinsNs && codeIn K fd.code fd.qualname &&
 (ns.all fun y => fd.scope.names.lookup y == some .local) && (fd.scope.names.all fun x => x.2 != .cell) && !fd.scope.isCoroutine && !fd.scope.isGenerator && fd.scope.kind == .function
set_option tactic.hygienic true in
theorem WC.enterF {D : Nat} {H : AHeap} {f : Addr} {ns : List Str} {args : List AV} {Q : AQ} (hf : fnAt (KK e.w.params) f = some (fdv e.w.params f)) (hok : okFd (KK e.w.params) (fdv e.w.params f) ns = true) (hlen : args.length = ns.length)
   (hbind : ∀ vals : List Value, vals.length = ns.length → bindArgs (fdv e.w.params f) ⟨vals, []⟩ = pure (ns.zip vals))
   (h : WS e.G D (fdv e.w.params f).scope [] (stsOf (fdv e.w.params f).body) (ns.zip args).reverse H fun fl _ H' => Q (retA fl) H') : WC e.G (D + 1) (.ref f) args H Q := by
 simp only [okFd, Bool.and_eq_true, beq_iff_eq, List.isEmpty_iff, Bool.not_eq_true', List.all_eq_true, bne_iff_ne, ne_eq] at hok
 (refine exA (hok) fun zq0 h10 => ?_; clear hok; refine exA (zq0) fun zq1 h9 => ?_; clear zq0; refine exA (zq1) fun zq2 h8 => ?_; clear zq1; refine exA (zq2) fun zq3 h7 => ?_; clear zq2; refine exA (zq3) fun zq4 h6 => ?_; clear zq3; refine exA (zq4) fun zq5 h5 => ?_; clear zq4; refine exA (zq5) fun zq6 h4 => ?_; clear zq5; refine exA (zq6) fun zq7 h3 => ?_; clear zq6; refine exA (zq7) fun h1 h2 => ?_; clear zq7)
 unfold fnAt at hf
 split at hf
 · rename_i oc od fd osl hl
   have hf := Option.some.inj hf
   rw [← hf] at h1 h2 h3 h4 h5 h6 h7 h8 h9 h10 hbind h
   obtain ⟨nm, ql, pr, bd, sc, gl, clo, dV, kV, doc, pm, an, cd, ct, bi⟩ := fd
   dsimp only at h1 h2 h3 h4 h5 h6 h7 h8 h9 h10 hbind h
   subst h2 h3 h4
   cases bd with
   | expr _ => (exact falseE h1)
   | stmts body =>
     exact WC.enter (G := e.G) (oc := oc) (od := od) (osl := osl) (ns := ns) hl h5 hbind (fun y hy => h6 y hy) (fun x hx => h7 x hx) h8 h9 h10 hlen h
 · (exact noneE hf)
noncomputable abbrev V8 := Fin 8
noncomputable def vi (k : V8) : Int := (k.val : Int)
inductive Tm where
 | v (k : V8)
 | a (n : Int)
 | i (n : Int)
 | s1 (t : Tm)
 | s2 (f : Bool) (t u : Tm)
 deriving DecidableEq
noncomputable def Tm.isS : Tm → Bool
 | .s1 _ => true
 | .s2 _ _ _ => true
 | _ => false
theorem TmisS_v : ∀ k, Tm.isS (.v k) = false := fun _ => rfl
theorem TmisS_a : ∀ n, Tm.isS (.a n) = false := fun _ => rfl
theorem TmisS_i : ∀ n, Tm.isS (.i n) = false := fun _ => rfl
theorem TmisS_s1 : ∀ t, Tm.isS (.s1 t) = true := fun _ => rfl
theorem TmisS_s2 : ∀ f t u, Tm.isS (.s2 f t u) = true := fun _ _ _ => rfl
noncomputable def Tm.isV : Tm → Bool
 | .v _ => true
 | _ => false
theorem TmisV_v : ∀ k, Tm.isV (.v k) = true := fun _ => rfl
theorem TmisV_a : ∀ n, Tm.isV (.a n) = false := fun _ => rfl
theorem TmisV_i : ∀ n, Tm.isV (.i n) = false := fun _ => rfl
theorem TmisV_s1 : ∀ t, Tm.isV (.s1 t) = false := fun _ => rfl
theorem TmisV_s2 : ∀ f t u, Tm.isV (.s2 f t u) = false := fun _ _ _ => rfl
noncomputable def Tm.args : Tm → List Tm
 | .s1 t => [t]
 | .s2 _ t u => [t, u]
 | _ => []
theorem Tmargs_v : ∀ k, Tm.args (.v k) = [] := fun _ => rfl
theorem Tmargs_a : ∀ n, Tm.args (.a n) = [] := fun _ => rfl
theorem Tmargs_i : ∀ n, Tm.args (.i n) = [] := fun _ => rfl
theorem Tmargs_s1 : ∀ t, Tm.args (.s1 t) = [t] := fun _ => rfl
theorem Tmargs_s2 : ∀ f t u, Tm.args (.s2 f t u) = [t, u] := fun _ _ _ => rfl
noncomputable def Tm.fn : Tm → Int
 | .s1 _ => 12
 | .s2 false _ _ => 0
 | .s2 true _ _ => 14
 | _ => 0
noncomputable def Tm.size : Tm → Nat
 | .s1 t => t.size + 1
 | .s2 _ t u => t.size + u.size + 1
 | _ => 1
theorem Tmsize_v : ∀ k, Tm.size (.v k) = 1 := fun _ => rfl
theorem Tmsize_a : ∀ n, Tm.size (.a n) = 1 := fun _ => rfl
theorem Tmsize_i : ∀ n, Tm.size (.i n) = 1 := fun _ => rfl
theorem Tmsize_s1 : ∀ t, Tm.size (.s1 t) = t.size + 1 := fun _ => rfl
theorem Tmsize_s2 : ∀ f t u, Tm.size (.s2 f t u) = t.size + u.size + 1 := fun _ _ _ => rfl
noncomputable def sS (x : String) : AV := .str (Str.ofString x)
noncomputable def Tm.av : Tm → AV
 | .v k => .tup [sS "v", .int (vi k)]
 | .a n => .tup [sS "a", .int n]
 | .i n => .tup [sS "i", .int n]
 | .s1 t => .tup [sS "s", .int 12, .tup [t.av]]
 | .s2 false t u => .tup [sS "s", .int 0, .tup [t.av, u.av]]
 | .s2 true t u => .tup [sS "s", .int 14, .tup [t.av, u.av]]
noncomputable def Tm.occs : Tm → List V8
 | .v k => [k]
 | .s1 t => t.occs
 | .s2 _ t u => t.occs ++ u.occs
 | _ => []
theorem Tmoccs_v : ∀ k, Tm.occs (.v k) = [k] := fun _ => rfl
theorem Tmoccs_a : ∀ n, Tm.occs (.a n) = [] := fun _ => rfl
theorem Tmoccs_i : ∀ n, Tm.occs (.i n) = [] := fun _ => rfl
theorem Tmoccs_s1 : ∀ t, Tm.occs (.s1 t) = t.occs := fun _ => rfl
theorem Tmoccs_s2 : ∀ f t u, Tm.occs (.s2 f t u) = t.occs ++ u.occs := fun _ _ _ => rfl
noncomputable def firsts : List V8 → List V8 → List V8
 | _, [] => []
 | seen, k :: r => if k ∈ seen then firsts seen r else k :: firsts (k :: seen) r
theorem firsts_n : ∀ s, firsts s [] = [] := fun _ => rfl
theorem firsts_c : ∀ s k r, firsts s (k :: r) = if k ∈ s then firsts s r else k :: firsts (k :: s) r := fun _ _ _ => rfl
noncomputable def Tm.vars (t : Tm) : List V8 := firsts [] t.occs
inductive Part where
 | t (n : Int)
 | y (n : Int)
 | a (n : Int)
 | c (k n : Int)
 | num (i : Int)
noncomputable def Part.av : Part → AV
 | .t n => .tup [sS "t", .int n]
 | .y n => .tup [sS "y", .int n]
 | .a n => .tup [sS "a", .int n]
 | .c k n => .tup [.int k, .int n]
 | .num i => .int i
noncomputable abbrev Row := String × List Part
noncomputable def Row.av (r : Row) : AV := .tup (sS r.1 :: r.2.map Part.av)
inductive Kind where
 | void | perm | temp
 deriving DecidableEq
structure PlanM where
 dom : V8 → Bool
 kind : V8 → Kind
 slot : V8 → Int
 uns : V8 → Bool
 last : V8 → Int
 needs : Bool
 size : Int
 live : List Int
structure CS where
 code : List Row
 seen : V8 → Bool
 loc : V8 → Bool
 next : Int
noncomputable def ins (S : V8 → Bool) (k : V8) : V8 → Bool := fun x => S x || decide (x = k)
noncomputable def del (S : V8 → Bool) (k : V8) : V8 → Bool := fun x => S x && !decide (x = k)
noncomputable def CS.emit (st : CS) (w : String) (ps : List Part) : CS := { st with code := st.code ++ [(w, ps)] }
noncomputable def CS.see (st : CS) (k : V8) : CS := { st with seen := ins st.seen k }
noncomputable def CS.addLoc (st : CS) (k : V8) : CS := { st with loc := ins st.loc k }
noncomputable def CS.delLoc (st : CS) (k : V8) : CS := { st with loc := del st.loc k }
noncomputable def CS.tick (st : CS) : CS := { st with next := st.next + 1 }
noncomputable def PlanM.place (P : PlanM) (k : V8) : Part := if P.kind k = .perm then .y (P.slot k) else .t (vi k)
noncomputable def PlanM.void (P : PlanM) (k : V8) : Bool := decide (P.kind k = .void)
noncomputable def PlanM.perm (P : PlanM) (k : V8) : Bool := decide (P.kind k = .perm)
noncomputable def Tm.cell : Tm → Part
 | .a n => .c 4 n
 | .i n => .c 5 n
 | _ => .c 5 0
theorem Tmcell_v : ∀ k, Tm.cell (.v k) = .c 5 0 := fun _ => rfl
theorem Tmcell_a : ∀ n, Tm.cell (.a n) = .c 4 n := fun _ => rfl
theorem Tmcell_i : ∀ n, Tm.cell (.i n) = .c 5 n := fun _ => rfl
theorem Tmcell_s1 : ∀ t, Tm.cell (.s1 t) = .c 5 0 := fun _ => rfl
theorem Tmcell_s2 : ∀ f t u, Tm.cell (.s2 f t u) = .c 5 0 := fun _ _ _ => rfl
noncomputable def isVoid (P : PlanM) : Tm → Bool
 | .v k => P.void k
 | _ => false
theorem isVoid_v : ∀ P k, isVoid P (.v k) = P.void k := fun _ _ => rfl
theorem isVoid_a : ∀ P n, isVoid P (.a n) = false := fun _ _ => rfl
theorem isVoid_i : ∀ P n, isVoid P (.i n) = false := fun _ _ => rfl
theorem isVoid_s1 : ∀ P t, isVoid P (.s1 t) = false := fun _ _ => rfl
theorem isVoid_s2 : ∀ P f t u, isVoid P (.s2 f t u) = false := fun _ _ _ _ => rfl
noncomputable def flush (w : String) (voids : Int) (st : CS) : CS := if 0 < voids then st.emit w [.num voids] else st
noncomputable def rst (voids : Int) : Int := if 0 < voids then 0 else voids
noncomputable def mVar (P : PlanM) (k : V8) (st : CS) : CS :=
 if st.seen k then (if st.loc k then st.emit "unify_local_value" [P.place k] else st.emit "unify_value" [P.place k])
 else (st.see k).emit "unify_variable" [P.place k]
noncomputable def mArg (P : PlanM) (arg : Tm) (nested : List (Tm × Part)) (st : CS) : List (Tm × Part) × CS :=
 match arg with
 | .v k => (nested, mVar P k st)
 | .a n => (nested, st.emit "unify_constant" [.c 4 n])
 | .i n => (nested, st.emit "unify_constant" [.c 5 n])
 | t => (nested ++ [(t, .t st.next)], st.tick.emit "unify_variable" [.t st.next])
theorem mArg_v : ∀ P k ns st, mArg P (.v k) ns st = (ns, mVar P k st) := fun _ _ _ _ => rfl
theorem mArg_a : ∀ P n ns st, mArg P (.a n) ns st = (ns, st.emit "unify_constant" [.c 4 n]) := fun _ _ _ _ => rfl
theorem mArg_i : ∀ P n ns st, mArg P (.i n) ns st = (ns, st.emit "unify_constant" [.c 5 n]) := fun _ _ _ _ => rfl
theorem mArg_s1 : ∀ P t ns st, mArg P (.s1 t) ns st = (ns ++ [(.s1 t, .t st.next)], st.tick.emit "unify_variable" [.t st.next]) := fun _ _ _ _ => rfl
theorem mArg_s2 : ∀ P f t u ns st, mArg P (.s2 f t u) ns st = (ns ++ [(.s2 f t u, .t st.next)], st.tick.emit "unify_variable" [.t st.next]) := fun _ _ _ _ _ _ => rfl
noncomputable def mArgs (P : PlanM) : List Tm → Int → List (Tm × Part) → CS → List (Tm × Part) × CS
 | [], voids, nested, st => (nested, flush "unify_void" voids st)
 | arg :: rest, voids, nested, st =>
   if isVoid P arg then mArgs P rest (voids + 1) nested st
   else let r := mArg P arg nested (flush "unify_void" voids st); mArgs P rest (rst voids) r.1 r.2
noncomputable def openRow (st : CS) (w : String) (t : Tm) (reg : Part) : CS := if t.fn = 0 then st.emit (w ++ "_list") [reg] else st.emit (w ++ "_structure") [.num t.fn, reg]
noncomputable def matchN (P : PlanM) : Nat → List (Tm × Part) → CS → CS
 | 0, _, st => st
 | _ + 1, [], st => st
 | n + 1, (t, reg) :: ws, st => let r := mArgs P t.args 0 [] (openRow st "get" t reg); matchN P n (r.1 ++ ws) r.2
theorem matchN_c : ∀ P n t reg ws st, matchN P (n + 1) ((t, reg) :: ws) st = matchN P n ((mArgs P t.args 0 [] (openRow st "get" t reg)).1 ++ ws) (mArgs P t.args 0 [] (openRow st "get" t reg)).2 := fun _ _ _ _ _ _ => rfl
noncomputable def matchT (P : PlanM) (t : Tm) (reg : Part) (st : CS) : CS := matchN P t.size [(t, reg)] st
noncomputable def headArg (P : PlanM) (t : Tm) (src : Part) (st : CS) : CS :=
 match t with
 | .v k => if P.void k then st else if st.seen k then st.emit "get_value" [P.place k, src] else ((st.see k).addLoc k).emit "get_variable" [P.place k, src]
 | .a n => st.emit "get_constant" [.c 4 n, src]
 | .i n => st.emit "get_constant" [.c 5 n, src]
 | t => matchT P t src st
theorem headArg_v : ∀ P k src st, headArg P (.v k) src st = if P.void k then st else if st.seen k then st.emit "get_value" [P.place k, src] else ((st.see k).addLoc k).emit "get_variable" [P.place k, src] := fun _ _ _ _ => rfl
theorem headArg_a : ∀ P n src st, headArg P (.a n) src st = st.emit "get_constant" [.c 4 n, src] := fun _ _ _ _ => rfl
theorem headArg_i : ∀ P n src st, headArg P (.i n) src st = st.emit "get_constant" [.c 5 n, src] := fun _ _ _ _ => rfl
theorem headArg_s1 : ∀ P t src st, headArg P (.s1 t) src st = matchT P (.s1 t) src st := fun _ _ _ _ => rfl
theorem headArg_s2 : ∀ P f t u src st, headArg P (.s2 f t u) src st = matchT P (.s2 f t u) src st := fun _ _ _ _ _ _ => rfl
noncomputable def setVar (P : PlanM) (k : V8) (st : CS) : CS :=
 if st.seen k then (if st.loc k then (if P.perm k then st.emit "set_local_value" [P.place k] else (st.emit "set_local_value" [P.place k]).delLoc k) else st.emit "set_value" [P.place k])
 else (st.see k).emit "set_variable" [P.place k]
inductive Piece where
 | tm (t : Tm)
 | reg (n : Int)
noncomputable def Piece.av : Piece → AV
 | .tm t => t.av
 | .reg n => (Part.t n).av
noncomputable def Piece.isVoid (P : PlanM) : Piece → Bool
 | .tm t => Mine.isVoid P t
 | .reg _ => false
theorem PieceisVoid_t : ∀ P t, Piece.isVoid P (.tm t) = Mine.isVoid P t := fun _ _ => rfl
theorem PieceisVoid_r : ∀ P n, Piece.isVoid P (.reg n) = false := fun _ _ => rfl
noncomputable def setArg (P : PlanM) (p : Piece) (st : CS) : CS :=
 match p with
 | .reg n => st.emit "set_value" [.t n]
 | .tm (.v k) => setVar P k st
 | .tm (.a n) => st.emit "set_constant" [.c 4 n]
 | .tm (.i n) => st.emit "set_constant" [.c 5 n]
 | .tm _ => st
theorem setArg_r : ∀ P n st, setArg P (.reg n) st = st.emit "set_value" [.t n] := fun _ _ _ => rfl
theorem setArg_v : ∀ P k st, setArg P (.tm (.v k)) st = setVar P k st := fun _ _ _ => rfl
theorem setArg_a : ∀ P n st, setArg P (.tm (.a n)) st = st.emit "set_constant" [.c 4 n] := fun _ _ _ => rfl
theorem setArg_i : ∀ P n st, setArg P (.tm (.i n)) st = st.emit "set_constant" [.c 5 n] := fun _ _ _ => rfl
theorem setArg_s1 : ∀ P t st, setArg P (.tm (.s1 t)) st = st := fun _ _ _ => rfl
theorem setArg_s2 : ∀ P f t u st, setArg P (.tm (.s2 f t u)) st = st := fun _ _ _ _ _ => rfl
noncomputable def setArgs (P : PlanM) : List Piece → Int → CS → CS
 | [], voids, st => flush "set_void" voids st
 | p :: rest, voids, st => if p.isVoid P then setArgs P rest (voids + 1) st else setArgs P rest (rst voids) (setArg P p (flush "set_void" voids st))
noncomputable def nestedOrder : Tm → List Tm
 | .s1 t => if t.isS then [t] else []
 | .s2 _ t u => (if u.isS then [u] else []) ++ (if t.isS then [t] else [])
 | _ => []
theorem nestedOrder_s1 : ∀ t, nestedOrder (.s1 t) = if t.isS then [t] else [] := fun _ => rfl
theorem nestedOrder_s2 : ∀ f t u, nestedOrder (.s2 f t u) = (if u.isS then [u] else []) ++ (if t.isS then [t] else []) := fun _ _ _ => rfl
theorem nestedOrder_v : ∀ k, nestedOrder (.v k) = [] := fun _ => rfl
theorem nestedOrder_a : ∀ k, nestedOrder (.a k) = [] := fun _ => rfl
theorem nestedOrder_i : ∀ k, nestedOrder (.i k) = [] := fun _ => rfl
noncomputable def takePiece (t : Tm) (built : List Int) : Piece × List Int :=
 if t.isS then (match built with | b :: r => (.reg b, r) | [] => (.tm t, [])) else (.tm t, built)
noncomputable def takeNested : Tm → List Int → List Piece × List Int
 | .s1 t, built => let r := takePiece t built; ([r.1], r.2)
 | .s2 _ t u, built => let r := takePiece t built; let q := takePiece u r.2; ([r.1, q.1], q.2)
 | _, built => ([], built)
theorem takeNested_s1 : ∀ t b, takeNested (.s1 t) b = ([(takePiece t b).1], (takePiece t b).2) := fun _ _ => rfl
theorem takeNested_s2 : ∀ f t u b, takeNested (.s2 f t u) b = ([(takePiece t b).1, (takePiece u (takePiece t b).2).1], (takePiece u (takePiece t b).2).2) := fun _ _ _ _ => rfl
theorem takeNested_v : ∀ k b, takeNested (.v k) b = ([], b) := fun _ _ => rfl
theorem takeNested_a : ∀ k b, takeNested (.a k) b = ([], b) := fun _ _ => rfl
theorem takeNested_i : ∀ k b, takeNested (.i k) b = ([], b) := fun _ _ => rfl
noncomputable def bLoop (P : PlanM) (target : Part) : Nat → List (Bool × Tm) → List Int → CS → CS
 | 0, _, _, st => st
 | _ + 1, [], _, st => st
 | n + 1, (false, t) :: ws, built, st => bLoop P target n ((nestedOrder t).map (fun x => (false, x)) ++ (true, t) :: ws) built st
 | n + 1, (true, t) :: ws, built, st =>
   let r := takeNested t built
   match ws with
   | [] => bLoop P target n [] (0 :: r.2) (setArgs P r.1 0 (openRow st "put" t target))
   | w :: ws => bLoop P target n (w :: ws) (st.next :: r.2) (setArgs P r.1 0 (openRow st.tick "put" t (.t st.next)))
noncomputable def build (P : PlanM) (t : Tm) (target : Part) (st : CS) : CS := bLoop P target (2 * t.size) [(false, t)] [] st
noncomputable def freshReg (P : PlanM) (k : V8) (st : CS) : Int × CS := if P.perm k then (st.next, st.tick) else (vi k, st)
noncomputable def settle (P : PlanM) (k : V8) (r : Int) (st : CS) : CS := if P.perm k then (st.see k).emit "get_variable" [P.place k, .t r] else st.see k
noncomputable def loadSlot (P : PlanM) (k : V8) (r : Int) (st : CS) : CS := if st.loc k then st.emit "put_unsafe_value" [P.place k, .t r] else st.emit "put_value" [P.place k, .t r]
noncomputable def regOf (P : PlanM) (k : V8) (st : CS) : Int × CS := if P.perm k then (st.next, loadSlot P k st.next st.tick) else (vi k, st)
noncomputable def introduce (P : PlanM) (k : V8) (st : CS) : CS := if P.void k then st else let r := freshReg P k st; settle P k r.1 (r.2.emit "put_void" [.t r.1])
noncomputable def alias (P : PlanM) (k old : V8) (st : CS) : CS :=
 if P.void k then st
 else if P.perm old then (let r := freshReg P k st; settle P k r.1 (loadSlot P old r.1 r.2))
 else
   let st1 := if st.loc old then st.addLoc k else st
   if P.perm k then (st1.see k).emit "get_variable" [P.place k, P.place old] else (st1.see k).emit "put_value" [P.place old, P.place k]
noncomputable def unifyVars (P : PlanM) (j k : V8) (st : CS) : CS :=
 if st.seen j && st.seen k then
   if j = k then st
   else if P.perm j then (let r := regOf P k st; r.2.emit "get_value" [P.place j, .t r.1])
   else st.emit "get_value" [P.place k, P.place j]
 else if st.seen j then alias P k j st
 else if st.seen k then alias P j k st
 else
   let st1 := introduce P k st
   if j = k then st1 else if st1.seen k then alias P j k st1 else introduce P j st1
noncomputable def unifyWith (P : PlanM) (k : V8) (t : Tm) (st : CS) : CS :=
 match t with
 | .v j => unifyVars P k j st
 | t =>
   let st1 := if !st.seen k && decide (k ∈ t.occs) then introduce P k st else st
   if st1.seen k then
     let r := regOf P k st1
     if t.isS then matchT P t (.t r.1) r.2 else r.2.emit "get_constant" [t.cell, .t r.1]
   else if P.void k then (if t.isS then build P t (.t st1.next) st1.tick else st1)
   else
     let r := freshReg P k st1
     settle P k r.1 (if t.isS then build P t (.t r.1) r.2 else r.2.emit "put_constant" [t.cell, .t r.1])
noncomputable def uLoop (P : PlanM) : Nat → List (Tm × Tm) → CS → CS
 | 0, _, st => st
 | _ + 1, [], st => st
 | n + 1, (x, y) :: ps, st =>
   let one := if !x.isV && y.isV then y else x
   let other := if !x.isV && y.isV then x else y
   match one with
   | .v k => uLoop P n ps (unifyWith P k other st)
   | one =>
     if one.isS && other.isS && decide (one.fn = other.fn) then uLoop P n (one.args.zip other.args ++ ps) st
     else if one.isS || other.isS || decide (one ≠ other) then uLoop P n ps (st.emit "fail" [])
     else uLoop P n ps st
noncomputable def unifyGoal (P : PlanM) (l r : Tm) (st : CS) : CS := uLoop P (l.size + 1) [(l, r)] st
inductive Goal where
 | call (f : Int) (as : List Tm)
 | builtin (f : Int) (as : List Tm)
 | unify (l r : Tm)
 | cut
 | level (k : V8)
 | mark (k : V8)
 | cutto (k : V8)
noncomputable def Goal.av : Goal → AV
 | .call f as => .tup [sS "call", .int f, .tup (as.map Tm.av)]
 | .builtin f as => .tup [sS "builtin", .int f, .tup (as.map Tm.av)]
 | .unify l r => .tup [sS "unify", l.av, r.av]
 | .cut => .tup [sS "cut"]
 | .level k => .tup [sS "level", .int (vi k)]
 | .mark k => .tup [sS "mark", .int (vi k)]
 | .cutto k => .tup [sS "cutto", .int (vi k)]
noncomputable def loadVar (P : PlanM) (k : V8) (target : Part) (leaving : Int) (st : CS) : CS :=
 if P.void k then st.emit "put_void" [target]
 else if st.seen k then
   if P.uns k && decide (0 ≤ leaving) && decide (P.last k = leaving) then st.emit "put_unsafe_value" [P.place k, target] else st.emit "put_value" [P.place k, target]
 else if P.perm k then ((st.see k).addLoc k).emit "put_variable" [P.place k, target] else (st.see k).emit "put_variable" [P.place k, target]
noncomputable def loadArg (P : PlanM) (t : Tm) (target : Part) (leaving : Int) (st : CS) : CS :=
 match t with
 | .v k => loadVar P k target leaving st
 | .a n => st.emit "put_constant" [.c 4 n, target]
 | .i n => st.emit "put_constant" [.c 5 n, target]
 | t => build P t target st
noncomputable def loadArgs (P : PlanM) (leaving : Int) : List Tm → Int → CS → CS
 | [], _, st => st
 | t :: r, n, st => loadArgs P leaving r (n + 1) (loadArg P t (.a (n + 1)) leaving st)
noncomputable def numberGoal (P : PlanM) (w : String) (k : V8) (st : CS) : CS := if P.void k then st else (st.see k).emit w [P.place k]
noncomputable def goalM (P : PlanM) (g : Goal) (index : Int) (st : CS) : CS :=
 match g with
 | .call _ as => loadArgs P index as 0 st
 | .builtin f as => (loadArgs P (-1) as 0 st).emit "builtin" [.num f]
 | .unify l r => unifyGoal P l r st
 | .cut => st.emit "neck_cut" []
 | .level k => numberGoal P "get_level" k st
 | .mark k => numberGoal P "mark" k st
 | .cutto k => numberGoal P "cut_to" k st
noncomputable def headArgs (P : PlanM) : List Tm → Int → CS → CS
 | [], _, st => st
 | t :: r, n, st => headArgs P r (n + 1) (headArg P t (.a (n + 1)) st)
noncomputable def goalsM (P : PlanM) : List Goal → Nat → CS → CS
 | [], _, st => (if P.needs then st.emit "deallocate" [] else st).emit "proceed" []
 | [g], n, st =>
   let st1 := goalM P g n st
   let st2 := if P.needs then st1.emit "deallocate" [] else st1
   (match g with | .call f _ => st2.emit "execute" [.num f] | _ => st2.emit "proceed" [])
 | g :: r, n, st =>
   let st1 := goalM P g n st
   goalsM P r (n + 1) (match g with | .call f _ => st1.emit "call" [.num f, .num (P.live.getD n 0)] | _ => st1)
theorem goalsM_n : ∀ P n st, goalsM P [] n st = (if P.needs then st.emit "deallocate" [] else st).emit "proceed" [] := fun _ _ _ => rfl
noncomputable def CS.start (count : Int) : CS := ⟨[], fun _ => false, fun _ => false, count⟩
noncomputable def clauseM (P : PlanM) (count : Int) (heads : List Tm) (goals : List Goal) : List Row :=
 let st0 := if P.needs then (CS.start count).emit "allocate" [.num P.size] else CS.start count
 (goalsM P goals 0 (headArgs P heads 0 st0)).code
theorem len_cons {α : Type} {l : List α} {n : Nat} (h : l.length = n + 1) : ∃ x r, l = x :: r ∧ r.length = n := by
 cases l with
 | nil => cases h
 | cons x r => exact ⟨x, r, rfl, Nat.succ.inj h⟩
theorem bind1 {fd : FuncData} {a : Str} (h : ∀ x, bindArgs fd ⟨[x], []⟩ = pure [(a, x)]) : ∀ vals : List Value, vals.length = [a].length → bindArgs fd ⟨vals, []⟩ = pure ([a].zip vals) := by
 intro vals h0
 (refine exEEA (len_cons h0) fun x r zq0 h1 => ?_; rcases zq0 with rfl)
 rw [List.eq_nil_of_length_eq_zero h1]
 exact h x
theorem bind2 {fd : FuncData} {a b : Str} (h : ∀ x y, bindArgs fd ⟨[x, y], []⟩ = pure [(a, x), (b, y)]) : ∀ vals : List Value, vals.length = [a, b].length → bindArgs fd ⟨vals, []⟩ = pure ([a, b].zip vals) := by
 intro vals h0
 (refine exEEA (len_cons h0) fun x r zq0 h1 => ?_; rcases zq0 with rfl)
 (refine exEEA (len_cons h1) fun y r zq0 h2 => ?_; rcases zq0 with rfl)
 rw [List.eq_nil_of_length_eq_zero h2]
 exact h x y
theorem bind3 {fd : FuncData} {a b c : Str} (h : ∀ x y z, bindArgs fd ⟨[x, y, z], []⟩ = pure [(a, x), (b, y), (c, z)]) : ∀ vals : List Value, vals.length = [a, b, c].length → bindArgs fd ⟨vals, []⟩ = pure ([a, b, c].zip vals) := by
 intro vals h0
 (refine exEEA (len_cons h0) fun x r zq0 h1 => ?_; rcases zq0 with rfl)
 (refine exEEA (len_cons h1) fun y r zq0 h2 => ?_; rcases zq0 with rfl)
 (refine exEEA (len_cons h2) fun z r zq0 h3 => ?_; rcases zq0 with rfl)
 rw [List.eq_nil_of_length_eq_zero h3]
 exact h x y z
theorem bind4 {fd : FuncData} {a b c d : Str} (h : ∀ x y z u, bindArgs fd ⟨[x, y, z, u], []⟩ = pure [(a, x), (b, y), (c, z), (d, u)]) : ∀ vals : List Value, vals.length = [a, b, c, d].length → bindArgs fd ⟨vals, []⟩ = pure ([a, b, c, d].zip vals) := by
 intro vals h0
 (refine exEEA (len_cons h0) fun x r zq0 h1 => ?_; rcases zq0 with rfl)
 (refine exEEA (len_cons h1) fun y r zq0 h2 => ?_; rcases zq0 with rfl)
 (refine exEEA (len_cons h2) fun z r zq0 h3 => ?_; rcases zq0 with rfl)
 (refine exEEA (len_cons h3) fun u r zq0 h4 => ?_; rcases zq0 with rfl)
 rw [List.eq_nil_of_length_eq_zero h4]
 exact h x y z u
theorem bind5 {fd : FuncData} {a b c d f : Str} (h : ∀ x y z u v, bindArgs fd ⟨[x, y, z, u, v], []⟩ = pure [(a, x), (b, y), (c, z), (d, u), (f, v)]) : ∀ vals : List Value, vals.length = [a, b, c, d, f].length → bindArgs fd ⟨vals, []⟩ = pure ([a, b, c, d, f].zip vals) := by
 intro vals h0
 (refine exEEA (len_cons h0) fun x r zq0 h1 => ?_; rcases zq0 with rfl)
 (refine exEEA (len_cons h1) fun y r zq0 h2 => ?_; rcases zq0 with rfl)
 (refine exEEA (len_cons h2) fun z r zq0 h3 => ?_; rcases zq0 with rfl)
 (refine exEEA (len_cons h3) fun u r zq0 h4 => ?_; rcases zq0 with rfl)
 (refine exEEA (len_cons h4) fun v r zq0 h5 => ?_; rcases zq0 with rfl)
 rw [List.eq_nil_of_length_eq_zero h5]
 exact h x y z u v
theorem bind6 {fd : FuncData} {a b c d f g : Str} (h : ∀ x y z u v w, bindArgs fd ⟨[x, y, z, u, v, w], []⟩ = pure [(a, x), (b, y), (c, z), (d, u), (f, v), (g, w)]) : ∀ vals : List Value, vals.length = [a, b, c, d, f, g].length → bindArgs fd ⟨vals, []⟩ = pure ([a, b, c, d, f, g].zip vals) := by
 intro vals h0
 (refine exEEA (len_cons h0) fun x r zq0 h1 => ?_; rcases zq0 with rfl)
 (refine exEEA (len_cons h1) fun y r zq0 h2 => ?_; rcases zq0 with rfl)
 (refine exEEA (len_cons h2) fun z r zq0 h3 => ?_; rcases zq0 with rfl)
 (refine exEEA (len_cons h3) fun u r zq0 h4 => ?_; rcases zq0 with rfl)
 (refine exEEA (len_cons h4) fun v r zq0 h5 => ?_; rcases zq0 with rfl)
 (refine exEEA (len_cons h5) fun w r zq0 h6 => ?_; rcases zq0 with rfl)
 rw [List.eq_nil_of_length_eq_zero h6]
 exact h x y z u v w
noncomputable def toS (S : V8 → Bool) : Int → Bool := fun i => if h : 0 ≤ i ∧ i < 8 then S ⟨i.toNat, by lia⟩ else false
theorem vi_lo (k : V8) : 0 ≤ vi k ∧ vi k < 8 := by unfold vi; have := k.isLt; lia
theorem vi_inj {j k : V8} (h : vi j = vi k) : j = k := by unfold vi at h; exact Fin.ext (by lia)
theorem toS_vi (S : V8 → Bool) (k : V8) : toS S (vi k) = S k := by
 unfold toS
 rw [dif_pos (vi_lo k)]
 congr 1
theorem toS_ins (S : V8 → Bool) (k : V8) : insS (toS S) (vi k) = toS (ins S k) := by
 funext x
 unfold insS toS ins
 by_cases h : 0 ≤ x ∧ x < 8
 · simp only [dif_pos h]
   congr 1
   apply decide_eq_decide.mpr
   constructor
   · intro e; subst e; apply Fin.ext; unfold vi; simp
   · intro e; subst e; unfold vi; simp; lia
 · simp only [dif_neg h]
   have : x ≠ vi k := fun e => h (e ▸ vi_lo k)
   (exact decide_eq_false (by assumption))
theorem toS_del (S : V8 → Bool) (k : V8) : delS (toS S) (vi k) = toS (del S k) := by
 funext x
 unfold delS toS del
 by_cases h : 0 ≤ x ∧ x < 8
 · simp only [dif_pos h]
   congr 2
   apply decide_eq_decide.mpr
   constructor
   · intro e; subst e; apply Fin.ext; unfold vi; simp
   · intro e; subst e; unfold vi; simp; lia
 · simp only [dif_neg h]
   have : x ≠ vi k := fun e => h (e ▸ vi_lo k)
   (rfl)
noncomputable def kindS : Kind → Str
 | .void => "void"
 | .perm => "perm"
 | .temp => "temp"
structure Adr where
 self : Addr
 d : Addr
 lc : Addr
 ls : Addr
 ll : Addr
 plan : Addr
 kern : Addr
noncomputable abbrev Adr.mods (c : Adr) : List Addr := [c.d, c.lc, c.ls, c.ll]
structure InfoAt (B : AHeap) (ik : Addr) (P : PlanM) (k : V8) : Prop where
 go : ∃ dk as, B ik = some (.inst 478 dk) ∧ B dk = some (.attrs as) ∧ as.lookup ("kind" : Str) = some (.str (kindS (P.kind k))) ∧ as.lookup ("slot" : Str) = some (.int (P.slot k)) ∧ as.lookup ("unsafe" : Str) = some (.bool (P.uns k)) ∧ as.lookup ("last_goal" : Str) = some (.int (P.last k))
structure PlanAt (B : AHeap) (lp : Addr) (P : PlanM) : Prop where
 go : ∃ dp li lch llv infos, B lp = some (.inst 534 dp) ∧ B dp = some (.attrs [("infos", .ref li), ("chunks", lch), ("needs_env", .bool P.needs), ("env_size", .int P.size), ("live_after", .ref llv)]) ∧ B li = some (.idict infos) ∧ B llv = some (.list (P.live.map AV.int)) ∧
   ∀ k, P.dom k = true → ∃ ik, infos.lookup (vi k) = some (.ref ik) ∧ InfoAt B ik P k
noncomputable def Fram (ms : List Addr) (H H' : AHeap) : Prop := ∀ a o, H a = some o → a ∉ ms → H' a = some o
theorem Fram.refl {ms : List Addr} {H : AHeap} : Fram ms H H := fun _ _ h _ => h
theorem Fram.trans {ms : List Addr} {H H' H'' : AHeap} (a : Fram ms H H') (b : Fram ms H' H'') : Fram ms H H'' := fun x o h n => b x o (a x o h n) n
theorem Fram.put {ms : List Addr} {H : AHeap} {a : Addr} {o : AO} (h : a ∈ ms) : Fram ms H (H.put a o) := fun x o' e n => (AHeap.put_ne H o (fun z => by rw [z] at n; exact n h)).trans e
theorem Fram.new {ms : List Addr} {H : AHeap} {a : Addr} {o : AO} (h : H a = none) : Fram ms H (H.put a o) := fun x o' e n => (AHeap.put_ne H o (fun z => by rw [z, h] at e; (exact noneE e))).trans e
structure CMAt (c : Adr) (B : AHeap) (P : PlanM) (st : CS) (b : Nat) (H : AHeap) : Prop where
 self : H c.self = some (.inst 417 c.d)
 d : H c.d = some (.attrs [("kernel", .ref c.kern), ("plan", .ref c.plan), ("code", .ref c.lc), ("seen", .ref c.ls), ("local", .ref c.ll), ("next_temporary", .int st.next)])
 lc : H c.lc = some (.list (st.code.map Row.av))
 ls : H c.ls = some (.iset (toS st.seen))
 ll : H c.ll = some (.iset (toS st.loc))
 fit : st.code.length + b ≤ 15000000
 base : ∀ a o, B a = some o → H a = some o ∧ a ∉ c.mods
 plan : PlanAt B c.plan P
 sep : c.ls ≠ c.ll
theorem CMAt.weak {c B P st b b' H} (C : CMAt c B P st b H) (h : b' ≤ b) : CMAt c B P st b' H := { C with fit := by have := C.fit; lia }
theorem ne_of_heap {H : AHeap} {a b : Addr} {o o' : AO} (ha : H a = some o) (hb : H b = some o') (h : o ≠ o') : a ≠ b := fun e => by subst e; rw [ha] at hb; exact h (Option.some.inj hb)
theorem CMAt.fram {c B P st b H H'} (C : CMAt c B P st b H) {ms : List Addr} (F : Fram ms H H') (h : ∀ a ∈ ms, a ∉ c.self :: c.mods ∧ B a = none) : CMAt c B P st b H' := by
 have q : ∀ x ∈ c.self :: c.mods, x ∉ ms := fun x hx hm => (h x hm).1 hx
 exact ⟨F _ _ C.self (q _ (.head _)), F _ _ C.d (q _ (.tail _ (.head _))), F _ _ C.lc (q _ (.tail _ (.tail _ (.head _)))), F _ _ C.ls (q _ (.tail _ (.tail _ (.tail _ (.head _))))), F _ _ C.ll (q _ (.tail _ (.tail _ (.tail _ (.tail _ (.head _)))))), C.fit,
   fun a o e => ⟨F _ _ (C.base a o e).1 (fun hm => by rw [(h a hm).2] at e; (exact noneE e)), (C.base a o e).2⟩, C.plan, C.sep⟩
theorem CMAt.new {c B P st b H} (C : CMAt c B P st b H) {l : Addr} {o : AO} (h : H l = none) : CMAt c B P st b (H.put l o) := C.fram (ms := []) (Fram.new h) (fun _ h => nomatch h)
section
variable {c : Adr} {B : AHeap} {P : PlanM} {st : CS} {b : Nat} {H : AHeap}
theorem CMAt.ne1 (C : CMAt c B P st b H) : c.lc ≠ c.d ∧ c.ls ≠ c.d ∧ c.ll ≠ c.d ∧ c.self ≠ c.d ∧ c.lc ≠ c.ls ∧ c.lc ≠ c.ll ∧ c.self ≠ c.lc ∧ c.self ≠ c.ls ∧ c.self ≠ c.ll :=
 ⟨ne_of_heap C.lc C.d (by simp), ne_of_heap C.ls C.d (by simp), ne_of_heap C.ll C.d (by simp), ne_of_heap C.self C.d (by simp), ne_of_heap C.lc C.ls (by simp), ne_of_heap C.lc C.ll (by simp), ne_of_heap C.self C.lc (by simp), ne_of_heap C.self C.ls (by simp), ne_of_heap C.self C.ll (by simp)⟩
theorem CMAt.emit (C : CMAt c B P st (b + 1) H) (w : String) (ps : List Part) : CMAt c B P (st.emit w ps) b (H.put c.lc (.list (st.code.map Row.av ++ [Row.av (w, ps)]))) := by
 (refine exAAAAAAAA (C.ne1) fun n1 n2 n3 n4 n5 n6 n7 n8 n9 => ?_)
 exact ⟨(AHeap.put_ne _ _ n7).trans C.self, (AHeap.put_ne _ _ n1.symm).trans C.d, by simp [CS.emit], (AHeap.put_ne _ _ n5.symm).trans C.ls, (AHeap.put_ne _ _ n6.symm).trans C.ll, by have := C.fit; simp [CS.emit]; lia,
   fun a o e => ⟨(AHeap.put_ne _ _ fun z => (C.base a o e).2 (by rw [z]; (exact .tail _ (.head _)))).trans (C.base a o e).1, (C.base a o e).2⟩, C.plan, C.sep⟩
theorem CMAt.see (C : CMAt c B P st b H) (k : V8) : CMAt c B P (st.see k) b (H.put c.ls (.iset (insS (toS st.seen) (vi k)))) := by
 (refine exAAAAAAAA (C.ne1) fun n1 n2 n3 n4 n5 n6 n7 n8 n9 => ?_)
 exact ⟨(AHeap.put_ne _ _ n8).trans C.self, (AHeap.put_ne _ _ n2.symm).trans C.d, (AHeap.put_ne _ _ n5).trans C.lc, by rw [AHeap.put_self, toS_ins]; rfl, (AHeap.put_ne _ _ C.sep.symm).trans C.ll, C.fit,
   fun a o e => ⟨(AHeap.put_ne _ _ fun z => (C.base a o e).2 (by rw [z]; simp)).trans (C.base a o e).1, (C.base a o e).2⟩, C.plan, C.sep⟩
theorem CMAt.addLoc (C : CMAt c B P st b H) (k : V8) : CMAt c B P (st.addLoc k) b (H.put c.ll (.iset (insS (toS st.loc) (vi k)))) := by
 (refine exAAAAAAAA (C.ne1) fun n1 n2 n3 n4 n5 n6 n7 n8 n9 => ?_)
 exact ⟨(AHeap.put_ne _ _ n9).trans C.self, (AHeap.put_ne _ _ n3.symm).trans C.d, (AHeap.put_ne _ _ n6).trans C.lc, (AHeap.put_ne _ _ C.sep).trans C.ls, by rw [AHeap.put_self, toS_ins]; rfl, C.fit,
   fun a o e => ⟨(AHeap.put_ne _ _ fun z => (C.base a o e).2 (by rw [z]; simp)).trans (C.base a o e).1, (C.base a o e).2⟩, C.plan, C.sep⟩
theorem CMAt.delLoc (C : CMAt c B P st b H) (k : V8) : CMAt c B P (st.delLoc k) b (H.put c.ll (.iset (delS (toS st.loc) (vi k)))) := by
 (refine exAAAAAAAA (C.ne1) fun n1 n2 n3 n4 n5 n6 n7 n8 n9 => ?_)
 exact ⟨(AHeap.put_ne _ _ n9).trans C.self, (AHeap.put_ne _ _ n3.symm).trans C.d, (AHeap.put_ne _ _ n6).trans C.lc, (AHeap.put_ne _ _ C.sep).trans C.ls, by rw [AHeap.put_self, toS_del]; rfl, C.fit,
   fun a o e => ⟨(AHeap.put_ne _ _ fun z => (C.base a o e).2 (by rw [z]; simp)).trans (C.base a o e).1, (C.base a o e).2⟩, C.plan, C.sep⟩
theorem CMAt.tick (C : CMAt c B P st b H) : CMAt c B P st.tick b (H.put c.d (.attrs (putA "next_temporary" (.int (st.next + 1)) [("kernel", .ref c.kern), ("plan", .ref c.plan), ("code", .ref c.lc), ("seen", .ref c.ls), ("local", .ref c.ll), ("next_temporary", .int st.next)]))) := by
 (refine exAAAAAAAA (C.ne1) fun n1 n2 n3 n4 n5 n6 n7 n8 n9 => ?_)
 exact ⟨(AHeap.put_ne _ _ n4).trans C.self, by rw [AHeap.put_self]; rfl, (AHeap.put_ne _ _ n1).trans C.lc, (AHeap.put_ne _ _ n2).trans C.ls, (AHeap.put_ne _ _ n3).trans C.ll, C.fit,
   fun a o e => ⟨(AHeap.put_ne _ _ fun z => (C.base a o e).2 (by rw [z]; (exact List.mem_cons_self))).trans (C.base a o e).1, (C.base a o e).2⟩, C.plan, C.sep⟩
end
theorem kw1 : True := by
 k_with "norm_m" => (first | (((conv => arg 3; whnf); (conv => arg 5; whnf); (conv => arg 6; simp only [List.zip_cons_cons, List.zip_nil_left, List.reverse_cons, List.reverse_nil, List.nil_append, List.cons_append]))) | fail)
 k_with "w1" => (first | (first | with_reducible refine WS.cons ?_ | with_reducible refine WS.nil ?_ | refine W1.expr ?_ | refine W1.ret ?_ | with_reducible refine W1.ret0 ?_ | with_reducible refine W1.cont ?_ | with_reducible refine W1.ite ?_ | refine W1.assign ?_ | refine WE.name rfl ?_ | with_reducible refine WE.str ?_ | with_reducible refine WE.int ?_ | with_reducible refine WE.boolc ?_ | with_reducible refine WE.nonec ?_ | refine WE.tuple ?_ | refine WE.list ?_ | (refine WE.attr ?_) | (focus (refine' AtP.of (x := _) (C := _) (dx := _) (as := _) (b := _) ?_ ?_ ?_ ?_ ?_ ?_; rotate_right 6; (· (first | with_reducible assumption | with_reducible exact CMAt.self (by assumption) | with_reducible exact CMAt.d (by assumption) | with_reducible exact CMAt.lc (by assumption) | with_reducible exact CMAt.ls (by assumption) | with_reducible exact CMAt.ll (by assumption) | with_reducible exact AHeap.put_self _ _ _)); (· (first | with_reducible assumption | with_reducible exact CMAt.self (by assumption) | with_reducible exact CMAt.d (by assumption) | with_reducible exact CMAt.lc (by assumption) | with_reducible exact CMAt.ls (by assumption) | with_reducible exact CMAt.ll (by assumption) | with_reducible exact AHeap.put_self _ _ _)); (· (first | with_reducible assumption | exact rfl)); (· exact rfl); (· kernel_rfl))) | refine WE.item ?_ | (refine WI.tup (by decide) rfl (Nat.le_of_ble_eq_true rfl) ?_) | refine WT.cmp ?_ | with_reducible refine WT.not ?_ | with_reducible refine WT.and ?_ | with_reducible refine WT.or ?_ | with_reducible refine WCmp.eqI ?_ | with_reducible refine WCmp.gtI ?_ | with_reducible refine WCmp.geI ?_ | with_reducible refine WCmp.ltI ?_ | with_reducible refine WCmp.neI ?_ | refine WCmp.eqS_is (x := true) (by kernel_rfl!) ?_ | refine WCmp.eqS_is (x := false) (by kernel_rfl!) ?_ | with_reducible refine WCmp.eqS ?_ | with_reducible refine WTr.bool ?_ | with_reducible refine WTr.int ?_) | fail)
 trivial
theorem emit_ok {D : Nat} {c B P st b H} (C : CMAt c B P st (b + 1) H) (w : String) (ps : List Part) {Q : AQ} (h : ∀ H', CMAt c B P (st.emit w ps) b H' → Fram c.mods H H' → Q .none H') : WC e.G (D + 1) (.ref 175) [.ref c.self, .tup (sS w :: ps.map Part.av)] H Q := by
 refine WC.enterF (ns := ["self", "instruction"]) (by kernel_rfl) (by kernel_rfl) rfl (bind2 (by intro x y; kernel_rfl)) ?_
 k_extra "norm_m"
 k_extra "w1"; k_extra "w1"
 refine WE.callBm ?_
 · k_extra "w1"; k_extra "w1"; k_extra "w1"
   refine MbP.of C.lc rfl ?_
   k_extra "w1"
   refine WB.append C.lc (by have := C.fit; simp; lia) ?_
   k_extra "w1"
   exact h _ (C.emit w ps) (Fram.put (by (exact .tail _ (.head _))))
section
variable {D : Nat} {c : Adr} {B : AHeap} {P : PlanM} {st : CS} {b : Nat} {H : AHeap} {cs : Scope} {cl : List (Str × Addr)} {m : Loc}
theorem CMAt.inSeen (C : CMAt c B P st b H) {k : V8} {Q : Bool → AHeap → Prop} (h1 : st.seen k = true → Q true H) (h2 : st.seen k = false → Q false H) : WCmp e.G D .In (.int (vi k)) (.ref c.ls) H Q := WCmp.inSet C.ls (by
 rw [toS_vi]
 cases hs : st.seen k with
 | true => exact h1 hs
 | false => exact h2 hs)
theorem CMAt.notInSeen (C : CMAt c B P st b H) {k : V8} {Q : Bool → AHeap → Prop} (h1 : st.seen k = true → Q false H) (h2 : st.seen k = false → Q true H) : WCmp e.G D .NotIn (.int (vi k)) (.ref c.ls) H Q := WCmp.notInSet C.ls (by
 rw [toS_vi]
 cases hs : st.seen k with
 | true => exact h1 hs
 | false => exact h2 hs)
theorem CMAt.inLoc (C : CMAt c B P st b H) {k : V8} {Q : Bool → AHeap → Prop} (h1 : st.loc k = true → Q true H) (h2 : st.loc k = false → Q false H) : WCmp e.G D .In (.int (vi k)) (.ref c.ll) H Q := WCmp.inSet C.ll (by
 rw [toS_vi]
 cases hs : st.loc k with
 | true => exact h1 hs
 | false => exact h2 hs)
theorem WE.selfM {name : Str} {p1 p2 pos : Pos} {args : List Expr} {f : Addr} {Q : AQ} (C : CMAt c B P st b H) (hm : m.lookup ("self" : Str) = some (.ref c.self)) (hn : ([("kernel", .ref c.kern), ("plan", .ref c.plan), ("code", .ref c.lc), ("seen", .ref c.ls), ("local", .ref c.ll), ("next_temporary", .int st.next)] : List (Str × AV)).lookup name = none)
   (hf : methIn e.G.K 417 name f = true) (h : WEs e.G D cs cl args m H (qCs (.ref c.self) (qCK e.G D (.ref f) Q))) (hp : (args.all plainE) = true := by rfl) (hx : cs.names.lookup ("self" : Str) = some .local := by rfl) {pl : Env → Sem Bool}
   (he : ∀ env : Env, eval (.Call (.Attribute (.Name ("self" : Str) p1) name p2) args [] pos) env = (do
     let ov ← eval (.Name ("self" : Str) p1) env
     standAt p2.atName
     let (f, first) ← holding [ov] (getMethod ov name (pl env))
     callWith pos f first (backTo pos (starEach args env)) []) := by intro _; rfl) : WE e.G D cs cl (.Call (.Attribute (.Name ("self" : Str) p1) name p2) args [] pos) m H Q :=
 WE.callM (he := he) (WE.name hm ⟨_, _, _, _, f, rfl, C.self, C.d, hn, hf, h⟩ hx) hp
theorem W1.seeAdd (C : CMAt c B P st b H) {p1 p2 p3 p4 p5 p6 : Pos} {x : Str} {k : V8} {Q : Fl → Loc → AHeap → Prop} (hm : m.lookup ("self" : Str) = some (.ref c.self)) (hx : m.lookup x = some (.int (vi k))) (h : ∀ H', CMAt c B P (st.see k) b H' → Fram c.mods H H' → Q .next m H')
   (hs : cs.names.lookup ("self" : Str) = some .local := by rfl) (hsx : cs.names.lookup x = some .local := by rfl) (hd : (x == ("__debug__" : Str)) = false := by decide) {pl : Env → Sem Bool}
   (he : ∀ env : Env, eval (.Call (.Attribute (.Attribute (.Name ("self" : Str) p1) ("seen" : Str) p2) ("add" : Str) p3) [.Name x p4] [] p5) env = (do
     let ov ← eval (.Attribute (.Name ("self" : Str) p1) ("seen" : Str) p2) env
     standAt p3.atName
     let (f, first) ← holding [ov] (getMethod ov ("add" : Str) (pl env))
     callWith p5 f first (backTo p5 (starEach [.Name x p4] env)) []) := by intro _; rfl) :
   W1 e.G D cs cl (.Expr (.Call (.Attribute (.Attribute (.Name ("self" : Str) p1) ("seen" : Str) p2) ("add" : Str) p3) [.Name x p4] [] p5) p6) m H Q := by
 refine W1.expr (WE.callBm (he := he) (WE.attr (WE.name hm ⟨_, _, _, _, _, rfl, C.self, C.d, rfl, rfl, by kernel_rfl, _, _, _, rfl, C.ls, rfl, WE.name hx (WB.setAdd C.ls (vi_lo k) ?_) hsx hd⟩ hs)))
 exact h _ (C.see k) (Fram.put (by simp))
theorem W1.locAdd (C : CMAt c B P st b H) {p1 p2 p3 p4 p5 p6 : Pos} {x : Str} {k : V8} {Q : Fl → Loc → AHeap → Prop} (hm : m.lookup ("self" : Str) = some (.ref c.self)) (hx : m.lookup x = some (.int (vi k))) (h : ∀ H', CMAt c B P (st.addLoc k) b H' → Fram c.mods H H' → Q .next m H')
   (hs : cs.names.lookup ("self" : Str) = some .local := by rfl) (hsx : cs.names.lookup x = some .local := by rfl) (hd : (x == ("__debug__" : Str)) = false := by decide) {pl : Env → Sem Bool}
   (he : ∀ env : Env, eval (.Call (.Attribute (.Attribute (.Name ("self" : Str) p1) ("local" : Str) p2) ("add" : Str) p3) [.Name x p4] [] p5) env = (do
     let ov ← eval (.Attribute (.Name ("self" : Str) p1) ("local" : Str) p2) env
     standAt p3.atName
     let (f, first) ← holding [ov] (getMethod ov ("add" : Str) (pl env))
     callWith p5 f first (backTo p5 (starEach [.Name x p4] env)) []) := by intro _; rfl) :
   W1 e.G D cs cl (.Expr (.Call (.Attribute (.Attribute (.Name ("self" : Str) p1) ("local" : Str) p2) ("add" : Str) p3) [.Name x p4] [] p5) p6) m H Q := by
 refine W1.expr (WE.callBm (he := he) (WE.attr (WE.name hm ⟨_, _, _, _, _, rfl, C.self, C.d, rfl, rfl, by kernel_rfl, _, _, _, rfl, C.ll, rfl, WE.name hx (WB.setAdd C.ll (vi_lo k) ?_) hsx hd⟩ hs)))
 exact h _ (C.addLoc k) (Fram.put (by simp))
theorem W1.locDel (C : CMAt c B P st b H) {p1 p2 p3 p4 p5 p6 : Pos} {x : Str} {k : V8} {Q : Fl → Loc → AHeap → Prop} (hm : m.lookup ("self" : Str) = some (.ref c.self)) (hx : m.lookup x = some (.int (vi k))) (h : ∀ H', CMAt c B P (st.delLoc k) b H' → Fram c.mods H H' → Q .next m H')
   (hs : cs.names.lookup ("self" : Str) = some .local := by rfl) (hsx : cs.names.lookup x = some .local := by rfl) (hd : (x == ("__debug__" : Str)) = false := by decide) {pl : Env → Sem Bool}
   (he : ∀ env : Env, eval (.Call (.Attribute (.Attribute (.Name ("self" : Str) p1) ("local" : Str) p2) ("discard" : Str) p3) [.Name x p4] [] p5) env = (do
     let ov ← eval (.Attribute (.Name ("self" : Str) p1) ("local" : Str) p2) env
     standAt p3.atName
     let (f, first) ← holding [ov] (getMethod ov ("discard" : Str) (pl env))
     callWith p5 f first (backTo p5 (starEach [.Name x p4] env)) []) := by intro _; rfl) :
   W1 e.G D cs cl (.Expr (.Call (.Attribute (.Attribute (.Name ("self" : Str) p1) ("local" : Str) p2) ("discard" : Str) p3) [.Name x p4] [] p5) p6) m H Q := by
 refine W1.expr (WE.callBm (he := he) (WE.attr (WE.name hm ⟨_, _, _, _, _, rfl, C.self, C.d, rfl, rfl, by kernel_rfl, _, _, _, rfl, C.ll, rfl, WE.name hx (WB.setDiscard C.ll (vi_lo k) ?_) hsx hd⟩ hs)))
 exact h _ (C.delLoc k) (Fram.put (by simp))
theorem void_ok (C : CMAt c B P st b H) (k : V8) (hk : P.dom k = true) {Q : AQ} (h : Q (.bool (P.void k)) H) : WC e.G (D + 1) (.ref 189) [.ref c.self, .int (vi k)] H Q := by
 (refine exEEEEEAAAA (C.plan.go) fun dp li lch llv infos p1 p2 p3 p4 p5 => ?_)
 (refine exEA (p5 k hk) fun ik q1 zq0 => ?_; obtain ⟨dk, as, i1, i2, i3, i4, i5, i6⟩ := zq0)
 have p1' := (C.base _ _ p1).1
 have p2' := (C.base _ _ p2).1
 have p3' := (C.base _ _ p3).1
 have i1' := (C.base _ _ i1).1
 have i2' := (C.base _ _ i2).1
 refine WC.enterF (ns := ["self", "k"]) (by kernel_rfl) (by kernel_rfl) rfl (bind2 (by intro x y; kernel_rfl)) ?_
 k_extra "norm_m"
 k_extra "w1"; k_extra "w1"
 refine WE.cmp ?_
 (repeat k_extra "w1")
 refine WI.idict p3' rfl q1 ?_
 k_extra "w1"; k_extra "w1"
 refine WCmp.eqS ?_
 have : (kindS (P.kind k) == Str.ofString "void") = P.void k := by
   unfold PlanM.void kindS
   cases P.kind k <;> decide +kernel
 rw [this]
 exact h
theorem perm_ok (C : CMAt c B P st b H) (k : V8) (hk : P.dom k = true) {Q : AQ} (h : Q (.bool (P.perm k)) H) : WC e.G (D + 1) (.ref 196) [.ref c.self, .int (vi k)] H Q := by
 (refine exEEEEEAAAA (C.plan.go) fun dp li lch llv infos p1 p2 p3 p4 p5 => ?_)
 (refine exEA (p5 k hk) fun ik q1 zq0 => ?_; obtain ⟨dk, as, i1, i2, i3, i4, i5, i6⟩ := zq0)
 have p1' := (C.base _ _ p1).1
 have p2' := (C.base _ _ p2).1
 have p3' := (C.base _ _ p3).1
 have i1' := (C.base _ _ i1).1
 have i2' := (C.base _ _ i2).1
 refine WC.enterF (ns := ["self", "k"]) (by kernel_rfl) (by kernel_rfl) rfl (bind2 (by intro x y; kernel_rfl)) ?_
 k_extra "norm_m"
 k_extra "w1"; k_extra "w1"
 refine WE.cmp ?_
 (repeat k_extra "w1")
 refine WI.idict p3' rfl q1 ?_
 k_extra "w1"; k_extra "w1"
 refine WCmp.eqS ?_
 have : (kindS (P.kind k) == Str.ofString "perm") = P.perm k := by
   unfold PlanM.perm kindS
   cases P.kind k <;> decide +kernel
 rw [this]
 exact h
theorem place_ok (C : CMAt c B P st b H) (k : V8) (hk : P.dom k = true) {Q : AQ} (h : Q (P.place k).av H) : WC e.G (D + 1) (.ref 203) [.ref c.self, .int (vi k)] H Q := by
 (refine exEEEEEAAAA (C.plan.go) fun dp li lch llv infos p1 p2 p3 p4 p5 => ?_)
 (refine exEA (p5 k hk) fun ik q1 zq0 => ?_; obtain ⟨dk, as, i1, i2, i3, i4, i5, i6⟩ := zq0)
 have p1' := (C.base _ _ p1).1
 have p2' := (C.base _ _ p2).1
 have p3' := (C.base _ _ p3).1
 have i1' := (C.base _ _ i1).1
 have i2' := (C.base _ _ i2).1
 refine WC.enterF (ns := ["self", "k"]) (by kernel_rfl) (by kernel_rfl) rfl (bind2 (by intro x y; kernel_rfl)) ?_
 k_extra "norm_m"
 (repeat k_extra "w1")
 refine WI.idict p3' rfl q1 ?_
 (repeat k_extra "w1")
 unfold PlanM.place at h
 cases hq : P.kind k with
 | perm =>
   rw [hq] at h
   rw [show (kindS Kind.perm == Str.ofString "perm") = true from by decide +kernel]
   (repeat k_extra "w1")
   exact h
 | void =>
   rw [hq] at h
   rw [show (kindS Kind.void == Str.ofString "perm") = false from by decide +kernel]
   (repeat k_extra "w1")
   exact h
 | temp =>
   rw [hq] at h
   rw [show (kindS Kind.temp == Str.ofString "perm") = false from by decide +kernel]
   (repeat k_extra "w1")
   exact h
theorem newTemp_ok (C : CMAt c B P st b H) {Q : AQ} (h : ∀ H', CMAt c B P st.tick b H' → Fram c.mods H H' → Q (Part.t st.next).av H') : WC e.G (D + 1) (.ref 182) [.ref c.self] H Q := by
 refine WC.enterF (ns := ["self"]) (by kernel_rfl) (by kernel_rfl) rfl (bind1 (by intro x; kernel_rfl)) ?_
 k_extra "norm_m"
 (repeat k_extra "w1")
 refine W1.assignAttr (WE.binop ?_)
 (repeat k_extra "w1")
 refine WOp.add ?_
 refine WE.name rfl ?_
 refine' ⟨_, _, _, _, rfl, C.self, C.d, ?a1, ?a2, ?_⟩
 case a1 => kernel_rfl
 case a2 => exact Nat.le_of_ble_eq_true rfl
 (repeat k_extra "w1")
 exact h _ C.tick (Fram.put (by (exact List.mem_cons_self)))
end
noncomputable def intIn (K : Frag) (x : Str) : Option Int := match nsIn K mainGlobals x with
 | some (some (.int i _)) => some i
 | _ => none
noncomputable def leafL (f : Expr → Option AV) : List Expr → Option (List AV)
 | [] => some []
 | e :: es => match f e with
   | some a => (match leafL f es with | some as => some (a :: as) | none => none)
   | none => none
noncomputable def constAV : Const → Option AV
 | .int i => some (.int i)
 | .str x => some (.str x)
 | .bool b => some (.bool b)
 | .none => some .none
 | _ => none
noncomputable def natOf : Const → Option Nat
 | .int i => (match Nat.ble 0 0, i with | _, .ofNat k => some k | _, _ => none)
 | _ => none
noncomputable def litIx : Expr → Option Nat
 | .Constant c _ _ => natOf c
 | _ => none
noncomputable def tupOf : Option AV → Option (List AV)
 | some (.tup xs) => some xs
 | _ => none
noncomputable def leafE (cs : Scope) (m : Loc) : Nat → Expr → Option AV
 | 0, _ => none
 | n + 1, e => match e with
   | .Name x _ => if cs.names.lookup x = some .local then (if (x == ("__debug__" : Str)) = false then m.lookup x else none) else none
   | .Constant c _ _ => constAV c
   | .Tuple es _ _ => if (es.all plainE && Nat.ble es.length 1000) = true then (leafL (leafE cs m n) es).map AV.tup else none
   | .Subscript e i _ => (litIx i).bind fun k => (tupOf (leafE cs m n e)).bind fun xs => if Nat.ble xs.length 1000 = true then xs[k]? else none
   | _ => none
section
variable {G : Gl} {D : Nat} {cs : Scope} {cl : List (Str × Addr)} {m : Loc}
set_option tactic.hygienic true in
theorem litIx_ok {i : Expr} {k : Nat} (h : litIx i = some k) : ∃ n p, i = .Constant (.int (k : Int)) n p := by
 cases i <;> try (first | exact noneE h | cases h)
 rename_i c n p
 change natOf c = some k at h
 cases c <;> try (first | exact noneE h | cases h)
 rename_i z
 cases z <;> (first | exact noneE h | cases h)
 exact ⟨n, p, rfl⟩
theorem const_ok {c : Const} {a : AV} (h : constAV c = some a) {n : Nat} {p : Pos} {H : AHeap} {Q : AQ} (q : Q a H) : WE G D cs cl (.Constant c n p) m H Q := by
 cases c <;> (first | exact noneE h | cases h)
 · exact WE.nonec q
 · exact WE.boolc q
 · exact WE.int q
 · exact WE.str q
set_option tactic.hygienic true in
theorem leafE_ok : ∀ (n : Nat) (e : Expr) (a : AV), leafE cs m n e = some a → ∀ (H : AHeap) (Q : AV → AHeap → Prop), Q a H → WE G D cs cl e m H Q := by
 intro zz
 induction zz with
 | zero =>
   intro _ _ h _ _ _
   (exact noneE h)
 | succ n ih =>
   intro e a h H Q q
   have IH := ih
   cases e <;> try (first | exact noneE h | cases h)
   case Name x p =>
     change (if _ then (if _ then _ else _) else _) = _ at h
     by_cases h1 : cs.names.lookup x = some .local
     · rw [if_pos h1] at h
       by_cases h2 : (x == ("__debug__" : Str)) = false
       · rw [if_pos h2] at h
         exact WE.name h q h1 h2
       · rw [if_neg h2] at h; (exact noneE h)
     · rw [if_neg h1] at h; (exact noneE h)
   case Constant c k p => exact const_ok h q
   case Tuple es k p =>
     change (if _ then _ else _) = _ at h
     by_cases h1 : (es.all plainE && Nat.ble es.length 1000) = true
     · rw [if_pos h1] at h
       rw [Bool.and_eq_true] at h1
       (refine exEA (Option.map_eq_some_iff.mp h) fun as hl zq0 => ?_; rcases zq0 with rfl)
       refine WE.tuple ?_ h1.1 (Nat.le_of_ble_eq_true h1.2)
       have key : ∀ (es : List Expr) (as : List AV), leafL (leafE cs m n) es = some as → ∀ (H : AHeap) (Q : List AV → AHeap → Prop), Q as H → WEs G D cs cl es m H Q := fun es => by
         induction es with
         | nil => intro as h H Q q; cases h; exact q
         | cons e es ih =>
           intro as h H Q q
           change (match leafE cs m n e with | some a => (match leafL (leafE cs m n) es with | some as => some (a :: as) | none => none) | none => none) = some as at h
           cases ha : leafE cs m n e with
           | none => rw [ha] at h; (exact noneE h)
           | some a =>
             rw [ha] at h
             cases hs : leafL (leafE cs m n) es with
             | none => rw [hs] at h; (exact noneE h)
             | some as' => rw [hs] at h; cases h; exact IH e a ha H _ (ih as' hs H _ q)
       exact key es as hl H _ q
     · rw [if_neg h1] at h; (exact noneE h)
   case Subscript e' i p =>
     change (litIx i).bind _ = _ at h
     (refine exEA (Option.bind_eq_some_iff.mp h) fun k hk h8 => ?_)
     (refine exEA (Option.bind_eq_some_iff.mp h8) fun xs hx h9 => ?_)
     clear h h8
     (refine exEE (litIx_ok hk) fun n' p' zq0 => ?_; rcases zq0 with rfl)
     have hx' : leafE cs m n e' = some (.tup xs) := by
       cases hy : leafE cs m n e' with
       | none => rw [hy] at hx; (exact noneE hx)
       | some y => rw [hy] at hx; cases y <;> (first | exact noneE hx | cases hx); rfl
     by_cases h1 : Nat.ble xs.length 1000 = true
     · rw [if_pos h1] at h9
       refine WE.item ?_ rfl
       exact IH e' _ hx' H _ (WE.int (WI.tup (Int.natCast_nonneg k) h9 (Nat.le_trans (Nat.le_of_ble_eq_true h1) (by decide)) q))
     · rw [if_neg h1] at h9; (exact noneE h9)
theorem WE.leaf {H : AHeap} {e : Expr} {a : AV} {Q : AQ} (h : leafE cs m 9 e = some a) (q : Q a H) : WE G D cs cl e m H Q := leafE_ok 9 e a h H Q q
theorem WT.leaf {H : AHeap} {l r : Expr} {op : CmpOp} {pos : Pos} {a b : AV} {Q : Bool → AHeap → Prop} (h1 : leafE cs m 9 l = some a) (h2 : leafE cs m 9 r = some b) (q : WCmp G D op a b H Q) (hm : behindInMarks op r = false := by with_unfolding_all rfl) : WT G D cs cl (.Compare l [op] [r] pos) m H Q :=
 WT.cmp (leafE_ok 9 l a h1 H _ (leafE_ok 9 r b h2 H _ q)) hm
theorem W1.retLeaf {H : AHeap} {e : Expr} {pos : Pos} {a : AV} {Q : Fl → Loc → AHeap → Prop} (h : leafE cs m 9 e = some a) (q : Q (.ret a) m H) : W1 G D cs cl (.Return (some e) pos) m H Q := W1.ret (leafE_ok 9 e a h H _ q)
end
section
variable {G : Gl} {D : Nat} {cs : Scope} {cl : List (Str × Addr)} {m : Loc} {H : AHeap} {Q : AQ} {R : Bool → AHeap → Prop} {F : Fl → Loc → AHeap → Prop}
set_option tactic.hygienic true in
theorem WE.gint {x : Str} {pos : Pos} {i : Int} (hi : intIn G.K x = some i) (h : Q (.int i) H)
   (hx : cs.names.lookup x = some .globalImplicit := by rfl) (hd : (x == ("__debug__" : Str)) = false := by decide) : WE G D cs cl (.Name x pos) m H Q := by
 unfold intIn at hi
 split at hi
 · rename_i j t hq
   cases hi
   exact WE.gname (a := .int i) hq (fun _ => ⟨_, rfl⟩) h hx hd
 · (exact noneE hi)
end
section
variable {G : Gl} {D : Nat} {H : AHeap} {Q : Bool → AHeap → Prop} {a b : Int}
theorem WCmp.eqI2 (h1 : a = b → Q true H) (h2 : a ≠ b → Q false H) : WCmp G D .Eq (.int a) (.int b) H Q := WCmp.eqI (by
 by_cases h : a = b
 · rw [show (a == b) = true from by simpa using h]; exact h1 h
 · rw [show (a == b) = false from by simpa using h]; exact h2 h)
theorem WCmp.neI2 (h1 : a ≠ b → Q true H) (h2 : a = b → Q false H) : WCmp G D .NotEq (.int a) (.int b) H Q := WCmp.neI (by
 by_cases h : a = b
 · rw [show (a != b) = false from by simpa using h]; exact h2 h
 · rw [show (a != b) = true from by simpa using h]; exact h1 h)
theorem WCmp.gtI2 (h1 : b < a → Q true H) (h2 : ¬ b < a → Q false H) : WCmp G D .Gt (.int a) (.int b) H Q := WCmp.gtI (by
 by_cases h : b < a
 · rw [show decide (b < a) = true from by simpa using h]; exact h1 h
 · rw [show decide (b < a) = false from by simpa using h]; exact h2 h)
theorem WCmp.geI2 (h1 : b ≤ a → Q true H) (h2 : ¬ b ≤ a → Q false H) : WCmp G D .GtE (.int a) (.int b) H Q := WCmp.geI (by
 by_cases h : b ≤ a
 · rw [show decide (b ≤ a) = true from by simpa using h]; exact h1 h
 · rw [show decide (b ≤ a) = false from by simpa using h]; exact h2 h)
theorem WCmp.ltI2 (h1 : a < b → Q true H) (h2 : ¬ a < b → Q false H) : WCmp G D .Lt (.int a) (.int b) H Q := WCmp.ltI (by
 by_cases h : a < b
 · rw [show decide (a < b) = true from by simpa using h]; exact h1 h
 · rw [show decide (a < b) = false from by simpa using h]; exact h2 h)
end
theorem W1.mono {G : Gl} {D : Nat} {cs : Scope} {cl : List (Str × Addr)} {m : Loc} {H : AHeap} {e : Stmt} {Q Q' : Fl → Loc → AHeap → Prop} (h : W1 G D cs cl e m H Q) (k : ∀ f m H, Q f m H → Q' f m H) : W1 G D cs cl e m H Q' :=
 ⟨fun c h1 h2 ok mm news s S lr Q₀ E c' => h.go c h1 h2 ok mm news s S lr Q₀ E fun f fl m' mm' H' news' h' tk a1 a2 a3 a4 a5 => c' f fl m' mm' H' news' h' tk a1 a2 a3 a4 (k _ _ _ a5)⟩
theorem WS.seq {G : Gl} {D : Nat} {cs : Scope} {cl : List (Str × Addr)} {m : Loc} {H : AHeap} {st : Stmt} {rest : List Stmt} {F : Fl → Loc → AHeap → Prop} (R : Loc → AHeap → Prop) (h1 : W1 G D cs cl st m H fun fl m' H' => fl = .next ∧ R m' H') (h2 : ∀ m' H', R m' H' → WS G D cs cl rest m' H' F) : WS G D cs cl (st :: rest) m H F :=
 WS.cons (h1.mono fun fl m' H' q => by (refine exA (q) ?_; clear q; intro zq0 q; rcases zq0 with rfl); exact h2 m' H' q)
theorem WT.weak {G : Gl} {D : Nat} {cs : Scope} {cl : List (Str × Addr)} {m m' : Loc} {H : AHeap} {e : Expr} {Q : Bool → AHeap → Prop} (k : ∀ x a, m'.lookup x = some a → m.lookup x = some a) (h : WT G D cs cl e m' H Q) : WT G D cs cl e m H Q where
 go := fun c h1 h2 ok mm news s S lr Q' E k' => h.go c h1 h2 ok mm news s S (fun x a e => lr x a (k x a e)) Q' E k'
theorem kw3 : True := by
 k_with "hfr" => (first | ((first | with_reducible assumption | with_reducible exact CMAt.self (by assumption) | with_reducible exact CMAt.d (by assumption) | with_reducible exact CMAt.lc (by assumption) | with_reducible exact CMAt.ls (by assumption) | with_reducible exact CMAt.ll (by assumption) | with_reducible exact AHeap.put_self _ _ _)) | fail)
 k_with "wn" => (first | ((focus (refine' WE.gint ?_ ?_; rotate_right 2; (· k_extra "wf")))) | fail)
 k_with "wk" => (first | ((focus (refine' WE.callK ?_ ?_ ?_; rotate_right 3; (· k_extra "wf"); (· k_extra "wf")))) | fail)
 k_with "wq" => (first | (first | (focus (refine WCmp.eqS_is (x := true) ?_ ?_; rotate_right 2; (· kernel_rfl!))) | (focus (refine WCmp.eqS_is (x := false) ?_ ?_; rotate_right 2; (· kernel_rfl!))) | (focus (refine WCmp.eqI_is (x := true) ?_ ?_; rotate_right 2; (· kernel_rfl!))) | (focus (refine WCmp.eqI_is (x := false) ?_ ?_; rotate_right 2; (· kernel_rfl!))) | (with_reducible refine WCmp.eqI2 ?_ ?_) <;> intro _ | (with_reducible refine WCmp.gtI2 ?_ ?_) <;> intro _ | (with_reducible refine WCmp.geI2 ?_ ?_) <;> intro _ | (with_reducible refine WCmp.ltI2 ?_ ?_) <;> intro _ | (with_reducible refine WCmp.neI2 ?_ ?_) <;> intro _ | with_reducible refine WCmp.eqS ?_ | (focus (refine' CMAt.inSeen ?_ ?_ ?_; rotate_right 3; (· k_extra "as"); all_goals intro _)) | (focus (refine' CMAt.notInSeen ?_ ?_ ?_; rotate_right 3; (· k_extra "as"); all_goals intro _)) | (focus (refine' CMAt.inLoc ?_ ?_ ?_; rotate_right 3; (· k_extra "as"); all_goals intro _))) | fail)
 k_with "wi" => (first | ((refine WI.tup (by decide) rfl (Nat.le_of_ble_eq_true rfl) ?_)) | fail)
 k_with "wx" => (first | (fail) | fail)
 k_with "we" => (first | (first | ((guard_target =~ WE _ _ _ _ (.Name _ _) _ _ _); first | refine' WE.leaf (a := _) rfl ?_ | k_extra "wn") | ((guard_target =~ WE _ _ _ _ (.Tuple _ _ _) _ _ _); refine' WE.leaf (a := _) rfl ?_) | ((guard_target =~ WE _ _ _ _ (.Subscript _ (.Constant _ _ _) _) _ _ _); refine' WE.leaf (a := _) rfl ?_) | ((guard_target =~ WE _ _ _ _ (.Constant _ _ _) _ _ _); first | with_reducible refine WE.str ?_ | with_reducible refine WE.int ?_ | with_reducible refine WE.boolc ?_ | with_reducible refine WE.nonec ?_) | (focus ((guard_target =~ WE _ _ _ _ (.Call (.Attribute (.Name ("self" : Str) _) _ _) _ [] _) _ _ _); refine' WE.selfM ?_ rfl rfl ?_ ?_; rotate_right 3; (· k_extra "as"); (· k_extra "wf"))) | ((guard_target =~ WE _ _ _ _ (.Call (.Attribute _ _ _) _ [] _) _ _ _); refine WE.callBm ?_) | ((guard_target =~ WE _ _ _ _ (.Call (.Name _ _) _ [] _) _ _ _); k_extra "wk") | refine WE.tuple ?_ | refine WE.attr ?_ | refine WE.item ?_ | refine WE.list ?_ | with_reducible refine WE.binop ?_ | refine WE.cmp ?_ | with_reducible refine WE.ifexp ?_ | with_reducible refine WE.neg ?_) | fail)
 k_with "wz" => (first | (first | ((guard_target =~ W1 _ _ _ _ (.Expr (.Call (.Attribute (.Attribute _ _ _) _ _) _ [] _) _) _ _ _); first | (focus (refine' W1.seeAdd ?_ rfl rfl ?_; rotate_right 2; (· k_extra "as"); intro _ _ _)) | (focus (refine' W1.locAdd ?_ rfl rfl ?_; rotate_right 2; (· k_extra "as"); intro _ _ _)) | (focus (refine' W1.locDel ?_ rfl rfl ?_; rotate_right 2; (· k_extra "as"); intro _ _ _))) | ((guard_target =~ W1 _ _ _ _ (.Expr _ _) _ _ _); refine W1.expr ?_) | (focus (refine' W1.retLeaf (a := _) ?_ ?_; rotate_right 2; (· exact rfl))) | refine W1.ret ?_ | with_reducible refine W1.ret0 ?_ | with_reducible refine W1.cont ?_ | with_reducible refine W1.pass ?_ | with_reducible refine W1.ite ?_ | refine W1.assign ?_ | refine W1.aug rfl ?_) | fail)
 k_with "w2" => (first | (first | (focus (with_reducible refine' WEs.leaf (as := _) ?_ ?_; rotate_right 2; (· exact rfl))) | ((guard_target =~ WE _ _ _ _ _ _ _ _); k_extra "we") | refine WS.cons ?_ | refine WS.nil ?_ | ((guard_target =~ W1 _ _ _ _ _ _ _ _); k_extra "wz") | ((guard_target =~ WC _ _ _ _ _ _); k_extra "wc") | ((guard_target =~ WT _ _ _ _ _ _ _ _); first | (focus (refine' WT.leaf (a := _) (b := _) ?_ ?_ ?_; rotate_right 3; (· exact rfl); (· exact rfl))) | refine WT.cmp ?_ | with_reducible refine WT.not ?_ | with_reducible refine WT.and ?_ | with_reducible refine WT.or ?_ | refine WT.val ?_) | ((guard_target =~ WCmp _ _ _ _ _ _ _); k_extra "wq") | ((guard_target =~ WI _ _ _ _ _ _); k_extra "wi") | ((guard_target =~ WTr _ _ _ _ _); first | with_reducible refine WTr.bool ?_ | with_reducible refine WTr.int ?_) | ((guard_target =~ WB _ _ _ _ _ _); k_extra "wb") | ((guard_target =~ WOp _ _ _ _ _ _ _ _); first | with_reducible refine WOp.iadd ?_ | with_reducible refine WOp.isub ?_ | with_reducible refine WOp.add ?_ | with_reducible refine WOp.sub ?_) | (focus (refine' MbP.of (l := _) (ob := _) (id := _) ?_ ?_ ?_; rotate_right 3; (· k_extra "hfr"); (· exact rfl))) | (focus (refine' AtP.of (x := _) (C := _) (dx := _) (as := _) (b := _) ?_ ?_ ?_ ?_ ?_ ?_; rotate_right 6; (· k_extra "hfr"); (· k_extra "hfr"); (· (first | with_reducible assumption | exact rfl)); (· exact rfl); (· k_extra "wf"))) | k_extra "wx") | fail)
 k_with "wg" => (first | (repeat' k_extra "w2") | fail)
 trivial
section
variable {D : Nat} {c : Adr} {B : AHeap} {P : PlanM} {st : CS} {b : Nat} {H : AHeap} {cs : Scope} {cl : List (Str × Addr)} {m : Loc}
section
variable {w : String} {Q : AQ}
theorem emit0 (C : CMAt c B P st (b + 1) H) (h : ∀ H', CMAt c B P (st.emit w []) b H' → Fram c.mods H H' → Q .none H') : WC e.G (D + 1) (.ref 175) [.ref c.self, .tup [sS w]] H Q := emit_ok C w [] h
theorem emit1 {p : Part} (C : CMAt c B P st (b + 1) H) (h : ∀ H', CMAt c B P (st.emit w [p]) b H' → Fram c.mods H H' → Q .none H') : WC e.G (D + 1) (.ref 175) [.ref c.self, .tup [sS w, p.av]] H Q := emit_ok C w [p] h
theorem emit1n {p : Int} (C : CMAt c B P st (b + 1) H) (h : ∀ H', CMAt c B P (st.emit w [.num p]) b H' → Fram c.mods H H' → Q .none H') : WC e.G (D + 1) (.ref 175) [.ref c.self, .tup [sS w, .int p]] H Q := emit_ok C w [.num p] h
theorem emit2 {p q : Part} (C : CMAt c B P st (b + 1) H) (h : ∀ H', CMAt c B P (st.emit w [p, q]) b H' → Fram c.mods H H' → Q .none H') : WC e.G (D + 1) (.ref 175) [.ref c.self, .tup [sS w, p.av, q.av]] H Q := emit_ok C w [p, q] h
theorem emit2n {p : Int} {q : Part} (C : CMAt c B P st (b + 1) H) (h : ∀ H', CMAt c B P (st.emit w [.num p, q]) b H' → Fram c.mods H H' → Q .none H') : WC e.G (D + 1) (.ref 175) [.ref c.self, .tup [sS w, .int p, q.av]] H Q := emit_ok C w [.num p, q] h
theorem emit2nn {p q : Int} (C : CMAt c B P st (b + 1) H) (h : ∀ H', CMAt c B P (st.emit w [.num p, .num q]) b H' → Fram c.mods H H' → Q .none H') : WC e.G (D + 1) (.ref 175) [.ref c.self, .tup [sS w, .int p, .int q]] H Q := emit_ok C w [.num p, .num q] h
end
theorem void2_ok (C : CMAt c B P st b H) (k : V8) (hk : P.dom k = true) {Q : AQ} (h1 : P.void k = true → Q (.bool true) H) (h2 : P.void k = false → Q (.bool false) H) : WC e.G (D + 1) (.ref 189) [.ref c.self, .int (vi k)] H Q := void_ok C k hk (by
 cases h : P.void k with
 | true => exact h1 h
 | false => exact h2 h)
theorem perm2_ok (C : CMAt c B P st b H) (k : V8) (hk : P.dom k = true) {Q : AQ} (h1 : P.perm k = true → Q (.bool true) H) (h2 : P.perm k = false → Q (.bool false) H) : WC e.G (D + 1) (.ref 196) [.ref c.self, .int (vi k)] H Q := perm_ok C k hk (by
 cases h : P.perm k with
 | true => exact h1 h
 | false => exact h2 h)
theorem Fram.sub {ms ms' : List Addr} {H H' : AHeap} (F : Fram ms H H') (h : ∀ a ∈ ms, a ∈ ms') : Fram ms' H H' := fun a o e n => F a o e fun z => n (h a z)
end
theorem kw13 : True := by
 k_with "fr" => (first | (first | with_reducible exact Fram.refl | (refine Fram.sub (by with_reducible assumption) ?_; (first | (intro _ h; exact h) | (intro _ h; exact .tail _ h) | (intro _ h; exact .tail _ (.tail _ h)) | (intro _ h; exact List.mem_cons.mpr (.inl (List.mem_singleton.mp h))) | (intro _ h; exact .tail _ (List.mem_cons.mpr (.inl (List.mem_singleton.mp h)))) | (intro a h; simp only [Adr.mods, List.mem_cons, List.not_mem_nil, or_false] at h ⊢; first | (focus (simp only [h, eq_self, true_or, or_true]; done)) | (rcases h with h | h <;> simp only [h, eq_self, true_or, or_true])))) | (refine Fram.trans (Fram.sub (by with_reducible assumption) ?_) ?_; (first | (intro _ h; exact h) | (intro _ h; exact .tail _ h) | (intro _ h; exact .tail _ (.tail _ h)) | (intro _ h; exact List.mem_cons.mpr (.inl (List.mem_singleton.mp h))) | (intro _ h; exact .tail _ (List.mem_cons.mpr (.inl (List.mem_singleton.mp h)))) | (intro a h; simp only [Adr.mods, List.mem_cons, List.not_mem_nil, or_false] at h ⊢; first | (focus (simp only [h, eq_self, true_or, or_true]; done)) | (rcases h with h | h <;> simp only [h, eq_self, true_or, or_true]))); k_extra "fr")) | fail)
 trivial
section
variable {D : Nat} {c : Adr} {B : AHeap} {P : PlanM} {st : CS} {b : Nat} {H : AHeap} {cs : Scope} {cl : List (Str × Addr)} {m : Loc}
theorem fCON : intIn e.G.K ("CON" : Str) = some 4 := by kernel_rfl
theorem fINT : intIn e.G.K ("INT" : Str) = some 5 := by kernel_rfl
theorem fFDOT : intIn e.G.K ("F_DOT" : Str) = some 0 := by kernel_rfl
theorem m203 : methIn e.G.K 417 ("place" : Str) 203 = true := by kernel_rfl
theorem m175 : methIn e.G.K 417 ("emit" : Str) 175 = true := by kernel_rfl
theorem m189 : methIn e.G.K 417 ("is_void" : Str) 189 = true := by kernel_rfl
theorem m196 : methIn e.G.K 417 ("is_permanent" : Str) 196 = true := by kernel_rfl
theorem m182 : methIn e.G.K 417 ("new_temporary" : Str) 182 = true := by kernel_rfl
theorem a1 : attrIn e.G.K 417 ("kernel" : Str) = true := by kernel_rfl
theorem a2 : attrIn e.G.K 417 ("plan" : Str) = true := by kernel_rfl
theorem a3 : attrIn e.G.K 417 ("code" : Str) = true := by kernel_rfl
theorem a4 : attrIn e.G.K 417 ("seen" : Str) = true := by kernel_rfl
theorem a5 : attrIn e.G.K 417 ("local" : Str) = true := by kernel_rfl
end
theorem kw14 : True := by
 k_with "wf" => (first | (with_reducible first | exact m175 | exact m203 | exact m189 | exact m196 | exact m182 | exact fCON | exact fINT | exact fFDOT | exact a3 | exact a4 | exact a5 | exact a6 | exact a2 | exact a1) | fail)
 trivial
section
variable {D : Nat} {c : Adr} {B : AHeap} {P : PlanM} {st : CS} {b : Nat} {H : AHeap} {cs : Scope} {cl : List (Str × Addr)} {m : Loc}
end
theorem kw15 : True := by
 k_with "wc" => (first | (first | (focus (refine' place_ok ?_ _ ?_ ?_; rotate_right 3; (· k_extra "as"); (· k_extra "as"))) | (focus (refine' void2_ok ?_ _ ?_ ?_ ?_; rotate_right 4; (· k_extra "as"); (· k_extra "as"); all_goals intro _)) | (focus (refine' perm2_ok ?_ _ ?_ ?_ ?_; rotate_right 4; (· k_extra "as"); (· k_extra "as"); all_goals intro _)) | (focus (refine' newTemp_ok ?_ ?_; rotate_right 2; (· k_extra "as"); intro _ _ _)) | (focus (refine' emit1 ?_ ?_; rotate_right 2; (· k_extra "as"); intro _ _ _)) | (focus (refine' emit2 ?_ ?_; rotate_right 2; (· k_extra "as"); intro _ _ _)) | (focus (refine' emit1n ?_ ?_; rotate_right 2; (· k_extra "as"); intro _ _ _)) | (focus (refine' emit2n ?_ ?_; rotate_right 2; (· k_extra "as"); intro _ _ _)) | (focus (refine' emit2nn ?_ ?_; rotate_right 2; (· k_extra "as"); intro _ _ _)) | (focus (refine' emit0 ?_ ?_; rotate_right 2; (· k_extra "as"); intro _ _ _))) | fail)
 trivial
section
variable {D : Nat} {c : Adr} {B : AHeap} {P : PlanM} {st : CS} {b : Nat} {H : AHeap} {cs : Scope} {cl : List (Str × Addr)} {m : Loc}
theorem cellA_ok {n : Int} {Q : AQ} (h : Q (Part.c 4 n).av H) : WC e.G (D + 1) (.ref 154) [(Tm.a n).av] H Q := by
 refine WC.enterF (ns := ["term"]) (by kernel_rfl) (by kernel_rfl) rfl (bind1 (by intro x; kernel_rfl)) ?_
 k_extra "norm_m"
 k_extra "wg"
 exact h
theorem cellI_ok {n : Int} {Q : AQ} (h : Q (Part.c 5 n).av H) : WC e.G (D + 1) (.ref 154) [(Tm.i n).av] H Q := by
 refine WC.enterF (ns := ["term"]) (by kernel_rfl) (by kernel_rfl) rfl (bind1 (by intro x; kernel_rfl)) ?_
 k_extra "norm_m"
 k_extra "wg"
 exact h
theorem mVar_ok (C : CMAt c B P st (b + 1) H) (k : V8) (hk : P.dom k = true) {Q : AQ} (h : ∀ H', CMAt c B P (mVar P k st) b H' → Fram c.mods H H' → Q .none H') : WC e.G (D + 3) (.ref 245) [.ref c.self, .int (vi k)] H Q := by
 refine WC.enterF (ns := ["self", "k"]) (by kernel_rfl) (by kernel_rfl) rfl (bind2 (by intro x y; kernel_rfl)) ?_
 k_extra "norm_m"
 k_extra "wg"
 all_goals exact h _ (by simp only [mVar, *, ↓reduceIte, Bool.false_eq_true]) (by k_extra "fr")
end
section
variable {G : Gl} {D : Nat} {cs : Scope} {cl : List (Str × Addr)} {m : Loc} {H : AHeap}
theorem ForN.rule {α : Type} {f : α → AV} {x : Str} {body : List Stmt} {kp : Option (Addr × AO)} {Q : Fl → Loc → AHeap → Prop} (I : List α → Loc → AHeap → Prop)
   (step : ∀ a rest m H, I (a :: rest) m H → keepP kp H → WS G D cs cl body ((x, f a) :: m) H (loopQ (fun m' H' => keepP kp H' ∧ I rest m' H') Q)) (fin : ∀ m H, I [] m H → keepP kp H → Q .next m H) :
   ∀ (xs : List α) {m : Loc} {H : AHeap}, keepP kp H → I xs m H → ForN G D cs cl x body kp Q (xs.map f) m H := by
 intro zz
 induction zz with
 | nil =>
   intro m H kh h
   exact fin m H h kh
 | cons a xs ih =>
   intro m H kh h
   exact (step a xs m H h kh).mono fun fl m' H' q => by
     cases fl with
     | next => exact ⟨q.1, ih q.1 q.2⟩
     | cont => exact ⟨q.1, ih q.1 q.2⟩
     | brk => exact q
     | ret a => exact q
theorem WhileN.rule {t : Expr} {body : List Stmt} {Q : Fl → Loc → AHeap → Prop} (I : Nat → Loc → AHeap → Prop)
   (step : ∀ n m H, I n m H → WT G D cs cl t m H fun b H1 => match b with | true => ∃ n', n = n' + 1 ∧ WS G D cs cl body m H1 (loopQ (I n') Q) | false => Q .next m H1) :
   ∀ (n : Nat) {m : Loc} {H : AHeap}, I n m H → WhileN G D cs cl t body Q (n + 1) m H := by
 intro zz
 induction zz with
 | zero =>
   intro m H h
   exact ⟨fun c h1 h2 ok mm news s S lr Q' E k => (step 0 m H h).go c h1 h2 ok mm news s S lr Q' E fun b H' n' h' tk S1 K1 w => k b H' n' h' tk S1 K1 (by
       cases b with
       | true => (refine exEA (w) fun n' e _ => ?_; clear w); lia
       | false => exact w)⟩
 | succ n ih =>
   intro m H h
   exact ⟨fun c h1 h2 ok mm news s S lr Q' E k => (step (n + 1) m H h).go c h1 h2 ok mm news s S lr Q' E fun b H' n' h' tk S1 K1 w => k b H' n' h' tk S1 K1 (by
       cases b with
       | true =>
         (refine exEA (w) ?_; clear w; intro n' e w)
         have : n' = n := by (exact (Nat.succ.inj (by assumption)).symm)
         subst this
         exact w.mono fun fl m' H' q => by
           cases fl with
           | next => exact ih q
           | cont => exact ih q
           | brk => exact q
           | ret a => exact q
       | false => exact w)⟩
noncomputable def Sub (m' m : Loc) : Prop := ∀ x a, m'.lookup x = some a → m.lookup x = some a
theorem Sub.nil {m : Loc} : Sub [] m := fun _ _ h => nomatch h
theorem Sub.cons {m m' : Loc} {k : Str} {v : AV} (h : m.lookup k = some v) (r : Sub m' m) : Sub ((k, v) :: m') m := fun x a e => by
 rw [List.lookup_cons] at e
 by_cases q : x = k
 · subst q; simp only [beq_self_eq_true] at e; cases e; exact h
 · have q1 : (x == k) = false := by simpa using q
   simp only [q1] at e
   exact r x a e
end
theorem Fram.out {ms : List Addr} {H H' : AHeap} {a : Addr} {o : AO} (F : Fram ms H H') (h : H a = some o) (n : a ∉ ms) : H' a = some o := F a o h n
theorem Fram.drop {ms : List Addr} {H H' : AHeap} {a : Addr} (h : H a = none) (F : Fram (a :: ms) H H') : Fram ms H H' := fun x o e n => F x o e (by
 rw [List.mem_cons, not_or]
 exact ⟨fun z => (by rw [z, h] at e; (exact noneE e)), n⟩)
structure Off (c : Adr) (B : AHeap) (l : Addr) : Prop where
 self : l ≠ c.self
 mods : l ∉ c.mods
 base : B l = none
theorem CMAt.off {c B P st b H} (C : CMAt c B P st b H) {l : Addr} (h : H l = none) : Off c B l := by
 have ne : ∀ {a o}, H a = some o → l ≠ a := fun e z => by rw [z, e] at h; (exact someE h)
 refine ⟨ne C.self, ?_, ?_⟩
 · simp only [List.mem_cons, List.not_mem_nil, or_false, not_or]
   exact ⟨ne C.d, ne C.lc, ne C.ls, ne C.ll⟩
 · cases e : B l with
   | none => rfl
   | some o => rw [(C.base l o e).1] at h; (exact someE h)
theorem CMAt.putO {c B P st b H} (C : CMAt c B P st b H) {l : Addr} {o : AO} (h : Off c B l) : CMAt c B P st b (H.put l o) :=
 C.fram (ms := [l]) (Fram.put (by (exact List.mem_cons_self))) fun a ha => by
   have : a = l := by simpa using ha
   subst this
   exact ⟨by simp only [List.mem_cons, not_or]; exact ⟨h.self, by simpa using h.mods⟩, h.base⟩
noncomputable def Tm.tag : Tm → Str
 | .v _ => "v"
 | .a _ => "a"
 | .i _ => "i"
 | .s1 _ => "s"
 | .s2 _ _ _ => "s"
section
variable {G : Gl} {D : Nat} {H : AHeap}
theorem WI.tm0 {t : Tm} {Q : AQ} (h : Q (.str t.tag) H) : WI G D t.av (.int 0) H Q := by
 cases t with
 | s2 f a b => cases f <;> exact WI.tup (by decide) rfl (Nat.le_of_ble_eq_true rfl) h
 | _ => exact WI.tup (by decide) rfl (Nat.le_of_ble_eq_true rfl) h
theorem WCmp.tagS {t : Tm} {Q : Bool → AHeap → Prop} (h1 : t.isS = true → Q true H) (h2 : t.isS = false → Q false H) : WCmp G D .Eq (.str t.tag) (.str ("s" : Str)) H Q := by
 cases t with
 | s1 a => exact WCmp.eqS_is (x := true) (by kernel_rfl) (h1 rfl)
 | s2 f a b => exact WCmp.eqS_is (x := true) (by kernel_rfl) (h1 rfl)
 | v k => exact WCmp.eqS_is (x := false) (by kernel_rfl) (h2 rfl)
 | a k => exact WCmp.eqS_is (x := false) (by kernel_rfl) (h2 rfl)
 | i k => exact WCmp.eqS_is (x := false) (by kernel_rfl) (h2 rfl)
theorem WCmp.tagV {t : Tm} {Q : Bool → AHeap → Prop} (h1 : t.isV = true → Q true H) (h2 : t.isV = false → Q false H) : WCmp G D .Eq (.str t.tag) (.str ("v" : Str)) H Q := by
 cases t with
 | s1 a => exact WCmp.eqS_is (x := false) (by kernel_rfl) (h2 rfl)
 | s2 f a b => exact WCmp.eqS_is (x := false) (by kernel_rfl) (h2 rfl)
 | v k => exact WCmp.eqS_is (x := true) (by kernel_rfl) (h1 rfl)
 | a k => exact WCmp.eqS_is (x := false) (by kernel_rfl) (h2 rfl)
 | i k => exact WCmp.eqS_is (x := false) (by kernel_rfl) (h2 rfl)
end
section
variable {D : Nat} {c : Adr} {B : AHeap} {P : PlanM} {st : CS} {b : Nat} {H : AHeap} {cs : Scope} {cl : List (Str × Addr)} {m : Loc}
noncomputable def pairAV (x : Tm × Part) : AV := .tup [x.1.av, x.2.av]
noncomputable def inDom (P : PlanM) (t : Tm) : Prop := ∀ k ∈ t.occs, P.dom k = true
end
theorem kw16 : True := by
 k_with "hfr" => (first | (first | (first | with_reducible assumption | with_reducible exact CMAt.self (by assumption) | with_reducible exact CMAt.d (by assumption) | with_reducible exact CMAt.lc (by assumption) | with_reducible exact CMAt.ls (by assumption) | with_reducible exact CMAt.ll (by assumption) | with_reducible exact AHeap.put_self _ _ _) | (refine Fram.out (by with_reducible assumption) ?_ ?_ <;> first | with_reducible assumption | (first | with_reducible assumption | with_reducible exact CMAt.self (by assumption) | with_reducible exact CMAt.d (by assumption) | with_reducible exact CMAt.lc (by assumption) | with_reducible exact CMAt.ls (by assumption) | with_reducible exact CMAt.ll (by assumption) | with_reducible exact AHeap.put_self _ _ _) | (refine Fram.out (by with_reducible assumption) ?_ ?_ <;> first | with_reducible assumption | (first | with_reducible assumption | with_reducible exact CMAt.self (by assumption) | with_reducible exact CMAt.d (by assumption) | with_reducible exact CMAt.lc (by assumption) | with_reducible exact CMAt.ls (by assumption) | with_reducible exact CMAt.ll (by assumption) | with_reducible exact AHeap.put_self _ _ _) | (refine Fram.out (by with_reducible assumption) ?_ ?_ <;> first | with_reducible assumption | (first | with_reducible assumption | with_reducible exact CMAt.self (by assumption) | with_reducible exact CMAt.d (by assumption) | with_reducible exact CMAt.lc (by assumption) | with_reducible exact CMAt.ls (by assumption) | with_reducible exact CMAt.ll (by assumption) | with_reducible exact AHeap.put_self _ _ _))))) | fail)
 trivial
section
variable {D : Nat} {c : Adr} {B : AHeap} {P : PlanM} {st : CS} {b : Nat} {H : AHeap} {cs : Scope} {cl : List (Str × Addr)} {m : Loc}
theorem WB.appendC {l : Addr} {xs : List AV} {a : AV} {Q : AQ} (C : CMAt c B P st b H) (ol : Off c B l) (hl : H l = some (.list xs)) (hz : xs.length ≤ 16000000) (h : ∀ H', CMAt c B P st b H' → H' l = some (.list (xs ++ [a])) → Fram [l] H H' → Q .none H') :
   WB e.G D (.builtin "list.append") [.ref l, a] H Q := WB.append hl hz (h _ (C.putO ol) (AHeap.put_self ..) (Fram.put (by (exact List.mem_cons_self))))
theorem WB.popC {l : Addr} {xs : List AV} {a : AV} {Q : AQ} (C : CMAt c B P st b H) (ol : Off c B l) (hl : H l = some (.list (xs ++ [a]))) (hz : xs.length ≤ 16000000) (h : ∀ H', CMAt c B P st b H' → H' l = some (.list xs) → Fram [l] H H' → Q a H') :
   WB e.G D (.builtin "list.pop") [.ref l] H Q := WB.pop hl hz (h _ (C.putO ol) (AHeap.put_self ..) (Fram.put (by (exact List.mem_cons_self))))
theorem m245 : methIn e.G.K 417 ("match_variable" : Str) 245 = true := by kernel_rfl
theorem k154n : nsIn e.G.K mainGlobals ("constant_cell" : Str) = some (some (.ref 154)) := by kernel_rfl
theorem k154 : keepIn e.G.K (.ref 154) = true := by kernel_rfl
theorem blen : nsIn e.G.K mainGlobals ("len" : Str) = some none := by kernel_rfl
theorem blen' : bootBuiltins ("len" : Str) = some (.builtin "len") := by kernel_rfl
end
theorem kw17 : True := by
 k_with "wf" => (first | (with_reducible first | exact m245 | exact k154n | exact k154) | fail)
 trivial
section
variable {D : Nat} {c : Adr} {B : AHeap} {P : PlanM} {st : CS} {b : Nat} {H : AHeap} {cs : Scope} {cl : List (Str × Addr)} {m : Loc}
end
theorem kw18 : True := by
 k_with "wk" => (first | ((refine' WE.callB blen blen' (by decide) ?_)) | fail)
 trivial
section
variable {D : Nat} {c : Adr} {B : AHeap} {P : PlanM} {st : CS} {b : Nat} {H : AHeap} {cs : Scope} {cl : List (Str × Addr)} {m : Loc}
end
theorem kw19 : True := by
 k_with "wb" => (first | (first | (focus (refine' WB.appendC ?_ ?_ ?_ ?_ ?_; rotate_right 5; (· k_extra "as"); (· k_extra "as"); (· k_extra "hfr"); (· (first | exact Nat.le_of_ble_eq_true rfl | (simp only [List.length_map, List.length_append, List.length_reverse, List.length_cons, List.length_nil]; (first | exact Nat.le_trans (by assumption) (Nat.le_of_ble_eq_true rfl) | lia)) | (first | exact Nat.le_trans (by assumption) (Nat.le_of_ble_eq_true rfl) | lia))); intro _ _ _ _)) | (focus (refine' WB.lenL ?_ ?_ ?_ ?_; rotate_right 4; (· k_extra "hfr"); (· exact rfl); (· (first | exact Nat.le_of_ble_eq_true rfl | (simp only [List.length_map, List.length_append, List.length_reverse, List.length_cons, List.length_nil]; (first | exact Nat.le_trans (by assumption) (Nat.le_of_ble_eq_true rfl) | lia)) | lia))))) | fail)
 trivial
section
variable {D : Nat} {c : Adr} {B : AHeap} {P : PlanM} {st : CS} {b : Nat} {H : AHeap} {cs : Scope} {cl : List (Str × Addr)} {m : Loc}
end
theorem kw20 : True := by
 k_with "wb" => (first | ((focus (refine' WB.popC ?_ ?_ ?_ ?_ ?_; rotate_right 5; (· k_extra "as"); (· k_extra "as"); (· k_extra "hfr"); (· (first | exact Nat.le_of_ble_eq_true rfl | (simp only [List.length_map, List.length_append, List.length_reverse, List.length_cons, List.length_nil]; (first | exact Nat.le_trans (by assumption) (Nat.le_of_ble_eq_true rfl) | lia)) | lia)); intro _ _ _ _))) | fail)
 trivial
section
variable {D : Nat} {c : Adr} {B : AHeap} {P : PlanM} {st : CS} {b : Nat} {H : AHeap} {cs : Scope} {cl : List (Str × Addr)} {m : Loc}
end
theorem kw21 : True := by
 k_with "wc" => (first | (first | (refine cellA_ok ?_) | (refine cellI_ok ?_) | (focus (refine' mVar_ok ?_ _ ?_ ?_; rotate_right 3; (· k_extra "as"); (· k_extra "as"); intro _ _ _))) | fail)
 trivial
section
variable {D : Nat} {c : Adr} {B : AHeap} {P : PlanM} {st : CS} {b : Nat} {H : AHeap} {cs : Scope} {cl : List (Str × Addr)} {m : Loc}
section
variable {G : Gl} {D : Nat} {H : AHeap}
theorem WCmp.tagV0 {t : Tm} {Q : Bool → AHeap → Prop} (hs : t.isV = false) (h : Q false H) : WCmp G D .Eq (.str t.tag) (.str ("v" : Str)) H Q := WCmp.tagV (fun z => by rw [hs] at z; cases z) (fun _ => h)
end
theorem isV_is {t : Tm} (h : t.isV = true) : ∃ j, t = .v j := by cases t <;> first | exact ⟨_, rfl⟩ | exact absurd h Bool.false_ne_true
theorem cellC_ok {D : Nat} {H : AHeap} {t : Tm} (hv : t.isV = false) (hs : t.isS = false) {Q : AQ} (h : Q t.cell.av H) : WC e.G (D + 1) (.ref 154) [t.av] H Q := by
 cases t with
 | a n => exact cellA_ok h
 | i n => exact cellI_ok h
 | v j => exact nomatch hv
 | s1 u => exact nomatch hs
 | s2 f u v => exact nomatch hs
theorem isVoid_N {P : PlanM} {t : Tm} (hv : t.isV = false) : isVoid P t = false := by cases t <;> first | rfl | (cases hv; done)
theorem mArg_S {P : PlanM} {t : Tm} (hs : t.isS = true) (ns : List (Tm × Part)) (st : CS) : mArg P t ns st = (ns ++ [(t, .t st.next)], st.tick.emit "unify_variable" [.t st.next]) := by cases t <;> first | rfl | (cases hs; done)
theorem mArg_C {P : PlanM} {t : Tm} (hv : t.isV = false) (hs : t.isS = false) (ns : List (Tm × Part)) (st : CS) : mArg P t ns st = (ns, st.emit "unify_constant" [t.cell]) := by cases t <;> first | rfl | (cases hs; done) | (cases hv; done)
end
theorem kw22 : True := by
 k_with "wi" => (first | (first | (refine WI.tup (by decide) rfl (Nat.le_of_ble_eq_true rfl) ?_) | (refine WI.tm0 ?_)) | fail)
 trivial
section
variable {D : Nat} {c : Adr} {B : AHeap} {P : PlanM} {st : CS} {b : Nat} {H : AHeap} {cs : Scope} {cl : List (Str × Addr)} {m : Loc}
end
theorem kw23 : True := by
 k_with "wq" => (first | (first | (focus (refine' WCmp.tagV0 ?_ ?_; rotate_right 2; (· k_extra "as"))) | ((with_reducible refine WCmp.tagS ?_ ?_) <;> intro _) | ((with_reducible refine WCmp.tagV ?_ ?_) <;> intro _)) | fail)
 trivial
section
variable {D : Nat} {c : Adr} {B : AHeap} {P : PlanM} {st : CS} {b : Nat} {H : AHeap} {cs : Scope} {cl : List (Str × Addr)} {m : Loc}
end
theorem kw24 : True := by
 k_with "wc" => (first | ((focus (refine' cellC_ok ?_ ?_ ?_; rotate_right 3; (· k_extra "as"); (· k_extra "as")))) | fail)
 trivial
section
variable {D : Nat} {c : Adr} {B : AHeap} {P : PlanM} {st : CS} {b : Nat} {H : AHeap} {cs : Scope} {cl : List (Str × Addr)} {m : Loc}
theorem inDom_v {k : V8} (h : inDom P (.v k)) : P.dom k = true := h k (by (exact List.mem_cons_self))
structure MI (c : Adr) (B : AHeap) (P : PlanM) (args : List Tm) (st₀ : CS) (b : Nat) (H₀ : AHeap) (wa : AV) (ln : Addr) (rest : List Tm) (m : Loc) (H : AHeap) : Prop where
 go : ∃ voids nested st, m.lookup ("self" : Str) = some (.ref c.self) ∧ m.lookup ("waiting" : Str) = some wa ∧ m.lookup ("nested" : Str) = some (.ref ln) ∧ m.lookup ("voids" : Str) = some (.int voids) ∧
   CMAt c B P st (b + 2 * rest.length + 1) H ∧ H ln = some (.list (nested.map pairAV)) ∧ nested.length + rest.length ≤ args.length ∧ Fram (ln :: c.mods) H₀ H ∧ mArgs P rest voids nested st = mArgs P args 0 [] st₀ ∧ ∀ t ∈ rest, inDom P t
theorem mArgs_ok (as : List Tm) (hd : ∀ t ∈ as, inDom P t) (C : CMAt c B P st (b + 2 * as.length + 1) H) (hz : as.length ≤ 1000) {lw : Addr} {W : List AV} (hw : H lw = some (.list W)) (hW : W.length ≤ 1000000) (ow : Off c B lw) {Q : AQ}
   (h : ∀ H', CMAt c B P (mArgs P as 0 [] st).2 b H' → H' lw = some (.list (W ++ (mArgs P as 0 [] st).1.reverse.map pairAV)) → Fram (lw :: c.mods) H H' → Q .none H') : WC e.G (D + 4) (.ref 238) [.ref c.self, .tup (as.map Tm.av), .ref lw] H Q := by
 refine WC.enterF (ns := ["self", "args", "waiting"]) (by kernel_rfl) (by kernel_rfl) rfl (bind3 (by intro x y z; kernel_rfl)) ?_
 k_extra "norm_m"
 k_extra "wg"
 intro ln hln
 k_extra "wg"
 refine W1.forTup ?_
 k_extra "wg"
 refine ⟨_, rfl, ?_⟩
 have ol := C.off hln
 have hwn : lw ≠ ln := fun z => by rw [z, hln] at hw; cases hw
 refine ForN.rule (MI c B P as st b (H.put ln (.list [])) (.ref lw) ln) (fun t rest m1 H1 I kp => ?_) (fun m1 H1 I kp => ?_) as trivial ?_
 · (refine exEEE (I.go) fun voids nested st1 zs1 => ?_; refine exAAAAAAAAA (zs1) fun i1 i2 i3 i4 C1 hl i6 F1 i7 i8 => ?_; clear zs1)
   refine WS.weak (m' := [("arg", t.av), ("self", .ref c.self), ("waiting", .ref lw), ("nested", .ref ln), ("voids", .int voids)]) (Sub.cons rfl (Sub.cons i1 (Sub.cons i2 (Sub.cons i3 (Sub.cons i4 Sub.nil))))) ?_
   replace C1 : CMAt c B P st1 (b + 2 * rest.length + 1 + 1 + 1) H1 := C1.weak (by simp only [List.length_cons]; lia)
   simp only [List.length_cons] at i6
   have nl := ol.mods
   have i9 : ∀ t ∈ rest, inDom P t := fun t ht => i8 t (.tail _ ht)
   have hdt : inDom P t := i8 t (.head _)
   clear i8 I hw C
   have step : ∀ voids' nested' st' m' H', (∃ b', CMAt c B P st' b' H' ∧ b + 2 * rest.length + 1 ≤ b') → H' ln = some (.list (nested'.map pairAV)) → Fram (ln :: c.mods) H1 H' → mArgs P rest voids' nested' st' = mArgs P (t :: rest) voids nested st1 → nested'.length ≤ nested.length + 1 → List.lookup ("self" : Str) m' = some (.ref c.self) → m'.lookup ("waiting" : Str) = some (.ref lw) → m'.lookup ("nested" : Str) = some (.ref ln) → m'.lookup ("voids" : Str) = some (.int voids') →
      keepP none H' ∧ MI c B P as st b (H.put ln (.list [])) (.ref lw) ln rest m' H' :=
     fun voids' nested' st' m' H' a5 a6 a8 a9 a7 a1 a2 a3 a4 => ⟨trivial, ⟨voids', nested', st', a1, a2, a3, a4, a5.elim fun b' q => q.1.weak q.2, a6, by lia, F1.trans a8, a9.trans i7, i9⟩⟩
   by_cases hv : t.isV = true
   · obtain ⟨k, rfl⟩ := isV_is hv
     have hk := inDom_v hdt
     k_extra "wg"
     all_goals (refine step _ _ _ _ _ ⟨_, by k_extra "as", by lia⟩ (by k_extra "hfr") (by k_extra "fr") (by simp only [mArgs, mArg_v, mArg_a, mArg_i, mArg_s1, mArg_s2, isVoid_v, isVoid_a, isVoid_i, isVoid_s1, isVoid_s2, flush, rst, Bool.false_eq_true, ↓reduceIte, *]) (by lia) rfl rfl rfl rfl)
   · replace hv := eq_false_of_ne_true hv
     have hvd := isVoid_N (P := P) hv
     k_extra "wg"
     all_goals first
       | (have hm := mArg_S (P := P) (show t.isS = true by assumption); refine step _ (nested ++ [(t, _)]) _ _ _ ⟨_, by k_extra "as", by lia⟩ (by rw [List.map_append]; assumption) (by k_extra "fr") (by simp only [mArgs, hvd, hm, flush, rst, Bool.false_eq_true, ↓reduceIte, *]) (by simp) rfl rfl rfl rfl)
       | (have hm := mArg_C (P := P) hv (show t.isS = false by assumption); refine step _ _ _ _ _ ⟨_, by k_extra "as", by lia⟩ (by k_extra "hfr") (by k_extra "fr") (by simp only [mArgs, hvd, hm, flush, rst, Bool.false_eq_true, ↓reduceIte, *]) (by lia) rfl rfl rfl rfl)
 · (refine exEEE (I.go) fun voids nested st1 zs2 => ?_; refine exAAAAAAAAA (zs2) fun i1 i2 i3 i4 C1 hl i6 F1 i7 i8 => ?_; clear zs2)
   refine WS.weak (m' := [("self", .ref c.self), ("waiting", .ref lw), ("nested", .ref ln), ("voids", .int voids)]) (Sub.cons i1 (Sub.cons i2 (Sub.cons i3 (Sub.cons i4 Sub.nil)))) ?_
   have hw1 : H1 lw = some (.list W) := F1.out (AHeap.put_ne _ _ hwn |>.trans hw) (by rw [List.mem_cons, not_or]; exact ⟨hwn, ow.mods⟩)
   have F2 : Fram c.mods H (H.put ln (.list [])) := Fram.new hln
   clear hw C i8 I
   simp only [List.length_nil] at i6
   have nl := ol.mods
   have nw := ow.mods
   have hn1 : lw ∉ [ln] := fun z => hwn (List.mem_singleton.mp z)
   have hn2 : ln ∉ [lw] := fun z => hwn (List.mem_singleton.mp z).symm
   refine WS.seq (fun m' H' => m'.lookup ("waiting" : Str) = some (.ref lw) ∧ m'.lookup ("nested" : Str) = some (.ref ln) ∧ CMAt c B P (mArgs P as 0 [] st).2 b H' ∧ nested = (mArgs P as 0 [] st).1 ∧ H' ln = some (.list (nested.map pairAV)) ∧ H' lw = some (.list W) ∧ Fram c.mods H1 H') ?_ ?_
   · rw [← i7]
     k_extra "wg"
     all_goals exact ⟨rfl, rfl, rfl, by simp only [mArgs, flush, ↓reduceIte, *] <;> exact CMAt.weak (by k_extra "as") (by simp), by simp only [mArgs], by k_extra "hfr", by k_extra "hfr", by k_extra "fr"⟩
   · (intro m2; intro H2; intro zq0; refine exAAAAAA (zq0) fun j1 j2 C2 j3 j4 j5 F3 => ?_; clear zq0)
     generalize (mArgs P as 0 [] st).2 = st2 at *
     generalize (mArgs P as 0 [] st).1 = nst at *
     subst j3
     refine WS.cons (W1.while ⟨nested.length + 1, WhileN.rule (fun n m' H' => ∃ rest moved, rest.length = n ∧ nested = rest ++ moved ∧ m'.lookup ("waiting" : Str) = some (.ref lw) ∧ m'.lookup ("nested" : Str) = some (.ref ln) ∧ CMAt c B P st2 b H' ∧ H' ln = some (.list (rest.map pairAV)) ∧ H' lw = some (.list (W ++ moved.reverse.map pairAV)) ∧ Fram (ln :: lw :: c.mods) H1 H') ?_ nested.length ⟨nested, [], rfl, by simp, j1, j2, C2, j4, by simpa using j5, F3.sub (by (first | (intro _ h; exact h) | (intro _ h; exact .tail _ h) | (intro _ h; exact .tail _ (.tail _ h)) | (intro _ h; exact List.mem_cons.mpr (.inl (List.mem_singleton.mp h))) | (intro _ h; exact .tail _ (List.mem_cons.mpr (.inl (List.mem_singleton.mp h)))) | (intro a h; simp only [Adr.mods, List.mem_cons, List.not_mem_nil, or_false] at h ⊢; first | (focus (simp only [h, eq_self, true_or, or_true]; done)) | (rcases h with h | h <;> simp only [h, eq_self, true_or, or_true]))))⟩⟩)
     (intro n; intro m3; intro H3; intro zq0; refine exEE (zq0) fun rest moved zs3 => ?_; clear zq0; refine exAAAAAAA (zs3) fun e1 e2 l1 l2 C3 h1 h2 F4 => ?_; clear zs3)
     have hr1 : rest.length ≤ 1000 := by have := congrArg List.length e2; simp at this; lia
     have hr2 : moved.length ≤ 1000 := by have := congrArg List.length e2; simp at this; lia
     refine WT.weak (m' := [("waiting", .ref lw), ("nested", .ref ln)]) (Sub.cons l1 (Sub.cons l2 Sub.nil)) ?_
     clear C1 C2 hl j4 j5 hw1
     k_extra "wg"
     · have : rest ≠ [] := fun z => by subst z; simp only [List.map_nil, List.length_nil] at *; lia
       (refine exEE ((⟨rest.dropLast, rest.getLast this, (List.dropLast_concat_getLast this).symm⟩ : ∃ r x, rest = r ++ [x])) fun rest' x zq0 => ?_; rcases zq0 with rfl)
       have hr3 : rest'.length ≤ 1000 := by simp only [List.length_append] at hr1; lia
       refine ⟨rest'.length, by rw [← e1]; simp, ?_⟩
       refine WS.weak (m' := [("waiting", .ref lw), ("nested", .ref ln)]) (Sub.cons l1 (Sub.cons l2 Sub.nil)) ?_
       rw [List.map_append, List.map_cons, List.map_nil] at h1
       k_extra "wg"
       refine ⟨rest', x :: moved, rfl, by simp [e2], rfl, rfl, by k_extra "as", by k_extra "hfr", ?_, by k_extra "fr"⟩
       simp only [List.reverse_cons, List.map_append, List.map_cons, List.map_nil, ← List.append_assoc]
       assumption
     · have : rest = [] := by cases rest with
         | nil => rfl
         | cons _ _ => exfalso; simp only [List.length_map, List.length_cons] at *; lia
       subst this
       refine h _ C3 (by rw [h2, e2]; simp) (Fram.drop hln ?_)
       k_extra "fr"
 · exact ⟨0, [], st, rfl, rfl, rfl, rfl, C.putO ol, AHeap.put_self _ _ _, by simp, Fram.refl, rfl, hd⟩
end
noncomputable def wsz : List (Tm × Part) → Nat
 | [] => 0
 | x :: r => x.1.size + wsz r
theorem wsz_n : wsz [] = 0 := rfl
theorem wsz_c : ∀ x r, wsz (x :: r) = x.1.size + wsz r := fun _ _ => rfl
noncomputable def tsz : List Tm → Nat
 | [] => 0
 | x :: r => x.size + tsz r
theorem tsz_n : tsz [] = 0 := rfl
theorem tsz_c : ∀ x r, tsz (x :: r) = x.size + tsz r := fun _ _ => rfl
theorem wsz_append : ∀ (a b : List (Tm × Part)), wsz (a ++ b) = wsz a + wsz b := by
 intro zz
 induction zz with
 | nil =>
   intro b
   simp [wsz_n, wsz_c]
 | cons x a ih =>
   intro b
   simp only [List.cons_append, wsz_n, wsz_c, ih b]; (simp +arith only; done)
theorem size_pos (t : Tm) : 1 ≤ t.size := by cases t <;> (first | exact Nat.le_of_ble_eq_true rfl | simp [Tmsize_v, Tmsize_a, Tmsize_i, Tmsize_s1, Tmsize_s2])
theorem len_wsz : ∀ (a : List (Tm × Part)), a.length ≤ wsz a := by
 intro zz
 induction zz with
 | nil =>
   exact Nat.zero_le _
 | cons x a ih =>
   have := ih; have := size_pos x.1; simp only [List.length_cons, wsz_n, wsz_c]; lia
theorem tsz_args (t : Tm) (h : t.isS = true) : tsz t.args + 1 = t.size := by cases t <;> simp_all [TmisS_v, TmisS_a, TmisS_i, TmisS_s1, TmisS_s2, Tmargs_v, Tmargs_a, Tmargs_i, Tmargs_s1, Tmargs_s2, tsz_n, tsz_c, Tmsize_v, Tmsize_a, Tmsize_i, Tmsize_s1, Tmsize_s2]
theorem mArgs_nested (P : PlanM) : ∀ (as : List Tm) (v : Int) (ns : List (Tm × Part)) (st : CS), ∃ l, (mArgs P as v ns st).1 = ns ++ l ∧ (∀ x ∈ l, x.1.isS = true ∧ x.1 ∈ as) ∧ wsz l ≤ tsz as := by
 intro zz
 induction zz with
 | nil =>
   intro v ns st
   exact ⟨[], by simp [mArgs], by (decide), by (exact Nat.zero_le _)⟩
 | cons t r ih =>
   intro v ns st
   unfold mArgs
   split
   · (refine exEAA (ih (v + 1) ns st) fun l h1 h2 h3 => ?_)
     exact ⟨l, h1, fun x hx => ⟨(h2 x hx).1, .tail _ (h2 x hx).2⟩, by simp only [tsz_n, tsz_c]; lia⟩
   · cases t with
     | v k =>
       (refine exEAA (ih (rst v) (mArg P (.v k) ns (flush "unify_void" v st)).1 (mArg P (.v k) ns (flush "unify_void" v st)).2) fun l h1 h2 h3 => ?_)
       exact ⟨l, h1, fun x hx => ⟨(h2 x hx).1, .tail _ (h2 x hx).2⟩, by simp only [tsz_n, tsz_c]; lia⟩
     | a k =>
       (refine exEAA (ih (rst v) (mArg P (.a k) ns (flush "unify_void" v st)).1 (mArg P (.a k) ns (flush "unify_void" v st)).2) fun l h1 h2 h3 => ?_)
       exact ⟨l, h1, fun x hx => ⟨(h2 x hx).1, .tail _ (h2 x hx).2⟩, by simp only [tsz_n, tsz_c]; lia⟩
     | i k =>
       (refine exEAA (ih (rst v) (mArg P (.i k) ns (flush "unify_void" v st)).1 (mArg P (.i k) ns (flush "unify_void" v st)).2) fun l h1 h2 h3 => ?_)
       exact ⟨l, h1, fun x hx => ⟨(h2 x hx).1, .tail _ (h2 x hx).2⟩, by simp only [tsz_n, tsz_c]; lia⟩
     | s1 u =>
       (refine exEAA (ih (rst v) (mArg P (.s1 u) ns (flush "unify_void" v st)).1 (mArg P (.s1 u) ns (flush "unify_void" v st)).2) fun l h1 h2 h3 => ?_)
       refine ⟨_ :: l, h1.trans (List.append_assoc ns [_] l), fun x hx => ?_, by simp only [tsz_n, tsz_c, wsz_n, wsz_c]; (exact Nat.add_le_add_left (by assumption) _)⟩
       rcases List.mem_cons.mp hx with rfl | hx
       · exact ⟨rfl, .head _⟩
       · exact ⟨(h2 x hx).1, .tail _ (h2 x hx).2⟩
     | s2 f u w =>
       (refine exEAA (ih (rst v) (mArg P (.s2 f u w) ns (flush "unify_void" v st)).1 (mArg P (.s2 f u w) ns (flush "unify_void" v st)).2) fun l h1 h2 h3 => ?_)
       refine ⟨_ :: l, h1.trans (List.append_assoc ns [_] l), fun x hx => ?_, by simp only [tsz_n, tsz_c, wsz_n, wsz_c]; (exact Nat.add_le_add_left (by assumption) _)⟩
       rcases List.mem_cons.mp hx with rfl | hx
       · exact ⟨rfl, .head _⟩
       · exact ⟨(h2 x hx).1, .tail _ (h2 x hx).2⟩
theorem inDom_args {P : PlanM} {t u : Tm} (h : inDom P t) (m : u ∈ t.args) : inDom P u := by
 cases t with
 | s1 a => simp only [Tmargs_v, Tmargs_a, Tmargs_i, Tmargs_s1, Tmargs_s2, List.mem_singleton] at m; subst m; exact fun k hk => h k hk
 | s2 f a b =>
   simp only [Tmargs_v, Tmargs_a, Tmargs_i, Tmargs_s1, Tmargs_s2, List.mem_cons, List.not_mem_nil, or_false] at m
   rcases m with rfl | rfl
   · exact fun k hk => h k (List.mem_append_left _ hk)
   · exact fun k hk => h k (List.mem_append_right _ hk)
 | _ => simp [Tmargs_v, Tmargs_a, Tmargs_i, Tmargs_s1, Tmargs_s2] at m
theorem openG1 {st : CS} {u : Tm} {r : Part} : openRow st "get" (.s1 u) r = st.emit "get_structure" [.num 12, r] := rfl
theorem openG2 {st : CS} {u v : Tm} {r : Part} : openRow st "get" (.s2 false u v) r = st.emit "get_list" [r] := rfl
theorem openG3 {st : CS} {u v : Tm} {r : Part} : openRow st "get" (.s2 true u v) r = st.emit "get_structure" [.num 14, r] := rfl
section
variable {D : Nat} {c : Adr} {B : AHeap} {P : PlanM} {st : CS} {b : Nat} {H : AHeap} {cs : Scope} {cl : List (Str × Addr)} {m : Loc}
theorem m238 : methIn e.G.K 417 ("match_arguments" : Str) 238 = true := by kernel_rfl
end
theorem kw25 : True := by
 k_with "wf" => (first | (with_reducible exact m238) | fail)
 trivial
section
variable {D : Nat} {c : Adr} {B : AHeap} {P : PlanM} {st : CS} {b : Nat} {H : AHeap} {cs : Scope} {cl : List (Str × Addr)} {m : Loc}
end
theorem kw26 : True := by
 k_with "wx" => (first | ((refine W1.assign2 ?_)) | fail)
 trivial
section
variable {D : Nat} {c : Adr} {B : AHeap} {P : PlanM} {st : CS} {b : Nat} {H : AHeap} {cs : Scope} {cl : List (Str × Addr)} {m : Loc}
theorem matchGo {Q : AQ} {lw : Addr} {ws : List (Tm × Part)} {n : Nat} {t : Tm} {reg : Part} {st' : CS}
   (ow : Off c B lw) (hd : ∀ x ∈ (t, reg) :: ws, x.1.isS = true ∧ inDom P x.1) (hs : wsz ((t, reg) :: ws) ≤ n + 1) (hn : n ≤ 1000)
   (C : CMAt c B P (openRow st' "get" t reg) (b + 6 * n + 5) H) (hw : H lw = some (.list (ws.reverse.map pairAV)))
   (h : ∀ ws1 st1 H', matchN P (n + 1) ((t, reg) :: ws) st' = matchN P n ws1 st1 → (∀ x ∈ ws1, x.1.isS = true ∧ inDom P x.1) → wsz ws1 ≤ n → CMAt c B P st1 (b + 6 * n) H' → H' lw = some (.list (ws1.reverse.map pairAV)) → Fram (lw :: c.mods) H H' → Q .none H') : WC e.G (D + 4) (.ref 238) [.ref c.self, .tup (t.args.map Tm.av), .ref lw] H Q := by
 have ht := hd _ (.head _)
 have ha : t.args.length ≤ 2 := by cases t <;> (first | exact Nat.le_of_ble_eq_true rfl | exact Nat.zero_le _ | simp [Tmargs_v, Tmargs_a, Tmargs_i, Tmargs_s1, Tmargs_s2])
 have hl := len_wsz ws
 have hz := tsz_args t ht.1
 simp only [wsz_n, wsz_c] at hs
 refine mArgs_ok (b := b + 6 * n) t.args (fun u hu => inDom_args ht.2 hu) (C.weak (by lia)) (by (exact Nat.le_trans (by assumption) (Nat.le_of_ble_eq_true rfl))) hw (by simp; lia) ow fun H' C' hw' F => ?_
 (refine exEAA (mArgs_nested P t.args 0 [] (openRow st' "get" t reg)) fun l e1 e2 e3 => ?_)
 refine h ((mArgs P t.args 0 [] (openRow st' "get" t reg)).1 ++ ws) _ H' rfl (fun x hx => ?_) ?_ C' (by rw [hw']; simp) F
 · rcases List.mem_append.mp hx with hx | hx
   · rw [e1, List.nil_append] at hx
     exact ⟨(e2 x hx).1, inDom_args ht.2 (e2 x hx).2⟩
   · exact hd x (.tail _ hx)
 · rw [wsz_append, e1, List.nil_append]
   lia
theorem match_ok (t : Tm) (hs : t.isS = true) (hd : inDom P t) (hz : t.size ≤ 1000) (reg : Part) (C : CMAt c B P st (b + 6 * t.size) H) {Q : AQ}
   (h : ∀ H', CMAt c B P (matchT P t reg st) b H' → Fram c.mods H H' → Q .none H') : WC e.G (D + 5) (.ref 231) [.ref c.self, t.av, reg.av] H Q := by
 refine WC.enterF (ns := ["self", "term", "source"]) (by kernel_rfl) (by kernel_rfl) rfl (bind3 (by intro x y z; kernel_rfl)) ?_
 k_extra "norm_m"
 k_extra "wg"
 intro lw hlw
 k_extra "wg"
 have ow := C.off hlw
 refine W1.while ⟨t.size + 1, WhileN.rule (fun n m' H' => ∃ ws st', m'.lookup ("self" : Str) = some (.ref c.self) ∧ m'.lookup ("waiting" : Str) = some (.ref lw) ∧ matchN P n ws st' = matchT P t reg st ∧ (∀ x ∈ ws, x.1.isS = true ∧ inDom P x.1) ∧ wsz ws ≤ n ∧ n ≤ 1000 ∧ CMAt c B P st' (b + 6 * n) H' ∧ H' lw = some (.list (ws.reverse.map pairAV)) ∧ Fram (lw :: c.mods) H H') ?_ t.size ?_⟩
 · (intro n; intro m1; intro H1; intro zq0; refine exEE (zq0) fun ws st1 zs4 => ?_; clear zq0; refine exAAAAAAAA (zs4) fun l1 l2 e1 hd1 hs1 hn C1 hw F1 => ?_; clear zs4)
   have hl := len_wsz ws
   refine WT.weak (m' := [("self", .ref c.self), ("waiting", .ref lw)]) (Sub.cons l1 (Sub.cons l2 Sub.nil)) ?_
   clear C
   k_extra "wg"
   · obtain ⟨x, ws, rfl⟩ : ∃ x r, ws = x :: r := by
       cases ws with
       | nil => exfalso; simp at *
       | cons x r => exact ⟨x, r, rfl⟩
     (refine exE ((⟨n - 1, by simp only [List.length_cons] at hl; lia⟩ : ∃ k, n = k + 1)) ?_; intro n zq0; rcases zq0 with rfl)
     refine ⟨n, rfl, ?_⟩
     refine WS.weak (m' := [("self", .ref c.self), ("waiting", .ref lw)]) (Sub.cons l1 (Sub.cons l2 Sub.nil)) ?_
     rw [List.reverse_cons, List.map_append, List.map_cons, List.map_nil] at hw
     have hl2 : ws.length ≤ 1000 := by simp only [List.length_cons] at hl; lia
     obtain ⟨t1, reg1⟩ := x
     replace C1 : CMAt c B P st1 (b + 6 * n + 5 + 1) H1 := C1.weak (by (exact Nat.le_refl _))
     have ht := (hd1 _ (.head _)).1
     have nw := ow.mods
     k_extra "wg"
     refine ⟨_, _, rfl, ?_⟩
     cases t1 with
     | s1 u =>
       k_extra "wg"
       refine matchGo (t := .s1 u) (reg := reg1) (st' := st1) (b := b) ow hd1 hs1 (by (exact Nat.le_of_lt (by assumption))) (by (first | rw [openG1] | rw [openG2] | rw [openG3]); assumption) (by k_extra "hfr") ?_
       intro ws1 st2 H2 f1 f2 f3 C2 f4 F2
       k_extra "wg"
       exact ⟨ws1, st2, rfl, rfl, f1.symm.trans e1, f2, f3, by lia, C2, f4, by k_extra "fr"⟩
     | s2 f u w =>
       cases f <;> k_extra "wg"
       all_goals
         refine matchGo (t := .s2 _ u w) (reg := reg1) (st' := st1) (b := b) ow hd1 hs1 (by lia) (by (first | rw [openG1] | rw [openG2] | rw [openG3]); assumption) (by k_extra "hfr") ?_
         intro ws1 st2 H2 f1 f2 f3 C2 f4 F2
         k_extra "wg"
         exact ⟨ws1, st2, rfl, rfl, f1.symm.trans e1, f2, f3, by lia, C2, f4, by k_extra "fr"⟩
     | _ => (exact falseE ht)
   · obtain rfl : ws = [] := by
       cases ws with
       | nil => rfl
       | cons x r => exfalso; simp only [List.length_map, List.length_reverse, List.length_cons] at *; lia
     refine h _ ?_ (Fram.drop hlw F1)
     rw [← e1]
     cases n <;> exact C1.weak (by (first | exact Nat.le_add_right _ _ | exact Nat.le_refl _ | lia))
 · refine ⟨[(t, reg)], st, rfl, rfl, rfl, fun x hx => ?_, by simp [wsz_n, wsz_c], hz, C.putO ow, AHeap.put_self _ _ _, Fram.new hlw⟩
   cases List.mem_singleton.mp hx
   exact ⟨hs, hd⟩
end
section
variable {D : Nat} {c : Adr} {B : AHeap} {P : PlanM} {st : CS} {b : Nat} {H : AHeap} {cs : Scope} {cl : List (Str × Addr)} {m : Loc}
theorem m231 : methIn e.G.K 417 ("match" : Str) 231 = true := by kernel_rfl
end
theorem kw27 : True := by
 k_with "wf" => (first | (with_reducible exact m231) | fail)
 trivial
section
variable {D : Nat} {c : Adr} {B : AHeap} {P : PlanM} {st : CS} {b : Nat} {H : AHeap} {cs : Scope} {cl : List (Str × Addr)} {m : Loc}
end
theorem kw28 : True := by
 k_with "wc" => (first | ((focus (refine' match_ok _ ?_ ?_ ?_ _ ?_ ?_; rotate_right 5; (· first | rfl | k_extra "as"); (· k_extra "as"); (· k_extra "as"); (· k_extra "as"); intro _ _ _))) | fail)
 trivial
section
variable {D : Nat} {c : Adr} {B : AHeap} {P : PlanM} {st : CS} {b : Nat} {H : AHeap} {cs : Scope} {cl : List (Str × Addr)} {m : Loc}
theorem headArg_ok (t : Tm) (hd : inDom P t) (hz : t.size ≤ 1000) (src : Part) (C : CMAt c B P st (b + 6 * t.size) H) {Q : AQ}
   (h : ∀ H', CMAt c B P (headArg P t src st) b H' → Fram c.mods H H' → Q .none H') : WC e.G (D + 6) (.ref 224) [.ref c.self, t.av, src.av] H Q := by
 refine WC.enterF (ns := ["self", "term", "source"]) (by kernel_rfl) (by kernel_rfl) rfl (bind3 (by intro x y z; kernel_rfl)) ?_
 k_extra "norm_m"
 have hp := size_pos t
 cases t with
 | v k =>
   have hk := inDom_v hd
   replace C : CMAt c B P st (b + 5 + 1) H := C
   k_extra "wg"
   all_goals refine h _ (CMAt.weak (b := b + 5) ?_ (by (first | exact Nat.le_add_right _ _ | lia))) (by k_extra "fr")
   all_goals (simp only [headArg_v, headArg_a, headArg_i, headArg_s1, headArg_s2, *, ↓reduceIte, Bool.false_eq_true] <;> first | assumption | exact C.weak (by (exact Nat.le_add_right _ _)))
 | a k =>
   replace C : CMAt c B P st (b + 5 + 1) H := C
   k_extra "wg"
   all_goals refine h _ (CMAt.weak (b := b + 5) ?_ (by lia)) (by k_extra "fr")
   all_goals (simp only [headArg_v, headArg_a, headArg_i, headArg_s1, headArg_s2, *, ↓reduceIte, Bool.false_eq_true] <;> first | assumption | exact C.weak (by lia))
 | i k =>
   replace C : CMAt c B P st (b + 5 + 1) H := C
   k_extra "wg"
   all_goals refine h _ (CMAt.weak (b := b + 5) ?_ (by lia)) (by k_extra "fr")
   all_goals (simp only [headArg_v, headArg_a, headArg_i, headArg_s1, headArg_s2, *, ↓reduceIte, Bool.false_eq_true] <;> first | assumption | exact C.weak (by lia))
 | s1 u =>
   k_extra "wg"
   exact h _ (by assumption) (by k_extra "fr")
 | s2 f u w =>
   cases f <;> k_extra "wg"
   all_goals exact h _ (by assumption) (by k_extra "fr")
end
section
variable {D : Nat} {c : Adr} {B : AHeap} {P : PlanM} {st : CS} {b : Nat} {H : AHeap} {cs : Scope} {cl : List (Str × Addr)} {m : Loc}
theorem setVar_ok (C : CMAt c B P st (b + 1) H) (k : V8) (hk : P.dom k = true) {Q : AQ} (h : ∀ H', CMAt c B P (setVar P k st) b H' → Fram c.mods H H' → Q .none H') : WC e.G (D + 3) (.ref 292) [.ref c.self, .int (vi k)] H Q := by
 refine WC.enterF (ns := ["self", "k"]) (by kernel_rfl) (by kernel_rfl) rfl (bind2 (by intro x y; kernel_rfl)) ?_
 k_extra "norm_m"
 k_extra "wg"
 all_goals exact h _ (by simp only [setVar, *, ↓reduceIte, Bool.false_eq_true]) (by k_extra "fr")
theorem m292 : methIn e.G.K 417 ("set_variable" : Str) 292 = true := by kernel_rfl
end
theorem kw29 : True := by
 k_with "wf" => (first | (with_reducible exact m292) | fail)
 trivial
section
variable {D : Nat} {c : Adr} {B : AHeap} {P : PlanM} {st : CS} {b : Nat} {H : AHeap} {cs : Scope} {cl : List (Str × Addr)} {m : Loc}
end
theorem kw30 : True := by
 k_with "wc" => (first | ((focus (refine' setVar_ok ?_ _ ?_ ?_; rotate_right 3; (· k_extra "as"); (· k_extra "as"); intro _ _ _))) | fail)
 trivial
section
variable {D : Nat} {c : Adr} {B : AHeap} {P : PlanM} {st : CS} {b : Nat} {H : AHeap} {cs : Scope} {cl : List (Str × Addr)} {m : Loc}
noncomputable def pieceOk (P : PlanM) : Piece → Prop
 | .tm t => t.isS = false ∧ inDom P t
 | .reg _ => True
theorem setArgs_ok (ps : List Piece) (hok : ∀ p ∈ ps, pieceOk P p) (C : CMAt c B P st (b + 2 * ps.length + 1) H) {l : Addr} (hl : H l = some (.list (ps.map Piece.av))) (ol : Off c B l) {Q : AQ}
   (h : ∀ H', CMAt c B P (setArgs P ps 0 st) b H' → Fram (l :: c.mods) H H' → Q .none H') : WC e.G (D + 4) (.ref 285) [.ref c.self, .ref l] H Q := by
 refine WC.enterF (ns := ["self", "pieces"]) (by kernel_rfl) (by kernel_rfl) rfl (bind2 (by intro x y; kernel_rfl)) ?_
 k_extra "norm_m"
 k_extra "wg"
 refine W1.forList ?_
 k_extra "wg"
 refine ⟨l, _, rfl, hl, fun ob => ?_⟩
 refine ForN.rule (fun rest m' H' => ∃ voids st', m'.lookup ("self" : Str) = some (.ref c.self) ∧ m'.lookup ("voids" : Str) = some (.int voids) ∧ CMAt c B P st' (b + 2 * rest.length + 1) H' ∧ Fram (l :: c.mods) H H' ∧ setArgs P rest voids st' = setArgs P ps 0 st ∧ ∀ p ∈ rest, pieceOk P p) (fun p rest m1 H1 I kp => ?_) (fun m1 H1 I kp => ?_) ps (AHeap.put_self _ _ _) ⟨0, st, rfl, rfl, C.putO ol, Fram.put (by (exact List.mem_cons_self)), rfl, hok⟩
 · (refine exEEAAAAA (I) fun voids st1 i1 i2 C1 F1 i3 i4 => ?_; clear I)
   refine WS.weak (m' := [("piece", p.av), ("self", .ref c.self), ("voids", .int voids)]) (Sub.cons rfl (Sub.cons i1 (Sub.cons i2 Sub.nil))) ?_
   replace C1 : CMAt c B P st1 (b + 2 * rest.length + 1 + 1 + 1) H1 := C1.weak (by simp only [List.length_cons]; (exact Nat.le_refl _))
   have nl := ol.mods
   have i5 : ∀ p ∈ rest, pieceOk P p := fun t ht => i4 t (.tail _ ht)
   have hp := i4 p (.head _)
   clear i4 C
   have step : ∀ (voids' : Int) (st' : CS) (m' : Loc) (H' : AHeap), (∃ b', CMAt c B P st' b' H' ∧ b + 2 * rest.length + 1 ≤ b') → H' l = some (.ro (.list (ps.map Piece.av)) ob) → Fram (l :: c.mods) H H' → setArgs P rest voids' st' = setArgs P (p :: rest) voids st1 → List.lookup ("self" : Str) m' = some (.ref c.self) → m'.lookup ("voids" : Str) = some (.int voids') →
      keepP (some (l, .ro (.list (ps.map Piece.av)) ob)) H' ∧ ∃ voids st', m'.lookup ("self" : Str) = some (.ref c.self) ∧ m'.lookup ("voids" : Str) = some (.int voids) ∧ CMAt c B P st' (b + 2 * rest.length + 1) H' ∧ Fram (l :: c.mods) H H' ∧ setArgs P rest voids st' = setArgs P ps 0 st ∧ ∀ p ∈ rest, pieceOk P p :=
     fun voids' st' m' H' a5 a6 a8 a9 a1 a4 => ⟨a6, voids', st', a1, a4, a5.elim fun b' q => q.1.weak q.2, a8, a9.trans i3, i5⟩
   have kp' : H1 l = some (.ro (.list (ps.map Piece.av)) ob) := kp
   cases p with
   | reg n =>
     refine WS.weak (m' := [("piece", (Part.t n).av), ("self", .ref c.self), ("voids", .int voids)]) (fun x a h => h) ?_
     k_extra "wg"
     all_goals (refine step _ _ _ _ ⟨_, by k_extra "as", by (first | exact Nat.le_refl _ | (simp +arith; done) | lia)⟩ (by k_extra "hfr") (by k_extra "fr") (by simp only [setArgs, setArg_r, setArg_v, setArg_a, setArg_i, setArg_s1, setArg_s2, PieceisVoid_t, PieceisVoid_r, isVoid_v, isVoid_a, isVoid_i, isVoid_s1, isVoid_s2, flush, rst, Bool.false_eq_true, ↓reduceIte, *]) rfl rfl)
   | tm t =>
     cases t with
     | v k =>
       have hk := inDom_v hp.2
       k_extra "wg"
       all_goals (refine step _ _ _ _ ⟨_, by k_extra "as", by (first | (simp +arith; done) | lia)⟩ (by k_extra "hfr") (by k_extra "fr") (by simp only [setArgs, setArg_r, setArg_v, setArg_a, setArg_i, setArg_s1, setArg_s2, PieceisVoid_t, PieceisVoid_r, isVoid_v, isVoid_a, isVoid_i, isVoid_s1, isVoid_s2, flush, rst, Bool.false_eq_true, ↓reduceIte, *]) rfl rfl)
     | a k =>
       k_extra "wg"
       all_goals (refine step _ _ _ _ ⟨_, by k_extra "as", by lia⟩ (by k_extra "hfr") (by k_extra "fr") (by simp only [setArgs, setArg_r, setArg_v, setArg_a, setArg_i, setArg_s1, setArg_s2, PieceisVoid_t, PieceisVoid_r, isVoid_v, isVoid_a, isVoid_i, isVoid_s1, isVoid_s2, flush, rst, Bool.false_eq_true, ↓reduceIte, *]) rfl rfl)
     | i k =>
       k_extra "wg"
       all_goals (refine step _ _ _ _ ⟨_, by k_extra "as", by lia⟩ (by k_extra "hfr") (by k_extra "fr") (by simp only [setArgs, setArg_r, setArg_v, setArg_a, setArg_i, setArg_s1, setArg_s2, PieceisVoid_t, PieceisVoid_r, isVoid_v, isVoid_a, isVoid_i, isVoid_s1, isVoid_s2, flush, rst, Bool.false_eq_true, ↓reduceIte, *]) rfl rfl)
     | _ => cases hp.1
 · (refine exEEAAAAA (I) fun voids st1 i1 i2 C1 F1 i3 i4 => ?_; clear I)
   have nl := ol.mods
   have kp' : H1 l = some (.ro (.list (ps.map Piece.av)) ob) := kp
   replace C1 : CMAt c B P st1 (b + 1) (H1.put l (.list (ps.map Piece.av))) := (C1.weak (by simp)).putO ol
   refine WS.weak (m' := [("self", .ref c.self), ("voids", .int voids)]) (Sub.cons i1 (Sub.cons i2 Sub.nil)) ?_
   have F2 : Fram (l :: c.mods) H1 (H1.put l (.list (ps.map Piece.av))) := Fram.put (by (exact List.mem_cons_self))
   clear C
   rw [← i3] at h
   k_extra "wg"
   all_goals (refine h _ (CMAt.weak (b := _) (by simp only [setArgs, flush, *, ↓reduceIte] <;> k_extra "as") (by (first | exact Nat.le_add_right _ _ | exact Nat.le_refl _ | lia))) (by k_extra "fr"))
end
section
variable {G : Gl} {D : Nat} {H : AHeap}
theorem WB.lenT1 {a : AV} {Q : AQ} (h : Q (.int 1) H) : WB G D (.builtin "len") [.tup [a]] H Q := WB.lenT (Nat.le_of_ble_eq_true rfl) h
theorem WB.lenT2 {a b : AV} {Q : AQ} (h : Q (.int 2) H) : WB G D (.builtin "len") [.tup [a, b]] H Q := WB.lenT (Nat.le_of_ble_eq_true rfl) h
theorem WCmp.tagS1 {t : Tm} {Q : Bool → AHeap → Prop} (hs : t.isS = true) (h : Q true H) : WCmp G D .Eq (.str t.tag) (.str ("s" : Str)) H Q := WCmp.tagS (fun _ => h) (fun z => by rw [hs] at z; (exact trueE z))
theorem WCmp.tagS0 {t : Tm} {Q : Bool → AHeap → Prop} (hs : t.isS = false) (h : Q false H) : WCmp G D .Eq (.str t.tag) (.str ("s" : Str)) H Q := WCmp.tagS (fun z => by rw [hs] at z; (exact falseE z)) (fun _ => h)
end
noncomputable def workAV (x : Bool × Tm) : AV := .tup [.bool x.1, x.2.av]
noncomputable def regAV (n : Int) : AV := (Part.t n).av
noncomputable def toDo (x : Tm) : Bool × Tm := (false, x)
section
variable {D : Nat} {c : Adr} {B : AHeap} {P : PlanM} {st : CS} {b : Nat} {H : AHeap} {cs : Scope} {cl : List (Str × Addr)} {m : Loc}
theorem blist : nsIn e.G.K mainGlobals ("list" : Str) = some none := by kernel_rfl
theorem blist' : bootBuiltins ("list" : Str) = some (.type "list") := by kernel_rfl
end
theorem kw31 : True := by
 k_with "wk" => (first | ((refine' WE.callT blist blist' (by decide) ?_)) | fail)
 trivial
section
variable {D : Nat} {c : Adr} {B : AHeap} {P : PlanM} {st : CS} {b : Nat} {H : AHeap} {cs : Scope} {cl : List (Str × Addr)} {m : Loc}
end
theorem kw32 : True := by
 k_with "wb" => (first | (first | (with_reducible refine WB.lenT1 ?_) | (with_reducible refine WB.lenT2 ?_) | (refine WB.lenT1 ?_) | (refine WB.lenT2 ?_)) | fail)
 trivial
section
variable {D : Nat} {c : Adr} {B : AHeap} {P : PlanM} {st : CS} {b : Nat} {H : AHeap} {cs : Scope} {cl : List (Str × Addr)} {m : Loc}
end
theorem kw33 : True := by
 k_with "wq" => (first | (first | (focus (refine' WCmp.tagS1 ?_ ?_; rotate_right 2; (· k_extra "as"))) | (focus (refine' WCmp.tagS0 ?_ ?_; rotate_right 2; (· k_extra "as")))) | fail)
 trivial
section
variable {D : Nat} {c : Adr} {B : AHeap} {P : PlanM} {st : CS} {b : Nat} {H : AHeap} {cs : Scope} {cl : List (Str × Addr)} {m : Loc}
end
theorem kw34 : True := by
 k_with "wq" => (first | (first | (focus (refine WCmp.geI_is (x := true) ?_ ?_; rotate_right 2; (· kernel_rfl!))) | (focus (refine WCmp.geI_is (x := false) ?_ ?_; rotate_right 2; (· kernel_rfl!)))) | fail)
 trivial
section
variable {D : Nat} {c : Adr} {B : AHeap} {P : PlanM} {st : CS} {b : Nat} {H : AHeap} {cs : Scope} {cl : List (Str × Addr)} {m : Loc}
theorem wait_ok (t : Tm) (hs : t.isS = true) (C : CMAt c B P st b H) {lw : Addr} {W : List AV} (hw : H lw = some (.list W)) (hW : W.length ≤ 1000000) (ow : Off c B lw) {Q : AQ}
   (h : ∀ H', CMAt c B P st b H' → H' lw = some (.list (W ++ ((nestedOrder t).map toDo).reverse.map workAV)) → Fram [lw] H H' → Q .none H') : WC e.G (D + 1) (.ref 271) [.ref c.self, .tup (t.args.map Tm.av), .ref lw] H Q := by
 refine WC.enterF (ns := ["self", "args", "work"]) (by kernel_rfl) (by kernel_rfl) rfl (bind3 (by intro x y z; kernel_rfl)) ?_
 k_extra "norm_m"
 cases t with
 | s1 u =>
   cases hu : u.isS
   all_goals
     refine WS.weak (m' := [("work", .ref lw), ("args", .tup [u.av]), ("self", .ref c.self)]) (fun x a h => h) ?_
     k_extra "wg"
     refine W1.while ⟨1, ?_⟩
     k_extra "wg"
   all_goals exact h _ (by k_extra "as") (by simp only [nestedOrder_s1, nestedOrder_s2, nestedOrder_v, nestedOrder_a, nestedOrder_i, hu, ↓reduceIte, Bool.false_eq_true, List.map_nil, List.reverse_nil, List.append_nil, List.nil_append, List.map_cons, List.reverse_cons, List.append_assoc, List.cons_append] at *; first | assumption) (by k_extra "fr")
 | s2 f u v =>
   cases hu : u.isS <;> cases hv : v.isS
   all_goals
     refine WS.weak (m' := [("work", .ref lw), ("args", .tup [u.av, v.av]), ("self", .ref c.self)]) (fun x a h => h) ?_
     k_extra "wg"
     refine W1.while ⟨2, ?_⟩
     k_extra "wg"
   all_goals exact h _ (by k_extra "as") (by simp only [nestedOrder_s1, nestedOrder_s2, nestedOrder_v, nestedOrder_a, nestedOrder_i, hu, hv, ↓reduceIte, Bool.false_eq_true, List.map_nil, List.reverse_nil, List.append_nil, List.nil_append, List.map_cons, List.reverse_cons, List.append_assoc, List.cons_append] at *; first | assumption) (by k_extra "fr")
 | _ => (exact falseE hs)
end
section
variable {D : Nat} {c : Adr} {B : AHeap} {P : PlanM} {st : CS} {b : Nat} {H : AHeap} {cs : Scope} {cl : List (Str × Addr)} {m : Loc}
theorem WB.listTC {xs : List AV} {lb : Addr} {o : AO} {Q : AQ} (C : CMAt c B P st b H) (hb : H lb = some o) (hz : xs.length ≤ 16000000) (h : ∀ l H', H l = none → Off c B l → CMAt c B P st b H' → H' l = some (.list xs) → H' lb = some o → Fram [lb] H H' → l ∉ [lb] → lb ∉ [l] → Q (.ref l) H') : WB e.G D (.type "list") [.tup xs] H Q :=
 WB.listT hz fun l hl => by
   have ne : lb ≠ l := fun z => by rw [z, hl] at hb; (exact noneE hb)
   exact h l _ hl (C.off hl) (C.putO (C.off hl)) (AHeap.put_self _ _ _) ((AHeap.put_ne _ _ ne).trans hb) (Fram.new hl) (fun z => ne (List.mem_singleton.mp z).symm) (fun z => ne (List.mem_singleton.mp z))
theorem WSt.listC {l : Addr} {xs : List AV} {i : Int} {a : AV} {Q : AHeap → Prop} (C : CMAt c B P st b H) (ol : Off c B l) (hl : H l = some (.list xs)) (h0 : 0 ≤ i) (hi : i < xs.length) (hz : xs.length ≤ 16000000) (h : ∀ H', CMAt c B P st b H' → H' l = some (.list (xs.set i.toNat a)) → Fram [l] H H' → Q H') : WSt e.G D (.ref l) (.int i) a H Q :=
 WSt.list hl h0 hi hz (h _ (C.putO ol) (AHeap.put_self _ _ _) (Fram.put (by (exact List.mem_cons_self))))
noncomputable def nestedN (t : Tm) : Nat := (nestedOrder t).length
end
theorem kw35 : True := by
 k_with "wz" => (first | ((refine W1.assignItem ?_)) | fail)
 trivial
section
variable {D : Nat} {c : Adr} {B : AHeap} {P : PlanM} {st : CS} {b : Nat} {H : AHeap} {cs : Scope} {cl : List (Str × Addr)} {m : Loc}
end
theorem kw36 : True := by
 k_with "wx" => (first | (first | (focus (refine' WSt.listC ?_ ?_ ?_ ?_ ?_ ?_ ?_; rotate_right 7; (· k_extra "as"); (· k_extra "as"); (· k_extra "hfr"); (· exact of_decide_eq_true rfl); (· exact of_decide_eq_true rfl); (· exact Nat.le_of_ble_eq_true rfl); intro _ _ _ _)) | (refine W1.assign2 ?_)) | fail)
 trivial
section
variable {D : Nat} {c : Adr} {B : AHeap} {P : PlanM} {st : CS} {b : Nat} {H : AHeap} {cs : Scope} {cl : List (Str × Addr)} {m : Loc}
theorem take_ok (t : Tm) (hs : t.isS = true) (C : CMAt c B P st b H) {lb : Addr} {L : List Int} (hb : H lb = some (.list (L.reverse.map regAV))) (hL : L.length ≤ 1000) (hn : nestedN t ≤ L.length) (ob : Off c B lb) {Q : AQ}
   (h : ∀ lp H', H lp = none → Off c B lp → CMAt c B P st b H' → H' lp = some (.list ((takeNested t L).1.map Piece.av)) → H' lb = some (.list ((takeNested t L).2.reverse.map regAV)) → Fram [lb] H H' → Q (.ref lp) H') : WC e.G (D + 1) (.ref 278) [.ref c.self, .tup (t.args.map Tm.av), .ref lb] H Q := by
 refine WC.enterF (ns := ["self", "args", "built"]) (by kernel_rfl) (by kernel_rfl) rfl (bind3 (by intro x y z; kernel_rfl)) ?_
 k_extra "norm_m"
 cases t with
 | s1 u =>
   cases hu : u.isS
   · refine WS.weak (m' := [("built", .ref lb), ("args", .tup [u.av]), ("self", .ref c.self)]) (fun x a h => h) ?_
     k_extra "wg"
     refine WB.listTC C hb (Nat.le_of_ble_eq_true rfl) ?_
     intro lp H1 k1 k2 C1 k3 k4 k5 k6 k7
     k_extra "wg"
     refine W1.while ⟨1, ?_⟩
     k_extra "wg"
     exact h lp _ k1 k2 (by k_extra "as") (by simp only [takeNested_s1, takeNested_s2, takeNested_v, takeNested_a, takeNested_i, takePiece, hu, ↓reduceIte, Bool.false_eq_true]; assumption) (by simp only [takeNested_s1, takeNested_s2, takeNested_v, takeNested_a, takeNested_i, takePiece, hu, ↓reduceIte, Bool.false_eq_true]; k_extra "hfr") (by k_extra "fr")
   · obtain ⟨x, r, rfl⟩ : ∃ x r, L = x :: r := by
       cases L with
       | nil => simp [nestedN, nestedOrder_s1, nestedOrder_s2, nestedOrder_v, nestedOrder_a, nestedOrder_i, hu] at hn
       | cons x r => exact ⟨x, r, rfl⟩
     rw [List.reverse_cons, List.map_append, List.map_cons, List.map_nil] at hb
     have hr : r.length ≤ 1000 := by simp only [List.length_cons] at hL; (exact Nat.le_of_lt (by assumption))
     refine WS.weak (m' := [("built", .ref lb), ("args", .tup [u.av]), ("self", .ref c.self)]) (fun x a h => h) ?_
     k_extra "wg"
     refine WB.listTC C hb (Nat.le_of_ble_eq_true rfl) ?_
     intro lp H1 k1 k2 C1 k3 k4 k5 k6 k7
     clear hb C
     k_extra "wg"
     refine W1.while ⟨1, ?_⟩
     k_extra "wg"
     exact h lp _ k1 k2 (by k_extra "as") (by simp only [takeNested_s1, takeNested_s2, takeNested_v, takeNested_a, takeNested_i, takePiece, hu, ↓reduceIte, Bool.false_eq_true]; assumption) (by simp only [takeNested_s1, takeNested_s2, takeNested_v, takeNested_a, takeNested_i, takePiece, hu, ↓reduceIte, Bool.false_eq_true]; k_extra "hfr") (Fram.drop k1 (by k_extra "fr"))
 | s2 f u v =>
   cases hu : u.isS <;> cases hv : v.isS
   · refine WS.weak (m' := [("built", .ref lb), ("args", .tup [u.av, v.av]), ("self", .ref c.self)]) (fun x a h => h) ?_
     k_extra "wg"
     refine WB.listTC C hb (Nat.le_of_ble_eq_true rfl) ?_
     intro lp H1 k1 k2 C1 k3 k4 k5 k6 k7
     clear hb C
     k_extra "wg"
     refine W1.while ⟨2, ?_⟩
     k_extra "wg"
     exact h lp _ k1 k2 (by k_extra "as") (by simp only [takeNested_s1, takeNested_s2, takeNested_v, takeNested_a, takeNested_i, takePiece, hu, hv, ↓reduceIte, Bool.false_eq_true]; assumption) (by simp only [takeNested_s1, takeNested_s2, takeNested_v, takeNested_a, takeNested_i, takePiece, hu, hv, ↓reduceIte, Bool.false_eq_true]; k_extra "hfr") (Fram.drop k1 (by k_extra "fr"))
   · obtain ⟨x, r, rfl⟩ : ∃ x r, L = x :: r := by
       cases L with
       | nil => simp [nestedN, nestedOrder_s1, nestedOrder_s2, nestedOrder_v, nestedOrder_a, nestedOrder_i, hu, hv] at hn
       | cons x r => exact ⟨x, r, rfl⟩
     rw [List.reverse_cons, List.map_append, List.map_cons, List.map_nil] at hb
     have hr : r.length ≤ 1000 := by simp only [List.length_cons] at hL; lia
     refine WS.weak (m' := [("built", .ref lb), ("args", .tup [u.av, v.av]), ("self", .ref c.self)]) (fun x a h => h) ?_
     k_extra "wg"
     refine WB.listTC C hb (Nat.le_of_ble_eq_true rfl) ?_
     intro lp H1 k1 k2 C1 k3 k4 k5 k6 k7
     clear hb C
     k_extra "wg"
     refine W1.while ⟨2, ?_⟩
     k_extra "wg"
     exact h lp _ k1 k2 (by k_extra "as") (by simp only [takeNested_s1, takeNested_s2, takeNested_v, takeNested_a, takeNested_i, takePiece, hu, hv, ↓reduceIte, Bool.false_eq_true]; assumption) (by simp only [takeNested_s1, takeNested_s2, takeNested_v, takeNested_a, takeNested_i, takePiece, hu, hv, ↓reduceIte, Bool.false_eq_true]; k_extra "hfr") (Fram.drop k1 (by k_extra "fr"))
   · obtain ⟨x, r, rfl⟩ : ∃ x r, L = x :: r := by
       cases L with
       | nil => simp [nestedN, nestedOrder_s1, nestedOrder_s2, nestedOrder_v, nestedOrder_a, nestedOrder_i, hu, hv] at hn
       | cons x r => exact ⟨x, r, rfl⟩
     rw [List.reverse_cons, List.map_append, List.map_cons, List.map_nil] at hb
     have hr : r.length ≤ 1000 := by simp only [List.length_cons] at hL; lia
     refine WS.weak (m' := [("built", .ref lb), ("args", .tup [u.av, v.av]), ("self", .ref c.self)]) (fun x a h => h) ?_
     k_extra "wg"
     refine WB.listTC C hb (Nat.le_of_ble_eq_true rfl) ?_
     intro lp H1 k1 k2 C1 k3 k4 k5 k6 k7
     clear hb C
     k_extra "wg"
     refine W1.while ⟨2, ?_⟩
     k_extra "wg"
     exact h lp _ k1 k2 (by k_extra "as") (by simp only [takeNested_s1, takeNested_s2, takeNested_v, takeNested_a, takeNested_i, takePiece, hu, hv, ↓reduceIte, Bool.false_eq_true]; assumption) (by simp only [takeNested_s1, takeNested_s2, takeNested_v, takeNested_a, takeNested_i, takePiece, hu, hv, ↓reduceIte, Bool.false_eq_true]; k_extra "hfr") (Fram.drop k1 (by k_extra "fr"))
   · obtain ⟨x, y, r, rfl⟩ : ∃ x y r, L = x :: y :: r := by
       cases L with
       | nil => simp [nestedN, nestedOrder_s1, nestedOrder_s2, nestedOrder_v, nestedOrder_a, nestedOrder_i, hu, hv] at hn
       | cons x r => cases r with
         | nil => simp [nestedN, nestedOrder_s1, nestedOrder_s2, nestedOrder_v, nestedOrder_a, nestedOrder_i, hu, hv] at hn
         | cons y r => exact ⟨x, y, r, rfl⟩
     rw [List.reverse_cons, List.map_append, List.map_cons, List.map_nil, List.reverse_cons, List.map_append, List.map_cons, List.map_nil] at hb
     have hr : r.length ≤ 998 := by simp only [List.length_cons] at hL; lia
     refine WS.weak (m' := [("built", .ref lb), ("args", .tup [u.av, v.av]), ("self", .ref c.self)]) (fun x a h => h) ?_
     k_extra "wg"
     refine WB.listTC C hb (Nat.le_of_ble_eq_true rfl) ?_
     intro lp H1 k1 k2 C1 k3 k4 k5 k6 k7
     clear hb C
     k_extra "wg"
     refine W1.while ⟨2, ?_⟩
     k_extra "wg"
     exact h lp _ k1 k2 (by k_extra "as") (by simp only [takeNested_s1, takeNested_s2, takeNested_v, takeNested_a, takeNested_i, takePiece, hu, hv, ↓reduceIte, Bool.false_eq_true]; assumption) (by simp only [takeNested_s1, takeNested_s2, takeNested_v, takeNested_a, takeNested_i, takePiece, hu, hv, ↓reduceIte, Bool.false_eq_true]; k_extra "hfr") (Fram.drop k1 (by k_extra "fr"))
 | _ => (exact falseE hs)
end
noncomputable def bsz : List (Bool × Tm) → Nat
 | [] => 0
 | (false, t) :: r => 2 * t.size + bsz r
 | (true, _) :: r => 1 + bsz r
theorem bsz_n : bsz [] = 0 := rfl
theorem bsz_f : ∀ t r, bsz ((false, t) :: r) = 2 * t.size + bsz r := fun _ _ => rfl
theorem bsz_t : ∀ t r, bsz ((true, t) :: r) = 1 + bsz r := fun _ _ => rfl
noncomputable def okB : List (Bool × Tm) → Nat → Prop
 | [], _ => True
 | (false, _) :: r, k => okB r (k + 1)
 | (true, t) :: r, k => nestedN t ≤ k ∧ okB r (k - nestedN t + 1)
theorem bsz_append : ∀ (a b : List (Bool × Tm)), bsz (a ++ b) = bsz a + bsz b
 | [], b => by simp [bsz_n, bsz_f, bsz_t]
 | (false, t) :: a, b => by simp only [List.cons_append, bsz_n, bsz_f, bsz_t, bsz_append a b]; (simp +arith only; done)
 | (true, t) :: a, b => by simp only [List.cons_append, bsz_n, bsz_f, bsz_t, bsz_append a b]; (simp +arith only; done)
theorem len_bsz : ∀ (a : List (Bool × Tm)), a.length ≤ bsz a
 | [] => Nat.zero_le _
 | (false, t) :: a => by have := len_bsz a; have := size_pos t; simp only [List.length_cons, bsz_n, bsz_f, bsz_t]; lia
 | (true, t) :: a => by have := len_bsz a; simp only [List.length_cons, bsz_n, bsz_f, bsz_t]; lia
theorem okB_toDo (ws : List (Bool × Tm)) : ∀ (l : List Tm) (k : Nat), okB (l.map toDo ++ ws) k ↔ okB ws (k + l.length) := by
 intro zz
 induction zz with
 | nil =>
   intro k
   exact Iff.rfl
 | cons t l ih =>
   intro k
   show okB (l.map toDo ++ ws) (k + 1) ↔ _
   rw [ih (k + 1), List.length_cons, Nat.add_assoc, Nat.add_comm 1]
theorem bsz_nested (t : Tm) (h : t.isS = true) : bsz ((nestedOrder t).map toDo) + 2 ≤ 2 * t.size := by
 cases t with
 | s1 u => have := size_pos u; cases hu : u.isS <;> simp [nestedOrder_s1, nestedOrder_s2, nestedOrder_v, nestedOrder_a, nestedOrder_i, hu, bsz_n, bsz_f, bsz_t, toDo, Tmsize_v, Tmsize_a, Tmsize_i, Tmsize_s1, Tmsize_s2] <;> (first | exact Nat.le_add_left _ _ | exact Nat.le_refl _ | lia)
 | s2 f u v => have := size_pos u; have := size_pos v; cases hu : u.isS <;> cases hv : v.isS <;> simp [nestedOrder_s1, nestedOrder_s2, nestedOrder_v, nestedOrder_a, nestedOrder_i, hu, hv, bsz_n, bsz_f, bsz_t, toDo, Tmsize_v, Tmsize_a, Tmsize_i, Tmsize_s1, Tmsize_s2] <;> (first | exact Nat.le_add_left _ _ | (simp +arith only; done) | lia)
 | _ => (exact falseE h)
theorem nested_in {P : PlanM} {t u : Tm} (h : inDom P t) (m : u ∈ nestedOrder t) : u.isS = true ∧ inDom P u := by
 cases t with
 | s1 a =>
   cases ha : a.isS <;> simp [nestedOrder_s1, nestedOrder_s2, nestedOrder_v, nestedOrder_a, nestedOrder_i, ha] at m
   subst m
   exact ⟨ha, inDom_args h (.head _)⟩
 | s2 f a b =>
   cases ha : a.isS <;> cases hb : b.isS <;> simp [nestedOrder_s1, nestedOrder_s2, nestedOrder_v, nestedOrder_a, nestedOrder_i, ha, hb] at m
   · subst m; exact ⟨hb, inDom_args h (.tail _ (.head _))⟩
   · subst m; exact ⟨ha, inDom_args h (.head _)⟩
   · rcases m with rfl | rfl
     · exact ⟨hb, inDom_args h (.tail _ (.head _))⟩
     · exact ⟨ha, inDom_args h (.head _)⟩
 | _ => simp [nestedOrder_s1, nestedOrder_s2, nestedOrder_v, nestedOrder_a, nestedOrder_i] at m
theorem take_pieces {P : PlanM} {t : Tm} {L : List Int} (h : inDom P t) (hn : nestedN t ≤ L.length) : (∀ p ∈ (takeNested t L).1, pieceOk P p) ∧ (takeNested t L).1.length ≤ 2 ∧ (takeNested t L).2.length = L.length - nestedN t := by
 cases t with
 | s1 a =>
   have h1 : inDom P a := inDom_args h (.head _)
   cases ha : a.isS
   · simp [takeNested_s1, takeNested_s2, takeNested_v, takeNested_a, takeNested_i, takePiece, nestedN, nestedOrder_s1, nestedOrder_s2, nestedOrder_v, nestedOrder_a, nestedOrder_i, ha, pieceOk, h1]
   · cases L with
     | nil => simp [nestedN, nestedOrder_s1, nestedOrder_s2, nestedOrder_v, nestedOrder_a, nestedOrder_i, ha] at hn
     | cons x r => simp [takeNested_s1, takeNested_s2, takeNested_v, takeNested_a, takeNested_i, takePiece, nestedN, nestedOrder_s1, nestedOrder_s2, nestedOrder_v, nestedOrder_a, nestedOrder_i, ha, pieceOk]
 | s2 f a b =>
   have h1 : inDom P a := inDom_args h (.head _)
   have h2 : inDom P b := inDom_args h (.tail _ (.head _))
   cases ha : a.isS <;> cases hb : b.isS
   · simp [takeNested_s1, takeNested_s2, takeNested_v, takeNested_a, takeNested_i, takePiece, nestedN, nestedOrder_s1, nestedOrder_s2, nestedOrder_v, nestedOrder_a, nestedOrder_i, ha, hb, pieceOk, h1, h2]
   · cases L with
     | nil => simp [nestedN, nestedOrder_s1, nestedOrder_s2, nestedOrder_v, nestedOrder_a, nestedOrder_i, ha, hb] at hn
     | cons x r => simp [takeNested_s1, takeNested_s2, takeNested_v, takeNested_a, takeNested_i, takePiece, nestedN, nestedOrder_s1, nestedOrder_s2, nestedOrder_v, nestedOrder_a, nestedOrder_i, ha, hb, pieceOk, h1]
   · cases L with
     | nil => simp [nestedN, nestedOrder_s1, nestedOrder_s2, nestedOrder_v, nestedOrder_a, nestedOrder_i, ha, hb] at hn
     | cons x r => simp [takeNested_s1, takeNested_s2, takeNested_v, takeNested_a, takeNested_i, takePiece, nestedN, nestedOrder_s1, nestedOrder_s2, nestedOrder_v, nestedOrder_a, nestedOrder_i, ha, hb, pieceOk, h2]
   · cases L with
     | nil => simp [nestedN, nestedOrder_s1, nestedOrder_s2, nestedOrder_v, nestedOrder_a, nestedOrder_i, ha, hb] at hn
     | cons x r => cases r with
       | nil => simp [nestedN, nestedOrder_s1, nestedOrder_s2, nestedOrder_v, nestedOrder_a, nestedOrder_i, ha, hb] at hn
       | cons y r => simp [takeNested_s1, takeNested_s2, takeNested_v, takeNested_a, takeNested_i, takePiece, nestedN, nestedOrder_s1, nestedOrder_s2, nestedOrder_v, nestedOrder_a, nestedOrder_i, ha, hb, pieceOk]
 | _ => simp [takeNested_s1, takeNested_s2, takeNested_v, takeNested_a, takeNested_i, nestedN, nestedOrder_s1, nestedOrder_s2, nestedOrder_v, nestedOrder_a, nestedOrder_i]
theorem openPL {st : CS} {t : Tm} {r : Part} (h : t.fn = 0) : openRow st "put" t r = st.emit "put_list" [r] := by unfold openRow; rw [if_pos h]; rfl
theorem openPS {st : CS} {t : Tm} {r : Part} (h : ¬ t.fn = 0) : openRow st "put" t r = st.emit "put_structure" [.num t.fn, r] := by unfold openRow; rw [if_neg h]; rfl
section
variable {G : Gl} {D : Nat} {H : AHeap}
theorem WI.tm1 {t : Tm} {Q : AQ} (hs : t.isS = true) (h : Q (.int t.fn) H) : WI G D t.av (.int 1) H Q := by
 cases t with
 | s1 a => exact WI.tup (by decide) rfl (Nat.le_of_ble_eq_true rfl) h
 | s2 f a b => cases f <;> exact WI.tup (by decide) rfl (Nat.le_of_ble_eq_true rfl) h
 | _ => (exact falseE hs)
theorem WI.tm2 {t : Tm} {Q : AQ} (hs : t.isS = true) (h : Q (.tup (t.args.map Tm.av)) H) : WI G D t.av (.int 2) H Q := by
 cases t with
 | s1 a => exact WI.tup (by decide) rfl (Nat.le_of_ble_eq_true rfl) h
 | s2 f a b => cases f <;> exact WI.tup (by decide) rfl (Nat.le_of_ble_eq_true rfl) h
 | _ => (exact falseE hs)
end
section
variable {D : Nat} {c : Adr} {B : AHeap} {P : PlanM} {st : CS} {b : Nat} {H : AHeap} {cs : Scope} {cl : List (Str × Addr)} {m : Loc}
theorem m271 : methIn e.G.K 417 ("wait_for_nested" : Str) 271 = true := by kernel_rfl
theorem m278 : methIn e.G.K 417 ("take_nested" : Str) 278 = true := by kernel_rfl
theorem m285 : methIn e.G.K 417 ("set_arguments" : Str) 285 = true := by kernel_rfl
end
theorem kw37 : True := by
 k_with "wf" => (first | (with_reducible first | exact m271 | exact m278 | exact m285) | fail)
 trivial
section
variable {D : Nat} {c : Adr} {B : AHeap} {P : PlanM} {st : CS} {b : Nat} {H : AHeap} {cs : Scope} {cl : List (Str × Addr)} {m : Loc}
end
theorem kw38 : True := by
 k_with "wi" => (first | (first | (focus (refine' WI.tm1 ?_ ?_; rotate_right 2; (· k_extra "as"))) | (focus (refine' WI.tm2 ?_ ?_; rotate_right 2; (· k_extra "as")))) | fail)
 trivial
section
variable {D : Nat} {c : Adr} {B : AHeap} {P : PlanM} {st : CS} {b : Nat} {H : AHeap} {cs : Scope} {cl : List (Str × Addr)} {m : Loc}
end
theorem kw39 : True := by
 k_with "hfr" => (first | (first | (first | with_reducible assumption | with_reducible exact CMAt.self (by assumption) | with_reducible exact CMAt.d (by assumption) | with_reducible exact CMAt.lc (by assumption) | with_reducible exact CMAt.ls (by assumption) | with_reducible exact CMAt.ll (by assumption) | with_reducible exact AHeap.put_self _ _ _) | (refine Fram.out (by with_reducible assumption) ?_ ?_ <;> first | with_reducible assumption | (first | with_reducible assumption | with_reducible exact CMAt.self (by assumption) | with_reducible exact CMAt.d (by assumption) | with_reducible exact CMAt.lc (by assumption) | with_reducible exact CMAt.ls (by assumption) | with_reducible exact CMAt.ll (by assumption) | with_reducible exact AHeap.put_self _ _ _) | k_extra "hfr")) | fail)
 trivial
section
variable {D : Nat} {c : Adr} {B : AHeap} {P : PlanM} {st : CS} {b : Nat} {H : AHeap} {cs : Scope} {cl : List (Str × Addr)} {m : Loc}
set_option tactic.hygienic true in
theorem build_ok (t : Tm) (hs : t.isS = true) (hd : inDom P t) (hz : t.size ≤ 400) (target : Part) (C : CMAt c B P st (b + 12 * t.size) H) {Q : AQ}
   (h : ∀ H', CMAt c B P (build P t target st) b H' → Fram c.mods H H' → Q .none H') : WC e.G (D + 5) (.ref 264) [.ref c.self, t.av, target.av] H Q := by
 refine WC.enterF (ns := ["self", "term", "target"]) (by kernel_rfl) (by kernel_rfl) rfl (bind3 (by intro x y z; kernel_rfl)) ?_
 k_extra "norm_m"
 k_extra "wg"
 intro lw hlw
 have ow := C.off hlw
 have C2 : CMAt c B P st (b + 12 * t.size) (H.put lw (.list [workAV (false, t)])) := C.putO ow
 k_extra "wg"
 intro lb hlb
 have ob := C2.off hlb
 have nwb : lw ≠ lb := fun z => by subst z; rw [AHeap.put_self] at hlb; (exact someE hlb)
 have hlb0 : H lb = none := by rw [AHeap.put_ne _ _ nwb.symm] at hlb; exact hlb
 have n1 : lw ∉ [lb] := fun z => nwb (List.mem_singleton.mp z)
 have n2 : lb ∉ [lw] := fun z => nwb (List.mem_singleton.mp z).symm
 have n3 := ow.mods
 have n4 := ob.mods
 k_extra "wg"
 refine W1.while ⟨2 * t.size + 1, WhileN.rule (fun n m' H' => ∃ ws L st', m'.lookup ("self" : Str) = some (.ref c.self) ∧ m'.lookup ("target" : Str) = some target.av ∧ m'.lookup ("work" : Str) = some (.ref lw) ∧ m'.lookup ("built" : Str) = some (.ref lb) ∧
   bLoop P target n ws L st' = build P t target st ∧ (∀ x ∈ ws, x.2.isS = true ∧ inDom P x.2) ∧ bsz ws ≤ n ∧ L.length + n ≤ 800 ∧ okB ws L.length ∧ CMAt c B P st' (b + 6 * n) H' ∧ H' lw = some (.list (ws.reverse.map workAV)) ∧ (ws ≠ [] → H' lb = some (.list (L.reverse.map regAV))) ∧ Fram (lw :: lb :: c.mods) H H') ?_ (2 * t.size) ?_⟩
 · (intro n; intro m1; intro H1; intro zq0; refine exEEE (zq0) fun ws L st1 zs5 => ?_; clear zq0; refine exAAAAAAAAAAAA (zs5) fun l1 l2 l3 l4 e1 hd1 hs1 hn okb C1 hw hb F1 => ?_; clear zs5)
   have hl := len_bsz ws
   refine WT.weak (m' := [("self", .ref c.self), ("target", target.av), ("work", .ref lw), ("built", .ref lb)]) (Sub.cons l1 (Sub.cons l2 (Sub.cons l3 (Sub.cons l4 Sub.nil)))) ?_
   clear C C2
   k_extra "wg"
   · obtain ⟨x, ws, rfl⟩ : ∃ x r, ws = x :: r := by
       cases ws with
       | nil => exfalso; simp at *
       | cons x r => exact ⟨x, r, rfl⟩
     (refine exE ((⟨n - 1, by simp only [List.length_cons] at hl; lia⟩ : ∃ k, n = k + 1)) ?_; intro n zq0; rcases zq0 with rfl)
     refine ⟨n, rfl, ?_⟩
     refine WS.weak (m' := [("self", .ref c.self), ("target", target.av), ("work", .ref lw), ("built", .ref lb)]) (Sub.cons l1 (Sub.cons l2 (Sub.cons l3 (Sub.cons l4 Sub.nil)))) ?_
     rw [List.reverse_cons, List.map_append, List.map_cons, List.map_nil] at hw
     have hl2 : ws.length ≤ 1000 := by simp only [List.length_cons] at hl; lia
     replace hb := hb (by simp)
     obtain ⟨r, t1⟩ := x
     have ht := (hd1 _ (.head _)).1
     have htd := (hd1 _ (.head _)).2
     replace C1 : CMAt c B P st1 (b + 6 * n + 5 + 1) H1 := C1.weak (by lia)
     cases r with
     | false =>
       k_extra "wg"
       refine ⟨.bool false, t1.av, rfl, ?_⟩
       k_extra "wg"
       refine wait_ok t1 ht (by k_extra "as") (by k_extra "hfr") (by (first | exact Nat.le_of_ble_eq_true rfl | (simp only [List.length_map, List.length_append, List.length_reverse, List.length_cons, List.length_nil]; lia) | lia)) ow ?_
       intro H2 C2 hw2 F2
       k_extra "wg"
       refine ⟨(nestedOrder t1).map toDo ++ (true, t1) :: ws, L, st1, rfl, rfl, rfl, rfl, e1, fun x hx => ?_, ?_, by (exact Nat.le_of_lt (by assumption)), (okB_toDo _ _ _).mpr ⟨?_, ?_⟩, C2.weak (by (simp +arith only; done)), ?_, fun _ => by k_extra "hfr", by k_extra "fr"⟩
       · rcases List.mem_append.mp hx with hx | hx
         · (refine exEA (List.mem_map.mp hx) fun u hu zq0 => ?_; rcases zq0 with rfl)
           exact nested_in htd hu
         · rcases List.mem_cons.mp hx with rfl | hx
           · exact ⟨ht, htd⟩
           · exact hd1 x (.tail _ hx)
       · rw [bsz_append]
         have := bsz_nested t1 ht
         simp only [bsz_n, bsz_f, bsz_t] at hs1 ⊢
         lia
       · show (nestedOrder t1).length ≤ _
         (exact Nat.le_add_left _ _)
       · have : L.length + (nestedOrder t1).length - nestedN t1 + 1 = L.length + 1 := by unfold nestedN; (simp +arith; done)
         rw [this]
         exact okb
       · rw [hw2]
         simp [workAV]
     | true =>
       (refine exA (okb) fun o1 o2 => ?_; clear okb)
       (refine exAA (take_pieces (P := P) (t := t1) (L := L) htd o1) fun p1 p2 p3 => ?_)
       k_extra "wg"
       rename_i Hp Cp wp Fp
       refine ⟨.bool true, t1.av, rfl, ?_⟩
       k_extra "wg"
       refine take_ok t1 ht (by k_extra "as") (by k_extra "hfr") (by lia) o1 ob ?_
       intro lp H2 k1 k2 C2 k3 k4 F2
       have n5 : lb ∉ lp :: c.mods := by
         rw [List.mem_cons, not_or]
         refine ⟨fun z => ?_, n4⟩
         have := Fram.out Fp hb n2
         rw [z, k1] at this
         (exact noneE this)
       have n6 : lw ∉ lp :: c.mods := by
         rw [List.mem_cons, not_or]
         refine ⟨fun z => ?_, n3⟩
         have := k1
         rw [← z, wp] at this
         (exact someE this)
       have n7 := k2.mods
       have hlp : H1 lp = none := by
         cases q : H1 lp with
         | none => rfl
         | some o =>
           by_cases z : lp = lw
           · exact absurd (z ▸ List.mem_cons_self) n6
           · rw [Fram.out Fp q (fun y => z (List.mem_singleton.mp y))] at k1
             (exact someE k1)
       k_extra "wg"
       have hh : H2 lw = some (.list (ws.reverse.map workAV)) := by k_extra "hfr"
       refine WB.lenL hh rfl (by (first | exact Nat.le_of_ble_eq_true rfl | (simp only [List.length_map, List.length_append, List.length_reverse, List.length_cons, List.length_nil]; lia) | lia)) ?_
       cases ws with
       | nil =>
         replace e1 : bLoop P target n [] (0 :: (takeNested t1 L).2) (setArgs P (takeNested t1 L).1 0 (openRow st1 "put" t1 target)) = build P t target st := by
           rw [← e1]; cases n <;> rfl
         k_extra "wg"
         all_goals
           refine setArgs_ok (b := b + 6 * n) _ p1 (CMAt.weak (by k_extra "as") (by lia)) (l := lp) (by k_extra "hfr") k2 ?_
           intro H3 C3 F3
           first | rw [openPL (by assumption)] at e1 | rw [openPS (by assumption)] at e1
           k_extra "wg"
           refine ⟨[], _, _, rfl, rfl, rfl, rfl, e1, (fun _ h => nomatch h), Nat.zero_le _, ?_, trivial, by k_extra "as", by k_extra "hfr", (fun z => absurd rfl z), F1.trans (Fram.drop hlp (by k_extra "fr"))⟩
           simp only [List.length_cons, p3]
           lia
       | cons w ws =>
         replace e1 : bLoop P target n (w :: ws) (st1.next :: (takeNested t1 L).2) (setArgs P (takeNested t1 L).1 0 (openRow st1.tick "put" t1 (.t st1.next))) = build P t target st := e1
         k_extra "wg"
         · exact absurd (by assumption : ((List.map workAV (w :: ws).reverse).length : Int) = 0) (by simp only [List.length_map, List.length_reverse, List.length_cons]; lia)
         · exact absurd (by assumption : ((List.map workAV (w :: ws).reverse).length : Int) = 0) (by simp only [List.length_map, List.length_reverse, List.length_cons]; lia)
         all_goals
           refine setArgs_ok (b := b + 6 * n) _ p1 (CMAt.weak (by k_extra "as") (by lia)) (l := lp) (by k_extra "hfr") k2 ?_
           intro H3 C3 F3
           first | rw [openPL (by assumption)] at e1 | rw [openPS (by assumption)] at e1
           have hl3 : (takeNested t1 L).2.length ≤ 1000 := by lia
           k_extra "wg"
           refine ⟨w :: ws, _, _, rfl, rfl, rfl, rfl, e1, (fun x hx => hd1 x (.tail _ hx)), ?_, ?_, ?_, by k_extra "as", by k_extra "hfr", (fun _ => ?_), F1.trans (Fram.drop hlp (by k_extra "fr"))⟩
           · simp only [bsz_n, bsz_f, bsz_t] at hs1 ⊢; lia
           · simp only [List.length_cons, p3]; lia
           · rw [List.length_cons, p3]; exact o2
           · rw [List.reverse_cons, List.map_append, List.map_cons, List.map_nil]; assumption
   · obtain rfl : ws = [] := by
       cases ws with
       | nil => rfl
       | cons x r => exfalso; simp only [List.length_map, List.length_reverse, List.length_cons] at *; lia
     refine h _ ?_ (Fram.drop hlb0 (Fram.drop hlw (by k_extra "fr")))
     rw [← e1]
     cases n <;> exact C1.weak (by lia)
 · refine ⟨[(false, t)], [], st, rfl, rfl, rfl, rfl, rfl, fun x hx => ?_, by simp [bsz_n, bsz_f, bsz_t], by simp; lia, trivial, (C2.putO ob).weak (by (simp +arith only; done)), (AHeap.put_ne _ _ nwb).trans (AHeap.put_self _ _ _), fun _ => AHeap.put_self _ _ _, ((Fram.put (by (exact List.mem_cons_self))).trans (Fram.put (by (exact .tail _ (.head _)))))⟩
   cases List.mem_singleton.mp hx
   exact ⟨hs, hd⟩
end
section
variable {D : Nat} {c : Adr} {B : AHeap} {P : PlanM} {st : CS} {b : Nat} {H : AHeap} {cs : Scope} {cl : List (Str × Addr)} {m : Loc}
theorem fresh_ok (C : CMAt c B P st b H) (k : V8) (hk : P.dom k = true) {Q : AQ} (h : ∀ H', CMAt c B P (freshReg P k st).2 b H' → Fram c.mods H H' → Q (Part.t (freshReg P k st).1).av H') : WC e.G (D + 2) (.ref 346) [.ref c.self, .int (vi k)] H Q := by
 refine WC.enterF (ns := ["self", "k"]) (by kernel_rfl) (by kernel_rfl) rfl (bind2 (by intro x y; kernel_rfl)) ?_
 k_extra "norm_m"
 k_extra "wg"
 all_goals (simp only [freshReg, *, ↓reduceIte, Bool.false_eq_true] at h; exact h _ (by k_extra "as") (by k_extra "fr"))
theorem loadSlot_ok (C : CMAt c B P st (b + 1) H) (k : V8) (hk : P.dom k = true) (r : Int) {Q : AQ} (h : ∀ H', CMAt c B P (loadSlot P k r st) b H' → Fram c.mods H H' → Q .none H') : WC e.G (D + 2) (.ref 367) [.ref c.self, .int (vi k), (Part.t r).av] H Q := by
 refine WC.enterF (ns := ["self", "k", "register"]) (by kernel_rfl) (by kernel_rfl) rfl (bind3 (by intro x y z; kernel_rfl)) ?_
 k_extra "norm_m"
 k_extra "wg"
 all_goals exact h _ (by simp only [loadSlot, *, ↓reduceIte, Bool.false_eq_true]) (by k_extra "fr")
theorem settle_ok (C : CMAt c B P st (b + 1) H) (k : V8) (hk : P.dom k = true) (r : Int) {Q : AQ} (h : ∀ H', CMAt c B P (settle P k r st) b H' → Fram c.mods H H' → Q .none H') : WC e.G (D + 2) (.ref 353) [.ref c.self, .int (vi k), (Part.t r).av] H Q := by
 refine WC.enterF (ns := ["self", "k", "register"]) (by kernel_rfl) (by kernel_rfl) rfl (bind3 (by intro x y z; kernel_rfl)) ?_
 k_extra "norm_m"
 k_extra "wg"
 all_goals exact h _ (by simp only [settle, *, ↓reduceIte, Bool.false_eq_true] <;> exact CMAt.weak (by k_extra "as") (by lia)) (by k_extra "fr")
theorem m367 : methIn e.G.K 417 ("load_slot" : Str) 367 = true := by kernel_rfl
theorem m346 : methIn e.G.K 417 ("fresh_register" : Str) 346 = true := by kernel_rfl
theorem m353 : methIn e.G.K 417 ("settle" : Str) 353 = true := by kernel_rfl
end
theorem kw40 : True := by
 k_with "wf" => (first | (with_reducible first | exact m367 | exact m346 | exact m353) | fail)
 trivial
section
variable {D : Nat} {c : Adr} {B : AHeap} {P : PlanM} {st : CS} {b : Nat} {H : AHeap} {cs : Scope} {cl : List (Str × Addr)} {m : Loc}
end
theorem kw41 : True := by
 k_with "wc" => (first | (first | (focus (refine' fresh_ok ?_ _ ?_ ?_; rotate_right 3; (· k_extra "as"); (· k_extra "as"); intro _ _ _)) | (focus (refine' loadSlot_ok ?_ _ ?_ _ ?_; rotate_right 3; (· k_extra "as"); (· k_extra "as"); intro _ _ _)) | (focus (refine' settle_ok ?_ _ ?_ _ ?_; rotate_right 3; (· k_extra "as"); (· k_extra "as"); intro _ _ _))) | fail)
 trivial
section
variable {D : Nat} {c : Adr} {B : AHeap} {P : PlanM} {st : CS} {b : Nat} {H : AHeap} {cs : Scope} {cl : List (Str × Addr)} {m : Loc}
theorem regOf_ok (C : CMAt c B P st (b + 1) H) (k : V8) (hk : P.dom k = true) {Q : AQ} (h : ∀ H', CMAt c B P (regOf P k st).2 b H' → Fram c.mods H H' → Q (Part.t (regOf P k st).1).av H') : WC e.G (D + 3) (.ref 360) [.ref c.self, .int (vi k)] H Q := by
 refine WC.enterF (ns := ["self", "k"]) (by kernel_rfl) (by kernel_rfl) rfl (bind2 (by intro x y; kernel_rfl)) ?_
 k_extra "norm_m"
 k_extra "wg"
 all_goals (simp only [regOf, *, ↓reduceIte, Bool.false_eq_true] at h; exact h _ (CMAt.weak (by k_extra "as") (by lia)) (by k_extra "fr"))
theorem introduce_ok (C : CMAt c B P st (b + 2) H) (k : V8) (hk : P.dom k = true) {Q : AQ} (h : ∀ H', CMAt c B P (introduce P k st) b H' → Fram c.mods H H' → Q .none H') : WC e.G (D + 3) (.ref 332) [.ref c.self, .int (vi k)] H Q := by
 refine WC.enterF (ns := ["self", "k"]) (by kernel_rfl) (by kernel_rfl) rfl (bind2 (by intro x y; kernel_rfl)) ?_
 k_extra "norm_m"
 replace C : CMAt c B P st (b + 1 + 1) H := C
 k_extra "wg"
 all_goals exact h _ (by simp only [introduce, *, ↓reduceIte, Bool.false_eq_true] <;> exact CMAt.weak (by k_extra "as") (by (simp +arith only; done))) (by k_extra "fr")
theorem alias_ok (C : CMAt c B P st (b + 2) H) (k old : V8) (hk : P.dom k = true) (ho : P.dom old = true) {Q : AQ} (h : ∀ H', CMAt c B P (alias P k old st) b H' → Fram c.mods H H' → Q .none H') : WC e.G (D + 3) (.ref 339) [.ref c.self, .int (vi k), .int (vi old)] H Q := by
 refine WC.enterF (ns := ["self", "k", "old"]) (by kernel_rfl) (by kernel_rfl) rfl (bind3 (by intro x y z; kernel_rfl)) ?_
 k_extra "norm_m"
 replace C : CMAt c B P st (b + 1 + 1) H := C
 k_extra "wg"
 all_goals exact h _ (by simp only [alias, *, ↓reduceIte, Bool.false_eq_true] <;> exact CMAt.weak (by k_extra "as") (by lia)) (by k_extra "fr")
end
section
variable {G : Gl} {D : Nat} {H : AHeap}
theorem WCmp.eqV {j k : V8} {Q : Bool → AHeap → Prop} (h1 : j = k → Q true H) (h2 : j ≠ k → Q false H) : WCmp G D .Eq (.int (vi j)) (.int (vi k)) H Q := WCmp.eqI2 (fun z => h1 (vi_inj z)) (fun z => h2 fun y => z (by rw [y]))
theorem WCmp.neV {j k : V8} {Q : Bool → AHeap → Prop} (h1 : j ≠ k → Q true H) (h2 : j = k → Q false H) : WCmp G D .NotEq (.int (vi j)) (.int (vi k)) H Q := WCmp.neI2 (fun z => h1 fun y => z (by rw [y])) (fun z => h2 (vi_inj z))
end
section
variable {D : Nat} {c : Adr} {B : AHeap} {P : PlanM} {st : CS} {b : Nat} {H : AHeap} {cs : Scope} {cl : List (Str × Addr)} {m : Loc}
theorem m360 : methIn e.G.K 417 ("register_of" : Str) 360 = true := by kernel_rfl
theorem m332 : methIn e.G.K 417 ("introduce" : Str) 332 = true := by kernel_rfl
theorem m339 : methIn e.G.K 417 ("alias" : Str) 339 = true := by kernel_rfl
end
theorem kw42 : True := by
 k_with "wf" => (first | (with_reducible first | exact m360 | exact m332 | exact m339) | fail)
 trivial
section
variable {D : Nat} {c : Adr} {B : AHeap} {P : PlanM} {st : CS} {b : Nat} {H : AHeap} {cs : Scope} {cl : List (Str × Addr)} {m : Loc}
end
theorem kw43 : True := by
 k_with "wq" => (first | (first | ((with_reducible refine WCmp.eqV ?_ ?_) <;> intro _) | ((with_reducible refine WCmp.neV ?_ ?_) <;> intro _)) | fail)
 trivial
section
variable {D : Nat} {c : Adr} {B : AHeap} {P : PlanM} {st : CS} {b : Nat} {H : AHeap} {cs : Scope} {cl : List (Str × Addr)} {m : Loc}
end
theorem kw44 : True := by
 k_with "wc" => (first | (first | (focus (refine' regOf_ok ?_ _ ?_ ?_; rotate_right 3; (· k_extra "as"); (· k_extra "as"); intro _ _ _)) | (focus (refine' introduce_ok ?_ _ ?_ ?_; rotate_right 3; (· k_extra "as"); (· k_extra "as"); intro _ _ _)) | (focus (refine' alias_ok ?_ _ _ ?_ ?_ ?_; rotate_right 4; (· k_extra "as"); (· k_extra "as"); (· k_extra "as"); intro _ _ _))) | fail)
 trivial
section
variable {D : Nat} {c : Adr} {B : AHeap} {P : PlanM} {st : CS} {b : Nat} {H : AHeap} {cs : Scope} {cl : List (Str × Addr)} {m : Loc}
theorem unifyVars_ok (C : CMAt c B P st (b + 4) H) (j k : V8) (hj : P.dom j = true) (hk : P.dom k = true) {Q : AQ} (h : ∀ H', CMAt c B P (unifyVars P j k st) b H' → Fram c.mods H H' → Q .none H') : WC e.G (D + 4) (.ref 325) [.ref c.self, .int (vi j), .int (vi k)] H Q := by
 refine WC.enterF (ns := ["self", "j", "k"]) (by kernel_rfl) (by kernel_rfl) rfl (bind3 (by intro x y z; kernel_rfl)) ?_
 k_extra "norm_m"
 replace C : CMAt c B P st (b + 2 + 1 + 1) H := C
 k_extra "wg"
 all_goals first | exact absurd ((‹st.seen j = true›).symm.trans ‹st.seen j = false›) (by decide) | exact absurd ((‹st.seen k = true›).symm.trans ‹st.seen k = false›) (by decide) | exact h _ (by simp only [unifyVars, *, ↓reduceIte, Bool.false_eq_true, Bool.and_self, Bool.and_true, Bool.true_and, Bool.and_false, Bool.false_and] <;> exact CMAt.weak (by k_extra "as") (by (first | exact Nat.le_add_right _ _ | (simp +arith only; done) | lia))) (by k_extra "fr")
theorem number_ok (C : CMAt c B P st (b + 1) H) (w : String) (k : V8) (hk : P.dom k = true) {Q : AQ} (h : ∀ H', CMAt c B P (numberGoal P w k st) b H' → Fram c.mods H H' → Q .none H') : WC e.G (D + 2) (.ref 400) [.ref c.self, sS w, .int (vi k)] H Q := by
 refine WC.enterF (ns := ["self", "name", "k"]) (by kernel_rfl) (by kernel_rfl) rfl (bind3 (by intro x y z; kernel_rfl)) ?_
 k_extra "norm_m"
 k_extra "wg"
 all_goals exact h _ (by simp only [numberGoal, *, ↓reduceIte, Bool.false_eq_true] <;> exact CMAt.weak (by k_extra "as") (by lia)) (by k_extra "fr")
end
section
variable {D : Nat} {c : Adr} {B : AHeap} {P : PlanM} {st : CS} {b : Nat} {H : AHeap} {cs : Scope} {cl : List (Str × Addr)} {m : Loc}
theorem b1 : attrIn e.G.K 478 ("kind" : Str) = true := by kernel_rfl
theorem b2 : attrIn e.G.K 478 ("unsafe" : Str) = true := by kernel_rfl
theorem b3 : attrIn e.G.K 478 ("last_goal" : Str) = true := by kernel_rfl
theorem b4 : attrIn e.G.K 534 ("infos" : Str) = true := by kernel_rfl
end
theorem kw45 : True := by
 k_with "wf" => (first | (with_reducible first | exact b1 | exact b2 | exact b3 | exact b4 | exact b5) | fail)
 trivial
section
variable {D : Nat} {c : Adr} {B : AHeap} {P : PlanM} {st : CS} {b : Nat} {H : AHeap} {cs : Scope} {cl : List (Str × Addr)} {m : Loc}
theorem loadVar_ok (C : CMAt c B P st (b + 1) H) (k : V8) (hk : P.dom k = true) (target : Part) (leaving : Int) {Q : AQ} (h : ∀ H', CMAt c B P (loadVar P k target leaving st) b H' → Fram c.mods H H' → Q .none H') : WC e.G (D + 2) (.ref 393) [.ref c.self, .int (vi k), target.av, .int leaving] H Q := by
 (refine exEEEEEAAAA (C.plan.go) fun dp li lch llv infos p1 p2 p3 p4 p5 => ?_)
 (refine exEA (p5 k hk) fun ik q1 zq0 => ?_; obtain ⟨dk, as, i1, i2, i3, i4, i5, i6⟩ := zq0)
 have p1' := (C.base _ _ p1).1
 have p2' := (C.base _ _ p2).1
 have p3' := (C.base _ _ p3).1
 have i1' := (C.base _ _ i1).1
 have i2' := (C.base _ _ i2).1
 have n1 := (C.base _ _ i1).2
 have n2 := (C.base _ _ i2).2
 clear i1 i2 p1 p2 p3 p4
 refine WC.enterF (ns := ["self", "k", "target", "leaving"]) (by kernel_rfl) (by kernel_rfl) rfl (bind4 (by intro x y z u; kernel_rfl)) ?_
 k_extra "norm_m"
 cases hq : P.kind k <;> cases hu : P.uns k <;> rw [hq] at i3 <;> rw [hu] at i5
 all_goals
   k_extra "wg"
   refine WI.idict p3' rfl q1 ?_
   k_extra "wg"
 all_goals exact h _ (by simp only [loadVar, PlanM.void, PlanM.perm, hq, hu, *, ↓reduceIte, Bool.false_eq_true, decide_true, decide_false, Bool.true_and, Bool.false_and, Bool.and_true, Bool.and_false, reduceCtorEq] <;> exact CMAt.weak (by k_extra "as") (by lia)) (by k_extra "fr")
end
section
variable {D : Nat} {c : Adr} {B : AHeap} {P : PlanM} {st : CS} {b : Nat} {H : AHeap} {cs : Scope} {cl : List (Str × Addr)} {m : Loc}
theorem emit2a {w : String} {Q : AQ} {p : Part} {n : Int} (C : CMAt c B P st (b + 1) H) (h : ∀ H', CMAt c B P (st.emit w [p, .a n]) b H' → Fram c.mods H H' → Q .none H') : WC e.G (D + 1) (.ref 175) [.ref c.self, .tup [sS w, p.av, .tup [sS "a", .int n]]] H Q := emit_ok C w [p, .a n] h
theorem m393 : methIn e.G.K 417 ("load_variable" : Str) 393 = true := by kernel_rfl
theorem m264 : methIn e.G.K 417 ("build" : Str) 264 = true := by kernel_rfl
end
theorem kw46 : True := by
 k_with "wf" => (first | (with_reducible first | exact m393 | exact m264) | fail)
 trivial
section
variable {D : Nat} {c : Adr} {B : AHeap} {P : PlanM} {st : CS} {b : Nat} {H : AHeap} {cs : Scope} {cl : List (Str × Addr)} {m : Loc}
end
theorem kw47 : True := by
 k_with "wc" => (first | (first | (focus (refine' emit2a ?_ ?_; rotate_right 2; (· k_extra "as"); intro _ _ _)) | (focus (refine' loadVar_ok ?_ _ ?_ (.a _) _ ?_; rotate_right 3; (· k_extra "as"); (· k_extra "as"); intro _ _ _)) | (focus (refine' build_ok _ ?_ ?_ ?_ (.a _) ?_ ?_; rotate_right 5; (· first | rfl | k_extra "as"); (· k_extra "as"); (· k_extra "as"); (· k_extra "as"); intro _ _ _))) | fail)
 trivial
section
variable {D : Nat} {c : Adr} {B : AHeap} {P : PlanM} {st : CS} {b : Nat} {H : AHeap} {cs : Scope} {cl : List (Str × Addr)} {m : Loc}
theorem loadArgs_ok (ts : List Tm) (hd : ∀ t ∈ ts, inDom P t ∧ t.size ≤ 400) (leaving : Int) (C : CMAt c B P st (b + 12 * tsz ts) H) {Q : AQ} (h : ∀ H', CMAt c B P (loadArgs P leaving ts 0 st) b H' → Fram c.mods H H' → Q .none H') :
   WC e.G (D + 6) (.ref 386) [.ref c.self, .tup (ts.map Tm.av), .int leaving] H Q := by
 refine WC.enterF (ns := ["self", "args", "leaving"]) (by kernel_rfl) (by kernel_rfl) rfl (bind3 (by intro x y z; kernel_rfl)) ?_
 k_extra "norm_m"
 k_extra "wg"
 refine W1.forTup ?_
 k_extra "wg"
 refine ⟨_, rfl, ?_⟩
 refine ForN.rule (fun rest m' H' => ∃ (n : Int) (st' : CS), m'.lookup ("self" : Str) = some (.ref c.self) ∧ m'.lookup ("number" : Str) = some (.int n) ∧ m'.lookup ("leaving" : Str) = some (.int leaving) ∧ CMAt c B P st' (b + 12 * tsz rest) H' ∧ Fram c.mods H H' ∧ loadArgs P leaving rest n st' = loadArgs P leaving ts 0 st ∧ ∀ t ∈ rest, inDom P t ∧ t.size ≤ 400) (fun t rest m1 H1 I kp => ?_) (fun m1 H1 I kp => ?_) ts trivial ⟨0, st, rfl, rfl, rfl, C, Fram.refl, rfl, hd⟩
 · (refine exEE (I) fun n st1 zs6 => ?_; clear I; refine exAAAAAA (zs6) fun i1 i2 i3 C1 F1 e1 i4 => ?_; clear zs6)
   refine WS.weak (m' := [("arg", t.av), ("self", .ref c.self), ("number", .int n), ("leaving", .int leaving)]) (Sub.cons rfl (Sub.cons i1 (Sub.cons i2 (Sub.cons i3 Sub.nil)))) ?_
   have i5 : ∀ t ∈ rest, inDom P t ∧ t.size ≤ 400 := fun t ht => i4 t (.tail _ ht)
   (refine exA (i4 t (.head _)) fun hdt hzt => ?_)
   have hp := size_pos t
   clear i4 C
   have step : ∀ (st' : CS) (m' : Loc) (H' : AHeap), (∃ b', CMAt c B P st' b' H' ∧ b + 12 * tsz rest ≤ b') → Fram c.mods H H' → loadArgs P leaving rest (n + 1) st' = loadArgs P leaving (t :: rest) n st1 → m'.lookup ("self" : Str) = some (.ref c.self) → m'.lookup ("number" : Str) = some (.int (n + 1)) → m'.lookup ("leaving" : Str) = some (.int leaving) →
     keepP none H' ∧ ∃ (n : Int) (st' : CS), m'.lookup ("self" : Str) = some (.ref c.self) ∧ m'.lookup ("number" : Str) = some (.int n) ∧ m'.lookup ("leaving" : Str) = some (.int leaving) ∧ CMAt c B P st' (b + 12 * tsz rest) H' ∧ Fram c.mods H H' ∧ loadArgs P leaving rest n st' = loadArgs P leaving ts 0 st ∧ ∀ t ∈ rest, inDom P t ∧ t.size ≤ 400 :=
     fun st' m' H' a5 a8 a9 a1 a2 a3 => ⟨trivial, n + 1, st', a1, a2, a3, a5.elim fun b' q => q.1.weak q.2, a8, a9.trans e1, i5⟩
   cases t with
   | v k =>
     have hk := inDom_v hdt
     replace C1 : CMAt c B P st1 (b + 12 * tsz rest + 11 + 1) H1 := C1.weak (by simp only [tsz_n, tsz_c, Tmsize_v, Tmsize_a, Tmsize_i, Tmsize_s1, Tmsize_s2]; (simp +arith only; done))
     k_extra "wg"
     all_goals (refine step _ _ _ ⟨_, by assumption, by (exact Nat.le_add_right _ _)⟩ (by k_extra "fr") rfl rfl rfl rfl)
   | a k =>
     replace C1 : CMAt c B P st1 (b + 12 * tsz rest + 11 + 1) H1 := C1.weak (by simp only [tsz_n, tsz_c, Tmsize_v, Tmsize_a, Tmsize_i, Tmsize_s1, Tmsize_s2]; lia)
     k_extra "wg"
     all_goals (refine step _ _ _ ⟨_, by assumption, by lia⟩ (by k_extra "fr") rfl rfl rfl rfl)
   | i k =>
     replace C1 : CMAt c B P st1 (b + 12 * tsz rest + 11 + 1) H1 := C1.weak (by simp only [tsz_n, tsz_c, Tmsize_v, Tmsize_a, Tmsize_i, Tmsize_s1, Tmsize_s2]; lia)
     k_extra "wg"
     all_goals (refine step _ _ _ ⟨_, by assumption, by lia⟩ (by k_extra "fr") rfl rfl rfl rfl)
   | s1 u =>
     replace C1 : CMAt c B P st1 (b + 12 * tsz rest + 12 * (Tm.s1 u).size) H1 := C1.weak (by simp only [tsz_n, tsz_c]; (simp +arith only; done))
     k_extra "wg"
     all_goals (refine step _ _ _ ⟨_, by assumption, by (exact Nat.le_refl _)⟩ (by k_extra "fr") rfl rfl rfl rfl)
   | s2 f u w =>
     replace C1 : CMAt c B P st1 (b + 12 * tsz rest + 12 * (Tm.s2 f u w).size) H1 := C1.weak (by simp only [tsz_n, tsz_c]; (simp +arith only; done))
     cases f <;> k_extra "wg"
     all_goals (refine step _ _ _ ⟨_, by assumption, by lia⟩ (by k_extra "fr") rfl rfl rfl rfl)
 · (refine exEE (I) fun n st1 zs7 => ?_; clear I; refine exAAAAAA (zs7) fun i1 i2 i3 C1 F1 e1 i4 => ?_; clear zs7)
   k_extra "wg"
   exact h _ (e1 ▸ C1.weak (by (exact Nat.le_refl _))) F1
end
section
variable {D : Nat} {P : PlanM} {H : AHeap}
theorem a7 : attrIn e.G.K 443 ("count" : Str) = true := by kernel_rfl
theorem s417 {n : Str} (h : n = "kernel" ∨ n = "plan" ∨ n = "code" ∨ n = "seen" ∨ n = "local" ∨ n = "next_temporary") : setIn e.G.K 417 n = true := by
 rcases h with rfl | rfl | rfl | rfl | rfl | rfl <;> kernel_rfl
theorem mk417 : makesIn e.G.K 417 = true := by kernel_rfl
theorem in417 : findIn e.G.K (.ref 417) "__init__" = some (some (.ref 168)) := by kernel_rfl
theorem fn168 : isFn e.G.K (.ref 168) = true := by kernel_rfl
structure IniAt (B : AHeap) (x dx : Addr) (as : List (Str × AV)) (H : AHeap) : Prop where
 i : H x = some (.inst 417 dx)
 d : H dx = some (.attrs as)
 base : ∀ a o, B a = some o → H a = some o
 bx : B x = none
 bd : B dx = none
 ne : x ≠ dx
theorem IniAt.put {B x dx as H} (I : IniAt B x dx as H) (as' : List (Str × AV)) : IniAt B x dx as' (H.put dx (.attrs as')) :=
 ⟨(AHeap.put_ne _ _ I.ne).trans I.i, AHeap.put_self _ _ _, fun a o h => (AHeap.put_ne _ _ (fun z => by rw [z, I.bd] at h; (exact noneE h))).trans (I.base a o h), I.bx, I.bd, I.ne⟩
theorem IniAt.new {B x dx as H} (I : IniAt B x dx as H) {l : Addr} {o : AO} (h : H l = none) : IniAt B x dx as (H.put l o) ∧ B l = none ∧ l ≠ x ∧ l ≠ dx :=
 have n1 : l ≠ x := fun z => by rw [z, I.i] at h; (exact someE h)
 have n2 : l ≠ dx := fun z => by rw [z, I.d] at h; (exact someE h)
 have n3 : B l = none := by
   cases q : B l with
   | none => rfl
   | some o => rw [I.base l o q] at h; (exact someE h)
 ⟨⟨(AHeap.put_ne _ _ n1.symm).trans I.i, (AHeap.put_ne _ _ n2.symm).trans I.d, fun a o h => (AHeap.put_ne _ _ (fun z => by rw [z, n3] at h; (exact noneE h))).trans (I.base a o h), I.bx, I.bd, I.ne⟩, n3, n1, n2⟩
theorem setI {B x dx as H} {name : Str} {a : AV} {Q : AHeap → Prop} (I : IniAt B x dx as H) (hs : setIn e.G.K 417 name = true) (hz : as.length ≤ 900) (h : ∀ H', IniAt B x dx (putA name a as) H' → Fram [dx] H H' → Q H') : SaP e.G name a (.ref x) H Q := SaP.of I.i I.d hs hz (h _ (I.put _) (Fram.put (by (exact List.mem_cons_self))))
theorem bset : nsIn e.G.K mainGlobals ("set" : Str) = some none := by kernel_rfl
theorem bset' : bootBuiltins ("set" : Str) = some (.type "set") := by kernel_rfl
theorem out1 {H H' : AHeap} {a dx : Addr} {o : AO} (F : Fram [dx] H H') (h : H a = some o) (n : a ≠ dx) : H' a = some o := F a o h fun z => n (List.mem_singleton.mp z)
theorem mkState_ok {lk lp dk : Addr} {fa aa ga : AV} {count : Int} (hk : H lk = some (.inst 443 dk)) (hkd : H dk = some (.attrs [("functor", fa), ("args", aa), ("goals", ga), ("count", .int count)])) (hp : PlanAt H lp P) {Q : AQ}
   (h : ∀ c H', c.kern = lk → c.plan = lp → CMAt c H P (CS.start count) 15000000 H' → Fram [] H H' → Q (.ref c.self) H') : WC e.G (D + 2) (.ref 417) [.ref lk, .ref lp] H Q := by
 refine WC.make mk417 in417 fn168 fun x dx hx hdx ne => ?_
 have I0 : IniAt H x dx [] ((H.put dx (.attrs [])).put x (.inst 417 dx)) := ⟨AHeap.put_self .., (AHeap.put_ne _ _ ne.symm).trans (AHeap.put_self ..), fun a o q => by
   have n1 : a ≠ x := fun z => by rw [z, hx] at q; (exact noneE q)
   have n2 : a ≠ dx := fun z => by rw [z, hdx] at q; (exact noneE q)
   rw [AHeap.put_ne _ _ n1, AHeap.put_ne _ _ n2]; exact q, hx, hdx, ne⟩
 generalize ((H.put dx (.attrs [])).put x (.inst 417 dx)) = H0 at I0 ⊢
 refine WC.enterF (ns := ["self", "kernel", "plan"]) (by kernel_rfl) (by kernel_rfl) rfl (bind3 (by intro x y z; kernel_rfl)) ?_
 k_extra "norm_m"
 refine WS.cons (W1.assignAttr (WE.name rfl (WE.name rfl (setI I0 (s417 (by simp)) (Nat.le_of_ble_eq_true (by kernel_rfl)) ?_))))
 intro H1 I1 F1
 refine WS.cons (W1.assignAttr (WE.name rfl (WE.name rfl (setI I1 (s417 (by simp)) (Nat.le_of_ble_eq_true (by kernel_rfl)) ?_))))
 intro H2 I2 F2
 refine WS.cons (W1.assignAttr (WE.list ?_))
 intro lc hlc
 (refine exAAA (I2.new hlc (o := .list [])) fun I3 k1 k2 k3 => ?_)
 have g1 : (H2.put lc (.list [])) lc = some (.list []) := AHeap.put_self ..
 refine WE.name rfl (setI I3 (s417 (by simp)) (Nat.le_of_ble_eq_true (by kernel_rfl)) ?_)
 intro H3 I4 F3
 replace g1 := out1 F3 g1 k3
 refine WS.cons (W1.assignAttr (WE.callT bset bset' (by decide) (WB.newSet ?_)))
 intro ls hls
 have d1 : lc ≠ ls := fun z => by rw [z, hls] at g1; (exact noneE g1)
 (refine exAAA (I4.new hls (o := .iset fun _ => false)) fun I5 k4 k5 k6 => ?_)
 have g2 : (H3.put ls (.iset fun _ => false)) ls = some (.iset fun _ => false) := AHeap.put_self ..
 replace g1 := (AHeap.put_ne H3 (.iset fun _ => false) d1).trans g1
 refine WE.name rfl (setI I5 (s417 (by (decide))) (Nat.le_of_ble_eq_true (by kernel_rfl)) ?_)
 intro H4 I6 F4
 replace g1 := out1 F4 g1 k3
 replace g2 := out1 F4 g2 k6
 refine WS.cons (W1.assignAttr (WE.callT bset bset' (by decide) (WB.newSet ?_)))
 intro ll hll
 have d2 : lc ≠ ll := fun z => by rw [z, hll] at g1; (exact noneE g1)
 have d3 : ls ≠ ll := fun z => by rw [z, hll] at g2; (exact noneE g2)
 (refine exAAA (I6.new hll (o := .iset fun _ => false)) fun I7 k7 k8 k9 => ?_)
 have g3 : (H4.put ll (.iset fun _ => false)) ll = some (.iset fun _ => false) := AHeap.put_self ..
 replace g1 := (AHeap.put_ne H4 (.iset fun _ => false) d2).trans g1
 replace g2 := (AHeap.put_ne H4 (.iset fun _ => false) d3).trans g2
 refine WE.name rfl (setI I7 (s417 (by (decide))) (Nat.le_of_ble_eq_true (by kernel_rfl)) ?_)
 intro H5 I8 F5
 replace g1 := out1 F5 g1 k3
 replace g2 := out1 F5 g2 k6
 replace g3 := out1 F5 g3 k9
 refine WS.cons (W1.assignAttr (WE.attr (WE.name rfl (AtP.of (I8.base _ _ hk) (I8.base _ _ hkd) rfl rfl a7 (WE.name rfl (setI I8 (s417 (by (decide))) (Nat.le_of_ble_eq_true (by kernel_rfl)) ?_))))))
 intro H6 I9 F6
 replace g1 := out1 F6 g1 k3
 replace g2 := out1 F6 g2 k6
 replace g3 := out1 F6 g3 k9
 refine WS.nil ⟨rfl, h ⟨x, dx, lc, ls, ll, lp, lk⟩ H6 rfl rfl ⟨I9.i, I9.d, g1, ?_, ?_, (by simp [CS.start]), fun a o q => ⟨I9.base a o q, ?_⟩, hp, d3⟩ fun a o q _ => I9.base a o q⟩
 · rw [g2]; congr 2; funext i; simp [toS, CS.start]
 · rw [g3]; congr 2; funext i; simp [toS, CS.start]
 · intro z
   simp only [List.mem_cons, List.not_mem_nil, or_false] at z
   rcases z with rfl | rfl | rfl | rfl
   · rw [hdx] at q; cases q
   · rw [k1] at q; cases q
   · rw [k4] at q; cases q
   · rw [k7] at q; cases q
end
noncomputable def Goal.isCall : Goal → Bool
 | .call _ _ => true
 | _ => false
noncomputable def chunksM : List Goal → Int → List Int
 | [], _ => []
 | g :: r, n => n :: chunksM r (if g.isCall then n + 1 else n)
theorem chunksM_n : ∀ n, chunksM [] n = [] := fun _ => rfl
theorem chunksM_c : ∀ g r n, chunksM (g :: r) n = n :: chunksM r (if g.isCall then n + 1 else n) := fun _ _ _ => rfl
noncomputable def Goal.tag : Goal → Str
 | .call _ _ => "call"
 | .builtin _ _ => "builtin"
 | .unify _ _ => "unify"
 | .cut => "cut"
 | .level _ => "level"
 | .mark _ => "mark"
 | .cutto _ => "cutto"
section
variable {G : Gl} {D : Nat} {H : AHeap}
theorem WI.goal0 {g : Goal} {Q : AQ} (h : Q (.str g.tag) H) : WI G D g.av (.int 0) H Q := by
 cases g <;> exact WI.tup (by decide) rfl (Nat.le_of_ble_eq_true rfl) h
theorem WCmp.tagCall {g : Goal} {Q : Bool → AHeap → Prop} (h1 : g.isCall = true → Q true H) (h2 : g.isCall = false → Q false H) : WCmp G D .Eq (.str g.tag) (.str ("call" : Str)) H Q := by
 cases g with
 | call f as => exact WCmp.eqS_is (x := true) (by kernel_rfl) (h1 rfl)
 | _ => exact WCmp.eqS_is (x := false) (by kernel_rfl) (h2 rfl)
end
section
variable {D : Nat} {H : AHeap}
end
theorem kw48 : True := by
 k_with "wi" => (first | ((refine WI.goal0 ?_)) | fail)
 trivial
section
variable {D : Nat} {H : AHeap}
end
theorem kw49 : True := by
 k_with "wq" => (first | (((with_reducible refine WCmp.tagCall ?_ ?_) <;> intro _)) | fail)
 trivial
section
variable {D : Nat} {H : AHeap}
theorem chunks_ok (gs : List Goal) (hz : gs.length ≤ 1000) {lg : Addr} (hg : H lg = some (.list (gs.map Goal.av))) {Q : AQ} (h : ∀ l H', H l = none → H' l = some (.list ((chunksM gs 0).map AV.int)) → Fram [] H H' → Q (.ref l) H') : WC e.G (D + 1) (.ref 545) [.ref lg] H Q := by
 refine WC.enterF (ns := ["goals"]) (by kernel_rfl) (by kernel_rfl) rfl (bind1 (by intro x; kernel_rfl)) ?_
 k_extra "norm_m"
 k_extra "wg"
 intro lc hlc
 k_extra "wg"
 refine W1.forList ?_
 k_extra "wg"
 have ne : lg ≠ lc := fun z => by rw [z, hlc] at hg; cases hg
 refine ⟨lg, _, rfl, (AHeap.put_ne _ _ ne).trans hg, fun ob => ?_⟩
 refine ForN.rule (fun rest m' H' => ∃ (n : Int) (done : List Int), m'.lookup ("chunks" : Str) = some (.ref lc) ∧ m'.lookup ("chunk" : Str) = some (.int n) ∧ H' lc = some (.list (done.map AV.int)) ∧ done.length + rest.length ≤ gs.length ∧ done ++ chunksM rest n = chunksM gs 0 ∧ ∀ a o, H a = some o → a ≠ lg → H' a = some o) (fun g rest m1 H1 I kp => ?_) (fun m1 H1 I kp => ?_) gs (AHeap.put_self _ _ _) ⟨0, [], rfl, rfl, (AHeap.put_ne _ _ ne.symm).trans (AHeap.put_self _ _ _), by simp, by simp, fun a o q n => (AHeap.put_ne _ _ n).trans ((AHeap.put_ne _ _ (fun z => by rw [z, hlc] at q; cases q)).trans q)⟩
 · (refine exEEAAAAA (I) fun n done i1 i2 i3 i4 i5 i6 => ?_; clear I)
   have kp' : H1 lg = some (.ro (.list (gs.map Goal.av)) ob) := kp
   refine WS.weak (m' := [("goal", g.av), ("chunks", .ref lc), ("chunk", .int n)]) (Sub.cons rfl (Sub.cons i1 (Sub.cons i2 Sub.nil))) ?_
   simp only [List.length_cons] at i4
   k_extra "wg"
   refine WB.append i3 (by simp; lia) ?_
   k_extra "wg"
   all_goals
     refine ⟨(AHeap.put_ne _ _ ne).trans kp', _, done ++ [n], rfl, rfl, by rw [AHeap.put_self, List.map_append]; rfl, by simp; lia, ?_, fun a o q n' => (AHeap.put_ne _ _ (fun z => by rw [z, hlc] at q; cases q)).trans (i6 a o q n')⟩
     rw [← i5]
     simp only [chunksM_n, chunksM_c, *, ↓reduceIte, Bool.false_eq_true, List.append_assoc, List.cons_append, List.nil_append]
 · (refine exEEAAAAA (I) fun n done i1 i2 i3 i4 i5 i6 => ?_; clear I)
   refine WS.weak (m' := [("chunks", .ref lc), ("chunk", .int n)]) (Sub.cons i1 (Sub.cons i2 Sub.nil)) ?_
   k_extra "wg"
   simp only [chunksM_n, chunksM_c, List.append_nil] at i5
   refine h lc _ hlc ?_ ?_
   · rw [AHeap.put_ne _ _ ne.symm, i3, i5]
   · intro a o q _
     by_cases z : a = lg
     · subst z; rw [AHeap.put_self]; rw [hg] at q; exact q
     · exact (AHeap.put_ne _ _ z).trans (i6 a o q z)
end
noncomputable def Goal.terms : Goal → List Tm
 | .call _ as => as
 | .builtin _ as => as
 | .unify l r => [l, r]
 | _ => []
theorem Goalterms_c : ∀ f as, Goal.terms (.call f as) = as := fun _ _ => rfl
theorem Goalterms_b : ∀ f as, Goal.terms (.builtin f as) = as := fun _ _ => rfl
theorem Goalterms_u : ∀ l r, Goal.terms (.unify l r) = [l, r] := fun _ _ => rfl
theorem Goalterms_t : Goal.terms .cut = [] := rfl
theorem Goalterms_l : ∀ k, Goal.terms (.level k) = [] := fun _ => rfl
theorem Goalterms_m : ∀ k, Goal.terms (.mark k) = [] := fun _ => rfl
theorem Goalterms_x : ∀ k, Goal.terms (.cutto k) = [] := fun _ => rfl
noncomputable def Goal.special : Goal → Int
 | .level k => vi k
 | .mark k => vi k
 | .cutto k => vi k
 | _ => -1
section
variable {D : Nat} {H : AHeap}
end
theorem kw50 : True := by
 k_with "wi" => (first | ((refine WI.tup (by decide) rfl (Nat.le_of_ble_eq_true rfl) ?_)) | fail)
 trivial
section
variable {D : Nat} {H : AHeap}
theorem goalTerms_ok (g : Goal) {Q : AQ} (h : Q (.tup (g.terms.map Tm.av)) H) : WC e.G (D + 1) (.ref 454) [g.av] H Q := by
 refine WC.enterF (ns := ["goal"]) (by kernel_rfl) (by kernel_rfl) rfl (bind1 (by intro x; kernel_rfl)) ?_
 k_extra "norm_m"
 cases g <;> k_extra "wg" <;> exact h
theorem goalSpecial_ok (g : Goal) {Q : AQ} (h : Q (.int g.special) H) : WC e.G (D + 1) (.ref 461) [g.av] H Q := by
 refine WC.enterF (ns := ["goal"]) (by kernel_rfl) (by kernel_rfl) rfl (bind1 (by intro x; kernel_rfl)) ?_
 k_extra "norm_m"
 cases g <;> k_extra "wg" <;> first | exact h | exact ⟨_, rfl, h⟩
end
theorem firsts_congr : ∀ (l s s' : List V8), (∀ x, x ∈ s ↔ x ∈ s') → firsts s l = firsts s' l := by
 intro zz
 induction zz with
 | nil =>
   intro _ _ _
   exact rfl
 | cons k r ih =>
   intro s s' h
   simp only [firsts_c]
   by_cases q : k ∈ s
   · rw [if_pos q, if_pos ((h k).mp q), ih s s' h]
   · rw [if_neg q, if_neg (fun z => q ((h k).mpr z)), ih (k :: s) (k :: s') (fun x => by simp [h x])]
theorem firsts_snoc (k : V8) (s l : List V8) : firsts (k :: s) l = firsts (s ++ [k]) l := firsts_congr l _ _ (fun x => by simp [or_comm])
theorem occs_args (t : Tm) (h : t.isS = true) : t.args.flatMap Tm.occs = t.occs := by cases t <;> simp [TmisS_v, TmisS_a, TmisS_i, TmisS_s1, TmisS_s2, Tmargs_v, Tmargs_a, Tmargs_i, Tmargs_s1, Tmargs_s2, Tmoccs_v, Tmoccs_a, Tmoccs_i, Tmoccs_s1, Tmoccs_s2] at h ⊢
where putD8 (k : V8) (n : Int) : List (V8 × Int) → List (V8 × Int)
 | [] => [(k, n)]
 | (j, m) :: r => if j = k then (j, n) :: r else (j, m) :: putD8 k n r
theorem putD_lookup {κ : Type} [DecidableEq κ] (k j : κ) (a : AV) : ∀ (es : List (κ × AV)), (putD k a es).lookup j = if j = k then some a else es.lookup j := by
 intro zz
 induction zz with
 | nil =>
   rw [putD_n, List.lookup_cons]
   by_cases h : j = k
   · simp [h]
   · have : (j == k) = false := by simpa using h
     simp [this, h]
 | cons qx r ih =>
   obtain ⟨q, b⟩ := qx
   rw [putD_c]
   by_cases z : q = k
   · subst z
     rw [if_pos rfl, List.lookup_cons, List.lookup_cons]
     by_cases h : j = q
     · simp [h]
     · have : (j == q) = false := by simpa using h
       simp [this, h]
   · rw [if_neg z, List.lookup_cons, List.lookup_cons, ih]
     by_cases h : j = q
     · subst h; simp [z]
     · have : (j == q) = false := by simpa using h
       simp [this]
theorem putD_length {κ : Type} [DecidableEq κ] (k : κ) (a : AV) : ∀ (es : List (κ × AV)), (putD k a es).length ≤ es.length + 1 := by
 intro zz
 induction zz with
 | nil =>
   exact Nat.le_refl _
 | cons qx r ih =>
   obtain ⟨q, b⟩ := qx
   rw [putD_c]
   by_cases z : q = k
   · rw [if_pos z]; exact Nat.le_succ _
   · rw [if_neg z]; exact Nat.succ_le_succ ih
theorem brev : nsIn e.G.K mainGlobals ("reversed" : Str) = some none := by kernel_rfl
theorem k140n : nsIn e.G.K mainGlobals ("variables_of" : Str) = some (some (.ref 140)) := by kernel_rfl
theorem k140 : keepIn e.G.K (.ref 140) = true := by kernel_rfl
theorem kw51 : True := by
 k_with "wf" => (first | (with_reducible first | exact k140n | exact k140) | fail)
 trivial
theorem tsz_append : ∀ (a b : List Tm), tsz (a ++ b) = tsz a + tsz b := by
 intro zz
 induction zz with
 | nil =>
   intro b
   simp [tsz_n, tsz_c]
 | cons t a ih =>
   intro b
   simp only [List.cons_append, tsz_n, tsz_c, ih b]; lia
theorem tsz_len : ∀ (a : List Tm), a.length ≤ tsz a := by
 intro zz
 induction zz with
 | nil =>
   exact Nat.le_refl _
 | cons t a ih =>
   have := ih; have := size_pos t
   simp only [List.length_cons, tsz_n, tsz_c]; lia
theorem Tm.cases3 (t : Tm) : (∃ k, t = .v k) ∨ t.isS = true ∨ ∃ n, t = .a n ∨ t = .i n := by cases t <;> simp [TmisS_v, TmisS_a, TmisS_i, TmisS_s1, TmisS_s2]
section
variable {G : Gl} {D : Nat} {H : AHeap}
theorem gXR {x : Str} {e : Expr} {p1 p2 p3 p4 p5 p6 : Pos} {cs : Scope} {cl : List (Str × Addr)} {m : Loc} {F : Fl → Loc → AHeap → Prop} (h : W1 G D cs cl (.Expr (.Call (.Attribute (.Name x p1) ("extend" : Str) p2) [.Call (.Name ("reversed" : Str) p3) [e] [] p4] [] p5) p6) m H F) : W1 G D cs cl (.Expr (.Call (.Attribute (.Name x p1) ("extend" : Str) p2) [.Call (.Name ("reversed" : Str) p3) [e] [] p4] [] p5) p6) m H F := h
theorem WCmp.notInDictI {l : Addr} {es : List (Int × AV)} {i : Int} {Q : Bool → AHeap → Prop} (hl : H l = some (.idict es)) (h : Q (!(es.lookup i).isSome) H) : WCmp G D .NotIn (.int i) (.ref l) H Q := WCmp.notInDict hl rfl rfl h
end
theorem kw52 : True := by
 k_with "hp" => (first | (focus ((repeat (first | with_reducible assumption | with_reducible exact AHeap.put_self _ _ _ | refine (AHeap.put_ne _ _ (by (first | assumption | exact Ne.symm (by assumption)))).trans ?_ | exact AHeap.put_self _ _ _)); done)) | fail)
 k_with "hfr" => (first | (k_extra "hp") | fail)
 k_with "wq" => (first | ((focus (refine' WCmp.notInDictI ?_ ?_; rotate_right 2; (· k_extra "hp")))) | fail)
 k_with "wz" => (first | (((with_reducible refine gXR ?_); (focus (refine' W1.extRev brev rfl ⟨_, ?_⟩ ?_; rotate_right 2; (· k_extra "hp"))))) | fail)
 trivial
theorem isV_of_isS {t : Tm} (h : t.isS = true) : t.isV = false := by cases t <;> first | rfl | cases h
section
variable {D : Nat} {H : AHeap}
theorem lookK (k : V8) : ∀ (res : List V8), ((res.map fun k => (vi k, AV.bool true)).lookup (vi k)).isSome = decide (k ∈ res) := by
 intro zz
 induction zz with
 | nil =>
   simp
 | cons j r ih =>
   rw [List.map_cons, List.lookup_cons]
   by_cases h : k = j
   · subst h; simp
   · have : (vi k == vi j) = false := by simpa using fun z => h (vi_inj z)
     simp only [this, ih, List.mem_cons, h, false_or]
theorem putK (k : V8) : ∀ (res : List V8), k ∉ res → putD (vi k) (AV.bool true) (res.map fun k => (vi k, AV.bool true)) = (res ++ [k]).map fun k => (vi k, AV.bool true) := fun res h => by
 rw [putD_keys]
 · simp
 · intro z
   rw [List.map_map] at z
   (refine exEA (List.mem_map.mp z) fun j hj e => ?_)
   exact h (vi_inj e ▸ hj)
structure VarI (t : Tm) (H : AHeap) (ls lr lt : Addr) (n : Nat) (m : Loc) (H' : AHeap) : Prop where
 go : ∃ (rest : List Tm) (res : List V8), H' lt = some (.list (rest.reverse.map Tm.av)) ∧ H' ls = some (.idict (res.map fun k => (vi k, .bool true))) ∧ H' lr = some (.list (res.map fun k => .int (vi k))) ∧ tsz rest ≤ n ∧ res.length + n ≤ t.size ∧ res ++ firsts res (rest.flatMap Tm.occs) = t.vars
 s : m.lookup ("seen" : Str) = some (.ref ls)
 r : m.lookup ("result" : Str) = some (.ref lr)
 t : m.lookup ("todo" : Str) = some (.ref lt)
 fr : ∀ a o, H a = some o → H' a = some o
theorem varsOf_ok (t : Tm) (hz : t.size ≤ 100000) {l0 : Addr} (hl0 : H l0 = some (.list [t.av])) {Q : AQ} (h : ∀ l H', H l = none → H' l = some (.list (t.vars.map fun k => .int (vi k))) → Fram [] H H' → Q (.ref l) H') : WC e.G (D + 1) (.ref 140) [.ref l0] H Q := by
 refine WC.enterF (ns := ["terms"]) (by kernel_rfl) (by kernel_rfl) rfl (bind1 (by intro x; kernel_rfl)) ?_
 k_extra "norm_m"
 refine WS.cons (W1.assign (WE.dict0I fun ls hs => ?_))
 refine WS.cons (W1.assign (WE.list fun lr hr => ?_))
 have n1 : lr ≠ ls := fun z => by subst z; simp at hr
 have n2 : l0 ≠ ls := fun z => by subst z; rw [hs] at hl0; cases hl0
 have n3 : l0 ≠ lr := fun z => by subst z; rw [AHeap.put_ne _ _ n2, hl0] at hr; cases hr
 refine WS.cons (W1.assign (WE.listRev brev blist (WE.name rfl ⟨l0, [t.av], rfl, by k_extra "hp", Nat.le_of_ble_eq_true rfl, fun lt ht => ?_⟩)))
 have n4 : lt ≠ ls := fun z => by subst z; simp [AHeap.put, n1.symm] at ht
 have n5 : lt ≠ lr := fun z => by subst z; simp at ht
 have n6 : l0 ≠ lt := fun z => by subst z; simp [AHeap.put, n2, n3, hl0] at ht
 have f1 : H ls = none := hs
 have f2 : H lr = none := by rw [AHeap.put_ne _ _ n1] at hr; exact hr
 have f3 : H lt = none := by rw [AHeap.put_ne _ _ n5, AHeap.put_ne _ _ n4] at ht; exact ht
 have out : ∀ {a : Addr} {o : AO}, H a = some o → a ≠ ls ∧ a ≠ lr ∧ a ≠ lt := fun q => ⟨fun z => (by rw [z, f1] at q; cases q), fun z => (by rw [z, f2] at q; cases q), fun z => (by rw [z, f3] at q; cases q)⟩
 refine WS.cons (W1.while ⟨t.size + 1, WhileN.rule (VarI t H ls lr lt) ?_ t.size ?_⟩)
 · rintro n m1 H1 ⟨⟨rest, res, h1, h2, h3, hn, hr, hv⟩, i1, i2, i3, fr⟩
   have hl := tsz_len rest
   refine WT.weak (m' := [("seen", .ref ls), ("result", .ref lr), ("todo", .ref lt)]) (Sub.cons i1 (Sub.cons i2 (Sub.cons i3 Sub.nil))) ?_
   refine WT.val (WE.name rfl (WTr.list h1 rfl (by simp; lia) ?_))
   cases rest with
   | nil =>
     refine WS.weak (m' := [("result", .ref lr)]) (Sub.cons i2 Sub.nil) ?_
     k_extra "wg"
     refine h lr H1 f2 ?_ (fun a o q _ => fr a o q)
     rw [h3, ← hv]
     simp [firsts_n, firsts_c]
   | cons u rest =>
     have su := size_pos u
     simp only [tsz_n, tsz_c] at hn hl
     (refine exE ((⟨n - 1, by lia⟩ : ∃ k, n = k + 1)) fun n zq0 => ?_; rcases zq0 with rfl)
     rw [show decide ((List.map Tm.av (u :: rest).reverse).length ≠ 0) = true from by simp]
     refine ⟨n, rfl, ?_⟩
     refine WS.weak (m' := [("seen", .ref ls), ("result", .ref lr), ("todo", .ref lt)]) (Sub.cons i1 (Sub.cons i2 (Sub.cons i3 Sub.nil))) ?_
     rw [List.reverse_cons, List.map_append, List.map_cons, List.map_nil] at h1
     k_extra "wg"
     refine WB.pop h1 (by simp only [List.length_cons, List.length_map, List.length_reverse] at *; lia) ?_
     have g1 : H1.put lt (.list (rest.reverse.map Tm.av)) lt = some (.list (rest.reverse.map Tm.av)) := AHeap.put_self _ _ _
     rcases u.cases3 with ⟨k, rfl⟩ | hs | ⟨k, rfl | rfl⟩
     · k_extra "wg"
       rw [lookK]
       by_cases hk : k ∈ res
       · rw [show (!decide (k ∈ res)) = false from by simp [hk]]
         k_extra "wg"
         exact ⟨⟨rest, res, g1, by k_extra "hp", by k_extra "hp", by simp only [Tmsize_v, Tmsize_a, Tmsize_i, Tmsize_s1, Tmsize_s2] at hn; lia, by (exact Nat.le_of_lt (by assumption)), by simpa [Tm.occs, firsts, hk] using hv⟩, rfl, rfl, rfl, fun a o q => (AHeap.put_ne _ _ (out q).2.2).trans (fr a o q)⟩
       · rw [show (!decide (k ∈ res)) = true from by simp [hk]]
         refine WS.cons (W1.assignItem ?_)
         k_extra "wg"
         refine WSt.idict (es := res.map fun k => (vi k, .bool true)) (by k_extra "hp") (by simp; lia) ?_
         k_extra "wg"
         refine WB.append (xs := res.map fun k => .int (vi k)) (by k_extra "hp") (by simp; lia) ?_
         k_extra "wg"
         refine ⟨⟨rest, res ++ [k], by k_extra "hp", ?_, ?_, by simp only [Tmsize_v, Tmsize_a, Tmsize_i, Tmsize_s1, Tmsize_s2] at hn; lia, by simp; lia, ?_⟩, rfl, rfl, rfl, fun a o q => ?_⟩
         · rw [← putK k res hk]; k_extra "hp"
         · rw [List.map_append, List.map_cons, List.map_nil]; k_extra "hp"
         · rw [← firsts_snoc, List.append_assoc]
           simpa [Tm.occs, firsts, hk] using hv
         · (refine exAA (out q) fun a1 a2 a3 => ?_)
           have := fr a o q
           k_extra "hp"
     · have hV := isV_of_isS hs
       k_extra "wg"
       have a2 : u.args.length ≤ 2 := by cases u <;> (first | exact Nat.le_of_ble_eq_true rfl | exact Nat.zero_le _ | simp [Tmargs_v, Tmargs_a, Tmargs_i, Tmargs_s1, Tmargs_s2])
       refine ⟨u.args.map Tm.av, rest.reverse.map Tm.av, rfl, by k_extra "hp", by simp only [List.length_cons, List.length_map, List.length_reverse] at *; lia, ?_⟩
       k_extra "wg"
       refine ⟨⟨u.args ++ rest, res, ?_, by k_extra "hp", by k_extra "hp", ?_, by lia, ?_⟩, rfl, rfl, rfl, fun a o q => ?_⟩
       · rw [List.reverse_append, List.map_append, ← List.map_reverse]; k_extra "hp"
       · rw [tsz_append]; have := tsz_args u hs; lia
       · rw [List.flatMap_append, occs_args u hs]; simpa using hv
       · (refine exAA (out q) fun a1 a2 a3 => ?_)
         have := fr a o q
         k_extra "hp"
     · k_extra "wg"
       exact ⟨⟨rest, res, g1, by k_extra "hp", by k_extra "hp", by simp only [Tmsize_v, Tmsize_a, Tmsize_i, Tmsize_s1, Tmsize_s2] at hn; lia, by lia, by simpa [Tm.occs] using hv⟩, rfl, rfl, rfl, fun a o q => (AHeap.put_ne _ _ (out q).2.2).trans (fr a o q)⟩
     · k_extra "wg"
       exact ⟨⟨rest, res, g1, by k_extra "hp", by k_extra "hp", by simp only [Tmsize_v, Tmsize_a, Tmsize_i, Tmsize_s1, Tmsize_s2] at hn; lia, by lia, by simpa [Tm.occs] using hv⟩, rfl, rfl, rfl, fun a o q => (AHeap.put_ne _ _ (out q).2.2).trans (fr a o q)⟩
 · refine ⟨⟨[t], [], by k_extra "hp", by k_extra "hp", by k_extra "hp", by simp [tsz_n, tsz_c], by simp, by simp [Tm.vars]⟩, rfl, rfl, rfl, fun a o q => ?_⟩
   (refine exAA (out q) fun a1 a2 a3 => ?_)
   k_extra "hp"
end
section
variable {D : Nat} {H : AHeap}
theorem vars_ok (t : Tm) (hz : t.size ≤ 100000) {Q : AQ} (h : ∀ l H', H l = none → H' l = some (.list (t.vars.map fun k => .int (vi k))) → Fram [] H H' → Q (.ref l) H') : WC e.G (D + 2) (.ref 133) [t.av] H Q := by
 refine WC.enterF (ns := ["term"]) (by kernel_rfl) (by kernel_rfl) rfl (bind1 (by intro x; kernel_rfl)) ?_
 k_extra "norm_m"
 k_extra "wg"
 intro l0 hl0
 refine varsOf_ok t hz (AHeap.put_self _ _ _) fun l H' hl hv F => ?_
 k_extra "wg"
 have n1 : l ≠ l0 := fun z => by subst z; simp at hl
 exact h l H' ((AHeap.put_ne _ _ n1).symm.trans hl) hv (fun a o q _ => F a o ((AHeap.put_ne _ _ (fun z => by rw [z, hl0] at q; (exact noneE q))).trans q) (by (assumption)))
structure OccI (t : Tm) (H : AHeap) (lc lt : Addr) (n : Nat) (m : Loc) (H' : AHeap) : Prop where
 go : ∃ (rest : List Tm) (done : List V8) (es : List (Int × AV)), H' lt = some (.list (rest.reverse.map Tm.av)) ∧ H' lc = some (.idict es) ∧ (∀ k, es.lookup (vi k) = if k ∈ done then some (.int (done.count k)) else none) ∧ es.length ≤ done.length ∧ tsz rest ≤ n ∧ done.length + n ≤ t.size ∧ done ++ rest.flatMap Tm.occs = t.occs
 s : m.lookup ("counts" : Str) = some (.ref lc)
 t : m.lookup ("todo" : Str) = some (.ref lt)
 fr : ∀ a o, H a = some o → H' a = some o
theorem WB.getI' {G : Gl} {D : Nat} {H : AHeap} {l : Addr} {es : List (Int × AV)} {i : Int} {d : AV} {Q : AQ} (hl : H l = some (.idict es)) (h : Q ((es.lookup i).getD d) H) : WB G D (.builtin "dict.get") [.ref l, .int i, d] H Q := WB.getI hl rfl rfl h
theorem occs_ok (t : Tm) (hz : t.size ≤ 100000) {Q : AQ} (h : ∀ l H' es, H l = none → H' l = some (.idict es) → (∀ k, k ∈ t.occs → es.lookup (vi k) = some (.int (t.occs.count k))) → Fram [] H H' → Q (.ref l) H') : WC e.G (D + 1) (.ref 147) [t.av] H Q := by
 refine WC.enterF (ns := ["term"]) (by kernel_rfl) (by kernel_rfl) rfl (bind1 (by intro x; kernel_rfl)) ?_
 k_extra "norm_m"
 refine WS.cons (W1.assign (WE.dict0I fun lc hc => ?_))
 k_extra "wg"
 intro lt ht
 k_extra "wg"
 have n1 : lt ≠ lc := fun z => by subst z; simp at ht
 have f1 : H lc = none := hc
 have f3 : H lt = none := by rw [AHeap.put_ne _ _ n1] at ht; exact ht
 have out : ∀ {a : Addr} {o : AO}, H a = some o → a ≠ lc ∧ a ≠ lt := fun q => ⟨fun z => (by rw [z, f1] at q; (exact noneE q)), fun z => (by rw [z, f3] at q; (exact noneE q))⟩
 refine W1.while ⟨t.size + 1, WhileN.rule (OccI t H lc lt) ?_ t.size ?_⟩
 · rintro n m1 H1 ⟨⟨rest, dn, es, h1, h2, h3, h4, hn, hr, hv⟩, i1, i2, fr⟩
   have hl := tsz_len rest
   refine WT.weak (m' := [("counts", .ref lc), ("todo", .ref lt)]) (Sub.cons i1 (Sub.cons i2 Sub.nil)) ?_
   refine WT.val (WE.name rfl (WTr.list h1 rfl (by simp; lia) ?_))
   cases rest with
   | nil =>
     refine WS.weak (m' := [("counts", .ref lc)]) (Sub.cons i1 Sub.nil) ?_
     k_extra "wg"
     refine h lc H1 es f1 h2 (fun k hk => ?_) (fun a o q _ => fr a o q)
     have : dn = t.occs := by simpa using hv
     rw [h3 k, this, if_pos hk]
   | cons u rest =>
     have su := size_pos u
     simp only [tsz_n, tsz_c] at hn hl
     (refine exE ((⟨n - 1, by lia⟩ : ∃ k, n = k + 1)) fun n zq0 => ?_; rcases zq0 with rfl)
     rw [show decide ((List.map Tm.av (u :: rest).reverse).length ≠ 0) = true from by simp]
     refine ⟨n, rfl, ?_⟩
     refine WS.weak (m' := [("counts", .ref lc), ("todo", .ref lt)]) (Sub.cons i1 (Sub.cons i2 Sub.nil)) ?_
     rw [List.reverse_cons, List.map_append, List.map_cons, List.map_nil] at h1
     k_extra "wg"
     refine WB.pop h1 (by simp only [List.length_cons, List.length_map, List.length_reverse] at *; lia) ?_
     have g1 : H1.put lt (.list (rest.reverse.map Tm.av)) lt = some (.list (rest.reverse.map Tm.av)) := AHeap.put_self _ _ _
     rcases u.cases3 with ⟨k, rfl⟩ | hs | ⟨k, rfl | rfl⟩
     · refine WS.cons (W1.ite ?_)
       k_extra "wg"
       k_extra "wg"
       refine WB.getI' (es := es) (by k_extra "hp") ?_
       rw [h3 k, show (if k ∈ dn then some (AV.int (dn.count k)) else none).getD (.int 0) = .int (dn.count k) from by
         by_cases q : k ∈ dn
         · rw [if_pos q]; rfl
         · rw [if_neg q, List.count_eq_zero_of_not_mem q]; rfl]
       k_extra "wg"
       refine WSt.idict (es := es) (by k_extra "hp") (by lia) ?_
       k_extra "wg"
       refine ⟨⟨rest, dn ++ [k], _, by k_extra "hp", AHeap.put_self _ _ _, fun j => ?_, ?_, by simp only [Tmsize_v, Tmsize_a, Tmsize_i, Tmsize_s1, Tmsize_s2] at hn; lia, by simp; lia, by simpa [Tm.occs] using hv⟩, rfl, rfl, fun a o q => ?_⟩
       · rw [putD_lookup, h3 j]
         by_cases q : j = k
         · subst q
           simp
         · have q' : ¬ vi j = vi k := fun z => q (vi_inj z)
           simp [q, q', List.count_append, List.count_cons, Ne.symm q]
       · have := putD_length (vi k) (.int ((dn.count k : Int) + 1)) es
         simp; lia
       · (refine exA (out q) fun a1 a2 => ?_)
         have := fr a o q
         k_extra "hp"
     · have hV := isV_of_isS hs
       k_extra "wg"
       have a2 : u.args.length ≤ 2 := by cases u <;> (first | exact Nat.le_of_ble_eq_true rfl | exact Nat.zero_le _ | simp [Tmargs_v, Tmargs_a, Tmargs_i, Tmargs_s1, Tmargs_s2])
       refine ⟨u.args.map Tm.av, rest.reverse.map Tm.av, rfl, by k_extra "hp", by simp only [List.length_cons, List.length_map, List.length_reverse] at *; lia, ?_⟩
       k_extra "wg"
       refine ⟨⟨u.args ++ rest, dn, es, ?_, by k_extra "hp", h3, h4, ?_, by lia, ?_⟩, rfl, rfl, fun a o q => ?_⟩
       · rw [List.reverse_append, List.map_append, ← List.map_reverse]; k_extra "hp"
       · rw [tsz_append]; have := tsz_args u hs; lia
       · rw [List.flatMap_append, occs_args u hs]; simpa using hv
       · (refine exA (out q) fun a1 a2 => ?_)
         have := fr a o q
         k_extra "hp"
     · k_extra "wg"
       exact ⟨⟨rest, dn, es, g1, by k_extra "hp", h3, h4, by simp only [Tmsize_v, Tmsize_a, Tmsize_i, Tmsize_s1, Tmsize_s2] at hn; lia, by lia, by simpa [Tm.occs] using hv⟩, rfl, rfl, fun a o q => (AHeap.put_ne _ _ (out q).2).trans (fr a o q)⟩
     · k_extra "wg"
       exact ⟨⟨rest, dn, es, g1, by k_extra "hp", h3, h4, by simp only [Tmsize_v, Tmsize_a, Tmsize_i, Tmsize_s1, Tmsize_s2] at hn; lia, by lia, by simpa [Tm.occs] using hv⟩, rfl, rfl, fun a o q => (AHeap.put_ne _ _ (out q).2).trans (fr a o q)⟩
 · refine ⟨⟨[t], [], [], by k_extra "hp", by k_extra "hp", fun k => by (rfl), by (exact Nat.zero_le _), by simp [tsz_n, tsz_c], by simp, by simp⟩, rfl, rfl, fun a o q => ?_⟩
   (refine exA (out q) fun a1 a3 => ?_)
   k_extra "hp"
end
theorem mem_firsts {k : V8} : ∀ (l s : List V8), k ∈ firsts s l ↔ k ∈ l ∧ k ∉ s := by
 intro zz
 induction zz with
 | nil =>
   intro s
   simp [firsts_n, firsts_c]
 | cons j r ih =>
   intro s
   simp only [firsts_c]
   by_cases q : j ∈ s
   · rw [if_pos q, ih s]
     constructor
     · (intro zq0; refine exA (zq0) fun a b => ?_; clear zq0); exact ⟨.tail _ a, b⟩
     · (intro zq0; refine exA (zq0) fun a b => ?_; clear zq0)
       rcases List.mem_cons.mp a with rfl | a
       · exact absurd q b
       · exact ⟨a, b⟩
   · rw [if_neg q, List.mem_cons, ih (j :: s)]
     constructor
     · rintro (rfl | ⟨a, b⟩)
       · exact ⟨.head _, q⟩
       · exact ⟨.tail _ a, fun z => b (.tail _ z)⟩
     · (intro zq0; refine exA (zq0) fun a b => ?_; clear zq0)
       by_cases z : k = j
       · exact .inl z
       · rcases List.mem_cons.mp a with y | a
         · exact .inl y
         · exact .inr ⟨a, fun y => by rcases List.mem_cons.mp y with y | y; exact z y; exact b y⟩
theorem mem_vars {k : V8} (t : Tm) : k ∈ t.vars ↔ k ∈ t.occs := by unfold Tm.vars; rw [mem_firsts]; simp
theorem any_vars (k : V8) (t : Tm) : (t.vars.map vi).any (· == vi k) = decide (k ∈ t.occs) := by
 rw [Bool.eq_iff_iff, List.any_eq_true, decide_eq_true_iff, ← mem_vars]
 constructor
 · (intro zq0; refine exEA (zq0) fun x hx e => ?_; clear zq0)
   (refine exEA (List.mem_map.mp hx) fun j hj zq0 => ?_; rcases zq0 with rfl)
   have : vi j = vi k := by simpa using e
   exact vi_inj this ▸ hj
 · intro h
   exact ⟨vi k, List.mem_map.mpr ⟨k, h, rfl⟩, by (exact if_pos rfl)⟩
section
variable {D : Nat} {c : Adr} {B : AHeap} {P : PlanM} {st : CS} {b : Nat} {H : AHeap} {cs : Scope} {cl : List (Str × Addr)} {m : Loc}
theorem m325 : methIn e.G.K 417 ("unify_variables" : Str) 325 = true := by kernel_rfl
theorem k133n : nsIn e.G.K mainGlobals ("variables" : Str) = some (some (.ref 133)) := by kernel_rfl
theorem k133 : keepIn e.G.K (.ref 133) = true := by kernel_rfl
end
theorem kw56 : True := by
 k_with "wf" => (first | (with_reducible first | exact m325 | exact k133n | exact k133) | fail)
 trivial
section
variable {D : Nat} {c : Adr} {B : AHeap} {P : PlanM} {st : CS} {b : Nat} {H : AHeap} {cs : Scope} {cl : List (Str × Addr)} {m : Loc}
theorem CMAt.grow (C : CMAt c B P st b H) {H' : AHeap} (F : Fram [] H H') : CMAt c B P st b H' := C.fram F (fun _ h => nomatch h)
theorem varsC_ok (C : CMAt c B P st b H) (t : Tm) (hz : t.size ≤ 100000) {Q : AQ} (h : ∀ l H', H' l = some (.list ((t.vars.map vi).map AV.int)) → CMAt c B P st b H' → Fram c.mods H H' → Q (.ref l) H') : WC e.G (D + 2) (.ref 133) [t.av] H Q :=
 vars_ok t hz fun l H' _ h2 F => h l H' (by rw [h2, List.map_map]; rfl) (C.grow F) (F.sub (fun _ h => nomatch h))
theorem inVars (t : Tm) (k : V8) {G : Gl} {l : Addr} {Q : Bool → AHeap → Prop} (hl : H l = some (.list ((t.vars.map vi).map AV.int))) (h1 : k ∈ t.occs → Q true H) (h2 : k ∉ t.occs → Q false H) : WCmp G D .In (.int (vi k)) (.ref l) H Q :=
 WCmp.inList hl (by
   rw [any_vars]
   by_cases q : k ∈ t.occs
   · rw [decide_eq_true q]; exact h1 q
   · rw [decide_eq_false q]; exact h2 q)
end
theorem kw57 : True := by
 k_with "wq" => (first | (((focus (refine' inVars _ _ ?_ ?_ ?_; rotate_right 3; (· k_extra "as"))) <;> intro _)) | fail)
 trivial
section
variable {D : Nat} {c : Adr} {B : AHeap} {P : PlanM} {st : CS} {b : Nat} {H : AHeap} {cs : Scope} {cl : List (Str × Addr)} {m : Loc}
end
theorem kw58 : True := by
 k_with "wc" => (first | (first | (focus (refine' varsC_ok ?_ _ ?_ ?_; rotate_right 3; (· k_extra "as"); (· k_extra "as"); intro _ _ _ _ _)) | (focus (refine' unifyVars_ok ?_ _ _ ?_ ?_ ?_; rotate_right 4; (· k_extra "as"); (· k_extra "as"); (· k_extra "as"); intro _ _ _))) | fail)
 trivial
section
variable {D : Nat} {c : Adr} {B : AHeap} {P : PlanM} {st : CS} {b : Nat} {H : AHeap} {cs : Scope} {cl : List (Str × Addr)} {m : Loc}
theorem unifyWith_ns (k : V8) (t : Tm) (st : CS) (hv : t.isV = false) : unifyWith P k t st = (
   let st1 := if !st.seen k && decide (k ∈ t.occs) then introduce P k st else st
   if st1.seen k then
     let r := regOf P k st1
     if t.isS then matchT P t (.t r.1) r.2 else r.2.emit "get_constant" [t.cell, .t r.1]
   else if P.void k then (if t.isS then build P t (.t st1.next) st1.tick else st1)
   else
     let r := freshReg P k st1
     settle P k r.1 (if t.isS then build P t (.t r.1) r.2 else r.2.emit "put_constant" [t.cell, .t r.1])) := by
 cases t <;> first | rfl | (exact trueE hv)
theorem match2_ok {n : Nat} (t : Tm) (hs : t.isS = true) (hd : inDom P t) (hz : t.size ≤ 400) (r : Int) (C : CMAt c B P st (b + 12 * t.size + n) H) {Q : AQ}
   (h : ∀ H', CMAt c B P (matchT P t (.t r) st) b H' → Fram c.mods H H' → Q .none H') : WC e.G (D + 5) (.ref 231) [.ref c.self, t.av, (Part.t r).av] H Q := match_ok t hs hd (by (exact Nat.le_trans (by assumption) (Nat.le_of_ble_eq_true rfl))) (.t r) (C.weak (by (simp +arith only; done))) h
theorem build2_ok {n : Nat} (t : Tm) (hs : t.isS = true) (hd : inDom P t) (hz : t.size ≤ 400) (r : Int) (C : CMAt c B P st (b + 12 * t.size + n) H) {Q : AQ}
   (h : ∀ H', CMAt c B P (build P t (.t r) st) (b + n) H' → Fram c.mods H H' → Q .none H') : WC e.G (D + 5) (.ref 264) [.ref c.self, t.av, (Part.t r).av] H Q := build_ok t hs hd hz (.t r) (C.weak (by (simp +arith only; done))) h
end
theorem kw59 : True := by
 k_with "wc" => (first | (first | (focus (refine' match2_ok _ ?_ ?_ ?_ _ ?_ ?_; rotate_right 5; (· k_extra "as"); (· k_extra "as"); (· k_extra "as"); (· k_extra "as"); intro _ _ _)) | (focus (refine' build2_ok _ ?_ ?_ ?_ _ ?_ ?_; rotate_right 5; (· k_extra "as"); (· k_extra "as"); (· k_extra "as"); (· k_extra "as"); intro _ _ _))) | fail)
 trivial
section
variable {D : Nat} {c : Adr} {B : AHeap} {P : PlanM} {st : CS} {b : Nat} {H : AHeap} {cs : Scope} {cl : List (Str × Addr)} {m : Loc}
theorem uw_ok (k : V8) (t : Tm) (hk : P.dom k = true) (hd : inDom P t) (hz : t.size ≤ 400) (C : CMAt c B P st (b + 12 * t.size + 4) H) {Q : AQ}
   (h : ∀ H', CMAt c B P (unifyWith P k t st) b H' → Fram c.mods H H' → Q .none H') : WC e.G (D + 6) (.ref 318) [.ref c.self, .int (vi k), t.av] H Q := by
 refine WC.enterF (ns := ["self", "k", "term"]) (by kernel_rfl) (by kernel_rfl) rfl (bind3 (by intro x y z; kernel_rfl)) ?_
 k_extra "norm_m"
 by_cases hV : t.isV = true
 · obtain ⟨j, rfl⟩ := isV_is hV
   have hj := inDom_v hd
   replace C : CMAt c B P st (b + 12 + 4) H := C
   k_extra "wg"
   exact h _ (CMAt.weak (st := unifyVars P k j st) (by k_extra "as") (by lia)) (by k_extra "fr")
 · replace hV := eq_false_of_ne_true hV
   have hz2 : t.size ≤ 100000 := Nat.le_trans hz (Nat.le_of_ble_eq_true rfl)
   rw [unifyWith_ns k t st hV] at h
   k_extra "wg"
   all_goals first
     | exact absurd ((‹st.seen k = true›).symm.trans ‹st.seen k = false›) (by decide)
     | exact h _ (by simp only [*, ↓reduceIte, Bool.false_eq_true, Bool.not_true, Bool.not_false, Bool.true_and, Bool.false_and, decide_true, decide_false, Bool.and_true, Bool.and_false] <;> exact CMAt.weak (by k_extra "as") (by lia)) (by k_extra "fr")
end
noncomputable def ttAV (x : Tm × Tm) : AV := .tup [x.1.av, x.2.av]
noncomputable def psz : List (Tm × Tm) → Nat
 | [] => 0
 | x :: r => x.1.size + psz r
theorem psz_n : psz [] = 0 := rfl
theorem psz_c : ∀ x r, psz (x :: r) = x.1.size + psz r := fun _ _ => rfl
noncomputable def pbz : List (Tm × Tm) → Nat
 | [] => 0
 | x :: r => 16 * x.1.size + 16 * x.2.size + pbz r
theorem pbz_n : pbz [] = 0 := rfl
theorem pbz_c : ∀ x r, pbz (x :: r) = 16 * x.1.size + 16 * x.2.size + pbz r := fun _ _ => rfl
theorem len_psz : ∀ (a : List (Tm × Tm)), a.length ≤ psz a := by
 intro zz
 induction zz with
 | nil =>
   exact Nat.le_refl _
 | cons x a ih =>
   have := ih; have := size_pos x.1; simp only [List.length_cons, psz_n, psz_c]; lia
noncomputable def Tm.dat : Tm → PyData
 | .a n => .tuple [.str (Str.ofString "a"), .int n]
 | .i n => .tuple [.str (Str.ofString "i"), .int n]
 | _ => .none
noncomputable def Tm.isC (t : Tm) : Bool := !t.isV && !t.isS
theorem dat_DA {H : AHeap} {t : Tm} (h : t.isC = true) : DA H t.dat t.av := by
 cases t <;> first | (cases h; done) | skip
 · exact ⟨_, rfl, _, _, rfl, rfl, _, _, rfl, rfl, rfl⟩
 · exact ⟨_, rfl, _, _, rfl, rfl, _, _, rfl, rfl, rfl⟩
theorem dat_shaped {t : Tm} (h : t.isC = true) : SeqAt.shaped t.dat = true := by
 cases t <;> first | ((first | exact falseE h | cases h); done) | skip
 · simp [Tm.dat, SeqAt.shaped, PyData.canLay0, PyData.canLayAll0, PyData.depth, PyData.depthAll]; decide +kernel
 · simp [Tm.dat, SeqAt.shaped, PyData.canLay0, PyData.canLayAll0, PyData.depth, PyData.depthAll]; decide +kernel
set_option tactic.hygienic true in
theorem dat_eqv {t u : Tm} (h : t.isC = true) (h' : u.isC = true) : PyData.eqv t.dat u.dat = decide (t = u) := by
 cases t <;> first | ((first | exact falseE h | cases h); done) | skip
 all_goals cases u <;> first | ((first | exact falseE h' | cases h'); done) | skip
 · rename_i a b; by_cases q : a = b <;> simp [Tm.dat, PyData.eqv, PyData.eqvAll, q]
 · have : (Str.ofString "a" == Str.ofString "i") = false := by decide +kernel
   (assumption)
 · have : (Str.ofString "i" == Str.ofString "a") = false := by decide +kernel
   (assumption)
 · rename_i a b; by_cases q : a = b <;> simp [Tm.dat, PyData.eqv, PyData.eqvAll, q]
section
variable {G : Gl} {D : Nat} {H : AHeap}
theorem WCmp.neT {t u : Tm} {Q : Bool → AHeap → Prop} (h : t.isC = true) (h' : u.isC = true) (h1 : t ≠ u → Q true H) (h2 : t = u → Q false H) : WCmp G (D + 8) .NotEq t.av u.av H Q :=
 WCmp.neD (dat_DA h) (dat_DA h') (dat_shaped h) (dat_shaped h') (by
   rw [dat_eqv h h']
   by_cases q : t = u
   · rw [decide_eq_true q]; exact h2 q
   · rw [decide_eq_false q]; exact h1 q)
theorem WCmp.neS_is {a b : Str} {x : Bool} {Q : Bool → AHeap → Prop} (e : (a != b) = x) (h : Q x H) : WCmp G D .NotEq (.str a) (.str b) H Q := WCmp.neS (by rw [e]; exact h)
theorem WCmp.neVt {t : Tm} {Q : Bool → AHeap → Prop} {b : Bool} (hs : t.isV = b) (h : Q (!b) H) : WCmp G D .NotEq (.str t.tag) (.str ("v" : Str)) H Q := by
 subst hs
 cases t <;> exact WCmp.neS h
end
theorem uLoop_c (P : PlanM) (n : Nat) (x y : Tm) (ps : List (Tm × Tm)) (st : CS) : uLoop P (n + 1) ((x, y) :: ps) st = match (if (!x.isV && y.isV) = true then y else x) with
   | .v k => uLoop P n ps (unifyWith P k (if (!x.isV && y.isV) = true then x else y) st)
   | one => if (one.isS && (if (!x.isV && y.isV) = true then x else y).isS && decide (one.fn = (if (!x.isV && y.isV) = true then x else y).fn)) = true then uLoop P n (one.args.zip (if (!x.isV && y.isV) = true then x else y).args ++ ps) st
     else if (one.isS || (if (!x.isV && y.isV) = true then x else y).isS || decide (one ≠ (if (!x.isV && y.isV) = true then x else y))) = true then uLoop P n ps (st.emit "fail" []) else uLoop P n ps st := rfl
section
variable {P : PlanM} {n : Nat} {x y : Tm} {k : V8} {ps : List (Tm × Tm)} {st : CS}
theorem uL0 (vx : x.isV = false) (vy : y.isV = false) : uLoop P (n + 1) ((x, y) :: ps) st = if (x.isS && y.isS && decide (x.fn = y.fn)) = true then uLoop P n (x.args.zip y.args ++ ps) st else if (x.isS || y.isS || decide (x ≠ y)) = true then uLoop P n ps (st.emit "fail" []) else uLoop P n ps st := by
 rw [uLoop_c, vy, Bool.and_false]
 cases x <;> first | rfl | exact nomatch vx
theorem uL1 : uLoop P (n + 1) ((.v k, y) :: ps) st = uLoop P n ps (unifyWith P k y st) := rfl
theorem uL2 (h : x.isV = false) : uLoop P (n + 1) ((x, .v k) :: ps) st = uLoop P n ps (unifyWith P k x st) := by
 cases x <;> first | rfl | exact nomatch h
theorem uL3 (hx : x.isS = true) (hy : y.isS = true) (h : x.fn = y.fn) : uLoop P (n + 1) ((x, y) :: ps) st = uLoop P n (x.args.zip y.args ++ ps) st := by
 rw [uL0 (isV_of_isS hx) (isV_of_isS hy), if_pos (by rw [hx, hy, decide_eq_true h]; rfl)]
theorem uL4 (vx : x.isV = false) (vy : y.isV = false) (h : x.isS = true ∧ y.isS = false ∨ x.isS = false ∧ y.isS = true ∨ x.isS = true ∧ y.isS = true ∧ x.fn ≠ y.fn ∨ x.isC = true ∧ y.isC = true ∧ x ≠ y) : uLoop P (n + 1) ((x, y) :: ps) st = uLoop P n ps (st.emit "fail" []) := by
 have c : (x.isS && y.isS && decide (x.fn = y.fn)) = false ∧ (x.isS || y.isS || decide (x ≠ y)) = true := by
   rcases h with ⟨h1, h2⟩ | ⟨h1, h2⟩ | ⟨h1, h2, h3⟩ | ⟨h1, h2, h3⟩
   · rw [h1, h2]; exact ⟨rfl, rfl⟩
   · rw [h1, h2]; exact ⟨rfl, rfl⟩
   · rw [h1, h2, decide_eq_false h3]; exact ⟨rfl, rfl⟩
   · rw [decide_eq_true h3, Bool.or_true]
     unfold Tm.isC at h1
     rw [vx] at h1
     cases q : x.isS with
     | true => rw [q] at h1; exact nomatch h1
     | false => exact ⟨rfl, rfl⟩
 rw [uL0 vx vy, c.1, c.2, if_neg Bool.false_ne_true, if_pos rfl]
theorem uL5 (hx : x.isC = true) : uLoop P (n + 1) ((x, x) :: ps) st = uLoop P n ps st := by
 have h : x.isV = false ∧ x.isS = false := by
   unfold Tm.isC at hx
   cases a : x.isV <;> cases b : x.isS <;> rw [a, b] at hx <;> first | exact ⟨rfl, rfl⟩ | exact nomatch hx
 rw [uL0 h.1 h.1, h.2, if_neg (by simp), if_neg (by simp)]
end
section
variable {D : Nat} {c : Adr} {B : AHeap} {P : PlanM} {st : CS} {b : Nat} {H : AHeap} {cs : Scope} {cl : List (Str × Addr)} {m : Loc}
theorem m318 : methIn e.G.K 417 ("unify_with_variable" : Str) 318 = true := by kernel_rfl
end
theorem kw60 : True := by
 k_with "wf" => (first | (with_reducible exact m318) | fail)
 trivial
section
variable {D : Nat} {c : Adr} {B : AHeap} {P : PlanM} {st : CS} {b : Nat} {H : AHeap} {cs : Scope} {cl : List (Str × Addr)} {m : Loc}
theorem gTup2 {u v : AV} {P : AV → AV → Prop} (h : P u v) : ∃ u' v', AV.tup [u, v] = .tup [u', v'] ∧ P u' v' := ⟨u, v, rfl, h⟩
end
theorem kw61 : True := by
 k_with "wx" => (first | ((refine gTup2 ?_)) | fail)
 trivial
section
variable {D : Nat} {c : Adr} {B : AHeap} {P : PlanM} {st : CS} {b : Nat} {H : AHeap} {cs : Scope} {cl : List (Str × Addr)} {m : Loc}
end
theorem kw62 : True := by
 k_with "wz" => (first | ((refine W1.swap2 ?_)) | fail)
 trivial
section
variable {D : Nat} {c : Adr} {B : AHeap} {P : PlanM} {st : CS} {b : Nat} {H : AHeap} {cs : Scope} {cl : List (Str × Addr)} {m : Loc}
end
theorem kw63 : True := by
 k_with "wq" => (first | (first | (focus (refine WCmp.neS_is (x := true) ?_ ?_; rotate_right 2; (· kernel_rfl!))) | (focus (refine WCmp.neS_is (x := false) ?_ ?_; rotate_right 2; (· kernel_rfl!)))) | fail)
 trivial
section
variable {D : Nat} {c : Adr} {B : AHeap} {P : PlanM} {st : CS} {b : Nat} {H : AHeap} {cs : Scope} {cl : List (Str × Addr)} {m : Loc}
end
theorem kw64 : True := by
 k_with "wq" => (first | ((focus (refine' WCmp.neVt ?_ ?_; rotate_right 2; (· k_extra "as")))) | fail)
 trivial
section
variable {D : Nat} {c : Adr} {B : AHeap} {P : PlanM} {st : CS} {b : Nat} {H : AHeap} {cs : Scope} {cl : List (Str × Addr)} {m : Loc}
theorem uwK_ok {n : Nat} (k : V8) (t : Tm) (hk : P.dom k = true) (hd : inDom P t) (hz : t.size ≤ 400) (C : CMAt c B P st (b + 16 * t.size + n) H) {Q : AQ}
   (h : ∀ H', CMAt c B P (unifyWith P k t st) (b + n) H' → Fram c.mods H H' → Q .none H') : WC e.G (D + 6) (.ref 318) [.ref c.self, .int (vi k), t.av] H Q := uw_ok k t hk hd hz (C.weak (by have := size_pos t; lia)) h
end
theorem kw65 : True := by
 k_with "wc" => (first | ((focus (refine' uwK_ok _ _ ?_ ?_ ?_ ?_ ?_; rotate_right 5; (· k_extra "as"); (· k_extra "as"); (· k_extra "as"); (· k_extra "as"); intro _ _ _))) | fail)
 trivial
section
variable {D : Nat} {c : Adr} {B : AHeap} {P : PlanM} {st : CS} {b : Nat} {H : AHeap} {cs : Scope} {cl : List (Str × Addr)} {m : Loc}
structure UI (c : Adr) (B : AHeap) (P : PlanM) (goal : CS) (b : Nat) (lp : Addr) (H : AHeap) (n : Nat) (m : Loc) (H' : AHeap) : Prop where
 go : ∃ ps st', uLoop P n ps st' = goal ∧ (∀ x ∈ ps, inDom P x.1 ∧ inDom P x.2 ∧ x.1.size ≤ 400 ∧ x.2.size ≤ 400) ∧ psz ps ≤ n ∧ n ≤ 1000 ∧ CMAt c B P st' (b + pbz ps) H' ∧ H' lp = some (.list (ps.reverse.map ttAV))
 s : m.lookup ("self" : Str) = some (.ref c.self)
 p : m.lookup ("pairs" : Str) = some (.ref lp)
 fr : Fram (lp :: c.mods) H H'
theorem unifyGoal_ok (l r : Tm) (hl : inDom P l) (hr : inDom P r) (zl : l.size ≤ 400) (zr : r.size ≤ 400) (C : CMAt c B P st (b + 16 * (l.size + r.size)) H) {Q : AQ}
   (h : ∀ H', CMAt c B P (unifyGoal P l r st) b H' → Fram c.mods H H' → Q .none H') : WC e.G (D + 9) (.ref 311) [.ref c.self, l.av, r.av] H Q := by
 refine WC.enterF (ns := ["self", "left", "right"]) (by kernel_rfl) (by kernel_rfl) rfl (bind3 (by intro x y z; kernel_rfl)) ?_
 k_extra "norm_m"
 k_extra "wg"
 intro lp hlp
 have op := C.off hlp
 have np := op.mods
 k_extra "wg"
 refine W1.while ⟨l.size + 1 + 1, WhileN.rule (UI c B P (unifyGoal P l r st) b lp H) ?_ (l.size + 1) ?_⟩
 · rintro n m1 H1 ⟨⟨ps, st1, e1, hd, hn, hb, C1, h1⟩, i1, i2, F1⟩
   have hlen := len_psz ps
   refine WT.weak (m' := [("self", .ref c.self), ("pairs", .ref lp)]) (Sub.cons i1 (Sub.cons i2 Sub.nil)) ?_
   clear C
   k_extra "wg"
   · obtain ⟨xy, ps, rfl⟩ : ∃ x r, ps = x :: r := by
       cases ps with
       | nil => exfalso; simp only [List.reverse_nil, List.map_nil, List.length_nil] at *; lia
       | cons x r => exact ⟨x, r, rfl⟩
     obtain ⟨x, y⟩ := xy
     (refine exE ((⟨n - 1, by simp only [List.length_cons] at hlen; lia⟩ : ∃ k, n = k + 1)) ?_; intro n zq0; rcases zq0 with rfl)
     refine ⟨n, rfl, ?_⟩
     refine WS.weak (m' := [("self", .ref c.self), ("pairs", .ref lp)]) (Sub.cons i1 (Sub.cons i2 Sub.nil)) ?_
     rw [List.reverse_cons, List.map_append, List.map_cons, List.map_nil] at h1
     have hl2 : ps.length ≤ 1000 := by simp only [List.length_cons] at hlen; lia
     (refine exAAA (hd _ (.head _)) fun dx dy zx zy => ?_)
     have hd' : ∀ x ∈ ps, inDom P x.1 ∧ inDom P x.2 ∧ x.1.size ≤ 400 ∧ x.2.size ≤ 400 := fun x hx => hd x (.tail _ hx)
     clear hd
     dsimp only at dx dy zx zy
     simp only [psz_n, psz_c] at hn
     have px := size_pos x
     have py := size_pos y
     have dn : ∀ (m' : Loc) (H' : AHeap) ps' st', uLoop P n ps' st' = uLoop P (n + 1) ((x, y) :: ps) st1 → (∀ x ∈ ps', inDom P x.1 ∧ inDom P x.2 ∧ x.1.size ≤ 400 ∧ x.2.size ≤ 400) → psz ps' ≤ n → (∃ b', CMAt c B P st' b' H' ∧ b + pbz ps' ≤ b') → H' lp = some (.list (ps'.reverse.map ttAV)) →
         m'.lookup ("self" : Str) = some (.ref c.self) → m'.lookup ("pairs" : Str) = some (.ref lp) → Fram (lp :: c.mods) H H' → UI c B P (unifyGoal P l r st) b lp H n m' H' :=
       fun m' H' ps' st' a1 a2 a3 a4 a5 a6 a7 a8 => ⟨⟨ps', st', a1.trans e1, a2, a3, by lia, a4.elim fun b' q => q.1.weak q.2, a5⟩, a6, a7, a8⟩
     clear hlp
     rw [show ttAV (x, y) = .tup [x.av, y.av] from rfl] at h1
     by_cases hv : x.isV = true
     · obtain ⟨k, rfl⟩ := isV_is hv
       have hk := inDom_v dx
       replace C1 : CMAt c B P st1 (b + 16 * y.size + (pbz ps + 16)) H1 := C1.weak (by simp only [pbz_n, pbz_c, Tmsize_v, Tmsize_a, Tmsize_i, Tmsize_s1, Tmsize_s2]; lia)
       k_extra "wg"
       refine dn _ _ ps _ uL1.symm hd' (by simp only [Tmsize_v, Tmsize_a, Tmsize_i, Tmsize_s1, Tmsize_s2] at hn; lia) ⟨_, by k_extra "as", by lia⟩ (by k_extra "hfr") rfl rfl (by k_extra "fr")
     replace hv := eq_false_of_ne_true hv
     by_cases hv2 : y.isV = true
     · obtain ⟨k, rfl⟩ := isV_is hv2
       have hk := inDom_v dy
       replace C1 : CMAt c B P st1 (b + 16 * x.size + (pbz ps + 16)) H1 := C1.weak (by simp only [pbz_n, pbz_c, Tmsize_v, Tmsize_a, Tmsize_i, Tmsize_s1, Tmsize_s2]; lia)
       k_extra "wg"
       refine dn _ _ ps _ (uL2 hv).symm hd' (by lia) ⟨_, by k_extra "as", by lia⟩ (by k_extra "hfr") rfl rfl (by k_extra "fr")
     replace hv2 := eq_false_of_ne_true hv2
     replace C1 : CMAt c B P st1 (b + pbz ps + (16 * (x.size + y.size) - 1) + 1) H1 := C1.weak (by simp only [pbz_n, pbz_c]; lia)
     k_extra "wg"
     · have hx : x.isS = true := by assumption
       have hy : y.isS = true := by assumption
       have hfn : x.fn = y.fn := by assumption
       cases x with
       | s1 u => cases y with
         | s1 v =>
           have du := inDom_args dx (t := .s1 u) (u := u) (.head _)
           have dv := inDom_args dy (t := .s1 v) (u := v) (.head _)
           have su := size_pos u
           have sv := size_pos v
           simp only [Tmsize_v, Tmsize_a, Tmsize_i, Tmsize_s1, Tmsize_s2] at zx zy hn
           k_extra "wg"
           refine W1.while ⟨2, ?_⟩
           k_extra "wg"
           refine dn _ _ ((u, v) :: ps) st1 (uL3 rfl rfl hfn).symm (fun z hz => ?_) (by simp only [psz_n, psz_c]; lia) ⟨_, by k_extra "as", by simp only [pbz_n, pbz_c, Tmsize_v, Tmsize_a, Tmsize_i, Tmsize_s1, Tmsize_s2]; lia⟩ (by rw [List.reverse_cons, List.map_append, List.map_cons, List.map_nil, show ttAV (u, v) = .tup [u.av, v.av] from rfl]; k_extra "hfr") rfl rfl (by k_extra "fr")
           rcases List.mem_cons.mp hz with rfl | hz
           · exact ⟨du, dv, Nat.le_of_lt zx, Nat.le_of_lt zy⟩
           · exact hd' z hz
         | s2 f v w => cases f <;> exact nomatch hfn
         | _ => exact nomatch hy
       | s2 f u u2 => cases y with
         | s1 v => cases f <;> exact nomatch hfn
         | s2 g v v2 =>
           have du := inDom_args dx (t := .s2 f u u2) (u := u) (.head _)
           have dv := inDom_args dy (t := .s2 g v v2) (u := v) (.head _)
           have du2 := inDom_args dx (t := .s2 f u u2) (u := u2) (.tail _ (.head _))
           have dv2 := inDom_args dy (t := .s2 g v v2) (u := v2) (.tail _ (.head _))
           have su := size_pos u
           have sv := size_pos v
           simp only [Tmsize_v, Tmsize_a, Tmsize_i, Tmsize_s1, Tmsize_s2] at zx zy hn
           k_extra "wg"
           refine W1.while ⟨3, ?_⟩
           k_extra "wg"
           refine dn _ _ ((u, v) :: (u2, v2) :: ps) st1 (uL3 rfl rfl hfn).symm (fun z hz => ?_) (by simp only [psz_n, psz_c]; lia) ⟨_, by k_extra "as", by simp only [pbz_n, pbz_c, Tmsize_v, Tmsize_a, Tmsize_i, Tmsize_s1, Tmsize_s2]; lia⟩ (by rw [List.reverse_cons, List.reverse_cons, List.map_append, List.map_append, List.map_cons, List.map_nil, List.map_cons, List.map_nil, show ttAV (u, v) = .tup [u.av, v.av] from rfl, show ttAV (u2, v2) = .tup [u2.av, v2.av] from rfl]; k_extra "hfr") rfl rfl (by k_extra "fr")
           rcases List.mem_cons.mp hz with rfl | hz
           · exact ⟨du, dv, by dsimp only; lia, by dsimp only; lia⟩
           · rcases List.mem_cons.mp hz with rfl | hz
             · exact ⟨du2, dv2, by dsimp only; lia, by dsimp only; lia⟩
             · exact hd' z hz
         | _ => exact nomatch hy
       | _ => exact nomatch hx
     all_goals try (refine dn _ _ ps _ (uL4 hv hv2 ?_).symm hd' (by lia) ⟨_, by k_extra "as", by lia⟩ (by k_extra "hfr") rfl rfl (by k_extra "fr"))
     · exact .inr (.inr (.inl ⟨by assumption, by assumption, by assumption⟩))
     · exact .inl ⟨by assumption, by assumption⟩
     · exact .inr (.inl ⟨by assumption, by assumption⟩)
     · have hxC : x.isC = true := by unfold Tm.isC; rw [hv, show x.isS = false by assumption]; rfl
       have hyC : y.isC = true := by unfold Tm.isC; rw [hv2, show y.isS = false by assumption]; rfl
       refine WCmp.neT hxC hyC (fun hne => ?_) (fun heq => ?_)
       · k_extra "wg"
         refine dn _ _ ps _ (uL4 hv hv2 (.inr (.inr (.inr ⟨hxC, hyC, hne⟩)))).symm hd' (by lia) ⟨_, by k_extra "as", by lia⟩ (by k_extra "hfr") rfl rfl (by k_extra "fr")
       · k_extra "wg"
         refine dn _ _ ps _ ?_ hd' (by lia) ⟨_, by k_extra "as", by lia⟩ (by k_extra "hfr") rfl rfl (by k_extra "fr")
         rw [← heq]
         exact (uL5 hxC).symm
   · obtain rfl : ps = [] := by
       cases ps with
       | nil => rfl
       | cons x r => exfalso; simp only [List.length_map, List.length_reverse, List.length_cons] at *; lia
     refine h _ ?_ (Fram.drop hlp (by k_extra "fr"))
     rw [← e1]
     cases n <;> exact C1.weak (by simp [pbz_n, pbz_c])
 · refine ⟨⟨[(l, r)], st, rfl, fun x hx => ?_, by simp [psz_n, psz_c], by lia, ?_, AHeap.put_self _ _ _⟩, rfl, rfl, Fram.put (by simp)⟩
   · cases List.mem_singleton.mp hx
     exact ⟨hl, hr, zl, zr⟩
   · exact (C.putO op).weak (by simp only [pbz_n, pbz_c]; lia)
end
structure KernAt (B : AHeap) (lk : Addr) (heads : List Tm) (goals : List Goal) (count : Int) : Prop where
 go : ∃ dk lg, B lk = some (.inst 443 dk) ∧ B dk = some (.attrs [("functor", .int 24), ("args", .tup (heads.map Tm.av)), ("goals", .ref lg), ("count", .int count)]) ∧ B lg = some (.list (goals.map Goal.av))
noncomputable def gb (g : Goal) : Nat := 16 * tsz g.terms + 2
noncomputable def gOk (P : PlanM) (g : Goal) : Prop := (∀ t ∈ g.terms, inDom P t ∧ t.size ≤ 400) ∧ (0 ≤ g.special → ∀ k : V8, g.special = vi k → P.dom k = true)
section
variable {D : Nat} {c : Adr} {B : AHeap} {P : PlanM} {st : CS} {b : Nat} {H : AHeap} {cs : Scope} {cl : List (Str × Addr)} {m : Loc}
theorem m386 : methIn e.G.K 417 ("load_arguments" : Str) 386 = true := by kernel_rfl
theorem m311 : methIn e.G.K 417 ("unify_goal" : Str) 311 = true := by kernel_rfl
theorem m400 : methIn e.G.K 417 ("number_goal" : Str) 400 = true := by kernel_rfl
theorem a8 : attrIn e.G.K 443 ("goals" : Str) = true := by kernel_rfl
theorem a9 : attrIn e.G.K 443 ("args" : Str) = true := by kernel_rfl
end
theorem kw66 : True := by
 k_with "wf" => (first | (with_reducible first | exact m386 | exact m311 | exact m400 | exact a8 | exact a9) | fail)
 trivial
section
variable {D : Nat} {c : Adr} {B : AHeap} {P : PlanM} {st : CS} {b : Nat} {H : AHeap} {cs : Scope} {cl : List (Str × Addr)} {m : Loc}
theorem goal_ok (g : Goal) (i : Nat) {heads : List Tm} {goals : List Goal} {count : Int} (K : KernAt B c.kern heads goals count) (hi : goals[i]? = some g) (hz : goals.length ≤ 1000) (hg : gOk P g) (C : CMAt c B P st (b + gb g) H) {Q : AQ}
   (h : ∀ H', CMAt c B P (goalM P g i st) b H' → Fram c.mods H H' → Q .none H') : WC e.G (D + 10) (.ref 407) [.ref c.self, .int i] H Q := by
 (refine exEEAA (K.go) fun dk lg k1 k2 k3 => ?_)
 have k1' := (C.base _ _ k1).1
 have k2' := (C.base _ _ k2).1
 have k3' := (C.base _ _ k3).1
 refine WC.enterF (ns := ["self", "index"]) (by kernel_rfl) (by kernel_rfl) rfl (bind2 (by intro x y; kernel_rfl)) ?_
 k_extra "norm_m"
 have hx : (goals.map Goal.av)[(i : Int).toNat]? = some g.av := by simp [hi]
 have hz' : (goals.map Goal.av).length ≤ 16000000 := by simp; (exact Nat.le_trans (by assumption) (Nat.le_of_ble_eq_true rfl))
 clear k1 k2 k3
 refine WS.cons (W1.assign (WE.item (WE.attr (WE.attr (WE.name rfl ?_)))))
 refine AtP.of C.self C.d rfl rfl (by k_extra "wf") ?_
 refine AtP.of k1' k2' rfl rfl (by k_extra "wf") ?_
 refine WE.name rfl (WI.list k3' rfl (Int.natCast_nonneg i) hx hz' ?_)
 cases g with
 | call f as =>
   k_extra "wg"
   refine loadArgs_ok as (fun t ht => hg.1 t ht) i (b := b) (C.weak (by simp only [gb, Goalterms_c, Goalterms_b, Goalterms_u, Goalterms_t, Goalterms_l, Goalterms_m, Goalterms_x]; (simp +arith only; done))) fun H2 C2 F2 => ?_
   k_extra "wg"
   exact h _ C2 (by k_extra "fr")
 | builtin f as =>
   k_extra "wg"
   refine ⟨_, rfl, ?_⟩
   k_extra "wg"
   refine loadArgs_ok as (fun t ht => hg.1 t ht) (-1) (b := b + 1) (C.weak (by simp only [gb, Goalterms_c, Goalterms_b, Goalterms_u, Goalterms_t, Goalterms_l, Goalterms_m, Goalterms_x]; (simp +arith only; done))) fun H2 C2 F2 => ?_
   k_extra "wg"
   exact h _ (by assumption) (by k_extra "fr")
 | unify l r =>
   have h1 := hg.1 l (.head _)
   have h2 := hg.1 r (.tail _ (.head _))
   k_extra "wg"
   refine unifyGoal_ok l r h1.1 h2.1 h1.2 h2.2 (b := b) (C.weak (by simp only [gb, Goalterms_c, Goalterms_b, Goalterms_u, Goalterms_t, Goalterms_l, Goalterms_m, Goalterms_x, tsz_n, tsz_c]; (simp +arith; done))) fun H2 C2 F2 => ?_
   k_extra "wg"
   exact h _ C2 (by k_extra "fr")
 | cut =>
   replace C : CMAt c B P st (b + 1 + 1) H := C
   k_extra "wg"
   exact h _ (CMAt.weak (b := b + 1) (by assumption) (by lia)) (by k_extra "fr")
 | level k =>
   have hk := hg.2 (vi_lo k).1 k rfl
   replace C : CMAt c B P st (b + 1 + 1) H := C
   k_extra "wg"
   refine number_ok C "get_level" k hk fun H2 C2 F2 => ?_
   k_extra "wg"
   exact h _ (CMAt.weak (b := b + 1) (by assumption) (by lia)) (by k_extra "fr")
 | mark k =>
   have hk := hg.2 (vi_lo k).1 k rfl
   replace C : CMAt c B P st (b + 1 + 1) H := C
   k_extra "wg"
   refine number_ok C "mark" k hk fun H2 C2 F2 => ?_
   k_extra "wg"
   exact h _ (CMAt.weak (b := b + 1) (by assumption) (by lia)) (by k_extra "fr")
 | cutto k =>
   have hk := hg.2 (vi_lo k).1 k rfl
   replace C : CMAt c B P st (b + 1 + 1) H := C
   k_extra "wg"
   refine number_ok C "cut_to" k hk fun H2 C2 F2 => ?_
   k_extra "wg"
   exact h _ (CMAt.weak (b := b + 1) (by assumption) (by lia)) (by k_extra "fr")
end
noncomputable def gz : List Goal → Nat
 | [] => 0
 | g :: r => gb g + 1 + gz r
theorem gz_n : gz [] = 0 := rfl
theorem gz_c : ∀ x r, gz (x :: r) = gb x + 1 + gz r := fun _ _ => rfl
section
variable {D : Nat} {c : Adr} {B : AHeap} {P : PlanM} {st : CS} {b : Nat} {H : AHeap} {cs : Scope} {cl : List (Str × Addr)} {m : Loc}
theorem m224 : methIn e.G.K 417 ("head_argument" : Str) 224 = true := by kernel_rfl
theorem m407 : methIn e.G.K 417 ("goal" : Str) 407 = true := by kernel_rfl
theorem b6 : attrIn e.G.K 534 ("needs_env" : Str) = true := by kernel_rfl
theorem b7 : attrIn e.G.K 534 ("env_size" : Str) = true := by kernel_rfl
theorem b8 : attrIn e.G.K 534 ("live_after" : Str) = true := by kernel_rfl
end
theorem kw67 : True := by
 k_with "wf" => (first | (with_reducible first | exact m224 | exact m407 | exact b6 | exact b7 | exact b8) | fail)
 trivial
section
variable {D : Nat} {c : Adr} {B : AHeap} {P : PlanM} {st : CS} {b : Nat} {H : AHeap} {cs : Scope} {cl : List (Str × Addr)} {m : Loc}
noncomputable def lastM (P : PlanM) (g : Goal) (i : Int) (st : CS) : CS :=
 let st1 := goalM P g i st
 let st2 := if P.needs then st1.emit "deallocate" [] else st1
 (match g with | .call f _ => st2.emit "execute" [.num f] | _ => st2.emit "proceed" [])
noncomputable def nextM (P : PlanM) (g : Goal) (n : Nat) (st : CS) : CS :=
 let st1 := goalM P g n st
 (match g with | .call f _ => st1.emit "call" [.num f, .num (P.live.getD n 0)] | _ => st1)
theorem goalsM_one (P : PlanM) (g : Goal) (n : Nat) (st : CS) : goalsM P [g] n st = lastM P g n st := rfl
theorem goalsM_cons (P : PlanM) (g h : Goal) (r : List Goal) (n : Nat) (st : CS) : goalsM P (g :: h :: r) n st = goalsM P (h :: r) (n + 1) (nextM P g n st) := rfl
theorem nextM_n {P : PlanM} {g : Goal} {n : Nat} {st : CS} (h : g.isCall = false) : nextM P g n st = goalM P g n st := by cases g <;> first | rfl | (exact trueE h)
theorem lastM_n {P : PlanM} {g : Goal} {i : Int} {st : CS} (h : g.isCall = false) : lastM P g i st = (if P.needs then (goalM P g i st).emit "deallocate" [] else goalM P g i st).emit "proceed" [] := by cases g <;> first | rfl | (exact trueE h)
structure ClI (c : Adr) (B : AHeap) (P : PlanM) (goals : List Goal) (lg : Addr) (b : Nat) (H : AHeap) (goal : CS) (n : Nat) (m : Loc) (H' : AHeap) : Prop where
 go : ∃ (i : Nat) (st' : CS), i + n + 1 = goals.length ∧ goalsM P (goals.drop i) i st' = goal ∧ CMAt c B P st' (b + gz (goals.drop i) + 2) H' ∧ m.lookup ("index" : Str) = some (.int i)
 s : m.lookup ("self" : Str) = some (.ref c.self)
 p : m.lookup ("plan" : Str) = some (.ref c.plan)
 g : m.lookup ("goals" : Str) = some (.ref lg)
 l : m.lookup ("last" : Str) = some (.int ((goals.length : Int) - 1))
 fr : Fram c.mods H H'
theorem CMAt.short (C : CMAt c B P st b H) : st.code.length ≤ 15000000 := Nat.le_trans (Nat.le_add_right _ _) C.fit
set_option tactic.hygienic true in
theorem clause_ok {heads : List Tm} {goals : List Goal} {count : Int} (K : KernAt B c.kern heads goals count) (hz : goals.length ≤ 1000) (hh : ∀ t ∈ heads, inDom P t ∧ t.size ≤ 400) (hg : ∀ g ∈ goals, gOk P g) (hl : P.live.length = goals.length)
   (C : CMAt c B P (CS.start count) (b + 6 * tsz heads + gz goals + 3) H) {Q : AQ}
   (h : ∀ H', (clauseM P count heads goals).length ≤ 15000000 → H' c.lc = some (.list ((clauseM P count heads goals).map Row.av)) → Fram c.mods H H' → Q (.ref c.lc) H') : WC e.G (D + 11) (.ref 414) [.ref c.self] H Q := by
 (refine exEEAA (K.go) fun dk lg k1 k2 k3 => ?_)
 (refine exEEEEEAAAA (C.plan.go) fun dp li lch llv infos p1 p2 p3 p4 p5 => ?_)
 have k1' := (C.base _ _ k1).1
 have k2' := (C.base _ _ k2).1
 have k3' := (C.base _ _ k3).1
 have p1' := (C.base _ _ p1).1
 have p2' := (C.base _ _ p2).1
 have p4' := (C.base _ _ p4).1
 refine WC.enterF (ns := ["self"]) (by kernel_rfl) (by kernel_rfl) rfl (bind1 (by intro x; kernel_rfl)) ?_
 k_extra "norm_m"
 refine WS.cons (W1.assign (WE.attr (WE.name rfl (AtP.of C.self C.d rfl rfl (by k_extra "wf") ?_))))
 refine WS.cons (W1.assign (WE.attr (WE.attr (WE.name rfl (AtP.of C.self C.d rfl rfl (by k_extra "wf") (AtP.of k1' k2' rfl rfl (by k_extra "wf") ?_))))))
 refine WS.seq (fun m1 H1 => Sub [("goals", .ref lg), ("plan", .ref c.plan), ("self", .ref c.self)] m1 ∧ Fram c.mods H H1 ∧ ∃ st0, CMAt c B P st0 (b + 6 * tsz heads + gz goals + 2) H1 ∧ (goalsM P goals 0 (headArgs P heads 0 st0)).code = clauseM P count heads goals) ?_ ?_
 · cases hn : P.needs
   all_goals
     k_extra "wg"
     rw [hn]
     k_extra "wg"
     refine ⟨rfl, fun x a e => e, by k_extra "fr", _, CMAt.weak (by k_extra "as") (by (first | exact Nat.le_refl _ | (simp +arith; done) | lia)), by simp only [clauseM, hn, ↓reduceIte, Bool.false_eq_true]⟩
 · (intro m1; intro H1; intro zq0; refine exAAEA (zq0) fun l1 F1 st1 C1 e1 => ?_; clear zq0)
   refine WS.weak l1 ?_
   clear C l1
   have k1a := (C1.base _ _ k1).1
   have k2a := (C1.base _ _ k2).1
   refine WS.cons (W1.assign (WE.int ?_))
   refine WS.seq (fun m2 H2 => Sub [("goals", .ref lg), ("plan", .ref c.plan), ("self", .ref c.self)] m2 ∧ Fram c.mods H H2 ∧ ∃ st2, CMAt c B P st2 (b + gz goals + 2) H2 ∧ (goalsM P goals 0 st2).code = clauseM P count heads goals) ?_ ?_
   · refine W1.forTup (WE.attr (WE.attr (WE.name rfl (AtP.of C1.self C1.d rfl rfl (by k_extra "wf") (AtP.of k1a k2a rfl rfl (by k_extra "wf") ?_)))))
     refine ⟨_, rfl, ?_⟩
     refine ForN.rule (fun rest m' H' => ∃ (n : Int) (st' : CS), Sub [("goals", .ref lg), ("plan", .ref c.plan), ("self", .ref c.self)] m' ∧ m'.lookup ("number" : Str) = some (.int n) ∧ CMAt c B P st' (b + gz goals + 2 + 6 * tsz rest) H' ∧ Fram c.mods H H' ∧ (goalsM P goals 0 (headArgs P rest n st')).code = clauseM P count heads goals ∧ ∀ t ∈ rest, inDom P t ∧ t.size ≤ 400) (fun t rest m1 H1 I kp => ?_) (fun m1 H1 I kp => ?_) heads trivial ⟨0, st1, Sub.cons rfl (Sub.cons rfl (Sub.cons rfl Sub.nil)), rfl, C1.weak (by (simp +arith only; done)), F1, e1, hh⟩
     · (refine exEEAAAAA (I) fun n st1 i1 i2 C1 F1 e1 i4 => ?_; clear I)
       refine WS.weak (m' := [("arg", t.av), ("goals", .ref lg), ("plan", .ref c.plan), ("self", .ref c.self), ("number", .int n)]) (Sub.cons rfl (Sub.cons (i1 _ _ rfl) (Sub.cons (i1 _ _ rfl) (Sub.cons (i1 _ _ rfl) (Sub.cons i2 Sub.nil))))) ?_
       have i5 : ∀ t ∈ rest, inDom P t ∧ t.size ≤ 400 := fun t ht => i4 t (.tail _ ht)
       (refine exA (i4 t (.head _)) fun hdt hzt => ?_)
       k_extra "wg"
       refine headArg_ok t hdt (by lia) (.a (n + 1)) (b := b + gz goals + 2 + 6 * tsz rest) (C1.weak (by simp only [tsz_n, tsz_c]; (simp +arith only; done))) fun H2 C2 F2 => ?_
       k_extra "wg"
       exact ⟨trivial, n + 1, _, Sub.cons rfl (Sub.cons rfl (Sub.cons rfl Sub.nil)), rfl, C2, by k_extra "fr", e1, i5⟩
     · (refine exEEAAAAA (I) fun n st1 i1 i2 C1 F1 e1 i4 => ?_; clear I)
       exact ⟨rfl, i1, F1, st1, C1.weak (by (exact Nat.le_refl _)), e1⟩
   · (intro m2; intro H2; intro zq0; refine exAAEA (zq0) fun l2 F2 st2 C2 e2 => ?_; clear zq0)
     refine WS.weak l2 ?_
     clear C1 e1 F1 l2
     have k3b := (C2.base _ _ k3).1
     have p4b := (C2.base _ _ p4).1
     have wlen : ∀ {D : Nat} {H : AHeap} {Q : AQ}, H lg = some (.list (goals.map Goal.av)) → Q (.int goals.length) H → WB e.G D (.builtin "len") [.ref lg] H Q := fun hh q => WB.lenL hh rfl (by simp; lia) (by rw [List.length_map]; exact q)
     refine WS.cons (W1.assign (WE.binop (WE.callB blen blen' (by decide) (WE.name rfl (wlen k3b (WE.int (WOp.sub ?_)))))))
     refine WS.cons (W1.assign (WE.int ?_))
     cases hgs : goals with
     | nil =>
       subst hgs
       refine WS.cons (W1.while ⟨1, WT.cmp (WE.name rfl (WE.name rfl (WCmp.ltI_is (x := false) (by decide) ?_)))⟩)
       replace C2 : CMAt c B P st2 (b + 1 + 1) H2 := C2.weak (by simp only [gz_n, gz_c]; (exact Nat.le_refl _))
       cases hn : P.needs
       all_goals
         rw [hn] at p2
         have p1b := (C2.base _ _ p1).1
         have p2b := (C2.base _ _ p2).1
         k_extra "wg"
         refine h _ ?_ ?_ (by k_extra "fr")
         · rw [← e2]
           simp only [goalsM_n, hn, ↓reduceIte, Bool.false_eq_true]
           exact CMAt.short (by assumption)
         · rw [← e2]
           simp only [goalsM_n, hn, ↓reduceIte, Bool.false_eq_true]
           exact CMAt.lc (by assumption)
     | cons g0 gs0 =>
     rw [← hgs]
     have hpos : 0 < goals.length := by rw [hgs]; simp
     refine WS.cons (W1.while ⟨goals.length - 1 + 1, WhileN.rule (ClI c B P goals lg b H (goalsM P goals 0 st2)) ?_ (goals.length - 1) ?_⟩)
     · rintro n m1 H1 ⟨⟨i, st3, e3, e4, C3, l5⟩, l1, l2, l3, l4, F3⟩
       have lt : i < goals.length := by lia
       have hd : goals.drop i = goals[i] :: goals.drop (i + 1) := List.drop_eq_getElem_cons lt
       have hgi : goals[i]? = some goals[i] := List.getElem?_eq_getElem lt
       have gm : goals[i] ∈ goals := List.getElem_mem lt
       generalize goals[i] = g at hd hgi gm
       have k3c := (C3.base _ _ k3).1
       refine WT.weak (m' := [("index", .int i), ("last", .int ((goals.length : Int) - 1)), ("goals", .ref lg), ("plan", .ref c.plan), ("self", .ref c.self)]) (Sub.cons l5 (Sub.cons l4 (Sub.cons l3 (Sub.cons l2 (Sub.cons l1 Sub.nil))))) ?_
       refine WT.cmp (WE.name rfl (WE.name rfl (WCmp.ltI2 (fun hlt => ?_) (fun hge => ?_))))
       · (refine exE ((⟨n - 1, by lia⟩ : ∃ k, n = k + 1)) fun n zq0 => ?_; rcases zq0 with rfl)
         refine ⟨n, rfl, ?_⟩
         refine WS.weak (m' := [("index", .int i), ("last", .int ((goals.length : Int) - 1)), ("goals", .ref lg), ("plan", .ref c.plan), ("self", .ref c.self)]) (Sub.cons l5 (Sub.cons l4 (Sub.cons l3 (Sub.cons l2 (Sub.cons l1 Sub.nil))))) ?_
         (refine exEE ((⟨goals[i + 1]'(by lia), _, List.drop_eq_getElem_cons (by lia)⟩ : ∃ g2 r2, goals.drop (i + 1) = g2 :: r2)) fun g2 r2 hd2 => ?_)
         rw [hd, hd2, goalsM_cons, ← hd2] at e4
         rw [hd] at C3
         clear C2 k3b p4b F2
         k_extra "wg"
         refine goal_ok g i K hgi hz (hg g gm) (b := b + gz (goals.drop (i + 1)) + 2 + 1) (C3.weak (by simp only [gz_n, gz_c]; (simp +arith only; done))) fun H4 C4 F4 => ?_
         have k3d := (C4.base _ _ k3).1
         have p1d := (C4.base _ _ p1).1
         have p2d := (C4.base _ _ p2).1
         have p4d := (C4.base _ _ p4).1
         have hx : (goals.map Goal.av)[(i : Int).toNat]? = some g.av := by simp [hgi]
         have hz' : (goals.map Goal.av).length ≤ 16000000 := by simp; lia
         have hlx : (P.live.map AV.int)[(i : Int).toNat]? = some (.int (P.live.getD i 0)) := by
           have : i < P.live.length := by lia
           simp [List.getD, this]
         have hlz : (P.live.map AV.int).length ≤ 16000000 := by simp; lia
         have wgi : ∀ {D : Nat} {Q : AQ}, Q g.av H4 → WI e.G D (.ref lg) (.int i) H4 Q := fun q => WI.list k3d rfl (Int.natCast_nonneg i) hx hz' q
         have fin : ∀ (m' : Loc) (H' : AHeap), CMAt c B P (nextM P g i st3) (b + gz (goals.drop (i + 1)) + 2) H' → Fram c.mods H H' → m'.lookup ("index" : Str) = some (.int ((i : Int) + 1)) → m'.lookup ("self" : Str) = some (.ref c.self) → m'.lookup ("plan" : Str) = some (.ref c.plan) → m'.lookup ("goals" : Str) = some (.ref lg) → m'.lookup ("last" : Str) = some (.int ((goals.length : Int) - 1)) →
             ClI c B P goals lg b H (goalsM P goals 0 st2) n m' H' := fun m' H' a1 a2 a3 a4 a5 a6 a7 => ⟨⟨i + 1, _, by lia, e4, a1, by rw [a3]; rfl⟩, a4, a5, a6, a7, a2⟩
         k_extra "wg"
         refine wgi ?_
         k_extra "wg"
         · rename_i hc
           obtain ⟨f, as, rfl⟩ : ∃ f as, g = .call f as := by cases g <;> first | exact ⟨_, _, rfl⟩ | (exact falseE hc)
           k_extra "wg"
           refine wgi ?_
           k_extra "wg"
           refine WI.list p4d rfl (Int.natCast_nonneg i) hlx hlz ?_
           k_extra "wg"
           exact fin _ _ (by assumption) (by k_extra "fr") rfl rfl rfl rfl rfl
         · rename_i hc
           rw [nextM_n hc] at fin
           exact fin _ _ (CMAt.weak C4 (by (exact Nat.le_add_right _ _))) (by k_extra "fr") rfl rfl rfl rfl rfl
       · have e5 : ((goals.length : Int) - 1) = (i : Int) := by lia
         rw [e5] at l4
         have hd2 : goals.drop (i + 1) = [] := List.drop_of_length_le (by lia)
         rw [hd, hd2, goalsM_one] at e4
         rw [hd] at C3
         refine WS.weak (m' := [("last", .int i), ("goals", .ref lg), ("plan", .ref c.plan), ("self", .ref c.self)]) (Sub.cons l4 (Sub.cons l3 (Sub.cons l2 (Sub.cons l1 Sub.nil)))) ?_
         have i0 : (0 : Int) ≤ i := Int.natCast_nonneg i
         have hx : (goals.map Goal.av)[(i : Int).toNat]? = some g.av := by simp [hgi]
         have hz' : (goals.map Goal.av).length ≤ 16000000 := by simp; lia
         rw [← e4] at e2
         clear C2 k3b p4b F2
         refine WS.seq (fun m4 H4 => Sub [("last", .int i), ("goals", .ref lg), ("plan", .ref c.plan), ("self", .ref c.self)] m4 ∧ CMAt c B P (goalM P g i st3) (b + 2) H4 ∧ Fram c.mods H H4) ?_ ?_
         · k_extra "wg"
           · refine goal_ok g i K hgi hz (hg g gm) (b := b + 2) (C3.weak (by simp only [gz_n, gz_c]; (simp +arith only; done))) fun H4 C4 F4 => ?_
             k_extra "wg"
             exact ⟨rfl, fun x a e => e, C4, by k_extra "fr"⟩
         · (intro m4; intro H4; intro zq0; refine exAA (zq0) fun l6 C4 F4 => ?_; clear zq0)
           refine WS.weak l6 ?_
           have k3d := (C4.base _ _ k3).1
           have p1d := (C4.base _ _ p1).1
           have p2d := (C4.base _ _ p2).1
           clear C3 l6
           refine WS.seq (fun m4 H4 => Sub [("last", .int i), ("goals", .ref lg), ("plan", .ref c.plan), ("self", .ref c.self)] m4 ∧ CMAt c B P (if P.needs then (goalM P g i st3).emit "deallocate" [] else goalM P g i st3) (b + 1) H4 ∧ Fram c.mods H H4) ?_ ?_
           · replace C4 : CMAt c B P (goalM P g i st3) (b + 1 + 1) H4 := C4
             cases hn : P.needs
             all_goals
               rw [hn] at p2d
               k_extra "wg"
               refine ⟨rfl, fun x a e => e, by simp only [↓reduceIte, Bool.false_eq_true]; exact CMAt.weak (by assumption) (by (first | exact Nat.le_add_right _ _ | exact Nat.le_refl _ | lia)), by k_extra "fr"⟩
           · (intro m5; intro H5; intro zq0; refine exAA (zq0) fun l7 C5 F5 => ?_; clear zq0)
             refine WS.weak l7 ?_
             have k3e := (C5.base _ _ k3).1
             clear C4 l7 k3d p1d p2d
             have wgi : ∀ {D : Nat} {Q : AQ} {H : AHeap}, H lg = some (.list (goals.map Goal.av)) → Q g.av H → WI e.G D (.ref lg) (.int i) H Q := fun q h => WI.list q rfl (Int.natCast_nonneg i) hx hz' h
             k_extra "wg"
             · refine wgi k3e ?_
               k_extra "wg"
               · rename_i hc
                 obtain ⟨f, as, rfl⟩ : ∃ f as, g = .call f as := by cases g <;> first | exact ⟨_, _, rfl⟩ | (exact falseE hc)
                 k_extra "wg"
                 refine wgi k3e ?_
                 k_extra "wg"
                 refine h _ ?_ ?_ (by k_extra "fr")
                 · rw [← e2]
                   exact CMAt.short (by assumption)
                 · rw [← e2]
                   exact CMAt.lc (by assumption)
               · refine h _ ?_ ?_ (by k_extra "fr")
                 · rw [← e2, lastM_n ‹g.isCall = false›]
                   exact CMAt.short (by assumption)
                 · rw [← e2, lastM_n ‹g.isCall = false›]
                   exact CMAt.lc (by assumption)
     · exact ⟨⟨0, st2, by lia, by (rfl), C2.weak (by simp), rfl⟩, rfl, rfl, rfl, rfl, F2⟩
end
section
variable {D : Nat} {P : PlanM} {H : AHeap}
theorem k417n : nsIn e.G.K mainGlobals ("CodeMaker" : Str) = some (some (.ref 417)) := by kernel_rfl
theorem k417 : keepIn e.G.K (.ref 417) = true := by kernel_rfl
theorem m414 : methIn e.G.K 417 ("clause" : Str) 414 = true := by kernel_rfl
end
theorem kw68 : True := by
 k_with "wf" => (first | (with_reducible first | exact k417n | exact k417 | exact m414) | fail)
 trivial
section
variable {D : Nat} {P : PlanM} {H : AHeap}
theorem abstract_ok {lk lp : Addr} {a : AV} {heads : List Tm} {goals : List Goal} {count : Int} (hp : PlanAt H lp P) (K : KernAt H lk heads goals count) (hz : goals.length ≤ 1000) (hh : ∀ t ∈ heads, inDom P t ∧ t.size ≤ 400) (hg : ∀ g ∈ goals, gOk P g) (hl : P.live.length = goals.length)
   (hb : 6 * tsz heads + gz goals ≤ 14000000) {Q : AQ} (h : ∀ l H', H l = none → (clauseM P count heads goals).length ≤ 15000000 → H' l = some (.list ((clauseM P count heads goals).map Row.av)) → Fram [] H H' → Q (.ref l) H') : WC e.G (D + 13) (.ref 426) [a, .ref lk, .ref lp] H Q := by
 refine WC.enterF (ns := ["symbols", "kernel", "plan"]) (by kernel_rfl) (by kernel_rfl) rfl (bind3 (by intro x y z; kernel_rfl)) ?_
 k_extra "norm_m"
 (refine exEEAA (K.go) fun dk lg k1 k2 k3 => ?_)
 refine WS.cons (W1.ret (WE.callM ?_))
 k_extra "wg"
 refine mkState_ok k1 k2 hp fun c H1 e1 e2 C F1 => ?_
 subst e1 e2
 have fresh : ∀ a ∈ c.mods, H a = none := fun a ha => by
   cases q : H a with
   | none => rfl
   | some o => exact absurd ha (C.base a o q).2
 refine ⟨_, _, _, _, 414, rfl, C.self, C.d, rfl, by k_extra "wf", ?_⟩
 refine clause_ok (b := 0) ⟨dk, lg, k1, k2, k3⟩ hz hh hg hl (C.weak (by lia)) fun H2 z2 h2 F2 => ?_
 k_extra "wg"
 exact h c.lc H2 (fresh _ (by (exact .tail _ (.head _)))) z2 h2 (Fram.drop (fresh c.ll (by simp)) (Fram.drop (fresh c.ls (by simp)) (Fram.drop (fresh c.lc (by (exact .tail _ (.head _)))) (Fram.drop (fresh c.d (by (exact List.mem_cons_self))) ((F1.sub (fun _ h => nomatch h)).trans (F2.sub (fun a ha => by simp at ha ⊢; rcases ha with h | h | h | h <;> simp [h])))))))
end
structure Rec where
 k : V8
 kind : Kind
 slot : Int
 first : Str
 uns : Bool
 last : Int
 count : Int
 fc : Int
 lc : Int
noncomputable def Rec.attrs (r : Rec) : List (Str × AV) := [("var", .int (vi r.k)), ("kind", .str (kindS r.kind)), ("slot", .int r.slot), ("first", .str r.first), ("unsafe", .bool r.uns), ("last_goal", .int r.last), ("count", .int r.count), ("first_chunk", .int r.fc), ("last_chunk", .int r.lc)]
noncomputable def Rec.new (k : V8) (first : Str) : Rec := ⟨k, .temp, 0, first, false, -1, 0, 0, 0⟩
noncomputable def onK (k : V8) (f : Rec → Rec) (rs : List Rec) : List Rec := rs.map fun r => if r.k = k then f r else r
noncomputable def hasK (k : V8) (rs : List Rec) : Bool := rs.any fun r => decide (r.k = k)
noncomputable def Rec.met (goal chunk count : Int) (r : Rec) : Rec := { r with count := r.count + count, last := goal, lc := chunk }
noncomputable def meetM (k : V8) (first : Str) (goal chunk count : Int) (rs : List Rec) : List Rec :=
 onK k (Rec.met goal chunk count) (if hasK k rs then rs else rs ++ [{ Rec.new k first with fc := chunk }])
noncomputable def meetsM (place : Str) (goal chunk : Int) (t : Tm) : List V8 → List Rec → List Rec
 | [], rs => rs
 | k :: r, rs => meetsM place goal chunk t r (meetM k (place ++ "_struct") goal chunk (t.occs.count k) rs)
theorem meetsM_n : ∀ p g c t rs, meetsM p g c t [] rs = rs := fun _ _ _ _ _ => rfl
theorem meetsM_c : ∀ p g c t k r rs, meetsM p g c t (k :: r) rs = meetsM p g c t r (meetM k (p ++ "_struct") g c (t.occs.count k) rs) := fun _ _ _ _ _ _ _ => rfl
noncomputable def termsM (place : Str) (goal chunk : Int) : List Tm → List Rec → List Rec
 | [], rs => rs
 | t :: r, rs => termsM place goal chunk r (match t with | .v k => meetM k (place ++ "_arg") goal chunk 1 rs | t => meetsM place goal chunk t t.vars rs)
theorem termsM_n : ∀ p g c rs, termsM p g c [] rs = rs := fun _ _ _ _ => rfl
theorem onK_keys {k : V8} {f : Rec → Rec} (hf : ∀ r, (f r).k = r.k) (rs : List Rec) : (onK k f rs).map (·.k) = rs.map (·.k) := by
 unfold onK
 rw [List.map_map]
 refine List.map_congr_left fun r _ => ?_
 show (if r.k = k then f r else r).k = r.k
 split
 · exact hf r
 · rfl
theorem nodup_len : ∀ (l ks : List V8), l.Nodup → (∀ x ∈ l, x ∈ ks) → l.length ≤ ks.length := by
 intro zz
 induction zz with
 | nil =>
   intro _ _ _
   exact Nat.zero_le _
 | cons x r ih =>
   intro ks nd h
   rw [List.nodup_cons] at nd
   have hx := h x (.head _)
   have := ih (ks.erase x) nd.2 (fun k hk => (List.mem_erase_of_ne (fun z => nd.1 (by rw [← z]; exact hk))).mpr (h k (.tail _ hk)))
   rw [List.length_erase_of_mem hx] at this
   have : 0 < ks.length := List.length_pos_of_mem hx
   simp only [List.length_cons]
   lia
theorem nodup8 {l : List V8} (nd : l.Nodup) : l.length ≤ 8 := by
 have := nodup_len l [0, 1, 2, 3, 4, 5, 6, 7] nd (fun x _ => (show ∀ x : V8, x ∈ ([0, 1, 2, 3, 4, 5, 6, 7] : List V8) by decide) x)
 simpa using this
structure RecsAt (B : AHeap) (li : Addr) (ad : V8 → Addr × Addr) (rs : List Rec) (H : AHeap) : Prop where
 base : ∀ a o, B a = some o → H a = some o
 fl : B li = none
 fr : ∀ r ∈ rs, B (ad r.k).1 = none ∧ B (ad r.k).2 = none
 li : H li = some (.idict (rs.map fun r => (vi r.k, .ref (ad r.k).1)))
 rc : ∀ r ∈ rs, H (ad r.k).1 = some (.inst 478 (ad r.k).2) ∧ H (ad r.k).2 = some (.attrs r.attrs)
 nd : (rs.map (·.k)).Nodup
 inj : ∀ r ∈ rs, ∀ r' ∈ rs, (ad r.k).2 = (ad r'.k).2 → r.k = r'.k
theorem look_some {ad : V8 → Addr × Addr} : ∀ {rs : List Rec} {k : V8}, (∃ r ∈ rs, r.k = k) → (rs.map fun r => (vi r.k, AV.ref (ad r.k).1)).lookup (vi k) = some (.ref (ad k).1) := by
 intro zz
 induction zz with
 | nil =>
   intro k h
   (refine exEA (h) ?_; clear h; intro r h _); cases h
 | cons r rs ih =>
   intro k h
   rw [List.map_cons, List.lookup_cons]
   by_cases q : k = r.k
   · subst q; simp
   · have : (vi k == vi r.k) = false := by simpa using fun z => q (vi_inj z)
     simp only [this]
     (refine exEA (h) fun r' h1 h2 => ?_; clear h)
     rcases List.mem_cons.mp h1 with rfl | h1
     · exact absurd h2.symm q
     · exact ih ⟨r', h1, h2⟩
theorem look_none {ad : V8 → Addr × Addr} : ∀ {rs : List Rec} {k : V8}, (∀ r ∈ rs, r.k ≠ k) → (rs.map fun r => (vi r.k, AV.ref (ad r.k).1)).lookup (vi k) = none := by
 intro zz
 induction zz with
 | nil =>
   intro k h
   exact rfl
 | cons r rs ih =>
   intro k h
   rw [List.map_cons, List.lookup_cons]
   have : (vi k == vi r.k) = false := by simpa using fun z => h r (.head _) (vi_inj z).symm
   simp only [this]
   exact ih fun r' h' => h r' (.tail _ h')
theorem hasK_iff {k : V8} {rs : List Rec} : hasK k rs = true ↔ ∃ r ∈ rs, r.k = k := by simp [hasK]
theorem look_is {ad : V8 → Addr × Addr} {rs : List Rec} {k : V8} : ((rs.map fun r => (vi r.k, AV.ref (ad r.k).1)).lookup (vi k)).isSome = hasK k rs := by
 cases h : hasK k rs with
 | true => rw [look_some (hasK_iff.mp h)]; rfl
 | false => rw [look_none (fun r hr e => by rw [hasK_iff.mpr ⟨r, hr, e⟩] at h; (exact trueE h))]; rfl
section
variable {B : AHeap} {li : Addr} {ad : V8 → Addr × Addr} {rs : List Rec} {H : AHeap}
theorem RecsAt.len (R : RecsAt B li ad rs H) : rs.length ≤ 8 := by have := nodup8 R.nd; simpa using this
theorem RecsAt.uniq (R : RecsAt B li ad rs H) {r r' : Rec} (h : r ∈ rs) (h' : r' ∈ rs) (e : r.k = r'.k) : r = r' := by
 have nd := R.nd
 clear R
 induction rs with
 | nil => cases h
 | cons x l ih =>
   rw [List.map_cons, List.nodup_cons] at nd
   rcases List.mem_cons.mp h with h | h
   · rcases List.mem_cons.mp h' with h' | h'
     · rw [h, h']
     · exact absurd (List.mem_map.mpr ⟨r', h', by rw [← e, h]⟩) nd.1
   · rcases List.mem_cons.mp h' with h' | h'
     · exact absurd (List.mem_map.mpr ⟨r, h, by rw [e, h']⟩) nd.1
     · exact ih h h' nd.2
theorem RecsAt.mov (R : RecsAt B li ad rs H) {H' : AHeap} (b : ∀ a o, B a = some o → H' a = some o) (k : ∀ a o, H a = some o → (a = li ∨ ∃ r ∈ rs, a = (ad r.k).1 ∨ a = (ad r.k).2) → H' a = some o) : RecsAt B li ad rs H' :=
 ⟨b, R.fl, R.fr, k _ _ R.li (.inl rfl), fun r hr => ⟨k _ _ (R.rc r hr).1 (.inr ⟨r, hr, .inl rfl⟩), k _ _ (R.rc r hr).2 (.inr ⟨r, hr, .inr rfl⟩)⟩, R.nd, R.inj⟩
theorem RecsAt.upd (R : RecsAt B li ad rs H) {r : Rec} (hr : r ∈ rs) {f : Rec → Rec} (hf : ∀ r, (f r).k = r.k) : RecsAt B li ad (onK r.k f rs) (H.put (ad r.k).2 (.attrs (f r).attrs)) := by
 have ne : ∀ {a o}, H a = some o → o ≠ .attrs r.attrs → a ≠ (ad r.k).2 := fun h1 h2 z => by
   rw [z, (R.rc r hr).2] at h1
   exact h2 (Option.some.inj h1).symm
 have mem : ∀ x ∈ onK r.k f rs, ∃ y ∈ rs, x.k = y.k ∧ (y.k = r.k ∧ x = f y ∨ y.k ≠ r.k ∧ x = y) := fun x hx => by
   (refine exEA (List.mem_map.mp hx) fun y hy zq0 => ?_; rcases zq0 with rfl)
   refine ⟨y, hy, ?_⟩
   by_cases q : y.k = r.k
   · rw [if_pos q]; exact ⟨hf y, .inl ⟨q, rfl⟩⟩
   · rw [if_neg q]; exact ⟨rfl, .inr ⟨q, rfl⟩⟩
 refine ⟨fun a o h => ?_, R.fl, fun x hx => ?_, ?_, fun x hx => ?_, by rw [onK_keys hf]; exact R.nd, fun x hx y hy e => ?_⟩
 · rw [AHeap.put_ne _ _ (fun z => by rw [z, (R.fr r hr).2] at h; (exact noneE h))]; exact R.base a o h
 · (refine exEAA (mem x hx) fun y hy e _ => ?_)
   rw [e]; exact R.fr y hy
 · rw [AHeap.put_ne _ _ (ne R.li (by simp)), R.li]
   unfold onK
   rw [List.map_map]
   congr 2
   refine List.map_congr_left fun y _ => ?_
   show _ = (vi (if y.k = r.k then f y else y).k, AV.ref (ad (if y.k = r.k then f y else y).k).1)
   split
   · rw [hf y]
   · rfl
 · (refine exEAA (mem x hx) fun y hy e h => ?_)
   rw [e]
   refine ⟨(AHeap.put_ne _ _ (ne (R.rc y hy).1 (by simp))).trans (R.rc y hy).1, ?_⟩
   rcases h with ⟨h1, rfl⟩ | ⟨h1, rfl⟩
   · have : y = r := R.uniq hy hr h1
     subst this
     exact AHeap.put_self _ _ _
   · rw [AHeap.put_ne _ _ (fun z => h1 (R.inj _ hy _ hr z))]
     exact (R.rc _ hy).2
 · (refine exEAA (mem x hx) fun x' hx' e1 _ => ?_)
   (refine exEAA (mem y hy) fun y' hy' e2 _ => ?_)
   rw [e1, e2] at e ⊢
   exact R.inj x' hx' y' hy' e
theorem RecsAt.add (R : RecsAt B li ad rs H) {r : Rec} (hk : hasK r.k rs = false) {x dx : Addr} {H' : AHeap} (hx : H x = none) (hdx : H dx = none) (ix : H' x = some (.inst 478 dx)) (idx : H' dx = some (.attrs r.attrs)) (ot : ∀ a, a ≠ x → a ≠ dx → H' a = H a) :
   RecsAt B li (fun j => if j = r.k then (x, dx) else ad j) (rs ++ [r]) (H'.put li (.idict ((rs.map fun r => (vi r.k, .ref (ad r.k).1)) ++ [(vi r.k, .ref x)]))) := by
 have nk : ∀ y ∈ rs, y.k ≠ r.k := fun y hy e => by rw [hasK_iff.mpr ⟨y, hy, e⟩] at hk; (exact trueE hk)
 have off : ∀ {a o}, H a = some o → a ≠ x ∧ a ≠ dx := fun h => ⟨fun z => (by rw [z, hx] at h; (exact noneE h)), fun z => (by rw [z, hdx] at h; (exact noneE h))⟩
 have old : ∀ {a o}, H a = some o → H' a = some o := fun h => by rw [ot _ (off h).1 (off h).2]; exact h
 have nl : ∀ {a o}, H' a = some o → o ≠ .idict (rs.map fun r => (vi r.k, .ref (ad r.k).1)) → a ≠ li := fun h1 h2 z => by
   rw [z, old R.li] at h1
   exact h2 (Option.some.inj h1).symm
 have Bx : B x = none := by
   cases q : B x with
   | none => rfl
   | some o => rw [R.base x o q] at hx; (exact someE hx)
 have Bdx : B dx = none := by
   cases q : B dx with
   | none => rfl
   | some o => rw [R.base dx o q] at hdx; (exact someE hdx)
 refine ⟨fun a o h => ?_, R.fl, fun y hy => ?_, ?_, fun y hy => ?_, ?_, fun y hy z hz e => ?_⟩
 · rw [AHeap.put_ne _ _ (fun z => by rw [z, R.fl] at h; (exact noneE h))]; exact old (R.base a o h)
 · rcases List.mem_append.mp hy with hy | hy
   · (try dsimp only); rw [if_neg (nk y hy)]; exact R.fr y hy
   · cases List.mem_singleton.mp hy; (try dsimp only); rw [if_pos rfl]; exact ⟨Bx, Bdx⟩
 · rw [AHeap.put_self, List.map_append, List.map_cons, List.map_nil, if_pos rfl]
   congr 3
   refine List.map_congr_left fun y hy => ?_
   rw [if_neg (nk y hy)]
 · rcases List.mem_append.mp hy with hy | hy
   · try dsimp only
     rw [if_neg (nk y hy)]
     have a1 := old (R.rc y hy).1
     have a2 := old (R.rc y hy).2
     exact ⟨(AHeap.put_ne _ _ (nl a1 (by simp))).trans a1, (AHeap.put_ne _ _ (nl a2 (by simp))).trans a2⟩
   · cases List.mem_singleton.mp hy
     try dsimp only
     rw [if_pos rfl]
     exact ⟨(AHeap.put_ne _ _ (nl ix (by simp))).trans ix, (AHeap.put_ne _ _ (nl idx (by simp))).trans idx⟩
 · rw [List.map_append, List.nodup_append]
   refine ⟨R.nd, by simp, fun a ha b hb => ?_⟩
   (refine exEA (List.mem_map.mp ha) fun y hy zq0 => ?_; rcases zq0 with rfl)
   cases List.mem_singleton.mp hb
   exact nk y hy
 · rcases List.mem_append.mp hy with hy | hy <;> rcases List.mem_append.mp hz with hz | hz
   · (try dsimp only at e); rw [if_neg (nk y hy), if_neg (nk z hz)] at e; exact R.inj y hy z hz e
   · cases List.mem_singleton.mp hz
     (try dsimp only at e); rw [if_neg (nk y hy), if_pos rfl] at e
     exact absurd e (off (R.rc y hy).2).2
   · cases List.mem_singleton.mp hy
     (try dsimp only at e); rw [if_neg (nk z hz), if_pos rfl] at e
     exact absurd e.symm (off (R.rc z hz).2).2
   · cases List.mem_singleton.mp hy; cases List.mem_singleton.mp hz; rfl
end
section
variable {D : Nat} {H : AHeap}
theorem s478a : setIn e.G.K 478 ("var" : Str) = true := by kernel_rfl
theorem s478b : setIn e.G.K 478 ("kind" : Str) = true := by kernel_rfl
theorem s478c : setIn e.G.K 478 ("slot" : Str) = true := by kernel_rfl
theorem s478d : setIn e.G.K 478 ("first" : Str) = true := by kernel_rfl
theorem s478e : setIn e.G.K 478 ("unsafe" : Str) = true := by kernel_rfl
theorem s478f : setIn e.G.K 478 ("last_goal" : Str) = true := by kernel_rfl
theorem s478g : setIn e.G.K 478 ("count" : Str) = true := by kernel_rfl
theorem s478h : setIn e.G.K 478 ("first_chunk" : Str) = true := by kernel_rfl
theorem s478i : setIn e.G.K 478 ("last_chunk" : Str) = true := by kernel_rfl
theorem a478g : attrIn e.G.K 478 ("count" : Str) = true := by kernel_rfl
theorem a478h : attrIn e.G.K 478 ("first_chunk" : Str) = true := by kernel_rfl
theorem a478i : attrIn e.G.K 478 ("last_chunk" : Str) = true := by kernel_rfl
theorem a478d : attrIn e.G.K 478 ("first" : Str) = true := by kernel_rfl
theorem a576 : attrIn e.G.K 576 ("infos" : Str) = true := by kernel_rfl
theorem s576 : setIn e.G.K 576 ("infos" : Str) = true := by kernel_rfl
theorem mk478 : makesIn e.G.K 478 = true := by kernel_rfl
theorem in478 : findIn e.G.K (.ref 478) "__init__" = some (some (.ref 475)) := by kernel_rfl
theorem fn475 : isFn e.G.K (.ref 475) = true := by kernel_rfl
theorem k478n : nsIn e.G.K mainGlobals ("VarInfo" : Str) = some (some (.ref 478)) := by kernel_rfl
theorem k478 : keepIn e.G.K (.ref 478) = true := by kernel_rfl
theorem m576m : methIn e.G.K 576 ("meet" : Str) 566 = true := by kernel_rfl
theorem m576t : methIn e.G.K 576 ("terms" : Str) 573 = true := by kernel_rfl
theorem k147n : nsIn e.G.K mainGlobals ("occurrences" : Str) = some (some (.ref 147)) := by kernel_rfl
theorem k147 : keepIn e.G.K (.ref 147) = true := by kernel_rfl
end
theorem kw69 : True := by
 k_with "wf" => (first | (with_reducible first | exact s478a | exact s478b | exact s478c | exact s478d | exact s478e | exact s478f | exact s478g | exact s478h | exact s478i | exact a478g | exact a478h | exact a478i | exact a478d | exact a576 | exact s576 | exact k478n | exact k478 | exact k147n | exact k147) | fail)
 trivial
section
variable {D : Nat} {H : AHeap}
end
theorem kw70 : True := by
 k_with "wz" => (first | (first | (refine W1.assignAttr ?_) | (refine W1.augAttr ?_)) | fail)
 trivial
section
variable {D : Nat} {H : AHeap}
end
theorem kw71 : True := by
 k_with "wx" => (first | ((focus (refine' SaP.of (x := _) (C := _) (dx := _) (as := _) ?_ ?_ ?_ ?_ ?_; rotate_right 5; (· k_extra "hfr"); (· k_extra "hfr"); (· k_extra "wf"); (· exact Nat.le_of_ble_eq_true rfl)))) | fail)
 trivial
section
variable {D : Nat} {H : AHeap}
theorem gAug {H : AHeap} {x C dx : Addr} {as : List (Str × AV)} {name : Str} {K : Frag} {P : List (Str × AV) → Prop} (a1 : H x = some (.inst C dx)) (a2 : H dx = some (.attrs as)) (a3 : setIn K C name = true) (a4 : as.length ≤ 900) (h : P as) :
   ∃ as', H x = some (.inst C dx) ∧ H dx = some (.attrs as') ∧ setIn K C name = true ∧ as'.length ≤ 900 ∧ P as' := ⟨as, a1, a2, a3, a4, h⟩
end
theorem kw72 : True := by
 k_with "wx" => (first | ((focus (refine' ⟨_, _, _, _, _, rfl, ?_, ?_, ?_, ?_, ?_, ?_⟩; rotate_right 6; (· k_extra "hfr"); (· k_extra "hfr"); (· (first | with_reducible assumption | exact rfl)); (· exact rfl); (· k_extra "wf")))) | fail)
 trivial
section
variable {D : Nat} {H : AHeap}
end
theorem kw73 : True := by
 k_with "wx" => (first | ((focus (refine' gAug ?_ ?_ ?_ ?_ ?_; rotate_right 5; (· k_extra "hfr"); (· k_extra "hfr"); (· k_extra "wf"); (· exact Nat.le_of_ble_eq_true rfl)))) | fail)
 trivial
section
variable {D : Nat} {H : AHeap}
theorem mkInfo_ok (k : V8) (first : Str) {Q : AQ} (h : ∀ x dx H', H x = none → H dx = none → H' x = some (.inst 478 dx) → H' dx = some (.attrs (Rec.new k first).attrs) → (∀ a, a ≠ x → a ≠ dx → H' a = H a) → Q (.ref x) H') : WC e.G (D + 2) (.ref 478) [.int (vi k), .str first] H Q := by
 refine WC.make mk478 in478 fn475 fun x dx hx hdx ne => ?_
 refine WC.enterF (ns := ["self", "k", "first"]) (by kernel_rfl) (by kernel_rfl) rfl (bind3 (by intro x y z; kernel_rfl)) ?_
 k_extra "norm_m"
 k_extra "wg"
 refine ⟨_, rfl, ?_⟩
 k_extra "wg"
 refine ⟨rfl, h x dx _ hx hdx (by k_extra "hp") (by k_extra "hp") fun a n1 n2 => ?_⟩
 simp only [AHeap.put, n1, n2, ↓reduceIte]
structure SvAt (B : AHeap) (su sd li : Addr) (ad : V8 → Addr × Addr) (rs : List Rec) (H : AHeap) : Prop where
 R : RecsAt B li ad rs H
 hu : H su = some (.inst 576 sd)
 hs : H sd = some (.attrs [("infos", .ref li)])
 fb : B su = none ∧ B sd = none
 ns : ∀ r ∈ rs, (ad r.k).2 ≠ sd
theorem SvAt.upd {B su sd li ad rs H} (S : SvAt B su sd li ad rs H) {r : Rec} (hr : r ∈ rs) {f : Rec → Rec} (hf : ∀ r, (f r).k = r.k) : SvAt B su sd li ad (onK r.k f rs) (H.put (ad r.k).2 (.attrs (f r).attrs)) := by
 have n1 : su ≠ (ad r.k).2 := fun z => by have := S.hu; rw [z, (S.R.rc r hr).2] at this; cases this
 refine ⟨S.R.upd hr hf, (AHeap.put_ne _ _ n1).trans S.hu, (AHeap.put_ne _ _ (S.ns r hr).symm).trans S.hs, S.fb, fun x hx => ?_⟩
 (refine exEA (List.mem_map.mp hx) fun y hy zq0 => ?_; rcases zq0 with rfl)
 split
 · rw [hf]; exact S.ns y hy
 · exact S.ns y hy
theorem put_new {ad : V8 → Addr × Addr} {rs : List Rec} {k : V8} {x : Addr} (h : hasK k rs = false) : putD (vi k) (AV.ref x) (rs.map fun r => (vi r.k, AV.ref (ad r.k).1)) = (rs.map fun r => (vi r.k, AV.ref (ad r.k).1)) ++ [(vi k, .ref x)] := by
 rw [putD_keys]
 intro z
 rw [List.map_map] at z
 (refine exEA (List.mem_map.mp z) fun r hr e => ?_)
 rw [hasK_iff.mpr ⟨r, hr, vi_inj e⟩] at h
 (exact trueE h)
theorem SvAt.add {B su sd li ad rs H} (S : SvAt B su sd li ad rs H) {r : Rec} (hk : hasK r.k rs = false) {x dx : Addr} {H' : AHeap} (hx : H x = none) (hdx : H dx = none) (ix : H' x = some (.inst 478 dx)) (idx : H' dx = some (.attrs r.attrs)) (ot : ∀ a, a ≠ x → a ≠ dx → H' a = H a) :
   SvAt B su sd li (fun j => if j = r.k then (x, dx) else ad j) (rs ++ [r]) (H'.put li (.idict ((rs.map fun r => (vi r.k, .ref (ad r.k).1)) ++ [(vi r.k, .ref x)]))) := by
 have off : ∀ {a o}, H a = some o → a ≠ x ∧ a ≠ dx := fun h => ⟨fun z => (by rw [z, hx] at h; (exact noneE h)), fun z => (by rw [z, hdx] at h; (exact noneE h))⟩
 have n1 : su ≠ li := ne_of_heap S.hu S.R.li (by simp)
 have n2 : sd ≠ li := ne_of_heap S.hs S.R.li (by simp)
 refine ⟨S.R.add hk hx hdx ix idx ot, (AHeap.put_ne _ _ n1).trans ((ot _ (off S.hu).1 (off S.hu).2).trans S.hu), (AHeap.put_ne _ _ n2).trans ((ot _ (off S.hs).1 (off S.hs).2).trans S.hs), S.fb, fun y hy => ?_⟩
 rcases List.mem_append.mp hy with hy | hy
 · by_cases q : y.k = r.k
   · rw [if_pos q]; exact (off S.hs).2.symm
   · rw [if_neg q]; exact S.ns y hy
 · cases List.mem_singleton.mp hy
   rw [if_pos rfl]; exact (off S.hs).2.symm
theorem onK_new {k : V8} {rs : List Rec} {r : Rec} (h : hasK k rs = false) (hr : r.k = k) (f : Rec → Rec) : onK k f (rs ++ [r]) = rs ++ [f r] := by
 unfold onK
 rw [List.map_append, List.map_cons, List.map_nil, if_pos hr]
 congr 1
 conv => rhs; rw [← List.map_id rs]
 refine List.map_congr_left fun y hy => ?_
 rw [if_neg (fun z => by rw [hasK_iff.mpr ⟨y, hy, z⟩] at h; (exact trueE h))]; rfl
theorem meet_ok {B su sd li ad rs} (S : SvAt B su sd li ad rs H) (k : V8) (first : Str) (goal chunk count : Int) {Q : AQ} (h : ∀ ad' H', SvAt B su sd li ad' (meetM k first goal chunk count rs) H' → Q .none H') : WC e.G (D + 3) (.ref 566) [.ref su, .int (vi k), .str first, .int goal, .int chunk, .int count] H Q := by
 refine WC.enterF (ns := ["self", "k", "first", "goal", "chunk", "count"]) (by kernel_rfl) (by kernel_rfl) rfl (bind6 (by intro x y z u v w; kernel_rfl)) ?_
 k_extra "norm_m"
 refine WS.seq (fun m1 H1 => Sub [("self", .ref su), ("k", .int (vi k)), ("goal", .int goal), ("chunk", .int chunk), ("count", .int count)] m1 ∧ ∃ ad1, SvAt B su sd li ad1 (if hasK k rs then rs else rs ++ [{ Rec.new k first with fc := chunk }]) H1) ?_ ?_
 · have h1 := S.hu
   have h2 := S.hs
   have h3 := S.R.li
   k_extra "wg"
   rw [look_is]
   cases hk : hasK k rs with
   | true =>
     k_extra "wg"
     exact ⟨rfl, Sub.cons rfl (Sub.cons rfl (Sub.cons rfl (Sub.cons rfl (Sub.cons rfl Sub.nil)))), ad, by simpa using S⟩
   | false =>
     k_extra "wg"
     refine mkInfo_ok k first fun x dx H1 hx hdx ix idx ot => ?_
     have off : ∀ {a o}, H a = some o → H1 a = some o := fun {a o} h => by rw [ot a (fun z => by rw [z, hx] at h; (exact noneE h)) (fun z => by rw [z, hdx] at h; (exact noneE h))]; exact h
     have g1 := off h1
     have g2 := off h2
     have g3 := off h3
     have S2 := S.add (r := Rec.new k first) hk hx hdx ix idx ot
     clear h1 h2 h3
     k_extra "wg"
     refine WSt.idict g3 (by have := S.R.len; simp; (exact Nat.le_trans (by assumption) (Nat.le_of_ble_eq_true rfl))) ?_
     rw [put_new hk]
     have d1 := S2.hu
     have d2 := S2.hs
     have d3 := S2.R.li
     have hm : Rec.new k first ∈ rs ++ [Rec.new k first] := by simp
     (refine exA (S2.R.rc _ hm) fun r1 r2 => ?_)
     have S3 := S2.upd hm (f := fun r => { r with fc := chunk }) (fun _ => rfl)
     rw [show (Rec.new k first).k = k from rfl] at S3 r1 r2 d3
     rw [onK_new hk (show (Rec.new k first).k = k from rfl)] at S3
     rw [if_pos rfl] at r1 r2 S3
     have lk2 : (rs.map (fun r : Rec => (vi r.k, AV.ref (ad r.k).1)) ++ [(vi k, AV.ref x)]).lookup (vi k) = some (.ref x) := by
       rw [← put_new hk, putD_lookup, if_pos rfl]
     have d4 := AHeap.put_self H1 li (.idict (rs.map (fun r => (vi r.k, AV.ref (ad r.k).1)) ++ [(vi k, .ref x)]))
     change SvAt B su sd li (fun j => if j = k then (x, dx) else ad j) _ ((H1.put li (.idict (rs.map (fun r => (vi r.k, AV.ref (ad r.k).1)) ++ [(vi k, .ref x)]))).put dx _) at S3
     change H1.put li (.idict (rs.map (fun r => (vi r.k, AV.ref (ad r.k).1)) ++ [(vi k, .ref x)])) x = some (.inst 478 dx) at r1
     change H1.put li (.idict (rs.map (fun r => (vi r.k, AV.ref (ad r.k).1)) ++ [(vi k, .ref x)])) dx = some (.attrs (Rec.new k first).attrs) at r2
     change H1.put li (.idict (rs.map (fun r => (vi r.k, AV.ref (ad r.k).1)) ++ [(vi k, .ref x)])) su = _ at d1
     change H1.put li (.idict (rs.map (fun r => (vi r.k, AV.ref (ad r.k).1)) ++ [(vi k, .ref x)])) sd = _ at d2
     clear d3 g1 g2 g3 S2
     generalize (H1.put li (.idict (rs.map (fun r => (vi r.k, AV.ref (ad r.k).1)) ++ [(vi k, .ref x)]))) = H2 at *
     k_extra "wg"
     refine WI.idict d4 rfl lk2 ?_
     k_extra "wg"
     exact ⟨rfl, Sub.cons rfl (Sub.cons rfl (Sub.cons rfl (Sub.cons rfl (Sub.cons rfl Sub.nil)))), _, S3⟩
 · (intro m1; intro H1; intro zq0; refine exAE (zq0) fun l1 ad1 S1 => ?_; clear zq0)
   refine WS.weak l1 ?_
   clear S l1
   obtain ⟨r, hr, hrk⟩ : ∃ r ∈ (if hasK k rs then rs else rs ++ [{ Rec.new k first with fc := chunk }]), r.k = k := by
     cases hk : hasK k rs with
     | true => simpa using hasK_iff.mp hk
     | false => exact ⟨{ Rec.new k first with fc := chunk }, by simp, rfl⟩
   have em : meetM k first goal chunk count rs = onK k (Rec.met goal chunk count) (if hasK k rs then rs else rs ++ [{ Rec.new k first with fc := chunk }]) := rfl
   rw [em] at h
   generalize (if hasK k rs then rs else rs ++ [{ Rec.new k first with fc := chunk }]) = rs1 at *
   subst hrk
   have d1 := S1.hu
   have d2 := S1.hs
   have d3 := S1.R.li
   (refine exA (S1.R.rc _ hr) fun r1 r2 => ?_)
   have lk := look_some (ad := ad1) ⟨r, hr, rfl⟩
   have S3 := S1.upd hr (f := Rec.met goal chunk count) (fun _ => rfl)
   have put2 : ∀ {H : AHeap} {a : Addr} {o o' : AO}, (H.put a o).put a o' = H.put a o' := fun {H a o o'} => by funext b; simp only [AHeap.put]; split <;> rfl
   have n1 : (ad1 r.k).1 ≠ (ad1 r.k).2 := ne_of_heap r1 r2 (by simp)
   k_extra "wg"
   refine WI.idict d3 rfl lk ?_
   k_extra "wg"
   rw [put2, put2]
   exact h _ _ S3
end
section
variable {B : AHeap} {su sd li : Addr} {ad : V8 → Addr × Addr} {rs : List Rec} {H : AHeap}
theorem SvAt.mov (S : SvAt B su sd li ad rs H) {B' H' : AHeap} (b : ∀ a o, B' a = some o → H' a = some o) (nb : ∀ a, B' a = none ∨ (a ≠ su ∧ a ≠ sd ∧ a ≠ li ∧ ∀ r ∈ rs, a ≠ (ad r.k).1 ∧ a ≠ (ad r.k).2)) (k : ∀ a o, H a = some o → (a = su ∨ a = sd ∨ a = li ∨ ∃ r ∈ rs, a = (ad r.k).1 ∨ a = (ad r.k).2) → H' a = some o) : SvAt B' su sd li ad rs H' := by
 have n : ∀ a, (a = su ∨ a = sd ∨ a = li ∨ ∃ r ∈ rs, a = (ad r.k).1 ∨ a = (ad r.k).2) → B' a = none := fun a h => by
   rcases nb a with q | ⟨q1, q2, q3, q4⟩
   · exact q
   · rcases h with h | h | h | ⟨r, hr, h | h⟩
     · exact absurd h q1
     · exact absurd h q2
     · exact absurd h q3
     · exact absurd h (q4 r hr).1
     · exact absurd h (q4 r hr).2
 exact ⟨⟨b, n _ (.inr (.inr (.inl rfl))), fun r hr => ⟨n _ (.inr (.inr (.inr ⟨r, hr, .inl rfl⟩))), n _ (.inr (.inr (.inr ⟨r, hr, .inr rfl⟩)))⟩, k _ _ S.R.li (.inr (.inr (.inl rfl))), fun r hr => ⟨k _ _ (S.R.rc r hr).1 (.inr (.inr (.inr ⟨r, hr, .inl rfl⟩))), k _ _ (S.R.rc r hr).2 (.inr (.inr (.inr ⟨r, hr, .inr rfl⟩)))⟩, S.R.nd, S.R.inj⟩,
   k _ _ S.hu (.inl rfl), k _ _ S.hs (.inr (.inl rfl)), ⟨n _ (.inl rfl), n _ (.inr (.inl rfl))⟩, S.ns⟩
theorem SvAt.own (S : SvAt B su sd li ad rs H) {a : Addr} {o : AO} (h : B a = some o) : a ≠ su ∧ a ≠ sd ∧ a ≠ li ∧ ∀ r ∈ rs, a ≠ (ad r.k).1 ∧ a ≠ (ad r.k).2 :=
 ⟨fun z => (by rw [z, S.fb.1] at h; (exact noneE h)), fun z => (by rw [z, S.fb.2] at h; (exact noneE h)), fun z => (by rw [z, S.R.fl] at h; (exact noneE h)), fun r hr => ⟨fun z => (by rw [z, (S.R.fr r hr).1] at h; (exact noneE h)), fun z => (by rw [z, (S.R.fr r hr).2] at h; (exact noneE h))⟩⟩
theorem SvAt.off (S : SvAt B su sd li ad rs H) {a : Addr} (h : H a = none) : a ≠ su ∧ a ≠ sd ∧ a ≠ li ∧ ∀ r ∈ rs, a ≠ (ad r.k).1 ∧ a ≠ (ad r.k).2 :=
 ⟨fun z => (by rw [z, S.hu] at h; (exact someE h)), fun z => (by rw [z, S.hs] at h; (exact someE h)), fun z => (by rw [z, S.R.li] at h; (exact someE h)), fun r hr => ⟨fun z => (by rw [z, (S.R.rc r hr).1] at h; (exact someE h)), fun z => (by rw [z, (S.R.rc r hr).2] at h; (exact someE h))⟩⟩
theorem SvAt.ext (S : SvAt B su sd li ad rs H) {l : Addr} {o : AO} {H' : AHeap} (h0 : H l = none) (F : Fram [] H H') (h1 : H' l = some o) : SvAt (B.put l o) su sd li ad rs H' :=
 S.mov (fun a x q => by
     by_cases z : a = l
     · subst z; rw [AHeap.put_self] at q; cases q; exact h1
     · rw [AHeap.put_ne _ _ z] at q; exact F a x (S.R.base a x q) (by (exact fun h => nomatch h)))
   (fun a => by
     by_cases z : a = l
     · subst z; exact .inr (S.off h0)
     · rw [AHeap.put_ne _ _ z]
       cases q : B a with
       | none => exact .inl rfl
       | some x => exact .inr (S.own q)) (fun a x q _ => F a x q (by (exact fun h => nomatch h)))
theorem SvAt.close {l : Addr} {o : AO} (S : SvAt (B.put l o) su sd li ad rs H) (hB : B l = none) (o' : AO) : SvAt B su sd li ad rs (H.put l o') := by
 have q := S.own (AHeap.put_self B l o)
 refine S.mov (fun a x z => ?_) (fun a => ?_) fun a x z h => ?_
 · have ne : a ≠ l := fun y => by rw [y, hB] at z; (exact noneE z)
   rw [AHeap.put_ne _ _ ne]
   exact S.R.base a x ((AHeap.put_ne _ _ ne).trans z)
 · cases z : B a with
   | none => exact .inl rfl
   | some x =>
     have ne : a ≠ l := fun y => by rw [y, hB] at z; (exact noneE z)
     exact .inr (S.own ((AHeap.put_ne _ _ ne).trans z))
 · rw [AHeap.put_ne _ _ (fun y => ?_)]
   · exact z
   · subst y
     rcases h with h | h | h | ⟨r, hr, h | h⟩
     · exact q.1 h
     · exact q.2.1 h
     · exact q.2.2.1 h
     · exact (q.2.2.2 r hr).1 h
     · exact (q.2.2.2 r hr).2 h
theorem SvAt.less {l : Addr} {o : AO} (S : SvAt (B.put l o) su sd li ad rs H) (hB : B l = none) : SvAt B su sd li ad rs H := by
 have e : ∀ {a x}, B a = some x → (B.put l o) a = some x := fun {a x} z => (AHeap.put_ne _ _ (fun y => by rw [y, hB] at z; (exact noneE z))).trans z
 exact S.mov (fun a x z => S.R.base a x (e z)) (fun a => by
   cases z : B a with
   | none => exact .inl rfl
   | some x => exact .inr (S.own (e z))) fun a x z _ => z
theorem SvAt.re {l : Addr} {o : AO} (S : SvAt (B.put l o) su sd li ad rs H) (o' : AO) : SvAt (B.put l o') su sd li ad rs (H.put l o') := by
 have q := S.own (AHeap.put_self B l o)
 refine S.mov (fun a x z => ?_) (fun a => ?_) fun a x z h => ?_
 · by_cases y : a = l
   · subst y; rw [AHeap.put_self] at z ⊢; exact z
   · rw [AHeap.put_ne _ _ y] at z ⊢
     exact S.R.base a x ((AHeap.put_ne _ _ y).trans z)
 · by_cases y : a = l
   · subst y; exact .inr q
   · rw [AHeap.put_ne _ _ y]
     cases z : B a with
     | none => exact .inl rfl
     | some x => exact .inr (S.own ((AHeap.put_ne _ _ y).trans z))
 · rw [AHeap.put_ne _ _ (fun y => ?_)]
   · exact z
   · subst y
     rcases h with h | h | h | ⟨r, hr, h | h⟩
     · exact q.1 h
     · exact q.2.1 h
     · exact q.2.2.1 h
     · exact (q.2.2.2 r hr).1 h
     · exact (q.2.2.2 r hr).2 h
end
section
variable {D : Nat} {H : AHeap}
end
theorem kw74 : True := by
 k_with "wf" => (first | (with_reducible first | exact m576m | exact m576t) | fail)
 trivial
section
variable {D : Nat} {H : AHeap}
end
theorem kw75 : True := by
 k_with "we" => (first | ((focus ((guard_target =~ WE _ _ _ _ (.Call (.Attribute (.Name ("self" : Str) _) _ _) _ [] _) _ _ _); refine' WE.callM (WE.name rfl (CmP.of (x := _) (C := _) (dx := _) (f := _) (as := _) ?_ ?_ ?_ ?_ ?_)); rotate_right 5; (· k_extra "hfr"); (· k_extra "hfr"); (· (first | with_reducible assumption | exact rfl)); (· k_extra "wf")))) | fail)
 trivial
section
variable {D : Nat} {H : AHeap}
end
theorem kw76 : True := by
 k_with "wk" => (first | (first | (refine' WE.callK k133n k133 ?_) | (refine' WE.callK k147n k147 ?_)) | fail)
 trivial
section
variable {D : Nat} {H : AHeap}
noncomputable def Tm.met (place : Str) (goal chunk : Int) (t : Tm) (rs : List Rec) : List Rec := match t with
 | .v k => meetM k (place ++ "_arg") goal chunk 1 rs
 | t => meetsM place goal chunk t t.vars rs
theorem Tm.met_n {place : Str} {goal chunk : Int} {t : Tm} {rs : List Rec} (h : t.isV = false) : t.met place goal chunk rs = meetsM place goal chunk t t.vars rs := by cases t <;> first | rfl | (exact trueE h)
theorem termsM_cons (place : Str) (goal chunk : Int) (t : Tm) (r : List Tm) (rs : List Rec) : termsM place goal chunk (t :: r) rs = termsM place goal chunk r (t.met place goal chunk rs) := by cases t <;> rfl
theorem Tm.cases2 (t : Tm) : (∃ k, t = .v k) ∨ t.isV = false := by cases t <;> simp [TmisV_v, TmisV_a, TmisV_i, TmisV_s1, TmisV_s2]
theorem argL : (Str.ofString "_arg").length = 4 := by decide +kernel
theorem structL : (Str.ofString "_struct").length = 7 := by decide +kernel
theorem terms_ok {B su sd li ad rs} (S : SvAt B su sd li ad rs H) (ts : List Tm) (hz : ∀ t ∈ ts, t.size ≤ 400) (place : Str) (hp : place.length ≤ 100) (goal chunk : Int) {Q : AQ} (h : ∀ ad' H', SvAt B su sd li ad' (termsM place goal chunk ts rs) H' → Q .none H') :
   WC e.G (D + 4) (.ref 573) [.ref su, .tup (ts.map Tm.av), .str place, .int goal, .int chunk] H Q := by
 refine WC.enterF (ns := ["self", "terms", "place", "goal", "chunk"]) (by kernel_rfl) (by kernel_rfl) rfl (bind5 (by intro x y z u v; kernel_rfl)) ?_
 k_extra "norm_m"
 k_extra "wg"
 refine W1.forTup (WE.name rfl ⟨_, rfl, ?_⟩)
 refine ForN.rule (fun rest m' H' => ∃ rs' ad', Sub [("self", .ref su), ("place", .str place), ("goal", .int goal), ("chunk", .int chunk)] m' ∧ SvAt B su sd li ad' rs' H' ∧ termsM place goal chunk rest rs' = termsM place goal chunk ts rs ∧ ∀ t ∈ rest, t.size ≤ 400) (fun t rest m1 H1 I kp => ?_) (fun m1 H1 I kp => ?_) ts trivial ⟨rs, ad, Sub.cons rfl (Sub.cons rfl (Sub.cons rfl (Sub.cons rfl Sub.nil))), S, rfl, hz⟩
 · (refine exEEAAA (I) fun rs1 ad1 i1 S1 e1 z1 => ?_; clear I)
   refine WS.weak (m' := [("term", t.av), ("self", .ref su), ("place", .str place), ("goal", .int goal), ("chunk", .int chunk)]) (Sub.cons rfl (Sub.cons (i1 _ _ rfl) (Sub.cons (i1 _ _ rfl) (Sub.cons (i1 _ _ rfl) (Sub.cons (i1 _ _ rfl) Sub.nil))))) ?_
   rw [termsM_cons] at e1
   have d1 := S1.hu
   have d2 := S1.hs
   have zt := z1 t (.head _)
   have z2 : ∀ t ∈ rest, t.size ≤ 400 := fun t ht => z1 t (.tail _ ht)
   rcases t.cases2 with ⟨k, rfl⟩ | hV
   · k_extra "wg"
     refine WOp.addS (by rw [argL]; lia) ?_
     k_extra "wg"
     refine meet_ok S1 k (place ++ "_arg") goal chunk 1 fun ad2 H2 S2 => ?_
     k_extra "wg"
     exact ⟨trivial, _, ad2, Sub.cons rfl (Sub.cons rfl (Sub.cons rfl (Sub.cons rfl Sub.nil))), S2, e1, z2⟩
   · rw [Tm.met_n hV] at e1
     k_extra "wg"
     refine occs_ok t (by lia) fun lc H2 es hlc h2 hes F2 => ?_
     have S2 := S1.ext hlc F2 h2
     have BL : B lc = none := by
       cases q : B lc with
       | none => rfl
       | some o => rw [S1.R.base _ _ q] at hlc; (exact someE hlc)
     clear S1 d1 d2
     have d1 := S2.hu
     have d2 := S2.hs
     k_extra "wg"
     refine W1.forList ?_
     k_extra "wg"
     refine vars_ok t (by lia) fun lv H3 hlv h3 F3 => ?_
     have S3 := S2.ext hlv F3 h3
     have BL2 : (B.put lc (.idict es)) lv = none := by
       cases q : (B.put lc (.idict es)) lv with
       | none => rfl
       | some o => rw [S2.R.base _ _ q] at hlv; (exact someE hlv)
     refine ⟨lv, _, rfl, h3, fun ob => ?_⟩
     have hne : lc ≠ lv := fun z => by rw [← z, AHeap.put_self] at BL2; (exact someE BL2)
     have S4 := S3.re (.ro (.list (t.vars.map fun k => .int (vi k))) ob)
     clear S2 S3
     refine ForN.rule (f := fun k => AV.int (vi k)) (fun rest' m' H' => ∃ rs' ad', Sub [("self", .ref su), ("place", .str place), ("goal", .int goal), ("chunk", .int chunk), ("counts", .ref lc), ("term", t.av)] m' ∧ SvAt ((B.put lc (.idict es)).put lv (.ro (.list (t.vars.map fun k => .int (vi k))) ob)) su sd li ad' rs' H' ∧ meetsM place goal chunk t rest' rs' = meetsM place goal chunk t t.vars rs1 ∧ ∀ k ∈ rest', k ∈ t.occs) (fun k rest' m2 H4 I kp => ?_) (fun m2 H4 I kp => ?_) t.vars (AHeap.put_self _ _ _) ⟨rs1, ad1, Sub.cons rfl (Sub.cons rfl (Sub.cons rfl (Sub.cons rfl (Sub.cons rfl (Sub.cons rfl Sub.nil))))), S4, rfl, fun k hk => (mem_vars t).mp hk⟩
     · (refine exEEAAA (I) fun rs2 ad2 i2 S5 e2 oc => ?_; clear I)
       refine WS.weak (m' := [("k", .int (vi k)), ("self", .ref su), ("place", .str place), ("goal", .int goal), ("chunk", .int chunk), ("counts", .ref lc), ("term", t.av)]) (Sub.cons rfl (Sub.cons (i2 _ _ rfl) (Sub.cons (i2 _ _ rfl) (Sub.cons (i2 _ _ rfl) (Sub.cons (i2 _ _ rfl) (Sub.cons (i2 _ _ rfl) (Sub.cons (i2 _ _ rfl) Sub.nil))))))) ?_
       have d1 := S5.hu
       have d2 := S5.hs
       have d3 : H4 lc = some (.idict es) := S5.R.base _ _ ((AHeap.put_ne _ _ hne).trans (AHeap.put_self _ _ _))
       k_extra "wg"
       refine WOp.addS (by rw [structL]; lia) ?_
       k_extra "wg"
       refine WI.idict d3 rfl (hes k (oc k (.head _))) ?_
       k_extra "wg"
       refine meet_ok S5 k (place ++ "_struct") goal chunk (t.occs.count k) fun ad3 H5 S6 => ?_
       k_extra "wg"
       exact ⟨S6.R.base _ _ (AHeap.put_self _ _ _), _, ad3, Sub.cons rfl (Sub.cons rfl (Sub.cons rfl (Sub.cons rfl (Sub.cons rfl (Sub.cons rfl Sub.nil))))), S6, e2, fun j hj => oc j (.tail _ hj)⟩
     · (refine exEEAAA (I) fun rs2 ad2 i2 S5 e2 oc => ?_; clear I)
       have S6 := (S5.close BL2 (.list (t.vars.map fun k => .int (vi k)))).less BL
       k_extra "wg"
       exact ⟨trivial, _, ad2, Sub.cons (i2 _ _ rfl) (Sub.cons (i2 _ _ rfl) (Sub.cons (i2 _ _ rfl) (Sub.cons (i2 _ _ rfl) Sub.nil))), S6, by rw [show rs2 = meetsM place goal chunk t t.vars rs1 from e2]; exact e1, z2⟩
 · (refine exEEAAA (I) fun rs1 ad1 i1 S1 e1 z1 => ?_; clear I)
   refine WS.nil ?_
   exact h ad1 H1 (e1 ▸ S1)
end
noncomputable def recAt (rs : List Rec) (k : V8) : Rec := (rs.find? fun r => decide (r.k = k)).getD (Rec.new k "")
noncomputable def kindOfM (r : Rec) : Kind := if r.count = 1 then .void else if r.fc < r.lc then .perm else .temp
noncomputable def all8 : List V8 := [0, 1, 2, 3, 4, 5, 6, 7]
noncomputable def keys8 (rs : List Rec) : List V8 := all8.filter fun k => hasK k rs
noncomputable def backM (f : V8 → Int) (l : Int) (order : List V8) : Nat → Nat
 | 0 => 0
 | n + 1 => if f (order.getD n 0) < l then backM f l order n else n + 1
noncomputable def insAt (order : List V8) (n : Nat) (k : V8) : List V8 := order.take n ++ k :: order.drop n
noncomputable def orderStep (rs : List Rec) (order : List V8) (k : V8) : List V8 :=
 if (recAt rs k).kind = .perm then insAt order (backM (fun j => (recAt rs j).last) (recAt rs k).last order order.length) k else order
noncomputable def orderM (rs : List Rec) (ks : List V8) (order : List V8) : List V8 := ks.foldl (orderStep rs) order
noncomputable def liveM (f : V8 → Int) (i : Int) : List V8 → Nat
 | [] => 0
 | k :: r => if i < f k then liveM f i r + 1 else 0
theorem liveM_n : ∀ f i, liveM f i [] = 0 := fun _ _ => rfl
theorem liveM_c : ∀ f i k r, liveM f i (k :: r) = if i < f k then liveM f i r + 1 else 0 := fun _ _ _ _ => rfl
noncomputable def Rec.slotted (n : Int) (r : Rec) : Rec := { r with slot := n, uns := r.first == ("goal_arg" : Str) }
noncomputable def slotsM : List V8 → Int → List Rec → List Rec
 | [], _, rs => rs
 | k :: r, n, rs => slotsM r (n + 1) (onK k (Rec.slotted (n + 1)) rs)
theorem slotsM_n : ∀ n rs, slotsM [] n rs = rs := fun _ _ => rfl
theorem slotsM_c : ∀ k r n rs, slotsM (k :: r) n rs = slotsM r (n + 1) (onK k (Rec.slotted (n + 1)) rs) := fun _ _ _ _ => rfl
noncomputable def specialM (g : Goal) (i chunk : Int) (rs : List Rec) : List Rec := match g with
 | .level k => meetM k "special" i chunk 1 rs
 | .mark k => meetM k "special" i chunk 1 rs
 | .cutto k => meetM k "special" i chunk 1 rs
 | _ => rs
noncomputable def surveyM : List Goal → Int → Int → List Rec → List Rec
 | [], _, _, rs => rs
 | g :: r, i, chunk, rs => surveyM r (i + 1) (if g.isCall then chunk + 1 else chunk) (termsM "goal" i chunk g.terms (specialM g i chunk rs))
theorem surveyM_n : ∀ i c rs, surveyM [] i c rs = rs := fun _ _ _ => rfl
theorem surveyM_c : ∀ g r i c rs, surveyM (g :: r) i c rs = surveyM r (i + 1) (if g.isCall then c + 1 else c) (termsM "goal" i c g.terms (specialM g i c rs)) := fun _ _ _ _ _ => rfl
noncomputable def needsM : List Goal → Bool
 | [] => false
 | [_] => false
 | g :: r => g.isCall || needsM r
theorem needsM_n : needsM [] = false := rfl
theorem needsM_o : ∀ g, needsM [g] = false := fun _ => rfl
theorem needsM_c : ∀ g h r, needsM (g :: h :: r) = (g.isCall || needsM (h :: r)) := fun _ _ _ => rfl
noncomputable def rs0M (heads : List Tm) (goals : List Goal) : List Rec := surveyM goals 0 0 (termsM "head" (-1) 0 heads [])
noncomputable def Rec.kinded (r : Rec) : Rec := { r with kind := kindOfM r }
noncomputable def kindsM : List V8 → List Rec → List Rec
 | [], rs => rs
 | k :: r, rs => kindsM r (onK k Rec.kinded rs)
theorem kindsM_n : ∀ rs, kindsM [] rs = rs := fun _ => rfl
theorem kindsM_c : ∀ k r rs, kindsM (k :: r) rs = kindsM r (onK k Rec.kinded rs) := fun _ _ _ => rfl
noncomputable def rs1M (heads : List Tm) (goals : List Goal) : List Rec := kindsM ((rs0M heads goals).map (·.k)) (rs0M heads goals)
noncomputable def ordM (heads : List Tm) (goals : List Goal) : List V8 := orderM (rs1M heads goals) (keys8 (rs1M heads goals)) []
noncomputable def rs2M (heads : List Tm) (goals : List Goal) : List Rec := slotsM (ordM heads goals) 0 (rs1M heads goals)
noncomputable def planM (heads : List Tm) (goals : List Goal) : PlanM :=
 let rs := rs2M heads goals
 let ord := ordM heads goals
 { dom := fun k => hasK k rs, kind := fun k => (recAt rs k).kind, slot := fun k => (recAt rs k).slot, uns := fun k => (recAt rs k).uns, last := fun k => (recAt rs k).last,
   needs := needsM goals, size := ord.length, live := (List.range goals.length).map fun (i : Nat) => ((liveM (fun k => (recAt rs k).last) (i : Int) ord : Nat) : Int) }
theorem recAt_mem {rs : List Rec} {k : V8} (h : hasK k rs = true) : recAt rs k ∈ rs ∧ (recAt rs k).k = k := by
 (refine exEA (hasK_iff.mp h) fun r hr e => ?_)
 unfold recAt
 cases q : rs.find? fun r => decide (r.k = k) with
 | none => exact absurd e (by simpa using List.find?_eq_none.mp q r hr)
 | some x =>
   have h1 := List.mem_of_find?_eq_some q
   have h2 := List.find?_some q
   exact ⟨h1, by simpa using h2⟩
theorem hasK_onK {k j : V8} {f : Rec → Rec} (hf : ∀ r, (f r).k = r.k) (rs : List Rec) : hasK j (onK k f rs) = hasK j rs := by
 unfold hasK onK
 rw [List.any_map]
 congr 1
 funext r
 show decide ((if r.k = k then f r else r).k = j) = _
 split
 · rw [hf]
 · rfl
theorem recAt_onK {k j : V8} {f : Rec → Rec} (hf : ∀ r, (f r).k = r.k) : ∀ (rs : List Rec), hasK j rs = true → recAt (onK k f rs) j = if j = k then f (recAt rs j) else recAt rs j := by
 intro zz
 induction zz with
 | nil =>
   intro h
   simp [hasK] at h
 | cons r rs ih =>
   intro h
   unfold recAt onK
   rw [List.map_cons, List.find?_cons, List.find?_cons]
   have e1 : (if r.k = k then f r else r).k = r.k := by split; exact hf r; rfl
   rw [e1]
   by_cases q : r.k = j
   · rw [decide_eq_true q]
     dsimp only [Option.getD_some]
     rw [q]
   · rw [decide_eq_false q]
     dsimp only
     have h' : hasK j rs = true := by
       rw [hasK_iff] at h ⊢
       (refine exEA (h) fun x hx e => ?_; clear h)
       rcases List.mem_cons.mp hx with rfl | hx
       · exact absurd e q
       · exact ⟨x, hx, e⟩
     exact ih h'
section
variable {D : Nat} {H : AHeap}
theorem kindOf_ok (r : Rec) {ik dk : Addr} (h1 : H ik = some (.inst 478 dk)) (h2 : H dk = some (.attrs r.attrs)) {Q : AQ} (h : Q (.str (kindS (kindOfM r))) H) : WC e.G (D + 1) (.ref 587) [.ref ik] H Q := by
 refine WC.enterF (ns := ["info"]) (by kernel_rfl) (by kernel_rfl) rfl (bind1 (by intro x; kernel_rfl)) ?_
 k_extra "norm_m"
 k_extra "wg"
 all_goals
   unfold kindOfM at h
   simp only [*, ↓reduceIte] at h
   exact h
theorem bsorted : nsIn e.G.K mainGlobals ("sorted" : Str) = some none := by kernel_rfl
theorem bsorted' : bootBuiltins ("sorted" : Str) = some (.builtin "sorted") := by kernel_rfl
end
theorem kw77 : True := by
 k_with "wk" => (first | ((refine' WE.callB bsorted bsorted' (by decide) ?_)) | fail)
 trivial
section
variable {D : Nat} {H : AHeap}
theorem mem_all8 : ∀ k : V8, k ∈ all8 := by decide
theorem keys_sorted {rs : List Rec} (nd : (rs.map (·.k)).Nodup) {ns : List Int} {ad : V8 → Addr × Addr} (hp : ns.Perm ((rs.map fun r => (vi r.k, AV.ref (ad r.k).1)).map (·.1))) (hs : ns.Pairwise (· ≤ ·)) : ns = (keys8 rs).map vi := by
 refine lks_uniq (hp.trans ?_) hs ?_
 · rw [List.map_map]
   have e : (rs.map ((fun x => x.1) ∘ fun r => (vi r.k, AV.ref (ad r.k).1))) = (rs.map (·.k)).map vi := by rw [List.map_map]; rfl
   rw [e]
   refine List.Perm.map _ ((List.perm_ext_iff_of_nodup nd ?_).mpr fun k => ?_)
   · exact List.Nodup.sublist List.filter_sublist (by decide)
   · unfold keys8
     rw [List.mem_filter, hasK_iff, List.mem_map]
     constructor
     · (intro zq0; refine exEA (zq0) fun r hr zq1 => ?_; clear zq0; rcases zq1 with rfl)
       exact ⟨mem_all8 _, r, hr, rfl⟩
     · (intro zq0; refine exAEA (zq0) fun _ r hr zq1 => ?_; clear zq0; rcases zq1 with rfl)
       exact ⟨r, hr, rfl⟩
 · rw [List.pairwise_map]
   refine List.Pairwise.sublist List.filter_sublist ?_
   decide
structure OrdI (rs : List Rec) (li lo : Addr) (lk : Addr) (ob : Obj) (H : AHeap) (ks : List V8) (m : Loc) (H' : AHeap) : Prop where
 go : ∃ order, H' lo = some (.list (order.map fun k => .int (vi k))) ∧ orderM rs ks order = orderM rs (keys8 rs) [] ∧ (∀ k ∈ order, hasK k rs = true) ∧ order.length + ks.length ≤ 8
 ks : ∀ k ∈ ks, hasK k rs = true
 i : m.lookup ("infos" : Str) = some (.ref li)
 o : m.lookup ("order" : Str) = some (.ref lo)
 fr : ∀ a o, H a = some o → H' a = some o
 k : H' lk = some (.ro (.list ((keys8 rs).map fun k => .int (vi k))) ob)
theorem slotOrder_ok {B : AHeap} {li ad rs} (R : RecsAt B li ad rs H) {Q : AQ} (h : ∀ lo H', H lo = none → H' lo = some (.list ((orderM rs (keys8 rs) []).map fun k => .int (vi k))) → Fram [] H H' → Q (.ref lo) H') : WC e.G (D + 1) (.ref 594) [.ref li] H Q := by
 refine WC.enterF (ns := ["infos"]) (by kernel_rfl) (by kernel_rfl) rfl (bind1 (by intro x; kernel_rfl)) ?_
 k_extra "norm_m"
 k_extra "wg"
 intro lo hlo
 k_extra "wg"
 refine W1.forList ?_
 k_extra "wg"
 have n1 : li ≠ lo := fun z => by subst z; rw [R.li] at hlo; (exact someE hlo)
 have hli : (H.put lo (.list [])) li = some (.idict (rs.map fun r => (vi r.k, .ref (ad r.k).1))) := (AHeap.put_ne _ _ n1).trans R.li
 refine WB.sortedD hli (by have := R.len; simp; lia) fun lk ns hlk hp hs => ?_
 have hns := keys_sorted R.nd hp hs
 subst hns
 clear hp hs
 have n2 : lk ≠ lo := fun z => by subst z; simp at hlk
 have hlk0 : H lk = none := by rw [AHeap.put_ne _ _ n2] at hlk; exact hlk
 rw [List.map_map]
 refine ⟨lk, _, rfl, AHeap.put_self _ _ _, fun ob => ?_⟩
 have out : ∀ {a : Addr} {o : AO}, H a = some o → a ≠ lo ∧ a ≠ lk := fun q => ⟨fun z => (by rw [z, hlo] at q; (exact noneE q)), fun z => (by rw [z, hlk0] at q; (exact noneE q))⟩
 refine ForN.rule (f := fun k => AV.int (vi k)) (fun ks m' H' => OrdI rs li lo lk ob H ks m' H') (fun k ks m1 H1 I kp => ?_) (fun m1 H1 I kp => ?_) (keys8 rs) (AHeap.put_self _ _ _) ?_
 · obtain ⟨⟨order, h1, h2, h3, h4⟩, hk, i1, i2, fr, ik⟩ := I
   refine WS.weak (m' := [("k", .int (vi k)), ("infos", .ref li), ("order", .ref lo)]) (Sub.cons rfl (Sub.cons i1 (Sub.cons i2 Sub.nil))) ?_
   have hk0 := hk k (.head _)
   (refine exA (recAt_mem hk0) fun rm rk => ?_)
   (refine exA (R.rc _ rm) fun r1 r2 => ?_)
   rw [rk] at r1 r2
   have r1' := fr _ _ r1
   have r2' := fr _ _ r2
   have li' := fr _ _ R.li
   have lk1 := look_some (ad := ad) (hasK_iff.mp hk0)
   k_extra "wg"
   refine WI.idict li' rfl lk1 ?_
   k_extra "wg"
   have e2 : orderM rs (k :: ks) order = orderM rs ks (orderStep rs order k) := rfl
   rw [e2] at h2
   simp only [List.length_cons] at h4
   have hks : ∀ k ∈ ks, hasK k rs = true := fun j hj => hk j (.tail _ hj)
   have skip : (recAt rs k).kind ≠ .perm → OrdI rs li lo lk ob H ks [("info", .ref (ad k).1), ("k", .int (vi k)), ("infos", .ref li), ("order", .ref lo)] H1 := fun hn => by
     unfold orderStep at h2
     rw [if_neg hn] at h2
     exact ⟨⟨order, h1, h2, h3, by (exact Nat.le_of_lt (by assumption))⟩, hks, rfl, rfl, fr, ik⟩
   cases hq : (recAt rs k).kind with
   | void =>
     rw [show (kindS Kind.void == Str.ofString "perm") = false from by decide +kernel]
     k_extra "wg"
     exact ⟨kp, skip (by rw [hq]; decide)⟩
   | temp =>
     rw [show (kindS Kind.temp == Str.ofString "perm") = false from by decide +kernel]
     k_extra "wg"
     exact ⟨kp, skip (by rw [hq]; decide)⟩
   | perm =>
     rw [show (kindS Kind.perm == Str.ofString "perm") = true from by decide +kernel]
     unfold orderStep at h2
     rw [if_pos hq] at h2
     clear skip
     k_extra "wg"
     rw [List.length_map]
     have fin : ∀ n, n ≤ order.length → backM (fun j => (recAt rs j).last) (recAt rs k).last order order.length = n → ∀ m' : Loc, m'.lookup ("infos" : Str) = some (.ref li) → m'.lookup ("order" : Str) = some (.ref lo) →
         (H1.put lo (.list ((order.map fun k => AV.int (vi k)).take n ++ .int (vi k) :: (order.map fun k => AV.int (vi k)).drop n))) lk = some (.ro (.list ((keys8 rs).map fun k => .int (vi k))) ob) ∧ OrdI rs li lo lk ob H ks m' (H1.put lo (.list ((order.map fun k => AV.int (vi k)).take n ++ .int (vi k) :: (order.map fun k => AV.int (vi k)).drop n))) := fun n hn e m' a1 a2 => by
       rw [e] at h2
       have kk : (H1.put lo (.list ((order.map fun k => AV.int (vi k)).take n ++ .int (vi k) :: (order.map fun k => AV.int (vi k)).drop n))) lk = some (.ro (.list ((keys8 rs).map fun k => .int (vi k))) ob) := (AHeap.put_ne _ _ n2).trans ik
       refine ⟨kk, ⟨⟨insAt order n k, ?_, h2, fun j hj => ?_, ?_⟩, hks, a1, a2, fun a o q => (AHeap.put_ne _ _ (out q).1).trans (fr a o q), kk⟩⟩
       · rw [AHeap.put_self]
         simp [insAt, List.map_take, List.map_drop]
       · unfold insAt at hj
         rcases List.mem_append.mp hj with hj | hj
         · exact h3 j (List.mem_of_mem_take hj)
         · rcases List.mem_cons.mp hj with rfl | hj
           · exact hk0
           · exact h3 j (List.mem_of_mem_drop hj)
       · simp only [insAt, List.length_append, List.length_cons, List.length_take, List.length_drop]
         lia
     refine W1.while ⟨order.length + 1, WhileN.rule (fun n m' H' => H' = H1 ∧ n ≤ order.length ∧ Sub [("info", .ref (ad k).1), ("k", .int (vi k)), ("infos", .ref li), ("order", .ref lo), ("at", .int n)] m' ∧ backM (fun j => (recAt rs j).last) (recAt rs k).last order n = backM (fun j => (recAt rs j).last) (recAt rs k).last order order.length) ?_ order.length ⟨rfl, Nat.le_refl _, Sub.cons rfl (Sub.cons rfl (Sub.cons rfl (Sub.cons rfl (Sub.cons rfl Sub.nil)))), rfl⟩⟩
     (intro n; intro m2; intro H2; intro zq0; refine exAAA (zq0) fun zq1 hn i5 hb => ?_; clear zq0; rcases zq1 with rfl)
     refine WT.weak i5 ?_
     k_extra "wg"
     · (refine exE ((⟨n - 1, by lia⟩ : ∃ j, n = j + 1)) fun n zq0 => ?_; rcases zq0 with rfl)
       have hlt : n < order.length := by (assumption)
       have hgd : order.getD n 0 = order[n] := by simp [List.getD, hlt]
       have hmem : order[n] ∈ order := List.getElem_mem hlt
       have hj := h3 _ hmem
       (refine exA (recAt_mem hj) fun jm jk => ?_)
       (refine exA (R.rc _ jm) fun j1 j2 => ?_)
       rw [jk] at j1 j2
       have j1' := fr _ _ j1
       have j2' := fr _ _ j2
       have lj := look_some (ad := ad) (hasK_iff.mp hj)
       have hb2 : backM (fun j => (recAt rs j).last) (recAt rs k).last order (n + 1) = if (recAt rs order[n]).last < (recAt rs k).last then backM (fun j => (recAt rs j).last) (recAt rs k).last order n else n + 1 := by rw [← hgd]; rfl
       refine WI.list h1 rfl (by (simp +arith; done)) (a := .int (vi order[n])) (by
         rw [show (((n + 1 : Nat) : Int) - 1).toNat = n from by (simp +arith; done)]
         simp [hlt]) (by simp; lia) ?_
       refine WI.idict li' rfl lj ?_
       k_extra "wg"
       · refine ⟨n, rfl, ?_⟩
         refine WS.weak i5 ?_
         k_extra "wg"
         refine ⟨rfl, by (exact Nat.le_of_lt (by assumption)), ?_, ?_⟩
         · rw [show (((n + 1 : Nat) : Int) - 1) = (n : Int) from by (simp +arith; done)]
           exact Sub.cons rfl (Sub.cons rfl (Sub.cons rfl (Sub.cons rfl (Sub.cons rfl Sub.nil))))
         · rw [← hb, hb2, if_pos (by assumption)]
       · refine WE.name (i5 _ _ rfl) ⟨lo, _, _, rfl, h1, rfl, WE.name (i5 _ _ rfl) (WE.name (i5 _ _ rfl) (WB.insert h1 (by simp; (assumption)) (by simp; lia) ?_))⟩
         k_extra "wg"
         rw [hb2, if_neg (by assumption)] at hb
         exact fin (n + 1) hn hb.symm _ (i5 _ _ rfl) (i5 _ _ rfl)
     · obtain rfl : n = 0 := by lia
       refine WE.name (i5 _ _ rfl) ⟨lo, _, _, rfl, h1, rfl, WE.name (i5 _ _ rfl) (WE.name (i5 _ _ rfl) (WB.insert h1 (by (exact Nat.zero_le _)) (by simp; lia) ?_))⟩
       k_extra "wg"
       exact fin 0 (Nat.zero_le _) hb.symm _ (i5 _ _ rfl) (i5 _ _ rfl)
 · obtain ⟨⟨order, h1, h2, h3, h4⟩, hk, i1, i2, fr, ik⟩ := I
   refine WS.weak (m' := [("order", .ref lo)]) (Sub.cons i2 Sub.nil) ?_
   k_extra "wg"
   have e3 : orderM rs [] order = order := rfl
   rw [e3] at h2
   refine h lo _ hlo ?_ (fun a o q _ => (AHeap.put_ne _ _ (out q).2).trans (fr a o q))
   rw [AHeap.put_ne _ _ n2.symm, h1, h2]
 · refine ⟨⟨[], by k_extra "hp", rfl, (fun _ h => nomatch h), ?_⟩, fun k hk => ?_, rfl, rfl, fun a o q => ?_, AHeap.put_self _ _ _⟩
   · have : (keys8 rs).length ≤ 8 := List.length_filter_le _ _
     simpa using this
   · exact (List.mem_filter.mp hk).2
   · (refine exA (out q) fun a1 a2 => ?_)
     k_extra "hp"
end
section
variable {G : Gl} {D : Nat} {cs : Scope} {cl : List (Str × Addr)}
theorem ForN.range {x : Str} {body : List Stmt} {kp : Option (Addr × AO)} {Q : Fl → Loc → AHeap → Prop} (N : Nat) (I : Nat → Loc → AHeap → Prop)
   (step : ∀ i m H, i < N → I i m H → keepP kp H → WS G D cs cl body ((x, .int i) :: m) H (loopQ (fun m' H' => keepP kp H' ∧ I (i + 1) m' H') Q)) (fin : ∀ m H, I N m H → keepP kp H → Q .next m H) {m : Loc} {H : AHeap} (kh : keepP kp H) (h : I 0 m H) :
   ForN G D cs cl x body kp Q (upTo N) m H := by
 have e : upTo (N : Int) = (List.range' 0 N).map fun (i : Nat) => AV.int (i : Int) := by
   unfold upTo
   rw [List.range_eq_range']
   rfl
 have key : ∀ k i m H, i + k = N → I i m H → keepP kp H → ForN G D cs cl x body kp Q ((List.range' i k).map fun (i : Nat) => AV.int (i : Int)) m H := by
   intro k
   induction k with
   | zero => intro i m H e h kp; exact fin m H (e ▸ h) kp
   | succ k ih =>
     intro i m H e h kp
     have e2 : i + 1 + k = N := by rw [← e, Nat.add_assoc, Nat.add_comm 1]
     refine (step i m H (by rw [← e]; exact Nat.lt_add_of_pos_right (Nat.succ_pos _)) h kp).mono fun fl m' H' q => ?_
     cases fl with
     | next => exact ⟨q.1, ih (i + 1) m' H' e2 q.2 q.1⟩
     | cont => exact ⟨q.1, ih (i + 1) m' H' e2 q.2 q.1⟩
     | brk => exact q
     | ret a => exact q
 rw [e]
 exact key N 0 m H (Nat.zero_add N) h kh
end
section
variable {D : Nat} {H : AHeap}
theorem mk576 : makesIn e.G.K 576 = true := by kernel_rfl
theorem in576 : findIn e.G.K (.ref 576) "__init__" = some (some (.ref 559)) := by kernel_rfl
theorem fn559 : isFn e.G.K (.ref 559) = true := by kernel_rfl
theorem mk534 : makesIn e.G.K 534 = true := by kernel_rfl
theorem in534 : findIn e.G.K (.ref 534) "__init__" = some (some (.ref 496)) := by kernel_rfl
theorem fn496 : isFn e.G.K (.ref 496) = true := by kernel_rfl
theorem s534a : setIn e.G.K 534 ("infos" : Str) = true := by kernel_rfl
theorem s534b : setIn e.G.K 534 ("chunks" : Str) = true := by kernel_rfl
theorem s534c : setIn e.G.K 534 ("needs_env" : Str) = true := by kernel_rfl
theorem s534d : setIn e.G.K 534 ("env_size" : Str) = true := by kernel_rfl
theorem s534e : setIn e.G.K 534 ("live_after" : Str) = true := by kernel_rfl
theorem k534n : nsIn e.G.K mainGlobals ("ClausePlan" : Str) = some (some (.ref 534)) := by kernel_rfl
theorem k534 : keepIn e.G.K (.ref 534) = true := by kernel_rfl
theorem k576n : nsIn e.G.K mainGlobals ("Survey" : Str) = some (some (.ref 576)) := by kernel_rfl
theorem k576 : keepIn e.G.K (.ref 576) = true := by kernel_rfl
theorem k545n : nsIn e.G.K mainGlobals ("chunk_numbers" : Str) = some (some (.ref 545)) := by kernel_rfl
theorem k545 : keepIn e.G.K (.ref 545) = true := by kernel_rfl
theorem k454n : nsIn e.G.K mainGlobals ("goal_terms" : Str) = some (some (.ref 454)) := by kernel_rfl
theorem k454 : keepIn e.G.K (.ref 454) = true := by kernel_rfl
theorem k461n : nsIn e.G.K mainGlobals ("goal_special" : Str) = some (some (.ref 461)) := by kernel_rfl
theorem k461 : keepIn e.G.K (.ref 461) = true := by kernel_rfl
theorem k587n : nsIn e.G.K mainGlobals ("kind_of" : Str) = some (some (.ref 587)) := by kernel_rfl
theorem k587 : keepIn e.G.K (.ref 587) = true := by kernel_rfl
theorem k594n : nsIn e.G.K mainGlobals ("slot_order" : Str) = some (some (.ref 594)) := by kernel_rfl
theorem k594 : keepIn e.G.K (.ref 594) = true := by kernel_rfl
theorem brange : nsIn e.G.K mainGlobals ("range" : Str) = some none := by kernel_rfl
theorem brange' : bootBuiltins ("range" : Str) = some (.type "range") := by kernel_rfl
end
theorem kw78 : True := by
 k_with "wf" => (first | (with_reducible first | exact s534a | exact s534b | exact s534c | exact s534d | exact s534e) | fail)
 trivial
section
variable {D : Nat} {H : AHeap}
end
theorem kw79 : True := by
 k_with "wk" => (first | (first | (refine' WE.callK k534n k534 ?_) | (refine' WE.callK k576n k576 ?_) | (refine' WE.callK k545n k545 ?_) | (refine' WE.callK k454n k454 ?_) | (refine' WE.callK k461n k461 ?_) | (refine' WE.callK k587n k587 ?_) | (refine' WE.callK k594n k594 ?_) | (refine' WE.callT brange brange' (by decide) ?_)) | fail)
 trivial
section
variable {D : Nat} {H : AHeap}
theorem mkSurvey_ok {Q : AQ} (h : ∀ su sd li H', SvAt H su sd li (fun _ => (0, 0)) [] H' → Fram [] H H' → Q (.ref su) H') : WC e.G (D + 2) (.ref 576) [] H Q := by
 refine WC.make mk576 in576 fn559 fun x dx hx hdx ne => ?_
 refine WC.enterF (ns := ["self"]) (by kernel_rfl) (by kernel_rfl) rfl (bind1 (by intro x; kernel_rfl)) ?_
 k_extra "norm_m"
 refine WS.cons (W1.assignAttr (WE.dict0I fun li hli => ?_))
 have n1 : li ≠ x := fun z => by subst z; simp at hli
 have n2 : li ≠ dx := fun z => by subst z; simp [AHeap.put, n1] at hli
 have hli0 : H li = none := by simpa [AHeap.put, n1, n2] using hli
 have out : ∀ {a : Addr} {o : AO}, H a = some o → a ≠ x ∧ a ≠ dx ∧ a ≠ li := fun q => ⟨fun z => (by rw [z, hx] at q; (exact noneE q)), fun z => (by rw [z, hdx] at q; (exact noneE q)), fun z => (by rw [z, hli0] at q; (exact noneE q))⟩
 k_extra "wg"
 have old : ∀ a o, H a = some o → (((((H.put dx (.attrs [])).put x (.inst 576 dx)).put li (.idict [])).put dx (.attrs (putA "infos" (.ref li) []))) a) = some o := fun a o q => by
   (refine exAA (out q) fun a1 a2 a3 => ?_)
   k_extra "hp"
 refine ⟨rfl, h x dx li _ ⟨⟨old, hli0, (fun r hr => (nomatch hr)), by k_extra "hp", (fun r hr => (nomatch hr)), List.nodup_nil, (fun r hr => (nomatch hr))⟩, by k_extra "hp", by k_extra "hp", ⟨hx, hdx⟩, (fun r hr => (nomatch hr))⟩ fun a o q _ => old a o q⟩
theorem mkPlan_ok (a1 a2 a3 a4 a5 : AV) {Q : AQ} (h : ∀ x dx H', H x = none → H dx = none → H' x = some (.inst 534 dx) → H' dx = some (.attrs [("infos", a1), ("chunks", a2), ("needs_env", a3), ("env_size", a4), ("live_after", a5)]) → Fram [] H H' → Q (.ref x) H') : WC e.G (D + 2) (.ref 534) [a1, a2, a3, a4, a5] H Q := by
 refine WC.make mk534 in534 fn496 fun x dx hx hdx ne => ?_
 refine WC.enterF (ns := ["self", "infos", "chunks", "needs_env", "env_size", "live_after"]) (by kernel_rfl) (by kernel_rfl) rfl (bind6 (by intro x y z u v w; kernel_rfl)) ?_
 k_extra "norm_m"
 have out : ∀ {a : Addr} {o : AO}, H a = some o → a ≠ x ∧ a ≠ dx := fun q => ⟨fun z => (by rw [z, hx] at q; (exact noneE q)), fun z => (by rw [z, hdx] at q; (exact noneE q))⟩
 k_extra "wg"
 refine ⟨rfl, h x dx _ hx hdx (by k_extra "hp") (by k_extra "hp") fun a o q _ => ?_⟩
 (refine exA (out q) fun b1 b2 => ?_)
 k_extra "hp"
end
theorem chunksM_len : ∀ (gs : List Goal) (n : Int), (chunksM gs n).length = gs.length := by
 intro zz
 induction zz with
 | nil =>
   intro _
   exact rfl
 | cons g r ih =>
   intro n
   simp [chunksM_n, chunksM_c, ih]
theorem needsM_cons (g : Goal) (r : List Goal) : needsM (g :: r) = if r = [] then false else (g.isCall || needsM r) := by cases r <;> rfl
structure ClfI (B : AHeap) (lg lch su sd li : Addr) (goals : List Goal) (goal : List Rec) (i : Nat) (m : Loc) (H' : AHeap) : Prop where
 go : ∃ rs ad c nb, SvAt B su sd li ad rs H' ∧ surveyM (goals.drop i) i c rs = goal ∧ (chunksM goals 0).drop i = chunksM (goals.drop i) c ∧ m.lookup ("needs_env" : Str) = some (.bool nb) ∧ (nb || needsM (goals.drop i)) = needsM goals
 s : Sub [("goals", .ref lg), ("chunks", .ref lch), ("survey", .ref su)] m
theorem mem_insAt {order : List V8} {n : Nat} {k j : V8} (h : j ∈ insAt order n k) : j = k ∨ j ∈ order := by
 unfold insAt at h
 rcases List.mem_append.mp h with h | h
 · exact .inr (List.mem_of_mem_take h)
 · rcases List.mem_cons.mp h with h | h
   · exact .inl h
   · exact .inr (List.mem_of_mem_drop h)
theorem len_insAt (order : List V8) (n : Nat) (k : V8) : (insAt order n k).length = order.length + 1 := by
 rw [insAt, List.length_append, List.length_cons, ← Nat.add_assoc, ← List.length_append, List.take_append_drop]
theorem mem_orderM {rs : List Rec} {j : V8} : ∀ {ks order : List V8}, j ∈ orderM rs ks order → j ∈ ks ∨ j ∈ order := by
 intro zz
 induction zz with
 | nil =>
   intro order h
   exact .inr h
 | cons k ks ih =>
   intro order h
   rcases ih h with h | h
   · exact .inl (.tail _ h)
   · unfold orderStep at h
     split at h
     · rcases mem_insAt h with h | h
       · exact .inl (h ▸ .head _)
       · exact .inr h
     · exact .inr h
theorem len_orderM {rs : List Rec} : ∀ (ks order : List V8), (orderM rs ks order).length ≤ ks.length + order.length := by
 intro zz
 induction zz with
 | nil =>
   intro order
   simp [orderM]
 | cons k ks ih =>
   intro order
   have := ih (orderStep rs order k)
   have h2 : (orderStep rs order k).length ≤ order.length + 1 := by
     unfold orderStep; split
     · rw [len_insAt]; exact Nat.le_refl _
     · (exact Nat.le_add_right _ _)
   show (orderM rs ks (orderStep rs order k)).length ≤ _
   simp only [List.length_cons]; lia
theorem ordM_has {heads : List Tm} {goals : List Goal} {k : V8} (h : k ∈ ordM heads goals) : hasK k (rs1M heads goals) = true := by
 rcases mem_orderM h with h | h
 · exact (List.mem_filter.mp h).2
 · cases h
theorem ordM_len (heads : List Tm) (goals : List Goal) : (ordM heads goals).length ≤ 8 := by
 have := len_orderM (rs := rs1M heads goals) (keys8 (rs1M heads goals)) []
 have h2 : (keys8 (rs1M heads goals)).length ≤ 8 := List.length_filter_le _ _
 show (orderM _ _ _).length ≤ 8
 simp at this; (exact Nat.le_trans (by assumption) (by assumption))
theorem slotsM_keys : ∀ (ks : List V8) (n : Int) (rs : List Rec), (slotsM ks n rs).map (·.k) = rs.map (·.k) := by
 intro zz
 induction zz with
 | nil =>
   intro _ _
   exact rfl
 | cons k ks ih =>
   intro n rs
   show (slotsM ks (n + 1) (onK k (Rec.slotted (n + 1)) rs)).map (·.k) = _
   rw [ih, onK_keys (f := Rec.slotted (n + 1)) (fun _ => rfl)]
theorem hasK_keys {k : V8} {rs rs' : List Rec} (h : rs.map (·.k) = rs'.map (·.k)) : hasK k rs = hasK k rs' := by
 rw [Bool.eq_iff_iff, hasK_iff, hasK_iff]
 have e : ∀ l : List Rec, (∃ r ∈ l, r.k = k) ↔ k ∈ l.map (·.k) := fun l => by simp [List.mem_map]
 rw [e, e, h]
theorem put2 {H : AHeap} {a : Addr} {o o' : AO} : (H.put a o).put a o' = H.put a o' := by funext b; simp only [AHeap.put]; split <;> rfl
structure SlI (B : AHeap) (lg lch li lo lr : Addr) (ad : V8 → Addr × Addr) (heads : List Tm) (goals : List Goal) (ob : Obj) (nb : Bool) (i : Nat) (m : Loc) (H' : AHeap) : Prop where
 go : ∃ rs, RecsAt B li ad rs H' ∧ slotsM ((ordM heads goals).drop i) i rs = rs2M heads goals ∧ rs.map (·.k) = (rs1M heads goals).map (·.k)
 o : H' lo = some (.list ((ordM heads goals).map fun k => .int (vi k)))
 r : H' lr = some (.ro (.range (ordM heads goals).length) ob)
 s : Sub [("goals", .ref lg), ("chunks", .ref lch), ("infos", .ref li), ("needs_env", .bool nb), ("order", .ref lo)] m
set_option tactic.hygienic true in
theorem ro_comm {H : AHeap} {a b : Addr} {x y : AO} (h : a ≠ b) : (H.put a x).put b y = (H.put b y).put a x := by
 funext c; simp only [AHeap.put]
 by_cases q1 : c = b
 · rw [if_pos q1]; split
   · rename_i q2; exact absurd (q2.symm.trans q1) h
   · rfl
 · rw [if_neg q1]; split <;> rfl
structure KiI (B : AHeap) (lg lch li : Addr) (ad : V8 → Addr × Addr) (rs0 : List Rec) (ob : Obj) (nb : Bool) (ks : List Rec) (m : Loc) (H' : AHeap) : Prop where
 go : ∃ rs, RecsAt B li ad rs (H'.put li (.idict (rs0.map fun r => (vi r.k, .ref (ad r.k).1)))) ∧ H' li = some (.ro (.idict (rs0.map fun r => (vi r.k, .ref (ad r.k).1))) ob) ∧ kindsM (ks.map (·.k)) rs = kindsM (rs0.map (·.k)) rs0 ∧ rs.map (·.k) = rs0.map (·.k)
 ks : ∀ r ∈ ks, r ∈ rs0
 s : Sub [("goals", .ref lg), ("chunks", .ref lch), ("infos", .ref li), ("needs_env", .bool nb)] m
theorem RecsAt.held {B : AHeap} {li : Addr} {ad : V8 → Addr × Addr} {rs : List Rec} {H : AHeap} {o : AO} (R : RecsAt B li ad rs (H.put li o)) {r : Rec} (hr : r ∈ rs) : H (ad r.k).1 = some (.inst 478 (ad r.k).2) ∧ H (ad r.k).2 = some (.attrs r.attrs) ∧ (ad r.k).2 ≠ li := by
 (refine exA (R.rc r hr) fun h1 h2 => ?_)
 have hl := R.li
 have n1 : (ad r.k).1 ≠ li := ne_of_heap h1 hl (by simp)
 have n2 : (ad r.k).2 ≠ li := ne_of_heap h2 hl (by simp)
 exact ⟨(AHeap.put_ne _ _ n1).symm.trans h1, (AHeap.put_ne _ _ n2).symm.trans h2, n2⟩
theorem RecsAt.less {B B' : AHeap} {li : Addr} {ad : V8 → Addr × Addr} {rs : List Rec} {H : AHeap} (R : RecsAt B' li ad rs H) (F : Fram [] B B') : RecsAt B li ad rs H := by
 have n : ∀ {a}, B' a = none → B a = none := fun {a} h => by
   cases q : B a with
   | none => rfl
   | some o => rw [F a o q (by (exact fun h => nomatch h))] at h; (exact someE h)
 exact ⟨fun a o q => R.base a o (F a o q (by (exact fun h => nomatch h))), n R.fl, fun r hr => ⟨n (R.fr r hr).1, n (R.fr r hr).2⟩, R.li, R.rc, R.nd, R.inj⟩
section
variable {D : Nat} {H : AHeap}
theorem wlen {l : Addr} {α : Type} {f : α → AV} {xs : List α} {Q : AQ} {G : Gl} (hl : H l = some (.list (xs.map f))) (hz : xs.length ≤ 16000000) (q : Q (.int xs.length) H) : WB G D (.builtin "len") [.ref l] H Q := WB.lenL hl rfl (by simpa using hz) (by rw [List.length_map]; exact q)
theorem gCallV {G : Gl} {cs : Scope} {cl : List (Str × Addr)} {m : Loc} {Q : AQ} {n : Str} {p p1 p2 : Pos} {as : List Expr} (h : WE G D cs cl (.Call (.Attribute (.Name ("survey" : Str) p1) n p2) as [] p) m H Q) : WE G D cs cl (.Call (.Attribute (.Name ("survey" : Str) p1) n p2) as [] p) m H Q := h
end
theorem kw80 : True := by
 k_with "we" => (first | ((focus ((with_reducible refine gCallV ?_); refine' WE.callM (WE.name rfl (CmP.of (x := _) (C := _) (dx := _) (f := _) (as := _) ?_ ?_ ?_ ?_ ?_)); rotate_right 5; (· k_extra "hfr"); (· k_extra "hfr"); (· (first | with_reducible assumption | exact rfl)); (· k_extra "wf")))) | fail)
 trivial
section
variable {D : Nat} {H : AHeap}
theorem headL : (Str.ofString "head").length = 4 := by decide +kernel
theorem goalL : (Str.ofString "goal").length = 4 := by decide +kernel
theorem classify_ok {lk : Addr} {heads : List Tm} {goals : List Goal} {count : Int} (K : KernAt H lk heads goals count) (hz : goals.length ≤ 1000) (hh : ∀ t ∈ heads, t.size ≤ 400) (hg : ∀ g ∈ goals, ∀ t ∈ g.terms, t.size ≤ 400) {Q : AQ}
   (h : ∀ lp dp li lch llv ad H', H' lp = some (.inst 534 dp) → H' dp = some (.attrs [("infos", .ref li), ("chunks", .ref lch), ("needs_env", .bool (planM heads goals).needs), ("env_size", .int (planM heads goals).size), ("live_after", .ref llv)]) → RecsAt H li ad (rs2M heads goals) H' → H' llv = some (.list ((planM heads goals).live.map AV.int)) → Fram [] H H' → Q (.ref lp) H') :
   WC e.G (D + 6) (.ref 601) [.ref lk] H Q := by
 (refine exEEAA (K.go) fun dk lg k1 k2 k3 => ?_)
 refine WC.enterF (ns := ["kernel"]) (by kernel_rfl) (by kernel_rfl) rfl (bind1 (by intro x; kernel_rfl)) ?_
 k_extra "norm_m"
 k_extra "wg"
 refine chunks_ok goals hz k3 fun lch H1 hlch h1 F1 => ?_
 k_extra "wg"
 refine mkSurvey_ok fun su sd li H2 S2 F2 => ?_
 have k1' := F2 _ _ (F1 _ _ k1 (by (exact fun h => nomatch h))) (by (exact fun h => nomatch h))
 have k2' := F2 _ _ (F1 _ _ k2 (by (exact fun h => nomatch h))) (by (exact fun h => nomatch h))
 have d1 := S2.hu
 have d2 := S2.hs
 k_extra "wg"
 refine ⟨_, rfl, ?_⟩
 k_extra "wg"
 refine terms_ok S2 heads hh "head" (by rw [headL]; (exact Nat.le_add_left _ _)) (-1) 0 fun ad1 H3 S3 => ?_
 have b1 : ∀ a o, H1 a = some o → H3 a = some o := S3.R.base
 have k3' := b1 _ _ (F1 _ _ k3 (by (exact fun h => nomatch h)))
 have h1' := b1 _ _ h1
 clear d1 d2 k1' k2' S2 F2
 refine WS.cons (W1.assign (WE.boolc ?_))
 refine WS.seq (fun m4 H4 => ∃ ad4, SvAt H1 su sd li ad4 (rs0M heads goals) H4 ∧ Sub [("goals", .ref lg), ("chunks", .ref lch), ("survey", .ref su), ("needs_env", .bool (needsM goals))] m4) ?_ ?_
 · refine W1.forRange (WE.callT brange brange' (by decide) (WE.callB blen blen' (by decide) (WE.name rfl (wlen k3' (by lia) (WB.range fun lr hlr => ⟨lr, goals.length, rfl, AHeap.put_self _ _ _, Int.natCast_nonneg _, by lia, fun ob => ?_⟩)))))
   have S4 := (S3.ext (o := .range goals.length) hlr (Fram.new hlr) (AHeap.put_self _ _ _)).re (.ro (.range goals.length) ob)
   have Bl : H1 lr = none := by
     cases q : H1 lr with
     | none => rfl
     | some o => rw [b1 _ _ q] at hlr; cases hlr
   have n1 : lg ≠ lr := fun z => by rw [z, hlr] at k3'; cases k3'
   have n2 : lch ≠ lr := fun z => by rw [z, hlr] at h1'; cases h1'
   have g1 : (H1.put lr (.ro (.range goals.length) ob)) lg = some (.list (goals.map Goal.av)) := (AHeap.put_ne _ _ n1).trans (F1 _ _ k3 (by simp))
   have g2 : (H1.put lr (.ro (.range goals.length) ob)) lch = some (.list ((chunksM goals 0).map AV.int)) := (AHeap.put_ne _ _ n2).trans h1
   refine ForN.range goals.length (ClfI (H1.put lr (.ro (.range goals.length) ob)) lg lch su sd li goals (rs0M heads goals)) (fun i m5 H5 hi I kp => ?_) (fun m5 H5 I kp => ?_) (AHeap.put_self _ _ _) ⟨⟨_, ad1, 0, false, S4, rfl, rfl, rfl, rfl⟩, Sub.cons rfl (Sub.cons rfl (Sub.cons rfl Sub.nil))⟩
   · obtain ⟨⟨rs, ad5, c, nb, S5, e1, e2, i1, e3⟩, i2⟩ := I
     refine WS.weak (m' := [("at", .int i), ("goals", .ref lg), ("chunks", .ref lch), ("survey", .ref su), ("needs_env", .bool nb)]) (Sub.cons rfl (Sub.cons (i2 _ _ rfl) (Sub.cons (i2 _ _ rfl) (Sub.cons (i2 _ _ rfl) (Sub.cons i1 Sub.nil))))) ?_
     have hd : goals.drop i = goals[i] :: goals.drop (i + 1) := List.drop_eq_getElem_cons hi
     have hgi : goals[i]? = some goals[i] := List.getElem?_eq_getElem hi
     have gm : goals[i] ∈ goals := List.getElem_mem hi
     generalize goals[i] = g at hd hgi gm
     rw [hd] at e1 e2 e3
     have hx : (goals.map Goal.av)[(i : Int).toNat]? = some g.av := by simp [hgi]
     have hz' : (goals.map Goal.av).length ≤ 16000000 := by simp; lia
     have hcz : ((chunksM goals 0).map AV.int).length ≤ 16000000 := by rw [List.length_map, chunksM_len]; lia
     have hc0 : (chunksM goals 0)[i]? = some c := by
       have : ((chunksM goals 0).drop i)[0]? = some c := by rw [e2]; rfl
       simpa using this
     have hcx : ((chunksM goals 0).map AV.int)[(i : Int).toNat]? = some (.int c) := by simp [hc0]
     have e4 : (chunksM goals 0).drop (i + 1) = chunksM (goals.drop (i + 1)) (if g.isCall then c + 1 else c) := by
       have : (chunksM goals 0).drop (i + 1) = ((chunksM goals 0).drop i).drop 1 := by rw [List.drop_drop]
       rw [this, e2]; rfl
     have e5 : surveyM (goals.drop (i + 1)) (i + 1 : Nat) (if g.isCall then c + 1 else c) (termsM "goal" i c g.terms (specialM g i c rs)) = rs0M heads goals := by rw [← e1]; rfl
     have l1 : ∀ {H' ad rs}, SvAt (H1.put lr (.ro (.range goals.length) ob)) su sd li ad rs H' → H' lg = some (.list (goals.map Goal.av)) := fun S => S.R.base _ _ g1
     have l2 : ∀ {H' ad rs}, SvAt (H1.put lr (.ro (.range goals.length) ob)) su sd li ad rs H' → H' lch = some (.list ((chunksM goals 0).map AV.int)) := fun S => S.R.base _ _ g2
     clear S3 S4 k3' h1' kp
     have q1 := l1 S5
     have q2 := l2 S5
     k_extra "wg"
     refine WI.list q1 rfl (Int.natCast_nonneg i) hx hz' ?_
     k_extra "wg"
     refine goalSpecial_ok g ?_
     refine WS.seq (fun m6 H6 => ∃ ad6, SvAt (H1.put lr (.ro (.range goals.length) ob)) su sd li ad6 (specialM g i c rs) H6 ∧ Sub [("goal", g.av), ("at", .int i), ("goals", .ref lg), ("chunks", .ref lch), ("survey", .ref su), ("needs_env", .bool nb)] m6) ?_ ?_
     · have d1 := S5.hu
       have d2 := S5.hs
       have sp : ∀ (k : V8), g.special = vi k → specialM g i c rs = meetM k "special" i c 1 rs → WC e.G (D + 5) (.ref 566) [.ref su, .int g.special, .str ("special" : Str), .int i, .int c, .int 1] H5 fun a H' => ∃ ad6, SvAt (H1.put lr (.ro (.range goals.length) ob)) su sd li ad6 (specialM g i c rs) H' := fun k a1 a2 => by
         rw [a1, a2]
         exact meet_ok S5 k "special" i c 1 fun ad6 H6 S6 => ⟨ad6, S6⟩
       have fin : ∀ (m' : Loc) ad6 H', SvAt (H1.put lr (.ro (.range goals.length) ob)) su sd li ad6 (specialM g i c rs) H' → Sub [("goal", g.av), ("at", .int i), ("goals", .ref lg), ("chunks", .ref lch), ("survey", .ref su), ("needs_env", .bool nb)] m' → Fl.next = Fl.next ∧ ∃ ad6, SvAt (H1.put lr (.ro (.range goals.length) ob)) su sd li ad6 (specialM g i c rs) H' ∧ Sub [("goal", g.av), ("at", .int i), ("goals", .ref lg), ("chunks", .ref lch), ("survey", .ref su), ("needs_env", .bool nb)] m' := fun m' ad6 H' a b => ⟨rfl, ad6, a, b⟩
       by_cases hs : 0 ≤ g.special
       · obtain ⟨k, a1, a2⟩ : ∃ k, g.special = vi k ∧ specialM g i c rs = meetM k "special" i c 1 rs := by
           cases g <;> first | exact ⟨_, rfl, rfl⟩ | (exfalso; simp [Goal.special] at hs)
         refine W1.ite (WT.cmp (WE.name rfl (WE.int (WCmp.geI_is (x := true) (by simpa using hs) ?_))))
         k_extra "wg"
         refine WI.list q2 rfl (Int.natCast_nonneg i) hcx hcz ?_
         k_extra "wg"
         refine (sp k a1 a2).mono fun a H' ⟨ad6, S6⟩ => ?_
         k_extra "wg"
         exact fin _ ad6 H' S6 (Sub.cons rfl (Sub.cons rfl (Sub.cons rfl (Sub.cons rfl (Sub.cons rfl (Sub.cons rfl Sub.nil))))))
       · have a2 : specialM g i c rs = rs := by
           cases g <;> first | rfl | (exfalso; exact hs (vi_lo _).1)
         refine W1.ite (WT.cmp (WE.name rfl (WE.int (WCmp.geI_is (x := false) (by simpa using hs) ?_))))
         k_extra "wg"
         exact fin _ ad5 H5 (by rw [a2]; exact S5) (Sub.cons rfl (Sub.cons rfl (Sub.cons rfl (Sub.cons rfl (Sub.cons rfl (Sub.cons rfl Sub.nil))))))
     · (intro m6; intro H6; intro zq0; refine exEA (zq0) fun ad6 S6 i6 => ?_; clear zq0)
       refine WS.weak i6 ?_
       have d1 := S6.hu
       have d2 := S6.hs
       have q2 := l2 S6
       clear S5
       k_extra "wg"
       refine goalTerms_ok g ?_
       k_extra "wg"
       refine WI.list q2 rfl (Int.natCast_nonneg i) hcx hcz ?_
       k_extra "wg"
       refine terms_ok S6 g.terms (hg g gm) "goal" (by rw [goalL]; lia) i c fun ad7 H7 S7 => ?_
       have q3 := l1 S7
       clear S6 d1 d2
       have fin : ∀ (m' : Loc) nb', m'.lookup ("needs_env" : Str) = some (.bool nb') → (nb' || needsM (goals.drop (i + 1))) = needsM goals → Sub [("goals", .ref lg), ("chunks", .ref lch), ("survey", .ref su)] m' →
           keepP (some (lr, (AO.range goals.length).ro ob)) H7 ∧ ClfI (H1.put lr (.ro (.range goals.length) ob)) lg lch su sd li goals (rs0M heads goals) (i + 1) m' H7 := fun m' nb' a1 a2 a3 => ⟨S7.R.base _ _ (AHeap.put_self _ _ _), ⟨⟨_, ad7, _, nb', S7, e5, e4, a1, a2⟩, a3⟩⟩
       rw [needsM_cons] at e3
       have hlen : (goals.drop (i + 1)).length = goals.length - (i + 1) := List.length_drop
       have c1 : g.isCall = true → (i : Int) + 1 < ((goals.map Goal.av).length : Int) → (true || needsM (goals.drop (i + 1))) = needsM goals := fun a1 a2 => by
         rw [List.length_map] at a2
         rw [← e3, if_neg (fun z => by rw [z] at hlen; simp at hlen; lia), a1]
         simp
       have c2 : ¬ (i : Int) + 1 < ((goals.map Goal.av).length : Int) → (nb || needsM (goals.drop (i + 1))) = needsM goals := fun a2 => by
         rw [List.length_map] at a2
         have hnil : goals.drop (i + 1) = [] := List.drop_of_length_le (by lia)
         rw [← e3, hnil, if_pos rfl]
         (rfl)
       have c3 : g.isCall = false → (nb || needsM (goals.drop (i + 1))) = needsM goals := fun a1 => by
         rw [← e3, a1]
         by_cases hnil : goals.drop (i + 1) = []
         · rw [if_pos hnil, hnil]; (rfl)
         · rw [if_neg hnil]; (rfl)
       clear e3
       k_extra "wg"
       all_goals first
         | exact fin _ true rfl (c1 (by assumption) (by assumption)) (Sub.cons rfl (Sub.cons rfl (Sub.cons rfl Sub.nil)))
         | exact fin _ nb rfl (c2 (by assumption)) (Sub.cons rfl (Sub.cons rfl (Sub.cons rfl Sub.nil)))
         | exact fin _ nb rfl (c3 (by assumption)) (Sub.cons rfl (Sub.cons rfl (Sub.cons rfl Sub.nil)))
   · obtain ⟨⟨rs, ad5, c, nb, S5, e1, e2, i1, e3⟩, i2⟩ := I
     have hd : goals.drop goals.length = [] := List.drop_length ..
     rw [hd] at e1 e3
     refine ⟨rfl, ad5, ?_, Sub.cons (i2 _ _ rfl) (Sub.cons (i2 _ _ rfl) (Sub.cons (i2 _ _ rfl) (Sub.cons ?_ Sub.nil)))⟩
     · rw [show rs = rs0M heads goals from e1] at S5
       exact S5.close Bl _
     · rw [i1, ← e3]; simp [needsM_n, needsM_o, needsM_c]
 · (intro m4; intro H4; intro zq0; refine exEA (zq0) fun ad4 S4 i4 => ?_; clear zq0)
   refine WS.weak i4 ?_
   have d1 := S4.hu
   have d2 := S4.hs
   refine WS.cons (W1.assign (WE.attr (WE.name rfl (AtP.of d1 d2 rfl rfl (by k_extra "wf") ?_))))
   have R4 := S4.R
   clear S3 S4 d1 d2 i4 k3' h1'
   refine WS.seq (fun m5 H5 => RecsAt H1 li ad4 (rs1M heads goals) H5 ∧ Sub [("goals", .ref lg), ("chunks", .ref lch), ("infos", .ref li), ("needs_env", .bool (needsM goals))] m5) ?_ ?_
   · refine W1.forDict (WE.name rfl ⟨li, _, rfl, R4.li, fun ob => ?_⟩)
     rw [List.map_map]
     refine ForN.rule (f := fun r : Rec => AV.int (vi r.k)) (KiI H1 lg lch li ad4 (rs0M heads goals) ob (needsM goals)) (fun r ks m5 H5 I kp => ?_) (fun m5 H5 I kp => ?_) (rs0M heads goals) (AHeap.put_self _ _ _) ⟨⟨rs0M heads goals, ?_, AHeap.put_self _ _ _, rfl, rfl⟩, (fun r hr => hr), Sub.cons rfl (Sub.cons rfl (Sub.cons rfl (Sub.cons rfl Sub.nil)))⟩
     · obtain ⟨⟨rs, R5, hl, e1, e2⟩, e3, i5⟩ := I
       have hr0 := e3 r (.head _)
       have hk : hasK r.k rs = true := by
         rw [hasK_iff]
         have : r.k ∈ rs.map (·.k) := by rw [e2]; exact List.mem_map.mpr ⟨r, hr0, rfl⟩
         (refine exEA (List.mem_map.mp this) fun x hx e => ?_)
         exact ⟨x, hx, e⟩
       (refine exA (recAt_mem hk) fun rm rk => ?_)
       (refine exAA (R5.held rm) fun f1 f2 f3 => ?_)
       have up := R5.upd rm (f := Rec.kinded) (fun _ => rfl)
       rw [rk] at f1 f2 f3 up
       have lk := look_some (ad := ad4) (rs := rs0M heads goals) ⟨r, hr0, rfl⟩
       refine WS.weak (m' := [("k", .int (vi r.k)), ("goals", .ref lg), ("chunks", .ref lch), ("infos", .ref li), ("needs_env", .bool (needsM goals))]) (Sub.cons rfl (Sub.cons (i5 _ _ rfl) (Sub.cons (i5 _ _ rfl) (Sub.cons (i5 _ _ rfl) (Sub.cons (i5 _ _ rfl) Sub.nil))))) ?_
       k_extra "wg"
       refine WI.idict hl rfl lk ?_
       k_extra "wg"
       refine kindOf_ok (recAt rs r.k) f1 f2 ?_
       k_extra "wg"
       refine WI.idict hl rfl lk ?_
       k_extra "wg"
       refine ⟨(AHeap.put_ne _ _ f3.symm).trans kp, ⟨onK r.k Rec.kinded rs, ?_, (AHeap.put_ne _ _ f3.symm).trans hl, e1, by rw [onK_keys (f := Rec.kinded) (fun _ => rfl)]; exact e2⟩, fun x hx => e3 x (.tail _ hx), Sub.cons rfl (Sub.cons rfl (Sub.cons rfl (Sub.cons rfl Sub.nil)))⟩
       rw [ro_comm f3]
       exact up
     · obtain ⟨⟨rs, R5, hl, e1, e2⟩, e3, i5⟩ := I
       refine ⟨rfl, ?_, i5⟩
       have : rs = rs1M heads goals := e1
       subst this
       exact R5
     · have : (H4.put li (.ro (.idict ((rs0M heads goals).map fun r => (vi r.k, .ref (ad4 r.k).1))) ob)).put li (.idict ((rs0M heads goals).map fun r => (vi r.k, .ref (ad4 r.k).1))) = H4 := by
         funext a
         by_cases q : a = li
         · subst q; rw [AHeap.put_self, R4.li]
         · rw [AHeap.put_ne _ _ q, AHeap.put_ne _ _ q]
       rw [this]
       exact R4
   · (intro m5; intro H5; intro zq0; refine exA (zq0) fun R5 i5 => ?_; clear zq0)
     refine WS.weak i5 ?_
     clear R4 i5
     k_extra "wg"
     refine slotOrder_ok R5 fun lo H6 hlo h6 F6 => ?_
     have R6 : RecsAt H1 li ad4 (rs1M heads goals) H6 := R5.mov (fun a o q => F6 a o (R5.base a o q) (by (exact fun h => nomatch h))) (fun a o q _ => F6 a o q (by (exact fun h => nomatch h)))
     change H6 lo = some (.list ((ordM heads goals).map fun k => .int (vi k))) at h6
     have Bo : H1 lo = none := by
       cases q : H1 lo with
       | none => rfl
       | some o => rw [R5.base _ _ q] at hlo; (exact someE hlo)
     have nlo : lo ≠ li ∧ ∀ r ∈ rs1M heads goals, lo ≠ (ad4 r.k).1 ∧ lo ≠ (ad4 r.k).2 := ⟨fun z => (by rw [z, R5.li] at hlo; (exact someE hlo)), fun r hr => ⟨fun z => (by rw [z, (R5.rc r hr).1] at hlo; (exact someE hlo)), fun z => (by rw [z, (R5.rc r hr).2] at hlo; (exact someE hlo))⟩⟩
     clear R5
     have zo := ordM_len heads goals
     refine WS.seq (fun m7 H7 => RecsAt H1 li ad4 (rs2M heads goals) H7 ∧ H7 lo = some (.list ((ordM heads goals).map fun k => .int (vi k))) ∧ Sub [("goals", .ref lg), ("chunks", .ref lch), ("infos", .ref li), ("needs_env", .bool (needsM goals)), ("order", .ref lo)] m7) ?_ ?_
     · refine W1.forRange (WE.callT brange brange' (by decide) (WE.callB blen blen' (by decide) (WE.name rfl (wlen h6 (by (exact Nat.le_trans (by assumption) (Nat.le_of_ble_eq_true rfl))) (WB.range fun lr hlr => ⟨lr, (ordM heads goals).length, rfl, AHeap.put_self _ _ _, Int.natCast_nonneg _, by lia, fun ob => ?_⟩)))))
       rw [put2]
       have nlr : ∀ {a o}, H6 a = some o → a ≠ lr := fun h z => by rw [z, hlr] at h; cases h
       have Blr : H1 lr = none := by
         cases q : H1 lr with
         | none => rfl
         | some o => rw [R6.base _ _ q] at hlr; cases hlr
       have R7 : RecsAt H1 li ad4 (rs1M heads goals) (H6.put lr (.ro (.range (ordM heads goals).length) ob)) := R6.mov (fun a o q => (AHeap.put_ne _ _ (nlr (R6.base a o q))).trans (R6.base a o q)) (fun a o q _ => (AHeap.put_ne _ _ (nlr q)).trans q)
       refine ForN.range (ordM heads goals).length (SlI H1 lg lch li lo lr ad4 heads goals ob (needsM goals)) (fun i m8 H8 hi I kp => ?_) (fun m8 H8 I kp => ?_) (AHeap.put_self _ _ _) ⟨⟨_, R7, rfl, rfl⟩, (AHeap.put_ne _ _ (nlr h6)).trans h6, AHeap.put_self _ _ _, Sub.cons rfl (Sub.cons rfl (Sub.cons rfl (Sub.cons rfl (Sub.cons rfl Sub.nil))))⟩
       · obtain ⟨⟨rs, R8, e1, e2⟩, ho, hr, i8⟩ := I
         have hd : (ordM heads goals).drop i = (ordM heads goals)[i] :: (ordM heads goals).drop (i + 1) := List.drop_eq_getElem_cons hi
         have hx : ((ordM heads goals).map fun k => AV.int (vi k))[(i : Int).toNat]? = some (.int (vi (ordM heads goals)[i])) := by simp [hi]
         have hmem : (ordM heads goals)[i] ∈ ordM heads goals := List.getElem_mem hi
         have hk : hasK (ordM heads goals)[i] rs = true := by rw [hasK_keys e2]; exact ordM_has hmem
         rw [hd] at e1
         generalize (ordM heads goals)[i] = k at hd hx hmem hk e1
         (refine exA (recAt_mem hk) fun rm rk => ?_)
         (refine exA (R8.rc _ rm) fun f1 f2 => ?_)
         have up := R8.upd rm (f := Rec.slotted ((i : Int) + 1)) (fun _ => rfl)
         rw [rk] at f1 f2 up
         have lk := look_some (ad := ad4) (hasK_iff.mp hk)
         have li8 := R8.li
         have n1 : lo ≠ (ad4 k).2 := ne_of_heap ho f2 (by simp)
         have n2 : lr ≠ (ad4 k).2 := ne_of_heap hr f2 (by simp)
         have n3 : (ad4 k).1 ≠ (ad4 k).2 := ne_of_heap f1 f2 (by simp)
         refine WS.weak (m' := [("at", .int i), ("goals", .ref lg), ("chunks", .ref lch), ("infos", .ref li), ("needs_env", .bool (needsM goals)), ("order", .ref lo)]) (Sub.cons rfl (Sub.cons (i8 _ _ rfl) (Sub.cons (i8 _ _ rfl) (Sub.cons (i8 _ _ rfl) (Sub.cons (i8 _ _ rfl) (Sub.cons (i8 _ _ rfl) Sub.nil)))))) ?_
         k_extra "wg"
         refine WI.list ho rfl (Int.natCast_nonneg i) hx (by simp; lia) ?_
         refine WI.idict li8 rfl lk ?_
         k_extra "wg"
         rw [put2]
         refine ⟨(AHeap.put_ne _ _ n2).trans kp, ⟨onK k (Rec.slotted ((i : Int) + 1)) rs, up, e1, by rw [onK_keys (f := Rec.slotted ((i : Int) + 1)) (fun _ => rfl)]; exact e2⟩, (AHeap.put_ne _ _ n1).trans ho, (AHeap.put_ne _ _ n2).trans hr, Sub.cons rfl (Sub.cons rfl (Sub.cons rfl (Sub.cons rfl (Sub.cons rfl Sub.nil))))⟩
       · obtain ⟨⟨rs, R8, e1, e2⟩, ho, hr, i8⟩ := I
         have hd : (ordM heads goals).drop (ordM heads goals).length = [] := List.drop_length ..
         rw [hd] at e1
         have : rs = rs2M heads goals := e1
         subst this
         have n1 : ∀ {a o}, H8 a = some o → o ≠ .ro (.range (ordM heads goals).length) ob → a ≠ lr := fun h1 h2 z => by rw [z, hr] at h1; exact h2 (Option.some.inj h1).symm
         refine ⟨rfl, R8.mov (fun a o q => ?_) (fun a o q w => ?_), ?_, i8⟩
         · exact (AHeap.put_ne _ _ (fun z => by rw [z, Blr] at q; cases q)).trans (R8.base a o q)
         · refine (AHeap.put_ne _ _ (fun z => ?_)).trans q
           rw [z, hr] at q
           cases q
           rcases w with w | ⟨r, hr', w | w⟩
           · rw [← z, w, R8.li] at hr; cases hr
           · rw [← z, w, (R8.rc r hr').1] at hr; cases hr
           · rw [← z, w, (R8.rc r hr').2] at hr; cases hr
         · exact (AHeap.put_ne _ _ (n1 ho (by simp))).trans ho
     · (intro m7; intro H7; intro zq0; refine exAA (zq0) fun R7 h7 i7 => ?_; clear zq0)
       refine WS.weak i7 ?_
       clear R6 h6 F6 hlo nlo i7
       have k3' := R7.base _ _ (F1 _ _ k3 (by (exact fun h => nomatch h)))
       refine WS.cons (W1.assign (WE.list fun lv hlv => ?_))
       have nlv : ∀ {a o}, H7 a = some o → a ≠ lv := fun h z => by rw [z, hlv] at h; (exact noneE h)
       have hasr : ∀ k ∈ ordM heads goals, hasK k (rs2M heads goals) = true := fun k hk => by
         exact (hasK_keys (slotsM_keys (ordM heads goals) 0 (rs1M heads goals))).trans (ordM_has hk)
       refine WS.seq (fun m9 H9 => H9 lv = some (.list ((planM heads goals).live.map AV.int)) ∧ (∀ a o, H7 a = some o → H9 a = some o) ∧ Sub [("chunks", .ref lch), ("infos", .ref li), ("needs_env", .bool (needsM goals)), ("order", .ref lo), ("live_after", .ref lv)] m9) ?_ ?_
       · refine W1.forRange (WE.callT brange brange' (by decide) (WE.callB blen blen' (by decide) (WE.name rfl (wlen ((AHeap.put_ne _ _ (nlv k3')).trans k3') (by lia) (WB.range fun lr hlr => ⟨lr, goals.length, rfl, AHeap.put_self _ _ _, Int.natCast_nonneg _, by lia, fun ob => ?_⟩)))))
         rw [put2]
         have nvr : lv ≠ lr := fun z => by rw [← z, AHeap.put_self] at hlr; cases hlr
         have hlr0 : H7 lr = none := by rw [AHeap.put_ne _ _ nvr.symm] at hlr; exact hlr
         have nlr : ∀ {a o}, H7 a = some o → a ≠ lr := fun h z => by rw [z, hlr0] at h; cases h
         have old : ∀ {a o} (x : AO), H7 a = some o → (((H7.put lv (.list [])).put lr (.ro (.range goals.length) ob)).put lv x) a = some o := fun {a o} x q => by
           have a1 := nlv q
           have a2 := nlr q
           k_extra "hp"
         refine ForN.range goals.length (fun i m' H' => H' = ((H7.put lv (.list [])).put lr (.ro (.range goals.length) ob)).put lv (.list (((List.range i).map fun (i : Nat) => ((liveM (fun k => (recAt (rs2M heads goals) k).last) (i : Int) (ordM heads goals) : Nat) : Int)).map AV.int)) ∧ Sub [("chunks", .ref lch), ("infos", .ref li), ("needs_env", .bool (needsM goals)), ("order", .ref lo), ("live_after", .ref lv)] m') (fun i m8 H8 hi I kp => ?_) (fun m8 H8 I kp => ?_) (AHeap.put_self _ _ _) ⟨?_, Sub.cons rfl (Sub.cons rfl (Sub.cons rfl (Sub.cons rfl (Sub.cons rfl Sub.nil))))⟩
         · (refine exA (I) fun e8 i8 => ?_; clear I)
           subst e8
           have ho8 := old (.list (((List.range i).map fun (i : Nat) => ((liveM (fun k => (recAt (rs2M heads goals) k).last) (i : Int) (ordM heads goals) : Nat) : Int)).map AV.int)) h7
           have hli8 := old (.list (((List.range i).map fun (i : Nat) => ((liveM (fun k => (recAt (rs2M heads goals) k).last) (i : Int) (ordM heads goals) : Nat) : Int)).map AV.int)) R7.li
           have hrc8 : ∀ k ∈ ordM heads goals, _ := fun k hk => old (.list (((List.range i).map fun (i : Nat) => ((liveM (fun k => (recAt (rs2M heads goals) k).last) (i : Int) (ordM heads goals) : Nat) : Int)).map AV.int)) (R7.rc _ (recAt_mem (hasr k hk)).1).1
           have hrd8 : ∀ k ∈ ordM heads goals, _ := fun k hk => old (.list (((List.range i).map fun (i : Nat) => ((liveM (fun k => (recAt (rs2M heads goals) k).last) (i : Int) (ordM heads goals) : Nat) : Int)).map AV.int)) (R7.rc _ (recAt_mem (hasr k hk)).1).2
           have hlv8 : (((H7.put lv (.list [])).put lr (.ro (.range goals.length) ob)).put lv (.list (((List.range i).map fun (i : Nat) => ((liveM (fun k => (recAt (rs2M heads goals) k).last) (i : Int) (ordM heads goals) : Nat) : Int)).map AV.int))) lv = _ := AHeap.put_self _ _ _
           refine WS.weak (m' := [("at", .int i), ("chunks", .ref lch), ("infos", .ref li), ("needs_env", .bool (needsM goals)), ("order", .ref lo), ("live_after", .ref lv)]) (Sub.cons rfl (Sub.cons (i8 _ _ rfl) (Sub.cons (i8 _ _ rfl) (Sub.cons (i8 _ _ rfl) (Sub.cons (i8 _ _ rfl) (Sub.cons (i8 _ _ rfl) Sub.nil)))))) ?_
           have enext : ∀ n, n = liveM (fun k => (recAt (rs2M heads goals) k).last) (i : Int) (ordM heads goals) → ((((H7.put lv (.list [])).put lr (.ro (.range goals.length) ob)).put lv (.list (((List.range i).map fun (i : Nat) => ((liveM (fun k => (recAt (rs2M heads goals) k).last) (i : Int) (ordM heads goals) : Nat) : Int)).map AV.int))).put lv (.list (((List.range i).map fun (i : Nat) => ((liveM (fun k => (recAt (rs2M heads goals) k).last) (i : Int) (ordM heads goals) : Nat) : Int)).map AV.int ++ [.int (n : Int)]))) = ((H7.put lv (.list [])).put lr (.ro (.range goals.length) ob)).put lv (.list (((List.range (i + 1)).map fun (i : Nat) => ((liveM (fun k => (recAt (rs2M heads goals) k).last) (i : Int) (ordM heads goals) : Nat) : Int)).map AV.int)) := fun n e => by
             rw [put2, List.range_succ, e]; simp
           have hkr : (((H7.put lv (.list [])).put lr (.ro (.range goals.length) ob)).put lv (.list (((List.range (i + 1)).map fun (i : Nat) => ((liveM (fun k => (recAt (rs2M heads goals) k).last) (i : Int) (ordM heads goals) : Nat) : Int)).map AV.int))) lr = some (.ro (.range goals.length) ob) := by k_extra "hp"
           have hzl : ((((List.range i).map fun (i : Nat) => ((liveM (fun k => (recAt (rs2M heads goals) k).last) (i : Int) (ordM heads goals) : Nat) : Int)).map AV.int)).length ≤ 16000000 := by simp; lia
           generalize (((List.range i).map fun (i : Nat) => ((liveM (fun k => (recAt (rs2M heads goals) k).last) (i : Int) (ordM heads goals) : Nat) : Int)).map AV.int) = L8 at *
           generalize (((H7.put lv (.list [])).put lr (.ro (.range goals.length) ob)).put lv (.list L8)) = H8 at *
           refine WS.cons (W1.assign (WE.int ?_))
           refine WS.cons (W1.while ⟨(ordM heads goals).length + 1, WhileN.rule (fun n m' H' => ∃ j, j + n = (ordM heads goals).length ∧ H' = H8 ∧ Sub [("at", .int i), ("chunks", .ref lch), ("infos", .ref li), ("needs_env", .bool (needsM goals)), ("order", .ref lo), ("live_after", .ref lv), ("live", .int (j : Int))] m' ∧ j + liveM (fun k => (recAt (rs2M heads goals) k).last) (i : Int) ((ordM heads goals).drop j) = liveM (fun k => (recAt (rs2M heads goals) k).last) (i : Int) (ordM heads goals)) ?_ (ordM heads goals).length ⟨0, by lia, rfl, Sub.cons rfl (Sub.cons rfl (Sub.cons rfl (Sub.cons rfl (Sub.cons rfl (Sub.cons rfl (Sub.cons rfl Sub.nil)))))), by simp⟩⟩)
           (intro n; intro m9; intro H9; intro zq0; refine exEAAA (zq0) fun j hj zq1 i9 hl9 => ?_; clear zq0; rcases zq1 with rfl)
           refine WT.weak i9 ?_
           k_extra "wg"
           · have hjl : j < (ordM heads goals).length := by
               have : (j : Int) < (((ordM heads goals).map fun k => AV.int (vi k)).length : Int) := by assumption
               rw [List.length_map] at this; lia
             (refine exE ((⟨n - 1, by lia⟩ : ∃ k, n = k + 1)) fun n zq0 => ?_; rcases zq0 with rfl)
             have hd : (ordM heads goals).drop j = (ordM heads goals)[j] :: (ordM heads goals).drop (j + 1) := List.drop_eq_getElem_cons hjl
             have hx : ((ordM heads goals).map fun k => AV.int (vi k))[(j : Int).toNat]? = some (.int (vi (ordM heads goals)[j])) := by simp [hjl]
             have hmem : (ordM heads goals)[j] ∈ ordM heads goals := List.getElem_mem hjl
             rw [hd] at hl9
             generalize (ordM heads goals)[j] = k at hd hx hmem hl9
             (refine exA (recAt_mem (hasr k hmem)) fun km kk => ?_)
             have c1 := hrc8 k hmem
             have c2 := hrd8 k hmem
             rw [kk] at c1 c2
             have lk := look_some (ad := ad4) (hasK_iff.mp (hasr k hmem))
             refine WI.list ho8 rfl (Int.natCast_nonneg j) hx (by simp; lia) ?_
             refine WI.idict hli8 rfl lk ?_
             k_extra "wg"
             · refine ⟨n, rfl, ?_⟩
               refine WS.weak i9 ?_
               k_extra "wg"
               refine ⟨j + 1, by lia, rfl, Sub.cons rfl (Sub.cons rfl (Sub.cons rfl (Sub.cons rfl (Sub.cons rfl (Sub.cons rfl (Sub.cons rfl Sub.nil)))))), ?_⟩
               rw [← hl9]
               simp only [liveM_n, liveM_c]
               rw [if_pos (by assumption)]
               (simp +arith only; done)
             · refine WE.name (i9 _ _ rfl) ⟨lv, _, _, rfl, hlv8, rfl, WE.name (i9 _ _ rfl) (WB.append hlv8 hzl ?_)⟩
               k_extra "wg"
               have ej : j = liveM (fun k => (recAt (rs2M heads goals) k).last) (i : Int) (ordM heads goals) := by
                 rw [← hl9]
                 simp only [liveM_n, liveM_c]
                 rw [if_neg (by assumption)]; rfl
               rw [enext j ej]
               exact ⟨hkr, rfl, Sub.cons (i9 _ _ rfl) (Sub.cons (i9 _ _ rfl) (Sub.cons (i9 _ _ rfl) (Sub.cons (i9 _ _ rfl) (Sub.cons (i9 _ _ rfl) Sub.nil))))⟩
           · have hjl : ¬ j < (ordM heads goals).length := by
               have : ¬ (j : Int) < (((ordM heads goals).map fun k => AV.int (vi k)).length : Int) := by assumption
               rw [List.length_map] at this; lia
             have hd : (ordM heads goals).drop j = [] := List.drop_of_length_le (by (exact Nat.le_of_not_lt (by assumption)))
             refine WE.name (i9 _ _ rfl) ⟨lv, _, _, rfl, hlv8, rfl, WE.name (i9 _ _ rfl) (WB.append hlv8 hzl ?_)⟩
             k_extra "wg"
             rw [hd] at hl9
             rw [enext j (by rw [← hl9]; rfl)]
             exact ⟨hkr, rfl, Sub.cons (i9 _ _ rfl) (Sub.cons (i9 _ _ rfl) (Sub.cons (i9 _ _ rfl) (Sub.cons (i9 _ _ rfl) (Sub.cons (i9 _ _ rfl) Sub.nil))))⟩
         · (refine exA (I) fun e8 i8 => ?_; clear I)
           subst e8
           refine ⟨rfl, ?_, fun a o q => ?_, i8⟩
           · rw [AHeap.put_ne _ _ nvr, AHeap.put_self]; rfl
           · have a2 := nlr q
             exact (AHeap.put_ne _ _ a2).trans (old _ q)
         · funext a
           by_cases q : a = lv
           · subst q; rw [AHeap.put_self, AHeap.put_ne _ _ nvr, AHeap.put_self]; rfl
           · rw [AHeap.put_ne _ _ q]
       · (intro m9; intro H9; intro zq0; refine exAA (zq0) fun h9 k9 i9 => ?_; clear zq0)
         refine WS.weak i9 ?_
         have h7' := k9 _ _ h7
         k_extra "wg"
         refine mkPlan_ok _ _ _ _ _ fun x dx H10 hx hdx e1 e2 F10 => ?_
         k_extra "wg"
         rw [List.length_map] at e2
         refine h x dx li lch lv ad4 H10 e1 e2 ?_ (F10 _ _ h9 (by (exact fun h => nomatch h))) fun a o q _ => F10 _ _ (k9 _ _ (R7.base _ _ (F1 _ _ q (by (assumption))))) (by (assumption))
         exact (R7.mov (fun a o q => F10 _ _ (k9 _ _ (R7.base _ _ q)) (by (exact fun h => nomatch h))) (fun a o q _ => F10 _ _ (k9 _ _ q) (by (exact fun h => nomatch h)))).less F1
end
structure SyAt (B : AHeap) (x dx lt la lf lg : Addr) (n : Nat) (H : AHeap) : Prop where
 base : ∀ a o, B a = some o → H a = some o
 fb : B lt = none ∧ B la = none ∧ B lf = none ∧ B lg = none
 hx : H x = some (.inst 122 dx)
 hd : H dx = some (.attrs [("texts", .ref lt), ("atom_numbers", .ref la), ("functors", .ref lf), ("functor_numbers", .ref lg)])
 t : ∃ xs, H lt = some (.list xs) ∧ xs.length ≤ n
 a : ∃ es, H la = some (.sdict es) ∧ es.length ≤ n ∧ ∀ p ∈ es, ∃ i, p.2 = .int i
 f : ∃ xs, H lf = some (.list xs) ∧ xs.length ≤ n
 g : ∃ es, H lg = some (.tdict es) ∧ es.length ≤ n ∧ ∀ p ∈ es, ∃ i, p.2 = .int i
 ne : lt ≠ lf
theorem mem_putD {κ : Type} [DecidableEq κ] {k : κ} {a : AV} : ∀ {es : List (κ × AV)} {p : κ × AV}, p ∈ putD k a es → p.2 = a ∨ p ∈ es := by
 intro zz
 induction zz with
 | nil =>
   intro p h
   cases List.mem_singleton.mp h; exact .inl rfl
 | cons qx r ih =>
   obtain ⟨q, b⟩ := qx
   intro p h
   rw [putD_c] at h
   split at h
   · rcases List.mem_cons.mp h with rfl | h
     · exact .inl rfl
     · exact .inr (.tail _ h)
   · rcases List.mem_cons.mp h with rfl | h
     · exact .inr (.head _)
     · exact (ih h).imp id fun z => .tail _ z
theorem lookup_int {κ : Type} [BEq κ] {es : List (κ × AV)} (h : ∀ p ∈ es, ∃ i, p.2 = AV.int i) (k : κ) : ∃ i, (es.lookup k).getD (.int (-1)) = .int i := by
 cases q : es.lookup k with
 | none => exact ⟨-1, rfl⟩
 | some a =>
   have : ∃ p ∈ es, p.2 = a := by
     clear h
     induction es with
     | nil => (exact noneE q)
     | cons x r ih =>
       obtain ⟨j, b⟩ := x
       rw [List.lookup_cons] at q
       cases z : k == j with
       | true =>
         simp only [z] at q
         cases q
         exact ⟨_, .head _, rfl⟩
       | false =>
         simp only [z] at q
         (refine exEA (ih q) fun p h1 h2 => ?_)
         exact ⟨p, .tail _ h1, h2⟩
   (refine exEA (this) fun p h1 h2 => ?_; clear this)
   (refine exE (h p h1) fun i hi => ?_)
   exact ⟨i, by rw [← h2, hi]; rfl⟩
theorem SyAt.le {B x dx lt la lf lg n m H} (S : SyAt B x dx lt la lf lg n H) (h : n ≤ m) : SyAt B x dx lt la lf lg m H := by
 (refine exEA (S.t) fun xs t1 t2 => ?_)
 (refine exEAA (S.a) fun es a1 a2 a3 => ?_)
 (refine exEA (S.f) fun ys f1 f2 => ?_)
 (refine exEAA (S.g) fun gs g1 g2 g3 => ?_)
 exact ⟨S.base, S.fb, S.hx, S.hd, ⟨xs, t1, by (exact Nat.le_trans (by assumption) (by assumption))⟩, ⟨es, a1, by (exact Nat.le_trans (by assumption) (by assumption)), a3⟩, ⟨ys, f1, by lia⟩, ⟨gs, g1, by (exact Nat.le_trans (by assumption) (by assumption)), g3⟩, S.ne⟩
theorem nk {H : AHeap} {a b : Addr} {o o' : AO} (h1 : H a = some o) (h2 : H b = some o') (h : o ≠ o') : a ≠ b := fun z => by
 rw [z, h2] at h1
 exact h (Option.some.inj h1).symm
theorem SyAt.nes {B x dx lt la lf lg n H} (S : SyAt B x dx lt la lf lg n H) : x ≠ dx ∧ x ≠ lt ∧ x ≠ la ∧ x ≠ lf ∧ x ≠ lg ∧ dx ≠ lt ∧ dx ≠ la ∧ dx ≠ lf ∧ dx ≠ lg ∧ lt ≠ la ∧ lt ≠ lf ∧ lt ≠ lg ∧ la ≠ lf ∧ la ≠ lg ∧ lf ≠ lg := by
 (refine exEA (S.t) fun xs t1 t2 => ?_)
 (refine exEAA (S.a) fun es a1 a2 a3 => ?_)
 (refine exEA (S.f) fun ys f1 f2 => ?_)
 (refine exEAA (S.g) fun gs g1 g2 g3 => ?_)
 exact ⟨nk S.hx S.hd (by intro z; cases z), nk S.hx t1 (by intro z; cases z), nk S.hx a1 (by intro z; cases z), nk S.hx f1 (by intro z; cases z), nk S.hx g1 (by intro z; cases z), nk S.hd t1 (by intro z; cases z), nk S.hd a1 (by intro z; cases z), nk S.hd f1 (by intro z; cases z), nk S.hd g1 (by intro z; cases z), nk t1 a1 (by intro z; cases z), S.ne, nk t1 g1 (by intro z; cases z), nk a1 f1 (by intro z; cases z), nk a1 g1 (by intro z; cases z), nk f1 g1 (by intro z; cases z)⟩
theorem SyAt.setA {B x dx lt la lf lg n H} (S : SyAt B x dx lt la lf lg n H) {xs : List AV} {es : List (Str × AV)} {a : AV} {k : Str} {i : Int} (t2 : xs.length ≤ n) (a2 : es.length ≤ n) (a3 : ∀ p ∈ es, ∃ i, p.2 = AV.int i) (t1 : H lt = some (.list xs)) (a1 : H la = some (.sdict es)) : SyAt B x dx lt la lf lg (n + 1) ((H.put lt (.list (xs ++ [a]))).put la (.sdict (putD k (.int i) es))) := by
 (refine exEA (S.f) fun ys f1 f2 => ?_)
 (refine exEAA (S.g) fun gs g1 g2 g3 => ?_)
 have hx := S.hx
 have hd := S.hd
 have ne := S.ne
 have fb := S.fb
 (refine exAAAAAAAAAAAAAA (S.nes) fun m1 m2 m3 m4 m5 m6 m7 m8 m9 m10 m11 m12 m13 m14 m15 => ?_)
 refine ⟨fun b o q => ?_, S.fb, by k_extra "hp", by k_extra "hp", ⟨xs ++ [a], by k_extra "hp", by simp; (assumption)⟩, ⟨_, AHeap.put_self _ _ _, ?_, fun p hp => ?_⟩, ⟨ys, by k_extra "hp", by (exact Nat.le_succ_of_le (by assumption))⟩, ⟨gs, by k_extra "hp", by (exact Nat.le_succ_of_le (by assumption)), g3⟩, ne⟩
 · have n1 : b ≠ lt := fun z => by rw [z, fb.1] at q; (exact noneE q)
   have n2 : b ≠ la := fun z => by rw [z, fb.2.1] at q; (exact noneE q)
   exact (AHeap.put_ne _ _ n2).trans ((AHeap.put_ne _ _ n1).trans (S.base b o q))
 · have := putD_length k (.int i) es
   lia
 · rcases mem_putD hp with z | z
   · exact ⟨i, z⟩
   · exact a3 p z
theorem SyAt.setF {B x dx lt la lf lg n H} (S : SyAt B x dx lt la lf lg n H) {xs : List AV} {es : List (List Atom × AV)} {a : AV} {k : List Atom} {i : Int} (t2 : xs.length ≤ n) (a2 : es.length ≤ n) (a3 : ∀ p ∈ es, ∃ i, p.2 = AV.int i) (t1 : H lf = some (.list xs)) (a1 : H lg = some (.tdict es)) : SyAt B x dx lt la lf lg (n + 1) ((H.put lf (.list (xs ++ [a]))).put lg (.tdict (putD k (.int i) es))) := by
 (refine exEA (S.t) fun ys f1 f2 => ?_)
 (refine exEAA (S.a) fun gs g1 g2 g3 => ?_)
 have hx := S.hx
 have hd := S.hd
 have ne := S.ne
 have fb := S.fb
 (refine exAAAAAAAAAAAAAA (S.nes) fun m1 m2 m3 m4 m5 m6 m7 m8 m9 m10 m11 m12 m13 m14 m15 => ?_)
 refine ⟨fun b o q => ?_, S.fb, by k_extra "hp", by k_extra "hp", ⟨ys, by k_extra "hp", by lia⟩, ⟨gs, by k_extra "hp", by (exact Nat.le_succ_of_le (by assumption)), g3⟩, ⟨xs ++ [a], by k_extra "hp", by simp; lia⟩, ⟨_, AHeap.put_self _ _ _, ?_, fun p hp => ?_⟩, ne⟩
 · have n1 : b ≠ lf := fun z => by rw [z, fb.2.2.1] at q; (exact noneE q)
   have n2 : b ≠ lg := fun z => by rw [z, fb.2.2.2] at q; (exact noneE q)
   exact (AHeap.put_ne _ _ n2).trans ((AHeap.put_ne _ _ n1).trans (S.base b o q))
 · have := putD_length k (.int i) es
   lia
 · rcases mem_putD hp with z | z
   · exact ⟨i, z⟩
   · exact a3 p z
section
variable {D : Nat} {H : AHeap} {B : AHeap} {x dx lt la lf lg : Addr} {n : Nat}
theorem a122a : attrIn e.G.K 122 ("texts" : Str) = true := by kernel_rfl
theorem a122b : attrIn e.G.K 122 ("atom_numbers" : Str) = true := by kernel_rfl
theorem a122c : attrIn e.G.K 122 ("functors" : Str) = true := by kernel_rfl
theorem a122d : attrIn e.G.K 122 ("functor_numbers" : Str) = true := by kernel_rfl
theorem s122a : setIn e.G.K 122 ("texts" : Str) = true := by kernel_rfl
theorem s122b : setIn e.G.K 122 ("atom_numbers" : Str) = true := by kernel_rfl
theorem s122c : setIn e.G.K 122 ("functors" : Str) = true := by kernel_rfl
theorem s122d : setIn e.G.K 122 ("functor_numbers" : Str) = true := by kernel_rfl
theorem m122a : methIn e.G.K 122 ("atom" : Str) 56 = true := by kernel_rfl
theorem m122b : methIn e.G.K 122 ("functor" : Str) 70 = true := by kernel_rfl
theorem m122c : methIn e.G.K 122 ("func" : Str) 77 = true := by kernel_rfl
theorem mk122 : makesIn e.G.K 122 = true := by kernel_rfl
theorem in122 : findIn e.G.K (.ref 122) "__init__" = some (some (.ref 49)) := by kernel_rfl
theorem fn49 : isFn e.G.K (.ref 49) = true := by kernel_rfl
theorem k28n : nsIn e.G.K mainGlobals ("fixed_atoms" : Str) = some (some (.ref 28)) := by kernel_rfl
theorem k28 : keepIn e.G.K (.ref 28) = true := by kernel_rfl
theorem k35n : nsIn e.G.K mainGlobals ("fixed_functors" : Str) = some (some (.ref 35)) := by kernel_rfl
theorem k35 : keepIn e.G.K (.ref 35) = true := by kernel_rfl
end
theorem kw81 : True := by
 k_with "wf" => (first | (with_reducible first | exact a122a | exact a122b | exact a122c | exact a122d | exact s122a | exact s122b | exact s122c | exact s122d | exact m122a | exact m122b | exact m122c) | fail)
 trivial
section
variable {D : Nat} {H : AHeap} {B : AHeap} {x dx lt la lf lg : Addr} {n : Nat}
theorem atom_ok (S : SyAt B x dx lt la lf lg n H) (hn : n ≤ 1000) (text : Str) {Q : AQ} (h : ∀ i H', SyAt B x dx lt la lf lg (n + 1) H' → Q (.int i) H') : WC e.G (D + 1) (.ref 56) [.ref x, .str text] H Q := by
 (refine exEA (S.t) fun xs t1 t2 => ?_)
 (refine exEAA (S.a) fun es a1 a2 a3 => ?_)
 (refine exE (lookup_int a3 text) fun i hi => ?_)
 (refine exAAAAAAAAAAAAAA (S.nes) fun n1 n2 n3 n4 n5 n6 n7 n8 n9 n10 n11 n12 n13 n14 n15 => ?_)
 have hx := S.hx
 have hd := S.hd
 refine WC.enterF (ns := ["self", "text"]) (by kernel_rfl) (by kernel_rfl) rfl (bind2 (by intro x y; kernel_rfl)) ?_
 k_extra "norm_m"
 k_extra "wg"
 refine ⟨_, rfl, ?_⟩
 k_extra "wg"
 refine WB.getS (es := es) (by k_extra "hp") rfl rfl ?_
 rw [show -(1 : Int) = -1 from rfl] at *
 rw [hi]
 k_extra "wg"
 · k_extra "wg"
   exact h i H (S.le (Nat.le_succ n))
 · k_extra "wg"
   refine WB.append (xs := xs) (by k_extra "hp") (by lia) ?_
   k_extra "wg"
   refine WSt.sdict (es := es) (by k_extra "hp") (by lia) ?_
   k_extra "wg"
   refine h _ _ (S.setA t2 a2 a3 t1 a1)
theorem functor_ok (S : SyAt B x dx lt la lf lg n H) (hn : n ≤ 1000) (at_ : Int) (ar : Int) {Q : AQ} (h : ∀ i H', SyAt B x dx lt la lf lg (n + 1) H' → Q (.int i) H') : WC e.G (D + 2) (.ref 70) [.ref x, .int at_, .int ar] H Q := by
 (refine exEA (S.f) fun xs t1 t2 => ?_)
 (refine exEAA (S.g) fun es a1 a2 a3 => ?_)
 (refine exE (lookup_int a3 [Atom.i at_, Atom.i ar]) fun i hi => ?_)
 (refine exAAAAAAAAAAAAAA (S.nes) fun n1 n2 n3 n4 n5 n6 n7 n8 n9 n10 n11 n12 n13 n14 n15 => ?_)
 have hx := S.hx
 have hd := S.hd
 refine WC.enterF (ns := ["self", "atom", "arity"]) (by kernel_rfl) (by kernel_rfl) rfl (bind3 (by intro x y z; kernel_rfl)) ?_
 k_extra "norm_m"
 k_extra "wg"
 refine ⟨_, rfl, ?_⟩
 k_extra "wg"
 refine WB.getT (k := [Atom.i at_, Atom.i ar]) (es := es) (by k_extra "hp") ?_
 rw [show -(1 : Int) = -1 from rfl] at *
 rw [hi]
 k_extra "wg"
 · k_extra "wg"
   exact h i H (S.le (Nat.le_succ n))
 · k_extra "wg"
   refine WB.append (xs := xs) (by k_extra "hp") (by lia) ?_
   k_extra "wg"
   refine WSt.tdict (k := [Atom.i at_, Atom.i ar]) (es := es) (by k_extra "hp") (by lia) ?_
   k_extra "wg"
   refine h _ _ (S.setF t2 a2 a3 t1 a1)
theorem func_ok (S : SyAt B x dx lt la lf lg n H) (hn : n ≤ 900) (text : Str) (ar : Int) {Q : AQ} (h : ∀ i H', SyAt B x dx lt la lf lg (n + 2) H' → Q (.int i) H') : WC e.G (D + 3) (.ref 77) [.ref x, .str text, .int ar] H Q := by
 have hx := S.hx
 have hd := S.hd
 refine WC.enterF (ns := ["self", "text", "arity"]) (by kernel_rfl) (by kernel_rfl) rfl (bind3 (by intro x y z; kernel_rfl)) ?_
 k_extra "norm_m"
 k_extra "wg"
 refine atom_ok S (by (exact Nat.le_trans (by assumption) (Nat.le_of_ble_eq_true rfl))) text fun i H1 S1 => ?_
 k_extra "wg"
 refine functor_ok S1 (by lia) i ar fun j H2 S2 => ?_
 k_extra "wg"
 exact h _ _ S2
theorem put_none {H : AHeap} {a b : Addr} {o : AO} (h : (H.put b o) a = none) : a ≠ b ∧ H a = none := by
 have n : a ≠ b := fun z => by rw [z, AHeap.put_self] at h; (exact someE h)
 exact ⟨n, (AHeap.put_ne _ _ n).symm.trans h⟩
theorem fa_ok {Q : AQ} (h : Q (.tup ((["[]", ".", "{}", "-", "+", "*", "/", ",", "|", ";", "->", "\\+", ":-", "?-", "-->", "!", "true", "fail", "false", "call", "=", "^", "error", "", "end_of_file", "system", "$VAR", "catch", "throw"] : List Str).map fun s => AV.str s)) H) : WC e.G (D + 1) (.ref 28) [] H Q := by
 refine WC.enterF (ns := []) (by kernel_rfl) (by kernel_rfl) rfl (fun vals hv => by cases vals with | nil => kernel_rfl | cons _ _ => cases hv) ?_
 k_extra "norm_m"
 k_extra "wg"
 exact h
noncomputable def ffs : List (Str × Int) := [(".", 2), (",", 2), (";", 2), ("->", 2), ("\\+", 1), (":-", 2), (":-", 1), ("?-", 1), ("-->", 2), ("{}", 1), ("=", 2), ("^", 2), ("-", 1), ("-", 2), ("+", 2), ("/", 2), ("error", 2), ("$VAR", 1), ("catch", 3), ("throw", 1), ("!", 0), ("true", 0), ("fail", 0), ("false", 0), ("call", 1), ("call", 2), ("call", 3), ("call", 4), ("call", 5), ("call", 6), ("call", 7), ("call", 8)]
theorem ff_ok {Q : AQ} (h : Q (.tup (ffs.map fun p => AV.tup [.str p.1, .int p.2])) H) : WC e.G (D + 1) (.ref 35) [] H Q := by
 refine WC.enterF (ns := []) (by kernel_rfl) (by kernel_rfl) rfl (fun vals hv => by cases vals with | nil => kernel_rfl | cons _ _ => cases hv) ?_
 k_extra "norm_m"
 k_extra "wg"
 exact h
theorem sy_start {B : AHeap} {x dx lt la lf lg : Addr} {G : Gl} {D : Nat} {cs : Scope} {cl : List (Str × Addr)} {st : Stmt} {m : Loc} {H : AHeap} {Q : Fl → Loc → AHeap → Prop} (S : SyAt B x dx lt la lf lg 0 H) (h : ∀ H0, SyAt B x dx lt la lf lg 0 H0 → W1 G D cs cl st m H0 Q) : W1 G D cs cl st m H Q := h H S
theorem mkSymbols_ok {Q : AQ} (h : ∀ x H', Fram [] H H' → Q (.ref x) H') : WC e.G (D + 6) (.ref 122) [] H Q := by
 refine WC.make mk122 in122 fn49 fun x dx hx hdx ne => ?_
 refine WC.enterF (ns := ["self"]) (by kernel_rfl) (by kernel_rfl) rfl (bind1 (by intro x; kernel_rfl)) ?_
 k_extra "norm_m"
 have nx := ne.symm
 refine WS.cons (W1.assignAttr (WE.list ?_))
 k_extra "wg"
 intro lt hlt
 (refine exA (put_none hlt) fun m1 q1 => ?_)
 (refine exA (put_none q1) fun m2 q2 => ?_)
 k_extra "wg"
 refine WE.dict0S fun la hla => ?_
 (refine exA (put_none hla) fun m3 q3 => ?_)
 (refine exA (put_none q3) fun m4 q4 => ?_)
 (refine exA (put_none q4) fun m5 q5 => ?_)
 (refine exA (put_none q5) fun m6 q6 => ?_)
 k_extra "wg"
 intro lf hlf
 (refine exA (put_none hlf) fun m7 q7 => ?_)
 (refine exA (put_none q7) fun m8 q8 => ?_)
 (refine exA (put_none q8) fun m9 q9 => ?_)
 (refine exA (put_none q9) fun m10 q10 => ?_)
 (refine exA (put_none q10) fun m11 q11 => ?_)
 (refine exA (put_none q11) fun m12 q12 => ?_)
 k_extra "wg"
 refine WE.dict0T fun lg hlg => ?_
 (refine exA (put_none hlg) fun m13 q13 => ?_)
 (refine exA (put_none q13) fun m14 q14 => ?_)
 (refine exA (put_none q14) fun m15 q15 => ?_)
 (refine exA (put_none q15) fun m16 q16 => ?_)
 (refine exA (put_none q16) fun m17 q17 => ?_)
 (refine exA (put_none q17) fun m18 q18 => ?_)
 (refine exA (put_none q18) fun m19 q19 => ?_)
 (refine exA (put_none q19) fun m20 q20 => ?_)
 k_extra "wg"
 refine sy_start (B := H) (x := x) (dx := dx) (lt := lt) (la := la) (lf := lf) (lg := lg) ⟨fun a o q => ?_, ⟨q2, q6, q12, q20⟩, by k_extra "hp", AHeap.put_self _ _ _, ⟨[], by k_extra "hp", Nat.le_refl _⟩, ⟨[], by k_extra "hp", Nat.le_refl _, fun p hp => nomatch hp⟩, ⟨[], by k_extra "hp", Nat.le_refl _⟩, ⟨[], by k_extra "hp", Nat.le_refl _, fun p hp => nomatch hp⟩, by (first | assumption | exact Ne.symm (by assumption))⟩ fun H0 S0 => ?_
 · have b1 : a ≠ x := fun z => by rw [z, hx] at q; (exact noneE q)
   have b2 : a ≠ dx := fun z => by rw [z, hdx] at q; (exact noneE q)
   have b3 : a ≠ lt := fun z => by rw [z, q2] at q; (exact noneE q)
   have b4 : a ≠ la := fun z => by rw [z, q6] at q; (exact noneE q)
   have b5 : a ≠ lf := fun z => by rw [z, q12] at q; (exact noneE q)
   have b6 : a ≠ lg := fun z => by rw [z, q20] at q; (exact noneE q)
   k_extra "hp"
 refine W1.forTup (WE.callK k28n k28 (fa_ok ⟨_, rfl, ?_⟩))
 refine ForN.rule (f := fun t : Str => AV.str t) (fun rest m' H' => ∃ n, Sub [("self", .ref x)] m' ∧ SyAt H x dx lt la lf lg n H' ∧ n + rest.length ≤ 29) (fun t rest m1 H1 I kp => ?_) (fun m1 H1 I kp => ?_) _ trivial ⟨0, fun _ _ z => z, S0, Nat.le_refl _⟩
 · (refine exEAA (I) fun n i1 S1 z => ?_; clear I)
   refine WS.weak (m' := [("text", .str t), ("self", .ref x)]) (Sub.cons rfl (Sub.cons (i1 _ _ rfl) Sub.nil)) ?_
   have hx := S1.hx
   have hd := S1.hd
   simp only [List.length_cons] at z
   k_extra "wg"
   refine atom_ok S1 (by lia) t fun i H2 S2 => ?_
   k_extra "wg"
   exact ⟨trivial, n + 1, Sub.cons rfl Sub.nil, S2, by lia⟩
 · (refine exEAA (I) fun n i1 S1 z => ?_; clear I)
   simp only [List.length_nil] at z
   refine WS.weak (m' := [("self", .ref x)]) i1 ?_
   k_extra "norm_m"
   refine WS.cons (W1.forTup (WE.callK k35n k35 (ff_ok ⟨_, rfl, ?_⟩)))
   refine ForN.rule (f := fun p : Str × Int => AV.tup [.str p.1, .int p.2]) (fun rest m' H' => ∃ n, Sub [("self", .ref x)] m' ∧ SyAt H x dx lt la lf lg n H' ∧ n + 2 * rest.length ≤ 93) (fun t rest m1 H1 I kp => ?_) (fun m1 H1 I kp => ?_) _ trivial ⟨n, fun _ _ z => z, S1, by rw [show ffs.length = 32 from rfl]; (exact Nat.add_le_add_right (by assumption) _)⟩
   · (refine exEAA (I) fun n i1 S1 z => ?_; clear I)
     refine WS.weak (m' := [("row", .tup [.str t.1, .int t.2]), ("self", .ref x)]) (Sub.cons rfl (Sub.cons (i1 _ _ rfl) Sub.nil)) ?_
     have hx := S1.hx
     have hd := S1.hd
     simp only [List.length_cons] at z
     k_extra "wg"
     refine func_ok S1 (by lia) t.1 t.2 fun i H2 S2 => ?_
     k_extra "wg"
     exact ⟨trivial, n + 2, Sub.cons rfl Sub.nil, S2, by lia⟩
   · (refine exEAA (I) fun n i1 S1 z => ?_; clear I)
     refine WS.weak (m' := [("self", .ref x)]) i1 ?_
     k_extra "norm_m"
     k_extra "wg"
     exact ⟨rfl, h x H1 fun a o q _ => S1.base a o q⟩
end
structure TpAt (lt l0 : Addr) (H : AHeap) : Prop where
 ne : lt ≠ l0
 t : ∃ (xs : List Int) (i : Nat) (j : Int), H lt = some (.list [.ref l0, .int i, .int j]) ∧ H l0 = some (.list (xs.map AV.int)) ∧ xs.length ≤ 60 ∧ i ≤ 60
section
variable {D : Nat} {H : AHeap}
theorem giL {G : Gl} {D : Nat} {H : AHeap} {l : Addr} {i : Int} {Q : AQ} {xs : List AV} {a : AV} (hl : H l = some (.list xs)) (h0 : 0 ≤ i) (hx : xs[i.toNat]? = some a) (hz : xs.length ≤ 16000000) (h : Q a H) : WI G D (.ref l) (.int i) H Q := WI.list hl rfl h0 hx hz h
theorem gWI {G : Gl} {D : Nat} {H : AHeap} {l : Addr} {i : Int} {Q : AQ} (h : WI G D (.ref l) (.int i) H Q) : WI G D (.ref l) (.int i) H Q := h
theorem gWSt {G : Gl} {D : Nat} {H : AHeap} {l : Addr} {i : Int} {v : AV} {Q : AHeap → Prop} (h : WSt G D (.ref l) (.int i) v H Q) : WSt G D (.ref l) (.int i) v H Q := h
theorem gAugI {G : Gl} {D : Nat} {cs : Scope} {cl : List (Str × Addr)} {m : Loc} {H : AHeap} {o i e : Expr} {op : Operator} {tp pos : Pos} {Q : Fl → Loc → AHeap → Prop} (h : W1 G D cs cl (.AugAssign (.Subscript o i tp) op e pos) m H Q) : W1 G D cs cl (.AugAssign (.Subscript o i tp) op e pos) m H Q := h
end
theorem kw82 : True := by
 k_with "wi" => (first | (((with_reducible refine gWI ?_); (focus (refine' giL ?_ (by decide) ?_ ?_ ?_; rotate_right 4; (· k_extra "hfr"); (· rfl); (· exact Nat.le_of_ble_eq_true rfl))))) | fail)
 trivial
section
variable {D : Nat} {H : AHeap}
theorem wst1 {G : Gl} {D : Nat} {H : AHeap} {l : Addr} {a b c v : AV} {Q : AHeap → Prop} (hl : H l = some (.list [a, b, c])) (h : Q (H.put l (.list [a, v, c]))) : WSt G D (.ref l) (.int 1) v H Q := WSt.list hl (by decide) (by simp) (by (exact Nat.le_of_ble_eq_true rfl)) h
theorem wst2 {G : Gl} {D : Nat} {H : AHeap} {l : Addr} {a b c v : AV} {Q : AHeap → Prop} (hl : H l = some (.list [a, b, c])) (h : Q (H.put l (.list [a, b, v]))) : WSt G D (.ref l) (.int 2) v H Q := WSt.list hl (by decide) (by simp) (by (exact Nat.le_of_ble_eq_true rfl)) h
theorem gEI {n : Int} {P : Int → Prop} (h : P n) : ∃ i, AV.int n = AV.int i ∧ P i := ⟨n, rfl, h⟩
end
theorem kw83 : True := by
 k_with "wx" => (first | (first | ((with_reducible refine gWSt ?_); first | (focus (refine' wst1 ?_ ?_; rotate_right 2; (· k_extra "hfr"))) | (focus (refine' wst2 ?_ ?_; rotate_right 2; (· k_extra "hfr")))) | (with_reducible refine gEI ?_)) | fail)
 trivial
section
variable {D : Nat} {H : AHeap}
theorem gFd {G : Gl} {D : Nat} {cs : Scope} {cl : List (Str × Addr)} {m : Loc} {H : AHeap} {Q : AQ} {l r : Expr} {pos : Pos} (h : WE G D cs cl (.BinOp l .FloorDiv r pos) m H Q) : WE G D cs cl (.BinOp l .FloorDiv r pos) m H Q := h
end
theorem kw84 : True := by
 k_with "wz" => (first | (((with_reducible refine gAugI ?_); refine W1.augItem ?_)) | fail)
 trivial
section
variable {D : Nat} {H : AHeap}
theorem k608n : nsIn e.G.K mainGlobals ("_law_digit" : Str) = some (some (.ref 608)) := by kernel_rfl
theorem k608 : keepIn e.G.K (.ref 608) = true := by kernel_rfl
theorem impE : importsNone e.G.p = true := by kernel_rfl
theorem treeE : e.G.prog.given.tree = none := by kernel_rfl
end
theorem kw85 : True := by
 k_with "we" => (first | (((with_reducible refine gFd ?_); refine WE.fdiv impE treeE ?_)) | fail)
 trivial
section
variable {D : Nat} {H : AHeap}
theorem digit_ok {lt l0 : Addr} (T : TpAt lt l0 H) (limit : Int) (hl : 0 < limit) {Q : AQ} (h : ∀ d H', 0 ≤ d → d < limit → TpAt lt l0 H' → Fram [lt, l0] H H' → Q (.int d) H') : WC e.G (D + 101) (.ref 608) [.ref lt, .int limit] H Q := by
 obtain ⟨ne, xs, i, j, t1, t2, t3, t4⟩ := T
 have nr := ne.symm
 refine WC.enterF (ns := ["tape", "limit"]) (by kernel_rfl) (by kernel_rfl) rfl (bind2 (by intro x y; kernel_rfl)) ?_
 k_extra "norm_m"
 k_extra "wg"
 · k_extra "wg"
   exact h 0 H (by (exact Int.natCast_nonneg _)) hl ⟨ne, xs, i, j, t1, t2, t3, t4⟩ Fram.refl
 have hlt : i < xs.length := by
   simp only [List.length_map] at *
   lia
 have hf0 : 0 ≤ xs[i].fmod limit := Int.fmod_nonneg_of_pos _ hl
 have hf1 : xs[i].fmod limit < limit := Int.fmod_lt_of_pos _ hl
 have mv : ∀ {H' : AHeap} {k : Int}, H' lt = some (.list [.ref l0, .int (i + 1), .int k]) → H' l0 = some (.list (xs.map AV.int)) → Fram [lt, l0] H H' → Q (.int (xs[i].fmod limit)) H' := fun {H' k} h1 h2 F => h _ H' hf0 hf1 ⟨ne, xs, i + 1, k, h1, h2, t3, by (exact Nat.lt_of_lt_of_le (by assumption) (by assumption))⟩ F
 refine giL (xs := xs.map AV.int) (a := .int xs[i]) t2 (Int.natCast_nonneg i) (by simp [hlt]) (by simp; lia) ?_
 k_extra "wg"
 refine WOp.mod (by lia) ?_
 k_extra "wg"
 refine ⟨_, _, rfl, rfl, by lia, ?_⟩
 k_extra "wg"
 all_goals (try k_extra "wg")
 all_goals (try k_extra "wg")
 all_goals (try k_extra "wg")
 all_goals (try exact mv (AHeap.put_self _ _ _) (by k_extra "hp") ((Fram.put (by (first | exact List.mem_cons_self | simp))).trans ((Fram.put (by (first | exact .tail _ (.head _) | exact List.mem_cons_self | simp))).trans (Fram.put (by (exact List.mem_cons_self))))))
 refine WSt.list (xs := xs.map AV.int) (by k_extra "hp") (Int.natCast_nonneg i) (by simp; (assumption)) (by simp; lia) ?_
 k_extra "wg"
 refine h _ _ hf0 hf1 ⟨ne, xs.set i (xs[i].fdiv limit), i, j + 1, by k_extra "hp", ?_, by simpa using t3, t4⟩ ((Fram.put (by (exact List.mem_cons_self))).trans (Fram.put (by (exact .tail _ (.head _)))))
 rw [AHeap.put_self, List.map_set, Int.toNat_natCast]
end
section
variable {D : Nat} {H : AHeap}
theorem k615n : nsIn e.G.K mainGlobals ("_law_term" : Str) = some (some (.ref 615)) := by kernel_rfl
theorem k615 : keepIn e.G.K (.ref 615) = true := by kernel_rfl
theorem fM1 : intIn e.G.K ("F_MINUS1" : Str) = some 12 := by kernel_rfl
theorem fPLUS : intIn e.G.K ("F_PLUS" : Str) = some 14 := by kernel_rfl
theorem fMINUS : intIn e.G.K ("F_MINUS" : Str) = some 13 := by kernel_rfl
theorem fCALL1 : intIn e.G.K ("F_CALL1" : Str) = some 24 := by kernel_rfl
theorem fCALL2 : intIn e.G.K ("F_CALL2" : Str) = some 25 := by kernel_rfl
end
theorem kw86 : True := by
 k_with "wf" => (first | (with_reducible first | exact fM1 | exact fPLUS | exact fMINUS | exact fCALL1 | exact fCALL2 | exact k608n | exact k608 | exact k615n | exact k615) | fail)
 trivial
section
variable {D : Nat} {H : AHeap}
end
theorem kw87 : True := by
 k_with "wk" => (first | ((focus (refine' WE.callK ?_ ?_ ?_; rotate_right 3; (· with_reducible first | exact k608n | exact k615n); (· with_reducible first | exact k608 | exact k615)))) | fail)
 trivial
section
variable {D : Nat} {H : AHeap}
theorem TpAt.grow {lt l0 : Addr} {H H' : AHeap} (T : TpAt lt l0 H) (F : ∀ a o, H a = some o → a = lt ∨ a = l0 → H' a = some o) : TpAt lt l0 H' := by
 obtain ⟨ne, xs, i, j, t1, t2, t3⟩ := T
 exact ⟨ne, xs, i, j, F _ _ t1 (.inl rfl), F _ _ t2 (.inr rfl), t3⟩
theorem TpAt.new {lt l0 : Addr} {H : AHeap} (T : TpAt lt l0 H) {l : Addr} (hl : H l = none) (o : AO) : TpAt lt l0 (H.put l o) ∧ l ∉ [lt, l0] := by
 have g : TpAt lt l0 (H.put l o) := T.grow fun a o' e _ => by
   have n : a ≠ l := fun z => by
     rw [z, hl] at e
     (exact noneE e)
   exact (AHeap.put_ne _ _ n).trans e
 refine ⟨g, fun z => ?_⟩
 obtain ⟨ne, xs, i, j, t1, t2, t3⟩ := T
 rcases List.mem_cons.mp z with rfl | z
 · rw [t1] at hl; (exact someE hl)
 · rcases List.mem_cons.mp z with rfl | z
   · rw [t2] at hl; (exact someE hl)
   · cases z
noncomputable def Tm.low (n : Nat) (t : Tm) : Prop := ∀ k ∈ t.occs, k.val < n
noncomputable def TermAt (e : Ev) (n : Nat) (deep : Int) (z : Nat) : Prop := ∀ (lt l0 : Addr) (H : AHeap) (Q : AV → AHeap → Prop), TpAt lt l0 H → (∀ (t : Tm) H', t.size ≤ z → t.low 5 → TpAt lt l0 H' → Fram [lt, l0] H H' → Q t.av H') → WC e.G n (.ref 615) [.ref lt, .int deep] H Q
theorem term_step (deep : Int) (z : Nat) (IH : 0 < deep → TermAt e (D + 102) (deep - 1) z) : TermAt e (D + 103) deep (2 * z + 1) := by
 intro lt l0 H Q T h
 refine WC.enterF (ns := ["tape", "deep"]) (by kernel_rfl) (by kernel_rfl) rfl (bind2 (by intro x y; kernel_rfl)) ?_
 k_extra "norm_m"
 k_extra "wg"
 refine digit_ok T 6 (by decide) fun d H1 d0 d1 T1 F1 => ?_
 have fall : ∀ {H2 : AHeap} {n : Int}, 0 ≤ n → n < 5 → TpAt lt l0 H2 → Fram [lt, l0] H1 H2 → Q (.tup [sS "v", .int n]) H2 := fun {H2 n} n0 n1 T2 F2 => by
   have z := h (.v ⟨n.toNat, by lia⟩) H2 (by simp [Tmsize_v, Tmsize_a, Tmsize_i, Tmsize_s1, Tmsize_s2]) (fun k hk => by simp only [Tmoccs_v, Tmoccs_a, Tmoccs_i, Tmoccs_s1, Tmoccs_s2, List.mem_singleton] at hk; subst hk; show n.toNat < 5; lia) T2 (F1.trans F2)
   have : vi ⟨n.toNat, by lia⟩ = n := by show ((n.toNat : Nat) : Int) = n; lia
   simp only [Tm.av] at z
   rw [this] at z
   exact z
 k_extra "wg"
 · k_extra "wg"
   refine digit_ok T1 4 (by decide) fun n H2 n0 n1 T2 F2 => ?_
   k_extra "wg"
   exact h (.a n) H2 (by simp [Tmsize_v, Tmsize_a, Tmsize_i, Tmsize_s1, Tmsize_s2]) (fun k hk => by simp [Tmoccs_v, Tmoccs_a, Tmoccs_i, Tmoccs_s1, Tmoccs_s2] at hk) T2 (F1.trans F2)
 k_extra "wg"
 · k_extra "wg"
   refine WOp.pow20 ?_
   k_extra "wg"
   refine digit_ok T1 (10 ^ 20) (by decide) fun n H2 n0 n1 T2 F2 => ?_
   k_extra "wg"
   exact h (.i (n - 5)) H2 (by simp [Tmsize_v, Tmsize_a, Tmsize_i, Tmsize_s1, Tmsize_s2]) (fun k hk => by simp [Tmoccs_v, Tmoccs_a, Tmoccs_i, Tmoccs_s1, Tmoccs_s2] at hk) T2 (F1.trans F2)
 k_extra "wg"
 all_goals (try k_extra "wg")
 · refine IH (by assumption) _ _ _ _ T1 fun t H2 z2 o2 T2 F2 => ?_
   k_extra "wg"
   exact h (.s1 t) H2 (by simp only [Tmsize_v, Tmsize_a, Tmsize_i, Tmsize_s1, Tmsize_s2]; lia) o2 T2 (F1.trans F2)
 · refine IH (by assumption) _ _ _ _ T1 fun t H2 z2 o2 T2 F2 => ?_
   k_extra "wg"
   refine IH (by assumption) _ _ _ _ T2 fun u H3 z3 o3 T3 F3 => ?_
   k_extra "wg"
   intro l hl
   (refine exA (T3.new hl (.list [.int 0, .int 14])) fun T4 nl => ?_)
   k_extra "wg"
   refine digit_ok T4 2 (by decide) fun b H5 b0 b1 T5 F5 => ?_
   have hl5 : H5 l = some (.list [.int 0, .int 14]) := F5 _ _ (AHeap.put_self _ _ _) nl
   have F6 : Fram [lt, l0] H H5 := F1.trans (F2.trans (F3.trans ((Fram.new hl).trans F5)))
   rcases (show b = 0 ∨ b = 1 by lia) with rfl | rfl
   · k_extra "wg"
     exact h (.s2 false t u) H5 (by simp only [Tmsize_v, Tmsize_a, Tmsize_i, Tmsize_s1, Tmsize_s2]; lia) (fun k hk => (List.mem_append.mp hk).elim (o2 k) (o3 k)) T5 F6
   · k_extra "wg"
     exact h (.s2 true t u) H5 (by simp only [Tmsize_v, Tmsize_a, Tmsize_i, Tmsize_s1, Tmsize_s2]; lia) (fun k hk => (List.mem_append.mp hk).elim (o2 k) (o3 k)) T5 F6
 · refine digit_ok T1 5 (by decide) fun n H2 n0 n1 T2 F2 => ?_
   k_extra "wg"
   exact fall n0 n1 T2 F2
 · refine digit_ok T1 5 (by decide) fun n H2 n0 n1 T2 F2 => ?_
   k_extra "wg"
   exact fall n0 n1 T2 F2
 · refine IH (by assumption) _ _ _ _ T1 fun t H2 z2 o2 T2 F2 => ?_
   k_extra "wg"
   refine IH (by assumption) _ _ _ _ T2 fun u H3 z3 o3 T3 F3 => ?_
   k_extra "wg"
   intro l hl
   (refine exA (T3.new hl (.list [.int 0, .int 14])) fun T4 nl => ?_)
   k_extra "wg"
   refine digit_ok T4 2 (by decide) fun b H5 b0 b1 T5 F5 => ?_
   have hl5 : H5 l = some (.list [.int 0, .int 14]) := F5 _ _ (AHeap.put_self _ _ _) nl
   have F6 : Fram [lt, l0] H H5 := F1.trans (F2.trans (F3.trans ((Fram.new hl).trans F5)))
   rcases (show b = 0 ∨ b = 1 by lia) with rfl | rfl
   · k_extra "wg"
     exact h (.s2 false t u) H5 (by simp only [Tmsize_v, Tmsize_a, Tmsize_i, Tmsize_s1, Tmsize_s2]; lia) (fun k hk => (List.mem_append.mp hk).elim (o2 k) (o3 k)) T5 F6
   · k_extra "wg"
     exact h (.s2 true t u) H5 (by simp only [Tmsize_v, Tmsize_a, Tmsize_i, Tmsize_s1, Tmsize_s2]; lia) (fun k hk => (List.mem_append.mp hk).elim (o2 k) (o3 k)) T5 F6
 · refine digit_ok T1 5 (by decide) fun n H2 n0 n1 T2 F2 => ?_
   k_extra "wg"
   exact fall n0 n1 T2 F2
 · refine digit_ok T1 5 (by decide) fun n H2 n0 n1 T2 F2 => ?_
   k_extra "wg"
   exact fall n0 n1 T2 F2
theorem term2 : TermAt e (D + 105) 2 7 := by
 have h0 : TermAt e (D + 103) 0 1 := term_step (D := D) 0 0 (fun z => absurd z (by decide))
 have h1 : TermAt e (D + 104) 1 3 := term_step (D := D + 1) 1 1 (fun _ => h0)
 have h2 := term_step (e := e) (D := D + 2) 2 3 (fun _ => h1)
 exact h2
end
inductive Drawn : Goal → Prop
 | call (t u : Tm) (h1 : t.low 5) (h2 : u.low 5) (z1 : t.size ≤ 7) (z2 : u.size ≤ 7) : Drawn (.call 25 [t, u])
 | unify (t u : Tm) (h1 : t.low 5) (h2 : u.low 5) (z1 : t.size ≤ 7) (z2 : u.size ≤ 7) : Drawn (.unify t u)
 | builtin (t u : Tm) (h1 : t.low 5) (h2 : u.low 5) (z1 : t.size ≤ 7) (z2 : u.size ≤ 7) : Drawn (.builtin 13 [t, u])
 | cutto : Drawn (.cutto 5)
section
variable {D : Nat} {H : AHeap}
theorem k622n : nsIn e.G.K mainGlobals ("_law_goal" : Str) = some (some (.ref 622)) := by kernel_rfl
theorem k622 : keepIn e.G.K (.ref 622) = true := by kernel_rfl
theorem goalD_ok {lt l0 : Addr} (T : TpAt lt l0 H) (b : Bool) {Q : AQ} (h : ∀ g H', Drawn g → TpAt lt l0 H' → Fram [lt, l0] H H' → Q g.av H') : WC e.G (D + 106) (.ref 622) [.ref lt, .bool b] H Q := by
 refine WC.enterF (ns := ["tape", "levelled"]) (by kernel_rfl) (by kernel_rfl) rfl (bind2 (by intro x y; kernel_rfl)) ?_
 k_extra "norm_m"
 k_extra "wg"
 refine digit_ok T 5 (by decide) fun d H1 d0 d1 T1 F1 => ?_
 k_extra "wg"
 refine term2 _ _ _ _ T1 fun t H2 z2 o2 T2 F2 => ?_
 k_extra "wg"
 refine term2 _ _ _ _ T2 fun u H3 z3 o3 T3 F3 => ?_
 have F := F1.trans (F2.trans F3)
 cases b
 all_goals k_extra "wg"
 all_goals (try k_extra "wg")
 all_goals (try k_extra "wg")
 all_goals (try k_extra "wg")
 all_goals (try k_extra "wg")
 all_goals first
   | exact h (.call 25 [t, u]) _ (.call t u o2 o3 z2 z3) T3 F
   | exact h (.unify t u) _ (.unify t u o2 o3 z2 z3) T3 F
   | exact h (.builtin 13 [t, u]) _ (.builtin t u o2 o3 z2 z3) T3 F
   | exact h (.cutto 5) _ .cutto T3 F
end
section
variable {D : Nat} {H : AHeap}
theorem gS1 {G : Gl} {D : Nat} {cs : Scope} {cl : List (Str × Addr)} {m : Loc} {H : AHeap} {Q : AQ} {e u : Expr} {p pos : Pos} (h : WE G D cs cl (.Subscript e (.Slice none (some u) none p) pos) m H Q) : WE G D cs cl (.Subscript e (.Slice none (some u) none p) pos) m H Q := h
theorem gS2 {G : Gl} {D : Nat} {cs : Scope} {cl : List (Str × Addr)} {m : Loc} {H : AHeap} {Q : AQ} {e u : Expr} {p pos : Pos} (h : WE G D cs cl (.Subscript e (.Slice (some u) none none p) pos) m H Q) : WE G D cs cl (.Subscript e (.Slice (some u) none none p) pos) m H Q := h
end
theorem kw88 : True := by
 k_with "we" => (first | (first | ((with_reducible refine gS1 ?_); refine WE.sliceTo ?_) | ((with_reducible refine gS2 ?_); refine WE.sliceFrom ?_)) | fail)
 trivial
section
variable {D : Nat} {H : AHeap}
theorem gER {l : Addr} {P : Addr → Prop} (h : P l) : ∃ i, AV.ref l = AV.ref i ∧ P i := ⟨l, rfl, h⟩
end
theorem kw89 : True := by
 k_with "wx" => (first | ((with_reducible refine gER ?_)) | fail)
 trivial
section
variable {D : Nat} {H : AHeap}
theorem k629n : nsIn e.G.K mainGlobals ("_law_exchange" : Str) = some (some (.ref 629)) := by kernel_rfl
theorem k629 : keepIn e.G.K (.ref 629) = true := by kernel_rfl
inductive XI (lt l0 : Addr) (H : AHeap) (n : Nat) (m' : Loc) (H' : AHeap) : Prop
 | no (h : False)
 | go (h : ∃ (rest tab : List Int) (lr lb : Addr), n = rest.length ∧ Sub [("tape", .ref lt), ("rest", .ref lr), ("table", .ref lb)] m' ∧
 H' lr = some (.list (rest.map AV.int)) ∧ H' lb = some (.list (tab.map AV.int)) ∧ lr ≠ lb ∧ lb ∉ [lt, l0] ∧ lr ∉ [lt, l0] ∧ H lb = none ∧ TpAt lt l0 H' ∧ Fram [lt, l0] H H' ∧ (tab ++ rest).Perm [0, 1, 2, 3, 4, 5])
theorem idxL {L d : Int} (h0 : 0 ≤ d) (h1 : d < L) : ∃ j : Nat, L - 1 - d = j ∧ (j : Int) < L := ⟨(L - 1 - d).toNat, (Int.toNat_of_nonneg (by lia)).symm, by lia⟩
theorem exch_ok {lt l0 : Addr} (T : TpAt lt l0 H) {Q : AQ} (h : ∀ (tab : List Int) lb H', tab.Perm [0, 1, 2, 3, 4, 5] → H lb = none → H' lb = some (.list (tab.map AV.int)) → TpAt lt l0 H' → Fram [lt, l0] H H' → Q (.ref lb) H') : WC e.G (D + 102) (.ref 629) [.ref lt] H Q := by
 refine WC.enterF (ns := ["tape"]) (by kernel_rfl) (by kernel_rfl) rfl (bind1 (by intro x; kernel_rfl)) ?_
 k_extra "norm_m"
 k_extra "wg"
 intro lr hlr
 (refine exA (T.new hlr (.list [.int 0, .int 1, .int 2, .int 3, .int 4, .int 5])) fun T1 n1 => ?_)
 k_extra "wg"
 intro lb hlb
 (refine exA (T1.new hlb (.list [])) fun T2 n2 => ?_)
 (refine exA (put_none hlb) fun m1 m2 => ?_)
 k_extra "wg"
 refine W1.while ⟨6 + 1, WhileN.rule (XI lt l0 H) (fun n m' H' I => ?_) 6 (.go ⟨[0, 1, 2, 3, 4, 5], [], lr, lb, rfl, Sub.cons rfl (Sub.cons rfl (Sub.cons rfl Sub.nil)), by k_extra "hp", AHeap.put_self _ _ _, m1.symm, n2, n1, m2, T2, (Fram.new hlr).trans (Fram.new hlb), List.Perm.refl _⟩)⟩
 obtain I | ⟨rest, tab, lr, lb, rfl, i1, h1, h2, ne, nb, nr, hb0, T3, F3, pm⟩ := I
 · exact I.elim
 have hlen : tab.length + rest.length = 6 := by simpa using pm.length_eq
 refine WT.weak (m' := [("tape", .ref lt), ("rest", .ref lr), ("table", .ref lb)]) i1 ?_
 have hz : (rest.map AV.int).length ≤ 16000000 := by simp; lia
 refine WT.cmp (WE.callB blen blen' (by decide) (WE.name rfl (WB.lenL h1 rfl hz (WE.int (WCmp.gtI ?_)))))
 rw [List.length_map]
 cases rest with
 | nil =>
   refine WS.weak (m' := [("tape", .ref lt), ("rest", .ref lr), ("table", .ref lb)]) i1 ?_
   k_extra "wg"
   exact h tab lb H' (by simpa using pm) hb0 h2 T3 F3
 | cons r0 rs =>
   rw [show decide ((0 : Int) < ((r0 :: rs).length : Nat)) = true from decide_eq_true (by simp only [List.length_cons]; lia)]
   refine ⟨rs.length, rfl, ?_⟩
   refine WS.weak (m' := [("tape", .ref lt), ("rest", .ref lr), ("table", .ref lb)]) i1 ?_
   generalize hrest : r0 :: rs = rest at *
   have hpos : 0 < rest.length := by rw [← hrest]; simp
   have hln : rest.length = rs.length + 1 := by rw [← hrest]; rfl
   k_extra "wg"
   refine digit_ok T3 6 (by decide) fun d H4 d0 d1 T4 F4 => ?_
   have h4 : H4 lr = some (.list (rest.map AV.int)) := F4 _ _ h1 nr
   have h5 : H4 lb = some (.list (tab.map AV.int)) := F4 _ _ h2 nb
   k_extra "wg"
   refine WOp.mod (by rw [List.length_map]; lia) ?_
   rw [List.length_map]
   have lp : (0 : Int) < (rest.length : Int) := Int.natCast_pos.mpr hpos
   obtain ⟨j, hj, hj3⟩ := idxL (Int.fmod_nonneg_of_pos d lp) (Int.fmod_lt_of_pos d lp)
   have hj2 : j < rest.length := Int.ofNat_lt.mp hj3
   have gsub : ∀ {G : Gl} {D : Nat} {H : AHeap} {Q : AQ}, Q (.int j) H → WOp G D .Sub false (.int ((rest.length : Int) - 1)) (.int (d.fmod rest.length)) H Q := fun q => WOp.sub (by rw [hj]; exact q)
   refine gsub ?_
   k_extra "wg"
   refine giL (xs := rest.map AV.int) (a := .int rest[j]) h4 (Int.natCast_nonneg j) (by simp [hj2]) hz ?_
   refine WB.append (xs := tab.map AV.int) h5 (by simp; lia) ?_
   k_extra "wg"
   refine ⟨j, rest.map AV.int, rfl, Int.natCast_nonneg j, by k_extra "hp", by rw [List.length_map]; lia, fun da hda => ?_⟩
   (refine exA (put_none hda) fun a1 a2 => ?_)
   have a3 : da ≠ lr := fun z => by rw [z, h4] at a2; cases a2
   k_extra "wg"
   refine ⟨(j : Int) + 1, rest.map AV.int, rfl, by lia, by k_extra "hp", by rw [List.length_map]; lia, fun db hdb => ?_⟩
   (refine exA (put_none hdb) fun b1 b2 => ?_)
   (refine exA (put_none b2) fun b3 b4 => ?_)
   refine WOp.addL (xs := (rest.map AV.int).take (j : Int).toNat) (ys := (rest.map AV.int).drop ((j : Int) + 1).toNat) (by k_extra "hp") (AHeap.put_self _ _ _) (Nat.le_trans (Nat.add_le_add (List.length_take_le' _ _) (List.length_drop ▸ Nat.sub_le _ _)) (by rw [List.length_map]; lia)) fun dc hdc => ?_
   (refine exA (put_none hdc) fun c1 c2 => ?_)
   (refine exA (put_none c2) fun c3 c4 => ?_)
   (refine exA (put_none c4) fun c5 c6 => ?_)
   k_extra "wg"
   have T5 : TpAt lt l0 (H4.put lb (.list (tab.map AV.int ++ [.int rest[j]]))) := T4.grow fun a o e q => by
     have : a ≠ lb := fun z => nb (by rw [← z]; rcases q with rfl | rfl <;> simp)
     exact (AHeap.put_ne _ _ this).trans e
   (refine exA (T5.new hda (.list ((rest.map AV.int).take (j : Int).toNat))) fun T6 _ => ?_)
   (refine exA (T6.new hdb (.list ((rest.map AV.int).drop ((j : Int) + 1).toNat))) fun T7 _ => ?_)
   (refine exA (T7.new hdc (.list ((rest.map AV.int).take (j : Int).toNat ++ (rest.map AV.int).drop ((j : Int) + 1).toNat))) fun T8 nc => ?_)
   have F5 : Fram [lt, l0] H (H4.put lb (.list (tab.map AV.int ++ [.int rest[j]]))) := fun a o q n => (AHeap.put_ne _ _ (fun z => by rw [z, hb0] at q; cases q)).trans ((F3.trans F4) a o q n)
   have er : rest.take j ++ rest[j] :: rest.drop (j + 1) = rest := by rw [List.getElem_cons_drop, List.take_append_drop]
   refine .go ⟨rest.take j ++ rest.drop (j + 1), tab ++ [rest[j]], dc, lb, ?_, Sub.cons rfl (Sub.cons rfl (Sub.cons rfl Sub.nil)), ?_, ?_, c5, nb, nc, hb0, T8, F5.trans ((Fram.new hda).trans ((Fram.new hdb).trans (Fram.new hdc))), ?_⟩
   · simp only [List.length_append, List.length_take, List.length_drop]; lia
   · rw [AHeap.put_self, List.map_append, List.map_take, List.map_drop]
     rfl
   · rw [List.map_append]
     k_extra "hp"
   · refine List.Perm.trans ?_ pm
     rw [List.append_assoc]
     refine List.Perm.append_left _ ?_
     conv => rhs; rw [← er]
     show (rest[j] :: (rest.take j ++ rest.drop (j + 1))).Perm _
     exact List.perm_middle.symm
end
noncomputable def Tm.ren (p : V8 → V8) : Tm → Tm
 | .v k => .v (p k)
 | .s1 t => .s1 (t.ren p)
 | .s2 f t u => .s2 f (t.ren p) (u.ren p)
 | t => t
theorem Tmren_v : ∀ p k, Tm.ren p (.v k) = .v (p k) := fun _ _ => rfl
theorem Tmren_a : ∀ p n, Tm.ren p (.a n) = .a n := fun _ _ => rfl
theorem Tmren_i : ∀ p n, Tm.ren p (.i n) = .i n := fun _ _ => rfl
theorem Tmren_s1 : ∀ p t, Tm.ren p (.s1 t) = .s1 (t.ren p) := fun _ _ => rfl
theorem Tmren_s2 : ∀ p f t u, Tm.ren p (.s2 f t u) = .s2 f (t.ren p) (u.ren p) := fun _ _ _ _ => rfl
noncomputable def Goal.ren (p : V8 → V8) : Goal → Goal
 | .call f as => .call f (as.map (Tm.ren p))
 | .builtin f as => .builtin f (as.map (Tm.ren p))
 | .unify l r => .unify (l.ren p) (r.ren p)
 | .cut => .cut
 | .level k => .level (p k)
 | .mark k => .mark (p k)
 | .cutto k => .cutto (p k)
structure Eqv (P P' : PlanM) (p : V8 → V8) (f f' : Part → AV) : Prop where
 inj : ∀ j k, p j = p k → j = k
 kind : ∀ k, P'.kind (p k) = P.kind k
 uns : ∀ k, P'.uns (p k) = P.uns k
 last : ∀ k, P'.last (p k) = P.last k
 needs : P'.needs = P.needs
 size : P'.size = P.size
 live : P'.live = P.live
 pl : ∀ k : V8, k.val < 6 → f (P.place k) = f' (P'.place (p k))
 tv : ∀ k : V8, k.val < 6 → f (.t (vi k)) = f' (.t (vi (p k)))
 tn : ∀ n, 6 ≤ n → f (.t n) = f' (.t n)
 a : ∀ n, f (.a n) = f' (.a n)
 c : ∀ k n, f (.c k n) = f' (.c k n)
 num : ∀ n, f (.num n) = f' (.num n)
noncomputable def outR (f : Part → AV) (r : Row) : String × List AV := (r.1, r.2.map f)
structure SR (p : V8 → V8) (f f' : Part → AV) (st st' : CS) : Prop where
 code : st.code.map (outR f) = st'.code.map (outR f')
 seen : ∀ k, st'.seen (p k) = st.seen k
 loc : ∀ k, st'.loc (p k) = st.loc k
 next : st'.next = st.next
 lo : 6 ≤ st.next
 len : ∀ r ∈ st.code, r.2.length ≤ 3
noncomputable def Lo (t : Tm) : Prop := ∀ k ∈ t.occs, k.val < 6
theorem Lo.v {k : V8} (h : Lo (.v k)) : k.val < 6 := h k (by (exact List.mem_cons_self))
theorem Lo.s1 {t : Tm} (h : Lo (.s1 t)) : Lo t := h
theorem Lo.s2a {f : Bool} {t u : Tm} (h : Lo (.s2 f t u)) : Lo t := fun k hk => h k (List.mem_append_left _ hk)
theorem Lo.s2b {f : Bool} {t u : Tm} (h : Lo (.s2 f t u)) : Lo u := fun k hk => h k (List.mem_append_right _ hk)
theorem Lo.args {t : Tm} (h : Lo t) : ∀ u ∈ t.args, Lo u := fun u hu => by
 cases t with
 | s1 t => simp only [Tmargs_v, Tmargs_a, Tmargs_i, Tmargs_s1, Tmargs_s2, List.mem_singleton] at hu; subst hu; exact h
 | s2 f t w =>
   simp only [Tmargs_v, Tmargs_a, Tmargs_i, Tmargs_s1, Tmargs_s2, List.mem_cons, List.not_mem_nil, or_false] at hu
   rcases hu with rfl | rfl
   · exact h.s2a
   · exact h.s2b
 | _ => simp [Tmargs_v, Tmargs_a, Tmargs_i, Tmargs_s1, Tmargs_s2] at hu
section
variable {P P' : PlanM} {p : V8 → V8} {f f' : Part → AV} {st st' : CS}
theorem SR.emit (S : SR p f f' st st') (w : String) {ps ps' : List Part} (h : ps.map f = ps'.map f') (hl : ps.length ≤ 3 := by exact Nat.le_of_ble_eq_true rfl) : SR p f f' (st.emit w ps) (st'.emit w ps') :=
 ⟨by simp only [CS.emit, List.map_append, S.code, List.map_cons, List.map_nil, outR, h], S.seen, S.loc, S.next, S.lo, fun r hr => by
   rcases List.mem_append.mp hr with hr | hr
   · exact S.len r hr
   · cases List.mem_singleton.mp hr; exact hl⟩
theorem ins_eq (inj : ∀ j k, p j = p k → j = k) {s s' : V8 → Bool} (h : ∀ k, s' (p k) = s k) (k j : V8) : ins s' (p k) (p j) = ins s k j := by
 unfold ins
 rw [h j]
 by_cases q : j = k
 · subst q; simp
 · have : p j ≠ p k := fun z => q (inj _ _ z)
   simp [q, this]
theorem del_eq (inj : ∀ j k, p j = p k → j = k) {s s' : V8 → Bool} (h : ∀ k, s' (p k) = s k) (k j : V8) : del s' (p k) (p j) = del s k j := by
 unfold del
 rw [h j]
 by_cases q : j = k
 · subst q; simp
 · have : p j ≠ p k := fun z => q (inj _ _ z)
   simp [q, this]
theorem SR.see (E : Eqv P P' p f f') (S : SR p f f' st st') (k : V8) : SR p f f' (st.see k) (st'.see (p k)) := ⟨S.code, fun j => ins_eq E.inj S.seen k j, S.loc, S.next, S.lo, S.len⟩
theorem SR.addLoc (E : Eqv P P' p f f') (S : SR p f f' st st') (k : V8) : SR p f f' (st.addLoc k) (st'.addLoc (p k)) := ⟨S.code, S.seen, fun j => ins_eq E.inj S.loc k j, S.next, S.lo, S.len⟩
theorem SR.delLoc (E : Eqv P P' p f f') (S : SR p f f' st st') (k : V8) : SR p f f' (st.delLoc k) (st'.delLoc (p k)) := ⟨S.code, S.seen, fun j => del_eq E.inj S.loc k j, S.next, S.lo, S.len⟩
theorem SR.tick (S : SR p f f' st st') : SR p f f' st.tick st'.tick := ⟨S.code, S.seen, S.loc, by show st'.next + 1 = st.next + 1; rw [S.next], by have := S.lo; show 6 ≤ st.next + 1; lia, S.len⟩
theorem SR.reg (E : Eqv P P' p f f') (S : SR p f f' st st') : f (.t st.next) = f' (.t st'.next) := by rw [S.next]; exact E.tn _ S.lo
theorem Eqv.void (E : Eqv P P' p f f') (k : V8) : P'.void (p k) = P.void k := by simp only [PlanM.void, E.kind]
theorem Eqv.perm (E : Eqv P P' p f f') (k : V8) : P'.perm (p k) = P.perm k := by simp only [PlanM.perm, E.kind]
theorem ren_isV (t : Tm) : (t.ren p).isV = t.isV := by cases t <;> rfl
theorem ren_isS (t : Tm) : (t.ren p).isS = t.isS := by cases t <;> rfl
set_option tactic.hygienic true in
theorem ren_fn (t : Tm) : (t.ren p).fn = t.fn := by cases t <;> first | rfl | (rename_i b _ _; cases b <;> rfl)
theorem ren_args (t : Tm) : (t.ren p).args = t.args.map (Tm.ren p) := by cases t <;> rfl
theorem ren_size (t : Tm) : (t.ren p).size = t.size := by induction t <;> simp_all [Tmren_v, Tmren_a, Tmren_i, Tmren_s1, Tmren_s2, Tmsize_v, Tmsize_a, Tmsize_i, Tmsize_s1, Tmsize_s2]
theorem ren_occs (t : Tm) : (t.ren p).occs = t.occs.map p := by induction t <;> simp_all [Tmren_v, Tmren_a, Tmren_i, Tmren_s1, Tmren_s2, Tmoccs_v, Tmoccs_a, Tmoccs_i, Tmoccs_s1, Tmoccs_s2]
theorem ren_cell (t : Tm) : (t.ren p).cell = t.cell := by cases t <;> rfl
theorem ren_inj (inj : ∀ j k, p j = p k → j = k) : ∀ t u : Tm, t.ren p = u.ren p → t = u
 | .v k, u, h => by cases u <;> simp [Tmren_v, Tmren_a, Tmren_i, Tmren_s1, Tmren_s2] at h; rw [inj _ _ h]
 | .a k, u, h => by cases u <;> simp [Tmren_v, Tmren_a, Tmren_i, Tmren_s1, Tmren_s2] at h; rw [h]
 | .i k, u, h => by cases u <;> simp [Tmren_v, Tmren_a, Tmren_i, Tmren_s1, Tmren_s2] at h; rw [h]
 | .s1 t, u, h => by cases u <;> simp [Tmren_v, Tmren_a, Tmren_i, Tmren_s1, Tmren_s2] at h; rw [ren_inj inj _ _ h]
 | .s2 b t w, u, h => by
   cases u <;> simp [Tmren_v, Tmren_a, Tmren_i, Tmren_s1, Tmren_s2] at h
   (refine exAA (h) fun zq0 h1 h2 => ?_; clear h; rcases zq0 with rfl)
   rw [ren_inj inj _ _ h1, ren_inj inj _ _ h2]
theorem isVoid_ren (E : Eqv P P' p f f') (t : Tm) : isVoid P' (t.ren p) = isVoid P t := by cases t <;> first | exact E.void _ | rfl
theorem flush_eq (E : Eqv P P' p f f') (S : SR p f f' st st') (w : String) (v : Int) : SR p f f' (flush w v st) (flush w v st') := by
 unfold flush
 split
 · exact S.emit w (by simp [E.num])
 · exact S
theorem mVar_eq (E : Eqv P P' p f f') (S : SR p f f' st st') (k : V8) (hk : k.val < 6) : SR p f f' (mVar P k st) (mVar P' (p k) st') := by
 unfold mVar
 rw [S.seen, S.loc]
 have h : [P.place k].map f = [P'.place (p k)].map f' := by simp [E.pl k hk]
 split
 · split <;> exact S.emit _ h
 · exact (S.see E k).emit _ h
inductive NR (p : V8 → V8) (f f' : Part → AV) : List (Tm × Part) → List (Tm × Part) → Prop
 | nil : NR p f f' [] []
 | cons {t q q' ns ns'} (l : Lo t) (h : f q = f' q') (r : NR p f f' ns ns') : NR p f f' ((t, q) :: ns) ((t.ren p, q') :: ns')
theorem NR.app {a a' b b' : List (Tm × Part)} (h : NR p f f' a a') (h' : NR p f f' b b') : NR p f f' (a ++ b) (a' ++ b') := by
 induction h with
 | nil => exact h'
 | cons l h _ ih => exact .cons l h ih
theorem mArg_eq (E : Eqv P P' p f f') (S : SR p f f' st st') (t : Tm) (hl : Lo t) {ns ns' : List (Tm × Part)} (N : NR p f f' ns ns') : NR p f f' (mArg P t ns st).1 (mArg P' (t.ren p) ns' st').1 ∧ SR p f f' (mArg P t ns st).2 (mArg P' (t.ren p) ns' st').2 := by
 cases t with
 | v k => exact ⟨N, mVar_eq E S k hl.v⟩
 | a n => exact ⟨N, S.emit _ (by simp [E.c])⟩
 | i n => exact ⟨N, S.emit _ (by simp [E.c])⟩
 | s1 t => exact ⟨N.app (.cons hl (S.reg E) .nil), S.tick.emit _ (by simp [S.reg E])⟩
 | s2 b t u => exact ⟨N.app (.cons hl (S.reg E) .nil), S.tick.emit _ (by simp [S.reg E])⟩
theorem mArgs_eq (E : Eqv P P' p f f') : ∀ (as : List Tm) (v : Int) {ns ns' : List (Tm × Part)} {st st' : CS}, SR p f f' st st' → (∀ t ∈ as, Lo t) → NR p f f' ns ns' → NR p f f' (mArgs P as v ns st).1 (mArgs P' (as.map (Tm.ren p)) v ns' st').1 ∧ SR p f f' (mArgs P as v ns st).2 (mArgs P' (as.map (Tm.ren p)) v ns' st').2 := by
 intro zz
 induction zz with
 | nil =>
   intro v ns ns' st st' S _ N
   exact ⟨N, flush_eq E S _ _⟩
 | cons t as ih =>
   intro v ns ns' st st' S hl N
   rw [List.map_cons, mArgs, mArgs, isVoid_ren E]
   split
   · exact ih _ S (fun u hu => hl u (.tail _ hu)) N
   · (refine exA (mArg_eq E (flush_eq E S "unify_void" v) t (hl t (.head _)) N) fun a b => ?_)
     exact ih _ b (fun u hu => hl u (.tail _ hu)) a
theorem openRow_eq (E : Eqv P P' p f f') (S : SR p f f' st st') (w : String) (t : Tm) {q q' : Part} (h : f q = f' q') : SR p f f' (openRow st w t q) (openRow st' w (t.ren p) q') := by
 unfold openRow
 rw [ren_fn]
 split
 · exact S.emit _ (by simp [h])
 · exact S.emit _ (by simp [h, E.num])
theorem matchN_eq (E : Eqv P P' p f f') : ∀ (n : Nat) {ns ns' : List (Tm × Part)} {st st' : CS}, SR p f f' st st' → NR p f f' ns ns' → SR p f f' (matchN P n ns st) (matchN P' n ns' st')
 | 0, ns, ns', st, st', S, _ => S
 | n + 1, _, _, st, st', S, .nil => S
 | n + 1, _, _, st, st', S, .cons (t := t) l h r => by
   rw [matchN_c, matchN_c, ren_args]
   (refine exA (mArgs_eq E t.args 0 (openRow_eq E S "get" t h) l.args .nil) fun a b => ?_)
   exact matchN_eq E n b (a.app r)
theorem matchT_eq (E : Eqv P P' p f f') (S : SR p f f' st st') (t : Tm) (hl : Lo t) {q q' : Part} (h : f q = f' q') : SR p f f' (matchT P t q st) (matchT P' (t.ren p) q' st') := by
 unfold matchT
 rw [ren_size]
 exact matchN_eq E _ S (.cons hl h .nil)
theorem headArg_eq (E : Eqv P P' p f f') (S : SR p f f' st st') (t : Tm) (hl : Lo t) {q q' : Part} (h : f q = f' q') : SR p f f' (headArg P t q st) (headArg P' (t.ren p) q' st') := by
 cases t with
 | v k =>
   show SR p f f' (if _ then _ else _) (if _ then _ else _)
   rw [E.void, S.seen]
   split
   · exact S
   · split
     · exact S.emit _ (by simp [h, E.pl k hl.v])
     · exact ((S.see E k).addLoc E k).emit _ (by simp [h, E.pl k hl.v])
 | a n => exact S.emit _ (by simp [h, E.c])
 | i n => exact S.emit _ (by simp [h, E.c])
 | s1 t => exact matchT_eq E S (.s1 t) hl h
 | s2 b t u => exact matchT_eq E S (.s2 b t u) hl h
theorem setVar_eq (E : Eqv P P' p f f') (S : SR p f f' st st') (k : V8) (hk : k.val < 6) : SR p f f' (setVar P k st) (setVar P' (p k) st') := by
 unfold setVar
 rw [S.seen, S.loc, E.perm]
 have h : [P.place k].map f = [P'.place (p k)].map f' := by simp [E.pl k hk]
 split
 · split
   · split
     · exact S.emit _ h
     · exact (S.emit _ h).delLoc E k
   · exact S.emit _ h
 · exact (S.see E k).emit _ h
noncomputable def Piece.ren (p : V8 → V8) : Piece → Piece
 | .tm t => .tm (t.ren p)
 | .reg n => .reg n
noncomputable def Piece.ok : Piece → Prop
 | .tm t => Lo t
 | .reg n => 6 ≤ n
theorem setArg_eq (E : Eqv P P' p f f') (S : SR p f f' st st') (x : Piece) (hx : x.ok) : SR p f f' (setArg P x st) (setArg P' (x.ren p) st') := by
 cases x with
 | reg n => exact S.emit _ (by simp [E.tn n hx])
 | tm t =>
   cases t with
   | v k => exact setVar_eq E S k (Lo.v hx)
   | a n => exact S.emit _ (by simp [E.c])
   | i n => exact S.emit _ (by simp [E.c])
   | s1 t => exact S
   | s2 b t u => exact S
theorem setArgs_eq (E : Eqv P P' p f f') : ∀ (xs : List Piece) (v : Int) {st st' : CS}, SR p f f' st st' → (∀ x ∈ xs, x.ok) → SR p f f' (setArgs P xs v st) (setArgs P' (xs.map (Piece.ren p)) v st') := by
 intro zz
 induction zz with
 | nil =>
   intro v st st' S _
   exact flush_eq E S _ _
 | cons x xs ih =>
   intro v st st' S h
   have e : (x.ren p).isVoid P' = x.isVoid P := by
     cases x with
     | tm t => exact isVoid_ren E t
     | reg n => rfl
   rw [List.map_cons, setArgs, setArgs, e]
   split
   · exact ih _ S (fun y hy => h y (.tail _ hy))
   · exact ih _ (setArg_eq E (flush_eq E S _ _) x (h x (.head _))) (fun y hy => h y (.tail _ hy))
theorem takePiece_eq (t : Tm) (hl : Lo t) (b : List Int) (hb : ∀ n ∈ b, 6 ≤ n) : takePiece (t.ren p) b = ((takePiece t b).1.ren p, (takePiece t b).2) ∧ (takePiece t b).1.ok ∧ ∀ n ∈ (takePiece t b).2, 6 ≤ n := by
 unfold takePiece
 rw [ren_isS]
 split
 · cases b with
   | nil => exact ⟨rfl, hl, hb⟩
   | cons x r => exact ⟨rfl, hb x (.head _), fun n hn => hb n (.tail _ hn)⟩
 · exact ⟨rfl, hl, hb⟩
theorem takeNested_eq (t : Tm) (hl : Lo t) (b : List Int) (hb : ∀ n ∈ b, 6 ≤ n) : takeNested (t.ren p) b = ((takeNested t b).1.map (Piece.ren p), (takeNested t b).2) ∧ (∀ x ∈ (takeNested t b).1, x.ok) ∧ ∀ n ∈ (takeNested t b).2, 6 ≤ n := by
 cases t with
 | s1 t =>
   (refine exAA (takePiece_eq (p := p) t hl.s1 b hb) fun e a1 a2 => ?_)
   refine ⟨?_, fun x hx => ?_, a2⟩
   · show ([(takePiece (t.ren p) b).1], (takePiece (t.ren p) b).2) = _
     rw [e]; rfl
   · cases List.mem_singleton.mp hx; exact a1
 | s2 g t u =>
   (refine exAA (takePiece_eq (p := p) t hl.s2a b hb) fun e a1 a2 => ?_)
   (refine exAA (takePiece_eq (p := p) u hl.s2b _ a2) fun e' b1 b2 => ?_)
   refine ⟨?_, fun x hx => ?_, b2⟩
   · show ([(takePiece (t.ren p) b).1, (takePiece (u.ren p) (takePiece (t.ren p) b).2).1], (takePiece (u.ren p) (takePiece (t.ren p) b).2).2) = _
     rw [e]
     dsimp only
     rw [e']; rfl
   · rcases List.mem_cons.mp hx with rfl | hx
     · exact a1
     · cases List.mem_singleton.mp hx; exact b1
 | v k => exact ⟨rfl, (fun x hx => nomatch hx), hb⟩
 | a k => exact ⟨rfl, (fun x hx => nomatch hx), hb⟩
 | i k => exact ⟨rfl, (fun x hx => nomatch hx), hb⟩
theorem nestedOrder_eq (t : Tm) : nestedOrder (t.ren p) = (nestedOrder t).map (Tm.ren p) := by
 cases t <;> simp only [Tmren_v, Tmren_a, Tmren_i, Tmren_s1, Tmren_s2, nestedOrder_s1, nestedOrder_s2, nestedOrder_v, nestedOrder_a, nestedOrder_i, ren_isS] <;> (try rfl)
 · split <;> rfl
 · split <;> split <;> rfl
theorem nestedOrder_lo (t : Tm) (hl : Lo t) : ∀ u ∈ nestedOrder t, Lo u := fun u hu => by
 cases t with
 | s1 t =>
   simp only [nestedOrder_s1, nestedOrder_s2, nestedOrder_v, nestedOrder_a, nestedOrder_i] at hu
   split at hu
   · cases List.mem_singleton.mp hu; exact hl
   · cases hu
 | s2 f t w =>
   simp only [nestedOrder_s1, nestedOrder_s2, nestedOrder_v, nestedOrder_a, nestedOrder_i] at hu
   rcases List.mem_append.mp hu with hu | hu
   · split at hu
     · cases List.mem_singleton.mp hu; exact hl.s2b
     · cases hu
   · split at hu
     · cases List.mem_singleton.mp hu; exact hl.s2a
     · cases hu
 | _ => simp [nestedOrder_s1, nestedOrder_s2, nestedOrder_v, nestedOrder_a, nestedOrder_i] at hu
noncomputable def renW (p : V8 → V8) (w : Bool × Tm) : Bool × Tm := (w.1, w.2.ren p)
theorem bLoop_nil (target : Part) (n : Nat) (b : List Int) : bLoop P target n [] b st = st := by cases n <;> rfl
theorem bLoop_eq (E : Eqv P P' p f f') {q q' : Part} (h : f q = f' q') : ∀ (n : Nat) (ws : List (Bool × Tm)) (b : List Int) {st st' : CS}, SR p f f' st st' → (∀ w ∈ ws, Lo w.2) → (∀ n ∈ b, 6 ≤ n) → SR p f f' (bLoop P q n ws b st) (bLoop P' q' n (ws.map (renW p)) b st')
 | 0, ws, b, st, st', S, _, _ => S
 | n + 1, [], b, st, st', S, _, _ => S
 | n + 1, (false, t) :: ws, b, st, st', S, hl, hb => by
   show SR p f f' (bLoop P q n _ b st) (bLoop P' q' n ((nestedOrder (t.ren p)).map (fun x => (false, x)) ++ (true, t.ren p) :: ws.map (renW p)) b st')
   have e : (nestedOrder (t.ren p)).map (fun x => (false, x)) ++ (true, t.ren p) :: ws.map (renW p) = ((nestedOrder t).map (fun x => (false, x)) ++ (true, t) :: ws).map (renW p) := by
     rw [nestedOrder_eq, List.map_append, List.map_map, List.map_map]; rfl
   rw [e]
   refine bLoop_eq E h n _ b S (fun w hw => ?_) hb
   rcases List.mem_append.mp hw with hw | hw
   · (refine exEA (List.mem_map.mp hw) fun u hu zq0 => ?_; rcases zq0 with rfl)
     exact nestedOrder_lo t (hl _ (.head _)) u hu
   · rcases List.mem_cons.mp hw with rfl | hw
     · exact hl (false, t) (.head _)
     · exact hl _ (.tail _ hw)
 | n + 1, (true, t) :: ws, b, st, st', S, hl, hb => by
   (refine exAA (takeNested_eq (p := p) t (hl _ (.head _)) b hb) fun e a1 a2 => ?_)
   cases ws with
   | nil =>
     show SR p f f' (bLoop P q n [] _ (setArgs P (takeNested t b).1 0 (openRow st "put" t q))) (bLoop P' q' n [] _ (setArgs P' (takeNested (t.ren p) b).1 0 (openRow st' "put" (t.ren p) q')))
     rw [bLoop_nil, bLoop_nil, e]
     exact setArgs_eq E _ 0 (openRow_eq E S "put" t h) a1
   | cons w ws =>
     show SR p f f' (bLoop P q n (w :: ws) (st.next :: (takeNested t b).2) (setArgs P (takeNested t b).1 0 (openRow st.tick "put" t (.t st.next)))) (bLoop P' q' n ((w :: ws).map (renW p)) (st'.next :: (takeNested (t.ren p) b).2) (setArgs P' (takeNested (t.ren p) b).1 0 (openRow st'.tick "put" (t.ren p) (.t st'.next))))
     have hr := S.reg E
     rw [e, show st'.next = st.next from S.next]
     rw [S.next] at hr
     refine bLoop_eq E h n (w :: ws) _ (setArgs_eq E _ 0 (openRow_eq E S.tick "put" t hr) a1) (fun x hx => hl x (.tail _ hx)) (fun m hm => ?_)
     rcases List.mem_cons.mp hm with rfl | hm
     · exact S.lo
     · exact a2 m hm
theorem build_eq (E : Eqv P P' p f f') (S : SR p f f' st st') (t : Tm) (hl : Lo t) {q q' : Part} (h : f q = f' q') : SR p f f' (build P t q st) (build P' (t.ren p) q' st') := by
 unfold build
 rw [ren_size]
 exact bLoop_eq E h _ [(false, t)] [] S (fun w hw => by cases List.mem_singleton.mp hw; exact hl) (fun n hn => nomatch hn)
theorem freshReg_eq (E : Eqv P P' p f f') (S : SR p f f' st st') (k : V8) (hk : k.val < 6) : f (.t (freshReg P k st).1) = f' (.t (freshReg P' (p k) st').1) ∧ SR p f f' (freshReg P k st).2 (freshReg P' (p k) st').2 := by
 unfold freshReg
 rw [E.perm]
 split
 · exact ⟨S.reg E, S.tick⟩
 · exact ⟨E.tv k hk, S⟩
theorem settle_eq (E : Eqv P P' p f f') (S : SR p f f' st st') (k : V8) (hk : k.val < 6) {r r' : Int} (h : f (.t r) = f' (.t r')) : SR p f f' (settle P k r st) (settle P' (p k) r' st') := by
 unfold settle
 rw [E.perm]
 split
 · exact (S.see E k).emit _ (by simp [h, E.pl k hk])
 · exact S.see E k
theorem loadSlot_eq (E : Eqv P P' p f f') (S : SR p f f' st st') (k : V8) (hk : k.val < 6) {r r' : Int} (h : f (.t r) = f' (.t r')) : SR p f f' (loadSlot P k r st) (loadSlot P' (p k) r' st') := by
 unfold loadSlot
 rw [S.loc]
 split <;> exact S.emit _ (by simp [h, E.pl k hk])
theorem regOf_eq (E : Eqv P P' p f f') (S : SR p f f' st st') (k : V8) (hk : k.val < 6) : f (.t (regOf P k st).1) = f' (.t (regOf P' (p k) st').1) ∧ SR p f f' (regOf P k st).2 (regOf P' (p k) st').2 := by
 unfold regOf
 rw [E.perm]
 split
 · exact ⟨S.reg E, loadSlot_eq E S.tick k hk (S.reg E)⟩
 · exact ⟨E.tv k hk, S⟩
theorem introduce_eq (E : Eqv P P' p f f') (S : SR p f f' st st') (k : V8) (hk : k.val < 6) : SR p f f' (introduce P k st) (introduce P' (p k) st') := by
 unfold introduce
 rw [E.void]
 split
 · exact S
 · (refine exA (freshReg_eq E S k hk) fun a b => ?_)
   exact settle_eq E (b.emit _ (by simp [a])) k hk a
theorem alias_eq (E : Eqv P P' p f f') (S : SR p f f' st st') (k old : V8) (hk : k.val < 6) (ho : old.val < 6) : SR p f f' (alias P k old st) (alias P' (p k) (p old) st') := by
 unfold alias
 rw [E.void, E.perm, E.perm, S.loc]
 split
 · exact S
 · split
   · (refine exA (freshReg_eq E S k hk) fun a b => ?_)
     exact settle_eq E (loadSlot_eq E b old ho a) k hk a
   · have S1 : SR p f f' (if st.loc old then st.addLoc k else st) (if st.loc old then st'.addLoc (p k) else st') := by
       split
       · exact S.addLoc E k
       · exact S
     dsimp only
     split
     · exact (S1.see E k).emit _ (by simp [E.pl k hk, E.pl old ho])
     · exact (S1.see E k).emit _ (by simp [E.pl k hk, E.pl old ho])
theorem unifyVars_eq (E : Eqv P P' p f f') (S : SR p f f' st st') (j k : V8) (hj : j.val < 6) (hk : k.val < 6) : SR p f f' (unifyVars P j k st) (unifyVars P' (p j) (p k) st') := by
 have e : (p j = p k) ↔ (j = k) := ⟨E.inj _ _, fun h => by rw [h]⟩
 have S1 := introduce_eq E S k hk
 unfold unifyVars
 simp only [S.seen, E.perm, e, S1.seen]
 split
 · split
   · exact S
   · split
     · (refine exA (regOf_eq E S k hk) fun a b => ?_)
       exact b.emit _ (by simp [a, E.pl j hj])
     · exact S.emit _ (by simp [E.pl k hk, E.pl j hj])
 · split
   · exact alias_eq E S k j hk hj
   · split
     · exact alias_eq E S j k hj hk
     · split
       · exact S1
       · split
         · exact alias_eq E S1 j k hj hk
         · exact introduce_eq E S1 j hj
theorem unifyWith_eq (E : Eqv P P' p f f') (S : SR p f f' st st') (k : V8) (t : Tm) (hk : k.val < 6) (hl : Lo t) : SR p f f' (unifyWith P k t st) (unifyWith P' (p k) (t.ren p) st') := by
 have key : ∀ (t : Tm), Lo t → SR p f f'
     (let st1 := if !st.seen k && decide (k ∈ t.occs) then introduce P k st else st
      if st1.seen k then
        let r := regOf P k st1
        if t.isS then matchT P t (.t r.1) r.2 else r.2.emit "get_constant" [t.cell, .t r.1]
      else if P.void k then (if t.isS then build P t (.t st1.next) st1.tick else st1)
      else
        let r := freshReg P k st1
        settle P k r.1 (if t.isS then build P t (.t r.1) r.2 else r.2.emit "put_constant" [t.cell, .t r.1]))
     (let st1 := if !st'.seen (p k) && decide (p k ∈ (t.ren p).occs) then introduce P' (p k) st' else st'
      if st1.seen (p k) then
        let r := regOf P' (p k) st1
        if (t.ren p).isS then matchT P' (t.ren p) (.t r.1) r.2 else r.2.emit "get_constant" [(t.ren p).cell, .t r.1]
      else if P'.void (p k) then (if (t.ren p).isS then build P' (t.ren p) (.t st1.next) st1.tick else st1)
      else
        let r := freshReg P' (p k) st1
        settle P' (p k) r.1 (if (t.ren p).isS then build P' (t.ren p) (.t r.1) r.2 else r.2.emit "put_constant" [(t.ren p).cell, .t r.1])) := by
   intro t hl
   have e1 : (p k ∈ (t.ren p).occs) ↔ (k ∈ t.occs) := by
     rw [ren_occs]
     refine ⟨fun h => ?_, fun h => List.mem_map.mpr ⟨k, h, rfl⟩⟩
     (refine exEA (List.mem_map.mp h) fun j hj e => ?_)
     rw [← E.inj _ _ e]; exact hj
   have S1 : SR p f f' (if !st.seen k && decide (k ∈ t.occs) then introduce P k st else st) (if !st'.seen (p k) && decide (p k ∈ (t.ren p).occs) then introduce P' (p k) st' else st') := by
     simp only [S.seen, e1]
     split
     · exact introduce_eq E S k hk
     · exact S
   revert S1
   generalize (if !st.seen k && decide (k ∈ t.occs) then introduce P k st else st) = s1
   generalize (if !st'.seen (p k) && decide (p k ∈ (t.ren p).occs) then introduce P' (p k) st' else st') = s1'
   intro S1
   dsimp only
   rw [S1.seen, E.void, ren_isS, ren_cell]
   have ec : ∀ {r r' : Int}, f (.t r) = f' (.t r') → [t.cell, .t r].map f = [t.cell, .t r'].map f' := fun h => by
     simp only [List.map_cons, List.map_nil, h]
     have : f t.cell = f' t.cell := by cases t <;> exact E.c _ _
     rw [this]
   split
   · (refine exA (regOf_eq E S1 k hk) fun a b => ?_)
     split
     · exact matchT_eq E b t hl a
     · exact b.emit _ (ec a)
   · split
     · split
       · exact build_eq E S1.tick t hl (S1.reg E)
       · exact S1
     · (refine exA (freshReg_eq E S1 k hk) fun a b => ?_)
       refine settle_eq E ?_ k hk a
       split
       · exact build_eq E b t hl a
       · exact b.emit _ (ec a)
 cases t with
 | v j => exact unifyVars_eq E S k j hk hl.v
 | a n => exact key _ hl
 | i n => exact key _ hl
 | s1 t => exact key (.s1 t) hl
 | s2 b t u => exact key (.s2 b t u) hl
noncomputable def renP (p : V8 → V8) (w : Tm × Tm) : Tm × Tm := (w.1.ren p, w.2.ren p)
theorem uStep_eq (E : Eqv P P' p f f') (x y : Tm) (hx : Lo x) (hy : Lo y) (S : SR p f f' st st') {ps : List (Tm × Tm)} {n : Nat} (IH : ∀ (ps : List (Tm × Tm)) {st st' : CS}, SR p f f' st st' → (∀ w ∈ ps, Lo w.1 ∧ Lo w.2) → SR p f f' (uLoop P n ps st) (uLoop P' n (ps.map (renP p)) st')) (hp : ∀ w ∈ ps, Lo w.1 ∧ Lo w.2) :
   SR p f f' (match (generalizing := false) x with
   | .v k => uLoop P n ps (unifyWith P k y st)
   | one =>
     if one.isS && y.isS && decide (one.fn = y.fn) then uLoop P n (one.args.zip y.args ++ ps) st
     else if one.isS || y.isS || decide (one ≠ y) then uLoop P n ps (st.emit "fail" [])
     else uLoop P n ps st) (match (generalizing := false) x.ren p with
   | .v k => uLoop P' n (ps.map (renP p)) (unifyWith P' k (y.ren p) st')
   | one =>
     if one.isS && (y.ren p).isS && decide (one.fn = (y.ren p).fn) then uLoop P' n (one.args.zip (y.ren p).args ++ ps.map (renP p)) st'
     else if one.isS || (y.ren p).isS || decide (one ≠ y.ren p) then uLoop P' n (ps.map (renP p)) (st'.emit "fail" [])
     else uLoop P' n (ps.map (renP p)) st') := by
 have key : ∀ x : Tm, Lo x → SR p f f' (if x.isS && y.isS && decide (x.fn = y.fn) then uLoop P n (x.args.zip y.args ++ ps) st
     else if x.isS || y.isS || decide (x ≠ y) then uLoop P n ps (st.emit "fail" [])
     else uLoop P n ps st) (if (x.ren p).isS && (y.ren p).isS && decide ((x.ren p).fn = (y.ren p).fn) then uLoop P' n ((x.ren p).args.zip (y.ren p).args ++ ps.map (renP p)) st'
     else if (x.ren p).isS || (y.ren p).isS || decide (x.ren p ≠ y.ren p) then uLoop P' n (ps.map (renP p)) (st'.emit "fail" [])
     else uLoop P' n (ps.map (renP p)) st') := by
   intro x hx
   have e : (x.ren p ≠ y.ren p) ↔ (x ≠ y) := ⟨fun h z => h (by rw [z]), fun h z => h (ren_inj E.inj _ _ z)⟩
   simp only [ren_isS, ren_fn, ren_args, e]
   split
   · have ez : (x.args.map (Tm.ren p)).zip (y.args.map (Tm.ren p)) ++ ps.map (renP p) = (x.args.zip y.args ++ ps).map (renP p) := by
       rw [List.map_append, List.zip_map]; rfl
     rw [ez]
     refine IH _ S fun w hw => ?_
     rcases List.mem_append.mp hw with hw | hw
     · exact ⟨hx.args _ (List.of_mem_zip hw).1, hy.args _ (List.of_mem_zip hw).2⟩
     · exact hp w hw
   · split
     · exact IH _ (S.emit _ rfl) hp
     · exact IH _ S hp
 cases x with
 | v k => exact IH _ (unifyWith_eq E S k y hx.v hy) hp
 | a n => exact key (.a n) hx
 | i n => exact key (.i n) hx
 | s1 t => exact key (.s1 t) hx
 | s2 b t u => exact key (.s2 b t u) hx
theorem uLoop_eq (E : Eqv P P' p f f') : ∀ (n : Nat) (ps : List (Tm × Tm)) {st st' : CS}, SR p f f' st st' → (∀ w ∈ ps, Lo w.1 ∧ Lo w.2) → SR p f f' (uLoop P n ps st) (uLoop P' n (ps.map (renP p)) st')
 | 0, ps, st, st', S, _ => S
 | n + 1, [], st, st', S, _ => S
 | n + 1, (x, y) :: ps, st, st', S, hl => by
   have h := hl _ (.head _)
   have hp : ∀ w ∈ ps, Lo w.1 ∧ Lo w.2 := fun w hw => hl w (.tail _ hw)
   rw [List.map_cons, show renP p (x, y) = (x.ren p, y.ren p) from rfl, uLoop, uLoop]
   simp only [ren_isV]
   by_cases c : (!x.isV && y.isV) = true
   · simp only [c, if_true]
     exact uStep_eq E y x h.2 h.1 S (fun ps _ _ => uLoop_eq E n ps) hp
   · simp only [Bool.not_eq_true] at c
     simp only [c, if_false]
     exact uStep_eq E x y h.1 h.2 S (fun ps _ _ => uLoop_eq E n ps) hp
theorem unifyGoal_eq (E : Eqv P P' p f f') (S : SR p f f' st st') (l r : Tm) (hl : Lo l) (hr : Lo r) : SR p f f' (unifyGoal P l r st) (unifyGoal P' (l.ren p) (r.ren p) st') := by
 unfold unifyGoal
 rw [ren_size]
 exact uLoop_eq E _ [(l, r)] S (fun w hw => by cases List.mem_singleton.mp hw; exact ⟨hl, hr⟩)
theorem loadVar_eq (E : Eqv P P' p f f') (S : SR p f f' st st') (k : V8) (hk : k.val < 6) {q q' : Part} (h : f q = f' q') (l : Int) : SR p f f' (loadVar P k q l st) (loadVar P' (p k) q' l st') := by
 unfold loadVar
 rw [E.void, S.seen, E.uns, E.last, E.perm]
 have h1 : [q].map f = [q'].map f' := by simp [h]
 have h2 : [P.place k, q].map f = [P'.place (p k), q'].map f' := by simp [E.pl k hk, h]
 split
 · exact S.emit _ h1
 · split
   · split <;> exact S.emit _ h2
   · split
     · exact ((S.see E k).addLoc E k).emit _ h2
     · exact (S.see E k).emit _ h2
theorem loadArg_eq (E : Eqv P P' p f f') (S : SR p f f' st st') (t : Tm) (hl : Lo t) {q q' : Part} (h : f q = f' q') (l : Int) : SR p f f' (loadArg P t q l st) (loadArg P' (t.ren p) q' l st') := by
 cases t with
 | v k => exact loadVar_eq E S k hl.v h l
 | a n => exact S.emit _ (by simp [h, E.c])
 | i n => exact S.emit _ (by simp [h, E.c])
 | s1 t => exact build_eq E S (.s1 t) hl h
 | s2 b t u => exact build_eq E S (.s2 b t u) hl h
theorem loadArgs_eq (E : Eqv P P' p f f') (l : Int) : ∀ (as : List Tm) (n : Int) {st st' : CS}, SR p f f' st st' → (∀ t ∈ as, Lo t) → SR p f f' (loadArgs P l as n st) (loadArgs P' l (as.map (Tm.ren p)) n st') := by
 intro zz
 induction zz with
 | nil =>
   intro n st st' S _
   exact S
 | cons t as ih =>
   intro n st st' S hl
   exact ih (n + 1) (loadArg_eq E S t (hl t (.head _)) (E.a _) l) (fun u hu => hl u (.tail _ hu))
theorem numberGoal_eq (E : Eqv P P' p f f') (S : SR p f f' st st') (w : String) (k : V8) (hk : k.val < 6) : SR p f f' (numberGoal P w k st) (numberGoal P' w (p k) st') := by
 unfold numberGoal
 rw [E.void]
 split
 · exact S
 · exact (S.see E k).emit _ (by simp [E.pl k hk])
noncomputable def GLo : Goal → Prop
 | .call _ as => ∀ t ∈ as, Lo t
 | .builtin _ as => ∀ t ∈ as, Lo t
 | .unify l r => Lo l ∧ Lo r
 | .cut => True
 | .level k => k.val < 6
 | .mark k => k.val < 6
 | .cutto k => k.val < 6
theorem goalM_eq (E : Eqv P P' p f f') (S : SR p f f' st st') (g : Goal) (hg : GLo g) (i : Int) : SR p f f' (goalM P g i st) (goalM P' (g.ren p) i st') := by
 cases g with
 | call f as => exact loadArgs_eq E i as 0 S hg
 | builtin f as => exact (loadArgs_eq E (-1) as 0 S hg).emit _ (by simp [E.num])
 | unify l r => exact unifyGoal_eq E S l r hg.1 hg.2
 | cut => exact S.emit _ rfl
 | level k => exact numberGoal_eq E S _ k hg
 | mark k => exact numberGoal_eq E S _ k hg
 | cutto k => exact numberGoal_eq E S _ k hg
theorem headArgs_eq (E : Eqv P P' p f f') : ∀ (as : List Tm) (n : Int) {st st' : CS}, SR p f f' st st' → (∀ t ∈ as, Lo t) → SR p f f' (headArgs P as n st) (headArgs P' (as.map (Tm.ren p)) n st') := by
 intro zz
 induction zz with
 | nil =>
   intro n st st' S _
   exact S
 | cons t as ih =>
   intro n st st' S hl
   exact ih (n + 1) (headArg_eq E S t (hl t (.head _)) (E.a _)) (fun u hu => hl u (.tail _ hu))
theorem dea_eq (E : Eqv P P' p f f') (S : SR p f f' st st') : SR p f f' (if P.needs then st.emit "deallocate" [] else st) (if P'.needs then st'.emit "deallocate" [] else st') := by
 rw [E.needs]
 split
 · exact S.emit _ rfl
 · exact S
theorem goalsR_one (g : Goal) (n : Nat) : goalsM P [g] n st = (match g with | .call f _ => (if P.needs then (goalM P g n st).emit "deallocate" [] else goalM P g n st).emit "execute" [.num f] | _ => (if P.needs then (goalM P g n st).emit "deallocate" [] else goalM P g n st).emit "proceed" []) := by cases g <;> rfl
theorem goalsR_two (g g2 : Goal) (gs : List Goal) (n : Nat) : goalsM P (g :: g2 :: gs) n st = goalsM P (g2 :: gs) (n + 1) (match g with | .call f _ => (goalM P g n st).emit "call" [.num f, .num (P.live.getD n 0)] | _ => goalM P g n st) := by cases g <;> rfl
theorem goalsM_eq (E : Eqv P P' p f f') : ∀ (gs : List Goal) (n : Nat) {st st' : CS}, SR p f f' st st' → (∀ g ∈ gs, GLo g) → SR p f f' (goalsM P gs n st) (goalsM P' (gs.map (Goal.ren p)) n st')
 | [], n, st, st', S, _ => (dea_eq E S).emit _ rfl
 | [g], n, st, st', S, hg => by
   have S1 := dea_eq E (goalM_eq E S g (hg g (.head _)) n)
   show SR p f f' (goalsM P [g] n st) (goalsM P' [g.ren p] n st')
   rw [goalsR_one, goalsR_one]
   cases g with
   | call f as => exact S1.emit _ (by simp [E.num])
   | _ => exact S1.emit _ rfl
 | g :: g2 :: gs, n, st, st', S, hg => by
   have S1 := goalM_eq E S g (hg g (.head _)) n
   show SR p f f' (goalsM P (g :: g2 :: gs) n st) (goalsM P' (g.ren p :: g2.ren p :: gs.map (Goal.ren p)) n st')
   rw [goalsR_two, goalsR_two]
   refine goalsM_eq E (g2 :: gs) (n + 1) ?_ (fun x hx => hg x (.tail _ hx))
   cases g with
   | call f as => exact S1.emit _ (by simp [E.num, E.live])
   | _ => exact S1
theorem clauseM_eq (E : Eqv P P' p f f') (heads : List Tm) (goals : List Goal) (hh : ∀ t ∈ heads, Lo t) (hg : ∀ g ∈ goals, GLo g) : (clauseM P 6 heads goals).map (outR f) = (clauseM P' 6 (heads.map (Tm.ren p)) (goals.map (Goal.ren p))).map (outR f') ∧ ∀ r ∈ clauseM P 6 heads goals, r.2.length ≤ 3 := by
 have S0 : SR p f f' (CS.start 6) (CS.start 6) := ⟨rfl, fun _ => rfl, fun _ => rfl, rfl, by decide, fun r hr => nomatch hr⟩
 have S1 : SR p f f' (if P.needs then (CS.start 6).emit "allocate" [.num P.size] else CS.start 6) (if P'.needs then (CS.start 6).emit "allocate" [.num P'.size] else CS.start 6) := by
   rw [E.needs]
   split
   · exact S0.emit _ (by simp [E.num, E.size])
   · exact S0
 have S2 := goalsM_eq E goals 0 (headArgs_eq E heads 0 S1 hh) hg
 exact ⟨S2.code, S2.len⟩
theorem clauseM_len (P : PlanM) (heads : List Tm) (goals : List Goal) (hh : ∀ t ∈ heads, Lo t) (hg : ∀ g ∈ goals, GLo g) : ∀ r ∈ clauseM P 6 heads goals, r.2.length ≤ 3 :=
 (clauseM_eq (P := P) (P' := P) (p := id) (f := fun _ => .none) (f' := fun _ => .none) ⟨fun _ _ h => h, fun _ => rfl, fun _ => rfl, fun _ => rfl, rfl, rfl, rfl, fun _ _ => rfl, fun _ _ => rfl, fun _ _ => rfl, fun _ => rfl, fun _ _ => rfl, fun _ => rfl⟩ heads goals hh hg).2
end
noncomputable def okFdC (K : Frag) (fd : FuncData) (ns : List Str) (z : Str) : Bool := (match fd.body with | .stmts _ => true | _ => false) && fd.globals == mainGlobals && fd.closure.isEmpty && fd.builtins == builtinsNs && codeIn K fd.code fd.qualname &&
 (ns.all fun y => fd.scope.names.lookup y == some .local || fd.scope.names.lookup y == some .cell) && (fd.scope.names.lookup z == some .cell) && !fd.scope.isCoroutine && !fd.scope.isGenerator && fd.scope.kind == .function
set_option tactic.hygienic true in
theorem WC.enterFC {D : Nat} {H : AHeap} {f : Addr} {ns : List Str} {args : List AV} {z : Str} {m' : Loc} {Q : AQ} (hf : fnAt (KK e.w.params) f = some (fdv e.w.params f)) (hok : okFdC (KK e.w.params) (fdv e.w.params f) ns z = true) (hlen : args.length = ns.length)
   (hbind : ∀ vals : List Value, vals.length = ns.length → bindArgs (fdv e.w.params f) ⟨vals, []⟩ = pure (ns.zip vals))
   (hcf : ∀ n, cellsFrom n (fdv e.w.params f).scope.names [] = [(z, n)])
   (hm : ∀ y ∈ m', (ns.zip args).reverse.lookup y.1 = some y.2 ∧ (fdv e.w.params f).scope.names.lookup y.1 = some .local)
   (h : ∀ ca, H ca = none → WS e.G D (fdv e.w.params f).scope [(z, ca)] (stsOf (fdv e.w.params f).body) m' (H.put ca (cellOf1 ((ns.zip args).reverse.lookup z))) fun fl _ H' => Q (retA fl) H') : WC e.G (D + 1) (.ref f) args H Q := by
 simp only [okFdC, Bool.and_eq_true, beq_iff_eq, List.isEmpty_iff, Bool.not_eq_true', List.all_eq_true] at hok
 (refine exA (hok) fun zq0 h10 => ?_; clear hok; refine exA (zq0) fun zq1 h9 => ?_; clear zq0; refine exA (zq1) fun zq2 h8 => ?_; clear zq1; refine exA (zq2) fun zq3 h7 => ?_; clear zq2; refine exA (zq3) fun zq4 h6 => ?_; clear zq3; refine exA (zq4) fun zq5 h5 => ?_; clear zq4; refine exA (zq5) fun zq6 h4 => ?_; clear zq5; refine exA (zq6) fun zq7 h3 => ?_; clear zq6; refine exA (zq7) fun h1 h2 => ?_; clear zq7)
 unfold fnAt at hf
 split at hf
 · rename_i oc od fd osl hl
   have hf := Option.some.inj hf
   rw [← hf] at h1 h2 h3 h4 h5 h6 h7 h8 h9 h10 hbind h hcf hm
   obtain ⟨nm, ql, pr, bd, sc, gl, clo, dV, kV, doc, pm, an, cd, ct, bi⟩ := fd
   dsimp only at h1 h2 h3 h4 h5 h6 h7 h8 h9 h10 hbind h hcf hm
   subst h2 h3 h4
   cases bd with
   | expr _ => (exact falseE h1)
   | stmts body =>
     exact WC.enterC1 (G := e.G) (oc := oc) (od := od) (osl := osl) (ns := ns) hl h5 hbind (fun y hy => h6 y hy) hcf h7 h8 h9 h10 hlen hm h
 · (exact noneE hf)
section
variable {D : Nat} {H : AHeap}
theorem k634n : nsIn e.G.K mainGlobals ("_law_renamed" : Str) = some (some (.ref 634)) := by kernel_rfl
theorem k634 : keepIn e.G.K (.ref 634) = true := by kernel_rfl
noncomputable def Tm.dep : Tm → Nat
 | .s1 t => t.dep + 1
 | .s2 _ t u => max t.dep u.dep + 1
 | _ => 1
theorem Tmdep_v : ∀ k, Tm.dep (.v k) = 1 := fun _ => rfl
theorem Tmdep_a : ∀ k, Tm.dep (.a k) = 1 := fun _ => rfl
theorem Tmdep_i : ∀ k, Tm.dep (.i k) = 1 := fun _ => rfl
theorem Tmdep_s1 : ∀ t, Tm.dep (.s1 t) = t.dep + 1 := fun _ => rfl
theorem Tmdep_s2 : ∀ f t u, Tm.dep (.s2 f t u) = max t.dep u.dep + 1 := fun _ _ _ => rfl
structure TabAt (tl : Addr) (p : V8 → V8) (H : AHeap) : Prop where
 t : ∃ tab : List Int, H tl = some (.list (tab.map AV.int)) ∧ tab.length = 6 ∧ ∀ k : V8, k.val < 6 → tab[k.val]? = some (vi (p k))
noncomputable def RenAt (e : Ev) (N : Nat) (tl : Addr) (p : V8 → V8) (t : Tm) : Prop := ∀ (H : AHeap) (Q : AV → AHeap → Prop), TabAt tl p H → (∀ H', Fram [] H H' → Q (t.ren p).av H') → WC e.G N (.ref 634) [t.av, .ref tl] H Q
theorem TabAt.grow {tl : Addr} {p : V8 → V8} {H H' : AHeap} (T : TabAt tl p H) (F : Fram [] H H') : TabAt tl p H' := by
 (refine exEA (T.t) fun tab t1 t2 => ?_)
 exact ⟨tab, F _ _ t1 (by (exact fun h => nomatch h)), t2⟩
theorem btuple : nsIn e.G.K mainGlobals ("tuple" : Str) = some none := by kernel_rfl
theorem btuple' : bootBuiltins ("tuple" : Str) = some (.type "tuple") := by kernel_rfl
theorem ren_step (tl : Addr) (p : V8 → V8) (t : Tm) (hlow : t.low 6) (IH : ∀ u ∈ t.args, RenAt e D tl p u) : RenAt e (D + 1) tl p t := by
 intro H Q T h
 refine WC.enterFC (ns := ["part", "table"]) (z := "table") (m' := [("part", t.av)]) (by kernel_rfl) (by kernel_rfl) rfl (bind2 (by intro x y; kernel_rfl)) (by intro n; kernel_rfl) (fun y hy => ?_) fun ca hca => ?_
 · cases List.mem_singleton.mp hy
   exact ⟨rfl, by kernel_rfl⟩
 k_extra "norm_m"
 have F0 : Fram [] H (H.put ca (.cell (.ref tl))) := Fram.new hca
 (refine exEAA ((T.grow F0).t) fun tab t1 t2 t3 => ?_)
 have ec : cellOf1 (([("part" : Str), ("table" : Str)].zip [t.av, AV.ref tl]).reverse.lookup ("table" : Str)) = .cell (.ref tl) := rfl
 rw [ec]
 cases t with
 | v k =>
   have hk : k.val < 6 := hlow k (by (exact List.mem_cons_self))
   k_extra "wg"
   refine WE.cname rfl (AHeap.put_self _ _ _) ?_
   k_extra "wg"
   refine giL (xs := tab.map AV.int) (a := .int (vi (p k))) t1 (Int.natCast_nonneg _) (by rw [List.getElem?_map]; show (tab[k.val]?).map _ = _; rw [t3 k hk]; rfl) (by rw [List.length_map]; lia) ?_
   k_extra "wg"
   exact h _ F0
 | a n =>
   k_extra "wg"
   exact h _ F0
 | i n =>
   k_extra "wg"
   exact h _ F0
 | s1 u =>
   k_extra "wg"
   refine WE.callT btuple btuple' (by decide) ?_
   refine WE.comp (bcl := [("table", ca)]) ?hclos rfl ?hnames (CompGo.tup rfl rfl ?hcell ?_)
   case hclos =>
     intro c h1 h2
     obtain ⟨_, _, _, _, _, _, _, _, _, _, _⟩ := c
     dsimp only at h1 h2
     subst h1 h2
     rfl
   case hnames => decide +kernel
   case hcell => decide +kernel
   refine WE.item (WE.name rfl (WE.int (WI.tup (by decide) rfl (Nat.le_of_ble_eq_true rfl) ⟨_, rfl, by (exact Nat.le_of_ble_eq_true rfl), trivial, ?_⟩)))
   refine CE.callK k634n k634 (CE.name (CE.cell rfl (AHeap.put_self _ _ _) ?_))
   refine IH u (by (exact List.mem_cons_self)) _ _ (T.grow F0) fun H1 F1 => ?_
   refine ⟨trivial, fun d hd => ?_⟩
   refine WB.tupleL (AHeap.put_self _ _ _) (by (exact Nat.le_of_ble_eq_true rfl)) ?_
   k_extra "wg"
   exact h _ (F0.trans (F1.trans (Fram.new hd)))
 | s2 f u w =>
   have e2 : (Tm.s2 f u w).av = .tup [sS "s", .int (Tm.fn (.s2 f u w)), .tup [u.av, w.av]] := by cases f <;> rfl
   have e3 : ((Tm.s2 f u w).ren p).av = .tup [sS "s", .int (Tm.fn (.s2 f u w)), .tup [(u.ren p).av, (w.ren p).av]] := by cases f <;> rfl
   rw [e2]
   rw [e3] at h
   generalize Tm.fn (.s2 f u w) = q at *
   k_extra "wg"
   refine WE.callT btuple btuple' (by decide) ?_
   refine WE.comp (bcl := [("table", ca)]) ?hclos rfl ?hnames (CompGo.tup rfl rfl ?hcell ?_)
   case hclos =>
     intro c h1 h2
     obtain ⟨_, _, _, _, _, _, _, _, _, _, _⟩ := c
     dsimp only at h1 h2
     subst h1 h2
     rfl
   case hnames => decide +kernel
   case hcell => decide +kernel
   refine WE.item (WE.name rfl (WE.int (WI.tup (by decide) rfl (Nat.le_of_ble_eq_true rfl) ⟨_, rfl, by (exact Nat.le_of_ble_eq_true rfl), trivial, ?_⟩)))
   refine CE.callK k634n k634 (CE.name (CE.cell rfl (AHeap.put_self _ _ _) ?_))
   refine IH u (by (exact List.mem_cons_self)) _ _ (T.grow F0) fun H1 F1 => ?_
   have hc1 : H1 ca = some (.cell (.ref tl)) := F1 _ _ (AHeap.put_self _ _ _) (by (exact fun h => nomatch h))
   refine ⟨trivial, CE.callK k634n k634 (CE.name (CE.cell rfl hc1 ?_))⟩
   refine IH w (by (exact .tail _ (.head _))) _ _ (T.grow (F0.trans F1)) fun H2 F2 => ?_
   refine ⟨trivial, fun d hd => ?_⟩
   refine WB.tupleL (AHeap.put_self _ _ _) (by (exact Nat.le_of_ble_eq_true rfl)) ?_
   k_extra "wg"
   exact h _ (F0.trans (F1.trans (F2.trans (Fram.new hd))))
theorem ren_all (tl : Addr) (p : V8 → V8) : ∀ (n : Nat) (t : Tm), t.dep ≤ n → t.low 6 → RenAt e (D + n) tl p t := by
 intro zz
 induction zz with
 | zero =>
   intro t hd _
   cases t <;> simp [Tmdep_v, Tmdep_a, Tmdep_i, Tmdep_s1, Tmdep_s2] at hd
 | succ n ih =>
   intro t hd hl
   exact ren_step (D := D + n) tl p t hl fun u hu => ih u (by
       cases t with
       | s1 t => simp only [Tmargs_v, Tmargs_a, Tmargs_i, Tmargs_s1, Tmargs_s2, List.mem_singleton] at hu; subst hu; simp only [Tmdep_v, Tmdep_a, Tmdep_i, Tmdep_s1, Tmdep_s2] at hd; (exact Nat.le_of_succ_le_succ (by assumption))
       | s2 f t w =>
         simp only [Tmargs_v, Tmargs_a, Tmargs_i, Tmargs_s1, Tmargs_s2, List.mem_cons, List.not_mem_nil, or_false] at hu
         simp only [Tmdep_v, Tmdep_a, Tmdep_i, Tmdep_s1, Tmdep_s2] at hd
         rcases hu with rfl | rfl <;> lia
       | _ => simp [Tmargs_v, Tmargs_a, Tmargs_i, Tmargs_s1, Tmargs_s2] at hu) (fun k hk => hl k (by
       cases t with
       | s1 t => simp only [Tmargs_v, Tmargs_a, Tmargs_i, Tmargs_s1, Tmargs_s2, List.mem_singleton] at hu; subst hu; exact hk
       | s2 f t w =>
         simp only [Tmargs_v, Tmargs_a, Tmargs_i, Tmargs_s1, Tmargs_s2, List.mem_cons, List.not_mem_nil, or_false] at hu
         rcases hu with rfl | rfl
         · exact List.mem_append_left _ hk
         · exact List.mem_append_right _ hk
       | _ => simp [Tmargs_v, Tmargs_a, Tmargs_i, Tmargs_s1, Tmargs_s2] at hu))
theorem Tm.dep_size : ∀ t : Tm, t.dep ≤ t.size
 | .s1 t => by have := Tm.dep_size t; simp only [Tmdep_v, Tmdep_a, Tmdep_i, Tmdep_s1, Tmdep_s2, Tmsize_v, Tmsize_a, Tmsize_i, Tmsize_s1, Tmsize_s2]; (exact Nat.succ_le_succ (by assumption))
 | .s2 _ t u => by have := Tm.dep_size t; have := Tm.dep_size u; simp only [Tmdep_v, Tmdep_a, Tmdep_i, Tmdep_s1, Tmdep_s2, Tmsize_v, Tmsize_a, Tmsize_i, Tmsize_s1, Tmsize_s2]; lia
 | .v _ => Nat.le_refl _
 | .a _ => Nat.le_refl _
 | .i _ => Nat.le_refl _
end
section
variable {D : Nat} {H : AHeap}
theorem k639n : nsIn e.G.K mainGlobals ("_law_renamed_goal" : Str) = some (some (.ref 639)) := by kernel_rfl
theorem k639 : keepIn e.G.K (.ref 639) = true := by kernel_rfl
end
theorem kw90 : True := by
 k_with "wk" => (first | ((focus (refine' WE.callK ?_ ?_ ?_; rotate_right 3; (· with_reducible exact k634n); (· with_reducible exact k634)))) | fail)
 trivial
section
variable {D : Nat} {H : AHeap}
end
theorem kw91 : True := by
 k_with "wn" => (first | ((focus (refine' WE.cname rfl ?_ ?_; rotate_right 2; (· k_extra "hfr")))) | fail)
 trivial
section
variable {D : Nat} {H : AHeap}
theorem Tm.low.up {t : Tm} (h : t.low 5) : t.low 6 := fun k hk => Nat.lt_succ_of_lt (h k hk)
theorem ren7 {tl : Addr} {p : V8 → V8} {t : Tm} (z : t.size ≤ 7) (h : t.low 5) {Q : AQ} (T : TabAt tl p H) (k : ∀ H', Fram [] H H' → Q (t.ren p).av H') : WC e.G (D + 7) (.ref 634) [t.av, .ref tl] H Q :=
 ren_all (D := D) tl p 7 t (Nat.le_trans t.dep_size z) h.up _ _ T k
theorem renG_ok (tl : Addr) (p : V8 → V8) (g : Goal) (hg : Drawn g ∨ g = .level 5) (T : TabAt tl p H) {Q : AQ} (h : ∀ H', Fram [] H H' → Q (g.ren p).av H') : WC e.G (D + 8) (.ref 639) [g.av, .ref tl] H Q := by
 refine WC.enterFC (ns := ["goal_", "table"]) (z := "table") (m' := [("goal_", g.av)]) (by kernel_rfl) (by kernel_rfl) rfl (bind2 (by intro x y; kernel_rfl)) (by intro n; kernel_rfl) (fun y hy => ?_) fun ca hca => ?_
 · cases List.mem_singleton.mp hy
   exact ⟨rfl, by kernel_rfl⟩
 k_extra "norm_m"
 have F0 : Fram [] H (H.put ca (.cell (.ref tl))) := Fram.new hca
 have T0 := T.grow F0
 (refine exEAA (T0.t) fun tab t1 t2 t3 => ?_)
 have ec : cellOf1 (([("goal_" : Str), ("table" : Str)].zip [g.av, AV.ref tl]).reverse.lookup ("table" : Str)) = .cell (.ref tl) := rfl
 rw [ec]
 have h5 : ∀ {G : Gl} {D : Nat} {Q : AQ}, Q (.int (vi (p 5))) (H.put ca (.cell (.ref tl))) → WI G D (.ref tl) (.int (vi 5)) (H.put ca (.cell (.ref tl))) Q := fun q => giL (xs := tab.map AV.int) (a := .int (vi (p 5))) t1 (by decide) (by rw [List.getElem?_map]; have := t3 5 (by decide); show (tab[5]?).map _ = _; rw [show tab[5]? = some (vi (p 5)) from this]; rfl) (by rw [List.length_map]; lia) q
 rcases hg with hg | rfl
 · cases hg with
   | unify t u a1 a2 z1 z2 =>
     k_extra "wg"
     refine ren7 z1 a1 T0 fun H1 F1 => ?_
     have hc1 : H1 ca = some (.cell (.ref tl)) := F1 _ _ (AHeap.put_self _ _ _) (by (exact fun h => nomatch h))
     k_extra "wg"
     refine ren7 z2 a2 (T0.grow F1) fun H2 F2 => ?_
     k_extra "wg"
     exact h _ (F0.trans (F1.trans F2))
   | cutto =>
     k_extra "wg"
     refine h5 ?_
     k_extra "wg"
     exact h _ F0
   | call t u a1 a2 z1 z2 =>
     k_extra "wg"
     refine WE.callT btuple btuple' (by decide) ?_
     refine WE.comp (bcl := [("table", ca)]) ?hclos rfl ?hnames (CompGo.tup rfl rfl ?hcell ?_)
     case hclos =>
       intro c h1 h2
       obtain ⟨_, _, _, _, _, _, _, _, _, _, _⟩ := c
       dsimp only at h1 h2
       subst h1 h2
       rfl
     case hnames => decide +kernel
     case hcell => decide +kernel
     refine WE.item (WE.name rfl (WE.int (WI.tup (by decide) rfl (Nat.le_of_ble_eq_true rfl) ⟨_, rfl, by (exact Nat.le_of_ble_eq_true rfl), trivial, ?_⟩)))
     refine CE.callK k634n k634 (CE.name (CE.cell rfl (AHeap.put_self _ _ _) ?_))
     refine ren7 z1 a1 T0 fun H1 F1 => ?_
     have hc1 : H1 ca = some (.cell (.ref tl)) := F1 _ _ (AHeap.put_self _ _ _) (by (exact fun h => nomatch h))
     refine ⟨trivial, CE.callK k634n k634 (CE.name (CE.cell rfl hc1 ?_))⟩
     refine ren7 z2 a2 (T0.grow F1) fun H2 F2 => ?_
     refine ⟨trivial, fun d hd => ?_⟩
     refine WB.tupleL (AHeap.put_self _ _ _) (by (exact Nat.le_of_ble_eq_true rfl)) ?_
     k_extra "wg"
     exact h _ (F0.trans (F1.trans (F2.trans (Fram.new hd))))
   | builtin t u a1 a2 z1 z2 =>
     k_extra "wg"
     refine WE.callT btuple btuple' (by decide) ?_
     refine WE.comp (bcl := [("table", ca)]) ?hclos rfl ?hnames (CompGo.tup rfl rfl ?hcell ?_)
     case hclos =>
       intro c h1 h2
       obtain ⟨_, _, _, _, _, _, _, _, _, _, _⟩ := c
       dsimp only at h1 h2
       subst h1 h2
       rfl
     case hnames => decide +kernel
     case hcell => decide +kernel
     refine WE.item (WE.name rfl (WE.int (WI.tup (by decide) rfl (Nat.le_of_ble_eq_true rfl) ⟨_, rfl, by (exact Nat.le_of_ble_eq_true rfl), trivial, ?_⟩)))
     refine CE.callK k634n k634 (CE.name (CE.cell rfl (AHeap.put_self _ _ _) ?_))
     refine ren7 z1 a1 T0 fun H1 F1 => ?_
     have hc1 : H1 ca = some (.cell (.ref tl)) := F1 _ _ (AHeap.put_self _ _ _) (by (exact fun h => nomatch h))
     refine ⟨trivial, CE.callK k634n k634 (CE.name (CE.cell rfl hc1 ?_))⟩
     refine ren7 z2 a2 (T0.grow F1) fun H2 F2 => ?_
     refine ⟨trivial, fun d hd => ?_⟩
     refine WB.tupleL (AHeap.put_self _ _ _) (by (exact Nat.le_of_ble_eq_true rfl)) ?_
     k_extra "wg"
     exact h _ (F0.trans (F1.trans (F2.trans (Fram.new hd))))
 · k_extra "wg"
   refine h5 ?_
   k_extra "wg"
   exact h _ F0
end
section
variable {D : Nat} {H : AHeap}
theorem s443a : setIn e.G.K 443 ("functor" : Str) = true := by kernel_rfl
theorem s443b : setIn e.G.K 443 ("args" : Str) = true := by kernel_rfl
theorem s443c : setIn e.G.K 443 ("goals" : Str) = true := by kernel_rfl
theorem s443d : setIn e.G.K 443 ("count" : Str) = true := by kernel_rfl
theorem mk443 : makesIn e.G.K 443 = true := by kernel_rfl
theorem in443 : findIn e.G.K (.ref 443) "__init__" = some (some (.ref 440)) := by kernel_rfl
theorem fn440 : isFn e.G.K (.ref 440) = true := by kernel_rfl
theorem k443n : nsIn e.G.K mainGlobals ("KernelClause" : Str) = some (some (.ref 443)) := by kernel_rfl
theorem k443 : keepIn e.G.K (.ref 443) = true := by kernel_rfl
end
theorem kw92 : True := by
 k_with "wf" => (first | (with_reducible first | exact s443a | exact s443b | exact s443c | exact s443d) | fail)
 trivial
section
variable {D : Nat} {H : AHeap}
theorem mkKern_ok {lg : Addr} {heads : List Tm} {goals : List Goal} (hg : H lg = some (.list (goals.map Goal.av))) (n : Int) {Q : AQ} (h : ∀ lk H', H lk = none → KernAt H' lk heads goals n → Fram [] H H' → Q (.ref lk) H') : WC e.G (D + 2) (.ref 443) [.int 24, .tup (heads.map Tm.av), .ref lg, .int n] H Q := by
 refine WC.make mk443 in443 fn440 fun x dx hx hdx ne => ?_
 refine WC.enterF (ns := ["self", "functor", "args", "goals", "count"]) (by kernel_rfl) (by kernel_rfl) rfl (bind5 (by intro x y z u v; kernel_rfl)) ?_
 k_extra "norm_m"
 have out : ∀ {a : Addr} {o : AO}, H a = some o → a ≠ x ∧ a ≠ dx := fun q => ⟨fun z => (by rw [z, hx] at q; (exact noneE q)), fun z => (by rw [z, hdx] at q; (exact noneE q))⟩
 (refine exA (out hg) fun g1 g2 => ?_)
 k_extra "wg"
 refine ⟨rfl, h x _ hx ⟨dx, lg, by k_extra "hp", by k_extra "hp", by k_extra "hp"⟩ fun a o q _ => ?_⟩
 (refine exA (out q) fun b1 b2 => ?_)
 k_extra "hp"
end
noncomputable def renR (p : V8 → V8) (r : Rec) : Rec := { r with k := p r.k }
section
variable {p : V8 → V8}
theorem onK_ren (inj : ∀ j k, p j = p k → j = k) {f : Rec → Rec} (hf : ∀ r, f (renR p r) = renR p (f r)) (k : V8) (rs : List Rec) : onK (p k) f (rs.map (renR p)) = (onK k f rs).map (renR p) := by
 unfold onK
 rw [List.map_map, List.map_map]
 refine List.map_congr_left fun r _ => ?_
 show (if p r.k = p k then f (renR p r) else renR p r) = renR p (if r.k = k then f r else r)
 by_cases q : r.k = k
 · rw [if_pos q, if_pos (by rw [q]), hf]
 · rw [if_neg q, if_neg (fun z => q (inj _ _ z))]
theorem hasK_ren (inj : ∀ j k, p j = p k → j = k) (k : V8) (rs : List Rec) : hasK (p k) (rs.map (renR p)) = hasK k rs := by
 unfold hasK
 rw [List.any_map]
 congr 1
 funext r
 show decide (p r.k = p k) = decide (r.k = k)
 exact decide_eq_decide.mpr ⟨inj _ _, fun h => by rw [h]⟩
theorem meetM_ren (inj : ∀ j k, p j = p k → j = k) (k : V8) (fs : Str) (g c n : Int) (rs : List Rec) : meetM (p k) fs g c n (rs.map (renR p)) = (meetM k fs g c n rs).map (renR p) := by
 unfold meetM
 rw [hasK_ren inj, ← onK_ren inj (f := Rec.met g c n) (fun _ => rfl)]
 congr 1
 split
 · rfl
 · rw [List.map_append]; rfl
theorem count_ren (inj : ∀ j k, p j = p k → j = k) (k : V8) (l : List V8) : (l.map p).count (p k) = l.count k := by
 induction l with
 | nil => rfl
 | cons x l ih =>
   rw [List.map_cons, List.count_cons, List.count_cons, ih]
   by_cases q : x = k
   · subst q; simp
   · have : p x ≠ p k := fun z => q (inj _ _ z)
     simp [q, this]
theorem firsts_ren (inj : ∀ j k, p j = p k → j = k) : ∀ (l s : List V8), firsts (s.map p) (l.map p) = (firsts s l).map p := by
 intro zz
 induction zz with
 | nil =>
   intro s
   exact rfl
 | cons k l ih =>
   intro s
   have e : (p k ∈ s.map p) ↔ (k ∈ s) := by
     refine ⟨fun h => ?_, fun h => List.mem_map.mpr ⟨k, h, rfl⟩⟩
     (refine exEA (List.mem_map.mp h) fun j hj z => ?_)
     rw [← inj _ _ z]; exact hj
   rw [List.map_cons, firsts_c, firsts_c]
   by_cases q : k ∈ s
   · rw [if_pos q, if_pos (e.mpr q)]; exact ih s
   · rw [if_neg q, if_neg (fun z => q (e.mp z)), List.map_cons]
     exact congrArg _ (ih (k :: s))
theorem vars_ren (inj : ∀ j k, p j = p k → j = k) (t : Tm) : (t.ren p).vars = t.vars.map p := by
 unfold Tm.vars
 rw [ren_occs]
 exact firsts_ren inj t.occs []
theorem meetsM_ren (inj : ∀ j k, p j = p k → j = k) (pl : Str) (g c : Int) (t : Tm) : ∀ (vs : List V8) (rs : List Rec), meetsM pl g c (t.ren p) (vs.map p) (rs.map (renR p)) = (meetsM pl g c t vs rs).map (renR p) := by
 intro zz
 induction zz with
 | nil =>
   intro rs
   exact rfl
 | cons k vs ih =>
   intro rs
   show meetsM pl g c (t.ren p) (vs.map p) (meetM (p k) _ g c (((t.ren p).occs.count (p k) : Nat) : Int) (rs.map (renR p))) = _
   rw [ren_occs, count_ren inj, meetM_ren inj]
   exact ih _
noncomputable def termM6 (pl : Str) (g c : Int) (t : Tm) (rs : List Rec) : List Rec := match t with | .v k => meetM k (pl ++ "_arg") g c 1 rs | t => meetsM pl g c t t.vars rs
theorem termsM6_cons (pl : Str) (g c : Int) (t : Tm) (ts : List Tm) (rs : List Rec) : termsM pl g c (t :: ts) rs = termsM pl g c ts (termM6 pl g c t rs) := by cases t <;> rfl
theorem termsM_ren (inj : ∀ j k, p j = p k → j = k) (pl : Str) (g c : Int) : ∀ (ts : List Tm) (rs : List Rec), termsM pl g c (ts.map (Tm.ren p)) (rs.map (renR p)) = (termsM pl g c ts rs).map (renR p) := by
 intro zz
 induction zz with
 | nil =>
   intro rs
   exact rfl
 | cons t ts ih =>
   intro rs
   have key : ∀ u : Tm, meetsM pl g c (u.ren p) (u.ren p).vars (rs.map (renR p)) = (meetsM pl g c u u.vars rs).map (renR p) := fun u => by
     rw [vars_ren inj]; exact meetsM_ren inj pl g c u _ _
   rw [List.map_cons, termsM6_cons, termsM6_cons]
   rw [← ih]
   congr 1
   cases t with
   | v k => exact meetM_ren inj k _ g c 1 rs
   | a n => exact key (.a n)
   | i n => exact key (.i n)
   | s1 t => exact key (.s1 t)
   | s2 b t u => exact key (.s2 b t u)
theorem specialM_ren (inj : ∀ j k, p j = p k → j = k) (g : Goal) (i c : Int) (rs : List Rec) : specialM (g.ren p) i c (rs.map (renR p)) = (specialM g i c rs).map (renR p) := by
 cases g <;> first | exact meetM_ren inj _ _ _ _ _ _ | rfl
theorem ren_terms (g : Goal) : (g.ren p).terms = g.terms.map (Tm.ren p) := by cases g <;> rfl
theorem ren_isCall (g : Goal) : (g.ren p).isCall = g.isCall := by cases g <;> rfl
theorem surveyM_ren (inj : ∀ j k, p j = p k → j = k) : ∀ (gs : List Goal) (i c : Int) (rs : List Rec), surveyM (gs.map (Goal.ren p)) i c (rs.map (renR p)) = (surveyM gs i c rs).map (renR p) := by
 intro zz
 induction zz with
 | nil =>
   intro i c rs
   exact rfl
 | cons g gs ih =>
   intro i c rs
   rw [List.map_cons, surveyM_c, surveyM_c, ren_terms, ren_isCall, specialM_ren inj, termsM_ren inj]
   exact ih _ _ _
theorem rs0M_ren (inj : ∀ j k, p j = p k → j = k) (heads : List Tm) (goals : List Goal) : rs0M (heads.map (Tm.ren p)) (goals.map (Goal.ren p)) = (rs0M heads goals).map (renR p) := by
 unfold rs0M
 rw [← surveyM_ren inj, ← termsM_ren inj]
 rfl
theorem kindsM_ren (inj : ∀ j k, p j = p k → j = k) : ∀ (ks : List V8) (rs : List Rec), kindsM (ks.map p) (rs.map (renR p)) = (kindsM ks rs).map (renR p) := by
 intro zz
 induction zz with
 | nil =>
   intro rs
   exact rfl
 | cons k ks ih =>
   intro rs
   rw [List.map_cons, kindsM_c, kindsM_c, onK_ren inj (f := Rec.kinded) (fun _ => rfl)]
   exact ih _
theorem rs1M_ren (inj : ∀ j k, p j = p k → j = k) (heads : List Tm) (goals : List Goal) : rs1M (heads.map (Tm.ren p)) (goals.map (Goal.ren p)) = (rs1M heads goals).map (renR p) := by
 unfold rs1M
 rw [rs0M_ren inj, List.map_map, ← kindsM_ren inj, List.map_map]
 rfl
theorem recAt_ren (inj : ∀ j k, p j = p k → j = k) (k : V8) (rs : List Rec) : recAt (rs.map (renR p)) (p k) = renR p (recAt rs k) := by
 unfold recAt
 induction rs with
 | nil => rfl
 | cons r rs ih =>
   rw [List.map_cons, List.find?_cons, List.find?_cons]
   by_cases q : r.k = k
   · rw [show decide ((renR p r).k = p k) = true from decide_eq_true (by show p r.k = p k; rw [q]), show decide (r.k = k) = true from decide_eq_true q]
     rfl
   · rw [show decide ((renR p r).k = p k) = false from decide_eq_false (fun z => q (inj _ _ z)), show decide (r.k = k) = false from decide_eq_false q]
     exact ih
theorem needsM_ren : ∀ gs : List Goal, needsM (gs.map (Goal.ren p)) = needsM gs
 | [] => rfl
 | [g] => rfl
 | g :: g2 :: gs => by
   show ((g.ren p).isCall || needsM ((g2 :: gs).map (Goal.ren p))) = (g.isCall || needsM (g2 :: gs))
   rw [ren_isCall, needsM_ren (g2 :: gs)]
end
theorem onK_all {C : Rec → Prop} {k : V8} {f : Rec → Rec} (hf : ∀ r, C r → C (f r)) {rs : List Rec} (h : ∀ r ∈ rs, C r) : ∀ r ∈ onK k f rs, C r := fun r hr => by
 (refine exEA (List.mem_map.mp hr) fun x hx zq0 => ?_; rcases zq0 with rfl)
 split
 · exact hf _ (h x hx)
 · exact h x hx
structure RInv (Kp : V8 → Prop) (rs : List Rec) : Prop where
 nd : (rs.map (·.k)).Nodup
 z : ∀ r ∈ rs, r.slot = 0 ∧ r.kind = .temp
 kp : ∀ r ∈ rs, Kp r.k
theorem RInv.meet {Kp : V8 → Prop} {rs : List Rec} (R : RInv Kp rs) (k : V8) (fs : Str) (g c n : Int) (hk : Kp k) : RInv Kp (meetM k fs g c n rs) ∧ ∀ j, hasK j (meetM k fs g c n rs) = (hasK j rs || decide (j = k)) := by
 unfold meetM
 cases q : hasK k rs with
 | true =>
   rw [if_pos rfl]
   refine ⟨⟨by rw [onK_keys (f := Rec.met g c n) (fun _ => rfl)]; exact R.nd, onK_all (f := Rec.met g c n) (fun r h => h) R.z, onK_all (f := Rec.met g c n) (C := fun r => Kp r.k) (fun r h => h) R.kp⟩, fun j => ?_⟩
   rw [hasK_onK (f := Rec.met g c n) (fun _ => rfl)]
   by_cases z : j = k
   · subst z; simp [q]
   · simp [z]
 | false =>
   rw [if_neg (by decide)]
   have nk : ∀ y ∈ rs, y.k ≠ k := fun y hy e => by rw [hasK_iff.mpr ⟨y, hy, e⟩] at q; (exact trueE q)
   refine ⟨⟨?_, onK_all (f := Rec.met g c n) (fun r h => h) fun r hr => ?_, onK_all (f := Rec.met g c n) (C := fun r => Kp r.k) (fun r h => h) fun r hr => ?_⟩, fun j => ?_⟩
   · rw [onK_keys (f := Rec.met g c n) (fun _ => rfl), List.map_append, List.nodup_append]
     refine ⟨R.nd, by simp, fun a ha b hb => ?_⟩
     (refine exEA (List.mem_map.mp ha) fun y hy zq0 => ?_; rcases zq0 with rfl)
     cases List.mem_singleton.mp hb
     exact nk y hy
   · rcases List.mem_append.mp hr with hr | hr
     · exact R.z r hr
     · cases List.mem_singleton.mp hr; exact ⟨rfl, rfl⟩
   · rcases List.mem_append.mp hr with hr | hr
     · exact R.kp r hr
     · cases List.mem_singleton.mp hr; exact hk
   · rw [hasK_onK (f := Rec.met g c n) (fun _ => rfl)]
     unfold hasK
     rw [List.any_append]
     show (_ || (decide (k = j) || false)) = _
     rw [Bool.or_false]
     congr 1
     exact decide_eq_decide.mpr ⟨Eq.symm, Eq.symm⟩
theorem RInv.meets {Kp : V8 → Prop} (pl : Str) (g c : Int) (t : Tm) : ∀ (vs : List V8) {rs : List Rec}, RInv Kp rs → (∀ k ∈ vs, Kp k) → RInv Kp (meetsM pl g c t vs rs) ∧ ∀ j, hasK j (meetsM pl g c t vs rs) = (hasK j rs || decide (j ∈ vs)) := by
 intro zz
 induction zz with
 | nil =>
   intro rs R _
   exact ⟨R, fun j => by simp [meetsM_n, meetsM_c]⟩
 | cons k vs ih =>
   intro rs R h
   (refine exA (R.meet k (pl ++ "_struct") g c (t.occs.count k) (h k (.head _))) fun R1 e1 => ?_)
   (refine exA (ih R1 (fun j hj => h j (.tail _ hj))) fun R2 e2 => ?_)
   refine ⟨R2, fun j => ?_⟩
   rw [show meetsM pl g c t (k :: vs) rs = meetsM pl g c t vs (meetM k (pl ++ "_struct") g c (t.occs.count k) rs) from rfl, e2, e1]
   simp [Bool.or_assoc]
theorem mem_firsts6 : ∀ (l s : List V8) (k : V8), k ∈ firsts s l ↔ k ∈ l ∧ k ∉ s := by
 intro zz
 induction zz with
 | nil =>
   intro s k
   simp [firsts_n, firsts_c]
 | cons j l ih =>
   intro s k
   rw [firsts_c]
   by_cases q : j ∈ s
   · rw [if_pos q, ih s k, List.mem_cons]
     refine ⟨fun h => ⟨.inr h.1, h.2⟩, fun h => ⟨?_, h.2⟩⟩
     rcases h.1 with rfl | h1
     · exact absurd q h.2
     · exact h1
   · rw [if_neg q, List.mem_cons, ih (j :: s) k, List.mem_cons, List.mem_cons]
     by_cases z : k = j
     · subst z; simp [q]
     · simp [z]
theorem mem_vars6 (t : Tm) (k : V8) : k ∈ t.vars ↔ k ∈ t.occs := by unfold Tm.vars; rw [mem_firsts6]; simp
theorem RInv.terms {Kp : V8 → Prop} (pl : Str) (g c : Int) : ∀ (ts : List Tm) {rs : List Rec}, RInv Kp rs → (∀ t ∈ ts, ∀ k ∈ t.occs, Kp k) → RInv Kp (termsM pl g c ts rs) ∧ ∀ j, hasK j (termsM pl g c ts rs) = (hasK j rs || decide (∃ t ∈ ts, j ∈ t.occs)) := by
 intro zz
 induction zz with
 | nil =>
   intro rs R _
   exact ⟨R, fun j => by simp [termsM_n]⟩
 | cons t ts ih =>
   intro rs R h
   have one : ∃ rs1, termM6 pl g c t rs = rs1 ∧ RInv Kp rs1 ∧ ∀ j, hasK j rs1 = (hasK j rs || decide (j ∈ t.occs)) := by
     have hk := h t (.head _)
     have key : ∀ u : Tm, (∀ k ∈ u.occs, Kp k) → ∃ rs1, meetsM pl g c u u.vars rs = rs1 ∧ RInv Kp rs1 ∧ ∀ j, hasK j rs1 = (hasK j rs || decide (j ∈ u.occs)) := fun u hu => by
       (refine exA (RInv.meets pl g c u u.vars R (fun k hk => hu k ((mem_vars6 u k).mp hk))) fun a b => ?_)
       exact ⟨_, rfl, a, fun j => by rw [b j]; congr 1; exact decide_eq_decide.mpr (mem_vars6 u j)⟩
     cases t with
     | v k =>
       (refine exA (R.meet k (pl ++ "_arg") g c 1 (hk k (by (exact List.mem_cons_self)))) fun a b => ?_)
       exact ⟨_, rfl, a, fun j => by rw [show termM6 pl g c (.v k) rs = meetM k (pl ++ "_arg") g c 1 rs from rfl, b j]; simp [Tmoccs_v, Tmoccs_a, Tmoccs_i, Tmoccs_s1, Tmoccs_s2]⟩
     | a n => exact key _ hk
     | i n => exact key _ hk
     | s1 u => exact key _ hk
     | s2 b u w => exact key _ hk
   (refine exEAA (one) fun rs1 e0 R1 e1 => ?_; clear one)
   (refine exA (ih R1 (fun u hu => h u (.tail _ hu))) fun R2 e2 => ?_)
   rw [termsM6_cons, e0]
   refine ⟨R2, fun j => ?_⟩
   rw [e2, e1]
   simp [Bool.or_assoc]
theorem RInv.special {Kp : V8 → Prop} (g : Goal) (i c : Int) {rs : List Rec} (R : RInv Kp rs) (h : ∀ k, g.special = vi k → Kp k) : RInv Kp (specialM g i c rs) ∧ ∀ j, hasK j (specialM g i c rs) = (hasK j rs || decide (g.special = vi j)) := by
 have no : ∀ j : V8, decide ((-1 : Int) = vi j) = false := fun j => by have := (vi_lo j).1; exact decide_eq_false (by lia)
 have yes : ∀ k j : V8, decide (j = k) = decide (vi k = vi j) := fun k j => decide_eq_decide.mpr ⟨fun h => by rw [h], fun h => (vi_inj h).symm⟩
 cases g with
 | level k => (refine exA (R.meet k "special" i c 1 (h k rfl)) fun a b => ?_); exact ⟨a, fun j => by rw [show specialM (.level k) i c rs = meetM k "special" i c 1 rs from rfl, b j, yes]; rfl⟩
 | mark k => (refine exA (R.meet k "special" i c 1 (h k rfl)) fun a b => ?_); exact ⟨a, fun j => by rw [show specialM (.mark k) i c rs = meetM k "special" i c 1 rs from rfl, b j, yes]; rfl⟩
 | cutto k => (refine exA (R.meet k "special" i c 1 (h k rfl)) fun a b => ?_); exact ⟨a, fun j => by rw [show specialM (.cutto k) i c rs = meetM k "special" i c 1 rs from rfl, b j, yes]; rfl⟩
 | _ => exact ⟨R, fun j => by show hasK j rs = (hasK j rs || decide ((-1 : Int) = vi j)); rw [no, Bool.or_false]⟩
noncomputable def gHas (g : Goal) (j : V8) : Prop := g.special = vi j ∨ ∃ t ∈ g.terms, j ∈ t.occs
theorem RInv.survey {Kp : V8 → Prop} : ∀ (gs : List Goal) (i c : Int) {rs : List Rec}, RInv Kp rs → (∀ g ∈ gs, ∀ k, gHas g k → Kp k) → RInv Kp (surveyM gs i c rs) ∧ ∀ j, hasK j (surveyM gs i c rs) = true ↔ (hasK j rs = true ∨ ∃ g ∈ gs, gHas g j) := by
 intro zz
 induction zz with
 | nil =>
   intro i c rs R _
   exact ⟨R, fun j => by simp [surveyM_n, surveyM_c]⟩
 | cons g gs ih =>
   intro i c rs R h
   (refine exA (R.special g i c (fun k hk => h g (.head _) k (.inl hk))) fun R1 e1 => ?_)
   (refine exA (R1.terms "goal" i c g.terms (fun t ht k hk => h g (.head _) k (.inr ⟨t, ht, hk⟩))) fun R2 e2 => ?_)
   (refine exA (ih (i + 1) (if g.isCall then c + 1 else c) R2 (fun x hx => h x (.tail _ hx))) fun R3 e3 => ?_)
   refine ⟨R3, fun j => ?_⟩
   rw [show surveyM (g :: gs) i c rs = surveyM gs (i + 1) (if g.isCall then c + 1 else c) (termsM "goal" i c g.terms (specialM g i c rs)) from rfl, e3 j, e2, e1]
   simp only [Bool.or_eq_true, decide_eq_true_eq, List.mem_cons, exists_eq_or_imp, gHas, or_assoc]
theorem rs0M_inv (Kp : V8 → Prop) (heads : List Tm) (goals : List Goal) (hh : ∀ t ∈ heads, ∀ k ∈ t.occs, Kp k) (hg : ∀ g ∈ goals, ∀ k, gHas g k → Kp k) : RInv Kp (rs0M heads goals) ∧ ∀ j, hasK j (rs0M heads goals) = true ↔ ((∃ t ∈ heads, j ∈ t.occs) ∨ ∃ g ∈ goals, gHas g j) := by
 have R0 : RInv Kp [] := ⟨by simp, (fun r hr => nomatch hr), (fun r hr => nomatch hr)⟩
 (refine exA (R0.terms "head" (-1) 0 heads hh) fun R1 e1 => ?_)
 (refine exA (R1.survey goals 0 0 hg) fun R2 e2 => ?_)
 refine ⟨R2, fun j => ?_⟩
 rw [show rs0M heads goals = surveyM goals 0 0 (termsM "head" (-1) 0 heads []) from rfl, e2 j, e1]
 simp [hasK]
theorem backM_spec (F : V8 → Int) (l : Int) (order : List V8) : ∀ n, n ≤ order.length → ∃ b, backM F l order n = b ∧ b ≤ n ∧ (∀ i, b ≤ i → i < n → F (order.getD i 0) < l) ∧ (b = 0 ∨ ¬ F (order.getD (b - 1) 0) < l) := by
 intro zz
 induction zz with
 | zero =>
   intro _
   exact ⟨0, rfl, Nat.le_refl _, fun i h1 h2 => absurd h2 (by (exact Nat.not_lt.mpr (by assumption))), .inl rfl⟩
 | succ n ih =>
   intro hn
   unfold backM
   by_cases q : F (order.getD n 0) < l
   · rw [if_pos q]
     (refine exEAAA (ih (by lia)) fun b e h1 h2 h3 => ?_)
     refine ⟨b, e, by (exact Nat.le_succ_of_le (by assumption)), fun i a1 a2 => ?_, h3⟩
     by_cases z : i = n
     · subst z; exact q
     · exact h2 i a1 (by lia)
   · rw [if_neg q]
     exact ⟨n + 1, rfl, Nat.le_refl _, fun i a1 a2 => absurd a2 (by (exact Nat.not_lt.mpr (by assumption))), .inr q⟩
theorem sorted_ins (F : V8 → Int) (k : V8) (order : List V8) (h : order.Pairwise fun a b => F b ≤ F a) : (insAt order (backM F (F k) order order.length) k).Pairwise fun a b => F b ≤ F a := by
 (refine exEAAA (backM_spec F (F k) order order.length (Nat.le_refl _)) fun b e h1 h2 h3 => ?_)
 rw [e]
 unfold insAt
 have hs := h
 rw [← List.take_append_drop b order, List.pairwise_append] at h
 (refine exAA (h) fun s1 s2 s3 => ?_; clear h)
 have lo : ∀ x ∈ order.drop b, F x ≤ F k := fun x hx => by
   obtain ⟨i, hi, rfl⟩ := List.mem_iff_getElem.mp hx
   rw [List.length_drop] at hi
   have hbi := Nat.add_lt_of_lt_sub' hi
   have := h2 (b + i) (Nat.le_add_right _ _) hbi
   rw [List.getD_eq_getElem?_getD, List.getElem?_eq_getElem hbi] at this
   rw [List.getElem_drop]
   exact Int.le_of_lt this
 have hi' : ∀ x ∈ order.take b, F k ≤ F x := fun x hx => by
   obtain ⟨i, hi, rfl⟩ := List.mem_iff_getElem.mp hx
   rw [List.length_take, Nat.lt_min] at hi
   rcases h3 with z | h3
   · exact absurd (z ▸ hi.1) (Nat.not_lt_zero _)
   have hb : b - 1 < order.length := Nat.lt_of_lt_of_le (Nat.sub_one_lt (fun z => Nat.not_lt_zero _ (z ▸ hi.1))) h1
   rw [List.getD_eq_getElem?_getD, List.getElem?_eq_getElem hb] at h3
   rw [List.getElem_take]
   have h4 : F order[b - 1] ≤ F order[i] := by
     by_cases z : i = b - 1
     · subst z; exact Int.le_refl _
     · exact List.pairwise_iff_getElem.mp hs i (b - 1) hi.2 hb (Nat.lt_of_le_of_ne (Nat.le_sub_one_of_lt hi.1) z)
   exact Int.le_trans (Int.not_lt.mp h3) h4
 rw [List.pairwise_append]
 exact ⟨s1, List.pairwise_cons.mpr ⟨lo, s2⟩, fun x hx y hy => by
   rcases List.mem_cons.mp hy with rfl | hy
   · exact hi' x hx
   · exact s3 x hx y hy⟩
theorem perm_ins (order : List V8) (n : Nat) (k : V8) : (insAt order n k).Perm (k :: order) := by
 unfold insAt
 have := List.perm_middle (a := k) (l₁ := order.take n) (l₂ := order.drop n)
 rwa [List.take_append_drop] at this
structure OrdOk (rs : List Rec) (order : List V8) : Prop where
 nd : order.Nodup
 so : order.Pairwise fun a b => (recAt rs b).last ≤ (recAt rs a).last
set_option tactic.hygienic true in
theorem orderM_ok (rs : List Rec) : ∀ (ks order : List V8), ks.Nodup → (∀ k ∈ ks, k ∉ order) → OrdOk rs order → OrdOk rs (orderM rs ks order) ∧ ∀ j, j ∈ orderM rs ks order ↔ (j ∈ order ∨ (j ∈ ks ∧ (recAt rs j).kind = .perm)) := by
 intro zz
 induction zz with
 | nil =>
   intro order _ _ O
   exact ⟨O, fun j => by simp [orderM]⟩
 | cons k ks ih =>
   intro order nd hd O
   rw [List.nodup_cons] at nd
   have O1 : OrdOk rs (orderStep rs order k) ∧ ∀ j, j ∈ orderStep rs order k ↔ (j ∈ order ∨ (j = k ∧ (recAt rs k).kind = .perm)) := by
     unfold orderStep
     split
     · rename_i q
       have P := perm_ins order (backM (fun j => (recAt rs j).last) (recAt rs k).last order order.length) k
       refine ⟨⟨P.nodup_iff.mpr (List.nodup_cons.mpr ⟨hd k (.head _), O.nd⟩), sorted_ins (fun j => (recAt rs j).last) k order O.so⟩, fun j => ?_⟩
       rw [P.mem_iff, List.mem_cons]
       simp [q, or_comm]
     · rename_i q
       exact ⟨O, fun j => by simp [q]⟩
   (refine exA (O1) ?_; clear O1; intro O1 e1)
   (refine exA (ih (orderStep rs order k) nd.2 (fun x hx h => by
     rcases (e1 x).mp h with h | ⟨h, _⟩
     · exact hd x (.tail _ hx) h
     · subst h; exact nd.1 hx) O1) ?_; intro O2 e2)
   refine ⟨O2, fun j => ?_⟩
   rw [show orderM rs (k :: ks) order = orderM rs ks (orderStep rs order k) from rfl, e2, e1, List.mem_cons]
   constructor
   · rintro ((h | ⟨rfl, h⟩) | ⟨h, h'⟩)
     · exact .inl h
     · exact .inr ⟨.inl rfl, h⟩
     · exact .inr ⟨.inr h, h'⟩
   · rintro (h | ⟨rfl | h, h'⟩)
     · exact .inl (.inl h)
     · exact .inl (.inr ⟨rfl, h'⟩)
     · exact .inr ⟨h, h'⟩
theorem mem_all86 (k : V8) : k ∈ all8 := (show ∀ x : V8, x ∈ all8 by decide) k
theorem recAt_none {rs : List Rec} {k : V8} (h : hasK k rs = false) : recAt rs k = Rec.new k "" := by
 unfold recAt
 rw [List.find?_eq_none.mpr (fun r hr e => by rw [hasK_iff.mpr ⟨r, hr, by simpa using e⟩] at h; (exact trueE h))]
 rfl
theorem ordM_ok (heads : List Tm) (goals : List Goal) : OrdOk (rs1M heads goals) (ordM heads goals) ∧ ∀ j, j ∈ ordM heads goals ↔ (recAt (rs1M heads goals) j).kind = .perm := by
 have nd8 : (keys8 (rs1M heads goals)).Nodup := List.Nodup.sublist List.filter_sublist (by decide)
 (refine exA (orderM_ok (rs1M heads goals) (keys8 (rs1M heads goals)) [] nd8 (fun k _ h => nomatch h) ⟨by simp, by simp⟩) fun O e => ?_)
 refine ⟨O, fun j => ?_⟩
 rw [show ordM heads goals = orderM (rs1M heads goals) (keys8 (rs1M heads goals)) [] from rfl, e]
 refine ⟨fun h => ?_, fun h => .inr ⟨?_, h⟩⟩
 · rcases h with h | ⟨_, h⟩
   · cases h
   · exact h
 · refine List.mem_filter.mpr ⟨mem_all86 j, ?_⟩
   cases q : hasK j (rs1M heads goals) with
   | true => rfl
   | false => rw [recAt_none q] at h; cases h
theorem liveM_count (F : V8 → Int) (i : Int) : ∀ (ord : List V8), ord.Pairwise (fun a b => F b ≤ F a) → liveM F i ord = (ord.filter fun k => decide (i < F k)).length := by
 intro zz
 induction zz with
 | nil =>
   intro _
   exact rfl
 | cons k ord ih =>
   intro h
   rw [List.pairwise_cons] at h
   rw [liveM_c]
   by_cases q : i < F k
   · rw [if_pos q, List.filter_cons_of_pos (by simpa using q), List.length_cons, ih h.2]
   · rw [if_neg q, List.filter_cons_of_neg (by simpa using q), List.filter_eq_nil_iff.mpr]
     · rfl
     · intro x hx
       have := h.1 x hx
       simp only [decide_eq_true_eq]
       lia
theorem nodup_map (p : V8 → V8) (inj : ∀ j k, p j = p k → j = k) : ∀ l : List V8, l.Nodup → (l.map p).Nodup := by
 intro zz
 induction zz with
 | nil =>
   intro _
   (assumption)
 | cons k l ih =>
   intro h
   rw [List.nodup_cons] at h
   rw [List.map_cons, List.nodup_cons]
   refine ⟨fun z => ?_, ih h.2⟩
   (refine exEA (List.mem_map.mp z) fun j hj e => ?_)
   exact h.1 (by rw [← inj _ _ e]; exact hj)
theorem len_same {l l' : List V8} (n : l.Nodup) (n' : l'.Nodup) (h : ∀ k, k ∈ l ↔ k ∈ l') : l.length = l'.length := by
 have := nodup_len l l' n (fun x hx => (h x).mp hx)
 have := nodup_len l' l n' (fun x hx => (h x).mpr hx)
 (exact Nat.le_antisymm (by assumption) (by assumption))
noncomputable def slotNo : List V8 → Int → V8 → Int
 | [], n, _ => n
 | j :: r, n, k => if j = k then n + 1 else slotNo r (n + 1) k
theorem slotNo_n : ∀ n k, slotNo [] n k = n := fun _ _ => rfl
theorem slotNo_c : ∀ j r n k, slotNo (j :: r) n k = if j = k then n + 1 else slotNo r (n + 1) k := fun _ _ _ _ => rfl
theorem slotNo_lo : ∀ (ks : List V8) (n : Int) (k : V8), n ≤ slotNo ks n k := by
 intro zz
 induction zz with
 | nil =>
   intro n k
   exact Int.le_refl _
 | cons j r ih =>
   intro n k
   rw [slotNo_c]
   split
   · (simp +arith only; done)
   · have := ih (n + 1) k; lia
set_option tactic.hygienic true in
theorem slotNo_gt : ∀ (ks : List V8) (n : Int) (k : V8), k ∈ ks → n < slotNo ks n k := by
 intro zz
 induction zz with
 | nil =>
   intro n k h
   exact nomatch h
 | cons x r ih =>
   intro n k h
   rw [slotNo_c]
   split
   · (simp +arith only; done)
   · rename_i q
     have hk' : k ∈ r := by rcases List.mem_cons.mp h with h | h; exact absurd h.symm q; exact h
     have := ih (n + 1) k hk'; lia
theorem slotNo_inj : ∀ (ks : List V8) (n : Int) (j k : V8), j ∈ ks → k ∈ ks → slotNo ks n j = slotNo ks n k → j = k := by
 intro zz
 induction zz with
 | nil =>
   intro n j k h _ _
   exact nomatch h
 | cons x r ih =>
   intro n j k hj hk e
   rw [slotNo_c, slotNo_c] at e
   by_cases q : x = j
   · by_cases q' : x = k
     · rw [← q, q']
     · rw [if_pos q, if_neg q'] at e
       have := slotNo_lo r (n + 1) k
       have hk' : k ∈ r := by rcases List.mem_cons.mp hk with h | h; exact absurd h.symm q'; exact h
       have h2 : n + 1 < slotNo r (n + 1) k := slotNo_gt r (n + 1) k hk'
       lia
   · by_cases q' : x = k
     · rw [if_neg q, if_pos q'] at e
       have hj' : j ∈ r := by rcases List.mem_cons.mp hj with h | h; exact absurd h.symm q; exact h
       have h2 : n + 1 < slotNo r (n + 1) j := slotNo_gt r (n + 1) j hj'
       lia
     · rw [if_neg q, if_neg q'] at e
       have hk' : k ∈ r := by rcases List.mem_cons.mp hk with h | h; exact absurd h.symm q'; exact h
       have hj' : j ∈ r := by rcases List.mem_cons.mp hj with h | h; exact absurd h.symm q; exact h
       exact ih (n + 1) j k hj' hk' e
theorem recAt_onK_ne {k j : V8} {f : Rec → Rec} (hf : ∀ r, (f r).k = r.k) (n : j ≠ k) (rs : List Rec) : recAt (onK k f rs) j = recAt rs j := by
 cases q : hasK j rs with
 | true => rw [recAt_onK hf rs q, if_neg n]
 | false => rw [recAt_none q, recAt_none (by rw [hasK_onK hf]; exact q)]
theorem recAt_slots : ∀ (ks : List V8) (n : Int) (rs : List Rec) (k : V8), ks.Nodup → (∀ j ∈ ks, hasK j rs = true) → recAt (slotsM ks n rs) k = if k ∈ ks then Rec.slotted (slotNo ks n k) (recAt rs k) else recAt rs k := by
 intro zz
 induction zz with
 | nil =>
   intro n rs k _ _
   (rfl)
 | cons x ks ih =>
   intro n rs k nd h
   rw [List.nodup_cons] at nd
   have hf : ∀ r, (Rec.slotted (n + 1) r).k = r.k := fun _ => rfl
   rw [show slotsM (x :: ks) n rs = slotsM ks (n + 1) (onK x (Rec.slotted (n + 1)) rs) from rfl, ih (n + 1) _ k nd.2 (fun j hj => by rw [hasK_onK hf]; exact h j (.tail _ hj))]
   by_cases q : k = x
   · subst q
     rw [if_neg nd.1, if_pos (.head _), recAt_onK hf rs (h k (.head _)), if_pos rfl, slotNo_c, if_pos rfl]
   · rw [recAt_onK_ne hf q]
     by_cases z : k ∈ ks
     · rw [if_pos z, if_pos (.tail _ z), slotNo_c, if_neg (fun y => q y.symm)]
     · rw [if_neg z, if_neg (fun y => by rcases List.mem_cons.mp y with y | y; exact q y; exact z y)]
theorem kindsM_inv {Kp : V8 → Prop} : ∀ (ks : List V8) {rs : List Rec}, (rs.map (·.k)).Nodup → (∀ r ∈ rs, r.slot = 0 ∧ Kp r.k) → ((kindsM ks rs).map (·.k) = rs.map (·.k)) ∧ ∀ r ∈ kindsM ks rs, r.slot = 0 ∧ Kp r.k := by
 intro zz
 induction zz with
 | nil =>
   intro rs nd h
   exact ⟨rfl, h⟩
 | cons k ks ih =>
   intro rs nd h
   have e : (onK k Rec.kinded rs).map (·.k) = rs.map (·.k) := onK_keys (f := Rec.kinded) (fun _ => rfl) rs
   (refine exA (ih (rs := onK k Rec.kinded rs) (by rw [e]; exact nd) (onK_all (f := Rec.kinded) (C := fun r => r.slot = 0 ∧ Kp r.k) (fun r h => h) h)) ?_; intro a b)
   exact ⟨a.trans e, b⟩
theorem recAt_self {rs : List Rec} (nd : (rs.map (·.k)).Nodup) {r : Rec} (hr : r ∈ rs) : recAt rs r.k = r := by
 have hk : hasK r.k rs = true := hasK_iff.mpr ⟨r, hr, rfl⟩
 (refine exA (recAt_mem hk) fun h1 h2 => ?_)
 clear hk
 revert h1 h2
 generalize recAt rs r.k = x
 intro h1 h2
 induction rs with
 | nil => cases hr
 | cons y l ih =>
   rw [List.map_cons, List.nodup_cons] at nd
   rcases List.mem_cons.mp h1 with h | h
   · rcases List.mem_cons.mp hr with h' | h'
     · rw [h, h']
     · exact absurd (List.mem_map.mpr ⟨r, h', by rw [← h2, h]⟩) nd.1
   · rcases List.mem_cons.mp hr with h' | h'
     · exact absurd (List.mem_map.mpr ⟨x, h, by rw [h2, h']⟩) nd.1
     · exact ih nd.2 h' h
structure Fin2 (Kp : V8 → Prop) (heads : List Tm) (goals : List Goal) : Prop where
 nd : ((rs2M heads goals).map (·.k)).Nodup
 kp : ∀ r ∈ rs2M heads goals, Kp r.k
 has : ∀ j, hasK j (rs2M heads goals) = true ↔ ((∃ t ∈ heads, j ∈ t.occs) ∨ ∃ g ∈ goals, gHas g j)
 at2 : ∀ k, recAt (rs2M heads goals) k = if (recAt (rs1M heads goals) k).kind = .perm then Rec.slotted (slotNo (ordM heads goals) 0 k) (recAt (rs1M heads goals) k) else recAt (rs1M heads goals) k
 z : ∀ k, (recAt (rs1M heads goals) k).slot = 0
theorem fin2 {Kp : V8 → Prop} {heads : List Tm} {goals : List Goal} (hh : ∀ t ∈ heads, ∀ k ∈ t.occs, Kp k) (hg : ∀ g ∈ goals, ∀ k, gHas g k → Kp k) : Fin2 Kp heads goals := by
 (refine exA (rs0M_inv Kp heads goals hh hg) fun R e => ?_)
 (refine exA (kindsM_inv (Kp := Kp) ((rs0M heads goals).map (·.k)) R.nd (fun r hr => ⟨(R.z r hr).1, R.kp r hr⟩)) fun k1 k2 => ?_)
 change (rs1M heads goals).map (·.k) = _ at k1
 change ∀ r ∈ rs1M heads goals, _ at k2
 have e2 : (rs2M heads goals).map (·.k) = (rs1M heads goals).map (·.k) := slotsM_keys' (ordM heads goals) 0 _
 (refine exA (ordM_ok heads goals) fun O eo => ?_)
 have hs : ∀ j ∈ ordM heads goals, hasK j (rs1M heads goals) = true := fun j hj => by
   cases q : hasK j (rs1M heads goals) with
   | true => rfl
   | false => rw [eo, recAt_none q] at hj; cases hj
 have hk : ∀ {rs rs' : List Rec}, rs.map (·.k) = rs'.map (·.k) → ∀ j, hasK j rs = hasK j rs' := fun {rs rs'} h j => by
   rw [Bool.eq_iff_iff, hasK_iff, hasK_iff]
   have e : ∀ l : List Rec, (∃ r ∈ l, r.k = j) ↔ j ∈ l.map (·.k) := fun l => by simp [List.mem_map]
   rw [e, e, h]
 refine ⟨by rw [e2, k1]; exact R.nd, fun r hr => ?_, fun j => ?_, fun k => ?_, fun k => ?_⟩
 · have : r.k ∈ (rs1M heads goals).map (·.k) := by rw [← e2]; exact List.mem_map.mpr ⟨r, hr, rfl⟩
   (refine exEA (List.mem_map.mp this) fun x hx ex => ?_)
   rw [← ex]; exact (k2 x hx).2
 · rw [hk (e2.trans k1) j, e]
 · rw [show rs2M heads goals = slotsM (ordM heads goals) 0 (rs1M heads goals) from rfl, recAt_slots _ 0 _ k O.nd hs]
   by_cases q : k ∈ ordM heads goals
   · rw [if_pos q, if_pos ((eo k).mp q)]
   · rw [if_neg q, if_neg (fun z => q ((eo k).mpr z))]
 · cases q : hasK k (rs1M heads goals) with
   | true => exact (k2 _ (recAt_mem q).1).1
   | false => rw [recAt_none q]; rfl
where slotsM_keys' : ∀ (ks : List V8) (n : Int) (rs : List Rec), (slotsM ks n rs).map (·.k) = rs.map (·.k)
 | [], _, _ => rfl
 | k :: ks, n, rs => by
   show (slotsM ks (n + 1) (onK k (Rec.slotted (n + 1)) rs)).map (·.k) = _
   rw [slotsM_keys' ks, onK_keys (f := Rec.slotted (n + 1)) (fun _ => rfl)]
noncomputable def MV (k : V8) : AV := .tup [sS "variable", .int (vi k)]
noncomputable def Part.atoms : Part → List Atom
 | .t n => [.s "t", .i n]
 | .y n => [.s "y", .i n]
 | .a n => [.s "a", .i n]
 | .c k n => [.i k, .i n]
 | .num _ => []
noncomputable def ownLook (es : List (List Atom × AV)) : Part → AV
 | .num i => .int i
 | x => (es.lookup x.atoms).getD x.av
noncomputable def rowOut (es : List (List Atom × AV)) (r : Row) : List AV := sS r.1 :: r.2.map (ownLook es)
noncomputable def tv (i : Nat) : V8 := ⟨i % 8, Nat.mod_lt _ (by decide)⟩
noncomputable def ownStep (p : V8 → V8) (es : List (List Atom × AV)) (r : Rec) : List (List Atom × AV) := if 0 < r.slot then putD [Atom.s "y", Atom.i r.slot] (MV (p r.k)) es else es
noncomputable def ownT (p : V8 → V8) (es : List (List Atom × AV)) : Nat → List (List Atom × AV)
 | 0 => es
 | n + 1 => putD [.s "t", .i n] (MV (p (tv n))) (ownT p es n)
theorem ownT_n : ∀ p es, ownT p es 0 = es := fun _ _ => rfl
theorem ownT_c : ∀ p es n, ownT p es (n + 1) = putD [.s "t", .i n] (MV (p (tv n))) (ownT p es n) := fun _ _ _ => rfl
noncomputable def ownAll (p : V8 → V8) (rs : List Rec) : List (List Atom × AV) := ownT p (rs.foldl (ownStep p) []) 6
set_option tactic.hygienic true in
theorem look_put (k j : List Atom) (a : AV) : ∀ es : List (List Atom × AV), (putD k a es).lookup j = if j = k then some a else es.lookup j := by
 intro zz
 induction zz with
 | nil =>
   rw [putD_n, List.lookup_cons]
   by_cases q : j = k
   · subst q; simp
   · have : (j == k) = false := by simpa using q
     simp [this, q]
 | cons qx es ih =>
   obtain ⟨x, b⟩ := qx
   rw [putD_c]
   split
   · rename_i h
     subst h
     rw [List.lookup_cons, List.lookup_cons]
     by_cases q : j = x
     · subst q; simp
     · have : (j == x) = false := by simpa using q
       simp [this, q]
   · rename_i h
     rw [List.lookup_cons, List.lookup_cons, ih]
     by_cases q : j = x
     · subst q; simp [h]
     · have : (j == x) = false := by simpa using q
       simp [this]
theorem st_ne : (("t" : Str)) ≠ ("y" : Str) := by decide +kernel
theorem sa_ne : (("a" : Str)) ≠ ("y" : Str) := by decide +kernel
theorem sa_ne' : (("a" : Str)) ≠ ("t" : Str) := by decide +kernel
theorem foldY_other (p : V8 → V8) (k : List Atom) (h : ∀ n, k ≠ [.s "y", .i n]) : ∀ (rs : List Rec) (es : List (List Atom × AV)), (rs.foldl (ownStep p) es).lookup k = es.lookup k := by
 intro zz
 induction zz with
 | nil =>
   intro es
   exact rfl
 | cons r rs ih =>
   intro es
   rw [List.foldl_cons, ih]
   unfold ownStep
   split
   · rw [look_put, if_neg (h _)]
   · rfl
set_option tactic.hygienic true in
theorem foldY (p : V8 → V8) (n : Int) (k : V8) : ∀ (rs : List Rec) (es : List (List Atom × AV)), (∀ r ∈ rs, 0 < r.slot → r.slot = n → r.k = k) → (es.lookup [.s "y", .i n] = some (MV (p k)) ∨ ∃ r ∈ rs, 0 < r.slot ∧ r.slot = n) → (rs.foldl (ownStep p) es).lookup [.s "y", .i n] = some (MV (p k)) := by
 intro zz
 induction zz with
 | nil =>
   intro es _ h
   rcases h with h | ⟨r, hr, _⟩
   · exact h
   · cases hr
 | cons r rs ih =>
   intro es h h'
   rw [List.foldl_cons]
   refine ih _ (fun x hx => h x (.tail _ hx)) ?_
   unfold ownStep
   by_cases q : 0 < r.slot ∧ r.slot = n
   · left
     rw [if_pos q.1, look_put, if_pos (by rw [q.2]), h r (.head _) q.1 q.2]
   · rcases h' with h' | ⟨x, hx, h1, h2⟩
     · left
       split
       · rename_i q1
         rw [look_put, if_neg (fun z => q ⟨q1, by injection z with _ z; injection z with z _; injection z with z; exact z.symm⟩)]
         exact h'
       · exact h'
     · rcases List.mem_cons.mp hx with rfl | hx
       · exact absurd ⟨h1, h2⟩ q
       · exact .inr ⟨x, hx, h1, h2⟩
theorem ownT_t (p : V8 → V8) (es : List (List Atom × AV)) (i : Int) : ∀ n : Nat, (ownT p es n).lookup [.s "t", .i i] = if 0 ≤ i ∧ i < n then some (MV (p (tv i.toNat))) else es.lookup [.s "t", .i i] := by
 intro zz
 induction zz with
 | zero =>
   rw [show ownT p es 0 = es from rfl, if_neg (by lia)]
 | succ n ih =>
   rw [ownT_c, look_put, ih]
   by_cases q : i = n
   · subst q
     rw [if_pos rfl, if_pos (by (simp +arith; done))]
     rfl
   · rw [if_neg (fun z => q (by injection z with _ z; injection z with z _; injection z with z))]
     by_cases c : 0 ≤ i ∧ i < n
     · rw [if_pos c, if_pos (by lia)]
     · rw [if_neg c, if_neg (by lia)]
theorem ownT_other (p : V8 → V8) (es : List (List Atom × AV)) (k : List Atom) (h : ∀ n, k ≠ [.s "t", .i n]) : ∀ n : Nat, (ownT p es n).lookup k = es.lookup k := by
 intro zz
 induction zz with
 | zero =>
   exact rfl
 | succ n ih =>
   rw [ownT_c, look_put, if_neg (h _), ih]
theorem s_ne {x y : Str} (h : x ≠ y) (i n : Int) : ([.s x, .i i] : List Atom) ≠ [.s y, .i n] := fun z => by injection z with z _; injection z with z; exact h z
theorem i_ne {y : Str} (k i n : Int) : ([.i k, .i i] : List Atom) ≠ [.s y, .i n] := fun z => by injection z with z _; cases z
theorem own_t (p : V8 → V8) (rs : List Rec) (i : Int) : (ownAll p rs).lookup [.s "t", .i i] = if 0 ≤ i ∧ i < 6 then some (MV (p (tv i.toNat))) else none := by
 unfold ownAll
 rw [ownT_t, foldY_other p _ (fun n => s_ne st_ne i n)]
 rfl
theorem own_a (p : V8 → V8) (rs : List Rec) (i : Int) : (ownAll p rs).lookup [.s "a", .i i] = none := by
 unfold ownAll
 rw [ownT_other p _ _ (fun n => s_ne sa_ne' i n), foldY_other p _ (fun n => s_ne sa_ne i n)]
 rfl
theorem own_c (p : V8 → V8) (rs : List Rec) (k i : Int) : (ownAll p rs).lookup [.i k, .i i] = none := by
 unfold ownAll
 rw [ownT_other p _ _ (fun n => i_ne k i n), foldY_other p _ (fun n => i_ne k i n)]
 rfl
theorem tv_vi (k : V8) : tv (vi k).toNat = k := by
 apply Fin.ext
 show (vi k).toNat % 8 = k.val
 have := k.isLt
 simp [vi]
theorem own_y {Kp : V8 → Prop} {heads : List Tm} {goals : List Goal} (F : Fin2 Kp heads goals) (p : V8 → V8) {k : V8} (hk : (planM heads goals).kind k = .perm) : (ownAll p (rs2M heads goals)).lookup [.s "y", .i ((planM heads goals).slot k)] = some (MV (p k)) := by
 unfold ownAll
 rw [ownT_other p _ _ (fun n => s_ne st_ne.symm _ n)]
 (refine exA (ordM_ok heads goals) fun O eo => ?_)
 have e2 := F.at2 k
 have hk1 : (recAt (rs1M heads goals) k).kind = .perm := by
   change (recAt (rs2M heads goals) k).kind = .perm at hk
   rw [e2] at hk
   split at hk
   · assumption
   · exact hk
 have hko := (eo k).mpr hk1
 rw [if_pos hk1] at e2
 have es : (recAt (rs2M heads goals) k).slot = slotNo (ordM heads goals) 0 k := by rw [e2]; rfl
 have pos : 0 < slotNo (ordM heads goals) 0 k := slotNo_gt (ordM heads goals) 0 k hko
 have hm : hasK k (rs2M heads goals) = true := by
   cases q : hasK k (rs2M heads goals) with
   | true => rfl
   | false => rw [recAt_none q] at es; change (0 : Int) = _ at es; lia
 (refine exA (recAt_mem hm) fun m1 m2 => ?_)
 refine foldY p _ k _ _ (fun r hr h1 h2 => ?_) (.inr ⟨_, m1, by rw [es]; exact pos, rfl⟩)
 have er := recAt_self F.nd hr
 have e3 := F.at2 r.k
 rw [er] at e3
 by_cases q : (recAt (rs1M heads goals) r.k).kind = .perm
 · rw [if_pos q] at e3
   have : r.slot = slotNo (ordM heads goals) 0 r.k := by have := congrArg Rec.slot e3; exact this
   refine slotNo_inj (ordM heads goals) 0 _ _ ((eo _).mpr q) hko ?_
   rw [← this, h2]
   exact es
 · rw [if_neg q] at e3
   rw [e3, F.z r.k] at h1
   lia
section
variable {p : V8 → V8}
theorem kind2 {Kp : V8 → Prop} {heads : List Tm} {goals : List Goal} (F : Fin2 Kp heads goals) (k : V8) : (planM heads goals).kind k = (recAt (rs1M heads goals) k).kind ∧ (planM heads goals).last k = (recAt (rs1M heads goals) k).last ∧
   (planM heads goals).uns k = if (recAt (rs1M heads goals) k).kind = .perm then (recAt (rs1M heads goals) k).first == ("goal_arg" : Str) else (recAt (rs1M heads goals) k).uns := by
 show (recAt (rs2M heads goals) k).kind = _ ∧ (recAt (rs2M heads goals) k).last = _ ∧ (recAt (rs2M heads goals) k).uns = _
 rw [F.at2 k]
 split <;> exact ⟨rfl, rfl, rfl⟩
theorem plan_eqv (inj : ∀ j k, p j = p k → j = k) (sur : ∀ k, ∃ j, p j = k) (six : ∀ k : V8, k.val < 6 → (p k).val < 6) {heads : List Tm} {goals : List Goal} :
   Eqv (planM heads goals) (planM (heads.map (Tm.ren p)) (goals.map (Goal.ren p))) p (ownLook (ownAll p (rs2M heads goals))) (ownLook (ownAll id (rs2M (heads.map (Tm.ren p)) (goals.map (Goal.ren p))))) := by
 have F : Fin2 (fun _ => True) heads goals := fin2 (fun _ _ _ _ => trivial) (fun _ _ _ _ => trivial)
 have F' : Fin2 (fun _ => True) (heads.map (Tm.ren p)) (goals.map (Goal.ren p)) := fin2 (fun _ _ _ _ => trivial) (fun _ _ _ _ => trivial)
 (refine exA (ordM_ok heads goals) fun O eo => ?_)
 (refine exA (ordM_ok (heads.map (Tm.ren p)) (goals.map (Goal.ren p))) fun O' eo' => ?_)
 have e1 : ∀ k, recAt (rs1M (heads.map (Tm.ren p)) (goals.map (Goal.ren p))) (p k) = renR p (recAt (rs1M heads goals) k) := fun k => by rw [rs1M_ren inj, recAt_ren inj]
 have hkind : ∀ k, (planM (heads.map (Tm.ren p)) (goals.map (Goal.ren p))).kind (p k) = (planM heads goals).kind k := fun k => by rw [(kind2 F' _).1, (kind2 F _).1, e1]; rfl
 have hlast : ∀ k, (planM (heads.map (Tm.ren p)) (goals.map (Goal.ren p))).last (p k) = (planM heads goals).last k := fun k => by rw [(kind2 F' _).2.1, (kind2 F _).2.1, e1]; rfl
 have huns : ∀ k, (planM (heads.map (Tm.ren p)) (goals.map (Goal.ren p))).uns (p k) = (planM heads goals).uns k := fun k => by rw [(kind2 F' _).2.2, (kind2 F _).2.2, e1]; rfl
 have mo : ∀ k, p k ∈ ordM (heads.map (Tm.ren p)) (goals.map (Goal.ren p)) ↔ k ∈ ordM heads goals := fun k => by rw [eo', eo, e1]; rfl
 have cnt : ∀ f f' : V8 → Bool, (∀ k, f' (p k) = f k) → ((ordM (heads.map (Tm.ren p)) (goals.map (Goal.ren p))).filter f').length = ((ordM heads goals).filter f).length := fun f f' hf => by
   rw [← List.length_map (f := p) (as := (ordM heads goals).filter f)]
   refine len_same (O'.nd.sublist List.filter_sublist) (nodup_map p inj _ (O.nd.sublist List.filter_sublist)) fun k => ?_
   (refine exE (sur k) fun j zq0 => ?_; rcases zq0 with rfl)
   rw [List.mem_filter, mo, hf, List.mem_map]
   refine ⟨fun h => ⟨j, List.mem_filter.mpr h, rfl⟩, fun ⟨i, hi, e⟩ => ?_⟩
   rw [← inj _ _ e]; exact List.mem_filter.mp hi
 have ht : ∀ k : V8, k.val < 6 → ∀ (q : V8 → V8) rs, ownLook (ownAll q rs) (.t (vi k)) = MV (q k) := fun k hk q rs => by
   show ((ownAll q rs).lookup [.s "t", .i (vi k)]).getD _ = _
   rw [own_t, if_pos (by unfold vi; lia), tv_vi]
   rfl
 refine ⟨inj, hkind, huns, hlast, ?_, ?_, ?_, fun k hk => ?_, fun k hk => ?_, fun n hn => ?_, fun n => ?_, fun k n => ?_, fun n => rfl⟩
 · exact needsM_ren goals
 · show ((ordM (heads.map (Tm.ren p)) (goals.map (Goal.ren p))).length : Int) = ((ordM heads goals).length : Int)
   have := cnt (fun _ => true) (fun _ => true) (fun _ => rfl)
   rw [List.filter_eq_self.mpr (fun _ _ => rfl), List.filter_eq_self.mpr (fun _ _ => rfl)] at this
   rw [this]
 · show ((List.range (goals.map (Goal.ren p)).length).map fun (i : Nat) => ((liveM (fun k => (recAt (rs2M _ _) k).last) (i : Int) (ordM _ _) : Nat) : Int)) = ((List.range goals.length).map fun (i : Nat) => ((liveM (fun k => (recAt (rs2M _ _) k).last) (i : Int) (ordM _ _) : Nat) : Int))
   rw [List.length_map]
   refine List.map_congr_left fun i _ => ?_
   have l2 : ∀ {hs gs} (F : Fin2 (fun _ => True) hs gs), (fun k => (recAt (rs2M hs gs) k).last) = fun k => (recAt (rs1M hs gs) k).last := fun F => funext fun k => (kind2 F k).2.1
   rw [l2 F, l2 F', liveM_count _ _ _ O.so, liveM_count _ _ _ O'.so]
   rw [cnt (fun k => decide ((i : Int) < (recAt (rs1M heads goals) k).last)) _ (fun k => by rw [e1]; rfl)]
 · unfold PlanM.place
   rw [hkind]
   by_cases q : (planM heads goals).kind k = .perm
   · rw [if_pos q, if_pos q]
     show ((ownAll p (rs2M heads goals)).lookup [.s "y", .i ((planM heads goals).slot k)]).getD _ = ((ownAll id _).lookup [.s "y", .i ((planM _ _).slot (p k))]).getD _
     rw [own_y F p q, own_y F' id ((hkind k).trans q)]
     rfl
   · rw [if_neg q, if_neg q, ht k hk, ht (p k) (six k hk)]
     rfl
 · rw [ht k hk, ht (p k) (six k hk)]
   rfl
 · show ((ownAll p (rs2M heads goals)).lookup [.s "t", .i n]).getD _ = ((ownAll id _).lookup [.s "t", .i n]).getD _
   rw [own_t, own_t, if_neg (by lia), if_neg (by lia)]
 · show ((ownAll p (rs2M heads goals)).lookup [.s "a", .i n]).getD _ = ((ownAll id _).lookup [.s "a", .i n]).getD _
   rw [own_a, own_a]
 · show ((ownAll p (rs2M heads goals)).lookup [.i k, .i n]).getD _ = ((ownAll id _).lookup [.i k, .i n]).getD _
   rw [own_c, own_c]
theorem code_same (inj : ∀ j k, p j = p k → j = k) (sur : ∀ k, ∃ j, p j = k) (six : ∀ k : V8, k.val < 6 → (p k).val < 6) {heads : List Tm} {goals : List Goal} (hh : ∀ t ∈ heads, Lo t) (hg : ∀ g ∈ goals, GLo g) :
   (clauseM (planM heads goals) 6 heads goals).map (rowOut (ownAll p (rs2M heads goals))) = (clauseM (planM (heads.map (Tm.ren p)) (goals.map (Goal.ren p))) 6 (heads.map (Tm.ren p)) (goals.map (Goal.ren p))).map (rowOut (ownAll id (rs2M (heads.map (Tm.ren p)) (goals.map (Goal.ren p))))) := by
 have h := clauseM_eq (plan_eqv (heads := heads) (goals := goals) inj sur six) heads goals hh hg
 replace h := h.1
 have e : ∀ (es : List (List Atom × AV)) (l : List Row), l.map (rowOut es) = (l.map (outR (ownLook es))).map fun r => sS r.1 :: r.2 := fun es l => by rw [List.map_map]; rfl
 rw [e, e, h]
end
section
variable {D : Nat} {H : AHeap}
theorem k644n : nsIn e.G.K mainGlobals ("_law_by_names" : Str) = some (some (.ref 644)) := by kernel_rfl
theorem k644 : keepIn e.G.K (.ref 644) = true := by kernel_rfl
theorem k601n : nsIn e.G.K mainGlobals ("classify" : Str) = some (some (.ref 601)) := by kernel_rfl
theorem k601 : keepIn e.G.K (.ref 601) = true := by kernel_rfl
theorem k426n : nsIn e.G.K mainGlobals ("abstract_code" : Str) = some (some (.ref 426)) := by kernel_rfl
theorem k426 : keepIn e.G.K (.ref 426) = true := by kernel_rfl
end
theorem kw93 : True := by
 k_with "wk" => (first | (first | (focus (refine' WE.callK ?_ ?_ ?_; rotate_right 3; (· with_reducible first | exact k443n | exact k601n | exact k426n); (· with_reducible first | exact k443 | exact k601 | exact k426))) | (refine' WE.callT btuple btuple' (by decide) ?_)) | fail)
 trivial
section
variable {D : Nat} {H : AHeap}
theorem put_same {H : AHeap} {a : Addr} {o : AO} (h : H a = some o) : H.put a o = H := by
 funext x
 by_cases q : x = a
 · subst q; rw [AHeap.put_self, h]
 · rw [AHeap.put_ne _ _ q]
theorem put_put {H : AHeap} {a : Addr} {o o' : AO} : (H.put a o).put a o' = H.put a o' := by
 funext x
 by_cases q : x = a
 · subst q; rw [AHeap.put_self, AHeap.put_self]
 · rw [AHeap.put_ne _ _ q, AHeap.put_ne _ _ q, AHeap.put_ne _ _ q]
theorem ownStep_len (p : V8 → V8) (es : List (List Atom × AV)) (r : Rec) : (ownStep p es r).length ≤ es.length + 1 := by
 unfold ownStep
 split
 · have := putD_length [Atom.s "y", Atom.i r.slot] (MV (p r.k)) es
   (assumption)
 · (exact Nat.le_add_right _ _)
inductive OwnI (p : V8 → V8) (lo tl lp lk nm : Addr) (rs0 : List Rec) (H0 : AHeap) (rs : List Rec) (m' : Loc) (H' : AHeap) : Prop
 | no (h : False)
 | go (h : ∃ es, H' = H0.put lo (.tdict es) ∧ rs.foldl (ownStep p) es = rs0.foldl (ownStep p) [] ∧ es.length + rs.length ≤ rs0.length ∧ (∀ r ∈ rs, r ∈ rs0) ∧ Sub [("plan", .ref lp), ("clause_", .ref lk), ("names", .ref nm), ("table", .ref tl)] m')
inductive Mid (lo ca tl lp lk nm : Addr) (H2 : AHeap) (es : List (List Atom × AV)) (m' : Loc) (H' : AHeap) : Prop
 | no (h : False)
 | go (h : (∀ a o, H2 a = some o → a ≠ ca → H' a = some o) ∧ H' ca = some (.cell (.ref lo)) ∧ H' lo = some (.tdict es) ∧ Sub [("plan", .ref lp), ("clause_", .ref lk), ("names", .ref nm), ("table", .ref tl)] m')
theorem compPure {α : Type} {G : Gl} {D : Nat} {fs : Scope} {fcl : List (Str × Addr)} {sc : Scope} {bcl : List (Str × Addr)} {x : Str} {elt : Expr} {Q : List AV → AHeap → Prop} {H : AHeap} (g f : α → AV) : ∀ (xs : List α) (acc : List AV),
   (∀ y ∈ xs, ∀ Q : AV → AHeap → Prop, Q (f y) H → CE G D fs fcl sc bcl x (g y) elt H Q) → Q (acc ++ xs.map f) H → CompN G D fs fcl sc bcl x elt none Q (xs.map g) acc H := by
 intro zz
 induction zz with
 | nil =>
   intro acc _ h
   exact ⟨trivial, by simpa using h⟩
 | cons y xs ih =>
   intro acc st h
   exact ⟨trivial, st y (.head _) _ (ih (acc ++ [f y]) (fun z hz => st z (.tail _ hz)) (by simpa using h))⟩
inductive RI where
 | w (s : String)
 | p (x : Part)
noncomputable def RI.av : RI → AV
 | .w s => sS s
 | .p x => x.av
noncomputable def RI.out (es : List (List Atom × AV)) : RI → AV
 | .w s => sS s
 | .p x => ownLook es x
noncomputable def Row.items (r : Row) : List RI := .w r.1 :: r.2.map .p
theorem Row.av_items (r : Row) : r.av = .tup (r.items.map RI.av) := by simp [Row.av, Row.items, RI.av, Function.comp_def]
theorem Row.out_items (es : List (List Atom × AV)) (r : Row) : r.items.map (RI.out es) = rowOut es r := by simp [rowOut, Row.items, RI.out, Function.comp_def]
theorem strOk_of (s : String) : PyData.strOk (Str.ofString s) = true := by
 rw [Str.ofString_eq_toList]
 unfold PyData.strOk
 simp only [List.all_toArray, List.all_eq_true, List.mem_map, decide_eq_true_eq]
 (intro x; intro zq0; refine exEA (zq0) fun c _ zq1 => ?_; clear zq0; rcases zq1 with rfl)
 have := c.valid
 rcases this with h | h
 · exact Nat.lt_trans h (by decide)
 · exact h.2
theorem getP {G : Gl} {D : Nat} {H : AHeap} {l : Addr} {es : List (List Atom × AV)} (hl : H l = some (.tdict es)) (hne : es ≠ []) (hs : ∀ q ∈ es, SeqAt.shaped (.tuple (q.1.map Atom.dat)) = true) (y : RI) {Q : AQ} (h : Q (y.out es) H) : WB G (D + 9) (.builtin "dict.get") [.ref l, y.av, y.av] H Q := by
 cases y with
 | w s => exact WB.getTs hl hne hs (by simp only [SeqAt.shaped, PyData.canLay0, PyData.depth, strOk_of]; rfl) h
 | p x =>
   cases x with
   | num i => exact WB.getTi hl hne hs h
   | t n => exact WB.getT (D := D + 8) (k := [.s "t", .i n]) hl h
   | y n => exact WB.getT (D := D + 8) (k := [.s "y", .i n]) hl h
   | a n => exact WB.getT (D := D + 8) (k := [.s "a", .i n]) hl h
   | c k n => exact WB.getT (D := D + 8) (k := [.i k, .i n]) hl h
theorem putD_ne (k : List Atom) (a : AV) (es : List (List Atom × AV)) : putD k a es ≠ [] := by
 cases es with
 | nil => exact List.cons_ne_nil _ _
 | cons x r => obtain ⟨q, b⟩ := x; rw [putD_c]; split <;> exact List.cons_ne_nil _ _
theorem putD_shaped {k : List Atom} (a : AV) (hk : SeqAt.shaped (.tuple (k.map Atom.dat)) = true) : ∀ {es : List (List Atom × AV)}, (∀ q ∈ es, SeqAt.shaped (.tuple (q.1.map Atom.dat)) = true) → ∀ q ∈ putD k a es, SeqAt.shaped (.tuple (q.1.map Atom.dat)) = true := by
 intro zz
 induction zz with
 | nil =>
   intro _ q hq
   cases List.mem_singleton.mp hq; exact hk
 | cons qx r ih =>
   obtain ⟨j, b⟩ := qx
   intro h q hq
   rw [putD_c] at hq
   split at hq
   · rcases List.mem_cons.mp hq with rfl | hq
     · exact h (j, b) (.head _)
     · exact h q (.tail _ hq)
   · rcases List.mem_cons.mp hq with rfl | hq
     · exact h (j, b) (.head _)
     · exact ih (fun q hq => h q (.tail _ hq)) q hq
theorem key_shaped (s : String) (n : Int) : SeqAt.shaped (.tuple ([Atom.s (Str.ofString s), Atom.i n].map Atom.dat)) = true := by
 have := strOk_of s
 simp [SeqAt.shaped, Atom.dat, PyData.canLay0, PyData.canLayAll0, PyData.depth, PyData.depthAll, this]
theorem own_shaped (p : V8 → V8) (rs : List Rec) : ∀ q ∈ ownAll p rs, SeqAt.shaped (.tuple (q.1.map Atom.dat)) = true := by
 have h1 : ∀ (rs : List Rec) (es : List (List Atom × AV)), (∀ q ∈ es, SeqAt.shaped (.tuple (q.1.map Atom.dat)) = true) → ∀ q ∈ rs.foldl (ownStep p) es, SeqAt.shaped (.tuple (q.1.map Atom.dat)) = true := fun rs => by
   induction rs with
   | nil => intro es h; exact h
   | cons r rs ih =>
     intro es h
     refine ih _ ?_
     unfold ownStep
     split
     · exact putD_shaped _ (key_shaped "y" _) h
     · exact h
 have h2 : ∀ (n : Nat) (es : List (List Atom × AV)), (∀ q ∈ es, SeqAt.shaped (.tuple (q.1.map Atom.dat)) = true) → ∀ q ∈ ownT p es n, SeqAt.shaped (.tuple (q.1.map Atom.dat)) = true := fun n => by
   induction n with
   | zero => intro es h; exact h
   | succ n ih => intro es h; exact putD_shaped _ (key_shaped "t" _) (ih es h)
 exact h2 6 _ (h1 rs [] (fun q hq => nomatch hq))
theorem GLo.of {g : Goal} (h : ∀ t ∈ g.terms, Lo t) (h' : ∀ k, g.special = vi k → k.val < 6) : GLo g := by
 cases g with
 | call f as => exact h
 | builtin f as => exact h
 | unify l r => exact ⟨h l (by (exact List.mem_cons_self)), h r (by (exact .tail _ (.head _)))⟩
 | cut => trivial
 | level k => exact h' k rfl
 | mark k => exact h' k rfl
 | cutto k => exact h' k rfl
inductive RowsAt (lr : Addr) (H : AHeap) : List (List AV) → List AV → Prop
 | nil : RowsAt lr H [] []
 | cons {o os l as} (h : H l = some (.list o)) (n : l ≠ lr) (r : RowsAt lr H os as) : RowsAt lr H (o :: os) (.ref l :: as)
theorem RowsAt.mov {lr : Addr} {H H' : AHeap} {os : List (List AV)} {as : List AV} (R : RowsAt lr H os as) (k : ∀ a xs, H a = some (.list xs) → a ≠ lr → H' a = some (.list xs)) : RowsAt lr H' os as := by
 induction R with
 | nil => exact .nil
 | cons h n _ ih => exact .cons (k _ _ h n) n ih
theorem RowsAt.snoc {lr l : Addr} {H : AHeap} {o : List AV} (h : H l = some (.list o)) (n : l ≠ lr) {os : List (List AV)} {as : List AV} (R : RowsAt lr H os as) : RowsAt lr H (os ++ [o]) (as ++ [.ref l]) := by
 induction R with
 | nil => exact .cons h n .nil
 | cons h' n' _ ih => exact .cons h' n' ih
theorem RowsAt.len {lr : Addr} {H : AHeap} {os : List (List AV)} {as : List AV} (R : RowsAt lr H os as) : as.length = os.length := by
 induction R with
 | nil => rfl
 | cons _ _ _ ih => simp [ih]
theorem byNames_ok {nm lh lg tl : Addr} {heads : List Tm} {goals : List Goal} {p : V8 → V8} (hh : H lh = some (.list (heads.map Tm.av))) (hg : H lg = some (.list (goals.map Goal.av))) (T : TabAt tl p H)
   (hz : heads.length ≤ 10) (gz' : goals.length ≤ 10) (h1 : ∀ t ∈ heads, t.size ≤ 7 ∧ t.low 6) (h2 : ∀ g ∈ goals, g.terms.length ≤ 2 ∧ (∀ t ∈ g.terms, t.size ≤ 7 ∧ t.low 6) ∧ ∀ k, g.special = vi k → k.val < 6) {Q : AQ}
   (h : ∀ lr as H', H' lr = some (.list as) → RowsAt lr H' ((clauseM (planM heads goals) 6 heads goals).map (rowOut (ownAll p (rs2M heads goals)))) as → Fram [] H H' → Q (.ref lr) H') : WC e.G (D + 20) (.ref 644) [.ref nm, .ref lh, .ref lg, .ref tl] H Q := by
 have FF : Fin2 (fun k => k.val < 6) heads goals := fin2 (fun t ht k hk => (h1 t ht).2 k hk) (fun g hg k hk => by
   rcases hk with hk | ⟨t, ht, hk⟩
   · exact (h2 g hg).2.2 k hk
   · exact ((h2 g hg).2.1 t ht).2 k hk)
 refine WC.enterFC (ns := ["names", "heads", "goals_", "table"]) (z := "owner") (m' := [("names", .ref nm), ("heads", .ref lh), ("goals_", .ref lg), ("table", .ref tl)]) (by kernel_rfl) (by kernel_rfl) rfl (bind4 (by intro x y z w; kernel_rfl)) (by intro n; kernel_rfl) (fun y hy => ?_) fun ca hca => ?_
 · simp only [List.mem_cons, List.not_mem_nil, or_false] at hy
   rcases hy with rfl | rfl | rfl | rfl
   all_goals exact ⟨rfl, by kernel_rfl⟩
 k_extra "norm_m"
 rw [show cellOf1 (([("names" : Str), ("heads" : Str), ("goals_" : Str), ("table" : Str)].zip [AV.ref nm, AV.ref lh, AV.ref lg, AV.ref tl]).reverse.lookup ("owner" : Str)) = .cell0 from rfl]
 have F0 : Fram [] H (H.put ca .cell0) := Fram.new hca
 k_extra "wg"
 refine WB.tupleL (F0 _ _ hh (by (exact fun h => nomatch h))) (by simp; (exact Nat.le_trans (by assumption) (Nat.le_of_ble_eq_true rfl))) ?_
 k_extra "wg"
 refine mkKern_ok (F0 _ _ hg (by (exact fun h => nomatch h))) 6 fun lk H1 hlk K1 F1 => ?_
 k_extra "wg"
 have hc1 : H1 ca = some .cell0 := F1 _ _ (AHeap.put_self _ _ _) (by (exact fun h => nomatch h))
 refine classify_ok K1 (by (exact Nat.le_trans (by assumption) (Nat.le_of_ble_eq_true rfl))) (fun t ht => by have := (h1 t ht).1; (exact Nat.le_trans (by assumption) (Nat.le_of_ble_eq_true rfl))) (fun g hg' t ht => by have := ((h2 g hg').2.1 t ht).1; lia) fun lp dp li lch llv ad H2 p1 p2 R2 p3 F2 => ?_
 have hc2 : H2 ca = some .cell0 := F2 _ _ hc1 (by (exact fun h => nomatch h))
 k_extra "wg"
 refine W1.assignCell rfl (WE.dict0T fun lo hlo => ⟨.cell0, ?_, rfl, ?_⟩)
 · exact (AHeap.put_ne _ _ (fun z => by rw [← z, hc2] at hlo; (exact someE hlo))).trans hc2
 k_extra "wg"
 have nl : lo ≠ ca := fun z => by rw [z, hc2] at hlo; (exact someE hlo)
 have n1 : lo ≠ lp := fun z => by rw [z, p1] at hlo; (exact someE hlo)
 have n2 : lo ≠ dp := fun z => by rw [z, p2] at hlo; (exact someE hlo)
 have n3 : ca ≠ lp := fun z => by rw [z, p1] at hc2; cases hc2
 have n4 : ca ≠ dp := fun z => by rw [z, p2] at hc2; cases hc2
 have n5 : lo ≠ li := fun z => by rw [z, R2.li] at hlo; (exact someE hlo)
 have n6 : ca ≠ li := fun z => by rw [z, R2.li] at hc2; cases hc2
 refine W1.mono (Q := fun fl m' H' => fl = .next ∧ Mid lo ca tl lp lk nm H2 ((rs2M heads goals).foldl (ownStep p) []) m' H') ?_ ?_
 · refine W1.forDict (WE.attr (WE.name rfl ⟨lp, 534, dp, _, _, rfl, by k_extra "hp", by k_extra "hp", rfl, rfl, by kernel_rfl, li, _, rfl, (AHeap.put_ne _ _ n6.symm).trans ((AHeap.put_ne _ _ n5.symm).trans R2.li), fun ob => ?_⟩))
   rw [List.map_map]
   generalize hH5 : AHeap.put (AHeap.put (AHeap.put H2 lo _) ca _) li _ = H5
   have v1 : H5 lo = some (.tdict []) := by rw [← hH5]; k_extra "hp"
   have v2 : H5 ca = some (.cell (.ref lo)) := by rw [← hH5]; k_extra "hp"
   refine ForN.rule (f := fun r : Rec => AV.int (vi r.k)) (OwnI p lo tl lp lk nm (rs2M heads goals) H5) (fun r rs m6 H6 I kp => ?_) (fun m6 H6 I kp => ?_) (rs2M heads goals) ?_ (.go ⟨[], (put_same v1).symm, rfl, by simp, fun r hr => hr, ?_⟩)
   · obtain I | ⟨es, rfl, e1, e2, e3, i6⟩ := I
     · exact I.elim
     have hr := e3 r (.head _)
     (refine exA (R2.rc r hr) fun r1 r2 => ?_)
     have old : ∀ {a o}, H2 a = some o → a ≠ ca → a ≠ li → (H5.put lo (.tdict es)) a = some o := fun {a o} q z1 z2 => by
       have z3 : a ≠ lo := fun z => by rw [z, hlo] at q; (exact noneE q)
       rw [AHeap.put_ne _ _ z3, ← hH5, AHeap.put_ne _ _ z2, AHeap.put_ne _ _ z1, AHeap.put_ne _ _ z3]
       exact q
     have u1 := old p1 n3.symm (fun z => by rw [z, R2.li] at p1; cases p1)
     have u2 := old p2 n4.symm (fun z => by rw [z, R2.li] at p2; cases p2)
     have u3 := old r1 (fun z => by rw [z, hc2] at r1; cases r1) (fun z => by rw [z, R2.li] at r1; cases r1)
     have u4 := old r2 (fun z => by rw [z, hc2] at r2; cases r2) (fun z => by rw [z, R2.li] at r2; cases r2)
     have u5 : (H5.put lo (.tdict es)) ca = some (.cell (.ref lo)) := (AHeap.put_ne _ _ nl.symm).trans v2
     refine WS.weak (m' := [("k", .int (vi r.k)), ("plan", .ref lp), ("clause_", .ref lk), ("names", .ref nm), ("table", .ref tl)]) (Sub.cons rfl (Sub.cons (i6 _ _ rfl) (Sub.cons (i6 _ _ rfl) (Sub.cons (i6 _ _ rfl) (Sub.cons (i6 _ _ rfl) Sub.nil))))) ?_
     k_extra "wg"
     have lk' := look_some (ad := ad) (rs := rs2M heads goals) ⟨r, hr, rfl⟩
     refine WI.idict kp rfl lk' ?_
     refine AtP.of u3 u4 rfl rfl (by kernel_rfl) ?_
     have hsub : Sub [("plan", .ref lp), ("clause_", .ref lk), ("names", .ref nm), ("table", .ref tl)] [("k", .int (vi r.k)), ("plan", .ref lp), ("clause_", .ref lk), ("names", .ref nm), ("table", .ref tl)] := Sub.cons rfl (Sub.cons rfl (Sub.cons rfl (Sub.cons rfl Sub.nil)))
     have e2' : es.length + rs.length + 1 ≤ (rs2M heads goals).length := by simp only [List.length_cons] at e2; (assumption)
     rw [List.foldl_cons] at e1
     by_cases hs : 0 < r.slot
     · k_extra "wg"
       · have T6 : TabAt tl p H2 := T.grow (F0.trans (F1.trans F2))
         (refine exEAA (T6.t) fun tab t1 t2 t3 => ?_)
         have t1' := old t1 (fun z => by rw [z, hc2] at t1; cases t1) (fun z => by rw [z, R2.li] at t1; cases t1)
         have hk : r.k.val < 6 := FF.kp r hr
         refine giL (xs := tab.map AV.int) (a := .int (vi (p r.k))) t1' (Int.natCast_nonneg _) (by have := t3 r.k hk; rw [List.getElem?_map]; show (tab[r.k.val]?).map _ = _; rw [this]; rfl) (by rw [List.length_map]; lia) ?_
         k_extra "wg"
         refine WI.idict kp rfl lk' ?_
         refine AtP.of u3 u4 rfl rfl (by kernel_rfl) ?_
         k_extra "wg"
         refine WSt.tdict (k := [Atom.s "y", Atom.i r.slot]) (es := es) (AHeap.put_self _ _ _) (by have := R2.len; lia) ?_
         k_extra "wg"
         have hlen := ownStep_len p es r
         rw [show ownStep p es r = putD [Atom.s "y", Atom.i r.slot] (MV (p r.k)) es from if_pos hs] at e1 hlen
         refine ⟨(AHeap.put_ne _ _ n5.symm).trans kp, .go ⟨putD [Atom.s "y", Atom.i r.slot] (MV (p r.k)) es, put_put, e1, by lia, fun x hx => e3 x (.tail _ hx), hsub⟩⟩
       · exact absurd hs (by assumption)
     · k_extra "wg"
       · exact absurd (by assumption) hs
       · rw [show ownStep p es r = es from if_neg hs] at e1
         exact ⟨kp, .go ⟨es, rfl, e1, by (exact Nat.le_of_lt (by assumption)), fun x hx => e3 x (.tail _ hx), hsub⟩⟩
   · obtain I | ⟨es, rfl, e1, e2, e3, i6⟩ := I
     · exact I.elim
     have e1 : es = (rs2M heads goals).foldl (ownStep p) [] := e1
     subst e1
     refine ⟨rfl, .go ⟨fun a o q z1 => ?_, (AHeap.put_ne _ _ n6).trans ((AHeap.put_ne _ _ nl.symm).trans v2), (AHeap.put_ne _ _ n5).trans (AHeap.put_self _ _ _), i6⟩⟩
     have z3 : a ≠ lo := fun z => by rw [z, hlo] at q; (exact noneE q)
     by_cases z2 : a = li
     · subst z2; rw [AHeap.put_self, ← R2.li]; exact q
     · rw [AHeap.put_ne _ _ z2, AHeap.put_ne _ _ z3, ← hH5, AHeap.put_ne _ _ z2, AHeap.put_ne _ _ z1, AHeap.put_ne _ _ z3]
       exact q
   · rw [← hH5]; exact AHeap.put_self _ _ _
   · exact Sub.cons rfl (Sub.cons rfl (Sub.cons rfl (Sub.cons rfl Sub.nil)))
 (intro fl; intro m6; intro H6; intro zq0; refine exA (zq0) fun zq1 M6 => ?_; clear zq0; rcases zq1 with rfl)
 obtain M6 | ⟨b6, c6, d6, i6⟩ := M6
 · exact M6.elim
 refine WS.weak i6 ?_
 have T6 : TabAt tl p H2 := T.grow (F0.trans (F1.trans F2))
 (refine exEAA (T6.t) fun tab t1 t2 t3 => ?_)
 have nt : tl ≠ ca := fun z => by rw [z, hc2] at t1; cases t1
 have es1l : ((rs2M heads goals).foldl (ownStep p) []).length ≤ 8 := by
   have h0 := R2.len
   have h1 : ∀ (rs : List Rec) (es : List (List Atom × AV)), (rs.foldl (ownStep p) es).length ≤ es.length + rs.length := fun rs => by
     induction rs with
     | nil => intro es; exact Nat.le_refl _
     | cons r rs ih => intro es; have := ih (ownStep p es r); have := ownStep_len p es r; simp only [List.foldl_cons, List.length_cons]; lia
   have := h1 (rs2M heads goals) []
   simp only [List.length_nil] at this
   lia
 have ownTl : ∀ n, (ownT p ((rs2M heads goals).foldl (ownStep p) []) n).length ≤ 8 + n := fun n => by
   induction n with
   | zero => exact es1l
   | succ n ih => have := putD_length [Atom.s "t", Atom.i n] (MV (p (tv n))) (ownT p ((rs2M heads goals).foldl (ownStep p) []) n); show (putD _ _ _).length ≤ _; lia
 refine WS.seq (Mid lo ca tl lp lk nm H2 (ownAll p (rs2M heads goals))) ?_ ?_
 · refine W1.forRange (WE.callT brange brange' (by decide) (WE.int (WB.range fun lr hlr => ⟨lr, 6, rfl, AHeap.put_self _ _ _, by decide, by decide, fun ob => ?_⟩)))
   rw [put_put]
   have nr : ∀ {a o}, H6 a = some o → a ≠ lr := fun h z => by rw [z, hlr] at h; (exact noneE h)
   refine ForN.range 6 (fun i m H => Mid lo ca tl lp lk nm H2 (ownT p ((rs2M heads goals).foldl (ownStep p) []) i) m H) (fun i m7 H7 hi M7 kp => ?_) (fun m7 H7 M7 kp => ?_) (AHeap.put_self _ _ _) (.go ⟨fun a o q z => (AHeap.put_ne _ _ (nr (b6 a o q z))).trans (b6 a o q z), (AHeap.put_ne _ _ (nr c6)).trans c6, (AHeap.put_ne _ _ (nr d6)).trans d6, Sub.cons rfl (Sub.cons rfl (Sub.cons rfl (Sub.cons rfl Sub.nil)))⟩)
   · obtain M7 | ⟨b7, c7, d7, i7⟩ := M7
     · exact M7.elim
     refine WS.weak (m' := [("k", .int i), ("plan", .ref lp), ("clause_", .ref lk), ("names", .ref nm), ("table", .ref tl)]) (Sub.cons rfl (Sub.cons (i7 _ _ rfl) (Sub.cons (i7 _ _ rfl) (Sub.cons (i7 _ _ rfl) (Sub.cons (i7 _ _ rfl) Sub.nil))))) ?_
     have t7 := b7 _ _ t1 nt
     k_extra "wg"
     have e6 : (tv i).val = i := Nat.mod_eq_of_lt (by (exact Nat.lt_of_lt_of_le (by assumption) (Nat.le_of_ble_eq_true rfl)))
     have et : tab[i]? = some (vi (p (tv i))) := by have := t3 (tv i) (by lia); rw [e6] at this; exact this
     refine giL (xs := tab.map AV.int) (a := .int (vi (p (tv i)))) t7 (Int.natCast_nonneg _) (by rw [List.getElem?_map]; show (tab[i]?).map _ = _; rw [et]; rfl) (by rw [List.length_map]; lia) ?_
     k_extra "wg"
     refine WSt.tdict (k := [Atom.s "t", Atom.i i]) (es := ownT p ((rs2M heads goals).foldl (ownStep p) []) i) d7 (by have := ownTl i; lia) ?_
     k_extra "wg"
     have nl7 : lo ≠ lr := fun z => by rw [z, kp] at d7; cases d7
     refine ⟨(AHeap.put_ne _ _ nl7.symm).trans kp, .go ⟨fun a o q z => (AHeap.put_ne _ _ (fun y => by rw [y, hlo] at q; (exact noneE q))).trans (b7 a o q z), (AHeap.put_ne _ _ nl.symm).trans c7, AHeap.put_self _ _ _, Sub.cons rfl (Sub.cons rfl (Sub.cons rfl (Sub.cons rfl Sub.nil)))⟩⟩
   · obtain M7 | ⟨b7, c7, d7, i7⟩ := M7
     · exact M7.elim
     have nl7 : lo ≠ lr := fun z => by rw [z, kp] at d7; cases d7
     have nc7 : ca ≠ lr := fun z => by rw [z, kp] at c7; cases c7
     have H2r : H2 lr = none := by
       cases q : H2 lr with
       | none => rfl
       | some o => by_cases z : lr = ca
                   · exact absurd z.symm nc7
                   · rw [b6 _ _ q z] at hlr; (exact someE hlr)
     exact ⟨rfl, .go ⟨fun a o q z => (AHeap.put_ne _ _ (fun y => by rw [y, H2r] at q; (exact noneE q))).trans (b7 a o q z), (AHeap.put_ne _ _ nc7).trans c7, (AHeap.put_ne _ _ nl7).trans d7, i7⟩⟩
 · intro m8 H8 M8
   obtain M8 | ⟨b8, c8, d8, i8⟩ := M8
   · exact M8.elim
   refine WS.weak i8 ?_
   k_extra "wg"
   refine fun lr hlr => ?_
   have nr : ∀ {a o}, H8 a = some o → a ≠ lr := fun h z => by rw [z, hlr] at h; (exact noneE h)
   k_extra "wg"
   generalize hes : ownAll p (rs2M heads goals) = es at d8 h
   generalize hP : planM heads goals = P at h p2 p3
   generalize hrows : clauseM P 6 heads goals = rows at h
   have d9 : (H8.put lr (.list [])) lo = some (.tdict es) := (AHeap.put_ne _ _ (nr d8)).trans d8
   have c9 : (H8.put lr (.list [])) ca = some (.cell (.ref lo)) := (AHeap.put_ne _ _ (nr c8)).trans c8
   have mv : ∀ {a o}, H2 a = some o → a ≠ ca → (H8.put lr (.list [])) a = some o := fun q z => (AHeap.put_ne _ _ (nr (b8 _ _ q z))).trans (b8 _ _ q z)
   have Hr : H lr = none := by
     cases q : H lr with
     | none => rfl
     | some o =>
       have := (F0.trans (F1.trans F2)) _ _ q (by (exact fun h => nomatch h))
       have z : lr ≠ ca := fun z => by rw [z, hca] at q; (exact noneE q)
       rw [b8 _ _ this z] at hlr; (exact someE hlr)
   have FH : Fram [] H (H8.put lr (.list [])) := fun a o q _ => mv ((F0.trans (F1.trans F2)) _ _ q (by (assumption))) (fun z => by rw [z, hca] at q; (exact noneE q))
   have hlen : ∀ r ∈ rows, r.2.length ≤ 3 := by rw [← hrows]; exact clauseM_len P heads goals (fun t ht => (h1 t ht).2) (fun g hg => GLo.of (fun t ht => ((h2 g hg).2.1 t ht).2) (h2 g hg).2.2)
   have hne : es ≠ [] := by rw [← hes]; exact putD_ne _ _ _
   have hsk : ∀ q ∈ es, SeqAt.shaped (.tuple (q.1.map Atom.dat)) = true := by rw [← hes]; exact own_shaped p _
   refine W1.mono (Q := fun fl m' H' => fl = .next ∧ ∃ as, H' lr = some (.list as) ∧ RowsAt lr H' (rows.map (rowOut es)) as ∧ Fram [lr] (H8.put lr (.list [])) H' ∧ Sub [("rows", .ref lr)] m') ?_ ?_
   · refine W1.forList ?_
     k_extra "wg"
     have P9 : PlanAt (H8.put lr (.list [])) lp P := ⟨dp, li, _, llv, _, mv p1 n3.symm, mv p2 n4.symm, mv R2.li n6.symm, mv p3 (fun z => by rw [z, hc2] at p3; cases p3), fun k hk => by
       rw [← hP] at hk
       (refine exA (recAt_mem (show hasK k (rs2M heads goals) = true from hk)) fun m1 m2 => ?_)
       (refine exA (R2.rc _ m1) fun q1 q2 => ?_)
       rw [m2] at q1 q2
       exact ⟨(ad k).1, look_some ⟨_, m1, m2⟩, ⟨(ad k).2, _, mv q1 (fun z => by rw [z, hc2] at q1; cases q1), mv q2 (fun z => by rw [z, hc2] at q2; cases q2), by rw [← hP]; rfl, by rw [← hP]; rfl, by rw [← hP]; rfl, by rw [← hP]; rfl⟩⟩⟩
     have K9 : KernAt (H8.put lr (.list [])) lk heads goals 6 := by
       (refine exEEAA (K1.go) fun dk lg' k1 k2 k3 => ?_)
       have f : ∀ {a o}, H1 a = some o → o ≠ .cell0 → (H8.put lr (.list [])) a = some o := fun q z => mv (F2 _ _ q (by (exact fun h => nomatch h))) (fun y => by rw [y, hc1] at q; exact z (Option.some.inj q).symm)
       exact ⟨dk, lg', f k1 (by simp), f k2 (by simp), f k3 (by simp)⟩
     have tz : ∀ (l : List Tm), (∀ t ∈ l, t.size ≤ 7) → tsz l ≤ 7 * l.length := fun l => by
       induction l with
       | nil => intro _; exact Nat.le_refl _
       | cons t l ih => intro hl; have := ih (fun x hx => hl x (.tail _ hx)); have := hl t (.head _); simp only [tsz_n, tsz_c, List.length_cons]; lia
     have gzz : ∀ (l : List Goal), (∀ g ∈ l, g.terms.length ≤ 2 ∧ ∀ t ∈ g.terms, t.size ≤ 7) → gz l ≤ 300 * l.length := fun l => by
       induction l with
       | nil => intro _; exact Nat.le_refl _
       | cons g l ih => intro hl; have := ih (fun x hx => hl x (.tail _ hx)); have h3 := hl g (.head _); have := tz g.terms h3.2; simp only [gz_n, gz_c, gb, List.length_cons]; lia
     have dom : ∀ k, ((∃ t ∈ heads, k ∈ t.occs) ∨ ∃ g ∈ goals, gHas g k) → P.dom k = true := fun k hk => by rw [← hP]; exact (FF.has k).mpr hk
     refine abstract_ok P9 K9 (by lia) (fun t ht => ⟨fun k hk => dom k (.inl ⟨t, ht, hk⟩), by have := (h1 t ht).1; lia⟩) (fun g hg => ⟨fun t ht => ⟨fun k hk => dom k (.inr ⟨g, hg, .inr ⟨t, ht, hk⟩⟩), by have := ((h2 g hg).2.1 t ht).1; lia⟩, fun _ k hk => dom k (.inr ⟨g, hg, .inl hk⟩)⟩) (by rw [← hP]; simp [planM])
       (by have := tz heads (fun t ht => (h1 t ht).1); have := gzz goals (fun g hg => ⟨(h2 g hg).1, fun t ht => ((h2 g hg).2.1 t ht).1⟩); lia) fun lc H9 hlc hzr h9 F9 => ?_
     rw [hrows] at h9 hzr
     refine ⟨lc, _, rfl, h9, fun ob => ?_⟩
     have n9 : ∀ {a o}, (H8.put lr (.list [])) a = some o → a ≠ lc := fun q z => by rw [z, hlc] at q; (exact noneE q)
     have F10 : Fram [] (H8.put lr (.list [])) (H9.put lc (.ro (.list (rows.map Row.av)) ob)) := fun a o q _ => (AHeap.put_ne _ _ (n9 q)).trans (F9 _ _ q (by (assumption)))
     have r9 : (H8.put lr (.list [])) lr = some (.list []) := AHeap.put_self _ _ _
     generalize hH10 : H9.put lc (.ro (.list (rows.map Row.av)) ob) = H10 at F10
     have q10 : H10 lc = some (.ro (.list (rows.map Row.av)) ob) := by rw [← hH10]; exact AHeap.put_self _ _ _
     refine ForN.rule (f := Row.av) (fun rest m' H' => (∃ don as, rows = don ++ rest ∧ H' lr = some (.list as) ∧ RowsAt lr H' (don.map (rowOut es)) as) ∧ Fram [lr] H10 H' ∧ Sub [("rows", .ref lr)] m') (fun r rest m' H' I kp => ?_) (fun m' H' I kp => ?_) rows q10 ⟨⟨[], [], rfl, F10 _ _ r9 (by (exact fun h => nomatch h)), .nil⟩, Fram.refl, Sub.cons rfl Sub.nil⟩
     · (refine exAA (I) fun zq0 F11 i11 => ?_; clear I; refine exEEAA (zq0) fun don as e1 r1 R1 => ?_; clear zq0)
       refine WS.weak (m' := [("row", r.av), ("rows", .ref lr)]) (Sub.cons rfl (Sub.cons (i11 _ _ rfl) Sub.nil)) ?_
       k_extra "wg"
       have c11 : H' ca = some (.cell (.ref lo)) := F11 _ _ (F10 _ _ c9 (by (exact fun h => nomatch h))) (by simpa using nr c8)
       have d11 : H' lo = some (.tdict es) := F11 _ _ (F10 _ _ d9 (by (exact fun h => nomatch h))) (by simpa using nr d8)
       refine WE.comp (bcl := [("owner", ca)]) ?hclos rfl ?hnames (CompGo.tup rfl rfl ?hcell ?_)
       case hclos =>
         intro c h1 h2
         obtain ⟨_, _, _, _, _, _, _, _, _, _, _⟩ := c
         dsimp only at h1 h2
         subst h1 h2
         rfl
       case hnames => decide +kernel
       case hcell => decide +kernel
       refine WE.name rfl ⟨r.items.map RI.av, Row.av_items r, by have := hlen r (by rw [e1]; simp); simp [Row.items]; (exact Nat.le_trans (by assumption) (Nat.le_of_ble_eq_true rfl)), ?_⟩
       refine compPure RI.av (RI.out es) r.items [] (fun y hy Q q => CE.callBm (CE.cell rfl c11 ⟨lo, _, _, rfl, d11, rfl, CE.name (CE.name (getP (D := D + 10) d11 hne hsk y q))⟩)) fun d hd => ?_
       rw [Row.out_items, List.nil_append]
       have nd : d ≠ lr := fun z => by rw [z, r1] at hd; (exact someE hd)
       have hd1 : ∀ {a o}, H' a = some o → a ≠ d := fun q z => by rw [z, hd] at q; (exact noneE q)
       have len1 : as.length ≤ 15000000 := by
         have := R1.len
         rw [List.length_map] at this
         rw [e1, List.length_append] at hzr
         lia
       refine WB.append (xs := as) ((AHeap.put_ne _ _ (hd1 r1)).trans r1) (by (exact Nat.le_trans (by assumption) (Nat.le_of_ble_eq_true rfl))) ?_
       k_extra "wg"
       have g1 : ∀ {a o}, H' a = some o → a ≠ lr → ((H'.put d (.list (rowOut es r))).put lr (.list (as ++ [.ref d]))) a = some o := fun q z => (AHeap.put_ne _ _ z).trans ((AHeap.put_ne _ _ (hd1 q)).trans q)
       refine ⟨g1 kp (n9 r9).symm, ⟨don ++ [r], as ++ [.ref d], by rw [e1]; simp, AHeap.put_self _ _ _, ?_⟩, fun a o q z => g1 (F11 _ _ q z) (by simpa using z), Sub.cons rfl Sub.nil⟩
       rw [List.map_append]
       exact (R1.mov fun a xs q z => g1 q z).snoc ((AHeap.put_ne _ _ nd).trans (AHeap.put_self _ _ _)) nd
     · (refine exAA (I) fun zq0 F11 i11 => ?_; clear I; refine exEEAA (zq0) fun don as e1 r1 R1 => ?_; clear zq0)
       rw [List.append_nil] at e1
       subst e1
       refine ⟨rfl, as, (AHeap.put_ne _ _ (n9 r9)).trans r1, R1.mov fun a xs q z => (AHeap.put_ne _ _ (fun y => by rw [y, kp] at q; cases q)).trans q, fun a o q z => ?_, i11⟩
       rw [AHeap.put_ne _ _ (n9 q)]
       exact F11 _ _ (F10 _ _ q (by (exact fun h => nomatch h))) z
   · (intro fl; intro m'; intro H'; intro zq0; refine exAEAAA (zq0) fun zq1 as a1 a2 a3 a4 => ?_; clear zq0; rcases zq1 with rfl)
     refine WS.weak a4 ?_
     k_extra "wg"
     exact h lr as H' a1 a2 (Fram.drop Hr ((FH.sub (fun _ h => nomatch h)).trans a3))
end
noncomputable def Flat (n : Nat) (a : AV) : Prop := ∃ d, (∀ H, DA H d a) ∧ d.canLay0 = true ∧ d.depth ≤ n
theorem flat_int (i : Int) : Flat 0 (.int i) := ⟨.int i, fun H => rfl, rfl, Nat.le_refl _⟩
theorem flat_str (s : String) : Flat 0 (sS s) := ⟨.str (Str.ofString s), fun H => rfl, by rw [PyData.canLay0]; exact strOk_of s, by rw [PyData.depth]; exact Nat.le_refl _⟩
theorem flats (n : Nat) : ∀ (as : List AV), (∀ a ∈ as, Flat n a) → ∃ ds, (∀ H, DAs H ds as) ∧ PyData.canLayAll0 ds = true ∧ PyData.depthAll ds ≤ n := by
 intro zz
 induction zz with
 | nil =>
   intro _
   exact ⟨[], fun H => rfl, by rw [PyData.canLayAll0], by rw [PyData.depthAll]; exact Nat.zero_le _⟩
 | cons a as ih =>
   intro h
   (refine exEAA (h a (.head _)) fun d h1 h2 h3 => ?_)
   (refine exEAA (ih (fun x hx => h x (.tail _ hx))) fun ds q1 q2 q3 => ?_)
   exact ⟨d :: ds, fun H => ⟨a, as, rfl, h1 H, q1 H⟩, by rw [PyData.canLayAll0, h2, q2]; rfl, by rw [PyData.depthAll]; lia⟩
theorem flat_tup {n : Nat} {as : List AV} (h : ∀ a ∈ as, Flat n a) : Flat (n + 1) (.tup as) := by
 (refine exEAA (flats n as h) fun ds q1 q2 q3 => ?_)
 exact ⟨.tuple ds, fun H => ⟨as, rfl, q1 H⟩, by rw [PyData.canLay0]; exact q2, by rw [PyData.depth]; (exact Nat.succ_le_succ (by assumption))⟩
theorem Flat.up {n m : Nat} {a : AV} (h : Flat n a) (l : n ≤ m) : Flat m a := by
 (refine exEAA (h) fun d h1 h2 h3 => ?_; clear h)
 exact ⟨d, h1, h2, Nat.le_trans h3 l⟩
theorem flat_MV (k : V8) : Flat 1 (MV k) := flat_tup (n := 0) fun a ha => by
 simp only [List.mem_cons, List.not_mem_nil, or_false] at ha
 rcases ha with rfl | rfl
 · exact flat_str _
 · exact flat_int _
theorem flat_part (x : Part) : Flat 1 x.av := by
 cases x with
 | num i => exact (flat_int i).up (by decide)
 | c k n =>
   refine flat_tup (n := 0) fun a ha => ?_
   simp only [List.mem_cons, List.not_mem_nil, or_false] at ha
   rcases ha with rfl | rfl <;> exact flat_int _
 | _ =>
   refine flat_tup (n := 0) fun a ha => ?_
   simp only [List.mem_cons, List.not_mem_nil, or_false] at ha
   rcases ha with rfl | rfl
   · exact flat_str _
   · exact flat_int _
theorem putD_vals {C : AV → Prop} {k : List Atom} {a : AV} (ha : C a) : ∀ {es : List (List Atom × AV)}, (∀ q ∈ es, C q.2) → ∀ q ∈ putD k a es, C q.2 := by
 intro zz
 induction zz with
 | nil =>
   intro _ q hq
   cases List.mem_singleton.mp hq; exact ha
 | cons qx r ih =>
   obtain ⟨j, b⟩ := qx
   intro h q hq
   rw [putD_c] at hq
   split at hq
   · rcases List.mem_cons.mp hq with rfl | hq
     · exact ha
     · exact h q (.tail _ hq)
   · rcases List.mem_cons.mp hq with rfl | hq
     · exact h (j, b) (.head _)
     · exact ih (fun q hq => h q (.tail _ hq)) q hq
theorem own_vals (p : V8 → V8) (rs : List Rec) : ∀ q ∈ ownAll p rs, Flat 1 q.2 := by
 have h1 : ∀ (rs : List Rec) (es : List (List Atom × AV)), (∀ q ∈ es, Flat 1 q.2) → ∀ q ∈ rs.foldl (ownStep p) es, Flat 1 q.2 := fun rs => by
   induction rs with
   | nil => intro es h; exact h
   | cons r rs ih =>
     intro es h
     refine ih _ ?_
     unfold ownStep
     split
     · exact putD_vals (C := Flat 1) (flat_MV _) h
     · exact h
 have h2 : ∀ (n : Nat) (es : List (List Atom × AV)), (∀ q ∈ es, Flat 1 q.2) → ∀ q ∈ ownT p es n, Flat 1 q.2 := fun n => by
   induction n with
   | zero => intro es h; exact h
   | succ n ih => intro es h; exact putD_vals (C := Flat 1) (flat_MV _) (ih es h)
 exact h2 6 _ (h1 rs [] (fun q hq => nomatch hq))
theorem mem_look {k : List Atom} {a : AV} : ∀ {es : List (List Atom × AV)}, es.lookup k = some a → (k, a) ∈ es
 | (j, b) :: r, h => by
   rw [List.lookup_cons] at h
   by_cases q : k = j
   · subst q; simp only [beq_self_eq_true] at h; cases h; exact .head _
   · have : (k == j) = false := by simpa using q
     simp only [this] at h
     exact .tail _ (mem_look h)
theorem flat_look {es : List (List Atom × AV)} (h : ∀ q ∈ es, Flat 1 q.2) (x : Part) : Flat 1 (ownLook es x) := by
 have key : ∀ (k : List Atom) (a : AV), Flat 1 a → Flat 1 ((es.lookup k).getD a) := fun k a ha => by
   cases q : es.lookup k with
   | none => exact ha
   | some v => exact h _ (mem_look q)
 cases x with
 | num i => exact (flat_int i).up (by decide)
 | t n => exact key _ _ (flat_part (.t n))
 | y n => exact key _ _ (flat_part (.y n))
 | a n => exact key _ _ (flat_part (.a n))
 | c k n => exact key _ _ (flat_part (.c k n))
theorem flat_row {es : List (List Atom × AV)} (h : ∀ q ∈ es, Flat 1 q.2) (r : Row) : ∀ a ∈ rowOut es r, Flat 1 a := fun a ha => by
 rcases List.mem_cons.mp ha with rfl | ha
 · exact (flat_str _).up (by decide)
 · (refine exEA (List.mem_map.mp ha) fun x _ zq0 => ?_; rcases zq0 with rfl)
   exact flat_look h x
set_option tactic.hygienic true in
theorem rows_data {la lb : Addr} {H H' : AHeap} {os : List (List AV)} {as bs : List AV} (R : RowsAt la H os as) : RowsAt lb H' os bs → (∀ o ∈ os, ∀ a ∈ o, Flat 1 a) → ∃ ds, DAs H ds as ∧ DAs H' ds bs ∧ PyData.canLayAll0 ds = true ∧ PyData.depthAll ds ≤ 2 := by
 induction R generalizing bs with
 | nil => intro R' _; cases R'; exact ⟨[], rfl, rfl, by rw [PyData.canLayAll0], by rw [PyData.depthAll]; exact Nat.zero_le _⟩
 | cons h n r ih =>
   rename_i o os l as
   intro R' hf
   cases R' with
   | cons h' n' r' =>
     (refine exEAAA (ih r' (fun x hx => hf x (.tail _ hx))) fun ds q1 q2 q3 q4 => ?_)
     (refine exEAA (flats 1 o (hf o (.head _))) fun d e1 e2 e3 => ?_)
     exact ⟨.list d :: ds, ⟨_, _, rfl, ⟨_, _, _, rfl, h, rfl, e1 H⟩, q1⟩, ⟨_, _, rfl, ⟨_, _, _, rfl, h', rfl, e1 H'⟩, q2⟩, by rw [PyData.canLayAll0, PyData.canLay0, e2, q3]; rfl, by rw [PyData.depthAll, PyData.depth]; lia⟩
noncomputable def permOf (tab : List Int) (k : V8) : V8 := if k.val < 6 then ⟨(tab.getD k.val 0).toNat % 8, Nat.mod_lt _ (by decide)⟩ else k
structure PermOk (tab : List Int) (p : V8 → V8) : Prop where
 at_ : ∀ k : V8, k.val < 6 → tab[k.val]? = some (vi (p k))
 inj : ∀ j k, p j = p k → j = k
 sur : ∀ k, ∃ j, p j = k
 six : ∀ k : V8, k.val < 6 → (p k).val < 6
theorem permOf_ok {tab : List Int} (h : tab.Perm [0, 1, 2, 3, 4, 5]) : PermOk tab (permOf tab) := by
 have hl : tab.length = 6 := h.length_eq
 have nd : tab.Nodup := h.nodup_iff.mpr (by decide)
 have rng : ∀ x ∈ tab, 0 ≤ x ∧ x < 6 := fun x hx => by
   exact (by decide : ∀ x ∈ ([0, 1, 2, 3, 4, 5] : List Int), 0 ≤ x ∧ x < 6) x (h.mem_iff.mp hx)
 have e : ∀ k : V8, k.val < 6 → ∃ x, tab[k.val]? = some x ∧ 0 ≤ x ∧ x < 6 ∧ (permOf tab k).val = x.toNat := fun k hk => by
   have hx : tab[k.val]? = some (tab[k.val]'(by lia)) := List.getElem?_eq_getElem _
   have r := rng _ (List.getElem_mem (show k.val < tab.length by lia))
   refine ⟨_, hx, r.1, r.2, ?_⟩
   unfold permOf
   rw [if_pos hk]
   show (tab.getD k.val 0).toNat % 8 = _
   rw [List.getD_eq_getElem?_getD, hx]
   exact Nat.mod_eq_of_lt (Nat.lt_of_lt_of_le ((Int.toNat_lt r.1).mpr r.2) (by decide))
 have big : ∀ k : V8, ¬ k.val < 6 → permOf tab k = k := fun k hk => by unfold permOf; rw [if_neg hk]
 have six : ∀ k : V8, k.val < 6 → (permOf tab k).val < 6 := fun k hk => by (refine exEAAA (e k hk) fun x _ h1 h2 h3 => ?_); rw [h3]; exact (Int.toNat_lt h1).mpr h2
 refine ⟨fun k hk => ?_, fun j k z => ?_, fun k => ?_, six⟩
 · (refine exEAAA (e k hk) fun x h0 h1 h2 h3 => ?_)
   rw [h0]
   unfold vi
   rw [h3]
   exact congrArg some (Int.toNat_of_nonneg h1).symm
 · by_cases hj : j.val < 6
   · by_cases hk : k.val < 6
     · (refine exEAAA (e j hj) fun x h0 h1 h2 h3 => ?_)
       (refine exEAAA (e k hk) fun y q0 q1 q2 q3 => ?_)
       have : x = y := by rw [← Int.toNat_of_nonneg h1, ← Int.toNat_of_nonneg q1, ← h3, ← q3, z]
       subst this
       have a1 := (List.getElem?_eq_some_iff.mp h0).2
       have a2 := (List.getElem?_eq_some_iff.mp q0).2
       have := (List.getElem_inj (h₀ := by lia) (h₁ := by lia) nd).mp (a1.trans a2.symm)
       exact Fin.ext this
     · have := six j hj; rw [z, big k hk] at this; exact absurd this hk
   · by_cases hk : k.val < 6
     · have := six k hk; rw [← z, big j hj] at this; exact absurd this hj
     · rw [big j hj, big k hk] at z; exact z
 · by_cases hk : k.val < 6
   · have : (k.val : Int) ∈ tab := h.mem_iff.mpr ((by decide : ∀ k : Fin 8, k.val < 6 → (k.val : Int) ∈ ([0, 1, 2, 3, 4, 5] : List Int)) k hk)
     obtain ⟨i, hi, hx⟩ := List.mem_iff_getElem.mp this
     have i6 : i < 6 := hl ▸ hi
     refine ⟨⟨i, by lia⟩, Fin.ext ?_⟩
     (refine exEAAA (e ⟨i, by lia⟩ i6) fun x h0 h1 h2 h3 => ?_)
     rw [h3]
     have : tab[i]? = some (k.val : Int) := by rw [List.getElem?_eq_getElem hi, hx]
     have h0' : tab[i]? = some x := h0
     rw [this] at h0'
     cases h0'
     rfl
   · exact ⟨k, big k hk⟩
theorem low_ren {p : V8 → V8} (six : ∀ k : V8, k.val < 6 → (p k).val < 6) {t : Tm} (h : t.low 6) : (t.ren p).low 6 := fun k hk => by
 rw [ren_occs] at hk
 (refine exEA (List.mem_map.mp hk) fun j hj zq0 => ?_; rcases zq0 with rfl)
 exact six _ (h j hj)
noncomputable def GOk (g : Goal) : Prop := g.terms.length ≤ 2 ∧ (∀ t ∈ g.terms, t.size ≤ 7 ∧ t.low 6) ∧ ∀ k, g.special = vi k → k.val < 6
theorem GOk.drawn {g : Goal} (h : Drawn g ∨ g = .level 5) : GOk g := by
 have five : ∀ k : V8, vi 5 = vi k → k.val < 6 := fun k hk => by rw [← vi_inj hk]; decide
 have neg : ∀ k : V8, (-1 : Int) = vi k → k.val < 6 := fun k hk => by have := (vi_lo k).1; lia
 have two : ∀ (t u : Tm), t.low 5 → u.low 5 → t.size ≤ 7 → u.size ≤ 7 → ∀ x ∈ [t, u], x.size ≤ 7 ∧ x.low 6 := fun t u a1 a2 z1 z2 x hx => by
   simp only [List.mem_cons, List.not_mem_nil, or_false] at hx
   rcases hx with rfl | rfl
   · exact ⟨z1, a1.up⟩
   · exact ⟨z2, a2.up⟩
 rcases h with h | rfl
 · cases h with
   | call t u a1 a2 z1 z2 => exact ⟨Nat.le_refl _, two t u a1 a2 z1 z2, neg⟩
   | unify t u a1 a2 z1 z2 => exact ⟨Nat.le_refl _, two t u a1 a2 z1 z2, neg⟩
   | builtin t u a1 a2 z1 z2 => exact ⟨Nat.le_refl _, two t u a1 a2 z1 z2, neg⟩
   | cutto => exact ⟨Nat.zero_le _, (fun t ht => nomatch ht), five⟩
 · exact ⟨Nat.zero_le _, (fun t ht => nomatch ht), five⟩
theorem GOk.ren {p : V8 → V8} (six : ∀ k : V8, k.val < 6 → (p k).val < 6) {g : Goal} (h : GOk g) : GOk (g.ren p) := by
 (refine exAA (h) fun h1 h2 h3 => ?_; clear h)
 refine ⟨by rw [ren_terms, List.length_map]; exact h1, fun t ht => ?_, fun k hk => ?_⟩
 · rw [ren_terms] at ht
   (refine exEA (List.mem_map.mp ht) fun u hu zq0 => ?_; rcases zq0 with rfl)
   exact ⟨by rw [ren_size]; exact (h2 u hu).1, low_ren six (h2 u hu).2⟩
 · cases g with
   | level j => rw [← vi_inj (show vi (p j) = vi k from hk)]; exact six j (h3 j rfl)
   | mark j => rw [← vi_inj (show vi (p j) = vi k from hk)]; exact six j (h3 j rfl)
   | cutto j => rw [← vi_inj (show vi (p j) = vi k from hk)]; exact six j (h3 j rfl)
   | _ => have := (vi_lo k).1; have hk : (-1 : Int) = vi k := hk; lia
section
variable {D : Nat} {H : AHeap}
theorem k122n : nsIn e.G.K mainGlobals ("Symbols" : Str) = some (some (.ref 122)) := by kernel_rfl
theorem k122 : keepIn e.G.K (.ref 122) = true := by kernel_rfl
end
theorem kw94 : True := by
 k_with "wk" => (first | ((focus (refine' WE.callK ?_ ?_ ?_; rotate_right 3; (· with_reducible first | exact k122n | exact k608n | exact k622n | exact k629n | exact k644n); (· with_reducible first | exact k122 | exact k608 | exact k622 | exact k629 | exact k644)))) | fail)
 trivial
section
variable {D : Nat} {H : AHeap}
theorem TpAt.keep {lt l0 : Addr} {H H' : AHeap} (T : TpAt lt l0 H) (F : Fram [] H H') : TpAt lt l0 H' := T.grow fun a o q _ => F a o q (by (exact fun h => nomatch h))
theorem TpAt.cells {lt l0 a : Addr} {H : AHeap} {o : AO} (T : TpAt lt l0 H) (q : H a = some o) (z : isCell o = true) : a ∉ [lt, l0] := fun y => by
 obtain ⟨ne, xs, i, j, t1, t2, _⟩ := T
 simp only [List.mem_cons, List.not_mem_nil, or_false] at y
 rcases y with rfl | rfl
 · rw [t1] at q; cases q; (exact falseE z)
 · rw [t2] at q; cases q; (exact falseE z)
structure LwI (ca cb lt l0 : Addr) (H : AHeap) : Prop where
 a : H ca = some (.cell (.ref lt))
 b : H cb = some .cell0
 T : TpAt lt l0 H
theorem LwI.move {ca cb lt l0 : Addr} {H H' : AHeap} (L : LwI ca cb lt l0 H) (T : TpAt lt l0 H') (F : Fram [lt, l0] H H') : LwI ca cb lt l0 H' := ⟨F _ _ L.a (L.T.cells L.a rfl), F _ _ L.b (L.T.cells L.b rfl), T⟩
theorem LwI.keep {ca cb lt l0 : Addr} {H H' : AHeap} (L : LwI ca cb lt l0 H) (F : Fram [] H H') : LwI ca cb lt l0 H' := ⟨F _ _ L.a (by (exact fun h => nomatch h)), F _ _ L.b (by (exact fun h => nomatch h)), L.T.keep F⟩
theorem TpAt.off {lt l0 a : Addr} {H : AHeap} {o : AO} (T : TpAt lt l0 H) (q : H a = some o) (z : ∀ xs, o ≠ .list xs) : a ∉ [lt, l0] := fun y => by
 obtain ⟨ne, xs, i, j, t1, t2, _⟩ := T
 simp only [List.mem_cons, List.not_mem_nil, or_false] at y
 rcases y with rfl | rfl
 · rw [t1] at q; exact z _ (Option.some.inj q).symm
 · rw [t2] at q; exact z _ (Option.some.inj q).symm
theorem LwI.fresh {ca cb lt l0 : Addr} {H : AHeap} (L : LwI ca cb lt l0 H) {l : Addr} (hl : H l = none) (o : AO) : LwI ca cb lt l0 (H.put l o) := L.keep (Fram.new hl)
inductive GsI (ca cb lt l0 lh nm : Addr) (b : Bool) (ts : List Tm) (n : Nat) (m' : Loc) (H' : AHeap) : Prop
 | no (h : False)
 | go (lg : Addr) (gs : List Goal) (L : LwI ca cb lt l0 H') (hh : H' lh = some (.list (ts.map Tm.av))) (hg : H' lg = some (.list (gs.map Goal.av))) (n1 : lg ∉ [lt, l0]) (n2 : lh ∉ [lt, l0]) (n3 : lh ≠ lg) (z : gs.length ≤ n) (g : ∀ g ∈ gs, Drawn g ∨ g = .level 5)
   (s : Sub [("goals_", .ref lg), ("heads", .ref lh), ("levelled", .bool b), ("names", .ref nm)] m')
theorem LwI.put {ca cb lt l0 l : Addr} {H : AHeap} (L : LwI ca cb lt l0 H) {xs : List AV} (hl : H l = some (.list xs)) (n : l ∉ [lt, l0]) (o : AO) : LwI ca cb lt l0 (H.put l o) :=
 ⟨(AHeap.put_ne _ _ (fun z => by have := L.a; rw [z, hl] at this; cases this)).trans L.a, (AHeap.put_ne _ _ (fun z => by have := L.b; rw [z, hl] at this; cases this)).trans L.b, L.T.grow fun a o q z => (AHeap.put_ne _ _ (fun y => n (by rw [← y]; simpa using z))).trans q⟩
theorem law_ok {ca cb lt l0 : Addr} (L : LwI ca cb lt l0 H) {m : Loc} {Q : Fl → Loc → AHeap → Prop} (h : ∀ m' H', Q (.ret (.bool true)) m' H') :
   WS e.G (D + 110) (fdv e.w.params 649).scope [("table", cb), ("tape", ca)] (stsOf (fdv e.w.params 649).body).tail m H Q := by
 k_extra "norm_m"
 k_extra "wg"
 refine mkSymbols_ok (D := D + 104) fun nm H1 F1 => ?_
 replace L := L.keep F1
 clear F1
 refine WS.seq (fun m' H' => LwI ca cb lt l0 H' ∧ ∃ b, Sub [("levelled", .bool b), ("names", .ref nm)] m') ?_ ?_
 · have hca := L.a
   k_extra "wg"
   refine digit_ok (D := D + 9) L.T 2 (by decide) fun d H2 d0 d1 T2 F2 => ?_
   replace L := L.move T2 F2
   k_extra "wg"
   all_goals exact ⟨rfl, L, _, Sub.cons rfl (Sub.cons rfl Sub.nil)⟩
 (intro m2; intro H2; intro zq0; refine exAE (zq0) fun L b i2 => ?_; clear zq0)
 refine WS.weak i2 ?_
 clear i2
 refine WS.seq (fun m' H' => LwI ca cb lt l0 H' ∧ ∃ (lh : Addr) (ts : List Tm), H' lh = some (.list (ts.map Tm.av)) ∧ ts.length ≤ 3 ∧ (∀ t ∈ ts, t.size ≤ 7 ∧ t.low 5) ∧ lh ∉ [lt, l0] ∧ Sub [("heads", .ref lh), ("levelled", .bool b), ("names", .ref nm)] m') ?_ ?_
 · refine W1.assignComp (bcl := [("tape", ca)]) ?hsw ?hclos rfl ?hnames (CompGo.range rfl rfl ?hcell ?_)
   case hclos =>
     intro c h1 h2
     obtain ⟨_, _, _, _, _, _, _, _, _, _, _⟩ := c
     dsimp only at h1 h2
     subst h1 h2
     rfl
   case hsw =>
     intro c h1 h2
     obtain ⟨_, _, _, _, _, _, _, _, _, _, _⟩ := c
     dsimp only at h1 h2
     subst h1 h2
     rfl
   case hnames => decide +kernel
   case hcell => decide +kernel
   have hca := L.a
   k_extra "wg"
   refine digit_ok (D := D + 9) L.T 2 (by decide) fun d_1 H3 d0 d1 T3 F3 => ?_
   replace L := L.move T3 F3
   clear F3 hca
   k_extra "wg"
   refine WB.range fun lr hlr => ⟨lr, 2 + d_1, rfl, AHeap.put_self _ _ _, by lia, by lia, fun ob => ?_⟩
   rw [put_put]
   have hn : (List.range (2 + d_1).toNat).length ≤ 3 := by rw [List.length_range]; lia
   refine CompN.rule (f := fun i : Nat => AV.int (Int.ofNat i)) (fun rest acc H => LwI ca cb lt l0 H ∧ ∃ ts : List Tm, acc = ts.map Tm.av ∧ ts.length + rest.length ≤ 3 ∧ ∀ t ∈ ts, t.size ≤ 7 ∧ t.low 5) (fun i rest acc H I kp => ?_) (fun acc H I kp => ?_) (List.range (2 + d_1).toNat) (AHeap.put_self _ _ _) ⟨L.fresh hlr _, [], rfl, by simpa using hn, fun t ht => nomatch ht⟩
   · (refine exAEAA (I) fun L ts zq0 z1 z2 => ?_; clear I; rcases zq0 with rfl)
     refine CE.callK k615n k615 (CE.cell rfl L.a (CE.int (term2 (D := D + 5) lt l0 H _ L.T fun t H' y1 y2 T' F' => ⟨F' _ _ kp (L.T.off kp (by simp)), L.move T' F', ts ++ [t], by simp, by simp only [List.length_append, List.length_cons, List.length_nil] at *; lia, fun x hx => ?_⟩)))
     rcases List.mem_append.mp hx with hx | hx
     · exact z2 x hx
     · cases List.mem_singleton.mp hx; exact ⟨y1, y2⟩
   · (refine exAEAA (I) fun L ts zq0 z1 z2 => ?_; clear I; rcases zq0 with rfl)
     refine fun d hd => ⟨rfl, ?_, d, ts, AHeap.put_self _ _ _, by simpa using z1, z2, ?_, Sub.cons rfl (Sub.cons rfl (Sub.cons rfl Sub.nil))⟩
     all_goals have o1 : ∀ {a o}, H a = some o → (∀ x y, o ≠ .ro x y) → (H.put lr (.range (2 + d_1))) a = some o := fun q z => (AHeap.put_ne _ _ (fun y => by rw [y, kp] at q; exact z _ _ (Option.some.inj q).symm)).trans q
     all_goals have L9 : LwI ca cb lt l0 (H.put lr (.range (2 + d_1))) := ⟨o1 L.a (by simp), o1 L.b (by simp), L.T.grow fun a o q z => (AHeap.put_ne _ _ (fun y => L.T.off kp (by simp) (by rw [← y]; simpa using z))).trans q⟩
     · exact L9.fresh hd _
     · exact (L9.T.new hd (.list [])).2
 (intro m3; intro H3; intro zq0; refine exAEEAAAA (zq0) fun L lh ts hlh z1 z2 nlh i3 => ?_; clear zq0)
 refine WS.weak i3 ?_
 clear i3
 refine WS.seq (GsI ca cb lt l0 lh nm b ts 1) ?_ ?_
 · have fin : ∀ (lg : Addr) (gs : List Goal), H3 lg = none → gs.length ≤ 1 → (∀ g ∈ gs, Drawn g ∨ g = .level 5) → ∀ m', Sub [("goals_", .ref lg), ("heads", .ref lh), ("levelled", .bool b), ("names", .ref nm)] m' → GsI ca cb lt l0 lh nm b ts 1 m' (H3.put lg (.list (gs.map Goal.av))) := fun lg gs hl a1 a2 m' a3 =>
     have n : lh ≠ lg := fun z => by rw [z, hl] at hlh; (exact noneE hlh)
     .go lg gs (L.fresh hl _) ((AHeap.put_ne _ _ n).trans hlh) (AHeap.put_self _ _ _) (L.T.new hl (.list [])).2 nlh n a1 a2 a3
   cases b with
   | true =>
     k_extra "wg"
     refine fun lg hlg => ?_
     k_extra "wg"
     exact ⟨rfl, fin lg [.level 5] hlg (by (exact Nat.le_of_ble_eq_true rfl)) (by simp) _ (Sub.cons rfl (Sub.cons rfl (Sub.cons rfl (Sub.cons rfl Sub.nil))))⟩
   | false =>
     k_extra "wg"
     refine fun lg hlg => ?_
     k_extra "wg"
     exact ⟨rfl, fin lg [] hlg (by (exact Nat.zero_le _)) (by simp) _ (Sub.cons rfl (Sub.cons rfl (Sub.cons rfl (Sub.cons rfl Sub.nil))))⟩
 rintro m4 H4 (I | ⟨lg, gs, L, hh, hg, n1, n2, n3, zg, gg, i4⟩)
 · exact I.elim
 refine WS.weak i4 ?_
 clear i4
 refine WS.seq (GsI ca cb lt l0 lh nm b ts 4) ?_ ?_
 · refine W1.forRange ?_
   have hca := L.a
   k_extra "wg"
   refine digit_ok (D := D + 9) L.T 4 (by decide) fun d H5 d0 d1 T5 F5 => ?_
   have L5 := L.move T5 F5
   have hh5 := F5 _ _ hh n2
   have hg5 := F5 _ _ hg n1
   clear hca F5
   (refine exE (Int.eq_ofNat_of_zero_le d0) fun N zq0 => ?_; rcases zq0 with rfl)
   k_extra "wg"
   refine WB.range fun lr hlr => ⟨lr, N, rfl, AHeap.put_self _ _ _, by (assumption), by lia, fun ob => ?_⟩
   rw [put_put]
   have r1 : ∀ {a o}, H5 a = some o → a ≠ lr := fun q z => by rw [z, hlr] at q; cases q
   refine ForN.range N (fun i m' H' => GsI ca cb lt l0 lh nm b ts (1 + i) m' H') (fun i m6 H6 hi I kp => ?_) (fun m6 H6 I kp => ?_) (AHeap.put_self _ _ _) (.go lg gs (L5.fresh hlr _) ((AHeap.put_ne _ _ (r1 hh5)).trans hh5) ((AHeap.put_ne _ _ (r1 hg5)).trans hg5) n1 n2 n3 zg gg (Sub.cons rfl (Sub.cons rfl (Sub.cons rfl (Sub.cons rfl Sub.nil)))))
   · obtain I | ⟨lg, gs, L, hh, hg, n1, n2, n3, zg, gg, i6⟩ := I
     · exact I.elim
     refine WS.weak (m' := [("goals_", .ref lg), ("heads", .ref lh), ("levelled", .bool b), ("names", .ref nm)]) (Sub.cons (i6 _ _ rfl) (Sub.cons (i6 _ _ rfl) (Sub.cons (i6 _ _ rfl) (Sub.cons (i6 _ _ rfl) Sub.nil)))) ?_
     have hca := L.a
     k_extra "wg"
     refine goalD_ok (D := D + 4) L.T b fun g H7 hgD T7 F7 => ?_
     have hg7 := F7 _ _ hg n1
     k_extra "wg"
     refine WB.append (xs := gs.map Goal.av) hg7 (by rw [List.length_map]; lia) ?_
     k_extra "wg"
     have nlr : lr ≠ lg := fun z => by have kp' : H6 lr = _ := kp; rw [z, hg] at kp'; cases kp'
     refine ⟨(AHeap.put_ne _ _ nlr).trans (F7 _ _ kp (L.T.off kp (by simp))), .go lg (gs ++ [g]) ((L.move T7 F7).put hg7 n1 _) ((AHeap.put_ne _ _ n3).trans (F7 _ _ hh n2)) (by rw [List.map_append]; exact AHeap.put_self _ _ _) n1 n2 n3 (by simp only [List.length_append, List.length_cons, List.length_nil]; lia) (fun x hx => ?_) (Sub.cons rfl (Sub.cons rfl (Sub.cons rfl (Sub.cons rfl Sub.nil))))⟩
     rcases List.mem_append.mp hx with hx | hx
     · exact gg x hx
     · cases List.mem_singleton.mp hx; exact .inl hgD
   · obtain I | ⟨lg, gs, L, hh, hg, n1, n2, n3, zg, gg, i6⟩ := I
     · exact I.elim
     have nr1 : ∀ {a o}, H6 a = some o → (∀ x y, o ≠ .ro x y) → a ≠ lr := fun q z y => by rw [y, kp] at q; exact z _ _ (Option.some.inj q).symm
     refine ⟨rfl, .go lg gs ⟨(AHeap.put_ne _ _ (nr1 L.a (by simp))).trans L.a, (AHeap.put_ne _ _ (nr1 L.b (by simp))).trans L.b, L.T.grow fun a o q z => (AHeap.put_ne _ _ (fun y => L.T.off kp (by simp) (by rw [← y]; simpa using z))).trans q⟩
       ((AHeap.put_ne _ _ (nr1 hh (by simp))).trans hh) ((AHeap.put_ne _ _ (nr1 hg (by simp))).trans hg) n1 n2 n3 (by lia) gg i6⟩
 rintro m5 H5 (I | ⟨lg, gs, L, hh, hg, n1, n2, n3, zg, gg, i5⟩)
 · exact I.elim
 refine WS.weak i5 ?_
 clear i5
 have hca := L.a
 refine WS.cons (W1.assignCell rfl ?_)
 k_extra "wg"
 refine exch_ok (D := D + 8) L.T fun tab lb H6 hp hlb h6 T6 F6 => ⟨.cell0, F6 _ _ L.b (L.T.cells L.b rfl), rfl, ?_⟩
 have ccb := F6 _ _ L.b (L.T.cells L.b rfl)
 have nb : ∀ {a xs}, H6 a = some (.list xs) → a ≠ cb := fun q z => by rw [z, ccb] at q; cases q
 have PO := permOf_ok hp
 have nlb : lb ≠ lh := fun z => by rw [z, hh] at hlb; (exact someE hlb)
 have nlbg : lb ≠ lg := fun z => by rw [z, hg] at hlb; (exact someE hlb)
 have hh7 : (H6.put cb (.cell (.ref lb))) lh = some (.list (ts.map Tm.av)) := (AHeap.put_ne _ _ (nb (F6 _ _ hh n2))).trans (F6 _ _ hh n2)
 have hg7 : (H6.put cb (.cell (.ref lb))) lg = some (.list (gs.map Goal.av)) := (AHeap.put_ne _ _ (nb (F6 _ _ hg n1))).trans (F6 _ _ hg n1)
 have T7 : TabAt lb (permOf tab) (H6.put cb (.cell (.ref lb))) := ⟨tab, (AHeap.put_ne _ _ (nb h6)).trans h6, hp.length_eq, PO.at_⟩
 have hcb : (H6.put cb (.cell (.ref lb))) cb = some (.cell (.ref lb)) := AHeap.put_self _ _ _
 revert hh7 hg7 T7 hcb
 generalize H6.put cb (.cell (.ref lb)) = H7
 intro hh7 hg7 T7 hcb
 clear F6 ccb nb h6 hlb T6 hca L hh hg
 have six := PO.six
 refine WS.seq (fun m' H' => Fram [] H7 H' ∧ ∃ lo : Addr, H' lo = some (.list ((ts.map (Tm.ren (permOf tab))).map Tm.av)) ∧ Sub [("others", .ref lo), ("goals_", .ref lg), ("heads", .ref lh), ("levelled", .bool b), ("names", .ref nm)] m') ?_ ?_
 · refine W1.assignComp (bcl := [("table", cb)]) ?hsw ?hclos rfl ?hnames (CompGo.list rfl rfl ?hcell ?_)
   case hclos =>
     intro c h1 h2
     obtain ⟨_, _, _, _, _, _, _, _, _, _, _⟩ := c
     dsimp only at h1 h2
     subst h1 h2
     rfl
   case hsw =>
     intro c h1 h2
     obtain ⟨_, _, _, _, _, _, _, _, _, _, _⟩ := c
     dsimp only at h1 h2
     subst h1 h2
     rfl
   case hnames => decide +kernel
   case hcell => decide +kernel
   refine WE.name rfl ⟨lh, ts.map Tm.av, rfl, hh7, by rw [List.length_map]; (exact Nat.le_trans (by assumption) (Nat.le_of_ble_eq_true rfl)), fun ob => ?_⟩
   have F7 : Fram [] H7 ((H7.put lh (.ro (.list (ts.map Tm.av)) ob)).put lh (.list (ts.map Tm.av))) := by
     rw [put_put, put_same hh7]; exact Fram.refl
   refine CompN.rule (f := Tm.av) (fun rest acc H => Fram [] (H7.put lh (.ro (.list (ts.map Tm.av)) ob)) H ∧ ∃ don, ts = don ++ rest ∧ acc = (don.map (Tm.ren (permOf tab))).map Tm.av) (fun t rest acc H I kp => ?_) (fun acc H I kp => ?_) ts (AHeap.put_self _ _ _) ⟨Fram.refl, [], rfl, rfl⟩
   · (refine exAEA (I) fun F don e1 zq0 => ?_; clear I; rcases zq0 with rfl)
     have hm : t ∈ ts := by rw [e1]; simp
     have g7 : ∀ {a o}, H7 a = some o → a ≠ lh → H a = some o := fun q z => F _ _ ((AHeap.put_ne _ _ z).trans q) (by (exact fun h => nomatch h))
     have ncb : cb ≠ lh := fun z => by rw [z, hh7] at hcb; cases hcb
     have T8 : TabAt lb (permOf tab) H := by
       (refine exEA (T7.t) fun tb t1 t2 => ?_)
       exact ⟨tb, g7 t1 nlb, t2⟩
     refine CE.callK k634n k634 (CE.name (CE.cell rfl (g7 hcb ncb) (ren7 (D := D + 103) (z2 t hm).1 (z2 t hm).2 T8 fun H' F' => ⟨F' _ _ kp (by (exact fun h => nomatch h)), F.trans F', don ++ [t], by rw [e1]; simp, by simp⟩)))
   · (refine exAEA (I) fun F don e1 zq0 => ?_; clear I; rcases zq0 with rfl)
     rw [List.append_nil] at e1
     subst e1
     intro d hd
     have F9 : Fram [] H7 (H.put lh (.list (ts.map Tm.av))) := fun a o q _ => by
       by_cases z : a = lh
       · subst z; rw [AHeap.put_self, ← hh7]; exact q
       · rw [AHeap.put_ne _ _ z]; exact F _ _ ((AHeap.put_ne _ _ z).trans q) (by (assumption))
     exact ⟨rfl, F9.trans (Fram.new hd), d, AHeap.put_self _ _ _, Sub.cons rfl (Sub.cons rfl (Sub.cons rfl (Sub.cons rfl (Sub.cons rfl Sub.nil))))⟩
 (intro m8; intro H8; intro zq0; refine exAEA (zq0) fun F8 lo hlo i8 => ?_; clear zq0)
 refine WS.weak i8 ?_
 clear i8
 replace hh7 := F8 _ _ hh7 (by (exact fun h => nomatch h))
 replace hg7 := F8 _ _ hg7 (by (exact fun h => nomatch h))
 replace hcb := F8 _ _ hcb (by (exact fun h => nomatch h))
 replace T7 := T7.grow F8
 clear F8
 refine WS.seq (fun m' H' => Fram [] H8 H' ∧ ∃ lm : Addr, H' lm = some (.list ((gs.map (Goal.ren (permOf tab))).map Goal.av)) ∧ Sub [("moved_goals", .ref lm), ("others", .ref lo), ("goals_", .ref lg), ("heads", .ref lh), ("levelled", .bool b), ("names", .ref nm)] m') ?_ ?_
 · refine W1.assignComp (bcl := [("table", cb)]) ?hsw ?hclos rfl ?hnames (CompGo.list rfl rfl ?hcell ?_)
   case hclos =>
     intro c h1 h2
     obtain ⟨_, _, _, _, _, _, _, _, _, _, _⟩ := c
     dsimp only at h1 h2
     subst h1 h2
     rfl
   case hsw =>
     intro c h1 h2
     obtain ⟨_, _, _, _, _, _, _, _, _, _, _⟩ := c
     dsimp only at h1 h2
     subst h1 h2
     rfl
   case hnames => decide +kernel
   case hcell => decide +kernel
   refine WE.name rfl ⟨lg, gs.map Goal.av, rfl, hg7, by rw [List.length_map]; (exact Nat.le_trans (by assumption) (Nat.le_of_ble_eq_true rfl)), fun ob => ?_⟩
   refine CompN.rule (f := Goal.av) (fun rest acc H => Fram [] (H8.put lg (.ro (.list (gs.map Goal.av)) ob)) H ∧ ∃ don, gs = don ++ rest ∧ acc = (don.map (Goal.ren (permOf tab))).map Goal.av) (fun g rest acc H I kp => ?_) (fun acc H I kp => ?_) gs (AHeap.put_self _ _ _) ⟨Fram.refl, [], rfl, rfl⟩
   · (refine exAEA (I) fun F don e1 zq0 => ?_; clear I; rcases zq0 with rfl)
     have hm : g ∈ gs := by rw [e1]; simp
     have g7 : ∀ {a o}, H8 a = some o → a ≠ lg → H a = some o := fun q z => F _ _ ((AHeap.put_ne _ _ z).trans q) (by (exact fun h => nomatch h))
     have ncb : cb ≠ lg := fun z => by rw [z, hg7] at hcb; cases hcb
     have T8 : TabAt lb (permOf tab) H := by
       (refine exEA (T7.t) fun tb t1 t2 => ?_)
       exact ⟨tb, g7 t1 nlbg, t2⟩
     refine CE.callK k639n k639 (CE.name (CE.cell rfl (g7 hcb ncb) (renG_ok (D := D + 102) lb (permOf tab) g (gg g hm) T8 fun H' F' => ⟨F' _ _ kp (by (exact fun h => nomatch h)), F.trans F', don ++ [g], by rw [e1]; simp, by simp⟩)))
   · (refine exAEA (I) fun F don e1 zq0 => ?_; clear I; rcases zq0 with rfl)
     rw [List.append_nil] at e1
     subst e1
     intro d hd
     have F9 : Fram [] H8 (H.put lg (.list (gs.map Goal.av))) := fun a o q _ => by
       by_cases z : a = lg
       · subst z; rw [AHeap.put_self, ← hg7]; exact q
       · rw [AHeap.put_ne _ _ z]; exact F _ _ ((AHeap.put_ne _ _ z).trans q) (by (assumption))
     exact ⟨rfl, F9.trans (Fram.new hd), d, AHeap.put_self _ _ _, Sub.cons rfl (Sub.cons rfl (Sub.cons rfl (Sub.cons rfl (Sub.cons rfl (Sub.cons rfl Sub.nil)))))⟩
 (intro m9; intro H9; intro zq0; refine exAEA (zq0) fun F9 lm hlm i9 => ?_; clear zq0)
 refine WS.weak i9 ?_
 clear i9
 replace hh7 := F9 _ _ hh7 (by (exact fun h => nomatch h))
 replace hg7 := F9 _ _ hg7 (by (exact fun h => nomatch h))
 replace hcb := F9 _ _ hcb (by (exact fun h => nomatch h))
 replace hlo := F9 _ _ hlo (by (exact fun h => nomatch h))
 replace T7 := T7.grow F9
 clear F9
 have g1 : ∀ t ∈ ts, t.size ≤ 7 ∧ t.low 6 := fun t ht => ⟨(z2 t ht).1, (z2 t ht).2.up⟩
 have g2 : ∀ g ∈ gs, GOk g := fun g hg => GOk.drawn (gg g hg)
 k_extra "wg"
 refine byNames_ok (D := D + 90) hh7 hg7 T7 (by (exact Nat.le_trans (by assumption) (Nat.le_of_ble_eq_true rfl))) (by (exact Nat.le_trans (by assumption) (Nat.le_of_ble_eq_true rfl))) g1 g2 fun lr1 as1 H10 r1 R1 F10 => ?_
 replace hlo := F10 _ _ hlo (by (exact fun h => nomatch h))
 replace hlm := F10 _ _ hlm (by (exact fun h => nomatch h))
 k_extra "wg"
 refine fun li hli => ?_
 have nli : ∀ {a o}, H10 a = some o → a ≠ li := fun q z => by rw [z, hli] at q; (exact noneE q)
 have T11 : TabAt li id (H10.put li (.list [.int 0, .int 1, .int 2, .int 3, .int 4, .int 5])) := ⟨[0, 1, 2, 3, 4, 5], AHeap.put_self _ _ _, rfl, show ∀ k : V8, k.val < 6 → ([0, 1, 2, 3, 4, 5] : List Int)[k.val]? = some (vi (id k)) by decide⟩
 k_extra "wg"
 refine byNames_ok (D := D + 90) ((AHeap.put_ne _ _ (nli hlo)).trans hlo) ((AHeap.put_ne _ _ (nli hlm)).trans hlm) T11 (by rw [List.length_map]; lia) (by rw [List.length_map]; lia) (fun t ht => ?_) (fun g hg => ?_) fun lr2 as2 H12 r2 R2 F12 => ?_
 · (refine exEA (List.mem_map.mp ht) fun u hu zq0 => ?_; rcases zq0 with rfl)
   exact ⟨by rw [ren_size]; exact (g1 u hu).1, low_ren six (g1 u hu).2⟩
 · (refine exEA (List.mem_map.mp hg) fun u hu zq0 => ?_; rcases zq0 with rfl)
   exact (g2 u hu).ren six
 have hl1 : ∀ t ∈ ts, Lo t := fun t ht => (g1 t ht).2
 have hl2 : ∀ g ∈ gs, GLo g := fun g hg => GLo.of (fun t ht => ((g2 g hg).2.1 t ht).2) (g2 g hg).2.2
 rw [← code_same PO.inj PO.sur six hl1 hl2] at R2
 have K12 : ∀ a xs, H10 a = some (.list xs) → H12 a = some (.list xs) := fun a xs q => F12 _ _ ((AHeap.put_ne _ _ (nli q)).trans q) (by (exact fun h => nomatch h))
 (refine exEAAA (rows_data (R1.mov fun a xs q _ => K12 a xs q) R2 (fun o ho a ha => by
   (refine exEA (List.mem_map.mp ho) fun r _ zq0 => ?_; rcases zq0 with rfl)
   exact flat_row (own_vals _ _) r a ha)) ?_; intro ds q1 q2 q3 q4)
 have sh : SeqAt.shaped (.list ds) = true := by
   rw [SeqAt.shaped, PyData.canLay0, q3, PyData.depth, decide_eq_true (by lia)]; rfl
 k_extra "wg"
 refine WCmp.eqD (D := D + 102) (da := .list ds) (db := .list ds) (⟨lr2, _, as2, rfl, r2, rfl, q2⟩) (⟨lr1, _, as1, rfl, K12 _ _ r1, rfl, q1⟩) sh sh ?_
 rw [eqv_refl _ (by rw [PyData.canLay0]; exact q3)]
 exact h _ _
end
section
variable {D : Nat} {H : AHeap}
noncomputable def topH (L : Addr) : AHeap := fun a => if a = L + 1 then some .cell0 else if a = L + 1 + 1 then some .cell0 else none
theorem tape_ok {K' : Frag} {L sc : Addr} {vs : List Value} {ns : List Int} (hk : ∀ h : Heap, Frag.In K' h → h.IsList sc vs.toArray) (hi : IntsAre vs ns) (hz : ns.length ≤ 63) :
   W1 { e.G with K := K' } 110 (fdv e.w.params 649).scope [("table", L + 1 + 1), ("tape", L + 1)] ((stsOf (fdv e.w.params 649).body).headD default) [("script", .ref sc)] (topH L) fun fl m' H' => fl = .next ∧ ∃ lt l0, LwI (L + 1) (L + 1 + 1) lt l0 H' := by
 k_extra "norm_m"
 refine W1.assignCell rfl (WE.list ?_)
 refine WE.sliceK hk hi (by (exact Nat.le_trans (by assumption) (Nat.le_of_ble_eq_true rfl))) (WE.name rfl ⟨rfl, WE.int ⟨60, rfl, by decide, fun l0 hl0 => WE.int (WE.int fun lt hlt => ?_)⟩⟩)
 have n0 : l0 ≠ L + 1 ∧ l0 ≠ L + 1 + 1 := ⟨fun z => by rw [z] at hl0; simp [topH] at hl0, fun z => by rw [z] at hl0; simp [topH] at hl0⟩
 have nt : lt ≠ L + 1 ∧ lt ≠ L + 1 + 1 ∧ lt ≠ l0 := by
   refine ⟨fun z => ?_, fun z => ?_, fun z => ?_⟩
   · rw [z, AHeap.put_ne _ _ n0.1.symm] at hlt; simp [topH] at hlt
   · rw [z, AHeap.put_ne _ _ n0.2.symm] at hlt; simp [topH] at hlt
   · rw [z, AHeap.put_self] at hlt; (exact someE hlt)
 have c1 : (((topH L).put l0 (.list ((ns.take (60 : Int).toNat).map AV.int))).put lt (.list [.ref l0, .int 0, .int 0])) (L + 1) = some .cell0 := by
   rw [AHeap.put_ne _ _ nt.1.symm, AHeap.put_ne _ _ n0.1.symm]; (exact if_pos rfl)
 have c2 : (((topH L).put l0 (.list ((ns.take (60 : Int).toNat).map AV.int))).put lt (.list [.ref l0, .int 0, .int 0])) (L + 1 + 1) = some .cell0 := by
   rw [AHeap.put_ne _ _ nt.2.1.symm, AHeap.put_ne _ _ n0.2.symm]; simp [topH]
 refine ⟨.cell0, c1, rfl, rfl, lt, l0, ⟨AHeap.put_self _ _ _, ?_, ⟨nt.2.2, ns.take 60, 0, 0, ?_, ?_, ?_, by decide⟩⟩⟩
 · rw [AHeap.put_ne _ _ (Nat.succ_ne_self (L + 1))]; exact c2
 · rw [AHeap.put_ne _ _ nt.1, AHeap.put_self]; rfl
 · rw [AHeap.put_ne _ _ n0.1, AHeap.put_ne _ _ nt.2.2.symm, AHeap.put_self]; rfl
 · rw [List.length_take]; lia
theorem body_split : stsOf (fdv e.w.params 649).body = (stsOf (fdv e.w.params 649).body).headD default :: (stsOf (fdv e.w.params 649).body).tail := by kernel_rfl
theorem scope_kind : (fdv e.w.params 649).scope.kind = .function := by kernel_rfl
set_option tactic.hygienic true in
theorem lawTop {w : World} {h h₁ : Heap} {mean : ExcName → Option Value} {mg mb : Str → Option Value} {fa : Addr} {cd : Value} {L : Addr} {mm : Str → Option Value} {o1 o2 : Obj} {sc : Addr} {vs : List Value} {ns : List Int} {body : List Stmt} {scope : Scope} {nm : Str}
   {Q : Flow → Shared → Prop} {E : Value → Shared → Prop} {s : Shared}
   (K0 : Below callerA h [] h) (KX : (hd.heap_39 w.params).In h) (T : Top hd.view_39 (looseW hd.view_39 []) mean mg mb h) (F : Fr h L h₁ mm) (N : News h L h₁ [(L + 1 + 1, o1), (L + 1, o2)]) (c1 : o1.data = .cell none) (c2 : o2.data = .cell none)
   (hm : mm ("script" : Str) = some (.ref sc)) (hsc : h.IsList sc vs.toArray) (hi : IntsAre vs ns) (hz : ns.length ≤ 63) (hs : s.heap = h₁)
   (hb : body = stsOf (fdv w.params 649).body) (hscope : scope = (fdv w.params 649).scope) (hn : nm = "law") (he : cellsFrom (L + 1) scope.names [] = [(("table" : Str), L + 1 + 1), (("tape" : Str), L + 1)])
   (k : ∀ h' mm' tk, Fr h L h' mm' → Q (.ret (.bool true)) { s with heap := h', toks := tk }) :
   wpAny (model PySem.Challenge.rw_rh0103_01.row.prog w) (callerA.deeper (envOfC nm scope L fa cd)) (execs body (envOfC nm scope L fa cd)) Q E s := by
 subst hb hscope hn
 unfold envOfC
 rw [he]
 let e : Ev := ⟨w, mean, mg, mb⟩
 (refine exEAA (hsc) fun ob g1 g2 g3 => ?_; clear hsc)
 let c : Cx := { A₀ := callerA, A := callerA.deeper (envX "law" (fdv w.params 649).scope L fa cd [("table", L + 1 + 1), ("tape", L + 1)]), base := h, h₀ := h, outer := [], L := L, cn := "law", cs := (fdv w.params 649).scope, a := fa, ccd := cd, cl := [("table", L + 1 + 1), ("tape", L + 1)] }
 have ok : c.Ok e.G 110 := ⟨K0, KX, T, rfl, scope_kind (e := e), Nat.le_of_ble_eq_true rfl, Nat.le_of_ble_eq_true rfl, rfl⟩
 have ok' : c.Ok { e.G with K := (sc, ob) :: KK w.params } 110 := ⟨ok.below, fun a o q => by
   rw [List.lookup_cons] at q
   by_cases z : a = sc
   · subst z
     simp only [beq_self_eq_true] at q
     cases q
     exact g1
   · have : (a == sc) = false := by simpa using z
     simp only [this] at q
     exact KX a o q, ok.top, ok.frames, ok.kind, ok.depth, ok.units, ok.handled⟩
 have S0 : St { e.G with K := (sc, ob) :: KK w.params } h L mm (topH L) [(L + 1 + 1, o1), (L + 1, o2)] s.heap := by
   rw [hs]
   refine ⟨F, N, by simp, fun a o q => ?_, fun a o q z => ?_⟩
   · unfold topH at q
     split at q
     · rename_i y; subst y; cases q; exact ⟨o2, by (exact .tail _ (.head _)), c2⟩
     · split at q
       · rename_i y; subst y; cases q; exact ⟨o1, by (exact List.mem_cons_self), c1⟩
       · (exact noneE q)
   · unfold topH at q
     split at q
     · cases q; (exact falseE z)
     · split at q
       · cases q; (exact falseE z)
       · (exact noneE q)
 have lr0 : LR [(L + 1 + 1, o1), (L + 1, o2)] [(("script" : Str), AV.ref sc)] mm := fun x a q => by
   rw [List.lookup_cons] at q
   by_cases z : x = ("script" : Str)
   · subst z
     simp only [beq_self_eq_true] at q
     cases q
     exact ⟨_, hm, rfl⟩
   · have : (x == ("script" : Str)) = false := by simpa using z
     simp only [this] at q
     (exact noneE q)
 rw [body_split (e := e)]
 show wpAny _ c.A (execs _ c.env) Q E s
 refine wpAny_execs_cons ((tape_ok (e := e) (L := L) (K' := (sc, ob) :: KK w.params) (fun h' hK => ⟨ob, hK sc ob (by simp), g2, g3⟩) hi hz).go c rfl rfl ok' mm _ s S0 lr0 _ E fun f fl m' mm' H' n' h' tk S1 lr1 K1 F1 q => ?_)
 (refine exAEE (q) fun zq0 lt l0 LW => ?_; clear q; rcases zq0 with rfl)
 rw [show f = .next from F1]
 refine (law_ok (e := e) (D := 0) LW (m := m') (Q := fun fl _ _ => fl = .ret (.bool true)) (fun _ _ => rfl)).go c rfl rfl ok mm' n' _ S1.reK lr1 Q E fun f fl m2 mm2 H2 n2 h2 tk2 S2 lr2 K2 F2 q => ?_
 subst q
 (refine exEA (F2) fun v zq0 hv => ?_; clear F2; rcases zq0 with rfl)
 subst hv
 exact k h2 mm2 tk2 S2.fr
end
end Mine
set_option tactic.hygienic true in
set_option maxHeartbeats 8000000 in
theorem PySem.Challenge.cw_rh0103_01_holds : PySem.Challenge.rw_rh0103_01.Holds := by
  exact Mine.hd (by
    k_go0
    refine Mine.lawTop (by assumption) (by assumption) (by assumption) (by assumption) (by assumption) (Eq.trans (by assumption) ?_) (Eq.trans (by assumption) ?_) ?_ (by assumption) (by assumption) ?_ rfl ?_ ?_ ?_ ?_ ?_
    · kernel_rfl
    · kernel_rfl
    · rfl
    · lia
    · kernel_rfl
    · kernel_rfl
    · kernel_rfl
    · kernel_rfl
    · intro h' mm' tk F'
      refine goodW_bool F' (by assumption) (raisesW_false ?_) ?_
      · wrow_none_raised
      · wrow_post)
