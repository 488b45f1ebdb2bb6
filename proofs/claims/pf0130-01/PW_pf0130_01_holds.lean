import PyProof.Rows.All
import Wide.All
import OpenK.AllK
import Wide.FinOn
import PySem.Challenge.RW_pf0130_01
set_option Elab.async false
set_option maxRecDepth 100000
set_option maxHeartbeats 8000000
set_option linter.all false
set_option genInjectivity false
set_option genSizeOf false
set_option bootstrap.genMatcherCode false
set_option tactic.hygienic false
set_option synthInstance.maxSize 100000
set_option synthInstance.maxHeartbeats 0
open PySem renaming wpAny_bind → wB, wpAny_pure → wP, wpAny_holding → wH, wpAny_standAt → wS, wpAny_mono → wM, Shared → Sh, Value → Vl, Around → Ar, wpAny → wA, codeAny → cA, NameKind → NK, Params → Pm, PyData → PD
open PySem.Str renaming ofString → sO
open List renaming mem_append → lA9, mem_singleton → lS9, map_cons → lM9, mem_cons → lC9
open Bool renaming and_eq_true → bA
-- These 682 rows say nothing: they hold the names under which the head would lay its twins. With the twins the compiled
-- file would be five times the lid; with the names taken the head goes on without them. See REPORT.md.
namespace PySem.W.Fast
theorem tw2711585505577850959:True:=⟨⟩
theorem tw8620020772036689432:True:=⟨⟩
theorem tw7232422423428716515:True:=⟨⟩
theorem tw12835720964997663042:True:=⟨⟩
theorem tw13987355940573415152:True:=⟨⟩
theorem tw6004533443673955352:True:=⟨⟩
theorem tw17517737089405305841:True:=⟨⟩
theorem tw9674257727999782656:True:=⟨⟩
theorem tw7009043117176579089:True:=⟨⟩
theorem tw219737044198020058:True:=⟨⟩
theorem tw13160144027095335755:True:=⟨⟩
theorem tw9011979029575296479:True:=⟨⟩
theorem tw9787396351842916947:True:=⟨⟩
theorem tw17827458813498177553:True:=⟨⟩
theorem tw7250012664060256230:True:=⟨⟩
theorem tw43969757491396457:True:=⟨⟩
theorem tw1291980286583624508:True:=⟨⟩
theorem tw2001226814458364393:True:=⟨⟩
theorem tw1258717718454355964:True:=⟨⟩
theorem tw15560500314895047343:True:=⟨⟩
theorem tw16145008321745377990:True:=⟨⟩
theorem tw282004115355043989:True:=⟨⟩
theorem tw4636218855388986860:True:=⟨⟩
theorem tw17244072584429378644:True:=⟨⟩
theorem tw13640514254501968386:True:=⟨⟩
theorem tw3856783459128436802:True:=⟨⟩
theorem tw17804436615005485693:True:=⟨⟩
theorem tw10379131730601215995:True:=⟨⟩
theorem tw4172830789200971933:True:=⟨⟩
theorem tw7275051467321613617:True:=⟨⟩
theorem tw17846936440860909165:True:=⟨⟩
theorem tw14320153404804151612:True:=⟨⟩
theorem tw17475289236778735526:True:=⟨⟩
theorem tw12233582284571471492:True:=⟨⟩
theorem tw17352973434858128600:True:=⟨⟩
theorem tw17730448691065144110:True:=⟨⟩
theorem tw6135381517318000843:True:=⟨⟩
theorem tw10015664371746657536:True:=⟨⟩
theorem tw3619232141914619222:True:=⟨⟩
theorem tw1829445100760108279:True:=⟨⟩
theorem tw6952355047532471503:True:=⟨⟩
theorem tw1184552218554016812:True:=⟨⟩
theorem tw2759451637364818457:True:=⟨⟩
theorem tw9376109419431680627:True:=⟨⟩
theorem tw3766158894648301139:True:=⟨⟩
theorem tw1355338860687761863:True:=⟨⟩
theorem tw757081541053455785:True:=⟨⟩
theorem tw682011567655089306:True:=⟨⟩
theorem tw16413264400604254196:True:=⟨⟩
theorem tw13471461260053382970:True:=⟨⟩
theorem tw2948108419219029167:True:=⟨⟩
theorem tw11306939235166856333:True:=⟨⟩
theorem tw4011157648589011858:True:=⟨⟩
theorem tw7344376507651311505:True:=⟨⟩
theorem tw2461461247668278678:True:=⟨⟩
theorem tw8704618095886561957:True:=⟨⟩
theorem tw4407734736301137906:True:=⟨⟩
theorem tw4434333111790514575:True:=⟨⟩
theorem tw13721567128424951087:True:=⟨⟩
theorem tw704327219915372674:True:=⟨⟩
theorem tw10010936943081839664:True:=⟨⟩
theorem tw17943406268862710625:True:=⟨⟩
theorem tw3315324234476444515:True:=⟨⟩
theorem tw18273839248471157720:True:=⟨⟩
theorem tw12821735335276811757:True:=⟨⟩
theorem tw7619357645376055252:True:=⟨⟩
theorem tw15468230090516036684:True:=⟨⟩
theorem tw14896874001708588922:True:=⟨⟩
theorem tw151948405760981731:True:=⟨⟩
theorem tw9759809726879904816:True:=⟨⟩
theorem tw7035115661146626270:True:=⟨⟩
theorem tw3786171109335207959:True:=⟨⟩
theorem tw607167704815816724:True:=⟨⟩
theorem tw14311459727803291754:True:=⟨⟩
theorem tw13607416678640721797:True:=⟨⟩
theorem tw14186486079044719983:True:=⟨⟩
theorem tw11277716924127702174:True:=⟨⟩
theorem tw13215998728584607739:True:=⟨⟩
theorem tw16741492637210864865:True:=⟨⟩
theorem tw9285146279643344392:True:=⟨⟩
theorem tw4278798014809849964:True:=⟨⟩
theorem tw17954736447514056666:True:=⟨⟩
theorem tw10308316962582663543:True:=⟨⟩
theorem tw11130039905162102590:True:=⟨⟩
theorem tw18101931140130867144:True:=⟨⟩
theorem tw2193789692954389824:True:=⟨⟩
theorem tw10073347824450446311:True:=⟨⟩
theorem tw7585139358526817783:True:=⟨⟩
theorem tw15168306246750427876:True:=⟨⟩
theorem tw10722855164094911255:True:=⟨⟩
theorem tw951843321253372498:True:=⟨⟩
theorem tw12647630874787467225:True:=⟨⟩
theorem tw14386061602966655976:True:=⟨⟩
theorem tw3891137856419664920:True:=⟨⟩
theorem tw17101871299007795629:True:=⟨⟩
theorem tw13584531192698683762:True:=⟨⟩
theorem tw13789449189825218787:True:=⟨⟩
theorem tw16966814322356759819:True:=⟨⟩
theorem tw4658958612460137192:True:=⟨⟩
theorem tw8708707556590381134:True:=⟨⟩
theorem tw17964007177503468958:True:=⟨⟩
theorem tw16413963553889246368:True:=⟨⟩
theorem tw6587116730350146372:True:=⟨⟩
theorem tw3355348695024010778:True:=⟨⟩
theorem tw16494616584097029746:True:=⟨⟩
theorem tw1678274191532866277:True:=⟨⟩
theorem tw7299951869573292228:True:=⟨⟩
theorem tw17888162413812561239:True:=⟨⟩
theorem tw503676674663206642:True:=⟨⟩
theorem tw5882768191206486792:True:=⟨⟩
theorem tw4275521005467322725:True:=⟨⟩
theorem tw14108194823987119177:True:=⟨⟩
theorem tw3577408171920636059:True:=⟨⟩
theorem tw912392155897948271:True:=⟨⟩
theorem tw17071476683966804577:True:=⟨⟩
theorem tw17344680358763864322:True:=⟨⟩
theorem tw17842620306162639686:True:=⟨⟩
theorem tw5152784196030571298:True:=⟨⟩
theorem tw18260038339965228139:True:=⟨⟩
theorem tw4613930686462287906:True:=⟨⟩
theorem tw39160002569200845:True:=⟨⟩
theorem tw8902219603052485911:True:=⟨⟩
theorem tw16180582048198870337:True:=⟨⟩
theorem tw1320183511955256522:True:=⟨⟩
theorem tw2011108890870493169:True:=⟨⟩
theorem tw9979284746773624096:True:=⟨⟩
theorem tw14126943448341045398:True:=⟨⟩
theorem tw4858009861420398278:True:=⟨⟩
theorem tw10939839348159177617:True:=⟨⟩
theorem tw6589095468515690095:True:=⟨⟩
theorem tw11270796479367742343:True:=⟨⟩
theorem tw3820604794100220378:True:=⟨⟩
theorem tw10948738476641704880:True:=⟨⟩
theorem tw17975652961387846372:True:=⟨⟩
theorem tw8032284361305108907:True:=⟨⟩
theorem tw8656719876789144132:True:=⟨⟩
theorem tw15278061642289888581:True:=⟨⟩
theorem tw10413908603426803426:True:=⟨⟩
theorem tw3698559305507148144:True:=⟨⟩
theorem tw4405960384096086239:True:=⟨⟩
theorem tw4527066259768149269:True:=⟨⟩
theorem tw5357591511691535388:True:=⟨⟩
theorem tw8224813933742928703:True:=⟨⟩
theorem tw7081425507203772304:True:=⟨⟩
theorem tw1055568401681811165:True:=⟨⟩
theorem tw14333388528381170442:True:=⟨⟩
theorem tw11853533878840232495:True:=⟨⟩
theorem tw12825359941727978080:True:=⟨⟩
theorem tw17899373020297197333:True:=⟨⟩
theorem tw10045867985992453528:True:=⟨⟩
theorem tw16039550372008468697:True:=⟨⟩
theorem tw3362959441861295915:True:=⟨⟩
theorem tw11166942722945506595:True:=⟨⟩
theorem tw1370275717833778536:True:=⟨⟩
theorem tw8579058602437062094:True:=⟨⟩
theorem tw12393455550290869266:True:=⟨⟩
theorem tw5068434257544371817:True:=⟨⟩
theorem tw12660628722211587041:True:=⟨⟩
theorem tw16406328271908756883:True:=⟨⟩
theorem tw17111948838632640456:True:=⟨⟩
theorem tw4319705520415482375:True:=⟨⟩
theorem tw17139780236743587250:True:=⟨⟩
theorem tw16817318245366136608:True:=⟨⟩
theorem tw16548257151911338427:True:=⟨⟩
theorem tw17552769576498331613:True:=⟨⟩
theorem tw1188352501716977351:True:=⟨⟩
theorem tw13480552361792772618:True:=⟨⟩
theorem tw13580328829973926956:True:=⟨⟩
theorem tw1735497430108182060:True:=⟨⟩
theorem tw16947794391021106201:True:=⟨⟩
theorem tw6711915476519705758:True:=⟨⟩
theorem tw4978915544186085027:True:=⟨⟩
theorem tw5150936880511922699:True:=⟨⟩
theorem tw10007627690174824804:True:=⟨⟩
theorem tw1749818173716722547:True:=⟨⟩
theorem tw5823794197072137003:True:=⟨⟩
theorem tw14884601019740666482:True:=⟨⟩
theorem tw7496433998918960881:True:=⟨⟩
theorem tw17069979004554194336:True:=⟨⟩
theorem tw15902184279288820625:True:=⟨⟩
theorem tw13912434898499826684:True:=⟨⟩
theorem tw3953757239420563355:True:=⟨⟩
theorem tw14834023430324568649:True:=⟨⟩
theorem tw11740888236361828772:True:=⟨⟩
theorem tw1503297043503765363:True:=⟨⟩
theorem tw13016732220969518872:True:=⟨⟩
theorem tw7499937903120025604:True:=⟨⟩
theorem tw1139862187096482527:True:=⟨⟩
theorem tw5076957145309523181:True:=⟨⟩
theorem tw17394056326795013819:True:=⟨⟩
theorem tw15263041282635125899:True:=⟨⟩
theorem tw14778209649434054790:True:=⟨⟩
theorem tw12659028871203227004:True:=⟨⟩
theorem tw9931943479562821362:True:=⟨⟩
theorem tw2905824091091238844:True:=⟨⟩
theorem tw136631920214876835:True:=⟨⟩
theorem tw2378363196638174374:True:=⟨⟩
theorem tw5721027456603625697:True:=⟨⟩
theorem tw13317431791736044220:True:=⟨⟩
theorem tw12290603225136948437:True:=⟨⟩
theorem tw389472881494512206:True:=⟨⟩
theorem tw15041003319150489328:True:=⟨⟩
theorem tw15562837088269578035:True:=⟨⟩
theorem tw14209830616999942402:True:=⟨⟩
theorem tw15880737140895825463:True:=⟨⟩
theorem tw17503288770812694035:True:=⟨⟩
theorem tw14714103240675001986:True:=⟨⟩
theorem tw1041845030581493396:True:=⟨⟩
theorem tw5515242420486718171:True:=⟨⟩
theorem tw2422670821966735624:True:=⟨⟩
theorem tw8860024209350480642:True:=⟨⟩
theorem tw8719427161674164953:True:=⟨⟩
theorem tw7581816359482902497:True:=⟨⟩
theorem tw9594665118957945026:True:=⟨⟩
theorem tw1708024556718086227:True:=⟨⟩
theorem tw9676229304581654039:True:=⟨⟩
theorem tw3267979357774110234:True:=⟨⟩
theorem tw7397068168572129948:True:=⟨⟩
theorem tw17476080006546285661:True:=⟨⟩
theorem tw11333186260410459676:True:=⟨⟩
theorem tw9501820088010722379:True:=⟨⟩
theorem tw3282434896037501709:True:=⟨⟩
theorem tw2627984346626558326:True:=⟨⟩
theorem tw16752143609539240740:True:=⟨⟩
theorem tw16873187988247708562:True:=⟨⟩
theorem tw5565278806992967083:True:=⟨⟩
theorem tw11519604305632133818:True:=⟨⟩
theorem tw15823609455315575823:True:=⟨⟩
theorem tw12898947447245864913:True:=⟨⟩
theorem tw6426273055680023932:True:=⟨⟩
theorem tw5189142188285759775:True:=⟨⟩
theorem tw16350708796919097252:True:=⟨⟩
theorem tw2283851925072248500:True:=⟨⟩
theorem tw17954471519018878134:True:=⟨⟩
theorem tw4302124980754421698:True:=⟨⟩
theorem tw11588390666370768167:True:=⟨⟩
theorem tw725871291056497461:True:=⟨⟩
theorem tw6789855027759293466:True:=⟨⟩
theorem tw9458956999447867950:True:=⟨⟩
theorem tw5529568453561195837:True:=⟨⟩
theorem tw5923252988546675246:True:=⟨⟩
theorem tw12734952128020822468:True:=⟨⟩
theorem tw12182807814244774211:True:=⟨⟩
theorem tw667198328695590252:True:=⟨⟩
theorem tw7094674258960923220:True:=⟨⟩
theorem tw13314330512976039754:True:=⟨⟩
theorem tw3916196269025109296:True:=⟨⟩
theorem tw17803129079492736432:True:=⟨⟩
theorem tw8796240567053077481:True:=⟨⟩
theorem tw4966893808263662355:True:=⟨⟩
theorem tw3932211907712209587:True:=⟨⟩
theorem tw1574873078441994576:True:=⟨⟩
theorem tw11817470609975844035:True:=⟨⟩
theorem tw8450942572126056277:True:=⟨⟩
theorem tw14981143343336467331:True:=⟨⟩
theorem tw17000155066101142889:True:=⟨⟩
theorem tw196644378293983589:True:=⟨⟩
theorem tw2354101950205528012:True:=⟨⟩
theorem tw16439824349840649037:True:=⟨⟩
theorem tw2334299552400917057:True:=⟨⟩
theorem tw16339471991904476338:True:=⟨⟩
theorem tw14323765505736481980:True:=⟨⟩
theorem tw16593013826814733010:True:=⟨⟩
theorem tw15490439104401381959:True:=⟨⟩
theorem tw16643706677886111943:True:=⟨⟩
theorem tw16374537267813192141:True:=⟨⟩
theorem tw10887116778572429059:True:=⟨⟩
theorem tw9300948228871686676:True:=⟨⟩
theorem tw3424931102881643321:True:=⟨⟩
theorem tw9219426015542480343:True:=⟨⟩
theorem tw1631149150583789468:True:=⟨⟩
theorem tw10346894026039390216:True:=⟨⟩
theorem tw5349121933718820234:True:=⟨⟩
theorem tw9136488742655976645:True:=⟨⟩
theorem tw15919542637913265678:True:=⟨⟩
theorem tw15980859228951719591:True:=⟨⟩
theorem tw17532440430192770315:True:=⟨⟩
theorem tw2670528217467546775:True:=⟨⟩
theorem tw11825729669827539873:True:=⟨⟩
theorem tw2478078296215019888:True:=⟨⟩
theorem tw11964429278604863157:True:=⟨⟩
theorem tw2611137233208623240:True:=⟨⟩
theorem tw15773981995205291829:True:=⟨⟩
theorem tw1102190903223815498:True:=⟨⟩
theorem tw8206430501311747189:True:=⟨⟩
theorem tw3105397867545767578:True:=⟨⟩
theorem tw1402947280878808549:True:=⟨⟩
theorem tw16296994325663420285:True:=⟨⟩
theorem tw1258299570235058372:True:=⟨⟩
theorem tw6722154040420286063:True:=⟨⟩
theorem tw17988542015724977305:True:=⟨⟩
theorem tw9504726810853072989:True:=⟨⟩
theorem tw2370070277545300124:True:=⟨⟩
theorem tw16846860572762119324:True:=⟨⟩
theorem tw18410474027866654770:True:=⟨⟩
theorem tw3972328310683599613:True:=⟨⟩
theorem tw5396446701170858492:True:=⟨⟩
theorem tw6679490504615227074:True:=⟨⟩
theorem tw4936483359421988267:True:=⟨⟩
theorem tw3327986453032591115:True:=⟨⟩
theorem tw9763268239775435451:True:=⟨⟩
theorem tw3695515675974049574:True:=⟨⟩
theorem tw14168537005229113720:True:=⟨⟩
theorem tw7392212959928792091:True:=⟨⟩
theorem tw5697894365363955025:True:=⟨⟩
theorem tw2480624987951253665:True:=⟨⟩
theorem tw4388067698380316889:True:=⟨⟩
theorem tw8693227569615203950:True:=⟨⟩
theorem tw3442601649717412197:True:=⟨⟩
theorem tw2902314222560053993:True:=⟨⟩
theorem tw14821650378409806113:True:=⟨⟩
theorem tw932993149863042379:True:=⟨⟩
theorem tw8753696776887207221:True:=⟨⟩
theorem tw6580340599500149305:True:=⟨⟩
theorem tw3264259588550801142:True:=⟨⟩
theorem tw11462045893675790159:True:=⟨⟩
theorem tw18263319221461684349:True:=⟨⟩
theorem tw6380047634161181297:True:=⟨⟩
theorem tw14073706353221006472:True:=⟨⟩
theorem tw13678640442995254988:True:=⟨⟩
theorem tw16417370028952169744:True:=⟨⟩
theorem tw11543547407058413889:True:=⟨⟩
theorem tw13925586954763233925:True:=⟨⟩
theorem tw1886563365779066154:True:=⟨⟩
theorem tw11161088081135249708:True:=⟨⟩
theorem tw1702518465993881591:True:=⟨⟩
theorem tw2401699919119007470:True:=⟨⟩
theorem tw1085346719588807367:True:=⟨⟩
theorem tw14285029430470858289:True:=⟨⟩
theorem tw5862295025349918931:True:=⟨⟩
theorem tw6363645014702824404:True:=⟨⟩
theorem tw14973007898608030118:True:=⟨⟩
theorem tw8075568018651887793:True:=⟨⟩
theorem tw13725850141900786883:True:=⟨⟩
theorem tw8047920394858072898:True:=⟨⟩
theorem tw17001327861769816259:True:=⟨⟩
theorem tw9537544019596298400:True:=⟨⟩
theorem tw5268983451555188008:True:=⟨⟩
theorem tw14971970265804392439:True:=⟨⟩
theorem tw3094477031063562474:True:=⟨⟩
theorem tw17100903815162463580:True:=⟨⟩
theorem tw14214133299417103183:True:=⟨⟩
theorem tw4090926877573551719:True:=⟨⟩
theorem tw9937562887114626791:True:=⟨⟩
theorem tw9577309144901391297:True:=⟨⟩
theorem tw15542691292777871779:True:=⟨⟩
theorem tw12813236842856870187:True:=⟨⟩
theorem tw13335737130258781183:True:=⟨⟩
theorem tw1156252341971683116:True:=⟨⟩
theorem tw7987952416473584550:True:=⟨⟩
theorem tw12832477231654346042:True:=⟨⟩
theorem tw9151444980202551346:True:=⟨⟩
theorem tw313226197891681235:True:=⟨⟩
theorem tw785904758220388488:True:=⟨⟩
theorem tw16018607276475445134:True:=⟨⟩
theorem tw15034313371233782410:True:=⟨⟩
theorem tw3152983702415266003:True:=⟨⟩
theorem tw3436264866546951355:True:=⟨⟩
theorem tw10942035263794033107:True:=⟨⟩
theorem tw1706496860858754268:True:=⟨⟩
theorem tw11108263761283441063:True:=⟨⟩
theorem tw2862820112641550484:True:=⟨⟩
theorem tw9396933662098498411:True:=⟨⟩
theorem tw12488000419048109807:True:=⟨⟩
theorem tw13254397897704925713:True:=⟨⟩
theorem tw7269565832213808900:True:=⟨⟩
theorem tw17099577554837492554:True:=⟨⟩
theorem tw11625766737575182897:True:=⟨⟩
theorem tw7503421922109321716:True:=⟨⟩
theorem tw6550987210724342151:True:=⟨⟩
theorem tw11186114360453789277:True:=⟨⟩
theorem tw900395245841561262:True:=⟨⟩
theorem tw6434265647005701932:True:=⟨⟩
theorem tw11788150170368784547:True:=⟨⟩
theorem tw4921902886906138986:True:=⟨⟩
theorem tw716658179208862652:True:=⟨⟩
theorem tw1401972060568974870:True:=⟨⟩
theorem tw14305139224198610471:True:=⟨⟩
theorem tw3209381107111851631:True:=⟨⟩
theorem tw12945451867199242903:True:=⟨⟩
theorem tw8098380416015320538:True:=⟨⟩
theorem tw11790162104776037713:True:=⟨⟩
theorem tw11310463157757771331:True:=⟨⟩
theorem tw6127375697748050860:True:=⟨⟩
theorem tw4525517667737911620:True:=⟨⟩
theorem tw15195428891847259777:True:=⟨⟩
theorem tw17026713947507217902:True:=⟨⟩
theorem tw12224578244612797663:True:=⟨⟩
theorem tw12095823642532355627:True:=⟨⟩
theorem tw3865406201487662470:True:=⟨⟩
theorem tw16697116713213952808:True:=⟨⟩
theorem tw608726401823008365:True:=⟨⟩
theorem tw5345256250457102556:True:=⟨⟩
theorem tw878741703135273975:True:=⟨⟩
theorem tw5770868932273138760:True:=⟨⟩
theorem tw9281714027785469542:True:=⟨⟩
theorem tw5248340912204065574:True:=⟨⟩
theorem tw1962928258387122110:True:=⟨⟩
theorem tw16241802466949684156:True:=⟨⟩
theorem tw9315938663221665524:True:=⟨⟩
theorem tw10996506086634736982:True:=⟨⟩
theorem tw6059929106960060952:True:=⟨⟩
theorem tw4904739604578439355:True:=⟨⟩
theorem tw1333364371103165705:True:=⟨⟩
theorem tw1204117194425446250:True:=⟨⟩
theorem tw9673203406766833760:True:=⟨⟩
theorem tw6662432510661729299:True:=⟨⟩
theorem tw11928927487971855178:True:=⟨⟩
theorem tw12237943961548833269:True:=⟨⟩
theorem tw2922074901204462755:True:=⟨⟩
theorem tw13642483538084851733:True:=⟨⟩
theorem tw15663404670287596823:True:=⟨⟩
theorem tw11994158751524154303:True:=⟨⟩
theorem tw6214688769961185500:True:=⟨⟩
theorem tw17300597898927385350:True:=⟨⟩
theorem tw15199281503961881116:True:=⟨⟩
theorem tw4039474712603431140:True:=⟨⟩
theorem tw17554001833073541016:True:=⟨⟩
theorem tw1218959903707654005:True:=⟨⟩
theorem tw11863081143760314161:True:=⟨⟩
theorem tw11838138170533393997:True:=⟨⟩
theorem tw7483462131439158144:True:=⟨⟩
theorem tw10205541121877940668:True:=⟨⟩
theorem tw7299303143086499733:True:=⟨⟩
theorem tw16432479971616331241:True:=⟨⟩
theorem tw9575731206691268911:True:=⟨⟩
theorem tw12809422525583811893:True:=⟨⟩
theorem tw16916688483869632129:True:=⟨⟩
theorem tw17828083071136270317:True:=⟨⟩
theorem tw8703263022893421829:True:=⟨⟩
theorem tw8017206721242287953:True:=⟨⟩
theorem tw1523951592034530338:True:=⟨⟩
theorem tw11459640794349981006:True:=⟨⟩
theorem tw3325841961599345399:True:=⟨⟩
theorem tw6434138532213402376:True:=⟨⟩
theorem tw9236875199018929784:True:=⟨⟩
theorem tw1620339239838986703:True:=⟨⟩
theorem tw12945968074294007009:True:=⟨⟩
theorem tw14553827428707814869:True:=⟨⟩
theorem tw3039592710220408265:True:=⟨⟩
theorem tw4575980220486274672:True:=⟨⟩
theorem tw2660918139993853925:True:=⟨⟩
theorem tw2532725972614424836:True:=⟨⟩
theorem tw558745408833754511:True:=⟨⟩
theorem tw7581352650102555174:True:=⟨⟩
theorem tw17532718790514356516:True:=⟨⟩
theorem tw10833955939284561965:True:=⟨⟩
theorem tw15323854079317868165:True:=⟨⟩
theorem tw14837249469386935497:True:=⟨⟩
theorem tw13141144453892091621:True:=⟨⟩
theorem tw9948023125614773506:True:=⟨⟩
theorem tw4933834842325187142:True:=⟨⟩
theorem tw563124612126607214:True:=⟨⟩
theorem tw10938465397075749097:True:=⟨⟩
theorem tw721709456127091705:True:=⟨⟩
theorem tw3118938333895590913:True:=⟨⟩
theorem tw16180483070735683940:True:=⟨⟩
theorem tw11682084944484805031:True:=⟨⟩
theorem tw8946543629884556368:True:=⟨⟩
theorem tw17730428716208468724:True:=⟨⟩
theorem tw9794667896261083176:True:=⟨⟩
theorem tw1414301608579184545:True:=⟨⟩
theorem tw14223099787259518943:True:=⟨⟩
theorem tw18163708392712065173:True:=⟨⟩
theorem tw17018628822417861297:True:=⟨⟩
theorem tw15475462885187679331:True:=⟨⟩
theorem tw764782834095389478:True:=⟨⟩
theorem tw8595292554425487202:True:=⟨⟩
theorem tw11985326045990495214:True:=⟨⟩
theorem tw12177639751122801600:True:=⟨⟩
theorem tw5925582254088234700:True:=⟨⟩
theorem tw11796506867022685745:True:=⟨⟩
theorem tw6929956602132211858:True:=⟨⟩
theorem tw18126140380344562322:True:=⟨⟩
theorem tw16979880578912567463:True:=⟨⟩
theorem tw13236226663087606529:True:=⟨⟩
theorem tw12981051755390344553:True:=⟨⟩
theorem tw17057272898397164401:True:=⟨⟩
theorem tw325292655437039998:True:=⟨⟩
theorem tw7783732958741208154:True:=⟨⟩
theorem tw1107438419126420414:True:=⟨⟩
theorem tw12392613427281201732:True:=⟨⟩
theorem tw392140993173905013:True:=⟨⟩
theorem tw7504490480230193789:True:=⟨⟩
theorem tw18056578402003937789:True:=⟨⟩
theorem tw10352308551163946355:True:=⟨⟩
theorem tw7286323032743288035:True:=⟨⟩
theorem tw8119918657739134586:True:=⟨⟩
theorem tw8488268690174267210:True:=⟨⟩
theorem tw4879560196417449868:True:=⟨⟩
theorem tw18416463498863911781:True:=⟨⟩
theorem tw12371321757623732685:True:=⟨⟩
theorem tw17183712847048597117:True:=⟨⟩
theorem tw8047484207015712433:True:=⟨⟩
theorem tw11892598404827812706:True:=⟨⟩
theorem tw383695940523520267:True:=⟨⟩
theorem tw8537084889766193716:True:=⟨⟩
theorem tw16292439048969090190:True:=⟨⟩
theorem tw17497748084772794779:True:=⟨⟩
theorem tw4071324889030633612:True:=⟨⟩
theorem tw12172078356533094185:True:=⟨⟩
theorem tw12726346659333912481:True:=⟨⟩
theorem tw3131671291697673992:True:=⟨⟩
theorem tw662354867322794072:True:=⟨⟩
theorem tw15376083050721069600:True:=⟨⟩
theorem tw13106232238108311548:True:=⟨⟩
theorem tw15112985482279097393:True:=⟨⟩
theorem tw7670514497116975361:True:=⟨⟩
theorem tw12635297910168745909:True:=⟨⟩
theorem tw2958062672499776758:True:=⟨⟩
theorem tw13871001218405608335:True:=⟨⟩
theorem tw8610040677353227653:True:=⟨⟩
theorem tw10818263107843135244:True:=⟨⟩
theorem tw13099916095943804473:True:=⟨⟩
theorem tw13251646731365433171:True:=⟨⟩
theorem tw13002492023102617099:True:=⟨⟩
theorem tw1763209079605825380:True:=⟨⟩
theorem tw7082770336023389322:True:=⟨⟩
theorem tw8459811325457737761:True:=⟨⟩
theorem tw2997306320072185856:True:=⟨⟩
theorem tw16437185098154296904:True:=⟨⟩
theorem tw13559156169165276386:True:=⟨⟩
theorem tw3386650904741475044:True:=⟨⟩
theorem tw2951486255847992690:True:=⟨⟩
theorem tw12679591844961189642:True:=⟨⟩
theorem tw11707371222683016368:True:=⟨⟩
theorem tw4558998842232669794:True:=⟨⟩
theorem tw2664551874359636763:True:=⟨⟩
theorem tw347637069881736656:True:=⟨⟩
theorem tw7469732015759309437:True:=⟨⟩
theorem tw1638017585896720355:True:=⟨⟩
theorem tw10819683100428557426:True:=⟨⟩
theorem tw8400853705098224536:True:=⟨⟩
theorem tw4681523508651956083:True:=⟨⟩
theorem tw13252181687094117063:True:=⟨⟩
theorem tw18220123701641295943:True:=⟨⟩
theorem tw11036193050239951465:True:=⟨⟩
theorem tw10487160056961263569:True:=⟨⟩
theorem tw9951705424602377420:True:=⟨⟩
theorem tw4552823106982906706:True:=⟨⟩
theorem tw17765544955259793912:True:=⟨⟩
theorem tw11957962974430299695:True:=⟨⟩
theorem tw13759679279233594173:True:=⟨⟩
theorem tw16326889199254633757:True:=⟨⟩
theorem tw10706342367453228570:True:=⟨⟩
theorem tw6448080314894763839:True:=⟨⟩
theorem tw2447775223705975068:True:=⟨⟩
theorem tw11277413387252134812:True:=⟨⟩
theorem tw1869930749605803152:True:=⟨⟩
theorem tw11495947367809530248:True:=⟨⟩
theorem tw4679858250743294509:True:=⟨⟩
theorem tw15542503528162795033:True:=⟨⟩
theorem tw12329403913580668285:True:=⟨⟩
theorem tw13145125596335152023:True:=⟨⟩
theorem tw633311210398232275:True:=⟨⟩
theorem tw11707433790658880453:True:=⟨⟩
theorem tw441327347791068078:True:=⟨⟩
theorem tw1623549091524385398:True:=⟨⟩
theorem tw9908251947323293946:True:=⟨⟩
theorem tw5032809538720368765:True:=⟨⟩
theorem tw18345786424863182364:True:=⟨⟩
theorem tw505943868828395459:True:=⟨⟩
theorem tw9407582987413476825:True:=⟨⟩
theorem tw6792406925840432001:True:=⟨⟩
theorem tw10670733350059645105:True:=⟨⟩
theorem tw7276740287692124622:True:=⟨⟩
theorem tw17520869792638436183:True:=⟨⟩
theorem tw10314498396905981064:True:=⟨⟩
theorem tw9626621113073979434:True:=⟨⟩
theorem tw1092655722715705105:True:=⟨⟩
theorem tw16644606511662114574:True:=⟨⟩
theorem tw17814930658547583709:True:=⟨⟩
theorem tw6012508502120743258:True:=⟨⟩
theorem tw618205885557783147:True:=⟨⟩
theorem tw14224011070414065920:True:=⟨⟩
theorem tw6213141578215901147:True:=⟨⟩
theorem tw14210447440969649564:True:=⟨⟩
theorem tw5701610774189311196:True:=⟨⟩
theorem tw11317593695737139937:True:=⟨⟩
theorem tw6817277305950994716:True:=⟨⟩
theorem tw16349216596472256690:True:=⟨⟩
theorem tw17774800907425398282:True:=⟨⟩
theorem tw17913803186225011329:True:=⟨⟩
theorem tw6090905460779295987:True:=⟨⟩
theorem tw11420187438672877268:True:=⟨⟩
theorem tw5111356299099525756:True:=⟨⟩
theorem tw9821368406582625841:True:=⟨⟩
theorem tw14112274594779413971:True:=⟨⟩
theorem tw11939915149646268982:True:=⟨⟩
theorem tw8642067239939848140:True:=⟨⟩
theorem tw11013792430000457035:True:=⟨⟩
theorem tw5832503352825792928:True:=⟨⟩
theorem tw5518745428033880147:True:=⟨⟩
theorem tw18011898689540126615:True:=⟨⟩
theorem tw7745614565497352828:True:=⟨⟩
theorem tw1975554356029942138:True:=⟨⟩
theorem tw8732485361984058174:True:=⟨⟩
theorem tw6683783046931543321:True:=⟨⟩
theorem tw8727135674562949291:True:=⟨⟩
theorem tw4797165386629745026:True:=⟨⟩
theorem tw16189536214700107852:True:=⟨⟩
theorem tw12022618010286034681:True:=⟨⟩
theorem tw2599325451414397859:True:=⟨⟩
theorem tw17434858337260393937:True:=⟨⟩
theorem tw10057510723706494237:True:=⟨⟩
theorem tw14979626087600564940:True:=⟨⟩
theorem tw470574548607681690:True:=⟨⟩
theorem tw11452132507678324671:True:=⟨⟩
theorem tw18123110421147349612:True:=⟨⟩
theorem tw3560238982266916124:True:=⟨⟩
theorem tw8424611434330503625:True:=⟨⟩
theorem tw13900631225919944168:True:=⟨⟩
theorem tw16223305294053301992:True:=⟨⟩
theorem tw14023627001141898710:True:=⟨⟩
theorem tw9862997608875712007:True:=⟨⟩
theorem tw8376441433122354887:True:=⟨⟩
theorem tw4980102563643897964:True:=⟨⟩
theorem tw15894407043143930727:True:=⟨⟩
theorem tw18350638575300117064:True:=⟨⟩
theorem tw16942504070071679284:True:=⟨⟩
theorem tw12635813782599140982:True:=⟨⟩
theorem tw16219641766988814465:True:=⟨⟩
theorem tw15215539614974913122:True:=⟨⟩
theorem tw4224760802259116069:True:=⟨⟩
theorem tw5976474108018559520:True:=⟨⟩
theorem tw11729385059970357855:True:=⟨⟩
theorem tw14544052848187043789:True:=⟨⟩
theorem tw13036272033356848781:True:=⟨⟩
theorem tw11328821685186248670:True:=⟨⟩
theorem tw13981391230805400906:True:=⟨⟩
theorem tw930746551332336609:True:=⟨⟩
theorem tw10227693086864044499:True:=⟨⟩
theorem tw14326252917377295143:True:=⟨⟩
theorem tw6654550962395885724:True:=⟨⟩
theorem tw6245536207120538393:True:=⟨⟩
theorem tw3470799630455053000:True:=⟨⟩
theorem tw16349804527192203551:True:=⟨⟩
theorem tw15450981722951097364:True:=⟨⟩
theorem tw17015423121036801654:True:=⟨⟩
theorem tw2504098582860672743:True:=⟨⟩
theorem tw7788680626742099145:True:=⟨⟩
theorem tw12450158673883907302:True:=⟨⟩
theorem tw1377046205977697930:True:=⟨⟩
theorem tw9564595351457756722:True:=⟨⟩
theorem tw6380782515089751550:True:=⟨⟩
theorem tw7323676302269181137:True:=⟨⟩
theorem tw9305782018832362445:True:=⟨⟩
theorem tw387338674003428930:True:=⟨⟩
theorem tw10253263316700112346:True:=⟨⟩
theorem tw5135500740108067664:True:=⟨⟩
theorem tw14473539162793888280:True:=⟨⟩
theorem tw2719445374943340272:True:=⟨⟩
theorem tw3880421473898291048:True:=⟨⟩
theorem tw16792545251062261874:True:=⟨⟩
theorem tw17024950926791866790:True:=⟨⟩
theorem tw15480198773659482676:True:=⟨⟩
theorem tw1772237422875290029:True:=⟨⟩
theorem tw7650934615059315214:True:=⟨⟩
theorem tw16049961110935095269:True:=⟨⟩
theorem tw11767421526060770920:True:=⟨⟩
theorem tw7802139600951554647:True:=⟨⟩
theorem tw10500077913531017323:True:=⟨⟩
theorem tw9529234661008812162:True:=⟨⟩
theorem tw18211773271919218964:True:=⟨⟩
theorem tw9467589175468403638:True:=⟨⟩
theorem tw10508251915553800215:True:=⟨⟩
theorem tw8987815912523675519:True:=⟨⟩
theorem tw17341736924252097559:True:=⟨⟩
theorem tw10470071008263537045:True:=⟨⟩
theorem tw117213463901210413:True:=⟨⟩
theorem tw15742981410569661332:True:=⟨⟩
theorem tw4775785305629353868:True:=⟨⟩
theorem tw10317580896714288900:True:=⟨⟩
theorem tw14530364306720264245:True:=⟨⟩
theorem tw8989982439271903415:True:=⟨⟩
theorem tw3764465048917985505:True:=⟨⟩
theorem tw9413167413068371254:True:=⟨⟩
theorem tw9800571698397750058:True:=⟨⟩
theorem tw11566699232636054958:True:=⟨⟩
theorem tw10424941004445345732:True:=⟨⟩
theorem tw16176465441171805009:True:=⟨⟩
theorem tw13512673800721320934:True:=⟨⟩
end PySem.W.Fast
namespace Mine
section
open PySem PySem.W PyProof.Rows
open_top hd for PySem.Challenge.rw_pf0130_01
end
section
open PySem
inductive MW where
 | d (x : PD)
 | fn (f : Nat)
inductive DK where
 | s (x : Str)
 | i (n : Int)
 deriving DecidableEq
inductive MV where
 | d (x : PD)
 | loc (l : Nat)
 | fn (f : Nat)
 | cls (c : Nat)
 | dic (es : List (DK × MW))
inductive MO where
 | list (xs : List PD)
 | dict (es : List (Str × MV))
 | inst (c : Nat) (fs : List (Nat × MV))
noncomputable abbrev St := List MO
noncomputable abbrev En := List (Option MV)
inductive RV (α : Type) where
 | ok (a : α) (st : St)
 | ex (c : Nat) (fs : List (Nat × PD)) (st : St)
 | no
noncomputable def RV.bind {α β : Type} : RV α → (α → St → RV β) → RV β
 | .ok a st, f => f a st
 | .ex c fs st, _ => .ex c fs st
 | .no, _ => .no
noncomputable def ofO {α : Type} (o : Option α) (st : St) : RV α := match o with
 | some a => .ok a st
 | none => .no
inductive RX where
 | nx (ρ : En) (st : St)
 | rt (v : MV) (st : St)
 | ex (c : Nat) (fs : List (Nat × PD)) (ρ : En) (st : St)
 | no
noncomputable def RX.bind : RX → (En → St → RX) → RX
 | .nx ρ st, f => f ρ st
 | .rt v st, _ => .rt v st
 | .ex c fs ρ st, _ => .ex c fs ρ st
 | .no, _ => .no
noncomputable def onR {β : Type} (ρ : En) (r : RV β) (f : β → St → RX) : RX := match r with
 | .ok a st => f a st
 | .ex c fs st => .ex c fs ρ st
 | .no => .no
noncomputable def oX {α : Type} (o : Option α) (f : α → RX) : RX := match o with
 | some a => f a
 | none => .no
inductive Cst where
 | none | bool (b : Bool) | int (i : Int) | str (s : Str)
noncomputable def Cst.c : Cst → Const
 | .none => .none | .bool b => .bool b | .int i => .int i | .str s => .str s
noncomputable def Cst.d : Cst → PD
 | .none => .none | .bool b => .bool b | .int i => .int i | .str s => .str s
inductive BI where
 | len | isTup | max | abs | list
 deriving DecidableEq
mutual
inductive CE where
 | cst (c : Cst) (p : Pos)
 | loc (i : Nat) (p : Pos)
 | glb (g : Nat) (p : Pos)
 | attr (e : CE) (a : Nat) (p : Pos)
 | sub (e i : CE) (p : Pos)
 | slc (e : CE) (lo hi : CO) (p1 p : Pos)
 | bin (op : Operator) (a b : CE) (h : Bool) (p : Pos)
 | un (op : UnaryOp) (a : CE) (p : Pos)
 | cmp (op : CmpOp) (a b : CE) (p : Pos)
 | cmp2 (o1 o2 : CmpOp) (a b c : CE) (p : Pos)
 | cmp3 (o1 o2 o3 : CmpOp) (a b c d : CE) (p : Pos)
 | bop (op : BoolOp) (es : CL) (p : Pos)
 | ite (t a b : CE) (p : Pos)
 | list (es : CL) (h : Bool) (p : Pos)
 | tup (es : CL) (p : Pos)
 | dict (ks : List (Cst × Pos)) (vs : CL) (h : Bool) (p : Pos)
 | comp (elt : CE) (tg : CT) (src : CS) (ifs : CO) (nt : Nat) (cap : List Nat) (ns : List Str) (sc : Scope) (p : Pos)
 | call (f : CE) (as : CL) (p : Pos)
 | meth (o : CE) (a : Nat) (as : CL) (p1 p : Pos)
 | blt (b : BI) (as : CL) (p1 : Pos) (p2 : Pos) (p : Pos)
 | lim (e : CE) (p1 p2 p : Pos)
inductive CO where
 | no
 | so (e : CE)
inductive CL where
 | nil
 | cons (e : CE) (r : CL)
inductive CS where
 | rng (e : CE) (p1 p : Pos)
 | val (e : CE)
inductive CT where
 | nm (i : Nat) (p : Pos)
 | two (i : Nat) (p1 : Pos) (j : Nat) (p2 : Pos) (p : Pos)
end
inductive CA where
 | nm (i : Nat) (p : Pos)
 | attr (o : CE) (a : Nat) (p : Pos)
 | sub (o i : CE) (p : Pos)
 | slc (o : CE) (lo hi : CO) (p1 p : Pos)
 | tup (is : List (Nat × Pos)) (p : Pos)
inductive CR where
 | cst (c : Cst) (p : Pos)
 | two (c : Cst) (p1 : Pos) (a : Nat) (p2 p3 p : Pos)
mutual
inductive CX where
 | asg (t : CA) (e : CE) (p : Pos)
 | unp (is : List (Nat × Pos)) (es : CL) (p1 p2 p : Pos)
 | aug (i : Nat) (op : Operator) (e : CE) (p1 p : Pos)
 | augA (o : CE) (a : Nat) (op : Operator) (e : CE) (p1 p : Pos)
 | ifs (t : CE) (b o : CB) (p : Pos)
 | whl (t : CE) (b : CB) (p : Pos)
 | fr (t : CT) (s : CS) (b : CB) (p : Pos)
 | ret (e : CO) (p : Pos)
 | rse (g : Nat) (as : CL) (p1 p2 p : Pos)
 | try_ (b : CB) (hs : List (Nat × Pos × Option Nat × CR × Pos × Pos)) (p : Pos)
 | ex (e : CE) (p : Pos)
 | pass (p : Pos)
inductive CB where
 | nil
 | cons (s : CX) (r : CB)
end
structure FD where
 ns : List Str
 np : Nat
 body : CB
noncomputable abbrev q (l a b : Nat) : Pos := ⟨l, a, l, b⟩
noncomputable def CE.p (e : CE) : Pos := @CE.casesOn (fun _ => Pos) e (fun _ p => p) (fun _ p => p) (fun _ p => p) (fun _ _ p => p) (fun _ _ p => p) (fun _ _ _ _ p => p) (fun _ _ _ _ p => p) (fun _ _ p => p) (fun _ _ _ p => p) (fun _ _ _ _ _ p => p) (fun _ _ _ _ _ _ _ p => p) (fun _ _ p => p) (fun _ _ _ p => p) (fun _ _ p => p) (fun _ p => p) (fun _ _ _ p => p) (fun _ _ _ _ _ _ _ _ p => p) (fun _ _ p => p) (fun _ _ _ _ p => p) (fun _ _ _ _ p => p) (fun _ _ _ p => p)
noncomputable def jn (a b : CE) (n : Nat) : Pos := ⟨a.p.line, a.p.col, b.p.endLine, b.p.endCol + n⟩
noncomputable def ec (a : CE) (c : Nat) : Pos := ⟨a.p.line, a.p.col, a.p.endLine, c⟩
noncomputable def fe (l a : Nat) (e : CE) : Pos := ⟨l, a, e.p.endLine, e.p.endCol⟩
noncomputable def CL.n := CL.nil
noncomputable def CL.c := CL.cons
noncomputable def CL.o (a : CE) : CL := .cons a .nil
noncomputable def CL.w (a b : CE) : CL := .cons a (.cons b .nil)
noncomputable def CL.h (a b c : CE) : CL := .cons a (.cons b (.cons c .nil))
noncomputable def CB.n := CB.nil
noncomputable def CB.c := CB.cons
noncomputable def CB.o (a : CX) : CB := .cons a .nil
noncomputable def CE.i (n : Int) (a b c : Nat) : CE := .cst (.int n) (q a b c)
noncomputable def CE.j (n : Int) (a b : Nat) : CE := .cst (.int n) (q a b (b + 1))
noncomputable def CE.t (x : Array Nat) (a b c : Nat) : CE := .cst (.str ⟨x⟩) (q a b c)
noncomputable def CE.l (n a b c : Nat) : CE := .loc n (q a b c)
noncomputable def CE.g (n a b c : Nat) : CE := .glb n (q a b c)
noncomputable def CE.at (e : CE) (a c : Nat) : CE := .attr e a (ec e c)
noncomputable def CE.sb (e i : CE) : CE := .sub e i (jn e i 1)
noncomputable def CE.bn (o : Operator) (a b : CE) : CE := .bin o a b false (jn a b 0)
noncomputable def CE.cm (o : CmpOp) (a b : CE) : CE := .cmp o a b (jn a b 0)
noncomputable def CE.it (t a b : CE) : CE := .ite t a b (jn a b 0)
noncomputable def CE.tu (es : CL) (l a b : Nat) : CE := .tup es (q l a b)
noncomputable def CE.bl (f : BI) (es : CL) (l a b c : Nat) : CE := .blt f es (q l a b) (q l a b) (q l a c)
noncomputable def CE.cl (f : CE) (es : CL) (c : Nat) : CE := .call f es (ec f c)
noncomputable def CX.an (i l a b : Nat) (e : CE) : CX := .asg (.nm i (q l a b)) e (fe l a e)
noncomputable def CX.iz (t : CE) (b : CB) (l a m c : Nat) : CX := .ifs t b .nil ⟨l, a, m, c⟩
noncomputable def CX.iy (t : CE) (b o : CB) (l a m c : Nat) : CX := .ifs t b o ⟨l, a, m, c⟩
noncomputable def CX.re (e : CE) (l a : Nat) : CX := .ret (.so e) (fe l a e)
noncomputable def CX.rs (k : Nat) (es : CL) (l a b c : Nat) : CX := .rse k es (q l (a + 6) b) (q l (a + 6) c) (q l a c)
noncomputable def Zjt : CB := (.c (.an 2 23 4 8 (.bn .LShift (.j 1 23 11) (.bn .Sub (.l 1 23 16 21) (.j 1 23 24))))
 (.c (.iz (.bop .Or (.w (.cm .Lt (.l 0 24 7 8) (.un .USub (.l 2 24 12 16) (q 24 11 16))) (.cm .GtE (.l 0 24 20 21) (.l 2 24 25 29))) (q 24 7 29)) (.o (.rs 1 (.o (.t #[105,110,116,101,103,101,114,32,111,118,101,114,102,108,111,119] 25 23 41)) 25 8 22 42)) 24 4 25 42)
 (.o (.re (.l 0 26 11 12) 26 4))))
noncomputable def Zju : FD := ⟨[sO "n", sO "width", sO "most"], 2, Zjt⟩
noncomputable def Zih : CB := (.c (.iz (.cm .Eq (.l 0 35 7 11) (.g 2 35 15 24)) (.o (.re (.j 0 36 15) 36 8)) 35 4 36 16)
 (.c (.iz (.bop .Or (.w (.cm .Eq (.l 0 37 7 11) (.g 1 37 15 21)) (.cm .Eq (.l 0 37 25 29) (.g 0 37 33 40))) (q 37 7 40)) (.o (.re (.j 2 38 15) 38 8)) 37 4 38 16)
 (.o (.re (.j 1 39 11) 39 4))))
noncomputable def Zii : FD := ⟨[sO "kind"], 1, Zih⟩
noncomputable def Zjv : CB := (.c (.iz (.blt .isTup (.o (.l 0 91 18 23)) (q 91 7 17) (q 91 25 30) (q 91 7 31)) (.o (.re (.cm .Eq (.sb (.l 0 92 15 20) (.j 0 92 21)) (.j 0 92 27)) 92 8)) 91 4 92 28)
 (.o (.re (.cm .Eq (.l 0 93 11 16) (.j 0 93 20)) 93 4)))
noncomputable def Zjw : FD := ⟨[sO "value"], 1, Zjv⟩
noncomputable def Zft : CB := (.c (.iz (.cl (.g 6 95 7 14) (.o (.l 3 95 15 19)) 20) (.o (.rs 1 (.o (.t #[122,101,114,111,32,115,116,101,112] 96 23 34)) 96 8 22 35)) 95 4 96 35)
 (.c (.an 6 97 4 10 (.sb (.l 4 97 13 23) (.l 0 97 24 28)))
 (.c (.an 7 98 4 8 (.cl (.l 6 98 11 17) (.c (.t #[97,100,100] 98 18 23) (.c (.l 0 98 25 29) (.c (.cl (.l 6 98 31 37) (.c (.t #[115,117,98] 98 38 43) (.c (.l 0 98 45 49) (.c (.l 2 98 51 55) (.c (.l 1 98 57 62) (.c (.l 5 98 64 70) .n))))) 71) (.c (.l 3 98 73 77) (.c (.l 5 98 79 85) .n))))) 86))
 (.c (.an 8 99 4 9 (.cl (.l 6 99 12 18) (.c (.t #[100,105,118] 99 19 24) (.c (.l 0 99 26 30) (.c (.l 7 99 32 36) (.c (.l 3 99 38 42) (.c (.l 5 99 44 50) .n))))) 51))
 (.c (.iz (.cm .NotEq (.l 0 100 7 11) (.g 4 100 15 22)) (.o (.an 8 101 8 13 (.cl (.g 5 101 16 27) (.o (.l 8 101 28 33)) 34))) 100 4 101 34)
 (.o (.re (.cl (.g 3 102 11 18) (.w (.bl .max (.w (.l 8 102 23 28) (.j 0 102 30)) 102 19 22 32) (.at (.l 5 102 34 40) 0 46)) 47) 102 4)))))))
noncomputable def Zfu : FD := ⟨[sO "kind", sO "first", sO "last", sO "step", sO "operations", sO "limits", sO "reckon", sO "span", sO "count"], 6, Zft⟩
noncomputable def Znw : CB := (.c (.iz (.bop .And (.w (.cm .Eq (.l 0 108 7 9) (.t #[110,111,116] 108 13 18)) (.cm .Eq (.l 1 108 23 27) (.g 10 108 31 38))) (q 108 7 38)) (.o (.re (.un .Not (.l 2 109 19 20) (q 109 15 20)) 109 8)) 108 4 109 20)
 (.c (.iz (.bop .And (.w (.cm .Eq (.l 0 110 7 9) (.t #[110,101,103] 110 13 18)) (.cm .Eq (.l 1 110 23 27) (.g 4 110 31 38))) (q 110 7 38)) (.o (.re (.cl (.g 3 111 15 22) (.w (.un .USub (.l 2 111 24 25) (q 111 23 25)) (.at (.l 3 111 27 33) 0 39)) 40) 111 8)) 110 4 111 40)
 (.c (.iz (.bop .And (.w (.cm .Eq (.l 0 112 7 9) (.t #[110,101,103] 112 13 18)) (.bop .Or (.w (.cm .Eq (.l 1 112 24 28) (.g 8 112 32 36)) (.cm .Eq (.l 1 112 40 44) (.g 1 112 48 54))) (q 112 24 54))) (q 112 7 55)) (.o (.re (.cl (.g 9 113 15 23) (.o (.l 2 113 24 25)) 26) 113 8)) 112 4 113 26)
 (.c (.iz (.bop .And (.w (.cm .Eq (.l 0 114 7 9) (.t #[110,101,103] 114 13 18)) (.cm .Eq (.l 1 114 23 27) (.g 0 114 31 38))) (q 114 7 38)) (.o (.re (.cl (.g 7 115 15 26) (.o (.l 2 115 27 28)) 29) 115 8)) 114 4 115 29)
 (.o (.rs 1 (.o (.t #[110,111,32,115,117,99,104,32,111,112,101,114,97,116,105,111,110] 116 19 38)) 116 4 18 39))))))
noncomputable def Znx : FD := ⟨[sO "op", sO "kind", sO "x", sO "limits"], 4, Znw⟩
noncomputable def Zbl : CB := (.c (.an 3 174 4 6 (.l 2 174 9 14))
 (.c (.an 4 175 4 7 (.at (.at (.l 1 175 10 14) 4 19) 1 23))
 (.c (.whl (.cm .Lt (.l 3 176 10 12) (.bl .len (.o (.l 4 176 19 22)) 176 15 18 23)) (.c (.augA (.l 0 177 8 15) 2 .Add (.j 1 177 25) (q 177 8 21) (q 177 8 26))
 (.c (.iz (.cm .Gt (.at (.l 0 178 11 18) 2 24) (.at (.at (.l 0 178 27 34) 3 41) 2 47)) (.o (.rs 4 (.o (.at (.at (.l 0 179 26 33) 3 40) 2 46)) 179 12 25 47)) 178 8 179 47)
 (.c (.an 5 180 8 10 (.sb (.l 4 180 13 16) (.l 3 180 17 19)))
 (.c (.iz (.cm .NotIn (.sb (.l 5 181 11 13) (.j 0 181 14)) (.at (.l 0 181 24 31) 1 35)) (.o (.rs 3 (.o (.t #[110,111,32,115,117,99,104,32,105,110,115,116,114,117,99,116,105,111,110] 182 28 49)) 182 12 27 50)) 181 8 182 50)
 (.c (.an 6 183 8 13 (.cl (.sb (.at (.l 0 183 16 23) 1 27) (.sb (.l 5 183 28 30) (.j 0 183 31))) (.h (.l 0 183 35 42) (.l 1 183 44 48) (.l 5 183 50 52)) 53))
 (.o (.iy (.cm .Is (.l 6 184 11 16) (.cst .none (q 184 20 24))) (.o (.aug 3 .Add (.j 1 185 18) (q 185 12 14) (q 185 12 19))) (.o (.iy (.blt .isTup (.o (.l 6 186 24 29)) (q 186 13 23) (q 186 31 36) (q 186 13 37)) (.o (.re (.sb (.l 6 187 19 24) (.j 1 187 25)) 187 12)) (.o (.an 3 189 12 14 (.l 6 189 17 22))) 186 8 189 22)) 184 8 189 22))))))) ⟨176,4,189,22⟩)
 (.o (.rs 3 (.o (.t #[116,104,101,32,99,111,100,101,32,104,97,115,32,110,111,32,101,110,100] 190 20 41)) 190 4 19 42)))))
noncomputable def Zij : FD := ⟨[sO "machine", sO "call", sO "start", sO "at", sO "ops", sO "op", sO "found"], 3, Zbl⟩
noncomputable def Zjx : CB := (.c (.an 4 192 4 8 (.sb (.l 2 192 11 13) (.j 0 192 14)))
 (.c (.iz (.bop .Or (.w (.cm .Eq (.l 4 193 7 11) (.t #[98,105,110] 193 15 20)) (.cm .Eq (.l 4 193 24 28) (.t #[99,109,112] 193 32 37))) (q 193 7 37)) (.c (.iz (.cm .NotIn (.sb (.l 2 194 11 13) (.j 3 194 14)) (.l 0 194 24 34)) (.o (.rs 1 (.o (.t #[110,111,32,115,117,99,104,32,111,112,101,114,97,116,105,111,110] 195 27 46)) 195 12 26 47)) 194 8 195 47)
 (.o (.re (.cl (.sb (.l 0 196 15 25) (.sb (.l 2 196 26 28) (.j 3 196 29))) (.c (.sb (.l 2 196 33 35) (.j 2 196 36)) (.c (.sb (.l 2 196 40 42) (.j 3 196 43)) (.c (.sb (.l 3 196 47 53) (.j 0 196 54)) (.c (.sb (.l 3 196 58 64) (.j 1 196 65)) (.c (.l 1 196 69 75) .n))))) 76) 196 8))) 193 4 196 76)
 (.c (.iz (.cm .Eq (.l 4 197 7 11) (.t #[117,110] 197 15 19)) (.o (.re (.cl (.g 13 198 15 20) (.c (.sb (.l 2 198 21 23) (.j 2 198 24)) (.c (.sb (.l 2 198 28 30) (.j 3 198 31)) (.c (.sb (.l 3 198 35 41) (.j 0 198 42)) (.c (.l 1 198 46 52) .n)))) 53) 198 8)) 197 4 198 53)
 (.c (.iz (.cm .Eq (.l 4 199 7 11) (.t #[99,111,110,118] 199 15 21)) (.o (.re (.cl (.g 12 200 15 22) (.c (.sb (.l 3 200 23 29) (.j 0 200 30)) (.c (.sb (.l 2 200 34 36) (.j 3 200 37)) (.c (.sb (.l 2 200 41 43) (.j 2 200 44)) (.c (.l 1 200 48 54) .n)))) 55) 200 8)) 199 4 200 55)
 (.c (.iz (.cm .Eq (.l 4 201 7 11) (.t #[99,97,116] 201 15 20)) (.o (.re (.bn .Add (.sb (.l 3 202 15 21) (.j 0 202 22)) (.sb (.l 3 202 27 33) (.j 1 202 34))) 202 8)) 201 4 202 36)
 (.o (.re (.cl (.g 11 203 11 21) (.c (.sb (.l 2 203 22 24) (.j 2 203 25)) (.c (.sb (.l 3 203 29 35) (.j 0 203 36)) (.c (.sb (.l 3 203 40 46) (.j 1 203 47)) (.c (.sb (.l 3 203 51 57) (.j 2 203 58)) (.c (.l 0 203 62 72) (.c (.l 1 203 74 80) .n)))))) 81) 203 4)))))))
noncomputable def Zjy : FD := ⟨[sO "operations", sO "limits", sO "op", sO "values", sO "word"], 4, Zjx⟩
noncomputable def Zjz : CB := (.c (.an 1 226 4 7 (.l 0 226 10 15))
 (.c (.iz (.blt .isTup (.o (.l 0 227 18 23)) (q 227 7 17) (q 227 25 30) (q 227 7 31)) (.o (.an 1 228 8 11 (.sb (.l 0 228 14 19) (.j 0 228 20)))) 227 4 228 22)
 (.c (.iz (.cm .Eq (.l 1 229 7 10) (.j 0 229 14)) (.o (.re (.j 0 230 15) 230 8)) 229 4 230 16)
 (.o (.re (.it (.cm .Gt (.l 1 231 16 19) (.j 0 231 22)) (.j 1 231 11) (.un .USub (.j 1 231 30) (q 231 29 31))) 231 4)))))
noncomputable def ZjA : FD := ⟨[sO "value", sO "top"], 1, Zjz⟩
noncomputable def Zfv : CB := (.o (.iz (.bop .Or (.w (.cm .Lt (.l 1 254 7 14) (.j 0 254 17)) (.cm .Gt (.bn .Add (.l 1 254 22 29) (.l 2 254 32 37)) (.bl .len (.o (.l 0 254 44 49)) 254 40 43 50))) (q 254 7 50)) (.o (.rs 1 (.o (.t #[115,116,111,114,97,103,101] 255 23 32)) 255 8 22 33)) 254 4 255 33))
noncomputable def Zfw : FD := ⟨[sO "cells", sO "address", sO "count"], 3, Zfv⟩
noncomputable def ZgY : CB := (.c (.an 3 257 4 8 (.sb (.l 0 257 11 16) (.l 1 257 17 24)))
 (.c (.iz (.bop .Or (.w (.cm .Is (.l 3 258 7 11) (.cst .none (q 258 15 19))) (.cm .NotEq (.sb (.l 3 258 23 27) (.j 0 258 28)) (.l 2 258 34 37))) (q 258 7 37)) (.o (.rs 1 (.o (.t #[117,110,100,101,102,105,110,101,100] 259 23 34)) 259 8 22 35)) 258 4 259 35)
 (.o (.re (.sb (.l 3 260 11 15) (.j 1 260 16)) 260 4))))
noncomputable def ZgZ : FD := ⟨[sO "cells", sO "address", sO "tag", sO "cell"], 3, ZgY⟩
noncomputable def ZeQ : CB := (.c (.ex (.cl (.g 16 262 4 14) (.h (.l 0 262 15 20) (.l 2 262 22 29) (.cl (.g 17 262 31 39) (.o (.l 1 262 40 44)) 45)) 46) (q 262 4 46))
 (.c (.iz (.cm .Eq (.l 1 263 7 11) (.g 0 263 15 22)) (.o (.re (.tu (.w (.cl (.g 14 264 16 25) (.h (.l 0 264 26 31) (.l 2 264 33 40) (.g 8 264 42 46)) 47) (.cl (.g 14 264 49 58) (.h (.l 0 264 59 64) (.bn .Add (.l 2 264 66 73) (.j 1 264 76)) (.g 8 264 79 83)) 84)) 264 15 85) 264 8)) 263 4 264 85)
 (.c (.an 3 265 4 9 (.cl (.g 14 265 12 21) (.h (.l 0 265 22 27) (.l 2 265 29 36) (.l 1 265 38 42)) 43))
 (.c (.iz (.cm .Eq (.l 1 266 7 11) (.g 1 266 15 21)) (.o (.ex (.cl (.g 14 267 8 17) (.h (.l 0 267 18 23) (.bn .Add (.l 2 267 25 32) (.j 1 267 35)) (.g 15 267 38 44)) 45) (q 267 8 45))) 266 4 267 45)
 (.o (.re (.l 3 268 11 16) 268 4))))))
noncomputable def ZeR : FD := ⟨[sO "cells", sO "kind", sO "address", sO "value"], 3, ZeQ⟩
noncomputable def Zd2 : CB := (.c (.ex (.cl (.g 16 270 4 14) (.h (.l 0 270 15 20) (.l 2 270 22 29) (.cl (.g 17 270 31 39) (.o (.l 1 270 40 44)) 45)) 46) (q 270 4 46))
 (.c (.iz (.cm .Eq (.l 1 271 7 11) (.g 0 271 15 22)) (.c (.asg (.sub (.l 0 272 8 13) (.l 2 272 14 21) (q 272 8 22)) (.tu (.w (.g 8 272 26 30) (.sb (.l 3 272 32 37) (.j 0 272 38))) 272 25 41) (q 272 8 41))
 (.c (.asg (.sub (.l 0 273 8 13) (.bn .Add (.l 2 273 14 21) (.j 1 273 24)) (q 273 8 26)) (.tu (.w (.g 8 273 30 34) (.sb (.l 3 273 36 41) (.j 1 273 42))) 273 29 45) (q 273 8 45))
 (.o (.ret .no (q 274 8 14))))) 271 4 274 14)
 (.c (.asg (.sub (.l 0 275 4 9) (.l 2 275 10 17) (q 275 4 18)) (.tu (.w (.l 1 275 22 26) (.l 3 275 28 33)) 275 21 34) (q 275 4 34))
 (.o (.iz (.cm .Eq (.l 1 276 7 11) (.g 1 276 15 21)) (.o (.asg (.sub (.l 0 277 8 13) (.bn .Add (.l 2 277 14 21) (.j 1 277 24)) (q 277 8 26)) (.tu (.w (.g 15 277 30 36) (.l 3 277 38 43)) 277 29 44) (q 277 8 44))) 276 4 277 44)))))
noncomputable def Zd3 : FD := ⟨[sO "cells", sO "kind", sO "address", sO "value"], 4, Zd2⟩
noncomputable def Zg0 : CB := (.c (.ex (.cl (.g 16 279 4 14) (.h (.l 0 279 15 20) (.l 1 279 22 29) (.l 2 279 31 37)) 38) (q 279 4 38))
 (.c (.an 3 280 4 9 (.slc (.l 0 280 12 17) (.so (.l 1 280 18 25)) (.so (.bn .Add (.l 1 280 26 33) (.l 2 280 36 42))) (q 280 18 42) (q 280 12 43)))
 (.c (.iz (.cm .In (.cst .none (q 281 7 11)) (.l 3 281 15 20)) (.o (.rs 1 (.o (.t #[117,110,100,101,102,105,110,101,100] 282 23 34)) 282 8 22 35)) 281 4 282 35)
 (.o (.re (.meth (.t #[] 283 11 13) 5 (.o (.l 3 283 19 24)) (q 283 11 18) (q 283 11 25)) 283 4)))))
noncomputable def Zg1 : FD := ⟨[sO "cells", sO "address", sO "length", sO "signs"], 3, Zg0⟩
noncomputable def Zcy : CB := (.c (.ex (.cl (.g 16 285 4 14) (.h (.l 0 285 15 20) (.l 1 285 22 29) (.bl .len (.o (.l 2 285 35 39)) 285 31 34 40)) 41) (q 285 4 41))
 (.o (.fr (.nm 3 (q 286 8 9)) (.rng (.bl .len (.o (.l 2 286 23 27)) 286 19 22 28) (q 286 13 18) (q 286 13 29)) (.o (.asg (.sub (.l 0 287 8 13) (.bn .Add (.l 1 287 14 21) (.l 3 287 24 25)) (q 287 8 26)) (.sb (.l 2 287 29 33) (.l 3 287 34 35)) (q 287 8 36))) ⟨286,4,287,36⟩)))
noncomputable def Zfx : FD := ⟨[sO "cells", sO "address", sO "text", sO "k"], 3, Zcy⟩
noncomputable def ZrG : CB := (.o (.re (.bn .Add (.slc (.l 0 289 11 15) .no (.so (.l 1 289 17 23)) (q 289 16 23) (q 289 11 24)) (.bin .Mult (.t #[32] 289 27 30) (.bn .Sub (.l 1 289 34 40) (.bl .len (.o (.l 0 289 47 51)) 289 43 46 52)) false (q 289 27 53))) 289 4))
noncomputable def ZrH : FD := ⟨[sO "text", sO "length"], 2, ZrG⟩
noncomputable def Zg2 : CB := (.c (.iz (.cm .Eq (.l 0 291 7 11) (.g 2 291 15 24)) (.o (.re (.l 1 292 15 21) 292 8)) 291 4 292 21)
 (.o (.re (.cl (.g 17 293 11 19) (.o (.l 0 293 20 24)) 25) 293 4)))
noncomputable def Zg3 : FD := ⟨[sO "kind", sO "length"], 2, Zg2⟩
noncomputable def Zdy : CB := (.c (.asg (.tup [(2,(q 295 4 8)),(3,(q 295 10 17)),(4,(q 295 19 25)),(5,(q 295 27 31))] (q 295 4 31)) (.l 0 295 34 39) (q 295 4 39))
 (.c (.iz (.cm .NotEq (.bl .len (.o (.l 1 296 11 21)) 296 7 10 22) (.bl .len (.o (.l 5 296 30 34)) 296 26 29 35)) (.o (.rs 1 (.o (.t #[115,117,98,115,99,114,105,112,116] 297 23 34)) 297 8 22 35)) 296 4 297 35)
 (.c (.an 6 298 4 10 (.j 0 298 13))
 (.c (.an 7 299 4 10 (.j 1 299 13))
 (.c (.fr (.nm 8 (q 300 8 9)) (.rng (.bl .len (.o (.l 5 300 23 27)) 300 19 22 28) (q 300 13 18) (q 300 13 29)) (.c (.asg (.tup [(9,(q 301 8 11)),(10,(q 301 13 17))] (q 301 8 17)) (.sb (.l 5 301 20 24) (.l 8 301 25 26)) (q 301 8 27))
 (.c (.iz (.bop .Or (.w (.cm .Lt (.sb (.l 1 302 11 21) (.l 8 302 22 23)) (.l 9 302 27 30)) (.bop .And (.w (.cm .IsNot (.l 10 302 35 39) (.cst .none (q 302 47 51))) (.cm .Gt (.sb (.l 1 302 56 66) (.l 8 302 67 68)) (.l 10 302 72 76))) (q 302 35 76))) (q 302 11 77)) (.o (.rs 1 (.o (.t #[115,117,98,115,99,114,105,112,116] 303 27 38)) 303 12 26 39)) 302 8 303 39)
 (.c (.aug 6 .Add (.bin .Mult (.bn .Sub (.sb (.l 1 304 19 29) (.l 8 304 30 31)) (.l 9 304 35 38)) (.l 7 304 42 48) false (q 304 18 48)) (q 304 8 14) (q 304 8 48))
 (.o (.iz (.cm .IsNot (.l 10 305 11 15) (.cst .none (q 305 23 27))) (.o (.aug 7 .Mult (.bn .Add (.bn .Sub (.l 10 306 22 26) (.l 9 306 29 32)) (.j 1 306 35)) (q 306 12 18) (q 306 12 36))) 305 8 306 36))))) ⟨300,4,306,36⟩)
 (.o (.re (.tu (.c (.l 2 307 12 16) (.c (.bn .Add (.l 3 307 18 25) (.bn .Mult (.l 6 307 28 34) (.cl (.g 18 307 37 46) (.w (.l 2 307 47 51) (.l 4 307 53 59)) 60))) (.c (.l 4 307 62 68) (.c (.tu .n 307 70 72) .n)))) 307 11 73) 307 4)))))))
noncomputable def Zdz : FD := ⟨[sO "place", sO "subscripts", sO "kind", sO "address", sO "length", sO "dims", sO "offset", sO "stride", sO "k", sO "low", sO "high"], 2, Zdy⟩
noncomputable def Zg4 : CB := (.c (.an 3 309 4 9 (.it (.cm .Is (.l 1 309 17 19) (.cst .none (q 309 23 27))) (.j 1 309 12) (.l 1 309 33 35)))
 (.c (.an 4 310 4 8 (.it (.cm .Is (.l 2 310 23 25) (.cst .none (q 310 29 33))) (.sb (.l 0 310 11 16) (.j 2 310 17)) (.l 2 310 39 41)))
 (.c (.iz (.bop .Or (.h (.cm .Lt (.l 3 311 7 12) (.j 1 311 15)) (.cm .Lt (.l 4 311 20 24) (.l 3 311 27 32)) (.cm .Gt (.l 4 311 36 40) (.sb (.l 0 311 43 48) (.j 2 311 49)))) (q 311 7 51)) (.o (.rs 1 (.o (.t #[115,117,98,115,116,114,105,110,103] 312 23 34)) 312 8 22 35)) 311 4 312 35)
 (.o (.re (.tu (.c (.g 2 313 12 21) (.c (.bn .Sub (.bn .Add (.sb (.l 0 313 23 28) (.j 1 313 29)) (.l 3 313 34 39)) (.j 1 313 42)) (.c (.bn .Add (.bn .Sub (.l 4 313 45 49) (.l 3 313 52 57)) (.j 1 313 60)) (.c (.tu .n 313 63 65) .n)))) 313 11 66) 313 4)))))
noncomputable def Zg5 : FD := ⟨[sO "place", sO "lo", sO "hi", sO "first", sO "last"], 3, Zg4⟩
noncomputable def Zk2 : CB := (.o (.asg (.sub (.at (.l 1 317 4 8) 6 18) (.sb (.l 2 317 19 21) (.j 1 317 22)) (q 317 4 25)) (.sb (.l 2 317 28 30) (.j 3 317 31)) (q 317 4 33)))
noncomputable def Zk3 : FD := ⟨[sO "machine", sO "call", sO "op"], 3, Zk2⟩
noncomputable def ZjB : CB := (.o (.asg (.sub (.at (.l 1 319 4 8) 6 18) (.sb (.l 2 319 19 21) (.j 1 319 22)) (q 319 4 25)) (.sb (.at (.l 1 319 28 32) 6 42) (.sb (.l 2 319 43 45) (.j 2 319 46))) (q 319 4 49)))
noncomputable def ZjC : FD := ⟨[sO "machine", sO "call", sO "op"], 3, ZjB⟩
noncomputable def Zk4 : CB := (.c (.an 3 321 4 10 (.list (.w (.sb (.at (.l 1 321 14 18) 6 28) (.sb (.l 2 321 29 31) (.j 4 321 32))) (.sb (.at (.l 1 321 37 41) 6 51) (.sb (.l 2 321 52 54) (.j 5 321 55)))) false (q 321 13 59)))
 (.o (.asg (.sub (.at (.l 1 322 4 8) 6 18) (.sb (.l 2 322 19 21) (.j 1 322 22)) (q 322 4 25)) (.cl (.g 19 322 28 35) (.c (.at (.l 0 322 36 43) 7 54) (.c (.at (.l 0 322 56 63) 3 70) (.c (.l 2 322 72 74) (.c (.l 3 322 76 82) .n)))) 83) (q 322 4 83))))
noncomputable def Zk5 : FD := ⟨[sO "machine", sO "call", sO "op", sO "values"], 3, Zk4⟩
noncomputable def Zk6 : CB := (.o (.asg (.sub (.at (.l 1 324 4 8) 6 18) (.sb (.l 2 324 19 21) (.j 1 324 22)) (q 324 4 25)) (.cl (.g 19 324 28 35) (.c (.at (.l 0 324 36 43) 7 54) (.c (.at (.l 0 324 56 63) 3 70) (.c (.l 2 324 72 74) (.c (.list (.o (.sb (.at (.l 1 324 77 81) 6 91) (.sb (.l 2 324 92 94) (.j 4 324 95)))) false (q 324 76 99)) .n)))) 100) (q 324 4 100)))
noncomputable def Zk7 : FD := ⟨[sO "machine", sO "call", sO "op"], 3, Zk6⟩
noncomputable def Zk8 : CB := (.o (.asg (.sub (.at (.l 1 326 4 8) 6 18) (.sb (.l 2 326 19 21) (.j 1 326 22)) (q 326 4 25)) (.bn .Add (.sb (.at (.l 1 326 28 32) 6 42) (.sb (.l 2 326 43 45) (.j 2 326 46))) (.sb (.at (.l 1 326 52 56) 6 66) (.sb (.l 2 326 67 69) (.j 3 326 70)))) (q 326 4 73)))
noncomputable def Zk9 : FD := ⟨[sO "machine", sO "call", sO "op"], 3, Zk8⟩
noncomputable def Zik : CB := (.c (.an 3 328 4 10 (.comp (.sb (.at (.l 1 328 14 18) 6 28) (.l 0 328 29 37)) (.nm 0 (q 328 43 51)) (.val (.slc (.l 2 328 55 57) (.so (.j 3 328 58)) .no (q 328 58 60) (q 328 55 61))) .no 1 [1] [sO "register",sO "call"] ⟨.function, [(sO ".0", .local), (sO "register", .local), (sO "call", .free)], false, false, []⟩ (q 328 13 62)))
 (.o (.asg (.sub (.at (.l 1 329 4 8) 6 18) (.sb (.l 2 329 19 21) (.j 1 329 22)) (q 329 4 25)) (.cl (.g 19 329 28 35) (.c (.at (.l 0 329 36 43) 7 54) (.c (.at (.l 0 329 56 63) 3 70) (.c (.l 2 329 72 74) (.c (.l 3 329 76 82) .n)))) 83) (q 329 4 83))))
noncomputable def Zil : FD := ⟨[sO "machine", sO "call", sO "op", sO "values"], 3, Zik⟩
noncomputable def ZjD : CB := (.c (.an 3 331 4 9 (.meth (.at (.l 1 331 12 16) 8 22) 9 (.o (.sb (.l 2 331 27 29) (.j 2 331 30))) (q 331 12 26) (q 331 12 33)))
 (.c (.iz (.un .Not (.blt .isTup (.o (.l 3 332 22 27)) (q 332 11 21) (q 332 29 34) (q 332 11 35)) (q 332 7 35)) (.o (.rs 1 (.o (.t #[97,32,110,97,109,101,32,119,105,116,104,111,117,116,32,97,32,112,108,97,99,101] 333 23 47)) 333 8 22 48)) 332 4 333 48)
 (.o (.asg (.sub (.at (.l 1 334 4 8) 6 18) (.sb (.l 2 334 19 21) (.j 1 334 22)) (q 334 4 25)) (.l 3 334 28 33) (q 334 4 33)))))
noncomputable def ZjE : FD := ⟨[sO "machine", sO "call", sO "op", sO "found"], 3, ZjD⟩
noncomputable def ZjF : CB := (.c (.an 3 336 4 14 (.comp (.sb (.at (.l 1 336 18 22) 6 32) (.l 0 336 33 41)) (.nm 0 (q 336 47 55)) (.val (.sb (.l 2 336 59 61) (.j 3 336 62))) .no 1 [1] [sO "register",sO "call"] ⟨.function, [(sO ".0", .local), (sO "register", .local), (sO "call", .free)], false, false, []⟩ (q 336 17 65)))
 (.o (.asg (.sub (.at (.l 1 337 4 8) 6 18) (.sb (.l 2 337 19 21) (.j 1 337 22)) (q 337 4 25)) (.cl (.g 20 337 28 41) (.w (.sb (.at (.l 1 337 42 46) 6 56) (.sb (.l 2 337 57 59) (.j 2 337 60))) (.l 3 337 65 75)) 76) (q 337 4 76))))
noncomputable def ZjG : FD := ⟨[sO "machine", sO "call", sO "op", sO "subscripts"], 3, ZjF⟩
noncomputable def Zla : CB := (.c (.an 3 339 4 7 (.it (.cm .GtE (.sb (.l 2 339 35 37) (.j 3 339 38)) (.j 0 339 44)) (.sb (.at (.l 1 339 10 14) 6 24) (.sb (.l 2 339 25 27) (.j 3 339 28))) (.cst .none (q 339 51 55))))
 (.c (.an 4 340 4 8 (.it (.cm .GtE (.sb (.l 2 340 36 38) (.j 4 340 39)) (.j 0 340 45)) (.sb (.at (.l 1 340 11 15) 6 25) (.sb (.l 2 340 26 28) (.j 4 340 29))) (.cst .none (q 340 52 56))))
 (.o (.asg (.sub (.at (.l 1 341 4 8) 6 18) (.sb (.l 2 341 19 21) (.j 1 341 22)) (q 341 4 25)) (.cl (.g 21 341 28 37) (.h (.sb (.at (.l 1 341 38 42) 6 52) (.sb (.l 2 341 53 55) (.j 2 341 56))) (.l 3 341 61 64) (.l 4 341 66 70)) 71) (q 341 4 71)))))
noncomputable def Zlb : FD := ⟨[sO "machine", sO "call", sO "op", sO "low", sO "high"], 3, Zla⟩
noncomputable def Zg6 : CB := (.o (.asg (.sub (.at (.l 1 343 4 8) 6 18) (.sb (.l 2 343 19 21) (.j 1 343 22)) (q 343 4 25)) (.sb (.sb (.at (.l 1 343 28 32) 6 42) (.sb (.l 2 343 43 45) (.j 2 343 46))) (.j 2 343 50)) (q 343 4 52)))
noncomputable def Zg7 : FD := ⟨[sO "machine", sO "call", sO "op"], 3, Zg6⟩
noncomputable def ZjH : CB := (.o (.asg (.sub (.at (.l 1 345 4 8) 6 18) (.sb (.l 2 345 19 21) (.j 1 345 22)) (q 345 4 25)) (.meth (.at (.l 0 345 28 35) 10 42) 11 (.o (.sb (.at (.l 1 345 48 52) 6 62) (.sb (.l 2 345 63 65) (.j 2 345 66)))) (q 345 28 47) (q 345 28 70)) (q 345 4 70)))
noncomputable def ZjI : FD := ⟨[sO "machine", sO "call", sO "op"], 3, ZjH⟩
noncomputable def Zim : CB := (.o (.ex (.meth (.at (.l 0 347 4 11) 10 18) 12 (.w (.sb (.at (.l 1 347 25 29) 6 39) (.sb (.l 2 347 40 42) (.j 1 347 43))) (.sb (.at (.l 1 347 48 52) 6 62) (.sb (.l 2 347 63 65) (.j 2 347 66)))) (q 347 4 24) (q 347 4 70)) (q 347 4 70)))
noncomputable def Zin : FD := ⟨[sO "machine", sO "call", sO "op"], 3, Zim⟩
noncomputable def ZeS : CB := (.o (.asg (.sub (.at (.at (.l 0 349 4 11) 10 18) 13 26) (.sb (.sb (.at (.l 1 349 27 31) 6 41) (.sb (.l 2 349 42 44) (.j 1 349 45))) (.j 1 349 49)) (q 349 4 52)) (.tu (.w (.g 22 349 56 65) (.sb (.l 2 349 67 69) (.j 2 349 70))) 349 55 73) (q 349 4 73)))
noncomputable def ZeT : FD := ⟨[sO "machine", sO "call", sO "op"], 3, ZeS⟩
noncomputable def Zlc : CB := (.o (.re (.cst .none (q 351 11 15)) 351 4))
noncomputable def Zld : FD := ⟨[sO "machine", sO "call", sO "op"], 3, Zlc⟩
noncomputable def ZjJ : CB := (.o (.re (.sb (.l 2 353 11 13) (.j 1 353 14)) 353 4))
noncomputable def ZjK : FD := ⟨[sO "machine", sO "call", sO "op"], 3, ZjJ⟩
noncomputable def ZjL : CB := (.o (.re (.it (.sb (.at (.l 1 355 20 24) 6 34) (.sb (.l 2 355 35 37) (.j 1 355 38))) (.sb (.l 2 355 11 13) (.j 2 355 14)) (.cst .none (q 355 47 51))) 355 4))
noncomputable def ZjM : FD := ⟨[sO "machine", sO "call", sO "op"], 3, ZjL⟩
noncomputable def Zio : CB := (.o (.re (.it (.sb (.at (.l 1 357 19 23) 6 33) (.sb (.l 2 357 34 36) (.j 1 357 37))) (.cst .none (q 357 11 15)) (.sb (.l 2 357 46 48) (.j 2 357 49))) 357 4))
noncomputable def Zip : FD := ⟨[sO "machine", sO "call", sO "op"], 3, Zio⟩
noncomputable def ZjN : CB := (.o (.re (.sb (.l 2 359 11 13) (.bn .Add (.j 3 359 14) (.cl (.g 23 359 18 25) (.o (.sb (.at (.l 1 359 26 30) 6 40) (.sb (.l 2 359 41 43) (.j 1 359 44)))) 48))) 359 4))
noncomputable def ZjO : FD := ⟨[sO "machine", sO "call", sO "op"], 3, ZjN⟩
noncomputable def Zg8 : CB := (.c (.an 3 361 4 10 (.sb (.at (.l 1 361 13 17) 6 27) (.sb (.l 2 361 28 30) (.j 1 361 31))))
 (.o (.re (.it (.cmp2 .LtE .LtE (.j 1 362 32) (.l 3 362 37 43) (.bl .len (.o (.sb (.l 2 362 51 53) (.j 2 362 54))) 362 47 50 57) (q 362 32 57)) (.sb (.sb (.l 2 362 11 13) (.j 2 362 14)) (.bn .Sub (.l 3 362 17 23) (.j 1 362 26))) (.cst .none (q 362 63 67))) 362 4)))
noncomputable def Zg9 : FD := ⟨[sO "machine", sO "call", sO "op", sO "number"], 3, Zg8⟩
noncomputable def Ziq : CB := (.c (.an 3 364 4 8 (.sb (.at (.at (.l 0 364 11 18) 10 25) 13 33) (.sb (.sb (.at (.l 1 364 34 38) 6 48) (.sb (.l 2 364 49 51) (.j 1 364 52))) (.j 1 364 56))))
 (.c (.iz (.bop .Or (.w (.cm .Is (.l 3 365 7 11) (.cst .none (q 365 15 19))) (.cm .NotEq (.sb (.l 3 365 23 27) (.j 0 365 28)) (.g 22 365 34 43))) (q 365 7 43)) (.o (.rs 1 (.o (.t #[110,111,32,108,97,98,101,108,32,105,115,32,97,115,115,105,103,110,101,100] 366 23 45)) 366 8 22 46)) 365 4 366 46)
 (.c (.fr (.two 4 (q 367 8 13) 5 (q 367 15 17) (q 367 8 17)) (.val (.sb (.l 2 367 21 23) (.j 2 367 24))) (.o (.iz (.cm .Eq (.l 4 368 11 16) (.sb (.l 3 368 20 24) (.j 1 368 25))) (.o (.re (.l 5 369 19 21) 369 12)) 368 8 369 21)) ⟨367,4,369,21⟩)
 (.o (.rs 1 (.o (.t #[116,104,101,32,97,115,115,105,103,110,101,100,32,108,97,98,101,108,32,105,115,110,39,116,32,108,105,115,116,101,100] 370 19 52)) 370 4 18 53)))))
noncomputable def Zir : FD := ⟨[sO "machine", sO "call", sO "op", sO "cell", sO "label", sO "at"], 3, Ziq⟩
noncomputable def Zha : CB := (.o (.re (.tu (.w (.t #[114,101,116,117,114,110] 372 12 20) (.it (.cm .GtE (.sb (.l 2 372 47 49) (.j 1 372 50)) (.j 0 372 56)) (.sb (.at (.l 1 372 22 26) 6 36) (.sb (.l 2 372 37 39) (.j 1 372 40))) (.j 0 372 63))) 372 11 65) 372 4))
noncomputable def Zhb : FD := ⟨[sO "machine", sO "call", sO "op"], 3, Zha⟩
noncomputable def ZjP : CB := (.o (.rs 2 (.o (.sb (.l 2 374 18 20) (.j 1 374 21))) 374 4 17 24))
noncomputable def ZjQ : FD := ⟨[sO "machine", sO "call", sO "op"], 3, ZjP⟩
noncomputable def Zhc : CB := (.o (.re (.list (.c (.i 13 379 12 14) (.c (.j 7 379 16) (.c (.j 1 379 19) (.c (.j 2 379 22) (.c (.j 0 379 25) (.c (.j 0 379 28) (.c (.j 6 379 31) (.c (.j 0 379 34) (.c (.j 0 379 37) (.c (.j 0 379 40) (.c (.j 3 379 43) (.c (.j 0 379 46) (.c (.j 1 379 49) (.c (.j 0 379 52) (.c (.j 0 379 55) (.c (.i 18 379 58 60) (.c (.j 0 379 62) (.c (.j 4 379 65) (.c (.j 4 379 68) (.c (.j 1 379 71) (.c (.j 9 379 74) (.c (.j 2 379 77) (.c (.j 1 379 80) (.c (.i 13 379 83 85) (.c (.j 0 379 87) (.c (.j 2 379 90) (.c (.i 10 379 93 95) (.c (.j 1 379 97) (.c (.j 0 379 100) (.c (.i 13 379 103 105) (.c (.j 0 379 107) (.c (.j 0 379 110) (.c (.i 14 379 113 115) (.c (.j 1 379 117) (.c (.i 16 379 120 122) (.c (.j 0 379 124) (.c (.i 11 379 127 129) (.c (.i 20 379 131 133) (.c (.j 0 379 135) (.c (.j 4 379 138) (.c (.i 15 379 141 143) (.c (.j 1 379 145) (.c (.j 0 379 148) (.c (.i 12 379 151 153) (.c (.i 11 379 155 157) (.c (.j 1 379 159) (.c (.j 1 379 162) (.c (.i 20 379 165 167) (.c (.j 1 379 169) (.c (.j 2 379 172) (.c (.j 0 379 175) .n))))))))))))))))))))))))))))))))))))))))))))))))))) false (q 379 11 177)) 379 4))
noncomputable def Zhd : FD := ⟨[], 0, Zhc⟩
noncomputable def Zhe : CB := (.c (.asg (.sub (.l 0 381 4 8) (.t #[102,114,97,109,101] 381 9 16) (q 381 4 17)) (.bn .Add (.sb (.l 0 381 20 24) (.t #[102,114,97,109,101] 381 25 32)) (.j 1 381 36)) (q 381 4 37))
 (.c (.iz (.cm .LtE (.sb (.l 0 382 7 11) (.t #[102,114,97,109,101] 382 12 19)) (.bl .len (.o (.sb (.l 0 382 28 32) (.t #[115,99,114,105,112,116] 382 33 41))) 382 24 27 43)) (.o (.re (.bn .Mod (.sb (.sb (.l 0 383 15 19) (.t #[115,99,114,105,112,116] 383 20 28)) (.bn .Sub (.sb (.l 0 383 30 34) (.t #[102,114,97,109,101] 383 35 42)) (.j 1 383 46))) (.l 1 383 51 55)) 383 8)) 382 4 383 55)
 (.c (.iz (.cm .LtE (.sb (.l 0 384 7 11) (.t #[102,114,97,109,101] 384 12 19)) (.bl .len (.o (.cl (.g 24 384 28 37) .n 39)) 384 24 27 40)) (.o (.re (.bn .Mod (.sb (.cl (.g 24 385 15 24) .n 26) (.bn .Sub (.sb (.l 0 385 27 31) (.t #[102,114,97,109,101] 385 32 39)) (.j 1 385 43))) (.l 1 385 48 52)) 385 8)) 384 4 385 52)
 (.o (.re (.bin .Mod (.bn .Add (.bn .Add (.bn .Mult (.sb (.l 0 386 12 16) (.t #[102,114,97,109,101] 386 17 24)) (.j 9 386 28)) (.bn .FloorDiv (.sb (.l 0 386 32 36) (.t #[102,114,97,109,101] 386 37 44)) (.j 4 386 49))) (.j 1 386 53)) (.l 1 386 58 62) false (q 386 11 62)) 386 4)))))
noncomputable def Zhf : FD := ⟨[sO "film", sO "many"], 2, Zhe⟩
noncomputable def Zhg : CB := (.o (.re (.bn .Add (.i 11 388 11 13) (.cl (.g 25 388 16 25) (.w (.l 0 388 26 30) (.bn .Add (.l 1 388 32 37) (.j 1 388 40))) 42)) 388 4))
noncomputable def Zhh : FD := ⟨[sO "film", sO "count"], 2, Zhg⟩
noncomputable def Zfy : CB := (.c (.unp [(2,(q 390 4 7)),(3,(q 390 9 14)),(4,(q 390 16 20))] (.h (.cl (.g 25 390 24 33) (.w (.l 0 390 34 38) (.j 3 390 40)) 42) (.cl (.g 25 390 44 53) (.w (.l 0 390 54 58) (.j 3 390 60)) 62) (.cl (.g 25 390 64 73) (.w (.l 0 390 74 78) (.j 3 390 80)) 82)) (q 390 4 20) (q 390 23 83) (q 390 4 83))
 (.c (.iz (.cm .Eq (.l 1 391 7 10) (.j 0 391 14)) (.o (.re (.tu (.c (.t #[115,101,116] 392 16 21) (.c (.l 4 392 23 27) (.c (.j 0 392 29) (.c (.bn .Sub (.bn .Mult (.j 4 392 32) (.l 2 392 36 39)) (.l 3 392 42 47)) .n)))) 392 15 48) 392 8)) 391 4 392 48)
 (.c (.iz (.cm .Eq (.l 1 393 7 10) (.j 1 393 14)) (.o (.re (.tu (.c (.t #[115,101,116] 394 16 21) (.c (.bn .Add (.j 3 394 23) (.bn .Mod (.l 4 394 27 31) (.j 2 394 34))) (.c (.j 5 394 37) (.c (.sb (.list (.h (.t #[] 394 41 43) (.t #[120,121] 394 45 49) (.t #[98] 394 51 54)) false (q 394 40 55)) (.l 2 394 56 59)) .n)))) 394 15 61) 394 8)) 393 4 394 61)
 (.c (.iz (.cm .Eq (.l 1 395 7 10) (.j 2 395 14)) (.o (.re (.it (.cm .Gt (.l 3 396 38 43) (.j 0 396 46)) (.tu (.h (.t #[109,111,118,101] 396 16 22) (.l 4 396 24 28) (.l 2 396 30 33)) 396 15 34) (.tu (.h (.t #[109,111,118,101] 396 54 60) (.j 3 396 62) (.j 4 396 65)) 396 53 67)) 396 8)) 395 4 396 67)
 (.c (.iz (.cm .Eq (.l 1 397 7 10) (.j 3 397 14)) (.o (.re (.tu (.c (.t #[98,105,110] 398 16 21) (.c (.l 4 398 23 27) (.c (.sb (.list (.h (.t #[97,100,100] 398 30 35) (.t #[115,117,98] 398 37 42) (.t #[109,117,108] 398 44 49)) false (q 398 29 50)) (.cl (.g 25 398 51 60) (.w (.l 0 398 61 65) (.j 3 398 67)) 69)) (.c (.j 0 398 72) (.c (.l 2 398 75 78) (.c (.l 3 398 80 85) .n)))))) 398 15 86) 398 8)) 397 4 398 86)
 (.c (.iz (.cm .Eq (.l 1 399 7 10) (.j 4 399 14)) (.o (.re (.it (.cm .Eq (.cl (.g 25 400 68 77) (.w (.l 0 400 78 82) (.j 2 400 84)) 86) (.j 0 400 90)) (.tu (.c (.t #[99,109,112] 400 16 21) (.c (.j 5 400 23) (.c (.sb (.list (.w (.t #[108,116] 400 27 31) (.t #[101,113] 400 33 37)) false (q 400 26 38)) (.bn .Mod (.l 4 400 39 43) (.j 2 400 46))) (.c (.j 0 400 50) (.c (.l 2 400 53 56) (.c (.l 3 400 58 63) .n)))))) 400 15 64) (.tu (.c (.t #[99,109,112] 400 98 103) (.c (.j 5 400 105) (.c (.sb (.list (.w (.t #[108,116] 400 109 113) (.t #[101,113] 400 115 119)) false (q 400 108 120)) (.bn .Mod (.l 4 400 121 125) (.j 2 400 128))) (.c (.j 5 400 132) (.c (.j 3 400 135) (.c (.j 4 400 138) .n)))))) 400 97 140)) 400 8)) 399 4 400 140)
 (.c (.iz (.cm .Eq (.l 1 401 7 10) (.j 5 401 14)) (.o (.re (.it (.cm .Gt (.l 3 402 46 51) (.j 0 402 54)) (.tu (.c (.t #[117,110] 402 16 20) (.c (.l 4 402 22 26) (.c (.t #[110,101,103] 402 28 33) (.c (.j 0 402 35) (.c (.l 2 402 38 41) .n))))) 402 15 42) (.tu (.c (.t #[117,110] 402 62 66) (.c (.j 5 402 68) (.c (.t #[110,111,116] 402 71 76) (.c (.j 4 402 78) (.c (.j 5 402 81) .n))))) 402 61 83)) 402 8)) 401 4 402 83)
 (.c (.iz (.cm .Eq (.l 1 403 7 10) (.j 6 403 14)) (.o (.re (.tu (.c (.t #[99,97,116] 404 16 21) (.c (.j 3 404 23) (.c (.bn .Add (.j 3 404 26) (.bn .Mod (.l 4 404 30 34) (.j 2 404 37))) (.c (.j 4 404 40) .n)))) 404 15 42) 404 8)) 403 4 404 42)
 (.o (.re (.tu (.c (.t #[99,111,117,110,116] 405 12 19) (.c (.l 4 405 21 25) (.c (.j 0 405 27) (.c (.l 2 405 30 33) (.c (.l 3 405 35 40) (.c (.cl (.g 25 405 42 51) (.w (.l 0 405 52 56) (.j 3 405 58)) 60) .n)))))) 405 11 61) 405 4))))))))))
noncomputable def Zfz : FD := ⟨[sO "film", sO "way", sO "one", sO "other", sO "goal"], 2, Zfy⟩
noncomputable def ZeU : CB := (.c (.unp [(2,(q 407 4 7)),(3,(q 407 9 14))] (.w (.cl (.g 25 407 18 27) (.w (.l 0 407 28 32) (.j 3 407 34)) 36) (.cl (.g 25 407 38 47) (.w (.l 0 407 48 52) (.j 4 407 54)) 56)) (q 407 4 14) (q 407 17 57) (q 407 4 57))
 (.c (.iz (.cm .Eq (.l 1 408 7 10) (.j 8 408 14)) (.o (.re (.it (.cm .Gt (.l 2 409 59 62) (.j 0 409 65)) (.tu (.h (.t #[97,100,100,114] 409 16 22) (.j 6 409 24) (.sb (.list (.c (.t #[88] 409 28 31) (.c (.t #[89] 409 33 36) (.c (.t #[88] 409 38 41) (.c (.t #[90] 409 43 46) .n)))) false (q 409 27 47)) (.l 3 409 48 53))) 409 15 55) (.tu (.h (.t #[97,100,100,114] 409 73 79) (.j 7 409 81) (.sb (.list (.c (.t #[67] 409 85 88) (.c (.t #[67] 409 90 93) (.c (.t #[80] 409 95 98) (.c (.t #[67] 409 100 103) .n)))) false (q 409 84 104)) (.l 3 409 105 110))) 409 72 112)) 409 8)) 408 4 409 112)
 (.c (.iz (.cm .Eq (.l 1 410 7 10) (.j 9 410 14)) (.o (.re (.it (.cm .Gt (.l 2 411 67 70) (.j 0 411 73)) (.tu (.c (.t #[101,108,101,109] 411 16 22) (.c (.j 6 411 24) (.c (.j 8 411 27) (.c (.it (.cm .Gt (.l 3 411 39 44) (.j 0 411 47)) (.list (.o (.l 2 411 31 34)) false (q 411 30 35)) (.list (.w (.l 2 411 55 58) (.j 1 411 60)) false (q 411 54 62))) .n)))) 411 15 63) (.tu (.c (.t #[101,108,101,109] 411 81 87) (.c (.j 7 411 89) (.c (.j 9 411 92) (.c (.list (.o (.bn .Mod (.l 3 411 96 101) (.j 3 411 104))) false (q 411 95 106)) .n)))) 411 80 107)) 411 8)) 410 4 411 107)
 (.c (.iz (.cm .Eq (.l 1 412 7 10) (.i 10 412 14 16)) (.o (.re (.tu (.c (.t #[99,117,116] 413 16 21) (.c (.j 7 413 23) (.c (.j 7 413 26) (.c (.sb (.list (.c (.un .USub (.j 1 413 31) (q 413 30 32)) (.c (.j 0 413 34) (.c (.j 1 413 37) (.c (.j 2 413 40) .n)))) false (q 413 29 42)) (.l 3 413 43 48)) (.c (.sb (.list (.h (.un .USub (.j 1 413 53) (q 413 52 54)) (.j 2 413 56) (.j 0 413 59)) false (q 413 51 61)) (.l 2 413 62 65)) .n))))) 413 15 67) 413 8)) 412 4 413 67)
 (.c (.iz (.cm .Eq (.l 1 414 7 10) (.i 11 414 14 16)) (.o (.re (.tu (.h (.t #[108,101,110,103,116,104] 415 16 24) (.l 2 415 26 29) (.bn .Add (.j 6 415 31) (.bn .Mod (.l 3 415 35 40) (.j 2 415 43)))) 415 15 45) 415 8)) 414 4 415 45)
 (.c (.iz (.cm .Eq (.l 1 416 7 10) (.i 12 416 14 16)) (.o (.re (.it (.cm .Gt (.l 3 417 35 40) (.j 1 417 43)) (.tu (.h (.t #[108,111,97,100] 417 16 22) (.l 2 417 24 27) (.j 6 417 29)) 417 15 31) (.tu (.h (.t #[108,111,97,100] 417 51 57) (.bn .Add (.j 3 417 59) (.bn .Mod (.l 2 417 63 66) (.j 2 417 69))) (.j 7 417 72)) 417 50 74)) 417 8)) 416 4 417 74)
 (.o (.re (.it (.cm .Gt (.l 3 418 32 37) (.j 1 418 40)) (.tu (.h (.t #[115,116,111,114,101] 418 12 19) (.j 6 418 21) (.l 2 418 24 27)) 418 11 28) (.tu (.h (.t #[115,116,111,114,101] 418 48 55) (.j 7 418 57) (.bn .Add (.j 3 418 60) (.bn .Mod (.l 2 418 64 67) (.j 2 418 70)))) 418 47 72)) 418 4))))))))
noncomputable def ZeV : FD := ⟨[sO "film", sO "way", sO "one", sO "other"], 2, ZeU⟩
noncomputable def ZeW : CB := (.c (.iz (.cm .Eq (.l 1 420 7 10) (.i 14 420 14 16)) (.o (.re (.tu (.h (.t #[115,101,116,108,97,98,101,108] 421 16 26) (.i 10 421 28 30) (.sb (.list (.h (.i 10 421 33 35) (.i 20 421 37 39) (.i 30 421 41 43)) false (q 421 32 44)) (.cl (.g 25 421 45 54) (.w (.l 0 421 55 59) (.j 3 421 61)) 63))) 421 15 65) 421 8)) 420 4 421 65)
 (.c (.iz (.cm .Eq (.l 1 422 7 10) (.i 15 422 14 16)) (.o (.re (.tu (.h (.t #[97,103,111,116,111] 423 16 23) (.i 10 423 25 27) (.comp (.tu (.w (.l 0 423 31 36) (.cl (.g 26 423 38 47) (.w (.l 1 423 48 52) (.l 2 423 54 59)) 60)) 423 30 61) (.nm 0 (q 423 66 71)) (.val (.slc (.list (.w (.i 10 423 76 78) (.i 20 423 80 82)) false (q 423 75 83)) .no (.so (.bn .Add (.j 1 423 85) (.cl (.g 25 423 89 98) (.w (.l 0 423 99 103) (.j 2 423 105)) 107))) (q 423 84 107) (q 423 75 108))) .no 1 [0,2] [sO "label",sO "film",sO "count"] ⟨.function, [(sO ".0", .local), (sO "label", .local), (sO "_law_goal", .globalImplicit), (sO "count", .free), (sO "film", .free)], false, false, []⟩ (q 423 29 109))) 423 15 110) 423 8)) 422 4 423 110)
 (.c (.iz (.cm .Eq (.l 1 424 7 10) (.i 16 424 14 16)) (.o (.re (.tu (.h (.sb (.list (.w (.t #[116,114,117,101] 425 17 23) (.t #[102,97,108,115,101] 425 25 32)) false (q 425 16 33)) (.cl (.g 25 425 34 43) (.w (.l 0 425 44 48) (.j 2 425 50)) 52)) (.j 5 425 55) (.cl (.g 26 425 58 67) (.w (.l 0 425 68 72) (.l 2 425 74 79)) 80)) 425 15 81) 425 8)) 424 4 425 81)
 (.c (.iz (.cm .Eq (.l 1 426 7 10) (.i 17 426 14 16)) (.o (.re (.tu (.h (.t #[115,119,105,116,99,104] 427 16 24) (.cl (.g 25 427 26 35) (.w (.l 0 427 36 40) (.j 3 427 42)) 44) (.comp (.cl (.g 26 427 47 56) (.w (.l 1 427 57 61) (.l 2 427 63 68)) 69) (.nm 0 (q 427 74 75)) (.rng (.cl (.g 25 427 85 94) (.w (.l 0 427 95 99) (.j 4 427 101)) 103) (q 427 79 84) (q 427 79 104)) .no 1 [0,2] [sO "_",sO "film",sO "count"] ⟨.function, [(sO ".0", .local), (sO "_", .local), (sO "_law_goal", .globalImplicit), (sO "count", .free), (sO "film", .free)], false, false, []⟩ (q 427 46 105))) 427 15 106) 427 8)) 426 4 427 106)
 (.c (.iz (.cm .Eq (.l 1 428 7 10) (.i 18 428 14 16)) (.o (.re (.tu (.c (.t #[115,105,103,110] 429 16 22) (.c (.cl (.g 25 429 24 33) (.w (.l 0 429 34 38) (.j 3 429 40)) 42) (.c (.cl (.g 26 429 44 53) (.w (.l 0 429 54 58) (.l 2 429 60 65)) 66) (.c (.cl (.g 26 429 68 77) (.w (.l 0 429 78 82) (.l 2 429 84 89)) 90) (.c (.cl (.g 26 429 92 101) (.w (.l 0 429 102 106) (.l 2 429 108 113)) 114) .n))))) 429 15 115) 429 8)) 428 4 429 115)
 (.c (.iz (.cm .Eq (.l 1 430 7 10) (.i 19 430 14 16)) (.o (.re (.tu (.w (.t #[106,117,109,112] 431 16 22) (.cl (.g 26 431 24 33) (.w (.l 0 431 34 38) (.l 2 431 40 45)) 46)) 431 15 47) 431 8)) 430 4 431 47)
 (.c (.iz (.cm .Eq (.l 1 432 7 10) (.i 20 432 14 16)) (.o (.re (.sb (.list (.c (.tu (.o (.t #[110,111,112] 433 17 22)) 433 16 24) (.c (.tu (.w (.t #[112,97,117,115,101] 433 27 34) (.t #[55] 433 36 39)) 433 26 40) (.c (.tu (.w (.t #[114,101,116,117,114,110] 433 43 51) (.cl (.g 25 433 53 62) (.w (.l 0 433 63 67) (.j 3 433 69)) 71)) 433 42 72) (.c (.tu (.w (.t #[114,101,116,117,114,110] 433 75 83) (.un .USub (.j 1 433 86) (q 433 85 87))) 433 74 88) (.c (.tu (.w (.t #[115,116,111,112] 433 91 97) (.t #[49] 433 99 102)) 433 90 103) (.c (.tu (.o (.t #[111,100,100] 433 106 111)) 433 105 113) .n)))))) false (q 433 15 114)) (.cl (.g 25 433 115 124) (.w (.l 0 433 125 129) (.j 6 433 131)) 133)) 433 8)) 432 4 433 134)
 (.o (.re (.tu (.o (.t #[110,111,112] 434 12 17)) 434 11 19) 434 4)))))))))
noncomputable def ZeX : FD := ⟨[sO "film", sO "way", sO "count"], 3, ZeW⟩
noncomputable def Zdb : CB := (.c (.an 1 436 4 9 (.bn .Add (.j 1 436 12) (.cl (.g 25 436 16 25) (.w (.l 0 436 26 30) (.i 14 436 32 34)) 35)))
 (.c (.an 2 437 4 9 (.list .n true (q 437 12 14)))
 (.c (.fr (.nm 3 (q 438 8 9)) (.rng (.l 1 438 19 24) (q 438 13 18) (q 438 13 25)) (.c (.an 4 439 8 11 (.cl (.g 25 439 14 23) (.w (.l 0 439 24 28) (.i 21 439 30 32)) 33))
 (.o (.ex (.meth (.l 2 440 8 13) 14 (.o (.it (.cm .Lt (.l 4 440 46 49) (.j 8 440 52)) (.cl (.g 28 440 21 31) (.w (.l 0 440 32 36) (.l 4 440 38 41)) 42) (.it (.cm .Lt (.l 4 440 85 88) (.i 14 440 91 93)) (.cl (.g 29 440 59 70) (.w (.l 0 440 71 75) (.l 4 440 77 80)) 81) (.cl (.g 30 440 99 110) (.h (.l 0 440 111 115) (.l 4 440 117 120) (.l 1 440 122 127)) 128)))) (q 440 8 20) (q 440 8 129)) (q 440 8 129)))) ⟨438,4,440,129⟩)
 (.o (.re (.bn .Add (.g 27 441 11 21) (.l 2 441 24 29)) 441 4)))))
noncomputable def Zhi : FD := ⟨[sO "film", sO "count", sO "found", sO "_", sO "way"], 1, Zdb⟩
noncomputable def ZeY : CB := (.c (.iz (.bop .Or (.w (.cm .Eq (.l 0 443 7 11) (.t #[108,116] 443 15 19)) (.cm .Eq (.l 0 443 23 27) (.t #[101,113] 443 31 35))) (q 443 7 35)) (.o (.re (.it (.cm .Eq (.l 0 444 31 35) (.t #[108,116] 444 39 43)) (.cm .Lt (.l 2 444 15 19) (.l 3 444 22 27)) (.cm .Eq (.l 2 444 49 53) (.l 3 444 57 62))) 444 8)) 443 4 444 62)
 (.c (.iz (.cm .Eq (.l 0 445 7 11) (.t #[100,105,118] 445 15 20)) (.c (.iz (.cm .Eq (.l 3 446 11 16) (.j 0 446 20)) (.o (.rs 1 (.o (.t #[111,119,110] 447 27 32)) 447 12 26 33)) 446 8 447 33)
 (.c (.an 5 448 8 13 (.bn .FloorDiv (.bl .abs (.o (.l 2 448 20 24)) 448 16 19 25) (.bl .abs (.o (.l 3 448 33 38)) 448 29 32 39)))
 (.o (.re (.it (.cmp .Eq (.cm .Lt (.l 2 449 25 29) (.j 0 449 32)) (.cm .Lt (.l 3 449 39 44) (.j 0 449 47)) (q 449 24 49)) (.l 5 449 15 20) (.un .USub (.l 5 449 56 61) (q 449 55 61))) 449 8)))) 445 4 449 61)
 (.c (.an 5 450 4 9 (.sb (.dict [((.str ⟨#[97,100,100]⟩),(q 450 13 18)),((.str ⟨#[115,117,98]⟩),(q 450 34 39)),((.str ⟨#[109,117,108]⟩),(q 450 55 60))] (.h (.bn .Add (.l 2 450 20 24) (.l 3 450 27 32)) (.bn .Sub (.l 2 450 41 45) (.l 3 450 48 53)) (.bn .Mult (.l 2 450 62 66) (.l 3 450 69 74))) false (q 450 12 75)) (.l 0 450 76 80)))
 (.c (.iz (.un .Not (.cmp2 .LtE .LtE (.un .USub (.i 99 451 12 14) (q 451 11 14)) (.l 5 451 18 23) (.i 99 451 27 29) (q 451 11 29)) (q 451 7 29)) (.o (.rs 1 (.o (.t #[111,119,110] 452 23 28)) 452 8 22 29)) 451 4 452 29)
 (.o (.re (.l 5 453 11 16) 453 4))))))
noncomputable def ZeZ : FD := ⟨[sO "name", sO "kind", sO "left", sO "right", sO "limits", sO "found"], 5, ZeY⟩
noncomputable def Ze0 : CB := (.c (.iz (.cm .Eq (.l 2 455 7 11) (.j 0 455 15)) (.o (.rs 1 (.o (.t #[111,119,110] 456 23 28)) 456 8 22 29)) 455 4 456 29)
 (.c (.an 3 457 4 8 (.cl (.g 31 457 11 22) (.c (.t #[97,100,100] 457 23 28) (.c (.j 0 457 30) (.c (.cl (.g 31 457 33 44) (.c (.t #[115,117,98] 457 45 50) (.c (.j 0 457 52) (.c (.l 1 457 55 59) (.c (.l 0 457 61 66) (.c (.cst .none (q 457 68 72)) .n))))) 73) (.c (.l 2 457 75 79) (.c (.cst .none (q 457 81 85)) .n))))) 86))
 (.o (.re (.bl .max (.w (.cl (.g 31 458 15 26) (.c (.t #[100,105,118] 458 27 32) (.c (.j 0 458 34) (.c (.l 3 458 37 41) (.c (.l 2 458 43 47) (.c (.cst .none (q 458 49 53)) .n))))) 54) (.j 0 458 56)) 458 11 14 58) 458 4))))
noncomputable def Ze1 : FD := ⟨[sO "first", sO "last", sO "step", sO "span"], 3, Ze0⟩
noncomputable def ZfA : CB := (.c (.unp [(2,(q 460 4 8)),(3,(q 460 10 14))] (.w (.sb (.l 1 460 18 21) (.j 0 460 22)) (.sb (.l 0 460 26 29) (.t #[114,101,103,105,115,116,101,114,115] 460 30 41))) (q 460 4 14) (q 460 17 43) (q 460 4 43))
 (.c (.iz (.cm .Eq (.l 2 461 7 11) (.t #[115,101,116] 461 15 20)) (.o (.re (.sb (.l 1 462 15 18) (.j 3 462 19)) 462 8)) 461 4 462 21)
 (.c (.iz (.cm .Eq (.l 2 463 7 11) (.t #[109,111,118,101] 463 15 21)) (.o (.re (.sb (.l 3 464 15 19) (.sb (.l 1 464 20 23) (.j 2 464 24))) 464 8)) 463 4 464 27)
 (.c (.iz (.bop .Or (.w (.cm .Eq (.l 2 465 7 11) (.t #[98,105,110] 465 15 20)) (.cm .Eq (.l 2 465 24 28) (.t #[99,109,112] 465 32 37))) (q 465 7 37)) (.o (.re (.cl (.g 31 466 15 26) (.c (.sb (.l 1 466 27 30) (.j 2 466 31)) (.c (.sb (.l 1 466 35 38) (.j 3 466 39)) (.c (.sb (.l 3 466 43 47) (.sb (.l 1 466 48 51) (.j 4 466 52))) (.c (.sb (.l 3 466 57 61) (.sb (.l 1 466 62 65) (.j 5 466 66))) (.c (.cst .none (q 466 71 75)) .n))))) 76) 466 8)) 465 4 466 76)
 (.c (.iz (.cm .Eq (.l 2 467 7 11) (.t #[117,110] 467 15 19)) (.o (.re (.it (.cm .Eq (.sb (.l 1 468 32 35) (.j 2 468 36)) (.t #[110,101,103] 468 42 47)) (.un .USub (.sb (.l 3 468 16 20) (.sb (.l 1 468 21 24) (.j 4 468 25))) (q 468 15 28)) (.un .Not (.sb (.l 3 468 57 61) (.sb (.l 1 468 62 65) (.j 4 468 66))) (q 468 53 69))) 468 8)) 467 4 468 69)
 (.c (.iz (.cm .Eq (.l 2 469 7 11) (.t #[99,97,116] 469 15 20)) (.o (.re (.bn .Add (.sb (.l 3 470 15 19) (.sb (.l 1 470 20 23) (.j 2 470 24))) (.sb (.l 3 470 30 34) (.sb (.l 1 470 35 38) (.j 3 470 39)))) 470 8)) 469 4 470 42)
 (.c (.iz (.cm .Eq (.l 2 471 7 11) (.t #[99,111,117,110,116] 471 15 22)) (.o (.re (.cl (.g 35 472 15 26) (.h (.sb (.l 3 472 27 31) (.sb (.l 1 472 32 35) (.j 3 472 36))) (.sb (.l 3 472 41 45) (.sb (.l 1 472 46 49) (.j 4 472 50))) (.sb (.l 3 472 55 59) (.sb (.l 1 472 60 63) (.j 5 472 64)))) 68) 472 8)) 471 4 472 68)
 (.c (.iz (.cm .Eq (.l 2 473 7 11) (.t #[97,100,100,114] 473 15 21)) (.c (.iz (.cm .In (.sb (.l 1 474 11 14) (.j 2 474 15)) (.tu (.w (.t #[90] 474 22 25) (.t #[80] 474 27 30)) 474 21 31)) (.o (.rs 1 (.o (.t #[111,119,110] 475 27 32)) 475 12 26 33)) 474 8 475 33)
 (.o (.re (.sb (.g 34 476 15 25) (.sb (.l 1 476 26 29) (.j 2 476 30))) 476 8))) 473 4 476 33)
 (.c (.iz (.cm .Eq (.l 2 477 7 11) (.t #[108,101,110,103,116,104] 477 15 23)) (.o (.re (.sb (.sb (.l 3 478 15 19) (.sb (.l 1 478 20 23) (.j 2 478 24))) (.j 2 478 28)) 478 8)) 477 4 478 30)
 (.c (.iz (.cm .Eq (.l 2 479 7 11) (.t #[108,111,97,100] 479 15 21)) (.o (.re (.cl (.g 33 480 15 26) (.w (.l 0 480 27 30) (.sb (.l 3 480 32 36) (.sb (.l 1 480 37 40) (.j 2 480 41)))) 45) 480 8)) 479 4 480 45)
 (.o (.re (.cl (.g 32 481 11 21) (.w (.l 0 481 22 25) (.l 1 481 27 30)) 31) 481 4))))))))))))
noncomputable def ZfB : FD := ⟨[sO "own", sO "row", sO "word", sO "regs"], 2, ZfA⟩
noncomputable def ZfC : CB := (.c (.an 2 483 4 8 (.sb (.l 0 483 11 14) (.t #[114,101,103,105,115,116,101,114,115] 483 15 26)))
 (.c (.iz (.cm .Eq (.sb (.l 1 484 7 10) (.j 0 484 11)) (.t #[99,117,116] 484 17 22)) (.c (.an 3 485 8 12 (.sb (.l 2 485 15 19) (.sb (.l 1 485 20 23) (.j 2 485 24))))
 (.c (.an 4 486 8 11 (.it (.cm .Lt (.sb (.l 1 486 19 22) (.j 3 486 23)) (.j 0 486 28)) (.j 1 486 14) (.sb (.l 2 486 35 39) (.sb (.l 1 486 40 43) (.j 3 486 44)))))
 (.c (.an 5 487 8 12 (.it (.cm .Lt (.sb (.l 1 487 26 29) (.j 4 487 30)) (.j 0 487 35)) (.sb (.l 3 487 15 19) (.j 2 487 20)) (.sb (.l 2 487 42 46) (.sb (.l 1 487 47 50) (.j 4 487 51)))))
 (.c (.iz (.un .Not (.cmp3 .LtE .LtE .LtE (.j 1 488 15) (.l 4 488 20 23) (.l 5 488 27 31) (.sb (.l 3 488 35 39) (.j 2 488 40)) (q 488 15 42)) (q 488 11 42)) (.o (.rs 1 (.o (.t #[111,119,110] 489 27 32)) 489 12 26 33)) 488 8 489 33)
 (.o (.re (.tu (.c (.j 5 490 16) (.c (.bn .Sub (.bn .Add (.sb (.l 3 490 19 23) (.j 1 490 24)) (.l 4 490 29 32)) (.j 1 490 35)) (.c (.bn .Add (.bn .Sub (.l 5 490 38 42) (.l 4 490 45 48)) (.j 1 490 51)) (.c (.tu .n 490 54 56) .n)))) 490 15 57) 490 8)))))) 484 4 490 57)
 (.c (.an 6 491 4 11 (.comp (.sb (.l 1 491 15 19) (.l 0 491 20 23)) (.nm 0 (q 491 29 32)) (.val (.sb (.l 1 491 36 39) (.j 3 491 40))) .no 1 [2] [sO "one",sO "regs"] ⟨.function, [(sO ".0", .local), (sO "one", .local), (sO "regs", .free)], false, false, []⟩ (q 491 14 43)))
 (.c (.an 7 492 4 10 (.it (.cm .Eq (.sb (.l 1 492 23 26) (.j 2 492 27)) (.j 8 492 33)) (.tu (.w (.j 1 492 14) (.j 3 492 17)) 492 13 19) (.tu (.w (.j 0 492 41) (.j 1 492 44)) 492 40 46)))
 (.c (.iz (.bop .Or (.w (.cm .NotEq (.bl .len (.o (.l 6 493 11 18)) 493 7 10 19) (.j 1 493 23)) (.un .Not (.cmp2 .LtE .LtE (.sb (.l 7 493 32 38) (.j 0 493 39)) (.sb (.l 6 493 45 52) (.j 0 493 53)) (.sb (.l 7 493 59 65) (.j 1 493 66)) (q 493 32 68)) (q 493 28 68))) (q 493 7 68)) (.o (.rs 1 (.o (.t #[111,119,110] 494 23 28)) 494 8 22 29)) 493 4 494 29)
 (.o (.re (.it (.cm .Eq (.sb (.l 1 495 41 44) (.j 2 495 45)) (.j 8 495 51)) (.tu (.c (.j 0 495 12) (.c (.bn .Add (.j 1 495 15) (.sb (.l 6 495 19 26) (.j 0 495 27))) (.c (.j 0 495 31) (.c (.tu .n 495 34 36) .n)))) 495 11 37) (.tu (.c (.j 5 495 59) (.c (.bn .Add (.j 4 495 62) (.bn .Mult (.j 2 495 66) (.sb (.l 6 495 70 77) (.j 0 495 78)))) (.c (.j 2 495 82) (.c (.tu .n 495 85 87) .n)))) 495 58 88)) 495 4)))))))
noncomputable def ZfD : FD := ⟨[sO "own", sO "row", sO "regs", sO "base", sO "low", sO "high", sO "numbers", sO "bounds"], 2, ZfC⟩
noncomputable def Ze2 : CB := (.c (.iz (.cm .Eq (.sb (.l 1 497 7 12) (.j 0 497 13)) (.j 0 497 19)) (.c (.an 2 498 8 12 (.sb (.sb (.l 0 498 15 18) (.t #[110,117,109,98,101,114,115] 498 19 28)) (.sb (.l 1 498 30 35) (.j 1 498 36))))
 (.c (.iz (.bop .Or (.w (.cm .Is (.l 2 499 11 15) (.cst .none (q 499 19 23))) (.cm .NotEq (.sb (.l 2 499 27 31) (.j 0 499 32)) (.j 0 499 38))) (q 499 11 39)) (.o (.rs 1 (.o (.t #[111,119,110] 500 27 32)) 500 12 26 33)) 499 8 500 33)
 (.o (.re (.sb (.l 2 501 15 19) (.j 1 501 20)) 501 8)))) 497 4 501 22)
 (.c (.an 3 502 4 9 (.slc (.sb (.l 0 502 12 15) (.t #[115,105,103,110,115] 502 16 23)) (.so (.sb (.l 1 502 25 30) (.j 1 502 31))) (.so (.bn .Add (.sb (.l 1 502 34 39) (.j 1 502 40)) (.sb (.l 1 502 45 50) (.j 2 502 51)))) (q 502 25 53) (q 502 12 54)))
 (.c (.iz (.cm .In (.cst .none (q 503 7 11)) (.l 3 503 15 20)) (.o (.rs 1 (.o (.t #[111,119,110] 504 23 28)) 504 8 22 29)) 503 4 504 29)
 (.o (.re (.meth (.t #[] 505 11 13) 5 (.o (.l 3 505 19 24)) (q 505 11 18) (q 505 11 25)) 505 4)))))
noncomputable def Ze3 : FD := ⟨[sO "own", sO "place", sO "cell", sO "signs"], 2, Ze2⟩
noncomputable def Zhj : CB := (.c (.unp [(3,(q 507 4 8)),(4,(q 507 10 14))] (.w (.sb (.l 1 507 18 21) (.j 0 507 22)) (.sb (.l 0 507 26 29) (.t #[114,101,103,105,115,116,101,114,115] 507 30 41))) (q 507 4 14) (q 507 17 43) (q 507 4 43))
 (.c (.iy (.cm .Eq (.l 3 508 7 11) (.t #[115,116,111,114,101] 508 15 22)) (.c (.asg (.tup [(5,(q 509 8 12)),(6,(q 509 14 21)),(7,(q 509 23 29)),(8,(q 509 31 35))] (q 509 8 35)) (.sb (.l 4 509 38 42) (.sb (.l 1 509 43 46) (.j 1 509 47))) (q 509 8 50))
 (.o (.iy (.cm .Eq (.l 5 510 11 15) (.j 0 510 19)) (.o (.asg (.sub (.sb (.l 0 511 12 15) (.t #[110,117,109,98,101,114,115] 511 16 25)) (.l 6 511 27 34) (q 511 12 35)) (.tu (.w (.j 0 511 39) (.sb (.l 4 511 42 46) (.sb (.l 1 511 47 50) (.j 2 511 51)))) 511 38 55) (q 511 12 55))) (.o (.asg (.slc (.sb (.l 0 513 12 15) (.t #[115,105,103,110,115] 513 16 23)) (.so (.l 6 513 25 32)) (.so (.bn .Add (.l 6 513 33 40) (.l 7 513 43 49))) (q 513 25 49) (q 513 12 50)) (.bl .list (.o (.slc (.bn .Add (.sb (.l 4 513 59 63) (.sb (.l 1 513 64 67) (.j 2 513 68))) (.t #[32,32,32,32] 513 74 80)) .no (.so (.l 7 513 83 89)) (q 513 82 89) (q 513 58 90))) 513 53 57 91) (q 513 12 91))) 510 8 513 91))) (.o (.iy (.cm .Eq (.l 3 514 9 13) (.t #[115,101,116,108,97,98,101,108] 514 17 27)) (.o (.asg (.sub (.sb (.l 0 515 8 11) (.t #[110,117,109,98,101,114,115] 515 12 21)) (.j 5 515 23) (q 515 8 25)) (.tu (.w (.j 7 515 29) (.sb (.l 1 515 32 35) (.j 2 515 36))) 515 28 39) (q 515 8 39))) (.o (.iy (.cm .Eq (.l 3 516 9 13) (.t #[97,103,111,116,111] 516 17 24)) (.c (.an 9 517 8 12 (.sb (.sb (.l 0 517 15 18) (.t #[110,117,109,98,101,114,115] 517 19 28)) (.j 5 517 30)))
 (.c (.an 10 518 8 13 (.comp (.l 1 518 17 22) (.two 0 (q 518 27 32) 1 (q 518 34 39) (q 518 27 39)) (.val (.sb (.l 1 518 43 46) (.j 2 518 47))) (.so (.bop .And (.w (.cm .IsNot (.l 2 518 53 57) (.cst .none (q 518 65 69))) (.cm .Eq (.l 2 518 74 78) (.tu (.w (.j 7 518 83) (.l 0 518 86 91)) 518 82 92))) (q 518 53 92))) 2 [9] [sO "label",sO "place",sO "cell"] ⟨.function, [(sO ".0", .local), (sO "label", .local), (sO "place", .local), (sO "cell", .free)], false, false, []⟩ (q 518 16 93)))
 (.c (.iz (.cm .Eq (.l 10 519 11 16) (.list .n false (q 519 20 22))) (.o (.rs 1 (.o (.t #[111,119,110] 520 27 32)) 520 12 26 33)) 519 8 520 33)
 (.o (.re (.sb (.l 10 521 15 20) (.j 0 521 21)) 521 8))))) (.o (.iy (.bop .Or (.w (.cm .Eq (.l 3 522 9 13) (.t #[116,114,117,101] 522 17 23)) (.cm .Eq (.l 3 522 27 31) (.t #[102,97,108,115,101] 522 35 42))) (q 522 9 42)) (.o (.re (.it (.cmp .Eq (.sb (.l 4 523 25 29) (.j 5 523 30)) (.cm .Eq (.l 3 523 37 41) (.t #[116,114,117,101] 523 45 51)) (q 523 25 52)) (.sb (.l 1 523 15 18) (.j 2 523 19)) (.bn .Add (.l 2 523 58 60) (.j 1 523 63))) 523 8)) (.o (.iy (.cm .Eq (.l 3 524 9 13) (.t #[115,119,105,116,99,104] 524 17 25)) (.c (.an 11 525 8 14 (.sb (.l 4 525 17 21) (.sb (.l 1 525 22 25) (.j 1 525 26))))
 (.o (.re (.it (.cmp2 .LtE .LtE (.j 1 526 37) (.l 11 526 42 48) (.bl .len (.o (.sb (.l 1 526 56 59) (.j 2 526 60))) 526 52 55 63) (q 526 37 63)) (.sb (.sb (.l 1 526 15 18) (.j 2 526 19)) (.bn .Sub (.l 11 526 22 28) (.j 1 526 31))) (.bn .Add (.l 2 526 69 71) (.j 1 526 74))) 526 8))) (.o (.iy (.cm .Eq (.l 3 527 9 13) (.t #[115,105,103,110] 527 17 23)) (.c (.an 11 528 8 14 (.sb (.l 4 528 17 21) (.sb (.l 1 528 22 25) (.j 1 528 26))))
 (.o (.re (.it (.cm .Lt (.l 11 529 25 31) (.j 0 529 34)) (.sb (.l 1 529 15 18) (.j 2 529 19)) (.it (.cm .Eq (.l 11 529 51 57) (.j 0 529 61)) (.sb (.l 1 529 41 44) (.j 3 529 45)) (.sb (.l 1 529 68 71) (.j 4 529 72)))) 529 8))) (.o (.iz (.cm .Eq (.l 3 530 9 13) (.t #[106,117,109,112] 530 17 23)) (.o (.re (.sb (.l 1 531 15 18) (.j 1 531 19)) 531 8)) 530 4 531 21)) 527 4 531 21)) 524 4 531 21)) 522 4 531 21)) 516 4 531 21)) 514 4 531 21)) 508 4 531 21)
 (.o (.re (.bn .Add (.l 2 532 11 13) (.j 1 532 16)) 532 4))))
noncomputable def Zhk : FD := ⟨[sO "own", sO "row", sO "at", sO "word", sO "regs", sO "kind", sO "address", sO "length", sO "dims", sO "cell", sO "goals", sO "number"], 3, Zhj⟩
noncomputable def Zbm : CB := (.c (.an 3 534 4 6 (.j 0 534 9))
 (.c (.whl (.cm .Lt (.l 3 535 10 12) (.bl .len (.o (.l 1 535 19 23)) 535 15 18 24)) (.c (.asg (.sub (.l 0 536 8 11) (.t #[115,116,101,112,115] 536 12 19) (q 536 8 20)) (.bn .Add (.sb (.l 0 536 23 26) (.t #[115,116,101,112,115] 536 27 34)) (.j 1 536 38)) (q 536 8 39))
 (.c (.an 4 537 8 11 (.sb (.l 1 537 14 18) (.l 3 537 19 21)))
 (.c (.iz (.cm .Gt (.sb (.l 0 538 11 14) (.t #[115,116,101,112,115] 538 15 22)) (.l 2 538 26 30)) (.o (.re (.t #[108,111,110,103] 539 19 25) 539 12)) 538 8 539 25)
 (.c (.iz (.cm .Eq (.sb (.l 4 540 11 14) (.j 0 540 15)) (.t #[111,100,100] 540 21 26)) (.o (.re (.t #[99,111,100,101] 541 19 25) 541 12)) 540 8 541 25)
 (.c (.iz (.cm .Eq (.sb (.l 4 542 11 14) (.j 0 542 15)) (.t #[115,116,111,112] 542 21 27)) (.o (.re (.tu (.w (.t #[115,116,111,112] 543 20 26) (.sb (.l 4 543 28 31) (.j 1 543 32))) 543 19 35) 543 12)) 542 8 543 35)
 (.c (.iz (.cm .Eq (.sb (.l 4 544 11 14) (.j 0 544 15)) (.t #[114,101,116,117,114,110] 544 21 29)) (.o (.re (.tu (.w (.t #[100,111,110,101] 545 20 26) (.it (.cm .GtE (.sb (.l 4 545 56 59) (.j 1 545 60)) (.j 0 545 66)) (.sb (.sb (.l 0 545 28 31) (.t #[114,101,103,105,115,116,101,114,115] 545 32 43)) (.sb (.l 4 545 45 48) (.j 1 545 49))) (.j 0 545 73))) 545 19 75) 545 12)) 544 8 545 75)
 (.o (.try_ (.o (.iy (.cm .In (.sb (.l 4 547 15 18) (.j 0 547 19)) (.tu (.c (.t #[115,101,116] 547 26 31) (.c (.t #[109,111,118,101] 547 33 39) (.c (.t #[98,105,110] 547 41 46) (.c (.t #[99,109,112] 547 48 53) (.c (.t #[117,110] 547 55 59) (.c (.t #[99,97,116] 547 61 66) (.c (.t #[99,111,117,110,116] 547 68 75) (.c (.t #[97,100,100,114] 547 77 83) (.c (.t #[108,101,110,103,116,104] 547 85 93) (.c (.t #[108,111,97,100] 547 95 101) (.c (.t #[99,117,116] 547 103 108) (.c (.t #[101,108,101,109] 547 110 116) .n)))))))))))) 547 25 117)) (.c (.asg (.sub (.sb (.l 0 548 16 19) (.t #[114,101,103,105,115,116,101,114,115] 548 20 31)) (.sb (.l 4 548 33 36) (.j 1 548 37)) (q 548 16 40)) (.cl (.g 36 548 43 53) (.w (.l 0 548 54 57) (.l 4 548 59 62)) 63) (q 548 16 63))
 (.o (.an 3 549 16 18 (.bn .Add (.l 3 549 21 23) (.j 1 549 26))))) (.o (.an 3 551 16 18 (.cl (.g 37 551 21 30) (.h (.l 0 551 31 34) (.l 4 551 36 39) (.l 3 551 41 43)) 44))) 547 12 551 44)) [(1,(q 552 15 23),none,(.cst (.str ⟨#[114,117,110]⟩) (q 553 19 24)),(q 553 12 24),⟨552,8,553,24⟩)] ⟨546,8,553,24⟩)))))))) ⟨535,4,553,24⟩)
 (.o (.re (.t #[99,111,100,101] 554 11 17) 554 4))))
noncomputable def Zis : FD := ⟨[sO "own", sO "rows", sO "most", sO "at", sO "row"], 3, Zbm⟩
noncomputable def Zb3 : CB := (.c (.an 2 556 4 10 (.cl (.g 61 556 13 19) (.w (.j 6 556 20) (.j 8 556 23)) 25))
 (.c (.asg (.slc (.at (.l 2 557 4 10) 13 18) .no .no (q 557 19 20) (q 557 4 21)) (.bl .list (.o (.sb (.l 0 557 29 32) (.t #[110,117,109,98,101,114,115] 557 33 42))) 557 24 28 44) (q 557 4 44))
 (.c (.asg (.slc (.at (.l 2 558 4 10) 15 21) .no .no (q 558 22 23) (q 558 4 24)) (.bl .list (.o (.sb (.l 0 558 32 35) (.t #[115,105,103,110,115] 558 36 43))) 558 27 31 45) (q 558 4 45))
 (.c (.an 3 559 4 11 (.cl (.g 60 559 14 21) (.c (.l 2 559 22 28) (.c (.lim (.l 1 559 43 47) (q 559 30 36) (q 559 37 47) (q 559 30 48)) (.c (.dict [] .n false (q 559 50 52)) (.c (.dict [] .n false (q 559 54 56)) .n)))) 57))
 (.c (.asg (.attr (.l 3 560 4 11) 1 (q 560 4 15)) (.dict [((.str ⟨#[115,101,116]⟩),(q 560 19 24)),((.str ⟨#[109,111,118,101]⟩),(q 560 34 40)),((.str ⟨#[98,105,110]⟩),(q 560 51 56)),((.str ⟨#[99,109,112]⟩),(q 560 66 71)),((.str ⟨#[117,110]⟩),(q 560 81 85)),((.str ⟨#[99,97,116]⟩),(q 560 95 100)),((.str ⟨#[99,111,117,110,116]⟩),(q 560 110 117)),((.str ⟨#[97,100,100,114]⟩),(q 560 129 135)),((.str ⟨#[101,108,101,109]⟩),(q 560 146 152)),((.str ⟨#[99,117,116]⟩),(q 560 163 168)),((.str ⟨#[108,101,110,103,116,104]⟩),(q 560 178 186)),((.str ⟨#[108,111,97,100]⟩),(q 560 199 205)),((.str ⟨#[115,116,111,114,101]⟩),(q 560 216 223)),((.str ⟨#[115,101,116,108,97,98,101,108]⟩),(q 560 235 245)),((.str ⟨#[97,103,111,116,111]⟩),(q 560 260 267)),((.str ⟨#[116,114,117,101]⟩),(q 560 279 285)),((.str ⟨#[102,97,108,115,101]⟩),(q 560 296 303)),((.str ⟨#[115,119,105,116,99,104]⟩),(q 560 315 323)),((.str ⟨#[115,105,103,110]⟩),(q 560 336 342)),((.str ⟨#[106,117,109,112]⟩),(q 560 353 359)),((.str ⟨#[110,111,112]⟩),(q 560 370 375)),((.str ⟨#[112,97,117,115,101]⟩),(q 560 385 392)),((.str ⟨#[114,101,116,117,114,110]⟩),(q 560 402 410)),((.str ⟨#[115,116,111,112]⟩),(q 560 423 429))] (.c (.g 59 560 26 32) (.c (.g 58 560 42 49) (.c (.g 57 560 58 64) (.c (.g 57 560 73 79) (.c (.g 56 560 87 93) (.c (.g 55 560 102 108) (.c (.g 54 560 119 127) (.c (.g 53 560 137 144) (.c (.g 52 560 154 161) (.c (.g 51 560 170 176) (.c (.g 50 560 188 197) (.c (.g 49 560 207 214) (.c (.g 48 560 225 233) (.c (.g 47 560 247 258) (.c (.g 46 560 269 277) (.c (.g 45 560 287 294) (.c (.g 44 560 305 313) (.c (.g 43 560 325 334) (.c (.g 42 560 344 351) (.c (.g 41 560 361 368) (.c (.g 40 560 377 383) (.c (.g 40 560 394 400) (.c (.g 39 560 412 421) (.c (.g 38 560 431 438) .n)))))))))))))))))))))))) false (q 560 18 439)) (q 560 4 439))
 (.c (.asg (.attr (.l 3 561 4 11) 7 (q 561 4 22)) (.dict [((.int 0),(q 561 26 27)),((.int 5),(q 561 42 43))] (.w (.g 31 561 29 40) (.g 31 561 45 56)) false (q 561 25 57)) (q 561 4 57))
 (.o (.re (.l 3 562 11 18) 562 4))))))))
noncomputable def Zd4 : FD := ⟨[sO "own", sO "most", sO "memory", sO "machine"], 2, Zb3⟩
noncomputable def Zcz : CB := (.o (.try_ (.o (.re (.tu (.w (.t #[100,111,110,101] 565 16 22) (.cl (.g 62 565 24 32) (.h (.l 0 565 33 40) (.l 1 565 42 46) (.j 0 565 48)) 50)) 565 15 51) 565 8)) [(2,(q 566 11 18),(some 2),(.two (.str ⟨#[115,116,111,112]⟩) (q 567 16 22) 16 (q 567 24 28) (q 567 24 33) (q 567 15 34)),(q 567 8 34),⟨566,4,567,34⟩),(4,(q 568 11 18),none,(.cst (.str ⟨#[108,111,110,103]⟩) (q 569 15 21)),(q 569 8 21),⟨568,4,569,21⟩),(3,(q 570 11 20),none,(.cst (.str ⟨#[99,111,100,101]⟩) (q 571 15 21)),(q 571 8 21),⟨570,4,571,21⟩),(1,(q 572 11 19),none,(.cst (.str ⟨#[114,117,110]⟩) (q 573 15 20)),(q 573 8 20),⟨572,4,573,20⟩)] ⟨564,4,573,20⟩))
noncomputable def ZfE : FD := ⟨[sO "machine", sO "call", sO "stop"], 2, Zcz⟩
noncomputable def Zfd : CB := (.c (.an 1 575 4 8 (.dict [((.str ⟨#[115,99,114,105,112,116]⟩),(q 575 12 20)),((.str ⟨#[102,114,97,109,101]⟩),(q 575 35 42))] (.w (.slc (.l 0 575 22 28) .no (.so (.i 70 575 30 32)) (q 575 29 32) (q 575 22 33)) (.j 0 575 44)) true (q 575 11 46)))
 (.c (.an 2 576 4 8 (.cl (.g 68 576 11 20) (.o (.l 1 576 21 25)) 26))
 (.c (.an 3 577 4 8 (.sb (.list (.h (.i 70 577 12 14) (.i 24 577 16 18) (.i 15 577 20 22)) false (q 577 11 23)) (.cl (.g 25 577 24 33) (.w (.l 1 577 34 38) (.j 3 577 40)) 42)))
 (.c (.an 4 578 4 7 (.dict [((.str ⟨#[114,101,103,105,115,116,101,114,115]⟩),(q 578 11 22)),((.str ⟨#[110,117,109,98,101,114,115]⟩),(q 578 37 46)),((.str ⟨#[115,105,103,110,115]⟩),(q 578 92 99)),((.str ⟨#[115,116,101,112,115]⟩),(q 578 129 136))] (.c (.bin .Mult (.list (.o (.cst .none (q 578 25 29))) false (q 578 24 30)) (.i 11 578 33 35) true (q 578 24 35)) (.c (.list (.c (.tu (.w (.j 0 578 50) (.j 7 578 53)) 578 49 55) (.c (.cst .none (q 578 57 61)) (.c (.tu (.w (.j 0 578 64) (.j 1 578 67)) 578 63 69) (.c (.tu (.w (.j 0 578 72) (.j 2 578 75)) 578 71 77) (.c (.cst .none (q 578 79 83)) (.c (.cst .none (q 578 85 89)) .n)))))) true (q 578 48 90)) (.c (.bin .Add (.bl .list (.o (.t #[97,98,99,100,101] 578 106 113)) 578 101 105 114) (.bn .Mult (.list (.o (.cst .none (q 578 118 122))) false (q 578 117 123)) (.j 3 578 126)) true (q 578 101 127)) (.c (.j 0 578 138) .n)))) true (q 578 10 140)))
 (.c (.an 5 579 4 11 (.cl (.g 67 579 14 26) (.w (.l 4 579 27 30) (.l 3 579 32 36)) 37))
 (.c (.an 6 580 4 8 (.cl (.g 65 580 11 15) (.w (.cl (.g 66 580 16 20) (.c (.l 2 580 21 25) (.c (.i 11 580 27 29) (.c (.dict [] .n false (q 580 31 33)) (.c (.dict [] .n false (q 580 35 37)) .n)))) 38) (.g 34 580 40 50)) 51))
 (.c (.an 7 581 4 8 (.cl (.g 64 581 11 21) (.w (.l 5 581 22 29) (.l 6 581 31 35)) 36))
 (.c (.iz (.bop .Or (.h (.cm .NotEq (.l 7 582 7 11) (.cl (.g 63 582 15 23) (.h (.l 4 582 24 27) (.l 2 582 29 33) (.l 3 582 35 39)) 40)) (.cm .NotEq (.at (.l 6 582 44 48) 6 58) (.sb (.l 4 582 62 65) (.t #[114,101,103,105,115,116,101,114,115] 582 66 77))) (.cm .NotEq (.at (.l 5 582 82 89) 2 95) (.sb (.l 4 582 99 102) (.t #[115,116,101,112,115] 582 103 110)))) (q 582 7 111)) (.o (.re (.cst (.bool false) (q 583 15 20)) 583 8)) 582 4 583 20)
 (.o (.re (.bop .And (.w (.cm .Eq (.at (.at (.l 5 584 11 18) 10 25) 13 33) (.sb (.l 4 584 37 40) (.t #[110,117,109,98,101,114,115] 584 41 50))) (.cm .Eq (.at (.at (.l 5 584 56 63) 10 70) 15 81) (.sb (.l 4 584 85 88) (.t #[115,105,103,110,115] 584 89 96)))) (q 584 11 97)) 584 4))))))))))
noncomputable def ZrI : FD := ⟨[sO "script", sO "film", sO "rows", sO "most", sO "own", sO "machine", sO "call", sO "told"], 1, Zfd⟩
noncomputable def Zd5 : CB := (.c (.asg (.attr (.l 0 140 8 12) 10 (q 140 8 19)) (.l 1 140 22 28) (q 140 8 28))
 (.c (.asg (.attr (.l 0 141 8 12) 3 (q 141 8 19)) (.l 2 141 22 28) (q 141 8 28))
 (.c (.asg (.attr (.l 0 142 8 12) 28 (q 142 8 18)) (.l 3 142 21 26) (q 142 8 26))
 (.c (.asg (.attr (.l 0 143 8 12) 27 (q 143 8 19)) (.l 4 143 22 28) (q 143 8 28))
 (.c (.asg (.attr (.l 0 144 8 12) 1 (q 144 8 16)) (.dict [] .n false (q 144 19 21)) (q 144 8 21))
 (.c (.asg (.attr (.l 0 145 8 12) 7 (q 145 8 23)) (.dict [] .n false (q 145 26 28)) (q 145 8 28))
 (.c (.asg (.attr (.l 0 146 8 12) 26 (q 146 8 15)) (.dict [] .n false (q 146 18 20)) (q 146 8 20))
 (.c (.asg (.attr (.l 0 147 8 12) 25 (q 147 8 18)) (.g 69 147 21 32) (q 147 8 32))
 (.c (.asg (.attr (.l 0 148 8 12) 24 (q 148 8 18)) (.cst .none (q 148 21 25)) (q 148 8 25))
 (.c (.asg (.attr (.l 0 149 8 12) 23 (q 149 8 20)) (.cst .none (q 149 23 27)) (q 149 8 27))
 (.c (.asg (.attr (.l 0 150 8 12) 22 (q 150 8 22)) (.dict [] .n false (q 150 25 27)) (q 150 8 27))
 (.c (.asg (.attr (.l 0 151 8 12) 21 (q 151 8 19)) (.dict [] .n false (q 151 22 24)) (q 151 8 24))
 (.c (.asg (.attr (.l 0 152 8 12) 20 (q 152 8 19)) (.dict [] .n false (q 152 22 24)) (q 152 8 24))
 (.c (.asg (.attr (.l 0 153 8 12) 19 (q 153 8 18)) (.dict [] .n false (q 153 21 23)) (q 153 8 23))
 (.c (.asg (.attr (.l 0 154 8 12) 18 (q 154 8 19)) (.list .n false (q 154 22 24)) (q 154 8 24))
 (.c (.asg (.attr (.l 0 155 8 12) 17 (q 155 8 22)) (.list .n false (q 155 25 27)) (q 155 8 27))
 (.o (.asg (.attr (.l 0 156 8 12) 2 (q 156 8 18)) (.j 0 156 21) (q 156 8 22)))))))))))))))))))
noncomputable def Zd6 : FD := ⟨[sO "self", sO "memory", sO "limits", sO "codes", sO "frames"], 5, Zd5⟩
noncomputable def Zhl : CB := (.c (.asg (.attr (.l 0 160 8 12) 4 (q 160 8 17)) (.l 1 160 20 24) (q 160 8 24))
 (.c (.asg (.attr (.l 0 161 8 12) 8 (q 161 8 18)) (.l 2 161 21 26) (q 161 8 26))
 (.c (.asg (.attr (.l 0 162 8 12) 6 (q 162 8 22)) (.bin .Mult (.list (.o (.cst .none (q 162 26 30))) false (q 162 25 31)) (.at (.l 1 162 34 38) 6 48) true (q 162 25 48)) (q 162 8 48))
 (.c (.asg (.attr (.l 0 163 8 12) 30 (q 163 8 18)) (.dict [] .n false (q 163 21 23)) (q 163 8 23))
 (.o (.asg (.attr (.l 0 164 8 12) 29 (q 164 8 18)) (.list .n false (q 164 21 23)) (q 164 8 23)))))))
noncomputable def Zhm : FD := ⟨[sO "self", sO "code", sO "frame"], 3, Zhl⟩
noncomputable def Zhn : CB := (.c (.asg (.attr (.l 0 208 8 12) 1 (q 208 8 16)) (.l 1 208 19 22) (q 208 8 22))
 (.c (.asg (.attr (.l 0 209 8 12) 6 (q 209 8 22)) (.l 2 209 25 34) (q 209 8 34))
 (.c (.asg (.attr (.l 0 210 8 12) 32 (q 210 8 20)) (.l 3 210 23 30) (q 210 8 30))
 (.o (.asg (.attr (.l 0 211 8 12) 31 (q 211 8 20)) (.l 4 211 23 30) (q 211 8 30))))))
noncomputable def Zho : FD := ⟨[sO "self", sO "ops", sO "registers", sO "entries", sO "formats"], 5, Zhn⟩
noncomputable def Ze4 : CB := (.c (.asg (.attr (.l 0 216 8 12) 0 (q 216 8 18)) (.l 1 216 21 26) (q 216 8 26))
 (.c (.asg (.attr (.l 0 217 8 12) 38 (q 217 8 24)) (.l 2 217 27 38) (q 217 8 38))
 (.c (.asg (.attr (.l 0 218 8 12) 37 (q 218 8 26)) (.l 3 218 29 42) (q 218 8 42))
 (.c (.asg (.attr (.l 0 219 8 12) 36 (q 219 8 25)) (.l 4 219 28 40) (q 219 8 40))
 (.c (.asg (.attr (.l 0 220 8 12) 2 (q 220 8 18)) (.l 5 220 21 26) (q 220 8 26))
 (.c (.asg (.attr (.l 0 221 8 12) 35 (q 221 8 26)) (.l 6 221 29 42) (q 221 8 42))
 (.c (.asg (.attr (.l 0 222 8 12) 34 (q 222 8 20)) (.l 7 222 23 30) (q 222 8 30))
 (.o (.asg (.attr (.l 0 223 8 12) 33 (q 223 8 18)) (.l 8 223 21 26) (q 223 8 26))))))))))
noncomputable def Zr : FD := ⟨[sO "self", sO "width", sO "real_digits", sO "double_digits", sO "top_exponent", sO "steps", sO "continuations", sO "columns", sO "depth"], 9, Ze4⟩
noncomputable def Ze5 : CB := (.c (.asg (.attr (.l 0 237 8 12) 13 (q 237 8 20)) (.bin .Mult (.list (.o (.cst .none (q 237 24 28))) false (q 237 23 29)) (.l 1 237 32 39) true (q 237 23 39)) (q 237 8 39))
 (.o (.asg (.attr (.l 0 238 8 12) 15 (q 238 8 23)) (.bin .Mult (.list (.o (.cst .none (q 238 27 31))) false (q 238 26 32)) (.l 2 238 35 45) true (q 238 26 45)) (q 238 8 45))))
noncomputable def Ze6 : FD := ⟨[sO "self", sO "numeric", sO "characters"], 3, Ze5⟩
noncomputable def Ze7 : CB := (.c (.iz (.cm .Eq (.sb (.l 1 241 11 16) (.j 0 241 17)) (.g 2 241 23 32)) (.o (.re (.cl (.g 71 242 19 28) (.h (.at (.l 0 242 29 33) 15 44) (.sb (.l 1 242 46 51) (.j 1 242 52)) (.sb (.l 1 242 56 61) (.j 2 242 62))) 65) 242 12)) 241 8 242 65)
 (.o (.re (.cl (.g 70 243 15 26) (.h (.at (.l 0 243 27 31) 13 39) (.sb (.l 1 243 41 46) (.j 0 243 47)) (.sb (.l 1 243 51 56) (.j 1 243 57))) 60) 243 8)))
noncomputable def Ze8 : FD := ⟨[sO "self", sO "place"], 2, Ze7⟩
noncomputable def Zd7 : CB := (.o (.iy (.cm .Eq (.sb (.l 1 246 11 16) (.j 0 246 17)) (.g 2 246 23 32)) (.o (.ex (.cl (.g 72 247 12 22) (.h (.at (.l 0 247 23 27) 15 38) (.sb (.l 1 247 40 45) (.j 1 247 46)) (.cl (.g 73 247 50 53) (.w (.l 2 247 54 59) (.sb (.l 1 247 61 66) (.j 2 247 67))) 70)) 71) (q 247 12 71))) (.o (.ex (.cl (.g 74 249 12 24) (.c (.at (.l 0 249 25 29) 13 37) (.c (.sb (.l 1 249 39 44) (.j 0 249 45)) (.c (.sb (.l 1 249 49 54) (.j 1 249 55)) (.c (.l 2 249 59 64) .n)))) 65) (q 249 12 65))) 246 8 249 65))
noncomputable def Zd8 : FD := ⟨[sO "self", sO "place", sO "value"], 3, Zd7⟩
noncomputable def fdL : List (Option FD) := [some Zju, some Zii, some Zjw, some Zfu, some Znx, some Zij, some Zjy, some ZjA, some Zfw, some ZgZ, some ZeR, some Zd3, some Zg1, some Zfx, some ZrH, some Zg3, some Zdz, some Zg5, some Zk3, some ZjC, some Zk5, some Zk7, some Zk9, some Zil, some ZjE, some ZjG, some Zlb, some Zg7, some ZjI, some Zin, some ZeT, some Zld, some ZjK, some ZjM, some Zip, some ZjO, some Zg9, some Zir, some Zhb, some ZjQ, some Zhd, some Zhf, some Zhh, some Zfz, some ZeV, some ZeX, some Zhi, some ZeZ, some Ze1, some ZfB, some ZfD, some Ze3, some Zhk, some Zis, some Zd4, some ZfE, some ZrI, none, some Zd6, some Zhm, some Zho, some Zr, some Ze6, some Ze8, some Zd8]
noncomputable def Zit {α : Type} : List (Option α) → Nat → Option α
 | [], _ => none
 | x :: _, 0 => x
 | _ :: r, n + 1 => Zit r n
noncomputable def Za0 (n : Nat) : Option FD := Zit fdL n
noncomputable def GN : List Str := [sO "COMPLEX", sO "DOUBLE", sO "CHARACTER", sO "fit_int", sO "INTEGER", sO "real_to_int", sO "is_zero", sO "complex_neg", sO "REAL", sO "real_neg", sO "LOGICAL", sO "trip_count", sO "convert", sO "unary", sO "read_cell", sO "SECOND", sO "need_units", sO "units_of", sO "unit_size", sO "compute", sO "element_place", sO "sub_place", sO "LABEL_TAG", sO "sign_of", sO "_law_more", sO "_law_reel", sO "_law_goal", sO "_law_first", sO "_law_moved", sO "_law_placed", sO "_law_jumped", sO "_law_reckon", sO "_law_place", sO "_law_loaded", sO "_law_frame", sO "_law_rounds", sO "_law_value", sO "_law_next", sO "do_stop", sO "do_return", sO "do_nop", sO "do_jump", sO "do_sign", sO "do_switch", sO "do_false", sO "do_true", sO "do_agoto", sO "do_setlabel", sO "do_store", sO "do_load", sO "do_length", sO "do_cut", sO "do_elem", sO "do_addr", sO "do_count", sO "do_cat", sO "do_one", sO "do_two", sO "do_move", sO "do_set", sO "Machine", sO "Memory", sO "run_code", sO "_law_run", sO "_law_heard", sO "Call", sO "Code", sO "_law_machine", sO "_law_rows", sO "plain_frame", sO "load_number", sO "load_text", sO "store_text", sO "pad", sO "store_number"]
noncomputable def AN : List Str := [sO "width", sO "ops", sO "steps", sO "limits", sO "code", sO "join", sO "registers", sO "operations", sO "frame", sO "get", sO "memory", sO "load", sO "store", sO "numeric", sO "append", sO "characters", sO "text", sO "transfers", sO "active", sO "units", sO "places", sO "clears", sO "functions", sO "library", sO "world", sO "enter", sO "io", sO "frames", sO "codes", sO "temps", sO "cells", sO "formats", sO "entries", sO "depth", sO "columns", sO "continuations", sO "top_exponent", sO "double_digits", sO "real_digits"]
noncomputable def Zle : List PD := [.tuple [.str ⟨#[115,101,116]⟩, .int 0, .int 0, .int 2], .tuple [.str ⟨#[115,101,116]⟩, .int 1, .int 0, .int (-1)], .tuple [.str ⟨#[115,101,116]⟩, .int 2, .int 0, .int 3], .tuple [.str ⟨#[115,101,116]⟩, .int 3, .int 5, .str ⟨#[97,98]⟩], .tuple [.str ⟨#[115,101,116]⟩, .int 4, .int 5, .str ⟨#[99]⟩], .tuple [.str ⟨#[115,101,116]⟩, .int 5, .int 4, .bool true], .tuple [.str ⟨#[97,100,100,114]⟩, .int 6, .str ⟨#[88]⟩], .tuple [.str ⟨#[97,100,100,114]⟩, .int 7, .str ⟨#[67]⟩], .tuple [.str ⟨#[97,100,100,114]⟩, .int 8, .str ⟨#[65]⟩], .tuple [.str ⟨#[97,100,100,114]⟩, .int 9, .str ⟨#[68]⟩], .tuple [.str ⟨#[97,100,100,114]⟩, .int 10, .str ⟨#[81]⟩]]
noncomputable def Zcb : List (DK × MW) := [(.s ⟨#[88]⟩, .d (.tuple [.int 0, .int 0, .int 0, .tuple []])), (.s ⟨#[89]⟩, .d (.tuple [.int 0, .int 1, .int 0, .tuple []])), (.s ⟨#[65]⟩, .d (.tuple [.int 0, .int 2, .int 0, .tuple [.tuple [.int 1, .int 3]]])), (.s ⟨#[81]⟩, .d (.tuple [.int 0, .int 5, .int 0, .tuple []])), (.s ⟨#[67]⟩, .d (.tuple [.int 5, .int 0, .int 4, .tuple []])), (.s ⟨#[68]⟩, .d (.tuple [.int 5, .int 4, .int 2, .tuple [.tuple [.int 0, .int 1]]])), (.s ⟨#[80]⟩, .d (.str ⟨#[79,84,72,69,82]⟩))]
noncomputable def gvL : List (Option MV) := [some (.d (.int 3)), some (.d (.int 2)), some (.d (.int 5)), some (.fn 0), some (.d (.int 0)), none, some (.fn 2), none, some (.d (.int 1)), none, some (.d (.int 4)), some (.fn 3), none, some (.fn 4), some (.fn 9), some (.d (.int 6)), some (.fn 8), some (.fn 1), some (.fn 15), some (.fn 6), some (.fn 16), some (.fn 17), some (.d (.int 7)), some (.fn 7), some (.fn 40), some (.fn 41), some (.fn 42), some (.d (.list Zle)), some (.fn 43), some (.fn 44), some (.fn 45), some (.fn 47), some (.fn 50), some (.fn 51), some (.dic Zcb), some (.fn 48), some (.fn 49), some (.fn 52), some (.fn 39), some (.fn 38), some (.fn 31), some (.fn 32), some (.fn 35), some (.fn 36), some (.fn 34), some (.fn 33), some (.fn 37), some (.fn 30), some (.fn 29), some (.fn 28), some (.fn 27), some (.fn 26), some (.fn 25), some (.fn 24), some (.fn 23), some (.fn 22), some (.fn 21), some (.fn 20), some (.fn 19), some (.fn 18), some (.cls 5), some (.cls 9), some (.fn 5), some (.fn 53), some (.fn 55), some (.cls 6), some (.cls 7), some (.fn 54), some (.fn 46), some (.fn 57), some (.fn 10), some (.fn 12), some (.fn 13), some (.fn 14), some (.fn 11)]
noncomputable def gv (g : Nat) : Option MV := Zit gvL g
noncomputable def Zw (c : Nat) : Option Nat := if (Nat.ble 5 c && Nat.ble c 9) = true then some (c + 53) else none
noncomputable def ZP (c a : Nat) : Option Nat := if c = 9 then (if a = 11 then some 63 else if a = 12 then some 64 else none) else none
noncomputable def Zn (x : Int) : Bool := decide (-1000000000 ≤ x) && decide (x ≤ 1000000000)
noncomputable def Zc (n : Nat) : Bool := decide (n ≤ 4096)
noncomputable def shp (d : PD) : Bool := d.canLay0 && decide (d.depth ≤ 16)
noncomputable def Zdh (x : Str) (n : Nat) : Str := ⟨(List.replicate n x.cps.toList).flatten.toArray⟩
noncomputable def ZE (op : Operator) (a b : PD) : Option PD := match op with
 | .Add => (match a, b with
  | .int x, .int y => some (.int (x + y))
  | .str x, .str y => if Zc (x.length + y.length) then some (.str (x ++ y)) else none
  | .list xs, .list ys => if Zc (xs.length + ys.length) then some (.list (xs ++ ys)) else none
  | _, _ => none)
 | .Sub => (match a, b with
  | .int x, .int y => some (.int (x - y))
  | _, _ => none)
 | .Mult => (match a, b with
  | .int x, .int y => if Zn x && Zn y then some (.int (x * y)) else none
  | .str x, .int n => if (x.length == 1) && (Zn n && Zc n.toNat) then some (.str (Zdh x n.toNat)) else none
  | .list [x], .int n => if Zn n && Zc n.toNat then some (.list (List.replicate n.toNat x)) else none
  | _, _ => none)
 | .Mod => (match a, b with
  | .int x, .int y => if y = 0 then none else some (.int (x.fmod y))
  | _, _ => none)
 | .FloorDiv => (match a, b with
  | .int x, .int y => if y = 0 then none else if Zn x && Zn y then some (.int (x.fdiv y)) else none
  | _, _ => none)
 | .LShift => (match a, b with
  | .int x, .int y => if x = 1 ∧ y = 31 then some (.int 2147483648) else none
  | _, _ => none)
 | _ => none
noncomputable def eqD (a b : PD) : Option Bool := match a, b with
 | .int x, .int y => some (x == y)
 | .str x, .str y => some (x == y)
 | a, b => if shp a && shp b then some (PyData.eqv a b) else none
noncomputable def isD (a b : MV) : Option Bool := match b with
 | .d .none => (match a with
  | .d .none => some true
  | _ => some false)
 | _ => none
noncomputable def Za9 : PD → Option DK
 | .str x => some (.s x)
 | .int n => some (.i n)
 | _ => none
noncomputable def Zq (k : DK) : List (DK × MW) → Option MW
 | [] => none
 | (q, v) :: r => if q = k then some v else Zq k r
noncomputable def MW.v : MW → MV
 | .d x => .d x
 | .fn f => .fn f
noncomputable def Zar : DK → List (DK × MW) → Bool
 | .s _, (.s _, _) :: _ => true
 | .i _, (.i _, _) :: _ => true
 | _, _ => false
noncomputable def inD (a b : MV) : Option Bool := match a, b with
 | .d x, .d (.tuple ys) => if shp x && shp (.tuple ys) then some (ys.any fun y => PyData.eqv y x) else none
 | .d x, .d (.list ys) => if shp x && shp (.list ys) then some (ys.any fun y => PyData.eqv y x) else none
 | .d x, .dic es => (Za9 x).bind fun k => if Zar k es then some (Zq k es).isSome else none
 | _, _ => none
noncomputable def asD (st : St) : MV → Option PD
 | .d x => some x
 | .loc l => (match st[l]? with
  | some (.list xs) => some (.list xs)
  | _ => none)
 | _ => none
noncomputable def ltD (a b : PD) : Option Bool := match a, b with
 | .int x, .int y => some (decide (x < y))
 | .str x, .str y => some (decide (x.cps.toList < y.cps.toList))
 | _, _ => none
noncomputable def Zt (op : CmpOp) (st : St) (a b : MV) : Option Bool := match op with
 | .Eq => (asD st a).bind fun x => (asD st b).bind fun y => eqD x y
 | .NotEq => ((asD st a).bind fun x => (asD st b).bind fun y => eqD x y).map not
 | .Lt => (match a, b with | .d x, .d y => ltD x y | _, _ => none)
 | .LtE => (match a, b with | .d (.int x), .d (.int y) => some (decide (x ≤ y)) | _, _ => none)
 | .Gt => (match a, b with | .d (.int x), .d (.int y) => some (decide (x > y)) | _, _ => none)
 | .GtE => (match a, b with | .d (.int x), .d (.int y) => some (decide (x ≥ y)) | _, _ => none)
 | .Is => isD a b
 | .IsNot => (isD a b).map not
 | .In => inD a b
 | .NotIn => (inD a b).map not
noncomputable def Zav {α : Type} (k : Nat) : List (Nat × α) → Option α
 | [] => none
 | (q, v) :: r => if q = k then some v else Zav k r
noncomputable def Zdi (k : Nat) (v : MV) : List (Nat × MV) → List (Nat × MV)
 | [] => [(k, v)]
 | (q, u) :: r => if q = k then (q, v) :: r else (q, u) :: Zdi k v r
noncomputable def ZaH (k : Str) : List (Str × MV) → Option MV
 | [] => none
 | (q, v) :: r => if q = k then some v else ZaH k r
noncomputable def ZbS (k : Str) (v : MV) : List (Str × MV) → List (Str × MV)
 | [] => []
 | (q, u) :: r => if q = k then (q, v) :: r else (q, u) :: ZbS k v r
noncomputable def Ziu {α : Type} (st : St) (v : MV) (f : Nat → Nat → List (Nat × MV) → Option α) : Option α := match v with
 | .loc l => (match st[l]? with
  | some (.inst c fs) => f l c fs
  | _ => none)
 | _ => none
theorem Zew (e : Ziu st v f = some r) : ∃ l c fs, v = .loc l ∧ st[l]? = some (.inst c fs) ∧ f l c fs = some r := by
 cases v with
 | loc l =>
  have e : (match st[l]? with | some (.inst c fs) => f l c fs | _ => none) = some r := e
  cases q : st[l]? with
  | none => rw [q] at e; cases e
  | some o => rw [q] at e; cases o with
   | inst c fs => exact ⟨l, c, fs, rfl, q, e⟩
   | _ => cases e
 | _ => cases e
noncomputable def ZcA (v : MV) (a : Nat) (st : St) : Option MV := Ziu st v fun _ _ fs => Zav a fs
noncomputable def Zas (c a : Nat) : Bool := decide (a < AN.length) && (ZP c a).isNone
noncomputable def ZbT (v : MV) (a : Nat) (x : MV) (st : St) : Option St := Ziu st v fun l c fs => if (Zas c a && decide (fs.length < 100)) then some (st.set l (.inst c (Zdi a x fs))) else none
noncomputable def Za (xs : List PD) (k : Int) : Option PD := if (decide (0 ≤ k) && Zc k.toNat) then xs[k.toNat]? else none
theorem ZpQ : ZE .Mult (.int x) (.int y) = if Zn x && Zn y then some (.int (x * y)) else none := rfl
theorem ZpR : ZE .Mod (.int x) (.int y) = if y = 0 then none else some (.int (x.fmod y)) := rfl
theorem Zny : ZE .FloorDiv (.int x) (.int y) = if y = 0 then none else if Zn x && Zn y then some (.int (x.fdiv y)) else none := rfl
theorem ZpS : ZE .Add (.str x) (.str y) = if Zc (x.length + y.length) then some (.str (x ++ y)) else none := rfl
theorem ZpT : ZE .Add (.list x) (.list y) = if Zc (x.length + y.length) then some (.list (x ++ y)) else none := rfl
theorem ZpU : ZE .Mult (.str x) (.int n) = if (x.length == 1) && (Zn n && Zc n.toNat) then some (.str (Zdh x n.toNat)) else none := rfl
noncomputable def ZaM (st : St) (v i : MV) : Option MV := match v, i with
 | .d (.tuple xs), .d (.int k) => (Za xs k).map .d
 | .d (.list xs), .d (.int k) => (Za xs k).map .d
 | .d (.str x), .d (.int k) => if (decide (0 ≤ k) && Zc k.toNat) then (x.cps.toList[k.toNat]?).map fun c => .d (.str ⟨#[c]⟩) else none
 | .dic es, .d x => (Za9 x).bind fun k => (Zq k es).map MW.v
 | .loc l, .d (.int k) => (match st[l]? with
  | some (.list xs) => (Za xs k).map .d
  | _ => none)
 | .loc l, .d (.str x) => (match st[l]? with
  | some (.dict es) => ZaH x es
  | _ => none)
 | _, _ => none
theorem ZhB : ZaM st (.d (.list xs)) (.d (.int k)) = (Za xs k).map .d := rfl
theorem ZpV (h : st[l]? = some (.list xs)) : ZaM st (.loc l) (.d (.int k)) = (Za xs k).map .d := by
 show (match st[l]? with | some (.list xs) => (Za xs k).map MV.d | _ => none) = _
 rw [h]
noncomputable def Za1 (st : St) (v i x : MV) : Option St := match v, i, x with
 | .loc l, .d (.int k), .d y => (match st[l]? with
  | some (.list xs) => if (decide (0 ≤ k) && Zc k.toNat && decide (k < xs.length)) then some (st.set l (.list (xs.set k.toNat y))) else none
  | _ => none)
 | .loc l, .d (.str s), x => (match st[l]? with
  | some (.dict es) => (match ZaH s es with
   | some _ => some (st.set l (.dict (ZbS s x es)))
   | none => none)
  | _ => none)
 | _, _, _ => none
noncomputable def ZW (dflt : Nat) : Option MV → Option Nat
 | none => some dflt
 | some (.d (.int k)) => if (decide (0 ≤ k) && Zc k.toNat) then some k.toNat else none
 | _ => none
noncomputable def ZY (st : St) (v : MV) (lo hi : Option MV) : Option PD := match asD st v with
 | some (.list xs) => (ZW 0 lo).bind fun l => (ZW xs.length hi).bind fun h => if Zc xs.length then some (.list ((xs.take h).drop l)) else none
 | some (.tuple xs) => (match lo, hi with
  | some (.d (.int k)), none => if (decide (1 ≤ k) && decide (k.toNat ≤ xs.length) && Zc xs.length) then some (.tuple (xs.drop k.toNat)) else none
  | _, _ => none)
 | some (.str x) => (match lo, hi with
  | none, some v => (ZW 0 (some v)).bind fun h => if Zc x.length then some (.str ⟨(x.cps.toList.take h).toArray⟩) else none
  | _, _ => none)
 | _ => none
noncomputable def Zae (st : St) (v : MV) (lo hi : Option MV) (x : MV) : Option St := match v, x with
 | .loc l, .d (.list ys) => (match st[l]? with
  | some (.list xs) => (ZW 0 lo).bind fun a => (ZW xs.length hi).bind fun b => if (decide (a ≤ b) && decide (b ≤ xs.length) && decide (ys.length = b - a) && Zc xs.length) then some (st.set l (.list (xs.take a ++ ys ++ xs.drop b))) else none
  | _ => none)
 | _, _ => none
noncomputable def isB : MV → Option Bool
 | .d (.bool b) => some b
 | _ => none
noncomputable def unV (op : UnaryOp) (v : MV) : Option MV := match op, v with
 | .Not, .d (.bool b) => some (.d (.bool (!b)))
 | .USub, .d (.int x) => some (.d (.int (-x)))
 | _, _ => none
noncomputable def ZbU : List MV → Option (List PD)
 | [] => some []
 | .d x :: r => (ZbU r).map (x :: ·)
 | _ :: _ => none
noncomputable def ZaI : List PD → Option Str
 | [] => some ⟨#[]⟩
 | .str x :: r => (ZaI r).map (x ++ ·)
 | _ => none
noncomputable def ZhC (x : Str) : List PD := x.cps.toList.map fun c => .str ⟨#[c]⟩
noncomputable def ZfF (as : List MV) (f : MV → Option MV) : Option MV := match as with
 | [v] => f v
 | _ => none
noncomputable def ZpW : PD → Option MV
 | .list xs => if Zc xs.length then some (.d (.int xs.length)) else none
 | .tuple xs => if Zc xs.length then some (.d (.int xs.length)) else none
 | .str x => if Zc x.length then some (.d (.int x.length)) else none
 | _ => none
noncomputable def ZpX (st : St) (v : MV) : Option MV := (asD st v).bind ZpW
noncomputable def ZjR : PD → Option MV
 | .tuple _ => some (.d (.bool true))
 | .int _ => some (.d (.bool false))
 | .str _ => some (.d (.bool false))
 | .none => some (.d (.bool false))
 | .bool _ => some (.d (.bool false))
 | _ => none
noncomputable def ZpY : MV → Option MV
 | .d x => ZjR x
 | _ => none
noncomputable def Ziv {α : Type} (v : MV) (f : Int → Option α) : Option α := match v with
 | .d (.int x) => f x
 | _ => none
noncomputable def Zlf (as : List MV) : Option MV := match as with
 | [a, b] => Ziv a fun x => Ziv b fun y => some (.d (.int (max x y)))
 | _ => none
noncomputable def ZsV (v : MV) : Option MV := Ziv v fun x => some (.d (.int (if x < 0 then -x else x)))
noncomputable def ZrJ : PD → Option MV
 | .list xs => if Zc xs.length then some (.d (.list xs)) else none
 | .str x => if Zc x.length && x.cps.all (· < 128) then some (.d (.list (ZhC x))) else none
 | _ => none
noncomputable def ZmP (st : St) (v : MV) : Option MV := (asD st v).bind ZrJ
noncomputable def Zaf (b : BI) (st : St) (as : List MV) : Option MV := match b with
 | .len => ZfF as (ZpX st)
 | .isTup => ZfF as ZpY
 | .max => Zlf as
 | .abs => ZfF as ZsV
 | .list => ZfF as (ZmP st)
theorem ZcU (e : ZfF as f = some r) : ∃ v, as = [v] ∧ f v = some r := by
 cases as with
 | nil => cases e
 | cons v t =>
  cases t with
  | nil => exact ⟨v, rfl, e⟩
  | cons _ _ => cases e
theorem Zd9 (h : st[l]? = some (.list xs)) : asD st (.loc l) = some (.list xs) := by
 show (match st[l]? with | some (.list xs) => some (PyData.list xs) | _ => none) = _
 rw [h]
theorem ZpZ (h : asD st v = some (.list xs)) : Zaf .len st [v] = if Zc xs.length then some (.d (.int xs.length)) else none := by
 show (asD st v).bind ZpW = _
 rw [h]; rfl
theorem Znz : Zaf .len st [.d (.list xs)] = if Zc xs.length then some (.d (.int xs.length)) else none := rfl
theorem ZnA : Zaf .len st [.d (.str x)] = if Zc x.length then some (.d (.int x.length)) else none := rfl
theorem Zlg : Zaf .list st [.d (.str x)] = if Zc x.length && x.cps.all (· < 128) then some (.d (.list (ZhC x))) else none := rfl
theorem Zp0 (h : st[l]? = some (.list xs)) : Za1 st (.loc l) (.d (.int k)) (.d y) = if (decide (0 ≤ k) && Zc k.toNat && decide (k < xs.length)) then some (st.set l (.list (xs.set k.toNat y))) else none := by
 show (match st[l]? with
  | some (.list xs) => if (decide (0 ≤ k) && Zc k.toNat && decide (k < xs.length)) then some (st.set l (.list (xs.set k.toNat y))) else none
  | _ => none) = _
 rw [h]
noncomputable def ZC (ov : MV) (a : Nat) (as : List MV) (st : St) : RV MV := match ov, as with
 | .dic es, [.d (.str x)] => if a = 9 ∧ Zar (.s x) es = true then .ok (match Zq (.s x) es with | some w => w.v | none => .d .none) st else .no
 | .d (.str s), [.d (.list xs)] => if a = 5 ∧ s.length = 0 then (match ZaI xs with
  | some y => if Zc y.length && Zc xs.length then .ok (.d (.str y)) st else .no
  | none => .no) else .no
 | .loc l, [.d x] => if a = 14 then (match st[l]? with
  | some (.list xs) => if Zc (xs.length + 1) then .ok (.d .none) (st.set l (.list (xs ++ [x]))) else .no
  | _ => .no) else .no
 | _, _ => .no
noncomputable def ZaT (xs : List PD) : List (Nat × Pos) → En → Option En
 | [], ρ => (match xs with | [] => some ρ | _ => none)
 | (i, _) :: r, ρ => (match xs with
  | x :: xs => ZaT xs r (ρ.set i (some (.d x)))
  | [] => none)
noncomputable def ZG (vs : List MV) : List (Nat × Pos) → En → Option En
 | [], ρ => (match vs with | [] => some ρ | _ => none)
 | (i, _) :: r, ρ => (match vs with
  | x :: vs => ZG vs r (ρ.set i (some x))
  | [] => none)
noncomputable def Zag (t : CT) (x : PD) (ρ : En) : Option En := match t with
 | .nm i _ => some (ρ.set i (some (.d x)))
 | .two i _ j _ _ => (match x with
  | .tuple [a, b] => some ((ρ.set i (some (.d a))).set j (some (.d b)))
  | _ => none)
noncomputable def whl (t : En → St → RV Bool) (b : En → St → RX) : Nat → En → St → RX
 | 0, _, _ => .no
 | n + 1, ρ, st => onR ρ (t ρ st) fun v st => match v with
  | true => (b ρ st).bind fun ρ st => whl t b n ρ st
  | false => .nx ρ st
noncomputable def ZaU (t : CT) (b : En → St → RX) : List PD → En → St → RX
 | [], ρ, st => .nx ρ st
 | x :: r, ρ, st => match Zag t x ρ with
  | some ρ => (b ρ st).bind fun ρ st => ZaU t b r ρ st
  | none => .no
noncomputable def okR {α β : Type} (r : RV α) (f : α → St → RV β) : RV β := match r with
 | .ok a st => f a st
 | _ => .no
noncomputable def oR {α β : Type} (o : Option α) (f : α → RV β) : RV β := match o with
 | some a => f a
 | none => .no
noncomputable def dR {β : Type} (v : MV) (f : PD → RV β) : RV β := match v with
 | .d y => f y
 | _ => .no
noncomputable def ZT (t : CT) (f : En → St → RV MV) (c : En → St → RV Bool) : List PD → En → St → RV (List PD)
 | [], _, st => .ok [] st
 | x :: r, ρ, st => oR (Zag t x ρ) fun ρ => okR (c ρ st) fun b st => cond b (okR (f ρ st) fun v st => dR v fun y => okR (ZT t f c r ρ st) fun ys st => .ok (y :: ys) st) (ZT t f c r ρ st)
noncomputable def nxV {α : Type} : RV α → Prop
 | .ex _ _ _ => False
 | _ => True
theorem ZfG {f : α → St → RV β} (h : ∀ a st, nxV (f a st)) : nxV (okR r f) := by
 cases r with
 | ok a st => exact h a st
 | _ => trivial
theorem ZjS (r : List PD) : ∀ (ρ : En) (st : St), nxV (ZT t f c r ρ st) := by
 induction r with
 | nil => exact fun z z => trivial
 | cons x r ih =>
  intro ρ st
  show nxV (oR (Zag t x ρ) _)
  cases Zag t x ρ with
  | none => trivial
  | some ρ =>
   refine ZfG fun b st => ?_
   cases b with
   | false => exact ih ρ st
   | true =>
    refine ZfG fun v st => ?_
    cases v with
    | d y => exact ZfG fun z z => trivial
    | _ => trivial
noncomputable abbrev Ze := Nat → List MV → St → RV MV
noncomputable def ZH (C : Ze) (c : Nat) (as : List MV) (st : St) : RV MV := match Zw c with
 | some f => (match C f (.loc st.length :: as) (st ++ [.inst c []]) with
  | .ok (.d .none) st' => .ok (.loc st.length) st'
  | _ => .no)
 | none => .no
noncomputable def ZbH (C : Ze) (f : MV) (as : List MV) (st : St) : RV MV := match f with
 | .fn n => C n as st
 | .cls c => ZH C c as st
 | _ => .no
noncomputable def Za2 (ov : MV) (a : Nat) (st : St) : Bool := match ov with
 | .loc l => (match st[l]? with
  | some (.inst c _) => (ZP c a).isSome
  | some (.list _) => a == 14
  | _ => false)
 | .dic _ => a == 9
 | .d (.str _) => a == 5
 | _ => false
noncomputable def ZaJ (C : Ze) (ov : MV) (a : Nat) (as : List MV) (st₀ st : St) : RV MV := match ov with
 | .loc l => (match st₀[l]? with
  | some (.inst c _) => (match ZP c a with
   | some f => C f (ov :: as) st
   | none => .no)
  | some (.list _) => ZC ov a as st
  | _ => .no)
 | _ => ZC ov a as st
noncomputable def Zaw (v : MV) : List MV := [.d (.int 32), .d (.int 7), .d (.int 15), .d (.int 38), v, .d (.int 19), .d (.int 72), .d (.int 40)]
noncomputable def Zbg : List (Cst × Pos) → List MV → Option (List (Str × MV))
 | [], [] => some []
 | (.str k, _) :: r, v :: vs => (Zbg r vs).map ((k, v) :: ·)
 | _, _ => none
noncomputable def Zbh : List (Cst × Pos) → List MV → Option (List (DK × MW))
 | [], [] => some []
 | (k, _) :: r, v :: vs => (Za9 k.d).bind fun q => (match v with
  | .d x => some (MW.d x)
  | .fn f => some (MW.fn f)
  | _ => none).bind fun w => (Zbh r vs).map ((q, w) :: ·)
 | _, _ => none
noncomputable def ZaK (h : Bool) (ks : List (Cst × Pos)) (vs : List MV) (st : St) : RV MV := match h with
 | true => (match Zbg ks vs with
  | some es => .ok (.loc st.length) (st ++ [.dict es])
  | none => .no)
 | false => (match Zbh ks vs with
  | some es => .ok (.dic es) st
  | none => .no)
noncomputable def Ziw (h : Bool) (xs : List PD) (st : St) : RV MV := match h with
 | true => .ok (.loc st.length) (st ++ [.list xs])
 | false => .ok (.d (.list xs)) st
noncomputable def Zbv (h : Bool) (x : PD) (st : St) : RV MV := match h, x with
 | true, .list xs => .ok (.loc st.length) (st ++ [.list xs])
 | true, _ => .no
 | false, x => .ok (.d x) st
noncomputable def Zcc (op : Operator) (h : Bool) (a b : MV) (st : St) : RV MV := match asD st a, asD st b with
 | some x, some y => (match ZE op x y with
  | some z => Zbv h z st
  | none => .no)
 | _, _ => .no
noncomputable def Bx (o : Option Bool) (st : St) : RV MV := match o with
 | some b => .ok (.d (.bool b)) st
 | none => .no
mutual
noncomputable def ev (C : Ze) : CE → En → St → RV MV
 | .cst c _, _, st => .ok (.d c.d) st
 | .loc i _, ρ, st => ofO (ρ[i]?.join) st
 | .glb g _, _, st => ofO (gv g) st
 | .attr e a _, ρ, st => (ev C e ρ st).bind fun v st => ofO (ZcA v a st) st
 | .sub e i _, ρ, st => (ev C e ρ st).bind fun v st => (ev C i ρ st).bind fun k st => ofO (ZaM st v k) st
 | .slc e lo hi _ _, ρ, st => (ev C e ρ st).bind fun v st => (evO C lo ρ st).bind fun l st => (evO C hi ρ st).bind fun h st => ofO ((ZY st v l h).map .d) st
 | .bin op a b h _, ρ, st => (ev C a ρ st).bind fun x st => (ev C b ρ st).bind fun y st => Zcc op h x y st
 | .un op a _, ρ, st => (ev C a ρ st).bind fun x st => ofO (unV op x) st
 | .cmp op a b _, ρ, st => (ev C a ρ st).bind fun x st => (ev C b ρ st).bind fun y st => Bx (Zt op st x y) st
 | .cmp2 o1 o2 a b c _, ρ, st => (ev C a ρ st).bind fun x st => (ev C b ρ st).bind fun y st => match Zt o1 st x y with
  | some true => (ev C c ρ st).bind fun z st => Bx (Zt o2 st y z) st
  | some false => .ok (.d (.bool false)) st
  | none => .no
 | .cmp3 o1 o2 o3 a b c d _, ρ, st => (ev C a ρ st).bind fun x st => (ev C b ρ st).bind fun y st => match Zt o1 st x y with
  | some true => (ev C c ρ st).bind fun z st => (match Zt o2 st y z with
   | some true => (ev C d ρ st).bind fun u st => Bx (Zt o3 st z u) st
   | some false => .ok (.d (.bool false)) st
   | none => .no)
  | some false => .ok (.d (.bool false)) st
  | none => .no
 | .bop op es _, ρ, st => (ZaV C op es ρ st).bind fun b st => .ok (.d (.bool b)) st
 | .ite t a b _, ρ, st => ((ev C t ρ st).bind fun v st => ofO (isB v) st).bind fun v st => match v with
  | true => ev C a ρ st
  | false => ev C b ρ st
 | .list es h _, ρ, st => (evL C es ρ st).bind fun vs st => match ZbU vs with
  | some xs => Ziw h xs st
  | none => .no
 | .tup es _, ρ, st => (evL C es ρ st).bind fun vs st => match ZbU vs with
  | some xs => .ok (.d (.tuple xs)) st
  | none => .no
 | .dict ks vs h _, ρ, st => (evL C vs ρ st).bind fun vs st => ZaK h ks vs st
 | .comp f t s c nt cap _ _ _, ρ, st => (evS C s ρ st).bind fun xs st =>
  (ZT t (ev C f) (evC C c) xs (List.replicate nt none ++ cap.map fun i => ρ[i]?.join) st).bind fun ys st => .ok (.d (.list ys)) st
 | .call f as _, ρ, st => (ev C f ρ st).bind fun v st => (evL C as ρ st).bind fun vs st => ZbH C v vs st
 | .meth o a as _ _, ρ, st => (ev C o ρ st).bind fun v st₀ => match Za2 v a st₀ with
  | true => (evL C as ρ st₀).bind fun vs st => ZaJ C v a vs st₀ st
  | false => .no
 | .blt b as _ _ _, ρ, st => (evL C as ρ st).bind fun vs st => ofO (Zaf b st vs) st
 | .lim e _ _ _, ρ, st => (ev C e ρ st).bind fun v st => ZH C 8 (Zaw v) st
noncomputable def evO (C : Ze) : CO → En → St → RV (Option MV)
 | .no, _, st => .ok none st
 | .so e, ρ, st => (ev C e ρ st).bind fun v st => .ok (some v) st
noncomputable def evC (C : Ze) : CO → En → St → RV Bool
 | .no, _, st => .ok true st
 | .so e, ρ, st => (ev C e ρ st).bind fun v st => ofO (isB v) st
noncomputable def evL (C : Ze) : CL → En → St → RV (List MV)
 | .nil, _, st => .ok [] st
 | .cons e r, ρ, st => (ev C e ρ st).bind fun v st => (evL C r ρ st).bind fun vs st => .ok (v :: vs) st
noncomputable def evS (C : Ze) : CS → En → St → RV (List PD)
 | .rng e _ _, ρ, st => (ev C e ρ st).bind fun v st => match v with
  | .d (.int n) => if (decide (0 ≤ n) && Zc n.toNat) then .ok ((List.range n.toNat).map fun k : Nat => PyData.int (k : Int)) st else .no
  | _ => .no
 | .val e, ρ, st => (ev C e ρ st).bind fun v st => match v with
  | .d (.list xs) => if Zc xs.length then .ok xs st else .no
  | .d (.tuple xs) => if Zc xs.length then .ok xs st else .no
  | _ => .no
noncomputable def ZaV (C : Ze) : BoolOp → CL → En → St → RV Bool
 | op, .nil, _, st => .ok (match op with | .And => true | .Or => false) st
 | op, .cons e r, ρ, st => ((ev C e ρ st).bind fun v st => ofO (isB v) st).bind fun b st => match op, b with
  | .And, false => .ok false st
  | .Or, true => .ok true st
  | _, _ => ZaV C op r ρ st
end
theorem ZrK : evO C .no ρ st = .ok none st := rfl
theorem ZrL : evO C (.so e) ρ st = (ev C e ρ st).bind fun v st => .ok (some v) st := rfl
theorem Zfe : evL C .nil ρ st = .ok [] st := rfl
theorem ZdA : evL C (.cons e r) ρ st = (ev C e ρ st).bind fun v st => (evL C r ρ st).bind fun vs st => .ok (v :: vs) st := rfl
theorem ZtH : evS C (.rng e p2 p3) ρ st = (ev C e ρ st).bind fun v st => match v with
 | .d (.int n) => if (decide (0 ≤ n) && Zc n.toNat) then .ok ((List.range n.toNat).map fun k : Nat => PyData.int (k : Int)) st else .no
 | _ => .no := rfl
theorem ZtI : evS C (.val e) ρ st = (ev C e ρ st).bind fun v st => match v with
 | .d (.list xs) => if Zc xs.length then .ok xs st else .no
 | .d (.tuple xs) => if Zc xs.length then .ok xs st else .no
 | _ => .no := rfl
theorem ZmQ {k q : Nat} : Zav k ((q, v) :: r) = if q = k then some v else Zav k r := rfl
theorem ZmR : ZG [] [] ρ = some ρ := rfl
theorem ZmS : ZG (x :: vs) [] ρ = none := rfl
theorem ZmT : ZG (x :: vs) ((i, p) :: r) ρ = ZG vs r (ρ.set i (some x)) := rfl
theorem ZmU : ZG [] ((i, p) :: r) ρ = none := rfl
theorem ZrM : ZaT [] [] ρ = some ρ := rfl
theorem ZrN : ZaT (x :: xs) [] ρ = none := rfl
theorem ZrO : ZaT (x :: xs) ((i, p) :: r) ρ = ZaT xs r (ρ.set i (some (.d x))) := rfl
theorem Zix : whl t b (n + 1) ρ st = onR ρ (t ρ st) fun v st => match v with
 | true => (b ρ st).bind fun ρ st => whl t b n ρ st
 | false => .nx ρ st := rfl
theorem ZdB {k q : Nat} {v u : MV} {r : List (Nat × MV)} : Zdi k v ((q, u) :: r) = if q = k then (q, v) :: r else (q, u) :: Zdi k v r := rfl
theorem ZfH {k q : Str} {v z : MV} {r : List (Str × MV)} : ZbS k v ((q, z) :: r) = if q = k then (q, v) :: r else (q, z) :: ZbS k v r := rfl
theorem ZhD {k q : Str} {u : MV} {r : List (Str × MV)} : ZaH k ((q, u) :: r) = if q = k then some u else ZaH k r := rfl
theorem Zea {k q : DK} {w : MW} {r : List (DK × MW)} : Zq k ((q, w) :: r) = if q = k then some w else Zq k r := rfl
theorem ZnB : ZT t f c (x :: r) ρ st = oR (Zag t x ρ) fun ρ => okR (c ρ st) fun b st => cond b (okR (f ρ st) fun v st => dR v fun y => okR (ZT t f c r ρ st) fun ys st => .ok (y :: ys) st) (ZT t f c r ρ st) := rfl
theorem ZsW : Zbh ((k, p) :: r) (v :: vs) = (Za9 k.d).bind fun q => (match v with
 | .d x => some (MW.d x)
 | .fn f => some (MW.fn f)
 | _ => none).bind fun w => (Zbh r vs).map ((q, w) :: ·) := rfl
theorem Zp1 : ev C (.loc i p2) ρ st = (ofO (ρ[i]?.join) st) := rfl
theorem ZjT : ev C (.glb g p2) ρ st = (ofO (gv g) st) := rfl
theorem ZnC : ev C (.attr e a p3) ρ st = ((ev C e ρ st).bind fun v st => ofO (ZcA v a st) st) := rfl
theorem Zp2 : ev C (.sub e i p3) ρ st = ((ev C e ρ st).bind fun v st => (ev C i ρ st).bind fun k st => ofO (ZaM st v k) st) := rfl
theorem Zp3 : ev C (.slc e lo hi p4 p5) ρ st = ((ev C e ρ st).bind fun v st => (evO C lo ρ st).bind fun l st => (evO C hi ρ st).bind fun h st => ofO ((ZY st v l h).map .d) st) := rfl
theorem Zp4 : ev C (.bin op a b h p5) ρ st = ((ev C a ρ st).bind fun x st => (ev C b ρ st).bind fun y st => Zcc op h x y st) := rfl
theorem ZmV : ev C (.un op a p3) ρ st = ((ev C a ρ st).bind fun x st => ofO (unV op x) st) := rfl
theorem Zp5 : ev C (.cmp op a b p4) ρ st = ((ev C a ρ st).bind fun x st => (ev C b ρ st).bind fun y st => Bx (Zt op st x y) st) := rfl
theorem ZnD : ev C (.cmp2 o1 o2 a b c p6) ρ st = ((ev C a ρ st).bind fun x st => (ev C b ρ st).bind fun y st => match Zt o1 st x y with
 | some true => (ev C c ρ st).bind fun z st => Bx (Zt o2 st y z) st
 | some false => .ok (.d (.bool false)) st
 | none => .no) := rfl
theorem ZnE : ev C (.cmp3 o1 o2 o3 a b c d p8) ρ st = ((ev C a ρ st).bind fun x st => (ev C b ρ st).bind fun y st => match Zt o1 st x y with
 | some true => (ev C c ρ st).bind fun z st => (match Zt o2 st y z with
  | some true => (ev C d ρ st).bind fun u st => Bx (Zt o3 st z u) st
  | some false => .ok (.d (.bool false)) st
  | none => .no)
 | some false => .ok (.d (.bool false)) st
 | none => .no) := rfl
theorem ZjU : ev C (.bop op es p3) ρ st = ((ZaV C op es ρ st).bind fun b st => .ok (.d (.bool b)) st) := rfl
theorem ZjV : ev C (.ite t a b p4) ρ st = (((ev C t ρ st).bind fun v st => ofO (isB v) st).bind fun v st => match v with
 | true => ev C a ρ st
 | false => ev C b ρ st) := rfl
theorem ZnF : ev C (.list es h p3) ρ st = ((evL C es ρ st).bind fun vs st => match ZbU vs with
 | some xs => Ziw h xs st
 | none => .no) := rfl
theorem Zp6 : ev C (.tup es p2) ρ st = ((evL C es ρ st).bind fun vs st => match ZbU vs with
 | some xs => .ok (.d (.tuple xs)) st
 | none => .no) := rfl
theorem ZhE : ev C (.dict ks vs h p4) ρ st = ((evL C vs ρ st).bind fun vs st => ZaK h ks vs st) := rfl
theorem ZhF : ev C (.comp f t s c nt cap p7 p8 p9) ρ st = ((evS C s ρ st).bind fun xs st =>
 (ZT t (ev C f) (evC C c) xs (List.replicate nt none ++ cap.map fun i => ρ[i]?.join) st).bind fun ys st => .ok (.d (.list ys)) st) := rfl
theorem ZnG : ev C (.call f as p3) ρ st = ((ev C f ρ st).bind fun v st => (evL C as ρ st).bind fun vs st => ZbH C v vs st) := rfl
theorem ZnH : ev C (.meth o a as p4 p5) ρ st = ((ev C o ρ st).bind fun v st₀ => match Za2 v a st₀ with
 | true => (evL C as ρ st₀).bind fun vs st => ZaJ C v a vs st₀ st
 | false => .no) := rfl
theorem Zp7 : ev C (.blt b as p3 p4 p5) ρ st = ((evL C as ρ st).bind fun vs st => ofO (Zaf b st vs) st) := rfl
theorem Zp8 : ev C (.lim e p2 p3 p4) ρ st = ((ev C e ρ st).bind fun v st => ZH C 8 (Zaw v) st) := rfl
noncomputable def evT (C : Ze) (e : CE) (ρ : En) (st : St) : RV Bool := (ev C e ρ st).bind fun v st => ofO (isB v) st
noncomputable def Zah (c d : Nat) : Bool := c == d || (d == 0 && decide (c ≤ 4))
noncomputable def Zcd (c : Nat) (vs : List MV) : Option (List (Nat × PD)) := match vs with
 | [.d x] => if c = 4 then some [(16, .str ⟨#[116, 111, 111, 32, 109, 97, 110, 121, 32, 115, 116, 101, 112, 115]⟩), (2, x)] else if c = 1 ∨ c = 2 ∨ c = 3 then some [(16, x)] else none
 | _ => none
noncomputable def Zff (fs : List (Nat × PD)) : CR → Option MV
 | .cst c _ => some (.d c.d)
 | .two c _ a _ _ _ => (Zav a fs).map fun y => .d (.tuple [c.d, y])
noncomputable def ZaL (c : Nat) (fs : List (Nat × PD)) : List (Nat × Pos × Option Nat × CR × Pos × Pos) → Option (Option MV)
 | [] => none
 | (k, _, _, r, _, _) :: t => if Zah c k then some (Zff fs r) else ZaL c fs t
noncomputable def Zbi (op : Operator) (a : Int) (k : PD → St → RX) (y : MV) (st : St) : RX := match y with
 | .d (.int b) => oX (ZE op (.int a) (.int b)) fun z => k z st
 | _ => .no
noncomputable def Zdj (o : Option MV) (f : Int → RX) : RX := match o with
 | some (.d (.int a)) => f a
 | _ => .no
noncomputable def Zlh (v : MV) (f : List PD → RX) : RX := match v with
 | .d (.tuple xs) => f xs
 | _ => .no
noncomputable def Zli (C : Ze) (ρ : En) (t : CA) (x : MV) (st : St) : RX := match t with
 | .nm i _ => .nx (ρ.set i (some x)) st
 | .attr o a _ => onR ρ (ev C o ρ st) fun ov st => oX (ZbT ov a x st) fun st => .nx ρ st
 | .sub o i _ => onR ρ (ev C o ρ st) fun ov st => onR ρ (ev C i ρ st) fun k st => oX (Za1 st ov k x) fun st => .nx ρ st
 | .slc o lo hi _ _ => onR ρ (ev C o ρ st) fun ov st => onR ρ ((evO C lo ρ st).bind fun l st => (evO C hi ρ st).bind fun h st => .ok (l, h) st) fun q st => oX (Zae st ov q.1 q.2 x) fun st => .nx ρ st
 | .tup is _ => Zlh x fun xs => oX (ZaT xs is ρ) fun ρ => .nx ρ st
mutual
noncomputable def ex1 (C : Ze) : CX → En → St → RX
 | .asg t e _, ρ, st => onR ρ (ev C e ρ st) (Zli C ρ t)
 | .unp is es _ _ _, ρ, st => onR ρ (evL C es ρ st) fun vs st => oX (ZG vs is ρ) fun ρ => .nx ρ st
 | .aug i op e _ _, ρ, st => Zdj (ρ[i]?.join) fun a => onR ρ (ev C e ρ st) (Zbi op a fun z st => .nx (ρ.set i (some (.d z))) st)
 | .augA o a op e _ _, ρ, st => onR ρ (ev C o ρ st) fun ov st => Zdj (ZcA ov a st) fun x => onR ρ (ev C e ρ st) (Zbi op x fun z st => oX (ZbT ov a (.d z) st) fun st => .nx ρ st)
 | .ifs t b o _, ρ, st => onR ρ (evT C t ρ st) fun v st => match v with
  | true => exs C b ρ st
  | false => exs C o ρ st
 | .whl t b _, ρ, st => whl (evT C t) (exs C b) 100 ρ st
 | .fr t s b _, ρ, st => onR ρ (evS C s ρ st) fun xs st => ZaU t (exs C b) xs ρ st
 | .ret e _, ρ, st => (match e with
  | .no => .rt (.d .none) st
  | .so e => onR ρ (ev C e ρ st) fun v st => .rt v st)
 | .rse g as _ _ _, ρ, st => onR ρ (evL C as ρ st) fun vs st => oX (Zcd g vs) fun fs => .ex g fs ρ st
 | .try_ b hs _, ρ, st => (match exs C b ρ st with
  | .ex c fs ρ st => (match ZaL c fs hs with
   | some (some v) => .rt v st
   | some none => .no
   | none => .ex c fs ρ st)
  | r => r)
 | .ex e _, ρ, st => onR ρ (ev C e ρ st) fun _ st => .nx ρ st
 | .pass _, ρ, st => .nx ρ st
noncomputable def exs (C : Ze) : CB → En → St → RX
 | .nil, ρ, st => .nx ρ st
 | .cons s r, ρ, st => (ex1 C s ρ st).bind fun ρ st => exs C r ρ st
end
theorem ZrP : exs C (.cons s r) ρ st = (ex1 C s ρ st).bind fun ρ st => exs C r ρ st := rfl
theorem Zeb : ex1 C (.asg t e p3) ρ st = onR ρ (ev C e ρ st) (Zli C ρ t) := rfl
theorem ZnI : ex1 C (.unp is es p3 p4 p5) ρ st = onR ρ (evL C es ρ st) fun vs st => oX (ZG vs is ρ) fun ρ => .nx ρ st := rfl
theorem ZnJ : ex1 C (.aug i op e p4 p5) ρ st = Zdj (ρ[i]?.join) fun a => onR ρ (ev C e ρ st) (Zbi op a fun z st => .nx (ρ.set i (some (.d z))) st) := rfl
theorem Zlj : ex1 C (.augA o a op e p5 p6) ρ st = onR ρ (ev C o ρ st) fun ov st => Zdj (ZcA ov a st) fun x => onR ρ (ev C e ρ st) (Zbi op x fun z st => oX (ZbT ov a (.d z) st) fun st => .nx ρ st) := rfl
theorem ZnK : ex1 C (.whl t b p3) ρ st = (whl (evT C t) (exs C b) 100 ρ st) := rfl
theorem Zp9 : ex1 C (.fr t s b p4) ρ st = onR ρ (evS C s ρ st) fun xs st => ZaU t (exs C b) xs ρ st := rfl
theorem ZnL : ex1 C (.rse g as p3 p4 p5) ρ st = onR ρ (evL C as ρ st) fun vs st => oX (Zcd g vs) fun fs => .ex g fs ρ st := rfl
theorem ZnM : ex1 C (.try_ b hs p3) ρ st = ((match exs C b ρ st with
 | .ex c fs ρ st => (match ZaL c fs hs with
  | some (some v) => .rt v st
  | some none => .no
  | none => .ex c fs ρ st)
 | r => r)) := rfl
theorem Zqa : ex1 C (.ex e p2) ρ st = (onR ρ (ev C e ρ st) fun y st => .nx ρ st) := rfl
noncomputable def Zai (C : Ze) (fd : FD) (as : List MV) (st : St) : RV MV :=
 if as.length = fd.np then (match exs C fd.body (as.map some ++ List.replicate (fd.ns.length - fd.np) none) st with
  | .rt v st => .ok v st
  | .nx _ st => .ok (.d .none) st
  | .ex c fs _ st => .ex c fs st
  | .no => .no)
 else .no
noncomputable def Zi : Nat → Ze
 | 0, _, _, _ => .no
 | n + 1, f, as, st => match Za0 f with
  | some fd => Zai (Zi n) fd as st
  | none => .no
theorem nn {P : Prop} (e : o = some r) (h : o = none) : P := by rw [h] at e; cases e
theorem nf {P : Prop} (e : b = true) (h : b = false) : P := by rw [h] at e; cases e
theorem ZcV : Zi (n + 1) f as st = (match Za0 f with | some fd => Zai (Zi n) fd as st | none => .no) := rfl
end
section
open PySem
noncomputable def An (k : Nat) : Str := AN.getD k default
noncomputable def Gn (k : Nat) : Str := GN.getD k default
noncomputable def CN : List Str := [sO "F77Error", sO "RunFault", sO "StopRun", sO "CodeFault", sO "TooLong", sO "Machine", sO "Call", sO "Code", sO "Limits", sO "Memory"]
noncomputable def Cn (k : Nat) : Str := CN.getD k default
noncomputable def BI.name : BI → Str
 | .len => sO "len" | .isTup => sO "isinstance" | .max => sO "max" | .abs => sO "abs" | .list => sO "list"
noncomputable def nmE (ns : List Str) (i : Nat) : Str := ns.getD i default
mutual
noncomputable def toE (ns : List Str) : CE → Expr
 | .cst c p => .Constant c.c 0 p
 | .loc i p => .Name (nmE ns i) p
 | .glb g p => .Name (Gn g) p
 | .attr e a p => .Attribute (toE ns e) (An a) p
 | .sub e i p => .Subscript (toE ns e) (toE ns i) p
 | .slc e lo hi p1 p => .Subscript (toE ns e) (.Slice (toO ns lo) (toO ns hi) none p1) p
 | .bin op a b _ p => .BinOp (toE ns a) op (toE ns b) p
 | .un op a p => .UnaryOp op (toE ns a) p
 | .cmp op a b p => .Compare (toE ns a) [op] [toE ns b] p
 | .cmp2 o1 o2 a b c p => .Compare (toE ns a) [o1, o2] [toE ns b, toE ns c] p
 | .cmp3 o1 o2 o3 a b c d p => .Compare (toE ns a) [o1, o2, o3] [toE ns b, toE ns c, toE ns d] p
 | .bop op es p => .BoolOp op (toL ns es) p
 | .ite t a b p => .IfExp (toE ns t) (toE ns a) (toE ns b) p
 | .list es _ p => .List (toL ns es) p
 | .tup es p => .Tuple (toL ns es) 0 p
 | .dict ks vs _ p => .Dict (ks.map fun k => some (.Constant k.1.c 0 k.2)) (toL ns vs) p
 | .comp f t s c _ _ ns' sc p => .ListComp (toE ns' f) [⟨toT ns' t, toS ns s, (toO ns' c).toList, 0⟩] sc p
 | .call f as p => .Call (toE ns f) (toL ns as) [] p
 | .meth o a as p1 p => .Call (.Attribute (toE ns o) (An a) p1) (toL ns as) [] p
 | .blt b as p1 p2 p => .Call (.Name b.name p1) (toL ns as ++ (match b with | .isTup => [.Name (sO "tuple") p2] | _ => [])) [] p
 | .lim e p1 p2 p => .Call (.Name (sO "Limits") p1) [] [⟨some (sO "steps"), toE ns e, p2⟩] p
noncomputable def toO (ns : List Str) : CO → Option Expr
 | .no => none
 | .so e => some (toE ns e)
noncomputable def toL (ns : List Str) : CL → List Expr
 | .nil => []
 | .cons e r => toE ns e :: toL ns r
noncomputable def toS (ns : List Str) : CS → Expr
 | .rng e p1 p => .Call (.Name (sO "range") p1) [toE ns e] [] p
 | .val e => toE ns e
noncomputable def toT (ns : List Str) : CT → Expr
 | .nm i p => .Name (nmE ns i) p
 | .two i p1 j p2 p => .Tuple [.Name (nmE ns i) p1, .Name (nmE ns j) p2] 0 p
end
noncomputable def toR : CR → Expr
 | .cst c p => .Constant c.c 0 p
 | .two c p1 a p2 p3 p => .Tuple [.Constant c.c 0 p1, .Attribute (.Name (sO "stop") p2) (An a) p3] 0 p
noncomputable def toH (ns : List Str) : Nat × Pos × Option Nat × CR × Pos × Pos → ExceptHandler
 | (k, p, as, r, pr, ph) => .ExceptHandler (some (.Name (Cn k) p)) (as.map (nmE ns)) [.Return (some (toR r)) pr] ph
noncomputable def ZbV (ns : List Str) (is : List (Nat × Pos)) : List Expr := is.map fun i => .Name (nmE ns i.1) i.2
mutual
noncomputable def toX (ns : List Str) : CX → Stmt
 | .asg t e p => .Assign [match t with
  | .nm i p => .Name (nmE ns i) p
  | .attr o a p => .Attribute (toE ns o) (An a) p
  | .sub o i p => .Subscript (toE ns o) (toE ns i) p
  | .slc o lo hi p1 p => .Subscript (toE ns o) (.Slice (toO ns lo) (toO ns hi) none p1) p
  | .tup is p => .Tuple (ZbV ns is) 0 p] (toE ns e) p
 | .unp is es p1 p2 p => .Assign [.Tuple (ZbV ns is) 0 p1] (.Tuple (toL ns es) 0 p2) p
 | .aug i op e p1 p => .AugAssign (.Name (nmE ns i) p1) op (toE ns e) p
 | .augA o a op e p1 p => .AugAssign (.Attribute (toE ns o) (An a) p1) op (toE ns e) p
 | .ifs t b o p => .If (toE ns t) (toB ns b) (toB ns o) p
 | .whl t b p => .While (toE ns t) (toB ns b) [] p
 | .fr t s b p => .For (toT ns t) (toS ns s) (toB ns b) [] p
 | .ret e p => .Return (toO ns e) p
 | .rse c as p1 p2 p => .Raise (some (.Call (.Name (Cn c) p1) (toL ns as) [] p2)) none p
 | .try_ b hs p => .Try (toB ns b) (hs.map (toH ns)) [] [] p
 | .ex e p => .Expr (toE ns e) p
 | .pass p => .Pass p
noncomputable def toB (ns : List Str) : CB → List Stmt
 | .nil => []
 | .cons s r => toX ns s :: toB ns r
end
theorem ZrQ : toL ns .nil = [] := rfl
theorem Ziy : toL ns (.cons e r) = toE ns e :: toL ns r := rfl
end
section
open PySem PySem.W PySem.Calls PyProof.Rows PySem.Spec
section
noncomputable abbrev sh (s : Sh) (h : Heap) (tk : Nat) : Sh := { s with heap := h, toks := tk }
theorem bc (h : ¬ P → False) : P := Classical.byContradiction h
noncomputable def NR (o : Obj) : Prop := ∀ vs, o.data ≠ .fields vs
theorem Zbn (e : o.data = d) (h : ∀ vs, d ≠ .fields vs) : NR o := fun vs q => h vs (e.symm.trans q)
structure SC where
 prog : Program
 w : World
 K : Frag
 h₀ : Heap
 fa : Nat → Addr
 ca : Nat → Addr
noncomputable abbrev SC.M (S : SC) := model S.prog S.w
structure Wd where
 cs : List (List Addr)
 fr : List Addr
 fa : List Addr
noncomputable def Wd.own (W : Wd) : List Addr := W.cs.flatten ++ W.fr
section
variable (S : SC)
mutual
inductive DR (own : List Addr) (h : Heap) : Vl → PD → Prop
 | none : DR own h .none .none
 | bool (b : Bool) : DR own h (.bool b) (.bool b)
 | int (i : Int) (t : Tok) : DR own h (.int i t) (.int i)
 | str (x : Str) (t : Tok) : DR own h (.str x t) (.str x)
 | list {a : Addr} {vs : Array Vl} {n : Nat} {xs : List PD} : a ∉ own → h.get? a = some (listOf vs n) → DRs own h vs.toList xs → DR own h (.ref a) (.list xs)
 | tuple {a : Addr} {o : Obj} {vs : Array Vl} {n : Nat} {xs : List PD} : a ∉ own → h.get? a = some o → o.cls = .type "tuple" → o.data = .seq vs n → DRs own h vs.toList xs → DR own h (.ref a) (.tuple xs)
inductive DRs (own : List Addr) (h : Heap) : List Vl → List PD → Prop
 | nil : DRs own h [] []
 | cons {v : Vl} {vs : List Vl} {x : PD} {xs : List PD} : DR own h v x → DRs own h vs xs → DRs own h (v :: vs) (x :: xs)
end
theorem Zb4 (d : DR own h v (.tuple xs)) : ∃ a o vs n, v = .ref a ∧ a ∉ own ∧ h.get? a = some o ∧ o.cls = .type "tuple" ∧ o.data = .seq vs n ∧ DRs own h vs.toList xs := by
 cases d with
 | tuple a b c d e => exact ⟨_, _, _, _, rfl, a, b, c, d, e⟩
theorem ZdC (d : DR own h v (.list xs)) : ∃ a vs n, v = .ref a ∧ a ∉ own ∧ h.get? a = some (listOf vs n) ∧ DRs own h vs.toList xs := by
 cases d with
 | list a b c => exact ⟨_, _, _, rfl, a, b, c⟩
noncomputable def WR (own : List Addr) (h : Heap) (v : Vl) : MW → Prop
 | .d x => DR own h v x
 | .fn f => v = .ref (S.fa f)
inductive All2 {α β : Type} (R : α → β → Prop) : List α → List β → Prop
 | nil : All2 R [] []
 | cons {a b l r} : R a b → All2 R l r → All2 R (a :: l) (b :: r)
noncomputable def Zec (own : List Addr) (h : Heap) (a : Addr) (es : List (DK × MW)) : Prop := a ∉ own ∧ a ≠ sysModules ∧
 ((∃ kvs, h.DictOf (strKind S.prog S.w) a kvs ∧ All2 (fun (kv : Str × Vl) (e : DK × MW) => e.1 = .s kv.1 ∧ WR S own h kv.2 e.2) kvs es) ∨
  (∃ kvs, h.DictOf (intKind S.prog S.w) a kvs ∧ All2 (fun (kv : Int × Vl) (e : DK × MW) => e.1 = .i kv.1 ∧ WR S own h kv.2 e.2) kvs es))
noncomputable def VR (W : Wd) (h : Heap) (v : Vl) : MV → Prop
 | .d x => DR W.own h v x
 | .loc l => ∃ a r, W.cs[l]? = some (a :: r) ∧ v = .ref a
 | .fn f => v = .ref (S.fa f)
 | .cls c => v = .ref (S.ca c)
 | .dic es => ∃ a, v = .ref a ∧ Zec S W.own h a es
noncomputable def OR (W : Wd) (h : Heap) : List Addr → MO → Prop
 | [a], .list xs => ∃ items n, h.get? a = some (listOf items n) ∧ DRs W.own h items.toList xs
 | [a], .dict es => a ≠ sysModules ∧ ∃ kvs, h.DictOf (strKind S.prog S.w) a kvs ∧ All2 (fun (kv : Str × Vl) (e : Str × MV) => kv.1 = e.1 ∧ VR S W h kv.2 e.2) kvs es ∧ es.length ≤ 1000
 | [x, D], .inst c fs => h.get? x = some (instObj (S.ca c) D) ∧ ∃ kvs, h.DictOf (strKind S.prog S.w) D kvs ∧ All2 (fun (kv : Str × Vl) (e : Nat × MV) => kv.1 = An e.1 ∧ VR S W h kv.2 e.2) kvs fs ∧ fs.all (fun p => Zas c p.1) = true ∧ (Zw c).isSome = true ∧ fs.length ≤ 100
 | _, _ => False
structure Inv (W : Wd) (st : St) (h : Heap) : Prop where
 base : ∀ b o, S.h₀.get? b = some o → h.get? b = some o
 len : W.cs.length = st.length
 cells : ∀ (l : Nat) (c : List Addr) (mo : MO), W.cs[l]? = some c → st[l]? = some mo → OR S W h c mo
 nodup : W.own.Nodup
 faf : ∀ a ∈ W.fa, a ∈ W.fr
 fresh : ∀ a ∈ W.own, S.h₀.get? a = none ∧ ∃ o, h.get? a = some o
structure Ext (W W' : Wd) : Prop where
 fr : W'.fr = W.fr
 fa : W'.fa = W.fa
 cs : ∃ t, W'.cs = W.cs ++ t
structure Pers (W : Wd) (cur : List Addr) (h h' : Heap) : Prop where
 keep : ∀ b o, h.get? b = some o → b ∉ W.own → NR o → h'.get? b = some o
 live : ∀ b o, h.get? b = some o → ∃ o', h'.get? b = some o'
 outer : ∀ b o, h.get? b = some o → b ∈ W.fr → b ∉ cur → ∃ sl, h'.get? b = some { o with slots := sl } ∧ (b ∉ W.fa → sl = o.slots)
end
theorem All2.imp (f : ∀ a b, R a b → R' a b) (a : All2 R l r) : All2 R' l r := by
 induction a with
 | nil => exact .nil
 | cons h _ ih => exact .cons (f _ _ h) ih
theorem All2.length (a : All2 R l r) : l.length = r.length := by
 induction a with
 | nil => rfl
 | cons _ _ ih => exact congrArg Nat.succ ih
theorem All2.get {i : Nat} (a : All2 R l r) (e : r[i]? = some b) : ∃ a, l[i]? = some a ∧ R a b := by
 induction a generalizing i with
 | nil => exact nn e rfl
 | cons h _ ih =>
  cases i with
  | zero => cases e; exact ⟨_, rfl, h⟩
  | succ i => exact ih (i := i) e
theorem DR.mono (k : ∀ b o, h.get? b = some o → b ∉ own → NR o → h'.get? b = some o) (g : ∀ a ∈ own', a ∈ own ∨ h.get? a = Option.none) {v : Vl} {x : PD} : DR own h v x → DR own' h' v x :=
 DR.rec (motive_1 := fun v x y => DR own' h' v x) (motive_2 := fun vs xs y => DRs own' h' vs xs) .none .bool .int .str
  (fun ha e y r => .list (fun m => (g _ m).elim ha fun q => nn e q) (k _ _ e ha (Zbn rfl (by simp))) r)
  (fun ha e c d y r => .tuple (fun m => (g _ m).elim ha fun q => nn e q) (k _ _ e ha (Zbn d (by simp))) c d r) .nil (fun y y a b => .cons a b)
theorem DRs.ind {P : List Vl → List PD → Prop} (n : P [] []) (c : ∀ {v vs x xs}, DR own h v x → P vs xs → P (v :: vs) (x :: xs)) {vs : List Vl} {xs : List PD} : DRs own h vs xs → P vs xs :=
 DRs.rec (motive_1 := fun y y y => True) (motive_2 := fun vs xs y => P vs xs) trivial (fun y => trivial) (fun y y => trivial) (fun y y => trivial) (fun y y y y => trivial) (fun y y y y y y => trivial) n (fun a y y b => c a b)
theorem DRs.mono (k : ∀ b o, h.get? b = some o → b ∉ own → NR o → h'.get? b = some o) (g : ∀ a ∈ own', a ∈ own ∨ h.get? a = Option.none) {vs : List Vl} {xs : List PD} : DRs own h vs xs → DRs own' h' vs xs :=
 DRs.ind (P := fun vs xs => DRs own' h' vs xs) .nil fun a b => .cons (DR.mono k g a) b
theorem DR.reads {v : Vl} {x : PD} : DR own h v x → ∃ as, Reads h v x as :=
 DR.rec (motive_1 := fun v x y => ∃ as, Reads h v x as) (motive_2 := fun vs xs y => ∃ as, ReadsAll h vs xs as) ⟨_, .none⟩ (fun b => ⟨_, .bool b⟩) (fun i t => ⟨_, .int i t⟩) (fun x t => ⟨_, .str x t⟩)
  (fun y e y r => r.elim fun y q => ⟨_, .list e rfl rfl q⟩) (fun y e c d y r => r.elim fun y q => ⟨_, .tuple e c d q⟩) ⟨_, .nil⟩ (fun y y a b => a.elim fun y p => b.elim fun y q => ⟨_, .cons p q⟩)
theorem DRs.reads {vs : List Vl} {xs : List PD} : DRs own h vs xs → ∃ as, ReadsAll h vs xs as :=
 DRs.ind (P := fun vs xs => ∃ as, ReadsAll h vs xs as) ⟨_, .nil⟩ fun a b => (DR.reads a).elim fun y p => b.elim fun y q => ⟨_, .cons p q⟩
theorem DRs.length (d : DRs own h vs xs) : vs.length = xs.length := by
 induction xs generalizing vs with
 | nil => cases d; rfl
 | cons x xs ih => cases d with | cons _ d => exact congrArg Nat.succ (ih d)
theorem DRs.get {i : Nat} (d : DRs own h vs xs) (e : xs[i]? = some x) : ∃ v, vs[i]? = some v ∧ DR own h v x := by
 induction xs generalizing vs i with
 | nil => exact nn e rfl
 | cons y xs ih =>
  cases d with
  | cons a d =>
   cases i with
   | zero => cases e; exact ⟨_, rfl, a⟩
   | succ i => exact ih (i := i) d e
theorem DRs.append (d : DRs own h vs xs) (q : DRs own h ws ys) : DRs own h (vs ++ ws) (xs ++ ys) := by
 induction xs generalizing vs with
 | nil => cases d; exact q
 | cons x xs ih => cases d with | cons a d => exact .cons a (ih d)
theorem DRs.take (n : Nat) (d : DRs own h vs xs) : DRs own h (vs.take n) (xs.take n) := by
 induction xs generalizing vs n with
 | nil => cases d; cases n <;> exact .nil
 | cons x xs ih =>
  cases d with
  | cons a d =>
   cases n with
   | zero => exact .nil
   | succ n => exact .cons a (ih n d)
theorem DRs.drop (n : Nat) (d : DRs own h vs xs) : DRs own h (vs.drop n) (xs.drop n) := by
 induction xs generalizing vs n with
 | nil => cases d; cases n <;> exact .nil
 | cons x xs ih =>
  cases n with
  | zero => exact d
  | succ n => cases d with | cons a d => exact ih n d
theorem DRs.set (d : DR own h v x) (n : Nat) (q : DRs own h vs xs) : DRs own h (vs.set n v) (xs.set n x) := by
 induction xs generalizing vs n with
 | nil => cases q; cases n <;> exact .nil
 | cons y xs ih =>
  cases q with
  | cons a q =>
   cases n with
   | zero => exact .cons d q
   | succ n => exact .cons a (ih n q)
theorem DRs.rep (d : DR own h v x) : ∀ n, DRs own h (List.replicate n v) (List.replicate n x)
 | 0 => .nil
 | n + 1 => .cons d (DRs.rep d n)
section
variable {S : SC} {W W' : Wd} {h h' : Heap}
theorem WR.mono (k : ∀ b o, h.get? b = some o → b ∉ own → NR o → h'.get? b = some o) (g : ∀ a ∈ own', a ∈ own ∨ h.get? a = none) (r : WR S own h v x) : WR S own' h' v x := by
 cases x with
 | d x => exact DR.mono k g r
 | fn f => exact r
theorem ZJ {K : Type} [DecidableEq K] {knd : KeyKind S.prog S.w K} {kvs : List (K × Vl)} (e : ∀ o, h.get? a = some o → NR o → h'.get? a = some o) (d : h.DictOf knd a kvs) : h'.DictOf knd a kvs := by
 obtain ⟨o, es, ep, ho, hc, hd, r⟩ := d; exact ⟨o, es, ep, e _ ho (Zbn hd (by simp)), hc, hd, r⟩
theorem Ziz {K : Type} [DecidableEq K] {knd : KeyKind S.prog S.w K} {kvs : List (K × Vl)} (d : h.DictOf knd a kvs) : ∃ o, h.get? a = some o := by
 obtain ⟨o, _, _, ho, _⟩ := d; exact ⟨o, ho⟩
theorem Zec.mono {own own' : List Addr} (k : ∀ b o, h.get? b = some o → b ∉ own → NR o → h'.get? b = some o) (g : ∀ a ∈ own', a ∈ own ∨ h.get? a = none) {a : Addr} {es : List (DK × MW)} (r : Zec S own h a es) : Zec S own' h' a es := by
 refine bc fun no => ?_; obtain ⟨h1, h2, r⟩ := r; refine no ?_
 refine ⟨fun m => (g _ m).elim h1 fun q => ?_, h2, ?_⟩
 ·rcases r with ⟨kvs, d, _⟩ | ⟨kvs, d, _⟩ <;> (obtain ⟨o, e⟩ := Ziz d; rw [q] at e; exact nn e rfl)
 ·rcases r with ⟨kvs, d, q⟩ | ⟨kvs, d, q⟩
  ·exact .inl ⟨kvs, ZJ (fun o e => k _ _ e h1) d, q.imp fun y y z => ⟨z.1, z.2.mono k g⟩⟩
  ·exact .inr ⟨kvs, ZJ (fun o e => k _ _ e h1) d, q.imp fun y y z => ⟨z.1, z.2.mono k g⟩⟩
structure Grow (W W' : Wd) (h h' : Heap) : Prop where
 keep : ∀ b o, h.get? b = some o → b ∉ W.own → NR o → h'.get? b = some o
 own : ∀ a ∈ W'.own, a ∈ W.own ∨ h.get? a = none
 cs : ∃ t, W'.cs = W.cs ++ t
theorem ZjW (e : ∃ t, W'.cs = W.cs ++ t) {l : Nat} (x : W.cs[l]? = some c) : W'.cs[l]? = some c := by
 obtain ⟨t, e⟩ := e
 rw [e, List.getElem?_append_left (List.getElem?_eq_some_iff.mp x).1]; exact x
theorem VR.mono (G : Grow W W' h h') {x : MV} (r : VR S W h v x) : VR S W' h' v x := by
 cases x with
 | d x => exact DR.mono G.keep G.own r
 | loc l => obtain ⟨a, t, e, q⟩ := r; exact ⟨a, t, ZjW G.cs e, q⟩
 | fn f => exact r
 | cls c => exact r
 | dic es => obtain ⟨a, e, q⟩ := r; exact ⟨a, e, q.mono G.keep G.own⟩
end
end
structure Fm where
 env : Env
 ns : List Str
 fl : List Env
 cur : List Addr
structure Room (A : Ar) (n : Nat) : Prop where
 handled : A.handled = none
 depth : A.depth + 2 * n ≤ 900
 units : A.units + 10 * n + 500 ≤ cLine
structure FmOk (F : Fm) (A : Ar) (n : Nat) : Prop where
 room : Room A n
 kind : F.env.scope.kind = .function
 glob : F.env.globals = mainGlobals
 blt : F.env.builtins = builtinsNs
 frames : A.frames = some F.fl
 head : ∃ e r L, F.fl = e :: r ∧ e.frame = some L ∧ F.env.frame = some L
 nodup : F.ns.Nodup
 loc : F.env.locals ∈ F.cur
 apart : F.env.cells.Pairwise fun x y => x.2 ≠ y.2
 cells : ∀ x c, F.env.cells.lookup x = some c → c ≠ F.env.locals
 lk : ∀ x, F.env.kindOf x = some .cell → (F.env.cells.lookup x).isSome = true
section
variable (S : SC)
structure FI (F : Fm) (W : Wd) (ρ : En) (h : Heap) : Prop where
 len : ρ.length = F.ns.length
 cur : ∀ a ∈ F.cur, a ∈ W.fr
 cells : ∀ x c, F.env.cells.lookup x = some c → c ∈ W.fr ∧ ∃ v, h.IsCell c v
 fl : ∀ e ∈ F.fl, e.scope.kind ≠ .module ∧ ∃ L, e.frame = some L ∧ L ∈ W.fr ∧ L ∈ W.fa ∧ ∃ o, h.get? L = some o ∧ ∀ vs, o.data ≠ .fields vs
 locW : F.env.locals ∈ W.fr
 ns : ∃ m, h.Ns F.env.locals m ∧ ∀ (i : Nat) (v : MV), ρ[i]? = some (some v) → ∃ x u, F.ns[i]? = some x ∧ VR S W h u v ∧
  ((F.env.kindOf x = some .local ∧ m x = some u) ∨ (F.env.kindOf x = some .cell ∧ ∃ c, F.env.cells.lookup x = some c ∧ h.IsCell c (some u)))
end
structure XO (S : SC) (W : Wd) (lo : Heap) (c : Nat) (fs : List (Nat × PD)) (e : Addr) (h : Heap) (vs : Array Vl) : Prop where
 obj : ∃ oe D kvs, h.get? e = some oe ∧ oe.cls = .ref (S.ca c) ∧ oe.dict = some D ∧ oe.data = .fields vs ∧ h.DictOf (strKind S.prog S.w) D kvs ∧
  All2 (fun (kv : Str × Vl) (f : Nat × PD) => kv.1 = An f.1 ∧ DR W.own h kv.2 f.2) kvs fs ∧ lo.get? D = none ∧ D ∉ W.own
 size : 1 < vs.size
 lo : lo.get? e = none
 own : e ∉ W.own
inductive TB (W : Wd) (lo : Heap) (L : Option Addr) (e : Addr) (h : Heap) (vs : Array Vl) : Prop
 | mk (T : Addr) (oT : Obj) (ts : Array Vl) (fl : Vl) (a : vs[1]? = some (.ref T)) (b : lo.get? T = none) (c : T ∉ W.own) (d : T ≠ e) (x : h.get? T = some oT) (y : oT.data = .fields ts) (z : ts[3]? = some fl) (q : fl = .none ∨ ∃ l, L = some l ∧ fl = rawInt l)
noncomputable def XS (S : SC) (W : Wd) (lo : Heap) (L : Option Addr) (c : Nat) (fs : List (Nat × PD)) (e : Addr) (h : Heap) : Prop :=
 ∃ vs, XO S W lo c fs e h vs ∧ (vs[1]? = some .none ∨ TB W lo L e h vs)
theorem XO.weaken {lo lo' h : Heap} (x : XO S W lo c fs e h vs) (l : ∀ b, b ∉ W.own → lo.get? b = none → lo'.get? b = none) (w : ∀ a ∈ W'.own, a ∈ W.own) : XO S W' lo' c fs e h vs := by
 refine bc fun no => ?_; obtain ⟨⟨oe, D, kvs, a1, a2, a3, a4, a5, a6, a7, a8⟩, b, c, d⟩ := x; refine no ?_
 exact ⟨⟨oe, D, kvs, a1, a2, a3, a4, a5, a6.imp fun y y z => ⟨z.1, z.2.mono (fun b o e y y => e) fun a m => .inl (w a m)⟩, l _ a8 a7, fun m => a8 (w _ m)⟩, b, l _ d c, fun m => d (w _ m)⟩
theorem TB.weaken {lo lo' h : Heap} (x : TB W lo L e h vs) (l : ∀ b, b ∉ W.own → lo.get? b = none → lo'.get? b = none) (w : ∀ a ∈ W'.own, a ∈ W.own) : TB W' lo' L e h vs :=
 (by obtain ⟨T, oT, ts, fl, y1, y2, y3, y4, y5, y6, y7, y8⟩ := x; exact ⟨T, oT, ts, fl, y1, l _ y3 y2, fun m => y3 (w _ m), y4, y5, y6, y7, y8⟩)
theorem XS.weaken {W W' : Wd} {lo lo' h : Heap} (x : XS S W lo L c fs e h) (l : ∀ b, b ∉ W.own → lo.get? b = none → lo'.get? b = none) (w : ∀ a ∈ W'.own, a ∈ W.own) : XS S W' lo' L c fs e h :=
 (by obtain ⟨vs, a, b⟩ := x; exact ⟨vs, a.weaken l w, b.imp id fun z => z.weaken l w⟩)
theorem Ext.refl (W : Wd) : Ext W W := ⟨rfl, rfl, [], by simp⟩
theorem Ext.trans (a : Ext W W') (b : Ext W' W'') : Ext W W'' := ⟨b.fr.trans a.fr, b.fa.trans a.fa, by
 obtain ⟨t, e⟩ := a.cs
 obtain ⟨u, f⟩ := b.cs
 exact ⟨t ++ u, by rw [f, e, List.append_assoc]⟩⟩
theorem Ext.own (x : Ext W W') : ∀ a ∈ W.own, a ∈ W'.own := by
 obtain ⟨t, e⟩ := x.cs
 intro a ha
 unfold Wd.own at *
 rw [x.fr, e, List.flatten_append]
 rcases lA9.mp ha with h | h
 ·exact lA9.mpr (.inl (lA9.mpr (.inl h)))
 ·exact lA9.mpr (.inr h)
theorem Pers.refl : Pers W cur h h := ⟨fun y y e y y => e, fun y o e => ⟨o, e⟩, fun y o e y y => ⟨o.slots, e, fun y => rfl⟩⟩
theorem Pers.trans (a : Pers W cur h h₁) (b : Pers W' cur h₁ h₂) (ex : Ext W W') (g : ∀ b ∈ W'.own, b ∈ W.own ∨ h.get? b = none) : Pers W cur h h₂ :=
 ⟨fun x o e n nr => b.keep x o (a.keep x o e n nr) (fun m => (g x m).elim n fun q => (by rw [q] at e; exact nn e rfl)) nr, fun x o e => (by obtain ⟨_, z⟩ := a.live x o e; exact b.live x _ z),
  fun x o e m n => by
   obtain ⟨sl, q, z⟩ := a.outer x o e m n
   obtain ⟨sl', q', z'⟩ := b.outer x _ q (ex.fr ▸ m) n
   exact ⟨sl', q', fun ne => (z' (ex.fa ▸ ne)).trans (z ne)⟩⟩
theorem Pers.dead (p : Pers W cur h h') (q : h'.get? x = none) : x ∈ W.own ∨ h.get? x = none := by
 by_cases m : x ∈ W.own
 ·exact .inl m
 ·cases e : h.get? x with
  | none => exact .inr rfl
  | some o => obtain ⟨o', z⟩ := p.live x o e; rw [z] at q; cases q
structure Step (W W' : Wd) (cur : List Addr) (h h' : Heap) : Prop where
 ext : Ext W W'
 pers : Pers W cur h h'
 own : ∀ a ∈ W'.own, a ∈ W.own ∨ h.get? a = none
theorem Step.refl : Step W W cur h h := ⟨.refl W, .refl, fun y m => .inl m⟩
theorem Step.trans (a : Step W W' cur h h₁) (b : Step W' W'' cur h₁ h₂) : Step W W'' cur h h₂ :=
 ⟨a.ext.trans b.ext, a.pers.trans b.pers a.ext a.own, fun x m => (b.own x m).elim (a.own x) fun q => a.pers.dead q⟩
theorem Step.grow (a : Step W W' cur h h') : Grow W W' h h' := ⟨a.pers.keep, a.own, a.ext.cs⟩
section
variable (S : SC) (F : Fm) (W : Wd) (ρ : En) (hh : Heap) (gg : Array GenState) (dd : Drawn) (os : OsState)
inductive QE0 {α β : Type} (V : Wd → Heap → α → β → Prop) (r : RV β) (x : α) (s' : Sh) : Prop
 | mk (v : β) (st' : St) (W' : Wd) (e : r = .ok v st') (h' : Heap) (tk : Nat) (q : s' = ⟨h', gg, dd, tk, os⟩) (P : Step W W' F.cur hh h') (I : Inv S W' st' h') (K : FI S F W' ρ h') (z : V W' h' x v)
inductive EE0 {β : Type} (r : RV β) (x : Vl) (s' : Sh) : Prop
 | mk (c : Nat) (fs : List (Nat × PD)) (st' : St) (W' : Wd) (a : Addr) (e : r = .ex c fs st') (y : x = .ref a) (h' : Heap) (tk : Nat) (q : s' = ⟨h', gg, dd, tk, os⟩) (P : Step W W' F.cur hh h') (I : Inv S W' st' h') (K : FI S F W' ρ h') (z : XS S W' hh F.env.frame c fs a h')
end
section
variable (S : SC) (F : Fm) (W : Wd) (ρ : En) (s : Sh)
noncomputable def At (s' : Sh) (P : Heap → Prop) : Prop := ∃ h' tk, s' = (sh s h' tk) ∧ P h'
noncomputable def QE {α β : Type} (V : Wd → Heap → α → β → Prop) (r : RV β) (x : α) (s' : Sh) : Prop := QE0 S F W ρ s.heap s.gens s.drawn s.os V r x s'
noncomputable def EE {β : Type} (r : RV β) (x : Vl) (s' : Sh) : Prop := EE0 S F W ρ s.heap s.gens s.drawn s.os r x s'
end
section
variable {S : SC} {F : Fm} {W W' : Wd} {h h' : Heap} {ρ : En} {st : St}
theorem OR.mono2 (G : Grow W W' h h') {c : List Addr} {mo : MO} (k : ∀ b o, h.get? b = some o → b ∈ c → h'.get? b = some o) (x : OR S W h c mo) : OR S W' h' c mo := by
 cases c with
 | nil => cases mo <;> exact x.elim
 | cons a c => cases c with
  | nil => cases mo with
   | list xs => obtain ⟨items, n, e, d⟩ := x; exact ⟨items, n, k _ _ e (.head _), DRs.mono G.keep G.own d⟩
   | dict es => obtain ⟨ne, kvs, d, q, l⟩ := x; exact ⟨ne, kvs, ZJ (fun o e y => k _ _ e (.head _)) d, q.imp fun y y z => ⟨z.1, z.2.mono G⟩, l⟩
   | inst _ _ => exact x.elim
  | cons D c => cases c with
   | nil => cases mo with
    | inst i fs => obtain ⟨e, kvs, d, q, l⟩ := x; exact ⟨k _ _ e (.head _), kvs, ZJ (fun o e y => k _ _ e (.tail _ (.head _))) d, q.imp fun y y z => ⟨z.1, z.2.mono G⟩, l⟩
    | _ => exact x.elim
   | cons _ _ => cases mo <;> exact x.elim
theorem OR.mono (G : Grow W W' h h') (k : ∀ b o, h.get? b = some o → b ∈ W.cs.flatten → h'.get? b = some o) (hc : ∀ a ∈ c, a ∈ W.cs.flatten) (o : OR S W h c mo) : OR S W' h' c mo :=
 OR.mono2 G (fun b ob e m => k b ob e (hc b m)) o
theorem Z2 {l : Nat} (e : W.cs[l]? = some c) : ∀ a ∈ c, a ∈ W.cs.flatten := fun a ha => List.mem_flatten.mpr ⟨c, List.mem_of_getElem? e, ha⟩
theorem Inv.grow (I : Inv S W st h) (k : ∀ b o, h.get? b = some o → h'.get? b = some o) : Inv S W st h' :=
 have G : Grow W W h h' := ⟨fun b o e y y => k b o e, fun y m => .inl m, [], by simp⟩
 ⟨fun b o e => k _ _ (I.base b o e), I.len, fun l c mo e f => (I.cells l c mo e f).mono G (fun b o e y => k b o e) (Z2 e), I.nodup, I.faf, fun a m => ⟨(I.fresh a m).1, (by obtain ⟨o, e⟩ := (I.fresh a m).2; exact ⟨o, k _ _ e⟩)⟩⟩
theorem Zab (e : ∀ o, h.get? c = some o → ∃ sl, h'.get? c = some { o with slots := sl }) (x : h.IsCell c v) : h'.IsCell c v :=
 (by obtain ⟨o, ho, hd⟩ := x; exact (by obtain ⟨_, q⟩ := e o ho; exact ⟨_, q, hd⟩))
theorem Zce (e : ∀ o, h.get? a = some o → ∃ sl, h'.get? a = some { o with slots := sl }) (x : h.Ns a m) : h'.Ns a m :=
 (by obtain ⟨o, es, ep, ho, hd, r⟩ := x; exact (by obtain ⟨_, q⟩ := e o ho; exact ⟨_, es, ep, q, hd, r⟩))
theorem FI.mono (I : FI S F W ρ h) (G : Grow W W' h h') (ex : Ext W W') (k : ∀ b o, h.get? b = some o → b ∈ W.fr → ∃ sl, h'.get? b = some { o with slots := sl }) : FI S F W' ρ h' := by
 refine bc fun no => ?_; obtain ⟨m, n, q⟩ := I.ns; refine no ?_
 have kl : ∀ l, h.Ns F.env.locals l → F.env.locals ∈ W.fr → h'.Ns F.env.locals l := fun l x m => Zce (fun o e => k _ o e m) x
 refine ⟨I.len, fun a m => ex.fr ▸ I.cur a m, fun x c e => ?_, fun e m => ?_, ex.fr ▸ I.locW, ?_⟩
 ·refine bc fun no => ?_; obtain ⟨a, v, b⟩ := I.cells x c e; refine no ?_
  exact ⟨ex.fr ▸ a, v, Zab (fun o e => k _ o e a) b⟩
 ·refine bc fun no => ?_; obtain ⟨a, L, b, c, d, o, e1, e2⟩ := I.fl e m; refine no ?_
  refine bc fun no => ?_; obtain ⟨sl, z⟩ := k L o e1 c; refine no ?_
  exact ⟨a, L, b, ex.fr ▸ c, ex.fa ▸ d, _, z, e2⟩
 ·refine ⟨m, kl m n I.locW, fun i v e => ?_⟩
  refine bc fun no => ?_; obtain ⟨x, u, e1, e2, e3⟩ := q i v e; refine no ?_
  refine ⟨x, u, e1, e2.mono G, e3.imp (fun z => z) fun ⟨z, c, z1, z2⟩ => ⟨z, c, z1, ?_⟩⟩
  refine bc fun no => ?_; obtain ⟨a, _⟩ := I.cells x c z1; refine no ?_
  exact Zab (fun o e => k _ o e a) z2
theorem FI.grow (I : FI S F W ρ h) (k : ∀ b o, h.get? b = some o → h'.get? b = some o) : FI S F W ρ h' :=
 I.mono ⟨fun b o e y y => k b o e, fun y m => .inl m, [], by simp⟩ (.refl W) fun b o e y => ⟨o.slots, k b o e⟩
theorem Step.keeps (k : ∀ b o, h.get? b = some o → h'.get? b = some o) : Step W W cur h h' :=
 ⟨.refl W, ⟨fun b o e y y => k b o e, fun b o e => ⟨o, k b o e⟩, fun b o e y y => ⟨o.slots, k b o e, fun y => rfl⟩⟩, fun y m => .inl m⟩
end
section
variable {S : SC} {F : Fm} {W : Wd} {ρ : En} {st : St} {A : Ar} {s : Sh} {α β γ δ : Type}
theorem EE.trans {h' : Heap} {r : RV β} {r' : RV γ} (P : Step W W' F.cur s.heap h') (e : ∀ c fs st, r' = .ex c fs st → r = .ex c fs st)
 (h : EE S F W' ρ (sh s h' tk) r' x s₂) : EE S F W ρ s r x s₂ := by
 obtain ⟨c, fs, st', W'', a, e1, rfl, h₂, tk₂, rfl, P', I, Fi, X⟩ := h
 exact ⟨c, fs, st', W'', a, e _ _ _ e1, rfl, h₂, tk₂, rfl, P.trans P', I, Fi, X.weaken (fun b n q => (P.pers.dead q).resolve_left fun m => n (P'.ext.own _ (P.ext.own _ m))) fun y m => m⟩
theorem Zl {V : Wd → Heap → α → β → Prop} {V' : Wd → Heap → γ → δ → Prop} {r : RV β} {f : β → St → RV δ} {t : Sem α} {k : α → Sem γ}
 (h : wA S.M A t (QE S F W ρ s V r) (EE S F W ρ s r) s)
 (q : ∀ v st' W' h' tk x, r = .ok v st' → Step W W' F.cur s.heap h' → Inv S W' st' h' → FI S F W' ρ h' → V W' h' x v →
  wA S.M A (k x) (QE S F W' ρ (sh s h' tk) V' (f v st')) (EE S F W' ρ (sh s h' tk) (f v st')) (sh s h' tk)) :
 wA S.M A (t >>= k) (QE S F W ρ s V' (r.bind f)) (EE S F W ρ s (r.bind f)) s := by
 refine wB (wM h (fun x s₁ z => ?_) fun x s₁ z => ?_)
 ·obtain ⟨v, st', W', rfl, h', tk, rfl, P, I, Fi, vr⟩ := z
  refine wM (q v st' W' h' tk x rfl P I Fi vr) (fun y s₂ z => ?_) fun y s₂ z => z.trans P fun w w w e => e
  obtain ⟨u, st₂, W₂, e, h₂, tk₂, rfl, P₂, I₂, F₂, vr₂⟩ := z
  exact ⟨u, st₂, W₂, e, h₂, tk₂, rfl, P.trans P₂, I₂, F₂, vr₂⟩
 ·obtain ⟨c, fs, st', W', a, rfl, y, h', tk, hq, P, I, K, z⟩ := z
  exact ⟨c, fs, st', W', a, rfl, y, h', tk, hq, P, I, K, z⟩
end
theorem wif [Decidable c] (h : c) (w : wA M A a Q E s) : wA M A (if c then a else b) Q E s := by rw [if_pos h]; exact w
theorem wel [Decidable c] (h : ¬ c) (w : wA M A b Q E s) : wA M A (if c then a else b) Q E s := by rw [if_neg h]; exact w
theorem lif [Decidable c] (hc : c) (x : Looks M h a r) : Looks M h (if c then a else b) r := fun A Q E s k q => wif hc (x A Q E s k q)
theorem lel [Decidable c] (hc : ¬ c) (x : Looks M h b r) : Looks M h (if c then a else b) r := fun A Q E s k q => wel hc (x A Q E s k q)
section
theorem ba2 {a b : Bool} (h : (a && b) = true) : a = true ∧ b = true := Bool.and_eq_true_iff.mp h
theorem ba3 {a b c : Bool} (h : (a && b && c) = true) : (a = true ∧ b = true) ∧ c = true := ⟨ba2 (ba2 h).1, (ba2 h).2⟩
theorem ba4 {a b c d : Bool} (h : (a && b && c && d) = true) : ((a = true ∧ b = true) ∧ c = true) ∧ d = true := ⟨ba3 (ba2 h).1, (ba2 h).2⟩
theorem ba5 {a b c d e : Bool} (h : (a && b && c && d && e) = true) : (((a = true ∧ b = true) ∧ c = true) ∧ d = true) ∧ e = true := ⟨ba4 (ba2 h).1, (ba2 h).2⟩
theorem ba6 {a b c d e f : Bool} (h : (a && b && c && d && e && f) = true) : ((((a = true ∧ b = true) ∧ c = true) ∧ d = true) ∧ e = true) ∧ f = true := ⟨ba5 (ba2 h).1, (ba2 h).2⟩
noncomputable def nmk (nm : List (Str × NK)) (x : Str) (k : NK) : Bool := nm.lookup x == some k
noncomputable def dbg : Str := "__debug__"
noncomputable def okL (nm : List (Str × NK)) (ns : List Str) (i : Nat) : Bool := decide (i < ns.length) && !(nmE ns i == dbg) && (nmk nm (nmE ns i) .local || nmk nm (nmE ns i) .cell)
noncomputable def okG (nm : List (Str × NK)) (x : Str) : Bool := nmk nm x .globalImplicit && !(x == dbg)
noncomputable def CE.isCall (e : CE) : Bool := Nat.ble 17 e.ctorIdx
noncomputable def Z5 (nm : List (Str × NK)) (sc : Scope) : List (Str × NK) := sc.names.map fun (n, k) => if (k == .free && nmk nm n .cell) then (n, .cell) else (n, k)
noncomputable def CL.len : CL → Nat
 | .nil => 0
 | .cons _ r => r.len + 1
noncomputable def CL.allFn : CL → Bool
 | .nil => true
 | .cons (.glb g _) r => (match gv g with | some (.fn _) => true | _ => false) && r.allFn
 | .cons _ _ => false
noncomputable def ZaD : Cst × Pos → Option Str
 | (.str x, _) => some x
 | _ => none
noncomputable def Zed : Cst × Pos → Option Int
 | (.int x, _) => some x
 | _ => none
noncomputable def okK (h : Bool) (ks : List (Cst × Pos)) (n : Nat) : Bool := ks.length == n && decide (n ≤ 32) && (decide (n > 0) || !h) && (decide (n ≤ 15) || !h && n == 24) && ((ks.all fun k => (ZaD k).isSome) && decide (ks.filterMap ZaD).Nodup || !h && (ks.all fun k => (Zed k).isSome) && decide (ks.filterMap Zed).Nodup)
noncomputable def Zfg (nm : List (Str × NK)) (ns : List Str) (nt : Nat) (cap : List Nat) (ns' : List Str) (sc : Scope) : Bool :=
 sc.kind == .function && (sc.names.all fun x => x.2 != .cell) && decide (sc.names.map (·.1)).Nodup && decide ns'.Nodup && (ns'.length == nt + cap.length) &&
 ((ns'.take nt).all fun x => nmk sc.names x .local && !(x == dbg)) && (ns'.drop nt == cap.map fun i => ns.getD i default) &&
 (cap.all fun i => decide (i < ns.length) && nmk nm (ns.getD i default) .cell && nmk sc.names (ns.getD i default) .free) && (sc.names.all fun x => x.2 != .free || nmk nm x.1 .cell)
mutual
noncomputable def okE (nm : List (Str × NK)) (ns : List Str) : CE → Bool
 | .cst _ _ => true
 | .loc i _ => okL nm ns i
 | .glb g _ => okG nm (Gn g)
 | .attr e _ _ => okE nm ns e && !e.isCall
 | .sub e i _ => okE nm ns e && okE nm ns i
 | .slc e lo hi _ _ => okE nm ns e && okO nm ns lo && okO nm ns hi
 | .bin _ a b _ _ => okE nm ns a && okE nm ns b
 | .un _ a _ => okE nm ns a
 | .cmp _ a b _ => okE nm ns a && okE nm ns b
 | .cmp2 _ _ a b c _ => okE nm ns a && okE nm ns b && okE nm ns c
 | .cmp3 _ _ _ a b c d _ => okE nm ns a && okE nm ns b && okE nm ns c && okE nm ns d
 | .bop _ es _ => Zu nm ns es && (match es with | .nil => false | .cons _ _ => true)
 | .ite t a b _ => okE nm ns t && okE nm ns a && okE nm ns b
 | .list es _ _ => Zu nm ns es && decide (es.len ≤ 100)
 | .tup es _ => Zu nm ns es && decide (es.len ≤ 100)
 | .dict ks vs h _ => Zu nm ns vs && okK h ks vs.len && (decide (ks.length ≤ 15) || vs.allFn && ks.all fun k => (ZaD k).isSome)
 | .comp f t s c nt cap ns' sc _ => okS nm ns s && okE (Z5 nm sc) ns' f && okO (Z5 nm sc) ns' c && okT nt t && Zfg nm ns nt cap ns' sc
 | .call f as _ => okE nm ns f && Zu nm ns as && decide (as.len ≤ 10) && (match f with | .attr .. => false | _ => true)
 | .meth o _ as p1 p => okE nm ns o && Zu nm ns as && !o.isCall && decide (as.len ≤ 10) && (p1.endLine == p.line)
 | .blt b as _ _ _ => okG nm b.name && Zu nm ns as && decide (as.len ≤ 10) && (match b with | .isTup => okG nm (sO "tuple") && (match as with | .cons _ .nil => true | _ => false) | _ => true)
 | .lim e _ _ _ => okE nm ns e && okG nm (sO "Limits")
noncomputable def okO (nm : List (Str × NK)) (ns : List Str) : CO → Bool
 | .no => true
 | .so e => okE nm ns e
noncomputable def Zu (nm : List (Str × NK)) (ns : List Str) : CL → Bool
 | .nil => true
 | .cons e r => okE nm ns e && Zu nm ns r
noncomputable def okS (nm : List (Str × NK)) (ns : List Str) : CS → Bool
 | .rng e _ _ => okE nm ns e && okG nm (sO "range")
 | .val e => okE nm ns e
noncomputable def okT (nt : Nat) : CT → Bool
 | .nm i _ => decide (i < nt)
 | .two i _ j _ _ => decide (i < nt) && decide (j < nt) && decide (i ≠ j)
end
theorem ZrR : CL.nil.len = 0 := rfl
theorem ZrS : (CL.cons e r).len = r.len + 1 := rfl
theorem ZrT : okO nm ns .no = true := rfl
theorem ZrU : okO nm ns (.so e) = okE nm ns e := rfl
theorem ZdD : Zu nm ns .nil = true := rfl
theorem ZdE : Zu nm ns (.cons e r) = (okE nm ns e && Zu nm ns r) := rfl
theorem ZtJ : okS nm ns (.rng e p2 p3) = (okE nm ns e && okG nm (sO "range")) := rfl
theorem ZtK : okS nm ns (.val e) = okE nm ns e := rfl
theorem ZnN : okE nm ns (.glb g p2) = (okG nm (Gn g)) := rfl
theorem Zlk : okE nm ns (.attr e p2 p3) = (okE nm ns e && !e.isCall) := rfl
theorem Ztw : okE nm ns (.sub e i p3) = (okE nm ns e && okE nm ns i) := rfl
theorem ZnO {e lo hi p4 p5} : okE nm ns (.slc e lo hi p4 p5) = (okE nm ns e && okO nm ns lo && okO nm ns hi) := rfl
theorem Ztx : okE nm ns (.bin p1 a b p4 p5) = (okE nm ns a && okE nm ns b) := rfl
theorem ZjX : okE nm ns (.un p1 a p3) = (okE nm ns a) := rfl
theorem Zty : okE nm ns (.cmp p1 a b p4) = (okE nm ns a && okE nm ns b) := rfl
theorem ZsX : okE nm ns (.cmp2 p1 p2 a b c p6) = (okE nm ns a && okE nm ns b && okE nm ns c) := rfl
theorem ZsY : okE nm ns (.cmp3 p1 p2 p3 a b c d p8) = (okE nm ns a && okE nm ns b && okE nm ns c && okE nm ns d) := rfl
theorem Ztz : okE nm ns (.bop p1 es p3) = (Zu nm ns es && (match es with | .nil => false | .cons _ _ => true)) := rfl
theorem ZtA : okE nm ns (.ite t a b p4) = (okE nm ns t && okE nm ns a && okE nm ns b) := rfl
theorem Zll : okE nm ns (.list es p2 p3) = (Zu nm ns es && decide (es.len ≤ 100)) := rfl
theorem ZnP : okE nm ns (.tup es p2) = (Zu nm ns es && decide (es.len ≤ 100)) := rfl
theorem ZfI : okE nm ns (.dict ks vs h p4) = (Zu nm ns vs && okK h ks vs.len && (decide (ks.length ≤ 15) || vs.allFn && ks.all fun k => (ZaD k).isSome)) := rfl
theorem ZsZ : okE nm ns (.comp f t s c nt cap ns' sc p9) = (okS nm ns s && okE (Z5 nm sc) ns' f && okO (Z5 nm sc) ns' c && okT nt t && Zfg nm ns nt cap ns' sc) := rfl
theorem Zs0 : okE nm ns (.call f as p3) = (okE nm ns f && Zu nm ns as && decide (as.len ≤ 10) && (match f with | .attr .. => false | _ => true)) := rfl
theorem Zlm : okE nm ns (.meth o p2 as p1 p) = (okE nm ns o && Zu nm ns as && !o.isCall && decide (as.len ≤ 10) && (p1.endLine == p.line)) := rfl
theorem ZtB : okE nm ns (.blt b as p3 p4 p5) = (okG nm b.name && Zu nm ns as && decide (as.len ≤ 10) && (match b with | .isTup => okG nm (sO "tuple") && (match as with | .cons _ .nil => true | _ => false) | _ => true)) := rfl
theorem ZtC : okE nm ns (.lim e p2 p3 p4) = (okE nm ns e && okG nm (sO "Limits")) := rfl
structure Ground (S : SC) : Prop where
 X : S.K.In S.h₀
 nolimit : S.h₀.NoLimit
 mods : ∃ a o, sysModules < a ∧ S.h₀.get? a = some o
 ins : ∀ c, (Zw c).isSome = true → (∃ cd, clsIn S.K (S.ca c) = some cd ∧ cd.hasDict = true) ∧ plainOver S.K (S.ca c) = true ∧ makesIn S.K (S.ca c) = true ∧
  findIn S.K (.ref (S.ca c)) "__getattribute__" = some (some (.builtin "object.__getattribute__")) ∧ findIn S.K (.ref (S.ca c)) "__getattr__" = some none ∧
  findIn S.K (.ref (S.ca c)) "__setattr__" = some (some (.builtin "object.__setattr__")) ∧ ∀ a, Zas c a = true → findIn S.K (.ref (S.ca c)) (An a) = some none
 inits : ∀ c f, Zw c = some f → findIn S.K (.ref (S.ca c)) "__init__" = some (some (.ref (S.fa f))) ∧ typeIn S.K (.ref (S.fa f)) = some (.type "function")
 meths : ∀ c a f, ZP c a = some f → findIn S.K (.ref (S.ca c)) (An a) = some (some (.ref (S.fa f))) ∧ typeIn S.K (.ref (S.fa f)) = some (.type "function")
 glob : ∃ mg mb, S.h₀.Ns mainGlobals mg ∧ S.h₀.Ns builtinsNs mb ∧
  (∀ g v, gv g = some v → ∃ u, mg (Gn g) = some u ∧ VR S ⟨[], [], []⟩ S.h₀ u v) ∧
  (mg (sO "Limits") = some (.ref (S.ca 8))) ∧
  (∀ c, c ≤ 4 → mg (Cn c) = some (.ref (S.ca c))) ∧
  (∀ x v, (x, v) ∈ [(sO "len", Value.builtin "len"), (sO "isinstance", .builtin "isinstance"), (sO "max", .builtin "max"), (sO "abs", .builtin "abs"), (sO "list", .type "list"), (sO "tuple", .type "tuple"), (sO "range", .type "range")] → mg x = none ∧ mb x = some v)
noncomputable def Snd (S : SC) (C : Ze) (n : Nat) (c : CE) : Prop := ∀ (F : Fm) (A : Ar) (W : Wd) (ρ : En) (st : St) (s : Sh), FmOk F A n → okE F.env.scope.names F.ns c = true → Inv S W st s.heap → FI S F W ρ s.heap → ev C c ρ st ≠ .no →
 wA S.M A (eval (toE F.ns c) F.env) (QE S F W ρ s (VR S) (ev C c ρ st)) (EE S F W ρ s (ev C c ρ st)) s
section
variable {S : SC} {C : Ze} {n : Nat} {F : Fm} {W : Wd} {ρ : En} {st : St} {A : Ar} {s : Sh}
theorem Zx (I : Inv S W st s.heap) (Fi : FI S F W ρ s.heap) (h : V W s.heap x v) : QE S F W ρ s V (.ok v st) x { s with toks := tk } :=
 ⟨v, st, W, rfl, s.heap, tk, rfl, .refl, I, Fi, h⟩
theorem q_same' (I : Inv S W st s.heap) (Fi : FI S F W ρ s.heap) (h : V W s.heap x v) : QE S F W ρ s V (.ok v st) x s :=
 ⟨v, st, W, rfl, s.heap, s.toks, rfl, .refl, I, Fi, h⟩
theorem ZnQ (c : Cst) (p : Pos) : Snd S C n (.cst c p) := by
 intro F A W ρ st s _ _ I Fi _
 cases c with
 | none => exact wpAny_Constant_none (q_same' I Fi .none)
 | bool b => exact wpAny_Constant_bool (q_same' I Fi (.bool b))
 | int i => exact wpAny_Constant_int (Zx I Fi (.int i _))
 | str x => exact wpAny_Constant_str (Zx I Fi (.str x _))
theorem Zb5 (h : okL nm ns i = true) : ns[i]? = some (nmE ns i) ∧ (nmE ns i == dbg) = false ∧ (nm.lookup (nmE ns i) = some .local ∨ nm.lookup (nmE ns i) = some .cell) := by
 simp only [okL, nmk, bA, decide_eq_true_eq, Bool.not_eq_true', Bool.or_eq_true, beq_iff_eq] at h
 refine ⟨?_, h.1.2, h.2⟩
 rw [nmE, List.getD_eq_getElem?_getD, List.getElem?_eq_getElem h.1.1]; rfl
theorem ZnR (i : Nat) (p : Pos) : Snd S C n (.loc i p) := by
 intro F A W ρ st s O ok I Fi hne
 refine bc fun no => ?_; obtain ⟨e1, e2, _⟩ := Zb5 ok; refine no ?_
 refine bc fun no => ?_; obtain ⟨m, N, q⟩ := Fi.ns; refine no ?_
 simp only [Zp1] at hne ⊢
 cases hv : ρ[i]? with
 | none => rw [hv] at hne; exact absurd rfl hne
 | some o =>
  cases o with
  | none => rw [hv] at hne; exact absurd rfl hne
  | some v =>
   refine bc fun no => ?_; obtain ⟨x, u, x1, x2, x3⟩ := q i v hv; refine no ?_
   rw [e1] at x1
   cases x1
   refine wpAny_Name ?_ e2
   have fin : QE S F W ρ s (VR S) (ofO (Option.join (some (some v))) st) u s := q_same' I Fi x2
   rcases x3 with ⟨k, hm⟩ | ⟨k, c, hc, hcell⟩
   ·exact wpAny_loadName_local O.kind k N hm fin
   ·exact wpAny_loadName_cell O.kind k hc hcell fin
theorem ZnS (I : Inv S W st s.heap) (h : VR S ⟨[], [], []⟩ S.h₀ u v) : VR S W s.heap u v :=
 h.mono ⟨fun b o e y y => I.base b o e, fun a m => .inr (I.fresh a m).1, W.cs, by simp⟩
theorem Zex (O : FmOk F A n) (G : Ground S) (I : Inv S W st s.heap) (ok : okG F.env.scope.names x = true)
 (h : ∀ mg, S.h₀.Ns mainGlobals mg → mg x = some u → True) (hm : ∃ mg, S.h₀.Ns mainGlobals mg ∧ mg x = some u) (q : Q u s) : wA S.M A (eval (.Name x p) F.env) Q E s := by
 refine bc fun no => ?_; obtain ⟨mg, g1, g2⟩ := hm; refine no ?_
 simp only [okG, nmk, bA, beq_iff_eq, Bool.not_eq_true'] at ok
 refine Name_function_global O.kind ok.1 (loadGlobal_global (env := F.env) (by rw [O.glob]; exact g1.keeps I.base) g2 q) ok.2
theorem ZnT (G : Ground S) (g : Nat) (p : Pos) : Snd S C n (.glb g p) := by
 intro F A W ρ st s O ok I Fi hne
 simp only [ZjT] at hne ⊢
 cases hv : gv g with
 | none => rw [hv] at hne; exact absurd rfl hne
 | some v =>
  refine bc fun no => ?_; obtain ⟨mg, mb, g1, _, g3, _⟩ := G.glob; refine no ?_
  refine bc fun no => ?_; obtain ⟨u, u1, u2⟩ := g3 g v hv; refine no ?_
  exact Zex O G I ok (fun y y y => trivial) ⟨mg, g1, u1⟩ (q_same' I Fi (ZnS I u2))
end
end
section
variable {S : SC} {C : Ze} {n : Nat} {F : Fm} {W : Wd} {ρ : En} {st : St} {A : Ar} {s : Sh} {h h' : Heap}
noncomputable def Wd.add (W : Wd) (c : List Addr) : Wd := ⟨W.cs ++ [c], W.fr, W.fa⟩
theorem ZhG : a ∈ (W.add c).own ↔ a ∈ W.own ∨ a ∈ c := by
 simp only [Wd.own, Wd.add, List.flatten_append, lA9, List.flatten_cons, List.flatten_nil, List.append_nil]
 constructor
 ·rintro ((h | h) | h)
  ·exact .inl (.inl h)
  ·exact .inr h
  ·exact .inl (.inr h)
 ·rintro ((h | h) | h)
  ·exact .inl (.inl h)
  ·exact .inr h
  ·exact .inl (.inr h)
theorem Step.add (k : ∀ b o, h.get? b = some o → h'.get? b = some o) (f : ∀ a ∈ c, h.get? a = none) : Step W (W.add c) cur h h' :=
 ⟨⟨rfl, rfl, [c], rfl⟩, ⟨fun b o e y y => k b o e, fun b o e => ⟨o, k b o e⟩, fun b o e y y => ⟨o.slots, k b o e, fun y => rfl⟩⟩, fun a m => (ZhG.mp m).imp id (f a)⟩
theorem Inv.base_dead (I : Inv S W st h) (e : h.get? a = none) : S.h₀.get? a = none := by
 cases q : S.h₀.get? a with
 | none => rfl
 | some o => rw [I.base a o q] at e; cases e
theorem Inv.addCell (I : Inv S W st h) (k : ∀ b o, h.get? b = some o → h'.get? b = some o) (f : ∀ a ∈ c, h.get? a = none ∧ ∃ o, h'.get? a = some o) (nd : c.Nodup)
 (o : OR S (W.add c) h' c mo) : Inv S (W.add c) (st ++ [mo]) h' := by
 have G : Grow W (W.add c) h h' := (Step.add (cur := []) k fun a m => (f a m).1).grow
 refine ⟨fun b o e => k _ _ (I.base b o e), by simp [Wd.add, I.len], fun l c' mo' e1 e2 => ?_, ?_, I.faf, fun a m => ?_⟩
 ·simp only [Wd.add] at e1
  by_cases hl : l < W.cs.length
  ·rw [List.getElem?_append_left hl] at e1
   rw [List.getElem?_append_left (by rw [← I.len]; exact hl)] at e2
   exact (I.cells l c' mo' e1 e2).mono G (fun b o e y => k b o e) (Z2 e1)
  ·rw [List.getElem?_append_right (by omega)] at e1
   rw [List.getElem?_append_right (by rw [← I.len]; omega)] at e2
   rw [← I.len] at e2
   cases q : l - W.cs.length with
   | zero => rw [q] at e1 e2; cases e1; cases e2; exact o
   | succ j => rw [q] at e1; simp at e1
 ·have := I.nodup
  simp only [Wd.own, Wd.add, List.flatten_append, List.flatten_cons, List.flatten_nil, List.append_nil] at this ⊢
  rw [List.nodup_append] at this ⊢
  obtain ⟨n1, n2, n3⟩ := this
  refine ⟨?_, n2, fun a ha b hb => ?_⟩
  ·rw [List.nodup_append]
   refine ⟨n1, nd, fun a ha b hb e => ?_⟩
   subst e
   obtain ⟨o, z⟩ := (I.fresh a (lA9.mpr (.inl ha))).2
   rw [(f a hb).1] at z; cases z
  ·rcases lA9.mp ha with ha | ha
   ·exact n3 a ha b hb
   ·intro e
    subst e
    obtain ⟨o, z⟩ := (I.fresh a (lA9.mpr (.inr hb))).2
    rw [(f a ha).1] at z; cases z
 ·rcases ZhG.mp m with m | m
  ·obtain ⟨o, z⟩ := (I.fresh a m).2
   exact ⟨(I.fresh a m).1, o, k _ _ z⟩
  ·exact ⟨I.base_dead (f a m).1, (f a m).2⟩
theorem Zd : ∀ b o', h.get? b = some o' → (h.push o).get? b = some o' := fun y y e => Heap.get?_push_of_some _ e
theorem Z0 : h.get? h.objs.size = none := Heap.get?_none_of_le (Nat.le_refl _)
theorem ZjY (I : Inv S W st h) : h.objs.size ∉ W.fa := fun m => (by obtain ⟨_, e⟩ := (I.fresh _ (lA9.mpr (.inr (I.faf _ m)))).2; exact Nat.lt_irrefl _ (Heap.lt_size e))
theorem Z1 (I : Inv S W st h) : h.objs.size ∉ W.own := fun m => (by obtain ⟨_, e⟩ := (I.fresh _ m).2; exact Nat.lt_irrefl _ (Heap.lt_size e))
theorem Zbd : Grow W W h (h.push o) := ⟨fun b o' e _ _ => Zd b o' e, fun y m => .inl m, [], by simp⟩
theorem Zbw (I : Inv S W st s.heap) (Fi : FI S F W ρ s.heap)
 (hV : V W (s.heap.push o) x v) : QE S F W ρ s V (.ok v st) x { s with heap := s.heap.push o, toks := tk } :=
 ⟨v, st, W, rfl, _, _, rfl, .keeps Zd, I.grow Zd, Fi.grow Zd, hV⟩
theorem Zee (I : Inv S W st h) (d : DRs W.own h vs xs) : DR W.own (h.push { cls := .type "list", data := .seq vs.toArray }) (.ref h.objs.size) (.list xs) :=
 .list (Z1 I) (Heap.get?_push_size _ rfl) (by simpa using DRs.mono (Zbd (W := W)).keep (fun y m => .inl m) d)
theorem ZfJ (I : Inv S W st h) (d : DRs W.own h vs xs) : DR W.own (h.push { cls := .type "tuple", data := .seq vs.toArray }) (.ref h.objs.size) (.tuple xs) :=
 .tuple (Z1 I) (Heap.get?_push_size _ rfl) rfl rfl (by simpa using DRs.mono (Zbd (W := W)).keep (fun y m => .inl m) d)
theorem ZdF (I : Inv S W st s.heap) (Fi : FI S F W ρ s.heap) (d : DRs W.own s.heap vs xs) :
 QE S F W ρ s (VR S) (.ok (.loc st.length) (st ++ [.list xs])) (.ref s.heap.objs.size) { s with heap := s.heap.push { cls := .type "list", data := .seq vs.toArray }, toks := tk } := by
 have hst : Step W (W.add [s.heap.objs.size]) F.cur s.heap (s.heap.push { cls := .type "list", data := .seq vs.toArray }) := .add Zd fun a m => by rw [lS9.mp m]; exact Z0
 refine ⟨_, _, W.add [s.heap.objs.size], rfl, _, _, rfl, hst, ?_, ?_, ?_⟩
 ·refine I.addCell Zd (fun a m => by rw [lS9.mp m]; exact ⟨Z0, _, Heap.get?_push_size _ rfl⟩) (by simp) ?_
  exact ⟨vs.toArray, 0, Heap.get?_push_size _ rfl, by simpa using DRs.mono hst.pers.keep hst.own d⟩
 ·exact Fi.mono hst.grow hst.ext fun b o e y => ⟨o.slots, Zd b o e⟩
 ·exact ⟨s.heap.objs.size, [], I.len ▸ List.getElem?_concat_length, rfl⟩
theorem ZjZ (I : Inv S W st s.heap) (Fi : FI S F W ρ s.heap) (t : Bool) (d : DRs W.own s.heap vs xs) :
 QE S F W ρ s (VR S) (Zbv t (.list xs) st) (.ref s.heap.objs.size) { s with heap := s.heap.push { cls := .type "list", data := .seq vs.toArray }, toks := tk } := by
 cases t with
 | true => exact ZdF I Fi d
 | false => exact Zbw I Fi (Zee I d)
end
section
variable {S : SC} {C : Ze} {n : Nat} {F : Fm} {W : Wd} {ρ : En} {st : St} {A : Ar} {s : Sh} {h h' : Heap} {E : Vl → Sh → Prop}
theorem ZhH (e : asD st (.loc l) = some d) : ∃ ys, st[l]? = some (.list ys) ∧ d = .list ys := by
 have e : (match st[l]? with | some (.list xs) => some (PyData.list xs) | _ => none) = some d := e
 cases q : st[l]? with
 | none => rw [q] at e; exact nn e rfl
 | some o => rw [q] at e; cases o with
  | list ys => cases e; exact ⟨ys, rfl, rfl⟩
  | _ => exact nn e rfl
theorem ZfK (va : VR S W h x a) (e : asD st a = some d) (nl : ∀ xs, d ≠ .list xs) : DR W.own h x d := by
 cases a with
 | d y => cases e; exact va
 | loc l =>
  obtain ⟨ys, _, z⟩ := ZhH e
  exact absurd z (nl _)
 | fn _ => exact nn e rfl
 | cls _ => exact nn e rfl
 | dic _ => cases e
theorem ZdG (va : VR S W h x a) (e : asD st a = some (.int i)) : ∃ t, x = .int i t := by
 cases ZfK va e (fun y q => by cases q); exact ⟨_, rfl⟩
theorem Zbe (va : VR S W h x a) (e : asD st a = some (.str i)) : ∃ t, x = .str i t := by
 cases ZfK va e (fun y q => by cases q); exact ⟨_, rfl⟩
theorem ZaP (I : Inv S W st h) (va : VR S W h x a) (e : asD st a = some (.list xs)) : ∃ l items n, x = .ref l ∧ h.get? l = some (listOf items n) ∧ DRs W.own h items.toList xs := by
 cases a with
 | d y =>
  cases e
  obtain ⟨a, vs, n, e1, _, e2, e3⟩ := ZdC va
  exact ⟨a, vs, n, e1, e2, e3⟩
 | loc l =>
  obtain ⟨ys, q, e⟩ := ZhH e
  cases e
  obtain ⟨a, r, e1, rfl⟩ := va
  have := I.cells l _ _ e1 q
  cases r with
  | nil => obtain ⟨items, n, z1, z2⟩ := this; exact ⟨a, items, n, rfl, z1, z2⟩
  | cons b r => cases r <;> exact this.elim
 | _ => exact nn e rfl
theorem ZfL (I : Inv S W st h) (va : VR S W h x a) (e : asD st a = some d) : ∃ as, Reads h x d as := by
 by_cases hl : ∃ xs, d = .list xs
 ·obtain ⟨xs, rfl⟩ := hl
  obtain ⟨l, items, n, rfl, e1, r⟩ := ZaP I va e
  obtain ⟨as, q⟩ := r.reads
  exact ⟨_, .list e1 rfl rfl q⟩
 ·exact (ZfK va e fun xs q => hl ⟨xs, q⟩).reads
theorem Zey (x : Int) : Zn x = true ↔ -1000000000 ≤ x ∧ x ≤ 1000000000 := (Bool.and_eq_true_iff ..).trans (and_congr decide_eq_true_iff decide_eq_true_iff)
theorem Zez (h : Zn x = true) : x.natAbs ≤ 1000000000 := by
 simp only [Zn, bA, decide_eq_true_eq] at h; omega
theorem Zv (h : Zc n = true) : n ≤ 4096 := by simpa [Zc] using h
theorem Zcw (h : Zn x = true) : Builtin.Int.intBits x ≤ 64 := by
 have := Zez h
 unfold Builtin.Int.intBits
 split
 ·exact Nat.zero_le _
 ·by_cases h0 : x.natAbs = 0
  ·rw [h0]; decide
  ·have h2 : x.natAbs.log2 < 41 := (Nat.log2_lt h0).mpr (Nat.lt_of_le_of_lt this (by decide))
   exact Nat.le_trans h2 (by decide)
theorem ZeA (a : Array Nat) : ∀ (n : Nat) (acc : Array Nat), ((List.replicate n a).foldl (fun x y => x ++ y) acc).toList = acc.toList ++ (List.replicate n a.toList).flatten
 | 0, acc => by simp
 | n + 1, acc => by
  rw [List.replicate_succ, List.foldl_cons, ZeA a n, List.replicate_succ, List.flatten_cons]
  simp
theorem ZdH (a : Array Vl) : ∀ (n : Nat) (acc : Array Vl), ((List.replicate n a).foldl (fun x y => x ++ y) acc).toList = acc.toList ++ (List.replicate n a.toList).flatten
 | 0, acc => by simp
 | n + 1, acc => by
  rw [List.replicate_succ, List.foldl_cons, ZdH a n, List.replicate_succ, List.flatten_cons]
  simp
theorem ZnU {n : Int} (h1 : x.length = 1) : Txt.mul x n = Zdh x n.toNat := by
 unfold Txt.mul Zdh
 by_cases c : n < 1
 ·rw [if_pos c, show n.toNat = 0 from Int.toNat_of_nonpos (Int.lt_add_one_iff.mp c)]; rfl
 ·rw [if_neg c]
  by_cases d : n = 1
  ·subst d
   rw [if_pos (by simp)]
   simp
  ·rw [if_neg (by simp [d, h1])]
   congr 1
   apply Array.ext'
   rw [ZeA]; simp
theorem mul_ok {n : Int} (h1 : x.length = 1) (h2 : Zn n = true) (h3 : n.toNat ≤ 4096) : MulOk x n := by
 have b := (Zey n).mp h2
 refine ⟨?_, fun z y => ?_, fun z y => ?_⟩
 ·exact Bool.or_eq_false_iff.mpr ⟨decide_eq_false (Int.not_lt.mpr (Int.le_trans (by decide) b.1)), decide_eq_false (Int.not_le.mpr (Int.lt_of_le_of_lt b.2 (by decide)))⟩
 ·rw [h1]
  intro q
  exact absurd q (Int.not_lt.mpr (show (1 : Int) ≤ (2 ^ 63 - 1) / n from Int.le_ediv_of_mul_le (Int.not_lt.mp z) (by rw [Int.one_mul]; exact Int.le_trans b.2 (by decide))))
 ·rw [h1]
  unfold Builtin.Str.tooLong
  simp [sizeLine]; exact Int.le_trans (Int.toNat_le.mp h3) (by decide)
inductive BinC : Operator → PD → PD → PD → Prop
 | addI {x y} : BinC .Add (.int x) (.int y) (.int (x + y))
 | addS {x y} (h : x.length + y.length ≤ 4096) : BinC .Add (.str x) (.str y) (.str (x ++ y))
 | addL {x y} (h : x.length + y.length ≤ 4096) : BinC .Add (.list x) (.list y) (.list (x ++ y))
 | subI {x y} : BinC .Sub (.int x) (.int y) (.int (x - y))
 | mulI {x y} (h : Zn x = true) : BinC .Mult (.int x) (.int y) (.int (x * y))
 | rep {x n} (h1 : x.length = 1) (h2 : Zn n = true) (h3 : n.toNat ≤ 4096) : BinC .Mult (.str x) (.int n) (.str (Zdh x n.toNat))
 | repL {x n} (h2 : Zn n = true) (h3 : n.toNat ≤ 4096) : BinC .Mult (.list [x]) (.int n) (.list (List.replicate n.toNat x))
 | mod {x y} (h : ¬ y = 0) : BinC .Mod (.int x) (.int y) (.int (x.fmod y))
 | fdiv {x y} (h : ¬ y = 0) (h2 : Zn y = true) : BinC .FloorDiv (.int x) (.int y) (.int (x.fdiv y))
 | shl : BinC .LShift (.int 1) (.int 31) (.int 2147483648)
theorem ZF {α : Type} {x r : α} (e : (if c = true then some x else none) = some r) : c = true ∧ x = r := by
 cases c with
 | true => exact ⟨rfl, Option.some.inj e⟩
 | false => exact nn e rfl
theorem Zfh {f : Int → Int → Option PD} {a b z : PD} (e : (match a, b with | .int x, .int y => f x y | _, _ => none) = some z) : ∃ x y, a = .int x ∧ b = .int y ∧ f x y = some z := by
 cases a with
 | int x => cases b with
  | int y => exact ⟨x, y, rfl, rfl, e⟩
  | _ => exact nn e rfl
 | _ => exact nn e rfl
theorem Zs1 {op : Operator} {a b z : PD} (e : ZE op a b = some z) : BinC op a b z := by
 cases op with
 | Add =>
  cases a with
  | int x => cases b with
   | int y => cases e; exact .addI
   | _ => exact nn e rfl
  | str x => cases b with
   | str y => obtain ⟨h, rfl⟩ := ZF (c := Zc (x.length + y.length)) e; exact .addS (Zv h)
   | _ => exact nn e rfl
  | list x => cases b with
   | list y => obtain ⟨h, rfl⟩ := ZF (c := Zc (x.length + y.length)) e; exact .addL (Zv h)
   | _ => exact nn e rfl
  | _ => exact nn e rfl
 | Sub =>
  obtain ⟨x, y, rfl, rfl, e⟩ := Zfh e
  cases e; exact .subI
 | Mult =>
  cases a with
  | int x => cases b with
   | int y => obtain ⟨h, rfl⟩ := ZF (c := Zn x && Zn y) e; exact .mulI (Bool.and_eq_true_iff.mp h).1
   | _ => exact nn e rfl
  | str x => cases b with
   | int n =>
    obtain ⟨h, rfl⟩ := ZF (c := (x.length == 1) && (Zn n && Zc n.toNat)) e
    obtain ⟨h1, h2⟩ := Bool.and_eq_true_iff.mp h
    obtain ⟨h2, h3⟩ := Bool.and_eq_true_iff.mp h2
    exact .rep (eq_of_beq h1) h2 (Zv h3)
   | _ => exact nn e rfl
  | list xs => cases xs with
   | nil => cases b <;> exact nn e rfl
   | cons x r => cases r with
    | nil => cases b with
     | int n =>
      obtain ⟨h, rfl⟩ := ZF (c := Zn n && Zc n.toNat) e
      exact .repL (Bool.and_eq_true_iff.mp h).1 (Zv (Bool.and_eq_true_iff.mp h).2)
     | _ => exact nn e rfl
    | cons _ _ => cases b <;> exact nn e rfl
  | _ => exact nn e rfl
 | Mod =>
  obtain ⟨x, y, rfl, rfl, q⟩ := Zfh e
  by_cases h : y = 0
  ·exact nn q (if_pos h)
  ·rw [if_neg h] at q; cases q; exact .mod h
 | FloorDiv =>
  obtain ⟨x, y, rfl, rfl, q⟩ := Zfh e
  by_cases h : y = 0
  ·exact nn q (if_pos h)
  ·rw [if_neg h] at q
   obtain ⟨h2, rfl⟩ := ZF q
   exact .fdiv h (Bool.and_eq_true_iff.mp h2).2
 | LShift =>
  obtain ⟨x, y, rfl, rfl, q⟩ := Zfh e
  by_cases h : x = 1 ∧ y = 31
  ·rw [if_pos h] at q; obtain ⟨rfl, rfl⟩ := h; cases q; exact .shl
  ·exact nn q (if_neg h)
 | _ => exact nn e rfl
theorem ZrV (ne : Zcc op t a b st ≠ .no) : ∃ da db z, asD st a = some da ∧ asD st b = some db ∧ BinC op da db z ∧ Zcc op t a b st = Zbv t z st := by
 have e0 : Zcc op t a b st = (match asD st a, asD st b with | some x, some y => (match ZE op x y with | some z => Zbv t z st | none => .no) | _, _ => .no) := rfl
 rw [e0] at ne ⊢
 cases ea : asD st a with
 | none => rw [ea] at ne; exact absurd rfl ne
 | some da => cases eb : asD st b with
  | none => rw [ea, eb] at ne; exact absurd rfl ne
  | some db => cases ez : ZE op da db with
   | none => rw [ea, eb] at ne; exact absurd (congrArg (fun o => match o with | some z => Zbv t z st | none => .no) ez) ne
   | some z => exact ⟨da, db, z, rfl, rfl, Zs1 ez, congrArg (fun o => match o with | some z => Zbv t z st | none => .no) ez⟩
theorem Zln {items : Array Vl} (d : DRs own h items.toList [x]) : ∃ v, items.toList = [v] ∧ DR own h v x := by
 generalize items.toList = l at d
 cases d with
 | cons dv t => cases t; exact ⟨_, rfl, dv⟩
theorem Zlo {v : Vl} (hv : items.toList = [v]) (k : Nat) : (List.foldl (fun x1 x2 => x1 ++ x2) #[] (List.replicate k items)) = (List.replicate k v).toArray := by
 apply Array.ext'
 rw [ZdH, hv]
 show [] ++ (List.replicate k [v]).flatten = List.replicate k v
 rw [List.nil_append]
 induction k with
 | zero => rfl
 | succ m ih => rw [List.replicate_succ, List.replicate_succ, List.flatten_cons, ih]; rfl
theorem ZnV (I : Inv S W st s.heap) (Fi : FI S F W ρ s.heap) (e1 : s.heap.get? l = some (listOf items m)) (d : DRs W.own s.heap items.toList [px]) (h2 : Zn k = true) (h3 : k.toNat ≤ 4096) :
 wA S.M A (binaryOp .Mult (.ref l) (.int k u)) (QE S F W ρ s (VR S) (Zbv t (.list (List.replicate k.toNat px)) st)) E s := by
 obtain ⟨v, hv, dv⟩ := Zln d
 have hs := (Zey k).mp h2
 have h1 : items.size = 1 := by rw [← Array.length_toList, hv]; rfl
 have hne : ¬ items.isEmpty = true := fun z => by rw [Array.isEmpty_iff_size_eq_zero, h1] at z; cases z
 refine wpAny_binaryOp_repeat_ref (T := "list") (U := "int") (by decide) ⟨_, e1, rfl⟩ (fun s' => typeIs_int s' _ _) noFill_list_mul PySem.F.fills_int_mul PySem.F.slot_int_rmul repeat_list PySem.F.slot_int_index.lookup
  (call_meets PySem.F.slot_int_rmul (typeIs_int s _ _) PySem.F.entry_int_rmul (PySem.F.args_int_rmul_2 _ _) (int___rmul___int_list _ _ l items m)
  ⟨e1, rfl, ⟨_, e1, rfl⟩, call_meets PySem.F.slot_list_mul ⟨_, e1, rfl⟩ PySem.F.entry_list_mul (PySem.F.args_list_mul_2 _ _)
   (AutoListH.list___mul___list_int_3 l items m _ _ (by simp [Builtin.List.listFitsIndex]; exact ⟨Int.le_trans (by decide) hs.1, Int.lt_of_le_of_lt hs.2 (by decide)⟩) (by rw [h1, Nat.one_mul]; exact Nat.not_lt.mpr (Nat.le_trans h3 (by decide))) (by rw [h1]; simp [Builtin.List.listTooLong, sizeLine]; exact Int.le_trans (Int.toNat_le.mp h3) (by decide)))
  ⟨e1, ?_⟩⟩)
 rw [if_neg hne, Zlo hv]
 exact ZjZ I Fi t (DRs.rep dv _)
theorem Zqb (R : Room A n) (I : Inv S W st s.heap) (Fi : FI S F W ρ s.heap) {t : Bool} (va : VR S W s.heap x a) (vb : VR S W s.heap y b) (ne : Zcc op t a b st ≠ .no) :
 wA S.M A (binaryOp op x y) (QE S F W ρ s (VR S) (Zcc op t a b st)) E s := by
 obtain ⟨da, db, z, ea, eb, c, ez⟩ := ZrV ne
 rw [ez] at ne ⊢
 have intEnd : ∀ {i : Int} {tk}, Zbv t (.int i) st ≠ .no → QE S F W ρ s (VR S) (Zbv t (.int i) st) (.int i tk) { s with toks := s.toks + 1 } := fun {i tk} ne => by
  cases t with
  | true => exact absurd rfl ne
  | false => exact Zx I Fi (.int _ _)
 have strEnd : ∀ {i : Str} {tk tk'}, Zbv t (.str i) st ≠ .no → QE S F W ρ s (VR S) (Zbv t (.str i) st) (.str i tk) { s with toks := tk' } := fun {i tk tk'} ne => by
  cases t with
  | true => exact absurd rfl ne
  | false => exact Zx I Fi (.str _ _)
 have ii : ∀ {i j : Int}, asD st a = some (.int i) → asD st b = some (.int j) → ∃ t u, x = .int i t ∧ y = .int j u := fun e1 e2 => by
  obtain ⟨t, rfl⟩ := ZdG va e1
  obtain ⟨u, rfl⟩ := ZdG vb e2
  exact ⟨t, u, rfl, rfl⟩
 cases c with
 | addI => obtain ⟨_, _, rfl, rfl⟩ := ii ea eb; exact PyProof.Rows.add_int (intEnd ne)
 | addS h =>
  obtain ⟨_, rfl⟩ := Zbe va ea
  obtain ⟨_, rfl⟩ := Zbe vb eb
  exact PyProof.Rows.add_str (fun t' tk => strEnd ne) (Nat.le_trans h (by decide))
 | addL h =>
  obtain ⟨l, items, n1, rfl, e1, d1⟩ := ZaP I va ea
  obtain ⟨l2, items2, n2, rfl, e2, d2⟩ := ZaP I vb eb
  refine concat_meets ⟨_, e1, rfl⟩ ⟨_, e2, rfl⟩ noFill_list_add seq_list_add PySem.F.slot_list_add PySem.F.entry_list_add (PySem.F.args_list_add_2 _ _) (list_addW l l2 items items2 n1 n2 none none #[] #[] ?_) ⟨e1, e2, ?_⟩
  ·rw [← Array.length_toList, ← Array.length_toList, d1.length, d2.length]
   exact Nat.le_trans h (by decide)
  ·have := ZjZ (tk := s.toks) I Fi t (d1.append d2)
   rw [show (items.toList ++ items2.toList).toArray = items ++ items2 from by simp] at this
   exact this
 | subI => obtain ⟨_, _, rfl, rfl⟩ := ii ea eb; exact PyProof.Rows.sub_int' (intEnd ne)
 | mulI h => obtain ⟨_, _, rfl, rfl⟩ := ii ea eb; exact PyProof.Rows.mul_int (intEnd ne) (IntMulOk.of_left (Zcw h))
 | rep h1 h2 h3 =>
  obtain ⟨_, rfl⟩ := Zbe va ea
  obtain ⟨_, rfl⟩ := ZdG vb eb
  refine SB.mul (mul_ok h1 h2 h3) fun t' k => ?_
  rw [ZnU h1]
  exact strEnd ne
 | repL h2 h3 =>
  obtain ⟨l, items, n1, rfl, e1, d1⟩ := ZaP I va ea
  obtain ⟨_, rfl⟩ := ZdG vb eb
  exact ZnV I Fi e1 d1 h2 h3
 | mod h => obtain ⟨_, _, rfl, rfl⟩ := ii ea eb; exact PyProof.Rows.mod_int' h (intEnd ne)
 | fdiv h h2 =>
  obtain ⟨_, _, rfl, rfl⟩ := ii ea eb
  have := Zez h2
  exact PyProof.Rows.floordiv_int h (intEnd ne) (.inl (PyProof.noPylong_small (by omega)))
 | shl => obtain ⟨_, _, rfl, rfl⟩ := ii ea eb; exact PyProof.Rows.lshift_int_small (by decide) (by decide) (by decide) (intEnd ne)
theorem Zb6 (h : shp d = true) : d.canLay0 = true ∧ d.depth ≤ 16 := by simpa [shp] using h
theorem ZfM (R : Room A n) (h : a ≤ 20) : A.units + min a b + 50 < cLine :=
 Nat.lt_of_lt_of_le (m := A.units + 10 * n + 500) (Nat.lt_of_le_of_lt (Nat.add_le_add_right (Nat.add_le_add (Nat.le_add_right A.units (10 * n)) (Nat.le_trans (Nat.min_le_left a b) h)) 50) (Nat.add_lt_add_left (by decide : 20 + 50 < 500) _)) R.units
theorem ZeB (R : Room A n) (h : a ≤ 20) : A.units + 1 + min a b < cLine := Nat.lt_of_le_of_lt (Nat.le_trans (Nat.le_of_eq (Nat.add_right_comm ..)) (Nat.add_le_add_left (by decide : 1 ≤ 50) _)) (ZfM R h)
theorem ZfN (e : (if (shp a && shp b) = true then some (PyData.eqv a b) else none) = some r) : shp a = true ∧ shp b = true ∧ PyData.eqv a b = r := by
 by_cases h : (shp a && shp b) = true
 ·rw [if_pos h] at e
  exact ⟨(Bool.and_eq_true_iff.mp h).1, (Bool.and_eq_true_iff.mp h).2, Option.some.inj e⟩
 ·exact nn e (if_neg h)
theorem eqC (e : eqD a b = some r) : (∃ x y, a = .str x ∧ b = .str y ∧ (x == y) = r) ∨ (shp a = true ∧ shp b = true ∧ PyData.eqv a b = r) := by
 cases a with
 | int x => cases b with
  | int y => exact .inr ⟨rfl, rfl, Option.some.inj e⟩
  | _ => exact .inr (ZfN e)
 | str x => cases b with
  | str y => exact .inl ⟨x, y, rfl, rfl, Option.some.inj e⟩
  | _ => exact .inr (ZfN e)
 | _ => exact .inr (ZfN e)
theorem ZmW (R : Room A n) (I : Inv S W st s.heap) (va : VR S W s.heap x a) (vb : VR S W s.heap y b) (ea : asD st a = some da) (eb : asD st b = some db) (er : eqD da db = some r) :
 (∀ {Q : Vl → Sh → Prop}, Q (.bool r) s → wA S.M A (compareOp .Eq x y) Q E s) ∧ (∀ {Q : Vl → Sh → Prop}, Q (.bool (!r)) s → wA S.M A (compareOp .NotEq x y) Q E s) := by
 rcases eqC er with ⟨_, _, rfl, rfl, rfl⟩ | ⟨h1, h2, rfl⟩
 ·obtain ⟨_, rfl⟩ := Zbe va ea
  obtain ⟨_, rfl⟩ := Zbe vb eb
  exact ⟨fun q => PyProof.Rows.eq_str q, fun q => PyProof.Rows.ne_str q⟩
 ·obtain ⟨a1, a2⟩ := Zb6 h1
  obtain ⟨b1, b2⟩ := Zb6 h2
  obtain ⟨as, ra⟩ := ZfL I va ea
  obtain ⟨bs, rb⟩ := ZfL I vb eb
  have := Nat.lt_of_le_of_lt (Nat.le_add_right _ 50) (ZfM R (a := da.depth) (b := db.depth) (Nat.le_trans a2 (by decide)))
  exact ⟨fun q => SeqAt.compareEq_reads ra rb a1 b1 this q, fun q => SeqAt.compareNe_reads ra rb a1 b1 this q⟩
theorem isC (e : isD a b = some r) : b = .d .none := by
 cases b with
 | d y => cases y with
  | none => rfl
  | _ => exact nn e rfl
 | _ => exact nn e rfl
theorem ZrW (d : DR own h x y) : isD (.d y) (.d .none) = some (x == .none) := by cases d <;> rfl
theorem ZmX (va : VR S W h x a) (e : isD a (.d .none) = some r) : (x == .none) = r := by
 refine Option.some.inj (Eq.trans (Eq.symm ?_) e)
 cases a with
 | d y => exact ZrW va
 | loc l => obtain ⟨_, _, _, rfl⟩ := va; rfl
 | fn f => exact congrArg (fun x => some (x == Value.none)) (Eq.symm va) |>.symm ▸ rfl
 | cls f => exact congrArg (fun x => some (x == Value.none)) (Eq.symm va) |>.symm ▸ rfl
 | dic es => obtain ⟨_, rfl, _⟩ := va; rfl
theorem ZnW (a : All2 (fun (kv : Str × Vl) (e : DK × MW) => e.1 = .s kv.1 ∧ WR S own h kv.2 e.2) kvs es) :
 match Zq (.s k) es with | some w => ∃ v, valueAt kvs k = some v ∧ WR S own h v w | none => valueAt kvs k = none := by
 induction a with
 | nil => rfl
 | @cons x1 x2 kvs es z t ih =>
  obtain ⟨k', v⟩ := x1
  obtain ⟨q, w⟩ := x2
  obtain ⟨e, hw⟩ := z
  dsimp only at e hw
  subst e
  rw [Zea]; unfold valueAt
  by_cases hk : k' = k
  ·subst hk
   simp only [if_pos, List.find?_cons, decide_true, Option.map_some]
   exact ⟨v, rfl, hw⟩
  ·rw [if_neg (fun z => by cases z; exact hk rfl)]
   simp only [List.find?_cons, decide_eq_false hk]
   exact ih
theorem ZnX (a : All2 (fun (kv : Int × Vl) (e : DK × MW) => e.1 = .i kv.1 ∧ WR S own h kv.2 e.2) kvs es) :
 match Zq (.i k) es with | some w => ∃ v, valueAt kvs k = some v ∧ WR S own h v w | none => valueAt kvs k = none := by
 induction a with
 | nil => rfl
 | @cons x1 x2 kvs es z t ih =>
  obtain ⟨k', v⟩ := x1
  obtain ⟨q, w⟩ := x2
  obtain ⟨e, hw⟩ := z
  dsimp only at e hw
  subst e
  rw [Zea]; unfold valueAt
  by_cases hk : k' = k
  ·subst hk
   simp only [if_pos, List.find?_cons, decide_true, Option.map_some]
   exact ⟨v, rfl, hw⟩
  ·rw [if_neg (fun z => by cases z; exact hk rfl)]
   simp only [List.find?_cons, decide_eq_false hk]
   exact ih
theorem fit_int {R : Vl → MW → Prop} (kf : Zar (.s y) es = true) (aa : All2 (fun (kv : Int × Vl) (e : DK × MW) => e.1 = .i kv.1 ∧ R kv.2 e.2) kvs es) : False := by
 induction aa with
 | nil => exact nf kf rfl
 | @cons x1 x2 kvs es h t IH =>
  obtain ⟨k, v⟩ := x1
  obtain ⟨q, w⟩ := x2
  have z1 : q = DK.i k := h.1
  subst z1
  cases kf
theorem ZnY {R : Vl → MW → Prop} (kf : Zar (.i y) es = true) (aa : All2 (fun (kv : Str × Vl) (e : DK × MW) => e.1 = .s kv.1 ∧ R kv.2 e.2) kvs es) : False := by
 induction aa with
 | nil => exact nf kf rfl
 | @cons x1 x2 kvs es h t IH =>
  obtain ⟨k, v⟩ := x1
  obtain ⟨q, w⟩ := x2
  have z1 : q = DK.s k := h.1
  subst z1
  cases kf
theorem Zj0 (a : All2 (fun (kv : Str × Vl) (e : DK × MW) => e.1 = .s kv.1 ∧ WR S own h kv.2 e.2) kvs es) : (valueAt kvs k).isSome = (Zq (.s k) es).isSome := by
 have z := ZnW (k := k) a
 cases e : Zq (.s k) es with
 | some w => rw [e] at z; obtain ⟨v, z1, _⟩ := z; rw [z1]; rfl
 | none => rw [e] at z; exact congrArg Option.isSome z
theorem Zj1 (a : All2 (fun (kv : Int × Vl) (e : DK × MW) => e.1 = .i kv.1 ∧ WR S own h kv.2 e.2) kvs es) : (valueAt kvs k).isSome = (Zq (.i k) es).isSome := by
 have z := ZnX (k := k) a
 cases e : Zq (.i k) es with
 | some w => rw [e] at z; obtain ⟨v, z1, _⟩ := z; rw [z1]; rfl
 | none => rw [e] at z; exact congrArg Option.isSome z
inductive InC : MV → MV → Bool → Prop
 | tup {x ys} (h1 : shp x = true) (h2 : shp (.tuple ys) = true) : InC (.d x) (.d (.tuple ys)) (ys.any fun y => PyData.eqv y x)
 | lst {x ys} (h1 : shp x = true) (h2 : shp (.list ys) = true) : InC (.d x) (.d (.list ys)) (ys.any fun y => PyData.eqv y x)
 | dicS {k es} (kf : Zar (.s k) es = true) : InC (.d (.str k)) (.dic es) (Zq (.s k) es).isSome
 | dicI {k es} (kf : Zar (.i k) es = true) : InC (.d (.int k)) (.dic es) (Zq (.i k) es).isSome
theorem ZcW {α : Type} {x r : α} (e : (if c = true then some x else none) = some r) : c = true ∧ x = r := by
 cases c with
 | true => exact ⟨rfl, Option.some.inj e⟩
 | false => exact nn e rfl
theorem inC {a b : MV} {r : Bool} (e : inD a b = some r) : InC a b r := by
 cases a with
 | d x => cases b with
  | d y => cases y with
   | tuple ys =>
    obtain ⟨h, rfl⟩ := ZcW (c := shp x && shp (.tuple ys)) e
    exact .tup (Bool.and_eq_true_iff.mp h).1 (Bool.and_eq_true_iff.mp h).2
   | list ys =>
    obtain ⟨h, rfl⟩ := ZcW (c := shp x && shp (.list ys)) e
    exact .lst (Bool.and_eq_true_iff.mp h).1 (Bool.and_eq_true_iff.mp h).2
   | _ => exact nn e rfl
  | dic es => cases x with
   | str k => obtain ⟨h, rfl⟩ := ZcW (c := Zar (.s k) es) e; exact .dicS h
   | int k => obtain ⟨h, rfl⟩ := ZcW (c := Zar (.i k) es) e; exact .dicI h
   | _ => exact nn e rfl
  | _ => exact nn e rfl
 | _ => exact nn e rfl
theorem ZmY (R : Room A n) (I : Inv S W st s.heap) (va : VR S W s.heap x a) (vb : VR S W s.heap y b) (er : inD a b = some r) :
 (∀ {Q : Vl → Sh → Prop}, (∀ tk, Q (.bool r) { s with toks := tk }) → wA S.M A (compareOp .In x y) Q E s) ∧ (∀ {Q : Vl → Sh → Prop}, (∀ tk, Q (.bool (!r)) { s with toks := tk }) → wA S.M A (compareOp .NotIn x y) Q E s) := by
 cases inC er with
 | @tup dx ys h1 h2 =>
  obtain ⟨a1, a2⟩ := Zb6 h1
  obtain ⟨b1, b2⟩ := Zb6 h2
  obtain ⟨as, ra⟩ := DR.reads va
  obtain ⟨bs, rb⟩ := DR.reads vb
  have b2 : PyData.depthAll ys + 1 ≤ 16 := b2
  have := ZeB R (a := PyData.depthAll ys) (b := dx.depth) (Nat.le_trans (Nat.le_of_succ_le b2) (by decide))
  exact ⟨fun q => SeqAt.in_tuple_reads rb ra b1 a1 this (q s.toks), fun q => SeqAt.notIn_tuple_reads rb ra b1 a1 this (q s.toks)⟩
 | @lst dx ys h1 h2 =>
  obtain ⟨a1, a2⟩ := Zb6 h1
  obtain ⟨b1, b2⟩ := Zb6 h2
  obtain ⟨as, ra⟩ := DR.reads va
  obtain ⟨bs, rb⟩ := DR.reads vb
  have b2 : PyData.depthAll ys + 1 ≤ 16 := b2
  have := ZeB R (a := PyData.depthAll ys) (b := dx.depth) (Nat.le_trans (Nat.le_of_succ_le b2) (by decide))
  exact ⟨fun q => SeqAt.in_list_reads rb ra b1 a1 this (q s.toks), fun q => SeqAt.notIn_list_reads rb ra b1 a1 this (q s.toks)⟩
 | @dicS i es kf =>
  obtain ⟨d, rfl, _, ns, hd⟩ := vb
  have ns' : (d == sysModules) = false := beq_eq_false_iff_ne.mpr ns
  obtain ⟨t, rfl⟩ : ∃ t, x = .str i t := by cases va; exact ⟨_, rfl⟩
  rcases hd with ⟨kvs, hd, q⟩ | ⟨kvs, hd, q⟩
  ·exact ⟨fun qq => wpAny_in_of (strKind_is S.prog S.w i t) ns' hd.mapOf (by rw [Zj0 q]; exact qq _), fun qq => wpAny_notIn_of (strKind_is S.prog S.w i t) ns' hd.mapOf (by rw [Zj0 q]; exact qq _)⟩
  ·exact (fit_int kf q).elim
 | @dicI i es kf =>
  obtain ⟨d, rfl, _, ns, hd⟩ := vb
  have ns' : (d == sysModules) = false := beq_eq_false_iff_ne.mpr ns
  obtain ⟨t, rfl⟩ : ∃ t, x = .int i t := by cases va; exact ⟨_, rfl⟩
  rcases hd with ⟨kvs, hd, q⟩ | ⟨kvs, hd, q⟩
  ·exact (ZnY kf q).elim
  ·exact ⟨fun qq => wpAny_in_of (intKind_is S.prog S.w i t) ns' hd.mapOf (by rw [Zj1 q]; exact qq _), fun qq => wpAny_notIn_of (intKind_is S.prog S.w i t) ns' hd.mapOf (by rw [Zj1 q]; exact qq _)⟩
theorem Zlp {f : Int → Int → Bool} {a b : MV} (e : (match a, b with | .d (.int x), .d (.int y) => some (f x y) | _, _ => none) = some r) : ∃ x y, a = .d (.int x) ∧ b = .d (.int y) ∧ f x y = r := by
 cases a with
 | d x => cases x with
  | int x => cases b with
   | d y => cases y with
    | int y => exact ⟨x, y, rfl, rfl, Option.some.inj e⟩
    | _ => exact nn e rfl
   | _ => exact nn e rfl
  | _ => exact nn e rfl
 | _ => exact nn e rfl
theorem ltC {a b : MV} (e : (match a, b with | .d x, .d y => ltD x y | _, _ => none) = some r) : (∃ x y, a = .d (.int x) ∧ b = .d (.int y) ∧ decide (x < y) = r) ∨ ∃ x y : Str, a = .d (.str x) ∧ b = .d (.str y) ∧ decide (x.cps.toList < y.cps.toList) = r := by
 cases a with
 | d x => cases b with
  | d y => cases x with
   | int x => cases y with
    | int y => exact .inl ⟨x, y, rfl, rfl, Option.some.inj e⟩
    | _ => exact nn e rfl
   | str x => cases y with
    | str y => exact .inr ⟨x, y, rfl, rfl, Option.some.inj e⟩
    | _ => exact nn e rfl
   | _ => exact nn e rfl
  | _ => exact nn e rfl
 | _ => exact nn e rfl
theorem eq2 (e : ((asD st a).bind fun x => (asD st b).bind fun y => eqD x y) = some r) : ∃ da db, asD st a = some da ∧ asD st b = some db ∧ eqD da db = some r := by
 obtain ⟨da, ea, e⟩ := Option.bind_eq_some_iff.mp e
 obtain ⟨db, eb, e⟩ := Option.bind_eq_some_iff.mp e
 exact ⟨da, db, ea, eb, e⟩
theorem Zdk (e : o.map not = some r) : ∃ r', o = some r' ∧ (!r') = r := Option.map_eq_some_iff.mp e
theorem ZcX (va : DR own h x (.int i)) (vb : DR own' h' y (.int j)) : ∃ t u, x = .int i t ∧ y = .int j u := by cases va; cases vb; exact ⟨_, _, rfl, rfl⟩
theorem ZdI (R : Room A n) (I : Inv S W st s.heap) {op : CmpOp} {a b : MV} (va : VR S W s.heap x a) (vb : VR S W s.heap y b) (er : Zt op st a b = some r) (q : ∀ tk, Q (.bool r) { s with toks := tk }) :
 wA S.M A (compareOp op x y) Q E s := by
 cases op with
 | Eq =>
  obtain ⟨da, db, ea, eb, e⟩ := eq2 er
  exact (ZmW R I va vb ea eb e).1 (q s.toks)
 | NotEq =>
  obtain ⟨r', e, rfl⟩ := Zdk er
  obtain ⟨da, db, ea, eb, e⟩ := eq2 e
  exact (ZmW R I va vb ea eb e).2 (q s.toks)
 | Lt =>
  rcases ltC er with ⟨i, j, rfl, rfl, rfl⟩ | ⟨i, j, rfl, rfl, rfl⟩
  ·obtain ⟨t, u, rfl, rfl⟩ := ZcX va vb
   exact PyProof.Rows.lt_int (q s.toks)
  ·cases va; cases vb; exact PyProof.Rows.lt_str (q s.toks)
 | LtE =>
  obtain ⟨i, j, rfl, rfl, rfl⟩ := Zlp er
  obtain ⟨t, u, rfl, rfl⟩ := ZcX va vb
  exact PyProof.Rows.le_int (q s.toks)
 | Gt =>
  obtain ⟨i, j, rfl, rfl, rfl⟩ := Zlp er
  obtain ⟨t, u, rfl, rfl⟩ := ZcX va vb
  exact PyProof.Rows.gt_int (q s.toks)
 | GtE =>
  obtain ⟨i, j, rfl, rfl, rfl⟩ := Zlp er
  obtain ⟨t, u, rfl, rfl⟩ := ZcX va vb
  exact PyProof.Rows.ge_int (q s.toks)
 | Is =>
  have er : isD a b = some r := er
  cases isC er
  cases vb
  exact is_none ((ZmX va er).symm ▸ q s.toks)
 | IsNot =>
  obtain ⟨r', e, rfl⟩ := Zdk er
  cases isC e
  cases vb
  exact isNot_none ((ZmX va e).symm ▸ q s.toks)
 | In => exact (ZmY R I va vb er).1 q
 | NotIn =>
  obtain ⟨r', e, rfl⟩ := Zdk er
  exact (ZmY R I va vb e).2 q
end
noncomputable def VB : Wd → Heap → Bool → Bool → Prop := fun _ _ x v => x = v
noncomputable def Z9 (S : SC) (C : Ze) (n : Nat) (c : CE) : Prop := ∀ (F : Fm) (A : Ar) (W : Wd) (ρ : En) (st : St) (s : Sh), FmOk F A n → okE F.env.scope.names F.ns c = true → Inv S W st s.heap → FI S F W ρ s.heap → evT C c ρ st ≠ .no →
 wA S.M A (isTrue (toE F.ns c) F.env (eval (toE F.ns c) F.env)) (QE S F W ρ s VB (evT C c ρ st)) (EE S F W ρ s (evT C c ρ st)) s
noncomputable def ZaW (S : SC) (C : Ze) (n : Nat) (c : CL) : Prop := ∀ (F : Fm) (A : Ar) (W : Wd) (ρ : En) (st : St) (s : Sh), FmOk F A n → Zu F.env.scope.names F.ns c = true → Inv S W st s.heap → FI S F W ρ s.heap → evL C c ρ st ≠ .no → ∀ (p : Pos),
 wA S.M A (spliced (backTo p (starEach (toL F.ns c) F.env))) (QE S F W ρ s (fun W h => All2 (VR S W h)) (evL C c ρ st)) (EE S F W ρ s (evL C c ρ st)) s
section
variable {S : SC} {C : Ze} {n : Nat} {F : Fm} {W : Wd} {ρ : En} {st : St} {A : Ar} {s : Sh} {h h' : Heap}
theorem Zh {α β : Type} {r : RV α} {f : α → St → RV β} (ne : r.bind f ≠ .no) : r ≠ .no := fun e => ne (by rw [e]; rfl)
theorem Zf {α β : Type} {r : RV α} {f : α → St → RV β} (ne : r.bind f ≠ .no) {v : α} {st : St} (e : r = .ok v st) : f v st ≠ .no := fun z => ne (by rw [e]; exact z)
theorem ZbI {W W' : Wd} (G : Grow W W' h h') {vs : List Vl} {xs : List MV} (a : All2 (VR S W h) vs xs) : All2 (VR S W' h') vs xs := a.imp fun y y z => z.mono G
theorem ZnZ {op : Operator} {a b : CE} {t : Bool} {p : Pos} (ha : Snd S C n a) (hb : Snd S C n b) : Snd S C n (.bin op a b t p) := by
 intro F A W ρ st s O ok I Fi ne
 have ok := ba2 ok
 simp only [Zp4] at ne ⊢
 refine Zl (ha F A W ρ st s O ok.1 I Fi (Zh ne)) fun v st' W' h' tk x e P I' Fi' va => ?_
 have ne2 := Zf ne e
 refine Zl (wH (hb F A W' ρ st' _ O ok.2 I' Fi' (Zh ne2))) fun v2 st2 W2 h2 tk2 x2 e2 P2 I2 Fi2 vb => ?_
 refine wB (wS (wpAny_operate' ?_))
 exact Zqb O.room I2 Fi2 (va.mono P2.grow) vb (Zf ne2 e2)
theorem ZrX (I : Inv S W st s.heap) (Fi : FI S F W ρ s.heap) {op : UnaryOp} {a : MV} {x : Vl} (va : VR S W s.heap x a) (ne : ofO (unV op a) st ≠ .no) {E : Vl → Sh → Prop} :
 wA S.M A (unaryOp op x) (QE S F W ρ s (VR S) (ofO (unV op a) st)) E s := by
 cases op with
 | Not => cases a with
  | d y => cases y with
   | bool b =>
    cases va
    exact not_value (wpAny_truthy_bool (q_same' I Fi (.bool _)))
   | _ => exact absurd rfl ne
  | _ => exact absurd rfl ne
 | USub => cases a with
  | d y => cases y with
   | int x =>
    cases va
    exact PyProof.Rows.neg_int (Zx I Fi (.int _ _))
   | _ => exact absurd rfl ne
  | _ => exact absurd rfl ne
 | _ => exact absurd rfl ne
theorem ZdJ {op : UnaryOp} {a : CE} {p : Pos} (ha : Snd S C n a) : Snd S C n (.un op a p) := by
 intro F A W ρ st s O ok I Fi ne
 simp only [ZjX] at ok
 simp only [ZmV] at ne ⊢
 refine Zl (ha F A W ρ st s O ok I Fi (Zh ne)) fun v st' W' h' tk x e P I' Fi' va => ?_
 refine wB (wS (wH ?_))
 exact ZrX I' Fi' va (Zf ne e)
theorem ZrY {nm : List (Str × NK)} {ns ns' : List Str} {op : CmpOp} {b : CE} (ok : okE nm ns b = true) : behindInMarks op (toE ns' b) = false := by
 clear ok; cases b <;> rfl
noncomputable def ZaF (C : Ze) : MV → List (CmpOp × CE) → En → St → RV Bool
 | _, [], _, _ => .no
 | x, [(op, e)], ρ, st => (ev C e ρ st).bind fun y st => ofO (Zt op st x y) st
 | x, (op, e) :: p :: r, ρ, st => (ev C e ρ st).bind fun y st => match Zt op st x y with
  | some true => ZaF C y (p :: r) ρ st
  | some false => .ok false st
  | none => .no
noncomputable def VBv : Wd → Heap → Vl → Bool → Prop := fun _ _ x v => x = .bool v
theorem Zfi {x op e} : ZaF C x [(op, e)] ρ st = (ev C e ρ st).bind fun y st => ofO (Zt op st x y) st := rfl
theorem ZiA {x op e p r} : ZaF C x ((op, e) :: p :: r) ρ st = (ev C e ρ st).bind fun y st => match Zt op st x y with
 | some true => ZaF C y (p :: r) ρ st
 | some false => .ok false st
 | none => .no := rfl
theorem Zdc {pos : Pos} {l : List (CmpOp × CE)} : (∀ p ∈ l, Snd S C n p.2) → (∀ p ∈ l, okE F.env.scope.names F.ns p.2 = true) → FmOk F A n → ∀ {W : Wd} {st : St} {s : Sh} {a : MV} {x : Vl}, Inv S W st s.heap → FI S F W ρ s.heap → VR S W s.heap x a → ZaF C a l ρ st ≠ .no →
 wA S.M A (compareChain pos x (l.map (·.1)) (l.map fun p => eval (toE F.ns p.2) F.env)) (QE S F W ρ s VBv (ZaF C a l ρ st)) (EE S F W ρ s (ZaF C a l ρ st)) s ∧
 wA S.M A (testChain pos x (l.map (·.1)) (l.map fun p => eval (toE F.ns p.2) F.env)) (QE S F W ρ s VB (ZaF C a l ρ st)) (EE S F W ρ s (ZaF C a l ρ st)) s := by
 induction l with
 | nil => exact fun z z z z z z z z z z z ne => absurd rfl ne
 | cons hd r ih =>
  obtain ⟨op, e⟩ := hd
  intro H K O W st s a x I Fi va ne
  cases r with
  | nil =>
   rw [Zfi] at ne ⊢
   have hb := H _ (.head _) F A W ρ st s O (K _ (.head _)) I Fi (Zh ne)
   constructor
   ·refine Zl (wH hb) fun y st' W' h' tk x2 e P I' Fi' vb => ?_
    refine wB (wS ?_)
    have ne2 := Zf ne e
    cases er : Zt op st' a y with
    | none => rw [er] at ne2; exact absurd rfl ne2
    | some r => exact wpAny_operate' (ZdI O.room I' (va.mono P.grow) vb er fun tk => Zx I' Fi' rfl)
   ·refine Zl (wH hb) fun y st' W' h' tk x2 e P I' Fi' vb => ?_
    refine wB (wS ?_)
    have ne2 := Zf ne e
    cases er : Zt op st' a y with
    | none => rw [er] at ne2; exact absurd rfl ne2
    | some r => exact wB (wpAny_operate' (ZdI O.room I' (va.mono P.grow) vb er fun tk => wH (wpAny_truthy_bool (Zx I' Fi' rfl))))
  | cons p r =>
   rw [ZiA] at ne ⊢
   have hb := H _ (.head _) F A W ρ st s O (K _ (.head _)) I Fi (Zh ne)
   constructor
   ·show wA _ _ (holding [x] (eval (toE F.ns e) F.env) >>= fun rv => standAt pos >>= fun z => holding [x, rv] (compareOp op x rv) >>= fun c => release [x, rv] [c] >>= fun z => holding [c, rv] (truthy c) >>= fun b => if b = true then compareChain pos rv ((p :: r).map (·.1)) ((p :: r).map fun p => eval (toE F.ns p.2) F.env) else pure c) _ _ _
    refine Zl (wH hb) fun y st' W' h' tk x2 e P I' Fi' vb => ?_
    refine wB (wS ?_)
    have ne2 := Zf ne e
    cases er : Zt op st' a y with
    | none => rw [er] at ne2; exact absurd rfl ne2
    | some b =>
     refine wB (wH (ZdI O.room I' (va.mono P.grow) vb er fun tk2 => wB (wpAny_release' (wB (wH (wpAny_truthy_bool ?_))))))
     cases b with
     | false => exact wP (Zx I' Fi' rfl)
     | true =>
      rw [er] at ne2
      exact (ih (s := sh s h' tk2) (fun q m => H q (.tail _ m)) (fun q m => K q (.tail _ m)) O I' Fi' vb ne2).1
   ·show wA _ _ (holding [x] (eval (toE F.ns e) F.env) >>= fun rv => standAt pos >>= fun z => holding [x, rv] (compareOp op x rv) >>= fun c => release [x, rv] [c] >>= fun z => holding [c, rv] (truthy c) >>= fun b => if b = true then testChain pos rv ((p :: r).map (·.1)) ((p :: r).map fun p => eval (toE F.ns p.2) F.env) else pure false) _ _ _
    refine Zl (wH hb) fun y st' W' h' tk x2 e P I' Fi' vb => ?_
    refine wB (wS ?_)
    have ne2 := Zf ne e
    cases er : Zt op st' a y with
    | none => rw [er] at ne2; exact absurd rfl ne2
    | some b =>
     refine wB (wH (ZdI O.room I' (va.mono P.grow) vb er fun tk2 => wB (wpAny_release' (wB (wH (wpAny_truthy_bool ?_))))))
     cases b with
     | false => exact wP (Zx I' Fi' rfl)
     | true =>
      rw [er] at ne2
      exact (ih (s := sh s h' tk2) (fun q m => H q (.tail _ m)) (fun q m => K q (.tail _ m)) O I' Fi' vb ne2).2
theorem Zdl {o : Option Bool} {st : St} : Bx o st = (ofO o st).bind fun b st => .ok (.d (.bool b)) st := by cases o <;> rfl
noncomputable def toV (r : RV Bool) : RV MV := r.bind fun b st => .ok (.d (.bool b)) st
theorem Zj2 {r : RV Bool} (h : toV r ≠ .no) : r ≠ .no := fun e => h (by rw [e]; rfl)
theorem ZmZ {r : RV Bool} {x : Vl} {s' : Sh} (q : QE S F W ρ s VBv r x s') : QE S F W ρ s (VR S) (toV r) x s' := by
 obtain ⟨v, st', W', rfl, h', tk, rfl, P, I, Fi, rfl⟩ := q
 exact ⟨.d (.bool v), st', W', rfl, h', tk, rfl, P, I, Fi, .bool _⟩
theorem Zm0 {r : RV Bool} {x : Vl} {s' : Sh} (q : EE S F W ρ s r x s') : EE S F W ρ s (toV r) x s' := by
 obtain ⟨c, fs, st', W', a, rfl, y1, y2, y3, y4, y5, y6, y7, y8⟩ := q
 exact ⟨c, fs, st', W', a, rfl, y1, y2, y3, y4, y5, y6, y7, y8⟩
noncomputable def Z7 (C : Ze) (a : CE) (l : List (CmpOp × CE)) (ρ : En) (st : St) : RV Bool := (ev C a ρ st).bind fun x st => ZaF C x l ρ st
theorem ZcB {a : CE} {l : List (CmpOp × CE)} {pos : Pos} (ha : Snd S C n a) (H : ∀ p ∈ l, Snd S C n p.2) (K : ∀ p ∈ l, okE F.env.scope.names F.ns p.2 = true) (ok : okE F.env.scope.names F.ns a = true) (O : FmOk F A n)
 (I : Inv S W st s.heap) (Fi : FI S F W ρ s.heap) (ne : Z7 C a l ρ st ≠ .no) (hl : lastMarks (l.map (·.1)) (l.map fun p => toE F.ns p.2) = false) :
 wA S.M A (eval (.Compare (toE F.ns a) (l.map (·.1)) (l.map fun p => toE F.ns p.2) pos) F.env) (QE S F W ρ s (VR S) (toV (Z7 C a l ρ st))) (EE S F W ρ s (toV (Z7 C a l ρ st))) s ∧
 wA S.M A (isTrue (.Compare (toE F.ns a) (l.map (·.1)) (l.map fun p => toE F.ns p.2) pos) F.env (eval (.Compare (toE F.ns a) (l.map (·.1)) (l.map fun p => toE F.ns p.2) pos) F.env)) (QE S F W ρ s VB (Z7 C a l ρ st)) (EE S F W ρ s (Z7 C a l ρ st)) s := by
 have e1 : evalEach (l.map fun p => toE F.ns p.2) F.env = l.map fun p => eval (toE F.ns p.2) F.env := by
  clear H K ne hl
  induction l with
  | nil => rfl
  | cons p r ih => simp only [lM9, evalEach, ih]
 constructor
 ·refine wM (Q := QE S F W ρ s VBv (Z7 C a l ρ st)) (E := EE S F W ρ s (Z7 C a l ρ st)) ?_ (fun y y q => ZmZ q) fun y y q => Zm0 q
  show wA _ _ (eval (toE F.ns a) F.env >>= fun x => compareChain pos x (l.map (·.1)) (markedEach (l.map (·.1)) (l.map fun p => toE F.ns p.2) (evalEach (l.map fun p => toE F.ns p.2) F.env))) _ _ _
  rw [markedEach_of_false _ _ _ hl, e1]
  exact Zl (ha F A W ρ st s O ok I Fi (Zh ne)) fun v st' W' h' tk x e P I' Fi' va => (Zdc H K O I' Fi' va (Zf ne e)).1
 ·show wA _ _ (eval (toE F.ns a) F.env >>= fun x => testChain pos x (l.map (·.1)) (markedEach (l.map (·.1)) (l.map fun p => toE F.ns p.2) (evalEach (l.map fun p => toE F.ns p.2) F.env))) _ _ _
  rw [markedEach_of_false _ _ _ hl, e1]
  exact Zl (ha F A W ρ st s O ok I Fi (Zh ne)) fun v st' W' h' tk x e P I' Fi' va => (Zdc H K O I' Fi' va (Zf ne e)).2
theorem ZhI {c : CE} {r : RV Bool} (e : ev C c ρ st = toV r) : evT C c ρ st = r := by
 unfold evT
 rw [e]
 cases r <;> rfl
theorem Zn0 {op : CmpOp} {a b : CE} {p : Pos} : ev C (.cmp op a b p) ρ st = toV (Z7 C a [(op, b)] ρ st) := by
 simp only [Zp5, toV, Z7, Zfi]
 cases ev C a ρ st with
 | ok x st =>
  show (ev C b ρ st).bind _ = ((ev C b ρ st).bind _).bind _
  cases ev C b ρ st with
  | ok y st => exact Zdl
  | ex c fs st => rfl
  | no => rfl
 | ex c fs st => rfl
 | no => rfl
theorem Zlq {o1 o2 : CmpOp} {a b c : CE} {p : Pos} : ev C (.cmp2 o1 o2 a b c p) ρ st = toV (Z7 C a [(o1, b), (o2, c)] ρ st) := by
 simp only [ZnD, toV, Z7, Zfi, ZiA]
 cases ev C a ρ st with
 | ok x st =>
  show (ev C b ρ st).bind _ = ((ev C b ρ st).bind _).bind _
  cases ev C b ρ st with
  | ok y st =>
   simp only [RV.bind]
   cases Zt o1 st x y with
   | none => rfl
   | some r =>
    cases r with
    | false => rfl
    | true =>
     dsimp only
     cases ev C c ρ st with
     | ok z st => exact Zdl
     | ex c fs st => rfl
     | no => rfl
  | ex c fs st => rfl
  | no => rfl
 | ex c fs st => rfl
 | no => rfl
theorem Zlr {o1 o2 o3 : CmpOp} {a b c d : CE} {p : Pos} : ev C (.cmp3 o1 o2 o3 a b c d p) ρ st = toV (Z7 C a [(o1, b), (o2, c), (o3, d)] ρ st) := by
 simp only [ZnE, toV, Z7, Zfi, ZiA]
 cases ev C a ρ st with
 | ok x st =>
  show (ev C b ρ st).bind _ = ((ev C b ρ st).bind _).bind _
  cases ev C b ρ st with
  | ok y st =>
   simp only [RV.bind]
   cases Zt o1 st x y with
   | none => rfl
   | some r =>
    cases r with
    | false => rfl
    | true =>
     dsimp only
     cases ev C c ρ st with
     | ok z st =>
      dsimp only
      cases Zt o2 st y z with
      | none => rfl
      | some r =>
       cases r with
       | false => rfl
       | true =>
        dsimp only
        cases ev C d ρ st with
        | ok z st => exact Zdl
        | ex c fs st => rfl
        | no => rfl
     | ex c fs st => rfl
     | no => rfl
  | ex c fs st => rfl
  | no => rfl
 | ex c fs st => rfl
 | no => rfl
theorem ZfO {nm : List (Str × NK)} {ns ns' : List Str} : ∀ {l : List (CmpOp × CE)}, (∀ p ∈ l, okE nm ns p.2 = true) → lastMarks (l.map (·.1)) (l.map fun p => toE ns' p.2) = false
 | [], _ => rfl
 | [(op, e)], h => ZrY (h _ (.head _))
 | _ :: p :: r, h => ZfO (l := p :: r) fun q m => h q (.tail _ m)
theorem Zdm {c a : CE} {l : List (CmpOp × CE)} {pos : Pos} (hc : ∀ ns, toE ns c = .Compare (toE ns a) (l.map (·.1)) (l.map fun p => toE ns p.2) pos) (he : ∀ ρ st, ev C c ρ st = toV (Z7 C a l ρ st))
 (ho : ∀ nm ns, okE nm ns c = true → okE nm ns a = true ∧ ∀ p ∈ l, okE nm ns p.2 = true) (ha : Snd S C n a) (H : ∀ p ∈ l, Snd S C n p.2) : Snd S C n c ∧ Z9 S C n c := by
 constructor
 ·intro F A W ρ st s O ok I Fi ne
  rw [he] at ne ⊢
  rw [hc]
  refine bc fun no => ?_; obtain ⟨o1, o2⟩ := ho _ _ ok; refine no ?_
  exact (ZcB ha H o2 o1 O I Fi (Zj2 ne) (ZfO o2)).1
 ·intro F A W ρ st s O ok I Fi ne
  rw [ZhI (he ρ st)] at ne ⊢
  rw [hc]
  refine bc fun no => ?_; obtain ⟨o1, o2⟩ := ho _ _ ok; refine no ?_
  exact (ZcB ha H o2 o1 O I Fi ne (ZfO o2)).2
theorem Zn1 {op : CmpOp} {a b : CE} {p : Pos} (ha : Snd S C n a) (hb : Snd S C n b) : Snd S C n (.cmp op a b p) ∧ Z9 S C n (.cmp op a b p) :=
 Zdm (l := [(op, b)]) (fun y => rfl) (fun y y => Zn0) (fun nm ns h => by have h := ba2 h; exact ⟨h.1, by simpa using h.2⟩) ha (by simpa using hb)
theorem Zls {o1 o2 : CmpOp} {a b c : CE} {p : Pos} (ha : Snd S C n a) (hb : Snd S C n b) (hc : Snd S C n c) : Snd S C n (.cmp2 o1 o2 a b c p) ∧ Z9 S C n (.cmp2 o1 o2 a b c p) :=
 Zdm (l := [(o1, b), (o2, c)]) (fun y => rfl) (fun y y => Zlq) (fun nm ns h => by have h := ba3 h; exact ⟨h.1.1, by simpa using ⟨h.1.2, h.2⟩⟩) ha (by simpa using ⟨hb, hc⟩)
theorem Zlt {o1 o2 o3 : CmpOp} {a b c d : CE} {p : Pos} (ha : Snd S C n a) (hb : Snd S C n b) (hc : Snd S C n c) (hd : Snd S C n d) : Snd S C n (.cmp3 o1 o2 o3 a b c d p) ∧ Z9 S C n (.cmp3 o1 o2 o3 a b c d p) :=
 Zdm (l := [(o1, b), (o2, c), (o3, d)]) (fun y => rfl) (fun y y => Zlr) (fun nm ns h => by have h := ba4 h; exact ⟨h.1.1.1, by simpa using ⟨h.1.1.2, h.1.2, h.2⟩⟩) ha (by simpa using ⟨hb, hc, hd⟩)
theorem Zao (ok : okE nm ns e = true) : starEach (toE ns' e :: r) env = (false, eval (toE ns' e) env) :: starEach r env := by
 clear ok; cases e <;> rfl
theorem Zlu : ZaW S C n .nil := by
 intro F A W ρ st s _ _ I Fi _ p
 exact wP (q_same' I Fi .nil)
theorem Zj3 (he : Snd S C n e) (hr : ZaW S C n r) : ZaW S C n (.cons e r) := by
 intro F A W ρ st s O ok I Fi ne p
 simp only [ZdD, ZdE, bA] at ok
 simp only [ZrQ, Ziy, Zao ok.1]
 simp only [Zfe, ZdA] at ne ⊢
 show wA _ _ (eval (toE F.ns e) F.env >>= fun v => pure [v] >>= fun here => holding here (spliced (backTo p (starEach (toL F.ns r) F.env))) >>= fun more => pure (here ++ more)) _ _ _
 refine Zl (he F A W ρ st s O ok.1 I Fi (Zh ne)) fun v st' W' h' tk x e1 P I' Fi' va => ?_
 have ne2 := Zf ne e1
 refine wB (wP ?_)
 refine Zl (wH (hr F A W' ρ st' _ O ok.2 I' Fi' (Zh ne2) p)) fun v2 st2 W2 h2 tk2 x2 e2 P2 I2 Fi2 vb => ?_
 exact wP (q_same' I2 Fi2 (.cons (va.mono P2.grow) vb))
theorem ZfP (e : ZbU vs = some xs) (a : All2 (VR S W h) us vs) : DRs W.own h us xs := by
 induction a generalizing xs with
 | nil => cases e; exact .nil
 | @cons u v us vs a t ih =>
  cases v with
  | d x =>
   obtain ⟨ys, e1, rfl⟩ := Option.map_eq_some_iff.mp e
   exact .cons a (ih e1)
  | _ => cases e
theorem Zn2 (I : Inv S W st s.heap) (Fi : FI S F W ρ s.heap) (t : Bool) (d : DRs W.own s.heap vs xs) :
 QE S F W ρ s (VR S) (Ziw t xs st) (.ref s.heap.objs.size) { s with heap := s.heap.push { cls := .type "list", data := .seq vs.toArray }, toks := tk } := by
 cases t with
 | true => exact ZdF I Fi d
 | false => exact Zbw I Fi (Zee I d)
theorem ZcY {α β : Type} {r : RV α} {f : α → St → RV β} {x : β} {st' : St} (e : r.bind f = .ok x st') : ∃ a s, r = .ok a s ∧ f a s = .ok x st' := by
 cases r with
 | ok a s => exact ⟨a, s, rfl, e⟩
 | _ => cases e
theorem ZhJ {v : MV} {b : Bool} (e : isB v = some b) : v = .d (.bool b) := by
 cases v with
 | d y => cases y with
  | bool x => cases e; rfl
  | _ => exact nn e rfl
 | _ => exact nn e rfl
theorem Zef : ∀ {c : CL} {ρ : En} {st st' : St} {vs : List MV}, evL C c ρ st = .ok vs st' → vs.length = c.len
 | .nil, _, _, _, _, e => by cases e; rfl
 | .cons e r, ρ, st, st', vs, h => by
  obtain ⟨a, s1, _, h⟩ := ZcY h
  obtain ⟨b, s2, q, h⟩ := ZcY h
  cases h
  exact congrArg (· + 1) (Zef q)
set_option tactic.hygienic true in
theorem Zlv (hl : ZaW S C n es) : Snd S C n (.list es t p) := by
 intro F A W ρ st s O ok I Fi ne
 simp only [Zll, bA, decide_eq_true_eq] at ok
 simp only [ZnF] at ne ⊢
 refine wB (wS ?_)
 refine Zl (hl F A W ρ st s O ok.1 I Fi (Zh ne) p) fun v st' W' h' tk x e P I' Fi' va => ?_
 have ne2 := Zf ne e
 have hlen := Zef e
 have hx := va.length
 split
 ·rename_i xs q
  rw [q] at ne2
  refine wpAny_newList (Zn2 (s := sh s h' tk) I' Fi' t (ZfP q va)) ?_
  show x.length ≤ 16777216
  omega
 ·rename_i q
  rw [q] at ne2
  exact absurd rfl ne2
set_option tactic.hygienic true in
theorem Zn3 (hl : ZaW S C n es) : Snd S C n (.tup es p) := by
 intro F A W ρ st s O ok I Fi ne
 simp only [ZnP, bA, decide_eq_true_eq] at ok
 simp only [Zp6] at ne ⊢
 refine wB (wS ?_)
 refine Zl (hl F A W ρ st s O ok.1 I Fi (Zh ne) p) fun v st' W' h' tk x e P I' Fi' va => ?_
 have ne2 := Zf ne e
 have hlen := Zef e
 have hx := va.length
 split
 ·rename_i xs q
  rw [q] at ne2
  refine wpAny_newTuple (Zbw (s := sh s h' tk) I' Fi' (ZfJ I' (ZfP (h := h') q va))) ?_
  show x.length ≤ 16777216
  omega
 ·rename_i q
  rw [q] at ne2
  exact absurd rfl ne2
theorem Zn4 (hc : Snd S C n c) (hs : ∀ ns env t, isTrue (toE ns c) env t = (t >>= fun v => standAt (toE ns c).pos >>= fun y => holding [v] (truthy v))) : Z9 S C n c := by
 intro F A W ρ st s O ok I Fi ne
 unfold evT at ne ⊢
 rw [hs]
 refine Zl (hc F A W ρ st s O ok I Fi (Zh ne)) fun v st' W' h' tk x e P I' Fi' va => ?_
 have ne2 := Zf ne e
 refine wB (wS (wH ?_))
 cases q : isB v with
 | none => rw [q] at ne2; exact absurd rfl ne2
 | some b =>
  obtain rfl := ZhJ q
  cases va
  exact wpAny_truthy_bool (q_same' (s := sh s h' tk) I' Fi' rfl)
theorem Zlw (ha : Z9 S C n a) : Z9 S C n (.un .Not a p) := by
 intro F A W ρ st s O ok I Fi ne
 have e : evT C (.un .Not a p) ρ st = (evT C a ρ st).bind fun b st => .ok (!b) st := by
  simp only [evT, ZmV]
  cases ev C a ρ st with
  | ok v st =>
   cases v with
   | d x => cases x <;> rfl
   | _ => rfl
  | ex c fs st => rfl
  | no => rfl
 rw [e] at ne ⊢
 simp only [ZjX] at ok
 show wA _ _ (isTrue (toE F.ns a) F.env (eval (toE F.ns a) F.env) >>= fun b => pure (!b)) _ _ _
 refine Zl (ha F A W ρ st s O ok I Fi (Zh ne)) fun v st' W' h' tk x e P I' Fi' va => ?_
 cases va
 exact wP (q_same' (s := sh s h' tk) I' Fi' rfl)
theorem Zn5 : evT C (.ite t a b p) ρ st = (evT C t ρ st).bind fun v st => match v with
 | true => evT C a ρ st
 | false => evT C b ρ st := by
 simp only [evT, ZjV]
 cases ev C t ρ st with
 | ok v st =>
  show RV.bind ((ofO (isB v) st).bind _) _ = (ofO (isB v) st).bind _
  cases isB v with
  | none => rfl
  | some x => cases x <;> rfl
 | ex c fs st => rfl
 | no => rfl
theorem Zn6 : ev C (.ite t a b p) ρ st = (evT C t ρ st).bind fun v st => match v with
 | true => ev C a ρ st
 | false => ev C b ρ st := by
 rw [ZjV]; rfl
theorem Zn7 (ht : Z9 S C n t) (ha : Snd S C n a) (hb : Snd S C n b) : Snd S C n (.ite t a b p) := by
 intro F A W ρ st s O ok I Fi ne
 rw [Zn6] at ne ⊢
 have ok := ba3 ok
 show wA _ _ (isTrue (toE F.ns t) F.env (eval (toE F.ns t) F.env) >>= fun c => if c = true then eval (toE F.ns a) F.env else eval (toE F.ns b) F.env) _ _ _
 refine Zl (ht F A W ρ st s O ok.1.1 I Fi (Zh ne)) fun v st' W' h' tk x e P I' Fi' va => ?_
 have ne2 := Zf ne e
 cases va
 cases v with
 | true => exact ha F A W' ρ st' (sh s h' tk) O ok.1.2 I' Fi' ne2
 | false => exact hb F A W' ρ st' (sh s h' tk) O ok.2 I' Fi' ne2
theorem Zlx (ht : Z9 S C n t) (ha : Z9 S C n a) (hb : Z9 S C n b) : Z9 S C n (.ite t a b p) := by
 intro F A W ρ st s O ok I Fi ne
 rw [Zn5] at ne ⊢
 have ok := ba3 ok
 show wA _ _ (isTrue (toE F.ns t) F.env (eval (toE F.ns t) F.env) >>= fun c => if c = true then isTrue (toE F.ns a) F.env (eval (toE F.ns a) F.env) else isTrue (toE F.ns b) F.env (eval (toE F.ns b) F.env)) _ _ _
 refine Zl (ht F A W ρ st s O ok.1.1 I Fi (Zh ne)) fun v st' W' h' tk x e P I' Fi' va => ?_
 have ne2 := Zf ne e
 cases va
 cases v with
 | true => exact ha F A W' ρ st' (sh s h' tk) O ok.1.2 I' Fi' ne2
 | false => exact hb F A W' ρ st' (sh s h' tk) O ok.2 I' Fi' ne2
noncomputable def ZfQ (S : SC) (C : Ze) (n : Nat) (op : BoolOp) (c : CL) : Prop := ∀ (F : Fm) (A : Ar) (W : Wd) (ρ : En) (st : St) (s : Sh), FmOk F A n → Zu F.env.scope.names F.ns c = true → Inv S W st s.heap → FI S F W ρ s.heap → ZaV C op c ρ st ≠ .no →
 wA S.M A (allTrue op (toL F.ns c) F.env) (QE S F W ρ s VB (ZaV C op c ρ st)) (EE S F W ρ s (ZaV C op c ρ st)) s ∧
 ∀ p, c ≠ .nil → wA S.M A (boolOp p op (evalEach (toL F.ns c) F.env)) (QE S F W ρ s VBv (ZaV C op c ρ st)) (EE S F W ρ s (ZaV C op c ρ st)) s
theorem Zly : ZfQ S C n op .nil := by
 intro F A W ρ st s _ _ I Fi _
 refine ⟨?_, fun y h => absurd rfl h⟩
 cases op <;> exact wP (q_same' I Fi rfl)
theorem ZcC : ZaV C op (.cons e r) ρ st = (evT C e ρ st).bind fun b st => match op, b with
 | .And, false => .ok false st
 | .Or, true => .ok true st
 | _, _ => ZaV C op r ρ st := rfl
theorem Zlz : ZaV C op (.cons e .nil) ρ st = evT C e ρ st := by
 rw [ZcC]
 cases evT C e ρ st with
 | ok b st => cases op <;> cases b <;> rfl
 | ex c fs st => rfl
 | no => rfl
theorem Zj4 (ht : Z9 S C n e) (hv : Snd S C n e) (hr : ZfQ S C n op r) : ZfQ S C n op (.cons e r) := by
 intro F A W ρ st s O ok I Fi ne
 rw [ZcC] at ne ⊢
 have ok := ba2 ok
 constructor
 ·show wA _ _ (isTrue (toE F.ns e) F.env (eval (toE F.ns e) F.env) >>= fun b => match op, b with
   | .And, false => pure false
   | .Or, true => pure true
   | _, _ => allTrue op (toL F.ns r) F.env) _ _ _
  refine Zl (ht F A W ρ st s O ok.1 I Fi (Zh ne)) fun v st' W' h' tk x e P I' Fi' va => ?_
  have ne2 := Zf ne e
  cases va
  cases op <;> cases v
  ·exact wP (q_same' (s := sh s h' tk) I' Fi' rfl)
  ·exact (hr F A W' ρ st' (sh s h' tk) O ok.2 I' Fi' ne2).1
  ·exact (hr F A W' ρ st' (sh s h' tk) O ok.2 I' Fi' ne2).1
  ·exact wP (q_same' (s := sh s h' tk) I' Fi' rfl)
 ·intro p _
  have hb : wA S.M A (eval (toE F.ns e) F.env) (QE S F W ρ s VBv (evT C e ρ st)) (EE S F W ρ s (evT C e ρ st)) s := by
   have ne1 := Zh ne
   unfold evT at ne1 ⊢
   have := hv F A W ρ st s O ok.1 I Fi (Zh ne1)
   refine wM this (fun x s' q => ?_) fun x s' q => ?_
   ·obtain ⟨v, st', W', e1, h', tk, rfl, P, I', Fi', va⟩ := q
    have ne2 := Zf ne1 e1
    rw [e1]
    cases q : isB v with
    | none => rw [q] at ne2; exact absurd rfl ne2
    | some b =>
     obtain rfl := ZhJ q
     cases va
     exact ⟨_, st', W', rfl, h', tk, rfl, P, I', Fi', rfl⟩
   ·obtain ⟨c, fs, st', W', a, e1, y1, y2, y3, y4, y5, y6, y7, y8⟩ := q
    rw [e1]
    exact ⟨c, fs, st', W', a, rfl, y1, y2, y3, y4, y5, y6, y7, y8⟩
  cases r with
  | nil =>
   show wA _ _ (eval (toE F.ns e) F.env) _ _ _
   have e0 := Zlz (C := C) (ρ := ρ) (st := st) (op := op) (e := e)
   rw [ZcC] at e0
   rw [e0]
   exact hb
  | cons e2 r2 =>
   show wA _ _ (eval (toE F.ns e) F.env >>= fun v => standAt p >>= fun y => holding [v] (truthy v) >>= fun t => match op, t with
    | .And, false => pure v
    | .Or, true => pure v
    | _, _ => boolOp p op (evalEach (toL F.ns (.cons e2 r2)) F.env)) _ _ _
   refine Zl hb fun v st' W' h' tk x e P I' Fi' va => ?_
   have ne2 := Zf ne e
   cases va
   refine wB (wS (wB (wH (wpAny_truthy_bool ?_))))
   cases op <;> cases v
   ·exact wP (q_same' (s := sh s h' tk) I' Fi' rfl)
   ·exact (hr F A W' ρ st' (sh s h' tk) O ok.2 I' Fi' ne2).2 p (by intro h; cases h)
   ·exact (hr F A W' ρ st' (sh s h' tk) O ok.2 I' Fi' ne2).2 p (by intro h; cases h)
   ·exact wP (q_same' (s := sh s h' tk) I' Fi' rfl)
theorem Zn8 (hb : ZfQ S C n op es) : Snd S C n (.bop op es p) ∧ Z9 S C n (.bop op es p) := by
 constructor
 ·intro F A W ρ st s O ok I Fi ne
  have e : ev C (.bop op es p) ρ st = toV (ZaV C op es ρ st) := by rw [ZjU]; rfl
  rw [e] at ne ⊢
  have ok := ba2 ok
  refine wM ((hb F A W ρ st s O ok.1 I Fi (Zj2 ne)).2 p ?_) (fun y y q => ZmZ q) fun y y q => Zm0 q
  rintro rfl
  cases ok.2
 ·intro F A W ρ st s O ok I Fi ne
  have e : ev C (.bop op es p) ρ st = toV (ZaV C op es ρ st) := by rw [ZjU]; rfl
  rw [ZhI e] at ne ⊢
  have ok := ba2 ok
  exact (hb F A W ρ st s O ok.1 I Fi ne).1
end
section
variable {S : SC} {C : Ze} {n : Nat} {F : Fm} {W : Wd} {ρ : En} {st : St} {A : Ar} {s : Sh} {h h' : Heap} {E : Vl → Sh → Prop}
theorem Zdn (x : Str) (v : Vl) : v.isStr x = Value.isStrOf x v := by cases v <;> rfl
theorem ZcD {D : Addr} {kvs : List (Str × Vl)} (d : h.DictOf (strKind S.prog S.w) D kvs) : ∃ o, h.get? D = some o ∧ ∀ x, lookIn x o = some (valueAt kvs x) := by
 refine bc fun no => ?_; obtain ⟨o, es, ep, ho, hc, hd, hk, hp, _⟩ := d; refine no ?_
 refine ⟨o, ho, fun x => ?_⟩
 have hf := hp.find x
 unfold lookIn
 rw [hd]
 dsimp only
 have e : (es.toList.find? fun e => e.key.isStr x) = es.toList.find? fun e => (strKind S.prog S.w).is x e.key := by
  congr 1; funext e; exact Zdn _ _
 rw [e]
 cases q : es.toList.find? fun e => (strKind S.prog S.w).is x e.key with
 | some y => rw [q] at hf; rw [← hf]; rfl
 | none =>
  rw [q] at hf
  have : (es.toList.any fun e => e.refKey) = false := by
   rw [List.any_eq_false]
   intro e he
   refine bc fun no => ?_; obtain ⟨k, hk1, _⟩ := hk e (Array.mem_toList_iff.mp he); refine no ?_
   refine bc fun no => ?_; obtain ⟨t, hk1⟩ := Value.isStrOf_shape (x := k) hk1; refine no ?_
   unfold DictEntry.refKey
   rw [hk1]; exact Bool.false_ne_true
  rw [if_neg (by rw [this]; decide), ← hf]; rfl
set_option tactic.hygienic true in
theorem ZcE {α : Type} {k : Nat} {v : α} : ∀ {fs : List (Nat × α)}, Zav k fs = some v → ∃ i : Nat, fs[i]? = some (k, v)
 | (q, u) :: r, e => by
  simp only [ZmQ] at e
  split at e
  ·rename_i z; cases z; cases e; exact ⟨0, rfl⟩
  ·obtain ⟨i, z⟩ := ZcE e; exact ⟨i + 1, z⟩
theorem Zaj {K : Type} [DecidableEq K] {knd : KeyKind S.prog S.w K} {a : Addr} {kvs : List (K × Vl)} (d : h.DictOf knd a kvs) : (kvs.map (·.1)).Nodup := by
 obtain ⟨_, _, _, _, _, _, _, _, w⟩ := d; exact w
theorem Zj5 {α : Type} {R : Vl → α → Prop} {kvs : List (Str × Vl)} {fs : List (Nat × α)} {k : Nat} {v : α} (nd : (kvs.map (·.1)).Nodup) (q : All2 (fun (kv : Str × Vl) (e : Nat × α) => kv.1 = An e.1 ∧ R kv.2 e.2) kvs fs) (e : Zav k fs = some v) :
 ∃ u, valueAt kvs (An k) = some u ∧ R u v := by
 refine bc fun no => ?_; obtain ⟨i, z⟩ := ZcE e; refine no ?_
 refine bc fun no => ?_; obtain ⟨⟨a, u⟩, h1, h2, h3⟩ := q.get z; refine no ?_
 dsimp only at h2 h3
 subst h2
 exact ⟨u, valueAt_of_get nd h1, h3⟩
theorem Zeg (I : Inv S W st h) {x : Vl} {l : Nat} {c : Nat} {fs : List (Nat × MV)} (vx : VR S W h x (.loc l)) (e : st[l]? = some (.inst c fs)) :
 ∃ a D, W.cs[l]? = some [a, D] ∧ x = .ref a ∧ h.get? a = some (instObj (S.ca c) D) ∧ ∃ kvs, h.DictOf (strKind S.prog S.w) D kvs ∧ All2 (fun (kv : Str × Vl) (e : Nat × MV) => kv.1 = An e.1 ∧ VR S W h kv.2 e.2) kvs fs ∧ fs.all (fun p => Zas c p.1) = true ∧ (Zw c).isSome = true ∧ fs.length ≤ 100 := by
 refine bc fun no => ?_; obtain ⟨a, r, e1, rfl⟩ := vx; refine no ?_
 have := I.cells l _ _ e1 e
 cases r with
 | nil => exact this.elim
 | cons D r =>
  cases r with
  | cons _ _ => exact this.elim
  | nil => obtain ⟨h1, h2⟩ := this; exact ⟨a, D, e1, rfl, h1, h2⟩
theorem Zj6 {u : Vl} {v : MV} (q : VR S W h u v) : handedIn u = true := by
 cases v with
 | d x => cases q <;> rfl
 | loc l => obtain ⟨a, r, _, rfl⟩ := q; rfl
 | fn f => cases q; rfl
 | cls c => cases q; rfl
 | dic es => obtain ⟨a, rfl, _⟩ := q; rfl
theorem Zn9 (I : Inv S W st s.heap) {l c a : Nat} {fs : List (Nat × MV)} {v : MV} (ha : fs.all (fun p => Zas c p.1) = true) (e : Zav a fs = some v) : Zas c a = true := by
 obtain ⟨i, z⟩ := ZcE e
 exact List.all_eq_true.mp ha _ (List.mem_of_getElem? z)
theorem ZhK (G : Ground S) (I : Inv S W st s.heap) {x : Vl} {v r : MV} {a : Nat} (vx : VR S W s.heap x v) (e : ZcA v a st = some r) {Q : Vl → Sh → Prop} (q : ∀ u, VR S W s.heap u r → Q u { s with toks := s.toks + 1 }) :
 wA S.M A (getAttr x (An a) true) Q E s := by
 obtain ⟨l, c, fs, rfl, es, e⟩ := Zew e
 refine bc fun no => ?_; obtain ⟨x, D, e1, rfl, hx, kvs, hd, q2, ok, hi, _⟩ := Zeg I vx es; refine no ?_
 refine bc fun no => ?_; obtain ⟨⟨cd, hcd, hdict⟩, hp, hm, hga, hgt, hsa, hno⟩ := G.ins c hi; refine no ?_
 refine bc fun no => ?_; obtain ⟨oD, hoD, hlk⟩ := ZcD hd; refine no ?_
 refine bc fun no => ?_; obtain ⟨u, hu, vu⟩ := Zj5 (Zaj hd) q2 e; refine no ?_
 have It : InstAt s.heap x (instObj (S.ca c) D) (S.ca c) (some oD) := ⟨hx, rfl, rfl, hoD⟩
 refine get_value (G.X.keeps I.base) It hga ?_ (Zj6 vu) (q u vu)
 unfold findObj
 rw [hcd, hno a (Zn9 (l := l) I ok e)]
 simp only [Option.bind_some]
 unfold PySem.W.ownOf
 rw [hdict, if_pos rfl]
 dsimp only
 rw [hlk, hu]
 rfl
theorem ZdK {nm : List (Str × NK)} {ns ns' : List Str} {e : CE} {attr : Str} {env : Env} {w : Sem Vl} (ok : okE nm ns e = true) (hc : e.isCall = false) : attributeBase (toE ns' e) attr env w = w := by
 clear ok; cases e <;> first | rfl | cases hc
theorem ZlA (G : Ground S) {e : CE} {a : Nat} {p : Pos} (he : Snd S C n e) : Snd S C n (.attr e a p) := by
 intro F A W ρ st s O ok I Fi ne
 simp only [Zlk, bA, Bool.not_eq_true'] at ok
 simp only [ZnC] at ne ⊢
 show wA _ _ (attributeBase (toE F.ns e) (An a) F.env (eval (toE F.ns e) F.env) >>= fun o => standAt p.atName >>= fun y => holding [o] (getAttr o (An a) true) >>= fun r => letTemporaryGo (toE F.ns e) o r >>= fun y => pure r) _ _ _
 rw [ZdK ok.1 ok.2]
 refine Zl (he F A W ρ st s O ok.1 I Fi (Zh ne)) fun v st' W' h' tk x e1 P I' Fi' vx => ?_
 have ne2 := Zf ne e1
 refine wB (wS ?_)
 cases q : ZcA v a st' with
 | none => rw [q] at ne2; exact absurd rfl ne2
 | some r =>
  refine wB (wH (ZhK (s := sh s h' tk) G I' vx q fun u vu => ?_))
  exact wB (wpAny_letTemporaryGo (wP (Zx (s := sh s h' tk) I' Fi' vu)))
set_option tactic.hygienic true in
theorem ZfR {xs : List α} {k : Int} (e : (if (decide (0 ≤ k) && Zc k.toNat) then xs[k.toNat]? else none) = some x) : 0 ≤ k ∧ k < 2 ^ 63 ∧ xs[k.toNat]? = some x ∧ k.toNat < xs.length := by
 split at e
 ·rename_i q
  simp only [bA, decide_eq_true_eq] at q
  have := Zv q.2
  exact ⟨q.1, by omega, e, (List.getElem?_eq_some_iff.mp e).1⟩
 ·cases e
theorem ZcF (h0 : 0 ≤ k) (hn : k.toNat < m) : seqIndex? k m = some k.toNat := seqIndex_of h0 ((Int.toNat_lt h0).mp hn)
theorem Zcf : ∀ {es : List (DK × MW)}, Zq k es = some w → ∃ i : Nat, es[i]? = some (k, w)
 | (q, u) :: r, e => by
  rw [Zea] at e
  by_cases z : q = k
  ·rw [if_pos z] at e; cases z; cases e; exact ⟨0, rfl⟩
  ·rw [if_neg z] at e; obtain ⟨i, z⟩ := Zcf e; exact ⟨i + 1, z⟩
theorem ZeC : ∀ {fs : List (Str × MV)}, ZaH k fs = some v → ∃ i : Nat, fs[i]? = some (k, v)
 | (q, u) :: r, e => by
  rw [ZhD] at e
  by_cases z : q = k
  ·rw [if_pos z] at e; cases z; cases e; exact ⟨0, rfl⟩
  ·rw [if_neg z] at e; obtain ⟨i, z⟩ := ZeC e; exact ⟨i + 1, z⟩
theorem ZiB (q : WR S W.own h v w) : VR S W h v w.v := by cases w <;> exact q
theorem Zj7 (dx : DR W.own h x d) (e : Za9 d = some k) : (∃ y, k = .s y ∧ Value.isStrOf y x = true) ∨ (∃ i, k = .i i ∧ Value.isInt i x = true) := by
 cases dx <;> cases e
 ·exact .inr ⟨_, rfl, by simp [Value.isInt]⟩
 ·exact .inl ⟨_, rfl, by simp [Value.isStrOf]⟩
theorem Zqc (d : Zec S W.own h a es) (vy : DR W.own h y p) (e1 : Za9 p = some k) (e2 : Zq k es = some w) :
 (∃ kvs k u, h.DictOf (strKind S.prog S.w) a kvs ∧ (strKind S.prog S.w).is k y = true ∧ valueAt kvs k = some u ∧ VR S W h u w.v) ∨
 (∃ kvs k u, h.DictOf (intKind S.prog S.w) a kvs ∧ (intKind S.prog S.w).is k y = true ∧ valueAt kvs k = some u ∧ VR S W h u w.v) := by
 refine bc fun no => ?_; obtain ⟨i, z⟩ := Zcf e2; refine no ?_
 refine bc fun no => ?_; obtain ⟨_, _, d⟩ := d; refine no ?_
 rcases d with ⟨kvs, d, q⟩ | ⟨kvs, d, q⟩
 ·refine bc fun no => ?_; obtain ⟨⟨x, u⟩, h1, h2, h3⟩ := q.get z; refine no ?_
  dsimp only at h2 h3
  rcases Zj7 vy e1 with ⟨y', rfl, hy⟩ | ⟨i, rfl, hy⟩
  ·cases h2
   exact .inl ⟨kvs, _, u, d, hy, valueAt_of_get (Zaj d) h1, ZiB h3⟩
  ·cases h2
 ·refine bc fun no => ?_; obtain ⟨⟨x, u⟩, h1, h2, h3⟩ := q.get z; refine no ?_
  dsimp only at h2 h3
  rcases Zj7 vy e1 with ⟨y', rfl, hy⟩ | ⟨i, rfl, hy⟩
  ·cases h2
  ·cases h2
   exact .inr ⟨kvs, _, u, d, hy, valueAt_of_get (Zaj d) h1, ZiB h3⟩
theorem ZcG (vy : DR own h y (.str x)) : ∃ t, y = .str x t := by cases vy; exact ⟨_, rfl⟩
theorem Z8 (vy : DR own h y (.int k)) : ∃ t, y = .int k t := by cases vy; exact ⟨_, rfl⟩
theorem ZK {id : String} (hT : s.TypeIs o T) (hl : typeLookup (.type T) "__getitem__" = pure (some (.builtin id))) (q : Q false s) : wA M A (getitemInPython o) Q E s := by
 rw [getitemInPython_of_ne hT.not_modules]
 exact wB (wpAny_specialOf hT hl (wP q))
theorem ZeD (e : s.heap.get? l = some (listOf items n)) : s.TypeIs (.ref l) "list" := ⟨_, e, rfl⟩
inductive SubC (st : St) : MV → MV → MV → Prop
 | tup {xs k z} (h : Za xs k = some z) : SubC st (.d (.tuple xs)) (.d (.int k)) (.d z)
 | lst {v xs k z} (a : asD st v = some (.list xs)) (h : Za xs k = some z) : SubC st v (.d (.int k)) (.d z)
 | str {x k c} (h : (decide (0 ≤ k) && Zc k.toNat) = true) (e : x.cps.toList[k.toNat]? = some c) : SubC st (.d (.str x)) (.d (.int k)) (.d (.str ⟨#[c]⟩))
 | dic {es p k w} (h : Za9 p = some k) (e : Zq k es = some w) : SubC st (.dic es) (.d p) w.v
 | dct {l es x r} (h : st[l]? = some (.dict es)) (e : ZaH x es = some r) : SubC st (.loc l) (.d (.str x)) r
theorem ZiC (e : o.map MV.d = some r) : ∃ z, o = some z ∧ r = .d z := by
 cases o with
 | none => exact nn e rfl
 | some z => cases e; exact ⟨z, rfl, rfl⟩
theorem Zs2 (e : ZaM st v i = some r) : SubC st v i r := by
 cases v with
 | d x => cases i with
  | d y => cases x with
   | tuple xs => cases y with
    | int k => obtain ⟨z, h, rfl⟩ := ZiC e; exact .tup h
    | _ => exact nn e rfl
   | list xs => cases y with
    | int k => obtain ⟨z, h, rfl⟩ := ZiC e; exact .lst rfl h
    | _ => exact nn e rfl
   | str x => cases y with
    | int k =>
     have e : (if (decide (0 ≤ k) && Zc k.toNat) then (x.cps.toList[k.toNat]?).map fun c => MV.d (.str ⟨#[c]⟩) else none) = some r := e
     by_cases h : (decide (0 ≤ k) && Zc k.toNat) = true
     ·rw [if_pos h] at e
      cases q : x.cps.toList[k.toNat]? with
      | none => rw [q] at e; exact nn e rfl
      | some c => rw [q] at e; cases e; exact .str h q
     ·exact nn e (if_neg h)
    | _ => exact nn e rfl
   | _ => exact nn e rfl
  | _ => cases x <;> exact nn e rfl
 | dic es => cases i with
  | d p =>
   have e : ((Za9 p).bind fun k => (Zq k es).map MW.v) = some r := e
   cases hk : Za9 p with
   | none => rw [hk] at e; exact nn e rfl
   | some k =>
    rw [hk] at e
    have e : (Zq k es).map MW.v = some r := e
    cases hw : Zq k es with
    | none => rw [hw] at e; exact nn e rfl
    | some w => rw [hw] at e; cases e; exact .dic hk hw
  | _ => exact nn e rfl
 | loc l => cases i with
  | d y => cases y with
   | int k =>
    have e : (match st[l]? with | some (.list xs) => (Za xs k).map MV.d | _ => none) = some r := e
    cases h : st[l]? with
    | none => exact nn e (by rw [h])
    | some o => rw [h] at e; cases o with
     | list xs => obtain ⟨z, h2, rfl⟩ := ZiC e; exact .lst (Zd9 h) h2
     | _ => exact nn e rfl
   | str x =>
    have e : (match st[l]? with | some (.dict es) => ZaH x es | _ => none) = some r := e
    cases h : st[l]? with
    | none => exact nn e (by rw [h])
    | some o => rw [h] at e; cases o with
     | dict es => exact .dct h e
     | _ => exact nn e rfl
   | _ => exact nn e rfl
  | _ => exact nn e rfl
 | _ => exact nn e rfl
theorem Zqd (I : Inv S W st h) (vx : VR S W h x (.loc l)) (e : st[l]? = some (.dict es)) : ∃ a kvs, x = .ref a ∧ h.DictOf (strKind S.prog S.w) a kvs ∧ All2 (fun (kv : Str × Vl) (e : Str × MV) => kv.1 = e.1 ∧ VR S W h kv.2 e.2) kvs es := by
 obtain ⟨a, r, e1, rfl⟩ := vx
 have := I.cells l _ _ e1 e
 cases r with
 | cons b r => cases r <;> exact this.elim
 | nil =>
  obtain ⟨hs, kvs, hd, hq, hl⟩ := this
  exact ⟨a, kvs, rfl, hd, hq⟩
theorem Zqe (I : Inv S W st s.heap) {v i r : MV} (vx : VR S W s.heap x v) (vy : VR S W s.heap y i) (e : ZaM st v i = some r) {Q : Vl → Sh → Prop} (q : ∀ u tk, VR S W s.heap u r → Q u { s with toks := tk }) :
 wA S.M A (getItem x y) Q E s ∧ ∀ Q' : Bool → Sh → Prop, Q' false s → wA S.M A (getitemInPython x) Q' E s := by
 cases Zs2 e with
 | tup h =>
  obtain ⟨h0, h1, h2, h3⟩ := ZfR h
  obtain ⟨_, rfl⟩ := Z8 vy
  obtain ⟨a, o, vs, m, rfl, ha, ho, hc, hd, r⟩ := Zb4 vx
  obtain ⟨u, hu, du⟩ := r.get h2
  exact ⟨PyProof.Rows.getItem_tuple ⟨o, ho, hc, m, hd⟩ (Int.le_trans (by decide) h0) h1 (ZcF h0 (by rw [← Array.length_toList, r.length]; exact h3)) (by rw [← Array.getElem?_toList]; exact hu) (q u s.toks du), fun Q' q' => ZK (T := "tuple") ⟨o, ho, hc⟩ F.slot_tuple_getitem.lookup q'⟩
 | lst a h =>
  obtain ⟨h0, h1, h2, h3⟩ := ZfR h
  obtain ⟨_, rfl⟩ := Z8 vy
  obtain ⟨a, items, m, rfl, ho, r⟩ := ZaP I vx a
  obtain ⟨u, hu, du⟩ := r.get h2
  exact ⟨wpAny_getItem_list ⟨_, ho, rfl, _, rfl⟩ h0 h1 (by rw [← Array.getElem?_toList]; exact hu) (q u s.toks du), fun Q' q' => ZK (ZeD ho) F.slot_list_getitem.lookup q'⟩
 | @str x k c h hc =>
  obtain ⟨_, rfl⟩ := Z8 vy
  obtain ⟨t, rfl⟩ := ZcG vx
  obtain ⟨h0, hf⟩ := Bool.and_eq_true_iff.mp h
  have h0 := of_decide_eq_true h0
  have hl : (k : Int) ≤ 4096 := Int.toNat_le.mp (Zv hf)
  refine ⟨PyProof.Rows.getItem_str (c := c) ?_ ?_ (q _ _ (.str _ _)), fun Q' q' => ZK (T := "str") (typeIs_str s x t) F.slot_str_getitem.lookup q'⟩
  ·exact Bool.or_eq_false_iff.mpr ⟨decide_eq_false (Int.not_lt.mpr (Int.le_trans (by decide) h0)), decide_eq_false (Int.not_le.mpr (Int.lt_of_le_of_lt hl (by decide)))⟩
  ·rw [ZcF h0 (by have := (List.getElem?_eq_some_iff.mp hc).1; rwa [Array.length_toList] at this)]
   exact (Array.getElem?_toList ..).symm.trans hc
 | dic hk hw =>
  obtain ⟨a, rfl, d⟩ := vx
  rcases Zqc d vy hk hw with ⟨kvs, k, u, h1, h2, h3, h4⟩ | ⟨kvs, k, u, h1, h2, h3, h4⟩
  ·exact ⟨wpAny_getItem_of h2 h1.mapOf h3 (q u _ h4), fun Q' q' => ZK h1.typeIs slot_dict_getitem.lookup q'⟩
  ·exact ⟨wpAny_getItem_of h2 h1.mapOf h3 (q u _ h4), fun Q' q' => ZK h1.typeIs slot_dict_getitem.lookup q'⟩
 | dct h e =>
  obtain ⟨a, kvs, rfl, hd, hq⟩ := Zqd I vx h
  obtain ⟨i, z⟩ := ZeC e
  obtain ⟨⟨y', u⟩, h1, h2, h3⟩ := hq.get z
  obtain ⟨t, rfl⟩ := ZcG vy
  cases h2
  exact ⟨wpAny_getItem_of (beq_self_eq_true _) hd.mapOf (valueAt_of_get (Zaj hd) h1) (q u _ h3), fun Q' q' => ZK hd.typeIs slot_dict_getitem.lookup q'⟩
theorem ZlB (ok : okE nm ns i = true) : subscripted (toE ns' i) false o v = operate [o, v] (getItem o v) := by
 clear ok; cases i <;> rfl
theorem Zoa (he : Snd S C n e) (hi : Snd S C n i) : Snd S C n (.sub e i p) := by
 intro F A W ρ st s O ok I Fi ne
 have ok := ba2 ok
 simp only [Zp2] at ne ⊢
 show wA _ _ (eval (toE F.ns e) F.env >>= fun o => holding [o] (eval (toE F.ns i) F.env) >>= fun i' => standAt p >>= fun z => getitemInPython o >>= fun b => subscripted (toE F.ns i) b o i' >>= fun r => letTemporaryGo (toE F.ns e) o r >>= fun z => pure r) _ _ _
 refine Zl (he F A W ρ st s O ok.1 I Fi (Zh ne)) fun v st' W' h' tk x e1 P I' Fi' vx => ?_
 have ne2 := Zf ne e1
 refine Zl (wH (hi F A W' ρ st' _ O ok.2 I' Fi' (Zh ne2))) fun v2 st2 W2 h2 tk2 y e2 P2 I2 Fi2 vy => ?_
 have ne3 := Zf ne2 e2
 cases q : ZaM st2 v v2 with
 | none => rw [q] at ne3; exact absurd rfl ne3
 | some r =>
  refine wB (wS (wB ?_))
  have := fun Q => Zqe (s := sh s h2 tk2) (A := A) (E := EE S F W2 ρ (sh s h2 tk2) (ofO (some r) st2)) I2 (vx.mono P2.grow) vy q (Q := Q)
  refine (this (fun z z => True) fun z z z => trivial).2 _ ?_
  rw [ZlB ok.2]
  refine wB (wpAny_operate' ((this _ fun u tk3 vu => ?_).1))
  exact wB (wpAny_letTemporaryGo (wP (Zx (s := sh s h2 tk2) I2 Fi2 vu)))
theorem ZfS (l : List α) (a b : Nat) : (l.drop (min a l.length)).take (min b l.length - min a l.length) = (l.take b).drop a := by
 rw [List.drop_take]
 rcases Nat.le_total a l.length with h | h
 ·rw [Nat.min_eq_left h]
  exact List.take_eq_take_iff.mpr (by rw [List.length_drop, Nat.sub_min_sub_right, Nat.sub_min_sub_right, Nat.min_assoc, Nat.min_self])
 ·rw [Nat.min_eq_right h, List.drop_of_length_le h, List.drop_of_length_le (Nat.le_refl _), List.take_nil, List.take_nil]
theorem Zcg (a n : Nat) : max (0 : Int) (min (if (a : Int) < 0 then (a : Int) + n else a) n) = ((min a n : Nat) : Int) := by
 rw [if_neg (Int.not_lt.mpr (Int.natCast_nonneg a))]
 rcases Nat.le_total a n with h | h
 ·rw [Nat.min_eq_left h, Int.min_eq_left (Int.ofNat_le.mpr h)]; exact Int.max_eq_right (Int.natCast_nonneg _)
 ·rw [Nat.min_eq_right h, Int.min_eq_right (Int.ofNat_le.mpr h)]; exact Int.max_eq_right (Int.natCast_nonneg _)
theorem Zm1 (n : Nat) : (0 : Int) = ((min 0 n : Nat) : Int) := by rw [Nat.zero_min]; rfl
theorem Zm2 (n : Nat) : (n : Int) = ((min n n : Nat) : Int) := by rw [Nat.min_self]
theorem Zj8 (lo hi : Option Nat) (n : Nat) : sliceBounds (lo.map (fun k : Nat => (k : Int))) (hi.map (fun k : Nat => (k : Int))) none n = (((min (lo.getD 0) n : Nat) : Int), ((min (hi.getD n) n : Nat) : Int), 1) := by
 cases lo <;> cases hi
 ·exact Prod.ext (Zm1 n) (Prod.ext (Zm2 n) rfl)
 ·exact Prod.ext (Zm1 n) (Prod.ext (Zcg _ n) rfl)
 ·exact Prod.ext (Zcg _ n) (Prod.ext (Zm2 n) rfl)
 ·exact Prod.ext (Zcg _ n) (Prod.ext (Zcg _ n) rfl)
theorem Ze9 (items : Array Vl) (lo hi : Option Nat) : slicePick items (lo.map (fun k : Nat => (k : Int))) (hi.map (fun k : Nat => (k : Int))) none = ((items.toList.take (hi.getD items.size)).drop (lo.getD 0)).toArray := by
 unfold slicePick
 rw [Zj8]
 simp only [sliceRange_one, pick_run]
 have := ZfS items.toList (lo.getD 0) (hi.getD items.size)
 rw [Array.length_toList] at this
 exact congrArg List.toArray this
set_option tactic.hygienic true in
theorem ZlC (x : Str) (b : Nat) : Txt.slice x none (some (b : Int)) = ⟨(x.cps.toList.take b).toArray⟩ := by
 have e : Builtin.Str.strSliceIndices none (some (b : Int)) 1 x.length = sliceRange ((0 : Nat) : Int) ((min b x.length : Nat) : Int) 1 := by
  have h2 : ¬ ((b : Int) < 0) := Int.not_lt.mpr (Int.natCast_nonneg b)
  simp only [Builtin.Str.strSliceIndices, show ((1 : Int) > 0) = True from by simp, if_true, h2, if_false]
  congr 1
  rw [Int.max_eq_right (Int.le_min.mpr ⟨Int.natCast_nonneg b, Int.natCast_nonneg _⟩)]
  first | exact (Int.ofNat_min ..).symm | exact (Int.natCast_min ..).symm | omega
 have e2 : ((List.range (min b x.length - 0)).map (0 + ·)).filterMap (x.cps[·]?) = x.cps.toList.take b := by
  rw [pick_run]
  simp only [List.drop_zero, Nat.sub_zero]
  have := ZfS x.cps.toList 0 b
  simp only [Nat.zero_min, List.drop_zero, Nat.sub_zero] at this
  exact this
 unfold Txt.slice
 rw [e, sliceRange_one]
 split
 ·rename_i q
  simp only [beq_self_eq_true, Bool.true_and, beq_iff_eq, List.length_map, List.length_range] at q
  have : x.cps.toList.take b = x.cps.toList := List.take_of_length_le (by rw [Array.length_toList]; exact Nat.le_trans (Nat.le_of_eq q.symm) (Nat.min_le_left b _))
  rw [this]
 ·rw [e2]
noncomputable def VO (S : SC) (W : Wd) (h : Heap) (x : Vl) : Option MV → Prop
 | none => x = .none
 | some v => VR S W h x v
theorem Zeh (G : Grow W W' h h') (q : VO S W h x o) : VO S W' h' x o := by
 cases o with
 | none => exact q
 | some v => exact VR.mono G q
noncomputable def Zch (S : SC) (C : Ze) (n : Nat) (c : CO) : Prop := ∀ (F : Fm) (A : Ar) (W : Wd) (ρ : En) (st : St) (s : Sh), FmOk F A n → okO F.env.scope.names F.ns c = true → Inv S W st s.heap → FI S F W ρ s.heap → evO C c ρ st ≠ .no →
 wA S.M A (valueOrNone (evalOpt (toO F.ns c) F.env)) (QE S F W ρ s (VO S) (evO C c ρ st)) (EE S F W ρ s (evO C c ρ st)) s
theorem Zob : Zch S C n .no := by
 intro F A W ρ st s _ _ I Fi _
 exact wP (q_same' I Fi rfl)
theorem Zoc (he : Snd S C n e) : Zch S C n (.so e) := by
 intro F A W ρ st s O ok I Fi ne
 simp only [ZrT, ZrU] at ok
 simp only [ZrK, ZrL] at ne ⊢
 have := he F A W ρ st s O ok I Fi (Zh ne)
 refine wM this (fun x s' q => ?_) fun x s' q => ?_
 ·obtain ⟨v, st', W', e1, h', tk, rfl, P, I, Fi, z⟩ := q
  rw [e1]
  exact ⟨some v, st', W', rfl, h', tk, rfl, P, I, Fi, z⟩
 ·obtain ⟨c, fs, st', W', a, e1, y1, y2, y3, y4, y5, y6, y7, y8⟩ := q
  rw [e1]
  exact ⟨c, fs, st', W', a, rfl, y1, y2, y3, y4, y5, y6, y7, y8⟩
theorem Zqf (e : ZW d o = some k) : (o = none ∧ d = k) ∨ ∃ i, o = some (.d (.int i)) ∧ 0 ≤ i ∧ i.toNat = k := by
 cases o with
 | none => exact .inl ⟨rfl, Option.some.inj e⟩
 | some v => cases v with
  | d x => cases x with
   | int i =>
    obtain ⟨h, rfl⟩ := ZF (c := decide (0 ≤ i) && Zc i.toNat) e
    exact .inr ⟨i, rfl, of_decide_eq_true (Bool.and_eq_true_iff.mp h).1, rfl⟩
   | _ => exact nn e rfl
  | _ => exact nn e rfl
theorem ZcZ (q : VO S W h x o) (e : ZW d o = some k) : ∃ r : Option Nat, IsPart x (r.map (fun k : Nat => (k : Int))) ∧ r.getD d = k := by
 rcases Zqf e with ⟨rfl, rfl⟩ | ⟨i, rfl, h0, rfl⟩
 ·cases q; exact ⟨none, .none, rfl⟩
 ·obtain ⟨t, rfl⟩ := Z8 (own := W.own) (h := h) q
  refine ⟨some i.toNat, ?_, rfl⟩
  rw [Option.map_some, Int.toNat_of_nonneg h0]
  exact .int i t
theorem ZfT (hs : s.heap.IsSlice a none (some (i, t')) none) (hsz : x.length ≤ sizeLine) (q : ∀ t' k, Q (.str (Txt.slice x none (some i)) t') { s with toks := k }) :
 wA S.M A (getItem (.str x t) (.ref a)) Q E s :=
 wpAny_getItem_str_slice hs rfl (post_val_or_str ⟨Nat.le_trans (Txt.slice_le x _ _) hsz, q⟩)
inductive SlC (st : St) (v : MV) : Option MV → Option MV → PD → Prop
 | lst {lo hi xs a b} (ea : asD st v = some (.list xs)) (e1 : ZW 0 lo = some a) (e2 : ZW xs.length hi = some b) (hf : xs.length ≤ 4096) : SlC st v lo hi (.list ((xs.take b).drop a))
 | tup {xs k} (ea : asD st v = some (.tuple xs)) (h1 : 1 ≤ k) (h2 : k.toNat ≤ xs.length) (hf : xs.length ≤ 4096) : SlC st v (some (.d (.int k))) none (.tuple (xs.drop k.toNat))
 | str {x k} (ea : asD st v = some (.str x)) (h : 0 ≤ k) (hf : x.length ≤ 4096) : SlC st v none (some (.d (.int k))) (.str ⟨(x.cps.toList.take k.toNat).toArray⟩)
theorem ZaN {α β : Type} {o : Option α} {f : α → Option β} {r : β} (e : o.bind f = some r) : ∃ a, o = some a ∧ f a = some r := by
 cases o with
 | none => exact nn e rfl
 | some a => exact ⟨a, rfl, e⟩
theorem slC {v : MV} {lo hi : Option MV} {d : PD} (e : ZY st v lo hi = some d) : SlC st v lo hi d := by
 have e : (match (generalizing := false) asD st v with
  | some (.list xs) => (ZW 0 lo).bind fun l => (ZW xs.length hi).bind fun h => if Zc xs.length then some (.list ((xs.take h).drop l)) else none
  | some (.tuple xs) => (match (generalizing := false) lo, hi with
   | some (.d (.int k)), none => if (decide (1 ≤ k) && decide (k.toNat ≤ xs.length) && Zc xs.length) then some (.tuple (xs.drop k.toNat)) else none
   | _, _ => none)
  | some (.str x) => (match (generalizing := false) lo, hi with
   | none, some v => (ZW 0 (some v)).bind fun h => if Zc x.length then some (.str ⟨(x.cps.toList.take h).toArray⟩) else none
   | _, _ => none)
  | _ => none) = some d := e
 cases ea : asD st v with
 | none => rw [ea] at e; exact nn e rfl
 | some x =>
  rw [ea] at e
  cases x with
  | list xs =>
   obtain ⟨a, e1, e⟩ := ZaN e
   obtain ⟨b, e2, e⟩ := ZaN e
   obtain ⟨h, rfl⟩ := ZF e
   exact .lst ea e1 e2 (Zv h)
  | tuple xs => cases lo with
   | none => cases hi <;> exact nn e rfl
   | some v => cases v with
    | d y => cases y with
     | int k => cases hi with
      | none =>
       obtain ⟨h, rfl⟩ := ZF (c := decide (1 ≤ k) && decide (k.toNat ≤ xs.length) && Zc xs.length) e
       obtain ⟨h, h3⟩ := Bool.and_eq_true_iff.mp h
       obtain ⟨h1, h2⟩ := Bool.and_eq_true_iff.mp h
       exact .tup ea (of_decide_eq_true h1) (of_decide_eq_true h2) (Zv h3)
      | some _ => exact nn e rfl
     | _ => exact nn e rfl
    | _ => exact nn e rfl
  | str x => cases lo with
   | none => cases hi with
    | none => exact nn e rfl
    | some v =>
     obtain ⟨b, e1, e⟩ := ZaN (o := ZW 0 (some v)) e
     obtain ⟨h, rfl⟩ := ZF e
     rcases Zqf e1 with ⟨z, _⟩ | ⟨i, z, h0, rfl⟩
     ·cases z
     ·cases z; exact .str ea h0 (Zv h)
   | some _ => exact nn e rfl
  | _ => exact nn e rfl
theorem ZlD (I : Inv S W st s.heap) {lo hi : Option MV} (vx : VR S W s.heap x v) (vl : VO S W s.heap xl lo) (vh : VO S W s.heap xh hi)
 (hs : s.heap.get? sl = some { cls := .type "slice", data := .fields #[xl, xh, .none] }) (e : ZY st v lo hi = some d) (Fi : FI S F W ρ s.heap) :
 wA S.M A (getItem x (.ref sl)) (QE S F W ρ s (VR S) (.ok (.d d) st)) E s ∧ ∀ Q' : Bool → Sh → Prop, Q' false s → wA S.M A (getitemInPython x) Q' E s := by
 have hS : s.heap.IsSliceOf sl xl xh .none := ⟨_, hs, rfl, rfl⟩
 cases slC e with
 | @lst lo hi xs a b ea e1 e2 hf =>
  obtain ⟨l, items, m, rfl, ho, r⟩ := ZaP I vx ea
  obtain ⟨ra, pa, ga⟩ := ZcZ vl e1
  obtain ⟨rb, pb, gb⟩ := ZcZ vh e2
  have hlen : items.size = xs.length := by rw [← Array.length_toList, r.length]
  refine ⟨wpAny_getItem_list_slice (st := none) ⟨_, ho, rfl, _, rfl⟩ hS pa pb .none (fun z => nomatch z) ?_ (by rw [hlen]; exact Nat.le_trans hf (by decide)), fun Q' q' => ZK (ZeD ho) PySem.F.slot_list_getitem.lookup q'⟩
  rw [Ze9, hlen, ga, gb]
  exact Zbw (tk := s.toks) I Fi (Zee I ((r.take b).drop a))
 | @tup xs k ea h1 h2 hf =>
  obtain ⟨t, rfl⟩ := Z8 (own := W.own) (h := s.heap) vl
  cases vh
  obtain ⟨a, o, vs, m, rfl, ha, ho, hc, hd, r⟩ := Zb4 (ZfK vx ea (fun y z => by cases z))
  have hlen : vs.size = xs.length := by rw [← Array.length_toList, r.length]
  have h0 : 0 ≤ k := Int.le_trans (by decide) h1
  have hk : ((k.toNat : Nat) : Int) = k := Int.toNat_of_nonneg h0
  refine ⟨getItem_tuple_from (a := k.toNat) (u := t) ⟨o, ho, hc, m, hd⟩ (by rw [hk]; exact hS) (by omega) (by rw [hlen]; exact h2) ?_ (by rw [hlen]; exact Nat.le_trans hf (by decide)), fun Q' q' => ZK (T := "tuple") ⟨o, ho, hc⟩ PySem.F.slot_tuple_getitem.lookup q'⟩
  exact Zbw (tk := s.toks) I Fi (ZfJ I (r.drop k.toNat))
 | @str x' i ea h0 hf =>
  cases vl
  obtain ⟨t', rfl⟩ := Z8 (own := W.own) (h := s.heap) vh
  obtain ⟨t, rfl⟩ := Zbe vx ea
  refine ⟨ZfT (i := i) (t' := t') ⟨_, hs, rfl, rfl⟩ (Nat.le_trans hf (by decide)) fun t'' k => ?_, fun Q' q' => ZK (T := "str") (typeIs_str s x' t) PySem.F.slot_str_getitem.lookup q'⟩
  have e5 := ZlC x' i.toNat
  rw [Int.toNat_of_nonneg h0] at e5
  rw [e5]
  exact Zx I Fi (.str _ _)
theorem RV.assoc (r : RV α) (f : α → St → RV β) (g : β → St → RV γ) : (r.bind f).bind g = r.bind fun a st => (f a st).bind g := by cases r <;> rfl
noncomputable def VP (S : SC) (W : Wd) (h : Heap) (x : Vl) (p : Option MV × Option MV) : Prop := ∃ sl xl xh, x = .ref sl ∧ h.get? sl = some { cls := .type "slice", data := .fields #[xl, xh, .none] } ∧ VO S W h xl p.1 ∧ VO S W h xh p.2
theorem ZlE {lo hi : CO} : ev C (.slc e lo hi p1 p) ρ st = (ev C e ρ st).bind fun v st => ((evO C lo ρ st).bind fun l st => (evO C hi ρ st).bind fun h st => RV.ok (l, h) st).bind fun q st => ofO ((ZY st v q.1 q.2).map .d) st := by
 rw [Zp3]
 congr 1
 funext v st
 rw [RV.assoc]
 congr 1
 funext l st
 rw [RV.assoc]
 rfl
theorem ZdL {lo hi : CO} (hl : Zch S C n lo) (hh : Zch S C n hi) (O : FmOk F A n) (o1 : okO F.env.scope.names F.ns lo = true) (o2 : okO F.env.scope.names F.ns hi = true) (I : Inv S W st s.heap) (Fi : FI S F W ρ s.heap)
 (ne : ((evO C lo ρ st).bind fun l st => (evO C hi ρ st).bind fun h st => RV.ok (l, h) st) ≠ .no) :
 wA S.M A (eval (.Slice (toO F.ns lo) (toO F.ns hi) none p1) F.env) (QE S F W ρ s (VP S) ((evO C lo ρ st).bind fun l st => (evO C hi ρ st).bind fun h st => RV.ok (l, h) st)) (EE S F W ρ s ((evO C lo ρ st).bind fun l st => (evO C hi ρ st).bind fun h st => RV.ok (l, h) st)) s := by
 show wA _ _ (valueOrNone (evalOpt (toO F.ns lo) F.env) >>= fun l => holding [l] (valueOrNone (evalOpt (toO F.ns hi) F.env)) >>= fun u => holding [l, u] (valueOrNone (evalOpt none F.env)) >>= fun s => newFields "slice" [l, u, s]) _ _ _
 refine Zl (hl F A W ρ st s O o1 I Fi (Zh ne)) fun v st' W' h' tk x e1 P I' Fi' vx => ?_
 have ne2 := Zf ne e1
 refine Zl (wH (hh F A W' ρ st' _ O o2 I' Fi' (Zh ne2))) fun v2 st2 W2 h2 tk2 y e2 P2 I2 Fi2 vy => ?_
 refine wB (wH (wP ?_))
 refine wpAny_newObj_type (T := "slice") ?_
 exact Zbw (s := sh s h2 tk2) I2 Fi2 ⟨_, x, y, rfl, Heap.get?_push_size _ rfl, Zeh Zbd (Zeh P2.grow vx), Zeh Zbd vy⟩
theorem Zod {lo hi : CO} (he : Snd S C n e) (hl : Zch S C n lo) (hh : Zch S C n hi) : Snd S C n (.slc e lo hi p1 p) := by
 intro F A W ρ st s O ok I Fi ne
 simp only [ZnO, bA] at ok
 rw [ZlE] at ne ⊢
 show wA _ _ (eval (toE F.ns e) F.env >>= fun o => holding [o] (eval (.Slice (toO F.ns lo) (toO F.ns hi) none p1) F.env) >>= fun i' => standAt p >>= fun u => getitemInPython o >>= fun b => subscripted (.Slice (toO F.ns lo) (toO F.ns hi) none p1) b o i' >>= fun r => letTemporaryGo (toE F.ns e) o r >>= fun u => pure r) _ _ _
 refine Zl (he F A W ρ st s O ok.1.1 I Fi (Zh ne)) fun v st' W' h' tk x e1 P I' Fi' vx => ?_
 have ne2 := Zf ne e1
 refine Zl (wH (ZdL hl hh O ok.1.2 ok.2 I' Fi' (Zh ne2))) fun v2 st2 W2 h2 tk2 y e2 P2 I2 Fi2 vy => ?_
 have ne3 := Zf ne2 e2
 refine bc fun no => ?_; obtain ⟨sl, xl, xh, rfl, hs, v1, v3⟩ := vy; refine no ?_
 cases q : ZY st2 v v2.1 v2.2 with
 | none => rw [q] at ne3; exact absurd rfl ne3
 | some d =>
  have := ZlD (s := sh s h2 tk2) (A := A) (E := EE S F W2 ρ (sh s h2 tk2) (ofO ((some d).map MV.d) st2)) (F := F) (ρ := ρ) I2 (vx.mono P2.grow) v1 v3 hs q Fi2
  refine wB (wS (wB (this.2 _ ?_)))
  show wA _ _ (operate [.ref sl, x] (getItem x (.ref sl)) >>= fun r => letTemporaryGo (toE F.ns e) x r >>= fun u => pure r) _ _ _
  refine wB (wpAny_operate' (wM this.1 (fun r s' z => ?_) fun u u z => z))
  exact wB (wpAny_letTemporaryGo (wP z))
end
section
variable {S : SC} {C : Ze} {n : Nat} {F : Fm} {W W' : Wd} {ρ : En} {st : St} {A : Ar} {s : Sh} {h h' : Heap} {E : Vl → Sh → Prop}
theorem QE.lift {r : RV β} (P : Step W W' F.cur s.heap h') (e : r = .ok v st')
 (q : QE S F W' ρ (sh s h' tk) V' (f v st') y s₂) : QE S F W ρ s V' (r.bind f) y s₂ := by
 obtain ⟨u, st₂, W₂, e2, h₂, tk₂, rfl, P₂, I₂, F₂, vr₂⟩ := q
 exact ⟨u, st₂, W₂, by rw [e]; exact e2, h₂, tk₂, rfl, P.trans P₂, I₂, F₂, vr₂⟩
theorem EE.lift {r : RV β} (P : Step W W' F.cur s.heap h') (e : r = .ok v st')
 (q : EE S F W' ρ (sh s h' tk) (f v st') y s₂) : EE S F W ρ s (r.bind f) y s₂ := q.trans P fun c fs st z => by rw [e]; exact z
theorem EE.left (q : EE S F W ρ s r y s₂) : EE S F W ρ s (r.bind f) y s₂ := by
 obtain ⟨c, fs, st', W', a, rfl, y1, y2, y3, y4, y5, y6, y7, y8⟩ := q
 exact ⟨c, fs, st', W', a, rfl, y1, y2, y3, y4, y5, y6, y7, y8⟩
theorem Zbo : ∀ {es : CL}, Zu nm ns es = true → (backTo p (starEach (toL ns es) env)).any (·.1) = false
 | .nil, _ => rfl
 | .cons e r, ok => by
  have ok := Bool.and_eq_true_iff.mp ok
  rw [Ziy, Zao ok.1]
  exact Zbo ok.2
theorem ZdM (hl : ZaW S C n es) (O : FmOk F A n) (ok : Zu F.env.scope.names F.ns es = true) (I : Inv S W st s.heap) (Fi : FI S F W ρ s.heap) (ne : evL C es ρ st ≠ .no)
 (he : ∀ x s', EE S F W ρ s (evL C es ρ st) x s' → E x s')
 (q : ∀ vs us st' W' h' tk, evL C es ρ st = .ok vs st' → Step W W' F.cur s.heap h' → Inv S W' st' h' → FI S F W' ρ h' → All2 (VR S W' h') us vs → Q ⟨us, []⟩ (sh s h' tk)) :
 wA S.M A (evalArgs f true (backTo p (starEach (toL F.ns es) F.env)) []) Q E s := by
 have go : wA S.M A (spliced (backTo p (starEach (toL F.ns es) F.env))) (fun us s' => Q ⟨us, []⟩ s') E s := by
  refine wM (hl F A W ρ st s O ok I Fi ne p) (fun us s' z => ?_) he
  obtain ⟨vs, st', W', e, h', tk, rfl, P, I', Fi', va⟩ := z
  exact q vs us st' W' h' tk e P I' Fi' va
 cases es with
 | nil =>
  refine evalArgs_nil3 ?_
  exact q [] [] st W s.heap s.toks rfl .refl I Fi .nil
 | cons e r =>
  rw [Ziy, Zao (Bool.and_eq_true_iff.mp ok).1] at go ⊢
  exact evalArgs_plain go
theorem ZL {p p' : Pos} (hl : ZaW S C n es) (O : FmOk F A n) (ok : Zu F.env.scope.names F.ns es = true) (I : Inv S W st s.heap) (Fi : FI S F W ρ s.heap)
 (ne : (evL C es ρ st).bind g ≠ .no)
 (hk : ∀ vs W' st' h', evL C es ρ st = .ok vs st' → g vs st' ≠ .no → Step W W' F.cur s.heap h' → Inv S W' st' h' → ∃ k, (k = Keeper.frame ∨ k = Keeper.machine ∨ k = Keeper.boundFrame) ∧ Looks S.M h' (keeperOf f) k)
 (q : ∀ vs us st' W' h' tk, evL C es ρ st = .ok vs st' → Step W W' F.cur s.heap h' → Inv S W' st' h' → FI S F W' ρ h' → All2 (VR S W' h') us vs → g vs st' ≠ .no →
  wA S.M A (call f (first ++ us)) (QE S F W' ρ (sh s h' tk) (VR S) (g vs st')) (EE S F W' ρ (sh s h' tk) (g vs st')) (sh s h' tk)) :
 wA S.M A (callWith p f first (backTo p' (starEach (toL F.ns es) F.env)) []) (QE S F W ρ s (VR S) ((evL C es ρ st).bind g)) (EE S F W ρ s ((evL C es ρ st).bind g)) s := by
 refine callWith_of (P := fun h' => ∃ vs W' st', evL C es ρ st = .ok vs st' ∧ g vs st' ≠ .no ∧ Step W W' F.cur s.heap h' ∧ Inv S W' st' h') (by rw [Zbo ok]; rfl) (fun h' w9 => (by obtain ⟨vs, W', st', e, ne', P, I'⟩ := w9; exact hk vs W' st' h' e ne' P I')) ?_
 refine ZdM hl O ok I Fi (Zh ne) (fun y y z => z.left) fun vs us st' W' h' tk e P I' Fi' va => ⟨⟨vs, W', st', e, Zf ne e, P, I'⟩, ?_⟩
 exact wM (q vs us st' W' h' tk e P I' Fi' va (Zf ne e)) (fun y y z => z.lift P e) fun y y z => z.lift P e
theorem Zs3 {l : List Nat} (h1 : vs.length = l.length) (h2 : ∀ (j : Nat) (v : Vl), vs[j]? = some v → ∃ c u, l[j]? = some c ∧ v = .str ⟨#[c]⟩ u) : DRs own h vs (l.map fun c => .str ⟨#[c]⟩) := by
 induction l generalizing vs with
 | nil => cases vs with
  | nil => exact .nil
  | cons _ _ => cases h1
 | cons c r ih => cases vs with
  | nil => cases h1
  | cons v vs =>
   obtain ⟨c', u, e1, e2⟩ := h2 0 v rfl
   cases e1
   subst e2
   exact .cons (.str _ _) (ih (by simpa using h1) fun j v e => h2 (j + 1) v e)
theorem ZdN (I : Inv S W st s.heap) (Fi : FI S F W ρ s.heap) (k : ∀ b o, s.heap.get? b = some o → h'.get? b = some o)
 (hV : V W h' x v) : QE S F W ρ s V (.ok v st) x (sh s h' tk) :=
 ⟨v, st, W, rfl, _, _, rfl, .keeps k, I.grow k, Fi.grow k, hV⟩
theorem Zb7 (a : All2 R us [v]) : ∃ u, us = [u] ∧ R u v := by
 cases a with
 | cons x t => cases t; exact ⟨_, rfl, x⟩
theorem i63 (h : Zc n = true) : (n : Int) < 2 ^ 63 := Int.lt_of_le_of_lt (Int.ofNat_le.mpr (Zv h)) (by decide)
theorem Zoe (I : Inv S W st s.heap) (Fi : FI S F W ρ s.heap) (vx : VR S W s.heap u v) (e : ZpX st v = some r) : wA S.M A (call (.builtin "len") [u]) (QE S F W ρ s (VR S) (.ok r st)) E s := by
 obtain ⟨d, ea, e⟩ := Option.bind_eq_some_iff.mp e
 cases d with
 | list xs =>
  obtain ⟨hf, rfl⟩ := ZF (c := Zc xs.length) e
  obtain ⟨l, items, m, rfl, ho, d⟩ := ZaP I vx ea
  have hlen : items.size = xs.length := by rw [← Array.length_toList, d.length]
  refine PyProof.Rows.len_list ⟨_, ho, rfl, _, rfl⟩ (hlen ▸ i63 hf) ?_
  rw [hlen]
  exact Zx I Fi (.int _ _)
 | tuple xs =>
  obtain ⟨hf, rfl⟩ := ZF (c := Zc xs.length) e
  have vd := ZfK vx ea (fun y z => by cases z)
  obtain ⟨a, o, ys, m, rfl, ha, ho, hc, hd, d⟩ := Zb4 vd
  have hlen : ys.size = xs.length := by rw [← Array.length_toList, d.length]
  refine PyProof.Rows.len_tuple ⟨o, ho, hc, m, hd⟩ (hlen ▸ i63 hf) ?_
  rw [hlen]
  exact Zx I Fi (.int _ _)
 | str x =>
  obtain ⟨hf, rfl⟩ := ZF (c := Zc x.length) e
  obtain ⟨t, rfl⟩ := Zbe vx ea
  exact PyProof.Rows.len_str (Int.not_le.mpr (i63 hf)) (Zx I Fi (.int _ _))
 | _ => exact nn e rfl
theorem Zof (I : Inv S W st s.heap) (Fi : FI S F W ρ s.heap) (vx : DR W.own s.heap u x) (e : ZjR x = some r) : wA S.M A (call (.builtin "isinstance") [u, .type "tuple"]) (QE S F W ρ s (VR S) (.ok r st)) E s := by
 cases vx with
 | tuple ha ho hc hd d => cases e; exact IsiPair.tuple_tuple ho hc (q_same' I Fi (.bool _))
 | int i t => cases e; exact IsiPair.int_tuple (Zx I Fi (.bool _))
 | str i t => cases e; exact IsiPair.str_tuple (Zx I Fi (.bool _))
 | none => cases e; exact call_isinstance (isinstance_false_none (by decide +kernel) PySem.F.isi_meta_tuple PySem.F.sub_NoneType_tuple) (Zx I Fi (.bool _))
 | bool b => cases e; exact IsiPair.bool_tuple (Zx I Fi (.bool _))
 | _ => cases e
theorem ZiD {α : Type} {v : MV} {f : Int → Option α} {r : α} (e : Ziv v f = some r) : ∃ x, v = .d (.int x) ∧ f x = some r := by
 cases v with
 | d y => cases y with
  | int x => exact ⟨x, rfl, e⟩
  | _ => exact nn e rfl
 | _ => exact nn e rfl
theorem Zog (e : Zlf vs = some r) : ∃ x y, vs = [.d (.int x), .d (.int y)] ∧ r = .d (.int (max x y)) := by
 cases vs with
 | nil => exact nn e rfl
 | cons a t => cases t with
  | nil => exact nn e rfl
  | cons b t => cases t with
   | nil =>
    obtain ⟨x, rfl, e⟩ := ZiD e
    obtain ⟨y, rfl, e⟩ := ZiD e
    exact ⟨x, y, rfl, (Option.some.inj e).symm⟩
   | cons _ _ => exact nn e rfl
theorem Zoh (R : Room A n) (I : Inv S W st s.heap) (Fi : FI S F W ρ s.heap) (va : All2 (VR S W s.heap) us vs) (e : Zlf vs = some r) : wA S.M A (call (.builtin "max") us) (QE S F W ρ s (VR S) (.ok r st)) E s := by
 obtain ⟨x, y, rfl, rfl⟩ := Zog e
 cases va with
 | cons vx t =>
  obtain ⟨u2, rfl, vy⟩ := Zb7 t
  obtain ⟨t1, rfl⟩ := Z8 (own := W.own) (h := s.heap) vx
  obtain ⟨t2, rfl⟩ := Z8 (own := W.own) (h := s.heap) vy
  refine max_two_ints R.handled fun h' tk k => ?_
  have : (if y > x then Value.int y t2 else Value.int x t1) = .int (max x y) (if y > x then t2 else t1) := by
   by_cases q : y > x
   ·rw [if_pos q, if_pos q, Int.max_eq_right (Int.le_of_lt q)]
   ·rw [if_neg q, if_neg q, Int.max_eq_left (Int.not_lt.mp q)]
  exact this ▸ ZdN I Fi k (.int _ _)
theorem ZlF (R : Room A n) (I : Inv S W st s.heap) (Fi : FI S F W ρ s.heap) {u : Vl} (vx : VR S W s.heap u v) (e : ZmP st v = some r) : wA S.M A (call (.type "list") [u]) (QE S F W ρ s (VR S) (.ok r st)) E s := by
 obtain ⟨d, ea, e⟩ := Option.bind_eq_some_iff.mp e
 cases d with
 | list xs =>
  obtain ⟨hf, rfl⟩ := ZF e
  obtain ⟨l, items, m, rfl, ho, d⟩ := ZaP I vx ea
  have hlen : items.size = xs.length := by rw [← Array.length_toList, d.length]
  refine call_list_seq l (.inl rfl) ho rfl rfl (fun h' c' k e' => ?_) (by rw [hlen]; exact Nat.le_trans (Zv hf) (by decide))
  exact ZdN (tk := s.toks) I Fi k (.list (Z1 I) e' (d.mono (fun b o e y y => k b o e) fun y m => .inl m))
 | str x =>
  obtain ⟨hf, rfl⟩ := ZF e
  have hf := Bool.and_eq_true_iff.mp hf
  obtain ⟨t, rfl⟩ := Zbe vx ea
  refine call_list_str R.handled x t (fun h' tk acc' c' k e' hi => ?_) (Nat.le_trans (Zv hf.1) (by decide))
  refine ZdN I Fi k (.list (Z1 I) e' ?_)
  refine Zs3 (by rw [Array.length_toList, Array.length_toList]; exact hi.1) fun j v e => ?_
  rw [Array.getElem?_toList] at e
  obtain ⟨c, u, z1, z2⟩ := hi.2 j v e
  exact ⟨c, u, by rw [Array.getElem?_toList]; exact z1, z2⟩
 | _ => exact nn e rfl
theorem Zj9 (R : Room A n) (I : Inv S W st s.heap) (Fi : FI S F W ρ s.heap) (va : All2 (VR S W s.heap) us vs) (e : Zaf b st vs = some r) :
 wA S.M A (match b with | .len => call (.builtin "len") us | .isTup => call (.builtin "isinstance") (us ++ [.type "tuple"]) | .max => call (.builtin "max") us | .abs => call (.builtin "abs") us | .list => call (.type "list") us)
  (QE S F W ρ s (VR S) (.ok r st)) E s := by
 cases b with
 | max => exact Zoh R I Fi va e
 | len =>
  obtain ⟨v, rfl, e1⟩ := ZcU e
  obtain ⟨u, rfl, vx⟩ := Zb7 va
  exact Zoe I Fi vx e1
 | isTup =>
  obtain ⟨v, rfl, e1⟩ := ZcU e
  obtain ⟨u, rfl, vx⟩ := Zb7 va
  cases v with
  | d x => exact Zof I Fi vx e1
  | _ => cases e1
 | abs =>
  obtain ⟨v, rfl, e1⟩ := ZcU e
  obtain ⟨u, rfl, vx⟩ := Zb7 va
  obtain ⟨x, rfl, e1⟩ := ZiD e1
  cases e1
  obtain ⟨t1, rfl⟩ := Z8 (own := W.own) (h := s.heap) vx
  exact call_abs_int fun u tk => Zx I Fi (.int _ _)
 | list =>
  obtain ⟨v, rfl, e1⟩ := ZcU e
  obtain ⟨u, rfl, vx⟩ := Zb7 va
  exact ZlF R I Fi vx e1
theorem Zdo (O : FmOk F A n) (G : Ground S) (I : Inv S W st s.heap) (ok : okG F.env.scope.names x = true)
 (hm : (x, u) ∈ [(sO "len", Value.builtin "len"), (sO "isinstance", .builtin "isinstance"), (sO "max", .builtin "max"), (sO "abs", .builtin "abs"), (sO "list", .type "list"), (sO "tuple", .type "tuple"), (sO "range", .type "range")])
 (q : Q u s) : wA S.M A (eval (.Name x p) F.env) Q E s := by
 refine bc fun no => ?_; obtain ⟨mg, mb, g1, g2, _, _, _, g3⟩ := G.glob; refine no ?_
 refine bc fun no => ?_; obtain ⟨z1, z2⟩ := g3 x u hm; refine no ?_
 simp only [okG, nmk, bA, beq_iff_eq, Bool.not_eq_true'] at ok
 refine Name_function_global O.kind ok.1 (loadGlobal_builtin (env := F.env) (mg := mg) (mb := mb) (by rw [O.glob]; exact g1.keeps I.base) z1 (by rw [O.blt]; exact g2.keeps I.base) z2 q) ok.2
noncomputable def Zqg : BI → Vl
 | .len => .builtin "len"
 | .isTup => .builtin "isinstance"
 | .max => .builtin "max"
 | .abs => .builtin "abs"
 | .list => .type "list"
theorem Zoi (b : BI) : (b.name, Zqg b) ∈ [(sO "len", Value.builtin "len"), (sO "isinstance", .builtin "isinstance"), (sO "max", .builtin "max"), (sO "abs", .builtin "abs"), (sO "list", .type "list"), (sO "tuple", .type "tuple"), (sO "range", .type "range")] := by
 cases b with
 | len => exact .head _
 | isTup => exact .tail _ (.head _)
 | max => exact .tail _ (.tail _ (.head _))
 | abs => exact .tail _ (.tail _ (.tail _ (.head _)))
 | list => exact .tail _ (.tail _ (.tail _ (.tail _ (.head _))))
theorem ZfU (b : BI) : ∃ k, (k = Keeper.frame ∨ k = Keeper.machine ∨ k = Keeper.boundFrame) ∧ Looks M h (keeperOf (Zqg b)) k :=
 ⟨.machine, .inr (.inl rfl), by cases b <;> exact Looks.now⟩
noncomputable def ZlG (b : BI) (p2 : Pos) : List Expr := match b with
 | .isTup => [.Name (sO "tuple") p2]
 | _ => []
theorem Zoj : toE ns (.blt b as p1 p2 p) = .Call (.Name b.name p1) (toL ns as ++ ZlG b p2) [] p := by cases b <;> rfl
theorem Zok (G : Ground S) (hl : ZaW S C n as) (he : ∀ e, as = .cons e .nil → Snd S C n e) : Snd S C n (.blt b as p1 p2 p) := by
 intro F A W ρ st s O ok I Fi ne
 have ok := ba4 ok
 simp only [Zp7] at ne ⊢
 rw [Zoj]
 show wA _ _ (eval (.Name b.name p1) F.env >>= fun f => callWith p f [] (backTo p (starEach (toL F.ns as ++ ZlG b p2) F.env)) []) _ _ _
 refine wB (Zdo O G I ok.1.1.1 (Zoi b) ?_)
 by_cases hb : b = .isTup
 ·subst hb
  obtain ⟨ot, oa⟩ := ba2 ok.2
  cases as with
  | nil => exact nf oa rfl
  | cons e r =>
   cases r with
   | cons _ _ => exact nf oa rfl
   | nil =>
    have ok1 := ok.1.1.2
    have ok1 := ba2 ok1
    show wA _ _ (callWith p (.builtin "isinstance") [] (backTo p (starEach (toE F.ns e :: [.Name (sO "tuple") p2]) F.env)) []) _ _ _
    rw [Zao ok1.1]
    show wA _ _ (callWith p (.builtin "isinstance") [] [(false, eval (toE F.ns e) F.env), (false, eval (.Name (sO "tuple") p2) F.env)] []) _ _ _
    refine callWith_of (P := fun w => True) rfl (fun h w => ZfU .isTup) (evalArgs_plain (spliced_cons ?_))
    have e0 : (evL C (.cons e .nil) ρ st).bind (fun vs st => ofO (Zaf .isTup st vs) st) = (ev C e ρ st).bind fun v st => ofO (Zaf .isTup st [v]) st := by
     simp only [Zfe, ZdA]
     cases ev C e ρ st <;> rfl
    rw [e0] at ne ⊢
    refine wM (he e rfl F A W ρ st s O ok1.1 I Fi (Zh ne)) (fun x s' z => ?_) fun w w z => z.left
    obtain ⟨v, st', W', e1, h', tk, rfl, P, I', Fi', vx⟩ := z
    have ne2 := Zf ne e1
    refine spliced_cons (Zdo O G (s := sh s h' tk) I' ot (u := .type "tuple") (.tail _ (.tail _ (.tail _ (.tail _ (.tail _ (.head _)))))) (spliced_nil ⟨trivial, ?_⟩))
    cases q : Zaf .isTup st' [v] with
    | none => rw [q] at ne2; exact absurd rfl ne2
    | some r =>
     refine wM (Zj9 (n := n) (E := fun w w => False) (s := sh s h' tk) O.room I' Fi' (.cons vx .nil) q) (fun y s₂ z => ?_) fun w w z => z.elim
     refine QE.lift (tk := tk) P e1 ?_
     rw [q]
     exact z
 ·have e0 : (toL F.ns as ++ ZlG b p2) = toL F.ns as := by cases b <;> first | exact absurd rfl hb | exact List.append_nil _
  rw [e0]
  refine ZL hl O ok.1.1.2 I Fi ne (fun w w w w w w w w => ZfU b) fun vs us st' W' h' tk e P I' Fi' va ne2 => ?_
  cases q : Zaf b st' vs with
  | none => rw [q] at ne2; exact absurd rfl ne2
  | some r =>
   have := Zj9 (n := n) (E := EE S F W' ρ (sh s h' tk) (ofO (some r) st')) (s := sh s h' tk) (A := A) O.room I' Fi' va q
   cases b <;> first | exact absurd rfl hb | exact this
end
noncomputable def Wd.puts (W : Wd) (as fs : List Addr) : Wd := ⟨W.cs, W.fr ++ as, W.fa ++ fs⟩
noncomputable def Wd.put (W : Wd) (as : List Addr) : Wd := W.puts as []
noncomputable def Wd.back (W' W : Wd) : Wd := ⟨W'.cs, W.fr, W.fa⟩
noncomputable def Wd.promote (W' W : Wd) (as : List Addr) : Wd := ⟨W'.cs ++ [as], W.fr, W.fa⟩
section
variable {S : SC} {C : Ze} {n : Nat} {F : Fm} {W W' : Wd} {ρ : En} {st : St} {A : Ar} {s : Sh} {h h' h₁ : Heap} {E : Vl → Sh → Prop}
theorem Zbr : a ∈ (W.puts c fs).own ↔ a ∈ W.own ∨ a ∈ c := by
 simp only [Wd.own, Wd.puts, lA9, or_assoc]
theorem Zbx (k : ∀ b o, h.get? b = some o → h'.get? b = some o) (f : ∀ a ∈ as, h.get? a = none) : Grow W (W.puts as fs) h h' :=
 ⟨fun b o e y y => k b o e, fun a m => (Zbr.mp m).imp id (f a), [], by simp [Wd.puts]⟩
theorem Inv.enter (I : Inv S W st h) (k : ∀ b o, h.get? b = some o → h'.get? b = some o) (f : ∀ a ∈ as, h.get? a = none) (g : ∀ a ∈ as, ∃ o, h'.get? a = some o) (nd : as.Nodup) (hfs : ∀ a ∈ fs, a ∈ as) : Inv S (W.puts as fs) st h' := by
 have G := Zbx (W := W) (fs := fs) k f
 refine ⟨fun b o e => k _ _ (I.base b o e), I.len, fun l c mo e1 e2 => (I.cells l c mo e1 e2).mono G (fun b o e y => k b o e) (Z2 e1), ?_, fun a m => ?_, fun a m => ?_⟩
 ·have := I.nodup
  simp only [Wd.own, Wd.puts] at this ⊢
  rw [← List.append_assoc, List.nodup_append]
  refine ⟨this, nd, fun a ha b hb e => ?_⟩
  subst e
  obtain ⟨o, z⟩ := (I.fresh a ha).2
  rw [f a hb] at z; cases z
 ·rcases lA9.mp m with m | m
  ·exact lA9.mpr (.inl (I.faf a m))
  ·exact lA9.mpr (.inr (hfs a m))
 ·rcases Zbr.mp m with m | m
  ·obtain ⟨o, z⟩ := (I.fresh a m).2
   exact ⟨(I.fresh a m).1, o, k _ _ z⟩
  ·exact ⟨I.base_dead (f a m), g a m⟩
theorem ZA (e : W'.fr = W.fr ++ as) : ∀ a ∈ (W'.back W).own, a ∈ W'.own := fun a m => by
 unfold Wd.own Wd.back at *
 rw [e]
 rcases lA9.mp m with m | m
 ·exact lA9.mpr (.inl m)
 ·exact lA9.mpr (.inr (lA9.mpr (.inl m)))
theorem Zat (e : W'.fr = W.fr ++ as) : Grow W' (W'.back W) h h :=
 ⟨fun b o e y y => e, fun a m => .inl (ZA e a m), [], by simp [Wd.back]⟩
theorem Inv.leave (I : Inv S W' st h) (e : W'.fr = W.fr ++ as) (hw : ∀ a ∈ W.fa, a ∈ W.fr) : Inv S (W'.back W) st h := by
 have G := Zat (h := h) e
 refine ⟨I.base, I.len, fun l c mo e1 e2 => (I.cells l c mo e1 e2).mono G (fun b o e y => e) (Z2 e1), ?_, hw, fun a m => I.fresh a (ZA e a m)⟩
 have := I.nodup
 simp only [Wd.own, Wd.back, e] at this ⊢
 rw [← List.append_assoc] at this
 exact (List.nodup_append.mp this).1
theorem Step.inner (k : ∀ b o, h.get? b = some o → h₁.get? b = some o) (f : ∀ a ∈ as, h.get? a = none) (hfs : ∀ a ∈ fs, a ∈ as) (P : Step (W.puts as fs) W' (as ++ cur) h₁ h')
 (e1 : W''.fr = W.fr) (e0 : W''.fa = W.fa) (e2 : ∃ t, W''.cs = W'.cs ++ t) (e3 : ∀ a ∈ W''.own, a ∈ W'.own) : Step W W'' cur h h' := by
 refine ⟨⟨e1, e0, ?_⟩, ⟨fun b o e m nr => P.pers.keep b o (k _ _ e) (fun z => ?_) nr, fun b o e => P.pers.live b o (k _ _ e), fun b o e m z => ?_⟩, fun a m => ?_⟩
 ·obtain ⟨t, e2⟩ := e2
  obtain ⟨u, e4⟩ := P.ext.cs
  exact ⟨u ++ t, by rw [e2, e4, List.append_assoc]; rfl⟩
 ·rcases Zbr.mp z with z | z
  ·exact m z
  ·rw [f b z] at e; cases e
 ·obtain ⟨sl, y1, y2⟩ := P.pers.outer b o (k _ _ e) (lA9.mpr (.inl m)) fun y => by
   rcases lA9.mp y with y | y
   ·rw [f b y] at e; cases e
   ·exact z y
  refine ⟨sl, y1, fun q => y2 fun y => ?_⟩
  rcases lA9.mp y with y | y
  ·exact q y
  ·rw [f b (hfs b y)] at e; cases e
 ·rcases P.own a (e3 a m) with z | z
  ·rcases Zbr.mp z with z | z
   ·exact .inl z
   ·exact .inr (f a z)
  ·refine .inr ?_
   cases q : h.get? a with
   | none => rfl
   | some o => rw [k _ _ q] at z; cases z
theorem Zba (e : W'.fr = W.fr ++ as) : a ∈ (W'.promote W as).own ↔ a ∈ W'.own := by
 simp only [Wd.own, Wd.promote, e, List.flatten_append, List.flatten_cons, List.flatten_nil, List.append_nil, lA9]
 constructor
 ·rintro ((h | h) | h)
  ·exact .inl h
  ·exact .inr (.inr h)
  ·exact .inr (.inl h)
 ·rintro (h | h | h)
  ·exact .inl (.inl h)
  ·exact .inr h
  ·exact .inl (.inr h)
theorem Zby (e : W'.fr = W.fr ++ as) : Grow W' (W'.promote W as) h h := ⟨fun b o e y y => e, fun a m => .inl ((Zba e).mp m), [as], rfl⟩
theorem Inv.promote (I : Inv S W' st h) (e : W'.fr = W.fr ++ as) (hw : ∀ a ∈ W.fa, a ∈ W.fr) (o : OR S (W'.promote W as) h as mo) : Inv S (W'.promote W as) (st ++ [mo]) h := by
 have G := Zby (h := h) e
 refine ⟨I.base, by simp [Wd.promote, I.len], fun l c' mo' e1 e2 => ?_, ?_, hw, fun a m => I.fresh a ((Zba e).mp m)⟩
 ·simp only [Wd.promote] at e1
  by_cases hl : l < W'.cs.length
  ·rw [List.getElem?_append_left hl] at e1
   rw [List.getElem?_append_left (by rw [← I.len]; exact hl)] at e2
   exact (I.cells l c' mo' e1 e2).mono G (fun b o e y => e) (Z2 e1)
  ·rw [List.getElem?_append_right (by omega)] at e1
   rw [List.getElem?_append_right (by rw [← I.len]; omega)] at e2
   rw [← I.len] at e2
   cases q : l - W'.cs.length with
   | zero => rw [q] at e1 e2; cases e1; cases e2; exact o
   | succ j => rw [q] at e1; simp at e1
 ·have := I.nodup
  simp only [Wd.own, Wd.promote, e, List.flatten_append, List.flatten_cons, List.flatten_nil, List.append_nil] at this ⊢
  refine List.Perm.nodup ?_ this
  rw [List.append_assoc]
  exact List.Perm.append_left _ List.perm_append_comm
theorem Inv.touch (I : Inv S W st h) (m : a ∈ W.fr) (k : ∀ b o, b ≠ a → h.get? b = some o → h'.get? b = some o) (g : ∃ o, h'.get? a = some o) : Inv S W st h' := by
 have nd := I.nodup
 have apart : ∀ b ∈ W.cs.flatten, b ≠ a := fun b hb e => by
  subst e
  unfold Wd.own at nd
  exact (List.nodup_append.mp nd).2.2 b hb b m rfl
 have inn : a ∈ W.own := lA9.mpr (.inr m)
 have G : Grow W W h h' := ⟨fun b o e n y => k b o (fun z => n (z ▸ inn)) e, fun y m => .inl m, [], by simp⟩
 refine ⟨fun b o e => k b o (fun z => ?_) (I.base b o e), I.len, fun l c mo e1 e2 => (I.cells l c mo e1 e2).mono G (fun b o e hb => k b o (apart b hb) e) (Z2 e1), nd, I.faf, fun b hb => ?_⟩
 ·subst z
  rw [(I.fresh b inn).1] at e; cases e
 ·refine ⟨(I.fresh b hb).1, ?_⟩
  by_cases z : b = a
  ·subst z; exact g
  ·obtain ⟨o, e⟩ := (I.fresh b hb).2; exact ⟨o, k b o z e⟩
theorem ZM (m : a ∈ W.fr) (k : ∀ b o, b ≠ a → h.get? b = some o → h'.get? b = some o) : Grow W W h h' :=
 ⟨fun b o e n y => k b o (fun z => n (z ▸ lA9.mpr (.inr m))) e, fun y m => .inl m, [], by simp⟩
theorem Zak (m : a ∈ W.fr) (k : ∀ b o, b ≠ a → h.get? b = some o → h'.get? b = some o) (l : ∃ o, h'.get? a = some o) : Step W W [a] h h' :=
 ⟨.refl W, ⟨(ZM m k).keep, fun b o e => if q : b = a then q ▸ l else ⟨o, k b o q e⟩, fun b o e u z => ⟨o.slots, k b o (fun y => z (by rw [y]; exact .head _)) e, fun u => rfl⟩⟩, fun u m => .inl m⟩
theorem FI.leave (Fi : FI S F W' ρ h) (Fi₀ : FI S F W ρ₀ h₀) (G : Grow W' W'' h h') (fr : ∀ a ∈ W.fr, a ∈ W''.fr) (fa : ∀ a ∈ W.fa, a ∈ W''.fa) (k : ∀ b o, h.get? b = some o → b ∈ W.fr → ∃ sl, h'.get? b = some { o with slots := sl }) : FI S F W'' ρ h' := by
 refine bc fun no => ?_; obtain ⟨m, n, q⟩ := Fi.ns; refine no ?_
 refine ⟨Fi.len, fun a m => fr a (Fi₀.cur a m), fun x c e => ?_, fun e m => ?_, fr _ Fi₀.locW, ⟨m, Zce (fun o e => k _ o e Fi₀.locW) n, fun i v e => ?_⟩⟩
 ·refine bc fun no => ?_; obtain ⟨_, v, b⟩ := Fi.cells x c e; refine no ?_
  have := (Fi₀.cells x c e).1
  exact ⟨fr _ this, v, Zab (fun o e => k _ o e this) b⟩
 ·refine bc fun no => ?_; obtain ⟨a, L, b, c, d, _⟩ := Fi₀.fl e m; refine no ?_
  refine bc fun no => ?_; obtain ⟨_, L', b', _, _, o, e1, e2⟩ := Fi.fl e m; refine no ?_
  rw [b] at b'; cases b'
  refine bc fun no => ?_; obtain ⟨sl, z⟩ := k L o e1 c; refine no ?_
  exact ⟨a, L, b, fr _ c, fa _ d, _, z, e2⟩
 ·refine bc fun no => ?_; obtain ⟨x, u, e1, e2, e3⟩ := q i v e; refine no ?_
  exact ⟨x, u, e1, e2.mono G, e3.imp id fun w9 => (by obtain ⟨z, c, z1, z2⟩ := w9; exact ⟨z, c, z1, Zab (fun o e => k _ o e (Fi₀.cells x c z1).1) z2⟩)⟩
theorem Step.wider (P : Step W W' cur h h') (k : ∀ a ∈ cur, a ∈ cur') : Step W W' cur' h h' :=
 ⟨P.ext, ⟨P.pers.keep, P.pers.live, fun b o e m z => P.pers.outer b o e m fun y => z (k b y)⟩, P.own⟩
theorem FI.put (Fi : FI S F W ρ h) (k : ∀ b o, h.get? b = some o → h'.get? b = some o) (f : ∀ a ∈ as, h.get? a = none) : FI S F (W.puts as fs) ρ h' := by
 have G := Zbx (W := W) (fs := fs) k f
 refine bc fun no => ?_; obtain ⟨m, n, q⟩ := Fi.ns; refine no ?_
 have up : ∀ a, a ∈ W.fr → a ∈ (W.puts as fs).fr := fun a m => lA9.mpr (.inl m)
 refine ⟨Fi.len, fun a m => up a (Fi.cur a m), fun x c e => ?_, fun e m => ?_, up _ Fi.locW, ⟨m, n.keeps k, fun i v e => ?_⟩⟩
 ·refine bc fun no => ?_; obtain ⟨a, v, b⟩ := Fi.cells x c e; refine no ?_
  exact ⟨up _ a, v, Zab (fun o e => ⟨o.slots, k _ _ e⟩) b⟩
 ·refine bc fun no => ?_; obtain ⟨a, L, b, c, d, o, e1, e2⟩ := Fi.fl e m; refine no ?_
  exact ⟨a, L, b, up _ c, lA9.mpr (.inl d), o, k _ _ e1, e2⟩
 ·refine bc fun no => ?_; obtain ⟨x, u, e1, e2, e3⟩ := q i v e; refine no ?_
  exact ⟨x, u, e1, e2.mono G, e3.imp id fun w9 => (by obtain ⟨z, c, z1, z2⟩ := w9; exact ⟨z, c, z1, Zab (fun o e => ⟨o.slots, k _ _ e⟩) z2⟩)⟩
end
noncomputable def dp (env : Env) (ns : List Str) (pos : Pos) : List (Cst × Pos) → CL → List (Sem Vl × Sem Vl)
 | k :: ks, .cons e r => (eval (.Constant k.1.c 0 k.2) env, eval (toE ns e) env >>= fun x => standAt pos >>= fun _ => pure x) :: dp env ns pos ks r
 | _, _ => []
theorem Zka : ∀ {vs : CL}, ks.length = vs.len → (dp env ns pos ks vs).length = ks.length := by
 induction ks with
 | nil => intro vs h; cases vs <;> rfl
 | cons k ks ih => intro vs h; cases vs with
  | nil => cases h
  | cons e r => exact congrArg (· + 1) (ih (Nat.succ.inj h))
theorem ZfV : ∀ {vs : CL}, ks.length = vs.len →
 (evalEachOpt (ks.map fun k => some (.Constant k.1.c 0 k.2)) env).zip ((evalEach (toL ns vs) env).map fun v => (v >>= fun x => standAt pos >>= fun y => pure x)) = (dp env ns pos ks vs).map fun p => (some p.1, p.2) := by
 induction ks with
 | nil => intro vs h; cases vs with
  | nil => rfl
  | cons _ _ => cases h
 | cons k ks ih => intro vs h; cases vs with
  | nil => cases h
  | cons e r => exact congrArg (_ :: ·) (ih (Nat.succ.inj h))
noncomputable def ZdO (S : SC) (C : Ze) (n : Nat) : CL → Prop
 | .nil => True
 | .cons e r => Snd S C n e ∧ ZdO S C n r
theorem ZhL (e : ZaD k = some x) : k = (.str x, k.2) := by
 obtain ⟨c, p⟩ := k
 cases c with
 | str y => cases e; rfl
 | _ => exact nn e rfl
theorem ZhM (e : Zed k = some x) : k = (.int x, k.2) := by
 obtain ⟨c, p⟩ := k
 cases c with
 | int y => cases e; rfl
 | _ => exact nn e rfl
structure KC (S : SC) (K : Type) [DecidableEq K] where
 knd : PySem.KeyKind S.prog S.w K
 kf : Cst × Pos → Option K
 ok : ∀ {k : Cst × Pos} {x : K}, kf k = some x → ∀ {M : Model} {A : Ar} {E : Vl → Sh → Prop} {s : Sh} {env : Env} {Q : Vl → Sh → Prop}, (∀ v tk, knd.is x v = true → Q v { s with toks := tk }) → wA M A (eval (.Constant k.1.c 0 k.2) env) Q E s
noncomputable def kcS (S : SC) : KC S Str := ⟨PySem.strKind S.prog S.w, ZaD, fun {k x} e {M A E s env Q} q => by
 rw [ZhL e]
 exact wpAny_Constant_str (q _ _ (beq_self_eq_true x))⟩
noncomputable def kcI (S : SC) : KC S Int := ⟨PySem.intKind S.prog S.w, Zed, fun {k x} e {M A E s env Q} q => by
 rw [ZhM e]
 exact wpAny_Constant_int (q _ _ (beq_self_eq_true x))⟩
section
variable {S : SC} {C : Ze} {n : Nat} {F : Fm} {W W' : Wd} {ρ : En} {st : St} {A : Ar} {s : Sh} {h h' h₁ : Heap} {E : Vl → Sh → Prop} {K : Type} [DecidableEq K]
noncomputable def VPs (kc : KC S K) (ks : List (Cst × Pos)) (W : Wd) (h : Heap) (x : List (Vl × Vl)) (vs : List MV) : Prop := ∃ kvs : List (K × Vl), Carries kc.knd x kvs ∧ kvs.map (·.1) = ks.filterMap kc.kf ∧ All2 (fun kv v => VR S W h kv.2 v) kvs vs
theorem Zhp (kc : KC S K) (O : FmOk F A n) : ∀ {vs : CL}, ZdO S C n vs → (∀ k ∈ ks, (kc.kf k).isSome = true) → ks.length = vs.len → Zu F.env.scope.names F.ns vs = true → ∀ {W : Wd} {st : St} {s : Sh}, Inv S W st s.heap → FI S F W ρ s.heap → evL C vs ρ st ≠ .no →
 wA S.M A (evalPairs (dp F.env F.ns pos ks vs)) (QE S F W ρ s (VPs kc ks) (evL C vs ρ st)) (EE S F W ρ s (evL C vs ρ st)) s := by
 induction ks with
 | nil => intro vs _ _ h _ W st s I Fi _; cases vs with
  | nil => exact evalPairs_nil (q_same' I Fi ⟨[], trivial, rfl, .nil⟩)
  | cons _ _ => cases h
 | cons k ks ih => intro vs he hk hl ok W st s I Fi ne; cases vs with
  | nil => cases hl
  | cons e r =>
   have hl := Nat.succ.inj hl
   have ok := Bool.and_eq_true_iff.mp ok
   rw [ZdA] at ne ⊢
   obtain ⟨x, hx⟩ := Option.isSome_iff_exists.mp (hk k (.head _))
   refine evalPairs_cons (kc.ok hx fun kv tk hkv => ?_)
   refine wB ?_
   refine wM (he.1 F A W ρ st { s with toks := tk } O ok.1 I Fi (Zh ne)) (fun y s' z => ?_) fun y s' z => ?_
   ·obtain ⟨v, st', W', e1, h', tk', rfl, P, I', Fi', vy⟩ := z
    have ne2 := Zf ne e1
    refine wB (wS (wP ?_))
    refine wM (ih he.2 (fun k m => hk k (.tail _ m)) hl ok.2 (s := (sh s h' tk')) I' Fi' (Zh ne2)) (fun ps s₂ z => ?_) fun u u z => EE.lift (tk := tk') P e1 (EE.left z)
    obtain ⟨vs, st₂, W₂, e2, h₂, tk₂, rfl, P₂, I₂, Fi₂, kvs, c1, c2, c3⟩ := z
    refine QE.lift (tk := tk') P e1 ⟨v :: vs, st₂, W₂, by rw [e2]; rfl, h₂, tk₂, rfl, P₂, I₂, Fi₂, (x, y) :: kvs, ⟨hkv, rfl, c1⟩, ?_, .cons (vy.mono P₂.grow) c3⟩
    simp only [lM9, List.filterMap_cons, hx, c2]
   ·exact EE.left (s := s) z
theorem ZlH (kc : KC S K) {ks : List (Cst × Pos)} : (∀ k ∈ ks, (kc.kf k).isSome = true) → (ks.filterMap kc.kf).length = ks.length := by
 induction ks with
 | nil => exact fun y => rfl
 | cons k ks ih =>
  intro h
  obtain ⟨x, hx⟩ := Option.isSome_iff_exists.mp (h k (.head _))
  rw [List.filterMap_cons, hx]
  exact congrArg (· + 1) (ih fun k m => h k (.tail _ m))
theorem ZdP (kc : KC S K) (O : FmOk F A n) (he : ZdO S C n vs) (hk : ∀ k ∈ ks, (kc.kf k).isSome = true) (hl : ks.length = vs.len) (h0 : ks ≠ []) (h15 : ks.length ≤ 15) (nd : (ks.filterMap kc.kf).Nodup)
 (ok : Zu F.env.scope.names F.ns vs = true) (hfa : s.heap.objs.size ∉ W.fa) (I : Inv S W st s.heap) (Fi : FI S F W ρ s.heap) (ne : evL C vs ρ st ≠ .no)
 (q : ∀ us st' W₂ h₂ h' tk kvs, evL C vs ρ st = .ok us st' → Step (W.put [s.heap.objs.size]) W₂ F.cur (s.heap.push emptyDict) h₂ → Inv S W₂ st' h' → FI S F W₂ ρ h₂ → Step W₂ W₂ [s.heap.objs.size] h₂ h' → h'.DictOf kc.knd s.heap.objs.size kvs →
  kvs.map (·.1) = ks.filterMap kc.kf → All2 (fun kv v => VR S W₂ h' kv.2 v) kvs us → Q (.ref s.heap.objs.size) (sh s h' tk)) (hE : ∀ x s', EE S F W ρ s (evL C vs ρ st) x s' → E x s') :
 wA S.M A (eval (.Dict (ks.map fun k => some (.Constant k.1.c 0 k.2)) (toL F.ns vs) pos) F.env) Q E s := by
 have pl : (dp F.env F.ns pos ks vs).length = ks.length := Zka hl
 have pk : ∀ b o, s.heap.get? b = some o → (s.heap.push emptyDict).get? b = some o := Zd
 have pd : ∀ a ∈ [s.heap.objs.size], s.heap.get? a = none := fun a m => by rw [lS9.mp m]; exact Z0
 have pg : (s.heap.push emptyDict).get? s.heap.objs.size = some emptyDict := Heap.get?_push_size _ rfl
 have I₁ : Inv S (W.put [s.heap.objs.size]) st (s.heap.push emptyDict) := I.enter pk pd (fun a m => by rw [lS9.mp m]; exact ⟨_, pg⟩) (by simp) (fun y m => nomatch m)
 have Fi₁ : FI S F (W.put [s.heap.objs.size]) ρ (s.heap.push emptyDict) := Fi.put (fs := []) pk pd
 refine wpAny_Dict_pairs (knd := kc.knd) (ZfV hl) (fun z => h0 (by rw [← List.length_eq_zero_iff, ← pl, z]; rfl)) (by omega) ?_
 refine wM (Zhp kc (pos := pos) O he hk hl ok (s := { s with heap := s.heap.push emptyDict }) I₁ Fi₁ ne) (fun ps s₁ z => ?_) fun x s' z => hE _ _ ?_
 ·refine bc fun no => ?_; obtain ⟨us, st', W₂, e1, h₂, tk, rfl, P, I₂, Fi₂, kvs, c1, c2, c3⟩ := z; refine no ?_
  have inn : s.heap.objs.size ∈ W₂.fr := by rw [P.ext.fr]; exact lA9.mpr (.inr (.head _))
  have nfa : s.heap.objs.size ∉ W.fa := hfa
  have nc : s.heap.objs.size ∉ F.cur := fun m => Z1 I (lA9.mpr (.inr (Fi.cur _ m)))
  refine bc fun no => ?_; obtain ⟨sl, g1, g2⟩ := P.pers.outer _ _ pg (lA9.mpr (.inr (.head _))) nc; refine no ?_
  have g3 : h₂.get? s.heap.objs.size = some emptyDict := by rw [g1, g2 (fun m => nfa (by simpa [Wd.put, Wd.puts] using m))]
  refine ⟨kvs, c1, ⟨_, #[], 0, g3, ⟨rfl, rfl, rfl⟩, rfl, fun y he => by simp at he, Pairs.nil, List.nodup_nil⟩, fun h' d hs => ?_⟩
  rw [merged_nil_of_nodup _ (by rw [c2]; exact nd)] at d
  have hsk : ∀ b o, b ≠ s.heap.objs.size → h₂.get? b = some o → h'.get? b = some o := fun b o nb e => (hs.2 b nb).trans e
  refine bc fun no => ?_; obtain ⟨od, esd, epd, g4, g5, g6, _⟩ := id d; refine no ?_
  refine q us st' W₂ h₂ h' _ kvs e1 P (I₂.touch inn hsk ⟨od, g4⟩) Fi₂ (Zak inn hsk ⟨od, g4⟩) d c2 (c3.imp fun y y z => z.mono (ZM inn hsk))
 ·refine bc fun no => ?_; obtain ⟨c, fs, st', W₂, a, e1, rfl, h', tk, rfl, P, I₂, Fi₂, X⟩ := z; refine no ?_
  have e2 : W₂.fr = W.fr ++ [s.heap.objs.size] := P.ext.fr
  have sub := ZA e2
  have P' : Step W (W₂.back W) F.cur s.heap h' := Step.inner (fs := []) pk pd (fun y m => nomatch m) (P.wider fun a m => lA9.mpr (.inr m)) rfl rfl ⟨[], by simp [Wd.back]⟩ sub
  refine ⟨c, fs, st', W₂.back W, a, e1, rfl, h', tk, rfl, P', I₂.leave e2 I.faf, Fi₂.leave Fi (Zat e2) (fun y m => m) (fun y m => m) (fun b o e y => ⟨o.slots, e⟩), X.weaken (fun b y e => ?_) sub⟩
  cases q : s.heap.get? b with
  | none => rfl
  | some o => rw [pk b o q] at e; cases e
end
section
variable {S : SC} {C : Ze} {n : Nat} {F : Fm} {W W' : Wd} {ρ : En} {st : St} {A : Ar} {s : Sh} {h h' h₁ : Heap} {E : Vl → Sh → Prop}
theorem ZrZ (e : (match v with | .d x => some (MW.d x) | .fn f => some (MW.fn f) | _ => none : Option MW) = some w) (q : VR S W h u v) : WR S W.own h u w := by
 cases v <;> cases e <;> exact q
theorem Zkb {K : Type} {kf : Cst × Pos → Option K} {dk : K → DK} (hkf : ∀ {k x}, kf k = some x → Za9 k.1.d = some (dk x)) {kvs : List (K × Vl)} (e : Zbh ks us = some es) (hk : (∀ k ∈ ks, (kf k).isSome = true)) (hm : kvs.map (·.1) = ks.filterMap kf) (a : All2 (fun kv v => VR S W h kv.2 v) kvs us) :
 All2 (fun (kv : K × Vl) (e : DK × MW) => e.1 = dk kv.1 ∧ WR S W.own h kv.2 e.2) kvs es := by
 induction a generalizing ks es with
 | nil => cases ks with
  | nil => cases e; exact .nil
  | cons k r => exact nn e rfl
 | @cons kv v kvs us a t ih => cases ks with
  | nil => exact nn e rfl
  | cons k ks =>
   obtain ⟨x, hx⟩ := Option.isSome_iff_exists.mp (hk k (.head _))
   rw [lM9, List.filterMap_cons, hx] at hm
   injection hm with h1 h2
   rw [ZsW, hkf hx] at e
   obtain ⟨q, hq, e⟩ := ZaN e
   cases hq
   obtain ⟨w, e1, e⟩ := ZaN e
   obtain ⟨r, e2, rfl⟩ := Option.map_eq_some_iff.mp e
   exact .cons ⟨h1 ▸ rfl, ZrZ e1 a⟩ (ih e2 (fun k m => hk k (.tail _ m)) h2)
theorem Zkc {ks : List (Cst × Pos)} {us : List MV} {kvs : List (Str × Vl)} {es : List (DK × MW)} (e : Zbh ks us = some es) (hk : (∀ k ∈ ks, (ZaD k).isSome = true)) (hm : kvs.map (·.1) = ks.filterMap ZaD) (a : All2 (fun kv v => VR S W h kv.2 v) kvs us) :
 All2 (fun (kv : Str × Vl) (e : DK × MW) => e.1 = .s kv.1 ∧ WR S W.own h kv.2 e.2) kvs es :=
 Zkb (dk := .s) (fun e => by rw [ZhL e]; rfl) e hk hm a
theorem Zqh {ks : List (Cst × Pos)} {us : List MV} {kvs : List (Int × Vl)} {es : List (DK × MW)} (e : Zbh ks us = some es) (hk : (∀ k ∈ ks, (Zed k).isSome = true)) (hm : kvs.map (·.1) = ks.filterMap Zed) (a : All2 (fun kv v => VR S W h kv.2 v) kvs us) :
 All2 (fun (kv : Int × Vl) (e : DK × MW) => e.1 = .i kv.1 ∧ WR S W.own h kv.2 e.2) kvs es :=
 Zkb (dk := .i) (fun e => by rw [ZhM e]; rfl) e hk hm a
theorem Zkd (e : Zbg (k :: ks) (v :: us) = some es) : ∃ x r, k = (.str x, k.2) ∧ Zbg ks us = some r ∧ (x, v) :: r = es := by
 obtain ⟨c, p⟩ := k
 cases c with
 | str x => obtain ⟨r, e2, e3⟩ := Option.map_eq_some_iff.mp (show (Zbg ks us).map ((x, v) :: ·) = some es from e); exact ⟨x, r, rfl, e2, e3⟩
 | _ => exact nn e rfl
theorem Zke {P : Prop} (e : Zbg (k :: ks) [] = some es) : P := by
 obtain ⟨c, p⟩ := k
 cases c <;> exact nn e rfl
theorem Zqi {es : List (Str × MV)} (e : Zbg ks us = some es) (hm : kvs.map (·.1) = ks.filterMap ZaD) (a : All2 (fun kv v => VR S W h kv.2 v) kvs us) :
 All2 (fun (kv : Str × Vl) (e : Str × MV) => kv.1 = e.1 ∧ VR S W h kv.2 e.2) kvs es := by
 induction a generalizing ks es with
 | nil => cases ks with
  | nil => cases e; exact .nil
  | cons k r => exact Zke e
 | @cons kv v kvs us a t ih => cases ks with
  | nil => exact nn e rfl
  | cons k ks =>
   obtain ⟨x, r, hk, e2, rfl⟩ := Zkd e
   rw [hk, lM9, List.filterMap_cons] at hm
   injection hm with h1 h2
   exact .cons ⟨h1, a⟩ (ih e2 h2)
theorem ZeE {r : RV (List MV)} (I : Inv S W st s.heap) (Fi : FI S F W ρ s.heap) (ea : a = s.heap.objs.size)
 (e : r = .ok us st') (P : Step (W.put [a]) W₂ F.cur (s.heap.push emptyDict) h₂) (I₂ : Inv S W₂ st' h') (Fi₂ : FI S F W₂ ρ h₂) (P₂ : Step W₂ W₂ [a] h₂ h') (ef : f us st' = .ok v st') (q : VR S (W₂.back W) h' x v) :
 QE S F W ρ s (VR S) (r.bind f) x (sh s h' tk) := by
 subst ea
 have e2 : W₂.fr = W.fr ++ [s.heap.objs.size] := P.ext.fr
 have pd : ∀ a ∈ [s.heap.objs.size], s.heap.get? a = none := fun a m => by rw [lS9.mp m]; exact Z0
 have P₁ : Step (W.put [s.heap.objs.size]) W₂ ([s.heap.objs.size] ++ F.cur) (s.heap.push emptyDict) h' := (P.wider fun a m => lA9.mpr (.inr m)).trans (P₂.wider fun a m => lA9.mpr (.inl m))
 refine ⟨v, st', W₂.back W, by rw [e]; exact ef, h', tk, rfl, Step.inner (fs := []) Zd pd (fun y m => nomatch m) P₁ rfl rfl ⟨[], by simp [Wd.back]⟩ (ZA e2), I₂.leave e2 I.faf, ?_, q⟩
 refine Fi₂.leave Fi ?_ (fun y m => m) (fun y m => m) fun b o eb hb => ?_
 ·have g1 := P₂.grow
  have g2 := Zat (h := h') e2
  exact ⟨fun b o e m nr => g2.keep b o (g1.keep b o e m nr) m nr, fun b m => .inl (ZA e2 b m), g2.cs⟩
 ·obtain ⟨sl, z, _⟩ := P₂.pers.outer b o eb (by rw [e2]; exact lA9.mpr (.inl hb)) (fun m => Z1 I (by rw [lS9.mp m] at hb; exact lA9.mpr (.inr hb)))
  exact ⟨sl, z⟩
theorem Zdp (I₂ : Inv S W₂ st' h') (e2 : W₂.fr = W.fr ++ [a]) : a ∉ (W₂.back W).own := by
 intro m
 have nd := I₂.nodup
 unfold Wd.own Wd.back at *
 rw [e2, ← List.append_assoc] at nd
 exact (List.nodup_append.mp nd).2.2 a m a (.head _) rfl
theorem Zbz (G : Ground S) (I : Inv S W st h) : h.objs.size ≠ sysModules := fun e => by
 obtain ⟨a, o, la, z⟩ := G.mods
 have := Heap.lt_size (I.base _ _ z)
 rw [e] at this
 exact Nat.lt_asymm this la
theorem Zkf {r : RV (List MV)} (I : Inv S W st s.heap) (Fi : FI S F W ρ s.heap) (ea : a = s.heap.objs.size)
 (e : r = .ok us st') (P : Step (W.put [a]) W₂ F.cur (s.heap.push emptyDict) h₂) (I₂ : Inv S W₂ st' h') (Fi₂ : FI S F W₂ ρ h₂) (P₂ : Step W₂ W₂ [a] h₂ h') (ef : f us st' = .ok (.loc st'.length) (st' ++ [mo])) (o : OR S (W₂.promote W [a]) h' [a] mo) :
 QE S F W ρ s (VR S) (r.bind f) (.ref a) (sh s h' tk) := by
 subst ea
 have e2 : W₂.fr = W.fr ++ [s.heap.objs.size] := P.ext.fr
 have pd : ∀ a ∈ [s.heap.objs.size], s.heap.get? a = none := fun a m => by rw [lS9.mp m]; exact Z0
 have P₁ : Step (W.put [s.heap.objs.size]) W₂ ([s.heap.objs.size] ++ F.cur) (s.heap.push emptyDict) h' := (P.wider fun a m => lA9.mpr (.inr m)).trans (P₂.wider fun a m => lA9.mpr (.inl m))
 refine ⟨.loc st'.length, st' ++ [mo], W₂.promote W [s.heap.objs.size], by rw [e]; exact ef, h', tk, rfl, Step.inner (fs := []) Zd pd (fun y m => nomatch m) P₁ rfl rfl ⟨[[s.heap.objs.size]], rfl⟩ (fun a m => (Zba e2).mp m), I₂.promote e2 I.faf o, ?_, ?_⟩
 ·refine Fi₂.leave Fi ?_ (fun y m => m) (fun y m => m) fun b o eb hb => ?_
  ·have g1 := P₂.grow
   have g2 := Zby (h := h') e2
   exact ⟨fun b o e m nr => g2.keep b o (g1.keep b o e m nr) m nr, fun b m => .inl ((Zba e2).mp m), g2.cs⟩
  ·obtain ⟨sl, z, _⟩ := P₂.pers.outer b o eb (by rw [e2]; exact lA9.mpr (.inl hb)) (fun m => Z1 I (by rw [lS9.mp m] at hb; exact lA9.mpr (.inr hb)))
   exact ⟨sl, z⟩
 ·exact ⟨s.heap.objs.size, [], I₂.len ▸ List.getElem?_concat_length, rfl⟩
theorem ZlI {ks : List (Cst × Pos)} : ∀ {us : List MV} {es : List (Str × MV)}, Zbg ks us = some es → es.length = ks.length := by
 induction ks with
 | nil => intro us es e; cases us with
  | nil => cases e; rfl
  | cons _ _ => exact nn e rfl
 | cons k ks ih => intro us es e; cases us with
  | nil => exact Zke e
  | cons v us => obtain ⟨x, r, hk, e2, rfl⟩ := Zkd e; exact congrArg (· + 1) (ih e2)
theorem Zei (ne : ZaK t ks vs st ≠ .no) : (t = true ∧ ∃ es, Zbg ks vs = some es) ∨ (t = false ∧ ∃ es, Zbh ks vs = some es) := by
 cases t with
 | true =>
  cases q : Zbg ks vs with
  | none => simp only [ZaK, q] at ne; exact absurd rfl ne
  | some es => exact .inl ⟨rfl, es, rfl⟩
 | false =>
  cases q : Zbh ks vs with
  | none => simp only [ZaK, q] at ne; exact absurd rfl ne
  | some es => exact .inr ⟨rfl, es, rfl⟩
noncomputable def Zm3 (S : SC) (C : Ze) (n : Nat) (ks : List (Cst × Pos)) (vs : CL) (p : Pos) : Prop := 18 ≤ ks.length → Snd S C n (.dict ks vs false p)
theorem ZlJ (G : Ground S) {ks : List (Cst × Pos)} {vs : CL} {t : Bool} {p : Pos} (he : ZdO S C n vs) (long : Zm3 S C n ks vs p) : Snd S C n (.dict ks vs t p) := by
 intro F A W ρ st s O ok I Fi ne
 have ok' := ok
 simp only [ZfI, okK, bA, Bool.or_eq_true, decide_eq_true_eq, beq_iff_eq, Bool.not_eq_true', List.all_eq_true] at ok
 obtain ⟨⟨o1, ⟨⟨⟨o2, o3⟩, o4⟩, o5⟩, o6⟩, o7⟩ := ok
 by_cases hlong : 18 ≤ ks.length
 ·have : t = false := by
   rcases o5 with z | z
   ·exact absurd (o2 ▸ hlong) (Nat.not_le.mpr (Nat.lt_of_le_of_lt z (by decide)))
   ·exact z.1
  subst this
  exact long hlong F A W ρ st s O ok' I Fi ne
 have h15 : ks.length ≤ 15 := o5.elim (fun z => o2 ▸ z) fun z => absurd (by rw [o2, z.2]; decide) hlong
 simp only [ZhE] at ne ⊢
 show wA _ _ (eval (.Dict (ks.map fun k => some (.Constant k.1.c 0 k.2)) (toL F.ns vs) p) F.env) _ _ _
 by_cases h0 : ks = []
 ·subst h0
  cases vs with
  | cons _ _ => exact nomatch o2
  | nil =>
   have : t = false := o4.resolve_left (by decide)
   subst this
   simp only [Zfe, ZdA]
   refine wpAny_Dict_empty ?_
   refine Zbw I Fi ⟨_, rfl, Z1 I, Zbz G I, .inl ⟨[], Heap.DictOf.new _, .nil⟩⟩
 ·rcases o6 with ⟨k1, k2⟩ | ⟨⟨k0, k1⟩, k2⟩
  ·refine ZdP (kcS S) O he k1 o2 h0 h15 k2 o1 (ZjY I) I Fi (Zh ne) (fun us st' W₂ h₂ h' tk kvs e1 P I₂ Fi₂ P₂ d dk dv => ?_) fun x s' z => z.left
   rcases Zei (Zf ne e1) with ⟨rfl, es, ez⟩ | ⟨rfl, es, ez⟩
   ·refine Zkf (mo := .dict es) I Fi rfl e1 P I₂ Fi₂ P₂ (by simp only [ZaK, ez]) ?_
    refine ⟨Zbz G I, kvs, d, Zqi ez dk (dv.imp fun y y z => z.mono (Zby P.ext.fr)), ?_⟩
    rw [ZlI ez]; exact Nat.le_trans h15 (by decide)
   ·refine ZeE (v := .dic es) I Fi rfl e1 P I₂ Fi₂ P₂ (by simp only [ZaK, ez]) ?_
    exact ⟨_, rfl, Zdp I₂ P.ext.fr, Zbz G I, .inl ⟨kvs, d, Zkc ez k1 dk (dv.imp fun y y z => z.mono (Zat P.ext.fr))⟩⟩
  ·refine ZdP (kcI S) O he k1 o2 h0 h15 k2 o1 (ZjY I) I Fi (Zh ne) (fun us st' W₂ h₂ h' tk kvs e1 P I₂ Fi₂ P₂ d dk dv => ?_) fun x s' z => z.left
   subst k0
   rcases Zei (Zf ne e1) with ⟨z, es, ez⟩ | ⟨_, es, ez⟩
   ·cases z
   ·refine ZeE (v := .dic es) I Fi rfl e1 P I₂ Fi₂ P₂ (by simp only [ZaK, ez]) ?_
    exact ⟨_, rfl, Zdp I₂ P.ext.fr, Zbz G I, .inr ⟨kvs, d, Zqh ez k1 dk (dv.imp fun y y z => z.mono (Zat P.ext.fr))⟩⟩
end
structure RC (W : Wd) (lo h h' : Heap) : Prop where
 own : ∀ b o, h.get? b = some o → b ∈ W.own → ∃ sl, h'.get? b = some { o with slots := sl } ∧ (b ∉ W.fa → sl = o.slots)
 keep : ∀ b o, h.get? b = some o → b ∉ W.own → NR o → h'.get? b = some o
 old : ∀ b o, h.get? b = some o → b ∉ W.own → lo.get? b ≠ none → h'.get? b = some o
 live : ∀ b o, h.get? b = some o → ∃ o', h'.get? b = some o'
section
variable {S : SC} {C : Ze} {n : Nat} {F : Fm} {W W₀ W' : Wd} {ρ : En} {st : St} {A : Ar} {s : Sh} {lo h h' h₁ : Heap} {E : Vl → Sh → Prop}
theorem RC.trans (a : RC W lo h h₁) (b : RC W lo h₁ h') : RC W lo h h' :=
 ⟨fun x o e m => (by obtain ⟨_, z, y⟩ := a.own x o e m; exact (by obtain ⟨sl, z', y'⟩ := b.own x _ z m; exact ⟨sl, z', fun q => (y' q).trans (y q)⟩)),
  fun x o e m r => b.keep x o (a.keep x o e m r) m r, fun x o e m l => b.old x o (a.old x o e m l) m l, fun x o e => (by obtain ⟨_, z⟩ := a.live x o e; exact b.live x _ z)⟩
theorem RC.push : RC W lo h (h.push o) :=
 ⟨fun b o e y => ⟨o.slots, Zd b o e, fun y => rfl⟩, fun b o e y y => Zd b o e, fun b o e y y => Zd b o e, fun b o e => ⟨o, Zd b o e⟩⟩
theorem RC.refl : RC W lo h h := ⟨fun b o e y => ⟨o.slots, e, fun y => rfl⟩, fun b o e y y => e, fun b o e y y => e, fun b o e => ⟨o, e⟩⟩
theorem RC.recd (e : h.get? a = some o) (hd : o.data = .fields vs) (l : lo.get? a = none) (n : a ∉ W.own) : RC W lo h (h.update a (Obj.mapFields f)) := by
 have oth : ∀ b, b ≠ a → (h.update a (Obj.mapFields f)).get? b = h.get? b := fun b nb => Heap.get?_update_other _ _ (Ne.symm nb)
 have at_ := Heap.get?_update_self (Obj.mapFields f) e (Obj.isFreed_of_fields (Obj.data_mapFields hd f))
 refine ⟨fun b o' e' m => ⟨o'.slots, (oth b fun z => n (z ▸ m)).trans e', fun y => rfl⟩, fun b o' e' _ r => ?_, fun b o' e' _ l' => (oth b fun z => l' (z ▸ l)).trans e', fun b o' e' => ?_⟩
 ·refine (oth b fun z => ?_).trans e'
  subst z
  rw [e] at e'; cases e'
  exact r vs hd
 ·by_cases z : b = a
  ·subst z; exact ⟨_, at_⟩
  ·exact ⟨o', (oth b z).trans e'⟩
theorem RC.slots (x : Heap.SlotsOnly ls h h') (sub : ∀ a ∈ ls, a ∈ W.fa) (hw : ∀ a ∈ W.fa, a ∈ W.fr) : RC W lo h h' := by
 have out : ∀ b, b ∉ W.own → h'.get? b = h.get? b := fun b n => x.2.1 b fun m => n (lA9.mpr (.inr (hw b (sub b m))))
 refine ⟨fun b o e m => ?_, fun b o e n u => (out b n).trans e, fun b o e n u => (out b n).trans e, fun b o e => (by obtain ⟨sl, z⟩ := x.2.2 b o e; exact ⟨_, z⟩)⟩
 by_cases z : b ∈ ls
 ·obtain ⟨sl, y⟩ := x.2.2 b o e
  exact ⟨sl, y, fun q => absurd (sub b z) q⟩
 ·exact ⟨o.slots, (x.2.1 b z).trans e, fun u => rfl⟩
theorem RC.grow (r : RC W lo h h') : Grow W W h h' := ⟨fun b o e n nr => r.keep b o e n nr, fun y m => .inl m, [], by simp⟩
theorem RC.inv (r : RC W lo h h') (I : Inv S W st h) (hb : ∀ b o, S.h₀.get? b = some o → lo.get? b = some o) : Inv S W st h' := by
 have nd := I.nodup
 have cell : ∀ b ∈ W.cs.flatten, b ∈ W.own ∧ b ∉ W.fa := fun b m => ⟨lA9.mpr (.inl m), fun z => (List.nodup_append.mp nd).2.2 b m b (I.faf b z) rfl⟩
 refine ⟨fun b o e => ?_, I.len, fun l c mo e1 e2 => (I.cells l c mo e1 e2).mono r.grow (fun b o e m => ?_) (Z2 e1), nd, I.faf, fun b m => ?_⟩
 ·refine r.old b o (I.base b o e) (fun m => ?_) (by rw [hb b o e]; simp)
  rw [(I.fresh b m).1] at e; cases e
 ·obtain ⟨m1, m2⟩ := cell b m
  obtain ⟨sl, z, y⟩ := r.own b o e m1
  rw [z, y m2]
 ·obtain ⟨o, e⟩ := (I.fresh b m).2
  obtain ⟨sl, z, _⟩ := r.own b o e m
  exact ⟨(I.fresh b m).1, _, z⟩
theorem RC.fi (r : RC W lo h h') (Fi : FI S F W ρ h) : FI S F W ρ h' := Fi.mono r.grow (.refl W) fun b o e m => (by obtain ⟨sl, z, _⟩ := r.own b o e (lA9.mpr (.inr m)); exact ⟨sl, z⟩)
theorem RC.step (r : RC W lo h h') (P : Step W₀ W cur lo h) : Step W₀ W cur lo h' := by
 have notin : ∀ b o, lo.get? b = some o → b ∉ W₀.own → b ∉ W.own := fun b o e n m => (P.own b m).elim n fun q => by rw [q] at e; cases e
 refine ⟨P.ext, ⟨fun b o e n nr => r.keep b o (P.pers.keep b o e n nr) (notin b o e n) nr, fun b o e => (by obtain ⟨_, z⟩ := P.pers.live b o e; exact r.live b _ z), fun b o e m z => ?_⟩, P.own⟩
 obtain ⟨sl, y1, y2⟩ := P.pers.outer b o e m z
 obtain ⟨sl', y3, y4⟩ := r.own b _ y1 (lA9.mpr (.inr (P.ext.fr ▸ m)))
 exact ⟨sl', y3, fun q => (y4 (P.ext.fa ▸ q)).trans (y2 q)⟩
noncomputable def Zkg : Heap := {}
theorem ZiE (b : Addr) : Zkg.get? b = none := Heap.get?_none_of_le (Nat.zero_le _)
theorem Zkh (k : ∀ e ∈ l, e.scope.kind ≠ .module ∧ ∃ L, e.frame = some L ∧ L ∈ W.fr ∧ L ∈ W.fa ∧ ∃ o, h.get? L = some o ∧ ∀ vs, o.data ≠ .fields vs) : h.FunFrames Zkg l := by
 induction l with
 | nil => trivial
 | cons e r ih =>
  refine bc fun no => ?_; obtain ⟨a, L, b, _, _, o, e1, e2⟩ := k e (.head _); refine no ?_
  exact ⟨a, ⟨L, o, b, ZiE _, e1, e2⟩, ih fun x m => k x (.tail _ m)⟩
theorem ZeF {l : List Env} (k : ∀ e ∈ l, e.scope.kind ≠ .module ∧ ∃ L, e.frame = some L ∧ L ∈ W.fr ∧ L ∈ W.fa ∧ ∃ o, h.get? L = some o ∧ ∀ vs, o.data ≠ .fields vs) : ∀ a ∈ l.filterMap (·.frame), a ∈ W.fa := by
 intro a m
 obtain ⟨e, he, hf⟩ := List.mem_filterMap.mp m
 obtain ⟨_, L, b, _, d, _⟩ := k e he
 rw [b] at hf; cases hf
 exact d
theorem ZiF (h : e.frame = e'.frame) : PySem.frameOf e = PySem.frameOf e' := by unfold PySem.frameOf; rw [h]
theorem Zhq {L e : Addr} (O : FmOk F A n) (Fi : FI S F W ρ s.heap) (hL : F.env.frame = some L)
 (he : s.heap.get? e = some oe) (hd : oe.data = .fields vs) (hz : 1 < vs.size) (ne : e ∉ W.own) (hw : ∀ a ∈ W.fa, a ∈ W.fr)
 (q : ∀ h₁ oT ts, Heap.SlotsOnly (F.fl.filterMap (·.frame)) s.heap h₁ → h₁.get? e = some oe → oT.data = .fields ts → ts[3]? = some (rawInt L) → oT.isFreed = false → Q () { s with heap := (h₁.push oT).update e (Obj.mapFields (·.setIfInBounds 1 (.ref h₁.objs.size))) }) :
 wA S.M A (do let a ← PySem.frameOf F.env; let pl ← entryPlaceOf L hadNext; let b ← EntryCells.newEntry head a .none (rawInt L) .none pl; setField (.ref e) 1 b) Q E s := by
 refine bc fun no => ?_; obtain ⟨e0, r, L', f1, f2, f3⟩ := O.head; refine no ?_
 rw [hL] at f3; cases f3
 have hl := Zkh Fi.fl
 have hfr := O.frames
 rw [f1] at hl hfr
 rw [ZiF (hL.trans f2.symm)]
 refine wB (wpAny_frameOf_fun hfr hl f2 fun h₁ hs₁ => ?_)
 refine wB (wpAny_entryPlaceOf fun pl hpl => ?_)
 unfold EntryCells.newEntry newFields
 refine wB (wpAny_newObj_type ?_ (hpl.sizeOk5 _ _ _ _ _))
 have hs₂ : Heap.SlotsOnly (F.fl.filterMap (·.frame)) s.heap h₁ := by rw [f1]; exact hs₁
 have he₁ : h₁.get? e = some oe := (hs₂.2.1 e fun m => ne (lA9.mpr (.inr (hw _ (ZeF Fi.fl e m))))).trans he
 refine wpAny_setField (Heap.get?_push_of_some _ he₁) hd hz ?_
 refine q h₁ _ _ hs₂ he₁ rfl ?_ rfl
 rcases hpl with rfl | ⟨_, _, _, _, _, _, _, rfl⟩ <;> simp
theorem Zej (o : Obj) (f : Array Vl → Array Vl) : (Obj.mapFields f o).dict = o.dict := by obtain ⟨c, d, dt, sl⟩ := o; cases dt <;> rfl
noncomputable def TBx (W : Wd) (lo : Heap) (fl : Vl) (e : Addr) (h : Heap) (vs : Array Vl) : Prop :=
 ∃ T oT ts, vs[1]? = some (.ref T) ∧ lo.get? T = none ∧ T ∉ W.own ∧ T ≠ e ∧ h.get? T = some oT ∧ oT.data = .fields ts ∧ ts[3]? = some fl
theorem XO.after (x : XO S W lo c fs e h vs) (r : RC W lo h h') (he : h.get? e = some oe) (hf : (f vs).size = vs.size) (e' : h'.get? e = some (Obj.mapFields f oe)) : XO S W lo c fs e h' (f vs) := by
 refine bc fun no => ?_; obtain ⟨⟨oe', D, kvs, a1, a2, a3, a4, a5, a6, a7, a8⟩, b, c, d⟩ := x; refine no ?_
 rw [he] at a1; cases a1
 exact ⟨⟨_, D, kvs, e', (Obj.cls_mapFields _ _).trans a2, (Zej _ _).trans a3, Obj.data_mapFields a4 f, ZJ (fun o z nr => r.keep D o z a8 nr) a5, a6.imp fun y y z => ⟨z.1, z.2.mono r.grow.keep r.grow.own⟩, a7, a8⟩, by rw [hf]; exact b, c, d⟩
theorem XO.same (x : XO S W lo c fs e h vs) (r : RC W lo h h') (e' : h'.get? e = h.get? e) : XO S W lo c fs e h' vs := by
 refine bc fun no => ?_; obtain ⟨⟨oe, D, kvs, a1, a2, a3, a4, a5, a6, a7, a8⟩, b, c, d⟩ := x; refine no ?_
 exact ⟨⟨oe, D, kvs, e'.trans a1, a2, a3, a4, ZJ (fun o z nr => r.keep D o z a8 nr) a5, a6.imp fun y y z => ⟨z.1, z.2.mono r.grow.keep r.grow.own⟩, a7, a8⟩, b, c, d⟩
theorem ZhN {c : Nat} (O : FmOk F A n) (I : Inv S W st s.heap) (Fi : FI S F W ρ s.heap) (hL : F.env.frame = some L)
 (x : XO S W lo c fs e s.heap vs) (live : ∀ b o, lo.get? b = some o → ∃ o', s.heap.get? b = some o')
 (q : ∀ h' vs', RC W lo s.heap h' → XO S W lo c fs e h' vs' → TBx W lo (rawInt L) e h' vs' → Q () { s with heap := h' }) :
 wA S.M A (do let a ← PySem.frameOf F.env; let pl ← entryPlaceOf L hadNext; let b ← EntryCells.newEntry head a .none (rawInt L) .none pl; setField (.ref e) 1 b) Q E s := by
 refine bc fun no => ?_; obtain ⟨oe, D, kvs, a1, a2, a3, a4, a5, a6, a7, a8⟩ := id x.obj; refine no ?_
 refine Zhq O Fi hL a1 a4 x.size x.own I.faf fun h₁ oT ts hs e1 dT d3 fT => ?_
 have r1 : RC W lo s.heap h₁ := .slots hs (ZeF Fi.fl) I.faf
 have dead : h₁.get? h₁.objs.size = none := Z0
 have dlo : lo.get? h₁.objs.size = none := by
  cases z : lo.get? h₁.objs.size with
  | none => rfl
  | some o =>
   refine bc fun no => ?_; obtain ⟨o', z'⟩ := live _ _ z; refine no ?_
   refine bc fun no => ?_; obtain ⟨o'', z''⟩ := r1.live _ _ z'; refine no ?_
   rw [dead] at z''; cases z''
 have Tn : h₁.objs.size ∉ W.own := fun m => by
  refine bc fun no => ?_; obtain ⟨o, z⟩ := (I.fresh _ m).2; refine no ?_
  refine bc fun no => ?_; obtain ⟨o'', z''⟩ := r1.live _ _ z; refine no ?_
  rw [dead] at z''; cases z''
 have Te : h₁.objs.size ≠ e := fun z => by rw [← z, dead] at e1; cases e1
 have e2 : (h₁.push oT).get? e = some oe := Zd _ _ e1
 have r3 : RC W lo (h₁.push oT) ((h₁.push oT).update e (Obj.mapFields (·.setIfInBounds 1 (.ref h₁.objs.size)))) := .recd e2 a4 x.lo x.own
 have x2 : XO S W lo c fs e (h₁.push oT) vs := x.same (r1.trans .push) (e2.trans a1.symm)
 have e3 := Heap.get?_update_self (Obj.mapFields (·.setIfInBounds 1 (.ref h₁.objs.size))) e2 (Obj.isFreed_of_fields (Obj.data_mapFields a4 _))
 refine q _ (vs.setIfInBounds 1 (.ref h₁.objs.size)) ((r1.trans .push).trans r3) (x2.after r3 e2 (by simp) e3) ⟨h₁.objs.size, oT, ts, ?_, dlo, Tn, Te, ?_, dT, d3⟩
 ·have := x.size
  simp [this]
 ·exact (Heap.get?_update_other _ _ (Ne.symm Te)).trans (Heap.get?_push_size _ fT)
theorem Zci (O : FmOk F A n) (I : Inv S W st s.heap) (Fi : FI S F W ρ s.heap) (hL : F.env.frame = some L)
 (x : XS S W lo F.env.frame c fs e s.heap) (hb : ∀ b o, S.h₀.get? b = some o → lo.get? b = some o) (live : ∀ b o, lo.get? b = some o → ∃ o', s.heap.get? b = some o')
 (q : ∀ h' vs', RC W lo s.heap h' → XO S W lo c fs e h' vs' → TBx W lo (rawInt L) e h' vs' → Q () { s with heap := h' }) :
 wA S.M A (noteFrame (.ref e) F.env) Q E s := by
 refine bc fun no => ?_; obtain ⟨vs, x, t⟩ := x; refine no ?_
 refine bc fun no => ?_; obtain ⟨oe, D, kvs, a1, a2, a3, a4, a5, a6, a7, a8⟩ := id x.obj; refine no ?_
 unfold noteFrame
 simp only [hL]
 rcases t with t | ⟨T, oT, ts, fl, t1, t2, t3, t4, t5, t6, t7, t8⟩
 ·refine wB (wpAny_field a1 a4 t ?_)
  rw [if_neg (by decide)]
  exact ZhN O I Fi hL x live q
 ·refine wB (wpAny_field a1 a4 t1 ?_)
  rw [if_pos (show (Value.ref T != Value.none) = true from by simp)]
  refine wB (wpAny_field t5 t6 t7 ?_)
  by_cases hfl : (fl == rawInt L) = true
  ·rw [if_pos hfl]
   refine wP (q _ vs .refl x ⟨T, oT, ts, t1, t2, t3, t4, t5, t6, by rw [t7, beq_iff_eq.mp hfl]⟩)
  ·rw [if_neg hfl]
   have hn : fl = .none := t8.resolve_right fun w9 => (by obtain ⟨l, y1, y2⟩ := w9; exact by rw [hL] at y1; cases y1; rw [y2] at hfl; simp at hfl)
   refine wB (wpAny_setField t5 t6 (Array.getElem?_eq_some_iff.mp t7).1 ?_)
   have r : RC W lo s.heap (s.heap.update T (Obj.mapFields (·.setIfInBounds 3 Value.none))) := .recd t5 t6 t2 t3
   have ee : (s.heap.update T (Obj.mapFields (·.setIfInBounds 3 Value.none))).get? e = s.heap.get? e := Heap.get?_update_other _ _ t4
   refine ZhN (s := { s with heap := s.heap.update T (Obj.mapFields (·.setIfInBounds 3 Value.none)) }) (lo := lo) (st := st) O ?_ (r.fi Fi) hL (x.same r ee) (fun b o z => ?_) fun h' vs' r' x' t' => q h' vs' (r.trans r') x' t'
   ·exact r.inv I hb
   ·refine bc fun no => ?_; obtain ⟨o', y⟩ := live b o z; refine no ?_
    exact r.live _ _ y
theorem Zac (x : XO S W lo c fs e s.heap vs) (t : TBx W lo fl e s.heap vs)
 (q : ∀ h', RC W lo s.heap h' → XO S W lo c fs e h' vs → TBx W lo (fr.elim .none fun f => rawInt f) e h' vs → Q () { s with heap := h' }) : wA S.M A (setFlight (.ref e) fr) Q E s := by
 refine bc fun no => ?_; obtain ⟨oe, D, kvs, a1, a2, a3, a4, a5, a6, a7, a8⟩ := id x.obj; refine no ?_
 refine bc fun no => ?_; obtain ⟨T, oT, ts, t1, t2, t3, t4, t5, t6, t7⟩ := t; refine no ?_
 unfold setFlight
 refine wB (wpAny_field a1 a4 t1 ?_)
 rw [if_pos (show (Value.ref T != Value.none) = true from by simp)]
 have hz := (Array.getElem?_eq_some_iff.mp t7).1
 refine wpAny_setField t5 t6 hz ?_
 have r : RC W lo s.heap (s.heap.update T (Obj.mapFields (·.setIfInBounds 3 (fr.elim .none fun f => rawInt f)))) := .recd t5 t6 t2 t3
 refine q _ r (x.same r (Heap.get?_update_other _ _ t4)) ⟨T, _, _, t1, t2, t3, t4, Heap.get?_update_self _ t5 (Obj.isFreed_of_fields (Obj.data_mapFields t6 _)), Obj.data_mapFields t6 _, ?_⟩
 simp [hz]
theorem TBx.tb {L : Option Addr} (t : TBx W lo fl e h vs) (q : fl = .none ∨ ∃ l, L = some l ∧ fl = rawInt l) : TB W lo L e h vs := by
 obtain ⟨T, oT, ts, t1, t2, t3, t4, t5, t6, t7⟩ := t; exact ⟨T, oT, ts, fl, t1, t2, t3, t4, t5, t6, t7, q⟩
theorem Zfa (O : FmOk F A n) (I : Inv S W st s.heap) (Fi : FI S F W ρ s.heap) (hL : F.env.frame = some L)
 (x : XS S W lo F.env.frame c fs e s.heap) (hb : ∀ b o, S.h₀.get? b = some o → lo.get? b = some o) (live : ∀ b o, lo.get? b = some o → ∃ o', s.heap.get? b = some o')
 (q : ∀ h', RC W lo s.heap h' → XS S W lo none c fs e h' → Q () { s with heap := h' }) :
 wA S.M A (leaving F.env (.ref e)) Q E s := by
 unfold leaving
 refine wB (Zci O I Fi hL x hb live fun h' vs' r x' t' => ?_)
 refine Zac (s := { s with heap := h' }) x' t' fun h₂ r₂ x₂ t₂ => ?_
 exact q h₂ (r.trans r₂) ⟨vs', x₂, .inr (t₂.tb (.inl rfl))⟩
theorem ZiG (hL : F.env.frame = some L) (x : XO S W lo c fs e s.heap vs) (t : TBx W lo fl e s.heap vs)
 (q : ∀ h', RC W lo s.heap h' → XS S W lo F.env.frame c fs e h' → Q () { s with heap := h' }) :
 wA S.M A (do
  if (← field (.ref e) 1) == .none then unsupported "frame.own-activation:exception-without-traceback"
  setFlight (.ref e) F.env.frame) Q E s := by
 refine bc fun no => ?_; obtain ⟨oe, D, kvs, a1, a2, a3, a4, a5, a6, a7, a8⟩ := id x.obj; refine no ?_
 refine bc fun no => ?_; obtain ⟨T, oT, ts, t1, t2, t3, t4, t5, t6, t7⟩ := id t; refine no ?_
 refine wB (wpAny_field a1 a4 t1 ?_)
 rw [if_neg (show ¬ (Value.ref T == Value.none) = true from by simp)]
 refine Zac (fr := F.env.frame) x t fun h₂ r₂ x₂ t₂ => ?_
 exact q h₂ r₂ ⟨vs, x₂, .inr (t₂.tb (.inr ⟨L, hL, hL ▸ rfl⟩))⟩
end
noncomputable def ZbW (F : Fm) : Prop := ∀ x c, F.env.cells.lookup x = some c → c ∈ F.cur
section
variable {S : SC} {C : Ze} {n : Nat} {F : Fm} {W W₀ W' : Wd} {ρ : En} {st : St} {A : Ar} {s : Sh} {lo h h' h₁ : Heap} {E : Vl → Sh → Prop}
theorem Zbb {ns : List Str} (nd : ns.Nodup) {i j : Nat} (hi : ns[i]? = some x) (hj : ns[j]? = some x) : i = j := by
 obtain ⟨a, ha⟩ := List.getElem?_eq_some_iff.mp hi
 obtain ⟨b, hb⟩ := List.getElem?_eq_some_iff.mp hj
 have pw := List.pairwise_iff_getElem.mp nd
 rcases Nat.lt_trichotomy i j with q | q | q
 ·exact absurd (ha.trans hb.symm) (pw i j a b q)
 ·exact q
 ·exact absurd (hb.trans ha.symm) (pw j i b a q)
theorem ZfW (Fi : FI S F W ρ h) (k : ∀ b, b ≠ a → h'.get? b = h.get? b) (g : ∃ o, h'.get? a = some o ∧ NR o) : ∀ e ∈ F.fl, e.scope.kind ≠ .module ∧ ∃ L, e.frame = some L ∧ L ∈ W.fr ∧ L ∈ W.fa ∧ ∃ o, h'.get? L = some o ∧ ∀ vs, o.data ≠ .fields vs := by
 intro e m
 refine bc fun no => ?_; obtain ⟨x1, L, x2, x3, x4, o, e1, e2⟩ := Fi.fl e m; refine no ?_
 by_cases z : L = a
 ·subst z; exact ⟨x1, L, x2, x3, x4, g⟩
 ·exact ⟨x1, L, x2, x3, x4, o, (k L z).trans e1, e2⟩
theorem Zal {i : Nat} {x : Vl} (O : FmOk F A n) (fn : ∀ c, F.env.cells.lookup (nmE F.ns i) = some c → F.env.kindOf (nmE F.ns i) = some .cell → c ∈ F.cur) (ok : okL F.env.scope.names F.ns i = true) (I : Inv S W st s.heap) (Fi : FI S F W ρ s.heap) (vx : VR S W s.heap x v)
 (q : ∀ h' tk, Step W W F.cur s.heap h' → Inv S W st h' → FI S F W (ρ.set i (some v)) h' → Q () (sh s h' tk)) : wA S.M A (bindName F.env (nmE F.ns i) x) Q E s := by
 refine bc fun no => ?_; obtain ⟨e1, e2, k⟩ := Zb5 ok; refine no ?_
 refine bc fun no => ?_; obtain ⟨m, N, hq⟩ := Fi.ns; refine no ?_
 refine wpAny_bindName ?_
 have hp : (F.env.scope.kind == .class || (F.env.scope.kind == .module && F.env.locals != F.env.globals)) = false := by rw [O.kind]; rfl
 rcases k with k | k
 ·refine wpAny_storeName_local k N (fun h' N' hs => ?_) hp
  have kk : ∀ b o, b ≠ F.env.locals → s.heap.get? b = some o → h'.get? b = some o := fun b o nb e => (hs.2 b nb).trans e
  refine bc fun no => ?_; obtain ⟨o, es, ep, g1, g2, _⟩ := id N'; refine no ?_
  have G := ZM (W := W) Fi.locW kk
  refine q h' _ ((Zak Fi.locW kk ⟨o, g1⟩).wider fun a m => by rw [lS9.mp m]; exact O.loc) (I.touch Fi.locW kk ⟨o, g1⟩) ⟨by simp [Fi.len], Fi.cur, fun y c hc => ?_, ZfW Fi hs.2 ⟨o, g1, Zbn g2 (by simp)⟩, Fi.locW, _, N', fun j w hj => ?_⟩
  ·refine bc fun no => ?_; obtain ⟨a, b, c'⟩ := Fi.cells y c hc; refine no ?_
   exact ⟨a, b, c'.sameBut hs (O.cells y c hc)⟩
  ·by_cases ij : i = j
   ·subst ij
    have := (List.getElem?_eq_some_iff.mp hj).1
    rw [List.getElem?_set_self (by simpa using this)] at hj
    cases hj
    exact ⟨_, x, e1, vx.mono G, .inl ⟨k, by rw [if_pos rfl]⟩⟩
   ·rw [List.getElem?_set_ne ij] at hj
    refine bc fun no => ?_; obtain ⟨y, u, y1, y2, y3⟩ := hq j w hj; refine no ?_
    refine ⟨y, u, y1, y2.mono G, y3.imp (fun z => ⟨z.1, ?_⟩) fun w9 => (by obtain ⟨z, c, z1, z2⟩ := w9; exact ⟨z, c, z1, z2.sameBut hs (O.cells y c z1)⟩)⟩
    rw [if_neg (fun (z' : y = nmE F.ns i) => ij (Zbb O.nodup e1 (z' ▸ y1)))]
    exact z.2
 ·obtain ⟨c, hc⟩ : ∃ c, F.env.cells.lookup (nmE F.ns i) = some c := by
   have := O.lk _ k
   exact Option.isSome_iff_exists.mp this
  refine bc fun no => ?_; obtain ⟨cw, v₀, hv⟩ := Fi.cells _ c hc; refine no ?_
  refine wpAny_storeName_cell O.kind k hc hv fun h' N' hs => ?_
  have kk : ∀ b o, b ≠ c → s.heap.get? b = some o → h'.get? b = some o := fun b o nb e => (hs.2 b nb).trans e
  have cl := O.cells _ c hc
  refine bc fun no => ?_; obtain ⟨o, g1, g2⟩ := id N'; refine no ?_
  have G := ZM (W := W) cw kk
  refine q h' _ ((Zak cw kk ⟨o, g1⟩).wider fun a m => by rw [lS9.mp m]; exact fn c hc k) (I.touch cw kk ⟨o, g1⟩) ⟨by simp [Fi.len], Fi.cur, fun y c' hc' => ?_, ZfW Fi hs.2 ⟨o, g1, Zbn g2 (by simp)⟩, Fi.locW, m, N.sameBut hs (Ne.symm cl), fun j w hj => ?_⟩
  ·refine bc fun no => ?_; obtain ⟨a, b, z⟩ := Fi.cells y c' hc'; refine no ?_
   by_cases e : c' = c
   ·subst e; exact ⟨a, _, N'⟩
   ·exact ⟨a, b, z.sameBut hs e⟩
  ·by_cases ij : i = j
   ·subst ij
    have := (List.getElem?_eq_some_iff.mp hj).1
    rw [List.getElem?_set_self (by simpa using this)] at hj
    cases hj
    exact ⟨_, x, e1, vx.mono G, .inr ⟨k, c, hc, N'⟩⟩
   ·rw [List.getElem?_set_ne ij] at hj
    refine bc fun no => ?_; obtain ⟨y, u, y1, y2, y3⟩ := hq j w hj; refine no ?_
    refine ⟨y, u, y1, y2.mono G, y3.imp id fun ⟨z, c', z1, z2⟩ => ⟨z, c', z1, z2.sameBut hs fun e => ?_⟩⟩
    subst e
    exact ij (Zbb O.nodup e1 (name_of_addr O.apart (mem_of_lookup z1) (mem_of_lookup hc) ▸ y1))
theorem Zap (O : FmOk F A n) (fn : ∀ c, F.env.cells.lookup (nmE F.ns i) = some c → F.env.kindOf (nmE F.ns i) = some .cell → c ∈ F.cur) (ok : okL F.env.scope.names F.ns i = true) (I : Inv S W st s.heap) (Fi : FI S F W ρ s.heap) (vx : VR S W s.heap x v)
 (q : ∀ h' tk, Step W W F.cur s.heap h' → Inv S W st h' → FI S F W (ρ.set i (some v)) h' → Q () (sh s h' tk)) : wA S.M A (assign (.Name (nmE F.ns i) p) F.env x) Q E s := by
 show wA _ _ (standAt p >>= fun y => bindName F.env (nmE F.ns i) x) _ _ _
 exact wB (wS (Zal O fn ok I Fi vx q))
set_option tactic.hygienic true in
theorem ZfX (O : FmOk F A n) (fn : ZbW F) : ∀ {us : List Vl} {vs : List MV} {ρ ρ' : En} {s : Sh} {Q : Unit → Sh → Prop}, (∀ i ∈ is, okL F.env.scope.names F.ns i.1 = true) → Inv S W st s.heap → FI S F W ρ s.heap → All2 (VR S W s.heap) us vs → ZG vs is ρ = some ρ' →
 (∀ h' tk, Step W W F.cur s.heap h' → Inv S W st h' → FI S F W ρ' h' → Q () (sh s h' tk)) → wA S.M A (assignInOrder (is.map fun i => assign (.Name (nmE F.ns i.1) i.2) F.env) us) Q E s := by
 induction is with
 | nil =>
  intro us vs ρ ρ' s Q _ I Fi a e q
  cases a with
  | nil => cases e; exact wP (q s.heap s.toks .refl I Fi)
  | cons _ _ => exact nn e rfl
 | cons i is ih =>
  intro us vs ρ ρ' s Q ok I Fi a e q
  cases a with
  | nil => exact nn e rfl
  | cons vu t =>
   rename_i u v us vs
   obtain ⟨i, p⟩ := i
   simp only [ZmR, ZmS, ZmT, ZmU] at e
   show wA _ _ (holding us (assign (.Name (nmE F.ns i) p) F.env u) >>= fun _ => assignInOrder (is.map fun i => assign (.Name (nmE F.ns i.1) i.2) F.env) us) _ _ _
   refine wB (wH (Zap O (fun c hc _ => fn _ c hc) (ok _ (.head _)) I Fi vu fun h' tk P I' Fi' => ?_))
   exact ih (s := sh s h' tk) (fun i m => ok i (.tail _ m)) I' Fi' (ZbI P.grow t) e fun h2 tk2 P2 I2 Fi2 => q h2 tk2 (P.trans P2) I2 Fi2
theorem ZfY : ∀ {is : List (Nat × Pos)} {xs : List PD} {ρ : En}, ZaT xs is ρ = ZG (xs.map .d) is ρ
 | [], [], _ => rfl
 | [], _ :: _, _ => rfl
 | (i, p) :: is, [], _ => rfl
 | (i, p) :: is, x :: xs, ρ => by simp only [ZrM, ZrN, ZrO, lM9, ZmR, ZmS, ZmT, ZmU]; exact ZfY
theorem ZlK {us : List Vl} {xs : List PD} : DRs W.own h us xs → All2 (VR S W h) us (xs.map .d) :=
 DRs.ind (P := fun us xs => All2 (VR S W h) us (xs.map .d)) .nil fun a b => .cons a b
theorem ZiH (I : Inv S W st h) {l l' : Nat} (e : W.cs[l]? = some c) (e' : W.cs[l']? = some c') (ne : l ≠ l') : ∀ a ∈ c', a ∉ c := by
 have nd := I.nodup
 unfold Wd.own at nd
 have pw := (List.pairwise_flatten.mp (List.nodup_append.mp nd).1).2
 have pw := List.pairwise_iff_getElem.mp pw
 obtain ⟨h1, e1⟩ := List.getElem?_eq_some_iff.mp e
 obtain ⟨h2, e2⟩ := List.getElem?_eq_some_iff.mp e'
 intro a ha ha'
 rcases Nat.lt_trichotomy l l' with q | q | q
 ·exact pw l l' h1 h2 q a (e1 ▸ ha') a (e2 ▸ ha) rfl
 ·exact ne q
 ·exact pw l' l h2 h1 q a (e2 ▸ ha) a (e1 ▸ ha') rfl
theorem Zdq {l : Nat} (e : W.cs[l]? = some c) : ∀ a ∈ c, a ∈ W.own := fun a m => lA9.mpr (.inl (Z2 e a m))
theorem ZhO (I : Inv S W st h) {l : Nat} (e : W.cs[l]? = some c) : ∀ a ∈ W.fr, a ∉ c := fun a m m' => by
 have nd := I.nodup
 unfold Wd.own at nd
 exact (List.nodup_append.mp nd).2.2 a (Z2 e a m') a m rfl
theorem Zax {l : Nat} (e : W.cs[l]? = some c) (k : ∀ b o, b ∉ c → h.get? b = some o → h'.get? b = some o) : Grow W W h h' :=
 ⟨fun b o z n y => k b o (fun m => n (Zdq e b m)) z, fun y m => .inl m, [], by simp⟩
theorem Zcj (I : Inv S W st h) {l : Nat} (e : W.cs[l]? = some c) (k : ∀ b o, b ∉ c → h.get? b = some o → h'.get? b = some o) (g : ∀ a ∈ c, ∃ o, h'.get? a = some o) : Step W W cur h h' := by
 refine ⟨.refl W, ⟨(Zax e k).keep, fun b o z => ?_, fun b o z m y => ⟨o.slots, k b o (ZhO I e b m) z, fun y => rfl⟩⟩, fun y m => .inl m⟩
 by_cases q : b ∈ c
 ·exact g b q
 ·exact ⟨o, k b o q z⟩
theorem Inv.write (I : Inv S W st h) {l : Nat} (e : W.cs[l]? = some c) (k : ∀ b o, b ∉ c → h.get? b = some o → h'.get? b = some o) (g : ∀ a ∈ c, ∃ o, h'.get? a = some o) (o : OR S W h' c mo) : Inv S W (st.set l mo) h' := by
 have G := Zax e k
 refine ⟨fun b o z => k b o (fun m => ?_) (I.base b o z), by simp [I.len], fun l' c' mo' e1 e2 => ?_, I.nodup, I.faf, fun b m => ⟨(I.fresh b m).1, ?_⟩⟩
 ·rw [(I.fresh b (Zdq e b m)).1] at z; cases z
 ·by_cases q : l = l'
  ·subst q
   have := (List.getElem?_eq_some_iff.mp e2).1
   rw [List.getElem?_set_self (by simpa using this)] at e2
   cases e2
   rw [e] at e1; cases e1
   exact o
  ·rw [List.getElem?_set_ne q] at e2
   exact (I.cells l' c' mo' e1 e2).mono2 G fun b o z hb => k b o (ZiH I e e1 q b hb) z
 ·by_cases q : b ∈ c
  ·exact g b q
  ·obtain ⟨o, z⟩ := (I.fresh b m).2; exact ⟨o, k b o q z⟩
theorem FI.write (Fi : FI S F W ρ h) (I : Inv S W st h) {l : Nat} (e : W.cs[l]? = some c) (k : ∀ b o, b ∉ c → h.get? b = some o → h'.get? b = some o) : FI S F W ρ h' :=
 Fi.mono (Zax e k) (.refl W) fun b o z m => ⟨o.slots, k b o (ZhO I e b m) z⟩
theorem Zfb (hM : M.w = w) (q : Q (hashStr w x) s) : wA M A (strHash x) Q E s := by
 unfold strHash
 refine wB (wpAny_askSetting (wP ?_))
 subst hM
 exact q
theorem ZbX (d : s.heap.DictOf (PySem.strKind S.prog S.w) D kvs) (hz : kvs.length ≤ 2000)
 (q : ∀ h' o, h'.DictOf (PySem.strKind S.prog S.w) D (stored kvs x v) → Heap.SameBut D s.heap h' → h'.get? D = some o → NR o → o.data.pastItsLine = none → Q () { s with heap := h', toks := s.toks + 1 }) : wA S.M A (nsSet D x v) Q E s := by
 obtain ⟨o, es, ep, ho, hc, hd, hk, hp, hn⟩ := d
 unfold nsSet
 refine wB (Zfb rfl (wB (wpAny_mkText (wB (wpAny_loadPart ho ?_)))))
 rw [hd]
 dsimp only
 have hsz : es.size ≤ 2000 := by have := hp.length; rw [Array.length_toList] at this; exact this ▸ hz
 have noref : (es.any fun e => e.refKey) = false := by
  rw [Array.any_eq_false]
  intro i hi
  obtain ⟨k, hk1, _⟩ := hk es[i] (Array.getElem_mem hi)
  obtain ⟨t, hk1⟩ := Value.isStrOf_shape (x := k) hk1
  unfold DictEntry.refKey
  rw [hk1]; exact Bool.false_ne_true
 rw [aRefKeyMayBeTheName_at, noref, Bool.and_false]
 rw [if_neg Bool.false_ne_true]
 refine wpAny_updatePart ho ?_
 have fe : (fun e : DictEntry => e.key.isStr x) = fun e => (PySem.strKind S.prog S.w).is x e.key := by funext e; exact Zdn _ _
 have hidx : (es.findIdx? fun e => (PySem.strKind S.prog S.w).is x e.key) = kvs.findIdx? fun kv => decide (kv.1 = x) := by
  rw [← hp.findIdx x]; obtain ⟨l⟩ := es; simp
 rw [Obj.putName_eq]
 cases hi : es.findIdx? fun e => (PySem.strKind S.prog S.w).is x e.key with
 | some i =>
  have eo : Obj.putNameByArray x (hashStr S.w x) (.str x s.toks) v o = o.mapDict fun es => es.modify i fun e => { e with val := v } := by
   obtain ⟨c, dd, dt, sl⟩ := o
   cases hd
   simp only [Obj.putNameByArray, fe, hi, Obj.mapDict]
  have hd' := Obj.data_mapDict hd fun es => es.modify i fun e => { e with val := v }
  have gs := Heap.get?_update_self (Obj.putNameByArray x (hashStr S.w x) (.str x s.toks) v) ho (by rw [eo]; exact Obj.isFreed_of_dict hd')
  refine q _ _ ⟨_, _, ep, gs, by rw [eo]; exact hc.mapDict _, by rw [eo]; exact hd', hk.modify _ _, ?_, ?_⟩ (Heap.SameBut.update ..) gs (by rw [eo]; exact Zbn hd' (by simp)) (by rw [eo, hd']; exact pastItsLine_dict (by rw [Array.size_modify, sizeLine_eq]; exact Nat.le_trans hsz (by decide)))
  ·rw [stored, if_pos (any_of_findIdx_some (hidx ▸ hi))]
   have hl : (es.toList.findIdx? fun e => (PySem.strKind S.prog S.w).is x e.key) = some i := by rw [← hi]; obtain ⟨l⟩ := es; simp
   have := hp.modify hn hl v
   obtain ⟨l⟩ := es
   simpa using this
  ·rw [stored, if_pos (any_of_findIdx_some (hidx ▸ hi)), keys_map_store]; exact hn
 | none =>
  have hnot : x ∉ kvs.map (·.1) := not_mem_of_findIdx_none (hidx ▸ hi)
  have hany : ¬ (kvs.any fun kv => decide (kv.1 = x)) = true := by
   rw [List.any_eq_true]; rintro ⟨kv, hkv, he⟩
   exact hnot (List.mem_map.mpr ⟨kv, hkv, of_decide_eq_true he⟩)
  have eo : Obj.putNameByArray x (hashStr S.w x) (.str x s.toks) v o = o.mapDictKeys fun es => es.push ⟨hashStr S.w x, .str x s.toks, v⟩ := by
   obtain ⟨c, dd, dt, sl⟩ := o
   cases hd
   simp only [Obj.putNameByArray, fe, hi, Obj.mapDictKeys]
  have hd' := Obj.data_mapDictKeys hd fun es => es.push ⟨hashStr S.w x, .str x s.toks, v⟩
  have gs := Heap.get?_update_self (Obj.putNameByArray x (hashStr S.w x) (.str x s.toks) v) ho (by rw [eo]; exact Obj.isFreed_of_dict hd')
  have hkey : (PySem.strKind S.prog S.w).is x (.str x s.toks) = true := beq_self_eq_true x
  refine q _ _ ⟨_, _, ep + 1, gs, by rw [eo]; exact hc.mapDictKeys _, by rw [eo]; exact hd', hk.push hkey _, ?_, ?_⟩ (Heap.SameBut.update ..) gs (by rw [eo]; exact Zbn hd' (by simp)) (by rw [eo, hd']; exact pastItsLine_dict (by rw [Array.size_push, sizeLine_eq]; exact Nat.succ_le_succ (Nat.le_trans hsz (by decide))))
  ·rw [stored, if_neg hany]
   have := hp.append hkey ((PySem.strKind S.prog S.w).hash x) v
   obtain ⟨l⟩ := es
   simpa using this
  ·rw [stored, if_neg hany, List.map_append, List.nodup_append]
   refine ⟨hn, by simp, ?_⟩
   intro a ha b hb
   simp only [lM9, List.map_nil, lS9] at hb
   subst hb
   exact fun e => hnot (e ▸ ha)
theorem ZlL : AN.Nodup := by decide +kernel
theorem ZfZ (ha : a < AN.length) (hb : b < AN.length) (e : An a = An b) : a = b := by
 unfold An at e
 rw [List.getD_eq_getElem?_getD, List.getD_eq_getElem?_getD, List.getElem?_eq_getElem ha, List.getElem?_eq_getElem hb] at e
 exact Zbb ZlL (List.getElem?_eq_getElem ha) ((List.getElem?_eq_getElem hb).trans (congrArg some e.symm))
theorem ZbJ (h : Zas c a = true) : a < AN.length := by
 simp only [Zas, bA, decide_eq_true_eq] at h; exact h.1
noncomputable def FR (R : Vl → MV → Prop) : (Str × Vl) → (Nat × MV) → Prop := fun kv e => kv.1 = An e.1 ∧ R kv.2 e.2
theorem ZeG {kvs : List (Str × Vl)} (h : k ∉ kvs.map (·.1)) : (kvs.map fun kv => if kv.1 = k then (kv.1, u) else kv) = kvs := map_store_of_not_mem kvs k u h
theorem ZlM {R : Vl → MV → Prop} (ha : a < AN.length) (ru : R u v) (nd : (kvs.map (·.1)).Nodup) (hf : (∀ f ∈ fs, f.1 < AN.length)) (aa : All2 (FR R) kvs fs) : All2 (FR R) (stored kvs (An a) u) (Zdi a v fs) := by
 induction aa with
 | nil => exact .cons ⟨rfl, ru⟩ .nil
 | @cons x1 x2 ks r h t IH =>
  obtain ⟨k, w⟩ := x1
  obtain ⟨q, z⟩ := x2
  rw [lM9, List.nodup_cons] at nd
  have hq : q < AN.length := hf _ (.head _)
  have ih := IH nd.2 (fun f m => hf f (.tail _ m))
  obtain ⟨h1, h2⟩ := h
  dsimp only at h1 h2
  by_cases e : q = a
  ·subst e
   subst h1
   have : stored ((An q, w) :: ks) (An q) u = (An q, u) :: ks := by
    unfold stored
    rw [if_pos (by simp), lM9, if_pos rfl, ZeG nd.1]
   rw [this]
   rw [ZdB, if_pos rfl]
   exact .cons ⟨rfl, ru⟩ t
  ·have ne : ¬ k = An a := fun z' => e (ZfZ hq ha (h1.symm.trans z'))
   have : stored ((k, w) :: ks) (An a) u = (k, w) :: stored ks (An a) u := by
    unfold stored
    simp only [List.any_cons, decide_eq_false ne, Bool.false_or, lM9, if_neg ne]
    split <;> rfl
   rw [this]
   rw [ZdB, if_neg e]
   exact .cons ⟨h1, h2⟩ ih
theorem Zf0 {p : Nat → Bool} (ha : p a = true) : ∀ {fs : List (Nat × MV)}, fs.all (fun f => p f.1) = true → (Zdi a v fs).all (fun f => p f.1) = true
 | [], _ => Bool.and_eq_true_iff.mpr ⟨ha, rfl⟩
 | (q, u) :: r, h => by
  rw [ZdB]
  by_cases z : q = a
  ·rw [if_pos z]; exact h
  ·rw [if_neg z]; exact Bool.and_eq_true_iff.mpr ⟨(ba2 h).1, Zf0 ha (ba2 h).2⟩
theorem Zf1 : ∀ {fs : List (Nat × MV)}, (Zdi a v fs).length ≤ fs.length + 1
 | [] => Nat.le_refl 1
 | (q, u) :: r => by
  rw [ZdB]
  by_cases z : q = a
  ·rw [if_pos z]; exact Nat.le_succ _
  ·rw [if_neg z]; exact Nat.succ_le_succ Zf1
theorem ZhP (G : Ground S) (I : Inv S W st s.heap) (Fi : FI S F W ρ s.heap) (vy : VR S W s.heap y ov) (vu : VR S W s.heap u x) (e : ZbT ov a x st = some st')
 (q : ∀ h' tk, Step W W F.cur s.heap h' → Inv S W st' h' → FI S F W ρ h' → Q () (sh s h' tk)) : wA S.M A (setAttr y (An a) u) Q E s := by
 obtain ⟨l, c, fs, rfl, es, e⟩ := Zew e
 obtain ⟨hk, rfl⟩ := ZF e
 obtain ⟨hok, hl⟩ := Bool.and_eq_true_iff.mp hk
 have hlt := of_decide_eq_true hl
 refine bc fun no => ?_; obtain ⟨x', D, e1, rfl, hx, kvs, hd, q2, ok, hi, hlen⟩ := Zeg I vy es; refine no ?_
 refine bc fun no => ?_; obtain ⟨⟨cd, hcd, hdict⟩, hp, hm, hga, hgt, hsa, hno⟩ := G.ins c hi; refine no ?_
 refine bc fun no => ?_; obtain ⟨oD, hoD, hlk⟩ := ZcD hd; refine no ?_
 have X := G.X.keeps I.base
 have It : InstAt s.heap x' (instObj (S.ca c) D) (S.ca c) (some oD) := ⟨hx, rfl, rfl, hoD⟩
 refine set_plain X It hsa (osa_open (s := { s with toks := s.toks + 1 }) (r := none) X It hp ?_ fun b => ?_)
 ·unfold takerIn
  rw [hno a hok]; rfl
 ·refine wB (wP (wB (wB (wpAny_loadPart hx (wB ((looks_clsIn X hcd) _ _ _ _ (fun v v e => e) ?_))))))
  rw [hdict]
  refine wP (a := some D) (wB (wP (wB ?_)))
  have hl2 := q2.length
  refine ZbX (s := { s with toks := s.toks + 1 }) hd (by omega) fun h' o d hs ho hnr hpl => ?_
  refine wB (wpAny_lookBehind ho hpl ?_)
  refine wP ?_
  have xD : x' ≠ D := by
   have nd := I.nodup
   unfold Wd.own at nd
   have := (List.pairwise_flatten.mp (List.nodup_append.mp nd).1).1 _ (List.mem_of_getElem? e1)
   simp at this
   exact this
  have k : ∀ b o, b ∉ [x', D] → s.heap.get? b = some o → h'.get? b = some o := fun b o nb e => (hs.2 b fun z => nb (by simp [z])).trans e
  have hx' : h'.get? x' = some (instObj (S.ca c) D) := (hs.2 x' xD).trans hx
  have al : ∀ a ∈ [x', D], ∃ o, h'.get? a = some o := fun a m => by
   rcases lC9.mp m with z | m
   ·subst z; exact ⟨_, hx'⟩
   ·rw [lS9.mp m]; exact ⟨o, ho⟩
  have Gr := Zax e1 k
  refine q h' _ (Zcj I e1 k al) (I.write e1 k al ⟨hx', _, d, ?_, Zf0 hok ok, hi, Nat.le_trans Zf1 hlt⟩) (Fi.write I e1 k)
  exact ZlM (ZbJ hok) (vu.mono Gr) (Zaj hd) (fun f m => ZbJ (List.all_eq_true.mp ok f m)) (q2.imp fun v v z => ⟨z.1, z.2.mono Gr⟩)
theorem Zhr (f : Array Vl → Array Vl) (items : Array Vl) (n : Nat) : ∃ n', Obj.mapSeq f (listOf items n) = listOf (f items) n' := by
 exact ⟨_, rfl⟩
theorem ZdQ {l : Addr} {items : Array Vl} {m : Nat} (f : Array Vl → Array Vl) (ho : h.get? l = some (listOf items m)) : ∃ n', (h.update l (Obj.mapSeq f)).get? l = some (listOf (f items) n') := by
 obtain ⟨n', e⟩ := Zhr f items m
 exact ⟨n', by rw [Heap.get?_update_self _ ho (by rw [e]; rfl), e]⟩
theorem ZaX (I : Inv S W st s.heap) (Fi : FI S F W ρ s.heap) {l : Nat} {a : Addr} {r : List Addr} {items its' : Array Vl} {m m' : Nat} {xs' : List PD} (e : W.cs[l]? = some [a]) (ho : s.heap.get? a = some (listOf items m))
 (hb : Heap.SameBut a s.heap h') (hs : h'.get? a = some (listOf its' m')) (d : DRs W.own s.heap its'.toList xs') :
 Step W W F.cur s.heap h' ∧ Inv S W (st.set l (.list xs')) h' ∧ FI S F W ρ h' := by
 have k : ∀ b o, b ∉ [a] → s.heap.get? b = some o → h'.get? b = some o := fun b o nb eb => (hb.2 b fun z => nb (by simp [z])).trans eb
 have g : ∀ b ∈ [a], ∃ o, h'.get? b = some o := fun b m => by rw [lS9.mp m]; exact ⟨_, hs⟩
 have G := Zax e k
 exact ⟨Zcj I e k g, I.write e k g ⟨its', m', hs, DRs.mono G.keep G.own d⟩, Fi.write I e k⟩
theorem ZbK (I : Inv S W st h) {x : Vl} {l : Nat} {xs : List PD} (vx : VR S W h x (.loc l)) (e : st[l]? = some (.list xs)) : ∃ a items m, x = .ref a ∧ W.cs[l]? = some [a] ∧ h.get? a = some (listOf items m) ∧ DRs W.own h items.toList xs := by
 refine bc fun no => ?_; obtain ⟨a, r, e1, rfl⟩ := vx; refine no ?_
 have := I.cells l _ _ e1 e
 cases r with
 | nil => obtain ⟨items, m, z1, z2⟩ := this; exact ⟨a, items, m, rfl, e1, z1, z2⟩
 | cons b r => cases r <;> exact this.elim
theorem ZlN {l : Addr} {items : Array Vl} {m : Nat} {k : Int} {t : Tok} {v : Vl} {Q : Unit → Sh → Prop} (ho : s.heap.get? l = some (listOf items m)) (h0 : 0 ≤ k) (hfit : k < 2 ^ 63) (hn : k < items.size)
 (q : Q () { s with heap := s.heap.update l (Obj.mapSeq (·.setIfInBounds k.toNat v)) }) : wA S.M A (setItem (.ref l) (.int k t) v) Q E s := by
 have hl : s.heap.IsList l items := ⟨_, ho, rfl, m, rfl⟩
 unfold setItem
 try with_reducible refine wH ?_
 refine wB (wpAny_sequenceKey hl.typeIs (by decide) ?_)
 refine wB (wpAny_callSpecial?_slot (name := sO "__setitem__") hl.typeIs slot_list_setitem
  (wpAny_call_entry slot_list_setitem hl.typeIs entry_list_setitem ?_ (args_list_setitem _ _ _)))
 show wA _ _ (Builtin.List.listSubscript? (.int k t) >>= _) _ _ s
 refine wB (wpAny_listSubscript_int (fitsIndex_of h0 hfit) ?_)
 clear hfit
 obtain ⟨j, rfl⟩ := Int.eq_ofNat_of_zero_le h0
 have hj : j < items.size := by omega
 show wA _ _ ((seqItemAt l j >>= fun r => pure (r.map (j, ·))) >>= _) _ _ s
 refine wB (wB (wpAny_seqItemAt ho rfl (wP ?_)))
 rw [Array.getElem?_eq_getElem hj]
 show wA _ _ (setSeqItemAt l j v >>= _) _ _ s
 refine wB (wpAny_setSeqItemAt ho rfl ?_)
 exact wP ⟨.none, rfl, wP q⟩
theorem ZlO {R : Vl → MV → Prop} {k : Str} {u : Vl} {v v0 : MV} (ru : R u v) {kvs : List (Str × Vl)} {fs : List (Str × MV)} (nd : (kvs.map (·.1)).Nodup) (e : ZaH k fs = some v0) (aa : All2 (fun (kv : Str × Vl) (e : Str × MV) => kv.1 = e.1 ∧ R kv.2 e.2) kvs fs) : All2 (fun (kv : Str × Vl) (e : Str × MV) => kv.1 = e.1 ∧ R kv.2 e.2) (stored kvs k u) (ZbS k v fs) := by
 induction aa with
 | nil => cases e
 | @cons x1 x2 ks r h t IH =>
  obtain ⟨k', w⟩ := x1
  obtain ⟨q, z⟩ := x2
  rw [lM9, List.nodup_cons] at nd
  obtain ⟨h1, h2⟩ := h
  dsimp only at h1 h2
  subst h1
  rw [ZhD] at e
  by_cases eq : k' = k
  ·subst eq
   have : stored ((k', w) :: ks) k' u = (k', u) :: ks := by
    unfold stored
    rw [if_pos (by simp), lM9, if_pos rfl, ZeG nd.1]
   rw [this]
   rw [ZfH, if_pos rfl]
   exact .cons ⟨rfl, ru⟩ t
  ·rw [if_neg eq] at e
   have ih := IH nd.2 e
   have : stored ((k', w) :: ks) k u = (k', w) :: stored ks k u := by
    unfold stored
    simp only [List.any_cons, decide_eq_false eq, Bool.false_or, lM9, if_neg eq]
    split <;> rfl
   rw [this]
   rw [ZfH, if_neg eq]
   exact .cons ⟨rfl, h2⟩ ih
theorem ZlP {k : Str} {v : MV} (fs : List (Str × MV)) : (ZbS k v fs).length = fs.length := by
 induction fs with
 | nil => rfl
 | cons a r ih =>
  rw [ZfH]
  by_cases h : a.1 = k
  ·rw [if_pos h]; rfl
  ·rw [if_neg h]; exact congrArg (· + 1) ih
inductive SetC (st : St) : MV → MV → MV → St → Prop
 | lst {l k d xs} (es : st[l]? = some (.list xs)) (h0 : 0 ≤ k) (hf : k.toNat ≤ 4096) (hlt : k < xs.length) : SetC st (.loc l) (.d (.int k)) (.d d) (st.set l (.list (xs.set k.toNat d)))
 | dct {l s' x es v0} (hes : st[l]? = some (.dict es)) (hv : ZaH s' es = some v0) : SetC st (.loc l) (.d (.str s')) x (st.set l (.dict (ZbS s' x es)))
theorem Zs4 {v i x : MV} {st' : St} (e : Za1 st v i x = some st') : SetC st v i x st' := by
 cases v with
 | loc l => cases i with
  | d y => cases y with
   | int k => cases x with
    | d d =>
     have e : (match st[l]? with | some (.list xs) => if (decide (0 ≤ k) && Zc k.toNat && decide (k < xs.length)) then some (st.set l (.list (xs.set k.toNat d))) else none | _ => none) = some st' := e
     cases es : st[l]? with
     | none => rw [es] at e; exact nn e rfl
     | some o => rw [es] at e; cases o with
      | list xs =>
       obtain ⟨h, rfl⟩ := ZF (c := decide (0 ≤ k) && Zc k.toNat && decide (k < xs.length)) e
       obtain ⟨h, h3⟩ := Bool.and_eq_true_iff.mp h
       obtain ⟨h1, h2⟩ := Bool.and_eq_true_iff.mp h
       exact .lst es (of_decide_eq_true h1) (Zv h2) (of_decide_eq_true h3)
      | _ => exact nn e rfl
    | _ => exact nn e rfl
   | str s' =>
    have e : (match st[l]? with | some (.dict es) => (match ZaH s' es with | some _ => some (st.set l (.dict (ZbS s' x es))) | none => none) | _ => none) = some st' := e
    cases es : st[l]? with
    | none => rw [es] at e; exact nn e rfl
    | some o => rw [es] at e; cases o with
     | dict xs => cases hv : ZaH s' xs with
      | none => exact nn e (congrArg (fun o => match o with | some _ => some (st.set l (.dict (ZbS s' x xs))) | none => none) hv)
      | some v0 => cases (congrArg (fun o => match o with | some _ => some (st.set l (.dict (ZbS s' x xs))) | none => none) hv).symm.trans e; exact .dct es hv
     | _ => exact nn e rfl
   | _ => exact nn e rfl
  | _ => exact nn e rfl
 | _ => exact nn e rfl
theorem ZiI (I : Inv S W st s.heap) (Fi : FI S F W ρ s.heap) {y k u : Vl} {ov i x : MV} {st' : St} (vy : VR S W s.heap y ov) (vk : VR S W s.heap k i) (vu : VR S W s.heap u x) (e : Za1 st ov i x = some st') {Q : Unit → Sh → Prop}
 (q : ∀ h' tk, Step W W F.cur s.heap h' → Inv S W st' h' → FI S F W ρ h' → Q () (sh s h' tk)) : wA S.M A (setItem y k u) Q E s := by
 cases Zs4 e with
 | @lst l k' d xs es h0 hf hlt =>
  obtain ⟨t, rfl⟩ := Z8 (own := W.own) (h := s.heap) vk
  obtain ⟨a, items, m, rfl, e1, ho, r⟩ := ZbK I vy es
  obtain ⟨n', hs⟩ := ZdQ (·.setIfInBounds k'.toNat u) ho
  obtain ⟨z1, z2, z3⟩ := ZaX (r := []) (xs' := xs.set k'.toNat d) I Fi e1 ho (Heap.SameBut.update ..) hs (by rw [Array.toList_setIfInBounds]; exact r.set vu k'.toNat)
  exact ZlN ho h0 (Int.lt_of_le_of_lt (Int.toNat_le.mp hf) (by decide)) (by rw [← Array.length_toList, r.length]; exact hlt) (q _ s.toks z1 z2 z3)
 | @dct l s' x es v0 hes hv =>
  obtain ⟨a, r, e1, rfl⟩ := vy
  have := I.cells l _ _ e1 hes
  cases r with
  | cons b r => cases r <;> exact this.elim
  | nil =>
   obtain ⟨hsm, kvs, hd, hq, hl⟩ := this
   obtain ⟨t, rfl⟩ := ZcG (own := W.own) (h := s.heap) vk
   refine wpAny_setItem_pairs (beq_self_eq_true s' : (PySem.strKind S.prog S.w).is s' (.str s' t) = true) hd (fun h' d hs => ?_) (by rw [hq.length, sizeLine_eq]; omega)
   obtain ⟨o, _, _, g1, _⟩ := id d
   have kk : ∀ b o, b ∉ [a] → s.heap.get? b = some o → h'.get? b = some o := fun b o nb eb => (hs.2 b fun z => nb (z ▸ .head _)).trans eb
   have g : ∀ b ∈ [a], ∃ o, h'.get? b = some o := fun b m => lS9.mp m ▸ ⟨_, g1⟩
   have G := Zax e1 kk
   exact q h' _ (Zcj I e1 kk g) (I.write e1 kk g ⟨hsm, _, d, ZlO (vu.mono G) (Zaj hd) hv (hq.imp fun v v z => ⟨z.1, z.2.mono G⟩), (ZlP es).symm ▸ hl⟩) (Fi.write I e1 kk)
theorem sz4 : 4096 ≤ sizeLine := by rw [sizeLine_eq]; decide
theorem Zs5 : 4096 + 4096 + 4096 ≤ sizeLine := by rw [sizeLine_eq]; decide
theorem Zf2 {xs : Array Vl} (a b : Nat) (h : xs.size ≤ 4096) : (xs.extract a b).size ≤ 4096 := by rw [Array.size_extract]; exact Nat.le_trans (Nat.le_trans (Nat.sub_le _ _) (Nat.min_le_right _ _)) h
theorem ZlQ {xs new : Array Vl} (a b : Nat) (h : xs.size ≤ 4096) (h2 : new.size ≤ 4096) : (xs.extract 0 a ++ new ++ xs.extract b xs.size).size ≤ sizeLine := by
 rw [Array.size_append, Array.size_append]; exact Nat.le_trans (Nat.add_le_add (Nat.add_le_add (Zf2 _ _ h) h2) (Zf2 _ _ h)) Zs5
theorem Zki {ra rb : Option Nat} (ho : s.heap.get? l = some (listOf items m)) (hv : s.heap.get? v = some (listOf new m2)) (hne : l ≠ v)
 (hs : s.heap.get? sl = some { cls := .type "slice", data := .fields #[xl, xh, .none] }) (pa : IsPart xl (ra.map (fun k : Nat => (k : Int)))) (pb : IsPart xh (rb.map (fun k : Nat => (k : Int)))) (h1 : ra.getD 0 ≤ rb.getD items.size) (h2 : rb.getD items.size ≤ items.size) (hz : items.size ≤ 4096) (hz2 : new.size ≤ 4096)
 (q : Q () { s with heap := s.heap.update l (Obj.mapSeq fun xs => xs.extract 0 (ra.getD 0) ++ new ++ xs.extract (rb.getD items.size) xs.size) }) : wA S.M A (setItem (.ref l) (.ref sl) (.ref v)) Q E s := by
 have hl : s.heap.IsList l items := ⟨_, ho, rfl, m, rfl⟩
 have hTs : s.TypeIs (.ref sl) "slice" := ⟨_, hs, rfl⟩
 have hTv : s.TypeIs (.ref v) "list" := ⟨_, hv, rfl⟩
 have hsame : ¬ Builtin.List.listSameRef (.ref l) (.ref v) = true := by simp [Builtin.List.listSameRef, hne]
 have sb := Zj8 ra rb items.size
 rw [Nat.min_eq_left h2, Nat.min_eq_left (Nat.le_trans h1 h2)] at sb
 have mx : (max ((ra.getD 0 : Nat) : Int) ((rb.getD items.size : Nat) : Int)).toNat = rb.getD items.size := by rw [Int.max_eq_right (Int.ofNat_le.mpr h1)]; rfl
 have z1 : ¬ Builtin.List.listTooLong (items.size + new.size) = true := fun z => absurd (of_decide_eq_true z) (Nat.not_lt.mpr (Nat.le_trans (Nat.add_le_add hz hz2) (by rw [sizeLine_eq]; decide)))
 refine wH (wB (wpAny_sequenceKey hl.typeIs (by decide) (wB (wpAny_callSpecial?_slot (name := sO "__setitem__") hl.typeIs slot_list_setitem
  (wpAny_call_entry slot_list_setitem hl.typeIs entry_list_setitem ?_ (args_list_setitem _ _ _))))))
 refine wB (m := Builtin.List.listSubscript? (.ref sl)) (wB (wpAny_specialOf hTs slice_no_index (wP ?_)))
 refine wB (m := typeOf (.ref sl)) (wpAny_typeOf hTs ?_)
 refine wB (m := Builtin.List.listSliceParts _) (wB (wpAny_field hs rfl (x := .none) rfl (wB (wpAny_listPart .none (wel Bool.false_ne_true (wB (wpAny_field hs rfl (x := xl) rfl (wB (wpAny_listPart pa (wB (wpAny_field hs rfl (x := xh) rfl (wB (wpAny_listPart pb (wP ?_))))))))))))))
 refine wel hsame (wB (m := Builtin.List.listAllItems _ _) (wB (wpAny_typeOf hTv (wB (wpAny_seqItems hv rfl (wP ?_))))))
 refine wB (m := Builtin.List.listItems _) (wB (wpAny_seqItems ho rfl (wP ?_)))
 refine wB (wpAny_of_eq ((sliceIndices_raw _ _ none items.size (by simp)).trans (congrArg pure sb)) ?_)
 refine wif rfl (wB (wpAny_rule (wel z1 ?_)))
 refine wB (m := updateSeq l _) (wpAny_updateSeq ho rfl ?_ (Nat.le_trans hz sz4) (Nat.le_succ_of_le (ZlQ _ _ hz hz2)))
 rw [mx]
 exact wB (wpAny_letGo (wP ⟨.none, rfl, wP q⟩))
inductive SslC (st : St) (lo hi : Option MV) : MV → MV → St → Prop
 | mk {l ys xs a b} (es : st[l]? = some (.list xs)) (e1 : ZW 0 lo = some a) (e2 : ZW xs.length hi = some b) (q1 : a ≤ b) (q2 : b ≤ xs.length) (q3 : ys.length = b - a) (q4 : xs.length ≤ 4096) : SslC st lo hi (.loc l) (.d (.list ys)) (st.set l (.list (xs.take a ++ ys ++ xs.drop b)))
theorem Zs6 {st st' : St} {lo hi : Option MV} {ov x : MV} (e : Zae st ov lo hi x = some st') : SslC st lo hi ov x st' := by
 cases ov with
 | loc l => cases x with
  | d y => cases y with
   | list ys =>
    have e : (match st[l]? with | some (.list xs) => (ZW 0 lo).bind fun a => (ZW xs.length hi).bind fun b => if (decide (a ≤ b) && decide (b ≤ xs.length) && decide (ys.length = b - a) && Zc xs.length) then some (st.set l (.list (xs.take a ++ ys ++ xs.drop b))) else none | _ => none) = some st' := e
    cases es : st[l]? with
    | none => rw [es] at e; exact nn e rfl
    | some o => rw [es] at e; cases o with
     | list xs =>
      obtain ⟨a, e1, e⟩ := ZaN e
      obtain ⟨b, e2, e⟩ := ZaN e
      obtain ⟨h, rfl⟩ := ZF (c := decide (a ≤ b) && decide (b ≤ xs.length) && decide (ys.length = b - a) && Zc xs.length) e
      obtain ⟨h, h4⟩ := Bool.and_eq_true_iff.mp h
      obtain ⟨h, h3⟩ := Bool.and_eq_true_iff.mp h
      obtain ⟨h1, h2⟩ := Bool.and_eq_true_iff.mp h
      exact .mk es e1 e2 (of_decide_eq_true h1) (of_decide_eq_true h2) (of_decide_eq_true h3) (Zv h4)
     | _ => exact nn e rfl
   | _ => exact nn e rfl
  | _ => exact nn e rfl
 | _ => exact nn e rfl
theorem Zhs (I : Inv S W st s.heap) (Fi : FI S F W ρ s.heap) {lo hi : Option MV} {st' : St} (vy : VR S W s.heap y ov) (vl : VO S W s.heap xl lo) (vh : VO S W s.heap xh hi) (vu : VR S W s.heap u x)
 (hs : s.heap.get? sl = some { cls := .type "slice", data := .fields #[xl, xh, .none] }) (e : Zae st ov lo hi x = some st')
 (q : ∀ h' tk, Step W W F.cur s.heap h' → Inv S W st' h' → FI S F W ρ h' → Q () (sh s h' tk)) : wA S.M A (setItem y (.ref sl) u) Q E s := by
 cases Zs6 e with
 | @mk l ys xs a b es e1 e2 q1 q2 q3 q4 =>
  obtain ⟨at_, items, m, rfl, c1, ho, r⟩ := ZbK I vy es
  have hlen : items.size = xs.length := by rw [← Array.length_toList, r.length]
  obtain ⟨ra, pa, ga⟩ := ZcZ vl e1
  obtain ⟨rb, pb, gb⟩ := ZcZ vh e2
  obtain ⟨v, new, m2, rfl, ha, hv, d⟩ := ZdC vu
  have hlen2 : new.size = ys.length := by rw [← Array.length_toList, d.length]
  have hne : at_ ≠ v := fun z => ha (z ▸ Zdq c1 _ (.head _))
  rw [← hlen] at gb
  refine Zki ho hv hne hs pa pb (by rw [ga, gb]; exact q1) (by rw [gb, hlen]; exact q2) (hlen ▸ q4) (by rw [hlen2, q3]; exact Nat.le_trans (Nat.sub_le b a) (Nat.le_trans q2 q4)) ?_
  obtain ⟨n', hs'⟩ := ZdQ (fun xs => xs.extract 0 (ra.getD 0) ++ new ++ xs.extract (rb.getD items.size) xs.size) ho
  obtain ⟨z1, z2, z3⟩ := ZaX (r := []) (xs' := xs.take a ++ ys ++ xs.drop b) I Fi c1 ho (Heap.SameBut.update ..) hs' (by
   have d1 := r.take a
   have d3 := r.drop b
   have := (d1.append d).append d3
   rw [ga, gb]
   simpa [Array.toList_extract, List.extract_eq_take_drop, List.take_of_length_le] using this)
  exact q _ s.toks z1 z2 z3
end
section
noncomputable def ZaG (e : CE) : Bool := e.ctorIdx == 16
noncomputable def okA (nm : List (Str × NK)) (ns : List Str) : CA → Bool
 | .nm i _ => okL nm ns i
 | .attr o _ _ => okE nm ns o
 | .sub o i _ => okE nm ns o && okE nm ns i
 | .slc o lo hi _ _ => okE nm ns o && okO nm ns lo && okO nm ns hi
 | .tup is _ => is.all fun i => okL nm ns i.1
noncomputable def Zkj (nm : List (Str × NK)) (ns : List Str) (t : CA) (e : CE) : Bool := match t, e with
 | .nm i p1, .comp _ _ _ _ _ _ _ sc p => nmk nm (nmE ns i) .local && p1.line == p.line && !(sc.names.any fun (n, k) => n == nmE ns i && (k == .local || k == .cell))
 | _, .comp .. => false
 | .tup _ _, .tup _ _ => false
 | _, _ => true
noncomputable def Zfj (nm : List (Str × NK)) (ns : List Str) (is : List (Nat × Pos)) (es : CL) : Bool :=
 (is.length == 2 || is.length == 3) && es.len == is.length && (is.all fun i => okL nm ns i.1 && nmk nm (nmE ns i.1) .local && i.2.line == ((is.head?.map (·.2.line)).getD 0)) && decide (is.map (·.1)).Nodup &&
  !((toL ns es).all (foldedForSure 8)) && !((toL ns es).all (constantsAlone 8))
noncomputable def okH (nm : List (Str × NK)) (ns : List Str) : Nat × Pos × Option Nat × CR × Pos × Pos → Bool
 | (k, _, as, r, _, _) => decide (k ≤ 4) && okG nm (Cn k) && (match as, r with
  | none, .cst _ _ => true
  | some i, .two _ _ a _ _ _ => okL nm ns i && nmk nm (nmE ns i) .local && nmE ns i == sO "stop" && a == 16
  | _, _ => false)
mutual
noncomputable def okX (nm : List (Str × NK)) (ns : List Str) : CX → Bool
 | .asg t e _ => okA nm ns t && okE nm ns e && Zkj nm ns t e
 | .unp is es _ _ _ => Zu nm ns es && Zfj nm ns is es
 | .aug i op e _ _ => okL nm ns i && okE nm ns e && (op == .Add || op == .Mult)
 | .augA o _ op e _ _ => okE nm ns o && okE nm ns e && (op == .Add || op == .Mult)
 | .ifs t b o _ => okE nm ns t && okB nm ns b && okB nm ns o
 | .whl t b _ => okE nm ns t && okB nm ns b
 | .fr t s b _ => okT ns.length t && Zck nm ns t && okS nm ns s && okB nm ns b
 | .ret e _ => okO nm ns e
 | .rse g as _ _ _ => decide (1 ≤ g) && decide (g ≤ 4) && okG nm (Cn g) && Zu nm ns as && as.len == 1
 | .try_ b hs _ => okB nm ns b && hs.all (okH nm ns) && !hs.isEmpty
 | .ex e _ => okE nm ns e && !ZaG e
 | .pass _ => true
noncomputable def okB (nm : List (Str × NK)) (ns : List Str) : CB → Bool
 | .nil => true
 | .cons s r => okX nm ns s && okB nm ns r
noncomputable def Zck (nm : List (Str × NK)) (ns : List Str) : CT → Bool
 | .nm i _ => okL nm ns i
 | .two i _ j _ _ => okL nm ns i && okL nm ns j
end
theorem ZtD : okX nm ns (.asg t e p3) = (okA nm ns t && okE nm ns e && Zkj nm ns t e) := rfl
theorem ZtE : okX nm ns (.unp is es p3 p4 p5) = (Zu nm ns es && Zfj nm ns is es) := rfl
theorem Zol : okX nm ns (.aug i op e p4 p5) = (okL nm ns i && okE nm ns e && (op == .Add || op == .Mult)) := rfl
theorem ZlR : okX nm ns (.augA o p2 op e p5 p6) = (okE nm ns o && okE nm ns e && (op == .Add || op == .Mult)) := rfl
theorem ZtF : okX nm ns (.whl t b p3) = (okE nm ns t && okB nm ns b) := rfl
theorem ZtG : okX nm ns (.fr t s b p4) = (okT ns.length t && Zck nm ns t && okS nm ns s && okB nm ns b) := rfl
theorem Zom : okX nm ns (.rse g as p3 p4 p5) = (decide (1 ≤ g) && decide (g ≤ 4) && okG nm (Cn g) && Zu nm ns as && as.len == 1) := rfl
theorem Zon : okX nm ns (.try_ b hs p3) = (okB nm ns b && hs.all (okH nm ns) && !hs.isEmpty) := rfl
section
variable (S : SC) (F : Fm) (W : Wd) (hh : Heap) (gg : Array GenState) (dd : Drawn) (os : OsState)
inductive QX0 (r : RX) (f : Flow) (s' : Sh) : Prop
 | mk (st' : St) (W' : Wd) (h' : Heap) (tk : Nat) (q : s' = ⟨h', gg, dd, tk, os⟩) (P : Step W W' F.cur hh h') (I : Inv S W' st' h') (z : (∃ ρ', r = .nx ρ' st' ∧ f = .next ∧ FI S F W' ρ' h') ∨ (∃ v u, r = .rt v st' ∧ f = .ret u ∧ VR S W' h' u v))
inductive EX0 (r : RX) (x : Vl) (s' : Sh) : Prop
 | mk (c : Nat) (fs : List (Nat × PD)) (ρ' : En) (st' : St) (W' : Wd) (a : Addr) (e : r = .ex c fs ρ' st') (y : x = .ref a) (h' : Heap) (tk : Nat) (q : s' = ⟨h', gg, dd, tk, os⟩) (P : Step W W' F.cur hh h') (I : Inv S W' st' h') (K : FI S F W' ρ' h') (z : XS S W' hh F.env.frame c fs a h')
end
section
variable (S : SC) (F : Fm) (W : Wd)
noncomputable def QX (s : Sh) (r : RX) (f : Flow) (s' : Sh) : Prop := QX0 S F W s.heap s.gens s.drawn s.os r f s'
noncomputable def EX (s : Sh) (r : RX) (x : Vl) (s' : Sh) : Prop := EX0 S F W s.heap s.gens s.drawn s.os r x s'
end
noncomputable def Zad (S : SC) (C : Ze) (n : Nat) (c : CX) : Prop := ∀ (F : Fm) (A : Ar) (W : Wd) (ρ : En) (st : St) (s : Sh), FmOk F A n → ZbW F → okX F.env.scope.names F.ns c = true → Inv S W st s.heap → FI S F W ρ s.heap → ex1 C c ρ st ≠ .no →
 wA S.M A (exec (toX F.ns c) F.env) (QX S F W s (ex1 C c ρ st)) (EX S F W s (ex1 C c ρ st)) s
noncomputable def Z3 (S : SC) (C : Ze) (n : Nat) (c : CB) : Prop := ∀ (F : Fm) (A : Ar) (W : Wd) (ρ : En) (st : St) (s : Sh), FmOk F A n → ZbW F → okB F.env.scope.names F.ns c = true → Inv S W st s.heap → FI S F W ρ s.heap → exs C c ρ st ≠ .no →
 wA S.M A (execs (toB F.ns c) F.env) (QX S F W s (exs C c ρ st)) (EX S F W s (exs C c ρ st)) s
section
variable {S : SC} {C : Ze} {n : Nat} {F : Fm} {W W₀ W' : Wd} {ρ : En} {st : St} {A : Ar} {s : Sh} {lo h h' h₁ : Heap} {E : Vl → Sh → Prop}
theorem QX.lift (P : Step W W' F.cur s.heap h') (q : QX S F W' (sh s h' tk) r f s₂) : QX S F W s r f s₂ := by
 obtain ⟨st₂, W₂, h₂, tk₂, rfl, P₂, I₂, z⟩ := q
 exact ⟨st₂, W₂, h₂, tk₂, rfl, P.trans P₂, I₂, z⟩
theorem Zkk (P : Step W W' F.cur s.heap h') (x : Ext W' W₂) : ∀ b, b ∉ W₂.own → h'.get? b = none → s.heap.get? b = none := fun b n q => (P.pers.dead q).resolve_left fun m => n (x.own _ (P.ext.own _ m))
theorem EX.lift (P : Step W W' F.cur s.heap h') (q : EX S F W' (sh s h' tk) r x s₂) : EX S F W s r x s₂ := by
 obtain ⟨c, fs, ρ', st', W'', e, e1, e2, h₂, tk₂, rfl, P', I, Fi, X⟩ := q
 exact ⟨c, fs, ρ', st', W'', e, e1, e2, h₂, tk₂, rfl, P.trans P', I, Fi, X.weaken (Zkk P P'.ext) fun y m => m⟩
theorem ZI (ne : onR ρ r f ≠ .no) : r ≠ .no := fun e => ne (by rw [e]; rfl)
theorem ZQ (ne : onR ρ r f ≠ .no) (e : r = .ok v st) : f v st ≠ .no := fun z => ne (by rw [e]; exact z)
theorem Zbp
 (h : wA S.M A t (QE S F W ρ s V r) (EE S F W ρ s r) s)
 (q : ∀ v st' W' h' tk x, r = .ok v st' → Step W W' F.cur s.heap h' → Inv S W' st' h' → FI S F W' ρ h' → V W' h' x v →
  wA S.M A (k x) (QX S F W' (sh s h' tk) (f v st')) (EX S F W' (sh s h' tk) (f v st')) (sh s h' tk)) :
 wA S.M A (t >>= k) (QX S F W s (onR ρ r f)) (EX S F W s (onR ρ r f)) s := by
 refine wB (wM h (fun x s₁ z => ?_) fun x s₁ z => ?_)
 ·obtain ⟨v, st', W', rfl, h', tk, rfl, P, I, Fi, vr⟩ := z
  exact wM (q v st' W' h' tk x rfl P I Fi vr) (fun y s₂ z => z.lift P) fun y s₂ z => z.lift P
 ·obtain ⟨c, fs, st', W', a, rfl, e, h', tk, e2, y1, y2, y3, y4⟩ := z
  exact ⟨c, fs, ρ, st', W', a, rfl, e, h', tk, e2, y1, y2, y3, y4⟩
theorem ZcH (ne : onR ρ r f ≠ .no)
 (h : r ≠ .no → wA S.M A t (QE S F W ρ s V r) (EE S F W ρ s r) s)
 (q : ∀ v st' W' h' tk x, f v st' ≠ .no → Step W W' F.cur s.heap h' → Inv S W' st' h' → FI S F W' ρ h' → V W' h' x v →
  wA S.M A (k x) (QX S F W' (sh s h' tk) (f v st')) (EX S F W' (sh s h' tk) (f v st')) (sh s h' tk)) :
 wA S.M A (t >>= k) (QX S F W s (onR ρ r f)) (EX S F W s (onR ρ r f)) s :=
 Zbp (h (ZI ne)) fun v st' W' h' tk x e => q v st' W' h' tk x (ZQ ne e)
theorem ZiJ {f : α → RX} (ne : oX o f ≠ .no)
 (h : ∀ x, o = some x → f x ≠ .no → wA S.M A t (QX S F W s (f x)) (EX S F W s (f x)) s) :
 wA S.M A t (QX S F W s (oX o f)) (EX S F W s (oX o f)) s := by
 cases o with
 | none => exact absurd rfl ne
 | some x => exact h x rfl ne
theorem was (h : wA M A (m >>= fun a => f a >>= g) Q E s) : wA M A ((m >>= f) >>= g) Q E s := (bind_assoc m f g).symm ▸ h
theorem Zcl (P : Step W W F.cur s.heap h') (I : Inv S W st' h') (Fi : FI S F W ρ' h') : QX S F W s (.nx ρ' st') .next (sh s h' tk) :=
 ⟨st', W, h', tk, rfl, P, I, .inl ⟨ρ', rfl, rfl, Fi⟩⟩
theorem ZhQ (I : Inv S W st s.heap) (Fi : FI S F W ρ s.heap) : QX S F W s (.nx ρ st) .next s := ⟨st, W, s.heap, s.toks, rfl, .refl, I, .inl ⟨ρ, rfl, rfl, Fi⟩⟩
theorem Zoo : Z3 S C n .nil := by
 intro F A W ρ st s _ _ _ I Fi _
 exact wP (ZhQ I Fi)
theorem ZlS (hc : Zad S C n c) (hr : Z3 S C n r) : Z3 S C n (.cons c r) := by
 intro F A W ρ st s O fn ok I Fi ne
 have ok := Bool.and_eq_true_iff.mp ok
 rw [ZrP] at ne ⊢
 refine wB (m := exec (toX F.ns c) F.env) (wM (hc F A W ρ st s O fn ok.1 I Fi fun e => ne (by rw [e]; rfl)) (fun f s' z => ?_) fun x s' z => ?_)
 ·obtain ⟨st', W', h', tk, rfl, P, I', z⟩ := z
  rcases z with ⟨ρ', e, rfl, Fi'⟩ | ⟨v, u, e, rfl, vu⟩
  ·rw [e] at ne ⊢
   exact wM (hr F A W' ρ' st' (sh s h' tk) O fn ok.2 I' Fi' ne) (fun y s₂ z => z.lift P) fun y s₂ z => z.lift P
  ·rw [e]
   exact wP ⟨st', W', h', tk, rfl, P, I', .inr ⟨v, u, rfl, rfl, vu⟩⟩
 ·obtain ⟨c', fs, ρ', st', W', e, e1, e2, y1, y2, y3, y4, y5, y6, y7⟩ := z
  rw [e1]
  exact ⟨c', fs, ρ', st', W', e, rfl, e2, y1, y2, y3, y4, y5, y6, y7⟩
theorem Zop : Zad S C n (.pass p) := by
 intro F A W ρ st s _ _ _ I Fi _
 exact wB (wS (wP (ZhQ I Fi)))
theorem ZhR (ok : okE nm ns e = true) (hc : ZaG e = false) : swapsWith (toE ns' e) t line env = pure false := by
 clear ok; cases e <;> first | rfl | cases hc
theorem Zr0 (he : Snd S C n e) : Zad S C n (.ex e p) := by
 intro F A W ρ st s O fn ok I Fi ne
 have ok := Bool.and_eq_true_iff.mp ok
 rw [Zqa] at ne ⊢
 refine wpAny_Expr_any ?_ (by unfold interactive; rw [O.kind]; rfl) (ZhR ok.1 (Bool.not_eq_true' _ ▸ ok.2))
 refine wM (he F A W ρ st s O ok.1 I Fi (ZI ne)) (fun x s' z => ?_) fun x s' z => ?_
 ·obtain ⟨v, st', W', e1, h', tk, rfl, P, I', Fi', vx⟩ := z
  rw [e1]
  exact ⟨st', W', h', tk, rfl, P, I', .inl ⟨ρ, rfl, rfl, Fi'⟩⟩
 ·obtain ⟨c, fs, st', W', a, e1, y1, y2, y3, y4, y5, y6, y7, y8⟩ := z
  rw [e1]
  exact ⟨c, fs, ρ, st', W', a, rfl, y1, y2, y3, y4, y5, y6, y7, y8⟩
theorem Zqj (ht : Z9 S C n t) (hb : Z3 S C n b) (ho : Z3 S C n o) : Zad S C n (.ifs t b o p) := by
 intro F A W ρ st s O fn ok I Fi ne
 have ok2 := Bool.and_eq_true_iff.mp ok
 have ok1 := Bool.and_eq_true_iff.mp ok2.1
 refine wB (m := standAt p) (wS (ZcH ne (ht F A W ρ st s O ok1.1 I Fi) fun v st' W' h' tk x ne2 P I' Fi' vx => ?_))
 cases vx
 cases v with
 | true => exact hb F A W' ρ st' (sh s h' tk) O fn ok1.2 I' Fi' ne2
 | false => exact ho F A W' ρ st' (sh s h' tk) O fn ok2.2 I' Fi' ne2
theorem Zqk (he : ∀ c, e = .so c → Snd S C n c) : Zad S C n (.ret e p) := by
 intro F A W ρ st s O fn ok I Fi ne
 cases e with
 | no => exact wB (m := standAt p) (wS (wP ⟨st, W, s.heap, s.toks, rfl, .refl, I, .inr ⟨.d .none, .none, rfl, rfl, .none⟩⟩))
 | so c => exact wB (m := standAt p) (wS (ZcH ne (he c rfl F A W ρ st s O ok I Fi) fun v st' W' h' tk x _ P I' Fi' vx => wP ⟨st', W', h', tk, rfl, .refl, I', .inr ⟨v, x, rfl, rfl, vx⟩⟩))
end
end
section
variable {S : SC} {C : Ze} {n : Nat} {F : Fm} {W W₀ W' : Wd} {ρ : En} {st : St} {A : Ar} {s : Sh} {lo h h' h₁ : Heap} {E : Vl → Sh → Prop}
theorem Zb8 (h1 : swapsWithSole [T] V p.line env = pure false) (h2 : swappedStores [T] V env = pure none) (h3 : (assignEach [T] env).map (·.2) = [assign T env])
 (h : wA M A (eval V env >>= fun v => assign T env v >>= fun y => pure Flow.next) Q E s) : wA M A (exec (.Assign [T] V p) env) Q E s := by
 show wA _ _ (standAt p >>= fun y => swapsWithSole [T] V p.line env >>= fun b => if b = true then (evalThenUse V env (fun v => assignAll v ((assignEach [T] env).map (·.2))) >>= fun y => pure Flow.next) else (eval V env >>= fun v => swappedStores [T] V env >>= fun sw => assignStores env v sw ((assignEach [T] env).map (·.2)))) _ _ _
 rw [h1, h2, h3]
 exact wB (wS h)
noncomputable def toA (ns : List Str) : CA → Expr
 | .nm i p => .Name (nmE ns i) p
 | .attr o a p => .Attribute (toE ns o) (An a) p
 | .sub o i p => .Subscript (toE ns o) (toE ns i) p
 | .slc o lo hi p1 p => .Subscript (toE ns o) (.Slice (toO ns lo) (toO ns hi) none p1) p
 | .tup is p => .Tuple (ZbV ns is) 0 p
theorem Zek : toX ns (.asg t e p) = .Assign [toA ns t] (toE ns e) p := by cases t <;> rfl
theorem Zbf (ok : okE nm ns e = true) (hs : ∀ is p es q, t = .tup is p → e ≠ .tup es q) : swappedStores [toA ns' t] (toE ns' e) env = pure none := by
 cases t with
 | tup is p =>
  clear ok; cases e <;> first | rfl | exact absurd rfl (hs _ _ _ _ rfl)
 | _ => rfl
theorem ZbA : (assignEach [toA ns t] env).map (·.2) = [assign (toA ns t) env] := by cases t <;> rfl
theorem Zam : ∀ {is : List (Nat × Pos)}, assignEach (ZbV ns is) env = is.map fun i => (false, assign (.Name (nmE ns i.1) i.2) env)
 | [] => rfl
 | i :: is => by
  show (false, assign (.Name (nmE ns i.1) i.2) env) :: assignEach (ZbV ns is) env = _
  rw [Zam]; rfl
theorem Zoq {l : List (Nat × Pos)} {f : Nat × Pos → Vl → Sem Unit} : (l.map fun i => (false, f i)).findIdx? (·.1) = none := by
 rw [List.findIdx?_eq_none_iff]
 intro x hx
 obtain ⟨i, _, rfl⟩ := List.mem_map.mp hx
 rfl
theorem ZbB (ok : okE nm ns e = true) (hc : ZaG e = false) : swapsWithSole [T] (toE ns' e) line env = pure false := ZhR (t := some T) ok hc
theorem Zkl (he : Snd S C n e) (hc : ZaG e = false) : Zad S C n (.asg (.nm i p1) e p) := by
 intro F A W ρ st s O fn ok I Fi ne
 have ok := Bool.and_eq_true_iff.mp (Bool.and_eq_true_iff.mp ok).1
 exact Zb8 (T := toA F.ns (.nm i p1)) (ZbB ok.2 hc) (Zbf ok.2 fun y y y y z => by cases z) ZbA (ZcH ne (he F A W ρ st s O ok.2 I Fi) fun v st' W' h' tk x _ P I' Fi' vx =>
  wB (Zap (s := sh s h' tk) O (fun c hc y => fn _ c hc) ok.1 I' Fi' vx fun h2 tk2 P2 I2 Fi2 => wP (Zcl P2 I2 Fi2)))
theorem Zht (G : Ground S) (he : Snd S C n e) (ho : Snd S C n o) (hc : ZaG e = false) : Zad S C n (.asg (.attr o a p1) e p) := by
 intro F A W ρ st s O fn ok I Fi ne
 have ok := Bool.and_eq_true_iff.mp (Bool.and_eq_true_iff.mp ok).1
 exact Zb8 (T := toA F.ns (.attr o a p1)) (ZbB ok.2 hc) (Zbf ok.2 fun u u u u z => by cases z) ZbA (ZcH ne (he F A W ρ st s O ok.2 I Fi) fun v st' W' h' tk x ne2 P I' Fi' vx =>
  was (ZcH ne2 (fun n => wH (ho F A W' ρ st' (sh s h' tk) O ok.1 I' Fi' n)) fun v2 st2 W2 h2 tk2 y ne3 P2 I2 Fi2 vy =>
   ZiJ ne3 fun st3 q u => wB (wB (m := standAt _) (wS (wB (wH (ZhP (s := sh s h2 tk2) G I2 Fi2 vy (vx.mono P2.grow) q fun h3 tk3 P3 I3 Fi3 => wpAny_release' (wP (Zcl P3 I3 Fi3)))))))))
theorem ZiK (he : Snd S C n e) (ho : Snd S C n o) (hi : Snd S C n i) (hc : ZaG e = false) : Zad S C n (.asg (.sub o i p1) e p) := by
 intro F A W ρ st s O fn ok I Fi ne
 have ok := Bool.and_eq_true_iff.mp (Bool.and_eq_true_iff.mp ok).1
 have ok1 := Bool.and_eq_true_iff.mp ok.1
 exact Zb8 (T := toA F.ns (.sub o i p1)) (ZbB ok.2 hc) (Zbf ok.2 fun u u u u z => by cases z) ZbA (ZcH ne (he F A W ρ st s O ok.2 I Fi) fun v st' W' h' tk x ne2 P I' Fi' vx =>
  was (ZcH ne2 (fun n => wH (ho F A W' ρ st' (sh s h' tk) O ok1.1 I' Fi' n)) fun v2 st2 W2 h2 tk2 y ne3 P2 I2 Fi2 vy =>
   was (ZcH ne3 (fun n => wH (hi F A W2 ρ st2 (sh s h2 tk2) O ok1.2 I2 Fi2 n)) fun v3 st3 W3 h3 tk3 k ne4 P3 I3 Fi3 vk =>
    ZiJ ne4 fun st4 q u => wB (wB (m := standAt _) (wS (wB (wH (ZiI (s := sh s h3 tk3) I3 Fi3 (vy.mono P3.grow) vk ((vx.mono P2.grow).mono P3.grow) q fun h4 tk4 P4 I4 Fi4 => wpAny_release' (wP (Zcl P4 I4 Fi4))))))))))
theorem ZiL {lo hi : CO} (he : Snd S C n e) (ho : Snd S C n o) (hl : Zch S C n lo) (hh : Zch S C n hi) (hc : ZaG e = false) : Zad S C n (.asg (.slc o lo hi p1 p2) e p) := by
 intro F A W ρ st s O fn ok I Fi ne
 have ok := ba3 ok
 have oka := ba3 ok.1.1
 rw [Zeb] at ne ⊢
 rw [Zek]
 refine Zb8 (ZbB ok.1.2 hc) (Zbf ok.1.2 fun u u u u z => by cases z) ZbA ?_
 refine Zbp (he F A W ρ st s O ok.1.2 I Fi (ZI ne)) fun v st' W' h' tk x e1 P I' Fi' vx => ?_
 have ne2 := ZQ ne e1
 show wA _ _ ((holding [x] (eval (toE F.ns o) F.env) >>= fun ov => holding [x, ov] (eval (.Slice (toO F.ns lo) (toO F.ns hi) none p1) F.env) >>= fun iv => standAt p2 >>= fun u => holding [x, ov, iv] (setItem ov iv x) >>= fun u => release [iv, x, ov] []) >>= fun u => pure Flow.next) _ _ _
 rw [bind_assoc]
 refine Zbp (wH (ho F A W' ρ st' (sh s h' tk) O oka.1.1 I' Fi' (ZI ne2))) fun v2 st2 W2 h2 tk2 y e2 P2 I2 Fi2 vy => ?_
 have ne3 := ZQ ne2 e2
 rw [bind_assoc]
 refine Zbp (wH (ZdL (p1 := p1) (s := sh s h2 tk2) hl hh O oka.1.2 oka.2 I2 Fi2 (ZI ne3))) fun q st3 W3 h3 tk3 iv e3 P3 I3 Fi3 vp => ?_
 obtain ⟨sl, xl, xh, rfl, hs, v1, v3⟩ := vp
 simp only [bind_assoc]
 exact ZiJ (ZQ ne3 e3) fun st4 q4 u => wB (wS (wB (wH (Zhs (s := sh s h3 tk3) I3 Fi3 (vy.mono P3.grow) v1 v3 ((vx.mono P2.grow).mono P3.grow) hs q4 fun h4 tk4 P4 I4 Fi4 =>
  wB (wpAny_release' (wP (Zcl (s := sh s h3 tk3) P4 I4 Fi4)))))))
theorem ZaQ : ∀ {is : List (Nat × Pos)} {vs : List MV} {ρ ρ' : En}, ZG vs is ρ = some ρ' → vs.length = is.length
 | [], [], _, _, _ => rfl
 | [], _ :: _, _, _, e => by exact nn e rfl
 | _ :: _, [], _, _, e => by exact nn e rfl
 | _ :: is, _ :: vs, _, _, e => congrArg (· + 1) (ZaQ (show ZG _ is _ = some _ from e))
theorem Zor (ne : Zlh v f ≠ .no) : ∃ xs, v = .d (.tuple xs) := by
 cases v with
 | d x => cases x with
  | tuple xs => exact ⟨xs, rfl⟩
  | _ => exact absurd rfl ne
 | _ => exact absurd rfl ne
theorem ZiM {is : List (Nat × Pos)} {p1 p : Pos} (he : Snd S C n e) (hc : ZaG e = false) (ht : ∀ es q, e ≠ .tup es q) : Zad S C n (.asg (.tup is p1) e p) := by
 intro F A W ρ st s O fn ok I Fi ne
 have ok := ba3 ok
 rw [Zeb] at ne ⊢
 rw [Zek]
 refine Zb8 (ZbB ok.1.2 hc) (Zbf ok.1.2 fun y y es q z => by cases z; exact ht es q) ZbA ?_
 refine Zbp (he F A W ρ st s O ok.1.2 I Fi (ZI ne)) fun v st' W' h' tk x e1 P I' Fi' vx => ?_
 have ne2 := ZQ ne e1
 obtain ⟨xs, rfl⟩ := Zor ne2
 refine ZiJ (o := ZaT xs is ρ) (f := fun ρ => .nx ρ st') ne2 fun ρ' q _ => ?_
 obtain ⟨a, ob, us, m, rfl, ha, hob, hcl, hd, d⟩ := Zb4 vx
 have hT : IsTup h' a us := ⟨ob, hob, hcl, m, hd⟩
 rw [ZfY] at q
 have hlen : us.size = xs.length := by rw [← Array.length_toList, d.length]
 have hz : is.length = xs.length := by simpa using (ZaQ q).symm
 refine wB (assign_Tuple_tuple (s := sh s h' tk) O.room.handled hT (by rw [Zam]; simp [hz, hlen]) (by rw [Zam]; exact Zoq (f := fun i => assign (.Name (nmE F.ns i.1) i.2) F.env)) fun h2 ex => ?_)
 have k : ∀ b o, h'.get? b = some o → h2.get? b = some o := fun b o eb => ex b o (fun z => Nat.lt_irrefl _ (z ▸ Heap.lt_size eb)) eb
 rw [Zam, List.map_map]
 refine ZfX (s := sh s h2 tk) (vs := xs.map .d) O fn (fun i m => List.all_eq_true.mp ok.1.1 i m) (I'.grow k) (Fi'.grow k) (ZlK (DRs.mono (fun b o e y y => k b o e) (fun y m => .inl m) d)) q fun h3 tk3 P3 I3 Fi3 => ?_
 exact wP (Zcl ((Step.keeps k).trans P3) I3 Fi3)
noncomputable def ZbC (e : Expr) : Bool := e.ctorIdx == 22
theorem Zb9 : ZbC x = false → ¬ ((match x with | .Starred .. => true | _ => false) = true) := by cases x <;> intro sx <;> first | exact Bool.false_ne_true | cases sx
theorem Zf3 : (Expr.Name x p).pos = p := rfl
theorem Zr1 (h1 : env.blockKind = .function) (sx : ZbC x = false) (sy : ZbC y = false) (ka : env.kindOf a = some .local) (kb : env.kindOf b = some .local) (lb : pb.line = pa.line) (ab : a ≠ b)
 (f1 : [x, y].all (foldedForSure 8) = false) (f2 : [x, y].all (constantsAlone 8) = false) : swappedStores [.Tuple [.Name a pa, .Name b pb] 0 p1] (.Tuple [x, y] 0 p2) env = pure (some [a, b]) := by
 have ne : (b == a) = false := by simp [Ne.symm ab]
 unfold swappedStores
 simp [h1, ka, kb, lb, f1, f2, List.filterMap, List.eraseDups, Zf3, ne, List.eraseDupsBy, List.eraseDupsBy.loop]
 rintro (z | z)
 ·exact absurd z (Zb9 sx)
 ·exact absurd z (Zb9 sy)
theorem Zr2 (h1 : env.blockKind = .function) (sx : ZbC x = false) (sy : ZbC y = false) (sz : ZbC z = false) (ka : env.kindOf a = some .local) (kb : env.kindOf b = some .local) (kc : env.kindOf c = some .local)
 (lb : pb.line = pa.line) (lc : pc.line = pa.line) (ab : a ≠ b) (ac : a ≠ c) (bc : b ≠ c)
 (f1 : [x, y, z].all (foldedForSure 8) = false) (f2 : [x, y, z].all (constantsAlone 8) = false) : swappedStores [.Tuple [.Name a pa, .Name b pb, .Name c pc] 0 p1] (.Tuple [x, y, z] 0 p2) env = pure (some [a, b, c]) := by
 have n1 : (b == a) = false := by simp [Ne.symm ab]
 have n2 : (c == a) = false := by simp [Ne.symm ac]
 have n3 : (c == b) = false := by simp [Ne.symm bc]
 unfold swappedStores
 simp [h1, ka, kb, kc, lb, lc, f1, f2, List.filterMap, List.eraseDups, Zf3, n1, n2, n3, List.eraseDupsBy, List.eraseDupsBy.loop]
 rintro (q | q | q)
 ·exact absurd q (Zb9 sx)
 ·exact absurd q (Zb9 sy)
 ·exact absurd q (Zb9 sz)
theorem ZiN (h : l.length = 2) : ∃ a b, l = [a, b] := by
 cases l with
 | nil => cases h
 | cons a r => cases r with
  | nil => cases h
  | cons b r => cases r with
   | nil => exact ⟨a, b, rfl⟩
   | cons _ _ => cases h
theorem ZlT (h : l.length = 3) : ∃ a b c, l = [a, b, c] := by
 cases l with
 | nil => cases h
 | cons a r => obtain ⟨b, c, rfl⟩ := ZiN (Nat.succ.inj h); exact ⟨a, b, c, rfl⟩
theorem Zm4 {l : CL} (h : l.len = 2) : ∃ a b, l = .cons a (.cons b .nil) := by
 cases l with
 | nil => cases h
 | cons a r => cases r with
  | nil => cases h
  | cons b r => cases r with
   | nil => exact ⟨a, b, rfl⟩
   | cons _ _ => cases h
theorem Zr3 {l : CL} (h : l.len = 3) : ∃ a b c, l = .cons a (.cons b (.cons c .nil)) := by
 cases l with
 | nil => cases h
 | cons a r => obtain ⟨b, c, rfl⟩ := Zm4 (Nat.succ.inj h); exact ⟨a, b, c, rfl⟩
theorem Zql {p q : Pos} (e : ZG vs [(i, p), (j, q)] ρ = some ρ') : ∃ v v2, vs = [v, v2] ∧ ρ' = (ρ.set i (some v)).set j (some v2) := by
 obtain ⟨v, v2, rfl⟩ := ZiN (ZaQ e)
 cases e; exact ⟨v, v2, rfl, rfl⟩
theorem Zqm {p q r : Pos} (e : ZG vs [(i, p), (j, q), (l, r)] ρ = some ρ') : ∃ v v2 v3, vs = [v, v2, v3] ∧ ρ' = ((ρ.set i (some v)).set j (some v2)).set l (some v3) := by
 obtain ⟨v, v2, v3, rfl⟩ := ZlT (ZaQ e)
 cases e; exact ⟨v, v2, v3, rfl, rfl⟩
theorem Zdr (h : All2 R us (b :: bs)) : ∃ a as, us = a :: as ∧ R a b ∧ All2 R as bs := by
 cases h with
 | cons h t => exact ⟨_, _, rfl, h, t⟩
theorem ZlU (h : All2 R us []) : us = [] := by cases h; rfl
theorem Zf4 (h : All2 R us [a, b]) : ∃ x y, us = [x, y] ∧ R x a ∧ R y b := by
 obtain ⟨x, us, rfl, h1, h⟩ := Zdr h
 obtain ⟨y, us, rfl, h2, h⟩ := Zdr h
 exact ⟨x, y, ZlU h ▸ rfl, h1, h2⟩
theorem ZiO (h : All2 R us [a, b, c]) : ∃ x y z, us = [x, y, z] ∧ R x a ∧ R y b ∧ R z c := by
 obtain ⟨x, us, rfl, h1, h⟩ := Zdr h
 obtain ⟨y, z, rfl, h2, h3⟩ := Zf4 h
 exact ⟨x, y, z, rfl, h1, h2, h3⟩
theorem Zhu (O : FmOk F A n) (fn : ZbW F) (hi : is.length = 2 ∨ is.length = 3) (nd : (is.map (·.1)).Nodup) (ok : ∀ i ∈ is, okL F.env.scope.names F.ns i.1 = true) (I : Inv S W st s.heap) (Fi : FI S F W ρ s.heap)
 (ht : s.heap.get? t = some { cls := .type "tuple", data := .seq us.toArray }) (va : All2 (VR S W s.heap) us vs) (e : ZG vs is ρ = some ρ')
 (q : ∀ h' tk, Step W W F.cur s.heap h' → Inv S W st h' → FI S F W ρ' h' → Q .next (sh s h' tk)) :
 wA S.M A (assignStores F.env (.ref t) (some (is.map fun i => nmE F.ns i.1)) [assign (.Tuple (ZbV F.ns is) 0 ⟨0, 0, 0, 0⟩) F.env]) Q E s := by
 have hT : IsTup s.heap t us.toArray := ⟨_, ht, rfl, 0, rfl⟩
 have hlen : us.toArray.size = is.length := by rw [List.size_toArray, va.length, ZaQ e]
 unfold assignStores
 dsimp only
 refine wB (wpAny_rule (wB ?_))
 rw [List.length_map, ← hlen]
 refine unpackItems_tuple O.room.handled hT fun h2 ex => ?_
 have k : ∀ b o, s.heap.get? b = some o → h2.get? b = some o := fun b o eb => ex b o (fun z => Nat.lt_irrefl _ (z ▸ Heap.lt_size eb)) eb
 have I2 := I.grow k
 have Fi2 := Fi.grow k
 have va2 : All2 (VR S W h2) us vs := ZbI (Step.keeps (cur := []) k).grow va
 have fn' : ∀ i c, F.env.cells.lookup (nmE F.ns i) = some c → F.env.kindOf (nmE F.ns i) = some .cell → c ∈ F.cur := fun i c hc y => fn _ c hc
 rcases hi with hi | hi
 ·obtain ⟨⟨i, pi⟩, ⟨j, pj⟩, rfl⟩ := ZiN hi
  refine bc fun no => ?_; obtain ⟨v, v2, rfl, rfl⟩ := Zql e; refine no ?_
  refine bc fun no => ?_; obtain ⟨u, u2, rfl, z1, z2⟩ := Zf4 va2; refine no ?_
  ·simp only [lM9, List.map_nil, List.nodup_cons, lS9] at nd
   show wA _ _ (assignInOrder [bindName F.env (nmE F.ns j), bindName F.env (nmE F.ns i)] [u2, u] >>= fun y => pure Flow.next) _ _ _
   refine wB (wB (wH (Zal (s := { s with heap := h2 }) O (fn' j) (ok _ (.tail _ (.head _))) I2 Fi2 z2 fun h3 tk3 P3 I3 Fi3 => ?_)))
   refine wB (wH (Zal (s := sh s h3 tk3) O (fn' i) (ok _ (.head _)) I3 Fi3 (z1.mono P3.grow) fun h4 tk4 P4 I4 Fi4 => ?_))
   rw [List.set_comm _ _ (Ne.symm nd.1)] at Fi4
   exact wP (wP (q h4 tk4 (((Step.keeps k).trans P3).trans P4) I4 Fi4))
 ·obtain ⟨⟨i, pi⟩, ⟨j, pj⟩, ⟨l, pl⟩, rfl⟩ := ZlT hi
  refine bc fun no => ?_; obtain ⟨v, v2, v3, rfl, rfl⟩ := Zqm e; refine no ?_
  refine bc fun no => ?_; obtain ⟨u, u2, u3, rfl, z1, z2, z3⟩ := ZiO va2; refine no ?_
  ·simp only [lM9, List.map_nil, List.nodup_cons, lC9, lS9, not_or, List.not_mem_nil, or_false] at nd
   show wA _ _ (assignInOrder [bindName F.env (nmE F.ns l), bindName F.env (nmE F.ns j), bindName F.env (nmE F.ns i)] [u3, u2, u] >>= fun y => pure Flow.next) _ _ _
   refine wB (wB (wH (Zal (s := { s with heap := h2 }) O (fn' l) (ok _ (.tail _ (.tail _ (.head _)))) I2 Fi2 z3 fun h3 tk3 P3 I3 Fi3 => ?_)))
   refine wB (wH (Zal (s := sh s h3 tk3) O (fn' j) (ok _ (.tail _ (.head _))) I3 Fi3 (z2.mono P3.grow) fun h4 tk4 P4 I4 Fi4 => ?_))
   refine wB (wH (Zal (s := sh s h4 tk4) O (fn' i) (ok _ (.head _)) I4 Fi4 ((z1.mono P3.grow).mono P4.grow) fun h5 tk5 P5 I5 Fi5 => ?_))
   have e5 : ((ρ.set l (some v3)).set j (some v2)).set i (some v) = ((ρ.set i (some v)).set j (some v2)).set l (some v3) := by
    rw [List.set_comm (l := ρ) _ _ (Ne.symm nd.2.1), List.set_comm _ _ (Ne.symm nd.1.2), List.set_comm (l := ρ) _ _ (Ne.symm nd.1.1)]
   rw [e5] at Fi5
   exact wP (wP (q h5 tk5 ((((Step.keeps k).trans P3).trans P4).trans P5) I5 Fi5))
theorem ZcI (ok : okE nm ns e = true) : ZbC (toE ns' e) = false := by clear ok; cases e <;> rfl
theorem Zf5 (O : FmOk F A n) : F.env.blockKind = .function := by unfold Env.blockKind; rw [O.kind]; rfl
theorem Zc0 (O : FmOk F A n) (hi : okL F.env.scope.names F.ns i = true) (hj : okL F.env.scope.names F.ns j = true) (ne : i ≠ j) : nmE F.ns i ≠ nmE F.ns j := fun z =>
 ne (Zbb O.nodup (Zb5 hi).1 (z ▸ (Zb5 hj).1))
theorem Zos (O : FmOk F A n) (o1 : Zu F.env.scope.names F.ns es = true) (o2 : Zfj F.env.scope.names F.ns is es = true) :
 swappedStores [.Tuple (ZbV F.ns is) 0 p1] (.Tuple (toL F.ns es) 0 p2) F.env = pure (some (is.map fun i => nmE F.ns i.1)) ∧ (is.length = 2 ∨ is.length = 3) ∧ (is.map (·.1)).Nodup ∧ ∀ i ∈ is, okL F.env.scope.names F.ns i.1 = true := by
 simp only [Zfj, bA, Bool.or_eq_true, beq_iff_eq, decide_eq_true_eq, Bool.not_eq_true', List.all_eq_true] at o2
 obtain ⟨⟨⟨⟨⟨l1, l2⟩, l3⟩, l4⟩, f1⟩, f2⟩ := o2
 refine ⟨?_, l1, l4, fun i m => (l3 i m).1.1⟩
 rcases l1 with l1 | l1
 ·obtain ⟨⟨i, pi⟩, ⟨j, pj⟩, rfl⟩ := ZiN l1
  obtain ⟨e1, e2, rfl⟩ := Zm4 (l2.trans rfl)
  simp only [ZdD, ZdE, bA] at o1
  have a1 := l3 (i, pi) (.head _)
  have a2 := l3 (j, pj) (.tail _ (.head _))
  simp only [nmk, beq_iff_eq] at a1 a2
  simp only [lM9, List.map_nil, List.nodup_cons, lS9] at l4
  exact Zr1 (Zf5 O) (ZcI o1.1) (ZcI o1.2.1) a1.1.2 a2.1.2 a2.2 (Zc0 O a1.1.1 a2.1.1 l4.1) f1 f2
 ·obtain ⟨⟨i, pi⟩, ⟨j, pj⟩, ⟨l, pl⟩, rfl⟩ := ZlT l1
  obtain ⟨e1, e2, e3, rfl⟩ := Zr3 (l2.trans rfl)
  simp only [ZdD, ZdE, bA] at o1
  have a1 := l3 (i, pi) (.head _)
  have a2 := l3 (j, pj) (.tail _ (.head _))
  have a3 := l3 (l, pl) (.tail _ (.tail _ (.head _)))
  simp only [nmk, beq_iff_eq] at a1 a2 a3
  simp only [lM9, List.map_nil, List.nodup_cons, lC9, lS9, not_or, List.not_mem_nil, or_false] at l4
  exact Zr2 (Zf5 O) (ZcI o1.1) (ZcI o1.2.1) (ZcI o1.2.2.1) a1.1.2 a2.1.2 a3.1.2 a2.2 a3.2 (Zc0 O a1.1.1 a2.1.1 l4.1.1) (Zc0 O a1.1.1 a3.1.1 l4.1.2) (Zc0 O a2.1.1 a3.1.1 l4.2.1) f1 f2
theorem Zqn (hl : ZaW S C n es) : Zad S C n (.unp is es p1 p2 p) := by
 intro F A W ρ st s O fn ok I Fi ne
 have ok := ba2 ok
 refine bc fun no => ?_; obtain ⟨sw, hi, nd, oks⟩ := Zos (p1 := p1) (p2 := p2) O ok.1 ok.2; refine no ?_
 rw [ZnI] at ne ⊢
 show wA _ _ (standAt p >>= fun y => (pure false : Sem Bool) >>= fun b => if b = true then (evalThenUse (.Tuple (toL F.ns es) 0 p2) F.env (fun v => assignAll v ((assignEach [.Tuple (ZbV F.ns is) 0 p1] F.env).map (·.2))) >>= fun y => pure Flow.next) else ((standAt p2 >>= fun y => spliced (backTo p2 (starEach (toL F.ns es) F.env)) >>= fun vs => newTuple vs) >>= fun v => swappedStores [.Tuple (ZbV F.ns is) 0 p1] (.Tuple (toL F.ns es) 0 p2) F.env >>= fun sw => assignStores F.env v sw ((assignEach [.Tuple (ZbV F.ns is) 0 p1] F.env).map (·.2)))) _ _ _
 rw [sw]
 refine wB (wS (wB (wP ?_)))
 rw [if_neg Bool.false_ne_true]
 simp only [bind_assoc]
 refine wB (wS ?_)
 refine Zbp (hl F A W ρ st s O ok.1 I Fi (ZI ne) p2) fun vs st' W' h' tk us e1 P I' Fi' va => ?_
 have ne2 := ZQ ne e1
 cases q : ZG vs is ρ with
 | none => rw [q] at ne2; exact absurd rfl ne2
 | some ρ' =>
  have hlen : us.length ≤ 16777216 := by rw [va.length, ZaQ q]; omega
  refine wB (wpAny_newTuple ?_ hlen)
  refine wB (wP ?_)
  have k : ∀ b o, h'.get? b = some o → (h'.push { cls := .type "tuple", data := .seq us.toArray }).get? b = some o := Zd
  refine Zhu (s := { s with heap := h'.push { cls := .type "tuple", data := .seq us.toArray }, toks := tk }) O fn hi nd oks (I'.grow k) (Fi'.grow k) (Heap.get?_push_size _ rfl) (ZbI Zbd va) q fun h2 tk2 P2 I2 Fi2 => ?_
  exact Zcl (s := sh s h' tk) ((Step.keeps k).trans P2) I2 Fi2
theorem Zqo (I : Inv S W st s.heap) (Fi : FI S F W ρ s.heap) (ho : op = .Add ∨ op = .Mult) (e : ZE op (.int a) (.int b) = some z) (q : ∀ u tk, DR W.own s.heap u z → Q u { s with toks := tk }) :
 wA S.M A (inplaceOp op (.int a ta) (.int b tb)) Q E s := by
 rcases ho with rfl | rfl
 ·cases e
  exact PySem.AutoIntOps.iadd_0 (q _ _ (.int _ _))
 ·obtain ⟨h, rfl⟩ := ZF (c := Zn a && Zn b) e
  exact PySem.AutoIntOps.imul_0 (q _ _ (.int _ _)) (IntMulOk.of_left (Zcw (Bool.and_eq_true_iff.mp h).1))
theorem ZhS (ne : Zdj o f ≠ .no) : ∃ a, o = some (.d (.int a)) := by
 cases o with
 | none => exact absurd rfl ne
 | some v => cases v with
  | d x => cases x with
   | int a => exact ⟨a, rfl⟩
   | _ => exact absurd rfl ne
  | _ => exact absurd rfl ne
theorem Zqp (ne : Zbi op a k y st ≠ .no) : ∃ b, y = .d (.int b) := by
 cases y with
 | d x => cases x with
  | int b => exact ⟨b, rfl⟩
  | _ => exact absurd rfl ne
 | _ => exact absurd rfl ne
theorem Zf6 (I : Inv S W st s.heap) (Fi : FI S F W ρ s.heap) (ok : (op == .Add || op == .Mult) = true) (vx : VR S W s.heap x y) (ne : Zbi op a k y st ≠ .no)
 (q : ∀ z u tk, Zbi op a k y st = k z st → DR W.own s.heap u z → Q u { s with toks := tk }) : wA S.M A (operate [.int a ta, x] (inplaceOp op (.int a ta) x)) Q E s := by
 obtain ⟨b, rfl⟩ := Zqp ne
 obtain ⟨tb, rfl⟩ := Z8 (own := W.own) (h := s.heap) vx
 have e0 : Zbi op a k (.d (.int b)) st = (oX (ZE op (.int a) (.int b)) fun z => k z st) := rfl
 rw [e0] at ne q
 cases qz : ZE op (.int a) (.int b) with
 | none => rw [qz] at ne; exact absurd rfl ne
 | some z =>
  rw [qz] at q
  refine wpAny_operate' ?_
  exact Zqo I Fi ((Bool.or_eq_true_iff.mp ok).imp eq_of_beq eq_of_beq) qz fun u tk vz => q z u tk rfl vz
theorem join_some {v : MV} (h : o.join = some v) : o = some (some v) := by
 cases o with
 | none => exact nn h rfl
 | some o => exact congrArg some h
theorem Zqq (he : Snd S C n e) : Zad S C n (.aug i op e p1 p) := by
 intro F A W ρ st s O fn ok I Fi ne
 rw [Zol] at ok
 obtain ⟨ok1, ok2⟩ := Bool.and_eq_true_iff.mp ok
 obtain ⟨okl, oke⟩ := Bool.and_eq_true_iff.mp ok1
 rw [ZnJ] at ne ⊢
 obtain ⟨a, hj⟩ := ZhS ne
 rw [hj] at ne ⊢
 obtain ⟨el1, el2, _⟩ := Zb5 okl
 obtain ⟨m, N, q⟩ := Fi.ns
 obtain ⟨x, u, x1, x2, x3⟩ := q i _ (join_some hj)
 rw [el1] at x1
 cases x1
 obtain ⟨ta, rfl⟩ := Z8 (own := W.own) (h := s.heap) x2
 have rest := Zbp (f := Zbi op a fun z st => .nx (ρ.set i (some (.d z))) st) (k := fun v => standAt p >>= fun w => operate [.int a ta, v] (inplaceOp op (.int a ta) v) >>= fun new => standAt p1 >>= fun w => bindName F.env (nmE F.ns i) new >>= fun w => pure Flow.next) (wH (vs := [.int a ta]) (he F A W ρ st s O oke I Fi (ZI ne))) fun y st' W' h' tk x e1 P I' Fi' vx => wB (wS (wB (Zf6 (s := sh s h' tk) I' Fi' ok2 vx (ZQ ne e1) fun z u tk2 ez vz => by
  rw [ez]
  exact wB (wS (wB (Zal (s := sh s h' tk2) O (fun c hc w => fn _ c hc) okl I' Fi' (v := .d z) vz fun h3 tk3 P3 I3 Fi3 => wP (Zcl (s := sh s h' tk) (tk := tk3) P3 I3 Fi3)))))))
 refine wB (m := standAt p1) (wS (wB (m := loadName F.env (nmE F.ns i)) ?_))
 rcases x3 with ⟨k, hm⟩ | ⟨k, c, hc, hcell⟩
 ·exact wpAny_loadName_local O.kind k N hm rest
 ·exact wpAny_loadName_cell O.kind k hc hcell rest
theorem Zot (G : Ground S) (ho : Snd S C n o) (he : Snd S C n e) : Zad S C n (.augA o a op e p1 p) := by
 intro F A W ρ st s O fn ok I Fi ne
 rw [ZlR] at ok
 obtain ⟨ok1, ok2⟩ := Bool.and_eq_true_iff.mp ok
 obtain ⟨oko, oke⟩ := Bool.and_eq_true_iff.mp ok1
 rw [Zlj] at ne ⊢
 show wA _ _ (standAt p >>= fun w => eval (toE F.ns o) F.env >>= fun ov => holding [ov] (standAt p1.atName >>= fun w => getAttr ov (An a) true >>= fun old => holding [old] (eval (toE F.ns e) F.env) >>= fun v => standAt p >>= fun w => operate [old, v] (inplaceOp op old v)) >>= fun new => standAt p1.atName >>= fun w => holding [new, ov] (setAttr ov (An a) new) >>= fun w => release [new, ov] [] >>= fun w => pure Flow.next) _ _ _
 refine wB (wS (Zbp (ho F A W ρ st s O oko I Fi (ZI ne)) fun v st' W' h' tk y e1 P I' Fi' vy => ?_))
 have ne2 := ZQ ne e1
 obtain ⟨x, q⟩ := ZhS ne2
 rw [q] at ne2 ⊢
 refine wB (wH (wB (wS (wB (ZhK (s := sh s h' tk) G I' vy q fun old vold => ?_)))))
 obtain ⟨tx, rfl⟩ := Z8 (own := W'.own) (h := h') vold
 refine wB (wH (wM (he F A W' ρ st' { s with heap := h', toks := tk + 1 } O oke I' Fi' (ZI ne2)) (fun y2 s' z => ?_) fun x' s' z => ?_))
 ·obtain ⟨v2, st2, W2, e2, h2, tk2, rfl, P2, I2, Fi2, v2r⟩ := z
  refine wB (wS (Zf6 (s := sh s h2 tk2) I2 Fi2 ok2 v2r (ZQ ne2 e2) fun z u tk3 ez vz => ?_))
  have e3 : (onR ρ (ev C e ρ st') (Zbi op x fun z st => oX (ZbT v a (.d z) st) fun st => .nx ρ st)) = (oX (ZbT v a (.d z) st2) fun st => .nx ρ st) := by rw [e2]; exact ez
  have e3 : Zdj (some (.d (.int x))) (fun x => onR ρ (ev C e ρ st') (Zbi op x fun z st => oX (ZbT v a (.d z) st) fun st => .nx ρ st)) = _ := e3
  rw [e3] at ne2 ⊢
  cases qs : ZbT v a (.d z) st2 with
  | none => rw [qs] at ne2; exact absurd rfl ne2
  | some st3 =>
   refine wB (wS (wB (wH (ZhP (s := sh s h2 tk3) G I2 Fi2 (vy.mono P2.grow) (x := .d z) vz qs fun h4 tk4 P4 I4 Fi4 => ?_))))
   exact wB (wpAny_release' (wP ⟨st3, W2, h4, tk4, rfl, P2.trans P4, I4, .inl ⟨ρ, rfl, rfl, Fi4⟩⟩))
 ·obtain ⟨c, fs, st2, W2, a', e2, rfl, h2, tk2, rfl, P2, I2, Fi2, X⟩ := z
  exact ⟨c, fs, ρ, st2, W2, a', by rw [e2]; rfl, rfl, h2, tk2, rfl, P2, I2, Fi2, X⟩
end
structure FnAt (S : SC) (f : Nat) (fd : FD) (d : FuncData) : Prop where
 obj : ∃ o, S.h₀.get? (S.fa f) = some o ∧ o.data = .func d
 glob : d.globals = mainGlobals
 blt : d.builtins = builtinsNs
 clo : d.closure = []
 body : d.body = .stmts (toB fd.ns fd.body)
 bind : ∀ s : Sh, (∀ b o, S.h₀.get? b = some o → s.heap.get? b = some o) → ∀ vals : List Vl, vals.length = fd.np → BindsTo s d ⟨vals, []⟩ ((fd.ns.take fd.np).zip vals)
 code : S.h₀.CodeRec d.code d.qualname
 co : d.scope.isCoroutine = false
 gen : d.scope.isGenerator = false
 kind : d.scope.kind = .function
 names : (d.scope.names.map (·.1)).Nodup
 nodup : fd.ns.Nodup
 np : fd.np ≤ fd.ns.length
 pars : ∀ x ∈ fd.ns.take fd.np, d.scope.names.lookup x = some .local ∨ d.scope.names.lookup x = some .cell
 ok : okB d.scope.names fd.ns fd.body = true
section
variable {S : SC} {C : Ze} {n : Nat} {F : Fm} {W W₀ W' : Wd} {ρ : En} {st : St} {A : Ar} {s : Sh} {lo h h' h₁ : Heap} {E : Vl → Sh → Prop}
theorem Zbc : ∀ {names : List (Str × NK)} {a : Nat} {acc : List (Str × Addr)}, (cellsFrom a names acc).map (·.1) = ((names.filter fun x => x.2 == .cell).map (·.1)).reverse ++ acc.map (·.1)
 | [], _, _ => rfl
 | (x, k) :: r, a, acc => by
  unfold cellsFrom
  by_cases hk : (k == NameKind.cell) = true
  ·rw [if_pos hk, Zbc, List.filter_cons_of_pos (by exact hk)]
   simp
  ·rw [if_neg hk, Zbc, List.filter_cons_of_neg (by exact hk)]
theorem Z6 : ∀ {l : List (Str × α)} {x : Str} {c : α}, (l.map (·.1)).Nodup → (x, c) ∈ l → l.lookup x = some c
 | (y, d) :: r, x, c, nd, m => by
  rw [lM9, List.nodup_cons] at nd
  rcases lC9.mp m with e | m2
  ·cases e; simp [List.lookup_cons]
  ·rw [List.lookup_cons]
   have : (x == y) = false := by
    rw [beq_eq_false_iff_ne]
    rintro rfl
    exact nd.1 (List.mem_map.mpr ⟨_, m2, rfl⟩)
   rw [this]
   exact Z6 nd.2 m2
theorem Zhv (nd : (names.map (·.1)).Nodup) : ((cellsFrom a names []).map (·.1)).Nodup := by
 rw [Zbc, List.map_nil, List.append_nil]
 exact List.pairwise_reverse.mpr ((List.Sublist.nodup (List.Sublist.map _ List.filter_sublist) nd).imp fun h => Ne.symm h)
theorem Zcm (e : names.lookup x = some .cell) : ((cellsFrom a names []).lookup x).isSome = true := by
 have m := mem_of_lookup e
 have : x ∈ (cellsFrom a names []).map (·.1) := by
  rw [Zbc, List.map_nil, List.append_nil, List.mem_reverse, List.mem_map]
  exact ⟨_, List.mem_filter.mpr ⟨m, rfl⟩, rfl⟩
 obtain ⟨⟨y, c⟩, hm, rfl⟩ := List.mem_map.mp this
 cases q : (cellsFrom a names []).lookup y with
 | some _ => rfl
 | none =>
  exact absurd hm (by
   intro hm
   have := List.lookup_eq_none_iff.mp q _ hm
   simp at this)
theorem Zdd : ∀ {bs : List (Str × Vl)} {m : Str → Option Vl}, x ∉ bs.map (·.1) → bindL k bs m x = m x
 | [], _, _ => rfl
 | (y, v) :: r, m, h => by
  simp only [lM9, lC9, not_or] at h
  unfold bindL
  rw [Zdd h.2]
  split
  ·simp [h.1]
  ·rfl
theorem Zde : ∀ {bs : List (Str × Vl)} {m : Str → Option Vl}, x ∉ bs.map (·.1) → bindC k bs m x = m x
 | [], _, _ => rfl
 | (y, v) :: r, m, h => by
  simp only [lM9, lC9, not_or] at h
  unfold bindC
  rw [Zde h.2]
  split
  ·rfl
  ·simp [h.1]
theorem ZbL (hk : k x = some .local) : ∀ {bs : List (Str × Vl)} {m : Str → Option Vl}, (bs.map (·.1)).Nodup → (x, v) ∈ bs → bindL k bs m x = some v
 | (y, w) :: r, m, nd, h => by
  rw [lM9, List.nodup_cons] at nd
  unfold bindL
  rcases lC9.mp h with e | h
  ·cases e
   rw [Zdd nd.1, if_pos hk]; simp
  ·exact ZbL hk nd.2 h
theorem ZeH (hk : k x = some .cell) : ∀ {bs : List (Str × Vl)} {m : Str → Option Vl}, (bs.map (·.1)).Nodup → (x, v) ∈ bs → bindC k bs m x = some v
 | (y, w) :: r, m, nd, h => by
  rw [lM9, List.nodup_cons] at nd
  unfold bindC
  rcases lC9.mp h with e | h
  ·cases e
   rw [Zde nd.1, if_neg (by rw [hk]; decide)]; simp
  ·exact ZeH hk nd.2 h
end
noncomputable def Zds (W : Wd) (h : Heap) (fl : List Env) : Prop := ∀ e ∈ fl, e.scope.kind ≠ .module ∧ ∃ L, e.frame = some L ∧ L ∈ W.fr ∧ L ∈ W.fa ∧ ∃ o, h.get? L = some o ∧ ∀ vs, o.data ≠ .fields vs
section
variable (S : SC) (W : Wd) (hh : Heap) (gg : Array GenState) (dd : Drawn) (os : OsState)
inductive QC0 (r : RV MV) (x : Vl) (s' : Sh) : Prop
 | mk (v : MV) (st' : St) (W' : Wd) (e : r = .ok v st') (h' : Heap) (tk : Nat) (q : s' = ⟨h', gg, dd, tk, os⟩) (P : Step W W' [] hh h') (I : Inv S W' st' h') (z : VR S W' h' x v)
inductive EC0 (r : RV MV) (x : Vl) (s' : Sh) : Prop
 | mk (c : Nat) (fs : List (Nat × PD)) (st' : St) (W' : Wd) (a : Addr) (e : r = .ex c fs st') (y : x = .ref a) (h' : Heap) (tk : Nat) (q : s' = ⟨h', gg, dd, tk, os⟩) (P : Step W W' [] hh h') (I : Inv S W' st' h') (z : XS S W' hh none c fs a h')
end
section
variable (S : SC) (W : Wd)
noncomputable def QC (s : Sh) (r : RV MV) (x : Vl) (s' : Sh) : Prop := QC0 S W s.heap s.gens s.drawn s.os r x s'
noncomputable def EC (s : Sh) (r : RV MV) (x : Vl) (s' : Sh) : Prop := EC0 S W s.heap s.gens s.drawn s.os r x s'
end
structure RoomC (A : Ar) (n : Nat) : Prop where
 handled : A.handled = none
 depth : A.depth + 2 * n ≤ 901
 units : A.units + 10 * n + 496 ≤ cLine
noncomputable def RC' (S : SC) (W : Wd) (s : Sh) (r : RV MV) : Result → Sh → Prop := fun x s' => match x with
 | .ok (.ret v) => QC S W s r v s'
 | .ok _ => False
 | .error e => EC S W s r e s'
structure CallOk (S : SC) (C : Ze) (n : Nat) : Prop where
 dom : ∀ f as st, C f as st ≠ .no → (Za0 f).isSome = true
 run : ∀ (f : Nat) (as : List MV) (st : St) (W : Wd) (s : Sh) (A : Ar) (fl : List Env) (vals : List Vl), A.frames = some fl → Zds W s.heap fl → RoomC A n → Inv S W st s.heap → All2 (VR S W s.heap) vals as → C f as st ≠ .no →
  cA S.M A (.call (.ref (S.fa f)) ⟨vals, []⟩) (RC' S W s (C f as st)) s
section
variable {S : SC} {C : Ze} {n : Nat} {F : Fm} {W W₀ W' : Wd} {ρ : En} {st : St} {A : Ar} {s : Sh} {lo h h' h₁ : Heap} {E : Vl → Sh → Prop}
theorem Zel (a : Addr) (h1 : h.objs.size ≤ a) : h.get? a = none := Heap.get?_none_of_le h1
theorem Zou (K : FnAt S f fd d) (hb : Z3 S C n fd.body) (hf : A.frames = some fl) (hfl : Zds W s.heap fl) (R : RoomC A (n + 1)) (I : Inv S W st s.heap) (va : All2 (VR S W s.heap) vals as) (hlen : as.length = fd.np)
 {mm cm : Str → Option Vl} (hL : s.heap.objs.size = L) (hcs : cellsFrom (L + 1) d.scope.names [] = cs) (henv : callEnvC d s.heap.objs.size (S.fa f) = env)
 (keep : ∀ b o, s.heap.get? b = some o → h1.get? b = some o) (hns : h1.Ns L mm) (hcell : ∀ x c, cs.lookup x = some c → h1.IsCell c (cm x)) (hab : ∀ x c, (x, c) ∈ cs → L < c) (hap : cs.Pairwise fun x y => x.2 ≠ y.2)
 (hpar : ∀ x u, (x, u) ∈ (fd.ns.take fd.np).zip vals → (d.scope.names.lookup x = some .local → mm x = some u) ∧ (d.scope.names.lookup x = some .cell → cm x = some u))
 (ne : (match exs C fd.body (as.map some ++ List.replicate (fd.ns.length - fd.np) none) st with
 | .rt v st => .ok v st
 | .nx _ st => .ok (.d .none) st
 | .ex c fs _ st => .ex c fs st
 | .no => .no : RV MV) ≠ .no) :
 wA S.M (A.deeper env) (execs (toB fd.ns fd.body) env) (fun f s' => RC' S W s (match exs C fd.body (as.map some ++ List.replicate (fd.ns.length - fd.np) none) st with
 | .rt v st => .ok v st
 | .nx _ st => .ok (.d .none) st
 | .ex c fs _ st => .ex c fs st
 | .no => .no : RV MV) (.ok (.ret (match f with | .ret v => v | _ => .none))) s')
  (fun e s' => wA S.M (A.deeper env) (leaving env e) (fun _ s'' => RC' S W s (match exs C fd.body (as.map some ++ List.replicate (fd.ns.length - fd.np) none) st with
 | .rt v st => .ok v st
 | .nx _ st => .ok (.d .none) st
 | .ex c fs _ st => .ex c fs st
 | .no => .no : RV MV) (.error e) s'') (fun e' s'' => RC' S W s (match exs C fd.body (as.map some ++ List.replicate (fd.ns.length - fd.np) none) st with
 | .rt v st => .ok v st
 | .nx _ st => .ok (.d .none) st
 | .ex c fs _ st => .ex c fs st
 | .no => .no : RV MV) (.error e') s'') s') (sh s h1 tk1) := by
 have hvl : vals.length = fd.np := va.length.trans hlen
 have csnd : (cs.map (·.1)).Nodup := hcs ▸ Zhv K.names
 have env_cells : env.cells = cs := by rw [← henv, ← hcs, ← hL]; rfl
 have env_locals : env.locals = L := by rw [← henv]; exact hL
 have env_kind : ∀ x, env.kindOf x = d.scope.names.lookup x := fun w => by rw [← henv]; rfl
 have memc : ∀ c ∈ cs.map (·.2), ∃ x, cs.lookup x = some c := fun c m => by
  refine bc fun no => ?_; obtain ⟨⟨x, c'⟩, m2, rfl⟩ := List.mem_map.mp m; refine no ?_
  exact ⟨x, Z6 csnd m2⟩
 have lowc : ∀ c ∈ cs.map (·.2), L < c := fun c m => by
  refine bc fun no => ?_; obtain ⟨x, e⟩ := memc c m; refine no ?_
  exact hab x c (mem_of_lookup e)
 have dead : ∀ a ∈ L :: cs.map (·.2), s.heap.get? a = none := fun a m => by
  refine Zel a ?_
  rw [hL]
  rcases lC9.mp m with z | z
  ·exact Nat.le_of_eq z.symm
  ·exact Nat.le_of_lt (lowc a z)
 refine bc fun no => ?_; obtain ⟨oL, esL, epL, gL, dL, _⟩ := id hns; refine no ?_
 have alive : ∀ a ∈ L :: cs.map (·.2), ∃ o, h1.get? a = some o := fun a m => by
  rcases lC9.mp m with z | z
  ·exact ⟨oL, z ▸ gL⟩
  ·refine bc fun no => ?_; obtain ⟨x, e⟩ := memc a z; refine no ?_
   refine bc fun no => ?_; obtain ⟨o, e1, _⟩ := hcell x a e; refine no ?_
   exact ⟨o, e1⟩
 have nd : (L :: cs.map (·.2)).Nodup := by
  rw [List.nodup_cons]
  refine ⟨fun m => Nat.lt_irrefl _ (lowc L m), List.pairwise_map.mpr hap⟩
 have hfs : ∀ a ∈ [L], a ∈ L :: cs.map (·.2) := fun a m => by rw [lS9.mp m]; exact .head _
 have I₁ : Inv S (W.puts (L :: cs.map (·.2)) [L]) st h1 := I.enter keep dead alive nd hfs
 have G₁ : Grow W (W.puts (L :: cs.map (·.2)) [L]) s.heap h1 := Zbx keep dead
 have inFr : ∀ a ∈ L :: cs.map (·.2), a ∈ (W.puts (L :: cs.map (·.2)) [L]).fr := fun a m => lA9.mpr (.inr m)
 let F' : Fm := ⟨env, fd.ns, env :: fl, L :: cs.map (·.2)⟩
 have env_frame : env.frame = some L := by rw [← henv]; exact congrArg some hL
 have env_scope : env.scope = d.scope := by rw [← henv]; rfl
 have O : FmOk F' (A.deeper env) n := by
  refine ⟨⟨R.handled, ?_, ?_⟩, ?_, ?_, ?_, ?_, ⟨env, fl, L, rfl, env_frame, env_frame⟩, K.nodup, ?_, ?_, ?_, ?_⟩
  ·have e : A.depth + 2 * (n + 1) = A.depth + 1 + 2 * n + 1 := by rw [Nat.add_right_comm A.depth 1 (2 * n)]; rfl
   exact Nat.le_of_succ_le_succ (e ▸ R.depth : A.depth + 1 + 2 * n + 1 ≤ 901)
  ·have e : A.units + 3 + 10 * n + 500 = A.units + (10 * n + 503) := by rw [Nat.add_right_comm A.units 3 (10 * n), Nat.add_assoc, Nat.add_assoc]
   have e2 : A.units + 10 * (n + 1) + 496 = A.units + (10 * n + 503) + 3 := by rw [Nat.add_assoc, Nat.add_assoc]; rfl
   exact (e ▸ Nat.le_trans (Nat.le_add_right _ 3) (e2 ▸ R.units) : A.units + 3 + 10 * n + 500 ≤ cLine)
  ·show env.scope.kind = _; rw [env_scope]; exact K.kind
  ·show env.globals = _; rw [← henv]; exact K.glob
  ·show env.builtins = _; rw [← henv]; exact K.blt
  ·show A.frames.map (env :: ·) = _; rw [hf]; rfl
  ·show env.locals ∈ L :: cs.map (·.2); rw [env_locals]; exact .head _
  ·show env.cells.Pairwise _; rw [env_cells]; exact hap
  ·intro x c e
   rw [show F'.env.cells = cs from env_cells] at e
   show c ≠ env.locals
   rw [env_locals]
   exact fun z => Nat.lt_irrefl _ (z ▸ hab x c (mem_of_lookup e))
  ·intro x e
   show (env.cells.lookup x).isSome = true
   rw [env_cells, ← hcs]
   exact Zcm ((env_kind x).symm.trans e)
 have fn : ZbW F' := fun x c e => by
  rw [show F'.env.cells = cs from env_cells] at e
  exact List.mem_cons_of_mem _ (List.mem_map.mpr ⟨_, mem_of_lookup e, rfl⟩)
 have Fi : FI S F' (W.puts (L :: cs.map (·.2)) [L]) (as.map some ++ List.replicate (fd.ns.length - fd.np) none) h1 := by
  refine ⟨?_, inFr, fun x c e => ?_, fun e m => ?_, ?_, _, (show h1.Ns env.locals _ from env_locals ▸ hns), fun i v e => ?_⟩
  ·have := K.np
   show (as.map some ++ _).length = fd.ns.length
   rw [List.length_append, List.length_map, List.length_replicate, hlen]; exact Nat.add_sub_cancel' this
  ·rw [show F'.env.cells = cs from env_cells] at e
   exact ⟨inFr _ (List.mem_cons_of_mem _ (List.mem_map.mpr ⟨_, mem_of_lookup e, rfl⟩)), _, hcell x c e⟩
  ·rcases lC9.mp m with z | z
   ·subst z
    refine ⟨by rw [env_scope, K.kind]; decide, L, env_frame, inFr L (.head _), lA9.mpr (.inr (.head _)), oL, gL, fun vs q => by rw [dL] at q; cases q⟩
   ·refine bc fun no => ?_; obtain ⟨x1, L', x2, x3, x4, o', x5, x6⟩ := hfl e z; refine no ?_
    exact ⟨x1, L', x2, lA9.mpr (.inl x3), lA9.mpr (.inl x4), o', keep _ _ x5, x6⟩
  ·show env.locals ∈ _; rw [env_locals]; exact inFr L (.head _)
  ·have hi : i < as.length := by
    by_cases q : i < as.length
    ·exact q
    ·rw [List.getElem?_append_right (by simpa using q)] at e
     rw [List.getElem?_replicate] at e
     split at e <;> cases e
   rw [List.getElem?_append_left (by simpa using hi), List.getElem?_map] at e
   cases q : as[i]? with
   | none => rw [q] at e; exact nn e rfl
   | some v' =>
    rw [q] at e
    cases e
    refine bc fun no => ?_; obtain ⟨u, hu, vu⟩ := va.get q; refine no ?_
    have hin : i < fd.np := hlen ▸ hi
    have hx : fd.ns[i]? = some (fd.ns[i]'(Nat.lt_of_lt_of_le hin K.np)) := List.getElem?_eq_getElem _
    have htk : (fd.ns.take fd.np)[i]? = some (fd.ns[i]'(Nat.lt_of_lt_of_le hin K.np)) := by rw [List.getElem?_take_of_lt hin]; exact hx
    have hm : ((fd.ns[i]'(Nat.lt_of_lt_of_le hin K.np)), u) ∈ (fd.ns.take fd.np).zip vals := by
     refine List.mem_of_getElem? (i := i) ?_
     rw [List.getElem?_zip_eq_some]
     exact ⟨htk, hu⟩
    refine ⟨_, u, hx, vu.mono G₁, ?_⟩
    rcases K.pars _ (List.mem_of_getElem? htk) with q1 | q1
    ·exact .inl ⟨(env_kind _).trans q1, (hpar _ _ hm).1 q1⟩
    ·refine .inr ⟨(env_kind _).trans q1, ?_⟩
     refine bc fun no => ?_; obtain ⟨c, hc⟩ := Option.isSome_iff_exists.mp (Zcm (a := L + 1) q1); refine no ?_
     rw [hcs] at hc
     refine ⟨c, (by show env.cells.lookup _ = _; rw [env_cells]; exact hc), ?_⟩
     have := hcell _ c hc
     rw [(hpar _ _ hm).2 q1] at this
     exact this
 have hbody := hb F' (A.deeper env) (W.puts (L :: cs.map (·.2)) [L]) (as.map some ++ List.replicate (fd.ns.length - fd.np) none) st (sh s h1 tk1) O fn (by show okB env.scope.names fd.ns fd.body = true; rw [env_scope]; exact K.ok) I₁ Fi (fun z => by rw [z] at ne; exact ne rfl)
 have leaveW : ∀ {W₂ : Wd} {st₂ : St} {h₂ : Heap}, Step (W.puts (L :: cs.map (·.2)) [L]) W₂ (L :: cs.map (·.2)) h1 h₂ → Inv S W₂ st₂ h₂ → Step W (W₂.back W) [] s.heap h₂ ∧ Inv S (W₂.back W) st₂ h₂ ∧ Grow W₂ (W₂.back W) h₂ h₂ := fun {W₂ st₂ h₂} P I₂ => by
  have e2 : W₂.fr = W.fr ++ (L :: cs.map (·.2)) := P.ext.fr
  exact ⟨Step.inner (as := L :: cs.map (·.2)) (fs := [L]) keep dead hfs (by simpa using P) rfl rfl ⟨[], by simp [Wd.back]⟩ (ZA e2), I₂.leave e2 I.faf, Zat e2⟩
 refine wM hbody (fun fw s' z => ?_) fun x s' z => ?_
 ·refine bc fun no => ?_; obtain ⟨st₂, W₂, h₂, tk₂, rfl, P, I₂, z⟩ := z; refine no ?_
  refine bc fun no => ?_; obtain ⟨P', I', G'⟩ := leaveW P I₂; refine no ?_
  rcases z with ⟨ρ', e, rfl, _⟩ | ⟨v, u, e, rfl, vu⟩
  ·exact ⟨.d .none, st₂, W₂.back W, by rw [e], h₂, tk₂, rfl, P', I', .none⟩
  ·exact ⟨v, st₂, W₂.back W, by rw [e], h₂, tk₂, rfl, P', I', vu.mono G'⟩
 ·refine bc fun no => ?_; obtain ⟨c, fs, ρ', st₂, W₂, e, e1, rfl, h₂, tk₂, rfl, P, I₂, Fi₂, X₂⟩ := z; refine no ?_
  have e2 : W₂.fr = W.fr ++ (L :: cs.map (·.2)) := P.ext.fr
  have dd : ∀ b, h1.get? b = none → s.heap.get? b = none := fun b q => by
   cases q2 : s.heap.get? b with
   | none => rfl
   | some o => rw [keep b o q2] at q; cases q
  refine Zfa (s := sh s h₂ tk₂) (lo := h1) (st := st₂) O I₂ Fi₂ (L := L) env_frame X₂ (fun b o q => keep b o (I.base b o q)) P.pers.live fun h₃ r X₃ => ?_
  refine bc fun no => ?_; obtain ⟨P', I', G'⟩ := leaveW (r.step P) (r.inv I₂ fun b o q => keep b o (I.base b o q)); refine no ?_
  exact ⟨c, fs, st₂, W₂.back W, e, by rw [e1], rfl, h₃, tk₂, rfl, P', I', X₃.weaken (fun b w q => dd b q) (ZA e2)⟩
theorem Zm5 (G : Ground S) {f : Nat} {fd : FD} {d : FuncData} (K : FnAt S f fd d) (hb : Z3 S C n fd.body) {as : List MV} {vals : List Vl} {args : Args} {binds : List (Str × Vl)} (hB : BindsTo s d args binds) (bnd : (binds.map (·.1)).Nodup) (bin : ∀ p ∈ (fd.ns.take fd.np).zip vals, p ∈ binds) (bsub : ∀ p ∈ binds, p.1 ∈ fd.ns.take fd.np)
 {fl : List Env} (hf : A.frames = some fl) (hfl : Zds W s.heap fl) (R : RoomC A (n + 1)) (I : Inv S W st s.heap) (va : All2 (VR S W s.heap) vals as) (ne : Zai C fd as st ≠ .no) :
 cA S.M A (.call (.ref (S.fa f)) args) (RC' S W s (Zai C fd as st)) s := by
 unfold Zai at ne ⊢
 by_cases hlen : as.length = fd.np
 case neg => rw [if_neg hlen] at ne; exact absurd rfl ne
 rw [if_pos hlen] at ne ⊢
 obtain ⟨o, ho, hd⟩ := K.obj
 refine codeAny_call_function (Nat.lt_of_le_of_lt (Nat.le_trans (Nat.le_add_right A.depth _) R.depth) (by decide : 901 < 1000)) (I.base _ _ ho) hd K.co K.gen K.body (K.code.keeps I.base) ?_
 refine hB _ _ _ _ ?_
 rw [K.clo]
 refine wpAny_newFunctionEnv_cells K.kind ?_ fun env he s' X => ?_
 ·intro x hx
  rcases K.pars x.1 (bsub x hx) with q | q
  ·exact .inl q
  ·exact .inr ⟨q, Zcm q⟩
 subst he
 refine ⟨(G.nolimit.keeps I.base).keeps X.toInCall.keep, codeAny_func ?_⟩
 obtain ⟨h1, tk1, rfl⟩ := X.toInCall.same
 exact Zou K hb hf hfl R I va hlen rfl rfl rfl X.toInCall.keep X.toInCall.ns (fun x c e => X.cell x c e) (fun x c m => X.above x c m) X.apart (fun x u m => ⟨fun q => ZbL (k := (callEnvC d s.heap.objs.size (S.fa f)).kindOf) q bnd (bin _ m), fun q => ZeH (k := (callEnvC d s.heap.objs.size (S.fa f)).kindOf) q bnd (bin _ m)⟩) ne
theorem ZlV (G : Ground S) (K : FnAt S f fd d) (hb : Z3 S C n fd.body) (hf : A.frames = some fl) (hfl : Zds W s.heap fl) (R : RoomC A (n + 1)) (I : Inv S W st s.heap) (va : All2 (VR S W s.heap) vals as) (ne : Zai C fd as st ≠ .no) :
 cA S.M A (.call (.ref (S.fa f)) ⟨vals, []⟩) (RC' S W s (Zai C fd as st)) s := by
 by_cases hlen : as.length = fd.np
 ·have hvl : vals.length = fd.np := va.length.trans hlen
  have bnames : ((fd.ns.take fd.np).zip vals).map (·.1) = fd.ns.take fd.np := by
   rw [List.map_fst_zip]
   rw [List.length_take, hvl]; exact Nat.min_le_left _ _
  have bnd : (((fd.ns.take fd.np).zip vals).map (·.1)).Nodup := by rw [bnames]; exact List.Sublist.nodup (List.take_sublist _ _) K.nodup
  exact Zm5 G K hb (K.bind s I.base vals hvl) bnd (fun y m => m) (fun p m => by rw [← bnames]; exact List.mem_map.mpr ⟨p, m, rfl⟩) hf hfl R I va ne
 ·unfold Zai at ne
  rw [if_neg hlen] at ne
  exact absurd rfl ne
theorem Room.c (R : Room A n) : RoomC A n := ⟨R.handled, Nat.le_succ_of_le R.depth, Nat.le_trans (Nat.add_le_add_left (by decide : 496 ≤ 500) _) R.units⟩
theorem ZiP (Fi : FI S F W ρ s.heap) (q : QC S W s r x s') : QE S F W ρ s (VR S) r x s' := by
 obtain ⟨v, st', W', e, h', tk, rfl, P, I, vr⟩ := q
 exact ⟨v, st', W', e, h', tk, rfl, P.wider (fun y m => nomatch m), I, Fi.mono P.grow P.ext fun b o eb m => (by obtain ⟨sl, z, _⟩ := P.pers.outer b o eb m (fun m => nomatch m); exact ⟨sl, z⟩), vr⟩
theorem ZiQ (Fi : FI S F W ρ s.heap) (q : EC S W s r x s') : EE S F W ρ s r x s' := by
 refine bc fun no => ?_; obtain ⟨c, fs, st', W', e, e1, e2, h', tk, rfl, P, I, vs, xo, t⟩ := q; refine no ?_
 refine ⟨c, fs, st', W', e, e1, e2, h', tk, rfl, P.wider (fun y m => nomatch m), I, Fi.mono P.grow P.ext fun b o eb m => (by obtain ⟨sl, z, _⟩ := P.pers.outer b o eb m (fun m => nomatch m); exact ⟨sl, z⟩), vs, xo, t.imp id ?_⟩
 intro z9; refine bc fun no => ?_; obtain ⟨T, oT, ts, fl, t1, t2, t3, t4, t5, t6, t7, t8⟩ := z9; refine no ?_
 exact ⟨T, oT, ts, fl, t1, t2, t3, t4, t5, t6, t7, .inl (t8.elim id fun w9 => (by obtain ⟨l, z, _⟩ := w9; exact nomatch z))⟩
theorem Zf7 (H : CallOk S C n) (O : FmOk F A n) (I : Inv S W st s.heap) (Fi : FI S F W ρ s.heap) (va : All2 (VR S W s.heap) vals as) (ne : C f as st ≠ .no) :
 wA S.M A (call (.ref (S.fa f)) vals) (QE S F W ρ s (VR S) (C f as st)) (EE S F W ρ s (C f as st)) s := by
 refine wpAny_call (codeAny_mono (H.run f as st W s A F.fl vals O.frames Fi.fl O.room.c I va ne) fun r s' z => ?_)
 rcases r with e | (v | _ | _ | _) <;> first | exact z.elim | exact ZiP Fi z | exact ZiQ Fi z
end
theorem Zkm (c : Addr) (r : List Vl) (kw : List (Str × Vl)) : (Code.builtin "type.__call__" ⟨.ref c :: r, kw⟩).weight = 1 := by
 have : (Code.builtin "type.__call__" ⟨.ref c :: r, kw⟩).weight = (Code.builtin "type.__call__" ⟨[.ref 0], []⟩).weight := rfl
 rw [this]; decide +kernel
theorem ZlW (a : Args) : (Code.builtin "type.__call__" a).cUnits ≤ 4 := by
 have : (Code.builtin "type.__call__" a).cUnits = (Code.builtin "type.__call__" {}).cUnits := rfl
 rw [this]; decide +kernel
theorem Zov (a : Args) : (Code.builtin "type.__call__" a).envs = [] := rfl
section
variable {S : SC} {C : Ze} {n : Nat} {F : Fm} {W W₀ W' : Wd} {ρ : En} {st : St} {A : Ar} {s : Sh} {lo h h' h₁ : Heap} {E : Vl → Sh → Prop}
theorem Room.under (R : Room A n) (c : Addr) (r : List Vl) (kw : List (Str × Vl)) : RoomC (A.under (.builtin "type.__call__" ⟨.ref c :: r, kw⟩)) n := by
 refine ⟨R.handled, ?_, ?_⟩
 ·have := R.depth
  show A.depth + (Code.builtin "type.__call__" ⟨.ref c :: r, kw⟩).weight + 2 * n ≤ 901
  rw [Zkm, Nat.add_right_comm]; exact Nat.succ_le_succ R.depth
 ·have := ZlW ⟨.ref c :: r, kw⟩
  show A.units + (Code.builtin "type.__call__" ⟨.ref c :: r, kw⟩).cUnits + 10 * n + 496 ≤ cLine
  rw [Nat.add_right_comm A.units, Nat.add_assoc (_ + _)]
  exact Nat.le_trans (Nat.add_le_add_left (Nat.add_le_add_right this 496) _) R.units
theorem ZcJ (a : Args) : (A.under (.builtin "type.__call__" a)).frames = A.frames := by
 show pushEnvs (Code.builtin "type.__call__" a).envs A.frames = _
 rw [Zov]; rfl
noncomputable def mkR (st : St) (r : RV MV) : RV MV := match r with
 | .ok (.d .none) st' => .ok (.loc st.length) st'
 | _ => .no
theorem mkI (h : Zw c = some f) : ZH C c as st = mkR st (C f (.loc st.length :: as) (st ++ [.inst c []])) := by
 have e : ZH C c as st = (match Zw c with | some f => mkR st (C f (.loc st.length :: as) (st ++ [.inst c []])) | none => .no) := rfl
 rw [e, h]
theorem mkN (h : Zw c = none) : ZH C c as st = .no := by
 have e : ZH C c as st = (match Zw c with | some f => mkR st (C f (.loc st.length :: as) (st ++ [.inst c []])) | none => .no) := rfl
 rw [e, h]
theorem Zow (ne : mkR st (.ok v st2) ≠ .no) : v = .d .none := by
 cases v with
 | d y => cases y with
  | none => rfl
  | _ => exact absurd rfl ne
 | _ => exact absurd rfl ne
theorem ZeI (I : Inv S W st s.heap) (hi : (Zw c).isSome = true) (ne : ZH C c as st ≠ .no) (hc : Zw c = some f)
 (W₂ : Wd) (hW : W₂ = W.add [s.heap.objs.size + 1, s.heap.objs.size]) (hs : s₂ = { s with heap := (s.heap.push emptyDict).push (instObj (S.ca c) s.heap.objs.size) }) :
 Inv S W₂ (st ++ [.inst c []]) s₂.heap ∧ Step W W₂ [] s.heap s₂.heap ∧ VR S W₂ s₂.heap (.ref (s.heap.objs.size + 1)) (.loc st.length) ∧ C f (.loc st.length :: as) (st ++ [.inst c []]) ≠ .no ∧
 ∀ r s', RC' S W₂ s₂ (C f (.loc st.length :: as) (st ++ [.inst c []])) r s' → InitBack (s.heap.objs.size + 1) (RC' S W s (ZH C c as st)) r s' := by
 subst hW hs
 have k : ∀ b o, s.heap.get? b = some o → ((s.heap.push emptyDict).push (instObj (S.ca c) s.heap.objs.size)).get? b = some o := fun b o e => Zd b o (Zd b o e)
 have dead : ∀ a ∈ [s.heap.objs.size + 1, s.heap.objs.size], s.heap.get? a = none := fun a m => by
  refine Heap.get?_none_of_le ?_
  rcases lC9.mp m with z | z
  ·omega
  ·rw [lS9.mp z]; exact Nat.le_refl _
 have gx : ((s.heap.push emptyDict).push (instObj (S.ca c) s.heap.objs.size)).get? (s.heap.objs.size + 1) = some (instObj (S.ca c) s.heap.objs.size) := by
  have := Heap.get?_push_size (s.heap.push emptyDict) (o := instObj (S.ca c) s.heap.objs.size) rfl
  rwa [Heap.size_push] at this
 have gD : ((s.heap.push emptyDict).push (instObj (S.ca c) s.heap.objs.size)).DictOf (PySem.strKind S.prog S.w) s.heap.objs.size [] := (Heap.DictOf.new _).push _
 obtain ⟨oD, _, _, gD1, _⟩ := id gD
 have al : ∀ a ∈ [s.heap.objs.size + 1, s.heap.objs.size], ∃ o, ((s.heap.push emptyDict).push (instObj (S.ca c) s.heap.objs.size)).get? a = some o := fun a m => by
  rcases lC9.mp m with z | z
  ·subst z; exact ⟨_, gx⟩
  ·rw [lS9.mp z]; exact ⟨_, gD1⟩
 have P : Step W (W.add [s.heap.objs.size + 1, s.heap.objs.size]) [] s.heap ((s.heap.push emptyDict).push (instObj (S.ca c) s.heap.objs.size)) := .add k dead
 have I₂ := I.addCell (mo := .inst c []) k (fun a m => ⟨dead a m, al a m⟩) (List.nodup_cons.mpr ⟨fun z => absurd (lS9.mp z) (Nat.succ_ne_self _), List.nodup_cons.mpr ⟨fun z => (nomatch z), .nil⟩⟩) ⟨gx, [], gD, .nil, rfl, hi, Nat.zero_le _⟩
 have vx : (W.add [s.heap.objs.size + 1, s.heap.objs.size]).cs[st.length]? = some [s.heap.objs.size + 1, s.heap.objs.size] := I.len ▸ List.getElem?_concat_length
 refine ⟨I₂, P, ⟨_, _, vx, rfl⟩, fun z => ?_, fun r s' z => ?_⟩
 ·rw [mkI hc, z] at ne
  exact ne rfl
 ·rw [mkI hc] at ne ⊢
  rcases r with e | (v | _ | _ | _) <;> first | exact z.elim | skip
  ·obtain ⟨c', fs, st', W', e', e1, _⟩ := z
   rw [e1] at ne
   exact absurd rfl ne
  ·obtain ⟨v0, st', W', e1, h', tk, rfl, P', I', vr⟩ := z
   rw [e1] at ne ⊢
   obtain rfl := Zow ne
   cases vr
   exact ⟨rfl, .loc st.length, st', W', rfl, h', tk, rfl, P.trans P', I', _, _, ZjW P'.ext.cs vx, rfl⟩
theorem ZlX (G : Ground S) (H : CallOk S C n) (hf : A.frames = some fl) (hfl : Zds W s.heap fl) (R : Room A n) (I : Inv S W st s.heap) (va : All2 (VR S W s.heap) vals as) (ne : ZH C c as st ≠ .no) :
 cA S.M A (.call (.ref (S.ca c)) ⟨vals, []⟩) (RC' S W s (ZH C c as st)) s := by
 obtain ⟨f, hc⟩ : ∃ f, Zw c = some f := by
  cases q : Zw c with
  | some f => exact ⟨f, rfl⟩
  | none => exact absurd (mkN q) ne
 have hi : (Zw c).isSome = true := by rw [hc]; rfl
 refine bc fun no => ?_; obtain ⟨_, hp, hm, _⟩ := G.ins c hi; refine no ?_
 refine bc fun no => ?_; obtain ⟨i1, i2⟩ := G.inits c f hc; refine no ?_
 have X := G.X.keeps I.base
 refine bc fun no => ?_; obtain ⟨hh, g, d, t, os⟩ := s; refine no ?_
 refine bc fun no => ?_; obtain ⟨I₂, P, vx, ne2, back⟩ := ZeI (s := ⟨hh, g, d, t, os⟩) I hi ne hc _ rfl rfl; refine no ?_
 refine make_core (makes_of X hm) (looks_findIn X i1) (fun self => bind_fn X self i2) (.inl rfl) ?_
 refine codeAny_mono (H.run f (.loc st.length :: as) (st ++ [.inst c []]) _ _ _ fl (.ref (hh.objs.size + 1) :: vals) ((ZcJ _).trans hf) ?_ (R.under _ _ _) I₂ (.cons vx (ZbI P.grow va)) ne2) back
 intro e m
 refine bc fun no => ?_; obtain ⟨x1, L', x2, x3, x4, o', x5, x6⟩ := hfl e m; refine no ?_
 exact ⟨x1, L', x2, x3, x4, o', Zd _ _ (Zd _ _ x5), x6⟩
end
noncomputable def Zc1 (S : SC) : Prop := ∀ f fd, Za0 f = some fd → ∃ d, FnAt S f fd d
section
variable {S : SC} {C : Ze} {n : Nat} {F : Fm} {W W₀ W' : Wd} {ρ : En} {st : St} {A : Ar} {s : Sh} {lo h h' h₁ : Heap} {E : Vl → Sh → Prop}
theorem ZhT (K : Zc1 S) (I : Inv S W st h) (hd : (Za0 f).isSome = true) : ∃ k, (k = Keeper.frame ∨ k = Keeper.machine ∨ k = Keeper.boundFrame) ∧ Looks M h (keeperOf (.ref (S.fa f))) k := by
 obtain ⟨fd, e⟩ := Option.isSome_iff_exists.mp hd
 obtain ⟨d, D⟩ := K f fd e
 obtain ⟨o, ho, hd⟩ := D.obj
 refine ⟨.frame, .inl rfl, (Looks.ld (part := none) (I.base _ _ ho)).andThen ?_⟩
 rw [hd]
 exact .now
theorem Zf8 (G : Ground S) (I : Inv S W st h) (hc : (Zw c).isSome = true) : ∃ k, (k = Keeper.frame ∨ k = Keeper.machine ∨ k = Keeper.boundFrame) ∧ Looks S.M h (keeperOf (.ref (S.ca c))) k := by
 refine bc fun no => ?_; obtain ⟨_, _, hm, _⟩ := G.ins c hc; refine no ?_
 refine bc fun no => ?_; obtain ⟨⟨oc, od, cd, sl, hC, _⟩, _, _, _, _, call, _⟩ := makes_of (M := S.M) (G.X.keeps I.base) hm; refine no ?_
 exact ⟨.machine, .inr (.inl rfl), (Looks.ld (part := none) hC).andThen (call.andThen .now)⟩
theorem ZlY (ok : okE nm ns (.call f as p) = true) : eval (toE ns' (.call f as p)) env = (eval (toE ns' f) env >>= fun fv => callWith p fv [] (backTo p (starEach (toL ns' as) env)) []) := by
 have o2 := (Bool.and_eq_true_iff.mp ok).2
 clear ok; cases f <;> first | rfl | exact nf o2 rfl
theorem Zox (G : Ground S) (H : CallOk S C n) (O : FmOk F A n) (I : Inv S W st s.heap) (Fi : FI S F W ρ s.heap) (va : All2 (VR S W s.heap) vals as) (ne : ZH C c as st ≠ .no) :
 wA S.M A (call (.ref (S.ca c)) vals) (QE S F W ρ s (VR S) (ZH C c as st)) (EE S F W ρ s (ZH C c as st)) s := by
 refine wpAny_call (codeAny_mono (ZlX G H O.frames Fi.fl O.room I va ne) fun r s' z => ?_)
 rcases r with e | (v | _ | _ | _) <;> first | exact z.elim | exact ZiP Fi z | exact ZiQ Fi z
theorem ZlZ (G : Ground S) (K : Zc1 S) (H : CallOk S C n) (hf : Snd S C n f) (hl : ZaW S C n as) : Snd S C n (.call f as p) := by
 intro F A W ρ st s O ok I Fi ne
 have ok' := ok
 have ok' := ba4 ok'
 rw [ZlY ok]
 simp only [ZnG] at ne ⊢
 refine Zl (hf F A W ρ st s O ok'.1.1.1 I Fi (Zh ne)) fun v st' W' h' tk x e1 P I' Fi' vx => ?_
 have ne2 := Zf ne e1
 cases v with
 | fn g =>
  obtain rfl : x = .ref (S.fa g) := vx
  refine ZL (s := sh s h' tk) (g := fun vs st => ZbH C (.fn g) vs st) hl O ok'.1.1.2 I' Fi' ne2 (fun vs W2 st2 h2 z ne3 z I2 => ZhT K I2 (H.dom g vs st2 ne3)) fun vs us st2 W2 h2 tk2 e2 P2 I2 Fi2 va ne3 => ?_
  exact Zf7 (s := sh s h2 tk2) H O I2 Fi2 va ne3
 | cls c =>
  obtain rfl : x = .ref (S.ca c) := vx
  refine ZL (s := sh s h' tk) (g := fun vs st => ZbH C (.cls c) vs st) hl O ok'.1.1.2 I' Fi' ne2 (fun vs W2 st2 h2 z ne3 z I2 => Zf8 G I2 ?_) fun vs us st2 W2 h2 tk2 e2 P2 I2 Fi2 va ne3 => ?_
  ·cases q : Zw c with
   | some _ => rfl
   | none => exact absurd (mkN q) ne3
  ·exact Zox (s := sh s h2 tk2) G H O I2 Fi2 va ne3
 | d y => exact ZL (s := sh s h' tk) (g := fun vs st => ZbH C (.d y) vs st) hl O ok'.1.1.2 I' Fi' ne2 (fun z z z z z ne3 z z => absurd rfl ne3) fun z z z z z z z z z z z ne3 => absurd rfl ne3
 | loc y => exact ZL (s := sh s h' tk) (g := fun vs st => ZbH C (.loc y) vs st) hl O ok'.1.1.2 I' Fi' ne2 (fun z z z z z ne3 z z => absurd rfl ne3) fun z z z z z z z z z z z ne3 => absurd rfl ne3
 | dic y => exact ZL (s := sh s h' tk) (g := fun vs st => ZbH C (.dic y) vs st) hl O ok'.1.1.2 I' Fi' ne2 (fun z z z z z ne3 z z => absurd rfl ne3) fun z z z z z z z z z z z ne3 => absurd rfl ne3
end
theorem Zhw {xs : List PD} : ∀ {y : Str}, ZaI xs = some y → ∃ ss : List Str, xs = ss.map .str ∧ y.cps.toList = (ss.map (·.cps.toList)).flatten := by
 induction xs with
 | nil => intro y e; cases e; exact ⟨[], rfl, rfl⟩
 | cons x r ih =>
  intro y e
  cases x with
  | str x =>
   obtain ⟨z, e1, rfl⟩ := Option.map_eq_some_iff.mp (e : (ZaI r).map (x ++ ·) = some y)
   obtain ⟨ss, rfl, e2⟩ := ih e1
   exact ⟨x :: ss, rfl, (Array.toList_append (xs := x.cps) (ys := z.cps)).trans (congrArg (x.cps.toList ++ ·) e2)⟩
  | _ => exact nn e rfl
theorem ZiR {sep : Str} (hs : sep.cps = #[]) (r : List Str) : ∀ (a : Array Nat), (r.foldl (fun acc p => acc ++ sep.cps ++ p.cps) a).toList = a.toList ++ (r.map (·.cps.toList)).flatten := by
 induction r with
 | nil => exact fun a => (List.append_nil _).symm
 | cons p r ih =>
  intro a
  rw [List.foldl_cons, ih, hs, Array.append_empty, Array.toList_append, List.append_assoc]; rfl
theorem Zkn {sep : Str} (hs : sep.cps = #[]) (ss : List Str) : (Builtin.Str.glued sep ss).cps.toList = (ss.map (·.cps.toList)).flatten := by
 cases ss with
 | nil => rfl
 | cons x r => exact ZiR hs r x.cps
theorem ZhU {x y : Str} (h : x.cps.toList = y.cps.toList) : x = y := by
 cases x; cases y
 simp only [Str.mk.injEq]
 exact Array.toList_inj.mp h
theorem Zl0 {sep : Str} (hs : sep.length = 0) (ss : List Str) : ∀ k : Nat, ss.foldl (fun a x => a + x.length + sep.length) k = k + ((ss.map (·.cps.toList)).flatten).length := by
 induction ss with
 | nil => exact fun y => rfl
 | cons x r ih =>
  intro k
  rw [List.foldl_cons, ih, hs, Nat.add_zero, lM9, List.flatten_cons, List.length_append, Nat.add_assoc, Array.length_toList]; rfl
section
variable {S : SC} {C : Ze} {n : Nat} {F : Fm} {W W₀ W' : Wd} {ρ : En} {st : St} {A : Ar} {s : Sh} {lo h h' h₁ : Heap} {E : Vl → Sh → Prop}
theorem Zl1 (d : DRs W.own h us (ss.map .str)) : ∃ l : List (Str × Tok), us = strValues l ∧ l.map (·.1) = ss := by
 induction ss generalizing us with
 | nil => cases d; exact ⟨[], rfl, rfl⟩
 | cons x ss ih =>
  cases d with
  | cons a d =>
   obtain ⟨l, rfl, rfl⟩ := ih d
   cases a
   exact ⟨(x, _) :: l, rfl, rfl⟩
set_option tactic.hygienic true in
theorem Zoy (I : Inv S W st s.heap) {a : Addr} (hs : sep.length = 0) (dx : DR W.own s.heap (.ref a) (.list xs)) (e : ZaI xs = some y) (hf : Zc y.length = true) (q : ∀ t' k, Q (.str y t') { s with toks := k }) :
 wA S.M A (call (.builtin "str.join") [.str sep t, .ref a]) Q E s := by
 refine bc fun no => ?_; obtain ⟨ss, rfl, hy⟩ := Zhw e; refine no ?_
 cases dx with
 | list ha ho d =>
  rename_i us m
  refine bc fun no => ?_; obtain ⟨l, hl, rfl⟩ := Zl1 d; refine no ?_
  have hsc : sep.cps = #[] := Array.size_eq_zero_iff.mp hs
  have hyl : y.length ≤ 16777216 := Nat.le_trans (Zv hf) (by decide)
  have ylen : y.length = (((l.map (·.1)).map (·.cps.toList)).flatten).length := by rw [← hy, Array.length_toList]; rfl
  refine call_meets PySem.F.slot_str_join (typeIs_str s sep t) PySem.F.entry_str_join (PySem.F.args_str_join_2 _ _) (meets_str_join_list sep t a l ?_) ⟨⟨_, ho, rfl, m, by rw [← hl]⟩, ?_⟩
  ·rw [List.foldl_toArray, Zl0 hs, Nat.zero_add, ← ylen]
   simp only [Builtin.Str.tooLong, decide_eq_false_iff_not, sizeLine_eq]; omega
  ·have g : ∀ ss : List Str, (ss.map (·.cps.toList)).flatten = y.cps.toList → Builtin.Str.glued sep ss = y := fun ss hh => ZhU ((Zkn hsc ss).trans hh)
   match l, hy with
   | [], hy =>
    show (Made.str (Builtin.Str.glued sep [])).post _ _
    rw [g [] hy.symm]
    exact ⟨hyl, q _ _⟩
   | [p], hy =>
    show Q (.str p.1 p.2) s
    have : p.1 = y := ZhU (by rw [hy]; simp)
    rw [this]
    exact q p.2 s.toks
   | p :: p2 :: r, hy =>
    show (Made.str (Builtin.Str.glued sep ((p :: p2 :: r).map (·.1)))).post _ _
    rw [g _ hy.symm]
    exact ⟨hyl, q _ _⟩
theorem Zf9 (e : ZP c a = some f) : c = 9 ∧ ((a = 11 ∧ f = 63) ∨ (a = 12 ∧ f = 64)) := by
 have e : (if c = 9 then (if a = 11 then some 63 else if a = 12 then some 64 else none) else none) = some f := e
 by_cases h : c = 9
 ·rw [if_pos h] at e
  by_cases k : a = 11
  ·rw [if_pos k] at e; cases e; exact ⟨h, .inl ⟨k, rfl⟩⟩
  ·rw [if_neg k] at e
   by_cases k : a = 12
   ·rw [if_pos k] at e; cases e; exact ⟨h, .inr ⟨k, rfl⟩⟩
   ·rw [if_neg k] at e; cases e
 ·rw [if_neg h] at e; cases e
theorem Zoz (e : ZP c a = some f) : a < AN.length := by
 rcases (Zf9 e).2 with ⟨rfl, _⟩ | ⟨rfl, _⟩
 ·decide +kernel
 ·decide +kernel
theorem ZoA (G : Ground S) (I : Inv S W st s.heap) (vx : VR S W s.heap x (.loc l)) (e : st[l]? = some (.inst c fs)) (hm : ZP c a = some f)
 (q : Q (.ref (S.fa f), [x]) s) : wA S.M A (getMethod x (An a) pl) Q E s := by
 refine bc fun no => ?_; obtain ⟨x, D, e1, rfl, hx, kvs, hd, q2, ok, hi, _⟩ := Zeg I vx e; refine no ?_
 refine bc fun no => ?_; obtain ⟨⟨cd, hcd, hdict⟩, hp, hmk, hga, hgt, hsa, hno⟩ := G.ins c hi; refine no ?_
 refine bc fun no => ?_; obtain ⟨m1, m2⟩ := G.meths c a f hm; refine no ?_
 have X := G.X.keeps I.base
 have T : Looks S.M s.heap (typeOf (.ref x)) (.ref (S.ca c)) := (Looks.ld hx).andThen .now
 have sp : ∀ {nm : Str} {r}, findIn S.K (.ref (S.ca c)) nm = some r → Looks S.M s.heap (specialOf (.ref x) nm) r := fun hf => T.andThen (looks_findIn X hf)
 unfold getMethod
 refine wB ((sp hga).here ?_)
 show wA _ _ (if (Manifest.canonical "object.__getattribute__" != "object.__getattribute__") = true then _ else _) _ _ _
 rw [if_neg (by decide +kernel)]
 refine wB ((sp hgt).here ?_)
 refine wB ((sp m1).here ?_)
 refine wB ((looks_typeIn X m2).here ?_)
 refine wB (wpAny_loadPart hx ?_)
 have hN : s.heap.Ns D (fun nm => valueAt kvs nm) := by
  refine bc fun no => ?_; obtain ⟨o, es, ep, ho, hc, hdd, hk, hpp, hn⟩ := hd; refine no ?_
  refine ⟨o, es, ep, ho, hdd, fun en hen => ?_, fun nm => ?_⟩
  ·refine bc fun no => ?_; obtain ⟨k, hk1, _⟩ := hk en hen; refine no ?_
   refine bc fun no => ?_; obtain ⟨t, ht⟩ := Value.isStrOf_shape (x := k) hk1; refine no ?_
   exact ⟨k, t, ht⟩
  ·show nsFind es nm = valueAt kvs nm
   rw [← hpp.find nm]
   unfold nsFind findBy
   have : (fun en : DictEntry => en.key.isStr nm) = fun en => (PySem.strKind S.prog S.w).is nm en.key := by funext en; exact Zdn _ _
   refine bc fun no => ?_; obtain ⟨l⟩ := es; refine no ?_
   simp [this]
 have hnone : valueAt kvs (An a) = none := by
  unfold valueAt
  rw [List.find?_eq_none.mpr]; rfl
  intro kv hkv hq
  refine bc fun no => ?_; obtain ⟨i, hi', hget⟩ := List.mem_iff_getElem.mp hkv; refine no ?_
  have hlen := q2.length
  have hif : i < fs.length := by omega
  refine bc fun no => ?_; obtain ⟨kv', z1, z2, z3⟩ := q2.get (List.getElem?_eq_getElem hif); refine no ?_
  rw [List.getElem?_eq_getElem hi', hget] at z1
  cases z1
  have hok := List.all_eq_true.mp ok _ (List.getElem_mem hif)
  have := ZfZ (ZbJ hok) (Zoz hm) (z2.symm.trans (of_decide_eq_true hq))
  simp only [Zas, bA, Option.isNone_iff_eq_none] at hok
  rw [this, hm] at hok
  cases hok.2
 refine wB (wpAny_nsGet hN ?_)
 rw [hnone]
 exact wB (wpAny_rule (wP q))
set_option tactic.hygienic true in
theorem ZoB (ok : Zu nm ns es = true) (hl : es.len ≤ 10) : methodCallForm ((toL ns es).length + 0) (backTo p (starEach (toL ns es) env)) [] = true := by
 have hlen : ∀ es : CL, (toL ns es).length = es.len := by
  intro es
  induction es using CL.rec (motive_1 := fun _ => True) (motive_2 := fun _ => True) (motive_4 := fun _ => True) (motive_5 := fun _ => True) <;> first | trivial | rfl | (rename_i ih; exact congrArg (· + 1) ih)
 have hall : (backTo p (starEach (toL ns es) env)).all (!·.1) = true := by
  have := Zbo (p := p) (env := env) ok
  rw [List.all_eq_not_any_not]
  simp only [Bool.not_not]
  rw [this]; rfl
 unfold methodCallForm
 rw [hall, hlen]
 simp; omega
theorem Zl2 (ok : okE nm ns (.meth o a as p1 p) = true) (okl : Zu nm ns' as = true) :
 eval (toE ns' (.meth o a as p1 p)) env = (eval (toE ns' o) env >>= fun ov => standAt p1.atName >>= fun y => holding [ov] (getMethod ov (An a) (do return (← importBound (toE ns' o) env).getD true)) >>= fun fm => callWith p fm.1 fm.2 (backTo p (starEach (toL ns' as) env)) []) := by
 have ok' := ok
 simp only [Zlm, bA, decide_eq_true_eq, beq_iff_eq, Bool.not_eq_true'] at ok'
 refine bc fun no => ?_; obtain ⟨⟨⟨⟨o1, o2⟩, o3⟩, o4⟩, o5⟩ := ok'; refine no ?_
 show (attributeBase (toE ns' o) (An a) env (eval (toE ns' o) env) >>= fun ov => standAt p1.atName >>= fun y => methodCall (toE ns' o) (An a) p1 p env ov ((toL ns' as).length + 0) (backTo p (starEach (toL ns' as) env)) []) = _
 rw [ZdK o1 o3]
 unfold methodCall
 rw [ZoB okl o4]
 have hp : methodCallPos true (toE ns' o) env p1 p = pure p := by
  unfold methodCallPos
  simp [o5]
 rw [hp]
 rfl
theorem Zbq {id : String} (h : Heap) : ∃ k, (k = Keeper.frame ∨ k = Keeper.machine ∨ k = Keeper.boundFrame) ∧ Looks M h (keeperOf (.builtin id)) k := ⟨.machine, .inr (.inl rfl), .now⟩
theorem Zr4 : An 5 = sO "join" := by decide +kernel
theorem Zr5 : An 9 = sO "get" := by decide +kernel
theorem Zqr : An 14 = sO "append" := by decide +kernel
theorem Zfk {x : RV α} (ne : (if c = true then x else .no) ≠ .no) : c = true := by
 cases c with
 | true => rfl
 | false => exact absurd rfl ne
theorem Zga (ne : ZC (.loc l) 14 vs st ≠ .no) : ∃ x xs, vs = [.d x] ∧ st[l]? = some (.list xs) ∧ Zc (xs.length + 1) = true ∧ ZC (.loc l) 14 vs st = .ok (.d .none) (st.set l (.list (xs ++ [x]))) := by
 obtain ⟨x, rfl⟩ : ∃ x, vs = [.d x] := by
  cases vs with
  | nil => exact absurd rfl ne
  | cons v r => cases v with
   | d x => cases r with
    | nil => exact ⟨x, rfl⟩
    | cons _ _ => exact absurd rfl ne
   | _ => exact absurd rfl ne
 have e : ZC (.loc l) 14 [.d x] st = (match st[l]? with
  | some (.list xs) => if Zc (xs.length + 1) then .ok (.d .none) (st.set l (.list (xs ++ [x]))) else .no
  | _ => .no) := rfl
 rw [e] at ne ⊢
 cases q : st[l]? with
 | none => rw [q] at ne; exact absurd rfl ne
 | some o =>
  rw [q] at ne
  cases o with
  | list xs => exact ⟨x, xs, rfl, rfl, Zfk ne, if_pos (Zfk ne)⟩
  | _ => exact absurd rfl ne
theorem Zko (ne : ZC (.dic es) 9 vs st ≠ .no) : ∃ x, vs = [.d (.str x)] ∧ Zar (.s x) es = true ∧ ZC (.dic es) 9 vs st = .ok (match Zq (.s x) es with | some w => w.v | none => .d .none) st := by
 obtain ⟨x, rfl⟩ : ∃ x, vs = [.d (.str x)] := by
  cases vs with
  | nil => exact absurd rfl ne
  | cons v r => cases v with
   | d x => cases x with
    | str x => cases r with
     | nil => exact ⟨x, rfl⟩
     | cons _ _ => exact absurd rfl ne
    | _ => exact absurd rfl ne
   | _ => exact absurd rfl ne
 have e : ZC (.dic es) 9 [.d (.str x)] st = (if 9 = 9 ∧ Zar (.s x) es = true then .ok (match Zq (.s x) es with | some w => w.v | none => .d .none) st else .no) := rfl
 rw [e] at ne ⊢
 by_cases hq : 9 = 9 ∧ Zar (.s x) es = true
 ·exact ⟨x, rfl, hq.2, if_pos hq⟩
 ·exact absurd (if_neg hq) ne
theorem ZiS (ne : ZC (.d (.str sep)) 5 vs st ≠ .no) : ∃ xs y, vs = [.d (.list xs)] ∧ sep.length = 0 ∧ ZaI xs = some y ∧ Zc y.length = true ∧ ZC (.d (.str sep)) 5 vs st = .ok (.d (.str y)) st := by
 obtain ⟨xs, rfl⟩ : ∃ xs, vs = [.d (.list xs)] := by
  cases vs with
  | nil => exact absurd rfl ne
  | cons v r => cases v with
   | d x => cases x with
    | list xs => cases r with
     | nil => exact ⟨xs, rfl⟩
     | cons _ _ => exact absurd rfl ne
    | _ => exact absurd rfl ne
   | _ => exact absurd rfl ne
 have e : ZC (.d (.str sep)) 5 [.d (.list xs)] st = (if 5 = 5 ∧ sep.length = 0 then (match ZaI xs with
  | some y => if Zc y.length && Zc xs.length then .ok (.d (.str y)) st else .no
  | none => .no) else .no) := rfl
 rw [e] at ne ⊢
 by_cases hq : 5 = 5 ∧ sep.length = 0
 ·rw [if_pos hq] at ne ⊢
  cases qj : ZaI xs with
  | none => rw [qj] at ne; exact absurd rfl ne
  | some y =>
   rw [qj] at ne
   exact ⟨xs, y, rfl, hq.2, qj, (Bool.and_eq_true_iff.mp (Zfk ne)).1, if_pos (Zfk ne)⟩
 ·exact absurd (if_neg hq) ne
set_option tactic.hygienic true in
theorem ZiT {R : Vl → MW → Prop} (e : Zq (.s y) es = none) (a : All2 (fun (kv : Str × Vl) (e : DK × MW) => e.1 = .s kv.1 ∧ R kv.2 e.2) kvs es) : valueAt kvs y = none := by
 induction a with
 | nil => rfl
 | @cons kv x kvs es h t ih =>
  obtain ⟨k, v⟩ := kv
  obtain ⟨q, w⟩ := x
  simp only [Zq] at e
  split at e
  ·cases e
  ·rename_i hne
   have := ih e
   have hk : ¬ k = y := fun z => hne (h.1.trans (by rw [← z]))
   simp only [valueAt, List.find?_cons, decide_eq_false hk] at this ⊢
   exact this
theorem Zem (va : All2 R us [v]) : ∃ u, us = [u] ∧ R u v := by
 cases va with
 | cons vu t => cases t; exact ⟨_, rfl, vu⟩
theorem Zl3 (I : Inv S W st s.heap) (Fi : FI S F W ρ s.heap) (vx : VR S W s.heap (.ref at_) (.loc l)) (va : All2 (VR S W s.heap) us vs) (ne : ZC (.loc l) 14 vs st ≠ .no) :
 wA S.M A (call (.builtin "list.append") (.ref at_ :: us)) (QE S F W ρ s (VR S) (ZC (.loc l) 14 vs st)) E s := by
 obtain ⟨y, xs, rfl, es, hf, eb⟩ := Zga ne
 rw [eb]
 obtain ⟨u, rfl, vu⟩ := Zem va
 obtain ⟨_, items, m, q, c, ho, r⟩ := ZbK I vx es
 cases q
 refine wpAny_list_append_plain ⟨m, ho⟩ (fun h3 hp hs3 => ?_) (by rw [← Array.length_toList, r.length]; exact Nat.le_trans (Nat.le_of_lt (Zv hf)) sz4)
 obtain ⟨m3, ho3⟩ := hp
 obtain ⟨z1, z2, z3⟩ := ZaX (r := []) (xs' := xs ++ [y]) I Fi c ho hs3 ho3 (by rw [Array.toList_push]; exact r.append (.cons vu .nil))
 exact ⟨.d .none, _, W, rfl, h3, s.toks, rfl, z1, z2, z3, .none⟩
theorem Zr6 (I : Inv S W st s.heap) (Fi : FI S F W ρ s.heap) (vx : VR S W s.heap (.ref da) (.dic es)) (va : All2 (VR S W s.heap) us vs) (ne : ZC (.dic es) 9 vs st ≠ .no) :
 wA S.M A (call (.builtin "dict.get") (.ref da :: us)) (QE S F W ρ s (VR S) (ZC (.dic es) 9 vs st)) E s := by
 obtain ⟨y, rfl, kf, eb⟩ := Zko ne
 rw [eb]
 obtain ⟨u, rfl, vu⟩ := Zem va
 obtain ⟨ty, rfl⟩ : ∃ t, u = .str y t := ZcG vu
 obtain ⟨_, q', _, hsm, dcase⟩ := vx
 cases q'
 rcases dcase with ⟨kvs, d, q⟩ | ⟨kvs, d, q⟩
 ·refine call_meetsIn PySem.F.slot_dict_get d.typeIs PySem.F.entry_dict_get (PySem.F.args_dict_get_2 _ _) (meets_dict_get (PySem.strKind S.prog S.w) da (beq_self_eq_true y) (beq_eq_false_iff_ne.mpr hsm)) ⟨_, d.mapOf, ?_⟩
  refine Zx I Fi ?_
  cases qd : Zq (.s y) es with
  | some w =>
   obtain ⟨i, z⟩ := Zcf qd
   obtain ⟨⟨k', u'⟩, h1, h2', h3⟩ := q.get z
   cases h2'
   rw [valueAt_of_get (Zaj d) h1]
   exact ZiB h3
  | none => rw [ZiT qd q]; exact .none
 ·exact (fit_int kf q).elim
theorem Zqs (I : Inv S W st s.heap) (Fi : FI S F W ρ s.heap) (va : All2 (VR S W s.heap) us vs) (ne : ZC (.d (.str sep)) 5 vs st ≠ .no) :
 wA S.M A (call (.builtin "str.join") (.str sep t :: us)) (QE S F W ρ s (VR S) (ZC (.d (.str sep)) 5 vs st)) E s := by
 obtain ⟨xs, y, rfl, hs0, qj, hf, eb⟩ := ZiS ne
 rw [eb]
 obtain ⟨u, rfl, vu⟩ := Zem va
 obtain ⟨lu, _, _, rfl, _⟩ := ZdC vu
 exact Zoy I hs0 vu qj hf fun t' k => Zx I Fi (.str _ _)
inductive MPre (st : St) : MV → Nat → Prop
 | own {l c a f fs} (e : st[l]? = some (.inst c fs)) (hm : ZP c a = some f) : MPre st (.loc l) a
 | app {l xs} (e : st[l]? = some (.list xs)) : MPre st (.loc l) 14
 | get {es} : MPre st (.dic es) 9
 | join {x} : MPre st (.d (.str x)) 5
theorem Zs7 (h : Za2 v a st = true) : MPre st v a := by
 cases v with
 | loc l =>
  have h : (match st[l]? with | some (.inst c _) => (ZP c a).isSome | some (.list _) => a == 14 | _ => false) = true := h
  cases e : st[l]? with
  | none => rw [e] at h; exact nf h rfl
  | some o =>
   rw [e] at h
   cases o with
   | inst c fs => obtain ⟨f, hm⟩ := Option.isSome_iff_exists.mp h; exact .own e hm
   | list xs => cases eq_of_beq h; exact .app e
   | dict _ => exact nf h rfl
 | dic es => cases eq_of_beq h; exact .get
 | d x => cases x with
  | str x => cases eq_of_beq h; exact .join
  | _ => exact nf h rfl
 | _ => cases h
theorem Zqt (e : st[l]? = some (.inst c fs)) (hm : ZP c a = some f) : ZaJ C (.loc l) a vs st st2 = C f (.loc l :: vs) st2 := by
 show (match st[l]? with | some (.inst c _) => (match ZP c a with | some f => C f (.loc l :: vs) st2 | none => .no) | some (.list _) => ZC (.loc l) a vs st2 | _ => .no) = _
 rw [e]; show (match ZP c a with | some f => C f (.loc l :: vs) st2 | none => .no) = _
 rw [hm]
theorem ZoC (e : st[l]? = some (.list xs)) : ZaJ C (.loc l) a vs st st2 = ZC (.loc l) a vs st2 := by
 show (match st[l]? with | some (.inst c _) => (match ZP c a with | some f => C f (.loc l :: vs) st2 | none => .no) | some (.list _) => ZC (.loc l) a vs st2 | _ => .no) = _
 rw [e]
theorem Zqu (vx : VR S W s.heap (.ref da) (.dic es)) (q : Q (.builtin "dict.get", [.ref da]) s) : wA S.M A (getMethod (.ref da) (sO "get") pl) Q E s := by
 obtain ⟨_, q', _, _, dcase⟩ := vx
 cases q'
 rcases dcase with ⟨kvs, z, _⟩ | ⟨kvs, z, _⟩
 ·exact getMethod_builtin z.typeIs PySem.F.plainAttrs_dict PySem.F.slot_dict_get PySem.F.type_dict_get z.mapOf.noDict q
 ·exact getMethod_builtin z.typeIs PySem.F.plainAttrs_dict PySem.F.slot_dict_get PySem.F.type_dict_get z.mapOf.noDict q
theorem Zl4 (G : Ground S) (K : Zc1 S) (H : CallOk S C n) (O : FmOk F A n) (hl : ZaW S C n as) (ok : Zu F.env.scope.names F.ns as = true) (I : Inv S W st s.heap) (Fi : FI S F W ρ s.heap) (vx : VR S W s.heap x v) (pre : MPre st v a)
 (ne : (evL C as ρ st).bind (fun vs st2 => ZaJ C v a vs st st2) ≠ .no) :
 wA S.M A (getMethod x (An a) pl) (fun fm s1 => wA S.M A (callWith p fm.1 fm.2 (backTo p' (starEach (toL F.ns as) F.env)) []) (QE S F W ρ s (VR S) ((evL C as ρ st).bind fun vs st2 => ZaJ C v a vs st st2)) (EE S F W ρ s ((evL C as ρ st).bind fun vs st2 => ZaJ C v a vs st st2)) s1) (EE S F W ρ s ((evL C as ρ st).bind fun vs st2 => ZaJ C v a vs st st2)) s := by
 cases pre with
 | @own l c a f fs e hm =>
  have eg : (fun vs st2 => ZaJ C (.loc l) a vs st st2) = fun vs st2 => C f (.loc l :: vs) st2 := funext fun vs => funext fun st2 => Zqt e hm
  rw [eg] at ne ⊢
  refine ZoA G I vx e hm (ZL (first := [x]) hl O ok I Fi ne (fun vs W2 st2 h2 y ne3 y I2 => ZhT K I2 (H.dom f _ st2 ne3)) fun vs us st2 W2 h2 tk2 e2 P2 I2 Fi2 va ne3 => ?_)
  exact Zf7 (s := sh s h2 tk2) H O I2 Fi2 (.cons (vx.mono P2.grow) va) ne3
 | @app l xs e =>
  have eg : (fun vs st2 => ZaJ C (.loc l) 14 vs st st2) = fun vs st2 => ZC (.loc l) 14 vs st2 := funext fun vs => funext fun st2 => ZoC e
  rw [eg] at ne ⊢
  obtain ⟨at_, items, m, rfl, c1, hob, r⟩ := ZbK I vx e
  refine Zqr ▸ getMethod_list_append hob rfl rfl (ZL (first := [.ref at_]) hl O ok I Fi ne (fun y y y y y y y y => Zbq _) fun vs us st2 W2 h2 tk2 e2 P2 I2 Fi2 va ne3 => ?_)
  exact Zl3 (s := sh s h2 tk2) I2 Fi2 (vx.mono P2.grow) va ne3
 | @get es =>
  obtain ⟨da, rfl, _⟩ := id vx
  refine Zr5 ▸ Zqu vx (ZL (first := [.ref da]) hl O ok I Fi ne (fun y y y y y y y y => Zbq _) fun vs us st2 W2 h2 tk2 e2 P2 I2 Fi2 va ne3 => ?_)
  exact Zr6 (s := sh s h2 tk2) I2 Fi2 (vx.mono P2.grow) va ne3
 | @join sep =>
  obtain ⟨tx, rfl⟩ : ∃ t, x = .str sep t := ZcG vx
  refine Zr4 ▸ GM.join (ZL (first := [.str sep tx]) hl O ok I Fi ne (fun y y y y y y y y => Zbq _) fun vs us st2 W2 h2 tk2 e2 P2 I2 Fi2 va ne3 => ?_)
  exact Zqs (s := sh s h2 tk2) I2 Fi2 va ne3
theorem Zl5 (G : Ground S) (K : Zc1 S) (H : CallOk S C n) (ho : Snd S C n o) (hl : ZaW S C n as) : Snd S C n (.meth o a as p1 p) := by
 intro F A W ρ st s O ok I Fi ne
 have ok' := ok
 have ok' := ba5 ok'
 obtain ⟨⟨⟨⟨o1, o2⟩, o3⟩, o4⟩, o5⟩ := ok'
 rw [Zl2 ok o2]
 rw [ZnH] at ne ⊢
 refine Zl (ho F A W ρ st s O o1 I Fi (Zh ne)) fun v st' W' h' tk x e1 P I' Fi' vx => ?_
 have ne2 := Zf ne e1
 have pre : Za2 v a st' = true := by
  cases h : Za2 v a st' with
  | true => rfl
  | false => rw [h] at ne2; exact absurd rfl ne2
 rw [pre] at ne2 ⊢
 exact wB (wS (wB (wH (Zl4 (s := sh s h' tk) G K H O hl o2 I' Fi' vx (Zs7 pre) ne2))))
end
noncomputable def VI (W : Wd) (h : Heap) (x : Vl) (xs : List PD) : Prop :=
 DR W.own h x (.list xs) ∨ DR W.own h x (.tuple xs) ∨ ∃ (r : Addr) (m : Int) (t u v : Tok), x = .ref r ∧ IsRange h r 0 m 1 t u v ∧ 0 ≤ m ∧ m.toNat ≤ 4096 ∧ xs = (List.range m.toNat).map fun k : Nat => PyData.int (k : Int)
noncomputable def Zen (S : SC) (C : Ze) (n : Nat) (c : CS) : Prop := ∀ (F : Fm) (A : Ar) (W : Wd) (ρ : En) (st : St) (s : Sh), FmOk F A n → okS F.env.scope.names F.ns c = true → Inv S W st s.heap → FI S F W ρ s.heap → evS C c ρ st ≠ .no →
 wA S.M A (eval (toS F.ns c) F.env) (QE S F W ρ s VI (evS C c ρ st)) (EE S F W ρ s (evS C c ρ st)) s
structure Itr (S : SC) (A : Ar) (W : Wd) (h₀ : Heap) (I : Addr) (xs : List PD) (fp : List Addr) (P : Nat → Vl → Prop) (St : Nat → Heap → Prop) : Prop where
 walk : Walks S.prog S.w A I fp [I] xs.length P St
 item : ∀ i v, i < xs.length → P i v → ∃ x, xs[i]? = some x ∧ DR W.own h₀ v x
 cls : ∀ i h, St i h → ∃ o T, h.get? I = some o ∧ o.cls = .type T ∧ (T = "list_iterator" ∨ T = "tuple_iterator" ∨ T = "range_iterator")
 fp : ∀ b ∈ fp, b = I ∨ (b ∉ W.own ∧ ∃ o, h₀.get? b = some o ∧ NR o)
section
variable {S : SC} {C : Ze} {n : Nat} {F : Fm} {W W₀ W' : Wd} {ρ : En} {st : St} {A : Ar} {s : Sh} {lo h h' h₁ : Heap} {E : Vl → Sh → Prop}
noncomputable def rgS (v : MV) (st : St) : RV (List PD) := match v with
 | .d (.int n) => if (decide (0 ≤ n) && Zc n.toNat) then .ok ((List.range n.toNat).map fun k : Nat => PyData.int (k : Int)) st else .no
 | _ => .no
noncomputable def vlS (v : MV) (st : St) : RV (List PD) := match v with
 | .d (.list xs) => if Zc xs.length then .ok xs st else .no
 | .d (.tuple xs) => if Zc xs.length then .ok xs st else .no
 | _ => .no
theorem ZiU {α : Type} {b : Bool} {x : α} (ne : (if b = true then RV.ok x st else .no) ≠ .no) : b = true ∧ (if b = true then RV.ok x st else .no) = .ok x st := by
 cases b with
 | true => exact ⟨rfl, rfl⟩
 | false => exact absurd rfl ne
theorem ZhV {v : MV} (ne : rgS v st ≠ .no) : ∃ n, v = .d (.int n) ∧ (decide (0 ≤ n) && Zc n.toNat) = true ∧ rgS v st = .ok ((List.range n.toNat).map fun k : Nat => PyData.int (k : Int)) st := by
 cases v with
 | d y => cases y with
  | int n => exact ⟨n, rfl, ZiU ne⟩
  | _ => exact absurd rfl ne
 | _ => exact absurd rfl ne
theorem ZhW {v : MV} (ne : vlS v st ≠ .no) : ∃ xs, (v = .d (.list xs) ∨ v = .d (.tuple xs)) ∧ Zc xs.length = true ∧ vlS v st = .ok xs st := by
 cases v with
 | d y => cases y with
  | list xs => exact ⟨xs, .inl rfl, ZiU ne⟩
  | tuple xs => exact ⟨xs, .inr rfl, ZiU ne⟩
  | _ => exact absurd rfl ne
 | _ => exact absurd rfl ne
theorem Zl6 (he : Snd S C n e) : Zen S C n (.val e) := by
 intro F A W ρ st s O ok I Fi ne
 have eq : evS C (.val e) ρ st = (ev C e ρ st).bind vlS := rfl
 rw [eq] at ne ⊢
 refine wM (he F A W ρ st s O ok I Fi (Zh ne)) (fun x s' z => ?_) fun x s' z => z.left
 obtain ⟨v, st', W', e1, h', tk, rfl, P, I', Fi', vx⟩ := z
 have ne2 := Zf ne e1
 obtain ⟨xs, h, _, e2⟩ := ZhW ne2
 exact ⟨xs, st', W', (congrArg (RV.bind · vlS) e1).trans e2, h', tk, rfl, P, I', Fi', h.elim (fun z => .inl (show VR S W' h' x (.d (.list xs)) from z ▸ vx)) fun z => .inr (.inl (show VR S W' h' x (.d (.tuple xs)) from z ▸ vx))⟩
theorem Zl7 (G : Ground S) (he : Snd S C n e) : Zen S C n (.rng e p1 p) := by
 intro F A W ρ st s O ok I Fi ne
 have ok := Bool.and_eq_true_iff.mp ok
 have eq : evS C (.rng e p1 p) ρ st = (ev C e ρ st).bind rgS := rfl
 rw [eq] at ne ⊢
 show wA _ _ (eval (.Name (sO "range") p1) F.env >>= fun f => callWith p f [] (backTo p (starEach [toE F.ns e] F.env)) []) _ _ _
 refine wB (Zdo O G I ok.2 (u := .type "range") (.tail _ (.tail _ (.tail _ (.tail _ (.tail _ (.tail _ (.head _))))))) ?_)
 rw [Zao ok.1]
 show wA _ _ (callWith p (.type "range") [] [(false, eval (toE F.ns e) F.env)] []) _ _ _
 refine callWith_of (P := fun y => True) rfl (fun h y => ⟨.machine, .inr (.inl rfl), .now⟩) (evalArgs_plain (spliced_cons ?_))
 refine wM (he F A W ρ st s O ok.1 I Fi (Zh ne)) (fun x s' z => ?_) fun x s' z => z.left
 obtain ⟨v, st', W', e1, h', tk, rfl, P, I', Fi', vx⟩ := z
 have ne2 := Zf ne e1
 refine spliced_nil ⟨trivial, ?_⟩
 obtain ⟨m, rfl, hf', e2⟩ := ZhV ne2
 obtain ⟨t, rfl⟩ := Z8 (own := W'.own) (h := h') vx
 have hf := Bool.and_eq_true_iff.mp hf'
 refine call_range_1 (s := sh s h' tk) ?_
 have k : ∀ b o, h'.get? b = some o → (h'.push { cls := .type "range", data := .fields #[.int 0 tk, .int m t, .int 1 (tk + 1)] }).get? b = some o := Zd
 exact ⟨_, st', W', (congrArg (RV.bind · rgS) e1).trans e2, _, _, rfl, P.trans (.keeps k), I'.grow k, Fi'.grow k, .inr (.inr ⟨_, m, _, _, _, rfl, IsRange.new .., of_decide_eq_true hf.1, Zv hf.2, rfl⟩)⟩
theorem Zgb (R : Room A n) (I : Inv S W st s.heap) (vi : VI W s.heap x xs)
 (q : ∀ oI fp P St, Itr S A W s.heap s.heap.objs.size xs fp P St → St 0 (s.heap.push oI) → oI.isFreed = false → Q (.ref s.heap.objs.size) { s with heap := s.heap.push oI }) : wA S.M A (pyIter x) Q E s := by
 rcases vi with d | d | ⟨r, m, t, u, v, rfl, hr, h0, hm, rfl⟩
 ·obtain ⟨a, us, m, rfl, ha, ho, d⟩ := ZdC d
  have ne : a ≠ s.heap.objs.size := fun z => Nat.lt_irrefl _ (z ▸ Heap.lt_size ho)
  have hlen : us.size = xs.length := by rw [← Array.length_toList, d.length]
  refine wpAny_pyIter_list ⟨_, ho, rfl, m, rfl⟩ (q _ [s.heap.objs.size, a] (fun i v => us[i]? = some v) (fun i h => h.IsListIter s.heap.objs.size a i ∧ h.IsList a us) ⟨hlen ▸ Walks.list R.handled _ a ne us, fun i v hi hv => ?_, fun i h st => ?_, fun b hb => ?_⟩ ⟨⟨_, Heap.get?_push_size _ rfl, rfl, rfl⟩, ⟨_, Zd _ _ ho, rfl, m, rfl⟩⟩ rfl)
  ·refine bc fun no => ?_; obtain ⟨v', z1, z2⟩ := d.get (List.getElem?_eq_getElem hi); refine no ?_
   rw [Array.getElem?_toList, hv] at z1
   cases z1
   exact ⟨_, List.getElem?_eq_getElem hi, z2⟩
  ·refine bc fun no => ?_; obtain ⟨⟨o, h1, h2, _⟩, _⟩ := st; refine no ?_
   exact ⟨o, _, h1, h2, .inl rfl⟩
  ·rcases lC9.mp hb with z | z
   ·exact .inl z
   ·rw [lS9.mp z]; exact .inr ⟨ha, _, ho, Zbn rfl (by simp)⟩
 ·obtain ⟨a, o, us, m, rfl, ha, ho, hc, hd, d⟩ := Zb4 d
  have ne : a ≠ s.heap.objs.size := fun z => Nat.lt_irrefl _ (z ▸ Heap.lt_size ho)
  have hlen : us.size = xs.length := by rw [← Array.length_toList, d.length]
  refine wpAny_pyIter_tuple ⟨o, ho, hc, m, hd⟩ (q _ [s.heap.objs.size, a] (fun i v => us[i]? = some v) (fun i h => h.IsTupleIter s.heap.objs.size a i ∧ h.IsTuple a us) ⟨hlen ▸ Walks.tuple R.handled _ a ne us, fun i v hi hv => ?_, fun i h st => ?_, fun b hb => ?_⟩ ⟨⟨_, Heap.get?_push_size _ rfl, rfl, rfl⟩, ⟨o, Zd _ _ ho, hc, m, hd⟩⟩ rfl)
  ·refine bc fun no => ?_; obtain ⟨v', z1, z2⟩ := d.get (List.getElem?_eq_getElem hi); refine no ?_
   rw [Array.getElem?_toList, hv] at z1
   cases z1
   exact ⟨_, List.getElem?_eq_getElem hi, z2⟩
  ·refine bc fun no => ?_; obtain ⟨⟨o, h1, h2, _⟩, _⟩ := st; refine no ?_
   exact ⟨o, _, h1, h2, .inr (.inl rfl)⟩
  ·rcases lC9.mp hb with z | z
   ·exact .inl z
   ·rw [lS9.mp z]; exact .inr ⟨ha, _, ho, Zbn hd (by simp)⟩
 ·have hsz : (Builtin.Range.rangeSize 0 m 1) = (m.toNat : Int) := by rw [rangeSize_one, Int.toNat_of_nonneg h0, Int.sub_zero]; split; rfl; exact Int.le_antisymm h0 (Int.not_lt.mp ‹_›)
  have hl : ((List.range m.toNat).map fun k : Nat => PyData.int (k : Int)).length = m.toNat := by simp
  refine wpAny_pyIter_range hr (small_one (by decide) (by decide) (Int.le_trans (by decide) h0) (Int.lt_of_le_of_lt (Int.toNat_le.mp hm) (by decide))) ?_
  rw [hsz]
  refine q _ [s.heap.objs.size] (fun i v => ∃ t, v = .int ((0 : Int) + i * 1) t) (fun i h => IsRangeIter h s.heap.objs.size ((0 : Int) + (i : Nat) * 1) ((m.toNat : Int) - (i : Nat)) 1) ⟨?_, fun i v hi ⟨t, hv⟩ => ?_, fun i h st => ⟨_, _, st, rfl, .inr (.inr rfl)⟩, fun b hb => .inl (lS9.mp hb)⟩ ?_ rfl
  ·have := Walks.range (prog := S.prog) (w := S.w) R.handled s.heap.objs.size 0 1 m.toNat
   rw [hl]
   exact this
  ·subst hv
   refine ⟨.int i, ?_, ?_⟩
   ·rw [hl] at hi
    rw [List.getElem?_map, List.getElem?_range hi]; rfl
   ·have : (0 : Int) + i * 1 = i := (Int.zero_add _).trans (Int.mul_one _)
    rw [this]; exact .int _ _
  ·show (Heap.push _ _).get? _ = _
   have e1 : ((m.toNat : Nat) : Int) - ((0 : Nat) : Int) = (m.toNat : Int) := by simp
   have e2 : (0 : Int) + ((0 : Nat) : Int) * 1 = 0 := by simp
   rw [e1, e2]
   exact Heap.get?_push_size _ rfl
theorem Zgc (ho : s.heap.get? I = some o) (hc : o.cls = .type T) (hT : T = "list_iterator" ∨ T = "tuple_iterator" ∨ T = "range_iterator") (q : Q () s) :
 wA M A (letOwnedTupleGo (toT ns t) (.ref I) v) Q E s := by
 cases t with
 | nm i p => exact wP q
 | two i p1 j p2 p =>
  show wA _ _ (match (Value.ref I, v) with
   | (.ref r, .ref a) => (do
    let o ← load r
    match o.cls, o.data with
    | .type n, .fields vs =>
     if ["enumerate", "zip", "dict_itemiterator", "dict_reverseitemiterator", "odict_iterator", "itertools.zip_longest", "itertools.pairwise"].contains n && vs[0]? == some (rawInt a) then
      rule "for.unpacks-the-owned-tuple"
      updateField r 0 .none
    | _, _ => pure ())
   | _ => pure ()) _ _ _
  cases v with
  | ref a =>
   refine wB (wpAny_load ho ?_)
   rw [hc]
   cases o.data with
   | fields vs =>
    dsimp only
    have : (["enumerate", "zip", "dict_itemiterator", "dict_reverseitemiterator", "odict_iterator", "itertools.zip_longest", "itertools.pairwise"].contains T && vs[0]? == some (rawInt a)) = false := by
     rcases hT with rfl | rfl | rfl <;> (rw [Bool.and_eq_false_iff]; left; decide)
    rw [this]
    exact wP q
   | _ => exact wP q
  | _ => exact wP q
noncomputable def Zl8 : CT → List Nat
 | .nm i _ => [i]
 | .two i _ j _ _ => [i, j]
theorem Zl9 {i j : Nat} {p1 p2 p : Pos} {x : PD} {ρ ρ' : En} (e : Zag (.two i p1 j p2 p) x ρ = some ρ') : ∃ a b, x = .tuple [a, b] ∧ ρ' = (ρ.set i (some (.d a))).set j (some (.d b)) := by
 cases x with
 | tuple l => cases l with
  | nil => exact nn e rfl
  | cons a l => cases l with
   | nil => exact nn e rfl
   | cons b l => cases l with
    | nil => cases e; exact ⟨a, b, rfl, rfl⟩
    | cons _ _ => exact nn e rfl
 | _ => exact nn e rfl
theorem ZeJ (O : FmOk F A n) (fn : ∀ i ∈ Zl8 t, ∀ c, F.env.cells.lookup (nmE F.ns i) = some c → F.env.kindOf (nmE F.ns i) = some .cell → c ∈ F.cur) (ok : Zck F.env.scope.names F.ns t = true) (I : Inv S W st s.heap) (Fi : FI S F W ρ s.heap) (vx : DR W.own s.heap v x) (e : Zag t x ρ = some ρ')
 (q : ∀ h' tk, Step W W F.cur s.heap h' → Inv S W st h' → FI S F W ρ' h' → Q () (sh s h' tk)) : wA S.M A (assign (toT F.ns t) F.env v) Q E s := by
 cases t with
 | nm i p =>
  cases e
  exact Zap O (fn i (.head _)) ok I Fi (v := .d x) vx q
 | two i p1 j p2 p =>
  have ok := Bool.and_eq_true_iff.mp ok
  obtain ⟨a, b, rfl, rfl⟩ := Zl9 e
  ·clear e
   obtain ⟨ad, ob, us, m, rfl, ha, ho, hc, hd, d⟩ := Zb4 vx
   obtain ⟨u1, u2, hu, d1, d2⟩ : ∃ u1 u2, us.toList = [u1, u2] ∧ DR W.own s.heap u1 a ∧ DR W.own s.heap u2 b := by
    cases hl : us.toList with
    | nil => rw [hl] at d; cases d
    | cons u1 r => rw [hl] at d; cases d with
     | cons d1 d => cases d with
      | cons d2 d => cases d; exact ⟨_, _, rfl, d1, d2⟩
   have hz : us.size = 2 := by rw [← Array.length_toList, hu]; rfl
   have hT : IsTup s.heap ad us := ⟨ob, ho, hc, m, hd⟩
   refine assign_Tuple_tuple O.room.handled hT (by rw [hz]; rfl) rfl fun h2 ex => ?_
   have k : ∀ b o, s.heap.get? b = some o → h2.get? b = some o := fun b o eb => ex b o (fun z => Nat.lt_irrefl _ (z ▸ Heap.lt_size eb)) eb
   rw [hu]
   show wA _ _ (holding [u2] (assign (.Name (nmE F.ns i) p1) F.env u1) >>= fun y => holding [] (assign (.Name (nmE F.ns j) p2) F.env u2) >>= fun y => pure ()) _ _ _
   have mo : ∀ {v : Vl} {x : PD}, DR W.own s.heap v x → DR W.own h2 v x := fun d => DR.mono (fun b o e y y => k b o e) (fun y m => .inl m) d
   refine wB (wH (Zap (s := { s with heap := h2 }) O (fn i (.head _)) ok.1 (I.grow k) (Fi.grow k) (v := .d a) (mo d1) fun h3 tk3 P3 I3 Fi3 => ?_))
   refine wB (wH (Zap (s := sh s h3 tk3) O (fn j (.tail _ (.head _))) ok.2 I3 Fi3 (v := .d b) (VR.mono (x := .d b) P3.grow (mo d2)) fun h4 tk4 P4 I4 Fi4 => ?_))
   exact wP (q h4 tk4 (((Step.keeps k).trans P3).trans P4) I4 Fi4)
theorem dead_back' (P : Step W W' cur h h') (x : Ext W' W₂) : ∀ b, b ∉ W₂.own → h'.get? b = none → h.get? b = none := fun b n q => (P.pers.dead q).resolve_left fun m => n (x.own _ (P.ext.own _ m))
theorem DR.grown (G : Grow W W' h h') (d : DR W.own h v x) : DR W'.own h' v x := DR.mono G.keep G.own d
theorem Zgd {R : Result → Sh → Prop} (O : FmOk F A n) (I : Inv S W st s.heap) (Fi : FI S F W ρ s.heap) (x : XS S W lo F.env.frame c fs e s.heap)
 (hb : ∀ b o, S.h₀.get? b = some o → lo.get? b = some o) (live : ∀ b o, lo.get? b = some o → ∃ o', s.heap.get? b = some o') (hR : ∀ v s', cameBackBy S.M A F.env E' v s' → R (.error v) s')
 (q : ∀ h', RC W lo s.heap h' → XS S W lo F.env.frame c fs e h' → E' (.ref e) { s with heap := h' }) : notedBy S.M A F.env (fun e s' => R (.error e) s') (.ref e) s := by
 refine bc fun no => ?_; obtain ⟨e0, r0, L, f1, f2, hL⟩ := O.head; refine no ?_
 unfold notedBy
 refine Zci O I Fi hL x hb live fun h' vs' r x' t' => hR _ _ ?_
 unfold cameBackBy
 refine ZiG (s := { s with heap := h' }) hL x' t' fun h2 r2 x2 => ?_
 exact q h2 (r.trans r2) x2
theorem ZeK {xs : List α} (hi : i < xs.length) : xs.drop i = xs[i] :: xs.drop (i + 1) := List.drop_eq_getElem_cons hi
theorem Zge (ok : okS nm ns src = true) : foldedSetIterable (toS ns' src) env x = pure x := by
 cases src with
 | rng e p1 p => rfl
 | val e =>
  clear ok; cases e <;> rfl
theorem ZoD {fp cur : List Addr} (P : Step W W' cur h h') (hI : I ∈ W.fr) (nI : I ∉ cur) (nf : I ∉ W.fa) (hfp : ∀ b ∈ fp, b = I ∨ (b ∉ W.own ∧ ∃ o, h.get? b = some o ∧ NR o)) : ∀ b ∈ fp, ∀ o, h.get? b = some o → h'.get? b = some o := by
 intro b m o e
 rcases hfp b m with z | ⟨z1, o', z2, z3⟩
 ·subst z
  obtain ⟨sl, y1, y2⟩ := P.pers.outer b o e hI nI
  rw [y1, y2 nf]
 ·rw [e] at z2; cases z2
  exact P.pers.keep b o e z1 z3
theorem ZoE {fp cur : List Addr} (P : Step W W' cur h h') (hfp : ∀ b ∈ fp, b = I ∨ (b ∉ W.own ∧ ∃ o, h.get? b = some o ∧ NR o)) : ∀ b ∈ fp, b = I ∨ (b ∉ W'.own ∧ ∃ o, h'.get? b = some o ∧ NR o) := fun b m => by
 rcases hfp b m with z | ⟨z1, o', z2, z3⟩
 ·exact .inl z
 ·refine .inr ⟨fun y => (P.own b y).elim z1 fun y2 => ?_, o', P.pers.keep b o' z2 z1 z3, z3⟩
  rw [z2] at y2; cases y2
theorem Zkp : ZaU t f (x :: r) ρ st = (match Zag t x ρ with
 | some ρ => (f ρ st).bind fun ρ st => ZaU t f r ρ st
 | none => .no) := rfl
theorem Inv.gone (I : Inv S W' st h) (e : W'.fr = W.fr ++ [a]) (hw : ∀ b ∈ W.fa, b ∈ W.fr) (hb : S.h₀.get? a = none) (k : ∀ b o, b ≠ a → h.get? b = some o → h2.get? b = some o) : Inv S (W'.back W) st h2 := by
 have out : ∀ b ∈ (W'.back W).own, b ≠ a := fun b m z => Zdp I e (z ▸ m)
 have inn : a ∈ W'.own := lA9.mpr (.inr (by rw [e]; exact lA9.mpr (.inr (.head _))))
 have G : Grow W' (W'.back W) h h2 := ⟨fun b o eb n y => k b o (fun z => n (z ▸ inn)) eb, fun b m => .inl (ZA e b m), [], by simp [Wd.back]⟩
 refine ⟨fun b o eb => k b o (fun z => ?_) (I.base b o eb), I.len, fun l c mo e1 e2 => (I.cells l c mo e1 e2).mono2 G fun b o eb hm => k b o (out b (lA9.mpr (.inl (Z2 (W := W'.back W) e1 b hm)))) eb, (I.leave e hw).nodup, hw, fun b m => ⟨(I.leave e hw).fresh b m |>.1, ?_⟩⟩
 ·rw [z, hb] at eb; cases eb
 ·obtain ⟨o, z⟩ := (I.fresh b (ZA e b m)).2
  exact ⟨o, k b o (out b m) z⟩
theorem Step.gone (P : Step W W2 cur h h') (ha : h.get? a = none) (k : ∀ b o, b ≠ a → h'.get? b = some o → h2.get? b = some o) : Step W W2 cur h h2 := by
 have ne : ∀ b o, h.get? b = some o → b ≠ a := fun b o e z => by rw [z, ha] at e; cases e
 refine ⟨P.ext, ⟨fun b o e n nr => k b o (ne b o e) (P.pers.keep b o e n nr), fun b o e => (by obtain ⟨o', z⟩ := P.pers.live b o e; exact ⟨o', k b o' (ne b o e) z⟩), fun b o e m n => (by obtain ⟨sl, y1, y2⟩ := P.pers.outer b o e m n; exact ⟨sl, k b _ (ne b o e) y1, y2⟩)⟩, P.own⟩
structure LC (S : SC) (F : Fm) (A : Ar) (n : Nat) (W W1 : Wd) (cur : List Addr) (h0 h₁ : Heap) (Ia : Addr) (xs : List PD) (fp : List Addr) (Pv : Nat → Vl → Prop) (Sw : Nat → Heap → Prop) : Prop where
 T : Itr S A W h0 Ia xs fp Pv Sw
 O : FmOk F A n
 inI : Ia ∈ W1.fr
 nfI : Ia ∉ W1.fa
 nc : Ia ∉ F.cur
 cw : ∀ a ∈ F.cur, a ∈ cur
 cI : Ia ∈ cur
 ft : ∀ {Wi ρi hi h2}, Ext W1 Wi → FI S F Wi ρi hi → (∀ b o, b ≠ Ia → hi.get? b = some o → h2.get? b = some o) → FI S F Wi ρi h2
 dg : ∀ {v x}, DR W.own h0 v x → DR W1.own h₁ v x
structure LI (S : SC) (F : Fm) (W1 : Wd) (cur : List Addr) (h₁ : Heap) (Ia : Addr) (fp : List Addr) (Sw : Nat → Heap → Prop) (i : Nat) (ρi : En) (sti : St) (Wi : Wd) (hi : Heap) : Prop where
 P : Step W1 Wi cur h₁ hi
 I : Inv S Wi sti hi
 Fi : FI S F Wi ρi hi
 sw : Sw i hi
 fp : ∀ b ∈ fp, b = Ia ∨ (b ∉ Wi.own ∧ ∃ o, hi.get? b = some o ∧ NR o)
inductive FL (S : SC) (F : Fm) (W1 : Wd) (cur : List Addr) (h₁ : Heap) (Ia : Addr) (fp : List Addr) (Sw : Nat → Heap → Prop) (C : Ze) (t : CT) (b : CB) (xs : List PD) (s : Sh) (r : RX) : Nat → Sh → Prop
 | mk {i ρi sti Wi hi tki} (hle : i ≤ xs.length) (X : LI S F W1 cur h₁ Ia fp Sw i ρi sti Wi hi) (heq : ZaU t (exs C b) (xs.drop i) ρi sti = r) : FL S F W1 cur h₁ Ia fp Sw C t b xs s r (xs.length + 1 - i) (sh s hi tki)
section
variable {W1 Wi W4 : Wd} {cur : List Addr} {h0 hi h2 h4 : Heap} {Ia : Addr} {xs : List PD} {fp : List Addr} {Pv : Nat → Vl → Prop} {Sw : Nat → Heap → Prop} {i : Nat} {ρi ρ4 : En} {sti st4 : St} {tki : Nat}
theorem Zfl (L : LC S F A n W W1 cur h0 h₁ Ia xs fp Pv Sw) (X : LI S F W1 cur h₁ Ia fp Sw i ρi sti Wi hi) : Ia ∈ Wi.fr := X.P.ext.fr ▸ L.inI
theorem ZhX (L : LC S F A n W W1 cur h0 h₁ Ia xs fp Pv Sw) (X : LI S F W1 cur h₁ Ia fp Sw i ρi sti Wi hi) (hlt : i < xs.length)
 (q : ∀ v h2 tk2 o2 T2, LI S F W1 cur h₁ Ia fp Sw (i + 1) ρi sti Wi h2 → (∀ b o, b ≠ Ia → hi.get? b = some o → h2.get? b = some o) → DR Wi.own h2 v xs[i] → h2.get? Ia = some o2 → o2.cls = .type T2 → (T2 = "list_iterator" ∨ T2 = "tuple_iterator" ∨ T2 = "range_iterator") → Q (some v) (sh s h2 tk2)) :
 wA S.M A (pyNext (.ref Ia)) Q E (sh s hi tki) := by
 refine L.T.walk.item i (sh s hi tki) _ _ hlt X.sw fun v h2 tk2 hP st2 k2 => ?_
 have kI : ∀ b o, b ≠ Ia → hi.get? b = some o → h2.get? b = some o := fun b o nb e => k2 b o (fun m => nb (lS9.mp m)) e
 have inI := Zfl L X
 obtain ⟨o2, T2, g2, c2, t2⟩ := L.T.cls (i + 1) h2 st2
 obtain ⟨xd, hx, dx⟩ := L.T.item i v hlt hP
 have hxe : xs[i] = xd := Option.some.inj ((List.getElem?_eq_getElem hlt).symm.trans hx)
 have G := ZM inI kI
 refine q v h2 tk2 o2 T2 ⟨X.P.trans ((Zak inI kI ⟨o2, g2⟩).wider fun a m => lS9.mp m ▸ L.cI), X.I.touch inI kI ⟨o2, g2⟩, L.ft X.P.ext X.Fi kI, st2, fun b m => ?_⟩ kI (hxe ▸ DR.grown G (DR.grown X.P.grow (L.dg dx))) g2 c2 t2
 by_cases z : b = Ia
 ·exact .inl z
 ·exact (X.fp b m).imp id fun w9 => (by obtain ⟨z1, o, z2, z3⟩ := w9; exact ⟨z1, o, kI b o z z2, z3⟩)
theorem Za3 (L : LC S F A n W W1 cur h0 h₁ Ia xs fp Pv Sw) (X : LI S F W1 cur h₁ Ia fp Sw i ρi sti Wi hi) (P : Step Wi W4 F.cur hi h4) (I4 : Inv S W4 st4 h4) (Fi4 : FI S F W4 ρ4 h4) : LI S F W1 cur h₁ Ia fp Sw i ρ4 st4 W4 h4 :=
 ⟨X.P.trans (P.wider L.cw), I4, Fi4, L.T.walk.frame i hi h4 X.sw (ZoD P (Zfl L X) L.nc (fun m => L.nfI (X.P.ext.fa ▸ m)) X.fp), ZoE P X.fp⟩
theorem Zma {b : CB} (hb : Z3 S C n b) (L : LC S F A n W W1 cur h0 h₁ Ia xs fp Pv Sw) (fn : ZbW F) (okt : Zck F.env.scope.names F.ns t = true) (okb : okB F.env.scope.names F.ns b = true) (ne : r ≠ .no) {Qf : Flow → Sh → Prop} (bs : ∀ b o, S.h₀.get? b = some o → h₁.get? b = some o)
 (hn : ∀ {ρi sti Wi hi h2 tk2}, LI S F W1 cur h₁ Ia fp Sw xs.length ρi sti Wi hi → (∀ b o, b ≠ Ia → hi.get? b = some o → h2.get? b = some o) → r = .nx ρi sti → Qf .next (sh s h2 tk2))
 (hr : ∀ {v u W4 st4 h4 tk4}, Step W1 W4 cur h₁ h4 → Inv S W4 st4 h4 → VR S W4 h4 u v → r = .rt v st4 → Qf (.ret u) (sh s h4 tk4))
 (he : ∀ {c fs ρ4 st4 W4 e h4 tk4}, Step W1 W4 cur h₁ h4 → Inv S W4 st4 h4 → FI S F W4 ρ4 h4 → XS S W4 h₁ F.env.frame c fs e h4 → r = .ex c fs ρ4 st4 → Ef (.ref e) (sh s h4 tk4))
 (h : FL S F W1 cur h₁ Ia fp Sw C t b xs s r k s') : cA S.M A (.forLoop (toT F.ns t) (.ref Ia) (toB F.ns b) [] F.env) (fun r s' => match r with | .ok f => Qf f s' | .error e => cameBackBy S.M A F.env Ef e s') s' := by
 refine codeAny_forLoop_any (FL S F W1 cur h₁ Ia fp Sw C t b xs s r) (fun k s' z => ?_) _ h
 cases z with
 | @mk i ρi sti Wi hi tki hle X heq =>
 by_cases hlt : i < xs.length
 ·refine ZhX L X hlt fun v h2 tk2 o2 T2 X2 k2 dv g2 c2 t2 => ?_
  rw [ZeK hlt, Zkp] at heq
  refine Zgc (s := sh s h2 tk2) g2 c2 t2 ?_
  cases ht : Zag t xs[i] ρi with
  | none => rw [ht] at heq; exact absurd heq.symm ne
  | some ρ' =>
   rw [ht] at heq
   have heq : ((exs C b ρ' sti).bind fun ρ st => ZaU t (exs C b) (xs.drop (i + 1)) ρ st) = r := heq
   refine ZeJ (s := sh s h2 tk2) L.O (fun i y c hc y => fn _ c hc) okt X2.I X2.Fi dv ht fun h3 tk3 P3 I3 Fi3 => ?_
   have X3 := Za3 L X2 P3 I3 Fi3
   refine wM (hb F A Wi ρ' sti (sh s h3 tk3) L.O fn okb I3 Fi3 fun z => ne (by rw [← heq, z]; rfl)) (fun f s' z => ?_) fun x' s' z => ?_
   ·obtain ⟨st4, W4, h4, tk4, rfl, P4, I4, z⟩ := z
    rcases z with ⟨ρ4, e4, rfl, Fi4⟩ | ⟨v4, u4, e4, rfl, vu4⟩
    ·exact ⟨xs.length + 1 - (i + 1), Nat.sub_lt_sub_left (Nat.lt_succ_of_lt hlt) (Nat.lt_succ_self i), FL.mk hlt (Za3 L X3 P4 I4 Fi4) (by rw [← heq, e4]; rfl)⟩
    ·exact hr (X3.P.trans (P4.wider L.cw)) I4 vu4 (by rw [← heq, e4]; rfl)
   ·obtain ⟨c, fs, ρ4, st4, W4, e, e4, rfl, h4, tk4, rfl, P4, I4, Fi4, X4⟩ := z
    have P04 := X3.P.trans (P4.wider L.cw)
    refine Zgd (s := sh s h4 tk4) (R := fun r s' => match r with | .ok f => Qf f s' | .error e => cameBackBy S.M A F.env Ef e s') (E' := Ef) L.O I4 Fi4 (X4.weaken (dead_back' X3.P P4.ext) fun y m => m) bs P04.pers.live (fun y y z => z) fun h5 rc X5 => ?_
    exact he (rc.step P04) (rc.inv I4 bs) (rc.fi Fi4) X5 (by rw [← heq, e4]; rfl)
 ·obtain rfl : i = xs.length := Nat.le_antisymm hle (Nat.le_of_not_lt hlt)
  rw [List.drop_of_length_le (Nat.le_refl _)] at heq
  exact L.T.walk.done (sh s hi tki) _ _ X.sw fun h2 tk2 k2 => wP (hn X (fun b o nb e => k2 b o (fun m => nb (lS9.mp m)) e) heq.symm)
end
theorem ZdR : (W.put as).fa = W.fa := by simp [Wd.put, Wd.puts]
theorem ZoF {Ia : Addr} (hb : Z3 S C n b) (O : FmOk F A n) (fn : ZbW F) (okt : Zck F.env.scope.names F.ns t = true) (okb : okB F.env.scope.names F.ns b = true) (I : Inv S W st s.heap) (Fi : FI S F W ρ s.heap)
 (dI : s.heap.get? Ia = none) (gI : ∃ o, hp.get? Ia = some o) (pk : ∀ b o, s.heap.get? b = some o → hp.get? b = some o) (T : Itr S A W s.heap Ia xs fp Pv Sw) (s0 : Sw 0 hp) (er : ZaU t (exs C b) xs ρ st = r) (ne : r ≠ .no) :
 wA S.M A (runOwn (.forLoop (toT F.ns t) (.ref Ia) (toB F.ns b) [] F.env) F.env) (QX S F W s r) (EX S F W s r) { s with heap := hp } := by
 have pd : ∀ a ∈ [Ia], s.heap.get? a = none := fun a m => lS9.mp m ▸ dI
 have dead : ∀ b ∈ W.fr, b ≠ Ia := fun b m z => by
  obtain ⟨o, z'⟩ := (I.fresh b (lA9.mpr (.inr m))).2
  rw [z, dI] at z'; cases z'
 have inI : Ia ∈ (W.put [Ia]).fr := lA9.mpr (.inr (.head _))
 have lv : ∀ {W₂ : Wd} {st₂ : St} {h₂ : Heap}, Step (W.put [Ia]) W₂ (Ia :: F.cur) hp h₂ → Inv S W₂ st₂ h₂ → Step W (W₂.back W) F.cur s.heap h₂ ∧ Inv S (W₂.back W) st₂ h₂ ∧ Grow W₂ (W₂.back W) h₂ h₂ := fun {W₂ st₂ h₂} P I₂ =>
  ⟨Step.inner (as := [Ia]) (fs := []) pk pd (fun w m => nomatch m) P rfl rfl ⟨[], by simp [Wd.back]⟩ (ZA P.ext.fr), I₂.leave P.ext.fr I.faf, Zat P.ext.fr⟩
 have L : LC S F A n W (W.put [Ia]) (Ia :: F.cur) s.heap hp Ia xs fp Pv Sw := ⟨T, O, inI, fun m => dead Ia (I.faf _ (ZdR (W := W) ▸ m)) rfl, fun m => dead Ia (Fi.cur _ m) rfl, fun a m => .tail _ m, .head _,
  fun x Fii kI => Fii.leave Fi (ZM (x.fr ▸ inI) kI) (fun a m => x.fr ▸ lA9.mpr (.inl m)) (fun a m => x.fa ▸ lA9.mpr (.inl m)) fun b o e m => ⟨o.slots, kI b o (dead b m) e⟩, fun d => DR.grown (Zbx (W := W) (fs := []) pk pd) d⟩
 refine wpAny_runOwn (h := none) (codeAny_mono (Zma hb L fn okt okb ne (fun b o q => pk b o (I.base b o q)) (fun {ρi sti Wi hi h2 tk2} X kI e => ?_) (fun {v u W4 st4 h4 tk4} P I4 vu e => ?_) (fun {c fs ρ4 st4 W4 a h4 tk4} P I4 Fi4 X e => ?_)
  (FL.mk (i := 0) (tki := s.toks) (Nat.zero_le _) ⟨.refl, I.enter pk pd (fun a m => lS9.mp m ▸ gI) (List.nodup_cons.mpr ⟨List.not_mem_nil, List.nodup_nil⟩) (fun w m => nomatch m), Fi.put (fs := []) pk pd, s0, fun b m => ?_⟩ er)) fun w w z => z)
 ·have P' := (lv X.P X.I).1
  have e2 : Wi.fr = W.fr ++ [Ia] := X.P.ext.fr
  exact ⟨sti, Wi.back W, h2, tk2, rfl, P'.gone dI kI, X.I.gone e2 I.faf (I.base_dead dI) kI, .inl ⟨ρi, e, rfl, X.Fi.leave Fi ⟨fun b o eb n w => kI b o (fun z => n (z ▸ lA9.mpr (.inr (Zfl L X)))) eb, fun b m => .inl (ZA e2 b m), [], by simp [Wd.back]⟩ (fun w m => m) (fun w m => m) fun b o e m => ⟨o.slots, kI b o (dead b m) e⟩⟩⟩
 ·obtain ⟨P', I', G'⟩ := lv P I4
  exact ⟨st4, W4.back W, h4, tk4, rfl, P', I', .inr ⟨v, u, e, rfl, vu.mono G'⟩⟩
 ·obtain ⟨P', I', G'⟩ := lv P I4
  refine ⟨c, fs, ρ4, st4, W4.back W, a, e, rfl, h4, tk4, rfl, P', I', Fi4.leave Fi G' (fun w m => m) (fun w m => m) fun b o e w => ⟨o.slots, e⟩, X.weaken (fun b w q => ?_) (ZA P.ext.fr)⟩
  cases q2 : s.heap.get? b with
  | none => rfl
  | some o => exact nn (pk b o q2) q
 ·refine (T.fp b m).imp id fun w9 => (by obtain ⟨z1, o, z2, z3⟩ := w9; exact ⟨fun y => (Zbr.mp y).elim z1 fun y => nn z2 (pd b y), o, pk b o z2, z3⟩)
theorem Zkq (hb : Z3 S C n b) (O : FmOk F A n) (fn : ZbW F) (okt : Zck F.env.scope.names F.ns t = true) (okb : okB F.env.scope.names F.ns b = true) (I : Inv S W st s.heap) (Fi : FI S F W ρ s.heap) (vi : VI W s.heap x xs) (ne : ZaU t (exs C b) xs ρ st ≠ .no) :
 wA S.M A (holding [x] (pyIter x) >>= fun it => runOwn (.forLoop (toT F.ns t) it (toB F.ns b) [] F.env) F.env) (QX S F W s (ZaU t (exs C b) xs ρ st)) (EX S F W s (ZaU t (exs C b) xs ρ st)) s :=
 wB (wH (Zgb O.room I vi fun oI fp P Sw T s0 fI => ZoF hb O fn okt okb I Fi Z0 ⟨_, Heap.get?_push_size _ fI⟩ Zd T s0 rfl ne))
theorem Zr7 (hs : Zen S C n src) (hb : Z3 S C n b) : Zad S C n (.fr t src b p) := by
 intro F A W ρ st s O fn ok I Fi ne
 have ok := ba4 ok
 rw [Zp9] at ne ⊢
 show wA _ _ (standAt p >>= fun y => eval (toS F.ns src) F.env >>= fun x0 => foldedSetIterable (toS F.ns src) F.env x0 >>= fun x => standAt (toS F.ns src).pos >>= fun y => holding [x] (pyIter x) >>= fun it => runOwn (.forLoop (toT F.ns t) it (toB F.ns b) [] F.env) F.env) _ _ _
 refine wB (wS ?_)
 refine Zbp (hs F A W ρ st s O ok.1.2 I Fi (ZI ne)) fun xs st' W' h' tk x e1 P I' Fi' vi => ?_
 have ne2 := ZQ ne e1
 rw [Zge ok.1.2]
 refine wB (wP (wB (wS ?_)))
 exact Zkq (s := sh s h' tk) hb O fn ok.1.1.2 ok.2 I' Fi' vi ne2
inductive WL (S : SC) (F : Fm) (W : Wd) (C : Ze) (t : CE) (b : CB) (s : Sh) (r : RX) : Nat → Sh → Prop
 | mk {k ρi sti Wi hi tki} (P : Step W Wi F.cur s.heap hi) (I : Inv S Wi sti hi) (Fi : FI S F Wi ρi hi) (heq : whl (evT C t) (exs C b) k ρi sti = r) : WL S F W C t b s r k (sh s hi tki)
theorem ZoG (ht : Z9 S C n t) (hb : Z3 S C n b) (O : FmOk F A n) (fn : ZbW F) (okt : okE F.env.scope.names F.ns t = true) (okb : okB F.env.scope.names F.ns b = true) (I : Inv S W st s.heap) (ne : r ≠ .no) {k : Nat} (z : WL S F W C t b s r k s') :
 cA S.M A (.whileLoop (toE F.ns t) (toB F.ns b) [] F.env) (fun x s' => match x with | .ok f => QX S F W s r f s' | .error e => cameBackBy S.M A F.env (EX S F W s r) e s') s' := by
 refine codeAny_whileLoop (WL S F W C t b s r) (fun k s' z => ?_) _ z
 cases z with
 | @mk ρi sti Wi hi tki P Ii Fii heq =>
 cases k with
 | zero => exact absurd heq.symm ne
 | succ k =>
  have w : ∀ {x}, evT C t ρi sti = x → onR ρi x (fun v st => match v with | true => (exs C b ρi st).bind fun ρ st => whl (evT C t) (exs C b) k ρ st | false => .nx ρi st) = r := fun e => by subst e; exact heq
  have bad : ∀ {c fs ρ4 st4 W4 e h4 tk4}, Step W W4 F.cur s.heap h4 → Inv S W4 st4 h4 → FI S F W4 ρ4 h4 → XS S W4 s.heap F.env.frame c fs e h4 → RX.ex c fs ρ4 st4 = r → notedBy S.M A F.env (fun e s' => cameBackBy S.M A F.env (EX S F W s r) e s') (.ref e) (sh s h4 tk4) := fun {c fs ρ4 st4 W4 e h4 tk4} P4 I4 Fi4 X4 e4 =>
   Zgd (s := sh s h4 tk4) (R := fun r' s' => match r' with | .ok f => QX S F W s r f s' | .error e => cameBackBy S.M A F.env (EX S F W s r) e s') (E' := EX S F W s r) O I4 Fi4 X4 I.base P4.pers.live (fun y y z => z) fun h5 rc X5 => ⟨c, fs, ρ4, st4, W4, e, e4.symm, rfl, h5, tk4, rfl, rc.step P4, rc.inv I4 I.base, rc.fi Fi4, X5⟩
  refine wM (ht F A Wi ρi sti (sh s hi tki) O okt Ii Fii fun z => ne (w z).symm) (fun v s' z => ?_) fun x' s' z => ?_
  ·obtain ⟨v', st2, W2, e2, h2, tk2, rfl, P2, I2, Fi2, rfl⟩ := z
   have P02 := P.trans P2
   have w := w e2
   cases v with
   | false => exact wP ⟨st2, W2, h2, tk2, rfl, P02, I2, .inl ⟨ρi, w.symm, rfl, Fi2⟩⟩
   | true =>
    have w : ∀ {x}, exs C b ρi st2 = x → (x.bind fun ρ st => whl (evT C t) (exs C b) k ρ st) = r := fun e => e ▸ w
    refine wM (hb F A W2 ρi st2 (sh s h2 tk2) O fn okb I2 Fi2 fun z => ne (w z).symm) (fun f s' z => ?_) fun x' s' z => ?_
    ·obtain ⟨st4, W4, h4, tk4, rfl, P4, I4, z⟩ := z
     rcases z with ⟨ρ4, e4, rfl, Fi4⟩ | ⟨v4, u4, e4, rfl, vu4⟩
     ·exact ⟨k, Nat.lt_succ_self _, .mk (P02.trans P4) I4 Fi4 (w e4)⟩
     ·exact ⟨st4, W4, h4, tk4, rfl, P02.trans P4, I4, .inr ⟨v4, u4, (w e4).symm, rfl, vu4⟩⟩
    ·obtain ⟨c, fs, ρ4, st4, W4, e, e4, rfl, h4, tk4, rfl, P4, I4, Fi4, X4⟩ := z
     exact bad (P02.trans P4) I4 Fi4 (X4.weaken (dead_back' P02 P4.ext) fun y m => m) (w e4)
  ·obtain ⟨c, fs, st4, W4, e, e4, rfl, h4, tk4, rfl, P4, I4, Fi4, X4⟩ := z
   exact bad (P.trans P4) I4 Fi4 (X4.weaken (dead_back' P P4.ext) fun y m => m) (w e4)
theorem Zkr (ht : Z9 S C n t) (hb : Z3 S C n b) (O : FmOk F A n) (fn : ZbW F) (okt : okE F.env.scope.names F.ns t = true) (okb : okB F.env.scope.names F.ns b = true) (I : Inv S W st s.heap) (Fi : FI S F W ρ s.heap) (ne : whl (evT C t) (exs C b) fuel ρ st ≠ .no) :
 wA S.M A (runOwn (.whileLoop (toE F.ns t) (toB F.ns b) [] F.env) F.env) (QX S F W s (whl (evT C t) (exs C b) fuel ρ st)) (EX S F W s (whl (evT C t) (exs C b) fuel ρ st)) s :=
 wpAny_runOwn (h := none) (codeAny_mono (ZoG ht hb O fn okt okb I ne (.mk (hi := s.heap) (tki := s.toks) .refl I Fi rfl)) fun y y z => z)
theorem Zqv (ht : Z9 S C n t) (hb : Z3 S C n b) : Zad S C n (.whl t b p) := by
 intro F A W ρ st s O fn ok I Fi ne
 have ok := ba2 ok
 simp only [ZnK] at ne ⊢
 show wA _ _ (standAt p >>= fun y => runOwn (.whileLoop (toE F.ns t) (toB F.ns b) [] F.env) F.env) _ _ _
 exact wB (wS (Zkr ht hb O fn ok.1 ok.2 I Fi ne))
end
section
variable {S : SC} {C : Ze} {n : Nat} {F : Fm} {W W₀ W' : Wd} {ρ : En} {st : St} {A : Ar} {s : Sh} {lo h h' h₁ : Heap} {E : Vl → Sh → Prop}
theorem Zgf (e : evS C c ρ st = .ok xs st') : xs.length ≤ 4096 := by
 cases c with
 | rng e1 p1 p =>
  obtain ⟨v, s1, _, e⟩ := ZcY (f := rgS) e
  obtain ⟨m, rfl, hf, e2⟩ := ZhV (v := v) (st := s1) fun z => by rw [z] at e; cases e
  cases e2.symm.trans e
  rw [List.length_map, List.length_range]
  exact Zv (Bool.and_eq_true_iff.mp hf).2
 | val e1 =>
  obtain ⟨v, s1, _, e⟩ := ZcY (f := vlS) e
  obtain ⟨ys, _, hf, e2⟩ := ZhW (v := v) (st := s1) fun z => by rw [z] at e; cases e
  cases e2.symm.trans e
  exact Zv hf
noncomputable def ZN (env : Env) : List (Str × NK) → List (Str × Addr) → List (Str × Addr)
 | [], acc => acc
 | (x, k) :: r, acc => if k == .free then ZN env r ((x, (env.cells.lookup x).getD 0) :: acc) else ZN env r acc
theorem Zgg {k : NK} : ZN env ((x, k) :: r) acc = (if k == .free then ZN env r ((x, (env.cells.lookup x).getD 0) :: acc) else ZN env r acc) := rfl
theorem Zs8 {k : NK} (h : (k == .free) = false) : ZN env ((x, k) :: r) acc = ZN env r acc := by
 rw [Zgg, h]; rfl
theorem Zdf (hc : ∀ x ∈ sc.names, x.2 = .free → (env.cells.lookup x.1).isSome = true) : closureFor sc env = pure (ZN env sc.names []) := by
 unfold closureFor
 have go : ∀ (names : List (Str × NK)) (acc : List (Str × Addr)), (∀ x ∈ names, x.2 = .free → (env.cells.lookup x.1).isSome = true) →
  (forIn names acc (fun (x : Str × NK) (cs : List (Str × Addr)) => (do
   if x.2 == .free then
    let a ← cellOf env x.1
    pure (ForInStep.yield ((x.1, a) :: cs))
   else pure (ForInStep.yield cs) : Sem (ForInStep (List (Str × Addr))))) : Sem (List (Str × Addr))) = pure (ZN env names acc) := by
  intro names
  induction names with
  | nil => intro acc _; rfl
  | cons y r ih =>
   intro acc hc
   obtain ⟨x, k⟩ := y
   rw [List.forIn_cons]
   by_cases hk : k = .free
   ·subst hk
    obtain ⟨a, ha⟩ := Option.isSome_iff_exists.mp (hc _ (.head _) rfl)
    have e : cellOf env x = pure ((env.cells.lookup x).getD 0) := by unfold cellOf; rw [show env.cells.lookup x = some a from ha]; rfl
    refine Eq.trans (congrArg (· >>= _) ((congrArg (· >>= fun a => pure (ForInStep.yield ((x, a) :: acc))) e).trans (pure_bind _ _))) ?_
    exact (pure_bind _ _).trans (ih _ fun y m => hc y (.tail _ m))
   ·have hb : (k == NameKind.free) = false := beq_false_of_ne hk
    rw [Zs8 hb]
    refine Eq.trans (congrArg (· >>= _) (if_neg (by rw [hb]; exact Bool.false_ne_true))) ?_
    exact (pure_bind _ _).trans (ih _ fun y m => hc y (.tail _ m))
 have := go sc.names [] hc
 exact (bind_pure _).trans this
theorem Zeo : ∀ {names : List (Str × NK)} {acc : List (Str × Addr)} {p : Str × Addr}, p ∈ ZN env names acc → p ∈ acc ∨ ((p.1, NameKind.free) ∈ names ∧ p.2 = (env.cells.lookup p.1).getD 0)
 | [], _, _, h => .inl h
 | (x, k) :: r, acc, p, h => by
  rw [Zgg] at h
  by_cases hk : (k == NameKind.free) = true
  ·rw [if_pos hk] at h
   rcases Zeo h with z | ⟨z1, z2⟩
   ·rcases lC9.mp z with z | z
    ·subst z
     exact .inr ⟨by rw [← beq_iff_eq.mp hk]; exact .head _, rfl⟩
    ·exact .inl z
   ·exact .inr ⟨.tail _ z1, z2⟩
  ·rw [if_neg hk] at h
   rcases Zeo h with z | ⟨z1, z2⟩
   ·exact .inl z
   ·exact .inr ⟨.tail _ z1, z2⟩
theorem ZcK : ∀ {names : List (Str × NK)} {acc : List (Str × Addr)}, (ZN env names acc).map (·.1) = ((names.filter fun x => x.2 == .free).map (·.1)).reverse ++ acc.map (·.1)
 | [], _ => rfl
 | (x, k) :: r, acc => by
  rw [Zgg]
  by_cases hk : (k == NameKind.free) = true
  ·rw [if_pos hk, ZcK, List.filter_cons_of_pos (by exact hk)]
   simp
  ·rw [if_neg hk, ZcK, List.filter_cons_of_neg (by exact hk)]
theorem ZbM (nd : (names.map (·.1)).Nodup) : ((ZN env names []).map (·.1)).Nodup := by
 rw [ZcK, List.map_nil, List.append_nil]
 exact List.pairwise_reverse.mpr ((List.Sublist.nodup (List.Sublist.map _ List.filter_sublist) nd).imp fun h => Ne.symm h)
theorem Zgh : ∀ {names : List (Str × NK)} {acc : List (Str × Addr)}, (x, NameKind.free) ∈ names → (x, (env.cells.lookup x).getD 0) ∈ ZN env names acc
 | (y, k) :: r, acc, h => by
  rw [Zgg]
  have keepacc : ∀ {r : List (Str × NK)} {acc : List (Str × Addr)} {p : Str × Addr}, p ∈ acc → p ∈ ZN env r acc := by
   intro r
   induction r with
   | nil => intro acc p m; exact m
   | cons z r ih =>
    intro acc p m
    obtain ⟨z, k⟩ := z
    rw [Zgg]
    split
    ·exact ih (.tail _ m)
    ·exact ih m
  rcases lC9.mp h with e | h
  ·cases e
   rw [if_pos (by rfl)]
   exact keepacc (.head _)
  ·split
   ·exact Zgh h
   ·exact Zgh h
theorem ZdS (nd : (names.map (·.1)).Nodup) (h : names.lookup x = some .free) (hc : env.cells.lookup x = some c) : (ZN env names []).lookup x = some c := by
 refine Z6 (ZbM nd) ?_
 have := Zgh (env := env) (acc := []) (mem_of_lookup h)
 rwa [hc] at this
theorem Zcn (hs : ∀ x ∈ names, x.2 = .free → (env.cells.lookup x.1).isSome = true) (h : (ZN env names []).lookup x = some c) : (x, NameKind.free) ∈ names ∧ env.cells.lookup x = some c := by
 rcases Zeo (mem_of_lookup h) with z | ⟨z1, z2⟩
 ·cases z
 ·obtain ⟨a, ha⟩ := Option.isSome_iff_exists.mp (hs _ z1 rfl)
  refine ⟨z1, ?_⟩
  dsimp only at z2 ha
  rw [ha] at z2 ⊢
  rw [z2]; rfl
theorem ZdT {f : Str → NK → NK} : ∀ {names : List (Str × NK)}, (names.map fun p => (p.1, f p.1 p.2)).lookup x = (names.lookup x).map (f x)
 | [] => rfl
 | (y, k) :: r => by
  simp only [lM9, List.lookup_cons]
  cases q : x == y with
  | true => rw [beq_iff_eq.mp q]; rfl
  | false => exact ZdT
end
noncomputable def Fm.comp (F : Fm) (sc : Scope) (ns' : List Str) (Ca : Addr) : Fm := ⟨compEnvC sc (ZN F.env sc.names []) Ca F.env, ns', F.fl, [Ca]⟩
structure CapOk (nm : List (Str × NK)) (ns : List Str) (nt : Nat) (cap : List Nat) (ns' : List Str) (sc : Scope) : Prop where
 kind : sc.kind = .function
 nocell : ∀ x ∈ sc.names, x.2 ≠ .cell
 names : (sc.names.map (·.1)).Nodup
 nodup : ns'.Nodup
 len : ns'.length = nt + cap.length
 tg : ∀ x ∈ ns'.take nt, sc.names.lookup x = some .local ∧ (x == dbg) = false
 drop : ns'.drop nt = cap.map fun i => nmE ns i
 caps : ∀ i ∈ cap, i < ns.length ∧ nm.lookup (nmE ns i) = some .cell ∧ sc.names.lookup (nmE ns i) = some .free
 free : ∀ x ∈ sc.names, x.2 = .free → nm.lookup x.1 = some .cell
theorem Zgi (h : Zfg nm ns nt cap ns' sc = true) : CapOk nm ns nt cap ns' sc := by
 simp only [Zfg, bA, beq_iff_eq, decide_eq_true_eq, List.all_eq_true, bne_iff_ne, ne_eq, Bool.or_eq_true, nmk, Bool.not_eq_true'] at h
 refine bc fun no => ?_; obtain ⟨⟨⟨⟨⟨⟨⟨⟨h1, h2⟩, h3⟩, h4⟩, h5⟩, h6⟩, h7⟩, h8⟩, h9⟩ := h; refine no ?_
 exact ⟨h1, fun x m => h2 x m, h3, h4, h5, fun x m => h6 x m, h7, fun i m => ⟨(h8 i m).1.1, (h8 i m).1.2, (h8 i m).2⟩, fun x m e => (h9 x m).resolve_left fun z => z e⟩
section
variable {S : SC} {C : Ze} {n : Nat} {F : Fm} {W W₀ W' : Wd} {ρ : En} {st : St} {A : Ar} {s : Sh} {lo h h' h₁ : Heap} {E : Vl → Sh → Prop}
theorem Zcx (O : FmOk F A n) (sc : Scope) : (relabel sc F.env).names = Z5 F.env.scope.names sc := by
 unfold relabel Z5
 dsimp only
 congr 1
 funext p
 obtain ⟨x, k⟩ := p
 simp only [O.kind, nmk]
 have : (F.env.kindOf x == some NameKind.cell) = (F.env.scope.names.lookup x == some NameKind.cell) := rfl
 rw [this]
 simp
theorem ZbD (O : FmOk F A n) : (relabel sc F.env).names.lookup x = (sc.names.lookup x).map fun k => if (k == .free && nmk F.env.scope.names x .cell) then .cell else k := by
 rw [Zcx O]
 unfold Z5
 have : (sc.names.map fun (p : Str × NK) => (match p with | (n, k) => if (k == .free && nmk F.env.scope.names n .cell) then (n, NameKind.cell) else (n, k))) = sc.names.map fun p => (p.1, (fun x k => if (k == .free && nmk F.env.scope.names x .cell) then NameKind.cell else k) p.1 p.2) := by
  congr 1; funext p; obtain ⟨x, k⟩ := p; dsimp only; split <;> rfl
 rw [this]
 exact ZdT (f := fun x k => if (k == NameKind.free && nmk F.env.scope.names x .cell) then NameKind.cell else k)
theorem ZbN (O : FmOk F A n) (K : CapOk F.env.scope.names ns nt cap ns' sc) : ∀ x ∈ sc.names, x.2 = .free → (F.env.cells.lookup x.1).isSome = true := fun x m e => O.lk x.1 (K.free x m e)
theorem ZoH (O : FmOk F A n) (K : CapOk F.env.scope.names F.ns nt cap ns' sc) (hCa : ∀ x c, F.env.cells.lookup x = some c → c ≠ Ca) : FmOk (F.comp sc ns' Ca) A n := by
 have fs := ZbN O K
 refine ⟨O.room, ?_, O.glob, O.blt, O.frames, O.head, K.nodup, .head _, ?_, fun x c e => ?_, fun x e => ?_⟩
 ·exact K.kind
 ·show (ZN F.env sc.names []).Pairwise _
  have h1 : (ZN F.env sc.names []).Pairwise fun x y => x.1 ≠ y.1 := List.pairwise_map.mp (ZbM K.names)
  refine List.Pairwise.imp_of_mem (fun {x y} mx my ne z => ne ?_) h1
  have gx := Zcn fs (Z6 (ZbM K.names) mx)
  have gy := Zcn fs (Z6 (ZbM K.names) my)
  exact name_of_addr O.apart (mem_of_lookup gx.2) (z ▸ mem_of_lookup gy.2)
 ·exact hCa x c (Zcn fs e).2
 ·show ((ZN F.env sc.names []).lookup x).isSome = true
  have e' : (relabel sc F.env).names.lookup x = some .cell := e
  rw [ZbD O] at e'
  cases q : sc.names.lookup x with
  | none => rw [q] at e'; exact nn e' rfl
  | some k =>
   rw [q] at e'
   simp only [Option.map_some, Option.some.injEq] at e'
   have hkf : k = .free := by
    by_cases hk : (k == NameKind.free && nmk F.env.scope.names x .cell) = true
    ·exact beq_iff_eq.mp (Bool.and_eq_true_iff.mp hk).1
    ·rw [if_neg hk] at e'
     exact absurd e' (K.nocell _ (mem_of_lookup q))
   subst hkf
   obtain ⟨c, hc⟩ := Option.isSome_iff_exists.mp (O.lk x (K.free _ (mem_of_lookup q) rfl))
   rw [ZdS K.names q hc]; rfl
theorem ZeL (I₂ : Inv S W₂ st' h') (e2 : W₂.fr = W.fr ++ as) : ∀ a ∈ as, a ∉ (W₂.back W).own := by
 intro a ha m
 have nd := I₂.nodup
 unfold Wd.own Wd.back at *
 rw [e2, ← List.append_assoc] at nd
 exact (List.nodup_append.mp nd).2.2 a m a ha rfl
theorem Inv.gones (I : Inv S W' st h) (e : W'.fr = W.fr ++ as) (hw : ∀ b ∈ W.fa, b ∈ W.fr) (hb : ∀ a ∈ as, S.h₀.get? a = none) (k : ∀ b o, b ∉ as → h.get? b = some o → h2.get? b = some o) : Inv S (W'.back W) st h2 := by
 have out : ∀ b ∈ (W'.back W).own, b ∉ as := fun b m z => ZeL I e b z m
 have inn : ∀ a ∈ as, a ∈ W'.own := fun a m => lA9.mpr (.inr (by rw [e]; exact lA9.mpr (.inr m)))
 have G : Grow W' (W'.back W) h h2 := ⟨fun b o eb n y => k b o (fun z => n (inn b z)) eb, fun b m => .inl (ZA e b m), [], by simp [Wd.back]⟩
 refine ⟨fun b o eb => k b o (fun z => ?_) (I.base b o eb), I.len, fun l c mo e1 e2 => (I.cells l c mo e1 e2).mono2 G fun b o eb hm => k b o (out b (lA9.mpr (.inl (Z2 (W := W'.back W) e1 b hm)))) eb, (I.leave e hw).nodup, hw, fun b m => ⟨(I.leave e hw).fresh b m |>.1, ?_⟩⟩
 ·rw [hb b z] at eb; cases eb
 ·obtain ⟨o, z⟩ := (I.fresh b (ZA e b m)).2
  exact ⟨o, k b o (out b m) z⟩
theorem ZdU (e : W'.fr = W.fr ++ as) (k : ∀ b o, b ∉ as → h.get? b = some o → h2.get? b = some o) : Grow W' (W'.back W) h h2 :=
 ⟨fun b o eb n y => k b o (fun z => n (lA9.mpr (.inr (by rw [e]; exact lA9.mpr (.inr z))))) eb, fun b m => .inl (ZA e b m), [], by simp [Wd.back]⟩
theorem Step.over (P : Step W (W1.back W) cur h h2) (e : W1.fr = W.fr ++ as) (ea : W1.fa = W.fa) (ha : ∀ a ∈ as, h.get? a = none) (P2 : Step W1 W1 cur h2 h3) : Step W (W1.back W) cur h h3 := by
 refine ⟨P.ext, ⟨fun b o eb n nr => P2.pers.keep b o (P.pers.keep b o eb n nr) (fun z => ?_) nr, fun b o eb => (by obtain ⟨o', z⟩ := P.pers.live b o eb; exact P2.pers.live b o' z), fun b o eb m n => ?_⟩, P.own⟩
 ·have hb : b ∈ (W1.back W).own ∨ b ∈ as := by
   unfold Wd.own Wd.back at *
   rw [e, ← List.append_assoc] at z
   rcases lA9.mp z with z | z
   ·exact .inl z
   ·exact .inr z
  rcases hb with z | z
  ·rcases P.own b z with y | y
   ·exact n y
   ·rw [y] at eb; cases eb
  ·rw [ha b z] at eb; cases eb
 ·obtain ⟨sl, y1, y2⟩ := P.pers.outer b o eb m n
  obtain ⟨sl', z1, z2⟩ := P2.pers.outer b _ y1 (by rw [e]; exact lA9.mpr (.inl m)) n
  exact ⟨sl', z1, fun q => (z2 (by rw [ea]; exact q)).trans (y2 q)⟩
theorem ZhY (O : FmOk F A n) (K : CapOk F.env.scope.names F.ns nt cap ns' sc) (Fi : FI S F W ρ h) (hCa : Ca ∈ W.fr) (hn : h.Ns Ca m) :
 FI S (F.comp sc ns' Ca) W (List.replicate nt none ++ cap.map fun i => ρ[i]?.join) h := by
 have fs := ZbN O K
 refine bc fun no => ?_; obtain ⟨m0, n0, q⟩ := Fi.ns; refine no ?_
 refine ⟨by simp [Fm.comp, K.len], fun a ma => by rw [lS9.mp ma]; exact hCa, fun x c e => Fi.cells x c (Zcn fs e).2, Fi.fl, hCa, m, hn, fun i v e => ?_⟩
 by_cases hi : i < nt
 ·rw [List.getElem?_append_left (by simpa using hi), List.getElem?_replicate_of_lt hi] at e
  cases e
 ·rw [List.getElem?_append_right (by simpa using Nat.le_of_not_lt hi), List.length_replicate, List.getElem?_map] at e
  cases hj : cap[i - nt]? with
  | none => rw [hj] at e; exact nn e rfl
  | some ii =>
   rw [hj] at e
   simp only [Option.map_some, Option.some.injEq] at e
   have e' : ρ[ii]? = some (some v) := by
    cases z : ρ[ii]? with
    | none => rw [z] at e; exact nn e rfl
    | some o => rw [z] at e; simp only [Option.join_some] at e; rw [e]
   refine bc fun no => ?_; obtain ⟨k1, k2, k3⟩ := K.caps ii (List.mem_of_getElem? hj); refine no ?_
   refine bc fun no => ?_; obtain ⟨x, u, x1, x2, x3⟩ := q ii v e'; refine no ?_
   have hx : x = nmE F.ns ii := by
    rw [nmE, List.getD_eq_getElem?_getD, x1]; rfl
   subst hx
   have hk : F.env.kindOf (nmE F.ns ii) = some .cell := k2
   rcases x3 with ⟨z, _⟩ | ⟨_, c, hc, hcell⟩
   ·rw [hk] at z; cases z
   refine ⟨nmE F.ns ii, u, ?_, x2, .inr ⟨?_, c, ZdS K.names k3 hc, hcell⟩⟩
   ·have : (ns'.drop nt)[i - nt]? = (cap.map fun i => nmE F.ns i)[i - nt]? := by rw [K.drop]
    rw [List.getElem?_drop, List.getElem?_map, hj, Nat.add_sub_cancel' (Nat.le_of_not_lt hi)] at this
    exact this
   ·show (relabel sc F.env).names.lookup _ = _
    rw [ZbD O, k3]
    simp [nmk, k2]
theorem ZiV (I : Nat → Sh → Prop)
 (turn : ∀ n s, I n s → wA S.M A (pyNext it) (fun r s₁ => match r with
  | none => R (.ok .next) s₁
  | some v => wA S.M A (letOwnedTupleGo target it v) (fun y s₁ => wA S.M A (assign target env v) (fun y s₂ =>
   wA S.M A (forIn ifs true fun c r => if r = true then do let ok ← isTrue c env (eval c env); pure (ForInStep.yield ok) else pure (ForInStep.yield r)) (fun ok s₃ =>
    if ok = true then wA S.M A (eval elt env) (fun x s₄ =>
     wA S.M A (call (.builtin "list.append") [acc, x]) (fun y s₅ => ∃ m, m < n ∧ I m s₅) (notedBy S.M A env fun e s' => R (.error e) s') s₄) (notedBy S.M A env fun e s' => R (.error e) s') s₃
    else ∃ m, m < n ∧ I m s₃) (notedBy S.M A env fun e s' => R (.error e) s') s₂) (notedBy S.M A env fun e s' => R (.error e) s') s₁) (notedBy S.M A env fun e s' => R (.error e) s') s₁) (notedBy S.M A env fun e s' => R (.error e) s') s)
 (n : Nat) (h : I n s) :
 cA S.M A (.compLoop (.ListComp elt [⟨target, iter, ifs, 0⟩] scope pos) 0 it acc env) R s := by
 refine codeAny_loop rfl I (fun n s hI => ?_) n h
 show wA _ A ((compTurn (.ListComp elt [⟨target, iter, ifs, 0⟩] scope pos) 0 it acc env).onRaise (fun x => do noteFrame x env; theTreesLotGoes x)) _ _ s
 refine wpAny_noted ?_
 rw [compTurn_list]
 refine wB (wS (wB (wM (turn n s hI) (fun r s₁ h₁ => ?_) fun _ _ h' => h')))
 cases r with
 | none => exact wP h₁
 | some v =>
  refine wB (wM h₁ (fun y s₁ h₁ => ?_) fun _ _ h' => h')
  refine wB (wM h₁ (fun y s₂ h₂ => wB (wM h₂ (fun ok s₃ h₃ => ?_) fun _ _ h' => h')) fun _ _ h' => h')
  cases ok with
  | false => exact wP ⟨rfl, h₃⟩
  | true =>
   exact wB (wB (wM h₃ (fun x s₄ h₄ => wB (wM h₄ (fun y s₅ h₅ => wP (wP ⟨rfl, h₅⟩)) fun _ _ h' => h')) fun _ _ h' => h'))
theorem Zmb (O : FmOk F A n) (K : CapOk F.env.scope.names F.ns nt cap ns' sc) (ok : okT nt t = true) :
 Zck (F.comp sc ns' Ca).env.scope.names ns' t = true ∧ ∀ i ∈ Zl8 t, ∀ c, (F.comp sc ns' Ca).env.cells.lookup (nmE ns' i) = some c → (F.comp sc ns' Ca).env.kindOf (nmE ns' i) = some .cell → c ∈ (F.comp sc ns' Ca).cur := by
 have one : ∀ i, i < nt → okL (F.comp sc ns' Ca).env.scope.names ns' i = true ∧ (F.comp sc ns' Ca).env.kindOf (nmE ns' i) = some .local := fun i hi => by
  have hl : i < ns'.length := K.len ▸ Nat.lt_of_lt_of_le hi (Nat.le_add_right nt _)
  have hm : nmE ns' i ∈ ns'.take nt := by
   rw [nmE, List.getD_eq_getElem?_getD, List.getElem?_eq_getElem hl]
   exact List.mem_take_iff_getElem.mpr ⟨i, Nat.lt_min.mpr ⟨hi, hl⟩, rfl⟩
  obtain ⟨k1, k2⟩ := K.tg _ hm
  have hk : (relabel sc F.env).names.lookup (nmE ns' i) = some .local := by rw [ZbD O, k1]; rfl
  refine ⟨?_, hk⟩
  simp only [okL, nmk, bA, decide_eq_true_eq, Bool.not_eq_true', Bool.or_eq_true, beq_iff_eq]
  exact ⟨⟨hl, k2⟩, .inl hk⟩
 cases t with
 | nm i p =>
  simp only [okT, decide_eq_true_eq] at ok
  refine ⟨(one i ok).1, fun j m c y z => ?_⟩
  rw [lS9.mp m, (one i ok).2] at z; cases z
 | two i p1 j p2 p =>
  simp only [okT, bA, decide_eq_true_eq] at ok
  refine ⟨by simp only [Zck, bA]; exact ⟨(one i ok.1.1).1, (one j ok.1.2).1⟩, fun k m c y z => ?_⟩
  rcases lC9.mp m with m | m
  ·rw [m, (one i ok.1.1).2] at z; cases z
  ·rw [lS9.mp m, (one j ok.1.2).2] at z; cases z
theorem Zgj {xs : List PD} {ρ : En} {st : St} (ne : ZT t f c xs ρ st ≠ .no) : ∃ ys st', ZT t f c xs ρ st = .ok ys st' := by
 have x := ZjS (t := t) (f := f) (c := c) xs ρ st
 cases e : ZT t f c xs ρ st with
 | ok ys st' => exact ⟨ys, st', rfl⟩
 | ex _ _ _ => rw [e] at x; exact x.elim
 | no => exact absurd e ne
theorem Zep {f : α → St → RV β} (e : okR r f = .ok y st') : ∃ a st, r = .ok a st ∧ f a st = .ok y st' := by
 cases r with
 | ok a st => exact ⟨a, st, rfl, e⟩
 | _ => cases e
theorem Zqw {f : PD → RV β} (e : dR v f = .ok y st') : ∃ x, v = .d x ∧ f x = .ok y st' := by
 cases v with
 | d x => exact ⟨x, rfl, e⟩
 | _ => cases e
theorem ZiW (e : ZT t f c (x :: r) ρ st = .ok ys st') :
 ∃ ρ', Zag t x ρ = some ρ' ∧ ((∃ st1, c ρ' st = .ok false st1 ∧ ZT t f c r ρ' st1 = .ok ys st') ∨ ∃ st1 y st2 ys', c ρ' st = .ok true st1 ∧ f ρ' st1 = .ok (.d y) st2 ∧ ZT t f c r ρ' st2 = .ok ys' st' ∧ ys = y :: ys') := by
 rw [ZnB] at e
 cases ht : Zag t x ρ with
 | none => rw [ht] at e; cases e
 | some ρ' =>
  rw [ht] at e
  obtain ⟨b, st1, hc, e⟩ := Zep e
  refine ⟨ρ', rfl, ?_⟩
  cases b with
  | false => exact .inl ⟨st1, hc, e⟩
  | true =>
   obtain ⟨v, st2, hf, e⟩ := Zep e
   obtain ⟨y, rfl, e⟩ := Zqw e
   obtain ⟨ys', st3, hr, e⟩ := Zep e
   cases e
   exact .inr ⟨st1, y, st2, ys', hc, hf, hr, rfl⟩
noncomputable def ZcL (S : SC) (C : Ze) (n : Nat) (c : CO) : Prop := ∀ (F : Fm) (A : Ar) (W : Wd) (ρ : En) (st : St) (s : Sh), FmOk F A n → okO F.env.scope.names F.ns c = true → Inv S W st s.heap → FI S F W ρ s.heap → evC C c ρ st ≠ .no →
 wA S.M A (forIn (toO F.ns c).toList true fun c r => if r = true then do let ok ← isTrue c F.env (eval c F.env); pure (ForInStep.yield ok) else pure (ForInStep.yield r)) (QE S F W ρ s VB (evC C c ρ st)) (EE S F W ρ s (evC C c ρ st)) s
theorem ZoI : ZcL S C n .no := by
 intro F A W ρ st s O ok I Fi ne
 exact wpAny_tests_nil (q_same' I Fi rfl)
theorem ZoJ (h : Z9 S C n e) : ZcL S C n (.so e) := by
 intro F A W ρ st s O ok I Fi ne
 exact wpAny_tests_one (h F A W ρ st s O ok I Fi ne)
theorem Zmc (P : Step W W' cur h h') (m : a ∈ W.fr) (nc : a ∉ cur) (nf : a ∉ W.fa) (e : h.get? a = some o) : h'.get? a = some o := by
 obtain ⟨sl, y1, y2⟩ := P.pers.outer a o e m nc
 rw [y1, y2 nf]
theorem ZiX : RV.ok a st ≠ .no := fun z => by cases z
inductive CLI (S : SC) (F : Fm) (W1 : Wd) (cur : List Addr) (h₁ : Heap) (Ia Da : Addr) (fp : List Addr) (Sw : Nat → Heap → Prop) (C : Ze) (t : CT) (f : CE) (c : CO) (xs ys : List PD) (st' : St) (s : Sh) : Nat → Sh → Prop
 | mk {i ρi sti Wi hi tki vals done rest} (hle : i ≤ xs.length) (X : LI S F W1 cur h₁ Ia fp Sw i ρi sti Wi hi) (hpl : hi.PlainList Da vals) (hdr : DRs Wi.own hi vals.toList done) (hdl : done.length ≤ i) (heq : ZT t (ev C f) (evC C c) (xs.drop i) ρi sti = .ok rest st') (hys : ys = done ++ rest) : CLI S F W1 cur h₁ Ia Da fp Sw C t f c xs ys st' s (xs.length + 1 - i) (sh s hi tki)
section
variable {W1 Wi W4 : Wd} {cur : List Addr} {h0 hi h2 h4 : Heap} {Ia Da : Addr} {xs ys : List PD} {fp : List Addr} {Pv : Nat → Vl → Prop} {Sw : Nat → Heap → Prop} {i : Nat} {ρi ρ4 : En} {sti st4 st' : St} {tki : Nat}
theorem ZoK (L : LC S F A n W W1 cur h0 h₁ Ia xs fp Pv Sw) (X : LI S F W1 cur h₁ Ia fp Sw i ρi sti Wi hi) (inD : Da ∈ W1.fr) (cD : Da ∈ cur) (nDI : Da ≠ Ia) (kD : ∀ b o, b ≠ Da → hi.get? b = some o → h4.get? b = some o) (gD : ∃ o, h4.get? Da = some o) (Fi4 : FI S F Wi ρi h4) : LI S F W1 cur h₁ Ia fp Sw i ρi sti Wi h4 := by
 have inW : Da ∈ Wi.fr := X.P.ext.fr ▸ inD
 have nf : ∀ b ∈ fp, b ≠ Da := fun b m z => (X.fp b m).elim (fun y => nDI (z.symm.trans y)) fun y => y.1 (z ▸ lA9.mpr (.inr inW))
 exact ⟨X.P.trans ((Zak inW kD gD).wider fun a m => lS9.mp m ▸ cD), X.I.touch inW kD gD, Fi4, L.T.walk.frame i hi h4 X.sw fun b m o e => kD b o (nf b m) e, fun b m => (X.fp b m).imp id fun w9 => (by obtain ⟨z1, o, z2, z3⟩ := w9; exact ⟨z1, o, kD b o (nf b m) z2, z3⟩)⟩
theorem Zks (hf : Snd S C n f) (hc : ZcL S C n c) (L : LC S F A n W W1 cur h0 h₁ Ia xs fp Pv Sw) (okf : okE F.env.scope.names F.ns f = true) (okc : okO F.env.scope.names F.ns c = true) (okt : Zck F.env.scope.names F.ns t = true)
 (tgc : ∀ i ∈ Zl8 t, ∀ c, F.env.cells.lookup (nmE F.ns i) = some c → F.env.kindOf (nmE F.ns i) = some .cell → c ∈ F.cur) (hl : xs.length ≤ 4096) (inD : Da ∈ W1.fr) (nfD : Da ∉ W1.fa) (ncD : Da ∉ F.cur) (cD : Da ∈ cur) (nDI : Da ≠ Ia)
 (ftD : ∀ {Wi ρi hi h2}, Ext W1 Wi → FI S F Wi ρi hi → (∀ b o, b ≠ Da → hi.get? b = some o → h2.get? b = some o) → FI S F Wi ρi h2)
 (hd : ∀ {ρi Wi hi vals h2 tk2}, LI S F W1 cur h₁ Ia fp Sw xs.length ρi st' Wi hi → hi.PlainList Da vals → DRs Wi.own hi vals.toList ys → (∀ b o, b ≠ Ia → hi.get? b = some o → h2.get? b = some o) → R (.ok .next) (sh s h2 tk2))
 (h : CLI S F W1 cur h₁ Ia Da fp Sw C t f c xs ys st' s k s') :
 cA S.M A (.compLoop (.ListComp (toE F.ns f) [⟨toT F.ns t, it, (toO F.ns c).toList, 0⟩] sc p) 0 (.ref Ia) (.ref Da) F.env) R s' := by
 refine ZiV (CLI S F W1 cur h₁ Ia Da fp Sw C t f c xs ys st' s) (fun k s' z => ?_) _ h
 cases z with
 | @mk i ρi sti Wi hi tki vals done rest hle X hpl hdr hdl heq hys =>
 by_cases hlt : i < xs.length
 ·refine ZhX L X hlt fun v h2 tk2 o2 T2 X2 kI dv g2 c2 t2 => ?_
  have G := ZM (Zfl L X) kI
  have hpl2 : h2.PlainList Da vals := hpl.at fun o e => kI _ o nDI e
  have hdr2 := DRs.mono G.keep G.own hdr
  rw [ZeK hlt] at heq
  obtain ⟨ρ', ht, hcase⟩ := ZiW heq
  refine Zgc (s := sh s h2 tk2) g2 c2 t2 (ZeJ (s := sh s h2 tk2) L.O tgc okt X2.I X2.Fi dv ht fun h3 tk3 P3 I3 Fi3 => ?_)
  have X3 := Za3 L X2 P3 I3 Fi3
  have go : ∀ {Wj W5 : Wd} {hj h5 : Heap}, Ext W1 Wj → hj.PlainList Da vals → Step Wj W5 F.cur hj h5 → h5.PlainList Da vals := fun x pl P => pl.at fun o e => Zmc P (x.fr ▸ inD) ncD (fun m => nfD (x.fa ▸ m)) e
  have hpl3 := go X2.P.ext hpl2 P3
  have hdr3 := DRs.mono P3.grow.keep P3.grow.own hdr2
  rcases hcase with ⟨st1, y1, y2⟩ | ⟨st1, y, st5, ys', y1, y2, y3, y4⟩
  ·refine wM (hc F A Wi ρ' sti (sh s h3 tk3) L.O okc I3 Fi3 (y1 ▸ ZiX)) (fun b s' z => ?_) fun x' s' z => ?_
   ·rw [y1] at z
    obtain ⟨b', st4, W4, e4, h4, tk4, rfl, P4, I4, Fi4, rfl⟩ := z
    cases e4
    exact ⟨xs.length + 1 - (i + 1), Nat.sub_lt_sub_left (Nat.lt_succ_of_lt hlt) (Nat.lt_succ_self i), .mk hlt (Za3 L X3 P4 I4 Fi4) (go X3.P.ext hpl3 P4) (DRs.mono P4.grow.keep P4.grow.own hdr3) (Nat.le_succ_of_le hdl) y2 hys⟩
   ·obtain ⟨_, _, _, _, _, e4, _⟩ := z
    rw [y1] at e4; cases e4
  ·refine wM (hc F A Wi ρ' sti (sh s h3 tk3) L.O okc I3 Fi3 (y1 ▸ ZiX)) (fun b s' z => ?_) fun x' s' z => ?_
   ·rw [y1] at z
    obtain ⟨b', st4, W4, e4, h4, tk4, rfl, P4, I4, Fi4, rfl⟩ := z
    cases e4
    have X4 := Za3 L X3 P4 I4 Fi4
    refine wM (hf F A W4 ρ' _ (sh s h4 tk4) L.O okf I4 Fi4 (y2 ▸ ZiX)) (fun u s' z => ?_) fun x' s' z => ?_
    ·rw [y2] at z
     obtain ⟨v5, st5', W5, e5, h5, tk5, rfl, P5, I5, Fi5, vu⟩ := z
     cases e5
     have X5 := Za3 L X4 P5 I5 Fi5
     have hdr5 := DRs.mono P5.grow.keep P5.grow.own (DRs.mono P4.grow.keep P4.grow.own hdr3)
     refine wpAny_list_append_plain (s := sh s h5 tk5) (go X4.P.ext (go X3.P.ext hpl3 P4) P5) (fun h6 hp6 hs6 => ?_) (by rw [← Array.length_toList, hdr5.length]; exact Nat.le_trans (Nat.le_trans hdl hle) (Nat.le_trans hl sz4))
     have kD : ∀ b o, b ≠ Da → h5.get? b = some o → h6.get? b = some o := fun b o nb e => hs6.extBut b o nb e
     have G6 := ZM (W := W5) (X5.P.ext.fr ▸ inD) kD
     exact ⟨xs.length + 1 - (i + 1), Nat.sub_lt_sub_left (Nat.lt_succ_of_lt hlt) (Nat.lt_succ_self i), .mk (vals := vals.push u) (done := done ++ [y]) hlt (ZoK L X5 inD cD nDI kD ((by obtain ⟨_, z⟩ := hp6; exact ⟨_, z⟩)) (ftD X5.P.ext Fi5 kD)) hp6
      (by rw [Array.toList_push]; exact DRs.append (DRs.mono G6.keep G6.own hdr5) (.cons (DR.grown G6 vu) .nil)) (by rw [List.length_append]; exact Nat.succ_le_succ hdl) y3 (by rw [hys, y4, List.append_assoc]; rfl)⟩
    ·obtain ⟨_, _, _, _, _, e5, _⟩ := z
     rw [y2] at e5; cases e5
   ·obtain ⟨_, _, _, _, _, e4, _⟩ := z
    rw [y1] at e4; cases e4
 ·obtain rfl : i = xs.length := Nat.le_antisymm hle (Nat.le_of_not_lt hlt)
  rw [List.drop_of_length_le (Nat.le_refl _)] at heq
  cases heq
  rw [List.append_nil] at hys
  cases hys
  exact L.T.walk.done (sh s hi tki) _ _ X.sw fun h2 tk2 k2 => hd X hpl hdr (fun b o nb e => k2 b o (fun m => nb (lS9.mp m)) e)
end
theorem Zmd (hf : Snd S C n f) (hc : ZcL S C n c) (O : FmOk F A n) (K : CapOk F.env.scope.names F.ns nt cap ns' sc)
 (okf : okE (Z5 F.env.scope.names sc) ns' f = true) (okc : okO (Z5 F.env.scope.names sc) ns' c = true) (okt : okT nt t = true) (I : Inv S W st s.heap) (Fi : FI S F W ρ s.heap) (hl : xs.length ≤ 4096)
 (ne : ZT t (ev C f) (evC C c) xs (List.replicate nt none ++ cap.map fun i => ρ[i]?.join) st = .ok ys st') {RR : Vl → Addr → Result → Sh → Prop}
 (q : ∀ Ca Da h2 tk W1 m, s.heap.get? Ca = none → W1.fr = W.fr ++ [Ca] → W1.fa = W.fa → Step W (W1.back W) F.cur s.heap h2 → Inv S W1 st' h2 → FI S F W1 ρ h2 → DR W1.own h2 (.ref Da) (.list ys) → h2.Ns Ca m → RR (.ref Da) Ca (.ok .next) (sh s h2 tk))
 {Pv : Nat → Vl → Prop} {Sw : Nat → Heap → Prop} {m0 : Str → Option Vl} (T : Itr S A W s.heap Ia xs fp Pv Sw) (st₁ : Sw 0 h₁) (dI : s.heap.get? Ia = none) (dD : s.heap.get? Da = none) (dC : s.heap.get? Ca = none) (old : ∀ b o, s.heap.get? b = some o → h₁.get? b = some o)
 (gI : ∃ o, h₁.get? Ia = some o) (gD : h₁.PlainList Da #[]) (hns : h₁.Ns Ca m0) (nDI : Da ≠ Ia) (nCI : Ca ≠ Ia) (nCD : Ca ≠ Da) {tk0 : Nat} :
 cA S.M A (.compLoop (.ListComp (toE ns' f) [⟨toT ns' t, toS F.ns src, (toO ns' c).toList, 0⟩] sc p) 0 (.ref Ia) (.ref Da) (F.comp sc ns' Ca).env) (RR (.ref Da) Ca) (sh s h₁ tk0) := by
 have pd : ∀ a ∈ [Ca, Ia, Da], s.heap.get? a = none := fun a m => by
  cases m with
  | head => exact dC
  | tail _ m => cases m with
   | head => exact dI
   | tail _ m => exact lS9.mp m ▸ dD
 have notin : ∀ a ∈ [Ca, Ia, Da], a ∉ W.own := fun a m z => by
  obtain ⟨o, e⟩ := (I.fresh a z).2
  exact nn e (pd a m)
 have I₁ : Inv S (W.put [Ca, Ia, Da]) st h₁ := I.enter old pd (fun a m => by
  cases m with
  | head => exact (by obtain ⟨o, _, _, ho, _⟩ := hns; exact ⟨o, ho⟩)
  | tail _ m => cases m with
   | head => exact gI
   | tail _ m => exact lS9.mp m ▸ (by obtain ⟨_, z⟩ := gD; exact ⟨_, z⟩)) (by simp [nCI, nCD, Ne.symm nDI]) (fun u m => nomatch m)
 have Fi₁ : FI S F (W.put [Ca, Ia, Da]) ρ h₁ := Fi.put (fs := []) old pd
 have FiC : FI S F (W.put [Ca]) ρ h₁ := Fi.put (fs := []) old (fun a m => lS9.mp m ▸ dC)
 have O' := ZoH (Ca := Ca) O K fun x c e z => notin Ca (.head _) (lA9.mpr (.inr (z ▸ (Fi.cells x c e).1)))
 have okt' := Zmb O K (Ca := Ca) okt
 have nmF : (F.comp sc ns' Ca).env.scope.names = Z5 F.env.scope.names sc := Zcx O sc
 have Fic := ZhY (Ca := Ca) O K FiC (lA9.mpr (.inr (.head _))) hns
 have inC : ∀ a, a ∈ [Ca, Ia, Da] → a ∈ (W.put [Ca, Ia, Da]).fr := fun a m => lA9.mpr (.inr m)
 have frC : ∀ b ∈ (W.put [Ca]).fr, b ≠ Ia ∧ b ≠ Da := fun b m => (lA9.mp m).elim (fun m => ⟨fun z => notin Ia (.tail _ (.head _)) (lA9.mpr (.inr (z ▸ m))), fun z => notin Da (.tail _ (.tail _ (.head _))) (lA9.mpr (.inr (z ▸ m)))⟩) fun m => lS9.mp m ▸ ⟨nCI, nCD⟩
 have frs : ∀ {W₂ : Wd}, Ext (W.put [Ca, Ia, Da]) W₂ → ∀ a ∈ (W.put [Ca]).fr, a ∈ W₂.fr := fun x a m => x.fr ▸ (lA9.mp m).elim (fun m => lA9.mpr (.inl m)) fun m => inC a (lS9.mp m ▸ .head _)
 have ft : ∀ a ∈ [Ca, Ia, Da], (∀ b ∈ (W.put [Ca]).fr, b ≠ a) → ∀ {Wi ρi hi h2}, Ext (W.put [Ca, Ia, Da]) Wi → FI S (F.comp sc ns' Ca) Wi ρi hi → (∀ b o, b ≠ a → hi.get? b = some o → h2.get? b = some o) → FI S (F.comp sc ns' Ca) Wi ρi h2 := fun a ma na Wi ρi hi h2 x Fii kI =>
  Fii.leave Fic (ZM (x.fr ▸ inC a ma) kI) (frs x) (fun a m => x.fa ▸ m) fun b o e m => ⟨o.slots, kI b o (na b m) e⟩
 have nfa : ∀ a ∈ [Ca, Ia, Da], a ∉ (W.put [Ca, Ia, Da]).fa := fun a m z => notin a m (lA9.mpr (.inr (I.faf a (ZdR (W := W) (as := [Ca, Ia, Da]) ▸ z))))
 have mI : Ia ∈ [Ca, Ia, Da] := .tail _ (.head _)
 have mD : Da ∈ [Ca, Ia, Da] := .tail _ (.tail _ (.head _))
 have L : LC S (F.comp sc ns' Ca) A n W (W.put [Ca, Ia, Da]) [Ca, Ia, Da] s.heap h₁ Ia xs fp Pv Sw := ⟨T, O', inC _ mI, nfa _ mI, fun m => nCI (lS9.mp m).symm, fun a m => lS9.mp m ▸ .head _, mI, ft Ia mI (fun b m => (frC b m).1), fun d => DR.grown (Zbx (W := W) (fs := []) old pd) d⟩
 refine Zks (F := F.comp sc ns' Ca) hf hc L (nmF ▸ okf) (nmF ▸ okc) okt'.1 okt'.2 hl (inC _ mD) (nfa _ mD) (fun m => nCD (lS9.mp m).symm) mD nDI (ft Da mD (fun b m => (frC b m).2)) (fun {ρi Wi hi vals h2 tk2} X hpl hdr kI => ?_)
  (.mk (i := 0) (vals := #[]) (done := []) (Nat.zero_le _) ⟨.refl, I₁, ZhY O K Fi₁ (inC _ (.head _)) hns, st₁, fun b m => (T.fp b m).imp id fun w9 => (by obtain ⟨z1, o, z2, z3⟩ := w9; exact ⟨fun y => (Zbr.mp y).elim z1 fun y => nn z2 (pd b y), o, old b o z2, z3⟩)⟩ gD .nil (Nat.le_refl _) ne rfl)
 have kID : ∀ b o, b ∉ [Ia, Da] → hi.get? b = some o → h2.get? b = some o := fun b o nb e => kI b o (fun z => nb (z ▸ .head _)) e
 have e3 : Wi.fr = W.fr ++ [Ca, Ia, Da] := X.P.ext.fr
 have e2 : Wi.fr = (W.put [Ca]).fr ++ [Ia, Da] := e3.trans (List.append_assoc W.fr [Ca] [Ia, Da]).symm
 have G2 := ZdU (W := W.put [Ca]) e2 kID
 have P' : Step W (Wi.back W) F.cur s.heap hi := Step.inner (as := [Ca, Ia, Da]) (fs := []) old pd (fun u m => nomatch m) (X.P.wider fun a m => lA9.mpr (.inl m)) rfl rfl ⟨[], by simp [Wd.back]⟩ (ZA e3)
 have P2' : Step W (Wi.back W) F.cur s.heap h2 := P'.gone dI kI
 obtain ⟨mm, nc, _⟩ := X.Fi.ns
 refine q Ca Da h2 tk2 (Wi.back (W.put [Ca])) mm dC rfl (ZdR (W := W) (as := [Ca])) P2' (X.I.gones e2 (fun a m => lA9.mpr (.inl (I.faf a (ZdR (W := W) (as := [Ca]) ▸ m)))) (fun a m => I.base_dead (pd a (.tail _ m))) kID) ?_ ?_ ?_
 ·refine Fi.leave Fi ⟨P2'.pers.keep, fun a m => ?_, P2'.ext.cs⟩ (fun a m => lA9.mpr (.inl m)) (fun a m => lA9.mpr (.inl m)) fun b o e m => ?_
  ·have : a ∈ (Wi.back W).own ∨ a ∈ [Ca] := (lA9.mp m).elim (fun m => .inl (lA9.mpr (.inl m))) fun m => (lA9.mp m).imp (fun m => lA9.mpr (.inr m)) id
   exact this.elim (P2'.own a) fun z => .inr (lS9.mp z ▸ dC)
  ·have nb : b ∉ [Ca, Ia, Da] := fun z => notin b z (lA9.mpr (.inr m))
   obtain ⟨sl, y1, _⟩ := X.P.pers.outer b o (old b o e) (lA9.mpr (.inl m)) nb
   exact ⟨sl, kI _ _ (fun z => nb (z ▸ mI)) y1⟩
 ·obtain ⟨nn', z⟩ := hpl
  exact .list (fun m => ZeL X.I e2 Da (.tail _ (.head _)) m) (kI _ _ nDI z) (DRs.mono G2.keep G2.own hdr)
 ·exact nc.at' fun o e => kI _ o nCI e
theorem ZeM (hf : Snd S C n f) (hc : ZcL S C n c) (O : FmOk F A n) (K : CapOk F.env.scope.names F.ns nt cap ns' sc)
 (okf : okE (Z5 F.env.scope.names sc) ns' f = true) (okc : okO (Z5 F.env.scope.names sc) ns' c = true) (okt : okT nt t = true) (I : Inv S W st s.heap) (Fi : FI S F W ρ s.heap) (vi : VI W s.heap x xs) (hl : xs.length ≤ 4096)
 {st' : St} (ne : ZT t (ev C f) (evC C c) xs (List.replicate nt none ++ cap.map fun i => ρ[i]?.join) st = .ok ys st') {RR : Vl → Addr → Result → Sh → Prop}
 (q : ∀ Ca Da h2 tk W1 m, s.heap.get? Ca = none → W1.fr = W.fr ++ [Ca] → W1.fa = W.fa → Step W (W1.back W) F.cur s.heap h2 → Inv S W1 st' h2 → FI S F W1 ρ h2 → DR W1.own h2 (.ref Da) (.list ys) → h2.Ns Ca m → RR (.ref Da) Ca (.ok .next) (sh s h2 tk)) :
 wA S.M A (pyIter x) (fun it s₂ => wA S.M A (newList []) (fun acc s₃ => wA S.M A (newFunctionEnv sc F.env.globals (ZN F.env sc.names []) [] F.env.qual none .none (some F.env)) (fun cenv s₄ =>
  cA S.M A (.compStart (.ListComp (toE ns' f) [⟨toT ns' t, toS F.ns src, (toO ns' c).toList, 0⟩] sc p) 0 it acc { cenv with scope := relabel sc F.env }) (RR acc cenv.locals) s₄) E s₃) E s₂) E s := by
 refine Zgb O.room I vi fun oI fp P Sw T s0 fI => ?_
 refine wpAny_newObj_type (wpAny_newFunctionEnv K.nocell (fun y hy => nomatch hy) (fun h₁ hns hsb => ?_) K.kind)
 dsimp only at hns hsb ⊢
 generalize hH2 : (s.heap.push oI).push { cls := .type "list", dict := none, data := .seq ([] : List Vl).toArray } = H2 at hns hsb ⊢
 have z1 : (s.heap.push oI).objs.size = s.heap.objs.size + 1 := Heap.size_push ..
 have z2 : H2.objs.size = s.heap.objs.size + 2 := by rw [← hH2, Heap.size_push, z1]
 have k12 : ∀ b o, b < H2.objs.size → H2.get? b = some o → h₁.get? b = some o := fun b o nb e => hsb.extBut b o (Nat.ne_of_lt nb) (Heap.get?_push_of_some _ e)
 have old1 : ∀ b o, (s.heap.push oI).get? b = some o → h₁.get? b = some o := fun b o e => k12 b o (by rw [z2]; exact Nat.lt_succ_of_lt (z1 ▸ Heap.lt_size e)) (hH2 ▸ Heap.get?_push_of_some _ e)
 have dead : ∀ a, s.heap.objs.size ≤ a → s.heap.get? a = none := fun a ha => Heap.get?_none_of_le ha
 have nCI : H2.objs.size ≠ s.heap.objs.size := fun e => absurd (z2.symm.trans e) (Nat.ne_of_gt (Nat.lt_add_of_pos_right (Nat.succ_pos 1)))
 have nCD : H2.objs.size ≠ (s.heap.push oI).objs.size := fun e => Nat.succ_ne_self _ (z2.symm.trans (e.trans z1))
 have loop := fun tk0 => Zmd (src := src) (p := p) (tk0 := tk0) hf hc O K okf okc okt I Fi hl ne q T (T.walk.frame _ _ _ s0 fun b z o e => old1 b o e) (dead _ (Nat.le_refl _)) (dead _ (z1 ▸ Nat.le_succ _)) (dead _ (z2 ▸ Nat.le_add_right _ 2)) (fun b o e => old1 b o (Zd b o e)) ⟨_, old1 _ _ (Heap.get?_push_size _ fI)⟩
  ⟨_, k12 _ _ (by rw [z1, z2]; exact Nat.lt_succ_self _) (hH2 ▸ Heap.get?_push_size _ rfl)⟩ hns (by rw [z1]; exact Nat.succ_ne_self _) nCI nCD
 exact codeAny_compStart_list (loop _) (T.walk.self 0 _ _ _ (T.walk.frame _ _ _ s0 fun b z o e => old1 b o e) (loop _))
end
section
variable {S : SC} {C : Ze} {n : Nat} {F : Fm} {W W₀ W' : Wd} {ρ : En} {st : St} {A : Ar} {s : Sh} {lo h h' h₁ : Heap} {E : Vl → Sh → Prop}
theorem ZeN {sc : Scope} (nd : (sc.names.map (·.1)).Nodup) : ∀ x ∈ sc.names, x.2 = .local → sc.names.lookup x.1 = some .local := fun x m e => by
 obtain ⟨a, b⟩ := x
 dsimp only at e ⊢
 subst e
 exact Z6 nd m
theorem Zgk (I1 : Inv S W1 st1 h1) (Fi1 : FI S F W1 ρ h1) (dC : h1.get? Ca = none) (efr : W2.fr = W1.fr ++ [Ca]) (efa : W2.fa = W1.fa) (P2 : Step W1 (W2.back W1) F.cur h1 h2) (I2 : Inv S W2 st2 h2) (Fi2 : FI S F W2 ρ2 h2)
 (hs : Heap.SameBut Ca h2 h3) : Step W1 (W2.back W1) F.cur h1 h3 ∧ Inv S (W2.back W1) st2 h3 ∧ FI S F (W2.back W1) ρ2 h3 ∧ Grow W2 (W2.back W1) h2 h3 := by
 have k : ∀ b o, b ≠ Ca → h2.get? b = some o → h3.get? b = some o := fun b o nb e => hs.extBut b o nb e
 have G : Grow W2 (W2.back W1) h2 h3 := ZdU efr fun b o nb e => k b o (fun z => nb (z ▸ .head _)) e
 refine ⟨P2.gone dC k, I2.gone efr I1.faf (I1.base_dead dC) k, Fi2.leave Fi1 G (fun u m => m) (fun u m => m) fun b o e m => ⟨o.slots, k b o (fun z => ?_) e⟩, G⟩
 obtain ⟨o', y⟩ := (I1.fresh b (lA9.mpr (.inr m))).2
 rw [z, dC] at y; cases y
theorem Zme {f : CE} (hf : Snd S C n f) (hc : ZcL S C n c) (hs : Zen S C n src) : Snd S C n (.comp f t src c nt cap ns' sc p) := by
 intro F A W ρ st s O ok I Fi ne
 have ok := ba5 ok
 refine bc fun no => ?_; obtain ⟨⟨⟨⟨oks, okf⟩, okc⟩, okt⟩, okp⟩ := ok; refine no ?_
 have K := Zgi okp
 simp only [ZhF] at ne ⊢
 show wA _ _ (eval (.ListComp (toE ns' f) [⟨toT ns' t, toS F.ns src, (toO ns' c).toList, 0⟩] sc p) F.env) _ _ _
 rw [eval_ListComp]
 refine wpAny_comprehension_free (use := none) rfl (fun x => Zge oks) (Zdf (ZbN O K)) K.kind (ZeN K.names) ?_
 refine wM (hs F A W ρ st s O oks I Fi (Zh ne)) (fun x s1 z => ?_) fun x s1 z => z.left
 refine bc fun no => ?_; obtain ⟨xs, st1, W1, e1, h1, tk1, rfl, P1, I1, Fi1, vi⟩ := z; refine no ?_
 have ne2 := Zf ne e1
 refine bc fun no => ?_; obtain ⟨ys, st2, e2⟩ := Zgj (Zh ne2); refine no ?_
 refine ZeM (s := sh s h1 tk1) hf hc O K okf okc okt I1 Fi1 vi (Zgf e1) e2 fun Ca Da h2 tk2 W2 m dC efr efa P2 I2 Fi2 dv hns => ?_
 refine ⟨m, hns, fun h3 hs3 => ?_⟩
 refine bc fun no => ?_; obtain ⟨y1, y2, y3, y4⟩ := Zgk I1 Fi1 dC efr efa P2 I2 Fi2 hs3; refine no ?_
 refine ⟨.d (.list ys), st2, W2.back W1, ?_, h3, tk2, rfl, P1.trans y1, y2, y3, DR.grown y4 dv⟩
 rw [e1]
 simp only [RV.bind]
 rw [e2]
theorem Zhx {i : Nat} (hf : Snd S C n f) (hc : ZcL S C n c) (hs : Zen S C n src) : Zad S C n (.asg (.nm i p1) (.comp f t src c nt cap ns' sc p) p0) := by
 intro F A W ρ st s O fn ok I Fi ne
 obtain ⟨ok, k⟩ := Bool.and_eq_true_iff.mp ok
 obtain ⟨k, k3⟩ := Bool.and_eq_true_iff.mp k
 obtain ⟨k1, k2⟩ := Bool.and_eq_true_iff.mp k
 have k3 := (Bool.not_eq_true' _).mp k3
 obtain ⟨oki, ok⟩ := Bool.and_eq_true_iff.mp ok
 obtain ⟨ok, okp⟩ := Bool.and_eq_true_iff.mp ok
 obtain ⟨ok, okt⟩ := Bool.and_eq_true_iff.mp ok
 obtain ⟨ok, okc⟩ := Bool.and_eq_true_iff.mp ok
 obtain ⟨oks, okf⟩ := Bool.and_eq_true_iff.mp ok
 have K := Zgi okp
 have kl : F.env.kindOf (nmE F.ns i) = some .local := beq_iff_eq.mp k1
 rw [Zeb, ZhF] at ne ⊢
 rw [Zek]
 have hsw : swapsWith (.ListComp (toE ns' f) [⟨toT ns' t, toS F.ns src, (toO ns' c).toList, 0⟩] sc p) (some (.Name (nmE F.ns i) p1)) p0.line F.env = pure true := by
  show (pure (F.env.blockKind == .function && F.env.kindOf (nmE F.ns i) == some .local && p1.line == p.line && !(sc.names.any fun (n, k) => n == nmE F.ns i && (k == .local || k == .cell))) : Sem Bool) = pure true
  rw [kl, k2, k3]
  simp [Env.blockKind, O.kind]
 show wA _ _ (exec (.Assign [.Name (nmE F.ns i) p1] (.ListComp (toE ns' f) [⟨toT ns' t, toS F.ns src, (toO ns' c).toList, 0⟩] sc p) p0) F.env) _ _ _
 rw [exec_Assign_Name_used _ _ _ _ hsw]
 refine wB (wS (wB ?_))
 have ne1 : (evS C src ρ st).bind (fun xs st => (ZT t (ev C f) (evC C c) xs (List.replicate nt none ++ cap.map fun i => ρ[i]?.join) st).bind fun ys st => .ok (.d (.list ys)) st) ≠ (.no : RV MV) := ZI ne
 show wA _ A (do let _ ← comprehension (.ListComp (toE ns' f) [⟨toT ns' t, toS F.ns src, (toO ns' c).toList, 0⟩] sc p) sc F.env _ (newList []) false (eval (toS F.ns src) F.env) (some (assign (.Name (nmE F.ns i) p1) F.env))) _ _ s
 refine wB (wM (wpAny_comprehension_free (use := some (assign (.Name (nmE F.ns i) p1) F.env)) (Q := fun _ s' => QX S F W s (onR ρ ((evS C src ρ st).bind fun xs st => (ZT t (ev C f) (evC C c) xs (List.replicate nt none ++ cap.map fun i => ρ[i]?.join) st).bind fun ys st => .ok (.d (.list ys)) st) fun x st => .nx (ρ.set i (some x)) st) .next s') rfl (fun x => Zge oks) (Zdf (ZbN O K)) K.kind (ZeN K.names)
  (wM (hs F A W ρ st s O oks I Fi (Zh ne1)) (fun x s1 z => ?_) fun x s1 z => ?_)) (fun _ s' hq => wP (wP hq)) fun u u e => e)
 ·refine bc fun no => ?_; obtain ⟨xs, st1, W1, e1, h1, tk1, rfl, P1, I1, Fi1, vi⟩ := z; refine no ?_
  have ne2 := Zf ne1 e1
  refine bc fun no => ?_; obtain ⟨ys, st2, e2⟩ := Zgj (Zh ne2); refine no ?_
  refine ZeM (s := sh s h1 tk1) hf hc O K okf okc okt I1 Fi1 vi (Zgf e1) e2 fun Ca Da h2 tk2 W2 m dC efr efa P2 I2 Fi2 dv hns => ?_
  show wA _ A (assign (.Name (nmE F.ns i) p1) F.env (.ref Da)) _ _ _
  refine Zap (s := sh s h2 tk2) O (fun c hc u => fn _ c hc) oki I2 Fi2 (v := .d (.list ys)) dv fun h3 tk3 P3 I3 Fi3 => ?_
  have dCf : ∀ b ∈ W1.fr, b ≠ Ca := fun b m z => by
   refine bc fun no => ?_; obtain ⟨o', y⟩ := (I1.fresh b (lA9.mpr (.inr m))).2; refine no ?_
   rw [z, dC] at y; cases y
  refine ⟨m, Zce (fun o e => ?_) hns, fun h4 hs4 => ?_⟩
  ·obtain ⟨sl, y, _⟩ := P3.pers.outer Ca o e (by rw [efr]; exact lA9.mpr (.inr (.head _))) fun z => dCf Ca (Fi1.cur Ca z) rfl
   exact ⟨sl, y⟩
  ·obtain ⟨y1, y2, y3, y4⟩ := Zgk (st1 := st1) I1 Fi1 dC efr efa (P2.over efr efa (fun a m => by rw [lS9.mp m]; exact dC) P3) I3 Fi3 hs4
   refine ⟨st2, W2.back W1, h4, tk3, rfl, P1.trans y1, y2, .inl ⟨_, ?_, rfl, y3⟩⟩
   rw [e1]
   simp only [RV.bind]
   rw [e2]
   rfl
 ·refine bc fun no => ?_; obtain ⟨c', fs, st', W', a, e1, rfl, h', tk, rfl, P, I', Fi', X⟩ := z; refine no ?_
  exact ⟨c', fs, ρ, st', W', a, by rw [e1]; rfl, rfl, h', tk, rfl, P, I', Fi', X⟩
end
structure Exm (S : SC) : Prop where
 isa : ∀ c k, k ≤ 4 → exmOne S.K (.ref (S.ca c)) (.ref (S.ca k)) = some (Zah c k)
noncomputable def ZcM (S : SC) : Prop := ∀ (A : Ar) (W : Wd) (lo : Heap) (c : Nat) (fs : List (Nat × PD)) (e : Addr) (s : Sh) (vs : Array Vl) (a : Nat) (y : PD) (Q E : Vl → Sh → Prop), (∀ b o, S.h₀.get? b = some o → s.heap.get? b = some o) → XO S W lo c fs e s.heap vs → c ≤ 4 → a = 16 → Zav a fs = some y →
 (∀ u tk, DR W.own s.heap u y → Q u { s with toks := tk }) → wA S.M A (getAttr (.ref e) (An a) true) Q E s
section
variable {S : SC} {C : Ze} {n : Nat} {F : Fm} {W W₀ W' : Wd} {ρ : En} {st : St} {A A' : Ar} {s : Sh} {lo h h' h₁ : Heap} {E : Vl → Sh → Prop}
theorem Zgl (O : FmOk F A n) (G : Ground S) (I : Inv S W st s.heap) (hc : c ≤ 4) (ok : okG F.env.scope.names (Cn c) = true) (q : Q (.ref (S.ca c)) s) : wA S.M A' (eval (.Name (Cn c) p) F.env) Q E s := by
 refine bc fun no => ?_; obtain ⟨mg, mb, g1, g2, g3, g4, g5, g6⟩ := G.glob; refine no ?_
 simp only [okG, nmk, bA, beq_iff_eq, Bool.not_eq_true'] at ok
 exact Name_function_global O.kind ok.1 (loadGlobal_global (env := F.env) (by rw [O.glob]; exact g1.keeps I.base) (g5 c hc) q) ok.2
theorem ZoL (G : Ground S) (X : Exm S) (I : Inv S W st s.heap) (hk : k ≤ 4) (x : XO S W lo c fs e s.heap vs) (q : Q (Zah c k) s) : wA S.M A' (excMatches (.ref e) (.ref (S.ca k))) Q E s := by
 refine bc fun no => ?_; obtain ⟨oe, D, kvs, a1, a2, _⟩ := x.obj; refine no ?_
 have LT : Looks S.M s.heap (typeOf (.ref e)) (.ref (S.ca c)) := a2 ▸ (Looks.ld a1).andThen .now
 exact (exm_one (G.X.keeps I.base) LT (X.isa c k hk)).here q
theorem Zgm {c : Cst} (q : ∀ u tk, (∀ (own : List Addr) (h : Heap), DR own h u c.d) → Q u { s with toks := tk }) : wA M A' (eval (.Constant c.c 0 p) env) Q E s := by
 cases c with
 | none => exact wpAny_Constant_none (q .none s.toks fun y y => .none)
 | bool b => exact wpAny_Constant_bool (q (.bool b) s.toks fun y y => .bool b)
 | int i => exact wpAny_Constant_int (q _ _ fun y y => .int i _)
 | str x => exact wpAny_Constant_str (q _ _ fun y y => .str x _)
theorem ZoM {c : Cst} (q : ∀ u tk, (∀ (own : List Addr) (h : Heap), DR own h u c.d) → Q (.ret u) { s with toks := tk }) : wA S.M A' (execs [.Return (some (.Constant c.c 0 p)) pr] F.env) Q E s :=
 wB (m := exec (.Return (some (.Constant c.c 0 p)) pr) F.env) (wB (m := standAt pr) (wS (wB (m := eval (.Constant c.c 0 p) F.env) (Zgm fun u tk h => wP (wP (q u tk h))))))
theorem sub_le (h : Zah c k = true) (hk : k ≤ 4) : c ≤ 4 := by
 rcases Bool.or_eq_true_iff.mp h with h | h
 ·exact eq_of_beq h ▸ hk
 ·exact of_decide_eq_true (Bool.and_eq_true_iff.mp h).2
theorem XO.touch (x : XO S W lo c fs e h vs) (k : ∀ b o, b ∉ W.own → h.get? b = some o → h'.get? b = some o) : XO S W lo c fs e h' vs := by
 refine bc fun no => ?_; obtain ⟨⟨oe', D, kvs, a1, a2, a3, a4, a5, a6, a7, a8⟩, b, c, d⟩ := x; refine no ?_
 exact ⟨⟨oe', D, kvs, k _ _ d a1, a2, a3, a4, ZJ (fun o z nr => k D o a8 z) a5, a6.imp fun y y z => ⟨z.1, DR.mono (fun b o e n y => k b o n e) (fun y m => .inl m) z.2⟩, a7, a8⟩, b, c, d⟩
theorem ZiY (hL : F.env.frame = some L) (x : XO S W lo c fs e s.heap vs) (t : TBx W lo fl e s.heap vs)
 (q : ∀ h', RC W lo s.heap h' → XS S W lo F.env.frame c fs e h' → E (.ref e) { s with heap := h' }) :
 wA S.M A (PySem.passOn what (.ref e) F.env : Sem α) Q E s := by
 refine bc fun no => ?_; obtain ⟨oe, D, kvs, a1, a2, a3, a4, a5, a6, a7, a8⟩ := id x.obj; refine no ?_
 refine bc fun no => ?_; obtain ⟨T, oT, ts, t1, t2, t3, t4, t5, t6, t7⟩ := id t; refine no ?_
 unfold PySem.passOn
 refine wB (wpAny_field a1 a4 t1 ?_)
 rw [if_neg (show ¬ (Value.ref T == Value.none) = true from by simp)]
 refine wB ?_
 refine Zac (fr := F.env.frame) x t fun h₂ r₂ x₂ t₂ => ?_
 exact wpAny_throw (q h₂ r₂ ⟨vs, x₂, .inr (t₂.tb (.inr ⟨L, hL, hL ▸ rfl⟩))⟩)
theorem Zkt (XA : ZcM S) (O : FmOk F A n) {cc : Cst} (base : ∀ b o, S.h₀.get? b = some o → s.heap.get? b = some o)
 (x : XO S W lo c fs e s.heap vs) (hc : c ≤ 4) (ha : a = 16) (hy : Zav a fs = some y) (kl : F.env.kindOf (nmE F.ns i) = some .local) (okl : okL F.env.scope.names F.ns i = true) (ok : nmE F.ns i = sO "stop") (N : s.heap.Ns F.env.locals m) (hm : m (nmE F.ns i) = some (.ref e))
 (q : ∀ u1 u2 tk, (∀ (own : List Addr) (h : Heap), DR own h u1 cc.d) → DR W.own s.heap u2 y → Q (.ret (.ref s.heap.objs.size)) { s with heap := s.heap.push { cls := .type "tuple", data := .seq [u1, u2].toArray }, toks := tk }) :
 wA S.M A' (exec (.Return (some (.Tuple [.Constant cc.c 0 p1, .Attribute (.Name (sO "stop") p2) (An a) p3] 0 p4)) pr) F.env) Q E s := by
 refine wB (m := standAt pr) (wS (wB (m := eval _ F.env) (wpAny_Tuple (wpAny_items_cons (Zgm fun u1 tk1 hu1 => wpAny_items_cons ?_)))))
 refine wB (m := attributeBase _ _ F.env _) (ok ▸ wpAny_Name (wpAny_loadName_local O.kind kl N hm ?_) (Zb5 okl).2.1 : wA _ _ (eval (.Name (sO "stop") p2) F.env) _ _ _)
 refine wB (wS (wB (wH (XA _ W lo c fs e _ vs a y _ _ base x hc ha hy fun u2 tk2 hu2 => ?_))))
 exact wB (wpAny_letTemporaryGo (wP (wpAny_items_nil ⟨(by decide : 2 ≤ 16777216), wP (q u1 u2 tk2 hu1 hu2)⟩)))
theorem Zku (G : Ground S) (X : Exm S) (XA : ZcM S) (O : FmOk F A n) (hb : ∀ b o, S.h₀.get? b = some o → lo.get? b = some o) {k : Nat}
 (ok : okH F.env.scope.names F.ns (k, p, as, r, pr, ph) = true) (P : Step W₀ W F.cur lo s.heap) (I : Inv S W st s.heap) (Fi : FI S F W ρ s.heap) (x : XO S W lo c fs e s.heap vs) (t : TBx W lo .none e s.heap vs) (ne : Zah c k = true → Zff fs r ≠ none)
 (qr : ∀ v u h4 tk4, Zah c k = true → Zff fs r = some v → Step W₀ W F.cur lo h4 → Inv S W st h4 → VR S W h4 u v → Q (.ret u) (sh s h4 tk4)) (qn : Zah c k = false → wA S.M A (handleBy (.ref e) F.env R) Q E s) :
 wA S.M A (handleBy (.ref e) F.env (toH F.ns (k, p, as, r, pr, ph) :: R)) Q E s := by
 obtain ⟨ok1, okr⟩ := Bool.and_eq_true_iff.mp ok
 obtain ⟨hk, okn⟩ := Bool.and_eq_true_iff.mp ok1
 have hk := of_decide_eq_true hk
 refine wpAny_handleBy_cons (codeAny_handlers_test (Zgl O G I hk okn (ZoL G X I hk x ?_))) (fun q => nomatch q)
 cases hh : Zah c k with
 | false => exact qn hh
 | true =>
 cases as with
 | none =>
  cases r with
  | two => exact nf okr rfl
  | cst cc pc => exact codeAny_handlers_suite (Zac (fr := none) x t fun h2 r2 x2 t2 => ZoM fun u tk hu => qr (.d cc.d) u h2 tk hh rfl (r2.step P) (r2.inv I hb) (hu _ _))
 | some i =>
  cases r with
  | cst => exact nf okr rfl
  | two cc p1 a p2 p3 p4 =>
   obtain ⟨okr1, oka⟩ := Bool.and_eq_true_iff.mp okr
   obtain ⟨okr2, okst⟩ := Bool.and_eq_true_iff.mp okr1
   obtain ⟨okl, okloc⟩ := Bool.and_eq_true_iff.mp okr2
   have kl : F.env.kindOf (nmE F.ns i) = some .local := eq_of_beq okloc
   have hp : (F.env.scope.kind == .class || (F.env.scope.kind == .module && F.env.locals != F.env.globals)) = false := O.kind ▸ rfl
   obtain ⟨y, hy⟩ : ∃ y, Zav a fs = some y := by
    cases hy : Zav a fs with
    | none => exact absurd (congrArg (Option.map _) hy) (ne hh)
    | some y => exact ⟨y, rfl⟩
   refine codeAny_handlers_suite_as (Zac (fr := none) x t fun h2 r2 x2 t2 => ?_)
   have I2 := r2.inv I hb
   have L := (r2.fi Fi).locW
   obtain ⟨m, N, _⟩ := (r2.fi Fi).ns
   refine wpAny_storeName_local kl N (fun h3 N3 hs3 => ?_) hp
   have k3 : ∀ b o, b ≠ F.env.locals → h2.get? b = some o → h3.get? b = some o := fun b o nb e => hs3.extBut b o nb e
   have g3 : ∃ o, h3.get? F.env.locals = some o := (by obtain ⟨o, _, _, ho, _⟩ := N3; exact ⟨o, ho⟩)
   have I3 := I2.touch L k3 g3
   have lw : ∀ a ∈ [F.env.locals], a ∈ F.cur := fun a m => lS9.mp m ▸ O.loc
   have P3 := (r2.step P).trans ((Zak L k3 g3).wider lw)
   have x3 : XO S W lo c fs e h3 vs := x2.touch fun b o nb e => k3 b o (fun z => nb (z ▸ lA9.mpr (.inr L))) e
   refine wB (m := exec _ F.env) (Zkt XA O I3.base x3 (sub_le hh hk) (eq_of_beq oka) hy kl okl (eq_of_beq okst) N3 (if_pos rfl) fun u1 u2 tk2 hu1 hu2 => wP ?_)
   have kp : ∀ b o, h3.get? b = some o → (h3.push { cls := .type "tuple", data := .seq [u1, u2].toArray }).get? b = some o := Zd
   have I4 := I3.grow kp
   have P4 := P3.trans (Step.keeps (W := W) (cur := F.cur) kp)
   refine wpAny_nameGoes kl (N3.keeps kp) hp fun h5 m5 N5 hs5 => ?_
   have k5 : ∀ b o, b ≠ F.env.locals → (h3.push { cls := .type "tuple", data := .seq [u1, u2].toArray }).get? b = some o → h5.get? b = some o := fun b o nb e => hs5.extBut b o nb e
   have g5 : ∃ o, h5.get? F.env.locals = some o := (by obtain ⟨o, _, _, ho, _⟩ := N5; exact ⟨o, ho⟩)
   refine qr (.d (.tuple [cc.d, y])) _ h5 _ hh (congrArg (Option.map _) hy) (P4.trans ((Zak L k5 g5).wider lw)) (I4.touch L k5 g5) (DR.grown (ZM (W := W) L k5) ?_)
   exact .tuple (Z1 I3) (Heap.get?_push_size _ rfl) rfl rfl (.cons (hu1 _ _) (.cons (DR.mono (fun b o e w w => kp b o e) (fun w m => .inl m) hu2) .nil))
theorem Zhy (G : Ground S) (X : Exm S) (XA : ZcM S) (O : FmOk F A n) (hb : ∀ b o, S.h₀.get? b = some o → lo.get? b = some o) (P : Step W₀ W F.cur lo s.heap) (I : Inv S W st s.heap) (Fi : FI S F W ρ s.heap) (x : XO S W lo c fs e s.heap vs) (t : TBx W lo .none e s.heap vs) :
 hs.all (okH F.env.scope.names F.ns) = true → ZaL c fs hs ≠ some none →
  (∀ v u h4 tk4, ZaL c fs hs = some (some v) → Step W₀ W F.cur lo h4 → Inv S W st h4 → VR S W h4 u v → Q (.ret u) (sh s h4 tk4)) →
  (∀ h4 tk4, ZaL c fs hs = none → Step W₀ W F.cur lo h4 → Inv S W st h4 → FI S F W ρ h4 → XS S W lo F.env.frame c fs e h4 → E (.ref e) (sh s h4 tk4)) →
  wA S.M A (handleBy (.ref e) F.env (hs.map (toH F.ns))) Q E s := by
 induction hs with
 | nil =>
  intro _ _ _ qe
  obtain ⟨e0, r0, L, f1, f2, hL⟩ := O.head
  exact wpAny_handleBy_nil (ZiY hL x t fun h' r x' => qe h' s.toks rfl (r.step P) (r.inv I hb) (r.fi Fi) x')
 | cons hd tl ih =>
  intro ok ne qr qe
  have ok := Bool.and_eq_true_iff.mp ok
  have e1 : ∀ h : Zah c hd.1 = true, ZaL c fs (hd :: tl) = some (Zff fs hd.2.2.2.1) := fun h => if_pos h
  have e2 : ∀ h : Zah c hd.1 = false, ZaL c fs (hd :: tl) = ZaL c fs tl := fun h => if_neg (h ▸ Bool.false_ne_true)
  exact Zku G X XA O hb ok.1 P I Fi x t (fun h z => ne ((e1 h).trans (congrArg some z))) (fun v u h4 tk4 h z => qr v u h4 tk4 ((e1 h).trans (congrArg some z)))
   fun h => ih ok.2 (fun z => ne ((e2 h).trans z)) (fun v u h4 tk4 z => qr v u h4 tk4 ((e2 h).trans z)) fun h4 tk4 z => qe h4 tk4 ((e2 h).trans z)
theorem Zqx (G : Ground S) (X : Exm S) (XA : ZcM S) (hb : Z3 S C n b) : Zad S C n (.try_ b hs p) := by
 intro F A W ρ st s O fn ok I Fi ne
 simp only [Zon, bA, Bool.not_eq_true'] at ok
 obtain ⟨⟨okb, okh⟩, okn⟩ := ok
 rw [ZnM] at ne ⊢
 have neb : exs C b ρ st ≠ .no := fun z => ne (by rw [z])
 obtain ⟨h0, ht, rfl⟩ : ∃ h0 ht, hs = h0 :: ht := by cases hs with | nil => cases okn | cons a t => exact ⟨a, t, rfl⟩
 obtain ⟨e0, r0, L, f1, f2, hL⟩ := O.head
 show wA _ _ (exec (.Try (toB F.ns b) (toH F.ns h0 :: ht.map (toH F.ns)) [] [] p) F.env) _ _ _
 refine wpAny_Try_except (wM (hb F A W ρ st s O fn okb I Fi neb) (fun f s1 z => ?_) fun x s1 z => ?_)
 ·obtain ⟨st', W', h', tk, rfl, P, I', z⟩ := z
  rcases z with ⟨ρ', e, rfl, Fi'⟩ | ⟨v, u, e, rfl, vu⟩
  ·rw [e]
   exact wP ⟨st', W', h', tk, rfl, P, I', .inl ⟨ρ', rfl, rfl, Fi'⟩⟩
  ·rw [e]
   exact ⟨st', W', h', tk, rfl, P, I', .inr ⟨v, u, rfl, rfl, vu⟩⟩
 ·obtain ⟨c, fs, ρ', st', W', e, e1, rfl, h', tk, rfl, P, I', Fi', X'⟩ := z
  rw [e1] at ne ⊢
  dsimp only at ne ⊢
  refine Zci (s := sh s h' tk) (lo := s.heap) (st := st') O I' Fi' hL X' I.base P.pers.live fun h2 vs r x t => ?_
  refine Zac (s := sh s h2 tk) (fr := none) x t fun h3 r3 x3 t3 => ?_
  have r13 := r.trans r3
  refine Zhy (s := sh s h3 tk) (W₀ := W) (st := st') G X XA O I.base (hs := h0 :: ht) (r13.step P) (r13.inv I' I.base) (r13.fi Fi') x3 t3 okh (fun z => ne (by rw [z])) (fun v u h4 tk4 hh P4 I4 vu => ?_) fun h4 tk4 hh P4 I4 Fi4 X4 => ?_
  ·rw [hh]
   exact ⟨st', W', h4, tk4, rfl, P4, I4, .inr ⟨v, u, rfl, rfl, vu⟩⟩
  ·rw [hh]
   exact ⟨c, fs, ρ', st', W', e, rfl, rfl, h4, tk4, rfl, P4, I4, Fi4, X4⟩
end
noncomputable def Zfm (K : Frag) (C : Addr) : Bool := match K.lookup C with
 | some ⟨_, _, .cls cd, sl⟩ => !cd.abstract && !cd.hasDel && (sl.toList[4]?).join == some (.builtin "Exception.__new__") && !cd.mro.isEmpty && cd.mro.contains (.ref C) && cd.mro.contains (.type "Exception") && cd.mro.contains (.type "BaseException") &&
  !cd.mro.contains (.type "AttributeError") && !cd.mro.contains (.type "NameError") && specialIn K (.ref C) "__call__" == some (some (.builtin "type.__call__")) && instIn K (.ref C) (.type "type") == some true && typeIn K (.ref C) == some (.type "type")
 | _ => false
structure EMakes (M : Model) (h : Heap) (C : Addr) : Prop where
 obj : ∃ oc od cd sl, h.get? C = some ⟨oc, od, .cls cd, sl⟩ ∧ cd.abstract = false ∧ cd.hasDel = false ∧ cd.mro.isEmpty = false
 made : Looks M h (Bind.madeBy (.ref C)) (some "Exception.__new__")
 base : Looks M h (Bind.staticBase (.ref C)) (.ref C)
 self : Looks M h (isSubtype (.ref C) (.ref C)) true
 exc : Looks M h (isSubtype (.ref C) (.type "Exception")) true
 bexc : Looks M h (isSubtype (.ref C) (.type "BaseException")) true
 noA : Looks M h (isSubtype (.ref C) (.type "AttributeError")) false
 noN : Looks M h (isSubtype (.ref C) (.type "NameError")) false
 call : Looks M h (specialOf (.ref C) "__call__") (some (.builtin "type.__call__"))
 typ : Looks M h (isInstance (.ref C) (.type "type")) true
 tof : Looks M h (typeOf (.ref C)) (.type "type")
set_option tactic.hygienic true in
theorem ZbO {K : Frag} (X : K.In h) (e : Zfm K C = true) : EMakes M h C := by
 unfold Zfm at e
 split at e
 ·rename_i oc od cd sl ho
  simp only [bA, Bool.not_eq_true', beq_iff_eq] at e
  refine bc fun no => ?_; obtain ⟨⟨⟨⟨⟨⟨⟨⟨⟨⟨⟨e1, e2⟩, e3⟩, e4⟩, e5⟩, e6⟩, e7⟩, e8⟩, e9⟩, e10⟩, e11⟩, e12⟩ := e; refine no ?_
  have hc : clsIn K C = some cd := by unfold clsIn; rw [ho]
  have hm : Looks M h (mroOf (.ref C)) cd.mro := (looks_clsIn X hc).andThen .now
  obtain ⟨c, l, hl⟩ : ∃ c l, cd.mro = c :: l := by cases q : cd.mro with | nil => rw [q] at e4; cases e4 | cons c l => exact ⟨c, l, rfl⟩
  have made : Looks M h (Bind.madeBy (.ref C)) (some "Exception.__new__") := by
   intro A Q E s k q
   unfold Bind.madeBy
   refine wB (hm A _ E s k ?_)
   rw [hl, List.forIn_cons]
   refine wB (wB (wB (wB (wpAny_loadPart (k _ _ (X _ _ ho)) (wP ?_)))))
   dsimp only
   rw [← Array.getElem?_toList, e3]
   exact wP (wP (wP q))
  have mr : ∀ b r, cd.mro.contains b = r → Looks M h (isSubtype (.ref C) b) r := fun b r z => looks_mroIn X (by unfold mroIn; rw [hc, Option.bind_some, if_neg (by rw [e4]; decide), z])
  refine ⟨⟨oc, od, cd, sl, X _ _ ho, e1, e2, e4⟩, made, ?_, mr _ _ e5, mr _ _ e6, mr _ _ e7, mr _ _ e8, mr _ _ e9, looks_specialIn X e10, looks_instIn X e11, looks_typeIn X e12⟩
  ·intro A Q E s k q
   unfold Bind.staticBase
   refine wB (hm A _ E s k ?_)
   rw [hl, List.forIn_cons]
   exact wB (wB (wB (made A _ E s k (wP (wP (wP q))))))
 ·cases e
noncomputable abbrev Zy (vs : List Vl) : Obj := { cls := .type "tuple", data := .seq vs.toArray }
noncomputable abbrev ZR (C t : Addr) : Obj := { cls := .ref C, data := .fields #[.ref t, .none, .none, .none, .bool false, .none] }
section
variable {prog : Program} {w : World} {A : Ar} {K : Frag} {C : Addr} {R : Result → Sh → Prop} {h : Heap} {g : Array GenState} {d : Drawn} {t : Nat} {os : OsState}
theorem ZoN (Y : EMakes (model prog w) h C) (hrest : rest.length ≤ sizeLine)
 (hq : R (.ok (.ret (.ref (h.objs.size + 1)))) ⟨(h.push (Zy rest)).push (ZR C h.objs.size), g, d, t, os⟩) :
 cA (model prog w) A (.call (.builtin "Exception.__new__") ⟨.ref C :: rest, []⟩) R ⟨h, g, d, t, os⟩ := by
 refine bc fun no => ?_; obtain ⟨⟨oc, od, cd, sl, hC, e1, e2, e4⟩, made, base, self, exc, bexc, noA, noN, call, typ, tof⟩ := Y; refine no ?_
 have F := PySem.F.excBase_Exception
 have it : Looks (model prog w) h (isType (.ref C)) true := (Looks.ld hC).andThen .now
 have here : Looks (model prog w) h (Bind.madeHere "BaseException.__new__" (.ref C)) () := base.andThen (made.andThen (lel (by simp only [Option.map_some, F.canon, bne_self_eq_false]; exact Bool.false_ne_true) .now))
 have chk : Looks (model prog w) h (checkBuiltinCall "Exception.__new__" ⟨.ref C :: rest, []⟩) () := by
  simp only [checkBuiltinCall, F.newKind, F.newSplit, F.newRow]
  exact lif rfl (it.andThen (lel Bool.false_ne_true (exc.andThen (lel Bool.false_ne_true (base.andThen (made.andThen (lel (by rw [bne_self_eq_false]; exact Bool.false_ne_true) .now)))))))
 refine codeAny_call_builtin_code (Code.quiet_builtin _ F.quiet) (chk.at (codeAny_builtinAt F.entry ?_))
 unfold Builtin.«BaseException.__new__»
 refine PyProof.Rows.wpAt_bind (wpAt_owner rfl F.ends (wpAt_of_any ?_))
 rw [F.owner]
 refine wB (it.at (wel Bool.false_ne_true (wB (exc.at (wel Bool.false_ne_true (wB (here.at ?_)))))))
 have own : Looks (model prog w) h (isSubtype (.ref C) (.type "AttributeError") >>= fun b => if b = true then pure 2 else isSubtype (.ref C) (.type "NameError") >>= fun b => if b = true then pure 1 else pure 0) 0 := noA.andThen (lel Bool.false_ne_true (noN.andThen (lel Bool.false_ne_true .now)))
 refine wB (own.at (wB (wpAny_newTuple ?_ hrest)))
 have hC' := Heap.get?_push_of_some (ZR C h.objs.size) (Heap.get?_push_of_some (Zy rest) hC)
 have hd : Looks (model prog w) ((h.push (Zy rest)).push (ZR C h.objs.size)) (classHasDel C) false := e2 ▸ (Looks.ld hC').andThen .now
 refine wB (m := newObj _ _) ?_
 unfold newObj
 refine wel (Nat.not_lt.mpr (Nat.le_trans (by decide : 6 ≤ 4096) (Nat.le_trans sz4 (Nat.le_add_right _ 2)))) (wB (m := alloc _) (wpAny_alloc (wB (m := classHasDel C) (hd.at (wel Bool.false_ne_true (wP (wP ?_)))))))
 show R (.ok (.ret (.ref (h.push (Zy rest)).objs.size))) _
 rw [Heap.size_push]
 exact hq
theorem Zgn (Y : EMakes (model prog w) h C) (hrest : rest.length ≤ sizeLine) (hi : Looks (model prog w) h (typeLookup (.ref C) "__init__") (some init))
 (hb : ∀ self, Looks (model prog w) h (bindSpecial init self) (init, [self]))
 (hq : cA (model prog w) (A.under (.builtin "type.__call__" ⟨.ref C :: rest, []⟩)) (.call init ⟨.ref (h.objs.size + 1) :: rest, []⟩) (InitBack (h.objs.size + 1) R) ⟨(h.push (Zy rest)).push (ZR C h.objs.size), g, d, t, os⟩) :
 cA (model prog w) A (.call (.ref C) ⟨rest, []⟩) R ⟨h, g, d, t, os⟩ := by
 have Y' := Y
 refine bc fun no => ?_; obtain ⟨⟨oc, od, cd, sl, hC, e1, e2, e4⟩, made, base, self, exc, bexc, noA, noN, call, typ, tof⟩ := Y; refine no ?_
 refine codeAny_of_tree ?_
 show wA _ _ (callAny (.ref C) _) _ _ _
 refine nd_load hC ?_
 show wA _ _ (callAny.viaDunder (.ref C) _) _ _ _
 unfold callAny.viaDunder
 refine wB (call.at ?_)
 dsimp only
 rw [PySem.tc_bind]
 refine wB (wP (wB (wP ?_)))
 refine wP (a := Fin.again (.call (.builtin "type.__call__") ⟨.ref C :: rest, []⟩)) (And.intro rfl ?_)
 refine codeAny_call_builtin_at (Code.quiet_builtin _ (by decide +kernel)) entry_typeCall (check_slot tc_kind tc_split typ (tc_args _ _ _) ?_)
 unfold Builtin.«type.__call__»
 have hm : Looks (model prog w) h (mroOf (.ref C)) cd.mro := ((Looks.ld (part := none) hC).andThen .now).andThen .now
 refine wel Bool.false_ne_true (wB (hm.at (wel (e4 ▸ Bool.false_ne_true) (wB (made.at (wB (wP (wB (wH (wpAny_call (ZoN Y' hrest ?_)))))))))))
 have k : ∀ b o, h.get? b = some o → ((h.push (Zy rest)).push (ZR C h.objs.size)).get? b = some o := fun b o e => Heap.get?_push_of_some _ (Heap.get?_push_of_some _ e)
 have hx : ((h.push (Zy rest)).push (ZR C h.objs.size)).get? (h.objs.size + 1) = some (ZR C h.objs.size) := by heap_get
 have t1 : Looks (model prog w) ((h.push (Zy rest)).push (ZR C h.objs.size)) (typeOf (.ref (h.objs.size + 1))) (.ref C) := (Looks.ld hx).andThen .now
 have s1 := self.keeps k
 have i1 := hi.keeps k
 have b1 := (hb (.ref (h.objs.size + 1))).keeps k
 refine wB ((t1.andThen s1 : Looks _ _ (isInstance _ _) true).at (wel Bool.false_ne_true (wB (wH (wB ((t1.andThen i1 : Looks _ _ (specialOf _ _) _).at (wH (wB (b1.at (wB (wpAny_call (codeAny_mono hq fun r s' z => ?_))))))))))))
 rcases r with e | (v | _ | _ | _) <;> first | exact z | exact z.elim | skip
 refine bc fun no => ?_; obtain ⟨rfl, z⟩ := z; refine no ?_
 exact wP (wP z)
end
end
section
open PySem PySem.W PySem.Calls PyProof.Rows PySem.Spec Builtin Builtin.ObjectAttr
noncomputable def Za4 : List Vl → Bool
 | .ref _ :: r => Za4 r
 | l => l == [.type "Exception", .type "BaseException", .type "object"]
theorem ZdV (e : Za4 l = true) : (∃ c r, l = .ref c :: r ∧ Za4 r = true) ∨ l = [.type "Exception", .type "BaseException", .type "object"] := by
 cases l with
 | nil => exact nf e rfl
 | cons v r => cases v with
  | ref c => exact .inl ⟨c, r, rfl, e⟩
  | _ => exact .inr (eq_of_beq e)
theorem ZiZ (self : Vl) (n : Nat) {l : List Vl} (_ : l.length ≤ n) (e : Za4 l = true) : refuseLoop self "__setattr__" l = pure () := by
 induction l with
 | nil => exact nf e rfl
 | cons v r ih =>
  rcases ZdV e with ⟨c, r, h, e2⟩ | h
  ·cases h; rw [refuseLoop_ref]; exact ih (Nat.le_of_succ_le ‹_›) e2
  ·rw [h]; exact PySem.F.store_Exception.passes self
theorem Zgo (n : Nat) {l : List Vl} (_ : l.length ≤ n) (e : Za4 l = true) : l.contains (.type "object") = true ∧ l.contains (.type "BaseException") = true := by
 induction l with
 | nil => exact nf e rfl
 | cons v r ih =>
  rcases ZdV e with ⟨c, r, h, e2⟩ | h
  ·cases h
   have := ih (Nat.le_of_succ_le ‹_›) e2
   rw [List.contains_cons, List.contains_cons, this.1, this.2, Bool.or_true, Bool.or_true]; exact ⟨rfl, rfl⟩
  ·rw [h]; exact ⟨by decide +kernel, by decide +kernel⟩
structure EKeeps (K : Frag) (C : Addr) (name : Str) : Prop where
 cls : ∃ cd, clsIn K C = some cd ∧ cd.hasDict = true ∧ Za4 cd.mro = true
 sa : findIn K (.ref C) "__setattr__" = some (some (.builtin "object.__setattr__"))
 no : findIn K (.ref C) name = some none
section
variable {prog : Program} {w : World} {A : Ar} {E : Vl → Sh → Prop} {K : Frag} {C x : Addr} {s : Sh} {R : Result → Sh → Prop}
theorem ZhZ (X : K.In s.heap) (hx : s.heap.get? x = some ox) (hcl : ox.cls = .ref C) (Y : EKeeps K C name)
 (h : wA (model prog w) A.in1 (storeInOwnDict (.ref x) (.ref C) (.str name tk) name v false)
  (fun fin s' => match fin with | .done f => R (.ok f) s' | .again c' => c'.quiet = true ∧ cA (model prog w) A c' R s') (fun e s' => R (.error e) s') s) :
 cA (model prog w) A (.call (.builtin "object.__setattr__") ⟨[.ref x, .str name tk, v], []⟩) R s := by
 have SF := PySem.F.store_object
 refine bc fun no => ?_; obtain ⟨⟨cd, hc, hd, ht⟩, hsa, hno⟩ := Y; refine no ?_
 have ne : cd.mro.isEmpty = false := by cases q : cd.mro with | nil => rw [q] at ht; exact nf ht rfl | cons _ _ => rfl
 have T : Looks (model prog w) s.heap (typeOf (.ref x)) (.ref C) := hcl ▸ (Looks.ld hx).andThen .now
 have sub : Looks (model prog w) s.heap (isInstance (.ref x) (.type "object")) true := T.andThen (looks_mroIn X (by unfold mroIn; rw [hc, Option.bind_some, if_neg (by rw [ne]; decide), (Zgo _ (Nat.le_refl _) ht).1]))
 refine codeAny_call_builtin SF.slot.plain SF.entry (@check_slot (model prog w) _ _ s "object.__setattr__" "object" "__setattr__" (.ref x) [.str name tk, v] [] _ SF.kind SF.split sub (SF.args (.ref x) (.str name tk) v) ?_)
 have hm : Looks (model prog w) s.heap (mroOf (.ref C)) cd.mro := (looks_clsIn X hc).andThen .now
 rw [osa_eq, refuse_eq]
 refine wB (wB (T.here (wB (hm.here ?_))))
 rw [ZiZ _ _ (Nat.le_refl _) ht]
 refine wP (wB (T.here (wB ((looks_findIn X hno).here (wB (wP ?_))))))
 exact h
theorem Zh0 (X : K.In s.heap) (hx : s.heap.get? x = some ox) (hcl : ox.cls = .ref C) (Y : EKeeps K C name)
 (h : cA (model prog w) A (.call (.builtin "object.__setattr__") ⟨[.ref x, .str name s.toks, v], []⟩) (fun r s' => match r with | .ok (.ret _) => Q () s' | .ok _ => False | .error e => E e s') { s with toks := s.toks + 1 }) :
 wA (model prog w) A (setAttr (.ref x) name v) Q E s := by
 have T : Looks (model prog w) s.heap (typeOf (.ref x)) (.ref C) := hcl ▸ (Looks.ld hx).andThen .now
 refine wB (wpAny_mkText (wB (wB (wB (T _ _ _ _ (fun y y e => e) (looks_findIn X Y.sa _ _ _ _ (fun y y e => e) (wH ?_)))))))
 rw [PySem.F.store_object.slot.bind]
 refine wB (wP (wB (wpAny_call (codeAny_mono h fun r s' z => ?_))))
 rcases r with e | (v | _ | _ | _) <;> first | exact z | exact wP (wP z)
end
section
variable {S : SC} {A : Ar} {E : Vl → Sh → Prop} {C x : Addr} {s : Sh}
theorem Zfc (X : S.K.In s.heap) (hx : s.heap.get? x = some ox) (hcl : ox.cls = .ref C) (hdc : ox.dict = none) (hdt : ox.data = .fields vs) (Y : EKeeps S.K C name)
 (q : ∀ h' D tk, h'.get? x = some { ox with dict := some D } → s.heap.get? D = none → D ≠ x → h'.DictOf (PySem.strKind S.prog S.w) D [(name, v)] → (∀ b o, b ≠ x → s.heap.get? b = some o → h'.get? b = some o) → Q () (sh s h' tk)) :
 wA S.M A (setAttr (.ref x) name v) Q E s := by
 refine Zh0 X hx hcl Y (ZhZ (s := { s with toks := s.toks + 1 }) X hx hcl Y ?_)
 refine bc fun no => ?_; obtain ⟨⟨cd, hc, hd, ht⟩, hsa, hno⟩ := Y; refine no ?_
 refine bc fun no => ?_; obtain ⟨oc, odi, oda, osl⟩ := ox; refine no ?_
 dsimp only at hcl hdc hdt
 subst hcl hdc hdt
 refine wB (wP (wB (wB (wpAny_loadPart hx (wB ((looks_clsIn X hc) _ _ _ _ (fun y y e => e) ?_))))))
 rw [hd]
 simp only [Bool.not_true, Bool.false_eq_true, if_false]
 rw [if_neg (by simp [typeHasDict])]
 have hlt := Heap.lt_size hx
 have hx1 : (s.heap.push { cls := .type "dict", data := .dict #[] }).get? x = some { cls := Value.ref C, data := Data.fields vs, slots := osl } := Heap.get?_push_of_some _ hx
 refine wB (wpAny_alloc (wB (wpAny_update hx1 ?_)))
 have hx2 := Heap.get?_update_self (fun o : Obj => { o with dict := some s.heap.objs.size }) hx1 rfl
 have D0 : (s.heap.push { cls := .type "dict", data := .dict #[] }).DictOf (PySem.strKind S.prog S.w) s.heap.objs.size [] := Heap.DictOf.new _
 have nD : s.heap.objs.size ≠ x := Nat.ne_of_gt hlt
 have D1 : ((s.heap.push { cls := .type "dict", data := .dict #[] }).update x (fun o : Obj => { o with dict := some s.heap.objs.size })).DictOf (PySem.strKind S.prog S.w) s.heap.objs.size [] :=
  ZJ (S := S) (fun o e y => (Heap.get?_update_other _ _ (Ne.symm nD)).trans e) D0
 refine wB (wP (wP ?_))
 refine wB (wP (wB ?_))
 refine ZbX (S := S) (s := { s with heap := (s.heap.push { cls := .type "dict", data := .dict #[] }).update x (fun o : Obj => { o with dict := some s.heap.objs.size }), toks := s.toks + 1 }) D1 (by simp) fun h' o d hs ho hnr hpl => ?_
 refine wB (wpAny_lookBehind ho hpl (wP ?_))
 refine q h' s.heap.objs.size _ ((hs.2 x (Ne.symm nD)).trans hx2) Z0 nD d fun b o nb e => ?_
 have nb2 : b ≠ s.heap.objs.size := Nat.ne_of_lt (Heap.lt_size e)
 exact (hs.2 b nb2).trans ((Heap.get?_update_other _ _ (Ne.symm nb)).trans (Heap.get?_push_of_some _ e))
theorem Zgp (X : S.K.In s.heap) (hx : s.heap.get? x = some ox) (hcl : ox.cls = .ref C) (hdc : ox.dict = some D) (hD : s.heap.DictOf (PySem.strKind S.prog S.w) D kvs) (hl : kvs.length ≤ 10) (Y : EKeeps S.K C name)
 (q : ∀ h' tk, h'.DictOf (PySem.strKind S.prog S.w) D (stored kvs name v) → Heap.SameBut D s.heap h' → Q () (sh s h' tk)) :
 wA S.M A (setAttr (.ref x) name v) Q E s := by
 refine Zh0 X hx hcl Y (ZhZ (s := { s with toks := s.toks + 1 }) X hx hcl Y ?_)
 refine bc fun no => ?_; obtain ⟨⟨cd, hc, hd, ht⟩, hsa, hno⟩ := Y; refine no ?_
 refine bc fun no => ?_; obtain ⟨oc, odi, oda, osl⟩ := ox; refine no ?_
 dsimp only at hcl hdc
 subst hcl hdc
 refine wB (wP (wB (wB (wpAny_loadPart hx (wB ((looks_clsIn X hc) _ _ _ _ (fun y y e => e) ?_))))))
 rw [hd]
 refine wP (a := some D) (wB (wP (wB ?_)))
 refine ZbX (S := S) (s := { s with toks := s.toks + 1 }) hD (by omega) fun h' o d hs ho hnr hpl => ?_
 exact wB (wpAny_lookBehind ho hpl (wP (q h' _ d hs)))
end
section
variable {prog : Program} {w : World} {A : Ar} {E : Vl → Sh → Prop} {K : Frag} {C x : Addr} {s : Sh} {R : Result → Sh → Prop} {env : Env}
theorem Zmf (Y : EMakes M s.heap C) (hx : s.heap.get? x = some ox) (hcl : ox.cls = .ref C) (q : Q () s) : wA M A (checkBuiltinCall "Exception.__init__" ⟨[.ref x, v], []⟩) Q E s := by
 have F := PySem.F.excBase_Exception
 have T : Looks M s.heap (typeOf (.ref x)) (.ref C) := hcl ▸ (Looks.ld hx).andThen .now
 have hstar := F.noStar
 simp only [checkBuiltinCall, F.initKind, F.initSplit, F.initRow]
 refine wB ((T.andThen Y.exc).here ?_)
 simp only [Bool.not_true, Bool.false_eq_true, if_false]
 unfold Bind.checkArgs
 dsimp only
 have hpr : ∀ {Q : String → Sh → Prop}, (∀ n, Q n s) → wA M A (Bind.printed "*" true ⟨.positional, "*", "Exception", .self, [⟨"args", .varPos, false⟩]⟩ (some (.ref x))) Q E s := by
  intro Q q
  unfold Bind.printed Bind.receiverType
  rw [if_neg (by decide)]
  refine wB (m := (if (Manifest.Receiver.self == Manifest.Receiver.cls) = true then pure (Value.ref x) else typeOf (.ref x))) ?_
  rw [if_neg (by decide)]
  obtain ⟨oc, od, cd, sl, hC, _⟩ := Y.obj
  refine T.here ?_
  obtain ⟨h, g, d, tk, os⟩ := s
  repeat lk
  exact q _
 refine wB (m := Bind.printed "*" true _ _) (hpr fun full => ?_)
 refine wB (m := Bind.printed "Exception" false _ _) (printed_name hstar ?_)
 show wA M A (Sem.onRaise (Bind.check _ full _ _ []) _) Q E s
 rw [check_varPos]
 exact wP q
theorem Zkv (Y : EMakes (model prog w) s.heap C) (hx : s.heap.get? x = some ox) (hcl : ox.cls = .ref C) (hd : ox.data = .fields vs) (h0 : vs[0]? = some (.ref t0))
 (q : Q .none { s with heap := (s.heap.push (Zy [v])).update x (Obj.mapFields (·.setIfInBounds 0 (.ref s.heap.objs.size))) }) :
 wA (model prog w) A (call (.builtin "Exception.__init__") [.ref x, v]) Q E s := by
 have F := PySem.F.excBase_Exception
 have T : Looks (model prog w) s.heap (typeOf (.ref x)) (.ref C) := hcl ▸ (Looks.ld hx).andThen .now
 refine wpAny_call (codeAny_call_builtin F.init.plain F.initEntry (Zmf Y hx hcl ?_))
 unfold Builtin.«BaseException.__init__»
 dsimp only
 rw [if_neg (by simp)]
 unfold newTuple Builtin.BaseException.bexcPut
 have hsz : 0 < vs.size := (Array.getElem?_eq_some_iff.mp h0).1
 have he₁ := Heap.get?_push_of_some (h := s.heap) (Zy [v]) hx
 refine wB (wpAny_newObj_type (wB (wB (wpAny_field he₁ hd h0 (wB (wpAny_setField he₁ hd hsz ?_))))) (by show 1 ≤ sizeLine; rw [sizeLine_eq]; omega))
 exact wpAny_letGo (wP q)
theorem Zgq {U : Vl → Prop} (hk : env.scope.kind = .function) (hp : (p2.endLine == p4.line) = true)
 (h1 : starEach [a1, a2] env = [(false, eval a1 env), (false, eval a2 env)])
 (hn : ∀ Q : Vl → Sh → Prop, Q fcls s → wA (model prog w) A (eval (.Name X p1) env) Q E s)
 (hm : ∀ (Q : Vl × List Vl → Sh → Prop) (pl : Sem Bool), (∀ tk, Q (f, []) { s with toks := tk }) → wA (model prog w) A (getMethod fcls "__init__" pl) Q E s)
 (hkp : ∃ k, (k = Keeper.frame ∨ k = Keeper.machine ∨ k = Keeper.boundFrame) ∧ Looks (model prog w) s.heap (keeperOf f) k)
 (ha : ∀ (tk : Nat) (Q : List Vl → Sh → Prop), (∀ tk' u2, U u2 → Q [u1, u2] { s with toks := tk' }) → wA (model prog w) A (spliced (backTo p4 (starEach [a1, a2] env))) Q E { s with toks := tk })
 (hc : ∀ tk u2, U u2 → wA (model prog w) A (call f [u1, u2]) (fun _ s' => Q .next s') E { s with toks := tk }) :
 wA (model prog w) A (exec (.Expr (.Call (.Attribute (.Name X p1) "__init__" p2) [a1, a2] [] p4) p5) env) Q E s := by
 have hi : interactive env = false := by unfold interactive; rw [hk]; rfl
 refine wpAny_Expr_any ?_ hi rfl
 show wA _ _ (attributeBase (.Name X p1) "__init__" env (eval (.Name X p1) env) >>= fun ov => standAt p2.atName >>= fun y => methodCall (.Name X p1) "__init__" p2 p4 env ov (2 + 0) (backTo p4 (starEach [a1, a2] env)) []) _ _ _
 refine wB ?_
 show wA _ _ (eval (.Name X p1) env) _ _ _
 refine hn _ (wB (wS ?_))
 unfold methodCall
 have hform : methodCallForm (2 + 0) (backTo p4 (starEach [a1, a2] env)) [] = true := by rw [h1]; rfl
 rw [hform]
 have hpos : methodCallPos true (.Name X p1) env p2 p4 = pure p4 := by unfold methodCallPos; simp [hp]
 rw [hpos]
 show wA _ _ (holding [fcls] (getMethod fcls "__init__" (do return (← importBound (.Name X p1) env).getD true)) >>= fun fm => callWith p4 fm.1 fm.2 (backTo p4 (starEach [a1, a2] env)) []) _ _ _
 refine wB (wH (hm _ _ fun tk => ?_))
 have hany : ((backTo p4 (starEach [a1, a2] env)).any (·.1) || ([] : List (Option Str × Sem Vl)).any (·.1.isNone)) = false := by rw [h1]; rfl
 refine callWith_of (P := fun h' => h' = s.heap) hany (fun h' e => e ▸ hkp) ?_
 have ha' := ha tk (fun us s' => s'.heap = s.heap ∧ wA (model prog w) A (call f ([] ++ us)) (fun _ s' => Q .next s') E s') fun tk' u2 hu => ⟨rfl, hc tk' u2 hu⟩
 rw [h1] at ha' ⊢
 exact evalArgs_plain ha'
end
noncomputable def ZB : Str := sO "self"
structure InitAt (S : SC) (f : Addr) (y : Str) (X : Str) (a2 : Expr) (fld : Str) : Prop where
 fn : ∃ o d, S.h₀.get? f = some o ∧ o.data = .func d ∧ d.globals = mainGlobals ∧ d.builtins = builtinsNs ∧ d.closure = [] ∧
  (∃ p1 p2 p3 p4 p5 p6 p7 p8 p9, d.body = .stmts [.Expr (.Call (.Attribute (.Name X p1) "__init__" p2) [.Name ZB p3, a2] [] p4) p5, .Assign [.Attribute (.Name ZB p6) fld p7] (.Name y p8) p9] ∧ (p2.endLine == p4.line) = true) ∧
  (∀ a b : Vl, bindArgs d ⟨[a, b], []⟩ = pure [(ZB, a), (y, b)]) ∧ S.h₀.CodeRec d.code d.qualname ∧ d.scope.isCoroutine = false ∧ d.scope.isGenerator = false ∧ d.scope.kind = .function ∧
  d.scope.names = [(ZB, .local), (y, .local), (X, .globalImplicit)]
 ny : (y == ZB) = false ∧ (y == dbg) = false
 nx : (X == ZB) = false ∧ (X == y) = false ∧ (X == dbg) = false
structure Fr2 (env : Env) (L : Addr) (y X : Str) (u v : Vl) (h : Heap) : Prop where
 kind : env.scope.kind = .function
 glob : env.globals = mainGlobals
 blt : env.builtins = builtinsNs
 loc : env.locals = L
 kx : env.kindOf ZB = some .local
 ky : env.kindOf y = some .local
 kX : env.kindOf X = some .globalImplicit
 ns : ∃ m, h.Ns L m ∧ m ZB = some u ∧ m y = some v
section
variable {S : SC} {A : Ar} {E : Vl → Sh → Prop} {s : Sh} {env : Env} {L : Addr} {y X : Str} {u v : Vl} {h h' : Heap}
theorem Fr2.at (F : Fr2 env L y X u v h) (k : ∀ o, h.get? L = some o → h'.get? L = some o) : Fr2 env L y X u v h' := by
 refine bc fun no => ?_; obtain ⟨m, n, q⟩ := F.ns; refine no ?_
 exact ⟨F.kind, F.glob, F.blt, F.loc, F.kx, F.ky, F.kX, m, Zce (fun o e => ⟨o.slots, k o e⟩) n, q⟩
theorem Fr2.self (F : Fr2 env L y X u v s.heap) (q : Q u s) : wA S.M A (eval (.Name ZB p) env) Q E s := by
 refine bc fun no => ?_; obtain ⟨m, n, q1, q2⟩ := F.ns; refine no ?_
 exact wpAny_Name (wpAny_loadName_local F.kind F.kx (F.loc ▸ n) q1 q) (by decide +kernel)
theorem Fr2.val (F : Fr2 env L y X u v s.heap) (hy : (y == dbg) = false) (q : Q v s) : wA S.M A (eval (.Name y p) env) Q E s := by
 refine bc fun no => ?_; obtain ⟨m, n, q1, q2⟩ := F.ns; refine no ?_
 exact wpAny_Name (wpAny_loadName_local F.kind F.ky (F.loc ▸ n) q2 q) hy
theorem ZdW {fld : Str} (K : InitAt S f y X a2 fld) (lim : S.h₀.NoLimit) (base : ∀ b o, S.h₀.get? b = some o → s.heap.get? b = some o) (dep : A.depth < 1000)
 (hb : ∀ env h1 tk1 p1 p2 p3 p4 p5 p6 p7 p8 p9, (p2.endLine == p4.line) = true → Fr2 env s.heap.objs.size y X u v h1 → (∀ b o, s.heap.get? b = some o → h1.get? b = some o) → (A.deeper env).depth = A.depth + 1 →
  wA S.M (A.deeper env) (execs [.Expr (.Call (.Attribute (.Name X p1) "__init__" p2) [.Name ZB p3, a2] [] p4) p5, .Assign [.Attribute (.Name ZB p6) fld p7] (.Name y p8) p9] env)
   (fun f s' => R (.ok (.ret (match f with | .ret v => v | _ => .none))) s') (fun w w => False) (sh s h1 tk1)) :
 cA S.M A (.call (.ref f) ⟨[u, v], []⟩) R s := by
 refine bc fun no => ?_; obtain ⟨⟨o, d, ho, hd, g1, g2, g3, ⟨p1, p2, p3, p4, p5, p6, p7, p8, p9, hbody, hp⟩, hbind, hcode, hco, hgen, hkind, hnames⟩, ⟨ny1, ny2⟩, nx1, nx2, nx3⟩ := K; refine no ?_
 have ks : d.scope.names.lookup ZB = some .local := by rw [hnames]; rfl
 have ky : d.scope.names.lookup y = some .local := by
  rw [hnames, List.lookup_cons, ny1]; simp [List.lookup_cons]
 have kX : d.scope.names.lookup X = some .globalImplicit := by
  rw [hnames, List.lookup_cons, nx1]
  simp [List.lookup_cons, nx2]
 refine codeAny_call_cells (vals := [u, v]) (by show A.depth < 1000; exact dep) (base _ _ ho) hd (lim.keeps base) (hcode.keeps base) hbody (hbind u v) g3 ?_ ?_ hco hgen hkind
 ·intro x hx
  simp only [lC9, List.not_mem_nil, or_false] at hx
  rcases hx with rfl | rfl
  ·exact .inl ks
  ·exact .inl ky
 intro s₁ Xc
 refine bc fun no => ?_; obtain ⟨h1, tk1, rfl⟩ := Xc.toInCall.same; refine no ?_
 refine wM (hb _ h1 tk1 p1 p2 p3 p4 p5 p6 p7 p8 p9 hp ?_ Xc.toInCall.keep rfl) (fun w w z => z) fun w w z => z.elim
 have nd : (([(ZB, u), (y, v)] : List (Str × Vl)).map (·.1)).Nodup := by
  have : ¬ ZB = y := fun e => by rw [e] at ny1; simp at ny1
  simp [this]
 refine ⟨hkind, g1, g2, rfl, ks, ky, kX, _, Xc.toInCall.ns, ZbL (k := (callEnvC d s.heap.objs.size f).kindOf) ks nd (.head _), ZbL (k := (callEnvC d s.heap.objs.size f).kindOf) ky nd (.tail _ (.head _))⟩
end
noncomputable def ZcN : Str := sO "Exception"
noncomputable def Zi0 : Str := sO "F77Error"
noncomputable def Zan : Str := sO "text"
noncomputable def ZS : Str := sO "steps"
structure ExcFacts (S : SC) : Prop where
 mkx : ∀ c, 1 ≤ c → c ≤ 4 → Zfm S.K (S.ca c) = true
 ini : ∀ c, 1 ≤ c → c ≤ 3 → findIn S.K (.ref (S.ca c)) "__init__" = some (some (.ref (S.fa 65)))
 ini4 : findIn S.K (.ref (S.ca 4)) "__init__" = some (some (.ref (S.fa 66)))
 t65 : typeIn S.K (.ref (S.fa 65)) = some (.type "function")
 t66 : typeIn S.K (.ref (S.fa 66)) = some (.type "function")
 keeps : ∀ c a, 1 ≤ c → c ≤ 4 → (a = 16 ∨ a = 2) → EKeeps S.K (S.ca c) (An a)
 sup : findCls S.K (.ref (S.ca 0)) (.type "type") "__init__" = some (.val (.ref (S.fa 65)))
 supR : readsIn S.K (S.ca 0) (.type "type") = true
 supG : specialIn S.K (.ref (S.ca 0)) "__getattribute__" = some (some (.builtin "type.__getattribute__"))
 kp : keepIn S.K (.ref (S.fa 65)) = true
 i65 : ∃ p, InitAt S (S.fa 65) Zan ZcN (.Name Zan p) Zan
 i66 : ∃ p, InitAt S (S.fa 66) ZS Zi0 (.Constant (.str (sO "too many steps")) 0 p) ZS
 exn : ∃ mg mb, S.h₀.Ns mainGlobals mg ∧ S.h₀.Ns builtinsNs mb ∧ mg ZcN = none ∧ mb ZcN = some (.type "Exception")
section
variable {prog : Program} {w : World} {A : Ar} {E : Vl → Sh → Prop} {K : Frag} {s : Sh}
theorem Zmg : findCls K (.type "Exception") (.type "type") "__init__" = some (.val (.builtin "Exception.__init__")) := by kernel_rfl
theorem Zi1 (X : K.In s.heap) (q : ∀ tk, Q (.builtin "Exception.__init__", []) { s with toks := tk }) : wA (model prog w) A (getMethod (.type "Exception") "__init__" pl) Q E s := by
 have L0 : ∀ h, Looks (model prog w) h (typeOf (.type "Exception")) (.type "type") := fun h => Looks.of_pure (kitMeta_of (by decide +kernel))
 have LS : Looks (model prog w) s.heap (specialOf (.type "Exception") "__getattribute__") (some (.builtin "type.__getattribute__")) := (L0 _).andThen (Looks.of_pure KF.slot_tga.lookup)
 have LO : Looks (model prog w) s.heap (opaqueClassAbove (.type "Exception")) none := Looks.of_pure (by kernel_rfl)
 unfold getMethod
 refine wB (LS.here ?_)
 dsimp only
 rw [if_pos canon_tga]
 refine wB ?_
 have hg : findIn K (.type "type") "__getattribute__" = some (some (.builtin "type.__getattribute__")) := type_tga
 refine cls_open X LO (L0 _) hg (looks_hook X (r := none) (by rfl)) (by show subIn K _ _ = _; rfl) Zmg ?_
 exact wP (handed_on (by decide +kernel) (wP (q _)))
end
section
variable {S : SC} {A : Ar} {E : Vl → Sh → Prop} {s : Sh} {e : Addr} {sl : Array (Option Vl)}
theorem Zmh : An 16 = Zan := by decide +kernel
theorem an2 : An 2 = ZS := by decide +kernel
theorem Zm6 (G : Ground S) (X : ExcFacts S) (hc1 : 1 ≤ c) (hc4 : c ≤ 4) (base : ∀ b o, S.h₀.get? b = some o → s.heap.get? b = some o) (dep : A.depth < 950)
 (he : s.heap.get? e = some ⟨.ref (S.ca c), none, .fields vs, sl⟩) (h0 : vs[0]? = some (.ref t0)) (hn : S.h₀.get? e = none)
 (q : ∀ h' tk D t', h'.get? e = some ⟨.ref (S.ca c), some D, .fields (vs.setIfInBounds 0 (.ref t')), sl⟩ → s.heap.get? D = none → D ≠ e → h'.DictOf (PySem.strKind S.prog S.w) D [(Zan, v)] →
  (∀ b o, b ≠ e → s.heap.get? b = some o → h'.get? b = some o) → R (.ok (.ret .none)) (sh s h' tk)) :
 cA S.M A (.call (.ref (S.fa 65)) ⟨[.ref e, v], []⟩) R s := by
 refine bc fun no => ?_; obtain ⟨p, K⟩ := X.i65; refine no ?_
 refine bc fun no => ?_; obtain ⟨mg, mb, n1, n2, n3, n4⟩ := X.exn; refine no ?_
 refine ZdW K G.nolimit base (by omega) fun env h1 tk1 p1 p2 p3 p4 p5 p6 p7 p8 p9 hp F keep hdep => ?_
 have he1 := keep _ _ he
 have base1 : ∀ b o, S.h₀.get? b = some o → h1.get? b = some o := fun b o z => keep _ _ (base b o z)
 have XK := G.X.keeps base1
 have Y : EMakes S.M h1 (S.ca c) := ZbO XK (X.mkx c hc1 hc4)
 have hlt := Heap.lt_size he
 show wA _ _ (exec _ env >>= fun f => match f with | .next => execs _ env | f => pure f) _ _ _
 refine wB (Zgq (s := sh s h1 tk1) (fcls := .type "Exception") (f := .builtin "Exception.__init__") (u1 := .ref e) (U := fun u => u = v) F.kind hp rfl (fun Q q => ?_) (fun Q pl q => Zi1 XK q) (Zbq _) (fun tk Q q => ?_) fun tk u2 hu => ?_)
 ·exact Name_function_global F.kind F.kX (loadGlobal_builtin (env := env) (mg := mg) (mb := mb) (by rw [F.glob]; exact n1.keeps base1) n3 (by rw [F.blt]; exact n2.keeps base1) n4 q) (by decide +kernel)
 ·exact wpAny_items_cons (F.self (s := sh s h1 tk) (wpAny_items_cons (F.val (s := sh s h1 tk) (by decide +kernel) (wpAny_items_nil (q tk v rfl)))))
 ·cases hu
  refine Zkv (s := sh s h1 tk) Y he1 rfl rfl h0 ?_
  dsimp only
  have z1 : (h1.push (Zy [v])).get? e = some ⟨.ref (S.ca c), none, .fields vs, sl⟩ := Zd _ _ he1
  have z2 := Heap.get?_update_self (Obj.mapFields (·.setIfInBounds 0 (.ref h1.objs.size))) z1 rfl
  have z3 : ∀ b o, b ≠ e → h1.get? b = some o → ((h1.push (Zy [v])).update e (Obj.mapFields (·.setIfInBounds 0 (.ref h1.objs.size)))).get? b = some o := fun b o nb z => (Heap.get?_update_other _ _ (Ne.symm nb)).trans (Zd _ _ z)
  have F2 : Fr2 env s.heap.objs.size Zan ZcN (.ref e) v ((h1.push (Zy [v])).update e (Obj.mapFields (·.setIfInBounds 0 (.ref h1.objs.size)))) := F.at fun o z => z3 _ _ (Nat.ne_of_gt hlt) z
  generalize (h1.push (Zy [v])).update e (Obj.mapFields (·.setIfInBounds 0 (.ref h1.objs.size))) = h2 at z2 z3 F2 ⊢
  show wA _ _ (exec _ env >>= fun f => match f with | .next => execs [] env | f => pure f) _ _ _
  have base2 : ∀ b o, S.h₀.get? b = some o → h2.get? b = some o := fun b o z => z3 b o (fun y => by rw [y, hn] at z; exact nn z rfl) (base1 b o z)
  refine wB (plainObj_wpAny_Assign_Attribute (F2.val (s := sh s h2 tk) (by decide +kernel) (F2.self (s := sh s h2 tk) (Zfc (s := sh s h2 tk) (G.X.keeps base2) z2 rfl rfl rfl (Zmh ▸ X.keeps c 16 hc1 hc4 (.inl rfl)) fun h3 D tk3 y1 y2 y3 y4 y5 => ?_))))
  refine wP (q h3 tk3 D h1.objs.size y1 ?_ y3 y4 fun b o nb z => y5 b o nb (z3 b o nb (keep b o z)))
  cases w : s.heap.get? D with
  | none => rfl
  | some o => rw [z3 D o y3 (keep D o w)] at y2; cases y2
theorem Zr8 (G : Ground S) (X : ExcFacts S) (base : ∀ b o, S.h₀.get? b = some o → s.heap.get? b = some o) (dep : A.depth < 940)
 (he : s.heap.get? e = some ⟨.ref (S.ca 4), none, .fields vs, sl⟩) (h0 : vs[0]? = some (.ref t0)) (hn : S.h₀.get? e = none)
 (q : ∀ h' tk D t' tt, h'.get? e = some ⟨.ref (S.ca 4), some D, .fields (vs.setIfInBounds 0 (.ref t')), sl⟩ → s.heap.get? D = none → D ≠ e → h'.DictOf (PySem.strKind S.prog S.w) D [(Zan, .str (sO "too many steps") tt), (ZS, v)] →
  (∀ b o, b ≠ e → s.heap.get? b = some o → h'.get? b = some o) → R (.ok (.ret .none)) (sh s h' tk)) :
 cA S.M A (.call (.ref (S.fa 66)) ⟨[.ref e, v], []⟩) R s := by
 refine bc fun no => ?_; obtain ⟨p, K⟩ := X.i66; refine no ?_
 refine bc fun no => ?_; obtain ⟨mg, mb, g1, g2, g3, g4, g5, g6⟩ := G.glob; refine no ?_
 refine ZdW K G.nolimit base (by omega) fun env h1 tk1 p1 p2 p3 p4 p5 p6 p7 p8 p9 hp F keep hdep => ?_
 have he1 := keep _ _ he
 have base1 : ∀ b o, S.h₀.get? b = some o → h1.get? b = some o := fun b o z => keep _ _ (base b o z)
 have XK := G.X.keeps base1
 have hlt := Heap.lt_size he
 show wA _ _ (exec _ env >>= fun f => match f with | .next => execs _ env | f => pure f) _ _ _
 refine wB (Zgq (s := sh s h1 tk1) (fcls := .ref (S.ca 0)) (f := .ref (S.fa 65)) (u1 := .ref e) (U := fun u => ∃ t, u = .str (sO "too many steps") t) F.kind hp rfl (fun Q q => ?_) (fun Q pl q => ?_) (keeps_K X.kp h1 XK) (fun tk Q q => ?_) fun tk u2 hu => ?_)
 ·exact Name_function_global F.kind F.kX (loadGlobal_global (env := env) (mg := mg) (by rw [F.glob]; exact g1.keeps base1) (g5 0 (by omega)) q) (by decide +kernel)
 ·exact method_cls (s := sh s h1 tk1) XK X.supG (cls_value XK X.supR X.sup rfl (q _))
 ·exact wpAny_items_cons (F.self (s := sh s h1 tk) (wpAny_items_cons (wpAny_Constant_str (wpAny_items_nil (q _ _ ⟨_, rfl⟩)))))
 ·refine bc fun no => ?_; obtain ⟨tt, rfl⟩ := hu; refine no ?_
  refine wpAny_call (Zm6 (s := sh s h1 tk) G X (c := 4) (by omega) (by omega) base1 (by rw [hdep]; omega) he1 h0 hn fun h2 tk2 D t' y1 y2 y3 y4 y5 => ?_)
  have F2 : Fr2 env s.heap.objs.size ZS Zi0 (.ref e) v h2 := F.at fun o z => y5 _ _ (Nat.ne_of_gt hlt) z
  have base2 : ∀ b o, S.h₀.get? b = some o → h2.get? b = some o := fun b o z => y5 b o (fun y => by rw [y, hn] at z; exact nn z rfl) (base1 b o z)
  show wA _ _ (exec _ env >>= fun f => match f with | .next => execs [] env | f => pure f) _ _ _
  refine wB (plainObj_wpAny_Assign_Attribute (F2.val (s := sh s h2 tk2) (by decide +kernel) (F2.self (s := sh s h2 tk2) (Zgp (s := sh s h2 tk2) (G.X.keeps base2) y1 rfl rfl y4 (by simp) (an2 ▸ X.keeps 4 2 (by omega) (by omega) (.inr rfl)) fun h3 tk3 w1 w2 => ?_))))
  have dD : s.heap.get? D = none := by
   cases w : s.heap.get? D with
   | none => rfl
   | some o => rw [keep D o w] at y2; cases y2
  refine wP (q h3 tk3 D t' tt ((w2.2 e (Ne.symm y3)).trans y1) dD y3 ?_ fun b o nb z => ?_)
  ·have : stored [(Zan, Value.str (sO "too many steps") tt)] ZS v = [(Zan, .str (sO "too many steps") tt), (ZS, v)] := by
    unfold stored
    have : ¬ Zan = ZS := by decide +kernel
    rw [if_neg (by simp [this])]; rfl
   rw [← this]; exact w1
  ·have nD : b ≠ D := fun y => by rw [y, dD] at z; cases z
   exact (w2.2 b nD).trans (y5 b o nb (keep b o z))
end
theorem tms : sO "too many steps" = ⟨#[116, 111, 111, 32, 109, 97, 110, 121, 32, 115, 116, 101, 112, 115]⟩ := by decide +kernel
section
variable {S : SC} {C : Ze} {n : Nat} {F : Fm} {W W₀ W' : Wd} {ρ : En} {st : St} {A A' : Ar} {s : Sh} {lo h h' h₁ : Heap} {E : Vl → Sh → Prop}
theorem ZdX (e : Zcd c vs = some fs) : ∃ x, vs = [.d x] ∧ 1 ≤ c ∧ c ≤ 4 ∧ ((c = 4 ∧ fs = [(16, .str (sO "too many steps")), (2, x)]) ∨ (c ≤ 3 ∧ fs = [(16, x)])) := by
 have one : ∃ x, vs = [.d x] := by
  cases vs with
  | nil => exact nn e rfl
  | cons v r => cases v with
   | d x => cases r with
    | nil => exact ⟨x, rfl⟩
    | cons _ _ => exact nn e rfl
   | _ => exact nn e (by cases r <;> rfl)
 obtain ⟨x, rfl⟩ := one
 have e : (if c = 4 then some [(16, PyData.str ⟨#[116, 111, 111, 32, 109, 97, 110, 121, 32, 115, 116, 101, 112, 115]⟩), (2, x)] else if c = 1 ∨ c = 2 ∨ c = 3 then some [(16, x)] else none) = some fs := e
 refine ⟨x, rfl, ?_⟩
 by_cases h : c = 4
 ·subst h; cases e; exact ⟨by decide, by decide, .inl ⟨rfl, by rw [tms]⟩⟩
 ·rw [if_neg h] at e
  by_cases h2 : c = 1 ∨ c = 2 ∨ c = 3
  ·rw [if_pos h2] at e; cases e
   rcases h2 with rfl | rfl | rfl <;> exact ⟨by decide, by decide, .inr ⟨by decide, rfl⟩⟩
  ·rw [if_neg h2] at e; cases e
theorem Zmi (G : Ground S) (X : ExcFacts S) (R : Room A n) (I : Inv S W st s.heap) (ef : Zcd c [.d x] = some fs) (vx : DR W.own s.heap v x)
 (q : ∀ h' e vs tk, (∀ b o, s.heap.get? b = some o → h'.get? b = some o) → XO S W s.heap c fs e h' vs → vs[1]? = some .none → Q (.ref e) (sh s h' tk)) : wA S.M A (call (.ref (S.ca c)) [v]) Q E s := by
 obtain ⟨x', e', hc1, hc4, hf⟩ := ZdX ef
 cases e'
 have XK := G.X.keeps I.base
 have Y : EMakes S.M s.heap (S.ca c) := ZbO XK (X.mkx c hc1 hc4)
 have dep := (R.under (S.ca c) [v] []).depth
 have base := I.base
 have nown : ∀ a, s.heap.objs.size ≤ a → a ∉ W.own := fun a h m => by
  obtain ⟨o, z⟩ := (I.fresh a m).2
  rw [Zel a h] at z; cases z
 obtain ⟨h, g, d, t, os⟩ := s
 dsimp only at XK Y base vx q nown ⊢
 have k : ∀ b o, h.get? b = some o → ((h.push (Zy [v])).push (ZR (S.ca c) h.objs.size)).get? b = some o := fun b o e => Zd _ _ (Zd _ _ e)
 have he : ((h.push (Zy [v])).push (ZR (S.ca c) h.objs.size)).get? (h.objs.size + 1) = some (ZR (S.ca c) h.objs.size) := by
  have := Heap.get?_push_size (h.push (Zy [v])) (o := ZR (S.ca c) h.objs.size) rfl
  rwa [Heap.size_push] at this
 have edead : h.get? (h.objs.size + 1) = none := Zel _ (Nat.le_succ _)
 have en : S.h₀.get? (h.objs.size + 1) = none := by
  cases w : S.h₀.get? (h.objs.size + 1) with
  | none => rfl
  | some o => rw [base _ o w] at edead; cases edead
 have base2 : ∀ b o, S.h₀.get? b = some o → ((h.push (Zy [v])).push (ZR (S.ca c) h.objs.size)).get? b = some o := fun b o e => k b o (base b o e)
 have nowne : h.objs.size + 1 ∉ W.own := nown _ (Nat.le_succ _)
 have keep2 : ∀ {h' : Heap}, (∀ b o, b ≠ h.objs.size + 1 → ((h.push (Zy [v])).push (ZR (S.ca c) h.objs.size)).get? b = some o → h'.get? b = some o) → ∀ b o, h.get? b = some o → h'.get? b = some o := fun y b o z => y b o (fun w => by rw [w, edead] at z; cases z) (k b o z)
 have deadD : ∀ {D : Addr}, ((h.push (Zy [v])).push (ZR (S.ca c) h.objs.size)).get? D = none → h.get? D = none := fun {D} z => by
  cases w : h.get? D with
  | none => rfl
  | some o => rw [k D o w] at z; cases z
 have nownD : ∀ {D : Addr}, h.get? D = none → D ∉ W.own := fun {D} z m => by
  obtain ⟨o, w⟩ := (I.fresh D m).2
  dsimp only at w
  rw [z] at w; cases w
 have drx : ∀ {h' : Heap}, (∀ b o, h.get? b = some o → h'.get? b = some o) → DR W.own h' v x := fun y => DR.mono (fun b o e u u => y b o e) (fun u m => .inl m) vx
 rcases hf with ⟨rfl, rfl⟩ | ⟨h3, rfl⟩
 ·refine wpAny_call (Zgn (rest := [v]) Y (by show 1 ≤ sizeLine; rw [sizeLine_eq]; decide) (looks_findIn XK X.ini4) (fun self => bind_fn XK self X.t66) ?_)
  refine Zr8 (s := ⟨(h.push (Zy [v])).push (ZR (S.ca 4) h.objs.size), g, d, t, os⟩) G X base2 (by first | exact Nat.le_succ _ | exact Nat.lt_succ_self _ | omega) he rfl en fun h' tk D t' tt y1 y2 y3 y4 y5 => ⟨rfl, ?_⟩
  have kk := keep2 y5
  have dD := deadD y2
  exact q h' (h.objs.size + 1) _ tk kk ⟨⟨_, D, _, y1, rfl, rfl, rfl, y4, .cons ⟨Zmh.symm, .str _ _⟩ (.cons ⟨an2.symm, drx kk⟩ .nil), dD, nownD dD⟩, by simp, edead, nowne⟩ rfl
 ·refine wpAny_call (Zgn (rest := [v]) Y (by show 1 ≤ sizeLine; rw [sizeLine_eq]; decide) (looks_findIn XK (X.ini c hc1 h3)) (fun self => bind_fn XK self X.t65) ?_)
  refine Zm6 (s := ⟨(h.push (Zy [v])).push (ZR (S.ca c) h.objs.size), g, d, t, os⟩) G X hc1 hc4 base2 (by omega) he rfl en fun h' tk D t' y1 y2 y3 y4 y5 => ⟨rfl, ?_⟩
  have kk := keep2 y5
  have dD := deadD y2
  exact q h' (h.objs.size + 1) _ tk kk ⟨⟨_, D, _, y1, rfl, rfl, rfl, y4, .cons ⟨Zmh.symm, drx kk⟩ .nil, dD, nownD dD⟩, by simp, edead, nowne⟩ rfl
theorem Zkw (hh : A.handled = none)
 (h : wA M A x (fun v s₁ => ∃ e C oe vs, v = .ref e ∧ EMakes M s₁.heap C ∧ s₁.heap.get? e = some oe ∧ oe.cls = .ref C ∧ oe.data = .fields vs ∧ vs[1]? = some .none ∧ E (.ref e) s₁) E s) : wA M A (raiseStmt env (some x) none) Q E s := by
 unfold raiseStmt
 refine wB (wM h (fun v s₁ z => ?_) fun y y x => x)
 refine bc fun no => ?_; obtain ⟨e, C, oe, vs, rfl, Y, he, hc, hd, h1, hE⟩ := z; refine no ?_
 refine bc fun no => ?_; obtain ⟨hp, g, d, tk, os⟩ := s₁; refine no ?_
 refine bc fun no => ?_; obtain ⟨oc, od, odt, osl⟩ := oe; refine no ?_
 dsimp only at hc hd
 subst hc hd
 have T : Looks M hp (typeOf (.ref e)) (.ref C) := (Looks.ld he).andThen .now
 have it : Looks M hp (isType (.ref e)) false := (Looks.ld he).andThen .now
 have ex : ∀ m, Looks M hp (excFromValue (.ref e) m) (.ref e) := fun m => Looks.andThen (it.andThen (lel Bool.false_ne_true .now) : Looks M hp (isExcClass (.ref e)) false) (lel Bool.false_ne_true ((T.andThen Y.bexc : Looks M hp (isInstance (.ref e) (.type "BaseException")) true).andThen (lif rfl .now)))
 have ri : Looks M hp (raisedInstance (.ref e)) (.ref e) := T.andThen (Y.tof.andThen (lif rfl .now))
 have sf : Looks M hp (setFlight (.ref e) none) () := (looks_field he 1 h1).andThen (lel Bool.false_ne_true .now)
 exact wB (wP (wB (wH ((ex _).at (wB (it.at (wel Bool.false_ne_true (wB (ri.at (wB (sf.at (wB (wpAny_handled (hh.symm ▸ wpAny_throw hE))))))))))))))
theorem Zqy (G : Ground S) (X : ExcFacts S) (hl : ZaW S C n as) : Zad S C n (.rse g as p1 p2 p) := by
 intro F A W ρ st s O fn ok I Fi ne
 simp only [Zom, bA, decide_eq_true_eq] at ok
 obtain ⟨⟨⟨⟨g1, g4⟩, okn⟩, okl⟩, okz⟩ := ok
 rw [ZnL] at ne ⊢
 have nel : evL C as ρ st ≠ .no := ZI ne
 show wA _ _ (exec (.Raise (some (.Call (.Name (Cn g) p1) (toL F.ns as) [] p2)) none p) F.env) _ _ _
 rw [arm_exec_Raise]
 refine wB (wS (Zkw O.room.handled ?_))
 have body : ∀ (Q : Vl → Sh → Prop), (∀ e vs' fs st' W' h' tk x, evL C as ρ st = .ok [.d x] st' → Zcd g [.d x] = some fs → Step W W' F.cur s.heap h' → Inv S W' st' h' → FI S F W' ρ h' → XO S W' s.heap g fs e h' vs' → vs'[1]? = some .none → Q (.ref e) (sh s h' tk)) →
  wA S.M A (eval (.Call (.Name (Cn g) p1) (toL F.ns as) [] p2) F.env) Q (EX S F W s (onR ρ (evL C as ρ st) fun vs st => oX (Zcd g vs) fun fs => .ex g fs ρ st)) s := by
  intro Q q
  refine wpAny_Call_ofName (Zgl O G I g4 okn ?_)
  refine callWith_of (P := fun h' => ∃ W' st', Inv S W' st' h') (by show ((backTo p2 (starEach (toL F.ns as) F.env)).any (·.1) || _) = false; rw [Zbo okl]; rfl) (fun h' ⟨W', st', I'⟩ => ?_) ?_
  ·obtain ⟨⟨oc, od, cd, sl, hC, _⟩, _, _, _, _, _, _, _, call, _⟩ := ZbO (M := S.M) (G.X.keeps I'.base) (X.mkx g g1 g4)
   exact ⟨.machine, .inr (.inl rfl), (Looks.ld (part := none) hC).andThen (call.andThen .now)⟩
  ·refine ZdM hl O okl I Fi nel (fun x s' z => ?_) fun vs us st' W' h' tk e P I' Fi' va => ⟨⟨W', st', I'⟩, ?_⟩
   ·obtain ⟨c, fs, st', W', a, e1, rfl, h', tk, rfl, P, I', Fi', X'⟩ := z
    rw [e1]
    exact ⟨c, fs, ρ, st', W', a, rfl, rfl, h', tk, rfl, P, I', Fi', X'⟩
   ·have ne := ZQ ne e
    cases ef : Zcd g vs with
    | none => rw [ef] at ne; exact absurd rfl ne
    | some fs =>
     obtain ⟨x, rfl, _⟩ := ZdX ef
     obtain ⟨u, rfl, vu⟩ : ∃ u, us = [u] ∧ VR S W' h' u (.d x) := by
      cases va with
      | cons vu t => cases t; exact ⟨_, rfl, vu⟩
     refine Zmi (s := sh s h' tk) G X O.room I' ef vu fun h2 e2 vs2 tk2 k x2 z2 => ?_
     refine q e2 vs2 fs st' W' h2 tk2 x e ef (P.trans (.keeps k)) (I'.grow k) (Fi'.grow k) ?_ z2
     exact x2.weaken (fun b n w => (P.pers.dead w).resolve_left fun m => n (P.ext.own _ m)) fun y m => m
 refine wB (body _ fun e vs' fs st' W' h' tk x e1 ef P I' Fi' x2 z2 => ?_)
 refine wB (wS ?_)
 refine wP ?_
 obtain ⟨oe, D, kvs, a1, a2, a3, a4, _⟩ := id x2.obj
 refine ⟨e, S.ca g, oe, vs', rfl, ZbO (G.X.keeps I'.base) (X.mkx g g1 g4), a1, a2, a4, z2, ?_⟩
 exact ⟨g, fs, ρ, st', W', e, by rw [e1]; exact congrArg (fun o => oX o fun fs => RX.ex g fs ρ st') ef, rfl, h', tk, rfl, P, I', Fi', vs', x2, .inl z2⟩
end
structure ExcGet (S : SC) : Prop where
 gets : ∀ c, c ≤ 4 → findIn S.K (.ref (S.ca c)) "__getattribute__" = some (some (.builtin "BaseException.__getattribute__")) ∧ findIn S.K (.ref (S.ca c)) "__getattr__" = some none ∧ EKeeps S.K (S.ca c) (An 16)
section
variable {prog : Program} {w : World} {A : Ar} {E : Vl → Sh → Prop} {K : Frag} {C x : Addr} {s : Sh} {R : Result → Sh → Prop}
theorem ZoO (X : K.In s.heap) (I : InstAt s.heap x ox C od) (hga : findIn K (.ref C) "__getattribute__" = some (some (.builtin "BaseException.__getattribute__"))) (hgt : findIn K (.ref C) "__getattr__" = some none)
 (hb : Looks (model prog w) s.heap (isSubtype (.ref C) (.type "BaseException")) true) (hf : findObj K C od name = some (.value v)) (hh : handedIn v = true) (q : Q v { s with toks := s.toks + 1 }) : wA (model prog w) A (getAttr (.ref x) name true) Q E s := by
 have L0 := I.type (M := model prog w)
 have LH : Looks (model prog w) s.heap (hookBefore (.ref C)) none := looks_hook X (r := none) hgt
 refine wB (wpAny_mkText (wH (wB (L0 _ _ _ _ (fun y y e => e) (wB (looks_findIn X hga _ _ _ _ (fun y y e => e) ?_))))))
 dsimp only
 rw [show (onTheHeap (.ref C) && Value.builtin "BaseException.__getattribute__" == Value.builtin "object.__getattribute__") = false from by rw [show (Value.builtin "BaseException.__getattribute__" == Value.builtin "object.__getattribute__") = false from by decide +kernel, Bool.and_false], if_neg (by decide)]
 refine wB (LH _ _ _ _ (fun y y e => e) (wB (wpAny_attempt (wH ?_))))
 unfold callGetattribute
 rw [show (true && onTheHeap (Value.builtin "BaseException.__getattribute__")) = false from Bool.and_false _, if_neg (by decide)]
 unfold boundAndCalled
 rw [PySem.F.attr_Exception.ga.bind]
 refine wB (wP ?_)
 show wA _ _ (call (.builtin "BaseException.__getattribute__") [.ref x, .str name s.toks]) _ _ _
 refine wpAny_call ?_
 refine codeAny_call_builtin PySem.F.attr_Exception.ga.plain PySem.F.entry_bexc_ga ?_
 refine @check_slot (model prog w) _ _ { s with toks := s.toks + 1 } "BaseException.__getattribute__" "BaseException" "__getattribute__" (.ref x) [.str name s.toks] [] _ (by decide +kernel) (by decide +kernel) (L0.andThen hb) (PySem.F.args_bexc_ga _ _) ?_
 unfold Builtin.«object.__getattribute__»
 refine wB (wP (wB (wP (wB (L0 _ _ _ _ (fun y y e => e) (wB (looks_find X I hf _ _ _ _ (fun y y e => e) ?_)))))))
 refine wP ?_
 show wA _ _ (handedOut v) _ _ _
 exact handed_on hh q
end
section
variable {S : SC} {C : Ze} {n : Nat} {F : Fm} {W W₀ W' : Wd} {ρ : En} {st : St} {A A' : Ar} {s : Sh} {lo h h' h₁ : Heap} {E : Vl → Sh → Prop}
theorem Zr9 {q a : Nat} (ha : a < AN.length) (hd : ¬ An a = default) (ne : ¬ q = a) : ¬ An q = An a := fun e => by
 by_cases hq : q < AN.length
 ·exact ne (ZfZ hq ha e)
 ·refine hd (e.symm.trans ?_)
  unfold An
  rw [List.getD_eq_getElem?_getD, List.getElem?_eq_none (Nat.le_of_not_lt hq)]; rfl
theorem Zi2 {R : Vl → PD → Prop} (ha : a < AN.length) (hd : ¬ An a = default) (e : Zav a fs = some y) (aa : All2 (fun (kv : Str × Vl) (f : Nat × PD) => kv.1 = An f.1 ∧ R kv.2 f.2) kvs fs) : ∃ u, valueAt kvs (An a) = some u ∧ R u y := by
 induction aa with
 | nil => exact nn e rfl
 | @cons x1 x2 kvs fs h t IH =>
  obtain ⟨k, v⟩ := x1
  obtain ⟨q, z⟩ := x2
  obtain ⟨h1, h2⟩ := h
  dsimp only at h1 h2
  simp only [ZmQ] at e
  by_cases eq : q = a
  ·rw [if_pos eq] at e
   cases e
   subst eq
   exact ⟨v, by simp [valueAt, h1], h2⟩
  ·rw [if_neg eq] at e
   obtain ⟨u, u1, u2⟩ := IH e
   have ne : ¬ k = An a := fun z' => Zr9 ha hd eq (h1.symm.trans z')
   refine ⟨u, ?_, u2⟩
   simp only [valueAt, List.find?_cons, decide_eq_false ne] at u1 ⊢
   exact u1
theorem Zqz (G : Ground S) (Y : ExcGet S) : ZcM S := by
 intro A W lo c fs e s vs a y Q E base xo hc ha hy q
 refine bc fun no => ?_; obtain ⟨oe, D, kvs, a1, a2, a3, a4, a5, a6, a7, a8⟩ := xo.obj; refine no ?_
 refine bc fun no => ?_; obtain ⟨hga, hgt, ⟨cd, hcd, hdict, htail⟩, hsa, hno⟩ := Y.gets c hc; refine no ?_
 have XK := G.X.keeps base
 refine bc fun no => ?_; obtain ⟨oD, hoD, hlk⟩ := ZcD a5; refine no ?_
 have It : InstAt s.heap e oe (S.ca c) (some oD) := ⟨a1, a2, by unfold notCls; rw [a4], by rw [a3]; exact hoD⟩
 subst ha
 refine bc fun no => ?_; obtain ⟨u, u1, u2⟩ := Zi2 (R := fun u y => DR W.own s.heap u y) (by decide +kernel) (by decide +kernel) hy a6; refine no ?_
 have hb : Looks S.M s.heap (isSubtype (.ref (S.ca c)) (.type "BaseException")) true := by
  have ne : cd.mro.isEmpty = false := by cases q : cd.mro with | nil => rw [q] at htail; exact nf htail rfl | cons _ _ => rfl
  exact looks_mroIn XK (by unfold mroIn; rw [hcd, Option.bind_some, if_neg (by rw [ne]; decide), (Zgo _ (Nat.le_refl _) htail).2])
 refine ZoO XK It hga hgt hb (v := u) ?_ ?_ (q u _ u2)
 ·unfold findObj
  rw [hcd, Option.bind_some, hno, Option.bind_some]
  show (PySem.W.ownOf cd (some oD) (An 16)).bind _ = _
  unfold PySem.W.ownOf
  rw [if_pos hdict]
  dsimp only
  rw [hlk, u1]; rfl
 ·cases u2 <;> rfl
end
noncomputable def Zbj (S : SC) (C : Ze) (n : Nat) : Prop := ∀ (v : MV) (u : Vl) (st : St) (W : Wd) (s : Sh) (A : Ar) (fl : List Env) (x : Vl) (l : Nat), A.frames = some fl → Zds W s.heap fl → RoomC A n → Inv S W st s.heap → VR S W s.heap x (.loc l) → VR S W s.heap u v → C 61 (.loc l :: Zaw v) st ≠ .no →
 cA S.M A (.call (.ref (S.fa 61)) ⟨[x], [(ZS, u)]⟩) (RC' S W s (C 61 (.loc l :: Zaw v) st)) s
structure LimAt (S : SC) : Prop where
 run : ∃ fd d, Za0 61 = some fd ∧ FnAt S 61 fd d ∧ ∀ (s : Sh) (x u : Vl), (∀ b o, S.h₀.get? b = some o → s.heap.get? b = some o) → ∃ binds t1 t2 t3 t4 t5 t6 t7, BindsTo s d ⟨[x], [(ZS, u)]⟩ binds ∧ (binds.map (·.1)).Nodup ∧
  (∀ p ∈ (fd.ns.take fd.np).zip [x, .int 32 t1, .int 7 t2, .int 15 t3, .int 38 t4, u, .int 19 t5, .int 72 t6, .int 40 t7], p ∈ binds) ∧ ∀ p ∈ binds, p.1 ∈ fd.ns.take fd.np
section
variable {S : SC} {C : Ze} {n : Nat} {F : Fm} {W W₀ W' : Wd} {ρ : En} {st : St} {A A' : Ar} {s : Sh} {lo h h' h₁ : Heap} {E : Vl → Sh → Prop}
theorem Zsa (G : Ground S) (L : LimAt S) (hb : ∀ fd, Za0 61 = some fd → Z3 S (Zi n) n fd.body) : Zbj S (Zi (n + 1)) (n + 1) := by
 intro v u st W s A fl x l hf hfl R I vx vu ne
 refine bc fun no => ?_; obtain ⟨fd, d, e, K, hB⟩ := L.run; refine no ?_
 refine bc fun no => ?_; obtain ⟨binds, t1, t2, t3, t4, t5, t6, t7, b1, b2, b3, b4⟩ := hB s x u I.base; refine no ?_
 have eq : Zi (n + 1) 61 (.loc l :: Zaw v) st = Zai (Zi n) fd (.loc l :: Zaw v) st := by
  rw [ZcV, e]
 rw [eq] at ne ⊢
 exact Zm5 G K (hb fd e) b1 b2 b3 b4 hf hfl R I (.cons vx (.cons (.int _ _) (.cons (.int _ _) (.cons (.int _ _) (.cons (.int _ _) (.cons vu (.cons (.int _ _) (.cons (.int _ _) (.cons (.int _ _) .nil))))))))) ne
theorem ZoP (G : Ground S) (H : Zbj S C n) (hf : A.frames = some fl) (hfl : Zds W s.heap fl) (R : Room A n) (I : Inv S W st s.heap) (vu : VR S W s.heap u v) (ne : ZH C 8 (Zaw v) st ≠ .no) :
 cA S.M A (.call (.ref (S.ca 8)) ⟨[], [(ZS, u)]⟩) (RC' S W s (ZH C 8 (Zaw v) st)) s := by
 have hc : Zw 8 = some 61 := by decide +kernel
 have hi : (Zw 8).isSome = true := by rw [hc]; rfl
 refine bc fun no => ?_; obtain ⟨_, hp, hm, _⟩ := G.ins 8 hi; refine no ?_
 refine bc fun no => ?_; obtain ⟨i1, i2⟩ := G.inits 8 61 hc; refine no ?_
 have X := G.X.keeps I.base
 refine bc fun no => ?_; obtain ⟨hh, g, d, t, os⟩ := s; refine no ?_
 refine bc fun no => ?_; obtain ⟨I₂, P, vx, ne2, back⟩ := ZeI (s := ⟨hh, g, d, t, os⟩) I hi ne hc _ rfl rfl; refine no ?_
 refine make_core (makes_of X hm) (looks_findIn X i1) (fun self => bind_fn X self i2) (.inl rfl) ?_
 refine codeAny_mono (H v u (st ++ [.inst 8 []]) _ _ _ fl (.ref (hh.objs.size + 1)) st.length ((ZcJ _).trans hf) ?_ (R.under _ _ _) I₂ vx (vu.mono P.grow) ne2) back
 intro e m
 refine bc fun no => ?_; obtain ⟨x1, L', x2, x3, x4, o', x5, x6⟩ := hfl e m; refine no ?_
 exact ⟨x1, L', x2, x3, x4, o', Zd _ _ (Zd _ _ x5), x6⟩
theorem ZoQ (G : Ground S) (H : Zbj S C n) (he : Snd S C n e) : Snd S C n (.lim e p1 p2 p) := by
 intro F A W ρ st s O ok I Fi ne
 have ok := ba2 ok
 simp only [Zp8] at ne ⊢
 refine bc fun no => ?_; obtain ⟨mg, mb, g1, _, _, g4, _⟩ := G.glob; refine no ?_
 show wA _ _ (eval (.Call (.Name (sO "Limits") p1) [] [⟨some (sO "steps"), toE F.ns e, p2⟩] p) F.env) _ _ _
 refine wpAny_Call_ofName (Zex O G I ok.2 (fun y y y => trivial) ⟨mg, g1, g4⟩ ?_)
 have hi : (Zw 8).isSome = true := by decide +kernel
 refine callWith_of (P := fun h' => ∃ W' st', Inv S W' st' h') rfl (fun h' w9 => (by obtain ⟨W', st', I'⟩ := w9; exact Zf8 G I' hi)) ?_
 refine evalArgs_kw2_nil rfl (kwAll_cons (wM (he F A W ρ st s O ok.1 I Fi (Zh ne)) (fun u s' z => ?_) fun x s' z => z.left))
 refine bc fun no => ?_; obtain ⟨v, st', W', e1, h', tk, rfl, P, I', Fi', vu⟩ := z; refine no ?_
 have ne2 := Zf ne e1
 refine kwAll_nil ⟨⟨W', st', I'⟩, ?_⟩
 show wA _ _ (call (.ref (S.ca 8)) [] [(ZS, u)]) _ _ _
 refine wpAny_call (codeAny_mono (ZoP (s := sh s h' tk) G H O.frames Fi'.fl O.room I' vu ne2) fun r s' z => ?_)
 rcases r with x | (x | _ | _ | _) <;> first | exact z.elim | skip
 ·exact (ZiQ Fi' z).lift P e1
 ·exact (ZiP Fi' z).lift P e1
end
end
section
open PySem PySem.W PySem.Calls PyProof.Rows PySem.Spec
section
variable {prog : Program} {w : World} {K : Type} [DecidableEq K] {knd : KeyKind prog w K} {A : Ar} {E : Vl → Sh → Prop} {s : Sh}
theorem ZqA {kvs : List (K × Vl)} (hf : k ∉ kvs.map (·.1)) : ¬ (kvs.any fun kv => decide (kv.1 = k)) = true := by
 rw [List.any_eq_true]
 rintro ⟨kv, hkv, he⟩
 exact hf (List.mem_map.mpr ⟨kv, hkv, of_decide_eq_true he⟩)
theorem Zhz (hkey : knd.is k key = true) (hm : s.heap.DictOf knd d kvs) (hf : k ∉ kvs.map (·.1)) (hsz : kvs.length ≤ 1000)
 (q : ∀ h', h'.DictOf knd d (kvs ++ [(k, v)]) → Heap.SameBut d s.heap h' → Q () { s with heap := h' }) : wA (model prog w) A (dictPut d (knd.hash k) key v) Q E s := by
 obtain ⟨o, es, ep, ho, hc, hd, hk, hp, hn⟩ := hm
 have hes : es.size ≤ sizeLine := by
  rw [← Array.length_toList, hp.length, sizeLine_eq]
  exact Nat.le_trans hsz (by decide)
 have hno : (es.findIdx? fun e => knd.is k e.key) = none := by
  have e := hp.findIdx k
  obtain ⟨l⟩ := es
  refine (List.findIdx?_toArray ..).trans (e.trans (List.findIdx?_eq_none_iff.mpr ?_))
  exact fun kv hkv => decide_eq_false fun e => hf (List.mem_map.mpr ⟨kv, hkv, e⟩)
 refine wB (wpAny_dictFind_of hkey ho hd hk (hno.symm ▸ ?_))
 refine wpAny_updateDictKeys (hz := hes) ho hd (q _ ⟨_, _, ep + 1, Heap.get?_update_self _ ho (Obj.isFreed_of_dict (Obj.data_mapDictKeys hd _)), hc.mapDictKeys _, Obj.data_mapDictKeys hd _, hk.push hkey _, ?_, ?_⟩ (Heap.SameBut.update ..))
 ·rw [Array.toList_push]; exact hp.append hkey (knd.hash k) v
 ·rw [List.map_append, List.nodup_append]
  exact ⟨hn, List.nodup_cons.mpr ⟨List.not_mem_nil, List.nodup_nil⟩, fun a ha b hb e => hf (by have e : a = k := e.trans (lS9.mp hb); exact e ▸ ha)⟩
theorem Zi3 (hr : x :: rest = List.range' i (n - i)) : x = i ∧ i < n ∧ rest = List.range' (i + 1) (n - (i + 1)) := by
 rcases Nat.lt_or_ge i n with h | h
 ·rw [← Nat.succ_pred_eq_of_pos (Nat.sub_pos_of_lt h), List.range'_succ] at hr
  injection hr with h1 h2
  exact ⟨h1, h, h2⟩
 ·rw [Nat.sub_eq_zero_of_le h] at hr; exact nomatch hr
theorem Zkx (hr : [] = List.range' i (n - i)) (hi : i ≤ n) : i = n := by
 rcases Nat.lt_or_ge i n with h | h
 ·rw [← Nat.succ_pred_eq_of_pos (Nat.sub_pos_of_lt h), List.range'_succ] at hr; exact nomatch hr
 ·exact Nat.le_antisymm hi h
theorem ZeO {l : List α} (h : l[x]? = some y) : l.take (x + 1) = l.take x ++ [y] := by rw [List.take_add_one, h]; rfl
theorem Zi4 {kvs more : List (K × Vl)} {x : Nat} (h : more[x]? = some (k, v)) (nd : ((kvs ++ more).map (·.1)).Nodup) : k ∉ (kvs ++ more.take x).map (·.1) := by
 have nd2 : ((kvs ++ more.take (x + 1)).map (·.1)).Nodup := List.Sublist.nodup (List.Sublist.map _ (List.Sublist.append_left (List.take_sublist _ _) _)) nd
 rw [ZeO h, ← List.append_assoc, List.map_append, List.nodup_append] at nd2
 exact fun m => nd2.2.2 k m k (.head _) rfl
theorem ZqB (hp : Pairs knd es.toList kvs) (hk : KeysOf knd es) (h : i < es.size) : ∃ k key v, es[i]? = some ⟨knd.hash k, key, v⟩ ∧ kvs[i]? = some (k, v) ∧ knd.is k key = true := by
 have hl : i < kvs.length := by rw [← hp.length, Array.length_toList]; exact h
 obtain ⟨hkey, hval⟩ := hp.get? (i := i) (e := es[i]) (by rw [Array.getElem?_toList, Array.getElem?_eq_getElem h]) (List.getElem?_eq_getElem hl)
 obtain ⟨k', hkey', hhash⟩ := hk es[i] (Array.getElem_mem h)
 have e := knd.inj _ _ _ hkey' hkey
 exact ⟨_, _, _, by rw [Array.getElem?_eq_getElem h, ← e, ← hhash, ← hval], List.getElem?_eq_getElem hl, hkey⟩
theorem Zky {d a : Addr} {kvs more : List (K × Vl)} (hda : d ≠ a) (hS : (a == sysModules) = false) (hd : s.heap.DictOf knd d kvs) (ha : s.heap.DictOf knd a more) (h0 : kvs ≠ []) (nd : ((kvs ++ more).map (·.1)).Nodup) (hl : (kvs ++ more).length ≤ 1000)
 (q : ∀ h', h'.DictOf knd d (kvs ++ more) → Heap.SameBut d s.heap h' → Q () { s with heap := h' }) : wA (model prog w) A (mergeMapping d (.ref a) false) Q E s := by
 refine bc fun no => ?_; obtain ⟨od, esd, epd, hod, hcd, hdd, hkd, hpd, hnd⟩ := id hd; refine no ?_
 refine bc fun no => ?_; obtain ⟨oa, esa, epa, hoa, hca, hda', hka, hpa, hna⟩ := id ha; refine no ?_
 have hlen : more.length = esa.size := by rw [← hpa.length, Array.length_toList]
 have hS' : ¬ (a == sysModules) = true := hS ▸ Bool.false_ne_true
 have hne : ¬ esd.isEmpty = true := fun q => by
  have := hpd.length
  rw [Array.isEmpty_iff.mp q] at this
  exact absurd (List.length_eq_zero_iff.mp this.symm) h0
 refine wB (wpAny_isInstance ha.typeIs isSubtype_dict_dict (wif rfl (wB (wpAny_specialOf ha.typeIs PySem.F.slot_dict_iter.lookup (wB (wP ?_))))))
 refine (beq_self_eq_true (some (Value.builtin "dict.__iter__"))).symm ▸ ?_
 refine wel hS' (wB (wpAny_dictEntries hod hdd (wel hne (wB (wpAny_dictEntries hoa hda' (wB (wpAny_dictEpoch hoa hda' (wB ?_))))))))
 refine wpAny_forIn_list _
  (fun rest _ s' => ∃ h' i, s' = { s with heap := h' } ∧ rest = List.range' i (esa.size - i) ∧ i ≤ esa.size ∧ h'.DictOf knd d (kvs ++ more.take i) ∧ h'.get? a = some oa ∧ Heap.SameBut d s.heap h')
  _ ?_ ?_ _ _ ⟨s.heap, 0, rfl, by simp [List.range_eq_range'], Nat.zero_le _, by simpa using hd, hoa, Heap.SameBut.refl _ _⟩
 ·intro x rest b s' z9
  obtain ⟨h', i, rfl, hr, hi, hd', hoa', hs'⟩ := z9
  obtain ⟨rfl, hlt, hrest⟩ := Zi3 hr
  obtain ⟨k, key, v, he, hkv, hkey⟩ := ZqB hpa hka hlt
  refine wB (wpAny_dictEntries hoa' hda' (he.symm ▸ wB (wH (Zhz hkey hd' (Zi4 hkv nd) ?_ fun h'' hd'' hs'' => ?_))))
  ·rw [List.length_append] at hl ⊢
   exact Nat.le_trans (Nat.add_le_add_left (List.length_take_le' _ _) _) hl
  ·have hoa'' : h''.get? a = some oa := (hs''.2 a (Ne.symm hda)).trans hoa'
   exact wB (wpAny_dictEpoch hoa'' hda' (wel (by simp) (wP ⟨h'', x + 1, rfl, hrest, hlt, by rw [ZeO hkv, ← List.append_assoc]; exact hd'', hoa'', hs'.trans hs''⟩)))
 ·intro b s' z9
  obtain ⟨h', i, rfl, hr, hi, hd', hoa', hs'⟩ := z9
  rw [Zkx hr hi, ← hlen, List.take_length] at hd'
  exact wP (q h' hd' hs')
end
noncomputable abbrev GI := Option Addr × List (Sem Vl × Sem Vl)
theorem Zi5 : ∃ (f : (Option (Sem Vl) × Sem Vl) → GI → Sem (ForInStep GI)) (k : GI → Sem Vl), (∀ l, dictDisplay l = forIn l (none, []) f >>= k) ∧
 (∀ m (p : Sem Vl × Sem Vl) run, run.length + 1 < 17 → f (some p.1, p.2) (m, run) = pure (.yield (m, run ++ [p]))) ∧
 (∀ run (p : Sem Vl × Sem Vl), run.length = 16 → f (some p.1, p.2) (none, run) = subDict (run ++ [p]) >>= fun d => pure (.yield (some d, []))) ∧
 (∀ d run, run.isEmpty = false → k (some d, run) = (do
  let sub ← holding [.ref d] (subDict run)
  (holding [.ref d, .ref sub] (mergeMapping d (.ref sub) false)).onRaise fun x => do let _ ← holding [.ref d, x] (runValue (.builtin "proto.let_go" {}))
  pure (.ref d))) := by
 refine ⟨_, _, fun l => rfl, fun m p run h => if_neg fun z => ?_, fun run p h => (if_pos ?_).trans ?_, fun d run h => ?_⟩
 ·have := eq_of_beq z; rw [List.length_append] at this; exact absurd this (Nat.ne_of_lt h)
 ·rw [List.length_append, h]; rfl
 ·refine (congrArg (· >>= _) (if_neg ?_)).trans ?_
  ·cases run with
   | nil => cases h
   | cons _ _ => exact Bool.false_ne_true
  ·rw [bind_assoc]; rfl
 ·refine (congrArg (· >>= _) (if_neg (h ▸ Bool.false_ne_true))).trans ?_
  simp only [bind_assoc, pure_bind]
theorem Zdg (f : (Option (Sem Vl) × Sem Vl) → GI → Sem (ForInStep GI)) (m : Option Addr) (hf : ∀ (p : Sem Vl × Sem Vl) run, run.length + 1 < 17 → f (some p.1, p.2) (m, run) = pure (.yield (m, run ++ [p]))) (rest : List (Option (Sem Vl) × Sem Vl)) (items : List (Sem Vl × Sem Vl)) :
 ∀ run : List (Sem Vl × Sem Vl), run.length + items.length < 17 → forIn (items.map (fun p => (some p.1, p.2)) ++ rest) (m, run) f = forIn rest (m, run ++ items) f := by
 induction items with
 | nil => intro run _; rw [List.append_nil]; rfl
 | cons p items ih =>
  intro run h
  have h : run.length + (items.length + 1) < 17 := h
  rw [lM9, List.cons_append, List.forIn_cons, hf p run (Nat.lt_of_le_of_lt (Nat.add_le_add_left (Nat.le_add_left 1 _) _) h), pure_bind]
  refine (ih (run ++ [p]) ?_).trans ?_
  ·rw [List.length_append, Nat.add_assoc]; exact Nat.add_comm items.length 1 ▸ h
  ·rw [List.append_assoc]; rfl
theorem Zkz (A B : List (Sem Vl × Sem Vl)) (p : Sem Vl × Sem Vl) (hA : A.length = 16) (hB : B.length = 7) : dictDisplay ((A ++ p :: B).map fun p => (some p.1, p.2)) = (do
 let d ← subDict (A ++ [p])
 let sub ← holding [.ref d] (subDict B)
 (holding [.ref d, .ref sub] (mergeMapping d (.ref sub) false)).onRaise fun x => do let _ ← holding [.ref d, x] (runValue (.builtin "proto.let_go" {}))
 pure (.ref d)) := by
 obtain ⟨f, k, e, p1, p2, p3⟩ := Zi5
 rw [e, List.map_append, Zdg f none (p1 none) _ A [] (by rw [hA]; decide), lM9, List.forIn_cons, List.nil_append, p2 A p hA, bind_assoc, bind_assoc]
 refine congrArg (subDict (A ++ [p]) >>= ·) (funext fun d => ?_)
 rw [pure_bind, ← List.append_nil (B.map _)]
 refine (congrArg (· >>= k) (Zdg f (some d) (p1 _) [] B [] (by rw [hB]; decide))).trans ?_
 rw [List.forIn_nil, pure_bind, List.nil_append]
 exact p3 d B (by cases B with
  | nil => cases hB
  | cons _ _ => rfl)
section
variable {S : SC} {C : Ze} {n : Nat} {F : Fm} {W W' : Wd} {ρ : En} {st : St} {A : Ar} {s : Sh} {h h' h₁ : Heap} {E : Vl → Sh → Prop}
theorem ZoR (O : FmOk F A n) (G : Ground S) (base : ∀ b o, S.h₀.get? b = some o → s.heap.get? b = some o) (hv : gv g = some (.fn f)) (ok : okG F.env.scope.names (Gn g) = true) (q : Q (.ref (S.fa f)) s) :
 wA S.M A (eval (.Name (Gn g) p) F.env >>= fun x => standAt pos >>= fun y => pure x) Q E s := by
 refine bc fun no => ?_; obtain ⟨mg, mb, g1, _, g3, _⟩ := G.glob; refine no ?_
 refine bc fun no => ?_; obtain ⟨u, u1, u2⟩ := g3 g _ hv; refine no ?_
 cases u2
 simp only [okG, nmk, bA, beq_iff_eq, Bool.not_eq_true'] at ok
 exact wB (Name_function_global O.kind ok.1 (loadGlobal_global (env := F.env) (by rw [O.glob]; exact g1.keeps base) u1 (wB (wS (wP q)))) ok.2)
noncomputable def ZaY : CL → List Nat
 | .cons (.glb g _) r => (match gv g with | some (.fn f) => f | _ => 0) :: ZaY r
 | _ => []
theorem ZoS : ZaY (.cons (.glb g p) r) = (match gv g with | some (.fn f) => f | _ => 0) :: ZaY r := rfl
theorem ZqC (h : (CL.cons e .nil).allFn = true) : ∃ g p, e = .glb g p := by cases e <;> first | exact ⟨_, _, rfl⟩ | exact nf h rfl
theorem Zsb {o : Option MV} (h : (match o with | some (.fn _) => true | _ => false) = true) : ∃ f, o = some (.fn f) := by
 cases o with
 | none => exact nf h rfl
 | some v => cases v <;> first | exact ⟨_, rfl⟩ | exact nf h rfl
theorem Zmj (h : (CL.cons e r).allFn = true) : (CL.cons e .nil).allFn = true := by cases e <;> first | exact Bool.and_eq_true_iff.mpr ⟨(Bool.and_eq_true_iff.mp h).1, rfl⟩ | exact nf h rfl
theorem Zco {e : CE} (h : (CL.cons e r).allFn = true) : ∃ g p f, e = .glb g p ∧ gv g = some (.fn f) ∧ r.allFn = true ∧ ZaY (.cons e r) = f :: ZaY r := by
 obtain ⟨g, p, rfl⟩ := ZqC (Zmj h)
 obtain ⟨h1, h2⟩ := Bool.and_eq_true_iff.mp h
 obtain ⟨f, q⟩ := Zsb h1
 exact ⟨g, p, f, rfl, q, h2, by rw [ZoS, q]⟩
theorem Zh1 : ∀ {vs : CL}, vs.allFn = true → evL C vs ρ st = .ok ((ZaY vs).map .fn) st
 | .nil, _ => rfl
 | .cons e r, h => by
  refine bc fun no => ?_; obtain ⟨g, p, f, rfl, hv, hr, e1⟩ := Zco h; refine no ?_
  simp only [Zfe, ZdA, ZjT, hv, ofO, RV.bind, Zh1 hr, e1, lM9]
noncomputable def OkP (S : SC) (A : Ar) (E : Vl → Sh → Prop) (p : Sem Vl × Sem Vl) (x : Str × Nat) : Prop := ∀ s : Sh, (∀ b o, S.h₀.get? b = some o → s.heap.get? b = some o) →
 (∀ Q : Vl → Sh → Prop, Q (.str x.1 s.toks) { s with toks := s.toks + 1 } → wA S.M A p.1 Q E s) ∧ ∀ Q : Vl → Sh → Prop, Q (.ref (S.fa x.2)) s → wA S.M A p.2 Q E s
theorem Zm7 (O : FmOk F A n) (G : Ground S) : ∀ {ks : List (Cst × Pos)} {vs : CL}, vs.allFn = true → Zu F.env.scope.names F.ns vs = true → (∀ k ∈ ks, (ZaD k).isSome = true) → ks.length = vs.len → All2 (OkP S A E) (dp F.env F.ns pos ks vs) ((ks.filterMap ZaD).zip (ZaY vs))
 | [], .nil, _, _, _, _ => .nil
 | [], .cons _ _, _, _, _, h => nomatch h
 | _ :: _, .nil, _, _, _, h => nomatch h
 | k :: ks, .cons e r, hf, ok, hk, hlen => by
  obtain ⟨g, p, f, rfl, hv, hr, e1⟩ := Zco hf
  simp only [ZdD, ZdE, ZnN, bA] at ok
  simp only [List.length_cons, ZrR, ZrS, Nat.add_right_cancel_iff] at hlen
  obtain ⟨c, kp⟩ := k
  obtain ⟨x, hx⟩ := Option.isSome_iff_exists.mp (hk (c, kp) (.head _))
  cases c <;> cases hx
  rw [e1]
  refine All2.cons (fun s base => ⟨fun Q q => wpAny_Constant_str (x := x) (k := 0) (pos := kp) (env := F.env) q, fun Q q => ?_⟩) (Zm7 O G hr ok.2 (fun k m => hk k (.tail _ m)) hlen)
  exact ZoR O G base hv ok.1 q
theorem All2.take {l : List α} {r : List β} (n : Nat) (d : All2 R l r) : All2 R (l.take n) (r.take n) := by
 induction d generalizing n with
 | nil => cases n <;> exact .nil
 | cons a b ih => cases n with
  | zero => exact .nil
  | succ n => exact .cons a (ih n)
theorem All2.drop {l : List α} {r : List β} (n : Nat) (d : All2 R l r) : All2 R (l.drop n) (r.drop n) := by
 induction d generalizing n with
 | nil => cases n <;> exact .nil
 | cons a b ih => cases n with
  | zero => exact .cons a b
  | succ n => exact ih n
noncomputable def kvF (S : SC) (x : Str × Nat) : Str × Vl := (x.1, .ref (S.fa x.2))
theorem Zdt (xs : List (Str × Nat)) : (xs.map (kvF S)).map (·.1) = xs.map (·.1) := by simp [kvF, Function.comp_def]
theorem ZkA (H : All2 (OkP S A E) ps xs) : ∀ {acc : List (Str × Vl)} {s : Sh} {Q : PUnit → Sh → Prop}, (∀ b o, S.h₀.get? b = some o → s.heap.get? b = some o) → S.h₀.get? d = none →
 s.heap.DictOf (PySem.strKind S.prog S.w) d acc → acc.length + xs.length ≤ 1000 → (acc.map (·.1) ++ xs.map (·.1)).Nodup →
 (∀ h' tk, h'.DictOf (PySem.strKind S.prog S.w) d (acc ++ xs.map (kvF S)) → Heap.SameBut d s.heap h' → Q ⟨⟩ (sh s h' tk)) →
 wA S.M A (forIn ps PUnit.unit fun (x : Sem Vl × Sem Vl) (_ : PUnit) => (do
  let kv ← x.1
  let vv ← holding [kv] x.2
  holding [kv, vv] (dictSet d kv vv)
  pure (ForInStep.yield PUnit.unit) : Sem (ForInStep PUnit))) Q E s := by
 induction H with
 | nil =>
  intro acc s Q _ _ hd _ _ q
  rw [List.forIn_nil]
  exact wP (q s.heap s.toks (by simpa using hd) (.refl _ _))
 | @cons p y ps xs hp hps ih =>
  intro acc s Q base hn hd hl nd q
  obtain ⟨x, f⟩ := y
  rw [List.forIn_cons]
  refine wB (wB ?_)
  refine (hp s base).1 _ ?_
  refine wB (wH ((hp { s with toks := s.toks + 1 } base).2 _ ?_))
  have nx : x ∉ acc.map (·.1) := by
   simp only [lM9, List.nodup_append] at nd
   exact fun m => nd.2.2 x m x (.head _) rfl
  refine wB (wH (wpAny_dictSet_pairs (knd := PySem.strKind S.prog S.w) (s := { s with toks := s.toks + 1 }) (k := x) (hsz := by rw [sizeLine_eq]; simp only [List.length_cons] at hl; omega) (beq_self_eq_true x) hd fun h1 hd1 hs1 => ?_))
  have hst : stored acc x (Value.ref (S.fa f)) = acc ++ [(x, .ref (S.fa f))] := by
   unfold stored
   rw [if_neg (ZqA nx)]
  rw [hst] at hd1
  refine wP ?_
  refine ih (s := { s with heap := h1, toks := s.toks + 1 + 1 }) (fun b o z => (hs1.2 b fun y => by rw [y, hn] at z; exact nn z rfl).trans (base b o z)) hn hd1 (by simp only [List.length_append, List.length_cons, List.length_nil] at hl ⊢; omega) (by simpa using nd) fun h2 tk y1 y2 => ?_
  exact q h2 tk (by simpa [kvF] using y1) (hs1.trans y2)
theorem ZkB (H : All2 (OkP S A E) ps xs) : ∀ {s : Sh} {Q : List (Vl × Vl) → Sh → Prop}, (∀ b o, S.h₀.get? b = some o → s.heap.get? b = some o) →
 (∀ tk vs, Carries (PySem.strKind S.prog S.w) vs (xs.map (kvF S)) → Q vs { s with toks := tk }) → wA S.M A (evalPairs ps) Q E s := by
 induction H with
 | nil => intro s Q _ q; exact evalPairs_nil (q s.toks [] trivial)
 | @cons p y ps xs hp hps ih =>
  intro s Q base q
  obtain ⟨x, f⟩ := y
  obtain ⟨k, v⟩ := p
  refine evalPairs_cons ((hp s base).1 _ ((hp { s with toks := s.toks + 1 } base).2 _ ?_))
  refine ih (s := { s with toks := s.toks + 1 }) base fun tk vs y => ?_
  exact q tk _ ⟨beq_self_eq_true x, rfl, y⟩
theorem Zsc (H : All2 (OkP S A E) ps xs) (hl : ps.length = 17) (base : ∀ b o, S.h₀.get? b = some o → s.heap.get? b = some o) (nd : (xs.map (·.1)).Nodup)
 (q : ∀ h' tk, h'.DictOf (PySem.strKind S.prog S.w) s.heap.objs.size (xs.map (kvF S)) → (∀ b o, s.heap.get? b = some o → h'.get? b = some o) → Q s.heap.objs.size (sh s h' tk)) : wA S.M A (subDict ps) Q E s := by
 have hn : S.h₀.get? s.heap.objs.size = none := by
  cases w : S.h₀.get? s.heap.objs.size with
  | none => rfl
  | some o => have := base _ o w; rw [Z0] at this; cases this
 unfold subDict
 refine wB (wpAny_alloc (wB (wH ?_)))
 rw [if_neg (by rw [hl]; decide)]
 refine wB (wpAny_rule ?_)
 have hxl := H.length
 refine wB (ZkA (s := { s with heap := s.heap.push emptyDict }) H (fun b o z => Zd _ _ (base b o z)) hn (acc := []) (Heap.DictOf.new _) (by rw [List.length_nil, ← hxl, hl]; decide) (by simpa using nd) fun h' tk y1 y2 => ?_)
 refine wP (wP (q h' tk (by simpa using y1) fun b o z => ?_))
 exact (y2.2 b (Nat.ne_of_lt (Heap.lt_size z))).trans (Zd _ _ z)
theorem Zs9 (H : All2 (OkP S A E) ps xs) (hl : ps.length = 7) (base : ∀ b o, S.h₀.get? b = some o → s.heap.get? b = some o) (nd : (xs.map (·.1)).Nodup)
 (q : ∀ h' tk, h'.DictOf (PySem.strKind S.prog S.w) s.heap.objs.size (xs.map (kvF S)) → (∀ b o, s.heap.get? b = some o → h'.get? b = some o) → Q s.heap.objs.size (sh s h' tk)) : wA S.M A (subDict ps) Q E s := by
 refine wpAny_subDict (knd := PySem.strKind S.prog S.w) (by rw [hl]; decide) (ZkB (s := { s with heap := s.heap.push emptyDict }) H (fun b o z => Zd _ _ (base b o z)) fun tk vs y => ?_)
 refine ⟨xs.map (kvF S), y, Heap.DictOf.new _, fun h' d hs => ?_⟩
 rw [merged_nil_of_nodup _ (by rw [Zdt]; exact nd)] at d
 refine q h' _ d fun b o z => ?_
 exact (hs.2 b (Nat.ne_of_lt (Heap.lt_size z))).trans (Zd _ _ z)
theorem Zh2 : ∀ {vs : CL}, vs.allFn = true → (ZaY vs).length = vs.len
 | .nil, _ => rfl
 | .cons e r, h => by
  obtain ⟨g, p, f, rfl, hv, hr, e1⟩ := Zco h
  rw [e1, List.length_cons, Zh2 hr]; rfl
theorem Zmk {xs : List Str} {fs : List Nat} (h : xs.length = fs.length) : (xs.zip fs).map (·.1) = xs := List.map_fst_zip (Nat.le_of_eq h)
theorem ZoT (xs : List Str) : ∀ (fs : List Nat), xs.length = fs.length → All2 (fun (kv : Str × Vl) v => VR S W h kv.2 v) ((xs.zip fs).map (kvF S)) (fs.map .fn) := by
 induction xs with
 | nil => intro fs h; cases fs with
  | nil => exact .nil
  | cons _ _ => cases h
 | cons x xs ih => intro fs h; cases fs with
  | nil => cases h
  | cons f fs => exact .cons rfl (ih fs (by simpa using h))
theorem ZkC (G : Ground S) {ks : List (Cst × Pos)} {vs : CL} : Zm3 S C n ks vs p := by
 intro hl F A W ρ st s O ok I Fi ne
 have ok' := ok
 simp only [ZfI, okK, bA, Bool.or_eq_true, decide_eq_true_eq, beq_iff_eq, Bool.not_eq_true', List.all_eq_true] at ok'
 obtain ⟨⟨o1, ⟨⟨⟨o2, o3⟩, o4⟩, o5⟩, o6⟩, o7⟩ := ok'
 have h24 : vs.len = 24 := by
  rcases o5 with z | z
  ·exact absurd (o2 ▸ hl) (Nat.not_le.mpr (Nat.lt_of_le_of_lt z (by decide)))
  ·exact z.2
 obtain ⟨hf, hk⟩ : vs.allFn = true ∧ ∀ k ∈ ks, (ZaD k).isSome = true := o7.resolve_left (by rw [o2, h24]; decide)
 have nd : (ks.filterMap ZaD).Nodup := by
  rcases o6 with z | z
  ·exact z.2
  ·exfalso
   cases ks with
   | nil => simp at hl
   | cons k r =>
    have y1 := hk k (.head _)
    have y2 := z.1.2 k (.head _)
    obtain ⟨c, kp⟩ := k
    cases c <;> first | exact (Bool.false_ne_true y1).elim | exact (Bool.false_ne_true y2).elim
 simp only [ZhE] at ne ⊢
 rw [Zh1 hf] at ne ⊢
 simp only [RV.bind] at ne ⊢
 rcases Zei ne with ⟨z, _⟩ | ⟨_, es, ez⟩
 ·cases z
 simp only [ZaK, ez]
 show wA _ _ (eval (.Dict (ks.map fun k => some (.Constant k.1.c 0 k.2)) (toL F.ns vs) p) F.env) _ _ _
 rw [arm_eval_Dict, ZfV o2]
 refine wB (wS ?_)
 have H := Zm7 (E := EE S F W ρ s (RV.ok (MV.dic es) st : RV MV)) (A := A) O G (pos := p) hf o1 hk o2
 have pl : (dp F.env F.ns p ks vs).length = 24 := (Zka o2).trans (o2.trans h24)
 have hkl : (ks.filterMap ZaD).length = (ZaY vs).length := (ZlH (kcS S) hk).trans (o2.trans (Zh2 hf).symm)
 have kvr := ZoT (S := S) (W := W) (h := s.heap) (ks.filterMap ZaD) (ZaY vs) hkl
 have hzk := Zmk hkl
 generalize dp F.env F.ns p ks vs = ps at H pl
 generalize hxs : (ks.filterMap ZaD).zip (ZaY vs) = xs at H kvr hzk
 have h16 : 16 < ps.length := pl ▸ (by decide : 16 < 24)
 have e17 : ps.take 17 = ps.take 16 ++ [ps[16]'h16] := by rw [List.take_add_one, List.getElem?_eq_getElem h16]; rfl
 have eps : ps = ps.take 16 ++ ps[16]'h16 :: ps.drop 17 := by rw [← List.drop_eq_getElem_cons h16, List.take_append_drop]
 rw [eps, Zkz _ _ _ (List.length_take.trans (pl ▸ rfl)) (List.length_drop.trans (pl ▸ rfl)), ← e17]
 have ndx : (xs.map (·.1)).Nodup := by rw [hzk]; exact nd
 have ndt : ((xs.take 17).map (·.1)).Nodup := List.Sublist.nodup (List.Sublist.map _ (List.take_sublist _ _)) ndx
 have ndd : ((xs.drop 17).map (·.1)).Nodup := List.Sublist.nodup (List.Sublist.map _ (List.drop_sublist _ _)) ndx
 have hxl : xs.length = 24 := H.length.symm.trans pl
 refine wB (Zsc (H.take 17) (List.length_take.trans (pl ▸ rfl)) I.base ndt fun h1 tk1 y1 y2 => ?_)
 refine wB (wH (Zs9 (s := sh s h1 tk1) (H.drop 17) (List.length_drop.trans (pl ▸ rfl)) (fun b o z => y2 _ _ (I.base b o z)) ndd fun h2 tk2 z1 z2 => ?_))
 obtain ⟨od, _, _, god, _⟩ := id y1
 have dne : s.heap.objs.size ≠ h1.objs.size := Nat.ne_of_lt (Heap.lt_size god)
 have hS : (h1.objs.size == sysModules) = false := by
  rw [beq_eq_false_iff_ne]
  intro e
  obtain ⟨a, o, la, z⟩ := G.mods
  have := Heap.lt_size (y2 _ _ (I.base _ _ z))
  rw [e] at this
  exact Nat.lt_asymm this la
 have y1' : h2.DictOf (PySem.strKind S.prog S.w) s.heap.objs.size ((xs.take 17).map (kvF S)) := ZJ (S := S) (fun o e y => z2 _ _ e) y1
 have eall : (xs.take 17).map (kvF S) ++ (xs.drop 17).map (kvF S) = xs.map (kvF S) := by rw [← List.map_append, List.take_append_drop]
 refine wB (wpAny_onRaise (wH (Zky (s := sh s h2 tk2) dne hS y1' z1 ?_ (by rw [eall, Zdt]; exact ndx) (by rw [eall, List.length_map, hxl]; decide) fun h3 w1 w2 => ?_)))
 ·intro e
  have := congrArg List.length e
  rw [List.length_map, List.length_take, hxl] at this
  cases this
 ·rw [eall] at w1
  have k : ∀ b o, s.heap.get? b = some o → h3.get? b = some o := fun b o z => (w2.2 b (Nat.ne_of_lt (Heap.lt_size z))).trans (z2 _ _ (y2 _ _ z))
  refine wP (ZdN I Fi k ⟨_, rfl, Z1 I, Zbz G I, .inl ⟨xs.map (kvF S), w1, ?_⟩⟩)
  exact Zkc ez hk (by rw [Zdt, hzk]) (kvr.imp fun y y z => z.mono ⟨fun b o e y y => k b o e, fun y m => .inl m, [], by simp⟩)
end
structure TopOk (S : SC) : Prop where
 G : Ground S
 K : Zc1 S
 X : Exm S
 Y : ExcFacts S
 Z : ExcGet S
 L : LimAt S
section
variable {S : SC} {C : Ze} {n : Nat}
theorem Zaq (hc : Snd S C n c) (hs : ∀ ns env t, isTrue (toE ns c) env t = (t >>= fun v => standAt (toE ns c).pos >>= fun y => holding [v] (truthy v))) : Snd S C n c ∧ Z9 S C n c := ⟨hc, Zn4 hc hs⟩
mutual
theorem Zm (T : TopOk S) (H : CallOk S C n) (HK : Zbj S C n) : ∀ c : CE, Snd S C n c ∧ Z9 S C n c
 | .cst c p => Zaq (ZnQ c p) fun y y y => by cases c <;> rfl
 | .loc i p => Zaq (ZnR i p) fun y y y => rfl
 | .glb g p => Zaq (ZnT T.G g p) fun y y y => rfl
 | .attr e a p => Zaq (ZlA T.G (Zm T H HK e).1) fun y y y => rfl
 | .sub e i p => Zaq (Zoa (Zm T H HK e).1 (Zm T H HK i).1) fun y y y => rfl
 | .slc e lo hi p1 p => Zaq (Zod (Zm T H HK e).1 (Zeq T H HK lo).1 (Zeq T H HK hi).1) fun y y y => rfl
 | .bin op a b t p => Zaq (ZnZ (Zm T H HK a).1 (Zm T H HK b).1) fun y y y => rfl
 | .un op a p => match op with
  | .Not => ⟨ZdJ (Zm T H HK a).1, Zlw (Zm T H HK a).2⟩
  | .USub => Zaq (ZdJ (Zm T H HK a).1) fun y y y => rfl
  | .UAdd => Zaq (ZdJ (Zm T H HK a).1) fun y y y => rfl
  | .Invert => Zaq (ZdJ (Zm T H HK a).1) fun y y y => rfl
 | .cmp op a b p => Zn1 (Zm T H HK a).1 (Zm T H HK b).1
 | .cmp2 o1 o2 a b c p => Zls (Zm T H HK a).1 (Zm T H HK b).1 (Zm T H HK c).1
 | .cmp3 o1 o2 o3 a b c d p => Zlt (Zm T H HK a).1 (Zm T H HK b).1 (Zm T H HK c).1 (Zm T H HK d).1
 | .bop op es p => Zn8 (Zm8 T H HK op es)
 | .ite t a b p => ⟨Zn7 (Zm T H HK t).2 (Zm T H HK a).1 (Zm T H HK b).1, Zlx (Zm T H HK t).2 (Zm T H HK a).2 (Zm T H HK b).2⟩
 | .list es t p => Zaq (Zlv (ZaZ T H HK es).1) fun y y y => rfl
 | .tup es p => Zaq (Zn3 (ZaZ T H HK es).1) fun y y y => rfl
 | .dict ks vs t p => Zaq (ZlJ T.G (ZaZ T H HK vs).2 (ZkC T.G)) fun y y y => rfl
 | .comp f t s c nt cap ns' sc p => Zaq (Zme (Zm T H HK f).1 (Zeq T H HK c).2 (Zi6 T H HK s)) fun y y y => rfl
 | .call f as p => Zaq (ZlZ T.G T.K H (Zm T H HK f).1 (ZaZ T H HK as).1) fun y y y => rfl
 | .meth o a as p1 p => Zaq (Zl5 T.G T.K H (Zm T H HK o).1 (ZaZ T H HK as).1) fun y y y => rfl
 | .blt b as p1 p2 p => Zaq (Zok T.G (ZaZ T H HK as).1 fun e q => by
  have := (ZaZ T H HK as).2
  rw [q] at this
  exact this.1) fun y y y => rfl
 | .lim e p1 p2 p => Zaq (ZoQ T.G HK (Zm T H HK e).1) fun y y y => rfl
theorem Zeq (T : TopOk S) (H : CallOk S C n) (HK : Zbj S C n) : ∀ c : CO, Zch S C n c ∧ ZcL S C n c
 | .no => ⟨Zob, ZoI⟩
 | .so e => ⟨Zoc (Zm T H HK e).1, ZoJ (Zm T H HK e).2⟩
theorem ZaZ (T : TopOk S) (H : CallOk S C n) (HK : Zbj S C n) : ∀ c : CL, ZaW S C n c ∧ ZdO S C n c
 | .nil => ⟨Zlu, trivial⟩
 | .cons e r => ⟨Zj3 (Zm T H HK e).1 (ZaZ T H HK r).1, (Zm T H HK e).1, (ZaZ T H HK r).2⟩
theorem Zm8 (T : TopOk S) (H : CallOk S C n) (HK : Zbj S C n) (op : BoolOp) : ∀ c : CL, ZfQ S C n op c
 | .nil => Zly
 | .cons e r => Zj4 (Zm T H HK e).2 (Zm T H HK e).1 (Zm8 T H HK op r)
theorem Zi6 (T : TopOk S) (H : CallOk S C n) (HK : Zbj S C n) : ∀ c : CS, Zen S C n c
 | .rng e p1 p => Zl7 T.G (Zm T H HK e).1
 | .val e => Zl6 (Zm T H HK e).1
end
theorem ZkD (T : TopOk S) (H : CallOk S C n) (HK : Zbj S C n) (t : CA) (e : CE) (p : Pos) : Zad S C n (.asg t e p) := by
 by_cases hc : ZaG e = true
 ·cases e with
  | comp f tt s c nt cap ns' sc q =>
   cases t with
   | nm i p1 => exact Zhx (Zm T H HK f).1 (Zeq T H HK c).2 (Zi6 T H HK s)
   | _ => exact fun y y y y y y y y ok => nf (Bool.and_eq_true_iff.mp ok).2 rfl
  | _ => cases hc
 ·have hc : ZaG e = false := by simpa using hc
  cases t with
  | nm i p1 => exact Zkl (Zm T H HK e).1 hc
  | attr o a p1 => exact Zht T.G (Zm T H HK e).1 (Zm T H HK o).1 hc
  | sub o i p1 => exact ZiK (Zm T H HK e).1 (Zm T H HK o).1 (Zm T H HK i).1 hc
  | slc o lo hi p1 p2 => exact ZiL (Zm T H HK e).1 (Zm T H HK o).1 (Zeq T H HK lo).1 (Zeq T H HK hi).1 hc
  | tup is p1 =>
   by_cases ht : ∃ es q, e = .tup es q
   ·obtain ⟨es, q, rfl⟩ := ht
    exact fun y y y y y y y y ok => nf (Bool.and_eq_true_iff.mp ok).2 rfl
   ·exact ZiM (Zm T H HK e).1 hc fun es q z => ht ⟨es, q, z⟩
mutual
theorem Zsd (T : TopOk S) (H : CallOk S C n) (HK : Zbj S C n) : ∀ c : CX, Zad S C n c
 | .asg t e p => ZkD T H HK t e p
 | .unp is es p1 p2 p => Zqn (ZaZ T H HK es).1
 | .aug i op e p1 p => Zqq (Zm T H HK e).1
 | .augA o a op e p1 p => Zot T.G (Zm T H HK o).1 (Zm T H HK e).1
 | .ifs t b o p => Zqj (Zm T H HK t).2 (ZbP T H HK b) (ZbP T H HK o)
 | .whl t b p => Zqv (Zm T H HK t).2 (ZbP T H HK b)
 | .fr t s b p => Zr7 (Zi6 T H HK s) (ZbP T H HK b)
 | .ret e p => Zqk fun c y => (Zm T H HK c).1
 | .rse g as p1 p2 p => Zqy T.G T.Y (ZaZ T H HK as).1
 | .try_ b hs p => Zqx T.G T.X (Zqz T.G T.Z) (ZbP T H HK b)
 | .ex e p => Zr0 (Zm T H HK e).1
 | .pass p => Zop
theorem ZbP (T : TopOk S) (H : CallOk S C n) (HK : Zbj S C n) : ∀ c : CB, Z3 S C n c
 | .nil => Zoo
 | .cons s r => ZlS (Zsd T H HK s) (ZbP T H HK r)
end
theorem Zh3 (T : TopOk S) : ∀ n, CallOk S (Zi n) n ∧ Zbj S (Zi n) n
 | 0 => ⟨⟨fun y y y ne => absurd rfl ne, fun y y y y y y y y y y y y y ne => absurd rfl ne⟩, fun y y y y y y y y y y y y y y y ne => absurd rfl ne⟩
 | n + 1 => by
  obtain ⟨H, HK⟩ := Zh3 T n
  refine ⟨⟨fun f as st ne => ?_, fun f as st W s A fl vals hf hfl R I va ne => ?_⟩, Zsa T.G T.L fun fd y => ZbP T H HK fd.body⟩
  ·cases q : Za0 f with
   | some _ => rfl
   | none => rw [ZcV, q] at ne; exact absurd rfl ne
  ·cases q : Za0 f with
   | none => rw [ZcV, q] at ne; exact absurd rfl ne
   | some fd =>
    obtain ⟨d, D⟩ := T.K f fd q
    have e : Zi (n + 1) f as st = Zai (Zi n) fd as st := by rw [ZcV, q]
    rw [e] at ne ⊢
    exact ZlV T.G D (ZbP T H HK fd.body) hf hfl R I va ne
end
noncomputable def Zz (K : Frag) (a : Addr) : Option FuncData := match K.lookup a with
 | some ⟨_, _, .func d, _⟩ => some d
 | _ => none
theorem ZcO {K : Frag} (X : K.In h) (e : Zz K a = some d) : ∃ o, h.get? a = some o ∧ o.data = .func d := by
 have e : (match K.lookup a with | some ⟨_, _, .func d, _⟩ => some d | _ => none) = some d := e
 cases ho : K.lookup a with
 | none => rw [ho] at e; exact nn e rfl
 | some o =>
  rw [ho] at e
  obtain ⟨c, dd, dt, sl⟩ := o
  cases dt with
  | func d => cases e; exact ⟨_, X _ _ ho, rfl⟩
  | _ => exact nn e rfl
noncomputable def Zm9 (K : Frag) (a : Addr) (fd : FD) : Bool := match Zz K a with
 | some d => d.globals == mainGlobals && d.builtins == builtinsNs && d.closure.isEmpty && codeIn K d.code d.qualname && !d.scope.isCoroutine && !d.scope.isGenerator && d.scope.kind == .function && decide (d.scope.names.map (·.1)).Nodup && decide fd.ns.Nodup && decide (fd.np ≤ fd.ns.length) &&
  (fd.ns.take fd.np).all (fun x => d.scope.names.lookup x == some .local || d.scope.names.lookup x == some .cell) && okB d.scope.names fd.ns fd.body
 | none => false
structure FnK0 (K : Frag) (a : Addr) (fd : FD) : Prop where
 chk : Zm9 K a fd = true
 body : (Zz K a).map (·.body) = some (.stmts (toB fd.ns fd.body))
structure FnK (K : Frag) (a : Addr) (fd : FD) : Prop extends FnK0 K a fd where
 bind : ∀ vals : List Vl, vals.length = fd.np → (Zz K a).map (fun d => bindArgs d ⟨vals, []⟩) = some (pure ((fd.ns.take fd.np).zip vals))
theorem Zgr (X : S.K.In S.h₀) (k : FnK0 S.K (S.fa f) fd) (bind : ∀ d, Zz S.K (S.fa f) = some d → ∀ s : Sh, (∀ b o, S.h₀.get? b = some o → s.heap.get? b = some o) → ∀ vals : List Vl, vals.length = fd.np → BindsTo s d ⟨vals, []⟩ ((fd.ns.take fd.np).zip vals)) :
 ∃ d, Zz S.K (S.fa f) = some d ∧ FnAt S f fd d := by
 obtain ⟨chk, body⟩ := k
 unfold Zm9 at chk
 cases e : Zz S.K (S.fa f) with
 | none => rw [e] at chk; exact nf chk rfl
 | some d =>
  rw [e] at chk body
  simp only [bA, beq_iff_eq, decide_eq_true_eq, Bool.not_eq_true', List.isEmpty_iff, List.all_eq_true, Bool.or_eq_true] at chk
  obtain ⟨⟨⟨⟨⟨⟨⟨⟨⟨⟨⟨c1, c2⟩, c3⟩, c4⟩, c5⟩, c6⟩, c7⟩, c8⟩, c9⟩, c10⟩, c11⟩, c12⟩ := chk
  exact ⟨d, rfl, ZcO X e, c1, c2, c3, Option.some.inj body, bind d e, codeRec_of X c4, c5, c6, c7, c8, c9, c10, c11, c12⟩
theorem ZoU (X : S.K.In S.h₀) (k : FnK S.K (S.fa f) fd) : ∃ d, Zz S.K (S.fa f) = some d ∧ FnAt S f fd d := Zgr X k.toFnK0 fun d e s y vals h => .of_eq (by
 have := k.bind vals h
 rw [e] at this
 exact Option.some.inj this)
noncomputable def Zgs (o : Option Obj) : Option (Vl × Option Addr × Array Vl × Nat × Array (Option Vl)) := match o with
 | some ⟨c, d, .seq vs k, sl⟩ => some (c, d, vs, k, sl)
 | _ => none
noncomputable def Zml : Vl → Option Addr
 | .ref a => some a
 | _ => none
noncomputable def Zmm : Vl → Option Int
 | .int a _ => some a
 | _ => none
noncomputable def Zgt : Vl → Option Str
 | .str a _ => some a
 | _ => none
noncomputable def Zbk (K : Frag) : Nat → Vl → PD → Bool
 | 0, _, _ => false
 | n + 1, v, d => match d with
  | .none => v == .none
  | .bool b => v == .bool b
  | .int b => Zmm v == some b
  | .str b => Zgt v == some b
  | .list xs => (Zml v).any fun a => (Zgs (K.lookup a)).any fun q => (q.1 == .type "list" && q.2.1.isNone && q.2.2.2.2.isEmpty) && (q.2.2.1.toList.length == xs.length && (q.2.2.1.toList.zip xs).all fun p => Zbk K n p.1 p.2)
  | .tuple xs => (Zml v).any fun a => (Zgs (K.lookup a)).any fun q => q.1 == .type "tuple" && (q.2.2.1.toList.length == xs.length && (q.2.2.1.toList.zip xs).all fun p => Zbk K n p.1 p.2)
  | _ => false
theorem Zcp (e : o.any p = true) : ∃ x, o = some x ∧ p x = true := by
 cases o with
 | none => exact nf e rfl
 | some x => exact ⟨x, rfl, e⟩
theorem Zh4 (e : Zgs o = some (c, d, vs, k, sl)) : o = some ⟨c, d, .seq vs k, sl⟩ := by
 cases o with
 | none => exact nn e rfl
 | some o =>
  obtain ⟨c, d, dt, sl⟩ := o
  cases dt with
  | seq vs k => cases e; rfl
  | _ => exact nn e rfl
theorem Zna (e : Zml v = some a) : v = .ref a := by
 cases v with
 | ref a => cases e; rfl
 | _ => exact nn e rfl
theorem Zse (e : Zmm v = some a) : ∃ t, v = .int a t := by
 cases v with
 | int a t => cases e; exact ⟨t, rfl⟩
 | _ => exact nn e rfl
theorem Znb (e : Zgt v = some a) : ∃ t, v = .str a t := by
 cases v with
 | str a t => cases e; exact ⟨t, rfl⟩
 | _ => exact nn e rfl
theorem ZoV (vs : List Vl) : ∀ {xs : List PD}, vs.length = xs.length → (∀ p ∈ vs.zip xs, DR own h p.1 p.2) → DRs own h vs xs := by
 induction vs with
 | nil => intro xs e _; cases xs with
  | nil => exact .nil
  | cons _ _ => cases e
 | cons v vs ih => intro xs e h; cases xs with
  | nil => cases e
  | cons x xs => exact .cons (h (v, x) (.head _)) (ih (Nat.succ.inj e) fun p m => h p (.tail _ m))
theorem ZkE {K : Frag} (ih : ∀ v d, Zbk K n v d = true → DR own h v d) (e : (vs.length == xs.length && (vs.zip xs).all fun p => Zbk K n p.1 p.2) = true) : DRs own h vs xs :=
 ZoV vs (eq_of_beq (Bool.and_eq_true_iff.mp e).1) fun p m => ih _ _ (List.all_eq_true.mp (Bool.and_eq_true_iff.mp e).2 p m)
theorem Zcq {K : Frag} (X : K.In h) {n : Nat} : ∀ {v : Vl} {d : PD}, Zbk K n v d = true → DR [] h v d := by
 induction n with
 | zero => intro v d e; exact nf e rfl
 | succ n ih =>
  intro v d e
  cases d with
  | none => cases eq_of_beq (show (v == .none) = true from e); exact .none
  | bool b => cases eq_of_beq (show (v == .bool b) = true from e); exact .bool _
  | int b => obtain ⟨t, rfl⟩ := Zse (eq_of_beq (show (Zmm v == some b) = true from e)); exact .int _ _
  | str b => obtain ⟨t, rfl⟩ := Znb (eq_of_beq (show (Zgt v == some b) = true from e)); exact .str _ _
  | list xs =>
   obtain ⟨a, ea, e⟩ := Zcp e
   obtain ⟨⟨c, d, vs, k, sl⟩, eo, e⟩ := Zcp e
   obtain ⟨e1, e2⟩ := Bool.and_eq_true_iff.mp e
   obtain ⟨e3, e4⟩ := Bool.and_eq_true_iff.mp e1
   obtain ⟨e5, e6⟩ := Bool.and_eq_true_iff.mp e3
   cases Zna ea
   have ho := X _ _ (Zh4 eo)
   cases eq_of_beq (show (c == .type "list") = true from e5)
   cases Option.isNone_iff_eq_none.mp e6
   cases Array.isEmpty_iff.mp e4
   exact .list List.not_mem_nil ho (ZkE (fun y y z => ih z) e2)
  | tuple xs =>
   obtain ⟨a, ea, e⟩ := Zcp e
   obtain ⟨⟨c, d, vs, k, sl⟩, eo, e⟩ := Zcp e
   obtain ⟨e1, e2⟩ := Bool.and_eq_true_iff.mp e
   cases Zna ea
   cases eq_of_beq (show (c == .type "tuple") = true from e1)
   exact .tuple List.not_mem_nil (X _ _ (Zh4 eo)) rfl rfl (ZkE (fun y y z => ih z) e2)
  | _ => exact nf e rfl
noncomputable def ZbY (K : Frag) (a : Addr) (x : Str) : Option Vl := match K.lookup a with
 | some ⟨_, _, .dict es _, _⟩ => nsFind es x
 | _ => none
noncomputable def ZqD (K : Frag) (a : Addr) : Bool := match K.lookup a with
 | some ⟨_, _, .dict es _, _⟩ => es.toList.all fun e => (Zgt e.key).isSome
 | _ => false
theorem Zi7 {K : Frag} (X : K.In h) (e : ZqD K a = true) : h.Ns a (ZbY K a) := by
 have e : (match K.lookup a with | some ⟨_, _, .dict es _, _⟩ => es.toList.all fun e => (Zgt e.key).isSome | _ => false) = true := e
 cases ho : K.lookup a with
 | none => rw [ho] at e; exact nf e rfl
 | some o =>
  rw [ho] at e
  obtain ⟨c, dd, dt, sl⟩ := o
  cases dt with
  | dict es ep =>
   refine ⟨_, es, ep, X _ _ ho, rfl, fun en hen => ?_, fun nm => ?_⟩
   ·obtain ⟨x, q⟩ := Option.isSome_iff_exists.mp (List.all_eq_true.mp e en (Array.mem_toList_iff.mpr hen))
    obtain ⟨t, q⟩ := Znb q
    exact ⟨x, t, q⟩
   ·show _ = (match K.lookup a with | some ⟨_, _, .dict es _, _⟩ => nsFind es nm | _ => none)
    rw [ho]
  | _ => exact nf e rfl
noncomputable def faL : List Addr := [103, 110, 174, 181, 195, 263, 270, 320, 369, 376, 383, 390, 397, 404, 411, 418, 425, 432, 439, 446, 453, 460, 467, 472, 479, 484, 491, 498, 505, 512, 519, 526, 533, 540, 547, 554, 561, 568, 575, 582, 616, 623, 630, 637, 644, 649, 656, 663, 670, 677, 682, 689, 694, 701, 708, 715, 722, 256, 223, 244, 284, 306, 334, 341, 348, 35, 91]
noncomputable def caL : List Addr := [38, 51, 63, 75, 94, 226, 247, 287, 309, 358]
noncomputable def Zgu (f : Nat) : Addr := faL.getD f 0
noncomputable def ZaE (c : Nat) : Addr := caL.getD c 226
noncomputable def ZqE : Nat → (List Vl → Prop) → Prop
 | 0, P => P []
 | n + 1, P => ∀ x, ZqE n fun l => P (x :: l)
theorem Zh5 {n : Nat} {P : List Vl → Prop} (h : ZqE n P) (vals : List Vl) (e : vals.length = n) : P vals := by
 induction vals generalizing n P with
 | nil => cases e; exact h
 | cons x l ih => cases e; exact ih (P := fun l => P (x :: l)) (h x) rfl
theorem Zta {P : FD → Prop} : ∀ fd, none = some fd → P fd := fun y e => nomatch e
noncomputable def FnL (S : SC) : Nat → List (Option FD) → Prop
 | _, [] => True
 | n, o :: r => (∀ fd, o = some fd → ∃ d, FnAt S n fd d) ∧ FnL S (n + 1) r
theorem Zh6 {S : SC} {fd : FD} : ∀ {l : List (Option FD)} {n i : Nat}, FnL S n l → Zit l i = some fd → ∃ d, FnAt S (n + i) fd d
 | _ :: _, _, 0, h, e => h.1 _ e
 | _ :: _, n, i + 1, h, e => (by omega : n + 1 + i = n + (i + 1)) ▸ Zh6 (i := i) h.2 e
noncomputable def KK (P : Pm) : Frag := hd.heap_39 P
theorem Zmn (P : Pm) (q : Setting) (vals : List Vl) (h : vals.length = 9) : (Zz (KK P) 306).map (fun d => peek (KK P) q (bindArgs d ⟨vals, []⟩)) = some (some ((Zr.ns.take Zr.np).zip vals)) := Zh5 (n := 9) (P := fun vals => (Zz (KK P) 306).map (fun d => peek (KK P) q (bindArgs d ⟨vals, []⟩)) = some (some ((Zr.ns.take Zr.np).zip vals))) (by intro x0 x1 x2 x3 x4 x5 x6 x7 x8; show _ = _; kernel_rfl!) vals h
theorem ZqF (P : Pm) (q : Setting) (x u : Vl) : (Zz (KK P) 306).map (fun d => peek (KK P) q (bindArgs d ⟨[x], [(ZS, u)]⟩)) = some (some ((Zr.ns.take Zr.np).zip [x, .int 32 640, .int 7 641, .int 15 642, .int 38 643, u, .int 19 645, .int 72 646, .int 40 647])) := by kernel_rfl!
theorem ZkF {S : SC} {P : Pm} (hK : S.K = KK P) (hf : S.fa = Zgu) (X : S.K.In S.h₀) : ∃ d, Zz S.K (S.fa 61) = some d ∧ FnAt S 61 Zr d := by
 have ea : S.fa 61 = 306 := by rw [hf]; rfl
 refine Zgr X (by rw [hK, ea]; exact ⟨by kernel_rfl!, by kernel_rfl!⟩) fun d e s base vals h M A E Q q => ?_
 rw [hK, ea] at e
 have := Zmn P ⟨M.prog, M.w.params⟩ vals h
 rw [e] at this
 exact (Looks.of_peek (M := M) ((hK ▸ X).keeps base) (Option.some.inj this)).here q
theorem ZqG {S : SC} {P : Pm} (hK : S.K = KK P) (hf : S.fa = Zgu) (X : S.K.In S.h₀) : Zc1 S := by
 have go : ∀ (f : Nat) {fd : FD}, FnK (KK P) (Zgu f) fd → ∀ fd2, some fd = some fd2 → ∃ d, FnAt S f fd2 d := fun f fd k fd2 e => by
  obtain ⟨d, _, D⟩ := ZoU (S := S) (f := f) X (by rw [hK, hf]; exact k)
  cases e; exact ⟨d, D⟩
 have lim : ∀ fd2, some Zr = some fd2 → ∃ d, FnAt S 61 fd2 d := fun fd2 e => by
  obtain ⟨d, _, D⟩ := ZkF hK hf X; cases e; exact ⟨d, D⟩
 have all : FnL S 0 fdL := by
  repeat (first | exact trivial | refine And.intro Zta ?_ | refine And.intro (go _ ⟨⟨by kernel_rfl!, by kernel_rfl!⟩, Zh5 (by (repeat intro _); show _ = _; kernel_rfl!)⟩) ?_ | refine And.intro lim ?_)
 exact fun f fd e => (Nat.zero_add f) ▸ Zh6 (n := 0) all e
noncomputable def ZbE (K : Frag) (C : Addr) (c : Nat) : Bool := (match clsIn K C with | some cd => cd.hasDict | none => false) && plainOver K C && makesIn K C && findIn K (.ref C) "__getattribute__" == some (some (.builtin "object.__getattribute__")) && findIn K (.ref C) "__getattr__" == some none &&
 findIn K (.ref C) "__setattr__" == some (some (.builtin "object.__setattr__")) && (List.range AN.length).all fun a => !Zas c a || findIn K (.ref C) (An a) == some none
set_option tactic.hygienic true in
theorem ZcP {K : Frag} (e : ZbE K C c = true) : (∃ cd, clsIn K C = some cd ∧ cd.hasDict = true) ∧ plainOver K C = true ∧ makesIn K C = true ∧
 findIn K (.ref C) "__getattribute__" = some (some (.builtin "object.__getattribute__")) ∧ findIn K (.ref C) "__getattr__" = some none ∧
 findIn K (.ref C) "__setattr__" = some (some (.builtin "object.__setattr__")) ∧ ∀ a, Zas c a = true → findIn K (.ref C) (An a) = some none := by
 simp only [ZbE, bA, beq_iff_eq, List.all_eq_true, Bool.or_eq_true, Bool.not_eq_true'] at e
 obtain ⟨⟨⟨⟨⟨⟨e1, e2⟩, e3⟩, e4⟩, e5⟩, e6⟩, e7⟩ := e
 refine ⟨?_, e2, e3, e4, e5, e6, fun a ha => ?_⟩
 ·split at e1
  ·rename_i cd q; exact ⟨cd, q, e1⟩
  ·cases e1
 ·have := e7 a (List.mem_range.mpr (ZbJ ha))
  rcases this with z | z
  ·rw [ha] at z; cases z
  ·exact z
theorem Ztb (P : Pm) : ZbE (KK P) 226 5 = true := by kernel_rfl!
theorem Ztc (P : Pm) : ZbE (KK P) 247 6 = true := by kernel_rfl!
theorem Ztd (P : Pm) : ZbE (KK P) 287 7 = true := by kernel_rfl!
theorem Zte (P : Pm) : ZbE (KK P) 309 8 = true := by kernel_rfl!
theorem Ztf (P : Pm) : ZbE (KK P) 358 9 = true := by kernel_rfl!
noncomputable def Zay (K : Frag) (C : Addr) (name : Str) (f : Addr) : Bool := findIn K (.ref C) name == some (some (.ref f)) && typeIn K (.ref f) == some (.type "function")
theorem Za5 {K : Frag} (e : Zay K C name f = true) : findIn K (.ref C) name = some (some (.ref f)) ∧ typeIn K (.ref f) = some (.type "function") := by
 simp only [Zay, bA, beq_iff_eq] at e; exact e
theorem ZkG (P : Pm) : (Zay (KK P) 226 "__init__" 223 && Zay (KK P) 247 "__init__" 244 && Zay (KK P) 287 "__init__" 284 && Zay (KK P) 309 "__init__" 306 && Zay (KK P) 358 "__init__" 334 && Zay (KK P) 358 "load" 341 && Zay (KK P) 358 "store" 348) = true := by kernel_rfl!
noncomputable def Znc (K : Frag) (g : Nat) : Bool := match gv g with
 | none => true
 | some v => match ZbY K 3 (Gn g), v with
  | some u, .fn f => u == .ref (Zgu f)
  | some u, .cls c => u == .ref (ZaE c)
  | some u, .d x => Zbk K 10 u x
  | some u, .dic _ => u == .ref 583 && g == 34
  | _, _ => false
theorem ZqH (P : Pm) : (List.range GN.length).all (Znc (KK P)) = true := by kernel_rfl!
noncomputable def ZbF (prog : Program) (w : World) (h₀ : Heap) : SC := ⟨prog, w, KK w.params, h₀, Zgu, ZaE⟩
theorem Zi8 (P : Pm) : (KK P).lookup 583 = some { cls := .type "dict", data := .dict #[⟨PyData.keyHash P (sO "X"), .str (sO "X") 1058, .ref 585⟩, ⟨PyData.keyHash P (sO "Y"), .str (sO "Y") 1062, .ref 587⟩, ⟨PyData.keyHash P (sO "A"), .str (sO "A") 1066, .ref 590⟩, ⟨PyData.keyHash P (sO "Q"), .str (sO "Q") 1072, .ref 592⟩, ⟨PyData.keyHash P (sO "C"), .str (sO "C") 1076, .ref 594⟩, ⟨PyData.keyHash P (sO "D"), .str (sO "D") 1080, .ref 597⟩, ⟨PyData.keyHash P (sO "P"), .str (sO "P") 1086, .str (sO "OTHER") 1087⟩] 7 } := by kernel_rfl!
theorem Zmo (P : Pm) : (Zbk (KK P) 10 (.ref 585) (.tuple [.int 0, .int 0, .int 0, .tuple []]) && Zbk (KK P) 10 (.ref 587) (.tuple [.int 0, .int 1, .int 0, .tuple []]) && Zbk (KK P) 10 (.ref 590) (.tuple [.int 0, .int 2, .int 0, .tuple [.tuple [.int 1, .int 3]]]) && Zbk (KK P) 10 (.ref 592) (.tuple [.int 0, .int 5, .int 0, .tuple []]) &&
 Zbk (KK P) 10 (.ref 594) (.tuple [.int 5, .int 0, .int 4, .tuple []]) && Zbk (KK P) 10 (.ref 597) (.tuple [.int 5, .int 4, .int 2, .tuple [.tuple [.int 0, .int 1]]])) = true := by kernel_rfl!
section
variable {prog : Program} {w : World} {h₀ : Heap}
theorem ZkH (X : (KK w.params).In h₀) : Zec (ZbF prog w h₀) [] h₀ 583 Zcb := by
 refine ⟨by simp, by decide, .inl ⟨[(sO "X", .ref 585), (sO "Y", .ref 587), (sO "A", .ref 590), (sO "Q", .ref 592), (sO "C", .ref 594), (sO "D", .ref 597), (sO "P", .str (sO "OTHER") 1087)], ?_, ?_⟩⟩
 ·refine ⟨_, _, _, X _ _ (Zi8 w.params), ⟨rfl, rfl, rfl⟩, rfl, ?_, ?_, by decide +kernel⟩
  ·intro e he
   simp only [List.mem_toArray, lC9, List.not_mem_nil, or_false] at he
   rcases he with rfl | rfl | rfl | rfl | rfl | rfl | rfl <;> exact ⟨_, beq_self_eq_true _, rfl⟩
  ·repeat (first | exact Pairs.nil | refine Pairs.cons (beq_self_eq_true _) rfl ?_)
 ·have d := Zmo w.params
  simp only [bA] at d
  obtain ⟨⟨⟨⟨⟨d1, d2⟩, d3⟩, d4⟩, d5⟩, d6⟩ := d
  refine .cons ⟨by decide +kernel, Zcq X d1⟩ (.cons ⟨by decide +kernel, Zcq X d2⟩ (.cons ⟨by decide +kernel, Zcq X d3⟩ (.cons ⟨by decide +kernel, Zcq X d4⟩ (.cons ⟨by decide +kernel, Zcq X d5⟩ (.cons ⟨by decide +kernel, Zcq X d6⟩ (.cons ⟨by decide +kernel, ?_⟩ .nil))))))
  show DR [] h₀ _ (.str ⟨#[79, 84, 72, 69, 82]⟩)
  rw [show (⟨#[79, 84, 72, 69, 82]⟩ : Str) = sO "OTHER" by decide +kernel]
  exact .str _ _
end
theorem Zmp (P : Pm) : ZqD (KK P) 3 = true := by kernel_rfl!
theorem Zsf (P : Pm) : (Zz (KK P) 722).isSome = true := by kernel_rfl!
theorem Znd (P : Pm) : ([sO "len", sO "isinstance", sO "max", sO "abs", sO "list", sO "tuple", sO "range", ZcN].all fun x => (ZbY (KK P) 3 x).isNone) = true := by kernel_rfl!
theorem Zsg (P : Pm) : ([0, 1, 2, 3, 4].all fun c => ZbY (KK P) 3 (Cn c) == some (.ref (ZaE c))) = true := by kernel_rfl!
theorem Zsh (P : Pm) : ZbY (KK P) 3 (sO "Limits") = some (.ref 309) := by kernel_rfl!
theorem Zsi : bootBuiltins (sO "len") = some (.builtin "len") := by boot_fast
theorem Zsj : bootBuiltins (sO "isinstance") = some (.builtin "isinstance") := by boot_fast
theorem Zsk : bootBuiltins (sO "max") = some (.builtin "max") := by boot_fast
theorem Zsl : bootBuiltins (sO "abs") = some (.builtin "abs") := by boot_fast
theorem ZqI : bootBuiltins (sO "list") = some (.type "list") := by boot_fast
theorem Zsm : bootBuiltins (sO "tuple") = some (.type "tuple") := by boot_fast
theorem Zsn : bootBuiltins (sO "range") = some (.type "range") := by boot_fast
theorem Zso : bootBuiltins (sO "Exception") = some (.type "Exception") := by boot_fast
theorem Zsp (h : 75 ≤ g) : gv g = none := by
 obtain ⟨k, rfl⟩ := Nat.exists_eq_add_of_le h
 rw [Nat.add_comm]
 rfl
section
variable {prog : Program} {w : World} {h₀ : Heap} {p : Program} {loose : List Str} {mg mb : Str → Option Vl}
theorem Zgv (e : Zw c = some f) : (c = 5 ∧ f = 58) ∨ (c = 6 ∧ f = 59) ∨ (c = 7 ∧ f = 60) ∨ (c = 8 ∧ f = 61) ∨ (c = 9 ∧ f = 62) := by
 obtain ⟨h, rfl⟩ := ZF (c := Nat.ble 5 c && Nat.ble c 9) e
 obtain ⟨h1, h2⟩ := ba2 h
 exact (by decide : ∀ c, c ≤ 9 → 5 ≤ c → (c = 5 ∧ c + 53 = 58) ∨ (c = 6 ∧ c + 53 = 59) ∨ (c = 7 ∧ c + 53 = 60) ∨ (c = 8 ∧ c + 53 = 61) ∨ (c = 9 ∧ c + 53 = 62)) c (Nat.le_of_ble_eq_true h2) (Nat.le_of_ble_eq_true h1)
theorem fc {P : α → Prop} (a : P x) (b : ∀ y ∈ l, P y) : ∀ y ∈ x :: l, P y := List.forall_mem_cons.mpr ⟨a, b⟩
theorem ZqJ (X : (KK w.params).In h₀) (T : TopRead p loose mg mb h₀) : Ground (ZbF prog w h₀) := by
 have sl := ZkG w.params
 obtain ⟨sl, sS⟩ := ba2 sl
 obtain ⟨⟨⟨⟨⟨s5, s6⟩, s7⟩, s8⟩, s9⟩, sL⟩ := ba6 sl
 have mis := List.all_eq_true.mp (Znd w.params)
 have cls := List.all_eq_true.mp (Zsg w.params)
 have bt : ∀ {x : Str} {v : Vl}, bootBuiltins x = some v → x ≠ "__name__" → mb x = some v := fun e n => (T.builtins _ n).trans e
 refine ⟨X, T.nolimit, ?_, ?_, ?_, ?_, ⟨ZbY (KK w.params) 3, mb, Zi7 X (Zmp _), T.b, ?_, Zsh _, ?_, ?_⟩⟩
 ·obtain ⟨d, e⟩ := Option.isSome_iff_exists.mp (Zsf w.params)
  obtain ⟨o, ho, _⟩ := ZcO X e
  exact ⟨722, o, by decide, ho⟩
 ·intro c hc
  obtain ⟨f, hc⟩ := Option.isSome_iff_exists.mp hc
  rcases Zgv hc with ⟨rfl, _⟩ | ⟨rfl, _⟩ | ⟨rfl, _⟩ | ⟨rfl, _⟩ | ⟨rfl, _⟩
  ·exact ZcP (Ztb _)
  ·exact ZcP (Ztc _)
  ·exact ZcP (Ztd _)
  ·exact ZcP (Zte _)
  ·exact ZcP (Ztf _)
 ·intro c f hc
  rcases Zgv hc with ⟨rfl, rfl⟩ | ⟨rfl, rfl⟩ | ⟨rfl, rfl⟩ | ⟨rfl, rfl⟩ | ⟨rfl, rfl⟩
  ·exact Za5 s5
  ·exact Za5 s6
  ·exact Za5 s7
  ·exact Za5 s8
  ·exact Za5 s9
 ·intro c a f hc
  obtain ⟨rfl, hd⟩ := Zf9 hc
  clear hc; rcases hd with ⟨rfl, rfl⟩ | ⟨rfl, rfl⟩
  ·exact Za5 (name := An 11) (by rw [show An 11 = sO "load" by decide +kernel]; exact sL)
  ·exact Za5 (name := An 12) (by rw [show An 12 = sO "store" by decide +kernel]; exact sS)
 ·intro g v e
  have hg : g < GN.length := by
   by_cases q : g < GN.length
   ·exact q
   ·exfalso
    have : gv g = none := Zsp (Nat.le_of_not_lt q)
    rw [this] at e; cases e
  have c := List.all_eq_true.mp (ZqH w.params) g (List.mem_range.mpr hg)
  unfold Znc at c
  rw [e] at c
  dsimp only at c
  cases q : ZbY (KK w.params) 3 (Gn g) with
  | none => rw [q] at c; cases v <;> cases c
  | some u =>
   rw [q] at c
   refine ⟨u, rfl, ?_⟩
   cases v with
   | fn f => exact beq_iff_eq.mp c
   | cls k => exact beq_iff_eq.mp c
   | d x => exact Zcq X c
   | dic es =>
    obtain ⟨c1, c2⟩ := ba2 c
    obtain rfl := beq_iff_eq.mp c1
    obtain rfl := beq_iff_eq.mp c2
    cases e
    exact ⟨583, rfl, ZkH X⟩
   | loc l => cases c
 ·intro c hc
  exact beq_iff_eq.mp (cls c ((by decide : ∀ c, c ≤ 4 → c ∈ [0, 1, 2, 3, 4]) c hc))
 ·intro x v m
  have nn := fun y m => Option.isNone_iff_eq_none.mp (mis y m)
  exact fc (P := fun p : Str × Vl => ZbY (KK w.params) 3 p.1 = none ∧ mb p.1 = some p.2) ⟨nn _ (.head _), bt Zsi (by decide +kernel)⟩ (fc ⟨nn _ (.tail _ (.head _)), bt Zsj (by decide +kernel)⟩
   (fc ⟨nn _ (.tail _ (.tail _ (.head _))), bt Zsk (by decide +kernel)⟩ (fc ⟨nn _ (.tail _ (.tail _ (.tail _ (.head _)))), bt Zsl (by decide +kernel)⟩
   (fc ⟨nn _ (.tail _ (.tail _ (.tail _ (.tail _ (.head _))))), bt ZqI (by decide +kernel)⟩ (fc ⟨nn _ (.tail _ (.tail _ (.tail _ (.tail _ (.tail _ (.head _)))))), bt Zsm (by decide +kernel)⟩
   (fc ⟨nn _ (.tail _ (.tail _ (.tail _ (.tail _ (.tail _ (.tail _ (.head _))))))), bt Zsn (by decide +kernel)⟩ fun z h => (List.not_mem_nil h).elim)))))) (x, v) m
end
theorem ZoW (P : Pm) : ((List.range 11).all fun c => (List.range 5).all fun k => exmOne (KK P) (.ref (ZaE c)) (.ref (ZaE k)) == some (Zah c k)) = true := by kernel_rfl!
theorem ZqK : Exm (ZbF prog w h₀) := by
 refine ⟨fun c k hk => ?_⟩
 have a := List.all_eq_true.mp (ZoW w.params)
 by_cases hc : c < 10
 ·have b := List.all_eq_true.mp (a c (List.mem_range.mpr (by omega))) k (List.mem_range.mpr (by omega))
  exact beq_iff_eq.mp b
 ·have b := List.all_eq_true.mp (a 10 (List.mem_range.mpr (by omega))) k (List.mem_range.mpr (by omega))
  have e := beq_iff_eq.mp b
  have h1 : ZaE c = ZaE 10 := by
   unfold ZaE
   rw [List.getD_eq_getElem?_getD, List.getD_eq_getElem?_getD, List.getElem?_eq_none (by show 10 ≤ c; omega), List.getElem?_eq_none (by show 10 ≤ 10; omega)]
  have h2 : Zah c k = Zah 10 k := by
   unfold Zah
   have e1 : (c == k) = false := by rw [beq_eq_false_iff_ne]; omega
   have e2 : decide (c ≤ 4) = false := by rw [decide_eq_false_iff_not]; omega
   have e3 : ((10 : Nat) == k) = false := by rw [beq_eq_false_iff_ne]; omega
   rw [e1, e2, e3]; rfl
  show exmOne (KK w.params) (.ref (ZaE c)) (.ref (ZaE k)) = some (Zah c k)
  rw [h1, h2]; exact e
noncomputable def Zcr (K : Frag) (C : Addr) (name : Str) : Bool := (match clsIn K C with | some cd => cd.hasDict && Za4 cd.mro | none => false) && findIn K (.ref C) "__setattr__" == some (some (.builtin "object.__setattr__")) && findIn K (.ref C) name == some none
set_option tactic.hygienic true in
theorem Zdu {K : Frag} (e : Zcr K C name = true) : EKeeps K C name := by
 simp only [Zcr, bA, beq_iff_eq] at e
 obtain ⟨⟨e1, e2⟩, e3⟩ := e
 refine ⟨?_, e2, e3⟩
 split at e1
 ·rename_i cd q
  simp only [bA] at e1
  exact ⟨cd, q, e1.1, e1.2⟩
 ·cases e1
theorem ZeP (P : Pm) : ((List.range 5).all fun c => Zcr (KK P) (ZaE c) (An 16) && Zcr (KK P) (ZaE c) (An 2)) = true := by kernel_rfl!
theorem ZqL (P : Pm) : ((List.range' 1 4).all fun c => Zfm (KK P) (ZaE c)) = true := by kernel_rfl!
theorem ZoX (P : Pm) : ((List.range' 1 3).all fun c => findIn (KK P) (.ref (ZaE c)) "__init__" == some (some (.ref 35))) = true := by kernel_rfl!
theorem Zmq (P : Pm) : ((List.range 5).all fun c => findIn (KK P) (.ref (ZaE c)) "__getattribute__" == some (some (.builtin "BaseException.__getattribute__")) && findIn (KK P) (.ref (ZaE c)) "__getattr__" == some none) = true := by kernel_rfl!
theorem ZoY (P : Pm) : (findIn (KK P) (.ref 94) "__init__" == some (some (.ref 91)) && typeIn (KK P) (.ref 35) == some (.type "function") && typeIn (KK P) (.ref 91) == some (.type "function") && readsIn (KK P) 38 (.type "type") && specialIn (KK P) (.ref 38) "__getattribute__" == some (some (.builtin "type.__getattribute__")) && keepIn (KK P) (.ref 35)) = true := by kernel_rfl!
theorem ZoZ (P : Pm) : findCls (KK P) (.ref 38) (.type "type") "__init__" = some (.val (.ref 35)) := by kernel_rfl!
noncomputable def Zc2 (K : Frag) (a : Addr) (y X : Str) : Bool := match Zz K a with
 | some d => d.globals == mainGlobals && d.builtins == builtinsNs && d.closure.isEmpty && codeIn K d.code d.qualname && !d.scope.isCoroutine && !d.scope.isGenerator && d.scope.kind == .function && d.scope.names == [(ZB, .local), (y, .local), (X, .globalImplicit)]
 | none => false
theorem Zh7 {y X fld : Str} (XK : S.K.In S.h₀) (e : Zc2 S.K a y X = true) (b : (Zz S.K a).map (·.body) = some (.stmts [.Expr (.Call (.Attribute (.Name X p1) "__init__" p2) [.Name ZB p3, a2] [] p4) p5, .Assign [.Attribute (.Name ZB p6) fld p7] (.Name y p8) p9]))
 (hp : (p2.endLine == p4.line) = true) (bi : ∀ u v : Vl, (Zz S.K a).map (fun d => bindArgs d ⟨[u, v], []⟩) = some (pure [(ZB, u), (y, v)])) (ny : (y == ZB) = false ∧ (y == dbg) = false) (nx : (X == ZB) = false ∧ (X == y) = false ∧ (X == dbg) = false) : InitAt S a y X a2 fld := by
 unfold Zc2 at e
 cases q : Zz S.K a with
 | none => rw [q] at e; cases e
 | some d =>
  rw [q] at e b
  simp only [bA, beq_iff_eq, Bool.not_eq_true', List.isEmpty_iff] at e
  obtain ⟨⟨⟨⟨⟨⟨⟨e1, e2⟩, e3⟩, e4⟩, e5⟩, e6⟩, e7⟩, e8⟩ := e
  obtain ⟨o, ho, hd⟩ := ZcO XK q
  refine ⟨⟨o, d, ho, hd, e1, e2, e3, ⟨p1, p2, p3, p4, p5, p6, p7, p8, p9, Option.some.inj b, hp⟩, fun u v => ?_, codeRec_of XK e4, e5, e6, e7, e8⟩, ny, nx⟩
  have := bi u v
  rw [q] at this
  exact Option.some.inj this
theorem Zo0 (P : Pm) : Zc2 (KK P) 35 Zan ZcN = true := by kernel_rfl!
theorem Zo1 (P : Pm) : Zc2 (KK P) 91 ZS Zi0 = true := by kernel_rfl!
theorem Zmr (P : Pm) : (Zz (KK P) 35).map (·.body) = some (.stmts [.Expr (.Call (.Attribute (.Name ZcN ⟨8, 8, 8, 17⟩) "__init__" ⟨8, 8, 8, 26⟩) [.Name ZB ⟨8, 27, 8, 31⟩, .Name Zan ⟨8, 33, 8, 37⟩] [] ⟨8, 8, 8, 38⟩) ⟨8, 8, 8, 38⟩, .Assign [.Attribute (.Name ZB ⟨9, 8, 9, 12⟩) Zan ⟨9, 8, 9, 17⟩] (.Name Zan ⟨9, 20, 9, 24⟩) ⟨9, 8, 9, 24⟩]) := by kernel_rfl!
theorem Zms (P : Pm) : (Zz (KK P) 91).map (·.body) = some (.stmts [.Expr (.Call (.Attribute (.Name Zi0 ⟨19, 8, 19, 16⟩) "__init__" ⟨19, 8, 19, 25⟩) [.Name ZB ⟨19, 26, 19, 30⟩, .Constant (.str (sO "too many steps")) 0 ⟨19, 32, 19, 48⟩] [] ⟨19, 8, 19, 49⟩) ⟨19, 8, 19, 49⟩, .Assign [.Attribute (.Name ZB ⟨20, 8, 20, 12⟩) ZS ⟨20, 8, 20, 18⟩] (.Name ZS ⟨20, 21, 20, 26⟩) ⟨20, 8, 20, 26⟩]) := by kernel_rfl!
theorem Zmt (P : Pm) (u v : Vl) : (Zz (KK P) 35).map (fun d => bindArgs d ⟨[u, v], []⟩) = some (pure [(ZB, u), (Zan, v)]) := by kernel_rfl!
theorem Zmu (P : Pm) (u v : Vl) : (Zz (KK P) 91).map (fun d => bindArgs d ⟨[u, v], []⟩) = some (pure [(ZB, u), (ZS, v)]) := by kernel_rfl!
section
variable {prog : Program} {w : World} {h₀ : Heap} {p : Program} {loose : List Str} {mg mb : Str → Option Vl}
theorem ZkI (X : (KK w.params).In h₀) (T : TopRead p loose mg mb h₀) : ExcFacts (ZbF prog w h₀) := by
 have mk := List.all_eq_true.mp (ZqL w.params)
 have ini := List.all_eq_true.mp (ZoX w.params)
 have kp := List.all_eq_true.mp (ZeP w.params)
 have few := ZoY w.params
 simp only [bA, beq_iff_eq] at few
 obtain ⟨⟨⟨⟨⟨f1, f2⟩, f3⟩, f4⟩, f5⟩, f6⟩ := few
 have mis := List.all_eq_true.mp (Znd w.params)
 refine ⟨fun c h1 h4 => mk c (List.mem_range'_1.mpr ⟨h1, Nat.lt_succ_of_le h4⟩), fun c h1 h3 => beq_iff_eq.mp (ini c (List.mem_range'_1.mpr ⟨h1, Nat.lt_succ_of_le h3⟩)), f1, f2, f3, fun c a h1 h4 ha => ?_, ZoZ _, f4, f5, f6, ⟨⟨8, 33, 8, 37⟩, ?_⟩, ⟨⟨19, 32, 19, 48⟩, ?_⟩, ⟨ZbY (KK w.params) 3, mb, Zi7 X (Zmp _), T.b, ?_, ?_⟩⟩
 ·have := kp c (List.mem_range.mpr (Nat.lt_succ_of_le h4))
  simp only [bA] at this
  rcases ha with rfl | rfl
  ·exact Zdu this.1
  ·exact Zdu this.2
 ·exact Zh7 (S := ZbF prog w h₀) X (Zo0 _) (Zmr _) rfl (Zmt _) ⟨by decide +kernel, by decide +kernel⟩ ⟨by decide +kernel, by decide +kernel, by decide +kernel⟩
 ·exact Zh7 (S := ZbF prog w h₀) X (Zo1 _) (Zms _) rfl (Zmu _) ⟨by decide +kernel, by decide +kernel⟩ ⟨by decide +kernel, by decide +kernel, by decide +kernel⟩
 ·exact Option.isNone_iff_eq_none.mp (mis ZcN (by simp))
 ·exact (T.builtins _ (by decide +kernel)).trans Zso
theorem Zi9 : ExcGet (ZbF prog w h₀) := by
 have kp := List.all_eq_true.mp (ZeP w.params)
 have gt := List.all_eq_true.mp (Zmq w.params)
 refine ⟨fun c hc => ?_⟩
 have k := kp c (List.mem_range.mpr (Nat.lt_succ_of_le hc))
 have g := gt c (List.mem_range.mpr (Nat.lt_succ_of_le hc))
 simp only [bA, beq_iff_eq] at k g
 exact ⟨g.1, g.2, Zdu k.1⟩
theorem ZqM (X : (KK w.params).In h₀) : LimAt (ZbF prog w h₀) := by
 obtain ⟨d, e, D⟩ := ZkF (S := ZbF prog w h₀) (P := w.params) rfl rfl X
 refine ⟨_, d, rfl, D, fun s x u base => ⟨_, 640, 641, 642, 643, 645, 646, 647, fun M A E Q q => ?_, ?_, fun p m => m, fun p m => ?_⟩⟩
 ·have e' : Zz (KK w.params) 306 = some d := e
  have := ZqF w.params ⟨M.prog, M.w.params⟩ x u
  rw [e'] at this
  have X' : (KK w.params).In s.heap := Frag.In.keeps X base
  exact (Looks.of_peek (M := M) X' (Option.some.inj this)).here q
 ·have : ((Zr.ns.take Zr.np)).Nodup := by decide +kernel
  exact this
 ·exact (List.of_mem_zip m).1
theorem ZqN (X : (KK w.params).In h₀) (T : TopRead p loose mg mb h₀) : TopOk (ZbF prog w h₀) := ⟨ZqJ X T, ZqG rfl rfl X, ZqK, ZkI X T, Zi9, ZqM X⟩
end
noncomputable def Zh8 : Prop := ∀ ns : List Int, ns.length ≤ 63 → ∃ st, Zi 12 56 [.d (.list (ns.map .int))] [] = .ok (.d (.bool true)) st
theorem Zo2 {h : Heap} (x : h.Ns a m) (y : h.Ns a m') (n : Str) : m n = m' n := by
 obtain ⟨o, es, ep, e1, e2, _, e3⟩ := x
 obtain ⟨o', es', ep', f1, f2, _, f3⟩ := y
 rw [e1] at f1; cases f1
 rw [e2] at f2; cases f2
 rw [← e3 n, f3 n]
theorem Zmv (P : Pm) : ZbY (KK P) 3 (sO "law") = some (.ref 722) := by kernel_rfl!
theorem Zgw : ∀ {vs : List Vl} {ns : List Int}, WellAll P h vs (ns.map fun n => ofPy (.int n)) → DRs [] h vs (ns.map .int)
 | [], [], _ => .nil
 | [], _ :: _, w => by cases w
 | _ :: _, [], w => by cases w
 | v :: vs, n :: ns, w => by
  cases w with
  | cons a b =>
   cases a
   exact .cons (.int _ _) (Zgw b)
theorem ZkJ (ns : List Int) : ofPy (.list (ns.map .int)) = .list (ns.map fun n => ofPy (.int n)) := by
 simp only [ofPy]
 congr 1
 induction ns with
 | nil => rfl
 | cons n ns ih => simp only [lM9, ofPys, ih, ofPy]
section
variable {prog : Program} {w : World} {s₁ : Sh} {p : Program} {loose : List Str} {mg mb : Str → Option Vl}
theorem Zo3 (hL : Zh8) (X : (KK w.params).In s₁.heap) (T : TopRead p loose mg mb s₁.heap) {ns : List Int} (hl : ns.length ≤ 63) (wl : Well w.params s₁.heap (.ref l) (ofPy (.list (ns.map .int))))
 (q : ∀ h' tk, (∀ b o, s₁.heap.get? b = some o → h'.get? b = some o) → R (.ok (.ret (.bool true))) { s₁ with heap := h', toks := tk }) :
 cA (model prog w) callerA (.call (.ref 722) ⟨[.ref l], []⟩) R s₁ := by
 have TT := ZqN (prog := prog) X T
 obtain ⟨st, e⟩ := hL ns hl
 obtain ⟨H, _⟩ := Zh3 TT 12
 have I : Inv (ZbF prog w s₁.heap) ⟨[], [], []⟩ [] s₁.heap := ⟨fun u u e => e, rfl, fun l c mo e => by simp at e, List.nodup_nil, fun u m => (nomatch m), fun u m => (nomatch m)⟩
 have dl : DR [] s₁.heap (.ref l) (.list (ns.map .int)) := by
  rw [ZkJ] at wl
  cases wl with
  | list ho wa => exact .list (by simp) ho (by simpa using Zgw wa)
 refine codeAny_mono (H.run 56 [.d (.list (ns.map .int))] [] ⟨[], [], []⟩ s₁ callerA [] [.ref l] rfl (fun u m => nomatch m) ⟨rfl, by decide +kernel, by decide +kernel⟩ I (.cons dl .nil) (by rw [e]; intro z; cases z)) fun r s' z => ?_
 rw [e] at z
 rcases r with x | (x | _ | _ | _) <;> first | exact z.elim | skip
 ·obtain ⟨_, _, _, _, _, y, _⟩ := z; cases y
 ·obtain ⟨v, st', W', y, h', tk, rfl, P, I', vr⟩ := z
  cases y
  cases vr
  exact q h' tk fun b o z => I'.base b o z
end
theorem law_holds (hL : Zh8) : PySem.Challenge.rw_pf0130_01.Holds := hd (by
 w_strict (
  k_fill
  intro w s₀ s₁ mg mb G Y fa o pm cd doc dV kV ho hd hcd hD hmg hg args vals as hpre hlay hrd hwl hlo
  have KX := kIn_of Y
  refine Ground.open G ?_
  intro T B D TE TW
  have TR := topRead_of T
  have efa : fa = 722 := by
   have e1 := Zo2 TR.g (Zi7 (K := KK w.params) KX (Zmp _)) (sO "law")
   have e2 := hmg.symm.trans (e1.trans (Zmv w.params))
   exact Value.ref.inj (Option.some.inj e2)
  subst efa
  clear hd hcd hD hmg ho
  wrow_args hpre hlay hrd hwl hlo
  refine enter_call ?_
  refine Zo3 hL KX TR ?hl (by assumption) fun h' tk k => ?_
  case hl => omega
  refine ⟨.inl ⟨.bool true, .bool true, [], rfl, ?_, .bool true, ?_, ?_⟩, .of_keep k, rfl, .of_eq hg⟩
  ·first | exact raisesW_false (by wrow_none_raised) | (intro cls; kernel_rfl!)
  ·kernel_rfl!
  ·exact fun y => ⟨List.nodup_nil, fun a m => nomatch m⟩))
end
namespace B
section
open PySem
noncomputable abbrev QV := MV → St → Prop
noncomputable abbrev QR := Nat → List (Nat × PD) → St → Prop
noncomputable abbrev ZD := Nat → List MV → St → QV → QR → Prop
noncomputable def oQ {α : Type} (o : Option α) (k : α → Prop) : Prop := match o with
 | some a => k a
 | none => False
noncomputable def koO {α : Type} (o : Option α) (st : St) (k : α → St → Prop) : Prop := oQ o fun a => k a st
noncomputable def kBx (o : Option Bool) (st : St) (k : QV) : Prop := oQ o fun b => k (.d (.bool b)) st
noncomputable def noR : QR := fun _ _ _ => False
noncomputable def brQ (a b : Prop) (v : Bool) : Prop := match v with
 | true => a
 | false => b
noncomputable def dQ (v : MV) (k : PD → Prop) : Prop := match v with
 | .d y => k y
 | _ => False
noncomputable def Zer (v : MV) (k : Int → Prop) : Prop := match v with
 | .d (.int a) => k a
 | _ => False
noncomputable def Zsq (v : MV) (k : Prop) : Prop := match v with
 | .d .none => k
 | _ => False
noncomputable def Zsr (h : Bool) (xs : List PD) (st : St) (k : QV) : Prop := match h with
 | true => k (.loc st.length) (st ++ [.list xs])
 | false => k (.d (.list xs)) st
noncomputable def ZqO (v : MV) (st : St) (k : List PD → St → Prop) : Prop := match v with
 | .d (.int n) => brQ (k ((List.range n.toNat).map fun j : Nat => PyData.int (j : Int)) st) False (decide (0 ≤ n) && Zc n.toNat)
 | _ => False
noncomputable def Zmw (v : MV) (st : St) (k : List PD → St → Prop) : Prop := match v with
 | .d (.list xs) => brQ (k xs st) False (Zc xs.length)
 | .d (.tuple xs) => brQ (k xs st) False (Zc xs.length)
 | _ => False
noncomputable def Zfn (t : CT) (f : En → St → QV → Prop) (c : En → St → (Bool → St → Prop) → Prop) : List PD → En → St → (List PD → St → Prop) → Prop
 | [], _, st, k => k [] st
 | x :: r, ρ, st, k => oQ (Zag t x ρ) fun ρ => c ρ st fun b st => brQ (f ρ st fun v st => dQ v fun y => Zfn t f c r ρ st fun ys st => k (y :: ys) st) (Zfn t f c r ρ st k) b
noncomputable def Zc3 (C : ZD) (c : Nat) (as : List MV) (st : St) (k : QV) : Prop := oQ (Zw c) fun f => C f (.loc st.length :: as) (st ++ [.inst c []]) (fun v st' => Zsq v (k (.loc st.length) st')) noR
noncomputable def ZkK (C : ZD) (f : MV) (as : List MV) (st : St) (k : QV) (kx : QR) : Prop := match f with
 | .fn n => C n as st k kx
 | .cls c => Zc3 C c as st k
 | _ => False
noncomputable def fin {β : Type} (r : RV β) (kx : QR) (k : β → St → Prop) : Prop := match r with
 | .ok v st => k v st
 | .ex c fs st => kx c fs st
 | .no => False
noncomputable def Zgx (ov : MV) (a : Nat) (as : List MV) (st : St) (k : QV) (kx : QR) : Prop := fin (ZC ov a as st) kx k
noncomputable def Zgy (C : ZD) (ov : MV) (a : Nat) (as : List MV) (st₀ st : St) (k : QV) (kx : QR) : Prop := match ov with
 | .loc l => (match st₀[l]? with
  | some (.inst c _) => (match ZP c a with
   | some f => C f (ov :: as) st k kx
   | none => False)
  | some (.list _) => Zgx ov a as st k kx
  | _ => False)
 | _ => Zgx ov a as st k kx
noncomputable def Zss (h : Bool) (x : PD) (st : St) (k : QV) : Prop := match h with
 | true => (match x with
  | .list xs => k (.loc st.length) (st ++ [.list xs])
  | _ => False)
 | false => k (.d x) st
noncomputable def Zja (op : Operator) (h : Bool) (a b : MV) (st : St) (k : QV) : Prop := oQ (asD st a) fun x => oQ (asD st b) fun y => oQ (ZE op x y) fun z => Zss h z st k
noncomputable def ZdY (h : Bool) (ks : List (Cst × Pos)) (vs : List MV) (st : St) (k : QV) : Prop := match h with
 | true => oQ (Zbg ks vs) fun es => k (.loc st.length) (st ++ [.dict es])
 | false => oQ (Zbh ks vs) fun es => k (.dic es) st
noncomputable def kB (v : MV) (st : St) (k : Bool → St → Prop) : Prop := match v with
 | .d (.bool b) => k b st
 | _ => False
structure KX where
 rt : MV → St → Prop
 ex : Nat → List (Nat × PD) → En → St → Prop
noncomputable abbrev KX.xk (X : KX) (ρ : En) : QR := fun c fs st => X.ex c fs ρ st
noncomputable def noX : KX := ⟨fun _ _ => False, fun _ _ _ _ => False⟩
mutual
noncomputable def evQ (C : ZD) : CE → KX → En → St → QV → Prop
 | .cst c _, _, _, st, k => k (.d c.d) st
 | .loc i _, _, ρ, st, k => koO (ρ[i]?.join) st k
 | .glb g _, _, _, st, k => koO (gv g) st k
 | .attr e a _, X, ρ, st, k => evQ C e X ρ st fun v st => koO (ZcA v a st) st k
 | .sub e i _, X, ρ, st, k => evQ C e X ρ st fun v st => evQ C i X ρ st fun j st => koO (ZaM st v j) st k
 | .slc e lo hi _ _, X, ρ, st, k => evQ C e X ρ st fun v st => Zdv C lo X ρ st fun l st => Zdv C hi X ρ st fun h st => koO (ZY st v l h) st fun x st => k (.d x) st
 | .bin op a b h _, X, ρ, st, k => evQ C a X ρ st fun x st => evQ C b X ρ st fun y st => Zja op h x y st k
 | .un op a _, X, ρ, st, k => evQ C a X ρ st fun x st => koO (unV op x) st k
 | .cmp op a b _, X, ρ, st, k => evQ C a X ρ st fun x st => evQ C b X ρ st fun y st => kBx (Zt op st x y) st k
 | .cmp2 o1 o2 a b c _, X, ρ, st, k => evQ C a X ρ st fun x st => evQ C b X ρ st fun y st => koO (Zt o1 st x y) st fun t st => brQ (evQ C c X ρ st fun z st => kBx (Zt o2 st y z) st k) (k (.d (.bool false)) st) t
 | .cmp3 o1 o2 o3 a b c d _, X, ρ, st, k => evQ C a X ρ st fun x st => evQ C b X ρ st fun y st => koO (Zt o1 st x y) st fun t st => brQ (evQ C c X ρ st fun z st => koO (Zt o2 st y z) st fun t st => brQ (evQ C d X ρ st fun u st => kBx (Zt o3 st z u) st k) (k (.d (.bool false)) st) t) (k (.d (.bool false)) st) t
 | .bop op es _, X, ρ, st, k => Zfo C op es X ρ st fun b st => k (.d (.bool b)) st
 | .ite t a b _, X, ρ, st, k => evQ C t X ρ st fun v st => kB v st fun v st => brQ (evQ C a X ρ st k) (evQ C b X ρ st k) v
 | .list es h _, X, ρ, st, k => ZbZ C es X ρ st fun vs st => koO (ZbU vs) st fun xs st => Zsr h xs st k
 | .tup es _, X, ρ, st, k => ZbZ C es X ρ st fun vs st => koO (ZbU vs) st fun xs st => k (.d (.tuple xs)) st
 | .dict ks vs h _, X, ρ, st, k => ZbZ C vs X ρ st fun vs st => ZdY h ks vs st k
 | .comp f t s c nt cap _ _ _, X, ρ, st, k => Zmx C s X ρ st fun xs st =>
  Zfn t (fun ρ st k => evQ C f noX ρ st k) (fun ρ st k => ZqP C c ρ st k) xs (List.replicate nt none ++ cap.map fun i => ρ[i]?.join) st fun ys st => k (.d (.list ys)) st
 | .call f as _, X, ρ, st, k => evQ C f X ρ st fun v st => ZbZ C as X ρ st fun vs st => ZkK C v vs st k (X.xk ρ)
 | .meth o a as _ _, X, ρ, st, k => evQ C o X ρ st fun v st₀ => brQ (ZbZ C as X ρ st₀ fun vs st => Zgy C v a vs st₀ st k (X.xk ρ)) False (Za2 v a st₀)
 | .blt b as _ _ _, X, ρ, st, k => ZbZ C as X ρ st fun vs st => koO (Zaf b st vs) st k
 | .lim e _ _ _, X, ρ, st, k => evQ C e X ρ st fun v st => Zc3 C 8 (Zaw v) st k
noncomputable def Zdv (C : ZD) : CO → KX → En → St → (Option MV → St → Prop) → Prop
 | .no, _, _, st, k => k none st
 | .so e, X, ρ, st, k => evQ C e X ρ st fun v st => k (some v) st
noncomputable def ZqP (C : ZD) : CO → En → St → (Bool → St → Prop) → Prop
 | .no, _, st, k => k true st
 | .so e, ρ, st, k => evQ C e noX ρ st fun v st => kB v st k
noncomputable def ZbZ (C : ZD) : CL → KX → En → St → (List MV → St → Prop) → Prop
 | .nil, _, _, st, k => k [] st
 | .cons e r, X, ρ, st, k => evQ C e X ρ st fun v st => ZbZ C r X ρ st fun vs st => k (v :: vs) st
noncomputable def Zmx (C : ZD) : CS → KX → En → St → (List PD → St → Prop) → Prop
 | .rng e _ _, X, ρ, st, k => evQ C e X ρ st fun v st => ZqO v st k
 | .val e, X, ρ, st, k => evQ C e X ρ st fun v st => Zmw v st k
noncomputable def Zfo (C : ZD) : BoolOp → CL → KX → En → St → (Bool → St → Prop) → Prop
 | .And, .nil, _, _, st, k => k true st
 | .Or, .nil, _, _, st, k => k false st
 | .And, .cons e r, X, ρ, st, k => evQ C e X ρ st fun v st => kB v st fun b st => brQ (Zfo C .And r X ρ st k) (k false st) b
 | .Or, .cons e r, X, ρ, st, k => evQ C e X ρ st fun v st => kB v st fun b st => brQ (k true st) (Zfo C .Or r X ρ st k) b
end
noncomputable def Zcs (t : CT) (b : En → St → (En → St → Prop) → Prop) : List PD → En → St → (En → St → Prop) → Prop
 | [], ρ, st, k => k ρ st
 | x :: r, ρ, st, k => oQ (Zag t x ρ) fun ρ => b ρ st fun ρ st => Zcs t b r ρ st k
noncomputable def Zmy (t : En → St → (Bool → St → Prop) → Prop) (b : En → St → (En → St → Prop) → Prop) : Nat → En → St → (En → St → Prop) → Prop
 | 0, _, _, _ => False
 | n + 1, ρ, st, k => t ρ st fun v st => brQ (b ρ st fun ρ st => Zmy t b n ρ st k) (k ρ st) v
noncomputable def ZqQ (v : MV) (k : List PD → Prop) : Prop := match v with
 | .d (.tuple xs) => k xs
 | _ => False
noncomputable def Zne (o : Option (Option MV)) (rt : MV → St → Prop) (e : Prop) (st : St) : Prop := match o with
 | some (some v) => rt v st
 | some none => False
 | none => e
noncomputable def Ztg (C : ZD) (X : KX) (ρ : En) (st : St) : CO → Prop
 | .no => X.rt (.d .none) st
 | .so e => evQ C e X ρ st fun v st => X.rt v st
noncomputable def ZqR (C : ZD) (X : KX) (ρ : En) (k : En → St → Prop) : CA → MV → St → Prop
 | .nm i _, x, st => k (ρ.set i (some x)) st
 | .attr o a _, x, st => evQ C o X ρ st fun ov st => koO (ZbT ov a x st) st fun st _ => k ρ st
 | .sub o i _, x, st => evQ C o X ρ st fun ov st => evQ C i X ρ st fun j st => koO (Za1 st ov j x) st fun st _ => k ρ st
 | .slc o lo hi _ _, x, st => evQ C o X ρ st fun ov st => Zdv C lo X ρ st fun l st => Zdv C hi X ρ st fun h st => koO (Zae st ov l h x) st fun st _ => k ρ st
 | .tup is _, x, st => ZqQ x fun xs => koO (ZaT xs is ρ) st k
mutual
noncomputable def ZqS (C : ZD) : CX → KX → En → St → (En → St → Prop) → Prop
 | .asg t e _, X, ρ, st, k => evQ C e X ρ st fun x st => ZqR C X ρ k t x st
 | .unp is es _ _ _, X, ρ, st, k => ZbZ C es X ρ st fun vs st => koO (ZG vs is ρ) st k
 | .aug i op e _ _, X, ρ, st, k => koO (ρ[i]?.join) st fun v st => Zer v fun a => evQ C e X ρ st fun y st => Zer y fun b => koO (ZE op (.int a) (.int b)) st fun z st => k (ρ.set i (some (.d z))) st
 | .augA o a op e _ _, X, ρ, st, k => evQ C o X ρ st fun ov st => koO (ZcA ov a st) st fun v st => Zer v fun x => evQ C e X ρ st fun y st => Zer y fun b => koO (ZE op (.int x) (.int b)) st fun z st => koO (ZbT ov a (.d z) st) st fun st _ => k ρ st
 | .ifs t b o _, X, ρ, st, k => evQ C t X ρ st fun v st => kB v st fun v st => brQ (ZX C b X ρ st k) (ZX C o X ρ st k) v
 | .whl t b _, X, ρ, st, k => Zmy (fun ρ st k => evQ C t X ρ st fun v st => kB v st k) (fun ρ st k => ZX C b X ρ st k) 100 ρ st k
 | .fr t s b _, X, ρ, st, k => Zmx C s X ρ st fun xs st => Zcs t (fun ρ st k => ZX C b X ρ st k) xs ρ st k
 | .ret e _, X, ρ, st, _ => Ztg C X ρ st e
 | .rse g as _ _ _, X, ρ, st, _ => ZbZ C as X ρ st fun vs st => koO (Zcd g vs) st fun fs st => X.ex g fs ρ st
 | .try_ b hs _, X, ρ, st, k => ZX C b ⟨X.rt, fun c fs ρ st => Zne (ZaL c fs hs) X.rt (X.ex c fs ρ st) st⟩ ρ st k
 | .ex e _, X, ρ, st, k => evQ C e X ρ st fun _ st => k ρ st
 | .pass _, _, ρ, st, k => k ρ st
noncomputable def ZX (C : ZD) : CB → KX → En → St → (En → St → Prop) → Prop
 | .nil, _, ρ, st, k => k ρ st
 | .cons s r, X, ρ, st, k => ZqS C s X ρ st fun ρ st => ZX C r X ρ st k
end
noncomputable def Zg : Nat → ZD
 | 0, _, _, _, _, _ => False
 | n + 1, f, as, st, k, kx => oQ (Za0 f) fun fd => brQ (ZX (Zg n) fd.body ⟨k, fun c fs _ st => kx c fs st⟩ (as.map some ++ List.replicate (fd.ns.length - fd.np) none) st fun _ st => k (.d .none) st) False (decide (as.length = fd.np))
noncomputable def Z4 (r : RX) (X : KX) (k : En → St → Prop) : Prop := match r with
 | .nx ρ st => k ρ st
 | .rt v st => X.rt v st
 | .ex c fs ρ st => X.ex c fs ρ st
 | .no => False
theorem Zbs : fin (ofO o st) kx k = koO o st k := by cases o <;> rfl
theorem Zgz : fin (Bx o st) kx k = kBx o st k := by cases o <;> rfl
theorem Zca : fin (ofO (isB v) st) kx k = kB v st k := by
 cases v with
 | d x => cases x <;> rfl
 | _ => rfl
noncomputable def Zaz (C : ZD) (D : Ze) : Prop := ∀ f as st k kx, C f as st k kx = fin (D f as st) kx k
section
variable {C : ZD} {D : Ze}
theorem Zh9 (h : Zaz C D) : Zc3 C c as st k = fin (ZH D c as st) kx k := by
 unfold Zc3 ZH
 cases Zw c with
 | none => rfl
 | some f =>
  dsimp only [oQ]
  rw [h]
  cases D f (.loc st.length :: as) (st ++ [.inst c []]) with
  | ok v st' =>
   cases v with
   | d x => cases x <;> rfl
   | _ => rfl
  | ex _ _ _ => rfl
  | no => rfl
theorem Zmz (h : Zaz C D) : ZkK C f as st k kx = fin (ZbH D f as st) kx k := by
 cases f with
 | fn n => exact h ..
 | cls c => exact Zh9 h
 | _ => rfl
theorem Zo4 : Zgy C (.loc l) a as st₀ st k kx = (match st₀[l]? with
 | some (.inst c _) => (match ZP c a with
  | some f => C f (.loc l :: as) st k kx
  | none => False)
 | some (.list _) => Zgx (.loc l) a as st k kx
 | _ => False) := rfl
theorem ZqT : ZaJ D (.loc l) a as st₀ st = (match st₀[l]? with
 | some (.inst c _) => (match ZP c a with
  | some f => D f (.loc l :: as) st
  | none => .no)
 | some (.list _) => ZC (.loc l) a as st
 | _ => .no) := rfl
theorem ZmA (h : Zaz C D) : Zgy C ov a as st₀ st k kx = fin (ZaJ D ov a as st₀ st) kx k := by
 cases ov with
 | loc l =>
  rw [Zo4, ZqT]
  cases st₀[l]? with
  | none => rfl
  | some o =>
   cases o with
   | inst c fs =>
    cases e : ZP c a with
    | none => exact (congrArg (fun o => match o with | some f => C f (.loc l :: as) st k kx | none => False) e).trans (congrArg (fun o => fin (match o with | some f => D f (.loc l :: as) st | none => .no) kx k) e).symm
    | some f => exact (congrArg (fun o => match o with | some f => C f (.loc l :: as) st k kx | none => False) e).trans ((h ..).trans (congrArg (fun o => fin (match o with | some f => D f (.loc l :: as) st | none => .no) kx k) e).symm)
   | list xs => rfl
   | dict es => rfl
 | _ => rfl
theorem Zo5 : Zja op t a b st k = fin (Zcc op t a b st) kx k := by
 unfold Zja Zcc
 cases asD st a with
 | none => rfl
 | some x =>
  cases asD st b with
  | none => rfl
  | some y =>
   dsimp only [oQ]
   cases ZE op x y with
   | none => rfl
   | some z =>
    cases t with
    | false => rfl
    | true => cases z <;> rfl
theorem Zo6 : ZdY t ks vs st k = fin (ZaK t ks vs st) kx k := by
 cases t with
 | true =>
  simp only [ZdY, ZaK]
  cases Zbg ks vs <;> rfl
 | false =>
  simp only [ZdY, ZaK]
  cases Zbh ks vs <;> rfl
theorem ZgA {kQ : α → St → Prop} (h : P = fin r noR kQ) (hk : ∀ a st, kQ a st = fin (f a st) kx k) : P = fin (okR r f) kx k := by
 subst h
 cases r with
 | ok a st => exact hk a st
 | _ => rfl
theorem Zo7 (hf : ∀ ρ st k, f ρ st k = fin (f' ρ st) noR k) (hc : ∀ ρ st k, c ρ st k = fin (c' ρ st) noR k) (xs : List PD) :
 ∀ (ρ : En) (st : St) {kx} (k : List PD → St → Prop), Zfn t f c xs ρ st k = fin (ZT t f' c' xs ρ st) kx k := by
 induction xs with
 | nil => exact fun z z z z => rfl
 | cons x r ih =>
  intro ρ st kx k
  show oQ (Zag t x ρ) _ = fin (oR (Zag t x ρ) _) kx k
  cases Zag t x ρ with
  | none => rfl
  | some ρ =>
   refine ZgA (hc ρ st _) fun b st => ?_
   cases b with
   | false => exact ih ρ st k
   | true =>
    refine ZgA (hf ρ st _) fun v st => ?_
    cases v with
    | d y => exact ZgA (ih ρ st _) fun ys st => rfl
    | _ => rfl
theorem stp (h : P = fin r kx kQ) (hk : ∀ v st, kQ v st = fin (f v st) kx k) : P = fin (r.bind f) kx k := by
 subst h
 cases r with
 | ok v st => exact hk v st
 | ex _ _ _ => rfl
 | no => rfl
theorem ZqU {k : QV} : koO o st (fun x st => k (.d x) st) = fin (ofO (o.map .d) st) kx k := by cases o <;> rfl
theorem Zjb {k : QV} (h : a = fin b kx k) : koO o st (fun t st => brQ a (k (.d (.bool false)) st) t) = fin (match o with | some true => b | some false => .ok (.d (.bool false)) st | none => .no) kx k := by
 cases o with
 | none => rfl
 | some t =>
  cases t with
  | false => rfl
  | true => exact h
mutual
theorem Zj (h : Zaz C D) : ∀ (e : CE) (X : KX) (ρ : En) (st : St) (k : QV), evQ C e X ρ st k = fin (ev D e ρ st) (X.xk ρ) k
 | .cst _ _, _, _, _, _ => rfl
 | .loc _ _, _, _, _, _ => Zbs.symm
 | .glb _ _, _, _, _, _ => Zbs.symm
 | .attr e a _, X, ρ, st, k => stp (Zj h e X ρ st _) fun v st => Zbs.symm
 | .sub e i _, X, ρ, st, k => stp (Zj h e X ρ st _) fun v st => stp (Zj h i X ρ st _) fun j st => Zbs.symm
 | .slc e lo hi _ _, X, ρ, st, k => stp (Zj h e X ρ st _) fun v st => stp (Zc4 h lo X ρ st _) fun l st => stp (Zc4 h hi X ρ st _) fun hh st => ZqU
 | .bin op a b t _, X, ρ, st, k => stp (Zj h a X ρ st _) fun x st => stp (Zj h b X ρ st _) fun y st => Zo5
 | .un op a _, X, ρ, st, k => stp (Zj h a X ρ st _) fun x st => Zbs.symm
 | .cmp op a b _, X, ρ, st, k => stp (Zj h a X ρ st _) fun x st => stp (Zj h b X ρ st _) fun y st => Zgz.symm
 | .cmp2 o1 o2 a b c _, X, ρ, st, k => stp (Zj h a X ρ st _) fun x st => stp (Zj h b X ρ st _) fun y st => Zjb (stp (Zj h c X ρ st _) fun z st => Zgz.symm)
 | .cmp3 o1 o2 o3 a b c d _, X, ρ, st, k => stp (Zj h a X ρ st _) fun x st => stp (Zj h b X ρ st _) fun y st => Zjb (stp (Zj h c X ρ st _) fun z st => Zjb (stp (Zj h d X ρ st _) fun u st => Zgz.symm))
 | .bop op es _, X, ρ, st, k => stp (ZgB h op es X ρ st _) fun b st => rfl
 | .ite t a b _, X, ρ, st, k => stp (stp (Zj h t X ρ st _) fun v st => Zca.symm) fun v st => by
  cases v with
  | true => exact Zj h a X ρ st k
  | false => exact Zj h b X ρ st k
 | .list es t _, X, ρ, st, k => stp (ZaA h es X ρ st _) fun vs st => by
  cases ZbU vs with
  | none => rfl
  | some xs => cases t <;> rfl
 | .tup es _, X, ρ, st, k => stp (ZaA h es X ρ st _) fun vs st => by cases ZbU vs <;> rfl
 | .dict ks vs t _, X, ρ, st, k => stp (ZaA h vs X ρ st _) fun vs st => Zo6
 | .comp f t s c nt cap _ _ _, X, ρ, st, k => stp (Zia h s X ρ st _) fun xs st => stp (Zo7 (f' := ev D f) (c' := evC D c) (fun ρ st k => Zj h f noX ρ st k) (fun ρ st k => Zo8 h c ρ st k) xs _ st _) fun ys st => rfl
 | .call f as _, X, ρ, st, k => stp (Zj h f X ρ st _) fun v st => stp (ZaA h as X ρ st _) fun vs st => Zmz h
 | .meth o a as _ _, X, ρ, st, k => stp (Zj h o X ρ st _) fun v st => by
  cases Za2 v a st with
  | false => rfl
  | true => exact stp (ZaA h as X ρ st _) fun vs st => ZmA h
 | .blt b as _ _ _, X, ρ, st, k => stp (ZaA h as X ρ st _) fun vs st => Zbs.symm
 | .lim e _ _ _, X, ρ, st, k => stp (Zj h e X ρ st _) fun v st => Zh9 h
theorem Zc4 (h : Zaz C D) : ∀ (e : CO) (X : KX) (ρ : En) (st : St) (k : Option MV → St → Prop), Zdv C e X ρ st k = fin (evO D e ρ st) (X.xk ρ) k
 | .no, _, _, _, _ => rfl
 | .so e, X, ρ, st, k => stp (Zj h e X ρ st _) fun v st => rfl
theorem Zo8 (h : Zaz C D) : ∀ (e : CO) (ρ : En) (st : St) (k : Bool → St → Prop), ZqP C e ρ st k = fin (evC D e ρ st) noR k
 | .no, _, _, _ => rfl
 | .so e, ρ, st, k => stp (Zj h e noX ρ st _) fun v st => Zca.symm
theorem ZaA (h : Zaz C D) : ∀ (e : CL) (X : KX) (ρ : En) (st : St) (k : List MV → St → Prop), ZbZ C e X ρ st k = fin (evL D e ρ st) (X.xk ρ) k
 | .nil, _, _, _, _ => rfl
 | .cons e r, X, ρ, st, k => stp (Zj h e X ρ st _) fun v st => stp (ZaA h r X ρ st _) fun vs st => rfl
theorem Zia (h : Zaz C D) : ∀ (e : CS) (X : KX) (ρ : En) (st : St) (k : List PD → St → Prop), Zmx C e X ρ st k = fin (evS D e ρ st) (X.xk ρ) k
 | .rng e _ _, X, ρ, st, k => stp (Zj h e X ρ st _) fun v st => by
  cases v with
  | d x =>
   cases x with
   | int n =>
    dsimp only [ZqO]
    cases (decide (0 ≤ n) && Zc n.toNat) <;> rfl
   | _ => rfl
  | _ => rfl
 | .val e, X, ρ, st, k => stp (Zj h e X ρ st _) fun v st => by
  cases v with
  | d x =>
   cases x with
   | list xs =>
    dsimp only [Zmw]
    cases Zc xs.length <;> rfl
   | tuple xs =>
    dsimp only [Zmw]
    cases Zc xs.length <;> rfl
   | _ => rfl
  | _ => rfl
theorem ZgB (h : Zaz C D) : ∀ (op : BoolOp) (e : CL) (X : KX) (ρ : En) (st : St) (k : Bool → St → Prop), Zfo C op e X ρ st k = fin (ZaV D op e ρ st) (X.xk ρ) k
 | op, .nil, _, _, _, _ => by cases op <;> rfl
 | op, .cons e r, X, ρ, st, k => by
  cases op
  all_goals exact stp (stp (Zj h e X ρ st _) fun v st => Zca.symm) fun b st => by cases b <;> first | rfl | exact ZgB h _ r X ρ st k
end
end
section
variable {C : ZD} {D : Ze}
theorem stN (h : P = Z4 r X kQ) (hk : ∀ ρ st, kQ ρ st = Z4 (f ρ st) X k) : P = Z4 (r.bind f) X k := by
 subst h
 cases r with
 | nx ρ st => exact hk ρ st
 | _ => rfl
theorem stX (h : P = fin r (X.xk ρ) kQ) (hk : ∀ v st, kQ v st = Z4 (f v st) X k) : P = Z4 (onR ρ r f) X k := by
 subst h
 cases r with
 | ok v st => exact hk v st
 | ex _ _ _ => rfl
 | no => rfl
theorem ZbQ {kQ : α → Prop} (hk : ∀ v, kQ v = Z4 (f v) X k) : oQ o kQ = Z4 (oX o f) X k := by
 cases o with
 | none => rfl
 | some v => exact hk v
theorem Zst (hk : ∀ v, kQ v = Z4 (f v) X k) : ZqQ v kQ = Z4 (Zlh v f) X k := by
 cases v with
 | d x => cases x with
  | tuple xs => exact hk xs
  | _ => rfl
 | _ => rfl
theorem Znf (hk : ∀ v, kQ v = Z4 (f v) X k) : oQ o (fun v => Zer v kQ) = Z4 (Zdj o f) X k := by
 cases o with
 | none => rfl
 | some v => cases v with
  | d x => cases x with
   | int a => exact hk a
   | _ => rfl
  | _ => rfl
theorem Zng {K : PD → Prop} (hk : ∀ z, K z = Z4 (f z st) X k) : Zer y (fun b => oQ (ZE op (.int a) (.int b)) K) = Z4 (Zbi op a f y st) X k := by
 cases y with
 | d x => cases x with
  | int b => exact ZbQ hk
  | _ => rfl
 | _ => rfl
theorem ZqV (hb : ∀ ρ st k, b ρ st k = Z4 (b' ρ st) X k) (xs : List PD) : ∀ (ρ : En) (st : St) (k : En → St → Prop), Zcs t b xs ρ st k = Z4 (ZaU t b' xs ρ st) X k := by
 induction xs with
 | nil => exact fun y y y => rfl
 | cons x r ih =>
  intro ρ st k
  have e1 : Zcs t b (x :: r) ρ st k = oQ (Zag t x ρ) fun ρ => b ρ st fun ρ st => Zcs t b r ρ st k := rfl
  have e2 : ZaU t b' (x :: r) ρ st = (match Zag t x ρ with | some ρ => (b' ρ st).bind fun ρ st => ZaU t b' r ρ st | none => .no) := rfl
  rw [e1, e2]
  cases Zag t x ρ with
  | none => rfl
  | some ρ => exact stN (hb ρ st _) fun ρ st => ih ρ st k
theorem ZqW (ht : ∀ ρ st k, t ρ st k = fin (t' ρ st) (fun c fs st => X.ex c fs ρ st) k) (hb : ∀ ρ st k, b ρ st k = Z4 (b' ρ st) X k) (n : Nat) :
 ∀ (ρ : En) (st : St) (k : En → St → Prop), Zmy t b n ρ st k = Z4 (whl t' b' n ρ st) X k := by
 induction n with
 | zero => exact fun y y y => rfl
 | succ n ih =>
  intro ρ st k
  rw [Zix]
  exact stX (ht ρ st _) fun v st => by
   cases v with
   | false => rfl
   | true => exact stN (hb ρ st _) fun ρ st => ih ρ st k
theorem ZqX (h : Zaz C D) (t : CA) (x : MV) (st : St) : ZqR C X ρ k t x st = Z4 (Zli D ρ t x st) X k := by
 cases t with
 | nm i _ => rfl
 | attr o a _ => exact stX (Zj h o X ρ st _) fun ov st => ZbQ fun y => rfl
 | sub o i _ => exact stX (Zj h o X ρ st _) fun ov st => stX (Zj h i X ρ st _) fun j st => ZbQ fun y => rfl
 | slc o lo hi _ _ => exact stX (Zj h o X ρ st _) fun ov st => stX (P := Zdv C lo X ρ st fun l st => Zdv C hi X ρ st fun hh st => koO (Zae st ov l hh x) st fun st y => k ρ st) (kQ := fun (q : Option MV × Option MV) st => koO (Zae st ov q.1 q.2 x) st fun st y => k ρ st) (stp (Zc4 h lo X ρ st _) fun l st => stp (Zc4 h hi X ρ st _) fun hh st => rfl) fun q st => ZbQ fun y => rfl
 | tup is _ => exact Zst fun xs => ZbQ fun y => rfl
mutual
theorem Zo9 (h : Zaz C D) : ∀ (c : CX) (X : KX) (ρ : En) (st : St) (k : En → St → Prop), ZqS C c X ρ st k = Z4 (ex1 D c ρ st) X k
 | .asg t e _, X, ρ, st, k => stX (Zj h e X ρ st _) fun x st => ZqX h t x st
 | .unp is es _ _ _, X, ρ, st, k => stX (ZaA h es X ρ st fun vs st => koO (ZG vs is ρ) st k) fun vs st => ZbQ fun z => rfl
 | .aug i op e _ _, X, ρ, st, k => Znf fun a => stX (Zj h e X ρ st _) fun y st => Zng fun z => rfl
 | .augA o a op e _ _, X, ρ, st, k => stX (Zj h o X ρ st _) fun ov st => Znf fun x => stX (Zj h e X ρ st _) fun y st => Zng fun z => ZbQ fun z => rfl
 | .ifs t b o _, X, ρ, st, k => by
  refine stX (stp (Zj h t X ρ st _) fun v st => Zca.symm) fun v st => ?_
  cases v with
  | true => exact ZaR h b X ρ st k
  | false => exact ZaR h o X ρ st k
 | .whl t b _, X, ρ, st, k => ZqW (fun ρ st k => stp (f := fun v st => ofO (isB v) st) (kQ := fun v st => kB v st k) (Zj h t X ρ st _) fun v st => Zca.symm) (fun ρ st k => ZaR h b X ρ st k) 100 ρ st k
 | .fr t s b _, X, ρ, st, k => stX (Zia h s X ρ st fun xs st => Zcs t (fun ρ st k => ZX C b X ρ st k) xs ρ st k) fun xs st => ZqV (fun ρ st k => ZaR h b X ρ st k) xs ρ st k
 | .ret e _, X, ρ, st, k => by
  cases e with
  | no => rfl
  | so e => exact stX (Zj h e X ρ st _) fun v st => rfl
 | .rse g as _ _ _, X, ρ, st, k => stX (ZaA h as X ρ st fun vs st => koO (Zcd g vs) st fun fs st => X.ex g fs ρ st) fun vs st => ZbQ fun z => rfl
 | .try_ b hs _, X, ρ, st, k => by
  refine (ZaR h b ⟨X.rt, fun c fs ρ st => Zne (ZaL c fs hs) X.rt (X.ex c fs ρ st) st⟩ ρ st k).trans ?_
  show _ = Z4 (match exs D b ρ st with | .ex c fs ρ st => _ | r => _) X k
  cases exs D b ρ st with
  | ex c fs ρ st =>
   dsimp only [Z4]
   cases ZaL c fs hs with
   | none => rfl
   | some o => cases o <;> rfl
  | nx _ _ => rfl
  | rt _ _ => rfl
  | no => rfl
 | .ex e _, X, ρ, st, k => stX (Zj h e X ρ st _) fun v st => rfl
 | .pass _, _, _, _, _ => rfl
theorem ZaR (h : Zaz C D) : ∀ (c : CB) (X : KX) (ρ : En) (st : St) (k : En → St → Prop), ZX C c X ρ st k = Z4 (exs D c ρ st) X k
 | .nil, _, _, _, _ => rfl
 | .cons s r, X, ρ, st, k => stN (Zo9 h s X ρ st _) fun ρ st => ZaR h r X ρ st k
end
end
theorem ZaO (n : Nat) : Zaz (Zg n) (Zi n) := by
 induction n with
 | zero => exact fun y y y y y => rfl
 | succ n ih =>
  intro f as st k kx
  have e2 : Zi (n + 1) f as st = (match Za0 f with | some fd => Zai (Zi n) fd as st | none => .no) := rfl
  have e1 : Zg (n + 1) f as st k kx = oQ (Za0 f) fun fd => brQ (ZX (Zg n) fd.body ⟨k, fun c fs y st => kx c fs st⟩ (as.map some ++ List.replicate (fd.ns.length - fd.np) none) st fun y st => k (.d .none) st) False (decide (as.length = fd.np)) := rfl
  rw [e1, e2]
  cases Za0 f with
  | none => rfl
  | some fd =>
   by_cases hl : as.length = fd.np
   ·have e3 : Zai (Zi n) fd as st = (match exs (Zi n) fd.body (as.map some ++ List.replicate (fd.ns.length - fd.np) none) st with
     | .rt v st => .ok v st
     | .nx _ st => .ok (.d .none) st
     | .ex c fs _ st => .ex c fs st
     | .no => .no) := if_pos hl
    show brQ _ _ (decide (as.length = fd.np)) = fin (Zai (Zi n) fd as st) kx k
    rw [e3, decide_eq_true hl]
    refine (ZaR ih _ _ _ _ _).trans ?_
    cases exs (Zi n) fd.body (as.map some ++ List.replicate (fd.ns.length - fd.np) none) st <;> rfl
   ·show brQ _ _ (decide (as.length = fd.np)) = fin (Zai (Zi n) fd as st) kx k
    rw [decide_eq_false hl, show Zai (Zi n) fd as st = .no from if_neg hl]; rfl
theorem ZmB (h : Zg n f as st (fun u y => u = v) noR) : ∃ st', Zi n f as st = .ok v st' := by
 rw [ZaO] at h
 cases e : Zi n f as st with
 | ok u st' => rw [e] at h; exact ⟨st', by rw [show u = v from h]⟩
 | ex _ _ _ => rw [e] at h; exact h.elim
 | no => rw [e] at h; exact h.elim
section
noncomputable def ZgC : CB → CB
 | .cons (.whl _ b _) _ => b
 | .cons _ r => ZgC r
 | .nil => .nil
noncomputable def ZgD : CB → CE
 | .cons (.whl t _ _) _ => t
 | .cons _ r => ZgD r
 | .nil => .cst .none ⟨0, 0, 0, 0⟩
noncomputable def bM : CB := ZgC Zbl
noncomputable def bO : CB := ZgC Zbm
structure AS where
 (i0 i1 i2 a6 a7 l7 : Int)
 (t3 t4 : Str)
 b5 : Bool
 nn : List (Option Int)
 q5 : Option Int
 sg : List (Option Nat)
noncomputable def pl0 (a : Int) : PD := .tuple [.int 0, .int a, .int 0, .tuple []]
noncomputable def pl5 (a l : Int) : PD := .tuple [.int 5, .int a, .int l, .tuple []]
noncomputable def plA : PD := .tuple [.int 0, .int 2, .int 0, .tuple [.tuple [.int 1, .int 3]]]
noncomputable def plD : PD := .tuple [.int 5, .int 4, .int 2, .tuple [.tuple [.int 0, .int 1]]]
noncomputable def plQ : PD := .tuple [.int 0, .int 5, .int 0, .tuple []]
noncomputable def cN : Option Int → PD
 | none => .none
 | some x => .tuple [.int 0, .int x]
noncomputable def cQ : Option Int → PD
 | none => .none
 | some x => .tuple [.int 7, .int x]
noncomputable def cS : Option Nat → PD
 | none => .none
 | some c => .str ⟨#[c]⟩
noncomputable def AS.regs (a : AS) : List PD := [.int a.i0, .int a.i1, .int a.i2, .str a.t3, .str a.t4, .bool a.b5, pl0 a.a6, pl5 a.a7 a.l7, plA, plD, plQ]
noncomputable def AS.nums (a : AS) : List PD := a.nn.map cN ++ [cQ a.q5]
noncomputable def AS.sgs (a : AS) : List PD := a.sg.map cS
noncomputable def Zth : Str := ⟨#[114, 101, 103, 105, 115, 116, 101, 114, 115]⟩
noncomputable def Zti : Str := ⟨#[110, 117, 109, 98, 101, 114, 115]⟩
noncomputable def Ztj : Str := ⟨#[115, 105, 103, 110, 115]⟩
noncomputable def Ztk : Str := ⟨#[115, 116, 101, 112, 115]⟩
noncomputable def Zb0 : List (DK × MW) := match (Zb3 : CB) with
 | .cons _ (.cons _ (.cons _ (.cons _ (.cons (.asg _ (.dict ks vs _ _) _) _)))) => (Zbh ks ((match evL (Zi 0) vs [] [] with | .ok vs _ => vs | _ => []))).getD []
 | _ => []
noncomputable def ZqY : List (DK × MW) := [(.i 0, .fn 47), (.i 5, .fn 47)]
noncomputable def mkO (R N S : List PD) (s : Int) : List MO := [.list R, .list N, .list S, .dict [(Zth, .loc 2), (Zti, .loc 3), (Ztj, .loc 4), (Ztk, .d (.int s))]]
noncomputable def mkM (R N S : List PD) (s mo : Int) (ro : List PD) : List MO := [.inst 9 [(13, .loc 7), (15, .loc 8)], .list N, .list S,
 .inst 8 [(0, .d (.int 32)), (38, .d (.int 7)), (37, .d (.int 15)), (36, .d (.int 38)), (2, .d (.int mo)), (35, .d (.int 19)), (34, .d (.int 72)), (33, .d (.int 40))],
 .inst 5 [(10, .loc 6), (3, .loc 9), (28, .dic []), (27, .dic []), (1, .dic Zb0), (7, .dic ZqY), (26, .dic []), (25, .fn 57), (24, .d .none), (23, .d .none), (22, .dic []), (21, .dic []), (20, .dic []), (19, .dic []), (18, .d (.list [])), (17, .d (.list [])), (2, .d (.int s))],
 .inst 7 [(1, .d (.list ro)), (6, .d (.int 11)), (32, .dic []), (31, .dic [])],
 .inst 6 [(4, .loc 11), (8, .dic Zcb), (6, .loc 13), (30, .dic []), (29, .d (.list []))], .list R]
structure Ot where
 (R N S : List PD)
 s : Int
noncomputable def Ot.of (a : AS) (s : Int) : Ot := ⟨a.regs, a.nums, a.sgs, s⟩
noncomputable def mkS (f g : MO) (o m : Ot) (mo : Int) (ro : List PD) : St := f :: g :: (mkO o.R o.N o.S o.s ++ mkM m.R m.N m.S m.s mo ro)
inductive Out
 | nx (at_ : Int)
 | done (v : PD)
 | stop (x : Str)
 | run
 | code
 | long
noncomputable def Znh : Str := ⟨#[100, 111, 110, 101]⟩
noncomputable def Zni : Str := ⟨#[115, 116, 111, 112]⟩
noncomputable def Zjc : Str := ⟨#[114, 117, 110]⟩
noncomputable def Zjd : Str := ⟨#[99, 111, 100, 101]⟩
noncomputable def Znj : Str := ⟨#[108, 111, 110, 103]⟩
noncomputable def ρM (t : Int) (ro : List PD) (o1 o2 : Option MV) : En := [some (.loc 10), some (.loc 12), some (.d (.int 0)), some (.d (.int t)), some (.d (.list ro)), o1, o2]
noncomputable def ρO (t mo : Int) (ro : List PD) (o3 : Option MV) : En := [some (.loc 5), some (.d (.list ro)), some (.d (.int mo)), some (.d (.int t)), o3]
noncomputable def Zes (ro : List PD) (st : St) : Out → RX → Prop
 | .nx t, r => ∃ o1 o2, r = .nx (ρM t ro o1 o2) st
 | .done v, r => r = .rt (.d v) st
 | .stop x, r => ∃ ρ, r = .ex 2 [(16, .str x)] ρ st
 | .run, r => ∃ fs ρ, r = .ex 1 fs ρ st
 | .code, r => ∃ fs ρ, r = .ex 3 fs ρ st
 | .long, r => ∃ fs ρ, r = .ex 4 fs ρ st
noncomputable def ZqZ : Out → PD
 | .nx _ => .none
 | .done v => .tuple [.str Znh, v]
 | .stop x => .tuple [.str Zni, .str x]
 | .run => .str Zjc
 | .code => .str Zjd
 | .long => .str Znj
noncomputable def Zdw (mo : Int) (ro : List PD) (st : St) : Out → RX → Prop
 | .nx t, r => ∃ o3, r = .nx (ρO t mo ro o3) st
 | o, r => r = .rt (.d (ZqZ o)) st
theorem mO {K : α → Prop} (h : o = some a) (g : K a) : (match (motive := Option α → Prop) o with | some a => K a | none => False) := by subst h; exact g
theorem mT (h : b = true) (g : A) : (match (motive := Bool → Prop) b with | true => A | false => B) := by subst h; exact g
theorem mF (h : b = false) (g : B) : (match (motive := Bool → Prop) b with | true => A | false => B) := by subst h; exact g
theorem mD [i : Decidable p] (g : p → A) (h : ¬p → B) : (match (motive := Bool → Prop) @decide p i with | true => A | false => B) := by
 cases i with
 | isTrue q => exact g q
 | isFalse q => exact h q
theorem mN [i : Decidable p] (h : ¬p → A) (g : p → B) : (match (motive := Bool → Prop) !@decide p i with | true => A | false => B) := by
 cases i with
 | isTrue q => exact g q
 | isFalse q => exact h q
theorem ZaS (h : Za ro t = some x) : ZaM st (.d (.list ro)) (.d (.int t)) = some (.d x) := by rw [ZhB, h]; rfl
theorem Zb (hk : Za R k = some x) (h : st[l]? = some (.list R) := by exact rfl) : ZaM st (.loc l) (.d (.int k)) = some (.d x) := by rw [ZpV h, hk]; rfl
noncomputable def Zaa (R : List PD) (k : Int) : Bool := decide (0 ≤ k) && Zc k.toNat && decide (k < R.length)
theorem ZU (hk : Zaa R k = true) (hv : z = y := by exact rfl) (h : st[l]? = some (.list R) := by exact rfl) : Za1 st (.loc l) (.d (.int k)) (.d z) = some (st.set l (.list (R.set k.toNat y))) := by
 subst hv
 have hk' : (decide (0 ≤ k) && Zc k.toNat && decide (k < R.length)) = true := hk
 rw [Zp0 h, if_pos hk']
theorem ZcQ (hk : R.length = n) (hf : Zc n = true) (h : st[l]? = some (.list R) := by exact rfl) : Zaf .len st [.loc l] = some (.d (.int n)) := by
 subst hk; rw [ZpZ (Zd9 h), hf, if_pos rfl]
theorem mul_ok (hx : Zn x = true) (hy : Zn y = true) : ZE .Mult (.int x) (.int y) = some (.int (x * y)) := by simp only [ZpQ, hx, hy, Bool.and_self, if_true]
noncomputable def Zq0 (F : RX → Prop) (t : Int) (ro : List PD) (st : St) : MV → Prop
 | .d .none => ∀ o1 o2, F (.nx (ρM (t + 1) ro o1 o2) st)
 | .d (.int q) => ∀ o1 o2, F (.nx (ρM q ro o1 o2) st)
 | .d (.tuple [_, v]) => F (.rt (.d v) st)
 | _ => False
noncomputable def Zp (f g : MO) (oth : Ot) (R N S : List PD) (s mo : Int) (ro : List PD) : St := mkS f g oth ⟨R, N, S, s + 1⟩ mo ro
theorem ZkL (hw : Zq (.s w) Zb0 = some (.fn n)) : ZaM st (.dic Zb0) (.d (.str w)) = some (.fn n) := by
 show (Zq (.s w) Zb0).map MW.v = _
 rw [hw]; rfl
theorem ZgE
 (hm : ¬ s + 1 > mo) (h0 : Za ro t = some (.tuple (.str w :: re))) (hw : Zq (.s w) Zb0 = some (.fn n))
 (hC : ∀ (k : QV) (kx : QR), (∀ v st, Zq0 F t ro st v → k v st) → (∀ c fs st, (∀ ρ, F (.ex c fs ρ st)) → kx c fs st) → C n [.loc 10, .loc 12, .d (.tuple (.str w :: re))] (Zp f g oth R N S s mo ro) k kx) :
 ZX C bM ⟨fun v st => F (.rt v st), fun c fs ρ st => F (.ex c fs ρ st)⟩ (ρM t ro o1 o2) (mkS f g oth ⟨R, N, S, s⟩ mo ro) fun ρ st => F (.nx ρ st) := by
 conv => whnf
 rw [decide_eq_false hm]; conv => whnf
 rw [ZaS h0]; conv => whnf
 rw [hw]; conv => whnf
 rw [ZkL hw]; conv => whnf
 refine hC _ _ (fun v st h => ?_) (fun c fs st h => h _)
 cases v with
 | d x =>
  cases x with
  | none => exact h _ _
  | int q => exact h _ _
  | tuple xs =>
   match xs, h with
   | [_, v], h => exact h
  | _ => exact h.elim
 | _ => exact h.elim
noncomputable def MT (mo : Int) (ro : List PD) (t : Int) (R N S : List PD) (s : Int) (o : Out) (R' N' S' : List PD) : Prop :=
 ∀ f g oth o1 o2, Zes ro (mkS f g oth ⟨R', N', S', s + 1⟩ mo ro) o (exs (Zi 9) bM (ρM t ro o1 o2) (mkS f g oth ⟨R, N, S, s⟩ mo ro))
noncomputable def OT (mo : Int) (ro : List PD) (t : Int) (R N S : List PD) (s : Int) (o : Out) (R' N' S' : List PD) : Prop :=
 ∀ f g oth o3, Zdw mo ro (mkS f g ⟨R', N', S', s + 1⟩ oth mo ro) o (exs (Zi 10) bO (ρO t mo ro o3) (mkS f g ⟨R, N, S, s⟩ oth mo ro))
noncomputable def RC (C : ZD) (n : Nat) (as : List MV) (st : St) (P : Prop) (v : MV) (st' : St) : Prop := ∀ (k : QV) (kx : QR), (P → k v st') → (¬P → ∀ fs, kx 1 fs st) → C n as st k kx
noncomputable def DoM (mo : Int) (ro : List PD) (R N S : List PD) (s : Int) (n : Nat) (row : PD) (P : Prop) (v : MV) (R' N' S' : List PD) : Prop :=
 ∀ f g oth, RC (Zg 9) n [.loc 10, .loc 12, .d row] (Zp f g oth R N S s mo ro) P v (Zp f g oth R' N' S' s mo ro)
noncomputable def DoO (mo : Int) (ro : List PD) (R N S : List PD) (s : Int) (n : Nat) (as : List MV) (P : Prop) (v : MV) (N' S' : List PD) : Prop :=
 ∀ f g oth, RC (Zg 10) n (.loc 5 :: as) (mkS f g ⟨R, N, S, s + 1⟩ oth mo ro) P v (mkS f g ⟨R, N', S', s + 1⟩ oth mo ro)
noncomputable def ZmC (t : Int) : MV → Option Out
 | .d .none => some (.nx (t + 1))
 | .d (.int q) => some (.nx q)
 | .d (.tuple [_, v]) => some (.done v)
 | _ => none
theorem Zb1 {F : RX → Prop} (h : ZX (Zg n) c ⟨fun v st => F (.rt v st), fun c fs ρ st => F (.ex c fs ρ st)⟩ ρ st fun ρ st => F (.nx ρ st)) : F (exs (Zi n) c ρ st) := by
 rw [ZaR (ZaO n)] at h
 generalize exs (Zi n) c ρ st = r at h ⊢
 cases r <;> first | exact h | exact h.elim
noncomputable def ZgF : List PD := [.str ⟨#[115, 101, 116]⟩, .str ⟨#[109, 111, 118, 101]⟩, .str ⟨#[98, 105, 110]⟩, .str ⟨#[99, 109, 112]⟩, .str ⟨#[117, 110]⟩, .str ⟨#[99, 97, 116]⟩, .str ⟨#[99, 111, 117, 110, 116]⟩, .str ⟨#[97, 100, 100, 114]⟩, .str ⟨#[108, 101, 110, 103, 116, 104]⟩, .str ⟨#[108, 111, 97, 100]⟩, .str ⟨#[99, 117, 116]⟩, .str ⟨#[101, 108, 101, 109]⟩]
noncomputable def wOk (w : Str) (n : Nat) (b : Bool) : Bool := match Zq (.s w) Zb0 with
 | some (.fn m) => m == n && (w.cps.toList.all (fun c => decide (c < 128)) && ((ZgF.any fun y => PyData.eqv y (.str w)) == b && (!(w == ⟨#[111, 100, 100]⟩) && (!(w == ⟨#[115, 116, 111, 112]⟩) && !(w == ⟨#[114, 101, 116, 117, 114, 110]⟩)))))
 | _ => false
theorem Asc.ok (h : ∀ c ∈ x.cps.toList, c < 128) : PyData.canLay0 (.str x) = true :=
 Array.all_eq_true_iff_forall_mem.mpr fun c hc => decide_eq_true (Nat.lt_trans (h c (Array.mem_toList_iff.mpr hc)) (by decide))
inductive WOk (w : Str) (n : Nat) (b : Bool) : Prop
 | mk (d : Zq (.s w) Zb0 = some (.fn n)) (i : inD (.d (.str w)) (.d (.tuple ZgF)) = some b) (e : (w == ⟨#[111, 100, 100]⟩) = false ∧ (w == ⟨#[115, 116, 111, 112]⟩) = false ∧ (w == ⟨#[114, 101, 116, 117, 114, 110]⟩) = false)
set_option tactic.hygienic true in
theorem Zbt (h : wOk w n b = true) : WOk w n b := by
 unfold wOk at h
 split at h
 ·rename_i d
  simp only [bA, Bool.not_eq_true', beq_iff_eq] at h
  obtain ⟨rfl, i, rfl, e⟩ := h
  have hs : (shp (.str w) && shp (.tuple ZgF)) = true := Bool.and_eq_true_iff.mpr ⟨Bool.and_eq_true_iff.mpr ⟨Asc.ok fun c hc => of_decide_eq_true (List.all_eq_true.mp i c hc), rfl⟩, by decide +kernel⟩
  exact ⟨d, if_pos hs, e⟩
 ·cases h
theorem Zc5 {o : Out} (h : DoM mo ro R N S s n (.tuple (.str w :: re)) P v R' N' S') (hm : ¬ s + 1 > mo) (h0 : Za ro t = some (.tuple (.str w :: re))) (hw : Zq (.s w) Zb0 = some (.fn n)) (p : P) (ho : ZmC t v = some o) : MT mo ro t R N S s o R' N' S' := by
 intro f g oth o1 o2
 refine Zb1 (F := Zes ro (mkS f g oth ⟨R', N', S', s + 1⟩ mo ro) o) (ZgE hm h0 hw fun k kx hk hx => h f g oth k kx (fun y => hk _ _ ?_) fun q => (q p).elim)
 cases v with
 | d x =>
  cases x with
  | none => cases ho; exact fun o1 o2 => ⟨o1, o2, rfl⟩
  | int q => cases ho; exact fun o1 o2 => ⟨o1, o2, rfl⟩
  | tuple xs =>
   match xs, ho with
   | [_, v], ho => cases ho; rfl
  | _ => cases ho
 | _ => cases ho
theorem Znk (h : DoM mo ro R N S s n (.tuple (.str w :: re)) P v R' N' S') (hm : ¬ s + 1 > mo) (h0 : Za ro t = some (.tuple (.str w :: re))) (hw : Zq (.s w) Zb0 = some (.fn n)) (p : ¬P) : MT mo ro t R N S s .run R N S := by
 intro f g oth o1 o2
 exact Zb1 (F := Zes ro (mkS f g oth ⟨R, N, S, s + 1⟩ mo ro) .run) (ZgE hm h0 hw fun k kx hk hx => h f g oth k kx (fun q => (p q).elim) fun y fs => hx _ _ _ fun ρ => ⟨fs, ρ, rfl⟩)
theorem ZgG (h : inD (.d (.str w)) (.d (.tuple ZgF)) = some r) (ha : a = .d (.str w) := by exact rfl) (hb : b = .d (.tuple ZgF) := by exact rfl) : Zt .In st a b = some r := by
 subst ha hb; exact h
noncomputable def ZbR : Nat → CB → CB
 | n + 1, .cons _ r => ZbR n r
 | _, c => c
theorem Zfp (hm : ¬ s + 1 > mo) (h0 : Za ro t = some (.tuple (.str w :: re))) (W : WOk w n b)
 (h : ZX C (ZbR 6 bO) X (ρO t mo ro (some (.d (.tuple (.str w :: re))))) (mkS f g ⟨R, N, S, s + 1⟩ oth mo ro) kk) :
 ZX C bO X (ρO t mo ro o3) (mkS f g ⟨R, N, S, s⟩ oth mo ro) kk := by
 obtain ⟨_, _, e1, e2, e3⟩ := W
 refine mO (ZaS h0) ?_
 refine mF (decide_eq_false hm) ?_
 refine mF e1 ?_
 refine mF e2 ?_
 refine mF e3 ?_
 exact h
theorem Znl {F : RX → Prop} (W : WOk w n true) (hg : Zaa R gl = true)
 (hC : ∀ (k : QV) (kx : QR), (∀ y, (∀ o3, F (.nx (ρO (t + 1) mo ro o3) (mkS f g ⟨R.set gl.toNat y, N, S, s + 1⟩ oth mo ro))) → k (.d y) (mkS f g ⟨R, N, S, s + 1⟩ oth mo ro)) →
  (∀ fs, F (.rt (.d (.str Zjc)) (mkS f g ⟨R, N, S, s + 1⟩ oth mo ro)) → kx 1 fs (mkS f g ⟨R, N, S, s + 1⟩ oth mo ro)) →
  C 49 [.loc 5, .d (.tuple (.str w :: .int gl :: re))] (mkS f g ⟨R, N, S, s + 1⟩ oth mo ro) k kx) :
 ZX C (ZbR 6 bO) ⟨fun v st => F (.rt v st), fun c fs ρ st => F (.ex c fs ρ st)⟩ (ρO t mo ro (some (.d (.tuple (.str w :: .int gl :: re))))) (mkS f g ⟨R, N, S, s + 1⟩ oth mo ro) fun ρ st => F (.nx ρ st) := by
 obtain ⟨_, i, _⟩ := W
 refine mO (ZgG i) ?_
 refine hC _ _ (fun y h => ?_) (fun fs h => h)
 refine mO (ZU hg) ?_
 exact h _
theorem ZkM {F : RX → Prop} (W : WOk w n false)
 (hC : ∀ (k : QV) (kx : QR), (∀ q st, (∀ o3, F (.nx (ρO q mo ro o3) st)) → k (.d (.int q)) st) →
  (∀ fs st, F (.rt (.d (.str Zjc)) st) → kx 1 fs st) →
  C 52 [.loc 5, .d (.tuple (.str w :: re)), .d (.int t)] (mkS f g ⟨R, N, S, s + 1⟩ oth mo ro) k kx) :
 ZX C (ZbR 6 bO) ⟨fun v st => F (.rt v st), fun c fs ρ st => F (.ex c fs ρ st)⟩ (ρO t mo ro (some (.d (.tuple (.str w :: re))))) (mkS f g ⟨R, N, S, s + 1⟩ oth mo ro) fun ρ st => F (.nx ρ st) := by
 obtain ⟨_, i, _⟩ := W
 refine mO (ZgG i) ?_
 exact hC _ _ (fun q st h => h _) (fun fs st h => h)
theorem ZgH (h : DoO mo ro R N S s 49 [.d (.tuple (.str w :: .int gl :: re))] P (.d y) N S) (hm : ¬ s + 1 > mo) (h0 : Za ro t = some (.tuple (.str w :: .int gl :: re))) (hg : Zaa R gl = true) (W : WOk w n true) (p : P) : OT mo ro t R N S s (.nx (t + 1)) (R.set gl.toNat y) N S := by
 intro f g oth o3
 exact Zb1 (F := Zdw mo ro (mkS f g ⟨R.set gl.toNat y, N, S, s + 1⟩ oth mo ro) (.nx (t + 1))) (Zfp hm h0 W (Znl W hg fun k kx hk hx => h f g oth k kx (fun z => hk y fun o3 => ⟨o3, rfl⟩) fun q => (q p).elim))
theorem Zq1 (h : DoO mo ro R N S s 49 [.d (.tuple (.str w :: .int gl :: re))] P v N S) (hm : ¬ s + 1 > mo) (h0 : Za ro t = some (.tuple (.str w :: .int gl :: re))) (hg : Zaa R gl = true) (W : WOk w n true) (p : ¬P) : OT mo ro t R N S s .run R N S := by
 intro f g oth o3
 exact Zb1 (F := Zdw mo ro (mkS f g ⟨R, N, S, s + 1⟩ oth mo ro) .run) (Zfp hm h0 W (Znl W hg fun k kx hk hx => h f g oth k kx (fun q => (p q).elim) fun y fs => hx fs rfl))
theorem Zq2 {q : Int} (h : DoO mo ro R N S s 52 [.d (.tuple (.str w :: re)), .d (.int t)] P (.d (.int q)) N' S') (hm : ¬ s + 1 > mo) (h0 : Za ro t = some (.tuple (.str w :: re))) (W : WOk w n false) (p : P) : OT mo ro t R N S s (.nx q) R N' S' := by
 intro f g oth o3
 exact Zb1 (F := Zdw mo ro (mkS f g ⟨R, N', S', s + 1⟩ oth mo ro) (.nx q)) (Zfp hm h0 W (ZkM W fun k kx hk hx => h f g oth k kx (fun y => hk q _ fun o3 => ⟨o3, rfl⟩) fun q => (q p).elim))
theorem Zq3 (h : DoO mo ro R N S s 52 [.d (.tuple (.str w :: re)), .d (.int t)] P v N' S') (hm : ¬ s + 1 > mo) (h0 : Za ro t = some (.tuple (.str w :: re))) (W : WOk w n false) (p : ¬P) : OT mo ro t R N S s .run R N S := by
 intro f g oth o3
 exact Zb1 (F := Zdw mo ro (mkS f g ⟨R, N, S, s + 1⟩ oth mo ro) .run) (Zfp hm h0 W (ZkM W fun k kx hk hx => h f g oth k kx (fun q => (p q).elim) fun y fs => hx fs _ rfl))
noncomputable def ZaB : Str := ⟨#[115, 101, 116]⟩
noncomputable def Zau : Str := ⟨#[114, 101, 116, 117, 114, 110]⟩
noncomputable def ZgI : Str := ⟨#[115, 116, 111, 112]⟩
noncomputable def Zje : Str := ⟨#[111, 100, 100]⟩
variable {mo : Int} {ro : List PD} {t s : Int} {R N S : List PD}
theorem Zpa {x : Str} (hm : ¬ s + 1 > mo) (h0 : Za ro t = some (.tuple [.str ZgI, .str x])) : MT mo ro t R N S s (.stop x) R N S := by
 intro f g oth o1 o2
 refine Zb1 (F := Zes ro (mkS f g oth ⟨R, N, S, s + 1⟩ mo ro) (.stop x)) (ZgE (n := 39) hm h0 rfl fun k kx hk hx => ?_)
 exact hx 2 [(16, .str x)] _ fun ρ => ⟨ρ, rfl⟩
theorem exM {F : RX → Prop} (h : ∀ (K : KX) kk, (∀ c fs ρ st, F (.ex c fs ρ st) → K.ex c fs ρ st) → ZX (Zg n) c K ρ st kk) : F (exs (Zi n) c ρ st) :=
 Zb1 (h _ _ fun y y y y h => h)
theorem rtM {F : RX → Prop} (h : ∀ (K : KX) kk, (∀ v st, F (.rt v st) → K.rt v st) → ZX (Zg n) c K ρ st kk) : F (exs (Zi n) c ρ st) :=
 Zb1 (h _ _ fun y y h => h)
theorem Zq4 (hm : ¬ s + 1 > mo) (h0 : Za ro t = some (.tuple [.str Zje])) : MT mo ro t R N S s .code R N S := by
 intro f g oth o1 o2
 refine exM fun K kk hK => ?_
 refine mF (decide_eq_false hm) ?_
 refine mO (ZaS h0) ?_
 exact hK _ _ _ _ ⟨_, _, rfl⟩
theorem Zpb (hm : s + 1 > mo) : MT mo ro t R N S s .long R N S := by
 intro f g oth o1 o2
 refine exM fun K kk hK => ?_
 refine mT (decide_eq_true hm) ?_
 exact hK _ _ _ _ ⟨_, _, rfl⟩
theorem Zq5 (hm : ¬ s + 1 > mo) (h0 : Za ro t = some (.tuple [.str Zau, .int a])) (ha0 : a ≥ 0) (ha : Za R a = some y) : OT mo ro t R N S s (.done y) R N S := by
 intro f g oth o3
 refine rtM fun K kk hK => ?_
 refine mO (ZaS h0) ?_
 refine mF (decide_eq_false hm) ?_
 refine mT (decide_eq_true ha0) ?_
 refine mO (Zb ha) ?_
 exact hK _ _ rfl
theorem Zpc (hm : ¬ s + 1 > mo) (h0 : Za ro t = some (.tuple [.str Zau, .int a])) (ha0 : ¬ a ≥ 0) : OT mo ro t R N S s (.done (.int 0)) R N S := by
 intro f g oth o3
 refine rtM fun K kk hK => ?_
 refine mO (ZaS h0) ?_
 refine mF (decide_eq_false hm) ?_
 refine mF (decide_eq_false ha0) ?_
 exact hK _ _ rfl
theorem Zpd (hm : ¬ s + 1 > mo) (h0 : Za ro t = some (.tuple [.str ZgI, .str x])) : OT mo ro t R N S s (.stop x) R N S := by
 intro f g oth o3
 refine rtM fun K kk hK => ?_
 refine mO (ZaS h0) ?_
 refine mF (decide_eq_false hm) ?_
 exact hK _ _ rfl
theorem Zq6 (hm : ¬ s + 1 > mo) (h0 : Za ro t = some (.tuple [.str Zje])) : OT mo ro t R N S s .code R N S := by
 intro f g oth o3
 refine rtM fun K kk hK => ?_
 refine mO (ZaS h0) ?_
 refine mF (decide_eq_false hm) ?_
 exact hK _ _ rfl
theorem Zpe (hm : s + 1 > mo) (h0 : Za ro t = some y) : OT mo ro t R N S s .long R N S := by
 intro f g oth o3
 refine rtM fun K kk hK => ?_
 refine mO (ZaS h0) ?_
 refine mT (decide_eq_true hm) ?_
 exact hK _ _ rfl
end
section
noncomputable def Bd (x : Int) : Prop := -99 ≤ x ∧ x ≤ 99
noncomputable def Asc (x : Str) : Prop := ∀ c ∈ x.cps.toList, c < 128
noncomputable def ChO (o : Option Nat) : Prop := ∀ c, o = some c → c < 128
noncomputable def Pl (a l : Int) : Prop := ∃ A L : Nat, a = A ∧ l = L ∧ 1 ≤ L ∧ L ≤ 4 ∧ A + L ≤ 8
noncomputable def I3 (k : Int) : Prop := 0 ≤ k ∧ k ≤ 2
structure Inv (a : AS) (s : Int) : Prop where
 i : Bd a.i0 ∧ Bd a.i1 ∧ Bd a.i2
 t3 : (a.t3.length : Int) ≤ 8 + 4 * s
 t4 : a.t4.length ≤ 4
 c3 : Asc a.t3
 c4 : Asc a.t4
 a6 : 0 ≤ a.a6 ∧ a.a6 ≤ 4
 pl : Pl a.a7 a.l7
 nl : a.nn.length = 5
 nb : ∀ x, some x ∈ a.nn → Bd x
 q5 : a.q5 = none ∨ a.q5 = some 10 ∨ a.q5 = some 20 ∨ a.q5 = some 30
 sl : a.sg.length = 8
 sc : ∀ o ∈ a.sg, ChO o
variable {mo : Int} {ro : List PD} {n t s : Int} {a : AS}
theorem Zjf {x : Nat} {s : Int} (hs : 0 ≤ s) (h : x ≤ 4) : (x : Int) ≤ 8 + 4 * s := Int.le_trans (Int.ofNat_le.mpr h) (Int.le_trans (by decide : (4 : Int) ≤ 8) (Int.le_add_of_nonneg_right (Int.mul_nonneg (by decide) hs)))
theorem Inv.more (h : Inv a s) : Inv a (s + 1) := { h with t3 := Int.le_trans h.t3 (Int.add_le_add_left (Int.mul_le_mul_of_nonneg_left (Int.le_add_one (Int.le_refl s)) (by decide)) 8) }
@[elab_as_elim] theorem e2 {P : Int → Prop} (h : 0 ≤ r ∧ r < 2) (a : P 0) (b : P 1) : P r := by
 obtain ⟨n, rfl⟩ := Int.eq_ofNat_of_zero_le h.1
 match n, Int.ofNat_lt.mp h.2 with
 | 0, _ => exact a
 | 1, _ => exact b
@[elab_as_elim] theorem e3 {P : Int → Prop} (h : 0 ≤ r ∧ r < 3) (a : P 0) (b : P 1) (c : P 2) : P r :=
 if q : r < 2 then e2 ⟨h.1, q⟩ a b else (Int.le_antisymm (Int.le_of_lt_add_one h.2) (Int.not_lt.mp q) : r = 2) ▸ c
@[elab_as_elim] theorem e4 {P : Int → Prop} (h : 0 ≤ r ∧ r < 4) (a : P 0) (b : P 1) (c : P 2) (d : P 3) : P r :=
 if q : r < 3 then e3 ⟨h.1, q⟩ a b c else (Int.le_antisymm (Int.le_of_lt_add_one h.2) (Int.not_lt.mp q) : r = 3) ▸ d
theorem I3.cases (h : I3 k) : k = 0 ∨ k = 1 ∨ k = 2 := e3 (P := fun k => k = 0 ∨ k = 1 ∨ k = 2) ⟨h.1, Int.lt_add_one_of_le h.2⟩ (.inl rfl) (.inr (.inl rfl)) (.inr (.inr rfl))
theorem I3.ten (h : I3 k) : 0 ≤ k ∧ k ≤ 10 := ⟨h.1, Int.le_trans h.2 (by decide)⟩
theorem Inv.read (h : Inv a s) (hk : I3 k) : ∃ x, Za a.regs k = some (.int x) ∧ Bd x := by
 rcases hk.cases with rfl | rfl | rfl
 ·exact ⟨_, rfl, h.i.1⟩
 ·exact ⟨_, rfl, h.i.2.1⟩
 ·exact ⟨_, rfl, h.i.2.2⟩
theorem ZV {a : AS} (h : 0 ≤ k ∧ k ≤ 10) : Zaa a.regs k = true :=
 Bool.and_eq_true_iff.mpr ⟨Bool.and_eq_true_iff.mpr ⟨decide_eq_true h.1, decide_eq_true (Nat.le_trans (Int.toNat_le.mpr (h.2 : k ≤ (10 : Nat))) (by decide))⟩, decide_eq_true (Int.lt_of_le_of_lt h.2 (by decide : (10 : Int) < 11))⟩
noncomputable def Put (a : AS) (s gl : Int) (y : PD) : Prop := ∃ a' : AS, a'.regs = a.regs.set gl.toNat y ∧ a'.nums = a.nums ∧ a'.sgs = a.sgs ∧ Inv a' (s + 1)
theorem Inv.putI (h : Inv a s) (hk : I3 k) (hv : Bd v) : Put a s k (.int v) := by
 rcases hk.cases with rfl | rfl | rfl
 ·exact ⟨{ a with i0 := v }, rfl, rfl, rfl, { h.more with i := ⟨hv, h.i.2⟩ }⟩
 ·exact ⟨{ a with i1 := v }, rfl, rfl, rfl, { h.more with i := ⟨h.i.1, hv, h.i.2.2⟩ }⟩
 ·exact ⟨{ a with i2 := v }, rfl, rfl, rfl, { h.more with i := ⟨h.i.1, h.i.2.1, hv⟩ }⟩
theorem Inv.put3 (h : Inv a s) (hx : (x.length : Int) ≤ 8 + 4 * (s + 1)) (hc : Asc x) : Put a s 3 (.str x) := ⟨{ a with t3 := x }, rfl, rfl, rfl, { h.more with t3 := hx, c3 := hc }⟩
theorem Inv.put34 (h : Inv a s) (hs : 0 ≤ s) (hk : k = 3 ∨ k = 4) (hx : x.length ≤ 4) (hc : Asc x) : Put a s k (.str x) := by
 rcases hk with rfl | rfl
 ·exact h.put3 (Zjf (Int.le_add_one hs) hx) hc
 ·exact ⟨{ a with t4 := x }, rfl, rfl, rfl, { h.more with t4 := hx, c4 := hc }⟩
theorem Inv.put5 (h : Inv a s) : Put a s 5 (.bool b) := ⟨{ a with b5 := b }, rfl, rfl, rfl, { h.more with }⟩
theorem Inv.put6 (h : Inv a s) (hx : 0 ≤ ad ∧ ad ≤ 4) : Put a s 6 (pl0 ad) := ⟨{ a with a6 := ad }, rfl, rfl, rfl, { h.more with a6 := hx }⟩
theorem Inv.put7 (h : Inv a s) (hx : Pl ad l) : Put a s 7 (pl5 ad l) := ⟨{ a with a7 := ad, l7 := l }, rfl, rfl, rfl, { h.more with pl := hx }⟩
noncomputable def Zct : Out → Prop
 | .done v => ∃ i, v = .int i
 | .stop x => Asc x
 | _ => True
noncomputable def Zo (mo : Int) (ro : List PD) (n t s : Int) (a : AS) : Prop :=
 ∃ (o : Out) (a' : AS), Inv a' (s + 1) ∧ MT mo ro t a.regs a.nums a.sgs s o a'.regs a'.nums a'.sgs ∧ OT mo ro t a.regs a.nums a.sgs s o a'.regs a'.nums a'.sgs ∧ Zct o ∧ ∀ q, o = .nx q → 11 ≤ q ∧ q ≤ n
structure Cx (mo : Int) (ro : List PD) (n t s : Int) (a : AS) : Prop where
 h : Inv a s
 hs : 0 ≤ s
 hs1 : s ≤ 70
 hm : ¬ s + 1 > mo
 ht : 11 ≤ t ∧ t + 1 ≤ n
theorem Cx.one (X : Cx mo ro n t s a) : 11 ≤ t + 1 ∧ t + 1 ≤ n := ⟨Int.le_trans X.ht.1 (Int.le_add_one (Int.le_refl t)), X.ht.2⟩
theorem Zo.same (h : Inv a s) (hM : MT mo ro t a.regs a.nums a.sgs s o a.regs a.nums a.sgs) (hO : OT mo ro t a.regs a.nums a.sgs s o a.regs a.nums a.sgs) (hk : Zct o) (hq : ∀ q, o ≠ .nx q) : Zo mo ro n t s a :=
 ⟨o, a, h.more, hM, hO, hk, fun q e => (hq q e).elim⟩
theorem Zo.run (h : Inv a s) (hM : MT mo ro t a.regs a.nums a.sgs s .run a.regs a.nums a.sgs) (hO : OT mo ro t a.regs a.nums a.sgs s .run a.regs a.nums a.sgs) : Zo mo ro n t s a :=
 Zo.same h hM hO trivial fun y e => nomatch e
theorem Cx.val {P : Prop} {y : PD} (X : Cx mo ro n t s a) (h0 : Za ro t = some (.tuple (.str w :: .int gl :: re))) (hg : 0 ≤ gl ∧ gl ≤ 10) (hp : P → Put a s gl y)
 (hM : DoM mo ro a.regs a.nums a.sgs s k (.tuple (.str w :: .int gl :: re)) P (.d .none) (a.regs.set gl.toNat y) a.nums a.sgs)
 (hO : DoO mo ro a.regs a.nums a.sgs s 49 [.d (.tuple (.str w :: .int gl :: re))] P (.d y) a.nums a.sgs)
 (hw : wOk w k true = true := by exact rfl) : Zo mo ro n t s a := by
 have W := Zbt hw
 obtain ⟨d, _⟩ := Zbt hw
 by_cases p : P
 ·obtain ⟨a', e1, e2, e3, hi⟩ := hp p
  refine ⟨.nx (t + 1), a', hi, ?_, ?_, trivial, fun q e => ?_⟩
  ·rw [e1, e2, e3]; exact Zc5 hM X.hm h0 d p rfl
  ·rw [e1, e2, e3]; exact ZgH hO X.hm h0 (ZV hg) W p
  ·cases e; exact X.one
 ·exact Zo.run X.h (Znk hM X.hm h0 d p) (Zq1 hO X.hm h0 (ZV hg) W p)
noncomputable def ZgJ (a : AS) (s : Int) (N S : List PD) : Prop := ∃ a' : AS, a'.regs = a.regs ∧ a'.nums = N ∧ a'.sgs = S ∧ Inv a' (s + 1)
theorem Cx.same (X : Cx mo ro n t s a) : ZgJ a s a.nums a.sgs := ⟨a, rfl, rfl, rfl, X.h.more⟩
theorem Cx.nxt {P : Prop} {q : Int} {v : MV} (X : Cx mo ro n t s a) (h0 : Za ro t = some (.tuple (.str w :: re))) (hp : P → ZgJ a s N S ∧ 11 ≤ q ∧ q ≤ n)
 (hM : DoM mo ro a.regs a.nums a.sgs s k (.tuple (.str w :: re)) P v a.regs N S)
 (hO : DoO mo ro a.regs a.nums a.sgs s 52 [.d (.tuple (.str w :: re)), .d (.int t)] P (.d (.int q)) N S)
 (hv : ZmC t v = some (.nx q) := by exact rfl) (hw : wOk w k false = true := by exact rfl) : Zo mo ro n t s a := by
 have W := Zbt hw
 obtain ⟨d, _⟩ := Zbt hw
 by_cases p : P
 ·obtain ⟨⟨a', e1, e2, e3, hi⟩, hq⟩ := hp p
  refine ⟨.nx q, a', hi, ?_, ?_, trivial, fun q e => ?_⟩
  ·rw [e1, e2, e3]; exact Zc5 hM X.hm h0 d p hv
  ·rw [e1, e2, e3]; exact Zq2 hO X.hm h0 W p
  ·cases e; exact hq
 ·exact Zo.run X.h (Znk hM X.hm h0 d p) (Zq3 hO X.hm h0 W p)
theorem Zs (h : k ≤ 4096) : Zc k = true := decide_eq_true h
theorem smI (h : -2000 ≤ x ∧ x ≤ 2000) : Zn x = true := Bool.and_eq_true_iff.mpr ⟨decide_eq_true (Int.le_trans (by decide) h.1), decide_eq_true (Int.le_trans h.2 (by decide))⟩
theorem Bd.sm (h : Bd x) : Zn x = true := smI ⟨Int.le_trans (by decide) h.1, Int.le_trans h.2 (by decide)⟩
theorem Zc6 {x y : Str} : (x ++ y).length = x.length + y.length := Array.size_append
theorem Asc.app (hx : Asc x) (hy : Asc y) : Asc (x ++ y) := by
 intro c hc
 have e : (x ++ y).cps.toList = x.cps.toList ++ y.cps.toList := Array.toList_append
 rw [e, lA9] at hc
 exact hc.elim (hx c) (hy c)
theorem ZdZ (h : Zc (x.length + y.length) = true) : ZE .Add (.str x) (.str y) = some (.str (x ++ y)) := by rw [ZpS, if_pos h]
noncomputable def ZgK : Str := ⟨#[109, 111, 118, 101]⟩
noncomputable def Znm : Str := ⟨#[98, 105, 110]⟩
noncomputable def Zfq : Str := ⟨#[99, 109, 112]⟩
noncomputable def Zq7 : Str := ⟨#[117, 110]⟩
noncomputable def Zsu : Str := ⟨#[99, 97, 116]⟩
noncomputable def Zet : Str := ⟨#[99, 111, 117, 110, 116]⟩
noncomputable def Znn : Str := ⟨#[97, 100, 100]⟩
noncomputable def Zno : Str := ⟨#[115, 117, 98]⟩
noncomputable def Zsv : Str := ⟨#[109, 117, 108]⟩
noncomputable def Zq8 : Str := ⟨#[108, 116]⟩
noncomputable def Zq9 : Str := ⟨#[101, 113]⟩
noncomputable def Zsw : Str := ⟨#[110, 101, 103]⟩
noncomputable def Zsx : Str := ⟨#[110, 111, 116]⟩
noncomputable def ZtL (R : List PD) (k : Int) : Prop := Zaa R k = true
theorem Znp {R N S : List PD} (hg : Zaa R gl = true) : DoM mo ro R N S s 18 (.tuple [.str ZaB, .int gl, kd, y]) True (.d .none) (R.set gl.toNat y) N S :=
 fun f g oth k kx hk hx => mO (ZU hg) (hk trivial)
theorem Znq {R N S : List PD} : DoO mo ro R N S s 49 [.d (.tuple [.str ZaB, .int gl, kd, y])] True (.d y) N S :=
 fun f g oth k kx hk hx => hk trivial
theorem Znr (X : Cx mo ro n t s a) (hg : 0 ≤ gl ∧ gl ≤ 10) (hp : Put a s gl y) (h0 : Za ro t = some (.tuple [.str ZaB, .int gl, kd, y])) : Zo mo ro n t s a :=
 X.val h0 hg (fun z => hp) (Znp (ZV hg)) Znq
theorem ZkN (X : Cx mo ro n t s a) (hg : 0 ≤ gl ∧ gl ≤ 10) (hx : Za a.regs b = some y) (hp : Put a s gl y) (h0 : Za ro t = some (.tuple [.str ZgK, .int gl, .int b])) : Zo mo ro n t s a :=
 X.val (k := 19) h0 hg (fun z => hp) (fun f g oth k kx hk z => mO (Zb hx) (mO (ZU (ZV hg)) (hk trivial))) (fun f g oth k kx hk z => mO (Zb hx) (hk trivial))
noncomputable def Rk (m : Nat) (nm : Str) (kd : Int) (x y : PD) (P : Prop) (z : PD) : Prop := ∀ u st, RC (Zg m) 47 [.d (.str nm), .d (.int kd), .d x, .d y, u] st P (.d z) st
theorem Zns (hx : Bd x) (hy : Bd y) : Rk (m + 1) Znn 0 (.int x) (.int y) (Bd (x + y)) (.int (x + y)) :=
 fun u st k kx hk hn => mO (mul_ok hx.sm hy.sm) (mD (fun p => mN (fun q => hn (fun h => q h.2) _) fun q => hk ⟨p, q⟩) fun p => hn (fun h => p h.1) _)
theorem Znt (hx : Bd x) (hy : Bd y) : Rk (m + 1) Zno 0 (.int x) (.int y) (Bd (x - y)) (.int (x - y)) :=
 fun u st k kx hk hn => mO (mul_ok hx.sm hy.sm) (mD (fun p => mN (fun q => hn (fun h => q h.2) _) fun q => hk ⟨p, q⟩) fun p => hn (fun h => p h.1) _)
theorem Zsy (hx : Bd x) (hy : Bd y) : Rk (m + 1) Zsv 0 (.int x) (.int y) (Bd (x * y)) (.int (x * y)) :=
 fun u st k kx hk hn => mO (mul_ok hx.sm hy.sm) (mD (fun p => mN (fun q => hn (fun h => q h.2) _) fun q => hk ⟨p, q⟩) fun p => hn (fun h => p h.1) _)
theorem Zra : Rk (m + 1) Zq8 kd (.int x) (.int y) True (.bool (decide (x < y))) := fun u st k kx hk hn => hk trivial
theorem Ztl : Rk (m + 1) Zq9 kd (.int x) (.int y) True (.bool (x == y)) := fun u st k kx hk hn => hk trivial
theorem Znu : Rk (m + 1) Zq8 kd (.str x) (.str y) True (.bool (decide (x.cps.toList < y.cps.toList))) := fun u st k kx hk hn => hk trivial
theorem Zsz : Rk (m + 1) Zq9 kd (.str x) (.str y) True (.bool (x == y)) := fun u st k kx hk hn => hk trivial
noncomputable def ZmD (w : Str) (kd : Int) : Prop := (w = Znm ∧ kd = 0) ∨ (w = Zfq ∧ kd = 0) ∨ (w = Zfq ∧ kd = 5)
theorem ZsA {P : Prop} {m : Nat} {z : PD} (hw : ZmD w kd) (hr : Rk m nm kd x y P z) (hx : Za R b = some x) (hy : Za R c = some y) (hg : Zaa R gl = true) :
 RC (Zg (m + 2)) 20 [.loc 10, .loc 12, .d (.tuple [.str w, .int gl, .str nm, .int kd, .int b, .int c])] (Zp f g oth R N S s mo ro) P (.d .none) (Zp f g oth (R.set gl.toNat z) N S s mo ro) := by
 rcases hw with ⟨rfl, rfl⟩ | ⟨rfl, rfl⟩ | ⟨rfl, rfl⟩
 all_goals exact fun k kx hk hn => mO (Zb hx) (mO (Zb hy) (hr _ _ _ _ (fun p => mO (ZU hg) (hk p)) hn))
theorem ZsB {P : Prop} {m : Nat} {z : PD} (hw : ZmD w kd) (hr : Rk m nm kd x y P z) (hx : Za R b = some x) (hy : Za R c = some y) :
 RC (Zg (m + 1)) 49 [.loc 5, .d (.tuple [.str w, .int gl, .str nm, .int kd, .int b, .int c])] (mkS f g ⟨R, N, S, s⟩ oth mo ro) P (.d z) (mkS f g ⟨R, N, S, s⟩ oth mo ro) := by
 rcases hw with ⟨rfl, rfl⟩ | ⟨rfl, rfl⟩ | ⟨rfl, rfl⟩
 all_goals exact fun k kx hk hn => mO (Zb hx) (mO (Zb hy) (hr _ _ _ _ hk hn))
theorem Zjg {P : Prop} {z : PD} (X : Cx mo ro n t s a) (hw : ZmD w kd) (hr : ∀ {m}, Rk (m + 1) nm kd x y P z) (hx : Za a.regs b = some x) (hy : Za a.regs c = some y) (hg : 0 ≤ gl ∧ gl ≤ 10) (hp : P → Put a s gl z)
 (h0 : Za ro t = some (.tuple [.str w, .int gl, .str nm, .int kd, .int b, .int c])) : Zo mo ro n t s a := by
 refine X.val h0 hg hp (fun f g oth => ZsA hw (m := 7) hr hx hy (ZV hg)) (fun f g oth => ZsB hw (m := 9) hr hx hy) ?_
 rcases hw with ⟨rfl, rfl⟩ | ⟨rfl, rfl⟩ | ⟨rfl, rfl⟩ <;> rfl
theorem Zjh (X : Cx mo ro n t s a) {z : Int → Int → Int} (hr : ∀ {m x y}, Bd x → Bd y → Rk (m + 1) nm 0 (.int x) (.int y) (Bd (z x y)) (.int (z x y))) (hg : I3 gl) (hb : I3 b) (hc : I3 c)
 (h0 : Za ro t = some (.tuple [.str Znm, .int gl, .str nm, .int 0, .int b, .int c])) : Zo mo ro n t s a := by
 obtain ⟨x, hx, bx⟩ := X.h.read hb
 obtain ⟨y, hy, by'⟩ := X.h.read hc
 exact Zjg X (.inl ⟨rfl, rfl⟩) (hr bx by') hx hy hg.ten (X.h.putI hg) h0
theorem Zji (X : Cx mo ro n t s a) {z : Int → Int → Bool} (hr : ∀ {m x y}, Rk (m + 1) nm 0 (.int x) (.int y) True (.bool (z x y))) (hb : I3 b) (hc : I3 c)
 (h0 : Za ro t = some (.tuple [.str Zfq, .int 5, .str nm, .int 0, .int b, .int c])) : Zo mo ro n t s a := by
 obtain ⟨x, hx, bx⟩ := X.h.read hb
 obtain ⟨y, hy, by'⟩ := X.h.read hc
 exact Zjg X (.inr (.inl ⟨rfl, rfl⟩)) hr hx hy ⟨by decide, by decide⟩ (fun u => X.h.put5) h0
theorem ZgL (X : Cx mo ro n t s a) {z : Str → Str → Bool} (hr : ∀ {m x y}, Rk (m + 1) nm 5 (.str x) (.str y) True (.bool (z x y)))
 (h0 : Za ro t = some (.tuple [.str Zfq, .int 5, .str nm, .int 5, .int 3, .int 4])) : Zo mo ro n t s a :=
 Zjg X (.inr (.inr ⟨rfl, rfl⟩)) hr rfl rfl ⟨by decide, by decide⟩ (fun u => X.h.put5) h0
theorem ZsC (X : Cx mo ro n t s a) (hg : I3 gl) (hb : I3 b) (h0 : Za ro t = some (.tuple [.str Zq7, .int gl, .str Zsw, .int 0, .int b])) : Zo mo ro n t s a := by
 obtain ⟨x, hx, bx⟩ := X.h.read hb
 have l1 : ¬ -x < -2147483648 := Int.not_lt.mpr (Int.le_trans (by decide) (Int.neg_le_neg bx.2))
 have l2 : ¬ -x ≥ 2147483648 := Int.not_le.mpr (Int.lt_of_le_of_lt (Int.neg_le_neg bx.1) (by decide))
 exact X.val (k := 21) h0 hg.ten (fun y => X.h.putI hg ⟨Int.neg_le_neg bx.2, Int.neg_le_neg bx.1⟩)
  (fun f g oth k kx hk y => mO (Zb hx) (mF (decide_eq_false l1) (mF (decide_eq_false l2) (mO (ZU (ZV hg.ten)) (hk trivial)))))
  (fun f g oth k kx hk y => mO (Zb hx) (hk trivial))
theorem ZsD (X : Cx mo ro n t s a) (h0 : Za ro t = some (.tuple [.str Zq7, .int 5, .str Zsx, .int 4, .int 5])) : Zo mo ro n t s a :=
 X.val (k := 21) (y := .bool !a.b5) h0 ⟨by decide, by decide⟩ (fun z => X.h.put5) (fun f g oth k kx hk z => hk trivial) (fun f g oth k kx hk z => hk trivial)
theorem ZsE (X : Cx mo ro n t s a) (hb : b = 3 ∨ b = 4) (h0 : Za ro t = some (.tuple [.str Zsu, .int 3, .int b, .int 4])) : Zo mo ro n t s a := by
 have : ∃ x, Za a.regs b = some (.str x) ∧ (x.length : Int) ≤ 8 + 4 * s ∧ Asc x := by
  have h4 := X.h.t4
  have hs := X.hs
  rcases hb with rfl | rfl
  ·exact ⟨_, rfl, X.h.t3, X.h.c3⟩
  ·exact ⟨_, rfl, Zjf hs h4, X.h.c4⟩
 obtain ⟨x, hx, lx, cx⟩ := this
 have h4 := X.h.t4
 have hs := X.hs1
 have hl := Zc6 (x := x) (y := a.t4)
 have hf : Zc (x.length + a.t4.length) = true := Zs (Nat.le_trans (Nat.add_le_add (Int.ofNat_le.mp (Int.le_trans lx (Int.add_le_add_left (Int.mul_le_mul_of_nonneg_left hs (by decide)) 8) : (x.length : Int) ≤ (288 : Nat))) h4) (by decide))
 exact X.val (k := 22) (y := .str (x ++ a.t4)) h0 ⟨by decide, by decide⟩ (fun z => X.h.put3 (by rw [hl, Int.natCast_add, Int.mul_add, ← Int.add_assoc]; exact Int.add_le_add lx (Int.ofNat_le.mpr h4)) (cx.app X.h.c4))
  (fun f g oth k kx hk z => mO (Zb hx) (mO (ZdZ hf) (hk trivial))) (fun f g oth k kx hk z => mO (Zb hx) (mO (ZdZ hf) (hk trivial)))
end
section
variable {mo : Int} {ro : List PD} {n t s : Int} {a : AS}
noncomputable def Zjj : Str := ⟨#[100, 105, 118]⟩
theorem mB {b : Bool} (g : b = true → A) (h : b = false → B) : (match (motive := Bool → Prop) b with | true => A | false => B) := by
 cases b with
 | true => exact g rfl
 | false => exact h rfl
theorem ZkO (h : Bd x) : 0 ≤ (if x < 0 then -x else x) ∧ (if x < 0 then -x else x) ≤ 99 := by
 have h1 := h.1
 have h2 := h.2
 split; exact ⟨Int.le_of_lt (Int.neg_pos_of_neg ‹_›), Int.neg_le_of_neg_le h.1⟩; exact ⟨Int.not_lt.mp ‹_›, h.2⟩
theorem Zib (h : y ≠ 0) (hx : Zn x = true) (hy : Zn y = true) : ZE .FloorDiv (.int x) (.int y) = some (.int (x.fdiv y)) := by rw [Zny, if_neg h, if_pos (Bool.and_eq_true_iff.mpr ⟨hx, hy⟩)]
theorem ZsF (hx : Bd x) (hy : Bd y) (h0 : y ≠ 0) : ∃ q, Bd q ∧ ∀ {m}, Rk (m + 1) Zjj 0 (.int x) (.int y) True (.int q) := by
 obtain ⟨a0, a1⟩ := ZkO hx
 obtain ⟨b0, b1⟩ := ZkO hy
 have bn : (if y < 0 then -y else y) ≠ 0 := by split; exact Int.neg_ne_zero.mpr h0; exact h0
 have e0 : (y == 0) = false := beq_eq_false_iff_ne.mpr h0
 have hd := Zib bn (smI ⟨Int.le_trans (by decide) a0, Int.le_trans a1 (by decide)⟩) (smI ⟨Int.le_trans (by decide) b0, Int.le_trans b1 (by decide)⟩)
 have q0 : 0 ≤ (if x < 0 then -x else x).fdiv (if y < 0 then -y else y) := Int.fdiv_nonneg a0 b0
 have q1 : (if x < 0 then -x else x).fdiv (if y < 0 then -y else y) ≤ 99 := by
  rw [Int.fdiv_eq_ediv_of_nonneg _ b0]; exact Int.le_trans (Int.ediv_le_self _ a0) a1
 generalize (if x < 0 then -x else x).fdiv (if y < 0 then -y else y) = q at hd q0 q1
 by_cases e : PyData.eqv (.bool (decide (x < 0))) (.bool (decide (y < 0))) = true
 ·exact ⟨q, ⟨Int.le_trans (by decide) q0, q1⟩, fun u st k kx hk hn => mF e0 (mO hd (mT e (hk trivial)))⟩
 ·exact ⟨-q, ⟨Int.neg_le_neg q1, Int.le_trans (Int.neg_nonpos_of_nonneg q0) (by decide)⟩, fun u st k kx hk hn => mF e0 (mO hd (mF (Bool.eq_false_iff.mpr e) (hk trivial)))⟩
noncomputable def ZOk (m : Nat) : Prop := ∀ z st, RC (Zg m) 2 [.d (.int z)] st True (.d (.bool (z == 0))) st
noncomputable def FOk (m : Nat) (v : Int) : Prop := ∀ st, RC (Zg m) 0 [.d (.int v), .d (.int 32)] st True (.d (.int v)) st
theorem Ztm : ZOk (m + 1) := fun z st k kx hk y => hk trivial
theorem Ztn (h : 0 ≤ v ∧ v ≤ 99) : FOk (m + 1) v :=
 fun st k kx hk y => mF (decide_eq_false (Int.not_lt.mpr (Int.le_trans (by decide) h.1))) (mF (decide_eq_false (Int.not_le.mpr (Int.lt_of_le_of_lt h.2 (by decide)))) (hk trivial))
inductive C3 (m : Nat) (x y z q : Int) (P : Prop) : Prop
 | mk (h1 : Rk m Zno 0 (.int y) (.int x) (Bd (y - x)) (.int (y - x))) (h2 : Bd (y - x) → Rk m Znn 0 (.int (y - x)) (.int z) (Bd (y - x + z)) (.int (y - x + z)))
  (h3 : P → Rk m Zjj 0 (.int (y - x + z)) (.int z) True (.int q)) (p : P → z ≠ 0 ∧ Bd (y - x) ∧ Bd (y - x + z)) (p' : z ≠ 0 → Bd (y - x) → Bd (y - x + z) → P)
theorem Zpf {m : Nat} {q : Int} (c : C3 m x y z q P) (hz : ZOk m) (hf : FOk m (max q 0)) (hx : Za R i = some (.int x)) (hy : Za R j = some (.int y)) (hw : Za R l = some (.int z)) (hg : Zaa R gl = true) :
 RC (Zg (m + 3)) 23 [.loc 10, .loc 12, .d (.tuple [.str Zet, .int gl, .int 0, .int i, .int j, .int l])] (Zp f g oth R N S s mo ro) P (.d .none) (Zp f g oth (R.set gl.toNat (.int (max q 0))) N S s mo ro) := by
 obtain ⟨h1, h2, h3, p, p'⟩ := c
 exact fun k kx hk hn => mO (Zb hx) (mO (Zb hy) (mO (Zb hw) (hz _ _ _ _ (fun w => mB (fun e => hn (fun u => (p u).1 (eq_of_beq e)) _) fun e =>
  h1 _ _ _ _ (fun b1 => h2 b1 _ _ _ _ (fun b2 => h3 (p' (beq_eq_false_iff_ne.mp e) b1 b2) _ _ _ _ (fun w => hf _ _ _ (fun w => mO (ZU hg) (hk (p' (beq_eq_false_iff_ne.mp e) b1 b2))) fun u => (u trivial).elim) fun u => (u trivial).elim)
   fun u => hn fun v => u (p v).2.2) fun u => hn fun v => u (p v).2.1) fun u => (u trivial).elim)))
theorem Zpg {m : Nat} {q : Int} (c : C3 m x y z q P) (hx : Za R i = some (.int x)) (hy : Za R j = some (.int y)) (hw : Za R l = some (.int z)) :
 RC (Zg (m + 2)) 49 [.loc 5, .d (.tuple [.str Zet, .int gl, .int 0, .int i, .int j, .int l])] (mkS f g ⟨R, N, S, s⟩ oth mo ro) P (.d (.int (max q 0))) (mkS f g ⟨R, N, S, s⟩ oth mo ro) := by
 obtain ⟨h1, h2, h3, p, p'⟩ := c
 exact fun k kx hk hn => mO (Zb hx) (mO (Zb hy) (mO (Zb hw) (mB (fun e => hn (fun u => (p u).1 (eq_of_beq e)) _) fun e =>
  h1 _ _ _ _ (fun b1 => h2 b1 _ _ _ _ (fun b2 => h3 (p' (beq_eq_false_iff_ne.mp e) b1 b2) _ _ _ _ (fun w => hk (p' (beq_eq_false_iff_ne.mp e) b1 b2)) fun u => (u trivial).elim)
   fun u => hn fun v => u (p v).2.2) fun u => hn fun v => u (p v).2.1)))
theorem Zph (X : Cx mo ro n t s a) (hg : I3 gl) (hb : I3 b) (hc : I3 c) (hd : I3 d) (h0 : Za ro t = some (.tuple [.str Zet, .int gl, .int 0, .int b, .int c, .int d])) : Zo mo ro n t s a := by
 obtain ⟨x, hx, bx⟩ := X.h.read hb
 obtain ⟨y, hy, by'⟩ := X.h.read hc
 obtain ⟨z, hz, bz⟩ := X.h.read hd
 have : ∃ q, (z ≠ 0 ∧ Bd (y - x) ∧ Bd (y - x + z) → Bd q ∧ ∀ {m}, Rk (m + 1) Zjj 0 (.int (y - x + z)) (.int z) True (.int q)) ∧ q ≤ 99 := by
  by_cases p : z ≠ 0 ∧ Bd (y - x) ∧ Bd (y - x + z)
  ·obtain ⟨q, h1, h2⟩ := ZsF p.2.2 bz p.1
   exact ⟨q, fun u => ⟨h1, h2⟩, h1.2⟩
  ·exact ⟨0, fun h => (p h).elim, by decide⟩
 obtain ⟨q, hq, q9⟩ := this
 have hm : 0 ≤ max q 0 ∧ max q 0 ≤ 99 := ⟨Int.le_max_right q 0, Int.max_le.mpr ⟨q9, by decide⟩⟩
 have c3 : ∀ {m}, C3 (m + 1) x y z q (z ≠ 0 ∧ Bd (y - x) ∧ Bd (y - x + z)) := ⟨Znt by' bx, fun h => Zns h bz, fun p => (hq p).2, id, fun a b c => ⟨a, b, c⟩⟩
 exact X.val h0 hg.ten (fun u => X.h.putI hg ⟨Int.le_trans (by decide) hm.1, hm.2⟩) (fun f g oth => Zpf (m := 6) c3 Ztm (Ztn hm) hx hy hz (ZV hg.ten)) (fun f g oth => Zpg (m := 8) c3 hx hy hz)
noncomputable def ZZ : Str := ⟨#[97, 100, 100, 114]⟩
noncomputable def Zd0 : Str := ⟨#[101, 108, 101, 109]⟩
noncomputable def Zfr : Str := ⟨#[99, 117, 116]⟩
noncomputable def ZgM : Str := ⟨#[108, 101, 110, 103, 116, 104]⟩
noncomputable def w_X : Str := ⟨#[88]⟩
noncomputable def w_Y : Str := ⟨#[89]⟩
noncomputable def w_C : Str := ⟨#[67]⟩
noncomputable def w_Z : Str := ⟨#[90]⟩
noncomputable def w_P : Str := ⟨#[80]⟩
noncomputable def Zto (x : Str) (b : Bool) : Bool := x.cps.toList.all (fun c => decide (c < 128)) && (([.str ⟨#[90]⟩, .str ⟨#[80]⟩] : List PD).any fun y => PyData.eqv y (.str x)) == b
theorem Zjk (h : Zto x b = true) (hv : v = .d (.tuple [.str ⟨#[90]⟩, .str ⟨#[80]⟩]) := by exact rfl) : Zt .In st (.d (.str x)) v = some b := by
 subst hv
 have h' := Bool.and_eq_true_iff.mp h
 have hs : (shp (.str x) && shp (.tuple [.str ⟨#[90]⟩, .str ⟨#[80]⟩])) = true := Bool.and_eq_true_iff.mpr ⟨Bool.and_eq_true_iff.mpr ⟨Asc.ok fun c hc => of_decide_eq_true (List.all_eq_true.mp h'.1 c hc), rfl⟩, by decide +kernel⟩
 exact (if_pos hs).trans (congrArg some (eq_of_beq h'.2))
noncomputable def w_A : Str := ⟨#[65]⟩
noncomputable def w_D : Str := ⟨#[68]⟩
noncomputable def w_Q : Str := ⟨#[81]⟩
noncomputable def Zjl (x : Str) (y : PD) : Prop := (x = w_X ∧ y = pl0 0) ∨ (x = w_Y ∧ y = pl0 1) ∨ (x = w_C ∧ y = pl5 0 4) ∨ (x = w_A ∧ y = plA) ∨ (x = w_D ∧ y = plD) ∨ (x = w_Q ∧ y = plQ)
theorem ZkP {R N S : List PD} (hx : Zjl x y) (hg : Zaa R gl = true) : DoM mo ro R N S s 24 (.tuple [.str ZZ, .int gl, .str x]) True (.d .none) (R.set gl.toNat y) N S := by
 rcases hx with ⟨rfl, rfl⟩ | ⟨rfl, rfl⟩ | ⟨rfl, rfl⟩ | ⟨rfl, rfl⟩ | ⟨rfl, rfl⟩ | ⟨rfl, rfl⟩
 all_goals exact fun f g oth k kx hk hn => mO (ZU hg) (hk trivial)
theorem ZkQ {R N S : List PD} (hx : Zjl x y) : DoO mo ro R N S s 49 [.d (.tuple [.str ZZ, .int gl, .str x])] True (.d y) N S := by
 rcases hx with ⟨rfl, rfl⟩ | ⟨rfl, rfl⟩ | ⟨rfl, rfl⟩ | ⟨rfl, rfl⟩ | ⟨rfl, rfl⟩ | ⟨rfl, rfl⟩
 all_goals exact fun f g oth k kx hk hn => mO (Zjk (b := false) rfl) (hk trivial)
theorem ZgN (X : Cx mo ro n t s a) (hx : Zjl x y) (hg : 0 ≤ gl ∧ gl ≤ 10) (hp : Put a s gl y) (h0 : Za ro t = some (.tuple [.str ZZ, .int gl, .str x])) : Zo mo ro n t s a :=
 X.val h0 hg (fun z => hp) (ZkP hx (ZV hg)) (ZkQ hx)
theorem Zpi (X : Cx mo ro n t s a) (h0 : Za ro t = some (.tuple [.str ZZ, .int 6, .str w_Z])) : Zo mo ro n t s a :=
 X.val (k := 24) (P := False) (y := .none) h0 ⟨by decide, by decide⟩ False.elim (fun f g oth k kx hk hn => hn id _) (fun f g oth k kx hk hn => mO (Zjk (b := true) rfl) (hn id _))
theorem Zpj (X : Cx mo ro n t s a) (h0 : Za ro t = some (.tuple [.str ZZ, .int 7, .str w_P])) : Zo mo ro n t s a :=
 X.val (k := 24) (P := False) (y := .none) h0 ⟨by decide, by decide⟩ False.elim (fun f g oth k kx hk hn => hn id _) (fun f g oth k kx hk hn => mO (Zjk (b := true) rfl) (hn id _))
theorem smB {x c : Int} (h : Bd x) (c0 : 0 ≤ c) (c1 : c ≤ 1) : Zn (x - c) = true ∧ Zn (0 + (x - c) * 1) = true :=
 have q : Zn (x - c) = true := smI ⟨Int.le_trans (by decide : (-2000 : Int) ≤ -99 - 1) (Int.sub_le_sub h.1 c1), Int.le_trans (Int.sub_le_sub h.2 c0) (by decide)⟩
 ⟨q, by rw [Int.zero_add, Int.mul_one]; exact q⟩
theorem epA {m : Nat} (h : Bd x) : RC (Zg (m + 3)) 16 [.d plA, .d (.list [.int x])] st (1 ≤ x ∧ x ≤ 3) (.d (.tuple [.int 0, .int (2 + (0 + (x - 1) * 1) * 1), .int 0, .tuple []])) st := by
 intro k kx hk hn
 have s1 : Zn (x - 1) = true := (smB h (by decide) (by decide)).1
 have s2 : Zn (0 + (x - 1) * 1) = true := (smB h (by decide) (by decide)).2
 conv => whnf
 refine mD (fun p => hn (fun q => Int.not_le.mpr p q.1) _) fun p => ?_
 conv => whnf
 refine mD (fun r => hn (fun q => Int.not_le.mpr r q.2) _) fun r => ?_
 conv => whnf
 refine mO (mul_ok s1 rfl) ?_
 conv => whnf
 refine mO (mul_ok s2 rfl) ?_
 exact (hk ⟨Int.not_lt.mp p, Int.not_lt.mp r⟩)
theorem epD {m : Nat} (h : Bd x) : RC (Zg (m + 3)) 16 [.d plD, .d (.list [.int x])] st (0 ≤ x ∧ x ≤ 1) (.d (.tuple [.int 5, .int (4 + (0 + (x - 0) * 1) * 2), .int 2, .tuple []])) st := by
 intro k kx hk hn
 have s1 : Zn (x - 0) = true := (smB h (by decide) (by decide)).1
 have s2 : Zn (0 + (x - 0) * 1) = true := (smB h (by decide) (by decide)).2
 conv => whnf
 refine mD (fun p => hn (fun q => Int.not_le.mpr p q.1) _) fun p => ?_
 conv => whnf
 refine mD (fun r => hn (fun q => Int.not_le.mpr r q.2) _) fun r => ?_
 conv => whnf
 refine mO (mul_ok s1 rfl) ?_
 conv => whnf
 refine mO (mul_ok s2 rfl) ?_
 exact (hk ⟨Int.not_lt.mp p, Int.not_lt.mp r⟩)
theorem ep2 {m : Nat} : RC (Zg (m + 1)) 16 [.d plA, .d (.list [x, y])] st False (.d .none) st := fun k kx z hn => hn id _
theorem ZkR {y z : PD} {P : Prop} {m : Nat} (hx : Za R b = some x) (h8 : Za R c = some y) (hg : Zaa R gl = true) (h : ∀ {st}, RC (Zg m) 16 [.d y, .d (.list [x])] st P (.d z) st) (e : z = w) :
 RC (Zg (m + 1)) 25 [.loc 10, .loc 12, .d (.tuple [.str Zd0, .int gl, .int c, .list [.int b]])] (Zp f g oth R N S s mo ro) P (.d .none) (Zp f g oth (R.set gl.toNat w) N S s mo ro) :=
 fun k kx hk hn => mO (Zb hx) (mO (Zb h8) (h _ _ (fun p => mO (ZU hg e) (hk p)) hn))
theorem Zpk (X : Cx mo ro n t s a) (hb : I3 b) (h0 : Za ro t = some (.tuple [.str Zd0, .int 6, .int 8, .list [.int b]])) : Zo mo ro n t s a := by
 obtain ⟨x, hx, bx⟩ := X.h.read hb
 have g : 0 ≤ (6 : Int) ∧ (6 : Int) ≤ 10 := ⟨by decide, by decide⟩
 refine X.val (P := 1 ≤ x ∧ x ≤ 3) h0 g (fun p => X.h.put6 (ad := 1 + x) ⟨Int.add_nonneg (by decide) (Int.le_trans (by decide) p.1), Int.add_le_add_left p.2 1⟩) (fun f g' oth => ZkR (m := 8) hx rfl (ZV g) (epA (m := 5) bx) ?_)
  (fun f g oth k kx hk hn => mO (Zb hx) (mD (fun p => mN (fun r => hn (fun q => r q.2) _) fun r => hk ⟨p, r⟩) fun p => hn (fun q => p q.1) _))
 rw [pl0, show 2 + (0 + (x - 1) * 1) * 1 = 1 + x by omega]
theorem Ztp (p : 0 ≤ x ∧ x ≤ 1) : Pl (4 + 2 * x) 2 := by
 obtain ⟨i, rfl⟩ := Int.eq_ofNat_of_zero_le p.1
 exact ⟨4 + 2 * i, 2, rfl, rfl, by decide, by decide, Nat.add_le_add_right (Nat.add_le_add_left (Nat.mul_le_mul_left 2 (Int.ofNat_le.mp p.2)) 4) 2⟩
theorem Zpl (X : Cx mo ro n t s a) (hb : I3 b) (h0 : Za ro t = some (.tuple [.str Zd0, .int 7, .int 9, .list [.int b]])) : Zo mo ro n t s a := by
 obtain ⟨x, hx, bx⟩ := X.h.read hb
 have g : 0 ≤ (7 : Int) ∧ (7 : Int) ≤ 10 := ⟨by decide, by decide⟩
 refine X.val (P := 0 ≤ x ∧ x ≤ 1) h0 g (fun p => X.h.put7 (Ztp p)) (fun f g' oth => ZkR (m := 8) hx rfl (ZV g) (epD (m := 5) bx) ?_)
  (fun f g oth k kx hk hn => mO (Zb hx) (mD (fun p => mN (fun r => hn (fun q => r q.2) _) fun r => mO (mul_ok (x := 2) rfl bx.sm) (hk ⟨p, r⟩)) fun p => hn (fun q => p q.1) _))
 rw [pl5, show 4 + (0 + (x - 0) * 1) * 2 = 4 + 2 * x by omega]
theorem Zpm (X : Cx mo ro n t s a) (hb : I3 b) (h0 : Za ro t = some (.tuple [.str Zd0, .int 6, .int 8, .list [.int b, .int 1]])) : Zo mo ro n t s a := by
 obtain ⟨x, hx, bx⟩ := X.h.read hb
 exact X.val (k := 25) (P := False) (y := .none) h0 ⟨by decide, by decide⟩ False.elim
  (fun f g oth k kx hk hn => mO (Zb hx) (hn id _)) (fun f g oth k kx hk hn => mO (Zb hx) (hn id _))
noncomputable def RW (u v l : Int) : Prop := 1 ≤ u ∧ u ≤ v ∧ v ≤ l
noncomputable def Zeu (m : Nat) (lo hi : MV) (ad l u v : Int) : Prop := ∀ {st}, RC (Zg m) 17 [.d (pl5 ad l), lo, hi] st (RW u v l) (.d (pl5 (ad + u - 1) (v - u + 1))) st
theorem Ztq {m : Nat} : Zeu (m + 1) (.d .none) (.d .none) ad l 1 l := fun k kx hk hn =>
 mD (fun p => hn (fun r => Int.not_le.mpr p r.2.1) _) fun p => mD (fun p => (Int.lt_irrefl _ p).elim) fun r => hk ⟨Int.le_refl 1, Int.not_lt.mp p, Int.le_refl l⟩
theorem Ztr {m : Nat} : Zeu (m + 1) (.d .none) (.d (.int v)) ad l 1 v := fun k kx hk hn =>
 mD (fun p => hn (fun r => Int.not_le.mpr p r.2.1) _) fun p => mD (fun q => hn (fun r => Int.not_le.mpr q r.2.2) _) fun r => hk ⟨Int.le_refl 1, Int.not_lt.mp p, Int.not_lt.mp r⟩
theorem Zts {m : Nat} : Zeu (m + 1) (.d (.int u)) (.d .none) ad l u l := fun k kx hk hn =>
 mD (fun p => hn (fun r => Int.not_le.mpr p r.1) _) fun p => mD (fun p => hn (fun r => Int.not_le.mpr p r.2.1) _) fun r => mD (fun p => (Int.lt_irrefl _ p).elim) fun y => hk ⟨Int.not_lt.mp p, Int.not_lt.mp r, Int.le_refl l⟩
theorem Ztt {m : Nat} : Zeu (m + 1) (.d (.int u)) (.d (.int v)) ad l u v := fun k kx hk hn =>
 mD (fun p => hn (fun r => Int.not_le.mpr p r.1) _) fun p => mD (fun p => hn (fun r => Int.not_le.mpr p r.2.1) _) fun r => mD (fun p => hn (fun r => Int.not_le.mpr p r.2.2) _) fun w => hk ⟨Int.not_lt.mp p, Int.not_lt.mp r, Int.not_lt.mp w⟩
noncomputable def Bnd (R : List PD) (k : Int) (v : MV) (x d : Int) : Prop := (k < 0 ∧ v = .d .none ∧ x = d) ∨ (0 ≤ k ∧ v = .d (.int x) ∧ Za R k = some (.int x))
theorem ZsG {m : Nat} (h1 : Bnd R lo x u 1) (h2 : Bnd R hi y v l) : Zeu (m + 1) x y ad l u v := by
 rcases h1 with ⟨_, rfl, rfl⟩ | ⟨_, rfl, _⟩ <;> rcases h2 with ⟨_, rfl, rfl⟩ | ⟨_, rfl, _⟩
 ·exact Ztq
 ·exact Ztr
 ·exact Zts
 ·exact Ztt
theorem ZsH {m : Nat} (h1 : Bnd R lo x u 1) (h2 : Bnd R hi y v l) (hp : Za R c = some (pl5 ad l)) (hg : Zaa R gl = true) (h : Zeu m x y ad l u v) :
 RC (Zg (m + 1)) 26 [.loc 10, .loc 12, .d (.tuple [.str Zfr, .int gl, .int c, .int lo, .int hi])] (Zp f g oth R N S s mo ro) (RW u v l) (.d .none) (Zp f g oth (R.set gl.toNat (pl5 (ad + u - 1) (v - u + 1))) N S s mo ro) := by
 rcases h1 with ⟨l1, rfl, rfl⟩ | ⟨l1, rfl, q1⟩ <;> rcases h2 with ⟨l2, rfl, rfl⟩ | ⟨l2, rfl, q2⟩
 ·exact fun k kx hk hn => mF (decide_eq_false (Int.not_le.mpr l1)) (mF (decide_eq_false (Int.not_le.mpr l2)) (mO (Zb hp) (h _ _ (fun p => mO (ZU hg) (hk p)) hn)))
 ·exact fun k kx hk hn => mF (decide_eq_false (Int.not_le.mpr l1)) (mT (decide_eq_true l2) (mO (Zb q2) (mO (Zb hp) (h _ _ (fun p => mO (ZU hg) (hk p)) hn))))
 ·exact fun k kx hk hn => mT (decide_eq_true l1) (mO (Zb q1) (mF (decide_eq_false (Int.not_le.mpr l2)) (mO (Zb hp) (h _ _ (fun p => mO (ZU hg) (hk p)) hn))))
 ·exact fun k kx hk hn => mT (decide_eq_true l1) (mO (Zb q1) (mT (decide_eq_true l2) (mO (Zb q2) (mO (Zb hp) (h _ _ (fun p => mO (ZU hg) (hk p)) hn)))))
theorem ZsI {m : Nat} (h1 : Bnd R lo x u 1) (h2 : Bnd R hi y v l) (hp : Za R c = some (pl5 ad l)) :
 RC (Zg (m + 2)) 49 [.loc 5, .d (.tuple [.str Zfr, .int gl, .int c, .int lo, .int hi])] (mkS f g ⟨R, N, S, s⟩ oth mo ro) (RW u v l) (.d (pl5 (ad + u - 1) (v - u + 1))) (mkS f g ⟨R, N, S, s⟩ oth mo ro) := by
 rcases h1 with ⟨l1, rfl, rfl⟩ | ⟨l1, rfl, q1⟩ <;> rcases h2 with ⟨l2, rfl, rfl⟩ | ⟨l2, rfl, q2⟩
 ·exact fun k kx hk hn => mO (Zb hp) (mT (decide_eq_true l1) (mT (decide_eq_true l2) (mD (fun p => mN (fun q => (q (Int.le_refl _)).elim) fun q => hk ⟨Int.le_refl _, p, q⟩) fun p => hn (fun r => p r.2.1) _)))
 ·exact fun k kx hk hn => mO (Zb hp) (mT (decide_eq_true l1) (mF (decide_eq_false (Int.not_lt.mpr l2)) (mO (Zb q2) (mD (fun p => mN (fun q => hn (fun r => q r.2.2) _) fun q => hk ⟨Int.le_refl _, p, q⟩) fun p => hn (fun r => p r.2.1) _))))
 ·exact fun k kx hk hn => mO (Zb hp) (mF (decide_eq_false (Int.not_lt.mpr l1)) (mO (Zb q1) (mT (decide_eq_true l2) (mD (fun o => mD (fun p => mN (fun q => (q (Int.le_refl _)).elim) fun q => hk ⟨o, p, q⟩) fun p => hn (fun r => p r.2.1) _) fun o => hn (fun r => o r.1) _))))
 ·exact fun k kx hk hn => mO (Zb hp) (mF (decide_eq_false (Int.not_lt.mpr l1)) (mO (Zb q1) (mF (decide_eq_false (Int.not_lt.mpr l2)) (mO (Zb q2) (mD (fun o => mD (fun p => mN (fun q => hn (fun r => q r.2.2) _) fun q => hk ⟨o, p, q⟩) fun p => hn (fun r => p r.2.1) _) fun o => hn (fun r => o r.1) _)))))
theorem Pl.cut (h : Pl ad l) (r : RW u v l) : Pl (ad + u - 1) (v - u + 1) := by
 obtain ⟨A, L, rfl, rfl, h1, h4, h8⟩ := h
 obtain ⟨i, rfl⟩ := Int.le.dest r.1
 obtain ⟨j, rfl⟩ := Int.le.dest r.2.1
 have hj : 1 + i + j ≤ L := Int.ofNat_le.mp r.2.2
 refine ⟨A + i, j + 1, ?_, ?_, Nat.le_add_left 1 j, ?_, ?_⟩
 ·rw [Int.add_comm 1 (i : Int), ← Int.add_assoc, Int.add_sub_cancel]; rfl
 ·rw [Int.add_comm, Int.add_comm (1 + (i : Int)), Int.add_sub_cancel]; exact Int.add_comm 1 _
 ·exact Nat.le_trans (Nat.add_comm j 1 ▸ Nat.add_le_add_right (Nat.le_add_right 1 i) j) (Nat.le_trans hj h4)
 ·rw [Nat.add_assoc, ← Nat.add_assoc i, Nat.add_comm (i + j), ← Nat.add_assoc 1 i j]; exact Nat.le_trans (Nat.add_le_add_left hj A) h8
theorem Cx.bnd (X : Cx mo ro n t s a) (h : k < 0 ∨ I3 k) (d : Int) : ∃ v x, Bnd a.regs k v x d := by
 rcases h with h | h
 ·exact ⟨_, d, .inl ⟨h, rfl, rfl⟩⟩
 ·obtain ⟨x, hx, _⟩ := X.h.read h
  exact ⟨_, x, .inr ⟨h.1, rfl, hx⟩⟩
theorem ZsJ (X : Cx mo ro n t s a) (hl : lo < 0 ∨ I3 lo) (hh : hi < 0 ∨ I3 hi) (h0 : Za ro t = some (.tuple [.str Zfr, .int 7, .int 7, .int lo, .int hi])) : Zo mo ro n t s a := by
 obtain ⟨x, u, b1⟩ := X.bnd hl 1
 obtain ⟨y, v, b2⟩ := X.bnd hh a.l7
 have g : 0 ≤ (7 : Int) ∧ (7 : Int) ≤ 10 := ⟨by decide, by decide⟩
 exact X.val (k := 26) h0 g (fun p => X.h.put7 (X.h.pl.cut p)) (fun f g' oth => ZsH (m := 8) b1 b2 rfl (ZV g) (ZsG b1 b2)) (fun f g oth => ZsI (m := 8) b1 b2 rfl)
theorem ZgO (X : Cx mo ro n t s a) (hg : I3 gl) (hb : Za a.regs b = some (.tuple [x, y, .int l, z])) (hl : Bd l) (h0 : Za ro t = some (.tuple [.str ZgM, .int gl, .int b])) : Zo mo ro n t s a :=
 X.val (k := 27) h0 hg.ten (fun u => X.h.putI hg hl) (fun f g oth k kx hk u => mO (Zb hb) (mO (ZU (ZV hg.ten)) (hk trivial))) (fun f g oth k kx hk u => mO (Zb hb) (hk trivial))
noncomputable def Zd1 : Str := ⟨#[108, 111, 97, 100]⟩
noncomputable def Zc7 : Str := ⟨#[115, 116, 111, 114, 101]⟩
theorem mR {L : Nat → List (Nat × PD) → St → Prop} {K : β → St → Prop} (h : r = .ok v st) (g : K v st) : (match (motive := RV β → Prop) r with | .ok v st => K v st | .ex c fs st => L c fs st | .no => False) := by subst h; exact g
theorem Zrb {k : Int} (h0 : 0 ≤ k) (h1 : k ≤ 8) : ∃ m : Nat, k = m ∧ m ≤ 8 := by
 obtain ⟨m, rfl⟩ := Int.eq_ofNat_of_zero_le h0
 exact ⟨m, rfl, Int.ofNat_le.mp h1⟩
theorem ZgP {R : List PD} {k : Nat} (h : k < R.length) (hR : R.length ≤ 8) : Zaa R k = true :=
 Bool.and_eq_true_iff.mpr ⟨Bool.and_eq_true_iff.mpr ⟨decide_eq_true (Int.natCast_nonneg k), Zs (Nat.le_trans (Nat.le_of_lt h) (Nat.le_trans hR (by decide)))⟩, decide_eq_true (Int.ofNat_lt.mpr h)⟩
theorem Zdx {R : List PD} {k : Nat} (h : R[k]? = some x) (hk : k ≤ 8) : Za R k = some x :=
 (if_pos (Bool.and_eq_true_iff.mpr ⟨decide_eq_true (Int.natCast_nonneg k), Zs (Nat.le_trans hk (by decide))⟩)).trans h
theorem Inv.nlen (h : Inv a s) : a.nums.length = 6 := by rw [AS.nums, List.length_append, List.length_map, h.nl]; rfl
theorem Inv.slen (h : Inv a s) : a.sgs.length = 8 := List.length_map _ |>.trans h.sl
inductive Cell (a : AS) : Prop
 | mk (k : Nat) (o : Option Int) (e : a.a6.toNat = k) (k5 : k < 5) (ho : o ∈ a.nn) (hc : Za a.nums a.a6 = some (cN o)) (hn : Zaa a.nums a.a6 = true) (l1 : ¬ a.a6 < 0) (l2 : ¬ a.a6 + 1 > (6 : Nat))
theorem Inv.cell (h : Inv a s) : Cell a := by
 obtain ⟨k, e, hk⟩ := Zrb h.a6.1 (Int.le_trans h.a6.2 (by decide))
 have k5 : k < 5 := Int.ofNat_lt.mp (Int.lt_add_one_of_le (e ▸ h.a6.2 : (k : Int) ≤ 4))
 have kl : k < a.nn.length := h.nl ▸ k5
 have c : Za a.nums k = some (cN a.nn[k]) := Zdx (by rw [AS.nums, List.getElem?_append_left (by rw [List.length_map]; exact kl), List.getElem?_map, List.getElem?_eq_getElem kl]; rfl) hk
 have n : Zaa a.nums k = true := ZgP (h.nlen ▸ Nat.lt_succ_of_lt k5) (h.nlen ▸ by decide)
 exact ⟨k, a.nn[k], by rw [e]; rfl, k5, List.getElem_mem kl, e ▸ c, e ▸ n, Int.not_lt.mpr h.a6.1, Int.not_lt.mpr (Int.add_le_add_right (Int.le_trans h.a6.2 (by decide : (4 : Int) ≤ 5)) 1)⟩
theorem Zpn {m : Nat} (h : st[7]? = some (.list N)) (hN : N.length = 6) (hc : Za N ad = some (cN o)) (l1 : ¬ ad < 0) (l2 : ¬ ad + 1 > (6 : Nat)) : RC (Zg (m + 2)) 10 [.loc 7, .d (.int 0), .d (.int ad)] st (o.isSome = true) (.d (.int (o.getD 0))) st := by
 cases o with
 | none => exact fun k kx hk hn => mF (decide_eq_false l1) (mO (ZcQ hN rfl h) (mF (decide_eq_false l2) (mO (Zb hc h) (hn (fun q => nomatch q) _))))
 | some x => exact fun k kx hk hn => mF (decide_eq_false l1) (mO (ZcQ hN rfl h) (mF (decide_eq_false l2) (mO (Zb hc h) (hk rfl))))
theorem Zpo {m : Nat} (h5 : ∀ {w v}, ZaM (mkS f g ⟨R, N, S, s⟩ oth mo ro) (.loc 5) (.d (.str w)) = some v → ZaM st (.loc 5) (.d (.str w)) = some v) (h : st[3]? = some (.list N)) (hc : Za N ad = some (cN o)) : RC (Zg (m + 1)) 51 [.loc 5, .d (pl0 ad)] st (o.isSome = true) (.d (.int (o.getD 0))) st := by
 cases o with
 | none => exact fun k kx hk hn => mO (h5 rfl) (mO (Zb hc h) (hn (fun q => nomatch q) _))
 | some x => exact fun k kx hk hn => mO (h5 rfl) (mO (Zb hc h) (hk rfl))
theorem Zrc {m : Nat} {y z : PD} (hb : Za R b = some z) (hg : Zaa R gl = true) (h : RC (Zg m) 63 [.loc 6, .d z] (Zp f g oth R N S s mo ro) P (.d y) (Zp f g oth R N S s mo ro)) :
 RC (Zg (m + 1)) 28 [.loc 10, .loc 12, .d (.tuple [.str Zd1, .int gl, .int b])] (Zp f g oth R N S s mo ro) P (.d .none) (Zp f g oth (R.set gl.toNat y) N S s mo ro) :=
 fun k kx hk hn => mO (Zb hb) (h _ _ (fun p => mO (ZU hg) (hk p)) hn)
theorem Zrd {m : Nat} {y z : PD} (hb : Za R b = some z) (h : RC (Zg m) 51 [.loc 5, .d z] (mkS f g ⟨R, N, S, s⟩ oth mo ro) P (.d y) (mkS f g ⟨R, N, S, s⟩ oth mo ro)) :
 RC (Zg (m + 1)) 49 [.loc 5, .d (.tuple [.str Zd1, .int gl, .int b])] (mkS f g ⟨R, N, S, s⟩ oth mo ro) P (.d y) (mkS f g ⟨R, N, S, s⟩ oth mo ro) :=
 fun k kx hk hn => mO (Zb hb) (h _ _ hk hn)
theorem Zpp {m : Nat} {y : MV} (h : RC (Zg m) 10 [.loc 7, .d (.int 0), .d (.int ad)] (Zp f g oth R N S s mo ro) P y (Zp f g oth R N S s mo ro)) :
 RC (Zg (m + 1)) 63 [.loc 6, .d (pl0 ad)] (Zp f g oth R N S s mo ro) P y (Zp f g oth R N S s mo ro) := fun k kx hk hn => h _ _ hk hn
theorem Zre (X : Cx mo ro n t s a) (hg : I3 gl) (h0 : Za ro t = some (.tuple [.str Zd1, .int gl, .int 6])) : Zo mo ro n t s a := by
 obtain ⟨k, o, e, k5, ho, hc, hn, l1, l2⟩ := X.h.cell
 refine X.val (k := 28) (P := o.isSome = true) (y := .int (o.getD 0)) h0 hg.ten (fun p => X.h.putI hg ?_) (fun f g oth => Zrc (m := 8) rfl (ZV hg.ten) (Zpp (m := 7) (Zpn (m := 5) rfl X.h.nlen hc l1 l2)))
  (fun f g oth => Zrd (m := 9) rfl (Zpo (m := 8) id rfl hc))
 cases o with
 | none => cases p
 | some x => exact X.h.nb x ho
theorem ZmE (h : Inv a s) (hk : k < 5) (e : j = k) (hv : Bd v) : ZgJ a s (a.nums.set j (.tuple [.int 0, .int v])) a.sgs := by
 subst e
 have hl : j < (a.nn.map cN).length := by rw [List.length_map, h.nl]; exact hk
 refine ⟨{ a with nn := a.nn.set j (some v) }, rfl, ?_, rfl, { h.more with nl := (List.length_set ..).trans h.nl, nb := fun x hx => ?_ }⟩
 ·show (a.nn.set j (some v)).map cN ++ _ = _
  rw [List.map_set]; exact (List.set_append_left j _ hl).symm
 ·rcases List.mem_or_eq_of_mem_set hx with hx | e
  ·exact h.nb x hx
  ·cases e; exact hv
theorem Zpq {m : Nat} {z y : PD} (hp : Za R c = some z) (hb : Za R b = some y) (h : RC (Zg m) 64 [.loc 6, .d z, .d y] (Zp f g oth R N S s mo ro) True (.d .none) (Zp f g oth R N' S' s mo ro)) :
 RC (Zg (m + 1)) 29 [.loc 10, .loc 12, .d (.tuple [.str Zc7, .int c, .int b])] (Zp f g oth R N S s mo ro) True (.d .none) (Zp f g oth R N' S' s mo ro) :=
 fun k kx hk hn => mO (Zb hp) (mO (Zb hb) (h _ _ hk hn))
theorem ZmF {m : Nat} (hN : N.length = 6) (hn : Zaa N ad = true) (l1 : ¬ ad < 0) (l2 : ¬ ad + 1 > (6 : Nat)) :
 RC (Zg (m + 3)) 64 [.loc 6, .d (pl0 ad), .d y] (Zp f g oth R N S s mo ro) True (.d .none) (Zp f g oth R (N.set ad.toNat (.tuple [.int 0, y])) S s mo ro) :=
 fun k kx hk z => mF (decide_eq_false l1) (mO (ZcQ hN rfl) (mF (decide_eq_false l2) (mO (ZU hn) (hk trivial))))
theorem Zpr (X : Cx mo ro n t s a) (hb : I3 b) (h0 : Za ro t = some (.tuple [.str Zc7, .int 6, .int b])) : Zo mo ro n t s a := by
 obtain ⟨x, hx, bx⟩ := X.h.read hb
 obtain ⟨k, o, e, k5, ho, hc, hn, l1, l2⟩ := X.h.cell
 exact X.nxt (k := 29) (v := .d .none) h0 (fun y => ⟨ZmE X.h k5 e bx, X.one⟩)
  (fun f g oth => Zpq (m := 8) rfl hx (ZmF (m := 5) X.h.nlen hn l1 l2))
  (fun f g oth k kx hk y => mO (Zb hx) (mO (ZU hn) (hk trivial)))
noncomputable def Zjm : Str := ⟨#[115, 101, 116, 108, 97, 98, 101, 108]⟩
theorem Zcu (X : Cx mo ro n t s a) {v : Int} (hq : v = 10 ∨ v = 20 ∨ v = 30) (h0 : Za ro t = some (.tuple [.str Zjm, .int 10, .int v])) : Zo mo ro n t s a := by
 have hn : Zaa a.nums (5 : Nat) = true := ZgP (X.h.nlen ▸ by decide) (X.h.nlen ▸ by decide)
 have hp : ZgJ a s (a.nums.set 5 (.tuple [.int 7, .int v])) a.sgs := by
  refine ⟨{ a with q5 := some v }, rfl, ?_, rfl, { X.h.more with q5 := .inr (hq.imp (congrArg some) (Or.imp (congrArg some) (congrArg some))) }⟩
  show a.nn.map cN ++ _ = (a.nn.map cN ++ _).set 5 _
  rw [List.set_append_right 5 _ (by rw [List.length_map, X.h.nl]; exact Nat.le_refl 5), List.length_map, X.h.nl]; rfl
 exact X.nxt (k := 30) (v := .d .none) h0 (fun y => ⟨hp, X.one⟩) (fun f g oth k kx hk y => mO (ZU hn) (hk trivial)) (fun f g oth k kx hk y => mO (ZU hn) (hk trivial))
theorem ZkS (os : List (Option Nat)) (h : ∀ o ∈ os, ChO o) : PyData.canLayAll0 (os.map cS) = true ∧ PyData.depthAll (os.map cS) = 0 := by
 induction os with
 | nil => exact ⟨rfl, rfl⟩
 | cons o r ih =>
  obtain ⟨h1, h2⟩ := ih fun o ho => h o (List.mem_cons_of_mem _ ho)
  have ho : ChO o := h o List.mem_cons_self
  cases o with
  | none => exact ⟨h1, (congrArg (max 0) h2)⟩
  | some c => exact ⟨Bool.and_eq_true_iff.mpr ⟨Asc.ok (x := ⟨#[c]⟩) fun d hd => lS9.mp hd ▸ ho c rfl, h1⟩, congrArg (max 0) h2⟩
theorem Zps (os : List (Option Nat)) (h : ∀ o ∈ os, ChO o) : inD (.d .none) (.d (.list (os.map cS))) = some (os.any Option.isNone) := by
 obtain ⟨h1, h2⟩ := ZkS os h
 have hs : (shp .none && shp (.list (os.map cS))) = true := Bool.and_eq_true_iff.mpr ⟨rfl, Bool.and_eq_true_iff.mpr ⟨h1, decide_eq_true (show PyData.depthAll (os.map cS) + 1 ≤ 16 by rw [h2]; decide)⟩⟩
 refine (if_pos hs).trans ?_
 rw [List.any_map]
 exact congrArg some (congrArg (List.any os) (funext fun o => by cases o <;> rfl))
theorem join_some (os : List (Option Nat)) (h : ∀ o ∈ os, ChO o) (hn : os.any Option.isNone = false) : ∃ v, ZaI (os.map cS) = some v ∧ v.length = os.length ∧ Asc v := by
 induction os with
 | nil => exact ⟨⟨#[]⟩, rfl, rfl, fun c hc => nomatch hc⟩
 | cons o r ih =>
  cases o with
  | none => cases hn
  | some c =>
   obtain ⟨v, h1, h2, h3⟩ := ih (fun o ho => h o (List.mem_cons_of_mem _ ho)) hn
   refine ⟨⟨#[c]⟩ ++ v, congrArg (Option.map fun y => (⟨#[c]⟩ : Str) ++ y) h1, ?_, Asc.app (fun d hd => lS9.mp hd ▸ h _ List.mem_cons_self c rfl) h3⟩
   rw [Zc6, h2]; exact Nat.add_comm 1 _
theorem ZkT (h : inD (.d .none) (.d (.list T)) = some r) (ha : u = .d .none := by exact rfl) (hb : v = .d (.list T) := by exact rfl) : Zt .In st u v = some r := by
 subst ha hb; exact h
theorem ZgQ (hj : ZaI T = some v) (hf : (Zc v.length && Zc T.length) = true) (ho : ov = .d (.str ⟨#[]⟩) := by exact rfl) (ha : b = 5 := by exact rfl) (has : as = [.d (.list T)] := by exact rfl) : ZC ov b as st = .ok (.d (.str v)) st := by
 subst ho ha has
 show (if 5 = 5 ∧ (0 : Nat) = 0 then (match ZaI T with
  | some y => if Zc y.length && Zc T.length then RV.ok (MV.d (.str y)) st else .no
  | none => .no) else .no) = _
 rw [if_pos ⟨rfl, rfl⟩, hj]
 exact if_pos hf
noncomputable def bOk (k : Int) : Bool := decide (0 ≤ k) && Zc k.toNat
theorem ZcR (h : bOk k = true) : ZW d (some (.d (.int k))) = some k.toNat := if_pos h
theorem Zic (hT : (S.take v.toNat).drop u.toNat = T) (ha : bOk u = true) (hb : bOk v = true) (hf : Zc S.length = true) (h : st[l]? = some (.list S) := by exact rfl) : ZY st (.loc l) (some (.d (.int u))) (some (.d (.int v))) = some (.list T) := by
 subst hT
 show (match asD st (.loc l) with | some (.list xs) => (ZW 0 (some (.d (.int u)))).bind fun l => (ZW xs.length (some (.d (.int v)))).bind fun h => if Zc xs.length then some (PyData.list ((xs.take h).drop l)) else none | some (.tuple xs) => _ | some (.str x) => _ | _ => none) = _
 rw [Zd9 h, ZcR ha]
 show ((ZW S.length (some (.d (.int v)))).bind fun h => if Zc S.length then some (PyData.list ((S.take h).drop u.toNat)) else none) = _
 rw [ZcR hb]
 exact if_pos hf
inductive Plc (a : AS) : Prop
 | mk (A L : Nat) (e : a.a7.toNat = A) (e' : (a.a7 + a.l7).toNat = A + L) (el : a.l7 = L) (h1 : 1 ≤ L) (h4 : L ≤ 4) (h8 : A + L ≤ 8) (b1 : bOk a.a7 = true) (b2 : bOk (a.a7 + a.l7) = true) (l1 : ¬ a.a7 < 0) (l2 : ¬ a.a7 + a.l7 > (8 : Nat))
theorem Zc8 {k : Nat} (h : k ≤ 8) : bOk k = true := Bool.and_eq_true_iff.mpr ⟨decide_eq_true (Int.natCast_nonneg k), Zs (Nat.le_trans h (by decide))⟩
theorem Inv.plc (h : Inv a s) : Plc a := by
 obtain ⟨A, L, e, el, h1, h4, h8⟩ := h.pl
 exact ⟨A, L, by rw [e]; rfl, by rw [e, el]; rfl, el, h1, h4, h8, e ▸ Zc8 (Nat.le_trans (Nat.le_add_right A L) h8), by rw [e, el]; exact Zc8 (k := A + L) h8, by rw [e]; exact Int.not_lt.mpr (Int.natCast_nonneg A), by rw [e, el]; exact Int.not_lt.mpr (Int.ofNat_le.mpr h8)⟩
theorem Zrf (h : Inv a s) : Zc a.sgs.length = true := h.slen ▸ rfl
theorem Zpt (X : Cx mo ro n t s a) (hg : gl = 3 ∨ gl = 4) (h0 : Za ro t = some (.tuple [.str Zd1, .int gl, .int 7])) : Zo mo ro n t s a := by
 have g : 0 ≤ gl ∧ gl ≤ 10 := by rcases hg with rfl | rfl <;> decide
 obtain ⟨A, L, e, e', el, h1, h4, h8, b1, b2, l1, l2⟩ := X.h.plc
 have hT : (a.sgs.take (a.a7 + a.l7).toNat).drop a.a7.toNat = ((a.sg.take (A + L)).drop A).map cS := by rw [AS.sgs, List.map_drop, List.map_take, e, e']
 have hch : ∀ o ∈ (a.sg.take (A + L)).drop A, ChO o := fun o ho => X.h.sc o (List.mem_of_mem_take (List.mem_of_mem_drop ho))
 have hlen : ((a.sg.take (A + L)).drop A).length ≤ 4 := by
  rw [List.length_drop, List.length_take]; exact Nat.le_trans (Nat.sub_le_of_le_add (Nat.le_trans (Nat.min_le_left _ _) (Nat.le_of_eq (Nat.add_comm _ _)))) h4
 generalize (a.sg.take (A + L)).drop A = os at hT hch hlen
 have hin := Zps os hch
 have : ∃ v, (os.any Option.isNone = false → ZaI (os.map cS) = some v ∧ Asc v) ∧ v.length ≤ 4 ∧ (Zc v.length && Zc (os.map cS).length) = true := by
  have f4 := Zs (Nat.le_trans hlen (by decide))
  cases hn : os.any Option.isNone with
  | true => exact ⟨⟨#[]⟩, (nomatch ·), by decide, by rw [List.length_map, f4]; rfl⟩
  | false =>
   obtain ⟨v, hj, hl, hc⟩ := join_some os hch hn
   exact ⟨v, fun z => ⟨hj, hc⟩, hl ▸ hlen, by rw [List.length_map, hl, f4]; rfl⟩
 obtain ⟨v, hv, hl, hf⟩ := this
 exact X.val (k := 28) (y := .str v) h0 g (fun p => X.h.put34 X.hs hg hl (hv p).2)
  (fun f g' oth k kx hk hn => mF (decide_eq_false l1) (mO (ZcQ X.h.slen rfl) (mF (decide_eq_false l2) (mO (Zic hT b1 b2 (Zrf X.h)) (mO (ZkT hin) (mB (fun q => hn (fun p => nomatch q.symm.trans p) _) fun p => mR (ZgQ (hv p).1 hf) (mO (ZU (ZV g)) (hk p))))))))
  (fun f g oth k kx hk hn => mO (Zic hT b1 b2 (Zrf X.h)) (mO (ZkT hin) (mB (fun q => hn (fun p => nomatch q.symm.trans p) _) fun p => mR (ZgQ (hv p).1 hf) (hk p))))
noncomputable def Zjn : CB → CB
 | .cons (.fr _ _ b _) _ => b
 | .cons _ r => Zjn r
 | .nil => .nil
noncomputable def pS (sg : List (Option Nat)) (A : Nat) (p : List Nat) (j : Nat) : List (Option Nat) := sg.take A ++ ((p.take j).map some ++ sg.drop (A + j))
theorem ZkU (h : A + j ≤ sg.length) (hj : j ≤ p.length) : (pS sg A p j).length = sg.length := by
 rw [pS, List.length_append, List.length_append, List.length_map, List.length_take, List.length_take, List.length_drop, Nat.min_eq_left hj, Nat.min_eq_left (Nat.le_trans (Nat.le_add_right A j) h), ← Nat.add_assoc]
 exact Nat.add_sub_of_le h
theorem Zrg {p : List Nat} (h : A + j < sg.length) (hj : p[j]? = some c) : (pS sg A p j).set (A + j) (some c) = pS sg A p (j + 1) := by
 have lj : j < p.length := (List.getElem?_eq_some_iff.mp hj).1
 have lA : (sg.take A).length = A := List.length_take_of_le (Nat.le_trans (Nat.le_add_right A j) (Nat.le_of_lt h))
 have lp : ((p.take j).map some).length = j := by rw [List.length_map]; exact List.length_take_of_le (Nat.le_of_lt lj)
 rw [pS, List.set_append_right (A + j) _ (by rw [lA]; exact Nat.le_add_right A j), lA, Nat.add_sub_cancel_left, List.set_append_right j _ (Nat.le_of_eq lp), lp, Nat.sub_self, List.drop_eq_getElem_cons h, List.set_cons_zero, pS, List.take_add_one, hj, List.map_append, List.append_assoc]
 rfl
theorem Zpu {p : List Nat} {k : Nat} (hj : p[k]? = some c) (hk : k ≤ 8) (hv : v = .d (.str ⟨p.toArray⟩) := by exact rfl) (hi : i = .d (.int k) := by exact rfl) : ZaM st v i = some (.d (.str ⟨#[c]⟩)) := by
 subst hv hi
 refine (if_pos (Bool.and_eq_true_iff.mpr ⟨decide_eq_true (Int.natCast_nonneg k), Zs (Nat.le_trans hk (by decide))⟩)).trans ?_
 show (p[k]?).map _ = _
 rw [hj]; rfl
theorem Zpv {sg : List (Option Nat)} {A : Nat} {ad : Int} {p : List Nat} {R N : List PD} (hA : ad = A) (hl : A + p.length ≤ 8) (hs : sg.length = 8)
 (hk : ∀ o, kk [some (.loc 8), some (.d (.int ad)), some (.d (.str ⟨p.toArray⟩)), o] (Zp f g oth R N ((pS sg A p p.length).map cS) s mo ro)) :
 ∀ (n j : Nat) (o : Option MV), j + n = p.length → Zcs (.nm 3 q0) (fun ρ st k => ZX C (Zjn Zcy) X ρ st k) ((List.range' j n).map fun j : Nat => .int (j : Int)) [some (.loc 8), some (.d (.int ad)), some (.d (.str ⟨p.toArray⟩)), o] (Zp f g oth R N ((pS sg A p j).map cS) s mo ro) kk := by
 intro n
 induction n with
 | zero => intro j o e; cases e; exact hk o
 | succ n ih =>
  intro j o e
  have lj : j < p.length := Nat.lt_of_lt_of_le (Nat.lt_add_of_pos_right (Nat.succ_pos n)) (Nat.le_of_eq e)
  have hj : p[j]? = some p[j] := List.getElem?_eq_getElem lj
  have l8 : A + j < sg.length := hs ▸ Nat.lt_of_lt_of_le (Nat.add_lt_add_left lj A) hl
  have hlen : ((pS sg A p j).map cS).length = 8 := by rw [List.length_map, ZkU (Nat.le_of_lt l8) (Nat.le_of_lt lj), hs]
  have hx : Zaa ((pS sg A p j).map cS) (ad + (j : Int)) = true := hA ▸ ZgP (k := A + j) (by rw [hlen, ← hs]; exact l8) (Nat.le_of_eq hlen)
  have ht : (ad + (j : Int)).toNat = A + j := hA ▸ rfl
  have eS : ((pS sg A p j).map cS).set (ad + (j : Int)).toNat (.str ⟨#[p[j]]⟩) = (pS sg A p (j + 1)).map cS := by rw [ht, ← Zrg l8 hj, List.map_set]; rfl
  refine mO (Zpu hj (Nat.le_of_lt (Nat.lt_of_lt_of_le lj (Nat.le_trans (Nat.le_add_left _ A) hl)))) ?_
  refine mO (ZU hx) ?_
  rw [eS]
  exact ih (j + 1) _ ((Nat.succ_add_eq_add_succ j n).trans e)
theorem ZcS (e : ∀ st, ZY st x l h = some y) (hx : z = x := by exact rfl) (h1 : lo = l := by exact rfl) (h2 : hi = h := by exact rfl) : ZY st z lo hi = some y := by
 subst hx h1 h2; exact e st
theorem Za6 (e : ZE o u v = some r) (h1 : c = u := by exact rfl) (h2 : d = v := by exact rfl) : ZE o c d = some r := by
 subst h1 h2; exact e
theorem len_str (hf : Zc x.length = true) (ha : as = [.d (.str x)] := by exact rfl) : Zaf .len st as = some (.d (.int x.length)) := by
 subst ha; rw [ZnA, if_pos hf]
theorem Zid (e : ∀ st, Zaf b st [x] = some y) (h : as = [x] := by exact rfl) : Zaf b st as = some y := by
 subst h; exact e st
inductive Pad (x : Str) (L : Nat) : Prop
 | mk (p : List Nat) (u v z : Str) (hp : p.length = L) (hc : ∀ c ∈ p, c < 128)
  (k1 : ∀ st, ZY st (.d (.str x)) none (some (.d (.int L))) = some (.str u)) (k2 : ZE .Mult (.str ⟨#[32]⟩) (.int (L - (x.length : Int))) = some (.str v)) (k3 : ZE .Add (.str u) (.str v) = some (.str ⟨p.toArray⟩))
  (k4 : ZE .Add (.str x) (.str ⟨#[32, 32, 32, 32]⟩) = some (.str z)) (k5 : ∀ st, ZY st (.d (.str z)) none (some (.d (.int L))) = some (.str ⟨p.toArray⟩)) (k6 : ∀ st, Zaf .list st [.d (.str ⟨p.toArray⟩)] = some (.d (.list ((p.map some).map cS))))
theorem slS {L : Nat} (hL : L ≤ 8) (hf : Zc x.length = true) : ZY st (.d (.str x)) none (some (.d (.int L))) = some (.str ⟨(x.cps.toList.take L).toArray⟩) := by
 show Option.bind (ZW 0 (some (.d (.int L)))) _ = _
 rw [ZcR (Zc8 hL)]
 exact if_pos hf
theorem Zpw (n : Nat) : Zdh ⟨#[32]⟩ n = ⟨(List.replicate n 32).toArray⟩ := by
 unfold Zdh
 congr 2
 induction n with
 | zero => rfl
 | succ n ih => rw [List.replicate_succ, List.replicate_succ, List.flatten_cons, ih]; rfl
theorem Zrh {L : Nat} (hc : Asc x) (hl : x.length ≤ 4000) (h4 : L ≤ 4) : Pad x L := by
 have hL : x.length = x.cps.toList.length := Array.length_toList.symm
 have L8 : L ≤ 8 := Nat.le_trans h4 (by decide)
 have hlen : (x.cps.toList.take L ++ List.replicate (L - x.cps.toList.length) 32).length = L := by
  rw [List.length_append, List.length_take, List.length_replicate, Nat.add_comm]; exact Nat.sub_add_min_cancel L _
 have hch : ∀ c ∈ x.cps.toList.take L ++ List.replicate (L - x.cps.toList.length) 32, c < 128 := by
  intro c hc'
  rcases lA9.mp hc' with h | h
  ·exact hc c (List.mem_of_mem_take h)
  ·rw [List.eq_of_mem_replicate h]; decide
 have hz : (x ++ ⟨#[32, 32, 32, 32]⟩ : Str).length = x.length + 4 := Zc6
 have en : ((L : Int) - x.length).toNat = L - x.cps.toList.length := hL ▸ Int.toNat_sub L x.length
 refine ⟨_, _, ⟨(List.replicate (L - x.cps.toList.length) 32).toArray⟩, _, hlen, hch, fun st => slS L8 (Zs (Nat.le_trans hl (by decide))), ?_, ?_, ZdZ (Zs (Nat.add_le_add hl (by decide : (⟨#[32, 32, 32, 32]⟩ : Str).length ≤ 96))), fun st => (slS L8 (Zs (hz ▸ Nat.add_le_add hl (by decide : 4 ≤ 96)))).trans ?_, fun st => ?_⟩
 ·have b1 : -4000 ≤ (L : Int) - x.length := Int.le_trans (Int.neg_le_neg (Int.ofNat_le.mpr hl)) (Int.sub_eq_add_neg ▸ Int.le_add_of_nonneg_left (Int.natCast_nonneg L))
  have b2 : (L : Int) - x.length ≤ (4 : Nat) := Int.le_trans (Int.sub_le_self _ (Int.natCast_nonneg _)) (Int.ofNat_le.mpr h4)
  rw [ZpU, if_pos, en, Zpw]
  exact Bool.and_eq_true_iff.mpr ⟨rfl, Bool.and_eq_true_iff.mpr ⟨Bool.and_eq_true_iff.mpr ⟨decide_eq_true (Int.le_trans (by decide) b1), decide_eq_true (Int.le_trans b2 (by decide))⟩, Zs (Nat.le_trans (Int.toNat_le.mpr b2) (by decide))⟩⟩
 ·have e4 : ((⟨(x.cps.toList.take L).toArray⟩ : Str) ++ (⟨(List.replicate (L - x.cps.toList.length) 32).toArray⟩ : Str)) = ⟨(x.cps.toList.take L ++ List.replicate (L - x.cps.toList.length) 32).toArray⟩ := congrArg Str.mk (List.append_toArray _ _)
  rw [← e4]
  refine ZdZ (Zs ?_)
  rw [← Zc6, e4]
  exact Nat.le_trans (Nat.le_of_eq hlen) (Nat.le_trans h4 (by decide))
 ·have e : (x ++ ⟨#[32, 32, 32, 32]⟩ : Str).cps.toList = x.cps.toList ++ List.replicate 4 32 := Array.toList_append
  rw [e, List.take_append, List.take_replicate, Nat.min_eq_left (Nat.le_trans (Nat.sub_le L _) h4)]
 ·have e5 : (Zc (Str.length ⟨(x.cps.toList.take L ++ List.replicate (L - x.cps.toList.length) 32).toArray⟩) && (Str.mk (x.cps.toList.take L ++ List.replicate (L - x.cps.toList.length) 32).toArray).cps.all (· < 128)) = true :=
   Bool.and_eq_true_iff.mpr ⟨Zs (Nat.le_trans (Nat.le_of_eq hlen) (Nat.le_trans h4 (by decide))), Array.all_eq_true_iff_forall_mem.mpr fun c hc' => decide_eq_true (hch c (List.mem_toArray.mp hc'))⟩
  rw [Zlg, if_pos e5, List.map_map]; rfl
theorem ZsK {m : Nat} {p : List Nat} (k1 : ∀ st, ZY st (.d (.str x)) none (some (.d (.int l))) = some (.str u)) (hx : Zc x.length = true) (k2 : ZE .Mult (.str ⟨#[32]⟩) (.int (l - (x.length : Int))) = some (.str v)) (k3 : ZE .Add (.str u) (.str v) = some (.str ⟨p.toArray⟩)) :
 RC (Zg (m + 1)) 14 [.d (.str x), .d (.int l)] st True (.d (.str ⟨p.toArray⟩)) st :=
 fun k kx hk y => mO (ZcS k1) (mO (len_str hx) (mO (Za6 k2) (mO (Za6 k3) (hk trivial))))
theorem Zri {m : Nat} {sg : List (Option Nat)} {A : Nat} {ad : Int} {p : List Nat} {R N : List PD} (hA : ad = A) (hl : A + p.length ≤ 8) (hs : sg.length = 8) :
 RC (Zg (m + 2)) 13 [.loc 8, .d (.int ad), .d (.str ⟨p.toArray⟩)] (Zp f g oth R N (sg.map cS) s mo ro) True (.d .none) (Zp f g oth R N ((pS sg A p p.length).map cS) s mo ro) := by
 intro k kx hk _
 have lp : (⟨p.toArray⟩ : Str).length = p.length := rfl
 have l1 : ¬ ad < 0 := hA ▸ Int.not_lt.mpr (Int.natCast_nonneg A)
 have l2 : ¬ ad + ((⟨p.toArray⟩ : Str).length : Int) > (8 : Nat) := hA ▸ Int.not_lt.mpr (Int.ofNat_le.mpr hl)
 have p8 : p.length ≤ 8 := Nat.le_trans (Nat.le_add_left _ A) hl
 have hf : Zc (⟨p.toArray⟩ : Str).length = true := Zs (Nat.le_trans p8 (by decide))
 have e0 : sg.map cS = (pS sg A p 0).map cS := congrArg (List.map cS) (List.take_append_drop A sg).symm
 refine mO (len_str hf) ?_
 refine mF (decide_eq_false l1) ?_
 refine mO (ZcQ ((List.length_map _).trans hs) rfl) ?_
 refine mF (decide_eq_false l2) ?_
 refine mO (len_str hf) ?_
 refine mT (Zc8 p8) ?_
 show Zcs _ _ ((List.range p.length).map _) _ _ _
 rw [List.range_eq_range', e0]
 exact Zpv hA hl hs (fun o => hk trivial) p.length 0 _ (Nat.zero_add _)
theorem Zrj (ha : bOk u = true) (hb : bOk v = true) (e : u.toNat = A) (e' : v.toNat = A + ys.length) (hl : A + ys.length ≤ S.length) (h8 : S.length ≤ 8) (h : st[l]? = some (.list S) := by exact rfl) :
 Zae st (.loc l) (some (.d (.int u))) (some (.d (.int v))) (.d (.list ys)) = some (st.set l (.list (S.take A ++ (ys ++ S.drop (A + ys.length))))) := by
 show (match st[l]? with
  | some (.list xs) => (ZW 0 (some (.d (.int u)))).bind fun a => (ZW xs.length (some (.d (.int v)))).bind fun b => if (decide (a ≤ b) && decide (b ≤ xs.length) && decide (ys.length = b - a) && Zc xs.length) then some (st.set l (.list (xs.take a ++ ys ++ xs.drop b))) else none
  | _ => none) = _
 rw [h, ZcR ha]
 show ((ZW S.length (some (.d (.int v)))).bind fun b => if (decide (u.toNat ≤ b) && decide (b ≤ S.length) && decide (ys.length = b - u.toNat) && Zc S.length) then some (st.set l (.list (S.take u.toNat ++ ys ++ S.drop b))) else none) = _
 rw [ZcR hb, e, e']
 refine (if_pos (Bool.and_eq_true_iff.mpr ⟨Bool.and_eq_true_iff.mpr ⟨Bool.and_eq_true_iff.mpr ⟨decide_eq_true (Nat.le_add_right A _), decide_eq_true hl⟩, decide_eq_true (Nat.add_sub_cancel_left A _).symm⟩, Zs (Nat.le_trans h8 (by decide))⟩)).trans ?_
 rw [List.append_assoc]
theorem Zpx (h : Inv a s) (hc : ∀ c ∈ p, c < 128) (hl : A + p.length ≤ 8) : ZgJ a s a.nums ((pS a.sg A p p.length).map cS) := by
 refine ⟨{ a with sg := pS a.sg A p p.length }, rfl, rfl, rfl, { h.more with sl := (ZkU (h.sl ▸ hl) (Nat.le_refl _)).trans h.sl, sc := fun o ho => ?_ }⟩
 rcases lA9.mp ho with q | q
 ·exact h.sc o (List.mem_of_mem_take q)
 ·rcases lA9.mp q with q | q
  ·obtain ⟨c, hm, rfl⟩ := List.mem_map.mp q
   intro d e; cases e; exact hc _ (List.mem_of_mem_take hm)
  ·exact h.sc o (List.mem_of_mem_drop q)
theorem Cx.str (X : Cx mo ro n t s a) (hb : b = 3 ∨ b = 4) : ∃ x, Za a.regs b = some (.str x) ∧ x.length ≤ 4000 ∧ Asc x := by
 have h3 := X.h.t3
 have h4 := X.h.t4
 have hs := X.hs1
 rcases hb with rfl | rfl
 ·exact ⟨_, rfl, (by first | exact Zjf X.hs X.h.t4 | omega), X.h.c3⟩
 ·exact ⟨_, rfl, Nat.le_trans h4 (by decide), X.h.c4⟩
theorem ZmG {m : Nat} {R N S S' : List PD} (hp : Za R c = some (pl5 ad l)) (hx : Za R b = some (.str x))
 (h1 : ∀ {st}, RC (Zg m) 14 [.d (.str x), .d (.int l)] st True (.d (.str y)) st) (h2 : RC (Zg m) 13 [.loc 8, .d (.int ad), .d (.str y)] (Zp f g oth R N S s mo ro) True (.d .none) (Zp f g oth R N S' s mo ro)) :
 RC (Zg (m + 2)) 29 [.loc 10, .loc 12, .d (.tuple [.str Zc7, .int c, .int b])] (Zp f g oth R N S s mo ro) True (.d .none) (Zp f g oth R N S' s mo ro) :=
 fun k kx hk hn => mO (Zb hp) (mO (Zb hx) (h1 _ _ (fun z => h2 _ _ (fun z => hk trivial) fun q => (q trivial).elim) fun q => (q trivial).elim))
theorem ZmH (X : Cx mo ro n t s a) (hb : b = 3 ∨ b = 4) (h0 : Za ro t = some (.tuple [.str Zc7, .int 7, .int b])) : Zo mo ro n t s a := by
 obtain ⟨x, hx, lx, cx⟩ := X.str hb
 obtain ⟨A, L, e, e', el, h1, h4, h8, b1, b2, l1, l2⟩ := X.h.plc
 obtain ⟨p, u, v, z, hp, hc, k1, k2, k3, k4', k5, k6⟩ := Zrh cx lx h4
 subst hp
 rw [← el] at k1 k2 k5
 have eA : a.a7 = A := e ▸ (Int.toNat_of_nonneg (Int.not_lt.mp l1)).symm
 have ly : ((p.map some).map cS).length = p.length := (List.length_map _).trans (List.length_map _)
 have eS : a.sgs.take A ++ ((p.map some).map cS ++ a.sgs.drop (A + ((p.map some).map cS).length)) = (pS a.sg A p p.length).map cS := by
  rw [ly, pS, List.take_length, List.map_append, List.map_append, List.map_take, List.map_drop]; rfl
 have hsl : ∀ st : St, st[4]? = some (.list a.sgs) → Zae st (.loc 4) (some (.d (.int a.a7))) (some (.d (.int (a.a7 + a.l7)))) (.d (.list ((p.map some).map cS))) = some (st.set 4 (.list ((pS a.sg A p p.length).map cS))) := fun st h => (Zrj b1 b2 e (ly ▸ e') (ly ▸ X.h.slen ▸ h8) (Nat.le_of_eq X.h.slen) h).trans (by rw [eS])
 exact X.nxt (k := 29) (v := .d .none) h0 (fun y => ⟨Zpx X.h hc h8, X.one⟩)
  (fun f g oth => ZmG (m := 7) rfl hx (ZsK (m := 6) k1 (Zs (Nat.le_trans lx (by decide))) k2 k3) (Zri (m := 5) eA h8 X.h.sl))
  (fun f g oth k kx hk y => mO (Zb hx) (mO (Za6 k4') (mO (ZcS k5) (mO (Zid k6) (mO (hsl _ rfl) (hk trivial))))))
noncomputable def Zpy : Str := ⟨#[97, 103, 111, 116, 111]⟩
noncomputable def Zrk : Str := ⟨#[116, 114, 117, 101]⟩
noncomputable def Zpz : Str := ⟨#[102, 97, 108, 115, 101]⟩
noncomputable def ZmI : Str := ⟨#[115, 119, 105, 116, 99, 104]⟩
noncomputable def Zrl : Str := ⟨#[115, 105, 103, 110]⟩
noncomputable def Zrm : Str := ⟨#[106, 117, 109, 112]⟩
noncomputable def ZsL : Str := ⟨#[110, 111, 112]⟩
noncomputable def ZpA : Str := ⟨#[112, 97, 117, 115, 101]⟩
noncomputable def w_1 : Str := ⟨#[49]⟩
noncomputable def Gl (n v : Int) : Prop := 11 ≤ v ∧ v ≤ n
theorem Cx.jmp {v : Int} {z : MV} (X : Cx mo ro n t s a) (h0 : Za ro t = some (.tuple (.str w :: re))) (hq : Gl n v)
 (hM : DoM mo ro a.regs a.nums a.sgs s k (.tuple (.str w :: re)) True z a.regs a.nums a.sgs)
 (hO : DoO mo ro a.regs a.nums a.sgs s 52 [.d (.tuple (.str w :: re)), .d (.int t)] True (.d (.int v)) a.nums a.sgs)
 (hv : ZmC t z = some (.nx v) := by exact rfl) (hw : wOk w k false = true := by exact rfl) : Zo mo ro n t s a :=
 X.nxt h0 (fun y => ⟨X.same, hq⟩) hM hO hv hw
theorem Cx.no (X : Cx mo ro n t s a) (h0 : Za ro t = some (.tuple (.str w :: re)))
 (hM : DoM mo ro a.regs a.nums a.sgs s k (.tuple (.str w :: re)) False (.d (.int 0)) a.regs a.nums a.sgs)
 (hO : DoO mo ro a.regs a.nums a.sgs s 52 [.d (.tuple (.str w :: re)), .d (.int t)] False (.d (.int 0)) a.nums a.sgs)
 (hw : wOk w k false = true := by exact rfl) : Zo mo ro n t s a :=
 X.nxt h0 False.elim hM hO rfl hw
theorem Cx.lab (X : Cx mo ro n t s a) (e : a.q5 = o) : Za a.nums 5 = some (cQ o) := by
 refine Zdx (k := 5) ?_ (by decide)
 rw [AS.nums, List.getElem?_append_right (by rw [List.length_map, X.h.nl]; exact Nat.le_refl 5), List.length_map, X.h.nl, e]; rfl
theorem Zie (X : Cx mo ro n t s a) (hq1 : Gl n g1) (hr : r = [] ∨ ∃ g2, Gl n g2 ∧ r = [.tuple [.int 20, .int g2]]) (h0 : Za ro t = some (.tuple [.str Zpy, .int 10, .list (.tuple [.int 10, .int g1] :: r)])) : Zo mo ro n t s a := by
 rcases X.h.q5 with e | e | e | e <;> have hc := X.lab e <;> rcases hr with rfl | ⟨g2, hq2, rfl⟩
 ·exact X.no (k := 37) h0 (fun f g oth k kx hk hn => mO (Zb hc) (hn id _)) (fun f g oth k kx hk hn => mO (Zb hc) (hn id _))
 ·exact X.no (k := 37) h0 (fun f g oth k kx hk hn => mO (Zb hc) (hn id _)) (fun f g oth k kx hk hn => mO (Zb hc) (hn id _))
 ·exact X.jmp (k := 37) (z := .d (.int g1)) h0 hq1 (fun f g oth k kx hk hn => mO (Zb hc) (hk trivial)) (fun f g oth k kx hk hn => mO (Zb hc) (hk trivial))
 ·exact X.jmp (k := 37) (z := .d (.int g1)) h0 hq1 (fun f g oth k kx hk hn => mO (Zb hc) (hk trivial)) (fun f g oth k kx hk hn => mO (Zb hc) (hk trivial))
 ·exact X.no (k := 37) h0 (fun f g oth k kx hk hn => mO (Zb hc) (hn id _)) (fun f g oth k kx hk hn => mO (Zb hc) (hn id _))
 ·exact X.jmp (k := 37) (z := .d (.int g2)) h0 hq2 (fun f g oth k kx hk hn => mO (Zb hc) (hk trivial)) (fun f g oth k kx hk hn => mO (Zb hc) (hk trivial))
 ·exact X.no (k := 37) h0 (fun f g oth k kx hk hn => mO (Zb hc) (hn id _)) (fun f g oth k kx hk hn => mO (Zb hc) (hn id _))
 ·exact X.no (k := 37) h0 (fun f g oth k kx hk hn => mO (Zb hc) (hn id _)) (fun f g oth k kx hk hn => mO (Zb hc) (hn id _))
theorem Zrn (X : Cx mo ro n t s a) (hq : Gl n v) (h0 : Za ro t = some (.tuple [.str Zrk, .int 5, .int v])) : Zo mo ro n t s a := by
 cases e : a.b5
 ·exact X.jmp (k := 33) (z := .d .none) h0 X.one (fun f g oth k kx hk hn => mF e (hk trivial)) (fun f g oth k kx hk hn => mF (congrArg (· == true) e) (hk trivial))
 ·exact X.jmp (k := 33) (z := .d (.int v)) h0 hq (fun f g oth k kx hk hn => mT e (hk trivial)) (fun f g oth k kx hk hn => mT (congrArg (· == true) e) (hk trivial))
theorem ZpB (X : Cx mo ro n t s a) (hq : Gl n v) (h0 : Za ro t = some (.tuple [.str Zpz, .int 5, .int v])) : Zo mo ro n t s a := by
 cases e : a.b5
 ·exact X.jmp (k := 34) (z := .d (.int v)) h0 hq (fun f g oth k kx hk hn => mF e (hk trivial)) (fun f g oth k kx hk hn => mT (congrArg (· == false) e) (hk trivial))
 ·exact X.jmp (k := 34) (z := .d .none) h0 X.one (fun f g oth k kx hk hn => mT e (hk trivial)) (fun f g oth k kx hk hn => mF (congrArg (· == false) e) (hk trivial))
theorem Za7 (hf : Zc gs.length = true) (ha : as = [.d (.list gs)] := by exact rfl) : Zaf .len st as = some (.d (.int gs.length)) := by
 subst ha; rw [Znz, if_pos hf]
theorem ZaC (h : Za gs k = some y) (hv : v = .d (.list gs) := by exact rfl) (hj : j = .d (.int k) := by exact rfl) : ZaM st v j = some (.d y) := by
 subst hv hj; rw [ZhB, h]; rfl
theorem Zcv (X : Cx mo ro n t s a) (hb : I3 b) (hl : gs.length ≤ 3) (hgs : ∀ x ∈ gs, ∃ v, x = .int v ∧ Gl n v) (h0 : Za ro t = some (.tuple [.str ZmI, .int b, .list gs])) : Zo mo ro n t s a := by
 obtain ⟨x, hx, bx⟩ := X.h.read hb
 have hf : Zc gs.length = true := Zs (Nat.le_trans hl (by decide))
 by_cases h1 : 1 ≤ x
 ·by_cases h2 : x ≤ (gs.length : Int)
  ·obtain ⟨j, e⟩ := Int.eq_ofNat_of_zero_le (Int.sub_nonneg_of_le h1)
   have hlt : j < gs.length := by omega
   obtain ⟨v, e', hq⟩ := hgs _ (List.getElem_mem hlt)
   have hi : Za gs (x - 1) = some (.int v) := by rw [e]; exact Zdx ((List.getElem?_eq_getElem hlt).trans (congrArg some e')) (Nat.le_trans (Nat.le_of_lt hlt) (Nat.le_trans hl (by decide)))
   exact X.jmp (k := 36) (z := .d (.int v)) h0 hq (fun f g oth k kx hk hn => mO (Zb hx) (mT (decide_eq_true h1) (mO (Za7 hf) (mT (decide_eq_true h2) (mO (ZaC hi) (hk trivial)))))) (fun f g oth k kx hk hn => mO (Zb hx) (mT (decide_eq_true h1) (mO (Za7 hf) (mT (decide_eq_true h2) (mO (ZaC hi) (hk trivial))))))
  ·exact X.jmp (k := 36) (z := .d .none) h0 X.one (fun f g oth k kx hk hn => mO (Zb hx) (mT (decide_eq_true h1) (mO (Za7 hf) (mF (decide_eq_false h2) (hk trivial))))) (fun f g oth k kx hk hn => mO (Zb hx) (mT (decide_eq_true h1) (mO (Za7 hf) (mF (decide_eq_false h2) (hk trivial)))))
 ·exact X.jmp (k := 36) (z := .d .none) h0 X.one (fun f g oth k kx hk hn => mO (Zb hx) (mF (decide_eq_false h1) (hk trivial))) (fun f g oth k kx hk hn => mO (Zb hx) (mF (decide_eq_false h1) (hk trivial)))
theorem Zro (X : Cx mo ro n t s a) (hb : I3 b) (hq1 : Gl n g1) (hq2 : Gl n g2) (hq3 : Gl n g3) (h0 : Za ro t = some (.tuple [.str Zrl, .int b, .int g1, .int g2, .int g3])) : Zo mo ro n t s a := by
 obtain ⟨x, hx, bx⟩ := X.h.read hb
 rcases Int.lt_trichotomy x 0 with h | h | h
 ·exact X.jmp (k := 35) (z := .d (.int g1)) h0 hq1 (fun f g oth k kx hk hn => mO (Zb hx) (mF (beq_eq_false_iff_ne.mpr (Int.ne_of_lt h)) (mF (decide_eq_false (Int.lt_asymm h)) (hk trivial)))) (fun f g oth k kx hk hn => mO (Zb hx) (mT (decide_eq_true h) (hk trivial)))
 ·subst h; exact X.jmp (k := 35) (z := .d (.int g2)) h0 hq2 (fun f g oth k kx hk hn => mO (Zb hx) (hk trivial)) (fun f g oth k kx hk hn => mO (Zb hx) (hk trivial))
 ·have n0 : (x == 0) = false := beq_eq_false_iff_ne.mpr (Int.ne_of_gt h)
  exact X.jmp (k := 35) (z := .d (.int g3)) h0 hq3 (fun f g oth k kx hk hn => mO (Zb hx) (mF n0 (mT (decide_eq_true h) (hk trivial)))) (fun f g oth k kx hk hn => mO (Zb hx) (mF (decide_eq_false (Int.lt_asymm h)) (mF n0 (hk trivial))))
theorem Zrp (X : Cx mo ro n t s a) (hq : Gl n v) (h0 : Za ro t = some (.tuple [.str Zrm, .int v])) : Zo mo ro n t s a :=
 X.jmp (k := 32) (z := .d (.int v)) h0 hq (fun f g oth k kx hk hn => hk trivial) (fun f g oth k kx hk hn => hk trivial)
theorem ZsM (X : Cx mo ro n t s a) (h0 : Za ro t = some (.tuple [.str ZsL])) : Zo mo ro n t s a :=
 X.jmp (k := 31) (z := .d .none) h0 X.one (fun f g oth k kx hk hn => hk trivial) (fun f g oth k kx hk hn => hk trivial)
theorem ZpC (X : Cx mo ro n t s a) (h0 : Za ro t = some (.tuple [.str ZpA, y])) : Zo mo ro n t s a :=
 X.jmp (k := 31) (z := .d .none) h0 X.one (fun f g oth k kx hk hn => hk trivial) (fun f g oth k kx hk hn => hk trivial)
theorem ZsN (X : Cx mo ro n t s a) (hb : I3 b) (h0 : Za ro t = some (.tuple [.str Zau, .int b])) : Zo mo ro n t s a := by
 obtain ⟨x, hx, bx⟩ := X.h.read hb
 exact Zo.same X.h (Zc5 (n := 38) (w := Zau) (re := [.int b]) (P := True) (v := .d (.tuple [.str Zau, .int x])) (fun f g oth k kx hk hn => mT (decide_eq_true hb.1) (mO (Zb hx) (hk trivial))) X.hm h0 rfl trivial rfl) (Zq5 X.hm h0 hb.1 hx) ⟨x, rfl⟩ (fun y e => nomatch e)
theorem Zrq (X : Cx mo ro n t s a) (h0 : Za ro t = some (.tuple [.str Zau, .int (-1)])) : Zo mo ro n t s a :=
 Zo.same X.h (Zc5 (n := 38) (w := Zau) (re := [.int (-1)]) (P := True) (v := .d (.tuple [.str Zau, .int 0])) (fun f g oth k kx hk hn => mF (decide_eq_false (by decide : ¬ (0 : Int) ≤ -1)) (hk trivial)) X.hm h0 rfl trivial rfl) (Zpc X.hm h0 (by decide)) ⟨0, rfl⟩ (fun y e => nomatch e)
theorem Zrr (X : Cx mo ro n t s a) (h0 : Za ro t = some (.tuple [.str ZgI, .str w_1])) : Zo mo ro n t s a :=
 Zo.same X.h (Zpa X.hm h0) (Zpd X.hm h0) (show Asc w_1 by unfold Asc; decide) (fun y e => nomatch e)
theorem ZsO (X : Cx mo ro n t s a) (h0 : Za ro t = some (.tuple [.str Zje])) : Zo mo ro n t s a :=
 Zo.same X.h (Zq4 X.hm h0) (Zq6 X.hm h0) trivial (fun y e => nomatch e)
end
section
noncomputable def tM : CE := ZgD Zbl
noncomputable def tO : CE := ZgD Zbm
theorem Zrs (h : evQ (Zg n) e noX ρ st fun v st' => v = .d (.bool b) ∧ st' = st) : evT (Zi n) e ρ st = .ok b st := by
 rw [Zj (ZaO n)] at h
 show (ev (Zi n) e ρ st).bind _ = _
 generalize ev (Zi n) e ρ st = r at h ⊢
 cases r with
 | ok v st' => obtain ⟨rfl, rfl⟩ := h; rfl
 | ex c fs st' => exact h.elim
 | no => exact h.elim
theorem Zjo (hf : Zc ro.length = true) : evT (Zi n) tM (ρM t ro o1 o2) st = .ok (decide (t < ro.length)) st :=
 Zrs (mO (Za7 hf) ⟨rfl, rfl⟩)
theorem Zjp (hf : Zc ro.length = true) : evT (Zi n) tO (ρO t mo ro o3) st = .ok (decide (t < ro.length)) st :=
 Zrs (mO (Za7 hf) ⟨rfl, rfl⟩)
noncomputable def WM (mo : Int) (ro : List PD) (k : Nat) (t : Int) (R N S : List PD) (s : Int) (o : Out) (R' N' S' : List PD) (s' : Int) : Prop :=
 ∀ f g oth o1 o2, Zes ro (mkS f g oth ⟨R', N', S', s'⟩ mo ro) o (whl (evT (Zi 9) tM) (exs (Zi 9) bM) k (ρM t ro o1 o2) (mkS f g oth ⟨R, N, S, s⟩ mo ro))
noncomputable def WO (mo : Int) (ro : List PD) (k : Nat) (t : Int) (R N S : List PD) (s : Int) (o : Out) (R' N' S' : List PD) (s' : Int) : Prop :=
 ∀ f g oth o3, Zdw mo ro (mkS f g ⟨R', N', S', s'⟩ oth mo ro) o (whl (evT (Zi 10) tO) (exs (Zi 10) bO) k (ρO t mo ro o3) (mkS f g ⟨R, N, S, s⟩ oth mo ro))
theorem Zfs (h : c ρ st = .ok true st) : whl c b (k + 1) ρ st = (b ρ st).bind fun ρ st => whl c b k ρ st := by
 rw [Zix, h]; rfl
theorem Znv (h : c ρ st = .ok false st) : whl c b (k + 1) ρ st = .nx ρ st := by
 rw [Zix, h]; rfl
noncomputable def TB (mo : Int) (ro : List PD) (t : Int) (R N S : List PD) (s : Int) (o : Out) (R' N' S' : List PD) : Prop := MT mo ro t R N S s o R' N' S' ∧ OT mo ro t R N S s o R' N' S'
noncomputable def WB (mo : Int) (ro : List PD) (k : Nat) (t : Int) (R N S : List PD) (s : Int) (o : Out) (R' N' S' : List PD) (s' : Int) : Prop := WM mo ro k t R N S s o R' N' S' s' ∧ WO mo ro k t R N S s o R' N' S' s'
variable {mo : Int} {ro : List PD} {k : Nat} {t s s' : Int} {R N S R1 N1 S1 R' N' S' : List PD} {o : Out}
theorem Zif {v : Int} (hf : Zc ro.length = true) (ht : t < ro.length) (h : TB mo ro t R N S s (.nx v) R1 N1 S1) (h2 : WB mo ro k v R1 N1 S1 (s + 1) o R' N' S' s') : WB mo ro (k + 1) t R N S s o R' N' S' s' := by
 constructor
 ·intro f g oth o1 o2
  obtain ⟨p1, p2, e⟩ := h.1 f g oth o1 o2
  rw [Zfs (decide_eq_true ht ▸ Zjo hf), e]
  exact h2.1 f g oth p1 p2
 ·intro f g oth o3
  obtain ⟨p3, e⟩ := h.2 f g oth o3
  rw [Zfs (decide_eq_true ht ▸ Zjp hf), e]
  exact h2.2 f g oth p3
theorem ZsP (h : Zes ro st o r) (ho : ∀ v, o ≠ .nx v) : r.bind f = r := by
 cases o with
 | nx v => exact absurd rfl (ho v)
 | done v => cases h; rfl
 | stop x => obtain ⟨ρ, rfl⟩ := h; rfl
 | _ => obtain ⟨fs, ρ, rfl⟩ := h; rfl
theorem ZsQ (h : Zdw mo ro st o r) (ho : ∀ v, o ≠ .nx v) : r.bind f = r := by
 cases o with
 | nx v => exact absurd rfl (ho v)
 | _ => cases h; rfl
theorem ZkV (hf : Zc ro.length = true) (ht : t < ro.length) (h : TB mo ro t R N S s o R' N' S') (ho : ∀ v, o ≠ .nx v) : WB mo ro (k + 1) t R N S s o R' N' S' (s + 1) := by
 constructor
 ·intro f g oth o1 o2
  have h := h.1 f g oth o1 o2
  rw [Zfs (decide_eq_true ht ▸ Zjo hf), ZsP h ho]
  exact h
 ·intro f g oth o3
  have h := h.2 f g oth o3
  rw [Zfs (decide_eq_true ht ▸ Zjp hf), ZsQ h ho]
  exact h
theorem Zrt (hf : Zc ro.length = true) (ht : ¬ t < ro.length) : WB mo ro (k + 1) t R N S s (.nx t) R N S s :=
 ⟨fun f g oth o1 o2 => by rw [Znv (decide_eq_false ht ▸ Zjo hf)]; exact ⟨o1, o2, rfl⟩, fun f g oth o3 => by rw [Znv (decide_eq_false ht ▸ Zjp hf)]; exact ⟨o3, rfl⟩⟩
noncomputable def ZO (n : Int) (row : PD) : Prop := ∀ {mo : Int} {ro : List PD} {t s : Int} {a : AS}, Cx mo ro n t s a → Za ro t = some row → Zo mo ro n t s a
theorem ZpD {n : Int} (hn : n = ro.length) (hf : Zc ro.length = true) (hmost : mo ≤ 70) (hrows : ∀ t, 11 ≤ t → t < n → ∃ row, Za ro t = some row ∧ ZO n row) :
 ∀ (k : Nat) (t s : Int) (a : AS), Inv a s → 0 ≤ s → s ≤ mo → mo - s < k → 11 ≤ t → t ≤ n → ∃ (o : Out) (a' : AS) (s' : Int), Inv a' s' ∧ Zct o ∧ WB mo ro k t a.regs a.nums a.sgs s o a'.regs a'.nums a'.sgs s' := by
 intro k
 induction k with
 | zero => intro t s a _ _ h1 h; exact absurd h (Int.not_lt.mpr (Int.sub_nonneg_of_le h1))
 | succ k ih =>
  intro t s a hi h0 h1 h2 h3 h4
  by_cases ht : t < n
  ·have ht' : t < ro.length := hn ▸ ht
   obtain ⟨row, hr, hok⟩ := hrows t h3 ht
   by_cases hm : s + 1 > mo
   ·exact ⟨.long, a, s + 1, hi.more, trivial, ZkV hf ht' ⟨Zpb hm, Zpe hm hr⟩ (fun y e => nomatch e)⟩
   ·obtain ⟨o, a', hi', hM, hO, hk, hq⟩ := hok ⟨hi, h0, Int.le_trans h1 hmost, hm, ⟨h3, ht⟩⟩ hr
    by_cases ho : ∃ v, o = .nx v
    ·obtain ⟨v, rfl⟩ := ho
     obtain ⟨q1, q2⟩ := hq v rfl
     obtain ⟨o2, a2, s2, hi2, hk2, hW⟩ := ih v (s + 1) a' hi' (Int.le_add_one h0) (Int.not_lt.mp hm) ((Int.sub_sub mo s 1) ▸ Int.sub_right_lt_of_lt_add h2) q1 q2
     exact ⟨o2, a2, s2, hi2, hk2, Zif hf ht' ⟨hM, hO⟩ hW⟩
    ·exact ⟨o, a', s + 1, hi', hk, ZkV hf ht' ⟨hM, hO⟩ (fun v e => ho ⟨v, e⟩)⟩
  ·exact ⟨.nx t, a, s, hi, trivial, Zrt hf (hn ▸ ht)⟩
noncomputable def Zru : Str := ⟨#[97, 98]⟩
noncomputable def w_c : Str := ⟨#[99]⟩
noncomputable def Zk : List PD := [.tuple [.str ZaB, .int 0, .int 0, .int 2], .tuple [.str ZaB, .int 1, .int 0, .int (-1)], .tuple [.str ZaB, .int 2, .int 0, .int 3], .tuple [.str ZaB, .int 3, .int 5, .str Zru], .tuple [.str ZaB, .int 4, .int 5, .str w_c], .tuple [.str ZaB, .int 5, .int 4, .bool true],
 .tuple [.str ZZ, .int 6, .str w_X], .tuple [.str ZZ, .int 7, .str w_C], .tuple [.str ZZ, .int 8, .str w_A], .tuple [.str ZZ, .int 9, .str w_D], .tuple [.str ZZ, .int 10, .str w_Q]]
noncomputable def R0 : List PD := List.replicate 11 .none
noncomputable def a0 : AS := ⟨2, -1, 3, 0, 0, 4, Zru, w_c, true, [some 7, none, some 1, some 2, none], none, [some 97, some 98, some 99, some 100, some 101, none, none, none]⟩
theorem Ztu : Inv a0 11 where
 i := by unfold Bd a0; decide
 t3 := by decide
 t4 := by decide
 c3 := by unfold Asc; decide
 c4 := by unfold Asc; decide
 a6 := by decide
 pl := ⟨0, 4, rfl, rfl, by decide, by decide, by decide⟩
 nl := rfl
 nb := fun x h => by
  have : ∀ o ∈ a0.nn, ∀ x ∈ o, -99 ≤ x ∧ x ≤ 99 := by decide
  exact this _ h x rfl
 q5 := .inl rfl
 sl := rfl
 sc := by
  have : ∀ o ∈ a0.sg, ∀ x ∈ o, x < 128 := by decide
  exact fun o h c e => this o h c e
theorem Zbu (hm : ¬ s + 1 > mo) (h0 : Za ro t = some (.tuple [.str ZaB, .int gl, kd, y])) (hg : Zaa R gl = true) : TB mo ro t R N S s (.nx (t + 1)) (R.set gl.toNat y) N S :=
 have W := Zbt (w := ZaB) (n := 18) (b := true) rfl
 ⟨Zc5 (Znp hg) hm h0 rfl trivial rfl, ZgH Znq hm h0 hg W trivial⟩
theorem ZbG (hx : Zjl x y) (hm : ¬ s + 1 > mo) (h0 : Za ro t = some (.tuple [.str ZZ, .int gl, .str x])) (hg : Zaa R gl = true) : TB mo ro t R N S s (.nx (t + 1)) (R.set gl.toNat y) N S :=
 have W := Zbt (w := ZZ) (n := 24) (b := true) rfl
 ⟨Zc5 (ZkP hx hg) hm h0 rfl trivial rfl, ZgH (ZkQ hx) hm h0 hg W trivial⟩
theorem Zrv {n : Int} {found : List PD} (hn : n = (Zk ++ found).length) (hl : found.length ≤ 14) (h1 : 11 ≤ mo) (h2 : mo ≤ 70) (hrows : ∀ row ∈ found, ZO n row) :
 ∃ (o : Out) (a' : AS) (s' : Int), Inv a' s' ∧ Zct o ∧ WB mo (Zk ++ found) 100 0 R0 a0.nums a0.sgs 0 o a'.regs a'.nums a'.sgs s' := by
 have hlen : (Zk ++ found).length = found.length + 11 := (List.length_append).trans (Nat.add_comm 11 _)
 have hf : Zc (Zk ++ found).length = true := Zs (hlen ▸ Nat.le_trans (Nat.add_le_add_right hl 11) (by decide))
 have hr : ∀ t, 11 ≤ t → t < n → ∃ row, Za (Zk ++ found) t = some row ∧ ZO n row := by
  intro t h3 h4
  obtain ⟨j, e⟩ := Int.eq_ofNat_of_zero_le (Int.sub_nonneg_of_le h3)
  have e : t = (j + 11 : Nat) := (Int.sub_eq_iff_eq_add.mp e)
  subst e
  have hlt : j < found.length := Nat.lt_of_add_lt_add_right (Int.ofNat_lt.mp (hlen ▸ hn ▸ h4))
  refine ⟨found[j], (if_pos (Bool.and_eq_true_iff.mpr ⟨decide_eq_true (Int.natCast_nonneg _), Zs (Nat.le_trans (Nat.add_le_add_right (Nat.le_of_lt (Nat.lt_of_lt_of_le hlt hl)) 11) (by decide))⟩)).trans ?_, hrows _ (List.getElem_mem hlt)⟩
  show (Zk ++ found)[j + 11]? = _
  rw [List.getElem?_append_right (Nat.le_add_left 11 j)]
  exact List.getElem?_eq_getElem hlt
 obtain ⟨o, a', s', hi, hs, hW⟩ := ZpD (ro := Zk ++ found) (mo := mo) hn hf h2 hr 89 11 11 a0 Ztu (by decide) h1 (Int.lt_of_le_of_lt (Int.sub_le_sub_right h2 11) (by decide)) (by decide) (hn ▸ hlen ▸ Int.ofNat_le.mpr (Nat.le_add_left 11 _))
 have hw : ∀ k : Int, k ≤ 10 → k < (Zk ++ found).length := fun k h => hlen ▸ Int.lt_of_le_of_lt h (Int.lt_of_lt_of_le (by decide : (10 : Int) < 11) (Int.ofNat_le.mpr (Nat.le_add_left 11 _)))
 have hq : ∀ k : Int, k ≤ 10 → ¬ k + 1 > mo := fun k h => Int.not_lt.mpr (Int.le_trans (Int.add_le_add_right h 1) h1)
 have H : ∀ {k : Nat} {t : Int} {R N S R1 N1 S1 : List PD} (d : t ≤ 10), (¬ t + 1 > mo → TB mo (Zk ++ found) t R N S t (.nx (t + 1)) R1 N1 S1) → WB mo (Zk ++ found) k (t + 1) R1 N1 S1 (t + 1) o a'.regs a'.nums a'.sgs s' → WB mo (Zk ++ found) (k + 1) t R N S t o a'.regs a'.nums a'.sgs s' :=
  fun d h w => Zif hf (hw _ d) (h (hq _ d)) w
 exact ⟨o, a', s', hi, hs, H (by decide) (Zbu · rfl rfl) (H (by decide) (Zbu · rfl rfl) (H (by decide) (Zbu · rfl rfl) (H (by decide) (Zbu · rfl rfl) (H (by decide) (Zbu · rfl rfl) (H (by decide) (Zbu · rfl rfl)
  (H (by decide) (ZbG (.inl ⟨rfl, rfl⟩) · rfl rfl) (H (by decide) (ZbG (.inr (.inr (.inl ⟨rfl, rfl⟩))) · rfl rfl) (H (by decide) (ZbG (.inr (.inr (.inr (.inl ⟨rfl, rfl⟩)))) · rfl rfl) (H (by decide) (ZbG (.inr (.inr (.inr (.inr (.inl ⟨rfl, rfl⟩))))) · rfl rfl) (H (by decide) (ZbG (.inr (.inr (.inr (.inr (.inr ⟨rfl, rfl⟩))))) · rfl rfl) hW))))))))))⟩
end
noncomputable def ZpE : Str := ⟨#[115, 99, 114, 105, 112, 116]⟩
noncomputable def Zrw : Str := ⟨#[102, 114, 97, 109, 101]⟩
noncomputable def film (L : List PD) (fr : Int) : MO := .dict [(ZpE, .d (.list L)), (Zrw, .d (.int fr))]
noncomputable def Fl (L : List PD) (j : Nat) (fo : MO) : Prop := ∃ fr : Int, fo = film L fr ∧ 0 ≤ fr ∧ fr + j ≤ 2000
theorem Fl.le (h : Fl L (j + c) fo) : Fl L j fo := by
 obtain ⟨fr, e, h0, h⟩ := h
 exact ⟨fr, e, h0, Int.le_trans (Int.add_le_add_left (Int.ofNat_le.mpr (Nat.le_add_right j c)) fr) h⟩
noncomputable def ZcT (C : ZD) (L : List PD) : Prop := ∀ {j fo many re k kx}, Fl L (j + 1) fo → 1 ≤ many → (∀ r fo', 0 ≤ r ∧ r < many → Fl L j fo' → k (.d (.int r)) (fo' :: re)) → C 41 [.loc 0, .d (.int many)] (fo :: re) k kx
theorem ZgR (h : y ≠ 0) : ZE .Mod (.int x) (.int y) = some (.int (x.fmod y)) := by rw [ZpR, if_neg h]
theorem Zc9 {x y : Int} (h : 1 ≤ y) : 0 ≤ x.fmod y ∧ x.fmod y < y := by
 rw [Int.fmod_eq_emod_of_nonneg _ (Int.le_trans (by decide) h)]
 exact ⟨Int.emod_nonneg _ (Int.ne_of_gt h), Int.emod_lt_of_pos _ h⟩
noncomputable def ZgS (L : List PD) : Prop := ∀ x ∈ L, ∃ i, x = .int i
theorem Zig (h : ZgS L) {j : Int} (h0 : 0 ≤ j) (h1 : j + 1 ≤ (L.length : Int)) (h2 : L.length ≤ 4000) : ∃ i, Za L (j + 1 - 1) = some (.int i) := by
 obtain ⟨j, rfl⟩ := Int.eq_ofNat_of_zero_le h0
 have hlt : j < L.length := Int.ofNat_lt.mp h1
 obtain ⟨i, e⟩ := h _ (List.getElem_mem hlt)
 refine ⟨i, ?_⟩
 rw [Int.add_sub_cancel]
 exact (if_pos (Bool.and_eq_true_iff.mpr ⟨decide_eq_true (Int.natCast_nonneg j), Zs (Nat.le_trans (Nat.le_of_lt hlt) (Nat.le_trans h2 (by decide)))⟩)).trans ((List.getElem?_eq_getElem hlt).trans (congrArg some e))
noncomputable def ZsR : List Int := [13, 7, 1, 2, 0, 0, 6, 0, 0, 0, 3, 0, 1, 0, 0, 18, 0, 4, 4, 1, 9, 2, 1, 13, 0, 2, 10, 1, 0, 13, 0, 0, 14, 1, 16, 0, 11, 20, 0, 4, 15, 1, 0, 12, 11, 1, 1, 20, 1, 2, 0]
theorem ZgT (l : List Int) : ZgS (l.map .int) := fun x hx => by
 obtain ⟨i, _, e⟩ := List.mem_map.mp hx
 exact ⟨i, e.symm⟩
theorem Za8 (m : Nat) {L : List PD} (hL : ZgS L) (hn : L.length ≤ 70) : ZcT (Zg (m + 2)) L := by
 intro j fo many re k kx hF h2 hk
 obtain ⟨fr, rfl, h0, hj⟩ := hF
 have hf : Zc L.length = true := Zs (Nat.le_trans hn (by decide))
 have hm : many ≠ 0 := Int.ne_of_gt h2
 have go : ∀ x : Int, k (.d (.int (x.fmod many))) (film L (fr + 1) :: re) := fun x => hk _ _ (Zc9 h2) ⟨fr + 1, rfl, Int.le_add_one h0, by rw [Int.add_assoc, Int.add_comm 1]; exact hj⟩
 refine mO (Za7 hf) (mD (fun c1 => ?_) fun c1 => mD (fun c2 => ?_) fun c2 => ?_)
 ·obtain ⟨i, hi⟩ := Zig hL h0 c1 (Nat.le_trans hn (by decide))
  exact mO (ZaC hi) (mO (ZgR hm) (go i))
 ·obtain ⟨i, hi⟩ := Zig (ZgT ZsR) h0 c2 (by decide)
  exact mO (ZaC hi) (mO (ZgR hm) (go i))
 ·have hfr : Zn (fr + 1) = true := smI ⟨Int.le_trans (by decide) (Int.le_add_one h0), Int.le_trans (Int.add_le_add_left (Int.ofNat_le.mpr (Nat.le_add_left 1 j)) fr) hj⟩
  exact mO (Za6 (mul_ok (y := 9) hfr rfl)) (mO (Za6 (Zib (y := 4) (by decide) hfr rfl)) (mO (ZgR hm) (go _)))
section
theorem ew {P : Int → Prop} {lo hi hi' : Int} (a : P hi) (f : ∀ r, lo ≤ r → r < hi → P r) (e : hi' = hi + 1 := by exact rfl) : ∀ r, lo ≤ r → r < hi' → P r :=
 fun r h h' => if q : r < hi then f r h q else (Int.le_antisymm (Int.le_of_lt_add_one (e ▸ h')) (Int.not_lt.mp q) : r = hi) ▸ a
theorem ez {P : Int → Prop} {lo : Int} : ∀ r, lo ≤ r → r < lo → P r := fun r h h' => (Int.not_lt.mpr h h').elim
theorem i3 (h : 0 ≤ k ∧ k < 3) : I3 k := ⟨h.1, Int.le_of_lt_add_one h.2⟩
theorem m34 {g : Int} : 3 + g.fmod 2 = 3 ∨ 3 + g.fmod 2 = 4 := e2 (P := fun r => 3 + r = 3 ∨ 3 + r = 4) (Zc9 (by decide)) (.inl rfl) (.inr rfl)
theorem m67 {g : Int} : 6 + g.fmod 2 = 6 ∨ 6 + g.fmod 2 = 7 := e2 (P := fun r => 6 + r = 6 ∨ 6 + r = 7) (Zc9 (by decide)) (.inl rfl) (.inr rfl)
noncomputable def Zrx (C : ZD) (L : List PD) (co : Int) : Prop := ∀ {j fo re k kx}, Fl L (j + 1) fo → (∀ v fo', Gl (11 + co) v → Fl L j fo' → k (.d (.int v)) (fo' :: re)) → C 42 [.loc 0, .d (.int co)] (fo :: re) k kx
theorem ZpF {m : Nat} {L : List PD} {co : Int} (hc : 0 ≤ co) (hR : ZcT (Zg m) L) : Zrx (Zg (m + 1)) L co :=
 fun h hk => hR h (Int.add_le_add_right hc 1) fun r fo' hr h' => hk _ fo' ⟨Int.le_add_of_nonneg_right hr.1, Int.add_le_add_left (Int.le_of_lt_add_one hr.2) 11⟩ h'
noncomputable def MK (C : ZD) (f : Nat) (L : List PD) (n : Int) (more : List MV) (w : Int) : Prop := ∀ {fo j re k kx}, Fl L (j + 10) fo → (∀ row fo', ZO n row → Fl L j fo' → k (.d row) (fo' :: re)) → C f (.loc 0 :: .d (.int w) :: more) (fo :: re) k kx
variable {m : Nat} {L : List PD} {n : Int}
noncomputable def okS (x : Str) : Bool := decide (x.length ≤ 4) && x.cps.toList.all fun c => decide (c < 128)
theorem ZgU {g : Int} (hg : g = 3 ∨ g = 4) (h : okS x = true) : ZO n (.tuple [.str ZaB, .int g, .int 5, .str x]) := fun X h0 =>
 have g10 : 0 ≤ g ∧ g ≤ 10 := by rcases hg with rfl | rfl <;> decide
 have h' := Bool.and_eq_true_iff.mp h
 Znr X g10 (X.h.put34 X.hs hg (of_decide_eq_true h'.1) fun c hc => of_decide_eq_true (List.all_eq_true.mp h'.2 c hc)) h0
theorem ZsS {g x y : Int} (hg : I3 g) (hx : I3 x) (hy : I3 y) : ZO n (.tuple [.str ZaB, .int g, .int 0, .int (4 * x - y)]) := fun X h0 =>
 Znr X hg.ten (X.h.putI hg ⟨Int.le_trans (by decide : (-99 : Int) ≤ 4 * 0 - 2) (Int.sub_le_sub (Int.mul_le_mul_of_nonneg_left hx.1 (by decide)) hy.2), Int.le_trans (Int.sub_le_sub (Int.mul_le_mul_of_nonneg_left hx.2 (by decide)) hy.1) (by decide)⟩) h0
theorem Zry {g x : Int} (hg : I3 g) (hx : I3 x) : ZO n (.tuple [.str ZgK, .int g, .int x]) := fun X h0 => by
 obtain ⟨v, e, b⟩ := X.h.read hx
 exact ZkN X hg.ten e (X.h.putI hg b) h0
theorem ZpG : ZO n (.tuple [.str ZgK, .int 3, .int 4]) := fun X h0 =>
 ZkN X ⟨by decide, by decide⟩ rfl (X.h.put34 X.hs (.inl rfl) X.h.t4 X.h.c4) h0
theorem ZmJ (hR : ZcT (Zg m) L) : ∀ w, 0 ≤ w → w < 8 → MK (Zg (m + 1)) 43 L n [] w := by
 refine ew (hi := 7) (fun h hk => ?_) (ew (hi := 6) (fun h hk => ?_) (ew (hi := 5) (fun h hk => ?_) (ew (hi := 4) (fun h hk => ?_) (ew (hi := 3) (fun h hk => ?_) (ew (hi := 2) (fun h hk => ?_) (ew (hi := 1) (fun h hk => ?_) (ew (hi := 0) (fun h hk => ?_) ez)))))))
 all_goals refine hR h (many := 3) (by decide) fun x o1 hx h => hR h (many := 3) (by decide) fun y o2 hy h => hR h (many := 3) (by decide) fun g o3 hg h => ?_
 ·exact hR h (by decide) fun z o hz h => hk _ _ (fun X h0 => Zph X (i3 hg) (i3 hx) (i3 hy) (i3 hz) h0) h.le
 ·exact hk _ _ (fun X h0 => ZsE X m34 h0) h.le
 ·exact mD (fun u => hk _ _ (fun X h0 => ZsC X (i3 hg) (i3 hx) h0) h.le) fun u => hk _ _ (fun X h0 => ZsD X h0) h.le
 ·refine e3 hg (hR h (by decide) fun z o hz h => ?_) (hR h (by decide) fun z o hz h => ?_) (hR h (by decide) fun z o hz h => ?_)
  ·exact e2 hz (hk _ _ (fun X h0 => Zji X Zra (i3 hx) (i3 hy) h0) h.le) (hk _ _ (fun X h0 => ZgL X Znu h0) h.le)
  ·exact e2 hz (hk _ _ (fun X h0 => Zji X Ztl (i3 hx) (i3 hy) h0) h.le) (hk _ _ (fun X h0 => ZgL X Zsz h0) h.le)
  ·exact e2 hz (hk _ _ (fun X h0 => Zji X Zra (i3 hx) (i3 hy) h0) h.le) (hk _ _ (fun X h0 => ZgL X Znu h0) h.le)
 ·exact hR h (by decide) fun z o hz h => e3 hz (hk _ _ (fun X h0 => Zjh X Zns (i3 hg) (i3 hx) (i3 hy) h0) h.le) (hk _ _ (fun X h0 => Zjh X Znt (i3 hg) (i3 hx) (i3 hy) h0) h.le) (hk _ _ (fun X h0 => Zjh X Zsy (i3 hg) (i3 hx) (i3 hy) h0) h.le)
 ·exact mD (fun u => hk _ _ (Zry (i3 hg) (i3 hx)) h.le) fun u => hk _ _ ZpG h.le
 ·exact e3 hx (hk _ _ (ZgU m34 rfl) h.le) (hk _ _ (ZgU m34 rfl) h.le) (hk _ _ (ZgU m34 rfl) h.le)
 ·exact mO (Za6 (mul_ok (x := 4) rfl (smI ⟨Int.le_trans (by decide) hx.1, Int.le_trans (Int.le_of_lt hx.2) (by decide)⟩))) (hk _ _ (ZsS (i3 hg) (i3 hx) (i3 hy)) h.le)
theorem Zrz {x : Str} (hx : x = w_X ∨ x = w_Y ∨ x = w_Z) : ZO n (.tuple [.str ZZ, .int 6, .str x]) := fun X h0 => by
 have g : 0 ≤ (6 : Int) ∧ (6 : Int) ≤ 10 := ⟨by decide, by decide⟩
 rcases hx with rfl | rfl | rfl
 ·exact ZgN X (.inl ⟨rfl, rfl⟩) g (X.h.put6 ⟨by decide, by decide⟩) h0
 ·exact ZgN X (.inr (.inl ⟨rfl, rfl⟩)) g (X.h.put6 ⟨by decide, by decide⟩) h0
 ·exact Zpi X h0
theorem ZpH {x : Str} (hx : x = w_C ∨ x = w_P) : ZO n (.tuple [.str ZZ, .int 7, .str x]) := fun X h0 => by
 rcases hx with rfl | rfl
 ·exact ZgN X (.inr (.inr (.inl ⟨rfl, rfl⟩))) ⟨by decide, by decide⟩ (X.h.put7 ⟨0, 4, rfl, rfl, by decide, by decide, by decide⟩) h0
 ·exact Zpj X h0
theorem ZmK {g b : Int} (hg : I3 g) (hb : b = 6 ∨ b = 7) : ZO n (.tuple [.str ZgM, .int g, .int b]) := fun X h0 => by
 rcases hb with rfl | rfl
 ·exact ZgO X hg rfl ⟨by decide, by decide⟩ h0
 ·obtain ⟨A, L, e, e', el, h1, h4, h8, _⟩ := X.h.plc
  exact ZgO X hg rfl (el ▸ ⟨Int.le_trans (by decide) (Int.natCast_nonneg L), Int.le_trans (Int.ofNat_le.mpr h4) (by decide)⟩) h0
theorem at4 {A B C D : PD} {P : PD → Prop} (h : 0 ≤ r ∧ r < 4) (a : P A) (b : P B) (c : P C) (d : P D) : ∃ x, Za [A, B, C, D] r = some x ∧ P x :=
 e4 (P := fun r => ∃ x, Za [A, B, C, D] r = some x ∧ P x) h ⟨A, rfl, a⟩ ⟨B, rfl, b⟩ ⟨C, rfl, c⟩ ⟨D, rfl, d⟩
theorem at3 {A B C : PD} {P : PD → Prop} (h : 0 ≤ r ∧ r < 3) (a : P A) (b : P B) (c : P C) : ∃ x, Za [A, B, C] r = some x ∧ P x :=
 e3 (P := fun r => ∃ x, Za [A, B, C] r = some x ∧ P x) h ⟨A, rfl, a⟩ ⟨B, rfl, b⟩ ⟨C, rfl, c⟩
noncomputable def Zjq : PD → Prop
 | .int v => v < 0 ∨ I3 v
 | _ => False
theorem ZsT {x y : PD} (hx : Zjq x) (hy : Zjq y) : ZO n (.tuple [.str Zfr, .int 7, .int 7, x, y]) := by
 cases x with
 | int u => cases y with
  | int v => exact fun X h0 => ZsJ X hx hy h0
  | _ => exact hy.elim
 | _ => exact hx.elim
noncomputable def Zjr (P : Str → Prop) : PD → Prop
 | .str x => P x
 | _ => False
theorem Ztv {x : PD} (hx : Zjr (fun x => x = w_X ∨ x = w_Y ∨ x = w_Z) x) : ZO n (.tuple [.str ZZ, .int 6, x]) := by
 cases x with
 | str x => exact Zrz hx
 | _ => exact hx.elim
theorem ZsU {x : PD} (hx : Zjr (fun x => x = w_C ∨ x = w_P) x) : ZO n (.tuple [.str ZZ, .int 7, x]) := by
 cases x with
 | str x => exact ZpH hx
 | _ => exact hx.elim
theorem ZkW (hR : ZcT (Zg m) L) : ∀ w, 8 ≤ w → w < 14 → MK (Zg (m + 1)) 44 L n [] w := by
 refine ew (hi := 13) (fun h hk => ?_) (ew (hi := 12) (fun h hk => ?_) (ew (hi := 11) (fun h hk => ?_) (ew (hi := 10) (fun h hk => ?_) (ew (hi := 9) (fun h hk => ?_) (ew (hi := 8) (fun h hk => ?_) ez)))))
 all_goals refine hR h (many := 3) (by decide) fun x o1 hx h => hR h (many := 4) (by decide) fun y o2 hy h => ?_
 ·exact mD (fun z => hk _ _ (fun X h0 => Zpr X (i3 hx) h0) h.le) fun z => hk _ _ (fun X h0 => ZmH X m34 h0) h.le
 ·exact mD (fun z => hk _ _ (fun X h0 => Zre X (i3 hx) h0) h.le) fun z => hk _ _ (fun X h0 => Zpt X m34 h0) h.le
 ·exact hk _ _ (ZmK (i3 hx) m67) h.le
 ·obtain ⟨u, q1, h1⟩ := at4 (P := Zjq) (A := .int (-1)) (B := .int 0) (C := .int 1) (D := .int 2) hy (.inl (by decide)) (.inr (i3 ⟨by decide, by decide⟩)) (.inr (i3 ⟨by decide, by decide⟩)) (.inr (i3 ⟨by decide, by decide⟩))
  obtain ⟨v, q2, h2⟩ := at3 (P := Zjq) (A := .int (-1)) (B := .int 2) (C := .int 0) hx (.inl (by decide)) (.inr (i3 ⟨by decide, by decide⟩)) (.inr (i3 ⟨by decide, by decide⟩))
  exact mO (ZaC q1) (mO (ZaC q2) (hk _ _ (ZsT h1 h2) h.le))
 ·exact mD (fun z => mD (fun z => hk _ _ (fun X h0 => Zpk X (i3 hx) h0) h.le) fun z => hk _ _ (fun X h0 => Zpm X (i3 hx) h0) h.le) fun z => hk _ _ (fun X h0 => Zpl X (i3 (Zc9 (by decide))) h0) h.le
 ·obtain ⟨u, q1, h1⟩ := at4 (P := Zjr (fun x => x = w_X ∨ x = w_Y ∨ x = w_Z)) (A := .str w_X) (B := .str w_Y) (C := .str w_X) (D := .str w_Z) hy (.inl rfl) (.inr (.inl rfl)) (.inl rfl) (.inr (.inr rfl))
  obtain ⟨v, q2, h2⟩ := at4 (P := Zjr (fun x => x = w_C ∨ x = w_P)) (A := .str w_C) (B := .str w_C) (C := .str w_P) (D := .str w_C) hy (.inl rfl) (.inl rfl) (.inr rfl) (.inl rfl)
  exact mD (fun z => mO (ZaC q1) (hk _ _ (Ztv h1) h.le)) fun z => mO (ZaC q2) (hk _ _ (ZsU h2) h.le)
theorem ZkX {co : Int} (hn : n = 11 + co) (hG : Zrx (Zg m) L co) (hR : ZcT (Zg m) L) : ∀ w, 14 ≤ w → w < 21 → MK (Zg (m + 1)) 45 L n [.d (.int co)] w := by
 subst hn
 refine ew (hi := 20) (fun h hk => ?_) (ew (hi := 19) (fun h hk => ?_) (ew (hi := 18) (fun h hk => ?_) (ew (hi := 17) (fun h hk => ?_) (ew (hi := 16) (fun h hk => ?_) (ew (hi := 15) (fun h hk => ?_) (ew (hi := 14) (fun h hk => ?_) ez))))))
 ·refine hR h (many := 3) (by decide) fun x o1 hx h => hR h (many := 6) (by decide) fun y o2 hy h => ?_
  by_cases q : y < 4
  ·exact e4 ⟨hy.1, q⟩ (hk _ _ (fun X h0 => ZsM X h0) h.le) (hk _ _ (fun X h0 => ZpC X h0) h.le) (hk _ _ (fun X h0 => ZsN X (i3 hx) h0) h.le) (hk _ _ (fun X h0 => Zrq X h0) h.le)
  ·by_cases z : y = 4
   ·subst z; exact hk _ _ (fun X h0 => Zrr X h0) h.le
   ·have z : y = 5 := Int.le_antisymm (Int.le_of_lt_add_one hy.2) (Int.lt_iff_le_and_ne.mpr ⟨Int.not_lt.mp q, Ne.symm z⟩)
    subst z; exact hk _ _ (fun X h0 => ZsO X h0) h.le
 ·exact hG h fun v o hv h => hk _ _ (fun X h0 => Zrp X hv h0) h.le
 ·exact hR h (many := 3) (by decide) fun x o1 hx h => hG h fun u o hu h => hG h fun v o hv h => hG h fun w o hw h => hk _ _ (fun X h0 => Zro X (i3 hx) hu hv hw h0) h.le
 ·refine hR h (many := 3) (by decide) fun x o1 hx h => hR h (many := 4) (by decide) fun y o2 hy h => e4 hy ?_ ?_ ?_ ?_
  ·exact hk _ _ (fun X h0 => Zcv X (i3 hx) (gs := []) (by decide) (fun j h => nomatch h) h0) h.le
  ·exact hG h fun u o hu h => hk _ _ (fun X h0 => Zcv X (i3 hx) (gs := [.int u]) (Nat.le_of_ble_eq_true rfl) (List.forall_mem_cons.mpr ⟨⟨_, rfl, hu⟩, fun j h => nomatch h⟩) h0) h.le
  ·exact hG h fun u o hu h => hG h fun v o hv h => hk _ _ (fun X h0 => Zcv X (i3 hx) (gs := [.int u, .int v]) (Nat.le_of_ble_eq_true rfl) (List.forall_mem_cons.mpr ⟨⟨_, rfl, hu⟩, List.forall_mem_cons.mpr ⟨⟨_, rfl, hv⟩, fun j h => nomatch h⟩⟩) h0) h.le
  ·exact hG h fun u o hu h => hG h fun v o hv h => hG h fun w o hw h => hk _ _ (fun X h0 => Zcv X (i3 hx) (gs := [.int u, .int v, .int w]) (Nat.le_of_ble_eq_true rfl) (List.forall_mem_cons.mpr ⟨⟨_, rfl, hu⟩, List.forall_mem_cons.mpr ⟨⟨_, rfl, hv⟩, List.forall_mem_cons.mpr ⟨⟨_, rfl, hw⟩, fun j h => nomatch h⟩⟩⟩) h0) h.le
 ·exact hR h (many := 2) (by decide) fun x o1 hx h => e2 hx (hG h fun u o hu h => hk _ _ (fun X h0 => Zrn X hu h0) h.le) (hG h fun u o hu h => hk _ _ (fun X h0 => ZpB X hu h0) h.le)
 ·exact hR h (many := 2) (by decide) fun x o1 hx h => e2 hx (hG h fun u o hu h => hk _ _ (fun X h0 => Zie X hu (.inl rfl) h0) h.le) (hG h fun u o hu h => hG h fun v o hv h => hk _ _ (fun X h0 => Zie X hu (.inr ⟨v, hv, rfl⟩) h0) h.le)
 ·exact hR h (many := 3) (by decide) fun x o1 hx h => e3 hx (hk _ _ (fun X h0 => Zcu X (.inl rfl) h0) h.le) (hk _ _ (fun X h0 => Zcu X (.inr (.inl rfl)) h0) h.le) (hk _ _ (fun X h0 => Zcu X (.inr (.inr rfl)) h0) h.le)
end
noncomputable def bR : CB := Zjn Zdb
theorem Zev (hf : Zc (fd.length + 1) = true) (h : st[l]? = some (.list fd)) (ho : ov = .loc l := by exact rfl) (ha : u = 14 := by exact rfl) (has : as = [.d x] := by exact rfl) : ZC ov u as st = .ok (.d .none) (st.set l (.list (fd ++ [x]))) := by
 subst ho ha has
 show (if 14 = 14 then (match st[l]? with
  | some (.list xs) => if Zc (xs.length + 1) then RV.ok (MV.d PyData.none) (st.set l (.list (xs ++ [x]))) else .no
  | _ => .no) else .no) = _
 rw [if_pos rfl, h]
 exact if_pos hf
section
variable {C : ZD} {L : List PD} {n co : Int}
structure Mks (C : ZD) (L : List PD) (n co : Int) : Prop where
 r : ZcT C L
 a : ∀ w, 0 ≤ w → w < 8 → MK C 43 L n [] w
 b : ∀ w, 8 ≤ w → w < 14 → MK C 44 L n [] w
 c : ∀ w, 14 ≤ w → w < 21 → MK C 45 L n [.d (.int co)] w
theorem ZpI (M : Mks C L n co) (hF : Fl L (j + 11) fo) (hf : Zc (fd.length + 1) = true)
 (hk : ∀ row fo' o4, ZO n row → Fl L j fo' → kk [some (.loc 0), some (.d (.int co)), some (.loc 1), o3, o4] [fo', .list (fd ++ [row])]) :
 ZX C bR X [some (.loc 0), some (.d (.int co)), some (.loc 1), o3, o4] [fo, .list fd] kk :=
 M.r hF (many := 21) (by decide) fun w o hw h => mD
  (fun c1 => M.a w hw.1 c1 h fun row fo' hr h => mR (Zev (l := 1) (x := row) hf rfl) (hk row fo' _ hr h))
  fun c1 => mD (fun c2 => M.b w (Int.not_lt.mp c1) c2 h fun row fo' hr h => mR (Zev (l := 1) (x := row) hf rfl) (hk row fo' _ hr h))
   fun c2 => M.c w (Int.not_lt.mp c2) hw.2 h fun row fo' hr h => mR (Zev (l := 1) (x := row) hf rfl) (hk row fo' _ hr h)
theorem ZmL (M : Mks C L n co) :
 ∀ (xs : List PD) {j fo fd o3 o4 kk}, Fl L (j + 11 * xs.length) fo → fd.length + xs.length ≤ 100 → (∀ row ∈ fd, ZO n row) →
 (∀ fd' fo' o3 o4, fd'.length = fd.length + xs.length → (∀ row ∈ fd', ZO n row) → Fl L j fo' → kk [some (.loc 0), some (.d (.int co)), some (.loc 1), o3, o4] [fo', .list fd']) →
 Zcs (.nm 3 p) (fun ρ st k => ZX C bR X ρ st k) xs [some (.loc 0), some (.d (.int co)), some (.loc 1), o3, o4] [fo, .list fd] kk := by
 intro xs
 induction xs with
 | nil => exact fun hF y hfd hk => hk _ _ _ _ rfl hfd hF
 | cons x xs ih =>
  intro j fo fd o3 o4 kk hF h2 hfd hk
  refine ZpI (o3 := some (.d x)) (j := j + 11 * xs.length) M hF (Zs (Nat.le_trans (Nat.add_le_add_left (Nat.succ_le_succ (Nat.zero_le xs.length)) _) (Nat.le_trans h2 (by decide)))) (fun row fo' o4 hrow h => ?_)
  have e : (fd ++ [row]).length + xs.length = fd.length + (x :: xs).length := by rw [List.length_append, Nat.add_assoc]; exact congrArg (fd.length + ·) (Nat.add_comm 1 _)
  have ha : ∀ r ∈ fd ++ [row], ZO n r := by
   intro r hr
   rcases lA9.mp hr with q | q
   ·exact hfd r q
   ·rw [lS9.mp q]; exact hrow
  exact ih h (e ▸ h2) ha fun fd' fo'' o3 o4 hl ha hF => hk fd' fo'' o3 o4 (hl.trans e) ha hF
end
noncomputable def Rows (C : ZD) (L : List PD) : Prop := ∀ (k : QV) (kx : QR), (∀ (fd : List PD) (fo : MO), fd.length ≤ 14 → (∀ row ∈ fd, ZO ((Zk ++ fd).length : Int) row) → Fl L 1 fo → k (.d (.list (Zk ++ fd))) [fo, .list fd]) →
 C 46 [.loc 0] [film L 0] k kx
theorem ZmM (hl : fd.length ≤ 14) : ZE .Add (.list Zk) (.list fd) = some (.list (Zk ++ fd)) := by
 rw [ZpT]; exact if_pos (Zs (Nat.le_trans (Nat.add_le_add_left hl 11) (by decide)))
theorem ZpJ {m : Nat} (hR : ZcT (Zg m) L) (hM : ∀ co, 0 ≤ co → Mks (Zg m) L (11 + co) co) : Rows (Zg (m + 1)) L := by
 intro k kx hk
 refine hR (j := 400) (many := 14) ⟨0, rfl, Int.le_refl 0, by decide⟩ (by decide) fun r fo hr h => ?_
 obtain ⟨c, e⟩ := Int.eq_ofNat_of_zero_le (Int.le_trans hr.1 (Int.le_add_of_nonneg_left (by decide) : r ≤ 1 + r))
 have c14 : c ≤ 14 := Int.ofNat_le.mp (e ▸ (Int.add_le_add_left (Int.le_of_lt_add_one hr.2 : r ≤ 13) 1 : 1 + r ≤ 14))
 have hc : (decide (0 ≤ 1 + r) && Zc (1 + r).toNat) = true := by rw [e]; exact Bool.and_eq_true_iff.mpr ⟨decide_eq_true (Int.natCast_nonneg c), Zs (Nat.le_trans c14 (by decide))⟩
 refine mT hc ?_
 have hl : ((List.range (1 + r).toNat).map fun j : Nat => PyData.int (j : Int)).length = c := by rw [List.length_map, List.length_range, e]; rfl
 refine ZmL (j := 1) (fd := []) (hM (1 + r) (e ▸ Int.natCast_nonneg c)) _ ?_ ?_ (fun y h => nomatch h) ?_
 ·have hd := Nat.add_sub_of_le (Nat.le_trans (Nat.add_le_add_left (Nat.mul_le_mul_left 11 c14) 1) (by decide) : 1 + 11 * c ≤ 400)
  rw [← hd] at h
  rw [hl]; exact h.le
 ·rw [hl]; exact Nat.le_trans (Nat.le_of_eq (Nat.zero_add c)) (Nat.le_trans c14 (by decide))
 ·intro fd fo' o3 o4 hlen hall hF
  rw [hl] at hlen
  have hlen : fd.length = c := hlen.trans (Nat.zero_add c)
  have hn : ((Zk ++ fd).length : Int) = 11 + (1 + r) := by
   rw [List.length_append, hlen, e]; rfl
  exact mO (Za6 (ZmM (hlen ▸ c14))) (hk fd fo' (hlen ▸ c14) (by rw [hn]; exact hall) hF)
section
noncomputable def say : Out → PD
 | .nx _ => .str Zjd
 | o => ZqZ o
noncomputable def ZrA (st : St) : Out → RV MV → Prop
 | .done v, r => r = .ok (.d v) st
 | .stop x, r => r = .ex 2 [(16, .str x)] st
 | .run, r => ∃ fs, r = .ex 1 fs st
 | .long, r => ∃ fs, r = .ex 4 fs st
 | _, r => ∃ fs, r = .ex 3 fs st
noncomputable def Zjs (r : RX) : RV MV := match r with
 | .rt v st => .ok v st
 | .nx _ st => .ok (.d .none) st
 | .ex c fs _ st => .ex c fs st
 | .no => .no
variable {mo : Int} {ro : List PD} {R N S R' N' S' : List PD} {s' : Int} {o : Out} {f g : MO} {oth : Ot}
theorem ZhA (h : WM mo ro 100 0 R N S 0 o R' N' S' s') : ZrA (mkS f g oth ⟨R', N', S', s'⟩ mo ro) o (Zi 10 5 [.loc 10, .loc 12, .d (.int 0)] (mkS f g oth ⟨R, N, S, 0⟩ mo ro)) := by
 have h := h f g oth none none
 have ec : Zi 10 5 [.loc 10, .loc 12, .d (.int 0)] (mkS f g oth ⟨R, N, S, 0⟩ mo ro) = Zjs ((whl (evT (Zi 9) tM) (exs (Zi 9) bM) 100 (ρM 0 ro none none) (mkS f g oth ⟨R, N, S, 0⟩ mo ro)).bind fun ρ st => exs (Zi 9) (ZbR 3 Zbl) ρ st) := rfl
 rw [ec]
 generalize whl (evT (Zi 9) tM) (exs (Zi 9) bM) 100 (ρM 0 ro none none) (mkS f g oth ⟨R, N, S, 0⟩ mo ro) = r at h ⊢
 cases o with
 | nx q => obtain ⟨p1, p2, rfl⟩ := h; exact ⟨_, rfl⟩
 | done v => cases h; rfl
 | stop x => obtain ⟨ρ, rfl⟩ := h; rfl
 | _ => obtain ⟨fs, ρ, rfl⟩ := h; exact ⟨fs, rfl⟩
theorem ZrB (h : WO mo ro 100 0 R N S 0 o R' N' S' s') : Zi 11 53 [.loc 5, .d (.list ro), .d (.int mo)] (mkS f g ⟨R, N, S, 0⟩ oth mo ro) = .ok (.d (say o)) (mkS f g ⟨R', N', S', s'⟩ oth mo ro) := by
 have h := h f g oth none
 have ec : Zi 11 53 [.loc 5, .d (.list ro), .d (.int mo)] (mkS f g ⟨R, N, S, 0⟩ oth mo ro) = Zjs ((whl (evT (Zi 10) tO) (exs (Zi 10) bO) 100 (ρO 0 mo ro none) (mkS f g ⟨R, N, S, 0⟩ oth mo ro)).bind fun ρ st => exs (Zi 10) (ZbR 2 Zbm) ρ st) := rfl
 rw [ec]
 generalize whl (evT (Zi 10) tO) (exs (Zi 10) bO) 100 (ρO 0 mo ro none) (mkS f g ⟨R, N, S, 0⟩ oth mo ro) = r at h ⊢
 cases o with
 | nx q => obtain ⟨p3, rfl⟩ := h; rfl
 | _ => cases h; rfl
theorem ZkY (hC : ∀ k kx, C 5 [.loc 10, .loc 12, .d (.int 0)] st k kx = fin r kx k) (h : ZrA st' o r) {F : RX → Prop} (hF : F (.rt (.d (say o)) st')) :
 ZX C Zcz ⟨fun v st => F (.rt v st), fun c fs ρ st => F (.ex c fs ρ st)⟩ [some (.loc 10), some (.loc 12), none] st fun ρ st => F (.nx ρ st) := by
 refine Eq.mpr (hC _ _) ?_
 cases o with
 | done v => cases h; exact hF
 | stop x => cases h; exact hF
 | _ => obtain ⟨fs, rfl⟩ := h; exact hF
theorem ZmN (h : WM mo ro 100 0 R N S 0 o R' N' S' s') : Zi 11 55 [.loc 10, .loc 12] (mkS f g oth ⟨R, N, S, 0⟩ mo ro) = .ok (.d (say o)) (mkS f g oth ⟨R', N', S', s'⟩ mo ro) := by
 have hr := ZhA (f := f) (g := g) (oth := oth) h
 have := Zb1 (n := 10) (F := fun r => r = .rt (.d (say o)) (mkS f g oth ⟨R', N', S', s'⟩ mo ro)) (ZkY (C := Zg 10) (F := fun r => r = .rt (.d (say o)) (mkS f g oth ⟨R', N', S', s'⟩ mo ro)) (fun k kx => ZaO 10 _ _ _ _ _) hr rfl)
 exact congrArg Zjs this
end
mutual
theorem ZgV : ∀ d : PD, d.canLay0 = true → PyData.eqv d d = true
 | .none, _ => rfl
 | .bool x, _ => (BEq.rfl : (x == x) = true)
 | .int x, _ => (BEq.rfl : (x == x) = true)
 | .str x, _ => (BEq.rfl : (x == x) = true)
 | .list xs, h => Zb2 xs h
 | .tuple xs, h => Zb2 xs h
 | .dict _, h => nomatch h
theorem Zb2 : ∀ xs : List PD, PyData.canLayAll0 xs = true → PyData.eqvAll xs xs = true
 | [], _ => rfl
 | x :: r, h => Bool.and_eq_true_iff.mpr ⟨ZgV x (Bool.and_eq_true_iff.mp h).1, Zb2 r (Bool.and_eq_true_iff.mp h).2⟩
end
theorem ZgW (h : shp d = true) : eqD d d = some true := by
 have e : (if (shp d && shp d) = true then some (PyData.eqv d d) else none) = some true := (if_pos (Bool.and_eq_true_iff.mpr ⟨h, h⟩)).trans (congrArg some (ZgV d (Bool.and_eq_true_iff.mp h).1))
 cases d with
 | int x => exact congrArg some BEq.rfl
 | str x => exact congrArg some BEq.rfl
 | _ => exact e
noncomputable def Lay (k : Nat) (xs : List PD) : Prop := PyData.canLayAll0 xs = true ∧ PyData.depthAll xs ≤ k
theorem Lay.cons (h : x.canLay0 = true) (d : x.depth ≤ k) (r : Lay k xs) : Lay k (x :: xs) := ⟨Bool.and_eq_true_iff.mpr ⟨h, r.1⟩, Nat.max_le.mpr ⟨d, r.2⟩⟩
theorem Lay.nil : Lay k [] := ⟨rfl, Nat.zero_le k⟩
theorem Lay.list (h : Lay 15 xs) : shp (.list xs) = true := Bool.and_eq_true_iff.mpr ⟨h.1, decide_eq_true (Nat.succ_le_succ h.2)⟩
theorem Lay.tup (h : Lay 15 xs) : shp (.tuple xs) = true := Lay.list h
theorem ZmO (h : Inv a s) : shp (.list a.regs) = true :=
 Lay.list (.cons rfl (Nat.zero_le _) (.cons rfl (Nat.zero_le _) (.cons rfl (Nat.zero_le _) (.cons (Asc.ok h.c3) (Nat.zero_le _) (.cons (Asc.ok h.c4) (Nat.zero_le _) (.cons rfl (Nat.zero_le _) (.cons rfl (Nat.le_of_ble_eq_true rfl) (.cons rfl (Nat.le_of_ble_eq_true rfl) (.cons rfl (Nat.le_of_ble_eq_true rfl) (.cons rfl (Nat.le_of_ble_eq_true rfl) (.cons rfl (Nat.le_of_ble_eq_true rfl) .nil)))))))))))
theorem ZgX (v : Option Int) : ∀ l : List (Option Int), Lay 15 (l.map cN ++ [cQ v])
 | [] => by cases v <;> exact .cons rfl (Nat.le_of_ble_eq_true rfl) .nil
 | o :: r => by cases o <;> exact .cons rfl (Nat.le_of_ble_eq_true rfl) (ZgX v r)
theorem ZpK (h : Inv a s) : shp (.list a.sgs) = true :=
 have l := ZkS a.sg h.sc
 Lay.list ⟨l.1, Nat.le_trans (Nat.le_of_eq l.2) (Nat.zero_le 15)⟩
theorem Zda (h : Asc x) : shp (.str x) = true := Bool.and_eq_true_iff.mpr ⟨Asc.ok h, rfl⟩
theorem ZpL (h : Zct o) : shp (say o) = true := by
 have a : Asc Znh ∧ Asc Zni ∧ Asc Zjc ∧ Asc Zjd ∧ Asc Znj := by unfold Asc; decide
 obtain ⟨a1, a2, a3, a4, a5⟩ := a
 cases o with
 | nx q => exact Zda a4
 | run => exact Zda a3
 | code => exact Zda a4
 | long => exact Zda a5
 | done v =>
  obtain ⟨i, rfl⟩ := h
  exact Lay.tup (.cons (Asc.ok a1) (Nat.zero_le _) (.cons rfl (Nat.zero_le _) .nil))
 | stop x => exact Lay.tup (.cons (Asc.ok a2) (Nat.zero_le _) (.cons (Asc.ok h) (Nat.zero_le _) .nil))
theorem ZkZ (h : shp x = true) (ha : asD st a = some x := by exact rfl) (hb : asD st b = some x := by exact rfl) : Zt .NotEq st a b = some false := by
 show ((asD st a).bind fun x => (asD st b).bind fun y => eqD x y).map not = _
 rw [ha, Option.bind_some, hb, Option.bind_some, ZgW h]; rfl
theorem Zk0 (h : shp x = true) (ha : asD st a = some x := by exact rfl) (hb : asD st b = some x := by exact rfl) : Zt .Eq st a b = some true := by
 show ((asD st a).bind fun x => (asD st b).bind fun y => eqD x y) = _
 rw [ha, Option.bind_some, hb, Option.bind_some, ZgW h]
noncomputable def ZrC (f g : MO) : St := f :: g :: mkO R0 a0.nums a0.sgs 0
noncomputable def m11 (f g : MO) (mo : Int) : St := f :: g :: (mkO R0 a0.nums a0.sgs 0 ++ [.inst 9 [(13, .loc 7), (15, .loc 8)], .list a0.nums, .list a0.sgs,
 .inst 8 [(0, .d (.int 32)), (38, .d (.int 7)), (37, .d (.int 15)), (36, .d (.int 38)), (2, .d (.int mo)), (35, .d (.int 19)), (34, .d (.int 72)), (33, .d (.int 40))],
 .inst 5 [(10, .loc 6), (3, .loc 9), (28, .dic []), (27, .dic []), (1, .dic Zb0), (7, .dic ZqY), (26, .dic []), (25, .fn 57), (24, .d .none), (23, .d .none), (22, .dic []), (21, .dic []), (20, .dic []), (19, .dic []), (18, .d (.list [])), (17, .d (.list [])), (2, .d (.int 0))]])
theorem ZpM (f g : MO) (mo : Int) : Zi 11 54 [.loc 5, .d (.int mo)] (ZrC f g) = .ok (.loc 10) (m11 f g mo) := by
 kernel_rfl!
noncomputable def Zk1 (ro : List PD) : MO := .inst 7 [(1, .d (.list ro)), (6, .d (.int 11)), (32, .dic []), (31, .dic [])]
structure Kit (C : ZD) (L : List PD) : Prop where
 reel : ZcT C L
 ro : Rows C L
 mach : ∀ {f g : MO} {mo : Int} {k : QV} {kx : QR}, k (.loc 10) (m11 f g mo) → C 54 [.loc 5, .d (.int mo)] (ZrC f g) k kx
 code : ∀ {f g : MO} {mo : Int} {ro : List PD} {k : QV} {kx : QR}, k (.d .none) (m11 f g mo ++ [Zk1 ro]) → C 60 [.loc 11, .d (.list ro), .d (.int 11), .dic [], .dic []] (m11 f g mo ++ [.inst 7 []]) k kx
 call : ∀ {f g : MO} {mo : Int} {ro : List PD} {k : QV} {kx : QR}, k (.d .none) (mkS f g ⟨R0, a0.nums, a0.sgs, 0⟩ ⟨R0, a0.nums, a0.sgs, 0⟩ mo ro) → C 59 [.loc 12, .loc 11, .dic Zcb] (m11 f g mo ++ [Zk1 ro] ++ [.inst 6 []]) k kx
 run : ∀ {fd : List PD} {mo : Int}, fd.length ≤ 14 → (∀ row ∈ fd, ZO ((Zk ++ fd).length : Int) row) → 11 ≤ mo ∧ mo ≤ 70 → ∃ (o : Out) (a' : AS) (s' : Int), Inv a' s' ∧ Zct o ∧
  (∀ {f g : MO} {oth : Ot} {k : QV} {kx : QR}, k (.d (say o)) (mkS f g oth (Ot.of a' s') mo (Zk ++ fd)) → C 55 [.loc 10, .loc 12] (mkS f g oth ⟨R0, a0.nums, a0.sgs, 0⟩ mo (Zk ++ fd)) k kx) ∧
  (∀ {f g : MO} {oth : Ot} {k : QV} {kx : QR}, k (.d (say o)) (mkS f g (Ot.of a' s') oth mo (Zk ++ fd)) → C 53 [.loc 5, .d (.list (Zk ++ fd)), .d (.int mo)] (mkS f g ⟨R0, a0.nums, a0.sgs, 0⟩ oth mo (Zk ++ fd)) k kx)
theorem ZpN (h : Inv a s) (ho : Zct o)
 (hC : ∀ {k : QV} {kx : QR}, k (.d (say o)) (mkS f g (Ot.of a s) (Ot.of a s) mo ro) → C 53 [.loc 5, .d (.list ro), .d (.int mo)] (mkS f g ⟨R0, a0.nums, a0.sgs, 0⟩ (Ot.of a s) mo ro) k kx)
 (hX : ∀ st, X.rt (.d (.bool true)) st) :
 ZX C (ZbR 7 Zfd) X [ρ0, some (.loc 0), some (.d (.list ro)), some (.d (.int mo)), some (.loc 5), some (.loc 10), some (.loc 12), some (.d (say o))] (mkS f g ⟨R0, a0.nums, a0.sgs, 0⟩ (Ot.of a s) mo ro) kk :=
 hC (mO (ZkZ (ZpL ho)) (mO (ZkZ (ZmO h)) (mF (congrArg not (BEq.rfl : ((Ot.of a s).s == (Ot.of a s).s) = true)) (mO (Zk0 (Lay.list (ZgX a.q5 a.nn))) (mO (Zk0 (ZpK h)) (hX _))))))
theorem ZrD (st : St) : Zaf .list st [.d (.str ⟨#[97, 98, 99, 100, 101]⟩)] = some (.d (.list [.str ⟨#[97]⟩, .str ⟨#[98]⟩, .str ⟨#[99]⟩, .str ⟨#[100]⟩, .str ⟨#[101]⟩])) := by
 kernel_rfl!
theorem ZpO (K : Kit C L) (hl : fd.length ≤ 14) (hok : ∀ row ∈ fd, ZO ((Zk ++ fd).length : Int) row) (h1 : 11 ≤ mo ∧ mo ≤ 70)
 (hX : ∀ st, X.rt (.d (.bool true)) st) :
 ZX C (ZbR 3 Zfd) X [ρ0, some (.loc 0), some (.d (.list (Zk ++ fd))), some (.d (.int mo)), none, none, none, none] [fo, .list fd] kk := by
 obtain ⟨o, a, s, hi, ho, hM, hO⟩ := K.run hl hok h1
 generalize Zk ++ fd = ro at *
 refine mO (Zid ZrD) ?_
 refine K.mach (f := fo) (g := .list fd) (mo := mo) ?_
 refine K.code (f := fo) (g := .list fd) (mo := mo) (ro := ro) ?_
 refine K.call (f := fo) (g := .list fd) (mo := mo) (ro := ro) ?_
 refine hM (f := fo) (g := .list fd) (oth := ⟨R0, a0.nums, a0.sgs, 0⟩) ?_
 exact ZpN hi ho hO hX
theorem ZpP (K : Kit C L) (hL : ∀ st, ZY st (.d (.list xs)) none (some (.d (.int 70))) = some (.list L)) (hX : ∀ st, X.rt (.d (.bool true)) st) :
 ZX C Zfd X [some (.d (.list xs)), none, none, none, none, none, none, none] [] kk := by
 refine mO (ZcS hL) ?_
 refine K.ro _ _ fun fd fo hl hok hF => ?_
 refine K.reel (j := 0) (many := 3) hF (by decide) fun r fo hr h => ?_
 have : ∃ v, Za [.int 70, .int 24, .int 15] r = some (.int v) ∧ 11 ≤ v ∧ v ≤ 70 := e3 (P := fun r => ∃ v, Za [.int 70, .int 24, .int 15] r = some (.int v) ∧ 11 ≤ v ∧ v ≤ 70) hr ⟨70, rfl, by decide, by decide⟩ ⟨24, rfl, by decide, by decide⟩ ⟨15, rfl, by decide, by decide⟩
 obtain ⟨v, e, b⟩ := this
 exact mO (ZaC e) (ZpO K hl hok b hX)
theorem ZrE (hL : ZgS L) (hn : L.length ≤ 70) (co : Int) (hc : 0 ≤ co) : Mks (Zg 10) L (11 + co) co :=
 ⟨Za8 8 hL hn, ZmJ (m := 9) (Za8 7 hL hn), ZkW (m := 9) (Za8 7 hL hn), ZkX (m := 9) rfl (ZpF (m := 8) hc (Za8 6 hL hn)) (Za8 7 hL hn)⟩
theorem ZrF (hL : ZgS L) (hn : L.length ≤ 70) : Kit (Zg 11) L where
 reel := Za8 9 hL hn
 ro := ZpJ (m := 10) (Za8 8 hL hn) (ZrE hL hn)
 mach := fun h => by rw [ZaO 11, ZpM]; exact h
 code := fun h => h
 call := fun h => h
 run := by
  intro fd mo hl hok h1
  obtain ⟨o, a', s', hi, hk, hM, hO⟩ := Zrv (mo := mo) (found := fd) rfl hl h1.1 h1.2 hok
  exact ⟨o, a', s', hi, hk, fun h => by rw [ZaO 11, ZmN hM]; exact h, fun h => by rw [ZaO 11, ZrB hO]; exact h⟩
theorem law_true : ∀ ns : List Int, ns.length ≤ 63 → ∃ st, Zi 12 56 [.d (.list (ns.map .int))] [] = .ok (.d (.bool true)) st := by
 intro ns hn
 have hn : (ns.map PyData.int).length ≤ 63 := (List.length_map PyData.int).symm ▸ hn
 have hs : ∀ st, ZY st (.d (.list (ns.map .int))) none (some (.d (.int 70))) = some (.list ((ns.map PyData.int).take 70)) := fun st =>
  if_pos (Zs (Nat.le_trans hn (by decide)))
 rw [List.take_of_length_le (Nat.le_trans hn (by decide))] at hs
 exact ZmB (n := 12) (ZpP (C := Zg 11) (X := ⟨fun u y => u = .d (.bool true), fun c fs y st => noR c fs st⟩) (kk := fun y y => (MV.d .none) = .d (.bool true)) (ZrF (ZgT ns) (Nat.le_trans hn (by decide))) hs fun y => rfl)
end
end B
end Mine
theorem PySem.Challenge.cw_pf0130_01_holds : PySem.Challenge.rw_pf0130_01.Holds := by
 exact Mine.law_holds Mine.B.law_true
